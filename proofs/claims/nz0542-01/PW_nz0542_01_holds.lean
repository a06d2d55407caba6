import PyProof.Rows.All
import Wide.All
import OpenK.AllK
import Wide.FinOn
import KE.KLam
import PyProof.WalksMore
import KE.KNest
import KE.KNestM
import Lean
import PySem.Challenge.RW_nz0542_01
open PySem PySem.W PyProof.Rows
set_option Elab.async false
set_option maxRecDepth 100000
set_option linter.unusedVariables false
set_option linter.unusedSimpArgs false
namespace Mine
noncomputable section
abbrev qSegRunT:=@PySem.W.Fast.tw10110043849684766642
abbrev qTable:=@PySem.W.Fast.tw14364793385576792824
abbrev qExecs:=@PySem.W.Fast.tw12563942051412417395
abbrev qTopGo:=@PySem.W.Fast.tw15667345088766844465
abbrev P0:Program:=PySem.Challenge.pw_nz0542_01
abbrev L0:OpenLaw:=PySem.Challenge.rw_nz0542_01
def nost:Stmt:=.Pass ⟨0,0,0,0⟩
def Qad (i:Nat):Stmt:=(P0.main.body[i]?).getD nost
def methAt (i j:Nat):Stmt:=match Qad i with
 | .ClassDef _ _ _ b _ _ _ _ _ _ _=>(b[j]?).getD nost
 | _=>nost
def sName:Stmt->Str
 | .FunctionDef n _ _ _ _ _ _ _ _ _=>n
 | _=>Str.ofString ""
def sArgs:Stmt->Arguments
 | .FunctionDef _ a _ _ _ _ _ _ _ _=>a
 | _=>⟨[],[],none,[],[],none,[]⟩
def sBody:Stmt->List Stmt
 | .FunctionDef _ _ b _ _ _ _ _ _ _=>b
 | _=>[]
def sScope:Stmt->Scope
 | .FunctionDef _ _ _ _ _ _ sc _ _ _=>sc
 | _=>{kind:=.function,names:=[],isGenerator:=false,isCoroutine:=false,more:=[]}
def sPos:Stmt->Pos
 | .FunctionDef _ _ _ _ _ _ _ _ _ p=>p
 | _=>⟨0,0,0,0⟩
def fobj (st:Stmt) (qual:Str) (dV pm:Value) (c:Addr):Obj :=
 {cls:=.type "function",data:=.func {name:=sName st,qualname:=qual,params:=sArgs st,body:=.stmts (sBody st),scope:=sScope st,globals:=mainGlobals,closure:=[],defaults:=dV,kwdefaults:=.none,pyModule:=pm,code:=.ref c,builtins:=builtinsNs}}
abbrev kv0:Value:=.str "vectorcove.matcalls" 1411
abbrev kv1:Value:=.str "vectorcove.linear" 632
abbrev kv2:Value:=.str "law_nz0542_01" 1604
abbrev kv3:Value:=.str "vectorcove.matrix" 1129
abbrev kv4:Value:=.str "vectorcove.rational" 370
abbrev kv5:Value:=.str "vectorcove.callargs" 241
abbrev kv6:Value:=.str "vectorcove.values" 494
abbrev kv7:Value:=.str "vectorcove.coerce" 1002
abbrev kv8:Value:=.str "vectorcove.matparts" 1343
abbrev kv9:Value:=.str "vectorcove.lincalls" 1298
abbrev kv10:Value:=.str "vectorcove.attrs" 778
abbrev kv11:Value:=.str "vectorcove.matargs" 1267
abbrev SP:=Str.ofString
def co (n q:String) (i L k c r:Nat) (x y z:Value) (m:Nat):Obj:={cls:=Value.type "code",data:=Data.fields #[Value.str (Str.ofString n) i,Value.str (Str.ofString q) (i+1),Value.str (Str.ofString "/claim/cut.py") (i+2),Value.int L 0,Value.int k 0,Value.int 0 0,Value.int 0 0,Value.int c 0,Value.ref r,Value.bool true,Value.int 181 0,Value.ref (r+1),Value.none,x,y,z,Value.int m 0,Value.int L 0,Value.str (Str.ofString "/claim/cut.py") (m+1)]}
def de (P:Params) (s:String) (n:Nat) (v:Value):DictEntry:={hash:=PyData.keyHash P (Str.ofString s),key:=Value.str (Str.ofString s) n,val:=v}
def KX (P:Params):Frag:=[
 (3,{cls:=Value.type "dict",data:=Data.dict #[de P "__name__" 165 (.str (SP "law_nz0542_01") 1604),de P "__doc__" 166 .none,de P "__package__" 167 .none,de P "__loader__" 168 (.builtin "__main__.__loader__#opaque"),de P "__spec__" 169 .none,de P "__annotations__" 170 (.ref 6),de P "__builtins__" 171 (.ref 4),de P "__file__" 173 (.str (SP "/claim/cut.py") 172),de P "__cached__" 174 .none,de P "_wall" 193 (.ref 21),de P "CoveError" 215 (.ref 31),de P "Refusal" 240 (.ref 51),de P "Matching" 325 (.ref 110),de P "doubled_text" 332 (.ref 121),de P "argument_text" 343 (.ref 128),de P "unused_text" 349 (.ref 133),de P "match_names" 355 (.ref 139),de P "needed" 363 (.ref 146),de P "take" 369 (.ref 152),de P "NAN" 374 (.ref 153),de P "INF" 377 (.ref 154),de P "ZERO_rational" 380 (.ref 155),de P "gcd" 388 (.ref 162),de P "make" 397 (.ref 169),de P "from_int" 404 (.ref 176),de P "is_na" 411 (.ref 183),de P "is_finite" 418 (.ref 190),de P "marked" 426 (.ref 197),de P "neg" 433 (.ref 204),de P "add" 441 (.ref 211),de P "sub" 449 (.ref 218),de P "mul" 457 (.ref 225),de P "div" 465 (.ref 232),de P "to_whole" 473 (.ref 239),de P "nearest_whole" 483 (.ref 246),de P "exponent" 493 (.ref 253),de P "MOST_LENGTH" 497 (.int 1000000 496),de P "Null" 526 (.ref 270),de P "Vector" 568 (.ref 299),de P "room" 575 (.ref 310),de P "null" 581 (.ref 317),de P "integer" 588 (.ref 324),de P "character" 595 (.ref 331),de P "whole" 602 (.ref 338),de P "length" 610 (.ref 345),de P "is_vector" 617 (.ref 352),de P "is_atomic" 624 (.ref 359),de P "share" 631 (.ref 366),de P "ZERO_linear" 636 (.ref 367),de P "ONE" 639 (.ref 368),de P "identity_rows" 649 (.ref 375),de P "copied" 655 (.ref 380),de P "scaled" 661 (.ref 510),de P "scaled_linear" 662 (.ref 385),de P "less_multiple" 673 (.ref 392),de P "first_filled" 683 (.ref 399),de P "clear_column" 693 (.ref 406),de P "row_echelon" 706 (.ref 413),de P "check_square" 714 (.ref 420),de P "first_dependent" 723 (.ref 427),de P "solve_rows" 729 (.ref 432),de P "inverse" 736 (.ref 439),de P "greatest_divisor" 744 (.ref 446),de P "whole_row" 750 (.ref 451),de P "whole_determinant" 765 (.ref 458),de P "determinant" 777 (.ref 465),de P "get_attr" 787 (.ref 472),de P "names_of" 793 (.ref 477),de P "dim_of" 801 (.ref 484),de P "dimnames_of" 807 (.ref 489),de P "MOST_EXPONENT" 811 (.int 4096 810),de P "whole_text" 821 (.ref 496),de P "special_text" 828 (.ref 503),de P "scaled_numtext" 839 (.ref 510),de P "significant" 849 (.ref 517),de P "without_tail" 857 (.ref 524),de P "scientific_text" 869 (.ref 531),de P "fixed_text" 879 (.ref 538),de P "measures" 892 (.ref 545),de P "chosen_form" 909 (.ref 552),de P "formed" 918 (.ref 559),de P "common_texts" 924 (.ref 564),de P "number_text" 933 (.ref 572),de P "digits_value" 943 (.ref 579),de P "digit_run" 952 (.ref 586),de P "exponent_value" 961 (.ref 593),de P "powered" 970 (.ref 600),de P "unsigned_number" 989 (.ref 607),de P "parse_number" 1001 (.ref 614),de P "MOST_INTEGER" 1005 (.int 2147483647 1004),de P "note" 1013 (.ref 621),de P "as_logical_text" 1020 (.ref 628),de P "double_to_integer" 1029 (.ref 635),de P "text_to_double" 1039 (.ref 642),de P "to_logical" 1047 (.ref 649),de P "to_integer" 1056 (.ref 656),de P "to_double" 1065 (.ref 663),de P "to_text" 1073 (.ref 670),de P "item_as" 1083 (.ref 677),de P "is_atomic_kind" 1090 (.ref 684),de P "list_item_as" 1100 (.ref 691),de P "refuse_type" 1108 (.ref 698),de P "as_vector_kind" 1114 (.ref 703),de P "with_names" 1122 (.ref 710),de P "as_kind" 1128 (.ref 715),de P "ZERO_matrix" 1133 (.ref 716),de P "dims" 1140 (.ref 723),de P "is_matrix" 1148 (.ref 730),de P "shape_of" 1155 (.ref 737),de P "axis_names" 1164 (.ref 744),de P "plain_names" 1171 (.ref 751),de P "dimnames_list" 1177 (.ref 756),de P "new_array" 1189 (.ref 763),de P "new_matrix" 1200 (.ref 770),de P "transpose" 1213 (.ref 777),de P "numbers_of" 1220 (.ref 784),de P "product_shapes" 1232 (.ref 791),de P "mat_mul" 1251 (.ref 798),de P "as_column" 1258 (.ref 805),de P "cross" 1266 (.ref 812),de P "is_true" 1277 (.ref 819),de P "extent_of" 1287 (.ref 826),de P "matrix_argument" 1297 (.ref 833),de P "fraction_rows" 1305 (.ref 838),de P "rows_matrix" 1318 (.ref 845),de P "matrix_names" 1326 (.ref 852),de P "b_solve" 1332 (.ref 857),de P "b_det" 1342 (.ref 864),de P "ZERO_matparts" 1347 (.ref 865),de P "diag_of" 1353 (.ref 870),de P "diag_matrix" 1366 (.ref 877),de P "upper_tri" 1374 (.ref 884),de P "lower_tri" 1382 (.ref 891),de P "triangle" 1397 (.ref 898),de P "place_matrix" 1410 (.ref 905),de P "both_extents" 1421 (.ref 912),de P "one_extent" 1431 (.ref 919),de P "b_nrow" 1440 (.ref 926),de P "b_ncol" 1449 (.ref 933),de P "b_all_rows" 1458 (.ref 940),de P "b_all_columns" 1467 (.ref 947),de P "two_vectors" 1477 (.ref 954),de P "b_crossprod" 1488 (.ref 961),de P "b_tcrossprod" 1499 (.ref 968),de P "b_kronecker" 1520 (.ref 975),de P "diagonal_size" 1528 (.ref 982),de P "b_diag" 1546 (.ref 989),de P "triangle_arguments" 1555 (.ref 996),de P "b_upper" 1566 (.ref 1003),de P "b_lower" 1577 (.ref 1010),de P "place_argument" 1585 (.ref 1017),de P "b_row" 1594 (.ref 1024),de P "b_col" 1603 (.ref 1031),de P "_law_draw" 1614 (.ref 1038),de P "_law_rows" 1628 (.ref 1045),de P "_law_matrix" 1634 (.ref 1050),de P "_law_shown" 1640 (.ref 1055),de P "_law_ratio" 1650 (.ref 1062),de P "_law_sum" 1660 (.ref 1069),de P "_law_turned" 1666 (.ref 1074),de P "_law_product" 1672 (.ref 1079),de P "_law_signed" 1678 (.ref 1084),de P "_law_many" 1684 (.ref 1089),de P "_law_solves" 1700 (.ref 1096),de P "_law_products_hold" 1706 (.ref 1101),de P "_law_places_hold" 1712 (.ref 1106),de P "_law_equations_hold" 1718 (.ref 1111),de P "law" 1724 (.ref 1116)] 168}),
 (20,co "_wall" "_wall" 187 1 1 3 15 (.ref 17) (.ref 18) (.ref 19) 191),
 (21,fobj (Qad 0) "_wall" .none (.str "__main__" 164) 20),
 (30,{cls:=Value.type "dict",data:=Data.dict #[de P "__module__" 203 (.str (SP "vectorcove.errors") 194),de P "__firstlineno__" 207 (.int 5 206),de P "__static_attributes__" 208 (.ref 29),de P "__weakref__" 210 (.ref 32),de P "__doc__" 211 .none] 3}),
 (31,{cls:=Value.type "type",data:=Data.cls {name:=SP "CoveError",bases:=[.type "Exception"],mro:=[.ref 31,.type "Exception",.type "BaseException",.type "object"],ns:=30,qualname:=SP "CoveError",subclasses:=[.ref 51]},slots:=#[some (.ref 22),none,some (.str (SP "CoveError") 196),some (.str (SP "CoveError") 204),some (.builtin "Exception.__new__"),some (.bool true)]}),
 (32,{cls:=Value.type "getset_descriptor",data:=Data.fields #[.str (SP "__weakref__") 209,.ref 31,.builtin "ExceptionGroup.__weakref__",.none]}),
 (47,co "__init__" "Refusal.__init__" 228 9 2 3 42 (.ref 44) (.ref 45) (.ref 46) 233),
 (48,fobj (methAt 3 0) "Refusal.__init__" .none (.str "vectorcove.errors" 194) 47),
 (50,{cls:=Value.type "dict",data:=Data.dict #[de P "__module__" 223 (.str (SP "vectorcove.errors") 194),de P "__firstlineno__" 227 (.int 7 226),de P "__init__" 235 (.ref 48),de P "__static_attributes__" 237 (.ref 49),de P "__doc__" 238 .none] 2}),
 (51,{cls:=Value.type "type",data:=Data.cls {name:=SP "Refusal",bases:=[.ref 31],mro:=[.ref 51,.ref 31,.type "Exception",.type "BaseException",.type "object"],ns:=50,qualname:=SP "Refusal"},slots:=#[some (.ref 35),none,some (.str (SP "Refusal") 216),some (.str (SP "Refusal") 224),some (.builtin "Exception.__new__"),some (.bool true)]}),
 (66,co "__init__" "Matching.__init__" 255 14 3 3 61 (.ref 63) (.ref 64) (.ref 65) 261),
 (67,fobj (methAt 5 0) "Matching.__init__" .none kv5 66),
 (73,co "exact" "Matching.exact" 264 20 1 3 68 (.ref 70) (.ref 71) (.ref 72) 270),
 (74,fobj (methAt 5 1) "Matching.exact" .none kv5 73),
 (80,co "partial" "Matching.partial" 273 30 1 3 75 (.ref 77) (.ref 78) (.ref 79) 278),
 (81,fobj (methAt 5 2) "Matching.partial" .none kv5 80),
 (87,co "partial_of" "Matching.partial_of" 281 37 2 3 82 (.ref 84) (.ref 85) (.ref 86) 288),
 (88,fobj (methAt 5 3) "Matching.partial_of" .none kv5 87),
 (94,co "positional" "Matching.positional" 291 48 1 3 89 (.ref 91) (.ref 92) (.ref 93) 297),
 (95,fobj (methAt 5 4) "Matching.positional" .none kv5 94),
 (101,co "is_free" "Matching.is_free" 300 60 2 3 96 (.ref 98) (.ref 99) (.ref 100) 305),
 (102,fobj (methAt 5 5) "Matching.is_free" .none kv5 101),
 (106,co "rest" "Matching.rest" 308 63 1 3 103 .none .none (.ref 105) 311),
 (107,fobj (methAt 5 6) "Matching.rest" .none kv5 106),
 (109,{cls:=Value.type "dict",data:=Data.dict #[de P "__module__" 250 (.str (SP "vectorcove.callargs") 241),de P "__firstlineno__" 254 (.int 12 253),de P "__init__" 263 (.ref 67),de P "exact" 272 (.ref 74),de P "partial" 280 (.ref 81),de P "partial_of" 290 (.ref 88),de P "positional" 299 (.ref 95),de P "is_free" 307 (.ref 102),de P "rest" 313 (.ref 107),de P "__static_attributes__" 318 (.ref 108),de P "__dict__" 320 (.ref 111),de P "__weakref__" 322 (.ref 112),de P "__doc__" 323 .none] 4}),
 (110,{cls:=Value.type "type",data:=Data.cls {name:=SP "Matching",bases:=[.type "object"],mro:=[.ref 110,.type "object"],ns:=109,qualname:=SP "Matching"},slots:=#[none,none,some (.str (SP "Matching") 243),some (.str (SP "Matching") 251),some (.builtin "object.__new__"),some (.bool true)]}),
 (111,{cls:=Value.type "getset_descriptor",data:=Data.fields #[.str (SP "__dict__") 319,.ref 110,.builtin "function.__dict__",.builtin "function.__dict__#set"]}),
 (112,{cls:=Value.type "getset_descriptor",data:=Data.fields #[.str (SP "__weakref__") 321,.ref 110,.builtin "ExceptionGroup.__weakref__",.none]}),
 (134,{cls:=Value.type "tuple",data:=Data.seq #[.none]}),
 (138,co "match_names" "match_names" 350 82 3 3 135 .none .none (.ref 137) 353),
 (139,fobj (Qad 9) "match_names" (.ref 134) kv5 138),
 (145,co "needed" "needed" 356 91 2 3 140 (.ref 142) (.ref 143) (.ref 144) 361),
 (146,fobj (Qad 10) "needed" .none kv5 145),
 (147,{cls:=Value.type "tuple",data:=Data.seq #[.none]}),
 (151,co "take" "take" 364 95 3 3 148 .none .none (.ref 150) 367),
 (152,fobj (Qad 11) "take" (.ref 147) kv5 151),
 (153,{cls:=Value.type "tuple",data:=Data.seq #[.int 0 372,.int 0 373]}),
 (161,co "gcd" "gcd" 381 110 2 3 156 (.ref 158) (.ref 159) (.ref 160) 386),
 (162,fobj (Qad 16) "gcd" .none kv4 161),
 (168,co "make" "make" 389 114 2 3 163 (.ref 165) (.ref 166) (.ref 167) 395),
 (169,fobj (Qad 17) "make" .none kv4 168),
 (175,co "from_int" "from_int" 398 124 1 3 170 (.ref 172) (.ref 173) (.ref 174) 402),
 (176,fobj (Qad 18) "from_int" .none kv4 175),
 (182,co "is_na" "is_na" 405 128 1 3 177 (.ref 179) (.ref 180) (.ref 181) 409),
 (183,fobj (Qad 19) "is_na" .none kv4 182),
 (189,co "is_finite" "is_finite" 412 130 1 3 184 (.ref 186) (.ref 187) (.ref 188) 416),
 (190,fobj (Qad 20) "is_finite" .none kv4 189),
 (196,co "marked" "marked" 419 132 2 3 191 (.ref 193) (.ref 194) (.ref 195) 424),
 (197,fobj (Qad 21) "marked" .none kv4 196),
 (203,co "neg" "neg" 427 136 1 3 198 (.ref 200) (.ref 201) (.ref 202) 431),
 (204,fobj (Qad 22) "neg" .none kv4 203),
 (210,co "add" "add" 434 140 2 3 205 (.ref 207) (.ref 208) (.ref 209) 439),
 (211,fobj (Qad 23) "add" .none kv4 210),
 (217,co "sub" "sub" 442 150 2 3 212 (.ref 214) (.ref 215) (.ref 216) 447),
 (218,fobj (Qad 24) "sub" .none kv4 217),
 (224,co "mul" "mul" 450 152 2 3 219 (.ref 221) (.ref 222) (.ref 223) 455),
 (225,fobj (Qad 25) "mul" .none kv4 224),
 (231,co "div" "div" 458 156 2 3 226 (.ref 228) (.ref 229) (.ref 230) 463),
 (232,fobj (Qad 26) "div" .none kv4 231),
 (238,co "to_whole" "to_whole" 466 164 1 3 233 (.ref 235) (.ref 236) (.ref 237) 471),
 (239,fobj (Qad 27) "to_whole" .none kv4 238),
 (266,co "__init__" "Null.__init__" 510 190 1 3 261 (.ref 263) (.ref 264) (.ref 265) 514),
 (267,fobj (methAt 32 0) "Null.__init__" .none kv6 266),
 (269,{cls:=Value.type "dict",data:=Data.dict #[de P "__module__" 505 (.str (SP "vectorcove.values") 494),de P "__firstlineno__" 509 (.int 188 508),de P "__init__" 516 (.ref 267),de P "__static_attributes__" 519 (.ref 268),de P "__dict__" 521 (.ref 271),de P "__weakref__" 523 (.ref 272),de P "__doc__" 524 .none] 4}),
 (270,{cls:=Value.type "type",data:=Data.cls {name:=SP "Null",bases:=[.type "object"],mro:=[.ref 270,.type "object"],ns:=269,qualname:=SP "Null"},slots:=#[none,none,some (.str (SP "Null") 498),some (.str (SP "Null") 506),some (.builtin "object.__new__"),some (.bool true)]}),
 (271,{cls:=Value.type "getset_descriptor",data:=Data.fields #[.str (SP "__dict__") 520,.ref 270,.builtin "function.__dict__",.builtin "function.__dict__#set"]}),
 (272,{cls:=Value.type "getset_descriptor",data:=Data.fields #[.str (SP "__weakref__") 522,.ref 270,.builtin "ExceptionGroup.__weakref__",.none]}),
 (282,{cls:=Value.type "tuple",data:=Data.seq #[.none]}),
 (288,co "__init__" "Vector.__init__" 539 195 4 3 283 (.ref 285) (.ref 286) (.ref 287) 546),
 (289,fobj (methAt 33 0) "Vector.__init__" (.ref 282) kv6 288),
 (295,co "copy" "Vector.copy" 549 202 1 3 290 (.ref 292) (.ref 293) (.ref 294) 553),
 (296,fobj (methAt 33 1) "Vector.copy" .none kv6 295),
 (298,{cls:=Value.type "dict",data:=Data.dict #[de P "__module__" 534 (.str (SP "vectorcove.values") 494),de P "__firstlineno__" 538 (.int 193 537),de P "__init__" 548 (.ref 289),de P "copy" 555 (.ref 296),de P "__static_attributes__" 561 (.ref 297),de P "__dict__" 563 (.ref 300),de P "__weakref__" 565 (.ref 301),de P "__doc__" 566 .none] 4}),
 (299,{cls:=Value.type "type",data:=Data.cls {name:=SP "Vector",bases:=[.type "object"],mro:=[.ref 299,.type "object"],ns:=298,qualname:=SP "Vector"},slots:=#[none,none,some (.str (SP "Vector") 527),some (.str (SP "Vector") 535),some (.builtin "object.__new__"),some (.bool true)]}),
 (300,{cls:=Value.type "getset_descriptor",data:=Data.fields #[.str (SP "__dict__") 562,.ref 299,.builtin "function.__dict__",.builtin "function.__dict__#set"]}),
 (301,{cls:=Value.type "getset_descriptor",data:=Data.fields #[.str (SP "__weakref__") 564,.ref 299,.builtin "ExceptionGroup.__weakref__",.none]}),
 (309,co "room" "room" 569 204 1 3 304 (.ref 306) (.ref 307) (.ref 308) 573),
 (310,fobj (Qad 34) "room" .none kv6 309),
 (316,co "null" "null" 576 208 0 3 311 (.ref 313) (.ref 314) (.ref 315) 579),
 (317,fobj (Qad 35) "null" .none kv6 316),
 (323,co "integer" "integer" 582 210 1 3 318 (.ref 320) (.ref 321) (.ref 322) 586),
 (324,fobj (Qad 36) "integer" .none kv6 323),
 (337,co "whole" "whole" 596 214 1 3 332 (.ref 334) (.ref 335) (.ref 336) 600),
 (338,fobj (Qad 38) "whole" .none kv6 337),
 (344,co "length" "length" 603 216 1 3 339 (.ref 341) (.ref 342) (.ref 343) 608),
 (345,fobj (Qad 39) "length" .none kv6 344),
 (351,co "is_vector" "is_vector" 611 227 1 3 346 (.ref 348) (.ref 349) (.ref 350) 615),
 (352,fobj (Qad 40) "is_vector" .none kv6 351),
 (365,co "share" "share" 625 231 1 3 360 (.ref 362) (.ref 363) (.ref 364) 629),
 (366,fobj (Qad 42) "share" .none kv6 365),
 (367,{cls:=Value.type "tuple",data:=Data.seq #[.int 0 634,.int 1 635]}),
 (368,{cls:=Value.type "tuple",data:=Data.seq #[.int 1 637,.int 1 638]}),
 (374,co "identity_rows" "identity_rows" 640 238 1 3 369 (.ref 371) (.ref 372) (.ref 373) 647),
 (375,fobj (Qad 46) "identity_rows" .none kv1 374),
 (379,co "copied" "copied" 650 245 1 3 376 .none .none (.ref 378) 653),
 (380,fobj (Qad 47) "copied" .none kv1 379),
 (384,co "scaled" "scaled" 656 247 2 3 381 .none .none (.ref 383) 659),
 (385,fobj (Qad 48) "scaled" .none kv1 384),
 (391,co "less_multiple" "less_multiple" 663 250 3 3 386 (.ref 388) (.ref 389) (.ref 390) 671),
 (392,fobj (Qad 50) "less_multiple" .none kv1 391),
 (398,co "first_filled" "first_filled" 674 257 3 3 393 (.ref 395) (.ref 396) (.ref 397) 681),
 (399,fobj (Qad 51) "first_filled" .none kv1 398),
 (405,co "clear_column" "clear_column" 684 262 3 3 400 (.ref 402) (.ref 403) (.ref 404) 691),
 (406,fobj (Qad 52) "clear_column" .none kv1 405),
 (412,co "row_echelon" "row_echelon" 694 266 1 3 407 (.ref 409) (.ref 410) (.ref 411) 704),
 (413,fobj (Qad 53) "row_echelon" .none kv1 412),
 (419,co "check_square" "check_square" 707 280 2 3 414 (.ref 416) (.ref 417) (.ref 418) 712),
 (420,fobj (Qad 54) "check_square" .none kv1 419),
 (426,co "first_dependent" "first_dependent" 715 283 2 3 421 (.ref 423) (.ref 424) (.ref 425) 721),
 (427,fobj (Qad 55) "first_dependent" .none kv1 426),
 (431,co "solve_rows" "solve_rows" 724 288 2 3 428 .none .none (.ref 430) 727),
 (432,fobj (Qad 56) "solve_rows" .none kv1 431),
 (438,co "inverse" "inverse" 730 296 1 3 433 (.ref 435) (.ref 436) (.ref 437) 734),
 (439,fobj (Qad 57) "inverse" .none kv1 438),
 (445,co "greatest_divisor" "greatest_divisor" 737 298 2 3 440 (.ref 442) (.ref 443) (.ref 444) 742),
 (446,fobj (Qad 58) "greatest_divisor" .none kv1 445),
 (450,co "whole_row" "whole_row" 745 302 1 3 447 .none .none (.ref 449) 748),
 (451,fobj (Qad 59) "whole_row" .none kv1 450),
 (457,co "whole_determinant" "whole_determinant" 751 307 1 3 452 (.ref 454) (.ref 455) (.ref 456) 763),
 (458,fobj (Qad 60) "whole_determinant" .none kv1 457),
 (464,co "determinant" "determinant" 766 327 1 3 459 (.ref 461) (.ref 462) (.ref 463) 775),
 (465,fobj (Qad 61) "determinant" .none kv1 464),
 (471,co "get_attr" "get_attr" 780 338 2 3 466 (.ref 468) (.ref 469) (.ref 470) 785),
 (472,fobj (Qad 63) "get_attr" .none kv10 471),
 (476,co "names_of" "names_of" 788 342 1 3 473 .none .none (.ref 475) 791),
 (477,fobj (Qad 64) "names_of" .none kv10 476),
 (483,co "dim_of" "dim_of" 794 358 1 3 478 (.ref 480) (.ref 481) (.ref 482) 799),
 (484,fobj (Qad 65) "dim_of" .none kv10 483),
 (488,co "dimnames_of" "dimnames_of" 802 363 1 3 485 .none .none (.ref 487) 805),
 (489,fobj (Qad 66) "dimnames_of" .none kv10 488),
 (509,co "scaled" "scaled" 829 389 3 3 504 (.ref 506) (.ref 507) (.ref 508) 836),
 (510,fobj (Qad 71) "scaled" .none (.str "vectorcove.numtext" 808) 509),
 (648,co "to_logical" "to_logical" 1040 567 2 3 643 (.ref 645) (.ref 646) (.ref 647) 1045),
 (649,fobj (Qad 94) "to_logical" .none kv7 648),
 (662,co "to_double" "to_double" 1057 585 3 3 657 (.ref 659) (.ref 660) (.ref 661) 1063),
 (663,fobj (Qad 96) "to_double" .none kv7 662),
 (676,co "item_as" "item_as" 1074 599 4 3 671 (.ref 673) (.ref 674) (.ref 675) 1081),
 (677,fobj (Qad 98) "item_as" .none kv7 676),
 (683,co "is_atomic_kind" "is_atomic_kind" 1084 613 1 3 678 (.ref 680) (.ref 681) (.ref 682) 1088),
 (684,fobj (Qad 99) "is_atomic_kind" .none kv7 683),
 (709,co "with_names" "with_names" 1115 637 2 3 704 (.ref 706) (.ref 707) (.ref 708) 1120),
 (710,fobj (Qad 103) "with_names" .none kv7 709),
 (714,co "as_kind" "as_kind" 1123 641 3 3 711 .none .none (.ref 713) 1126),
 (715,fobj (Qad 104) "as_kind" .none kv7 714),
 (716,{cls:=Value.type "tuple",data:=Data.seq #[.int 0 1131,.int 1 1132]}),
 (722,co "dims" "dims" 1134 650 1 3 717 (.ref 719) (.ref 720) (.ref 721) 1138),
 (723,fobj (Qad 107) "dims" .none kv3 722),
 (729,co "is_matrix" "is_matrix" 1141 654 1 3 724 (.ref 726) (.ref 727) (.ref 728) 1146),
 (730,fobj (Qad 108) "is_matrix" .none kv3 729),
 (736,co "shape_of" "shape_of" 1149 657 1 3 731 (.ref 733) (.ref 734) (.ref 735) 1153),
 (737,fobj (Qad 109) "shape_of" .none kv3 736),
 (743,co "axis_names" "axis_names" 1156 661 2 3 738 (.ref 740) (.ref 741) (.ref 742) 1162),
 (744,fobj (Qad 110) "axis_names" .none kv3 743),
 (750,co "plain_names" "plain_names" 1165 668 1 3 745 (.ref 747) (.ref 748) (.ref 749) 1169),
 (751,fobj (Qad 111) "plain_names" .none kv3 750),
 (755,co "dimnames_list" "dimnames_list" 1172 672 1 3 752 .none .none (.ref 754) 1175),
 (756,fobj (Qad 112) "dimnames_list" .none kv3 755),
 (762,co "new_array" "new_array" 1178 679 4 3 757 (.ref 759) (.ref 760) (.ref 761) 1187),
 (763,fobj (Qad 113) "new_array" .none kv3 762),
 (769,co "new_matrix" "new_matrix" 1190 686 5 3 764 (.ref 766) (.ref 767) (.ref 768) 1198),
 (770,fobj (Qad 114) "new_matrix" .none kv3 769),
 (776,co "transpose" "transpose" 1201 688 1 3 771 (.ref 773) (.ref 774) (.ref 775) 1211),
 (777,fobj (Qad 115) "transpose" .none kv3 776),
 (783,co "numbers_of" "numbers_of" 1214 702 1 3 778 (.ref 780) (.ref 781) (.ref 782) 1218),
 (784,fobj (Qad 116) "numbers_of" .none kv3 783),
 (790,co "product_shapes" "product_shapes" 1221 706 2 3 785 (.ref 787) (.ref 788) (.ref 789) 1230),
 (791,fobj (Qad 117) "product_shapes" .none kv3 790),
 (797,co "mat_mul" "mat_mul" 1233 728 2 3 792 (.ref 794) (.ref 795) (.ref 796) 1249),
 (798,fobj (Qad 118) "mat_mul" .none kv3 797),
 (804,co "as_column" "as_column" 1252 743 1 3 799 (.ref 801) (.ref 802) (.ref 803) 1256),
 (805,fobj (Qad 119) "as_column" .none kv3 804),
 (811,co "cross" "cross" 1259 747 2 3 806 (.ref 808) (.ref 809) (.ref 810) 1264),
 (812,fobj (Qad 120) "cross" .none kv3 811),
 (818,co "is_true" "is_true" 1269 750 2 3 813 (.ref 815) (.ref 816) (.ref 817) 1275),
 (819,fobj (Qad 122) "is_true" .none kv11 818),
 (825,co "extent_of" "extent_of" 1278 757 2 3 820 (.ref 822) (.ref 823) (.ref 824) 1285),
 (826,fobj (Qad 123) "extent_of" .none kv11 825),
 (832,co "matrix_argument" "matrix_argument" 1288 771 2 3 827 (.ref 829) (.ref 830) (.ref 831) 1295),
 (833,fobj (Qad 124) "matrix_argument" .none kv11 832),
 (837,co "fraction_rows" "fraction_rows" 1300 778 1 3 834 .none .none (.ref 836) 1303),
 (838,fobj (Qad 126) "fraction_rows" .none kv9 837),
 (844,co "rows_matrix" "rows_matrix" 1306 788 4 3 839 (.ref 841) (.ref 842) (.ref 843) 1316),
 (845,fobj (Qad 127) "rows_matrix" .none kv9 844),
 (851,co "matrix_names" "matrix_names" 1319 794 2 3 846 (.ref 848) (.ref 849) (.ref 850) 1324),
 (852,fobj (Qad 128) "matrix_names" .none kv9 851),
 (856,co "b_solve" "b_solve" 1327 796 3 3 853 .none .none (.ref 855) 1330),
 (857,fobj (Qad 129) "b_solve" .none kv9 856),
 (863,co "b_det" "b_det" 1333 818 3 3 858 (.ref 860) (.ref 861) (.ref 862) 1340),
 (864,fobj (Qad 130) "b_det" .none kv9 863),
 (865,{cls:=Value.type "tuple",data:=Data.seq #[.int 0 1345,.int 1 1346]}),
 (869,co "diag_of" "diag_of" 1348 825 1 3 866 .none .none (.ref 868) 1351),
 (870,fobj (Qad 133) "diag_of" .none kv8 869),
 (876,co "diag_matrix" "diag_matrix" 1354 835 3 3 871 (.ref 873) (.ref 874) (.ref 875) 1364),
 (877,fobj (Qad 134) "diag_matrix" .none kv8 876),
 (883,co "upper_tri" "upper_tri" 1367 846 2 3 878 (.ref 880) (.ref 881) (.ref 882) 1372),
 (884,fobj (Qad 135) "upper_tri" .none kv8 883),
 (890,co "lower_tri" "lower_tri" 1375 848 2 3 885 (.ref 887) (.ref 888) (.ref 889) 1380),
 (891,fobj (Qad 136) "lower_tri" .none kv8 890),
 (897,co "triangle" "triangle" 1383 850 3 3 892 (.ref 894) (.ref 895) (.ref 896) 1395),
 (898,fobj (Qad 137) "triangle" .none kv8 897),
 (904,co "place_matrix" "place_matrix" 1398 858 2 3 899 (.ref 901) (.ref 902) (.ref 903) 1408),
 (905,fobj (Qad 138) "place_matrix" .none kv8 904),
 (911,co "both_extents" "both_extents" 1413 866 1 3 906 (.ref 908) (.ref 909) (.ref 910) 1419),
 (912,fobj (Qad 140) "both_extents" .none kv0 911),
 (918,co "one_extent" "one_extent" 1422 874 3 3 913 (.ref 915) (.ref 916) (.ref 917) 1429),
 (919,fobj (Qad 141) "one_extent" .none kv0 918),
 (925,co "b_nrow" "b_nrow" 1432 881 3 3 920 (.ref 922) (.ref 923) (.ref 924) 1438),
 (926,fobj (Qad 142) "b_nrow" .none kv0 925),
 (932,co "b_ncol" "b_ncol" 1441 883 3 3 927 (.ref 929) (.ref 930) (.ref 931) 1447),
 (933,fobj (Qad 143) "b_ncol" .none kv0 932),
 (939,co "b_all_rows" "b_all_rows" 1450 885 3 3 934 (.ref 936) (.ref 937) (.ref 938) 1456),
 (940,fobj (Qad 144) "b_all_rows" .none kv0 939),
 (946,co "b_all_columns" "b_all_columns" 1459 887 3 3 941 (.ref 943) (.ref 944) (.ref 945) 1465),
 (947,fobj (Qad 145) "b_all_columns" .none kv0 946),
 (953,co "two_vectors" "two_vectors" 1468 889 1 3 948 (.ref 950) (.ref 951) (.ref 952) 1475),
 (954,fobj (Qad 146) "two_vectors" .none kv0 953),
 (960,co "b_crossprod" "b_crossprod" 1478 895 3 3 955 (.ref 957) (.ref 958) (.ref 959) 1486),
 (961,fobj (Qad 147) "b_crossprod" .none kv0 960),
 (967,co "b_tcrossprod" "b_tcrossprod" 1489 901 3 3 962 (.ref 964) (.ref 965) (.ref 966) 1497),
 (968,fobj (Qad 148) "b_tcrossprod" .none kv0 967),
 (974,co "b_kronecker" "b_kronecker" 1500 907 3 3 969 (.ref 971) (.ref 972) (.ref 973) 1518),
 (975,fobj (Qad 149) "b_kronecker" .none kv0 974),
 (981,co "diagonal_size" "diagonal_size" 1521 921 1 3 976 (.ref 978) (.ref 979) (.ref 980) 1526),
 (982,fobj (Qad 150) "diagonal_size" .none kv0 981),
 (988,co "b_diag" "b_diag" 1529 926 3 3 983 (.ref 985) (.ref 986) (.ref 987) 1544),
 (989,fobj (Qad 151) "b_diag" .none kv0 988),
 (995,co "triangle_arguments" "triangle_arguments" 1547 950 1 3 990 (.ref 992) (.ref 993) (.ref 994) 1553),
 (996,fobj (Qad 152) "triangle_arguments" .none kv0 995),
 (1002,co "b_upper" "b_upper" 1556 953 3 3 997 (.ref 999) (.ref 1000) (.ref 1001) 1564),
 (1003,fobj (Qad 153) "b_upper" .none kv0 1002),
 (1009,co "b_lower" "b_lower" 1567 956 3 3 1004 (.ref 1006) (.ref 1007) (.ref 1008) 1575),
 (1010,fobj (Qad 154) "b_lower" .none kv0 1009),
 (1016,co "place_argument" "place_argument" 1578 959 1 3 1011 (.ref 1013) (.ref 1014) (.ref 1015) 1583),
 (1017,fobj (Qad 155) "place_argument" .none kv0 1016),
 (1023,co "b_row" "b_row" 1586 964 3 3 1018 (.ref 1020) (.ref 1021) (.ref 1022) 1592),
 (1024,fobj (Qad 156) "b_row" .none kv0 1023),
 (1030,co "b_col" "b_col" 1595 966 3 3 1025 (.ref 1027) (.ref 1028) (.ref 1029) 1601),
 (1031,fobj (Qad 157) "b_col" .none kv0 1030),
 (1037,co "_law_draw" "_law_draw" 1606 969 2 3 1032 (.ref 1034) (.ref 1035) (.ref 1036) 1612),
 (1038,fobj (Qad 159) "_law_draw" .none kv2 1037),
 (1044,co "_law_rows" "_law_rows" 1615 978 4 3 1039 (.ref 1041) (.ref 1042) (.ref 1043) 1626),
 (1045,fobj (Qad 160) "_law_rows" .none kv2 1044),
 (1049,co "_law_matrix" "_law_matrix" 1629 987 2 3 1046 .none .none (.ref 1048) 1632),
 (1050,fobj (Qad 161) "_law_matrix" .none kv2 1049),
 (1054,co "_law_shown" "_law_shown" 1635 991 1 3 1051 .none .none (.ref 1053) 1638),
 (1055,fobj (Qad 162) "_law_shown" .none kv2 1054),
 (1061,co "_law_ratio" "_law_ratio" 1641 996 2 3 1056 (.ref 1058) (.ref 1059) (.ref 1060) 1648),
 (1062,fobj (Qad 163) "_law_ratio" .none kv2 1061),
 (1068,co "_law_sum" "_law_sum" 1651 1002 1 3 1063 (.ref 1065) (.ref 1066) (.ref 1067) 1658),
 (1069,fobj (Qad 164) "_law_sum" .none kv2 1068),
 (1073,co "_law_turned" "_law_turned" 1661 1009 1 3 1070 .none .none (.ref 1072) 1664),
 (1074,fobj (Qad 165) "_law_turned" .none kv2 1073),
 (1078,co "_law_product" "_law_product" 1667 1011 2 3 1075 .none .none (.ref 1077) 1670),
 (1079,fobj (Qad 166) "_law_product" .none kv2 1078),
 (1083,co "_law_signed" "_law_signed" 1673 1013 1 3 1080 .none .none (.ref 1082) 1676),
 (1084,fobj (Qad 167) "_law_signed" .none kv2 1083),
 (1088,co "_law_many" "_law_many" 1679 1021 1 3 1085 .none .none (.ref 1087) 1682),
 (1089,fobj (Qad 168) "_law_many" .none kv2 1088),
 (1095,co "_law_solves" "_law_solves" 1685 1032 3 3 1090 (.ref 1092) (.ref 1093) (.ref 1094) 1698),
 (1096,fobj (Qad 169) "_law_solves" .none kv2 1095),
 (1100,co "_law_products_hold" "_law_products_hold" 1701 1044 2 3 1097 .none .none (.ref 1099) 1704),
 (1101,fobj (Qad 170) "_law_products_hold" .none kv2 1100),
 (1105,co "_law_places_hold" "_law_places_hold" 1707 1061 1 3 1102 .none .none (.ref 1104) 1710),
 (1106,fobj (Qad 171) "_law_places_hold" .none kv2 1105),
 (1110,co "_law_equations_hold" "_law_equations_hold" 1713 1100 3 3 1107 .none .none (.ref 1109) 1716),
 (1111,fobj (Qad 172) "_law_equations_hold" .none kv2 1110),
 (1115,co "law" "law" 1719 1126 1 3 1112 .none .none (.ref 1114) 1722),
 (1116,fobj (Qad 173) "law" .none kv2 1115)
]
def KA:List Addr:=[3,20,21,30,31,32,47,48,50,51,66,67,73,74,80,81,87,88,94,95,101,102,106,107,109,110,111,112,134,138,139,145,146,147,151,152,153,161,162,168,169,175,176,182,183,189,190,196,197,203,204,210,211,217,218,224,225,231,232,238,239,266,267,269,270,271,272,282,288,289,295,296,298,299,300,301,309,310,316,317,323,324,337,338,344,345,351,352,365,366,367,368,374,375,379,380,384,385,391,392,398,399,405,406,412,413,419,420,426,427,431,432,438,439,445,446,450,451,457,458,464,465,471,472,476,477,483,484,488,489,509,510,648,649,662,663,676,677,683,684,709,710,714,715,716,722,723,729,730,736,737,743,744,750,751,755,756,762,763,769,770,776,777,783,784,790,791,797,798,804,805,811,812,818,819,825,826,832,833,837,838,844,845,851,852,856,857,863,864,865,869,870,876,877,883,884,890,891,897,898,904,905,911,912,918,919,925,926,932,933,939,940,946,947,953,954,960,961,967,968,974,975,981,982,988,989,995,996,1002,1003,1009,1010,1016,1017,1023,1024,1030,1031,1037,1038,1044,1045,1049,1050,1054,1055,1061,1062,1068,1069,1073,1074,1078,1079,1083,1084,1088,1089,1095,1096,1100,1101,1105,1106,1110,1111,1115,1116]
theorem Qpo:∀P,KA=(KX P).map (·.1):=fun P=>by kernel_rfl!
def hookX:Hook:=kmHook KX KA Qpo [1103]
def qv:Program:={P0 with main:={P0.main with body:=P0.main.body.drop 173}}
def looseX:List Str:=P0.boundNames.filter fun n=>!(n==Str.ofString "law")
def envA:Env:={scope:=P0.main.scope,locals:=mainNs,globals:=mainNs,cells:=[],code:=.ref 13,frame:=some 14}
def bE:List Stmt:=behindTheImports P0
def codeA:Code:=.body bE envA
def pos0:Pos:=⟨0,0,0,0⟩
def annA:Option Value:=some (.ref 6)
def objs15 (P:Params):List Obj:=[boot_o_0 P,boot_o_1 P,boot_o_2 P,boot_o_3 P,boot_o_4 P,boot_o_5 P,boot_o_6 P,boot_o_7 P,boot_o_8 P,boot_o_9 P,boot_o_10 P,
 {cls:=PySem.Value.type "tuple",data:=PySem.Data.seq #[]},{cls:=PySem.Value.none,data:=PySem.Data.fields #[]},
 {cls:=PySem.Value.type "code",data:=PySem.Data.fields #[PySem.Value.str (PySem.Str.ofString "<module>") 182,PySem.Value.str (PySem.Str.ofString "<module>") 183,PySem.Value.str (PySem.Str.ofString "/claim/cut.py") 184,PySem.Value.int 1 0,PySem.Value.int 0 0,PySem.Value.int 0 0,PySem.Value.int 0 0,PySem.Value.int 0 0,PySem.Value.ref 11,PySem.Value.bool false,PySem.Value.int 181 0,PySem.Value.ref 12,PySem.Value.none,PySem.Value.none,PySem.Value.none,PySem.Value.none,PySem.Value.int 185 0,PySem.Value.int 1 0,PySem.Value.str (PySem.Str.ofString "/claim/cut.py") 186]},
 {cls:=PySem.Value.type "frame",slots:=#[some (PySem.Value.ref 13),some (PySem.Value.ref 3),some (PySem.Value.ref 3),none,some (PySem.Value.str (PySem.Str.ofString "__main__") 164),none,some (PySem.Value.ref 0)]}]
def mkT (os:List Obj):Nat->Nat->Nat->BT
 | 0,_,_=>.nil
 | n+1,a,b=>match os[b]? with
  | some o=>.node o (mkT os n (2*a) (a+b)) (mkT os n (2*a) (2*a+b))
  | none=>.nil
def st0 (w:World) (os:OsState):Shared:={heap:=boot_heap w.params,gens:=#[],drawn:=boot_drawn,toks:=boot_toks,os:=os}
def st15 (w:World) (os:OsState):SharedT:={tree:=mkT (objs15 w.params) 6 1 0,n:=15,life:={},gens:=#[],drawn:={},toks:=187,os:=os}
theorem abs15 (w:World) (os:OsState):(st15 w os).abs={heap:=⟨(objs15 w.params).toArray,{}⟩,gens:=#[],drawn:={},toks:=187,os:=os}:=by kernel_rfl!
abbrev B0:List PySem.Frame:=[topFrame pos0]
theorem pre_q:∀w:World,(fun os=>topGo treeTable P0 w 11 annA 12 (st0 w os) (topStub P0)) =
  fun os=>some ({heap:=⟨(objs15 w.params).toArray,{}⟩,gens:=#[],drawn:={},toks:=187,os:=os},⟨denote treeTable codeA,codeA,pos0,B0⟩):=by
 intro w
 kernel_rfl
def lookT (w:World) (s:SharedT) :=
 ((staticsOk (importedModules P0.main.body) (boot_heap w.params) s.abs.heap&&namesBound P0 s.abs.heap&&gensDone s.abs&&laidKept (boot_heap w.params) s.abs.heap),
 openSeen qv looseX (importedModules P0.main.body) (fun _=>true) true s.abs,KA.map s.tree.get,s.tree.get 1103,s.n)
def chk (w:World) (os:OsState):=(qSegRunT qTable P0 w 11 annA 1 60 (st15 w os) (blockOf bE envA codeA pos0 B0)).bind fun r1 =>
 (qSegRunT qTable P0 w 11 annA 1 8000 r1.2.1 ⟨(qExecs bE envA).wrap doneF deadEnd id id,codeA,r1.2.2.2,B0⟩).map fun r2 =>
  ((r1.1,r1.2.2.1),(r2.1,r2.2.2.1),lookT w r2.2.1)
theorem Qpp:∀w:World,(fun os=>chk w os)=fun _=>some ((.next,codeA),(.next,codeA),(true,openGood qv looseX,(KX w.params).map (fun p=>some p.2),some (tabObj #[]),1117)):=by
 intro w
 kernel_rfl
theorem Qpq:KA.all (fun a=>Nat.blt a 1117)=true:=by kernel_rfl
theorem QlI:∀P,(KX P).map (fun p=>alive p.2)=(KX P).map (fun p=>some p.2):=fun P=>by kernel_rfl
theorem fin_run (w:World) (s:Shared) (p:Pos):topRun treeTable P0 w 11 annA 4 s ⟨doneF .next,codeA,p,[topFrame pos0]⟩=some s:=by
 obtain⟨h,g,d,t,o⟩:=s;rfl
theorem Qpr (w:World) (os:OsState):∃sT:SharedT,topRun treeTable P0 w 11 annA 8076 (st0 w os) (topStub P0)=some sT.abs ∧
  lookT w sT=(true,openGood qv looseX,(KX w.params).map (fun p=>some p.2),some (tabObj #[]),1117):=by
 have h:=congrFun (Qpp w) os;simp only[chk] at h;obtain⟨⟨f1,sM,c1,p1⟩,e1,h⟩:=Option.bind_eq_some_iff.mp h;obtain⟨⟨f2,sT,c2,p2⟩,e2,h⟩:=Option.map_eq_some_iff.mp h;simp only[Prod.mk.injEq] at h;obtain⟨⟨rfl,rfl⟩,⟨rfl,rfl⟩,hl⟩:=h;refine⟨sT,?_,by rw[hl]⟩;have t1:=congrFun (pre_q w) os;simp only at t1 e1 e2;rw[show @qSegRunT=@segRunT from PySem.W.Fast.te10110043849684766642.symm,show qTable=treeTable from PySem.W.Fast.te14364793385576792824.symm] at e1 e2;rw[show @qExecs=@execs from PySem.W.Fast.te12563942051412417395.symm] at e2;have s1:=segRun_of e1;have s2:=segRun_of e2;rw[abs15] at s1;have r:=piece_app (l:=bE) (rest:=[]) s2 (piece_nil (fin_run w sT.abs p2));rw[List.append_nil] at r;have r2:=piece_block s1 r;have r3:=go_top t1 r2;exact r3
theorem Qps (w:World) (s:SharedT) (h1:KA.map s.tree.get=(KX w.params).map (fun p=>some p.2)) (h2:s.tree.get 1103=some (tabObj #[])) (hn:s.n=1117) :
  hookX.obs s.abs=hookX.val w:=by
 have key:∀a o,a<1117->s.tree.get a=some o->s.abs.heap.get? a=alive o:=fun a o ha ho=>abs_get (by rw[hn]; exact ha) ho
 show (KA.map s.abs.heap.get?,[1103].map s.abs.heap.get?)=((KX w.params).map fun p=>some p.2,[1103].map fun _=>some (tabObj #[]));refine Prod.ext ?_ ?_
 ·show KA.map s.abs.heap.get?=(KX w.params).map fun p=>some p.2
  have hk:=Qpo w.params;have hlow:=List.all_eq_true.mp Qpq;rw[←QlI w.params];rw[hk] at h1 hlow ⊢;rw[List.map_map] at h1 ⊢;refine List.map_congr_left fun p hp=>?_
  have e:=List.map_inj_left.mp h1 p hp;exact key _ _ (Nat.le_of_ble_eq_true (hlow _ (List.mem_map_of_mem hp))) e
 ·show [s.abs.heap.get? 1103]=[some (tabObj #[])]
  rw[key 1103 _ (by decide) h2];rfl
abbrev NX:Nat:=8100
theorem QnM:opening P0=plainProg P0.main.scope.names:=by kernel_rfl
theorem QlJ (s:Shared):fenceModules? P0 s=some s:=by kernel_rfl
theorem size_eq (w:World):((boot_heap w.params).isNs mainGlobals&&(#[]:Array GenState).size==0,(boot_heap w.params).objs.size,(boot_heap w.params).nsMap mainGlobals "__annotations__")=(true,11,annA):=by kernel_rfl
theorem QlK {p q:Program} {loose:List Str} {Xt:Shared->Bool} {α:Type} {Yf:Shared->α} {Ya:World->α} {N:Nat} {g0:Bool} {H_0:Params->Heap} {gs_0:Array GenState} {d_0:Drawn} {k_0:Nat} {m_0:Nat} {ann:Option Value} {M:Nat}
  (open_:∀w:World,(fencedOpening treeTable p w N).map (fun s=>(s.heap,s.gens,s.drawn,s.toks))=some (H_0 w.params,gs_0,d_0,k_0))
  (size:∀w:World,((H_0 w.params).isNs mainGlobals&&gs_0.size==0,(H_0 w.params).objs.size,(H_0 w.params).nsMap mainGlobals "__annotations__")=(true,m_0,ann))
  (run:∀(w:World) (os:OsState),∃s:Shared,topRun treeTable p w m_0 ann M ⟨H_0 w.params,gs_0,d_0,k_0,os⟩ (topStub p)=some s ∧
   (staticsOk (importedModules p.main.body) (H_0 w.params) s.heap&&namesBound p s.heap&&gensDone s&&laidKept (H_0 w.params) s.heap)=true ∧
   openSeen q loose (importedModules p.main.body) Xt g0 s=openGood q loose∧Yf s=Ya w) (le:Nat.ble M N=true):LeftO p q loose Xt Yf Ya N g0:=fun w=>by
 obtain⟨⟨h,gs,d,k,os⟩,e,e'⟩:=Option.map_eq_some_iff.mp (open_ w);obtain⟨rfl,rfl,rfl,rfl⟩:h=H_0 w.params∧gs=gs_0∧d=d_0∧k=k_0:=by simpa using e'
 obtain⟨z1,z2,z3⟩:_∧_∧_:=by simpa only[Prod.mk.injEq] using size w
 obtain⟨s,hr,l1,l2,l3⟩:=run w os;have r:=topRun_mono (N-M) _ _ _ _ hr;rw[show M+(N-M)=N by have:=Nat.le_of_ble_eq_true le; omega] at r;have t:topFrom treeTable p w N ⟨H_0 w.params,gs,d,k,os⟩=some s:=by
  unfold topFrom;dsimp only;rw[z1,z2,z3,r];show (match staticsOk (importedModules p.main.body) (H_0 w.params) s.heap&&namesBound p s.heap&&gensDone s&&laidKept (H_0 w.params) s.heap with | true=>_ | false=>_)=_
  rw[l1]
 unfold openEnds;rw[e];show (topFrom treeTable p w N _).map _=_;rw[t];exact congrArg some (Prod.ext l2 l3)
theorem QnN (w:World) (os:OsState):∃s:Shared,topRun treeTable P0 w 11 annA 8076 ⟨boot_heap w.params,#[],boot_drawn,boot_toks,os⟩ (topStub P0)=some s ∧
   (staticsOk (importedModules P0.main.body) (boot_heap w.params) s.heap&&namesBound P0 s.heap&&gensDone s&&laidKept (boot_heap w.params) s.heap)=true ∧
   openSeen qv looseX (importedModules P0.main.body) (fun _=>true) true s=openGood qv looseX∧hookX.obs s=hookX.val w:=by
 obtain⟨sT,hr,hl⟩:=Qpr w os;unfold lookT at hl;simp only[Prod.mk.injEq] at hl;obtain⟨l1,l2,l3,l4,l5⟩:=hl;exact⟨sT.abs,hr,l1,l2,Qps w sT l3 l4 l5⟩
theorem leftX:LeftO P0 qv looseX (fun _=>true) hookX.obs hookX.val NX :=
 QlK (H_0:=boot_heap) (boot_open QnM (by decide) QlJ (N:=NX)) size_eq QnN (by decide)
section
set_option maxHeartbeats 4000000
theorem said:L0.wellSaid=true:=by
 unfold OpenLaw.wellSaid OpenRow.wellSaid OpenRow.partSaid looksOpen
 repeat' (with_reducible refine look_both ?_ ?_)
 all_goals decide +kernel
theorem tabw:L0.row.prog.tablesWhole=true:=by decide +kernel
end
section
set_option maxHeartbeats 4000000
def dLaw:DefRec:=⟨Str.ofString "law",sArgs (Qad 173),sBody (Qad 173),sScope (Qad 173),sPos (Qad 173)⟩
theorem Qpt:defOf qv L0.row.name=some (dLaw,[]):=by kernel_rfl
theorem Qpu:L0.row.prog.theDef L0.row.name=some (dLaw.params,dLaw.body,dLaw.scope):=by kernel_rfl
theorem kw_eq:kwWritten? dLaw.params.kwonlyargs dLaw.params.kw_defaults=some []:=by kernel_rfl
theorem ok_eq:(chainsOk qv&&opensWell L0.row.prog&&(frees L0.row.toRowW&&L0.row.within.isEmpty))=true:=by decide +kernel
theorem QnO:L0.row.prog.bare:=⟨rfl,rfl,rfl,rfl,rfl,tabw⟩
theorem QhM:L0.row.toRowW.promised:=by w_witness2
abbrev WalkGoal:Prop:=WalkO qv looseX (fun _ _=>True) hookX.says L0.row.toRowW dLaw [] fun f vs=>PySem.call f vs
theorem Qpv (walk:WalkGoal):L0.Holds :=
 holds_law said fun k1=>holds_open (r:=L0.row) (q:=qv) (loose:=looseX) (Xt:=fun _=>true) (XP:=fun _ _=>True) (Yf:=hookX.obs) (Ya:=hookX.val) (YP:=hookX.says) (N:=NX)
  leftX hookX.of hookX.keeps (fun _ _=>trivial) (fun _ _ _ _ _=>trivial) Qpt Qpu kw_eq (fun s _=>recFacts_of (R:=[]) (s:=s) rfl) rfl k1 ok_eq QnO QhM walk
end
inductive AV where
 | unset | none | bool (b:Bool) | int (i:Int) | str (s:String)
 | tup (l:List AV) | lst (l:List AV) | dct (ks:List String) (vs:List AV) | obj (C:Nat) (ks:List String) (vs:List AV)
 | cell (i:Nat) | kref (a:Nat) | rng (a b:Int) | lam (k:Nat)
inductive AC where
 | lst (l:List AV) | dct (ks:List String) (vs:List AV) | obj (C:Nat) (ks:List String) (vs:List AV) | dead
abbrev AH:=List AC
inductive Op where | add | sub | mul | div | mod
inductive Cm where | eq | ne | lt | le | gt | ge | is | isnot | isin | notin
mutual
inductive PE where
 | non | tru (b:Bool) | int (i:Int) | str (s:String)
 | loc (k:Nat)
 | glob (n:String) (v:AV)
 | bin (o:Op) (a b:PE)
 | neg (a:PE)
 | cmp (c:Cm) (a b:PE)
 | nt (a:PE) | and (l:List PE) | or (l:List PE)
 | ife (t a b:PE)
 | call (f:PE) (as:List PE)
 | new (n:String) (C init:Nat) (as:List PE)
 | meth (o:PE) (C:Nat) (n:String) (f:Nat) (as:List PE)
 | push (o x:PE)
 | pop0 (o:PE)
 | dget (o k:PE)
 | attr (o:PE) (n:String)
 | sub (o i:PE)
 | upto (o i:PE) | from (o i:PE)
 | rep (o n:PE) (mu:Bool)
 | cat (a b:PE)
 | len (a:PE) | abs (a:PE) | sum (a:PE) | min (a b:PE) | intof (a:PE) | strof (a:PE)
 | range (a b:PE) | range1 (a:PE)
 | list (a:PE) (mu:Bool)
 | isinst (a:PE) (n:String) (C:Nat)
 | lst (l:List PE) (mu:Bool) | tup (l:List PE) | dct (ks:List String) (vs:List PE) (mu:Bool)
 | comp (e:PE) (gs:List PG) (mu:Bool)
 | lam (k:Nat)
 | fstr (l:List PE) | fmt (a:PE)
 | frz (a:PE)
 | bad
inductive PG where
 | mk (t:List Nat) (one:Bool) (it:PE) (ifs:List PE)
end
inductive PT where
 | loc (k:Nat) | tup (l:List PT) | attr (o:PE) (n:String) | sub (o i:PE)
inductive PS where
 | asg (t:PT) (e:PE)
 | aug (k:Nat) (o:Op) (e:PE)
 | exp (e:PE)
 | ret (e:PE) | ret0
 | ite (t:PE) (a b:List PS)
 | whl (t:PE) (b:List PS)
 | for_ (t:List Nat) (one:Bool) (it:PE) (b:List PS)
 | cont | pass
 | raise (a:PE)
 | tryR (b:List PS) (k:Nat) (ek:Nat)
 | bad
inductive Out (α:Type) where
 | ok (a:α) (H:AH) | exc (m:AV) (H:AH) | stuck
namespace Out
def bind {α β:Type}:Out α->(α->AH->Out β)->Out β
 | .ok a H,f=>f a H
 | .exc m H,_=>.exc m H
 | .stuck,_=>.stuck
def ofOpt {α:Type} (o:Option α) (H:AH):Out α:=match o with | some a=>.ok a H | none=>.stuck
@[simp] theorem bind_ok {α β:Type} (a:α) (H:AH) (f:α->AH->Out β):(Out.ok a H).bind f=f a H:=rfl
@[simp] theorem bind_exc {α β:Type} (m:AV) (H:AH) (f:α->AH->Out β):(Out.exc m H).bind f=.exc m H:=rfl
@[simp] theorem bind_stuck {α β:Type} (f:α->AH->Out β):(Out.stuck:Out α).bind f=.stuck:=rfl
@[simp] theorem ofOpt_some {α:Type} (a:α) (H:AH):ofOpt (some a) H=.ok a H:=rfl
@[simp] theorem Qpn {α:Type} (H:AH):ofOpt (none:Option α) H=.stuck:=rfl
end Out
def attrL:List (Nat × String):=[(299,"kind"),(299,"items"),(299,"attrs"),(299,"shared"),(299,"loose"),(270,"kind"),(270,"attrs"),(110,"formals"),(110,"tags"),(110,"used"),(110,"places")]
def attrC (C:Nat) (n:String):Bool:=attrL.contains (C,n)
structure Orc where
 f:Nat->List AV->AH->Out AV
 l:Nat->List AV->AH->Out AV
open Classical in
section
def AV.data:Nat->AV->Bool
 | _,.none | _,.int _ | _,.str _=>true
 | n+1,.tup l | n+1,.lst l=>l.all (AV.data n)
 | _,_=>false
mutual
def AV.nc:AV->Bool
 | .cell _ | .unset=>false
 | .tup l | .lst l | .dct _ l | .obj _ _ l=>AV.ncs l
 | _=>true
def AV.ncs:List AV->Bool
 | []=>true
 | x::l=>x.nc&&AV.ncs l
end
def bigE:Nat:=4000
def QaI (a:Int):Prop:=a.natAbs<2 ^ bigE
def pBin:Op->AV->AV->Option AV
 | .add,.int a,.int b=>some (.int (a+b))
 | .add,.str a,.str b=>if a.length+b.length≤100000 then some (.str (a++b)) else none
 | .sub,.int a,.int b=>some (.int (a-b))
 | .mul,.int a,.int b=>if QaI a∧QaI b then some (.int (a*b)) else none
 | .div,.int a,.int b=>if b≠0∧QaI b then some (.int (a.fdiv b)) else none
 | .mod,.int a,.int b=>if b≠0∧QaI b then some (.int (a.fmod b)) else none
 | _,_,_=>none
def AV.isNone:AV->Option Bool
 | .none=>some true
 | .unset=>Option.none
 | _=>some false
def keyAt:List String->List AV->String->Option AV
 | k::ks,v::vs,n=>if k=n then some v else keyAt ks vs n
 | _,_,_=>none
def QaJ:List String->List AV->String->AV->List String × List AV
 | k::ks,v::vs,n,x=>if k=n then (k::ks,x::vs) else let r:=QaJ ks vs n x; (k::r.1,v::r.2)
 | _,_,n,x=>([n],[x])
def lstOf (H:AH):AV->Option (List AV)
 | .lst l=>some l
 | .cell i=>match H[i]? with | some (.lst l)=>some l | _=>none
 | _=>none
def dctOf (H:AH):AV->Option (List String × List AV)
 | .dct ks vs=>some (ks,vs)
 | .cell i=>match H[i]? with | some (.dct ks vs)=>some (ks,vs) | _=>none
 | _=>none
def objOf (H:AH):AV->Option (Nat × List String × List AV)
 | .obj C ks vs=>some (C,ks,vs)
 | .cell i=>match H[i]? with | some (.obj C ks vs)=>some (C,ks,vs) | _=>none
 | _=>none
def seqOf (H:AH):AV->Option (List AV)
 | .tup l=>some l
 | v=>lstOf H v
def itemsOf:AV->Option (List AV)
 | .lst l | .tup l=>some l
 | .rng a b=>some ((List.range (b-a).toNat).map fun i=>.int (a+(i:Nat)))
 | _=>none
def rd (H:AH):AV->AV
 | .cell i=>match H[i]? with
  | some (.lst l)=>.lst l
  | _=>.unset
 | v=>v
def pCmp (H:AH):Cm->AV->AV->Option Bool
 | .eq,a,b=>if AV.data 6 (rd H a)&&AV.data 6 (rd H b) then some (decide (rd H a=rd H b)) else none
 | .ne,.bool a,.bool b=>some (a != b)
 | .ne,a,b=>if AV.data 6 (rd H a)&&AV.data 6 (rd H b) then some (decide (rd H a≠rd H b)) else none
 | .lt,.int a,.int b=>some (decide (a<b))
 | .le,.int a,.int b=>some (decide (a≤b))
 | .gt,.int a,.int b=>some (decide (a>b))
 | .ge,.int a,.int b=>some (decide (a≥b))
 | .is,a,.none=>a.isNone
 | .isnot,a,.none=>a.isNone.map (!·)
 | .isin,.str s,b=>match dctOf H b with
  | some (ks,_)=>some (decide (s∈ks))
  | none=>match b with
   | .tup l | .lst l=>if l.all (AV.data 5) then some (decide (AV.str s∈l)) else none
   | _=>none
 | .notin,.str s,b=>match dctOf H b with
  | some (ks,_)=>some (decide (s ∉ ks))
  | none=>match b with
   | .tup l | .lst l=>if l.all (AV.data 5) then some (decide (AV.str s ∉ l)) else none
   | _=>none
 | _,_,_=>none
def pTruth:AV->Option Bool
 | .bool b=>some b
 | .int i=>some (i != 0)
 | _=>none
def pSub (H:AH):AV->AV->Option AV
 | o,.int i=>match seqOf H o with
  | some l=>if 0≤i then (if l.length≤1000000 then l[i.toNat]? else none) else none
  | none=>none
 | o,.str s=>match dctOf H o with
  | some (ks,vs)=>keyAt ks vs s
  | none=>none
 | _,_=>none
def sumInts:List AV->Option Int
 | []=>some 0
 | .int i::l=>(sumInts l).map (i+·)
 | _=>none
def newC (H:AH) (mu:Bool) (l:List AV):Out AV:=if mu then .ok (.cell H.length) (H++[.lst l]) else .ok (.lst l) H
def pFrz (H:AH):AV->Out AV
 | .cell i=>match H[i]? with
  | some (.lst l)=>if AV.ncs l then .ok (.lst l) (H.set i .dead) else .stuck
  | some (.dct ks l)=>if AV.ncs l then .ok (.dct ks l) (H.set i .dead) else .stuck
  | some (.obj C ks l)=>if AV.ncs l then .ok (.obj C ks l) (H.set i .dead) else .stuck
  | _=>.stuck
 | v=>.ok v H
def loopO {α:Type} (f:AV->α->AH->Out α):List AV->α->AH->Out α
 | [],a,H=>.ok a H
 | x::l,a,H=>match f x a H with
  | .ok a H=>loopO f l a H
  | _=>.stuck
def QaK:List Nat->List AV->List AV->Option (List AV)
 | [],[],ρ=>some ρ
 | k::ks,v::vs,ρ=>QaK ks vs (ρ.set k v)
 | _,_,_=>none
def bindT (t:List Nat) (one:Bool) (x:AV) (ρ:List AV):Option (List AV) :=
 if one then QaK t [x] ρ else match x with
  | .tup l=>QaK t l ρ
  | _=>none
def clrOk:List PG->List AV->Bool
 | [],_=>true
 | .mk t _ _ _::gs,ρ=>t.all (fun k=>match ρ[k]? with | some .unset | none=>true | _=>false)&&clrOk gs ρ
def notCell:AV->Bool
 | .cell _=>false
 | _=>true
def AV.isFn:AV->Bool
 | .kref _ | .lam _=>true
 | _=>false
def callV (C:Orc) (v:AV) (as:List AV) (H:AH):Out AV:=match v with
 | .kref a=>C.f a as H
 | .lam k=>C.l k as H
 | _=>.stuck
mutual
def evE (C:Orc) (ρ:List AV):PE->AH->Out AV
 | .non,H=>.ok .none H
 | .tru b,H=>.ok (.bool b) H
 | .int i,H=>.ok (.int i) H
 | .str s,H=>.ok (.str s) H
 | .loc k,H=>match ρ[k]? with
  | some .unset | none=>.stuck
  | some v=>.ok v H
 | .glob _ v,H=>.ok v H
 | .bin o a b,H=>(evE C ρ a H).bind fun x H=>(evE C ρ b H).bind fun y H=>.ofOpt (pBin o x y) H
 | .neg a,H=>(evE C ρ a H).bind fun x H=>match x with | .int i=>.ok (.int (-i)) H | _=>.stuck
 | .cmp c a b,H=>(evE C ρ a H).bind fun x H=>(evE C ρ b H).bind fun y H=>.ofOpt ((pCmp H c x y).map .bool) H
 | .nt a,H=>(evE C ρ a H).bind fun x H=>.ofOpt ((pTruth x).map fun b=>.bool !b) H
 | .and l,H=>evAnd C ρ l H
 | .or l,H=>evOr C ρ l H
 | .ife t a b,H=>(evE C ρ t H).bind fun c H=>match pTruth c with
  | some true=>evE C ρ a H
  | some false=>evE C ρ b H
  | none=>.stuck
 | .call f as,H=>(evE C ρ f H).bind fun v H=>if v.isFn=true then (evL C ρ as H).bind fun vs H=>callV C v vs H else .stuck
 | .new _ D init as,H=>(evL C ρ as H).bind fun vs H=>(C.f init (.cell H.length::vs) (H++[.obj D [] []])).bind fun r H'=>match r with | .none=>.ok (.cell H.length) H' | _=>.stuck
 | .meth o D _ f as,H=>(evE C ρ o H).bind fun v H=>match objOf H v with
  | some (D',_,_)=>if D'=D then (evL C ρ as H).bind fun vs H=>C.f f (v::vs) H else .stuck
  | none=>.stuck
 | .push o x,H=>(evE C ρ o H).bind fun v H=>match v with
  | .cell i=>match lstOf H v with
   | some _=>(evE C ρ x H).bind fun y H=>match H[i]? with
    | some (.lst l)=>if l.length≤100000 then .ok .none (H.set i (.lst (l++[y]))) else .stuck
    | _=>.stuck
   | none=>.stuck
  | _=>.stuck
 | .pop0 o,H=>(evE C ρ o H).bind fun v H=>match v with
  | .cell i=>match H[i]? with
   | some (.lst (x::l))=>if l.length≤100000 then .ok x (H.set i (.lst l)) else .stuck
   | _=>.stuck
  | _=>.stuck
 | .dget o k,H=>(evE C ρ o H).bind fun v H=>match v with
  | .dct ks vs=>(evE C ρ k H).bind fun x H=>match x with
   | .str s=>.ok ((keyAt ks vs s).getD .none) H
   | _=>.stuck
  | _=>.stuck
 | .attr o n,H=>(evE C ρ o H).bind fun v H=>match objOf H v with
  | some (_,ks,vs)=>.ofOpt (keyAt ks vs n) H
  | none=>.stuck
 | .sub o i,H=>(evE C ρ o H).bind fun v H=>(evE C ρ i H).bind fun x H=>.ofOpt (pSub H v x) H
 | .upto o i,H=>(evE C ρ o H).bind fun v H=>(evE C ρ i H).bind fun x H=>match v,x with
  | .lst l,.int k=>if 0≤k∧k<1000000∧l.length≤1000000 then .ok (.lst (l.take k.toNat)) H else .stuck
  | _,_=>.stuck
 | .from o i,H=>(evE C ρ o H).bind fun v H=>(evE C ρ i H).bind fun x H=>match v,x with
  | .lst l,.int k=>if 0≤k∧k≤l.length∧l.length≤1000000 then .ok (.lst (l.drop k.toNat)) H else .stuck
  | _,_=>.stuck
 | .rep o n mu,H=>(evE C ρ o H).bind fun v H=>(evE C ρ n H).bind fun x H=>match x with
  | .int k=>if 0≤k∧k<100000 then newC H mu (List.replicate k.toNat v) else .stuck
  | _=>.stuck
 | .cat a b,H=>(evE C ρ a H).bind fun v H=>(evE C ρ b H).bind fun x H=>match v,x with
  | .lst l,.lst r=>if l.length+r.length≤1000000 then .ok (.lst (l++r)) H else .stuck
  | _,_=>.stuck
 | .len a,H=>(evE C ρ a H).bind fun v H=>match seqOf H v with
  | some l=>if l.length≤1000000 then .ok (.int l.length) H else .stuck
  | none=>.stuck
 | .abs a,H=>(evE C ρ a H).bind fun x H=>match x with | .int i=>.ok (.int i.natAbs) H | _=>.stuck
 | .sum a,H=>(evE C ρ a H).bind fun x H=>match x with
  | .lst l=>.ofOpt ((sumInts l).map .int) H
  | _=>.stuck
 | .min a b,H=>(evE C ρ a H).bind fun x H=>(evE C ρ b H).bind fun y H=>match x,y with | .int i,.int j=>.ok (.int (if j<i then j else i)) H | _,_=>.stuck
 | .intof a,H=>(evE C ρ a H).bind fun x H=>match x with | .int i=>.ok (.int i) H | _=>.stuck
 | .strof a,H=>(evE C ρ a H).bind fun x H=>match x with | .int i=>if i.natAbs<1000000 then .ok (.str (toString i)) H else .stuck | _=>.stuck
 | .range a b,H=>(evE C ρ a H).bind fun x H=>(evE C ρ b H).bind fun y H=>match x,y with
  | .int i,.int j=>if i.natAbs<1000000∧j.natAbs<1000000 then .ok (.rng i j) H else .stuck
  | _,_=>.stuck
 | .range1 a,H=>(evE C ρ a H).bind fun x H=>match x with
  | .int i=>if i.natAbs<1000000 then .ok (.rng 0 i) H else .stuck
  | _=>.stuck
 | .list a mu,H=>(evE C ρ a H).bind fun x H=>match x with
  | .lst l=>if l.length≤100000 then newC H mu l else .stuck
  | _=>.stuck
 | .isinst a _ D,H=>(evE C ρ a H).bind fun x H=>match objOf H x with
  | some (D',_,_)=>if D'=D then .ok (.bool true) H else .stuck
  | none=>.stuck
 | .lst l mu,H=>(evL C ρ l H).bind fun vs H=>newC H mu vs
 | .tup l,H=>(evL C ρ l H).bind fun vs H=>.ok (.tup vs) H
 | .dct ks l mu,H=>(evL C ρ l H).bind fun vs H=>if ks.length=vs.length∧ks.Nodup then (if mu then .ok (.cell H.length) (H++[.dct ks vs]) else .ok (.dct ks vs) H) else .stuck
 | .comp e gs mu,H=>if clrOk gs ρ=true then (evG C (fun ρ H=>evE C ρ e H) gs ρ [] H).bind fun vs H=>newC H mu vs else .stuck
 | .lam k,H=>.ok (.lam k) H
 | .fmt a,H=>(evE C ρ a H).bind fun x H=>match x with | .int i=>if i.natAbs<1000000 then .ok (.str (toString i)) H else .stuck | _=>.stuck
 | .fstr l,H=>evJ C ρ l "" H
 | .frz a,H=>(evE C ρ a H).bind fun v H=>pFrz H v
 | .bad,_=>.stuck
def evL (C:Orc) (ρ:List AV):List PE->AH->Out (List AV)
 | [],H=>.ok [] H
 | e::l,H=>(evE C ρ e H).bind fun v H=>(evL C ρ l H).bind fun vs H=>.ok (v::vs) H
def evJ (C:Orc) (ρ:List AV):List PE->String->AH->Out AV
 | [],acc,H=>.ok (.str acc) H
 | e::l,acc,H=>(evE C ρ e H).bind fun v H=>match v with
  | .str s=>if (acc++s).length≤100000 then evJ C ρ l (acc++s) H else .stuck
  | _=>.stuck
def evAnd (C:Orc) (ρ:List AV):List PE->AH->Out AV
 | [],_=>.stuck
 | e::l,H=>(evE C ρ e H).bind fun v H=>match l with
  | []=>.ok v H
  | _::_=>match pTruth v with
   | some true=>evAnd C ρ l H
   | some false=>.ok v H
   | none=>.stuck
def evOr (C:Orc) (ρ:List AV):List PE->AH->Out AV
 | [],_=>.stuck
 | e::l,H=>(evE C ρ e H).bind fun v H=>match l with
  | []=>.ok v H
  | _::_=>match pTruth v with
   | some false=>evOr C ρ l H
   | some true=>.ok v H
   | none=>.stuck
def evIfs (C:Orc) (ρ:List AV):List PE->AH->Out Bool
 | [],H=>.ok true H
 | e::l,H=>(evE C ρ e H).bind fun v H=>match pTruth v with
  | some true=>evIfs C ρ l H
  | some false=>.ok false H
  | none=>.stuck
def evG (C:Orc) (k:List AV->AH->Out AV):List PG->List AV->List AV->AH->Out (List AV)
 | [],ρ,acc,H=>(k ρ H).bind fun v H=>if acc.length≤100000 then .ok (acc++[v]) H else .stuck
 | .mk t one it ifs::gs,ρ,acc,H=>(evE C ρ it H).bind fun v H=>match itemsOf v with
  | some l=>loopO (fun x acc H=>match bindT t one x ρ with
   | some ρ'=>(evIfs C ρ' ifs H).bind fun b H=>if b=true then evG C k gs ρ' acc H else .ok acc H
   | none=>.stuck) l acc H
  | none=>.stuck
end
inductive Fl where
 | next | cont | ret (v:AV)
inductive OS where
 | ok (f:Fl) (ρ:List AV) (H:AH) | exc (m:AV) (ρ:List AV) (H:AH) | stuck
def OS.bind:OS->(Fl->List AV->AH->OS)->OS
 | .ok f ρ H,k=>k f ρ H
 | .exc m ρ H,_=>.exc m ρ H
 | .stuck,_=>.stuck
@[simp] theorem OS.bind_ok (f ρ H k):(OS.ok f ρ H).bind k=k f ρ H:=rfl
@[simp] theorem OS.bind_exc (m ρ H k):(OS.exc m ρ H).bind k=.exc m ρ H:=rfl
@[simp] theorem OS.bind_stuck (k):OS.stuck.bind k=.stuck:=rfl
def Out.st {α:Type} (o:Out α) (ρ:List AV) (k:α->AH->OS):OS:=match o with
 | .ok a H=>k a H
 | .exc m H=>.exc m ρ H
 | .stuck=>.stuck
@[simp] theorem Out.st_ok {α:Type} (a:α) (H ρ k):(Out.ok a H).st ρ k=k a H:=rfl
@[simp] theorem Out.st_exc {α:Type} (m:AV) (H ρ) (k:α->AH->OS):(Out.exc m H).st ρ k=.exc m ρ H:=rfl
@[simp] theorem Out.st_stuck {α:Type} (ρ) (k:α->AH->OS):Out.stuck.st ρ k=.stuck:=rfl
def setSub (H:AH) (o i v:AV):Option AH:=match o,i with
 | .cell c,.int k=>match H[c]? with
  | some (.lst l)=>if 0≤k∧k<l.length∧l.length≤1000000 then some (H.set c (.lst (l.set k.toNat v))) else none
  | _=>none
 | .cell c,.str s=>match H[c]? with
  | some (.dct ks vs)=>if ks.length≤100 then some (H.set c (.dct (QaJ ks vs s v).1 (QaJ ks vs s v).2)) else none
  | _=>none
 | _,_=>none
def setAttr (H:AH) (o:AV) (n:String) (v:AV):Option AH:=match o with
 | .cell c=>match H[c]? with
  | some (.obj C ks vs)=>if attrC C n=true∧ks.length≤100 then some (H.set c (.obj C (QaJ ks vs n v).1 (QaJ ks vs n v).2)) else none
  | _=>none
 | _=>none
mutual
def asg (C:Orc):PT->AV->List AV->AH->OS
 | .loc k,v,ρ,H=>.ok .next (ρ.set k v) H
 | .attr o n,v,ρ,H=>(evE C ρ o H).st ρ fun x H=>match Mine.setAttr H x n v with
  | some H=>.ok .next ρ H
  | none=>.stuck
 | .sub o i,v,ρ,H=>(evE C ρ o H).st ρ fun x H=>(evE C ρ i H).st ρ fun y H=>match setSub H x y v with
  | some H=>.ok .next ρ H
  | none=>.stuck
 | .tup ts,v,ρ,H=>match v with
  | .tup l | .lst l=>if l.length=ts.length then asgs C ts l ρ H else .stuck
  | _=>.stuck
def asgs (C:Orc):List PT->List AV->List AV->AH->OS
 | [],_,ρ,H=>.ok .next ρ H
 | t::ts,v::vs,ρ,H=>(asg C t v ρ H).bind fun _ ρ H=>asgs C ts vs ρ H
 | _::_,[],_,_=>.stuck
end
def loopS (f:AV->List AV->AH->OS):List AV->List AV->AH->OS
 | [],ρ,H=>.ok .next ρ H
 | x::l,ρ,H=>match f x ρ H with
  | .ok (.ret v) ρ H=>.ok (.ret v) ρ H
  | .ok _ ρ H=>loopS f l ρ H
  | _=>.stuck
def whileN (t:List AV->AH->Out Bool) (b:List AV->AH->OS):Nat->List AV->AH->OS
 | 0,_,_=>.stuck
 | n+1,ρ,H=>match t ρ H with
  | .ok true H=>match b ρ H with
   | .ok (.ret v) ρ H=>.ok (.ret v) ρ H
   | .ok _ ρ H=>whileN t b n ρ H
   | _=>.stuck
  | .ok false H=>.ok .next ρ H
  | _=>.stuck
open Classical in
def whileO (t:List AV->AH->Out Bool) (b:List AV->AH->OS) (ρ:List AV) (H:AH):OS :=
 if h:∃n,whileN t b n ρ H≠.stuck then whileN t b (Classical.choose h) ρ H else .stuck
def evT (C:Orc) (ρ:List AV) (e:PE) (H:AH):Out Bool:=(evE C ρ e H).bind fun v H=>.ofOpt (pTruth v) H
mutual
def evS (C:Orc):PS->List AV->AH->OS
 | .asg t e,ρ,H=>(evE C ρ e H).st ρ fun v H=>asg C t v ρ H
 | .aug k o e,ρ,H=>(evE C ρ (.loc k) H).st ρ fun x H=>(evE C ρ e H).st ρ fun y H=>match pBin o x y with
  | some v=>.ok .next (ρ.set k v) H
  | none=>.stuck
 | .exp e,ρ,H=>(evE C ρ e H).st ρ fun v H=>match v with
  | .none | .int _=>.ok .next ρ H
  | _=>.stuck
 | .ret e,ρ,H=>(evE C ρ e H).st ρ fun v H=>.ok (.ret v) ρ H
 | .ret0,ρ,H=>.ok (.ret .none) ρ H
 | .ite t a b,ρ,H=>(evT C ρ t H).st ρ fun c H=>if c=true then evSs C a ρ H else evSs C b ρ H
 | .whl t b,ρ,H=>whileO (fun ρ H=>evT C ρ t H) (fun ρ H=>evSs C b ρ H) ρ H
 | .for_ t one it b,ρ,H=>(evE C ρ it H).st ρ fun v H=>match itemsOf v with
  | some l=>loopS (fun x ρ H=>match bindT t one x ρ with
   | some ρ=>evSs C b ρ H
   | none=>.stuck) l ρ H
  | none=>.stuck
 | .cont,ρ,H=>.ok .cont ρ H
 | .pass,ρ,H=>.ok .next ρ H
 | .raise e,ρ,H=>(evE C ρ e H).st ρ fun v H=>.exc v ρ H
 | .tryR b k ek,ρ,H=>match evSs C b ρ H with
  | .exc m ρ H=>if ek<ρ.length then .ok .next ((ρ.set k m).set ek .unset) H else .stuck
  | o=>o
 | .bad,_,_=>.stuck
def evSs (C:Orc):List PS->List AV->AH->OS
 | [],ρ,H=>.ok .next ρ H
 | p::r,ρ,H=>(evS C p ρ H).bind fun f ρ H=>match f with
  | .next=>evSs C r ρ H
  | f=>.ok f ρ H
end
structure FD where
 np:Nat
 dflt:List AV
 ns:Nat
 body:List PS
def FD.frame (d:FD) (as:List AV):Option (List AV) :=
 if as.length≤d.np∧d.np≤as.length+d.dflt.length then
  some (as++d.dflt.drop (as.length+d.dflt.length-d.np)++List.replicate (d.ns-d.np) .unset) else none
def OS.out (o:OS):Out AV:=match o with
 | .ok (.ret v) _ H=>.ok v H
 | .ok _ _ H=>.ok .none H
 | .exc m _ H=>.exc m H
 | .stuck=>.stuck
@[simp] theorem OS.out_ret (v ρ H):(OS.ok (.ret v) ρ H).out=.ok v H:=rfl
@[simp] theorem OS.out_next (ρ H):(OS.ok .next ρ H).out=.ok .none H:=rfl
@[simp] theorem OS.out_exc (m ρ H):(OS.exc m ρ H).out=.exc m H:=rfl
def pureOut (H:AH) (o:Out AV):Out AV:=match o with
 | .ok v _=>if v.nc=true then .ok v H else .stuck
 | .exc m _=>if m.nc=true then .exc m H else .stuck
 | .stuck=>.stuck
def runF (C:Orc) (d:FD) (as:List AV) (H:AH):Out AV:=match d.frame as with
 | some ρ=>(evSs C d.body ρ H).out
 | none=>.stuck
open Classical in
def run (T:Nat->Option (Bool × FD)) (U:Nat->Option FD):Nat->Orc
 | 0=>⟨fun _ _ _=>.stuck,fun _ _ _=>.stuck⟩
 | n+1=>⟨fun f as H=>match T f with
   | some (true,d)=>if AV.ncs as=true then pureOut H (runF (run T U n) d as []) else .stuck
   | some (false,d)=>runF (run T U n) d as H
   | none=>.stuck,
  fun k as H=>match U k with
   | some d=>if AV.ncs as=true then pureOut H (runF (run T U n) d as []) else .stuck
   | none=>.stuck⟩
end
section
abbrev CM:=List (Addr × List Addr)
def adr (cm:CM):List Addr:=cm.flatMap (·.2)
def stab (o:Obj):Bool:=match o.data with
 | .fields _=>o.cls==.type "range"||o.cls==.type "code"
 | _=>true
abbrev Rl:=Addr->Obj->Prop
def Rr (FX:List Addr) (cm:CM) (h:Heap):Rl:=fun a o=>h.get? a=some o∧stab o=true∧a ∉ FX∧a ∉ adr cm
abbrev rangeObj (a b:Int) (t u v:Tok):Obj:={cls:=.type "range",dict:=none,data:=.fields #[.int a t,.int b u,.int 1 v],slots:=#[]}
section
variable (w:World) (LO:Nat->FuncData->Prop) (R:Rl) (cm:CM)
mutual
def rep:AV->Value->Prop
 | .unset,_=>False
 | .none,v=>v=.none
 | .bool b,v=>v=.bool b
 | .int i,v=>∃t,v=.int i t
 | .str s,v=>∃t,v=.str (Str.ofString s) t
 | .tup l,v=>∃a o vs n,v=.ref a∧R a o∧o.cls=.type "tuple"∧o.data=.seq (List.toArray vs) n∧reps l vs
 | .lst l,v=>∃a o vs n,v=.ref a∧R a o∧o.cls=.type "list"∧o.data=.seq (List.toArray vs) n∧reps l vs
 | .dct ks l,v=>∃a o kvs,v=.ref a∧R a o∧a≠1∧o.IsDictOf (strKind P0 w) kvs∧repk ks l kvs
 | .obj C ks l,v=>∃x d ds n,v=.ref x∧R x (instObj C d)∧R d (dictOf ds n)∧(∀k∈ks,attrC C k=true)∧repd ks l ds
 | .cell i,v=>∃p,cm[i]?=some p∧v=.ref p.1
 | .kref a,v=>v=.ref a
 | .rng a b,v=>∃r t u w,v=.ref r∧R r (rangeObj a b t u w)∧a.natAbs<1000000∧b.natAbs<1000000
 | .lam k,v=>∃r o,v=.ref r∧R r o∧∃fd c' oc vs t,o.data=.func fd∧fd.code=.ref c'∧R c' oc∧oc.data=.fields vs∧vs[1]?=some (.str fd.qualname t)∧LO k fd
def repk:List String->List AV->List (Str × Value)->Prop
 | ks,[],kvs=>ks=[]∧kvs=[]
 | ks,x::l,kvs=>∃k ks' v r,ks=k::ks'∧kvs=(Str.ofString k,v)::r∧rep x v∧repk ks' l r
def reps:List AV->List Value->Prop
 | [],vs=>vs=[]
 | x::l,vs=>∃v r,vs=v::r∧rep x v∧reps l r
def repd:List String->List AV->List DictEntry->Prop
 | ks,[],ds=>ks=[]∧ds=[]
 | ks,x::l,ds=>∃k ks' v t r,ks=k::ks'∧ds=⟨PyData.keyHash w.params (Str.ofString k),.str (Str.ofString k) t,v⟩::r∧rep x v∧repd ks' l r
end
end
section
variable {w:World} {LO:Nat->FuncData->Prop} {R R':Rl} {cm cm':CM}
def CMle (cm cm':CM):Prop:=∀(i:Nat) p,cm[i]?=some p->∃p',cm'[i]?=some p'∧p'.1=p.1∧(p'.2=p.2∨p'.2=[])
theorem CMle.refl (cm:CM):CMle cm cm:=fun _ p e=>⟨p,e,rfl,.inl rfl⟩
theorem CMle.trans {a b c:CM} (x:CMle a b) (y:CMle b c):CMle a c:=fun i p e=>by
 obtain⟨p1,e1,f1,g1⟩:=x i p e;obtain⟨p2,e2,f2,g2⟩:=y i p1 e1;refine⟨p2,e2,f2.trans f1,?_⟩;rcases g2 with g2 | g2
 ·rcases g1 with g1 | g1
  ·exact .inl (g2.trans g1)
  ·exact .inr (g2.trans g1)
 ·exact .inr g2
mutual
theorem rep_mono (hR:∀a o,R a o->R' a o) (hc:CMle cm cm'):∀(x:AV) (v:Value),rep w LO R cm x v->rep w LO R' cm' x v
 | .unset,_,h=>h.elim
 | .none,_,h=>h
 | .bool _,_,h=>h
 | .int _,_,h=>h
 | .str _,_,h=>h
 | .tup l,_,⟨a,o,vs,n,e,r,c,d,z⟩=>⟨a,o,vs,n,e,hR _ _ r,c,d,reps_mono hR hc l vs z⟩
 | .lst l,_,⟨a,o,vs,n,e,r,c,d,z⟩=>⟨a,o,vs,n,e,hR _ _ r,c,d,reps_mono hR hc l vs z⟩
 | .dct ks l,_,⟨a,o,kvs,e,r,lo,d,z⟩=>⟨a,o,kvs,e,hR _ _ r,lo,d,repk_mono hR hc ks l kvs z⟩
 | .obj _ ks l,_,⟨a,d,ds,n,e,r,r2,ac,z⟩=>⟨a,d,ds,n,e,hR _ _ r,hR _ _ r2,ac,repd_mono hR hc ks l ds z⟩
 | .cell i,_,⟨p,e,q⟩=>by obtain⟨p',e',f,_⟩:=hc i p e; exact⟨p',e',by rw[f]; exact q⟩
 | .kref _,_,h=>h
 | .rng _ _,_,⟨r,t,u,w,e,q,z⟩=>⟨r,t,u,w,e,hR _ _ q,z⟩
 | .lam _,_,⟨r,o,e,q,fd,c',oc,vs,t,z1,z2,z3,z4⟩=>⟨r,o,e,hR _ _ q,fd,c',oc,vs,t,z1,z2,hR _ _ z3,z4⟩
theorem reps_mono (hR:∀a o,R a o->R' a o) (hc:CMle cm cm'):∀(l:List AV) (vs:List Value),reps w LO R cm l vs->reps w LO R' cm' l vs
 | [],_,h=>h
 | x::l,_,⟨v,r,e,h1,h2⟩=>⟨v,r,e,rep_mono hR hc x v h1,reps_mono hR hc l r h2⟩
theorem repk_mono (hR:∀a o,R a o->R' a o) (hc:CMle cm cm'):∀(ks:List String) (l:List AV) (ds:List (Str × Value)),repk w LO R cm ks l ds->repk w LO R' cm' ks l ds
 | _,[],_,h=>h
 | _,x::l,_,⟨k,ks',v,r,e1,e2,h1,h2⟩=>⟨k,ks',v,r,e1,e2,rep_mono hR hc x v h1,repk_mono hR hc ks' l r h2⟩
theorem repd_mono (hR:∀a o,R a o->R' a o) (hc:CMle cm cm'):∀(ks:List String) (l:List AV) (ds:List DictEntry),repd w LO R cm ks l ds->repd w LO R' cm' ks l ds
 | _,[],_,h=>h
 | _,x::l,_,⟨k,ks',v,t,r,e1,e2,h1,h2⟩=>⟨k,ks',v,t,r,e1,e2,rep_mono hR hc x v h1,repd_mono hR hc ks' l r h2⟩
end
theorem Qan:∀{l:List AV} {vs:List Value},reps w LO R cm l vs->vs.length=l.length
 | [],_,h=>by rw[show _=[] from h]; rfl
 | x::l,_,⟨v,r,e,_,h⟩=>by rw[e,List.length_cons,List.length_cons,Qan h]
theorem QfS:∀{l:List AV} {vs:List Value} {i:Nat} {x:AV},reps w LO R cm l vs->l[i]?=some x->∃v,vs[i]?=some v∧rep w LO R cm x v
 | [],_,i,x,_,h=>by simp at h
 | y::l,_,0,x,⟨v,r,e,h1,_⟩,h=>by cases h; subst e; exact⟨v,rfl,h1⟩
 | y::l,_,i+1,x,⟨v,r,e,_,h2⟩,h=>by subst e; exact QfS (i:=i) h2 (by simpa using h)
theorem QbN:∀{l m:List AV} {vs ws:List Value},reps w LO R cm l vs->reps w LO R cm m ws->reps w LO R cm (l++m) (vs++ws)
 | [],m,_,ws,h,k=>by rw[show _=[] from h]; exact k
 | x::l,m,_,ws,⟨v,r,e,h1,h2⟩,k=>by subst e; exact⟨v,r++ws,rfl,h1,QbN h2 k⟩
theorem Qir {x:AV} {v:Value} (h:rep w LO R cm x v):reps w LO R cm [x] [v]:=⟨v,[],rfl,h,rfl⟩
theorem QgN:∀{l:List AV} {vs:List Value} (n:Nat),reps w LO R cm l vs->reps w LO R cm (l.take n) (vs.take n)
 | [],_,n,h=>by rw[show _=[] from h]; simp[reps]
 | x::l,_,0,⟨v,r,e,h1,h2⟩=>by simp[reps]
 | x::l,_,n+1,⟨v,r,e,h1,h2⟩=>by subst e; exact⟨v,r.take n,rfl,h1,QgN n h2⟩
theorem QgO:∀{l:List AV} {vs:List Value} (n:Nat),reps w LO R cm l vs->reps w LO R cm (l.drop n) (vs.drop n)
 | [],_,n,h=>by rw[show _=[] from h]; simp[reps]
 | x::l,_,0,h=>h
 | x::l,_,n+1,⟨v,r,e,h1,h2⟩=>by subst e; exact QgO n h2
theorem Qis:∀{l:List AV} {vs:List Value} {x:AV} {v:Value} (n:Nat),reps w LO R cm l vs->rep w LO R cm x v->reps w LO R cm (l.set n x) (vs.set n v)
 | [],_,_,_,n,h,_=>by rw[show _=[] from h]; simp[reps]
 | y::l,_,_,_,0,⟨w,r,e,h1,h2⟩,k=>by subst e; exact⟨_,r,rfl,k,h2⟩
 | y::l,_,_,_,n+1,⟨w,r,e,h1,h2⟩,k=>by subst e; exact⟨w,_,rfl,h1,Qis n h2 k⟩
theorem Qdf {x:AV} {v:Value} (h:rep w LO R cm x v):∀n,reps w LO R cm (List.replicate n x) (List.replicate n v)
 | 0=>rfl
 | n+1=>⟨v,List.replicate n v,rfl,h,Qdf h n⟩
mutual
theorem Qit (cm2:CM):∀(x:AV) (v:Value),x.nc=true->rep w LO R cm x v->rep w LO R cm2 x v
 | .unset,_,_,h=>h.elim
 | .none,_,_,h=>h
 | .bool _,_,_,h=>h
 | .int _,_,_,h=>h
 | .str _,_,_,h=>h
 | .tup l,_,q,⟨a,o,vs,n,e,r,c,d,z⟩=>⟨a,o,vs,n,e,r,c,d,Qd3 cm2 l vs q z⟩
 | .lst l,_,q,⟨a,o,vs,n,e,r,c,d,z⟩=>⟨a,o,vs,n,e,r,c,d,Qd3 cm2 l vs q z⟩
 | .dct ks l,_,q,⟨a,o,kvs,e,r,lo,d,z⟩=>⟨a,o,kvs,e,r,lo,d,QhN cm2 ks l kvs q z⟩
 | .obj _ ks l,_,q,⟨a,d,ds,n,e,r,r2,ac,z⟩=>⟨a,d,ds,n,e,r,r2,ac,QfT cm2 ks l ds q z⟩
 | .cell i,_,q,_=>by cases q
 | .kref _,_,_,h=>h
 | .rng _ _,_,_,h=>h
 | .lam _,_,_,h=>h
theorem Qd3 (cm2:CM):∀(l:List AV) (vs:List Value),AV.ncs l=true->reps w LO R cm l vs->reps w LO R cm2 l vs
 | [],_,_,h=>h
 | x::l,_,q,⟨v,r,e,h1,h2⟩=>by
  simp only[AV.ncs,Bool.and_eq_true] at q;exact⟨v,r,e,Qit cm2 x v q.1 h1,Qd3 cm2 l r q.2 h2⟩
theorem QhN (cm2:CM):∀(ks:List String) (l:List AV) (ds:List (Str × Value)),AV.ncs l=true->repk w LO R cm ks l ds->repk w LO R cm2 ks l ds
 | _,[],_,_,h=>h
 | _,x::l,_,q,⟨k,ks',v,r,e1,e2,h1,h2⟩=>by
  simp only[AV.ncs,Bool.and_eq_true] at q;exact⟨k,ks',v,r,e1,e2,Qit cm2 x v q.1 h1,QhN cm2 ks' l r q.2 h2⟩
theorem QfT (cm2:CM):∀(ks:List String) (l:List AV) (ds:List DictEntry),AV.ncs l=true->repd w LO R cm ks l ds->repd w LO R cm2 ks l ds
 | _,[],_,_,h=>h
 | _,x::l,_,q,⟨k,ks',v,t,r,e1,e2,h1,h2⟩=>by
  simp only[AV.ncs,Bool.and_eq_true] at q;exact⟨k,ks',v,t,r,e1,e2,Qit cm2 x v q.1 h1,QfT cm2 ks' l r q.2 h2⟩
end
end
end
section
abbrev gh:Addr:=1103
structure Cx where
 w:World
 h_1:Heap
 os_1:OsState
 LO:Nat->FuncData->Prop
 lq:Str
 p:Program
 loose:List Str
 mg:Str->Option Value
 mb:Str->Option Value
 X:(KX w.params).In h_1
 T:TopRead p loose mg mb h_1
 glow:h_1.get? gh≠none
 one:h_1.get? 1≠none
 blt:h_1.BuiltinsAt mg gh
section
variable (c:Cx)
abbrev Cx.rep (c:Cx) (FX:List Addr) (cm:CM) (h:Heap):AV->Value->Prop:=Mine.rep c.w c.LO (Rr FX cm h) cm
abbrev Cx.reps (c:Cx) (FX:List Addr) (cm:CM) (h:Heap):List AV->List Value->Prop:=Mine.reps c.w c.LO (Rr FX cm h) cm
abbrev Cx.repk (c:Cx) (FX:List Addr) (cm:CM) (h:Heap):List String->List AV->List (Str × Value)->Prop:=Mine.repk c.w c.LO (Rr FX cm h) cm
abbrev Cx.repd (c:Cx) (FX:List Addr) (cm:CM) (h:Heap):List String->List AV->List DictEntry->Prop:=Mine.repd c.w c.LO (Rr FX cm h) cm
def cellOk (FX:List Addr) (cm:CM) (h:Heap):Addr × List Addr->AC->Prop
 | (a,l),.lst vs=>l=[a]∧∃xs o n,h.get? a=some o∧o.cls=.type "list"∧o.data=.seq (List.toArray xs) n∧o.dict=none∧o.slots=#[]∧c.reps FX cm h vs xs
 | (a,l),.dct ks vs=>l=[a]∧∃o kvs,h.get? a=some o∧o.IsDictOf (strKind P0 c.w) kvs∧ks.length≤900∧c.repk FX cm h ks vs kvs
 | (a,l),.obj C ks vs=>∃d,l=[a,d]∧a≠d∧∃ds n,h.get? a=some (instObj C d)∧h.get? d=some (dictOf ds n)∧ks.length≤900∧(∀k∈ks,attrC C k=true)∧c.repd FX cm h ks vs ds
 | (_,l),.dead=>l=[]
def TabOk (FX:List Addr) (cm:CM) (h:Heap):Prop:=∃ps,h.get? gh=some (tabObj ps)∧TriplesOk ps.toList ∧
 ∀pos cv,codeAmong pos ps.toList=some cv->∃c' oc vs t,cv=.ref c'∧Rr FX cm h c' oc∧oc.data=.fields vs∧vs[1]?=some (.str c.lq t)
structure Base (FX:List Addr) (s:Shared) (H:AH) (cm:CM):Prop where
 len:cm.length=H.length
 cells:∀(i:Nat) p x,cm[i]?=some p->H[i]?=some x->cellOk c FX cm s.heap p x
 lo:∀a,a∈FX∨a∈adr cm->c.h_1.get? a=none∧s.heap.get? a≠none
 dj:∀a,a∈FX->a ∉ adr cm
 nd:(adr cm).Nodup
 old:∀b o,b≠gh->c.h_1.get? b=some o->s.heap.get? b=some o
 gens:s.gens=#[]
 os:s.os=c.os_1
 tab:TabOk c FX cm s.heap
theorem TabOk.mono {c:Cx} {FX FX':List Addr} {cm cm':CM} {h h':Heap} (t:TabOk c FX cm h) (k:∀o,h.get? gh=some o->h'.get? gh=some o) (r:∀a o,Rr FX cm h a o->Rr FX' cm' h' a o):TabOk c FX' cm' h' :=
 let ⟨ps,e,ok,z⟩:=t; ⟨ps,k _ e,ok,fun pos cv q=>let ⟨c',oc,vs,tt,e1,e2,e3⟩:=z pos cv q; ⟨c',oc,vs,tt,e1,r _ _ e2,e3⟩⟩
end
structure Nx (FA FO:List Addr) (s:Shared) (cm:CM) (s':Shared) (cm':CM):Prop where
 keep:∀a o,s.heap.get? a=some o->a≠gh->a ∉ FA->a ∉ FO->a ∉ adr cm->s'.heap.get? a=some o
 outer:∀a o,s.heap.get? a=some o->a∈FO->∃sl,s'.heap.get? a=some {o with slots:=sl}
 cms:CMle cm cm'
 new:∀a,a∈adr cm'->a∈adr cm∨s.heap.get? a=none∨a=gh∨a∈FA∨a∈FO
 alive:∀a,s.heap.get? a≠none->s'.heap.get? a≠none
theorem Nx.refl (FA FO s cm):Nx FA FO s cm s cm:=⟨fun _ _ e _ _ _ _=>e,fun _ o e _=>⟨o.slots,e⟩,CMle.refl _,fun _ h=>.inl h,fun _ h=>h⟩
theorem Nx.out {FA FO s cm s' cm'} (x:Nx FA FO s cm s' cm') {a:Addr} {o:Obj} (e:s.heap.get? a=some o) (h0:a≠gh) (h1:a ∉ FA) (h2:a ∉ FO) (h3:a ∉ adr cm):a ∉ adr cm':=fun q=>by
 rcases x.new a q with q | q | q | q | q
 ·exact h3 q
 ·rw[q] at e; cases e
 ·exact h0 q
 ·exact h1 q
 ·exact h2 q
theorem Nx.trans {FA FO s cm s' cm' s'' cm''} (x:Nx FA FO s cm s' cm') (y:Nx FA FO s' cm' s'' cm''):Nx FA FO s cm s'' cm'' where
 keep a o e h0 h1 h2 h3:=y.keep a o (x.keep a o e h0 h1 h2 h3) h0 h1 h2 (x.out e h0 h1 h2 h3)
 outer a o e h:=by
  obtain⟨sl,e1⟩:=x.outer a o e h;obtain⟨sl',e2⟩:=y.outer a _ e1 h;exact⟨sl',e2⟩
 cms:=x.cms.trans y.cms
 new a h:=by
  rcases y.new a h with h | h | h
  ·exact x.new a h
  ·cases e:s.heap.get? a with
   | none=>exact .inr (.inl rfl)
   | some o =>
    by_cases h0:a=gh
    ·exact .inr (.inr (.inl h0))
    by_cases h1:a∈FA
    ·exact .inr (.inr (.inr (.inl h1)))
    by_cases h2:a∈FO
    ·exact .inr (.inr (.inr (.inr h2)))
    by_cases h3:a∈adr cm
    ·exact .inl h3
    rw[x.keep a o e h0 h1 h2 h3] at h;cases h
  ·exact .inr (.inr h)
 alive a h:=y.alive a (x.alive a h)
theorem Rr.keeps {FA FO FX cm cm' s s'} (x:Nx FA FO s cm s' cm') (hFX:∀a,a∈FA∨a∈FO->a∈FX) (hg:∃ps,s.heap.get? gh=some (tabObj ps)):∀a o,Rr FX cm s.heap a o->Rr FX cm' s'.heap a o:=fun a o ⟨e,hs,h1,h2⟩=>by
 have h1':a ∉ FA∧a ∉ FO:=⟨fun q=>h1 (hFX a (.inl q)),fun q=>h1 (hFX a (.inr q))⟩;have h0:a≠gh:=fun q=>by
  obtain⟨ps,hp⟩:=hg;subst q;rw[hp] at e;cases e;simp[stab] at hs
 exact⟨x.keep a o e h0 h1'.1 h1'.2 h2,hs,h1,x.out e h0 h1'.1 h1'.2 h2⟩
structure EnvS (env:Env) (sc:List (Str × NameKind)) (σ:List (Str × Nat)) (ow:Str->Bool) (FA FO:List Addr):Prop where
 names:env.scope.names=sc
 kind:env.scope.kind=.function
 globals:env.globals=mainGlobals
 builtins:env.builtins=builtinsNs
 loc:env.locals∈FA
 inj:∀x y c,env.cells.lookup x=some c->env.cells.lookup y=some c->x=y
 cell:∀x k kd,σ.lookup x=some k->sc.lookup x=some kd->(kd=.cell∨kd=.free)->∃c,env.cells.lookup x=some c∧c≠env.locals∧(c∈FA∨c∈FO)∧(ow x=true->c∈FA)
 slots:∀x y k kx ky,σ.lookup x=some k->σ.lookup y=some k->sc.lookup x=some kx->sc.lookup y=some ky->x=y
section
variable (c:Cx)
def slotIs (FX:List Addr) (cm:CM) (h:Heap) (ρ:List AV) (k:Nat) (v:Option Value):Prop :=
 ∀av,ρ[k]?=some av->av≠.unset->∃x,v=some x∧c.rep FX cm h av x
structure Fm where
 env:Env
 sc:List (Str × NameKind)
 σ:List (Str × Nat)
 ow:Str->Bool
 FA:List Addr
 FO:List Addr
 FZ:List Addr
 fs:List Env
 ok:EnvS env sc σ ow FA FO
abbrev Fm.FX (f:Fm):List Addr:=f.FA++(f.FO++f.FZ)
structure Inv (f:Fm) (s:Shared) (ρ:List AV) (H:AH) (cm:CM):Prop where
 base:Base c f.FX s H cm
 dj:∀a,a∈f.FA->a ∉ f.FO∧a ∉ f.FZ
 dj2:∀a,a∈f.FO->a ∉ f.FZ
 ns:∃m,s.heap.Ns f.env.locals m∧∀x k,f.σ.lookup x=some k->f.sc.lookup x=some .local->slotIs c f.FX cm s.heap ρ k (m x)
 cl:∀x k kd a,f.σ.lookup x=some k->f.sc.lookup x=some kd->(kd=.cell∨kd=.free)->f.env.cells.lookup x=some a ->
  ∃o ov,s.heap.get? a=some o∧o.data=.cell ov∧slotIs c f.FX cm s.heap ρ k ov
 frs:∀e∈f.fs,e.scope.kind≠.module∧∃L o,e.frame=some L∧s.heap.get? L=some o∧(∀vs,o.data≠.fields vs)∧(L∈f.FA∨L∈f.FO)
structure Room (f:Fm) (A:Around) (n:Nat):Prop where
 hh:A.handled=none
 depth:A.depth+3*n+10≤900
 units:A.units+40*n+100≤9000
 frames:A.frames=some f.fs
structure RoomC (f:Fm) (A:Around) (n:Nat):Prop where
 hh:A.handled=none
 depth:A.depth+3*n+8≤900
 units:A.units+40*n+80≤9000
 frames:A.frames=some f.fs
theorem Room.call {f:Fm} {A:Around} {n:Nat} (r:Room f A n):RoomC f A n:=⟨r.hh,by have:=r.depth; omega,by have:=r.units; omega,r.frames⟩
def ExcF (h0:Heap) (FX:List Addr) (cm:CM) (h:Heap) (fl:Option Value) (e:Value) (m:AV):Prop :=
 ∃a o d vs ds n,e=.ref a∧h.get? a=some o∧o.cls=.ref 51∧o.dict=some d∧o.data=.fields vs∧h0.get? a=none∧a ∉ FX∧a ∉ adr cm ∧
  Rr FX cm h d (dictOf ds n)∧c.repd FX cm h ["message"] [m] ds∧(match fl with
   | none=>vs[1]?=some .none
   | some v=>∃T oT ts,vs[1]?=some (.ref T)∧T≠a∧h.get? T=some oT∧oT.cls=.type "traceback"∧oT.data=.fields ts∧ts[3]?=some v∧h0.get? T=none∧T ∉ FX∧T ∉ adr cm)
def ExcAt (h0:Heap) (FX:List Addr) (cm:CM) (h:Heap) (e:Value) (m:AV):Prop:=ExcF c h0 FX cm h none e m∨ExcF c h0 FX cm h (some .none) e m
def GPost {α β:Type} (rp:CM->Heap->α->β->Prop) (f:Fm) (ρ:List AV) (s:Shared) (cm:CM) (o:Out α) (Q:β->Shared->Prop) (E:Value->Shared->Prop):Prop:=match o with
 | .ok v H=>∀x s' cm',Nx f.FA f.FO s cm s' cm'->Inv c f s' ρ H cm'->rp cm' s'.heap v x->Q x s'
 | .exc m H=>∀e s' cm',Nx f.FA f.FO s cm s' cm'->Inv c f s' ρ H cm'->ExcAt c s.heap f.FX cm' s'.heap e m->E e s'
 | .stuck=>False
abbrev EPost (f:Fm):=GPost c (c.rep f.FX) f
abbrev LPost (f:Fm):=GPost c (c.reps f.FX) f
abbrev TPost (f:Fm):=GPost c (fun _ _ (a b:Bool)=>a=b) f
end
end
section
section
variable {c:Cx} {f:Fm} {s s' s_1 s_2:Shared} {ρ:List AV} {H H':AH} {cm cm' cm_1:CM} {FX FA FO:List Addr} {A:Around} {Q:Value->Shared->Prop} {E:Value->Shared->Prop}
theorem Cx.rep_mono {h h':Heap} {FX':List Addr} (hR:∀a o,Rr FX cm h a o->Rr FX' cm' h' a o) (hc:CMle cm cm') {x:AV} {v:Value} (r:c.rep FX cm h x v):c.rep FX' cm' h' x v:=Mine.rep_mono hR hc x v r
theorem Cx.reps_mono {h h':Heap} {FX':List Addr} (hR:∀a o,Rr FX cm h a o->Rr FX' cm' h' a o) (hc:CMle cm cm') {x:List AV} {v:List Value} (r:c.reps FX cm h x v):c.reps FX' cm' h' x v:=Mine.reps_mono hR hc x v r
theorem Cx.repd_mono {h h':Heap} {FX':List Addr} (hR:∀a o,Rr FX cm h a o->Rr FX' cm' h' a o) (hc:CMle cm cm') {ks:List String} {x:List AV} {v:List DictEntry} (r:c.repd FX cm h ks x v):c.repd FX' cm' h' ks x v:=Mine.repd_mono hR hc ks x v r
theorem Cx.repk_mono {h h':Heap} {FX':List Addr} (hR:∀a o,Rr FX cm h a o->Rr FX' cm' h' a o) (hc:CMle cm cm') {ks:List String} {x:List AV} {v:List (Str × Value)} (r:c.repk FX cm h ks x v):c.repk FX' cm' h' ks x v:=Mine.repk_mono hR hc ks x v r
theorem Qay {a:Addr} (h:a∈f.FA∨a∈f.FO):a∈f.FX:=h.elim (fun h=>List.mem_append_left _ h) fun h=>List.mem_append_right _ (List.mem_append_left _ h)
theorem Base.gh (b:Base c FX s H cm):∃ps,s.heap.get? gh=some (tabObj ps):=let ⟨ps,h,_⟩:=b.tab; ⟨ps,h⟩
theorem Nx.rr (x:Nx f.FA f.FO s cm s' cm') (b:Base c f.FX s H cm):∀a o,Rr f.FX cm s.heap a o->Rr f.FX cm' s'.heap a o:=Rr.keeps x (fun _ h=>Qay h) b.gh
theorem Nx.rep (x:Nx f.FA f.FO s cm s' cm') (b:Base c f.FX s H cm) {v:AV} {y:Value} (r:c.rep f.FX cm s.heap v y):c.rep f.FX cm' s'.heap v y:=Cx.rep_mono (x.rr b) x.cms r
theorem Nx.reps (x:Nx f.FA f.FO s cm s' cm') (b:Base c f.FX s H cm) {v:List AV} {y:List Value} (r:c.reps f.FX cm s.heap v y):c.reps f.FX cm' s'.heap v y:=Cx.reps_mono (x.rr b) x.cms r
theorem Nx.repd (x:Nx f.FA f.FO s cm s' cm') (b:Base c f.FX s H cm) {ks:List String} {v:List AV} {y:List DictEntry} (r:c.repd f.FX cm s.heap ks v y):c.repd f.FX cm' s'.heap ks v y:=Cx.repd_mono (x.rr b) x.cms r
theorem Nx.repk (x:Nx f.FA f.FO s cm s' cm') (b:Base c f.FX s H cm) {ks:List String} {v:List AV} {y:List (Str × Value)} (r:c.repk f.FX cm s.heap ks v y):c.repk f.FX cm' s'.heap ks v y:=Cx.repk_mono (x.rr b) x.cms r
theorem ExcF.older {h0 h1 h:Heap} {fl:Option Value} {e:Value} {m:AV} (r:ExcF c h1 FX cm h fl e m) (x:∀a,h0.get? a≠none->h1.get? a≠none):ExcF c h0 FX cm h fl e m:=by
 have nn:∀{a},h1.get? a=none->h0.get? a=none:=fun {a} q=>Decidable.byContradiction fun z=>x a z q
 obtain⟨a,o,d,vs,ds,n,h1,h2,h3,h4,h5,h6,h7⟩:=r;refine⟨a,o,d,vs,ds,n,h1,h2,h3,h4,h5,nn h6,?_⟩;obtain⟨g1,g2,g3,g4,g5⟩:=h7;refine⟨g1,g2,g3,g4,?_⟩;cases fl with
 | none=>exact g5
 | some v=>obtain⟨T,oT,ts,q1,q2,q3,q0,q4,q5,q6,q7⟩:=g5; exact⟨T,oT,ts,q1,q2,q3,q0,q4,q5,nn q6,q7⟩
theorem ExcAt.older {h0 h1 h:Heap} {e:Value} {m:AV} (r:ExcAt c h1 FX cm h e m) (x:∀a,h0.get? a≠none->h1.get? a≠none):ExcAt c h0 FX cm h e m:=r.imp (·.older x) (·.older x)
theorem GPost.from {α β:Type} {rp:CM->Heap->α->β->Prop} {o:Out α} {Q:β->Shared->Prop} (h:GPost c rp f ρ s cm o Q E) (x:Nx f.FA f.FO s cm s' cm'):GPost c rp f ρ s' cm' o Q E:=by
 cases o with
 | ok v H=>exact fun y s'' cm'' n=>h y s'' cm'' (x.trans n)
 | exc m H=>exact fun y s'' cm'' n i r=>h y s'' cm'' (x.trans n) i (r.older x.alive)
 | stuck=>exact h
theorem bindG {α β α' β':Type} {rp:CM->Heap->α->β->Prop} {rp':CM->Heap->α'->β'->Prop} {M:Model} {t:Sem β} {o:Out α} {k:α->AH->Out α'} {K:β->Shared->Prop} {Q:β'->Shared->Prop}
  (ih:∀Q,GPost c rp f ρ s cm o Q E->wpAny M A t Q E s) (h:GPost c rp' f ρ s cm (o.bind k) Q E)
  (hk:∀v H_1 x s_1 cm_1,o=.ok v H_1->Nx f.FA f.FO s cm s_1 cm_1->Inv c f s_1 ρ H_1 cm_1->rp cm_1 s_1.heap v x->GPost c rp' f ρ s_1 cm_1 (k v H_1) Q E->K x s_1):wpAny M A t K E s:=by
 refine ih K ?_;cases o with
 | ok v H=>exact fun x s_1 cm_1 n i r=>hk v H x s_1 cm_1 rfl n i r (GPost.from h n)
 | exc m H=>exact h
 | stuck=>exact h.elim
structure Grow (s s':Shared):Prop where
 keep:∀a o,s.heap.get? a=some o->s'.heap.get? a=some o
 gens:s'.gens=s.gens
 os:s'.os=s.os
theorem Grow.toks (s:Shared) (t:Nat):Grow s {s with toks:=t}:=⟨fun _ _ e=>e,rfl,rfl⟩
theorem Grow.push (s:Shared) (o:Obj) (t:Nat):Grow s {s with heap:=s.heap.push o,toks:=t}:=⟨fun _ _ e=>Heap.get?_push_of_some _ e,rfl,rfl⟩
theorem Grow.of {s:Shared} {h':Heap} {tk:Nat} (k:∀a o,s.heap.get? a=some o->h'.get? a=some o):Grow s {s with heap:=h',toks:=tk}:=⟨k,rfl,rfl⟩
theorem Grow.trans (x:Grow s s_1) (y:Grow s_1 s_2):Grow s s_2:=⟨fun a o e=>y.keep a o (x.keep a o e),y.gens.trans x.gens,y.os.trans x.os⟩
theorem Grow.refl (s:Shared):Grow s s:=⟨fun _ _ e=>e,rfl,rfl⟩
theorem Grow.some (g:Grow s s') {a:Addr} (h:s.heap.get? a≠none):s'.heap.get? a≠none:=by
 cases e:s.heap.get? a with
 | none=>exact absurd e h
 | some o=>rw[g.keep a o e]; nofun
theorem Grow.nx (g:Grow s s'):Nx FA FO s cm s' cm:=⟨fun a o e _ _ _ _=>g.keep a o e,fun a o e _=>⟨o.slots,g.keep a o e⟩,.refl _,fun _ h=>.inl h,fun _ h=>g.some h⟩
theorem Grow.rr (g:Grow s s'):∀a o,Rr FX cm s.heap a o->Rr FX cm s'.heap a o:=fun a o ⟨e,r⟩=>⟨g.keep a o e,r⟩
theorem Qap {h h':Heap} {FX':List Addr} {p:Addr × List Addr} {x:AC} (hk:∀a o,a∈p.2->h.get? a=some o->h'.get? a=some o) (hR:∀a o,Rr FX cm h a o->Rr FX' cm' h' a o) (hc:CMle cm cm') (z:cellOk c FX cm h p x):cellOk c FX' cm' h' p x:=by
 obtain⟨a,l⟩:=p;cases x with
 | lst vs=>obtain⟨rfl,xs,o,n,e,r1,r2,r3,r4,z⟩:=z; exact⟨rfl,xs,o,n,hk _ _ (.head _) e,r1,r2,r3,r4,Cx.reps_mono hR hc z⟩
 | dct ks vs=>obtain⟨rfl,o,kvs,e,r1,r2,z⟩:=z; exact⟨rfl,o,kvs,hk _ _ (.head _) e,r1,r2,Cx.repk_mono hR hc z⟩
 | obj C ks vs=>obtain⟨d,rfl,hne,ds,n,e,e2,r1,ac,z⟩:=z; exact⟨d,rfl,hne,ds,n,hk _ _ (.head _) e,hk _ _ (.tail _ (.head _)) e2,r1,ac,Cx.repd_mono hR hc z⟩
 | dead=>exact z
theorem Grow.slot (g:Grow s s') {k:Nat} {v:Option Value} (h:slotIs c FX cm s.heap ρ k v):slotIs c FX cm s'.heap ρ k v:=fun av e n=>let ⟨x,e1,r⟩:=h av e n; ⟨x,e1,Cx.rep_mono g.rr (.refl _) r⟩
theorem Grow.base (g:Grow s s') (b:Base c FX s H cm):Base c FX s' H cm where
 len:=b.len
 cells i p x e1 e2:=Qap (fun a o _ e=>g.keep a o e) g.rr (.refl _) (b.cells i p x e1 e2)
 lo a h:=⟨(b.lo a h).1,g.some (b.lo a h).2⟩
 dj:=b.dj
 nd:=b.nd
 old x o n e:=g.keep _ _ (b.old x o n e)
 gens:=g.gens.trans b.gens
 os:=g.os.trans b.os
 tab:=b.tab.mono (fun _ e=>g.keep _ _ e) g.rr
theorem Grow.inv (g:Grow s s') (i:Inv c f s ρ H cm):Inv c f s' ρ H cm where
 base:=g.base i.base
 dj:=i.dj
 dj2:=i.dj2
 ns:=let ⟨m,n,z⟩:=i.ns; ⟨m,n.keeps g.keep,fun x k e1 e2=>g.slot (z x k e1 e2)⟩
 cl x k kd a e1 e2 e3 e4:=let ⟨o,ov,e,d,z⟩:=i.cl x k kd a e1 e2 e3 e4; ⟨o,ov,g.keep _ _ e,d,g.slot z⟩
 frs e he:=let ⟨h1,L,o,h2,h3,h4⟩:=i.frs e he; ⟨h1,L,o,h2,g.keep _ _ h3,h4⟩
theorem Base.rr_new (b:Base c FX s H cm) {h:Heap} {a:Addr} {o:Obj} (e:h.get? a=some o) (st:stab o=true) (n:s.heap.get? a=none):Rr FX cm h a o :=
 ⟨e,st,fun q=>(b.lo a (.inl q)).2 n,fun q=>(b.lo a (.inr q)).2 n⟩
theorem Qai (h:Heap):h.get? h.objs.size=none:=Heap.get?_none_of_le (Nat.le_refl _)
theorem EPost.end {v:AV} {x:Value} (h:EPost c f ρ s cm (.ok v H) Q E) (i:Inv c f s ρ H cm) (g:Grow s s') (r:c.rep f.FX cm s'.heap v x):Q x s':=h x s' cm g.nx (g.inv i) r
theorem EPost.here {v:AV} {x:Value} (h:EPost c f ρ s cm (.ok v H) Q E) (i:Inv c f s ρ H cm) (r:c.rep f.FX cm s.heap v x):Q x s:=h.end i (.refl s) r
theorem Inv.tup (i:Inv c f s ρ H cm) {l:List AV} {vs:List Value} (r:c.reps f.FX cm s.heap l vs) {t:Nat} :
  c.rep f.FX cm (s.heap.push {cls:=.type "tuple",data:=.seq vs.toArray}) (.tup l) (.ref s.heap.objs.size) :=
 ⟨_,_,vs,0,rfl,i.base.rr_new (Heap.get?_push_size _ rfl) rfl (Qai _),rfl,rfl,Cx.reps_mono (Grow.push s _ t).rr (.refl _) r⟩
theorem Inv.lst (i:Inv c f s ρ H cm) {l:List AV} {vs:List Value} (r:c.reps f.FX cm s.heap l vs) {t:Nat} :
  c.rep f.FX cm (s.heap.push {cls:=.type "list",data:=.seq vs.toArray}) (.lst l) (.ref s.heap.objs.size) :=
 ⟨_,_,vs,0,rfl,i.base.rr_new (Heap.get?_push_size _ rfl) rfl (Qai _),rfl,rfl,Cx.reps_mono (Grow.push s _ t).rr (.refl _) r⟩
structure But (l:List Addr) (s s':Shared):Prop where
 keep:∀a o,a ∉ l->s.heap.get? a=some o->s'.heap.get? a=some o
 gens:s'.gens=s.gens
 os:s'.os=s.os
theorem But.nx {l:List Addr} (g:But l s s') (gl:∀a,a∈l->s'.heap.get? a≠none) (h:∀a,a∈l->(a∈adr cm∨a∈FA∨s.heap.get? a=none)∧a ∉ FO):Nx FA FO s cm s' cm where
 keep a o e _ h1 _ h2:=g.keep a o (fun q=>(h a q).1.elim h2 fun z=>z.elim h1 fun z=>by rw[z] at e; cases e) e
 outer a o e h1:=⟨o.slots,g.keep a o (fun q=>(h a q).2 h1) e⟩
 cms:=.refl _
 new _ h:=.inl h
 alive a q:=by
  by_cases hl:a∈l
  ·exact gl a hl
  ·cases e:s.heap.get? a with
   | none=>exact absurd e q
   | some o=>rw[g.keep a o hl e]; nofun
theorem QaL {i:Nat} {p:Addr × List Addr} {a:Addr} (e:cm[i]?=some p) (h:a∈p.2):a∈adr cm:=List.mem_flatMap.mpr ⟨p,List.mem_of_getElem? e,h⟩
theorem Qiu:∀{cm:CM} {i j:Nat} {p q:Addr × List Addr} {a:Addr},(adr cm).Nodup->cm[i]?=some p->cm[j]?=some q->i≠j->a∈p.2->a ∉ q.2
 | [],_,_,_,_,_,_,e,_,_,_=>by simp at e
 | x::cm,0,0,_,_,_,_,_,_,n,_=>absurd rfl n
 | x::cm,0,j+1,p,q,a,nd,e1,e2,_,h=>fun h2=>by
  obtain rfl:x=p:=by simpa using e1
  have e2':cm[j]?=some q:=by simpa using e2
  have nd':(x.2++adr cm).Nodup:=nd;exact (List.nodup_append.mp nd').2.2 a h a (QaL e2' h2) rfl
 | x::cm,i+1,0,p,q,a,nd,e1,e2,_,h=>fun h2=>by
  obtain rfl:x=q:=by simpa using e2
  have e1':cm[i]?=some p:=by simpa using e1
  have nd':(x.2++adr cm).Nodup:=nd;exact (List.nodup_append.mp nd').2.2 a h2 a (QaL e1' h) rfl
 | x::cm,i+1,j+1,p,q,a,nd,e1,e2,n,h=>by
  have nd':(x.2++adr cm).Nodup:=nd;exact Qiu (cm:=cm) (List.nodup_append.mp nd').2.1 (by simpa using e1) (by simpa using e2) (fun q=>n (by rw[q])) h
theorem Inv.moveS (i:Inv c f s ρ H cm) (x:Nx f.FA f.FO s cm s' cm') (own:∀a o,a∈f.FA->s.heap.get? a=some o->∃sl,s'.heap.get? a=some {o with slots:=sl}) (b:Base c f.FX s' H' cm'):Inv c f s' ρ H' cm' where
 base:=b
 dj:=i.dj
 dj2:=i.dj2
 ns:=by
  obtain⟨m,⟨o,es,ep,e,r⟩,z⟩:=i.ns;obtain⟨sl,e'⟩:=own _ _ f.ok.loc e;exact⟨m,⟨_,es,ep,e',r⟩,fun y k e1 e2 av e3 e4=>let ⟨v,h1,h2⟩:=z y k e1 e2 av e3 e4; ⟨v,h1,x.rep i.base h2⟩⟩
 cl y k kd a e1 e2 e3 e4:=by
  obtain⟨o,ov,e,d,z⟩:=i.cl y k kd a e1 e2 e3 e4;have z':slotIs c f.FX cm' s'.heap ρ k ov:=fun av e3 e4=>let ⟨v,h1,h2⟩:=z av e3 e4; ⟨v,h1,x.rep i.base h2⟩
  obtain⟨a',h1,_,h2,_⟩:=f.ok.cell y k kd e1 e2 e3;obtain rfl:a'=a:=Option.some.inj (h1.symm.trans e4);rcases h2 with h2 | h2
  ·obtain⟨sl,e'⟩:=own _ _ h2 e
   exact⟨_,ov,e',d,z'⟩
  ·obtain⟨sl,e'⟩:=x.outer _ _ e h2
   exact⟨_,ov,e',d,z'⟩
 frs e he:=by
  obtain⟨h1,L,o,h2,h3,h4,h5⟩:=i.frs e he;rcases h5 with h6 | h6
  ·obtain⟨sl,e'⟩:=own _ _ h6 h3
   exact⟨h1,L,_,h2,e',h4,.inl h6⟩
  ·obtain⟨sl,e'⟩:=x.outer _ _ h3 h6
   exact⟨h1,L,_,h2,e',h4,.inr h6⟩
theorem Inv.move (i:Inv c f s ρ H cm) (x:Nx f.FA f.FO s cm s' cm') (own:∀a o,a∈f.FA->s.heap.get? a=some o->s'.heap.get? a=some o) (b:Base c f.FX s' H' cm'):Inv c f s' ρ H' cm' :=
 i.moveS x (fun a o h e=>⟨o.slots,own a o h e⟩) b
theorem Base.setCell {i:Nat} {p:Addr × List Addr} {x':AC} (b:Base c FX s H cm) (hi:cm[i]?=some p) (g:But p.2 s s') (gl:∀a,a∈p.2->s'.heap.get? a≠none) (z:(∀a o,Rr FX cm s.heap a o->Rr FX cm s'.heap a o)->cellOk c FX cm s'.heap p x'):Base c FX s' (H.set i x') cm:=by
 have rr:∀a o,Rr FX cm s.heap a o->Rr FX cm s'.heap a o:=fun a o ⟨e,st,h1,h2⟩=>⟨g.keep a o (fun q=>h2 (QaL hi q)) e,st,h1,h2⟩
 refine⟨by rw[List.length_set]; exact b.len,fun j q x e1 e2=>?_,fun a h=>⟨(b.lo a h).1,?_⟩,b.dj,b.nd,fun a o n e=>?_,g.gens.trans b.gens,g.os.trans b.os,?_⟩
 ·by_cases hij:i=j
  ·subst hij
   obtain rfl:p=q:=Option.some.inj (hi.symm.trans e1);have hl:i<H.length:=by rw[←b.len]; exact (List.getElem?_eq_some_iff.mp hi).1
   rw[List.getElem?_set_self hl] at e2;cases e2;exact z rr
  ·rw[List.getElem?_set_ne hij] at e2
   exact Qap (fun a o ha e=>g.keep a o (Qiu b.nd e1 hi (Ne.symm hij) ha) e) rr (.refl _) (b.cells j q x e1 e2)
 ·by_cases ha:a∈p.2
  ·exact gl a ha
  ·cases e:s.heap.get? a with
   | none=>exact absurd e (b.lo a h).2
   | some o=>rw[g.keep a o ha e]; nofun
 ·refine g.keep a o (fun q=>?_) (b.old a o n e)
  rw[(b.lo a (.inr (QaL hi q))).1] at e;cases e
 ·refine b.tab.mono (fun _ e=>g.keep _ _ (fun q=>?_) e) rr
  exact c.glow (b.lo Mine.gh (.inr (QaL hi q))).1
theorem Qbt (cm:CM) (p:Addr × List Addr):adr (cm++[p])=adr cm++p.2:=by simp[adr]
theorem CMle.snoc (cm:CM) (p:Addr × List Addr):CMle cm (cm++[p]):=fun i q e=>⟨q,by rw[List.getElem?_append_left (List.getElem?_eq_some_iff.mp e).1]; exact e,rfl,.inl rfl⟩
theorem Grow.rrAdd (b:Base c FX s H cm) (g:Grow s s') {l:List Addr} {a:Addr} (hl:∀a,a∈l->s.heap.get? a=none):∀x o,Rr FX cm s.heap x o->Rr FX (cm++[(a,l)]) s'.heap x o:=fun x o ⟨e,st,h1,h2⟩ =>
 ⟨g.keep x o e,st,h1,fun q=>by
  rw[Qbt] at q;exact (List.mem_append.mp q).elim h2 fun q=>by rw[hl x q] at e; cases e⟩
theorem Base.addCell {l:List Addr} {a:Addr} {x:AC} (b:Base c FX s H cm) (g:Grow s s') (nd:l.Nodup) (hl:∀a,a∈l->s.heap.get? a=none∧s'.heap.get? a≠none)
  (z:cellOk c FX (cm++[(a,l)]) s'.heap (a,l) x):Base c FX s' (H++[x]) (cm++[(a,l)]):=by
 have hR:=g.rrAdd (a:=a) b fun a h=>(hl a h).1
 refine⟨by simp[b.len],fun i p y e1 e2=>?_,fun a h=>?_,fun a h h'=>?_,?_,fun x o n e=>g.keep _ _ (b.old x o n e),g.gens.trans b.gens,g.os.trans b.os,?_⟩
 ·by_cases hi:i<cm.length
  ·rw[List.getElem?_append_left hi] at e1
   rw[List.getElem?_append_left (by rw[←b.len]; exact hi)] at e2;exact Qap (fun a o _ e=>g.keep a o e) hR (.snoc _ _) (b.cells i p y e1 e2)
  ·have hi':i=cm.length:=by have:=(List.getElem?_eq_some_iff.mp e1).1; simp at this; omega
   subst hi';rw[List.getElem?_concat_length] at e1;rw[b.len,List.getElem?_concat_length] at e2;cases e1; cases e2;exact z
 ·rw[Qbt] at h
  rcases h with h | h
  ·exact⟨(b.lo a (.inl h)).1,g.some (b.lo a (.inl h)).2⟩
  ·rcases List.mem_append.mp h with h | h
   ·exact⟨(b.lo a (.inr h)).1,g.some (b.lo a (.inr h)).2⟩
   ·refine⟨?_,(hl a h).2⟩
    cases e:c.h_1.get? a with
    | none=>rfl
    | some o =>
     by_cases hg:a=Mine.gh
     ·obtain⟨ps,e2,_⟩:=b.tab
      rw[hg] at h;rw[(hl _ h).1] at e2;cases e2
     ·have:=b.old a o hg e
      rw[(hl a h).1] at this;cases this
 ·rw[Qbt] at h'
  rcases List.mem_append.mp h' with h' | h'
  ·exact b.dj a h h'
  ·exact absurd (hl a h').1 (b.lo a (.inl h)).2
 ·rw[Qbt]
  exact List.nodup_append.mpr ⟨b.nd,nd,fun x hx y hy q=>(b.lo x (.inr hx)).2 (q ▸ (hl y hy).1)⟩
 ·exact b.tab.mono (fun _ e=>g.keep _ _ e) hR
theorem Grow.nxAdd (g:Grow s s') {l:List Addr} {a:Addr} (hl:∀a,a∈l->s.heap.get? a=none):Nx FA FO s cm s' (cm++[(a,l)]) :=
 ⟨fun a o e _ _ _ _=>g.keep a o e,fun a o e _=>⟨o.slots,g.keep a o e⟩,.snoc _ _,fun x h=>by
  rw[Qbt] at h;exact (List.mem_append.mp h).imp id fun h=>.inl (hl x h),fun _ h=>g.some h⟩
theorem Inv.addCell {l:List Addr} {a:Addr} {x:AC} (i:Inv c f s ρ H cm) (g:Grow s s') (nd:l.Nodup) (hl:∀a,a∈l->s.heap.get? a=none∧s'.heap.get? a≠none)
  (z:cellOk c f.FX (cm++[(a,l)]) s'.heap (a,l) x):Inv c f s' ρ (H++[x]) (cm++[(a,l)]) :=
 i.move (g.nxAdd fun a h=>(hl a h).1) (fun a o _ e=>g.keep a o e) (i.base.addCell g nd hl z)
theorem EPost.endCell {l:List Addr} {a:Addr} {x:AC} (h:EPost c f ρ s cm (.ok (.cell H.length) (H++[x])) Q E) (i:Inv c f s ρ H cm) (g:Grow s s') (nd:l.Nodup) (hl:∀a,a∈l->s.heap.get? a=none∧s'.heap.get? a≠none)
  (z:cellOk c f.FX (cm++[(a,l)]) s'.heap (a,l) x):Q (.ref a) s' :=
 h _ s' _ (g.nxAdd fun a h=>(hl a h).1) (i.addCell g nd hl z) ⟨(a,l),by rw[←i.base.len,List.getElem?_concat_length],rfl⟩
theorem Inv.set {i:Nat} {p:Addr × List Addr} {x':AC} (v:Inv c f s ρ H cm) (hi:cm[i]?=some p) (g:But p.2 s s') (gl:∀a,a∈p.2->s'.heap.get? a≠none) (z:(∀a o,Rr f.FX cm s.heap a o->Rr f.FX cm s'.heap a o)->cellOk c f.FX cm s'.heap p x') :
  Inv c f s' ρ (H.set i x') cm∧Nx f.FA f.FO s cm s' cm:=by
 have hn:∀a,a∈p.2->a ∉ f.FX:=fun a h q=>v.base.dj a q (QaL hi h)
 have n:Nx f.FA f.FO s cm s' cm:=g.nx gl fun a h=>⟨.inl (QaL hi h),fun q=>hn a h (Qay (.inr q))⟩
 exact⟨v.move n (fun a o h e=>g.keep a o (fun q=>hn a q (Qay (.inl h))) e) (v.base.setCell hi g gl z),n⟩
theorem CMle.kill (cm:CM) {i:Nat} {p:Addr × List Addr} (hi:cm[i]?=some p):CMle cm (cm.set i (p.1,[])):=fun j q e=>by
 by_cases h:i=j
 ·subst h
  obtain rfl:p=q:=Option.some.inj (hi.symm.trans e);exact⟨_,List.getElem?_set_self (List.getElem?_eq_some_iff.mp e).1,rfl,.inr rfl⟩
 ·exact⟨q,by rw[List.getElem?_set_ne h]; exact e,rfl,.inl rfl⟩
theorem QfU:∀{cm:CM} {i:Nat} {p:Addr × List Addr},cm[i]?=some p->(adr (cm.set i (p.1,[]))).Sublist (adr cm)
 | [],_,_,e=>by simp at e
 | x::cm,0,p,e=>by
  obtain rfl:x=p:=by simpa using e
  show (([]:List Addr)++adr cm).Sublist (x.2++adr cm);exact List.sublist_append_right _ _
 | x::cm,i+1,p,e=>by
  have e':cm[i]?=some p:=by simpa using e
  show (x.2++adr (cm.set i (p.1,[]))).Sublist (x.2++adr cm);exact List.Sublist.append (List.Sublist.refl _) (QfU e')
theorem Qfr:∀{cm:CM} {i:Nat} {p:Addr × List Addr} {a:Addr},(adr cm).Nodup->cm[i]?=some p->a∈p.2->a ∉ adr (cm.set i (p.1,[]))
 | [],_,_,_,_,e,_=>by simp at e
 | x::cm,0,p,a,nd,e,h=>by
  obtain rfl:x=p:=by simpa using e
  exact fun q=>(List.nodup_append.mp (show (x.2++adr cm).Nodup from nd)).2.2 a h a (by simpa[adr] using q) rfl
 | x::cm,i+1,p,a,nd,e,h=>by
  have e':cm[i]?=some p:=by simpa using e
  have nd':=List.nodup_append.mp (show (x.2++adr cm).Nodup from nd);intro q;rcases List.mem_append.mp (show a∈x.2++adr (cm.set i (p.1,[])) from q) with q | q
  ·exact nd'.2.2 a q a (QaL e' h) rfl
  ·exact Qfr nd'.2.1 e' h q
theorem Inv.kill {i:Nat} {p:Addr × List Addr} (v:Inv c f s ρ H cm) (hi:cm[i]?=some p):Inv c f s ρ (H.set i .dead) (cm.set i (p.1,[]))∧Nx f.FA f.FO s cm s (cm.set i (p.1,[])):=by
 have b:=v.base;have sub:=(QfU hi).subset;have hR:∀a o,Rr f.FX cm s.heap a o->Rr f.FX (cm.set i (p.1,[])) s.heap a o:=fun a o ⟨e,st,h1,h2⟩=>⟨e,st,h1,fun q=>h2 (sub q)⟩
 have n:Nx f.FA f.FO s cm s (cm.set i (p.1,[])):=⟨fun _ _ e _ _ _ _=>e,fun _ o e _=>⟨o.slots,e⟩,.kill cm hi,fun a h=>.inl (sub h),fun _ h=>h⟩;refine⟨v.move n (fun _ _ _ e=>e) ⟨by simp[b.len],fun j q x e1 e2=>?_,fun a h=>b.lo a (h.imp id fun h=>sub h),fun a h q=>b.dj a h (sub q),b.nd.sublist (QfU hi),b.old,b.gens,b.os,b.tab.mono (fun _ e=>e) hR⟩,n⟩;by_cases hij:i=j
 ·subst hij
  have hl:i<cm.length:=(List.getElem?_eq_some_iff.mp hi).1;rw[List.getElem?_set_self hl] at e1;rw[List.getElem?_set_self (by rw[←b.len]; exact hl)] at e2;cases e1; cases e2;rfl
 ·rw[List.getElem?_set_ne hij] at e1 e2
  exact Qap (fun _ _ _ e=>e) hR (.kill cm hi) (b.cells j q x e1 e2)
def Fm.wide (f:Fm) (d:Addr):Fm:={f with FZ:=d::f.FZ,ok:=f.ok}
theorem Qar {d a:Addr}:a∈(f.wide d).FX↔a=d∨a∈f.FX:=by
 simp only[Fm.wide,Fm.FX,List.mem_append,List.mem_cons];constructor
 ·rintro (h | h | h | h)
  ·exact .inr (.inl h)
  ·exact .inr (.inr (.inl h))
  ·exact .inl h
  ·exact .inr (.inr (.inr h))
 ·rintro (h | h | h | h)
  ·exact .inr (.inr (.inl h))
  ·exact .inl h
  ·exact .inr (.inl h)
  ·exact .inr (.inr (.inr h))
theorem Rr.sub {FX FX':List Addr} {h:Heap} (hs:∀a,a∈FX->a∈FX'):∀a o,Rr FX' cm h a o->Rr FX cm h a o:=fun a o ⟨e,st,h1,h2⟩=>⟨e,st,fun q=>h1 (hs a q),h2⟩
theorem slotIs.mono {FX FX':List Addr} {h h':Heap} (hR:∀a o,Rr FX cm h a o->Rr FX' cm' h' a o) (hc:CMle cm cm') {k:Nat} {v:Option Value} (z:slotIs c FX cm h ρ k v):slotIs c FX' cm' h' ρ k v :=
 fun av e n=>let ⟨x,e1,r⟩:=z av e n; ⟨x,e1,Cx.rep_mono hR hc r⟩
theorem Inv.narrow {d:Addr} (i:Inv c (f.wide d) s ρ H cm):Inv c f s ρ H cm:=by
 have hs:∀a,a∈f.FX->a∈(f.wide d).FX:=fun a h=>Qar.mpr (.inr h)
 have hR:=Rr.sub (cm:=cm) (h:=s.heap) hs;have b:=i.base;exact⟨⟨b.len,fun j p x e1 e2=>Qap (fun _ _ _ e=>e) hR (.refl _) (b.cells j p x e1 e2),fun a h=>b.lo a (h.imp (hs a) id),fun a h=>b.dj a (hs a h),b.nd,b.old,b.gens,b.os,b.tab.mono (fun _ e=>e) hR⟩,
  fun a h=>⟨(i.dj a h).1,fun q=>(i.dj a h).2 (.tail _ q)⟩,fun a h q=>i.dj2 a h (.tail _ q),
  let ⟨m,n,z⟩:=i.ns; ⟨m,n,fun x k e1 e2=>(z x k e1 e2).mono hR (.refl _)⟩,
  fun x k kd a e1 e2 e3 e4=>let ⟨o,ov,e,dd,z⟩:=i.cl x k kd a e1 e2 e3 e4; ⟨o,ov,e,dd,z.mono hR (.refl _)⟩,i.frs⟩
theorem Inv.wider {d:Addr} (i:Inv c f s ρ H cm) (g:Grow s s') (h0:s.heap.get? d=none) (h1:s'.heap.get? d≠none):Inv c (f.wide d) s' ρ H cm:=by
 have hR:∀a o,Rr f.FX cm s.heap a o->Rr (f.wide d).FX cm s'.heap a o:=fun a o ⟨e,st,n1,n2⟩=>⟨g.keep a o e,st,fun q=>(Qar.mp q).elim (fun q=>by rw[q,h0] at e; cases e) n1,n2⟩
 have b:=i.base;have hd:d ∉ adr cm:=fun q=>(b.lo d (.inr q)).2 h0
 have hdF:d ∉ f.FX:=fun q=>(b.lo d (.inl q)).2 h0
 have h00:c.h_1.get? d=none:=by
  cases e:c.h_1.get? d with
  | none=>rfl
  | some o =>
   by_cases hg:d=Mine.gh
   ·obtain⟨ps,e2,_⟩:=b.tab
    rw[hg] at h0;rw[h0] at e2; cases e2
   ·rw[b.old d o hg e] at h0; cases h0
 refine⟨⟨b.len,fun j p x e1 e2=>Qap (fun a o _ e=>g.keep a o e) hR (.refl _) (b.cells j p x e1 e2),fun a h=>?_,fun a h=>?_,b.nd,fun x o n e=>g.keep _ _ (b.old x o n e),g.gens.trans b.gens,g.os.trans b.os,b.tab.mono (fun _ e=>g.keep _ _ e) hR⟩,
  fun a h=>⟨(i.dj a h).1,fun q=>?_⟩,fun a h q=>?_,let ⟨m,n,z⟩:=i.ns; ⟨m,n.keeps g.keep,fun x k e1 e2=>(z x k e1 e2).mono hR (.refl _)⟩,
  fun x k kd a e1 e2 e3 e4=>let ⟨o,ov,e,dd,z⟩:=i.cl x k kd a e1 e2 e3 e4; ⟨o,ov,g.keep _ _ e,dd,z.mono hR (.refl _)⟩,
  fun e he=>let ⟨h1,L,o,h2,h3,h4⟩:=i.frs e he; ⟨h1,L,o,h2,g.keep _ _ h3,h4⟩⟩
 ·rcases h with h | h
  ·rcases Qar.mp h with h | h
   ·rw[h]; exact⟨h00,h1⟩
   ·exact⟨(b.lo a (.inl h)).1,g.some (b.lo a (.inl h)).2⟩
  ·exact⟨(b.lo a (.inr h)).1,g.some (b.lo a (.inr h)).2⟩
 ·rcases Qar.mp h with h | h
  ·rw[h]; exact hd
  ·exact b.dj a h
 ·rcases List.mem_cons.mp q with q | q
  ·exact hdF (q ▸ List.mem_append_left _ h)
  ·exact (i.dj a h).2 q
 ·rcases List.mem_cons.mp q with q | q
  ·exact hdF (q ▸ List.mem_append_right _ (List.mem_append_left _ h))
  ·exact i.dj2 a h q
theorem Inv.zmodF {d:Addr} (i:Inv c f s ρ H cm) (hz:d∈f.FZ) (hb:∀a o,a≠d->s.heap.get? a=some o->s'.heap.get? a=some o) (h1:s'.heap.get? d≠none) (hg:s'.gens=s.gens) (ho:s'.os=s.os):Inv c f s' ρ H cm:=by
 have hd:d∈f.FX:=List.mem_append_right _ (List.mem_append_right _ hz);have b:=i.base;have hR:∀a o,Rr f.FX cm s.heap a o->Rr f.FX cm s'.heap a o:=fun a o ⟨e,st,n1,n2⟩=>⟨hb a o (fun q=>n1 (q ▸ hd)) e,st,n1,n2⟩
 have some':∀a,s.heap.get? a≠none->s'.heap.get? a≠none:=fun a h=>by
  by_cases q:a=d
  ·rw[q]; exact h1
  ·cases e:s.heap.get? a with
   | none=>exact absurd e h
   | some o=>rw[hb a o q e]; nofun
 have hne:∀a o,c.h_1.get? a=some o->a≠d:=fun a o e q=>by rw[q,(b.lo d (.inl hd)).1] at e; cases e
 have hgd:Mine.gh≠d:=fun q=>c.glow (by rw[q]; exact (b.lo d (.inl hd)).1)
 have hFA:∀a,a∈f.FA->a≠d:=fun a h q=>(i.dj a h).2 (by rw[q]; exact hz)
 have hFO:∀a,a∈f.FO->a≠d:=fun a h q=>i.dj2 a h (by rw[q]; exact hz)
 refine⟨⟨b.len,fun j p x e1 e2=>Qap (fun a o ha e=>hb a o (fun q=>b.dj d hd (q ▸ QaL e1 ha)) e) hR (.refl _) (b.cells j p x e1 e2),fun a h=>⟨(b.lo a h).1,some' a (b.lo a h).2⟩,b.dj,b.nd,
  fun x o n e=>hb x o (hne x o e) (b.old x o n e),hg.trans b.gens,ho.trans b.os,b.tab.mono (fun _ e=>hb _ _ hgd e) hR⟩,i.dj,i.dj2,?_,?_,?_⟩
 ·obtain⟨m,⟨o,es,ep,e,r⟩,z⟩:=i.ns
  exact⟨m,⟨o,es,ep,hb _ _ (hFA _ f.ok.loc) e,r⟩,fun x k e1 e2=>(z x k e1 e2).mono hR (.refl _)⟩
 ·intro x k kd a e1 e2 e3 e4
  obtain⟨o,ov,e,dd,z⟩:=i.cl x k kd a e1 e2 e3 e4;refine⟨o,ov,hb a o ?_ e,dd,z.mono hR (.refl _)⟩;obtain⟨a',q1,_,q2,_⟩:=f.ok.cell x k kd e1 e2 e3;obtain rfl:a'=a:=Option.some.inj (q1.symm.trans e4);exact q2.elim (hFA _) (hFO _)
 ·intro e he
  obtain⟨h1,L,o,h2,h3,h4,h5⟩:=i.frs e he;exact⟨h1,L,o,h2,hb L o (h5.elim (hFA _) (hFO _)) h3,h4,h5⟩
theorem Inv.zmod {d:Addr} (i:Inv c (f.wide d) s ρ H cm) (hb:∀a o,a≠d->s.heap.get? a=some o->s'.heap.get? a=some o) (h1:s'.heap.get? d≠none) (hg:s'.gens=s.gens) (ho:s'.os=s.os):Inv c (f.wide d) s' ρ H cm:=i.zmodF (.head _) hb h1 hg ho
theorem Nx.mod {d:Addr} (x:Nx FA FO s cm s_1 cm_1) (h0:s.heap.get? d=none) (hb:∀a o,a≠d->s_1.heap.get? a=some o->s_2.heap.get? a=some o):Nx FA FO s cm s_2 cm_1 where
 alive a h:=by
  have h1:=x.alive a h;cases e:s_1.heap.get? a with
  | none=>exact absurd e h1
  | some o=>rw[hb a o (fun q=>h (by rw[q]; exact h0)) e]; nofun
 keep a o e q1 q2 q3 q4:=hb a o (fun q=>by rw[q,h0] at e; cases e) (x.keep a o e q1 q2 q3 q4)
 outer a o e q:=let ⟨sl,e1⟩:=x.outer a o e q; ⟨sl,hb a _ (fun q=>by rw[q,h0] at e; cases e) e1⟩
 cms:=x.cms
 new:=x.new
theorem Nx.reWide {d:Addr} (x:Nx (f.wide d).FA (f.wide d).FO s cm s_1 cm_1):Nx f.FA f.FO s cm s_1 cm_1:=x
end
end
section
theorem Str.ofString_append (a b:String):Str.ofString (a++b)=Str.ofString a++Str.ofString b:=by
 show _=PySem.Str.append _ _;unfold PySem.Str.append;rw[Str.ofString_eq_toList,Str.ofString_eq_toList,Str.ofString_eq_toList];simp
theorem Str.ofString_inj {a b:String} (h:Str.ofString a=Str.ofString b):a=b:=by
 rw[Str.ofString_eq_toList,Str.ofString_eq_toList] at h;have h1:a.toList.map Char.toNat=b.toList.map Char.toNat:=by simpa using h
 have:∀{l m:List Char},l.map Char.toNat=m.map Char.toNat->l=m:=by
  intro l
  induction l with
  | nil=>intro m h; cases m with | nil=>rfl | cons _ _=>cases h
  | cons x l ih =>
   intro m h;cases m with
   | nil=>cases h
   | cons y m =>
    simp only[List.map_cons,List.cons.injEq] at h;have:x=y:=Char.ext (UInt32.toNat_inj.mp h.1);rw[this,ih h.2]
 exact String.toList_inj.mp (this h1)
theorem Str.ofString_len (a:String):(Str.ofString a).length=a.length:=by
 rw[Str.ofString_eq_toList];show (List.map Char.toNat a.toList).toArray.size=_;simp[String.length_toList]
theorem Str.ofString_beq (a b:String):(Str.ofString a==Str.ofString b)=(a==b):=by
 rw[Bool.eq_iff_iff];simp only[beq_iff_eq];exact⟨Str.ofString_inj,fun h=>by rw[h]⟩
theorem QaI.log {a:Int} (h:QaI a):a.natAbs.log2<9000:=by
 unfold QaI bigE at h;by_cases h0:a.natAbs=0
 ·rw[h0]; decide
 ·exact Nat.lt_of_lt_of_le ((Nat.log2_lt h0).mpr h) (by decide)
theorem QaI.bits {a:Int} (h:QaI a):Builtin.Int.intBits a≤2 ^ 20:=by
 have:=h.log;unfold Builtin.Int.intBits;split
 ·omega
 ·omega
section
variable {c:Cx} {f:Fm} {s s':Shared} {ρ:List AV} {H:AH} {cm:CM} {A:Around} {Q:Value->Shared->Prop} {E:Value->Shared->Prop} {n:Nat}
def opOf:Op->Operator
 | .add=>.Add | .sub=>.Sub | .mul=>.Mult | .div=>.FloorDiv | .mod=>.Mod
theorem QlL {o:Op} {v w:AV} {x y:Value} (rm:Room f A n) (i:Inv c f s ρ H cm) (r1:c.rep f.FX cm s.heap v x) (r2:c.rep f.FX cm s.heap w y)
  (h:EPost c f ρ s cm (.ofOpt (pBin o v w) H) Q E):wpAny (model P0 c.w) A (binaryOp (opOf o) x y) Q E s:=by
 unfold pBin at h;split at h
 ·obtain⟨t,rfl⟩:=r1; obtain⟨u,rfl⟩:=r2
  exact PyProof.Rows.add_int (h.end i (Grow.toks _ _) ⟨_,rfl⟩)
 ·obtain⟨t,rfl⟩:=r1; obtain⟨u,rfl⟩:=r2
  split at h
  ·rename_i hl
   refine PyProof.Rows.add_str (fun t' tk=>h.end i (Grow.toks _ _) ⟨t',?_⟩) ?_
   ·rw[Str.ofString_append]
   ·rw[Str.ofString_len,Str.ofString_len,sizeLine_eq]; omega
  ·exact h.elim
 ·obtain⟨t,rfl⟩:=r1; obtain⟨u,rfl⟩:=r2
  exact PyProof.Rows.sub_int (h.end i (Grow.toks _ _) ⟨_,rfl⟩)
 ·obtain⟨t,rfl⟩:=r1; obtain⟨u,rfl⟩:=r2
  split at h
  ·rename_i hb
   exact PyProof.Rows.mul_int (h.end i (Grow.toks _ _) ⟨_,rfl⟩) (IntMulOk.of_bits hb.1.bits hb.2.bits)
  ·exact h.elim
 ·obtain⟨t,rfl⟩:=r1; obtain⟨u,rfl⟩:=r2
  split at h
  ·rename_i hb
   exact PyProof.Rows.floordiv_int hb.1 (h.end i (Grow.toks _ _) ⟨_,rfl⟩) (.inl (PyProof.noPylong_of_log2 hb.2.log))
  ·exact h.elim
 ·obtain⟨t,rfl⟩:=r1; obtain⟨u,rfl⟩:=r2
  split at h
  ·rename_i hb
   exact PyProof.Rows.mod_int hb.1 (h.end i (Grow.toks _ _) ⟨_,rfl⟩)
  ·exact h.elim
 ·exact h.elim
theorem QjU {o:Op} {v w:AV} {x y:Value} (rm:Room f A n) (i:Inv c f s ρ H cm) (r1:c.rep f.FX cm s.heap v x) (r2:c.rep f.FX cm s.heap w y)
  (h:EPost c f ρ s cm (.ofOpt (pBin o v w) H) Q E):wpAny (model P0 c.w) A (inplaceOp (opOf o) x y) Q E s:=by
 unfold pBin at h;split at h
 ·obtain⟨t,rfl⟩:=r1; obtain⟨u,rfl⟩:=r2
  exact PyProof.Rows.iadd_int (h.end i (Grow.toks _ _) ⟨_,rfl⟩)
 ·obtain⟨t,rfl⟩:=r1; obtain⟨u,rfl⟩:=r2
  split at h
  ·rename_i hl
   refine PyProof.Rows.iadd_str (fun t' tk=>h.end i (Grow.toks _ _) ⟨t',?_⟩) ?_
   ·rw[Str.ofString_append]
   ·rw[Str.ofString_len,Str.ofString_len,sizeLine_eq]; omega
  ·exact h.elim
 ·obtain⟨t,rfl⟩:=r1; obtain⟨u,rfl⟩:=r2
  exact PyProof.Rows.isub_int (h.end i (Grow.toks _ _) ⟨_,rfl⟩)
 ·obtain⟨t,rfl⟩:=r1; obtain⟨u,rfl⟩:=r2
  split at h
  ·rename_i hb
   exact PyProof.Rows.imul_int (h.end i (Grow.toks _ _) ⟨_,rfl⟩) (IntMulOk.of_bits hb.1.bits hb.2.bits)
  ·exact h.elim
 ·obtain⟨t,rfl⟩:=r1; obtain⟨u,rfl⟩:=r2
  split at h
  ·rename_i hb
   exact PyProof.Rows.ifloordiv_int hb.1 (h.end i (Grow.toks _ _) ⟨_,rfl⟩) (.inl (PyProof.noPylong_of_log2 hb.2.log))
  ·exact h.elim
 ·obtain⟨t,rfl⟩:=r1; obtain⟨u,rfl⟩:=r2
  split at h
  ·rename_i hb
   exact PyProof.Rows.imod_int hb.1 (h.end i (Grow.toks _ _) ⟨_,rfl⟩)
  ·exact h.elim
 ·exact h.elim
theorem Qc6 {v:AV} {x:Value} {K:Bool->Shared->Prop} {b:Bool} (r:c.rep f.FX cm s.heap v x) (h:pTruth v=some b) (k:K b s):wpAny (model P0 c.w) A (truthy x) K E s:=by
 unfold pTruth at h;split at h
 ·cases h; cases (show x=.bool b from r); exact wpAny_truthy_bool k
 ·obtain⟨t,rfl⟩:=r; cases h; exact P.truthy_int k
 ·cases h
mutual
def toD:AV->Dat
 | .none=>.none
 | .int i=>.int i
 | .str s=>.str (Str.ofString s)
 | .tup l=>.tuple (toDs l)
 | .lst l=>.list (toDs l)
 | _=>.bytes #[]
def toDs:List AV->List Dat
 | []=>[]
 | x::l=>toD x::toDs l
end
theorem Qc7 (s:String):PyData.strOk (Str.ofString s)=true:=by
 rw[Str.ofString_eq_toList];unfold PyData.strOk;simp only[List.all_toArray,List.all_eq_true,List.mem_map,decide_eq_true_eq]
 rintro x ⟨ch,_,rfl⟩
 have h:=ch.valid;show ch.val.toNat<_;simp only[UInt32.isValidChar,Nat.isValidChar] at h;omega
theorem Qev {l:List AV} {d:Dat} (h:d∈toDs l):∃x∈l,toD x=d:=by
 induction l with
 | nil=>cases h
 | cons y l ih =>
  rcases List.mem_cons.mp (show d∈toD y::toDs l from h) with rfl | h
  ·exact⟨y,.head _,rfl⟩
  ·obtain⟨x,hx,e⟩:=ih h; exact⟨x,.tail _ hx,e⟩
theorem Qdk:∀(n:Nat) (x:AV),AV.data n x=true->kqdOk n (toD x)=true
 | n,.none,_=>by cases n<;>rfl
 | n,.int i,_=>by cases n<;>rfl
 | n,.str s,_=>by cases n<;>exact Qc7 s
 | n+1,.tup l,h=>by
  show (toDs l).all (kqdOk n)=true;have h':l.all (AV.data n)=true:=h;refine List.all_eq_true.mpr fun d hd=>?_
  obtain⟨x,hx,rfl⟩:=Qev hd;exact Qdk n x (List.all_eq_true.mp h' x hx)
 | n+1,.lst l,h=>by
  show (toDs l).all (kqdOk n)=true;have h':l.all (AV.data n)=true:=h;refine List.all_eq_true.mpr fun d hd=>?_
  obtain⟨x,hx,rfl⟩:=Qev hd;exact Qdk n x (List.all_eq_true.mp h' x hx)
 | 0,.tup l,h=>by cases h
 | 0,.lst l,h=>by cases h
 | 0,.unset,h | _+1,.unset,h=>by cases h
 | 0,.bool _,h | _+1,.bool _,h=>by cases h
 | 0,.dct _ _,h | _+1,.dct _ _,h=>by cases h
 | 0,.obj _ _ _,h | _+1,.obj _ _ _,h=>by cases h
 | 0,.cell _,h | _+1,.cell _,h=>by cases h
 | 0,.kref _,h | _+1,.kref _,h=>by cases h
 | 0,.rng _ _,h | _+1,.rng _ _,h=>by cases h
 | 0,.lam _,h | _+1,.lam _,h=>by cases h
theorem QfV:∀(n:Nat) (x y:AV),AV.data n x=true->toD x=toD y->x=y
 | n,.none,y,_,e=>by cases y<;>first | rfl | (simp[toD] at e)
 | n,.int i,y,_,e=>by cases y<;>simp[toD] at e; rw[e]
 | n,.str s,y,_,e=>by cases y<;>simp[toD] at e; rw[Str.ofString_inj e]
 | n+1,.tup l,y,h,e=>by
  have all:∀(l m:List AV),l.all (AV.data n)=true->toDs l=toDs m->l=m:=fun l=>by
   induction l with
   | nil=>intro m _ e; cases m with | nil=>rfl | cons _ _=>cases e
   | cons x l ih2 =>
    intro m h1 e;cases m with
    | nil=>cases e
    | cons y m =>
     simp only[List.all_cons,Bool.and_eq_true] at h1;simp only[toDs,List.cons.injEq] at e;rw[QfV n x y h1.1 e.1,ih2 m h1.2 e.2]
  cases y<;>simp[toD] at e;rw[all _ _ h e]
 | n+1,.lst l,y,h,e=>by
  have all:∀(l m:List AV),l.all (AV.data n)=true->toDs l=toDs m->l=m:=fun l=>by
   induction l with
   | nil=>intro m _ e; cases m with | nil=>rfl | cons _ _=>cases e
   | cons x l ih2 =>
    intro m h1 e;cases m with
    | nil=>cases e
    | cons y m =>
     simp only[List.all_cons,Bool.and_eq_true] at h1;simp only[toDs,List.cons.injEq] at e;rw[QfV n x y h1.1 e.1,ih2 m h1.2 e.2]
  cases y<;>simp[toD] at e;rw[all _ _ h e]
 | 0,.tup l,_,h,_ | 0,.lst l,_,h,_=>by cases h
 | 0,.unset,_,h,_ | _+1,.unset,_,h,_=>by cases h
 | 0,.bool _,_,h,_ | _+1,.bool _,_,h,_=>by cases h
 | 0,.dct _ _,_,h,_ | _+1,.dct _ _,_,h,_=>by cases h
 | 0,.obj _ _ _,_,h,_ | _+1,.obj _ _ _,_,h,_=>by cases h
 | 0,.cell _,_,h,_ | _+1,.cell _,_,h,_=>by cases h
 | 0,.kref _,_,h,_ | _+1,.kref _,_,h,_=>by cases h
 | 0,.rng _ _,_,h,_ | _+1,.rng _ _,_,h,_=>by cases h
 | 0,.lam _,_,h,_ | _+1,.lam _,_,h,_=>by cases h
mutual
theorem QgP:∀(n:Nat) (x:AV) (v:Value),AV.data n x=true->c.rep f.FX cm s.heap x v->∃as,Reads s.heap v (kqdP (toD x)) as
 | _,.none,v,_,r=>by cases (show v=.none from r); exact⟨_,.none⟩
 | _,.int i,_,_,⟨t,e⟩=>by subst e; exact⟨_,.int i t⟩
 | _,.str x,_,_,⟨t,e⟩=>by subst e; exact⟨_,.str _ t⟩
 | n+1,.tup l,_,h,⟨a,o,vs,k,e,r,hc,hd,z⟩=>by
  subst e;obtain⟨as,q⟩:=Qbb n l vs h z;rw[toD,kqdP];exact⟨_,reads_tuple_at r.1 hc hd (by simpa using q)⟩
 | n+1,.lst l,_,h,⟨a,o,vs,k,e,r,hc,hd,z⟩=>by
  subst e;obtain⟨as,q⟩:=Qbb n l vs h z;rw[toD,kqdP];exact⟨_,reads_list_at r.1 hc hd (by simpa using q)⟩
 | 0,.tup l,_,h,_ | 0,.lst l,_,h,_=>by cases h
 | 0,.unset,_,h,_ | _+1,.unset,_,h,_=>by cases h
 | 0,.bool _,_,h,_ | _+1,.bool _,_,h,_=>by cases h
 | 0,.dct _ _,_,h,_ | _+1,.dct _ _,_,h,_=>by cases h
 | 0,.obj _ _ _,_,h,_ | _+1,.obj _ _ _,_,h,_=>by cases h
 | 0,.cell _,_,h,_ | _+1,.cell _,_,h,_=>by cases h
 | 0,.kref _,_,h,_ | _+1,.kref _,_,h,_=>by cases h
 | 0,.rng _ _,_,h,_ | _+1,.rng _ _,_,h,_=>by cases h
 | 0,.lam _,_,h,_ | _+1,.lam _,_,h,_=>by cases h
theorem Qbb:∀(n:Nat) (l:List AV) (vs:List Value),l.all (AV.data n)=true->c.reps f.FX cm s.heap l vs->∃as,ReadsAll s.heap vs (kqdPs (toDs l)) as
 | _,[],vs,_,r=>by cases (show vs=[] from r); exact⟨_,.nil⟩
 | n,x::l,_,h,⟨v,r,e,h1,h2⟩=>by
  subst e;simp only[List.all_cons,Bool.and_eq_true] at h;obtain⟨as,q⟩:=QgP n x v h.1 h1;obtain⟨bs,p⟩:=Qbb n l r h.2 h2;rw[toDs,kqdPs];exact⟨_,.cons q p⟩
end
theorem Qew (i:Inv c f s ρ H cm) {x:AV} {v:Value} (h:AV.data 6 (rd H x)=true) (r:c.rep f.FX cm s.heap x v):∃as,Reads s.heap v (kqdP (toD (rd H x))) as:=by
 cases x with
 | cell k =>
  obtain⟨p,hp,rfl⟩:=r;cases hk:H[k]? with
  | none=>simp[rd,hk,AV.data] at h
  | some x =>
   cases x with
   | lst l =>
    have e0:rd H (.cell k)=.lst l:=by simp[rd,hk]
    rw[e0] at h ⊢;obtain⟨_,xs,o,n,e,r1,r2,_,_,z⟩:=i.base.cells k p _ hp hk;obtain⟨as,q⟩:=Qbb 5 l xs h z;rw[toD,kqdP];exact⟨_,reads_list_at e r1 r2 (by simpa using q)⟩
   | _=>simp[rd,hk,AV.data] at h
 | _=>exact QgP 6 _ v h r
theorem QdG {x:AV} (h:AV.data 6 x=true):SeqAt.shaped (kqdP (toD x))=true:=by
 have l:=kqd_lay 6 (toD x) (Qdk 6 x h);unfold SeqAt.shaped;rw[l.1,Bool.true_and];exact decide_eq_true (Nat.le_trans l.2 (by decide))
open Classical in
theorem QmX {x y:AV} (h:AV.data 6 x=true) (k:AV.data 6 y=true):PyData.eqv (kqdP (toD x)) (kqdP (toD y))=decide (x=y):=by
 have q:=kqd_eqv 6 (toD x) (toD y) 6 (Qdk 6 x h) (Qdk 6 y k);by_cases e:x=y
 ·rw[decide_eq_true e]; exact q.mpr (by rw[e])
 ·rw[decide_eq_false e]; exact Bool.eq_false_iff.mpr fun z=>e (QfV 6 x y h (q.mp z))
theorem Room.cu (rm:Room f A n):A.units+90<cLine:=by
 have:=rm.units;show _<9900;omega
end
end
section
section
variable {c:Cx} {f:Fm} {s s':Shared} {ρ:List AV} {H:AH} {cm:CM} {A:Around} {Q:Value->Shared->Prop} {E:Value->Shared->Prop} {n:Nat}
def cmOf:Cm->CmpOp
 | .eq=>.Eq | .ne=>.NotEq | .lt=>.Lt | .le=>.LtE | .gt=>.Gt | .ge=>.GtE | .is=>.Is | .isnot=>.IsNot | .isin=>.In | .notin=>.NotIn
theorem QgQ {v:AV} {x:Value} {b:Bool} (r:c.rep f.FX cm s.heap v x) (h:v.isNone=some b):plainIs x .none=true∧(x==Value.none)=b:=by
 cases v with
 | unset=>exact r.elim
 | none=>cases (show x=.none from r); cases h; exact⟨rfl,rfl⟩
 | bool _=>cases (show x=.bool _ from r); cases h; exact⟨rfl,rfl⟩
 | int _=>obtain⟨_,rfl⟩:=r; cases h; exact⟨rfl,rfl⟩
 | str _=>obtain⟨_,rfl⟩:=r; cases h; exact⟨rfl,rfl⟩
 | tup _=>obtain⟨_,_,_,_,rfl,_⟩:=r; cases h; exact⟨rfl,rfl⟩
 | lst _=>obtain⟨_,_,_,_,rfl,_⟩:=r; cases h; exact⟨rfl,rfl⟩
 | dct _ _=>obtain⟨_,_,_,rfl,_⟩:=r; cases h; exact⟨rfl,rfl⟩
 | obj _ _ _=>obtain⟨_,_,_,_,rfl,_⟩:=r; cases h; exact⟨rfl,rfl⟩
 | cell _=>obtain⟨_,_,rfl⟩:=r; cases h; exact⟨rfl,rfl⟩
 | kref _=>cases (show x=.ref _ from r); cases h; exact⟨rfl,rfl⟩
 | rng _ _=>obtain⟨_,_,_,_,rfl,_⟩:=r; cases h; exact⟨rfl,rfl⟩
 | lam _=>obtain⟨_,_,rfl,_⟩:=r; cases h; exact⟨rfl,rfl⟩
theorem Qbz:∀{ks:List String} {l:List AV} {kvs:List (Str × Value)} (k:String),c.repk f.FX cm s.heap ks l kvs->ks.length=l.length∧(valueAt kvs (Str.ofString k)).isSome=decide (k∈ks) ∧
  (∀x,keyAt ks l k=some x->∃v,valueAt kvs (Str.ofString k)=some v∧c.rep f.FX cm s.heap x v)∧(keyAt ks l k=none->valueAt kvs (Str.ofString k)=none)
 | _,[],_,k,⟨rfl,rfl⟩=>⟨rfl,rfl,fun x e=>by simp[keyAt] at e,fun _=>rfl⟩
 | _,y::l,_,k,⟨k',ks',v,r,rfl,rfl,h1,h2⟩=>by
  obtain⟨e1,e2,e3,e4⟩:=Qbz k h2;by_cases hk:k'=k
  ·subst hk
   refine⟨by simp[e1],by simp[valueAt],fun x e=>⟨v,by simp[valueAt],?_⟩,fun e=>by simp[keyAt] at e⟩;simp[keyAt] at e;subst e;exact h1
  ·have hk':Str.ofString k'≠Str.ofString k:=fun q=>hk (Str.ofString_inj q)
   have hv:valueAt ((Str.ofString k',v)::r) (Str.ofString k)=valueAt r (Str.ofString k):=by simp[valueAt,hk']
   refine⟨by simp[e1],?_,?_,?_⟩
   ·rw[hv,e2]; simp[Ne.symm hk]
   ·rw[hv]; simpa[keyAt,hk] using e3
   ·rw[hv]; simpa[keyAt,hk] using e4
theorem QgR (i:Inv c f s ρ H cm) {v:AV} {x:Value} {ks:List String} {vs:List AV} (r:c.rep f.FX cm s.heap v x) (h:dctOf H v=some (ks,vs)) :
  ∃a o kvs,x=.ref a∧s.heap.get? a=some o∧(a==sysModules)=false∧o.IsDictOf (strKind P0 c.w) kvs∧c.repk f.FX cm s.heap ks vs kvs:=by
 cases v with
 | dct ks' vs' =>
  cases h;obtain⟨a,o,kvs,rfl,r,lo,d,z⟩:=r;exact⟨a,o,kvs,rfl,r.1,beq_eq_false_iff_ne.mpr fun q=>lo q,d,z⟩
 | cell k =>
  obtain⟨p,hp,rfl⟩:=r;cases hk:H[k]? with
  | none=>simp[dctOf,hk] at h
  | some y =>
   cases y with
   | dct ks' vs' =>
    simp only[dctOf,hk,Option.some.injEq,Prod.mk.injEq] at h;obtain⟨rfl,rfl⟩:=h;obtain⟨hl,o,kvs,e,r1,_,z⟩:=i.base.cells k p _ hp hk;refine⟨_,o,kvs,rfl,e,beq_eq_false_iff_ne.mpr fun q=>?_,r1,z⟩;have h1:=(i.base.lo p.1 (.inr (QaL hp (by rw[hl]; exact .head _)))).1
    rw[q] at h1;exact c.one h1
   | _=>simp[dctOf,hk] at h
 | _=>cases h
open Classical in
theorem QfW {l:List AV} {k:String} (h:l.all (AV.data 5)=true):((kqdPs (toDs l)).any fun y=>PyData.eqv y (kqdP (toD (.str k))))=decide (AV.str k∈l):=by
 have h8:∀d∈toDs l,kqdOk 8 d=true:=fun d hd=>by
  obtain⟨x,hx,rfl⟩:=Qev hd;have:=Qdk 5 x (List.all_eq_true.mp h x hx);have mono:∀(n m:Nat) (d:Dat),n≤m->kqdOk n d=true->kqdOk m d=true:=by
   intro n
   induction n with
   | zero=>intro m d _ h; cases d<;>cases m<;>simp_all [kqdOk]
   | succ n ih =>
    intro m d hm h;cases m with
    | zero=>omega
    | succ m =>
     cases d with
     | tuple ds=>exact List.all_eq_true.mpr fun e he=>ih m e (by omega) (List.all_eq_true.mp (show ds.all (kqdOk n)=true from h) e he)
     | list ds=>exact List.all_eq_true.mpr fun e he=>ih m e (by omega) (List.all_eq_true.mp (show ds.all (kqdOk n)=true from h) e he)
     | _=>simp_all [kqdOk]
  exact mono 5 8 _ (by decide) this
 have q:=kqd_any (toDs l) (toD (.str k)) h8 (Qc7 k);have q2:toD (.str k)∈toDs l↔AV.str k∈l:=by
  constructor
  ·intro hm
   obtain⟨x,hx,e⟩:=Qev hm;rw[QfV 5 x (.str k) (List.all_eq_true.mp h x hx) e] at hx;exact hx
  ·have:∀{l:List AV} {x:AV},x∈l->toD x∈toDs l:=by
    intro l
    induction l with
    | nil=>intro x h; cases h
    | cons y l ih =>
     intro x h;rcases List.mem_cons.mp h with rfl | h
     ·exact .head _
     ·exact .tail _ (ih h)
   exact this
 by_cases e:AV.str k∈l
 ·rw[decide_eq_true e]; exact q.mpr (q2.mpr e)
 ·rw[decide_eq_false e]; exact Bool.eq_false_iff.mpr fun z=>e (q2.mp (q.mp z))
theorem QfX {l:List AV} (h:l.all (AV.data 5)=true):PyData.canLayAll0 (kqdPs (toDs l))=true:=by
 have l:=kqd_lay 6 (toD (.lst l)) (Qdk 6 (.lst l) h);rw[toD,kqdP] at l;exact l.1
open Classical in
theorem Qiv {o:Cm} {v w:AV} {x y:Value} {b:Bool} {K:Value->Shared->Prop} (rm:Room f A n) (i:Inv c f s ρ H cm) (r1:c.rep f.FX cm s.heap v x) (r2:c.rep f.FX cm s.heap w y)
  (h:pCmp H o v w=some b) (k:∀s',Grow s s'->K (.bool b) s'):wpAny (model P0 c.w) A (compareOp (cmOf o) x y) K E s:=by
 have hu:=rm.cu;unfold pCmp at h;split at h
 ·-- eq
  split at h
  ·rename_i hd
   obtain⟨h1,h2⟩:=Bool.and_eq_true_iff.mp hd;cases h;obtain⟨as,q1⟩:=Qew i h1 r1;obtain⟨bs,q2⟩:=Qew i h2 r2;refine eq_dataH q1 q2 (QdG h1) (QdG h2) (by omega) ?_;rw[QmX h1 h2];exact k _ (.refl s)
  ·cases h
 ·rename_i b1 b2
  cases (show x=.bool b1 from r1);cases (show y=.bool b2 from r2);cases h;refine ne_dataH (da:=.bool b1) (db:=.bool b2) (.bool _) (.bool _) (by cases b1<;>decide) (by cases b2<;>decide) (by omega) ?_;have e:(!PyData.eqv (.bool b1) (.bool b2))=(b1 != b2):=by cases b1<;>cases b2<;>decide +kernel
  rw[e];exact k _ (.refl s)
 ·split at h
  ·rename_i hd
   obtain⟨h1,h2⟩:=Bool.and_eq_true_iff.mp hd;cases h;obtain⟨as,q1⟩:=Qew i h1 r1;obtain⟨bs,q2⟩:=Qew i h2 r2;refine ne_dataH q1 q2 (QdG h1) (QdG h2) (by omega) ?_;rw[QmX h1 h2,←decide_not];exact k _ (.refl s)
  ·cases h
 ·obtain⟨t,rfl⟩:=r1; obtain⟨u,rfl⟩:=r2; cases h; exact P.lt_int (k _ (.refl s))
 ·obtain⟨t,rfl⟩:=r1; obtain⟨u,rfl⟩:=r2; cases h; exact P.le_int (k _ (.refl s))
 ·obtain⟨t,rfl⟩:=r1; obtain⟨u,rfl⟩:=r2; cases h; exact P.gt_int (k _ (.refl s))
 ·obtain⟨t,rfl⟩:=r1; obtain⟨u,rfl⟩:=r2; cases h; exact P.ge_int (k _ (.refl s))
 ·cases (show y=.none from r2)
  obtain⟨p1,p2⟩:=QgQ r1 h;exact wpAny_is_plain p1 (by rw[p2]; exact k _ (.refl s))
 ·cases (show y=.none from r2)
  obtain⟨b',hb,rfl⟩:=Option.map_eq_some_iff.mp h;obtain⟨p1,p2⟩:=QgQ r1 hb;exact wpAny_isNot_plain p1 (by rw[p2]; exact k _ (.refl s))
 ·-- in
  obtain⟨t,rfl⟩:=r1;split at h
  ·rename_i ks vs hq
   cases h;obtain⟨a,o,kvs,rfl,e,lo,d,z⟩:=QgR i r2 hq;refine wpAny_in_of (strKind_is P0 c.w _ t) lo (Heap.dictOf_iff.mpr ⟨o,e,d⟩).mapOf ?_;rw[(Qbz _ z).2.1];exact k _ (Grow.toks _ _)
  ·split at h
   ·split at h
    ·rename_i l _ hd
     cases h;obtain⟨a,o,xs,m,rfl,r,hc,hda,z⟩:=r2;obtain⟨as,q⟩:=Qbb 5 l xs hd z;refine SeqAt.in_tuple_reads (reads_tuple_at r.1 hc hda (by simpa using q)) (.str _ t) (QfX hd) (Qc7 _) ?_ ?_
     ·have:=Nat.min_le_right (PyData.depthAll (kqdPs (toDs l))) (PyData.str (Str.ofString ‹String›)).depth
      simp only[PyData.depth] at this ⊢;omega
     ·have:=QfW (k:=‹String›) hd
      rw[toD,kqdP] at this;rw[this];exact k _ (.refl s)
    ·cases h
   ·split at h
    ·rename_i l _ hd
     cases h;obtain⟨a,o,xs,m,rfl,r,hc,hda,z⟩:=r2;obtain⟨as,q⟩:=Qbb 5 l xs hd z;refine SeqAt.in_list_reads (reads_list_at r.1 hc hda (by simpa using q)) (.str _ t) (QfX hd) (Qc7 _) ?_ ?_
     ·have:=Nat.min_le_right (PyData.depthAll (kqdPs (toDs l))) (PyData.str (Str.ofString ‹String›)).depth
      simp only[PyData.depth] at this ⊢;omega
     ·have:=QfW (k:=‹String›) hd
      rw[toD,kqdP] at this;rw[this];exact k _ (.refl s)
    ·cases h
   ·cases h
 ·obtain⟨t,rfl⟩:=r1
  split at h
  ·rename_i ks vs hq
   cases h;obtain⟨a,o,kvs,rfl,e,lo,d,z⟩:=QgR i r2 hq;refine wpAny_notIn_of (strKind_is P0 c.w _ t) lo (Heap.dictOf_iff.mpr ⟨o,e,d⟩).mapOf ?_;rw[(Qbz _ z).2.1,←decide_not];exact k _ (Grow.toks _ _)
  ·split at h
   ·split at h
    ·rename_i l _ hd
     cases h;obtain⟨a,o,xs,m,rfl,r,hc,hda,z⟩:=r2;obtain⟨as,q⟩:=Qbb 5 l xs hd z;refine SeqAt.notIn_tuple_reads (reads_tuple_at r.1 hc hda (by simpa using q)) (.str _ t) (QfX hd) (Qc7 _) ?_ ?_
     ·have:=Nat.min_le_right (PyData.depthAll (kqdPs (toDs l))) (PyData.str (Str.ofString ‹String›)).depth
      simp only[PyData.depth] at this ⊢;omega
     ·have:=QfW (k:=‹String›) hd
      rw[toD,kqdP] at this;rw[this,←decide_not];exact k _ (.refl s)
    ·cases h
   ·split at h
    ·rename_i l _ hd
     cases h;obtain⟨a,o,xs,m,rfl,r,hc,hda,z⟩:=r2;obtain⟨as,q⟩:=Qbb 5 l xs hd z;refine SeqAt.notIn_list_reads (reads_list_at r.1 hc hda (by simpa using q)) (.str _ t) (QfX hd) (Qc7 _) ?_ ?_
     ·have:=Nat.min_le_right (PyData.depthAll (kqdPs (toDs l))) (PyData.str (Str.ofString ‹String›)).depth
      simp only[PyData.depth] at this ⊢;omega
     ·have:=QfW (k:=‹String›) hd
      rw[toD,kqdP] at this;rw[this,←decide_not];exact k _ (.refl s)
    ·cases h
   ·cases h
 ·cases h
end
end
abbrev Sc:=List (Str × NameKind)
abbrev Sl:=List (Str × Nat)
structure Ck where
 g:String->AV->Bool
 lm:Nat->Arguments->PySem.Expr->Scope->Pos->Bool
 init:Nat->Nat->Bool
 mt:Nat->String->Nat->Bool
 code:Value
 qual:Str
def FrOk (k:Ck) (e:Env):Prop:=e.code=k.code∧e.qual=k.qual
def xConst:PySem.Expr->Option Const | .Constant c _ _=>some c | _=>none
def xName:PySem.Expr->Option Str | .Name x _=>some x | _=>none
def xBin:PySem.Expr->Option (PySem.Expr × Operator × PySem.Expr) | .BinOp l o r _=>some (l,o,r) | _=>none
def xUn:PySem.Expr->Option (UnaryOp × PySem.Expr) | .UnaryOp o x _=>some (o,x) | _=>none
def xCmp:PySem.Expr->Option (PySem.Expr × CmpOp × PySem.Expr) | .Compare l [o] [r] _=>some (l,o,r) | _=>none
def xBool:PySem.Expr->Option (BoolOp × List PySem.Expr) | .BoolOp o l _=>some (o,l) | _=>none
def xIf:PySem.Expr->Option (PySem.Expr × PySem.Expr × PySem.Expr) | .IfExp t a b _=>some (t,a,b) | _=>none
def xCall:PySem.Expr->Option (Str × List PySem.Expr) | .Call (.Name x _) as [] _=>some (x,as) | _=>none
def noBare (x:PySem.Expr):Bool:=match xCall x with | some (_,[])=>false | _=>true
def xMeth:PySem.Expr->Option (PySem.Expr × Str × List PySem.Expr) | .Call (.Attribute o n ap) as [] p=>if ap.endLine==p.line&&decide (as.length<20)&&noBare o then some (o,n,as) else none | _=>none
def xAttr:PySem.Expr->Option (PySem.Expr × Str) | .Attribute o n _=>some (o,n) | _=>none
def xSub:PySem.Expr->Option (PySem.Expr × PySem.Expr) | .Subscript o i _=>some (o,i) | _=>none
def xSlice:PySem.Expr->Option (Option PySem.Expr × Option PySem.Expr) | .Slice a b none _=>some (a,b) | _=>none
def xList:PySem.Expr->Option (List PySem.Expr) | .List l _=>some l | _=>none
def xTup:PySem.Expr->Option (List PySem.Expr) | .Tuple l _ _=>some l | _=>none
def xDict:PySem.Expr->Option (List (Option PySem.Expr) × List PySem.Expr) | .Dict ks vs _=>some (ks,vs) | _=>none
def xComp:PySem.Expr->Option (PySem.Expr × List Comprehension × Scope) | .ListComp e gs s _=>some (e,gs,s) | _=>none
def xLam:PySem.Expr->Option (Arguments × PySem.Expr × Scope × Pos) | .Lambda a b s p=>some (a,b,s,p) | _=>none
def xJoin:PySem.Expr->Option (List PySem.Expr) | .JoinedStr l _=>some l | _=>none
def xFmt:PySem.Expr->Option PySem.Expr | .FormattedValue v c none _=>if c==-1 then some v else none | _=>none
def noStar:PySem.Expr->Bool | .Starred _ _=>false | _=>true
def plainT:PySem.Expr->Bool
 | .UnaryOp .Not _ _ | .BoolOp _ _ _ | .IfExp _ _ _ _ | .Compare _ _ _ _=>false
 | _=>true
def noSet:PySem.Expr->Bool | .Set _ _ _=>false | _=>true
def visL (sc:Sc) (x:Str):Bool:=match sc.lookup x with
 | some .local | some .cell | some .free=>true
 | _=>false
def glb (sc:Sc) (n:String) (x:Str):Bool:=x==Str.ofString n&&sc.lookup x==some .globalImplicit&&!(x==Str.ofString "__debug__")
def names?:List PySem.Expr->Option (List Str)
 | []=>some []
 | .Name x _::l=>(names? l).map (x::·)
 | _::_=>none
def tgt:PySem.Expr->Option (Bool × List Str)
 | .Name x _=>some (true,[x])
 | .Tuple l _ _=>(names? l).map (false,·)
 | _=>none
def chkT (sc:Sc) (σ:Sl) (ow:Str->Bool) (t:List Nat) (one:Bool) (x:PySem.Expr):Bool:=match tgt x with
 | some (b,xs)=>b==one&&xs.length==t.length&&(xs.zip t).all (fun (x,k)=>σ.lookup x==some k&&ow x&&(sc.lookup x==some .local||sc.lookup x==some .cell)&&!(x==Str.ofString "__debug__"))&&decide xs.Nodup
 | none=>false
def gslots:List PG->List Comprehension->Option Sl
 | [],[]=>some []
 | .mk t _ _ _::gs,⟨x,_,_,_⟩::cs=>match tgt x,gslots gs cs with
  | some (_,xs),some r=>some (xs.zip t++r)
  | _,_=>none
 | _,_=>none
def relab (sc:Sc) (names:Sc):Sc:=names.map fun (n,k)=>if (k==.free&&sc.lookup n==some .cell) then (n,.cell) else (n,k)
def compScope (sc:Sc) (σ:Sl) (own:Sl) (s:Scope):Bool :=
 s.kind==.function&&!s.isGenerator&&!s.isCoroutine&&decide (s.names.map (·.1)).Nodup &&
 s.names.all (fun (n,k)=>match k with
  | .free=>(σ.lookup n).isSome&&(sc.lookup n==some .cell||sc.lookup n==some .free)&&(own.lookup n).isNone
  | .local=>(σ.lookup n).isNone||(own.lookup n).isSome
  | .cell=>(own.lookup n).isSome
  | .globalImplicit=>(own.lookup n).isNone&&(σ.lookup n).isNone
  | _=>false) &&
 own.all (fun (n,k)=>(s.names.lookup n==some .local||s.names.lookup n==some .cell)&&σ.all (fun (_,j)=>j != k))&&decide (own.map (·.2)).Nodup&&decide (own.map (·.1)).Nodup
mutual
def chkE (k:Ck):PE->Sc->Sl->PySem.Expr->Bool
 | .non,sc,σ,x=>match xConst x with | some .none=>true | _=>false
 | .tru b,sc,σ,x=>match xConst x with | some (.bool c)=>b==c | _=>false
 | .int i,sc,σ,x=>match xConst x with | some (.int j)=>i==j | _=>false
 | .str s,sc,σ,x=>match xConst x with | some (.str t)=>t==Str.ofString s | _=>false
 | .loc n,sc,σ,x=>match xName x with | some y=>σ.lookup y==some n&&visL sc y&&!(y==Str.ofString "__debug__")&&!(y==Str.ofString "__classdict__") | none=>false
 | .glob n v,sc,σ,x=>match xName x with | some y=>glb sc n y&&k.g n v | none=>false
 | .bin o a b,sc,σ,x=>match xBin x with | some (l,p,r)=>p==opOf o&&chkE k a sc σ l&&chkE k b sc σ r | none=>false
 | .neg a,sc,σ,x=>match xUn x with | some (o,y)=>o==.USub&&chkE k a sc σ y | none=>false
 | .cmp o a b,sc,σ,x=>match xCmp x with | some (l,p,r)=>p==cmOf o&&!(behindInMarks p r)&&chkE k a sc σ l&&chkE k b sc σ r | none=>false
 | .nt a,sc,σ,x=>match xUn x with | some (o,y)=>o==.Not&&chkE k a sc σ y | none=>false
 | .and l,sc,σ,x=>match xBool x with | some (o,ys)=>o==.And&&chkL k l sc σ ys | none=>false
 | .or l,sc,σ,x=>match xBool x with | some (o,ys)=>o==.Or&&chkL k l sc σ ys | none=>false
 | .ife t a b,sc,σ,x=>match xIf x with | some (y,u,v)=>chkE k t sc σ y&&chkE k a sc σ u&&chkE k b sc σ v | none=>false
 | .call f as,sc,σ,x=>match x with | .Call (.Name y p) ys [] _=>chkE k f sc σ (.Name y p)&&chkL k as sc σ ys | _=>false
 | .new n C i as,sc,σ,x=>match xCall x with | some (y,ys)=>glb sc n y&&k.g n (.kref C)&&k.init C i&&chkL k as sc σ ys | none=>false
 | .meth o C n f as,sc,σ,x=>match xMeth x with | some (y,m,ys)=>m==Str.ofString n&&k.mt C n f&&chkE k o sc σ y&&chkL k as sc σ ys | none=>false
 | .push o a,sc,σ,x=>match xMeth x with | some (y,m,[z])=>m==Str.ofString "append"&&chkE k o sc σ y&&chkE k a sc σ z&&noStar z | _=>false
 | .pop0 o,sc,σ,x=>match xMeth x with | some (y,m,[.Constant (.int 0) _ _])=>m==Str.ofString "pop"&&chkE k o sc σ y | _=>false
 | .dget o a,sc,σ,x=>match xMeth x with | some (y,m,[z])=>m==Str.ofString "get"&&chkE k o sc σ y&&chkE k a sc σ z&&noStar z | _=>false
 | .attr o n,sc,σ,x=>match xAttr x with | some (y,m)=>m==Str.ofString n&&noBare y&&chkE k o sc σ y | none=>false
 | .sub o i,sc,σ,x=>match xSub x with | some (y,z)=>(xSlice z).isNone&&chkE k o sc σ y&&chkE k i sc σ z | none=>false
 | .upto o i,sc,σ,x=>match xSub x with | some (y,z)=>(match xSlice z with | some (none,some u)=>(xName y).isSome&&chkE k o sc σ y&&chkE k i sc σ u | _=>false) | none=>false
 | .from o i,sc,σ,x=>match xSub x with | some (y,z)=>(match xSlice z with | some (some u,none)=>(xName y).isSome&&chkE k o sc σ y&&chkE k i sc σ u | _=>false) | none=>false
 | .rep a b mu,sc,σ,x=>match xBin x with | some (l,p,r)=>(match xList l with | some [z]=>p==.Mult&&noStar z&&chkE k a sc σ z&&chkE k b sc σ r | _=>false) | none=>false
 | .cat a b,sc,σ,x=>match xBin x with | some (l,p,r)=>p==.Add&&chkE k a sc σ l&&chkE k b sc σ r | none=>false
 | .len a,sc,σ,x=>match xCall x with | some (y,[z])=>glb sc "len" y&&chkE k a sc σ z&&noStar z | _=>false
 | .abs a,sc,σ,x=>match xCall x with | some (y,[z])=>glb sc "abs" y&&chkE k a sc σ z&&noStar z | _=>false
 | .sum a,sc,σ,x=>match xCall x with | some (y,[z])=>glb sc "sum" y&&chkE k a sc σ z&&noStar z | _=>false
 | .min a b,sc,σ,x=>match xCall x with | some (y,[z,u])=>glb sc "min" y&&chkE k a sc σ z&&noStar z&&chkE k b sc σ u&&noStar u | _=>false
 | .intof a,sc,σ,x=>match xCall x with | some (y,[z])=>glb sc "int" y&&chkE k a sc σ z&&noStar z | _=>false
 | .strof a,sc,σ,x=>match xCall x with | some (y,[z])=>glb sc "str" y&&chkE k a sc σ z&&noStar z | _=>false
 | .range a b,sc,σ,x=>match xCall x with | some (y,[z,u])=>glb sc "range" y&&chkE k a sc σ z&&noStar z&&chkE k b sc σ u&&noStar u | _=>false
 | .range1 a,sc,σ,x=>match xCall x with | some (y,[z])=>glb sc "range" y&&chkE k a sc σ z&&noStar z | _=>false
 | .list a mu,sc,σ,x=>match xCall x with | some (y,[z])=>glb sc "list" y&&chkE k a sc σ z&&noStar z | _=>false
 | .isinst a n C,sc,σ,x=>match xCall x with | some (y,[z,.Name u _])=>glb sc "isinstance" y&&chkE k a sc σ z&&noStar z&&glb sc n u&&k.g n (.kref C) | _=>false
 | .lst l mu,sc,σ,x=>match xList x with | some ys=>decide (ys.length≤1000)&&chkL k l sc σ ys | none=>false
 | .tup l,sc,σ,x=>match xTup x with | some ys=>decide (ys.length≤1000)&&chkL k l sc σ ys | none=>false
 | .dct ks l mu,sc,σ,x=>match xDict x with | some (zs,ys)=>decide (ks.length=zs.length)&&decide (zs.length=ys.length)&&(mu==ks.isEmpty)&&decide (ks.length≤1)&&(ks.zip zs).all (fun (n,z)=>match z with | some (.Constant (.str t) _ _)=>t==Str.ofString n | _=>false)&&chkL k l sc σ ys | none=>false
 | .comp e gs mu,sc,σ,x=>match xComp x with
  | some (y,cs,s)=>(match gslots gs cs with
   | some own=>!gs.isEmpty&&compScope sc σ own s&&chkG k gs sc σ (relab sc s.names) (own++σ) (fun n=>(own.lookup n).isSome) cs&&chkE k e (relab sc s.names) (own++σ) y
   | none=>false)
  | none=>false
 | .lam n,sc,σ,x=>match xLam x with | some (a,b,s,p)=>k.lm n a b s p | none=>false
 | .fstr l,sc,σ,x=>match xJoin x with | some ys=>decide (2≤ys.length)&&chkL k l sc σ ys | none=>false
 | .fmt a,sc,σ,x=>match xFmt x with | some y=>chkE k a sc σ y | none=>false
 | .frz a,sc,σ,x=>plainT x&&chkE k a sc σ x
 | .bad,sc,σ,x=>true
def chkL (k:Ck):List PE->Sc->Sl->List PySem.Expr->Bool
 | [],_,_,ys=>ys.isEmpty
 | a::l,sc,σ,ys=>match ys with
  | y::r=>noStar y&&chkE k a sc σ y&&chkL k l sc σ r
  | []=>false
def chkG (k:Ck):List PG->Sc->Sl->Sc->Sl->(Str->Bool)->List Comprehension->Bool
 | [],_,_,_,_,_,cs=>cs.isEmpty
 | .mk t one it ifs::gs,sc,σ,sc',σ',ow,cs=>match cs with
  | ⟨x,y,zs,a⟩::r=>a==0&&noSet y&&chkE k it sc σ y&&chkT sc' σ' ow t one x&&chkL k ifs sc' σ' zs&&chkG k gs sc' σ' sc' σ' ow r
  | []=>false
end
section
def GlobV (P:Params):AV->Value->Prop
 | .kref a,v=>v=.ref a
 | .int i,v=>∃t,v=.int i t
 | .tup [.int i,.int j],v=>∃a o t u n,v=.ref a∧(KX P).lookup a=some o∧o.cls=.type "tuple"∧o.data=.seq #[.int i t,.int j u] n
 | _,_=>False
def mtL:List (Nat × String × Nat):=[(110,"exact",74),(110,"partial",81),(110,"partial_of",88),(110,"positional",95),(110,"is_free",102),(110,"rest",107)]
def initL:List (Nat × Nat):=[(110,67),(270,267),(299,289)]
structure CkOk (c:Cx) (k:Ck):Prop where
 g:∀n v,k.g n v=true->n≠"__debug__"∧∃val,nsIn (KX c.w.params) mainGlobals (Str.ofString n)=some (some val)∧GlobV c.w.params v val
 mt:∀D n f,k.mt D n f=true->(D,n,f)∈mtL
 init:∀D i,k.init D i=true->(D,i)∈initL
 lm:∀m a b s p,k.lm m a b s p=true->(∃ca,k.code=.ref ca∧∀h,(KX c.w.params).In h->CodeHd h ca gh)∧k.qual++Str.ofString "<lambda>"=c.lq∧(∀env,defaultsOf a env=([],[]))∧(∀env,closureFor s env=pure []) ∧
  ∀fd:FuncData,fd.params=a->fd.body=.expr b->fd.scope=s->fd.closure=[]->fd.globals=mainGlobals->fd.builtins=builtinsNs->fd.defaults=.none->c.LO m fd
section
variable (c:Cx) (k:Ck) (n:Nat) (C:Orc)
def EvOk (e:PE) (f:Fm) (x:PySem.Expr):Prop:=∀A,Room f A n->∀ρ s H cm,Inv c f s ρ H cm->∀Q E,EPost c f ρ s cm (evE C ρ e H) Q E->wpAny (model P0 c.w) A (eval x f.env) Q E s
def TrOk (e:PE) (f:Fm) (x:PySem.Expr):Prop:=∀A,Room f A n->∀ρ s H cm,Inv c f s ρ H cm->∀Q E,TPost c f ρ s cm (evT C ρ e H) Q E->wpAny (model P0 c.w) A (isTrue x f.env (eval x f.env)) Q E s
def SE (e:PE):Prop:=∀f:Fm,FrOk k f.env->∀x,chkE k e f.sc f.σ x=true->EvOk c n C e f x∧TrOk c n C e f x
def SL (l:List PE):Prop:=∀f:Fm,FrOk k f.env->∀xs,chkL k l f.sc f.σ xs=true->∀pos A,Room f A n->∀ρ s H cm,Inv c f s ρ H cm->∀Q E,LPost c f ρ s cm (evL C ρ l H) Q E->wpAny (model P0 c.w) A (spliced (backTo pos (starEach xs f.env))) Q E s
end
theorem isTrue_plain {x:PySem.Expr} {env:Env} {w:Sem Value} (h:plainT x=true):isTrue x env w=(do let v ←w; standAt x.pos; holding [v] (truthy v)):=by
 cases x with
 | UnaryOp o _ _=>cases o<;>first | rfl | cases h
 | _=>first | rfl | cases h
section
variable {c:Cx} {k:Ck} {n:Nat} {C:Orc} {f:Fm} {x:PySem.Expr} {e:PE}
theorem QlM (hx:plainT x=true) (h:EvOk c n C e f x):TrOk c n C e f x:=fun A rm ρ s H cm i Q E p=>by
 refine wpAny_isTrue_value ?_ (isTrue_plain hx);unfold evT at p;refine bindG (rp:=c.rep f.FX) (rp':=fun _ _ (a b:Bool)=>a=b) (fun Q=>h A rm ρ s H cm i Q E) p fun v H_1 y s_1 cm_1 _ n i_1 r p=>?_
 cases hb:pTruth v with
 | none=>rw[hb] at p; exact p.elim
 | some b=>rw[hb] at p; exact Qc6 r hb (p b s_1 cm_1 (Nx.refl ..) i_1 rfl)
theorem Qag (hx:plainT x=true) (h:EvOk c n C e f x):EvOk c n C e f x∧TrOk c n C e f x:=⟨h,QlM hx h⟩
theorem Qpw:SE c k n C .non:=fun f hcd x h=>by
 simp only[chkE] at h;split at h
 ·rename_i hx
  cases x<;>simp only[xConst,reduceCtorEq,Option.some.injEq] at hx;subst hx;refine Qag rfl fun A rm ρ s H cm i Q E p=>wpAny_Constant_none (p.here i rfl)
 ·cases h
theorem Qpx {b:Bool}:SE c k n C (.tru b):=fun f hcd x h=>by
 simp only[chkE] at h;split at h
 ·rename_i hx
  cases x<;>simp only[xConst,reduceCtorEq,Option.some.injEq] at hx;subst hx;rw[←beq_iff_eq.mp h];refine Qag rfl fun A rm ρ s H cm i Q E p=>wpAny_Constant_bool (p.here i rfl)
 ·cases h
theorem Qpy {j:Int}:SE c k n C (.int j):=fun f hcd x h=>by
 simp only[chkE] at h;split at h
 ·rename_i hx
  cases x<;>simp only[xConst,reduceCtorEq,Option.some.injEq] at hx;subst hx;rw[←beq_iff_eq.mp h];refine Qag rfl fun A rm ρ s H cm i Q E p=>wpAny_Constant_int (p.end i (Grow.toks _ _) ⟨_,rfl⟩)
 ·cases h
theorem Qpz {t:String}:SE c k n C (.str t):=fun f hcd x h=>by
 simp only[chkE] at h;split at h
 ·rename_i hx
  cases x<;>simp only[xConst,reduceCtorEq,Option.some.injEq] at hx;subst hx;rw[beq_iff_eq.mp h];refine Qag rfl fun A rm ρ s H cm i Q E p=>wpAny_Constant_str (p.end i (Grow.toks _ _) ⟨_,rfl⟩)
 ·cases h
theorem QhO {x:PySem.Expr} {y:Str} (h:xName x=some y):∃p,x=.Name y p:=by
 cases x<;>simp only[xName,reduceCtorEq,Option.some.injEq] at h;subst h;exact⟨_,rfl⟩
theorem QaR {f:Fm} {x:Str}:f.env.kindOf x=f.sc.lookup x:=by rw[Env.kindOf,f.ok.names]
theorem QpA {m:Nat}:SE c k n C (.loc m):=fun f hcd x h=>by
 simp only[chkE] at h;split at h
 ·rename_i y hx
  obtain⟨p,rfl⟩:=QhO hx;simp only[Bool.and_eq_true,beq_iff_eq,Bool.not_eq_true'] at h;obtain⟨⟨⟨h1,h2⟩,h3⟩,h4⟩:=h;refine Qag rfl fun A rm ρ s H cm i Q E p=>wpAny_Name ?_ h3
  simp only[evE] at p;have key:∃av,ρ[m]?=some av∧av≠.unset∧EPost c f ρ s cm (.ok av H) Q E:=by
   cases hρ:ρ[m]? with
   | none=>rw[hρ] at p; exact p.elim
   | some av=>rw[hρ] at p; cases av<;>first | exact p.elim | exact⟨_,rfl,nofun,p⟩
  obtain⟨av,e1,e2,p⟩:=key;unfold visL at h2;split at h2
  ·rename_i hk
   obtain⟨mm,hn,z⟩:=i.ns;obtain⟨v,hv,r⟩:=z y m h1 hk av e1 e2;exact wpAny_loadName_local f.ok.kind (QaR.trans hk) hn hv (p.here i r)
  ·rename_i hk
   obtain⟨a,ha,_⟩:=f.ok.cell y m _ h1 hk (.inl rfl);obtain⟨o,ov,eo,ed,z⟩:=i.cl y m _ a h1 hk (.inl rfl) ha;obtain⟨v,rfl,r⟩:=z av e1 e2;exact wpAny_loadName_cell f.ok.kind (QaR.trans hk) ha ⟨o,eo,ed⟩ (p.here i r)
  ·rename_i hk
   obtain⟨a,ha,_⟩:=f.ok.cell y m _ h1 hk (.inr rfl);obtain⟨o,ov,eo,ed,z⟩:=i.cl y m _ a h1 hk (.inr rfl) ha;obtain⟨v,rfl,r⟩:=z av e1 e2;exact wpAny_loadName_free f.ok.kind (QaR.trans hk) ha ⟨o,eo,ed⟩ (p.here i r) h4
  ·cases h2
 ·cases h
theorem KX_ne (P:Params):(KX P).all (fun p=>p.1 != 1103&&(stab p.2||(p.2.cls==.type "code"||p.2.cls==.type "getset_descriptor")))=true:=by kernel_rfl
theorem mem_lookup {K:Frag} {a:Addr} {o:Obj} (h:K.lookup a=some o):(a,o)∈K:=mem_of_lookupK h
theorem QpB {P:Params} {a:Addr} {o:Obj} (h:(KX P).lookup a=some o):a≠Mine.gh:=by
 have:=List.all_eq_true.mp (KX_ne P) (a,o) (mem_lookup h);simp only[Bool.and_eq_true,bne_iff_ne] at this;exact this.1
theorem Base.X {FX:List Addr} {s:Shared} {H:AH} {cm:CM} (b:Base c FX s H cm):(KX c.w.params).In s.heap:=fun a o e=>b.old a o (QpB e) (c.X a o e)
theorem Base.ns {FX:List Addr} {s:Shared} {H:AH} {cm:CM} (b:Base c FX s H cm) {a:Addr} {m:Str->Option Value} (h:c.h_1.Ns a m) (ha:a≠Mine.gh):s.heap.Ns a m :=
 let ⟨o,es,ep,e,r⟩:=h; ⟨o,es,ep,b.old a o ha e,r⟩
theorem Base.nolim {FX:List Addr} {s:Shared} {H:AH} {cm:CM} (b:Base c FX s H cm):s.heap.NoLimit :=
 let ⟨mc,h,r⟩:=c.T.nolimit; ⟨mc,b.ns h (by decide),r⟩
theorem QcL {A:Around} {s:Shared} {ρ:List AV} {H:AH} {cm:CM} {nm:String} {pos:Pos} {v:Value} {Q:Value->Shared->Prop} {E:Value->Shared->Prop} (i:Inv c f s ρ H cm) (hg:glb f.sc nm (Str.ofString nm)=true)
  (e:nsIn (KX c.w.params) mainGlobals (Str.ofString nm)=some (some v)) (h:Q v s):wpAny (model P0 c.w) A (eval (.Name (Str.ofString nm) pos) f.env) Q E s:=by
 simp only[glb,Bool.and_eq_true,beq_iff_eq,Bool.not_eq_true'] at hg;refine Calls.Name_function_global f.ok.kind (QaR.trans hg.1.2) (Calls.loadGlobal_global (mg:=c.mg) ?_ (mg_of c.X c.T.g e) h) hg.2;rw[f.ok.globals];exact i.base.ns c.T.g (by decide)
theorem Qiw {A:Around} {s:Shared} {ρ:List AV} {H:AH} {cm:CM} {nm:String} {pos:Pos} {v:Value} {Q:Value->Shared->Prop} {E:Value->Shared->Prop} (i:Inv c f s ρ H cm) (hg:glb f.sc nm (Str.ofString nm)=true)
  (e:nsIn (KX c.w.params) mainGlobals (Str.ofString nm)=some none) (hv:bootBuiltins (Str.ofString nm)=some v) (hn:Str.ofString nm≠Str.ofString "__name__") (h:Q v s):wpAny (model P0 c.w) A (eval (.Name (Str.ofString nm) pos) f.env) Q E s:=by
 simp only[glb,Bool.and_eq_true,beq_iff_eq,Bool.not_eq_true'] at hg;refine Calls.Name_function_global f.ok.kind (QaR.trans hg.1.2) (Calls.loadGlobal_builtin (mg:=c.mg) (mb:=c.mb) ?_ (mg_none_of c.X c.T.g e) ?_ ((c.T.builtins _ hn).trans hv) h) hg.2
 ·rw[f.ok.globals]; exact i.base.ns c.T.g (by decide)
 ·rw[f.ok.builtins]; exact i.base.ns c.T.b (by decide)
theorem GlobV.rep {FX:List Addr} {s:Shared} {H:AH} {cm:CM} (b:Base c FX s H cm) {v:AV} {x:Value} (h:GlobV c.w.params v x):c.rep FX cm s.heap v x:=by
 unfold GlobV at h;split at h
 ·exact h
 ·exact h
 ·obtain⟨a,o,t,u,m,rfl,e,hc,hd⟩:=h
  have hb:=c.X a o e;refine⟨a,o,[.int _ t,.int _ u],m,rfl,⟨b.X a o e,by simp[stab,hd],fun q=>?_,fun q=>?_⟩,hc,hd,⟨_,_,rfl,⟨t,rfl⟩,_,_,rfl,⟨u,rfl⟩,rfl⟩⟩
  ·rw[(b.lo a (.inl q)).1] at hb; cases hb
  ·rw[(b.lo a (.inr q)).1] at hb; cases hb
 ·exact h.elim
theorem QnP (ok:CkOk c k) {m:String} {v:AV}:SE c k n C (.glob m v):=fun f hcd x h=>by
 simp only[chkE] at h;split at h
 ·rename_i y hx
  obtain⟨p,rfl⟩:=QhO hx;simp only[Bool.and_eq_true] at h;obtain⟨h1,h2⟩:=h;have hy:y=Str.ofString m:=by simp only[glb,Bool.and_eq_true,beq_iff_eq] at h1; exact h1.1.1
  subst hy;obtain⟨_,val,e,gv⟩:=ok.g m v h2;exact Qag rfl fun A rm ρ s H cm i Q E p=>QcL i h1 e (p.here i (gv.rep i.base))
 ·cases h
theorem QjV {x l r:PySem.Expr} {o:Operator} (h:xBin x=some (l,o,r)):∃p,x=.BinOp l o r p:=by
 cases x<;>simp only[xBin,reduceCtorEq,Option.some.injEq,Prod.mk.injEq] at h;obtain⟨rfl,rfl,rfl⟩:=h;exact⟨_,rfl⟩
theorem QpC {o:Op} {a b:PE} (ha:SE c k n C a) (hb:SE c k n C b):SE c k n C (.bin o a b):=fun f hcd x h=>by
 simp only[chkE] at h;split at h
 ·rename_i l p r hx
  obtain⟨pos,rfl⟩:=QjV hx;simp only[Bool.and_eq_true,beq_iff_eq] at h;obtain⟨⟨rfl,h1⟩,h2⟩:=h;refine Qag rfl fun A rm ρ s H cm i Q E p=>wpAny_BinOp ?_
  simp only[evE] at p;refine bindG (fun Q=>(ha f hcd l h1).1 A rm ρ s H cm i Q E) p fun v H_1 y s_1 cm_1 _ n_1 i_1 r_1 p=>?_
  refine bindG (fun Q=>(hb f hcd r h2).1 A rm ρ s_1 H_1 cm_1 i_1 Q E) p fun w H_2 z s_2 cm_2 _ n_2 i_2 r_2 p=>?_
  exact QlL rm i_2 (n_2.rep i_1.base r_1) r_2 p
 ·cases h
theorem QpD {x y:PySem.Expr} {o:UnaryOp} (h:xUn x=some (o,y)):∃p,x=.UnaryOp o y p:=by
 cases x<;>simp only[xUn,reduceCtorEq,Option.some.injEq,Prod.mk.injEq] at h;obtain⟨rfl,rfl⟩:=h;exact⟨_,rfl⟩
theorem QpE {a:PE} (ha:SE c k n C a):SE c k n C (.neg a):=fun f hcd x h=>by
 simp only[chkE] at h;split at h
 ·rename_i o y hx
  obtain⟨pos,rfl⟩:=QpD hx;simp only[Bool.and_eq_true,beq_iff_eq] at h;obtain⟨rfl,h1⟩:=h;refine Qag rfl fun A rm ρ s H cm i Q E p=>wpAny_UnaryOp ?_
  simp only[evE] at p;refine bindG (fun Q=>(ha f hcd y h1).1 A rm ρ s H cm i Q E) p fun v H_1 y s_1 cm_1 _ n_1 i_1 r_1 p=>?_
  cases v<;>first | exact p.elim | skip
  obtain⟨t,rfl⟩:=r_1;exact P.neg_int (EPost.end p i_1 (Grow.toks _ _) ⟨_,rfl⟩)
 ·cases h
theorem QpF {x l r:PySem.Expr} {o:CmpOp} (h:xCmp x=some (l,o,r)):∃p,x=.Compare l [o] [r] p:=by
 cases x with
 | Compare l os rs p =>
  match os,rs,h with
  | [o],[r],h =>
   simp only[xCmp,Option.some.injEq,Prod.mk.injEq] at h;obtain⟨rfl,rfl,rfl⟩:=h;exact⟨_,rfl⟩
 | _=>simp only[xCmp,reduceCtorEq] at h
theorem QpG {o:Cm} {a b:PE} (ha:SE c k n C a) (hb:SE c k n C b):SE c k n C (.cmp o a b):=fun f hcd x h=>by
 simp only[chkE] at h;split at h
 ·rename_i l p r hx
  obtain⟨pos,rfl⟩:=QpF hx;simp only[Bool.and_eq_true,beq_iff_eq,Bool.not_eq_true'] at h;obtain⟨⟨⟨rfl,h0⟩,h1⟩,h2⟩:=h;refine⟨fun A rm ρ s H cm i Q E p=>wpAny_Compare1 ?_ h0,fun A rm ρ s H cm i Q E p=>wpAny_isTrue_Compare1 ?_ h0⟩
  ·simp only[evE] at p
   refine bindG (fun Q=>(ha f hcd l h1).1 A rm ρ s H cm i Q E) p fun v H_1 y s_1 cm_1 _ n_1 i_1 r_1 p=>?_
   refine bindG (fun Q=>(hb f hcd r h2).1 A rm ρ s_1 H_1 cm_1 i_1 Q E) p fun w H_2 z s_2 cm_2 _ n_2 i_2 r_2 p=>?_
   cases hc:pCmp H_2 o v w with
   | none=>rw[hc] at p; exact p.elim
   | some t =>
    rw[hc] at p;exact Qiv rm i_2 (n_2.rep i_1.base r_1) r_2 hc fun s' g=>EPost.end p i_2 g rfl
  ·simp only[evT,evE] at p
   have p':TPost c f ρ s cm ((evE C ρ a H).bind fun x H=>(evE C ρ b H).bind fun y H=>.ofOpt (pCmp H o x y) H) Q E:=by
    have e:(((evE C ρ a H).bind fun x H=>(evE C ρ b H).bind fun y H=>Out.ofOpt ((pCmp H o x y).map AV.bool) H).bind fun v H=>Out.ofOpt (pTruth v) H)=((evE C ρ a H).bind fun x H=>(evE C ρ b H).bind fun y H=>.ofOpt (pCmp H o x y) H):=by
     cases evE C ρ a H with
     | ok v H_1 =>
      simp only[Out.bind_ok];cases evE C ρ b H_1 with
      | ok w H_2=>simp only[Out.bind_ok]; cases pCmp H_2 o v w<;>rfl
      | _=>rfl
     | _=>rfl
    rw[←e]; exact p
   refine bindG (rp':=fun _ _ (a b:Bool)=>a=b) (fun Q=>(ha f hcd l h1).1 A rm ρ s H cm i Q E) p' fun v H_1 y s_1 cm_1 _ n_1 i_1 r_1 p=>?_
   refine bindG (rp':=fun _ _ (a b:Bool)=>a=b) (fun Q=>(hb f hcd r h2).1 A rm ρ s_1 H_1 cm_1 i_1 Q E) p fun w H_2 z s_2 cm_2 _ n_2 i_2 r_2 p=>?_
   cases hc:pCmp H_2 o v w with
   | none=>rw[hc] at p; exact p.elim
   | some t =>
    rw[hc] at p;exact Qiv rm i_2 (n_2.rep i_1.base r_1) r_2 hc fun s' g=>wpAny_truthy_bool (p _ s' cm_2 g.nx (g.inv i_2) rfl)
 ·cases h
theorem se_nt {a:PE} (ha:SE c k n C a):SE c k n C (.nt a):=fun f hcd x h=>by
 simp only[chkE] at h;split at h
 ·rename_i o y hx
  obtain⟨pos,rfl⟩:=QpD hx;simp only[Bool.and_eq_true,beq_iff_eq] at h;obtain⟨rfl,h1⟩:=h;refine⟨fun A rm ρ s H cm i Q E p=>wpAny_UnaryOp ?_,fun A rm ρ s H cm i Q E p=>wpAny_isTrue_Not ?_⟩
  ·simp only[evE] at p
   refine bindG (fun Q=>(ha f hcd y h1).1 A rm ρ s H cm i Q E) p fun v H_1 y s_1 cm_1 _ n_1 i_1 r_1 p=>?_
   refine not_value ?_;cases hb:pTruth v with
   | none=>rw[hb] at p; exact p.elim
   | some b=>rw[hb] at p; exact Qc6 r_1 hb (EPost.here p i_1 rfl)
  ·simp only[evT,evE] at p
   have p':TPost c f ρ s cm ((evT C ρ a H).bind fun b H=>.ok (!b) H) Q E:=by
    have e:(((evE C ρ a H).bind fun x H=>Out.ofOpt ((pTruth x).map fun b=>AV.bool !b) H).bind fun v H=>Out.ofOpt (pTruth v) H)=((evT C ρ a H).bind fun b H=>.ok (!b) H):=by
     unfold evT;cases evE C ρ a H with
     | ok v H_1=>simp only[Out.bind_ok]; cases pTruth v<;>rfl
     | _=>rfl
    rw[←e]; exact p
   refine bindG (rp:=fun _ _ (a b:Bool)=>a=b) (rp':=fun _ _ (a b:Bool)=>a=b) (fun Q=>(ha f hcd y h1).2 A rm ρ s H cm i Q E) p' fun v H_1 y s_1 cm_1 _ n_1 i_1 r_1 p=>?_
   rw[←r_1];exact p _ s_1 cm_1 (Nx.refl ..) i_1 rfl
 ·cases h
end
end
section
section
variable {c:Cx} {k:Ck} {n:Nat} {C:Orc} {f:Fm} {x:PySem.Expr} {e:PE}
theorem QaM {a:PE} {l:List PE} {sc:Sc} {σ:Sl} {ys:List PySem.Expr} (h:chkL k (a::l) sc σ ys=true):∃y r,ys=y::r∧noStar y=true∧chkE k a sc σ y=true∧chkL k l sc σ r=true:=by
 simp only[chkL] at h;split at h
 ·rename_i y r
  simp only[Bool.and_eq_true] at h;exact⟨y,r,rfl,h.1.1,h.1.2,h.2⟩
 ·cases h
theorem Qbu {sc:Sc} {σ:Sl} {ys:List PySem.Expr} (h:chkL k [] sc σ ys=true):ys=[]:=by
 simp only[chkL] at h;exact List.isEmpty_iff.mp h
theorem Qix {A:Around} (rm:Room f A n) (hcd:FrOk k f.env) {ρ:List AV} {pos:Pos} {Q:Value->Shared->Prop} {E:Value->Shared->Prop}:∀(l:List PE),(∀e∈l,SE c k n C e)->∀ys,chkL k l f.sc f.σ ys=true->∀s H cm,Inv c f s ρ H cm ->
  EPost c f ρ s cm (evAnd C ρ l H) Q E->wpAny (model P0 c.w) A (boolOp pos .And (evalEach ys f.env)) Q E s
 | [],_,_,_,_,_,_,_,p=>by simp only[evAnd] at p; exact p.elim
 | e::l,hs,ys,h,s,H,cm,i,p=>by
  obtain⟨y,r,rfl,_,h1,h2⟩:=QaM h;simp only[evAnd] at p;cases l with
  | nil =>
   cases Qbu h2;show wpAny _ _ (eval y f.env) Q E s;refine bindG (fun Q=>(hs e (.head _) f hcd y h1).1 A rm ρ s H cm i Q E) p fun v H_1 z s_1 cm_1 _ n_1 i_1 r_1 p=>EPost.here p i_1 r_1
  | cons e' l' =>
   obtain⟨y',r',rfl,_,_,_⟩:=QaM h2;show wpAny _ _ (do
    let v ←eval y f.env
    standAt pos
    let t ←holding [v] (truthy v)
    match BoolOp.And,t with
    | .And,false | .Or,true=>pure v
    | _,_=>boolOp pos .And (evalEach (y'::r') f.env)) Q E s
   refine wpAny_bind (bindG (fun Q=>(hs e (.head _) f hcd y h1).1 A rm ρ s H cm i Q E) p fun v H_1 z s_1 cm_1 _ n_1 i_1 r_1 p=>wpAny_bind (wpAny_standAt (wpAny_bind (wpAny_holding ?_))));cases hb:pTruth v with
   | none=>rw[hb] at p; exact p.elim
   | some b =>
    rw[hb] at p;refine Qc6 r_1 hb ?_;cases b with
    | false=>exact wpAny_pure (EPost.here p i_1 r_1)
    | true=>exact Qix rm hcd (e'::l') (fun e he=>hs e (.tail _ he)) (y'::r') h2 s_1 H_1 cm_1 i_1 p
theorem QjW {A:Around} (rm:Room f A n) (hcd:FrOk k f.env) {ρ:List AV} {pos:Pos} {Q:Value->Shared->Prop} {E:Value->Shared->Prop}:∀(l:List PE),(∀e∈l,SE c k n C e)->∀ys,chkL k l f.sc f.σ ys=true->∀s H cm,Inv c f s ρ H cm ->
  EPost c f ρ s cm (evOr C ρ l H) Q E->wpAny (model P0 c.w) A (boolOp pos .Or (evalEach ys f.env)) Q E s
 | [],_,_,_,_,_,_,_,p=>by simp only[evOr] at p; exact p.elim
 | e::l,hs,ys,h,s,H,cm,i,p=>by
  obtain⟨y,r,rfl,_,h1,h2⟩:=QaM h;simp only[evOr] at p;cases l with
  | nil =>
   cases Qbu h2;show wpAny _ _ (eval y f.env) Q E s;refine bindG (fun Q=>(hs e (.head _) f hcd y h1).1 A rm ρ s H cm i Q E) p fun v H_1 z s_1 cm_1 _ n_1 i_1 r_1 p=>EPost.here p i_1 r_1
  | cons e' l' =>
   obtain⟨y',r',rfl,_,_,_⟩:=QaM h2;show wpAny _ _ (do
    let v ←eval y f.env
    standAt pos
    let t ←holding [v] (truthy v)
    match BoolOp.Or,t with
    | .And,false | .Or,true=>pure v
    | _,_=>boolOp pos .Or (evalEach (y'::r') f.env)) Q E s
   refine wpAny_bind (bindG (fun Q=>(hs e (.head _) f hcd y h1).1 A rm ρ s H cm i Q E) p fun v H_1 z s_1 cm_1 _ n_1 i_1 r_1 p=>wpAny_bind (wpAny_standAt (wpAny_bind (wpAny_holding ?_))));cases hb:pTruth v with
   | none=>rw[hb] at p; exact p.elim
   | some b =>
    rw[hb] at p;refine Qc6 r_1 hb ?_;cases b with
    | true=>exact wpAny_pure (EPost.here p i_1 r_1)
    | false=>exact QjW rm hcd (e'::l') (fun e he=>hs e (.tail _ he)) (y'::r') h2 s_1 H_1 cm_1 i_1 p
def andK (C:Orc) (ρ:List AV) (b:Bool) (l:List PE) (H:AH):Out Bool:=match b,l with
 | true,_::_=>(evAnd C ρ l H).bind fun v H=>.ofOpt (pTruth v) H
 | b,_=>.ok b H
def orK (C:Orc) (ρ:List AV) (b:Bool) (l:List PE) (H:AH):Out Bool:=match b,l with
 | false,_::_=>(evOr C ρ l H).bind fun v H=>.ofOpt (pTruth v) H
 | b,_=>.ok b H
theorem allAnd {A:Around} (rm:Room f A n) (hcd:FrOk k f.env) {ρ:List AV} {Q:Bool->Shared->Prop} {E:Value->Shared->Prop}:∀(l:List PE),(∀e∈l,SE c k n C e)->∀ys,chkL k l f.sc f.σ ys=true->∀s H cm,Inv c f s ρ H cm ->
  TPost c f ρ s cm ((evAnd C ρ l H).bind fun v H=>.ofOpt (pTruth v) H) Q E->wpAny (model P0 c.w) A (allTrue .And ys f.env) Q E s
 | [],_,_,_,_,_,_,_,p=>by simp only[evAnd] at p; exact p.elim
 | e::l,hs,ys,h,s,H,cm,i,p=>by
  obtain⟨y,r,rfl,_,h1,h2⟩:=QaM h;refine wpAny_allTrue_And_cons ?_;have p':TPost c f ρ s cm ((evT C ρ e H).bind fun b H=>andK C ρ b l H) Q E:=by
   have q:((evAnd C ρ (e::l) H).bind fun v H=>Out.ofOpt (pTruth v) H)=((evT C ρ e H).bind fun b H=>andK C ρ b l H):=by
    simp only[evAnd,evT];cases evE C ρ e H with
    | ok v H_1 =>
     simp only[Out.bind_ok];cases l with
     | nil=>simp only[Out.bind_ok]; cases pTruth v with | none=>rfl | some b=>cases b<;>rfl
     | cons e' l' =>
      cases hb:pTruth v with
      | none=>rfl
      | some b=>cases b with
       | true=>rfl
       | false=>simp[hb,andK]
    | _=>rfl
   rw[←q]; exact p
  refine bindG (rp:=fun _ _ (a b:Bool)=>a=b) (rp':=fun _ _ (a b:Bool)=>a=b) (fun Q=>(hs e (.head _) f hcd y h1).2 A rm ρ s H cm i Q E) p' fun v H_1 z s_1 cm_1 _ n_1 i_1 r_1 p=>?_
  subst r_1;cases v with
  | false=>exact p _ s_1 cm_1 (Nx.refl ..) i_1 rfl
  | true =>
   cases l with
   | nil=>cases Qbu h2; exact wpAny_allTrue_And_nil (p _ s_1 cm_1 (Nx.refl ..) i_1 rfl)
   | cons e' l'=>exact allAnd rm hcd (e'::l') (fun e he=>hs e (.tail _ he)) r h2 s_1 H_1 cm_1 i_1 p
theorem allOr {A:Around} (rm:Room f A n) (hcd:FrOk k f.env) {ρ:List AV} {Q:Bool->Shared->Prop} {E:Value->Shared->Prop}:∀(l:List PE),(∀e∈l,SE c k n C e)->∀ys,chkL k l f.sc f.σ ys=true->∀s H cm,Inv c f s ρ H cm ->
  TPost c f ρ s cm ((evOr C ρ l H).bind fun v H=>.ofOpt (pTruth v) H) Q E->wpAny (model P0 c.w) A (allTrue .Or ys f.env) Q E s
 | [],_,_,_,_,_,_,_,p=>by simp only[evOr] at p; exact p.elim
 | e::l,hs,ys,h,s,H,cm,i,p=>by
  obtain⟨y,r,rfl,_,h1,h2⟩:=QaM h;refine wpAny_allTrue_Or_cons ?_;have p':TPost c f ρ s cm ((evT C ρ e H).bind fun b H=>orK C ρ b l H) Q E:=by
   have q:((evOr C ρ (e::l) H).bind fun v H=>Out.ofOpt (pTruth v) H)=((evT C ρ e H).bind fun b H=>orK C ρ b l H):=by
    simp only[evOr,evT];cases evE C ρ e H with
    | ok v H_1 =>
     simp only[Out.bind_ok];cases l with
     | nil=>simp only[Out.bind_ok]; cases pTruth v with | none=>rfl | some b=>cases b<;>rfl
     | cons e' l' =>
      cases hb:pTruth v with
      | none=>rfl
      | some b=>cases b with
       | false=>rfl
       | true=>simp[hb,orK]
    | _=>rfl
   rw[←q]; exact p
  refine bindG (rp:=fun _ _ (a b:Bool)=>a=b) (rp':=fun _ _ (a b:Bool)=>a=b) (fun Q=>(hs e (.head _) f hcd y h1).2 A rm ρ s H cm i Q E) p' fun v H_1 z s_1 cm_1 _ n_1 i_1 r_1 p=>?_
  subst r_1;cases v with
  | true=>exact p _ s_1 cm_1 (Nx.refl ..) i_1 rfl
  | false =>
   cases l with
   | nil=>cases Qbu h2; exact wpAny_allTrue_Or_nil (p _ s_1 cm_1 (Nx.refl ..) i_1 rfl)
   | cons e' l'=>exact allOr rm hcd (e'::l') (fun e he=>hs e (.tail _ he)) r h2 s_1 H_1 cm_1 i_1 p
theorem QjX {x:PySem.Expr} {o:BoolOp} {l:List PySem.Expr} (h:xBool x=some (o,l)):∃p,x=.BoolOp o l p:=by
 cases x<;>simp only[xBool,reduceCtorEq,Option.some.injEq,Prod.mk.injEq] at h;obtain⟨rfl,rfl⟩:=h;exact⟨_,rfl⟩
theorem QpH {l:List PE} (hl:∀e∈l,SE c k n C e):SE c k n C (.and l):=fun f hcd x h=>by
 simp only[chkE] at h;split at h
 ·rename_i o ys hx
  obtain⟨pos,rfl⟩:=QjX hx;simp only[Bool.and_eq_true,beq_iff_eq] at h;obtain⟨rfl,h1⟩:=h;refine⟨fun A rm ρ s H cm i Q E p=>?_,fun A rm ρ s H cm i Q E p=>wpAny_isTrue_BoolOp ?_⟩
  ·simp only[evE] at p
   rw[arm_eval_BoolOp];exact Qix rm hcd l hl ys h1 s H cm i p
  ·simp only[evT,evE] at p
   exact allAnd rm hcd l hl ys h1 s H cm i p
 ·cases h
theorem se_or {l:List PE} (hl:∀e∈l,SE c k n C e):SE c k n C (.or l):=fun f hcd x h=>by
 simp only[chkE] at h;split at h
 ·rename_i o ys hx
  obtain⟨pos,rfl⟩:=QjX hx;simp only[Bool.and_eq_true,beq_iff_eq] at h;obtain⟨rfl,h1⟩:=h;refine⟨fun A rm ρ s H cm i Q E p=>?_,fun A rm ρ s H cm i Q E p=>wpAny_isTrue_BoolOp ?_⟩
  ·simp only[evE] at p
   rw[arm_eval_BoolOp];exact QjW rm hcd l hl ys h1 s H cm i p
  ·simp only[evT,evE] at p
   exact allOr rm hcd l hl ys h1 s H cm i p
 ·cases h
theorem if_of {x t a b:PySem.Expr} (h:xIf x=some (t,a,b)):∃p,x=.IfExp t a b p:=by
 cases x<;>simp only[xIf,reduceCtorEq,Option.some.injEq,Prod.mk.injEq] at h;obtain⟨rfl,rfl,rfl⟩:=h;exact⟨_,rfl⟩
theorem QfY (t a b:PySem.Expr) (p:Pos) (env:Env) (w:Sem Value):isTrue (.IfExp t a b p) env w=(do if ←isTrue t env (eval t env) then isTrue a env (eval a env) else isTrue b env (eval b env)):=rfl
theorem Qiy {α:Type} (t a b:PE) (ρ:List AV) (H:AH) (g:AV->AH->Out α):(evE C ρ (.ife t a b) H).bind g=(evT C ρ t H).bind fun cd H=>if cd=true then (evE C ρ a H).bind g else (evE C ρ b H).bind g:=by
 simp only[evE,evT];cases evE C ρ t H with
 | ok v H_1 =>
  simp only[Out.bind_ok];cases pTruth v with
  | none=>rfl
  | some q=>cases q<;>simp
 | _=>rfl
theorem bind_pure (o:Out AV):o.bind (fun v H=>.ok v H)=o:=by cases o<;>rfl
theorem QpI {t a b:PE} (ht:SE c k n C t) (ha:SE c k n C a) (hb:SE c k n C b):SE c k n C (.ife t a b):=fun f hcd x h=>by
 simp only[chkE] at h;split at h
 ·rename_i y u v hx
  obtain⟨pos,rfl⟩:=if_of hx;simp only[Bool.and_eq_true] at h;obtain⟨⟨h1,h2⟩,h3⟩:=h;refine⟨fun A rm ρ s H cm i Q E p=>wpAny_IfExp ?_,fun A rm ρ s H cm i Q E p=>?_⟩
  ·rw[←bind_pure (evE C ρ (.ife t a b) H),Qiy] at p
   simp only[bind_pure] at p;refine bindG (rp:=fun _ _ (a b:Bool)=>a=b) (fun Q=>(ht f hcd y h1).2 A rm ρ s H cm i Q E) p fun v H_1 z s_1 cm_1 _ n_1 i_1 r_1 p=>?_
   subst r_1;cases v with
   | true=>exact (ha f hcd u h2).1 A rm ρ s_1 H_1 cm_1 i_1 Q E p
   | false=>exact (hb f hcd _ h3).1 A rm ρ s_1 H_1 cm_1 i_1 Q E p
  ·unfold evT at p
   rw[Qiy] at p;rw[QfY];refine wpAny_bind (bindG (rp:=fun _ _ (a b:Bool)=>a=b) (rp':=fun _ _ (a b:Bool)=>a=b) (fun Q=>(ht f hcd y h1).2 A rm ρ s H cm i Q E) p fun v H_1 z s_1 cm_1 _ n_1 i_1 r_1 p=>?_);subst r_1;cases v with
   | true=>exact (ha f hcd u h2).2 A rm ρ s_1 H_1 cm_1 i_1 Q E p
   | false=>exact (hb f hcd _ h3).2 A rm ρ s_1 H_1 cm_1 i_1 Q E p
 ·cases h
theorem Qas {y:PySem.Expr} {r:List PySem.Expr} {env:Env} (h:noStar y=true):starEach (y::r) env=(false,eval y env)::starEach r env:=by
 cases y<;>first | rfl | cases h
theorem QhP:∀(l:List PE),(∀e∈l,SE c k n C e)->SL c k n C l
 | [],_,f,hcd,ys,h,pos,A,rm,ρ,s,H,cm,i,Q,E,p=>by
  cases Qbu h;simp only[evL] at p;exact wpAny_items_nil (p [] s cm (Nx.refl ..) i rfl)
 | e::l,hs,f,hcd,ys,h,pos,A,rm,ρ,s,H,cm,i,Q,E,p=>by
  obtain⟨y,r,rfl,hy,h1,h2⟩:=QaM h;simp only[evL] at p;refine wpAny_items_cons ?_ (Qas hy);refine bindG (rp':=c.reps f.FX) (fun Q=>(hs e (.head _) f hcd y h1).1 A rm ρ s H cm i Q E) p fun v H_1 z s_1 cm_1 _ n_1 i_1 r_1 p=>?_
  refine bindG (rp:=c.reps f.FX) (rp':=c.reps f.FX) (fun Q=>QhP l (fun e he=>hs e (.tail _ he)) f hcd r h2 pos A rm ρ s_1 H_1 cm_1 i_1 Q E) p fun vs H_2 zs s_2 cm_2 _ n_2 i_2 r_2 p=>?_
  exact p _ s_2 cm_2 (Nx.refl ..) i_2 ⟨z,zs,rfl,n_2.rep i_1.base r_1,r_2⟩
theorem QjY {x:PySem.Expr} {l:List PySem.Expr} (h:xList x=some l):∃p,x=.List l p:=by
 cases x<;>simp only[xList,reduceCtorEq,Option.some.injEq] at h;obtain rfl:=h;exact⟨_,rfl⟩
theorem QpJ {x:PySem.Expr} {l:List PySem.Expr} (h:xTup x=some l):∃q p,x=.Tuple l q p:=by
 cases x<;>simp only[xTup,reduceCtorEq,Option.some.injEq] at h;obtain rfl:=h;exact⟨_,_,rfl⟩
theorem QhQ {ρ:List AV}:∀{l:List PE} {H:AH} {vs:List AV} {H':AH},evL C ρ l H=.ok vs H'->vs.length=l.length
 | [],H,vs,H',h=>by simp only[evL,Out.ok.injEq] at h; rw[←h.1]; rfl
 | e::l,H,vs,H',h=>by
  simp only[evL] at h;cases h1:evE C ρ e H with
  | ok v H_1 =>
   rw[h1] at h;simp only[Out.bind_ok] at h;cases h2:evL C ρ l H_1 with
   | ok ws H_2 =>
    rw[h2] at h;simp only[Out.bind_ok,Out.ok.injEq] at h;rw[←h.1,List.length_cons,List.length_cons,QhQ h2]
   | _=>rw[h2] at h; cases h
  | _=>rw[h1] at h; cases h
theorem Qiz {ρ:List AV} {s:Shared} {H:AH} {cm:CM} {Q:Value->Shared->Prop} {E:Value->Shared->Prop} {mu:Bool} {l:List AV} {xs:List Value} (p:EPost c f ρ s cm (newC H mu l) Q E) (i:Inv c f s ρ H cm)
  (r:c.reps f.FX cm s.heap l xs) (t:Nat):Q (.ref s.heap.objs.size) {s with heap:=s.heap.push {cls:=.type "list",data:=.seq xs.toArray},toks:=t}:=by
 have g:Grow s {s with heap:=s.heap.push {cls:=.type "list",data:=.seq xs.toArray},toks:=t}:=Grow.push s _ t;cases mu with
 | false=>exact EPost.end p i g (i.lst r (t:=t))
 | true =>
  refine EPost.endCell (l:=[s.heap.objs.size]) p i g (by simp) (fun a h=>?_) ⟨rfl,xs,_,0,Heap.get?_push_size _ rfl,rfl,rfl,rfl,rfl,Cx.reps_mono (g.rrAdd i.base fun a h=>?_) (.snoc _ _) r⟩
  ·cases List.mem_singleton.mp h
   exact⟨Qai _,by show (s.heap.push _).get? _≠none; rw[Heap.get?_push_size _ rfl]; nofun⟩
  ·cases List.mem_singleton.mp h; exact Qai _
end
end
section
section
variable {c:Cx} {k:Ck} {n:Nat} {C:Orc} {f:Fm} {x:PySem.Expr} {e:PE}
theorem QpK {l:List PE} (hl:∀e∈l,SE c k n C e):SE c k n C (.tup l):=fun f hcd x h=>by
 simp only[chkE] at h;split at h
 ·rename_i ys hx
  obtain⟨q,pos,rfl⟩:=QpJ hx;simp only[Bool.and_eq_true,decide_eq_true_eq] at h;obtain⟨h0,h1⟩:=h;refine Qag rfl fun A rm ρ s H cm i Q E p=>wpAny_Tuple ?_
  simp only[evE] at p;refine bindG (rp:=c.reps f.FX) (fun Q=>QhP l hl f hcd ys h1 pos A rm ρ s H cm i Q E) p fun vs H_1 xs s_1 cm_1 e_1 n_1 i_1 r_1 p=>?_
  refine⟨?_,EPost.end p i_1 (Grow.push _ _ _) (i_1.tup r_1 (t:=s_1.toks))⟩;have h2:∀{l:List PE} {ys},chkL k l f.sc f.σ ys=true->l.length=ys.length:=by
   intro l
   induction l with
   | nil=>intro ys h; cases Qbu h; rfl
   | cons a l ih=>intro ys h; obtain⟨y,r,rfl,_,_,h2⟩:=QaM h; simp[ih h2]
  rw[Qan r_1,QhQ e_1,h2 h1,sizeLine_eq];omega
 ·cases h
theorem Qex:∀{l:List PE} {ys:List PySem.Expr} {sc:Sc} {σ:Sl},chkL k l sc σ ys=true->l.length=ys.length
 | [],ys,sc,σ,h=>by cases Qbu h; rfl
 | a::l,ys,sc,σ,h=>by obtain⟨y,r,rfl,_,_,h2⟩:=QaM h; simp[Qex h2]
theorem QpL {l:List PE} {mu:Bool} (hl:∀e∈l,SE c k n C e):SE c k n C (.lst l mu):=fun f hcd x h=>by
 simp only[chkE] at h;split at h
 ·rename_i ys hx
  obtain⟨pos,rfl⟩:=QjY hx;simp only[Bool.and_eq_true,decide_eq_true_eq] at h;obtain⟨h0,h1⟩:=h;refine Qag rfl fun A rm ρ s H cm i Q E p=>wpAny_List ?_
  simp only[evE] at p;refine bindG (rp:=c.reps f.FX) (fun Q=>QhP l hl f hcd ys h1 pos A rm ρ s H cm i Q E) p fun vs H_1 xs s_1 cm_1 e_1 n_1 i_1 r_1 p=>?_
  refine⟨?_,Qiz p i_1 r_1 s_1.toks⟩;rw[Qan r_1,QhQ e_1,Qex h1,sizeLine_eq];omega
 ·cases h
theorem QjZ {x y z:PySem.Expr} (h:xSub x=some (y,z)):∃p,x=.Subscript y z p:=by
 cases x<;>simp only[xSub,reduceCtorEq,Option.some.injEq,Prod.mk.injEq] at h;obtain⟨rfl,rfl⟩:=h;exact⟨_,rfl⟩
theorem Qbn {z:PySem.Expr} {o i:Value} (h:(xSlice z).isNone=true):subscripted z false o i=operate [o,i] (getItem o i):=by
 cases z with
 | Slice a b st p=>cases st<;>first | rfl | cases h
 | _=>rfl
theorem QmY {s:Shared} {ρ:List AV} {H:AH} {cm:CM} (i:Inv c f s ρ H cm) {v:AV} {x:Value} {l:List AV} (r:c.rep f.FX cm s.heap v x) (h:seqOf H v=some l) :
  ∃a o xs n,x=.ref a∧s.heap.get? a=some o∧o.data=.seq (List.toArray xs) n∧c.reps f.FX cm s.heap l xs∧(o.cls=.type "tuple"∨o.cls=.type "list"):=by
 cases v with
 | tup m=>cases h; obtain⟨a,o,xs,n,rfl,r,hc,hd,z⟩:=r; exact⟨a,o,xs,n,rfl,r.1,hd,z,.inl hc⟩
 | lst m=>cases h; obtain⟨a,o,xs,n,rfl,r,hc,hd,z⟩:=r; exact⟨a,o,xs,n,rfl,r.1,hd,z,.inr hc⟩
 | cell j =>
  obtain⟨p,hp,rfl⟩:=r;cases hk:H[j]? with
  | none=>simp[seqOf,lstOf,hk] at h
  | some y =>
   cases y with
   | lst m =>
    simp only[seqOf,lstOf,hk,Option.some.injEq] at h;subst h;obtain⟨_,xs,o,n,e,r1,r2,_,_,z⟩:=i.base.cells j p _ hp hk;exact⟨p.1,o,xs,n,rfl,e,r2,z,.inr r1⟩
   | _=>simp[seqOf,lstOf,hk] at h
 | _=>cases h
theorem Qfs {s:Shared} {ρ:List AV} {H:AH} {cm:CM} {FX:List Addr} {v:List AV} {x:Value} (r:c.rep FX cm s.heap (.lst v) x) :
  ∃a o xs n,x=.ref a∧s.heap.get? a=some o∧o.data=.seq (List.toArray xs) n∧c.reps FX cm s.heap v xs∧o.cls=.type "list":=by
 obtain⟨a,o,xs,n,rfl,r,hc,hd,z⟩:=r; exact⟨a,o,xs,n,rfl,r.1,hd,z,hc⟩
theorem QlN {s:Shared} {ρ:List AV} {H:AH} {cm:CM} {A:Around} {Q:Value->Shared->Prop} {E:Value->Shared->Prop} {y z:PySem.Expr} (hz:(xSlice z).isNone=true) {v w u:AV} {a b:Value} (i:Inv c f s ρ H cm)
  (r1:c.rep f.FX cm s.heap v a) (r2:c.rep f.FX cm s.heap w b) (h:pSub H v w=some u) (p:EPost c f ρ s cm (.ok u H) Q E):wpAny (model P0 c.w) A (subscriptTail y z a b) Q E s:=by
 unfold pSub at h;split at h
 ·rename_i j
  obtain⟨t,rfl⟩:=r2;split at h
  ·rename_i l hl
   obtain⟨a,o,xs,m,rfl,e,hd,zr,hc⟩:=QmY i r1 hl;split at h
   ·rename_i h0
    split at h
    ·rename_i hlen
     obtain⟨val,hv,rv⟩:=QfS zr h;have hb:j.toNat<l.length:=(List.getElem?_eq_some_iff.mp h).1;have hxl:=Qan zr;rcases hc with hc | hc
     ·refine item_tupleT (j:=j.toNat) ⟨o,e,hc,m,hd⟩ (by omega) (by omega) ?_ hv (EPost.here p i rv) (Qbn hz)
      unfold seqIndex?;have h1:¬j<0:=by omega
      simp only[h1,if_false];have h2:(decide (0≤j)&&decide (j<(xs.length:Int)))=true:=by simp; omega
      rw[h2]; rfl
     ·have hL:s.heap.IsList a xs.toArray:=⟨o,e,hc,m,hd⟩
      exact tail_any hL.typeIs slot_list_getitem.lookup (wpAny_getItem_list hL h0 (by omega) (by simpa using hv) (EPost.here p i rv)) (Qbn hz)
    ·cases h
   ·cases h
  ·cases h
 ·obtain⟨t,rfl⟩:=r2
  split at h
  ·rename_i ks vs hq
   obtain⟨a,o,kvs,rfl,e,lo,d,zr⟩:=QgR i r1 hq;obtain⟨val,hv,rv⟩:=(Qbz _ zr).2.2.1 u h;have hm:=(Heap.dictOf_iff.mpr ⟨o,e,d⟩:s.heap.DictOf (strKind P0 c.w) a kvs).mapOf;exact tail_any hm.typeIs slot_dict_getitem.lookup (wpAny_getItem_of (strKind_is P0 c.w _ t) hm hv (EPost.end p i (Grow.toks _ _) rv)) (Qbn hz)
  ·cases h
 ·cases h
theorem QpM {a b:PE} (ha:SE c k n C a) (hb:SE c k n C b):SE c k n C (.sub a b):=fun f hcd x h=>by
 simp only[chkE] at h;split at h
 ·rename_i y z hx
  obtain⟨pos,rfl⟩:=QjZ hx;simp only[Bool.and_eq_true] at h;obtain⟨⟨h0,h1⟩,h2⟩:=h;refine Qag rfl fun A rm ρ s H cm i Q E p=>Subscript_ ?_
  simp only[evE] at p;refine bindG (fun Q=>(ha f hcd y h1).1 A rm ρ s H cm i Q E) p fun v H_1 a s_1 cm_1 _ n_1 i_1 r_1 p=>?_
  refine bindG (fun Q=>(hb f hcd z h2).1 A rm ρ s_1 H_1 cm_1 i_1 Q E) p fun w H_2 b s_2 cm_2 _ n_2 i_2 r_2 p=>?_
  cases hq:pSub H_2 v w with
  | none=>rw[hq] at p; exact p.elim
  | some u=>rw[hq] at p; exact QlN h0 i_2 (n_2.rep i_1.base r_1) r_2 hq p
 ·cases h
theorem QiA {x:PySem.Expr} {a b:Option PySem.Expr} (h:xSlice x=some (a,b)):∃p,x=.Slice a b none p:=by
 cases x with
 | Slice a b st p =>
  cases st with
  | none=>simp only[xSlice,Option.some.injEq,Prod.mk.injEq] at h; obtain⟨rfl,rfl⟩:=h; exact⟨_,rfl⟩
  | some _=>cases h
 | _=>cases h
theorem Qfd (items:Array Value) (b:Nat) (hb:items.size≤b):slicePick items none (some b) none=slicePick items none (some items.size) none:=by
 have e:sliceBounds none (some (b:Int)) none items.size=sliceBounds none (some (items.size:Int)) none items.size:=by
  simp only[sliceBounds,Option.getD_none];have h1:¬((b:Int)<0):=by omega
  have h2:¬((items.size:Int)<0):=by omega
  simp only[h1,h2,if_false,show (1:Int)>0 by decide,if_true];congr 2
  all_goals first | omega | (congr 1<;>omega) | skip
 unfold slicePick;rw[e]
theorem QiB {x:PySem.Expr} (h:(xName x).isSome=true):∃y p,x=.Name y p:=by
 cases hx:xName x with
 | none=>rw[hx] at h; cases h
 | some y=>obtain⟨p,e⟩:=QhO hx; exact⟨y,p,e⟩
theorem QnQ {a b:PE} (ha:SE c k n C a) (hb:SE c k n C b):SE c k n C (.upto a b):=fun f hcd x h=>by
 simp only[chkE] at h;split at h
 ·rename_i y z hx
  obtain⟨pos,rfl⟩:=QjZ hx;split at h
  ·rename_i u hz
   obtain⟨p2,rfl⟩:=QiA hz;simp only[Bool.and_eq_true] at h;obtain⟨⟨h0,h1⟩,h2⟩:=h;obtain⟨nm,np,rfl⟩:=QiB h0;refine Qag rfl fun A rm ρ s H cm i Q E p=>wpAny_Subscript_list_slice ?_
   simp only[evE] at p;refine bindG (fun Q=>(ha f hcd _ h1).1 A rm ρ s H cm i Q E) p fun v H_1 a s_1 cm_1 _ n_1 i_1 r_1 p=>?_
   rw[evalPart_none,evalPart_some];refine wpAny_pure ?_;refine bindG (fun Q=>(hb f hcd u h2).1 A rm ρ s_1 H_1 cm_1 i_1 Q E) p fun w H_2 b s_2 cm_2 _ n_2 i_2 r_2 p=>?_
   cases v<;>first | exact p.elim | skip
   cases w<;>first | exact p.elim | skip
   rename_i l _ j _;dsimp only at p;split at p
   ·rename_i hj
    obtain⟨a,o,xs,m,rfl,e,hd,zr,hc⟩:=Qfs (s:=s_2) (ρ:=ρ) (H:=H_2) (n_2.rep i_1.base r_1);obtain⟨t,rfl⟩:=r_2;have hxl:=Qan zr;have hpick:slicePick xs.toArray none (some j) none=(xs.take j.toNat).toArray:=by
     obtain⟨m,rfl⟩:=Int.eq_ofNat_of_zero_le hj.1;simp only[Int.toNat_natCast];by_cases hm:m≤xs.length
     ·rw[slicePick_upto _ m (by simpa using hm)]
     ·rw[Qfd _ m (by simp; omega),slicePick_upto _ _ (Nat.le_refl _)]
      simp[List.take_of_length_le (Nat.le_of_lt (Nat.lt_of_not_le hm))]
    refine⟨a,xs.toArray,none,some j,rfl,⟨o,e,hc,m,hd⟩,by rw[List.size_toArray,sizeLine_eq]; omega,.none,.int j t,?_⟩;rw[hpick];have g1:=Grow.push s_2 {cls:=.type "slice",data:=.fields #[.none,.int j t,.none]} s_2.toks;have i3:=g1.inv i_2;have:=EPost.end p i_2 (g1.trans (Grow.push _ _ s_2.toks)) (i3.lst (Cx.reps_mono g1.rr (.refl _) (QgN j.toNat zr)) (t:=s_2.toks));rw[show (({s_2 with heap:=s_2.heap.push {cls:=.type "slice",data:=.fields #[.none,.int j t,.none]},toks:=s_2.toks}:Shared).heap.objs.size)=s_2.heap.objs.size+1 from Heap.size_push ..] at this;exact this
   ·exact p.elim
  ·cases h
 ·cases h
theorem QnR {a b:PE} (ha:SE c k n C a) (hb:SE c k n C b):SE c k n C (.from a b):=fun f hcd x h=>by
 simp only[chkE] at h;split at h
 ·rename_i y z hx
  obtain⟨pos,rfl⟩:=QjZ hx;split at h
  ·rename_i u hz
   obtain⟨p2,rfl⟩:=QiA hz;simp only[Bool.and_eq_true] at h;obtain⟨⟨h0,h1⟩,h2⟩:=h;obtain⟨nm,np,rfl⟩:=QiB h0;refine Qag rfl fun A rm ρ s H cm i Q E p=>wpAny_Subscript_list_slice ?_
   simp only[evE] at p;refine bindG (fun Q=>(ha f hcd _ h1).1 A rm ρ s H cm i Q E) p fun v H_1 a s_1 cm_1 _ n_1 i_1 r_1 p=>?_
   rw[evalPart_none,evalPart_some];refine bindG (fun Q=>(hb f hcd u h2).1 A rm ρ s_1 H_1 cm_1 i_1 Q E) p fun w H_2 b s_2 cm_2 _ n_2 i_2 r_2 p=>wpAny_pure ?_
   cases v<;>first | exact p.elim | skip
   cases w<;>first | exact p.elim | skip
   rename_i l _ j _;dsimp only at p;split at p
   ·rename_i hj
    obtain⟨a,o,xs,m,rfl,e,hd,zr,hc⟩:=Qfs (s:=s_2) (ρ:=ρ) (H:=H_2) (n_2.rep i_1.base r_1);obtain⟨t,rfl⟩:=r_2;have hxl:=Qan zr;have hpick:slicePick xs.toArray (some j) none none=(xs.drop j.toNat).toArray:=by
     obtain⟨m,rfl⟩:=Int.eq_ofNat_of_zero_le hj.1;simp only[Int.toNat_natCast];rw[slicePick_from _ m (by simp; omega)]
    refine⟨a,xs.toArray,some j,none,rfl,⟨o,e,hc,m,hd⟩,by rw[List.size_toArray,sizeLine_eq]; omega,.int j t,.none,?_⟩;rw[hpick];have g1:=Grow.push s_2 {cls:=.type "slice",data:=.fields #[.int j t,.none,.none]} s_2.toks;have i3:=g1.inv i_2;have:=EPost.end p i_2 (g1.trans (Grow.push _ _ s_2.toks)) (i3.lst (Cx.reps_mono g1.rr (.refl _) (QgO j.toNat zr)) (t:=s_2.toks));rw[show (({s_2 with heap:=s_2.heap.push {cls:=.type "slice",data:=.fields #[.int j t,.none,.none]},toks:=s_2.toks}:Shared).heap.objs.size)=s_2.heap.objs.size+1 from Heap.size_push ..] at this;exact this
   ·exact p.elim
  ·cases h
 ·cases h
end
end
section
theorem QpN (P:Params):nsIn (KX P) mainGlobals (Str.ofString "len")=some none:=by kernel_rfl
theorem QpO (P:Params):nsIn (KX P) mainGlobals (Str.ofString "abs")=some none:=by kernel_rfl
theorem QpP (P:Params):nsIn (KX P) mainGlobals (Str.ofString "sum")=some none:=by kernel_rfl
theorem QpQ (P:Params):nsIn (KX P) mainGlobals (Str.ofString "min")=some none:=by kernel_rfl
theorem QpR (P:Params):nsIn (KX P) mainGlobals (Str.ofString "int")=some none:=by kernel_rfl
theorem QpS (P:Params):nsIn (KX P) mainGlobals (Str.ofString "str")=some none:=by kernel_rfl
theorem QiC (P:Params):nsIn (KX P) mainGlobals (Str.ofString "range")=some none:=by kernel_rfl
theorem QnS (P:Params):nsIn (KX P) mainGlobals (Str.ofString "list")=some none:=by kernel_rfl
theorem QfZ (P:Params):nsIn (KX P) mainGlobals (Str.ofString "isinstance")=some none:=by kernel_rfl
theorem QpT:bootBuiltins (Str.ofString "len")=some (.builtin "len"):=by kernel_rfl
theorem QpU:bootBuiltins (Str.ofString "abs")=some (.builtin "abs"):=by kernel_rfl
theorem QpV:bootBuiltins (Str.ofString "sum")=some (.builtin "sum"):=by kernel_rfl
theorem QpW:bootBuiltins (Str.ofString "min")=some (.builtin "min"):=by kernel_rfl
theorem QpX:bootBuiltins (Str.ofString "int")=some (.type "int"):=by kernel_rfl
theorem QpY:bootBuiltins (Str.ofString "str")=some (.type "str"):=by kernel_rfl
theorem QiD:bootBuiltins (Str.ofString "range")=some (.type "range"):=by kernel_rfl
theorem QnT:bootBuiltins (Str.ofString "list")=some (.type "list"):=by kernel_rfl
theorem Qf0:bootBuiltins (Str.ofString "isinstance")=some (.builtin "isinstance"):=by kernel_rfl
section
variable {c:Cx} {k:Ck} {n:Nat} {C:Orc} {f:Fm} {x:PySem.Expr} {e:PE}
theorem call_of {x:PySem.Expr} {y:Str} {as:List PySem.Expr} (h:xCall x=some (y,as)):∃q p,x=.Call (.Name y q) as [] p:=by
 cases x with
 | Call fn as' kws p =>
  cases fn with
  | Name z q =>
   cases kws with
   | nil=>simp only[xCall,Option.some.injEq,Prod.mk.injEq] at h; obtain⟨rfl,rfl⟩:=h; exact⟨_,_,rfl⟩
   | cons _ _=>cases h
  | _=>cases h
 | _=>cases h
theorem Qc8 {ys:List PySem.Expr} {pos:Pos} {env:Env} (h:ys.all noStar=true):(backTo pos (starEach ys env)).any (·.1)=false:=by
 induction ys with
 | nil=>rfl
 | cons y r ih =>
  simp only[List.all_cons,Bool.and_eq_true] at h;rw[Qas h.1];show (false||(backTo pos (starEach r env)).any (·.1))=false;rw[ih h.2]; rfl
theorem QdH {A:Around} {s:Shared} {ρ:List AV} {H:AH} {cm:CM} {nm id:String} {q pos:Pos} {y:PySem.Expr} {r:List PySem.Expr} {Q:Value->Shared->Prop} {E:Value->Shared->Prop} (i:Inv c f s ρ H cm)
  (hg:glb f.sc nm (Str.ofString nm)=true) (e:nsIn (KX c.w.params) mainGlobals (Str.ofString nm)=some none) (hv:bootBuiltins (Str.ofString nm)=some (.builtin id)) (hs:(y::r).all noStar=true) (hn:Str.ofString nm≠Str.ofString "__name__")
  (h:wpAny (model P0 c.w) A (spliced (backTo pos (starEach (y::r) f.env))) (fun vs s_1=>wpAny (model P0 c.w) A (call (.builtin id) vs) Q E s_1) E s) :
  wpAny (model P0 c.w) A (eval (.Call (.Name (Str.ofString nm) q) (y::r) [] pos) f.env) Q E s:=by
 refine wpAny_Call_Name_kw (Qiw i hg e hv hn ?_);simp only[List.all_cons,Bool.and_eq_true] at hs;exact PyProof.Rows.callWith_builtin1 h (Qas hs.1) (Qc8 hs.2)
theorem QdI {A:Around} {s:Shared} {ρ:List AV} {H:AH} {cm:CM} {nm id:String} {q pos:Pos} {y:PySem.Expr} {r:List PySem.Expr} {Q:Value->Shared->Prop} {E:Value->Shared->Prop} (i:Inv c f s ρ H cm)
  (hg:glb f.sc nm (Str.ofString nm)=true) (e:nsIn (KX c.w.params) mainGlobals (Str.ofString nm)=some none) (hv:bootBuiltins (Str.ofString nm)=some (.type id)) (hs:(y::r).all noStar=true) (hn:Str.ofString nm≠Str.ofString "__name__")
  (h:wpAny (model P0 c.w) A (spliced (backTo pos (starEach (y::r) f.env))) (fun vs s_1=>wpAny (model P0 c.w) A (call (.type id) vs) Q E s_1) E s) :
  wpAny (model P0 c.w) A (eval (.Call (.Name (Str.ofString nm) q) (y::r) [] pos) f.env) Q E s:=by
 refine wpAny_Call_Name_kw (Qiw i hg e hv hn ?_);simp only[List.all_cons,Bool.and_eq_true] at hs;exact PyProof.Rows.callWith_type1 h (Qas hs.1) (Qc8 hs.2)
theorem arg1 {A:Around} {s:Shared} {ρ:List AV} {H:AH} {cm:CM} {a:PE} {y:PySem.Expr} {pos:Pos} {K:List Value->Shared->Prop} {Q:Value->Shared->Prop} {E:Value->Shared->Prop} {g:AV->AH->Out AV} (ha:SE c k n C a) (h1:chkE k a f.sc f.σ y=true) (hs:noStar y=true)
  (rm:Room f A n) (hcd:FrOk k f.env) (i:Inv c f s ρ H cm) (p:EPost c f ρ s cm ((evE C ρ a H).bind g) Q E)
  (h:∀v H_1 z s_1 cm_1,evE C ρ a H=.ok v H_1->Nx f.FA f.FO s cm s_1 cm_1->Inv c f s_1 ρ H_1 cm_1->c.rep f.FX cm_1 s_1.heap v z->EPost c f ρ s_1 cm_1 (g v H_1) Q E->K [z] s_1) :
  wpAny (model P0 c.w) A (spliced (backTo pos (starEach [y] f.env))) K E s:=by
 refine wpAny_items_cons ?_ (Qas hs);refine bindG (fun Q=>(ha f hcd y h1).1 A rm ρ s H cm i Q E) p fun v H_1 z s_1 cm_1 e_1 n_1 i_1 r_1 p=>?_
 exact wpAny_items_nil (h v H_1 z s_1 cm_1 e_1 n_1 i_1 r_1 p)
theorem arg2 {A:Around} {s:Shared} {ρ:List AV} {H:AH} {cm:CM} {a b:PE} {y u:PySem.Expr} {pos:Pos} {K:List Value->Shared->Prop} {Q:Value->Shared->Prop} {E:Value->Shared->Prop} {g:AV->AV->AH->Out AV} (ha:SE c k n C a) (hb:SE c k n C b) (h1:chkE k a f.sc f.σ y=true) (h2:chkE k b f.sc f.σ u=true) (hs:noStar y=true) (hs2:noStar u=true)
  (rm:Room f A n) (hcd:FrOk k f.env) (i:Inv c f s ρ H cm) (p:EPost c f ρ s cm ((evE C ρ a H).bind fun v H=>(evE C ρ b H).bind fun w H=>g v w H) Q E)
  (h:∀v w H_1 z t s_1 cm_1,Nx f.FA f.FO s cm s_1 cm_1->Inv c f s_1 ρ H_1 cm_1->c.rep f.FX cm_1 s_1.heap v z->c.rep f.FX cm_1 s_1.heap w t->EPost c f ρ s_1 cm_1 (g v w H_1) Q E->K [z,t] s_1) :
  wpAny (model P0 c.w) A (spliced (backTo pos (starEach [y,u] f.env))) K E s:=by
 refine wpAny_items_cons ?_ (Qas hs);refine bindG (fun Q=>(ha f hcd y h1).1 A rm ρ s H cm i Q E) p fun v H_1 z s_1 cm_1 e_1 n_1 i_1 r_1 p=>?_
 refine wpAny_items_cons ?_ (Qas hs2);refine bindG (fun Q=>(hb f hcd u h2).1 A rm ρ s_1 H_1 cm_1 i_1 Q E) p fun w H_2 t s_2 cm_2 e_2 n_2 i_2 r_2 p=>?_
 exact wpAny_items_nil (h v w H_2 z t s_2 cm_2 (n_1.trans n_2) i_2 (n_2.rep i_1.base r_1) r_2 p)
theorem QbX {sc:Sc} {nm:String} {y:Str} (h:glb sc nm y=true):y=Str.ofString nm:=by
 simp only[glb,Bool.and_eq_true,beq_iff_eq] at h; exact h.1.1
theorem QpZ {a:PE} (ha:SE c k n C a):SE c k n C (.len a):=fun f hcd x h=>by
 simp only[chkE] at h;split at h
 ·rename_i y z hx
  obtain⟨q,pos,rfl⟩:=call_of hx;simp only[Bool.and_eq_true] at h;obtain⟨⟨h0,h1⟩,h2⟩:=h;cases QbX h0;refine Qag rfl fun A rm ρ s H cm i Q E p=>QdH i h0 (QpN _) QpT (by simpa using h2) (by decide) ?_
  simp only[evE] at p;refine arg1 ha h1 h2 rm hcd i p fun v H_1 z s_1 cm_1 e_1 n_1 i_1 r_1 p=>?_
  cases hq:seqOf H_1 v with
  | none=>rw[hq] at p; exact p.elim
  | some l =>
   rw[hq] at p;dsimp only at p;split at p
   ·obtain⟨a,o,xs,m,rfl,e,hd,zr,hc⟩:=QmY i_1 r_1 hq
    have hl:=Qan zr;have hsz:xs.toArray.size=l.length:=by simp[hl]
    have fin:=EPost.end p i_1 (Grow.toks s_1 (s_1.toks+1+1)) (x:=.int (l.length:Int) (s_1.toks+1)) ⟨_,rfl⟩;rw[←hsz] at fin;rcases hc with hc | hc
    ·exact PyProof.Rows.len_tuple ⟨o,e,hc,m,hd⟩ (by rw[hsz]; omega) fin
    ·exact Calls.call_len_list ⟨o,e,hc,m,hd⟩ (by rw[hsz]; omega) fin
   ·exact p.elim
 ·cases h
theorem Qp0 {a:PE} (ha:SE c k n C a):SE c k n C (.abs a):=fun f hcd x h=>by
 simp only[chkE] at h;split at h
 ·rename_i y z hx
  obtain⟨q,pos,rfl⟩:=call_of hx;simp only[Bool.and_eq_true] at h;obtain⟨⟨h0,h1⟩,h2⟩:=h;cases QbX h0;refine Qag rfl fun A rm ρ s H cm i Q E p=>QdH i h0 (QpO _) QpU (by simpa using h2) (by decide) ?_
  simp only[evE] at p;refine arg1 ha h1 h2 rm hcd i p fun v H_1 z s_1 cm_1 e_1 n_1 i_1 r_1 p=>?_
  cases v<;>first | exact p.elim | skip
  obtain⟨t,rfl⟩:=r_1;refine PyProof.Rows.call_abs_int fun u tk=>EPost.end p i_1 (Grow.toks _ _) ⟨u,?_⟩
  have:∀j:Int,(if j<0 then -j else j)=(j.natAbs:Int):=fun j=>by split<;>omega
  rw[this]
 ·cases h
theorem Qp1 {a b:PE} (ha:SE c k n C a) (hb:SE c k n C b):SE c k n C (.min a b):=fun f hcd x h=>by
 simp only[chkE] at h;split at h
 ·rename_i y z u hx
  obtain⟨q,pos,rfl⟩:=call_of hx;simp only[Bool.and_eq_true] at h;obtain⟨⟨⟨⟨h0,h1⟩,h2⟩,h3⟩,h4⟩:=h;cases QbX h0;refine Qag rfl fun A rm ρ s H cm i Q E p=>QdH i h0 (QpQ _) QpW (by simp[h2,h4]) (by decide) ?_
  simp only[evE] at p;refine arg2 ha hb h1 h3 h2 h4 rm hcd i p fun v w H_1 z t s_1 cm_1 n_1 i_1 r_1 r_2 p=>?_
  cases v<;>first | exact p.elim | skip
  cases w<;>first | exact p.elim | skip
  obtain⟨t1,rfl⟩:=r_1; obtain⟨t2,rfl⟩:=r_2;dsimp only at p;refine min_two_ints rm.hh fun h' tk hk=>?_
  rename_i i1 j1;have g:Grow s_1 {s_1 with heap:=h',toks:=tk}:=Grow.of hk;by_cases hj:j1<i1
  ·rw[if_pos hj]; rw[if_pos hj] at p; exact EPost.end p i_1 g ⟨_,rfl⟩
  ·rw[if_neg hj]; rw[if_neg hj] at p; exact EPost.end p i_1 g ⟨_,rfl⟩
 ·cases h
theorem QlO {a:PE} (ha:SE c k n C a):SE c k n C (.intof a):=fun f hcd x h=>by
 simp only[chkE] at h;split at h
 ·rename_i y z hx
  obtain⟨q,pos,rfl⟩:=call_of hx;simp only[Bool.and_eq_true] at h;obtain⟨⟨h0,h1⟩,h2⟩:=h;cases QbX h0;refine Qag rfl fun A rm ρ s H cm i Q E p=>QdI i h0 (QpR _) QpX (by simpa using h2) (by decide) ?_
  simp only[evE] at p;refine arg1 ha h1 h2 rm hcd i p fun v H_1 z s_1 cm_1 e_1 n_1 i_1 r_1 p=>?_
  cases v<;>first | exact p.elim | skip
  obtain⟨t,rfl⟩:=r_1;exact call_int_int (EPost.here p i_1 ⟨_,rfl⟩)
 ·cases h
theorem QgS {a:Int} (h:a.natAbs<1000000):a.natAbs.log2<1920:=by
 by_cases h0:a.natAbs=0
 ·rw[h0]; decide
 ·have:=(Nat.log2_lt (k:=20) h0).mpr (by omega)
  omega
theorem QlP {a:PE} (ha:SE c k n C a):SE c k n C (.strof a):=fun f hcd x h=>by
 simp only[chkE] at h;split at h
 ·rename_i y z hx
  obtain⟨q,pos,rfl⟩:=call_of hx;simp only[Bool.and_eq_true] at h;obtain⟨⟨h0,h1⟩,h2⟩:=h;cases QbX h0;refine Qag rfl fun A rm ρ s H cm i Q E p=>QdI i h0 (QpS _) QpY (by simpa using h2) (by decide) ?_
  simp only[evE] at p;refine arg1 ha h1 h2 rm hcd i p fun v H_1 z s_1 cm_1 e_1 n_1 i_1 r_1 p=>?_
  cases v<;>first | exact p.elim | skip
  obtain⟨t,rfl⟩:=r_1;dsimp only at p;split at p
  ·rename_i hl
   exact P.str_of_int (QgS hl) (EPost.end p i_1 (Grow.toks _ _) ⟨_,rfl⟩)
  ·exact p.elim
 ·cases h
theorem Qj0 {a:PE} (ha:SE c k n C a):SE c k n C (.range1 a):=fun f hcd x h=>by
 simp only[chkE] at h;split at h
 ·rename_i y z hx
  obtain⟨q,pos,rfl⟩:=call_of hx;simp only[Bool.and_eq_true] at h;obtain⟨⟨h0,h1⟩,h2⟩:=h;cases QbX h0;refine Qag rfl fun A rm ρ s H cm i Q E p=>QdI i h0 (QiC _) QiD (by simpa using h2) (by decide) ?_
  simp only[evE] at p;refine arg1 ha h1 h2 rm hcd i p fun v H_1 z s_1 cm_1 e_1 n_1 i_1 r_1 p=>?_
  cases v<;>first | exact p.elim | skip
  obtain⟨t,rfl⟩:=r_1;dsimp only at p;split at p
  ·rename_i hb
   exact call_range_1 (EPost.end p i_1 (Grow.push _ _ _) ⟨_,_,_,_,rfl,i_1.base.rr_new (Heap.get?_push_size _ rfl) rfl (Qai _),by decide,hb⟩)
  ·exact p.elim
 ·cases h
theorem QlQ {a b:PE} (ha:SE c k n C a) (hb:SE c k n C b):SE c k n C (.range a b):=fun f hcd x h=>by
 simp only[chkE] at h;split at h
 ·rename_i y z u hx
  obtain⟨q,pos,rfl⟩:=call_of hx;simp only[Bool.and_eq_true] at h;obtain⟨⟨⟨⟨h0,h1⟩,h2⟩,h3⟩,h4⟩:=h;cases QbX h0;refine Qag rfl fun A rm ρ s H cm i Q E p=>QdI i h0 (QiC _) QiD (by simp[h2,h4]) (by decide) ?_
  simp only[evE] at p;refine arg2 ha hb h1 h3 h2 h4 rm hcd i p fun v w H_1 z t s_1 cm_1 n_1 i_1 r_1 r_2 p=>?_
  cases v<;>first | exact p.elim | skip
  cases w<;>first | exact p.elim | skip
  obtain⟨t1,rfl⟩:=r_1; obtain⟨t2,rfl⟩:=r_2;dsimp only at p;split at p
  ·rename_i hb
   exact call_range_2 (EPost.end p i_1 (Grow.push _ _ _) ⟨_,_,_,_,rfl,i_1.base.rr_new (Heap.get?_push_size _ rfl) rfl (Qai _),hb⟩)
  ·exact p.elim
 ·cases h
theorem sum_ints:∀{l:List AV} {vs:List Value} {FX:List Addr} {cm:CM} {h:Heap} {t:Int},c.reps FX cm h l vs->sumInts l=some t->∃ps:List (Int × Tok),vs=ps.map (fun p=>.int p.1 p.2)∧(ps.map (·.1)).sum=t
 | [],vs,_,_,_,t,r,h=>by cases (show vs=[] from r); cases h; exact⟨[],rfl,rfl⟩
 | .int i::l,_,_,_,_,t,⟨v,r,e,⟨u,hu⟩,h2⟩,h=>by
  subst e hu;simp only[sumInts,Option.map_eq_some_iff] at h;obtain⟨t',h',rfl⟩:=h;obtain⟨ps,rfl,e⟩:=sum_ints h2 h';exact⟨(i,u)::ps,rfl,by simp[e]⟩
 | .unset::_,_,_,_,_,_,_,h | .none::_,_,_,_,_,_,_,h | .bool _::_,_,_,_,_,_,_,h | .str _::_,_,_,_,_,_,_,h | .tup _::_,_,_,_,_,_,_,h | .lst _::_,_,_,_,_,_,_,h | .dct _ _::_,_,_,_,_,_,_,h | .obj _ _ _::_,_,_,_,_,_,_,h
 | .cell _::_,_,_,_,_,_,_,h | .kref _::_,_,_,_,_,_,_,h | .rng _ _::_,_,_,_,_,_,_,h | .lam _::_,_,_,_,_,_,_,h=>by cases h
theorem Qp2 {a:PE} (ha:SE c k n C a):SE c k n C (.sum a):=fun f hcd x h=>by
 simp only[chkE] at h;split at h
 ·rename_i y z hx
  obtain⟨q,pos,rfl⟩:=call_of hx;simp only[Bool.and_eq_true] at h;obtain⟨⟨h0,h1⟩,h2⟩:=h;cases QbX h0;refine Qag rfl fun A rm ρ s H cm i Q E p=>QdH i h0 (QpP _) QpV (by simpa using h2) (by decide) ?_
  simp only[evE] at p;refine arg1 ha h1 h2 rm hcd i p fun v H_1 z s_1 cm_1 e_1 n_1 i_1 r_1 p=>?_
  cases v<;>first | exact p.elim | skip
  rename_i l;dsimp only at p;cases hs:sumInts l with
  | none=>rw[hs] at p; exact p.elim
  | some t =>
   rw[hs] at p;obtain⟨a,o,xs,m,rfl,e,hd,zr,hc⟩:=Qfs (ρ:=ρ) (H:=H_1) r_1;obtain⟨ps,rfl,e2⟩:=sum_ints zr hs;have hL:s_1.heap.IsList a (intItems ps.toArray):=⟨o,e,hc,m,by rw[hd]; simp[intItems]⟩;refine sum_intListG rm.hh hL fun h' tk t' hk=>?_
   have e3:preSum (numAt ps.toArray) ps.toArray.size=t:=by rw[preSum_eq,List.size_toArray,List.take_of_length_le (by simp),e2]
   rw[e3];exact EPost.end p i_1 (Grow.of hk) ⟨_,rfl⟩
 ·cases h
theorem QnU {a:PE} {mu:Bool} (ha:SE c k n C a):SE c k n C (.list a mu):=fun f hcd x h=>by
 simp only[chkE] at h;split at h
 ·rename_i y z hx
  obtain⟨q,pos,rfl⟩:=call_of hx;simp only[Bool.and_eq_true] at h;obtain⟨⟨h0,h1⟩,h2⟩:=h;cases QbX h0;refine Qag rfl fun A rm ρ s H cm i Q E p=>QdI i h0 (QnS _) QnT (by simpa using h2) (by decide) ?_
  simp only[evE] at p;refine arg1 ha h1 h2 rm hcd i p fun v H_1 z s_1 cm_1 e_1 n_1 i_1 r_1 p=>?_
  cases v<;>first | exact p.elim | skip
  dsimp only at p;split at p
  ·rename_i hl
   obtain⟨a,o,xs,m,rfl,e,hd,zr,hc⟩:=Qfs (ρ:=ρ) (H:=H_1) r_1;have hxl:=Qan zr;refine call_list_seq a (T:="list") (.inl rfl) e hc hd (fun h' c' hk hn=>?_) (by rw[List.size_toArray,sizeLine_eq]; omega);have g:Grow s_1 {s_1 with heap:=h'}:=Grow.of hk (tk:=s_1.toks);cases mu with
   | false=>exact EPost.end p i_1 g ⟨_,_,xs,c',rfl,i_1.base.rr_new hn rfl (Qai _),rfl,rfl,Cx.reps_mono g.rr (.refl _) zr⟩
   | true =>
    refine EPost.endCell (l:=[s_1.heap.objs.size]) p i_1 g (by simp) (fun a h=>?_) ⟨rfl,xs,_,c',hn,rfl,rfl,rfl,rfl,Cx.reps_mono (g.rrAdd i_1.base fun a h=>?_) (.snoc _ _) zr⟩
    ·cases List.mem_singleton.mp h; exact⟨Qai _,by show h'.get? _≠none; rw[hn]; nofun⟩
    ·cases List.mem_singleton.mp h; exact Qai _
  ·exact p.elim
 ·cases h
theorem Qp3 {a b:PE} (ha:SE c k n C a) (hb:SE c k n C b):SE c k n C (.cat a b):=fun f hcd x h=>by
 simp only[chkE] at h;split at h
 ·rename_i l p r hx
  obtain⟨pos,rfl⟩:=QjV hx;simp only[Bool.and_eq_true,beq_iff_eq] at h;obtain⟨⟨rfl,h1⟩,h2⟩:=h;refine Qag rfl fun A rm ρ s H cm i Q E p=>wpAny_BinOp ?_
  simp only[evE] at p;refine bindG (fun Q=>(ha f hcd l h1).1 A rm ρ s H cm i Q E) p fun v H_1 y s_1 cm_1 _ n_1 i_1 r_1 p=>?_
  refine bindG (fun Q=>(hb f hcd r h2).1 A rm ρ s_1 H_1 cm_1 i_1 Q E) p fun w H_2 z s_2 cm_2 _ n_2 i_2 r_2 p=>?_
  cases v<;>first | exact p.elim | skip
  cases w<;>first | exact p.elim | skip
  dsimp only at p;split at p
  ·rename_i hl
   obtain⟨a,⟨cls,dd,data,sl⟩,xs,m,rfl,e,hd,zr,hc⟩:=Qfs (ρ:=ρ) (H:=H_2) (n_2.rep i_1.base r_1);obtain⟨b,⟨cls2,dd2,data2,sl2⟩,ys,m2,rfl,e2,hd2,zr2,hc2⟩:=Qfs (ρ:=ρ) (H:=H_2) r_2;have l1:=Qan zr;have l2:=Qan zr2;simp only at hc hd hc2 hd2;subst hc hd hc2 hd2;refine concat_meets ⟨_,e,rfl⟩ ⟨_,e2,rfl⟩ noFill_list_add seq_list_add PySem.F.slot_list_add PySem.F.entry_list_add (PySem.F.args_list_add_2 _ _) (list_addW a b xs.toArray ys.toArray m m2 dd dd2 sl sl2 (by rw[List.size_toArray,List.size_toArray,sizeLine_eq]; omega)) ⟨e,e2,?_⟩;have fin:=EPost.end p i_2 (Grow.push s_2 _ s_2.toks) (i_2.lst (QbN zr zr2) (t:=s_2.toks));have e3:(xs++ys).toArray=xs.toArray++ys.toArray:=by simp
   rw[e3] at fin;exact fin
  ·exact p.elim
 ·cases h
theorem Qp4 {a b:PE} {mu:Bool} (ha:SE c k n C a) (hb:SE c k n C b):SE c k n C (.rep a b mu):=fun f hcd x h=>by
 simp only[chkE] at h;split at h
 ·rename_i l p r hx
  obtain⟨pos,rfl⟩:=QjV hx;split at h
  ·rename_i z hz
   obtain⟨lp,rfl⟩:=QjY hz;simp only[Bool.and_eq_true,beq_iff_eq] at h;obtain⟨⟨⟨rfl,h0⟩,h1⟩,h2⟩:=h;refine Qag rfl fun A rm ρ s H cm i Q E p=>wpAny_BinOp (wpAny_List (wpAny_items_cons ?_ (Qas h0)))
   simp only[evE] at p;refine bindG (fun Q=>(ha f hcd z h1).1 A rm ρ s H cm i Q E) p fun v H_1 y s_1 cm_1 _ n_1 i_1 r_1 p=>wpAny_items_nil ⟨by rw[sizeLine_eq]; simp,?_⟩
   have g1:Grow s_1 {s_1 with heap:=s_1.heap.push {cls:=.type "list",data:=.seq [y].toArray}}:=Grow.push s_1 _ s_1.toks;have i1':=g1.inv i_1;have p1:=GPost.from p (g1.nx (FA:=f.FA) (FO:=f.FO) (cm:=cm_1));have hl0:({s_1 with heap:=s_1.heap.push {cls:=.type "list",data:=.seq [y].toArray}}:Shared).heap.get? s_1.heap.objs.size=some {cls:=.type "list",data:=.seq [y].toArray}:=Heap.get?_push_size _ rfl;refine bindG (fun Q=>(hb f hcd r h2).1 A rm ρ _ H_1 cm_1 i1' Q E) p1 fun w H_2 z s_2 cm_2 _ n_2 i_2 r_2 p=>?_
   cases w<;>first | exact p.elim | skip
   rename_i j _;dsimp only at p;split at p
   ·rename_i hj
    obtain⟨t,rfl⟩:=r_2;have rn:=(i_1.base.rr_new hl0 rfl (Qai _));have hl2:=(n_2.rr i1'.base _ _ rn).1;have rv:=n_2.rep i1'.base (Cx.rep_mono g1.rr (.refl _) r_1);refine wpAny_binaryOp_repeat_ref (T:="list") (U:="int") (by decide) ⟨_,hl2,rfl⟩ (fun s'=>typeIs_int s' j t) noFill_list_mul F.fills_int_mul F.slot_int_rmul repeat_list F.slot_int_index.lookup
     (call_meets F.slot_int_rmul (typeIs_int s_2 j t) F.entry_int_rmul (F.args_int_rmul_2 _ _) (int___rmul___int_list j t s_1.heap.objs.size _ 0)
      ⟨hl2,rfl,⟨_,hl2,rfl⟩,call_meets F.slot_list_mul ⟨_,hl2,rfl⟩ F.entry_list_mul (F.args_list_mul_2 _ _)
       (AutoListH.list___mul___list_int_3 s_1.heap.objs.size _ 0 j t (by simp[Builtin.List.listFitsIndex]; omega) (by simp; omega) (by simp[Builtin.List.listTooLong,sizeLine]; omega))
       ⟨hl2,?_⟩⟩)
    have e3:List.foldl (fun x1 x2=>x1++x2) #[] (List.replicate (if ([y].toArray:Array Value).isEmpty=true then 0 else j.toNat) ([y].toArray:Array Value))=(List.replicate j.toNat y).toArray:=by
     have:∀(m:Nat) (acc:List Value),List.foldl (fun (x1 x2:Array Value)=>x1++x2) acc.toArray (List.replicate m ([y].toArray:Array Value))=(acc++List.replicate m y).toArray:=by
      intro m
      induction m with
      | zero=>intro acc; simp
      | succ m ih =>
       intro acc;rw[List.replicate_succ,List.foldl_cons];have:=ih (acc++[y]);simp only[List.append_toArray] at this ⊢;rw[this];simp[List.replicate_succ]
     have:=this j.toNat [];simpa using this
    rw[e3];exact Qiz p i_2 (Qdf rv _) s_2.toks
   ·exact p.elim
  ·cases h
 ·cases h
end
end
section
theorem Qcf {o:PySem.Expr} {attr:Str} {env:Env} {m:Sem Value} (h:noBare o=true):attributeBase o attr env m=m:=by
 cases o with
 | Call fn as kws p =>
  cases fn with
  | Name id q =>
   cases as with
   | nil =>
    cases kws with
    | nil=>cases h
    | cons _ _=>rfl
   | cons _ _=>rfl
  | _=>rfl
 | _=>rfl
theorem attrK (P:Params):attrL.all (fun p=>findIn (KX P) (.ref p.1) (Str.ofString p.2)==some none&&takerIn (KX P) p.1 (Str.ofString p.2)==some none&&hasDictIn (KX P) p.1&&plainGet (KX P) p.1 (Str.ofString "")&&findIn (KX P) (.ref p.1) "__setattr__"==some (some (.builtin "object.__setattr__"))&&plainOver (KX P) p.1)=true:=by kernel_rfl
theorem QiE {P:Params} {C:Nat} {n:String} (h:attrC C n=true):findIn (KX P) (.ref C) (Str.ofString n)=some none∧takerIn (KX P) C (Str.ofString n)=some none∧hasDictIn (KX P) C=true∧plainGet (KX P) C (Str.ofString n)=true ∧
  findIn (KX P) (.ref C) "__setattr__"=some (some (.builtin "object.__setattr__"))∧plainOver (KX P) C=true:=by
 have hm:(C,n)∈attrL:=by
  unfold attrC at h;exact List.contains_iff_mem.mp h
 have:=List.all_eq_true.mp (attrK P) (C,n) hm;simp only[Bool.and_eq_true,beq_iff_eq] at this;obtain⟨⟨⟨⟨⟨a,b⟩,d⟩,e⟩,g⟩,i⟩:=this;exact⟨a,b,d,e,g,i⟩
section
variable {c:Cx} {k:Ck} {n:Nat} {C:Orc} {f:Fm} {x:PySem.Expr} {e:PE}
theorem QgT:∀{ks:List String} {vs:List AV} {n:String} {u:AV},keyAt ks vs n=some u->n∈ks
 | [],_,_,_,h=>by simp[keyAt] at h
 | _::_,[],_,_,h=>by simp[keyAt] at h
 | k::ks,v::vs,n,u,h=>by
  by_cases hk:k=n
  ·rw[hk]; exact .head _
  ·rw[keyAt,if_neg hk] at h; exact .tail _ (QgT h)
theorem Qcg {FX:List Addr} {cm:CM} {h:Heap}:∀{ks:List String} {l:List AV} {ds:List DictEntry} (n:String),c.repd FX cm h ks l ds ->
  (∀x,keyAt ks l n=some x->∃v,getL (Str.ofString n) ds=some (some v)∧c.rep FX cm h x v)∧(n ∉ ks->getL (Str.ofString n) ds=some none)∧ds.any (·.refKey)=false∧ds.length=ks.length
 | _,[],_,n,⟨rfl,rfl⟩=>⟨fun x e=>by simp[keyAt] at e,fun _=>rfl,rfl,rfl⟩
 | _,y::l,_,n,⟨k',ks',v,t,r,rfl,rfl,h1,h2⟩=>by
  obtain⟨e1,e2,e3,e4⟩:=Qcg n h2;have hs:(Value.str (Str.ofString k') t).isStr (Str.ofString n)=(k'==n):=Str.ofString_beq k' n;have hr:((⟨PyData.keyHash c.w.params (Str.ofString k'),.str (Str.ofString k') t,v⟩:DictEntry)::r).any (·.refKey)=false:=by rw[List.any_cons,e3]; rfl
  by_cases hk:k'=n
  ·subst hk
   have hg:getL (Str.ofString k') (⟨PyData.keyHash c.w.params (Str.ofString k'),.str (Str.ofString k') t,v⟩::r)=some (some v):=by
    unfold getL;rw[List.find?_cons];rw[show (Value.str (Str.ofString k') t).isStr (Str.ofString k')=true from by rw[hs]; simp]
   refine⟨fun x e=>⟨v,hg,?_⟩,fun h=>absurd (.head _) h,hr,by simp[e4]⟩;rw[keyAt,if_pos rfl] at e;cases e;exact h1
  ·have hg:getL (Str.ofString n) (⟨PyData.keyHash c.w.params (Str.ofString k'),.str (Str.ofString k') t,v⟩::r)=getL (Str.ofString n) r:=by
    unfold getL;rw[List.find?_cons];rw[show (Value.str (Str.ofString k') t).isStr (Str.ofString n)=false from by rw[hs]; simpa using hk,List.any_cons];rw[e3];rfl
   refine⟨fun x e=>?_,fun h=>?_,hr,by simp[e4]⟩
   ·rw[hg]; rw[keyAt,if_neg hk] at e; exact e1 x e
   ·rw[hg]; exact e2 fun q=>h (.tail _ q)
theorem Qj1 {s:Shared} {ρ:List AV} {H:AH} {cm:CM} (i:Inv c f s ρ H cm) {v:AV} {y:Value} {D:Nat} {ks:List String} {vs:List AV} (r:c.rep f.FX cm s.heap v y) (h:objOf H v=some (D,ks,vs)) :
  ∃a d ds m,y=.ref a∧s.heap.get? a=some (instObj D d)∧s.heap.get? d=some (dictOf ds m)∧(∀k∈ks,attrC D k=true)∧c.repd f.FX cm s.heap ks vs ds:=by
 cases v with
 | obj D' ks' vs'=>cases h; obtain⟨a,d,ds,m,rfl,r1,r2,ac,z⟩:=r; exact⟨a,d,ds,m,rfl,r1.1,r2.1,ac,z⟩
 | cell j =>
  obtain⟨p,hp,rfl⟩:=r;cases hk:H[j]? with
  | none=>simp[objOf,hk] at h
  | some y =>
   cases y with
   | obj D' ks' vs' =>
    simp only[objOf,hk,Option.some.injEq,Prod.mk.injEq] at h;obtain⟨rfl,rfl,rfl⟩:=h;obtain⟨d,_,_,ds,m,e1,e2,_,ac,z⟩:=i.base.cells j p _ hp hk;exact⟨p.1,d,ds,m,rfl,e1,e2,ac,z⟩
   | _=>simp[objOf,hk] at h
 | _=>cases h
theorem Qft {FX:List Addr} {cm:CM} {h:Heap} {v:AV} {y:Value} (r:c.rep FX cm h v y):handedIn y=true:=by
 cases v with
 | unset=>exact r.elim
 | none=>cases (show y=.none from r); rfl
 | bool _=>cases (show y=.bool _ from r); rfl
 | int _=>obtain⟨_,rfl⟩:=r; rfl
 | str _=>obtain⟨_,rfl⟩:=r; rfl
 | tup _=>obtain⟨_,_,_,_,rfl,_⟩:=r; rfl
 | lst _=>obtain⟨_,_,_,_,rfl,_⟩:=r; rfl
 | dct _ _=>obtain⟨_,_,_,rfl,_⟩:=r; rfl
 | obj _ _ _=>obtain⟨_,_,_,_,rfl,_⟩:=r; rfl
 | cell _=>obtain⟨_,_,rfl⟩:=r; rfl
 | kref _=>cases (show y=.ref _ from r); rfl
 | rng _ _=>obtain⟨_,_,_,_,rfl,_⟩:=r; rfl
 | lam _=>obtain⟨_,_,rfl,_⟩:=r; rfl
theorem QnV {x y:PySem.Expr} {m:Str} (h:xAttr x=some (y,m)):∃p,x=.Attribute y m p:=by
 cases x<;>simp only[xAttr,reduceCtorEq,Option.some.injEq,Prod.mk.injEq] at h;obtain⟨rfl,rfl⟩:=h;exact⟨_,rfl⟩
theorem QgU {y:PySem.Expr} {m:Str} {p:Pos} {env:Env} {A:Around} {s:Shared} {Q:Value->Shared->Prop} {E:Value->Shared->Prop} (h0:noBare y=true)
  (h:wpAny (model P0 c.w) A (eval y env) (fun o s_1=>wpAny (model P0 c.w) A (getAttr o m true) Q E s_1) E s):wpAny (model P0 c.w) A (eval (.Attribute y m p) env) Q E s:=by
 have e:eval (.Attribute y m p) env=(do
   let o ←attributeBase y m env (eval y env)
   standAt p.atName
   let r ←holding [o] (getAttr o m true)
   letTemporaryGo y o r
   pure r):=rfl
 rw[e,Qcf h0];exact wpAny_bind (wpAny_mono h (fun o s_1 h_1=>wpAny_bind (wpAny_standAt (wpAny_bind (wpAny_holding (wpAny_mono h_1 (fun r s_2 h_2=>wpAny_bind (wpAny_letTemporaryGo (wpAny_pure h_2))) fun _ _ z=>z))))) fun _ _ z=>z)
theorem QlR {s:Shared} {ρ:List AV} {H:AH} {cm:CM} {A:Around} {Q:Value->Shared->Prop} {E:Value->Shared->Prop} (i:Inv c f s ρ H cm) {v u:AV} {y:Value} {D:Nat} {ks:List String} {vs:List AV} {nm:String}
  (r:c.rep f.FX cm s.heap v y) (h:objOf H v=some (D,ks,vs)) (hu:keyAt ks vs nm=some u) (p:EPost c f ρ s cm (.ok u H) Q E):wpAny (model P0 c.w) A (getAttr y (Str.ofString nm) true) Q E s:=by
 obtain⟨a,d,ds,m,rfl,e1,e2,ac,z⟩:=Qj1 i r h;obtain⟨val,hv,rv⟩:=(Qcg nm z).1 u hu;obtain⟨k1,k2,k3,k4,_⟩:=QiE (P:=c.w.params) (ac nm (QgT hu));exact get_value i.base.X ⟨e1,rfl,rfl,e2⟩ (plainGet_of k4).1 (findObj_own (od:=dictOf ds m) k3 k1 rfl ((lookIn_dict _ _ _).trans hv)) (Qft rv) (EPost.end p i (Grow.toks _ _) rv)
theorem QnW {a:PE} {nm:String} (ha:SE c k n C a):SE c k n C (.attr a nm):=fun f hcd x h=>by
 simp only[chkE] at h;split at h
 ·rename_i y m hx
  obtain⟨pos,rfl⟩:=QnV hx;simp only[Bool.and_eq_true,beq_iff_eq] at h;obtain⟨⟨rfl,h0⟩,h1⟩:=h;refine Qag rfl fun A rm ρ s H cm i Q E p=>QgU h0 ?_
  simp only[evE] at p;refine bindG (fun Q=>(ha f hcd y h1).1 A rm ρ s H cm i Q E) p fun v H_1 z s_1 cm_1 _ n_1 i_1 r_1 p=>?_
  cases ho:objOf H_1 v with
  | none=>rw[ho] at p; exact p.elim
  | some q =>
   obtain⟨D,ks,vs⟩:=q;rw[ho] at p;dsimp only at p;cases hu:keyAt ks vs nm with
   | none=>rw[hu] at p; exact p.elim
   | some u=>rw[hu] at p; exact QlR i_1 r_1 ho hu p
 ·cases h
theorem Qf1 {x y:PySem.Expr} {m:Str} {as:List PySem.Expr} (h:xMeth x=some (y,m,as)):∃ap p,x=.Call (.Attribute y m ap) as [] p∧(ap.endLine==p.line)=true∧as.length<20∧noBare y=true:=by
 cases x with
 | Call fn as' kws p =>
  cases fn with
  | Attribute o m' ap =>
   cases kws with
   | nil =>
    simp only[xMeth] at h;split at h
    ·rename_i hc
     simp only[Bool.and_eq_true,decide_eq_true_eq] at hc;cases h;exact⟨_,_,rfl,hc.1.1,hc.1.2,hc.2⟩
    ·cases h
   | cons _ _=>cases h
  | _=>cases h
 | _=>cases h
theorem QiF {y:PySem.Expr} {pos:Pos} {env:Env} (h:noStar y=true):backTo pos (starEach [y] env)=[(false,eval y env)]:=by
 rw[Qas h]; rfl
theorem Qjp {o:Obj} {xs:List Value} {m:Nat} (h1:o.cls=.type "list") (h2:o.data=.seq (List.toArray xs) m) (h3:o.dict=none) (h4:o.slots=#[]):o={cls:=.type "list",dict:=none,data:=.seq xs.toArray m,slots:=#[]}:=by
 obtain⟨a,b,d,e⟩:=o;cases h1; cases h2; cases h3; cases h4; rfl
theorem QdJ {s:Shared} {ρ:List AV} {H:AH} {cm:CM} (i:Inv c f s ρ H cm) {j:Nat} {p:Addr × List Addr} {l:List AV} (hp:cm[j]?=some p) (hk:H[j]?=some (.lst l)) :
  p.2=[p.1]∧∃xs m,s.heap.get? p.1=some {cls:=.type "list",dict:=none,data:=.seq (List.toArray xs) m,slots:=#[]}∧c.reps f.FX cm s.heap l xs:=by
 obtain⟨h0,xs,o,m,e,r1,r2,r3,r4,z⟩:=i.base.cells j p _ hp hk;exact⟨h0,xs,m,by rw[e,Qjp r1 r2 r3 r4],z⟩
theorem Qf2 {s:Shared} {ρ:List AV} {H:AH} {cm:CM} (i:Inv c f s ρ H cm) {j:Nat} {p:Addr × List Addr} {l l':List AV} {xs xs':List Value} {m:Nat} {g:Array Value->Array Value} (hp:cm[j]?=some p)
  (h0:p.2=[p.1]) (e:s.heap.get? p.1=some {cls:=.type "list",dict:=none,data:=.seq (List.toArray xs) m,slots:=#[]}) (hg:g xs.toArray=xs'.toArray)
  (z:(∀a o,Rr f.FX cm s.heap a o->Rr f.FX cm (s.heap.update p.1 (Obj.mapSeq g)) a o)->c.reps f.FX cm (s.heap.update p.1 (Obj.mapSeq g)) l' xs') (tk:Nat) :
  Inv c f {s with heap:=s.heap.update p.1 (Obj.mapSeq g),toks:=tk} ρ (H.set j (.lst l')) cm∧Nx f.FA f.FO s cm {s with heap:=s.heap.update p.1 (Obj.mapSeq g),toks:=tk} cm:=by
 have hf:(Obj.mapSeq g {cls:=.type "list",dict:=none,data:=.seq (List.toArray xs) m,slots:=#[]}).isFreed=false:=rfl;have hn:=Heap.get?_update_self (Obj.mapSeq g) e hf;refine i.set (s':={s with heap:=s.heap.update p.1 (Obj.mapSeq g),toks:=tk}) hp ⟨fun a o ha eo=>?_,rfl,rfl⟩ (fun a ha=>?_) fun rr=>?_
 ·rw[h0] at ha
  exact (Heap.get?_update_ne _ _ _ _ (fun q=>ha (by rw[q]; exact .head _))).trans eo
 ·rw[h0] at ha
  cases List.mem_singleton.mp ha;show (s.heap.update p.1 (Obj.mapSeq g)).get? p.1≠none;rw[hn]; nofun
 ·obtain⟨p1,p2⟩:=p
  refine⟨h0,xs',_,(if (g xs.toArray).size==xs.toArray.size then m else m+1),hn,rfl,?_,rfl,rfl,z rr⟩;show Data.seq (g xs.toArray) _=_;rw[hg]
theorem QnX {a b:PE} (ha:SE c k n C a) (hb:SE c k n C b):SE c k n C (.push a b):=fun f hcd x h=>by
 simp only[chkE] at h;split at h
 ·rename_i y m z hx
  obtain⟨ap,pos,rfl,hl,_,h0⟩:=Qf1 hx;simp only[Bool.and_eq_true,beq_iff_eq] at h;obtain⟨⟨⟨rfl,h1⟩,h2⟩,h3⟩:=h;refine Qag rfl fun A rm ρ s H cm i Q E p=>wpAny_Call_method1_late (Qcf h0) hl (QiF h3) ?_
  simp only[evE] at p;refine bindG (fun Q=>(ha f hcd y h1).1 A rm ρ s H cm i Q E) p fun v H_1 w s_1 cm_1 _ n_1 i_1 r_1 p=>?_
  cases v<;>first | exact p.elim | skip
  rename_i j _;obtain⟨pp,hp,rfl⟩:=r_1;dsimp only[lstOf] at p;cases hk:H_1[j]? with
  | none=>rw[hk] at p; exact p.elim
  | some y0 =>
   rw[hk] at p;cases y0<;>first | exact p.elim | skip
   rename_i l0;obtain⟨hp2,xs0,m0,e0,z0⟩:=QdJ i_1 hp hk;refine⟨"list","list.append",PySem.F.plainAttrs_list,PySem.F.slot_list_append,PySem.F.type_list_append,⟨_,e0,rfl⟩,fun a q=>by cases q; exact⟨_,e0,rfl⟩,?_⟩;refine method1_meetsIn PySem.F.slot_list_append PySem.F.entry_list_append ?_;dsimp only at p;refine bindG (fun Q=>(hb f hcd z h2).1 A rm ρ s_1 H_1 cm_1 i_1 Q E) p fun u H_2 t s_2 cm_2 _ n_2 i_2 r_2 p=>?_
   cases hk2:H_2[j]? with
   | none=>rw[hk2] at p; exact p.elim
   | some y1 =>
    rw[hk2] at p;cases y1<;>first | exact p.elim | skip
    rename_i l;dsimp only at p;split at p
    ·rename_i hlen
     obtain⟨pp',hp',e1,_⟩:=n_2.cms j pp hp;obtain⟨hq2,xs,m,e,z⟩:=QdJ i_2 hp' hk2;have hxl:=Qan z;rw[e1] at e;refine⟨⟨_,e,rfl⟩,PySem.F.args_list_append_2 _ _,_,Meets.inModel (AutoListH.list_append_list_val_0 pp.1 xs.toArray m t (by rw[List.size_toArray,sizeLine_eq]; omega)) P0 c.w,e,?_⟩;rw[←e1] at e ⊢;obtain⟨iv,nx⟩:=Qf2 (l:=l) (l':=l++[u]) (g:=fun x_1=>x_1.push t) (xs':=xs++[t]) i_2 hp' hq2 e (by simp) (fun rr=>QbN (Cx.reps_mono rr (.refl _) z) (Qir (Cx.rep_mono rr (.refl _) r_2))) s_2.toks
     exact p _ _ cm_2 nx iv rfl
    ·exact p.elim
 ·cases h
theorem QnY {a:PE} (ha:SE c k n C a):SE c k n C (.pop0 a):=fun f hcd x h=>by
 simp only[chkE] at h;split at h
 ·rename_i y m q1 q2 hx
  obtain⟨ap,pos,rfl,hl,_,h0⟩:=Qf1 hx;simp only[Bool.and_eq_true,beq_iff_eq] at h;obtain⟨rfl,h1⟩:=h;refine Qag rfl fun A rm ρ s H cm i Q E p=>wpAny_Call_method1_late (Qcf h0) hl rfl ?_
  simp only[evE] at p;refine bindG (fun Q=>(ha f hcd y h1).1 A rm ρ s H cm i Q E) p fun v H_1 w s_1 cm_1 _ n_1 i_1 r_1 p=>?_
  cases v<;>first | exact p.elim | skip
  rename_i j _;obtain⟨pp,hp,rfl⟩:=r_1;dsimp only at p;cases hk:H_1[j]? with
  | none=>rw[hk] at p; exact p.elim
  | some y0 =>
   rw[hk] at p;cases y0<;>first | exact p.elim | skip
   rename_i l0;cases l0 with
   | nil=>exact p.elim
   | cons u l =>
    dsimp only at p;split at p
    ·rename_i hlen
     obtain⟨hp2,xs0,m0,e0,z0⟩:=QdJ i_1 hp hk;obtain⟨val,xs,rfl,rv,z⟩:=z0;have hxl:=Qan z;refine⟨"list","list.pop",PySem.F.plainAttrs_list,PySem.F.slot_list_pop,PySem.F.type_list_pop,⟨_,e0,rfl⟩,fun a q=>by cases q; exact⟨_,e0,rfl⟩,?_⟩;refine method1_meetsIn PySem.F.slot_list_pop PySem.F.entry_list_pop (wpAny_Constant_int ?_);refine⟨⟨_,e0,rfl⟩,PySem.F.args_list_pop_2 _ _,_,Meets.inModel (MeetsSeq.list_pop_at pp.1 (val::xs).toArray m0 0 s_1.toks 0 val (by decide) (by simp[seqIndex?]) (by simp) (by rw[List.size_toArray,sizeLine_eq]; simp; omega)) P0 c.w,e0,?_⟩;have q:=Qf2 (l:=u::l) (l':=l) (g:=fun xs=>xs.eraseIdxIfInBounds 0) (xs:=val::xs) (xs':=xs) (m:=m0) i_1 hp hp2 e0 (by simp[Array.eraseIdxIfInBounds]) (fun rr=>Cx.reps_mono rr (.refl _) z) (s_1.toks+1);exact p _ _ cm_1 q.2 q.1 (q.2.rep i_1.base rv)
    ·exact p.elim
 ·cases h
theorem QnZ {a b:PE} (ha:SE c k n C a) (hb:SE c k n C b):SE c k n C (.dget a b):=fun f hcd x h=>by
 simp only[chkE] at h;split at h
 ·rename_i y m z hx
  obtain⟨ap,pos,rfl,hl,_,h0⟩:=Qf1 hx;simp only[Bool.and_eq_true,beq_iff_eq] at h;obtain⟨⟨⟨rfl,h1⟩,h2⟩,h3⟩:=h;refine Qag rfl fun A rm ρ s H cm i Q E p=>wpAny_Call_method1_late (Qcf h0) hl (QiF h3) ?_
  simp only[evE] at p;refine bindG (fun Q=>(ha f hcd y h1).1 A rm ρ s H cm i Q E) p fun v H_1 w s_1 cm_1 _ n_1 i_1 r_1 p=>?_
  cases v<;>first | exact p.elim | skip
  rename_i ks vs _;dsimp only at p;obtain⟨a,o,kvs,rfl,e,lo,d,zr⟩:=QgR i_1 (v:=.dct ks vs) r_1 rfl;have hm0:s_1.heap.DictOf (strKind P0 c.w) a kvs:=Heap.dictOf_iff.mpr ⟨o,e,d⟩;refine⟨"dict","dict.get",PySem.F.plainAttrs_dict,PySem.F.slot_dict_get,PySem.F.type_dict_get,hm0.typeIs,hm0.mapOf.noDict,wpAny_dict_get1 (knd:=strKind P0 c.w) lo ?_⟩;refine bindG (fun Q=>(hb f hcd z h2).1 A rm ρ s_1 H_1 cm_1 i_1 Q E) p fun u H_2 t s_2 cm_2 _ n_2 i_2 r_2 p=>?_
  cases u<;>first | exact p.elim | skip
  rename_i key _;obtain⟨tk,rfl⟩:=r_2;have r1':=n_2.rep i_1.base r_1;obtain⟨a',o',kvs',ea,e',lo',d',zr'⟩:=QgR i_2 (v:=.dct ks vs) r1' rfl;cases ea;have hm:s_2.heap.DictOf (strKind P0 c.w) a kvs':=Heap.dictOf_iff.mpr ⟨o',e',d'⟩;refine⟨_,_,strKind_is P0 c.w _ tk,hm.mapOf,?_⟩;dsimp only at p;obtain⟨_,_,v1,v2⟩:=Qbz key zr';cases hu:keyAt ks vs key with
  | none=>rw[v2 hu]; rw[hu] at p; exact EPost.end p i_2 (Grow.toks _ _) rfl
  | some u=>obtain⟨val,hv,rv⟩:=v1 u hu; rw[hv]; rw[hu] at p; exact EPost.end p i_2 (Grow.toks _ _) rv
 ·cases h
end
end
section
section
variable {c:Cx} {k:Ck} {n:Nat} {C:Orc} {f:Fm} {x:PySem.Expr} {e:PE}
theorem Qp5 {a:PE} (ha:SE c k n C a):SE c k n C (.frz a):=fun f hcd x h=>by
 simp only[chkE,Bool.and_eq_true] at h;have hs:=ha f hcd x h.2;have ev:EvOk c n C (.frz a) f x:=fun A rm ρ s H cm i Q E p=>by
  simp only[evE] at p;refine bindG (fun Q=>hs.1 A rm ρ s H cm i Q E) p fun v H_1 z s_1 cm_1 _ n_1 i_1 r_1 p=>?_
  cases v with
  | cell j =>
   obtain⟨pp,hp,rfl⟩:=r_1;simp only[pFrz] at p;cases hk:H_1[j]? with
   | none=>rw[hk] at p; exact p.elim
   | some y =>
    rw[hk] at p;obtain⟨iv,nx⟩:=i_1.kill hp;have hR:∀a o,a∈pp.2->s_1.heap.get? a=some o->stab o=true->Rr f.FX (cm_1.set j (pp.1,[])) s_1.heap a o:=fun a o ha e st =>
     ⟨e,st,fun q=>i_1.base.dj a q (QaL hp ha),Qfr i_1.base.nd hp ha⟩
    have cz:=i_1.base.cells j pp y hp hk;obtain⟨p1,p2⟩:=pp;cases y with
    | lst l =>
     dsimp only at p;split at p
     ·rename_i hn
      obtain⟨rfl,xs,o,m,e,r1,r2,_,_,z⟩:=cz;exact p _ s_1 _ nx iv ⟨p1,o,xs,m,rfl,hR _ _ (.head _) e (by simp[stab,r2]),r1,r2,Qd3 _ l xs hn (Cx.reps_mono (nx.rr i_1.base) nx.cms z)⟩
     ·exact p.elim
    | dct ks l =>
     dsimp only at p;split at p
     ·rename_i hn
      obtain⟨rfl,o,kvs,e,r1,_,z⟩:=cz;have hd:∃es ep,o.data=.dict es ep:=let ⟨es,ep,_,hd,_⟩:=r1; ⟨es,ep,hd⟩;obtain⟨es,ep,hd⟩:=hd;refine p _ s_1 _ nx iv ⟨p1,o,kvs,rfl,hR _ _ (.head _) e (by simp[stab,hd]),fun q=>?_,r1,QhN _ ks l kvs hn (Cx.repk_mono (nx.rr i_1.base) nx.cms z)⟩;have:=(i_1.base.lo p1 (.inr (QaL hp (.head _)))).1;rw[q] at this;exact c.one this
     ·exact p.elim
    | obj D ks l =>
     dsimp only at p;split at p
     ·rename_i hn
      obtain⟨d,rfl,hne,ds,m,e,e2,_,ac,z⟩:=cz;exact p _ s_1 _ nx iv ⟨p1,d,ds,m,rfl,hR _ _ (.head _) e rfl,hR _ _ (.tail _ (.head _)) e2 rfl,ac,QfT _ ks l ds hn (Cx.repd_mono (nx.rr i_1.base) nx.cms z)⟩
     ·exact p.elim
    | dead=>exact p.elim
  | _=>exact EPost.here p i_1 r_1
 exact Qag h.1 ev
theorem Qp6 {x y:PySem.Expr} (h:xFmt x=some y):∃p,x=.FormattedValue y (-1) none p:=by
 cases x with
 | FormattedValue v cv sp p =>
  cases sp with
  | none =>
   simp only[xFmt] at h;split at h
   ·rename_i hc
    cases h;rw[beq_iff_eq.mp hc];exact⟨_,rfl⟩
   ·cases h
  | some _=>cases h
 | _=>cases h
theorem Qp7 {a:PE} (ha:SE c k n C a):SE c k n C (.fmt a):=fun f hcd x h=>by
 simp only[chkE] at h;split at h
 ·rename_i y hx
  obtain⟨pos,rfl⟩:=Qp6 hx;refine Qag rfl fun A rm ρ s H cm i Q E p=>wpAny_FormattedValue_plain ?_
  simp only[evE] at p;refine bindG (fun Q=>(ha f hcd y h).1 A rm ρ s H cm i Q E) p fun v H_1 z s_1 cm_1 _ n_1 i_1 r_1 p=>?_
  cases v<;>first | exact p.elim | skip
  obtain⟨t,rfl⟩:=r_1;dsimp only at p;split at p
  ·rename_i hl
   exact wpAny_formatField_int (QgS hl) (EPost.end p i_1 (Grow.toks _ _) ⟨_,rfl⟩)
  ·exact p.elim
 ·cases h
end
end
section
section
variable {c:Cx} {k:Ck} {n:Nat} {C:Orc} {f:Fm} {x:PySem.Expr} {e:PE}
theorem Qp8:SE c k n C .bad:=fun f hcd x h=>⟨fun A rm ρ s H cm i Q E p=>by simp only[evE] at p; exact p.elim,fun A rm ρ s H cm i Q E p=>by simp only[evT,evE] at p; exact p.elim⟩
theorem Qj2 (ok:CkOk c k) {a:PE} {nm:String} {D:Nat} (ha:SE c k n C a):SE c k n C (.isinst a nm D):=fun f hcd x h=>by
 simp only[chkE] at h;split at h
 ·rename_i y z u up hx
  obtain⟨q,pos,rfl⟩:=call_of hx;simp only[Bool.and_eq_true] at h;obtain⟨⟨⟨⟨h0,h1⟩,h2⟩,h3⟩,h4⟩:=h;cases QbX h0;refine Qag rfl fun A rm ρ s H cm i Q E p=>QdH i h0 (QfZ _) Qf0 (by simp only[List.all_cons,h2]; rfl) (by decide) ?_
  simp only[evE] at p;refine wpAny_items_cons ?_ (Qas h2);refine bindG (fun Q=>(ha f hcd z h1).1 A rm ρ s H cm i Q E) p fun v H_1 y s_1 cm_1 e_1 n_1 i_1 r_1 p=>?_
  refine wpAny_items_cons ?_ (Qas rfl);obtain⟨_,val,e,gv⟩:=ok.g nm _ h4;cases QbX h3;cases (show val=.ref D from gv);refine QcL i_1 h3 e (wpAny_items_nil ?_);cases ho:objOf H_1 v with
  | none=>rw[ho] at p; exact p.elim
  | some w =>
   obtain⟨D',ks,vs⟩:=w;rw[ho] at p;dsimp only at p;split at p
   ·rename_i hD
    have p':EPost c f ρ s_1 cm_1 (.ok (.bool true) H_1) Q E:=p;subst hD;obtain⟨a',d,ds,m,rfl,e1,e2,_,_⟩:=Qj1 i_1 r_1 ho;exact isi_call i_1.base.X (fun M=>InstAt.type (od:=dictOf ds m) ⟨e1,rfl,rfl,e2⟩) (by simp[isIn]) (by nofun) (EPost.here p' i_1 rfl)
   ·exact p.elim
 ·cases h
theorem Qn0 {x:PySem.Expr} {l:List PySem.Expr} (h:xJoin x=some l):∃p,x=.JoinedStr l p:=by
 cases x<;>simp only[xJoin,reduceCtorEq,Option.some.injEq] at h;obtain rfl:=h;exact⟨_,rfl⟩
theorem QiG {A:Around} (rm:Room f A n) (hcd:FrOk k f.env) {ρ:List AV} {Q:Value->Shared->Prop} {E:Value->Shared->Prop}:∀(l:List PE),(∀e∈l,SE c k n C e)->∀ys,chkL k l f.sc f.σ ys=true->∀acc:String,acc.length≤100000->∀s H cm,Inv c f s ρ H cm ->
  EPost c f ρ s cm (evJ C ρ l acc H) Q E ->
  Joins (model P0 c.w) A E (evalEach ys f.env) (Str.ofString acc) (fun out s_1=>out.length≤sizeLine∧Q (.str out s_1.toks) {s_1 with toks:=s_1.toks+1}) s
 | [],_,ys,h,acc,ha,s,H,cm,i,p=>by
  cases Qbu h;simp only[evJ] at p;refine⟨?_,EPost.end p i (Grow.toks _ _) ⟨_,rfl⟩⟩;rw[Str.ofString_len,sizeLine_eq]; omega
 | a::l,hs,ys,h,acc,ha,s,H,cm,i,p=>by
  obtain⟨y,r,rfl,_,h1,h2⟩:=QaM h;simp only[evJ] at p;show wpAny _ _ (eval y f.env) _ _ _;refine bindG (fun Q=>(hs a (.head _) f hcd y h1).1 A rm ρ s H cm i Q E) p fun v H_1 z s_1 cm_1 e_1 n_1 i_1 r_1 p=>?_
  cases v<;>first | exact p.elim | skip
  rename_i t _;obtain⟨tk,rfl⟩:=r_1;dsimp only at p;split at p
  ·rename_i hl
   refine⟨_,tk,rfl,?_,?_⟩
   ·rw[←Str.ofString_append,Str.ofString_len,sizeLine_eq]; omega
   ·rw[←Str.ofString_append]
    exact QiG rm hcd l (fun e he=>hs e (.tail _ he)) r h2 _ hl s_1 H_1 cm_1 i_1 p
  ·exact p.elim
theorem Qn1 {l:List PE} (hl:∀e∈l,SE c k n C e):SE c k n C (.fstr l):=fun f hcd x h=>by
 simp only[chkE] at h;split at h
 ·rename_i ys hx
  obtain⟨pos,rfl⟩:=Qn0 hx;simp only[Bool.and_eq_true,decide_eq_true_eq] at h;obtain⟨h0,h1⟩:=h
  match ys,h0,h1 with
  | y1::y2::r,_,h1 =>
   refine Qag rfl fun A rm ρ s H cm i Q E p=>wpAny_JoinedStr ?_
   simp only[evE] at p;exact QiG rm hcd l hl _ h1 "" (by decide) s H cm i p
 ·cases h
end
end
section
section
variable {c:Cx} {f:Fm} {s s' s_1 s_2:Shared} {ρ:List AV} {H H':AH} {cm cm' cm_1:CM} {FX FA FO:List Addr} {A:Around} {Q:Value->Shared->Prop} {E:Value->Shared->Prop} {d:Addr}
theorem Qa6:∀a,a∈f.FX->a∈(f.wide d).FX:=fun a h=>Qar.mpr (.inr h)
theorem ExcF.sub {FX FX':List Addr} {h0 h:Heap} {fl:Option Value} {e:Value} {m:AV} (hs:∀a,a∈FX->a∈FX') (x:ExcF c h0 FX' cm h fl e m):ExcF c h0 FX cm h fl e m:=by
 obtain⟨a,o,dd,vs,ds,n,h1,h2,h3,h4,h5,h6,h7,h8,h9,h10,h11⟩:=x;refine⟨a,o,dd,vs,ds,n,h1,h2,h3,h4,h5,h6,fun q=>h7 (hs a q),h8,Rr.sub hs _ _ h9,Cx.repd_mono (Rr.sub hs) (.refl _) h10,?_⟩;cases fl with
 | none=>exact h11
 | some v=>obtain⟨T,oT,ts,q1,q2,q3,q0,q4,q5,q6,q7,q8⟩:=h11; exact⟨T,oT,ts,q1,q2,q3,q0,q4,q5,q6,fun q=>q7 (hs T q),q8⟩
theorem ExcAt.sub {FX FX':List Addr} {h0 h:Heap} {e:Value} {m:AV} (hs:∀a,a∈FX->a∈FX') (x:ExcAt c h0 FX' cm h e m):ExcAt c h0 FX cm h e m:=x.imp (·.sub hs) (·.sub hs)
theorem wideG {α β α' β':Type} {rp:CM->Heap->α->β->Prop} {rp':CM->Heap->α'->β'->Prop} {o:Out α} {k:α->AH->Out α'} {K:β->Shared->Prop} {Q:β'->Shared->Prop} (g:Nx f.FA f.FO s cm s' cm')
  (h:GPost c rp' f ρ s cm (o.bind k) Q E) (hk:∀v H_1 x s_1 cm_1,o=.ok v H_1->Nx f.FA f.FO s' cm' s_1 cm_1->Inv c (f.wide d) s_1 ρ H_1 cm_1->rp cm_1 s_1.heap v x->GPost c rp' f ρ s cm (k v H_1) Q E->K x s_1) :
  GPost c rp (f.wide d) ρ s' cm' o K E:=by
 cases o with
 | ok v H=>exact fun x s_1 cm_1 n i r=>hk v H x s_1 cm_1 rfl n i r h
 | exc m H=>exact fun e s_1 cm_1 n i r=>h e s_1 cm_1 (g.trans n) i.narrow ((r.sub Qa6).older g.alive)
 | stuck=>exact h.elim
theorem Rr.zcell {h:Heap}:∀a o,Rr (f.wide d).FX cm h a o->Rr f.FX (cm++[(d,[d])]) h a o:=fun a o ⟨e,st,n1,n2⟩ =>
 ⟨e,st,fun q=>n1 (Qa6 a q),fun q=>by
  rw[Qbt] at q;rcases List.mem_append.mp q with q | q
  ·exact n2 q
  ·exact n1 (Qar.mpr (.inl (List.mem_singleton.mp q)))⟩
theorem Inv.zcell {x:AC} (i:Inv c (f.wide d) s ρ H cm) (hd:d ∉ f.FX) (z:cellOk c f.FX (cm++[(d,[d])]) s.heap (d,[d]) x):Inv c f s ρ (H++[x]) (cm++[(d,[d])]):=by
 have hdw:d∈(f.wide d).FX:=Qar.mpr (.inl rfl);have b:=i.base;have hR:=Rr.zcell (f:=f) (d:=d) (cm:=cm) (h:=s.heap);refine⟨⟨by simp[b.len],fun j p y e1 e2=>?_,fun a h=>?_,fun a h h'=>?_,?_,b.old,b.gens,b.os,b.tab.mono (fun _ e=>e) hR⟩,
  fun a h=>⟨(i.dj a h).1,fun q=>(i.dj a h).2 (.tail _ q)⟩,fun a h q=>i.dj2 a h (.tail _ q),
  let ⟨m,n,z⟩:=i.ns; ⟨m,n,fun x k e1 e2=>(z x k e1 e2).mono hR (.snoc _ _)⟩,
  fun x k kd a e1 e2 e3 e4=>let ⟨o,ov,e,dd,z⟩:=i.cl x k kd a e1 e2 e3 e4; ⟨o,ov,e,dd,z.mono hR (.snoc _ _)⟩,i.frs⟩
 ·by_cases hj:j<cm.length
  ·rw[List.getElem?_append_left hj] at e1
   rw[List.getElem?_append_left (by rw[←b.len]; exact hj)] at e2;exact Qap (fun _ _ _ e=>e) hR (.snoc _ _) (b.cells j p y e1 e2)
  ·have hj':j=cm.length:=by have:=(List.getElem?_eq_some_iff.mp e1).1; simp at this; omega
   subst hj';rw[List.getElem?_concat_length] at e1;rw[b.len,List.getElem?_concat_length] at e2;cases e1; cases e2;exact z
 ·rcases h with h | h
  ·exact b.lo a (.inl (Qa6 a h))
  ·rw[Qbt] at h
   rcases List.mem_append.mp h with h | h
   ·exact b.lo a (.inr h)
   ·cases List.mem_singleton.mp h; exact b.lo _ (.inl hdw)
 ·rw[Qbt] at h'
  rcases List.mem_append.mp h' with h' | h'
  ·exact b.dj a (Qa6 a h) h'
  ·exact hd (List.mem_singleton.mp h' ▸ h)
 ·rw[Qbt]
  exact List.nodup_append.mpr ⟨b.nd,by simp,fun x hx y hy q=>b.dj d hdw (by cases List.mem_singleton.mp hy; exact q ▸ hx)⟩
theorem Nx.zcell (x:Nx FA FO s cm s_1 cm_1) (h0:s.heap.get? d=none):Nx FA FO s cm s_1 (cm_1++[(d,[d])]) where
 keep:=x.keep
 outer:=x.outer
 cms:=x.cms.trans (.snoc _ _)
 alive:=x.alive
 new a h:=by
  rw[Qbt] at h;rcases List.mem_append.mp h with h | h
  ·exact x.new a h
  ·cases List.mem_singleton.mp h; exact .inr (.inl h0)
theorem EPost.endZ {xc:AC} (h:EPost c f ρ s cm (.ok (.cell H.length) (H++[xc])) Q E) (x:Nx f.FA f.FO s cm s_1 cm_1) (i:Inv c (f.wide d) s_1 ρ H cm_1) (hd:d ∉ f.FX) (h0:s.heap.get? d=none) (z:cellOk c f.FX (cm_1++[(d,[d])]) s_1.heap (d,[d]) xc):Q (.ref d) s_1 :=
 h _ s_1 _ (x.zcell h0) (i.zcell hd z) ⟨(d,[d]),by rw[←i.base.len,List.getElem?_concat_length],rfl⟩
theorem EPost.endN {v:AV} {y:Value} (h:EPost c f ρ s cm (.ok v H) Q E) (x:Nx f.FA f.FO s cm s_1 cm_1) (i:Inv c (f.wide d) s_1 ρ H cm_1) (r:c.rep f.FX cm_1 s_1.heap v y):Q y s_1:=h _ s_1 _ x i.narrow r
theorem Inv.fresh (i:Inv c f s ρ H cm) (h0:s.heap.get? d=none):d ∉ f.FX:=fun q=>(i.base.lo d (.inl q)).2 h0
end
section
variable {c:Cx} {k:Ck} {n:Nat} {C:Orc} {f:Fm} {x:PySem.Expr} {e:PE}
theorem Room.wide {A:Around} {d:Addr} (r:Room f A n):Room (f.wide d) A n:=⟨r.hh,r.depth,r.units,r.frames⟩
theorem Qn2 {x:PySem.Expr} {zs:List (Option PySem.Expr)} {ys:List PySem.Expr} (h:xDict x=some (zs,ys)):∃p,x=.Dict zs ys p:=by
 cases x<;>simp only[xDict,reduceCtorEq,Option.some.injEq,Prod.mk.injEq] at h;obtain⟨rfl,rfl⟩:=h;exact⟨_,rfl⟩
theorem QhR {w:World} {o:Obj} {kvs:List (Str × Value)} (h:o.IsDictOf (strKind P0 w) kvs):stab o=true:=by
 obtain⟨es,ep,_,hd,_⟩:=h;simp[stab,hd]
theorem Qp9 {ks:List String} {l:List PE} {mu:Bool} (hl:∀e∈l,SE c k n C e):SE c k n C (.dct ks l mu):=fun f hcd x h=>by
 simp only[chkE] at h;split at h
 ·rename_i zs ys hx
  obtain⟨pos,rfl⟩:=Qn2 hx;simp only[Bool.and_eq_true,decide_eq_true_eq] at h;obtain⟨⟨⟨⟨⟨h1,h2⟩,hmu⟩,h3⟩,h4⟩,h5⟩:=h;refine Qag rfl fun A rm ρ s H cm i Q E p=>?_
  simp only[evE] at p;have hd:s.heap.objs.size ∉ f.FX:=i.fresh (Qai _);have g0:Grow s {s with heap:=s.heap.push {cls:=.type "dict",data:=.dict #[]}}:=Grow.push s _ s.toks;have hn:({s with heap:=s.heap.push {cls:=.type "dict",data:=.dict #[]}}:Shared).heap.get? s.heap.objs.size=some {cls:=.type "dict",data:=.dict #[]}:=Heap.get?_push_size _ rfl;have i0:=i.wider (d:=s.heap.objs.size) g0 (Qai _) (by rw[hn]; nofun);have hwd:s.heap.objs.size∈(f.wide s.heap.objs.size).FX:=Qar.mpr (.inl rfl)
  match ks,zs,ys,l,h1,h2,h3,h4,h5,hl,hmu,p with
  | [],[],[],l,_,_,_,_,h5,hl,hmu,p =>
   match l,Qex h5 with
   | [],_ =>
   refine wpAny_Dict_empty ?_;simp only[evL,Out.bind_ok] at p;obtain⟨o,ho,hz⟩:=Heap.dictOf_iff.mp (Heap.DictOf.new (knd:=strKind P0 c.w) s.heap);rw[show mu=true from by simpa using hmu] at p;exact EPost.endZ p g0.nx i0 hd (Qai _) ⟨rfl,o,[],ho,hz,by simp,rfl,rfl⟩
  | [key],[z],[y],l,_,_,_,h4,h5,hl,hmu,p =>
   match l,Qex h5 with
   | [e],_ =>
   rw[show mu=false from by simpa using hmu] at p;obtain⟨_,_,e1,_,hc,_⟩:=QaM h5;cases e1;simp only[List.zip_cons_cons,List.zip_nil_right,List.all_cons,List.all_nil,Bool.and_true] at h4;split at h4
   ·rename_i kk pp _ _
    cases beq_iff_eq.mp h4;refine wpAny_Dict_pairs (knd:=strKind P0 c.w) (pairs:=[(eval (.Constant (.str (Str.ofString key)) kk pp) f.env,do let x ←eval y f.env; standAt pos; pure x)]) rfl (by simp) (by simp) ?_
    refine evalPairs_cons (wpAny_Constant_str (wpAny_bind ?_));simp only[evL] at p;have p':EPost c f ρ s cm ((evE C ρ e H).bind fun v H=>.ok (.dct [key] [v]) H) Q E:=by
     cases h1:evE C ρ e H with
     | ok v H_1=>rw[h1] at p; simpa using p
     | exc m H_1=>rw[h1] at p; exact p
     | stuck=>rw[h1] at p; exact p
    have g1:=g0.trans (Grow.toks _ (s.toks+1));refine (hl e (.head _) (f.wide _) hcd y hc).1 A rm.wide ρ _ H cm ((Grow.toks _ _).inv i0) _ E (wideG g1.nx p' fun v H_1 x s_1 cm_1 e_1 n_1 i_1 r_1 p=>?_);refine wpAny_bind (wpAny_standAt (wpAny_pure (evalPairs_nil ?_)));refine⟨[(Str.ofString key,x)],⟨strKind_is P0 c.w _ _,rfl,trivial⟩,?_,fun h' hm hs=>?_⟩
    ·have q:=i0.base
     refine Heap.dictOf_iff.mpr ?_;obtain⟨o,ho,hz⟩:=Heap.dictOf_iff.mp (Heap.DictOf.new (knd:=strKind P0 c.w) s.heap);refine⟨o,n_1.keep _ _ ho (fun q=>?_) (fun q=>(i0.dj _ q).2 (.head _)) (fun q=>i0.dj2 _ q (.head _)) (i0.base.dj _ hwd),hz⟩;have:=(i0.base.lo _ (.inl hwd)).1;rw[q] at this;exact c.glow this
    ·obtain⟨o,ho,hz⟩:=Heap.dictOf_iff.mp hm
     have i2:=i_1.zmod (s':={s_1 with heap:=h',toks:=s_1.toks+1}) (fun a o ha e=>(hs.2 a ha).trans e) (by show h'.get? _≠none; rw[ho]; nofun) rfl rfl;have n2:=(g1.nx (cm:=cm)).trans n_1;refine EPost.endN p (n2.mod (Qai _) fun a o ha e=>(hs.2 a ha).trans e) i2 ?_;refine⟨_,o,[(Str.ofString key,x)],rfl,⟨ho,QhR hz,hd,i_1.base.dj _ hwd⟩,fun q=>?_,hz,key,[],x,[],rfl,rfl,?_,rfl,rfl⟩
     ·have:=(i0.base.lo _ (.inl hwd)).1
      rw[q] at this;exact c.one this
     ·refine Cx.rep_mono (fun a o ⟨e,st,n1,n2⟩=>⟨(hs.2 a (fun q=>n1 (q ▸ hwd))).trans e,st,fun q=>n1 (Qa6 a q),n2⟩) (.refl _) r_1
   ·cases h4
 ·cases h
end
end
section
structure Tn (c:Cx) (f:Fm) (cm:CM) (h0:Heap) (s s':Shared):Prop where
 keep:∀b o,(stab o=true∨b∈f.FX∨b∈adr cm∨h0.get? b≠none)->b ∉ f.FA->b ∉ f.FO->s.heap.get? b=some o->s'.heap.get? b=some o
 own:∀b o,(b∈f.FA∨b∈f.FO)->s.heap.get? b=some o->∃sl,s'.heap.get? b=some {o with slots:=sl}
 alive:∀b,s.heap.get? b≠none->s'.heap.get? b≠none
 gens:s'.gens=s.gens
 os:s'.os=s.os
section
variable {c:Cx} {f:Fm} {s s' s_0 s_1 s_2:Shared} {ρ:List AV} {H H':AH} {cm cm' cm_1 cm_0:CM} {h0:Heap} {A:Around} {M:Model} {E:Value->Shared->Prop}
theorem Tn.trans (x:Tn c f cm h0 s s_1) (y:Tn c f cm h0 s_1 s_2):Tn c f cm h0 s s_2 :=
 ⟨fun b o h h1 h2 e=>y.keep b o h h1 h2 (x.keep b o h h1 h2 e),fun b o h e=>let ⟨_,e1⟩:=x.own b o h e; let ⟨sl,e2⟩:=y.own b _ h e1; ⟨sl,e2⟩,fun b h=>y.alive b (x.alive b h),y.gens.trans x.gens,y.os.trans x.os⟩
theorem Tn.refl (s:Shared):Tn c f cm h0 s s:=⟨fun _ _ _ _ _ e=>e,fun _ o _ e=>⟨o.slots,e⟩,fun _ h=>h,rfl,rfl⟩
theorem Grow.tn (g:Grow s s'):Tn c f cm h0 s s':=⟨fun _ _ _ _ _ e=>g.keep _ _ e,fun _ o _ e=>⟨o.slots,g.keep _ _ e⟩,fun _ h=>g.some h,g.gens,g.os⟩
theorem Tn.rr (x:Tn c f cm h0 s s'):∀a o,Rr f.FX cm s.heap a o->Rr f.FX cm s'.heap a o:=fun a o ⟨e,st,n1,n2⟩ =>
 ⟨x.keep a o (.inl st) (fun q=>n1 (Qay (.inl q))) (fun q=>n1 (Qay (.inr q))) e,st,n1,n2⟩
theorem Tn.base (x:Tn c f cm h0 s s') (hh:∀b,c.h_1.get? b≠none->h0.get? b≠none) (b:Base c f.FX s H cm):Base c f.FX s' H cm where
 len:=b.len
 cells j p y e1 e2:=Qap (fun a o ha e=>x.keep a o (.inr (.inr (.inl (QaL e1 ha)))) (fun q=>b.dj a (Qay (.inl q)) (QaL e1 ha)) (fun q=>b.dj a (Qay (.inr q)) (QaL e1 ha)) e) x.rr (.refl _) (b.cells j p y e1 e2)
 lo a h:=⟨(b.lo a h).1,x.alive a (b.lo a h).2⟩
 dj:=b.dj
 nd:=b.nd
 old a o n e:=by
  have hn:c.h_1.get? a≠none:=by rw[e]; nofun
  exact x.keep a o (.inr (.inr (.inr (hh a hn)))) (fun q=>hn (b.lo a (.inl (Qay (.inl q)))).1) (fun q=>hn (b.lo a (.inl (Qay (.inr q)))).1) (b.old a o n e)
 gens:=x.gens.trans b.gens
 os:=x.os.trans b.os
 tab:=by
  refine b.tab.mono (fun _ e=>?_) x.rr;exact x.keep _ _ (.inr (.inr (.inr (hh _ c.glow)))) (fun q=>c.glow (b.lo _ (.inl (Qay (.inl q)))).1) (fun q=>c.glow (b.lo _ (.inl (Qay (.inr q)))).1) e
theorem Tn.nx (x:Tn c f cm_1 s_0.heap s s') (n:Nx f.FA f.FO s_0 cm_0 s cm_1):Nx f.FA f.FO s_0 cm_0 s' cm_1 where
 keep a o e q0 q1 q2 q3:=x.keep a o (.inr (.inr (.inr (by rw[e]; nofun)))) q1 q2 (n.keep a o e q0 q1 q2 q3)
 outer a o e h:=let ⟨_,e1⟩:=n.outer a o e h; let ⟨sl,e2⟩:=x.own a _ (.inr h) e1; ⟨sl,e2⟩
 cms:=n.cms
 new:=n.new
 alive a h:=x.alive a (n.alive a h)
theorem Tn.inv (x:Tn c f cm h0 s s') (hh:∀b,c.h_1.get? b≠none->h0.get? b≠none) (i:Inv c f s ρ H cm):Inv c f s' ρ H cm:=by
 have b:=i.base;refine⟨x.base hh b,i.dj,i.dj2,?_,?_,?_⟩
 ·obtain⟨m,⟨o,es,ep,e,r⟩,z⟩:=i.ns
  obtain⟨sl,e'⟩:=x.own _ _ (.inl f.ok.loc) e;exact⟨m,⟨_,es,ep,e',r⟩,fun y k e1 e2=>(z y k e1 e2).mono x.rr (.refl _)⟩
 ·intro y k kd a e1 e2 e3 e4
  obtain⟨o,ov,e,d,z⟩:=i.cl y k kd a e1 e2 e3 e4;obtain⟨a',h1,_,h2,_⟩:=f.ok.cell y k kd e1 e2 e3;obtain rfl:a'=a:=Option.some.inj (h1.symm.trans e4);obtain⟨sl,e'⟩:=x.own _ _ h2 e;exact⟨_,ov,e',d,z.mono x.rr (.refl _)⟩
 ·intro e he
  obtain⟨h1,L,o,h2,h3,h4,h5⟩:=i.frs e he;obtain⟨sl,e'⟩:=x.own _ _ h5 h3;exact⟨h1,L,_,h2,e',h4,h5⟩
theorem ExcF.free {fl:Option Value} {a:Addr} {m:AV} (x:ExcF c h0 f.FX cm s.heap fl (.ref a) m):h0.get? a=none∧a ∉ f.FX∧a ∉ adr cm∧(∀o,s.heap.get? a=some o->stab o=false):=by
 obtain⟨a',o,d,vs,ds,n,e1,h2,h3,h4,h5,h6,h7,h8,_⟩:=x;cases e1;refine⟨h6,h7,h8,fun o' e=>?_⟩;rw[h2] at e;cases e;simp[stab,h5,h3]
theorem Qj3 {a:Addr} {o:Obj} {g:Obj->Obj} (e:s.heap.get? a=some o) (hf:(g o).isFreed=false) (h1:h0.get? a=none) (h2:a ∉ f.FX) (h3:a ∉ adr cm) (h4:stab o=false):Tn c f cm h0 s {s with heap:=s.heap.update a g} where
 keep b o' h _ _ eb:=by
  have hb:b≠a:=fun q=>by
   subst q;rcases h with h | h | h | h
   ·rw[e] at eb; cases eb; rw[h4] at h; cases h
   ·exact h2 h
   ·exact h3 h
   ·exact h h1
  exact (Heap.get?_update_ne _ _ _ _ hb).trans eb
 own b o' h eb:=by
  have hb:b≠a:=fun q=>h2 (q ▸ Qay h)
  exact⟨o'.slots,(Heap.get?_update_ne _ _ _ _ hb).trans eb⟩
 alive b h:=by
  by_cases hb:b=a
  ·subst hb
   show (s.heap.update b g).get? b≠none;rw[Heap.get?_update_self g e hf]; nofun
  ·show (s.heap.update a g).get? b≠none
   rw[Heap.get?_update_ne _ _ _ _ hb]; exact h
 gens:=rfl
 os:=rfl
theorem QlS {l:List Addr} {h':Heap} (hl:∀a,a∈l->a∈f.FA∨a∈f.FO) (x:Heap.SlotsOnly l s.heap h'):Tn c f cm h0 s {s with heap:=h'} where
 keep b o _ q1 q2 e:=(x.2.1 b fun q=>(hl b q).elim q1 q2).trans e
 own b o _ e:=x.2.2 b o e
 alive b h:=by
  cases e:s.heap.get? b with
  | none=>exact absurd e h
  | some o=>obtain⟨sl,e'⟩:=x.2.2 b o e; show h'.get? b≠none; rw[e']; nofun
 gens:=rfl
 os:=rfl
theorem Inv.funFrames (i:Inv c f s ρ H cm):s.heap.FunFrames (hideAll s.heap (f.FA++f.FO)) f.fs:=by
 have:∀l:List Env,(∀e∈l,e.scope.kind≠.module∧∃L o,e.frame=some L∧s.heap.get? L=some o∧(∀vs,o.data≠.fields vs)∧(L∈f.FA∨L∈f.FO))->s.heap.FunFrames (hideAll s.heap (f.FA++f.FO)) l:=by
  intro l
  induction l with
  | nil=>intro _; trivial
  | cons e r ih =>
   intro h;obtain⟨h1,L,o,h2,h3,h4,h5⟩:=h e (.head _);exact⟨h1,⟨L,o,h2,hideAll_none _ (List.mem_append.mpr h5),h3,h4⟩,ih fun e he=>h e (.tail _ he)⟩
 exact this _ i.frs
theorem Inv.frames_mem (i:Inv c f s ρ H cm):∀a,a∈f.fs.filterMap (·.frame)->a∈f.FA∨a∈f.FO:=fun a h=>by
 obtain⟨e,he,hf⟩:=List.mem_filterMap.mp h;obtain⟨_,L,o,h2,_,_,h5⟩:=i.frs e he;rw[hf] at h2; cases h2; exact h5
theorem Tn.exc {fl:Option Value} {e:Value} {m:AV} {a:Addr} {o:Obj} {vs:Array Value} {d:Addr} {ds:List DictEntry} {n:Nat} (x:Tn c f cm h0 s s') (r:Rr f.FX cm s.heap d (dictOf ds n)) (z:c.repd f.FX cm s.heap ["message"] [m] ds) :
  Rr f.FX cm s'.heap d (dictOf ds n)∧c.repd f.FX cm s'.heap ["message"] [m] ds:=⟨x.rr _ _ r,Cx.repd_mono x.rr (.refl _) z⟩
end
end
section
theorem Qfe (o:Obj) (g):(o.mapFields g).dict=o.dict:=by obtain⟨c,d,dt,sl⟩:=o; cases dt<;>rfl
section
variable {c:Cx} {f:Fm} {s s' s_0 s_1 s_2:Shared} {ρ:List AV} {H H':AH} {cm cm' cm_1 cm_0:CM} {h0:Heap} {A:Around} {M:Model} {E:Value->Shared->Prop} {env:Env} {outer:List Env} {L:Addr} {e:Value} {m:AV}
theorem newEntryF {a d n:Nat} {o:Obj} {vs:Array Value} {ds:List DictEntry} {head:Value} {hadNext:Bool} {Q:Unit->Shared->Prop} (hfr:A.frames=some (env::outer)) (hfs:f.fs=env::outer) (hf:env.frame=some L) (i:Inv c f s ρ H cm)
  (hn:h0.get? s.heap.objs.size=none)
  (he:s.heap.get? a=some o) (h1:o.cls=.ref 51) (h2:o.dict=some d) (h3:o.data=.fields vs) (h3s:1<vs.size) (h4:h0.get? a=none) (h5:a ∉ f.FX) (h6:a ∉ adr cm) (h7:Rr f.FX cm s.heap d (dictOf ds n)) (h8:c.repd f.FX cm s.heap ["message"] [m] ds)
  (h:∀s',Tn c f cm h0 s s'->ExcF c h0 f.FX cm s'.heap (some (rawInt L)) (.ref a) m->Q () s') :
  wpAny M A (do let fr ←frameOf env; let pl ←entryPlaceOf L hadNext; let b ←EntryCells.newEntry head fr .none (rawInt L) .none pl; setField (.ref a) 1 b) Q E s:=by
 have hst:stab o=false:=by simp[stab,h3,h1]
 have hsize:s.heap.objs.size ∉ f.FX∧s.heap.objs.size ∉ adr cm:=⟨fun q=>(i.base.lo _ (.inl q)).2 (Qai _),fun q=>(i.base.lo _ (.inr q)).2 (Qai _)⟩;have hl:=hfs ▸ i.funFrames;have hm:=hfs ▸ i.frames_mem;refine wpAny_bind (wpAny_frameOf_fun hfr hl hf fun hp hs_1=>?_);have t1:Tn c f cm h0 s {s with heap:=hp}:=QlS hm hs_1;refine wpAny_bind (wpAny_entryPlaceOf fun pl hpl=>?_);unfold EntryCells.newEntry newFields;refine wpAny_bind (wpAny_newObj_type ?_ (hpl.sizeOk5 _ _ _ _ _));have he_1:hp.get? a=some o:=(hs_1.2.1 a fun q=>h5 (Qay (hm a q))).trans he;have hT0:=Heap.get?_push_size hp (o:={cls:=.type "traceback",dict:=none,data:=.fields ([head,.ref L,.none,rawInt L,.none]++(if pl.isEmpty then List.replicate 6 Value.none else pl)).toArray}) rfl
 have he_2:=Heap.get?_push_of_some (h:=hp) {cls:=.type "traceback",dict:=none,data:=.fields ([head,.ref L,.none,rawInt L,.none]++(if pl.isEmpty then List.replicate 6 Value.none else pl)).toArray} he_1;have t2:Tn c f cm h0 {s with heap:=hp} _:=(Grow.push {s with heap:=hp} {cls:=.type "traceback",dict:=none,data:=.fields ([head,.ref L,.none,rawInt L,.none]++(if pl.isEmpty then List.replicate 6 Value.none else pl)).toArray} s.toks).tn;refine wpAny_setField he_2 h3 h3s ?_;have hTa:hp.objs.size≠a:=Nat.ne_of_gt (Heap.lt_size he_1);have hd_3:=Obj.data_mapFields h3 (·.setIfInBounds 1 (Value.ref hp.objs.size));have hfr3:=Obj.isFreed_of_fields hd_3
 have t3:Tn c f cm h0 _ _:=Qj3 (c:=c) (f:=f) (cm:=cm) (h0:=h0) (s:={s with heap:=hp.push {cls:=.type "traceback",dict:=none,data:=.fields ([head,.ref L,.none,rawInt L,.none]++(if pl.isEmpty then List.replicate 6 Value.none else pl)).toArray}}) he_2 hfr3 h4 h5 h6 hst;have tt:=(t1.trans t2).trans t3;refine h _ tt ?_;have he_3:=Heap.get?_update_self (Obj.mapFields (·.setIfInBounds 1 (Value.ref hp.objs.size))) he_2 hfr3;have hT_3:=(Heap.get?_update_other (hp.push {cls:=.type "traceback",dict:=none,data:=.fields ([head,.ref L,.none,rawInt L,.none]++(if pl.isEmpty then List.replicate 6 Value.none else pl)).toArray})
  (Obj.mapFields (·.setIfInBounds 1 (Value.ref hp.objs.size))) (Ne.symm hTa)).trans hT0
 have hsz:hp.objs.size=s.heap.objs.size:=hs_1.1;refine⟨a,_,d,_,ds,n,rfl,he_3,(Obj.cls_mapFields _ _).trans h1,(Qfe _ _).trans h2,hd_3,h4,h5,h6,tt.rr _ _ h7,Cx.repd_mono tt.rr (.refl _) h8,?_⟩;refine⟨hp.objs.size,_,_,by simp[h3s],hTa,hT_3,rfl,rfl,by simp,by rw[hsz]; exact hn,by rw[hsz]; exact hsize.1,by rw[hsz]; exact hsize.2⟩
theorem QiH (hh:∀b,h0.get? b≠none->s.heap.get? b≠none):h0.get? s.heap.objs.size=none:=Decidable.byContradiction fun q=>hh _ q (Qai _)
theorem noteF {Q:Unit->Shared->Prop} (hfr:A.frames=some (env::outer)) (hfs:f.fs=env::outer) (hf:env.frame=some L) (i:Inv c f s ρ H cm) (hh:∀b,c.h_1.get? b≠none->h0.get? b≠none) (hn:∀b,h0.get? b≠none->s.heap.get? b≠none) (x:ExcAt c h0 f.FX cm s.heap e m)
  (h:∀s',Tn c f cm h0 s s'->ExcF c h0 f.FX cm s'.heap (some (rawInt L)) e m->Q () s'):wpAny M A (noteFrame e env) Q E s:=by
 rcases x with x | x
 ·obtain⟨a,o,d,vs,ds,n,rfl,h2,h3,h4,h5,h6,h7,h8,h9,h10,h11⟩:=x
  have hs:1<vs.size:=(Array.getElem?_eq_some_iff.mp h11).1;unfold noteFrame;simp only[hf];refine wpAny_bind (wpAny_field h2 h5 h11 ?_);rw[if_neg (by decide)];exact newEntryF hfr hfs hf i (QiH hn) h2 h3 h4 h5 hs h6 h7 h8 h9 h10 h
 ·obtain⟨a,o,d,vs,ds,n,rfl,h2,h3,h4,h5,h6,h7,h8,h9,h10,T,oT,ts,q1,q2,q3,q0,q4,q5,q6,q7,q8⟩:=x
  have hs:1<vs.size:=(Array.getElem?_eq_some_iff.mp q1).1;have hts:3<ts.size:=(Array.getElem?_eq_some_iff.mp q5).1;unfold noteFrame;simp only[hf];refine wpAny_bind (wpAny_field h2 h5 q1 ?_);rw[if_pos (show (Value.ref T != Value.none)=true from by simp)];refine wpAny_bind (wpAny_field q3 q4 q5 ?_);rw[if_neg (show ¬((Value.none==rawInt L)=true) from by simp[rawInt])]
  refine wpAny_bind (wpAny_setField q3 q4 hts ?_);have hd_3:=Obj.data_mapFields q4 (·.setIfInBounds 3 Value.none);have hstT:stab oT=false:=by simp[stab,q4,q0]
  have t1:Tn c f cm h0 s _:=Qj3 (g:=Obj.mapFields (·.setIfInBounds 3 Value.none)) q3 (Obj.isFreed_of_fields hd_3) q6 q7 q8 hstT;have he':(s.heap.update T (Obj.mapFields (·.setIfInBounds 3 Value.none))).get? a=some o:=(Heap.get?_update_other _ _ q2).trans h2;refine newEntryF (s:={s with heap:=s.heap.update T (Obj.mapFields (·.setIfInBounds 3 Value.none))}) hfr hfs hf (t1.inv hh i) (QiH fun b q=>t1.alive b (hn b q)) he' h3 h4 h5 hs h6 h7 h8 (t1.rr _ _ h9) (Cx.repd_mono t1.rr (.refl _) h10) fun s' t x=>h s' (t1.trans t) x
theorem flightF {v:Value} {Q:Unit->Shared->Prop} (hh:∀b,c.h_1.get? b≠none->h0.get? b≠none) (x:ExcF c h0 f.FX cm s.heap (some v) e m) (fl:Option Addr)
  (h:∀s',Tn c f cm h0 s s'->ExcF c h0 f.FX cm s'.heap (some (fl.elim .none fun f=>rawInt f)) e m->Q () s'):wpAny M A (setFlight e fl) Q E s:=by
 obtain⟨a,o,d,vs,ds,n,rfl,h2,h3,h4,h5,h6,h7,h8,h9,h10,T,oT,ts,q1,q2,q3,q0,q4,q5,q6,q7,q8⟩:=x;have hts:3<ts.size:=(Array.getElem?_eq_some_iff.mp q5).1;unfold setFlight;refine wpAny_bind (wpAny_field h2 h5 q1 ?_);rw[if_pos (show (Value.ref T != Value.none)=true from by simp)];refine wpAny_setField q3 q4 hts ?_;have hd_3:=Obj.data_mapFields q4 (·.setIfInBounds 3 (fl.elim Value.none fun f=>rawInt f));have hstT:stab oT=false:=by simp[stab,q4,q0]
 have t1:Tn c f cm h0 s _:=Qj3 (g:=Obj.mapFields (·.setIfInBounds 3 (fl.elim Value.none fun f=>rawInt f))) q3 (Obj.isFreed_of_fields hd_3) q6 q7 q8 hstT;refine h _ t1 ⟨a,o,d,vs,ds,n,rfl,(Heap.get?_update_other _ _ q2).trans h2,h3,h4,h5,h6,h7,h8,t1.rr _ _ h9,Cx.repd_mono t1.rr (.refl _) h10,T,_,_,q1,q2,Heap.get?_update_self _ q3 (Obj.isFreed_of_fields hd_3),(Obj.cls_mapFields _ _).trans q0,hd_3,by simp[hts],q6,q7,q8⟩
theorem leaveF {Q:Unit->Shared->Prop} (hfr:A.frames=some (env::outer)) (hfs:f.fs=env::outer) (hf:env.frame=some L) (i:Inv c f s ρ H cm) (hh:∀b,c.h_1.get? b≠none->h0.get? b≠none) (hn:∀b,h0.get? b≠none->s.heap.get? b≠none) (x:ExcAt c h0 f.FX cm s.heap e m)
  (h:∀s',Tn c f cm h0 s s'->ExcAt c h0 f.FX cm s'.heap e m->Q () s'):wpAny M A (leaving env e) Q E s:=by
 unfold leaving;exact wpAny_bind (noteF hfr hfs hf i hh hn x fun s_1 t_1 x_1=>flightF hh x_1 none fun s_2 t_2 x_2=>h s_2 (t_1.trans t_2) (.inr x_2))
end
end
def plainP (p:Arguments):Bool:=p.posonlyargs.isEmpty&&p.vararg.isNone&&p.kwonlyargs.isEmpty&&p.kwarg.isNone
theorem Qc9 {β:Type}:∀{xs:List Str} {vs:List β} {i:Nat} {x:Str},xs.Nodup->xs[i]?=some x->(xs.zip vs).lookup x=vs[i]?
 | [],_,_,_,_,h=>by simp at h
 | y::xs,[],i,x,_,h=>by simp
 | y::xs,v::vs,0,x,nd,h=>by
  obtain rfl:y=x:=by simpa using h
  simp
 | y::xs,v::vs,i+1,x,nd,h=>by
  have h':xs[i]?=some x:=by simpa using h
  have hm:x∈xs:=List.mem_of_getElem? h';have hne:x≠y:=fun q=>(List.nodup_cons.mp nd).1 (q ▸ hm)
  rw[List.zip_cons_cons,List.lookup_cons];rw[beq_eq_false_iff_ne.mpr hne];simpa using Qc9 (vs:=vs) (List.nodup_cons.mp nd).2 h'
theorem QdK {β:Type} (g:Str->Option β):∀(xs:List Str) (vs:List β),xs.length=vs.length->(∀(i:Nat) x,xs[i]?=some x->g x=vs[i]?)->xs.filterMap (fun n=>(g n).map (n,·))=xs.zip vs
 | [],_,_,_=>rfl
 | x::xs,[],h,_=>by simp at h
 | x::xs,v::vs,h,hg=>by
  have h0:g x=some v:=hg 0 x rfl;rw[List.filterMap_cons,h0,List.zip_cons_cons];dsimp only[Option.map_some];rw[QdK g xs vs (by simpa using h) fun i y e=>hg (i+1) y (by simpa using e)]
theorem Qbv {β:Type} (x:Str):∀(l r:List (Str × β)),(l++r).lookup x=(l.lookup x).or (r.lookup x)
 | [],r=>by simp
 | (y,v)::l,r=>by
  rw[List.cons_append,List.lookup_cons,List.lookup_cons];cases x==y with
  | true=>rfl
  | false=>exact Qbv x l r
theorem Qb6 {β:Type} {p:Str × β->Bool} {x:Str} (hp:∀v,p (x,v)=true):∀(l:List (Str × β)),(l.filter p).lookup x=l.lookup x
 | []=>rfl
 | (y,v)::l=>by
  rw[List.filter_cons,List.lookup_cons];cases h:x==y with
  | true =>
   have e:x=y:=beq_iff_eq.mp h;subst e;rw[if_pos (hp v),List.lookup_cons,h]
  | false =>
   split
   ·rw[List.lookup_cons,h]; exact Qb6 hp l
   ·exact Qb6 hp l
theorem Qd4 (f:Str × Value->List (Str × Value)->Sem (ForInStep (List (Str × Value)))) (hf:∀p s,f p s=if (s.lookup p.1).isNone=true then pure (.yield (s++[(p.1,p.2)])) else pure (.yield s)) :
  ∀(ps:List (Str × Value)) (sl:List (Str × Value)),(ps.map (·.1)).Nodup->forIn ps sl f=pure (sl++ps.filter fun p=>(sl.lookup p.1).isNone)
 | [],sl,_=>by simp
 | p::ps,sl,nd=>by
  have nd':(p.1::ps.map (·.1)).Nodup:=nd;rw[List.forIn_cons,hf];by_cases h:(sl.lookup p.1).isNone=true
  ·rw[if_pos h,pure_bind]
   dsimp only;rw[Qd4 f hf ps _ (List.nodup_cons.mp nd').2,List.filter_cons,if_pos h];have:ps.filter (fun q=>((sl++[(p.1,p.2)]).lookup q.1).isNone)=ps.filter (fun q=>(sl.lookup q.1).isNone):=by
    refine List.filter_congr fun q hq=>?_
    have hne:q.1≠p.1:=fun e=>(List.nodup_cons.mp nd').1 (e ▸ List.mem_map_of_mem hq)
    rw[Qbv,List.lookup_cons,beq_eq_false_iff_ne.mpr hne];simp
   rw[this];simp
  ·rw[if_neg h,pure_bind]
   dsimp only;rw[Qd4 f hf ps _ (List.nodup_cons.mp nd').2,List.filter_cons,if_neg h]
theorem Qj4 {fd:FuncData} {vals:List Value} (hp:plainP fd.params=true) (nd:(fd.params.args.map (·.arg)).Nodup) (hl:vals.length≤fd.params.args.length) :
  ∃k,bindArgs fd ⟨vals,[]⟩=seqItems? fd.defaults >>= k∧∀d:Option (Array Value),(d.getD #[]).toList.length≤fd.params.args.length->fd.params.args.length≤vals.length+(d.getD #[]).toList.length ->
   k d=pure ((fd.params.args.map (·.arg)).zip (vals++(d.getD #[]).toList.drop (vals.length+(d.getD #[]).toList.length-fd.params.args.length))):=by
 simp only[plainP,Bool.and_eq_true,List.isEmpty_iff,Option.isNone_iff_eq_none] at hp;obtain⟨⟨⟨h1,h2⟩,h3⟩,h4⟩:=hp;unfold bindArgs;simp only[h1,h2,h3,h4,List.map_nil,List.nil_append,List.append_nil,List.forIn_nil,pure_bind];refine⟨_,rfl,fun d q1 q2=>?_⟩;generalize (d.getD #[]).toList=ds at q1 q2 ⊢
 have hxl:(fd.params.args.map (·.arg)).length=fd.params.args.length:=by simp
 generalize fd.params.args.map (·.arg)=xs at nd hxl ⊢
 rw[←hxl] at q1 q2 hl ⊢;have e0:∀(i:Nat) x,xs[i]?=some x->(xs.zip vals).lookup x=vals[i]?:=fun i x e=>Qc9 nd e
 have z1:ds.length-xs.length=0:=by omega
 simp only[z1,List.drop_zero];have hg:¬(vals.length>xs.length∧(none:Option Arg).isNone=true):=by omega
 have hm:((xs.take (xs.length-ds.length)).filter fun n=>((xs.zip vals).lookup n).isNone)=[]:=by
  rw[List.filter_eq_nil_iff];intro x hx;obtain⟨i,hi⟩:=List.mem_iff_getElem?.mp hx;have hi1:i<xs.length-ds.length:=by have:=(List.getElem?_eq_some_iff.mp hi).1; simp at this; omega
  have hi2:xs[i]?=some x:=by rw[List.getElem?_take] at hi; simpa[hi1] using hi
  rw[e0 i x hi2];have:i<vals.length:=by omega
  simp[this]
 have hnd2:(((xs.drop (xs.length-ds.length)).zip ds).map (·.1)).Nodup:=by
  rw[List.map_fst_zip (by simp; omega)];exact nd.sublist (List.drop_sublist _ _)
 have hfl:=Qd4 (fun p s=>if (s.lookup p.1).isNone=true then pure (.yield (s++[(p.1,p.2)])) else pure (.yield s)) (fun _ _=>rfl) ((xs.drop (xs.length-ds.length)).zip ds) (xs.zip vals) hnd2;have e2:=QdK (fun n=>((xs.zip vals)++((xs.drop (xs.length-ds.length)).zip ds).filter fun p=>((xs.zip vals).lookup p.1).isNone).lookup n) xs (vals++ds.drop (vals.length+ds.length-xs.length)) (by simp; omega) (fun i x e=>by
  have hi:i<xs.length:=(List.getElem?_eq_some_iff.mp e).1;rw[Qbv,e0 i x e];by_cases hv:i<vals.length
  ·simp[hv,List.getElem?_append_left hv]
  ·have hn:vals[i]?=none:=by simp; omega
   rw[hn,Option.none_or,Qb6 (fun v=>by rw[e0 i x e,hn]; rfl)];have hk:(xs.drop (xs.length-ds.length))[i-(xs.length-ds.length)]?=some x:=by
    rw[List.getElem?_drop,show xs.length-ds.length+(i-(xs.length-ds.length))=i by omega]; exact e
   rw[Qc9 (nd.sublist (List.drop_sublist _ _)) hk,List.getElem?_append_right (by omega),List.getElem?_drop];congr 1;omega)
 simp only[hm,List.isEmpty_nil,Bool.not_true,Bool.false_eq_true,if_false,Bool.and_eq_true,decide_eq_true_eq,Bool.not_eq_true'];rw[if_neg hg]
 erw [hfl]
 simp only[pure_bind,if_true];rw[e2]
section
def flOk (c:Cx) (FX:List Addr) (cm:CM) (h:Heap):Fl->Flow->Prop
 | .next,x=>x=.next
 | .cont,x=>x=.cont
 | .ret v,x=>∃y,x=.ret y∧c.rep FX cm h v y
def SPost (c:Cx) (f:Fm) (s:Shared) (cm:CM) (o:OS) (Q:Flow->Shared->Prop) (E:Value->Shared->Prop):Prop:=match o with
 | .ok fl ρ H=>∀x s' cm',Nx f.FA f.FO s cm s' cm'->Inv c f s' ρ H cm'->flOk c f.FX cm' s'.heap fl x->Q x s'
 | .exc m ρ H=>∀e s' cm',Nx f.FA f.FO s cm s' cm'->Inv c f s' ρ H cm'->ExcAt c s.heap f.FX cm' s'.heap e m->E e s'
 | .stuck=>False
section
variable {c:Cx} {f g:Fm} {s s' s_0 s_1 s_2:Shared} {ρ ρ':List AV} {H H':AH} {cm cm' cm_1 cm_0:CM} {h0:Heap} {A:Around} {M:Model} {E:Value->Shared->Prop} {FX FX':List Addr}
theorem Base.alive (b:Base c FX s H cm):∀a,c.h_1.get? a≠none->s.heap.get? a≠none:=fun a h=>by
 by_cases hg:a=Mine.gh
 ·obtain⟨ps,e,_⟩:=b.tab; rw[hg,e]; nofun
 ·cases e:c.h_1.get? a with
  | none=>exact absurd e h
  | some o=>rw[b.old a o hg e]; nofun
theorem Base.sub (hs:∀a,a∈FX->a∈FX') (b:Base c FX' s H cm):Base c FX s H cm :=
 ⟨b.len,fun j p x e1 e2=>Qap (fun _ _ _ e=>e) (Rr.sub hs) (.refl _) (b.cells j p x e1 e2),fun a h=>b.lo a (h.imp (hs a) id),fun a h=>b.dj a (hs a h),b.nd,b.old,b.gens,b.os,b.tab.mono (fun _ e=>e) (Rr.sub hs)⟩
structure Callee (f g:Fm) (s s_1:Shared) (Z:List Addr):Prop where
 grow:Grow s s_1
 fresh:∀a,a∈g.FA->s.heap.get? a=none∧s_1.heap.get? a≠none
 FO:g.FO=f.FO++f.FA
 FZ:g.FZ=f.FZ++Z
theorem Callee.mem (x:Callee f g s s_1 Z) {a:Addr}:a∈g.FX↔a∈g.FA∨a∈f.FX∨a∈Z:=by
 simp only[Fm.FX,x.FO,x.FZ,List.mem_append];constructor
 ·rintro (h | (h | h) | h | h)
  ·exact .inl h
  ·exact .inr (.inl (.inr (.inl h)))
  ·exact .inr (.inl (.inl h))
  ·exact .inr (.inl (.inr (.inr h)))
  ·exact .inr (.inr h)
 ·rintro (h | (h | h | h) | h)
  ·exact .inl h
  ·exact .inr (.inl (.inr h))
  ·exact .inr (.inl (.inl h))
  ·exact .inr (.inr (.inl h))
  ·exact .inr (.inr (.inr h))
theorem Callee.rr (x:Callee f g s s_1 []):∀a o,Rr f.FX cm s.heap a o->Rr g.FX cm s_1.heap a o:=fun a o ⟨e,st,n1,n2⟩ =>
 ⟨x.grow.keep a o e,st,(fun q=>by
  rcases x.mem.mp q with q | q | q
  ·rw[(x.fresh a q).1] at e; cases e
  ·exact n1 q
  ·cases q),n2⟩
theorem Callee.rrP (x:Callee f g s s_1 (adr cm)):∀a o,Rr f.FX cm s.heap a o->Rr g.FX [] s_1.heap a o:=fun a o ⟨e,st,n1,n2⟩ =>
 ⟨x.grow.keep a o e,st,(fun q=>by
  rcases x.mem.mp q with q | q | q
  ·rw[(x.fresh a q).1] at e; cases e
  ·exact n1 q
  ·exact n2 q),nofun⟩
theorem Base.h1_none (b:Base c FX s H cm) {a:Addr} (h:s.heap.get? a=none):c.h_1.get? a=none:=Decidable.byContradiction fun q=>b.alive a q h
theorem Base.callee (x:Callee f g s s_1 []) (b:Base c f.FX s H cm):Base c g.FX s_1 H cm where
 len:=b.len
 cells j p y e1 e2:=Qap (fun a o _ e=>x.grow.keep a o e) x.rr (.refl _) (b.cells j p y e1 e2)
 lo a h:=by
  rcases h with h | h
  ·rcases x.mem.mp h with h | h | h
   ·exact⟨b.h1_none (x.fresh a h).1,(x.fresh a h).2⟩
   ·exact⟨(b.lo a (.inl h)).1,x.grow.some (b.lo a (.inl h)).2⟩
   ·cases h
  ·exact⟨(b.lo a (.inr h)).1,x.grow.some (b.lo a (.inr h)).2⟩
 dj a h q:=by
  rcases x.mem.mp h with h | h | h
  ·exact (b.lo a (.inr q)).2 (x.fresh a h).1
  ·exact b.dj a h q
  ·cases h
 nd:=b.nd
 old a o n e:=x.grow.keep _ _ (b.old a o n e)
 gens:=x.grow.gens.trans b.gens
 os:=x.grow.os.trans b.os
 tab:=b.tab.mono (fun _ e=>x.grow.keep _ _ e) x.rr
theorem Base.calleeP (x:Callee f g s s_1 (adr cm)) (b:Base c f.FX s H cm):Base c g.FX s_1 [] [] where
 len:=rfl
 cells j p y e1 e2:=by simp at e1
 lo a h:=by
  rcases h with h | h
  ·rcases x.mem.mp h with h | h | h
   ·exact⟨b.h1_none (x.fresh a h).1,(x.fresh a h).2⟩
   ·exact⟨(b.lo a (.inl h)).1,x.grow.some (b.lo a (.inl h)).2⟩
   ·exact⟨(b.lo a (.inr h)).1,x.grow.some (b.lo a (.inr h)).2⟩
  ·cases h
 dj a h q:=by cases q
 nd:=.nil
 old a o n e:=x.grow.keep _ _ (b.old a o n e)
 gens:=x.grow.gens.trans b.gens
 os:=x.grow.os.trans b.os
 tab:=b.tab.mono (fun _ e=>x.grow.keep _ _ e) x.rrP
theorem Callee.dj {Z:List Addr} (x:Callee f g s s_1 Z) (i:Inv c f s ρ H cm) (hZ:∀a,a∈Z->a∈adr cm):(∀a,a∈g.FA->a ∉ g.FO∧a ∉ g.FZ)∧(∀a,a∈g.FO->a ∉ g.FZ):=by
 have b:=i.base;constructor
 ·intro a h
  have hn:=(x.fresh a h).1;rw[x.FO,x.FZ];constructor
  ·intro q
   exact (b.lo a (.inl (Qay ((List.mem_append.mp q).symm)))).2 hn
  ·intro q
   rcases List.mem_append.mp q with q | q
   ·exact (b.lo a (.inl (List.mem_append_right _ (List.mem_append_right _ q)))).2 hn
   ·exact (b.lo a (.inr (hZ a q))).2 hn
 ·intro a h q
  rw[x.FO] at h;rw[x.FZ] at q;have hF:a∈f.FA∨a∈f.FO:=(List.mem_append.mp h).symm;rcases List.mem_append.mp q with q | q
  ·exact hF.elim (fun h=>(i.dj a h).2 q) fun h=>i.dj2 a h q
  ·exact b.dj a (Qay hF) (hZ a q)
theorem Inv.back (x:Callee f g s s_1 []) (i:Inv c f s ρ H cm) (n:Nx g.FA g.FO s_1 cm s' cm') (j:Inv c g s' ρ' H' cm'):Inv c f s' ρ H' cm'∧Nx f.FA f.FO s cm s' cm':=by
 have hFO:∀a,a∈g.FO↔a∈f.FO∨a∈f.FA:=fun a=>by rw[x.FO,List.mem_append]
 have hno:∀a o,s.heap.get? a=some o->a ∉ g.FA:=fun a o e q=>by rw[(x.fresh a q).1] at e; cases e
 have nx:Nx f.FA f.FO s cm s' cm':=⟨fun a o e h0 h1 h2 h3=>n.keep a o (x.grow.keep a o e) h0 (hno a o e) (fun q=>((hFO a).mp q).elim h2 h1) h3,
  fun a o e h=>n.outer a o (x.grow.keep a o e) ((hFO a).mpr (.inl h)),n.cms,fun a h=>by
   rcases n.new a h with h | h | h | h | h
   ·exact .inl h
   ·exact .inr (.inl (Decidable.byContradiction fun q=>x.grow.some q h))
   ·exact .inr (.inr (.inl h))
   ·exact .inr (.inl (x.fresh a h).1)
   ·exact ((hFO a).mp h).elim (fun h=>.inr (.inr (.inr (.inr h)))) fun h=>.inr (.inr (.inr (.inl h))),fun a h=>n.alive a (x.grow.some h)⟩
 exact⟨i.moveS nx (fun a o h e=>n.outer a o (x.grow.keep a o e) ((hFO a).mpr (.inr h))) (j.base.sub fun a h=>x.mem.mpr (.inr (.inl h))),nx⟩
theorem Inv.backP (x:Callee f g s s_1 (adr cm)) (i:Inv c f s ρ H cm) (n:Nx g.FA g.FO s_1 [] s' cm') (j:Inv c g s' ρ' H' cm'):Inv c f s' ρ H cm∧Nx f.FA f.FO s cm s' cm:=by
 have hFO:∀a,a∈g.FO↔a∈f.FO∨a∈f.FA:=fun a=>by rw[x.FO,List.mem_append]
 have hno:∀a o,s.heap.get? a=some o->a ∉ g.FA:=fun a o e q=>by rw[(x.fresh a q).1] at e; cases e
 have nx:Nx f.FA f.FO s cm s' cm:=⟨fun a o e h0 h1 h2 h3=>n.keep a o (x.grow.keep a o e) h0 (hno a o e) (fun q=>((hFO a).mp q).elim h2 h1) nofun,
  fun a o e h=>n.outer a o (x.grow.keep a o e) ((hFO a).mpr (.inl h)),.refl _,fun a h=>.inl h,fun a h=>n.alive a (x.grow.some h)⟩
 have b:=i.base;have hg:∀a,c.h_1.get? a=none->a≠gh:=fun a h q=>c.glow (by rw[←q]; exact h)
 have hR:∀a o,Rr f.FX cm s.heap a o->Rr f.FX cm s'.heap a o:=nx.rr b;refine⟨i.moveS nx (fun a o h e=>n.outer a o (x.grow.keep a o e) ((hFO a).mpr (.inr h))) ⟨b.len,fun j p y e1 e2=>Qap (fun a o ha e=>?_) hR (.refl _) (b.cells j p y e1 e2),fun a h=>⟨(b.lo a h).1,nx.alive a (b.lo a h).2⟩,b.dj,b.nd,j.base.old,j.base.gens,j.base.os,j.base.tab.mono (fun _ e=>e) fun a o ⟨e,st,n1,n2⟩=>⟨e,st,fun q=>n1 (x.mem.mpr (.inr (.inl q))),fun q=>n1 (x.mem.mpr (.inr (.inr q)))⟩⟩,nx⟩;have hm:=QaL e1 ha;exact n.keep a o (x.grow.keep a o e) (hg a (b.lo a (.inr hm)).1) (hno a o e) (fun q=>b.dj a (Qay ((hFO a).mp q).symm) hm) nofun
theorem Callee.rrBack {Z:List Addr} (x:Callee f g s s_1 Z):∀a o,Rr g.FX cm' s'.heap a o->Rr f.FX cm' s'.heap a o:=Rr.sub fun a h=>x.mem.mpr (.inr (.inl h))
theorem Callee.rrBackP (x:Callee f g s s_1 (adr cm)):∀a o,Rr g.FX cm' s'.heap a o->Rr f.FX cm s'.heap a o:=fun a o ⟨e,st,n1,n2⟩ =>
 ⟨e,st,fun q=>n1 (x.mem.mpr (.inr (.inl q))),fun q=>n1 (x.mem.mpr (.inr (.inr q)))⟩
theorem Callee.excP (x:Callee f g s s_1 (adr cm)) {e:Value} {m:AV} (hm:m.nc=true) (r:ExcAt c s_1.heap g.FX cm' s'.heap e m):ExcAt c s.heap f.FX cm s'.heap e m:=by
 have key:∀fl,ExcF c s_1.heap g.FX cm' s'.heap fl e m->ExcF c s.heap f.FX cm s'.heap fl e m:=fun fl r=>by
  have nn:∀{a},s_1.heap.get? a=none->s.heap.get? a=none:=fun {a} q=>Decidable.byContradiction fun z=>x.grow.some z q
  obtain⟨a,o,d,vs,ds,n,h1,h2,h3,h4,h5,h6,h7,h8,h9,h10,h11⟩:=r;refine⟨a,o,d,vs,ds,n,h1,h2,h3,h4,h5,nn h6,fun q=>h7 (x.mem.mpr (.inr (.inl q))),fun q=>h7 (x.mem.mpr (.inr (.inr q))),x.rrBackP _ _ h9,
   Mine.repd_mono x.rrBackP (.refl _) _ _ _ (QfT cm _ _ _ (by simp[AV.ncs,hm]) h10),?_⟩
  cases fl with
  | none=>exact h11
  | some v =>
   obtain⟨T,oT,ts,q1,q2,q3,q0,q4,q5,q6,q7,q8⟩:=h11;exact⟨T,oT,ts,q1,q2,q3,q0,q4,q5,nn q6,fun q=>q7 (x.mem.mpr (.inr (.inl q))),fun q=>q7 (x.mem.mpr (.inr (.inr q)))⟩
 exact r.imp (key _) (key _)
end
end
section
def sigma (xs:List Str):Sl:=xs.zipIdx
theorem QdL {xs:List Str} {x:Str} {k:Nat} (h:(sigma xs).lookup x=some k):xs[k]?=some x:=by
 have:=mem_of_lookup h;rw[sigma,List.mem_zipIdx_iff_getElem?] at this;exact this
def chkR (fd:FuncData) (np ns:Nat) (xs:List Str):Bool :=
 fd.closure.isEmpty&&fd.globals==mainGlobals&&fd.builtins==builtinsNs&&fd.scope.kind==.function&&!fd.scope.isGenerator&&!fd.scope.isCoroutine&&plainP fd.params&&decide xs.Nodup&&decide (xs.length≤ns)&&decide (np≤xs.length) &&
 (fd.params.args.map (·.arg)==xs.take np)&&fd.params.args.length==np&&xs.all (fun x=>fd.scope.names.lookup x==some .local||fd.scope.names.lookup x==some .cell)
theorem Qbc:∀(names:List (Str × NameKind)) (n:Nat) (acc:List (Str × Addr)) (x:Str),(names.lookup x=some .cell∨(acc.lookup x).isSome=true)->((cellsFrom n names acc).lookup x).isSome=true
 | [],_,acc,x,h=>by
  rcases h with h | h
  ·cases h
  ·exact h
 | (y,kd)::r,n,acc,x,h=>by
  unfold cellsFrom;rw[List.lookup_cons] at h;cases hx:x==y with
  | true =>
   rw[hx] at h;rcases h with h | h
   ·cases h
    exact Qbc r (n+1) _ x (.inr (by rw[List.lookup_cons,hx]; rfl))
   ·split
    ·exact Qbc r (n+1) _ x (.inr (by rw[List.lookup_cons,hx]; rfl))
    ·exact Qbc r n _ x (.inr h)
  | false =>
   rw[hx] at h;split
   ·exact Qbc r (n+1) _ x (h.imp id fun h=>by rw[List.lookup_cons,hx]; exact h)
   ·exact Qbc r n _ x h
theorem QgV {ko:Str->Option NameKind} {x:Str} (hx:ko x=some .local):∀(bs:List (Str × Value)) (m:Str->Option Value),(bs.map (·.1)).Nodup->bindL ko bs m x=(bs.lookup x).or (m x)
 | [],m,_=>by simp[bindL]
 | (y,v)::r,m,nd=>by
  have nd':(y::r.map (·.1)).Nodup:=nd;rw[bindL,QgV hx r _ (List.nodup_cons.mp nd').2,List.lookup_cons];cases h:x==y with
  | true =>
   have e:=beq_iff_eq.mp h;subst e;rw[if_pos hx];have:r.lookup x=none:=by
    cases q:r.lookup x with
    | none=>rfl
    | some v'=>exact absurd (List.mem_map_of_mem (f:=(·.1)) (mem_of_lookup q)) (List.nodup_cons.mp nd').1
   rw[this]; simp
  | false =>
   have hne:x≠y:=fun q=>by rw[q] at h; simp at h
   split
   ·simp[hne]
   ·rfl
theorem QgW {ko:Str->Option NameKind} {x:Str} (hx:ko x≠some .local):∀(bs:List (Str × Value)) (m:Str->Option Value),(bs.map (·.1)).Nodup->bindC ko bs m x=(bs.lookup x).or (m x)
 | [],m,_=>by simp[bindC]
 | (y,v)::r,m,nd=>by
  have nd':(y::r.map (·.1)).Nodup:=nd;rw[bindC,QgW hx r _ (List.nodup_cons.mp nd').2,List.lookup_cons];cases h:x==y with
  | true =>
   have e:=beq_iff_eq.mp h;subst e;rw[if_neg hx];have:r.lookup x=none:=by
    cases q:r.lookup x with
    | none=>rfl
    | some v'=>exact absurd (List.mem_map_of_mem (f:=(·.1)) (mem_of_lookup q)) (List.nodup_cons.mp nd').1
   rw[this]; simp
  | false =>
   have hne:x≠y:=fun q=>by rw[q] at h; simp at h
   split
   ·rfl
   ·simp[hne]
def cellAddrs (cs:List (Str × Addr)) (xs:List Str):List Addr:=xs.filterMap fun x=>cs.lookup x
section
variable {c:Cx} {f g:Fm} {s s' s_0 s_1 s_2:Shared} {ρ ρ':List AV} {H H':AH} {cm cm' cm_1 cm_0:CM} {A:Around} {M:Model} {E:Value->Shared->Prop}
theorem QlT {fd:FuncData} {np ns:Nat} {xs:List Str} {L r:Addr} {FO:List Addr} (h:chkR fd np ns xs=true) {m cmm:Str->Option Value} {s_1:Shared} (x:InCallC s (callEnvC fd L r).locals m (callEnvC fd L r).cells cmm s_1) :
  EnvS (callEnvC fd L r) fd.scope.names (sigma xs) (fun _=>true) (L::cellAddrs (callEnvC fd L r).cells xs) FO:=by
 simp only[chkR,Bool.and_eq_true,beq_iff_eq,decide_eq_true_eq,List.all_eq_true,Bool.or_eq_true] at h;obtain⟨⟨⟨⟨⟨⟨⟨⟨⟨⟨⟨⟨h1,h2⟩,h3⟩,h4⟩,h5⟩,h6⟩,h7⟩,h8⟩,h9⟩,h10⟩,h11⟩,h12⟩,h13⟩:=h;refine⟨rfl,h4,h2,h3,.head _,fun a b cc e1 e2=>name_of_addr x.apart (mem_of_lookup e1) (mem_of_lookup e2),fun y k kd e1 e2 e3=>?_,fun y z k ky kz e1 e2 _ _=>?_⟩
 ·have hy:=QdL e1
  have hm:=List.mem_of_getElem? hy;have hk:=h13 y hm;rw[e2] at hk;have hc:kd=.cell:=by
   rcases e3 with e3 | e3
   ·exact e3
   ·subst e3; simp at hk
  subst hc;obtain⟨cc,hcc⟩:=Option.isSome_iff_exists.mp (Qbc fd.scope.names (L+1) [] y (.inl e2));have hcc':(callEnvC fd L r).cells.lookup y=some cc:=hcc;have hab:=x.above y cc (mem_of_lookup hcc');have hin:cc∈L::cellAddrs (callEnvC fd L r).cells xs:=.tail _ (List.mem_filterMap.mpr ⟨y,hm,hcc'⟩);exact⟨cc,hcc',Nat.ne_of_gt hab,.inl hin,fun _=>hin⟩
 ·have a:=QdL e1
  have b:=QdL e2;rw[a] at b;exact Option.some.inj b
theorem Qfu {FX:List Addr} {h:Heap}:∀k,c.reps FX cm h (List.replicate k .none) (List.replicate k .none)
 | 0=>rfl
 | k+1=>⟨.none,List.replicate k .none,rfl,rfl,Qfu k⟩
structure RoomY (fs:List Env) (A:Around) (x y:Nat):Prop where
 hh:A.handled=none
 depth:A.depth+x≤900
 units:A.units+y≤9000
 frames:A.frames=some fs
abbrev RoomX (f:Fm) (A:Around) (x y:Nat):Prop:=RoomY f.fs A x y
structure Cal (g:Fm) (s s_1:Shared) (FO FZ:List Addr):Prop where
 grow:Grow s s_1
 fresh:∀a,a∈g.FA->s.heap.get? a=none∧s_1.heap.get? a≠none
 FO:g.FO=FO
 FZ:g.FZ=FZ
theorem RoomC.toX {n:Nat} (r:RoomC f A (n+1)):RoomX f A (3*n+10+1) (40*n+100+3):=⟨r.hh,by have:=r.depth; omega,by have:=r.units; omega,r.frames⟩
theorem RoomX.toR {n:Nat} (r:RoomX f A (3*n+10) (40*n+100)):Room f A n:=⟨r.hh,by have:=r.depth; omega,by have:=r.units; omega,r.frames⟩
theorem QgX {fd:FuncData} {d:FD} {xs:List Str} {r:Addr} {kd rx ry:Nat} {as:List AV} {vals:List Value} {FO FZ:List Addr} {fs:List Env} {P:Env->Shared->Prop} {Ex:Value->Shared->Prop} {A':Around} (hc:chkR fd d.np d.ns xs=true)
  (hdf:d.dflt=List.replicate kd .none) (hkd:kd≤d.np)
  (hdv:(fd.defaults=.none∧kd=0)∨∃T oT m,fd.defaults=.ref T∧s.heap.get? T=some oT∧oT.data=.seq (List.replicate kd Value.none).toArray m)
  (rm:RoomY fs A (rx+1) (ry+3)) (nl:s.heap.NoLimit) (hvl:vals.length=as.length) (hf:d.frame as=some ρ')
  (hfs:∀e∈fs,e.scope.kind≠.module∧∃L o,e.frame=some L∧s.heap.get? L=some o∧(∀vs,o.data≠.fields vs)∧L∈FO)
  (hB:∀g s_1,Cal g s s_1 FO FZ->Base c g.FX s_1 H' cm'∧c.reps g.FX cm' s_1.heap as vals∧(∀a,a∈g.FA->a ∉ g.FO∧a ∉ g.FZ)∧(∀a,a∈g.FO->a ∉ g.FZ))
  (h:∀g s_1,Cal g s s_1 FO FZ->g.sc=fd.scope.names->g.σ=sigma xs->g.ow=(fun _=>true)->g.fs=g.env::fs->g.env.frame=some g.env.locals->(g.env.code=fd.code∧g.env.qual=fd.qualname++".<locals>.")->Inv c g s_1 ρ' H' cm'->RoomX g (A.deeper g.env) rx ry->P g.env s_1) :
  wpAny (model P0 c.w) A' (bindArgs fd ⟨vals,[]⟩) (fun binds s_1=>wpAny (model P0 c.w) A' (newFunctionEnv fd.scope fd.globals fd.closure binds (fd.qualname++".<locals>.") (some r) fd.code none fd.builtins)
    (fun env s_2=>s_2.heap.NoLimit∧P env s_2) Ex s_1) Ex s:=by
 have hc':=hc;simp only[chkR,Bool.and_eq_true,beq_iff_eq,decide_eq_true_eq,List.all_eq_true,Bool.or_eq_true] at hc';obtain⟨⟨⟨⟨⟨⟨⟨⟨⟨⟨⟨⟨h1,h2⟩,h3⟩,h4⟩,h5⟩,h6⟩,h7⟩,h8⟩,h9⟩,h10⟩,h11⟩,h12⟩,h13⟩:=hc';unfold FD.frame at hf;split at hf
 ·rename_i hlen
  cases hf;rw[hdf] at hlen;simp only[List.length_replicate] at hlen;have hxt:(xs.take d.np).length=d.np:=by simp; omega
  have ndp:(fd.params.args.map (·.arg)).Nodup:=by rw[h11]; exact h8.sublist (List.take_sublist _ _)
  obtain⟨k,hk1,hk2⟩:=Qj4 (vals:=vals) h7 ndp (by omega);have hbind:BindsTo s fd ⟨vals,[]⟩ ((xs.take d.np).zip (vals++List.replicate (as.length+kd-d.np |> fun z=>kd-z) Value.none)):=by
   rcases hdv with ⟨q1,q2⟩ | ⟨T,oT,m,q1,q2,q3⟩
   ·have q:=hk2 none (by simp) (by simp; omega)
    refine BindsTo.of_eq ?_;rw[hk1,q1];show k none=_;rw[q,h11];simp[q2]
   ·have q:=hk2 (some (List.replicate kd Value.none).toArray) (by simp; omega) (by simp; omega)
    refine BindsTo.of_defaults q1 q2 q3 hk1 ?_;rw[q,h11];simp only[Option.getD_some,List.length_replicate,List.drop_replicate];rw[hvl,h12]
  generalize hW:vals++List.replicate (as.length+kd-d.np |> fun z=>kd-z) Value.none=W at hbind
  have hWl:W.length=d.np:=by rw[←hW]; simp; omega
  refine hbind _ _ _ _ ?_;rw[List.isEmpty_iff.mp h1];have hfst:((xs.take d.np).zip W).map (·.1)=xs.take d.np:=List.map_fst_zip (by rw[hxt,hWl]; exact Nat.le_refl _);have hin:∀y∈(xs.take d.np).zip W,y.1∈xs:=fun y hy=>List.mem_of_mem_take (List.of_mem_zip hy).1
  refine wpAny_newFunctionEnv_cells h4 (fun y hy=>?_) fun env he s_1 x=>?_
  ·rcases h13 y.1 (hin y hy) with q | q
   ·exact .inl q
   ·exact .inr ⟨q,Qbc _ _ _ _ (.inl q)⟩
  ·have he':env=callEnvC fd s.heap.objs.size r:=he
   subst he';refine⟨nl.keeps x.toInCall.keep,?_⟩
   let g:Fm:={env:=callEnvC fd s.heap.objs.size r,sc:=fd.scope.names,σ:=sigma xs,ow:=fun _=>true,FA:=s.heap.objs.size::cellAddrs (callEnvC fd s.heap.objs.size r).cells xs,FO:=FO,FZ:=FZ,fs:=callEnvC fd s.heap.objs.size r::fs,ok:=QlT hc x}
   have cal:Cal g s s_1 FO FZ:=by
    refine⟨?_,fun a ha=>?_,rfl,rfl⟩
    ·obtain⟨hh,tk,e⟩:=x.toInCall.same
     exact⟨x.toInCall.keep,by rw[e],by rw[e]⟩
    ·rcases List.mem_cons.mp ha with ha | ha
     ·subst ha
      obtain⟨o',_,_,e,_⟩:=x.toInCall.ns;exact⟨Qai _,by show s_1.heap.get? (callEnvC fd s.heap.objs.size r).locals≠none; rw[e]; nofun⟩
     ·obtain⟨y,_,hy⟩:=List.mem_filterMap.mp ha
      obtain⟨o',e,_⟩:=x.cell y a hy;exact⟨Heap.get?_none_of_le (Nat.le_of_lt (x.above y a (mem_of_lookup hy))),by rw[e]; nofun⟩
   obtain⟨hbase,hreps,hdj⟩:=hB g s_1 cal;have rW:c.reps g.FX cm' s_1.heap (as++List.replicate (as.length+kd-d.np |> fun z=>kd-z) .none) W:=by
    rw[←hW];exact QbN hreps (Qfu _)
   have hρ:as++List.drop (as.length+d.dflt.length-d.np) d.dflt=as++List.replicate (as.length+kd-d.np |> fun z=>kd-z) .none:=by
    rw[hdf]; simp
   rw[hρ] at h;have slot:∀y k,(sigma xs).lookup y=some k->∀av,(as++List.replicate (as.length+kd-d.np |> fun z=>kd-z) AV.none++List.replicate (d.ns-d.np) .unset)[k]?=some av->av≠.unset->∃v,((xs.take d.np).zip W).lookup y=some v∧c.rep g.FX cm' s_1.heap av v:=by
    intro y k e1 av e2 hav;have hy:=QdL e1;have hl2:(as++List.replicate (as.length+kd-d.np |> fun z=>kd-z) AV.none).length=d.np:=by simp; omega
    by_cases hkn:k<d.np
    ·rw[List.getElem?_append_left (by rw[hl2]; exact hkn)] at e2
     obtain⟨v,hv,rv⟩:=QfS rW e2;refine⟨v,?_,rv⟩;rw[Qc9 (i:=k) (h8.sublist (List.take_sublist _ _)) (by rw[List.getElem?_take]; simp[hkn,hy])];exact hv
    ·rw[List.getElem?_append_right (by rw[hl2]; omega)] at e2
     rw[List.getElem?_replicate] at e2;split at e2
     ·cases e2; exact absurd rfl hav
     ·cases e2
   refine h g s_1 cal rfl rfl rfl rfl rfl ⟨rfl,rfl⟩ ⟨hbase,hdj.1,hdj.2,?_,?_,?_⟩ ⟨rm.hh,?_,?_,?_⟩
   ·refine⟨_,x.toInCall.ns,fun y k e1 e2 av e3 e4=>?_⟩
    obtain⟨v,hv,rv⟩:=slot y k e1 av e3 e4;refine⟨v,?_,rv⟩;rw[QgV (ko:=(callEnvC fd s.heap.objs.size r).kindOf) e2 _ _ (by rw[hfst]; exact h8.sublist (List.take_sublist _ _)),hv];rfl
   ·intro y k kdd a e1 e2 e3 e4
    obtain⟨o',e5,e6⟩:=x.cell y a e4;refine⟨o',_,e5,e6,fun av e7 e8=>?_⟩;obtain⟨v,hv,rv⟩:=slot y k e1 av e7 e8;refine⟨v,?_,rv⟩;have hnl:(callEnvC fd s.heap.objs.size r).kindOf y≠some .local:=by
     have e2':(callEnvC fd s.heap.objs.size r).kindOf y=some kdd:=e2;rw[e2']; rcases e3 with rfl | rfl<;>simp
    rw[QgW hnl _ _ (by rw[hfst]; exact h8.sublist (List.take_sublist _ _)),hv];rfl
   ·intro e he
    rcases List.mem_cons.mp he with he | he
    ·subst he
     obtain⟨o',es,ep,e,hdd,_⟩:=x.toInCall.ns;refine⟨by show fd.scope.kind≠_; rw[h4]; nofun,s.heap.objs.size,o',rfl,e,(fun vs q=>by rw[hdd] at q; cases q),.inl (.head _)⟩
    ·obtain⟨q1,L,o',q2,q3,q4,q5⟩:=hfs e he
     exact⟨q1,L,o',q2,cal.grow.keep _ _ q3,q4,.inr q5⟩
   ·have:=rm.depth; show A.depth+1+_≤_; omega
   ·have:=rm.units; show A.units+3+_≤_; omega
   ·exact Around.frames_deeper rm.frames
 ·cases hf
theorem QgY {fd:FuncData} {d:FD} {xs:List Str} {r:Addr} {kd rx ry:Nat} {as:List AV} {vals:List Value} {Z:List Addr} {P:Env->Shared->Prop} {Ex:Value->Shared->Prop} {A':Around} (hc:chkR fd d.np d.ns xs=true)
  (hdf:d.dflt=List.replicate kd .none) (hkd:kd≤d.np)
  (hdv:(fd.defaults=.none∧kd=0)∨∃T oT m,fd.defaults=.ref T∧s.heap.get? T=some oT∧oT.data=.seq (List.replicate kd Value.none).toArray m)
  (rm:RoomX f A (rx+1) (ry+3)) (i:Inv c f s ρ H cm) (ra:c.reps f.FX cm s.heap as vals) (hf:d.frame as=some ρ')
  (hZ:∀a,a∈Z->a∈adr cm) (hB:∀g s_1,Callee f g s s_1 Z->Base c g.FX s_1 H' cm'∧c.reps g.FX cm' s_1.heap as vals)
  (h:∀g s_1,Callee f g s s_1 Z->g.sc=fd.scope.names->g.σ=sigma xs->g.ow=(fun _=>true)->g.fs=g.env::f.fs->g.env.frame=some g.env.locals->(g.env.code=fd.code∧g.env.qual=fd.qualname++".<locals>.")->Inv c g s_1 ρ' H' cm'->RoomX g (A.deeper g.env) rx ry->P g.env s_1) :
  wpAny (model P0 c.w) A' (bindArgs fd ⟨vals,[]⟩) (fun binds s_1=>wpAny (model P0 c.w) A' (newFunctionEnv fd.scope fd.globals fd.closure binds (fd.qualname++".<locals>.") (some r) fd.code none fd.builtins)
    (fun env s_2=>s_2.heap.NoLimit∧P env s_2) Ex s_1) Ex s:= QgX (FO:=f.FO++f.FA) (FZ:=f.FZ++Z) hc hdf hkd hdv rm i.base.nolim (Qan ra) hf
  (fun e he=>let ⟨q1,L,o',q2,q3,q4,q5⟩:=i.frs e he; ⟨q1,L,o',q2,q3,q4,List.mem_append.mpr q5.symm⟩)
  (fun g s_1 cal=>have cal':Callee f g s s_1 Z:=⟨cal.grow,cal.fresh,cal.FO,cal.FZ⟩; ⟨(hB g s_1 cal').1,(hB g s_1 cal').2,cal'.dj i hZ⟩)
  fun g s_1 cal=>h g s_1 ⟨cal.grow,cal.fresh,cal.FO,cal.FZ⟩
theorem QiI {fd:FuncData} {d:FD} {xs:List Str} {r:Addr} {kd n:Nat} {as:List AV} {vals:List Value} {Z:List Addr} {P:Env->Shared->Prop} {Ex:Value->Shared->Prop} {A':Around} (hc:chkR fd d.np d.ns xs=true)
  (hdf:d.dflt=List.replicate kd .none) (hkd:kd≤d.np)
  (hdv:(fd.defaults=.none∧kd=0)∨∃T oT m,fd.defaults=.ref T∧s.heap.get? T=some oT∧oT.data=.seq (List.replicate kd Value.none).toArray m)
  (rm:RoomC f A (n+1)) (i:Inv c f s ρ H cm) (ra:c.reps f.FX cm s.heap as vals) (hf:d.frame as=some ρ')
  (hZ:∀a,a∈Z->a∈adr cm) (hB:∀g s_1,Callee f g s s_1 Z->Base c g.FX s_1 H' cm'∧c.reps g.FX cm' s_1.heap as vals)
  (h:∀g s_1,Callee f g s s_1 Z->g.sc=fd.scope.names->g.σ=sigma xs->g.ow=(fun _=>true)->g.fs=g.env::f.fs->g.env.frame=some g.env.locals->(g.env.code=fd.code∧g.env.qual=fd.qualname++".<locals>.")->Inv c g s_1 ρ' H' cm'->Room g (A.deeper g.env) n->P g.env s_1) :
  wpAny (model P0 c.w) A' (bindArgs fd ⟨vals,[]⟩) (fun binds s_1=>wpAny (model P0 c.w) A' (newFunctionEnv fd.scope fd.globals fd.closure binds (fd.qualname++".<locals>.") (some r) fd.code none fd.builtins)
    (fun env s_2=>s_2.heap.NoLimit∧P env s_2) Ex s_1) Ex s:= QgY hc hdf hkd hdv rm.toX i ra hf hZ hB fun g s_1 a1 a2 a3 a4 a5 a6 a7 a8 a9=>h g s_1 a1 a2 a3 a4 a5 a6 a7 a8 a9.toR
structure DefOk (s:Shared) (fd:FuncData) (d:FD) (xs:List Str) (kd:Nat):Prop where
 chk:chkR fd d.np d.ns xs=true
 code:s.heap.CodeRec fd.code fd.qualname
 df:d.dflt=List.replicate kd .none
 le:kd≤d.np
 dv:(fd.defaults=.none∧kd=0)∨∃T oT m,fd.defaults=.ref T∧s.heap.get? T=some oT∧oT.data=.seq (List.replicate kd Value.none).toArray m
theorem QcM {fd:FuncData} {np ns:Nat} {xs:List Str} (h:chkR fd np ns xs=true):fd.scope.isCoroutine=false∧fd.scope.isGenerator=false:=by
 simp only[chkR,Bool.and_eq_true,Bool.not_eq_true'] at h;exact⟨h.1.1.1.1.1.1.1.2,h.1.1.1.1.1.1.1.1.2⟩
theorem Qjq {fd:FuncData} {body:List Stmt} {d:FD} {xs:List Str} {r:Addr} {o:Obj} {kd rx ry:Nat} {as:List AV} {vals:List Value} {Z:List Addr} {R:Result->Shared->Prop} (dk:DefOk s fd d xs kd)
  (ho:s.heap.get? r=some o) (hd:o.data=.func fd) (hb:fd.body=.stmts body)
  (rm:RoomX f A (rx+1) (ry+3)) (i:Inv c f s ρ H cm) (ra:c.reps f.FX cm s.heap as vals) (hf:d.frame as=some ρ')
  (hZ:∀a,a∈Z->a∈adr cm) (hB:∀g s_1,Callee f g s s_1 Z->Base c g.FX s_1 H' cm'∧c.reps g.FX cm' s_1.heap as vals)
  (h:∀g s_1,Callee f g s s_1 Z->g.sc=fd.scope.names->g.σ=sigma xs->g.ow=(fun _=>true)->g.fs=g.env::f.fs->g.env.frame=some g.env.locals->(g.env.code=fd.code∧g.env.qual=fd.qualname++".<locals>.")->Inv c g s_1 ρ' H' cm'->RoomX g (A.deeper g.env) rx ry ->
   wpAny (model P0 c.w) (A.deeper g.env) (execs body g.env) (fun fl s'=>R (.ok (.ret (match fl with | .ret v=>v | _=>.none))) s')
    (fun e s'=>wpAny (model P0 c.w) (A.deeper g.env) (leaving g.env e) (fun _ s''=>R (.error e) s'') (fun e' s''=>R (.error e') s'') s') s_1) :
  codeAny (model P0 c.w) A (.call (.ref r) ⟨vals,[]⟩) R s :=
 codeAny_call_function (by have:=rm.depth; simp[recursionLimit]; omega) ho hd (QcM dk.chk).1 (QcM dk.chk).2 hb dk.code
  (QgY dk.chk dk.df dk.le dk.dv rm i ra hf hZ hB fun g s_1 a1 a2 a3 a4 a5 a6 a7 a8 a9=>codeAny_func (h g s_1 a1 a2 a3 a4 a5 a6 a7 a8 a9))
theorem QgZ {fd:FuncData} {body:List Stmt} {d:FD} {xs:List Str} {r:Addr} {o:Obj} {kd n:Nat} {as:List AV} {vals:List Value} {Z:List Addr} {R:Result->Shared->Prop} (dk:DefOk s fd d xs kd)
  (ho:s.heap.get? r=some o) (hd:o.data=.func fd) (hb:fd.body=.stmts body)
  (rm:RoomC f A (n+1)) (i:Inv c f s ρ H cm) (ra:c.reps f.FX cm s.heap as vals) (hf:d.frame as=some ρ')
  (hZ:∀a,a∈Z->a∈adr cm) (hB:∀g s_1,Callee f g s s_1 Z->Base c g.FX s_1 H' cm'∧c.reps g.FX cm' s_1.heap as vals)
  (h:∀g s_1,Callee f g s s_1 Z->g.sc=fd.scope.names->g.σ=sigma xs->g.ow=(fun _=>true)->g.fs=g.env::f.fs->g.env.frame=some g.env.locals->(g.env.code=fd.code∧g.env.qual=fd.qualname++".<locals>.")->Inv c g s_1 ρ' H' cm'->Room g (A.deeper g.env) n ->
   wpAny (model P0 c.w) (A.deeper g.env) (execs body g.env) (fun fl s'=>R (.ok (.ret (match fl with | .ret v=>v | _=>.none))) s')
    (fun e s'=>wpAny (model P0 c.w) (A.deeper g.env) (leaving g.env e) (fun _ s''=>R (.error e) s'') (fun e' s''=>R (.error e') s'') s') s_1) :
  codeAny (model P0 c.w) A (.call (.ref r) ⟨vals,[]⟩) R s :=
 codeAny_call_function (by have:=rm.depth; simp[recursionLimit]; omega) ho hd (QcM dk.chk).1 (QcM dk.chk).2 hb dk.code
  (QiI dk.chk dk.df dk.le dk.dv rm i ra hf hZ hB fun g s_1 a1 a2 a3 a4 a5 a6 a7 a8 a9=>codeAny_func (h g s_1 a1 a2 a3 a4 a5 a6 a7 a8 a9))
theorem QlU {fd:FuncData} {body:PySem.Expr} {d:FD} {xs:List Str} {r:Addr} {o:Obj} {kd n:Nat} {as:List AV} {vals:List Value} {Z:List Addr} {R:Result->Shared->Prop} (dk:DefOk s fd d xs kd)
  (ho:s.heap.get? r=some o) (hd:o.data=.func fd) (hb:fd.body=.expr body)
  (rm:RoomC f A (n+1)) (i:Inv c f s ρ H cm) (ra:c.reps f.FX cm s.heap as vals) (hf:d.frame as=some ρ')
  (hZ:∀a,a∈Z->a∈adr cm) (hB:∀g s_1,Callee f g s s_1 Z->Base c g.FX s_1 H' cm'∧c.reps g.FX cm' s_1.heap as vals)
  (h:∀g s_1,Callee f g s s_1 Z->g.sc=fd.scope.names->g.σ=sigma xs->g.ow=(fun _=>true)->g.fs=g.env::f.fs->g.env.frame=some g.env.locals->(g.env.code=fd.code∧g.env.qual=fd.qualname++".<locals>.")->Inv c g s_1 ρ' H' cm'->Room g (A.deeper g.env) n ->
   wpAny (model P0 c.w) (A.deeper g.env) (eval body g.env) (fun v s'=>R (.ok (.ret v)) s')
    (fun e s'=>wpAny (model P0 c.w) (A.deeper g.env) (leaving g.env e) (fun _ s''=>R (.error e) s'') (fun e' s''=>R (.error e') s'') s') s_1) :
  codeAny (model P0 c.w) A (.call (.ref r) ⟨vals,[]⟩) R s :=
 kla_callFunE (by have:=rm.depth; simp[recursionLimit]; omega) ho hd (QcM dk.chk).1 (QcM dk.chk).2 hb dk.code
  (QiI dk.chk dk.df dk.le dk.dv rm i ra hf hZ hB fun g s_1 a1 a2 a3 a4 a5 a6 a7 a8 a9=>kla_codeExpr (h g s_1 a1 a2 a3 a4 a5 a6 a7 a8 a9))
end
end
section
structure OSnd (c:Cx) (n:Nat) (C:Orc):Prop where
 f:∀fa as H f A,RoomC f A n->∀ρ s cm vals,Inv c f s ρ H cm->c.reps f.FX cm s.heap as vals->∀R:Result->Shared->Prop,
  EPost c f ρ s cm (C.f fa as H) (fun v s'=>R (.ok (.ret v)) s') (fun e s'=>R (.error e) s')->codeAny (model P0 c.w) A (.call (.ref fa) ⟨vals,[]⟩) R s
 l:∀k as H f A,RoomC f A n->∀ρ s cm vals r,Inv c f s ρ H cm->c.rep f.FX cm s.heap (.lam k) (.ref r)->c.reps f.FX cm s.heap as vals->∀R:Result->Shared->Prop,
  EPost c f ρ s cm (C.l k as H) (fun v s'=>R (.ok (.ret v)) s') (fun e s'=>R (.error e) s')->codeAny (model P0 c.w) A (.call (.ref r) ⟨vals,[]⟩) R s
 k:∀fa as H,C.f fa as H≠.stuck->∃o fd,(KX c.w.params).lookup fa=some o∧o.data=.func fd
def BodyOk (c:Cx) (n:Nat) (C:Orc) (sc:Sc) (σ:Sl) (code:Value) (qual:Str) (b:List PS) (body:List Stmt):Prop :=
 ∀g:Fm,g.sc=sc->g.σ=σ->g.ow=(fun _=>true)->(g.env.code=code∧g.env.qual=qual)->g.env.frame=some g.env.locals->(∃r,g.fs=g.env::r)->∀A,Room g A n->∀ρ s H cm,Inv c g s ρ H cm->∀Q E,SPost c g s cm (evSs C b ρ H) Q E->wpAny (model P0 c.w) A (execs body g.env) Q E s
structure FunK (P:Params) (fa:Nat) (d:FD) (fd:FuncData) (body:List Stmt) (xs:List Str) (kd:Nat):Prop where
 o:∃o,(KX P).lookup fa=some o∧o.data=.func fd
 b:fd.body=.stmts body
 chk:chkR fd d.np d.ns xs=true
 code:∃c' oc vs t,fd.code=.ref c'∧(KX P).lookup c'=some oc∧oc.data=.fields vs∧vs[1]?=some (.str fd.qualname t)
 df:d.dflt=List.replicate kd .none
 le:kd≤d.np
 dv:(fd.defaults=.none∧kd=0)∨∃T oT m,fd.defaults=.ref T∧(KX P).lookup T=some oT∧oT.data=.seq (List.replicate kd Value.none).toArray m
theorem FunK.def {c:Cx} {fa:Nat} {d:FD} {fd:FuncData} {body:List Stmt} {xs:List Str} {kd:Nat} (x:FunK c.w.params fa d fd body xs kd) {s:Shared} (X:(KX c.w.params).In s.heap):DefOk s fd d xs kd where
 chk:=x.chk
 code:=let ⟨c',oc,vs,t,e1,e2,e3,e4⟩:=x.code; ⟨c',oc,vs,t,e1,X _ _ e2,e3,e4⟩
 df:=x.df
 le:=x.le
 dv:=x.dv.imp id fun ⟨T,oT,m,e1,e2,e3⟩=>⟨T,oT,m,e1,X _ _ e2,e3⟩
structure Tabs (c:Cx) (T:Nat->Option (Bool × FD)) (U:Nat->Option FD):Prop where
 f:∀fa p d,T fa=some (p,d)->∃fd body xs kd,FunK c.w.params fa d fd body xs kd∧∀n C,OSnd c n C->BodyOk c n C fd.scope.names (sigma xs) fd.code (fd.qualname++".<locals>.") d.body body
 l:∀k d,U k=some d->∀fd,c.LO k fd->∃e pe xs,fd.body=.expr e∧d.body=[.ret pe]∧chkR fd d.np d.ns xs=true∧d.dflt=[]∧fd.defaults=.none ∧
  ∀n C,OSnd c n C->∀g:Fm,g.sc=fd.scope.names->g.σ=sigma xs->EvOk c n C pe g e
section
variable {c:Cx} {f g:Fm} {s s' s_0 s_1 s_2:Shared} {ρ ρ':List AV} {H H':AH} {cm cm' cm_1 cm_0:CM} {A:Around} {R:Result->Shared->Prop}
theorem Fl.val {FX:List Addr} {fl:Fl} {x:Flow} {h:Heap} (hf:flOk c FX cm h fl x):∃v,(OS.ok fl ρ H).out=.ok v H∧c.rep FX cm h v (match (motive:=Flow->Value) x with | .ret v=>v | _=>.none):=by
 cases fl with
 | next=>cases hf; exact⟨.none,rfl,rfl⟩
 | cont=>cases hf; exact⟨.none,rfl,rfl⟩
 | ret v=>obtain⟨y,rfl,r⟩:=hf; exact⟨v,rfl,r⟩
theorem QlV (x:Callee f g s s_1 []) (hfs:g.fs=g.env::f.fs) (hfr:g.env.frame=some g.env.locals) (i:Inv c f s ρ H cm) (i_1:Inv c g s_1 ρ' H cm) (rm:(A.deeper g.env).frames=some g.fs) {o:OS}
  (p:EPost c f ρ s cm o.out (fun v s'=>R (.ok (.ret v)) s') (fun e s'=>R (.error e) s')) :
  SPost c g s_1 cm o (fun fl s'=>R (.ok (.ret (match fl with | .ret v=>v | _=>.none))) s')
    (fun e s'=>wpAny (model P0 c.w) (A.deeper g.env) (leaving g.env e) (fun _ s''=>R (.error e) s'') (fun e' s''=>R (.error e') s'') s'):=by
 cases o with
 | ok fl ρ_2 H_2 =>
  intro y s' cm' nx iv hfl;obtain⟨v,e,r⟩:=Fl.val (ρ:=ρ_2) (H:=H_2) hfl;rw[e] at p;obtain⟨b1,b2⟩:=Inv.back x i nx iv;exact p _ s' cm' b2 b1 (Cx.rep_mono x.rrBack (.refl _) r)
 | exc m ρ_2 H_2 =>
  intro e s' cm' nx iv ex;have hh:∀b,c.h_1.get? b≠none->s_1.heap.get? b≠none:=i_1.base.alive;refine leaveF (rm.trans (congrArg some hfs)) hfs hfr iv hh nx.alive ex fun s'' tn ex''=>?_
  obtain⟨b1,b2⟩:=Inv.back x i (tn.nx nx) (tn.inv hh iv);exact p e s'' cm' b2 b1 ((ex''.sub fun a h=>x.mem.mpr (.inr (.inl h))).older fun _=>x.grow.some)
 | stuck=>exact p.elim
theorem Qg0 (x:Callee f g s s_1 (adr cm)) (hfs:g.fs=g.env::f.fs) (hfr:g.env.frame=some g.env.locals) (i:Inv c f s ρ H cm) (i_1:Inv c g s_1 ρ' [] []) (rm:(A.deeper g.env).frames=some g.fs) {o:OS}
  (p:EPost c f ρ s cm (pureOut H o.out) (fun v s'=>R (.ok (.ret v)) s') (fun e s'=>R (.error e) s')) :
  SPost c g s_1 [] o (fun fl s'=>R (.ok (.ret (match fl with | .ret v=>v | _=>.none))) s')
    (fun e s'=>wpAny (model P0 c.w) (A.deeper g.env) (leaving g.env e) (fun _ s''=>R (.error e) s'') (fun e' s''=>R (.error e') s'') s'):=by
 cases o with
 | ok fl ρ_2 H_2 =>
  intro y s' cm' nx iv hfl;obtain⟨v,e,r⟩:=Fl.val (ρ:=ρ_2) (H:=H_2) hfl;rw[e] at p
  replace p:EPost c f ρ s cm (if v.nc=true then .ok v H else .stuck) (fun v s'=>R (.ok (.ret v)) s') (fun e s'=>R (.error e) s'):=p
  by_cases hv:v.nc=true
  ·rw[if_pos hv] at p
   obtain⟨b1,b2⟩:=Inv.backP x i nx iv;exact p _ s' cm b2 b1 (Mine.rep_mono x.rrBackP (.refl _) _ _ (Qit cm _ _ hv r))
  ·rw[if_neg hv] at p; exact p.elim
 | exc m ρ_2 H_2 =>
  intro e s' cm' nx iv ex;have p':EPost c f ρ s cm (if m.nc=true then .exc m H else .stuck) (fun v s'=>R (.ok (.ret v)) s') (fun e s'=>R (.error e) s'):=p;by_cases hv:m.nc=true
  ·rw[if_pos hv] at p'
   have hh:∀b,c.h_1.get? b≠none->s_1.heap.get? b≠none:=i_1.base.alive;refine leaveF (rm.trans (congrArg some hfs)) hfs hfr iv hh nx.alive ex fun s'' tn ex''=>?_
   obtain⟨b1,b2⟩:=Inv.backP x i (tn.nx nx) (tn.inv hh iv);exact p' e s'' cm b2 b1 (x.excP hv ex'')
  ·rw[if_neg hv] at p'; exact p'.elim
 | stuck=>exact p.elim
theorem Qn3 (T U):OSnd c 0 (run T U 0):=⟨fun _ _ _ _ _ _ _ _ _ _ _ _ _ p=>p.elim,fun _ _ _ _ _ _ _ _ _ _ _ _ _ _ _ p=>p.elim,fun _ _ _ h=>absurd rfl h⟩
theorem Qn4 {T U} (tb:Tabs c T U) {n:Nat} (ih:OSnd c n (run T U n)):OSnd c (n+1) (run T U (n+1)):=by
 refine⟨fun fa as H f A rm ρ s cm vals i ra R p=>?_,fun k as H f A rm ρ s cm vals r i rl ra R p=>?_,fun fa as H h=>?_⟩
 ·simp only[run] at p
  cases hT:T fa with
  | none=>rw[hT] at p; exact p.elim
  | some q =>
   obtain⟨b,d⟩:=q;obtain⟨fd,body,xs,kd,fk,hbody⟩:=tb.f fa b d hT;have hB:=hbody n _ ih;obtain⟨o,ho,hd⟩:=fk.o;rw[hT] at p;cases b with
   | true =>
    dsimp only at p;split at p
    ·rename_i hnc
     unfold runF at p;cases hf:d.frame as with
     | none=>rw[hf] at p; exact p.elim
     | some ρ' =>
      rw[hf] at p;refine QgZ (Z:=adr cm) (H':=[]) (cm':=[]) (fk.def i.base.X) (i.base.X _ _ ho) hd fk.b rm i ra hf (fun _ h=>h) (fun g s_1 cal=>⟨Base.calleeP cal i.base,Mine.reps_mono cal.rrP (.refl _) _ _ (Qd3 [] _ _ hnc ra)⟩) fun g s_1 cal e1 e2 e3 e4 e5 e6 i_1 rm_1=>?_
      exact hB g e1 e2 e3 e6 e5 ⟨_,e4⟩ _ rm_1 ρ' s_1 [] [] i_1 _ _ (Qg0 cal e4 e5 i i_1 rm_1.frames p)
    ·exact p.elim
   | false =>
    dsimp only at p;unfold runF at p;cases hf:d.frame as with
    | none=>rw[hf] at p; exact p.elim
    | some ρ' =>
     rw[hf] at p;refine QgZ (Z:=[]) (H':=H) (cm':=cm) (fk.def i.base.X) (i.base.X _ _ ho) hd fk.b rm i ra hf nofun (fun g s_1 cal=>⟨Base.callee cal i.base,Cx.reps_mono cal.rr (.refl _) ra⟩) fun g s_1 cal e1 e2 e3 e4 e5 e6 i_1 rm_1=>?_
     exact hB g e1 e2 e3 e6 e5 ⟨_,e4⟩ _ rm_1 ρ' s_1 H cm i_1 _ _ (QlV cal e4 e5 i i_1 rm_1.frames p)
 ·simp only[run] at p
  cases hU:U k with
  | none=>rw[hU] at p; exact p.elim
  | some d =>
   rw[hU] at p;dsimp only at p;split at p
   ·rename_i hnc
    unfold runF at p;cases hf:d.frame as with
    | none=>rw[hf] at p; exact p.elim
    | some ρ' =>
     rw[hf] at p;obtain⟨r',o,e,hR,fd,c',oc,vs,t,q1,q2,q3,q4,q5,q6⟩:=rl;cases e;obtain⟨ex,pe,xs,z1,z2,z3,z4,z5,z6⟩:=tb.l k d hU fd q6;rw[z2] at p;have dk:DefOk s fd d xs 0:=⟨z3,⟨c',oc,vs,t,q2,q3.1,q4,q5⟩,z4,Nat.zero_le _,.inl ⟨z5,rfl⟩⟩;refine QlU (Z:=adr cm) (H':=[]) (cm':=[]) dk hR.1 q1 z1 rm i ra hf (fun _ h=>h) (fun g s_1 cal=>⟨Base.calleeP cal i.base,Mine.reps_mono cal.rrP (.refl _) _ _ (Qd3 [] _ _ hnc ra)⟩) fun g s_1 cal e1 e2 e3 e4 e5 e6 i_1 rm_1=>?_
     refine z6 n _ ih g e1 e2 _ rm_1 ρ' s_1 [] [] i_1 _ _ ?_;have key:=Qg0 (A:=A) cal e4 e5 i i_1 rm_1.frames p;simp only[evSs,evS] at key;cases hv:evE (run T U n) ρ' pe [] with
     | ok v H_2=>rw[hv] at key; exact fun y s' cm' nx iv rv=>key (.ret y) s' cm' nx iv ⟨y,rfl,rv⟩
     | exc m H_2=>rw[hv] at key; exact fun e s' cm' nx iv ex=>key e s' cm' nx iv ex
     | stuck=>rw[hv] at key; exact key.elim
   ·exact p.elim
 ·simp only[run] at h
  cases hT:T fa with
  | none=>rw[hT] at h; exact absurd rfl h
  | some q =>
   obtain⟨b,d⟩:=q;obtain⟨fd,body,xs,kd,fk,_⟩:=tb.f fa b d hT;obtain⟨o,ho,hd⟩:=fk.o;exact⟨o,fd,ho,hd⟩
theorem QmZ {T U} (tb:Tabs c T U):∀n,OSnd c n (run T U n)
 | 0=>Qn3 T U
 | n+1=>Qn4 tb (QmZ tb n)
end
end
section
section
variable {c:Cx} {k:Ck} {n:Nat} {C:Orc} {f:Fm} {x:PySem.Expr} {e:PE}
def FnAt (a:Addr) (h:Heap):Prop:=∃o fd,h.get? a=some o∧o.data=.func fd
theorem QiJ {M:Model} {a:Addr}:∀h,FnAt a h->∃k,(k=Keeper.frame∨k=Keeper.machine∨k=Keeper.boundFrame)∧Looks M h (keeperOf (.ref a)) k:=fun h ⟨o,fd,e,d⟩=>by
 obtain⟨oc,od,dt,sl⟩:=o;cases d;exact⟨.frame,.inl rfl,(Looks.ld (part:=none) e).andThen .now⟩
theorem Qf3 {A:Around} {s:Shared} {fv:Value} {ys:List PySem.Expr} {pos:Pos} {env:Env} {Q:Args->Shared->Prop} {E:Value->Shared->Prop} (hs:ys.all noStar=true)
  (h:wpAny (model P0 c.w) A (spliced (backTo pos (starEach ys env))) (fun vs s'=>Q ⟨vs,[]⟩ s') E s):wpAny (model P0 c.w) A (evalArgs fv true (backTo pos (starEach ys env)) (backToKw pos (keywordEach [] env))) Q E s:=by
 cases ys with
 | nil =>
  unfold evalArgs;show wpAny _ A (spliced [] >>= _) Q E s;refine wpAny_bind (wpAny_mono h (fun vs s' h'=>?_) fun _ _ x=>x);refine wpAny_holding ?_;exact wpAny_bind (wpAny_pure (wpAny_bind (wpAny_pure (wpAny_pure h'))))
 | cons y r =>
  simp only[List.all_cons,Bool.and_eq_true] at hs;rw[Qas hs.1] at h ⊢;exact Calls.evalArgs_plain h
theorem QbO:∀{l:List PE} {ys:List PySem.Expr} {sc:Sc} {σ:Sl},chkL k l sc σ ys=true->ys.all noStar=true
 | [],ys,sc,σ,h=>by cases Qbu h; rfl
 | a::l,ys,sc,σ,h=>by obtain⟨y,r,rfl,h0,_,h2⟩:=QaM h; simp[h0,QbO h2]
theorem Qcq {ys:List PySem.Expr} {pos:Pos} {env:Env} (h:ys.all noStar=true):((backTo pos (starEach ys env)).any (·.1)||(backToKw pos (keywordEach [] env)).any (·.1.isNone))=false:=by
 rw[Qc8 h]; rfl
theorem QhS {A:Around} {s:Shared} {fv:Value} {vs:List Value} {Q:Value->Shared->Prop} {E:Value->Shared->Prop} {ρ:List AV} {cm:CM} {o:Out AV}
  (h:∀R:Result->Shared->Prop,EPost c f ρ s cm o (fun v s'=>R (.ok (.ret v)) s') (fun e s'=>R (.error e) s')->codeAny (model P0 c.w) A (.call fv ⟨vs,[]⟩) R s)
  (p:EPost c f ρ s cm o Q E):wpAny (model P0 c.w) A (call fv vs) Q E s:=wpAny_call (h _ p)
theorem Qn5 (os:OSnd c n C) {a:PE} {l:List PE} (ha:SE c k n C a) (hl:∀e∈l,SE c k n C e):SE c k n C (.call a l):=fun f hcd x h=>by
 simp only[chkE] at h;split at h
 ·rename_i y p ys pos
  simp only[Bool.and_eq_true] at h;obtain⟨h1,h2⟩:=h;have hns:=QbO h2;refine Qag rfl fun A rm ρ s H cm i Q E p=>wpAny_Call_Name_kw ?_
  simp only[evE] at p;refine bindG (fun Q=>(ha f hcd _ h1).1 A rm ρ s H cm i Q E) p fun v H_1 z s_1 cm_1 e_1 n_1 i_1 r_1 p=>?_
  have key:∀vs H_2 xs s_2 cm_2,Nx f.FA f.FO s_1 cm_1 s_2 cm_2->Inv c f s_2 ρ H_2 cm_2->c.reps f.FX cm_2 s_2.heap vs xs->EPost c f ρ s_2 cm_2 (callV C v vs H_2) Q E->∃r,z=.ref r∧FnAt r s_2.heap∧wpAny (model P0 c.w) A (call z xs) Q E s_2:=by
   intro vs H_2 xs s_2 cm_2 n_2 i_2 r_2 p;have rv:=n_2.rep i_1.base r_1;cases v with
   | kref a =>
    cases (show z=.ref a from r_1);obtain⟨o,fd,ho,hd⟩:=os.k a vs H_2 (fun q=>by
     have p':EPost c f ρ s_2 cm_2 (C.f a vs H_2) Q E:=p;rw[q] at p'; exact p')
    exact⟨a,rfl,⟨o,fd,i_2.base.X _ _ ho,hd⟩,QhS (fun R pp=>os.f a vs H_2 f A rm.call ρ s_2 cm_2 xs i_2 r_2 R pp) p⟩
   | lam m =>
    obtain⟨r,o,e,hR,fd,c',oc,ws,t,q1,q⟩:=rv;cases e;exact⟨r,rfl,⟨o,fd,hR.1,q1⟩,QhS (fun R pp=>os.l m vs H_2 f A rm.call ρ s_2 cm_2 xs r i_2 ⟨r,o,rfl,hR,fd,c',oc,ws,t,q1,q⟩ r_2 R pp) p⟩
   | _=>exact p.elim
  have hz:(∃r,z=.ref r)∧EPost c f ρ s_1 cm_1 ((evL C ρ l H_1).bind fun vs H=>callV C v vs H) Q E:=by
   cases v<;>first | exact p.elim | skip
   ·exact⟨⟨_,r_1⟩,p⟩
   ·obtain⟨r,_,e,_⟩:=r_1; exact⟨⟨r,e⟩,p⟩
  obtain⟨⟨r,rfl⟩,p⟩:=hz;refine callWith_of (Qcq hns) QiJ (Qf3 hns ?_);refine bindG (rp:=c.reps f.FX) (fun Q=>QhP l hl f hcd ys h2 pos A rm ρ s_1 H_1 cm_1 i_1 Q E) p fun vs H_2 xs s_2 cm_2 _ n_2 i_2 r_2 p=>?_
  obtain⟨r',e,h3,h4⟩:=key vs H_2 xs s_2 cm_2 n_2 i_2 r_2 p;cases e;exact⟨h3,h4⟩
 ·cases h
end
end
section
theorem mtK (P:Params):mtL.all (fun p=>findIn (KX P) (.ref p.1) "__getattribute__"==some (some (.builtin "object.__getattribute__"))&&findIn (KX P) (.ref p.1) "__getattr__"==some none&&findIn (KX P) (.ref p.1) (Str.ofString p.2.1)==some (some (.ref p.2.2))&&typeIn (KX P) (.ref p.2.2)==some (.type "function")&&fnIn (KX P) p.2.2&&!attrC p.1 p.2.1)=true:=by kernel_rfl
theorem initK (P:Params):initL.all (fun p=>makesIn (KX P) p.1&&keepIn (KX P) (.ref p.1)&&findIn (KX P) (.ref p.1) "__init__"==some (some (.ref p.2))&&typeIn (KX P) (.ref p.2)==some (.type "function"))=true:=by kernel_rfl
section
variable {c:Cx} {k:Ck} {n:Nat} {C:Orc} {f:Fm} {x:PySem.Expr} {e:PE}
theorem Qn6 {P:Params} {a:Addr} {s:Shared} (h:fnIn (KX P) a=true) (X:(KX P).In s.heap):FnAt a s.heap:=by
 unfold fnIn at h;split at h
 ·rename_i e
  exact⟨_,_,X _ _ e,rfl⟩
 ·cases h
theorem Qn7 (ok:CkOk c k) (os:OSnd c n C) {a:PE} {D:Nat} {nm:String} {fa:Nat} {l:List PE} (ha:SE c k n C a) (hl:∀e∈l,SE c k n C e):SE c k n C (.meth a D nm fa l):=fun f hcd x h=>by
 simp only[chkE] at h;split at h
 ·rename_i y m ys hx
  obtain⟨ap,pos,rfl,hln,h20,h0⟩:=Qf1 hx;simp only[Bool.and_eq_true,beq_iff_eq] at h;obtain⟨⟨⟨rfl,h1⟩,h2⟩,h3⟩:=h;have hns:=QbO h3;have hm:=List.all_eq_true.mp (mtK c.w.params) _ (ok.mt _ _ _ h1);simp only[Bool.and_eq_true,beq_iff_eq,Bool.not_eq_true'] at hm;obtain⟨⟨⟨⟨⟨m1,m2⟩,m3⟩,m4⟩,m5⟩,m6⟩:=hm;refine Qag rfl fun A rm ρ s H cm i Q E p=>?_
  rw[arm_eval_Call,Qcf h0];simp only[evE] at p;refine wpAny_bind (bindG (fun Q=>(ha f hcd y h2).1 A rm ρ s H cm i Q E) p fun v H_1 z s_1 cm_1 e_1 n_1 i_1 r_1 p=>?_);cases ho:objOf H_1 v with
  | none=>rw[ho] at p; exact p.elim
  | some q =>
   obtain⟨D',ks,vs⟩:=q;rw[ho] at p;dsimp only at p;by_cases hD:D'=D
   ·rw[if_pos hD] at p
    obtain⟨x0,d,ds,mm,rfl,ea,ed,ac,z⟩:=Qj1 i_1 r_1 ho;rw[hD] at ea ac;refine wpAny_bind (wpAny_standAt ?_);have hform:methodCallForm (ys.length+([]:List Keyword).length) (backTo pos (starEach ys f.env)) (backToKw pos (keywordEach [] f.env))=true:=by
     have q1:=Qc8 (pos:=pos) (env:=f.env) hns;have q2:(backTo pos (starEach ys f.env)).all (fun x=>!x.1)=true:=by
      rw[List.all_eq_true]; intro t ht;have:=List.any_eq_false.mp q1 t ht;simpa using this
     show ((backTo pos (starEach ys f.env)).all (fun x=>!x.1)&&true&&decide (ys.length+0+0<30))=true;rw[q2]; simp; omega
    have hpos:methodCallPos true y f.env ap pos=pure pos:=by unfold methodCallPos; simp[hln]
    unfold methodCall;rw[hform];refine wpAny_bind (wpAny_holding (method_fn (C:=D) (od:=some (dictOf ds mm)) i_1.base.X ⟨ea,rfl,rfl,ed⟩ m1 m2 m3 m4 ?_ ?_))
    ·show (lookIn (Str.ofString nm) (dictOf ds mm)).map (·.isSome)=some false
     rw[lookIn_dict,(Qcg nm z).2.1 fun q=>by have:=ac nm q; rw[m6] at this; cases this];rfl
    refine wpAny_bind (wpAny_of_eq hpos ?_);refine callWith_of (Qcq hns) QiJ (Qf3 hns ?_);refine bindG (rp:=c.reps f.FX) (fun Q=>QhP l hl f hcd ys h3 pos A rm ρ s_1 H_1 cm_1 i_1 Q E) p fun ws H_2 xs s_2 cm_2 _ n_2 i_2 r_2 p=>?_
    exact⟨Qn6 m5 i_2.base.X,QhS (fun R pp=>os.f fa (v::ws) H_2 f A rm.call ρ s_2 cm_2 (.ref x0::xs) i_2 ⟨_,_,rfl,n_2.rep i_1.base r_1,r_2⟩ R pp) p⟩
   ·rw[if_neg hD] at p; exact p.elim
 ·cases h
theorem Qfv {A:Around} {n:Nat} {D:Addr} {xs:List Value} (r:Room f A n):RoomC f (A.under (.builtin "type.__call__" ⟨.ref D::xs,[]⟩)) n:=by
 have e1:(Code.builtin "type.__call__" ⟨.ref D::xs,[]⟩).weight=1:=by kernel_rfl
 have e2:(Code.builtin "type.__call__" ⟨.ref D::xs,[]⟩).cUnits=1:=by kernel_rfl
 have e3:(Code.builtin "type.__call__" ⟨.ref D::xs,[]⟩).envs=[]:=by kernel_rfl
 refine⟨r.hh,?_,?_,?_⟩
 ·have:=r.depth; show A.depth+_+_+_≤_; omega
 ·have:=r.units; show A.units+_+_+_≤_; omega
 ·rw[Around.under,e3,r.frames]; rfl
theorem Qqa (ok:CkOk c k) (os:OSnd c n C) {nm:String} {D fi:Nat} {l:List PE} (hl:∀e∈l,SE c k n C e):SE c k n C (.new nm D fi l):=fun f hcd x h=>by
 simp only[chkE] at h;split at h
 ·rename_i y ys hx
  obtain⟨q,pos,rfl⟩:=call_of hx;simp only[Bool.and_eq_true] at h;obtain⟨⟨⟨h0,h1⟩,h2⟩,h3⟩:=h;have hns:=QbO h3;have hm:=List.all_eq_true.mp (initK c.w.params) _ (ok.init _ _ h2);simp only[Bool.and_eq_true,beq_iff_eq] at hm;obtain⟨⟨⟨m1,m2⟩,m3⟩,m4⟩:=hm;obtain⟨_,val,e,gv⟩:=ok.g nm _ h1;cases QbX h0;cases (show val=.ref D from gv);refine Qag rfl fun A rm ρ s H cm i Q E p=>wpAny_Call_Name_kw (QcL i h0 e ?_)
  simp only[evE] at p;refine callWith_of (Qcq hns) (keeps_K m2) (Qf3 hns ?_);refine bindG (rp:=c.reps f.FX) (fun Q=>QhP l hl f hcd ys h3 pos A rm ρ s H cm i Q E) p fun ws H_1 xs s_1 cm_1 _ n_1 i_1 r_1 p=>?_
  refine⟨i_1.base.X,wpAny_call ?_⟩;have X:=i_1.base.X;obtain⟨hh,gg,dd,tt,oo⟩:=s_1;refine make_core (makes_of X m1) (looks_findIn X m3) (fun self=>bind_fn X self m4) (.inl rfl) ?_;have g1:Grow ⟨hh,gg,dd,tt,oo⟩ ⟨(hh.push emptyDict).push (instObj D hh.objs.size),gg,dd,tt,oo⟩:=(Grow.push ⟨hh,gg,dd,tt,oo⟩ emptyDict tt).trans (Grow.push ⟨hh.push emptyDict,gg,dd,tt,oo⟩ _ tt);have ex:((hh.push emptyDict).push (instObj D hh.objs.size)).get? (hh.objs.size+1)=some (instObj D hh.objs.size):=by
   have:=Heap.get?_push_size (hh.push emptyDict) (o:=instObj D hh.objs.size) rfl
   rwa [Heap.size_push] at this
  have ed:((hh.push emptyDict).push (instObj D hh.objs.size)).get? hh.objs.size=some emptyDict:=Heap.get?_push_of_some _ (Heap.get?_push_size _ rfl);have i_2:=i_1.addCell (a:=hh.objs.size+1) (l:=[hh.objs.size+1,hh.objs.size]) (x:=.obj D [] []) g1 (by simp) (fun a ha=>by
   rcases List.mem_cons.mp ha with ha | ha
   ·subst ha; exact⟨Heap.get?_none_of_le (Nat.le_succ _),by show ((hh.push emptyDict).push _).get? _≠none; rw[ex]; nofun⟩
   ·cases List.mem_singleton.mp ha; exact⟨Qai _,by show ((hh.push emptyDict).push _).get? _≠none; rw[ed]; nofun⟩)
   ⟨hh.objs.size,rfl,Nat.succ_ne_self _,[],0,ex,ed,by simp,nofun,rfl,rfl⟩
  have nx0:Nx f.FA f.FO ⟨hh,gg,dd,tt,oo⟩ cm_1 ⟨(hh.push emptyDict).push (instObj D hh.objs.size),gg,dd,tt,oo⟩ (cm_1++[(hh.objs.size+1,[hh.objs.size+1,hh.objs.size])]):=g1.nxAdd (fun a ha=>by
   rcases List.mem_cons.mp ha with ha | ha
   ·subst ha; exact Heap.get?_none_of_le (Nat.le_succ _)
   ·cases List.mem_singleton.mp ha; exact Qai _)
  have hc:(cm_1++[(hh.objs.size+1,[hh.objs.size+1,hh.objs.size])])[H_1.length]?=some (hh.objs.size+1,[hh.objs.size+1,hh.objs.size]):=by rw[←i_1.base.len,List.getElem?_concat_length]
  refine os.f fi (.cell H_1.length::ws) (H_1++[.obj D [] []]) f _ (Qfv rm) ρ _ _ (.ref (hh.objs.size+1)::xs) i_2 ⟨_,_,rfl,⟨_,hc,rfl⟩,nx0.reps i_1.base r_1⟩ _ ?_;cases hr:C.f fi (.cell H_1.length::ws) (H_1++[.obj D [] []]) with
  | ok v H_2 =>
   rw[hr] at p;intro y s' cm' nx iv rv;cases v<;>first | exact p.elim | skip
   cases (show y=.none from rv);obtain⟨p',hp',hp1,_⟩:=nx.cms _ _ hc;exact⟨rfl,p _ s' cm' (nx0.trans nx) iv ⟨p',hp',by rw[hp1]⟩⟩
  | exc m H_2 =>
   rw[hr] at p;intro e s' cm' nx iv ex;exact p e s' cm' (nx0.trans nx) iv (ex.older nx0.alive)
  | stuck=>rw[hr] at p; exact p.elim
 ·cases h
end
end
section
theorem Qjr {pos pos':Pos} {c cv:Value} (l:List Value) (h:TriplesOk l) (hn:codeAmong pos' (l++[rawInt pos.line,rawInt pos.col,c])=some cv):codeAmong pos' l=some cv∨cv=c:=by
 fun_induction TriplesOk l with
 | case1 =>
  simp only[List.nil_append,codeAmong,rawInt] at hn;split at hn
  ·cases hn; exact .inr rfl
  ·cases hn
 | case2 a t b u x rest ih =>
  simp only[List.cons_append,codeAmong] at hn ⊢;split at hn
  ·rename_i q; rw[if_pos q]; exact .inl hn
  ·rename_i q; rw[if_neg q]; exact ih h hn
 | case3=>exact h.elim
theorem Qg1 {pos:Pos} {c:Value} (l:List Value) (h:TriplesOk l):TriplesOk (l++[rawInt pos.line,rawInt pos.col,c]):=by
 fun_induction TriplesOk l with
 | case1=>trivial
 | case2 a t b u x rest ih=>exact ih h
 | case3=>exact h.elim
section
variable {c:Cx} {k:Ck} {n:Nat} {C:Orc} {f:Fm} {x:PySem.Expr} {e:PE}
theorem Qqb {x:PySem.Expr} {a:Arguments} {b:PySem.Expr} {s:Scope} {p:Pos} (h:xLam x=some (a,b,s,p)):x=.Lambda a b s p:=by
 cases x<;>simp only[xLam,reduceCtorEq,Option.some.injEq,Prod.mk.injEq] at h;obtain⟨rfl,rfl,rfl,rfl⟩:=h;rfl
theorem QeG {M:Model} {A:Around} {E:Value->Shared->Prop} {s:Shared} {name qual:Str} {params:Arguments} {body:PySem.Expr} {scope:Scope} {env:Env} {ca P:Addr} {ps:Array Value} {pos:Pos} {firstLine:Nat} {mg:Str->Option Value} {Q:Value->Shared->Prop}
  (hcl:closureFor scope env=pure []) (hge0:env.globals=mainGlobals) (hg:s.heap.Ns mainGlobals mg) (hcode:env.code=.ref ca) (C:CodeHd s.heap ca P) (hP:s.heap.get? P=some (tabObj ps)) (ht:TriplesOk ps.toList)
  (hnf:codeAmong pos ps.toList=none) (hgP:mainGlobals≠P) (hb:s.heap.BuiltinsAt mg P)
  (h:∀c' h' tk,Heap.ExtBut P s.heap h'->s.heap.objs.size≤c'->c'<h'.objs.size->h'.CodeRec (.ref c') qual->(∃o,h'.get? c'=some o∧o.cls=.type "code")->h'.get? P=some (tabObj (ps++#[rawInt pos.line,rawInt pos.col,.ref c'])) ->
   Q (.ref h'.objs.size) {s with heap:=h'.push (kla_obj name qual params body scope [] ((mg "__name__").getD .none) c' .none),toks:=tk}) :
  wpAny M A (makeFunction name qual params (.expr body) scope env [] [] [] pos firstLine) Q E s:=by
 rw[makeFunction_eq];simp only[List.zip_nil_right,List.filterMap_nil,List.isEmpty_nil,if_true,pure_bind];obtain⟨bm,ob,hbm,hne0,_,hneP,hbo,hcls,hdict,hdata⟩:=hb;unfold makeTail;rw[hcl,hge0];refine wpAny_bind (wpAny_pure ?_);simp only[List.isEmpty_nil,if_true];refine wpAny_bind (wpAny_pure ?_);refine wpAny_bind (wpAny_functionCodeX hcode (C.code hP ht) (C.tab hP) hnf fun c' h' tk hx hge hlt _ hrec htb hcc=>?_);have hg':=hg.extBut hx hgP;refine wpAny_bind (wpAny_builtinsFor hg' hbm hne0 (hx _ _ hneP hbo) hcls hdict hdata ?_);refine wpAny_bind (wpAny_nsGet hg' ?_);obtain⟨_,_,_,⟨o,_,e1,e2,_⟩,_⟩:=hcc;exact wpAny_bind (wpAny_pure (wpAny_newObj_type (h c' h' tk hx hge hlt hrec ⟨o,e1,e2⟩ htb.2) (by size_fits)))
theorem Qqc (ok:CkOk c k) {m:Nat}:SE c k n C (.lam m):=fun f hcd x h=>by
 simp only[chkE] at h;split at h
 ·rename_i a bd sc p hx
  cases Qqb hx;obtain⟨⟨ca,q1,q2⟩,q3,q4,q5,q6⟩:=ok.lm m a bd sc p h;refine Qag rfl fun A rm ρ s H cm i Q E pp=>kla_eval (q4 _) ?_
  simp only[evE] at pp;have X:=i.base.X;obtain⟨ps,eP,tok,hcodes⟩:=i.base.tab;have hgl:=i.base.ns c.T.g (by decide);have hlq:f.env.qual++Str.ofString "<lambda>"=c.lq:=by rw[hcd.2]; exact q3
  have hbl:s.heap.BuiltinsAt c.mg gh:=by
   obtain⟨bm,ob,b1,b2,b3,b4,b5,b6⟩:=c.blt;exact⟨bm,ob,b1,b2,b3,b4,i.base.old _ _ b4 b5,b6⟩
  cases hf:codeAmong p ps.toList with
  | some cv =>
   obtain⟨c',oc,vs,t,rfl,hR,hd,hv⟩:=hcodes p cv hf;refine kla_makeFunctionHit (mg:=c.mg) (q5 _) f.ok.globals hgl (hcd.1.trans q1) (q2 _ X) eP tok hf hbl fun ctv h' tk hk hsz=>?_
   have g1:Grow s {s with heap:=h',toks:=tk}:=Grow.of hk;have i1:=g1.inv i;have g2:=g1.trans (Grow.push {s with heap:=h',toks:=tk} {cls:=.type "function",data:=.func (kla_fn "<lambda>" (f.env.qual++"<lambda>") a bd sc [] ((c.mg "__name__").getD .none) (.ref c') ctv)} tk);refine EPost.end pp i g2 ⟨_,_,rfl,i1.base.rr_new (Heap.get?_push_size _ rfl) rfl (Qai _),_,c',oc,vs,t,rfl,rfl,g2.rr _ _ hR,hd,?_,q6 _ rfl rfl rfl rfl rfl rfl rfl⟩;rw[hv,←hlq]
  | none =>
   refine QeG (mg:=c.mg) (q5 _) f.ok.globals hgl (hcd.1.trans q1) (q2 _ X) eP tok hf (by decide) hbl fun c' h' tk hx hge hlt hrec hcc htb=>?_
   obtain⟨c2,oc,vs,t,e1,hoc,hd,hv⟩:=hrec;cases e1
   replace hv:vs[1]?=some (.str (f.env.qual++Str.ofString "<lambda>") t):=hv
   have hnew:s.heap.get? c'=none:=Heap.get?_none_of_le hge;have b:=i.base;have hgF:gh ∉ f.FX∧gh ∉ adr cm:=⟨fun q=>c.glow (b.lo _ (.inl q)).1,fun q=>c.glow (b.lo _ (.inr q)).1⟩;have stT:∀ps,stab (tabObj ps)=false:=fun ps=>rfl
   have hR:∀a o,Rr f.FX cm s.heap a o->Rr f.FX cm h' a o:=fun a o ⟨e,st,n1,n2⟩=>⟨hx a o (fun q=>by rw[q,eP] at e; cases e; rw[stT] at st; cases st) e,st,n1,n2⟩
   have hocs:oc.cls=.type "code":=by obtain⟨o,e1,e2⟩:=hcc; rw[hoc] at e1; cases e1; exact e2
   have hRc:Rr f.FX cm h' c' oc:=b.rr_new hoc (by simp[stab,hd,hocs]) hnew;have hgh:h'.get? gh=some (tabObj (ps++#[rawInt p.line,rawInt p.col,.ref c'])):=htb;have b1:Base c f.FX {s with heap:=h',toks:=tk} H cm:=by
    refine⟨b.len,fun j q y e1 e2=>Qap (fun a o ha e=>hx a o (fun q=>hgF.2 (q ▸ QaL e1 ha)) e) hR (.refl _) (b.cells j q y e1 e2),fun a h=>⟨(b.lo a h).1,?_⟩,b.dj,b.nd,fun a o ne e=>hx a o ne (b.old a o ne e),b.gens,b.os,⟨_,hgh,?_,fun pos' cv hq=>?_⟩⟩
    ·cases e:s.heap.get? a with
     | none=>exact absurd e (b.lo a h).2
     | some o=>show h'.get? a≠none; rw[hx a o (fun q=>h.elim (fun h=>hgF.1 (q ▸ h)) fun h=>hgF.2 (q ▸ h)) e]; nofun
    ·rw[Array.toList_append]; exact Qg1 _ tok
    ·rw[Array.toList_append] at hq
     rcases Qjr _ tok hq with hq | hq
     ·obtain⟨c3,o3,v3,t3,z1,z2,z3⟩:=hcodes pos' cv hq
      exact⟨c3,o3,v3,t3,z1,hR _ _ z2,z3⟩
     ·exact⟨c',oc,vs,t,hq,hRc,hd,by rw[hv]; rw[show f.env.qual++Str.ofString "<lambda>"=c.lq from hlq]⟩
   have hal:∀a,s.heap.get? a≠none->h'.get? a≠none:=fun a h=>by
    by_cases hg:a=gh
    ·rw[hg,hgh]; nofun
    ·cases e:s.heap.get? a with
     | none=>exact absurd e h
     | some o=>rw[hx a o hg e]; nofun
   have hno:∀a,a∈f.FA∨a∈f.FO->a≠gh:=fun a h q=>hgF.1 (q ▸ Qay h)
   have nx1:Nx f.FA f.FO s cm {s with heap:=h',toks:=tk} cm:=⟨fun a o e h0 _ _ _=>hx a o h0 e,fun a o e h=>⟨o.slots,hx a o (hno a (.inr h)) e⟩,.refl _,fun _ h=>.inl h,hal⟩;have i1:=i.move nx1 (fun a o h e=>hx a o (hno a (.inl h)) e) b1;have g2:=Grow.push {s with heap:=h',toks:=tk} (kla_obj "<lambda>" (f.env.qual++"<lambda>") a bd sc [] ((c.mg "__name__").getD .none) c' .none) tk;refine pp _ _ _ (nx1.trans g2.nx) (g2.inv i1) ⟨_,_,rfl,i1.base.rr_new (Heap.get?_push_size _ rfl) rfl (Qai _),_,c',oc,vs,t,rfl,rfl,g2.rr _ _ hRc,hd,hv,q6 _ rfl rfl rfl rfl rfl rfl rfl⟩
 ·cases h
end
end
section
section
variable {c:Cx} {f g:Fm} {s s' s_0 s_1 s_2:Shared} {ρ ρ':List AV} {H H':AH} {cm cm' cm_1 cm_0:CM} {A:Around} {M:Model} {E:Value->Shared->Prop} {a:Addr}
structure OwnTurn (f:Fm) (a:Addr) (s s':Shared):Prop where
 own:a∈f.FA
 same:∀b,b≠a->s'.heap.get? b=s.heap.get? b
 here:s'.heap.get? a≠none
 gens:s'.gens=s.gens
 os:s'.os=s.os
theorem OwnTurn.nx (x:OwnTurn f a s s') (i:Inv c f s ρ H cm):Nx f.FA f.FO s cm s' cm where
 keep b o e _ h1 _ _:=(x.same b fun q=>h1 (q ▸ x.own)).trans e
 outer b o e h:=⟨o.slots,(x.same b fun q=>(i.dj a x.own).1 (q ▸ h)).trans e⟩
 cms:=.refl _
 new _ h:=.inl h
 alive b h:=by
  by_cases q:b=a
  ·rw[q]; exact x.here
  ·rw[x.same b q]; exact h
theorem OwnTurn.base (x:OwnTurn f a s s') (i:Inv c f s ρ H cm):Base c f.FX s' H cm:=by
 have hF:a∈f.FX:=Qay (.inl x.own);have b:=i.base;have hne:∀y,y∈adr cm->y≠a:=fun y h q=>b.dj a hF (q ▸ h)
 have hold:∀y o,c.h_1.get? y=some o->y≠a:=fun y o e q=>by rw[q,(b.lo a (.inl hF)).1] at e; cases e
 have rr:=(x.nx i).rr b;exact⟨b.len,fun j p y e1 e2=>Qap (fun y o hy e=>(x.same y (hne y (QaL e1 hy))).trans e) rr (.refl _) (b.cells j p y e1 e2),fun y h=>⟨(b.lo y h).1,(x.nx i).alive y (b.lo y h).2⟩,b.dj,b.nd,
  fun y o n e=>(x.same y (hold y o e)).trans (b.old y o n e),x.gens.trans b.gens,x.os.trans b.os,
  b.tab.mono (fun o e=>(x.same gh fun q=>c.glow (by rw[q]; exact (b.lo a (.inl hF)).1)).trans e) rr⟩
theorem OwnTurn.frs (x:OwnTurn f a s s') (i:Inv c f s ρ H cm) (hn:∀o,s'.heap.get? a=some o->∀vs,o.data≠.fields vs):∀e∈f.fs,e.scope.kind≠.module∧∃L o,e.frame=some L∧s'.heap.get? L=some o∧(∀vs,o.data≠.fields vs)∧(L∈f.FA∨L∈f.FO):=by
 intro e he;obtain⟨h1,L,o,h2,h3,h4,h5⟩:=i.frs e he;by_cases q:L=a
 ·cases e2:s'.heap.get? a with
  | none=>exact absurd e2 x.here
  | some o'=>exact⟨h1,L,o',h2,by rw[q]; exact e2,hn o' e2,h5⟩
 ·exact⟨h1,L,o,h2,(x.same L q).trans h3,h4,h5⟩
theorem slot_set {FX:List Addr} {h h':Heap} {k j:Nat} {av:AV} {v:Option Value} (hj:j≠k) (rr:∀a o,Rr FX cm h a o->Rr FX cm h' a o) (z:slotIs c FX cm h ρ j v):slotIs c FX cm h' (ρ.set k av) j v:=fun av' e n=>by
 rw[List.getElem?_set_ne (Ne.symm hj)] at e;obtain⟨x,e1,r⟩:=z av' e n;exact⟨x,e1,Cx.rep_mono rr (.refl _) r⟩
theorem Qg2 {FX:List Addr} {h:Heap} {k:Nat} {av:AV} {v:Value} (r:c.rep FX cm h av v):slotIs c FX cm h (ρ.set k av) k (some v):=fun av' e n=>by
 rw[List.getElem?_set] at e;simp only[if_true] at e;split at e
 ·cases e; exact⟨v,rfl,r⟩
 ·cases e
theorem Qa1 {y:Str} {k:Nat} {kd:NameKind} {av:AV} {v:Value} {Q:Unit->Shared->Prop} (h1:f.σ.lookup y=some k) (h2:f.sc.lookup y=some kd) (h3:kd=.local∨kd=.cell) (how:f.ow y=true) (i:Inv c f s ρ H cm) (r:c.rep f.FX cm s.heap av v)
  (hQ:∀s',Nx f.FA f.FO s cm s' cm->Inv c f s' (ρ.set k av) H cm->Q () s'):wpAny M A (storeName f.env y v) Q E s:=by
 have hk:f.env.kindOf y=some kd:=QaR.trans h2;rcases h3 with rfl | rfl
 ·obtain⟨m,hns,z⟩:=i.ns
  refine wpAny_storeName_local hk hns (fun h' hn' hs'=>?_) (by rw[f.ok.kind]; rfl);obtain⟨on,es,ep,e1,e2,e3⟩:=id hn';have t:OwnTurn f f.env.locals s {s with heap:=h',toks:=s.toks+1}:=⟨f.ok.loc,fun b hb=>hs'.2 b hb,by show h'.get? _≠none; rw[e1]; nofun,rfl,rfl⟩;have rr:=(t.nx i).rr i.base;refine hQ _ (t.nx i) ⟨t.base i,i.dj,i.dj2,⟨_,hn',fun x j q1 q2=>?_⟩,fun x j kd' c' q1 q2 q3 q4=>?_,t.frs i fun o e vs=>by
   have e':h'.get? f.env.locals=some o:=e;rw[e1] at e'; cases e'; rw[e2]; nofun⟩
  ·by_cases hj:j=k
   ·subst hj
    have:=f.ok.slots x y j _ _ q1 h1 q2 h2;subst this;simpa using Qg2 (Cx.rep_mono rr (.refl _) r)
   ·have hxy:x≠y:=fun q=>hj (by rw[q,h1] at q1; exact (Option.some.inj q1).symm)
    rw[if_neg hxy];exact slot_set hj rr (z x j q1 q2)
  ·obtain⟨o,ov,e,d,zz⟩:=i.cl x j kd' c' q1 q2 q3 q4
   obtain⟨c'',w1,w2,_⟩:=f.ok.cell x j kd' q1 q2 q3;rw[q4] at w1; cases w1;have hj:j≠k:=fun q=>by
    subst q;have:=f.ok.slots x y j _ _ q1 h1 q2 h2;subst this;rw[h2] at q2; cases q2; rcases q3 with q3 | q3<;>cases q3
   exact⟨o,ov,(hs'.2 c' w2).trans e,d,slot_set hj rr zz⟩
 ·obtain⟨ca,w1,w2,_,w4⟩:=f.ok.cell y k _ h1 h2 (.inl rfl)
  obtain⟨o,ov,e,d,zz⟩:=i.cl y k _ ca h1 h2 (.inl rfl) w1;refine wpAny_storeName_cell f.ok.kind hk w1 ⟨o,e,d⟩ fun h' hc' hs'=>?_
  obtain⟨on,e1,e2⟩:=id hc';have t:OwnTurn f ca s {s with heap:=h'}:=⟨w4 how,fun b hb=>hs'.2 b hb,by show h'.get? _≠none; rw[e1]; nofun,rfl,rfl⟩;have rr:=(t.nx i).rr i.base;refine hQ _ (t.nx i) ⟨t.base i,i.dj,i.dj2,?_,fun x j kd' c' q1 q2 q3 q4=>?_,t.frs i fun o e vs=>by
   have e':h'.get? ca=some o:=e;rw[e1] at e'; cases e'; rw[e2]; nofun⟩
  ·obtain⟨m,hns,z⟩:=i.ns
   refine⟨m,hns.sameBut hs' (Ne.symm w2),fun x j q1 q2=>?_⟩;have hj:j≠k:=fun q=>by
    subst q;have:=f.ok.slots x y j _ _ q1 h1 q2 h2;subst this;rw[h2] at q2; cases q2
   exact slot_set hj rr (z x j q1 q2)
  ·by_cases hca:c'=ca
   ·subst hca
    have:=f.ok.inj x y c' q4 w1;subst this;rw[h1] at q1; cases q1;exact⟨on,_,e1,e2,Qg2 (Cx.rep_mono rr (.refl _) r)⟩
   ·obtain⟨o',ov',e',d',zz'⟩:=i.cl x j kd' c' q1 q2 q3 q4
    have hj:j≠k:=fun q=>by
     subst q;have:=f.ok.slots x y j _ _ q1 h1 q2 h2;subst this;rw[w1] at q4; exact hca (Option.some.inj q4).symm
    exact⟨o',ov',(hs'.2 c' hca).trans e',d',slot_set hj rr zz'⟩
end
end
section
def rngL (a:Int) (n:Nat):List AV:=(List.range n).map fun i=>.int (a+(i:Nat))
theorem Qg3 (a:Int) (n:Nat):rngL a (n+1)=.int a::rngL (a+1) n:=by
 unfold rngL;rw[List.range_succ_eq_map,List.map_cons,List.map_map];congr 1
 ·simp
 ·apply List.map_congr_left
  intro i _;simp only[Function.comp,AV.int.injEq];omega
def IterAt (c:Cx) (FX:List Addr) (cm:CM) (h:Heap) (it:Addr) (l:List AV):Prop :=
 it ∉ FX∧it ∉ adr cm∧c.h_1.get? it=none∧(∃o,h.get? it=some o∧stab o=false) ∧
 ((∃a o xs n i,Rr FX cm h a o∧o.cls=.type "list"∧o.data=.seq (List.toArray xs) n∧h.IsListIter it a i∧c.reps FX cm h l (xs.drop i)) ∨
 (∃a o xs n i,Rr FX cm h a o∧o.cls=.type "tuple"∧o.data=.seq (List.toArray xs) n∧h.IsTupleIter it a i∧c.reps FX cm h l (xs.drop i)) ∨
 (∃a left,IsRangeIter h it a left 1∧l=rngL a left.toNat))
section
variable {c:Cx} {f g:Fm} {s s' s_0 s_1 s_2:Shared} {ρ ρ':List AV} {H H':AH} {cm cm' cm_1 cm_0:CM} {A:Around} {M:Model} {E:Value->Shared->Prop} {a it:Addr} {FX FX':List Addr} {l:List AV}
theorem IterAt.mono {h h':Heap} (x:IterAt c FX cm h it l) (k:∀o,h.get? it=some o->h'.get? it=some o) (n1:it ∉ FX') (n2:it ∉ adr cm') (rr:∀a o,Rr FX cm h a o->Rr FX' cm' h' a o) (cs:CMle cm cm'):IterAt c FX' cm' h' it l:=by
 obtain⟨h1,h2,h3,⟨o,h4,h5⟩,h6⟩:=x;refine⟨n1,n2,h3,⟨o,k o h4,h5⟩,?_⟩;rcases h6 with ⟨a,o,xs,n,i,q1,q2,q3,⟨oi,q4,q5⟩,q6⟩ | ⟨a,o,xs,n,i,q1,q2,q3,⟨oi,q4,q5⟩,q6⟩ | ⟨a,left,q1,q2⟩
 ·exact .inl ⟨a,o,xs,n,i,rr _ _ q1,q2,q3,⟨oi,k _ q4,q5⟩,Cx.reps_mono rr cs q6⟩
 ·exact .inr (.inl ⟨a,o,xs,n,i,rr _ _ q1,q2,q3,⟨oi,k _ q4,q5⟩,Cx.reps_mono rr cs q6⟩)
 ·exact .inr (.inr ⟨a,left,k _ q1,q2⟩)
theorem IterAt.nx (x:IterAt c f.FX cm s.heap it l) (b:Base c f.FX s H cm) (n:Nx f.FA f.FO s cm s' cm'):IterAt c f.FX cm' s'.heap it l:=by
 have hg:it≠gh:=fun q=>c.glow (by rw[←q]; exact x.2.2.1)
 have hk:∀o,s.heap.get? it=some o->s'.heap.get? it=some o:=fun o e=>n.keep it o e hg (fun q=>x.1 (Qay (.inl q))) (fun q=>x.1 (Qay (.inr q))) x.2.1
 obtain⟨o,e,_⟩:=x.2.2.2.1;exact x.mono hk x.1 (n.out e hg (fun q=>x.1 (Qay (.inl q))) (fun q=>x.1 (Qay (.inr q))) x.2.1) (n.rr b) n.cms
structure ItTurn (it:Addr) (s s':Shared):Prop where
 keep:∀b o,b≠it->s.heap.get? b=some o->s'.heap.get? b=some o
 gens:s'.gens=s.gens
 os:s'.os=s.os
theorem ItTurn.rr (x:ItTurn it s s') (y:IterAt c FX cm s.heap it l):∀a o,Rr FX cm s.heap a o->Rr FX cm s'.heap a o:=fun a o ⟨e,st,n1,n2⟩=>⟨x.keep a o (fun q=>by
 obtain⟨oi,e1,e2⟩:=y.2.2.2.1;rw[q,e1] at e; cases e; rw[e2] at st; cases st) e,st,n1,n2⟩
theorem ItTurn.inv (x:ItTurn it s s') (y:IterAt c f.FX cm s.heap it l) (i:Inv c f s ρ H cm):Inv c f s' ρ H cm:=by
 have rr:=x.rr y;have b:=i.base;have ne1:∀q,q∈f.FX->q≠it:=fun q h e=>y.1 (e ▸ h)
 have ne2:∀q,q∈adr cm->q≠it:=fun q h e=>y.2.1 (e ▸ h)
 have some':∀q,q≠it->s.heap.get? q≠none->s'.heap.get? q≠none:=fun q hq h=>by
  cases e:s.heap.get? q with
  | none=>exact absurd e h
  | some o=>rw[x.keep q o hq e]; nofun
 refine⟨⟨b.len,fun j p z e1 e2=>Qap (fun q o hq e=>x.keep q o (ne2 q (QaL e1 hq)) e) rr (.refl _) (b.cells j p z e1 e2),fun q h=>⟨(b.lo q h).1,some' q (h.elim (ne1 q) (ne2 q)) (b.lo q h).2⟩,b.dj,b.nd,
  fun q o n e=>x.keep q o (fun w=>by rw[w,y.2.2.1] at e; cases e) (b.old q o n e),x.gens.trans b.gens,x.os.trans b.os,b.tab.mono (fun o e=>x.keep gh o (fun w=>c.glow (by rw[w]; exact y.2.2.1)) e) rr⟩,i.dj,i.dj2,?_,?_,?_⟩
 ·obtain⟨m,⟨o,es,ep,e,r⟩,z⟩:=i.ns
  exact⟨m,⟨o,es,ep,x.keep _ _ (ne1 _ (Qay (.inl f.ok.loc))) e,r⟩,fun q k e1 e2=>(z q k e1 e2).mono rr (.refl _)⟩
 ·intro q k kd a e1 e2 e3 e4
  obtain⟨o,ov,e,d,z⟩:=i.cl q k kd a e1 e2 e3 e4;obtain⟨a',w1,_,w2,_⟩:=f.ok.cell q k kd e1 e2 e3;obtain rfl:a'=a:=Option.some.inj (w1.symm.trans e4);exact⟨o,ov,x.keep _ _ (ne1 _ (Qay w2)) e,d,z.mono rr (.refl _)⟩
 ·intro e he
  obtain⟨h1,L,o,h2,h3,h4,h5⟩:=i.frs e he;exact⟨h1,L,o,h2,x.keep _ _ (ne1 _ (Qay h5)) h3,h4,h5⟩
theorem ItTurn.nx (x:ItTurn it s_1 s_2) (n:Nx f.FA f.FO s cm s_1 cm_1) (h0:s.heap.get? it=none):Nx f.FA f.FO s cm s_2 cm_1:=n.mod h0 fun a o ha e=>x.keep a o ha e
theorem Qf4 {v:AV} {x:Value} {Q:Value->Shared->Prop} (hv:itemsOf v=some l) (r:c.rep f.FX cm s.heap v x) (i:Inv c f s ρ H cm)
  (hQ:∀s',Grow s s'->s.heap.get? s.heap.objs.size=none->IterAt c f.FX cm s'.heap s.heap.objs.size l->Q (.ref s.heap.objs.size) s'):wpAny (model P0 c.w) A (pyIter x) Q E s:=by
 have n1:s.heap.objs.size ∉ f.FX:=i.fresh (Qai _);have n2:s.heap.objs.size ∉ adr cm:=fun q=>(i.base.lo _ (.inr q)).2 (Qai _)
 have n3:=i.base.h1_none (Qai s.heap);cases v<;>first | (cases hv; done) | skip
 ·cases hv
  obtain⟨a,o,xs,n,rfl,q1,q2,q3,q4⟩:=r;refine wpAny_pyIter_tuple ⟨o,q1.1,q2,n,q3⟩ ?_;have g:=Grow.push s {cls:=.type "tuple_iterator",data:=.fields #[.ref a,.int 0 0]} s.toks;exact hQ _ g (Qai _) ⟨n1,n2,n3,⟨_,Heap.get?_push_size _ rfl,rfl⟩,.inr (.inl ⟨a,o,xs,n,0,g.rr _ _ q1,q2,q3,⟨_,Heap.get?_push_size _ rfl,rfl,rfl⟩,Cx.reps_mono g.rr (.refl _) q4⟩)⟩
 ·cases hv
  obtain⟨a,o,xs,n,rfl,q1,q2,q3,q4⟩:=r;refine wpAny_pyIter_list ⟨o,q1.1,q2,n,q3⟩ ?_;have g:=Grow.push s {cls:=.type "list_iterator",data:=.fields #[.ref a,.int 0 0]} s.toks;exact hQ _ g (Qai _) ⟨n1,n2,n3,⟨_,Heap.get?_push_size _ rfl,rfl⟩,.inl ⟨a,o,xs,n,0,g.rr _ _ q1,q2,q3,⟨_,Heap.get?_push_size _ rfl,rfl,rfl⟩,Cx.reps_mono g.rr (.refl _) q4⟩⟩
 ·rename_i lo hi
  obtain⟨a,t,u,w,rfl,q1,q2,q3⟩:=r;have hsz:Builtin.Range.rangeSize lo hi 1=if lo<hi then hi-lo else 0:=by
   unfold Builtin.Range.rangeSize;simp
  refine wpAny_pyIter_range (a:=lo) (b:=hi) (c:=1) (t:=t) (u:=u) (v:=w) q1.1 ?_ ?_
  ·have e63:(2:Int) ^ 63=9223372036854775808:=by decide
   unfold Builtin.Range.small Builtin.Range.rangeFitsLong;rw[hsz,e63];simp only[Bool.and_eq_true,decide_eq_true_eq,Bool.or_eq_true,beq_iff_eq,show (1:Int)>0 by decide,if_true];split<;>omega
  ·have g:=Grow.push s {cls:=.type "range_iterator",data:=.fields #[rawInt lo,rawInt (Builtin.Range.rangeSize lo hi 1),rawInt 1]} s.toks
   refine hQ _ g (Qai _) ⟨n1,n2,n3,⟨_,Heap.get?_push_size _ rfl,rfl⟩,.inr (.inr ⟨lo,Builtin.Range.rangeSize lo hi 1,Heap.get?_push_size _ rfl,?_⟩)⟩;cases hv;rw[hsz];unfold rngL;congr 2;split<;>omega
theorem QeH {x:AV} {Q:Option Value->Shared->Prop} (y:IterAt c f.FX cm s.heap it (x::l)) (b:Base c f.FX s H cm) (hQ:∀v s',ItTurn it s s'->c.rep f.FX cm s'.heap x v->IterAt c f.FX cm s'.heap it l->Q (some v) s'):wpAny (model P0 c.w) A (pyNext (.ref it)) Q E s:=by
 obtain⟨h1,h2,h3,h4,h6⟩:=id y;rcases h6 with ⟨a,o,xs,n,i,q1,q2,q3,q4,q6⟩ | ⟨a,o,xs,n,i,q1,q2,q3,q4,q6⟩ | ⟨a,left,q1,q2⟩
 ·obtain⟨v,r,e,rv,rl⟩:=q6
  have hx:xs.toArray[i]?=some v:=by
   have:(xs.drop i)[0]?=some v:=by rw[e]; rfl
   rw[List.getElem?_drop] at this;simpa using this
  have hr:xs.drop (i+1)=r:=by
   have:(xs.drop i).drop 1=r:=by rw[e]; rfl
   rwa [List.drop_drop] at this
  refine wpAny_pyNext_list_item q4 ⟨o,q1.1,q2,n,q3⟩ hx fun h' hi hs=>?_
  have t:ItTurn it s {s with heap:=h'}:=⟨fun b o hb e=>(hs.2 b hb).trans e,rfl,rfl⟩;have rr:=t.rr y;obtain⟨oi,z1,z2,z3⟩:=id hi;refine hQ v _ t (Cx.rep_mono rr (.refl _) rv) ⟨h1,h2,h3,⟨oi,z1,by simp[stab,z3,z2]⟩,.inl ⟨a,o,xs,n,i+1,rr _ _ q1,q2,q3,hi,?_⟩⟩;rw[hr];exact Cx.reps_mono rr (.refl _) rl
 ·obtain⟨v,r,e,rv,rl⟩:=q6
  have hx:xs.toArray[i]?=some v:=by
   have:(xs.drop i)[0]?=some v:=by rw[e]; rfl
   rw[List.getElem?_drop] at this;simpa using this
  have hr:xs.drop (i+1)=r:=by
   have:(xs.drop i).drop 1=r:=by rw[e]; rfl
   rwa [List.drop_drop] at this
  refine wpAny_pyNext_tuple_item q4 ⟨o,q1.1,q2,n,q3⟩ hx fun h' hi hs=>?_
  have t:ItTurn it s {s with heap:=h'}:=⟨fun b o hb e=>(hs.2 b hb).trans e,rfl,rfl⟩;have rr:=t.rr y;obtain⟨oi,z1,z2,z3⟩:=id hi;refine hQ v _ t (Cx.rep_mono rr (.refl _) rv) ⟨h1,h2,h3,⟨oi,z1,by simp[stab,z3,z2]⟩,.inr (.inl ⟨a,o,xs,n,i+1,rr _ _ q1,q2,q3,hi,?_⟩)⟩;rw[hr];exact Cx.reps_mono rr (.refl _) rl
 ·have hl:0<left:=by
   by_cases h:0<left
   ·exact h
   ·rw[show left.toNat=0 by omega] at q2; cases q2
  obtain⟨m,hm⟩:∃m:Nat,left.toNat=m+1:=⟨left.toNat-1,by omega⟩;rw[hm,Qg3] at q2;cases q2;refine wpAny_pyNext_range_item q1 hl fun h' hi hs=>?_
  have t:ItTurn it s {s with heap:=h',toks:=s.toks+1}:=⟨fun b o hb e=>(hs.2 b hb).trans e,rfl,rfl⟩;refine hQ _ _ t ⟨_,rfl⟩ ⟨h1,h2,h3,⟨_,hi,rfl⟩,.inr (.inr ⟨a+1,left-1,hi,?_⟩)⟩;rw[show (left-1).toNat=m by omega]
theorem Qf5 {Q:Option Value->Shared->Prop} (hh:A.handled=none) (y:IterAt c f.FX cm s.heap it []) (hQ:∀s',ItTurn it s s'->Q none s'):wpAny (model P0 c.w) A (pyNext (.ref it)) Q E s:=by
 obtain⟨h1,h2,h3,h4,h6⟩:=id y;rcases h6 with ⟨a,o,xs,n,i,q1,q2,q3,q4,q6⟩ | ⟨a,o,xs,n,i,q1,q2,q3,q4,q6⟩ | ⟨a,left,q1,q2⟩
 ·have hx:xs.toArray[i]?=none:=by
   have q7:xs.drop i=[]:=q6;simpa using List.drop_eq_nil_iff.mp q7
  exact wpAny_pyNext_list_end hh q4 ⟨o,q1.1,q2,n,q3⟩ hx fun h' he=>hQ _ ⟨fun b o hb e=>he b o hb e,rfl,rfl⟩
 ·have hx:xs.toArray[i]?=none:=by
   have q7:xs.drop i=[]:=q6;simpa using List.drop_eq_nil_iff.mp q7
  exact wpAny_pyNext_tuple_end hh q4 ⟨o,q1.1,q2,n,q3⟩ hx fun h' he=>hQ _ ⟨fun b o hb e=>he b o hb e,rfl,rfl⟩
 ·have hl:left≤0:=by
   by_cases h:left≤0
   ·exact h
   ·obtain⟨m,hm⟩:∃m:Nat,left.toNat=m+1:=⟨left.toNat-1,by omega⟩
    rw[hm,Qg3] at q2; cases q2
  exact wpAny_pyNext_range_end hh q1 hl fun h' he=>hQ _ ⟨fun b o hb e=>he b o hb e,rfl,rfl⟩
end
end
section
section
variable {c:Cx} {f g:Fm} {s s' s_0 s_1 s_2:Shared} {ρ ρ':List AV} {H H':AH} {cm cm' cm_1 cm_0:CM} {A:Around} {M:Model} {E:Value->Shared->Prop} {a it:Addr} {FX FX':List Addr} {l:List AV}
theorem let_go {x:PySem.Expr} {v:Value} {Q:Unit->Shared->Prop} (y:IterAt c FX cm s.heap it l) (h:Q () s):wpAny M A (letOwnedTupleGo x (.ref it) v) Q E s:=by
 have key:wpAny M A (do
   let (.ref r,.ref a):=(Value.ref it,v) | return
   let o ←load r
   match o.cls,o.data with
   | .type n,.fields vs =>
    if ["enumerate","zip","dict_itemiterator","dict_reverseitemiterator","odict_iterator","itertools.zip_longest","itertools.pairwise"].contains n&&vs[0]?==some (rawInt a) then
     rule "for.unpacks-the-owned-tuple"
     updateField r 0 .none
   | _,_=>pure ():Sem Unit) Q E s:=by
  cases v<;>first | exact wpAny_pure h | skip
  rename_i a;obtain⟨_,_,_,_,h6⟩:=y;rcases h6 with ⟨_,_,_,_,_,_,_,_,⟨o,e,h1,h2⟩,_⟩ | ⟨_,_,_,_,_,_,_,_,⟨o,e,h1,h2⟩,_⟩ | ⟨_,_,e,_⟩
  ·refine wpAny_bind (wpAny_load e ?_)
   rw[h1,h2];dsimp only;rw[if_neg (by simp)];exact wpAny_pure h
  ·refine wpAny_bind (wpAny_load e ?_)
   rw[h1,h2];dsimp only;rw[if_neg (by simp)];exact wpAny_pure h
  ·refine wpAny_bind (wpAny_load e ?_)
   dsimp only;rw[if_neg (by simp)];exact wpAny_pure h
 cases x<;>first | exact wpAny_pure h | exact key
theorem QiK:∀{l:List PySem.Expr} {xs:List Str},names? l=some xs->∃ps,l=(xs.zip ps).map (fun q=>PySem.Expr.Name q.1 q.2)∧ps.length=xs.length
 | [],xs,h=>by cases h; exact⟨[],rfl,rfl⟩
 | .Name x p::l,xs,h=>by
  simp only[names?,Option.map_eq_some_iff] at h;obtain⟨r,hr,rfl⟩:=h;obtain⟨ps,rfl,h2⟩:=QiK hr;exact⟨p::ps,rfl,by simp[h2]⟩
def tokT (sc:Sc) (σ:Sl) (ow:Str->Bool) (x:Str) (k:Nat):Prop:=σ.lookup x=some k∧ow x=true∧(sc.lookup x=some .local∨sc.lookup x=some .cell)
theorem Qej:∀(xs:List Str) (ps:List Pos) (ts:List Nat) (l:List AV) (vs:List Value) (ρ ρ':List AV) (s:Shared) (Q:Unit->Shared->Prop),ps.length=xs.length->xs.length=ts.length->(∀q∈xs.zip ts,tokT f.sc f.σ f.ow q.1 q.2)->QaK ts l ρ=some ρ' ->
  Inv c f s ρ H cm->c.reps f.FX cm s.heap l vs->(∀s',Nx f.FA f.FO s cm s' cm->Inv c f s' ρ' H cm->Q () s') ->
  wpAny M A (assignInOrder ((assignEach ((xs.zip ps).map fun q=>PySem.Expr.Name q.1 q.2) f.env).map (·.2)) vs) Q E s
 | [],[],[],l,vs,ρ,ρ',s,Q,_,_,_,hs,i,r,hQ=>by
  cases l with
  | nil=>cases hs; exact wpAny_pure (hQ s (Nx.refl ..) i)
  | cons _ _=>cases hs
 | x::xs,p::ps,t::ts,l,vs,ρ,ρ',s,Q,h1,h2,hc,hs,i,r,hQ=>by
  cases l with
  | nil=>cases hs
  | cons v l =>
   obtain⟨w,ws,rfl,rv,rl⟩:=r;have ht:tokT f.sc f.σ f.ow x t:=hc (x,t) (.head _);simp only[QaK] at hs;show wpAny M A (do holding ws (assign (.Name x p) f.env w); assignInOrder ((assignEach ((xs.zip ps).map fun q=>PySem.Expr.Name q.1 q.2) f.env).map (·.2)) ws) Q E s;have ⟨kd,hk1,hk2⟩:∃kd,f.sc.lookup x=some kd∧(kd=.local∨kd=.cell):=ht.2.2.elim (fun h=>⟨_,h,.inl rfl⟩) fun h=>⟨_,h,.inr rfl⟩
   refine wpAny_bind (wpAny_holding (wpAny_assign_Name (Qa1 ht.1 hk1 hk2 ht.2.1 i rv fun s' n i'=>?_)));exact Qej xs ps ts l ws _ ρ' s' Q (by simpa using h1) (by simpa using h2) (fun q hq=>hc q (.tail _ hq)) hs i' (n.reps i.base rl) fun s'' n' i''=>hQ s'' (n.trans n') i''
 | [],_::_,_,_,_,_,_,_,_,h1,_,_,_,_,_,_=>by simp at h1
 | _::_,[],_,_,_,_,_,_,_,h1,_,_,_,_,_,_=>by simp at h1
 | [],[],_::_,_,_,_,_,_,_,_,h2,_,_,_,_,_=>by simp at h2
 | _::_,_::_,[],_,_,_,_,_,_,_,h2,_,_,_,_,_=>by simp at h2
theorem QlW (xs:List Str) (ps:List Pos) (env:Env) (h:ps.length=xs.length):(assignEach ((xs.zip ps).map fun q=>PySem.Expr.Name q.1 q.2) env).length=xs.length∧(assignEach ((xs.zip ps).map fun q=>PySem.Expr.Name q.1 q.2) env).findIdx? (·.1)=none:=by
 induction xs generalizing ps with
 | nil=>simp[assignEach]
 | cons x xs ih =>
  cases ps with
  | nil=>simp at h
  | cons p ps =>
   obtain⟨h1,h2⟩:=ih ps (by simpa using h);constructor
   ·show (((false,_):Bool × (Value->Sem Unit))::assignEach ((xs.zip ps).map fun q=>PySem.Expr.Name q.1 q.2) env).length=_
    rw[List.length_cons,h1]; rfl
   ·show (((false,_):Bool × (Value->Sem Unit))::assignEach ((xs.zip ps).map fun q=>PySem.Expr.Name q.1 q.2) env).findIdx? _=none
    rw[List.findIdx?_cons,h2]; rfl
theorem Qfw:∀{ts:List Nat} {l ρ ρ':List AV},QaK ts l ρ=some ρ'->l.length=ts.length
 | [],[],_,_,_=>rfl
 | [],_::_,_,_,h=>by cases h
 | _::_,[],_,_,h=>by cases h
 | t::ts,v::l,ρ,ρ',h=>by simp only[QaK] at h; simp[Qfw h]
theorem Qfx {t:List Nat} {one:Bool} {x:PySem.Expr} {av:AV} {v:Value} {Q:Unit->Shared->Prop} (hc:chkT f.sc f.σ f.ow t one x=true) (hh:A.handled=none) (hb:bindT t one av ρ=some ρ') (i:Inv c f s ρ H cm) (r:c.rep f.FX cm s.heap av v)
  (hQ:∀s',Nx f.FA f.FO s cm s' cm->Inv c f s' ρ' H cm->Q () s'):wpAny (model P0 c.w) A (assign x f.env v) Q E s:=by
 unfold chkT at hc;split at hc
 ·rename_i b xs hx
  simp only[Bool.and_eq_true,beq_iff_eq,List.all_eq_true,decide_eq_true_eq,Bool.or_eq_true] at hc;obtain⟨⟨⟨hb1,hlen⟩,hall⟩,hnd⟩:=hc;subst hb1;have htok:∀q∈xs.zip t,tokT f.sc f.σ f.ow q.1 q.2:=fun q hq=>by
   obtain⟨⟨⟨q1,q2⟩,q3⟩,_⟩:=hall q hq;exact⟨q1,q2,q3⟩
  cases x<;>first | (simp only[tgt,reduceCtorEq] at hx; done) | skip
  ·rename_i y p
   simp only[tgt,Option.some.injEq,Prod.mk.injEq] at hx;obtain⟨rfl,rfl⟩:=hx
   match t,hlen with
   | [k],_ =>
    simp only[bindT,if_true,QaK,Option.some.injEq] at hb;subst hb;have ht:=htok (y,k) (.head _);have ⟨kd,hk1,hk2⟩:∃kd,f.sc.lookup y=some kd∧(kd=.local∨kd=.cell):=ht.2.2.elim (fun h=>⟨_,h,.inl rfl⟩) fun h=>⟨_,h,.inr rfl⟩
    exact wpAny_assign_Name (Qa1 ht.1 hk1 hk2 ht.2.1 i r hQ)
  ·rename_i elts q p
   simp only[tgt,Option.map_eq_some_iff,Prod.mk.injEq] at hx;obtain⟨ys,hy,rfl,rfl⟩:=hx;obtain⟨ps,rfl,hps⟩:=QiK hy;simp only[bindT,Bool.false_eq_true,if_false] at hb;split at hb
   ·rename_i l
    obtain⟨a,o,vs,n,rfl,q1,q2,q3,q4⟩:=r;obtain⟨e1,e2⟩:=QlW ys ps f.env hps;have hl:=Qfw hb;refine wpAny_assign_Tuple hh ⟨o,q1.1,q2,n,q3⟩ (by rw[e1]; simp[Qan q4]; omega) e2 fun h' he=>?_
    have gr:Grow s {s with heap:=h'}:=⟨fun a o e=>he a o (Nat.ne_of_lt (Heap.lt_size e)) e,rfl,rfl⟩;exact Qej ys ps t l vs ρ ρ' _ Q hps hlen htok hb (gr.inv i) (Cx.reps_mono gr.rr (.refl _) q4) fun s' n' i'=>hQ s' (gr.nx.trans n') i'
   ·cases hb
 ·cases hc
end
end
section
def innerW (w:World) (A:Around) (e elt:PySem.Expr) (gens:List Comprehension) (d:Nat) (acc:Value) (env:Env) (E:Value->Shared->Prop) (K:Shared->Prop) (s:Shared):Prop :=
 match gens[d+1]? with
 | some g'=>wpAny (model P0 w) A (eval g'.iter env) (fun x s_1=>wpAny (model P0 w) A (pyIter x) (fun it s_2=>wpAny (model P0 w) A (runOwn (.compStart e (d+1) it acc env) env) (fun _ s_3=>K s_3) E s_2) E s_1) E s
 | none=>wpAny (model P0 w) A (eval elt env) (fun x s_1=>wpAny (model P0 w) A (call (.builtin "list.append") [acc,x]) (fun _ s_2=>K s_2) E s_1) E s
theorem Qdl {e:PySem.Expr} {env:Env} {x:Value} (h:noSet e=true):foldedSetIterable e env x=pure x:=by
 cases e<;>first | rfl | cases h
section
variable {w:World} {A:Around} {E:Value->Shared->Prop} {R:Result->Shared->Prop} {s:Shared}
theorem Qj5 {elt target iter:PySem.Expr} {gens:List Comprehension} {ifs:List PySem.Expr} {scope:Scope} {pos:Pos} {d:Nat} {it acc:Value} {env:Env} (hg:gens[d]?=some ⟨target,iter,ifs,0⟩) (hgs:gens.all (fun g=>g.is_async==0&&noSet g.iter)=true) (I:Nat->Shared->Prop)
  (turn:∀n s,I n s->∀E,wpAny (model P0 w) A (pyNext it) (fun r s_1=>match r with
   | none=>R (.ok .next) s_1
   | some v=>wpAny (model P0 w) A (letOwnedTupleGo target it v) (fun _ s_1=>wpAny (model P0 w) A (assign target env v) (fun _ s_2 =>
     wpAny (model P0 w) A (forIn ifs true fun c r=>if r=true then do let ok ←isTrue c env (eval c env); pure (ForInStep.yield ok) else pure (ForInStep.yield r)) (fun ok s_3 =>
      if ok=true then innerW w A (.ListComp elt gens scope pos) elt gens d acc env E (fun s₅=>∃m,m<n∧I m s₅) s_3
      else ∃m,m<n∧I m s_3) E s_2) E s_1) E s_1) E s)
  (n:Nat) (h:I n s):codeAny (model P0 w) A (.compLoop (.ListComp elt gens scope pos) d it acc env) R s:=by
 refine codeAny_loop rfl I (fun n s hI=>?_) n h;show wpAny _ A ((compTurn (.ListComp elt gens scope pos) d it acc env).onRaise (fun x=>do noteFrame x env; theTreesLotGoes x)) _ _ s;refine wpAny_noted ?_;unfold compTurn;simp only[hg];refine wpAny_bind (wpAny_standAt ?_);rw[if_neg (by decide)];refine wpAny_bind (wpAny_mono (turn n s hI _) (fun r s_1 h_1=>?_) fun _ _ h'=>h');cases r with
 | none=>exact wpAny_pure h_1
 | some v =>
  refine wpAny_bind (wpAny_mono h_1 (fun _ s_1 h_1=>wpAny_bind (wpAny_mono h_1 (fun _ s_2 h_2=>wpAny_bind (wpAny_mono h_2 (fun ok s_3 h_3=>?_) fun _ _ h'=>h')) fun _ _ h'=>h')) fun _ _ h'=>h');cases ok with
  | false =>
   rw[if_neg (by decide)];exact wpAny_pure ⟨rfl,h_3⟩
  | true =>
   rw[if_pos rfl]
   replace h_3:innerW w A _ elt gens d acc env _ (fun s₅=>∃m,m<n∧I m s₅) s_3:=h_3
   unfold innerW at h_3;cases hq:gens[d+1]? with
   | none =>
    rw[hq] at h_3;dsimp only at h_3 ⊢;refine wpAny_bind (wpAny_bind (wpAny_mono h_3 (fun x s₄ h₄=>wpAny_bind (wpAny_mono h₄ (fun _ s₅ h₅=>wpAny_pure (wpAny_pure ⟨rfl,h₅⟩)) fun _ _ h'=>h')) fun _ _ h'=>h'))
   | some g' =>
    rw[hq] at h_3;dsimp only at h_3 ⊢;have hm:=List.all_eq_true.mp hgs g' (List.mem_of_getElem? hq);simp only[Bool.and_eq_true,beq_iff_eq] at hm;have h0:¬(g'.is_async != 0)=true:=by rw[hm.1]; decide
    refine wpAny_bind (wpAny_mono h_3 (fun x s₄ h₄=>wpAny_bind (wpAny_standAt ?_)) fun _ _ h'=>h');simp only[h0,Qdl hm.2,pure_bind];rw[if_neg Bool.false_ne_true];refine wpAny_bind (wpAny_holding ?_);rw[if_neg Bool.false_ne_true];exact wpAny_mono h₄ (fun it' s₅ h₅=>wpAny_bind (wpAny_mono h₅ (fun _ s₆ h₆=>wpAny_pure ⟨rfl,h₆⟩) fun _ _ h'=>h')) fun _ _ h'=>h'
theorem Qfy {elt target iter:PySem.Expr} {gens:List Comprehension} {ifs:List PySem.Expr} {scope:Scope} {pos:Pos} {d:Nat} {it acc:Value} {env:Env} (hg:gens[d]?=some ⟨target,iter,ifs,0⟩)
  (h0:codeAny (model P0 w) A (.compLoop (.ListComp elt gens scope pos) d it acc env) R s)
  (h:∀E,wpAny (model P0 w) A (pyIter it) (fun it' s'=>codeAny (model P0 w) A (.compLoop (.ListComp elt gens scope pos) d it' acc env) R s') E s) :
  codeAny (model P0 w) A (.compStart (.ListComp elt gens scope pos) d it acc env) R s:=by
 refine codeAny_of_tree ?_;show wpAny _ _ ((compStart (.ListComp elt gens scope pos) d it acc env).onRaise (fun x=>do noteFrame x env; standAt theWindowsPlace)) _ _ s;refine wpAny_notedAt ?_;unfold compStart;have hc:(clausesOf (.ListComp elt gens scope pos))[d]?=some ⟨target,iter,ifs,0⟩:=hg;rw[hc];show wpAny _ _ (ask >>= _) _ _ s;refine wpAny_bind (wpAny_askSetting (wpAny_ite ?_));split
 ·first
   | exact wpAny_bind (wpAny_pure (wpAny_pure (And.intro rfl h0)))
   | exact wpAny_pure (And.intro rfl h0)
 ·first
   | exact wpAny_bind (wpAny_rule (wpAny_bind (wpAny_standAt (wpAny_bind (wpAny_mono (h _) (fun it' s' h'=>wpAny_pure (And.intro rfl h')) fun _ _ x=>x)))))
   | (refine wpAny_bind (wpAny_rule ?_); show wpAny _ _ (standAt iter.pos >>= _) _ _ s; exact wpAny_bind (wpAny_standAt (wpAny_bind (wpAny_mono (h _) (fun it' s' h'=>wpAny_pure (And.intro rfl h')) fun _ _ x=>x))))
end
end
section
def AccAt (c:Cx) (FX:List Addr) (cm:CM) (h:Heap) (D:Addr) (acc:List AV):Prop :=
 ∃xs n,h.get? D=some {cls:=.type "list",dict:=none,data:=.seq (List.toArray xs) n,slots:=#[]}∧c.reps FX cm h acc xs
def AccPost (c:Cx) (g:Fm) (ρ:List AV) (s:Shared) (cm:CM) (D:Addr) (o:Out (List AV)) (K:Shared->Prop):Prop:=match o with
 | .ok acc H=>∀s' cm',Nx (D::g.FA) g.FO s cm s' cm'->Inv c g s' ρ H cm'->AccAt c g.FX cm' s'.heap D acc->K s'
 | _=>False
section
variable {c:Cx} {k:Ck} {n:Nat} {C:Orc} {f g:Fm} {s s' s_0 s_1 s_2:Shared} {ρ ρ' ρ_0:List AV} {H H':AH} {cm cm' cm_1 cm_0:CM} {A:Around} {M:Model} {E:Value->Shared->Prop} {a it D:Addr} {FX FX' FA FO:List Addr} {l acc:List AV} {K:Shared->Prop}
theorem Nx.more {FA':List Addr} (h:∀a,a∈FA->a∈FA') (x:Nx FA FO s cm s' cm'):Nx FA' FO s cm s' cm' :=
 ⟨fun a o e h0 h1 h2 h3=>x.keep a o e h0 (fun q=>h1 (h a q)) h2 h3,x.outer,x.cms,fun a q=>by
  rcases x.new a q with q | q | q | q | q
  ·exact .inl q
  ·exact .inr (.inl q)
  ·exact .inr (.inr (.inl q))
  ·exact .inr (.inr (.inr (.inl (h a q))))
  ·exact .inr (.inr (.inr (.inr q))),x.alive⟩
theorem AccAt.nx (x:AccAt c g.FX cm s.heap D acc) (hD:D∈g.FZ) (i:Inv c g s ρ H cm) (n:Nx g.FA g.FO s cm s' cm'):AccAt c g.FX cm' s'.heap D acc:=by
 obtain⟨xs,m,e,r⟩:=x;have hX:D∈g.FX:=List.mem_append_right _ (List.mem_append_right _ hD);exact⟨xs,m,n.keep D _ e (fun q=>c.glow (by rw[←q]; exact (i.base.lo D (.inl hX)).1)) (fun q=>(i.dj D q).2 hD) (fun q=>i.dj2 D q hD) (i.base.dj D hX),n.reps i.base r⟩
theorem QlX {v:AV} {x:Value} {Q:Value->Shared->Prop} (hD:D∈g.FZ) (i:Inv c g s ρ H cm) (y:AccAt c g.FX cm s.heap D acc) (r:c.rep g.FX cm s.heap v x) (hl:acc.length≤100000)
  (hQ:∀s',Nx (D::g.FA) g.FO s cm s' cm->Inv c g s' ρ H cm->AccAt c g.FX cm s'.heap D (acc++[v])->Q .none s'):wpAny (model P0 c.w) A (call (.builtin "list.append") [.ref D,x]) Q E s:=by
 obtain⟨xs,m,e,rs⟩:=y;have hX:D∈g.FX:=List.mem_append_right _ (List.mem_append_right _ hD);have hxl:=Qan rs;refine call_meets PySem.F.slot_list_append ⟨_,e,rfl⟩ PySem.F.entry_list_append (PySem.F.args_list_append_2 _ _) (AutoListH.list_append_list_val_0 D xs.toArray m x (by rw[List.size_toArray,sizeLine_eq]; omega)) ⟨e,?_⟩;have hn:=Heap.get?_update_self (Obj.mapSeq fun x_1=>x_1.push x) e rfl;have hb:∀a o,a≠D->s.heap.get? a=some o->(s.heap.update D (Obj.mapSeq fun x_1=>x_1.push x)).get? a=some o:=fun a o ha e=>(Heap.get?_update_ne _ _ _ _ ha).trans e
 have nx:Nx (D::g.FA) g.FO s cm {s with heap:=s.heap.update D (Obj.mapSeq fun x_1=>x_1.push x)} cm:=⟨fun a o e _ h1 _ _=>hb a o (fun q=>h1 (by rw[q]; exact .head _)) e,fun a o e h=>⟨o.slots,hb a o (fun q=>i.dj2 a h (q ▸ hD)) e⟩,.refl _,fun _ h=>.inl h,fun a h=>by
  by_cases q:a=D
  ·subst q; show (s.heap.update a _).get? a≠none; rw[hn]; nofun
  ·cases e2:s.heap.get? a with
   | none=>exact absurd e2 h
   | some o=>show (s.heap.update D _).get? a≠none; rw[hb a o q e2]; nofun⟩
 have rr:∀a o,Rr g.FX cm s.heap a o->Rr g.FX cm (s.heap.update D (Obj.mapSeq fun x_1=>x_1.push x)) a o:=fun a o ⟨e,st,n1,n2⟩=>⟨hb a o (fun q=>n1 (q ▸ hX)) e,st,n1,n2⟩
 refine hQ _ nx (i.zmodF hD hb (by show (s.heap.update D _).get? D≠none; rw[hn]; nofun) rfl rfl) ⟨xs++[x],(if (xs.toArray.push x).size==xs.toArray.size then m else m+1),?_,QbN (Cx.reps_mono rr (.refl _) rs) (Qir (Cx.rep_mono rr (.refl _) r))⟩
 have e2:(xs++[x]).toArray=xs.toArray.push x:=by simp
 rw[e2];exact hn
theorem bindA {α β:Type} {rp:CM->Heap->α->β->Prop} {t:Sem β} {o:Out α} {kk:α->AH->Out (List AV)} {Q:β->Shared->Prop} (ih:∀Q E,GPost c rp g ρ' s cm o Q E->wpAny M A t Q E s) (h:AccPost c g ρ s_0 cm_0 D (o.bind kk) K)
  (hk:∀v H_1 x s_1 cm_1,o=.ok v H_1->Nx g.FA g.FO s cm s_1 cm_1->Inv c g s_1 ρ' H_1 cm_1->rp cm_1 s_1.heap v x->AccPost c g ρ s_0 cm_0 D (kk v H_1) K->Q x s_1):wpAny M A t Q E s:=by
 refine ih Q E ?_;cases o with
 | ok v H=>exact fun x s_1 cm_1 n i r=>hk v H x s_1 cm_1 rfl n i r h
 | exc m H=>exact h.elim
 | stuck=>exact h.elim
theorem QhT (zs:List PySem.Expr) (env:Env):forIn zs false (fun c r=>if r=true then do let ok ←isTrue c env (eval c env); pure (ForInStep.yield ok) else pure (ForInStep.yield r))=(pure false:Sem Bool):=by
 induction zs with
 | nil=>rfl
 | cons z zs ih=>rw[List.forIn_cons]; simp only[Bool.false_eq_true,if_false,pure_bind]; exact ih
theorem QlY (e:PE) (l:List PE):evIfs C ρ (e::l) H=(evT C ρ e H).bind fun b H=>if b=true then evIfs C ρ l H else .ok false H:=by
 simp only[evIfs,evT];cases evE C ρ e H with
 | ok v H_1 =>
  simp only[Out.bind_ok];cases pTruth v with
  | none=>rfl
  | some b=>cases b<;>rfl
 | _=>rfl
theorem QiL (rm:Room g A n) (hcd:FrOk k g.env):∀(l:List PE),(∀e∈l,SE c k n C e)->∀zs,chkL k l g.sc g.σ zs=true->∀s H cm (Q:Bool->Shared->Prop) E,Inv c g s ρ H cm->TPost c g ρ s cm (evIfs C ρ l H) Q E ->
  wpAny (model P0 c.w) A (forIn zs true fun c r=>if r=true then do let ok ←isTrue c g.env (eval c g.env); pure (ForInStep.yield ok) else pure (ForInStep.yield r)) Q E s
 | [],_,zs,h,s,H,cm,Q,E,i,p=>by
  cases Qbu h;simp only[evIfs] at p;exact wpAny_pure (p true s cm (Nx.refl ..) i rfl)
 | e::l,hs,zs,h,s,H,cm,Q,E,i,p=>by
  obtain⟨y,r,rfl,_,h1,h2⟩:=QaM h;rw[QlY] at p;rw[List.forIn_cons];simp only[if_true];refine wpAny_bind (wpAny_bind (bindG (rp:=fun _ _ (a b:Bool)=>a=b) (rp':=fun _ _ (a b:Bool)=>a=b) (fun Q=>(hs e (.head _) g hcd y h1).2 A rm ρ s H cm i Q E) p fun v H_1 z s_1 cm_1 _ n_1 i_1 r_1 p=>wpAny_pure ?_));subst r_1;dsimp only;cases v with
  | true=>exact QiL rm hcd l (fun e he=>hs e (.tail _ he)) r h2 s_1 H_1 cm_1 Q E i_1 p
  | false=>rw[QhT]; exact wpAny_pure (p false s_1 cm_1 (Nx.refl ..) i_1 rfl)
theorem Inv.forget (h:∀(j:Nat) (av:AV),ρ[j]?=some av->av≠.unset->ρ'[j]?=some av) (i:Inv c f s ρ' H cm):Inv c f s ρ H cm:=by
 have hs:∀{FX:List Addr} {hh:Heap} {j:Nat} {v:Option Value},slotIs c FX cm hh ρ' j v->slotIs c FX cm hh ρ j v:=fun z av e n=>z av (h _ av e n) n
 exact⟨i.base,i.dj,i.dj2,let ⟨m,n,z⟩:=i.ns; ⟨m,n,fun x j e1 e2=>hs (z x j e1 e2)⟩,fun x j kd a e1 e2 e3 e4=>let ⟨o,ov,e,d,z⟩:=i.cl x j kd a e1 e2 e3 e4; ⟨o,ov,e,d,hs z⟩,i.frs⟩
def unsetAt (ρ:List AV) (j:Nat):Prop:=∀av:AV,ρ[j]?=some av->av=.unset
theorem Qdm:∀{ts:List Nat} {l ρ ρ':List AV},QaK ts l ρ=some ρ'->∀j,j ∉ ts->ρ'[j]?=ρ[j]?
 | [],[],ρ,ρ',h,j,_=>by cases h; rfl
 | [],_::_,_,_,h,_,_=>by cases h
 | _::_,[],_,_,h,_,_=>by cases h
 | t::ts,v::l,ρ,ρ',h,j,hj=>by
  simp only[QaK] at h;rw[Qdm h j (fun q=>hj (.tail _ q)),List.getElem?_set_ne (fun q=>hj (by rw[q]; exact .head _))]
theorem Qjs {t:List Nat} {one:Bool} {x:AV} (h:bindT t one x ρ=some ρ'):∀j,j ∉ t->ρ'[j]?=ρ[j]?:=by
 unfold bindT at h;split at h
 ·exact Qdm h
 ·split at h
  ·exact Qdm h
  ·cases h
theorem Qg4 {Q:Value->Shared->Prop} (y:IterAt c FX cm s.heap it l) (h:Q (.ref it) s):wpAny (model P0 c.w) A (pyIter (.ref it)) Q E s:=by
 obtain⟨_,_,_,_,h6⟩:=y;rcases h6 with ⟨a,o,xs,n,i,q1,q2,q3,q4,q6⟩ | ⟨a,o,xs,n,i,q1,q2,q3,q4,q6⟩ | ⟨a,left,q1,q2⟩
 ·exact wpAny_pyIter_listiter q4 h
 ·exact wpAny_pyIter_tupleiter q4 h
 ·exact wpAny_pyIter_rangeiter q1 h
end
end
section
def gsl:List PG->List Nat
 | []=>[]
 | .mk t _ _ _::gs=>t++gsl gs
def SG (c:Cx) (k:Ck) (n:Nat) (C:Orc):List PG->Prop
 | []=>True
 | .mk _ _ it ifs::gs=>SE c k n C it∧(∀e∈ifs,SE c k n C e)∧SG c k n C gs
section
variable {c:Cx} {k:Ck} {n:Nat} {C:Orc} {f g:Fm} {s s' s_0 s_1 s_2:Shared} {ρ ρ' ρ_0:List AV} {H H':AH} {cm cm' cm_1 cm_0:CM} {A:Around} {M:Model} {E:Value->Shared->Prop} {a it D:Addr} {FX FX' FA FO:List Addr} {l acc:List AV} {K:Shared->Prop}
theorem IterAt.nxD (x:IterAt c g.FX cm s.heap it l) (hD:D∈g.FX) (b:Base c g.FX s H cm) (n:Nx (D::g.FA) g.FO s cm s' cm'):IterAt c g.FX cm' s'.heap it l:=by
 have hg:it≠gh:=fun q=>c.glow (by rw[←q]; exact x.2.2.1)
 have h1:it ∉ D::g.FA:=fun q=>x.1 ((List.mem_cons.mp q).elim (fun q=>q ▸ hD) fun q=>Qay (.inl q))
 have h2:it ∉ g.FO:=fun q=>x.1 (Qay (.inr q))
 obtain⟨o,e,_⟩:=x.2.2.2.1;refine x.mono (fun o e=>n.keep it o e hg h1 h2 x.2.1) x.1 (n.out e hg h1 h2 x.2.1) (Rr.keeps n (fun a h=>h.elim (fun h=>(List.mem_cons.mp h).elim (fun q=>q ▸ hD) fun q=>Qay (.inl q)) fun h=>Qay (.inr h)) b.gh) n.cms
theorem AccAt.turn (x:AccAt c g.FX cm s.heap D acc) (hD:D∈g.FX) (y:IterAt c g.FX cm s.heap it l) (t:ItTurn it s s'):AccAt c g.FX cm s'.heap D acc:=by
 obtain⟨xs,m,e,r⟩:=x;exact⟨xs,m,t.keep D _ (fun q=>y.1 (q ▸ hD)) e,Cx.reps_mono (t.rr y) (.refl _) r⟩
theorem Nx.toD (x:Nx g.FA g.FO s cm s' cm'):Nx (D::g.FA) g.FO s cm s' cm':=x.more fun _ h=>.tail _ h
theorem QeI {elt e x y:PySem.Expr} {pe:PE} {gens:List Comprehension} {zs:List PySem.Expr} {scope:Scope} {pos:Pos} {d:Nat} {t:List Nat} {one:Bool} {ifs:List PE} {gs:List PG} (hg:gens[d]?=some ⟨x,y,zs,0⟩) (hgs:gens.all (fun g=>g.is_async==0&&noSet g.iter)=true)
  (hD:D∈g.FZ) (hcd:FrOk k g.env) (hx:chkT g.sc g.σ g.ow t one x=true) (hz:chkL k ifs g.sc g.σ zs=true) (hi:∀e∈ifs,SE c k n C e) (nd:(t++gsl gs).Nodup) (rm:Room g A n)
  (hrest:∀ρ s_0 cm_0 s H cm acc K E,(∀j∈gsl gs,unsetAt ρ j)->Nx (D::g.FA) g.FO s_0 cm_0 s cm->Inv c g s ρ H cm->AccAt c g.FX cm s.heap D acc->AccPost c g ρ s_0 cm_0 D (evG C (fun ρ H=>evE C ρ pe H) gs ρ acc H) K->innerW c.w A (.ListComp elt gens scope pos) elt gens d (.ref D) g.env E K s)
  {R:Result->Shared->Prop} (hR:∀fl s',K s'->R (.ok fl) s') (hu:∀j∈t++gsl gs,unsetAt ρ j) (h0:s_0.heap.get? it=none)
  (nx:Nx (D::g.FA) g.FO s_0 cm_0 s cm) (iv:Inv c g s ρ H cm) (itr:IterAt c g.FX cm s.heap it l) (ac:AccAt c g.FX cm s.heap D acc)
  (p:AccPost c g ρ s_0 cm_0 D (loopO (fun x acc H=>match bindT t one x ρ with
   | some ρ'=>(evIfs C ρ' ifs H).bind fun b H=>if b=true then evG C (fun ρ H=>evE C ρ pe H) gs ρ' acc H else .ok acc H
   | none=>.stuck) l acc H) K) :
  codeAny (model P0 c.w) A (.compLoop (.ListComp elt gens scope pos) d (.ref it) (.ref D) g.env) R s:=by
 have hX:D∈g.FX:=List.mem_append_right _ (List.mem_append_right _ hD);refine Qj5 hg hgs (fun m s=>∃l acc H cm,m=l.length∧Nx (D::g.FA) g.FO s_0 cm_0 s cm∧Inv c g s ρ H cm∧IterAt c g.FX cm s.heap it l∧AccAt c g.FX cm s.heap D acc∧AccPost c g ρ s_0 cm_0 D (loopO (fun x acc H=>match bindT t one x ρ with
   | some ρ'=>(evIfs C ρ' ifs H).bind fun b H=>if b=true then evG C (fun ρ H=>evE C ρ pe H) gs ρ' acc H else .ok acc H
   | none=>.stuck) l acc H) K) ?_ l.length ⟨l,acc,H,cm,rfl,nx,iv,itr,ac,p⟩
 rintro m s ⟨l,acc,H,cm,rfl,nx,iv,itr,ac,p⟩ E
 cases l with
 | nil =>
  refine Qf5 rm.hh itr fun s' tt=>hR _ _ ?_
  exact p s' cm (nx.mod h0 fun a o ha e=>tt.keep a o ha e) (tt.inv itr iv) (ac.turn hX itr tt)
 | cons x0 l =>
  simp only[loopO] at p;refine QeH itr iv.base fun v s_1 tt rv itr_1=>?_
  have iv_1:=tt.inv itr iv;have ac_1:=ac.turn hX itr tt;have nx_1:Nx (D::g.FA) g.FO s_0 cm_0 s_1 cm:=nx.mod h0 fun a o ha e=>tt.keep a o ha e
  refine let_go itr_1 ?_;cases hb:bindT t one x0 ρ with
  | none=>rw[hb] at p; exact p.elim
  | some ρ' =>
   rw[hb] at p;dsimp only at p;refine Qfx hx rm.hh hb iv_1 rv fun s_2 nx_2 iv_2=>?_
   have itr_2:=itr_1.nx iv_1.base nx_2;have ac_2:=ac_1.nx hD iv_1 nx_2;have hkeep:=Qjs hb;have hfor:∀(j:Nat) (av:AV),ρ[j]?=some av->av≠.unset->ρ'[j]?=some av:=fun j av e hn=>by
    have hj:j ∉ t:=fun q=>hn (hu j (List.mem_append_left _ q) av e)
    rw[hkeep j hj]; exact e
   have hu':∀j∈gsl gs,unsetAt ρ' j:=fun j hj av e=>by
    have hjt:j ∉ t:=fun q=>(List.nodup_append.mp nd).2.2 j q j hj rfl
    rw[hkeep j hjt] at e;exact hu j (List.mem_append_right _ hj) av e
   refine QiL rm hcd ifs hi zs hz s_2 H cm _ E iv_2 ?_;cases hif:evIfs C ρ' ifs H with
   | exc m H_3=>rw[hif] at p; exact p.elim
   | stuck=>rw[hif] at p; exact p.elim
   | ok b H_3 =>
    rw[hif] at p;simp only[Out.bind_ok] at p;intro b' s_3 cm_3 nx_3 iv_3 eb;subst eb;have itr_3:=itr_2.nx iv_2.base nx_3;have ac_3:=ac_2.nx hD iv_2 nx_3;have nx03:=(nx_1.trans nx_2.toD).trans (nx_3.toD (D:=D));cases b with
    | false =>
     rw[if_neg (by decide)] at p ⊢;exact⟨l.length,Nat.lt_succ_self _,l,acc,H_3,cm_3,rfl,nx03,iv_3.forget hfor,itr_3,ac_3,p⟩
    | true =>
     rw[if_pos rfl] at p ⊢;refine hrest ρ' s_3 cm_3 s_3 H_3 cm_3 acc _ E hu' (Nx.refl ..) iv_3 ac_3 ?_;cases hev:evG C (fun ρ H=>evE C ρ pe H) gs ρ' acc H_3 with
     | exc m H₄=>rw[hev] at p; exact p.elim
     | stuck=>rw[hev] at p; exact p.elim
     | ok acc' H₄ =>
      rw[hev] at p;intro s₄ cm₄ nx₄ iv₄ ac₄;exact⟨l.length,Nat.lt_succ_self _,l,acc',H₄,cm₄,rfl,nx03.trans nx₄,iv₄.forget hfor,itr_3.nxD hX iv_3.base nx₄,ac₄,p⟩
theorem Room.mark (r:Room g A n):Room g (A.mark none) n:=⟨r.hh,r.depth,r.units,r.frames⟩
theorem Qfz {elt:PySem.Expr} {pe:PE} {gens:List Comprehension} {scope:Scope} {pos:Pos} (hgs:gens.all (fun g=>g.is_async==0&&noSet g.iter)=true) (hD:D∈g.FZ) (hcd:FrOk k g.env) (he:SE c k n C pe) (helt:chkE k pe g.sc g.σ elt=true) :
  ∀(gs:List PG),SG c k n C gs->∀d cs,gens.drop (d+1)=cs->chkG k gs g.sc g.σ g.sc g.σ g.ow cs=true->(gsl gs).Nodup->∀A,Room g A n->∀ρ s_0 cm_0 s H cm acc K E,(∀j∈gsl gs,unsetAt ρ j)->Nx (D::g.FA) g.FO s_0 cm_0 s cm->Inv c g s ρ H cm->AccAt c g.FX cm s.heap D acc ->
   AccPost c g ρ s_0 cm_0 D (evG C (fun ρ H=>evE C ρ pe H) gs ρ acc H) K->innerW c.w A (.ListComp elt gens scope pos) elt gens d (.ref D) g.env E K s
 | [],_,d,cs,hdr,hck,_,A,rm,ρ,s_0,cm_0,s,H,cm,acc,K,E,hu,nx,iv,ac,p=>by
  simp only[chkG] at hck;have hq:gens[d+1]?=none:=by
   rw[List.isEmpty_iff.mp hck] at hdr;simpa using List.drop_eq_nil_iff.mp hdr
  unfold innerW;rw[hq];simp only[evG] at p;refine bindA (fun Q E=>(he g hcd elt helt).1 A rm ρ s H cm iv Q E) p fun v H_1 x s_1 cm_1 _ n_1 i_1 r_1 p=>?_
  split at p
  ·rename_i hl
   exact QlX hD i_1 (ac.nx hD iv n_1) r_1 hl fun s' n' i' a'=>p s' cm_1 ((nx.trans n_1.toD).trans n') i' a'
  ·exact p.elim
 | .mk t one it ifs::gs,⟨sit,sifs,srest⟩,d,cs,hdr,hck,hnd,A,rm,ρ,s_0,cm_0,s,H,cm,acc,K,E,hu,nx,iv,ac,p=>by
  simp only[chkG] at hck;split at hck
  ·rename_i x y zs a r
   simp only[Bool.and_eq_true,beq_iff_eq] at hck;obtain⟨⟨⟨⟨⟨rfl,_⟩,h1⟩,h2⟩,h3⟩,h4⟩:=hck;have hq:gens[d+1]?=some ⟨x,y,zs,0⟩:=by
    have:(gens.drop (d+1))[0]?=some ⟨x,y,zs,0⟩:=by rw[hdr]; rfl
    rw[List.getElem?_drop] at this;simpa using this
   have hr:gens.drop (d+1+1)=r:=by
    have:(gens.drop (d+1)).drop 1=r:=by rw[hdr]; rfl
    rwa [List.drop_drop] at this
   unfold innerW;rw[hq];simp only[evG] at p;refine bindA (fun Q E=>(sit g hcd y h1).1 A rm ρ s H cm iv Q E) p fun v H_1 xv s_1 cm_1 _ n_1 i_1 r_1 p=>?_
   cases hit:itemsOf v with
   | none=>rw[hit] at p; exact p.elim
   | some l =>
    rw[hit] at p;dsimp only at p;refine Qf4 hit r_1 i_1 fun s_2 gr hnew itr=>wpAny_runOwn ?_
    have nx2:=(nx.trans n_1.toD).trans (gr.nx (FA:=D::g.FA) (FO:=g.FO) (cm:=cm_1));have i_2:=gr.inv i_1;have ac_2:AccAt c g.FX cm_1 s_2.heap D acc:=(ac.nx hD iv n_1).nx hD i_1 gr.nx;have h00:s_0.heap.get? s_1.heap.objs.size=none:=Decidable.byContradiction fun q=>((nx.trans n_1.toD).alive _ q) hnew
    have loop:=QeI (elt:=elt) (e:=elt) (scope:=scope) (pos:=pos) hq hgs hD hcd h2 h3 sifs hnd rm.mark
     (fun ρ s_0 cm_0 s H cm acc K E hu nx iv ac p=>Qfz hgs hD hcd he helt gs srest (d+1) r hr h4 (List.nodup_append.mp hnd).2.1 (A.mark none) rm.mark ρ s_0 cm_0 s H cm acc K E hu nx iv ac p)
     (R:=fun r s'=>match r with | .ok f=>K s' | .error e=>cameBackBy (model P0 c.w) A g.env E e s') (fun _ _ h=>h) hu h00 nx2 i_2 itr ac_2 p
    exact Qfy hq loop fun E=>Qg4 itr loop
  ·cases hck
end
end
def closL (cells:List (Str × Addr)):List (Str × NameKind)->List (Str × Addr)->List (Str × Addr)
 | [],acc=>acc
 | (n,k)::r,acc=>if k==.free then closL cells r (match cells.lookup n with | some a=>(n,a)::acc | none=>acc) else closL cells r acc
theorem Qjt {scope:Scope} {env:Env} (h:∀n,(n,NameKind.free)∈scope.names->(env.cells.lookup n).isSome=true):closureFor scope env=pure (closL env.cells scope.names []):=by
 have key:∀(names:List (Str × NameKind)) (acc:List (Str × Addr)),(∀n,(n,NameKind.free)∈names->(env.cells.lookup n).isSome=true) ->
   forIn names acc (fun (p:Str × NameKind) cs=>if p.2==.free then do let a ←cellOf env p.1; pure (ForInStep.yield ((p.1,a)::cs)) else pure (ForInStep.yield cs))=(pure (closL env.cells names acc):Sem _):=by
  intro names
  induction names with
  | nil=>intro acc _; rfl
  | cons q r ih =>
   obtain⟨n,k⟩:=q;intro acc h;rw[List.forIn_cons];unfold closL;by_cases hk:(k==.free)=true
   ·have hk':=beq_iff_eq.mp hk
    subst hk';obtain⟨a,ha⟩:=Option.isSome_iff_exists.mp (h n (.head _));simp only[cellOf,ha,beq_self_eq_true,if_true,pure_bind];exact ih _ fun m hm=>h m (.tail _ hm)
   ·simp only[hk,if_false,pure_bind,Bool.false_eq_true]
    exact ih _ fun m hm=>h m (.tail _ hm)
 have:=key scope.names [] h;unfold closureFor;show (forIn scope.names [] _ >>= fun r=>pure r:Sem _)=_;rw[show ∀t:Sem (List (Str × Addr)),(t >>= fun r=>pure r)=t from fun t=>LawfulMonad.bind_pure_comp (f:=id) (x:=t) ▸ id_map t];exact this
theorem Qcr (cells:List (Str × Addr)) (x:Str):∀(names:List (Str × NameKind)) (acc:List (Str × Addr)),(names.map (·.1)).Nodup->acc.lookup x=none ->
  (closL cells names acc).lookup x=if names.lookup x=some .free then cells.lookup x else none
 | [],acc,_,h=>by simp[closL,h]
 | (n,k)::r,acc,nd,h=>by
  have nd':(n::r.map (·.1)).Nodup:=nd;unfold closL;rw[List.lookup_cons];cases hx:x==n with
  | true =>
   have e:=beq_iff_eq.mp hx;subst e;have hr:∀acc',(closL cells r acc').lookup x=acc'.lookup x:=by
    have hm:x ∉ r.map (·.1):=(List.nodup_cons.mp nd').1;clear nd nd' h hx
    induction r with
    | nil=>intro acc'; rfl
    | cons q r ih =>
     obtain⟨n',k'⟩:=q;intro acc';have hne:x≠n':=fun e=>hm (by rw[e]; exact .head _)
     have ih':=ih fun q=>hm (.tail _ q)
     unfold closL;split
     ·rw[ih']
      split
      ·rw[List.lookup_cons,beq_eq_false_iff_ne.mpr hne]
      ·rfl
     ·exact ih' _
   dsimp only;by_cases hk:(k==.free)=true
   ·rw[if_pos hk,hr,if_pos (by rw[beq_iff_eq.mp hk])]
    split
    ·rename_i a ha; rw[List.lookup_cons,hx,ha]
    ·rename_i ha; rw[h,ha]
   ·rw[if_neg hk,hr,h,if_neg (fun q=>hk (by cases q; rfl))]
  | false =>
   have hne:x≠n:=fun q=>by rw[q] at hx; simp at hx
   dsimp only;split
   ·refine Qcr cells x r _ (List.nodup_cons.mp nd').2 ?_
    split
    ·rw[List.lookup_cons,hx]; exact h
    ·exact h
   ·exact Qcr cells x r acc (List.nodup_cons.mp nd').2 h
theorem QbP:∀(names:List (Str × NameKind)) (n:Nat) (acc:List (Str × Addr)),cellsFrom n names acc=cellsFrom n names []++acc
 | [],n,acc=>rfl
 | (x,k)::r,n,acc=>by
  unfold cellsFrom;split
  ·rw[QbP r (n+1) ((x,n)::acc),QbP r (n+1) [(x,n)],List.append_assoc]; rfl
  ·exact QbP r n acc
theorem QdM:∀(names:List (Str × NameKind)) (n:Nat) (x:Str) (a:Addr),(x,a)∈cellsFrom n names []->(x,NameKind.cell)∈names
 | [],n,x,a,h=>by cases h
 | (y,k)::r,n,x,a,h=>by
  unfold cellsFrom at h;split at h
  ·rename_i hk
   rw[QbP] at h;rcases List.mem_append.mp h with h | h
   ·exact .tail _ (QdM r _ x a h)
   ·cases List.mem_singleton.mp h
    rw[beq_iff_eq.mp hk]; exact .head _
  ·exact .tail _ (QdM r _ x a h)
theorem lookup_mem {β:Type} {l:List (Str × β)} (nd:(l.map (·.1)).Nodup) {x:Str} {v:β} (h:(x,v)∈l):l.lookup x=some v:=by
 induction l with
 | nil=>cases h
 | cons q r ih =>
  obtain⟨y,u⟩:=q;have nd':(y::r.map (·.1)).Nodup:=nd;rw[List.lookup_cons];rcases List.mem_cons.mp h with h | h
  ·cases h; simp
  ·have hne:x≠y:=fun q=>(List.nodup_cons.mp nd').1 (q ▸ List.mem_map_of_mem (f:=(·.1)) h)
   rw[beq_eq_false_iff_ne.mpr hne];exact ih (List.nodup_cons.mp nd').2 h
theorem Qa8 {β:Type} (x:Str) (l r:List (Str × β)):(l++r).lookup x=(l.lookup x).or (r.lookup x):=Qbv x l r
theorem QfA {names:List (Str × NameKind)} {cells:List (Str × Addr)} {n:Nat} (nd:(names.map (·.1)).Nodup) {x:Str} {a:Addr} (h:(cellsFrom n names (closL cells names [])).lookup x=some a) :
  (names.lookup x=some .cell∧(cellsFrom n names []).lookup x=some a)∨(names.lookup x=some .free∧cells.lookup x=some a):=by
 rw[QbP,Qa8] at h;cases h1:(cellsFrom n names []).lookup x with
 | some b =>
  rw[h1] at h;cases h;exact .inl ⟨lookup_mem nd (QdM names n x _ (mem_of_lookup h1)),rfl⟩
 | none =>
  rw[h1,Option.none_or,Qcr cells x names [] nd rfl] at h;split at h
  ·rename_i hf; exact .inr ⟨hf,h⟩
  ·cases h
theorem QcN (sc:Sc) (x:Str):∀(names:Sc),(relab sc names).lookup x=(names.lookup x).map fun k=>if (k==.free&&sc.lookup x==some .cell)=true then .cell else k
 | []=>rfl
 | (n,k)::r=>by
  show List.lookup x ((if (k==.free&&sc.lookup n==some .cell)=true then (n,NameKind.cell) else (n,k))::relab sc r)=_;have ih:=QcN sc x r;rw[List.lookup_cons];by_cases hc:(k==.free&&sc.lookup n==some .cell)=true
  ·rw[if_pos hc,List.lookup_cons]
   cases hx:x==n with
   | true=>have e:=beq_iff_eq.mp hx; subst e; dsimp only; rw[Option.map_some,if_pos hc]
   | false=>exact ih
  ·rw[if_neg hc,List.lookup_cons]
   cases hx:x==n with
   | true=>have e:=beq_iff_eq.mp hx; subst e; dsimp only; rw[Option.map_some,if_neg hc]
   | false=>exact ih
structure CompS (sc:Sc) (σ:Sl) (own:Sl) (s:Scope):Prop where
 kind:s.kind=.function
 nd:(s.names.map (·.1)).Nodup
 free:∀x,s.names.lookup x=some .free->(σ.lookup x).isSome=true∧(sc.lookup x=some .cell∨sc.lookup x=some .free)∧own.lookup x=none
 cell:∀x,s.names.lookup x=some .cell->(own.lookup x).isSome=true
 loc:∀x,s.names.lookup x=some .local->σ.lookup x=none∨(own.lookup x).isSome=true
 glob:∀x,s.names.lookup x=some .globalImplicit->own.lookup x=none∧σ.lookup x=none
 kinds:∀x kd,s.names.lookup x=some kd->kd=.free∨kd=.cell∨kd=.local∨kd=.globalImplicit
 mine:∀x k,own.lookup x=some k->(s.names.lookup x=some .local∨s.names.lookup x=some .cell)∧∀y j,σ.lookup y=some j->j≠k
 ndo:(own.map (·.2)).Nodup
theorem QlZ {sc:Sc} {σ own:Sl} {s:Scope} (h:compScope sc σ own s=true):CompS sc σ own s:=by
 simp only[compScope,Bool.and_eq_true,beq_iff_eq,decide_eq_true_eq,List.all_eq_true,Bool.not_eq_true',Bool.or_eq_true,bne_iff_ne] at h;obtain⟨⟨⟨⟨⟨⟨⟨h1,h2⟩,h3⟩,h4⟩,h5⟩,h6⟩,h7⟩,h8⟩:=h;have key:∀x kd,s.names.lookup x=some kd->_:=fun x kd e=>h5 (x,kd) (mem_of_lookup e)
 refine⟨h1,h4,fun x e=>?_,fun x e=>?_,fun x e=>?_,fun x e=>?_,fun x kd e=>?_,fun x k e=>?_,h7⟩
 ·have:=key x _ e
  simp only[Bool.and_eq_true,Option.isNone_iff_eq_none,Bool.or_eq_true,beq_iff_eq] at this;exact⟨this.1.1,this.1.2,this.2⟩
 ·exact key x _ e
 ·have:=key x _ e
  simpa using this
 ·have:=key x _ e
  simpa using this
 ·have:=key x _ e
  cases kd<;>first | (simp at this; done) | simp
 ·obtain⟨q1,q2⟩:=h6 (x,k) (mem_of_lookup e)
  exact⟨q1,fun y j e'=>q2 (y,j) (mem_of_lookup e')⟩
section
theorem free_mem {names:Sc} (nd:(names.map (·.1)).Nodup) {n:Str} (h:(n,NameKind.free)∈names):names.lookup n=some .free:=lookup_mem nd h
section
variable {c:Cx} {k:Ck} {n:Nat} {C:Orc} {f g:Fm} {s s' s_0 s_1 s_2:Shared} {ρ ρ' ρ_0:List AV} {H H':AH} {cm cm' cm_1 cm_0:CM} {A:Around} {M:Model} {E:Value->Shared->Prop} {a it D:Addr} {FX FX' FA FO:List Addr} {l acc:List AV} {K:Shared->Prop}
theorem Qj6 {own:Sl} {sc:Scope} {L:Addr} {env:Env} (hc:CompS f.sc f.σ own sc) (hfr:∀x a,(f.sc.lookup x=some .cell∨f.sc.lookup x=some .free)->(f.σ.lookup x).isSome=true->f.env.cells.lookup x=some a->a<L)
  (he:env={compEnvC sc (cellsFrom (L+1) sc.names (closL f.env.cells sc.names [])) L f.env with builtins:=f.env.builtins}) (hge:∀x a,(cellsFrom (L+1) sc.names []).lookup x=some a->L<a) (hap:(cellsFrom (L+1) sc.names []).Pairwise fun x y=>x.2≠y.2) :
  EnvS env (relab f.sc sc.names) (own++f.σ) (fun x=>(own.lookup x).isSome) (L::(cellsFrom (L+1) sc.names []).map (·.2)) (f.FO++f.FA):=by
 subst he;have hk:∀x,f.env.kindOf x=f.sc.lookup x:=fun x=>QaR
 have hsc:∀x kd,(relab f.sc sc.names).lookup x=some kd->∃k0,sc.names.lookup x=some k0∧kd=if (k0==.free&&f.sc.lookup x==some .cell)=true then .cell else k0:=fun x kd e=>by
  rw[QcN] at e;obtain⟨k0,e1,e2⟩:=Option.map_eq_some_iff.mp e;exact⟨k0,e1,e2.symm⟩
 have hlk:∀x a,(cellsFrom (L+1) sc.names (closL f.env.cells sc.names [])).lookup x=some a->(sc.names.lookup x=some .cell∧(cellsFrom (L+1) sc.names []).lookup x=some a)∨(sc.names.lookup x=some .free∧f.env.cells.lookup x=some a):=fun x a e=>QfA hc.nd e
 have hcell:∀x k kd,(own++f.σ).lookup x=some k->(relab f.sc sc.names).lookup x=some kd->(kd=.cell∨kd=.free)->(sc.names.lookup x=some .cell∧own.lookup x=some k)∨(sc.names.lookup x=some .free∧own.lookup x=none∧f.σ.lookup x=some k):=by
  intro x k kd e1 e2 e3;obtain⟨k0,q1,q2⟩:=hsc x kd e2;rw[Qa8] at e1;rcases hc.kinds x k0 q1 with rfl | rfl | rfl | rfl
  ·obtain⟨_,_,z⟩:=hc.free x q1
   rw[z,Option.none_or] at e1;exact .inr ⟨q1,z,e1⟩
  ·obtain⟨k',hk'⟩:=Option.isSome_iff_exists.mp (hc.cell x q1)
   rw[hk'] at e1;cases e1;exact .inl ⟨q1,hk'⟩
  ·rw[if_neg (by simp)] at q2; subst q2; rcases e3 with e3 | e3<;>cases e3
  ·rw[if_neg (by simp)] at q2; subst q2; rcases e3 with e3 | e3<;>cases e3
 refine⟨?_,hc.kind,f.ok.globals,f.ok.builtins,.head _,fun x y a e1 e2=>?_,fun x k kd e1 e2 e3=>?_,fun x y k kx ky e1 e2 e3 e4=>?_⟩
 ·show sc.names.map _=sc.names.map _
  refine List.map_congr_left fun q _=>?_
  obtain⟨m,kd⟩:=q;dsimp only;rw[hk m,f.ok.kind];simp
 ·rcases hlk x a e1 with ⟨q1,q2⟩ | ⟨q1,q2⟩<;>rcases hlk y a e2 with ⟨q3,q4⟩ | ⟨q3,q4⟩
  ·exact name_of_addr hap (mem_of_lookup q2) (mem_of_lookup q4)
  ·obtain⟨hs,hf,_⟩:=hc.free y q3
   exact absurd (hge x a q2) (Nat.lt_asymm (hfr y a hf hs q4))
  ·obtain⟨hs,hf,_⟩:=hc.free x q1
   exact absurd (hge y a q4) (Nat.lt_asymm (hfr x a hf hs q2))
  ·exact f.ok.inj x y a q2 q4
 ·rcases hcell x k kd e1 e2 e3 with ⟨q1,q2⟩ | ⟨q1,q2,q3⟩
  ·obtain⟨a,ha⟩:=Option.isSome_iff_exists.mp (Qbc sc.names (L+1) [] x (.inl q1))
   have ha':(cellsFrom (L+1) sc.names (closL f.env.cells sc.names [])).lookup x=some a:=by rw[QbP,Qa8,ha]; rfl
   have hm:a∈L::(cellsFrom (L+1) sc.names []).map (·.2):=.tail _ (List.mem_map_of_mem (f:=(·.2)) (mem_of_lookup ha));exact⟨a,ha',Nat.ne_of_gt (hge x a ha),.inl hm,fun _=>hm⟩
  ·obtain⟨hs,hf,_⟩:=hc.free x q1
   obtain⟨j,hj⟩:=Option.isSome_iff_exists.mp hs;obtain⟨kd0,hkd0,hkk⟩:∃kd0,f.sc.lookup x=some kd0∧(kd0=.cell∨kd0=.free):=hf.elim (fun h=>⟨_,h,.inl rfl⟩) fun h=>⟨_,h,.inr rfl⟩
   obtain⟨a,w1,w2,w3,_⟩:=f.ok.cell x j kd0 hj hkd0 hkk;have hnc:(cellsFrom (L+1) sc.names []).lookup x=none:=by
    cases h:(cellsFrom (L+1) sc.names []).lookup x with
    | none=>rfl
    | some b =>
     have:=lookup_mem hc.nd (QdM _ _ x b (mem_of_lookup h));rw[q1] at this; cases this
   refine⟨a,?_,Nat.ne_of_lt (hfr x a hf hs w1),.inr (List.mem_append.mpr w3.symm),fun h=>?_⟩
   ·show (cellsFrom (L+1) sc.names (closL f.env.cells sc.names [])).lookup x=some a
    rw[QbP,Qa8,hnc,Option.none_or,Qcr _ x sc.names [] hc.nd rfl,if_pos q1];exact w1
   ·rw[q2] at h; cases h
 ·have hx:∀z kz,(own++f.σ).lookup z=some k->(relab f.sc sc.names).lookup z=some kz->own.lookup z=some k∨(f.σ.lookup z=some k∧∃kd,f.sc.lookup z=some kd):=by
   intro z kz h1 h2;rw[Qa8] at h1;cases ho:own.lookup z with
   | some j=>rw[ho] at h1; cases h1; exact .inl rfl
   | none =>
    rw[ho,Option.none_or] at h1;obtain⟨k0,q1,_⟩:=hsc z kz h2;rcases hc.kinds z k0 q1 with rfl | rfl | rfl | rfl
    ·obtain⟨_,hf,_⟩:=hc.free z q1
     exact .inr ⟨h1,hf.elim (fun h=>⟨_,h⟩) fun h=>⟨_,h⟩⟩
    ·have:=hc.cell z q1; rw[ho] at this; cases this
    ·rcases hc.loc z q1 with hz | hz
     ·rw[hz] at h1; cases h1
     ·rw[ho] at hz; cases hz
    ·have:=(hc.glob z q1).2; rw[this] at h1; cases h1
  rcases hx x kx e1 e3 with q1 | ⟨q1,kd1,q2⟩<;>rcases hx y ky e2 e4 with q3 | ⟨q3,kd2,q4⟩
  ·have nd:=hc.ndo
   clear hx hcell hlk hsc hk hap hge hfr e1 e2 e3 e4;have key:∀(l:Sl),(l.map (·.2)).Nodup->(x,k)∈l->(y,k)∈l->x=y:=by
    intro l
    induction l with
    | nil=>intro _ h; cases h
    | cons q r ih =>
     intro nd h1 h2;have nd':(q.2::r.map (·.2)).Nodup:=nd;rcases List.mem_cons.mp h1 with h1 | h1<;>rcases List.mem_cons.mp h2 with h2 | h2
     ·rw[←h1] at h2; exact (Prod.mk.inj h2).1.symm
     ·exact absurd (by rw[←h1]; exact List.mem_map_of_mem (f:=(·.2)) h2) (List.nodup_cons.mp nd').1
     ·exact absurd (by rw[←h2]; exact List.mem_map_of_mem (f:=(·.2)) h1) (List.nodup_cons.mp nd').1
     ·exact ih (List.nodup_cons.mp nd').2 h1 h2
   exact key own nd (mem_of_lookup q1) (mem_of_lookup q3)
  ·exact absurd rfl ((hc.mine x k q1).2 y k q3)
  ·exact absurd rfl ((hc.mine y k q3).2 x k q1)
  ·exact f.ok.slots x y k kd1 kd2 q1 q3 q2 q4
end
end
section
section
variable {c:Cx} {k:Ck} {n:Nat} {C:Orc} {f g:Fm} {s s' s_0 s_1 s_2:Shared} {ρ ρ' ρ_0:List AV} {H H':AH} {cm cm' cm_1 cm_0:CM} {A:Around} {M:Model} {E:Value->Shared->Prop} {a it D:Addr} {FX FX' FA FO:List Addr} {l acc:List AV} {K:Shared->Prop}
theorem Ql0 {own:Sl} {sc:Scope} {Q:Env->Shared->Prop} (hc:CompS f.sc f.σ own sc) (i:Inv c f s ρ H cm) (hu:∀x k,own.lookup x=some k->unsetAt ρ k)
  (h:∀g s_1 cenv,Callee f g s s_1 []->g.sc=relab f.sc sc.names->g.σ=own++f.σ->g.ow=(fun x=>(own.lookup x).isSome)->g.fs=f.fs->g.env={cenv with scope:=relabel sc f.env}->cenv.locals∈g.FA->Inv c g s_1 ρ H cm->g.env.code=f.env.code->g.env.qual=f.env.qual->Q cenv s_1) :
  wpAny M A (newFunctionEnv sc f.env.globals (closL f.env.cells sc.names []) [] f.env.qual none .none (some f.env)) Q E s:=by
 simp only[newFunctionEnv,Option.isSome_some,if_true];refine wpAny_bind (wpAny_alloc ?_);refine wpAny_bind (wpAny_layCells _ (fun name kind cells=>by cases hkc:kind==NameKind.cell<;>simp[hkc]) _ _ _ _ ?_);have ok:=cellsFrom_ok sc.names (s.heap.push {cls:=.type "dict",data:=.dict #[]}) (s.heap.objs.size+1) [] ⟨fun _ _ hm=>(nomatch hm),List.Pairwise.nil⟩ (by rw[Heap.size_push]; exact Nat.le_refl _);rw[Heap.size_push] at ok;rw[show ({s with heap:=s.heap.push {cls:=.type "dict",data:=.dict #[]}}:Shared).heap.objs.size=s.heap.objs.size+1 from Heap.size_push ..];rw[List.forIn_nil];refine wpAny_bind (wpAny_pure (wpAny_pure ?_));have hge:∀x a,(cellsFrom (s.heap.objs.size+1) sc.names []).lookup x=some a->s.heap.objs.size<a:=fun x a e=>(ok.empty x a (mem_of_lookup e)).2
 have hfr:∀x a,(f.sc.lookup x=some .cell∨f.sc.lookup x=some .free)->(f.σ.lookup x).isSome=true->f.env.cells.lookup x=some a->a<s.heap.objs.size:=fun x a e1 e2 e3=>by
  obtain⟨j,hj⟩:=Option.isSome_iff_exists.mp e2;obtain⟨kd,h1,h2⟩:∃kd,f.sc.lookup x=some kd∧(kd=.cell∨kd=.free):=e1.elim (fun h=>⟨_,h,.inl rfl⟩) fun h=>⟨_,h,.inr rfl⟩
  obtain⟨o,ov,e,_⟩:=i.cl x j kd a hj h1 h2 e3;exact Heap.lt_size e
 have eok:=Qj6 (f:=f) (own:=own) (sc:=sc) (L:=s.heap.objs.size) hc hfr rfl hge ok.apart
 let g:Fm:={env:={compEnvC sc (cellsFrom (s.heap.objs.size+1) sc.names (closL f.env.cells sc.names [])) s.heap.objs.size f.env with builtins:=f.env.builtins},sc:=relab f.sc sc.names,σ:=own++f.σ,ow:=(fun x=>(own.lookup x).isSome),FA:=s.heap.objs.size::(cellsFrom (s.heap.objs.size+1) sc.names []).map (·.2),FO:=f.FO++f.FA,FZ:=f.FZ++[],fs:=f.fs,ok:=eok}
 have hkeep:∀b o,s.heap.get? b=some o->(pushCells (s.heap.push {cls:=.type "dict",data:=.dict #[]}) sc.names).get? b=some o:=fun b o e=>pushCells_keeps _ _ b o (Heap.get?_push_of_some _ e)
 have hL:(pushCells (s.heap.push {cls:=.type "dict",data:=.dict #[]}) sc.names).get? s.heap.objs.size=some {cls:=.type "dict",data:=.dict #[]}:=pushCells_keeps _ _ _ _ (Heap.get?_push_size _ rfl);have gr:Grow s {s with heap:=pushCells (s.heap.push {cls:=.type "dict",data:=.dict #[]}) sc.names}:=⟨hkeep,rfl,rfl⟩;have cal:Callee f g s {s with heap:=pushCells (s.heap.push {cls:=.type "dict",data:=.dict #[]}) sc.names} []:=by
  refine⟨gr,fun a ha=>?_,rfl,rfl⟩;rcases List.mem_cons.mp ha with ha | ha
  ·subst ha
   exact⟨Qai _,by show (pushCells _ _).get? _≠none; rw[hL]; nofun⟩
  ·obtain⟨q,hq,rfl⟩:=List.mem_map.mp ha
   obtain⟨⟨o,e,_⟩,hlt⟩:=ok.empty q.1 q.2 hq;exact⟨Heap.get?_none_of_le (Nat.le_of_lt hlt),by show (pushCells _ _).get? _≠none; rw[e]; nofun⟩
 have hdj:=cal.dj i nofun;have hns:(pushCells (s.heap.push {cls:=.type "dict",data:=.dict #[]}) sc.names).Ns s.heap.objs.size (fun _=>none):=(Heap.Ns.new s.heap (.type "dict")).keeps (pushCells_keeps _ _);refine h g _ _ cal rfl rfl rfl rfl rfl (.head _) ⟨Base.callee cal i.base,hdj.1,hdj.2,⟨_,hns,fun x j q1 q2 av q3 q4=>?_⟩,fun x j kd a q1 q2 q3 q4=>?_,fun e he=>?_⟩ rfl rfl
 ·exfalso
  have q1':(own++f.σ).lookup x=some j:=q1;rw[Qa8] at q1';have q2':(relab f.sc sc.names).lookup x=some .local:=q2;rw[QcN] at q2';obtain⟨k0,w1,w2⟩:=Option.map_eq_some_iff.mp q2';have hk0:k0=.local:=by
   split at w2
   ·cases w2
   ·exact w2
  subst hk0;cases ho:own.lookup x with
  | some j'=>rw[ho] at q1'; cases q1'; exact q4 (hu x _ ho av q3)
  | none =>
   rw[ho,Option.none_or] at q1';rcases hc.loc x w1 with z | z
   ·rw[z] at q1'; cases q1'
   ·rw[ho] at z; cases z
 ·have q4':(cellsFrom (s.heap.objs.size+1) sc.names (closL f.env.cells sc.names [])).lookup x=some a:=q4
  have q1':(own++f.σ).lookup x=some j:=q1;rw[Qa8] at q1';rcases QfA hc.nd q4' with ⟨w1,w2⟩ | ⟨w1,w2⟩
  ·obtain⟨⟨o,e1,e2⟩,_⟩:=ok.empty x a (mem_of_lookup w2)
   refine⟨o,none,e1,e2,fun av q5 q6=>?_⟩;obtain⟨j',hj'⟩:=Option.isSome_iff_exists.mp (hc.cell x w1);rw[hj'] at q1'; cases q1';exact absurd (hu x _ hj' av q5) q6
  ·obtain⟨hs,hf,ho⟩:=hc.free x w1
   rw[ho,Option.none_or] at q1';obtain⟨kd0,h1,h2⟩:∃kd,f.sc.lookup x=some kd∧(kd=.cell∨kd=.free):=hf.elim (fun h=>⟨_,h,.inl rfl⟩) fun h=>⟨_,h,.inr rfl⟩
   obtain⟨o,ov,e,d,z⟩:=i.cl x j kd0 a q1' h1 h2 w2;exact⟨o,ov,hkeep a o e,d,z.mono cal.rr (.refl _)⟩
 ·obtain⟨q1,L,o,q2,q3,q4,q5⟩:=i.frs e he
  exact⟨q1,L,o,q2,hkeep _ _ q3,q4,.inr (by show L∈f.FO++f.FA; exact List.mem_append.mpr q5.symm)⟩
end
end
section
section
variable {c:Cx} {k:Ck} {n:Nat} {C:Orc} {f g:Fm} {s s' s_0 s_1 s_2:Shared} {ρ ρ' ρ_0:List AV} {H H':AH} {cm cm' cm_1 cm_0:CM} {A:Around} {M:Model} {E:Value->Shared->Prop} {a it D:Addr} {FX FX' FA FO:List Addr} {l acc:List AV} {K:Shared->Prop}
theorem Qm0:∀{gs:List PG},clrOk gs ρ=true->∀j∈gsl gs,unsetAt ρ j
 | [],_,j,hj=>by cases hj
 | .mk t one it ifs::gs,h,j,hj=>by
  simp only[clrOk,Bool.and_eq_true,List.all_eq_true] at h;rcases List.mem_append.mp (show j∈t++gsl gs from hj) with hj | hj
  ·intro av e
   have:=h.1 j hj;rw[e] at this;cases av<;>first | rfl | cases this
  ·exact Qm0 h.2 j hj
theorem Qm1:∀{gs:List PG} {cs:List Comprehension} {own:Sl},gslots gs cs=some own->(∀sc' σ' ow sc σ,chkG k gs sc σ sc' σ' ow cs=true->own.map (·.2)=gsl gs)
 | [],[],own,h,_,_,_,_,_,_=>by cases h; rfl
 | [],_::_,_,h,_,_,_,_,_,_=>by simp[gslots] at h
 | .mk _ _ _ _::_,[],_,h,_,_,_,_,_,_=>by simp[gslots] at h
 | .mk t one it ifs::gs,⟨x,y,zs,a⟩::cs,own,h,sc',σ',ow,sc,σ,hc=>by
  simp only[gslots] at h;simp only[chkG,Bool.and_eq_true] at hc;split at h
  ·rename_i b xs r hx hr
   cases h;have h2:=Qm1 hr sc' σ' ow sc' σ' hc.2;have hT:=hc.1.1.2;unfold chkT at hT;rw[hx] at hT;simp only[Bool.and_eq_true,beq_iff_eq] at hT;have hl:xs.length=t.length:=hT.1.1.2;show ((xs.zip t)++r).map (·.2)=t++gsl gs;rw[List.map_append,h2,List.map_snd_zip (by omega)]
  ·cases h
theorem comp_back {L:Addr} {s_3 s₄:Shared} (i_1:Inv c f s_1 ρ H cm_1) (gr:Grow s_1 s_3) (hD1:s_1.heap.get? D=none) (hD3:s_3.heap.get? D≠none) (cal:Callee (f.wide D) g s_3 s₄ []) (hL:L∈g.FA) (hf:True)
  (nx:Nx (D::g.FA) g.FO s_1 cm_1 s' cm') (iv:Inv c g s' ρ' H' cm'):Inv c ((f.wide D).wide L) s' ρ H' cm'∧Nx f.FA f.FO s_1 cm_1 s' cm':=by
 have hFO:∀a,a∈g.FO↔a∈f.FO∨a∈f.FA:=fun a=>by rw[cal.FO,List.mem_append]; rfl
 have hL3:=(cal.fresh L hL).1;have hn1:∀a,a∈g.FA->s_1.heap.get? a=none:=fun a h=>Decidable.byContradiction fun q=>gr.some q (cal.fresh a h).1
 have hno:∀a,s_1.heap.get? a≠none->a ∉ D::g.FA:=fun a h q=>(List.mem_cons.mp q).elim (fun q=>h (q ▸ hD1)) fun q=>h (hn1 a q)
 have hal:∀a,a∈f.FX->s_1.heap.get? a≠none:=fun a h=>(i_1.base.lo a (.inl h)).2
 have hXs:∀a,a∈((f.wide D).wide L).FX->a∈g.FX:=fun a h=>by
  rcases Qar.mp h with h | h
  ·subst h; exact cal.mem.mpr (.inl hL)
  ·exact cal.mem.mpr (.inr (.inl h))
 have nx':Nx f.FA f.FO s_1 cm_1 s' cm':=⟨fun a o e h0 h1 h2 h3=>nx.keep a o e h0 (hno a (by rw[e]; nofun)) (fun q=>((hFO a).mp q).elim h2 h1) h3,fun a o e h=>nx.outer a o e ((hFO a).mpr (.inl h)),nx.cms,fun a h=>by
  rcases nx.new a h with h | h | h | h | h
  ·exact .inl h
  ·exact .inr (.inl h)
  ·exact .inr (.inr (.inl h))
  ·exact .inr (.inl ((List.mem_cons.mp h).elim (fun q=>q ▸ hD1) (hn1 a)))
  ·exact ((hFO a).mp h).elim (fun h=>.inr (.inr (.inr (.inr h)))) fun h=>.inr (.inr (.inr (.inl h))),nx.alive⟩
 have hR:∀a o,Rr f.FX cm_1 s_1.heap a o->Rr ((f.wide D).wide L).FX cm' s'.heap a o:=fun a o r=>by
  have r':=nx'.rr i_1.base a o r;obtain⟨e,st,n1,n2⟩:=r;refine⟨r'.1,st,fun q=>?_,r'.2.2.2⟩;have ha:s_1.heap.get? a≠none:=by rw[e]; nofun
  rcases Qar.mp q with q | q
  ·exact hno a ha (.tail _ (q ▸ hL))
  ·rcases Qar.mp q with q | q
   ·exact hno a ha (by rw[q]; exact .head _)
   ·exact n1 q
 have own:∀a o,a∈f.FA∨a∈f.FO->s_1.heap.get? a=some o->∃sl,s'.heap.get? a=some {o with slots:=sl}:=fun a o h e=>nx.outer a o e ((hFO a).mpr h.symm)
 have hnz:∀a,a∈f.FA∨a∈f.FO->a≠L∧a≠D:=fun a h=>⟨fun q=>hno a (hal a (Qay h)) (.tail _ (q ▸ hL)),fun q=>hno a (hal a (Qay h)) (by rw[q]; exact .head _)⟩
 refine⟨⟨iv.base.sub hXs,fun a h=>⟨(i_1.dj a h).1,fun q=>?_⟩,fun a h q=>?_,?_,?_,?_⟩,nx'⟩
 ·rcases List.mem_cons.mp q with q | q
  ·exact (hnz a (.inl h)).1 q
  ·rcases List.mem_cons.mp q with q | q
   ·exact (hnz a (.inl h)).2 q
   ·exact (i_1.dj a h).2 q
 ·rcases List.mem_cons.mp q with q | q
  ·exact (hnz a (.inr h)).1 q
  ·rcases List.mem_cons.mp q with q | q
   ·exact (hnz a (.inr h)).2 q
   ·exact i_1.dj2 a h q
 ·obtain⟨m,⟨o,es,ep,e,r⟩,z⟩:=i_1.ns
  obtain⟨sl,e'⟩:=own _ _ (.inl f.ok.loc) e;exact⟨m,⟨_,es,ep,e',r⟩,fun y k e1 e2=>(z y k e1 e2).mono hR nx.cms⟩
 ·intro y k kd a e1 e2 e3 e4
  obtain⟨o,ov,e,d,z⟩:=i_1.cl y k kd a e1 e2 e3 e4;obtain⟨a',w1,_,w2,_⟩:=f.ok.cell y k kd e1 e2 e3;obtain rfl:a'=a:=Option.some.inj (w1.symm.trans e4);obtain⟨sl,e'⟩:=own _ _ w2 e;exact⟨_,ov,e',d,z.mono hR nx.cms⟩
 ·intro e he
  obtain⟨h1,L',o,h2,h3,h4,h5⟩:=i_1.frs e he;obtain⟨sl,e'⟩:=own _ _ h5 h3;exact⟨h1,L',_,h2,e',h4,h5⟩
theorem QiM {α:Type} (f:AV->α->AH->Out α):∀(l:List AV) (a:α) (H:AH) (m:AV) (H':AH),loopO f l a H≠.exc m H'
 | [],a,H,m,H',h=>by cases h
 | x::l,a,H,m,H',h=>by
  simp only[loopO] at h;split at h
  ·exact QiM f l _ _ m H' h
  ·cases h
theorem Qg5 {elt x y:PySem.Expr} {pe it0:PE} {zs:List PySem.Expr} {aa:Int} {r:List Comprehension} {scope:Scope} {pos pp:Pos} {t:List Nat} {one:Bool} {ifs:List PE} {gs:List PG} {own:Sl} {use:Option (Value->Sem Unit)} {Q:Value->Shared->Prop}
  (hgs:gslots (.mk t one it0 ifs::gs) (⟨x,y,zs,aa⟩::r)=some own) (hcs:compScope f.sc f.σ own scope=true)
  (hck:chkG k (.mk t one it0 ifs::gs) f.sc f.σ (relab f.sc scope.names) (own++f.σ) (fun n=>(own.lookup n).isSome) (⟨x,y,zs,aa⟩::r)=true) (helt:chkE k pe (relab f.sc scope.names) (own++f.σ) elt=true)
  (hall:(⟨x,y,zs,aa⟩::r).all (fun g=>g.is_async==0&&noSet g.iter)=true) (sg:SG c k n C (.mk t one it0 ifs::gs)) (he:SE c k n C pe) (rm:Room f A n) (hcd:FrOk k f.env) (i:Inv c f s ρ H cm) (hclr:clrOk (.mk t one it0 ifs::gs) ρ=true)
  (hS:evG C (fun ρ H=>evE C ρ pe H) (.mk t one it0 ifs::gs) ρ [] H≠.stuck)
  (hE:∀m H',evG C (fun ρ H=>evE C ρ pe H) (.mk t one it0 ifs::gs) ρ [] H=.exc m H'->∀e s' cm',Nx f.FA f.FO s cm s' cm'->Inv c f s' ρ H' cm'->ExcAt c s.heap f.FX cm' s'.heap e m->E e s')
  (hK:∀vs H' D L s' cm',evG C (fun ρ H=>evE C ρ pe H) (.mk t one it0 ifs::gs) ρ [] H=.ok vs H'->s.heap.get? D=none->s.heap.get? L=none->D≠L->Nx f.FA f.FO s cm s' cm'->Inv c ((f.wide D).wide L) s' ρ H' cm'->(∃m,s'.heap.Ns L m)->AccAt c ((f.wide D).wide L).FX cm' s'.heap D vs ->
   compPost (model P0 c.w) A E use Q (.ref D) L (.ok .next) s') :
  wpAny (model P0 c.w) A (comprehension (.ListComp elt (⟨x,y,zs,aa⟩::r) scope pos) scope f.env pp (newList []) false (eval y f.env) use) Q E s:=by
 have hc:=QlZ hcs;obtain⟨sit,sifs,srest⟩:=sg;have hck':=hck;simp only[chkG,Bool.and_eq_true,beq_iff_eq] at hck';obtain⟨⟨⟨⟨⟨rfl,hns⟩,h1⟩,h2⟩,h3⟩,h4⟩:=hck';have hsl:=Qm1 hgs _ _ _ _ _ hck;have hnd:(t++gsl gs).Nodup:=by
  have:=hc.ndo;rw[hsl] at this;exact this
 have hu:=Qm0 hclr;refine wpAny_comprehension_free rfl (fun _=>Qdl hns) (Qjt fun m hm=>?_) hc.kind (fun q hq hl=>lookup_mem hc.nd (by obtain⟨a,b⟩:=q; cases hl; exact hq)) ?_
 ·have q1:=lookup_mem hc.nd hm
  obtain⟨hs,hf,_⟩:=hc.free m q1;obtain⟨j,hj⟩:=Option.isSome_iff_exists.mp hs;obtain⟨kd,w1,w2⟩:∃kd,f.sc.lookup m=some kd∧(kd=.cell∨kd=.free):=hf.elim (fun h=>⟨_,h,.inl rfl⟩) fun h=>⟨_,h,.inr rfl⟩
  obtain⟨a,w3,_⟩:=f.ok.cell m j kd hj w1 w2;rw[w3]; rfl
 ·refine (sit f hcd y h1).1 A rm ρ s H cm i _ E ?_
  cases ho:evE C ρ it0 H with
  | stuck=>exact hS (by simp only[evG,ho]; rfl)
  | exc m H_1=>exact fun e s' cm' nx iv ex=>hE m H_1 (by simp only[evG,ho]; rfl) e s' cm' nx iv ex
  | ok v H_1 =>
   intro xv s_1 cm_1 n_1 i_1 r_1;have hev:evG C (fun ρ H=>evE C ρ pe H) (.mk t one it0 ifs::gs) ρ [] H=match itemsOf v with
    | some l=>loopO (fun x acc H=>match bindT t one x ρ with
     | some ρ'=>(evIfs C ρ' ifs H).bind fun b H=>if b=true then evG C (fun ρ H=>evE C ρ pe H) gs ρ' acc H else .ok acc H
     | none=>.stuck) l [] H_1
    | none=>.stuck:=by simp only[evG,ho]; rfl
   cases hit:itemsOf v with
   | none=>rw[hit] at hev; exact absurd hev hS
   | some l =>
    rw[hit] at hev;dsimp only at hev;refine Qf4 hit r_1 i_1 fun s_2 gr hnew itr=>?_
    refine wpAny_newObj_type (hd:=by size_fits) ?_;have i_2:=gr.inv i_1;have g3:Grow s_2 {s_2 with heap:=s_2.heap.push {cls:=.type "list",dict:=none,data:=.seq ([]:List Value).toArray}}:=Grow.push s_2 _ s_2.toks;have hDo:(s_2.heap.push {cls:=.type "list",dict:=none,data:=.seq ([]:List Value).toArray}).get? s_2.heap.objs.size=some {cls:=.type "list",dict:=none,data:=.seq ([]:List Value).toArray}:=Heap.get?_push_size _ rfl;have i0:=i_2.wider (d:=s_2.heap.objs.size) g3 (Qai _) (by show (s_2.heap.push _).get? _≠none; rw[hDo]; nofun);have hD1:s_1.heap.get? s_2.heap.objs.size=none:=Decidable.byContradiction fun q=>gr.some q (Qai _)
    refine Ql0 (f:=f.wide s_2.heap.objs.size) hc i0 (fun z j hz=>hu j (by rw[show gsl (.mk t one it0 ifs::gs)=own.map (·.2) from hsl.symm]; exact List.mem_map_of_mem (f:=(·.2)) (mem_of_lookup hz))) fun g s₄ cenv cal e1 e2 e3 e4 e5 e6 i₄ e7 e8=>?_
    have e5':({cenv with scope:=relabel scope f.env}:Env)=g.env:=e5.symm;rw[e5'];have e1':g.sc=relab f.sc scope.names:=e1;have e2':g.σ=own++f.σ:=e2;have hDz:s_2.heap.objs.size∈g.FZ:=by rw[cal.FZ]; exact List.mem_append_left _ (.head _)
    have hcd':FrOk k g.env:=⟨e7.trans hcd.1,e8.trans hcd.2⟩;have rmg:Room g A n:=⟨rm.hh,rm.depth,rm.units,by rw[rm.frames,e4]; rfl⟩;have g4:=gr.trans (g3.trans cal.grow);obtain⟨oi,hoi,hoi2⟩:=itr.2.2.2.1;have hit3:=g3.keep _ _ hoi;have hXi:s_1.heap.objs.size ∉ g.FX:=fun q=>by
     rcases cal.mem.mp q with q | q | q
     ·rw[(cal.fresh _ q).1] at hit3; cases hit3
     ·rcases Qar.mp q with q | q
      ·rw[q,Qai] at hoi; cases hoi
      ·exact itr.1 q
     ·cases q
    have rr4:∀a o,Rr f.FX cm_1 s_2.heap a o->Rr g.FX cm_1 s₄.heap a o:=fun a o ⟨e,st,n1,n2⟩=>⟨cal.grow.keep _ _ (g3.keep _ _ e),st,(fun q=>by
     rcases cal.mem.mp q with q | q | q
     ·have:=(cal.fresh _ q).1; rw[g3.keep _ _ e] at this; cases this
     ·rcases Qar.mp q with q | q
      ·rw[q,Qai] at e; cases e
      ·exact n1 q
     ·cases q),n2⟩
    have itr4:IterAt c g.FX cm_1 s₄.heap s_1.heap.objs.size l:=itr.mono (fun o e=>cal.grow.keep _ _ (g3.keep _ _ e)) hXi itr.2.1 rr4 (.refl _);have ac4:AccAt c g.FX cm_1 s₄.heap s_2.heap.objs.size []:=⟨[],0,cal.grow.keep _ _ hDo,rfl⟩;have loop:codeAny (model P0 c.w) A (.compLoop (.ListComp elt (⟨x,y,zs,0⟩::r) scope pos) 0 (.ref s_1.heap.objs.size) (.ref s_2.heap.objs.size) g.env) (compPost (model P0 c.w) A E use Q (.ref s_2.heap.objs.size) cenv.locals) s₄:=by
     refine QeI (e:=elt) (k:=k) (n:=n) (C:=C) (K:=fun s'=>compPost (model P0 c.w) A E use Q (.ref s_2.heap.objs.size) cenv.locals (.ok .next) s') rfl hall hDz hcd' (by rw[e1',e2',e3]; exact h2) (by rw[e1',e2']; exact h3) sifs hnd rmg
      (fun ρ s_0 cm_0 s H cm acc K E hu nx iv ac p=>Qfz hall hDz hcd' he (by rw[e1',e2']; exact helt) gs srest 0 r rfl (by rw[e1',e2',e3]; exact h4) (List.nodup_append.mp hnd).2.1 A rmg ρ s_0 cm_0 s H cm acc K E hu nx iv ac p)
      (fun fl s' h=>by cases use<;>exact h) (s_0:=s_1) (cm_0:=cm_1) hu hnew g4.nx i₄ itr4 ac4 ?_
     have fin:AccPost c g ρ s_1 cm_1 s_2.heap.objs.size (evG C (fun ρ H=>evE C ρ pe H) (.mk t one it0 ifs::gs) ρ [] H) (fun s'=>compPost (model P0 c.w) A E use Q (.ref s_2.heap.objs.size) cenv.locals (.ok .next) s'):=by
      cases hv:evG C (fun ρ H=>evE C ρ pe H) (.mk t one it0 ifs::gs) ρ [] H with
      | stuck=>exact hS hv
      | exc m H_2=>rw[hv] at hev; exact absurd hev.symm (QiM _ _ _ _ _ _)
      | ok vs H_2 =>
       intro s' cm' nx iv ac;obtain⟨b1,b2⟩:=comp_back (L:=cenv.locals) i_1 (gr.trans g3) hD1 (by show (s_2.heap.push _).get? _≠none; rw[hDo]; nofun) cal e6 trivial nx iv;have hloc:g.env.locals=cenv.locals:=by rw[←e5']
       obtain⟨xs,m,ea,ra⟩:=ac;refine hK vs H_2 s_2.heap.objs.size cenv.locals s' cm' hv (Decidable.byContradiction fun q=>n_1.alive _ q hD1) (Decidable.byContradiction fun q=>(gr.trans g3).some (n_1.alive _ q) (cal.fresh _ e6).1) (fun q=>(iv.dj _ e6).2 (q ▸ hDz)) (n_1.trans b2) b1 ?_ ⟨xs,m,ea,Cx.reps_mono (Rr.sub fun a h=>?_) (.refl _) ra⟩
       ·obtain⟨m',hns',_⟩:=iv.ns
        rw[hloc] at hns';exact⟨m',hns'⟩
       ·rcases Qar.mp h with h | h
        ·subst h; exact cal.mem.mpr (.inl e6)
        ·exact cal.mem.mpr (.inr (.inl h))
     rw[hev] at fin;exact fin
    exact Qfy (d:=0) rfl loop fun E=>Qg4 itr4 loop
end
end
section
section
variable {c:Cx} {k:Ck} {n:Nat} {C:Orc} {f g:Fm} {s s' s_0 s_1 s_2:Shared} {ρ ρ' ρ_0:List AV} {H H':AH} {cm cm' cm_1 cm_0:CM} {A:Around} {M:Model} {E:Value->Shared->Prop} {a it D:Addr} {FX FX' FA FO:List Addr} {l acc:List AV} {K:Shared->Prop}
theorem Inv.zdrop {d:Addr} (i:Inv c (f.wide d) s ρ H cm) (hdf:d ∉ f.FX) (hb:∀a o,a≠d->s.heap.get? a=some o->s'.heap.get? a=some o) (hg:s'.gens=s.gens) (ho:s'.os=s.os):Inv c f s' ρ H cm:=by
 have hd:d∈(f.wide d).FX:=Qar.mpr (.inl rfl);have b:=i.base;have hR:∀a o,Rr (f.wide d).FX cm s.heap a o->Rr f.FX cm s'.heap a o:=fun a o ⟨e,st,n1,n2⟩=>⟨hb a o (fun q=>n1 (q ▸ hd)) e,st,fun q=>n1 (Qa6 a q),n2⟩
 have hne:∀a o,c.h_1.get? a=some o->a≠d:=fun a o e q=>by rw[q,(b.lo d (.inl hd)).1] at e; cases e
 have hgd:gh≠d:=fun q=>c.glow (by rw[q]; exact (b.lo d (.inl hd)).1)
 have hFA:∀a,a∈f.FA->a≠d:=fun a h q=>(i.dj a h).2 (by rw[q]; exact .head _)
 have hFO:∀a,a∈f.FO->a≠d:=fun a h q=>i.dj2 a h (by rw[q]; exact .head _)
 have hZ:∀a,a∈adr cm->a≠d:=fun a h q=>b.dj d hd (q ▸ h)
 have hsome:∀a,a≠d->s.heap.get? a≠none->s'.heap.get? a≠none:=fun a h q=>by
  cases e:s.heap.get? a with
  | none=>exact absurd e q
  | some o=>rw[hb a o h e]; nofun
 have hXd:∀a,a∈f.FX->a≠d:=fun a h q=>hdf (q ▸ h)
 refine⟨⟨b.len,fun j p x e1 e2=>Qap (fun a o ha e=>hb a o (hZ a (QaL e1 ha)) e) hR (.refl _) (b.cells j p x e1 e2),fun a h=>⟨(b.lo a (h.imp (Qa6 a) id)).1,hsome a (h.elim (hXd a) (hZ a)) (b.lo a (h.imp (Qa6 a) id)).2⟩,fun a h=>b.dj a (Qa6 a h),b.nd,
  fun x o n e=>hb x o (hne x o e) (b.old x o n e),hg.trans b.gens,ho.trans b.os,b.tab.mono (fun _ e=>hb _ _ hgd e) hR⟩,fun a h=>⟨(i.dj a h).1,fun q=>(i.dj a h).2 (.tail _ q)⟩,fun a h q=>i.dj2 a h (.tail _ q),?_,?_,?_⟩
 ·obtain⟨m,⟨o,es,ep,e,r⟩,z⟩:=i.ns
  exact⟨m,⟨o,es,ep,hb _ _ (hFA _ f.ok.loc) e,r⟩,fun x k e1 e2=>(z x k e1 e2).mono hR (.refl _)⟩
 ·intro x k kd a e1 e2 e3 e4
  obtain⟨o,ov,e,dd,z⟩:=i.cl x k kd a e1 e2 e3 e4;refine⟨o,ov,hb a o ?_ e,dd,z.mono hR (.refl _)⟩;obtain⟨a',q1,_,q2,_⟩:=f.ok.cell x k kd e1 e2 e3;obtain rfl:a'=a:=Option.some.inj (q1.symm.trans e4);exact q2.elim (hFA _) (hFO _)
 ·intro e he
  obtain⟨h1,L,o,h2,h3,h4,h5⟩:=i.frs e he;exact⟨h1,L,o,h2,hb L o (h5.elim (hFA _) (hFO _)) h3,h4,h5⟩
theorem Qf6:∀{gs:List PG} {cs:List Comprehension} {sc σ sc' σ' ow},chkG k gs sc σ sc' σ' ow cs=true->cs.all (fun g=>g.is_async==0&&noSet g.iter)=true
 | [],cs,_,_,_,_,_,h=>by simp only[chkG] at h; rw[List.isEmpty_iff.mp h]; rfl
 | .mk t one it ifs::gs,[],_,_,_,_,_,h=>by simp[chkG] at h
 | .mk t one it ifs::gs,⟨x,y,zs,a⟩::cs,_,_,_,_,_,h=>by
  simp only[chkG,Bool.and_eq_true] at h;simp only[List.all_cons,Bool.and_eq_true];exact⟨⟨h.1.1.1.1.1,h.1.1.1.1.2⟩,Qf6 h.2⟩
theorem Qn8 {x y:PySem.Expr} {cs:List Comprehension} {sc:Scope} (h:xComp x=some (y,cs,sc)):∃p,x=.ListComp y cs sc p:=by
 cases x<;>simp only[xComp,reduceCtorEq,Option.some.injEq,Prod.mk.injEq] at h;obtain⟨rfl,rfl,rfl⟩:=h;exact⟨_,rfl⟩
theorem Ql1 {mu:Bool} {vs:List AV} {H_1:AH} {Q:Value->Shared->Prop} (p:EPost c f ρ s cm (newC H_1 mu vs) Q E) (h0:s.heap.get? D=none) (hd:D ∉ f.FX) (nx:Nx f.FA f.FO s cm s' cm') (iv:Inv c (f.wide D) s' ρ H_1 cm') (ac:AccAt c (f.wide D).FX cm' s'.heap D vs):Q (.ref D) s':=by
 obtain⟨xs,m,e,r⟩:=ac;cases mu with
 | true=>exact EPost.endZ p nx iv hd h0 ⟨rfl,xs,_,m,e,rfl,rfl,rfl,rfl,Cx.reps_mono Rr.zcell (.snoc _ _) r⟩
 | false=>exact EPost.endN p nx iv ⟨D,_,xs,m,rfl,⟨e,rfl,hd,iv.base.dj D (Qar.mpr (.inl rfl))⟩,rfl,rfl,Cx.reps_mono (Rr.sub Qa6) (.refl _) r⟩
theorem Qn9 {e:PE} {gs:List PG} {mu:Bool} (he:SE c k n C e) (sg:SG c k n C gs):SE c k n C (.comp e gs mu):=fun f hcd x h=>by
 simp only[chkE] at h;split at h
 ·rename_i y cs sc hx
  obtain⟨pos,rfl⟩:=Qn8 hx;split at h
  ·rename_i own hown
   simp only[Bool.and_eq_true] at h;obtain⟨⟨⟨h0,h1⟩,h2⟩,h3⟩:=h
   match gs,cs,h0,h2,hown,sg with
   | .mk t one it0 ifs::gs,⟨x0,y0,zs,aa⟩::r,_,h2,hown,sg =>
    have hall:=Qf6 h2;have haa:aa=0:=by
     simp only[List.all_cons,Bool.and_eq_true,beq_iff_eq] at hall;exact hall.1.1
    subst haa;refine Qag rfl fun A rm ρ s H cm i Q E p=>?_
    rw[arm_eval_ListComp];simp only[evE] at p;split at p
    ·rename_i hclr
     refine Qg5 (use:=none) hown h1 h2 h3 hall sg he rm hcd i hclr (fun q=>by rw[q] at p; exact p.elim) (fun m H' q e s' cm' nx iv ex=>by rw[q] at p; exact p e s' cm' nx iv ex) fun vs H' D L s' cm' hv hD hL hDL nx iv ⟨m,hm⟩ ac=>⟨m,hm,fun h' hs=>?_⟩
     rw[hv] at p;have hb:∀a o,a≠L->s'.heap.get? a=some o->h'.get? a=some o:=fun a o ha e=>(hs.2 a ha).trans e
     have iv':=iv.zdrop (s':={s' with heap:=h'}) (fun q=>(Qar.mp q).elim (fun q=>hDL q.symm) (i.fresh hL)) hb rfl rfl;obtain⟨xs,q,e1,e2⟩:=ac;exact Ql1 p hD (i.fresh hD) (nx.mod hL hb) iv' ⟨xs,q,hb D _ hDL e1,Cx.reps_mono (fun a o ⟨e,st,n1,n2⟩=>⟨hb a o (fun q=>n1 (Qar.mpr (.inl q))) e,st,fun q=>n1 (Qa6 a q),n2⟩) (.refl _) e2⟩
    ·exact p.elim
  ·cases h
 ·cases h
end
end
section
section
variable {c:Cx} {k:Ck} {n:Nat} {C:Orc}
mutual
theorem Qaj (ok:CkOk c k) (os:OSnd c n C):∀e:PE,SE c k n C e
 | .non=>Qpw
 | .tru b=>Qpx
 | .int i=>Qpy
 | .str s=>Qpz
 | .loc m=>QpA
 | .glob m v=>QnP ok
 | .bin o a b=>QpC (Qaj ok os a) (Qaj ok os b)
 | .neg a=>QpE (Qaj ok os a)
 | .cmp o a b=>QpG (Qaj ok os a) (Qaj ok os b)
 | .nt a=>se_nt (Qaj ok os a)
 | .and l=>QpH (QbQ ok os l)
 | .or l=>se_or (QbQ ok os l)
 | .ife t a b=>QpI (Qaj ok os t) (Qaj ok os a) (Qaj ok os b)
 | .call f as=>Qn5 os (Qaj ok os f) (QbQ ok os as)
 | .new _ _ _ as=>Qqa ok os (QbQ ok os as)
 | .meth o _ _ _ as=>Qn7 ok os (Qaj ok os o) (QbQ ok os as)
 | .push o x=>QnX (Qaj ok os o) (Qaj ok os x)
 | .pop0 o=>QnY (Qaj ok os o)
 | .dget o x=>QnZ (Qaj ok os o) (Qaj ok os x)
 | .attr o _=>QnW (Qaj ok os o)
 | .sub o i=>QpM (Qaj ok os o) (Qaj ok os i)
 | .upto o i=>QnQ (Qaj ok os o) (Qaj ok os i)
 | .from o i=>QnR (Qaj ok os o) (Qaj ok os i)
 | .rep o m _=>Qp4 (Qaj ok os o) (Qaj ok os m)
 | .cat a b=>Qp3 (Qaj ok os a) (Qaj ok os b)
 | .len a=>QpZ (Qaj ok os a)
 | .abs a=>Qp0 (Qaj ok os a)
 | .sum a=>Qp2 (Qaj ok os a)
 | .min a b=>Qp1 (Qaj ok os a) (Qaj ok os b)
 | .intof a=>QlO (Qaj ok os a)
 | .strof a=>QlP (Qaj ok os a)
 | .range a b=>QlQ (Qaj ok os a) (Qaj ok os b)
 | .range1 a=>Qj0 (Qaj ok os a)
 | .list a _=>QnU (Qaj ok os a)
 | .isinst a _ _=>Qj2 ok (Qaj ok os a)
 | .lst l _=>QpL (QbQ ok os l)
 | .tup l=>QpK (QbQ ok os l)
 | .dct _ l _=>Qp9 (QbQ ok os l)
 | .comp e gs _=>Qn9 (Qaj ok os e) (Qj7 ok os gs)
 | .lam m=>Qqc ok
 | .fstr l=>Qn1 (QbQ ok os l)
 | .fmt a=>Qp7 (Qaj ok os a)
 | .frz a=>Qp5 (Qaj ok os a)
 | .bad=>Qp8
theorem QbQ (ok:CkOk c k) (os:OSnd c n C):∀l:List PE,∀e∈l,SE c k n C e
 | [],e,h=>by cases h
 | a::l,e,h=>(List.mem_cons.mp h).elim (fun q=>q ▸ Qaj ok os a) fun q=>QbQ ok os l e q
theorem Qj7 (ok:CkOk c k) (os:OSnd c n C):∀gs:List PG,SG c k n C gs
 | []=>trivial
 | .mk _ _ it ifs::gs=>⟨Qaj ok os it,QbQ ok os ifs,Qj7 ok os gs⟩
end
end
end
def okName (sc:Sc) (σ:Sl) (m:Nat) (y:Str):Bool:=σ.lookup y==some m&&(sc.lookup y==some .local||sc.lookup y==some .cell)&&!(y==Str.ofString "__debug__")
def noComp:PySem.Expr->Bool
 | .ListComp .. | .SetComp .. | .DictComp ..=>false
 | _=>true
def asgForm (e:PE) (x v:PySem.Expr):Bool:=match v with
 | .ListComp ..=>(match x with
  | .Name ..=>(match e with | .comp ..=>true | _=>false)
  | _=>noStar x)
 | .SetComp .. | .DictComp ..=>false
 | .Tuple vs _ _=>(match x with
  | .Tuple [.Name y1 _,.Name y2 _] _ _=>y1 != y2&&vs.length==2&&vs.all noStar&&!(vs.all (foldedForSure 8))&&!(vs.all (constantsAlone 8))
  | .Tuple [.Subscript ..,.Subscript ..] _ _=>true
  | .Tuple .. | .List .. | .Starred ..=>false
  | _=>true)
 | _=>noStar x
mutual
def chkA (k:Ck):PT->Sc->Sl->PySem.Expr->Bool
 | .loc m,sc,σ,x=>match x with | .Name y _=>okName sc σ m y | _=>false
 | .attr o n,sc,σ,x=>match x with | .Attribute y m _=>m==Str.ofString n&&chkE k o sc σ y | _=>false
 | .sub o i,sc,σ,x=>match x with | .Subscript y z _=>(xSlice z).isNone&&chkE k o sc σ y&&chkE k i sc σ z | _=>false
 | .tup ts,sc,σ,x=>match x with | .Tuple l _ _=>chkAs k ts sc σ l | _=>false
def chkAs (k:Ck):List PT->Sc->Sl->List PySem.Expr->Bool
 | [],_,_,l=>l.isEmpty
 | t::ts,sc,σ,l=>match l with
  | x::r=>noStar x&&chkA k t sc σ x&&chkAs k ts sc σ r
  | []=>false
end
mutual
def chkS (k:Ck):PS->Sc->Sl->Stmt->Bool
 | .asg t e,sc,σ,st=>match st with | .Assign [x] v _=>asgForm e x v&&chkA k t sc σ x&&chkE k e sc σ v | _=>false
 | .aug m o e,sc,σ,st=>match st with | .AugAssign (.Name y _) p v _=>okName sc σ m y&&visL sc y&&!(y==Str.ofString "__classdict__")&&p==opOf o&&chkE k e sc σ v | _=>false
 | .exp e,sc,σ,st=>match st with | .Expr v _=>noComp v&&chkE k e sc σ v | _=>false
 | .ret e,sc,σ,st=>match st with | .Return (some v) _=>chkE k e sc σ v | _=>false
 | .ret0,sc,σ,st=>match st with | .Return none _=>true | _=>false
 | .ite t a b,sc,σ,st=>match st with | .If x u v _=>chkE k t sc σ x&&chkSs k a sc σ u&&chkSs k b sc σ v | _=>false
 | .whl t b,sc,σ,st=>match st with | .While x u [] _=>chkE k t sc σ x&&chkSs k b sc σ u | _=>false
 | .for_ t one it b,sc,σ,st=>match st with | .For x y u [] _=>noSet y&&chkE k it sc σ y&&chkT sc σ (fun _=>true) t one x&&chkSs k b sc σ u | _=>false
 | .cont,sc,σ,st=>match st with | .Continue _=>true | _=>false
 | .pass,sc,σ,st=>match st with | .Pass _=>true | _=>false
 | .raise e,sc,σ,st=>match st with | .Raise (some (.Call (.Name y _) [z] [] _)) none _=>glb sc "Refusal" y&&noStar z&&chkE k e sc σ z | _=>false
 | .tryR b m ek,sc,σ,st=>match st with
  | .Try u [.ExceptHandler (some (.Name y _)) (some w) [.Assign [.Name z _] (.Attribute (.Name w' _) a _) _] _] [] [] _ =>
   glb sc "Refusal" y&&w==w'&&a==Str.ofString "message"&&okName sc σ m z&&okName sc σ ek w&&sc.lookup w==some .local&&m != ek&&chkSs k b sc σ u
  | _=>false
 | .bad,_,_,_=>true
def chkSs (k:Ck):List PS->Sc->Sl->List Stmt->Bool
 | [],_,_,l=>l.isEmpty
 | p::ps,sc,σ,l=>match l with
  | x::r=>chkS k p sc σ x&&chkSs k ps sc σ r
  | []=>false
end
section
structure FrD (k:Ck) (f:Fm):Prop where
 cd:FrOk k f.env
 ow:f.ow=fun _=>true
 fs:∃r,f.fs=f.env::r
 fr:f.env.frame=some f.env.locals
section
variable (c:Cx) (k:Ck) (n:Nat) (C:Orc)
def SS (p:PS):Prop:=∀f,FrD k f->∀st,chkS k p f.sc f.σ st=true->∀A,Room f A n->∀ρ s H cm,Inv c f s ρ H cm->∀Q E,SPost c f s cm (evS C p ρ H) Q E->wpAny (model P0 c.w) A (exec st f.env) Q E s
def SSs (l:List PS):Prop:=∀f,FrD k f->∀st,chkSs k l f.sc f.σ st=true->∀A,Room f A n->∀ρ s H cm,Inv c f s ρ H cm->∀Q E,SPost c f s cm (evSs C l ρ H) Q E->wpAny (model P0 c.w) A (execs st f.env) Q E s
end
section
variable {c:Cx} {k:Ck} {n:Nat} {C:Orc} {f g:Fm} {s s' s_0 s_1 s_2:Shared} {ρ ρ' ρ_0:List AV} {H H':AH} {cm cm' cm_1 cm_0:CM} {A:Around} {M:Model} {E:Value->Shared->Prop} {Q:Flow->Shared->Prop}
theorem SPost.from {o:OS} (h:SPost c f s cm o Q E) (x:Nx f.FA f.FO s cm s' cm'):SPost c f s' cm' o Q E:=by
 cases o with
 | ok fl ρ H=>exact fun y s'' cm'' n=>h y s'' cm'' (x.trans n)
 | exc m ρ H=>exact fun y s'' cm'' n i r=>h y s'' cm'' (x.trans n) i (r.older x.alive)
 | stuck=>exact h
theorem bindT' {α β:Type} {rp:CM->Heap->α->β->Prop} {t:Sem β} {o:Out α} {kk:α->AH->OS} {K:β->Shared->Prop} (ih:∀Q,GPost c rp f ρ s cm o Q E->wpAny M A t Q E s) (h:SPost c f s cm (o.st ρ kk) Q E)
  (hk:∀v H_1 x s_1 cm_1,o=.ok v H_1->Nx f.FA f.FO s cm s_1 cm_1->Inv c f s_1 ρ H_1 cm_1->rp cm_1 s_1.heap v x->SPost c f s_1 cm_1 (kk v H_1) Q E->K x s_1):wpAny M A t K E s:=by
 refine ih K ?_;cases o with
 | ok v H=>exact fun x s_1 cm_1 n i r=>hk v H x s_1 cm_1 rfl n i r (SPost.from h n)
 | exc m H=>exact fun e s_1 cm_1 n i r=>h e s_1 cm_1 n i r
 | stuck=>exact h.elim
theorem bindSS {t:Sem Flow} {o:OS} {kk:Fl->List AV->AH->OS} {K:Flow->Shared->Prop} (ih:∀Q,SPost c f s cm o Q E->wpAny M A t Q E s) (h:SPost c f s cm (o.bind kk) Q E)
  (hk:∀fl ρ_1 H_1 x s_1 cm_1,o=.ok fl ρ_1 H_1->Nx f.FA f.FO s cm s_1 cm_1->Inv c f s_1 ρ_1 H_1 cm_1->flOk c f.FX cm_1 s_1.heap fl x->SPost c f s_1 cm_1 (kk fl ρ_1 H_1) Q E->K x s_1):wpAny M A t K E s:=by
 refine ih K ?_;cases o with
 | ok fl ρ_1 H_1=>exact fun x s_1 cm_1 n i r=>hk fl ρ_1 H_1 x s_1 cm_1 rfl n i r (SPost.from h n)
 | exc m ρ_1 H_1=>exact fun e s_1 cm_1 n i r=>h e s_1 cm_1 n i r
 | stuck=>exact h.elim
theorem SPost.here {fl:Fl} {x:Flow} (h:SPost c f s cm (.ok fl ρ H) Q E) (i:Inv c f s ρ H cm) (r:flOk c f.FX cm s.heap fl x):Q x s:=h x s cm (Nx.refl ..) i r
theorem Qqd:SS c k n C .bad:=fun f fd st h A rm ρ s H cm i Q E p=>by simp only[evS] at p; exact p.elim
theorem Qoa:SS c k n C .pass:=fun f fd st h A rm ρ s H cm i Q E p=>by
 simp only[chkS] at h;split at h
 ·simp only[evS] at p
  exact wpAny_bind (wpAny_standAt (wpAny_pure (SPost.here p i rfl)))
 ·cases h
theorem Qob:SS c k n C .cont:=fun f fd st h A rm ρ s H cm i Q E p=>by
 simp only[chkS] at h;split at h
 ·simp only[evS] at p
  exact wpAny_bind (wpAny_standAt (wpAny_pure (SPost.here p i rfl)))
 ·cases h
theorem Qoc:SS c k n C .ret0:=fun f fd st h A rm ρ s H cm i Q E p=>by
 simp only[chkS] at h;split at h
 ·simp only[evS] at p
  exact wpAny_bind (wpAny_standAt (wpAny_pure (SPost.here p i ⟨_,rfl,rfl⟩)))
 ·cases h
theorem Qqe {e:PE} (he:SE c k n C e):SS c k n C (.ret e):=fun f fd st h A rm ρ s H cm i Q E p=>by
 simp only[chkS] at h;split at h
 ·rename_i v pos
  simp only[evS] at p;rw[exec_Return_some];exact wpAny_bind (wpAny_standAt (wpAny_bind (bindT' (fun Q=>(he f fd.cd v h).1 A rm ρ s H cm i Q E) p fun w H_1 x s_1 cm_1 _ n_1 i_1 r_1 p=>wpAny_pure (SPost.here p i_1 ⟨_,rfl,r_1⟩))))
 ·cases h
theorem Qqf {e:PE} (he:SE c k n C e):SS c k n C (.exp e):=fun f fd st h A rm ρ s H cm i Q E p=>by
 simp only[chkS] at h;split at h
 ·rename_i v pos
  simp only[Bool.and_eq_true] at h;simp only[evS] at p;have hi:interactive f.env=false:=by unfold interactive; rw[f.ok.kind]; rfl
  have hs:swapsWith v none pos.line f.env=pure false:=by
   have h1:=h.1;cases v<;>first | rfl | (cases h1; done)
  rw[exec_Expr _ v pos hi hs];refine wpAny_bind (wpAny_standAt (wpAny_bind (bindT' (fun Q=>(he f fd.cd v h.2).1 A rm ρ s H cm i Q E) p fun w H_1 x s_1 cm_1 _ n_1 i_1 r_1 p=>?_)));cases w<;>first | exact p.elim | skip
  ·cases (show x=.none from r_1)
   rw[dropValue_plain (by nofun)];exact wpAny_pure (SPost.here p i_1 rfl)
  ·obtain⟨t,rfl⟩:=r_1
   rw[dropValue_plain (by nofun)];exact wpAny_pure (SPost.here p i_1 rfl)
 ·cases h
theorem Qju {a:PS} {l:List PS} {sc:Sc} {σ:Sl} {ys:List Stmt} (h:chkSs k (a::l) sc σ ys=true):∃y r,ys=y::r∧chkS k a sc σ y=true∧chkSs k l sc σ r=true:=by
 simp only[chkSs] at h;split at h
 ·rename_i y r
  simp only[Bool.and_eq_true] at h;exact⟨y,r,rfl,h.1,h.2⟩
 ·cases h
theorem QeJ:∀l:List PS,(∀p∈l,SS c k n C p)->SSs c k n C l
 | [],_,f,fd,st,h,A,rm,ρ,s,H,cm,i,Q,E,p=>by
  simp only[chkSs] at h;rw[List.isEmpty_iff.mp h];simp only[evSs] at p;exact wpAny_pure (SPost.here p i rfl)
 | a::l,hs,f,fd,st,h,A,rm,ρ,s,H,cm,i,Q,E,p=>by
  obtain⟨y,r,rfl,h1,h2⟩:=Qju h;simp only[evSs] at p;rw[arm_execs_cons];refine wpAny_bind (bindSS (fun Q=>hs a (.head _) f fd y h1 A rm ρ s H cm i Q E) p fun fl ρ_1 H_1 x s_1 cm_1 _ n_1 i_1 r_1 p=>?_);cases fl with
  | next=>cases r_1; exact QeJ l (fun q hq=>hs q (.tail _ hq)) f fd r h2 A rm ρ_1 s_1 H_1 cm_1 i_1 Q E p
  | cont=>cases r_1; exact wpAny_pure (SPost.here p i_1 rfl)
  | ret v=>obtain⟨z,rfl,rz⟩:=r_1; exact wpAny_pure (SPost.here p i_1 ⟨z,rfl,rz⟩)
theorem Qqg {t:PE} {a b:List PS} (ht:SE c k n C t) (ha:SSs c k n C a) (hb:SSs c k n C b):SS c k n C (.ite t a b):=fun f fd st h A rm ρ s H cm i Q E p=>by
 simp only[chkS] at h;split at h
 ·rename_i x u v pos
  simp only[Bool.and_eq_true] at h;obtain⟨⟨h1,h2⟩,h3⟩:=h;simp only[evS] at p;rw[exec_If];refine wpAny_bind (wpAny_standAt (wpAny_bind (bindT' (rp:=fun _ _ (a b:Bool)=>a=b) (fun Q=>(ht f fd.cd x h1).2 A rm ρ s H cm i Q E) p fun w H_1 z s_1 cm_1 _ n_1 i_1 r_1 p=>?_)));subst r_1;cases w with
  | true=>exact ha f fd u h2 A rm ρ s_1 H_1 cm_1 i_1 Q E p
  | false=>exact hb f fd v h3 A rm ρ s_1 H_1 cm_1 i_1 Q E p
 ·cases h
end
end
section
section
variable {c:Cx} {k:Ck} {n:Nat} {C:Orc} {f g:Fm} {s s' s_0 s_1 s_2:Shared} {ρ ρ' ρ_0:List AV} {H H':AH} {cm cm' cm_1 cm_0:CM} {A:Around} {M:Model} {E:Value->Shared->Prop} {Q:Flow->Shared->Prop} {it:Addr} {l:List AV}
theorem QbR {sc:Sc} {σ:Sl} {m:Nat} {y:Str} (h:okName sc σ m y=true):σ.lookup y=some m∧(∃kd,sc.lookup y=some kd∧(kd=.local∨kd=.cell))∧(y==Str.ofString "__debug__")=false:=by
 simp only[okName,Bool.and_eq_true,beq_iff_eq,Bool.or_eq_true,Bool.not_eq_true'] at h;exact⟨h.1.1,h.1.2.elim (fun q=>⟨_,q,.inl rfl⟩) fun q=>⟨_,q,.inr rfl⟩,h.2⟩
theorem Ql2 {m:Nat} {y:Str} {Q:Value->Shared->Prop} (h1:f.σ.lookup y=some m) (h2:visL f.sc y=true) (h4:(y==Str.ofString "__classdict__")=false) (i:Inv c f s ρ H cm) (p:EPost c f ρ s cm (evE C ρ (.loc m) H) Q E):wpAny (model P0 c.w) A (loadName f.env y) Q E s:=by
 simp only[evE] at p;have key:∃av,ρ[m]?=some av∧av≠.unset∧EPost c f ρ s cm (.ok av H) Q E:=by
  cases hρ:ρ[m]? with
  | none=>rw[hρ] at p; exact p.elim
  | some av=>rw[hρ] at p; cases av<;>first | exact p.elim | exact⟨_,rfl,nofun,p⟩
 obtain⟨av,e1,e2,p⟩:=key;unfold visL at h2;split at h2
 ·rename_i hk
  obtain⟨mm,hn,z⟩:=i.ns;obtain⟨v,hv,r⟩:=z y m h1 hk av e1 e2;exact wpAny_loadName_local f.ok.kind (QaR.trans hk) hn hv (EPost.here p i r)
 ·rename_i hk
  obtain⟨a,ha,_⟩:=f.ok.cell y m _ h1 hk (.inl rfl);obtain⟨o,ov,eo,ed,z⟩:=i.cl y m _ a h1 hk (.inl rfl) ha;obtain⟨v,rfl,r⟩:=z av e1 e2;exact wpAny_loadName_cell f.ok.kind (QaR.trans hk) ha ⟨o,eo,ed⟩ (EPost.here p i r)
 ·rename_i hk
  obtain⟨a,ha,_⟩:=f.ok.cell y m _ h1 hk (.inr rfl);obtain⟨o,ov,eo,ed,z⟩:=i.cl y m _ a h1 hk (.inr rfl) ha;obtain⟨v,rfl,r⟩:=z av e1 e2;exact wpAny_loadName_free f.ok.kind (QaR.trans hk) ha ⟨o,eo,ed⟩ (EPost.here p i r) h4
 ·cases h2
theorem Qqh {m:Nat} {o:Op} {e:PE} (he:SE c k n C e):SS c k n C (.aug m o e):=fun f fd st h A rm ρ s H cm i Q E p=>by
 simp only[chkS] at h;split at h
 ·rename_i y yp op v pos
  simp only[Bool.and_eq_true,beq_iff_eq,Bool.not_eq_true'] at h;obtain⟨⟨⟨⟨h1,h2⟩,h3⟩,rfl⟩,h5⟩:=h;obtain⟨q1,⟨kd,q2,q3⟩,q4⟩:=QbR h1;simp only[evS] at p;rw[exec_AugAssign_Name];have hl:∀Q:Value->Shared->Prop,EPost c f ρ s cm (evE C ρ (.loc m) H) Q E->wpAny (model P0 c.w) A (loadName f.env y) Q E s:=fun Q p=>Ql2 q1 h2 h3 i p
  refine wpAny_bind (wpAny_standAt (wpAny_bind (bindT' hl p fun a H_1 x s_1 cm_1 _ n_1 i_1 r_1 p=>wpAny_bind (wpAny_holding (bindT' (fun Q=>(he f fd.cd v h5).1 A rm ρ s_1 H_1 cm_1 i_1 Q E) p fun b H_2 z s_2 cm_2 _ n_2 i_2 r_2 p=>?_)))));cases hb:pBin o a b with
  | none=>rw[hb] at p; exact p.elim
  | some u =>
   rw[hb] at p;refine wpAny_bind (wpAny_standAt (wpAny_bind (wpAny_operateT ?_)));refine QjU rm i_2 (n_2.rep i_1.base r_1) r_2 ?_;rw[hb];intro w s_3 cm_3 n_3 i_3 r_3;refine wpAny_bind (wpAny_standAt (wpAny_bind (wpAny_bindName (Qa1 q1 q2 q3 (by rw[fd.ow]) i_3 r_3 fun s₄ n₄ i₄=>wpAny_pure ?_))))
   exact p _ s₄ cm_3 (n_3.trans n₄) i₄ rfl
 ·cases h
theorem Qjv {t:PE} {b:List PS} {x:PySem.Expr} {u:List Stmt} (fd:FrD k f) (ht:SE c k n C t) (hb:SSs c k n C b) (h1:chkE k t f.sc f.σ x=true) (h2:chkSs k b f.sc f.σ u=true) (rm:Room f A n)
  {R:Result->Shared->Prop} (hR:∀fl s',Q fl s'->R (.ok fl) s') (N:Nat) (s:Shared) (ρ:List AV) (H:AH) (cm:CM) (nx:Nx f.FA f.FO s_0 cm_0 s cm) (iv:Inv c f s ρ H cm)
  (p:SPost c f s_0 cm_0 (whileN (fun ρ H=>evT C ρ t H) (fun ρ H=>evSs C b ρ H) N ρ H) Q (fun _ _=>False)):codeAny (model P0 c.w) A (.whileLoop x u [] f.env) R s:=by
 refine codeAny_whileLoop (fun m s=>∃ρ H cm,Nx f.FA f.FO s_0 cm_0 s cm∧Inv c f s ρ H cm∧SPost c f s_0 cm_0 (whileN (fun ρ H=>evT C ρ t H) (fun ρ H=>evSs C b ρ H) m ρ H) Q (fun _ _=>False)) ?_ N ⟨ρ,H,cm,nx,iv,p⟩
 rintro m s ⟨ρ,H,cm,nx,iv,p⟩
 cases m with
 | zero=>simp only[whileN] at p; exact p.elim
 | succ m =>
  simp only[whileN] at p;refine (ht f fd.cd x h1).2 A rm ρ s H cm iv _ _ ?_;cases hev:evT C ρ t H with
  | exc _ _=>rw[hev] at p; exact p.elim
  | stuck=>rw[hev] at p; exact p.elim
  | ok bb H_1 =>
   rw[hev] at p;intro b' s_1 cm_1 n_1 i_1 eb;subst eb;cases bb with
   | false =>
    dsimp only at p;rw[if_neg (by decide)];exact wpAny_pure (hR _ _ (p _ s_1 cm_1 (nx.trans n_1) i_1 rfl))
   | true =>
    dsimp only at p;rw[if_pos rfl];refine hb f fd u h2 A rm ρ s_1 H_1 cm_1 i_1 _ _ ?_;cases hbv:evSs C b ρ H_1 with
    | exc _ _ _=>rw[hbv] at p; exact p.elim
    | stuck=>rw[hbv] at p; exact p.elim
    | ok fl ρ_2 H_2 =>
     rw[hbv] at p;intro y s_2 cm_2 n_2 i_2 hfl;cases fl with
     | next=>cases hfl; exact⟨m,Nat.lt_succ_self _,ρ_2,H_2,cm_2,(nx.trans n_1).trans n_2,i_2,p⟩
     | cont=>cases hfl; exact⟨m,Nat.lt_succ_self _,ρ_2,H_2,cm_2,(nx.trans n_1).trans n_2,i_2,p⟩
     | ret v=>obtain⟨z,rfl,rz⟩:=hfl; exact hR _ _ (p _ s_2 cm_2 ((nx.trans n_1).trans n_2) i_2 ⟨z,rfl,rz⟩)
theorem Qg6 (t:List AV->AH->Out Bool) (b:List AV->AH->OS):∀N ρ H m ρ' H',whileN t b N ρ H≠.exc m ρ' H'
 | 0,_,_,_,_,_,h=>by cases h
 | N+1,ρ,H,m,ρ',H',h=>by
  simp only[whileN] at h;split at h
  ·split at h
   ·cases h
   ·exact Qg6 t b N _ _ _ _ _ h
   ·cases h
  ·cases h
  ·cases h
theorem SPost.noexc {o:OS} (h:SPost c f s cm o Q E) (hn:∀m ρ' H',o≠.exc m ρ' H'):SPost c f s cm o Q (fun _ _=>False):=by
 cases o with
 | ok _ _ _=>exact h
 | exc m ρ' H'=>exact absurd rfl (hn m ρ' H')
 | stuck=>exact h
theorem Qqi {t:PE} {b:List PS} (ht:SE c k n C t) (hb:SSs c k n C b):SS c k n C (.whl t b):=fun f fd st h A rm ρ s H cm i Q E p=>by
 simp only[chkS] at h;split at h
 ·rename_i x u pos
  simp only[Bool.and_eq_true] at h;simp only[evS,whileO] at p;split at p
  ·rename_i hN
   exact wpAny_While (Qjv fd ht hb h.1 h.2 rm (fun _ _ h=>h) _ s ρ H cm (Nx.refl ..) i (p.noexc (Qg6 _ _ _ _ _)))
  ·exact p.elim
 ·cases h
end
end
section
section
variable {w:World} {A:Around} {E:Value->Shared->Prop} {R:Result->Shared->Prop} {s:Shared}
theorem Ql3 {target:PySem.Expr} {it:Value} {body:List Stmt} {env:Env} (I:Nat->Shared->Prop)
  (turn:∀n s,I n s->∀E,wpAny (model P0 w) A (pyNext it) (fun r s_1=>match r with
   | none=>R (.ok .next) s_1
   | some v=>wpAny (model P0 w) A (letOwnedTupleGo target it v) (fun _ s_1=>wpAny (model P0 w) A (assign target env v) (fun _ s_2=>wpAny (model P0 w) A (execs body env) (fun f s_3=>match f with
     | .next | .cont=>∃m,m<n∧I m s_3
     | .brk=>R (.ok .next) s_3
     | .ret v=>R (.ok (.ret v)) s_3) E s_2) E s_1) E s_1) E s)
  (n:Nat) (h:I n s):codeAny (model P0 w) A (.forLoop target it body [] env) R s:=by
 refine codeAny_loop' rfl I (fun n s hI=>?_) n h;show wpAny _ _ ((forTurn target it body [] env).onRaise (fun x=>do noteFrame x env; theTreesLotGoes x)) _ _ s;refine wpAny_noted ?_;simp only[forTurn];refine wpAny_bind (wpAny_standAt (wpAny_bind (wpAny_onRaise (wpAny_mono (turn n s hI _) (fun r s_1 h_1=>?_) fun _ _ h'=>wpAny_standAt h'))));cases r with
 | none=>exact wpAny_pure (.inr ⟨rfl,codeAny_block (wpAny_pure h_1)⟩)
 | some v =>
  refine wpAny_bind (wpAny_mono h_1 (fun _ s_2 h_2=>wpAny_bind (wpAny_mono h_2 (fun _ s_3 h_3=>wpAny_bind (wpAny_mono h_3 (fun f s₄ h₄=>?_) fun _ _ h'=>h')) fun _ _ h'=>h')) fun _ _ h'=>h');cases f with
  | next=>exact wpAny_pure (.inl ⟨rfl,h₄⟩)
  | cont=>exact wpAny_pure (.inl ⟨rfl,h₄⟩)
  | brk=>exact wpAny_pure h₄
  | ret v=>exact wpAny_pure h₄
end
section
variable {c:Cx} {k:Ck} {n:Nat} {C:Orc} {f g:Fm} {s s' s_0 s_1 s_2:Shared} {ρ ρ' ρ_0:List AV} {H H':AH} {cm cm' cm_1 cm_0:CM} {A:Around} {M:Model} {E:Value->Shared->Prop} {Q:Flow->Shared->Prop} {it:Addr} {l:List AV}
theorem Ql4 {t:List Nat} {one:Bool} {b:List PS} {x:PySem.Expr} {u:List Stmt} (fd:FrD k f) (hb:SSs c k n C b) (h1:chkT f.sc f.σ (fun _=>true) t one x=true) (h2:chkSs k b f.sc f.σ u=true) (rm:Room f A n)
  {R:Result->Shared->Prop} (hR:∀fl s',Q fl s'->R (.ok fl) s') (h0:s_0.heap.get? it=none) (s:Shared) (ρ:List AV) (H:AH) (cm:CM) (nx:Nx f.FA f.FO s_0 cm_0 s cm) (iv:Inv c f s ρ H cm) (itr:IterAt c f.FX cm s.heap it l)
  (p:SPost c f s_0 cm_0 (loopS (fun x ρ H=>match bindT t one x ρ with
   | some ρ=>evSs C b ρ H
   | none=>.stuck) l ρ H) Q (fun _ _=>False)):codeAny (model P0 c.w) A (.forLoop x (.ref it) u [] f.env) R s:=by
 refine Ql3 (fun m s=>∃l ρ H cm,m=l.length∧Nx f.FA f.FO s_0 cm_0 s cm∧Inv c f s ρ H cm∧IterAt c f.FX cm s.heap it l∧SPost c f s_0 cm_0 (loopS (fun x ρ H=>match bindT t one x ρ with
   | some ρ=>evSs C b ρ H
   | none=>.stuck) l ρ H) Q (fun _ _=>False)) ?_ l.length ⟨l,ρ,H,cm,rfl,nx,iv,itr,p⟩
 rintro m s ⟨l,ρ,H,cm,rfl,nx,iv,itr,p⟩ E
 cases l with
 | nil =>
  simp only[loopS] at p;refine Qf5 rm.hh itr fun s' tt=>hR _ _ (p _ s' cm (nx.mod h0 fun a o ha e=>tt.keep a o ha e) (tt.inv itr iv) rfl)
 | cons x0 l =>
  simp only[loopS] at p;refine QeH itr iv.base fun v s_1 tt rv itr_1=>?_
  have iv_1:=tt.inv itr iv;have nx_1:Nx f.FA f.FO s_0 cm_0 s_1 cm:=nx.mod h0 fun a o ha e=>tt.keep a o ha e
  refine let_go itr_1 ?_;cases hbt:bindT t one x0 ρ with
  | none=>rw[hbt] at p; exact p.elim
  | some ρ' =>
   rw[hbt] at p;dsimp only at p;refine Qfx (by rw[fd.ow]; exact h1) rm.hh hbt iv_1 rv fun s_2 nx_2 iv_2=>?_
   have itr_2:=itr_1.nx iv_1.base nx_2;refine hb f fd u h2 A rm ρ' s_2 H cm iv_2 _ E ?_;cases hbv:evSs C b ρ' H with
   | exc _ _ _=>rw[hbv] at p; exact p.elim
   | stuck=>rw[hbv] at p; exact p.elim
   | ok fl ρ_2 H_2 =>
    rw[hbv] at p;intro y s_3 cm_3 n_3 i_3 hfl;have itr_3:=itr_2.nx iv_2.base n_3;have nx_3:=(nx_1.trans nx_2).trans n_3;cases fl with
    | next=>cases hfl; exact⟨l.length,Nat.lt_succ_self _,l,ρ_2,H_2,cm_3,rfl,nx_3,i_3,itr_3,p⟩
    | cont=>cases hfl; exact⟨l.length,Nat.lt_succ_self _,l,ρ_2,H_2,cm_3,rfl,nx_3,i_3,itr_3,p⟩
    | ret v=>obtain⟨z,rfl,rz⟩:=hfl; exact hR _ _ (p _ s_3 cm_3 nx_3 i_3 ⟨z,rfl,rz⟩)
theorem Qg7 (ff:AV->List AV->AH->OS):∀(l:List AV) ρ H m ρ' H',loopS ff l ρ H≠.exc m ρ' H'
 | [],_,_,_,_,_,h=>by cases h
 | x::l,ρ,H,m,ρ',H',h=>by
  simp only[loopS] at h;split at h
  ·cases h
  ·exact Qg7 ff l _ _ _ _ _ h
  ·cases h
theorem Qqj {t:List Nat} {one:Bool} {it:PE} {b:List PS} (hi:SE c k n C it) (hb:SSs c k n C b):SS c k n C (.for_ t one it b):=fun f fd st h A rm ρ s H cm i Q E p=>by
 simp only[chkS] at h;split at h
 ·rename_i x y u pos
  simp only[Bool.and_eq_true] at h;obtain⟨⟨⟨h0,h1⟩,h2⟩,h3⟩:=h;simp only[evS] at p;refine wpAny_For ?_ (fun _=>Qdl h0);refine bindT' (fun Q=>(hi f fd.cd y h1).1 A rm ρ s H cm i Q E) p fun v H_1 xv s_1 cm_1 _ n_1 i_1 r_1 p=>?_
  cases hit:itemsOf v with
  | none=>rw[hit] at p; exact p.elim
  | some l =>
   rw[hit] at p;dsimp only at p;exact Qf4 hit r_1 i_1 fun s_2 gr hnew itr=>Ql4 fd hb h2 h3 rm (fun _ _ h=>h) hnew s_2 ρ H_1 cm_1 gr.nx (gr.inv i_1) itr (p.noexc (Qg7 _ _ _ _))
 ·cases h
end
end
section
section
variable {c:Cx} {k:Ck} {n:Nat} {C:Orc} {f g:Fm} {s s' s_0 s_1 s_2:Shared} {ρ ρ' ρ_0:List AV} {H H':AH} {cm cm' cm_1 cm_0:CM} {A:Around} {M:Model} {E:Value->Shared->Prop} {it:Addr} {l:List AV}
theorem ItTurn.trans (x:ItTurn it s s_1) (y:ItTurn it s_1 s_2):ItTurn it s s_2:=⟨fun b o h e=>y.keep b o h (x.keep b o h e),y.gens.trans x.gens,y.os.trans x.os⟩
theorem Qj8:∀(l:List AV) (s:Shared) (Q:List Value->Shared->Prop),Inv c f s ρ H cm->IterAt c f.FX cm s.heap it l->(∀vs s',ItTurn it s s'->c.reps f.FX cm s'.heap l vs->IterAt c f.FX cm s'.heap it []->Q vs s')->wpAny (model P0 c.w) A (draw (.ref it) l.length) Q E s
 | [],s,Q,i,y,hQ=>by
  show wpAny _ _ (pure []) Q E s;exact wpAny_pure (hQ [] s ⟨fun _ _ _ e=>e,rfl,rfl⟩ rfl y)
 | x::l,s,Q,i,y,hQ=>by
  show wpAny _ _ (pyNext (.ref it) >>= _) Q E s;refine wpAny_bind (QeH y i.base fun v s_1 t rv y_1=>?_);refine wpAny_bind (wpAny_holding (Qj8 l s_1 _ (t.inv y i) y_1 fun vs s_2 t_2 rvs y_2=>wpAny_pure ?_));exact hQ (v::vs) s_2 (t.trans t_2) ⟨v,vs,rfl,Cx.rep_mono (t_2.rr y_1) (.refl _) rv,rvs⟩ y_2
theorem Qek {v:AV} {x:Value} {Q:List Value->Shared->Prop} (hh:A.handled=none) (hv:(match v with | .tup l | .lst l=>some l | _=>none)=some l) (r:c.rep f.FX cm s.heap v x) (i:Inv c f s ρ H cm)
  (hQ:∀vs s',Nx f.FA f.FO s cm s' cm->Inv c f s' ρ H cm->c.reps f.FX cm s'.heap l vs->Q vs s'):wpAny (model P0 c.w) A (unpackItems x l.length none) Q E s:=by
 have hit:itemsOf v=some l:=by cases v<;>first | exact hv | cases hv
 unfold unpackItems;have hni:∀K:Bool->Shared->Prop,K false s->wpAny (model P0 c.w) A (notIterableAtAll x) K E s:=fun K h=>by
  unfold notIterableAtAll;cases v<;>first | (cases hv; done) | skip
  ·obtain⟨a,o,xs,n,rfl,q1,q2,q3,q4⟩:=r
   exact wpAny_bind (wpAny_specialOf (⟨o,q1.1,q2⟩:s.TypeIs (.ref a) "tuple") F.slot_tuple_iter.lookup (wpAny_pure h))
  ·obtain⟨a,o,xs,n,rfl,q1,q2,q3,q4⟩:=r
   exact wpAny_bind (wpAny_specialOf (⟨o,q1.1,q2⟩:s.TypeIs (.ref a) "list") slot_list_iter.lookup (wpAny_pure h))
 refine wpAny_bind (hni _ ?_);simp only[Bool.false_eq_true,if_false];refine wpAny_bind (wpAny_holding (Qf4 hit r i fun s_1 gr hnew y=>?_));have i_1:=gr.inv i;refine wpAny_bind (wpAny_holding (Qj8 l s_1 _ i_1 y fun vs s_2 t rvs y_2=>?_));have hl:=Qan rvs;rw[if_neg (by omega)];have i_2:=t.inv y i_1;refine wpAny_bind (wpAny_holding (Qf5 hh y_2 fun s_3 t_3=>?_));simp only[Option.isSome_none,Bool.false_eq_true,if_false];have tt:=t.trans t_3;exact wpAny_pure (hQ vs s_3 ((gr.nx (cm:=cm)).mod hnew fun a o ha e=>tt.keep a o ha e) (t_3.inv y_2 i_2) (Cx.reps_mono (t_3.rr y_2) (.refl _) rvs))
end
end
section
section
variable (c:Cx) (k:Ck) (n:Nat) (C:Orc)
def AS (t:PT):Prop:=∀f,FrD k f->∀x,chkA k t f.sc f.σ x=true->∀A,Room f A n->∀ρ s H cm,Inv c f s ρ H cm->∀av y,c.rep f.FX cm s.heap av y->∀(Q:Unit->Shared->Prop) E,SPost c f s cm (asg C t av ρ H) (fun _ s'=>Q () s') E->wpAny (model P0 c.w) A (assign x f.env y) Q E s
end
section
variable {c:Cx} {k:Ck} {n:Nat} {C:Orc} {f g:Fm} {s s' s_0 s_1 s_2:Shared} {ρ ρ' ρ_0:List AV} {H H':AH} {cm cm' cm_1 cm_0:CM} {A:Around} {M:Model} {E:Value->Shared->Prop} {it:Addr} {l:List AV}
theorem Qqk {m:Nat}:AS c k n C (.loc m):=fun f fd x h A rm ρ s H cm i av y r Q E p=>by
 simp only[chkA] at h;split at h
 ·rename_i z pos
  obtain⟨q1,⟨kd,q2,q3⟩,q4⟩:=QbR h;simp only[asg] at p;exact wpAny_assign_Name (Qa1 q1 q2 q3 (by rw[fd.ow]) i r fun s' nx iv=>p _ s' cm nx iv rfl)
 ·cases h
theorem QcO {x:PySem.Expr} {r:List PySem.Expr} {env:Env} (h:noStar x=true):assignEach (x::r) env=(false,assign x env)::assignEach r env:=by
 cases x<;>first | rfl | cases h
theorem as_list:∀(ts:List PT),(∀t∈ts,AS c k n C t)->∀f,FrD k f->∀xs,chkAs k ts f.sc f.σ xs=true->∀A,Room f A n->∀ρ s H cm,Inv c f s ρ H cm->∀l vs,c.reps f.FX cm s.heap l vs->l.length=ts.length->∀(Q:Unit->Shared->Prop) E,
  SPost c f s cm (asgs C ts l ρ H) (fun _ s'=>Q () s') E->wpAny (model P0 c.w) A (assignInOrder ((assignEach xs f.env).map (·.2)) vs) Q E s
 | [],_,f,fd,xs,h,A,rm,ρ,s,H,cm,i,l,vs,r,hl,Q,E,p=>by
  simp only[chkAs] at h;rw[List.isEmpty_iff.mp h]
  match l,hl with
  | [],_ =>
   cases (show vs=[] from r);simp only[asgs] at p;exact wpAny_pure (p .next s cm (Nx.refl ..) i rfl)
 | t::ts,hs,f,fd,xs,h,A,rm,ρ,s,H,cm,i,l,vs,r,hl,Q,E,p=>by
  simp only[chkAs] at h;split at h
  ·rename_i x xr
   simp only[Bool.and_eq_true] at h;obtain⟨⟨h1,h2⟩,h3⟩:=h
   match l,hl with
   | v::l,hl =>
    obtain⟨w,ws,rfl,rv,rl⟩:=r;simp only[asgs] at p;rw[QcO h1];show wpAny _ A (do holding ws (assign x f.env w); assignInOrder ((assignEach xr f.env).map (·.2)) ws) Q E s;refine wpAny_bind (wpAny_holding (hs t (.head _) f fd x h2 A rm ρ s H cm i v w rv _ E ?_));cases ha:asg C t v ρ H with
    | stuck=>rw[ha] at p; exact p.elim
    | exc m ρ_1 H_1=>rw[ha] at p; exact fun e s' cm' nx iv ex=>p e s' cm' nx iv ex
    | ok fl ρ_1 H_1 =>
     rw[ha] at p;intro y s_1 cm_1 nx iv hf;exact as_list ts (fun t ht=>hs t (.tail _ ht)) f fd xr h3 A rm ρ_1 s_1 H_1 cm_1 iv l ws (nx.reps i.base rl) (by simpa using hl) Q E (SPost.from p nx)
  ·cases h
theorem Qg8:∀{ts:List PT} {xs:List PySem.Expr} {sc:Sc} {σ:Sl} (env:Env),chkAs k ts sc σ xs=true->(assignEach xs env).length=ts.length∧(assignEach xs env).findIdx? (·.1)=none
 | [],xs,sc,σ,env,h=>by simp only[chkAs] at h; rw[List.isEmpty_iff.mp h]; simp[assignEach]
 | t::ts,[],sc,σ,env,h=>by simp[chkAs] at h
 | t::ts,x::xs,sc,σ,env,h=>by
  simp only[chkAs,Bool.and_eq_true] at h;obtain⟨h1,h2⟩:=Qg8 env h.2;rw[QcO h.1.1];exact⟨by simp[h1],by rw[List.findIdx?_cons,h2]; rfl⟩
theorem Qql {ts:List PT} (hs:∀t∈ts,AS c k n C t):AS c k n C (.tup ts):=fun f fd x h A rm ρ s H cm i av y r Q E p=>by
 simp only[chkA] at h;split at h
 ·rename_i xs ct pos
  rw[arm_assign_Tuple];obtain⟨e1,e2⟩:=Qg8 (k:=k) f.env h;have key:∃l,(match av with | .tup l | .lst l=>some l | _=>none)=some l∧l.length=ts.length∧SPost c f s cm (asgs C ts l ρ H) (fun _ s'=>Q () s') E:=by
   simp only[asg] at p;cases av<;>first | exact p.elim | skip
   ·dsimp only at p
    split at p
    ·rename_i hl; exact⟨_,rfl,hl,p⟩
    ·exact p.elim
   ·dsimp only at p
    split at p
    ·rename_i hl; exact⟨_,rfl,hl,p⟩
    ·exact p.elim
  obtain⟨l,hv,hl,p⟩:=key;refine wpAny_bind (wpAny_standAt ?_);unfold unpack;rw[e1,e2,←hl];refine wpAny_bind (wpAny_holding (Qek rm.hh hv r i fun vs s' nx iv rv=>?_));exact as_list ts hs f fd xs h A rm ρ s' H cm iv l vs rv hl Q E (SPost.from p nx)
 ·cases h
end
end
section
theorem QeK {w:World} {A:Around} {E:Value->Shared->Prop} {s:Shared} {l:Addr} {o:Obj} {ne:Nat} {items:Array Value} {k:Int} {t:Tok} {v:Value} {Q:Unit->Shared->Prop} (ho:s.heap.get? l=some o) (hc:o.cls=.type "list") (hd:o.data=.seq items ne)
  (h0:0≤k) (hfit:k<2 ^ 63) (hn:k<items.size)
  (hQ:Q () {s with heap:=s.heap.update l (Obj.mapSeq (·.setIfInBounds k.toNat v))}) :
  wpAny (model P0 w) A (setItem (.ref l) (.int k t) v) Q E s:=by
 have hl:s.heap.IsList l items:=⟨o,ho,hc,ne,hd⟩;unfold setItem
 try with_reducible refine wpAny_holding ?_
 first | refine wpAny_bind (wpAny_pure ?_) | skip
 refine wpAny_bind (wpAny_sequenceKey hl.typeIs (by decide) ?_);refine wpAny_bind (wpAny_callSpecial?_slot (name:=Str.ofString "__setitem__") hl.typeIs slot_list_setitem
  (wpAny_call_entry slot_list_setitem hl.typeIs entry_list_setitem ?_ (args_list_setitem _ _ _)))
 show wpAny _ _ (Builtin.List.listSubscript? (.int k t) >>= _) _ _ s;refine wpAny_bind (wpAny_listSubscript_int (fitsIndex_of h0 hfit) ?_);clear hfit;obtain⟨j,rfl⟩:=Int.eq_ofNat_of_zero_le h0;have hj:j<items.size:=by omega
 have hx':items[j]?=some items[j]:=Array.getElem?_eq_getElem hj;show wpAny _ _ ((seqItemAt l j >>= fun r=>pure (r.map (j,·))) >>= _) _ _ s;refine wpAny_bind (wpAny_bind (wpAny_seqItemAt ho hd (wpAny_pure ?_)));rw[hx'];show wpAny _ _ (setSeqItemAt l j v >>= _) _ _ s;refine wpAny_bind (wpAny_setSeqItemAt ho hd ?_)
 first
  | exact wpAny_bind (wpAny_pure (wpAny_pure ⟨.none,rfl,wpAny_pure hQ⟩))
  | exact wpAny_pure ⟨.none,rfl,wpAny_pure hQ⟩
section
variable {c:Cx} {k:Ck} {n:Nat} {C:Orc} {f g:Fm} {s s' s_0 s_1 s_2:Shared} {ρ ρ' ρ_0:List AV} {H H':AH} {cm cm' cm_1 cm_0:CM} {A:Around} {M:Model} {E:Value->Shared->Prop} {it:Addr} {l:List AV}
theorem Qj9 {kv:Str × Value} {r:List (Str × Value)} {k:Str} {v:Value} (h:kv.1≠k):stored (kv::r) k v=kv::stored r k v:=by
 unfold stored;simp only[List.any_cons,h,decide_false,Bool.false_or];split
 ·rw[List.map_cons,if_neg h]
 ·rfl
theorem Qd5 (nm:String) (x:AV):∀(ks:List String) (l:List AV),(QaJ ks l nm x).1.length≤ks.length+1
 | [],l=>by simp[QaJ]
 | k::ks,[]=>by simp[QaJ]
 | k::ks,v::l=>by
  simp only[QaJ];split
  ·simp
  ·have:=Qd5 nm x ks l; simp; omega
theorem QeL {FX:List Addr} {h:Heap} (nm:String) {x:AV} {v:Value}:∀{ks:List String} {l:List AV} {kvs:List (Str × Value)},(kvs.map (·.1)).Nodup->c.repk FX cm h ks l kvs->c.rep FX cm h x v->c.repk FX cm h (QaJ ks l nm x).1 (QaJ ks l nm x).2 (stored kvs (Str.ofString nm) v)
 | ks,[],kvs,nd,z,r=>by
  obtain⟨rfl,rfl⟩:=z;exact⟨nm,[],v,[],rfl,rfl,r,rfl,rfl⟩
 | ks,y::l,kvs,nd,z,r=>by
  obtain⟨k',ks',v',kr,rfl,rfl,z1,z2⟩:=z;have nd':(Str.ofString k'::kr.map (·.1)).Nodup:=nd;simp only[QaJ];by_cases hk:k'=nm
  ·subst hk
   rw[if_pos rfl];have hs:stored ((Str.ofString k',v')::kr) (Str.ofString k') v=(Str.ofString k',v)::kr:=by
    unfold stored;simp only[List.any_cons,decide_true,Bool.true_or,if_true,List.map_cons];congr 1;have:∀q∈kr,(if q.1=Str.ofString k' then (q.1,v) else q)=q:=fun q hq=>by
     rw[if_neg];intro e;exact (List.nodup_cons.mp nd').1 (e ▸ List.mem_map_of_mem (f:=(·.1)) hq)
    conv=>rhs; rw[←List.map_id kr]
    exact List.map_congr_left this
   rw[hs];exact⟨k',ks',v,kr,rfl,rfl,r,z2⟩
  ·rw[if_neg hk,Qj9 (fun q=>hk (Str.ofString_inj q))]
   exact⟨k',_,v',_,rfl,rfl,z1,QeL nm (List.nodup_cons.mp nd').2 z2 r⟩
theorem Qka {o i v:AV} {ov iv y:Value} {Q:Unit->Shared->Prop} (inv:Inv c f s ρ H cm) (ro:c.rep f.FX cm s.heap o ov) (ri:c.rep f.FX cm s.heap i iv) (rv:c.rep f.FX cm s.heap v y) (h:setSub H o i v=some H')
  (hQ:∀s',Nx f.FA f.FO s cm s' cm->Inv c f s' ρ H' cm->Q () s'):wpAny (model P0 c.w) A (setItem ov iv y) Q E s:=by
 unfold setSub at h;split at h
 ·rename_i j kk
  obtain⟨p,hp,rfl⟩:=ro;obtain⟨t,rfl⟩:=ri;split at h
  ·rename_i l hk
   split at h
   ·rename_i hb
    cases h;obtain⟨hp2,xs,m,e,z⟩:=QdJ inv hp hk;have hxl:=Qan z;refine QeK e rfl rfl hb.1 (by omega) (by simp; omega) ?_;obtain⟨a,b⟩:=Qf2 (l:=l) (l':=l.set kk.toNat v) (g:=fun x=>x.setIfInBounds kk.toNat y) (xs':=xs.set kk.toNat y) inv hp hp2 e (by simp) (fun rr=>Qis _ (Cx.reps_mono rr (.refl _) z) (Cx.rep_mono rr (.refl _) rv)) s.toks
    exact hQ _ b a
   ·cases h
  ·cases h
 ·rename_i j ss
  obtain⟨p,hp,rfl⟩:=ro;obtain⟨t,rfl⟩:=ri;split at h
  ·rename_i ks vs hk
   split at h
   case isFalse=>cases h
   rename_i hks;cases h;obtain⟨p1,p2⟩:=p;obtain⟨rfl,od,kvs,e,hd,hlen,z⟩:=inv.base.cells j _ _ hp hk;have hD:s.heap.DictOf (strKind P0 c.w) p1 kvs:=Heap.dictOf_iff.mpr ⟨od,e,hd⟩;have hnd:(kvs.map (·.1)).Nodup:=let ⟨_,_,_,_,_,_,q⟩:=hd; q;have hkl:kvs.length≤1000:=by
    have:∀{ks:List String} {vs:List AV} {kvs:List (Str × Value)},c.repk f.FX cm s.heap ks vs kvs->kvs.length=ks.length:=by
     intro ks vs
     induction vs generalizing ks with
     | nil=>intro kvs z; obtain⟨rfl,rfl⟩:=z; rfl
     | cons y l ih=>intro kvs z; obtain⟨_,_,_,_,rfl,rfl,_,z2⟩:=z; simp[ih z2]
    rw[this z]; omega
   refine wpAny_setItem_pairs (knd:=strKind P0 c.w) (strKind_is P0 c.w _ t) hD (fun h' hm hs=>?_) (by rw[sizeLine_eq]; omega);obtain⟨o2,e2,d2⟩:=Heap.dictOf_iff.mp hm;obtain⟨a,b⟩:=inv.set (s':={s with heap:=h',toks:=s.toks+1}) (x':=.dct (QaJ ks vs ss v).1 (QaJ ks vs ss v).2) hp ⟨fun a o ha ea=>(hs.2 a fun q=>ha (by rw[q]; exact .head _)).trans ea,rfl,rfl⟩ (fun a ha=>by
    cases List.mem_singleton.mp ha;show h'.get? p1≠none;rw[e2]; nofun) fun rr=>⟨rfl,o2,_,e2,d2,by have:=Qd5 ss v ks vs; omega,QeL ss hnd (Cx.repk_mono rr (.refl _) z) (Cx.rep_mono rr (.refl _) rv)⟩
   exact hQ _ b a
  ·cases h
 ·cases h
end
end
section
theorem Qqm {prog:Program} {w:World} {A:Around} {K:Frag} {x C dx:Addr} {s:Shared} {R:Result->Shared->Prop} {ox od od':Obj} {name:Str} {tk:Tok} {v:Value} {es:List DictEntry} {n:Nat} (X:K.In s.heap)
  (I:InstAt s.heap x ox C (some od)) (hd:ox.dict=some dx) (hp:plainOver K C=true) (ht:takerIn K C name=some none) (hh:(clsIn K C).any (·.hasDict)=true) (D:s.heap.get? dx=some od)
  (hl:(lookIn name od).isSome=true) (D':(s.heap.update dx (Obj.putName name (PyData.keyHash w.params name) (.str name s.toks) v)).get? dx=some od') (e':od'.data=.dict es.toArray n) (hz:es.length≤1000)
  (h:R (.ok (.ret .none)) {s with heap:=s.heap.update dx (Obj.putName name (PyData.keyHash w.params name) (.str name s.toks) v),toks:=s.toks+1}) :
  codeAny (model prog w) A (.call (.builtin "object.__setattr__") ⟨[.ref x,.str name tk,v],[]⟩) R s:=by
 refine osa_open X I hp ht fun b=>?_
 obtain⟨cd,hc,hd'⟩:=any_some hh;obtain⟨hx,hcl,hn,-⟩:=I;obtain⟨oc,odi,oda,osl⟩:=ox;dsimp only at hcl hd;subst hcl hd;refine wpAny_bind (wpAny_pure (wpAny_bind (wpAny_bind (wpAny_loadPart hx (wpAny_bind ((looks_clsIn X hc).here ?_))))));rw[hd'];refine wpAny_pure (a:=some dx) (wpAny_bind (wpAny_pure (wpAny_bind ?_)));unfold nsSet;refine wpAny_bind (wpAny_bind (wpAny_askSetting (wpAny_pure (wpAny_bind (wpAny_mkText (wpAny_bind (wpAny_loadPart D ?_)))))));unfold lookIn at hl;split at hl
 ·rename_i es_0 n_0 q
  rw[q];dsimp only;have c:(!es_0.any (·.key.isStr name)&&es_0.any (·.refKey))=false:=by
   rw[←Array.any_toList,←Array.any_toList];split at hl
   ·rename_i en he
    rw[List.any_eq_true.mpr ⟨en,List.mem_of_find?_eq_some he,List.find?_some he⟩]; rfl
   ·split at hl
    ·cases hl
    ·rename_i z; rw[Bool.not_eq_true] at z; rw[z,Bool.and_false]
  rw[aRefKeyMayBeTheName_at,c];refine wpAny_updatePart D ?_;refine wpAny_bind (wpAny_lookBehind D' (by rw[e']; exact pastItsLine_dict (by rw[List.size_toArray,sizeLine_eq]; omega)) ?_)
  exact wpAny_pure h
 ·cases hl
section
variable {c:Cx} {k:Ck} {n:Nat} {C:Orc} {f g:Fm} {s s' s_0 s_1 s_2:Shared} {ρ ρ' ρ_0:List AV} {H H':AH} {cm cm' cm_1 cm_0:CM} {A:Around} {M:Model} {E:Value->Shared->Prop} {it:Addr} {l:List AV}
theorem Qg9 {FX:List Addr} {h:Heap} (nm:String) (tk:Tok) {x:AV} {v:Value}:∀{ks:List String} {l:List AV} {ds:List DictEntry},c.repd FX cm h ks l ds->c.rep FX cm h x v ->
  c.repd FX cm h (QaJ ks l nm x).1 (QaJ ks l nm x).2 (putL (Str.ofString nm) (PyData.keyHash c.w.params (Str.ofString nm)) (.str (Str.ofString nm) tk) v ds)
 | ks,[],ds,z,r=>by
  obtain⟨rfl,rfl⟩:=z;exact⟨nm,[],v,tk,[],rfl,rfl,r,rfl,rfl⟩
 | ks,y::l,ds,z,r=>by
  obtain⟨k',ks',v',t',dr,rfl,rfl,z1,z2⟩:=z;have hs:(Value.str (Str.ofString k') t').isStr (Str.ofString nm)=(k'==nm):=Str.ofString_beq k' nm;simp only[QaJ,putL,hs];by_cases hk:k'=nm
  ·subst hk
   simp only[beq_self_eq_true,if_true];exact⟨k',ks',v,t',dr,rfl,rfl,r,z2⟩
  ·rw[if_neg hk,if_neg (by simpa using hk)]
   exact⟨k',_,v',t',_,rfl,rfl,z1,Qg9 nm tk z2 r⟩
theorem QfB (nm:String) (x:AV) {p:String->Prop} (hn:p nm):∀(ks:List String) (l:List AV),(∀k∈ks,p k)->∀k∈(QaJ ks l nm x).1,p k
 | [],l,_,k,hk=>by simp only[QaJ,List.mem_singleton] at hk; rw[hk]; exact hn
 | k0::ks,[],_,k,hk=>by simp only[QaJ,List.mem_singleton] at hk; rw[hk]; exact hn
 | k0::ks,v::l,h,k,hk=>by
  simp only[QaJ] at hk;split at hk
  ·exact h k hk
  ·rcases List.mem_cons.mp hk with hk | hk
   ·rw[hk]; exact h _ (.head _)
   ·exact QfB nm x hn ks l (fun k hk=>h k (.tail _ hk)) k hk
theorem store_attr {o v:AV} {ov y:Value} {nm:String} {Q:Unit->Shared->Prop} (inv:Inv c f s ρ H cm) (ro:c.rep f.FX cm s.heap o ov) (rv:c.rep f.FX cm s.heap v y) (h:Mine.setAttr H o nm v=some H')
  (hQ:∀s',Nx f.FA f.FO s cm s' cm->Inv c f s' ρ H' cm->Q () s'):wpAny (model P0 c.w) A (PySem.setAttr ov (Str.ofString nm) y) Q E s:=by
 unfold Mine.setAttr at h;split at h
 ·rename_i j
  obtain⟨p,hp,rfl⟩:=ro;split at h
  ·rename_i D ks vs hk
   split at h
   ·rename_i hb
    cases h;obtain⟨p1,p2⟩:=p;obtain⟨d,rfl,hne,ds,m,e,e2,hlen,ac,z⟩:=inv.base.cells j _ _ hp hk;obtain⟨k1,k2,k3,k4,k5,k6⟩:=QiE (P:=c.w.params) hb.1;have I:InstAt s.heap p1 (instObj D d) D (some (dictOf ds m)):=⟨e,rfl,rfl,e2⟩;have hl:(lookIn (Str.ofString nm) (dictOf ds m)).isSome=true:=by
     rw[lookIn_dict];have hr:=(Qcg nm z).2.2.1;unfold getL;split
     ·rfl
     ·rw[hr]; rfl
    have hdl:ds.length=ks.length:=(Qcg nm z).2.2.2;have hD':(s.heap.update d (Obj.putName (Str.ofString nm) (PyData.keyHash c.w.params (Str.ofString nm)) (.str (Str.ofString nm) (s.toks+1)) y)).get? d=some (dictOf (putL (Str.ofString nm) (PyData.keyHash c.w.params (Str.ofString nm)) (.str (Str.ofString nm) (s.toks+1)) y ds) (putN (Str.ofString nm) ds m)):=by
     rw[Heap.get?_update_self _ e2 (by rw[putName_dict]; rfl),putName_dict]
    have hlen2:=Qd5 nm v ks vs;have key:∀rr:(∀a o,Rr f.FX cm s.heap a o->Rr f.FX cm (s.heap.update d (Obj.putName (Str.ofString nm) (PyData.keyHash c.w.params (Str.ofString nm)) (.str (Str.ofString nm) (s.toks+1)) y)) a o),c.repd f.FX cm (s.heap.update d (Obj.putName (Str.ofString nm) (PyData.keyHash c.w.params (Str.ofString nm)) (.str (Str.ofString nm) (s.toks+1)) y)) (QaJ ks vs nm v).1 (QaJ ks vs nm v).2 _:=fun rr=>Qg9 nm (s.toks+1) (Cx.repd_mono rr (.refl _) z) (Cx.rep_mono rr (.refl _) rv)
    have hpl:∀(ds:List DictEntry) (hsh:Int) (ky:Value),(putL (Str.ofString nm) hsh ky y ds).length≤ds.length+1:=by
     intro ds hsh ky
     induction ds with
     | nil=>simp[putL]
     | cons q r ih=>simp only[putL]; split<;>simp<;>omega
    refine set_plain inv.base.X I k5 (Qqm (s:={s with toks:=s.toks+1}) (dx:=d) inv.base.X I rfl k6 k2 k3 e2 hl hD' rfl (by have:=hpl ds (PyData.keyHash c.w.params (Str.ofString nm)) (.str (Str.ofString nm) (s.toks+1)); have:=hb.2; have h9:=hb.2; omega) ?_)
    obtain⟨a,b⟩:=inv.set (s':={s with heap:=s.heap.update d (Obj.putName (Str.ofString nm) (PyData.keyHash c.w.params (Str.ofString nm)) (.str (Str.ofString nm) (s.toks+1)) y),toks:=s.toks+1+1}) (x':=.obj D (QaJ ks vs nm v).1 (QaJ ks vs nm v).2) hp
     ⟨fun a o ha ea=>(Heap.get?_update_ne _ _ _ _ (fun q=>ha (by rw[q]; exact .tail _ (.head _)))).trans ea,rfl,rfl⟩
     (fun a ha=>by
      show (s.heap.update d _).get? a≠none;rcases List.mem_cons.mp ha with ha | ha
      ·subst ha; rw[Heap.get?_update_ne _ _ _ _ hne,e]; nofun
      ·cases List.mem_singleton.mp ha; rw[hD']; nofun)
     fun rr=>⟨d,rfl,hne,_,_,(Heap.get?_update_ne _ _ _ _ hne).trans e,hD',by omega,QfB nm v hb.1 ks vs ac,key rr⟩
    exact hQ _ b a
   ·cases h
  ·cases h
 ·cases h
end
end
section
section
variable {c:Cx} {k:Ck} {n:Nat} {C:Orc} {f g:Fm} {s s' s_0 s_1 s_2:Shared} {ρ ρ' ρ_0:List AV} {H H':AH} {cm cm' cm_1 cm_0:CM} {A:Around} {M:Model} {E:Value->Shared->Prop} {it:Addr} {l:List AV}
theorem Qkb {vs ws:List Value} {Q:Unit->Shared->Prop} (h:Q () s):wpAny M A (release vs ws) Q E s:=fun Γ p hΓ=>by
 simp only[Sem.wp_release]; exact h
theorem Qod {o:PE} {nm:String} (ho:SE c k n C o):AS c k n C (.attr o nm):=fun f fd x h A rm ρ s H cm i av y r Q E p=>by
 simp only[chkA] at h;split at h
 ·rename_i z m pos
  simp only[Bool.and_eq_true,beq_iff_eq] at h;obtain⟨rfl,h1⟩:=h;simp only[asg] at p;rw[arm_assign_Attribute];refine wpAny_bind (wpAny_holding (bindT' (fun Q=>(ho f fd.cd z h1).1 A rm ρ s H cm i Q E) p fun v H_1 ov s_1 cm_1 _ n_1 i_1 r_1 p=>wpAny_bind (wpAny_standAt (wpAny_bind (wpAny_holding ?_)))));cases hs:Mine.setAttr H_1 v nm av with
  | none=>rw[hs] at p; exact p.elim
  | some H_2 =>
   rw[hs] at p;exact store_attr i_1 r_1 (n_1.rep i.base r) hs fun s_2 n_2 i_2=>Qkb (p _ s_2 cm_1 n_2 i_2 rfl)
 ·cases h
theorem Qqn {o j:PE} (ho:SE c k n C o) (hj:SE c k n C j):AS c k n C (.sub o j):=fun f fd x h A rm ρ s H cm i av y r Q E p=>by
 simp only[chkA] at h;split at h
 ·rename_i z u pos
  simp only[Bool.and_eq_true] at h;obtain⟨⟨h0,h1⟩,h2⟩:=h;simp only[asg] at p;rw[arm_assign_Subscript];refine wpAny_bind (wpAny_holding (bindT' (fun Q=>(ho f fd.cd z h1).1 A rm ρ s H cm i Q E) p fun v H_1 ov s_1 cm_1 _ n_1 i_1 r_1 p=>wpAny_bind (wpAny_holding (bindT' (fun Q=>(hj f fd.cd u h2).1 A rm ρ s_1 H_1 cm_1 i_1 Q E) p fun w H_2 iv s_2 cm_2 _ n_2 i_2 r_2 p=>wpAny_bind (wpAny_standAt (wpAny_bind (wpAny_holding ?_)))))));cases hs:setSub H_2 v w av with
  | none=>rw[hs] at p; exact p.elim
  | some H_3 =>
   rw[hs] at p;exact Qka i_2 (n_2.rep i_1.base r_1) r_2 (n_2.rep i_1.base (n_1.rep i.base r)) hs fun s_3 n_3 i_3=>Qkb (p _ s_3 cm_2 n_3 i_3 rfl)
 ·cases h
end
end
section
section
variable {c:Cx} {k:Ck} {n:Nat} {C:Orc} {f g:Fm} {s s' s_0 s_1 s_2:Shared} {ρ ρ' ρ_0:List AV} {H H':AH} {cm cm' cm_1 cm_0:CM} {A:Around} {M:Model} {E:Value->Shared->Prop} {it:Addr} {l:List AV}
mutual
theorem Qm2 (ok:CkOk c k) (os:OSnd c n C):∀t:PT,AS c k n C t
 | .loc m=>Qqk
 | .tup ts=>Qql (Qkc ok os ts)
 | .attr o _=>Qod (Qaj ok os o)
 | .sub o i=>Qqn (Qaj ok os o) (Qaj ok os i)
theorem Qkc (ok:CkOk c k) (os:OSnd c n C):∀ts:List PT,∀t∈ts,AS c k n C t
 | [],t,h=>by cases h
 | a::l,t,h=>(List.mem_cons.mp h).elim (fun q=>q ▸ Qm2 ok os a) fun q=>Qkc ok os l t q
end
theorem st_ok {α:Type} {o:Out α} {kk:α->AH->OS} {fl:Fl} {ρ':List AV} {H':AH} (h:o.st ρ kk=.ok fl ρ' H'):∃a H_1,kk a H_1=.ok fl ρ' H':=by
 cases o with
 | ok a H=>exact⟨a,H,h⟩
 | exc m H=>cases h
 | stuck=>cases h
mutual
theorem Ql5:∀(t:PT) (v:AV) (ρ:List AV) (H:AH) (fl:Fl) (ρ':List AV) (H':AH),asg C t v ρ H=.ok fl ρ' H'->fl=.next
 | .loc m,v,ρ,H,fl,ρ',H',h=>by simp only[asg] at h; cases h; rfl
 | .attr o nm,v,ρ,H,fl,ρ',H',h=>by
  simp only[asg] at h;obtain⟨a,H_1,h⟩:=st_ok h;split at h<;>cases h;rfl
 | .sub o j,v,ρ,H,fl,ρ',H',h=>by
  simp only[asg] at h;obtain⟨a,H_1,h⟩:=st_ok h;obtain⟨b,H_2,h⟩:=st_ok h;split at h<;>cases h;rfl
 | .tup ts,v,ρ,H,fl,ρ',H',h=>by
  simp only[asg] at h;split at h
  ·split at h
   ·exact QeM ts _ ρ H fl ρ' H' h
   ·cases h
  ·split at h
   ·exact QeM ts _ ρ H fl ρ' H' h
   ·cases h
  ·cases h
theorem QeM:∀(ts:List PT) (l:List AV) (ρ:List AV) (H:AH) (fl:Fl) (ρ':List AV) (H':AH),asgs C ts l ρ H=.ok fl ρ' H'->fl=.next
 | [],l,ρ,H,fl,ρ',H',h=>by simp only[asgs] at h; cases h; rfl
 | t::ts,[],ρ,H,fl,ρ',H',h=>by simp[asgs] at h
 | t::ts,v::l,ρ,H,fl,ρ',H',h=>by
  simp only[asgs] at h;cases ha:asg C t v ρ H with
  | ok fl_1 ρ_1 H_1=>rw[ha] at h; exact QeM ts l ρ_1 H_1 fl ρ' H' h
  | exc m ρ_1 H_1=>rw[ha] at h; cases h
  | stuck=>rw[ha] at h; cases h
end
theorem Qjw {v:PySem.Expr} {t:Option PySem.Expr} {ln:Nat} {env:Env} (h:noComp v=true):swapsWith v t ln env=pure false:=by
 cases v<;>first | rfl | cases h
theorem Qch {t:PT} {e:PE} {x v:PySem.Expr} {pos:Pos} {Q:Flow->Shared->Prop} (he:SE c k n C e) (ht:AS c k n C t) (fd:FrD k f) (h1:chkA k t f.sc f.σ x=true) (h2:chkE k e f.sc f.σ v=true) (rm:Room f A n) (i:Inv c f s ρ H cm)
  (hs:swapsWith v (some x) pos.line f.env=pure false) (hw:swappedStores [x] v f.env=pure none) (hst:noStar x=true) (p:SPost c f s cm (evS C (.asg t e) ρ H) Q E):wpAny (model P0 c.w) A (exec (.Assign [x] v pos) f.env) Q E s:=by
 simp only[evS] at p;rw[arm_exec_Assign];have hs':swapsWithSole [x] v pos.line f.env=pure false:=hs;rw[hs'];refine wpAny_bind (wpAny_standAt (wpAny_bind (wpAny_pure ?_)));rw[if_neg (by decide),hw];refine wpAny_bind (bindT' (fun Q=>(he f fd.cd v h2).1 A rm ρ s H cm i Q E) p fun w H_1 y s_1 cm_1 _ n_1 i_1 r_1 p=>wpAny_bind (wpAny_pure ?_));rw[QcO hst];show wpAny _ A (do assign x f.env y; pure .next) Q E s_1;refine wpAny_bind (ht f fd x h1 A rm ρ s_1 H_1 cm_1 i_1 w y r_1 _ E ?_);cases ha:asg C t w ρ H_1 with
 | stuck=>rw[ha] at p; exact p.elim
 | exc m ρ_2 H_2=>rw[ha] at p; exact p
 | ok fl ρ_2 H_2 =>
  rw[ha] at p;intro q s_2 cm_2 n_2 i_2 hf;have:fl=.next:=Ql5 t w ρ H_1 fl ρ_2 H_2 ha;subst this;cases hf;exact wpAny_pure (p _ s_2 cm_2 n_2 i_2 rfl)
end
end
section
section
variable {c:Cx} {k:Ck} {n:Nat} {C:Orc} {f g:Fm} {s s' s_0 s_1 s_2:Shared} {ρ ρ' ρ_0:List AV} {H H':AH} {cm cm' cm_1 cm_0:CM} {A:Around} {M:Model} {E:Value->Shared->Prop} {it:Addr} {l:List AV}
theorem Qkd {k1 k2:Nat} {e:PE} {y1 y2:Str} {x v:PySem.Expr} {pos:Pos} {Q:Flow->Shared->Prop} (he:SE c k n C e) (fd:FrD k f) (o1:okName f.sc f.σ k1 y1=true) (o2:okName f.sc f.σ k2 y2=true) (hne:y1≠y2) (h2:chkE k e f.sc f.σ v=true) (rm:Room f A n) (i:Inv c f s ρ H cm)
  (hs:swapsWith v (some x) pos.line f.env=pure false) (hw:swappedStores [x] v f.env=pure (some [y1,y2])) (p:SPost c f s cm (evS C (.asg (.tup [.loc k1,.loc k2]) e) ρ H) Q E):wpAny (model P0 c.w) A (exec (.Assign [x] v pos) f.env) Q E s:=by
 simp only[evS] at p;rw[arm_exec_Assign];have hs':swapsWithSole [x] v pos.line f.env=pure false:=hs;rw[hs'];obtain⟨q1,⟨kd1,q2,q3⟩,q4⟩:=QbR o1;obtain⟨z1,⟨kd2,z2,z3⟩,z4⟩:=QbR o2;have hk:k1≠k2:=fun q=>hne (f.ok.slots y1 y2 k1 kd1 kd2 q1 (q ▸ z1) q2 z2)
 refine wpAny_bind (wpAny_standAt (wpAny_bind (wpAny_pure ?_)));rw[if_neg (by decide),hw];refine wpAny_bind (bindT' (fun Q=>(he f fd.cd v h2).1 A rm ρ s H cm i Q E) p fun w H_1 y s_1 cm_1 _ n_1 i_1 r_1 p=>wpAny_bind (wpAny_pure ?_));have key:∃a b,(match w with | .tup l | .lst l=>some l | _=>none)=some [a,b]∧SPost c f s_1 cm_1 (.ok .next ((ρ.set k1 a).set k2 b) H_1) Q E:=by
  cases w<;>first | (simp only[asg] at p; exact p.elim) | skip
  all_goals
   rename_i l _;simp only[asg] at p;split at p
   ·rename_i hl
    match l,hl with
    | [a,b],_ =>
     simp only[asgs,asg,OS.bind_ok] at p;exact⟨a,b,rfl,p⟩
   ·exact p.elim
 obtain⟨a,b,hv,p⟩:=key;show wpAny _ A (do rule "assign.swapped-stores"; let items ←unpackItems y 2 none; assignInOrder ([y1,y2].reverse.map fun n=>bindName f.env n) items.reverse; pure .next) Q E s_1;refine wpAny_bind (wpAny_rule (wpAny_bind (Qek (l:=[a,b]) rm.hh hv r_1 i_1 fun vs s_2 n_2 i_2 r_2=>?_)));obtain⟨va,_,rfl,ra,vb,_,rfl,rb,hnil⟩:=r_2;cases (show _=[] from hnil);show wpAny _ A (do (do holding [va] (bindName f.env y2 vb); (do holding [] (bindName f.env y1 va); pure ())); pure .next) Q E s_2;refine wpAny_bind (wpAny_bind (wpAny_holding (wpAny_bindName (Qa1 z1 z2 z3 (by rw[fd.ow]) i_2 rb fun s_3 n_3 i_3=>?_))))
 refine wpAny_bind (wpAny_holding (wpAny_bindName (Qa1 q1 q2 q3 (by rw[fd.ow]) i_3 (n_3.rep i_2.base ra) fun s₄ n₄ i₄=>wpAny_pure (wpAny_pure ?_))))
 rw[List.set_comm _ _ (Ne.symm hk)] at i₄;exact p _ s₄ cm_1 ((n_2.trans n_3).trans n₄) i₄ rfl
end
end
section
section
variable {c:Cx} {k:Ck} {n:Nat} {C:Orc} {f g:Fm} {s s' s_0 s_1 s_2:Shared} {ρ ρ' ρ_0:List AV} {H H':AH} {cm cm' cm_1 cm_0:CM} {A:Around} {M:Model} {E:Value->Shared->Prop} {it D L:Addr} {l:List AV}
theorem QeN {a:Addr}:a∈((f.wide L).wide D).FX↔a∈((f.wide D).wide L).FX:=by
 rw[Qar,Qar,Qar,Qar];constructor
 ·rintro (h | h | h)
  ·exact .inr (.inl h)
  ·exact .inl h
  ·exact .inr (.inr h)
 ·rintro (h | h | h)
  ·exact .inr (.inl h)
  ·exact .inl h
  ·exact .inr (.inr h)
theorem Inv.swapW (i:Inv c ((f.wide D).wide L) s ρ H cm):Inv c ((f.wide L).wide D) s ρ H cm:=by
 have hR:=Rr.sub (cm:=cm) (h:=s.heap) (fun a h=>(QeN (f:=f) (L:=L) (D:=D)).mp h);have hz:∀a,a∈D::L::f.FZ->a∈L::D::f.FZ:=fun a h=>by
  rcases List.mem_cons.mp h with h | h
  ·exact .tail _ (h ▸ .head _)
  ·rcases List.mem_cons.mp h with h | h
   ·exact h ▸ .head _
   ·exact .tail _ (.tail _ h)
 exact⟨i.base.sub fun a h=>QeN.mp h,fun a h=>⟨(i.dj a h).1,fun q=>(i.dj a h).2 (hz a q)⟩,fun a h q=>i.dj2 a h (hz a q),
  let ⟨m,n,z⟩:=i.ns; ⟨m,n,fun x k e1 e2=>(z x k e1 e2).mono hR (.refl _)⟩,
  fun x k kd a e1 e2 e3 e4=>let ⟨o,ov,e,dd,z⟩:=i.cl x k kd a e1 e2 e3 e4; ⟨o,ov,e,dd,z.mono hR (.refl _)⟩,i.frs⟩
theorem Qf7 {m:Nat} {e:PE} {gs:List PG} {mu:Bool} {y0:Str} {yp:Pos} {elt:PySem.Expr} {sc:Scope} {cp:Pos} {Q:Flow->Shared->Prop} {pp:Pos} {x0 z0:PySem.Expr} {zs:List PySem.Expr} {r:List Comprehension} {t:List Nat} {one:Bool} {it0:PE} {ifs:List PE} {own:Sl}
  (he:SE c k n C e) (sg:SG c k n C (.mk t one it0 ifs::gs)) (fd:FrD k f) (o1:okName f.sc f.σ m y0=true)
  (hown:gslots (.mk t one it0 ifs::gs) (⟨x0,z0,zs,0⟩::r)=some own) (h1:compScope f.sc f.σ own sc=true)
  (h2:chkG k (.mk t one it0 ifs::gs) f.sc f.σ (relab f.sc sc.names) (own++f.σ) (fun n=>(own.lookup n).isSome) (⟨x0,z0,zs,0⟩::r)=true) (h3:chkE k e (relab f.sc sc.names) (own++f.σ) elt=true)
  (hall:(⟨x0,z0,zs,0⟩::r).all (fun g=>g.is_async==0&&noSet g.iter)=true)
  (rm:Room f A n) (i:Inv c f s ρ H cm) (hclr:clrOk (.mk t one it0 ifs::gs) ρ=true) (u:Value->Sem Unit) (hu:u=PySem.assign (.Name y0 yp) f.env)
  (p:SPost c f s cm (((evG C (fun ρ H=>evE C ρ e H) (.mk t one it0 ifs::gs) ρ [] H).bind fun vs H=>newC H mu vs).st ρ fun v H=>.ok .next (ρ.set m v) H) Q E) :
  wpAny (model P0 c.w) A (comprehension (.ListComp elt (⟨x0,z0,zs,0⟩::r) sc cp) sc f.env pp (newList []) false (eval z0 f.env) (some u)) (fun _ s'=>Q .next s') E s:=by
 obtain⟨q1,⟨kd,q2,q3⟩,q4⟩:=QbR o1;refine Qg5 (use:=some u) (Q:=fun _ s'=>Q .next s') hown h1 h2 h3 hall sg he rm fd.cd i hclr (fun q=>by rw[q] at p; exact p.elim) (fun mm H' q e s' cm' nx iv ex=>by rw[q] at p; exact p e s' cm' nx iv ex) fun vs H' D L s' cm' hv hD hL hDL nx iv hm ac=>?_
 rw[hv] at p;have ivw:=iv.swapW;have hDg:D ∉ (f.wide L).FX:=fun q=>(Qar.mp q).elim hDL (i.fresh hD)
 obtain⟨xs,mm,ea,ra⟩:=ac;have ra':c.reps ((f.wide L).wide D).FX cm' s'.heap vs xs:=Cx.reps_mono (Rr.sub fun a h=>QeN.mp h) (.refl _) ra;have key:∃av H'' cm'',SPost c f s cm (.ok .next (ρ.set m av) H'') Q E∧Inv c (f.wide L) s' ρ H'' cm''∧Nx f.FA f.FO s cm s' cm''∧c.rep (f.wide L).FX cm'' s'.heap av (.ref D):=by
  cases mu with
  | true=>exact⟨.cell H'.length,_,_,p,ivw.zcell hDg ⟨rfl,xs,_,mm,ea,rfl,rfl,rfl,rfl,Cx.reps_mono Rr.zcell (.snoc _ _) ra'⟩,nx.zcell hD,(D,[D]),by rw[←ivw.base.len,List.getElem?_concat_length],rfl⟩
  | false=>exact⟨.lst vs,_,_,p,ivw.narrow,nx,D,_,xs,mm,rfl,⟨ea,rfl,hDg,ivw.base.dj D (Qar.mpr (.inl rfl))⟩,rfl,rfl,Cx.reps_mono (Rr.sub Qa6) (.refl _) ra'⟩
 obtain⟨av,H'',cm'',p',iv1,nx1,rr1⟩:=key;show wpAny _ A (u (.ref D)) _ E s';rw[hu];refine wpAny_assign_Name (Qa1 (f:=f.wide L) q1 q2 q3 (by rw[show (f.wide L).ow=f.ow from rfl,fd.ow]) iv1 rr1 fun s'' nx2 iv2=>?_)
 obtain⟨m1,oL,es,ep,eL,rL⟩:=hm;have hLX:L∈(f.wide L).FX:=Qar.mpr (.inl rfl);have eL':=nx2.keep L oL eL (fun q=>c.glow (by rw[←q]; exact (iv1.base.lo L (.inl hLX)).1)) (fun q=>(iv1.dj L q).2 (.head _)) (fun q=>iv1.dj2 L q (.head _)) (iv1.base.dj L hLX)
 refine⟨m1,⟨oL,es,ep,eL',rL⟩,fun h' hsb=>?_⟩;have hb:∀a o,a≠L->s''.heap.get? a=some o->h'.get? a=some o:=fun a o ha e=>(hsb.2 a ha).trans e
 exact p' _ {s'' with heap:=h'} cm'' ((nx1.trans nx2).mod hL hb) (iv2.zdrop (s':={s'' with heap:=h'}) (i.fresh hL) hb rfl rfl) rfl
end
end
section
section
variable {c:Cx} {k:Ck} {n:Nat} {C:Orc} {f g:Fm} {s s' s_0 s_1 s_2:Shared} {ρ ρ' ρ_0:List AV} {H H':AH} {cm cm' cm_1 cm_0:CM} {A:Around} {M:Model} {E:Value->Shared->Prop} {it D L:Addr} {l:List AV}
theorem Ql6 {m:Nat} {e:PE} {gs:List PG} {mu:Bool} {y0:Str} {yp:Pos} {elt:PySem.Expr} {cs:List Comprehension} {sc:Scope} {cp:Pos} {pos:Pos} {Q:Flow->Shared->Prop} (he:SE c k n C e) (sg:SG c k n C gs) (fd:FrD k f) (o1:okName f.sc f.σ m y0=true)
  (h:chkE k (.comp e gs mu) f.sc f.σ (.ListComp elt cs sc cp)=true) (rm:Room f A n) (i:Inv c f s ρ H cm)
  (hs:swapsWith (.ListComp elt cs sc cp) (some (.Name y0 yp)) pos.line f.env=pure true) (p:SPost c f s cm (evS C (.asg (.loc m) (.comp e gs mu)) ρ H) Q E):wpAny (model P0 c.w) A (exec (.Assign [.Name y0 yp] (.ListComp elt cs sc cp) pos) f.env) Q E s:=by
 rw[exec_Assign_Name_used _ _ _ _ hs];refine wpAny_bind (wpAny_standAt (wpAny_bind ?_));simp only[chkE,xComp] at h;split at h
 ·rename_i own hown
  simp only[Bool.and_eq_true] at h;obtain⟨⟨⟨h0,h1⟩,h2⟩,h3⟩:=h
  match gs,cs,h0,h2,hown,sg,p with
  | .mk t one it0 ifs::gs,⟨x0,z0,zs,aa⟩::r,_,h2,hown,sg,p =>
   have hall:=Qf6 h2;have haa:aa=0:=by
    simp only[List.all_cons,Bool.and_eq_true,beq_iff_eq] at hall;exact hall.1.1
   subst haa;simp only[evS,evE,asg] at p;split at p
   ·rename_i hclr
    show wpAny (model P0 c.w) A (do let _ ←comprehension (.ListComp elt (⟨x0,z0,zs,0⟩::r) sc cp) sc f.env (firstIterPos (⟨x0,z0,zs,0⟩::r) cp) (newList []) false (eval z0 f.env) (some (PySem.assign (.Name y0 yp) f.env))) _ _ s;exact wpAny_bind (wpAny_mono (Qf7 he sg fd o1 hown h1 h2 h3 hall rm i hclr _ rfl p) (fun _ s' hq=>wpAny_pure (wpAny_pure hq)) fun _ _ e=>e)
   ·exact p.elim
 ·cases h
theorem Qha (f:Fm):f.env.blockKind=.function:=by unfold Env.blockKind; rw[f.ok.kind]; rfl
theorem Ql7 {elt:PySem.Expr} {cs:List Comprehension} {sc:Scope} {cp yp:Pos} {y0:Str} {ln:Nat} (env:Env):∃b,swapsWith (.ListComp elt cs sc cp) (some (.Name y0 yp)) ln env=pure b:=⟨_,rfl⟩
theorem Qqo {t:PT} {e:PE} (he:SE c k n C e) (ht:AS c k n C t) (hc:∀e' gs mu,e=.comp e' gs mu->SE c k n C e'∧SG c k n C gs):SS c k n C (.asg t e):=fun f fd st h A rm ρ s H cm i Q E p=>by
 simp only[chkS] at h;split at h
 ·rename_i x v pos
  simp only[Bool.and_eq_true] at h;obtain⟨⟨hf,h1⟩,h2⟩:=h;unfold asgForm at hf;split at hf
  ·rename_i elt cs sc cp
   split at hf
   ·rename_i y0 yp
    cases e<;>first | (cases hf; done) | skip
    rename_i e' gs mu;obtain⟨b,hb⟩:=Ql7 (elt:=elt) (cs:=cs) (sc:=sc) (cp:=cp) (yp:=yp) (y0:=y0) (ln:=pos.line) f.env;obtain⟨hc1,hc2⟩:=hc e' gs mu rfl;cases b with
    | true =>
     cases t<;>simp only[chkA] at h1<;>first | (cases h1; done) | skip
     exact Ql6 hc1 hc2 fd h1 h2 rm i hb p
    | false=>exact Qch he ht fd h1 h2 rm i hb rfl rfl p
   ·rename_i hn
    refine Qch he ht fd h1 h2 rm i ?_ ?_ hf p
    ·cases x<;>first | rfl | exact absurd rfl (hn _ _)
    ·unfold swappedStores
     split
     ·rename_i q
      split at q<;>cases q
      ·rename_i e1; cases e1
      ·rename_i e1; cases e1
     ·rfl
  ·cases hf
  ·cases hf
  ·rename_i vs vc vp
   have hs:swapsWith (.Tuple vs vc vp) (some x) pos.line f.env=pure false:=rfl;split at hf
   ·rename_i y1 p1 y2 p2 tc tp
    simp only[Bool.and_eq_true,bne_iff_ne,ne_eq,beq_iff_eq,Bool.not_eq_true'] at hf;obtain⟨⟨⟨⟨hne,hl⟩,hst⟩,hfd⟩,hcs⟩:=hf;cases t<;>simp only[chkA] at h1<;>first | (cases h1; done) | skip
    rename_i ts;obtain⟨k1,k2,rfl,o1,o2⟩:∃k1 k2,ts=[.loc k1,.loc k2]∧okName f.sc f.σ k1 y1=true∧okName f.sc f.σ k2 y2=true:=by
     match ts,h1 with
     | [],h1=>simp[chkAs] at h1
     | [a],h1=>simp[chkAs] at h1
     | [a,b],h1 =>
      simp only[chkAs,Bool.and_eq_true] at h1;obtain⟨⟨_,ha⟩,⟨_,hb⟩,_⟩:=h1;cases a<;>simp only[chkA] at ha<;>first | (cases ha; done) | skip
      cases b<;>simp only[chkA] at hb<;>first | (cases hb; done) | skip
      exact⟨_,_,rfl,ha,hb⟩
     | a::b::d::r,h1=>simp[chkAs] at h1
    have hstar:(vs.any fun | .Starred ..=>true | _=>false)=false:=by
     rw[List.any_eq_false];intro z hz;have:=List.all_eq_true.mp hst z hz;cases z<;>first | (intro q; cases q; done) | (cases this; done)
    have key:swappedStores [.Tuple [.Name y1 p1,.Name y2 p2] tc tp] (.Tuple vs vc vp) f.env=pure none∨swappedStores [.Tuple [.Name y1 p1,.Name y2 p2] tc tp] (.Tuple vs vc vp) f.env=pure (some [y1,y2]):=by
     unfold swappedStores;simp only[pure_bind,List.length_cons,List.length_nil,hl,Qha,List.filterMap_cons,List.filterMap_nil];simp only[hstar,hfd,hcs];by_cases q1:(f.env.kindOf y1==some .local&&p1.line==(List.head? [PySem.Expr.Name y1 p1,PySem.Expr.Name y2 p2] |>.map (·.pos.line)).getD 0)=true <;>
     by_cases q2:(f.env.kindOf y2==some .local&&p2.line==(List.head? [PySem.Expr.Name y1 p1,PySem.Expr.Name y2 p2] |>.map (·.pos.line)).getD 0)=true
     ·right
      simp only[q1,q2,if_true];have:([y1,y2]:List Str).eraseDups.length=2:=by
       have hb:(y2==y1)=false:=by simp only[beq_eq_false_iff_ne]; exact fun q=>hne q.symm
       simp[List.eraseDups,List.eraseDupsBy,List.eraseDupsBy.loop,hb]
      simp[this];exact fun x hx hq=>absurd hq (List.any_eq_false.mp hstar x hx)
     ·left
      rw[Bool.not_eq_true] at q2;simp only[q1,q2];simp
     ·left
      rw[Bool.not_eq_true] at q1;simp only[q1,q2];simp
     ·left
      rw[Bool.not_eq_true] at q1 q2;simp only[q1,q2];simp
    rcases key with hw | hw
    ·exact Qch he ht fd (by simpa only[chkA] using h1) h2 rm i hs hw rfl p
    ·exact Qkd he fd o1 o2 hne h2 rm i hs hw p
   ·refine Qch he ht fd h1 h2 rm i hs ?_ rfl p
    unfold swappedStores;simp only[pure_bind,List.filterMap_cons,List.filterMap_nil];split
    ·rfl
    ·split
     ·rfl
     ·rfl
   ·cases hf
   ·cases hf
   ·cases hf
   ·rename_i n1 n2 n3 n4 n5
    refine Qch he ht fd h1 h2 rm i hs ?_ ?_ p
    ·unfold swappedStores
     split
     ·rename_i q
      split at q
      ·rename_i e1 _; cases e1; exact absurd rfl (n3 _ _ _)
      ·rename_i e1 _; cases e1; exact absurd rfl (n4 _ _)
      ·cases q
     ·rfl
    ·cases x<;>first | rfl | exact absurd rfl (n5 _ _)
  ·rename_i n1 n2 n3 n4
   have hs:swapsWith v (some x) pos.line f.env=pure false:=Qjw (by cases v<;>first | rfl | exact absurd rfl (n1 _ _ _ _) | exact absurd rfl (n2 _ _ _ _) | exact absurd rfl (n3 _ _ _ _ _))
   refine Qch he ht fd h1 h2 rm i hs ?_ hf p;unfold swappedStores;split
   ·rename_i q
    split at q
    ·exact absurd rfl (n4 _ _ _)
    ·exact absurd rfl (n4 _ _ _)
    ·cases q
   ·rfl
 ·cases h
end
end
section
open PySem PySem.W PyProof.Rows Builtin Builtin.ObjectAttr
set_option maxHeartbeats 4000000
abbrev RC:Nat:=51
abbrev bmE:List Value:=[.type "Exception",.type "BaseException",.type "object"]
abbrev refObj:Obj:=excClassObj "Refusal" "Refusal" RC 50 [.ref 31] (.ref 31::bmE) true [] [] false none none (some (.ref 35)) none (some (.str "Refusal" 216)) (some (.str "Refusal" 224)) (some (.bool true)) "Exception.__new__"
theorem refK (P:Params):(KX P).lookup RC=some refObj:=by kernel_rfl
theorem Qqp (P:Params):(KX P).lookup 31=some {cls:=Value.type "type",data:=Data.cls {name:=Str.ofString "CoveError",bases:=[Value.type "Exception"],mro:=[Value.ref 31,Value.type "Exception",Value.type "BaseException",Value.type "object"],ns:=30,qualname:=Str.ofString "CoveError",subclasses:=[Value.ref 51]},slots:=#[some (Value.ref 22),none,some (Value.str (Str.ofString "CoveError") 196),some (Value.str (Str.ofString "CoveError") 204),some (Value.builtin "Exception.__new__"),some (Value.bool true)]}:=by kernel_rfl
theorem ns30 (P:Params):nsOkIn (KX P) 30=true∧nsIn (KX P) 30 "__init__"=some none:=⟨by kernel_rfl,by kernel_rfl⟩
theorem Qke (P:Params):findIn (KX P) (.ref RC) "__init__"=some (some (.ref 48)):=by kernel_rfl
theorem Ql8 (P:Params):findIn (KX P) (.ref RC) "__setattr__"=some (some (.builtin "object.__setattr__")):=by kernel_rfl
theorem QiN (P:Params):findIn (KX P) (.ref RC) "message"=some none:=by kernel_rfl
theorem type48 (P:Params):typeIn (KX P) (.ref 48)=some (.type "function"):=by kernel_rfl
theorem cls51 (P:Params):∃cd,clsIn (KX P) RC=some cd∧cd.mro=.ref 51::.ref 31::bmE∧cd.hasDict=true:=⟨_,by unfold clsIn; rw[refK],rfl,rfl⟩
theorem Qkf {P:Params} {h:Heap} (X:(KX P).In h):OwnTail h bmE (.ref 31::bmE):=by
 obtain⟨n1,n2⟩:=ns30 P;have hn:h.Ns 30 (h.nsMap 30):=.of_isNs (isNs_of_in X n1);exact .own (X _ _ (Qqp P)) hn (nsMap_none_of_in X n1 n2) .base
abbrev excObj (T:Addr):Obj:={cls:=.ref RC,data:=.fields #[.ref T,.none,.none,.none,.bool false,.none]}
abbrev tupObj (l:List Value):Obj:={cls:=.type "tuple",data:=.seq l.toArray}
section
variable {prog:Program} {w:World} {A:Around} {R:Result->Shared->Prop} {h:Heap} {g:Array GenState} {d:Drawn} {t:Nat} {os:OsState}
theorem Qhb {E:Value->Shared->Prop} {Q:Fin->Shared->Prop} {rest:List Value} (X:(KX w.params).In h) (hrest:rest.length≤sizeLine)
  (hq:codeAny (model prog w) A (.call (.ref 48) ⟨.ref (h.objs.size+1)::rest,[]⟩) (fun r s'=>match r with | .ok (.ret v)=>v=.none∧Q (.done (.ret (.ref (h.objs.size+1)))) s' | .ok _=>False | .error e=>E e s') ⟨(h.push (tupObj rest)).push (excObj h.objs.size),g,d,t,os⟩) :
  wpAny (model prog w) A (Builtin.«type.__call__» ⟨.ref RC::rest,[]⟩) Q E ⟨h,g,d,t,os⟩:=by
 have hC:h.get? RC=some refObj:=X _ _ (refK _)
 repeat (first | with_reducible refine wpAny_loadPart_at hC ?_ | with_reducible refine wpAny_madeBy_exc hC ?_ | wp_step)
 refine codeAny_call_builtin_code (Code.quiet_builtin _ PySem.F.excBase_Exception.quiet) (wpAny_check_new_subU PySem.F.excBase_Exception (by decide) (Qkf X) hC ?_);refine codeAny_exc_new_subU PySem.F.excBase_Exception (by decide) PySem.F.excBase_Exception (Qkf X) hC ?_ hrest;show wpAny _ _ _ _ _ _;have k:∀b o,h.get? b=some o->((h.push (tupObj rest)).push (excObj h.objs.size)).get? b=some o:=fun b o e=>Heap.get?_push_of_some _ (Heap.get?_push_of_some _ e)
 have X_1:=X.keeps k;have hC_1:=Heap.get?_push_of_some {cls:=.ref RC,data:=.fields #[.ref h.objs.size,.none,.none,.none,.bool false,.none]}
  (Heap.get?_push_of_some {cls:=.type "tuple",data:=.seq rest.toArray} hC)
 have hget:((h.push {cls:=.type "tuple",data:=.seq rest.toArray}).push {cls:=.ref RC,data:=.fields #[.ref h.objs.size,.none,.none,.none,.bool false,.none]}).get? (h.objs.size+1)=some {cls:=.ref RC,data:=.fields #[.ref h.objs.size,.none,.none,.none,.bool false,.none]}:=by heap_get
 have hcC:(Value.ref RC::.ref 31::bmE).contains (.ref RC)=true:=by simp
 unfold isInstance
 repeat (first | with_reducible refine wpAny_loadPart_at hget ?_ | (with_reducible refine wpAny_isSubtype_exc hC_1 ?_; rw[hcC]) | wp_step)
 show wpAny _ _ (typeLookup (.ref RC) _) _ _ _;refine (looks_findIn X_1 (Qke _)).here ?_;refine wpAny_holding (wpAny_bind ((bind_fn X_1 _ (type48 _)).here ?_));refine wpAny_bind (wpAny_call (codeAny_mono hq fun r s' z=>?_));rcases r with e | (v | _ | _ | _)<;>first | exact z | exact z.elim | skip;obtain⟨rfl,z⟩:=z
 wp_walk
 exact z
theorem Qhc {rest:List Value} (X:(KX w.params).In h) (hrest:rest.length≤sizeLine)
  (hq:codeAny (model prog w) (A.under (.builtin "type.__call__" ⟨.ref RC::rest,[]⟩)) (.call (.ref 48) ⟨.ref (h.objs.size+1)::rest,[]⟩) (InitBack (h.objs.size+1) R) ⟨(h.push (tupObj rest)).push (excObj h.objs.size),g,d,t,os⟩) :
  codeAny (model prog w) A (.call (.ref RC) ⟨rest,[]⟩) R ⟨h,g,d,t,os⟩:=by
 have hC:h.get? RC=some refObj:=X _ _ (refK _);have f1:=tc_lookup;have f2:=tc_bind (.ref RC);have hT:(⟨h,g,d,t,os⟩:Shared).TypeIs (.ref RC) "type":=⟨_,hC,rfl⟩;refine codeAny_of_tree ?_;show wpAny _ _ (callAny (.ref RC) _) _ _ _
 repeat (any_goals (first | assumption | with_reducible refine wpAny_loadPart_at hC ?_ | wp_step))
 refine⟨rfl,?_⟩;refine codeAny_call_builtin_at (Code.quiet_builtin _ (by decide +kernel)) entry_typeCall (wpAny_check_type_call_sub hC (Qhb X hrest ?_));refine codeAny_mono hq fun r s' z=>?_
 rcases r with e | (v | _ | _ | _)<;>first | exact z | exact z.elim | skip
end
section
variable {prog:Program} {w:World} {A:Around} {R:Result->Shared->Prop} {s:Shared} {e:Addr}
theorem at51 {T:Addr} (he:s.heap.get? e=some (excObj T)):PySem.W.InstAt s.heap e (excObj T) RC none:=⟨he,rfl,rfl,trivial⟩
theorem refuse51 (self:Value):refuseLoop self "__setattr__" (.ref 51::.ref 31::bmE)=pure ():=by
 rw[refuseLoop_ref,refuseLoop_ref];exact PySem.F.store_Exception.passes self
theorem Qoe {T:Addr} {tk:Tok} {v:Value} (X:(KX w.params).In s.heap) (he:s.heap.get? e=some (excObj T))
  (h:∀h' d tk tk',d=s.heap.objs.size->h'=(((s.heap.push emptyDict).update e fun o=>{cls:=o.cls,dict:=some d,data:=o.data,slots:=o.slots}).update d (Obj.putName "message" (PyData.keyHash w.params "message") (.str "message" tk') v))->R (.ok (.ret .none)) {s with heap:=h',toks:=tk}) :
  codeAny (model prog w) A (.call (.builtin "object.__setattr__") ⟨[.ref e,.str "message" tk,v],[]⟩) R s:=by
 have I:=at51 he;obtain⟨cd,hc,hm0,hd⟩:=cls51 w.params;have ne:cd.mro.isEmpty=false:=by rw[hm0]; rfl
 have SF:=PySem.F.store_Exception;have sub:Looks (model prog w) s.heap (isInstance (.ref e) (.type "object")) true:=I.type.andThen (looks_mroIn X (by unfold mroIn; rw[hc,Option.bind_some,if_neg (by rw[ne]; decide),hm0]; rfl))
 refine codeAny_call_builtin SF.slot.plain SF.entry (@check_slot (model prog w) _ _ s "object.__setattr__" "object" "__setattr__" (.ref e) [.str "message" tk,v] [] _ SF.kind SF.split sub (SF.args (.ref e) (.str "message" tk) v) ?_);have hm:Looks (model prog w) s.heap (mroOf (.ref RC)) cd.mro:=(looks_clsIn X hc).andThen .now;rw[osa_eq,refuse_eq];refine wpAny_bind (wpAny_bind (I.type.here (wpAny_bind (hm.here ?_))));rw[hm0,refuse51];refine wpAny_pure (wpAny_bind (I.type.here (wpAny_bind ((looks_findIn X (QiN _)).here (wpAny_bind (wpAny_pure ?_))))));refine wpAny_bind (wpAny_pure (wpAny_bind (wpAny_bind (wpAny_loadPart he (wpAny_bind ((looks_clsIn X hc).here ?_))))));rw[hd];have he_1:(s.heap.push emptyDict).get? e=some (excObj T):=Heap.get?_push_of_some _ he;have hds:s.heap.objs.size≠e:=fun q=>by rw[←q,Heap.get?_none_of_le (Nat.le_refl _)] at he; cases he
 refine wpAny_bind (wpAny_alloc' (wpAny_bind (wpAny_update' he_1 (wpAny_pure (wpAny_bind (wpAny_pure (wpAny_bind ?_)))))));unfold nsSet;have D:(((s.heap.push emptyDict).update e fun o=>{cls:=o.cls,dict:=some s.heap.objs.size,data:=o.data,slots:=o.slots})).get? s.heap.objs.size=some emptyDict :=
  (Heap.get?_update_ne _ _ _ _ hds).trans (Heap.get?_push_size _ rfl)
 refine wpAny_bind (wpAny_bind (wpAny_askSetting (wpAny_pure (wpAny_bind (wpAny_mkText (wpAny_bind (wpAny_loadPart D ?_)))))));dsimp only;have cc:(!(#[]:Array DictEntry).any (·.key.isStr (Str.ofString "message"))&&(#[]:Array DictEntry).any (·.refKey))=false:=by simp
 rw[aRefKeyMayBeTheName_at,cc];refine wpAny_updatePart D ?_;have D':=Heap.get?_update_self (Obj.putName "message" (PyData.keyHash w.params "message") (.str "message" s.toks) v) D rfl;refine wpAny_bind (wpAny_lookBehind D' (by exact pastItsLine_dict (by rw[sizeLine_eq]; simp)) ?_)
 exact wpAny_pure (h _ _ _ _ rfl rfl)
theorem Qkg {T:Addr} {E:Value->Shared->Prop} {v:Value} {Q:Unit->Shared->Prop} (X:(KX w.params).In s.heap) (he:s.heap.get? e=some (excObj T))
  (h:∀h' d tk tk',d=s.heap.objs.size->h'=(((s.heap.push emptyDict).update e fun o=>{cls:=o.cls,dict:=some d,data:=o.data,slots:=o.slots}).update d (Obj.putName "message" (PyData.keyHash w.params "message") (.str "message" tk') v))->Q () {s with heap:=h',toks:=tk}) :
  wpAny (model prog w) A (PySem.setAttr (.ref e) "message" v) Q E s :=
 set_plain X (at51 he) (Ql8 _) (Qoe (s:={s with toks:=s.toks+1}) X he h)
end
end
section
theorem body48:sBody (methAt 3 0)=[.Assign [.Attribute (.Name (Str.ofString "self") ⟨10,8,10,12⟩) (Str.ofString "message") ⟨10,8,10,20⟩] (.Name (Str.ofString "message") ⟨10,23,10,30⟩) ⟨10,8,10,30⟩]:=by kernel_rfl
abbrev fd48:FuncData:={name:=sName (methAt 3 0),qualname:="Refusal.__init__",params:=sArgs (methAt 3 0),body:=.stmts (sBody (methAt 3 0)),scope:=sScope (methAt 3 0),globals:=mainGlobals,closure:=[],defaults:=.none,kwdefaults:=.none,pyModule:=.str "vectorcove.errors" 194,code:=.ref 47,builtins:=builtinsNs}
theorem fun48 (P:Params):(KX P).lookup 48=some (fobj (methAt 3 0) "Refusal.__init__" Value.none (.str "vectorcove.errors" 194) 47):=by kernel_rfl
theorem chk48:chkR fd48 2 2 ["self","message"]=true:=by kernel_rfl
theorem sc48:fd48.scope.names=[(Str.ofString "self",NameKind.local),(Str.ofString "message",NameKind.local)]:=by kernel_rfl
def codeOk (K:Frag) (a:Addr) (q:Str):Bool:=match K.lookup a with
 | some ⟨_,_,.fields vs,_⟩=>(match (vs.toList[1]?:Option Value) with
  | some (Value.str t _)=>t==q
  | _=>false)
 | _=>false
theorem Qhd {K:Frag} {a:Addr} {q:Str} (h:codeOk K a q=true):∃oc vs t,K.lookup a=some oc∧oc.data=.fields vs∧vs[1]?=some (.str q t):=by
 unfold codeOk at h;split at h
 ·rename_i vs sl e
  split at h
  ·rename_i t tk q'
   rw[beq_iff_eq.mp h] at q';exact⟨_,_,tk,e,rfl,by rw[←Array.getElem?_toList]; exact q'⟩
  ·cases h
 ·cases h
theorem code48 (P:Params):codeOk (KX P) 47 "Refusal.__init__"=true:=by kernel_rfl
section
variable {c:Cx} {k:Ck} {n:Nat} {C:Orc} {f g:Fm} {s s' s_0 s_1 s_2:Shared} {ρ ρ' ρ_0:List AV} {H H':AH} {cm cm' cm_1 cm_0:CM} {A:Around} {M:Model} {E:Value->Shared->Prop} {it D L:Addr} {l:List AV}
theorem Qf8 {y:Str} {m:Nat} {av:AV} {pos:Pos} {Q:Value->Shared->Prop} (h1:g.σ.lookup y=some m) (h2:g.sc.lookup y=some .local) (h3:(y==Str.ofString "__debug__")=false) (i:Inv c g s ρ H cm) (e1:ρ[m]?=some av) (e2:av≠.unset)
  (h:∀v,c.rep g.FX cm s.heap av v->Q v s):wpAny (model P0 c.w) A (eval (.Name y pos) g.env) Q E s:=by
 obtain⟨mm,hn,z⟩:=i.ns;obtain⟨v,hv,r⟩:=z y m h1 h2 av e1 e2;exact wpAny_Name (wpAny_loadName_local g.ok.kind (QaR.trans h2) hn hv (h v r)) h3
theorem init48 {T e:Addr} {m:AV} {y:Value} {rx ry:Nat} {R:Result->Shared->Prop} (rm:RoomX f A (rx+1) (ry+3)) (i:Inv c f s ρ H cm) (he:s.heap.get? e=some (excObj T)) (ry:c.rep f.FX cm s.heap m y) (hm:m≠.unset)
  (hne:e ∉ f.FX) (hna:e ∉ adr cm)
  (h:∀s' x d n tk,(∀b o,b≠e->s.heap.get? b=some o->s'.heap.get? b=some o)->s'.gens=s.gens->s'.os=s.os->s.heap.get? d=none ->
   s'.heap.get? e=some {cls:=.ref RC,dict:=some d,data:=.fields #[.ref T,.none,.none,.none,.bool false,.none]} ->
   s'.heap.get? d=some (dictOf [⟨PyData.keyHash c.w.params "message",.str "message" tk,x⟩] n)->c.rep f.FX cm s'.heap m x->R (.ok (.ret .none)) s') :
  codeAny (model P0 c.w) A (.call (.ref 48) ⟨[.ref e,y],[]⟩) R s:=by
 obtain⟨oc,vs,t,q1,q2,q3⟩:=Qhd (code48 c.w.params);have dk:DefOk s fd48 ⟨2,[],2,[]⟩ ["self","message"] 0:=⟨chk48,⟨47,oc,vs,t,rfl,i.base.X _ _ q1,q2,q3⟩,rfl,Nat.zero_le _,.inl ⟨rfl,rfl⟩⟩;have ra:c.reps f.FX cm s.heap [.kref e,m] [.ref e,y]:=⟨_,_,rfl,rfl,_,_,rfl,ry,rfl⟩;refine Qjq (Z:=[]) (H':=H) (cm':=cm) (ρ':=[.kref e,m]) dk (i.base.X _ _ (fun48 _)) rfl rfl rm i ra rfl nofun (fun g s_1 cal=>⟨Base.callee cal i.base,Cx.reps_mono cal.rr (.refl _) ra⟩) fun g s_1 cal e1 e2 e3 e4 e5 e6 i_1 rm_1=>?_
 rw[body48,arm_execs_cons];have e1':g.sc=[(Str.ofString "self",NameKind.local),(Str.ofString "message",NameKind.local)]:=e1.trans sc48;refine wpAny_bind ?_;rw[arm_exec_Assign];refine wpAny_bind (wpAny_standAt (wpAny_bind (wpAny_pure ?_)));rw[if_neg (by decide)];refine wpAny_bind (Qf8 (m:=1) (av:=m) (by rw[e2]; decide) (by rw[e1']; decide) (by decide) i_1 rfl hm fun x rx=>wpAny_bind (wpAny_pure ?_));rw[QcO rfl];show wpAny _ _ (do PySem.assign (.Attribute (.Name (Str.ofString "self") ⟨10,8,10,12⟩) (Str.ofString "message") ⟨10,8,10,20⟩) g.env x; pure Flow.next) _ _ s_1;refine wpAny_bind ?_;rw[arm_assign_Attribute];refine wpAny_bind (wpAny_holding (Qf8 (m:=0) (av:=.kref e) (by rw[e2]; decide) (by rw[e1']; decide) (by decide) i_1 rfl nofun fun z rz=>?_))
 cases (show z=.ref e from rz);have he_1:=cal.grow.keep _ _ he;refine wpAny_bind (wpAny_standAt (wpAny_bind (wpAny_holding (Qkg i_1.base.X he_1 fun h' d tk tk' hd hh=>Qkb (wpAny_pure (wpAny_pure ?_))))));have hde:d≠e:=fun q=>by rw[←q,hd,Qai] at he_1; cases he_1
 have hd0:s_1.heap.get? d=none:=by rw[hd]; exact Qai _
 have hb:∀b o,b≠e->s_1.heap.get? b=some o->h'.get? b=some o:=fun b o hbe eb=>by
  have hbd:b≠d:=fun q=>by rw[q,hd0] at eb; cases eb
  rw[hh,Heap.get?_update_ne _ _ _ _ hbd,Heap.get?_update_ne _ _ _ _ hbe];exact Heap.get?_push_of_some _ eb
 have ee:(s_1.heap.push emptyDict).get? e=some (excObj T):=Heap.get?_push_of_some _ he_1;refine h {s_1 with heap:=h',toks:=tk} x d (putN "message" [] 0) tk' (fun b o hbe eb=>hb b o hbe (cal.grow.keep _ _ eb)) cal.grow.gens cal.grow.os (Decidable.byContradiction fun q=>cal.grow.some q hd0) ?_ ?_ ?_
 ·rw[show ({s_1 with heap:=h',toks:=tk}:Shared).heap=h' from rfl,hh,Heap.get?_update_ne _ _ _ _ (Ne.symm hde),Heap.get?_update_self _ ee rfl]
 ·rw[show ({s_1 with heap:=h',toks:=tk}:Shared).heap=h' from rfl,hh]
  have ed:((s_1.heap.push emptyDict).update e fun o=>{cls:=o.cls,dict:=some d,data:=o.data,slots:=o.slots}).get? d=some (dictOf [] 0):=by
   rw[Heap.get?_update_ne _ _ _ _ hde,hd];exact Heap.get?_push_size _ rfl
  rw[Heap.get?_update_self _ ed (by rw[putName_dict]; rfl),putName_dict];rfl
 ·refine Cx.rep_mono (fun a o ⟨ea,st,n1,n2⟩=>?_) (.refl _) rx
  have hae:a≠e:=fun q=>by rw[q,he_1] at ea; cases ea; cases st
  exact⟨hb a o hae ea,st,fun q=>n1 (cal.mem.mpr (.inr (.inl q))),n2⟩
theorem Qjx {env:Env} {x:Sem Value} {Q:Flow->Shared->Prop} (hh:A.handled=none)
  (h:wpAny M A x (fun v s_1=>∃e t dx,v=.ref e∧s_1.heap.get? RC=some refObj∧s_1.heap.get? e=some {cls:=.ref RC,dict:=dx,data:=.fields #[.ref t,.none,.none,.none,.bool false,.none]}∧E (.ref e) s_1) E s) :
  wpAny M A (raiseStmt env (some x) none) Q E s:=by
 have hcB:(Value.ref RC::.ref 31::bmE).contains (.type "BaseException")=true:=by decide
 unfold raiseStmt;refine wpAny_bind (wpAny_mono h (fun v s_1 h_1=>?_) fun _ _ x=>x);obtain⟨e,t,dx,rfl,hC,he,hE⟩:=h_1;obtain⟨hp,g,d,tk,os⟩:=s_1
 repeat (first | with_reducible refine wpAny_loadPart_at he ?_ | with_reducible refine wpAny_loadPart_at hC ?_ | (with_reducible refine wpAny_isSubtype_exc hC ?_; rw[hcB]) | wp_step)
 exact wpAny_raiseNew_none hh hE
end
end
section
theorem keep51 (P:Params):keepIn (KX P) (.ref RC)=true:=by kernel_rfl
theorem ns51 (P:Params):nsIn (KX P) mainGlobals (Str.ofString "Refusal")=some (some (.ref RC)):=by kernel_rfl
section
variable {c:Cx} {k:Ck} {n:Nat} {C:Orc} {f g:Fm} {s s' s_0 s_1 s_2:Shared} {ρ ρ' ρ_0:List AV} {H H':AH} {cm cm' cm_1 cm_0:CM} {A:Around} {M:Model} {E:Value->Shared->Prop} {it D L:Addr} {l:List AV}
theorem Ql9 {e:PE} (he:SE c k n C e):SS c k n C (.raise e):=fun f fd st h A rm ρ s H cm i Q E p=>by
 simp only[chkS] at h;split at h
 ·rename_i y np z cpos pos
  simp only[Bool.and_eq_true] at h;obtain⟨⟨h0,h1⟩,h2⟩:=h;have hy:y=Str.ofString "Refusal":=QbX h0;subst hy;have h3:chkL k [e] f.sc f.σ [z]=true:=by simp only[chkL,h1,h2]; rfl
  have hns:=QbO h3;have p':SPost c f s cm ((evL C ρ [e] H).st ρ fun vs H=>match vs with | [v]=>.exc v ρ H | _=>.stuck) Q E:=by
   simp only[evS] at p;cases hv:evE C ρ e H with
   | ok v H_1=>rw[hv] at p; simp only[evL,hv,Out.bind_ok,Out.st_ok]; exact p
   | exc m H_1=>rw[hv] at p; simp only[evL,hv,Out.bind_exc,Out.st_exc]; exact p
   | stuck=>rw[hv] at p; exact p.elim
  rw[arm_exec_Raise];refine wpAny_bind (wpAny_standAt (Qjx rm.hh ?_));refine wpAny_bind (wpAny_Call_Name_kw (QcL i h0 (ns51 _) ?_));refine callWith_of (Qcq hns) (keeps_K (keep51 c.w.params)) (Qf3 hns ?_);refine bindT' (rp:=c.reps f.FX) (fun Q=>QhP [e] (fun q hq=>by cases List.mem_singleton.mp hq; exact he) f fd.cd [z] h3 cpos A rm ρ s H cm i Q E) p' fun ws H_1 xs s_1 cm_1 hok n_1 i_1 r_1 p=>?_
  match ws,r_1,p with
  | [m],r_1,p =>
   obtain⟨v,tl,e0,rm',e1⟩:=r_1;cases (show tl=[] from e1);subst e0;refine⟨i_1.base.X,wpAny_call ?_⟩;have X:=i_1.base.X;obtain⟨hh,gg,dd,tt,oo⟩:=s_1;have hm:m≠.unset:=fun q=>by rw[q] at rm'; exact rm'
   refine Qhc X (by size_fits) ?_;have g1:Grow ⟨hh,gg,dd,tt,oo⟩ ⟨(hh.push (tupObj [v])).push (excObj hh.objs.size),gg,dd,tt,oo⟩:=(Grow.push ⟨hh,gg,dd,tt,oo⟩ (tupObj [v]) tt).trans (Grow.push ⟨hh.push (tupObj [v]),gg,dd,tt,oo⟩ (excObj hh.objs.size) tt);have ex:((hh.push (tupObj [v])).push (excObj hh.objs.size)).get? (hh.objs.size+1)=some (excObj hh.objs.size):=by
    have:=Heap.get?_push_size (hh.push (tupObj [v])) (o:=excObj hh.objs.size) rfl
    rwa [Heap.size_push] at this
   have i_2:=g1.inv i_1;have en:hh.get? (hh.objs.size+1)=none:=Heap.get?_none_of_le (Nat.le_succ _);have eF:hh.objs.size+1 ∉ f.FX:=fun q=>(i_1.base.lo _ (.inl q)).2 en
   have eA:hh.objs.size+1 ∉ adr cm_1:=fun q=>(i_1.base.lo _ (.inr q)).2 en
   have ru:=Qfv (D:=RC) (xs:=[v]) rm;show codeAny (model P0 c.w) (A.under (.builtin "type.__call__" ⟨[.ref RC,v],[]⟩)) (.call (.ref 48) ⟨[.ref (hh.objs.size+1),v],[]⟩) _ _;refine init48 (rx:=7) (ry:=77) (m:=m) ⟨ru.hh,by have:=ru.depth; omega,by have:=ru.units; omega,ru.frames⟩ i_2 ex (Cx.rep_mono g1.rr (.refl _) rm') hm eF eA fun s' x d nn tk k1 k2 k3 k4 k5 k6 k7=>⟨rfl,?_⟩
   have gs:Grow ⟨hh,gg,dd,tt,oo⟩ s':=⟨fun a o e=>k1 a o (fun q=>by rw[q,en] at e; cases e) (g1.keep a o e),k2,k3⟩;refine wpAny_bind (wpAny_standAt (wpAny_pure ?_));refine⟨hh.objs.size+1,hh.objs.size,some d,rfl,gs.keep _ _ (X _ _ (refK _)),k5,?_⟩;have dn:hh.get? d=none:=Decidable.byContradiction fun q=>g1.some q k4
   have dF:d ∉ f.FX:=fun q=>(i_1.base.lo _ (.inl q)).2 dn
   have dA:d ∉ adr cm_1:=fun q=>(i_1.base.lo _ (.inr q)).2 dn
   refine p _ s' cm_1 gs.nx (gs.inv i_1) (.inl ⟨_,_,d,_,_,nn,rfl,k5,rfl,rfl,rfl,en,eF,eA,⟨k6,rfl,dF,dA⟩,⟨"message",[],x,tk,[],rfl,rfl,k7,rfl,rfl⟩,rfl⟩)
  | [],_,p=>exact p.elim
  | _::_::_,_,p=>exact p.elim
 ·cases h
end
end
section
open PySem PySem.W PyProof.Rows Builtin Builtin.ObjectAttr
set_option maxHeartbeats 4000000
theorem Qof (P:Params):findIn (KX P) (.ref RC) "__getattribute__"=some (some (.builtin "BaseException.__getattribute__")):=by kernel_rfl
theorem Qog (P:Params):findIn (KX P) (.ref RC) "__getattr__"=some none:=by kernel_rfl
theorem dict51 (P:Params):hasDictIn (KX P) RC=true:=by kernel_rfl
theorem Qoh:builtinKind "BaseException.__getattribute__"=some .slot:=by decide +kernel
theorem Qma:splitId "BaseException.__getattribute__"=some ("BaseException","__getattribute__"):=by decide +kernel
theorem ga_ne:(Value.builtin "BaseException.__getattribute__"==Value.builtin "object.__getattribute__")=false:=by decide +kernel
section
variable {prog:Program} {w:World} {A:Around} {E:Value->Shared->Prop} {s:Shared} {a:Addr} {ox:Obj} {od:Option Obj}
theorem Qff {R:Result->Shared->Prop} {tk:Tok} {v:Value} (X:(KX w.params).In s.heap) (I:PySem.W.InstAt s.heap a ox RC od) (hf:findObj (KX w.params) RC od "message"=some (.value v)) (hq:R (.ok (.ret v)) s) :
  codeAny (model prog w) A (.call (.builtin "BaseException.__getattribute__") ⟨[.ref a,.str "message" tk],[]⟩) R s:=by
 obtain⟨cd,hc,hm0,hd⟩:=cls51 w.params;have ne:cd.mro.isEmpty=false:=by rw[hm0]; rfl
 have sub:Looks (model prog w) s.heap (isInstance (.ref a) (.type "BaseException")) true:=I.type.andThen (looks_mroIn X (by unfold mroIn; rw[hc,Option.bind_some,if_neg (by rw[ne]; decide),hm0]; rfl))
 refine codeAny_call_builtin PySem.F.attr_Exception.ga.plain PySem.F.entry_bexc_ga (@check_slot (model prog w) _ _ s "BaseException.__getattribute__" "BaseException" "__getattribute__" (.ref a) [.str "message" tk] [] _ Qoh Qma sub (PySem.F.args_bexc_ga (.ref a) (.str "message" tk)) ?_);have L1:=looks_find (M:=model prog w) X I hf;unfold Builtin.«object.__getattribute__»;refine wpAny_bind (wpAny_pure (wpAny_bind (wpAny_pure (wpAny_bind (I.type.here (wpAny_bind (L1.here ?_)))))));exact wpAny_pure hq
theorem Qmb {v:Value} {Q:Value->Shared->Prop} (X:(KX w.params).In s.heap) (I:PySem.W.InstAt s.heap a ox RC od) (hf:findObj (KX w.params) RC od "message"=some (.value v)) (hh:handedIn v=true) (hq:Q v {s with toks:=s.toks+1}) :
  wpAny (model prog w) A (getAttr (.ref a) "message" true) Q E s:=by
 have f3:=PySem.F.attr_Exception.ga.bind (.ref a);unfold getAttr getAttrBy;refine wpAny_bind (wpAny_mkText (wpAny_holding (wpAny_bind (I.type _ _ _ _ (fun _ _ e=>e) (wpAny_bind (looks_findIn X (Qof _) _ _ _ _ (fun _ _ e=>e) ?_))))));dsimp only;rw[ga_ne,Bool.and_false,if_neg (by decide)];unfold getAttrByItsOwn hookBefore;refine wpAny_bind (looks_findIn X (Qog _) _ _ _ _ (fun _ _ e=>e) ?_);refine wpAny_bind (wpAny_attempt (wpAny_holding ?_));unfold callGetattribute;rw[if_neg (by decide)];unfold boundAndCalled;rw[f3];refine wpAny_bind (wpAny_pure (wpAny_call (Qff (s:={s with toks:=s.toks+1}) X I hf ?_)));show wpAny _ _ (handedOut v) _ _ _;rw[handedOut_of hh];exact wpAny_pure hq
end
end
section
section
variable {c:Cx} {k:Ck} {n:Nat} {C:Orc} {f g:Fm} {s s' s_0 s_1 s_2:Shared} {ρ ρ' ρ_0:List AV} {H H':AH} {cm cm' cm_1 cm_0:CM} {A:Around} {M:Model} {E:Value->Shared->Prop} {it D L:Addr} {l:List AV}
theorem Qjy {y:Str} {k:Nat} {pos:Pos} {Q:Unit->Shared->Prop} (h1:f.σ.lookup y=some k) (h2:f.sc.lookup y=some .local) (i:Inv c f s ρ H cm)
  (hQ:∀s',Nx f.FA f.FO s cm s' cm->Inv c f s' (ρ.set k .unset) H cm->Q () s'):wpAny M A (do bindName f.env y .none; unbindBehindTheSuite f.env y pos) Q E s:=by
 have hk:f.env.kindOf y=some .local:=QaR.trans h2;obtain⟨m,hns,z⟩:=i.ns;refine wpAny_nameGoes_keeps hk hns (by rw[f.ok.kind]; rfl) fun h' v hn' hs'=>?_
 obtain⟨on,es,ep,e1,e2,e3⟩:=id hn';have t:OwnTurn f f.env.locals s {s with heap:=h',toks:=s.toks+1}:=⟨f.ok.loc,fun b hb=>hs'.2 b hb,by show h'.get? _≠none; rw[e1]; nofun,rfl,rfl⟩;have rr:=(t.nx i).rr i.base;refine hQ _ (t.nx i) ⟨t.base i,i.dj,i.dj2,⟨_,hn',fun x j q1 q2=>?_⟩,fun x j kd' c' q1 q2 q3 q4=>?_,t.frs i fun o e vs=>by
  have e':h'.get? f.env.locals=some o:=e;rw[e1] at e'; cases e'; rw[e2]; nofun⟩
 ·by_cases hj:j=k
  ·subst hj
   intro av q hq;rw[List.getElem?_set] at q;simp only[if_true] at q;split at q
   ·cases q; exact absurd rfl hq
   ·cases q
  ·have hxy:x≠y:=fun q=>hj (by rw[q,h1] at q1; exact (Option.some.inj q1).symm)
   rw[if_neg hxy];exact slot_set hj rr (z x j q1 q2)
 ·obtain⟨o,ov,e,d,zz⟩:=i.cl x j kd' c' q1 q2 q3 q4
  obtain⟨c'',w1,w2,_⟩:=f.ok.cell x j kd' q1 q2 q3;rw[q4] at w1; cases w1;have hj:j≠k:=fun q=>by
   subst q;have:=f.ok.slots x y j _ _ q1 h1 q2 h2;subst this;rw[h2] at q2; cases q2; rcases q3 with q3 | q3<;>cases q3
  exact⟨o,ov,(hs'.2 c' w2).trans e,d,slot_set hj rr zz⟩
theorem Qoi {a d m:Nat} {o:Obj} {ds:List DictEntry} {u:AV} {Q:Value->Shared->Prop} (i:Inv c f s ρ H cm) (he:s.heap.get? a=some o) (hc:o.cls=.ref RC) (hd:o.dict=some d) (hf:∃vs,o.data=.fields vs) (hr:Rr f.FX cm s.heap d (dictOf ds m))
  (z:c.repd f.FX cm s.heap ["message"] [u] ds) (h:∀v s',Nx f.FA f.FO s cm s' cm->Inv c f s' ρ H cm->c.rep f.FX cm s'.heap u v->Q v s'):wpAny (model P0 c.w) A (getAttr (.ref a) (Str.ofString "message") true) Q E s:=by
 obtain⟨val,hv,rv⟩:=(Qcg "message" z).1 u (by simp[keyAt]);obtain⟨vs,hf⟩:=hf;have I:PySem.W.InstAt s.heap a o RC (some (dictOf ds m)):=⟨he,hc,by unfold notCls; rw[hf],by rw[hd]; exact hr.1⟩;have g:=Grow.toks s (s.toks+1);exact Qmb i.base.X I (findObj_own (od:=dictOf ds m) (dict51 _) (QiN _) rfl ((lookIn_dict _ _ _).trans hv)) (Qft rv) (h _ _ g.nx (g.inv i) (Cx.rep_mono g.rr (.refl _) rv))
theorem Qoj {b:List PS} {m ek:Nat} (hb:SSs c k n C b):SS c k n C (.tryR b m ek):=fun f fd st h A rm ρ s H cm i Q E p=>by
 simp only[chkS] at h;split at h
 ·rename_i u y yp w z zp w' wp aa ap ps hp pos
  simp only[Bool.and_eq_true,beq_iff_eq,bne_iff_ne,ne_eq] at h;obtain⟨⟨⟨⟨⟨⟨⟨h0,rfl⟩,rfl⟩,h3⟩,h4⟩,h5⟩,h6⟩,h7⟩:=h;have hy:y=Str.ofString "Refusal":=QbX h0;subst hy;obtain⟨a1,⟨kd1,a2,a3⟩,a4⟩:=QbR h3;obtain⟨b1,_,b4⟩:=QbR h4;refine wpAny_Try_except ?_;refine hb f fd u h7 A rm ρ s H cm i _ _ ?_;simp only[evS] at p;cases ho:evSs C b ρ H with
  | stuck=>rw[ho] at p; exact p.elim
  | ok fl ρ_1 H_1 =>
   rw[ho] at p;intro x s' cm' nx iv hf;have pp:=p x s' cm' nx iv hf;cases fl with
   | next=>cases hf; exact wpAny_execs_nil pp
   | cont=>cases hf; exact pp
   | ret v=>obtain⟨y,rfl,_⟩:=hf; exact pp
  | exc mm ρ_1 H_1 =>
   rw[ho] at p;by_cases hlen:ek<ρ_1.length
   rotate_left
   ·simp only[hlen,if_false] at p; exact p.elim
   simp only[hlen,if_true] at p;intro e s' cm' nx iv ex;have hh:=i.base.alive;obtain⟨r,hfs⟩:=fd.fs;refine noteF (rm.frames.trans (congrArg some hfs)) hfs fd.fr iv hh nx.alive ex fun s_2 t_2 x_2=>flightF hh x_2 none fun s_3 t_3 x_3=>?_
   have iv_3:=(t_2.trans t_3).inv hh iv;obtain⟨a,o,d,vs,ds,nn,rfl,e2,e3,e4,e5,e6,e7,e8,e9,e10,e11⟩:=id x_3;refine wpAny_handleBy_cons (codeAny_handlers_test (QcL iv_3 h0 (ns51 _) ?_)) (by intro q; cases q)
   obtain⟨hp3,g3,d3,tk3,os3⟩:=s_3;refine wpAny_excMatches_sub_self (iv_3.base.X _ _ (refK _)) e2 e3 (by decide) (codeAny_handlers_suite_as ?_);refine flightF hh x_3 none fun s₄ t₄ x₄=>?_
   have tt:=(t_2.trans t_3).trans t₄;have iv₄:=tt.inv hh iv;have nx₄:=tt.nx nx;obtain⟨a',o',d',vs',ds',nn',ea,w2,w3,w4,w5,w6,w7,w8,w9,w10,w11⟩:=id x₄;cases ea;refine Qa1 (av:=.kref a) b1 h5 (.inl rfl) (by rw[fd.ow]) iv₄ rfl fun s₅ n₅ iv₅=>?_
   have hag:a≠gh:=fun q=>hh _ c.glow (by rw[←q]; exact w6)
   have w2':=n₅.keep a o' w2 hag (fun q=>w7 (Qay (.inl q))) (fun q=>w7 (Qay (.inr q))) w8;have w9':=n₅.rr iv₄.base _ _ w9;have w10':=n₅.repd iv₄.base w10;rw[arm_execs_cons];refine wpAny_bind ?_;rw[arm_exec_Assign];refine wpAny_bind (wpAny_standAt (wpAny_bind (wpAny_pure ?_)));rw[if_neg (by decide)]
   ·refine wpAny_bind (QgU rfl (Qf8 (av:=.kref a) b1 h5 b4 iv₅ (by rw[List.getElem?_set]; simp[hlen]) nofun fun v rv=>?_))
    cases (show v=.ref a from rv);refine Qoi iv₅ w2' w3 w4 ⟨_,w5⟩ w9' w10' fun v s₆ n₆ iv₆ rv=>?_
    refine wpAny_bind (wpAny_pure ?_);rw[QcO rfl];show wpAny _ _ (do PySem.assign (.Name z zp) f.env v; pure Flow.next) _ _ s₆;refine wpAny_bind (wpAny_assign_Name (Qa1 a1 a2 a3 (by rw[fd.ow]) iv₆ rv fun s₇ n₇ iv₇=>wpAny_pure (wpAny_execs_nil ?_)))
    refine Qjy b1 h5 iv₇ fun s₈ n₈ iv₈=>?_
    have e:(((ρ_1.set ek (.kref a)).set m mm).set ek .unset)=(ρ_1.set m mm).set ek .unset:=by
     rw[List.set_comm _ _ (fun q=>h6 q.symm),List.set_set]
    rw[e] at iv₈;exact p .next s₈ cm' ((((nx₄.trans n₅).trans n₆).trans n₇).trans n₈) iv₈ rfl
 ·cases h
end
end
section
section
variable {c:Cx} {k:Ck} {n:Nat} {C:Orc}
mutual
theorem Qqq (ok:CkOk c k) (os:OSnd c n C):∀p:PS,SS c k n C p
 | .asg t e=>Qqo (Qaj ok os e) (Qm2 ok os t) fun e' gs mu q=>by
  subst q;exact⟨Qaj ok os e',Qj7 ok os gs⟩
 | .aug _ _ e=>Qqh (Qaj ok os e)
 | .exp e=>Qqf (Qaj ok os e)
 | .ret e=>Qqe (Qaj ok os e)
 | .ret0=>Qoc
 | .ite t a b=>Qqg (Qaj ok os t) (QeJ a (Qdn ok os a)) (QeJ b (Qdn ok os b))
 | .whl t b=>Qqi (Qaj ok os t) (QeJ b (Qdn ok os b))
 | .for_ _ _ it b=>Qqj (Qaj ok os it) (QeJ b (Qdn ok os b))
 | .cont=>Qob
 | .pass=>Qoa
 | .raise e=>Ql9 (Qaj ok os e)
 | .tryR b _ _=>Qoj (QeJ b (Qdn ok os b))
 | .bad=>Qqd
theorem Qdn (ok:CkOk c k) (os:OSnd c n C):∀l:List PS,∀p∈l,SS c k n C p
 | [],p,h=>by cases h
 | a::l,p,h=>(List.mem_cons.mp h).elim (fun q=>q ▸ Qqq ok os a) fun q=>Qdn ok os l p q
end
theorem Qok (ok:CkOk c k) (os:OSnd c n C) {sc:Sc} {σ:Sl} {b:List PS} {body:List Stmt} (h:chkSs k b sc σ body=true):BodyOk c n C sc σ k.code k.qual b body :=
 fun g e1 e2 e3 e4 e5 e6 A rm ρ s H cm i Q E p=>QeJ b (Qdn ok os b) g ⟨e4,e3,e6,e5⟩ body (by rw[e1,e2]; exact h) A rm ρ s H cm i Q E p
end
def avEq:AV->AV->Bool
 | .kref a,.kref b=>a==b
 | .int i,.int j=>i==j
 | .tup [.int i,.int j],.tup [.int i',.int j']=>i==i'&&j==j'
 | _,_=>false
theorem Qkh {v w:AV} (h:avEq v w=true):v=w:=by
 unfold avEq at h;split at h<;>simp_all
def gOk (gL:List (String × AV)) (n:String) (v:AV):Bool:=gL.any fun p=>p.1==n&&avEq p.2 v
def gGood (K:Frag) (n:String):AV->Bool
 | .kref b=>n != "__debug__"&&nsIn K mainGlobals (Str.ofString n)==some (some (.ref b))
 | .int j=>n != "__debug__"&&(match nsIn K mainGlobals (Str.ofString n) with | some (some (.int i _))=>i==j | _=>false)
 | .tup [.int i,.int j]=>n != "__debug__"&&(match nsIn K mainGlobals (Str.ofString n) with
  | some (some (.ref a))=>(match K.lookup a with
   | some o=>o.cls==.type "tuple"&&(match o.data with
    | .seq xs _=>(match xs.toList with
     | [.int i' _,.int j' _]=>i==i'&&j==j'
     | _=>false)
    | _=>false)
   | _=>false)
  | _=>false)
 | _=>false
theorem Qm3 {P:Params} {n:String} {v:AV} (h:gGood (KX P) n v=true):n≠"__debug__"∧∃val,nsIn (KX P) mainGlobals (Str.ofString n)=some (some val)∧GlobV P v val:=by
 unfold gGood at h;split at h
 ·simp only[Bool.and_eq_true,bne_iff_ne,beq_iff_eq] at h
  exact⟨h.1,_,h.2,rfl⟩
 ·simp only[Bool.and_eq_true,bne_iff_ne] at h
  obtain⟨h1,h2⟩:=h;split at h2
  ·rename_i i t e
   exact⟨h1,_,e,t,by rw[beq_iff_eq.mp h2]⟩
  ·cases h2
 ·simp only[Bool.and_eq_true,bne_iff_ne] at h
  obtain⟨h1,h2⟩:=h;split at h2
  ·rename_i a e
   split at h2
   ·rename_i o eo
    simp only[Bool.and_eq_true,beq_iff_eq] at h2;obtain⟨h3,h4⟩:=h2;split at h4
    ·rename_i xs m ed
     split at h4
     ·rename_i i' t j' u q
      simp only[Bool.and_eq_true,beq_iff_eq] at h4;obtain⟨rfl,rfl⟩:=h4;refine⟨h1,_,e,a,o,t,u,m,rfl,eo,h3,?_⟩;rw[ed];obtain⟨l⟩:=xs;simp only at q;rw[q]
     ·cases h4
    ·cases h4
   ·cases h2
  ·cases h2
 ·cases h
def ckL (gL:List (String × AV)) (code:Value) (qual:Str):Ck:={g:=gOk gL,lm:=fun _ _ _ _ _=>false,init:=fun a b=>initL.contains (a,b),mt:=fun a b d=>mtL.contains (a,b,d),code:=code,qual:=qual}
abbrev lamFd (a:Arguments) (b:PySem.Expr) (s:Scope):FuncData:={name:="",qualname:="",params:=a,body:=.expr b,scope:=s,globals:=mainGlobals,closure:=[],defaults:=.none,kwdefaults:=.none,pyModule:=.none,code:=.none,builtins:=builtinsNs}
abbrev LamT:=List (Nat × FD × List Str)
def lamIn (gL:List (String × AV)) (lamL:LamT) (m:Nat) (a:Arguments) (b:PySem.Expr) (s:Scope):Bool:=match lamL.lookup m with
 | some (d,xs)=>(match d.body with
  | [.ret pe]=>d.dflt.isEmpty&&chkR (lamFd a b s) d.np d.ns xs&&chkE (ckL gL .none "") pe s.names (sigma xs) b
  | _=>false)
 | none=>false
def noFree (s:Scope):Bool:=s.names.all fun p=>!(p.2==.free)
def noDef:Arguments->Bool
 | ⟨_,_,_,_,kwd,_,d⟩=>kwd.isEmpty&&d.isEmpty
def lamOk (gL:List (String × AV)) (lamL:LamT) (m:Nat) (a:Arguments) (b:PySem.Expr) (s:Scope):Bool:=noFree s&&noDef a&&lamIn gL lamL m a b s
def LOx (gL:List (String × AV)) (lamL:LamT) (m:Nat) (fd:FuncData):Prop:=fd.defaults=.none∧fd.closure=[]∧fd.globals=mainGlobals∧fd.builtins=builtinsNs∧∃b,fd.body=.expr b∧lamIn gL lamL m fd.params b fd.scope=true
theorem Qjz {s:Scope} (h:noFree s=true) (env:Env):closureFor s env=pure []:=closureFor_none fun x hx q=>by
 have:=List.all_eq_true.mp h x hx;simp[q] at this
theorem QhU {a:Arguments} (h:noDef a=true) (env:Env):defaultsOf a env=([],[]):=by
 obtain⟨x1,x2,x3,x4,kwd,x6,d⟩:=a;simp only[noDef,Bool.and_eq_true,List.isEmpty_iff] at h;obtain⟨rfl,rfl⟩:=h;rfl
def ckF (gL:List (String × AV)) (lamL:LamT) (fd:FuncData):Ck:={g:=gOk gL,lm:=fun m a b s p=>fd.code==.ref 1105&&fd.qualname=="_law_places_hold"&&lamOk gL lamL m a b s,init:=fun a b=>initL.contains (a,b),mt:=fun a b d=>mtL.contains (a,b,d),code:=fd.code,qual:=fd.qualname++".<locals>."}
theorem code1105 (P:Params):(KX P).lookup 1105=some {cls:=Value.type "code",data:=Data.fields #[Value.str (Str.ofString "_law_places_hold") 1707,Value.str (Str.ofString "_law_places_hold") 1708,Value.str (Str.ofString "/claim/cut.py") 1709,Value.int 1061 0,Value.int 1 0,Value.int 0 0,Value.int 0 0,Value.int 3 0,Value.ref 1102,Value.bool true,Value.int 181 0,Value.ref 1103,Value.none,Value.none,Value.none,Value.ref 1104,Value.int 1710 0,Value.int 1061 0,Value.str (Str.ofString "/claim/cut.py") 1711]}:=by kernel_rfl
theorem hd1105 {P:Params} {h:Heap} (X:(KX P).In h):CodeHd h 1105 gh:=⟨_,_,_,_,_,_,_,_,_,X _ _ (code1105 P),rfl,rfl,rfl,rfl,rfl,rfl,rfl,rfl,by decide⟩
abbrev lqX:Str:=Str.ofString "_law_places_hold"++".<locals>."++Str.ofString "<lambda>"
theorem Qmc {fd:FuncData} {a:Arguments} {b:PySem.Expr} {s:Scope} {np ns:Nat} {xs:List Str} (h1:fd.params=a) (h2:fd.scope=s) (h3:fd.closure=[]) (h4:fd.globals=mainGlobals) (h5:fd.builtins=builtinsNs) (h:chkR (lamFd a b s) np ns xs=true):chkR fd np ns xs=true:=by
 unfold chkR at h ⊢;rw[h1,h2,h3,h4,h5];exact h
theorem ck_ok {c:Cx} {gL:List (String × AV)} {lamL:LamT} (hg:gL.all (fun p=>gGood (KX c.w.params) p.1 p.2)=true) (hlq:c.lq=lqX) (hLO:c.LO=LOx gL lamL) (fd:FuncData):CkOk c (ckF gL lamL fd) where
 g n v h:=by
  obtain⟨p,hp,q⟩:=List.any_eq_true.mp h;simp only[Bool.and_eq_true,beq_iff_eq] at q;obtain⟨rfl,q⟩:=q;cases Qkh q;exact Qm3 (List.all_eq_true.mp hg p hp)
 mt D n f h:=List.contains_iff_mem.mp h
 init D i h:=List.contains_iff_mem.mp h
 lm m a b s p h:=by
  simp only[ckF,lamOk,Bool.and_eq_true,beq_iff_eq] at h;obtain⟨⟨h1,h2⟩,⟨h3,h4⟩,h5⟩:=h;refine⟨⟨1105,h1,fun h X=>hd1105 X⟩,?_,QhU h4,Qjz h3,fun fd' e1 e2 e3 e4 e5 e6 e7=>?_⟩
  ·rw[hlq]; show fd.qualname++".<locals>."++_=_; rw[h2]
  ·rw[hLO]
   exact⟨e7,e4,e5,e6,b,e2,by rw[e1,e3]; exact h5⟩
theorem Qqr {c:Cx} {gL:List (String × AV)} (hg:gL.all (fun p=>gGood (KX c.w.params) p.1 p.2)=true) (code:Value) (qual:Str):CkOk c (ckL gL code qual) where
 g n v h:=by
  obtain⟨p,hp,q⟩:=List.any_eq_true.mp h;simp only[Bool.and_eq_true,beq_iff_eq] at q;obtain⟨rfl,q⟩:=q;cases Qkh q;exact Qm3 (List.all_eq_true.mp hg p hp)
 mt D n f h:=List.contains_iff_mem.mp h
 init D i h:=List.contains_iff_mem.mp h
 lm m a b s p h:=by cases h
def noneAV:AV->Bool
 | .none=>true
 | _=>false
theorem QiO:∀{l:List AV},l.all noneAV=true->l=List.replicate l.length .none
 | [],_=>rfl
 | x::l,h=>by
  simp only[List.all_cons,Bool.and_eq_true] at h;rw[List.length_cons,List.replicate_succ,←QiO h.2];cases x<;>first | rfl | cases h.1
def dvOk (K:Frag) (v:Value) (kd:Nat):Bool:=(v==.none&&kd==0)||(match v with
 | .ref T=>(match K.lookup T with
  | some ⟨_,_,.seq xs _,_⟩=>xs.toList.all (·==Value.none)&&xs.toList.length==kd
  | _=>false)
 | _=>false)
theorem Qhe:∀{l:List Value},l.all (·==Value.none)=true->l=List.replicate l.length .none
 | [],_=>rfl
 | x::l,h=>by
  simp only[List.all_cons,Bool.and_eq_true,beq_iff_eq] at h;rw[List.length_cons,List.replicate_succ,←Qhe h.2,h.1]
theorem dv_ok {K:Frag} {v:Value} {kd:Nat} (h:dvOk K v kd=true):(v=.none∧kd=0)∨∃T oT m,v=.ref T∧K.lookup T=some oT∧oT.data=.seq (List.replicate kd Value.none).toArray m:=by
 unfold dvOk at h;rw[Bool.or_eq_true] at h;rcases h with h | h
 ·simp only[Bool.and_eq_true,beq_iff_eq] at h
  exact .inl h
 ·right
  split at h
  ·rename_i T
   split at h
   ·rename_i xs m sl e
    simp only[Bool.and_eq_true,beq_iff_eq] at h;refine⟨T,_,m,rfl,e,?_⟩;have:=Qhe h.1;rw[h.2] at this;obtain⟨l⟩:=xs;simp only at this;rw[this]
   ·cases h
  ·cases h
abbrev FunT:=List (Nat × Bool × FD × List Str × Nat)
def funChk (K:Frag) (gL:List (String × AV)) (lamL:LamT) (fa:Nat) (d:FD) (xs:List Str) (kd:Nat):Bool:=match K.lookup fa with
 | some ⟨_,_,.func fd,_⟩=>(match fd.body,fd.code with
  | .stmts body,.ref c'=>chkR fd d.np d.ns xs&&codeOk K c' fd.qualname&&d.dflt.all noneAV&&d.dflt.length==kd&&decide (kd≤d.np)&&dvOk K fd.defaults kd&&chkSs (ckF gL lamL fd) d.body fd.scope.names (sigma xs) body
  | _,_=>false)
 | _=>false
theorem Qol {c:Cx} {gL:List (String × AV)} {lamL:LamT} (hg:gL.all (fun p=>gGood (KX c.w.params) p.1 p.2)=true) (hlq:c.lq=lqX) (hLO:c.LO=LOx gL lamL) {fa:Nat} {d:FD} {xs:List Str} {kd:Nat} (h:funChk (KX c.w.params) gL lamL fa d xs kd=true) :
  ∃fd body xs kd,FunK c.w.params fa d fd body xs kd∧∀n C,OSnd c n C->BodyOk c n C fd.scope.names (sigma xs) fd.code (fd.qualname++".<locals>.") d.body body:=by
 unfold funChk at h;split at h
 ·rename_i o1 o2 fd o4 e
  split at h
  ·rename_i body c' hb hc
   simp only[Bool.and_eq_true,beq_iff_eq,decide_eq_true_eq] at h;obtain⟨⟨⟨⟨⟨⟨h1,h2⟩,h3⟩,h4⟩,h5⟩,h6⟩,h7⟩:=h;obtain⟨oc,vs,t,q1,q2,q3⟩:=Qhd h2;refine⟨fd,body,xs,kd,⟨⟨_,e,rfl⟩,hb,h1,⟨c',oc,vs,t,hc,q1,q2,q3⟩,by rw[←h4]; exact QiO h3,h5,dv_ok h6⟩,fun n C os=>?_⟩;exact Qok (k:=ckF gL lamL fd) (ck_ok hg hlq hLO fd) os h7
  ·cases h
 ·cases h
theorem Qdo {β:Type}:∀{l:List (Nat × β)} {a:Nat} {b:β},l.lookup a=some b->(a,b)∈l
 | [],_,_,h=>by cases h
 | (k,v)::r,a,b,h=>by
  rw[List.lookup_cons] at h;cases hk:a==k with
  | true=>rw[hk] at h; cases h; rw[beq_iff_eq.mp hk]; exact .head _
  | false=>rw[hk] at h; exact .tail _ (Qdo h)
def tabT (L:FunT) (fa:Nat):Option (Bool × FD):=(L.lookup fa).map fun p=>(p.1,p.2.1)
def tabU (L:LamT) (m:Nat):Option FD:=(L.lookup m).map (·.1)
def LamFree (gL:List (String × AV)) (lamL:LamT):Prop:=∀m d xs pe,lamL.lookup m=some (d,xs)->d.body=[.ret pe]->∀code qual sc σ x,chkE (ckL gL code qual) pe sc σ x=chkE (ckL gL .none "") pe sc σ x
theorem Qom {c:Cx} {gL:List (String × AV)} {lamL:LamT} {L:FunT} (hg:gL.all (fun p=>gGood (KX c.w.params) p.1 p.2)=true) (hlq:c.lq=lqX) (hLO:c.LO=LOx gL lamL) (hL:L.all (fun p=>funChk (KX c.w.params) gL lamL p.1 p.2.2.1 p.2.2.2.1 p.2.2.2.2)=true) (hf:LamFree gL lamL) :
  Tabs c (tabT L) (tabU lamL) where
 f fa p d h:=by
  unfold tabT at h;obtain⟨q,hq,e⟩:=Option.map_eq_some_iff.mp h;obtain⟨q1,q2,q3,q4⟩:=q;cases e;exact Qol hg hlq hLO (List.all_eq_true.mp hL _ (Qdo hq))
 l m d h fd hfd:=by
  unfold tabU at h;obtain⟨q,hq,e⟩:=Option.map_eq_some_iff.mp h;obtain⟨q1,xs⟩:=q;cases e;rw[hLO] at hfd;obtain⟨h1,h2,h3,h4,b,h5,h6⟩:=hfd;unfold lamIn at h6;rw[hq] at h6;dsimp only at h6;split at h6
  ·rename_i pe hpe
   simp only[Bool.and_eq_true,List.isEmpty_iff] at h6;obtain⟨⟨h7,h8⟩,h9⟩:=h6;refine⟨b,pe,xs,h5,hpe,Qmc rfl rfl h2 h3 h4 h8,h7,h1,fun n C os g e1 e2=>?_⟩;refine (Qaj (Qqr hg g.env.code g.env.qual) os pe g ⟨rfl,rfl⟩ b ?_).1;rw[hf m _ xs pe hq hpe,e1,e2];exact h9
  ·cases h6
end
abbrev D0:PE:=.loc 0
abbrev D1:PE:=.loc 1
abbrev D2:PE:=.loc 2
abbrev D3:PE:=.loc 3
abbrev D4:PE:=.loc 4
abbrev D5:PE:=.glob "_law_draw" (.kref 1038)
abbrev D6:PE:=.loc 5
abbrev D7:PE:=.glob "shape_of" (.kref 737)
abbrev D8:PE:=.glob "is_matrix" (.kref 730)
abbrev D9:PE:=.loc 6
abbrev D10:PE:=.glob "new_matrix" (.kref 770)
abbrev D11:PE:=.comp D1 [.mk [1] true (.range1 (.len (.attr D0 "tags"))) [(.cmp .eq (.sub (.attr D0 "used") D1) (.int 0))]] false
abbrev D12:PE:=.comp (.cat (.upto D4 D2) (.from D4 (.bin .add D2 (.int 1)))) [.mk [4] true (.from D0 (.int 1)) []] false
abbrev D13:PE:=.call (.glob "needed" (.kref 146)) [(.sub (.call (.glob "take" (.kref 152)) [D1,(.lst [(.str "x")] false)]) (.int 0)),(.str "x")]
abbrev D14:PE:=.attr D0 "items"
abbrev D15:PE:=.comp (.sub D6 (.int 0)) [.mk [5] true D1 []] false
abbrev D16:PE:=.comp (.attr (.call (.loc 16) [.non,(.lst [(.tup [.non,D3])] false),.non]) "items") [.mk [16] true (.lst [(.glob "b_nrow" (.kref 926)),(.glob "b_ncol" (.kref 933)),(.glob "b_all_rows" (.kref 940)),(.glob "b_all_columns" (.kref 947))] false) []] false
abbrev D17:PE:=.comp (.comp (.call (.glob "_law_sum" (.kref 1069)) [(.comp (.tup [(.sub D2 D4),(.sub (.sub D1 D4) D3)]) [.mk [4] true (.range1 (.len D2)) []] false)]) [.mk [3] true (.range1 (.len (.sub D1 (.int 0)))) []] false) [.mk [2] true D0 []] false
abbrev D18:PE:=.glob "axis_names" (.kref 744)
abbrev D19:PE:=.comp (.comp (.bin .sub (.bin .mul (.sub (.loc 9) (.loc 10)) (.sub D6 D3)) (.bin .mul (.sub D6 (.loc 10)) (.sub (.loc 9) D3))) [.mk [10] true (.range1 (.len D6)) []] false) [.mk [9] true (.from D4 (.int 1)) []] false
abbrev D20:PE:=.sub D0 (.int 0)
abbrev D21:PE:=.bin .add (.int 1) (.call D5 [D2,(.int 3)])
abbrev D22:PE:=.bin .add (.int 1) (.call D5 [D2,(.int 2)])
abbrev D23:PE:=.glob "_law_rows" (.kref 1045)
abbrev D24:PE:=.attr D0 "kind"
abbrev D25:PE:=.sub D0 (.int 1)
abbrev D26:PE:=.call (.glob "two_vectors" (.kref 954)) [(.lst [(.tup [.non,D3]),(.tup [.non,D4])] false)]
abbrev D27:PE:=.comp (.comp (.ife (.cmp .eq (.loc 18) (.loc 19)) (.tup [(.int 1),(.int 1)]) (.tup [(.int 0),(.int 1)])) [.mk [19] true (.range1 D1) []] false) [.mk [18] true (.range1 D1) []] false
abbrev D28:PE:=.attr (.call (.glob "as_kind" (.kref 715)) [D0,(.str "double"),(.lst [] false)]) "items"
abbrev D29:PE:=.call (.glob "dims" (.kref 723)) [D0]
abbrev D30:PE:=.glob "_law_shown" (.kref 1055)
abbrev D31:PE:=.or [(.call (.glob "is_na" (.kref 183)) [D0]),(.call (.glob "is_na" (.kref 183)) [D1])]
abbrev D32:PE:=.comp (.ife (.cmp .is (.sub (.sub D0 (.loc 17)) (.loc 17)) .non) .non (.tup [(.sub (.sub D0 (.loc 17)) (.loc 17)),(.int 1)])) [.mk [17] true (.range1 (.min D1 D2)) []] false
abbrev D33:PE:=.loc 7
abbrev D34:PE:=.glob "is_vector" (.kref 352)
abbrev D35:PE:=.comp (.bin .sub (.int 0) (.loc 10)) [.mk [10] true (.sub D9 (.int 0)) []] false
abbrev D36:PE:=.attr D0 "attrs"
abbrev D37:PE:=.comp (.comp (.ife (.cmp .eq (.loc 16) (.loc 17)) (.int 1) (.int 0)) [.mk [17] true (.range1 D3) []] false) [.mk [16] true (.range1 D3) []] false
abbrev D38:PE:=.sub D1 (.int 0)
abbrev D39:PE:=.comp (.call (.glob "_law_sum" (.kref 1069)) [(.lst [(.tup [(.loc 12),(.loc 13)])] false)]) [.mk [12] true D6 [],.mk [13] true D9 []] false
abbrev D40:PE:=.comp (.ife (.cmp .is (.sub D4 D3) .non) .non (.tup [(.sub D4 D3),(.int 1)])) [.mk [3] true (.range1 D1) [],.mk [4] true D0 []] false
abbrev D41:PE:=.glob "take" (.kref 152)
abbrev D42:PE:=.comp (.intof (.loc 9)) [.mk [9] true (.upto D0 (.int 63)) []] false
abbrev D43:PE:=.attr D0 "tags"
abbrev D44:PE:=.comp (.comp (.sub D14 (.bin .add (.bin .mul D4 D1) D3)) [.mk [4] true (.range1 D2) []] false) [.mk [3] true (.range1 D1) []] false
abbrev D45:PE:=.or [(.nt (.call (.glob "_law_products_hold" (.kref 1101)) [D3,D4])),(.nt (.call (.glob "_law_places_hold" (.kref 1106)) [D3]))]
abbrev D46:PE:=.sub D2 (.int 0)
abbrev D47:PE:=.glob "_law_matrix" (.kref 1050)
abbrev D48:PE:=.glob "numbers_of" (.kref 784)
abbrev D49:PE:=.loc 8
abbrev D50:PE:=.glob "as_column" (.kref 805)
abbrev D51:PE:=.call (.glob "matrix_names" (.kref 852)) [D3,(.int 1)]
abbrev D52:PE:=.len (.attr D1 "items")
abbrev D53:PE:=.comp (.tup [(.loc 14),(.loc 15)]) [.mk [14] true (.range1 D1) [],.mk [15] true (.range1 D2) []] false
abbrev D54:PE:=.glob "NAN" (.tup [.int 0,.int 0])
abbrev D55:PE:=.sub D1 (.int 1)
abbrev D56:PE:=.cmp .is D1 .non
abbrev D57:PE:=.comp (.comp (.sub D2 D1) [.mk [2] true D0 []] false) [.mk [1] true (.range1 (.len D20)) []] false
abbrev D58:PE:=.comp (.bin .mul (.sub D3 (.int 0)) (.bin .div D1 (.sub D3 (.int 1)))) [.mk [3] true D0 []] true
abbrev D59:PE:=.attr D0 "places"
abbrev D60:PE:=.cmp .notin (.attr D3 "kind") (.tup [(.str "logical"),(.str "integer"),(.str "double")])
abbrev D61:PE:=.comp (.call (.glob "item_as" (.kref 677)) [D24,D4,D1,D2]) [.mk [4] true D14 []] false
abbrev D62:PE:=.cmp .isnot D3 .non
abbrev D63:PE:=.glob "one_extent" (.kref 919)
abbrev D64:PE:=.glob "mul" (.kref 225)
abbrev D65:PE:=.comp (.sub D1 (.bin .add (.bin .mul D33 D3) D9)) [.mk [7] true (.range1 D4) []] false
abbrev D66:PE:=.cmp .is D0 .non
abbrev D67:PE:=.comp (.sub D14 (.bin .add (.bin .mul D49 D1) D49)) [.mk [8] true (.range1 D3) []] false
abbrev D68:PE:=.glob "ZERO_linear" (.tup [.int 0,.int 1])
abbrev D69:PE:=.call (.glob "marked" (.kref 197)) [D0,D1]
abbrev D70:PE:=.loc 11
abbrev D71:PE:=.glob "get_attr" (.kref 472)
abbrev D72:PE:=.attr D0 "used"
abbrev D73:PE:=.cmp .eq D25 (.int 0)
abbrev D74:PE:=.loc 10
abbrev D75:PE:=.len D0
abbrev D76:PE:=.comp (.cat (.sub D0 D33) (.sub D1 D33)) [.mk [7] true (.range1 D2) []] false
abbrev D77:PE:=.cmp .notin D24 (.tup [(.str "logical"),(.str "integer"),(.str "double")])
abbrev D78:PE:=.and [(.cmp .eq (.call D5 [D2,(.int 4)]) (.int 1)),(.cmp .gt D6 (.int 1))]
abbrev D79:PE:=.loc 9
abbrev D80:PE:=.len D14
abbrev D81:PE:=.sub D4 (.int 0)
abbrev D82:PE:=.frz (.new "Vector" 299 289 [(.str "logical"),(.lst [(.int 1)] false)])
abbrev D83:PE:=.call (.glob "_law_equations_hold" (.kref 1111)) [(.frz D9),D49,D33]
abbrev D84:PE:=.comp D49 [.mk [8] true D1 [(.cmp .eq (.sub D49 D3) (.int 0))]] false
abbrev D85:PE:=.comp D33 [.mk [7] true D1 [(.cmp .ne (.sub D33 D3) (.int 0))]] false
abbrev D86:PE:=.or [(.cmp .is D4 .non),(.cmp .eq (.attr D4 "kind") (.str "NULL"))]
abbrev D87:PE:=.glob "matrix_argument" (.kref 833)
abbrev D88:PE:=.glob "make" (.kref 169)
abbrev D89:PE:=.glob "ONE" (.tup [.int 1,.int 1])
abbrev D90:PE:=.call D18 [D0,(.int 0)]
abbrev D91:PE:=.isinst D0 "Vector" 299
abbrev D92:PE:=.glob "fraction_rows" (.kref 838)
abbrev D93:PE:=.frz (.call D23 [D2,D6,(.ife D33 (.int 1) D22),(.tru false)])
abbrev D94:PE:=.glob "_law_turned" (.kref 1074)
abbrev D95:PE:=.cmp .is D3 .non
abbrev D96:PE:=.nt (.call D34 [D3])
abbrev D97:PE:=.glob "is_finite" (.kref 190)
abbrev D98:PE:=.comp (.upto (.loc 15) D9) [.mk [15] true D0 []] false
abbrev D99:PE:=.comp (.call D64 [D2,D1]) [.mk [2] true D0 []] false
abbrev D100:PE:=.comp (.lst [(.loc 18)] false) [.mk [18] true (.attr D70 "items") []] false
abbrev D101:PE:=.comp (.sub D70 (.int 0)) [.mk [11] true D49 []] false
abbrev D102:PE:=.cmp .isnot D1 .non
abbrev D103:PE:=.call D41 [D1,(.lst [(.str "x"),(.str "y")] false)]
abbrev D104:PE:=.bin .add (.bin .mod (.sum D1) (.int 99991)) (.int 7)
abbrev D105:PE:=.call (.glob "triangle_arguments" (.kref 996)) [D1]
abbrev D106:PE:=.glob "b_diag" (.kref 989)
abbrev D107:PE:=.comp (.list D9 false) [.mk [6] true D0 []] false
abbrev D108:PE:=.comp (.list D1 false) [.mk [1] true D0 []] true
abbrev D109:PE:=.call (.glob "place_argument" (.kref 1017)) [D1]
abbrev D110:PE:=.comp (.from D49 D2) [.mk [8] true D4 []] false
abbrev D111:PE:=.cmp .is D36 .non
abbrev D112:PE:=.call (.glob "is_atomic_kind" (.kref 684)) [D0]
abbrev D113:PE:=.bin .mul D33 D79
abbrev D114:PE:=.glob "room" (.kref 310)
abbrev D115:PE:=.call D8 [D0]
abbrev D116:PE:=.call D7 [D0]
abbrev D117:PE:=.sub D4 (.int 1)
abbrev D118:PE:=.frz (.call D23 [D2,D22,D22,(.tru true)])
abbrev D119:PE:=.frz (.call D23 [D2,D21,D21,(.tru true)])
abbrev D120:PE:=.cmp .eq (.call D5 [D2,(.int 2)]) (.int 1)
abbrev D121:PE:=.loc 12
abbrev D122:PE:=.cmp .lt D1 (.len D43)
abbrev D123:PE:=.cmp .eq D55 (.int 0)
abbrev D124:PE:=.cmp .eq (.attr D2 "kind") (.str "NULL")
abbrev D125:PE:=.bin .sub D1 (.int 1)
abbrev D126:PE:=.range1 D75
abbrev D127:PE:=.comp D3 [.mk [3] true D0 [D62]] false
abbrev D128:PE:=.nt (.meth D0 110 "is_free" 102 [D1])
abbrev D129:PE:=.attr (.sub D36 (.str "dim")) "items"
abbrev SO:=Str.ofString
abbrev B1:List PS:=[.ite (.nt (.call D97 [D2])) [.bad] []]
abbrev B2:List PS:=[.for_ [6] true D0 [.exp (.push D4 (.sub D9 D6))]]
abbrev B3:List PS:=[.asg (.tup [(.loc 2),(.loc 3)]) (.tup [D3,(.bin .mod D2 D3)])]
abbrev B4:List PS:=[.asg (.tup [(.loc 0),(.loc 1)]) (.tup [D1,(.bin .mod D0 D1)])]
abbrev B5:List PS:=[.exp (.push D4 (.ife D1 (.bin .add D9 (.int 1)) (.bin .add D6 (.int 1))))]
abbrev B6:List PS:=[.asg (.loc 11) (.call (.glob "b_solve" (.kref 857)) [.non,D79,.non]),.asg (.loc 12) (.str "")]
abbrev B7:List PS:=[.exp (.push D4 (.sub D14 (.bin .add (.bin .mul D9 D2) D6)))]
abbrev B8:List PS:=[.ite (.cmp .ne (.sub (.sub D0 D3) D2) D68) [.ret D3] []]
abbrev B9:List PS:=[.ite (.or [(.cmp .is D2 .non),D95]) [.ret .non] [],.aug 1 .add (.bin .mul D2 D3)]
abbrev B10:List PS:=[.ite (.or [(.cmp .ge D2 D75),(.cmp .ne (.sub D0 D2) D2)]) [.ret (.bin .add D2 (.int 1))] []]
abbrev B11:List PS:=[.exp (.push D6 D65)]
abbrev B12:List PS:=[.asg (.loc 10) (.call D30 [(.call D33 [.non,(.lst [(.tup [.non,D2]),(.tup [.non,D3])] false),.non])])]
abbrev B13:List PS:=[.exp (.push D3 (.call (.glob "sub" (.kref 218)) [(.sub D0 D4),(.call D64 [D2,(.sub D1 D4)])]))]
abbrev B14:List PS:=[.asg (.loc 1) (.bin .mul (.bin .div D1 (.call (.glob "greatest_divisor" (.kref 446)) [D1,(.sub D2 (.int 1))])) (.sub D2 (.int 1)))]
abbrev B15:List PS:=[.ite (.or [(.cmp .is D74 .non),(.cmp .ne (.sub (.sub D74 D70) D121) (.call D79 [D70,D121]))]) [.ret (.tru false)] []]
abbrev B16:List PS:=[.exp (.push D4 D39)]
abbrev B17:List PS:=[.ite (.cmp .ne (.sub (.sub D74 D70) D121) (.ife (.cmp .eq D70 D121) (.sub (.attr D4 "items") D70) (.tup [(.int 0),(.int 1)]))) [.ret (.tru false)] []]
abbrev B18:List PS:=[.asg (.loc 7) (.call D5 [D0,(.ife D3 (.int 10) (.int 9))]),.exp (.push D9 (.ife (.cmp .eq D33 (.int 9)) .non (.bin .sub D33 (.int 4))))]
abbrev B19:List PS:=[.asg (.loc 8) (.ife D1 (.cmp .lt D33 D9) (.cmp .gt D33 D9)),.exp (.push D6 (.ife (.or [D49,(.and [D2,(.cmp .eq D33 D9)])]) (.int 1) (.int 0)))]
abbrev B20:List PS:=[.ite (.cmp .ne D3 D1) [.asg (.sub D0 D3) (.call (.glob "less_multiple" (.kref 392)) [(.sub D0 D3),(.sub D0 D1),(.sub (.sub D0 D3) D2)])] []]
abbrev B21:List PS:=[.ite (.and [(.cmp .eq D9 D6),(.cmp .gt D80 (.int 0))]) [.exp (.push D4 (.sub D14 (.bin .mod D9 D80)))] [.exp (.push D4 D3)]]
abbrev B22:List PS:=[.asg (.tup [(.loc 8),(.loc 9)]) (.sub (.sub D1 D33) D4),.asg (.loc 5) (.bin .add (.bin .mul D6 D79) (.bin .mul (.bin .mul (.sub (.sub D0 D3) D33) D49) D9)),.asg (.loc 6) (.bin .mul D9 D79)]
abbrev B23:List PS:=[.asg (.loc 9) (.call (.glob "add" (.kref 211)) [D79,(.call D64 [(.sub D2 (.bin .add (.bin .mul D74 D81) D49)),(.sub D3 (.bin .add (.bin .mul D33 (.sub D6 (.int 0))) D74))])])]
abbrev B24:List PS:=[.asg (.loc 6) (.lst [] true),.for_ [5] true (.range1 D2) B18,.exp (.push D4 (.frz D9))]
abbrev B25:List PS:=[.asg (.loc 14) (.sub D6 (.bin .add (.bin .mul (.bin .div D121 D74) D33) (.bin .div (.loc 13) D79))),.exp (.push D70 (.call D64 [(.loc 14),(.sub D9 (.bin .add (.bin .mul (.bin .mod D121 D74) D79) (.bin .mod (.loc 13) D79)))]))]
abbrev B26:List PS:=[.asg (.loc 10) (.call D30 [(.call D33 [.non,(.cat (.lst [(.tup [.non,D3])] false) D49),.non])]),.for_ [11,12] false D6 B15]
abbrev B27:List PS:=[.ite (.and [(.cmp .eq D6 (.str "")),(.cmp .lt (.call (.glob "_law_many" (.kref 1089)) [D98]) D9)]) [.asg (.loc 5) (.bin .add (.bin .add (.bin .add (.bin .add (.str "Lapack routine dgesv: system is exactly singular: U[") (.strof D9)) (.str ",")) (.strof D9)) (.str "] = 0"))] []]
abbrev B28:List PS:=[.tryR B12 10 11,.ite (.cmp .ne D74 (.ife (.cmp .ne (.len (.sub D49 (.int 0))) (.len D79)) (.str "non-conformable arguments") (.call (.glob "_law_product" (.kref 1079)) [D49,D79]))) [.ret (.tru false)] []]
abbrev B29:List PS:=[.asg (.loc 9) (.glob "ZERO_matrix" (.tup [.int 0,.int 1])),.for_ [10] true (.range1 D117) B23,.exp (.push D9 D79)]
abbrev B30:List PS:=[.asg (.loc 5) (.int 0),.asg (.loc 6) (.int 1),.for_ [7] true D126 B22,.ite (.cmp .ne (.call (.glob "_law_ratio" (.kref 1062)) [D6,D9]) (.tup [(.sub (.sub D2 D3) D4),(.int 1)])) [.ret (.tru false)] []]
abbrev B31:List PS:=[.asg (.loc 4) D85,.ite (.cmp .eq D4 (.lst [] false)) [.cont] [],.aug 2 .add (.int 1),.asg (.loc 5) D81,.asg (.loc 1) (.cat D84 D19)]
abbrev B32:List PS:=[.asg (.loc 5) (.len D2),.asg (.loc 6) (.call (.glob "first_filled" (.kref 399)) [D1,D6,D4]),.ite (.cmp .lt D9 (.int 0)) [.cont] [],.asg (.tup [(.sub D1 D6),(.sub D1 D9)]) (.tup [(.sub D1 D9),(.sub D1 D6)]),.asg (.sub D1 D6) (.call (.glob "scaled_linear" (.kref 385)) [(.sub D1 D6),(.call (.glob "div" (.kref 232)) [D89,(.sub (.sub D1 D6) D4)])]),.exp (.call (.glob "clear_column" (.kref 406)) [D1,D6,D4]),.exp (.push D2 D4)]
abbrev B33:List PS:=[.tryR B6 12 13,.ite (.cmp .ne D121 D6) [.ret (.tru false)] [],.ite (.cmp .eq D121 (.str "")) [.asg (.loc 14) (.ife (.cmp .is (.attr D70 "attrs") .non) D100 (.call D30 [D70])),.ite (.or [(.cmp .ne (.cmp .is (.attr D70 "attrs") .non) (.and [D2,(.cmp .eq D74 D1),(.cmp .eq (.len D79) (.int 2))])),(.nt (.call (.glob "_law_solves" (.kref 1096)) [D0,(.loc 14),D74]))]) [.ret (.tru false)] []] []]
def Qf9:FD:=⟨3,[],3,[.asg (.attr D0 "formals") D1,.asg (.attr D0 "tags") D2,.asg (.attr D0 "used") (.rep (.int 0) (.len D2) true),.asg (.attr D0 "places") (.dct [] [] true)]⟩
def Qcs:FD:=⟨1,[],3,[.for_ [1] true (.attr D0 "formals") [.ite (.cmp .ne D1 (.str "...")) [.for_ [2] true (.range1 (.len D43)) [.ite (.and [(.cmp .eq (.sub D43 D2) D1),(.cmp .eq (.sub D72 D2) (.int 0))]) [.ite (.cmp .isin D1 D59) [.bad] [],.asg (.sub D59 D1) D2,.asg (.sub D72 D2) (.int 2)] []]] []]]⟩
def Qbf:FD:=⟨1,[],2,[.for_ [1] true (.attr D0 "formals") [.ite (.cmp .eq D1 (.str "...")) [.ret0] [],.ite (.cmp .notin D1 D59) [.exp (.meth D0 110 "partial_of" 88 [D1])] []]]⟩
def QaB:FD:=⟨2,[],4,[.for_ [2] true (.range1 (.len D43)) [.asg (.loc 3) (.sub D43 D2),.ite (.and [(.cmp .ne (.sub D72 D2) (.int 2)),D62,(.cmp .ne D3 (.str "")),.bad]) [.ite (.cmp .eq (.sub D72 D2) (.int 1)) [.bad] [],.ite (.cmp .isin D1 D59) [.bad] [],.asg (.sub D59 D1) D2,.asg (.sub D72 D2) (.int 1)] []]]⟩
def QaC:FD:=⟨1,[],3,[.asg (.loc 1) (.int 0),.for_ [2] true (.attr D0 "formals") [.ite (.cmp .eq D2 (.str "...")) [.ret0] [],.ite (.cmp .notin D2 D59) [.whl (.and [D122,D128]) [.aug 1 .add (.int 1)],.ite D122 [.asg (.sub D59 D2) D1,.asg (.sub D72 D1) (.int 2)] []] []]]⟩
def Qbg:FD:=⟨2,[],2,[.ret (.and [(.cmp .eq (.sub D72 D1) (.int 0)),(.or [(.cmp .is (.sub D43 D1) .non),(.cmp .eq (.sub D43 D1) (.str ""))])])]⟩
def QdN:FD:=⟨1,[],2,[.ret D11]⟩
def QaD:FD:=⟨3,[.none],6,[.asg (.loc 3) (.new "Matching" 110 67 [D0,D15]),.exp (.meth D3 110 "exact" 74 []),.exp (.meth D3 110 "partial" 81 []),.exp (.meth D3 110 "positional" 95 []),.asg (.loc 4) (.meth D3 110 "rest" 107 []),.ite (.and [(.cmp .gt (.len D4) (.int 0)),(.cmp .notin (.str "...") D0)]) [.bad] [],.ret (.tup [(.frz (.attr D3 "places")),D4])]⟩
def Qga:FD:=⟨2,[],2,[.ite D66 [.bad] [],.ret D0]⟩
def Qel:FD:=⟨3,[.none],8,[.asg (.tup [(.loc 3),(.loc 4)]) (.call (.glob "match_names" (.kref 139)) [(.list D1 false),D0,D2]),.asg (.loc 5) (.lst [] true),.for_ [6] true D1 [.ite (.cmp .eq D9 (.str "...")) [.exp (.push D6 (.comp (.sub D0 D33) [.mk [7] true D4 []] false))] [.ite (.cmp .isin D9 D3) [.exp (.push D6 (.sub (.sub D0 (.sub D3 D9)) (.int 1)))] [.exp (.push D6 .non)]]],.ret (.frz D6)]⟩
def Qon:FD:=⟨2,[],2,[.whl (.cmp .gt D1 (.int 0)) B4,.ret D0]⟩
def Qki:FD:=⟨2,[],3,[.ite (.cmp .eq D1 (.int 0)) [.ite (.cmp .eq D0 (.int 0)) [.ret D54] [],.ret (.ife (.cmp .gt D0 (.int 0)) (.tup [(.int 1),(.int 0)]) (.tup [(.neg (.int 1)),(.int 0)]))] [],.ite (.cmp .lt D1 (.int 0)) [.asg (.loc 0) (.bin .sub (.int 0) D0),.asg (.loc 1) (.bin .sub (.int 0) D1)] [],.asg (.loc 2) (.call (.glob "gcd" (.kref 162)) [(.abs D0),D1]),.ret (.tup [(.bin .div D0 D2),(.bin .div D1 D2)])]⟩
def Qd6:FD:=⟨1,[],1,[.ite D66 [.ret .non] [],.ret (.tup [D0,(.int 1)])]⟩
def QhV:FD:=⟨1,[],1,[.ret (.or [D66,(.and [(.cmp .eq D20 (.int 0)),D73])])]⟩
def Qdp:FD:=⟨1,[],1,[.ret (.and [(.cmp .isnot D0 .non),(.cmp .gt D25 (.int 0))])]⟩
def Qgb:FD:=⟨2,[],2,[.ite (.or [D66,D56]) [.ret .non] [],.ret D54]⟩
def Qoo:FD:=⟨1,[],1,[.ite D66 [.ret .non] [],.ret (.tup [(.bin .sub (.int 0) D20),D25])]⟩
def Qop:FD:=⟨2,[],2,[.ite D31 [.ret D69] [],.ite (.and [D73,D123]) [.ret (.ife (.cmp .eq D20 D38) D0 D54)] [],.ite D73 [.ret D0] [],.ite D123 [.ret D1] [],.ret (.call D88 [(.bin .add (.bin .mul D20 D55) (.bin .mul D38 D25)),(.bin .mul D25 D55)])]⟩
def Qoq:FD:=⟨2,[],2,[.ret (.call (.glob "add" (.kref 211)) [D0,(.call (.glob "neg" (.kref 204)) [D1])])]⟩
def Qor:FD:=⟨2,[],2,[.ite D31 [.ret D69] [],.ret (.call D88 [(.bin .mul D20 D38),(.bin .mul D25 D55)])]⟩
def Qos:FD:=⟨2,[],2,[.ite D31 [.ret D69] [],.ite (.and [D73,D123]) [.ret D54] [],.ite D73 [.ret (.ife (.cmp .lt D38 (.int 0)) (.call (.glob "neg" (.kref 204)) [D0]) D0)] [],.ret (.call D88 [(.bin .mul D20 D55),(.bin .mul D25 D38)])]⟩
def Qd7:FD:=⟨1,[],2,[.ite (.nt (.call D97 [D0])) [.ret .non] [],.asg (.loc 1) (.bin .div (.abs D20) D25),.ret (.ife (.cmp .ge D20 (.int 0)) D1 (.bin .sub (.int 0) D1))]⟩
def QeO:FD:=⟨1,[],1,[.asg (.attr D0 "kind") (.str "NULL"),.asg (.attr D0 "attrs") .non]⟩
def QeP:FD:=⟨4,[.none],4,[.asg (.attr D0 "kind") D1,.asg (.attr D0 "items") D2,.asg (.attr D0 "attrs") D3,.asg (.attr D0 "shared") (.tru false),.asg (.attr D0 "loose") (.tru false)]⟩
def Qkj:FD:=⟨1,[],1,[.ite (.cmp .gt D0 (.glob "MOST_LENGTH" (.int 1000000))) [.bad] [],.ret D0]⟩
def Qkk:FD:=⟨0,[],0,[.ret (.frz (.new "Null" 270 267 []))]⟩
def QeQ:FD:=⟨1,[],1,[.ret (.frz (.new "Vector" 299 289 [(.str "integer"),(.list D0 false)]))]⟩
def QhW:FD:=⟨1,[],1,[.ret (.frz (.new "Vector" 299 289 [(.str "integer"),(.lst [D0] false)]))]⟩
def Qgc:FD:=⟨1,[],2,[.asg (.loc 1) D24,.ite (.cmp .eq D1 (.str "NULL")) [.ret (.int 0)] [],.ite (.or [D91,(.cmp .eq D1 (.str "language"))]) [.ret D80] [],.ite (.cmp .eq D1 (.str "environment")) [.ret (.len (.attr D0 "frame"))] [],.ite (.cmp .eq D1 (.str "dots")) [.ret (.len (.attr D0 "args"))] [],.ret (.int 1)]⟩
def Qdq:FD:=⟨1,[],1,[.ret D91]⟩
def Qot:FD:=⟨1,[],1,[.ite D91 [.asg (.attr D0 "shared") (.tru true)] [],.ret D0]⟩
def QaN:FD:=⟨1,[],4,[.asg (.loc 1) (.lst [] true),.for_ [2] true (.range1 D0) [.asg (.loc 3) (.rep D68 D0 true),.asg (.sub D3 D2) D89,.exp (.push D1 (.frz D3))],.ret (.frz D1)]⟩
def Qgd:FD:=⟨1,[],2,[.ret D108]⟩
def Qge:FD:=⟨2,[],3,[.ret D99]⟩
def Qbh:FD:=⟨3,[],5,[.ite (.cmp .eq D2 D68) [.ret D0] [],.asg (.loc 3) (.lst [] true),.for_ [4] true D126 B13,.ret (.frz D3)]⟩
def Qb7:FD:=⟨3,[],4,[.for_ [3] true (.range D1 D75) B8,.ret (.neg (.int 1))]⟩
def Qb8:FD:=⟨3,[],4,[.for_ [3] true D126 B20]⟩
def Qct:FD:=⟨1,[],7,[.asg (.loc 1) (.call (.glob "copied" (.kref 380)) [D0]),.asg (.loc 2) (.lst [] true),.asg (.loc 3) (.ife (.cmp .gt (.len D1) (.int 0)) (.len D38) (.int 0)),.for_ [4] true (.range1 D3) B32,.ret (.tup [(.frz D1),(.frz D2)])]⟩
def Qb9:FD:=⟨2,[],2,[.ite (.cmp .ne D75 D1) [.bad] []]⟩
def Qbo:FD:=⟨2,[],3,[.for_ [2] true (.range1 D1) B10,.ret (.int 0)]⟩
def QbY:FD:=⟨2,[],9,[.asg (.loc 2) D75,.asg (.loc 3) D76,.asg (.tup [(.loc 4),(.loc 5)]) (.call (.glob "row_echelon" (.kref 413)) [D3]),.asg (.loc 6) (.call (.glob "first_dependent" (.kref 427)) [D6,D2]),.ite (.cmp .gt D9 (.int 0)) [.raise (.fstr [(.str "Lapack routine dgesv: system is exactly singular: U["),(.fmt D9),(.str ","),(.fmt D9),(.str "] = 0")])] [],.ret D110]⟩
def QdO:FD:=⟨1,[],1,[.ret (.call (.glob "solve_rows" (.kref 432)) [D0,(.call (.glob "identity_rows" (.kref 375)) [D75])])]⟩
def Qbi:FD:=⟨2,[],2,[.whl D1 B4,.ret (.abs D0)]⟩
def Qdr:FD:=⟨1,[],4,[.asg (.loc 1) (.int 1),.for_ [2] true D0 B14,.ret (.tup [D58,D1])]⟩
def Qat:FD:=⟨1,[],9,[.asg (.loc 1) D75,.asg (.loc 2) (.int 1),.asg (.loc 3) (.int 1),.for_ [4] true (.range1 D125) [.asg (.loc 5) D4,.whl (.and [(.cmp .lt D6 D1),(.cmp .eq (.sub (.sub D0 D6) D4) (.int 0))]) [.aug 5 .add (.int 1)],.ite (.cmp .eq D6 D1) [.ret (.int 0)] [],.ite (.cmp .ne D6 D4) [.asg (.tup [(.sub D0 D4),(.sub D0 D6)]) (.tup [(.sub D0 D6),(.sub D0 D4)]),.asg (.loc 2) (.neg D2)] [],.for_ [6] true (.range (.bin .add D4 (.int 1)) D1) [.for_ [7] true (.range (.bin .add D4 (.int 1)) D1) [.asg (.loc 8) (.bin .mul (.sub (.sub D0 D9) D33) (.sub (.sub D0 D4) D4)),.aug 8 .sub (.bin .mul (.sub (.sub D0 D9) D4) (.sub (.sub D0 D4) D33)),.asg (.sub (.sub D0 D9) D33) (.bin .div D49 D3)]],.asg (.loc 3) (.sub (.sub D0 D4) D4)],.ret (.bin .mul D2 (.sub (.sub D0 D125) D125))]⟩
def Qbj:FD:=⟨1,[],6,[.ite (.cmp .eq D75 (.int 0)) [.ret D89] [],.asg (.loc 1) (.lst [] true),.asg (.loc 2) (.int 1),.for_ [3] true D0 [.asg (.tup [(.loc 4),(.loc 5)]) (.call (.glob "whole_row" (.kref 451)) [D3]),.exp (.push D1 D4),.asg (.loc 2) (.bin .mul D2 D6)],.ret (.call D88 [(.call (.glob "whole_determinant" (.kref 458)) [D1]),D2])]⟩
def Qci:FD:=⟨2,[],2,[.ite D111 [.ret .non] [],.ret (.dget D36 D1)]⟩
def Qda:FD:=⟨1,[],6,[.ite (.cmp .eq D24 (.str "language")) [.for_ [1] true D43 [.ite D102 [.ret (.comp (.ife (.cmp .is D6 .non) (.str "") D6) [.mk [5] true D43 []] false)] []],.ret .non] [],.ite (.cmp .eq D24 (.str "environment")) [.ret .bad] [],.asg (.loc 2) (.call (.glob "dim_of" (.kref 484)) [D0]),.ite (.and [(.cmp .isnot D2 .non),(.cmp .eq (.len D2) (.int 1))]) [.asg (.loc 3) (.call (.glob "dimnames_of" (.kref 489)) [D0]),.ret (.ife D95 .non (.sub D3 (.int 0)))] [],.asg (.loc 4) (.call D71 [D0,(.str "names")]),.ite (.cmp .is D4 .non) [.ret .non] [],.ret (.list (.attr D4 "items") false)]⟩
def Qey:FD:=⟨1,[],2,[.asg (.loc 1) (.call D71 [D0,(.str "dim")]),.ite D56 [.ret .non] [],.ret (.list (.attr D1 "items") false)]⟩
def Qgf:FD:=⟨1,[],3,[.asg (.loc 1) (.call D71 [D0,(.str "dimnames")]),.ite D56 [.ret .non] [],.ret (.comp (.ife D124 .non (.list (.attr D2 "items") false)) [.mk [2] true (.attr D1 "items") []] false)]⟩
def Qhf:FD:=⟨2,[],2,[.ite (.cmp .eq D0 (.str "character")) [.ret (.ife D56 .non .bad)] [],.ite (.cmp .eq D0 (.str "double")) [.ite (.call (.glob "is_na" (.kref 183)) [D1]) [.ret .non] [],.ret (.ife (.and [(.cmp .eq D38 (.int 0)),(.cmp .eq D55 (.int 1))]) (.int 0) (.int 1))] [],.ite D56 [.ret .non] [],.ret (.ife (.cmp .eq D1 (.int 0)) (.int 0) (.int 1))]⟩
def Qds:FD:=⟨3,[],3,[.ite (.or [(.cmp .eq D0 (.str "double")),D56]) [.ret D1] [],.ite (.cmp .eq D0 (.str "character")) [.ret .bad] [],.ret (.call (.glob "from_int" (.kref 176)) [D1])]⟩
def QeR:FD:=⟨4,[],4,[.ite (.cmp .eq D0 D2) [.ret D1] [],.ite (.or [(.cmp .eq D2 (.str "list")),(.cmp .eq D2 (.str "expression")),(.cmp .eq D2 (.str "pairlist"))]) [.ret (.ife D112 (.call (.glob "share" (.kref 366)) [(.frz (.new "Vector" 299 289 [D0,(.lst [D1] false)]))]) D1)] [],.ite (.nt D112) [.ret .bad] [],.ite (.cmp .eq D2 (.str "logical")) [.ret (.call (.glob "to_logical" (.kref 649)) [D0,D1])] [],.ite (.cmp .eq D2 (.str "integer")) [.ret .bad] [],.ite (.cmp .eq D2 (.str "double")) [.ret (.call (.glob "to_double" (.kref 663)) [D0,D1,D3])] [],.ret .bad]⟩
def QbG:FD:=⟨1,[],1,[.ret (.cmp .isin D0 (.tup [(.str "logical"),(.str "integer"),(.str "double"),(.str "character")]))]⟩
def QcP:FD:=⟨2,[],2,[.ite D102 [.asg (.attr D0 "attrs") (.dct ["names"] [(.call (.glob "share" (.kref 366)) [.bad])] false)] [],.ret D0]⟩
def QdP:FD:=⟨3,[],5,[.ite (.nt D91) [.ret .bad] [],.asg (.loc 3) D14,.ite (.cmp .ne D24 D1) [.asg (.loc 3) D61] [],.ret (.call (.glob "with_names" (.kref 710)) [(.frz (.new "Vector" 299 289 [D1,(.list D3 false)])),(.call (.glob "names_of" (.kref 477)) [D0])])]⟩
def QiP:FD:=⟨1,[],1,[.ite (.or [D111,(.cmp .notin (.str "dim") D36)]) [.ret .non] [],.ret D129]⟩
def Qcu:FD:=⟨1,[],2,[.asg (.loc 1) D29,.ret (.and [D102,(.cmp .eq (.len D1) (.int 2))])]⟩
def Qdb:FD:=⟨1,[],1,[.ite D115 [.ret (.tup [(.sub D29 (.int 0)),(.sub D29 (.int 1))])] [],.ret (.tup [D80,(.int 1)])]⟩
def QbZ:FD:=⟨2,[],3,[.ite (.or [D111,(.cmp .notin (.str "dimnames") D36)]) [.ret .non] [],.asg (.loc 2) (.sub (.attr (.sub D36 (.str "dimnames")) "items") D1),.ite D124 [.ret .non] [],.ret (.attr D2 "items")]⟩
def QdQ:FD:=⟨1,[],1,[.ite (.or [D111,(.cmp .notin (.str "names") D36)]) [.ret .non] [],.ret (.attr (.sub D36 (.str "names")) "items")]⟩
def QbS:FD:=⟨1,[],4,[.ite (.cmp .eq (.len D127) (.int 0)) [.ret .non] [],.asg (.loc 1) (.lst [] true),.for_ [2] true D0 [.exp (.push D1 (.ife (.cmp .is D2 .non) (.frz (.new "Null" 270 267 [])) .bad))],.ret (.frz (.new "Vector" 299 289 [(.str "list"),(.frz D1)]))]⟩
def Qdt:FD:=⟨4,[],6,[.asg (.loc 4) (.new "Vector" 299 289 [D0,D1]),.asg (.attr D4 "attrs") (.dct ["dim"] [(.call (.glob "integer" (.kref 324)) [D2])] false),.asg (.loc 5) (.call (.glob "dimnames_list" (.kref 756)) [D3]),.ite (.cmp .isnot D6 .non) [.asg (.sub (.attr D4 "attrs") (.str "dimnames")) D6] [],.ret (.frz D4)]⟩
def QcQ:FD:=⟨5,[],5,[.ret (.call (.glob "new_array" (.kref 763)) [D0,D1,D2,(.lst [D3,D4] false)])]⟩
def Qdu:FD:=⟨1,[],7,[.asg (.loc 1) D29,.ite D56 [.ret (.call D10 [D24,(.list D14 false),(.lst [(.int 1),D80] false),.non,(.call (.glob "plain_names" (.kref 751)) [D0])])] [],.ite (.cmp .eq (.len D1) (.int 1)) [.ret (.call D10 [D24,(.list D14 false),(.lst [(.int 1),D38] false),.non,D90])] [],.ite (.cmp .ne (.len D1) (.int 2)) [.bad] [],.asg (.tup [(.loc 2),(.loc 3)]) D1,.asg (.loc 4) (.lst [] true),.for_ [5] true (.range1 D2) [.for_ [6] true (.range1 D3) B7],.ret (.call D10 [D24,(.frz D4),(.lst [D3,D2] false),(.call D18 [D0,(.int 1)]),D90])]⟩
def QcR:FD:=⟨1,[],1,[.ite D77 [.bad] [],.ret D28]⟩
def Qa7:FD:=⟨2,[],6,[.asg (.loc 2) D115,.asg (.loc 3) (.call D8 [D1]),.asg (.loc 4) D116,.asg (.loc 5) (.call D7 [D1]),.ite (.and [D2,(.nt D3)]) [.ite (.and [(.cmp .ne D52 D117),(.cmp .eq D117 (.int 1))]) [.asg (.loc 5) (.tup [(.int 1),D52])] []] [.ite (.and [D3,(.nt D2)]) [.ite (.cmp .eq D80 (.sub D6 (.int 0))) [.asg (.loc 4) (.tup [(.int 1),D80])] []] [.ite (.and [(.nt D2),(.nt D3)]) [.ite (.cmp .eq D80 D52) [.asg (.loc 4) (.tup [(.int 1),D80])] [.ite (.cmp .eq D52 (.int 1)) [.asg (.loc 5) (.tup [(.int 1),(.int 1)])] [.ite (.cmp .eq D80 (.int 1)) [.asg (.loc 4) (.tup [(.int 1),(.int 1)]),.asg (.loc 5) (.tup [(.int 1),D52])] []]]] []]],.ite (.cmp .ne D117 (.sub D6 (.int 0))) [.raise (.str "non-conformable arguments")] [],.ret (.tup [D4,D6])]⟩
def QdR:FD:=⟨2,[],13,[.asg (.loc 2) (.call D48 [D0]),.asg (.loc 3) (.call D48 [D1]),.asg (.tup [(.loc 4),(.loc 5)]) (.call (.glob "product_shapes" (.kref 791)) [D0,D1]),.exp (.call D114 [(.bin .mul D81 (.sub D6 (.int 1)))]),.asg (.loc 6) (.lst [] true),.for_ [7] true (.range1 (.sub D6 (.int 1))) [.for_ [8] true (.range1 D81) B29],.asg (.loc 11) (.ife D115 D90 .non),.asg (.loc 12) (.ife (.call D8 [D1]) (.call D18 [D1,(.int 1)]) .non),.ret (.call D10 [(.str "double"),(.frz D9),(.lst [D81,(.sub D6 (.int 1))] false),D70,D121])]⟩
def Qdv:FD:=⟨1,[],1,[.ite D115 [.ret D0] [],.ret (.call D10 [D24,D14,(.lst [D80,(.int 1)] false),.non,.non])]⟩
def Qgg:FD:=⟨2,[],2,[.ret (.call (.glob "mat_mul" (.kref 798)) [(.call (.glob "transpose" (.kref 777)) [(.call D50 [D0])]),(.call D50 [D1])])]⟩
def QdS:FD:=⟨2,[],3,[.ite D66 [.ret D1] [],.asg (.loc 2) (.attr (.call (.glob "as_kind" (.kref 715)) [D0,(.str "logical"),(.lst [] false)]) "items"),.ite (.or [(.cmp .eq (.len D2) (.int 0)),(.cmp .is D46 .non)]) [.bad] [],.ret (.cmp .eq D46 (.int 1))]⟩
def Qcv:FD:=⟨2,[],4,[.ite D66 [.ret .non] [],.ite D77 [.bad] [],.asg (.loc 2) D28,.ite (.or [(.cmp .eq (.len D2) (.int 0)),(.call (.glob "is_na" (.kref 183)) [D46]),(.nt (.call D97 [D46]))]) [.bad] [],.asg (.loc 3) (.call (.glob "to_whole" (.kref 239)) [D46]),.ite (.cmp .lt D3 (.int 0)) [.bad] [],.ite (.cmp .gt D3 (.int 100000)) [.bad] [],.ret D3]⟩
def QaO:FD:=⟨2,[],4,[.asg (.loc 2) (.call D41 [D0,D1]),.asg (.loc 3) (.call (.glob "needed" (.kref 146)) [D46,D38]),.ite D96 [.bad] [],.ret (.tup [D3,(.from D2 (.int 1))])]⟩
def QbT:FD:=⟨1,[],8,[.asg (.loc 1) (.call D48 [D0]),.for_ [2] true D1 B1,.asg (.tup [(.loc 3),(.loc 4)]) D116,.asg (.loc 5) (.lst [] true),.for_ [6] true (.range1 D3) B11,.ret (.frz D6)]⟩
def Qcw:FD:=⟨4,[],7,[.asg (.loc 4) (.lst [] true),.for_ [5] true (.range1 D1) B2,.ret (.call D10 [(.str "double"),(.frz D4),(.lst [D75,D1] false),D2,D3])]⟩
def Qca:FD:=⟨2,[],2,[.ret (.ife D115 (.call D18 [D0,D1]) .non)]⟩
def QbA:FD:=⟨3,[],12,[.asg (.tup [(.loc 3),(.loc 4)]) (.call D41 [D1,(.lst [(.str "a"),(.str "b")] false)]),.asg (.loc 3) (.call (.glob "needed" (.kref 146)) [D3,(.str "a")]),.ite (.or [D96,D60]) [.bad] [],.asg (.loc 5) (.call D92 [D3]),.exp (.call (.glob "check_square" (.kref 420)) [D6,(.sub (.call D7 [D3]) (.int 1))]),.ite (.cmp .is D4 .non) [.ret (.call (.glob "rows_matrix" (.kref 845)) [(.call (.glob "inverse" (.kref 439)) [D6]),(.len D6),D51,(.call (.glob "matrix_names" (.kref 852)) [D3,(.int 0)])])] [],.ite (.or [(.nt (.call D34 [D4])),(.cmp .notin (.attr D4 "kind") (.tup [(.str "logical"),(.str "integer"),(.str "double")]))]) [.bad] [],.asg (.tup [(.loc 6),(.loc 7)]) (.call D7 [D4]),.ite (.cmp .ne D9 (.len D6)) [.bad] [],.asg (.loc 8) (.call (.glob "solve_rows" (.kref 432)) [D6,(.call D92 [D4])]),.ite (.call D8 [D4]) [.ret (.call (.glob "rows_matrix" (.kref 845)) [D49,D33,D51,(.call D18 [D4,(.int 1)])])] [],.asg (.loc 9) (.new "Vector" 299 289 [(.str "double"),D101]),.asg (.loc 10) D51,.ite (.cmp .isnot D74 .non) [.asg (.attr D79 "attrs") (.dct ["names"] [.bad] false)] [],.ret (.frz D79)]⟩
def QhX:FD:=⟨3,[],4,[.asg (.loc 3) (.sub (.call D87 [D1,(.lst [(.str "x")] false)]) (.int 0)),.ite (.or [(.nt (.call D8 [D3])),(.cmp .ne (.sub (.call D7 [D3]) (.int 0)) (.sub (.call D7 [D3]) (.int 1)))]) [.bad] [],.ret (.frz (.new "Vector" 299 289 [(.str "double"),(.lst [(.call (.glob "determinant" (.kref 465)) [(.call D92 [D3])])] false)]))]⟩
def QeS:FD:=⟨1,[],9,[.asg (.tup [(.loc 1),(.loc 2)]) D116,.asg (.loc 3) (.min D1 D2),.asg (.loc 4) D67,.asg (.loc 5) (.new "Vector" 299 289 [D24,D4]),.asg (.loc 6) D90,.asg (.loc 7) (.call D18 [D0,(.int 1)]),.ite (.and [(.cmp .isnot D9 .non),(.cmp .isnot D33 .non),(.cmp .eq (.upto D9 D3) (.upto D33 D3))]) [.asg (.attr D6 "attrs") (.dct ["names"] [.bad] false)] [],.ret (.frz D6)]⟩
def Qcx:FD:=⟨3,[],7,[.exp (.call D114 [(.bin .mul D1 D2)]),.asg (.loc 3) (.ife (.cmp .eq D24 (.str "double")) (.glob "ZERO_matparts" (.tup [.int 0,.int 1])) (.int 0)),.asg (.loc 4) (.lst [] true),.for_ [5] true (.range1 D2) [.for_ [6] true (.range1 D1) B21],.ret (.call D10 [D24,(.frz D4),(.lst [D1,D2] false),.non,.non])]⟩
def Qdw:FD:=⟨2,[],2,[.ret (.call (.glob "triangle" (.kref 898)) [D0,(.tru true),D1])]⟩
def Qdx:FD:=⟨2,[],2,[.ret (.call (.glob "triangle" (.kref 898)) [D0,(.tru false),D1])]⟩
def Qd8:FD:=⟨3,[],9,[.asg (.tup [(.loc 3),(.loc 4)]) D116,.asg (.loc 5) (.lst [] true),.for_ [6] true (.range1 D4) [.for_ [7] true (.range1 D3) B19],.ret (.call D10 [(.str "logical"),(.frz D6),(.lst [D3,D4] false),.non,.non])]⟩
def Qcb:FD:=⟨2,[],7,[.asg (.tup [(.loc 2),(.loc 3)]) D116,.asg (.loc 4) (.lst [] true),.for_ [5] true (.range1 D3) [.for_ [6] true (.range1 D2) B5],.ret (.call D10 [(.str "integer"),(.frz D4),(.lst [D2,D3] false),.non,.non])]⟩
def Qbw:FD:=⟨1,[],3,[.asg (.loc 1) (.call D71 [D0,(.str "row.names")]),.ite (.and [D102,(.cmp .eq D24 (.str "list"))]) [.ret (.tup [D52,D80])] [],.ite (.and [(.call D34 [D0]),(.cmp .isnot D29 .non)]) [.asg (.loc 2) D29,.ret (.tup [D46,(.ife (.cmp .gt (.len D2) (.int 1)) (.sub D2 (.int 1)) .non)])] [],.ret .non]⟩
def QbB:FD:=⟨3,[],4,[.asg (.loc 3) (.call (.glob "both_extents" (.kref 912)) [D0]),.ite (.and [D62,(.cmp .isnot (.sub D3 D1) .non)]) [.ret (.call (.glob "whole" (.kref 338)) [(.sub D3 D1)])] [],.ite D2 [.ret (.call (.glob "whole" (.kref 338)) [(.ife (.cmp .eq D1 (.int 1)) (.int 1) (.call (.glob "length" (.kref 345)) [D0]))])] [],.ret (.ife D95 (.call (.glob "null" (.kref 317)) []) (.call (.glob "integer" (.kref 324)) [(.lst [.non] false)]))]⟩
def Qez:FD:=⟨3,[],3,[.ret (.call D63 [D13,(.int 0),(.tru false)])]⟩
def QeA:FD:=⟨3,[],3,[.ret (.call D63 [D13,(.int 1),(.tru false)])]⟩
def Qb0:FD:=⟨3,[],3,[.ret (.call D63 [D13,(.int 0),(.tru true)])]⟩
def Qbk:FD:=⟨3,[],3,[.ret (.call D63 [D13,(.int 1),(.tru true)])]⟩
def Qcy:FD:=⟨1,[],4,[.asg (.tup [(.loc 1),(.loc 2)]) (.call D41 [D0,(.lst [(.str "x"),(.str "y")] false)]),.for_ [3] true (.tup [D1,D2]) [.ite (.or [D95,D96]) [.bad] []],.ret (.tup [D1,D2])]⟩
def Qbl:FD:=⟨3,[],5,[.asg (.tup [(.loc 3),(.loc 4)]) D103,.ite D86 [.asg (.loc 4) D3] [],.asg (.tup [(.loc 3),(.loc 4)]) D26,.ret (.call (.glob "cross" (.kref 812)) [D3,D4])]⟩
def Qbx:FD:=⟨3,[],5,[.asg (.tup [(.loc 3),(.loc 4)]) D103,.ite D86 [.asg (.loc 4) D3] [],.asg (.tup [(.loc 3),(.loc 4)]) D26,.ret (.call (.glob "mat_mul" (.kref 798)) [(.call D50 [D3]),(.call (.glob "transpose" (.kref 777)) [(.call D50 [D4])])])]⟩
def Qcz:FD:=⟨3,[],15,[.asg (.tup [(.loc 3),(.loc 4)]) (.call D41 [D1,(.lst [(.str "X"),(.str "Y")] false)]),.asg (.tup [(.loc 3),(.loc 4)]) D26,.asg (.loc 5) (.call D48 [D3]),.asg (.loc 6) (.call D48 [D4]),.asg (.tup [(.loc 7),(.loc 8)]) (.call D7 [D3]),.asg (.tup [(.loc 9),(.loc 10)]) (.call D7 [D4]),.exp (.call D114 [(.bin .mul (.bin .mul D113 D49) D74)]),.asg (.loc 11) (.lst [] true),.for_ [12] true (.range1 (.bin .mul D49 D74)) [.for_ [13] true (.range1 D113) B25],.ret (.call D10 [(.str "double"),(.frz D70),(.lst [D113,(.bin .mul D49 D74)] false),.non,.non])]⟩
def QbU:FD:=⟨1,[],2,[.asg (.loc 1) (.call (.glob "to_whole" (.kref 239)) [(.sub D28 (.int 0))]),.ite (.or [D56,(.cmp .lt D1 (.int 0))]) [.bad] [],.ret D1]⟩
def QdT:FD:=⟨3,[],12,[.asg (.tup [(.loc 3),(.loc 4),(.loc 5)]) (.call D41 [D1,(.lst [(.str "x"),(.str "nrow"),(.str "ncol")] false)]),.ite (.and [D62,(.call D34 [D3]),(.call D8 [D3])]) [.ite (.or [(.cmp .isnot D4 .non),(.cmp .isnot D6 .non)]) [.bad] [],.ret (.call (.glob "diag_of" (.kref 870)) [D3])] [],.asg (.loc 6) (.call (.glob "extent_of" (.kref 826)) [D4,(.str "nrow")]),.asg (.loc 7) (.call (.glob "extent_of" (.kref 826)) [D6,(.str "ncol")]),.asg (.loc 8) (.frz (.new "Vector" 299 289 [(.str "double"),(.lst [(.tup [(.int 1),(.int 1)])] false)])),.asg (.loc 9) D62,.ite D95 [.asg (.loc 3) D49] [.ite D96 [.bad] [.ite D60 [.asg (.loc 10) (.lst [] false),.asg (.loc 3) (.call (.glob "as_kind" (.kref 715)) [D3,(.str "double"),D74]),.exp .bad] []]],.ite (.and [(.cmp .is D9 .non),D79,(.cmp .eq (.len (.attr D3 "items")) (.int 1))]) [.asg (.loc 11) (.call (.glob "diagonal_size" (.kref 982)) [D3]),.ret (.call (.glob "diag_matrix" (.kref 877)) [D49,D70,(.ife (.cmp .is D33 .non) D70 D33)])] [],.ite (.cmp .is D9 .non) [.asg (.loc 6) (.len (.attr D3 "items"))] [],.ret (.call (.glob "diag_matrix" (.kref 877)) [D3,D9,(.ife (.cmp .is D33 .non) D9 D33)])]⟩
def QaG:FD:=⟨1,[],3,[.asg (.tup [(.loc 1),(.loc 2)]) (.call D87 [D0,(.lst [(.str "x"),(.str "diag")] false)]),.ret (.tup [(.call D50 [D1]),(.call (.glob "is_true" (.kref 819)) [D46,(.tru false)])])]⟩
def QeT:FD:=⟨3,[],5,[.asg (.tup [(.loc 3),(.loc 4)]) D105,.ret (.call (.glob "upper_tri" (.kref 884)) [D3,D4])]⟩
def QeU:FD:=⟨3,[],5,[.asg (.tup [(.loc 3),(.loc 4)]) D105,.ret (.call (.glob "lower_tri" (.kref 891)) [D3,D4])]⟩
def QbH:FD:=⟨1,[],2,[.asg (.loc 1) (.sub (.call D87 [D0,(.lst [(.str "x")] false)]) (.int 0)),.ite (.nt (.call D8 [D1])) [.bad] [],.ret D1]⟩
def QhY:FD:=⟨3,[],3,[.ret (.call (.glob "place_matrix" (.kref 905)) [D109,(.tru true)])]⟩
def QhZ:FD:=⟨3,[],3,[.ret (.call (.glob "place_matrix" (.kref 905)) [D109,(.tru false)])]⟩
def Qbp:FD:=⟨2,[],3,[.ite (.cmp .lt D25 (.int 2)) [.ite (.cmp .eq D20 (.lst [] false)) [.asg (.sub D0 (.int 2)) (.bin .mod (.bin .add (.bin .mul (.sub D0 (.int 2)) (.int 16807)) (.int 13)) (.int 2147483647)),.ret (.bin .mod (.bin .div (.sub D0 (.int 2)) (.int 5)) D1)] [],.asg (.sub D0 (.int 1)) (.bin .add (.abs (.pop0 D20)) (.int 2))] [],.asg (.loc 2) (.bin .sub D25 (.int 2)),.asg (.sub D0 (.int 1)) (.ife (.cmp .ge D2 D1) (.bin .add (.bin .div D2 D1) (.int 2)) (.int 0)),.ret (.bin .mod D2 D1)]⟩
def Qd9:FD:=⟨4,[],8,[.asg (.loc 4) (.lst [] true),.for_ [5] true (.range1 D1) B24,.ret D4]⟩
def QcS:FD:=⟨2,[],5,[.asg (.loc 2) (.new "Vector" 299 289 [(.str "double"),D40]),.asg (.attr D2 "attrs") (.dct ["dim"] [(.frz (.new "Vector" 299 289 [(.str "integer"),(.lst [D75,D1] false)]))] false),.ret (.frz D2)]⟩
def Qdy:FD:=⟨1,[],5,[.asg (.tup [(.loc 1),(.loc 2)]) D129,.ite (.cmp .ne D80 (.bin .mul D1 D2)) [.ret .non] [],.ret D44]⟩
def Qdz:FD:=⟨2,[],4,[.asg (.loc 2) (.abs D0),.asg (.loc 3) D1,.whl (.cmp .gt D3 (.int 0)) B3,.ret (.tup [(.bin .div D0 D2),(.bin .div D1 D2)])]⟩
def QeV:FD:=⟨1,[],4,[.asg (.loc 1) (.int 0),.for_ [2,3] false D0 B9,.ret (.tup [D1,(.int 1)])]⟩
def QcT:FD:=⟨1,[],3,[.ret D57]⟩
def QcA:FD:=⟨2,[],5,[.ret D17]⟩
def Qbd:FD:=⟨1,[],5,[.ite (.cmp .eq D0 (.lst [] false)) [.ret (.int 1)] [],.asg (.loc 1) (.int 0),.for_ [2] true D126 [.asg (.loc 3) D12,.aug 1 .add (.bin .mul (.bin .mul (.ife (.cmp .eq (.bin .mod D2 (.int 2)) (.int 0)) (.int 1) (.neg (.int 1))) (.sub D20 D2)) (.call (.glob "_law_signed" (.kref 1084)) [D3]))],.ret D1]⟩
def Qea:FD:=⟨1,[],11,[.asg (.loc 1) D107,.asg (.loc 2) (.int 0),.for_ [3] true (.range1 (.len D20)) B31,.ret D2]⟩
def QcU:FD:=⟨3,[],10,[.for_ [3] true D126 [.for_ [4] true (.range1 (.len D46)) B30],.ret (.tru true)]⟩
def Qa9:FD:=⟨2,[],14,[.asg (.loc 2) (.call D47 [D0,(.len D20)]),.asg (.loc 3) (.call D47 [D1,(.len D38)]),.asg (.loc 4) (.lst [] true),.for_ [5] true D0 [.for_ [6] true D1 B16],.ite (.cmp .ne (.call D30 [(.call (.glob "b_kronecker" (.kref 975)) [.non,(.lst [(.tup [.non,D2]),(.tup [.non,D3])] false),.non])]) D4) [.ret (.tru false)] [],.for_ [7,8,9] false (.lst [(.tup [(.glob "b_crossprod" (.kref 961)),(.call D94 [D0]),D1]),(.tup [(.glob "b_tcrossprod" (.kref 968)),D0,(.call D94 [D1])])] false) B28,.ret (.cmp .eq (.call D30 [(.call (.glob "b_crossprod" (.kref 961)) [.non,(.lst [(.tup [.non,D2])] false),.non])]) (.call (.glob "_law_product" (.kref 1079)) [(.call D94 [D0]),D0]))]⟩
def Qbq:FD:=⟨1,[],20,[.asg (.loc 1) D75,.asg (.loc 2) (.len D20),.asg (.loc 3) (.call D47 [D0,D2]),.asg (.loc 4) (.frz (.new "Vector" 299 289 [(.str "double"),(.list (.attr D3 "items") false)])),.asg (.loc 5) D53,.asg (.loc 6) (.lst [(.tup [(.glob "b_row" (.kref 1024)),(.lst [] false),(.lam 0)]),(.tup [(.glob "b_col" (.kref 1031)),(.lst [] false),(.lam 1)])] true),.exp (.push D9 (.tup [(.glob "b_upper" (.kref 1003)),(.lst [] false),(.lam 2)])),.exp (.push D9 (.tup [(.glob "b_lower" (.kref 1010)),(.lst [] false),(.lam 3)])),.exp (.push D9 (.tup [(.glob "b_upper" (.kref 1003)),(.lst [(.tup [(.str "diag"),D82])] false),(.lam 4)])),.exp (.push D9 (.tup [(.glob "b_lower" (.kref 1010)),(.lst [(.tup [(.str "diag"),D82])] false),(.lam 5)])),.for_ [7,8,9] false (.frz D9) B26,.asg (.loc 13) D16,.ite (.cmp .ne (.loc 13) (.lst [(.lst [D1] false),(.lst [D2] false),(.lst [D1] false),(.lst [D2] false)] false)) [.ret (.tru false)] [],.ite (.or [(.cmp .ne (.attr (.call (.glob "b_nrow" (.kref 926)) [.non,(.lst [(.tup [.non,D4])] false),.non]) "kind") (.str "NULL")),(.cmp .ne (.attr (.call (.glob "b_ncol" (.kref 933)) [.non,(.lst [(.tup [.non,D4])] false),.non]) "kind") (.str "NULL"))]) [.ret (.tru false)] [],.ite (.or [(.cmp .ne (.attr (.call (.glob "b_all_rows" (.kref 940)) [.non,(.lst [(.tup [.non,D4])] false),.non]) "items") (.lst [(.bin .mul D1 D2)] false)),(.cmp .ne (.attr (.call (.glob "b_all_columns" (.kref 947)) [.non,(.lst [(.tup [.non,D4])] false),.non]) "items") (.lst [(.int 1)] false))]) [.ret (.tru false)] [],.ite (.cmp .ne (.attr (.call D106 [.non,(.lst [(.tup [.non,D3])] false),.non]) "items") D32) [.ret (.tru false)] [],.asg (.loc 10) (.call D30 [(.call D106 [.non,(.lst [(.tup [.non,(.frz (.new "Vector" 299 289 [(.str "double"),(.lst [(.tup [D1,(.int 1)])] false)]))])] false),.non])]),.ite (.cmp .ne D74 D27) [.ret (.tru false)] [],.asg (.loc 10) (.call D30 [(.call D106 [.non,(.lst [(.tup [.non,D4]),(.tup [(.str "nrow"),(.frz (.new "Vector" 299 289 [(.str "integer"),(.lst [D1] false)]))]),(.tup [(.str "ncol"),(.frz (.new "Vector" 299 289 [(.str "integer"),(.lst [D2] false)]))])] false),.non])]),.for_ [11,12] false D6 B17,.ret (.tru true)]⟩
def Qaw:FD:=⟨3,[],19,[.asg (.loc 3) D75,.asg (.loc 4) (.call D47 [D0,D3]),.ite (.cmp .ne (.attr (.call (.glob "b_det" (.kref 864)) [.non,(.lst [(.tup [.non,D4])] false),.non]) "items") (.lst [(.tup [(.call (.glob "_law_signed" (.kref 1084)) [D0]),(.int 1)])] false)) [.ret (.tru false)] [],.asg (.loc 5) (.str ""),.for_ [6] true (.range (.int 1) (.bin .add D3 (.int 1))) B27,.asg (.loc 7) (.call D47 [D1,(.len D38)]),.ite D2 [.asg (.loc 7) (.frz (.new "Vector" 299 289 [(.str "double"),(.list (.attr D33 "items") false)]))] [],.asg (.loc 8) D37,.for_ [9,10] false (.lst [(.tup [(.lst [(.tup [.non,D4]),(.tup [.non,D33])] false),D1]),(.tup [(.lst [(.tup [.non,D4])] false),D49])] false) B33,.ret (.tru true)]⟩
def Qfg:FD:=⟨1,[],11,[.asg (.loc 1) D42,.asg (.loc 2) (.lst [(.list D1 true),(.int 0),D104] true),.asg (.loc 3) D119,.asg (.loc 4) D118,.ite D45 [.ret (.tru false)] [],.asg (.loc 5) D21,.asg (.loc 6) (.call D23 [D2,D6,D6,(.tru false)]),.ite D78 [.asg (.sub D9 (.bin .sub D6 (.int 1))) D35] [],.asg (.loc 7) D120,.asg (.loc 8) D93,.ret D83]⟩
def tabL:List (Nat × Bool × FD × List Str × Nat):=[
 (67,false,Qf9,[SO "self",SO "formals",SO "tags"],0),
 (74,false,Qcs,[SO "self",SO "name",SO "place"],0),
 (81,false,Qbf,[SO "self",SO "name"],0),
 (88,false,QaB,[SO "self",SO "name",SO "place",SO "tag"],0),
 (95,false,QaC,[SO "self",SO "place",SO "name"],0),
 (102,false,Qbg,[SO "self",SO "place"],0),
 (107,false,QdN,[SO "self"],0),
 (139,true,QaD,[SO "formals",SO "args",SO "show",SO "matching",SO "rest"],1),
 (146,true,Qga,[SO "value",SO "name"],0),
 (152,true,Qel,[SO "args",SO "formals",SO "show",SO "places",SO "rest",SO "values",SO "name"],1),
 (162,true,Qon,[SO "a",SO "b"],0),
 (169,true,Qki,[SO "n",SO "d",SO "common"],0),
 (176,true,Qd6,[SO "n"],0),
 (183,true,QhV,[SO "x"],0),
 (190,true,Qdp,[SO "x"],0),
 (197,true,Qgb,[SO "x",SO "y"],0),
 (204,true,Qoo,[SO "x"],0),
 (211,true,Qop,[SO "x",SO "y"],0),
 (218,true,Qoq,[SO "x",SO "y"],0),
 (225,true,Qor,[SO "x",SO "y"],0),
 (232,true,Qos,[SO "x",SO "y"],0),
 (239,true,Qd7,[SO "x",SO "found"],0),
 (267,false,QeO,[SO "self"],0),
 (289,false,QeP,[SO "self",SO "kind",SO "items",SO "attrs"],1),
 (310,true,Qkj,[SO "n"],0),
 (317,true,Qkk,[],0),
 (324,true,QeQ,[SO "items"],0),
 (338,true,QhW,[SO "n"],0),
 (345,true,Qgc,[SO "v",SO "kind"],0),
 (352,true,Qdq,[SO "v"],0),
 (366,true,Qot,[SO "v"],0),
 (375,true,QaN,[SO "size",SO "rows",SO "place",SO "row"],0),
 (380,false,Qgd,[SO "rows"],0),
 (385,true,Qge,[SO "row",SO "factor"],0),
 (392,true,Qbh,[SO "row",SO "other",SO "factor",SO "result",SO "place"],0),
 (399,false,Qb7,[SO "rows",SO "start",SO "column",SO "place"],0),
 (406,false,Qb8,[SO "rows",SO "pivot",SO "column",SO "place"],0),
 (413,true,Qct,[SO "a",SO "rows",SO "pivots",SO "width",SO "column",SO "top",SO "found"],0),
 (420,true,Qb9,[SO "a",SO "width"],0),
 (427,true,Qbo,[SO "pivots",SO "size",SO "column"],0),
 (432,true,QbY,[SO "a",SO "b",SO "size",SO "joined",SO "rows",SO "pivots",SO "column"],0),
 (439,true,QdO,[SO "a"],0),
 (446,true,Qbi,[SO "x",SO "y"],0),
 (451,false,Qdr,[SO "row",SO "common",SO "item"],0),
 (458,false,Qat,[SO "rows",SO "size",SO "sign",SO "before",SO "step",SO "found",SO "place",SO "column",SO "product"],0),
 (465,true,Qbj,[SO "a",SO "rows",SO "below",SO "row",SO "whole",SO "common"],0),
 (472,true,Qci,[SO "v",SO "name"],0),
 (477,true,Qda,[SO "v",SO "tag",SO "dims",SO "rows",SO "names"],0),
 (484,true,Qey,[SO "v",SO "dims"],0),
 (489,true,Qgf,[SO "v",SO "found"],0),
 (649,true,Qhf,[SO "kind",SO "item"],0),
 (663,true,Qds,[SO "kind",SO "item",SO "notes"],0),
 (677,true,QeR,[SO "kind",SO "item",SO "to",SO "notes"],0),
 (684,true,QbG,[SO "kind"],0),
 (710,true,QcP,[SO "v",SO "names"],0),
 (715,true,QdP,[SO "v",SO "kind",SO "notes",SO "items"],0),
 (723,true,QiP,[SO "v"],0),
 (730,true,Qcu,[SO "v",SO "extents"],0),
 (737,true,Qdb,[SO "v"],0),
 (744,true,QbZ,[SO "v",SO "axis",SO "names"],0),
 (751,true,QdQ,[SO "v"],0),
 (756,true,QbS,[SO "rows",SO "items",SO "names"],0),
 (763,true,Qdt,[SO "kind",SO "items",SO "extents",SO "names",SO "made",SO "dimnames"],0),
 (770,true,QcQ,[SO "kind",SO "items",SO "extents",SO "row_names",SO "column_names"],0),
 (777,true,Qdu,[SO "v",SO "extents",SO "rows",SO "columns",SO "items",SO "place",SO "column"],0),
 (784,true,QcR,[SO "v"],0),
 (791,true,Qa7,[SO "u",SO "v",SO "first",SO "second",SO "left",SO "right"],0),
 (798,true,QdR,[SO "u",SO "v",SO "a",SO "b",SO "left",SO "right",SO "items",SO "column",SO "place",SO "total",SO "step",SO "row_names",SO "column_names"],0),
 (805,true,Qdv,[SO "v"],0),
 (812,true,Qgg,[SO "u",SO "v"],0),
 (819,true,QdS,[SO "v",SO "usual",SO "found"],0),
 (826,true,Qcv,[SO "v",SO "name",SO "numbers",SO "found"],0),
 (833,true,QaO,[SO "args",SO "names",SO "values",SO "v"],0),
 (838,true,QbT,[SO "v",SO "numbers",SO "item",SO "rows",SO "columns",SO "found",SO "place"],0),
 (845,true,Qcw,[SO "rows",SO "width",SO "row_names",SO "column_names",SO "items",SO "column",SO "row"],0),
 (852,true,Qca,[SO "v",SO "axis"],0),
 (857,true,QbA,[SO "interp",SO "args",SO "env",SO "a",SO "b",SO "rows",SO "high",SO "wide",SO "found",SO "made",SO "names"],0),
 (864,true,QhX,[SO "interp",SO "args",SO "env",SO "v"],0),
 (870,true,QeS,[SO "v",SO "rows",SO "columns",SO "count",SO "items",SO "made",SO "first",SO "second"],0),
 (877,true,Qcx,[SO "v",SO "rows",SO "columns",SO "zero",SO "items",SO "column",SO "place"],0),
 (884,true,Qdw,[SO "v",SO "diagonal"],0),
 (891,true,Qdx,[SO "v",SO "diagonal"],0),
 (898,true,Qd8,[SO "v",SO "upper",SO "diagonal",SO "rows",SO "columns",SO "items",SO "column",SO "place",SO "inside"],0),
 (905,true,Qcb,[SO "v",SO "by_row",SO "rows",SO "columns",SO "items",SO "column",SO "place"],0),
 (912,true,Qbw,[SO "v",SO "labels",SO "extents"],0),
 (919,true,QbB,[SO "v",SO "axis",SO "whole_vector",SO "found"],0),
 (926,true,Qez,[SO "interp",SO "args",SO "env"],0),
 (933,true,QeA,[SO "interp",SO "args",SO "env"],0),
 (940,true,Qb0,[SO "interp",SO "args",SO "env"],0),
 (947,true,Qbk,[SO "interp",SO "args",SO "env"],0),
 (954,true,Qcy,[SO "args",SO "u",SO "v",SO "side"],0),
 (961,true,Qbl,[SO "interp",SO "args",SO "env",SO "u",SO "v"],0),
 (968,true,Qbx,[SO "interp",SO "args",SO "env",SO "u",SO "v"],0),
 (975,true,Qcz,[SO "interp",SO "args",SO "env",SO "u",SO "v",SO "a",SO "b",SO "rows",SO "columns",SO "low",SO "wide",SO "items",SO "column",SO "place",SO "first"],0),
 (982,true,QbU,[SO "v",SO "size"],0),
 (989,true,QdT,[SO "interp",SO "args",SO "env",SO "v",SO "nrow",SO "ncol",SO "rows",SO "columns",SO "one",SO "given",SO "notes",SO "size"],0),
 (996,true,QaG,[SO "args",SO "v",SO "rest"],0),
 (1003,true,QeT,[SO "interp",SO "args",SO "env",SO "v",SO "diagonal"],0),
 (1010,true,QeU,[SO "interp",SO "args",SO "env",SO "v",SO "diagonal"],0),
 (1017,true,QbH,[SO "args",SO "v"],0),
 (1024,true,QhY,[SO "interp",SO "args",SO "env"],0),
 (1031,true,QhZ,[SO "interp",SO "args",SO "env"],0),
 (1038,false,Qbp,[SO "pool",SO "limit",SO "rest"],0),
 (1045,false,Qd9,[SO "pool",SO "tall",SO "wide",SO "holes",SO "rows",SO "_",SO "row",SO "figure"],0),
 (1050,true,QcS,[SO "rows",SO "wide",SO "v"],0),
 (1055,true,Qdy,[SO "v",SO "tall",SO "wide"],0),
 (1062,true,Qdz,[SO "over",SO "under",SO "one",SO "other"],0),
 (1069,true,QeV,[SO "pairs",SO "total",SO "left",SO "right"],0),
 (1074,true,QcT,[SO "rows"],0),
 (1079,true,QcA,[SO "left",SO "right"],0),
 (1084,true,Qbd,[SO "rows",SO "total",SO "spot",SO "rest"],0),
 (1089,true,Qea,[SO "rows",SO "left",SO "many",SO "spot",SO "found",SO "head"],0),
 (1096,true,QcU,[SO "rows",SO "answer",SO "right",SO "each",SO "spot",SO "over",SO "under",SO "cycle_at",SO "n",SO "d"],0),
 (1101,true,Qa9,[SO "u",SO "v",SO "left",SO "right",SO "due",SO "row",SO "other",SO "fn",SO "first",SO "second",SO "told",SO "error"],0),
 (1106,true,Qbq,[SO "u",SO "tall",SO "wide",SO "v",SO "barely",SO "spots",SO "dues",SO "fn",SO "more",SO "rule",SO "told",SO "each",SO "spot",SO "sizes"],0),
 (1111,true,Qaw,[SO "rows",SO "right",SO "flat",SO "size",SO "a",SO "due",SO "wide",SO "b",SO "unit",SO "args",SO "wanted",SO "told",SO "word",SO "error",SO "answer"],0),
 (1116,true,Qfg,[SO "script",SO "cells",SO "pool",SO "u",SO "v",SO "size",SO "rows",SO "flat",SO "right"],0)
]
def lamL:List (Nat × FD × List Str):=[
 (0,⟨2,[],2,[.ret (.bin .add D0 (.int 1))]⟩,[SO "each",SO "spot"]),
 (1,⟨2,[],2,[.ret (.bin .add D1 (.int 1))]⟩,[SO "each",SO "spot"]),
 (2,⟨2,[],2,[.ret (.ife (.cmp .gt D1 D0) (.int 1) (.int 0))]⟩,[SO "each",SO "spot"]),
 (3,⟨2,[],2,[.ret (.ife (.cmp .lt D1 D0) (.int 1) (.int 0))]⟩,[SO "each",SO "spot"]),
 (4,⟨2,[],2,[.ret (.ife (.cmp .ge D1 D0) (.int 1) (.int 0))]⟩,[SO "each",SO "spot"]),
 (5,⟨2,[],2,[.ret (.ife (.cmp .le D1 D0) (.int 1) (.int 0))]⟩,[SO "each",SO "spot"])
]
def gL:List (String × AV):=[("MOST_LENGTH",(.int 1000000)),("Matching",(.kref 110)),("NAN",(.tup [.int 0,.int 0])),("Null",(.kref 270)),("ONE",(.tup [.int 1,.int 1])),("Vector",(.kref 299)),("ZERO_linear",(.tup [.int 0,.int 1])),("ZERO_matparts",(.tup [.int 0,.int 1])),("ZERO_matrix",(.tup [.int 0,.int 1])),("_law_draw",(.kref 1038)),("_law_equations_hold",(.kref 1111)),("_law_many",(.kref 1089)),("_law_matrix",(.kref 1050)),("_law_places_hold",(.kref 1106)),("_law_product",(.kref 1079)),("_law_products_hold",(.kref 1101)),("_law_ratio",(.kref 1062)),("_law_rows",(.kref 1045)),("_law_shown",(.kref 1055)),("_law_signed",(.kref 1084)),("_law_solves",(.kref 1096)),("_law_sum",(.kref 1069)),("_law_turned",(.kref 1074)),("_wall",(.kref 21)),("add",(.kref 211)),("as_column",(.kref 805)),("as_kind",(.kref 715)),("axis_names",(.kref 744)),("b_all_columns",(.kref 947)),("b_all_rows",(.kref 940)),("b_col",(.kref 1031)),("b_crossprod",(.kref 961)),("b_det",(.kref 864)),("b_diag",(.kref 989)),("b_kronecker",(.kref 975)),("b_lower",(.kref 1010)),("b_ncol",(.kref 933)),("b_nrow",(.kref 926)),("b_row",(.kref 1024)),("b_solve",(.kref 857)),("b_tcrossprod",(.kref 968)),("b_upper",(.kref 1003)),("both_extents",(.kref 912)),("check_square",(.kref 420)),("clear_column",(.kref 406)),("copied",(.kref 380)),("cross",(.kref 812)),("determinant",(.kref 465)),("diag_matrix",(.kref 877)),("diag_of",(.kref 870)),("diagonal_size",(.kref 982)),("dim_of",(.kref 484)),("dimnames_list",(.kref 756)),("dimnames_of",(.kref 489)),("dims",(.kref 723)),("div",(.kref 232)),("extent_of",(.kref 826)),("first_dependent",(.kref 427)),("first_filled",(.kref 399)),("fraction_rows",(.kref 838)),("from_int",(.kref 176)),("gcd",(.kref 162)),("get_attr",(.kref 472)),("greatest_divisor",(.kref 446)),("identity_rows",(.kref 375)),("integer",(.kref 324)),("inverse",(.kref 439)),("is_atomic_kind",(.kref 684)),("is_finite",(.kref 190)),("is_matrix",(.kref 730)),("is_na",(.kref 183)),("is_true",(.kref 819)),("is_vector",(.kref 352)),("item_as",(.kref 677)),("law",(.kref 1116)),("length",(.kref 345)),("less_multiple",(.kref 392)),("lower_tri",(.kref 891)),("make",(.kref 169)),("marked",(.kref 197)),("mat_mul",(.kref 798)),("match_names",(.kref 139)),("matrix_argument",(.kref 833)),("matrix_names",(.kref 852)),("mul",(.kref 225)),("names_of",(.kref 477)),("needed",(.kref 146)),("neg",(.kref 204)),("new_array",(.kref 763)),("new_matrix",(.kref 770)),("null",(.kref 317)),("numbers_of",(.kref 784)),("one_extent",(.kref 919)),("place_argument",(.kref 1017)),("place_matrix",(.kref 905)),("plain_names",(.kref 751)),("product_shapes",(.kref 791)),("room",(.kref 310)),("row_echelon",(.kref 413)),("rows_matrix",(.kref 845)),("scaled",(.kref 510)),("scaled_linear",(.kref 385)),("scaled_numtext",(.kref 510)),("shape_of",(.kref 737)),("share",(.kref 366)),("solve_rows",(.kref 432)),("sub",(.kref 218)),("take",(.kref 152)),("to_double",(.kref 663)),("to_logical",(.kref 649)),("to_whole",(.kref 239)),("transpose",(.kref 777)),("triangle",(.kref 898)),("triangle_arguments",(.kref 996)),("two_vectors",(.kref 954)),("upper_tri",(.kref 884)),("whole",(.kref 338)),("whole_determinant",(.kref 458)),("whole_row",(.kref 451)),("with_names",(.kref 710))]
theorem g_all (P:Params):gL.all (fun p=>gGood (KX P) p.1 p.2)=true:=by kernel_rfl
theorem Qou (P:Params):tabL.all (fun p=>funChk (KX P) gL lamL p.1 p.2.2.1 p.2.2.2.1 p.2.2.2.2)=true:=by kernel_rfl
theorem Qmd:LamFree gL lamL:=fun m d xs pe h hb code qual sc σ x=>by
 have hm:=Qdo h;unfold lamL at hm;simp only[List.mem_cons,Prod.mk.injEq,List.not_mem_nil,or_false] at hm;rcases hm with ⟨rfl,rfl,rfl⟩ | ⟨rfl,rfl,rfl⟩ | ⟨rfl,rfl,rfl⟩ | ⟨rfl,rfl,rfl⟩ | ⟨rfl,rfl,rfl⟩ | ⟨rfl,rfl,rfl⟩<;>(cases hb; rfl)
abbrev TT:=tabT tabL
abbrev UU:=tabU lamL
theorem tabs {c:Cx} (hlq:c.lq=lqX) (hLO:c.LO=LOx gL lamL):Tabs c TT UU:=Qom (g_all _) hlq hLO (Qou _) Qmd
abbrev RN (n:Nat):Orc:=run TT UU n
theorem sound {c:Cx} (hlq:c.lq=lqX) (hLO:c.LO=LOx gL lamL) (n:Nat):OSnd c n (RN n):=QmZ (tabs hlq hLO) n
section
theorem Qqs (P:Params):nsIn (KX P) mainGlobals (Str.ofString "law")=some (some (.ref 1116)):=by kernel_rfl
theorem Qqt:TT 1116=some (true,Qfg):=by kernel_rfl
def LawRuns (N:Nat):Prop:=∀l:List Int,l.length≤63->∃H,runF (RN N) Qfg [.lst (l.map .int)] []=.ok (.bool true) H
section
variable {c:Cx} {s:Shared}
theorem Qme {N:Nat} (hN:N≤100) (hlq:c.lq=lqX) (hLO:c.LO=LOx gL lamL) (b:Base c [] s [] []) {l:List Int} {v:Value} {R:Result->Shared->Prop} (rv:c.rep [] [] s.heap (.lst (l.map .int)) v) (hl:l.length≤63) (law:LawRuns N)
  (h:∀(FX:List Addr) (H:AH) (cm:CM) s',Base c FX s' H cm->R (.ok (.ret (.bool true))) s'):codeAny (model P0 c.w) callerA (.call (.ref 1116) ⟨[v],[]⟩) R s:=by
 obtain⟨H,hlaw⟩:=law l hl;obtain⟨fd,body,xs,kd,fk,hbody⟩:=(tabs hlq hLO).f 1116 true Qfg Qqt;obtain⟨o,ho,hd⟩:=fk.o;have dk:=fk.def b.X;unfold runF at hlaw;cases hf:Qfg.frame [.lst (l.map .int)] with
 | none=>rw[hf] at hlaw; cases hlaw
 | some ρ' =>
  rw[hf] at hlaw;dsimp only at hlaw;have ra:c.reps [] [] s.heap [.lst (l.map .int)] [v]:=⟨v,[],rfl,rv,rfl⟩;refine codeAny_call_function (by decide) (b.X _ _ ho) hd (QcM dk.chk).1 (QcM dk.chk).2 fk.b dk.code
   (QgX (A:=callerA) (FO:=[]) (FZ:=[]) (fs:=[]) (H':=[]) (cm':=[]) (ρ':=ρ') (as:=[.lst (l.map .int)]) (rx:=3*N+10) (ry:=40*N+100) dk.chk dk.df dk.le dk.dv ⟨rfl,?_,?_,rfl⟩ b.nolim rfl hf nofun (fun g s_1 cal=>?_) fun g s_1 cal e1 e2 e3 e4 e5 e6 i_1 rm_1=>codeAny_func ?_)
  ·have:callerA.depth=301:=rfl
   omega
  ·have:callerA.units=4:=rfl
   omega
  ·have hFX:∀a,a∈g.FX↔a∈g.FA:=fun a=>by simp[Fm.FX,cal.FO,cal.FZ]
   have rr:∀a o,Rr [] [] s.heap a o->Rr g.FX [] s_1.heap a o:=fun a o ⟨e,st,_,_⟩=>⟨cal.grow.keep _ _ e,st,(fun q=>by rw[(cal.fresh a ((hFX a).mp q)).1] at e; cases e),nofun⟩
   refine⟨⟨rfl,fun j p x e=>by simp at e,fun a h=>?_,nofun,.nil,fun b' o n e=>cal.grow.keep _ _ (b.old b' o n e),cal.grow.gens.trans b.gens,cal.grow.os.trans b.os,b.tab.mono (fun _ e=>cal.grow.keep _ _ e) rr⟩,Mine.reps_mono rr (.refl _) _ _ ra,fun a h=>⟨by rw[cal.FO]; nofun,by rw[cal.FZ]; nofun⟩,fun a h=>by rw[cal.FO] at h; cases h⟩;rcases h with h | h
   ·obtain⟨q1,q2⟩:=cal.fresh a ((hFX a).mp h)
    exact⟨b.h1_none q1,q2⟩
   ·cases h
  ·refine hbody N _ (sound hlq hLO N) g e1 e2 e3 e6 e5 ⟨_,e4⟩ _ rm_1.toR ρ' s_1 [] [] i_1 _ _ ?_
   cases ho:evSs (RN N) Qfg.body ρ' [] with
   | stuck=>rw[ho] at hlaw; cases hlaw
   | exc m ρ_2 H_2=>rw[ho] at hlaw; cases hlaw
   | ok fl ρ_2 H_2 =>
    rw[ho] at hlaw;cases fl with
    | next=>cases hlaw
    | cont=>cases hlaw
    | ret w =>
     cases hlaw;intro y s' cm' nx iv hfl;obtain⟨z,rfl,rz⟩:=hfl;cases (show z=.bool true from rz);exact h _ _ _ _ iv.base
theorem Qhg {w:World} {LO:Nat->FuncData->Prop} {R:Rl} {cm:CM}:∀{l:List Int} {vs:List Value},IntsAre vs l->Mine.reps w LO R cm (l.map .int) vs
 | _,_,.nil=>rfl
 | _,_,.cons n t h=>⟨_,_,rfl,⟨t,rfl⟩,Qhg h⟩
end
theorem noImports:importsNone qv=true:=by decide +kernel
theorem Qov {N:Nat} (hN:N≤100) (law:LawRuns N):WalkGoal:=by
 intro w s_0 s_1 mg mb G Y fa o pm cd doc dV kV ho hd hcd hD hmg hg args vals as hpre hlay hrd hwl hlo;clear ho hd hcd hD
 wrow_args hpre hlay hrd hwl hlo
 rename_i l _ _ _ _ _ _ _ a vs _ hL ra w1 r0 hI hr hc1 hc2;have X:(KX w.params).In s_1.heap:=Y.1;have hgh:s_1.heap.get? gh=some (tabObj #[]):=Y.2 1103 (.head _);have T:=G.T;obtain⟨bm,ob,b1,b2,b3,b4,b5,b6⟩:=T.bmain;have hbg:bm≠gh:=fun q=>by rw[q,hgh] at b3; cases b3; cases b4
 have hbm:bm≠mainGlobals:=fun q=>by
  obtain⟨o',es,ep,e,ed,_⟩:=T.g;rw[q,e] at b3; cases b3; rw[ed] at b6; cases b6
 have h1:s_1.heap.get? 1≠none:=by
  obtain⟨mm,hmm,_⟩:=(T.seer noImports).mods;obtain⟨o',es,ep,e,_⟩:=hmm;rw[show s_1.heap.get? 1=some o' from e]; nofun
 let c:Cx:={w:=w,h_1:=s_1.heap,os_1:=s_1.os,LO:=LOx gL lamL,lq:=lqX,p:=qv,loose:=looseW qv looseX,mg:=mg,mb:=mb,X:=X,T:=topRead_of T,glow:=by rw[hgh]; nofun,one:=h1,blt:=⟨bm,ob,b1,b2,hbm,hbg,b3,b4,b5,b6⟩}
 have hfa:fa=1116:=by
  have:=mg_of X T.g (Qqs w.params);rw[show mg dLaw.name=mg (Str.ofString "law") from rfl,this] at hmg;cases hmg; rfl
 subst hfa;have b:Base c [] s_1 [] []:=⟨rfl,fun j p x e=>(by simp at e),fun a h=>(by rcases h with h | h<;>cases h),nofun,.nil,fun _ _ _ e=>e,hg,rfl,⟨#[],hgh,trivial,fun pos cv h=>by cases h⟩⟩
 obtain⟨ol,eo,ec,nn,ed⟩:=hL;have rv:c.rep [] [] s_1.heap (.lst (l.map .int)) (.ref a):=⟨a,ol,vs,nn,rfl,⟨eo,by simp[stab,ed],nofun,nofun⟩,ec,ed,Qhg hI⟩;have hT:TabsAt [(1105,gh)] s_1.heap:=fun q hq=>by cases List.mem_singleton.mp hq; exact⟨hd1105 X,hgh⟩
 refine enter_call (kn_post hT (fun _ _=>rfl) (Qme (c:=c) hN rfl rfl b rv (by omega) law fun FX H cm s' bb=>?_))
 refine⟨⟨.inl ⟨_,.bool true,[],rfl,fun _=>rfl,.bool true,?_,fun _=>⟨.nil,nofun⟩⟩,fun b' o' e=>?_,bb.os,bb.gens⟩,?_⟩
 ·wrow_post
 ·have hne:b'≠gh:=fun q=>by
   rw[show (({s_1 with heap:=ghostOf s_1.heap [(1105,gh)]}:Shared).heap)=hideAll s_1.heap [gh] from rfl] at e;rw[hideAll_none _ (by rw[q]; exact .head _)] at e; cases e
  exact bb.old b' o' hne (of_hideAll _ e)
 ·obtain⟨ps,e,_⟩:=bb.tab
  exact⟨⟨ps,e⟩,trivial⟩
theorem Qkl {N:Nat} (hN:N≤100) (law:LawRuns N):L0.Holds:=Qpv (Qov hN law)
end
section
theorem QcV {C:Orc} {d:FD} {as ρ:List AV} {H:AH} (hf:d.frame as=some ρ):runF C d as H=(evSs C d.body ρ H).out:=by unfold runF; rw[hf]
theorem Qaa {a N:Nat} {d:FD} {as ρ:List AV} {v:AV} {H':AH} (hT:TT a=some (true,d)) (hN:1≤N) (hf:d.frame as=some ρ) (hnc:AV.ncs as=true) (h:(evSs (RN (N-1)) d.body ρ []).out=.ok v H') (hv:v.nc=true) (H:AH):(RN N).f a as H=.ok v H:=by
 obtain⟨n,rfl⟩:∃n,N=n+1:=⟨N-1,by omega⟩;show (match TT a with
   | some (true,d)=>if AV.ncs as=true then pureOut H (runF (RN n) d as []) else .stuck
   | some (false,d)=>runF (RN n) d as H
   | none=>.stuck)=_
 rw[hT];dsimp only;rw[if_pos hnc,QcV hf,show (evSs (RN n) d.body ρ []).out=.ok v H' from h];show (if v.nc=true then _ else _)=_;rw[if_pos hv]
theorem Qby {a N:Nat} {d:FD} {as ρ:List AV} {v:AV} {H':AH} (hT:TT a=some (true,d)) (hN:1≤N) (hf:d.frame as=some ρ) (hnc:AV.ncs as=true) (h:(evSs (RN (N-1)) d.body ρ []).out=.exc v H') (hv:v.nc=true) (H:AH):(RN N).f a as H=.exc v H:=by
 obtain⟨n,rfl⟩:∃n,N=n+1:=⟨N-1,by omega⟩;show (match TT a with
   | some (true,d)=>if AV.ncs as=true then pureOut H (runF (RN n) d as []) else .stuck
   | some (false,d)=>runF (RN n) d as H
   | none=>.stuck)=_
 rw[hT];dsimp only;rw[if_pos hnc,QcV hf,show (evSs (RN n) d.body ρ []).out=.exc v H' from h];show (if v.nc=true then _ else _)=_;rw[if_pos hv]
theorem QbC {a N:Nat} {d:FD} {as ρ:List AV} {H:AH} {o:Out AV} (hT:TT a=some (false,d)) (hN:1≤N) (hf:d.frame as=some ρ) (h:(evSs (RN (N-1)) d.body ρ H).out=o):(RN N).f a as H=o:=by
 obtain⟨n,rfl⟩:∃n,N=n+1:=⟨N-1,by omega⟩;rw[←h];show (match TT a with
   | some (true,d)=>if AV.ncs as=true then pureOut H (runF (RN n) d as []) else .stuck
   | some (false,d)=>runF (RN n) d as H
   | none=>.stuck)=_
 rw[hT];dsimp only;rw[QcV hf];rfl
theorem QfC {k N:Nat} {d:FD} {as ρ:List AV} {v:AV} {H':AH} (hU:UU k=some d) (hN:1≤N) (hf:d.frame as=some ρ) (hnc:AV.ncs as=true) (h:(evSs (RN (N-1)) d.body ρ []).out=.ok v H') (hv:v.nc=true) (H:AH):(RN N).l k as H=.ok v H:=by
 obtain⟨n,rfl⟩:∃n,N=n+1:=⟨N-1,by omega⟩;show (match UU k with
   | some d=>if AV.ncs as=true then pureOut H (runF (RN n) d as []) else .stuck
   | none=>.stuck)=_
 rw[hU];dsimp only;rw[if_pos hnc,QcV hf,show (evSs (RN n) d.body ρ []).out=.ok v H' from h];show (if v.nc=true then _ else _)=_;rw[if_pos hv]
theorem Qdc {t:List AV->AH->Out Bool} {b:List AV->AH->OS}:∀{n:Nat} {ρ:List AV} {H:AH},whileN t b n ρ H≠.stuck->∀k,whileN t b (n+k) ρ H=whileN t b n ρ H
 | 0,ρ,H,h,k=>absurd rfl h
 | n+1,ρ,H,h,k=>by
  rw[show n+1+k=(n+k)+1 by omega];simp only[whileN] at h ⊢;cases ht:t ρ H with
  | stuck=>simp only[ht] at h; exact absurd rfl h
  | exc m H_1=>simp only[ht] at h; exact absurd rfl h
  | ok c H_1 =>
   cases c with
   | false=>rfl
   | true =>
    simp only[ht] at h;dsimp only;cases hb:b ρ H_1 with
    | stuck=>simp only[hb] at h; exact absurd rfl h
    | exc m ρ_2 H_2=>simp only[hb] at h; exact absurd rfl h
    | ok fl ρ_2 H_2 =>
     simp only[hb] at h;cases fl with
     | ret v=>rfl
     | next=>exact Qdc h k
     | cont=>exact Qdc h k
theorem QbM {t:List AV->AH->Out Bool} {b:List AV->AH->OS} {n:Nat} {ρ:List AV} {H:AH} {r:OS} (h:whileN t b n ρ H=r) (hr:r≠.stuck):whileO t b ρ H=r:=by
 have hn:whileN t b n ρ H≠.stuck:=by rw[h]; exact hr
 have he:∃n,whileN t b n ρ H≠.stuck:=⟨n,hn⟩;unfold whileO;rw[dif_pos he];have hc:=Classical.choose_spec he;rcases Nat.le_total n (Classical.choose he) with q | q
 ·obtain⟨k,hk⟩:=Nat.exists_eq_add_of_le q
  rw[hk,Qdc hn k,h]
 ·obtain⟨k,hk⟩:=Nat.exists_eq_add_of_le q
  have:=Qdc hc k;rw[←hk,h] at this;exact this.symm
def setAV:AV->Bool
 | .unset=>false
 | _=>true
theorem QiQ:setAV .none=true:=rfl
theorem set_bool (b:Bool):setAV (.bool b)=true:=rfl
theorem set_int (i:Int):setAV (.int i)=true:=rfl
theorem set_str (s:String):setAV (.str s)=true:=rfl
theorem Qkm (l:List AV):setAV (.tup l)=true:=rfl
theorem Qkn (l:List AV):setAV (.lst l)=true:=rfl
theorem Qko (k:List String) (l:List AV):setAV (.dct k l)=true:=rfl
theorem Qkp (D:Nat) (k:List String) (l:List AV):setAV (.obj D k l)=true:=rfl
theorem QiR (i:Nat):setAV (.cell i)=true:=rfl
theorem QiS (i:Nat):setAV (.kref i)=true:=rfl
theorem Qkq (i:Nat):setAV (.lam i)=true:=rfl
def binK (o:Op) (x:AV):Out AV->Out AV
 | .ok y H=>.ofOpt (pBin o x y) H
 | .exc m H=>.exc m H
 | .stuck=>.stuck
def binS (C:Orc) (ρ:List AV) (o:Op) (b:PE):Out AV->Out AV
 | .ok x H=>binK o x (evE C ρ b H)
 | .exc m H=>.exc m H
 | .stuck=>.stuck
def cmpK (c:Cm) (x:AV):Out AV->Out AV
 | .ok y H=>.ofOpt ((pCmp H c x y).map .bool) H
 | .exc m H=>.exc m H
 | .stuck=>.stuck
def cmpS (C:Orc) (ρ:List AV) (c:Cm) (b:PE):Out AV->Out AV
 | .ok x H=>cmpK c x (evE C ρ b H)
 | .exc m H=>.exc m H
 | .stuck=>.stuck
def subK (x:AV):Out AV->Out AV
 | .ok y H=>.ofOpt (pSub H x y) H
 | .exc m H=>.exc m H
 | .stuck=>.stuck
def subS (C:Orc) (ρ:List AV) (i:PE):Out AV->Out AV
 | .ok x H=>subK x (evE C ρ i H)
 | .exc m H=>.exc m H
 | .stuck=>.stuck
def ifeS (C:Orc) (ρ:List AV) (a b:PE):Out AV->Out AV
 | .ok c H=>(match pTruth c with
  | some true=>evE C ρ a H
  | some false=>evE C ρ b H
  | none=>.stuck)
 | .exc m H=>.exc m H
 | .stuck=>.stuck
def andS (C:Orc) (ρ:List AV) (l:List PE):Out AV->Out AV
 | .ok v H=>(match pTruth v with
   | some true=>evAnd C ρ l H
   | some false=>.ok v H
   | none=>.stuck)
 | .exc m H=>.exc m H
 | .stuck=>.stuck
def orS (C:Orc) (ρ:List AV) (l:List PE):Out AV->Out AV
 | .ok v H=>(match pTruth v with
   | some false=>evOr C ρ l H
   | some true=>.ok v H
   | none=>.stuck)
 | .exc m H=>.exc m H
 | .stuck=>.stuck
def consK (v:AV):Out (List AV)->Out (List AV)
 | .ok l H=>.ok (v::l) H
 | .exc m H=>.exc m H
 | .stuck=>.stuck
def consS (C:Orc) (ρ:List AV) (l:List PE):Out AV->Out (List AV)
 | .ok v H=>consK v (evL C ρ l H)
 | .exc m H=>.exc m H
 | .stuck=>.stuck
def callS (C:Orc) (a:Nat):Out (List AV)->Out AV
 | .ok vs H=>C.f a vs H
 | .exc m H=>.exc m H
 | .stuck=>.stuck
def seqS (C:Orc) (r:List PS):OS->OS
 | .ok .next ρ H=>evSs C r ρ H
 | .ok .cont ρ H=>.ok .cont ρ H
 | .ok (.ret v) ρ H=>.ok (.ret v) ρ H
 | .exc m ρ H=>.exc m ρ H
 | .stuck=>.stuck
def iteS (C:Orc) (ρ:List AV) (a b:List PS):Out Bool->OS
 | .ok true H=>evSs C a ρ H
 | .ok false H=>evSs C b ρ H
 | .exc m H=>.exc m ρ H
 | .stuck=>.stuck
def asgS (C:Orc) (ρ:List AV) (t:PT):Out AV->OS
 | .ok v H=>asg C t v ρ H
 | .exc m H=>.exc m ρ H
 | .stuck=>.stuck
def retS (ρ:List AV):Out AV->OS
 | .ok v H=>.ok (.ret v) ρ H
 | .exc m H=>.exc m ρ H
 | .stuck=>.stuck
def forL (C:Orc) (t:List Nat) (one:Bool) (b:List PS):List AV->List AV->AH->OS
 | [],ρ,H=>.ok .next ρ H
 | x::l,ρ,H=>match bindT t one x ρ with
  | some ρ'=>(match evSs C b ρ' H with
   | .ok (.ret v) ρ H=>.ok (.ret v) ρ H
   | .ok _ ρ H=>forL C t one b l ρ H
   | _=>.stuck)
  | none=>.stuck
def forK (C:Orc) (t:List Nat) (one:Bool) (b:List PS) (l:List AV):OS->OS
 | .ok .next ρ H=>forL C t one b l ρ H
 | .ok .cont ρ H=>forL C t one b l ρ H
 | .ok (.ret v) ρ H=>.ok (.ret v) ρ H
 | .exc _ _ _=>.stuck
 | .stuck=>.stuck
def forS (C:Orc) (t:List Nat) (one:Bool) (b:List PS) (ρ:List AV):Out AV->OS
 | .ok v H=>(match itemsOf v with
  | some l=>forL C t one b l ρ H
  | none=>.stuck)
 | .exc m H=>.exc m ρ H
 | .stuck=>.stuck
theorem Qcc (C:Orc) (t:List Nat) (one:Bool) (b:List PS):∀(l:List AV) (ρ:List AV) (H:AH),forL C t one b l ρ H=loopS (fun x ρ H=>match bindT t one x ρ with
   | some ρ=>evSs C b ρ H
   | none=>.stuck) l ρ H
 | [],ρ,H=>rfl
 | x::l,ρ,H=>by
  rw[forL,loopS];cases bindT t one x ρ with
  | none=>rfl
  | some ρ' =>
   dsimp only;cases evSs C b ρ' H with
   | ok f ρ_1 H_1=>cases f<;>first | rfl | exact Qcc C t one b l ρ_1 H_1
   | exc m ρ_1 H_1=>rfl
   | stuck=>rfl
theorem Qkr (C:Orc) (t:List Nat) (one:Bool) (b:List PS) (ρ:List AV) (H:AH):forL C t one b [] ρ H=.ok .next ρ H:=rfl
theorem Qks (C:Orc) (k:Nat) (b:List PS) (x:AV) (l ρ:List AV) (H:AH):forL C [k] true b (x::l) ρ H=forK C [k] true b l (evSs C b (ρ.set k x) H):=by
 rw[forL];show (match evSs C b (ρ.set k x) H with
   | .ok (.ret v) ρ H=>OS.ok (.ret v) ρ H
   | .ok _ ρ H=>forL C [k] true b l ρ H
   | _=>OS.stuck)=_
 cases evSs C b (ρ.set k x) H with
 | ok f ρ_1 H_1=>cases f<;>rfl
 | exc m ρ_1 H_1=>rfl
 | stuck=>rfl
section
variable {C:Orc} {ρ:List AV} {H:AH}
theorem Qfh (k:Nat):evE C ρ (.loc k) H=match ρ[k]? with | some v=>if setAV v=true then .ok v H else .stuck | none=>.stuck:=by
 rw[evE];cases ρ[k]? with
 | none=>rfl
 | some v=>cases v<;>rfl
theorem Qqu:evE C ρ .non H=.ok .none H:=by rw[evE]; first | done | rfl
theorem Qqv (b:Bool):evE C ρ (.tru b) H=.ok (.bool b) H:=by rw[evE]; first | done | rfl
theorem Qmf (i:Int):evE C ρ (.int i) H=.ok (.int i) H:=by rw[evE]; first | done | rfl
theorem QjA (s:String):evE C ρ (.str s) H=.ok (.str s) H:=by rw[evE]; first | done | rfl
theorem Qkt (s:String) (v:AV):evE C ρ (.glob s v) H=.ok v H:=by rw[evE]; first | done | rfl
theorem Qow (o:Op) (a b:PE):evE C ρ (.bin o a b) H=binS C ρ o b (evE C ρ a H):=by
 rw[evE];cases evE C ρ a H with
 | ok x H=>simp only[Out.bind_ok,binS]; cases evE C ρ b H<;>rfl
 | _=>rfl
theorem Qqw (a:PE):evE C ρ (.neg a) H=(evE C ρ a H).bind fun x H=>match x with | .int i=>.ok (.int (-i)) H | _=>.stuck:=by rw[evE]; first | done | rfl
theorem Qqx (c:Cm) (a b:PE):evE C ρ (.cmp c a b) H=cmpS C ρ c b (evE C ρ a H):=by
 rw[evE];cases evE C ρ a H with
 | ok x H=>simp only[Out.bind_ok,cmpS]; cases evE C ρ b H<;>rfl
 | _=>rfl
theorem e_nt (a:PE):evE C ρ (.nt a) H=(evE C ρ a H).bind fun x H=>.ofOpt ((pTruth x).map fun b=>.bool !b) H:=by rw[evE]; first | done | rfl
theorem Qqy (e:PE) (l:List PE):evE C ρ (.and (e::l)) H=evAnd C ρ (e::l) H:=by rw[evE]; first | done | rfl
theorem e_or (e:PE) (l:List PE):evE C ρ (.or (e::l)) H=evOr C ρ (e::l) H:=by rw[evE]; first | done | rfl
theorem Qqz (t a b:PE):evE C ρ (.ife t a b) H=ifeS C ρ a b (evE C ρ t H):=by
 rw[evE];cases evE C ρ t H<;>rfl
theorem Qku (f:PE) (as:List PE):evE C ρ (.call f as) H=(evE C ρ f H).bind fun v H=>if v.isFn=true then (evL C ρ as H).bind fun vs H=>callV C v vs H else .stuck:=by rw[evE]; first | done | rfl
theorem Qkv (s:String) (a:Nat) (as:List PE):evE C ρ (.call (.glob s (.kref a)) as) H=callS C a (evL C ρ as H):=by
 rw[Qku,Qkt];show (evL C ρ as H).bind (fun vs H=>C.f a vs H)=_;cases evL C ρ as H<;>rfl
theorem QqA (s:String) (D i:Nat) (as:List PE):evE C ρ (.new s D i as) H=(evL C ρ as H).bind fun vs H=>(C.f i (.cell H.length::vs) (H++[.obj D [] []])).bind fun r H'=>match r with | .none=>.ok (.cell H.length) H' | _=>.stuck:=by rw[evE]; first | done | rfl
theorem Qm4 (o:PE) (n:String):evE C ρ (.attr o n) H=(evE C ρ o H).bind fun v H=>match objOf H v with
  | some (_,ks,vs)=>.ofOpt (keyAt ks vs n) H
  | none=>.stuck:=by rw[evE]; first | done | rfl
theorem Qm5 (o:PE) (D:Nat) (s:String) (f:Nat) (as:List PE):evE C ρ (.meth o D s f as) H=(evE C ρ o H).bind fun v H=>match objOf H v with
  | some (D',_,_)=>if D'=D then (evL C ρ as H).bind fun vs H=>C.f f (v::vs) H else .stuck
  | none=>.stuck:=by rw[evE]; first | done | rfl
theorem Qm6 (o x:PE):evE C ρ (.push o x) H=(evE C ρ o H).bind fun v H=>match v with
  | .cell i=>match lstOf H v with
   | some _=>(evE C ρ x H).bind fun y H=>match H[i]? with
    | some (.lst l)=>if l.length≤100000 then .ok .none (H.set i (.lst (l++[y]))) else .stuck
    | _=>.stuck
   | none=>.stuck
  | _=>.stuck:=by rw[evE]; first | done | rfl
theorem QqB (o i:PE):evE C ρ (.sub o i) H=subS C ρ i (evE C ρ o H):=by
 rw[evE];cases evE C ρ o H with
 | ok x H=>simp only[Out.bind_ok,subS]; cases evE C ρ i H<;>rfl
 | _=>rfl
theorem QqC (a:PE):evE C ρ (.len a) H=(evE C ρ a H).bind fun v H=>match seqOf H v with
  | some l=>if l.length≤1000000 then .ok (.int l.length) H else .stuck
  | none=>.stuck:=by rw[evE]; first | done | rfl
theorem QqD (a:PE):evE C ρ (.abs a) H=(evE C ρ a H).bind fun x H=>match x with | .int i=>.ok (.int i.natAbs) H | _=>.stuck:=by rw[evE]; first | done | rfl
theorem QqE (a b:PE):evE C ρ (.min a b) H=(evE C ρ a H).bind fun x H=>(evE C ρ b H).bind fun y H=>match x,y with | .int i,.int j=>.ok (.int (if j<i then j else i)) H | _,_=>.stuck:=by rw[evE]; first | done | rfl
theorem QiT (a:PE):evE C ρ (.range1 a) H=(evE C ρ a H).bind fun x H=>match x with
  | .int i=>if i.natAbs<1000000 then .ok (.rng 0 i) H else .stuck
  | _=>.stuck:=by rw[evE]; first | done | rfl
theorem Qkw (a b:PE):evE C ρ (.range a b) H=(evE C ρ a H).bind fun x H=>(evE C ρ b H).bind fun y H=>match x,y with
  | .int i,.int j=>if i.natAbs<1000000∧j.natAbs<1000000 then .ok (.rng i j) H else .stuck
  | _,_=>.stuck:=by rw[evE]; first | done | rfl
theorem Qm7 (a:PE) (mu:Bool):evE C ρ (.list a mu) H=(evE C ρ a H).bind fun x H=>match x with
  | .lst l=>if l.length≤100000 then newC H mu l else .stuck
  | _=>.stuck:=by rw[evE]; first | done | rfl
theorem QiU (a:PE) (s:String) (D:Nat):evE C ρ (.isinst a s D) H=(evE C ρ a H).bind fun x H=>match objOf H x with
  | some (D',_,_)=>if D'=D then .ok (.bool true) H else .stuck
  | none=>.stuck:=by rw[evE]; first | done | rfl
theorem QqF (l:List PE) (mu:Bool):evE C ρ (.lst l mu) H=(evL C ρ l H).bind fun vs H=>newC H mu vs:=by rw[evE]; first | done | rfl
theorem QqG (l:List PE):evE C ρ (.tup l) H=(evL C ρ l H).bind fun vs H=>.ok (.tup vs) H:=by rw[evE]; first | done | rfl
theorem QqH (ks:List String) (l:List PE) (mu:Bool):evE C ρ (.dct ks l mu) H=(evL C ρ l H).bind fun vs H=>if ks.length=vs.length∧ks.Nodup then (if mu then .ok (.cell H.length) (H++[.dct ks vs]) else .ok (.dct ks vs) H) else .stuck:=by rw[evE]; first | done | rfl
theorem Qm8 (o k:PE):evE C ρ (.dget o k) H=(evE C ρ o H).bind fun v H=>match v with
  | .dct ks vs=>(evE C ρ k H).bind fun x H=>match x with
   | .str s=>.ok ((keyAt ks vs s).getD .none) H
   | _=>.stuck
  | _=>.stuck:=by rw[evE]; first | done | rfl
theorem Qkx (e:PE) (gs:List PG) (mu:Bool):evE C ρ (.comp e gs mu) H=if clrOk gs ρ=true then (evG C (fun ρ H=>evE C ρ e H) gs ρ [] H).bind fun vs H=>newC H mu vs else .stuck:=by rw[evE]; first | done | rfl
theorem QqI (k:Nat):evE C ρ (.lam k) H=.ok (.lam k) H:=by rw[evE]; first | done | rfl
theorem QqJ (a:PE):evE C ρ (.frz a) H=(evE C ρ a H).bind fun v H=>pFrz H v:=by rw[evE]; first | done | rfl
theorem Qox (a b:PE):evE C ρ (.cat a b) H=(evE C ρ a H).bind fun v H=>(evE C ρ b H).bind fun x H=>match v,x with
  | .lst l,.lst r=>if l.length+r.length≤1000000 then .ok (.lst (l++r)) H else .stuck
  | _,_=>.stuck:=by rw[evE]; first | done | rfl
theorem QqK (o n:PE) (mu:Bool):evE C ρ (.rep o n mu) H=(evE C ρ o H).bind fun v H=>(evE C ρ n H).bind fun x H=>match x with
  | .int k=>if 0≤k∧k<100000 then newC H mu (List.replicate k.toNat v) else .stuck
  | _=>.stuck:=by rw[evE]; first | done | rfl
theorem QqL:evL C ρ [] H=.ok [] H:=by rw[evL]; first | done | rfl
theorem Qm9 (e:PE) (l:List PE):evL C ρ (e::l) H=consS C ρ l (evE C ρ e H):=by
 rw[evL];cases evE C ρ e H with
 | ok x H=>simp only[Out.bind_ok,consS]; cases evL C ρ l H<;>rfl
 | _=>rfl
theorem QqM (t:PT) (e:PE):evS C (.asg t e) ρ H=asgS C ρ t (evE C ρ e H):=by
 rw[evS];cases evE C ρ e H<;>rfl
theorem QqN (k:Nat) (o:Op) (e:PE):evS C (.aug k o e) ρ H=(evE C ρ (.loc k) H).st ρ fun x H=>(evE C ρ e H).st ρ fun y H=>match pBin o x y with
  | some v=>.ok .next (ρ.set k v) H
  | none=>.stuck:=by rw[evS]; first | done | rfl
theorem QqO (e:PE):evS C (.exp e) ρ H=(evE C ρ e H).st ρ fun v H=>match v with
  | .none | .int _=>.ok .next ρ H
  | _=>.stuck:=by rw[evS]; first | done | rfl
theorem QqP (e:PE):evS C (.ret e) ρ H=retS ρ (evE C ρ e H):=by
 rw[evS];cases evE C ρ e H<;>rfl
theorem Qna:evS C .ret0 ρ H=.ok (.ret .none) ρ H:=by rw[evS]; first | done | rfl
theorem QqQ (t:PE) (a b:List PS):evS C (.ite t a b) ρ H=iteS C ρ a b (evT C ρ t H):=by
 rw[evS];cases evT C ρ t H with
 | ok c H=>cases c<;>rfl
 | _=>rfl
theorem QdU (t:PE) (b:List PS):evS C (.whl t b) ρ H=whileO (fun ρ H=>evT C ρ t H) (fun ρ H=>evSs C b ρ H) ρ H:=by rw[evS]; first | done | rfl
theorem Qoy (t:List Nat) (one:Bool) (it:PE) (b:List PS):evS C (.for_ t one it b) ρ H=forS C t one b ρ (evE C ρ it H):=by
 rw[evS];cases evE C ρ it H with
 | ok v H =>
  show (match itemsOf v with | some l=>_ | none=>_)=(match itemsOf v with | some l=>_ | none=>_)
  cases itemsOf v with
  | none=>rfl
  | some l=>exact (Qcc C t one b l ρ H).symm
 | _=>rfl
theorem Qky (e:PE):evS C (.raise e) ρ H=(evE C ρ e H).st ρ fun v H=>.exc v ρ H:=by rw[evS]; first | done | rfl
theorem Qnb:evS C .cont ρ H=.ok .cont ρ H:=by rw[evS]; first | done | rfl
theorem Qkz:evSs C [] ρ H=.ok .next ρ H:=by rw[evSs]; first | done | rfl
theorem Qgh (p:PS) (r:List PS):evSs C (p::r) ρ H=seqS C r (evS C p ρ H):=by
 rw[evSs];cases evS C p ρ H with
 | ok f ρ H=>cases f<;>rfl
 | _=>rfl
theorem QqR (k:Nat) (v:AV):asg C (.loc k) v ρ H=.ok .next (ρ.set k v) H:=by rw[asg]; first | done | rfl
theorem QqS (ts:List PT) (l:List AV):asg C (.tup ts) (.tup l) ρ H=if l.length=ts.length then asgs C ts l ρ H else .stuck:=by rw[asg]; first | done | rfl
theorem Qnc (ts:List PT) (l:List AV):asg C (.tup ts) (.lst l) ρ H=if l.length=ts.length then asgs C ts l ρ H else .stuck:=by rw[asg]; first | done | rfl
theorem Qnd (o:PE) (n:String) (v:AV):asg C (.attr o n) v ρ H=(evE C ρ o H).st ρ fun x H=>match Mine.setAttr H x n v with
  | some H=>.ok .next ρ H
  | none=>.stuck:=by rw[asg]; first | done | rfl
theorem QqT (o i:PE) (v:AV):asg C (.sub o i) v ρ H=(evE C ρ o H).st ρ fun x H=>(evE C ρ i H).st ρ fun y H=>match setSub H x y v with
  | some H=>.ok .next ρ H
  | none=>.stuck:=by rw[asg]; first | done | rfl
theorem Qne (l:List AV):asgs C [] l ρ H=.ok .next ρ H:=by rw[asgs]; first | done | rfl
theorem QkA (t:PT) (ts:List PT) (v:AV) (l:List AV):asgs C (t::ts) (v::l) ρ H=(asg C t v ρ H).bind fun _ ρ H=>asgs C ts l ρ H:=by rw[asgs]; first | done | rfl
end
theorem QkB (C:Orc) (ρ:List AV) (e:PE) (H:AH):evAnd C ρ [e] H=evE C ρ e H:=by
 simp only[evAnd];cases evE C ρ e H<;>rfl
theorem QiV (C:Orc) (ρ:List AV) (e e':PE) (l:List PE) (H:AH):evAnd C ρ (e::e'::l) H=andS C ρ (e'::l) (evE C ρ e H):=by
 rw[evAnd];cases evE C ρ e H<;>rfl
theorem Qnf (C:Orc) (ρ:List AV) (e:PE) (H:AH):evOr C ρ [e] H=evE C ρ e H:=by
 simp only[evOr];cases evE C ρ e H<;>rfl
theorem QkC (C:Orc) (ρ:List AV) (e e':PE) (l:List PE) (H:AH):evOr C ρ (e::e'::l) H=orS C ρ (e'::l) (evE C ρ e H):=by
 rw[evOr];cases evE C ρ e H<;>rfl
theorem Qdd {t:List AV->AH->Out Bool} {b:List AV->AH->OS} {ρ:List AV} {H:AH} (h:whileO t b ρ H≠.stuck):∃n,whileN t b n ρ H=whileO t b ρ H:=by
 by_cases he:∃n,whileN t b n ρ H≠.stuck
 ·unfold whileO
  rw[dif_pos he];exact⟨_,rfl⟩
 ·exact absurd (by unfold whileO; rw[dif_neg he]) h
theorem QaW {C:Orc} {t:PE} {b:List PS} {ρ:List AV} {H:AH} (h:evT C ρ t H=.ok false H):evS C (.whl t b) ρ H=.ok .next ρ H:=by
 rw[QdU];exact QbM (n:=1) (by simp only[whileN,h]) nofun
theorem QeB {C:Orc} {t:PE} {b:List PS} {ρ ρ':List AV} {H H':AH} {r:OS} (h:evT C ρ t H=.ok true H) (hb:evSs C b ρ H=.ok .next ρ' H') (hr:evS C (.whl t b) ρ' H'=r) (hn:r≠.stuck):evS C (.whl t b) ρ H=r:=by
 rw[QdU] at hr ⊢;obtain⟨n,e⟩:=Qdd (by rw[hr]; exact hn);rw[hr] at e;exact QbM (n:=n+1) (by simp only[whileN,h,hb]; exact e) hn
theorem Qhh {H:AH} {a b:AV} {P:Prop} [Decidable P] (ha:AV.data 6 (rd H a)=true) (hb:AV.data 6 (rd H b)=true) (h:rd H a=rd H b↔P):pCmp H .eq a b=some (decide P):=by
 show (if (AV.data 6 (rd H a)&&AV.data 6 (rd H b))=true then some (@decide (rd H a=rd H b) (Classical.propDecidable _)) else none)=_;rw[ha,hb];exact congrArg some (decide_eq_decide.mpr h)
theorem QjB {H:AH} {a b:AV} {P:Prop} [Decidable P] (ha:AV.data 6 (rd H a)=true) (hb:AV.data 6 (rd H b)=true) (h:rd H a≠rd H b↔P):pCmp H .ne a b=some (decide P):=by
 cases a with
 | bool b=>exact absurd ha (by simp[rd,AV.data])
 | _=>cases b<;>(simp only[pCmp,ha,hb,Bool.and_self,if_true]; exact congrArg some (decide_eq_decide.mpr h))
theorem c_eq {H:AH} (a b:Int):pCmp H .eq (.int a) (.int b)=some (decide (a=b)):=Qhh rfl rfl (by simp[rd])
theorem c_ne {H:AH} (a b:Int):pCmp H .ne (.int a) (.int b)=some (decide (a≠b)):=QjB rfl rfl (by simp[rd])
theorem c_lt {H:AH} (a b:Int):pCmp H .lt (.int a) (.int b)=some (decide (a<b)):=rfl
theorem c_le {H:AH} (a b:Int):pCmp H .le (.int a) (.int b)=some (decide (a≤b)):=rfl
theorem c_gt {H:AH} (a b:Int):pCmp H .gt (.int a) (.int b)=some (decide (a>b)):=rfl
theorem c_ge {H:AH} (a b:Int):pCmp H .ge (.int a) (.int b)=some (decide (a≥b)):=rfl
theorem c_is {H:AH} (a:AV):pCmp H .is a .none=a.isNone:=by cases a<;>rfl
theorem QkD {H:AH} (a:AV):pCmp H .isnot a .none=a.isNone.map (!·):=by cases a<;>rfl
theorem QqU {H:AH} (a b:String):pCmp H .eq (.str a) (.str b)=some (decide (a=b)):=Qhh rfl rfl (by simp[rd])
theorem QqV {H:AH} (a b:String):pCmp H .ne (.str a) (.str b)=some (decide (a≠b)):=QjB rfl rfl (by simp[rd])
theorem QqW {H:AH} (s:String) (i:Nat):pCmp H .isin (.str s) (.cell i)=match dctOf H (.cell i) with | some (ks,_)=>some (decide (s∈ks)) | none=>none:=by
 simp only[pCmp]<;>cases dctOf H (.cell i)<;>first | rfl | exact congrArg some (decide_eq_decide.mpr Iff.rfl)
theorem Qng {H:AH} (s:String) (i:Nat):pCmp H .notin (.str s) (.cell i)=match dctOf H (.cell i) with | some (ks,_)=>some (decide (s ∉ ks)) | none=>none:=by
 simp only[pCmp]<;>cases dctOf H (.cell i)<;>first | rfl | exact congrArg some (decide_eq_decide.mpr Iff.rfl)
theorem QqX {H:AH} (s:String) (ks:List String) (vs:List AV):pCmp H .isin (.str s) (.dct ks vs)=some (decide (s∈ks)):=congrArg some (decide_eq_decide.mpr Iff.rfl)
theorem Qnh {H:AH} (s:String) (ks:List String) (vs:List AV):pCmp H .notin (.str s) (.dct ks vs)=some (decide (s ∉ ks)):=congrArg some (decide_eq_decide.mpr Iff.rfl)
theorem QqY {H:AH} (s a b d:String):pCmp H .isin (.str s) (.tup [.str a,.str b,.str d])=some (decide (s=a∨s=b∨s=d)):=congrArg some (decide_eq_decide.mpr (by simp))
theorem Qni {H:AH} (s a b d:String):pCmp H .notin (.str s) (.tup [.str a,.str b,.str d])=some (decide ¬(s=a∨s=b∨s=d)):=congrArg some (decide_eq_decide.mpr (by simp))
theorem QdA (a b:Int):pBin .add (.int a) (.int b)=some (.int (a+b)):=rfl
theorem Qoz (a b:Int):pBin .sub (.int a) (.int b)=some (.int (a-b)):=rfl
theorem Qae {a b:Int} (h:QaI a) (h':QaI b):pBin .mul (.int a) (.int b)=some (.int (a*b)):=if_pos ⟨h,h'⟩
theorem QcW {a b:Int} (h:b≠0) (h':QaI b):pBin .div (.int a) (.int b)=some (.int (a.fdiv b)):=if_pos ⟨h,h'⟩
theorem Qes {a b:Int} (h:b≠0) (h':QaI b):pBin .mod (.int a) (.int b)=some (.int (a.fmod b)):=if_pos ⟨h,h'⟩
theorem Qaf {a:Int} (h:a.natAbs<2 ^ 64):QaI a:=Nat.lt_of_lt_of_le h (Nat.pow_le_pow_right (by decide) (by decide))
theorem bigN {a:Nat} (h:a<1000000):QaI (a:Int):=Nat.lt_of_lt_of_le (show (a:Int).natAbs<2 ^ 20 by rw[Int.natAbs_natCast]; omega) (Nat.pow_le_pow_right (by decide) (by decide))
theorem Qnj (a b:Nat):pBin .add (.int a) (.int b)=some (.int ((a+b:Nat):Int)):=rfl
theorem Qnk (a:Nat):pBin .add (.int a) (.int 1)=some (.int ((a+1:Nat):Int)):=rfl
theorem Qnl (a:Nat):pBin .add (.int 1) (.int a)=some (.int ((1+a:Nat):Int)):=rfl
theorem QbK {a b:Nat} (h:a<1000000) (h':b<1000000):pBin .mul (.int a) (.int b)=some (.int ((a*b:Nat):Int)):=Qae (bigN h) (bigN h')
theorem QkE {a b:Nat} (h:b≠0) (h':b<1000000):pBin .div (.int a) (.int b)=some (.int ((a / b:Nat):Int)):=by
 rw[QcW (by omega) (bigN h'),Int.fdiv_eq_ediv_of_nonneg _ (by omega)]; rfl
theorem QkF {a b:Nat} (h:b≠0) (h':b<1000000):pBin .mod (.int a) (.int b)=some (.int ((a % b:Nat):Int)):=by
 rw[Qes (by omega) (bigN h'),Int.fmod_eq_emod_of_nonneg _ (by omega)]; rfl
theorem p_sub {H:AH} {l:List AV} {k:Nat} (h:l.length≤1000000):pSub H (.lst l) (.int (k:Int))=l[k]?:=by
 show (if 0≤(k:Int) then (if l.length≤1000000 then l[(k:Int).toNat]? else none) else none)=_;rw[if_pos (by omega),if_pos h]; rfl
theorem p_subT {H:AH} {l:List AV} {k:Nat} (h:l.length≤1000000):pSub H (.tup l) (.int (k:Int))=l[k]?:=by
 show (if 0≤(k:Int) then (if l.length≤1000000 then l[(k:Int).toNat]? else none) else none)=_;rw[if_pos (by omega),if_pos h]; rfl
theorem QqZ {H:AH} (o:AV) (i:Int):pSub H o (.int i)=match seqOf H o with
  | some l=>if 0≤i then (if l.length≤1000000 then l[i.toNat]? else none) else none
  | none=>none:=by cases o<;>rfl
theorem p_t0 {H:AH} (a b:AV):pSub H (.tup [a,b]) (.int 0)=some a:=rfl
theorem p_t1 {H:AH} (a b:AV):pSub H (.tup [a,b]) (.int 1)=some b:=rfl
theorem p_l0 {H:AH} (a b:AV):pSub H (.lst [a,b]) (.int 0)=some a:=rfl
theorem p_l1 {H:AH} (a b:AV):pSub H (.lst [a,b]) (.int 1)=some b:=rfl
theorem Qq0 {H:AH} (ks:List String) (vs:List AV) (n:String):pSub H (.dct ks vs) (.str n)=keyAt ks vs n:=rfl
theorem Qnm {H:AH} (i:Nat) (n:String):pSub H (.cell i) (.str n)=match dctOf H (.cell i) with | some (ks,vs)=>keyAt ks vs n | none=>none:=rfl
theorem Qnn {a b:Nat}:itemsOf (.rng a b)=some ((List.range (b-a)).map fun i=>.int ((a+i:Nat):Int)):=by
 show some ((List.range ((b:Int)-(a:Int)).toNat).map fun i=>AV.int ((a:Int)+(i:Nat)))=_;rw[show ((b:Int)-(a:Int)).toNat=b-a by omega];rfl
theorem QaP {b:Nat}:itemsOf (.rng 0 b)=some ((List.range b).map fun i=>.int (i:Int)):=by
 have:=Qnn (a:=0) (b:=b);simpa using this
theorem Qq1:itemsOf (.rng 0 1)=some [.int 0]:=rfl
theorem Qq2:itemsOf (.rng 0 2)=some [.int 0,.int 1]:=rfl
theorem Qq3:itemsOf (.rng 0 3)=some [.int 0,.int 1,.int 2]:=rfl
theorem Qno (l:List AV):itemsOf (.lst l)=some l:=rfl
theorem Qnp (l:List AV):itemsOf (.tup l)=some l:=rfl
theorem bind_one (k:Nat) (x:AV) (ρ:List AV):bindT [k] true x ρ=some (ρ.set k x):=rfl
theorem Qgi {f:AV->List AV->AH->OS} (P:Nat->List AV->AH->Prop):∀(l:List AV) (j:Nat),(∀i x,l[i]?=some x->∀ρ H,P (j+i) ρ H->∃fl ρ' H',f x ρ H=.ok fl ρ' H'∧(fl=.next∨fl=.cont)∧P (j+i+1) ρ' H') ->
  ∀ρ H,P j ρ H->∃ρ' H',loopS f l ρ H=.ok .next ρ' H'∧P (j+l.length) ρ' H'
 | [],j,_,ρ,H,p=>⟨ρ,H,rfl,p⟩
 | x::l,j,h,ρ,H,p=>by
  obtain⟨fl,ρ_1,H_1,e,hfl,p_1⟩:=h 0 x rfl ρ H p;obtain⟨ρ',H',e',p'⟩:=Qgi P l (j+1) (fun i y hy ρ H q=>by
   have:=h (i+1) y (by simpa using hy) ρ H (by rw[show j+(i+1)=j+1+i by omega]; exact q);rw[show j+(i+1)=j+1+i by omega] at this;exact this) ρ_1 H_1 p_1
  refine⟨ρ',H',?_,by rw[List.length_cons,show j+(l.length+1)=j+1+l.length by omega]; exact p'⟩;rw[loopS,e];rcases hfl with rfl | rfl<;>exact e'
theorem QjC {f:AV->List AV->AH->OS} {n:Nat} (P:Nat->List AV->AH->Prop) (h:∀i,i<n->∀ρ H,P i ρ H->∃fl ρ' H',f (.int i) ρ H=.ok fl ρ' H'∧(fl=.next∨fl=.cont)∧P (i+1) ρ' H') {ρ:List AV} {H:AH} (p:P 0 ρ H) :
  ∃ρ' H',loopS f ((List.range n).map fun (i:Nat)=>AV.int (i:Int)) ρ H=.ok .next ρ' H'∧P n ρ' H':=by
 have:=Qgi (f:=f) P ((List.range n).map fun (i:Nat)=>AV.int (i:Int)) 0 (fun i x hx ρ H q=>by
  rw[List.getElem?_map] at hx;obtain⟨y,hy,rfl⟩:=Option.map_eq_some_iff.mp hx;obtain⟨hi,rfl⟩:=List.getElem?_eq_some_iff.mp hy;rw[Nat.zero_add] at q ⊢;rw[List.getElem_range];exact h i (by simpa using hi) ρ H q) ρ H p
 simpa using this
theorem QaE {C:Orc} {k:Nat} {b:List PS} {n:Nat} (P:Nat->List AV->AH->Prop) (h:∀i,i<n->∀ρ H,P i ρ H->∃fl ρ' H',evSs C b (ρ.set k (.int i)) H=.ok fl ρ' H'∧(fl=.next∨fl=.cont)∧P (i+1) ρ' H') {ρ:List AV} {H:AH} (p:P 0 ρ H) :
  ∃ρ' H',forL C [k] true b ((List.range n).map fun (i:Nat)=>AV.int (i:Int)) ρ H=.ok .next ρ' H'∧P n ρ' H':=by
 rw[Qcc];exact QjC P (fun i hi ρ H p=>h i hi ρ H p) p
theorem QcX {f:AV->List AV->AH->Out (List AV)} {g:AV->List AV} {H:AH} {M:Nat}:∀(l:List AV),(∀x∈l,∀acc:List AV,acc.length+(g x).length≤M->f x acc H=.ok (acc++g x) H)->∀acc:List AV,acc.length+(l.flatMap g).length≤M->loopO f l acc H=.ok (acc++l.flatMap g) H
 | [],_,acc,_=>by simp[loopO]
 | x::l,h,acc,hl=>by
  rw[List.flatMap_cons,List.length_append] at hl;rw[loopO,h x (.head _) acc (by omega)];dsimp only;rw[QcX l (fun y hy=>h y (.tail _ hy)) _ (by rw[List.length_append]; omega)];simp
theorem QdV {α β:Type} (g:α->β):∀l:List α,(l.flatMap fun x=>[g x])=l.map g
 | []=>rfl
 | x::l=>by rw[List.flatMap_cons,QdV g l]; rfl
section
variable {C:Orc} {ρ:List AV} {H:AH}
theorem QoA (k:List AV->AH->Out AV) (acc:List AV):evG C k [] ρ acc H=(k ρ H).bind fun v H=>if acc.length≤100000 then .ok (acc++[v]) H else .stuck:=by rw[evG]
theorem QiW (k:List AV->AH->Out AV) (t:List Nat) (one:Bool) (it:PE) (ifs:List PE) (gs:List PG) (acc:List AV):evG C k (.mk t one it ifs::gs) ρ acc H=(evE C ρ it H).bind fun v H=>match itemsOf v with
  | some l=>loopO (fun x acc H=>match bindT t one x ρ with
   | some ρ'=>(evIfs C ρ' ifs H).bind fun b H=>if b=true then evG C k gs ρ' acc H else .ok acc H
   | none=>.stuck) l acc H
  | none=>.stuck:=by rw[evG]; first | done | rfl
theorem QiX:evIfs C ρ [] H=.ok true H:=by rw[evIfs]
theorem QoB (e:PE) (l:List PE):evIfs C ρ (e::l) H=(evE C ρ e H).bind fun v H=>match pTruth v with
  | some true=>evIfs C ρ l H
  | some false=>.ok false H
  | none=>.stuck:=by rw[evIfs]; first | done | rfl
theorem Qah {pe it:PE} {t:List Nat} {one mu:Bool} {v:AV} {l:List AV} {g:AV->AV} (hit:evE C ρ it H=.ok v H) (hl:itemsOf v=some l) (hlen:l.length≤90000) (hc:clrOk [.mk t one it []] ρ=true)
  (h:∀x∈l,∃ρ',bindT t one x ρ=some ρ'∧evE C ρ' pe H=.ok (g x) H):evE C ρ (.comp pe [.mk t one it []] mu) H=newC H mu (l.map g):=by
 rw[Qkx,if_pos hc,QiW,hit];simp only[Out.bind_ok,hl];rw[QcX (g:=fun x=>[g x]) (M:=100000) l (fun x hx acc ha=>by
  obtain⟨ρ',e1,e2⟩:=h x hx;simp only[e1,QiX,Out.bind_ok,if_true,QoA,e2];rw[if_pos (by simp at ha; omega)]) [] (by rw[QdV]; simp; omega),QdV]
 rfl
theorem QcB {pe it te:PE} {t:List Nat} {one mu:Bool} {v:AV} {l:List AV} {g:AV->AV} {p:AV->Bool} (hit:evE C ρ it H=.ok v H) (hl:itemsOf v=some l) (hlen:l.length≤90000) (hc:clrOk [.mk t one it [te]] ρ=true)
  (h:∀x∈l,∃ρ',bindT t one x ρ=some ρ'∧evE C ρ' te H=.ok (.bool (p x)) H∧(p x=true->evE C ρ' pe H=.ok (g x) H)):evE C ρ (.comp pe [.mk t one it [te]] mu) H=newC H mu ((l.filter p).map g):=by
 have e:∀l:List AV,(l.flatMap fun x=>if p x=true then [g x] else [])=(l.filter p).map g:=fun l=>by
  induction l with
  | nil=>rfl
  | cons x l ih=>rw[List.flatMap_cons,ih,List.filter_cons]; cases p x<;>simp
 have hle:((l.filter p).map g).length≤l.length:=by rw[List.length_map]; exact List.length_filter_le _ _
 rw[Qkx,if_pos hc,QiW,hit];simp only[Out.bind_ok,hl];rw[QcX (g:=fun x=>if p x=true then [g x] else []) (M:=100000) l (fun x hx acc ha=>by
  obtain⟨ρ',e1,e2,e3⟩:=h x hx;simp only[e1,QoB,e2,Out.bind_ok];cases hp:p x with
  | false=>simp[pTruth]
  | true=>simp only[pTruth,QiX,Out.bind_ok,if_true,QoA,e3 hp]; rw[if_pos (by rw[hp] at ha; simp at ha; omega)]) [] (by rw[e]; simp only[List.length_nil]; omega),e]
 rfl
theorem Qgj {pe it it2:PE} {t t2:List Nat} {one one2 mu:Bool} {v:AV} {l:List AV} {m:AV->List AV} {g:AV->AV->AV} (hit:evE C ρ it H=.ok v H) (hl:itemsOf v=some l) (hlen:(l.flatMap fun x=>(m x).map (g x)).length≤90000) (hc:clrOk [.mk t one it [],.mk t2 one2 it2 []] ρ=true)
  (h:∀x∈l,∃ρ' v',bindT t one x ρ=some ρ'∧evE C ρ' it2 H=.ok v' H∧itemsOf v'=some (m x)∧∀y∈m x,∃ρ'',bindT t2 one2 y ρ'=some ρ''∧evE C ρ'' pe H=.ok (g x y) H) :
  evE C ρ (.comp pe [.mk t one it [],.mk t2 one2 it2 []] mu) H=newC H mu (l.flatMap fun x=>(m x).map (g x)):=by
 rw[Qkx,if_pos hc,QiW,hit];simp only[Out.bind_ok,hl];rw[QcX (g:=fun x=>(m x).map (g x)) (M:=90000) l (fun x hx acc ha=>by
  obtain⟨ρ',v',e1,e2,e3,e4⟩:=h x hx;simp only[e1,QiX,Out.bind_ok,if_true,QiW,e2,e3];rw[QcX (g:=fun y=>[g x y]) (M:=90000) (m x) (fun y hy acc' ha'=>by
   obtain⟨ρ'',q1,q2⟩:=e4 y hy;simp only[q1,QiX,Out.bind_ok,if_true,QoA,q2];rw[if_pos (by simp at ha'; omega)]) acc (by rw[QdV]; exact ha),QdV]) [] (by simpa using hlen)]
 rfl
end
theorem QkG:attrC 299 "kind"=true:=rfl
theorem QiY:attrC 299 "items"=true:=rfl
theorem QiZ:attrC 299 "attrs"=true:=rfl
theorem Qhi:attrC 299 "shared"=true:=rfl
theorem Qi0:attrC 299 "loose"=true:=rfl
theorem Qi1:attrC 270 "kind"=true:=rfl
theorem Qhj:attrC 270 "attrs"=true:=rfl
theorem Qq4:attrC 110 "formals"=true:=rfl
theorem Qq5:attrC 110 "tags"=true:=rfl
theorem Qq6:attrC 110 "used"=true:=rfl
theorem Qq7:attrC 110 "places"=true:=rfl
theorem Qi2 {α:Type} (l:List α) (a:α):(l++[a])[l.length]?=some a:=by simp
theorem Qi3 {α:Type} (l:List α) (a b:α):(l++[a]).set l.length b=l++[b]:=by simp
abbrev VK:List String:=["kind","items","attrs","shared","loose"]
abbrev vec (k:String) (l:List AV) (t:AV):AV:=.obj 299 VK [.str k,.lst l,t,.bool false,.bool false]
abbrev vecC (k:String) (l:List AV) (t:AV):AC:=.obj 299 VK [.str k,.lst l,t,.bool false,.bool false]
abbrev dimA (r c:Nat):AV:=.dct ["dim"] [vec "integer" [.int r,.int c] .none]
abbrev I (i:Int):AV:=.int i
abbrev qr (q:Rat):AV:=.tup [.int q.num,.int q.den]
def qo:Option Rat->AV
 | none=>.none
 | some q=>qr q
theorem Qnq (x:Option Rat):setAV (qo x)=true:=by cases x<;>rfl
theorem QbW (x:Option Rat):(qo x).nc=true:=by cases x<;>rfl
end
abbrev uS:AV:=.unset
theorem Qmg:TT 67=some (false,Qf9):=by kernel_rfl
theorem QoC:TT 74=some (false,Qcs):=by kernel_rfl
theorem QkH:TT 81=some (false,Qbf):=by kernel_rfl
theorem Qhk:TT 88=some (false,QaB):=by kernel_rfl
theorem Qhl:TT 95=some (false,QaC):=by kernel_rfl
theorem QkI:TT 102=some (false,Qbg):=by kernel_rfl
theorem Qq8:TT 107=some (false,QdN):=by kernel_rfl
theorem Qa2:TT 139=some (true,QaD):=by kernel_rfl
theorem Qmh:TT 146=some (true,Qga):=by kernel_rfl
theorem QfD:TT 152=some (true,Qel):=by kernel_rfl
theorem T_gcd:TT 162=some (true,Qon):=by kernel_rfl
theorem Qq9:TT 169=some (true,Qki):=by kernel_rfl
theorem QjD:TT 176=some (true,Qd6):=by kernel_rfl
theorem QoD:TT 183=some (true,QhV):=by kernel_rfl
theorem Qh0:TT 190=some (true,Qdp):=by kernel_rfl
theorem Qmi:TT 197=some (true,Qgb):=by kernel_rfl
theorem T_neg:TT 204=some (true,Qoo):=by kernel_rfl
theorem T_add:TT 211=some (true,Qop):=by kernel_rfl
theorem T_sub:TT 218=some (true,Qoq):=by kernel_rfl
theorem T_mul:TT 225=some (true,Qor):=by kernel_rfl
theorem T_div:TT 232=some (true,Qos):=by kernel_rfl
theorem QjE:TT 239=some (true,Qd7):=by kernel_rfl
theorem QkJ:TT 267=some (false,QeO):=by kernel_rfl
theorem QkK:TT 289=some (false,QeP):=by kernel_rfl
theorem Qra:TT 310=some (true,Qkj):=by kernel_rfl
theorem Qrb:TT 317=some (true,Qkk):=by kernel_rfl
theorem QkL:TT 324=some (true,QeQ):=by kernel_rfl
theorem QoE:TT 338=some (true,QhW):=by kernel_rfl
theorem Qmj:TT 345=some (true,Qgc):=by kernel_rfl
theorem Qh1:TT 352=some (true,Qdq):=by kernel_rfl
theorem Qbm:TT 375=some (true,QaN):=by kernel_rfl
theorem Qmk:TT 380=some (false,Qgd):=by kernel_rfl
theorem Qml:TT 385=some (true,Qge):=by kernel_rfl
theorem QcY:TT 392=some (true,Qbh):=by kernel_rfl
theorem Qfi:TT 399=some (false,Qb7):=by kernel_rfl
theorem Qfj:TT 406=some (false,Qb8):=by kernel_rfl
theorem Qgk:TT 413=some (true,Qct):=by kernel_rfl
theorem Qfk:TT 420=some (true,Qb9):=by kernel_rfl
theorem Qeb:TT 427=some (true,Qbo):=by kernel_rfl
theorem Qem:TT 432=some (true,QbY):=by kernel_rfl
theorem Qhm:TT 439=some (true,QdO):=by kernel_rfl
theorem QdW:TT 446=some (true,Qbi):=by kernel_rfl
theorem Qh2:TT 451=some (false,Qdr):=by kernel_rfl
theorem Qba:TT 458=some (false,Qat):=by kernel_rfl
theorem QcC:TT 465=some (true,Qbj):=by kernel_rfl
theorem Qec:TT 472=some (true,Qci):=by kernel_rfl
theorem QfE:TT 477=some (true,Qda):=by kernel_rfl
theorem Qi4:TT 484=some (true,Qey):=by kernel_rfl
theorem Qh3:TT 663=some (true,Qds):=by kernel_rfl
theorem QkM:TT 677=some (true,QeR):=by kernel_rfl
theorem Qet:TT 684=some (true,QbG):=by kernel_rfl
theorem Qhn:TT 710=some (true,QcP):=by kernel_rfl
theorem Qho:TT 715=some (true,QdP):=by kernel_rfl
theorem Qnr:TT 723=some (true,QiP):=by kernel_rfl
theorem QeW:TT 730=some (true,Qcu):=by kernel_rfl
theorem QfF:TT 737=some (true,Qdb):=by kernel_rfl
theorem Qen:TT 744=some (true,QbZ):=by kernel_rfl
theorem Qmm:TT 751=some (true,QdQ):=by kernel_rfl
theorem QeX:TT 756=some (true,QbS):=by kernel_rfl
theorem Qh4:TT 763=some (true,Qdt):=by kernel_rfl
theorem Qhp:TT 770=some (true,QcQ):=by kernel_rfl
theorem Qh5:TT 777=some (true,Qdu):=by kernel_rfl
theorem Qhq:TT 784=some (true,QcR):=by kernel_rfl
theorem QcJ:TT 791=some (true,Qa7):=by kernel_rfl
theorem Qhr:TT 798=some (true,QdR):=by kernel_rfl
theorem Qh6:TT 805=some (true,Qdv):=by kernel_rfl
theorem QkN:TT 812=some (true,Qgg):=by kernel_rfl
theorem Qhs:TT 819=some (true,QdS):=by kernel_rfl
theorem QeY:TT 826=some (true,Qcv):=by kernel_rfl
theorem Qbr:TT 833=some (true,QaO):=by kernel_rfl
theorem QeZ:TT 838=some (true,QbT):=by kernel_rfl
theorem Qgl:TT 845=some (true,Qcw):=by kernel_rfl
theorem Qfl:TT 852=some (true,Qca):=by kernel_rfl
theorem Qcj:TT 857=some (true,QbA):=by kernel_rfl
theorem QoF:TT 864=some (true,QhX):=by kernel_rfl
theorem QkO:TT 870=some (true,QeS):=by kernel_rfl
theorem Qgm:TT 877=some (true,Qcx):=by kernel_rfl
theorem Qh7:TT 884=some (true,Qdw):=by kernel_rfl
theorem Qh8:TT 891=some (true,Qdx):=by kernel_rfl
theorem QjF:TT 898=some (true,Qd8):=by kernel_rfl
theorem Qfm:TT 905=some (true,Qcb):=by kernel_rfl
theorem Qdg:TT 912=some (true,Qbw):=by kernel_rfl
theorem QcZ:TT 919=some (true,QbB):=by kernel_rfl
theorem Qi5:TT 926=some (true,Qez):=by kernel_rfl
theorem Qi6:TT 933=some (true,QeA):=by kernel_rfl
theorem Qeo:TT 940=some (true,Qb0):=by kernel_rfl
theorem Qc0:TT 947=some (true,Qbk):=by kernel_rfl
theorem Qgn:TT 954=some (true,Qcy):=by kernel_rfl
theorem QcD:TT 961=some (true,Qbl):=by kernel_rfl
theorem Qdh:TT 968=some (true,Qbx):=by kernel_rfl
theorem Qgo:TT 975=some (true,Qcz):=by kernel_rfl
theorem Qe0:TT 982=some (true,QbU):=by kernel_rfl
theorem Qgp:TT 989=some (true,QdT):=by kernel_rfl
theorem QbL:TT 996=some (true,QaG):=by kernel_rfl
theorem QkP:TT 1003=some (true,QeT):=by kernel_rfl
theorem QkQ:TT 1010=some (true,QeU):=by kernel_rfl
theorem Qeu:TT 1017=some (true,QbH):=by kernel_rfl
theorem QoG:TT 1024=some (true,QhY):=by kernel_rfl
theorem QoH:TT 1031=some (true,QhZ):=by kernel_rfl
theorem Qck:TT 1038=some (false,Qbp):=by kernel_rfl
theorem QjG:TT 1045=some (false,Qd9):=by kernel_rfl
theorem Qht:TT 1050=some (true,QcS):=by kernel_rfl
theorem Qh9:TT 1055=some (true,Qdy):=by kernel_rfl
theorem Qia:TT 1062=some (true,Qdz):=by kernel_rfl
theorem QkR:TT 1069=some (true,QeV):=by kernel_rfl
theorem Qhu:TT 1074=some (true,QcT):=by kernel_rfl
theorem Qgq:TT 1079=some (true,QcA):=by kernel_rfl
theorem Qb1:TT 1084=some (true,Qbd):=by kernel_rfl
theorem QjH:TT 1089=some (true,Qea):=by kernel_rfl
theorem Qhv:TT 1096=some (true,QcU):=by kernel_rfl
theorem QdB:TT 1101=some (true,Qa9):=by kernel_rfl
theorem Qed:TT 1106=some (true,Qbq):=by kernel_rfl
theorem QaH:TT 1111=some (true,Qaw):=by kernel_rfl
theorem T_law:TT 1116=some (true,Qfg):=by kernel_rfl
theorem U_0:UU 0=some (⟨2,[],2,[.ret (.bin .add (.loc 0) (.int 1))]⟩:FD):=by kernel_rfl
theorem U_1:UU 1=some (⟨2,[],2,[.ret (.bin .add (.loc 1) (.int 1))]⟩:FD):=by kernel_rfl
theorem U_2:UU 2=some (⟨2,[],2,[.ret (.ife (.cmp .gt (.loc 1) (.loc 0)) (.int 1) (.int 0))]⟩:FD):=by kernel_rfl
theorem U_3:UU 3=some (⟨2,[],2,[.ret (.ife (.cmp .lt (.loc 1) (.loc 0)) (.int 1) (.int 0))]⟩:FD):=by kernel_rfl
theorem U_4:UU 4=some (⟨2,[],2,[.ret (.ife (.cmp .ge (.loc 1) (.loc 0)) (.int 1) (.int 0))]⟩:FD):=by kernel_rfl
theorem U_5:UU 5=some (⟨2,[],2,[.ret (.ife (.cmp .le (.loc 1) (.loc 0)) (.int 1) (.int 0))]⟩:FD):=by kernel_rfl
section
local macro_rules | `(tactic| w_fin)=>`(tactic| simp only[binK,binS,cmpK,cmpS,subK,subS,ifeS,andS,orS,consK,consS,callS,seqS,iteS,asgS,retS,Qoy,forS,forK,Qks,Qkr,Qq1,Qq2,Qq3,Qno,Qnp,QaP,Qfh,Qqu,Qqv,Qmf,QjA,Qkt,Qow,Qqw,Qqx,e_nt,Qqy,e_or,QkB,QiV,Qnf,QkC,Qqz,Qkv,Qku,QqA,Qm4,Qm5,Qm6,QqB,QqC,QqD,QqE,QiT,Qkw,Qm7,QiU,QqF,QqG,QqH,Qm8,QqI,QqJ,Qox,QqK,QqL,Qm9,QqM,QqN,QqO,QqP,Qna,QqQ,Qky,Qnb,Qkz,Qgh,QqR,QqS,Qnc,Qnd,QqT,Qne,QkA,evT,c_eq,c_ne,c_lt,c_le,c_gt,c_ge,c_is,QkD,QqU,QqV,QqW,Qng,QqX,Qnh,QqY,Qni,Qi2,Qi3,Int.natAbs_natCast,Int.natAbs_one,Nat.reduceLT,Int.cast_ofNat_Int,Int.reduceToNat,Int.reduceLE,Int.natCast_nonneg,Int.toNat_natCast,Int.reduceAbs,Int.reduceAdd,Int.natCast_one,Int.natCast_zero,List.set_nil,List.getElem?_nil,Int.reduceNeg,Int.zero_le_ofNat,Option.getD_some,Option.getD_none,↓reduceIte,String.reduceEq,or_self,or_false,false_or,or_true,true_or,not_true_eq_false,not_false_eq_true,decide_not,List.mem_cons,List.not_mem_nil,Int.reduceLT,Nat.reduceLeDiff,Nat.reduceAdd,and_false,false_and,setAttr,Bool.or_false,Bool.or_true,Int.reduceEq,Int.reduceGT,Nat.reduceEqDiff,List.nodup_cons,List.nodup_nil,List.cons_ne_self,AV.isFn,Qnj,Qnk,Qnl,Qoz,pTruth,QqZ,Qq0,Qnm,AV.isNone,seqOf,lstOf,objOf,dctOf,keyAt,callV,AV.isFn,OS.out_ret,OS.out_next,OS.out_exc,OS.bind_ok,OS.bind_exc,OS.bind_stuck,Out.st_ok,Out.st_exc,Out.bind_ok,Out.bind_exc,Out.ofOpt_some,newC,QiQ,set_bool,set_int,set_str,Qkm,Qkn,Qko,Qkp,QiR,QiS,Qkq,Qnq,pFrz,AV.ncs,AV.nc,setAttr,setSub,QaJ,QkG,QiY,QiZ,Qhi,Qi0,Qi1,Qhj,Qq4,Qq5,Qq6,Qq7,
 List.getElem?_cons_zero,List.getElem?_cons_succ,List.set_cons_zero,List.set_cons_succ,List.length_cons,List.length_nil,List.replicate_succ,List.replicate_zero,List.cons_append,List.nil_append,List.append_nil,List.drop_zero,List.drop_succ_cons,List.drop_nil,Option.map_some,Option.map_none,Option.isNone_none,Option.isNone_some,decide_true,decide_false,Bool.not_true,Bool.not_false,Bool.true_and,Bool.and_true,Bool.false_and,Bool.and_false,if_true,if_false,Bool.false_eq_true,reduceCtorEq,Nat.le_refl,and_self,true_and,and_true,Nat.zero_add,Nat.add_zero, *])
section
set_option exponentiation.threshold 10000
theorem Qmn {C:Orc}:∀(b a:Nat) (H:AH),QaI b->∃n,whileN (fun ρ H=>evT C ρ (.cmp .gt D1 (.int 0)) H) (fun ρ H=>evSs C B4 ρ H) n [I a,I b] H=.ok .next [I (Nat.gcd b a),I 0] H:=by
 intro b
 induction b using Nat.strongRecOn with
 | ind b ih =>
  intro a H hb;by_cases h0:b=0
  ·subst h0
   refine⟨1,?_⟩;unfold whileN;w_fin;simp
  ·have hlt:a % b<b:=Nat.mod_lt _ (Nat.pos_of_ne_zero h0)
   obtain⟨n,hn⟩:=ih (a % b) hlt b H (Nat.lt_trans (show ((a % b:Nat):Int).natAbs<(b:Int).natAbs by rw[Int.natAbs_natCast,Int.natAbs_natCast]; exact hlt) hb)
   refine⟨n+1,?_⟩;have hp:decide ((b:Int)>0)=true:=by simp; omega
   have hm:Int.fmod (a:Int) (b:Int)=((a % b:Nat):Int):=by rw[Int.fmod_eq_emod_of_nonneg _ (by omega)]; rfl
   have hbz:(b:Int)≠0:=by omega
   have hmod:=Qes (a:=a) hbz hb;have hg:Nat.gcd (a % b) b=Nat.gcd b a:=by rw[Nat.gcd_rec b a]
   rw[hm] at hmod;rw[←hg,←hn]
   conv=>lhs; unfold whileN
   clear ih hn;w_fin
theorem Qrc {N:Nat} (hN:1≤N) (a b:Nat) (hb:QaI b) (H:AH):(RN N).f 162 [I a,I b] H=.ok (I (Nat.gcd a b)) H:=by
 obtain⟨k,hk⟩:=Qmn (C:=RN (N-1)) b a [] hb;refine Qaa T_gcd hN (ρ:=[I a,I b]) rfl rfl (H':=[]) ?_ rfl H;have:=QbM hk nofun;rw[Nat.gcd_comm];clear hk;simp only[Qon,Qgh];rw[QdU,this];w_fin
theorem Qns {a:Int} {k:Nat} (h:a.natAbs<2 ^ k) (hk:k≤bigE):QaI a:=Nat.lt_of_lt_of_le h (Nat.pow_le_pow_right (by decide) hk)
theorem Qib (x:Int) (d:Nat) (hd:d≠0):qr (Rat.divInt x d)=.tup [.int (x.fdiv (Nat.gcd x.natAbs d:Nat)),.int ((d:Int).fdiv (Nat.gcd x.natAbs d:Nat))]:=by
 have e1:=Rat.num_divInt x d;have e2:=Rat.den_divInt x d;have hs:Int.sign (d:Int)=1:=Int.sign_eq_one_of_pos (by omega);have hg:Int.gcd (d:Int) x=Nat.gcd x.natAbs d:=by rw[Int.gcd,Int.natAbs_natCast,Nat.gcd_comm]
 rw[hs,Int.one_mul,hg] at e1;rw[if_neg (by omega),hg,Int.natAbs_natCast] at e2;rw[Int.fdiv_eq_ediv_of_nonneg _ (by omega),Int.fdiv_eq_ediv_of_nonneg _ (by omega),qr,e1,e2];rfl
theorem Qgr (x y:Int):Rat.divInt (0-x) (0-y)=Rat.divInt x y:=by
 apply Rat.ext
 ·rw[Rat.num_divInt,Rat.num_divInt]
  have:Int.gcd (0-y) (0-x)=Int.gcd y x:=by simp[Int.gcd]
  rw[this];congr 1;rw[Int.zero_sub,Int.zero_sub,Int.sign_neg,Int.neg_mul_neg]
 ·rw[Rat.den_divInt,Rat.den_divInt]
  have:Int.gcd (0-y) (0-x)=Int.gcd y x:=by simp[Int.gcd]
  rw[this];simp
theorem Qi7 {N:Nat} (hN:2≤N) (x y:Int) (hy:y≠0) (hb:QaI y) (H:AH):(RN N).f 169 [I x,I y] H=.ok (qr (Rat.divInt x y)) H:=by
 refine Qaa Qq9 (by omega) (ρ:=[I x,I y,uS]) rfl rfl (H':=[]) ?_ rfl H;have h0:decide (y=0)=false:=by simp[hy]
 have hgz:∀(a d:Nat),d≠0->((Nat.gcd a d:Nat):Int)≠0:=fun a d hd q=>hd ((Nat.gcd_eq_zero_iff.mp (Int.natCast_eq_zero.mp q)).2)
 have hgb:∀(a d:Nat),d≠0->QaI (d:Int)->QaI ((Nat.gcd a d:Nat):Int):=fun a d hd h=>by
  have:=Nat.le_of_dvd (Nat.pos_of_ne_zero hd) (Nat.gcd_dvd_right a d);exact Nat.lt_of_le_of_lt (by rw[Int.natAbs_natCast,Int.natAbs_natCast]; exact this) h
 simp only[Qki];by_cases hn:y<0
 ·obtain⟨d,hd⟩:∃d:Nat,0-y=d:=⟨y.natAbs,by omega⟩
  have hd0:d≠0:=by omega
  have hbd:QaI (d:Int):=by rw[←hd]; simpa[QaI] using hb
  have h1:decide (y<0)=true:=by simp[hn]
  have g:=Qrc (N:=N-1) (by omega) (0-x).natAbs d hbd [];have d1:=QcW (a:=0-x) (hgz (0-x).natAbs d hd0) (hgb _ _ hd0 hbd);have d2:=QcW (a:=(d:Int)) (hgz (0-x).natAbs d hd0) (hgb _ _ hd0 hbd);rw[←Qgr,hd,Qib _ _ hd0];clear hgz hgb;w_fin
 ·obtain⟨d,rfl⟩:∃d:Nat,y=d:=⟨y.natAbs,by omega⟩
  have hd0:d≠0:=by omega
  have h1:decide ((d:Int)<0)=false:=by simp
  have g:=Qrc (N:=N-1) (by omega) x.natAbs d hb [];have d1:=QcW (a:=x) (hgz x.natAbs d hd0) (hgb _ _ hd0 hb);have d2:=QcW (a:=(d:Int)) (hgz x.natAbs d hd0) (hgb _ _ hd0 hb);rw[Qib _ _ hd0];clear hgz hgb;w_fin
def hq (k:Nat) (q:Rat):Prop:=q.num.natAbs<2 ^ k∧q.den<2 ^ k
theorem hq.mono {k m:Nat} {q:Rat} (h:hq k q) (hk:k≤m):hq m q:=⟨Nat.lt_of_lt_of_le h.1 (Nat.pow_le_pow_right (by decide) hk),Nat.lt_of_lt_of_le h.2 (Nat.pow_le_pow_right (by decide) hk)⟩
theorem hq.num {q:Rat} (h:hq 2000 q):QaI q.num:=Qns h.1 (by decide)
theorem hq.den {q:Rat} (h:hq 2000 q):QaI (q.den:Int):=Qns (a:=(q.den:Int)) (by rw[Int.natAbs_natCast]; exact h.2) (by decide)
theorem hq.dd {p q:Rat} (hp:hq 2000 p) (h:hq 2000 q):QaI ((p.den:Int)*(q.den:Int)):=by
 have:=Nat.mul_lt_mul'' hp.2 h.2;rw[←Nat.pow_add] at this;show ((p.den:Int)*(q.den:Int)).natAbs<_;rw[Int.natAbs_mul,Int.natAbs_natCast,Int.natAbs_natCast];exact this
def ho (k:Nat) (x:Option Rat):Prop:=∀q,x=some q->hq k q
theorem den0 (q:Rat):(q.den:Int)≠0:=by have:=q.den_nz; omega
theorem Qgs (q:Rat):decide ((q.den:Int)=0)=false:=by simp[q.den_nz]
theorem Qic {N:Nat} (hN:1≤N) (x:Option Rat) (H:AH):(RN N).f 183 [qo x] H=.ok (.bool x.isNone) H:=by
 refine Qaa QoD hN (ρ:=[qo x]) rfl (by simp[AV.ncs,QbW]) (H':=[]) ?_ rfl H;simp only[QhV];cases x with
 | none=>unfold qo; w_fin
 | some q =>
  have h:=Qgs q;unfold qo qr;cases h0:decide (q.num=0)<;>w_fin
theorem QcE {N:Nat} (hN:1≤N) (q:Rat) (H:AH):(RN N).f 183 [.tup [.int q.num,.int q.den]] H=.ok (.bool false) H:=Qic hN (some q) H
theorem Qi8 {N:Nat} (hN:1≤N) (x y:Option Rat) (hxy:(x.isNone||y.isNone)=true) (H:AH):(RN N).f 197 [qo x,qo y] H=.ok .none H:=by
 refine Qaa Qmi hN (ρ:=[qo x,qo y]) rfl (by simp[AV.ncs,QbW]) (H':=[]) ?_ rfl H;simp only[Qgb];cases x with
 | none=>unfold qo; w_fin
 | some q=>cases y with
  | none=>unfold qo; w_fin
  | some r=>cases hxy
def omul:Option Rat->Option Rat->Option Rat
 | some a,some b=>some (a*b)
 | _,_=>none
def oadd:Option Rat->Option Rat->Option Rat
 | some a,some b=>some (a+b)
 | _,_=>none
theorem Qax (q:Rat):Rat.divInt q.num q.den=q:=Rat.num_divInt_den q
theorem Qmo {N:Nat} (hN:3≤N) (x y:Option Rat) (hx:ho 2000 x) (hy:ho 2000 y) (H:AH):(RN N).f 225 [qo x,qo y] H=.ok (qo (omul x y)) H:=by
 refine Qaa T_mul (by omega) (ρ:=[qo x,qo y]) rfl (by simp[AV.ncs,QbW]) (H':=[]) ?_ (QbW _) H;have n1:=fun (z:Option Rat)=>Qic (N:=N-1) (by omega) z []
 have n2:=fun (h:(x.isNone||y.isNone)=true)=>Qi8 (N:=N-1) (by omega) x y h []
 simp only[Qor];cases x with
 | none=>have n2:=n2 rfl; w_fin; rfl
 | some q=>cases y with
  | none=>have n2:=n2 rfl; w_fin; rfl
  | some r =>
   clear n2 n1;have n1:=QcE (N:=N-1) (by omega) q [];have n2:=QcE (N:=N-1) (by omega) r [];have hq':=hx q rfl;have hr':=hy r rfl;have m1:=Qae hq'.num hr'.num;have m2:=Qae hq'.den hr'.den;have mk:=Qi7 (N:=N-1) (by omega) (q.num*r.num) (q.den*r.den) (Int.mul_ne_zero (den0 q) (den0 r)) (hq'.dd hr') [];rw[←Rat.divInt_mul_divInt,Qax,Qax] at mk;unfold qo qr omul;clear hx hy hq' hr';w_fin
theorem Qrd {N:Nat} (hN:3≤N) (x y:Option Rat) (hx:ho 2000 x) (hy:ho 2000 y) (H:AH):(RN N).f 211 [qo x,qo y] H=.ok (qo (oadd x y)) H:=by
 refine Qaa T_add (by omega) (ρ:=[qo x,qo y]) rfl (by simp[AV.ncs,QbW]) (H':=[]) ?_ (QbW _) H;have n1:=fun (z:Option Rat)=>Qic (N:=N-1) (by omega) z []
 have n2:=fun (h:(x.isNone||y.isNone)=true)=>Qi8 (N:=N-1) (by omega) x y h []
 simp only[Qop];cases x with
 | none=>have n2:=n2 rfl; w_fin; rfl
 | some q=>cases y with
  | none=>have n2:=n2 rfl; w_fin; rfl
  | some r =>
   clear n2 n1;have n1:=QcE (N:=N-1) (by omega) q [];have n2:=QcE (N:=N-1) (by omega) r [];have hq':=hx q rfl;have hr':=hy r rfl;have d1:=Qgs q;have d2:=Qgs r;have m1:=Qae hq'.num hr'.den;have m2:=Qae hr'.num hq'.den;have m3:=Qae hq'.den hr'.den;have m4:=QdA (q.num*r.den) (r.num*q.den);have mk:=Qi7 (N:=N-1) (by omega) (q.num*r.den+r.num*q.den) (q.den*r.den) (Int.mul_ne_zero (den0 q) (den0 r)) (hq'.dd hr') [];rw[←Rat.divInt_add_divInt _ _ (den0 q) (den0 r),Qax,Qax] at mk;unfold qo qr oadd;clear hx hy hq' hr';w_fin
theorem R_neg {N:Nat} (hN:1≤N) (q:Rat) (H:AH):(RN N).f 204 [qr q] H=.ok (qr (-q)) H:=by
 refine Qaa T_neg hN (ρ:=[qr q]) rfl rfl (H':=[]) ?_ rfl H;simp only[Qoo];have e:(-q).num=0-q.num:=by rw[Rat.neg_num]; omega
 have e2:(-q).den=q.den:=Rat.neg_den q;unfold qr;w_fin
theorem R_sub {N:Nat} (hN:4≤N) (p q:Rat) (hp:hq 2000 p) (hr:hq 2000 q) (H:AH):(RN N).f 218 [qr p,qr q] H=.ok (qr (p-q)) H:=by
 refine Qaa T_sub (by omega) (ρ:=[qr p,qr q]) rfl rfl (H':=[]) ?_ rfl H;have e:=R_neg (N:=N-1) (by omega) q [];have hn:hq 2000 (-q):=⟨by rw[Rat.neg_num,Int.natAbs_neg]; exact hr.1,by rw[Rat.neg_den]; exact hr.2⟩;have a:=Qrd (N:=N-1) (by omega) (some p) (some (-q)) (fun _ h=>by cases h; exact hp) (fun _ h=>by cases h; exact hn) [];simp only[qo,oadd,←Rat.sub_eq_add_neg] at a;simp only[Qoq];clear hp hr hn;w_fin
theorem Qre {N:Nat} (hN:3≤N) (p:Rat) (h0:p≠0) (hp:hq 2000 p) (H:AH):(RN N).f 232 [.tup [.int 1,.int 1],qr p] H=.ok (qr p⁻¹) H:=by
 refine Qaa T_div (by omega) (ρ:=[.tup [.int 1,.int 1],qr p]) rfl rfl (H':=[]) ?_ rfl H;have n1:(RN (N-1)).f 183 [.tup [.int 1,.int 1]] []=.ok (.bool false) []:=QcE (N:=N-1) (by omega) 1 [];have n2:=QcE (N:=N-1) (by omega) p [];have d2:=Qgs p;have hn:p.num≠0:=fun q=>h0 (Rat.num_eq_zero.mp q)
 have b1:QaI 1:=Qaf (by decide);have m1:=Qae b1 hp.den;have m2:=Qae b1 hp.num;have mk:=Qi7 (N:=N-1) (by omega) (1*p.den) (1*p.num) (by simpa using hn) (by simpa using hp.num) [];have e:Rat.divInt (1*p.den) (1*p.num)=p⁻¹:=by rw[Int.one_mul,Int.one_mul,Rat.inv_def]
 rw[e] at mk;have c1:decide ((1:Int)=0)=false:=rfl;simp only[Qos];clear hp hn h0 e b1;unfold qr;w_fin
theorem QdC {N:Nat} (hN:1≤N) (q:Rat) (H:AH):(RN N).f 190 [qr q] H=.ok (.bool true) H:=by
 refine Qaa Qh0 hN (ρ:=[qr q]) rfl rfl (H':=[]) ?_ rfl H;have h:decide ((q.den:Int)>0)=true:=by simp; have:=q.den_nz; omega
 simp only[Qdp];unfold qr;w_fin
theorem QjI {N:Nat} (hN:1≤N) (i:Int) (H:AH):(RN N).f 176 [.int i] H=.ok (.tup [.int i,.int 1]) H:=by
 refine Qaa QjD hN (ρ:=[.int i]) rfl rfl (H':=[]) ?_ rfl H;simp only[Qd6];w_fin
end
theorem QaX {N:Nat} (hN:1≤N) (k:String) (l:List AV) (H:AH):(RN N).f 289 [.cell H.length,.str k,.lst l] (H++[.obj 299 [] []])=.ok .none (H++[vecC k l .none]):=by
 refine QbC QkK hN (ρ:=[.cell H.length,.str k,.lst l,.none]) rfl ?_;simp only[QeP];w_fin
theorem QoI {N:Nat} (hN:1≤N) (H:AH):(RN N).f 267 [.cell H.length] (H++[.obj 270 [] []])=.ok .none (H++[.obj 270 ["kind","attrs"] [.str "NULL",.none]]):=by
 refine QbC QkJ hN (ρ:=[.cell H.length]) rfl ?_;simp only[QeO];w_fin
theorem QkS {N:Nat} (hN:1≤N) (n:Nat) (h:n≤1000000) (H:AH):(RN N).f 310 [.int n] H=.ok (.int n) H:=by
 refine Qaa Qra hN (ρ:=[.int n]) rfl rfl (H':=[]) ?_ rfl H;have h1:decide ((n:Int)>1000000)=false:=by simp; omega
 simp only[Qkj];w_fin
abbrev nullA:AV:=.obj 270 ["kind","attrs"] [.str "NULL",.none]
theorem Qrf {N:Nat} (hN:2≤N) (H:AH):(RN N).f 317 [] H=.ok nullA H:=by
 refine Qaa Qrb (by omega) (ρ:=[]) rfl rfl (H':=[.dead]) ?_ rfl H;have i:=QoI (N:=N-1) (by omega) [];simp only[List.length_nil,List.nil_append] at i;simp only[Qkk];w_fin
theorem QkT {N:Nat} (hN:2≤N) (l:List AV) (hl:AV.ncs l=true) (h:l.length≤100000) (H:AH):(RN N).f 324 [.lst l] H=.ok (vec "integer" l .none) H:=by
 refine Qaa QkL (by omega) (ρ:=[.lst l]) rfl (by simp[AV.ncs,AV.nc,hl]) (H':=[.dead]) ?_ (by simp[AV.nc,AV.ncs,hl]) H;have i:=QaX (N:=N-1) (by omega) "integer" l [];simp only[List.length_nil,List.nil_append] at i;simp only[QeQ];w_fin
theorem QkU {N:Nat} (hN:2≤N) (n:Int) (H:AH):(RN N).f 338 [.int n] H=.ok (vec "integer" [.int n] .none) H:=by
 refine Qaa QoE (by omega) (ρ:=[.int n]) rfl rfl (H':=[.dead]) ?_ rfl H;have i:=QaX (N:=N-1) (by omega) "integer" [.int n] [];simp only[List.length_nil,List.nil_append] at i;simp only[QhW];w_fin
theorem Qak {N:Nat} (hN:1≤N) (k:String) (l:List AV) (t:AV) (hl:AV.ncs l=true) (ht:t.nc=true) (H:AH):(RN N).f 352 [vec k l t] H=.ok (.bool true) H:=by
 refine Qaa Qh1 hN (ρ:=[vec k l t]) rfl (by simp[AV.ncs,AV.nc,hl,ht]) (H':=[]) ?_ rfl H;simp only[Qdq];w_fin
theorem QkV {N:Nat} (hN:1≤N) (k:String) (l:List AV) (hl:AV.ncs l=true) (H:AH):(RN N).f 723 [vec k l .none] H=.ok .none H:=by
 refine Qaa Qnr hN (ρ:=[vec k l .none]) rfl (by simp[AV.ncs,AV.nc,hl]) (H':=[]) ?_ rfl H;simp only[QiP];w_fin
theorem Qi9 {N:Nat} (hN:1≤N) (k:String) (l:List AV) (r c:Nat) (hl:AV.ncs l=true) (H:AH):(RN N).f 723 [vec k l (dimA r c)] H=.ok (.lst [.int r,.int c]) H:=by
 refine Qaa Qnr hN (ρ:=[vec k l (dimA r c)]) rfl (by simp[AV.ncs,AV.nc,hl]) (H':=[]) ?_ rfl H;simp only[QiP];w_fin
theorem QbD {N:Nat} (hN:2≤N) (k:String) (l:List AV) (hl:AV.ncs l=true) (H:AH):(RN N).f 730 [vec k l .none] H=.ok (.bool false) H:=by
 refine Qaa QeW (by omega) (ρ:=[vec k l .none,uS]) rfl (by simp[AV.ncs,AV.nc,hl]) (H':=[]) ?_ rfl H;have d:=QkV (N:=N-1) (by omega) k l hl [];simp only[Qcu];w_fin
theorem Qau {N:Nat} (hN:2≤N) (k:String) (l:List AV) (r c:Nat) (hl:AV.ncs l=true) (H:AH):(RN N).f 730 [vec k l (dimA r c)] H=.ok (.bool true) H:=by
 refine Qaa QeW (by omega) (ρ:=[vec k l (dimA r c),uS]) rfl (by simp[AV.ncs,AV.nc,hl]) (H':=[]) ?_ rfl H;have d:=Qi9 (N:=N-1) (by omega) k l r c hl [];have e:decide (((0+1+1:Nat):Int)=2)=true:=rfl;simp only[Qcu];w_fin
theorem QdD {N:Nat} (hN:3≤N) (k:String) (l:List AV) (hl:AV.ncs l=true) (hs:l.length≤1000000) (H:AH):(RN N).f 737 [vec k l .none] H=.ok (.tup [.int l.length,.int 1]) H:=by
 refine Qaa QfF (by omega) (ρ:=[vec k l .none]) rfl (by simp[AV.ncs,AV.nc,hl]) (H':=[]) ?_ rfl H;have d:=QbD (N:=N-1) (by omega) k l hl [];simp only[Qdb];w_fin
theorem Qao {N:Nat} (hN:3≤N) (k:String) (l:List AV) (r c:Nat) (hl:AV.ncs l=true) (H:AH):(RN N).f 737 [vec k l (dimA r c)] H=.ok (.tup [.int r,.int c]) H:=by
 refine Qaa QfF (by omega) (ρ:=[vec k l (dimA r c)]) rfl (by simp[AV.ncs,AV.nc,hl]) (H':=[]) ?_ rfl H;have d:=Qau (N:=N-1) (by omega) k l r c hl [];have d2:=Qi9 (N:=N-1) (by omega) k l r c hl [];simp only[Qdb];w_fin
theorem R_axis0 {N:Nat} (hN:1≤N) (k:String) (l:List AV) (i:Int) (hl:AV.ncs l=true) (H:AH):(RN N).f 744 [vec k l .none,.int i] H=.ok .none H:=by
 refine Qaa Qen hN (ρ:=[vec k l .none,.int i,uS]) rfl (by simp[AV.ncs,AV.nc,hl]) (H':=[]) ?_ rfl H;simp only[QbZ];w_fin
theorem Qe1 {N:Nat} (hN:1≤N) (k:String) (l:List AV) (r c:Nat) (i:Int) (hl:AV.ncs l=true) (H:AH):(RN N).f 744 [vec k l (dimA r c),.int i] H=.ok .none H:=by
 refine Qaa Qen hN (ρ:=[vec k l (dimA r c),.int i,uS]) rfl (by simp[AV.ncs,AV.nc,hl]) (H':=[]) ?_ rfl H;simp only[QbZ];w_fin
theorem QdE {N:Nat} (hN:1≤N) (k nm:String) (l:List AV) (hl:AV.ncs l=true) (H:AH):(RN N).f 472 [vec k l .none,.str nm] H=.ok .none H:=by
 refine Qaa Qec hN (ρ:=[vec k l .none,.str nm]) rfl (by simp[AV.ncs,AV.nc,hl]) (H':=[]) ?_ rfl H;simp only[Qci];w_fin
theorem QfG {N:Nat} (hN:1≤N) (k nm:String) (l:List AV) (r c:Nat) (hl:AV.ncs l=true) (hn:"dim"≠nm) (H:AH):(RN N).f 472 [vec k l (dimA r c),.str nm] H=.ok .none H:=by
 refine Qaa Qec hN (ρ:=[vec k l (dimA r c),.str nm]) rfl (by simp[AV.ncs,AV.nc,hl]) (H':=[]) ?_ rfl H;have e:("dim"=nm)=False:=by simp[hn]
 simp only[Qci];clear hn;w_fin
theorem QkW {N:Nat} (hN:1≤N) (k:String) (l:List AV) (r c:Nat) (hl:AV.ncs l=true) (H:AH):(RN N).f 472 [vec k l (dimA r c),.str "dim"] H=.ok (vec "integer" [.int r,.int c] .none) H:=by
 refine Qaa Qec hN (ρ:=[vec k l (dimA r c),.str "dim"]) rfl (by simp[AV.ncs,AV.nc,hl]) (H':=[]) ?_ rfl H;simp only[Qci];w_fin
theorem QkX {N:Nat} (hN:2≤N) (k:String) (l:List AV) (hl:AV.ncs l=true) (H:AH):(RN N).f 484 [vec k l .none] H=.ok .none H:=by
 refine Qaa Qi4 (by omega) (ρ:=[vec k l .none,uS]) rfl (by simp[AV.ncs,AV.nc,hl]) (H':=[]) ?_ rfl H;have g:=QdE (N:=N-1) (by omega) k "dim" l hl [];simp only[Qey];w_fin
theorem Qmp {N:Nat} (hN:2≤N) (k:String) (l:List AV) (r c:Nat) (hl:AV.ncs l=true) (H:AH):(RN N).f 484 [vec k l (dimA r c)] H=.ok (.lst [.int r,.int c]) H:=by
 refine Qaa Qi4 (by omega) (ρ:=[vec k l (dimA r c),uS]) rfl (by simp[AV.ncs,AV.nc,hl]) (H':=[]) ?_ rfl H;have g:=QkW (N:=N-1) (by omega) k l r c hl [];simp only[Qey];w_fin
theorem Qe2 {N:Nat} (hN:3≤N) (k:String) (l:List AV) (hk:k="double"∨k="integer"∨k="logical") (hl:AV.ncs l=true) (H:AH):(RN N).f 477 [vec k l .none] H=.ok .none H:=by
 refine Qaa QfE (by omega) (ρ:=[vec k l .none,uS,uS,uS,uS,uS]) rfl (by simp[AV.ncs,AV.nc,hl]) (H':=[]) ?_ rfl H;have g:=QkX (N:=N-1) (by omega) k l hl [];have g2:=QdE (N:=N-1) (by omega) k "names" l hl [];have k1:decide (k="language")=false:=by rcases hk with rfl | rfl | rfl<;>decide
 have k2:decide (k="environment")=false:=by rcases hk with rfl | rfl | rfl<;>decide
 clear hk;simp only[Qda];w_fin
theorem QjJ {N:Nat} (hN:3≤N) (k:String) (l:List AV) (r c:Nat) (hk:k="double"∨k="integer"∨k="logical") (hl:AV.ncs l=true) (H:AH):(RN N).f 477 [vec k l (dimA r c)] H=.ok .none H:=by
 refine Qaa QfE (by omega) (ρ:=[vec k l (dimA r c),uS,uS,uS,uS,uS]) rfl (by simp[AV.ncs,AV.nc,hl]) (H':=[]) ?_ rfl H;have g:=Qmp (N:=N-1) (by omega) k l r c hl [];have g2:=QfG (N:=N-1) (by omega) k "names" l r c hl (by decide) [];have k1:decide (k="language")=false:=by rcases hk with rfl | rfl | rfl<;>decide
 have k2:decide (k="environment")=false:=by rcases hk with rfl | rfl | rfl<;>decide
 have e:decide (((0+1+1:Nat):Int)=1)=false:=rfl;clear hk;simp only[Qda];w_fin
theorem Qep {N:Nat} (hN:1≤N) (k:String) (l:List AV) (hl:AV.ncs l=true) (H:AH):(RN N).f 710 [vec k l .none,.none] H=.ok (vec k l .none) H:=by
 refine Qaa Qhn hN (ρ:=[vec k l .none,.none]) rfl (by simp[AV.ncs,AV.nc,hl]) (H':=[]) ?_ (by simp[AV.ncs,AV.nc,hl]) H;simp only[QcP];w_fin
theorem Qe3 {N:Nat} (hN:4≤N) (k:String) (l:List AV) (t:AV) (ht:t=.none∨∃r c,t=dimA r c) (hk:k="double"∨k="integer"∨k="logical") (hl:AV.ncs l=true) (hs:l.length≤100000) (H:AH):(RN N).f 715 [vec k l t,.str k,.lst []] H=.ok (vec k l .none) H:=by
 have hn:t.nc=true:=by rcases ht with rfl | ⟨r,c,rfl⟩<;>rfl
 refine Qaa Qho (by omega) (ρ:=[vec k l t,.str k,.lst [],uS,uS]) rfl (by simp[AV.ncs,AV.nc,hl,hn]) (H':=[.dead]) ?_ (by simp[AV.ncs,AV.nc,hl]) H;have i:=QaX (N:=N-1) (by omega) k l [];simp only[List.length_nil,List.nil_append] at i;have w:=fun H=>Qep (N:=N-1) (by omega) k l hl H
 have g:∀H,(RN (N-1)).f 477 [vec k l t] H=.ok .none H:=fun H=>by
  rcases ht with rfl | ⟨r,c,rfl⟩
  ·exact Qe2 (by omega) k l hk hl H
  ·exact QjJ (by omega) k l r c hk hl H
 have e:decide (k≠k)=false:=by simp
 clear ht hk;simp only[QdP];w_fin
theorem QaY {N:Nat} (hN:5≤N) (l:List AV) (t:AV) (ht:t=.none∨∃r c,t=dimA r c) (hl:AV.ncs l=true) (hs:l.length≤100000) (H:AH):(RN N).f 784 [vec "double" l t] H=.ok (.lst l) H:=by
 have hn:t.nc=true:=by rcases ht with rfl | ⟨r,c,rfl⟩<;>rfl
 refine Qaa Qhq (by omega) (ρ:=[vec "double" l t]) rfl (by simp[AV.ncs,AV.nc,hl,hn]) (H':=[]) ?_ (by simp[AV.ncs,AV.nc,hl]) H;have i:=Qe3 (N:=N-1) (by omega) "double" l t ht (.inl rfl) hl hs [];clear ht;simp only[QcR];w_fin
theorem QfH {a N:Nat} {d:FD} {as ρ:List AV} {H:AH} (hT:TT a=some (false,d)) (hN:1≤N) (hf:d.frame as=some ρ):(RN N).f a as H=(evSs (RN (N-1)) d.body ρ H).out:=QbC hT hN hf rfl
abbrev mObj (f t:List AV) (u p:Nat):AC:=.obj 110 ["formals","tags","used","places"] [.lst f,.lst t,.cell u,.cell p]
theorem Qmq {N:Nat} (hN:1≤N) (f t:List AV) (ht:t.length<100000):(RN N).f 67 [.cell 0,.lst f,.lst t] [.obj 110 [] []]=.ok .none [mObj f t 1 2,.lst (List.replicate t.length (.int 0)),.dct [] []]:=by
 refine QbC Qmg hN (ρ:=[.cell 0,.lst f,.lst t]) rfl ?_;have h1:(t.length≤1000000)=True:=by simp; omega
 have h2:((t.length:Int)<100000)=True:=by simp; omega
 have h3:((t.length:Int)).toNat=t.length:=rfl;clear ht;simp only[Qf9];w_fin
structure Meths (N:Nat):Prop where
 i:∀(f t:List AV),t.length<100000->(RN N).f 67 [.cell 0,.lst f,.lst t] [.obj 110 [] []]=.ok .none [mObj f t 1 2,.lst (List.replicate t.length (.int 0)),.dct [] []]
 e:∀H,(RN N).f 74 [.cell 0] H=(evSs (RN (N-1)) Qcs.body [.cell 0,uS,uS] H).out
 p:∀H,(RN N).f 81 [.cell 0] H=(evSs (RN (N-1)) Qbf.body [.cell 0,uS] H).out
 q:∀H,(RN N).f 95 [.cell 0] H=(evSs (RN (N-1)) QaC.body [.cell 0,uS,uS] H).out
 r:∀H,(RN N).f 107 [.cell 0] H=(evSs (RN (N-1)) QdN.body [.cell 0,uS] H).out
 p2:∀s H,(RN (N-1)).f 88 [.cell 0,s] H=(evSs (RN (N-1-1)) QaB.body [.cell 0,s,uS,uS] H).out
 f:∀s H,(RN (N-1)).f 102 [.cell 0,s] H=(evSs (RN (N-1-1)) Qbg.body [.cell 0,s] H).out
theorem meths {N:Nat} (hN:2≤N):Meths N :=
 ⟨fun f t h=>Qmq (by omega) f t h,fun H=>QfH QoC (by omega) rfl,fun H=>QfH QkH (by omega) rfl,fun H=>QfH Qhl (by omega) rfl,fun H=>QfH Qq8 (by omega) rfl,fun s H=>QfH Qhk (by omega) rfl,fun s H=>QfH QkI (by omega) rfl⟩
theorem Qee {H:AH} (a:String):pCmp H .eq .none (.str a)=some false:=(Qhh (P:=False) rfl rfl (by simp[rd])).trans (by simp)
abbrev pwT:PE:=.and [D122,D128]
abbrev pw:PS:=.whl pwT [.aug 1 .add (.int 1)]
theorem Qmr {N:Nat} (hN:3≤N) (a:String) (v:AV) (ha:a≠"...")  (nv:v.nc=true) (H:AH):(RN N).f 139 [.lst [.str a],.lst [.tup [.none,v]],.none] H=.ok (.tup [.dct [a] [.int 0],.lst []]) H:=by
 refine Qaa Qa2 (by omega) (ρ:=[.lst [.str a],.lst [.tup [.none,v]],.none,uS,uS,uS]) rfl (by simp[AV.ncs,AV.nc,nv]) (H':=[mObj [.str a] [.none] 1 2,.lst [.int 2],.dead]) ?_ rfl H;obtain⟨i,e,p,q,r,p2,f⟩:=meths (N:=N-1) (by omega);simp only[Qcs,Qbf,QaC,QdN,QaB,Qbg] at e p q r p2 f;have i:=i [.str a] [.none] (by simp);have ea:(a="...")=False:=by simp[ha]
 have c0:=fun H a=>Qee (H:=H) a
 have cm:evE (RN (N-1)) [.lst [.str a],.lst [.tup [.none,v]],.none,uS,uS,uS] D15 []=.ok (.lst [.none]) []:=by
  refine (Qah (v:=.lst [.tup [.none,v]]) (l:=[.tup [.none,v]]) (g:=fun x=>match x with | .tup [t,_]=>t | _=>.none) (by w_fin) rfl (by simp) rfl fun x hx=>?_).trans rfl
  simp only[List.mem_cons,List.not_mem_nil,or_false] at hx;rcases hx with rfl<;>exact⟨_,rfl,by w_fin⟩
 have w0:evS (RN (N-1-1)) pw [.cell 0,.int 0,.str a] [mObj [.str a] [.none] 1 2,.lst [.int 0],.dct [] []]=.ok .next [.cell 0,.int 0,.str a] [mObj [.str a] [.none] 1 2,.lst [.int 0],.dct [] []]:=by
  exact QaW (by w_fin)
 have rs:evE (RN (N-1-1)) [.cell 0,uS] D11 [mObj [.str a] [.none] 1 2,.lst [.int 2],.dct [a] [.int 0]]=.ok (.lst []) [mObj [.str a] [.none] 1 2,.lst [.int 2],.dct [a] [.int 0]]:=by
  refine (QcB (v:=.rng 0 1) (l:=[.int 0]) (g:=fun x=>x) (p:=fun _=>false) (by w_fin) rfl (by simp) rfl fun x hx=>?_).trans rfl;simp only[List.mem_cons,List.not_mem_nil,or_false] at hx;rcases hx with rfl<;>exact⟨_,rfl,by w_fin,nofun⟩
 clear ha;simp only[QaD];w_fin
theorem Qms {N:Nat} (hN:3≤N) (a b:String) (v w:AV) (ha:a≠"...") (hb:b≠"...") (hab:a≠b) (nv:v.nc=true) (nw:w.nc=true) (H:AH):(RN N).f 139 [.lst [.str a,.str b],.lst [.tup [.none,v],.tup [.none,w]],.none] H=.ok (.tup [.dct [a,b] [.int 0,.int 1],.lst []]) H:=by
 refine Qaa Qa2 (by omega) (ρ:=[.lst [.str a,.str b],.lst [.tup [.none,v],.tup [.none,w]],.none,uS,uS,uS]) rfl (by simp[AV.ncs,AV.nc,nv,nw]) (H':=[mObj [.str a,.str b] [.none,.none] 1 2,.lst [.int 2,.int 2],.dead]) ?_ rfl H;obtain⟨i,e,p,q,r,p2,f⟩:=meths (N:=N-1) (by omega);simp only[Qcs,Qbf,QaC,QdN,QaB,Qbg] at e p q r p2 f;have i:=i [.str a,.str b] [.none,.none] (by simp);have ea:(a="...")=False:=by simp[ha]
 have eb:(b="...")=False:=by simp[hb]
 have eab:(a=b)=False:=by simp[hab]
 have eba:(b=a)=False:=by simp[Ne.symm hab]
 have c0:=fun H a=>Qee (H:=H) a
 have cm:evE (RN (N-1)) [.lst [.str a,.str b],.lst [.tup [.none,v],.tup [.none,w]],.none,uS,uS,uS] D15 []=.ok (.lst [.none,.none]) []:=by
  refine (Qah (v:=.lst [.tup [.none,v],.tup [.none,w]]) (l:=[.tup [.none,v],.tup [.none,w]]) (g:=fun x=>match x with | .tup [t,_]=>t | _=>.none) (by w_fin) rfl (by simp) rfl fun x hx=>?_).trans rfl
  simp only[List.mem_cons,List.not_mem_nil,or_false] at hx;rcases hx with rfl | rfl<;>exact⟨_,rfl,by w_fin⟩
 have w0:evS (RN (N-1-1)) pw [.cell 0,.int 0,.str a] [mObj [.str a,.str b] [.none,.none] 1 2,.lst [.int 0,.int 0],.dct [] []]=.ok .next [.cell 0,.int 0,.str a] [mObj [.str a,.str b] [.none,.none] 1 2,.lst [.int 0,.int 0],.dct [] []]:=by
  exact QaW (by w_fin)
 have w1:evS (RN (N-1-1)) pw [.cell 0,.int 0,.str b] [mObj [.str a,.str b] [.none,.none] 1 2,.lst [.int 2,.int 0],.dct [a] [.int 0]]=.ok .next [.cell 0,.int 1,.str b] [mObj [.str a,.str b] [.none,.none] 1 2,.lst [.int 2,.int 0],.dct [a] [.int 0]]:=by
  refine QeB (ρ':=[.cell 0,.int 1,.str b]) (H':=[mObj [.str a,.str b] [.none,.none] 1 2,.lst [.int 2,.int 0],.dct [a] [.int 0]]) (by w_fin) (by w_fin; rfl) ?_ nofun;exact QaW (by w_fin)
 have rs:evE (RN (N-1-1)) [.cell 0,uS] D11 [mObj [.str a,.str b] [.none,.none] 1 2,.lst [.int 2,.int 2],.dct [a,b] [.int 0,.int 1]]=.ok (.lst []) [mObj [.str a,.str b] [.none,.none] 1 2,.lst [.int 2,.int 2],.dct [a,b] [.int 0,.int 1]]:=by
  refine (QcB (v:=.rng 0 2) (l:=[.int 0,.int 1]) (g:=fun x=>x) (p:=fun _=>false) (by w_fin) rfl (by simp) rfl fun x hx=>?_).trans rfl;simp only[List.mem_cons,List.not_mem_nil,or_false] at hx;rcases hx with rfl | rfl<;>exact⟨_,rfl,by w_fin,nofun⟩
 clear ha hb hab;simp only[QaD];w_fin
theorem QkY {N:Nat} (hN:3≤N) (a b:String) (v:AV) (ha:a≠"...") (hb:b≠"...") (hab:a≠b) (nv:v.nc=true) (H:AH):(RN N).f 139 [.lst [.str a,.str b],.lst [.tup [.none,v]],.none] H=.ok (.tup [.dct [a] [.int 0],.lst []]) H:=by
 refine Qaa Qa2 (by omega) (ρ:=[.lst [.str a,.str b],.lst [.tup [.none,v]],.none,uS,uS,uS]) rfl (by simp[AV.ncs,AV.nc,nv]) (H':=[mObj [.str a,.str b] [.none] 1 2,.lst [.int 2],.dead]) ?_ rfl H;obtain⟨i,e,p,q,r,p2,f⟩:=meths (N:=N-1) (by omega);simp only[Qcs,Qbf,QaC,QdN,QaB,Qbg] at e p q r p2 f;have i:=i [.str a,.str b] [.none] (by simp);have ea:(a="...")=False:=by simp[ha]
 have eb:(b="...")=False:=by simp[hb]
 have eab:(a=b)=False:=by simp[hab]
 have eba:(b=a)=False:=by simp[Ne.symm hab]
 have c0:=fun H a=>Qee (H:=H) a
 have cm:evE (RN (N-1)) [.lst [.str a,.str b],.lst [.tup [.none,v]],.none,uS,uS,uS] D15 []=.ok (.lst [.none]) []:=by
  refine (Qah (v:=.lst [.tup [.none,v]]) (l:=[.tup [.none,v]]) (g:=fun x=>match x with | .tup [t,_]=>t | _=>.none) (by w_fin) rfl (by simp) rfl fun x hx=>?_).trans rfl
  simp only[List.mem_cons,List.not_mem_nil,or_false] at hx;rcases hx with rfl<;>exact⟨_,rfl,by w_fin⟩
 have w0:evS (RN (N-1-1)) pw [.cell 0,.int 0,.str a] [mObj [.str a,.str b] [.none] 1 2,.lst [.int 0],.dct [] []]=.ok .next [.cell 0,.int 0,.str a] [mObj [.str a,.str b] [.none] 1 2,.lst [.int 0],.dct [] []]:=by
  exact QaW (by w_fin)
 have w1:evS (RN (N-1-1)) pw [.cell 0,.int 0,.str b] [mObj [.str a,.str b] [.none] 1 2,.lst [.int 2],.dct [a] [.int 0]]=.ok .next [.cell 0,.int 1,.str b] [mObj [.str a,.str b] [.none] 1 2,.lst [.int 2],.dct [a] [.int 0]]:=by
  refine QeB (ρ':=[.cell 0,.int 1,.str b]) (H':=[mObj [.str a,.str b] [.none] 1 2,.lst [.int 2],.dct [a] [.int 0]]) (by w_fin) (by w_fin; rfl) ?_ nofun;exact QaW (by w_fin)
 have rs:evE (RN (N-1-1)) [.cell 0,uS] D11 [mObj [.str a,.str b] [.none] 1 2,.lst [.int 2],.dct [a] [.int 0]]=.ok (.lst []) [mObj [.str a,.str b] [.none] 1 2,.lst [.int 2],.dct [a] [.int 0]]:=by
  refine (QcB (v:=.rng 0 1) (l:=[.int 0]) (g:=fun x=>x) (p:=fun _=>false) (by w_fin) rfl (by simp) rfl fun x hx=>?_).trans rfl;simp only[List.mem_cons,List.not_mem_nil,or_false] at hx;rcases hx with rfl<;>exact⟨_,rfl,by w_fin,nofun⟩
 clear ha hb hab;simp only[QaD];w_fin
theorem QkZ {N:Nat} (hN:3≤N) (a b:String) (v w:AV) (ha:a≠"...") (hb:b≠"...") (hab:a≠b) (nv:v.nc=true) (nw:w.nc=true) (H:AH):(RN N).f 139 [.lst [.str a,.str b],.lst [.tup [.none,v],.tup [.str b,w]],.none] H=.ok (.tup [.dct [b,a] [.int 1,.int 0],.lst []]) H:=by
 refine Qaa Qa2 (by omega) (ρ:=[.lst [.str a,.str b],.lst [.tup [.none,v],.tup [.str b,w]],.none,uS,uS,uS]) rfl (by simp[AV.ncs,AV.nc,nv,nw]) (H':=[mObj [.str a,.str b] [.none,.str b] 1 2,.lst [.int 2,.int 2],.dead]) ?_ rfl H;obtain⟨i,e,p,q,r,p2,f⟩:=meths (N:=N-1) (by omega);simp only[Qcs,Qbf,QaC,QdN,QaB,Qbg] at e p q r p2 f;have i:=i [.str a,.str b] [.none,.str b] (by simp);have ea:(a="...")=False:=by simp[ha]
 have eb:(b="...")=False:=by simp[hb]
 have eab:(a=b)=False:=by simp[hab]
 have eba:(b=a)=False:=by simp[Ne.symm hab]
 have c0:=fun H a=>Qee (H:=H) a
 have cm:evE (RN (N-1)) [.lst [.str a,.str b],.lst [.tup [.none,v],.tup [.str b,w]],.none,uS,uS,uS] D15 []=.ok (.lst [.none,.str b]) []:=by
  refine (Qah (v:=.lst [.tup [.none,v],.tup [.str b,w]]) (l:=[.tup [.none,v],.tup [.str b,w]]) (g:=fun x=>match x with | .tup [t,_]=>t | _=>.none) (by w_fin) rfl (by simp) rfl fun x hx=>?_).trans rfl
  simp only[List.mem_cons,List.not_mem_nil,or_false] at hx;rcases hx with rfl | rfl<;>exact⟨_,rfl,by w_fin⟩
 have w0:evS (RN (N-1-1)) pw [.cell 0,.int 0,.str a] [mObj [.str a,.str b] [.none,.str b] 1 2,.lst [.int 0,.int 2],.dct [b] [.int 1]]=.ok .next [.cell 0,.int 0,.str a] [mObj [.str a,.str b] [.none,.str b] 1 2,.lst [.int 0,.int 2],.dct [b] [.int 1]]:=by
  exact QaW (by w_fin)
 have rs:evE (RN (N-1-1)) [.cell 0,uS] D11 [mObj [.str a,.str b] [.none,.str b] 1 2,.lst [.int 2,.int 2],.dct [b,a] [.int 1,.int 0]]=.ok (.lst []) [mObj [.str a,.str b] [.none,.str b] 1 2,.lst [.int 2,.int 2],.dct [b,a] [.int 1,.int 0]]:=by
  refine (QcB (v:=.rng 0 2) (l:=[.int 0,.int 1]) (g:=fun x=>x) (p:=fun _=>false) (by w_fin) rfl (by simp) rfl fun x hx=>?_).trans rfl;simp only[List.mem_cons,List.not_mem_nil,or_false] at hx;rcases hx with rfl | rfl<;>exact⟨_,rfl,by w_fin,nofun⟩
 clear ha hb hab;simp only[QaD];w_fin
theorem Qk0 {N:Nat} (hN:3≤N) (a b c:String) (v:AV) (ha:a≠"...") (hb:b≠"...") (hc:c≠"...") (hab:a≠b) (hac:a≠c) (hbc:b≠c) (nv:v.nc=true) (H:AH):(RN N).f 139 [.lst [.str a,.str b,.str c],.lst [.tup [.none,v]],.none] H=.ok (.tup [.dct [a] [.int 0],.lst []]) H:=by
 refine Qaa Qa2 (by omega) (ρ:=[.lst [.str a,.str b,.str c],.lst [.tup [.none,v]],.none,uS,uS,uS]) rfl (by simp[AV.ncs,AV.nc,nv]) (H':=[mObj [.str a,.str b,.str c] [.none] 1 2,.lst [.int 2],.dead]) ?_ rfl H;obtain⟨i,e,p,q,r,p2,f⟩:=meths (N:=N-1) (by omega);simp only[Qcs,Qbf,QaC,QdN,QaB,Qbg] at e p q r p2 f;have i:=i [.str a,.str b,.str c] [.none] (by simp);have ea:(a="...")=False:=by simp[ha]
 have eb:(b="...")=False:=by simp[hb]
 have ec:(c="...")=False:=by simp[hc]
 have eab:(a=b)=False:=by simp[hab]
 have eba:(b=a)=False:=by simp[Ne.symm hab]
 have eac:(a=c)=False:=by simp[hac]
 have eca:(c=a)=False:=by simp[Ne.symm hac]
 have ebc:(b=c)=False:=by simp[hbc]
 have ecb:(c=b)=False:=by simp[Ne.symm hbc]
 have c0:=fun H a=>Qee (H:=H) a
 have cm:evE (RN (N-1)) [.lst [.str a,.str b,.str c],.lst [.tup [.none,v]],.none,uS,uS,uS] D15 []=.ok (.lst [.none]) []:=by
  refine (Qah (v:=.lst [.tup [.none,v]]) (l:=[.tup [.none,v]]) (g:=fun x=>match x with | .tup [t,_]=>t | _=>.none) (by w_fin) rfl (by simp) rfl fun x hx=>?_).trans rfl
  simp only[List.mem_cons,List.not_mem_nil,or_false] at hx;rcases hx with rfl<;>exact⟨_,rfl,by w_fin⟩
 have w0:evS (RN (N-1-1)) pw [.cell 0,.int 0,.str a] [mObj [.str a,.str b,.str c] [.none] 1 2,.lst [.int 0],.dct [] []]=.ok .next [.cell 0,.int 0,.str a] [mObj [.str a,.str b,.str c] [.none] 1 2,.lst [.int 0],.dct [] []]:=by
  exact QaW (by w_fin)
 have w1:evS (RN (N-1-1)) pw [.cell 0,.int 0,.str b] [mObj [.str a,.str b,.str c] [.none] 1 2,.lst [.int 2],.dct [a] [.int 0]]=.ok .next [.cell 0,.int 1,.str b] [mObj [.str a,.str b,.str c] [.none] 1 2,.lst [.int 2],.dct [a] [.int 0]]:=by
  refine QeB (ρ':=[.cell 0,.int 1,.str b]) (H':=[mObj [.str a,.str b,.str c] [.none] 1 2,.lst [.int 2],.dct [a] [.int 0]]) (by w_fin) (by w_fin; rfl) ?_ nofun;exact QaW (by w_fin)
 have w2:evS (RN (N-1-1)) pw [.cell 0,.int 1,.str c] [mObj [.str a,.str b,.str c] [.none] 1 2,.lst [.int 2],.dct [a] [.int 0]]=.ok .next [.cell 0,.int 1,.str c] [mObj [.str a,.str b,.str c] [.none] 1 2,.lst [.int 2],.dct [a] [.int 0]]:=by
  exact QaW (by w_fin)
 have rs:evE (RN (N-1-1)) [.cell 0,uS] D11 [mObj [.str a,.str b,.str c] [.none] 1 2,.lst [.int 2],.dct [a] [.int 0]]=.ok (.lst []) [mObj [.str a,.str b,.str c] [.none] 1 2,.lst [.int 2],.dct [a] [.int 0]]:=by
  refine (QcB (v:=.rng 0 1) (l:=[.int 0]) (g:=fun x=>x) (p:=fun _=>false) (by w_fin) rfl (by simp) rfl fun x hx=>?_).trans rfl;simp only[List.mem_cons,List.not_mem_nil,or_false] at hx;rcases hx with rfl<;>exact⟨_,rfl,by w_fin,nofun⟩
 clear ha hb hc hab hac hbc;simp only[QaD];w_fin
theorem Qk1 {N:Nat} (hN:3≤N) (a b c:String) (v w x:AV) (ha:a≠"...") (hb:b≠"...") (hc:c≠"...") (hab:a≠b) (hac:a≠c) (hbc:b≠c) (nv:v.nc=true) (nw:w.nc=true) (nx:x.nc=true) (H:AH):(RN N).f 139 [.lst [.str a,.str b,.str c],.lst [.tup [.none,v],.tup [.str b,w],.tup [.str c,x]],.none] H=.ok (.tup [.dct [b,c,a] [.int 1,.int 2,.int 0],.lst []]) H:=by
 refine Qaa Qa2 (by omega) (ρ:=[.lst [.str a,.str b,.str c],.lst [.tup [.none,v],.tup [.str b,w],.tup [.str c,x]],.none,uS,uS,uS]) rfl (by simp[AV.ncs,AV.nc,nv,nw,nx]) (H':=[mObj [.str a,.str b,.str c] [.none,.str b,.str c] 1 2,.lst [.int 2,.int 2,.int 2],.dead]) ?_ rfl H;obtain⟨i,e,p,q,r,p2,f⟩:=meths (N:=N-1) (by omega);simp only[Qcs,Qbf,QaC,QdN,QaB,Qbg] at e p q r p2 f;have i:=i [.str a,.str b,.str c] [.none,.str b,.str c] (by simp);have ea:(a="...")=False:=by simp[ha]
 have eb:(b="...")=False:=by simp[hb]
 have ec:(c="...")=False:=by simp[hc]
 have eab:(a=b)=False:=by simp[hab]
 have eba:(b=a)=False:=by simp[Ne.symm hab]
 have eac:(a=c)=False:=by simp[hac]
 have eca:(c=a)=False:=by simp[Ne.symm hac]
 have ebc:(b=c)=False:=by simp[hbc]
 have ecb:(c=b)=False:=by simp[Ne.symm hbc]
 have c0:=fun H a=>Qee (H:=H) a
 have cm:evE (RN (N-1)) [.lst [.str a,.str b,.str c],.lst [.tup [.none,v],.tup [.str b,w],.tup [.str c,x]],.none,uS,uS,uS] D15 []=.ok (.lst [.none,.str b,.str c]) []:=by
  refine (Qah (v:=.lst [.tup [.none,v],.tup [.str b,w],.tup [.str c,x]]) (l:=[.tup [.none,v],.tup [.str b,w],.tup [.str c,x]]) (g:=fun x=>match x with | .tup [t,_]=>t | _=>.none) (by w_fin) rfl (by simp) rfl fun x hx=>?_).trans rfl
  simp only[List.mem_cons,List.not_mem_nil,or_false] at hx;rcases hx with rfl | rfl | rfl<;>exact⟨_,rfl,by w_fin⟩
 have w0:evS (RN (N-1-1)) pw [.cell 0,.int 0,.str a] [mObj [.str a,.str b,.str c] [.none,.str b,.str c] 1 2,.lst [.int 0,.int 2,.int 2],.dct [b,c] [.int 1,.int 2]]=.ok .next [.cell 0,.int 0,.str a] [mObj [.str a,.str b,.str c] [.none,.str b,.str c] 1 2,.lst [.int 0,.int 2,.int 2],.dct [b,c] [.int 1,.int 2]]:=by
  exact QaW (by w_fin)
 have rs:evE (RN (N-1-1)) [.cell 0,uS] D11 [mObj [.str a,.str b,.str c] [.none,.str b,.str c] 1 2,.lst [.int 2,.int 2,.int 2],.dct [b,c,a] [.int 1,.int 2,.int 0]]=.ok (.lst []) [mObj [.str a,.str b,.str c] [.none,.str b,.str c] 1 2,.lst [.int 2,.int 2,.int 2],.dct [b,c,a] [.int 1,.int 2,.int 0]]:=by
  refine (QcB (v:=.rng 0 3) (l:=[.int 0,.int 1,.int 2]) (g:=fun x=>x) (p:=fun _=>false) (by w_fin) rfl (by simp) rfl fun x hx=>?_).trans rfl;simp only[List.mem_cons,List.not_mem_nil,or_false] at hx;rcases hx with rfl | rfl | rfl<;>exact⟨_,rfl,by w_fin,nofun⟩
 clear ha hb hc hab hac hbc;simp only[QaD];w_fin
theorem QcF {N:Nat} (hN:4≤N) (a:String) (v:AV) (ha:a≠"...")  (nv:v.nc=true) (H:AH):(RN N).f 152 [.lst [.tup [.none,v]],.lst [.str a]] H=.ok (.lst [v]) H:=by
 refine Qaa QfD (by omega) (ρ:=[.lst [.tup [.none,v]],.lst [.str a],.none,uS,uS,uS,uS,uS]) rfl (by simp[AV.ncs,AV.nc,nv]) (H':=[.dead]) ?_ (by simp[AV.ncs,AV.nc,nv]) H;have m:=Qmr (N:=N-1) (by omega) a v ha nv [];have ea:(a="...")=False:=by simp[ha]
 clear ha;simp only[Qel];w_fin
theorem Qcd {N:Nat} (hN:4≤N) (a b:String) (v w:AV) (ha:a≠"...") (hb:b≠"...") (hab:a≠b) (nv:v.nc=true) (nw:w.nc=true) (H:AH):(RN N).f 152 [.lst [.tup [.none,v],.tup [.none,w]],.lst [.str a,.str b]] H=.ok (.lst [v,w]) H:=by
 refine Qaa QfD (by omega) (ρ:=[.lst [.tup [.none,v],.tup [.none,w]],.lst [.str a,.str b],.none,uS,uS,uS,uS,uS]) rfl (by simp[AV.ncs,AV.nc,nv,nw]) (H':=[.dead]) ?_ (by simp[AV.ncs,AV.nc,nv,nw]) H;have m:=Qms (N:=N-1) (by omega) a b v w ha hb hab nv nw [];have ea:(a="...")=False:=by simp[ha]
 have eb:(b="...")=False:=by simp[hb]
 have eab:(a=b)=False:=by simp[hab]
 have eba:(b=a)=False:=by simp[Ne.symm hab]
 clear ha hb hab;simp only[Qel];w_fin
theorem QeC {N:Nat} (hN:4≤N) (a b:String) (v:AV) (ha:a≠"...") (hb:b≠"...") (hab:a≠b) (nv:v.nc=true) (H:AH):(RN N).f 152 [.lst [.tup [.none,v]],.lst [.str a,.str b]] H=.ok (.lst [v,.none]) H:=by
 refine Qaa QfD (by omega) (ρ:=[.lst [.tup [.none,v]],.lst [.str a,.str b],.none,uS,uS,uS,uS,uS]) rfl (by simp[AV.ncs,AV.nc,nv]) (H':=[.dead]) ?_ (by simp[AV.ncs,AV.nc,nv]) H;have m:=QkY (N:=N-1) (by omega) a b v ha hb hab nv [];have ea:(a="...")=False:=by simp[ha]
 have eb:(b="...")=False:=by simp[hb]
 have eab:(a=b)=False:=by simp[hab]
 have eba:(b=a)=False:=by simp[Ne.symm hab]
 clear ha hb hab;simp only[Qel];w_fin
theorem Qmt {N:Nat} (hN:4≤N) (a b:String) (v w:AV) (ha:a≠"...") (hb:b≠"...") (hab:a≠b) (nv:v.nc=true) (nw:w.nc=true) (H:AH):(RN N).f 152 [.lst [.tup [.none,v],.tup [.str b,w]],.lst [.str a,.str b]] H=.ok (.lst [v,w]) H:=by
 refine Qaa QfD (by omega) (ρ:=[.lst [.tup [.none,v],.tup [.str b,w]],.lst [.str a,.str b],.none,uS,uS,uS,uS,uS]) rfl (by simp[AV.ncs,AV.nc,nv,nw]) (H':=[.dead]) ?_ (by simp[AV.ncs,AV.nc,nv,nw]) H;have m:=QkZ (N:=N-1) (by omega) a b v w ha hb hab nv nw [];have ea:(a="...")=False:=by simp[ha]
 have eb:(b="...")=False:=by simp[hb]
 have eab:(a=b)=False:=by simp[hab]
 have eba:(b=a)=False:=by simp[Ne.symm hab]
 clear ha hb hab;simp only[Qel];w_fin
theorem Qja {N:Nat} (hN:4≤N) (a b c:String) (v:AV) (ha:a≠"...") (hb:b≠"...") (hc:c≠"...") (hab:a≠b) (hac:a≠c) (hbc:b≠c) (nv:v.nc=true) (H:AH):(RN N).f 152 [.lst [.tup [.none,v]],.lst [.str a,.str b,.str c]] H=.ok (.lst [v,.none,.none]) H:=by
 refine Qaa QfD (by omega) (ρ:=[.lst [.tup [.none,v]],.lst [.str a,.str b,.str c],.none,uS,uS,uS,uS,uS]) rfl (by simp[AV.ncs,AV.nc,nv]) (H':=[.dead]) ?_ (by simp[AV.ncs,AV.nc,nv]) H;have m:=Qk0 (N:=N-1) (by omega) a b c v ha hb hc hab hac hbc nv [];have ea:(a="...")=False:=by simp[ha]
 have eb:(b="...")=False:=by simp[hb]
 have ec:(c="...")=False:=by simp[hc]
 have eab:(a=b)=False:=by simp[hab]
 have eba:(b=a)=False:=by simp[Ne.symm hab]
 have eac:(a=c)=False:=by simp[hac]
 have eca:(c=a)=False:=by simp[Ne.symm hac]
 have ebc:(b=c)=False:=by simp[hbc]
 have ecb:(c=b)=False:=by simp[Ne.symm hbc]
 clear ha hb hc hab hac hbc;simp only[Qel];w_fin
theorem Qmu {N:Nat} (hN:4≤N) (a b c:String) (v w x:AV) (ha:a≠"...") (hb:b≠"...") (hc:c≠"...") (hab:a≠b) (hac:a≠c) (hbc:b≠c) (nv:v.nc=true) (nw:w.nc=true) (nx:x.nc=true) (H:AH):(RN N).f 152 [.lst [.tup [.none,v],.tup [.str b,w],.tup [.str c,x]],.lst [.str a,.str b,.str c]] H=.ok (.lst [v,w,x]) H:=by
 refine Qaa QfD (by omega) (ρ:=[.lst [.tup [.none,v],.tup [.str b,w],.tup [.str c,x]],.lst [.str a,.str b,.str c],.none,uS,uS,uS,uS,uS]) rfl (by simp[AV.ncs,AV.nc,nv,nw,nx]) (H':=[.dead]) ?_ (by simp[AV.ncs,AV.nc,nv,nw,nx]) H;have m:=Qk1 (N:=N-1) (by omega) a b c v w x ha hb hc hab hac hbc nv nw nx [];have ea:(a="...")=False:=by simp[ha]
 have eb:(b="...")=False:=by simp[hb]
 have ec:(c="...")=False:=by simp[hc]
 have eab:(a=b)=False:=by simp[hab]
 have eba:(b=a)=False:=by simp[Ne.symm hab]
 have eac:(a=c)=False:=by simp[hac]
 have eca:(c=a)=False:=by simp[Ne.symm hac]
 have ebc:(b=c)=False:=by simp[hbc]
 have ecb:(c=b)=False:=by simp[Ne.symm hbc]
 clear ha hb hc hab hac hbc;simp only[Qel];w_fin
theorem QaF {N:Nat} (hN:1≤N) (k:String) (l:List AV) (t:AV) (s:String) (hl:AV.ncs l=true) (ht:t.nc=true) (H:AH):(RN N).f 146 [vec k l t,.str s] H=.ok (vec k l t) H:=by
 refine Qaa Qmh hN (ρ:=[vec k l t,.str s]) rfl (by simp[AV.ncs,AV.nc,hl,ht]) (H':=[]) ?_ (by simp[AV.ncs,AV.nc,hl,ht]) H;simp only[Qga];w_fin
theorem QfI {C:Orc} {ρ:List AV} {H:AH} (o i:PE):evE C ρ (.from o i) H=(evE C ρ o H).bind fun v H=>(evE C ρ i H).bind fun x H=>match v,x with
  | .lst l,.int k=>if 0≤k∧k≤l.length∧l.length≤1000000 then .ok (.lst (l.drop k.toNat)) H else .stuck
  | _,_=>.stuck:=by rw[evE]; first | done | rfl
theorem Qrg {C:Orc} {ρ:List AV} {H:AH} (o i:PE):evE C ρ (.upto o i) H=(evE C ρ o H).bind fun v H=>(evE C ρ i H).bind fun x H=>match v,x with
  | .lst l,.int k=>if 0≤k∧k<1000000∧l.length≤1000000 then .ok (.lst (l.take k.toNat)) H else .stuck
  | _,_=>.stuck:=by rw[evE]; first | done | rfl
theorem Qk2 {N:Nat} (hN:5≤N) (a:String) (k:String) (l:List AV) (t:AV) (ha:a≠"...") (hl:AV.ncs l=true) (ht:t.nc=true) (H:AH):(RN N).f 833 [.lst [.tup [.none,vec k l t]],.lst [.str a]] H=.ok (.tup [vec k l t,.lst []]) H:=by
 refine Qaa Qbr (by omega) (ρ:=[.lst [.tup [.none,vec k l t]],.lst [.str a],uS,uS]) rfl (by simp[AV.ncs,AV.nc,hl,ht]) (H':=[]) ?_ (by simp[AV.ncs,AV.nc,hl,ht]) H;have tk:=QcF (N:=N-1) (by omega) a (vec k l t) ha (by simp[AV.ncs,AV.nc,hl,ht]) [];have nd:=QaF (N:=N-1) (by omega) k l t a hl ht [];have iv:=Qak (N:=N-1) (by omega) k l t hl ht [];simp only[QaO];w_fin;simp only[QfI];w_fin
theorem QoJ {N:Nat} (hN:5≤N) (a b:String) (k:String) (l:List AV) (t:AV) (w:AV) (ha:a≠"...") (hb:b≠"...") (hab:a≠b) (hl:AV.ncs l=true) (ht:t.nc=true) (hw:w.nc=true) (H:AH):(RN N).f 833 [.lst [.tup [.none,vec k l t],.tup [.str b,w]],.lst [.str a,.str b]] H=.ok (.tup [vec k l t,.lst [w]]) H:=by
 refine Qaa Qbr (by omega) (ρ:=[.lst [.tup [.none,vec k l t],.tup [.str b,w]],.lst [.str a,.str b],uS,uS]) rfl (by simp[AV.ncs,AV.nc,hl,ht,hw]) (H':=[]) ?_ (by simp[AV.ncs,AV.nc,hl,ht,hw]) H;have tk:=Qmt (N:=N-1) (by omega) a b (vec k l t) w ha hb hab (by simp[AV.ncs,AV.nc,hl,ht]) hw [];have nd:=QaF (N:=N-1) (by omega) k l t a hl ht [];have iv:=Qak (N:=N-1) (by omega) k l t hl ht [];simp only[QaO];w_fin;simp only[QfI];w_fin
theorem Qmv {N:Nat} (hN:5≤N) (a b:String) (k:String) (l:List AV) (t:AV) (ha:a≠"...") (hb:b≠"...") (hab:a≠b) (hl:AV.ncs l=true) (ht:t.nc=true) (H:AH):(RN N).f 833 [.lst [.tup [.none,vec k l t]],.lst [.str a,.str b]] H=.ok (.tup [vec k l t,.lst [.none]]) H:=by
 refine Qaa Qbr (by omega) (ρ:=[.lst [.tup [.none,vec k l t]],.lst [.str a,.str b],uS,uS]) rfl (by simp[AV.ncs,AV.nc,hl,ht]) (H':=[]) ?_ (by simp[AV.ncs,AV.nc,hl,ht]) H;have tk:=QeC (N:=N-1) (by omega) a b (vec k l t) ha hb hab (by simp[AV.ncs,AV.nc,hl,ht]) [];have nd:=QaF (N:=N-1) (by omega) k l t a hl ht [];have iv:=Qak (N:=N-1) (by omega) k l t hl ht [];simp only[QaO];w_fin;simp only[QfI];w_fin
def cmj (r c:Nat) (e:Nat->Nat->AV):List AV:=(List.range c).flatMap fun j=>(List.range r).map fun i=>e i j
theorem Qgt (r c:Nat) (e:Nat->Nat->AV):cmj r (c+1) e=cmj r c e++(List.range r).map fun i=>e i c:=by
 unfold cmj;rw[List.range_succ,List.flatMap_append];simp
theorem QaA (r:Nat) (e:Nat->Nat->AV):∀c,(cmj r c e).length=r*c
 | 0=>rfl
 | c+1=>by rw[Qgt,List.length_append,QaA r e c,List.length_map,List.length_range,Nat.mul_succ]
theorem cm_get {r:Nat} {e:Nat->Nat->AV}:∀{c i j:Nat},i<r->j<c->(cmj r c e)[j*r+i]?=some (e i j)
 | c+1,i,j,hi,hj=>by
  rw[Qgt];by_cases hjc:j<c
  ·rw[List.getElem?_append_left,cm_get hi hjc]
   rw[QaA]
   calc j*r+i<j*r+r:=by omega
    _=(j+1)*r:=by rw[Nat.succ_mul]
    _≤c*r:=Nat.mul_le_mul_right _ (by omega)
    _=r*c:=Nat.mul_comm _ _
  ·have:j=c:=by omega
   subst this;rw[List.getElem?_append_right (by rw[QaA,Nat.mul_comm]; omega),QaA];rw[show j*r+i-r*j=i by rw[Nat.mul_comm]; omega];simp[hi]
theorem QaV:∀{l:List AV},(∀x∈l,x.nc=true)->AV.ncs l=true
 | [],_=>rfl
 | x::l,h=>by simp[AV.ncs,h x (.head _),QaV fun y hy=>h y (.tail _ hy)]
theorem Qgu:∀{l:List AV},AV.ncs l=true->∀x∈l,x.nc=true
 | [],_,x,h=>by cases h
 | y::l,h,x,hx=>by
  simp only[AV.ncs,Bool.and_eq_true] at h;rcases List.mem_cons.mp hx with rfl | hx
  ·exact h.1
  ·exact Qgu h.2 x hx
theorem Qnt {r c:Nat} {e:Nat->Nat->AV} {x:AV} (h:x∈cmj r c e):∃i j,i<r∧j<c∧x=e i j:=by
 obtain⟨j,hj,h⟩:=List.mem_flatMap.mp h;obtain⟨i,hi,h⟩:=List.mem_map.mp h;exact⟨i,j,by simpa using hi,by simpa using hj,h.symm⟩
theorem QbI {r c:Nat} {e:Nat->Nat->AV} (h:∀i j,i<r->j<c->(e i j).nc=true):AV.ncs (cmj r c e)=true:=QaV fun x hx=>by
 obtain⟨i,j,hi,hj,rfl⟩:=Qnt hx;exact h i j hi hj
theorem cm_ext {r c:Nat} {e f:Nat->Nat->AV} (h:∀i j,i<r->j<c->e i j=f i j):cmj r c e=cmj r c f:=by
 have hf:∀l:List Nat,(∀j∈l,j<c)->(l.flatMap fun j=>(List.range r).map fun i=>e i j)=l.flatMap fun j=>(List.range r).map fun i=>f i j:=fun l=>by
  induction l with
  | nil=>intro _; rfl
  | cons j l ih =>
   intro hl;rw[List.flatMap_cons,List.flatMap_cons,ih fun j hj=>hl j (.tail _ hj),List.map_congr_left fun i hi=>h i j (by simpa using hi) (hl j (.head _))]
 exact hf _ fun j hj=>by simpa using hj
def rwj (r c:Nat) (e:Nat->Nat->AV):List AV:=(List.range r).map fun i=>.lst ((List.range c).map fun j=>e i j)
theorem Qjb {r c i:Nat} {e:Nat->Nat->AV} (h:i<r):(rwj r c e)[i]?=some (.lst ((List.range c).map fun j=>e i j)):=by
 unfold rwj; simp[h]
theorem QfJ (r c:Nat) (e:Nat->Nat->AV):(rwj r c e).length=r:=by unfold rwj; simp
theorem QjK {r c:Nat} {e:Nat->Nat->AV} (h:∀i j,i<r->j<c->(e i j).nc=true):AV.ncs (rwj r c e)=true:=QaV fun x hx=>by
 obtain⟨i,hi,rfl⟩:=List.mem_map.mp hx;exact QaV fun y hy=>by
  obtain⟨j,hj,rfl⟩:=List.mem_map.mp hy;exact h i j (by simpa using hi) (by simpa using hj)
theorem Qjc {r c:Nat} {e f:Nat->Nat->AV} (h:∀i j,i<r->j<c->e i j=f i j):rwj r c e=rwj r c f :=
 List.map_congr_left fun i hi=>congrArg AV.lst (List.map_congr_left fun j hj=>h i j (by simpa using hi) (by simpa using hj))
theorem QoK {α:Type} (pre:List α) (x v:α) (l:List α):(pre++x::l).set pre.length v=pre++v::l:=by simp
theorem Qmw {α:Type} (pre:List α) (x y v:α) (l:List α):(pre++x::y::l).set (pre.length+1) v=pre++x::v::l:=by
 induction pre with
 | nil=>rfl
 | cons a pre ih=>simpa using ih
theorem Qcl {C:Orc} {kc kp q r c:Nat} {itR:PE} {b:List PS} {pre:List AV} {e:Nat->Nat->AV} (hkc:kc=pre.length) (hkp:kp=pre.length+1) (hs:r*c≤90000)
  (hR:∀j y post H,j<c->post.length=q->evE C (pre++.int j::y::post) itR H=.ok (.rng 0 r) H)
  (hB:∀i j post l,i<r->j<c->post.length=q->l.length≤90000->∃post',post'.length=q∧evSs C b (pre++.int j::.int i::post) [.lst l]=.ok .next (pre++.int j::.int i::post') [.lst (l++[e i j])])
  (x y:AV) (post:List AV) (hp:post.length=q) :
  ∃x' y' post',post'.length=q∧forL C [kc] true [.for_ [kp] true itR b] ((List.range c).map fun (i:Nat)=>AV.int (i:Int)) (pre++x::y::post) [.lst []]=.ok .next (pre++x'::y'::post') [.lst (cmj r c e)]:=by
 obtain⟨ρ',H',e1,x',y',post',hp',rfl,rfl⟩:=QaE (C:=C) (k:=kc) (b:=[.for_ [kp] true itR b]) (n:=c) (P:=fun j ρ H=>∃x y post,post.length=q∧ρ=pre++x::y::post∧H=[.lst (cmj r j e)]) (fun j hj ρ H ⟨x,y,post,hp,h1,h2⟩=>by
  subst h1 h2;have hlen:∀i,i≤r->r*j+i≤90000:=fun i hi=>by
   have:r*(j+1)≤r*c:=Nat.mul_le_mul_left _ hj;rw[Nat.mul_succ] at this;omega
  obtain⟨ρ_1,H_1,e2,y',post',hp',rfl,rfl⟩:=QaE (C:=C) (k:=kp) (b:=b) (n:=r) (P:=fun i ρ H=>∃y post,post.length=q∧ρ=pre++.int j::y::post∧H=[.lst (cmj r j e++(List.range i).map fun i=>e i j)]) (fun i hi ρ H ⟨y,post,hp,h1,h2⟩=>by
   subst h1 h2;obtain⟨post',hp',e3⟩:=hB i j post (cmj r j e++(List.range i).map fun i=>e i j) hi hj hp (by rw[List.length_append,QaA,List.length_map,List.length_range]; exact hlen i (by omega));rw[hkp,Qmw];exact⟨.next,_,_,e3,.inl rfl,_,_,hp',rfl,by rw[List.range_succ,List.map_append,List.append_assoc]; rfl⟩) (ρ:=pre++.int j::y::post) (H:=[.lst (cmj r j e)]) ⟨y,post,hp,rfl,by simp⟩
  refine⟨.next,pre++.int j::y'::post',[.lst (cmj r j e++(List.range r).map fun i=>e i j)],?_,.inl rfl,.int j,y',post',hp',rfl,by rw[Qgt]⟩;rw[hkc,QoK,Qgh,Qoy,hR j y post _ hj hp];simp only[forS,QaP,e2,seqS,Qkz]) (ρ:=pre++x::y::post) (H:=[.lst []]) ⟨x,y,post,hp,rfl,rfl⟩
 exact⟨x',y',post',hp',e1⟩
theorem QoL {N:Nat} (hN:1≤N) (H:AH):(RN N).f 756 [.lst [.none,.none]] H=.ok .none H:=by
 refine Qaa QeX hN (ρ:=[.lst [.none,.none],uS,uS,uS]) rfl rfl (H':=[]) ?_ rfl H;have cm:evE (RN (N-1)) [.lst [.none,.none],uS,uS,uS] D127 []=.ok (.lst []) []:=by
  refine (QcB (v:=.lst [.none,.none]) (l:=[.none,.none]) (g:=fun x=>x) (p:=fun _=>false) (by w_fin) rfl (by simp) rfl fun x hx=>?_).trans rfl;simp only[List.mem_cons,List.not_mem_nil,or_false] at hx;rcases hx with rfl | rfl<;>exact⟨_,rfl,by w_fin,nofun⟩
 simp only[QbS];w_fin
theorem Qid {N:Nat} (hN:3≤N) (k:String) (l:List AV) (r c:Nat) (hl:AV.ncs l=true) (H:AH):(RN N).f 763 [.str k,.lst l,.lst [.int r,.int c],.lst [.none,.none]] H=.ok (vec k l (dimA r c)) H:=by
 refine Qaa Qh4 (by omega) (ρ:=[.str k,.lst l,.lst [.int r,.int c],.lst [.none,.none],uS,uS]) rfl (by simp[AV.ncs,AV.nc,hl]) (H':=[.dead]) ?_ (by simp[AV.ncs,AV.nc,hl]) H;have i:=QaX (N:=N-1) (by omega) k l [];simp only[List.length_nil,List.nil_append] at i;have ii:=fun H=>QkT (N:=N-1) (by omega) [.int r,.int c] rfl (by simp) H
 have dl:=fun H=>QoL (N:=N-1) (by omega) H
 simp only[Qdt];w_fin
theorem QaZ {N:Nat} (hN:4≤N) (k:String) (l:List AV) (r c:Nat) (hl:AV.ncs l=true) (H:AH):(RN N).f 770 [.str k,.lst l,.lst [.int r,.int c],.none,.none] H=.ok (vec k l (dimA r c)) H:=by
 refine Qaa Qhp (by omega) (ρ:=[.str k,.lst l,.lst [.int r,.int c],.none,.none]) rfl (by simp[AV.ncs,AV.nc,hl]) (H':=[]) ?_ (by simp[AV.ncs,AV.nc,hl]) H;have a:=Qid (N:=N-1) (by omega) k l r c hl [];simp only[QcQ];w_fin
theorem QcG {N:Nat} (hN:5≤N) (k:String) (e:Nat->Nat->AV) (r c:Nat) (hr:r<100) (hc:c<100) (he:∀i j,i<r->j<c->(e i j).nc=true) (H:AH):(RN N).f 777 [vec k (cmj r c e) (dimA r c)] H=.ok (vec k (cmj c r fun i j=>e j i) (dimA c r)) H:=by
 have hl:=QbI he;have hl':AV.ncs (cmj c r fun i j=>e j i)=true:=QbI fun i j hi hj=>he j i hj hi
 refine Qaa Qh5 (by omega) (ρ:=[vec k (cmj r c e) (dimA r c),uS,uS,uS,uS,uS,uS]) rfl (by simp[AV.ncs,AV.nc,hl]) (H':=[.dead]) ?_ (by simp[AV.ncs,AV.nc,hl']) H;have hs:r*c≤90000:=Nat.le_trans (Nat.mul_le_mul (Nat.le_of_lt hr) (Nat.le_of_lt hc)) (by decide);have d:=Qi9 (N:=N-1) (by omega) k (cmj r c e) r c hl [];have ax:=fun i H=>Qe1 (N:=N-1) (by omega) k (cmj r c e) r c i hl H
 have nm:=fun H=>QaZ (N:=N-1) (by omega) k (cmj c r fun i j=>e j i) c r hl' H
 have e1:decide (((0+1+1:Nat):Int)=1)=false:=rfl;have r6:r<1000000:=by omega
 have c6:c<1000000:=by omega
 have len:(cmj r c e).length≤1000000:=by rw[QaA]; omega
 obtain⟨x',y',post',hp',fl⟩:=Qcl (C:=RN (N-1)) (kc:=5) (kp:=6) (q:=0) (r:=c) (c:=r) (itR:=.range1 D3) (b:=B7) (pre:=[vec k (cmj r c e) (dimA r c),.lst [.int r,.int c],.int r,.int c,.cell 0]) (e:=fun i j=>e j i) rfl rfl (by rw[Nat.mul_comm]; exact hs)
  (fun j y post H hj hp=>by w_fin) (fun i j post l hi hj hp hl9=>⟨post,hp,by
   have g:=cm_get (e:=e) hj hi;have m:=QbK (a:=i) (b:=r) (by omega) (by omega);have l9:l.length≤100000:=by omega
   clear he hl hl' nm ax d;w_fin⟩) uS uS [] rfl
 obtain rfl:=List.eq_nil_of_length_eq_zero hp';simp only[List.cons_append,List.nil_append] at fl;clear he;simp only[Qdu];w_fin
theorem Qk3 {N:Nat} (hN:4≤N) (l m:List AV) (r1 c1 r2 c2:Nat) (hl:AV.ncs l=true) (hm:AV.ncs m=true) (h:c1=r2) (H:AH):(RN N).f 791 [vec "double" l (dimA r1 c1),vec "double" m (dimA r2 c2)] H=.ok (.tup [.tup [.int r1,.int c1],.tup [.int r2,.int c2]]) H:=by
 refine Qaa QcJ (by omega) (ρ:=[vec "double" l (dimA r1 c1),vec "double" m (dimA r2 c2),uS,uS,uS,uS]) rfl (by simp[AV.ncs,AV.nc,hl,hm]) (H':=[]) ?_ rfl H;have m1:=fun H=>Qau (N:=N-1) (by omega) "double" l r1 c1 hl H
 have m2:=fun H=>Qau (N:=N-1) (by omega) "double" m r2 c2 hm H
 have s1:=fun H=>Qao (N:=N-1) (by omega) "double" l r1 c1 hl H
 have s2:=fun H=>Qao (N:=N-1) (by omega) "double" m r2 c2 hm H
 subst h;simp only[Qa7];w_fin
theorem QjL {N:Nat} (hN:4≤N) (l m:List AV) (r1 c1 r2 c2:Nat) (hl:AV.ncs l=true) (hm:AV.ncs m=true) (h:c1≠r2) (H:AH):(RN N).f 791 [vec "double" l (dimA r1 c1),vec "double" m (dimA r2 c2)] H=.exc (.str "non-conformable arguments") H:=by
 refine Qby QcJ (by omega) (ρ:=[vec "double" l (dimA r1 c1),vec "double" m (dimA r2 c2),uS,uS,uS,uS]) rfl (by simp[AV.ncs,AV.nc,hl,hm]) (H':=[]) ?_ rfl H;have m1:=fun H=>Qau (N:=N-1) (by omega) "double" l r1 c1 hl H
 have m2:=fun H=>Qau (N:=N-1) (by omega) "double" m r2 c2 hm H
 have s1:=fun H=>Qao (N:=N-1) (by omega) "double" l r1 c1 hl H
 have s2:=fun H=>Qao (N:=N-1) (by omega) "double" m r2 c2 hm H
 have e:((c1:Int)=r2)=False:=by simp; omega
 clear h;simp only[Qa7];w_fin
theorem QaQ {N:Nat} (hN:3≤N) (l:List AV) (r c:Nat) (hl:AV.ncs l=true) (H:AH):(RN N).f 805 [vec "double" l (dimA r c)] H=.ok (vec "double" l (dimA r c)) H:=by
 refine Qaa Qh6 (by omega) (ρ:=[vec "double" l (dimA r c)]) rfl (by simp[AV.ncs,AV.nc,hl]) (H':=[]) ?_ (by simp[AV.ncs,AV.nc,hl]) H;have m1:=fun H=>Qau (N:=N-1) (by omega) "double" l r c hl H
 simp only[Qdv];w_fin
def osum (f:Nat->Option Rat):Nat->Option Rat
 | 0=>some 0
 | n+1=>oadd (osum f n) (f n)
theorem QoM:qo (some 0)=.tup [.int 0,.int 1]:=rfl
theorem Qhw {N:Nat} (hN:6≤N) (xu xv:Nat->Nat->Option Rat) (r1 c1 c2:Nat) (h1:r1<100) (h2:c1<100) (h3:c2<100) (hu:∀i j,i<r1->j<c1->ho 2000 (xu i j)) (hv:∀i j,i<c1->j<c2->ho 2000 (xv i j))
  (hm:∀i j s,i<r1->j<c2->s<c1->ho 2000 (omul (xu i s) (xv s j))) (hs:∀i j s,i<r1->j<c2->s<c1->ho 2000 (osum (fun s=>omul (xu i s) (xv s j)) s)) (H:AH) :
  (RN N).f 798 [vec "double" (cmj r1 c1 fun i j=>qo (xu i j)) (dimA r1 c1),vec "double" (cmj c1 c2 fun i j=>qo (xv i j)) (dimA c1 c2)] H =
   .ok (vec "double" (cmj r1 c2 fun i j=>qo (osum (fun s=>omul (xu i s) (xv s j)) c1)) (dimA r1 c2)) H:=by
 have hl:AV.ncs (cmj r1 c1 fun i j=>qo (xu i j))=true:=QbI fun i j _ _=>QbW _
 have hl2:AV.ncs (cmj c1 c2 fun i j=>qo (xv i j))=true:=QbI fun i j _ _=>QbW _
 have hl3:AV.ncs (cmj r1 c2 fun i j=>qo (osum (fun s=>omul (xu i s) (xv s j)) c1))=true:=QbI fun i j _ _=>QbW _
 have n1:r1*c1≤90000:=Nat.le_trans (Nat.mul_le_mul (Nat.le_of_lt h1) (Nat.le_of_lt h2)) (by decide);have n2:c1*c2≤90000:=Nat.le_trans (Nat.mul_le_mul (Nat.le_of_lt h2) (Nat.le_of_lt h3)) (by decide);have n3:r1*c2≤90000:=Nat.le_trans (Nat.mul_le_mul (Nat.le_of_lt h1) (Nat.le_of_lt h3)) (by decide);refine Qaa Qhr (by omega) (ρ:=[vec "double" (cmj r1 c1 fun i j=>qo (xu i j)) (dimA r1 c1),vec "double" (cmj c1 c2 fun i j=>qo (xv i j)) (dimA c1 c2),uS,uS,uS,uS,uS,uS,uS,uS,uS,uS,uS]) rfl (by simp[AV.ncs,AV.nc,hl,hl2]) (H':=[.dead]) ?_ (by simp[AV.ncs,AV.nc,hl3]) H
 have len1:(cmj r1 c1 fun i j=>qo (xu i j)).length≤1000000:=by rw[QaA]; omega
 have len2:(cmj c1 c2 fun i j=>qo (xv i j)).length≤1000000:=by rw[QaA]; omega
 have nu:=QaY (N:=N-1) (by omega) (cmj r1 c1 fun i j=>qo (xu i j)) (dimA r1 c1) (.inr ⟨_,_,rfl⟩) hl (by rw[QaA]; omega) [];have nv:=QaY (N:=N-1) (by omega) (cmj c1 c2 fun i j=>qo (xv i j)) (dimA c1 c2) (.inr ⟨_,_,rfl⟩) hl2 (by rw[QaA]; omega) [];have ps:=Qk3 (N:=N-1) (by omega) (cmj r1 c1 fun i j=>qo (xu i j)) (cmj c1 c2 fun i j=>qo (xv i j)) r1 c1 c1 c2 hl hl2 rfl [];have rm:=QkS (N:=N-1) (by omega) (r1*c2) (by omega) [];have mm:=QbK (a:=r1) (b:=c2) (by omega) (by omega);have im1:=fun H=>Qau (N:=N-1) (by omega) "double" (cmj r1 c1 fun i j=>qo (xu i j)) r1 c1 hl H
 have im2:=fun H=>Qau (N:=N-1) (by omega) "double" (cmj c1 c2 fun i j=>qo (xv i j)) c1 c2 hl2 H
 have ax1:=fun i H=>Qe1 (N:=N-1) (by omega) "double" (cmj r1 c1 fun i j=>qo (xu i j)) r1 c1 i hl H
 have ax2:=fun i H=>Qe1 (N:=N-1) (by omega) "double" (cmj c1 c2 fun i j=>qo (xv i j)) c1 c2 i hl2 H
 have nm:=fun H=>QaZ (N:=N-1) (by omega) "double" (cmj r1 c2 fun i j=>qo (osum (fun s=>omul (xu i s) (xv s j)) c1)) r1 c2 hl3 H
 have q1:r1<1000000:=by omega
 have q2:c1<1000000:=by omega
 have q3:c2<1000000:=by omega
 have z:=QoM;obtain⟨x',y',post',hp',fl⟩:=Qcl (C:=RN (N-1)) (kc:=7) (kp:=8) (q:=4) (r:=r1) (c:=c2) (itR:=.range1 D81)
  (b:=B29)
  (pre:=[vec "double" (cmj r1 c1 fun i j=>qo (xu i j)) (dimA r1 c1),vec "double" (cmj c1 c2 fun i j=>qo (xv i j)) (dimA c1 c2),.lst (cmj r1 c1 fun i j=>qo (xu i j)),.lst (cmj c1 c2 fun i j=>qo (xv i j)),.tup [.int r1,.int c1],.tup [.int c1,.int c2],.cell 0]) (e:=fun i j=>qo (osum (fun s=>omul (xu i s) (xv s j)) c1)) rfl rfl n3
  (fun j y post H hj hp=>by clear hu hv hm hs; w_fin) (fun i j post l hi hj hp hl9=>by
   obtain⟨p0,p1,p2,p3,rfl⟩:∃a b c d,post=[a,b,c,d]:=by
    match post,hp with
    | [a,b,c,d],_=>exact⟨a,b,c,d,rfl⟩
   have l9:l.length≤100000:=by omega
   obtain⟨ρ_1,H_1,e2,st,rfl,rfl⟩:=QaE (C:=RN (N-1)) (k:=10) (b:=B23) (n:=c1)
    (P:=fun s ρ H=>∃st,ρ=[vec "double" (cmj r1 c1 fun i j=>qo (xu i j)) (dimA r1 c1),vec "double" (cmj c1 c2 fun i j=>qo (xv i j)) (dimA c1 c2),.lst (cmj r1 c1 fun i j=>qo (xu i j)),.lst (cmj c1 c2 fun i j=>qo (xv i j)),.tup [.int r1,.int c1],.tup [.int c1,.int c2],.cell 0,.int j,.int i,qo (osum (fun s=>omul (xu i s) (xv s j)) s),st,p2,p3]∧H=[.lst l])
    (fun s hs' ρ H ⟨st,h1',h2'⟩=>by
     subst h1' h2';have g1:=cm_get (e:=fun i j=>qo (xu i j)) hi hs';have g2:=cm_get (e:=fun i j=>qo (xv i j)) hs' hj;have m1:=QbK (a:=s) (b:=r1) (by omega) (by omega);have m2:=QbK (a:=j) (b:=c1) (by omega) (by omega);have o1:=fun H=>Qmo (N:=N-1) (by omega) (xu i s) (xv s j) (hu i s hi hs') (hv s j hs' hj) H
     have o2:=fun H=>Qrd (N:=N-1) (by omega) (osum (fun s=>omul (xu i s) (xv s j)) s) (omul (xu i s) (xv s j)) (hs i j s hi hj hs') (hm i j s hi hj hs') H
     clear hu hv hm hs hl hl2 hl3 nu nv ps rm im1 im2 ax1 ax2 nm z;refine⟨.next,_,_,?_,.inl rfl,.int s,rfl,rfl⟩;w_fin;rfl) (ρ:=[vec "double" (cmj r1 c1 fun i j=>qo (xu i j)) (dimA r1 c1),vec "double" (cmj c1 c2 fun i j=>qo (xv i j)) (dimA c1 c2),.lst (cmj r1 c1 fun i j=>qo (xu i j)),.lst (cmj c1 c2 fun i j=>qo (xv i j)),.tup [.int r1,.int c1],.tup [.int c1,.int c2],.cell 0,.int j,.int i,.tup [.int 0,.int 1],p1,p2,p3]) (H:=[.lst l]) ⟨p1,rfl,rfl⟩
   refine⟨[qo (osum (fun s=>omul (xu i s) (xv s j)) c1),st,p2,p3],rfl,?_⟩;clear hu hv hm hs hl hl2 hl3 nu nv ps rm im1 im2 ax1 ax2 nm z;w_fin) uS uS [uS,uS,uS,uS] rfl
 obtain⟨p0,p1,p2,p3,rfl⟩:∃a b c d,post'=[a,b,c,d]:=by
  match post',hp' with
  | [a,b,c,d],_=>exact⟨a,b,c,d,rfl⟩
 simp only[List.cons_append,List.nil_append] at fl;clear hu hv hm hs z;simp only[QdR];w_fin
section
abbrev mtx (r c:Nat) (x:Nat->Nat->Option Rat):AV:=vec "double" (cmj r c fun i j=>qo (x i j)) (dimA r c)
theorem QaS (r c:Nat) (x:Nat->Nat->Option Rat):(mtx r c x).nc=true:=by
 have h:AV.ncs (cmj r c fun i j=>qo (x i j))=true:=QbI fun i j _ _=>QbW _
 simp[AV.nc,AV.ncs,h]
theorem Qac (r c:Nat) (x:Nat->Nat->Option Rat):AV.ncs (cmj r c fun i j=>qo (x i j))=true:=QbI fun i j _ _=>QbW _
theorem QfK {N:Nat} (hN:6≤N) (l m:List AV) (r1 c1 r2 c2:Nat) (hl:AV.ncs l=true) (hm:AV.ncs m=true) (ll:l.length≤100000) (lm:m.length≤100000) (h:c1≠r2) (H:AH):(RN N).f 798 [vec "double" l (dimA r1 c1),vec "double" m (dimA r2 c2)] H=.exc (.str "non-conformable arguments") H:=by
 refine Qby Qhr (by omega) (ρ:=[vec "double" l (dimA r1 c1),vec "double" m (dimA r2 c2),uS,uS,uS,uS,uS,uS,uS,uS,uS,uS,uS]) rfl (by simp[AV.ncs,AV.nc,hl,hm]) (H':=[]) ?_ rfl H;have nu:=QaY (N:=N-1) (by omega) l (dimA r1 c1) (.inr ⟨_,_,rfl⟩) hl ll [];have nv:=QaY (N:=N-1) (by omega) m (dimA r2 c2) (.inr ⟨_,_,rfl⟩) hm lm [];have ps:=QjL (N:=N-1) (by omega) l m r1 c1 r2 c2 hl hm h [];clear h;simp only[QdR];w_fin
section
variable {N:Nat} (xu xv:Nat->Nat->Option Rat)
theorem Qk4 (hN:7≤N) (r cu cv:Nat) (h1:r<100) (h2:cu<100) (h3:cv<100) (hu:∀i j,i<r->j<cu->ho 2000 (xu i j)) (hv:∀i j,i<r->j<cv->ho 2000 (xv i j))
  (hm:∀i j s,i<cu->j<cv->s<r->ho 2000 (omul (xu s i) (xv s j))) (hs:∀i j s,i<cu->j<cv->s<r->ho 2000 (osum (fun s=>omul (xu s i) (xv s j)) s)) (H:AH) :
  (RN N).f 812 [mtx r cu xu,mtx r cv xv] H=.ok (mtx cu cv fun i j=>osum (fun s=>omul (xu s i) (xv s j)) r) H:=by
 refine Qaa QkN (by omega) (ρ:=[mtx r cu xu,mtx r cv xv]) rfl (by simp only[AV.ncs,QaS]; rfl) (H':=[]) ?_ (QaS _ _ _) H;have a1:=QaQ (N:=N-1) (by omega) _ r cu (Qac r cu xu) [];have a2:=QaQ (N:=N-1) (by omega) _ r cv (Qac r cv xv) [];have t:=QcG (N:=N-1) (by omega) "double" (fun i j=>qo (xu i j)) r cu h1 h2 (fun i j _ _=>QbW _) [];have m:=Qhw (N:=N-1) (by omega) (fun i j=>xu j i) xv cu r cv h2 h1 h3 (fun i j hi hj=>hu j i hj hi) hv hm hs [];clear hu hv hm hs;simp only[Qgg];w_fin
theorem Qmx (hN:7≤N) (ru cu rv cv:Nat) (h1:ru<100) (h2:cu<100) (h3:rv<100) (h4:cv<100) (h:ru≠rv) (H:AH):(RN N).f 812 [mtx ru cu xu,mtx rv cv xv] H=.exc (.str "non-conformable arguments") H:=by
 have n1:ru*cu≤90000:=Nat.le_trans (Nat.mul_le_mul (Nat.le_of_lt h1) (Nat.le_of_lt h2)) (by decide);have n2:rv*cv≤90000:=Nat.le_trans (Nat.mul_le_mul (Nat.le_of_lt h3) (Nat.le_of_lt h4)) (by decide);refine Qby QkN (by omega) (ρ:=[mtx ru cu xu,mtx rv cv xv]) rfl (by simp only[AV.ncs,QaS]; rfl) (H':=[]) ?_ rfl H;have a1:=QaQ (N:=N-1) (by omega) _ ru cu (Qac ru cu xu) [];have a2:=QaQ (N:=N-1) (by omega) _ rv cv (Qac rv cv xv) [];have t:=QcG (N:=N-1) (by omega) "double" (fun i j=>qo (xu i j)) ru cu h1 h2 (fun i j _ _=>QbW _) [];have m:=QfK (N:=N-1) (by omega) (cmj cu ru fun i j=>qo (xu j i)) (cmj rv cv fun i j=>qo (xv i j)) cu ru rv cv (Qac cu ru fun i j=>xu j i) (Qac rv cv xv) (by rw[QaA,Nat.mul_comm]; omega) (by rw[QaA]; omega) h [];clear h;simp only[Qgg];w_fin
theorem Qa3 (hN:5≤N) (l m:List AV) (t u:AV) (hl:AV.ncs l=true) (hm:AV.ncs m=true) (ht:t.nc=true) (hu:u.nc=true) (H:AH):(RN N).f 954 [.lst [.tup [.none,vec "double" l t],.tup [.none,vec "double" m u]]] H=.ok (.tup [vec "double" l t,vec "double" m u]) H:=by
 refine Qaa Qgn (by omega) (ρ:=[.lst [.tup [.none,vec "double" l t],.tup [.none,vec "double" m u]],uS,uS,uS]) rfl (by simp[AV.ncs,AV.nc,hl,hm,ht,hu]) (H':=[]) ?_ (by simp[AV.ncs,AV.nc,hl,hm,ht,hu]) H;have tk:=Qcd (N:=N-1) (by omega) "x" "y" (vec "double" l t) (vec "double" m u) (by decide) (by decide) (by decide) (by simp[AV.ncs,AV.nc,hl,ht]) (by simp[AV.ncs,AV.nc,hm,hu]) [];have i1:=fun H=>Qak (N:=N-1) (by omega) "double" l t hl ht H
 have i2:=fun H=>Qak (N:=N-1) (by omega) "double" m u hm hu H
 simp only[Qcy];w_fin
theorem Qie (hN:8≤N) (r cu cv:Nat) (h1:r<100) (h2:cu<100) (h3:cv<100) (hu:∀i j,i<r->j<cu->ho 2000 (xu i j)) (hv:∀i j,i<r->j<cv->ho 2000 (xv i j))
  (hm:∀i j s,i<cu->j<cv->s<r->ho 2000 (omul (xu s i) (xv s j))) (hs:∀i j s,i<cu->j<cv->s<r->ho 2000 (osum (fun s=>omul (xu s i) (xv s j)) s)) (H:AH) :
  (RN N).f 961 [.none,.lst [.tup [.none,mtx r cu xu],.tup [.none,mtx r cv xv]],.none] H=.ok (mtx cu cv fun i j=>osum (fun s=>omul (xu s i) (xv s j)) r) H:=by
 refine Qaa QcD (by omega) (ρ:=[.none,.lst [.tup [.none,mtx r cu xu],.tup [.none,mtx r cv xv]],.none,uS,uS]) rfl (by simp only[AV.ncs,AV.nc,Qac]; rfl) (H':=[]) ?_ (QaS _ _ _) H;have tk:=Qcd (N:=N-1) (by omega) "x" "y" (mtx r cu xu) (mtx r cv xv) (by decide) (by decide) (by decide) (QaS _ _ _) (QaS _ _ _) [];have tv:=Qa3 (N:=N-1) (by omega) _ _ (dimA r cu) (dimA r cv) (Qac r cu xu) (Qac r cv xv) rfl rfl [];have cr:=Qk4 (N:=N-1) xu xv (by omega) r cu cv h1 h2 h3 hu hv hm hs [];clear hu hv hm hs;simp only[Qbl];w_fin
theorem Qhx (hN:8≤N) (r cu:Nat) (h1:r<100) (h2:cu<100) (hu:∀i j,i<r->j<cu->ho 2000 (xu i j))
  (hm:∀i j s,i<cu->j<cu->s<r->ho 2000 (omul (xu s i) (xu s j))) (hs:∀i j s,i<cu->j<cu->s<r->ho 2000 (osum (fun s=>omul (xu s i) (xu s j)) s)) (H:AH) :
  (RN N).f 961 [.none,.lst [.tup [.none,mtx r cu xu]],.none] H=.ok (mtx cu cu fun i j=>osum (fun s=>omul (xu s i) (xu s j)) r) H:=by
 refine Qaa QcD (by omega) (ρ:=[.none,.lst [.tup [.none,mtx r cu xu]],.none,uS,uS]) rfl (by simp only[AV.ncs,AV.nc,Qac]; rfl) (H':=[]) ?_ (QaS _ _ _) H;have tk:=QeC (N:=N-1) (by omega) "x" "y" (mtx r cu xu) (by decide) (by decide) (by decide) (QaS _ _ _) [];have tv:=Qa3 (N:=N-1) (by omega) _ _ (dimA r cu) (dimA r cu) (Qac r cu xu) (Qac r cu xu) rfl rfl [];have cr:=Qk4 (N:=N-1) xu xu (by omega) r cu cu h1 h2 h2 hu hu hm hs [];clear hu hm hs;simp only[Qbl];w_fin
theorem Qhy (hN:8≤N) (ru cu rv cv:Nat) (h1:ru<100) (h2:cu<100) (h3:rv<100) (h4:cv<100) (h:ru≠rv) (H:AH) :
  (RN N).f 961 [.none,.lst [.tup [.none,mtx ru cu xu],.tup [.none,mtx rv cv xv]],.none] H=.exc (.str "non-conformable arguments") H:=by
 refine Qby QcD (by omega) (ρ:=[.none,.lst [.tup [.none,mtx ru cu xu],.tup [.none,mtx rv cv xv]],.none,uS,uS]) rfl (by simp only[AV.ncs,AV.nc,Qac]; rfl) (H':=[]) ?_ rfl H;have tk:=Qcd (N:=N-1) (by omega) "x" "y" (mtx ru cu xu) (mtx rv cv xv) (by decide) (by decide) (by decide) (QaS _ _ _) (QaS _ _ _) [];have tv:=Qa3 (N:=N-1) (by omega) _ _ (dimA ru cu) (dimA rv cv) (Qac ru cu xu) (Qac rv cv xv) rfl rfl [];have cr:=Qmx (N:=N-1) xu xv (by omega) ru cu rv cv h1 h2 h3 h4 h [];clear h;simp only[Qbl];w_fin
theorem Qhz (hN:7≤N) (c ru rv:Nat) (h1:c<100) (h2:ru<100) (h3:rv<100) (hu:∀i j,i<ru->j<c->ho 2000 (xu i j)) (hv:∀i j,i<rv->j<c->ho 2000 (xv i j))
  (hm:∀i j s,i<ru->j<rv->s<c->ho 2000 (omul (xu i s) (xv j s))) (hs:∀i j s,i<ru->j<rv->s<c->ho 2000 (osum (fun s=>omul (xu i s) (xv j s)) s)) (H:AH) :
  (RN N).f 968 [.none,.lst [.tup [.none,mtx ru c xu],.tup [.none,mtx rv c xv]],.none] H=.ok (mtx ru rv fun i j=>osum (fun s=>omul (xu i s) (xv j s)) c) H:=by
 refine Qaa Qdh (by omega) (ρ:=[.none,.lst [.tup [.none,mtx ru c xu],.tup [.none,mtx rv c xv]],.none,uS,uS]) rfl (by simp only[AV.ncs,AV.nc,Qac]; rfl) (H':=[]) ?_ (QaS _ _ _) H;have tk:=Qcd (N:=N-1) (by omega) "x" "y" (mtx ru c xu) (mtx rv c xv) (by decide) (by decide) (by decide) (QaS _ _ _) (QaS _ _ _) [];have tv:=Qa3 (N:=N-1) (by omega) _ _ (dimA ru c) (dimA rv c) (Qac ru c xu) (Qac rv c xv) rfl rfl [];have a1:=QaQ (N:=N-1) (by omega) _ ru c (Qac ru c xu) [];have a2:=QaQ (N:=N-1) (by omega) _ rv c (Qac rv c xv) [];have t:=QcG (N:=N-1) (by omega) "double" (fun i j=>qo (xv i j)) rv c h3 h1 (fun i j _ _=>QbW _) [];have m:=Qhw (N:=N-1) (by omega) xu (fun i j=>xv j i) ru c rv h2 h1 h3 hu (fun i j hi hj=>hv j i hj hi) hm hs [];clear hu hv hm hs;simp only[Qbx];w_fin
theorem Qgv (hN:7≤N) (ru cu rv cv:Nat) (h1:ru<100) (h2:cu<100) (h3:rv<100) (h4:cv<100) (h:cu≠cv) (H:AH) :
  (RN N).f 968 [.none,.lst [.tup [.none,mtx ru cu xu],.tup [.none,mtx rv cv xv]],.none] H=.exc (.str "non-conformable arguments") H:=by
 have n1:ru*cu≤90000:=Nat.le_trans (Nat.mul_le_mul (Nat.le_of_lt h1) (Nat.le_of_lt h2)) (by decide);have n2:rv*cv≤90000:=Nat.le_trans (Nat.mul_le_mul (Nat.le_of_lt h3) (Nat.le_of_lt h4)) (by decide);refine Qby Qdh (by omega) (ρ:=[.none,.lst [.tup [.none,mtx ru cu xu],.tup [.none,mtx rv cv xv]],.none,uS,uS]) rfl (by simp only[AV.ncs,AV.nc,Qac]; rfl) (H':=[]) ?_ rfl H;have tk:=Qcd (N:=N-1) (by omega) "x" "y" (mtx ru cu xu) (mtx rv cv xv) (by decide) (by decide) (by decide) (QaS _ _ _) (QaS _ _ _) [];have tv:=Qa3 (N:=N-1) (by omega) _ _ (dimA ru cu) (dimA rv cv) (Qac ru cu xu) (Qac rv cv xv) rfl rfl [];have a1:=QaQ (N:=N-1) (by omega) _ ru cu (Qac ru cu xu) [];have a2:=QaQ (N:=N-1) (by omega) _ rv cv (Qac rv cv xv) [];have t:=QcG (N:=N-1) (by omega) "double" (fun i j=>qo (xv i j)) rv cv h3 h4 (fun i j _ _=>QbW _) []
 have m:=QfK (N:=N-1) (by omega) (cmj ru cu fun i j=>qo (xu i j)) (cmj cv rv fun i j=>qo (xv j i)) ru cu cv rv (Qac ru cu xu) (Qac cv rv fun i j=>xv j i) (by rw[QaA]; omega) (by rw[QaA,Nat.mul_comm]; omega) h [];clear h;simp only[Qbx];w_fin
end
end
section
section
variable {N:Nat} (xu xv:Nat->Nat->Option Rat)
theorem Qif (hN:6≤N) (ru cu rv cv:Nat) (h1:ru<6) (h2:cu<6) (h3:rv<6) (h4:cv<6) (p3:0<rv) (p4:0<cv) (hu:∀i j,i<ru->j<cu->ho 2000 (xu i j)) (hv:∀i j,i<rv->j<cv->ho 2000 (xv i j)) (H:AH) :
  (RN N).f 975 [.none,.lst [.tup [.none,mtx ru cu xu],.tup [.none,mtx rv cv xv]],.none] H=.ok (mtx (ru*rv) (cu*cv) fun i j=>omul (xu (i / rv) (j / cv)) (xv (i % rv) (j % cv))) H:=by
 have q1:ru*rv≤25:=Nat.mul_le_mul (Nat.le_of_lt_succ h1) (Nat.le_of_lt_succ h3);have q2:cu*cv≤25:=Nat.mul_le_mul (Nat.le_of_lt_succ h2) (Nat.le_of_lt_succ h4);have q3:ru*rv*cu≤125:=Nat.mul_le_mul q1 (Nat.le_of_lt_succ h2);have q4:ru*rv*cu*cv≤625:=Nat.mul_le_mul q3 (Nat.le_of_lt_succ h4);have q5:ru*rv*(cu*cv)≤625:=Nat.mul_le_mul q1 q2;have q6:ru*cu≤25:=Nat.mul_le_mul (Nat.le_of_lt_succ h1) (Nat.le_of_lt_succ h2);have q7:rv*cv≤25:=Nat.mul_le_mul (Nat.le_of_lt_succ h3) (Nat.le_of_lt_succ h4);refine Qaa Qgo (by omega) (ρ:=[.none,.lst [.tup [.none,mtx ru cu xu],.tup [.none,mtx rv cv xv]],.none,uS,uS,uS,uS,uS,uS,uS,uS,uS,uS,uS,uS]) rfl (by simp only[AV.ncs,AV.nc,Qac]; rfl) (H':=[.dead]) ?_ (QaS _ _ _) H;have tk:=Qcd (N:=N-1) (by omega) "X" "Y" (mtx ru cu xu) (mtx rv cv xv) (by decide) (by decide) (by decide) (QaS _ _ _) (QaS _ _ _) []
 have tv:=Qa3 (N:=N-1) (by omega) _ _ (dimA ru cu) (dimA rv cv) (Qac ru cu xu) (Qac rv cv xv) rfl rfl [];have nu:=QaY (N:=N-1) (by omega) _ (dimA ru cu) (.inr ⟨_,_,rfl⟩) (Qac ru cu xu) (by rw[QaA]; omega) [];have nv:=QaY (N:=N-1) (by omega) _ (dimA rv cv) (.inr ⟨_,_,rfl⟩) (Qac rv cv xv) (by rw[QaA]; omega) [];have s1:=fun H=>Qao (N:=N-1) (by omega) "double" _ ru cu (Qac ru cu xu) H
 have s2:=fun H=>Qao (N:=N-1) (by omega) "double" _ rv cv (Qac rv cv xv) H
 have m1:=QbK (a:=ru) (b:=rv) (by omega) (by omega);have m2:=QbK (a:=ru*rv) (b:=cu) (by omega) (by omega);have m3:=QbK (a:=ru*rv*cu) (b:=cv) (by omega) (by omega);have m4:=QbK (a:=cu) (b:=cv) (by omega) (by omega);have rm:=QkS (N:=N-1) (by omega) (ru*rv*cu*cv) (by omega) [];have nm:=fun H=>QaZ (N:=N-1) (by omega) "double" _ (ru*rv) (cu*cv) (Qac (ru*rv) (cu*cv) fun i j=>omul (xu (i / rv) (j / cv)) (xv (i % rv) (j % cv))) H
 have inn:AV.ncs (cmj (ru*rv) (cu*cv) fun i j=>qo (omul (xu (i / rv) (j / cv)) (xv (i % rv) (j % cv))))=true:=QbI fun i j _ _=>QbW _
 have z1:ru*rv<1000000:=by omega
 have z2:cu*cv<1000000:=by omega
 obtain⟨x',y',post',hp',fl⟩:=Qcl (C:=RN (N-1)) (kc:=12) (kp:=13) (q:=1) (r:=ru*rv) (c:=cu*cv) (itR:=.range1 D113)
  (b:=B25)
  (pre:=[.none,.lst [.tup [.none,mtx ru cu xu],.tup [.none,mtx rv cv xv]],.none,mtx ru cu xu,mtx rv cv xv,.lst (cmj ru cu fun i j=>qo (xu i j)),.lst (cmj rv cv fun i j=>qo (xv i j)),.int ru,.int cu,.int rv,.int cv,.cell 0]) (e:=fun i j=>qo (omul (xu (i / rv) (j / cv)) (xv (i % rv) (j % cv)))) rfl rfl (by omega)
  (fun j y post H hj hp=>by clear hu hv; w_fin) (fun i j post l hi hj hp hl9=>by
   obtain⟨p0,rfl⟩:∃a,post=[a]:=by
    match post,hp with
    | [a],_=>exact⟨a,rfl⟩
   have l9:l.length≤100000:=by omega
   have i1:i / rv<ru:=Nat.div_lt_of_lt_mul (by rw[Nat.mul_comm]; exact hi);have i2:j / cv<cu:=Nat.div_lt_of_lt_mul (by rw[Nat.mul_comm]; exact hj);have i3:i % rv<rv:=Nat.mod_lt _ p3;have i4:j % cv<cv:=Nat.mod_lt _ p4;have g1:=cm_get (e:=fun i j=>qo (xu i j)) i1 i2;have g2:=cm_get (e:=fun i j=>qo (xv i j)) i3 i4;have d1:=QkE (a:=j) (b:=cv) (by omega) (by omega);have d2:=QkE (a:=i) (b:=rv) (by omega) (by omega);have d3:=QkF (a:=j) (b:=cv) (by omega) (by omega);have d4:=QkF (a:=i) (b:=rv) (by omega) (by omega);have e1:=QbK (a:=j / cv) (b:=ru) (by omega) (by omega);have e2:=QbK (a:=j % cv) (b:=rv) (by omega) (by omega);have len1:(cmj ru cu fun i j=>qo (xu i j)).length≤1000000:=by rw[QaA]; omega
   have len2:(cmj rv cv fun i j=>qo (xv i j)).length≤1000000:=by rw[QaA]; omega
   have o1:=fun H=>Qmo (N:=N-1) (by omega) _ _ (hu _ _ i1 i2) (hv _ _ i3 i4) H
   refine⟨[qo (xu (i / rv) (j / cv))],rfl,?_⟩;clear hu hv tk tv nu nv s1 s2 rm nm;w_fin) uS uS [uS] rfl
 obtain⟨p0,rfl⟩:∃a,post'=[a]:=by
  match post',hp' with
  | [a],_=>exact⟨a,rfl⟩
 simp only[List.cons_append,List.nil_append] at fl;clear hu hv;simp only[Qcz];w_fin
theorem Qjd (r c:Nat):(if (c:Int)<r then (c:Int) else r)=((min r c:Nat):Int):=by
 split<;>omega
theorem Qk5 (hN:4≤N) (r c:Nat) (h1:r<100) (h2:c<100) (H:AH):(RN N).f 870 [mtx r c xu] H=.ok (vec "double" ((List.range (min r c)).map fun p=>qo (xu p p)) .none) H:=by
 have hn:AV.ncs ((List.range (min r c)).map fun p=>qo (xu p p))=true:=QaV fun x hx=>by
  obtain⟨p,_,rfl⟩:=List.mem_map.mp hx; exact QbW _
 refine Qaa QkO (by omega) (ρ:=[mtx r c xu,uS,uS,uS,uS,uS,uS,uS,uS]) rfl (by simp only[AV.ncs,AV.nc,Qac]; rfl) (H':=[.dead]) ?_ (by simp[AV.nc,AV.ncs,hn]) H;have n1:r*c≤90000:=Nat.le_trans (Nat.mul_le_mul (Nat.le_of_lt h1) (Nat.le_of_lt h2)) (by decide);have s1:=Qao (N:=N-1) (by omega) "double" _ r c (Qac r c xu) [];have ax:=fun i H=>Qe1 (N:=N-1) (by omega) "double" _ r c i (Qac r c xu) H
 have iv:=QaX (N:=N-1) (by omega) "double" ((List.range (min r c)).map fun p=>qo (xu p p)) []
 simp only[List.length_nil,List.nil_append] at iv;have mc:=Qjd r c;have len:(cmj r c fun i j=>qo (xu i j)).length≤1000000:=by rw[QaA]; omega
 have mm:min r c<1000000:=by omega
 have cm:evE (RN (N-1)) [mtx r c xu,.int r,.int c,.int ((min r c:Nat):Int),uS,uS,uS,uS,uS] D67 []=.ok (.lst ((List.range (min r c)).map fun p=>qo (xu p p))) []:=by
  refine (Qah (v:=.rng 0 (min r c:Nat)) (l:=(List.range (min r c)).map fun (i:Nat)=>AV.int (i:Int)) (g:=fun x=>match x with | .int i=>qo (xu i.toNat i.toNat) | _=>.none) (by w_fin) QaP (by simp; omega) rfl fun x hx=>?_).trans (by simp only[newC,List.map_map]; rfl)
  obtain⟨p,hp,rfl⟩:=List.mem_map.mp hx;have hp:p<min r c:=by simpa using hp
  have g:=cm_get (e:=fun i j=>qo (xu i j)) (show p<r by omega) (show p<c by omega);have m:=QbK (a:=p) (b:=r) (by omega) (by omega);exact⟨_,rfl,by clear s1 ax iv; w_fin⟩
 simp only[QeS];w_fin
end
theorem QdX {N:Nat} (hN:5≤N) (l:List AV) (r c:Nat) (h1:r<100) (h2:c<100) (hl:AV.ncs l=true) (h0:0<l.length) (ll:l.length≤90000) (H:AH) :
  (RN N).f 877 [vec "double" l .none,.int r,.int c] H=.ok (vec "double" (cmj r c fun i j=>if i=j then (l[i % l.length]?).getD .none else .tup [.int 0,.int 1]) (dimA r c)) H:=by
 have inn:AV.ncs (cmj r c fun i j=>if i=j then (l[i % l.length]?).getD .none else .tup [.int 0,.int 1])=true:=QbI fun i j _ _=>by
  split
  ·cases h:l[i % l.length]? with
   | none=>rfl
   | some x=>exact Qgu hl x (List.mem_of_getElem? h)
  ·rfl
 refine Qaa Qgm (by omega) (ρ:=[vec "double" l .none,.int r,.int c,uS,uS,uS,uS]) rfl (by simp[AV.ncs,AV.nc,hl]) (H':=[.dead]) ?_ (by simp[AV.nc,AV.ncs,inn]) H;have n1:r*c≤90000:=Nat.le_trans (Nat.mul_le_mul (Nat.le_of_lt h1) (Nat.le_of_lt h2)) (by decide);have m1:=QbK (a:=r) (b:=c) (by omega) (by omega);have rm:=QkS (N:=N-1) (by omega) (r*c) (by omega) [];have nm:=fun H=>QaZ (N:=N-1) (by omega) "double" _ r c inn H
 have z1:r<1000000:=by omega
 have z2:c<1000000:=by omega
 have z3:l.length≤1000000:=by omega
 have gt:decide ((l.length:Int)>0)=true:=decide_eq_true (show (l.length:Int)>0 by omega);obtain⟨x',y',post',hp',fl⟩:=Qcl (C:=RN (N-1)) (kc:=5) (kp:=6) (q:=0) (r:=r) (c:=c) (itR:=.range1 D1)
  (b:=B21)
  (pre:=[vec "double" l .none,.int r,.int c,.tup [.int 0,.int 1],.cell 0]) (e:=fun i j=>if i=j then (l[i % l.length]?).getD .none else .tup [.int 0,.int 1]) rfl rfl n1
  (fun j y post H hj hp=>by w_fin) (fun i j post m hi hj hp hl9=>by
   have l9:m.length≤100000:=by omega
   have d4:=QkF (a:=i) (b:=l.length) (by omega) (by omega);have hlt:i % l.length<l.length:=Nat.mod_lt _ h0;obtain⟨x,hx⟩:∃x,l[i % l.length]?=some x:=⟨_,List.getElem?_eq_getElem hlt⟩;refine⟨post,hp,?_⟩;clear rm nm inn h0 hl hlt;by_cases hij:i=j
   ·have e1:decide ((i:Int)=j)=true:=by simp[hij]
    have e2:(i=j)=True:=by simp[hij]
    clear hij;w_fin
   ·have e1:decide ((i:Int)=j)=false:=by simp; omega
    have e2:(i=j)=False:=by simp[hij]
    clear hij;w_fin) uS uS [] rfl
 obtain rfl:=List.eq_nil_of_length_eq_zero hp';simp only[List.cons_append,List.nil_append] at fl;clear h0;simp only[Qcx];w_fin
theorem QfL {N:Nat} (hN:5≤N) (xu:Nat->Nat->Option Rat) (r c:Nat) (up dg:Bool) (h1:r<100) (h2:c<100) (H:AH) :
  (RN N).f 898 [mtx r c xu,.bool up,.bool dg] H=.ok (vec "logical" (cmj r c fun i j=>.int (if ((if up=true then decide (i<j) else decide (j<i))||(dg&&decide (i=j)))=true then 1 else 0)) (dimA r c)) H:=by
 have inn:AV.ncs (cmj r c fun i j=>.int (if ((if up=true then decide (i<j) else decide (j<i))||(dg&&decide (i=j)))=true then 1 else 0))=true:=QbI fun i j _ _=>rfl
 refine Qaa QjF (by omega) (ρ:=[mtx r c xu,.bool up,.bool dg,uS,uS,uS,uS,uS,uS]) rfl (by simp only[AV.ncs,AV.nc,Qac]; rfl) (H':=[.dead]) ?_ (by simp only[AV.nc,AV.ncs,inn]; rfl) H;have n1:r*c≤90000:=Nat.le_trans (Nat.mul_le_mul (Nat.le_of_lt h1) (Nat.le_of_lt h2)) (by decide);have s1:=Qao (N:=N-1) (by omega) "double" _ r c (Qac r c xu) [];have nm:=fun H=>QaZ (N:=N-1) (by omega) "logical" _ r c inn H
 have z1:r<1000000:=by omega
 have z2:c<1000000:=by omega
 obtain⟨x',y',post',hp',fl⟩:=Qcl (C:=RN (N-1)) (kc:=6) (kp:=7) (q:=1) (r:=r) (c:=c) (itR:=.range1 D3)
  (b:=B19)
  (pre:=[mtx r c xu,.bool up,.bool dg,.int r,.int c,.cell 0]) (e:=fun i j=>.int (if ((if up=true then decide (i<j) else decide (j<i))||(dg&&decide (i=j)))=true then 1 else 0)) rfl rfl n1
  (fun j y post H hj hp=>by w_fin) (fun i j post m hi hj hp hl9=>by
   obtain⟨p0,rfl⟩:∃a,post=[a]:=by
    match post,hp with
    | [a],_=>exact⟨a,rfl⟩
   have l9:m.length≤100000:=by omega
   refine⟨[.bool (if up=true then decide (i<j) else decide (j<i))],rfl,?_⟩;have d1:decide ((i:Int)<j)=decide (i<j):=decide_eq_decide.mpr (by omega);have d2:decide ((i:Int)>j)=decide (j<i):=decide_eq_decide.mpr (by omega);have d3:decide ((i:Int)=j)=decide (i=j):=decide_eq_decide.mpr (by omega);clear nm inn s1;generalize decide (i<j)=b1 at *
   generalize decide (j<i)=b2 at *
   generalize decide (i=j)=b3 at *
   cases up<;>cases dg<;>cases b1<;>cases b2<;>cases b3<;>w_fin) uS uS [uS] rfl
 obtain⟨p0,rfl⟩:∃a,post'=[a]:=by
  match post',hp' with
  | [a],_=>exact⟨a,rfl⟩
 simp only[List.cons_append,List.nil_append] at fl;simp only[Qd8];w_fin
theorem Qdi {N:Nat} (hN:5≤N) (xu:Nat->Nat->Option Rat) (r c:Nat) (br:Bool) (h1:r<100) (h2:c<100) (H:AH) :
  (RN N).f 905 [mtx r c xu,.bool br] H=.ok (vec "integer" (cmj r c fun i j=>.int ((if br=true then i+1 else j+1:Nat):Int)) (dimA r c)) H:=by
 have inn:AV.ncs (cmj r c fun i j=>.int ((if br=true then i+1 else j+1:Nat):Int))=true:=QbI fun i j _ _=>rfl
 refine Qaa Qfm (by omega) (ρ:=[mtx r c xu,.bool br,uS,uS,uS,uS,uS]) rfl (by simp only[AV.ncs,AV.nc,Qac]; rfl) (H':=[.dead]) ?_ (by simp[AV.nc,AV.ncs,inn]) H;have n1:r*c≤90000:=Nat.le_trans (Nat.mul_le_mul (Nat.le_of_lt h1) (Nat.le_of_lt h2)) (by decide);have s1:=Qao (N:=N-1) (by omega) "double" _ r c (Qac r c xu) [];have nm:=fun H=>QaZ (N:=N-1) (by omega) "integer" _ r c inn H
 have z1:r<1000000:=by omega
 have z2:c<1000000:=by omega
 obtain⟨x',y',post',hp',fl⟩:=Qcl (C:=RN (N-1)) (kc:=5) (kp:=6) (q:=0) (r:=r) (c:=c) (itR:=.range1 D2)
  (b:=B5)
  (pre:=[mtx r c xu,.bool br,.int r,.int c,.cell 0]) (e:=fun i j=>.int ((if br=true then i+1 else j+1:Nat):Int)) rfl rfl n1
  (fun j y post H hj hp=>by w_fin) (fun i j post m hi hj hp hl9=>by
   have l9:m.length≤100000:=by omega
   refine⟨post,hp,?_⟩;clear nm inn s1;cases br<;>w_fin) uS uS [] rfl
 obtain rfl:=List.eq_nil_of_length_eq_zero hp';simp only[List.cons_append,List.nil_append] at fl;simp only[Qcb];w_fin
end
section
theorem Qce {k:String} {l:List AV} {r c:Nat} (h:AV.ncs l=true):(vec k l (dimA r c)).nc=true:=by simp[AV.nc,AV.ncs,h]
theorem QjM {N:Nat} (hN:1≤N) (b:Bool) (H:AH):(RN N).f 819 [.none,.bool b] H=.ok (.bool b) H:=by
 refine Qaa Qhs hN (ρ:=[.none,.bool b,uS]) rfl rfl (H':=[]) ?_ rfl H;simp only[QdS];w_fin
theorem QjN {N:Nat} (hN:5≤N) (b:Bool) (H:AH):(RN N).f 819 [vec "logical" [.int 1] .none,.bool b] H=.ok (.bool true) H:=by
 refine Qaa Qhs (by omega) (ρ:=[vec "logical" [.int 1] .none,.bool b,uS]) rfl rfl (H':=[]) ?_ rfl H;have k:=Qe3 (N:=N-1) (by omega) "logical" [.int 1] .none (.inl rfl) (.inr (.inr rfl)) rfl (by simp) [];simp only[QdS];w_fin
variable {N:Nat} {xu:Nat->Nat->Option Rat}
theorem Qig (hN:6≤N) (r c:Nat) (dg:Bool) (h1:r<100) (h2:c<100) (H:AH) :
  (RN N).f 884 [mtx r c xu,.bool dg] H=.ok (vec "logical" (cmj r c fun i j=>.int (if ((if true=true then decide (i<j) else decide (j<i))||(dg&&decide (i=j)))=true then 1 else 0)) (dimA r c)) H:=by
 have inn:AV.ncs (cmj r c fun i j=>.int (if ((if true=true then decide (i<j) else decide (j<i))||(dg&&decide (i=j)))=true then 1 else 0))=true:=QbI fun i j _ _=>rfl
 refine Qaa Qh7 (by omega) (ρ:=[mtx r c xu,.bool dg]) rfl (by simp only[AV.ncs,AV.nc,Qac]; rfl) (H':=[]) ?_ (Qce inn) H;have t:=QfL (N:=N-1) (by omega) xu r c true dg h1 h2 [];clear inn h1 h2;simp only[Qdw];w_fin
theorem Qih (hN:6≤N) (r c:Nat) (dg:Bool) (h1:r<100) (h2:c<100) (H:AH) :
  (RN N).f 891 [mtx r c xu,.bool dg] H=.ok (vec "logical" (cmj r c fun i j=>.int (if ((if false=true then decide (i<j) else decide (j<i))||(dg&&decide (i=j)))=true then 1 else 0)) (dimA r c)) H:=by
 have inn:AV.ncs (cmj r c fun i j=>.int (if ((if false=true then decide (i<j) else decide (j<i))||(dg&&decide (i=j)))=true then 1 else 0))=true:=QbI fun i j _ _=>rfl
 refine Qaa Qh8 (by omega) (ρ:=[mtx r c xu,.bool dg]) rfl (by simp only[AV.ncs,AV.nc,Qac]; rfl) (H':=[]) ?_ (Qce inn) H;have t:=QfL (N:=N-1) (by omega) xu r c false dg h1 h2 [];clear inn h1 h2;simp only[Qdx];w_fin
def dgA:Bool->List AV
 | true=>[.tup [.str "diag",vec "logical" [.int 1] .none]]
 | false=>[]
theorem Qk6 (hN:6≤N) (r c:Nat) (dg:Bool) (H:AH) :
  (RN N).f 996 [.lst (.tup [.none,mtx r c xu]::dgA dg)] H=.ok (.tup [mtx r c xu,.bool dg]) H:=by
 have ac:=QaQ (N:=N-1) (by omega) (cmj r c fun i j=>qo (xu i j)) r c (Qac _ _ _) [];cases dg with
 | true =>
  refine Qaa QbL (by omega) (ρ:=[.lst (.tup [.none,mtx r c xu]::dgA true),uS,uS]) rfl (by simp only[dgA,AV.ncs,AV.nc,Qac]; rfl) (H':=[]) ?_ (by simp only[AV.nc,AV.ncs,Qac]; rfl) H;have ma:=QoJ (N:=N-1) (by omega) "x" "diag" "double" (cmj r c fun i j=>qo (xu i j)) (dimA r c) (vec "logical" [.int 1] .none) (by decide) (by decide) (by decide) (Qac _ _ _) rfl rfl [];have it:=QjN (N:=N-1) (by omega) false [];simp only[QaG,dgA];w_fin
 | false =>
  refine Qaa QbL (by omega) (ρ:=[.lst (.tup [.none,mtx r c xu]::dgA false),uS,uS]) rfl (by simp only[dgA,AV.ncs,AV.nc,Qac]; rfl) (H':=[]) ?_ (by simp only[AV.nc,AV.ncs,Qac]; rfl) H;have ma:=Qmv (N:=N-1) (by omega) "x" "diag" "double" (cmj r c fun i j=>qo (xu i j)) (dimA r c) (by decide) (by decide) (by decide) (Qac _ _ _) rfl [];have it:=QjM (N:=N-1) (by omega) false [];simp only[QaG,dgA];w_fin
theorem Qnu (dg:Bool):AV.ncs (dgA dg)=true:=by cases dg<;>rfl
theorem QhA (hN:7≤N) (r c:Nat) (dg:Bool) (h1:r<100) (h2:c<100) (H:AH) :
  (RN N).f 1003 [.none,.lst (.tup [.none,mtx r c xu]::dgA dg),.none] H=.ok (vec "logical" (cmj r c fun i j=>.int (if ((if true=true then decide (i<j) else decide (j<i))||(dg&&decide (i=j)))=true then 1 else 0)) (dimA r c)) H:=by
 have inn:AV.ncs (cmj r c fun i j=>.int (if ((if true=true then decide (i<j) else decide (j<i))||(dg&&decide (i=j)))=true then 1 else 0))=true:=QbI fun i j _ _=>rfl
 refine Qaa QkP (by omega) (ρ:=[.none,.lst (.tup [.none,mtx r c xu]::dgA dg),.none,uS,uS]) rfl (by simp only[AV.ncs,AV.nc,Qac,Qnu]; rfl) (H':=[]) ?_ (Qce inn) H;have t:=Qig (N:=N-1) (by omega) (xu:=xu) r c dg h1 h2 [];have a:=Qk6 (N:=N-1) (by omega) (xu:=xu) r c dg [];clear inn h1 h2;simp only[QeT];w_fin
theorem QhB (hN:7≤N) (r c:Nat) (dg:Bool) (h1:r<100) (h2:c<100) (H:AH) :
  (RN N).f 1010 [.none,.lst (.tup [.none,mtx r c xu]::dgA dg),.none] H=.ok (vec "logical" (cmj r c fun i j=>.int (if ((if false=true then decide (i<j) else decide (j<i))||(dg&&decide (i=j)))=true then 1 else 0)) (dimA r c)) H:=by
 have inn:AV.ncs (cmj r c fun i j=>.int (if ((if false=true then decide (i<j) else decide (j<i))||(dg&&decide (i=j)))=true then 1 else 0))=true:=QbI fun i j _ _=>rfl
 refine Qaa QkQ (by omega) (ρ:=[.none,.lst (.tup [.none,mtx r c xu]::dgA dg),.none,uS,uS]) rfl (by simp only[AV.ncs,AV.nc,Qac,Qnu]; rfl) (H':=[]) ?_ (Qce inn) H;have t:=Qih (N:=N-1) (by omega) (xu:=xu) r c dg h1 h2 [];have a:=Qk6 (N:=N-1) (by omega) (xu:=xu) r c dg [];clear inn h1 h2;simp only[QeU];w_fin
theorem QcK (hN:6≤N) (r c:Nat) (H:AH):(RN N).f 1017 [.lst [.tup [.none,mtx r c xu]]] H=.ok (mtx r c xu) H:=by
 refine Qaa Qeu (by omega) (ρ:=[.lst [.tup [.none,mtx r c xu]],uS]) rfl (by simp only[AV.ncs,AV.nc,Qac]; rfl) (H':=[]) ?_ (QaS _ _ _) H;have ma:=Qk2 (N:=N-1) (by omega) "x" "double" (cmj r c fun i j=>qo (xu i j)) (dimA r c) (by decide) (Qac _ _ _) rfl [];have im:=Qau (N:=N-1) (by omega) "double" (cmj r c fun i j=>qo (xu i j)) r c (Qac _ _ _) [];simp only[QbH];w_fin
theorem QoN (hN:7≤N) (r c:Nat) (h1:r<100) (h2:c<100) (H:AH) :
  (RN N).f 1024 [.none,.lst [.tup [.none,mtx r c xu]],.none] H=.ok (vec "integer" (cmj r c fun i j=>.int ((if true=true then i+1 else j+1:Nat):Int)) (dimA r c)) H:=by
 have inn:AV.ncs (cmj r c fun i j=>.int ((if true=true then i+1 else j+1:Nat):Int))=true:=QbI fun i j _ _=>rfl
 refine Qaa QoG (by omega) (ρ:=[.none,.lst [.tup [.none,mtx r c xu]],.none]) rfl (by simp only[AV.ncs,AV.nc,Qac]; rfl) (H':=[]) ?_ (Qce inn) H;have t:=Qdi (N:=N-1) (by omega) xu r c true h1 h2 [];have a:=QcK (N:=N-1) (by omega) (xu:=xu) r c [];clear inn h1 h2;simp only[QhY];w_fin
theorem QoO (hN:7≤N) (r c:Nat) (h1:r<100) (h2:c<100) (H:AH) :
  (RN N).f 1031 [.none,.lst [.tup [.none,mtx r c xu]],.none] H=.ok (vec "integer" (cmj r c fun i j=>.int ((if false=true then i+1 else j+1:Nat):Int)) (dimA r c)) H:=by
 have inn:AV.ncs (cmj r c fun i j=>.int ((if false=true then i+1 else j+1:Nat):Int))=true:=QbI fun i j _ _=>rfl
 refine Qaa QoH (by omega) (ρ:=[.none,.lst [.tup [.none,mtx r c xu]],.none]) rfl (by simp only[AV.ncs,AV.nc,Qac]; rfl) (H':=[]) ?_ (Qce inn) H;have t:=Qdi (N:=N-1) (by omega) xu r c false h1 h2 [];have a:=QcK (N:=N-1) (by omega) (xu:=xu) r c [];clear inn h1 h2;simp only[QhZ];w_fin
theorem Qmy (hN:1≤N) (l:List AV) (hl:AV.ncs l=true) (ll:l.length≤100000) (H:AH):(RN N).f 345 [vec "double" l .none] H=.ok (.int l.length) H:=by
 refine Qaa Qmj hN (ρ:=[vec "double" l .none,uS]) rfl (by simp[AV.ncs,AV.nc,hl]) (H':=[]) ?_ rfl H;have l2:l.length≤1000000:=by omega
 simp only[Qgc];w_fin
theorem Qfn (hN:2≤N) (r c:Nat) (H:AH):(RN N).f 912 [mtx r c xu] H=.ok (.tup [.int r,.int c]) H:=by
 refine Qaa Qdg (by omega) (ρ:=[mtx r c xu,uS,uS]) rfl (by simp only[AV.ncs,AV.nc,Qac]; rfl) (H':=[]) ?_ rfl H;have g:=QfG (N:=N-1) (by omega) "double" "row.names" (cmj r c fun i j=>qo (xu i j)) r c (Qac _ _ _) (by decide) [];have v:=Qak (N:=N-1) (by omega) "double" (cmj r c fun i j=>qo (xu i j)) (dimA r c) (Qac _ _ _) rfl [];have d:=Qi9 (N:=N-1) (by omega) "double" (cmj r c fun i j=>qo (xu i j)) r c (Qac _ _ _) [];have e:decide (((0+1+1:Nat):Int)>1)=true:=rfl;simp only[Qbw];w_fin
theorem Qc1 (hN:2≤N) (l:List AV) (hl:AV.ncs l=true) (H:AH):(RN N).f 912 [vec "double" l .none] H=.ok .none H:=by
 refine Qaa Qdg (by omega) (ρ:=[vec "double" l .none,uS,uS]) rfl (by simp[AV.ncs,AV.nc,hl]) (H':=[]) ?_ rfl H;have g:=QdE (N:=N-1) (by omega) "double" "row.names" l hl [];have v:=Qak (N:=N-1) (by omega) "double" l .none hl rfl [];have d:=QkV (N:=N-1) (by omega) "double" l hl [];simp only[Qbw];w_fin
theorem Qb2 (hN:3≤N) (r c:Nat) (a b:Bool) (H:AH):(RN N).f 919 [mtx r c xu,.int (if a=true then 1 else 0),.bool b] H=.ok (vec "integer" [.int (if a=true then (c:Int) else r)] .none) H:=by
 refine Qaa QcZ (by omega) (ρ:=[mtx r c xu,.int (if a=true then 1 else 0),.bool b,uS]) rfl (by simp only[AV.ncs,AV.nc,Qac]; rfl) (H':=[]) ?_ rfl H;have g:=Qfn (N:=N-1) (by omega) (xu:=xu) r c [];have w:=fun n=>QkU (N:=N-1) (by omega) n []
 simp only[QbB];cases a<;>w_fin
theorem QdY (hN:3≤N) (l:List AV) (a:Bool) (hl:AV.ncs l=true) (H:AH):(RN N).f 919 [vec "double" l .none,.int (if a=true then 1 else 0),.bool false] H=.ok nullA H:=by
 refine Qaa QcZ (by omega) (ρ:=[vec "double" l .none,.int (if a=true then 1 else 0),.bool false,uS]) rfl (by simp[AV.ncs,AV.nc,hl]) (H':=[]) ?_ rfl H;have g:=Qc1 (N:=N-1) (by omega) l hl [];have w:=Qrf (N:=N-1) (by omega) [];simp only[QbB];cases a<;>w_fin
theorem QdZ (hN:3≤N) (l:List AV) (a:Bool) (hl:AV.ncs l=true) (ll:l.length≤100000) (H:AH):(RN N).f 919 [vec "double" l .none,.int (if a=true then 1 else 0),.bool true] H=.ok (vec "integer" [.int (if a=true then (1:Int) else l.length)] .none) H:=by
 refine Qaa QcZ (by omega) (ρ:=[vec "double" l .none,.int (if a=true then 1 else 0),.bool true,uS]) rfl (by simp[AV.ncs,AV.nc,hl]) (H':=[]) ?_ rfl H;have g:=Qc1 (N:=N-1) (by omega) l hl [];have w:=fun n=>QkU (N:=N-1) (by omega) n []
 have n:=Qmy (N:=N-1) (by omega) l hl ll [];clear ll;simp only[QbB];cases a<;>w_fin
theorem Qrh (hN:5≤N) (r c:Nat) (H:AH):(RN N).f 926 [.none,.lst [.tup [.none,mtx r c xu]],.none] H=.ok (vec "integer" [.int r] .none) H:=by
 refine Qaa Qi5 (by omega) (ρ:=[.none,.lst [.tup [.none,mtx r c xu]],.none]) rfl (by simp only[AV.ncs,AV.nc,Qac]; rfl) (H':=[]) ?_ rfl H;have t:=QcF (N:=N-1) (by omega) "x" (mtx r c xu) (by decide) (QaS _ _ _) [];have n:=QaF (N:=N-1) (by omega) "double" (cmj r c fun i j=>qo (xu i j)) (dimA r c) "x" (Qac _ _ _) rfl [];have o:=Qb2 (N:=N-1) (by omega) (xu:=xu) r c false false [];simp only[if_true,Bool.false_eq_true,if_false] at o;simp only[Qez];w_fin
theorem QoP (hN:5≤N) (l:List AV) (hl:AV.ncs l=true) (H:AH):(RN N).f 926 [.none,.lst [.tup [.none,vec "double" l .none]],.none] H=.ok nullA H:=by
 refine Qaa Qi5 (by omega) (ρ:=[.none,.lst [.tup [.none,vec "double" l .none]],.none]) rfl (by simp[AV.ncs,AV.nc,hl]) (H':=[]) ?_ rfl H;have t:=QcF (N:=N-1) (by omega) "x" (vec "double" l .none) (by decide) (by simp[AV.ncs,AV.nc,hl]) [];have n:=QaF (N:=N-1) (by omega) "double" l .none "x" hl rfl [];have o:=QdY (N:=N-1) (by omega) l false hl [];simp only[if_true,Bool.false_eq_true,if_false] at o;simp only[Qez];w_fin
theorem Qri (hN:5≤N) (r c:Nat) (H:AH):(RN N).f 933 [.none,.lst [.tup [.none,mtx r c xu]],.none] H=.ok (vec "integer" [.int c] .none) H:=by
 refine Qaa Qi6 (by omega) (ρ:=[.none,.lst [.tup [.none,mtx r c xu]],.none]) rfl (by simp only[AV.ncs,AV.nc,Qac]; rfl) (H':=[]) ?_ rfl H;have t:=QcF (N:=N-1) (by omega) "x" (mtx r c xu) (by decide) (QaS _ _ _) [];have n:=QaF (N:=N-1) (by omega) "double" (cmj r c fun i j=>qo (xu i j)) (dimA r c) "x" (Qac _ _ _) rfl [];have o:=Qb2 (N:=N-1) (by omega) (xu:=xu) r c true false [];simp only[if_true,Bool.false_eq_true,if_false] at o;simp only[QeA];w_fin
theorem QoQ (hN:5≤N) (l:List AV) (hl:AV.ncs l=true) (H:AH):(RN N).f 933 [.none,.lst [.tup [.none,vec "double" l .none]],.none] H=.ok nullA H:=by
 refine Qaa Qi6 (by omega) (ρ:=[.none,.lst [.tup [.none,vec "double" l .none]],.none]) rfl (by simp[AV.ncs,AV.nc,hl]) (H':=[]) ?_ rfl H;have t:=QcF (N:=N-1) (by omega) "x" (vec "double" l .none) (by decide) (by simp[AV.ncs,AV.nc,hl]) [];have n:=QaF (N:=N-1) (by omega) "double" l .none "x" hl rfl [];have o:=QdY (N:=N-1) (by omega) l true hl [];simp only[if_true,Bool.false_eq_true,if_false] at o;simp only[QeA];w_fin
theorem Qrj (hN:5≤N) (r c:Nat) (H:AH):(RN N).f 940 [.none,.lst [.tup [.none,mtx r c xu]],.none] H=.ok (vec "integer" [.int r] .none) H:=by
 refine Qaa Qeo (by omega) (ρ:=[.none,.lst [.tup [.none,mtx r c xu]],.none]) rfl (by simp only[AV.ncs,AV.nc,Qac]; rfl) (H':=[]) ?_ rfl H;have t:=QcF (N:=N-1) (by omega) "x" (mtx r c xu) (by decide) (QaS _ _ _) [];have n:=QaF (N:=N-1) (by omega) "double" (cmj r c fun i j=>qo (xu i j)) (dimA r c) "x" (Qac _ _ _) rfl [];have o:=Qb2 (N:=N-1) (by omega) (xu:=xu) r c false true [];simp only[if_true,Bool.false_eq_true,if_false] at o;simp only[Qb0];w_fin
theorem QoR (hN:5≤N) (l:List AV) (hl:AV.ncs l=true) (ll:l.length≤100000) (H:AH):(RN N).f 940 [.none,.lst [.tup [.none,vec "double" l .none]],.none] H=.ok (vec "integer" [.int l.length] .none) H:=by
 refine Qaa Qeo (by omega) (ρ:=[.none,.lst [.tup [.none,vec "double" l .none]],.none]) rfl (by simp[AV.ncs,AV.nc,hl]) (H':=[]) ?_ rfl H;have t:=QcF (N:=N-1) (by omega) "x" (vec "double" l .none) (by decide) (by simp[AV.ncs,AV.nc,hl]) [];have n:=QaF (N:=N-1) (by omega) "double" l .none "x" hl rfl [];have o:=QdZ (N:=N-1) (by omega) l false hl ll [];simp only[if_true,Bool.false_eq_true,if_false] at o;simp only[Qb0];w_fin
theorem Qrk (hN:5≤N) (r c:Nat) (H:AH):(RN N).f 947 [.none,.lst [.tup [.none,mtx r c xu]],.none] H=.ok (vec "integer" [.int c] .none) H:=by
 refine Qaa Qc0 (by omega) (ρ:=[.none,.lst [.tup [.none,mtx r c xu]],.none]) rfl (by simp only[AV.ncs,AV.nc,Qac]; rfl) (H':=[]) ?_ rfl H;have t:=QcF (N:=N-1) (by omega) "x" (mtx r c xu) (by decide) (QaS _ _ _) [];have n:=QaF (N:=N-1) (by omega) "double" (cmj r c fun i j=>qo (xu i j)) (dimA r c) "x" (Qac _ _ _) rfl [];have o:=Qb2 (N:=N-1) (by omega) (xu:=xu) r c true true [];simp only[if_true,Bool.false_eq_true,if_false] at o;simp only[Qbk];w_fin
theorem QoS (hN:5≤N) (l:List AV) (hl:AV.ncs l=true) (ll:l.length≤100000) (H:AH):(RN N).f 947 [.none,.lst [.tup [.none,vec "double" l .none]],.none] H=.ok (vec "integer" [.int 1] .none) H:=by
 refine Qaa Qc0 (by omega) (ρ:=[.none,.lst [.tup [.none,vec "double" l .none]],.none]) rfl (by simp[AV.ncs,AV.nc,hl]) (H':=[]) ?_ rfl H;have t:=QcF (N:=N-1) (by omega) "x" (vec "double" l .none) (by decide) (by simp[AV.ncs,AV.nc,hl]) [];have n:=QaF (N:=N-1) (by omega) "double" l .none "x" hl rfl [];have o:=QdZ (N:=N-1) (by omega) l true hl ll [];simp only[if_true,Bool.false_eq_true,if_false] at o;simp only[Qbk];w_fin
end
section
theorem Qrl {H:AH} (s a b d e:String):pCmp H .isin (.str s) (.tup [.str a,.str b,.str d,.str e])=some (decide (s=a∨s=b∨s=d∨s=e)):=congrArg some (decide_eq_decide.mpr (by simp))
variable {N:Nat} {xu:Nat->Nat->Option Rat}
theorem Qe4 (hN:1≤N) (H:AH):(RN N).f 684 [.str "integer"] H=.ok (.bool true) H:=by
 refine Qaa Qet hN (ρ:=[.str "integer"]) rfl rfl (H':=[]) ?_ rfl H;have e:=fun H=>Qrl (H:=H) "integer" "logical" "integer" "double" "character"
 simp only[QbG];w_fin
theorem Qii (hN:2≤N) (n:Int) (H:AH):(RN N).f 663 [.str "integer",.int n,.lst []] H=.ok (.tup [.int n,.int 1]) H:=by
 refine Qaa Qh3 (by omega) (ρ:=[.str "integer",.int n,.lst []]) rfl rfl (H':=[]) ?_ rfl H;have e:=QjI (N:=N-1) (by omega) n [];simp only[Qds];w_fin
theorem Qk7 (hN:3≤N) (n:Int) (H:AH):(RN N).f 677 [.str "integer",.int n,.str "double",.lst []] H=.ok (.tup [.int n,.int 1]) H:=by
 refine Qaa QkM (by omega) (ρ:=[.str "integer",.int n,.str "double",.lst []]) rfl rfl (H':=[]) ?_ rfl H;have e:=Qii (N:=N-1) (by omega) n [];have a:=Qe4 (N:=N-1) (by omega) [];simp only[QeR];w_fin
theorem QjO (hN:4≤N) (n:Int) (H:AH):(RN N).f 715 [vec "integer" [.int n] .none,.str "double",.lst []] H=.ok (vec "double" [.tup [.int n,.int 1]] .none) H:=by
 refine Qaa Qho (by omega) (ρ:=[vec "integer" [.int n] .none,.str "double",.lst [],uS,uS]) rfl rfl (H':=[.dead]) ?_ rfl H;have i:=QaX (N:=N-1) (by omega) "double" [.tup [.int n,.int 1]] [];simp only[List.length_nil,List.nil_append] at i;have a:=Qk7 (N:=N-1) (by omega) n [];have nm:=fun H=>Qe2 (N:=N-1) (by omega) "integer" [.int n] (.inr (.inl rfl)) rfl H
 have wn:=fun H=>Qep (N:=N-1) (by omega) "double" [.tup [.int n,.int 1]] rfl H
 have cm:evE (RN (N-1)) [vec "integer" [.int n] .none,.str "double",.lst [],.lst [.int n],uS] D61 []=.ok (.lst [.tup [.int n,.int 1]]) []:=by
  refine (Qah (v:=.lst [.int n]) (l:=[.int n]) (g:=fun _=>.tup [.int n,.int 1]) (by w_fin) rfl (by simp) rfl fun x hx=>?_).trans rfl;obtain rfl:=List.mem_singleton.mp hx;exact⟨_,rfl,by w_fin⟩
 simp only[QdP];w_fin
theorem QfM (hN:2≤N) (n:Nat) (H:AH):(RN N).f 239 [.tup [.int n,.int 1]] H=.ok (.int n) H:=by
 refine Qaa QjE (by omega) (ρ:=[.tup [.int n,.int 1],uS]) rfl rfl (H':=[]) ?_ rfl H;have f:(RN (N-1)).f 190 [.tup [.int n,.int 1]] []=.ok (.bool true) []:=QdC (N:=N-1) (by omega) (n:Rat) [];have d:pBin .div (.int (n:Int)) (.int 1)=some (.int n):=by
  have:=QkE (a:=n) (b:=1) (by omega) (by omega);rw[Nat.div_one] at this; exact this
 have g:decide ((n:Int)≥0)=true:=by simp
 simp only[Qd7];w_fin
theorem Qk8 (hN:1≤N) (s:String) (H:AH):(RN N).f 826 [.none,.str s] H=.ok .none H:=by
 refine Qaa QeY (by omega) (ρ:=[.none,.str s,uS,uS]) rfl rfl (H':=[]) ?_ rfl H;simp only[Qcv];w_fin
theorem Qje (hN:5≤N) (n:Nat) (s:String) (hn:n<100) (H:AH):(RN N).f 826 [vec "integer" [.int n] .none,.str s] H=.ok (.int n) H:=by
 refine Qaa QeY (by omega) (ρ:=[vec "integer" [.int n] .none,.str s,uS,uS]) rfl rfl (H':=[]) ?_ rfl H;have k:=QjO (N:=N-1) (by omega) n [];have a:(RN (N-1)).f 183 [.tup [.int n,.int 1]] []=.ok (.bool false) []:=QcE (N:=N-1) (by omega) (n:Rat) [];have f:(RN (N-1)).f 190 [.tup [.int n,.int 1]] []=.ok (.bool true) []:=QdC (N:=N-1) (by omega) (n:Rat) [];have w:=QfM (N:=N-1) (by omega) n [];have d1:decide ((n:Int)<0)=false:=by simp
 have d2:decide ((n:Int)>100000)=false:=by simp; omega
 have d3:decide (((0+1:Nat):Int)=0)=false:=rfl;clear hn;simp only[Qcv];w_fin
theorem Qe5 (hN:5≤N) (n:Nat) (H:AH):(RN N).f 982 [vec "double" [.tup [.int n,.int 1]] .none] H=.ok (.int n) H:=by
 refine Qaa Qe0 (by omega) (ρ:=[vec "double" [.tup [.int n,.int 1]] .none,uS]) rfl rfl (H':=[]) ?_ rfl H;have k:=Qe3 (N:=N-1) (by omega) "double" [.tup [.int n,.int 1]] .none (.inl rfl) (.inl rfl) rfl (by simp) [];have w:=QfM (N:=N-1) (by omega) n [];have d1:decide ((n:Int)<0)=false:=by simp
 simp only[QbU];w_fin
theorem QoT (hN:5≤N) (r c:Nat) (h1:r<100) (h2:c<100) (H:AH):(RN N).f 989 [.none,.lst [.tup [.none,mtx r c xu]],.none] H=.ok (vec "double" ((List.range (min r c)).map fun p=>qo (xu p p)) .none) H:=by
 have hn:AV.ncs ((List.range (min r c)).map fun p=>qo (xu p p))=true:=QaV fun x hx=>by
  obtain⟨p,_,rfl⟩:=List.mem_map.mp hx; exact QbW _
 refine Qaa Qgp (by omega) (ρ:=[.none,.lst [.tup [.none,mtx r c xu]],.none,uS,uS,uS,uS,uS,uS,uS,uS,uS]) rfl (by simp only[AV.ncs,AV.nc,Qac]; rfl) (H':=[]) ?_ (by simp[AV.nc,AV.ncs,hn]) H;have tk:=Qja (N:=N-1) (by omega) "x" "nrow" "ncol" (mtx r c xu) (by decide) (by decide) (by decide) (by decide) (by decide) (by decide) (QaS _ _ _) [];have iv:=Qak (N:=N-1) (by omega) "double" (cmj r c fun i j=>qo (xu i j)) (dimA r c) (Qac _ _ _) rfl [];have im:=Qau (N:=N-1) (by omega) "double" (cmj r c fun i j=>qo (xu i j)) r c (Qac _ _ _) [];have dg:=Qk5 (N:=N-1) (by omega) (xu:=xu) r c h1 h2 [];clear hn h1 h2;simp only[QdT];w_fin
theorem QoU (hN:6≤N) (n:Nat) (h1:n<100) (H:AH):(RN N).f 989 [.none,.lst [.tup [.none,vec "double" [.tup [.int n,.int 1]] .none]],.none] H=.ok (vec "double" (cmj n n fun i j=>if i=j then (([.tup [.int 1,.int 1]]:List AV)[i % ([.tup [.int 1,.int 1]]:List AV).length]?).getD .none else .tup [.int 0,.int 1]) (dimA n n)) H:=by
 refine Qaa Qgp (by omega) (ρ:=[.none,.lst [.tup [.none,vec "double" [.tup [.int n,.int 1]] .none]],.none,uS,uS,uS,uS,uS,uS,uS,uS,uS]) rfl rfl (H':=[.dead]) ?_ (Qce (QbI fun i j _ _=>by split<;>simp[Nat.mod_one,AV.nc,AV.ncs])) H;have tk:=Qja (N:=N-1) (by omega) "x" "nrow" "ncol" (vec "double" [.tup [.int n,.int 1]] .none) (by decide) (by decide) (by decide) (by decide) (by decide) (by decide) rfl [];have iv:=fun H=>Qak (N:=N-1) (by omega) "double" [.tup [.int n,.int 1]] .none rfl rfl H
 have im:=fun H=>QbD (N:=N-1) (by omega) "double" [.tup [.int n,.int 1]] rfl H
 have e0:=fun s H=>Qk8 (N:=N-1) (by omega) s H
 have i:=QaX (N:=N-1) (by omega) "double" [.tup [.int 1,.int 1]] [];simp only[List.length_nil,List.nil_append] at i;have ds:=fun H=>Qe5 (N:=N-1) (by omega) n H
 have dm:=fun H=>QdX (N:=N-1) (by omega) [.tup [.int 1,.int 1]] n n h1 h1 rfl (by simp) (by simp) H
 have e1:decide (((0+1:Nat):Int)=1)=true:=rfl;clear h1;simp only[QdT];w_fin
theorem QoV (hN:6≤N) (l:List AV) (r c:Nat) (h1:r<100) (h2:c<100) (hl:AV.ncs l=true) (h0:0<l.length) (ll:l.length≤90000) (H:AH) :
  (RN N).f 989 [.none,.lst [.tup [.none,vec "double" l .none],.tup [.str "nrow",vec "integer" [.int r] .none],.tup [.str "ncol",vec "integer" [.int c] .none]],.none] H=.ok (vec "double" (cmj r c fun i j=>if i=j then (l[i % l.length]?).getD .none else .tup [.int 0,.int 1]) (dimA r c)) H:=by
 have inn:AV.ncs (cmj r c fun i j=>if i=j then (l[i % l.length]?).getD .none else .tup [.int 0,.int 1])=true:=QbI fun i j _ _=>by
  split
  ·cases hx:l[i % l.length]? with
   | none=>rfl
   | some x=>exact Qgu hl x (List.mem_of_getElem? hx)
  ·rfl
 refine Qaa Qgp (by omega) (ρ:=[.none,.lst [.tup [.none,vec "double" l .none],.tup [.str "nrow",vec "integer" [.int r] .none],.tup [.str "ncol",vec "integer" [.int c] .none]],.none,uS,uS,uS,uS,uS,uS,uS,uS,uS]) rfl (by simp only[AV.ncs,AV.nc,hl]; rfl) (H':=[.dead]) ?_ (Qce inn) H;have tk:=Qmu (N:=N-1) (by omega) "x" "nrow" "ncol" (vec "double" l .none) (vec "integer" [.int r] .none) (vec "integer" [.int c] .none) (by decide) (by decide) (by decide) (by decide) (by decide) (by decide) (by simp only[AV.ncs,AV.nc,hl]; rfl) rfl rfl [];have iv:=fun H=>Qak (N:=N-1) (by omega) "double" l .none hl rfl H
 have im:=fun H=>QbD (N:=N-1) (by omega) "double" l hl H
 have e1:=fun H=>Qje (N:=N-1) (by omega) r "nrow" h1 H
 have e2:=fun H=>Qje (N:=N-1) (by omega) c "ncol" h2 H
 have i:=QaX (N:=N-1) (by omega) "double" [.tup [.int 1,.int 1]] [];simp only[List.length_nil,List.nil_append] at i;have dm:=fun H=>QdX (N:=N-1) (by omega) l r c h1 h2 hl h0 ll H
 clear h1 h2 inn h0 ll;simp only[QdT];w_fin
end
section
theorem Qef {C:Orc} {k:Nat} {b:List PS} {l:List AV} (P:Nat->List AV->AH->Prop) (h:∀i x,l[i]?=some x->∀ρ H,P i ρ H->∃fl ρ' H',evSs C b (ρ.set k x) H=.ok fl ρ' H'∧(fl=.next∨fl=.cont)∧P (i+1) ρ' H') {ρ:List AV} {H:AH} (p:P 0 ρ H) :
  ∃ρ' H',forL C [k] true b l ρ H=.ok .next ρ' H'∧P l.length ρ' H':=by
 rw[Qcc];have:=Qgi (f:=fun x ρ H=>match bindT [k] true x ρ with
  | some ρ'=>evSs C b ρ' H
  | none=>.stuck) P l 0 (fun i x hx ρ H q=>by rw[Nat.zero_add] at q ⊢; exact h i x hx ρ H q) ρ H p
 rw[Nat.zero_add] at this;exact this
variable {N:Nat}
theorem Qnv (hN:6≤N) (q:Nat->Nat->Rat) (r c:Nat) (t:AV) (ht:t=dimA r c∨(t=.none∧c=1)) (h1:r<100) (h2:c<100) (H:AH) :
  (RN N).f 838 [vec "double" (cmj r c fun i j=>qr (q i j)) t] H=.ok (.lst (rwj r c fun i j=>qr (q i j))) H:=by
 have hl:AV.ncs (cmj r c fun i j=>qr (q i j))=true:=QbI fun i j _ _=>rfl
 have n1:r*c≤90000:=Nat.le_trans (Nat.mul_le_mul (Nat.le_of_lt h1) (Nat.le_of_lt h2)) (by decide);have ll:(cmj r c fun i j=>qr (q i j)).length≤100000:=by rw[QaA]; omega
 have tn:t.nc=true:=by rcases ht with rfl | ⟨rfl,_⟩<;>rfl
 refine Qaa QeZ (by omega) (ρ:=[vec "double" (cmj r c fun i j=>qr (q i j)) t,uS,uS,uS,uS,uS,uS,uS]) rfl (by simp[AV.ncs,AV.nc,hl,tn]) (H':=[.dead]) ?_ (by simp[AV.nc,QjK (e:=fun i j=>qr (q i j)) (fun i j _ _=>rfl)]) H
 have nu:=QaY (N:=N-1) (by omega) (cmj r c fun i j=>qr (q i j)) t (by rcases ht with rfl | ⟨rfl,_⟩; exact .inr ⟨_,_,rfl⟩; exact .inl rfl) hl ll []
 have sh:(RN (N-1)).f 737 [vec "double" (cmj r c fun i j=>qr (q i j)) t] []=.ok (.tup [.int r,.int c]) []:=by
  rcases ht with rfl | ⟨rfl,rfl⟩
  ·exact Qao (N:=N-1) (by omega) "double" _ r c hl []
  ·have:=QdD (N:=N-1) (by omega) "double" (cmj r 1 fun i j=>qr (q i j)) hl (by omega) []
   rw[QaA,Nat.mul_one] at this;exact this
 have isf:=fun (x:Rat)=>QdC (N:=N-1) (by omega) x []
 have l9:(cmj r c fun i j=>qr (q i j)).length≤1000000:=by omega
 have c9:c<1000000:=by omega
 have r9:r<1000000:=by omega
 obtain⟨ρ_1,H_1,e1,st,rfl,rfl⟩:=Qef (C:=RN (N-1)) (k:=2) (b:=B1) (l:=cmj r c fun i j=>qr (q i j))
  (P:=fun _ ρ H=>∃st,ρ=[vec "double" (cmj r c fun i j=>qr (q i j)) t,.lst (cmj r c fun i j=>qr (q i j)),st,uS,uS,uS,uS,uS]∧H=[])
  (fun i x hx ρ H ⟨st,h1',h2'⟩=>by
   subst h1' h2';obtain⟨a,b,_,_,rfl⟩:=Qnt (List.mem_of_getElem? hx);have f:=isf (q a b);refine⟨.next,_,_,?_,.inl rfl,qr (q a b),rfl,rfl⟩;clear isf hx nu sh ht;w_fin) (ρ:=[vec "double" (cmj r c fun i j=>qr (q i j)) t,.lst (cmj r c fun i j=>qr (q i j)),uS,uS,uS,uS,uS,uS]) (H:=[]) ⟨uS,rfl,rfl⟩
 obtain⟨ρ_2,H_2,e2,st2,rfl,rfl⟩:=QaE (C:=RN (N-1)) (k:=6) (n:=r) (b:=B11)
  (P:=fun k ρ H=>∃st2,ρ=[vec "double" (cmj r c fun i j=>qr (q i j)) t,.lst (cmj r c fun i j=>qr (q i j)),st,.int r,.int c,.cell 0,st2,uS]∧H=[.lst ((List.range k).map fun i=>.lst ((List.range c).map fun j=>qr (q i j)))])
  (fun i hi ρ H ⟨st2,h1',h2'⟩=>by
   subst h1' h2';have cm:evE (RN (N-1)) [vec "double" (cmj r c fun i j=>qr (q i j)) t,.lst (cmj r c fun i j=>qr (q i j)),st,.int r,.int c,.cell 0,.int i,uS] D65 [.lst ((List.range i).map fun i=>.lst ((List.range c).map fun j=>qr (q i j)))]=.ok (.lst ((List.range c).map fun j=>qr (q i j))) [.lst ((List.range i).map fun i=>.lst ((List.range c).map fun j=>qr (q i j)))]:=by
    refine (Qah (v:=.rng 0 c) (l:=(List.range c).map fun (j:Nat)=>AV.int (j:Int)) (g:=fun x=>match x with | .int j=>qr (q i j.toNat) | _=>.none) (by clear isf nu sh ht; w_fin) QaP (by simp; omega) rfl fun x hx=>?_).trans (by simp[newC,Function.comp_def])
    obtain⟨j,hj,rfl⟩:=List.mem_map.mp hx;have hj':j<c:=by simpa using hj
    have g:=cm_get (e:=fun i j=>qr (q i j)) hi hj';have m:=QbK (a:=j) (b:=r) (by omega) (by omega);refine⟨_,rfl,?_⟩;clear isf nu sh ht hx hj;w_fin
   have lr:((List.range i).map fun i=>AV.lst ((List.range c).map fun j=>qr (q i j))).length≤100000:=by simp; omega
   refine⟨.next,_,_,?_,.inl rfl,.int i,rfl,rfl⟩;simp only[List.range_succ,List.map_append,List.map_cons,List.map_nil];clear isf nu sh ht;w_fin) (ρ:=[vec "double" (cmj r c fun i j=>qr (q i j)) t,.lst (cmj r c fun i j=>qr (q i j)),st,.int r,.int c,.cell 0,uS,uS]) (H:=[.lst []]) ⟨uS,rfl,rfl⟩
 have rn:AV.ncs ((List.range r).map fun i=>AV.lst ((List.range c).map fun j=>qr (q i j)))=true:=QjK (e:=fun i j=>qr (q i j)) fun i j _ _=>rfl
 clear isf ht;simp only[QbT];w_fin;rfl
theorem Qgw (hN:5≤N) (e:Nat->Nat->AV) (r w:Nat) (h1:r<100) (h2:w<100) (he:∀i j,i<r->j<w->(e i j).nc=true) (hs:∀i j,i<r->j<w->setAV (e i j)=true) (H:AH) :
  (RN N).f 845 [.lst (rwj r w e),.int w,.none,.none] H=.ok (vec "double" (cmj r w e) (dimA r w)) H:=by
 have n1:r*w≤90000:=Nat.le_trans (Nat.mul_le_mul (Nat.le_of_lt h1) (Nat.le_of_lt h2)) (by decide);have rl:(rwj r w e).length=r:=QfJ r w e;refine Qaa Qgl (by omega) (ρ:=[.lst (rwj r w e),.int w,.none,.none,uS,uS,uS]) rfl (by simp[AV.ncs,AV.nc,QjK he]) (H':=[.dead]) ?_ (Qce (QbI he)) H;have nm:=fun H=>QaZ (N:=N-1) (by omega) "double" (cmj r w e) r w (QbI he) H
 have r9:r≤1000000:=by omega
 have w9:w<1000000:=by omega
 obtain⟨ρ_2,H_2,e2,s1,s2,rfl,rfl⟩:=QaE (C:=RN (N-1)) (k:=5) (n:=w) (b:=B2)
  (P:=fun k ρ H=>∃s1 s2,ρ=[.lst (rwj r w e),.int w,.none,.none,.cell 0,s1,s2]∧H=[.lst (cmj r k e)])
  (fun j hj ρ H ⟨s1,s2,h1',h2'⟩=>by
   subst h1' h2';obtain⟨ρ_3,H_3,e3,s3,rfl,rfl⟩:=Qef (C:=RN (N-1)) (k:=6) (b:=[.exp (.push D4 (.sub D9 D6))]) (l:=rwj r w e)
    (P:=fun i ρ H=>∃s2,ρ=[.lst (rwj r w e),.int w,.none,.none,.cell 0,.int j,s2]∧H=[.lst (cmj r j e++(List.range i).map fun i=>e i j)])
    (fun i x hx ρ H ⟨s2,h1',h2'⟩=>by
     subst h1' h2';have hi:i<r:=by
      have:=(List.getElem?_eq_some_iff.mp hx).1;rw[QfJ] at this; exact this
     rw[Qjb hi] at hx;obtain rfl:=(Option.some.inj hx).symm;have le:(cmj r j e++(List.range i).map fun i=>e i j).length≤100000:=by
      have:=Nat.mul_le_mul_left r (Nat.le_of_lt hj);rw[List.length_append,QaA,List.length_map,List.length_range];omega
     have lr:((List.range w).map fun j=>e i j).length≤1000000:=by simp; omega
     have gt:((List.range w).map fun j=>e i j)[j]?=some (e i j):=by simp[hj]
     have st:=hs i j hi hj;refine⟨.next,_,_,?_,.inl rfl,.lst ((List.range w).map fun j=>e i j),rfl,rfl⟩;simp only[List.range_succ,List.map_append,List.map_cons,List.map_nil,←List.append_assoc];clear he hs nm hx;w_fin) (ρ:=[.lst (rwj r w e),.int w,.none,.none,.cell 0,.int j,s2]) (H:=[.lst (cmj r j e)]) ⟨s2,rfl,by simp⟩
   rw[QfJ,←Qgt] at e3;refine⟨.next,_,_,?_,.inl rfl,.int j,s3,rfl,rfl⟩;clear he hs nm;w_fin) (ρ:=[.lst (rwj r w e),.int w,.none,.none,.cell 0,uS,uS]) (H:=[.lst []]) ⟨uS,uS,rfl,rfl⟩
 have cn:=QbI he;clear he hs;simp only[Qcw];w_fin
theorem QaT (hN:3≤N) (l:List AV) (r c:Nat) (i:Int) (hl:AV.ncs l=true) (H:AH):(RN N).f 852 [vec "double" l (dimA r c),.int i] H=.ok .none H:=by
 refine Qaa Qfl (by omega) (ρ:=[vec "double" l (dimA r c),.int i]) rfl (by simp[AV.ncs,AV.nc,hl]) (H':=[]) ?_ rfl H;have m:=Qau (N:=N-1) (by omega) "double" l r c hl [];have a:=Qe1 (N:=N-1) (by omega) "double" l r c i hl [];simp only[Qca];w_fin
theorem QaU (hN:1≤N) (l:List AV) (n:Nat) (hl:AV.ncs l=true) (hn:l.length=n) (h9:n≤1000000) (H:AH):(RN N).f 420 [.lst l,.int n] H=.ok .none H:=by
 refine Qaa Qfk (by omega) (ρ:=[.lst l,.int n]) rfl (by simp[AV.ncs,AV.nc,hl]) (H':=[]) ?_ rfl H;subst hn;have d:decide ((l.length:Int)≠l.length)=false:=by simp
 simp only[Qb9];w_fin
end
section
theorem Qnw {a b:Nat} {x:Int} {d:Nat} (hd:d≠0) (hx:x.natAbs<2 ^ a) (hy:d<2 ^ b):(Rat.divInt x d).num.natAbs<2 ^ a∧(Rat.divInt x d).den<2 ^ b:=by
 constructor
 ·rw[Rat.num_divInt,Int.sign_eq_one_of_pos (by omega),Int.one_mul]
  exact Nat.lt_of_le_of_lt (Int.natAbs_ediv_le_natAbs _ _) hx
 ·rw[Rat.den_divInt,if_neg (by omega),Int.natAbs_natCast]
  exact Nat.lt_of_le_of_lt (Nat.div_le_self _ _) hy
theorem hq.mul {a b:Nat} {p q:Rat} (hp:hq a p) (h:hq b q):hq (a+b) (p*q):=by
 have e:p*q=Rat.divInt (p.num*q.num) ((p.den*q.den:Nat):Int):=by
  have:=Rat.divInt_mul_divInt p.num q.num (d₁:=(p.den:Int)) (d₂:=(q.den:Int));rw[Qax,Qax] at this;rw[this]; simp
 rw[e];have:=Qnw (a:=a+b) (b:=a+b) (x:=p.num*q.num) (d:=p.den*q.den) (Nat.mul_ne_zero p.den_nz q.den_nz) (by
  rw[Int.natAbs_mul,Nat.pow_add]; exact Nat.mul_lt_mul'' hp.1 h.1) (by rw[Nat.pow_add]; exact Nat.mul_lt_mul'' hp.2 h.2)
 exact this
theorem hq.sub {a b:Nat} {p q:Rat} (hp:hq a p) (h:hq b q):hq (a+b+1) (p-q):=by
 have e:p-q=Rat.divInt (p.num*q.den-q.num*p.den) ((p.den*q.den:Nat):Int):=by
  have:=Rat.divInt_sub_divInt p.num q.num (d₁:=(p.den:Int)) (d₂:=(q.den:Int)) (den0 p) (den0 q);rw[Qax,Qax] at this;rw[this]; simp
 rw[e];refine Qnw (Nat.mul_ne_zero p.den_nz q.den_nz) ?_ ?_
 ·have h1:(p.num*q.den).natAbs<2 ^ (a+b):=by rw[Int.natAbs_mul,Int.natAbs_natCast,Nat.pow_add]; exact Nat.mul_lt_mul'' hp.1 h.2
  have h2:(q.num*p.den).natAbs<2 ^ (a+b):=by rw[Int.natAbs_mul,Int.natAbs_natCast,Nat.add_comm,Nat.pow_add]; exact Nat.mul_lt_mul'' h.1 hp.2
  have:2 ^ (a+b+1)=2*2 ^ (a+b):=by rw[Nat.pow_succ,Nat.mul_comm]
  omega
 ·exact Nat.lt_of_lt_of_le (by rw[Nat.pow_add]; exact Nat.mul_lt_mul'' hp.2 h.2) (Nat.pow_le_pow_right (by decide) (Nat.le_succ (a+b)))
theorem hq.inv {a:Nat} {p:Rat} (hp:hq a p) (h0:p≠0):hq a p⁻¹:=by
 have hn:p.num≠0:=fun h=>h0 (Rat.num_eq_zero.mp h)
 constructor
 ·rw[Rat.num_inv,Int.natAbs_mul,Int.natAbs_natCast]
  rcases Int.lt_or_gt_of_ne hn with h | h
  ·rw[Int.sign_eq_neg_one_of_neg h]; simpa using hp.2
  ·rw[Int.sign_eq_one_of_pos h]; simpa using hp.2
 ·rw[Rat.den_inv,if_neg hn]; exact hp.1
def rq (w:Nat) (r:Nat->Rat):List AV:=(List.range w).map fun j=>qr (r j)
def mat (n w:Nat) (R:Nat->Nat->Rat):List AV:=(List.range n).map fun i=>.lst (rq w (R i))
theorem mat_rwj (n w:Nat) (R:Nat->Nat->Rat):mat n w R=rwj n w fun i j=>qr (R i j):=rfl
theorem Qcm (w:Nat) (r:Nat->Rat):(rq w r).length=w:=by simp[rq]
theorem QhC {w:Nat} {r:Nat->Rat} {j:Nat} (h:j<w):(rq w r)[j]?=some (qr (r j)):=by simp[rq,h]
theorem QhD (w:Nat) (r:Nat->Rat):AV.ncs (rq w r)=true:=QaV fun x hx=>by
 obtain⟨j,_,rfl⟩:=List.mem_map.mp hx; rfl
theorem Qrm {w:Nat} {r s:Nat->Rat} (h:∀j,j<w->r j=s j):rq w r=rq w s:=List.map_congr_left fun j hj=>by rw[h j (by simpa using hj)]
theorem Qaq (n w:Nat) (R:Nat->Nat->Rat):(mat n w R).length=n:=by simp[mat]
theorem QbJ {n w:Nat} {R:Nat->Nat->Rat} {i:Nat} (h:i<n):(mat n w R)[i]?=some (.lst (rq w (R i))):=by simp[mat,h]
theorem QbV (n w:Nat) (R:Nat->Nat->Rat):AV.ncs (mat n w R)=true:=QaV fun x hx=>by
 obtain⟨j,_,rfl⟩:=List.mem_map.mp hx; simp[AV.nc,QhD]
theorem QoW {n w:Nat} {R S:Nat->Nat->Rat} (h:∀i,i<n->∀j,j<w->R i j=S i j):mat n w R=mat n w S :=
 List.map_congr_left fun i hi=>congrArg AV.lst (Qrm (h i (by simpa using hi)))
def updR (R:Nat->Nat->Rat) (i:Nat) (r:Nat->Rat):Nat->Nat->Rat:=fun k=>if k=i then r else R k
theorem Qgx (n w:Nat) (R:Nat->Nat->Rat) (i:Nat) (r:Nat->Rat):(mat n w R).set i (.lst (rq w r))=mat n w (updR R i r):=by
 apply List.ext_getElem?;intro k;rw[List.getElem?_set,Qaq];by_cases hk:i=k
 ·subst hk
  rw[if_pos rfl];by_cases hi:i<n
  ·rw[if_pos hi,QbJ hi]; simp[updR]
  ·rw[if_neg hi,List.getElem?_eq_none (by rw[Qaq]; omega)]
 ·rw[if_neg hk]
  by_cases hi:k<n
  ·rw[QbJ hi,QbJ hi]; simp[updR,Ne.symm hk]
  ·rw[List.getElem?_eq_none (by rw[Qaq]; omega),List.getElem?_eq_none (by rw[Qaq]; omega)]
variable {N:Nat}
def unq:AV->Rat
 | .tup [.int n,.int d]=>Rat.divInt n d
 | _=>0
theorem Qnx (q:Rat):unq (qr q)=q:=Qax q
theorem c_qz (H:AH) (q:Rat):pCmp H .eq (qr q) (.tup [.int 0,.int 1])=some (decide (q=0)):=Qhh rfl rfl (by
 show (AV.tup [.int q.num,.int q.den]=.tup [.int 0,.int 1])↔_;constructor
 ·intro h
  injection h with h; injection h with h h2; injection h with h;exact Rat.num_eq_zero.mp h
 ·rintro rfl; rfl)
theorem c_qnz (H:AH) (q:Rat):pCmp H .ne (qr q) (.tup [.int 0,.int 1])=some (decide (q≠0)):=QjB rfl rfl (by
 show (AV.tup [.int q.num,.int q.den]≠.tup [.int 0,.int 1])↔_;refine not_congr ⟨?_,?_⟩
 ·intro h
  injection h with h; injection h with h h2; injection h with h;exact Rat.num_eq_zero.mp h
 ·rintro rfl; rfl)
theorem Qmz (hN:4≤N) (w:Nat) (r:Nat->Rat) (f:Rat) (hw:w<100) (hr:∀j,j<w->hq 2000 (r j)) (hf:hq 2000 f) (H:AH):(RN N).f 385 [.lst (rq w r),qr f] H=.ok (.lst (rq w fun j=>r j*f)) H:=by
 refine Qaa Qml (by omega) (ρ:=[.lst (rq w r),qr f,uS]) rfl (by simp[AV.ncs,AV.nc,QhD]) (H':=[]) ?_ (by simp[AV.nc,QhD]) H;have cm:evE (RN (N-1)) [.lst (rq w r),qr f,uS] D99 []=.ok (.lst (rq w fun j=>r j*f)) []:=by
  refine (Qah (v:=.lst (rq w r)) (l:=rq w r) (g:=fun x=>qr (unq x*f)) (by clear hr; w_fin) rfl (by rw[Qcm]; omega) rfl fun x hx=>?_).trans ?_
  ·obtain⟨j,hj,rfl⟩:=List.mem_map.mp hx
   have m:=Qmo (N:=N-1) (by omega) (some (r j)) (some f) (fun q h=>by cases h; exact hr j (by simpa using hj)) (fun q h=>by cases h; exact hf) [];simp only[qo,omul] at m;refine⟨_,rfl,?_⟩;rw[Qnx];clear hr hf hx hj;w_fin
  ·simp only[newC,rq,List.map_map,Function.comp_def,Qnx]
   rfl
 clear hr hf;simp only[Qge];w_fin
theorem Qrn (hN:5≤N) (w:Nat) (r o:Nat->Rat) (f:Rat) (hw:w<100) (hr:∀j,j<w->hq 600 (r j)) (ho':∀j,j<w->hq 600 (o j)) (hf:hq 600 f) (H:AH) :
  (RN N).f 392 [.lst (rq w r),.lst (rq w o),qr f] H=.ok (.lst (rq w fun j=>r j-f*o j)) H:=by
 by_cases hz:f=0
 ·have e:(fun j=>r j-f*o j)=r:=by funext j; rw[hz,Rat.zero_mul]; grind
  rw[e];refine Qaa QcY (by omega) (ρ:=[.lst (rq w r),.lst (rq w o),qr f,uS,uS]) rfl (by simp[AV.ncs,AV.nc,QhD]) (H':=[]) ?_ (by simp[AV.nc,QhD]) H;have d:=c_qz [] f;have d2:decide (f=0)=true:=by simp[hz]
  clear hr hf ho' hz e;simp only[Qbh];w_fin
 ·refine Qaa QcY (by omega) (ρ:=[.lst (rq w r),.lst (rq w o),qr f,uS,uS]) rfl (by simp[AV.ncs,AV.nc,QhD]) (H':=[.dead]) ?_ (by simp[AV.nc,QhD]) H
  have d:=c_qz [] f;have d2:decide (f=0)=false:=by simp[hz]
  have l1:=Qcm w r;have w9:w<1000000:=by omega
  have w8:w≤1000000:=by omega
  obtain⟨ρ_1,H_1,e1,st,rfl,rfl⟩:=QaE (C:=RN (N-1)) (k:=4) (n:=w) (b:=B13)
   (P:=fun k ρ H=>∃st,ρ=[.lst (rq w r),.lst (rq w o),qr f,.cell 0,st]∧H=[.lst (rq k fun j=>r j-f*o j)])
   (fun i hi ρ H ⟨st,h1',h2'⟩=>by
    subst h1' h2';have l2:(rq w r).length≤1000000:=by rw[Qcm]; omega
    have l3:(rq w o).length≤1000000:=by rw[Qcm]; omega
    have l4:(rq i fun j=>r j-f*o j).length≤100000:=by rw[Qcm]; omega
    have g1:=QhC (r:=r) hi;have g2:=QhC (r:=o) hi;have hm:=(hf.mul (ho' i hi)).mono (show 600+600≤2000 by decide);have m:=fun H=>Qmo (N:=N-1) (by omega) (some f) (some (o i)) (fun q h=>by cases h; exact hf.mono (by decide)) (fun q h=>by cases h; exact (ho' i hi).mono (by decide)) H
    have s:=fun H=>R_sub (N:=N-1) (by omega) (r i) (f*o i) ((hr i hi).mono (by decide)) hm H
    simp only[qo,omul] at m;have es:rq i (fun j=>r j-f*o j)++[qr (r i-f*o i)]=rq (i+1) fun j=>r j-f*o j:=by simp[rq,List.range_succ]
    refine⟨.next,_,_,?_,.inl rfl,.int i,rfl,rfl⟩;clear hr hf ho' hz hm l1;w_fin
    ) (ρ:=[.lst (rq w r),.lst (rq w o),qr f,.cell 0,uS]) (H:=[.lst []]) ⟨uS,rfl,rfl⟩
  have rn:=QhD w fun j=>r j-f*o j
  clear hr hf ho' hz;simp only[Qbh];w_fin
end
section
theorem QhE {f:AV->List AV->AH->OS} {P:List AV->Prop} {p:Nat->Bool} {H:AH}:∀(l:List Nat),(∀i∈l,∀ρ,P ρ->if p i=true then ∃ρ',f (.int i) ρ H=.ok (.ret (.int i)) ρ' H else ∃ρ',f (.int i) ρ H=.ok .next ρ' H∧P ρ') ->
  ∀ρ,P ρ->match l.find? p with
   | some i=>∃ρ',loopS f (l.map fun (i:Nat)=>AV.int (i:Int)) ρ H=.ok (.ret (.int i)) ρ' H
   | none=>∃ρ',loopS f (l.map fun (i:Nat)=>AV.int (i:Int)) ρ H=.ok .next ρ' H∧P ρ'
 | [],_,ρ,p=>⟨ρ,rfl,p⟩
 | i::l,h,ρ,q=>by
  have hi:=h i (.head _) ρ q;rw[List.find?_cons,List.map_cons,loopS];cases hp:p i with
  | true =>
   rw[hp,if_pos rfl] at hi;obtain⟨ρ',e⟩:=hi;exact⟨ρ',by rw[e]⟩
  | false =>
   rw[hp,if_neg Bool.false_ne_true] at hi;obtain⟨ρ',e,q'⟩:=hi;have:=QhE l (fun j hj=>h j (.tail _ hj)) ρ' q';rw[e];exact this
theorem QmA {C:Orc} {k:Nat} {b:List PS} {P:List AV->Prop} {p:Nat->Bool} {H:AH} (l:List Nat) (h:∀i∈l,∀ρ,P ρ->if p i=true then ∃ρ',evSs C b (ρ.set k (.int i)) H=.ok (.ret (.int i)) ρ' H else ∃ρ',evSs C b (ρ.set k (.int i)) H=.ok .next ρ' H∧P ρ') (ρ:List AV) (hP:P ρ) :
  match l.find? p with
   | some i=>∃ρ',forL C [k] true b (l.map fun (i:Nat)=>AV.int (i:Int)) ρ H=.ok (.ret (.int i)) ρ' H
   | none=>∃ρ',forL C [k] true b (l.map fun (i:Nat)=>AV.int (i:Int)) ρ H=.ok .next ρ' H∧P ρ':=by
 rw[Qcc];exact QhE l h ρ hP
def rgn (s n:Nat):List Nat:=(List.range (n-s)).map fun i=>s+i
theorem Qny {a b:Nat}:itemsOf (.rng a b)=some ((rgn a b).map fun (i:Nat)=>AV.int (i:Int)):=by
 rw[Qnn,rgn,List.map_map]; rfl
theorem Qe6 {s n i:Nat}:i∈rgn s n↔s≤i∧i<n:=by
 rw[rgn,List.mem_map];constructor
 ·rintro ⟨k,hk,rfl⟩
  have:=List.mem_range.mp hk;omega
 ·rintro ⟨h1,h2⟩
  exact⟨i-s,List.mem_range.mpr (by omega),by omega⟩
def ff (n:Nat) (R:Nat->Nat->Rat) (s c:Nat):Option Nat:=(rgn s n).find? fun i=>decide (R i c≠0)
def ffi:Option Nat->Int
 | some i=>i
 | none=>-1
variable {N:Nat}
theorem Qfo (hN:1≤N) (n w:Nat) (R:Nat->Nat->Rat) (s c:Nat) (hc:c<w) (hs:s<100) (hn:n<100) (hw:w<100) (rest:AH) :
  (RN N).f 399 [.cell 0,.int s,.int c] (.lst (mat n w R)::rest)=.ok (.int (ffi (ff n R s c))) (.lst (mat n w R)::rest):=by
 refine QbC Qfi hN (ρ:=[.cell 0,.int s,.int c,uS]) rfl ?_;have n8:n≤1000000:=by omega
 have w8:w≤1000000:=by omega
 have n9:n<1000000:=by omega
 have s9:s<1000000:=by omega
 have lm:=Qaq n w R;have lp:=QmA (C:=RN (N-1)) (k:=3) (b:=B8) (P:=fun ρ=>∃x,ρ=[.cell 0,.int s,.int c,x]) (p:=fun i=>decide (R i c≠0)) (H:=.lst (mat n w R)::rest) (rgn s n) (fun i hi ρ ⟨x,h⟩=>by
   subst h;have g:=QbJ (w:=w) (R:=R) (Qe6.mp hi).2;have g2:=QhC (r:=R i) hc;have l2:=Qcm w (R i);have z:=fun H=>c_qnz H (R i c)
   by_cases h0:R i c=0
   ·have d:decide (R i c≠0)=false:=by simp[h0]
    rw[d,if_neg Bool.false_ne_true];refine⟨[.cell 0,.int s,.int c,.int i],?_,_,rfl⟩;clear h0 hi;have z':=fun H=>(z H).trans (congrArg some d)
    clear z d;w_fin
   ·have d:decide (R i c≠0)=true:=by simp[h0]
    rw[d,if_pos rfl];refine⟨[.cell 0,.int s,.int c,.int i],?_⟩;have z':=fun H=>(z H).trans (congrArg some d)
    clear z d h0 hi;w_fin) [.cell 0,.int s,.int c,uS] ⟨_,rfl⟩
 have it:=Qny (a:=s) (b:=n);simp only[Qb7];have hff:ff n R s c=(rgn s n).find? fun i=>decide (R i c≠0):=rfl
 rw[hff];cases hf:(rgn s n).find? fun i=>decide (R i c≠0) with
 | some i =>
  simp only[hf] at lp;obtain⟨ρ',e⟩:=lp;simp only[ffi];clear hf hff;w_fin
 | none =>
  simp only[hf] at lp;obtain⟨ρ',e,x,rfl⟩:=lp;simp only[ffi];clear hf hff;w_fin
def clr (R:Nat->Nat->Rat) (p c:Nat):Nat->Nat->Rat:=fun i=>if i=p then R i else fun j=>R i j-R i c*R p j
theorem QoX (hN:6≤N) (n w:Nat) (R:Nat->Nat->Rat) (p c:Nat) (hp:p<n) (hc:c<w) (hn:n<100) (hw:w<100) (hR:∀i j,i<n->j<w->hq 600 (R i j)) (rest:AH) :
  (RN N).f 406 [.cell 0,.int p,.int c] (.lst (mat n w R)::rest)=.ok .none (.lst (mat n w (clr R p c))::rest):=by
 refine QbC Qfj (by omega) (ρ:=[.cell 0,.int p,.int c,uS]) rfl ?_;have n8:n≤1000000:=by omega
 have w8:w≤1000000:=by omega
 have n9:n<1000000:=by omega
 have lm:=Qaq n w R;obtain⟨ρ_1,H_1,e1,st,rfl,rfl⟩:=QaE (C:=RN (N-1)) (k:=3) (n:=n) (b:=B20)
  (P:=fun k ρ H=>∃st,ρ=[.cell 0,.int p,.int c,st]∧H=.lst (mat n w fun i=>if i<k then clr R p c i else R i)::rest)
  (fun i hi ρ H ⟨st,h1',h2'⟩=>by
   subst h1' h2';refine⟨.next,[.cell 0,.int p,.int c,.int i],.lst (mat n w fun i'=>if i'<i+1 then clr R p c i' else R i')::rest,?_,.inl rfl,.int i,rfl,rfl⟩;by_cases hip:i=p
   ·have e:(fun i'=>if i'<i+1 then clr R p c i' else R i')=fun i'=>if i'<i then clr R p c i' else R i':=by
     funext i';by_cases h:i'<i
     ·rw[if_pos (by omega),if_pos h]
     ·by_cases h2:i'=i
      ·rw[if_pos (by omega),if_neg h,clr,if_pos (by omega)]
      ·rw[if_neg (by omega),if_neg h]
    rw[e];have d:decide ((i:Int)=p)=true:=by simp[hip]
    clear hip hi hR hp hc;w_fin
   ·have d:decide ((i:Int)=p)=false:=by simp; omega
    have gi:=QbJ (w:=w) (R:=fun i'=>if i'<i then clr R p c i' else R i') hi;have gp:=QbJ (w:=w) (R:=fun i'=>if i'<i then clr R p c i' else R i') hp;have ei:(if i<i then clr R p c i else R i)=R i:=if_neg (by omega);have ep:(if p<i then clr R p c p else R p)=R p:=by
     split
     ·rw[clr,if_pos rfl]
     ·rfl
    simp only[ei,ep] at gi gp;have g2:=QhC (r:=R i) hc;have l2:=Qcm w (R i);have l3:=Qaq n w fun i'=>if i'<i then clr R p c i' else R i'
    have le:=fun H=>Qrn (N:=N-1) (by omega) w (R i) (R p) (R i c) hw (fun j hj=>hR i j hi hj) (fun j hj=>hR p j hp hj) (hR i c hi hc) H
    have st:=Qgx n w (fun i'=>if i'<i then clr R p c i' else R i') i (fun j=>R i j-R i c*R p j);have e:updR (fun i'=>if i'<i then clr R p c i' else R i') i (fun j=>R i j-R i c*R p j)=fun i'=>if i'<i+1 then clr R p c i' else R i':=by
     funext i';unfold updR;dsimp only;by_cases h2:i'=i
     ·rw[if_pos h2,if_pos (by omega),h2,clr,if_neg hip]
     ·rw[if_neg h2]
      by_cases h:i'<i
      ·rw[if_pos h,if_pos (by omega)]
      ·rw[if_neg h,if_neg (by omega)]
    rw[e] at st;have hiI:(i:Int)<n:=by omega
    clear hip hi hR hp hc ei ep e hw hn;w_fin) (ρ:=[.cell 0,.int p,.int c,uS]) (H:=.lst (mat n w R)::rest) ⟨uS,rfl,by simp⟩
 have ec:mat n w (fun i=>if i<n then clr R p c i else R i)=mat n w (clr R p c):=QoW fun i hi j hj=>by rw[if_pos hi]
 rw[ec] at e1;clear hR hp hc;simp only[Qb8];w_fin
theorem QmB (hN:1≤N) (n w:Nat) (R:Nat->Nat->Rat) (hn:n<100) (hw:w<100) (H:AH):(RN N).f 380 [.lst (mat n w R)] H=.ok (.cell H.length) (H++[.lst (mat n w R)]):=by
 refine QbC Qmk hN (ρ:=[.lst (mat n w R),uS]) rfl ?_;have cm:evE (RN (N-1)) [.lst (mat n w R),uS] D108 H=.ok (.cell H.length) (H++[.lst (mat n w R)]):=by
  refine (Qah (v:=.lst (mat n w R)) (l:=mat n w R) (g:=fun x=>x) (by w_fin) rfl (by rw[Qaq]; omega) rfl fun x hx=>?_).trans (by simp only[newC,List.map_id']; rfl)
  obtain⟨j,hj,rfl⟩:=List.mem_map.mp hx;have l2:(rq w (R j)).length≤100000:=by rw[Qcm]; omega
  refine⟨_,rfl,?_⟩;clear hx hj;w_fin
 simp only[Qgd];w_fin
end
section
def swp (R:Nat->Nat->Rat) (t f:Nat):Nat->Nat->Rat:=updR (updR R t (R f)) f (R t)
theorem QmC (R:Nat->Nat->Rat) (t f:Nat):swp R t f t=R f:=by
 unfold swp updR;by_cases h:t=f
 ·subst h; simp
 ·simp[h]
def scl (R:Nat->Nat->Rat) (t c:Nat):Nat->Nat->Rat:=updR R t fun j=>R t j*(R t c)⁻¹
def stp (R:Nat->Nat->Rat) (t f c:Nat):Nat->Nat->Rat:=clr (scl (swp R t f) t c) t c
def ech (n:Nat) (M:Nat->Nat->Rat):Nat->(Nat->Nat->Rat) × List Nat
 | 0=>(M,[])
 | c+1=>match ff n (ech n M c).1 (ech n M c).2.length c with
  | none=>ech n M c
  | some f=>(stp (ech n M c).1 (ech n M c).2.length f c,(ech n M c).2++[c])
theorem Qgy {n s c f:Nat} {R:Nat->Nat->Rat} (h:ff n R s c=some f):s≤f∧f<n∧R f c≠0 :=
 have m:=Qe6.mp (List.mem_of_find?_eq_some h)
 ⟨m.1,m.2,by simpa using List.find?_some h⟩
theorem QoY {n s c:Nat} {R:Nat->Nat->Rat} (h:ff n R s c=none):∀i,s≤i->i<n->R i c=0:=fun i h1 h2=>by
 simpa using List.find?_eq_none.mp h i (Qe6.mpr ⟨h1,h2⟩)
def bk:Nat->Nat
 | 0=>3
 | k+1=>4*bk k+1
def hqm (b n w:Nat) (R:Nat->Nat->Rat):Prop:=∀i j,i<n->j<w->hq b (R i j)
theorem Qnz {b n w t f:Nat} {R:Nat->Nat->Rat} (h:hqm b n w R) (ht:t<n) (hf:f<n):hqm b n w (swp R t f):=fun i j hi hj=>by
 unfold swp updR;split
 ·exact h t j ht hj
 ·split
  ·exact h f j hf hj
  ·exact h i j hi hj
theorem Qk9 {b n w t c:Nat} {R:Nat->Nat->Rat} (h:hqm b n w R) (ht:t<n) (hc:c<w) (h0:R t c≠0):hqm (b+b) n w (scl R t c):=fun i j hi hj=>by
 unfold scl updR;split
 ·exact (h t j ht hj).mul ((h t c ht hc).inv h0)
 ·exact (h i j hi hj).mono (by omega)
theorem Qro {b n w t c:Nat} {R:Nat->Nat->Rat} (h:hqm b n w R) (ht:t<n) (hc:c<w) (h0:R t c≠0):hqm (4*b+1) n w (clr (scl R t c) t c):=fun i j hi hj=>by
 unfold clr;split
 ·exact (Qk9 h ht hc h0 i j hi hj).mono (by omega)
 ·next hit =>
  have e:∀k,scl R t c i k=R i k:=fun k=>by unfold scl updR; simp[hit]
  dsimp only;rw[e j,e c];exact ((h i j hi hj).sub ((h i c hi hc).mul (Qk9 h ht hc h0 t j ht hj))).mono (by omega)
theorem Qrp {b n w t f c:Nat} {R:Nat->Nat->Rat} (h:hqm b n w R) (ht:t<n) (hf:f<n) (hc:c<w) (h0:R f c≠0):hqm (4*b+1) n w (stp R t f c) :=
 Qro (Qnz h ht hf) ht hc (by rw[QmC]; exact h0)
theorem QhF {n w:Nat} {M:Nat->Nat->Rat} (h:hqm 3 n w M):∀c,c≤w->hqm (bk (ech n M c).2.length) n w (ech n M c).1∧(ech n M c).2.length≤n
 | 0,_=>⟨h,Nat.zero_le _⟩
 | c+1,hc=>by
  obtain⟨h1,h2⟩:=QhF h c (by omega);unfold ech;cases hf:ff n (ech n M c).1 (ech n M c).2.length c with
  | none=>exact⟨h1,h2⟩
  | some f =>
   obtain⟨q1,q2,q3⟩:=Qgy hf;dsimp only;rw[List.length_append];exact⟨Qrp h1 (by omega) q2 (by omega) q3,by simp; omega⟩
theorem bk_le {k:Nat} (h:k≤3):bk k≤213:=by
 match k,h with
 | 0,_=>decide
 | 1,_=>decide
 | 2,_=>decide
 | 3,_=>decide
def pv (l:List Nat):List AV:=l.map fun (c:Nat)=>AV.int (c:Int)
theorem QnA (l:List Nat):(pv l).length=l.length:=by simp[pv]
theorem Qrq (l:List Nat) (c:Nat):pv l++[.int c]=pv (l++[c]):=by simp[pv]
theorem QoZ (l:List Nat):AV.ncs (pv l)=true:=QaV fun x hx=>by
 obtain⟨j,_,rfl⟩:=List.mem_map.mp hx; rfl
variable {N:Nat}
theorem Qd0 (hN:7≤N) (n w:Nat) (M:Nat->Nat->Rat) (hn:n≤3) (h0:0<n) (hw:w<100) (hM:hqm 3 n w M) (H:AH) :
  (RN N).f 413 [.lst (mat n w M)] H=.ok (.tup [.lst (mat n w (ech n M w).1),.lst (pv (ech n M w).2)]) H:=by
 refine Qaa Qgk (by omega) (ρ:=[.lst (mat n w M),uS,uS,uS,uS,uS,uS]) rfl (by simp[AV.ncs,AV.nc,QbV]) (H':=[.dead,.dead]) ?_ (by simp[AV.ncs,AV.nc,QbV,QoZ]) H;have cp:=QmB (N:=N-1) (by omega) n w M (by omega) hw [];simp only[List.length_nil,List.nil_append] at cp;have lm:=Qaq n w M;have g0:=QbJ (w:=w) (R:=M) h0;have l0:=Qcm w (M 0);have n8:n≤1000000:=by omega
 have w8:w≤1000000:=by omega
 have w9:w<1000000:=by omega
 have d0:decide ((n:Int)>0)=true:=by simp; omega
 obtain⟨ρ_1,H_1,e1,x,y,z,rfl,rfl⟩:=QaE (C:=RN (N-1)) (k:=4) (n:=w) (b:=B32)
  (P:=fun c ρ H=>∃x y z,ρ=[.lst (mat n w M),.cell 0,.cell 1,.int w,x,y,z]∧H=[.lst (mat n w (ech n M c).1),.lst (pv (ech n M c).2)])
  (fun c hc ρ H ⟨x,y,z,h1',h2'⟩=>by
   subst h1' h2';obtain⟨hb,hk⟩:=QhF hM c (Nat.le_of_lt hc);obtain⟨R,hR⟩:∃R,R=(ech n M c).1:=⟨_,rfl⟩;obtain⟨p,hp⟩:∃p,p=(ech n M c).2:=⟨_,rfl⟩;rw[←hp] at hk;rw[←hR,←hp] at hb ⊢;have lp:=QnA p;have k8:p.length≤1000000:=by omega
   have k7:p.length≤100000:=by omega
   have fi:=Qfo (N:=N-1) (by omega) n w R p.length c hc (by omega) (by omega) hw [.lst (pv p)];cases hf:ff n R p.length c with
   | none =>
    have es:ech n M (c+1)=ech n M c:=by
     rw[ech,←hR,←hp,hf]
    rw[es,←hR,←hp];refine⟨.cont,[.lst (mat n w M),.cell 0,.cell 1,.int w,.int c,.int p.length,.int (-1)],_,?_,.inr rfl,_,_,_,rfl,rfl⟩;rw[hf] at fi;simp only[ffi] at fi;have d:decide ((-1:Int)<0)=true:=rfl;clear hM hb hk hc hf es hR hp;w_fin
   | some f =>
    obtain⟨q1,q2,q3⟩:=Qgy hf;have es:ech n M (c+1)=(stp R p.length f c,p++[c]):=by
     rw[ech,←hR,←hp,hf]
    rw[es];refine⟨.next,[.lst (mat n w M),.cell 0,.cell 1,.int w,.int c,.int p.length,.int f],_,?_,.inl rfl,_,_,_,rfl,rfl⟩;rw[hf] at fi;simp only[ffi] at fi;have d:decide ((f:Int)<0)=false:=by simp
    have ht:p.length<n:=by omega
    have b53:bk p.length≤53:=by
     have:p.length≤2:=by omega
     match p.length,this with
     | 0,_=>decide
     | 1,_=>decide
     | 2,_=>decide
    have hS:=Qnz hb ht q2;have hst:swp R p.length f p.length c≠0:=by rw[QmC]; exact q3
    have gt:=QbJ (w:=w) (R:=R) ht;have gf:=QbJ (w:=w) (R:=R) q2;have m1:=Qgx n w R p.length (R f);have m2:(mat n w (updR R p.length (R f))).set f (.lst (rq w (R p.length)))=mat n w (swp R p.length f):=Qgx n w _ f (R p.length);have gS:=QbJ (w:=w) (R:=swp R p.length f) ht;have g2:=QhC (r:=swp R p.length f p.length) hc;have dv:=fun H=>Qre (N:=N-1) (by omega) (swp R p.length f p.length c) hst ((hS _ _ ht hc).mono (by omega)) H
    have sc:=fun H=>Qmz (N:=N-1) (by omega) w (swp R p.length f p.length) (swp R p.length f p.length c)⁻¹ hw (fun j hj=>(hS _ _ ht hj).mono (by omega)) (((hS _ _ ht hc).inv hst).mono (by omega)) H
    have m3:(mat n w (swp R p.length f)).set p.length (.lst (rq w fun j=>swp R p.length f p.length j*(swp R p.length f p.length c)⁻¹))=mat n w (scl (swp R p.length f) p.length c):=Qgx n w _ p.length _;have hsc:=Qk9 hS ht hc hst;have cl:(RN (N-1)).f 406 [.cell 0,.int p.length,.int c] [.lst (mat n w (scl (swp R p.length f) p.length c)),.lst (pv p)]=.ok .none [.lst (mat n w (stp R p.length f c)),.lst (pv p)]:=QoX (N:=N-1) (by omega) n w (scl (swp R p.length f) p.length c) p.length c ht hc (by omega) hw (fun i j hi hj=>(hsc i j hi hj).mono (by omega)) [.lst (pv p)]
    have l1:=Qaq n w R;have l2:=Qaq n w (updR R p.length (R f));have l3:=Qaq n w (swp R p.length f);have l4:=Qcm w (swp R p.length f p.length);have tI:(p.length:Int)<n:=by omega
    have fI:(f:Int)<n:=by omega
    have pa:=Qrq p c;clear hM hb hk hc hf es hR hp hS hst hsc q1 q2 q3 ht b53;w_fin) (ρ:=[.lst (mat n w M),.cell 0,.cell 1,.int w,uS,uS,uS]) (H:=[.lst (mat n w M),.lst (pv [])]) ⟨_,_,_,rfl,rfl⟩
 have nc1:=QbV n w (ech n M w).1;have nc2:=QoZ (ech n M w).2;have pe:pv []=[]:=rfl;rw[pe] at e1;clear hM h0 hn pe;simp only[Qct];w_fin
end
section
def sing (k:Nat):String:="Lapack routine dgesv: system is exactly singular: U["++toString (k:Int)++","++toString (k:Int)++"] = 0"
theorem QnB {k:Nat} (h:k≤3):(toString (k:Int)).length=1:=by
 match k,h with
 | 0,_=>decide +kernel
 | 1,_=>decide +kernel
 | 2,_=>decide +kernel
 | 3,_=>decide +kernel
theorem Qrr {C:Orc} {ρ:List AV} {H:AH} (a:PE):evE C ρ (.fmt a) H=(evE C ρ a H).bind fun x H=>match x with | .int i=>if i.natAbs<1000000 then .ok (.str (toString i)) H else .stuck | _=>.stuck:=by rw[evE]; first | done | rfl
theorem Qo0 {C:Orc} {ρ:List AV} {H:AH} (l:List PE):evE C ρ (.fstr l) H=evJ C ρ l "" H:=by rw[evE]; first | done | rfl
theorem ev_jn {C:Orc} {ρ:List AV} {H:AH} (a:String):evJ C ρ [] a H=.ok (.str a) H:=by rw[evJ]; first | done | rfl
theorem Qla {C:Orc} {ρ:List AV} {H:AH} {e:PE} {l:List PE} {s a:String} (he:evE C ρ e H=.ok (.str s) H) (hl:(a++s).length≤100000):evJ C ρ (e::l) a H=evJ C ρ l (a++s) H:=by
 rw[evJ,he];exact if_pos hl
theorem Qrs {C:Orc} {ρ:List AV} {H:AH} {k:Nat} (h:k≤3) (e:ρ[6]?=some (.int k)) :
  evE C ρ (.fstr [(.str "Lapack routine dgesv: system is exactly singular: U["),(.fmt D9),(.str ","),(.fmt D9),(.str "] = 0")]) H=.ok (.str (sing k)) H:=by
 have t:=QnB h;have l1:"Lapack routine dgesv: system is exactly singular: U[".length=52:=by decide +kernel
 have l2:",".length=1:=by decide +kernel
 have l3:"] = 0".length=5:=by decide +kernel
 have f:evE C ρ (.fmt D9) H=.ok (.str (toString (k:Int))) H:=by
  rw[Qrr,Qfh,e];have k9:k<1000000:=by omega
  simp only[set_int,if_true,Out.bind_ok,Int.natAbs_natCast,k9]
 unfold sing;generalize "Lapack routine dgesv: system is exactly singular: U["=s1 at *
 generalize ","=s2 at *
 generalize "] = 0"=s3 at *
 generalize toString (k:Int)=s4 at *
 rw[Qo0,Qla (QjA s1) (by simp[l1]),Qla f (by simp[l1,t]),Qla (QjA s2) (by simp[l1,t,l2]),Qla f (by simp[l1,t,l2]),Qla (QjA s3) (by simp[l1,t,l2,l3]),ev_jn,String.empty_append]
theorem QfN {f:AV->List AV->AH->OS} {P:List AV->Prop} {p:Nat->Bool} {g:Nat->AV} {H:AH}:∀(l:List Nat),(∀i∈l,∀ρ,P ρ->if p i=true then ∃ρ',f (.int i) ρ H=.ok (.ret (g i)) ρ' H else ∃ρ',f (.int i) ρ H=.ok .next ρ' H∧P ρ') ->
  ∀ρ,P ρ->match l.find? p with
   | some i=>∃ρ',loopS f (l.map fun (i:Nat)=>AV.int (i:Int)) ρ H=.ok (.ret (g i)) ρ' H
   | none=>∃ρ',loopS f (l.map fun (i:Nat)=>AV.int (i:Int)) ρ H=.ok .next ρ' H∧P ρ'
 | [],_,ρ,p=>⟨ρ,rfl,p⟩
 | i::l,h,ρ,q=>by
  have hi:=h i (.head _) ρ q;rw[List.find?_cons,List.map_cons,loopS];cases hp:p i with
  | true =>
   rw[hp,if_pos rfl] at hi;obtain⟨ρ',e⟩:=hi;exact⟨ρ',by rw[e]⟩
  | false =>
   rw[hp,if_neg Bool.false_ne_true] at hi;obtain⟨ρ',e,q'⟩:=hi;have:=QfN l (fun j hj=>h j (.tail _ hj)) ρ' q';rw[e];exact this
theorem Qlb {C:Orc} {k:Nat} {b:List PS} {P:List AV->Prop} {p:Nat->Bool} {g:Nat->AV} {H:AH} (l:List Nat) (h:∀i∈l,∀ρ,P ρ->if p i=true then ∃ρ',evSs C b (ρ.set k (.int i)) H=.ok (.ret (g i)) ρ' H else ∃ρ',evSs C b (ρ.set k (.int i)) H=.ok .next ρ' H∧P ρ') (ρ:List AV) (hP:P ρ) :
  match l.find? p with
   | some i=>∃ρ',forL C [k] true b (l.map fun (i:Nat)=>AV.int (i:Int)) ρ H=.ok (.ret (g i)) ρ' H
   | none=>∃ρ',forL C [k] true b (l.map fun (i:Nat)=>AV.int (i:Int)) ρ H=.ok .next ρ' H∧P ρ':=by
 rw[Qcc];exact QfN l h ρ hP
def fd (p:List Nat) (n:Nat):Option Nat:=(List.range n).find? fun c=>decide (p[c]?≠some c)
def fdi:Option Nat->Int
 | some c=>((c+1:Nat):Int)
 | none=>0
variable {N:Nat}
theorem Qrt (l:List Nat) (i:Nat):(pv l)[i]?=l[i]?.map fun (c:Nat)=>AV.int (c:Int):=by simp[pv]
theorem Qcn (hN:1≤N) (p:List Nat) (n:Nat) (hp:p.length<100) (hn:n<100) (H:AH):(RN N).f 427 [.lst (pv p),.int n] H=.ok (.int (fdi (fd p n))) H:=by
 refine Qaa Qeb hN (ρ:=[.lst (pv p),.int n,uS]) rfl (by simp[AV.ncs,AV.nc,QoZ]) (H':=[]) ?_ rfl H;have n9:n<1000000:=by omega
 have l1:=QnA p;have p9:p.length≤1000000:=by omega
 have lp:=Qlb (C:=RN (N-1)) (k:=2) (b:=B10) (P:=fun ρ=>∃x,ρ=[.lst (pv p),.int n,x]) (p:=fun c=>decide (p[c]?≠some c)) (g:=fun c=>.int ((c+1:Nat):Int)) (H:=[]) (List.range n) (fun i hi ρ ⟨x,h⟩=>by
   subst h;have gi:=Qrt p i;by_cases hl:i<p.length
   ·have d1:decide ((i:Int)≥p.length)=false:=by simp; omega
    rw[List.getElem?_eq_getElem hl,Option.map_some] at gi;by_cases he:p[i]=i
    ·have d:decide (p[i]?≠some i)=false:=by rw[List.getElem?_eq_getElem hl,he]; simp
     have d2:decide ((p[i]:Int)=i)=true:=by rw[he]; simp
     rw[d,if_neg Bool.false_ne_true];refine⟨[.lst (pv p),.int n,.int i],?_,_,rfl⟩;clear he hi d hn hp;w_fin
    ·have d:decide (p[i]?≠some i)=true:=by rw[List.getElem?_eq_getElem hl]; simp[he]
     have d2:decide ((p[i]:Int)=i)=false:=by simp; omega
     rw[d,if_pos rfl];refine⟨[.lst (pv p),.int n,.int i],?_⟩;clear he hi d hn hp;w_fin
   ·have d1:decide ((i:Int)≥p.length)=true:=by simp; omega
    have d:decide (p[i]?≠some i)=true:=by rw[List.getElem?_eq_none (by omega)]; simp
    rw[d,if_pos rfl];refine⟨[.lst (pv p),.int n,.int i],?_⟩;clear hl hi d hn hp gi;w_fin) [.lst (pv p),.int n,uS] ⟨_,rfl⟩
 have hfd:fd p n=(List.range n).find? fun c=>decide (p[c]?≠some c):=rfl
 simp only[Qbo];rw[hfd];cases hf:(List.range n).find? fun c=>decide (p[c]?≠some c) with
 | some i =>
  simp only[hf] at lp;obtain⟨ρ',e⟩:=lp;simp only[fdi];clear hf hfd hn hp;w_fin
 | none =>
  simp only[hf] at lp;obtain⟨ρ',e,x,rfl⟩:=lp;simp only[fdi];clear hf hfd hn hp;w_fin
def jn (n:Nat) (A B:Nat->Nat->Rat):Nat->Nat->Rat:=fun i j=>if j<n then A i j else B i (j-n)
theorem Qru (n q:Nat) (A B:Nat->Nat->Rat) (i:Nat):rq n (A i)++rq q (B i)=rq (n+q) (jn n A B i):=by
 unfold rq;rw[List.range_add,List.map_append,List.map_map];congr 1
 ·exact List.map_congr_left fun j hj=>by rw[jn,if_pos (by simpa using hj)]
 ·exact List.map_congr_left fun j hj=>by
   have:¬n+j<n:=by omega
   simp[jn,this]
theorem Qo1 (n q:Nat) (r:Nat->Rat):(rq (n+q) r).drop n=rq q fun j=>r (n+j):=by
 unfold rq;rw[List.range_add,List.map_append,List.drop_left' (by simp),List.map_map];rfl
theorem Qij {n q:Nat} {A B:Nat->Nat->Rat} (hA:hqm 3 n n A) (hB:hqm 3 n q B):hqm 3 n (n+q) (jn n A B):=fun i j hi hj=>by
 unfold jn;split
 ·next h=>exact hA i j hi h
 ·exact hB i (j-n) hi (by omega)
theorem Qjf {C:Orc} (n q:Nat) (A B:Nat->Nat->Rat) (hn:n<100) (hq:q<100) (a b c d e:AV):evE C [.lst (mat n n A),.lst (mat n q B),.int n,a,b,c,d,uS,e] D76 []=.ok (.lst (mat n (n+q) (jn n A B))) []:=by
 have n9:n<1000000:=by omega
 refine (Qah (v:=.rng 0 n) (l:=(List.range n).map fun (j:Nat)=>AV.int (j:Int)) (g:=fun x=>match x with | .int j=>.lst (rq (n+q) (jn n A B j.toNat)) | _=>.none) (by w_fin) QaP (by simp; omega) rfl fun x hx=>?_).trans (by simp[newC,mat,Function.comp_def])
 obtain⟨j,hj,rfl⟩:=List.mem_map.mp hx;have hj':j<n:=by simpa using hj
 have g1:=QbJ (w:=n) (R:=A) hj';have g2:=QbJ (w:=q) (R:=B) hj';have l1:=Qaq n n A;have l2:=Qaq n q B;have l3:=Qcm n (A j);have l4:=Qcm q (B j);have c1:=Qru n q A B j;have z1:n≤1000000:=by omega
 have z2:n+q≤1000000:=by omega
 refine⟨_,rfl,?_⟩;clear hx hj hj' hn hq;w_fin
theorem Qc2 (hN:8≤N) (n q:Nat) (A B:Nat->Nat->Rat) (hn:n≤3) (h0:0<n) (hq':q≤3) (hA:hqm 3 n n A) (hB:hqm 3 n q B) (hf:fd (ech n (jn n A B) (n+q)).2 n=none) (H:AH) :
  (RN N).f 432 [.lst (mat n n A),.lst (mat n q B)] H=.ok (.lst (mat n q fun i j=>(ech n (jn n A B) (n+q)).1 i (n+j))) H:=by
 refine Qaa Qem (by omega) (ρ:=[.lst (mat n n A),.lst (mat n q B),uS,uS,uS,uS,uS,uS,uS]) rfl (by simp[AV.ncs,AV.nc,QbV]) (H':=[]) ?_ (by simp[AV.ncs,AV.nc,QbV]) H;have jn':=fun a b c d e=>Qjf (C:=RN (N-1)) n q A B (by omega) (by omega) a b c d e
 have re:=Qd0 (N:=N-1) (by omega) n (n+q) (jn n A B) hn h0 (by omega) (Qij hA hB) [];have hl:=(QhF (Qij hA hB) (n+q) (Nat.le_refl _)).2;have fdp:=Qcn (N:=N-1) (by omega) (ech n (jn n A B) (n+q)).2 n (by omega) (by omega) [];rw[hf] at fdp;simp only[fdi] at fdp;have l1:=Qaq n n A;have z1:n≤1000000:=by omega
 have cm:evE (RN (N-1)) [.lst (mat n n A),.lst (mat n q B),.int n,.lst (mat n (n+q) (jn n A B)),.lst (mat n (n+q) (ech n (jn n A B) (n+q)).1),.lst (pv (ech n (jn n A B) (n+q)).2),.int 0,uS,uS] D110 []=.ok (.lst (mat n q fun i j=>(ech n (jn n A B) (n+q)).1 i (n+j))) []:=by
  refine (Qah (v:=.lst (mat n (n+q) (ech n (jn n A B) (n+q)).1)) (l:=mat n (n+q) (ech n (jn n A B) (n+q)).1) (g:=fun x=>match x with | .lst l=>.lst (l.drop n) | _=>.none) (by clear hA hB hn h0 hq'; w_fin) rfl (by rw[Qaq]; omega) rfl fun x hx=>?_).trans (by simp[newC,mat,Function.comp_def,Qo1])
  obtain⟨j,hj,rfl⟩:=List.mem_map.mp hx;have l3:=Qcm (n+q) ((ech n (jn n A B) (n+q)).1 j);have z2:n+q≤1000000:=by omega
  have z3:(n:Int)≤((n+q:Nat):Int):=by omega
  have z4:(0:Int)≤n:=by omega
  refine⟨_,rfl,?_⟩;simp only[QfI];clear hx hj hA hB hn h0 hq' hf jn' re fdp;w_fin
 have d:decide ((0:Int)>0)=false:=rfl;clear hA hB hn h0 hq' hf hl;simp only[QbY];w_fin
theorem QcH (hN:8≤N) (n q:Nat) (A B:Nat->Nat->Rat) (hn:n≤3) (h0:0<n) (hq':q≤3) (hA:hqm 3 n n A) (hB:hqm 3 n q B) (c:Nat) (hf:fd (ech n (jn n A B) (n+q)).2 n=some c) (H:AH) :
  (RN N).f 432 [.lst (mat n n A),.lst (mat n q B)] H=.exc (.str (sing (c+1))) H:=by
 refine Qby Qem (by omega) (ρ:=[.lst (mat n n A),.lst (mat n q B),uS,uS,uS,uS,uS,uS,uS]) rfl (by simp[AV.ncs,AV.nc,QbV]) (H':=[]) ?_ rfl H;have jn':=fun a b c d e=>Qjf (C:=RN (N-1)) n q A B (by omega) (by omega) a b c d e
 have re:=Qd0 (N:=N-1) (by omega) n (n+q) (jn n A B) hn h0 (by omega) (Qij hA hB) [];have hl:=(QhF (Qij hA hB) (n+q) (Nat.le_refl _)).2;have fdp:=Qcn (N:=N-1) (by omega) (ech n (jn n A B) (n+q)).2 n (by omega) (by omega) [];rw[hf] at fdp;simp only[fdi] at fdp;have hc:c<n:=by simpa using List.mem_of_find?_eq_some hf
 have l1:=Qaq n n A;have z1:n≤1000000:=by omega
 have es:=fun H=>Qrs (C:=RN (N-1)) (H:=H) (k:=c+1) (by omega) (show ([.lst (mat n n A),.lst (mat n q B),.int n,.lst (mat n (n+q) (jn n A B)),.lst (mat n (n+q) (ech n (jn n A B) (n+q)).1),.lst (pv (ech n (jn n A B) (n+q)).2),.int ((c+1:Nat):Int),uS,uS]:List AV)[6]?=some (.int ((c+1:Nat):Int)) from rfl)
 have d:decide (((c+1:Nat):Int)>0)=true:=decide_eq_true (by omega)
 clear hA hB hn h0 hq' hf hl hc;simp only[QbY];w_fin
def idm:Nat->Nat->Rat:=fun i j=>if i=j then 1 else 0
theorem Qc3 (hN:1≤N) (n:Nat) (hn:n≤3) (H:AH):(RN N).f 375 [.int n] H=.ok (.lst (mat n n idm)) H:=by
 match n,hn with
 | 0,_ =>
  refine Qaa Qbm hN (ρ:=[.int 0,uS,uS,uS]) rfl rfl (H':=[.dead]) ?_ rfl H;have e:itemsOf (.rng 0 0)=some []:=rfl;simp only[QaN];w_fin;rfl
 | 1,_ =>
  refine Qaa Qbm hN (ρ:=[.int 1,uS,uS,uS]) rfl rfl (H':=[.dead,.dead]) ?_ rfl H;simp only[QaN];w_fin;rfl
 | 2,_ =>
  refine Qaa Qbm hN (ρ:=[.int 2,uS,uS,uS]) rfl rfl (H':=[.dead,.dead,.dead]) ?_ rfl H;simp only[QaN];w_fin;rfl
 | 3,_ =>
  refine Qaa Qbm hN (ρ:=[.int 3,uS,uS,uS]) rfl rfl (H':=[.dead,.dead,.dead,.dead]) ?_ rfl H;simp only[QaN];w_fin;rfl
end
section
variable {N:Nat}
theorem Qlc (hN:9≤N) (n:Nat) (A:Nat->Nat->Rat) (hn:n≤3) (h0:0<n) (hA:hqm 3 n n A) (hf:fd (ech n (jn n A idm) (n+n)).2 n=none) (H:AH) :
  (RN N).f 439 [.lst (mat n n A)] H=.ok (.lst (mat n n fun i j=>(ech n (jn n A idm) (n+n)).1 i (n+j))) H:=by
 refine Qaa Qhm (by omega) (ρ:=[.lst (mat n n A)]) rfl (by simp[AV.ncs,AV.nc,QbV]) (H':=[]) ?_ (by simp[AV.ncs,AV.nc,QbV]) H;have s:=Qc2 (N:=N-1) (by omega) n n A idm hn h0 hn hA (fun i j _ _=>by unfold idm; split<;>exact⟨by decide,by decide⟩) hf [];have e:=Qc3 (N:=N-1) (by omega) n hn [];have l1:=Qaq n n A;have z1:n≤1000000:=by omega
 clear hA hn h0 hf;simp only[QdO];w_fin
theorem QjP (hN:9≤N) (n:Nat) (A:Nat->Nat->Rat) (hn:n≤3) (h0:0<n) (hA:hqm 3 n n A) (c:Nat) (hf:fd (ech n (jn n A idm) (n+n)).2 n=some c) (H:AH) :
  (RN N).f 439 [.lst (mat n n A)] H=.exc (.str (sing (c+1))) H:=by
 refine Qby Qhm (by omega) (ρ:=[.lst (mat n n A)]) rfl (by simp[AV.ncs,AV.nc,QbV]) (H':=[]) ?_ rfl H;have s:=QcH (N:=N-1) (by omega) n n A idm hn h0 hn hA (fun i j _ _=>by unfold idm; split<;>exact⟨by decide,by decide⟩) c hf [];have e:=Qc3 (N:=N-1) (by omega) n hn [];have l1:=Qaq n n A;have z1:n≤1000000:=by omega
 clear hA hn h0 hf;simp only[QdO];w_fin
abbrev qmt (r c:Nat) (q:Nat->Nat->Rat):AV:=vec "double" (cmj r c fun i j=>qr (q i j)) (dimA r c)
abbrev qfl (r:Nat) (q:Nat->Nat->Rat):AV:=vec "double" (cmj r 1 fun i j=>qr (q i j)) .none
theorem Qam (r c:Nat) (q:Nat->Nat->Rat):AV.ncs (cmj r c fun i j=>qr (q i j))=true:=QbI fun i j _ _=>rfl
theorem Qdj (r c:Nat) (q:Nat->Nat->Rat):(qmt r c q).nc=true:=Qce (Qam r c q)
theorem QnC (r:Nat) (q:Nat->Nat->Rat):(qfl r q).nc=true:=by simp[AV.nc,AV.ncs,Qam]
theorem R_rm (hN:5≤N) (X:Nat->Nat->Rat) (r w:Nat) (h1:r<100) (h2:w<100) (H:AH):(RN N).f 845 [.lst (mat r w X),.int w,.none,.none] H=.ok (qmt r w X) H :=
 Qgw hN (fun i j=>qr (X i j)) r w h1 h2 (fun _ _ _ _=>rfl) (fun _ _ _ _=>rfl) H
theorem R_fr (hN:6≤N) (q:Nat->Nat->Rat) (r c:Nat) (h1:r<100) (h2:c<100) (H:AH):(RN N).f 838 [qmt r c q] H=.ok (.lst (mat r c q)) H:=Qnv hN q r c _ (.inl rfl) h1 h2 H
theorem Qrv (hN:6≤N) (q:Nat->Nat->Rat) (r:Nat) (h1:r<100) (H:AH):(RN N).f 838 [qfl r q] H=.ok (.lst (mat r 1 q)) H:=Qnv hN q r 1 _ (.inr ⟨rfl,rfl⟩) h1 (by decide) H
theorem QmD (hN:10≤N) (n:Nat) (A:Nat->Nat->Rat) (hn:n≤3) (h0:0<n) (hA:hqm 3 n n A) (hf:fd (ech n (jn n A idm) (n+n)).2 n=none) (H:AH) :
  (RN N).f 857 [.none,.lst [.tup [.none,qmt n n A]],.none] H=.ok (qmt n n (fun i j=>(ech n (jn n A idm) (n+n)).1 i (n+j))) H:=by
 refine Qaa Qcj (by omega) (ρ:=[.none,.lst [.tup [.none,qmt n n A]],.none,uS,uS,uS,uS,uS,uS,uS,uS,uS]) rfl (by simp only[AV.ncs,AV.nc,Qam]; rfl) (H':=[]) ?_ (Qdj _ _ _) H;have tk:=QeC (N:=N-1) (by omega) "a" "b" (qmt n n A) (by decide) (by decide) (by decide) (Qdj _ _ _) [];have nd:=QaF (N:=N-1) (by omega) "double" (cmj n n fun i j=>qr (A i j)) (dimA n n) "a" (Qam _ _ _) rfl [];have iv:=Qak (N:=N-1) (by omega) "double" (cmj n n fun i j=>qr (A i j)) (dimA n n) (Qam _ _ _) rfl [];have fr:=R_fr (N:=N-1) (by omega) A n n (by omega) (by omega) [];have sh:=Qao (N:=N-1) (by omega) "double" (cmj n n fun i j=>qr (A i j)) n n (Qam _ _ _) [];have cs:=QaU (N:=N-1) (by omega) (mat n n A) n (QbV _ _ _) (Qaq _ _ _) (by omega) [];have l1:=Qaq n n A;have z1:n≤1000000:=by omega
 have mn:=fun i H=>QaT (N:=N-1) (by omega) (cmj n n fun i j=>qr (A i j)) n n i (Qam _ _ _) H
 have inv:=Qlc (N:=N-1) (by omega) n A hn h0 hA hf [];have rm:=R_rm (N:=N-1) (by omega) (fun i j=>(ech n (jn n A idm) (n+n)).1 i (n+j)) n n (by omega) (by omega) []
 clear hA hn h0 hf;simp only[QbA];w_fin
theorem Qld (hN:10≤N) (n:Nat) (A:Nat->Nat->Rat) (hn:n≤3) (h0:0<n) (hA:hqm 3 n n A) (c:Nat) (hf:fd (ech n (jn n A idm) (n+n)).2 n=some c) (H:AH) :
  (RN N).f 857 [.none,.lst [.tup [.none,qmt n n A]],.none] H=.exc (.str (sing (c+1))) H:=by
 refine Qby Qcj (by omega) (ρ:=[.none,.lst [.tup [.none,qmt n n A]],.none,uS,uS,uS,uS,uS,uS,uS,uS,uS]) rfl (by simp only[AV.ncs,AV.nc,Qam]; rfl) (H':=[]) ?_ rfl H;have tk:=QeC (N:=N-1) (by omega) "a" "b" (qmt n n A) (by decide) (by decide) (by decide) (Qdj _ _ _) [];have nd:=QaF (N:=N-1) (by omega) "double" (cmj n n fun i j=>qr (A i j)) (dimA n n) "a" (Qam _ _ _) rfl [];have iv:=Qak (N:=N-1) (by omega) "double" (cmj n n fun i j=>qr (A i j)) (dimA n n) (Qam _ _ _) rfl [];have fr:=R_fr (N:=N-1) (by omega) A n n (by omega) (by omega) [];have sh:=Qao (N:=N-1) (by omega) "double" (cmj n n fun i j=>qr (A i j)) n n (Qam _ _ _) [];have cs:=QaU (N:=N-1) (by omega) (mat n n A) n (QbV _ _ _) (Qaq _ _ _) (by omega) [];have l1:=Qaq n n A;have z1:n≤1000000:=by omega
 have mn:=fun i H=>QaT (N:=N-1) (by omega) (cmj n n fun i j=>qr (A i j)) n n i (Qam _ _ _) H
 have inv:=QjP (N:=N-1) (by omega) n A hn h0 hA c hf [];clear hA hn h0 hf;simp only[QbA];w_fin
theorem QmE (hN:10≤N) (n:Nat) (A:Nat->Nat->Rat) (q:Nat) (B:Nat->Nat->Rat) (hn:n≤3) (h0:0<n) (hq':q≤3) (hB:hqm 3 n q B) (hA:hqm 3 n n A) (hf:fd (ech n (jn n A B) (n+q)).2 n=none) (H:AH) :
  (RN N).f 857 [.none,.lst [.tup [.none,qmt n n A],.tup [.none,qmt n q B]],.none] H=.ok (qmt n q (fun i j=>(ech n (jn n A B) (n+q)).1 i (n+j))) H:=by
 refine Qaa Qcj (by omega) (ρ:=[.none,.lst [.tup [.none,qmt n n A],.tup [.none,qmt n q B]],.none,uS,uS,uS,uS,uS,uS,uS,uS,uS]) rfl (by simp only[AV.ncs,AV.nc,Qam]; rfl) (H':=[]) ?_ (Qdj _ _ _) H;have tk:=Qcd (N:=N-1) (by omega) "a" "b" (qmt n n A) (qmt n q B) (by decide) (by decide) (by decide) (Qdj _ _ _) (Qdj _ _ _) [];have nd:=QaF (N:=N-1) (by omega) "double" (cmj n n fun i j=>qr (A i j)) (dimA n n) "a" (Qam _ _ _) rfl [];have iv:=Qak (N:=N-1) (by omega) "double" (cmj n n fun i j=>qr (A i j)) (dimA n n) (Qam _ _ _) rfl [];have fr:=R_fr (N:=N-1) (by omega) A n n (by omega) (by omega) [];have sh:=Qao (N:=N-1) (by omega) "double" (cmj n n fun i j=>qr (A i j)) n n (Qam _ _ _) [];have cs:=QaU (N:=N-1) (by omega) (mat n n A) n (QbV _ _ _) (Qaq _ _ _) (by omega) [];have l1:=Qaq n n A;have z1:n≤1000000:=by omega
 have mn:=fun i H=>QaT (N:=N-1) (by omega) (cmj n n fun i j=>qr (A i j)) n n i (Qam _ _ _) H
 have iv2:=Qak (N:=N-1) (by omega) "double" (cmj n q fun i j=>qr (B i j)) (dimA n q) (Qam _ _ _) rfl [];have sh2:=Qao (N:=N-1) (by omega) "double" (cmj n q fun i j=>qr (B i j)) n q (Qam _ _ _) [];have fr2:=R_fr (N:=N-1) (by omega) B n q (by omega) (by omega) [];have im:=Qau (N:=N-1) (by omega) "double" (cmj n q fun i j=>qr (B i j)) n q (Qam _ _ _) [];have ax:=fun i H=>Qe1 (N:=N-1) (by omega) "double" (cmj n q fun i j=>qr (B i j)) n q i (Qam _ _ _) H
 have dn:decide ((n:Int)=n)=true:=by simp
 have so:=Qc2 (N:=N-1) (by omega) n q A B hn h0 hq' hA hB hf [];have rm:=R_rm (N:=N-1) (by omega) (fun i j=>(ech n (jn n A B) (n+q)).1 i (n+j)) n q (by omega) (by omega) []
 clear hA hn h0 hf hB hq';simp only[QbA];w_fin
theorem Qle (hN:10≤N) (n:Nat) (A:Nat->Nat->Rat) (q:Nat) (B:Nat->Nat->Rat) (hn:n≤3) (h0:0<n) (hq':q≤3) (hB:hqm 3 n q B) (hA:hqm 3 n n A) (c:Nat) (hf:fd (ech n (jn n A B) (n+q)).2 n=some c) (H:AH) :
  (RN N).f 857 [.none,.lst [.tup [.none,qmt n n A],.tup [.none,qmt n q B]],.none] H=.exc (.str (sing (c+1))) H:=by
 refine Qby Qcj (by omega) (ρ:=[.none,.lst [.tup [.none,qmt n n A],.tup [.none,qmt n q B]],.none,uS,uS,uS,uS,uS,uS,uS,uS,uS]) rfl (by simp only[AV.ncs,AV.nc,Qam]; rfl) (H':=[]) ?_ rfl H;have tk:=Qcd (N:=N-1) (by omega) "a" "b" (qmt n n A) (qmt n q B) (by decide) (by decide) (by decide) (Qdj _ _ _) (Qdj _ _ _) [];have nd:=QaF (N:=N-1) (by omega) "double" (cmj n n fun i j=>qr (A i j)) (dimA n n) "a" (Qam _ _ _) rfl [];have iv:=Qak (N:=N-1) (by omega) "double" (cmj n n fun i j=>qr (A i j)) (dimA n n) (Qam _ _ _) rfl [];have fr:=R_fr (N:=N-1) (by omega) A n n (by omega) (by omega) [];have sh:=Qao (N:=N-1) (by omega) "double" (cmj n n fun i j=>qr (A i j)) n n (Qam _ _ _) [];have cs:=QaU (N:=N-1) (by omega) (mat n n A) n (QbV _ _ _) (Qaq _ _ _) (by omega) [];have l1:=Qaq n n A;have z1:n≤1000000:=by omega
 have mn:=fun i H=>QaT (N:=N-1) (by omega) (cmj n n fun i j=>qr (A i j)) n n i (Qam _ _ _) H
 have iv2:=Qak (N:=N-1) (by omega) "double" (cmj n q fun i j=>qr (B i j)) (dimA n q) (Qam _ _ _) rfl [];have sh2:=Qao (N:=N-1) (by omega) "double" (cmj n q fun i j=>qr (B i j)) n q (Qam _ _ _) [];have fr2:=R_fr (N:=N-1) (by omega) B n q (by omega) (by omega) [];have im:=Qau (N:=N-1) (by omega) "double" (cmj n q fun i j=>qr (B i j)) n q (Qam _ _ _) [];have ax:=fun i H=>Qe1 (N:=N-1) (by omega) "double" (cmj n q fun i j=>qr (B i j)) n q i (Qam _ _ _) H
 have dn:decide ((n:Int)=n)=true:=by simp
 have so:=QcH (N:=N-1) (by omega) n q A B hn h0 hq' hA hB c hf [];clear hA hn h0 hf hB hq';simp only[QbA];w_fin
theorem QmF (hN:10≤N) (n:Nat) (A:Nat->Nat->Rat) (B:Nat->Nat->Rat) (hn:n≤3) (h0:0<n) (hB:hqm 3 n 1 B) (hA:hqm 3 n n A) (hf:fd (ech n (jn n A B) (n+1)).2 n=none) (H:AH) :
  (RN N).f 857 [.none,.lst [.tup [.none,qmt n n A],.tup [.none,qfl n B]],.none] H=.ok (vec "double" ((List.range n).map fun i=>qr ((ech n (jn n A B) (n+1)).1 i n)) .none) H:=by
 have ncf:AV.ncs ((List.range n).map fun i=>qr ((ech n (jn n A B) (n+1)).1 i n))=true:=QaV fun x hx=>by
  obtain⟨j,_,rfl⟩:=List.mem_map.mp hx; rfl
 refine Qaa Qcj (by omega) (ρ:=[.none,.lst [.tup [.none,qmt n n A],.tup [.none,qfl n B]],.none,uS,uS,uS,uS,uS,uS,uS,uS,uS]) rfl (by simp only[AV.ncs,AV.nc,Qam]; rfl) (H':=[.dead]) ?_ (by simp[AV.nc,AV.ncs,ncf]) H;have tk:=Qcd (N:=N-1) (by omega) "a" "b" (qmt n n A) (qfl n B) (by decide) (by decide) (by decide) (Qdj _ _ _) (QnC _ _) [];have nd:=QaF (N:=N-1) (by omega) "double" (cmj n n fun i j=>qr (A i j)) (dimA n n) "a" (Qam _ _ _) rfl [];have iv:=Qak (N:=N-1) (by omega) "double" (cmj n n fun i j=>qr (A i j)) (dimA n n) (Qam _ _ _) rfl [];have fr:=R_fr (N:=N-1) (by omega) A n n (by omega) (by omega) [];have sh:=Qao (N:=N-1) (by omega) "double" (cmj n n fun i j=>qr (A i j)) n n (Qam _ _ _) [];have cs:=QaU (N:=N-1) (by omega) (mat n n A) n (QbV _ _ _) (Qaq _ _ _) (by omega) [];have l1:=Qaq n n A;have z1:n≤1000000:=by omega
 have mn:=fun i H=>QaT (N:=N-1) (by omega) (cmj n n fun i j=>qr (A i j)) n n i (Qam _ _ _) H
 have iv2:=Qak (N:=N-1) (by omega) "double" (cmj n 1 fun i j=>qr (B i j)) (.none) (Qam _ _ _) rfl [];have sh2:=QdD (N:=N-1) (by omega) "double" (cmj n 1 fun i j=>qr (B i j)) (Qam _ _ _) (by rw[QaA]; omega) [];rw[QaA,Nat.mul_one] at sh2;have fr2:=Qrv (N:=N-1) (by omega) B n (by omega) [];have im:=QbD (N:=N-1) (by omega) "double" (cmj n 1 fun i j=>qr (B i j)) (Qam _ _ _) [];have dn:decide ((n:Int)=n)=true:=by simp
 have so:=Qc2 (N:=N-1) (by omega) n 1 A B hn h0 (by decide) hA hB hf [];have ini:=QaX (N:=N-1) (by omega) "double" ((List.range n).map fun i=>qr ((ech n (jn n A B) (n+1)).1 i n)) []
 simp only[List.length_nil,List.nil_append] at ini;have cm:∀b c d e f g h,evE (RN (N-1)) [.none,.lst [.tup [.none,qmt n n A],.tup [.none,qfl n B]],.none,b,c,d,e,f,.lst (mat n 1 (fun i j=>(ech n (jn n A B) (n+1)).1 i (n+j))),g,h,uS] D101 []=.ok (.lst ((List.range n).map fun i=>qr ((ech n (jn n A B) (n+1)).1 i n))) []:=fun b c d e f g h=>by
  refine (Qah (v:=.lst (mat n 1 (fun i j=>(ech n (jn n A B) (n+1)).1 i (n+j)))) (l:=mat n 1 (fun i j=>(ech n (jn n A B) (n+1)).1 i (n+j))) (g:=fun x=>match x with | .lst (y::_)=>y | _=>.none) (by clear hA hB hn h0; w_fin) rfl (by rw[Qaq]; omega) rfl fun x hx=>?_).trans (by simp[newC,mat,Function.comp_def,rq])
  obtain⟨j,hj,rfl⟩:=List.mem_map.mp hx;have er:rq 1 (fun k=>(ech n (jn n A B) (n+1)).1 j (n+k))=[qr ((ech n (jn n A B) (n+1)).1 j n)]:=rfl;refine⟨_,rfl,?_⟩;clear hx hj hA hB hn h0 hf tk nd iv fr sh cs iv2 sh2 fr2 im so ini mn;w_fin
 clear hA hn h0 hf hB;simp only[QbA];w_fin
theorem Qlf (hN:10≤N) (n:Nat) (A:Nat->Nat->Rat) (B:Nat->Nat->Rat) (hn:n≤3) (h0:0<n) (hB:hqm 3 n 1 B) (hA:hqm 3 n n A) (c:Nat) (hf:fd (ech n (jn n A B) (n+1)).2 n=some c) (H:AH) :
  (RN N).f 857 [.none,.lst [.tup [.none,qmt n n A],.tup [.none,qfl n B]],.none] H=.exc (.str (sing (c+1))) H:=by
 refine Qby Qcj (by omega) (ρ:=[.none,.lst [.tup [.none,qmt n n A],.tup [.none,qfl n B]],.none,uS,uS,uS,uS,uS,uS,uS,uS,uS]) rfl (by simp only[AV.ncs,AV.nc,Qam]; rfl) (H':=[]) ?_ rfl H;have tk:=Qcd (N:=N-1) (by omega) "a" "b" (qmt n n A) (qfl n B) (by decide) (by decide) (by decide) (Qdj _ _ _) (QnC _ _) [];have nd:=QaF (N:=N-1) (by omega) "double" (cmj n n fun i j=>qr (A i j)) (dimA n n) "a" (Qam _ _ _) rfl [];have iv:=Qak (N:=N-1) (by omega) "double" (cmj n n fun i j=>qr (A i j)) (dimA n n) (Qam _ _ _) rfl [];have fr:=R_fr (N:=N-1) (by omega) A n n (by omega) (by omega) [];have sh:=Qao (N:=N-1) (by omega) "double" (cmj n n fun i j=>qr (A i j)) n n (Qam _ _ _) [];have cs:=QaU (N:=N-1) (by omega) (mat n n A) n (QbV _ _ _) (Qaq _ _ _) (by omega) [];have l1:=Qaq n n A;have z1:n≤1000000:=by omega
 have mn:=fun i H=>QaT (N:=N-1) (by omega) (cmj n n fun i j=>qr (A i j)) n n i (Qam _ _ _) H
 have iv2:=Qak (N:=N-1) (by omega) "double" (cmj n 1 fun i j=>qr (B i j)) (.none) (Qam _ _ _) rfl [];have sh2:=QdD (N:=N-1) (by omega) "double" (cmj n 1 fun i j=>qr (B i j)) (Qam _ _ _) (by rw[QaA]; omega) [];rw[QaA,Nat.mul_one] at sh2;have fr2:=Qrv (N:=N-1) (by omega) B n (by omega) [];have im:=QbD (N:=N-1) (by omega) "double" (cmj n 1 fun i j=>qr (B i j)) (Qam _ _ _) [];have dn:decide ((n:Int)=n)=true:=by simp
 have so:=QcH (N:=N-1) (by omega) n 1 A B hn h0 (by decide) hA hB c hf [];clear hA hn h0 hf hB;simp only[QbA];w_fin
end
def whB (C:Orc) (t:PE) (b:List PS):OS->OS
 | .ok (.ret v) ρ H=>.ok (.ret v) ρ H
 | .ok _ ρ H=>evS C (.whl t b) ρ H
 | _=>.stuck
def whS (C:Orc) (t:PE) (b:List PS) (ρ:List AV):Out Bool->OS
 | .ok true H=>whB C t b (evSs C b ρ H)
 | .ok false H=>.ok .next ρ H
 | _=>.stuck
theorem Qrw {C:Orc} (t:PE) (b:List PS) (ρ:List AV) (H:AH):evS C (.whl t b) ρ H=whS C t b ρ (evT C ρ t H):=by
 cases ht:evT C ρ t H with
 | ok c H_1 =>
  cases c with
  | false =>
   rw[QdU];exact QbM (n:=1) (by simp only[whileN,ht]; rfl) nofun
  | true =>
   show _=whB C t b (evSs C b ρ H_1);have key:∀n,whileN (fun ρ H=>evT C ρ t H) (fun ρ H=>evSs C b ρ H) (n+1) ρ H=match evSs C b ρ H_1 with
     | .ok (.ret v) ρ H=>.ok (.ret v) ρ H
     | .ok _ ρ H=>whileN (fun ρ H=>evT C ρ t H) (fun ρ H=>evSs C b ρ H) n ρ H
     | _=>.stuck:=fun n=>by
    simp only[whileN,ht]
    all_goals (rcases evSs C b ρ H_1 with ⟨fl,ρ',H'⟩ | ⟨m,ρ',H'⟩ | _<;>(try cases fl)<;>rfl)
   by_cases hs:whB C t b (evSs C b ρ H_1)=.stuck
   ·rw[hs,QdU]
    refine Classical.byContradiction fun hne=>?_
    obtain⟨n,e⟩:=Qdd hne
    match n,e with
    | 0,e=>exact hne e.symm
    | n+1,e =>
     rw[key n] at e;cases hb:evSs C b ρ H_1 with
     | ok fl ρ' H' =>
      rw[hb] at e hs;cases fl with
      | ret v=>cases hs
      | next =>
       refine hne (e.symm.trans ?_);refine Classical.byContradiction fun h2=>?_
       have:=QbM (n:=n) rfl h2;rw[←QdU] at this;exact h2 (this.symm.trans hs)
      | cont =>
       refine hne (e.symm.trans ?_);refine Classical.byContradiction fun h2=>?_
       have:=QbM (n:=n) rfl h2;rw[←QdU] at this;exact h2 (this.symm.trans hs)
     | exc m ρ' H'=>rw[hb] at e; exact hne e.symm
     | stuck=>rw[hb] at e; exact hne e.symm
   ·rw[QdU]
    cases hb:evSs C b ρ H_1 with
    | ok fl ρ' H' =>
     rw[hb] at hs;cases fl with
     | ret v=>exact QbM (n:=1) (by rw[key 0,hb]; rfl) nofun
     | next =>
      have h3:whileO (fun ρ H=>evT C ρ t H) (fun ρ H=>evSs C b ρ H) ρ' H'≠.stuck:=by rw[←QdU]; exact hs
      obtain⟨n,e⟩:=Qdd h3;refine QbM (n:=n+1) (by rw[key n,hb]; exact e.trans (QdU t b).symm) hs
     | cont =>
      have h3:whileO (fun ρ H=>evT C ρ t H) (fun ρ H=>evSs C b ρ H) ρ' H'≠.stuck:=by rw[←QdU]; exact hs
      obtain⟨n,e⟩:=Qdd h3;refine QbM (n:=n+1) (by rw[key n,hb]; exact e.trans (QdU t b).symm) hs
    | exc m ρ' H'=>rw[hb] at hs; exact absurd rfl hs
    | stuck=>rw[hb] at hs; exact absurd rfl hs
 | exc m H_1 =>
  rw[QdU];refine Classical.byContradiction fun hne=>?_
  obtain⟨n,e⟩:=Qdd (fun h=>hne (h.trans rfl))
  match n,e with
  | 0,e=>exact hne (e.symm.trans rfl)
  | n+1,e =>
   simp only[whileN,ht] at e;exact hne (e.symm.trans rfl)
 | stuck =>
  rw[QdU];refine Classical.byContradiction fun hne=>?_
  obtain⟨n,e⟩:=Qdd (fun h=>hne (h.trans rfl))
  match n,e with
  | 0,e=>exact hne (e.symm.trans rfl)
  | n+1,e =>
   simp only[whileN,ht] at e;exact hne (e.symm.trans rfl)
theorem whS_t {C:Orc} {t:PE} {b:List PS} {ρ:List AV} {H:AH}:whS C t b ρ (.ok true H)=whB C t b (evSs C b ρ H):=rfl
theorem whS_f {C:Orc} {t:PE} {b:List PS} {ρ:List AV} {H:AH}:whS C t b ρ (.ok false H)=.ok .next ρ H:=rfl
theorem whB_n {C:Orc} {t:PE} {b:List PS} {ρ:List AV} {H:AH}:whB C t b (.ok .next ρ H)=evS C (.whl t b) ρ H:=rfl
theorem it_12:itemsOf (.rng 1 2)=some [.int 1]:=rfl
theorem it_13:itemsOf (.rng 1 3)=some [.int 1,.int 2]:=rfl
theorem it_23:itemsOf (.rng 2 3)=some [.int 2]:=rfl
section
local macro_rules | `(tactic| w_fin)=>`(tactic| simp (maxSteps:=2000000) only[QdA,Int.reduceSub,Int.reduceMul,Int.natAbs_zero,Qrw,whS_t,whS_f,whB_n,it_12,it_13,it_23,binK,binS,cmpK,cmpS,subK,subS,ifeS,andS,orS,consK,consS,callS,seqS,iteS,asgS,retS,Qoy,forS,forK,Qks,Qkr,Qq1,Qq2,Qq3,Qno,Qnp,QaP,Qfh,Qqu,Qqv,Qmf,QjA,Qkt,Qow,Qqw,Qqx,e_nt,Qqy,e_or,QkB,QiV,Qnf,QkC,Qqz,Qkv,Qku,QqA,Qm4,Qm5,Qm6,QqB,QqC,QqD,QqE,QiT,Qkw,Qm7,QiU,QqF,QqG,QqH,Qm8,QqI,QqJ,Qox,QqK,QqL,Qm9,QqM,QqN,QqO,QqP,Qna,QqQ,Qky,Qnb,Qkz,Qgh,QqR,QqS,Qnc,Qnd,QqT,Qne,QkA,evT,c_eq,c_ne,c_lt,c_le,c_gt,c_ge,c_is,QkD,QqU,QqV,QqW,Qng,QqX,Qnh,QqY,Qni,Qi2,Qi3,Int.natAbs_natCast,Int.natAbs_one,Nat.reduceLT,Int.cast_ofNat_Int,Int.reduceToNat,Int.reduceLE,Int.natCast_nonneg,Int.toNat_natCast,Int.reduceAbs,Int.reduceAdd,Int.natCast_one,Int.natCast_zero,List.set_nil,List.getElem?_nil,Int.reduceNeg,Int.zero_le_ofNat,Option.getD_some,Option.getD_none,↓reduceIte,String.reduceEq,or_self,or_false,false_or,or_true,true_or,not_true_eq_false,not_false_eq_true,decide_not,List.mem_cons,List.not_mem_nil,Int.reduceLT,Nat.reduceLeDiff,Nat.reduceAdd,and_false,false_and,setAttr,Bool.or_false,Bool.or_true,Int.reduceEq,Int.reduceGT,Nat.reduceEqDiff,List.nodup_cons,List.nodup_nil,List.cons_ne_self,AV.isFn,Qnj,Qnk,Qnl,Qoz,pTruth,QqZ,Qq0,Qnm,AV.isNone,seqOf,lstOf,objOf,dctOf,keyAt,callV,AV.isFn,OS.out_ret,OS.out_next,OS.out_exc,OS.bind_ok,OS.bind_exc,OS.bind_stuck,Out.st_ok,Out.st_exc,Out.bind_ok,Out.bind_exc,Out.ofOpt_some,newC,QiQ,set_bool,set_int,set_str,Qkm,Qkn,Qko,Qkp,QiR,QiS,Qkq,Qnq,pFrz,AV.ncs,AV.nc,setAttr,setSub,QaJ,QkG,QiY,QiZ,Qhi,Qi0,Qi1,Qhj,Qq4,Qq5,Qq6,Qq7,
 List.getElem?_cons_zero,List.getElem?_cons_succ,List.set_cons_zero,List.set_cons_succ,List.length_cons,List.length_nil,List.replicate_succ,List.replicate_zero,List.cons_append,List.nil_append,List.append_nil,List.drop_zero,List.drop_succ_cons,List.drop_nil,Option.map_some,Option.map_none,Option.isNone_none,Option.isNone_some,decide_true,decide_false,Bool.not_true,Bool.not_false,Bool.true_and,Bool.and_true,Bool.false_and,Bool.and_false,if_true,if_false,Bool.false_eq_true,reduceCtorEq,Nat.le_refl,and_self,true_and,and_true,Nat.zero_add,Nat.add_zero, *])
section
variable {N:Nat}
theorem Qlg (a:Int) (h:QaI a):pBin .mul (.int a) (.int 1)=some (.int a):=by
 rw[Qae h (Qaf (by decide)),Int.mul_one]
theorem Qlh (a:Int):pBin .div (.int a) (.int 1)=some (.int a):=by
 rw[QcW (by decide) (Qaf (by decide)),Int.fdiv_one]
theorem R_gd (hN:1≤N) (H:AH):(RN N).f 446 [.int 1,.int 1] H=.ok (.int 1) H:=by
 refine Qaa QdW hN (ρ:=[.int 1,.int 1]) rfl rfl (H':=[]) ?_ rfl H;have m:pBin .mod (.int 1) (.int 1)=some (.int 0):=Qes (by decide) (Qaf (by decide));have q1:((1:Int) != 0)=true:=rfl;have q0:((0:Int) != 0)=false:=rfl;simp only[Qbi];w_fin
def irow (l:List Int):List AV:=l.map fun a=>.tup [.int a,.int 1]
def intl (l:List Int):List AV:=l.map fun a=>.int a
theorem Qo2 (l:List Int):AV.ncs (intl l)=true:=QaV fun x hx=>by
 obtain⟨j,_,rfl⟩:=List.mem_map.mp hx; rfl
theorem irow_nc (l:List Int):AV.ncs (irow l)=true:=QaV fun x hx=>by
 obtain⟨j,_,rfl⟩:=List.mem_map.mp hx; rfl
theorem QdF (hN:2≤N) (l:List Int) (hl:∀a∈l,QaI a) (ll:l.length<100) (H:AH):(RN N).f 451 [.lst (irow l)] H=.ok (.tup [.cell H.length,.int 1]) (H++[.lst (intl l)]):=by
 refine QbC Qh2 (by omega) (ρ:=[.lst (irow l),uS,uS,uS]) rfl ?_;have gd:=fun H=>R_gd (N:=N-1) (by omega) H
 have d1:=Qlh 1;have m1:=Qlg 1 (Qaf (by decide));obtain⟨ρ_1,H_1,e1,st,rfl,hH⟩:=Qef (C:=RN (N-1)) (k:=2) (b:=B14) (l:=irow l)
  (P:=fun _ ρ H'=>∃st,ρ=[.lst (irow l),.int 1,st,uS]∧H'=H)
  (fun i x hx ρ H' ⟨st,h1',h2'⟩=>by
   subst h1' h2';obtain⟨a,_,rfl⟩:=List.mem_map.mp (List.mem_of_getElem? hx);refine⟨.next,_,_,?_,.inl rfl,.tup [.int a,.int 1],rfl,rfl⟩;clear hx hl;w_fin) (ρ:=[.lst (irow l),.int 1,uS,uS]) (H:=H) ⟨uS,rfl,rfl⟩
 rw[hH] at e1;clear hH;have cm:evE (RN (N-1)) [.lst (irow l),.int 1,st,uS] D58 H=.ok (.cell H.length) (H++[.lst (intl l)]):=by
  refine (Qah (v:=.lst (irow l)) (l:=irow l) (g:=fun x=>match x with | .tup [.int a,.int 1]=>.int a | _=>.none) (by clear hl; w_fin) rfl (by simp[irow]; omega) rfl fun x hx=>?_).trans (by simp[newC,irow,intl,Function.comp_def])
  obtain⟨a,ha,rfl⟩:=List.mem_map.mp hx;have ma:=Qlg a (hl a ha);refine⟨_,rfl,?_⟩;clear hx hl ha;w_fin
 clear hl;simp only[Qdr];w_fin
def sm (k:Nat) (x:Int):Prop:=x.natAbs<2 ^ k
theorem sm.mono {a b:Nat} {x:Int} (h:sm a x) (hk:a≤b):sm b x:=Nat.lt_of_lt_of_le h (Nat.pow_le_pow_right (by decide) hk)
theorem sm.mul {a b:Nat} {x y:Int} (h:sm a x) (h':sm b y):sm (a+b) (x*y):=by
 unfold sm; rw[Int.natAbs_mul,Nat.pow_add]; exact Nat.mul_lt_mul'' h h'
theorem sm.sub {a:Nat} {x y:Int} (h:sm a x) (h':sm a y):sm (a+1) (x-y):=by
 unfold sm at *; rw[Nat.pow_succ]; omega
theorem sm.add {a:Nat} {x y:Int} (h:sm a x) (h':sm a y):sm (a+1) (x+y):=by
 unfold sm at *; rw[Nat.pow_succ]; omega
theorem sm.big {a:Nat} {x:Int} (h:sm a x) (hk:a≤64):QaI x:=Qaf (h.mono hk)
def det2 (a b c d:Int):Int:=a*d-b*c
def det3 (a b c d e f g h i:Int):Int:=a*(e*i-f*h)-b*(d*i-f*g)+c*(d*h-e*g)
theorem Qo3 (hN:1≤N) (a:Int) (ha:sm 3 a):∃H',(RN N).f 458 [.cell 0] [.lst [.cell 1],.lst [.int a]]=.ok (.int a) H':=by
 refine⟨[.lst [.cell 1],.lst [.int a]],QbC Qba hN (ρ:=[.cell 0,uS,uS,uS,uS,uS,uS,uS,uS]) rfl ?_⟩;have m:pBin .mul (.int 1) (.int a)=some (.int a):=by rw[Qae (Qaf (by decide)) (ha.big (by decide)),Int.one_mul]
 have e:itemsOf (.rng 0 0)=some []:=rfl;clear ha;simp only[Qat];w_fin
theorem Qo4 (hN:1≤N) (a b c d:Int) (ha:sm 3 a) (hb:sm 3 b) (hc:sm 3 c) (hd:sm 3 d):∃H',(RN N).f 458 [.cell 0] [.lst [.cell 1,.cell 2],.lst [.int a,.int b],.lst [.int c,.int d]]=.ok (.int (det2 a b c d)) H':=by
 have run:∀{v H'},(evSs (RN (N-1)) Qat.body [.cell 0,uS,uS,uS,uS,uS,uS,uS,uS] [.lst [.cell 1,.cell 2],.lst [.int a,.int b],.lst [.int c,.int d]]).out=.ok v H'->v=.int (det2 a b c d)->∃H',(RN N).f 458 [.cell 0] [.lst [.cell 1,.cell 2],.lst [.int a,.int b],.lst [.int c,.int d]]=.ok (.int (det2 a b c d)) H' :=
  fun {v H'} h e=>⟨H',by subst e; exact QbC Qba hN rfl h⟩
 have dv:=Qlh;simp only[Qat] at run;by_cases h1:a=0
 ·by_cases h2:c=0
  ·refine run (v:=.int 0) (H':=[.lst [.cell 1,.cell 2],.lst [.int a,.int b],.lst [.int c,.int d]]) ?_ (by rw[h1,h2]; simp[det2])
   have x1:decide (a=0)=true:=by simp[h1]
   have x2:decide (c=0)=true:=by simp[h2]
   clear run ha hb hc hd h1 h2;w_fin
  ·refine run (v:=.int (-1*(b*c-a*d))) (H':=[.lst [.cell 2,.cell 1],.lst [.int a,.int (b*c-a*d)],.lst [.int c,.int d]]) ?_ (by unfold det2; congr 1; grind)
   have x1:decide (a=0)=true:=by simp[h1]
   have x2:decide (c=0)=false:=by simp[h2]
   have m1:=Qae (hb.big (by decide)) (hc.big (by decide));have m2:=Qae (ha.big (by decide)) (hd.big (by decide));have m3:=Qae (a:=-1) (Qaf (by decide)) (((hb.mul hc).sub (ha.mul hd)).big (by decide))
   clear run ha hb hc hd h1 h2;w_fin
 ·refine run (v:=.int (1*(d*a-c*b))) (H':=[.lst [.cell 1,.cell 2],.lst [.int a,.int b],.lst [.int c,.int (d*a-c*b)]]) ?_ (by unfold det2; congr 1; grind)
  have x1:decide (a=0)=false:=by simp[h1]
  have m1:=Qae (hd.big (by decide)) (ha.big (by decide));have m2:=Qae (hc.big (by decide)) (hb.big (by decide));have m3:=Qae (a:=1) (Qaf (by decide)) (((hd.mul ha).sub (hc.mul hb)).big (by decide))
  clear run ha hb hc hd h1;w_fin
end
section
theorem Qeg {a b c d e f g h i:Int} (ha:sm 3 a) (hb:sm 3 b) (hc:sm 3 c) (hd:sm 3 d) (he:sm 3 e) (hf:sm 3 f) (hg:sm 3 g) (hh:sm 3 h) (hi:sm 3 i):sm 12 (det3 a b c d e f g h i):=by
 unfold det3;exact ((((ha.mul ((he.mul hi).sub (hf.mul hh))).sub (hb.mul ((hd.mul hi).sub (hf.mul hg)))).add ((hc.mul ((hd.mul hh).sub (he.mul hg))).mono (by decide)))).mono (by decide)
variable {N:Nat}
theorem Qo5 (hN:1≤N) (a b c d e f g h i:Int) (ha:sm 3 a) (hb:sm 3 b) (hc:sm 3 c) (hd:sm 3 d) (he:sm 3 e) (hf:sm 3 f) (hg:sm 3 g) (hh:sm 3 h) (hi:sm 3 i):∃H',(RN N).f 458 [.cell 0] [.lst [.cell 1,.cell 2,.cell 3],.lst [.int a,.int b,.int c],.lst [.int d,.int e,.int f],.lst [.int g,.int h,.int i]]=.ok (.int (det3 a b c d e f g h i)) H':=by
 have run:∀{v H'},(evSs (RN (N-1)) Qat.body [.cell 0,uS,uS,uS,uS,uS,uS,uS,uS] [.lst [.cell 1,.cell 2,.cell 3],.lst [.int a,.int b,.int c],.lst [.int d,.int e,.int f],.lst [.int g,.int h,.int i]]).out=.ok v H'->v=.int (det3 a b c d e f g h i)->∃H',(RN N).f 458 [.cell 0] [.lst [.cell 1,.cell 2,.cell 3],.lst [.int a,.int b,.int c],.lst [.int d,.int e,.int f],.lst [.int g,.int h,.int i]]=.ok (.int (det3 a b c d e f g h i)) H' :=
  fun {v H'} h e=>⟨H',by subst e; exact QbC Qba hN rfl h⟩
 have dv:=Qlh;simp only[Qat] at run;by_cases z0:a=0
 ·by_cases z1:d=0
  ·by_cases z2:g=0
   ·skip
    refine run (v:=.int 0) (H':=[.lst [.cell 1,.cell 2,.cell 3],.lst [.int a,.int b,.int c],.lst [.int d,.int e,.int f],.lst [.int g,.int h,.int i]]) ?_ (by rw[z0,z1,z2]; simp[det3]);have x0:decide (a=0)=true:=by simp[z0]
    have x1:decide (d=0)=true:=by simp[z1]
    have x2:decide (g=0)=true:=by simp[z2]
    clear run ha hb hc hd he hf hg hh hi z0 z1 z2;w_fin
   ·have np:=z2
    clear z2;by_cases y0:e*g-d*h=0
    ·by_cases y1:b*g-a*h=0
     ·skip
      refine run (v:=.int 0) (H':=[.lst [.cell 3,.cell 2,.cell 1],.lst [.int a,.int (b*g-a*h),.int (c*g-a*i)],.lst [.int d,.int (e*g-d*h),.int (f*g-d*i)],.lst [.int g,.int h,.int i]]) ?_ (by
       have e:g*det3 a b c d e f g h i=0:=by unfold det3; grind
       rcases Int.mul_eq_zero.mp e with e | e
       ·exact absurd e np
       ·rw[e])
      have x0:decide (a=0)=true:=by simp[z0]
      have x1:decide (d=0)=true:=by simp[z1]
      have xp:decide (g=0)=false:=by simp[np]
      have m11:=Qae (he.big (by decide)) (hg.big (by decide));have n11:=Qae (hd.big (by decide)) (hh.big (by decide));have m12:=Qae (hf.big (by decide)) (hg.big (by decide));have n12:=Qae (hd.big (by decide)) (hi.big (by decide));have m01:=Qae (hb.big (by decide)) (hg.big (by decide));have n01:=Qae (ha.big (by decide)) (hh.big (by decide));have m02:=Qae (hc.big (by decide)) (hg.big (by decide));have n02:=Qae (ha.big (by decide)) (hi.big (by decide));have u0:decide (e*g-d*h=0)=true:=decide_eq_true y0;have u1:decide (b*g-a*h=0)=true:=decide_eq_true y1;clear run ha hb hc hd he hf hg hh hi np y0 y1 z0 z1;w_fin
     ·skip
      refine run (v:=.int (1*det3 g h i a b c d e f)) (H':=[.lst [.cell 3,.cell 1,.cell 2],.lst [.int a,.int (b*g-a*h),.int (c*g-a*i)],.lst [.int d,.int (e*g-d*h),.int (det3 g h i a b c d e f)],.lst [.int g,.int h,.int i]]) ?_ (by unfold det3; congr 1; grind);have x0:decide (a=0)=true:=by simp[z0]
      have x1:decide (d=0)=true:=by simp[z1]
      have xp:decide (g=0)=false:=by simp[np]
      have m11:=Qae (he.big (by decide)) (hg.big (by decide));have n11:=Qae (hd.big (by decide)) (hh.big (by decide));have m12:=Qae (hf.big (by decide)) (hg.big (by decide));have n12:=Qae (hd.big (by decide)) (hi.big (by decide));have m01:=Qae (hb.big (by decide)) (hg.big (by decide));have n01:=Qae (ha.big (by decide)) (hh.big (by decide));have m02:=Qae (hc.big (by decide)) (hg.big (by decide));have n02:=Qae (ha.big (by decide)) (hi.big (by decide));have u0:decide (e*g-d*h=0)=true:=decide_eq_true y0;have u1:decide (b*g-a*h=0)=false:=decide_eq_false y1;have p1:=Qae (((hf.mul hg).sub (hd.mul hi)).big (by decide)) (((hb.mul hg).sub (ha.mul hh)).big (by decide))
      have p2:=Qae (((he.mul hg).sub (hd.mul hh)).big (by decide)) (((hc.mul hg).sub (ha.mul hi)).big (by decide))
      have q:pBin .div (.int ((f*g-d*i)*(b*g-a*h)-(e*g-d*h)*(c*g-a*i))) (.int g)=some (.int (det3 g h i a b c d e f)):=by
       rw[QcW np (hg.big (by decide)),show (f*g-d*i)*(b*g-a*h)-(e*g-d*h)*(c*g-a*i)=g*det3 g h i a b c d e f by unfold det3; grind,Int.mul_fdiv_cancel_left _ np]
      have r:=Qae (a:=1) (Qaf (by decide)) ((Qeg hg hh hi ha hb hc hd he hf).big (by decide));clear run ha hb hc hd he hf hg hh hi np y0 y1 z0 z1;w_fin
    ·skip
     refine run (v:=.int ((-1)*det3 g h i d e f a b c)) (H':=[.lst [.cell 3,.cell 2,.cell 1],.lst [.int a,.int (b*g-a*h),.int (det3 g h i d e f a b c)],.lst [.int d,.int (e*g-d*h),.int (f*g-d*i)],.lst [.int g,.int h,.int i]]) ?_ (by unfold det3; congr 1; grind)
     have x0:decide (a=0)=true:=by simp[z0]
     have x1:decide (d=0)=true:=by simp[z1]
     have xp:decide (g=0)=false:=by simp[np]
     have m11:=Qae (he.big (by decide)) (hg.big (by decide));have n11:=Qae (hd.big (by decide)) (hh.big (by decide));have m12:=Qae (hf.big (by decide)) (hg.big (by decide));have n12:=Qae (hd.big (by decide)) (hi.big (by decide));have m01:=Qae (hb.big (by decide)) (hg.big (by decide));have n01:=Qae (ha.big (by decide)) (hh.big (by decide));have m02:=Qae (hc.big (by decide)) (hg.big (by decide));have n02:=Qae (ha.big (by decide)) (hi.big (by decide));have u0:decide (e*g-d*h=0)=false:=decide_eq_false y0;have p1:=Qae (((hc.mul hg).sub (ha.mul hi)).big (by decide)) (((he.mul hg).sub (hd.mul hh)).big (by decide))
     have p2:=Qae (((hb.mul hg).sub (ha.mul hh)).big (by decide)) (((hf.mul hg).sub (hd.mul hi)).big (by decide))
     have q:pBin .div (.int ((c*g-a*i)*(e*g-d*h)-(b*g-a*h)*(f*g-d*i))) (.int g)=some (.int (det3 g h i d e f a b c)):=by
      rw[QcW np (hg.big (by decide)),show (c*g-a*i)*(e*g-d*h)-(b*g-a*h)*(f*g-d*i)=g*det3 g h i d e f a b c by unfold det3; grind,Int.mul_fdiv_cancel_left _ np]
     have r:=Qae (a:=(-1)) (Qaf (by decide)) ((Qeg hg hh hi hd he hf ha hb hc).big (by decide));clear run ha hb hc hd he hf hg hh hi np y0 z0 z1;w_fin
  ·have np:=z1
   clear z1;by_cases y0:b*d-a*e=0
   ·by_cases y1:h*d-g*e=0
    ·skip
     refine run (v:=.int 0) (H':=[.lst [.cell 2,.cell 1,.cell 3],.lst [.int a,.int (b*d-a*e),.int (c*d-a*f)],.lst [.int d,.int e,.int f],.lst [.int g,.int (h*d-g*e),.int (i*d-g*f)]]) ?_ (by
      have e:d*det3 a b c d e f g h i=0:=by unfold det3; grind
      rcases Int.mul_eq_zero.mp e with e | e
      ·exact absurd e np
      ·rw[e])
     have x0:decide (a=0)=true:=by simp[z0]
     have xp:decide (d=0)=false:=by simp[np]
     have m01:=Qae (hb.big (by decide)) (hd.big (by decide));have n01:=Qae (ha.big (by decide)) (he.big (by decide));have m02:=Qae (hc.big (by decide)) (hd.big (by decide));have n02:=Qae (ha.big (by decide)) (hf.big (by decide));have m21:=Qae (hh.big (by decide)) (hd.big (by decide));have n21:=Qae (hg.big (by decide)) (he.big (by decide));have m22:=Qae (hi.big (by decide)) (hd.big (by decide));have n22:=Qae (hg.big (by decide)) (hf.big (by decide));have u0:decide (b*d-a*e=0)=true:=decide_eq_true y0;have u1:decide (h*d-g*e=0)=true:=decide_eq_true y1;clear run ha hb hc hd he hf hg hh hi np y0 y1 z0;w_fin
    ·skip
     refine run (v:=.int (1*det3 d e f g h i a b c)) (H':=[.lst [.cell 2,.cell 3,.cell 1],.lst [.int a,.int (b*d-a*e),.int (det3 d e f g h i a b c)],.lst [.int d,.int e,.int f],.lst [.int g,.int (h*d-g*e),.int (i*d-g*f)]]) ?_ (by unfold det3; congr 1; grind);have x0:decide (a=0)=true:=by simp[z0]
     have xp:decide (d=0)=false:=by simp[np]
     have m01:=Qae (hb.big (by decide)) (hd.big (by decide));have n01:=Qae (ha.big (by decide)) (he.big (by decide));have m02:=Qae (hc.big (by decide)) (hd.big (by decide));have n02:=Qae (ha.big (by decide)) (hf.big (by decide));have m21:=Qae (hh.big (by decide)) (hd.big (by decide));have n21:=Qae (hg.big (by decide)) (he.big (by decide));have m22:=Qae (hi.big (by decide)) (hd.big (by decide));have n22:=Qae (hg.big (by decide)) (hf.big (by decide));have u0:decide (b*d-a*e=0)=true:=decide_eq_true y0;have u1:decide (h*d-g*e=0)=false:=decide_eq_false y1;have p1:=Qae (((hc.mul hd).sub (ha.mul hf)).big (by decide)) (((hh.mul hd).sub (hg.mul he)).big (by decide))
     have p2:=Qae (((hb.mul hd).sub (ha.mul he)).big (by decide)) (((hi.mul hd).sub (hg.mul hf)).big (by decide))
     have q:pBin .div (.int ((c*d-a*f)*(h*d-g*e)-(b*d-a*e)*(i*d-g*f))) (.int d)=some (.int (det3 d e f g h i a b c)):=by
      rw[QcW np (hd.big (by decide)),show (c*d-a*f)*(h*d-g*e)-(b*d-a*e)*(i*d-g*f)=d*det3 d e f g h i a b c by unfold det3; grind,Int.mul_fdiv_cancel_left _ np]
     have r:=Qae (a:=1) (Qaf (by decide)) ((Qeg hd he hf hg hh hi ha hb hc).big (by decide));clear run ha hb hc hd he hf hg hh hi np y0 y1 z0;w_fin
   ·skip
    refine run (v:=.int ((-1)*det3 d e f a b c g h i)) (H':=[.lst [.cell 2,.cell 1,.cell 3],.lst [.int a,.int (b*d-a*e),.int (c*d-a*f)],.lst [.int d,.int e,.int f],.lst [.int g,.int (h*d-g*e),.int (det3 d e f a b c g h i)]]) ?_ (by unfold det3; congr 1; grind)
    have x0:decide (a=0)=true:=by simp[z0]
    have xp:decide (d=0)=false:=by simp[np]
    have m01:=Qae (hb.big (by decide)) (hd.big (by decide));have n01:=Qae (ha.big (by decide)) (he.big (by decide));have m02:=Qae (hc.big (by decide)) (hd.big (by decide));have n02:=Qae (ha.big (by decide)) (hf.big (by decide));have m21:=Qae (hh.big (by decide)) (hd.big (by decide));have n21:=Qae (hg.big (by decide)) (he.big (by decide));have m22:=Qae (hi.big (by decide)) (hd.big (by decide));have n22:=Qae (hg.big (by decide)) (hf.big (by decide));have u0:decide (b*d-a*e=0)=false:=decide_eq_false y0;have p1:=Qae (((hi.mul hd).sub (hg.mul hf)).big (by decide)) (((hb.mul hd).sub (ha.mul he)).big (by decide))
    have p2:=Qae (((hh.mul hd).sub (hg.mul he)).big (by decide)) (((hc.mul hd).sub (ha.mul hf)).big (by decide))
    have q:pBin .div (.int ((i*d-g*f)*(b*d-a*e)-(h*d-g*e)*(c*d-a*f))) (.int d)=some (.int (det3 d e f a b c g h i)):=by
     rw[QcW np (hd.big (by decide)),show (i*d-g*f)*(b*d-a*e)-(h*d-g*e)*(c*d-a*f)=d*det3 d e f a b c g h i by unfold det3; grind,Int.mul_fdiv_cancel_left _ np]
    have r:=Qae (a:=(-1)) (Qaf (by decide)) ((Qeg hd he hf ha hb hc hg hh hi).big (by decide));clear run ha hb hc hd he hf hg hh hi np y0 z0;w_fin
 ·have np:=z0
  clear z0;by_cases y0:e*a-d*b=0
  ·by_cases y1:h*a-g*b=0
   ·skip
    refine run (v:=.int 0) (H':=[.lst [.cell 1,.cell 2,.cell 3],.lst [.int a,.int b,.int c],.lst [.int d,.int (e*a-d*b),.int (f*a-d*c)],.lst [.int g,.int (h*a-g*b),.int (i*a-g*c)]]) ?_ (by
     have e:a*det3 a b c d e f g h i=0:=by unfold det3; grind
     rcases Int.mul_eq_zero.mp e with e | e
     ·exact absurd e np
     ·rw[e])
    have xp:decide (a=0)=false:=by simp[np]
    have m11:=Qae (he.big (by decide)) (ha.big (by decide));have n11:=Qae (hd.big (by decide)) (hb.big (by decide));have m12:=Qae (hf.big (by decide)) (ha.big (by decide));have n12:=Qae (hd.big (by decide)) (hc.big (by decide));have m21:=Qae (hh.big (by decide)) (ha.big (by decide));have n21:=Qae (hg.big (by decide)) (hb.big (by decide));have m22:=Qae (hi.big (by decide)) (ha.big (by decide));have n22:=Qae (hg.big (by decide)) (hc.big (by decide));have u0:decide (e*a-d*b=0)=true:=decide_eq_true y0;have u1:decide (h*a-g*b=0)=true:=decide_eq_true y1;clear run ha hb hc hd he hf hg hh hi np y0 y1;w_fin
   ·skip
    refine run (v:=.int ((-1)*det3 a b c g h i d e f)) (H':=[.lst [.cell 1,.cell 3,.cell 2],.lst [.int a,.int b,.int c],.lst [.int d,.int (e*a-d*b),.int (det3 a b c g h i d e f)],.lst [.int g,.int (h*a-g*b),.int (i*a-g*c)]]) ?_ (by unfold det3; congr 1; grind)
    have xp:decide (a=0)=false:=by simp[np]
    have m11:=Qae (he.big (by decide)) (ha.big (by decide));have n11:=Qae (hd.big (by decide)) (hb.big (by decide));have m12:=Qae (hf.big (by decide)) (ha.big (by decide));have n12:=Qae (hd.big (by decide)) (hc.big (by decide));have m21:=Qae (hh.big (by decide)) (ha.big (by decide));have n21:=Qae (hg.big (by decide)) (hb.big (by decide));have m22:=Qae (hi.big (by decide)) (ha.big (by decide));have n22:=Qae (hg.big (by decide)) (hc.big (by decide));have u0:decide (e*a-d*b=0)=true:=decide_eq_true y0;have u1:decide (h*a-g*b=0)=false:=decide_eq_false y1;have p1:=Qae (((hf.mul ha).sub (hd.mul hc)).big (by decide)) (((hh.mul ha).sub (hg.mul hb)).big (by decide))
    have p2:=Qae (((he.mul ha).sub (hd.mul hb)).big (by decide)) (((hi.mul ha).sub (hg.mul hc)).big (by decide))
    have q:pBin .div (.int ((f*a-d*c)*(h*a-g*b)-(e*a-d*b)*(i*a-g*c))) (.int a)=some (.int (det3 a b c g h i d e f)):=by
     rw[QcW np (ha.big (by decide)),show (f*a-d*c)*(h*a-g*b)-(e*a-d*b)*(i*a-g*c)=a*det3 a b c g h i d e f by unfold det3; grind,Int.mul_fdiv_cancel_left _ np]
    have r:=Qae (a:=(-1)) (Qaf (by decide)) ((Qeg ha hb hc hg hh hi hd he hf).big (by decide));clear run ha hb hc hd he hf hg hh hi np y0 y1;w_fin
  ·skip
   refine run (v:=.int (1*det3 a b c d e f g h i)) (H':=[.lst [.cell 1,.cell 2,.cell 3],.lst [.int a,.int b,.int c],.lst [.int d,.int (e*a-d*b),.int (f*a-d*c)],.lst [.int g,.int (h*a-g*b),.int (det3 a b c d e f g h i)]]) ?_ (by unfold det3; congr 1; grind);have xp:decide (a=0)=false:=by simp[np]
   have m11:=Qae (he.big (by decide)) (ha.big (by decide));have n11:=Qae (hd.big (by decide)) (hb.big (by decide));have m12:=Qae (hf.big (by decide)) (ha.big (by decide));have n12:=Qae (hd.big (by decide)) (hc.big (by decide));have m21:=Qae (hh.big (by decide)) (ha.big (by decide));have n21:=Qae (hg.big (by decide)) (hb.big (by decide));have m22:=Qae (hi.big (by decide)) (ha.big (by decide));have n22:=Qae (hg.big (by decide)) (hc.big (by decide));have u0:decide (e*a-d*b=0)=false:=decide_eq_false y0;have p1:=Qae (((hi.mul ha).sub (hg.mul hc)).big (by decide)) (((he.mul ha).sub (hd.mul hb)).big (by decide))
   have p2:=Qae (((hh.mul ha).sub (hg.mul hb)).big (by decide)) (((hf.mul ha).sub (hd.mul hc)).big (by decide))
   have q:pBin .div (.int ((i*a-g*c)*(e*a-d*b)-(h*a-g*b)*(f*a-d*c))) (.int a)=some (.int (det3 a b c d e f g h i)):=by
    rw[QcW np (ha.big (by decide)),show (i*a-g*c)*(e*a-d*b)-(h*a-g*b)*(f*a-d*c)=a*det3 a b c d e f g h i by unfold det3; grind,Int.mul_fdiv_cancel_left _ np]
   have r:=Qae (a:=1) (Qaf (by decide)) ((Qeg ha hb hc hd he hf hg hh hi).big (by decide));clear run ha hb hc hd he hf hg hh hi np y0;w_fin
end
section
variable {N:Nat}
def detZ (n:Nat) (z:Nat->Nat->Int):Int:=match n with
 | 1=>z 0 0
 | 2=>det2 (z 0 0) (z 0 1) (z 1 0) (z 1 1)
 | 3=>det3 (z 0 0) (z 0 1) (z 0 2) (z 1 0) (z 1 1) (z 1 2) (z 2 0) (z 2 1) (z 2 2)
 | _=>0
abbrev zm (z:Nat->Nat->Int):Nat->Nat->Rat:=fun i j=>((z i j:Int):Rat)
theorem QmG (hN:2≤N) (d:Int) (H:AH):(RN N).f 169 [.int d,.int 1] H=.ok (.tup [.int d,.int 1]) H:=by
 have:=Qi7 (N:=N) hN d 1 (by decide) (Qaf (by decide)) H;rw[this,show Rat.divInt d 1=(d:Rat) from Qax (d:Rat)];rfl
theorem Qgz (hN:3≤N) (n:Nat) (z:Nat->Nat->Int) (hn:n≤3) (h0:0<n) (hz:∀i j,i<n->j<n->sm 3 (z i j)) (H:AH) :
  (RN N).f 465 [.lst (mat n n (zm z))] H=.ok (.tup [.int (detZ n z),.int 1]) H:=by
 have mk:=fun d H=>QmG (N:=N-1) (by omega) d H
 have m1:pBin .mul (.int 1) (.int 1)=some (.int 1):=Qlg 1 (Qaf (by decide))
 match n,hn,h0 with
 | 1,_,_ =>
  have e:mat 1 1 (zm z)=[.lst (irow [z 0 0])]:=rfl;obtain⟨H',wd⟩:=Qo3 (N:=N-1) (by omega) (z 0 0) (hz 0 0 (by decide) (by decide));rw[e];refine Qaa QcC (by omega) (ρ:=[.lst [.lst (irow [z 0 0])],uS,uS,uS,uS,uS]) rfl rfl (H':=H') ?_ rfl H;have w1:=fun H=>QdF (N:=N-1) (by omega) [z 0 0] (fun a ha=>by simp only[List.mem_cons,List.not_mem_nil,or_false] at ha; subst ha; exact (hz 0 0 (by decide) (by decide)).big (by decide)) (by simp) H
  have i1:intl [z 0 0]=[.int (z 0 0)]:=rfl;clear hz;simp only[Qbj,detZ];w_fin
 | 2,_,_ =>
  have e:mat 2 2 (zm z)=[.lst (irow [z 0 0,z 0 1]),.lst (irow [z 1 0,z 1 1])]:=rfl;obtain⟨H',wd⟩:=Qo4 (N:=N-1) (by omega) (z 0 0) (z 0 1) (z 1 0) (z 1 1) (hz _ _ (by decide) (by decide)) (hz _ _ (by decide) (by decide)) (hz _ _ (by decide) (by decide)) (hz _ _ (by decide) (by decide));rw[e];refine Qaa QcC (by omega) (ρ:=[.lst [.lst (irow [z 0 0,z 0 1]),.lst (irow [z 1 0,z 1 1])],uS,uS,uS,uS,uS]) rfl rfl (H':=H') ?_ rfl H;have ws:∀i,i<2->∀H,(RN (N-1)).f 451 [.lst (irow [z i 0,z i 1])] H=.ok (.tup [.cell H.length,.int 1]) (H++[.lst (intl [z i 0,z i 1])]):=fun i hi H=>QdF (N:=N-1) (by omega) [z i 0,z i 1] (fun a ha=>by
   simp only[List.mem_cons,List.not_mem_nil,or_false] at ha;rcases ha with rfl | rfl<;>exact (hz i _ hi (by decide)).big (by decide)) (by simp) H
  have w1:=ws 0 (by decide);have w2:=ws 1 (by decide);have i1:intl [z 0 0,z 0 1]=[.int (z 0 0),.int (z 0 1)]:=rfl;have i2:intl [z 1 0,z 1 1]=[.int (z 1 0),.int (z 1 1)]:=rfl;clear hz ws;simp only[Qbj,detZ];w_fin
 | 3,_,_ =>
  have e:mat 3 3 (zm z)=[.lst (irow [z 0 0,z 0 1,z 0 2]),.lst (irow [z 1 0,z 1 1,z 1 2]),.lst (irow [z 2 0,z 2 1,z 2 2])]:=rfl;obtain⟨H',wd⟩:=Qo5 (N:=N-1) (by omega) (z 0 0) (z 0 1) (z 0 2) (z 1 0) (z 1 1) (z 1 2) (z 2 0) (z 2 1) (z 2 2) (hz _ _ (by decide) (by decide)) (hz _ _ (by decide) (by decide)) (hz _ _ (by decide) (by decide)) (hz _ _ (by decide) (by decide)) (hz _ _ (by decide) (by decide)) (hz _ _ (by decide) (by decide)) (hz _ _ (by decide) (by decide)) (hz _ _ (by decide) (by decide)) (hz _ _ (by decide) (by decide));rw[e];refine Qaa QcC (by omega) (ρ:=[.lst [.lst (irow [z 0 0,z 0 1,z 0 2]),.lst (irow [z 1 0,z 1 1,z 1 2]),.lst (irow [z 2 0,z 2 1,z 2 2])],uS,uS,uS,uS,uS]) rfl rfl (H':=H') ?_ rfl H
  have ws:∀i,i<3->∀H,(RN (N-1)).f 451 [.lst (irow [z i 0,z i 1,z i 2])] H=.ok (.tup [.cell H.length,.int 1]) (H++[.lst (intl [z i 0,z i 1,z i 2])]):=fun i hi H=>QdF (N:=N-1) (by omega) [z i 0,z i 1,z i 2] (fun a ha=>by
   simp only[List.mem_cons,List.not_mem_nil,or_false] at ha;rcases ha with rfl | rfl | rfl<;>exact (hz i _ hi (by decide)).big (by decide)) (by simp) H
  have w1:=ws 0 (by decide);have w2:=ws 1 (by decide);have w3:=ws 2 (by decide);have i1:intl [z 0 0,z 0 1,z 0 2]=[.int (z 0 0),.int (z 0 1),.int (z 0 2)]:=rfl;have i2:intl [z 1 0,z 1 1,z 1 2]=[.int (z 1 0),.int (z 1 1),.int (z 1 2)]:=rfl;have i3:intl [z 2 0,z 2 1,z 2 2]=[.int (z 2 0),.int (z 2 1),.int (z 2 2)]:=rfl;clear hz ws;simp only[Qbj,detZ];w_fin
theorem R_det (hN:7≤N) (n:Nat) (z:Nat->Nat->Int) (hn:n≤3) (h0:0<n) (hz:∀i j,i<n->j<n->sm 3 (z i j)) (H:AH) :
  (RN N).f 864 [.none,.lst [.tup [.none,qmt n n (zm z)]],.none] H=.ok (vec "double" [.tup [.int (detZ n z),.int 1]] .none) H:=by
 refine Qaa QoF (by omega) (ρ:=[.none,.lst [.tup [.none,qmt n n (zm z)]],.none,uS]) rfl (by simp only[AV.ncs,AV.nc,Qam]; rfl) (H':=[.dead]) ?_ rfl H;have ma:=Qk2 (N:=N-1) (by omega) "x" "double" (cmj n n fun i j=>qr (zm z i j)) (dimA n n) (by decide) (Qam _ _ _) rfl [];have im:=Qau (N:=N-1) (by omega) "double" (cmj n n fun i j=>qr (zm z i j)) n n (Qam _ _ _) [];have sh:=Qao (N:=N-1) (by omega) "double" (cmj n n fun i j=>qr (zm z i j)) n n (Qam _ _ _) [];have fr:=R_fr (N:=N-1) (by omega) (zm z) n n (by omega) (by omega) [];have dt:=Qgz (N:=N-1) (by omega) n z hn h0 hz [];have i:=QaX (N:=N-1) (by omega) "double" [.tup [.int (detZ n z),.int 1]] [];simp only[List.length_nil,List.nil_append] at i;have dn:decide ((n:Int)=n)=true:=by simp
 clear hz hn h0;simp only[QhX];w_fin
end
end
section
theorem QnD {C:Orc} {ρ:List AV} {H:AH} (o:PE):evE C ρ (.pop0 o) H=(evE C ρ o H).bind fun v H=>match v with
  | .cell i=>match H[i]? with
   | some (.lst (x::l))=>if l.length≤100000 then .ok x (H.set i (.lst l)) else .stuck
   | _=>.stuck
  | _=>.stuck:=by rw[evE]; first | done | rfl
structure PoolOk (p q:AC):Prop where
 ok:∃ls a b,p=.lst (intl ls)∧q=.lst [.cell 0,.int a,.int b]∧0≤a∧0≤b∧b<2147483648∧ls.length≤63
theorem Qli (ls:List Int):AV.data 6 (.lst (intl ls))=true:=by
 show (intl ls).all (AV.data 5)=true;rw[List.all_eq_true];intro x hx;obtain⟨a,_,rfl⟩:=List.mem_map.mp hx;rfl
variable {N:Nat}
theorem fdm (r:Int) (L:Nat) (h:0≤r) (hL:0<L):∃k:Nat,r.fmod L=k∧k<L∧0≤r.fdiv L:=by
 rw[Int.fmod_eq_emod_of_nonneg _ (by omega),Int.fdiv_eq_ediv_of_nonneg _ (by omega)];have h1:=Int.emod_nonneg r (show (L:Int)≠0 by omega);have h2:=Int.emod_lt_of_pos r (show (0:Int)<L by omega);exact⟨(r % L).toNat,by omega,by omega,Int.ediv_nonneg h (by omega)⟩
theorem Qe7 (hN:1≤N) (L:Nat) (h0:0<L) (hL:L≤10) (p q:AC) (T:AH) (hp:PoolOk p q) :
  ∃(k:Nat) (p' q':AC),k<L∧PoolOk p' q'∧(RN N).f 1038 [.cell 1,.int L] (p::q::T)=.ok (.int k) (p'::q'::T):=by
 obtain⟨ls,a,b,rfl,rfl,ha,hb,hb2,hls⟩:=hp.ok;have lb:QaI (L:Int):=bigN (a:=L) (by omega);have l0:(L:Int)≠0:=by omega
 have ce:pCmp (.lst (intl ls)::.lst [.cell 0,.int a,.int b]::T) .eq (.cell 0) (.lst [])=some (decide (ls=[])):=Qhh (Qli ls) rfl (by
  show AV.lst (intl ls)=.lst []↔_;simp[intl])
 by_cases h2:a<2
 ·have d2:decide (a<2)=true:=by simp[h2]
  match ls,ce,hls,hp with
  | [],ce,hls,hp =>
   obtain⟨m,e1,e2,_⟩:=fdm (b*16807+13) 2147483647 (by omega) (by decide);obtain⟨k,e3,e4,_⟩:=fdm ((m:Int).fdiv 5) L (by rw[Int.fdiv_eq_ediv_of_nonneg _ (by omega)]; omega) h0;refine⟨k,_,_,e4,⟨⟨[],a,m,rfl,rfl,ha,by omega,by omega,hls⟩⟩,QbC Qck hN (ρ:=[.cell 1,.int L,uS]) rfl ?_⟩;have f1:=Qae (a:=b) (b:=16807) (Qaf (by omega)) (Qaf (by decide));have f2:pBin .mod (.int (b*16807+13)) (.int 2147483647)=some (.int m):=by
    rw[Qes (by decide) (Qaf (by decide))]; exact congrArg (fun x=>some (AV.int x)) e1
   have f3:=QcW (a:=(m:Int)) (b:=5) (by decide) (Qaf (by decide));have f4:pBin .mod (.int ((m:Int).fdiv 5)) (.int L)=some (.int k):=by
    rw[Qes l0 lb,e3]
   have de:decide (([]:List Int)=[])=true:=rfl;have ba:=QdA (b*16807) 13;clear ha hb hb2 hls hp e1 e2 e3 e4 h0 hL lb l0 h2;simp only[Qbp];w_fin
  | x::ls,ce,hls,hp =>
   have de:decide (x::ls=[])=false:=rfl;have r0:(x.natAbs:Int)+2-2=x.natAbs:=by omega
   obtain⟨k,e3,e4,e5⟩:=fdm (x.natAbs:Int) L (by omega) h0;have f3:=QcW (a:=(x.natAbs:Int)) l0 lb;have f4:pBin .mod (.int (x.natAbs:Int)) (.int L)=some (.int k):=by
    rw[Qes l0 lb,e3]
   have ba:=QdA (x.natAbs:Int) 2;have ba2:=QdA ((x.natAbs:Int).fdiv L) 2;have ei:intl (x::ls)=.int x::intl ls:=rfl;rw[ei] at ce;have il:(intl ls).length≤100000:=by simp[intl]; simp at hls; omega
   by_cases hr:(x.natAbs:Int)≥L
   ·refine⟨k,_,_,e4,⟨⟨ls,(x.natAbs:Int).fdiv L+2,b,rfl,rfl,by omega,hb,hb2,by simp at hls; omega⟩⟩,QbC Qck hN (ρ:=[.cell 1,.int L,uS]) rfl ?_⟩
    have dr:decide ((x.natAbs:Int)≥L)=true:=by simp[hr]
    clear ha hb hb2 hls hp e3 e4 e5 h0 hL lb l0 h2 hr;simp only[Qbp];w_fin;simp only[QnD];w_fin
   ·refine⟨k,_,_,e4,⟨⟨ls,0,b,rfl,rfl,by omega,hb,hb2,by simp at hls; omega⟩⟩,QbC Qck hN (ρ:=[.cell 1,.int L,uS]) rfl ?_⟩
    have dr:decide ((x.natAbs:Int)≥L)=false:=by simp at hr ⊢; omega
    clear ha hb hb2 hls hp e3 e4 e5 h0 hL lb l0 h2 hr;simp only[Qbp];w_fin;simp only[QnD];w_fin
 ·have d2:decide (a<2)=false:=by simp at h2 ⊢; omega
  obtain⟨k,e3,e4,e5⟩:=fdm (a-2) L (by omega) h0;have f3:=QcW (a:=a-2) l0 lb;have f4:pBin .mod (.int (a-2)) (.int L)=some (.int k):=by
   rw[Qes l0 lb,e3]
  have ba2:=QdA ((a-2).fdiv L) 2;by_cases hr:a-2≥L
  ·refine⟨k,_,_,e4,⟨⟨ls,(a-2).fdiv L+2,b,rfl,rfl,by omega,hb,hb2,hls⟩⟩,QbC Qck hN (ρ:=[.cell 1,.int L,uS]) rfl ?_⟩
   have dr:decide (a-2≥L)=true:=by simp[hr]
   clear ha hb hb2 hls hp e3 e4 e5 h0 hL lb l0 h2 hr;simp only[Qbp];w_fin
  ·refine⟨k,_,_,e4,⟨⟨ls,0,b,rfl,rfl,by omega,hb,hb2,hls⟩⟩,QbC Qck hN (ρ:=[.cell 1,.int L,uS]) rfl ?_⟩
   have dr:decide (a-2≥L)=false:=by simp at hr ⊢; omega
   clear ha hb hb2 hls hp e3 e4 e5 h0 hL lb l0 h2 hr;simp only[Qbp];w_fin
def oi:Option Int->AV
 | none=>.none
 | some x=>.int x
def Qab (t w:Nat) (R:Nat->Nat->Option Int):List AV:=(List.range t).map fun i=>.lst ((List.range w).map fun j=>oi (R i j))
theorem Qrx (x:Option Int):(oi x).nc=true:=by cases x<;>rfl
def OkE (holes:Bool) (x:Option Int):Prop:=(x=none->holes=true)∧∀i,x=some i->i.natAbs≤4
theorem QmH:OkE true none:=⟨fun _=>rfl,(fun _ h=>nomatch h)⟩
theorem Qo6 {k:Nat} (h:k<10) (h9:k≠9) (b:Bool):OkE b (some ((k:Int)-4)):=⟨(fun h=>nomatch h),fun i h=>by cases h; omega⟩
end
section
def orow (w:Nat) (r:Nat->Option Int):List AV:=(List.range w).map fun j=>oi (r j)
theorem Qlj (w:Nat) (r:Nat->Option Int):AV.ncs (orow w r)=true:=QaV fun x hx=>by
 obtain⟨j,_,rfl⟩:=List.mem_map.mp hx; exact Qrx _
theorem Qaz (w:Nat) (r:Nat->Option Int):(orow w r).length=w:=by simp[orow]
theorem Qa4 (t w:Nat) (R:Nat->Nat->Option Int):AV.ncs (Qab t w R)=true:=QaV fun x hx=>by
 obtain⟨j,_,rfl⟩:=List.mem_map.mp hx; exact Qlj w (R j)
theorem Qal (t w:Nat) (R:Nat->Nat->Option Int):(Qab t w R).length=t:=by simp[Qab]
def upO {α:Type} (r:Nat->α) (j:Nat) (x:α):Nat->α:=fun k=>if k=j then x else r k
theorem Qjg (j:Nat) (r:Nat->Option Int) (x:Option Int):orow j r++[oi x]=orow (j+1) (upO r j x):=by
 unfold orow upO;rw[List.range_succ,List.map_append];congr 1
 ·exact List.map_congr_left fun k hk=>by
   have:k≠j:=by have:=List.mem_range.mp hk; omega
   rw[if_neg this]
 ·simp
theorem Qlk (i w:Nat) (R:Nat->Nat->Option Int) (r:Nat->Option Int):Qab i w R++[.lst (orow w r)]=Qab (i+1) w (upO R i r):=by
 unfold Qab upO;rw[List.range_succ,List.map_append];congr 1
 ·exact List.map_congr_left fun k hk=>by
   have:k≠i:=by have:=List.mem_range.mp hk; omega
   rw[if_neg this]
 ·simp[orow]
variable {N:Nat}
theorem QjQ (hN:1≤N) (tl:AV) (wide:Nat) (hw:wide≤3) (holes:Bool) (rc y z:AV) (p q:AC) (T:AH) (hp:PoolOk p q) :
  ∃(r:Nat->Option Int) (p' q':AC) (y' z':AV),(∀j,j<wide->OkE holes (r j))∧PoolOk p' q' ∧
   forL (RN N) [5] true B18 ((List.range wide).map fun (i:Nat)=>AV.int (i:Int)) [.cell 1,tl,.int wide,.bool holes,rc,y,.cell (T.length+1+1),z] (p::q::(T++[.lst []])) =
    .ok .next [.cell 1,tl,.int wide,.bool holes,rc,y',.cell (T.length+1+1),z'] (p'::q'::(T++[.lst (orow wide r)])):=by
 obtain⟨ρ_1,H_1,e1,r,p',q',y',z',rfl,rfl,hp',hr⟩:=QaE (C:=RN N) (k:=5) (n:=wide) (b:=B18)
  (P:=fun j ρ H=>∃(r:Nat->Option Int) (p' q':AC) (y' z':AV),ρ=[.cell 1,tl,.int wide,.bool holes,rc,y',.cell (T.length+1+1),z']∧H=p'::q'::(T++[.lst (orow j r)])∧PoolOk p' q'∧∀j',j'<j->OkE holes (r j'))
  (fun j hj ρ H ⟨r,p',q',y',z',h1',h2',hp',hr⟩=>by
   subst h1' h2';have ol:=Qaz j r;have l4:j≤100000:=by omega
   obtain⟨k,p2,q2,hk,hp2,e⟩:=Qe7 hN (if holes=true then 10 else 9) (by split<;>decide) (by split<;>decide) p' q' (T++[.lst (orow j r)]) hp';have hk10:k<10:=Nat.lt_of_lt_of_le hk (by split<;>decide);have sb:=Qoz (k:Int) 4;by_cases h9:k=9
   ·have ho:holes=true:=by
     cases holes with
     | true=>rfl
     | false=>exact absurd hk (by subst h9; decide)
    subst ho;refine⟨.next,[.cell 1,tl,.int wide,.bool true,rc,.int j,.cell (T.length+1+1),.int k],p2::q2::(T++[.lst (orow (j+1) (upO r j none))]),?_,.inl rfl,upO r j none,p2,q2,_,_,rfl,rfl,hp2,?_⟩
    ·have d:decide ((k:Int)=9)=true:=by simp[h9]
     have oa:orow j r++[.none]=orow (j+1) (upO r j none):=Qjg j r none;have e':(RN N).f 1038 [.cell 1,.int 10] (p'::q'::(T++[.lst (orow j r)]))=.ok (.int k) (p2::q2::(T++[.lst (orow j r)])):=e;clear e hp hp' hp2 hr hk hk10 h9 hj hw;w_fin
    ·intro j' hj'
     unfold upO;split
     ·exact QmH
     ·exact hr j' (by omega)
   ·refine⟨.next,[.cell 1,tl,.int wide,.bool holes,rc,.int j,.cell (T.length+1+1),.int k],p2::q2::(T++[.lst (orow (j+1) (upO r j (some ((k:Int)-4))))]),?_,.inl rfl,upO r j (some ((k:Int)-4)),p2,q2,_,_,rfl,rfl,hp2,?_⟩
    ·have d:decide ((k:Int)=9)=false:=by simp; omega
     have oa:orow j r++[.int ((k:Int)-4)]=orow (j+1) (upO r j (some ((k:Int)-4))):=Qjg j r (some ((k:Int)-4));cases holes with
     | true =>
      have e':(RN N).f 1038 [.cell 1,.int 10] (p'::q'::(T++[.lst (orow j r)]))=.ok (.int k) (p2::q2::(T++[.lst (orow j r)])):=e;clear e hp hp' hp2 hr hk hk10 h9 hj hw;w_fin
     | false =>
      have e':(RN N).f 1038 [.cell 1,.int 9] (p'::q'::(T++[.lst (orow j r)]))=.ok (.int k) (p2::q2::(T++[.lst (orow j r)])):=e;clear e hp hp' hp2 hr hk hk10 h9 hj hw;w_fin
    ·intro j' hj'
     unfold upO;split
     ·exact Qo6 hk10 h9 _
     ·exact hr j' (by omega)) (ρ:=[.cell 1,tl,.int wide,.bool holes,rc,y,.cell (T.length+1+1),z]) (H:=p::q::(T++[.lst []])) ⟨fun _=>none,p,q,y,z,rfl,rfl,hp,fun _ h=>absurd h (by omega)⟩
 exact⟨r,p',q',y',z',hr,hp',e1⟩
theorem Qde (hN:2≤N) (tall wide:Nat) (ht:tall≤3) (hw:wide≤3) (holes:Bool) (p q:AC) (T:AH) (hp:PoolOk p q) :
  ∃(R:Nat->Nat->Option Int) (p' q':AC) (T':AH),(∀i j,i<tall->j<wide->OkE holes (R i j))∧PoolOk p' q'∧T'[T.length]?=some (.lst (Qab tall wide R))∧(∀k,k<T.length->T'[k]?=T[k]?) ∧
   (RN N).f 1045 [.cell 1,.int tall,.int wide,.bool holes] (p::q::T)=.ok (.cell (T.length+1+1)) (p'::q'::T'):=by
 obtain⟨ρ_1,H_1,e1,R,p',q',T',y',z',z2',rfl,rfl,hp',hT,hk,hr⟩:=QaE (C:=RN (N-1)) (k:=5) (n:=tall) (b:=B24)
  (P:=fun i ρ H=>∃(R:Nat->Nat->Option Int) (p' q':AC) (T':AH) (y' z' z2':AV),ρ=[.cell 1,.int tall,.int wide,.bool holes,.cell (T.length+1+1),y',z',z2']∧H=p'::q'::T'∧PoolOk p' q'∧T'[T.length]?=some (.lst (Qab i wide R))∧(∀k,k<T.length->T'[k]?=T[k]?)∧∀i' j,i'<i->j<wide->OkE holes (R i' j))
  (fun i hi ρ H ⟨R,p',q',T',y',z',z2',h1',h2',hp',hT,hk,hr⟩=>by
   subst h1' h2';obtain⟨r,p2,q2,y2,z3,hr2,hp2,e⟩:=QjQ (N:=N-1) (by omega) (.int tall) wide hw holes (.cell (T.length+1+1)) (.int i) z2' p' q' T' hp';have hlt:T.length<T'.length:=(List.getElem?_eq_some_iff.mp hT).1;have g1:∀x:AC,(T'++[x])[T.length]?=some (.lst (Qab i wide R)):=fun x=>by rw[List.getElem?_append_left hlt]; exact hT
   have ol:=Qal i wide R;have on:=Qlj wide r;have l4:i≤100000:=by omega
   have w9:wide<1000000:=by omega
   have oa:=Qlk i wide R r;refine⟨.next,[.cell 1,.int tall,.int wide,.bool holes,.cell (T.length+1+1),y2,.cell (T'.length+1+1),z3],p2::q2::(List.set (T'++[AC.dead]) T.length (AC.lst (Qab (i+1) wide (upO R i r)))),?_,.inl rfl,upO R i r,p2,q2,_,_,_,_,rfl,rfl,hp2,?_,?_,?_⟩
   ·clear hp hp' hp2 hr hr2 hk hi hw ht hlt hT
    w_fin
   ·rw[List.getElem?_set_self (by rw[List.length_append]; omega)]
   ·intro k hk2
    rw[List.getElem?_set_ne (by omega),List.getElem?_append_left (by omega)];exact hk k hk2
   ·intro i' j hi' hj
    unfold upO;split
    ·exact hr2 j hj
    ·exact hr i' j (by omega) hj) (ρ:=[.cell 1,.int tall,.int wide,.bool holes,.cell (T.length+1+1),uS,uS,uS]) (H:=p::q::(T++[.lst []])) ⟨fun _ _=>none,p,q,T++[.lst []],uS,uS,uS,rfl,rfl,hp,by simp[Qab],fun k hk=>by rw[List.getElem?_append_left hk],fun i _ h=>absurd h (by omega)⟩
 refine⟨R,p',q',T',hr,hp',hT,hk,QbC QjG (by omega) (ρ:=[.cell 1,.int tall,.int wide,.bool holes,uS,uS,uS,uS]) rfl ?_⟩;have t9:tall<1000000:=by omega
 clear hr hp' hT hk hp ht hw;simp only[Qd9];w_fin
end
section
variable {N:Nat}
def cO (x:Option Int):Option Rat:=x.map fun (k:Int)=>((k:Int):Rat)
abbrev rO (R:Nat->Nat->Option Int):Nat->Nat->Option Rat:=fun i j=>cO (R i j)
theorem Qav {t w:Nat} {R:Nat->Nat->Option Int} {i:Nat} (h:i<t):(Qab t w R)[i]?=some (.lst (orow w (R i))):=by simp[Qab,orow,h]
theorem Qb3 {w:Nat} {r:Nat->Option Int} {j:Nat} (h:j<w):(orow w r)[j]?=some (oi (r j)):=by simp[orow,h]
theorem QnE (x:Option Int):setAV (oi x)=true:=by cases x<;>rfl
theorem Qc4 {t w:Nat} {R:Nat->Nat->Option Int} {y:AV} (h:y∈Qab t w R):∃i,i<t∧y=.lst (orow w (R i)):=by
 obtain⟨i,hi,rfl⟩:=List.mem_map.mp h;exact⟨i,by simpa using hi,rfl⟩
def itO (w:Nat):List AV:=(List.range w).map fun (i:Nat)=>AV.int (i:Int)
theorem QbE (hN:2≤N) (t w:Nat) (R:Nat->Nat->Option Int) (ht:t≤3) (hw:w≤3) (H:AH):(RN N).f 1050 [.lst (Qab t w R),.int w] H=.ok (mtx t w (rO R)) H:=by
 refine Qaa Qht (by omega) (ρ:=[.lst (Qab t w R),.int w,uS,uS,uS]) rfl (by simp[AV.ncs,AV.nc,Qa4]) (H':=[.dead,.dead]) ?_ (QaS _ _ _) H;have w9:w<1000000:=by omega
 have t8:t≤1000000:=by omega
 have ol:=Qal t w R;have n1:t*w≤9:=Nat.mul_le_mul ht hw;have i1:=QaX (N:=N-1) (by omega) "double" (cmj t w fun i j=>qo (rO R i j)) [];have i2:=QaX (N:=N-1) (by omega) "integer" [.int t,.int w] [vecC "double" (cmj t w fun i j=>qo (rO R i j)) .none];simp only[List.length_nil,List.nil_append,List.length_cons,List.cons_append] at i1 i2;have cm:evE (RN (N-1)) [.lst (Qab t w R),.int w,uS,uS,uS] D40 []=.ok (.lst (cmj t w fun i j=>qo (rO R i j))) []:=by
  have fl:(((List.range w).map fun (i:Nat)=>AV.int (i:Int)).flatMap fun x=>(Qab t w R).map fun y=>match x,y with | .int j,.lst l=>(match l[j.toNat]? with | some (.int k)=>.tup [.int k,.int 1] | _=>.none) | _,_=>.none)=cmj t w fun i j=>qo (rO R i j):=by
   unfold cmj Qab;rw[List.flatMap_map];have hf:∀l:List Nat,(∀j∈l,j<w)->(l.flatMap fun (j:Nat)=>((List.range t).map fun i=>AV.lst ((List.range w).map fun j=>oi (R i j))).map fun y=>match AV.int (j:Int),y with | .int j,.lst l=>(match l[j.toNat]? with | some (.int k)=>.tup [.int k,.int 1] | _=>.none) | _,_=>.none)=l.flatMap fun j=>(List.range t).map fun i=>qo (rO R i j):=fun l=>by
    induction l with
    | nil=>intro _; rfl
    | cons j l ih =>
     intro hj;rw[List.flatMap_cons,List.flatMap_cons,ih fun k hk=>hj k (.tail _ hk)];congr 1;rw[List.map_map];refine List.map_congr_left fun i hi=>?_
     have hjw:=hj j (.head _);simp only[Function.comp,Int.toNat_natCast,List.getElem?_map,List.getElem?_range hjw,Option.map_some];cases hr:R i j<;>simp only[oi,rO,cO,hr]<;>rfl
   exact hf _ fun j hj=>List.mem_range.mp hj
  refine (Qgj (v:=.rng 0 w) (l:=(List.range w).map fun (i:Nat)=>AV.int (i:Int)) (m:=fun _=>Qab t w R) (g:=fun x y=>match x,y with | .int j,.lst l=>(match l[j.toNat]? with | some (.int k)=>.tup [.int k,.int 1] | _=>.none) | _,_=>.none) (by clear hw ht; w_fin) QaP (by rw[fl,QaA]; omega) rfl fun x hx=>?_).trans (by rw[fl]; rfl)
  obtain⟨j,hj,rfl⟩:=List.mem_map.mp hx;have hj':j<w:=by simpa using hj
  refine⟨_,.lst (Qab t w R),rfl,by clear hx hj hj' hw ht; w_fin,rfl,fun y hy=>?_⟩;obtain⟨i,hi,rfl⟩:=Qc4 hy;refine⟨_,rfl,?_⟩;have l1:(orow w (R i)).length≤1000000:=by rw[Qaz]; omega
  have g1:=Qb3 (r:=R i) hj';cases hr:R i j with
  | none =>
   rw[hr] at g1;simp only[oi] at g1;clear hx hj hy hi hr hj' hw ht;w_fin
  | some k =>
   rw[hr] at g1;simp only[oi] at g1;clear hx hj hy hi hr hj' hw ht;w_fin
 have cn:=Qac t w (rO R);clear ht hw;simp only[QcS];w_fin
theorem Qa0 (hN:1≤N) (k:String) (t w:Nat) (e:Nat->Nat->AV) (ht:t<100) (hw:w<100) (he:∀i j,i<t->j<w->(e i j).nc=true) (H:AH) :
  (RN N).f 1055 [vec k (cmj t w e) (dimA t w)] H=.ok (.lst (rwj t w e)) H:=by
 have n1:t*w≤90000:=Nat.le_trans (Nat.mul_le_mul (Nat.le_of_lt ht) (Nat.le_of_lt hw)) (by decide);refine Qaa Qh9 (by omega) (ρ:=[vec k (cmj t w e) (dimA t w),uS,uS,uS,uS]) rfl (by simp[AV.ncs,AV.nc,QbI he]) (H':=[]) ?_ (by simp[AV.nc,QjK he]) H;have w9:w<1000000:=by omega
 have t9:t<1000000:=by omega
 have cl:=QaA t e w;have c9:t*w≤1000000:=by omega
 have m1:=QbK t9 w9;have dn:decide (((t*w:Nat):Int)=((t*w:Nat):Int))=true:=by simp
 have cm:evE (RN (N-1)) [vec k (cmj t w e) (dimA t w),.int t,.int w,uS,uS] D44 []=.ok (.lst (rwj t w e)) []:=by
  refine (Qah (v:=.rng 0 t) (l:=(List.range t).map fun (i:Nat)=>AV.int (i:Int)) (g:=fun x=>match x with | .int i=>.lst ((List.range w).map fun j=>e i.toNat j) | _=>.none) (by clear he; w_fin) QaP (by simp; omega) rfl fun x hx=>?_).trans (by simp[newC,rwj,Function.comp_def])
  obtain⟨i,hi,rfl⟩:=List.mem_map.mp hx;have hi':i<t:=by simpa using hi
  refine⟨_,rfl,(Qah (v:=.rng 0 w) (l:=(List.range w).map fun (i:Nat)=>AV.int (i:Int)) (g:=fun x=>match x with | .int j=>e i j.toNat | _=>.none) (by clear he hx hi hi'; w_fin) QaP (by simp; omega) rfl fun x hx=>?_).trans (by simp[newC,Function.comp_def])⟩
  obtain⟨j,hj,rfl⟩:=List.mem_map.mp hx;have hj':j<w:=by simpa using hj
  have g:=cm_get (e:=e) hi' hj';have m:=QbK (a:=j) (b:=t) (by omega) (by omega);refine⟨_,rfl,?_⟩;clear he hx hi hi' hj hj';w_fin
 clear he;simp only[Qdy];w_fin
def Qbe:Int->List (Option Int × Option Int)->Option Int
 | t,[]=>some t
 | t,(some a,some b)::l=>Qbe (t+a*b) l
 | _,_::_=>none
def pA (p:Option Int × Option Int):AV:=.tup [oi p.1,oi p.2]
theorem Qjh {C:Orc} {H:AH} {L:AV}:∀(l:List (Option Int × Option Int)) (t:Int) (x y:AV),(∀p∈l,(∀a,p.1=some a->QaI a)∧∀b,p.2=some b->QaI b) ->
  match Qbe t l with
  | some s=>∃x' y',forL C [2,3] false B9 (l.map pA) [L,.int t,x,y] H=.ok .next [L,.int s,x',y'] H
  | none=>∃ρ',forL C [2,3] false B9 (l.map pA) [L,.int t,x,y] H=.ok (.ret .none) ρ' H
 | [],t,x,y,_=>⟨x,y,rfl⟩
 | (a,b)::l,t,x,y,h=>by
  have bt:bindT [2,3] false (pA (a,b)) [L,.int t,x,y]=some [L,.int t,oi a,oi b]:=rfl;have hh:=h (a,b) (.head _);cases a with
  | none =>
   refine⟨[L,.int t,.none,oi b],?_⟩;rw[Qcc,List.map_cons,loopS,bt];have:evSs C B9 [L,.int t,oi none,oi b] H=.ok (.ret .none) [L,.int t,.none,oi b] H:=by
    simp only[oi];clear h hh bt;w_fin
   dsimp only;rw[this]
  | some a =>
   cases b with
   | none =>
    refine⟨[L,.int t,.int a,.none],?_⟩;rw[Qcc,List.map_cons,loopS,bt];have:evSs C B9 [L,.int t,oi (some a),oi none] H=.ok (.ret .none) [L,.int t,.int a,.none] H:=by
     simp only[oi];clear h hh bt;w_fin
    dsimp only;rw[this]
   | some b =>
    have ih:=Qjh (C:=C) (H:=H) (L:=L) l (t+a*b) (.int a) (.int b) fun p hp=>h p (.tail _ hp)
    have:evSs C B9 [L,.int t,oi (some a),oi (some b)] H=.ok .next [L,.int (t+a*b),.int a,.int b] H:=by
     have m:=Qae (hh.1 a rfl) (hh.2 b rfl);have ad:=QdA t (a*b);simp only[oi];clear h hh bt ih;w_fin
    simp only[Qbe];rw[Qcc,List.map_cons,loopS,bt];dsimp only;rw[this];rw[Qcc] at ih;exact ih
def sA:Option Int->AV
 | some s=>.tup [.int s,.int 1]
 | none=>.none
theorem QmI (x:Option Int):sA x=qo (cO x):=by cases x<;>rfl
theorem pA_nc (l:List (Option Int × Option Int)):AV.ncs (l.map pA)=true:=QaV fun x hx=>by
 obtain⟨p,_,rfl⟩:=List.mem_map.mp hx;simp[pA,AV.nc,AV.ncs,Qrx]
theorem QhG (hN:1≤N) (l:List (Option Int × Option Int)) (h:∀p∈l,(∀a,p.1=some a->QaI a)∧∀b,p.2=some b->QaI b) (H:AH):(RN N).f 1069 [.lst (l.map pA)] H=.ok (sA (Qbe 0 l)) H:=by
 refine Qaa QkR hN (ρ:=[.lst (l.map pA),uS,uS,uS]) rfl (by simp[AV.ncs,AV.nc,pA_nc]) (H':=[]) ?_ (by cases Qbe 0 l<;>rfl) H;have lp:=Qjh (C:=RN (N-1)) (H:=[]) (L:=.lst (l.map pA)) l 0 uS uS h;clear h;simp only[QeV];cases hf:Qbe 0 l with
 | some s =>
  rw[hf] at lp;obtain⟨x',y',e⟩:=lp;simp only[sA];clear hf;w_fin
 | none =>
  rw[hf] at lp;obtain⟨ρ',e⟩:=lp;simp only[sA];clear hf;w_fin
def unI:AV->Option Int
 | .int k=>some k
 | _=>none
theorem Qll (x:Option Int):unI (oi x)=x:=by cases x<;>rfl
def unO:AV->Nat->Option Int
 | .lst l=>fun j=>match l[j]? with | some v=>unI v | none=>none
 | _=>fun _=>none
theorem QeD {w j:Nat} {r:Nat->Option Int} (h:j<w):unO (.lst (orow w r)) j=r j:=by
 simp only[unO,Qb3 h,Qll]
theorem QmJ {w:Nat} {r:Nat->Option Int} {g:AV->AV}:(orow w r).map g=(List.range w).map fun j=>g (oi (r j)):=by
 unfold orow; rw[List.map_map]; rfl
theorem QhH {t w:Nat} {R:Nat->Nat->Option Int} {g:AV->AV}:(Qab t w R).map g=(List.range t).map fun i=>g (.lst (orow w (R i))):=by
 unfold Qab; rw[List.map_map]; rfl
theorem Qa5 {α:Type} {n:Nat} {f g:Nat->α} (h:∀i,i<n->f i=g i):(List.range n).map f=(List.range n).map g :=
 List.map_congr_left fun i hi=>h i (by simpa using hi)
theorem Qeq (hN:1≤N) (t w:Nat) (R:Nat->Nat->Option Int) (h0:0<t) (ht:t≤3) (hw:w≤3) (H:AH):(RN N).f 1074 [.lst (Qab t w R)] H=.ok (.lst (Qab w t fun i j=>R j i)) H:=by
 refine Qaa Qhu hN (ρ:=[.lst (Qab t w R),uS,uS]) rfl (by simp[AV.ncs,AV.nc,Qa4]) (H':=[]) ?_ (by simp[AV.nc,Qa4]) H;have g0:=Qav (w:=w) (R:=R) h0;have l0:=Qaz w (R 0);have ol:=Qal t w R;have w8:w≤1000000:=by omega
 have t8:t≤1000000:=by omega
 have w9:w<1000000:=by omega
 have cm:evE (RN (N-1)) [.lst (Qab t w R),uS,uS] D57 []=.ok (.lst (Qab w t fun i j=>R j i)) []:=by
  refine (Qah (v:=.rng 0 w) (l:=(List.range w).map fun (i:Nat)=>AV.int (i:Int)) (g:=fun x=>match x with | .int j=>.lst (orow t fun i=>R i j.toNat) | _=>.none) (by clear h0 ht hw; w_fin) QaP (by simp; omega) rfl fun x hx=>?_).trans (by simp[newC,Qab,orow,Function.comp_def])
  obtain⟨j,hj,rfl⟩:=List.mem_map.mp hx;have hj':j<w:=by simpa using hj
  refine⟨_,rfl,(Qah (v:=.lst (Qab t w R)) (l:=Qab t w R) (g:=fun y=>oi (unO y j)) (by clear hx hj hj' h0 ht hw; w_fin) rfl (by rw[Qal]; omega) rfl fun y hy=>?_).trans ?_⟩
  ·obtain⟨i,hi,rfl⟩:=Qc4 hy
   have g1:=Qb3 (r:=R i) hj';have l1:=Qaz w (R i);rw[QeD hj'];refine⟨_,rfl,?_⟩;clear hx hj hj' hy hi h0 ht hw;w_fin
  ·rw[QhH]
   simp only[newC,QeD hj'];rfl
 clear h0 ht hw;simp only[QcT];w_fin
def prs (n:Nat) (a b:Nat->Option Int):List (Option Int × Option Int):=(List.range n).map fun s=>(a s,b s)
def E4 (x:Option Int):Prop:=∀i,x=some i->i.natAbs≤4
theorem E4.big {x:Option Int} (h:E4 x):∀i,x=some i->QaI i:=fun i hi=>Qaf (Nat.lt_of_le_of_lt (h i hi) (by decide))
theorem QcI (hN:2≤N) (r n c:Nat) (A B:Nat->Nat->Option Int) (h0:0<n) (hr:r≤3) (hn:n≤3) (hc:c≤3) (hA:∀i j,i<r->j<n->E4 (A i j)) (hB:∀i j,i<n->j<c->E4 (B i j)) (H:AH) :
  (RN N).f 1079 [.lst (Qab r n A),.lst (Qab n c B)] H=.ok (.lst (rwj r c fun i j=>sA (Qbe 0 (prs n (A i) fun s=>B s j)))) H:=by
 have snc:∀x,(sA x).nc=true:=fun x=>by cases x<;>rfl
 refine Qaa Qgq (by omega) (ρ:=[.lst (Qab r n A),.lst (Qab n c B),uS,uS,uS]) rfl (by simp[AV.ncs,AV.nc,Qa4]) (H':=[]) ?_ (by simp[AV.nc,QjK (e:=fun i j=>sA (Qbe 0 (prs n (A i) fun s=>B s j))) fun _ _ _ _=>snc _]) H
 have g0:=Qav (w:=c) (R:=B) h0;have l0:=Qaz c (B 0);have ol:=Qal n c B;have n8:n≤1000000:=by omega
 have n9:n<1000000:=by omega
 have c8:c≤1000000:=by omega
 have c9:c<1000000:=by omega
 have cm:evE (RN (N-1)) [.lst (Qab r n A),.lst (Qab n c B),uS,uS,uS] D17 []=.ok (.lst (rwj r c fun i j=>sA (Qbe 0 (prs n (A i) fun s=>B s j)))) []:=by
  refine (Qah (v:=.lst (Qab r n A)) (l:=Qab r n A) (g:=fun y=>.lst ((List.range c).map fun j=>sA (Qbe 0 (prs n (unO y) fun s=>B s j)))) (by clear hA hB h0 hr hn hc snc; w_fin) rfl (by rw[Qal]; omega) rfl fun y hy=>?_).trans ?_
  ·obtain⟨i,hi,rfl⟩:=Qc4 hy
   have eu:prs n (unO (.lst (orow n (A i))))=prs n (A i):=by
    funext b;exact Qa5 fun s hs=>by rw[QeD hs]
   rw[eu];refine⟨_,rfl,(Qah (v:=.rng 0 c) (l:=(List.range c).map fun (i:Nat)=>AV.int (i:Int)) (g:=fun x=>match x with | .int j=>sA (Qbe 0 (prs n (A i) fun s=>B s j.toNat)) | _=>.none) (by clear hA hB h0 hr hn hc snc hy hi; w_fin) QaP (by simp; omega) rfl fun x hx=>?_).trans (by simp[newC,Function.comp_def])⟩
   obtain⟨j,hj,rfl⟩:=List.mem_map.mp hx;have hj':j<c:=by simpa using hj
   have lr:=Qaz n (A i);have cp:evE (RN (N-1)) [.lst (Qab r n A),.lst (Qab n c B),.lst (orow n (A i)),.int j,uS] (.comp (.tup [(.sub D2 D4),(.sub (.sub D1 D4) D3)]) [.mk [4] true (.range1 (.len D2)) []] false) []=.ok (.lst ((prs n (A i) fun s=>B s j).map pA)) []:=by
    refine (Qah (v:=.rng 0 n) (l:=(List.range n).map fun (i:Nat)=>AV.int (i:Int)) (g:=fun x=>match x with | .int s=>pA (A i s.toNat,B s.toNat j) | _=>.none) (by clear hA hB h0 hr hn hc snc hy hi hx hj hj'; w_fin) QaP (by simp; omega) rfl fun x hx=>?_).trans (by simp[newC,prs,Function.comp_def])
    obtain⟨s,hs,rfl⟩:=List.mem_map.mp hx;have hs':s<n:=by simpa using hs
    have q1:=Qb3 (r:=A i) hs';have q2:=Qav (w:=c) (R:=B) hs';have q3:=Qb3 (r:=B s) hj';have q4:=Qaz c (B s);refine⟨_,rfl,?_⟩;simp only[pA];clear hA hB h0 hr hn hc snc hy hi hx hj hj' hs hs';w_fin
   have su:=QhG (N:=N-1) (by omega) (prs n (A i) fun s=>B s j) (fun p hp=>by
    obtain⟨s,hs,rfl⟩:=List.mem_map.mp hp;have hs':s<n:=by simpa using hs
    exact⟨(hA i s hi hs').big,(hB s j hs' hj').big⟩) []
   refine⟨_,rfl,?_⟩;clear hA hB h0 hr hn hc snc hy hi hx hj hj';w_fin
  ·rw[QhH]
   simp only[newC,rwj,Bool.false_eq_true,if_false];refine congrArg (fun l=>Out.ok (AV.lst l) []) (Qa5 fun i hi=>?_);have eu:prs n (unO (.lst (orow n (A i))))=prs n (A i):=by
    funext b;exact Qa5 fun s hs=>by rw[QeD hs]
   rw[eu]
 clear hA hB h0 hr hn hc snc;simp only[QcA];w_fin
theorem QhI (p:Option Int × Option Int):∀(l:List (Option Int × Option Int)) (t:Int),Qbe t (l++[p])=(Qbe t l).bind fun s=>match p with | (some a,some b)=>some (s+a*b) | _=>none
 | [],t=>by
  obtain⟨a,b⟩:=p;cases a<;>cases b<;>rfl
 | (some a,some b)::l,t=>by
  show Qbe (t+a*b) (l++[p])=(Qbe (t+a*b) l).bind _;exact QhI p l _
 | (none,_)::l,t=>rfl
 | (some _,none)::l,t=>rfl
theorem QfO (n:Nat) (a b:Nat->Option Int):Qbe 0 (prs (n+1) a b)=(Qbe 0 (prs n a b)).bind fun s=>match a n,b n with | some x,some y=>some (s+x*y) | _,_=>none:=by
 unfold prs;rw[List.range_succ,List.map_append];rw[List.map_cons,List.map_nil,QhI];cases Qbe 0 ((List.range n).map fun s=>(a s,b s)) with
 | none=>rfl
 | some s=>cases a n<;>cases b n<;>rfl
theorem Qco (a b:Nat->Option Int):∀n,osum (fun s=>omul (cO (a s)) (cO (b s))) n=cO (Qbe 0 (prs n a b))
 | 0=>rfl
 | n+1=>by
  rw[osum,Qco a b n,QfO];cases Qbe 0 (prs n a b) with
  | none=>cases a n<;>cases b n<;>rfl
  | some s =>
   cases a n with
   | none=>rfl
   | some x =>
    cases b n with
    | none=>rfl
    | some y=>show some _=some _; congr 1; simp
theorem Qji (a b:Nat->Option Int):∀n,(∀s,s<n->E4 (a s)∧E4 (b s))->∀i,Qbe 0 (prs n a b)=some i->i.natAbs≤16*n
 | 0,_,i,h=>by cases h; decide
 | n+1,h,i,hi=>by
  rw[QfO] at hi;have ih:=Qji a b n fun s hs=>h s (by omega)
  obtain⟨h1,h2⟩:=h n (by omega);cases hf:Qbe 0 (prs n a b) with
  | none=>rw[hf] at hi; cases hi
  | some s =>
   rw[hf] at hi ih;cases ha:a n with
   | none=>rw[ha] at hi; cases hi
   | some x =>
    cases hb:b n with
    | none=>rw[ha,hb] at hi; cases hi
    | some y =>
     rw[ha,hb] at hi;cases hi;have:=ih s rfl;have hx:=h1 x ha;have hy:=h2 y hb;have hxy:(x*y).natAbs≤16:=by rw[Int.natAbs_mul]; exact Nat.mul_le_mul hx hy
     omega
theorem Qo7 {x:Option Int} (h:∀i,x=some i->i.natAbs≤1000):ho 2000 (cO x):=fun q hq=>by
 cases x with
 | none=>cases hq
 | some i =>
  cases hq;refine⟨?_,?_⟩
  ·show i.natAbs<_
   exact Nat.lt_of_le_of_lt (h i rfl) (Nat.lt_of_lt_of_le (show 1000<2 ^ 10 by decide) (Nat.pow_le_pow_right (by decide) (by decide)))
  ·show 1<_
   exact Nat.lt_of_lt_of_le (show 1<2 ^ 1 by decide) (Nat.pow_le_pow_right (by decide) (by decide))
theorem E4.ho {x:Option Int} (h:E4 x):ho 2000 (cO x):=Qo7 fun i hi=>Nat.le_trans (h i hi) (by decide)
theorem Qlm {x y:Option Int} (h:E4 x) (h':E4 y):ho 2000 (omul (cO x) (cO y)):=by
 have e:omul (cO x) (cO y)=cO (match x,y with | some a,some b=>some (a*b) | _,_=>none):=by
  cases x with
  | none=>rfl
  | some a =>
   cases y with
   | none=>rfl
   | some b=>show some _=some _; congr 1; simp
 rw[e];refine Qo7 fun i hi=>?_
 cases x with
 | none=>cases hi
 | some a =>
  cases y with
  | none=>cases hi
  | some b =>
   cases hi;have:(a*b).natAbs≤16:=by rw[Int.natAbs_mul]; exact Nat.mul_le_mul (h a rfl) (h' b rfl)
   omega
theorem Qln {n:Nat} {a b:Nat->Option Int} (hn:n≤3) (h:∀s,s<n->E4 (a s)∧E4 (b s)):ho 2000 (osum (fun s=>omul (cO (a s)) (cO (b s))) n):=by
 rw[Qco];exact Qo7 fun i hi=>Nat.le_trans (Qji a b n h i hi) (by omega)
theorem Qe8 {α:Type} (f:Nat->α) (b:Nat):∀a,(List.range (a*b)).map f=(List.range a).flatMap fun i=>(List.range b).map fun p=>f (i*b+p)
 | 0=>by simp
 | a+1=>by
  rw[Nat.succ_mul,List.range_add,List.map_append,Qe8 f b a,List.range_succ,List.flatMap_append,List.map_map];simp[Function.comp_def]
theorem Qe9 {t w:Nat} {e:Nat->Nat->AV} (h:∀i j,i<t->j<w->AV.data 4 (e i j)=true):AV.data 6 (.lst (rwj t w e))=true:=by
 show (rwj t w e).all (AV.data 5)=true;rw[List.all_eq_true];intro x hx;obtain⟨i,hi,rfl⟩:=List.mem_map.mp hx;show ((List.range w).map fun j=>e i j).all (AV.data 4)=true;rw[List.all_eq_true];intro y hy;obtain⟨j,hj,rfl⟩:=List.mem_map.mp hy;exact h i j (by simpa using hi) (by simpa using hj)
theorem QgA (x:Option Rat):AV.data 4 (qo x)=true:=by cases x<;>rfl
theorem data_sA (x:Option Int):AV.data 4 (sA x)=true:=by cases x<;>rfl
theorem Qik {H:AH} {l:List AV} (h:AV.data 6 (.lst l)=true):pCmp H .ne (.lst l) (.lst l)=some false :=
 (QjB (a:=.lst l) (b:=.lst l) (P:=False) h h ⟨fun h=>h rfl,False.elim⟩).trans rfl
theorem QeE {H:AH} {l:List AV} (h:AV.data 6 (.lst l)=true):pCmp H .eq (.lst l) (.lst l)=some true :=
 (Qhh (a:=.lst l) (b:=.lst l) (P:=True) h h ⟨fun _=>trivial,fun _=>rfl⟩).trans rfl
def tryS (k ek:Nat):OS->OS
 | .exc m ρ H=>if ek<ρ.length then .ok .next ((ρ.set k m).set ek uS) H else .stuck
 | o=>o
theorem QgB {C:Orc} {ρ:List AV} {H:AH} (b:List PS) (k ek:Nat):evS C (.tryR b k ek) ρ H=tryS k ek (evSs C b ρ H):=by
 rw[evS];cases evSs C b ρ H<;>rfl
theorem QfP {k ek:Nat} (f:Fl) (ρ:List AV) (H:AH):tryS k ek (.ok f ρ H)=.ok f ρ H:=rfl
theorem Qil {k ek:Nat} (m:AV) (ρ:List AV) (H:AH):tryS k ek (.exc m ρ H)=if ek<ρ.length then .ok .next ((ρ.set k m).set ek uS) H else .stuck:=rfl
theorem QgC (C:Orc) (a b c:Nat) (bd:List PS) (x y z:AV) (l ρ:List AV) (H:AH):forL C [a,b,c] false bd (.tup [x,y,z]::l) ρ H=match QaK [a,b,c] [x,y,z] ρ with | some ρ'=>forK C [a,b,c] false bd l (evSs C bd ρ' H) | none=>.stuck:=by
 have bt:bindT [a,b,c] false (.tup [x,y,z]) ρ=QaK [a,b,c] [x,y,z] ρ:=rfl;rw[forL,bt];cases QaK [a,b,c] [x,y,z] ρ with
 | none=>rfl
 | some ρ' =>
  dsimp only;cases evSs C bd ρ' H with
  | ok f ρ H=>cases f<;>rfl
  | _=>rfl
def DR (cu cv:Nat) (r s:Nat->Option Int):AV:=.lst ((List.range cu).flatMap fun j=>(List.range cv).map fun q=>sA (Qbe 0 [(r j,s q)]))
def dueL (rv cu cv:Nat) (U V:Nat->Nat->Option Int) (i:Nat):List AV:=(List.range i).flatMap fun a=>(List.range rv).map fun p=>DR cu cv (U a) (V p)
theorem Qry (x y:Option Int):sA (Qbe 0 [(x,y)])=qo (omul (cO x) (cO y)):=by
 cases x with
 | none=>rfl
 | some a =>
  cases y with
  | none=>rfl
  | some b =>
   show sA (some (0+a*b))=qo (some ((a:Rat)*(b:Rat)));rw[QmI,Int.zero_add];show qo (some (((a*b:Int)):Rat))=_;congr 2; simp
theorem QnF (ru rv cu cv:Nat) (U V:Nat->Nat->Option Int) (h3:0<rv) (h4:0<cv):dueL rv cu cv U V ru=rwj (ru*rv) (cu*cv) fun i j=>qo (omul (rO U (i / rv) (j / cv)) (rO V (i % rv) (j % cv))):=by
 unfold dueL rwj;rw[Qe8];have d1:∀i p,p<rv->(i*rv+p) / rv=i:=fun i p h=>by
  rw[Nat.mul_comm,Nat.mul_add_div h3,Nat.div_eq_of_lt h,Nat.add_zero]
 have d2:∀i p,p<rv->(i*rv+p) % rv=p:=fun i p h=>by
  rw[Nat.mul_comm,Nat.mul_add_mod,Nat.mod_eq_of_lt h]
 have d3:∀i p,p<cv->(i*cv+p) / cv=i:=fun i p h=>by
  rw[Nat.mul_comm,Nat.mul_add_div h4,Nat.div_eq_of_lt h,Nat.add_zero]
 have d4:∀i p,p<cv->(i*cv+p) % cv=p:=fun i p h=>by
  rw[Nat.mul_comm,Nat.mul_add_mod,Nat.mod_eq_of_lt h]
 congr 1;funext a;refine Qa5 fun p hp=>?_
 unfold DR;rw[Qe8];refine congrArg AV.lst ?_;congr 1;funext j;refine Qa5 fun q hq=>?_
 dsimp only;rw[Qry,d1 a p hp,d2 a p hp,d3 j q hq,d4 j q hq]
theorem Qlo {cu cv:Nat} {r s:Nat->Option Int} {g:AV->AV->AV}:((orow cu r).flatMap fun x=>(orow cv s).map (g x))=(List.range cu).flatMap fun j=>(List.range cv).map fun q=>g (oi (r j)) (oi (s q)):=by
 unfold orow;rw[List.flatMap_map];congr 1;funext j;rw[List.map_map]; rfl
theorem QgD (a b:Nat) (f:Nat->Nat->AV):((List.range a).flatMap fun j=>(List.range b).map fun q=>f j q).length=a*b:=by
 induction a with
 | zero=>simp
 | succ a ih=>rw[List.range_succ,List.flatMap_append,List.length_append,ih]; simp[Nat.succ_mul]
theorem QmK (hN:1≤N) (cu cv:Nat) (r s:Nat->Option Int) (hcu:cu≤3) (hcv:cv≤3) (hr:∀j,j<cu->E4 (r j)) (hs:∀j,j<cv->E4 (s j)) (u v L R:AV) (H:AH) :
  evE (RN N) [u,v,L,R,.cell 0,.lst (orow cu r),.lst (orow cv s),uS,uS,uS,uS,uS,uS,uS] D39 H=.ok (DR cu cv r s) H:=by
 have n1:cu*cv≤9:=Nat.mul_le_mul hcu hcv;have fl:((orow cu r).flatMap fun x=>(orow cv s).map fun y=>sA (Qbe 0 [(unI x,unI y)]))=(List.range cu).flatMap fun j=>(List.range cv).map fun q=>sA (Qbe 0 [(r j,s q)]):=by
  rw[Qlo];simp only[Qll]
 refine (Qgj (v:=.lst (orow cu r)) (l:=orow cu r) (m:=fun _=>orow cv s) (g:=fun x y=>sA (Qbe 0 [(unI x,unI y)])) (by clear hr hs; w_fin) rfl (by rw[fl,QgD]; omega) rfl fun x hx=>?_).trans (by rw[fl]; rfl)
 obtain⟨j,hj,rfl⟩:=List.mem_map.mp hx;refine⟨_,.lst (orow cv s),rfl,by clear hr hs hx hj; w_fin,rfl,fun y hy=>?_⟩;obtain⟨q,hq,rfl⟩:=List.mem_map.mp hy;refine⟨_,rfl,?_⟩;have su:=QhG hN [(r j,s q)] (fun p hp=>by
  obtain rfl:=List.mem_singleton.mp hp;exact⟨(hr j (by simpa using hj)).big,(hs q (by simpa using hq)).big⟩) H
 have e:[(r j,s q)].map pA=[.tup [oi (r j),oi (s q)]]:=rfl;rw[e] at su;have o1:=QnE (r j);have o2:=QnE (s q);simp only[Qll];clear hr hs hx hj hy hq e;w_fin
theorem QjR (hN:9≤N) (ru cu rv cv:Nat) (U V:Nat->Nat->Option Int) (u1:0<ru) (u2:0<cu) (u3:0<rv) (u4:0<cv) (w1:ru≤3) (w2:cu≤3) (w3:rv≤3) (w4:cv≤3)
  (hU:∀i j,i<ru->j<cu->E4 (U i j)) (hV:∀i j,i<rv->j<cv->E4 (V i j)) (H:AH) :
  (RN N).f 1101 [.lst (Qab ru cu U),.lst (Qab rv cv V)] H=.ok (.bool true) H:=by
 refine Qaa QdB (by omega) (ρ:=[.lst (Qab ru cu U),.lst (Qab rv cv V),uS,uS,uS,uS,uS,uS,uS,uS,uS,uS,uS,uS]) rfl (by simp[AV.ncs,AV.nc,Qa4]) (H':=[.lst (dueL rv cu cv U V ru)]) ?_ rfl H;have lu:=QbE (N:=N-1) (by omega) ru cu U w1 w2;have lv:=QbE (N:=N-1) (by omega) rv cv V w3 w4;have gu:=Qav (w:=cu) (R:=U) u1;have gv:=Qav (w:=cv) (R:=V) u3;have ku:=Qaz cu (U 0);have kv:=Qaz cv (V 0);have ou:=Qal ru cu U;have ov:=Qal rv cv V;have z1:ru≤1000000:=by omega
 have z2:cu≤1000000:=by omega
 have z3:rv≤1000000:=by omega
 have z4:cv≤1000000:=by omega
 have y1:ru<1000000:=by omega
 have y2:cu<1000000:=by omega
 have y3:rv<1000000:=by omega
 have y4:cv<1000000:=by omega
 obtain⟨ρ_1,H_1,e1,s5,s6,rfl,rfl⟩:=Qef (C:=RN (N-1)) (k:=5) (l:=Qab ru cu U) (b:=[.for_ [6] true D1 B16])
  (P:=fun k ρ H=>∃s5 s6,ρ=[.lst (Qab ru cu U),.lst (Qab rv cv V),mtx ru cu (rO U),mtx rv cv (rO V),.cell 0,s5,s6,uS,uS,uS,uS,uS,uS,uS]∧H=[.lst (dueL rv cu cv U V k)])
  (fun k x hx ρ H ⟨s5,s6,h1',h2'⟩=>by
   subst h1' h2';have hk:k<ru:=by have:=(List.getElem?_eq_some_iff.mp hx).1; rw[Qal] at this; exact this
   rw[Qav hk] at hx;obtain rfl:=(Option.some.inj hx).symm;obtain⟨ρ_2,H_2,e2,s7,rfl,rfl⟩:=Qef (C:=RN (N-1)) (k:=6) (l:=Qab rv cv V) (b:=B16)
    (P:=fun p ρ H=>∃s6,ρ=[.lst (Qab ru cu U),.lst (Qab rv cv V),mtx ru cu (rO U),mtx rv cv (rO V),.cell 0,.lst (orow cu (U k)),s6,uS,uS,uS,uS,uS,uS,uS]∧H=[.lst (dueL rv cu cv U V k++(List.range p).map fun p=>DR cu cv (U k) (V p))])
    (fun p x hx ρ H ⟨s6,h1',h2'⟩=>by
     subst h1' h2';have hp:p<rv:=by have:=(List.getElem?_eq_some_iff.mp hx).1; rw[Qal] at this; exact this
     rw[Qav hp] at hx;obtain rfl:=(Option.some.inj hx).symm;have cm:=fun H=>QmK (N:=N-1) (by omega) cu cv (U k) (V p) w2 w4 (fun j hj=>hU k j hk hj) (fun j hj=>hV p j hp hj) (.lst (Qab ru cu U)) (.lst (Qab rv cv V)) (mtx ru cu (rO U)) (mtx rv cv (rO V)) H
     have ll:(dueL rv cu cv U V k++(List.range p).map fun p=>DR cu cv (U k) (V p)).length≤100000:=by
      have:=QgD k rv fun a p=>DR cu cv (U a) (V p)
      rw[List.length_append,dueL,this,List.length_map,List.length_range];have hk3:k≤3:=by omega
      have:k*rv≤9:=Nat.mul_le_mul hk3 w3;omega
     refine⟨.next,_,_,?_,.inl rfl,.lst (orow cv (V p)),rfl,rfl⟩;simp only[List.range_succ,List.map_append,List.map_cons,List.map_nil,←List.append_assoc];clear hU hV hx hp hk u1 u2 u3 u4 w1 w2 w3 w4 lu lv gu gv;w_fin) (ρ:=[.lst (Qab ru cu U),.lst (Qab rv cv V),mtx ru cu (rO U),mtx rv cv (rO V),.cell 0,.lst (orow cu (U k)),s6,uS,uS,uS,uS,uS,uS,uS]) (H:=[.lst (dueL rv cu cv U V k)]) ⟨s6,rfl,by simp⟩
   have ed:dueL rv cu cv U V (k+1)=dueL rv cu cv U V k++(List.range rv).map fun p=>DR cu cv (U k) (V p):=by
    unfold dueL;rw[List.range_succ,List.flatMap_append];simp
   rw[Qal] at e2;refine⟨.next,_,_,?_,.inl rfl,.lst (orow cu (U k)),s7,rfl,rfl⟩;rw[ed];clear hU hV hx hk u1 u2 u3 u4 w1 w2 w3 w4 lu lv gu gv;w_fin) (ρ:=[.lst (Qab ru cu U),.lst (Qab rv cv V),mtx ru cu (rO U),mtx rv cv (rO V),.cell 0,uS,uS,uS,uS,uS,uS,uS,uS,uS]) (H:=[.lst []]) ⟨_,_,rfl,rfl⟩
 rw[Qal] at e1;have hoU:∀i j,i<ru->j<cu->ho 2000 (rO U i j):=fun i j hi hj=>(hU i j hi hj).ho
 have hoV:∀i j,i<rv->j<cv->ho 2000 (rO V i j):=fun i j hi hj=>(hV i j hi hj).ho
 have kr:=fun H=>Qif (N:=N-1) (by omega) (xu:=rO U) (xv:=rO V) ru cu rv cv (by omega) (by omega) (by omega) (by omega) u3 u4 hoU hoV H
 have q1:ru*rv≤9:=Nat.mul_le_mul w1 w3;have q2:cu*cv≤9:=Nat.mul_le_mul w2 w4;have sk:=fun H=>Qa0 (N:=N-1) (by omega) "double" (ru*rv) (cu*cv) (fun i j=>qo (omul (rO U (i / rv) (j / cv)) (rO V (i % rv) (j % cv)))) (by omega) (by omega) (fun _ _ _ _=>QbW _) H
 rw[←QnF ru rv cu cv U V u3 u4] at sk;have dd:AV.data 6 (.lst (dueL rv cu cv U V ru))=true:=by
  rw[QnF ru rv cu cv U V u3 u4]; exact Qe9 fun _ _ _ _=>QgA _
 have er0:rd [.lst (dueL rv cu cv U V ru)] (.cell 0)=.lst (dueL rv cu cv U V ru):=rfl;have c1:pCmp [.lst (dueL rv cu cv U V ru)] .ne (.lst (dueL rv cu cv U V ru)) (.cell 0)=some false :=
  (QjB (H:=[.lst (dueL rv cu cv U V ru)]) (a:=.lst (dueL rv cu cv U V ru)) (b:=.cell 0) (P:=False) dd (by rw[er0]; exact dd) ⟨fun h=>h er0.symm,False.elim⟩).trans rfl
 have tu:=fun H=>Qeq (N:=N-1) (by omega) ru cu U u1 w1 w2 H
 have tv:=fun H=>Qeq (N:=N-1) (by omega) rv cv V u3 w3 w4 H
 have stp1:∀y5 y6,∃t,evSs (RN (N-1)) B28
   [.lst (Qab ru cu U),.lst (Qab rv cv V),mtx ru cu (rO U),mtx rv cv (rO V),.cell 0,y5,y6,.kref 961,.lst (Qab cu ru fun i j=>U j i),.lst (Qab rv cv V),uS,uS,uS,uS] [.lst (dueL rv cu cv U V ru)] =
   .ok .next [.lst (Qab ru cu U),.lst (Qab rv cv V),mtx ru cu (rO U),mtx rv cv (rO V),.cell 0,y5,y6,.kref 961,.lst (Qab cu ru fun i j=>U j i),.lst (Qab rv cv V),t,uS,uS,uS] [.lst (dueL rv cu cv U V ru)]:=fun y5 y6=>by
  have g1:=Qav (w:=ru) (R:=fun i j=>U j i) u2;have l1:=Qaz ru fun j=>U j 0
  have l3:=Qal cu ru fun i j=>U j i
  by_cases hc:ru=rv
  ·subst hc
   have cr:=Qie (N:=N-1) (by omega) (xu:=rO U) (xv:=rO V) ru cu cv (by omega) (by omega) (by omega) hoU hoV (fun i j s hi hj hs=>Qlm (hU s i hs hi) (hV s j hs hj)) (fun i j s hi hj hs=>Qln (by omega) fun s' hs'=>⟨hU s' i (by omega) hi,hV s' j (by omega) hj⟩);have sh:=fun H=>Qa0 (N:=N-1) (by omega) "double" cu cv (fun i j=>qo (osum (fun s=>omul (rO U s i) (rO V s j)) ru)) (by omega) (by omega) (fun _ _ _ _=>QbW _) H
   have pr:=QcI (N:=N-1) (by omega) cu ru cv (fun i j=>U j i) V u1 w2 w1 w4 (fun i j hi hj=>hU j i hj hi) hV;have er:(rwj cu cv fun i j=>sA (Qbe 0 (prs ru (fun j=>U j i) fun s=>V s j)))=rwj cu cv fun i j=>qo (osum (fun s=>omul (rO U s i) (rO V s j)) ru):=Qjc fun i j _ _=>by
    rw[Qco (fun s=>U s i) (fun s=>V s j),QmI]
   rw[er] at pr;have c2:=fun H=>Qik (H:=H) (l:=rwj cu cv fun i j=>qo (osum (fun s=>omul (rO U s i) (rO V s j)) ru)) (Qe9 fun _ _ _ _=>QgA _)
   have dn:decide ((ru:Int)=ru)=true:=by simp
   refine⟨.lst (rwj cu cv fun i j=>qo (osum (fun s=>omul (rO U s i) (rO V s j)) ru)),?_⟩;clear hU hV hoU hoV u1 u2 u3 u4 w1 w2 w3 w4 kr sk dd er e1;w_fin;simp only[QgB];w_fin;simp only[QfP];w_fin
  ·have cr:=Qhy (N:=N-1) (by omega) (xu:=rO U) (xv:=rO V) ru cu rv cv (by omega) (by omega) (by omega) (by omega) hc
   have dn:decide ((ru:Int)=rv)=false:=by simp; omega
   refine⟨.str "non-conformable arguments",?_⟩;clear hU hV hoU hoV u1 u2 u3 u4 w1 w2 w3 w4 kr sk dd e1 hc;w_fin;simp only[QgB];w_fin;simp only[Qil];w_fin
 have stp2:∀y5 y6 t0,∃t,evSs (RN (N-1)) B28
   [.lst (Qab ru cu U),.lst (Qab rv cv V),mtx ru cu (rO U),mtx rv cv (rO V),.cell 0,y5,y6,.kref 968,.lst (Qab ru cu U),.lst (Qab cv rv fun i j=>V j i),t0,uS,uS,uS] [.lst (dueL rv cu cv U V ru)] =
   .ok .next [.lst (Qab ru cu U),.lst (Qab rv cv V),mtx ru cu (rO U),mtx rv cv (rO V),.cell 0,y5,y6,.kref 968,.lst (Qab ru cu U),.lst (Qab cv rv fun i j=>V j i),t,uS,uS,uS] [.lst (dueL rv cu cv U V ru)]:=fun y5 y6 t0=>by
  have g1:=Qav (w:=cu) (R:=U) u1;have l1:=Qaz cu (U 0);have l2:=Qal cv rv fun i j=>V j i
  by_cases hc:cu=cv
  ·subst hc
   have cr:=Qhz (N:=N-1) (by omega) (xu:=rO U) (xv:=rO V) cu ru rv (by omega) (by omega) (by omega) hoU hoV (fun i j s hi hj hs=>Qlm (hU i s hi hs) (hV j s hj hs)) (fun i j s hi hj hs=>Qln (by omega) fun s' hs'=>⟨hU i s' hi (by omega),hV j s' hj (by omega)⟩);have sh:=fun H=>Qa0 (N:=N-1) (by omega) "double" ru rv (fun i j=>qo (osum (fun s=>omul (rO U i s) (rO V j s)) cu)) (by omega) (by omega) (fun _ _ _ _=>QbW _) H
   have pr:=QcI (N:=N-1) (by omega) ru cu rv U (fun i j=>V j i) u2 w1 w2 w3 hU (fun i j hi hj=>hV j i hj hi);have er:(rwj ru rv fun i j=>sA (Qbe 0 (prs cu (U i) fun s=>V j s)))=rwj ru rv fun i j=>qo (osum (fun s=>omul (rO U i s) (rO V j s)) cu):=Qjc fun i j _ _=>by
    rw[Qco (fun s=>U i s) (fun s=>V j s),QmI]
   rw[er] at pr;have c2:=fun H=>Qik (H:=H) (l:=rwj ru rv fun i j=>qo (osum (fun s=>omul (rO U i s) (rO V j s)) cu)) (Qe9 fun _ _ _ _=>QgA _)
   have dn:decide ((cu:Int)=cu)=true:=by simp
   refine⟨.lst (rwj ru rv fun i j=>qo (osum (fun s=>omul (rO U i s) (rO V j s)) cu)),?_⟩;clear hU hV hoU hoV u1 u2 u3 u4 w1 w2 w3 w4 kr sk dd er e1;w_fin;simp only[QgB];w_fin;simp only[QfP];w_fin
  ·have cr:=Qgv (N:=N-1) (by omega) (xu:=rO U) (xv:=rO V) ru cu rv cv (by omega) (by omega) (by omega) (by omega) hc
   have dn:decide ((cu:Int)=cv)=false:=by simp; omega
   refine⟨.str "non-conformable arguments",?_⟩;clear hU hV hoU hoV u1 u2 u3 u4 w1 w2 w3 w4 kr sk dd e1 hc;w_fin;simp only[QgB];w_fin;simp only[Qil];w_fin
 obtain⟨t1,f1⟩:=stp1 s5 s6;obtain⟨t2,f2⟩:=stp2 s5 s6 t1;have cr:=Qhx (N:=N-1) (by omega) (xu:=rO U) ru cu (by omega) (by omega) hoU (fun i j s hi hj hs=>Qlm (hU s i hs hi) (hU s j hs hj)) (fun i j s hi hj hs=>Qln (by omega) fun s' hs'=>⟨hU s' i (by omega) hi,hU s' j (by omega) hj⟩);have sh:=fun H=>Qa0 (N:=N-1) (by omega) "double" cu cu (fun i j=>qo (osum (fun s=>omul (rO U s i) (rO U s j)) ru)) (by omega) (by omega) (fun _ _ _ _=>QbW _) H
 have pr:=QcI (N:=N-1) (by omega) cu ru cu (fun i j=>U j i) U u1 w2 w1 w2 (fun i j hi hj=>hU j i hj hi) hU;have er:(rwj cu cu fun i j=>sA (Qbe 0 (prs ru (fun j=>U j i) fun s=>U s j)))=rwj cu cu fun i j=>qo (osum (fun s=>omul (rO U s i) (rO U s j)) ru):=Qjc fun i j _ _=>by
  rw[Qco (fun s=>U s i) (fun s=>U s j),QmI]
 rw[er] at pr;have c2:=fun H=>QeE (H:=H) (l:=rwj cu cu fun i j=>qo (osum (fun s=>omul (rO U s i) (rO U s j)) ru)) (Qe9 fun _ _ _ _=>QgA _)
 have st1:∀y5 y6 L R a b,QaK [7,8,9] [.kref 961,a,b] [.lst (Qab ru cu U),.lst (Qab rv cv V),L,R,.cell 0,y5,y6,uS,uS,uS,uS,uS,uS,uS]=some [.lst (Qab ru cu U),.lst (Qab rv cv V),L,R,.cell 0,y5,y6,.kref 961,a,b,uS,uS,uS,uS]:=fun _ _ _ _ _ _=>rfl
 have st2:∀y5 y6 L R a b a' b' t,QaK [7,8,9] [.kref 968,a,b] [.lst (Qab ru cu U),.lst (Qab rv cv V),L,R,.cell 0,y5,y6,.kref 961,a',b',t,uS,uS,uS]=some [.lst (Qab ru cu U),.lst (Qab rv cv V),L,R,.cell 0,y5,y6,.kref 968,a,b,t,uS,uS,uS]:=fun _ _ _ _ _ _ _ _ _=>rfl
 clear hU hV hoU hoV u1 u2 u3 u4 w1 w2 w3 w4 dd er er0 q1 q2 stp1 stp2;simp only[Qa9];w_fin;simp only[QgC];w_fin;simp only[QgC];w_fin
theorem Qim {C:Orc} {t:List Nat} {one:Bool} {b:List PS} {H:AH} (P:List AV->Prop):∀(l:List AV),(∀x∈l,∀ρ,P ρ->∃ρ_1 ρ',bindT t one x ρ=some ρ_1∧evSs C b ρ_1 H=.ok .next ρ' H∧P ρ')->∀ρ,P ρ->∃ρ',forL C t one b l ρ H=.ok .next ρ' H∧P ρ'
 | [],_,ρ,p=>⟨ρ,rfl,p⟩
 | x::l,h,ρ,p=>by
  obtain⟨ρ_1,ρ_2,e1,e2,p2⟩:=h x (.head _) ρ p;obtain⟨ρ',e3,p3⟩:=Qim P l (fun y hy=>h y (.tail _ hy)) ρ_2 p2;refine⟨ρ',?_,p3⟩;rw[forL,e1];dsimp only;rw[e2];exact e3
abbrev eR (i j:Nat):Int:=((if true=true then i+1 else j+1:Nat):Int)
abbrev eC (i j:Nat):Int:=((if false=true then i+1 else j+1:Nat):Int)
abbrev eT (up dg:Bool) (i j:Nat):Int:=if ((if up=true then decide (i<j) else decide (j<i))||(dg&&decide (i=j)))=true then 1 else 0
theorem L_0 (hN:1≤N) (i j:Nat) (H:AH):(RN N).l 0 [.int i,.int j] H=.ok (.int (eR i j)) H:=by
 refine QfC U_0 hN (ρ:=[.int i,.int j]) rfl rfl (H':=[]) ?_ rfl H;w_fin;rfl
theorem L_1 (hN:1≤N) (i j:Nat) (H:AH):(RN N).l 1 [.int i,.int j] H=.ok (.int (eC i j)) H:=by
 refine QfC U_1 hN (ρ:=[.int i,.int j]) rfl rfl (H':=[]) ?_ rfl H;w_fin;rfl
theorem L_2 (hN:1≤N) (i j:Nat) (H:AH):(RN N).l 2 [.int i,.int j] H=.ok (.int (eT true false i j)) H:=by
 refine QfC U_2 hN (ρ:=[.int i,.int j]) rfl rfl (H':=[]) ?_ rfl H;have d:decide ((j:Int)>i)=decide (i<j):=decide_eq_decide.mpr (by omega);cases h:decide (i<j)<;>(unfold eT; w_fin)
theorem L_3 (hN:1≤N) (i j:Nat) (H:AH):(RN N).l 3 [.int i,.int j] H=.ok (.int (eT false false i j)) H:=by
 refine QfC U_3 hN (ρ:=[.int i,.int j]) rfl rfl (H':=[]) ?_ rfl H;have d:decide ((j:Int)<i)=decide (j<i):=decide_eq_decide.mpr (by omega);cases h:decide (j<i)<;>(unfold eT; w_fin)
theorem L_4 (hN:1≤N) (i j:Nat) (H:AH):(RN N).l 4 [.int i,.int j] H=.ok (.int (eT true true i j)) H:=by
 refine QfC U_4 hN (ρ:=[.int i,.int j]) rfl rfl (H':=[]) ?_ rfl H;have e:eT true true i j=if decide ((j:Int)≥i)=true then 1 else 0:=by
  unfold eT;by_cases h:i≤j
  ·rw[if_pos (by simp; omega),if_pos (by simp; omega)]
  ·rw[if_neg (by simp; omega),if_neg (by simp; omega)]
 rw[e];cases h:decide ((j:Int)≥i)<;>(clear e; w_fin)
theorem L_5 (hN:1≤N) (i j:Nat) (H:AH):(RN N).l 5 [.int i,.int j] H=.ok (.int (eT false true i j)) H:=by
 refine QfC U_5 hN (ρ:=[.int i,.int j]) rfl rfl (H':=[]) ?_ rfl H;have e:eT false true i j=if decide ((j:Int)≤i)=true then 1 else 0:=by
  unfold eT;by_cases h:j≤i
  ·rw[if_pos (by simp; omega),if_pos (by simp; omega)]
  ·rw[if_neg (by simp; omega),if_neg (by simp; omega)]
 rw[e];cases h:decide ((j:Int)≤i)<;>(clear e; w_fin)
def spl (t w:Nat):List AV:=(List.range t).flatMap fun (i:Nat)=>(List.range w).map fun (j:Nat)=>AV.tup [.int (i:Int),.int (j:Int)]
theorem Qlp {t w:Nat} {x:AV} (h:x∈spl t w):∃i j:Nat,i<t∧j<w∧x=.tup [.int i,.int j]:=by
 obtain⟨i,hi,h⟩:=List.mem_flatMap.mp h;obtain⟨j,hj,rfl⟩:=List.mem_map.mp h;exact⟨i,j,by simpa using hi,by simpa using hj,rfl⟩
theorem Qb4 {H:AH} {a:AV} (h:AV.data 6 a=true) (hr:rd H a=a):pCmp H .ne a a=some false :=
 (QjB (a:=a) (b:=a) (P:=False) (by rw[hr]; exact h) (by rw[hr]; exact h) ⟨fun h=>h rfl,False.elim⟩).trans rfl
theorem Qlq {C:Orc} (t w:Nat) (ht:t≤3) (hw:w≤3) (e:Nat->Nat->Int) (k:Nat) (hl:∀i j:Nat,i<t->j<w->∀H,C.l k [.int i,.int j] H=.ok (.int (e i j)) H) (u a b v ba sp du fn mo x y s13:AV) (H:AH) :
  ∃x' y',forL C [11,12] false B15 (spl t w)
   [u,a,b,v,ba,sp,du,fn,mo,.lam k,.lst (rwj t w fun i j=>.int (e i j)),x,y,s13,uS,uS,uS,uS,uS,uS] H =
   .ok .next [u,a,b,v,ba,sp,du,fn,mo,.lam k,.lst (rwj t w fun i j=>.int (e i j)),x',y',s13,uS,uS,uS,uS,uS,uS] H:=by
 obtain⟨ρ',e1,x',y',rfl⟩:=Qim (C:=C) (t:=[11,12]) (one:=false) (b:=B15) (H:=H)
  (fun ρ=>∃x y,ρ=[u,a,b,v,ba,sp,du,fn,mo,.lam k,.lst (rwj t w fun i j=>.int (e i j)),x,y,s13,uS,uS,uS,uS,uS,uS]) (spl t w) (fun z hz ρ ⟨x,y,h⟩=>by
   subst h;obtain⟨i,j,hi,hj,rfl⟩:=Qlp hz;have g:=Qjb (c:=w) (e:=fun i j=>.int (e i j)) hi;have g2:((List.range w).map fun j=>AV.int (e i j))[j]?=some (.int (e i j)):=by simp[hj]
   have l2:((List.range w).map fun j=>AV.int (e i j)).length≤1000000:=by simp; omega
   have l1:=QfJ t w fun i j=>.int (e i j)
   have t8:t≤1000000:=by omega
   have hh:=hl i j hi hj;have dn:decide (e i j=e i j)=true:=by simp
   refine⟨_,_,rfl,?_,.int i,.int j,rfl⟩;clear hl hi hj hz ht hw;w_fin) _ ⟨x,y,rfl⟩
 exact⟨x',y',e1⟩
theorem Qlr (hN:1≤N) (t w:Nat) (ht:t≤3) (hw:w≤3) (e:Nat->Nat->Int) (k fa:Nat) (kd:String) (more:List AV) (u v ba du:AV) (hv:setAV v=true) (hm:more.length≤10)
  (hf:∀H,(RN N).f fa [.none,.lst (.tup [.none,v]::more),.none] H=.ok (vec kd (cmj t w fun i j=>.int (e i j)) (dimA t w)) H)
  (hl:∀i j:Nat,i<t->j<w->∀H,(RN N).l k [.int i,.int j] H=.ok (.int (e i j)) H) (y10 x y:AV) (H:AH) :
  ∃y10' x' y',evSs (RN N) B26
   [u,.int t,.int w,v,ba,.lst (spl t w),du,.kref fa,.lst more,.lam k,y10,x,y,uS,uS,uS,uS,uS,uS,uS] H =
   .ok .next [u,.int t,.int w,v,ba,.lst (spl t w),du,.kref fa,.lst more,.lam k,y10',x',y',uS,uS,uS,uS,uS,uS,uS] H:=by
 obtain⟨x',y',e1⟩:=Qlq (C:=RN N) t w ht hw e k hl u (.int t) (.int w) v ba (.lst (spl t w)) du (.kref fa) (.lst more) x y uS H;have sh:=fun H=>Qa0 hN kd t w (fun i j=>.int (e i j)) (by omega) (by omega) (fun _ _ _ _=>rfl) H
 have h1:0+1+more.length≤1000000:=by omega
 have h2:1+more.length≤1000000:=by omega
 refine⟨.lst (rwj t w fun i j=>.int (e i j)),x',y',?_⟩;clear hl ht hw hm;w_fin
theorem st3 (a b c:AV) (u p q v ba sp du x7 x8 x9 x10 x11 x12:AV):QaK [7,8,9] [a,b,c] [u,p,q,v,ba,sp,du,x7,x8,x9,x10,x11,x12,uS,uS,uS,uS,uS,uS,uS]=some [u,p,q,v,ba,sp,du,a,b,c,x10,x11,x12,uS,uS,uS,uS,uS,uS,uS]:=rfl
theorem QmL (hN:5≤N) (t w:Nat) (xu:Nat->Nat->Option Rat) (u a b ba sp du s7 s8 s9 s10 s11 s12:AV) (H:AH) :
  evE (RN N) [u,a,b,mtx t w xu,ba,sp,du,s7,s8,s9,s10,s11,s12,uS,uS,uS,uS,uS,uS,uS] D16 H=.ok (.lst [.lst [.int t],.lst [.int w],.lst [.int t],.lst [.int w]]) H:=by
 have r1:=fun H=>Qrh hN (xu:=xu) t w H
 have r2:=fun H=>Qri hN (xu:=xu) t w H
 have r3:=fun H=>Qrj hN (xu:=xu) t w H
 have r4:=fun H=>Qrk hN (xu:=xu) t w H
 refine (Qah (v:=.lst [.kref 926,.kref 933,.kref 940,.kref 947]) (l:=[.kref 926,.kref 933,.kref 940,.kref 947]) (g:=fun x=>match x with | .kref 926=>.lst [.int t] | .kref 933=>.lst [.int w] | .kref 940=>.lst [.int t] | .kref 947=>.lst [.int w] | _=>.none) (by w_fin) rfl (by simp) rfl fun x hx=>?_).trans rfl
 simp only[List.mem_cons,List.not_mem_nil,or_false] at hx;rcases hx with rfl | rfl | rfl | rfl
 ·exact⟨_,rfl,by w_fin⟩
 ·exact⟨_,rfl,by w_fin⟩
 ·exact⟨_,rfl,by w_fin⟩
 ·exact⟨_,rfl,by w_fin⟩
theorem Qo8 {C:Orc} (t w:Nat) (ht:t≤3) (hw:w≤3) (U:Nat->Nat->Option Int) (v ba sp du s7 s8 s9 s10 s11 s12 s13:AV) (H:AH) :
  evE C [.lst (Qab t w U),.int t,.int w,v,ba,sp,du,s7,s8,s9,s10,s11,s12,s13,uS,uS,uS,uS,uS,uS] D32 H=.ok (.lst ((List.range (min t w)).map fun p=>qo (rO U p p))) H:=by
 have mc:=Qjd t w;have m9:min t w<1000000:=by omega
 refine (Qah (v:=.rng 0 (min t w:Nat)) (l:=(List.range (min t w)).map fun (i:Nat)=>AV.int (i:Int)) (g:=fun x=>match x with | .int i=>qo (rO U i.toNat i.toNat) | _=>.none) (by clear ht hw; w_fin) QaP (by simp; omega) rfl fun x hx=>?_).trans (by simp[newC,Function.comp_def])
 obtain⟨i,hi,rfl⟩:=List.mem_map.mp hx;have hi':i<min t w:=by simpa using hi
 have g1:=Qav (w:=w) (R:=U) (show i<t by omega);have g2:=Qb3 (w:=w) (r:=U i) (show i<w by omega);have l1:=Qal t w U;have l2:=Qaz w (U i);have t8:t≤1000000:=by omega
 have w8:w≤1000000:=by omega
 refine⟨_,rfl,?_⟩;show _=Out.ok (qo (cO (U i i))) H;cases hr:U i i with
 | none =>
  rw[hr] at g2;simp only[oi] at g2;simp only[cO,Option.map_none,qo];clear hx hi hi' hr ht hw mc;w_fin
 | some k =>
  rw[hr] at g2;simp only[oi] at g2;have ek:qo (cO (some k))=.tup [.int k,.int 1]:=rfl;rw[ek];clear hx hi hi' hr ht hw mc ek;w_fin
theorem Qrz {C:Orc} (t:Nat) (ht:t≤3) (u b v ba sp du s7 s8 s9 s10 s11 s12 s13:AV) (H:AH) :
  evE C [u,.int t,b,v,ba,sp,du,s7,s8,s9,s10,s11,s12,s13,uS,uS,uS,uS,uS,uS] D27 H=.ok (.lst (rwj t t fun i j=>if i=j then .tup [.int 1,.int 1] else .tup [.int 0,.int 1])) H:=by
 have t9:t<1000000:=by omega
 refine (Qah (v:=.rng 0 t) (l:=(List.range t).map fun (i:Nat)=>AV.int (i:Int)) (g:=fun x=>match x with | .int i=>.lst ((List.range t).map fun j=>if i.toNat=j then .tup [.int 1,.int 1] else .tup [.int 0,.int 1]) | _=>.none) (by clear ht; w_fin) QaP (by simp; omega) rfl fun x hx=>?_).trans (by simp[newC,rwj,Function.comp_def])
 obtain⟨i,hi,rfl⟩:=List.mem_map.mp hx;refine⟨_,rfl,(Qah (v:=.rng 0 t) (l:=(List.range t).map fun (i:Nat)=>AV.int (i:Int)) (g:=fun x=>match x with | .int j=>if i=j.toNat then .tup [.int 1,.int 1] else .tup [.int 0,.int 1] | _=>.none) (by clear ht hx hi; w_fin) QaP (by simp; omega) rfl fun x hx=>?_).trans (by simp[newC,Function.comp_def])⟩
 obtain⟨j,hj,rfl⟩:=List.mem_map.mp hx;refine⟨_,rfl,?_⟩;by_cases h:i=j
 ·have d:decide ((i:Int)=j)=true:=by simp[h]
  have e:(i=j)=True:=by simp[h]
  clear h hx hi hj ht;w_fin
 ·have d:decide ((i:Int)=j)=false:=by simp; omega
  have e:(i=j)=False:=by simp[h]
  clear h hx hi hj ht;w_fin
theorem Qo9 {C:Orc} (t w:Nat) (h1:0<t) (h2:0<w) (ht:t≤3) (hw:w≤3) (xu:Nat->Nat->Option Rat) (u a b v du s7 s8 s9 x y s13 sp:AV) (H:AH) :
  ∃x' y',forL C [11,12] false B17 (spl t w)
   [u,a,b,v,vec "double" (cmj t w fun i j=>qo (xu i j)) .none,sp,du,s7,s8,s9,.lst (rwj t w fun i j=>if i=j then ((cmj t w fun i j=>qo (xu i j))[i % (cmj t w fun i j=>qo (xu i j)).length]?).getD .none else .tup [.int 0,.int 1]),x,y,s13,uS,uS,uS,uS,uS,uS] H =
   .ok .next [u,a,b,v,vec "double" (cmj t w fun i j=>qo (xu i j)) .none,sp,du,s7,s8,s9,.lst (rwj t w fun i j=>if i=j then ((cmj t w fun i j=>qo (xu i j))[i % (cmj t w fun i j=>qo (xu i j)).length]?).getD .none else .tup [.int 0,.int 1]),x',y',s13,uS,uS,uS,uS,uS,uS] H:=by
 have ee:(rwj t w fun i j=>if i=j then ((cmj t w fun i j=>qo (xu i j))[i % (cmj t w fun i j=>qo (xu i j)).length]?).getD .none else .tup [.int 0,.int 1])=rwj t w fun i j=>if i=j then qo (xu i 0) else .tup [.int 0,.int 1]:=Qjc fun i j hi hj=>by
  split
  ·have hlt:i<t*w:=Nat.lt_of_lt_of_le hi (Nat.le_mul_of_pos_right t h2)
   have g:=cm_get (e:=fun i j=>qo (xu i j)) hi h2;rw[Nat.zero_mul,Nat.zero_add] at g;rw[QaA,Nat.mod_eq_of_lt hlt,g];rfl
  ·rfl
 rw[ee];obtain⟨ρ',e1,x',y',rfl⟩:=Qim (C:=C) (t:=[11,12]) (one:=false) (b:=B17) (H:=H)
  (fun ρ=>∃x y,ρ=[u,a,b,v,vec "double" (cmj t w fun i j=>qo (xu i j)) .none,sp,du,s7,s8,s9,.lst (rwj t w fun i j=>if i=j then qo (xu i 0) else .tup [.int 0,.int 1]),x,y,s13,uS,uS,uS,uS,uS,uS]) (spl t w) (fun z hz ρ ⟨x,y,h⟩=>by
   subst h;obtain⟨i,j,hi,hj,rfl⟩:=Qlp hz;have g:=Qjb (c:=w) (e:=fun i j=>if i=j then qo (xu i 0) else .tup [.int 0,.int 1]) hi;have l2:((List.range w).map fun j=>if i=j then qo (xu i 0) else AV.tup [.int 0,.int 1]).length≤1000000:=by simp; omega
   have l1:=QfJ t w fun i j=>if i=j then qo (xu i 0) else AV.tup [.int 0,.int 1]
   have t8:t≤1000000:=by omega
   have g5:=cm_get (e:=fun i j=>qo (xu i j)) hi h2;rw[Nat.zero_mul,Nat.zero_add] at g5;have tw:t*w≤9:=Nat.mul_le_mul ht hw;have cl:=QaA t (fun i j=>qo (xu i j)) w;have tw2:t*w≤1000000:=by omega
   refine⟨_,_,rfl,?_,.int i,.int j,rfl⟩;by_cases h:i=j
   ·have g2:((List.range w).map fun j=>if i=j then qo (xu i 0) else AV.tup [.int 0,.int 1])[j]?=some (qo (xu i 0)):=by simp[hj,h]
    have d:decide ((i:Int)=j)=true:=by simp[h]
    have c:=Qb4 (H:=H) (a:=qo (xu i 0)) (by cases xu i 0<;>rfl) (by cases xu i 0<;>rfl);clear h hi hj hz ht hw h1 h2 ee tw;w_fin
   ·have g2:((List.range w).map fun j=>if i=j then qo (xu i 0) else AV.tup [.int 0,.int 1])[j]?=some (.tup [.int 0,.int 1]):=by simp[hj,h]
    have d:decide ((i:Int)=j)=false:=by simp; omega
    have c:=Qb4 (H:=H) (a:=.tup [.int 0,.int 1]) rfl rfl;clear h hi hj hz ht hw h1 h2 ee tw;w_fin) _ ⟨x,y,rfl⟩
 exact⟨x',y',e1⟩
theorem QmM (hN:8≤N) (t w:Nat) (U:Nat->Nat->Option Int) (t1:0<t) (w1:0<w) (ht:t≤3) (hw:w≤3) (H:AH) :
  (RN N).f 1106 [.lst (Qab t w U)] H=.ok (.bool true) H:=by
 refine Qaa Qed (by omega) (ρ:=[.lst (Qab t w U),uS,uS,uS,uS,uS,uS,uS,uS,uS,uS,uS,uS,uS,uS,uS,uS,uS,uS,uS]) rfl (by simp[AV.ncs,AV.nc,Qa4]) (H':=[.dead,.dead,.dead,.dead,.dead,.dead,.dead]) ?_ rfl H;have lm:=QbE (N:=N-1) (by omega) t w U ht hw;have gu:=Qav (w:=w) (R:=U) t1;have ku:=Qaz w (U 0);have ou:=Qal t w U;have z1:t≤1000000:=by omega
 have z2:w≤1000000:=by omega
 have y1:t<1000000:=by omega
 have y2:w<1000000:=by omega
 have tw:t*w≤9:=Nat.mul_le_mul ht hw;have cl:=QaA t (fun i j=>qo (rO U i j)) w;have tw1:t*w≤100000:=by omega
 have tw2:t*w≤1000000:=by omega
 have inc:=Qac t w (rO U);have iV:=fun k l H=>QaX (N:=N-1) (by omega) k l H
 have i0:=iV "double" (cmj t w fun i j=>qo (rO U i j)) [];have i1:=iV "logical" [.int 1];clear iV;simp only[List.length_nil,List.nil_append] at i0;have sp:∀a b c,evE (RN (N-1)) [.lst (Qab t w U),.int t,.int w,a,b,c,uS,uS,uS,uS,uS,uS,uS,uS,uS,uS,uS,uS,uS,uS] D53 [.dead]=.ok (.lst (spl t w)) [.dead]:=fun a b c=>by
  have fl:(((List.range t).map fun (i:Nat)=>AV.int (i:Int)).flatMap fun x=>((List.range w).map fun (i:Nat)=>AV.int (i:Int)).map fun y=>AV.tup [x,y])=spl t w:=by
   unfold spl;rw[List.flatMap_map];congr 1;funext i;rw[List.map_map]; rfl
  refine (Qgj (v:=.rng 0 t) (l:=(List.range t).map fun (i:Nat)=>AV.int (i:Int)) (m:=fun _=>(List.range w).map fun (i:Nat)=>AV.int (i:Int)) (g:=fun x y=>.tup [x,y]) (by clear t1 w1 ht hw; w_fin) QaP (by rw[fl,spl,QgD]; omega) rfl fun x hx=>?_).trans (by rw[fl]; rfl)
  obtain⟨i,hi,rfl⟩:=List.mem_map.mp hx;refine⟨_,.rng 0 w,rfl,by clear t1 w1 ht hw hx hi; w_fin,QaP,fun y hy=>?_⟩;obtain⟨j,hj,rfl⟩:=List.mem_map.mp hy;refine⟨_,rfl,?_⟩;clear t1 w1 ht hw hx hi hy hj;w_fin
 have po:=fun e k fa kd more ba du hm hf hl y10 x y H=>Qlr (N:=N-1) (by omega) t w ht hw e k fa kd more (.lst (Qab t w U)) (mtx t w (rO U)) ba du rfl hm hf hl y10 x y H
 obtain⟨p0,q0,r0,o0⟩:=po eR 0 1024 "integer" [] (vec "double" (cmj t w fun i j=>qo (rO U i j)) .none) (.cell 1) (by simp) (fun H=>QoN (N:=N-1) (by omega) (xu:=rO U) t w (by omega) (by omega) H) (fun i j _ _ H=>L_0 (N:=N-1) (by omega) i j H) uS uS uS [.dead,.dead,.dead,.dead]
 obtain⟨p1,q1,r1,o1⟩:=po eC 1 1031 "integer" [] (vec "double" (cmj t w fun i j=>qo (rO U i j)) .none) (.cell 1) (by simp) (fun H=>QoO (N:=N-1) (by omega) (xu:=rO U) t w (by omega) (by omega) H) (fun i j _ _ H=>L_1 (N:=N-1) (by omega) i j H) p0 q0 r0 [.dead,.dead,.dead,.dead]
 obtain⟨p2,q2,r2,o2⟩:=po (eT true false) 2 1003 "logical" [] (vec "double" (cmj t w fun i j=>qo (rO U i j)) .none) (.cell 1) (by simp) (fun H=>QhA (N:=N-1) (by omega) (xu:=rO U) t w false (by omega) (by omega) H) (fun i j _ _ H=>L_2 (N:=N-1) (by omega) i j H) p1 q1 r1 [.dead,.dead,.dead,.dead]
 obtain⟨p3,q3,r3,o3⟩:=po (eT false false) 3 1010 "logical" [] (vec "double" (cmj t w fun i j=>qo (rO U i j)) .none) (.cell 1) (by simp) (fun H=>QhB (N:=N-1) (by omega) (xu:=rO U) t w false (by omega) (by omega) H) (fun i j _ _ H=>L_3 (N:=N-1) (by omega) i j H) p2 q2 r2 [.dead,.dead,.dead,.dead]
 obtain⟨p4,q4,r4,o4⟩:=po (eT true true) 4 1003 "logical" (dgA true) (vec "double" (cmj t w fun i j=>qo (rO U i j)) .none) (.cell 1) (by simp[dgA]) (fun H=>QhA (N:=N-1) (by omega) (xu:=rO U) t w true (by omega) (by omega) H) (fun i j _ _ H=>L_4 (N:=N-1) (by omega) i j H) p3 q3 r3 [.dead,.dead,.dead,.dead]
 obtain⟨p5,q5,r5,o5⟩:=po (eT false true) 5 1010 "logical" (dgA true) (vec "double" (cmj t w fun i j=>qo (rO U i j)) .none) (.cell 1) (by simp[dgA]) (fun H=>QhB (N:=N-1) (by omega) (xu:=rO U) t w true (by omega) (by omega) H) (fun i j _ _ H=>L_5 (N:=N-1) (by omega) i j H) p4 q4 r4 [.dead,.dead,.dead,.dead]
 clear po;simp only[dgA] at o4 o5;have i2:∀D,(RN (N-1)).f 289 [.cell 2,.str "logical",.lst [.int 1]] [.dead,.lst D,.obj 299 [] []]=.ok .none [.dead,.lst D,vecC "logical" [.int 1] .none]:=fun D=>i1 [.dead,.lst D]
 have i3:∀D,(RN (N-1)).f 289 [.cell 3,.str "logical",.lst [.int 1]] [.dead,.lst D,.dead,.obj 299 [] []]=.ok .none [.dead,.lst D,.dead,vecC "logical" [.int 1] .none]:=fun D=>i1 [.dead,.lst D,.dead]
 have i4:(RN (N-1)).f 289 [.cell 4,.str "double",.lst [.tup [.int t,.int 1]]] [.dead,.dead,.dead,.dead,.obj 299 [] []]=.ok .none [.dead,.dead,.dead,.dead,vecC "double" [.tup [.int t,.int 1]] .none]:=QaX (N:=N-1) (by omega) "double" [.tup [.int t,.int 1]] [.dead,.dead,.dead,.dead];have i5:(RN (N-1)).f 289 [.cell 5,.str "integer",.lst [.int t]] [.dead,.dead,.dead,.dead,.dead,.obj 299 [] []]=.ok .none [.dead,.dead,.dead,.dead,.dead,vecC "integer" [.int t] .none]:=QaX (N:=N-1) (by omega) "integer" [.int t] [.dead,.dead,.dead,.dead,.dead];have i6:(RN (N-1)).f 289 [.cell 6,.str "integer",.lst [.int w]] [.dead,.dead,.dead,.dead,.dead,.dead,.obj 299 [] []]=.ok .none [.dead,.dead,.dead,.dead,.dead,.dead,vecC "integer" [.int w] .none]:=QaX (N:=N-1) (by omega) "integer" [.int w] [.dead,.dead,.dead,.dead,.dead,.dead];clear i1
 have sz:=fun ba sp du s7 s8 s9 s10 s11 s12 H=>QmL (N:=N-1) (by omega) t w (rO U) (.lst (Qab t w U)) (.int t) (.int w) ba sp du s7 s8 s9 s10 s11 s12 H
 have cz:=fun H=>Qb4 (H:=H) (a:=.lst [.lst [.int t],.lst [.int w],.lst [.int t],.lst [.int w]]) rfl rfl
 have n1:=fun H=>QoP (N:=N-1) (by omega) (cmj t w fun i j=>qo (rO U i j)) inc H
 have n2:=fun H=>QoQ (N:=N-1) (by omega) (cmj t w fun i j=>qo (rO U i j)) inc H
 have n3:=fun H=>QoR (N:=N-1) (by omega) (cmj t w fun i j=>qo (rO U i j)) inc (by omega) H
 have n4:=fun H=>QoS (N:=N-1) (by omega) (cmj t w fun i j=>qo (rO U i j)) inc (by omega) H
 rw[cl] at n3;have m1:=QbK y1 y2;have c3:=fun H=>Qb4 (H:=H) (a:=.lst [.int ((t*w:Nat):Int)]) rfl rfl
 have c4:=fun H=>Qb4 (H:=H) (a:=.lst [.int 1]) rfl rfl
 have dg1:=fun H=>QoT (N:=N-1) (by omega) (xu:=rO U) t w (by omega) (by omega) H
 have pd:=fun v ba sp du s7 s8 s9 s10 s11 s12 s13 H=>Qo8 (C:=RN (N-1)) t w ht hw U v ba sp du s7 s8 s9 s10 s11 s12 s13 H
 have c5:=fun H=>Qb4 (H:=H) (a:=.lst ((List.range (min t w)).map fun p=>qo (rO U p p))) (by
  show List.all _ (AV.data 5)=true;rw[List.all_eq_true];intro x hx;obtain⟨p,_,rfl⟩:=List.mem_map.mp hx;cases rO U p p<;>rfl) rfl
 have dg2:=fun H=>QoU (N:=N-1) (by omega) t (by omega) H
 have inn:∀i j:Nat,(if i=j then (([.tup [.int 1,.int 1]]:List AV)[i % ([.tup [.int 1,.int 1]]:List AV).length]?).getD .none else .tup [.int 0,.int 1])=if i=j then AV.tup [.int 1,.int 1] else .tup [.int 0,.int 1]:=fun i j=>by simp[Nat.mod_one]
 simp only[inn] at dg2;have sh2:=fun H=>Qa0 (N:=N-1) (by omega) "double" t t (fun i j=>if i=j then AV.tup [.int 1,.int 1] else .tup [.int 0,.int 1]) (by omega) (by omega) (fun _ _ _ _=>by split<;>rfl) H
 have pe:=fun b v ba sp du s7 s8 s9 s10 s11 s12 s13 H=>Qrz (C:=RN (N-1)) t ht (.lst (Qab t w U)) b v ba sp du s7 s8 s9 s10 s11 s12 s13 H
 have c6:=fun H=>Qik (H:=H) (l:=rwj t t fun i j=>if i=j then AV.tup [.int 1,.int 1] else .tup [.int 0,.int 1]) (Qe9 fun _ _ _ _=>by split<;>rfl)
 have dg3:=fun H=>QoV (N:=N-1) (by omega) (cmj t w fun i j=>qo (rO U i j)) t w (by omega) (by omega) inc (by rw[cl]; exact Nat.mul_pos t1 w1) (by omega) H
 have sh3:=fun H=>Qa0 (N:=N-1) (by omega) "double" t w (fun i j=>if i=j then ((cmj t w fun i j=>qo (rO U i j))[i % (cmj t w fun i j=>qo (rO U i j)).length]?).getD .none else .tup [.int 0,.int 1]) (by omega) (by omega) (fun i j hi hj=>by
  split
  ·cases hx:(cmj t w fun i j=>qo (rO U i j))[i % (cmj t w fun i j=>qo (rO U i j)).length]? with
   | none=>rfl
   | some x=>exact Qgu inc x (List.mem_of_getElem? hx)
  ·rfl) H
 have la:=fun x y s13=>Qo9 (C:=RN (N-1)) t w t1 w1 ht hw (rO U) (.lst (Qab t w U)) (.int t) (.int w) (mtx t w (rO U)) (.cell 1) (.kref 1010) (.lst (dgA true)) (.lam 5) x y s13 (.lst (spl t w)) [.dead,.dead,.dead,.dead,.dead,.dead,.dead]
 obtain⟨xe,ye,la⟩:=la q5 r5 (.lst [.lst [.int t],.lst [.int w],.lst [.int t],.lst [.int w]]);simp only[dgA] at la;rw[cl] at dg3 sh3 la;clear t1 w1 ht hw tw inn;simp only[Qbq];w_fin
 iterate 6
  simp only[QgC,st3];w_fin
theorem Qin {C:Orc} {ρ:List AV} {H:AH} {o i:PE} {l:List AV} {k:Nat} (ho:evE C ρ o H=.ok (.lst l) H) (hi:evE C ρ i H=.ok (.int k) H) (hk:(k:Int)<1000000) (hl:l.length≤1000000):evE C ρ (.upto o i) H=.ok (.lst (l.take k)) H:=by
 rw[Qrg,ho,Out.bind_ok,hi,Out.bind_ok];have h0:(0:Int)≤k∧(k:Int)<1000000∧l.length≤1000000:=⟨Int.natCast_nonneg k,hk,hl⟩;show (if (0:Int)≤k∧(k:Int)<1000000∧l.length≤1000000 then Out.ok (AV.lst (l.take (k:Int).toNat)) H else Out.stuck)=_;rw[if_pos h0,Int.toNat_natCast]
theorem Qls {C:Orc} {ρ:List AV} {H:AH} {o i:PE} {l:List AV} {k:Nat} (ho:evE C ρ o H=.ok (.lst l) H) (hi:evE C ρ i H=.ok (.int k) H) (hk:(k:Int)≤l.length) (hl:l.length≤1000000):evE C ρ (.from o i) H=.ok (.lst (l.drop k)) H:=by
 rw[QfI,ho,Out.bind_ok,hi,Out.bind_ok];have h0:(0:Int)≤k∧(k:Int)≤l.length∧l.length≤1000000:=⟨Int.natCast_nonneg k,hk,hl⟩;show (if (0:Int)≤k∧(k:Int)≤l.length∧l.length≤1000000 then Out.ok (AV.lst (l.drop (k:Int).toNat)) H else Out.stuck)=_;rw[if_pos h0,Int.toNat_natCast]
theorem QrA {C:Orc} {ρ:List AV} {H:AH} {o i:PE} {l r:List AV} (ho:evE C ρ o H=.ok (.lst l) H) (hi:evE C ρ i H=.ok (.lst r) H) (hl:l.length+r.length≤1000000):evE C ρ (.cat o i) H=.ok (.lst (l++r)) H:=by
 rw[Qox,ho,Out.bind_ok,hi,Out.bind_ok];show (if l.length+r.length≤1000000 then Out.ok (AV.lst (l++r)) H else Out.stuck)=_;rw[if_pos hl]
def il (l:List Int):AV:=.lst (intl l)
theorem il_nc (l:List Int):(il l).nc=true:=Qo2 l
theorem Qeh {C:Orc} (n s:Nat) (hs:s<n) (hn:n≤3) (r0:AV) (rest:List (List Int)) (hl:∀l∈rest,l.length=n) (hr:rest.length≤3) (a b:AV) (H:AH) :
  evE C [.lst (r0::rest.map il),a,.int s,b,uS] D12 H=.ok (.lst (rest.map fun l=>il (l.take s++l.drop (s+1)))) H:=by
 refine (Qah (v:=.lst (rest.map il)) (l:=rest.map il) (g:=fun x=>match x with | .lst l=>.lst (l.take s++l.drop (s+1)) | _=>.none) ?_ rfl (by simp; omega) rfl fun x hx=>?_).trans ?_
 ·have h1:((rest.map il).length+1)≤1000000:=by simp; omega
  have h2:((1:Int)≤(((rest.map il).length+1:Nat):Int)):=by omega
  have h3:(0:Int)≤1:=by decide
  have h4:(1:Int).toNat=1:=rfl;clear hl hr hs hn;simp only[QfI];w_fin
 ·obtain⟨l,hl',rfl⟩:=List.mem_map.mp hx
  have e:=hl l hl';have le:(intl l).length=n:=by simp[intl,e]
  have e4:evE C [.lst (r0::rest.map il),a,.int s,b,.lst (intl l)] D4 H=.ok (.lst (intl l)) H:=by rw[Qfh]; rfl
  have e2:evE C [.lst (r0::rest.map il),a,.int s,b,.lst (intl l)] D2 H=.ok (.int s) H:=by rw[Qfh]; rfl
  have ai:evE C [.lst (r0::rest.map il),a,.int s,b,.lst (intl l)] (.bin .add D2 (.int 1)) H=.ok (.int ((s+1:Nat):Int)) H:=by
   clear hx hl hl' hr hs hn e le e2 e4;w_fin
  have u:=Qin e4 e2 (by omega) (by omega);have f:=Qls e4 ai (by omega) (by omega);refine⟨[.lst (r0::rest.map il),a,.int s,b,.lst (intl l)],rfl,?_⟩;exact QrA u f (by rw[List.length_take,List.length_drop]; omega)
 ·simp only[newC,List.map_map]
  refine congrArg (fun l=>Out.ok (AV.lst l) H) (List.map_congr_left fun l _=>?_);simp[il,intl,List.map_take,List.map_drop]
theorem pm0:pBin .mod (.int 0) (.int 2)=some (.int 0):=Qes (by decide) (Qaf (by decide))
theorem pm1:pBin .mod (.int 1) (.int 2)=some (.int 1):=Qes (by decide) (Qaf (by decide))
theorem pm2:pBin .mod (.int 2) (.int 2)=some (.int 0):=Qes (by decide) (Qaf (by decide))
theorem Qlt {H:AH} (x:AV) (l:List AV) (h:AV.data 6 (.lst (x::l))=true):pCmp H .eq (.lst (x::l)) (.lst [])=some false :=
 (Qhh (a:=.lst (x::l)) (b:=.lst []) (P:=False) h rfl ⟨(fun h=>nomatch h),False.elim⟩).trans rfl
theorem Qpa (l:List Int):AV.data 5 (il l)=true:=by
 show (intl l).all (AV.data 4)=true;rw[List.all_eq_true];intro x hx;obtain⟨a,_,rfl⟩:=List.mem_map.mp hx;rfl
theorem QgE (m:List (List Int)):AV.data 6 (.lst (m.map il))=true:=by
 show (m.map il).all (AV.data 5)=true;rw[List.all_eq_true];intro x hx;obtain⟨l,_,rfl⟩:=List.mem_map.mp hx;exact Qpa l
theorem ils_nc (m:List (List Int)):AV.ncs (m.map il)=true:=QaV fun x hx=>by
 obtain⟨l,_,rfl⟩:=List.mem_map.mp hx; exact il_nc l
theorem SG0 (hN:1≤N) (H:AH):(RN N).f 1084 [.lst []] H=.ok (.int 1) H:=by
 refine Qaa Qb1 hN (ρ:=[.lst [],uS,uS,uS,uS]) rfl rfl (H':=[]) ?_ rfl H;have e:pCmp [] .eq (.lst []) (.lst [])=some true:=QeE rfl;simp only[Qbd];w_fin
theorem SG1 (hN:2≤N) (a:Int) (ha:sm 3 a) (H:AH):(RN N).f 1084 [.lst [il [a]]] H=.ok (.int a) H:=by
 refine Qaa Qb1 (by omega) (ρ:=[.lst [il [a]],uS,uS,uS,uS]) rfl rfl (H':=[]) ?_ rfl H;have e:=fun H=>Qlt (H:=H) (il [a]) [] (QgE [[a]])
 have c0:=fun x y=>Qeh (C:=RN (N-1)) 1 0 (by decide) (by decide) (il [a]) [] (fun l h=>nomatch h) (by simp) x y []
 have s0:=SG0 (N:=N-1) (by omega) [];have p0:=pm0;have m1:=Qae (a:=1) (Qaf (by decide)) (ha.big (by decide));have m2:=Qae (b:=1) (show QaI (1*a) by rw[Int.one_mul]; exact ha.big (by decide)) (Qaf (by decide));have ad:=QdA 0 (1*a*1);have fin:(0+1*a*1:Int)=a:=by grind
 simp only[List.map_nil,Int.natCast_zero] at c0;have ei:il [a]=.lst [.int a]:=rfl;rw[ei] at e c0;rw[ei];clear ha;simp only[Qbd];w_fin
theorem SG2 (hN:3≤N) (a b c d:Int) (ha:sm 3 a) (hb:sm 3 b) (hc:sm 3 c) (hd:sm 3 d) (H:AH):(RN N).f 1084 [.lst [il [a,b],il [c,d]]] H=.ok (.int (det2 a b c d)) H:=by
 refine Qaa Qb1 (by omega) (ρ:=[.lst [il [a,b],il [c,d]],uS,uS,uS,uS]) rfl rfl (H':=[]) ?_ rfl H;have qe:=fun H=>Qlt (H:=H) (il [a,b]) [il [c,d]] (QgE [[a,b],[c,d]])
 have c0:∀x y,evE (RN (N-1)) [.lst [il [a,b],il [c,d]],x,.int 0,y,uS] D12 []=.ok (.lst [il [d]]) []:=fun x y=>Qeh (C:=RN (N-1)) 2 0 (by decide) (by decide) (il [a,b]) [[c,d]] (fun l h=>by simp only[List.mem_cons,List.not_mem_nil,or_false] at h; subst h; rfl) (by simp) x y []
 have s0:=SG1 (N:=N-1) (by omega) d hd [];have m0:=Qae (a:=1) (b:=a) (Qaf (by decide)) (ha.big (by decide));have n0:=Qae (a:=1*a) (b:=d) ((sm.mul (show sm 1 1 by unfold sm; decide) ha).big (by decide)) (sm.big (a:=7) (hd.mono (by decide)) (by decide))
 have a0:=QdA (0) (1*a*d);have c1:∀x y,evE (RN (N-1)) [.lst [il [a,b],il [c,d]],x,.int 1,y,uS] D12 []=.ok (.lst [il [c]]) []:=fun x y=>Qeh (C:=RN (N-1)) 2 1 (by decide) (by decide) (il [a,b]) [[c,d]] (fun l h=>by simp only[List.mem_cons,List.not_mem_nil,or_false] at h; subst h; rfl) (by simp) x y []
 have s1:=SG1 (N:=N-1) (by omega) c hc [];have m1:=Qae (a:=(-1)) (b:=b) (Qaf (by decide)) (hb.big (by decide));have n1:=Qae (a:=(-1)*b) (b:=c) ((sm.mul (show sm 1 (-1) by unfold sm; decide) hb).big (by decide)) (sm.big (a:=7) (hc.mono (by decide)) (by decide))
 have a1:=QdA (0+1*a*d) ((-1)*b*c);have fin:(0+1*a*d+(-1)*b*c:Int)=det2 a b c d:=by unfold det2; grind
 have p0:=pm0;have p1:=pm1;have p2:=pm2;have ei:il [a,b]=.lst [.int a,.int b]:=rfl;rw[ei] at qe c0 c1;rw[ei];clear ha hb hc hd;simp only[Qbd];w_fin
theorem SG3 (hN:4≤N) (a b c d e f g h i:Int) (ha:sm 3 a) (hb:sm 3 b) (hc:sm 3 c) (hd:sm 3 d) (he:sm 3 e) (hf:sm 3 f) (hg:sm 3 g) (hh:sm 3 h) (hi:sm 3 i) (H:AH):(RN N).f 1084 [.lst [il [a,b,c],il [d,e,f],il [g,h,i]]] H=.ok (.int (det3 a b c d e f g h i)) H:=by
 refine Qaa Qb1 (by omega) (ρ:=[.lst [il [a,b,c],il [d,e,f],il [g,h,i]],uS,uS,uS,uS]) rfl rfl (H':=[]) ?_ rfl H;have qe:=fun H=>Qlt (H:=H) (il [a,b,c]) [il [d,e,f],il [g,h,i]] (QgE [[a,b,c],[d,e,f],[g,h,i]])
 have c0:∀x y,evE (RN (N-1)) [.lst [il [a,b,c],il [d,e,f],il [g,h,i]],x,.int 0,y,uS] D12 []=.ok (.lst [il [e,f],il [h,i]]) []:=fun x y=>Qeh (C:=RN (N-1)) 3 0 (by decide) (by decide) (il [a,b,c]) [[d,e,f],[g,h,i]] (fun l h=>by simp only[List.mem_cons,List.not_mem_nil,or_false] at h; rcases h with rfl | rfl<;>rfl) (by simp) x y []
 have s0:=SG2 (N:=N-1) (by omega) e f h i he hf hh hi [];have m0:=Qae (a:=1) (b:=a) (Qaf (by decide)) (ha.big (by decide));have n0:=Qae (a:=1*a) (b:=(det2 e f h i)) ((sm.mul (show sm 1 1 by unfold sm; decide) ha).big (by decide)) (sm.big (a:=7) (((he.mul hi).sub (hf.mul hh))) (by decide))
 have a0:=QdA (0) (1*a*(det2 e f h i));have c1:∀x y,evE (RN (N-1)) [.lst [il [a,b,c],il [d,e,f],il [g,h,i]],x,.int 1,y,uS] D12 []=.ok (.lst [il [d,f],il [g,i]]) []:=fun x y=>Qeh (C:=RN (N-1)) 3 1 (by decide) (by decide) (il [a,b,c]) [[d,e,f],[g,h,i]] (fun l h=>by simp only[List.mem_cons,List.not_mem_nil,or_false] at h; rcases h with rfl | rfl<;>rfl) (by simp) x y []
 have s1:=SG2 (N:=N-1) (by omega) d f g i hd hf hg hi [];have m1:=Qae (a:=(-1)) (b:=b) (Qaf (by decide)) (hb.big (by decide));have n1:=Qae (a:=(-1)*b) (b:=(det2 d f g i)) ((sm.mul (show sm 1 (-1) by unfold sm; decide) hb).big (by decide)) (sm.big (a:=7) (((hd.mul hi).sub (hf.mul hg))) (by decide))
 have a1:=QdA (0+1*a*(det2 e f h i)) ((-1)*b*(det2 d f g i));have c2:∀x y,evE (RN (N-1)) [.lst [il [a,b,c],il [d,e,f],il [g,h,i]],x,.int 2,y,uS] D12 []=.ok (.lst [il [d,e],il [g,h]]) []:=fun x y=>Qeh (C:=RN (N-1)) 3 2 (by decide) (by decide) (il [a,b,c]) [[d,e,f],[g,h,i]] (fun l h=>by simp only[List.mem_cons,List.not_mem_nil,or_false] at h; rcases h with rfl | rfl<;>rfl) (by simp) x y []
 have s2:=SG2 (N:=N-1) (by omega) d e g h hd he hg hh [];have m2:=Qae (a:=1) (b:=c) (Qaf (by decide)) (hc.big (by decide));have n2:=Qae (a:=1*c) (b:=(det2 d e g h)) ((sm.mul (show sm 1 1 by unfold sm; decide) hc).big (by decide)) (sm.big (a:=7) (((hd.mul hh).sub (he.mul hg))) (by decide))
 have a2:=QdA (0+1*a*(det2 e f h i)+(-1)*b*(det2 d f g i)) (1*c*(det2 d e g h));have fin:(0+1*a*(det2 e f h i)+(-1)*b*(det2 d f g i)+1*c*(det2 d e g h):Int)=det3 a b c d e f g h i:=by unfold det3 det2; grind
 have p0:=pm0;have p1:=pm1;have p2:=pm2;have ei:il [a,b,c]=.lst [.int a,.int b,.int c]:=rfl;rw[ei] at qe c0 c1 c2;rw[ei];clear ha hb hc hd he hf hg hh hi;simp only[Qbd];w_fin
def dot:Nat->(Nat->Rat)->(Nat->Rat)->Rat
 | 0,_,_=>0
 | w+1,r,x=>dot w r x+r w*x w
theorem QjS {C:Orc}:∀(b a:Nat) (o u:AV) (H:AH),QaI b->evS C (.whl (.cmp .gt D3 (.int 0)) B3) [o,u,I a,I b] H=.ok .next [o,u,I (Nat.gcd b a),I 0] H:=by
 intro b
 induction b using Nat.strongRecOn with
 | ind b ih =>
  intro a o u H hb;by_cases h0:b=0
  ·subst h0
   rw[Nat.gcd_zero_left];exact QaW (by w_fin)
  ·have hlt:a % b<b:=Nat.mod_lt _ (Nat.pos_of_ne_zero h0)
   have hi:=ih (a % b) hlt b o u H (Nat.lt_trans (show ((a % b:Nat):Int).natAbs<(b:Int).natAbs by rw[Int.natAbs_natCast,Int.natAbs_natCast]; exact hlt) hb)
   have hp:decide ((b:Int)>0)=true:=by simp; omega
   have hm:Int.fmod (a:Int) (b:Int)=((a % b:Nat):Int):=by rw[Int.fmod_eq_emod_of_nonneg _ (by omega)]; rfl
   have hbz:(b:Int)≠0:=by omega
   have hmod:=Qes (a:=a) hbz hb;have hg:Nat.gcd (a % b) b=Nat.gcd b a:=by rw[Nat.gcd_rec b a]
   rw[hm] at hmod;rw[hg] at hi;refine QeB (ρ':=[o,u,I b,I ((a % b:Nat):Int)]) (H':=H) ?_ ?_ hi nofun
   ·clear ih hi hlt hbz hb h0
    w_fin
   ·clear ih hi hlt hbz hb h0
    w_fin
theorem Qpb (hN:1≤N) (o:Int) (u:Nat) (hu:u≠0) (hb:QaI u) (H:AH):(RN N).f 1062 [.int o,.int u] H=.ok (qr (Rat.divInt o u)) H:=by
 refine Qaa Qia hN (ρ:=[.int o,.int u,uS,uS]) rfl rfl (H':=[]) ?_ rfl H;have lp:=QjS (C:=RN (N-1)) u o.natAbs (.int o) (.int u) [] hb;rw[Nat.gcd_comm] at lp;have g0:((Nat.gcd o.natAbs u:Nat):Int)≠0:=fun q=>hu ((Nat.gcd_eq_zero_iff.mp (Int.natCast_eq_zero.mp q)).2)
 have gb:QaI ((Nat.gcd o.natAbs u:Nat):Int):=by
  have:=Nat.le_of_dvd (Nat.pos_of_ne_zero hu) (Nat.gcd_dvd_right o.natAbs u);exact Nat.lt_of_le_of_lt (by rw[Int.natAbs_natCast,Int.natAbs_natCast]; exact this) hb
 have d1:=QcW (a:=o) g0 gb;have d2:=QcW (a:=(u:Int)) g0 gb;rw[Qib _ _ hu];clear g0 gb hu hb;simp only[Qdz];w_fin
theorem Qpc (x:Rat):x*(x.den:Rat)=(x.num:Rat):=by
 have h:=Qax x;rw[Rat.divInt_eq_div] at h;have h2:(x.den:Rat)≠0:=fun h=>x.den_nz (by exact_mod_cast h)
 have e:(((x.den:Nat):Int):Rat)=(x.den:Rat):=rfl;rw[e] at h;grind
theorem QmN {o:Int} {u:Nat} {d:Rat} (hu:u≠0) (h:(o:Rat)=d*u):Rat.divInt o u=d:=by
 have h2:(u:Rat)≠0:=fun h=>hu (by exact_mod_cast h)
 rw[Rat.divInt_eq_div];have e:(((u:Nat):Int):Rat)=(u:Rat):=rfl;rw[e,h];grind
theorem QgF (hN:2≤N) (n q:Nat) (hn:n≤3) (h0:0<n) (hq':q≤3) (z b:Nat->Nat->Int) (X:Nat->Nat->Rat) (hz:∀i j,i<n->j<n->sm 3 (z i j)) (hX:∀i j,i<n->j<q->hq 213 (X i j))
  (hs:∀i j,i<n->j<q->dot n (fun c=>(z i c:Rat)) (fun c=>X c j)=(b i j:Rat)) (H:AH) :
  (RN N).f 1096 [.lst (Qab n n fun i j=>some (z i j)),.lst (rwj n q fun i j=>qr (X i j)),.lst (Qab n q fun i j=>some (b i j))] H=.ok (.bool true) H:=by
 refine Qaa Qhv (by omega) (ρ:=[.lst (Qab n n fun i j=>some (z i j)),.lst (rwj n q fun i j=>qr (X i j)),.lst (Qab n q fun i j=>some (b i j)),uS,uS,uS,uS,uS,uS,uS]) rfl (by simp[AV.ncs,AV.nc,Qa4,QjK (e:=fun i j=>qr (X i j)) fun _ _ _ _=>rfl]) (H':=[]) ?_ rfl H
 have n8:n≤1000000:=by omega
 have n9:n<1000000:=by omega
 have q8:q≤1000000:=by omega
 have q9:q<1000000:=by omega
 have l1:=Qal n n fun i j=>some (z i j)
 have l2:=QfJ n q fun i j=>qr (X i j)
 have l3:=Qal n q fun i j=>some (b i j)
 have gq:=Qav (w:=q) (R:=fun i j=>some (b i j)) h0;have lq:=Qaz q fun j=>some (b 0 j)
 obtain⟨ρ_1,H_1,e1,s3,s4,s5,s6,s7,s8,s9,rfl,rfl⟩:=QaE (C:=RN (N-1)) (k:=3) (n:=n) (b:=[.for_ [4] true (.range1 (.len D46)) B30])
  (P:=fun _ ρ H=>∃s3 s4 s5 s6 s7 s8 s9,ρ=[.lst (Qab n n fun i j=>some (z i j)),.lst (rwj n q fun i j=>qr (X i j)),.lst (Qab n q fun i j=>some (b i j)),s3,s4,s5,s6,s7,s8,s9]∧H=[])
  (fun i hi ρ H ⟨s3,s4,s5,s6,s7,s8,s9,h1',h2'⟩=>by
   subst h1' h2';obtain⟨ρ_2,H_2,e2,s4',s5',s6',s7',s8',s9',rfl,rfl⟩:=QaE (C:=RN (N-1)) (k:=4) (n:=q) (b:=B30)
    (P:=fun _ ρ H=>∃s4 s5 s6 s7 s8 s9,ρ=[.lst (Qab n n fun i j=>some (z i j)),.lst (rwj n q fun i j=>qr (X i j)),.lst (Qab n q fun i j=>some (b i j)),.int i,s4,s5,s6,s7,s8,s9]∧H=[])
    (fun j hj ρ H ⟨s4,s5,s6,s7,s8,s9,h1',h2'⟩=>by
     subst h1' h2';obtain⟨ρ_3,H_3,e3,o,u,s7',s8',s9',rfl,rfl,hu,ho',hbo,hbu⟩:=QaE (C:=RN (N-1)) (k:=7) (n:=n) (b:=B22)
      (P:=fun k ρ H=>∃(o:Int) (u:Nat) (s7 s8 s9:AV),ρ=[.lst (Qab n n fun i j=>some (z i j)),.lst (rwj n q fun i j=>qr (X i j)),.lst (Qab n q fun i j=>some (b i j)),.int i,.int j,.int o,.int u,s7,s8,s9]∧H=[]∧u≠0∧(o:Rat)=dot k (fun c=>(z i c:Rat)) (fun c=>X c j)*u∧sm (230*k+1) o∧sm (230*k+1) u)
      (fun k hk ρ H ⟨o,u,s7,s8,s9,h1',h2',hu,ho',hbo,hbu⟩=>by
       subst h1' h2';have hXk:=hX k j hk hj;have sn:sm 213 (X k j).num:=hXk.1;have sd:sm 213 ((X k j).den:Int):=by unfold sm; rw[Int.natAbs_natCast]; exact hXk.2
       have sz:=hz i k hi hk;have bg:∀{a:Nat} {x:Int},sm a x->a≤4000->QaI x:=fun h ha=>Nat.lt_of_lt_of_le h (Nat.pow_le_pow_right (by decide) ha)
       refine⟨.next,[.lst (Qab n n fun i j=>some (z i j)),.lst (rwj n q fun i j=>qr (X i j)),.lst (Qab n q fun i j=>some (b i j)),.int i,.int j,.int (o*(X k j).den+z i k*(X k j).num*u),.int ((u*(X k j).den:Nat):Int),.int k,.int (X k j).num,.int (X k j).den],[],?_,.inl rfl,_,_,_,_,_,rfl,rfl,?_,?_,?_,?_⟩
       ·have g1:=Qjb (c:=q) (e:=fun i j=>qr (X i j)) hk
        have g2:((List.range q).map fun j=>qr (X k j))[j]?=some (qr (X k j)):=by simp[hj]
        have l4:((List.range q).map fun j=>qr (X k j)).length≤1000000:=by simp; omega
        have g3:=Qav (w:=n) (R:=fun i j=>some (z i j)) hi;have g4:(orow n fun j=>some (z i j))[k]?=some (.int (z i k)):=Qb3 hk;have l5:=Qaz n fun j=>some (z i j)
        have m1:=Qae (bg hbo (by omega)) (bg sd (by decide));have m2:=Qae (bg sz (by decide)) (bg sn (by decide));have m3:=Qae (bg (sz.mul sn) (by decide)) (bg hbu (by omega));have m4:pBin .mul (.int (u:Int)) (.int ((X k j).den:Int))=some (.int ((u*(X k j).den:Nat):Int)):=Qae (bg hbu (by omega)) (bg sd (by decide))
        have ad:=QdA (o*(X k j).den) (z i k*(X k j).num*u);clear hz hX hs hi hj hk hXk sn sd sz bg hu ho' hbo hbu hn h0 hq';w_fin
       ·exact Nat.mul_ne_zero hu (X k j).den_nz
       ·have hd:=Qpc (X k j)
        have e1:((o*(X k j).den+z i k*(X k j).num*u:Int):Rat)=(o:Rat)*((X k j).den:Rat)+(z i k:Rat)*((X k j).num:Rat)*(u:Rat):=by push_cast; rfl
        have e2:((u*(X k j).den:Nat):Rat)=(u:Rat)*((X k j).den:Rat):=by push_cast; rfl
        rw[e1,e2,ho',dot,←hd];grind
       ·refine ((hbo.mul sd).mono (show _≤230*k+1+213+3 by omega)).add (((sz.mul sn).mul hbu).mono (by omega)) |>.mono (by omega)
       ·have:=hbu.mul sd
        exact this.mono (by omega)) (ρ:=[.lst (Qab n n fun i j=>some (z i j)),.lst (rwj n q fun i j=>qr (X i j)),.lst (Qab n q fun i j=>some (b i j)),.int i,.int j,.int 0,.int 1,s7,s8,s9]) (H:=[]) ⟨0,1,s7,s8,s9,rfl,rfl,by decide,by rw[dot]; grind,by unfold sm; decide,by unfold sm; decide⟩
     have rt:=Qpb (N:=N-1) (by omega) o u hu (Nat.lt_of_lt_of_le hbu (Nat.pow_le_pow_right (by decide) (show 230*n+1≤4000 by omega))) []
     rw[QmN hu ho',hs i j hi hj] at rt;have rt2:(RN (N-1)).f 1062 [.int o,.int u] []=.ok (.tup [.int (b i j),.int 1]) []:=rt;have cn:=Qb4 (H:=[]) (a:=.tup [.int (b i j),.int 1]) rfl rfl;have g3:=Qav (w:=q) (R:=fun i j=>some (b i j)) hi;have g4:(orow q fun j=>some (b i j))[j]?=some (.int (b i j)):=Qb3 hj;have l5:=Qaz q fun j=>some (b i j)
     refine⟨.next,_,_,?_,.inl rfl,.int j,.int o,.int u,s7',s8',s9',rfl,rfl⟩;clear hz hX hs hi hj hu ho' hbo hbu hn h0 hq' rt;w_fin) (ρ:=[.lst (Qab n n fun i j=>some (z i j)),.lst (rwj n q fun i j=>qr (X i j)),.lst (Qab n q fun i j=>some (b i j)),.int i,s4,s5,s6,s7,s8,s9]) (H:=[]) ⟨_,_,_,_,_,_,rfl,rfl⟩
   refine⟨.next,_,_,?_,.inl rfl,.int i,s4',s5',s6',s7',s8',s9',rfl,rfl⟩;clear hz hX hs hi hn h0 hq';w_fin) (ρ:=[.lst (Qab n n fun i j=>some (z i j)),.lst (rwj n q fun i j=>qr (X i j)),.lst (Qab n q fun i j=>some (b i j)),uS,uS,uS,uS,uS,uS,uS]) (H:=[]) ⟨_,_,_,_,_,_,_,rfl,rfl⟩
 clear hz hX hs hn h0 hq';simp only[QcU];w_fin
def ir (w:Nat) (r:Nat->Int):List AV:=(List.range w).map fun j=>.int (r j)
def irw (w:Nat) (r:Nat->Int):AV:=.lst (ir w r)
theorem QfQ (w:Nat) (r:Nat->Int):(ir w r).length=w:=by simp[ir]
theorem Qfa {w j:Nat} {r:Nat->Int} (h:j<w):(ir w r)[j]?=some (.int (r j)):=by simp[ir,h]
theorem ir_nc (w:Nat) (r:Nat->Int):AV.ncs (ir w r)=true:=QaV fun x hx=>by
 obtain⟨j,_,rfl⟩:=List.mem_map.mp hx; rfl
theorem QrB (w:Nat) (L:List (Nat->Int)):AV.ncs (L.map (irw w))=true:=QaV fun x hx=>by
 obtain⟨r,_,rfl⟩:=List.mem_map.mp hx; exact ir_nc w r
def ent:AV->Nat->Int
 | .lst l,s=>match l[s]? with | some (.int k)=>k | _=>0
 | _,_=>0
theorem Qc5 {w s:Nat} {r:Nat->Int} (h:s<w):ent (irw w r) s=r s:=by
 show (match (ir w r)[s]? with | some (.int k)=>k | _=>0)=r s
 rw[Qfa h]
def fnd (L:List (Nat->Int)) (s:Nat):List (Nat->Int):=L.filter fun r=>!decide (r s=0)
def zr (L:List (Nat->Int)) (s:Nat):List (Nat->Int):=L.filter fun r=>decide (r s=0)
def lmr (h:Nat->Int) (s:Nat) (r:Nat->Int):Nat->Int:=fun e=>r e*h s-h e*r s
def elm (L:List (Nat->Int)) (s:Nat) (h:Nat->Int) (t:List (Nat->Int)):List (Nat->Int):=zr L s++t.map (lmr h s)
def mst (L0:List (Nat->Int)):Nat->List (Nat->Int) × Nat
 | 0=>(L0,0)
 | s+1=>match fnd (mst L0 s).1 s with
  | []=>mst L0 s
  | h::t=>(elm (mst L0 s).1 s h t,(mst L0 s).2+1)
def mb:Nat->Nat
 | 0=>3
 | s+1=>mb s+mb s+1
theorem Qlu (s:Nat):mb s≤mb (s+1):=by show mb s≤mb s+mb s+1; omega
theorem QnG (L:List (Nat->Int)) (s:Nat):(zr L s).length+(fnd L s).length=L.length:=by
 unfold zr fnd
 induction L with
 | nil=>rfl
 | cons r L ih=>rw[List.filter_cons,List.filter_cons]; cases decide (r s=0)<;>simp<;>omega
theorem Qlv (L0:List (Nat->Int)):∀s,(mst L0 s).1.length≤L0.length
 | 0=>Nat.le_refl _
 | s+1=>by
  have ih:=Qlv L0 s;rw[mst];cases hf:fnd (mst L0 s).1 s with
  | nil=>exact ih
  | cons h t =>
   have:=QnG (mst L0 s).1 s;rw[hf] at this;simp only[elm,List.length_append,List.length_map];simp only[List.length_cons] at this;omega
theorem QnH {L0:List (Nat->Int)} {w:Nat} (h:∀r∈L0,∀j,j<w->sm 3 (r j)):∀s,s≤w->∀r∈(mst L0 s).1,∀j,j<w->sm (mb s) (r j)
 | 0,_=>h
 | s+1,hs=>by
  have ih:=QnH h s (by omega);rw[mst];cases hf:fnd (mst L0 s).1 s with
  | nil=>exact fun r hr j hj=>(ih r hr j hj).mono (Qlu s)
  | cons hd t =>
   intro r hr j hj;have mem:∀r∈hd::t,r∈(mst L0 s).1:=fun r hr=>(List.mem_filter.mp (hf ▸ hr:r∈fnd (mst L0 s).1 s)).1
   rcases List.mem_append.mp hr with hr | hr
   ·exact (ih r (List.mem_filter.mp hr).1 j hj).mono (Qlu s)
   ·obtain⟨r',hr',rfl⟩:=List.mem_map.mp hr
    have a:=ih r' (mem r' (.tail _ hr'));have b:=ih hd (mem hd (.head _));exact ((a j hj).mul (b s (by omega))).sub ((b j hj).mul (a s (by omega)))
theorem Qfp {w s:Nat} (hs:s<w) (L:List (Nat->Int)):((L.map (irw w)).filter fun x=>!decide (ent x s=0))=(fnd L s).map (irw w):=by
 rw[List.filter_map];congr 1;exact List.filter_congr fun r _=>by simp only[Function.comp,Qc5 hs]
theorem Qfq {w s:Nat} (hs:s<w) (L:List (Nat->Int)):((L.map (irw w)).filter fun x=>decide (ent x s=0))=(zr L s).map (irw w):=by
 rw[List.filter_map];congr 1;exact List.filter_congr fun r _=>by simp only[Function.comp,Qc5 hs]
theorem Qpd {H:AH} (w:Nat) (r:Nat->Int) (l:List (Nat->Int)):pCmp H .eq (.lst (irw w r::l.map (irw w))) (.lst [])=some false:=by
 refine (Qhh (a:=.lst (irw w r::l.map (irw w))) (b:=.lst []) (P:=False) ?_ rfl ⟨(fun h=>nomatch h),False.elim⟩).trans rfl;show List.all _ (AV.data 5)=true;rw[List.all_eq_true];have hd:∀r,AV.data 5 (irw w r)=true:=fun r=>by
  show (ir w r).all (AV.data 4)=true;rw[List.all_eq_true];intro x hx;obtain⟨j,_,rfl⟩:=List.mem_map.mp hx;rfl
 intro x hx;rcases List.mem_cons.mp hx with rfl | hx
 ·exact hd r
 ·obtain⟨r',_,rfl⟩:=List.mem_map.mp hx
  exact hd r'
theorem Qlw {C:Orc} (w:Nat) (hw:w≤3) (L:List (Nat->Int)) (hL:L.length≤3) (H:AH):evE C [.lst (L.map (irw w)),uS,uS,uS,uS,uS,uS,uS,uS,uS,uS] D107 H=.ok (.lst (L.map (irw w))) H:=by
 refine (Qah (v:=.lst (L.map (irw w))) (l:=L.map (irw w)) (g:=fun x=>x) (by w_fin) rfl (by simp; omega) rfl fun x hx=>?_).trans (by simp only[newC,List.map_id']; rfl)
 obtain⟨r,hr,rfl⟩:=List.mem_map.mp hx;have l2:(ir w r).length≤100000:=by rw[QfQ]; omega
 refine⟨_,rfl,?_⟩;simp only[irw];clear hx hr hw hL;w_fin
theorem QjT {C:Orc} (w s:Nat) (hs:s<w) (hw:w≤3) (L:List (Nat->Int)) (hL:L.length≤3) (a b x4 x5:AV) (H:AH):evE C [a,.lst (L.map (irw w)),b,.int s,x4,x5,uS,uS,uS,uS,uS] D85 H=.ok (.lst ((fnd L s).map (irw w))) H:=by
 refine (QcB (v:=.lst (L.map (irw w))) (l:=L.map (irw w)) (g:=fun x=>x) (p:=fun x=>!decide (ent x s=0)) (by clear hs hw hL; w_fin) rfl (by simp; omega) rfl fun x hx=>?_).trans (by simp only[Qfp hs,newC,List.map_id']; rfl)
 obtain⟨r,hr,rfl⟩:=List.mem_map.mp hx;have g:=Qfa (r:=r) hs;have l2:(ir w r).length≤1000000:=by rw[QfQ]; omega
 rw[Qc5 hs];refine⟨_,rfl,?_,fun _=>?_⟩
 ·simp only[irw]
  clear hx hr hs hw hL;w_fin
 ·simp only[irw]
  clear hx hr hs hw hL;w_fin
theorem Qlx {C:Orc} (w s:Nat) (hs:s<w) (hw:w≤3) (L:List (Nat->Int)) (hL:L.length≤3) (a b x4 x5:AV) (H:AH):evE C [a,.lst (L.map (irw w)),b,.int s,x4,x5,uS,uS,uS,uS,uS] D84 H=.ok (.lst ((zr L s).map (irw w))) H:=by
 refine (QcB (v:=.lst (L.map (irw w))) (l:=L.map (irw w)) (g:=fun x=>x) (p:=fun x=>decide (ent x s=0)) (by clear hs hw hL; w_fin) rfl (by simp; omega) rfl fun x hx=>?_).trans (by simp only[Qfq hs,newC,List.map_id']; rfl)
 obtain⟨r,hr,rfl⟩:=List.mem_map.mp hx;have g:=Qfa (r:=r) hs;have l2:(ir w r).length≤1000000:=by rw[QfQ]; omega
 rw[Qc5 hs];refine⟨_,rfl,?_,fun _=>?_⟩
 ·simp only[irw]
  clear hx hr hs hw hL;w_fin
 ·simp only[irw]
  clear hx hr hs hw hL;w_fin
theorem Qly {C:Orc} (w s:Nat) (hs:s<w) (hw:w≤3) (h:Nat->Int) (t:List (Nat->Int)) (ht:t.length≤3) (hh:∀j,j<w->sm 31 (h j)) (hr:∀r∈t,∀j,j<w->sm 31 (r j)) (a b c:AV) (H:AH) :
  evE C [a,c,b,.int s,.lst (irw w h::t.map (irw w)),irw w h,uS,uS,uS,uS,uS] D19 H=.ok (.lst ((t.map (lmr h s)).map (irw w))) H:=by
 have e4:evE C [a,c,b,.int s,.lst (irw w h::t.map (irw w)),irw w h,uS,uS,uS,uS,uS] D4 H=.ok (.lst (irw w h::t.map (irw w))) H:=by rw[Qfh]; rfl
 have ei:evE C [a,c,b,.int s,.lst (irw w h::t.map (irw w)),irw w h,uS,uS,uS,uS,uS] (.int 1) H=.ok (.int ((1:Nat):Int)) H:=Qmf 1;refine (Qah (v:=.lst (t.map (irw w))) (l:=t.map (irw w)) (g:=fun x=>.lst ((List.range w).map fun e=>.int (ent x e*h s-h e*ent x s))) (Qls e4 ei (by simp; omega) (by simp; omega)) rfl (by simp; omega) rfl fun x hx=>?_).trans ?_
 ·obtain⟨r,hrt,rfl⟩:=List.mem_map.mp hx
  have lh:=QfQ w h;have w8:w≤1000000:=by omega
  have w9:w<1000000:=by omega
  refine⟨_,rfl,(Qah (v:=.rng 0 w) (l:=(List.range w).map fun (i:Nat)=>AV.int (i:Int)) (g:=fun x=>match x with | .int e=>.int (r e.toNat*h s-h e.toNat*r s) | _=>.none) (by simp only[irw]; clear hx hrt hs hw hh hr ht e4 ei; w_fin) QaP (by simp; omega) rfl fun x hx=>?_).trans ?_⟩
  ·obtain⟨e,he,rfl⟩:=List.mem_map.mp hx
   have he':e<w:=by simpa using he
   have g1:=Qfa (r:=r) he';have g2:=Qfa (r:=r) hs;have g3:=Qfa (r:=h) he';have g4:=Qfa (r:=h) hs;have lr:=QfQ w r;have m1:=Qae ((hr r hrt e he').big (by decide)) ((hh s hs).big (by decide));have m2:=Qae ((hh e he').big (by decide)) ((hr r hrt s hs).big (by decide));refine⟨_,rfl,?_⟩;simp only[irw];clear hx hrt hs hw hh hr ht e4 ei he he';w_fin
  ·simp only[newC,List.map_map,Function.comp_def,Int.toNat_natCast,Bool.false_eq_true,if_false]
   refine congrArg (fun l=>Out.ok (AV.lst l) H) (Qa5 fun e he=>?_);rw[Qc5 he,Qc5 hs]
 ·simp only[newC,List.map_map,Function.comp_def,Bool.false_eq_true,if_false]
  refine congrArg (fun l=>Out.ok (AV.lst l) H) (List.map_congr_left fun r _=>?_);refine congrArg AV.lst (Qa5 fun e he=>?_);rw[Qc5 he,Qc5 hs];rfl
theorem QrC (hN:1≤N) (w:Nat) (hw:w≤3) (r0:Nat->Int) (L':List (Nat->Int)) (hL:L'.length≤2) (hr:∀r∈r0::L',∀j,j<w->sm 3 (r j)) (H:AH):(RN N).f 1089 [.lst ((r0::L').map (irw w))] H=.ok (.int ((mst (r0::L') w).2:Nat)) H:=by
 refine Qaa QjH hN (ρ:=[.lst ((r0::L').map (irw w)),uS,uS,uS,uS,uS,uS,uS,uS,uS,uS]) rfl (by simp only[AV.ncs,AV.nc,QrB]; rfl) (H':=[]) ?_ rfl H
 have cp:=Qlw (C:=RN (N-1)) w hw (r0::L') (by simp; omega) [];have l0:=QfQ w r0;have l1:((r0::L').map (irw w)).length≤1000000:=by simp; omega
 have g0:((r0::L').map (irw w))[0]?=some (.lst (ir w r0)):=rfl;have w8:w≤1000000:=by omega
 have w9:w<1000000:=by omega
 obtain⟨L,hLe⟩:∃L,L=r0::L':=⟨_,rfl⟩;have hl3:L.length≤3:=by rw[hLe]; simp; omega
 rw[←hLe] at cp l1 g0 hr ⊢;obtain⟨ρ_1,H_1,e1,s3,s4,s5,rfl,rfl⟩:=QaE (C:=RN (N-1)) (k:=3) (n:=w) (b:=B31)
  (P:=fun s ρ H=>∃s3 s4 s5,ρ=[.lst (L.map (irw w)),.lst ((mst L s).1.map (irw w)),.int ((mst L s).2:Nat),s3,s4,s5,uS,uS,uS,uS,uS]∧H=[])
  (fun s hs ρ H ⟨s3,s4,s5,h1',h2'⟩=>by
   subst h1' h2';have ml:=Nat.le_trans (Qlv L s) hl3;have ms:=QnH hr s (Nat.le_of_lt hs);have b31:mb s≤31:=by
    have:s≤2:=by omega
    match s,this with
    | 0,_=>decide
    | 1,_=>decide
    | 2,_=>decide
   have fl:=QnG (mst L s).1 s;have fo:=fun x4 x5=>QjT (C:=RN (N-1)) w s hs hw (mst L s).1 ml (.lst (L.map (irw w))) (.int ((mst L s).2:Nat)) x4 x5 []
   cases hf:fnd (mst L s).1 s with
   | nil =>
    have es:mst L (s+1)=mst L s:=by rw[mst,hf]
    rw[es];refine⟨.cont,_,_,?_,.inr rfl,.int s,.lst [],s5,rfl,rfl⟩;rw[hf] at fo;simp only[List.map_nil] at fo;have q:pCmp [] .eq (.lst []) (.lst [])=some true:=QeE rfl;clear hr hs hw hL ml ms b31 fl hf es hLe hl3;w_fin
   | cons h t =>
    have es:mst L (s+1)=(elm (mst L s).1 s h t,(mst L s).2+1):=by rw[mst,hf]
    rw[es];rw[hf] at fo fl;simp only[List.map_cons] at fo;simp only[List.length_cons] at fl;have mem:∀r∈h::t,r∈(mst L s).1:=fun r hr=>(List.mem_filter.mp (hf ▸ hr:r∈fnd (mst L s).1 s)).1
    have q:=Qpd (H:=[]) w h t;have z:=fun x4 x5 a=>Qlx (C:=RN (N-1)) w s hs hw (mst L s).1 ml (.lst (L.map (irw w))) a x4 x5 []
    have le:=fun a c=>Qly (C:=RN (N-1)) w s hs hw h t (by omega) (fun j hj=>(ms h (mem h (.head _)) j hj).mono b31) (fun r hr j hj=>(ms r (mem r (.tail _ hr)) j hj).mono b31) (.lst (L.map (irw w))) a c []
    have ln:((zr (mst L s).1 s).map (irw w)).length+((t.map (lmr h s)).map (irw w)).length≤1000000:=by simp; omega
    have ea:(zr (mst L s).1 s).map (irw w)++(t.map (lmr h s)).map (irw w)=(elm (mst L s).1 s h t).map (irw w):=by unfold elm; rw[List.map_append]
    have t8:(t.map (irw w)).length+1≤1000000:=by simp; omega
    refine⟨.next,[.lst (L.map (irw w)),.lst ((elm (mst L s).1 s h t).map (irw w)),.int (((mst L s).2+1:Nat):Int),.int s,.lst (irw w h::t.map (irw w)),irw w h,uS,uS,uS,uS,uS],_,?_,.inl rfl,_,_,_,rfl,rfl⟩;have si:setAV (irw w h)=true:=rfl;clear hr hs hw hL ml ms b31 fl hf es mem hLe hl3;w_fin) (ρ:=[.lst (L.map (irw w)),.lst (L.map (irw w)),.int 0,uS,uS,uS,uS,uS,uS,uS,uS]) (H:=[]) ⟨_,_,_,rfl,rfl⟩
 clear hr hw hL hLe hl3;simp only[Qea];w_fin
end
theorem QbF {r s x y:Nat->Rat}:∀{w:Nat},(∀i,i<w->r i*x i=s i*y i)->dot w r x=dot w s y
 | 0,_=>rfl
 | w+1,h=>by rw[dot,dot,QbF fun i hi=>h i (by omega),h w (by omega)]
theorem QgG (r x:Nat->Rat) (a:Nat):∀b,dot (a+b) r x=dot a r x+dot b (fun k=>r (a+k)) fun k=>x (a+k)
 | 0=>by rw[dot]; grind
 | b+1=>by
  show dot (a+b) r x+r (a+b)*x (a+b)=_;rw[QgG r x a b,dot]; grind
theorem Qd1 {r x:Nat->Rat}:∀{w:Nat},(∀i,i<w->r i*x i=0)->dot w r x=0
 | 0,_=>rfl
 | w+1,h=>by rw[dot,Qd1 fun i hi=>h i (by omega),h w (by omega)]; grind
theorem Qfb {r x:Nat->Rat} {s:Nat}:∀{w:Nat},s<w->(∀i,i<w->i≠s->r i*x i=0)->dot w r x=r s*x s
 | w+1,hs,h=>by
  rw[dot];by_cases hw:s=w
  ·subst hw
   rw[Qd1 fun i hi=>h i (by omega) (by omega)]; grind
  ·rw[Qfb (by omega) fun i hi hne=>h i (by omega) hne,h w (by omega) (by omega)]; grind
theorem Qlz (a b x:Nat->Rat) (p q:Rat):∀w,dot w (fun e=>a e*p-b e*q) x=dot w a x*p-dot w b x*q
 | 0=>by simp only[dot]; grind
 | w+1=>by rw[dot,dot,dot,Qlz a b x p q w]; grind
def up (x:Nat->Rat) (s:Nat) (v:Rat):Nat->Rat:=fun i=>if i=s then v else x i
theorem QhJ (r x:Nat->Rat) (s:Nat) (v:Rat):∀w,s<w->dot w r (up x s v)=dot w r x+r s*(v-x s)
 | w+1,hs=>by
  rw[dot,dot];by_cases hw:s=w
  ·subst hw
   have e:dot s r (up x s v)=dot s r x:=QbF fun i hi=>by rw[up,if_neg (by omega)]
   rw[e,up,if_pos rfl]; grind
  ·rw[QhJ r x s v w (by omega),up,if_neg (by omega)]; grind
abbrev cR (r:Nat->Int):Nat->Rat:=fun j=>(r j:Rat)
def Ker (w:Nat) (L:List (Nat->Int)) (x:Nat->Rat):Prop:=∀r∈L,dot w (cR r) x=0
def Dep (w:Nat) (L:List (Nat->Int)) (s:Nat):Prop:=∃x:Nat->Rat,(∃i,s≤i∧i<w∧x i≠0)∧(∀i,i<s->x i=0)∧Ker w L x
theorem QlA (w:Nat) (h r:Nat->Int) (s:Nat) (x:Nat->Rat):dot w (cR (lmr h s r)) x=dot w (cR r) x*(h s:Rat)-dot w (cR h) x*(r s:Rat):=by
 rw[←Qlz];refine QbF fun i _=>?_
 have:cR (lmr h s r) i=cR r i*(h s:Rat)-cR h i*(r s:Rat):=by
  show ((r i*h s-h i*r s:Int):Rat)=_
  push_cast; rfl
 rw[this]
theorem int0 {a:Int} (h:a≠0):(a:Rat)≠0:=fun e=>h (by exact_mod_cast e)
theorem QmO {w s:Nat} {L:List (Nat->Int)} {h:Nat->Int} {t:List (Nat->Int)} (hs:s<w) (hf:fnd L s=h::t):Dep w L s↔Dep w (elm L s h t) (s+1):=by
 have mem:∀r∈h::t,r∈L∧r s≠0:=fun r hr=>by
  have:=List.mem_filter.mp (hf ▸ hr:r∈fnd L s);exact⟨this.1,by simpa using this.2⟩
 have h0:=int0 (mem h (.head _)).2;constructor
 ·rintro ⟨x,⟨i,hi1,hi2,hi3⟩,hz,hk⟩
  refine⟨up x s 0,?_,?_,?_⟩
  ·refine Classical.byContradiction fun hn=>?_
   have hall:∀j,s+1≤j->j<w->x j=0:=fun j h1 h2=>Classical.byContradiction fun h3=>hn ⟨j,h1,h2,by rw[up,if_neg (by omega)]; exact h3⟩
   have his:i=s:=Classical.byContradiction fun h=>hi3 (hall i (by omega) hi2)
   subst his;have e:=hk h (mem h (.head _)).1;rw[Qfb hi2 fun j hj hne=>by
    rcases Nat.lt_or_gt_of_ne hne with hl | hl
    ·rw[hz j hl]; grind
    ·rw[hall j hl hj]; grind] at e
   have e2:(h i:Rat)*x i=0:=e;grind
  ·intro j hj
   by_cases hjs:j=s
   ·rw[up,if_pos hjs]
   ·rw[up,if_neg hjs]; exact hz j (by omega)
  ·intro r hr
   rcases List.mem_append.mp hr with hr | hr
   ·have hm:=List.mem_filter.mp hr
    have hrs:r s=0:=by simpa using hm.2
    rw[QhJ _ _ _ _ _ hs,hk r hm.1];show 0+((r s:Int):Rat)*_=0;rw[hrs]; grind
   ·obtain⟨r',hr',rfl⟩:=List.mem_map.mp hr
    rw[QlA,QhJ _ _ _ _ _ hs,QhJ _ _ _ _ _ hs,hk r' (mem r' (.tail _ hr')).1,hk h (mem h (.head _)).1];grind
 ·rintro ⟨x,⟨i,hi1,hi2,hi3⟩,hz,hk⟩
  have xs:x s=0:=hz s (by omega);refine⟨up x s (-(dot w (cR h) x)*(h s:Rat)⁻¹),⟨i,by omega,hi2,by rw[up,if_neg (by omega)]; exact hi3⟩,fun j hj=>by rw[up,if_neg (by omega)]; exact hz j (by omega),fun r hr=>?_⟩
  rw[QhJ _ _ _ _ _ hs,xs];by_cases hrs:r s=0
  ·have e:=hk r (List.mem_append_left _ (List.mem_filter.mpr ⟨hr,by simp[hrs]⟩))
   rw[e];show 0+((r s:Int):Rat)*_=0;rw[hrs]; grind
  ·have hr2:r∈h::t:=hf ▸ (List.mem_filter.mpr ⟨hr,by simp[hrs]⟩:r∈fnd L s)
   rcases List.mem_cons.mp hr2 with rfl | hr3
   ·show dot w (cR r) x+(r s:Rat)*_=0
    grind
   ·have e:=hk (lmr h s r) (List.mem_append_right _ (List.mem_map.mpr ⟨r,hr3,rfl⟩))
    rw[QlA] at e;show dot w (cR r) x+(r s:Rat)*_=0;grind
theorem QlB {w:Nat} (L0:List (Nat->Int)):∀s,s≤w->((mst L0 s).2<s∧Dep w L0 0)∨((mst L0 s).2=s∧(Dep w L0 0↔Dep w (mst L0 s).1 s))
 | 0,_=>.inr ⟨rfl,Iff.rfl⟩
 | s+1,hs=>by
  have ih:=QlB (w:=w) L0 s (by omega);rw[mst];cases hf:fnd (mst L0 s).1 s with
  | nil =>
   left;rcases ih with ⟨h1,h2⟩ | ⟨h1,h2⟩
   ·exact⟨by dsimp only; omega,h2⟩
   ·refine⟨by dsimp only; omega,h2.mpr ⟨fun i=>if i=s then 1 else 0,⟨s,Nat.le_refl _,hs,by simp⟩,fun i hi=>if_neg (by omega),fun r hr=>?_⟩⟩
    have hrs:r s=0:=Classical.byContradiction fun h=>by
     have:r∈fnd (mst L0 s).1 s:=List.mem_filter.mpr ⟨hr,by simp[h]⟩;rw[hf] at this; cases this
    refine Qd1 fun i _=>?_
    by_cases hi:i=s
    ·subst hi
     show ((r i:Int):Rat)*_=0;rw[hrs]; grind
    ·rw[if_neg hi]; grind
  | cons h t =>
   rcases ih with ⟨h1,h2⟩ | ⟨h1,h2⟩
   ·exact .inl ⟨by dsimp only; omega,h2⟩
   ·exact .inr ⟨by dsimp only; omega,h2.trans (QmO hs hf)⟩
theorem QgH {w:Nat} (L0:List (Nat->Int)):(mst L0 w).2<w↔Dep w L0 0:=by
 rcases QlB (w:=w) L0 w (Nat.le_refl _) with ⟨h1,h2⟩ | ⟨h1,h2⟩
 ·exact⟨fun _=>h2,fun _=>h1⟩
 ·constructor
  ·intro h; omega
  ·intro h
   obtain⟨x,⟨i,hi1,hi2,_⟩,_⟩:=h2.mp h;omega
def KerR (n w:Nat) (R:Nat->Nat->Rat) (x:Nat->Rat):Prop:=∀i,i<n->dot w (R i) x=0
theorem QnI (R:Nat->Nat->Rat) (t f i:Nat):swp R t f i=if i=f then R t else if i=t then R f else R i:=rfl
theorem QrD (R:Nat->Nat->Rat) (t c i:Nat):scl R t c i=if i=t then (fun j=>R t j*(R t c)⁻¹) else R i:=rfl
theorem QnJ (R:Nat->Nat->Rat) (p c i:Nat):clr R p c i=if i=p then R i else fun j=>R i j-R i c*R p j:=rfl
theorem Qpe {n w t f:Nat} {R:Nat->Nat->Rat} {x:Nat->Rat} (ht:t<n) (hf:f<n):KerR n w (swp R t f) x↔KerR n w R x:=by
 unfold KerR;simp only[QnI];constructor
 ·intro h i hi
  by_cases h1:i=t
  ·subst h1
   have:=h f hf;rw[if_pos rfl] at this; exact this
  ·by_cases h2:i=f
   ·subst h2
    have:=h t ht;by_cases h3:t=i
    ·exact absurd h3.symm h1
    ·rw[if_neg h3,if_pos rfl] at this; exact this
   ·have:=h i hi
    rw[if_neg h2,if_neg h1] at this; exact this
 ·intro h i hi
  split
  ·exact h t ht
  ·split
   ·exact h f hf
   ·exact h i hi
theorem QgI (r x:Nat->Rat) (c:Rat):∀w,dot w (fun j=>r j*c) x=dot w r x*c
 | 0=>by simp only[dot]; grind
 | w+1=>by rw[dot,dot,QgI r x c w]; grind
theorem Qpf {n w t c:Nat} {R:Nat->Nat->Rat} {x:Nat->Rat} (ht:t<n) (h0:R t c≠0):KerR n w (scl R t c) x↔KerR n w R x:=by
 have hi0:(R t c)⁻¹≠0:=fun h=>by
  have:=Rat.mul_inv_cancel (R t c) h0;rw[h] at this; grind
 unfold KerR;simp only[QrD];constructor
 ·intro h i hi
  by_cases h1:i=t
  ·subst h1
   have:=h i hi;rw[if_pos rfl,QgI] at this;grind
  ·have:=h i hi
   rw[if_neg h1] at this; exact this
 ·intro h i hi
  split
  ·rw[QgI,h t ht]; grind
  ·exact h i hi
theorem Qio (a b x:Nat->Rat) (q:Rat):∀w,dot w (fun e=>a e-q*b e) x=dot w a x-q*dot w b x
 | 0=>by simp only[dot]; grind
 | w+1=>by rw[dot,dot,dot,Qio a b x q w]; grind
theorem Qpg {n w p c:Nat} {R:Nat->Nat->Rat} {x:Nat->Rat} (hp:p<n):KerR n w (clr R p c) x↔KerR n w R x:=by
 unfold KerR;simp only[QnJ];constructor
 ·intro h i hi
  have hpp:=h p hp;rw[if_pos rfl] at hpp;by_cases h1:i=p
  ·subst h1; exact hpp
  ·have:=h i hi
   rw[if_neg h1,Qio,hpp] at this;grind
 ·intro h i hi
  split
  ·exact h i hi
  ·rw[Qio,h i hi,h p hp]; grind
theorem Qph {n w t f c:Nat} {R:Nat->Nat->Rat} {x:Nat->Rat} (ht:t<n) (hf:f<n) (h0:R f c≠0):KerR n w (stp R t f c) x↔KerR n w R x:=by
 unfold stp;rw[Qpg ht,Qpf ht (by rw[QmC]; exact h0),Qpe ht hf]
theorem QgJ {n w:Nat} {M:Nat->Nat->Rat} {x:Nat->Rat}:∀c,(ech n M c).2.length≤n∧(KerR n w (ech n M c).1 x↔KerR n w M x)
 | 0=>⟨Nat.zero_le _,Iff.rfl⟩
 | c+1=>by
  obtain⟨h1,h2⟩:=QgJ (w:=w) (x:=x) c;rw[ech];cases hf:ff n (ech n M c).1 (ech n M c).2.length c with
  | none=>exact⟨h1,h2⟩
  | some f =>
   obtain⟨q1,q2,q3⟩:=Qgy hf;exact⟨by simp; omega,(Qph (by omega) q2 q3).trans h2⟩
def Unit (n c:Nat) (R:Nat->Nat->Rat):Prop:=∀i j,i<n->j<c->R i j=if i=j then 1 else 0
theorem QmP {n f c:Nat} {R:Nat->Nat->Rat} (hc:c<n) (hf1:c≤f) (hf:f<n) (h0:R f c≠0) (hu:Unit n c R):Unit n (c+1) (stp R c f c):=by
 have hsw:Unit n c (swp R c f):=fun i j hi hj=>by
  rw[QnI];by_cases h1:i=f
  ·rw[if_pos h1,hu c j hc hj,if_neg (by omega),if_neg (by omega)]
  ·rw[if_neg h1]
   by_cases h2:i=c
   ·rw[if_pos h2,hu f j hf hj,if_neg (by omega),if_neg (by omega)]
   ·rw[if_neg h2]; exact hu i j hi hj
 have hcc:swp R c f c c≠0:=by rw[QmC]; exact h0
 intro i j hi hj;have e1:∀k,scl (swp R c f) c c c k=swp R c f c k*(swp R c f c c)⁻¹:=fun k=>by unfold scl updR; rw[if_pos rfl]
 have e2:∀i k,i≠c->scl (swp R c f) c c i k=swp R c f i k:=fun i k h=>by unfold scl updR; rw[if_neg h]
 rw[stp,QnJ];have hinv:=Rat.mul_inv_cancel _ hcc;by_cases hic:i=c
 ·rw[if_pos hic,hic,e1]
  by_cases hjc:j=c
  ·rw[hjc,if_pos rfl]; exact hinv
  ·rw[hsw c j hc (by omega),if_neg (by omega)]; grind
 ·rw[if_neg hic]
  rw[e2 i j hic,e2 i c hic,e1];by_cases hjc:j=c
  ·rw[hjc,hinv,if_neg hic]; grind
  ·rw[hsw c j hc (by omega),hsw i j hi (by omega),if_neg (show ¬c=j by omega)]; grind
theorem Qpi (c:Nat):List.range c++[c]=List.range (c+1):=(List.range_succ).symm
theorem QhK {n:Nat} {M:Nat->Nat->Rat}:∀c,c≤n->((ech n M c).2=List.range c∧Unit n c (ech n M c).1) ∨
  ∃c0,c0<c∧(ech n M c0).2=List.range c0∧Unit n c0 (ech n M c0).1∧(∀i,c0≤i->i<n->(ech n M c0).1 i c0=0)
 | 0,_=>.inl ⟨rfl,fun _ _ _ h=>absurd h (by omega)⟩
 | c+1,hc=>by
  rcases QhK (n:=n) (M:=M) c (by omega) with ⟨h1,h2⟩ | ⟨c0,h1,h2⟩
  ·rw[ech,h1,List.length_range]
   cases hf:ff n (ech n M c).1 c c with
   | none=>exact .inr ⟨c,by omega,h1,h2,QoY hf⟩
   | some f =>
    obtain⟨q1,q2,q3⟩:=Qgy hf;exact .inl ⟨Qpi c,QmP (by omega) q1 q2 q3 h2⟩
  ·exact .inr ⟨c0,by omega,h2⟩
theorem Qjj {n:Nat} {M:Nat->Nat->Rat} {c0:Nat} (h1:(ech n M c0).2=List.range c0) (h2:∀i,c0≤i->i<n->(ech n M c0).1 i c0=0):∀d,∃l,(ech n M (c0+1+d)).2=List.range c0++l∧∀x∈l,c0<x
 | 0=>by
  refine⟨[],?_,fun x h=>nomatch h⟩;have hn:ff n (ech n M c0).1 c0 c0=none:=List.find?_eq_none.mpr fun i hi=>by
   have:=Qe6.mp hi;simp[h2 i this.1 this.2]
  rw[Nat.add_zero,ech,h1,List.length_range,hn,h1]; simp
 | d+1=>by
  obtain⟨l,e1,e2⟩:=Qjj h1 h2 d;rw[←Nat.add_assoc,ech];cases hf:ff n (ech n M (c0+1+d)).1 (ech n M (c0+1+d)).2.length (c0+1+d) with
  | none=>exact⟨l,e1,e2⟩
  | some f =>
   refine⟨l++[c0+1+d],by dsimp only; rw[e1,List.append_assoc],fun x hx=>?_⟩;rcases List.mem_append.mp hx with h | h
   ·exact e2 x h
   ·have:=List.mem_singleton.mp h; omega
theorem Qjk {n:Nat} {M:Nat->Nat->Rat} (h1:(ech n M n).2=List.range n):∀d,ech n M (n+d)=ech n M n
 | 0=>rfl
 | d+1=>by
  rw[←Nat.add_assoc,ech,Qjk h1 d,h1,List.length_range];have hn:ff n (ech n M n).1 n (n+d)=none:=List.find?_eq_none.mpr fun i hi=>by
   have:=Qe6.mp hi; omega
  rw[hn]
theorem Qpj (n:Nat):fd (List.range n) n=none:=List.find?_eq_none.mpr fun c hc=>by
 have:=List.mem_range.mp hc;simp[this]
theorem QfR {p:Nat->Bool} {c:Nat}:∀{n:Nat},c<n->p c=true->(∀i,i<c->p i=false)->(List.range n).find? p=some c
 | n+1,hn,hc,hp=>by
  rw[List.range_succ,List.find?_append];by_cases h:c<n
  ·rw[QfR h hc hp]; rfl
  ·have:c=n:=by omega
   subst this;rw[List.find?_eq_none.mpr fun i hi=>by rw[hp i (List.mem_range.mp hi)]; exact Bool.false_ne_true];simp[hc]
theorem QmQ {n c0:Nat} {l:List Nat} (hc:c0<n) (hl:∀x∈l,c0<x):fd (List.range c0++l) n=some c0:=by
 refine QfR hc ?_ fun i hi=>?_
 ·have:(List.range c0++l)[c0]?≠some c0:=by
   rw[List.getElem?_append_right (by simp)];simp only[List.length_range,Nat.sub_self];intro h;have:=hl c0 (List.mem_of_getElem? h);omega
  simpa using this
 ·rw[List.getElem?_append_left (by simpa using hi)]
  simp[hi]
section
def rowsOf (n:Nat) (z:Nat->Nat->Int):List (Nat->Int):=(List.range n).map fun i=>z i
theorem Qjl {n w:Nat} {z:Nat->Nat->Int} {x:Nat->Rat}:Ker w (rowsOf n z) x↔∀i,i<n->dot w (cR (z i)) x=0:=by
 constructor
 ·intro h i hi
  exact h (z i) (List.mem_map.mpr ⟨i,List.mem_range.mpr hi,rfl⟩)
 ·intro h r hr
  obtain⟨i,hi,rfl⟩:=List.mem_map.mp hr;exact h i (List.mem_range.mp hi)
theorem QrE {n q:Nat} {A B:Nat->Nat->Rat} (i:Nat) (x:Nat->Rat):dot (n+q) (jn n A B i) x=dot n (A i) x+dot q (B i) fun k=>x (n+k):=by
 rw[QgG];congr 1
 ·exact QbF fun j hj=>by rw[jn,if_pos hj]
 ·refine QbF fun j _=>?_
  have e:jn n A B i (n+j)=B i j:=by
   show (if n+j<n then A i (n+j) else B i (n+j-n))=B i j;rw[if_neg (by omega),show n+j-n=j by omega]
  rw[e]
def cut (w:Nat) (x:Nat->Rat):Nat->Rat:=fun k=>if k<w then x k else 0
theorem Qip {w:Nat} {r x:Nat->Rat}:∀d,dot (w+d) r (cut w x)=dot w r x:=fun d=>by
 rw[QgG];have e1:dot w r (cut w x)=dot w r x:=QbF fun i hi=>by rw[cut,if_pos hi]
 have e2:dot d (fun k=>r (w+k)) (fun k=>cut w x (w+k))=0:=Qd1 fun i _=>by
  have:cut w x (w+i)=0:=by rw[cut,if_neg (by omega)]
  rw[this]; grind
 rw[e1,e2]; grind
theorem QgK {n c w:Nat} {R:Nat->Nat->Rat} (hu:Unit n c R) (hw:w≤c) {i:Nat} (hi:i<n) (x:Nat->Rat):dot w (R i) x=if i<w then x i else 0:=by
 by_cases h:i<w
 ·rw[if_pos h,Qfb h fun j hj hne=>by rw[hu i j hi (by omega),if_neg (Ne.symm hne)]; grind]
  rw[hu i i hi (by omega),if_pos rfl]; grind
 ·rw[if_neg h]
  exact Qd1 fun j hj=>by rw[hu i j hi (by omega),if_neg (by omega)]; grind
section
variable {n q:Nat} {z:Nat->Nat->Int} {B:Nat->Nat->Rat}
theorem QrF {w:Nat} (hw:w≤n) (i:Nat) (x:Nat->Rat):dot (n+q) (jn n (zm z) B i) (cut w x)=dot w (cR (z i)) x:=by
 obtain⟨d,rfl⟩:∃d,n=w+d:=⟨n-w,by omega⟩;rw[Nat.add_assoc,Qip];exact QbF fun j hj=>by rw[jn,if_pos (by omega)]
theorem QlC {c w:Nat} (hc:c≤n) (hw:w≤c) (hu:Unit n c (ech n (jn n (zm z) B) c).1):¬Dep w (rowsOf n z) 0:=by
 rintro ⟨x,⟨i,_,hi,h0⟩,_,hk⟩
 have hk:=Qjl.mp hk;have k1:KerR n (n+0) (jn n (zm z) B) (cut w x):=fun i' hi'=>by rw[QrF (by omega)]; exact hk i' hi'
 have k2:=(QgJ (w:=n+0) (x:=cut w x) c).2.mpr k1 i (by omega);obtain⟨d,hd⟩:∃d,n+0=w+d:=⟨n+0-w,by omega⟩;rw[hd,Qip,QgK hu hw (by omega),if_pos hi] at k2;exact h0 k2
theorem QrG {c:Nat} (hc:c<n) (hu:Unit n c (ech n (jn n (zm z) B) c).1) (h0:∀i,c≤i->i<n->(ech n (jn n (zm z) B) c).1 i c=0):Dep (c+1) (rowsOf n z) 0:=by
 refine⟨fun k=>if k=c then 1 else -(ech n (jn n (zm z) B) c).1 k c,⟨c,Nat.zero_le _,Nat.lt_succ_self c,by simp⟩,fun i hi=>absurd hi (by omega),Qjl.mpr fun i hi=>?_⟩
 rw[←QrF (n:=n) (z:=z) (q:=0) (B:=B) (w:=c+1) (by omega)];refine (QgJ (w:=n+0) c).2.mp (fun i hi=>?_) i hi;obtain⟨d,hd⟩:∃d,n+0=(c+1)+d:=⟨n+0-(c+1),by omega⟩;rw[hd,Qip,dot,if_pos rfl,QgK hu (Nat.le_refl c) hi];by_cases h:i<c
 ·rw[if_pos h,if_neg (by omega)]; grind
 ·rw[if_neg h,h0 i (by omega) hi]; grind
theorem QhL:(fd (ech n (jn n (zm z) B) (n+q)).2 n=none∧Unit n n (ech n (jn n (zm z) B) (n+q)).1∧∀w,w≤n->¬(mst (rowsOf n z) w).2<w) ∨
  ∃c,c<n∧fd (ech n (jn n (zm z) B) (n+q)).2 n=some c∧(mst (rowsOf n z) (c+1)).2<c+1∧∀w,w≤c->¬(mst (rowsOf n z) w).2<w:=by
 rcases QhK (n:=n) (M:=jn n (zm z) B) n (Nat.le_refl n) with ⟨h1,h2⟩ | ⟨c,h1,h2,h3,h4⟩
 ·rw[Qjk h1 q]
  refine .inl ⟨by rw[h1]; exact Qpj n,h2,fun w hw h=>?_⟩;exact QlC (Nat.le_refl n) hw h2 ((QgH _).mp h)
 ·right
  obtain⟨l,e1,e2⟩:=Qjj h2 h4 (n+q-(c+1));rw[show c+1+(n+q-(c+1))=n+q by omega] at e1;refine⟨c,h1,by rw[e1]; exact QmQ h1 e2,(QgH _).mpr (QrG h1 h3 h4),fun w hw h=>?_⟩;exact QlC (by omega) hw h3 ((QgH _).mp h)
theorem Qei (hu:Unit n n (ech n (jn n (zm z) B) (n+q)).1) (i j:Nat) (hi:i<n) (hj:j<q) :
  dot n (cR (z i)) (fun k=>(ech n (jn n (zm z) B) (n+q)).1 k (n+j))=B i j:=by
 obtain⟨X,hX⟩:∃X:Nat->Rat,X=fun k=>(ech n (jn n (zm z) B) (n+q)).1 k (n+j):=⟨_,rfl⟩
 obtain⟨y,hy⟩:∃y:Nat->Rat,y=fun k=>if k<n then X k else if k=n+j then -1 else 0:=⟨_,rfl⟩
 have yn:∀k,k<n->y k=X k:=fun k hk=>by rw[hy]; exact if_pos hk
 have yj:y (n+j)=-1:=by rw[hy]; dsimp only; rw[if_neg (by omega),if_pos rfl]
 have yo:∀k,k≠j->y (n+k)=0:=fun k hk=>by rw[hy]; dsimp only; rw[if_neg (by omega),if_neg (by omega)]
 have kR:KerR n (n+q) (ech n (jn n (zm z) B) (n+q)).1 y:=fun i hi=>by
  have e1:dot n ((ech n (jn n (zm z) B) (n+q)).1 i) y=X i:=by
   rw[QgK hu (Nat.le_refl n) hi,if_pos hi,yn i hi]
  rw[QgG,e1,Qfb hj fun k hk hne=>by rw[yo k hne]; grind];rw[yj];have:(ech n (jn n (zm z) B) (n+q)).1 i (n+j)=X i:=by rw[hX]
  rw[this]; grind
 have kM:=(QgJ (w:=n+q) (n+q)).2.mp kR i hi;rw[QrE,Qfb hj fun k hk hne=>by rw[yo k hne]; grind,yj] at kM;have e2:dot n (zm z i) y=dot n (cR (z i)) X:=QbF fun k hk=>by rw[yn k hk]
 rw[e2] at kM;rw[←hX];grind
end
end
section
variable {N:Nat}
theorem QlD {k:Nat} (h:k≤3):sing k≠"":=fun e=>by
 have l:=congrArg String.length e;unfold sing at l;have l1:"Lapack routine dgesv: system is exactly singular: U[".length=52:=by decide +kernel
 have l2:"".length=0:=by decide +kernel
 rw[String.length_append,String.length_append,String.length_append,String.length_append,l1,l2] at l;omega
theorem QmR {C:Orc} {ρ:List AV} {H:AH} (a:PE):evE C ρ (.strof a) H=(evE C ρ a H).bind fun x H=>match x with | .int i=>if i.natAbs<1000000 then .ok (.str (toString i)) H else .stuck | _=>.stuck:=by rw[evE]; first | done | rfl
theorem Qjm {a b:String} (h:a.length+b.length≤100000):pBin .add (.str a) (.str b)=some (.str (a++b)):=if_pos h
theorem QrH {C:Orc} {ρ:List AV} {H:AH} {k:Nat} (h:k≤3) (e:ρ[6]?=some (.int k)) :
  evE C ρ (.bin .add (.bin .add (.bin .add (.bin .add (.str "Lapack routine dgesv: system is exactly singular: U[") (.strof D9)) (.str ",")) (.strof D9)) (.str "] = 0")) H=.ok (.str (sing k)) H:=by
 have t:=QnB h;have l1:"Lapack routine dgesv: system is exactly singular: U[".length=52:=by decide +kernel
 have l2:",".length=1:=by decide +kernel
 have l3:"] = 0".length=5:=by decide +kernel
 have f:evE C ρ (.strof D9) H=.ok (.str (toString (k:Int))) H:=by
  rw[QmR,Qfh,e];have k9:k<1000000:=by omega
  simp only[set_int,if_true,Out.bind_ok,Int.natAbs_natCast,k9]
 unfold sing;generalize "Lapack routine dgesv: system is exactly singular: U["=s1 at *
 generalize ","=s2 at *
 generalize "] = 0"=s3 at *
 generalize toString (k:Int)=s4 at *
 have a1:=Qjm (a:=s1) (b:=s4) (by omega);have a2:=Qjm (a:=s1++s4) (b:=s2) (by rw[String.length_append]; omega);have a3:=Qjm (a:=s1++s4++s2) (b:=s4) (by rw[String.length_append,String.length_append]; omega);have a4:=Qjm (a:=s1++s4++s2++s4) (b:=s3) (by rw[String.length_append,String.length_append,String.length_append]; omega);simp only[Qow,QjA,f,binS,binK,Out.ofOpt_some,a1,a2,a3,a4]
theorem Qpk (hN:1≤N) (w:Nat) (hw:w≤3) (L:List (Nat->Int)) (h0:0<L.length) (hL:L.length≤3) (hr:∀r∈L,∀j,j<w->sm 3 (r j)) (H:AH):(RN N).f 1089 [.lst (L.map (irw w))] H=.ok (.int ((mst L w).2:Nat)) H:=by
 match L,h0,hL,hr with
 | r0::L',_,hL,hr=>exact QrC hN w hw r0 L' (by simp at hL; omega) hr H
abbrev zo (z:Nat->Nat->Int):Nat->Nat->Option Int:=fun i j=>some (z i j)
theorem QmS (n w:Nat) (z:Nat->Nat->Int):Qab n w (zo z)=(rowsOf n z).map (irw w):=by
 unfold Qab rowsOf;rw[List.map_map]; rfl
theorem QlE {C:Orc} (n w:Nat) (hn:n≤3) (hw:w≤n) (z:Nat->Nat->Int) (a b c d e f g h i j k l m o:AV) (H:AH) :
  evE C [.lst (Qab n n (zo z)),a,b,c,d,e,.int w,f,g,h,i,j,k,l,m,uS,uS,uS,uS] D98 H=.ok (.lst ((rowsOf n z).map (irw w))) H:=by
 refine (Qah (v:=.lst (Qab n n (zo z))) (l:=Qab n n (zo z)) (g:=fun x=>match x with | .lst l=>.lst (l.take w) | _=>.none) (by w_fin) rfl (by rw[Qal]; omega) rfl fun x hx=>?_).trans ?_
 ·obtain⟨i',hi,rfl⟩:=Qc4 hx
  have lr:=Qaz n (zo z i');exact⟨[.lst (Qab n n (zo z)),a,b,c,d,e,.int w,f,g,h,i,j,k,l,m,.lst (orow n (zo z i')),uS,uS,uS],rfl,Qin (by rw[Qfh]; rfl) (by rw[Qfh]; rfl) (by omega) (by omega)⟩
 ·simp only[newC,QmS,List.map_map,Function.comp_def,Bool.false_eq_true,if_false]
  refine congrArg (fun l=>Out.ok (AV.lst l) H) (List.map_congr_left fun r _=>?_);simp only[irw,ir];rw[←List.map_take,List.take_range,Nat.min_eq_left hw]
def DU:Option Nat->Nat->String
 | none,_=>""
 | some c,k=>if k≤c then "" else sing (c+1)
theorem Qjn (hN:1≤N) (n:Nat) (hn:n≤3) (h0:0<n) (z:Nat->Nat->Int) (hz:∀i j,i<n->j<n->sm 3 (z i j)) (o:Option Nat)
  (ho:(o=none∧∀w,w≤n->¬(mst (rowsOf n z) w).2<w)∨∃c,c<n∧o=some c∧(mst (rowsOf n z) (c+1)).2<c+1∧∀w,w≤c->¬(mst (rowsOf n z) w).2<w) (a1 a2 a4:AV) (H:AH) :
  ∃x6,forL (RN N) [6] true B27
   ((rgn 1 (n+1)).map fun (i:Nat)=>AV.int (i:Int)) [.lst (Qab n n (zo z)),a1,a2,.int n,a4,.str "",uS,uS,uS,uS,uS,uS,uS,uS,uS,uS,uS,uS,uS] H =
   .ok .next [.lst (Qab n n (zo z)),a1,a2,.int n,a4,.str (DU o n),x6,uS,uS,uS,uS,uS,uS,uS,uS,uS,uS,uS,uS] H:=by
 have len:((rgn 1 (n+1)).map fun (i:Nat)=>AV.int (i:Int)).length=n:=by simp[rgn]
 obtain⟨ρ_1,H_1,e1,x6,rfl,hH⟩:=Qef (C:=RN N) (k:=6) (b:=B27) (l:=(rgn 1 (n+1)).map fun (i:Nat)=>AV.int (i:Int))
  (P:=fun k ρ H'=>∃x6,ρ=[.lst (Qab n n (zo z)),a1,a2,.int n,a4,.str (DU o k),x6,uS,uS,uS,uS,uS,uS,uS,uS,uS,uS,uS,uS]∧H'=H)
  (fun k x hx ρ H' ⟨x6,h1',h2'⟩=>by
   subst h1' h2';have hk:k<n:=by have:=(List.getElem?_eq_some_iff.mp hx).1; rw[len] at this; exact this
   have ex:x=.int ((k+1:Nat):Int):=by
    simp only[rgn,List.map_map,List.getElem?_map,Nat.add_sub_cancel,List.getElem?_range hk,Option.map_some,Function.comp] at hx;rw[←Option.some.inj hx,Nat.add_comm]
   subst ex;have cu:=fun d=>QlE (C:=RN N) n (k+1) hn hk z a1 a2 (.int n) a4 d uS uS uS uS uS uS uS uS uS H'
   have mn:=Qpk hN (k+1) (by omega) (rowsOf n z) (by simp[rowsOf]; exact h0) (by simp[rowsOf]; omega) (fun r hr j hj=>by
    obtain⟨i,hi,rfl⟩:=List.mem_map.mp hr;exact hz i j (List.mem_range.mp hi) (by omega)) H'
   have ed:=fun d=>QrH (C:=RN N) (H:=H') (k:=k+1) (by omega) (show ([.lst (Qab n n (zo z)),a1,a2,.int n,a4,d,.int ((k+1:Nat):Int),uS,uS,uS,uS,uS,uS,uS,uS,uS,uS,uS,uS]:List AV)[6]?=some (.int ((k+1:Nat):Int)) from rfl)
   refine⟨.next,[.lst (Qab n n (zo z)),a1,a2,.int n,a4,.str (DU o (k+1)),.int ((k+1:Nat):Int),uS,uS,uS,uS,uS,uS,uS,uS,uS,uS,uS,uS],H',?_,.inl rfl,_,rfl,rfl⟩;have de:decide (("":String)="")=true:=rfl;rcases ho with ⟨rfl,h1⟩ | ⟨c,hc,rfl,h1,h2⟩
   ·have d:decide (((mst (rowsOf n z) (k+1)).2:Int)<((k+1:Nat):Int))=false:=by
     have:=h1 (k+1) hk;simp only[decide_eq_false_iff_not]; omega
    simp only[DU];clear h1 hz hn h0 hx hk len;w_fin
   ·by_cases hkc:k≤c
    ·by_cases hkc2:k+1≤c
     ·have d:decide (((mst (rowsOf n z) (k+1)).2:Int)<((k+1:Nat):Int))=false:=by
       have:=h2 (k+1) hkc2;simp only[decide_eq_false_iff_not]; omega
      have e1:DU (some c) k="":=if_pos hkc;have e2:DU (some c) (k+1)="":=if_pos hkc2;rw[e1,e2];clear h1 h2 hz hn h0 hx hk len hkc hkc2 hc e1 e2;w_fin
     ·have hck:c=k:=by omega
      subst hck;have d:decide (((mst (rowsOf n z) (c+1)).2:Int)<((c+1:Nat):Int))=true:=by
       simp only[decide_eq_true_eq]; omega
      have e1:DU (some c) c="":=if_pos hkc;have e2:DU (some c) (c+1)=sing (c+1):=if_neg hkc2;rw[e1,e2];clear h1 h2 hz hn h0 hx hk len hkc hkc2 hc e1 e2;w_fin
    ·have e1:DU (some c) k=sing (c+1):=if_neg hkc
     have e2:DU (some c) (k+1)=sing (c+1):=if_neg (by omega);have dz:decide (sing (c+1)="")=false:=decide_eq_false (QlD (by omega));rw[e1,e2];clear h1 h2 hz hn h0 hx hk len hkc hc e1 e2;w_fin) (ρ:=[.lst (Qab n n (zo z)),a1,a2,.int n,a4,.str "",uS,uS,uS,uS,uS,uS,uS,uS,uS,uS,uS,uS,uS]) (H:=H) ⟨uS,by
   have:DU o 0="":=by
    cases o with
    | none=>rfl
    | some c=>exact (if_pos (Nat.zero_le c):(if 0≤c then "" else sing (c+1))="")
   rw[this],rfl⟩
 rw[len,hH] at e1;exact⟨x6,e1⟩
def eqB:List PS:=B33
theorem QeF {C:Orc} (k:Nat) (hk:k≤3) (args:AV) (sa:setAV args=true) (a0 a1 a2 a3 a4 a6 a7 a8 w x11 x12 x14:AV) (H:AH) (hs:C.f 857 [.none,args,.none] H=.exc (.str (sing k)) H) :
  evSs C eqB [a0,a1,a2,a3,a4,.str (sing k),a6,a7,a8,args,w,x11,x12,uS,x14,uS,uS,uS,uS] H=.ok .next [a0,a1,a2,a3,a4,.str (sing k),a6,a7,a8,args,w,x11,.str (sing k),uS,x14,uS,uS,uS,uS] H:=by
 have d1:decide (sing k=sing k)=true:=by simp
 have d2:decide (sing k="")=false:=decide_eq_false (QlD hk);clear hk;simp only[eqB];w_fin;simp only[QgB];w_fin;simp only[Qil];w_fin
theorem QgL (hN:2≤N) (n q:Nat) (hn:n≤3) (hq':q≤3) (X:Nat->Nat->Rat) (args:List AV) (wn rt:List AV) (a0:AV) (s0:setAV a0=true) (fl:Bool) (a3 a4 a6 a7 a8 x11 x12 x14:AV) (H:AH)
  (la:args.length≤2) (hfl:fl=true->args.length=1) (dw:AV.data 6 (.lst wn)=true) (dr:AV.data 6 (.lst rt)=true)
  (hs:(RN N).f 857 [.none,.lst args,.none] H=.ok (qmt n q X) H) (hv:∀H,(RN N).f 1096 [a0,.lst (rwj n q fun i j=>qr (X i j)),.lst wn] H=.ok (.bool true) H) :
  ∃y14,evSs (RN N) eqB [a0,.lst rt,.bool fl,a3,a4,.str "",a6,a7,a8,.lst args,.lst wn,x11,x12,uS,x14,uS,uS,uS,uS] H=.ok .next [a0,.lst rt,.bool fl,a3,a4,.str "",a6,a7,a8,.lst args,.lst wn,qmt n q X,.str "",uS,y14,uS,uS,uS,uS] H:=by
 have d1:decide (("":String)="")=true:=rfl;have sh:=fun H=>Qa0 (N:=N) (by omega) "double" n q (fun i j=>qr (X i j)) (by omega) (by omega) (fun _ _ _ _=>rfl) H
 have ce:∀H,pCmp H .eq (.lst wn) (.lst rt)=some (@decide (AV.lst wn=.lst rt) (Classical.propDecidable _)):=fun H=>by
  show (if (AV.data 6 (.lst wn)&&AV.data 6 (.lst rt))=true then some (@decide (AV.lst wn=.lst rt) (Classical.propDecidable _)) else none)=_;rw[dw,dr]; rfl
 have xx:((true != false)=true):=rfl;have x0:((false != false)=false):=rfl;refine⟨.lst (rwj n q fun i j=>qr (X i j)),?_⟩;cases fl with
 | false =>
  have nb:∀H,pCmp H .ne (.bool false) (.bool false)=some false:=fun _=>rfl
  clear hn hq' la hfl dw dr ce;simp only[eqB];w_fin;simp only[QgB];w_fin;simp only[QfP];w_fin
 | true =>
  have l1:=hfl rfl;have nb:∀H,pCmp H .ne (.bool false) (.bool false)=some false:=fun _=>rfl
  have d12:decide (((1:Nat):Int)=2)=false:=rfl;cases hb:@decide (AV.lst wn=.lst rt) (Classical.propDecidable _) with
  | true =>
   rw[hb] at ce;clear hn hq' la hfl dw dr hb;simp only[eqB];w_fin;simp only[QgB];w_fin;simp only[QfP];w_fin
  | false =>
   rw[hb] at ce;clear hn hq' la hfl dw dr hb;simp only[eqB];w_fin;simp only[QgB];w_fin;simp only[QfP];w_fin
theorem QmT (hN:2≤N) (n:Nat) (hn:n≤3) (X:Nat->Rat) (a b:AV) (rt:List AV) (a0:AV) (s0:setAV a0=true) (a3 a4 a6 a7 a8 x11 x12 x14:AV) (H:AH) (dr:AV.data 6 (.lst rt)=true)
  (hs:(RN N).f 857 [.none,.lst [a,b],.none] H=.ok (vec "double" ((List.range n).map fun i=>qr (X i)) .none) H) (hv:∀H,(RN N).f 1096 [a0,.lst (rwj n 1 fun i _=>qr (X i)),.lst rt] H=.ok (.bool true) H) :
  ∃y11 y14,evSs (RN N) eqB [a0,.lst rt,.bool true,a3,a4,.str "",a6,a7,a8,.lst [a,b],.lst rt,x11,x12,uS,x14,uS,uS,uS,uS] H=.ok .next [a0,.lst rt,.bool true,a3,a4,.str "",a6,a7,a8,.lst [a,b],.lst rt,y11,.str "",uS,y14,uS,uS,uS,uS] H:=by
 have d1:decide (("":String)="")=true:=rfl;have ce:=fun H=>QeE (H:=H) dr
 have nb:∀H,pCmp H .ne (.bool true) (.bool true)=some false:=fun _=>rfl
 have d22:decide (((0+1+1:Nat):Int)=2)=true:=rfl;have cm:evE (RN N) [a0,.lst rt,.bool true,a3,a4,.str "",a6,a7,a8,.lst [a,b],.lst rt,vec "double" ((List.range n).map fun i=>qr (X i)) .none,.str "",uS,x14,uS,uS,uS,uS] D100 H=.ok (.lst (rwj n 1 fun i _=>qr (X i))) H:=by
  refine (Qah (v:=.lst ((List.range n).map fun i=>qr (X i))) (l:=(List.range n).map fun i=>qr (X i)) (g:=fun x=>.lst [x]) (by clear hv hn dr hs; w_fin) rfl (by simp; omega) rfl fun x hx=>?_).trans (by simp[newC,rwj,Function.comp_def])
  obtain⟨i,hi,rfl⟩:=List.mem_map.mp hx;refine⟨_,rfl,?_⟩;clear hx hi hv hn dr hs;w_fin
 refine⟨vec "double" ((List.range n).map fun i=>qr (X i)) .none,.lst (rwj n 1 fun i _=>qr (X i)),?_⟩;clear hn dr;simp only[eqB];w_fin;simp only[QgB];w_fin;simp only[QfP];w_fin
theorem Qb5 (C:Orc) (a b:Nat) (bd:List PS) (x y:AV) (l ρ:List AV) (H:AH):forL C [a,b] false bd (.tup [x,y]::l) ρ H=match QaK [a,b] [x,y] ρ with | some ρ'=>forK C [a,b] false bd l (evSs C bd ρ' H) | none=>.stuck:=by
 have bt:bindT [a,b] false (.tup [x,y]) ρ=QaK [a,b] [x,y] ρ:=rfl;rw[forL,bt];cases QaK [a,b] [x,y] ρ with
 | none=>rfl
 | some ρ' =>
  dsimp only;cases evSs C bd ρ' H with
  | ok f ρ H=>cases f<;>rfl
  | _=>rfl
theorem QmU (hN:4≤N) (n:Nat) (hn:n≤3) (h0:0<n) (z:Nat->Nat->Int) (hz:∀i j,i<n->j<n->sm 3 (z i j)) (H:AH):(RN N).f 1084 [.lst (Qab n n (zo z))] H=.ok (.int (detZ n z)) H:=by
 match n,hn,h0 with
 | 1,_,_=>exact SG1 (by omega) (z 0 0) (hz _ _ (by decide) (by decide)) H
 | 2,_,_=>exact SG2 (by omega) (z 0 0) (z 0 1) (z 1 0) (z 1 1) (hz _ _ (by decide) (by decide)) (hz _ _ (by decide) (by decide)) (hz _ _ (by decide) (by decide)) (hz _ _ (by decide) (by decide)) H
 | 3,_,_=>exact SG3 (by omega) (z 0 0) (z 0 1) (z 0 2) (z 1 0) (z 1 1) (z 1 2) (z 2 0) (z 2 1) (z 2 2) (hz _ _ (by decide) (by decide)) (hz _ _ (by decide) (by decide)) (hz _ _ (by decide) (by decide)) (hz _ _ (by decide) (by decide)) (hz _ _ (by decide) (by decide)) (hz _ _ (by decide) (by decide)) (hz _ _ (by decide) (by decide)) (hz _ _ (by decide) (by decide)) (hz _ _ (by decide) (by decide)) H
theorem Qbs (n w:Nat) (R:Nat->Nat->Option Int):AV.data 6 (.lst (Qab n w R))=true:=by
 show (Qab n w R).all (AV.data 5)=true;rw[List.all_eq_true];intro x hx;obtain⟨i,_,rfl⟩:=Qc4 hx;show (orow w (R i)).all (AV.data 4)=true;rw[List.all_eq_true];intro y hy;obtain⟨j,_,rfl⟩:=List.mem_map.mp hy;cases R i j<;>rfl
def uz (i j:Nat):Int:=if i=j then 1 else 0
theorem QrI (i j:Nat):idm i j=((uz i j:Int):Rat):=by
 unfold idm uz;split<;>rfl
theorem QrJ {C:Orc} (n:Nat) (hn:n≤3) (a0 a1 a2 a4 a5 a6 a7:AV) (H:AH):evE C [a0,a1,a2,.int n,a4,a5,a6,a7,uS,uS,uS,uS,uS,uS,uS,uS,uS,uS,uS] D37 H=.ok (.lst (Qab n n (zo uz))) H:=by
 have t9:n<1000000:=by omega
 refine (Qah (v:=.rng 0 n) (l:=(List.range n).map fun (i:Nat)=>AV.int (i:Int)) (g:=fun x=>match x with | .int i=>.lst ((List.range n).map fun j=>oi (zo uz i.toNat j)) | _=>.none) (by clear hn; w_fin) QaP (by simp; omega) rfl fun x hx=>?_).trans (by simp[newC,Qab,Function.comp_def])
 obtain⟨i,hi,rfl⟩:=List.mem_map.mp hx;refine⟨_,rfl,(Qah (v:=.rng 0 n) (l:=(List.range n).map fun (i:Nat)=>AV.int (i:Int)) (g:=fun x=>match x with | .int j=>.int (uz i j.toNat) | _=>.none) (by clear hn hx hi; w_fin) QaP (by simp; omega) rfl fun x hx=>?_).trans (by simp[newC,Function.comp_def,oi])⟩
 obtain⟨j,hj,rfl⟩:=List.mem_map.mp hx;refine⟨_,rfl,?_⟩;by_cases h:i=j
 ·have d:decide ((i:Int)=j)=true:=by simp[h]
  have e:uz i j=1:=by simp[uz,h]
  have e':uz i (j:Int).toNat=1:=e;clear h hx hi hj hn;w_fin
 ·have d:decide ((i:Int)=j)=false:=by simp; omega
  have e:uz i j=0:=by simp[uz,h]
  have e':uz i (j:Int).toNat=0:=e;clear h hx hi hj hn;w_fin
theorem QrK {n q:Nat} {z:Nat->Nat->Int} (hz:∀i j,i<n->j<q->sm 3 (z i j)):hqm 3 n q (zm z):=fun i j hi hj=>⟨hz i j hi hj,show 1<2 ^ 3 by decide⟩
theorem Qiq {n q:Nat} {M:Nat->Nat->Rat} (hn:n≤3) (h:hqm 3 n (n+q) M) (i j:Nat) (hi:i<n) (hj:j<q):hq 213 ((ech n M (n+q)).1 i (n+j)):=by
 obtain⟨h1,h2⟩:=QhF h (n+q) (Nat.le_refl _);exact (h1 i (n+j) hi (by omega)).mono (bk_le (by omega))
theorem QlF {n q:Nat} {z:Nat->Nat->Int} {B:Nat->Nat->Rat} :
  (fd (ech n (jn n (zm z) B) (n+q)).2 n=none∧Unit n n (ech n (jn n (zm z) B) (n+q)).1∧fd (ech n (jn n (zm z) idm) (n+n)).2 n=none∧Unit n n (ech n (jn n (zm z) idm) (n+n)).1∧∀w,w≤n->¬(mst (rowsOf n z) w).2<w) ∨
  ∃c,c<n∧fd (ech n (jn n (zm z) B) (n+q)).2 n=some c∧fd (ech n (jn n (zm z) idm) (n+n)).2 n=some c∧(mst (rowsOf n z) (c+1)).2<c+1∧∀w,w≤c->¬(mst (rowsOf n z) w).2<w:=by
 rcases QhL (n:=n) (q:=q) (z:=z) (B:=B) with ⟨f1,u1,m1⟩ | ⟨c,hc,f1,m1,k1⟩<;>rcases QhL (n:=n) (q:=n) (z:=z) (B:=idm) with ⟨f2,u2,m2⟩ | ⟨d,hd,f2,m2,k2⟩
 ·exact .inl ⟨f1,u1,f2,u2,m1⟩
 ·exact absurd m2 (m1 (d+1) hd)
 ·exact absurd m1 (m2 (c+1) hc)
 ·refine .inr ⟨c,hc,f1,?_,m1,k1⟩
  have:c=d:=by
   rcases Nat.lt_trichotomy c d with h | h | h
   ·exact absurd m1 (k2 (c+1) h)
   ·exact h
   ·exact absurd m2 (k1 (d+1) h)
  rw[this]; exact f2
theorem Qfc (hN:11≤N) (n q:Nat) (hn:n≤3) (h0:0<n) (hq':q≤3) (z b:Nat->Nat->Int) (hz:∀i j,i<n->j<n->sm 3 (z i j)) (hb:∀i j,i<n->j<q->sm 3 (b i j)) (fl:Bool) (hfl:fl=true->q=1) (H:AH) :
  (RN N).f 1111 [.lst (Qab n n (zo z)),.lst (Qab n q (zo b)),.bool fl] H=.ok (.bool true) H:=by
 have n8:n≤1000000:=by omega
 have n9:n<1000000:=by omega
 have q8:q≤1000000:=by omega
 have ol:=Qal n n (zo z);have g0:=Qav (w:=q) (R:=zo b) h0;have ob:=Qal n q (zo b);have l0:=Qaz q (zo b 0);have la:∀H,(RN (N-1)).f 1050 [.lst (Qab n n (zo z)),.int n] H=.ok (qmt n n (zm z)) H:=fun H=>QbE (N:=N-1) (by omega) n n (zo z) hn hn H
 have lb:∀H,(RN (N-1)).f 1050 [.lst (Qab n q (zo b)),.int q] H=.ok (qmt n q (zm b)) H:=fun H=>QbE (N:=N-1) (by omega) n q (zo b) hn hq' H
 have dt:=fun H=>R_det (N:=N-1) (by omega) n z hn h0 hz H
 have sg:=fun H=>QmU (N:=N-1) (by omega) n hn h0 z hz H
 have cd:=fun H=>Qb4 (H:=H) (a:=.lst [.tup [.int (detZ n z),.int 1]]) rfl rfl
 have un:=fun a1 a2 a4 a5 a6 a7 H=>QrJ (C:=RN (N-1)) n hn (.lst (Qab n n (zo z))) a1 a2 a4 a5 a6 a7 H
 have it:itemsOf (.rng 1 ((n+1:Nat):Int))=some ((rgn 1 (n+1)).map fun (i:Nat)=>AV.int (i:Int)):=Qny (a:=1) (b:=n+1);have m9:n+1<1000000:=by omega
 have n1:(1:Int).natAbs<1000000:=by decide
 have cl:=QaA n (fun i j=>qr (zm b i j)) q;have nq:n*q≤9:=Nat.mul_le_mul hn hq';have nq2:n*q≤100000:=by omega
 have ini:=QaX (N:=N-1) (by omega) "double" (cmj n q fun i j=>qr (zm b i j)) [];simp only[List.length_nil,List.nil_append] at ini;have inc:=Qam n q (zm b);have hA:=QrK hz;have hB:=QrK hb;have hI:hqm 3 n n idm:=fun i j _ _=>by unfold idm; split<;>exact⟨by decide,by decide⟩
 have anc:AV.ncs [.lst (Qab n n (zo z)),.lst (Qab n q (zo b)),.bool fl]=true:=by simp[AV.ncs,AV.nc,Qa4]
 rcases QlF (n:=n) (q:=q) (z:=z) (B:=zm b) with ⟨f1,u1,f2,u2,ms⟩ | ⟨c,hc,f1,f2,m1,ms⟩
 ·obtain⟨x6,dl⟩:=Qjn (N:=N-1) (by omega) n hn h0 z hz none (.inl ⟨rfl,ms⟩) (.lst (Qab n q (zo b))) (.bool fl) (qmt n n (zm z)) []
  simp only[DU] at dl;have sI:=fun H=>QmD (N:=N-1) (by omega) n (zm z) hn h0 hA f2 H
  have vI:=fun H=>QgF (N:=N-1) (by omega) n n hn h0 hn z uz (fun i j=>(ech n (jn n (zm z) idm) (n+n)).1 i (n+j)) hz (fun i j hi hj=>Qiq hn (Qij hA hI) i j hi hj) (fun i j hi hj=>(Qei u2 i j hi hj).trans (QrI i j)) H
  cases fl with
  | false =>
   have sM:=fun H=>QmE (N:=N-1) (by omega) n (zm z) q (zm b) hn h0 hq' hB hA f1 H
   have vM:=fun H=>QgF (N:=N-1) (by omega) n q hn h0 hq' z b (fun i j=>(ech n (jn n (zm z) (zm b)) (n+q)).1 i (n+j)) hz (fun i j hi hj=>Qiq hn (Qij hA hB) i j hi hj) (fun i j hi hj=>Qei u1 i j hi hj) H
   obtain⟨y1,b1⟩:=QgL (N:=N-1) (by omega) n q hn hq' (fun i j=>(ech n (jn n (zm z) (zm b)) (n+q)).1 i (n+j)) [.tup [.none,qmt n n (zm z)],.tup [.none,qmt n q (zm b)]] (Qab n q (zo b)) (Qab n q (zo b)) (.lst (Qab n n (zo z))) rfl false (.int n) (qmt n n (zm z)) x6 (qmt n q (zm b)) (.lst (Qab n n (zo uz))) uS uS uS [] (by simp) (fun h=>nomatch h) (Qbs _ _ _) (Qbs _ _ _) (sM []) vM
   obtain⟨y2,b2⟩:=QgL (N:=N-1) (by omega) n n hn hn (fun i j=>(ech n (jn n (zm z) idm) (n+n)).1 i (n+j)) [.tup [.none,qmt n n (zm z)]] (Qab n n (zo uz)) (Qab n q (zo b)) (.lst (Qab n n (zo z))) rfl false (.int n) (qmt n n (zm z)) x6 (qmt n q (zm b)) (.lst (Qab n n (zo uz))) (qmt n q fun i j=>(ech n (jn n (zm z) (zm b)) (n+q)).1 i (n+j)) (.str "") y1 [] (by simp) (fun h=>nomatch h) (Qbs _ _ _) (Qbs _ _ _) (sI []) vI
   simp only[eqB] at b1 b2;refine Qaa QaH (by omega) (ρ:=[.lst (Qab n n (zo z)),.lst (Qab n q (zo b)),.bool false,uS,uS,uS,uS,uS,uS,uS,uS,uS,uS,uS,uS,uS,uS,uS,uS]) rfl anc (H':=[]) ?_ rfl H
   clear hz hb hfl hn h0 hq' hA hB hI f1 u1 f2 u2 ms sI vI sM vM nq anc;simp only[Qaw];w_fin;simp only[Qb5,QaK];w_fin;simp only[Qb5,QaK];w_fin
  | true =>
   obtain rfl:=hfl rfl;simp only[Int.natCast_one] at lb;have sF:=fun H=>QmF (N:=N-1) (by omega) n (zm z) (zm b) hn h0 hB hA f1 H
   have vF:=fun H=>QgF (N:=N-1) (by omega) n 1 hn h0 hq' z b (fun i _=>(ech n (jn n (zm z) (zm b)) (n+1)).1 i n) hz (fun i j hi hj=>Qiq (q:=1) hn (Qij hA hB) i 0 hi (by decide)) (fun i j hi hj=>by
    have hj0:j=0:=by omega
    subst hj0;exact Qei u1 i 0 hi (by decide)) H
   obtain⟨w1,y1,b1⟩:=QmT (N:=N-1) (by omega) n hn (fun i=>(ech n (jn n (zm z) (zm b)) (n+1)).1 i n) (.tup [.none,qmt n n (zm z)]) (.tup [.none,qfl n (zm b)]) (Qab n 1 (zo b)) (.lst (Qab n n (zo z))) rfl (.int n) (qmt n n (zm z)) x6 (qfl n (zm b)) (.lst (Qab n n (zo uz))) uS uS uS [.dead] (Qbs _ _ _) (sF [.dead]) vF
   obtain⟨y2,b2⟩:=QgL (N:=N-1) (by omega) n n hn hn (fun i j=>(ech n (jn n (zm z) idm) (n+n)).1 i (n+j)) [.tup [.none,qmt n n (zm z)]] (Qab n n (zo uz)) (Qab n 1 (zo b)) (.lst (Qab n n (zo z))) rfl true (.int n) (qmt n n (zm z)) x6 (qfl n (zm b)) (.lst (Qab n n (zo uz))) w1 (.str "") y1 [.dead] (by simp) (fun _=>rfl) (Qbs _ _ _) (Qbs _ _ _) (sI [.dead]) vI
   simp only[eqB] at b1 b2;refine Qaa QaH (by omega) (ρ:=[.lst (Qab n n (zo z)),.lst (Qab n 1 (zo b)),.bool true,uS,uS,uS,uS,uS,uS,uS,uS,uS,uS,uS,uS,uS,uS,uS,uS]) rfl anc (H':=[.dead]) ?_ rfl H
   clear hz hb hfl hn h0 hq' hA hB hI f1 u1 f2 u2 ms sI vI sF vF nq anc;simp only[Qaw];w_fin;simp only[Qb5,QaK];w_fin;simp only[Qb5,QaK];w_fin
 ·obtain⟨x6,dl⟩:=Qjn (N:=N-1) (by omega) n hn h0 z hz (some c) (.inr ⟨c,hc,rfl,m1,ms⟩) (.lst (Qab n q (zo b))) (.bool fl) (qmt n n (zm z)) []
  have ed:DU (some c) n=sing (c+1):=if_neg (by omega);rw[ed] at dl;have sI:=fun H=>Qld (N:=N-1) (by omega) n (zm z) hn h0 hA c f2 H
  cases fl with
  | false =>
   have sM:=fun H=>Qle (N:=N-1) (by omega) n (zm z) q (zm b) hn h0 hq' hB hA c f1 H
   have b1:=fun x11 x12 x14=>QeF (C:=RN (N-1)) (c+1) (by omega) (.lst [.tup [.none,qmt n n (zm z)],.tup [.none,qmt n q (zm b)]]) rfl (.lst (Qab n n (zo z))) (.lst (Qab n q (zo b))) (.bool false) (.int n) (qmt n n (zm z)) x6 (qmt n q (zm b)) (.lst (Qab n n (zo uz))) (.lst (Qab n q (zo b))) x11 x12 x14 [] (sM [])
   have b2:=fun x11 x12 x14=>QeF (C:=RN (N-1)) (c+1) (by omega) (.lst [.tup [.none,qmt n n (zm z)]]) rfl (.lst (Qab n n (zo z))) (.lst (Qab n q (zo b))) (.bool false) (.int n) (qmt n n (zm z)) x6 (qmt n q (zm b)) (.lst (Qab n n (zo uz))) (.lst (Qab n n (zo uz))) x11 x12 x14 [] (sI [])
   simp only[eqB] at b1 b2;refine Qaa QaH (by omega) (ρ:=[.lst (Qab n n (zo z)),.lst (Qab n q (zo b)),.bool false,uS,uS,uS,uS,uS,uS,uS,uS,uS,uS,uS,uS,uS,uS,uS,uS]) rfl anc (H':=[]) ?_ rfl H
   clear hz hb hfl hn h0 hq' hA hB hI f1 f2 ms m1 sI sM nq anc ed hc;simp only[Qaw];w_fin;simp only[Qb5,QaK];w_fin;simp only[Qb5,QaK];w_fin
  | true =>
   obtain rfl:=hfl rfl;simp only[Int.natCast_one] at lb;have sF:=fun H=>Qlf (N:=N-1) (by omega) n (zm z) (zm b) hn h0 hB hA c f1 H
   have b1:=fun x11 x12 x14=>QeF (C:=RN (N-1)) (c+1) (by omega) (.lst [.tup [.none,qmt n n (zm z)],.tup [.none,qfl n (zm b)]]) rfl (.lst (Qab n n (zo z))) (.lst (Qab n 1 (zo b))) (.bool true) (.int n) (qmt n n (zm z)) x6 (qfl n (zm b)) (.lst (Qab n n (zo uz))) (.lst (Qab n 1 (zo b))) x11 x12 x14 [.dead] (sF [.dead])
   have b2:=fun x11 x12 x14=>QeF (C:=RN (N-1)) (c+1) (by omega) (.lst [.tup [.none,qmt n n (zm z)]]) rfl (.lst (Qab n n (zo z))) (.lst (Qab n 1 (zo b))) (.bool true) (.int n) (qmt n n (zm z)) x6 (qfl n (zm b)) (.lst (Qab n n (zo uz))) (.lst (Qab n n (zo uz))) x11 x12 x14 [.dead] (sI [.dead])
   simp only[eqB] at b1 b2;refine Qaa QaH (by omega) (ρ:=[.lst (Qab n n (zo z)),.lst (Qab n 1 (zo b)),.bool true,uS,uS,uS,uS,uS,uS,uS,uS,uS,uS,uS,uS,uS,uS,uS,uS]) rfl anc (H':=[.dead]) ?_ rfl H
   clear hz hb hfl hn h0 hq' hA hB hI f1 f2 ms m1 sI sF nq anc ed hc;simp only[Qaw];w_fin;simp only[Qb5,QaK];w_fin;simp only[Qb5,QaK];w_fin
theorem Qpl {C:Orc} {ρ:List AV} {H:AH} (a:PE):evE C ρ (.intof a) H=(evE C ρ a H).bind fun x H=>match x with | .int i=>.ok (.int i) H | _=>.stuck:=by rw[evE]; first | done | rfl
theorem Qpm {C:Orc} {ρ:List AV} {H:AH} (a:PE):evE C ρ (.sum a) H=(evE C ρ a H).bind fun x H=>match x with
  | .lst l=>.ofOpt ((sumInts l).map .int) H
  | _=>.stuck:=by rw[evE]; first | done | rfl
theorem Qd2 {t w:Nat} {R S:Nat->Nat->Option Int} (h:∀i j,i<t->j<w->R i j=S i j):Qab t w R=Qab t w S :=
 Qa5 fun i hi=>congrArg AV.lst (Qa5 fun j hj=>by rw[h i j hi hj])
theorem QlG (n w:Nat) (R:Nat->Nat->Option Int) (i:Nat) (r:Nat->Option Int):(Qab n w R).set i (.lst (orow w r))=Qab n w (upO R i r):=by
 apply List.ext_getElem?;intro k;rw[List.getElem?_set,Qal];by_cases hk:i=k
 ·subst hk
  rw[if_pos rfl];by_cases hi:i<n
  ·rw[if_pos hi,Qav hi]; simp[upO]
  ·rw[if_neg hi,List.getElem?_eq_none (by rw[Qal]; omega)]
 ·rw[if_neg hk]
  by_cases hi:k<n
  ·rw[Qav hi,Qav hi]; simp[upO,Ne.symm hk]
  ·rw[List.getElem?_eq_none (by rw[Qal]; omega),List.getElem?_eq_none (by rw[Qal]; omega)]
theorem Qcp {x:Option Int} (h:OkE false x):x=some (x.getD 0)∧sm 3 (x.getD 0):=by
 cases x with
 | none=>exact absurd (h.1 rfl) Bool.false_ne_true
 | some a =>
  refine⟨rfl,?_⟩;have:=h.2 a rfl;show a.natAbs<8;omega
theorem QnK {b:Bool} {x:Option Int} (h:OkE b x):E4 x:=h.2
theorem QnL (hN:2≤N) (L:Nat) (h0:0<L) (hL:L≤3) (p q:AC) (T:AH) (hp:PoolOk p q) :
  ∃(k1 k2:Nat) (R:Nat->Nat->Option Int) (pa qa pb qb p' q':AC) (T':AH),k1<L∧k2<L∧(∀i j,i<1+k1->j<1+k2->OkE true (R i j))∧PoolOk p' q'∧T'[T.length]?=some (.lst (Qab (1+k1) (1+k2) R)) ∧
   (RN N).f 1038 [.cell 1,.int L] (p::q::T)=.ok (.int k1) (pa::qa::T)∧(RN N).f 1038 [.cell 1,.int L] (pa::qa::T)=.ok (.int k2) (pb::qb::T) ∧
   (RN N).f 1045 [.cell 1,.int ((1+k1:Nat):Int),.int ((1+k2:Nat):Int),.bool true] (pb::qb::T)=.ok (.cell (T.length+1+1)) (p'::q'::T'):=by
 obtain⟨k1,p1,q1,hk1,hp1,e1⟩:=Qe7 (N:=N) (by omega) L h0 (by omega) p q T hp;obtain⟨k2,p2,q2,hk2,hp2,e2⟩:=Qe7 (N:=N) (by omega) L h0 (by omega) p1 q1 T hp1;obtain⟨R,p3,q3,T3,hR,hp3,hT,_,e3⟩:=Qde hN (1+k1) (1+k2) (by omega) (by omega) true p2 q2 T hp2;exact⟨k1,k2,R,p1,q1,p2,q2,p3,q3,T3,hk1,hk2,hR,hp3,hT,e1,e2,e3⟩
def lawT:List PS:=[.asg (.loc 7) D120,.asg (.loc 8) D93,.ret D83]
theorem Qjo (hN:11≤N) (n:Nat) (hn:n≤3) (h0:0<n) (z:Nat->Nat->Int) (hz:∀i j,i<n->j<n->sm 3 (z i j)) (a0 a1 a3 a4:AV) (p q:AC) (T:AH) (c:Nat) (hp:PoolOk p q) (hc:T[c]?=some (.lst (Qab n n (zo z)))) :
  ∃H',(evSs (RN N) lawT [a0,a1,.cell 1,a3,a4,.int n,.cell (c+1+1),uS,uS,uS,uS] (p::q::T)).out=.ok (.bool true) H':=by
 obtain⟨k1,p1,q1,hk1,hp1,e1⟩:=Qe7 (N:=N) (by omega) 2 (by decide) (by decide) p q T hp;have e1':(RN N).f 1038 [.cell 1,.int 2] (p::q::T)=.ok (.int k1) (p1::q1::T):=e1;have hlt:c<T.length:=(List.getElem?_eq_some_iff.mp hc).1;have on:=Qa4 n n (zo z);by_cases h1:k1=1
 ·obtain⟨R,p3,q3,T3,hR,hp3,hT,hk,e3⟩:=Qde (N:=N) (by omega) n 1 hn (by decide) false p1 q1 T hp1
  have e3':(RN N).f 1045 [.cell 1,.int n,.int 1,.bool false] (p1::q1::T)=.ok (.cell (T.length+1+1)) (p3::q3::T3):=e3;have on2:=Qa4 n 1 R;have eo:Qab n 1 R=Qab n 1 (zo fun i j=>(R i j).getD 0):=Qd2 fun i j hi hj=>(Qcp (hR i j hi hj)).1
  have g:(T3.set T.length .dead)[c]?=some (.lst (Qab n n (zo z))):=by
   rw[List.getElem?_set_ne (by omega),hk c hlt,hc]
  have eq:=fun H=>Qfc (N:=N) hN n 1 hn h0 (by decide) z (fun i j=>(R i j).getD 0) hz (fun i j hi hj=>(Qcp (hR i j hi hj)).2) true (fun _=>rfl) H
  rw[←eo] at eq;have d:decide ((k1:Int)=1)=true:=by simp[h1]
  refine⟨p3::q3::(T3.set T.length .dead).set c .dead,?_⟩;clear hp hp1 hp3 hR hk1 hk h1 hlt hn h0 hz e1 e3 eo hc;simp only[lawT];w_fin
 ·obtain⟨k2,p2,q2,hk2,hp2,e2⟩:=Qe7 (N:=N) (by omega) 2 (by decide) (by decide) p1 q1 T hp1
  have e2':(RN N).f 1038 [.cell 1,.int 2] (p1::q1::T)=.ok (.int k2) (p2::q2::T):=e2;obtain⟨R,p3,q3,T3,hR,hp3,hT,hk,e3⟩:=Qde (N:=N) (by omega) n (1+k2) hn (by omega) false p2 q2 T hp2;have on2:=Qa4 n (1+k2) R;have eo:Qab n (1+k2) R=Qab n (1+k2) (zo fun i j=>(R i j).getD 0):=Qd2 fun i j hi hj=>(Qcp (hR i j hi hj)).1
  have g:(T3.set T.length .dead)[c]?=some (.lst (Qab n n (zo z))):=by
   rw[List.getElem?_set_ne (by omega),hk c hlt,hc]
  have eq:=fun H=>Qfc (N:=N) hN n (1+k2) hn h0 (by omega) z (fun i j=>(R i j).getD 0) hz (fun i j hi hj=>(Qcp (hR i j hi hj)).2) false (fun h=>nomatch h) H
  rw[←eo] at eq;have d:decide ((k1:Int)=1)=false:=by simp; omega
  refine⟨p3::q3::(T3.set T.length .dead).set c .dead,?_⟩;clear hp hp1 hp2 hp3 hR hk1 hk2 hk h1 hlt hn h0 hz e1 e2 eo hc;simp only[lawT];w_fin
theorem QgM:Qfg.body=PS.asg (.loc 1) D42::PS.asg (.loc 2) (.lst [(.list D1 true),(.int 0),D104] true)::PS.asg (.loc 3) D119::PS.asg (.loc 4) D118::PS.ite D45 [.ret (.tru false)] []::PS.asg (.loc 5) D21::PS.asg (.loc 6) (.call D23 [D2,D6,D6,(.tru false)])::PS.ite D78 [.asg (.sub D9 (.bin .sub D6 (.int 1))) D35] []::lawT:=rfl
theorem Qer:∀l:List Int,∃s,sumInts (intl l)=some s
 | []=>⟨0,rfl⟩
 | x::l=>by
  obtain⟨s,e⟩:=Qer l;refine⟨x+s,?_⟩;show (sumInts (intl l)).map (x+·)=_;rw[e]; rfl
theorem QlH {C:Orc} (l:List Int) (hl:l.length≤63):evE C [.lst (intl l),uS,uS,uS,uS,uS,uS,uS,uS,uS,uS] D42 []=.ok (.lst (intl l)) []:=by
 have il:(intl l).length≤63:=by simp[intl]; exact hl
 have et:(intl l).take 63=intl l:=List.take_of_length_le il;have up:=Qin (C:=C) (ρ:=[.lst (intl l),uS,uS,uS,uS,uS,uS,uS,uS,uS,uS]) (H:=[]) (o:=.loc 0) (i:=.int 63) (l:=intl l) (k:=63) (by rw[Qfh]; rfl) (Qmf 63) (by decide) (by omega);rw[et] at up;refine (Qah (v:=.lst (intl l)) (l:=intl l) (g:=fun x=>x) up rfl (by omega) rfl fun x hx=>?_).trans (by simp only[newC,List.map_id']; rfl)
 obtain⟨a,_,rfl⟩:=List.mem_map.mp hx;refine⟨_,rfl,?_⟩;rw[Qpl];clear hx il et up;w_fin
theorem QmV {C:Orc} (n w:Nat) (hw:w≤3) (h0:0<n) (hn:n≤3) (z:Nat->Nat->Int) (a0 a1 a3 a4 a5:AV) (p q:AC) (T:AH) (c:Nat) (hc:T[c]?=some (.lst (Qab n w (zo z)))) :
  evE C [a0,a1,.cell 1,a3,a4,a5,.cell (c+1+1),uS,uS,uS,uS] D35 (p::q::T)=.ok (.lst (orow w fun j=>some (0-z 0 j))) (p::q::T):=by
 have ol:=Qal n w (zo z);have g:=Qav (w:=w) (R:=zo z) h0;have n8:n≤1000000:=by omega
 refine (Qah (v:=.lst (orow w (zo z 0))) (l:=orow w (zo z 0)) (g:=fun x=>match x with | .int k=>.int (0-k) | _=>.none) (by clear hw h0 hn; w_fin) rfl (by rw[Qaz]; omega) rfl fun x hx=>?_).trans ?_
 ·obtain⟨j,_,rfl⟩:=List.mem_map.mp hx
  refine⟨_,rfl,?_⟩;simp only[oi];clear hx hw h0 hn hc;w_fin
 ·simp only[newC,QmJ,Bool.false_eq_true,if_false]
  rfl
theorem QmW (hN:11≤N):LawRuns N:=by
 intro l hl;have hH:∀{r:Out AV},(evSs (RN N) Qfg.body [.lst (intl l),uS,uS,uS,uS,uS,uS,uS,uS,uS,uS] []).out=r->runF (RN N) Qfg [.lst (l.map .int)] []=r:=fun h=>(QcV rfl).trans h
 have cs:=QlH (C:=RN N) l hl;obtain⟨s,es⟩:=Qer l;have il:(intl l).length≤100000:=by simp[intl]; omega
 obtain⟨m,em,hm,_⟩:∃m:Nat,s.fmod 99991=m∧m<99991∧True:=by
  have h1:=Int.emod_nonneg s (show (99991:Int)≠0 by decide);have h2:=Int.emod_lt_of_pos s (show (0:Int)<99991 by decide);rw[Int.fmod_eq_emod_of_nonneg _ (by decide)];exact⟨(s % 99991).toNat,by omega,by omega,trivial⟩
 have md:pBin .mod (.int s) (.int 99991)=some (.int m):=by
  rw[Qes (by decide) (Qaf (by decide))]; exact congrArg (fun x=>some (AV.int x)) em
 have ad:=QdA (m:Int) 7;have hp0:PoolOk (.lst (intl l)) (.lst [.cell 0,.int 0,.int ((m:Int)+7)]):=⟨l,0,(m:Int)+7,rfl,rfl,by decide,by omega,by omega,hl⟩
 obtain⟨ka,kb,U,pa,qa,pb,qb,p1,q1,T1,hka,hkb,hU,hp1,hT1,e1a,e1b,e1c⟩:=QnL (N:=N) (by omega) 3 (by decide) (by decide) _ _ [] hp0;have e1a':(RN N).f 1038 [.cell 1,.int 3] [.lst (intl l),.lst [.cell 0,.int 0,.int ((m:Int)+7)]]=.ok (.int ka) [pa,qa]:=e1a;have e1b':(RN N).f 1038 [.cell 1,.int 3] [pa,qa]=.ok (.int kb) [pb,qb]:=e1b;have e1c':(RN N).f 1045 [.cell 1,.int ((1+ka:Nat):Int),.int ((1+kb:Nat):Int),.bool true] [pb,qb]=.ok (.cell 2) (p1::q1::T1):=e1c;have hT1':T1[0]?=some (.lst (Qab (1+ka) (1+kb) U)):=hT1;obtain⟨T1d,sd1⟩:∃X:AH,List.set T1 0 .dead=X:=⟨_,rfl⟩;obtain⟨kc,kd,V,pc,qc,pd,qd,p2,q2,T2',hkc,hkd,hV,hp2,hT2,e2a,e2b,e2c⟩:=QnL (N:=N) (by omega) 2 (by decide) (by decide) p1 q1 T1d hp1;have e2a':(RN N).f 1038 [.cell 1,.int 2] (p1::q1::T1d)=.ok (.int kc) (pc::qc::T1d):=e2a;have e2b':(RN N).f 1038 [.cell 1,.int 2] (pc::qc::T1d)=.ok (.int kd) (pd::qd::T1d):=e2b
 obtain⟨T2,sd2⟩:∃X:AH,List.set T2' T1d.length .dead=X:=⟨_,rfl⟩;have nU:=Qa4 (1+ka) (1+kb) U;have nV:=Qa4 (1+kc) (1+kd) V;have pr:=fun H=>QjR (N:=N) (by omega) (1+ka) (1+kb) (1+kc) (1+kd) U V (by omega) (by omega) (by omega) (by omega) (by omega) (by omega) (by omega) (by omega) (fun i j hi hj=>QnK (hU i j hi hj)) (fun i j hi hj=>QnK (hV i j hi hj)) H
 have pl:=fun H=>QmM (N:=N) (by omega) (1+ka) (1+kb) U (by omega) (by omega) (by omega) (by omega) H
 obtain⟨k,p3,q3,hk,hp3,e3⟩:=Qe7 (N:=N) (by omega) 3 (by decide) (by decide) p2 q2 T2 hp2;have e3':(RN N).f 1038 [.cell 1,.int 3] (p2::q2::T2)=.ok (.int k) (p3::q3::T2):=e3;obtain⟨R,p4,q4,T4,hR,hp4,hT4,_,e4⟩:=Qde (N:=N) (by omega) (1+k) (1+k) (by omega) (by omega) false p3 q3 T2 hp3;obtain⟨z,hzd⟩:∃z:Nat->Nat->Int,z=fun i j=>(R i j).getD 0:=⟨_,rfl⟩
 have eo:Qab (1+k) (1+k) R=Qab (1+k) (1+k) (zo z):=Qd2 fun i j hi hj=>by rw[hzd]; exact (Qcp (hR i j hi hj)).1
 have hz:∀i j,i<1+k->j<1+k->sm 3 (z i j):=fun i j hi hj=>by rw[hzd]; exact (Qcp (hR i j hi hj)).2
 rw[eo] at hT4;obtain⟨k5,p5,q5,hk5,hp5,e5⟩:=Qe7 (N:=N) (by omega) 4 (by decide) (by decide) p4 q4 T4 hp4;have e5':(RN N).f 1038 [.cell 1,.int 4] (p4::q4::T4)=.ok (.int k5) (p5::q5::T4):=e5;by_cases hc:k5=1∧1+k>1
 ·have d1:decide ((k5:Int)=1)=true:=by simp[hc.1]
  have d2:decide (((1+k:Nat):Int)>1)=true:=decide_eq_true (by omega)
  have ng:=QmV (C:=RN N) (1+k) (1+k) (by omega) (by omega) (by omega) z (.lst (intl l)) (.lst (intl l)) (.lst (Qab (1+ka) (1+kb) U)) (.lst (Qab (1+kc) (1+kd) V)) (.int ((1+k:Nat):Int)) p5 q5 T4 T2.length hT4
  obtain⟨z2,hz2⟩:∃z2:Nat->Nat->Int,z2=fun i j=>if i=k then 0-z 0 j else z i j:=⟨_,rfl⟩
  have os:=QlG (1+k) (1+k) (zo z) k fun j=>some (0-z 0 j)
  have eo2:Qab (1+k) (1+k) (upO (zo z) k fun j=>some (0-z 0 j))=Qab (1+k) (1+k) (zo z2):=Qd2 fun i j hi hj=>by
   rw[hz2];unfold upO;show _=some (if i=k then 0-z 0 j else z i j);by_cases h:i=k
   ·rw[if_pos h,if_pos h]
   ·rw[if_neg h,if_neg h]
  rw[eo2] at os;have hsz:∀i j,i<1+k->j<1+k->sm 3 (z2 i j):=fun i j hi hj=>by
   rw[hz2];dsimp only;split
   ·have:=hz 0 j (by omega) hj
    unfold sm at this ⊢;rw[Int.zero_sub,Int.natAbs_neg]; exact this
   ·exact hz i j hi hj
  have hlt:T2.length<T4.length:=(List.getElem?_eq_some_iff.mp hT4).1;obtain⟨H',fin⟩:=Qjo (N:=N) hN (1+k) (by omega) (by omega) z2 hsz (.lst (intl l)) (.lst (intl l)) (.lst (Qab (1+ka) (1+kb) U)) (.lst (Qab (1+kc) (1+kd) V)) p5 q5 (List.set T4 T2.length (.lst (Qab (1+k) (1+k) (zo z2)))) T2.length hp5 (List.getElem?_set_self hlt)
  refine⟨H',hH ?_⟩;have sb:((1+k:Nat):Int)-1=k:=by omega
  have ol:=Qal (1+k) (1+k) (zo z);have kI:(k:Int)<((1+k:Nat):Int):=by omega
  have k8:1+k≤1000000:=by omega
  clear hl hm hp0 hp1 hp2 hp3 hp4 hp5 hU hV hR hka hkb hkc hkd hk hk5 hc hz hsz hzd hz2 eo eo2 em e1a e1b e1c e2a e2b e3 e5 hlt;rw[QgM];w_fin;simp only[Qpm];w_fin
 ·obtain⟨H',fin⟩:=Qjo (N:=N) hN (1+k) (by omega) (by omega) z hz (.lst (intl l)) (.lst (intl l)) (.lst (Qab (1+ka) (1+kb) U)) (.lst (Qab (1+kc) (1+kd) V)) p5 q5 T4 T2.length hp5 hT4
  refine⟨H',hH ?_⟩;by_cases h5:k5=1
  ·have d1:decide ((k5:Int)=1)=true:=by simp[h5]
   have d2:decide (((1+k:Nat):Int)>1)=false:=decide_eq_false (by omega)
   clear hl hm hp0 hp1 hp2 hp3 hp4 hp5 hU hV hR hka hkb hkc hkd hk hk5 hc hz hzd eo em e1a e1b e1c e2a e2b e3 e5 h5;rw[QgM];w_fin;simp only[Qpm];w_fin
  ·have d1:decide ((k5:Int)=1)=false:=by simp; omega
   clear hl hm hp0 hp1 hp2 hp3 hp4 hp5 hU hV hR hka hkb hkc hkd hk hk5 hc hz hzd eo em e1a e1b e1c e2a e2b e3 e5 h5;rw[QgM];w_fin;simp only[Qpm];w_fin
theorem L0_holds:L0.Holds:=Qkl (N:=20) (by decide) (QmW (by decide))
end
end
end
end Mine
theorem PySem.Challenge.cw_nz0542_01_holds : PySem.Challenge.rw_nz0542_01.Holds :=
  Mine.L0_holds
