import PyProof.Rows.All
import Wide.All
import OpenK.AllK
import Wide.FinOn
import PySem.Challenge.RW_up0031_01
set_option Elab.async false
set_option linter.all false
namespace H31
noncomputable section
section
open PySem PySem.W
set_option maxRecDepth 1000000
set_option maxHeartbeats 0
abbrev pw:Program:=PySem.Challenge.pw_up0031_01
def st (i:Nat):Stmt:=pw.main.body.getD i (.Pass default)
def me (i j:Nat):Stmt:=match st i with| .ClassDef _ _ _ b .. =>b.getD j (.Pass default)|_=>.Pass default
def m (x:String):Str:=Str.ofString x
def hs (P:Params)(x:Str):Int:=if x.cps.isEmpty then 0 else reduceHash (P.strHash x.cps)
def en (P:Params)(x:String)(t:Nat)(v:Value):DictEntry:=⟨hs P (m x),.str (m x) t,v⟩
def fn (s:Stmt)(q:Option String)(g:Addr)(d pm cd:Value):FuncData:=match s with
 | .FunctionDef n a b _ _ _ sc _ _ _=> {name:=n,qualname:=match q with|none=>n|some x=>m x,params:=a,body:=.stmts b,scope:=sc,globals:=g,closure:=[],defaults:=d,kwdefaults:=.none,pyModule:=pm,code:=cd}
 |_=> {name:=m "",qualname:=m "",params:=⟨[],[],none,[],[],none,[]⟩,body:=.stmts [],scope:=default,globals:=g,closure:=[],defaults:=d,kwdefaults:=.none}
def eE:BT→Nat→List Obj→BT
 |t,_,[] =>t
 |t,n,o::l=>eE (t.ins n o) (n+1) l
def eZ:BT→List (Nat×Obj)→BT
 |t,[] =>t
 |t,(a,o)::l=>eZ (t.set a fun _=>o) l
def Aa a b:=(.str (m a) b:Value)
def Ab a b c d:=en a b c (.ref d)
def Ac a b c d:=(⟨.type a,b,c,d⟩:PySem.Obj)
def Ae a:=(.int a 0:Value)
def Af a:=Aa "kindkeep.relbase" a
def Ag a b c:=Ac a none b c
def Ai a:=Aa "kindkeep.hosts" a
def Aj a:=Aa "kindkeep.types" a
def Ak:=Ae 0
def Al a b c d e:=en a b c (.int d e)
def Am a b:=Ag "builtin_function_or_method" a b
def An a b:=Ag "tuple" a b
def Ao a:=Aa "law_up0031_01" a
def Ap a b c:=Ab a "__static_attributes__" b c
def Aq a b c:=An (.seq a b) c
def Ar a:=(some (.ref a):Option Value)
def Av a:=Aa "kindkeep.diags" a
def Aw a:=Aa "/claim/cut.py" a
def Ax a b c d:=Al a "__firstlineno__" b c d
def Az:Value:=.builtin "object.__init_subclass__"
def AA a b c:=Ag a (.fields b) c
def AB:=Af 1347
def AC a:=Aa "kindkeep.typeops" a
def AD:Value:=.type "object"
def AE:=Ai 987
def AF:Value:=.builtin "type.__prepare__"
def AG:=Aj 349
def AI a b:=Aq a b #[]
def AJ a b c:=en a "__module__" b c
def AL a b:=AA "getset_descriptor" a b
def AM:=Ao 1939
def AN:Value:=.builtin "object.__new__"
def AO:Value:=.builtin "ExceptionGroup.__weakref__"
def AP a b c:=en a "__name__" b c
def AQ a:=Aa "kindkeep.relkeys" a
def AR a b:=(some (Aa a b):Option Value)
def AS a b:=Am (.fields a) b
def AV:=Ae 4
def AW:Value:=.builtin "function.__dict__#set"
def AX a b c d:=Ag a (.dict b c) d
def AY a b c:=Ab a "__init__" b c
def B0:Value:=.builtin "function.__dict__"
def B1:Value:=.bool true
def B2 a b c:=AX "dict" a b c
def B3:Value:=.type "Exception"
def B4 a b c:=en a "__qualname__" b c
def B5:=Av 194
def B6:Value:=.bool false
def B7:Value:=.type "type"
def B8 a:=AI a 0
def B9:=B8 #[]
def Ba:Value:=.builtin "Exception.__new__"
def Bb a:=Aa "kindkeep.relopen" a
def Bc a:=Aa "kindkeep.rawhost" a
def Bf a b c d:=(⟨a,b,.fields c,d⟩:PySem.Obj)
def Bg:=AC 766
def Bh a b c:=en a "__doc__" b c
def Bk:Value:=.ref 39
def Bl:Option Value:=some B1
def Bm a b:=Ag "type" a b
def Bn a b:=Bm (.cls a) b
def Bo:Value:=.type "BaseException"
def Bp a:=Aa "__weakref__" a
def Bq:Value:=.ref 811
def Br:Value:=.ref 629
def Bt:=AQ 1786
def Bu a b:=Ag "frame" a b
def Bv a b c:=(#[.int a b,c]:Array Value)
def Bw a b:=AA a b #[]
def Bx a b:=B2 a b #[]
def By a:=AS a #[]
def Bz a:=Bw "super" a
def BA a b c:=Ab a "__weakref__" b c
def BC a b c:=B8 (Bv a b c)
def BD:=m "KeepError"
def BE a:=Bu .plain a
def BF a:=Bw "code" a
def BH:=Ae 181
def BJ a b:=By #[a,b]
def BK a b c d e f:=(#[a,b,c,d,some e,f]:Array (Option Value))
def BL a b:=Bh a b .none
def BM a b c:=(#[a,b,.ref c]:Array Value)
def BN a:=Aa "__dict__" a
def BO a:=Aa "kindkeep.shapes" a
def BQ a:=AR "KeepError" a
def BU a b c:=Bf .none a b c
def BW a b c d e f g:=Bn a (BK b c d e f g)
def BX a b c d e f:=BW a b none c d e f
def BY:=Bb 1893
def BZ:=Bc 1859
def C0 a b c:=Ab a "__dict__" b c
def Ca:Value:=.ref 874
def Cb:Value:=.ref 203
def Cc:Value:=.ref 182
def Cd:Value:=.ref 120
def Ce:=Ar 3
def Cg a:=AL a #[]
def Ch a b:=BU none a b
def Ci a:=(.int a 353:Value)
def Cj:Value:=.ref 1141
def Ck:Value:=.ref 1122
def Cl:=m "RelRule"
def Cm:=Ar 0
def Co:Value:=.ref 60
def Cp a:=Aa "kindkeep.kindtpl" a
def Cq a b c d:=B4 a b (Aa c d)
def Cr a b c d:=BC a b (Aa c d)
def Cs a:=Ch a #[]
def Ct a b c d:=Cg #[a,b,c,d]
def Cv a b c d e f g:=BX a b (AR c d) e f g
def Cw:Value:=.ref 80
def Cy:=Ci 2
def Cz a b c d:=(⟨a,.int b c,d⟩:DictEntry)
def CA:=m "Thin"
def CB a b c d e f g h:=Cv a b c d (AR e f) g h
def CC a b c d e f g:=BE #[a,b,c,d,e,f,g]
def CD a b c d e f:=CC a b c none d e f
def CE a b c d e:=CD a b c d none e
def CF a b c d e:=CE a b c (some d) e
def CH a b c:=Ct a b c .none
def CI a b c:=Cr a 351 b c
def CJ a b c:=Bz (BM a b c)
def CL a:=BJ Az a
def CM a:=BJ AF a
def CN:=CM B7
def CO a b c d e:=CF (Ar a) b c d e
def CP a b c d e:=CO a b (Ar c) d e
def CQ a:=(.int 1 a:Value)
def CR:=BO 947
def CS a b c d:=BC a b (.int c d)
def ME (P:Params):List DictEntry:=[BL P 166,en P "__package__" 167 .none,en P "__loader__" 168 (.builtin "__main__.__loader__#opaque"),en P "__spec__" 169 .none,Ab P "__annotations__" 170 6,Ab P "__builtins__" 171 4,en P "__file__" 173 (Aw 172),en P "__cached__" 174 .none,Ab P "_wall" 193 21,Al P "U_ANY" 197 1 196,Al P "U_PROP" 199 3 198,Al P "U_INDEX" 201 5 200,Al P "U_ENUM" 203 10 202,Al P "U_OPTION" 205 11 204,Al P "U_VAR" 207 15 206,Ab P "KeepError" 238 39,Ab P "TooDeep" 267 60,Ab P "HostFault" 294 80,Ab P "Notes" 348 120,Al P "Y_KEY" 352 1 351,Al P "Y_BOOL" 354 2 353,Al P "Y_STR" 356 3 355,Al P "Y_NUM" 358 4 357,Al P "Y_ENUM" 360 5 359,Al P "Y_UNION" 362 6 361,Al P "Y_INTER" 364 7 363,Al P "Y_OBJ" 366 8 365,Al P "Y_REF" 368 9 367,Al P "Y_PARAM" 370 10 369,Al P "Y_ARRAY" 372 11 371,Al P "Y_TUPLE" 374 12 373,Al P "Y_SIG" 376 13 375,Al P "Y_KEYOF" 378 14 377,Al P "Y_INDEX" 380 15 379,Al P "Y_COND" 382 16 381,Al P "Y_MAPPED" 384 17 383,Al P "Y_TPL" 386 18 385,Al P "Y_ALIAS" 388 19 387,Al P "ANY" 390 0 389,Al P "UNKNOWN" 392 1 391,Al P "NEVER" 394 2 393,Al P "VOID" 396 3 395,Al P "UNDEF" 398 4 397,Al P "NULLT" 400 5 399,Al P "STRING" 402 6 401,Al P "NUMBER" 404 7 403,Al P "FALSE_T" 406 8 405,Al P "TRUE_T" 408 9 407,Al P "OBJECTT" 410 10 409,Al P "EMPTY" 412 11 411,Al P "ERR" 414 13 413,Al P "FRESH_F" 416 14 415,Al P "FRESH_T" 418 15 417,Al P "P_OPT" 420 1 419,Al P "P_PRIVATE" 422 8 421,Al P "P_PROTECTED" 424 16 423,Al P "E_OPT" 426 1 425,Al P "E_REST" 428 2 427,Al P "E_SPREAD" 430 3 429,Al P "D_OBJALIAS" 432 3 431,Al P "FAM_OTHER" 434 0 433,Al P "FAM_STR" 436 1 435,Al P "FAM_NUM" 438 2 437,Al P "FAM_BOOL" 440 3 439,Al P "FAM_NULL" 442 4 441,Al P "FAM_UNDEF" 444 5 443,Al P "FAM_VOID" 446 6 445,Al P "FAM_OBJ" 448 7 447,Al P "MAX_UNION" 450 400 449,Ab P "FIRST_ROWS" 472 147,Ab P "LITERAL_ROWS" 473 148,Ab P "MARKED_ROWS" 474 149,Ab P "OBJECT_ROWS" 475 150,Ab P "KEY_FAMILIES" 482 151,Ab P "TypeTable" 537 182,Ab P "Decl" 582 203,Ab P "kind_of" 590 214,Ab P "str_type" 600 222,Ab P "func_type" 608 229,Ab P "new_param" 623 237,Ab P "new_decl" 633 244,Ab P "parts_of" 642 251,Ab P "whole_of_row" 650 258,Ab P "regular_twin" 659 265,Ab P "join_bools" 666 272,Ab P "stays_beside" 675 279,Ab P "top_of" 683 286,Ab P "union" 689 291,Ab P "add_undef" 697 298,Ab P "is_literal" 705 305,Ab P "is_unit" 713 312,Ab P "is_fresh" 722 319,Ab P "regular_one" 730 326,Ab P "common_family" 736 331,Ab P "meet_family" 747 338,Ab P "family" 758 345,Ab P "is_nullish_family" 765 352,Al P "MAX_DRAWN" 769 200 768,Al P "MEET_NEVER" 771 0 770,Al P "MEET_LEFT" 773 1 772,Al P "MEET_RIGHT" 775 2 774,Al P "MEET_BOTH" 777 3 776,Ab P "all_units" 783 357,Ab P "value_literal" 792 364,Ab P "kinds_apart" 801 371,Ab P "units_clash" 807 376,Ab P "known_decl" 815 383,Ab P "body_props" 824 390,Ab P "flat_props" 841 397,Ab P "shapes_clash" 847 402,Ab P "meet_nullish" 857 409,Ab P "meet_values" 868 416,Ab P "meet_objects" 879 423,Ab P "meet_case" 890 430,Ab P "lay_on" 903 437,Ab P "members_of_meet" 913 444,Ab P "meet_parts" 919 449,Ab P "meet_two" 935 456,Ab P "inter" 946 463,Al P "MOST_PLAIN" 950 40 949,Ab P "PLAIN_ROWS" 951 464,Ab P "LIST_ROWS_shapes" 952 465,Ab P "hidden_apart" 962 472,Ab P "final_parts" 976 479,Ab P "plain_shape" 986 486,Al P "MOST_ROUNDS" 990 200 989,Al P "MOST_SHAPES" 992 40 991,Ab P "Thin" 1178 629,Ab P "bound_of" 1188 640,Ab P "elem_read" 1196 647,Ab P "told_places" 1204 654,Ab P "find_prop" 1213 661,Ab P "is_digits" 1219 666,Ab P "place_of" 1226 673,Ab P "is_number_name" 1233 680,Ab P "prop_row" 1244 687,Ab P "read_type" 1252 694,Ab P "late_place" 1258 699,Ab P "list_read" 1267 706,Ab P "index_read" 1278 713,Ab P "part_type" 1288 720,Ab P "prop_type" 1294 725,Ab P "index_of" 1305 732,Ab P "index_of_parts" 1318 739,Ab P "tuple_at" 1327 746,Ab P "unit_word" 1338 753,Ab P "key_text" 1346 760,Al P "R_ASSIGN" 1350 1 1349,Al P "R_COMPARE" 1352 2 1351,Al P "R_IDENT" 1354 3 1353,Al P "R_SUBTYPE" 1356 4 1355,Al P "RULE_MEET" 1358 1 1357,Al P "RULE_DEFERRED" 1360 2 1359,Al P "RULE_SIG" 1362 3 1361,Al P "RULE_LIST" 1364 4 1363,Al P "RULE_OBJECT" 1366 5 1365,Al P "RULE_CHOICE" 1368 6 1367,Al P "RULE_PLACES" 1370 12 1369,Ab P "VALUE_ROWS" 1371 761,Ab P "LIST_ROWS_relbase" 1372 762,Ab P "SHAPED_ROWS" 1373 763,Ab P "DEFERRED_ROWS" 1374 764,Ab P "OPEN_ROWS" 1375 766,Al P "MAX_OPEN" 1377 60 1376,Al P "MOST_LOOKS" 1379 20000 1378,Ab P "RelRule" 1448 811,Ab P "Rel" 1541 874,Ab P "by_rule" 1552 885,Ab P "silent_with" 1561 892,Ab P "like" 1568 899,Ab P "twin_of" 1575 906,Ab P "cut_back" 1583 913,Ab P "settled" 1591 920,Ab P "ask_kinds" 1602 927,Ab P "relbase_kept" 1614 934,Ab P "close_trail" 1623 941,Ab P "tells" 1630 948,Ab P "simple_related" 1643 955,Ab P "tops_related" 1652 962,Ab P "unknown_told" 1661 969,Ab P "is_numeric_enum" 1668 976,Ab P "values_related" 1679 983,Ab P "number_to_enum" 1689 990,Ab P "structured" 1701 997,Ab P "rule_for" 1709 1004,Ab P "from_union" 1719 1011,Ab P "some_part" 1731 1018,Ab P "lay_again" 1740 1025,Ab P "to_union" 1752 1032,Ab P "same_kind" 1764 1039,Ab P "each_in" 1774 1046,Ab P "pid_bound" 1785 1053,Al P "HIDDEN" 1789 24 1788,Ab P "bound_kind" 1798 1060,Ab P "shown_keys" 1804 1065,Ab P "sure_keys" 1814 1072,Ab P "to_keyof" 1827 1079,Ab P "written_at" 1839 1086,Ab P "written_kind" 1852 1093,Ab P "to_index" 1858 1098,Ab P "BoundHost" 1892 1122,Ab P "ParamRule" 1920 1141,Ab P "param_related" 1931 1150,Ab P "install_rel_params" 1938 1157,Ab P "_law_take" 1950 1164,Ab P "_law_row" 1958 1171,Ab P "_law_bits" 1965 1178,Ab P "_law_members" 1971 1185,Ab P "_law_words" 1977 1192,Ab P "_law_few" 1983 1197,Ab P "_law_all" 1992 1204,Ab P "_law_kind" 1998 1209,Ab P "_law_object" 2016 1216,Ab P "_law_at" 2029 1223,Ab P "_law_goes" 2038 1230,Ab P "_law_things" 2058 1237,Ab P "_law_bound" 2068 1244,Ab P "_law_keys" 2082 1251,Ab P "_law_key" 2094 1258,Ab P "_law_source" 2100 1263,Ab P "_law_written" 2113 1270,Ab P "_law_indexed" 2119 1275,Ab P "_law_keyed" 2148 1282,Ab P "law" 2154 1287]
def PT:List Value:=[Ae 1,Ak,.ref 20,Ae 11,Ak,.ref 27,Ae 16,Ak,.ref 48,Ae 21,Ak,.ref 68,Ae 26,Ak,.ref 88,Ae 98,Ak,.ref 157,Ae 124,Ak,.ref 192,Ae 142,Ak,.ref 213,Ae 144,Ak,.ref 221,Ae 146,Ak,.ref 228,Ae 148,Ak,.ref 236,Ae 154,Ak,.ref 243,Ae 158,Ak,.ref 250,Ae 165,Ak,.ref 257,Ae 174,Ak,.ref 264,Ae 179,Ak,.ref 271,Ae 183,Ak,.ref 278,Ae 187,Ak,.ref 285,Ae 192,Ak,.ref 290,Ae 209,Ak,.ref 297,Ae 211,Ak,.ref 304,Ae 213,Ak,.ref 311,Ae 215,Ak,.ref 318,Ae 218,Ak,.ref 325,Ae 222,Ak,.ref 330,Ae 226,Ak,.ref 337,Ae 235,Ak,.ref 344,Ae 252,Ak,.ref 351,Ae 260,Ak,.ref 356,Ae 263,Ak,.ref 363,Ae 268,Ak,.ref 370,Ae 272,Ak,.ref 375,Ae 281,Ak,.ref 382,Ae 283,Ak,.ref 389,Ae 288,Ak,.ref 396,Ae 307,Ak,.ref 401,Ae 311,Ak,.ref 408,Ae 317,Ak,.ref 415,Ae 327,Ak,.ref 422,Ae 335,Ak,.ref 429,Ae 349,Ak,.ref 436,Ae 363,Ak,.ref 443,Ae 374,Ak,.ref 448,Ae 383,Ak,.ref 455,Ae 399,Ak,.ref 462,Ae 412,Ak,.ref 471,Ae 418,Ak,.ref 478,Ae 434,Ak,.ref 485,Ae 452,Ak,.ref 492,Ae 514,Ak,.ref 639,Ae 520,Ak,.ref 646,Ae 524,Ak,.ref 653,Ae 531,Ak,.ref 660,Ae 536,Ak,.ref 665,Ae 539,Ak,.ref 672,Ae 541,Ak,.ref 679,Ae 547,Ak,.ref 686,Ae 555,Ak,.ref 693,Ae 557,Ak,.ref 698,Ae 560,Ak,.ref 705,Ae 564,Ak,.ref 712,Ae 573,Ak,.ref 719,Ae 577,Ak,.ref 724,Ae 582,Ak,.ref 731,Ae 592,Ak,.ref 738,Ae 604,Ak,.ref 745,Ae 609,Ak,.ref 752,Ae 624,Ak,.ref 759,Ae 647,Ak,.ref 772,Ae 663,Ak,.ref 821,Ae 699,Ak,.ref 884,Ae 702,Ak,.ref 891,Ae 707,Ak,.ref 898,Ae 709,Ak,.ref 905,Ae 715,Ak,.ref 912,Ae 719,Ak,.ref 919,Ae 724,Ak,.ref 926,Ae 742,Ak,.ref 933,Ae 767,Ak,.ref 940,Ae 773,Ak,.ref 947,Ae 775,Ak,.ref 954,Ae 791,Ak,.ref 961,Ae 808,Ak,.ref 968,Ae 815,Ak,.ref 975,Ae 817,Ak,.ref 982,Ae 831,Ak,.ref 989,Ae 838,Ak,.ref 996,Ae 847,Ak,.ref 1003,Ae 857,Ak,.ref 1010,Ae 865,Ak,.ref 1017,Ae 879,Ak,.ref 1024,Ae 885,Ak,.ref 1031,Ae 898,Ak,.ref 1038,Ae 907,Ak,.ref 1045,Ae 913,Ak,.ref 1052,Ae 918,Ak,.ref 1059,Ae 925,Ak,.ref 1064,Ae 930,Ak,.ref 1071,Ae 936,Ak,.ref 1078,Ae 956,Ak,.ref 1085,Ae 966,Ak,.ref 1092,Ae 974,Ak,.ref 1097,Ae 995,Ak,.ref 1104,Ae 1003,Ak,.ref 1130,Ae 1007,Ak,.ref 1149,Ae 1013,Ak,.ref 1156,Ae 1016,Ak,.ref 1163,Ae 1021,Ak,.ref 1170,Ae 1025,Ak,.ref 1177,Ae 1027,Ak,.ref 1184,Ae 1029,Ak,.ref 1191,Ae 1031,Ak,.ref 1196,Ae 1041,Ak,.ref 1203,Ae 1046,Ak,.ref 1208,Ae 1048,Ak,.ref 1215,Ae 1071,Ak,.ref 1222,Ae 1083,Ak,.ref 1229,Ae 1089,Ak,.ref 1236,Ae 1114,Ak,.ref 1243,Ae 1120,Ak,.ref 1250,Ae 1130,Ak,.ref 1257,Ae 1137,Ak,.ref 1262,Ae 1153,Ak,.ref 1269,Ae 1159,Ak,.ref 1274,Ae 1192,Ak,.ref 1281,Ae 1219,Ak,.ref 1286]
def MM (P:Params)(e:DictEntry)(j ep:Nat):Obj:=⟨.type "dict",none,.dict (e::(ME P).take j).toArray ep,#[]⟩
def O3 (j:Nat):Obj:=⟨.none,none,.fields (PT.take j).toArray,#[]⟩
def Nf (P:Params):List Obj:=[boot_o_0 P,boot_o_1 P,boot_o_2 P,boot_o_3 P,boot_o_4 P,boot_o_5 P,boot_o_6 P,boot_o_7 P,boot_o_8 P,boot_o_9 P,boot_o_10 P]
def mF:Env:= {scope:=pw.main.scope,locals:=mainNs,globals:=mainNs,cells:=[],code:=.ref 13,frame:=some 14}
def cd:Code:=.body (behindTheImports pw) mF
def S (t:BT)(n tk:Nat)(os:OsState):SharedT:=⟨t,n,{},#[],{},tk,os⟩
def O6 (sc:Scope):List Str:=(sc.names.filter (·.2==.local)).map (·.1)
def tp (l:List Value):Obj:=⟨.type "tuple",none,.seq ⟨l⟩ 0,#[]⟩
def ff (z:Bool)(s:Stmt)(q:Option String)(a k:Nat)(d md:Value):List Obj:=match s with
 | .FunctionDef n p _ _ _ _ sc _ _ o=>
  let l:=if z then O6 sc else []
  let e:=k+3+l.length
  let c:=if z then a+5 else a+3
  let F:=m "/claim/cut.py"
  tp [] ::⟨.none,none,.fields #[],#[]⟩::((if z then [tp (l.zipIdx.map fun x=>.str x.1 (k+3+x.2)),tp []] else [])++[⟨.none,none,.func (fn s q 0 .none .none .none),#[]⟩,⟨.type "code",none,.fields #[.str n k,.str (match q with|none=>n|some x=>m x) (k+1),.str F (k+2),.int o.line 0,.int p.args.length 0,.int 0 0,.int 0 0,.int 3 0,.ref a,.bool true,.int 181 0,.ref (a+1),.none,if z then .ref (a+2) else .none,if z then .ref (a+3) else .none,.ref (c-1),.int e 0,.int o.line 0,.str F (e+1)],#[]⟩,⟨.type "function",none,.func (fn s q 3 d md (.ref c)),#[]⟩])
 |_=>[]
def fr (md:Value):Nat→Nat→Nat→Nat→List Obj
 |0,_,_,_=>[]
 |c+1,i,a,k=>ff true (st i) none a k .none md++fr md c (i+1) (a+7) (k+6+match st i with| .FunctionDef _ _ _ _ _ _ sc _ _ _=>(O6 sc).length|_=>0)
def Ay a b c d e f:=ff a b c d e .none f
def AK a b c d e f:=Ay a b (some c) d e f
def AT a b c d e:=AK true a b c d e
def AU a b c d e f:=AT (me a b) c d e f
def AZ a b c d e f:=MM a (AP b c d) e f
def Bi a b c d e:=Ay a b none c d e
def Bj a b c d e:=Bi a (st b) c d e
def BG a b c d:=Bj false a b c d
def BI a b c d e:=AZ a b 165 c d e
def BS a b:=((a,O3 b):Nat×PySem.Obj)
def BV a b c d e:=AU 124 a b c d e
def Cf a:=BS 12 a
def Cu a b c d:=BV a b c d AE
def CK a b c d e f:=((a,BI b c d e f):Nat×PySem.Obj)
def G0 (P:Params):List Obj:=List.flatten [[B9,O3 0,BF #[Aa "<module>" 182,Aa "<module>" 183,Aw 184,Ae 1,Ak,Ak,Ak,Ak,.ref 11,B6,BH,.ref 12,.none,.none,.none,.none,Ae 185,Ae 1,Aw 186],CE (Ar 13) Ce Ce (AR "__main__" 164) Cm]]
def T0 (P:Params):BT:=eE (eE .nil 0 (Nf P)) 11 (G0 P)
def G1 (P:Params):List Obj:=List.flatten [Bj true 0 15 187 (Aa "__main__" 164),[B8 #[B3],CN,Bx #[AJ P 215 B5,Cq P 217 "KeepError" 216,Ax P 219 11 218,AY P 228 36,Ap P 231 37] 5,B9,Cs (BM (Ae 13) AV 35),BF #[Aa "KeepError" 210,Aa "KeepError" 211,Aw 212,Ae 11,Ak,Ak,Ak,Ak,.ref 25,B6,BH,.ref 26,.none,.none,.none,.none,Ae 213,Ae 11,Aw 214],CP 27 Ce 24 B5 Cm,B8 #[Aa "" 220]],ff true (me 8 0) (some "KeepError.__init__") 30 221 (.ref 29) B5,[B8 #[Aa "number" 229,Aa "text" 230],Bx #[AJ P 215 B5,Ax P 219 11 218,AY P 228 36,Ap P 231 37,BA P 233 40,BL P 234] 3,BX ⟨BD,[B3],[Bk,B3,Bo,AD],38,BD,true,[],[],false,none,false⟩ (Ar 22) (BQ 208) (BQ 216) Ba Bl,CH (Bp 232) Bk AO,Bz #[Bk,Bk,Bk],CL Bk]]
def C1 (P:Params):List (Nat×Obj):=[(2,⟨.none,none,.dict #[en P "type.__subclasses__.Exception.0" 235 (Ae 39),en P "type.__subclasses__.Exception.n" 236 (Ae 1)] 2,#[]⟩),CK 3 P P B5 16 17,Cf 6]
def T1 (P:Params):BT:=eZ (eE (T0 P) 15 (G1 P)) (C1 P)
def G2 (P:Params):List Obj:=List.flatten [[B8 #[Bk],CN,Bx #[AJ P 246 B5,Cq P 248 "TooDeep" 247,Ax P 250 16 249,AY P 261 57,Ap P 264 58] 5,B9,Cs (BM (Ae 18) AV 56),BF #[Aa "TooDeep" 241,Aa "TooDeep" 242,Aw 243,Ae 16,Ak,Ak,Ak,Ak,.ref 46,B6,BH,.ref 47,.none,.none,.none,.none,Ae 244,Ae 16,Aw 245],CP 48 Ce 45 B5 Cm,Cr 2589 251 "" 252],ff true (me 9 0) (some "TooDeep.__init__") 51 253 (.ref 50) B5,[B8 #[Aa "number" 262,Aa "text" 263],Bx #[AJ P 246 B5,Ax P 250 16 249,AY P 261 57,Ap P 264 58,BL P 265] 2,CB ⟨m "TooDeep",[Bk],[Co,Bk,B3,Bo,AD],59,m "TooDeep",true,[],[],false,none,false⟩ (Ar 43) "TooDeep" 239 "TooDeep" 247 Ba Bl,CJ Co Co 60,CL Co]]
def C2 (P:Params):List (Nat×Obj):=[CK 3 P P B5 17 18,Cf 9,(39,BX ⟨BD,[B3],[Bk,B3,Bo,AD],38,BD,true,[],[Co],false,none,false⟩ (Ar 22) (BQ 208) (BQ 216) Ba Bl)]
def T2 (P:Params):BT:=eZ (eE (T1 P) 43 (G2 P)) (C2 P)
def G3 (P:Params):List Obj:=List.flatten [[B8 #[Bk],CN,Bx #[AJ P 275 B5,Cq P 277 "HostFault" 276,Ax P 279 21 278,AY P 288 77,Ap P 291 78] 5,B9,Cs (BM (Ae 23) AV 76),BF #[Aa "HostFault" 270,Aa "HostFault" 271,Aw 272,Ae 21,Ak,Ak,Ak,Ak,.ref 66,B6,BH,.ref 67,.none,.none,.none,.none,Ae 273,Ae 21,Aw 274],CP 68 Ce 65 B5 Cm,B8 #[Aa "" 280]],ff true (me 10 0) (some "HostFault.__init__") 71 281 (.ref 70) B5,[B8 #[Aa "number" 289,Aa "text" 290],Bx #[AJ P 275 B5,Ax P 279 21 278,AY P 288 77,Ap P 291 78,BL P 292] 2,CB ⟨m "HostFault",[Bk],[Cw,Bk,B3,Bo,AD],79,m "HostFault",true,[],[],false,none,false⟩ (Ar 63) "HostFault" 268 "HostFault" 276 Ba Bl,CJ Cw Cw 80,CL Cw]]
def C3 (P:Params):List (Nat×Obj):=[CK 3 P P B5 18 19,Cf 12,(39,BX ⟨BD,[B3],[Bk,B3,Bo,AD],38,BD,true,[],[Co,Cw],false,none,false⟩ (Ar 22) (BQ 208) (BQ 216) Ba Bl)]
def T3 (P:Params):BT:=eZ (eE (T2 P) 63 (G3 P)) (C3 P)
def G4 (P:Params):List Obj:=List.flatten [[B9,CN,Bx #[AJ P 302 B5,Cq P 304 "Notes" 303,Ax P 306 26 305,AY P 313 96,Ab P "put" 322 103,Ab P "codes" 332 110,Ab P "clean" 339 117,Ap P 341 118] 8,B9,Cs #[Ae 28,AV,.ref 95,Ae 31,AV,.ref 102,Ae 34,AV,.ref 109,Ae 40,AV,.ref 116],BF #[Aa "Notes" 297,Aa "Notes" 298,Aw 299,Ae 26,Ak,Ak,Ak,Ak,.ref 86,B6,BH,.ref 87,.none,.none,.none,.none,Ae 300,Ae 26,Aw 301],CP 88 Ce 85 B5 Cm],AU 11 0 "Notes.__init__" 90 307 B5,AU 11 1 "Notes.put" 97 314 B5,AU 11 2 "Notes.codes" 104 323 B5,AU 11 3 "Notes.clean" 111 333 B5,[B8 #[Aa "rows" 340],Bx #[AJ P 302 B5,Ax P 306 26 305,AY P 313 96,Ab P "put" 322 103,Ab P "codes" 332 110,Ab P "clean" 339 117,Ap P 341 118,C0 P 343 121,BA P 345 122,BL P 346] 4,CB ⟨m "Notes",[AD],[Cd,AD],119,m "Notes",true,[],[],false,none,false⟩ none "Notes" 295 "Notes" 303 AN Bl,Ct (BN 342) Cd B0 AW,CH (Bp 344) Cd AO,CJ Cd Cd 120,CL Cd]]
def C4 (P:Params):List (Nat×Obj):=[CK 3 P P AG 32 33,Cf 15]
def T4 (P:Params):BT:=eZ (eE (T3 P) 83 (G4 P)) (C4 P)
def G5 (P:Params):List Obj:=List.flatten [[CI 1 "any" 451,CI 1 "unknown" 452,CI 1 "never" 453,CI 1 "void" 454,CI 1 "undefined" 455,CI 1 "null" 456,CI 1 "string" 457,CI 1 "number" 458,B8 #[Cy,.int 0 459,.int 0 460],B8 #[Cy,CQ 461,.int 0 462],CI 1 "object" 463,B9,B9,B9,B9,B9,B8 #[.int 8 365,.ref 136,.ref 137,.ref 138,.ref 139,.ref 140,.int 0 464],CS 8 465 9 466,BC 6 361 (.ref 142),CI 1 "error" 467,B8 #[Cy,.int 0 468,CQ 469],B8 #[Cy,CQ 470,CQ 471],B8 #[.ref 125,.ref 126,.ref 127,.ref 128,.ref 129,.ref 130,.ref 131,.ref 132,.ref 133,.ref 134,.ref 135,.ref 141,.ref 143,.ref 144,.ref 145,.ref 146]]]
def C5 (P:Params):List (Nat×Obj):=[CK 3 P P AG 70 71]
def T5 (P:Params):BT:=eZ (eE (T4 P) 125 (G5 P)) (C5 P)
def G6 (P:Params):List Obj:=List.flatten [[B8 #[Cy,.int 3 355,.int 4 357,.int 5 359],B8 #[Cy,.int 3 355,.int 4 357,.int 5 359,.int 8 365],B8 #[.int 8 365,.int 9 367,.int 11 371,.int 12 373,.int 13 375],Bx #[Cz 3 3 395 (.int 6 445),Cz 4 4 397 (.int 5 443),Cz 5 5 399 (.int 4 441),Cz 6 6 401 (CQ 435),Cz 7 7 403 (.int 2 437),Cz 10 10 409 (.int 7 447)] 6]]
def C6 (P:Params):List (Nat×Obj):=[CK 3 P P AG 74 75]
def T6 (P:Params):BT:=eZ (eE (T5 P) 148 (G6 P)) (C6 P)
def G7 (P:Params):List Obj:=List.flatten [[B9,CN,Bx #[AJ P 490 AG,Cq P 492 "TypeTable" 491,Ax P 494 98 493,AY P 502 165,Ab P "row" 510 172,Ab P "put" 519 179,Ap P 530 180] 7,B9,Cs #[Ae 100,AV,.ref 164,Ae 114,AV,.ref 171,Ae 117,AV,.ref 178],BF #[Aa "TypeTable" 485,Aa "TypeTable" 486,Aw 487,Ae 98,Ak,Ak,Ak,Ak,.ref 155,B6,BH,.ref 156,.none,.none,.none,.none,Ae 488,Ae 98,Aw 489],CP 157 Ce 154 AG Cm],AU 68 0 "TypeTable.__init__" 159 495 AG,AU 68 1 "TypeTable.row" 166 503 AG,AU 68 2 "TypeTable.put" 173 511 AG,[B8 #[Aa "bounds" 520,Aa "decls" 521,Aa "defaults" 522,Aa "index" 523,Aa "names" 524,Aa "origins" 525,Aa "putting" 526,Aa "renamed" 527,Aa "rows" 528,Aa "shaping" 529],Bx #[AJ P 490 AG,Ax P 494 98 493,AY P 502 165,Ab P "row" 510 172,Ab P "put" 519 179,Ap P 530 180,C0 P 532 183,BA P 534 184,BL P 535] 4,CB ⟨m "TypeTable",[AD],[Cc,AD],181,m "TypeTable",true,[],[],false,none,false⟩ none "TypeTable" 483 "TypeTable" 491 AN Bl,Ct (BN 531) Cc B0 AW,CH (Bp 533) Cc AO,CJ Cc Cc 182,CL Cc]]
def C7 (P:Params):List (Nat×Obj):=[CK 3 P P AG 75 76,Cf 18]
def T7 (P:Params):BT:=eZ (eE (T6 P) 152 (G7 P)) (C7 P)
def G8 (P:Params):List Obj:=List.flatten [[B9,CN,Bx #[AJ P 545 AG,Cq P 547 "Decl" 546,Ax P 549 124 548,AY P 559 200,Ap P 575 201] 5,B9,Cs (BM (Ae 126) AV 199),BF #[Aa "Decl" 540,Aa "Decl" 541,Aw 542,Ae 124,Ak,Ak,Ak,Ak,.ref 190,B6,BH,.ref 191,.none,.none,.none,.none,Ae 543,Ae 124,Aw 544],CP 192 Ce 189 AG Cm],AU 69 0 "Decl.__init__" 194 550 AG,[B8 #[Aa "abstract" 560,Aa "at" 561,Aa "bases" 562,Aa "body" 563,Aa "busy" 564,Aa "did" 565,Aa "extends_class" 566,Aa "file" 567,Aa "kind" 568,Aa "members" 569,Aa "name" 570,Aa "nid" 571,Aa "params" 572,Aa "static" 573,Aa "variances" 574],Bx #[AJ P 545 AG,Ax P 549 124 548,AY P 559 200,Ap P 575 201,C0 P 577 204,BA P 579 205,BL P 580] 4,CB ⟨m "Decl",[AD],[Cb,AD],202,m "Decl",true,[],[],false,none,false⟩ none "Decl" 538 "Decl" 546 AN Bl,Ct (BN 576) Cb B0 AW,CH (Bp 578) Cb AO,CJ Cb Cb 203,CL Cb],Bj true 70 208 583 AG,[B8 #[.int 0 591]],ff true (st 71) none 216 592 (.ref 215) AG,Bj true 72 223 601 AG,[CS (-1) 610 (-1) 612],ff true (st 73) none 231 613 (.ref 230) AG,fr AG 2 74 238 624]
def C8 (P:Params):List (Nat×Obj):=[CK 3 P P AG 82 83,Cf 39]
def T8 (P:Params):BT:=eZ (eE (T7 P) 187 (G8 P)) (C8 P)
def G9 (P:Params):List Obj:=List.flatten [fr AG 5 76 252 643,BG 81 287 684 AG,fr AG 5 82 292 690,BG 87 327 731 AG,fr AG 3 88 332 737]
def C9 (P:Params):List (Nat×Obj):=[CK 3 P P AG 97 98,Cf 84]
def T9 (P:Params):BT:=eZ (eE (T8 P) 252 (G9 P)) (C9 P)
def P0 (P:Params):List Obj:=List.flatten [BG 97 353 778 Bg,fr Bg 2 98 358 784,BG 100 372 802 Bg,fr Bg 3 101 377 808,BG 104 398 842 Bg,fr Bg 4 105 403 848]
def Qe (P:Params):List (Nat×Obj):=[CK 3 P P Bg 114 115,Cf 120]
def OX (P:Params):BT:=eZ (eE (T9 P) 353 (P0 P)) (Qe P)
def PZ (P:Params):List Obj:=List.flatten [fr Bg 2 109 431 891,BG 111 445 914 Bg,fr Bg 2 112 450 920,[B8 #[CQ 351,Cy,.int 3 355,.int 4 357,.int 5 359],CS 11 371 12 373],fr CR 3 118 466 953]
def Qd (P:Params):List (Nat×Obj):=[CK 3 P P AE 127 128,Cf 144]
def OW (P:Params):BT:=eZ (eE (OX P) 431 (PZ P)) (Qd P)
def PY (P:Params):List Obj:=List.flatten [[B9,CN,Bx #[AJ P 1000 AE,Cq P 1002 "Thin" 1001,Ax P 1004 452 1003,AY P 1012 500,Ab P "force" 1020 507,Ab P "put_deferred" 1028 514,Ab P "put_cond" 1037 521,Ab P "lay_row" 1046 528,Ab P "bound" 1054 535,Ab P "shape" 1062 542,Ab P "fits" 1071 549,Ab P "lies" 1080 556,Ab P "infers" 1090 563,Ab P "tpl_fits" 1099 570,Ab P "shape_fits" 1108 577,Ab P "put_in" 1117 584,Ab P "own_sig" 1126 591,Ab P "forget" 1133 598,Ab P "list_prop" 1142 605,Ab P "list_index" 1150 612,Ab P "elem_met" 1158 619,Ab P "error_class" 1165 626,Ap P 1171 627] 23,B9,Cs #[Ae 454,AV,.ref 499,Ae 461,AV,.ref 506,Ae 464,AV,.ref 513,Ae 467,AV,.ref 520,Ae 470,AV,.ref 527,Ae 473,AV,.ref 534,Ae 476,AV,.ref 541,Ae 479,AV,.ref 548,Ae 482,AV,.ref 555,Ae 485,AV,.ref 562,Ae 488,AV,.ref 569,Ae 491,AV,.ref 576,Ae 494,AV,.ref 583,Ae 497,AV,.ref 590,Ae 500,AV,.ref 597,Ae 503,AV,.ref 604,Ae 506,AV,.ref 611,Ae 509,AV,.ref 618,Ae 512,AV,.ref 625],BF #[Aa "Thin" 995,Aa "Thin" 996,Aw 997,Ae 452,Ak,Ak,Ak,Ak,.ref 490,B6,BH,.ref 491,.none,.none,.none,.none,Ae 998,Ae 452,Aw 999],CP 492 Ce 489 AE Cm],Cu 0 "Thin.__init__" 494 1005,Cu 1 "Thin.force" 501 1013,Cu 2 "Thin.put_deferred" 508 1021,Cu 3 "Thin.put_cond" 515 1029,Cu 4 "Thin.lay_row" 522 1038,Cu 5 "Thin.bound" 529 1047,Cu 6 "Thin.shape" 536 1055,Cu 7 "Thin.fits" 543 1063,Cu 8 "Thin.lies" 550 1072,Cu 9 "Thin.infers" 557 1081,Cu 10 "Thin.tpl_fits" 564 1091,Cu 11 "Thin.shape_fits" 571 1100,Cu 12 "Thin.put_in" 578 1109,Cu 13 "Thin.own_sig" 585 1118,Cu 14 "Thin.forget" 592 1127,Cu 15 "Thin.list_prop" 599 1134,Cu 16 "Thin.list_index" 606 1143,Cu 17 "Thin.elem_met" 613 1151,Cu 18 "Thin.error_class" 620 1159,[B8 #[Aa "deep" 1166,Aa "lib" 1167,Aa "most_deep" 1168,Aa "most_rounds" 1169,Aa "tab" 1170],Bx #[AJ P 1000 AE,Ax P 1004 452 1003,AY P 1012 500,Ab P "force" 1020 507,Ab P "put_deferred" 1028 514,Ab P "put_cond" 1037 521,Ab P "lay_row" 1046 528,Ab P "bound" 1054 535,Ab P "shape" 1062 542,Ab P "fits" 1071 549,Ab P "lies" 1080 556,Ab P "infers" 1090 563,Ab P "tpl_fits" 1099 570,Ab P "shape_fits" 1108 577,Ab P "put_in" 1117 584,Ab P "own_sig" 1126 591,Ab P "forget" 1133 598,Ab P "list_prop" 1142 605,Ab P "list_index" 1150 612,Ab P "elem_met" 1158 619,Ab P "error_class" 1165 626,Ap P 1171 627,C0 P 1173 630,BA P 1175 631,BL P 1176] 4,CB ⟨CA,[AD],[Br,AD],628,CA,true,[],[],false,none,false⟩ none "Thin" 993 "Thin" 1001 AN Bl,Ct (BN 1172) Br B0 AW,CH (Bp 1174) Br AO,Bz #[Br,Br,Br],CL Br]]
def Qc (P:Params):List (Nat×Obj):=[CK 3 P P AE 128 129,Cf 147]
def OV (P:Params):BT:=eZ (eE (OW P) 487 (PY P)) (Qc P)
def PX (P:Params):List Obj:=List.flatten [fr AE 4 125 634 1179,BG 129 662 1214 AE,fr AE 4 130 667 1220,BG 134 695 1253 AE,fr AE 3 135 700 1259,BG 138 721 1289 AE]
def Qb (P:Params):List (Nat×Obj):=[CK 3 P P AE 142 143,Cf 189]
def OU (P:Params):BT:=eZ (eE (OV P) 634 (PX P)) (Qb P)
def PW (P:Params):List Obj:=List.flatten [fr AE 3 139 726 1295,fr (Cp 1328) 2 143 747 1330,[B8 #[CQ 351,Cy,.int 3 355,.int 4 357,.int 5 359],CS 11 371 12 373,CS 8 365 9 367,B8 #[.int 10 369,.int 14 377,.int 15 379,.int 16 381,.int 17 383,.int 18 385,.int 19 387],CS 6 361 7 363,B8 #[.int 6 361,.int 7 363,.int 10 369,.int 14 377,.int 15 379,.int 16 381,.int 17 383,.int 18 385,.int 19 387]]]
def Qa (P:Params):List (Nat×Obj):=[CK 3 P P AB 165 166,Cf 204]
def OT (P:Params):BT:=eZ (eE (OU P) 726 (PW P)) (Qa P)
def PV (P:Params):List Obj:=List.flatten [[B9,CN,Bx #[AJ P 1387 AB,Cq P 1389 "RelRule" 1388,Ax P 1391 647 1390,Ab P "holds" 1401 780,Ab P "loose" 1411 787,Ab P "sig" 1421 794,Ab P "blank" 1430 801,Ab P "tells" 1440 808,Ap P 1441 809] 9,B9,Cs #[Ae 649,AV,.ref 779,Ae 652,AV,.ref 786,Ae 655,AV,.ref 793,Ae 658,AV,.ref 800,Ae 661,AV,.ref 807],BF #[Aa "RelRule" 1382,Aa "RelRule" 1383,Aw 1384,Ae 647,Ak,Ak,Ak,Ak,.ref 770,B6,BH,.ref 771,.none,.none,.none,.none,Ae 1385,Ae 647,Aw 1386],CP 772 Ce 769 AB Cm],AU 164 0 "RelRule.holds" 774 1392 AB,AU 164 1 "RelRule.loose" 781 1402 AB,AU 164 2 "RelRule.sig" 788 1412 AB,AU 164 3 "RelRule.blank" 795 1422 AB,AU 164 4 "RelRule.tells" 802 1431 AB,[B9,Bx #[AJ P 1387 AB,Ax P 1391 647 1390,Ab P "holds" 1401 780,Ab P "loose" 1411 787,Ab P "sig" 1421 794,Ab P "blank" 1430 801,Ab P "tells" 1440 808,Ap P 1441 809,C0 P 1443 812,BA P 1445 813,BL P 1446] 4,CB ⟨Cl,[AD],[Bq,AD],810,Cl,true,[],[],false,none,false⟩ none "RelRule" 1380 "RelRule" 1388 AN Bl,Ct (BN 1442) Bq B0 AW,CH (Bp 1444) Bq AO,Bz #[Bq,Bq,Bq],CL Bq]]
def P9 (P:Params):List (Nat×Obj):=[CK 3 P P AB 166 167,Cf 207]
def OS (P:Params):BT:=eZ (eE (OT P) 767 (PV P)) (P9 P)
def PU (P:Params):List Obj:=List.flatten [[B9,CN,Bx #[AJ P 1456 AB,Cq P 1458 "Rel" 1457,Ax P 1460 663 1459,AY P 1469 829,Ab P "ask" 1478 836,Ab P "note" 1486 843,Ab P "same" 1495 850,Ab P "mark" 1502 857,Ab P "back" 1510 864,Ab P "infer_sig" 1519 871,Ap P 1534 872] 11,B9,Cs #[Ae 665,AV,.ref 828,Ae 681,AV,.ref 835,Ae 684,AV,.ref 842,Ae 688,AV,.ref 849,Ae 691,AV,.ref 856,Ae 694,AV,.ref 863,Ae 697,AV,.ref 870],BF #[Aa "Rel" 1451,Aa "Rel" 1452,Aw 1453,Ae 663,Ak,Ak,Ak,Ak,.ref 819,B6,BH,.ref 820,.none,.none,.none,.none,Ae 1454,Ae 663,Aw 1455],CP 821 Ce 818 AB Cm],AU 165 0 "Rel.__init__" 823 1461 AB,AU 165 1 "Rel.ask" 830 1470 AB,AU 165 2 "Rel.note" 837 1479 AB,AU 165 3 "Rel.same" 844 1487 AB,AU 165 4 "Rel.mark" 851 1496 AB,AU 165 5 "Rel.back" 858 1503 AB,AU 165 6 "Rel.infer_sig" 865 1511 AB,[B8 #[Aa "assumed" 1520,Aa "at" 1521,Aa "deep" 1522,Aa "host" 1523,Aa "known" 1524,Aa "looks" 1525,Aa "missing" 1526,Aa "mode" 1527,Aa "notes" 1528,Aa "road" 1529,Aa "rules" 1530,Aa "telling" 1531,Aa "trail" 1532,Aa "twin" 1533],Bx #[AJ P 1456 AB,Ax P 1460 663 1459,AY P 1469 829,Ab P "ask" 1478 836,Ab P "note" 1486 843,Ab P "same" 1495 850,Ab P "mark" 1502 857,Ab P "back" 1510 864,Ab P "infer_sig" 1519 871,Ap P 1534 872,C0 P 1536 875,BA P 1538 876,BL P 1539] 4,CB ⟨m "Rel",[AD],[Ca,AD],873,m "Rel",true,[],[],false,none,false⟩ none "Rel" 1449 "Rel" 1457 AN Bl,Ct (BN 1535) Ca B0 AW,CH (Bp 1537) Ca AO,CJ Ca Ca 874,CL Ca]]
def P8 (P:Params):List (Nat×Obj):=[CK 3 P P AB 167 168,Cf 210]
def OQ (P:Params):BT:=eZ (eE (OS P) 816 (PU P)) (P8 P)
def PS (P:Params):List Obj:=List.flatten [fr AB 14 166 879 1542]
def P7 (P:Params):List (Nat×Obj):=[CK 3 P P AB 181 182,Cf 252]
def OP (P:Params):BT:=eZ (eE (OQ P) 879 (PS P)) (P7 P)
def PR (P:Params):List Obj:=List.flatten [fr AB 10 180 977 1669,Bj true 191 1047 1777 (Aa "kindkeep.relsig" 1775),Bj true 194 1054 1790 Bt,BG 195 1061 1799 Bt]
def P6 (P:Params):List (Nat×Obj):=[CK 3 P P Bt 195 196,Cf 291]
def OO (P:Params):BT:=eZ (eE (OP P) 977 (PR P)) (P6 P)
def PQ (P:Params):List Obj:=List.flatten [fr Bt 4 196 1066 1805,BG 200 1094 1853 Bt,[B8 #[Br],CN,Bx #[AJ P 1868 BZ,Cq P 1870 "BoundHost" 1869,Ax P 1872 995 1871,Ab P "bound" 1880 1112,Ab P "shape" 1888 1119,Ap P 1889 1120] 6,B9,Cs #[Ae 997,AV,.ref 1111,Ae 1000,AV,.ref 1118],BF #[Aa "BoundHost" 1863,Aa "BoundHost" 1864,Aw 1865,Ae 995,Ak,Ak,Ak,Ak,.ref 1102,B6,BH,.ref 1103,.none,.none,.none,.none,Ae 1866,Ae 995,Aw 1867],CE (Ar 1104) Ce (Ar 1101) (AR "kindkeep.rawhost" 1859) Cm],AU 202 0 "BoundHost.bound" 1106 1873 BZ,AU 202 1 "BoundHost.shape" 1113 1881 BZ,[B9,Bx #[AJ P 1868 BZ,Ax P 1872 995 1871,Ab P "bound" 1880 1112,Ab P "shape" 1888 1119,Ap P 1889 1120,BL P 1890] 2,CB ⟨m "BoundHost",[Br],[Ck,Br,AD],1121,m "BoundHost",true,[],[],false,none,false⟩ (Ar 1099) "BoundHost" 1861 "BoundHost" 1869 AN Bl,CJ Ck Ck 1122,CL Ck]]
def P5 (P:Params):List (Nat×Obj):=[CK 3 P P BZ 201 202,Cf 309,(629,CB ⟨CA,[AD],[Br,AD],628,CA,true,[],[Ck],false,none,false⟩ none "Thin" 993 "Thin" 1001 AN Bl)]
def ON (P:Params):BT:=eZ (eE (OO P) 1066 (PQ P)) (P5 P)
def PO (P:Params):List Obj:=List.flatten [[B8 #[Bq],CN,Bx #[AJ P 1902 BY,Cq P 1904 "ParamRule" 1903,Ax P 1906 1003 1905,Ab P "holds" 1916 1138,Ap P 1917 1139] 5,B9,Cs (BM (Ae 1005) AV 1137),BF #[Aa "ParamRule" 1897,Aa "ParamRule" 1898,Aw 1899,Ae 1003,Ak,Ak,Ak,Ak,.ref 1128,B6,BH,.ref 1129,.none,.none,.none,.none,Ae 1900,Ae 1003,Aw 1901],CE (Ar 1130) Ce (Ar 1127) (AR "kindkeep.relopen" 1893) Cm],AU 204 0 "ParamRule.holds" 1132 1907 BY,[B9,Bx #[AJ P 1902 BY,Ax P 1906 1003 1905,Ab P "holds" 1916 1138,Ap P 1917 1139,BL P 1918] 2,CB ⟨m "ParamRule",[Bq],[Cj,Bq,AD],1140,m "ParamRule",true,[],[],false,none,false⟩ (Ar 1125) "ParamRule" 1895 "ParamRule" 1903 AN Bl,CJ Cj Cj 1141,CL Cj],fr BY 2 205 1144 1921,fr AM 4 208 1158 1941]
def P4 (P:Params):List (Nat×Obj):=[CK 3 P P AM 208 209,Cf 330,(811,CB ⟨Cl,[AD],[Bq,AD],810,Cl,true,[],[Cj],false,none,false⟩ none "RelRule" 1380 "RelRule" 1388 AN Bl)]
def OM (P:Params):BT:=eZ (eE (ON P) 1125 (PO P)) (P4 P)
def PN (P:Params):List Obj:=List.flatten [Bj true 212 1186 1972 AM,BG 213 1193 1978 AM,Bj true 214 1198 1984 AM,BG 215 1205 1993 AM,fr AM 7 216 1210 1999,BG 223 1259 2095 AM,Bj true 224 1264 2101 AM,BG 225 1271 2114 AM]
def P2 (P:Params):List (Nat×Obj):=[CK 3 P P AM 222 223,Cf 372]
def OL (P:Params):BT:=eZ (eE (OM P) 1186 (PN P)) (P2 P)
def PM (P:Params):List Obj:=List.flatten [Bj true 226 1276 2120 AM,BG 227 1283 2149 AM]
def P1 (P:Params):List (Nat×Obj):=[CK 3 P P AM 224 225,Cf 378]
def mr (P:Params):BT:=eZ (eE (OL P) 1276 (PM P)) (P1 P)
theorem p1 (w:World):(fun w=>∀os:OsState,segRunT treeTable pw w 11 (some (.ref 6)) 1 324 (S (T0 w.params) 15 187 os) (piecesOf [st 0,st 1,st 2,st 3,st 4,st 5,st 6,st 7,st 8] mF cd ⟨0,0,0,0⟩ [topFrame ⟨0,0,0,0⟩])=some (.next,S (T1 w.params) 43 239 os,cd,⟨11,0,15,24⟩)) w:=by intro os;rw [PySem.W.Fast.te10110043849684766642,PySem.W.Fast.te14364793385576792824];kernel_rfl
theorem p2 (w:World):(fun w=>∀os:OsState,segRunT treeTable pw w 11 (some (.ref 6)) 1 251 (S (T1 w.params) 43 239 os) (piecesOf [st 9] mF cd ⟨11,0,15,24⟩ [topFrame ⟨0,0,0,0⟩])=some (.next,S (T2 w.params) 63 268 os,cd,⟨16,0,20,24⟩)) w:=by intro os;rw [PySem.W.Fast.te10110043849684766642,PySem.W.Fast.te14364793385576792824];kernel_rfl
theorem p3 (w:World):(fun w=>∀os:OsState,segRunT treeTable pw w 11 (some (.ref 6)) 1 249 (S (T2 w.params) 63 268 os) (piecesOf [st 10] mF cd ⟨16,0,20,24⟩ [topFrame ⟨0,0,0,0⟩])=some (.next,S (T3 w.params) 83 295 os,cd,⟨21,0,25,24⟩)) w:=by intro os;rw [PySem.W.Fast.te10110043849684766642,PySem.W.Fast.te14364793385576792824];kernel_rfl
theorem p4 (w:World):(fun w=>∀os:OsState,segRunT treeTable pw w 11 (some (.ref 6)) 1 446 (S (T3 w.params) 83 295 os) (piecesOf [st 11,st 12,st 13,st 14,st 15,st 16,st 17,st 18,st 19,st 20,st 21,st 22,st 23,st 24,st 25] mF cd ⟨21,0,25,24⟩ [topFrame ⟨0,0,0,0⟩])=some (.next,S (T4 w.params) 125 377 os,cd,⟨55,0,55,5⟩)) w:=by intro os;rw [PySem.W.Fast.te10110043849684766642,PySem.W.Fast.te14364793385576792824];kernel_rfl
theorem p5 (w:World):(fun w=>∀os:OsState,segRunT treeTable pw w 11 (some (.ref 6)) 1 441 (S (T4 w.params) 125 377 os) (piecesOf [st 26,st 27,st 28,st 29,st 30,st 31,st 32,st 33,st 34,st 35,st 36,st 37,st 38,st 39,st 40,st 41,st 42,st 43,st 44,st 45,st 46,st 47,st 48,st 49,st 50,st 51,st 52,st 53,st 54,st 55,st 56,st 57,st 58,st 59,st 60,st 61,st 62,st 63] mF cd ⟨55,0,55,5⟩ [topFrame ⟨0,0,0,0⟩])=some (.next,S (T5 w.params) 148 473 os,cd,⟨93,0,93,10⟩)) w:=by intro os;rw [PySem.W.Fast.te10110043849684766642,PySem.W.Fast.te14364793385576792824];kernel_rfl
theorem p6:∀w:World,(fun w=>∀os:OsState,segRunT treeTable pw w 11 (some (.ref 6)) 1 159 (S (T5 w.params) 148 473 os) (piecesOf [st 64,st 65,st 66,st 67] mF cd ⟨93,0,93,10⟩ [topFrame ⟨0,0,0,0⟩])=some (.next,S (T6 w.params) 152 483 os,cd,⟨97,0,97,12⟩)) w:=by refine byRow2 "special-get-raises" ?_ ?_<;>intro w os<;>rw [PySem.W.Fast.te10110043849684766642,PySem.W.Fast.te14364793385576792824] <;>kernel_rfl
theorem p7 (w:World):(fun w=>∀os:OsState,segRunT treeTable pw w 11 (some (.ref 6)) 1 297 (S (T6 w.params) 152 483 os) (piecesOf [st 68] mF cd ⟨97,0,97,12⟩ [topFrame ⟨0,0,0,0⟩])=some (.next,S (T7 w.params) 187 538 os,cd,⟨98,0,123,16⟩)) w:=by intro os;rw [PySem.W.Fast.te10110043849684766642,PySem.W.Fast.te14364793385576792824];kernel_rfl
theorem p8 (w:World):(fun w=>∀os:OsState,segRunT treeTable pw w 11 (some (.ref 6)) 1 441 (S (T7 w.params) 187 538 os) (piecesOf [st 69,st 70,st 71,st 72,st 73,st 74,st 75] mF cd ⟨98,0,123,16⟩ [topFrame ⟨0,0,0,0⟩])=some (.next,S (T8 w.params) 252 643 os,cd,⟨158,0,164,15⟩)) w:=by intro os;rw [PySem.W.Fast.te10110043849684766642,PySem.W.Fast.te14364793385576792824];kernel_rfl
theorem p9 (w:World):(fun w=>∀os:OsState,segRunT treeTable pw w 11 (some (.ref 6)) 1 450 (S (T8 w.params) 252 643 os) (piecesOf [st 76,st 77,st 78,st 79,st 80,st 81,st 82,st 83,st 84,st 85,st 86,st 87,st 88,st 89,st 90] mF cd ⟨158,0,164,15⟩ [topFrame ⟨0,0,0,0⟩])=some (.next,S (T9 w.params) 353 766 os,cd,⟨252,0,253,65⟩)) w:=by intro os;rw [PySem.W.Fast.te10110043849684766642,PySem.W.Fast.te14364793385576792824];kernel_rfl
theorem Pq (w:World):(fun w=>∀os:OsState,segRunT treeTable pw w 11 (some (.ref 6)) 1 426 (S (T9 w.params) 353 766 os) (piecesOf [st 91,st 92,st 93,st 94,st 95,st 96,st 97,st 98,st 99,st 100,st 101,st 102,st 103,st 104,st 105,st 106,st 107,st 108] mF cd ⟨252,0,253,65⟩ [topFrame ⟨0,0,0,0⟩])=some (.next,S (OX w.params) 431 891 os,cd,⟨335,0,348,41⟩)) w:=by intro os;rw [PySem.W.Fast.te10110043849684766642,PySem.W.Fast.te14364793385576792824];kernel_rfl
theorem Pp (w:World):(fun w=>∀os:OsState,segRunT treeTable pw w 11 (some (.ref 6)) 1 344 (S (OX w.params) 431 891 os) (piecesOf [st 109,st 110,st 111,st 112,st 113,st 114,st 115,st 116,st 117,st 118,st 119,st 120,st 121,st 122,st 123] mF cd ⟨335,0,348,41⟩ [topFrame ⟨0,0,0,0⟩])=some (.next,S (OW w.params) 487 993 os,cd,⟨451,0,451,11⟩)) w:=by intro os;rw [PySem.W.Fast.te10110043849684766642,PySem.W.Fast.te14364793385576792824];kernel_rfl
theorem Po (w:World):(fun w=>∀os:OsState,segRunT treeTable pw w 11 (some (.ref 6)) 1 812 (S (OW w.params) 487 993 os) (piecesOf [st 124] mF cd ⟨451,0,451,11⟩ [topFrame ⟨0,0,0,0⟩])=some (.next,S (OV w.params) 634 1179 os,cd,⟨452,0,513,17⟩)) w:=by intro os;rw [PySem.W.Fast.te10110043849684766642,PySem.W.Fast.te14364793385576792824];kernel_rfl
theorem Pn (w:World):(fun w=>∀os:OsState,segRunT treeTable pw w 11 (some (.ref 6)) 1 419 (S (OV w.params) 634 1179 os) (piecesOf [st 125,st 126,st 127,st 128,st 129,st 130,st 131,st 132,st 133,st 134,st 135,st 136,st 137,st 138] mF cd ⟨452,0,513,17⟩ [topFrame ⟨0,0,0,0⟩])=some (.next,S (OU w.params) 726 1295 os,cd,⟨577,0,581,91⟩)) w:=by intro os;rw [PySem.W.Fast.te10110043849684766642,PySem.W.Fast.te14364793385576792824];kernel_rfl
theorem Pm (w:World):(fun w=>∀os:OsState,segRunT treeTable pw w 11 (some (.ref 6)) 1 398 (S (OU w.params) 726 1295 os) (piecesOf [st 139,st 140,st 141,st 142,st 143,st 144,st 145,st 146,st 147,st 148,st 149,st 150,st 151,st 152,st 153,st 154,st 155,st 156,st 157,st 158,st 159,st 160,st 161,st 162,st 163] mF cd ⟨577,0,581,91⟩ [topFrame ⟨0,0,0,0⟩])=some (.next,S (OT w.params) 767 1380 os,cd,⟨646,0,646,10⟩)) w:=by intro os;rw [PySem.W.Fast.te10110043849684766642,PySem.W.Fast.te14364793385576792824];kernel_rfl
theorem Pl (w:World):(fun w=>∀os:OsState,segRunT treeTable pw w 11 (some (.ref 6)) 1 359 (S (OT w.params) 767 1380 os) (piecesOf [st 164] mF cd ⟨646,0,646,10⟩ [topFrame ⟨0,0,0,0⟩])=some (.next,S (OS w.params) 816 1449 os,cd,⟨647,0,662,17⟩)) w:=by intro os;rw [PySem.W.Fast.te10110043849684766642,PySem.W.Fast.te14364793385576792824];kernel_rfl
theorem Pk (w:World):(fun w=>∀os:OsState,segRunT treeTable pw w 11 (some (.ref 6)) 1 431 (S (OS w.params) 816 1449 os) (piecesOf [st 165] mF cd ⟨647,0,662,17⟩ [topFrame ⟨0,0,0,0⟩])=some (.next,S (OQ w.params) 879 1542 os,cd,⟨663,0,698,17⟩)) w:=by intro os;rw [PySem.W.Fast.te10110043849684766642,PySem.W.Fast.te14364793385576792824];kernel_rfl
theorem Pj (w:World):(fun w=>∀os:OsState,segRunT treeTable pw w 11 (some (.ref 6)) 1 436 (S (OQ w.params) 879 1542 os) (piecesOf [st 166,st 167,st 168,st 169,st 170,st 171,st 172,st 173,st 174,st 175,st 176,st 177,st 178,st 179] mF cd ⟨663,0,698,17⟩ [topFrame ⟨0,0,0,0⟩])=some (.next,S (OP w.params) 977 1669 os,cd,⟨815,0,816,59⟩)) w:=by intro os;rw [PySem.W.Fast.te10110043849684766642,PySem.W.Fast.te14364793385576792824];kernel_rfl
theorem Ph (w:World):(fun w=>∀os:OsState,segRunT treeTable pw w 11 (some (.ref 6)) 1 450 (S (OP w.params) 977 1669 os) (piecesOf [st 180,st 181,st 182,st 183,st 184,st 185,st 186,st 187,st 188,st 189,st 190,st 191,st 192,st 193,st 194,st 195] mF cd ⟨815,0,816,59⟩ [topFrame ⟨0,0,0,0⟩])=some (.next,S (OO w.params) 1066 1805 os,cd,⟨925,0,929,103⟩)) w:=by intro os;rw [PySem.W.Fast.te10110043849684766642,PySem.W.Fast.te14364793385576792824];kernel_rfl
theorem Pg (w:World):(fun w=>∀os:OsState,segRunT treeTable pw w 11 (some (.ref 6)) 1 448 (S (OO w.params) 1066 1805 os) (piecesOf [st 196,st 197,st 198,st 199,st 200,st 201,st 202] mF cd ⟨925,0,929,103⟩ [topFrame ⟨0,0,0,0⟩])=some (.next,S (ON w.params) 1125 1893 os,cd,⟨995,0,1001,39⟩)) w:=by intro os;rw [PySem.W.Fast.te10110043849684766642,PySem.W.Fast.te14364793385576792824];kernel_rfl
theorem Pf (w:World):(fun w=>∀os:OsState,segRunT treeTable pw w 11 (some (.ref 6)) 1 446 (S (ON w.params) 1125 1893 os) (piecesOf [st 203,st 204,st 205,st 206,st 207,st 208,st 209,st 210,st 211] mF cd ⟨995,0,1001,39⟩ [topFrame ⟨0,0,0,0⟩])=some (.next,S (OM w.params) 1186 1972 os,cd,⟨1027,0,1028,51⟩)) w:=by intro os;rw [PySem.W.Fast.te10110043849684766642,PySem.W.Fast.te14364793385576792824];kernel_rfl
theorem Pe (w:World):(fun w=>∀os:OsState,segRunT treeTable pw w 11 (some (.ref 6)) 1 449 (S (OM w.params) 1186 1972 os) (piecesOf [st 212,st 213,st 214,st 215,st 216,st 217,st 218,st 219,st 220,st 221,st 222,st 223,st 224,st 225] mF cd ⟨1027,0,1028,51⟩ [topFrame ⟨0,0,0,0⟩])=some (.next,S (OL w.params) 1276 2120 os,cd,⟨1159,0,1191,58⟩)) w:=by intro os;rw [PySem.W.Fast.te10110043849684766642,PySem.W.Fast.te14364793385576792824];kernel_rfl
theorem Pd (w:World):(fun w=>∀os:OsState,segRunT treeTable pw w 11 (some (.ref 6)) 1 78 (S (OL w.params) 1276 2120 os) (piecesOf [st 226,st 227] mF cd ⟨1159,0,1191,58⟩ [topFrame ⟨0,0,0,0⟩])=some (.next,S (mr w.params) 1288 2155 os,cd,⟨1219,0,1240,48⟩)) w:=by intro os;rw [PySem.W.Fast.te10110043849684766642,PySem.W.Fast.te14364793385576792824];kernel_rfl
theorem wY:behindTheImports pw=([st 0,st 1,st 2,st 3,st 4,st 5,st 6,st 7,st 8] ++([st 9] ++([st 10] ++([st 11,st 12,st 13,st 14,st 15,st 16,st 17,st 18,st 19,st 20,st 21,st 22,st 23,st 24,st 25] ++([st 26,st 27,st 28,st 29,st 30,st 31,st 32,st 33,st 34,st 35,st 36,st 37,st 38,st 39,st 40,st 41,st 42,st 43,st 44,st 45,st 46,st 47,st 48,st 49,st 50,st 51,st 52,st 53,st 54,st 55,st 56,st 57,st 58,st 59,st 60,st 61,st 62,st 63] ++([st 64,st 65,st 66,st 67] ++([st 68] ++([st 69,st 70,st 71,st 72,st 73,st 74,st 75] ++([st 76,st 77,st 78,st 79,st 80,st 81,st 82,st 83,st 84,st 85,st 86,st 87,st 88,st 89,st 90] ++([st 91,st 92,st 93,st 94,st 95,st 96,st 97,st 98,st 99,st 100,st 101,st 102,st 103,st 104,st 105,st 106,st 107,st 108] ++([st 109,st 110,st 111,st 112,st 113,st 114,st 115,st 116,st 117,st 118,st 119,st 120,st 121,st 122,st 123] ++([st 124] ++([st 125,st 126,st 127,st 128,st 129,st 130,st 131,st 132,st 133,st 134,st 135,st 136,st 137,st 138] ++([st 139,st 140,st 141,st 142,st 143,st 144,st 145,st 146,st 147,st 148,st 149,st 150,st 151,st 152,st 153,st 154,st 155,st 156,st 157,st 158,st 159,st 160,st 161,st 162,st 163] ++([st 164] ++([st 165] ++([st 166,st 167,st 168,st 169,st 170,st 171,st 172,st 173,st 174,st 175,st 176,st 177,st 178,st 179] ++([st 180,st 181,st 182,st 183,st 184,st 185,st 186,st 187,st 188,st 189,st 190,st 191,st 192,st 193,st 194,st 195] ++([st 196,st 197,st 198,st 199,st 200,st 201,st 202] ++([st 203,st 204,st 205,st 206,st 207,st 208,st 209,st 210,st 211] ++([st 212,st 213,st 214,st 215,st 216,st 217,st 218,st 219,st 220,st 221,st 222,st 223,st 224,st 225] ++([st 226,st 227] ++[])))))))))))))))))))))):=by kernel_rfl
theorem Pc (w:World)(os:OsState):topGo treeTable pw w 11 (some (.ref 6)) 12 ⟨boot_heap w.params,Array.mk [],boot_drawn,boot_toks,os⟩ (topStub pw)=some ((S (T0 w.params) 15 187 os).abs,⟨denote treeTable cd,cd,⟨0,0,0,0⟩,[topFrame ⟨0,0,0,0⟩]⟩):=by kernel_rfl
theorem PK (w:World)(os:OsState):segRun treeTable pw w 11 (some (.ref 6)) 1 1 (S (T0 w.params) 15 187 os).abs (blockOf (behindTheImports pw) mF cd ⟨0,0,0,0⟩ [topFrame ⟨0,0,0,0⟩])=some (.next,(S (T0 w.params) 15 187 os).abs,cd,⟨0,0,0,0⟩):=by kernel_rfl
theorem PJ (w:World)(os:OsState):topRun treeTable pw w 11 (some (.ref 6)) 2 (S (mr w.params) 1288 2155 os).abs ⟨doneF .next,cd,⟨1219,0,1240,48⟩,[topFrame ⟨0,0,0,0⟩]⟩=some (S (mr w.params) 1288 2155 os).abs:=by kernel_rfl
theorem Pb (w:World)(os:OsState):topRun treeTable pw w 11 (some (.ref 6)) (12+(1+(324+(251+(249+(446+(441+(159+(297+(441+(450+(426+(344+(812+(419+(398+(359+(431+(436+(450+(448+(446+(449+(78+2)))))))))))))))))))))))) ⟨boot_heap w.params,Array.mk [],boot_drawn,boot_toks,os⟩ (topStub pw)=some (S (mr w.params) 1288 2155 os).abs:=by refine go_top (Pc w os) ?_;refine piece_block (PK w os) ?_;rw [wY];refine piece_app (segRun_of (p1 w os)) ?_;refine piece_app (segRun_of (p2 w os)) ?_;refine piece_app (segRun_of (p3 w os)) ?_;refine piece_app (segRun_of (p4 w os)) ?_;refine piece_app (segRun_of (p5 w os)) ?_;refine piece_app (segRun_of (p6 w os)) ?_;refine piece_app (segRun_of (p7 w os)) ?_;refine piece_app (segRun_of (p8 w os)) ?_;refine piece_app (segRun_of (p9 w os)) ?_;refine piece_app (segRun_of (Pq w os)) ?_;refine piece_app (segRun_of (Pp w os)) ?_;refine piece_app (segRun_of (Po w os)) ?_;refine piece_app (segRun_of (Pn w os)) ?_;refine piece_app (segRun_of (Pm w os)) ?_;refine piece_app (segRun_of (Pl w os)) ?_;refine piece_app (segRun_of (Pk w os)) ?_;refine piece_app (segRun_of (Pj w os)) ?_;refine piece_app (segRun_of (Ph w os)) ?_;refine piece_app (segRun_of (Pg w os)) ?_;refine piece_app (segRun_of (Pf w os)) ?_;refine piece_app (segRun_of (Pe w os)) ?_;refine piece_app (segRun_of (Pd w os)) ?_;exact piece_nil (PJ w os)
theorem sX:opening pw=plainProg pw.main.scope.names:=by kernel_rfl
theorem zc (s:Shared):fenceModules? pw s=some s:=by kernel_rfl
theorem Ir (N:Nat)(h:Nat.ble 600 N=true):∀w:World,(fencedOpening treeTable pw w N).map (fun s=>(s.heap,s.gens,s.drawn,s.toks))=some (boot_heap w.params,Array.mk [],boot_drawn,boot_toks):=boot_open sX h zc
theorem Ih (w:World):((boot_heap w.params).isNs mainGlobals&&(Array.mk ([] :List GenState)).size==0,(boot_heap w.params).objs.size,(boot_heap w.params).nsMap mainGlobals "__annotations__")=(true,11,some (.ref 6)):=by kernel_rfl
end
section
open PySem PySem.W PySem.Calls PyProof.Rows
set_option maxRecDepth 1000000
set_option maxHeartbeats 0
def dw:List Str:=[m "_wall",m "U_ANY",m "U_PROP",m "U_INDEX",m "U_ENUM",m "U_OPTION",m "U_VAR",m "KeepError",m "TooDeep",m "HostFault",m "Notes",m "Y_KEY",m "Y_BOOL",m "Y_STR",m "Y_NUM",m "Y_ENUM",m "Y_UNION",m "Y_INTER",m "Y_OBJ",m "Y_REF",m "Y_PARAM",m "Y_ARRAY",m "Y_TUPLE",m "Y_SIG",m "Y_KEYOF",m "Y_INDEX",m "Y_COND",m "Y_MAPPED",m "Y_TPL",m "Y_ALIAS",m "ANY",m "UNKNOWN",m "NEVER",m "VOID",m "UNDEF",m "NULLT",m "STRING",m "NUMBER",m "FALSE_T",m "TRUE_T",m "OBJECTT",m "EMPTY",m "ERR",m "FRESH_F",m "FRESH_T",m "P_OPT",m "P_PRIVATE",m "P_PROTECTED",m "E_OPT",m "E_REST",m "E_SPREAD",m "D_OBJALIAS",m "FAM_OTHER",m "FAM_STR",m "FAM_NUM",m "FAM_BOOL",m "FAM_NULL",m "FAM_UNDEF",m "FAM_VOID",m "FAM_OBJ",m "MAX_UNION",m "FIRST_ROWS",m "LITERAL_ROWS",m "MARKED_ROWS",m "OBJECT_ROWS",m "KEY_FAMILIES",m "TypeTable",m "Decl",m "kind_of",m "str_type",m "func_type",m "new_param",m "new_decl",m "parts_of",m "whole_of_row",m "regular_twin",m "join_bools",m "stays_beside",m "top_of",m "union",m "add_undef",m "is_literal",m "is_unit",m "is_fresh",m "regular_one",m "common_family",m "meet_family",m "family",m "is_nullish_family",m "MAX_DRAWN",m "MEET_NEVER",m "MEET_LEFT",m "MEET_RIGHT",m "MEET_BOTH",m "all_units",m "value_literal",m "kinds_apart",m "units_clash",m "known_decl",m "body_props",m "flat_props",m "shapes_clash",m "meet_nullish",m "meet_values",m "meet_objects",m "meet_case",m "lay_on",m "members_of_meet",m "meet_parts",m "meet_two",m "inter",m "MOST_PLAIN",m "PLAIN_ROWS",m "LIST_ROWS_shapes",m "hidden_apart",m "final_parts",m "plain_shape",m "MOST_ROUNDS",m "MOST_SHAPES",m "Thin",m "bound_of",m "elem_read",m "told_places",m "find_prop",m "is_digits",m "place_of",m "is_number_name",m "prop_row",m "read_type",m "late_place",m "list_read",m "index_read",m "part_type",m "prop_type",m "index_of",m "index_of_parts",m "tuple_at",m "unit_word",m "key_text",m "R_ASSIGN",m "R_COMPARE",m "R_IDENT",m "R_SUBTYPE",m "RULE_MEET",m "RULE_DEFERRED",m "RULE_SIG",m "RULE_LIST",m "RULE_OBJECT",m "RULE_CHOICE",m "RULE_PLACES",m "VALUE_ROWS",m "LIST_ROWS_relbase",m "SHAPED_ROWS",m "DEFERRED_ROWS",m "OPEN_ROWS",m "MAX_OPEN",m "MOST_LOOKS",m "RelRule",m "Rel",m "by_rule",m "silent_with",m "like",m "twin_of",m "cut_back",m "settled",m "ask_kinds",m "relbase_kept",m "close_trail",m "tells",m "simple_related",m "tops_related",m "unknown_told",m "is_numeric_enum",m "values_related",m "number_to_enum",m "structured",m "rule_for",m "from_union",m "some_part",m "lay_again",m "to_union",m "same_kind",m "each_in",m "pid_bound",m "HIDDEN",m "bound_kind",m "shown_keys",m "sure_keys",m "to_keyof",m "written_at",m "written_kind",m "to_index",m "BoundHost",m "ParamRule",m "param_related",m "install_rel_params",m "_law_take",m "_law_row",m "_law_bits",m "_law_members",m "_law_words",m "_law_few",m "_law_all",m "_law_kind",m "_law_object",m "_law_at",m "_law_goes",m "_law_things",m "_law_bound",m "_law_keys",m "_law_key",m "_law_source",m "_law_written",m "_law_indexed",m "_law_keyed"]
def qv:Program:= {pw with main:= {pw.main with body:=[st 227] } }
noncomputable def H1 (P:Params):Heap:=absHeap (mr P) 1288 {}
theorem PH (w:World):staticsOk (importedModules pw.main.body) (boot_heap w.params) (H1 w.params)=true:=by kernel_rfl
theorem PG (w:World):namesBound pw (H1 w.params)=true:=by kernel_rfl
theorem PF (w:World):laidKept (boot_heap w.params) (H1 w.params)=true:=by kernel_rfl
theorem PE (w:World)(os:OsState):seen ((recsOf qv).map (·.name)) (ownsOf qv) [] {(S (mr w.params) 1288 2155 os).abs with gens:= #[] } =expectedOf qv:=by kernel_rfl
theorem PD (w:World)(os:OsState):(S (mr w.params) 1288 2155 os).abs.heap.bltView=bltViewBooted:=by kernel_rfl
theorem PC (w:World)(os:OsState):(H1 w.params).keysOk (looseW qv dw) ((recsOf qv).map (·.name)) ((litsOf qv).map (·.1)) ((clssOf qv (looseW qv dw)).map (·.name))=true:=by kernel_rfl
theorem PB (w:World):(H1 w.params).accountedOkI (importedModules pw.main.body)=true:=by kernel_rfl
theorem PA (w:World):((H1 w.params).isNs mainGlobals&&(H1 w.params).isNs builtinsNs&&tablesOk qv (H1 w.params))=true:=by kernel_rfl
theorem Oy (w:World)(os:OsState):tabsOk qv (S (mr w.params) 1288 2155 os).abs=true:=by kernel_rfl
theorem Ox (w:World)(os:OsState):pinSeenD qv (drecsOf qv) (S (mr w.params) 1288 2155 os).abs=pinGoodD (drecsOf qv):=by kernel_rfl
theorem Ow (w:World)(os:OsState):plainSeenE qv (looseW qv dw) (S (mr w.params) 1288 2155 os).abs=plainGoodE qv (looseW qv dw):=by kernel_rfl
theorem Ov (w:World)(os:OsState):plainSeenD qv dw (S (mr w.params) 1288 2155 os).abs=plainGoodD qv dw:=by kernel_rfl
theorem Ou (w:World)(os:OsState):wideSeen qv (S (mr w.params) 1288 2155 os).abs=wideGood qv:=by kernel_rfl
theorem Ot (w:World)(os:OsState):clsSeenW qv dw (S (mr w.params) 1288 2155 os).abs=clsGoodW qv dw:=by kernel_rfl
end
section
open PySem PySem.W PySem.Calls PyProof.Rows
set_option maxRecDepth 1000000
set_option maxHeartbeats 400000
abbrev mV:OpenLaw:=PySem.Challenge.rw_up0031_01
theorem IZ (w:World)(os:OsState):(S (mr w.params) 1288 2155 os).abs.heap=H1 w.params:=by kernel_rfl
theorem Oh {A B C D E F G H I:Type _}{a a':A}{b b':B}{c c':C}{d d':D}{e e':E}{f f':F}{g g':G}{h h':H}{i i':I}
 (h1:a=a') (h2:b=b') (h3:c=c') (h4:d=d') (h5:e=e') (h6:f=f') (h7:g=g') (h8:h=h') (h9:i=i'):(a,b,c,d,e,f,g,h,i)=(a',b',c',d',e',f',g',h',i'):=by
 rw [h1,h2,h3,h4,h5,h6,h7,h8,h9]
theorem Pw (w:World)(os:OsState):((S (mr w.params) 1288 2155 os).abs.heap.keysOk (looseW qv dw) ((recsOf qv).map (·.name)) ((litsOf qv).map (·.1)) ((clssOf qv (looseW qv dw)).map (·.name))&&(S (mr w.params) 1288 2155 os).abs.heap.accountedOkI (importedModules pw.main.body)&&(S (mr w.params) 1288 2155 os).abs.heap.isNs mainGlobals&&(S (mr w.params) 1288 2155 os).abs.heap.isNs builtinsNs&&tablesOk qv (S (mr w.params) 1288 2155 os).abs.heap&&(fun _:Shared=>true) (S (mr w.params) 1288 2155 os).abs&&(if true=true then(S (mr w.params) 1288 2155 os).abs.gens.size==0 else !leftWithCleanup (S (mr w.params) 1288 2155 os).abs.gens))=true:=by have h9:=PA w;rw [Bool.and_eq_true,Bool.and_eq_true] at h9;rw [IZ w os,PC w os,PB,h9.1.1,h9.1.2,h9.2];with_unfolding_all rfl
theorem Pz (w:World)(os:OsState):openSeen qv dw (importedModules pw.main.body) (fun _=>true) true (S (mr w.params) 1288 2155 os).abs=openGood qv dw:=by unfold openSeen openGood;with_reducible exact Oh (PE w os) (PD w os) (Pw w os) (Oy w os) (Ox w os) (Ow w os) (Ov w os) (Ou w os) (Ot w os)
theorem O9 {A B C:Type _}{a a':A}{b b':B}{c c':C}(h1:a=a')(h2:b=b')(h3:c=c'):(a,b,c)=(a',b',c'):=by rw [h1,h2,h3]
theorem Lm (w:World)(os:OsState):(staticsOk (importedModules pw.main.body) (boot_heap w.params) (H1 w.params)&&namesBound pw (H1 w.params)&&gensDone ⟨H1 w.params,#[],{},2155,os⟩&&laidKept (boot_heap w.params) (H1 w.params))=true:=by rw [PH,PG,PF];with_unfolding_all rfl
theorem zQ (w:World)(os:OsState):(S (mr w.params) 1288 2155 os).abs=⟨H1 w.params,#[],{},2155,os⟩:=by kernel_rfl
theorem Py (w:World)(os:OsState):openSeen qv dw (importedModules pw.main.body) (fun _=>true) true ⟨H1 w.params,#[],{},2155,os⟩=openGood qv dw:=by rw [←zQ w os];with_reducible exact Pz w os
theorem Ol (w:World)(os:OsState):topRun treeTable pw w 11 (some (.ref 6)) (12+(1+(324+(251+(249+(446+(441+(159+(297+(441+(450+(426+(344+(812+(419+(398+(359+(431+(436+(450+(448+(446+(449+(78+2)))))))))))))))))))))))) ⟨boot_heap w.params,Array.mk [],boot_drawn,boot_toks,os⟩ (topStub pw)=some ⟨H1 w.params,#[],{},2155,os⟩:=by rw [←zQ w os];with_reducible exact Pb w os
theorem MO (w:World):(fun os=>((staticsOk (importedModules pw.main.body) (boot_heap w.params) (H1 w.params)&&namesBound pw (H1 w.params)&&gensDone ⟨H1 w.params,#[],{},2155,os⟩&&laidKept (boot_heap w.params) (H1 w.params)),openSeen qv dw (importedModules pw.main.body) (fun _=>true) true ⟨H1 w.params,#[],{},2155,os⟩,(⟨H1 w.params,#[],{},2155,os⟩:Shared).heap))=fun _=>(true,openGood qv dw,H1 w.params):=by funext os;exact O9 (Lm w os) (Py w os) rfl
theorem Oz (N:Nat)(h:Nat.ble 600 N=true)(le:Nat.ble (12+(1+(324+(251+(249+(446+(441+(159+(297+(441+(450+(426+(344+(812+(419+(398+(359+(431+(436+(450+(448+(446+(449+(78+2)))))))))))))))))))))))) N=true):LeftO pw qv dw (fun _=>true) (fun s=>s.heap) (fun w=>H1 w.params) N:=
 LeftO.of_pieces (Ir N h) Ih Ol le MO
end
section
open PySem PySem.W
set_option maxRecDepth 1000000
set_option maxHeartbeats 0
abbrev uz:OpenLaw:=PySem.Challenge.rw_up0031_01
theorem a2:namesResolve uz.row.prog=true:=by rw [PySem.W.Fast.te8377067652309620493];kernel_rfl
theorem a4:noRoadLSs {strict:= !(importedModules uz.row.prog.main.body).all cThrough.contains,foot:=none,bare:=(["vars","dir","locals"] :List Str).filter (readsOut uz.row.prog uz.row.prog.main.body)} uz.row.prog.main.body=true:=by rw [PySem.W.Fast.te8326940854005059898,PySem.W.Fast.te13343964577679436407];kernel_rfl
theorem a5:(namesMeet uz.row.prog uz.row.prog.main.body fun _ n=>attrL n)=true:=by rw [PySem.W.Fast.te17119622794617984870];kernel_rfl
theorem Px:looksOpen uz.row.prog=true:=by unfold looksOpen;refine look_both (look_both (look_both (look_both ?_ a2) ?_) a4) a5;all_goals kernel_rfl
theorem MK:uz.row.partSaid=true:=by
 unfold OpenRow.partSaid;repeat' with_reducible refine look_both ?_ ?_
 all_goals first|(with_reducible exact Px)|kernel_rfl
theorem Om:uz.row.wellSaid=true:=by
 unfold OpenRow.wellSaid;repeat' with_reducible refine look_both ?_ ?_
 all_goals first|(with_reducible exact MK)|kernel_rfl
theorem PL:uz.bound'.all (fun n=> !builtinNamed n||uz.about==[n] || !uz.reads n)=true:=by kernel_rfl
theorem qX:uz.wellSaid=true:=by
 unfold OpenLaw.wellSaid;repeat' with_reducible refine look_both ?_ ?_
 all_goals first|(with_reducible exact Om)|(with_reducible exact PL)|kernel_rfl
end
section
open PySem PySem.W PySem.Calls PyProof.Rows
set_option maxRecDepth 1000000
set_option maxHeartbeats 400000
def Jc:Stmt→Str×Arguments×List Stmt×Scope×Pos
 | .FunctionDef n a b _ _ _ sc _ _ p=>(n,a,b,sc,p)
 |_=>(m "",⟨[],[],none,[],[],none,[]⟩,[],default,default)
def qp:DefRec:=⟨m "law",(Jc (st 227)).2.1,(Jc (st 227)).2.2.1,(Jc (st 227)).2.2.2.1,(Jc (st 227)).2.2.2.2⟩
theorem OC:defOf qv (m "law")=some (qp,[]):=by kernel_rfl
theorem hp:pw.theDef (m "law")=some (qp.params,qp.body,qp.scope):=by kernel_rfl
theorem hk:kwWritten? qp.params.kwonlyargs qp.params.kw_defaults=some [] :=by kernel_rfl
theorem Pt:(chainsOk qv&&opensWell pw&&(frees mV.row.toRowW&&mV.row.toRowW.within.isEmpty))=true:=by kernel_rfl
theorem Nh:pw.bare:=⟨rfl,rfl,rfl,rfl,rfl,by decide+kernel⟩
def YP (w:World)(h:Heap):Prop:=∀b o,(H1 w.params).get? b=some o→h.get? b=some o
theorem Oo:mV.row.toRowW.promised:=⟨[.list []],by decide+kernel,by decide+kernel⟩
theorem M1 (call:WalkO qv dw (fun _ _=>True) YP mV.row.toRowW qp [] (fun f vs=>PySem.call f vs)):mV.Holds:=
 ⟨qX,holds_open (r:=mV.row) (q:=qv) (loose:=dw) (Xt:=fun _=>true) (XP:=fun _ _=>True) (Yf:=fun s=>s.heap) (Ya:=fun w=>H1 w.params) (YP:=YP) (N:=20000)
  (Oz 20000 (by decide) (by decide)) (fun w s e b o h=>by rw [e];exact h) (fun w h h' k1 k2 b o e=>k2 _ _ (k1 _ _ e)) (fun _ _=>trivial) (fun _ _ _ _ _=>trivial)
  OC hp hk (fun s _=>recFacts_nil rfl) rfl (row_said qX) Pt Nh Oo call⟩
end
section
open PySem
inductive V
 |aE
 |D (b:Bool)
 |j (i:Int)
 |F (s:Str)
 |B (l:List V)
 |y (n:Nat)
 |jM (l:List V)
 deriving Inhabited
mutual
def V.xu:V→V→Bool
 | .aE,.aE=>true
 | .D a,.D b=>a==b
 | .j a,.j b=>a==b
 | .F a,.F b=>decide (a=b)
 | .B a,.B b=>V.sN a b
 | .y a,.y b=>a==b
 | .jM a,.jM b=>V.sN a b
 |_,_=>false
def V.sN:List V→List V→Bool
 |[],[] =>true
 |a::r,b::q=>V.xu a b&&V.sN r q
 |_,_=>false
end
mutual
theorem V.ug:∀a b:V,V.xu a b=true↔a=b
 | .aE,b=>by cases b<;>simp [V.xu]
 | .D a,b=>by cases b<;>simp [V.xu]
 | .j a,b=>by cases b<;>simp [V.xu]
 | .F a,b=>by cases b<;>simp [V.xu]
 | .B a,b=>by
  cases b with
  |B b=>simp only [V.xu,V.B.injEq];exact V.mM a b
  |_=>simp [V.xu]
 | .y a,b=>by cases b<;>simp [V.xu]
 | .jM a,b=>by
  cases b with
  |jM b=>simp only [V.xu,V.jM.injEq];exact V.mM a b
  |_=>simp [V.xu]
theorem V.mM:∀a b:List V,V.sN a b=true↔a=b
 |[],b=>by cases b<;>simp [V.sN]
 |a::r,b=>by
  cases b with
  |nil=>simp [V.sN]
  |cons b q=>simp only [V.sN,Bool.and_eq_true,List.cons.injEq,V.ug a b,V.mM r q]
end
instance:DecidableEq V:=fun a b=>decidable_of_iff _ (V.ug a b)
inductive ag
 |f (l:List V)
 |i (l:List (V×V))
 |J (c:Nat) (fs:List (Nat×V))
 |kH
 deriving Inhabited
abbrev AH:=List ag
abbrev En:=List (Option V)
inductive tX|fZ|z|Mc|vt|kM|qS|Me
 deriving DecidableEq
inductive J6|eq|ne|lt|le|gt|ge|Ke|sL|jm|ub
 deriving DecidableEq
inductive xc|U|i0|dO|F|uh|A7|gV
 deriving DecidableEq
inductive MX
 |k (v:V)
 |h (i:Nat)
 |m
 |cons (a b:MX)
 |B (l:MX)
 |dm (l:MX)
 |gJ
 |hY (o:tX) (a b:MX)
 |gH (a:MX)
 |Ka (a:MX)
 |bH (o:J6) (a b:MX)
 |oD (a b c:MX)
 |dy (l:MX)
 |pK (l:MX)
 |bA (t a b:MX)
 |bB (e:MX) (a:Nat)
 |z (e i:MX)
 |oi (e lo hi:MX)
 |w (f:Nat) (l:MX)
 |oj (c:Nat) (l:MX)
 |bJ (e:MX) (a:Nat) (l:MX)
 |oo (e x:MX)
 |bq (e x:MX)
 |xa (e l:MX)
 |jG (e l:MX)
 |Kl (a b:MX)
 |pO (o:xc) (l:MX)
 |g7 (e:MX) (x:Nat) (it c:MX)
 |hX (e:MX) (x:Nat) (it c:MX)
 |ia
inductive MS
 |V
 |H (x:Nat) (e:MX) (k:MS)
 |g8 (xs:List Nat) (e:MX) (k:MS)
 |iV (o:MX) (a:Nat) (e:MX) (k:MS)
 |g9 (o i e:MX) (k:MS)
 |qT (o:MX) (a:Nat) (op:tX) (e:MX) (k:MS)
 |jn (e:MX) (k:MS)
 |bA (t:MX) (a b k:MS)
 |fq (x:Nat) (e:MX) (b k:MS)
 |jN (x:Nat) (e:MX) (b k:MS)
 |fN (t:MX) (b k:MS)
 |bL (e:MX)
 |gZ
 |xi (k:MS)
 |vz (o lo:MX) (k:MS)
 |qO (o i:MX) (k:MS)
 |ia
inductive Fl
 |a
 |gZ
 |bL (v:V)
structure z4 where
 w:Nat→List V→AH→(V→AH→Prop)→Prop
 Kg:Nat→Option Nat
 bJ:Nat→Nat→Option Nat
def oz:tX→Int→Int→Option Int
 | .fZ,a,b=>some (a+b)
 | .z,a,b=>some (a-b)
 | .Mc,a,b=>if 0≤a∧a<2^30∧0≤b∧b<2^30 then some (a*b) else none
 | .vt,a,b=>if 0<b then some (a%b) else none
 | .kM,a,b=>if 0≤a∧0<b∧b<2^29 then some (a/b) else none
 | .qS,a,b=>if 0≤a∧0≤b then some ((a.toNat&&&b.toNat:Nat):Int) else if 0≤a∧b= -1 then some a else none
 | .Me,a,b=>if 0≤a∧0≤b then some ((a.toNat|||b.toNat:Nat):Int) else none
def zK:tX→Int→Int→Option Int
 | .fZ,a,b=>some (a+b)
 | .z,a,b=>some (a-b)
 |_,_,_=>none
def O2 (i:Int):Prop:= -(2^62)<i∧i<2^62
def cw (o:tX)(a b:V)(H:AH)(Q:V→AH→Prop):Prop:=match a,b with
 | .j a,.j b=>match oz o a b with|some c=>Q (.j c) H|none=>False
 | .B a,.B b=>o=.fZ∧a.length+b.length<2^20∧Q (.B (a++b)) H
 | .y a,.y b=>match H[a]?,H[b]? with
  |some (.f x),some (.f y)=>o=.fZ∧x.length+y.length<2^20∧Q (.y H.length) (H++[.f (x++y)])
  |_,_=>False
 |_,_=>False
def cY (v:V)(H:AH)(Q:Bool→Prop):Prop:=match v with
 | .aE=>Q false
 | .D b=>Q b
 | .j i=>Q (decide (i≠0))
 | .F s=>s.cps.size<2^62∧Q (decide (s.cps.size≠0))
 | .B l=>l.length<2^62∧Q (!l.isEmpty)
 | .y n=>match H[n]? with
  |some (.f l)=>Q (!l.isEmpty)
  |_=>False
 | .jM _=>False
def V.e:Nat→V→Bool
 |_,.j _=>true
 |_,.F _=>true
 |n+1,.B l=>l.all (V.e n)
 |_,_=>false
def V.bG (v:V):Bool:=V.e 4 v
def qo (a b:V)(H:AH)(Q:Bool→Prop):Prop:=match a,b with
 | .j a,.j b=>Q (decide (a=b))
 | .D a,.D b=>Q (decide (a=b))
 | .F a,.F b=>Q (decide (a=b))
 | .B a,.B b=>(V.B a).bG=true∧(V.B b).bG=true∧Q (decide (a=b))
 | .y a,.y b=>match H[a]?,H[b]? with
  |some (.f x),some (.f y)=>(V.B x).bG=true∧(V.B y).bG=true∧Q (decide (x=y))
  |some (.i x),some (.i y)=>x=[] ∧y=[] ∧Q true
  |_,_=>False
 |_,_=>False
def gb (a:V)(l:List V)(Q:Bool→Prop):Prop:=V.e 0 a=true∧l.all (V.e 0)=true∧Q (decide (a∈l))
def V.aS:V→Nat
 | .j _=>1
 | .F _=>2
 | .B l=>if(V.B l).bG then 3 else 0
 |_=>0
def bI (k:V)(es:List (V×V)):Prop:=k.aS≠0∧∀e∈es,e.1.aS=k.aS
def bR (k:V):List (V×V)→Option V
 |[] =>none
 |e::r=>if e.1=k then some e.2 else bR k r
def eA (k v:V):List (V×V)→List (V×V)
 |[] =>[(k,v)]
 |e::r=>if e.1=k then(k,v)::r else e::eA k v r
def di (k:V):List (V×V)→List (V×V)
 |[] =>[]
 |e::r=>if e.1=k then r else e::di k r
def jH (a b:V)(H:AH)(Q:Bool→Prop):Prop:=match b with
 | .B l=>gb a l Q
 | .y n=>match H[n]? with
  |some (.f l)=>gb a l Q
  |some (.i es)=>bI a es∧Q (bR a es).isSome
  |_=>False
 |_=>False
def Mg (a b:V)(Q:Int→Int→Prop):Prop:=match a,b with
 | .j a,.j b=>Q a b
 |_,_=>False
def aI (o:J6)(a b:V)(H:AH)(Q:Bool→Prop):Prop:=match o with
 | .eq=>qo a b H Q
 | .ne=>qo a b H fun r=>Q (!r)
 | .lt=>Mg a b fun x y=>Q (decide (x<y))
 | .le=>Mg a b fun x y=>Q (decide (x≤y))
 | .gt=>Mg a b fun x y=>Q (decide (x>y))
 | .ge=>Mg a b fun x y=>Q (decide (x≥y))
 | .Ke=>b=.aE∧Q (decide (a=.aE))
 | .sL=>b=.aE∧Q (!decide (a=.aE))
 | .jm=>jH a b H Q
 | .ub=>jH a b H fun r=>Q (!r)
def yX (i:Int)(n:Nat):Option Nat:=if i< -(2^62)∨2^62<i then none else if 0≤i then(if i.toNat<n then some i.toNat else none) else(if(-i).toNat≤n then some (n-(-i).toNat) else none)
def aF (a i:V)(H:AH)(Q:V→Prop):Prop:=match a,i with
 | .B l,.j i=>match(yX i l.length).bind (l[·]?) with|some v=>Q v|none=>False
 | .F s,.j i=>match(yX i s.cps.size).bind (s.cps[·]?) with|some c=>Q (.F ⟨#[c]⟩)|none=>False
 | .y n,i=>match H[n]? with
  |some (.f l)=>match i with
   | .j i=>match(yX i l.length).bind (l[·]?) with|some v=>Q v|none=>False
   |_=>False
  |some (.i es)=>bI i es∧(match bR i es with|some v=>Q v|none=>False)
  |_=>False
 |_,_=>False
def qq (n:Nat)(d:Nat):Option Int→Nat
 |none=>d
 |some i=>if 0≤i then min i.toNat n else n-(-i).toNat
def lj:Option V→Option (Option Int)
 |none=>some none
 |some (.j i)=>some (some i)
 |_=>none
def fu {α:Type}(l:List α)(lo hi:Option Int):List α:=(l.take (qq l.length l.length hi)).drop (qq l.length 0 lo)
def d7 (a:V)(lo hi:Option V)(H:AH)(Q:V→AH→Prop):Prop:=match lj lo,lj hi with
 |some lo,some hi=>match a with
  | .B l=>l.length<2^20∧Q (.B (fu l lo hi)) H
  | .jM l=>l.length<2^20∧Q (.y H.length) (H++[.f (fu l lo hi)])
  | .F s=>s.cps.size<2^20∧Q (.F (Txt.slice s lo hi)) H
  | .y n=>match H[n]? with
   |some (.f l)=>l.length<2^20∧Q (.y H.length) (H++[.f (fu l lo hi)])
   |_=>False
  |_=>False
 |_,_=>False
def iw:List V→Option (List Int)
 |[] =>some []
 | .j i::r=>(iw r).map (i:: ·)
 |_::_=>none
def fp:List V→Option (List Bool)
 |[] =>some []
 | .D b::r=>(fp r).map (b:: ·)
 |_::_=>none
def dj (o:xc)(vs:List V)(H:AH)(Q:V→AH→Prop):Prop:=match o,vs with
 | .U,[v] =>(match v with
  | .B l=>l.length<2^62∧Q (.j l.length) H
  | .F s=>s.cps.size<2^62∧Q (.j s.cps.size) H
  | .y n=>match H[n]? with
   |some (.f l)=>Q (.j l.length) H
   |some (.i l)=>Q (.j l.length) H
   |_=>False
  |_=>False)
 | .i0,[.y n] =>(match H[n]? with
  |some (.f l)=>l.length<2^20∧Q (.B l) H
  |_=>False)
 | .dO,[.y n] =>(match H[n]? with
  |some (.i es)=>match iw (es.map (·.1)) with
   |some is=>es.length<64∧Q (.y H.length) (H++[.f ((is.mergeSort (fun a b=>decide (a≤b))).map V.j)])
   |none=>False
  |_=>False)
 | .F,[v] =>(match v with
  | .j i=>i.natAbs<10^9∧Q (.F (Str.ofString (toString i))) H
  | .F s=>Q (.F s) H
  |_=>False)
 | .uh,[.y n] =>(match H[n]? with
  |some (.f l)=>match fp l with|some bs=>Q (.D (bs.any id)) H|none=>False
  |_=>False)
 | .A7,[.y n] =>(match H[n]? with
  |some (.f l)=>match fp l with|some bs=>Q (.D (bs.all id)) H|none=>False
  |_=>False)
 | .gV,[v] =>(match v with
  | .F _=>Q (.D true) H
  | .j _=>Q (.D false) H
  |_=>False)
 |_,_=>False
def nD:List (Int×Int):=[(3,6),(4,5),(5,4),(6,1),(7,2),(10,7)]
def wK (t d:Int):Int:=((nD.find? fun e=>e.1==t).map (·.2)).getD d
def aG (v:V)(H:AH):Option (List V×Option (Nat×List V)):=match v with
 | .B l=>some (l,none)
 | .F s=>some (s.cps.toList.map fun c=>.F ⟨#[c]⟩,none)
 | .y n=>match H[n]? with
  |some (.f l)=>some (l,some (n,l))
  |_=>none
 |_=>none
def dB (src:Option (Nat×List V))(H:AH):Prop:=match src with
 |none=>True
 |some (n,l)=>H[n]?=some (.f l)
def qj (a:Nat):List (Nat×V)→Option V
 |[] =>none
 |e::r=>if e.1=a then some e.2 else qj a r
def aL (a:Nat)(v:V):List (Nat×V)→List (Nat×V)
 |[] =>[(a,v)]
 |e::r=>if e.1=a then(a,v)::r else e::aL a v r
def we:List Nat:=[10,26,28,33,34,35,48,49,50,51,52,53]
def dF (a:Nat):Bool:=decide (a<54)&& !we.contains a
def aX (v:V)(a:Nat)(H:AH)(Q:V→Prop):Prop:=match v with
 | .y n=>match H[n]? with
  |some (.J c fs)=>c<8∧dF a=true∧(match qj a fs with|some x=>Q x|none=>False)
  |_=>False
 |_=>False
def ij (o:V)(a:Nat)(v:V)(H:AH)(Q:AH→Prop):Prop:=match o with
 | .y n=>match H[n]? with
  |some (.J c fs)=>c<8∧dF a=true∧fs.length≤60∧Q (H.set n (.J c (aL a v fs)))
  |_=>False
 |_=>False
def cD (o i v:V)(H:AH)(Q:AH→Prop):Prop:=match o with
 | .y n=>match H[n]? with
  |some (.f l)=>match i with
   | .j i=>0≤i∧i<2^30∧i.toNat<l.length∧Q (H.set n (.f (l.set i.toNat v)))
   |_=>False
  |some (.i es)=>bI i es∧es.length<2^20∧Q (H.set n (.i (eA i v es)))
  |_=>False
 |_=>False
def lZ (o i:V)(H:AH)(Q:AH→Prop):Prop:=match o with
 | .y n=>match H[n]? with
  |some (.i es)=>bI i es∧(bR i es).isSome=true∧Q (H.set n (.i (di i es)))
  |_=>False
 |_=>False
def pA (o lo:V)(H:AH)(Q:AH→Prop):Prop:=match o,lo with
 | .y n,.j i=>match H[n]? with
  |some (.f l)=>i=(l.length:Int)∧l.length<2^20∧Q H
  |_=>False
 |_,_=>False
def jE (o v:V)(H:AH)(Q:AH→Prop):Prop:=match o with
 | .y n=>match H[n]? with
  |some (.f l)=>l.length<2^20∧Q (H.set n (.f (l++[v])))
  |_=>False
 |_=>False
def ov (o:V)(vs:List V)(H:AH)(Q:V→AH→Prop):Prop:=match o with
 | .y n=>match H[n]? with
  |some (.f l)=>vs=[] ∧(match l.getLast? with|some v=>Q v (H.set n (.f l.dropLast))|none=>False)
  |some (.i es)=>match vs with
   |[k] =>bI k es∧(match bR k es with|some v=>Q v (H.set n (.i (di k es)))|none=>False)
   |_=>False
  |_=>False
 |_=>False
def rJ (o:V)(vs:List V)(H:AH)(Q:V→Prop):Prop:=match o with
 | .y n=>match H[n]? with
  |some (.i es)=>match vs with
   |[k] =>bI k es∧Q ((bR k es).getD .aE)
   |[k,d] =>bI k es∧Q ((bR k es).getD d)
   |_=>False
  |_=>False
 |_=>False
def dK (o:V)(H:AH):Nat:=match o with
 | .y n=>match H[n]? with
  |some (.f _)=>1
  |some (.i _)=>2
  |_=>0
 |_=>0
def iy (turn:V→En→AH→(Fl→En→AH→Prop)→Prop)(src:Option (Nat×List V))(Q:Fl→En→AH→Prop):List V→En→AH→Prop
 |[],env,H=>dB src H∧Q .a env H
 |v::r,env,H=>dB src H∧turn v env H fun fl env H=>match fl with
  | .bL v=>Q (.bL v) env H
  |_=>iy turn src Q r env H
def gD (turn:V→AH→(Option V→AH→Prop)→Prop)(src:Option (Nat×List V))(acc:Nat)(Q:AH→Prop):List V→AH→Prop
 |[],H=>dB src H∧Q H
 |v::r,H=>dB src H∧turn v H fun o H=>match o with
  |none=>gD turn src acc Q r H
  |some x=>jE (.y acc) x H fun H=>gD turn src acc Q r H
def fR (turn:En→AH→(Bool→En→AH→Prop)→(Fl→En→AH→Prop)→Prop)(Q:Fl→En→AH→Prop):Nat→En→AH→Prop
 |0,_,_=>False
 |n+1,env,H=>turn env H (fun _ env H=>Q .a env H) fun fl env H=>match fl with
  | .bL v=>Q (.bL v) env H
  |_=>fR turn Q n env H
def ft (n:Int):List V:=(List.range n.toNat).map fun(k:Nat)=>V.j (k:Int)
def MX.cE:MX→Bool
 | .m=>true
 |_=>false
structure TX where
 E:En→AH→(V→AH→Prop)→Prop
 T:En→AH→(Bool→AH→Prop)→Prop
 L:En→AH→(List V→AH→Prop)→Prop
 A:En→AH→(V→AH→Prop)→Prop
 O:En→AH→(V→AH→Prop)→Prop
 TA:En→AH→(Bool→AH→Prop)→Prop
 TO:En→AH→(Bool→AH→Prop)→Prop
def Mh (x y:Str):Bool:= !(decide (y.cps.toList<x.cps.toList))
def TX.qL:En→AH→(V→AH→Prop)→Prop:=fun _ _ _=>False
def TX.sF:En→AH→(Bool→AH→Prop)→Prop:=fun _ _ _=>False
def TX.Mo:En→AH→(List V→AH→Prop)→Prop:=fun _ _ _=>False
def TX.dI (E:En→AH→(V→AH→Prop)→Prop):TX:=⟨E,fun env H Q=>E env H fun v H=>cY v H fun b=>Q b H,TX.Mo,TX.qL,TX.qL,TX.sF,TX.sF⟩
def TX.t4 (E:En→AH→(V→AH→Prop)→Prop)(T:En→AH→(Bool→AH→Prop)→Prop):TX:=⟨E,T,TX.Mo,TX.qL,TX.qL,TX.sF,TX.sF⟩
section
variable (C:z4)
def wX:MX→TX
 | .k v=>.dI fun _ H Q=>Q v H
 | .h i=>.dI fun env H Q=>match env[i]? with|some (some v)=>Q v H|_=>False
 | .B l=>.dI fun env H Q=>(wX l).L env H fun vs H=>Q (.B vs) H
 | .dm l=>.dI fun env H Q=>(wX l).L env H fun vs H=>Q (.y H.length) (H++[.f vs])
 | .gJ=>.dI fun _ H Q=>Q (.y H.length) (H++[.i []])
 | .hY o a b=>.dI fun env H Q=>(wX a).E env H fun x H=>(wX b).E env H fun y H=>cw o x y H Q
 | .gH a=>.t4 (fun env H Q=>(wX a).E env H fun v H=>cY v H fun b=>Q (.D (!b)) H) (fun env H Q=>(wX a).T env H fun b H=>Q (!b) H)
 | .Ka a=>.dI fun env H Q=>(wX a).E env H fun x H=>match x with| .j i=>Q (.j (-i)) H|_=>False
 | .bH o a b=>.t4 (fun env H Q=>(wX a).E env H fun x H=>(wX b).E env H fun y H=>aI o x y H fun r=>Q (.D r) H)
  (fun env H Q=>(wX a).E env H fun x H=>(wX b).E env H fun y H=>aI o x y H fun r=>Q r H)
 | .oD a b c=>.t4 (fun env H Q=>match a,c with
  | .k (.F x),.k (.F z)=>(wX b).E env H fun y H=>match y with
   | .F y=>Q (.D (Mh x y&&Mh y z)) H
   |_=>False
  |_,_=>False) TX.sF
 | .dy l=>.t4 (wX l).A (wX l).TA
 | .pK l=>.t4 (wX l).O (wX l).TO
 | .bA t a b=>.t4 (fun env H Q=>(wX t).T env H fun r H=>if r=true then(wX a).E env H Q else(wX b).E env H Q)
  (fun env H Q=>(wX t).T env H fun r H=>if r=true then(wX a).T env H Q else(wX b).T env H Q)
 | .bB e a=>.dI fun env H Q=>(wX e).E env H fun x H=>aX x a H fun v=>Q v H
 | .z e i=>.dI fun env H Q=>(wX e).E env H fun x H=>(wX i).E env H fun y H=>aF x y H fun v=>Q v H
 | .oi e lo hi=>.dI fun env H Q=>(wX e).E env H fun x H=>
  if lo.cE=true then(if hi.cE=true then d7 x none none H Q else(wX hi).E env H fun h H=>d7 x none (some h) H Q)
  else(wX lo).E env H fun l H=>if hi.cE=true then d7 x (some l) none H Q else(wX hi).E env H fun h H=>d7 x (some l) (some h) H Q
 | .w f l=>.dI fun env H Q=>(wX l).L env H fun vs H=>C.w f vs H Q
 | .oj c l=>.dI fun env H Q=>(wX l).L env H fun vs H=>match C.Kg c with
  |some f=>C.w f (.y H.length::vs) (H++[.J c []]) fun r H'=>r=.aE∧Q (.y H.length) H'
  |none=>vs=[] ∧Q (.y H.length) (H++[.J c []])
 | .bJ e a l=>.dI fun env H Q=>(wX e).E env H fun x H=>match x with
  | .y n=>match H[n]? with
   |some (.J c fs)=>match C.bJ c a with
    |some f=>a<54∧qj a fs=none∧(wX l).L env H fun vs H=>C.w f (.y n::vs) H Q
    |none=>False
   |_=>False
  |_=>False
 | .oo e x=>.dI fun env H Q=>(wX e).E env H fun o H=>dK o H=1∧(wX x).E env H fun v H=>jE o v H fun H=>Q .aE H
 | .bq _ _=>⟨TX.qL,TX.sF,TX.Mo,TX.qL,TX.qL,TX.sF,TX.sF⟩
 | .xa e l=>.dI fun env H Q=>(wX e).E env H fun o H1=>(dK o H1=1∨dK o H1=2)∧(wX l).L env H1 fun vs H=>dK o H=dK o H1∧ov o vs H Q
 | .jG e l=>.dI fun env H Q=>(wX e).E env H fun o H=>dK o H=2∧(wX l).L env H fun vs H=>rJ o vs H fun v=>Q v H
 | .Kl a b=>.dI fun env H Q=>(wX a).E env H fun x H=>(wX b).E env H fun y H=>match x,y with
  | .j t,.j d=>Q (.j (wK t d)) H
  |_,_=>False
 | .pO o l=>.dI fun env H Q=>(wX l).L env H fun vs H=>dj o vs H Q
 | .g7 e x it c=>.dI fun env H Q=>(wX it).E env H fun v H=>match aG v H with
  |some (l,src)=>gD (fun v H q=>(wX c).T (env.set x (some v)) H fun r H=>if r=true then(wX e).E (env.set x (some v)) H fun y H=>q (some y) H else q none H) src H.length (Q (.y H.length)) l (H++[.f []])
  |none=>False
 | .hX e x it c=>.dI fun env H Q=>(wX it).E env H fun v H=>match v with
  | .j n=> -(2^60)≤n∧n<2^60∧gD (fun v H q=>(wX c).T (env.set x (some v)) H fun r H=>if r=true then(wX e).E (env.set x (some v)) H fun y H=>q (some y) H else q none H) none H.length (Q (.y H.length)) (ft n) (H++[.f []])
  |_=>False
 | .m=>⟨TX.qL,TX.sF,fun _ H Q=>Q [] H,TX.qL,TX.qL,fun _ H Q=>Q true H,fun _ H Q=>Q false H⟩
 | .cons a b=>⟨TX.qL,TX.sF,fun env H Q=>(wX a).E env H fun v H=>(wX b).L env H fun l H=>Q (v::l) H,fun env H Q=>(wX a).E env H fun v H=>if b.cE=true then Q v H else cY v H fun r=>if r=true then(wX b).A env H Q else Q v H,fun env H Q=>(wX a).E env H fun v H=>if b.cE=true then Q v H else cY v H fun r=>if r=true then Q v H else(wX b).O env H Q,fun env H Q=>(wX a).T env H fun r H=>if r=true then(wX b).TA env H Q else Q false H,fun env H Q=>(wX a).T env H fun r H=>if r=true then Q true H else(wX b).TO env H Q⟩
 | .ia=>⟨TX.qL,TX.sF,TX.Mo,TX.qL,TX.qL,TX.sF,TX.sF⟩
abbrev wE (e:MX):=(wX C e).E
abbrev wT (e:MX):=(wX C e).T
def MX.mJ:MX→Bool
 | .g7 .. =>true
 | .hX .. =>true
 |_=>false
def fo:List Nat→List V→En→Option En
 |[],[],env=>some env
 |x::xs,v::vs,env=>fo xs vs (env.set x (some v))
 |_,_,_=>none
def wS:MS→En→AH→(Fl→En→AH→Prop)→Prop
 | .V,env,H,Q=>Q .a env H
 | .H x e k,env,H,Q=>wE C e env H fun v H=>wS k (env.set x (some v)) H Q
 | .g8 xs e k,env,H,Q=>wE C e env H fun v H=>match v with
  | .B l=>match fo xs l env with|some env=>wS k env H Q|none=>False
  |_=>False
 | .iV o a e k,env,H,Q=>wE C e env H fun v H=>wE C o env H fun x H=>ij x a v H fun H=>wS k env H Q
 | .g9 o i e k,env,H,Q=>wE C e env H fun v H=>wE C o env H fun x H=>wE C i env H fun y H=>cD x y v H fun H=>wS k env H Q
 | .qT o a op e k,env,H,Q=>wE C o env H fun x H=>aX x a H fun y=>wE C e env H fun v H=>match y,v with
  | .j i,.j j=>match zK op i j with|some c=>ij x a (.j c) H fun H=>wS k env H Q|none=>False
  |_,_=>False
 | .jn e k,env,H,Q=>e.mJ=false∧wE C e env H fun _ H=>wS k env H Q
 | .bA t a b k,env,H,Q=>wT C t env H fun r H=>if r=true then wS a env H (fun fl env H=>match fl with| .a=>wS k env H Q|fl=>Q fl env H) else wS b env H (fun fl env H=>match fl with| .a=>wS k env H Q|fl=>Q fl env H)
 | .fq x e b k,env,H,Q=>wE C e env H fun v H=>match aG v H with
  |some (l,src)=>iy (fun v env H q=>wS b (env.set x (some v)) H q) src (fun fl env H=>match fl with| .a=>wS k env H Q|fl=>Q fl env H) l env H
  |none=>False
 | .jN x e b k,env,H,Q=>wE C e env H fun v H=>match v with
  | .j n=> -(2^60)≤n∧n<2^60∧iy (fun v env H q=>wS b (env.set x (some v)) H q) none (fun fl env H=>match fl with| .a=>wS k env H Q|fl=>Q fl env H) (ft n) env H
  |_=>False
 | .fN t b k,env,H,Q=>∃n,fR (fun env H out q=>wT C t env H fun r H=>if r=true then wS b env H q else out false env H) (fun fl env H=>match fl with| .a=>wS k env H Q|fl=>Q fl env H) n env H
 | .bL e,env,H,Q=>wE C e env H fun v H=>Q (.bL v) env H
 | .gZ,env,H,Q=>Q .gZ env H
 | .xi k,env,H,Q=>wS k env H Q
 | .vz o lo k,env,H,Q=>wE C o env H fun x H=>wE C lo env H fun y H=>pA x y H fun H=>wS k env H Q
 | .qO o i k,env,H,Q=>wE C o env H fun x H=>wE C i env H fun y H=>lZ x y H fun H=>wS k env H Q
 | .ia,_,_,_=>False
end
end
section
open PySem PySem.W PySem.Calls PyProof.Rows
abbrev aJ:=List (Addr×Addr)
mutual
inductive VR (N:Heap) (h:Heap) (R:aJ):V→Value→Prop
 |aE:VR N h R .aE .none
 |D (b:Bool):VR N h R (.D b) (.bool b)
 |j (i:Int) (t:Tok):VR N h R (.j i) (.int i t)
 |F (x:Str) (t:Tok):VR N h R (.F x) (.str x t)
 |y {n:Nat} {p:Addr×Addr} :R[n]?=some p→VR N h R (.y n) (.ref p.1)
 |B {l:List V} {a:Addr} {items:Array Value} :IsTup h a items→b8 N h R l items.toList→VR N h R (.B l) (.ref a)
 |jM {l:List V} {a:Addr} {items:Array Value} :N.IsList a items→h.IsList a items→b8 N h R l items.toList→VR N h R (.jM l) (.ref a)
inductive b8 (N:Heap) (h:Heap) (R:aJ):List V→List Value→Prop
 |m:b8 N h R [] []
 |cons {v:V} {c:Value} {l:List V} {cs:List Value} :VR N h R v c→b8 N h R l cs→b8 N h R (v::l) (c::cs)
end
mutual
theorem VR.P {N:Heap}{h h':Heap}{R R':aJ}(k:∀a items,IsTup h a items→IsTup h' a items)(kf:∀a items,N.IsList a items→h.IsList a items→h'.IsList a items)(kr:∀(n:Nat) (p:Addr×Addr),R[n]?=some p→R'[n]?=some p):∀ {v:V} {c:Value},VR N h R v c→VR N h' R' v c
 |_,_,.aE=>.aE
 |_,_,.D b=>.D b
 |_,_,.j i t=>.j i t
 |_,_,.F x t=>.F x t
 |_,_,.y e=>.y (kr _ _ e)
 |_,_,.B a b=>.B (k _ _ a) (b.P k kf kr)
 |_,_,.jM x a b=>.jM x (kf _ _ x a) (b.P k kf kr)
theorem b8.P {N:Heap}{h h':Heap}{R R':aJ}(k:∀a items,IsTup h a items→IsTup h' a items)(kf:∀a items,N.IsList a items→h.IsList a items→h'.IsList a items)(kr:∀(n:Nat) (p:Addr×Addr),R[n]?=some p→R'[n]?=some p):∀ {v:List V} {c:List Value},b8 N h R v c→b8 N h' R' v c
 |_,_,.m=>.m
 |_,_,.cons a b=>.cons (a.P k kf kr) (b.P k kf kr)
end
theorem b8.length {N:Heap}{h:Heap}{R:aJ} :∀ {l:List V} {cs:List Value},b8 N h R l cs→l.length=cs.length
 |_,_,.m=>rfl
 |_,_,.cons _ b=>by simp [b.length]
theorem b8.dp {N:Heap}{h:Heap}{R:aJ} :∀ {l:List V} {cs:List Value},b8 N h R l cs→∀ {l':List V} {cs':List Value},b8 N h R l' cs'→b8 N h R (l++l') (cs++cs')
 |_,_,.m,_,_,b=>b
 |_,_,.cons a r,_,_,b=>.cons a (r.dp b)
theorem b8.jG {N:Heap}{h:Heap}{R:aJ} :∀ {l:List V} {cs:List Value},b8 N h R l cs→∀ {i:Nat} {v:V},l[i]?=some v→∃c,cs[i]?=some c∧VR N h R v c
 |_,_,.m,i,v,e=>by trivial
 |_,_,.cons a r,0,v,e=>by grind
 |_,_,.cons a r,i+1,v,e=>by simpa using r.jG e
theorem b8.take {N:Heap}{h:Heap}{R:aJ} :∀ {l:List V} {cs:List Value},b8 N h R l cs→∀n,b8 N h R (l.take n) (cs.take n)
 |_,_,.m,n=>by simp;exact .m
 |_,_,.cons a r,0=>by constructor
 |_,_,.cons a r,n+1=>.cons a (r.take n)
theorem b8.drop {N:Heap}{h:Heap}{R:aJ} :∀ {l:List V} {cs:List Value},b8 N h R l cs→∀n,b8 N h R (l.drop n) (cs.drop n)
 |_,_,.m,n=>by simp;exact .m
 |_,_,.cons a r,0=>.cons a r
 |_,_,.cons a r,n+1=>r.drop n
theorem b8.set {N:Heap}{h:Heap}{R:aJ} :∀ {l:List V} {cs:List Value},b8 N h R l cs→∀ {v:V} {c:Value} (_:VR N h R v c) (n:Nat),b8 N h R (l.set n v) (cs.set n c)
 |_,_,.m,_,_,_,n=>by constructor
 |_,_,.cons a r,_,_,b,0=>.cons b r
 |_,_,.cons a r,_,_,b,n+1=>.cons a (r.set b n)
mutual
theorem VR.inj {N:Heap}{h:Heap}{R:aJ}(n:Nat):∀ {v v':V} {c:Value},V.e n v=true→V.e n v'=true→VR N h R v c→VR N h R v' c→v=v':=fun{v v' c} fv fv' a b=>by
 cases a with
 |aE=>cases n<;>simp [V.e] at fv
 |D=>cases n<;>simp [V.e] at fv
 |j=>cases b;rfl
 |F=>cases b;rfl
 |y=>cases n<;>simp [V.e] at fv
 |jM=>cases n<;>simp [V.e] at fv
 |B t r=>
  cases b with
  |y=>cases n<;>simp [V.e] at fv'
  |jM=>cases n<;>simp [V.e] at fv'
  |B t' r'=>
   obtain⟨o,e,_,n1,d⟩:=t;obtain⟨o',e',_,n2,d'⟩:=t';obtain rfl:o=o':=Option.some.inj (e.symm.trans e');rw [d] at d';cases d';cases n with
   |zero=>simp [V.e] at fv
   |succ n=>rw [b8.inj n (by simpa [V.e] using fv) (by simpa [V.e] using fv') r r']
theorem b8.inj {N:Heap}{h:Heap}{R:aJ}(n:Nat):∀ {l l':List V} {c:List Value},(∀v∈l,V.e n v=true)→(∀v∈l',V.e n v=true)→b8 N h R l c→b8 N h R l' c→l=l'
 |_,_,_,_,_,.m,.m=>rfl
 |_,_,_,f,f',.cons a r,.cons a' r'=>by rw [VR.inj n (f _ (by simp)) (f' _ (by simp)) a a',b8.inj n (fun v hv=>f _ (by simp [hv])) (fun v hv=>f' _ (by simp [hv])) r r']
end
theorem lh {N:Heap}{R:aJ}{s:Shared} :∀(n:Nat) {A:Around} {x y:V} {a b:Value},V.e n x=true→V.e n y=true→VR N s.heap R x a→VR N s.heap R y b→A.units+n<cLine→PySem.SeqAt.EqAt A s a b (decide (x=y)):=by
 intro n;induction n with
 |zero=>
  intro A x y a b fx fy hx hy hu;cases hx<;>simp [V.e] at fx<;>cases hy<;>simp [V.e] at fy
  ·rename_i i t j u;have:=PySem.SeqAt.EqAt.int_int (A:=A) (s:=s) i t j u;have e:(i==j)=decide (V.j i=V.j j):=by rw [Bool.eq_iff_iff];simp
   rwa [e] at this
  ·rename_i i t j u;have:=PySem.SeqAt.EqAt.int_str (A:=A) (s:=s) i t j u;have e:decide (V.j i=V.F j)=false:=by simp
   rwa [e]
  ·rename_i i t j u;have:=PySem.SeqAt.EqAt.str_int (A:=A) (s:=s) i t j u;have e:decide (V.F i=V.j j)=false:=by simp
   rwa [e]
  ·rename_i i t j u;have:=PySem.SeqAt.EqAt.str_str (A:=A) (s:=s) i t j u;have e:(i==j)=decide (V.F i=V.F j):=by rw [Bool.eq_iff_iff];simp
   rwa [e] at this
 |succ n ih=>
  intro A x y a b fx fy hx hy hu;cases hx<;>simp only [V.e,Bool.false_eq_true] at fx<;>cases hy<;>simp only [V.e,Bool.false_eq_true] at fy
  ·rename_i i t j u;have:=PySem.SeqAt.EqAt.int_int (A:=A) (s:=s) i t j u;have e:(i==j)=decide (V.j i=V.j j):=by rw [Bool.eq_iff_iff];simp
   rwa [e] at this
  ·rename_i i t j u;have:=PySem.SeqAt.EqAt.int_str (A:=A) (s:=s) i t j u;grind
  ·rename_i i t l b items ht hl;have:=PySem.SeqAt.EqAt.int_tuple (A:=A) i t ht (by omega);grind
  ·rename_i i t j u;have:=PySem.SeqAt.EqAt.str_int (A:=A) (s:=s) i t j u;grind
  ·rename_i i t j u;have:=PySem.SeqAt.EqAt.str_str (A:=A) (s:=s) i t j u;have e:(i==j)=decide (V.F i=V.F j):=by grind
   rwa [e] at this
  ·rename_i i t l b items ht hl;have:=PySem.SeqAt.EqAt.str_tuple (A:=A) i t ht (by omega);grind
  ·rename_i l a items ht hl i t;have:=PySem.SeqAt.EqAt.tuple_int (A:=A) i t ht (by omega);grind
  ·rename_i l a items ht hl i t;have:=PySem.SeqAt.EqAt.tuple_str (A:=A) i t ht (by omega);grind
  ·rename_i l a items ht hl l' b items' ht' hl';by_cases hab:a=b
   ·subst hab;have:=VR.inj (n+1) (by trivial) (by trivial) (.B ht hl) (.B ht' hl');rw [decide_eq_true this];exact PySem.SeqAt.EqAt.same _
   ·apply PySem.SeqAt.EqAt.of_refs hab;have z:=PySem.SeqAt.RcAt.tuples (A:=A) (e:=fun j=>decide (l[j]?=l'[j]?)) ht ht' (by omega) (fun j h1 h2=>?_)
    ·have e:((List.range (min items.size items'.size)).all (fun j=>decide (l[j]?=l'[j]?))&&items.size==items'.size)=decide (V.B l=V.B l'):=by
      have e1:=hl.length;have e2:=hl'.length;rw [Bool.eq_iff_iff];simp;constructor
      ·rintro⟨h1,h2⟩;refine List.ext_getElem? fun j=>?_;grind
      ·rintro rfl;simp at e1 e2;exact⟨fun _ _=>rfl,by omega⟩
     rwa [e] at z
    ·have e1:=hl.length;have e2:=hl'.length;simp at e1 e2;obtain⟨c,hc,vc⟩:=hl.jG (i:=j) (v:=l[j]'(by omega)) (by simp);obtain⟨c',hc',vc'⟩:=hl'.jG (i:=j) (v:=l'[j]'(by omega)) (by simp);have:=ih (A:=A.in1) (List.all_eq_true.mp fx _ (by simp)) (List.all_eq_true.mp fy _ (by simp)) vc vc' (by show A.units+1+n<cLine;omega);simp_all
mutual
theorem VR.bG {N N':Heap}{h:Heap}{R R':aJ}(n:Nat):∀ {v:V} {c:Value},V.e n v=true→VR N h R v c→VR N' h R' v c:=fun{v c} f a=>by
 cases a with
 |aE=>cases n<;>simp [V.e] at f
 |D=>cases n<;>simp [V.e] at f
 |j=>exact .j _ _
 |F=>exact .F _ _
 |y=>cases n<;>simp [V.e] at f
 |jM=>cases n<;>simp [V.e] at f
 |B t r=>
  cases n with
  |zero=>simp [V.e] at f
  |succ n=>exact .B t (b8.bG n (by simpa [V.e] using f) r)
theorem b8.bG {N N':Heap}{h:Heap}{R R':aJ}(n:Nat):∀ {l:List V} {c:List Value},(∀v∈l,V.e n v=true)→b8 N h R l c→b8 N' h R' l c
 |_,_,_,.m=>.m
 |_,_,f,.cons a r=>.cons (VR.bG n (f _ (by simp)) a) (b8.bG n (fun v hv=>f _ (by simp [hv])) r)
end
def xb (w:World):Nat→V→Int
 |_,.j i=>hashInt i
 |_,.F x=>hashStr w x
 |n+1,.B l=>reduceHash (Builtin.Tuple.tupleHashOf (l.map (xb w n)))
 |_,_=>0
def wN:Nat→V→Nat
 |n+1,.B l=>(l.map (wN n)).sum+1
 |_,_=>1
section
variable {prog:Program}{w:World}{E:Value→Shared→Prop}{N:Heap}{R:aJ}
theorem fB:∀(n:Nat) {A:Around} {s:Shared} {v:V} {c:Value} {Q:Int→Shared→Prop},V.e n v=true→VR N s.heap R v c→A.units+n<cLine→Q (xb w n v) {s with toks:=s.toks+wN n v} →wpAny (model prog w) A (pyHash c) Q E s:=by
 intro n;induction n with
 |zero=>
  intro A s v c Q f h hu hq;cases h<;>simp [V.e] at f
  ·exact wpAny_pyHash_int hq
  ·exact wpAny_pyHash_str hq
 |succ n ih=>
  intro A s v c Q f h hu hq;cases h<;>simp only [V.e,Bool.false_eq_true] at f
  ·exact wpAny_pyHash_int hq
  ·exact wpAny_pyHash_str hq
  ·rename_i l a items ht hl;have hT:s.TypeIs (.ref a) _:=let⟨o,ho,hc,_⟩:=ht;⟨o,ho,hc⟩;obtain⟨o,ho,_,nn,hd⟩:=id ht;refine wpAny_bind (wpAny_cRoomFor_or (.inr (by omega)) (wpAny_bind (wpAny_specialOf hT F.slot_tuple_hash.lookup (wpAny_bind (wpAny_specialOf hT F.slot_tuple_hash.lookup (wpAny_bind (wpAny_callSpecialIfBoundUnlessNone?_slot hT F.slot_tuple_hash (wpAny_call_entry F.slot_tuple_hash hT F.entry_tuple_hash ?_ (F.args_tuple_hash_1 _)))))))));show wpAny _ _ (Builtin.Tuple.tupleItemsOf _>>=_) _ _ s;refine wpAny_bind (wpAny_tupleItemsOf ho hd ?_);apply wpAny_bind;rw [←Array.forIn_toList];refine wpAny_forIn_list _
    (fun rest (b) s'=>∃done left,l=done++left∧b8 N s.heap R left rest∧b.toList=done.map (xb w n)∧s'= {s with toks:=s.toks+(done.map (wN n)).sum})
    _ ?_ ?_ _ _ ⟨[],l,rfl,hl,rfl,rfl⟩
   ·rintro x rest b s' ⟨done,left,rfl,hl,hb,rfl⟩;cases hl with
    | @cons k _ ks' _ h1 hl'=>exact wpAny_bind (ih (List.all_eq_true.mp f _ (by simp)) h1 (by grind) (wpAny_pure ⟨done++[k],ks',by simp,hl',by simp [hb],by simp [Nat.add_assoc]⟩))
   ·rintro b s' ⟨done,left,rfl,hl,hb,rfl⟩;cases hl;rw [List.append_nil] at hq;show wpAny _ _ (retInt _) _ _ _;rw [hb];apply wpAny_ret_mkInt;show wpAny _ _ (if(decide _&&decide _)=true then _ else _) Q E _;unfold xb reduceHash at hq;by_cases hr:(decide (-(2)^63≤Builtin.Tuple.tupleHashOf (done.map (xb w n)))&&decide (Builtin.Tuple.tupleHashOf (done.map (xb w n))<2^63))=true
    ·rw [if_pos hr];rw [if_pos hr] at hq;exact wpAny_pure (by trivial)
    ·rw [if_neg hr];rw [if_neg hr] at hq;exact wpAny_bind (wpAny_rule (wpAny_pure (by trivial)))
theorem sV:∀(n k:Nat) {A:Around} {s:Shared} {v:V} {c:Value} {Q:Bool→Shared→Prop},V.e n v=true→n≤k→VR N s.heap R v c→Q true s→wpAny (model prog w) A (eqIsQuiet k c) Q E s:=by
 intro n;induction n with
 |zero=>
  intro k A s v c Q f hk h hq;cases h<;>simp [V.e] at f
  ·rw [eqIsQuiet_byValue _ rfl];exact wpAny_pure hq
  ·rw [eqIsQuiet_byValue _ rfl];exact wpAny_pure hq
 |succ n ih=>
  intro k A s v c Q f hk h hq;cases h<;>simp [V.e] at f
  ·rw [eqIsQuiet_byValue _ rfl];exact wpAny_pure hq
  ·rw [eqIsQuiet_byValue _ rfl];exact wpAny_pure hq
  ·rename_i l a items ht hl;obtain⟨k,rfl⟩:∃j,k=j+1:=⟨k-1,by omega⟩;have hT:s.TypeIs (.ref a) _:=let⟨o,ho,hc,_⟩:=ht;⟨o,ho,hc⟩;obtain⟨o,ho,_,nn,hd⟩:=id ht;unfold eqIsQuiet;refine wpAny_bind (wpAny_specialOf hT F.slot_tuple_eq.lookup (wpAny_bind (wpAny_isInstance hT isSubtype_tuple_tuple (wpAny_bind (wpAny_seqItems ho hd ?_)))));apply wpAny_bind;rw [←Array.forIn_toList];refine wpAny_forIn_list _ (fun rest r s'=>r.1=none∧s'=s∧∃left,b8 N s.heap R left rest∧∀v∈left,V.e n v=true) _ ?_ (by rintro⟨r1,r2⟩ s' ⟨hr,rfl,_⟩;subst hr;exact wpAny_pure hq) _ _ (by grind)
   ·rintro v rest r s' ⟨hr,rfl,left,hl,hall⟩;cases hl with
    |cons h1 hl'=>exact wpAny_bind (ih k (by simp_all) (by omega) h1 (wpAny_pure (by grind)))
end
theorem uD {a:Addr}{items:Array Value} :¬({} :Heap).IsList a items:=fun⟨_,e,_⟩=>by cases e
def j4 (prog:Program)(w:World):HeapKind prog w V where
 is:=fun h k a=>V.e 4 k=true∧VR {} h [] k (.ref a)
 hash:=xb w 4
 draws:=wN 4
 room:=fun A=>A.units+4<cLine
 inj:=fun⟨f,x⟩ ⟨g,y⟩=>VR.inj 4 f g x y
 keeps:=fun{h h' k a d o es ep} ⟨f,x⟩ ho hd hs=>⟨f,x.P (fun b items t=>by
  obtain⟨o',ho',hc',n',hd'⟩:=t;have hne:b≠d:=by rintro rfl;obtain rfl:o'=o:=Option.some.inj (ho'.symm.trans ho);rw [hd] at hd';exact nomatch hd'
  exact⟨o',(hs.2 b hne).trans ho',hc',n',hd'⟩) (fun _ _ z=>absurd z uD) (fun n p e=>e)⟩
 pyHash:=fun hu ⟨f,x⟩ h=>fB 4 f x hu h
 eqBool:=fun hu ⟨f,x⟩ ⟨g,y⟩ h=>lh 4 f g x y hu _ _ _ _ h
 quiet:=fun⟨f,x⟩ h=>sV 4 8 f (by omega) x h
end
section
open PySem
set_option maxRecDepth 1000000
set_option maxHeartbeats 0
structure MF where
 np:Nat
 names:List (Str×Nat)
 size:Nat
 dQ:List V
 mL:MS
noncomputable def pE:List Str:=["rows","index","decls","bounds","defaults","names","origins","renamed","shaping","putting","put","did","kind","name","params","body","bases","static","extends_class","abstract","members","variances","busy","at","file","nid","force","tab","bound","deep","most_rounds","most_deep","lib","list_prop","shape","list_index","host","mode","rules","assumed","known","trail","road","looks","notes","telling","twin","missing","holds","note","mark","ask","back","put_deferred"].map m
noncomputable def dW:List (Nat×Nat):=[(0,0),(1,2),(2,4),(3,33),(5,51),(6,33)]
noncomputable def jT:List (Nat×Nat×Nat):=[(0,10,1),(1,10,3),(3,26,34),(3,35,37),(3,33,36),(3,53,35),(5,51,52),(5,52,55),(5,50,54),(5,49,53),(6,28,83),(6,26,34),(6,35,37),(6,33,36),(6,53,35),(6,34,84),(7,48,85)]
noncomputable def y4:List (Str×V):=[(m "U_ANY",.j 1),(m "U_PROP",.j 3),(m "U_INDEX",.j 5),(m "U_ENUM",.j 10),(m "U_OPTION",.j 11),(m "U_VAR",.j 15),(m "Y_KEY",.j 1),(m "Y_BOOL",.j 2),(m "Y_STR",.j 3),(m "Y_NUM",.j 4),(m "Y_ENUM",.j 5),(m "Y_UNION",.j 6),(m "Y_INTER",.j 7),(m "Y_OBJ",.j 8),(m "Y_REF",.j 9),(m "Y_PARAM",.j 10),(m "Y_ARRAY",.j 11),(m "Y_TUPLE",.j 12),(m "Y_SIG",.j 13),(m "Y_KEYOF",.j 14),(m "Y_INDEX",.j 15),(m "Y_COND",.j 16),(m "Y_MAPPED",.j 17),(m "Y_TPL",.j 18),(m "Y_ALIAS",.j 19),(m "ANY",.j 0),(m "UNKNOWN",.j 1),(m "NEVER",.j 2),(m "VOID",.j 3),(m "UNDEF",.j 4),(m "NULLT",.j 5),(m "STRING",.j 6),(m "NUMBER",.j 7),(m "FALSE_T",.j 8),(m "TRUE_T",.j 9),(m "OBJECTT",.j 10),(m "EMPTY",.j 11),(m "ERR",.j 13),(m "FRESH_F",.j 14),(m "FRESH_T",.j 15),(m "P_OPT",.j 1),(m "P_PRIVATE",.j 8),(m "P_PROTECTED",.j 16),(m "E_OPT",.j 1),(m "E_REST",.j 2),(m "E_SPREAD",.j 3),(m "D_OBJALIAS",.j 3),(m "FAM_OTHER",.j 0),(m "FAM_STR",.j 1),(m "FAM_NUM",.j 2),(m "FAM_BOOL",.j 3),(m "FAM_NULL",.j 4),(m "FAM_UNDEF",.j 5),(m "FAM_VOID",.j 6),(m "FAM_OBJ",.j 7),(m "MAX_UNION",.j 400),(m "FIRST_ROWS",.B [.B [.j 1,.F (m "any")],.B [.j 1,.F (m "unknown")],.B [.j 1,.F (m "never")],.B [.j 1,.F (m "void")],.B [.j 1,.F (m "undefined")],.B [.j 1,.F (m "null")],.B [.j 1,.F (m "string")],.B [.j 1,.F (m "number")],.B [.j 2,.j 0,.j 0],.B [.j 2,.j 1,.j 0],.B [.j 1,.F (m "object")],.B [.j 8,.B [],.B [],.B [],.B [],.B [],.j 0],.B [.j 6,.B [.j 8,.j 9]],.B [.j 1,.F (m "error")],.B [.j 2,.j 0,.j 1],.B [.j 2,.j 1,.j 1]]),(m "LITERAL_ROWS",.B [.j 2,.j 3,.j 4,.j 5]),(m "MARKED_ROWS",.B [.j 2,.j 3,.j 4,.j 5,.j 8]),(m "OBJECT_ROWS",.B [.j 8,.j 9,.j 11,.j 12,.j 13]),(m "MAX_DRAWN",.j 200),(m "MEET_NEVER",.j 0),(m "MEET_LEFT",.j 1),(m "MEET_RIGHT",.j 2),(m "MEET_BOTH",.j 3),(m "MOST_PLAIN",.j 40),(m "PLAIN_ROWS",.B [.j 1,.j 2,.j 3,.j 4,.j 5]),(m "LIST_ROWS_shapes",.B [.j 11,.j 12]),(m "MOST_ROUNDS",.j 200),(m "MOST_SHAPES",.j 40),(m "R_ASSIGN",.j 1),(m "R_COMPARE",.j 2),(m "R_IDENT",.j 3),(m "R_SUBTYPE",.j 4),(m "RULE_MEET",.j 1),(m "RULE_DEFERRED",.j 2),(m "RULE_SIG",.j 3),(m "RULE_LIST",.j 4),(m "RULE_OBJECT",.j 5),(m "RULE_CHOICE",.j 6),(m "RULE_PLACES",.j 12),(m "VALUE_ROWS",.B [.j 1,.j 2,.j 3,.j 4,.j 5]),(m "LIST_ROWS_relbase",.B [.j 11,.j 12]),(m "SHAPED_ROWS",.B [.j 8,.j 9]),(m "DEFERRED_ROWS",.B [.j 10,.j 14,.j 15,.j 16,.j 17,.j 18,.j 19]),(m "OPEN_ROWS",.B [.j 6,.j 7,.j 10,.j 14,.j 15,.j 16,.j 17,.j 18,.j 19]),(m "MAX_OPEN",.j 60),(m "MOST_LOOKS",.j 20000),(m "HIDDEN",.j 24)]
noncomputable def j3:List (Str×Nat):=[(m "str_type",5),(m "new_param",6),(m "new_decl",7),(m "parts_of",8),(m "whole_of_row",9),(m "regular_twin",10),(m "join_bools",11),(m "stays_beside",12),(m "top_of",13),(m "union",14),(m "add_undef",15),(m "is_literal",16),(m "is_unit",17),(m "is_fresh",18),(m "regular_one",19),(m "family",20),(m "is_nullish_family",21),(m "meet_nullish",22),(m "meet_values",23),(m "meet_case",24),(m "lay_on",25),(m "members_of_meet",26),(m "meet_parts",27),(m "meet_two",28),(m "inter",29),(m "hidden_apart",30),(m "final_parts",31),(m "plain_shape",32),(m "bound_of",38),(m "find_prop",39),(m "is_digits",40),(m "is_number_name",41),(m "prop_row",42),(m "read_type",43),(m "list_read",44),(m "index_read",45),(m "part_type",46),(m "prop_type",47),(m "index_of",48),(m "unit_word",49),(m "key_text",50),(m "by_rule",56),(m "silent_with",57),(m "like",58),(m "cut_back",59),(m "settled",60),(m "ask_kinds",61),(m "relbase_kept",62),(m "close_trail",63),(m "simple_related",64),(m "tops_related",65),(m "unknown_told",66),(m "is_numeric_enum",67),(m "values_related",68),(m "number_to_enum",69),(m "structured",70),(m "rule_for",71),(m "from_union",72),(m "some_part",73),(m "to_union",74),(m "pid_bound",75),(m "bound_kind",76),(m "shown_keys",77),(m "sure_keys",78),(m "to_keyof",79),(m "written_at",80),(m "written_kind",81),(m "to_index",82),(m "param_related",86),(m "install_rel_params",87),(m "_law_take",88),(m "_law_row",89),(m "_law_bits",90),(m "_law_members",91),(m "_law_words",92),(m "_law_few",93),(m "_law_all",94),(m "_law_kind",95),(m "_law_object",96),(m "_law_at",97),(m "_law_goes",98),(m "_law_things",99),(m "_law_bound",100),(m "_law_keys",101),(m "_law_key",102),(m "_law_source",103),(m "_law_written",104),(m "_law_indexed",105),(m "_law_keyed",106),(m "law",107)]
noncomputable def iK:List (Str×Nat):=[(m "Notes",0),(m "TypeTable",1),(m "Decl",2),(m "Thin",3),(m "RelRule",4),(m "Rel",5),(m "BoundHost",6),(m "ParamRule",7)]
def bF(l:List String):List (Str×Nat):=(l.map m).zipIdx
abbrev CT a b c:=(.cons a (.cons b c):MX)
abbrev CU a:=(.k (.j a):MX)
abbrev CV:MX:=.h 0
abbrev CW a:=(.cons a .m:MX)
abbrev CX a b c:=(.bH a (.h b) c:MX)
abbrev CY a b:=(.z (.h a) b:MX)
abbrev CZ a b:=CT a b .m
abbrev D0 a b c:=(.bA a b .V c:MS)
abbrev D1:MX:=.h 1
abbrev D2 a b c:=D0 a (.bL b) c
abbrev D3:=CU 0
abbrev D4:MX:=.h 2
abbrev D5 a b c:=(.w a (CZ b c):MX)
abbrev D6 a:=(.bB CV a:MX)
abbrev D7 a:=(.k (.D a):MX)
abbrev D8:=CU 1
abbrev D9 a:=(.k (.F a):MX)
abbrev Da a b:=(.bH .eq a b:MX)
abbrev Db a b c d:=(.w a (CT b c d):MX)
abbrev Dc a b c d e:=(.H a b (.H c d e):MS)
abbrev Dd a b c d e f g:=(.iV a b c (.iV d e f g):MS)
abbrev De:MX:=.h 3
abbrev Df:MX:=.h 4
abbrev Dg a b:=(.B (CZ a b):MX)
abbrev Dh a b:=CX .eq a b
abbrev Di a b:=(.dy (CZ a b):MX)
abbrev Dj a b c:=(.bJ a b (CW c):MX)
abbrev Dk:MX:=.dm .m
abbrev Dl a b:=Dh a (CU b)
abbrev Dm a b:=(.pK (CZ a b):MX)
abbrev Dn:=CU (-1)
abbrev Do a b c:=(.B (CT a b c):MX)
abbrev Dp:=D7 true
abbrev Dq a b:=(.w a (CW b):MX)
abbrev Dr a b c d e:=(.H a b (D2 c d e):MS)
abbrev Ds a:=(.k (.B a):MX)
abbrev Dt a b:=(.pO a (CW b):MX)
abbrev Du a b:=Da a (CU b)
abbrev Dv:MX:=.h 5
abbrev Dw a:=D9 (m a)
abbrev Dx:MX:=.k .aE
abbrev Dy a b:=(.bB (D6 a) b:MX)
abbrev Dz:=D7 false
abbrev DA:=CU 2
abbrev DB:=CU 3
abbrev DC a b:=(.bH .jm a b:MX)
abbrev DD a:=CY a D3
abbrev DE:MX:=.h 6
abbrev DF a b c d e:=D2 a b (D2 c d e)
abbrev DG a b c d:=Db a b c (CW d)
abbrev DH:MX:=.B .m
abbrev DI a:=(.jn a .V:MS)
abbrev DJ a b c d e:=CT a b (CT c d e)
abbrev DK a:=CY a D8
abbrev DL:=CU 4
abbrev DM a b c:=(.bL (.bA a b c):MS)
abbrev DN a b:=D5 a CV b
abbrev DO a b:=Du (DD a) b
abbrev DP:V:=.j 1
abbrev DQ a:=(.z a D1:MX)
abbrev DS a b:=(.H a b .V:MS)
abbrev DT a b:=CX .jm a b
abbrev DU a:=Dt .U a
abbrev DV:MX:=.h 10
abbrev DW a b c:=CT a b (CW c)
abbrev DX a b c d e:=Db a b c (CZ d e)
abbrev DY a:=(.dm (CW a):MX)
abbrev DZ:=CU 5
abbrev E0 a b:=(.hY .fZ a b:MX)
abbrev E1 a b:=(.hY .vt a b:MX)
abbrev E2:MX:=.h 7
abbrev E3 a b:=Dj CV a b
abbrev E4 a:=(.z a D3:MX)
abbrev E5 a b:=(.bH .ne a b:MX)
abbrev E6 a b c:=Do a b (CW c)
abbrev E7 a:=(.bB a 0:MX)
abbrev E8:MX:=.h 9
abbrev E9 a b c d:=(.bJ a b (CZ c d):MX)
abbrev Ea:V:=.j 2
abbrev Eb a b:=D0 a b .V
abbrev Ec a b c d:=(.fq a b c (.bL d):MS)
abbrev Ed a b:=(.hY .kM a b:MX)
abbrev Ee:=D6 27
abbrev Ef:MX:=.h 12
abbrev Eg:MX:=.h 11
abbrev Eh:=CU 6
abbrev Ei a b c:=(.dy (DW a b c):MX)
abbrev Ej a b c:=D2 a b (.bL c)
abbrev Ek:=D6 37
abbrev El a b c:=DG a CV b c
abbrev Em:V:=.j 19
abbrev Eo:V:=.j 18
abbrev Ep:V:=.j 17
abbrev Er:V:=.j 16
abbrev Es:V:=.j 15
abbrev Et:V:=.j 14
abbrev Eu:V:=.j 10
abbrev Ev a b:=(.jn a (.bL b):MS)
abbrev Ew:=D6 0
abbrev Ex a b c:=(.H a b (.bL c):MS)
abbrev Ey a b c:=(.g9 a b c .V:MS)
abbrev Ez a b:=DT a (Ds b)
abbrev EA a b c d:=Do a b (CZ c d)
abbrev EB a:=(.F (m a):V)
abbrev EC:=CU 10
abbrev ED:=DQ Ew
abbrev EE a b c:=(.g7 a b c Dp:MX)
abbrev EF:V:=.j 5
abbrev EG:V:=.j 4
abbrev EH:V:=.j 3
abbrev EI:MX:=.h 8
abbrev EJ:=CU 7
abbrev EK a b:=CX a b D3
abbrev EL:=Dw ""
abbrev EM a:=(.B (CW a):MX)
abbrev EN a:=(.bB D4 a:MX)
abbrev EO:=DK 2
abbrev EP:=Dw "0"
abbrev EQ a b:=(.B [a,b]:V)
abbrev ES a b:=DC a (Ds b)
abbrev ET a b:=DI (.oo a b)
abbrev EU a:=DN 88 a
abbrev EV a b:=(.bH .gt a b:MX)
abbrev EW a b c d e:=(.H a b (D0 c d e):MS)
abbrev EX:=CU 14
abbrev EY:=DK 1
abbrev EZ:=CU 8
abbrev F0:=DK 3
abbrev F8 a b:=El a D1 b
abbrev F9 a b c d e f:=Dd CV a b c d e f
abbrev Fa a b c d e:=F9 a b CV c d e
abbrev Fb a b c d e f g h i:=Fa a b c d (Fa e f g h i)
abbrev Fc a b:=EQ a (EB b)
abbrev Fd a:=Dl 1 a
abbrev Fe:V:=.j 8
abbrev Ff:V:=.j 12
abbrev Fg:V:=.j 11
abbrev Fh a b c d:=(.bA (Dl a b) c d:MX)
abbrev Fi:=CU 9
abbrev Fj:MX:=.h 13
abbrev Fk:=DD 2
abbrev Fm:=CU 11
abbrev Fn a b:=(.oi a b .m:MX)
abbrev Fo a b:=D2 a b .V
abbrev Fp a b c d e:=DF a b c d (.bL e)
abbrev Fq a b:=(.hY .qS a b:MX)
abbrev Fr a:=(.bB Df a:MX)
abbrev Fs a:=EK .ge a
abbrev Ft a:=DN a D1
abbrev Fu:V:=.B []
abbrev Fv a b c:=Di a (Da b c)
abbrev Fw a b:=(.dm (CZ a b):MX)
abbrev Fx a b:=CX .ne a b
abbrev Fy a b:=(.hY .Me a b:MX)
abbrev Fz a b:=E7 (Dy a b)
abbrev FB a b:=E4 (CY a b)
abbrev FC a:=CY a DA
abbrev FD a b:=D5 a Ee b
abbrev FE a:=EK .lt a
abbrev FF a b c:=(.jn (.oo a b) c:MS)
abbrev FG:V:=.j 0
abbrev FH:=CU 20
abbrev FI:=CU 15
abbrev FJ:=D6 41
abbrev FK:=CU 32767
abbrev FL:=Dw "NaN"
abbrev FM:=Dw "p"
abbrev FN a:=Dh a D3
abbrev FP a:=E3 a D1
abbrev FQ a b c d e f:=Dc a (.z b c) d e f
abbrev FS a b c d:=Dc a b c d .V
abbrev FU a b:=Dg (DY a) b
abbrev FV a:=Fc DP a
abbrev FW:MX:=.h 15
abbrev FX:MX:=.h 16
abbrev FY a:=Dy 27 a
abbrev Gf:=FY 0
abbrev Gg a b:=Di a (.gH b)
abbrev Gh:=CU 16
abbrev Gi:=EN 44
abbrev Gj:=E7 Gi
abbrev Gk:=EU Eh
abbrev Gl:=D6 36
abbrev Gn:=DQ Gf
abbrev Go a b:=(.H 3 a b:MS)
abbrev Gq:=DK 4
abbrev Gs a:=(.w a .m:MX)
abbrev Gu:V:=.j 9
abbrev Gv:V:=.j 6
abbrev Gy a b c d e:=(.dm (DJ a b c d e):MX)
abbrev GA a:=CY a DB
abbrev GB a b:=E6 a b D3
abbrev GC a:=F8 a D4
abbrev GD a b c:=D0 a b (.bL c)
abbrev GE a b c:=(.pK (DW a b c):MX)
abbrev GF a:=DO 2 a
abbrev GG a b:=EV (DU a) b
abbrev GH a b c:=(.iV a b c .V:MS)
abbrev GI a b c d:=CT a b (CZ c d)
abbrev GJ a b:=(.bH .ge a b:MX)
abbrev GK:=Fd 5
abbrev GL:=DD 3
abbrev GM:=Fd 4
abbrev GN a b:=Dj a 10 b
abbrev GO a b:=D5 a D1 b
abbrev GP a:=Da a D3
abbrev GQ a:=Dg Dk a
abbrev GR:=GQ D3
abbrev GS a:=Dq 94 a
abbrev GT a:=Dq a D4
abbrev GU a b c:=E9 CV a b c
abbrev GV a b:=GU 51 a b
abbrev GW a:=Fz 36 a
abbrev GX:=GW 27
abbrev GY a b:=CX a b Dx
abbrev GZ a:=Dh a D8
abbrev Hb a:=Du Ek a
abbrev Hc:=FC 11
abbrev Hf a:=EU (CU a)
abbrev Hg:=CU 13
abbrev Hh:=E4 CV
abbrev Hi:=DQ GX
abbrev Hk:=Fr 27
abbrev Hl:=FP 34
abbrev Hn a:=GY .Ke a
abbrev Ho:=Fd 13
abbrev Hp:=D6 40
abbrev Hq:=D6 39
abbrev Hs:=FP 26
abbrev Ht:=Dw "undefined"
abbrev Hu:MX:=.h 14
abbrev Hv:MX:=.h 21
abbrev Hw:MX:=.h 19
abbrev Hx:MX:=.h 20
abbrev Hy:MX:=.h 25
abbrev HA a b c:=Di (Dl a b) c
abbrev HB:MS:=.bL D4
def gS:MF:=⟨1,bF ["self"],1,[],GH CV 0 Dk⟩
def lX:MF:=⟨3,bF ["self","code","at"],3,[],ET Ew (Dg D1 D4)⟩
def gC:MF:=⟨1,bF ["self","row"],2,[],Fb 0 Dk 1 .gJ 2 (DY Dx) 3 Dk (Fb 4 Dk 5 Dk 6 .gJ 7 .gJ (Fa 8 D3 9 D3 (.fq 1 (Ds [FV "any",FV "unknown",FV "never",FV "void",FV "undefined",FV "null",FV "string",FV "number",.B [Ea,FG,FG],.B [Ea,DP,FG],FV "object",.B [Fe,Fu,Fu,Fu,Fu,Fu,FG],EQ Gv (EQ Fe Gu),FV "error",.B [Ea,FG,DP],.B [Ea,DP,DP]]) (DI (FP 10)) .V)))⟩
def eH:MF:=⟨2,bF ["self","row","t"],3,[],D2 (DT 1 (D6 1)) (DQ (D6 1)) (.H 2 (DU Ew) (FF Ew D1 (.g9 (D6 1) D1 D4 HB)))⟩
def lY:MF:=⟨4,bF ["self","did","kind","name"],4,[],Fb 11 D1 12 D4 13 De 14 DH (Fb 15 Dn 16 DH 17 Dn 18 D3 (Fb 19 Dz 20 Dk 21 Dk 22 D3 (Fa 23 D3 24 EL (GH CV 25 D3))))⟩
def nG:MF:=⟨3,bF ["tab","text","fresh"],3,[.j 0],.bL (E3 10 (E6 DB D1 D4))⟩
def iG:MF:=⟨4,bF ["tab","name","bound","default","pid"],5,[.j (-1),.j (-1)],.H 4 (DU (D6 3)) (FF (D6 3) D4 (FF (D6 4) De (Ev (.oo (D6 5) D1) (E3 10 (Dg EC Df)))))⟩
def nK:MF:=⟨3,bF ["tab","kind","name","decl"],4,[],Go (.oj 2 (DW (DU (D6 2)) D1 D4)) (Ev (.oo (D6 2) De) De)⟩
def nJ:MF:=⟨2,bF ["tab","t","row"],3,[],D2 (Fd 2) DH (Dr 2 ED (GF 6) EO (.bL (EM D1)))⟩
def iB:MF:=⟨1,bF ["row","kind"],2,[],Dr 1 Hh (Dm (Fd 3) (Fd 18)) Eh (Fp GM EJ GK (.bA (Dt .gV (.z CV DB)) Eh EJ) Dn)⟩
def iF:MF:=⟨2,bF ["tab","t","row"],3,[],Dr 2 ED (Fv (ES Fk [Ea,EH,EG,EF,Fe]) (CY 2 Dn) D8) (.jG (D6 1) (CZ (E0 (.oi D4 .m Dn) (EM D3)) Dn)) (.bL Dn)⟩
def kq:MF:=⟨1,bF ["got"],1,[],Eb (Di (Dm (DC EZ CV) (DC EX CV)) (Dm (DC Fi CV) (DC FI CV))) (.g9 CV EZ D8 (Ey CV Fi D8))⟩
def nH:MF:=⟨3,bF ["tab","got","t"],3,[],Ej (DC (DN 10 D4) D1) Dz (.bH .ub (Dq 9 (.z Ew D4)) D1)⟩
def rO:MF:=⟨1,bF ["got","t"],2,[],Ec 1 (E6 D3 Hg D8) (Fo (DT 1 CV) D1) Dn⟩
def uR:MF:=⟨2,bF ["tab","parts","got","t","part","top","kept"],8,[],.H 2 .gJ (.fq 3 D1 (.fq 4 (DN 8 De) (Ey D4 Df D8) .V) (Dr 5 (GT 13) (Fs 5) Dv (.jn (GT 11) (Dr 6 (.g7 E2 7 (Dt .dO D4) (El 12 D4 E2)) (.gH DE) DA (D2 (Da (DU DE) D8) (DD 6) (GD (GG DE (CU 400)) .ia (E3 10 (Dg Eh (Dt .i0 DE)))))))))⟩
def rX:MF:=⟨2,bF ["tab","t"],2,[],.bL (DN 14 (Dg D1 DL))⟩
def ku:MF:=⟨2,bF ["tab","t"],2,[],.bL (ES (E4 ED) [Ea,EH,EG,EF])⟩
def pn:MF:=⟨2,bF ["tab","t"],2,[],.bL (GE GM GK (Ft 16))⟩
def nO:MF:=⟨2,bF ["tab","t","row"],3,[],Ex 2 ED (Fv (ES Fk [Ea,EH,EG,EF,Fe]) (CY 2 Dn) D8)⟩
def ox:MF:=⟨2,bF ["tab","t"],2,[],Ej (Ft 18) (E3 10 (E0 (.oi ED .m Dn) (EM D3))) D1⟩
def rW:MF:=⟨2,bF ["tab","t","row","kind","whole"],5,[],Dc 2 ED 3 Fk (DF (GZ 3) (.Kl D1 D3) (Dl 3 2) DB (DF (Ez 3 [Fe,Gu,Fg,Ff,.j 13]) EJ (Dl 3 6) .ia (D2 (Dl 3 7) .ia (Dr 4 (GT 9) (FE 4) D3 (DM (Dl 4 6) D8 DA)))))⟩
def eK:MF:=⟨1,bF ["fam"],1,[],.bL (GE (Du CV 4) (Du CV 5) (Du CV 6))⟩
def iH:MF:=⟨4,bF ["s","t","fs","ft"],4,[],Fp (HA 2 5 (Dl 3 6)) D8 (HA 2 6 (Dl 3 5)) DA D3⟩
def jg:MF:=⟨5,bF ["tab","s","t","fs","ft"],5,[],DF (Fx 3 Df) D3 (Di (Ft 17) (DN 17 D4)) D3 (Fp (Dm (Fd 6) (Fd 7)) DA (Dm (Dl 2 6) (Dl 2 7)) D8 DB)⟩
def lT:MF:=⟨3,bF ["tab","s","t","fs","ft"],5,[],DF (Dm (Dh 1 D4) (Da (DN 10 D4) D1)) D8 (Da (Ft 10) D4) DA (Dc 3 (Ft 20) 4 (DN 20 D4) (DF (Dm (FN 3) (FN 4)) DB (Dm (Dq 21 De) (Dq 21 Df)) (DX 22 D1 D4 De Df) (Ej (Dm (Dl 3 7) (Dl 4 7)) .ia (Db 23 CV D1 (DW D4 De Df)))))⟩
def rR:MF:=⟨3,bF ["tab","kept","t","out","held","one","case"],7,[],Dc 3 Dk 4 Dz (.fq 5 D1 (Dr 6 (El 24 Dv D4) (FN 6) Dx (D0 (GZ 6) (DS 4 Dp) (Eb (Fx 6 DA) (ET De Dv)))) (GD (.gH Df) (ET De D4) De))⟩
def fD:MF:=⟨2,bF ["tab","t","row","decl"],4,[],EW 2 ED (GF 9) (Dr 3 .ia (Ei (GY .sL 3) (Du (.bB De 12) 3) (Du (.bB De 15) 11)) (EM Fm) .V) (Fp (GF 7) EO (GF 8) (EM (Ft 19)) (EM D1))⟩
def qk:MF:=⟨3,bF ["tab","s","t","kept","one"],7,[],Go (EE Dv 5 (Ft 26)) (.fq 4 (DN 26 D4) (Dr 3 (El 25 De Df) (Hn 3) DA .V) (Ej (Da (DU De) D8) GL (E3 10 (Dg EJ (Dt .i0 (EE (DN 19 DE) 6 De))))))⟩
def nL:MF:=⟨3,bF ["tab","s","t","found","left","right","crossed","one","other","met"],10,[],DF (Dm (Dh 1 D4) (GZ 2)) D1 (GZ 1) D4 (Go .gJ (.g8 [4,5] (Dg (Ft 8) (DN 8 D4)) (.H 6 (Di (GG Df D8) (GG Dv D8)) (Ec 7 Df (.fq 8 Dv (EW 9 (El 27 E2 EI) (Fx 9 DA) (Ey De E8 D8) (Eb (Di DE (GG De (CU 200))) .ia)) .V) (DN 14 (Dt .dO De))))))⟩
def uS:MF:=⟨2,bF ["tab","parts","t","out","place"],5,[],.fq 2 (E6 DA D3 Hg) (Fo (DT 2 D1) D4) (Go D8 (.jN 4 (DU D1) (Eb (.bH .ub (CY 1 Df) (.oi D1 .m Df)) (DS 3 (El 28 De (CY 1 Df)))) (.bL De)))⟩
def iI:MF:=⟨1,bF ["rows","owners","prop","hidden"],4,[],.H 1 .gJ (Ec 2 CV (Go (Di (GY .sL 2) (E5 (Fq (FC 2) (Fy EZ Gh)) D3)) (Ey D1 (.bA De (GA 2) D3) D8)) (GG D1 D8))⟩
def jj:MF:=⟨2,bF ["host","t","out","seen","waiting","at","row","more"],8,[],Dc 2 Dk 3 .gJ (.H 4 (DY D1) (.fN Df (EW 5 (E3 26 (.xa Df .m)) (DT 5 De) .gZ (.g9 De Dv D8 (FQ 6 Gf Dv 7 (.bA (DO 6 6) (DK 6) (EM (.bA (ES (DD 6) [Fg,Ff]) Dv (E3 28 Dv)))) (.bA (Dh 7 (EM Dv)) (ET D4 Dv) (DI (.bq Df E2)) .V)))) HB))⟩
def jf:MF:=⟨2,bF ["tab","t","turn","row"],4,[],.jN 2 (CU 40) (D0 (FE 1) .ia (Dr 3 ED (DO 3 8) D1 (DF (DO 3 13) .ia (ES GL [DP,Ea,EH,EG,EF]) Fm (D0 (GE (E5 GL Fi) (FC 3) (.bB (.z (D6 2) F0) 16)) .ia (DS 1 (.bB (.z (D6 2) F0) 15)))))) .ia⟩
def lW:MF:=⟨2,bF ["self","tab"],2,[],Fb 27 D1 29 D3 30 (CU 200) 31 (CU 40) (GH CV 32 Dx)⟩
def ql:MF:=⟨2,bF ["self","t"],2,[],.bL D1⟩
def eL:MF:=⟨2,bF ["self","row"],2,[],.bL (GN Ee D1)⟩
def lg:MF:=⟨3,bF ["self","t","name"],3,[],.bL Dx⟩
def kA:MF:=⟨2,bF ["self","t"],2,[],.bL DH⟩
def nR:MF:=⟨2,bF ["tab","t","row","bound"],4,[],Dr 2 ED (E5 Fk EC) D1 (Go (.z (D6 3) EO) (DM (Dm (FE 3) (FN 3)) D8 De))⟩
def lV:MF:=⟨2,bF ["row","name","prop"],3,[],Ec 2 (.z CV D8) (Fo (Da Fk D1) D4) Dx⟩
def rV:MF:=⟨1,bF ["name","digits"],3,[],Ex 1 (Dt .A7 (EE (.oD EP D4 (Dw "9")) 2 CV)) (Dm (Da CV EP) (Ei (E5 CV EL) (E5 Hh EP) D1))⟩
def gB:MF:=⟨1,bF ["name"],1,[],D2 (Da CV FL) Dp (GD (Di (Da (.oi CV D3 D8) (Dw "-")) (E5 CV (Dw "-0"))) (DS 0 (Fn CV D8)) (Dm (Dq 40 CV) (Da CV (Dw "Infinity"))))⟩
def jy:MF:=⟨3,bF ["host","t","name","row","prop"],5,[],Dc 1 Hs 3 Gn (.bA (Dm (DO 3 11) (DO 3 12)) (DS 4 (GU 33 D1 D4)) (DS 4 (D5 39 (.z Gf Hl) D4)) (DM (Hn 4) Dx (EA D4 (E3 26 Gq) (FC 4) (GA 4))))⟩
def lP:MF:=⟨2,bF ["tab","prop"],2,[],DM (Fq (FC 1) D8) (DN 15 EY) EY⟩
def rQ:MF:=⟨3,bF ["host","row","name"],3,[],D2 (DO 1 11) (.bA (GT 41) EY Dn) (DM (GT 40) .ia Dn)⟩
def gQ:MF:=⟨3,bF ["host","t","name","row","shape"],5,[],EW 3 Gn (Dm (DO 3 11) (DO 3 12)) (.H 1 (El 44 De D4) (DM (FE 1) D1 Hs)) (Dr 4 (.z Gf Hl) (Di (GT 41) (E5 (CY 4 DZ) DH)) (E3 26 (FB 4 DZ)) (DM (Da (CY 4 DL) DH) Dn (E3 26 (FB 4 DL))))⟩
def lS:MF:=⟨4,bF ["host","t","prop","name"],4,[],D2 (Dm (FN 1) Ho) D1 (DM (Hn 2) (F8 45 De) (FD 43 D4))⟩
def lQ:MF:=⟨3,bF ["host","t","name","parts","rows","found"],9,[],Dc 3 (EE (E3 26 (E3 28 DE)) 6 (Ft 31)) 4 (EE (.bA (DT 7 (Dg D3 Hg)) Dx (El 42 E2 D4)) 7 De) (.H 5 (.hX (DX 46 CV (CY 3 EI) (CY 4 EI) D4) 8 (DU De) Dp) (DM (GE (DC Dn Dv) (.gH Dv) (Dq 30 Df)) Dn (FD 14 Dv)))⟩
def nP:MF:=⟨3,bF ["host","t","number","row","cell"],5,[],Dc 1 Hs 3 Gn (D2 (DO 3 6) .ia (.bA (Dm (DO 3 11) (DO 3 12)) (DS 4 (.bA D4 (FP 35) DH)) (DS 4 (.z (.z Gf Hl) (.bA D4 DZ DL))) (DM (Dh 4 DH) DH (Dg (E3 26 (DD 4)) Gq))))⟩
def lO:MF:=⟨2,bF ["tab","t","row"],3,[],Dr 2 ED (GF 3) EO (DF (GF 4) (Dt .F EO) (GF 5) (Dt .F (GA 2)) (DF (GF 2) (.bA (Da EO D8) (Dw "true") (Dw "false")) GK (Dw "null") (Ej GM Ht Dx)))⟩
def jB:MF:=⟨2,bF ["tab","t"],2,[],Ej (DC (E4 ED) (E6 DB DL DZ)) (Ft 49) Dx⟩
def nU:MF:=⟨3,bF ["self","host","mode"],3,[],Fb 36 D1 37 D4 38 .gJ 39 .gJ (Fb 40 .gJ 41 Dk 42 Dk 29 D3 (Fb 43 D3 44 (.oj 0 .m) 45 Dp 46 Dx (Fa 47 EL 23 D3 .V)))⟩
def pq:MF:=⟨3,bF ["self","s","t"],3,[],.bL (GC 61)⟩
def nS:MF:=⟨2,bF ["self","code"],2,[],Eb (D6 45) (DI (E9 (D6 44) 10 D1 (D6 23)))⟩
def nT:MF:=⟨1,bF ["self"],1,[],.bL (Dg (DU (Dy 44 0)) (DU FJ))⟩
def nV:MF:=⟨2,bF ["self","spot"],2,[],DI (Ft 59)⟩
def k0:MF:=⟨4,bF ["rel","number","s","t","rule"],5,[],Ex 4 (.jG (D6 38) (CW D1)) (Di (GY .sL 4) (.bJ Df 48 (DW CV D4 De)))⟩
def je:MF:=⟨2,bF ["rel","mode","made"],3,[],.H 2 (.oj 5 (CZ Gl D1)) (Dd D4 38 (D6 38) D4 45 Dz HB)⟩
def zg:MF:=⟨1,bF ["rel"],1,[],.bL (DN 57 Ek)⟩
def nQ:MF:=⟨2,bF ["rel","spot"],2,[],.vz (Dy 44 0) (DD 1) (.fN (GG FJ EY) (.qO Hq (.xa FJ .m) .V) .V)⟩
def pd:MF:=⟨2,bF ["host","t"],2,[],Dr 1 Hs (FD 16 D1) (FD 19 D1) (.bL D1)⟩
def fF:MF:=⟨3,bF ["rel","s","t","rows","told"],5,[],D2 (Dh 1 D4) Dp (Dc 1 (D5 60 Gl D1) 2 (D5 60 Gl D4) (D2 (Dh 1 D4) Dp (D0 (Hb 3) (Dr 3 GX (Dm Ho (Dl 2 13)) Dp (Ej (Dm (ES (FB 3 D1) [DP,Ea,EH,EG,EF]) (ES (FB 3 D4) [DP,Ea,EH,EG,EF])) Dz (GC 62))) (Dr 4 (GC 64) (Dm (GZ 4) (Ei (Hb 2) (Fx 2 DA) (Da (El 64 D4 D1) D8))) Dp (.bL (Di (FE 4) (GC 62)))))))⟩
def iE:MF:=⟨3,bF ["rel","s","t","key","spot","answer"],6,[],Dr 3 (Dg D1 D4) (DT 3 Hp) (.z Hp De) (DF (DT 3 Hq) Dp (Gg (GJ (D6 43) (CU 20000)) .ia) Dz (D0 (Dm (GJ (D6 29) (CU 60)) (GJ (D6 43) (CU 20000))) (Ev (E3 49 FI) Dp) (.qT CV 43 .fZ D8 (.H 4 (.bJ CV 50 .m) (.g9 Hq De D8 (FF FJ De (.qT CV 29 .fZ D8 (.H 5 (.bA (Hb 3) .ia (GC 70)) (.qT CV 29 .z D8 (.bA (.gH Dv) (.jn (DN 59 Df) (Eb (Dm (GP Gq) (E5 Ek DL)) (Ey Hp De Dz))) (Eb (GP Gq) (DI (DN 63 (Da (DU (Dy 44 0)) (DD 4))))) (.bL Dv)))))))))))⟩
def jk:MF:=⟨2,bF ["rel","clean","key"],3,[],.fq 2 FJ (.qO Hq D4 (Eb D1 (Ey Hp D4 Dp))) (GH CV 41 Dk)⟩
def gz:MF:=⟨3,bF ["rel","s","t","told","rows","a","b"],7,[],Dr 3 (GC 65) (Fs 3) De (Dc 4 GX 5 (FB 4 D1) (Dr 6 (FB 4 D4) (Dm (Ez 5 [Gv,.j 7,Eu,Et,Es,Er,Ep,Eo,Em]) (Ez 6 [Gv,.j 7,Eu,Et,Es,Er,Ep,Eo,Em])) Dn (DF (Dl 2 10) (.bA (Ez 5 [DP,Ea,EH,EG,EF]) D3 Dn) (Ez 6 [DP,Ea,EH,EG,EF]) (.bA (Ez 5 [DP,Ea,EH,EG,EF]) (GC 68) D3) (Ej (GE GM GK (Fd 3)) D3 Dn))))⟩
def fi:MF:=⟨3,bF ["rel","s","t"],3,[],DF (.pK (GI (FN 2) (Dl 2 13) (Fd 2) Ho)) D8 (Di (FN 1) (Hb 4)) D3 (D2 (GZ 2) D8 (D0 (FN 1) (D2 (Dl 2 2) D3 (Ev (E3 49 D8) D8)) (Fp (GZ 1) (DN 66 D4) (HA 2 2 (.bH .ub (E4 Hi) (Ds [Gv,.j 7,Eu,Et,Es,Er,Ep,Eo,Em]))) D3 Dn)))⟩
def iC:MF:=⟨2,bF ["rel","t","parts"],3,[],D2 (ES (E4 Hi) [Eu,Et,Es,Er,Ep,Eo,Em]) Dn (Dr 2 (D5 8 (Dy 36 27) D1) (Hb 4) D3 (DM (Ei (DC Fm D4) (DC DZ D4) (DC DL D4)) D8 D3))⟩
def fE:MF:=⟨1,bF ["row"],1,[],.bL (Di (Du Hh 5) (Du (Dq 9 CV) 7))⟩
def gy:MF:=⟨3,bF ["rel","s","t","a","b"],5,[],D2 GM (Fh 2 3 D8 D3) (Dc 3 Hi 4 (.z GX D4) (DF (Di (Da (Dq 9 De) D4) (GJ (Dq 9 De) D3)) D8 (Fv (Hb 2) (Dq 9 Df) D1) D8 (Fp (Ei (DO 3 5) (DO 4 5) (Da F0 Gq)) (.bA (Da (GA 3) (GA 4)) D8 D3) (DO 3 5) (.bA (Ei (DC (DD 4) (Dg DB DL)) (Da (Dq 9 Df) (Dq 9 De)) (Da Gq (GA 3))) D8 D3) (DX 69 CV D1 De Df))))⟩
def gA:MF:=⟨4,bF ["rel","s","a","b"],4,[],D2 (Dm (Hb 4) (.gH (Dq 67 De))) D3 (GD (Dm (Fd 7) (Fv (GF 4) EO (GA 3))) (Ev (E3 49 EC) D8) D3)⟩
def j5:MF:=⟨3,bF ["rel","s","t","rows","a","b"],6,[],Dc 3 GX 4 (FB 3 D1) (Dr 5 (FB 3 D4) (Dl 4 6) (GC 72) (Ej (Dl 5 6) (GC 74) (DX 56 CV (D5 71 Df Dv) D1 D4)))⟩
def nI:MF:=⟨2,bF ["a","b"],2,[],DF (Dm (Du CV 7) (Fd 7)) D8 (Dm (ES CV [Eu,Et,Es,Er,Ep,Eo,Em]) (Ez 1 [Eu,Et,Es,Er,Ep,Eo,Em])) DA (Fp (Di (Du CV 13) Ho) DB (Di (ES CV [Fg,Ff]) (Ez 1 [Fg,Ff])) DL DZ)⟩
def kx:MF:=⟨3,bF ["rel","s","t","part"],4,[],Ec 3 (D5 8 (Dy 36 27) D1) (.bA (GV De D4) (Fo (Hb 2) Dp) (Fo (E5 Ek DA) Dz) .V) (E5 Ek DA)⟩
def rP:MF:=⟨3,bF ["rel","s","parts","lax","part","spot"],6,[],Go Dx (.fq 4 D4 (.H 5 (.bJ CV 50 .m) (Eb (GV D1 Df) (D2 (Da (DU (Dy 44 0)) (DD 5)) Dp (D0 (Hn 3) (DS 3 (Dg (Fn (Dy 44 0) (DD 5)) (Fn FJ (DK 5)))) (DI (E3 52 Dv)))))) (D2 (Hn 3) Dz (Ev .ia Dp)))⟩
def nE:MF:=⟨3,bF ["rel","s","t","tab","parts","kind"],6,[],Dc 3 (Dy 36 27) 4 (D5 8 De D4) (D2 (Dm (DT 1 Df) (F8 73 Df)) Dp (Dr 5 (E4 (DQ (E7 De))) (Ez 5 [Eu,Et,Es,Er,Ep,Eo,Em]) (DX 56 CV DA D1 D4) (Fp (HA 5 7 (DX 56 CV D8 D1 D4)) Dp (Dm (Dl 5 7) (Ez 5 [Fe,Gu])) (DX 56 CV Eh D1 D4) (HA 5 12 (DX 56 CV (CU 12) D1 D4)))))⟩
def lR:MF:=⟨2,bF ["tab","pid","bound"],3,[],.H 2 (DQ (D6 3)) (DM (Dm (FE 2) (FN 2)) D8 D4)⟩
def gR:MF:=⟨2,bF ["host","t","row"],3,[],Dr 2 Gn (GF 10) (FD 75 EO) (Ej (ES Fk [Eu,Et,Es,Er,Ep,Eo,Em]) (FP 28) D1)⟩
def j8:MF:=⟨3,bF ["host","t","spared","shape"],5,[],Dr 3 (.z Gf Hl) (E5 GL EZ) DA (.bL (FD 14 (.g7 (FD 5 (DD 4)) 4 F0 (GP (Fq (FC 4) D4)))))⟩
def iD:MF:=⟨2,bF ["host","t","kind","names"],4,[],Dr 2 (E4 Gn) (Ez 2 [Eu,Et,Es,Er,Ep,Eo,Em]) (E3 53 (Dg EX D1)) (Go (F8 77 (Fy (CU 24) D8)) (DM (Ez 2 [Fg,Ff]) (FD 14 (Dg De EJ)) De))⟩
def jx:MF:=⟨4,bF ["rel","s","a","b","host","spot","bound"],7,[],EW 4 Gl (GF 14) (D2 (.gH (GV F0 EO)) Dz (Ev (E3 49 Fm) Dp)) (D0 (GF 10) (Dr 5 (.bJ CV 50 .m) (GV (D5 76 Df D1) (GN Hk De)) Dp (DI (E3 52 Dv))) (Dr 6 (D5 76 Df F0) (Dm (Dh 6 F0) (GZ 6)) Dz (D2 (.gH (GV D1 (Dj Df 53 (Dg EX DE)))) Dz (GD (Gg (D6 45) (E9 (Dq 58 CV) 51 D1 (D5 78 Df DE))) (DI (E3 49 Fm)) Dp))))⟩
def gP:MF:=⟨4,bF ["host","obj","key","own","name","cell"],6,[],Dr 4 (FD 50 D4) (GY .sL 4) (F8 47 Df) (D2 (Dm (.gH De) (CX .ub 2 (Dg Eh EJ))) Dn (EW 5 (Fh 2 7 (F8 48 D8) DH) (Dh 5 DH) (DS 5 (F8 48 D3)) (DM (Dh 5 DH) Dn (DD 5))))⟩
def fh:MF:=⟨4,bF ["host","obj","idx","own","found","key","given"],7,[],.H 4 D8 (Ec 5 (FD 8 D4) (Dr 6 (DX 80 CV D1 Dv De) (FE 6) Dn (DS 4 (FD 29 (Dg Df DE)))) Df)⟩
def nF:MF:=⟨4,bF ["rel","s","a","b","host","obj","idx","own","kind","given"],11,[],D2 (Ei (GF 15) (GV EO F0) (GV (FC 2) (FC 3))) Dp (Dc 4 Gl 5 (D5 76 Df F0) (Dc 6 (D5 76 Df (FC 3)) 7 (Dh 5 F0) (Dr 8 (E4 (.z (E7 Hk) Dv)) (Dm (.bH .ub Ek (Dg D8 DA)) (Dl 6 2)) Dz (D2 (Gg (CX .ub 8 (Ds [Fe,Gu])) (Di E2 (Ez 8 [Fg,Ff]))) Dz (Dr 9 (DX 81 Df Dv DE E2) (Dm (FE 9) (.gH (GV D1 E8))) Dz (.bA (.gH E2) (DI (E3 49 DB)) (Eb (Dt .uh (EE (.bH .Ke (D5 50 Hk DV) Dx) 10 (D5 8 Hk DE))) (DI (E3 49 DZ))) (.bL Dp)))))))⟩
def fJ:MF:=⟨2,bF ["self","t"],2,[],.bL (FD 38 D1)⟩
def fH:MF:=⟨2,bF ["self","t"],2,[],.bL (FD 32 D1)⟩
def fG:MF:=⟨4,bF ["self","rel","s","t"],4,[],.bL (Di (E5 (.bB D1 37) DB) (DG 86 D1 D4 De))⟩
def eG:MF:=⟨3,bF ["rel","s","t","row","bound"],5,[],Dr 3 Hi (E5 GL EC) Dz (Ex 4 (D5 75 (Dy 36 27) F0) (Di (Fx 4 D1) (GV Df D4)))⟩
def eo:MF:=⟨1,bF ["rel"],1,[],Ey (D6 38) DA (.oj 7 .m)⟩
def jz:MF:=⟨2,bF ["d","n","at","x"],4,[],.H 2 Hh (.g9 CV D3 (E0 D4 D8) (Ex 3 (.bA (CX .lt 2 (DU (.z CV D8))) (.z (.z CV D8) D4) (E0 (.hY .Mc D4 (CU 101)) EJ)) (E1 De D1)))⟩
def pg:MF:=⟨1,bF ["one","rows"],2,[],Dc 1 (Gy (Dg D8 Ht) (Dg D8 (Dw "null")) (GB DA D8) (GB DL D3) (GI (GB DL D8) (Dg D8 (Dw "number")) (GB DB FM) (GB DB (Dw "q")))) 1 (E0 D1 (Gy (GB DB EP) (Dg D8 (Dw "string")) (Dg D8 (Dw "unknown")) (Do DZ D8 (DW (Dw "A") FM D3)) (CZ (GB DB FL) (GB DB (Dw "01"))))) (.bL (.z (E0 D1 (DY (GB DL Dn))) CV))⟩
def tI:MF:=⟨1,bF ["one"],1,[],.bL (.z (Gy D8 DA DL EZ (DJ Gh (CU 16440) (CU 192) (CU 256) (DJ (CU 512) (CU 14272) FK (CU 128) (DW (CU 4096) (CU 8192) (CU 16384))))) CV)⟩
def oy:MF:=⟨0,bF [],0,[],.bL (Gy Fi Eh DZ DB (DJ EC D3 EJ D8 (DJ EZ Eh DL DA (CW Fi))))⟩
def rS:MF:=⟨0,bF [],0,[],.bL (Gy Eh EJ EZ DB (DJ Fm Eh EJ EZ (DJ Eh EJ DB Eh (DJ Fi DZ DL (CU 12) (GI Hg EX DA EC)))))⟩
def ph:MF:=⟨4,bF ["pool","code","most","low","got","rest","go","one","wide"],12,[],Dc 4 Dk 5 (Ed D1 D4) (.jN 6 (E0 De (E1 D1 D4)) (FQ 7 CV (E1 Dv (DU CV)) 5 (Ed Dv (DU CV)) (Eb (CX .ub 7 Df) (ET Df E2))) (Ex 8 (.g7 E8 9 Df (DT 9 (E6 DZ Fi EC))) (.g7 DV 10 Df (.gH (Dt .uh (EE (Fv (Fx 11 DV) (Fy (Dq 90 DV) (Dq 90 Eg)) (Dq 90 Eg)) 11 EI))))))⟩
def pj:MF:=⟨1,bF ["atoms","bits","one"],3,[],.H 1 D3 (Ec 2 CV (DS 1 (Fy D1 (GT 90))) D1)⟩
def nM:MF:=⟨2,bF ["tab","atoms"],3,[],.bL (DN 14 (EE (E3 10 (GT 89)) 2 D1))⟩
def ki:MF:=⟨2,bF ["d","tab","names","sure","props","name","code","atoms","cells","held","k","row"],12,[],.g8 [2,3,4] (E6 .gJ Dk Dk) (.fq 5 (E6 EP FM (Dw "q")) (.H 6 (Hf 1352) (Eb (EV (E1 DE DL) D3) (.H 7 (DX 93 (Gs 91) (Ed DE DL) DA D8) (FF Df (EA Dv (GO 95 E2) (Ed (E1 DE DL) DB) D3) (.g9 D4 Dv (Fy (GS E2) (Ed (E1 DE DL) DB)) (Eb (.bH .lt (E1 DE DL) DB) (ET De Dv))))))) (EW 6 (EU Gh) (EV (E1 DE DL) D3) (ET Df (EA (Dw "z") EJ (.z (.dm (GI D3 EZ Gh D3)) (E1 DE DL)) D3)) (D0 (Du (E1 DE DL) 3) (ET De (Dw "z")) (.g8 [8,9] (Dg (Fw DH DH) (Fw Dn Dn)) (.jN 10 DA (Eb (Da (E1 (Ed (Ed DE DL) (E0 D8 DV)) DA) D8) (.H 7 (DX 93 (Gs 91) (Hf 338) DA D8) (.g9 EI DV (Dg (GO 95 E2) D3) (Ey E8 DV (GS E2))))) (Ex 11 (Do EZ (Dt .i0 Df) (DJ DH DH (DD 8) (DK 8) (CW D3))) (Dg (GN D1 Eg) (EA D4 (DD 9) (DK 9) De))))))))⟩
def rU:MF:=⟨2,bF ["table","one","names","text","num","sure","name"],7,[],.g8 [2,3,4,5] CV (DF GK (.bA (Fs 4) Df De) (Fd 9) De (Dr 6 (DQ (Gy EL EL EL EP (DJ (Dw "1") EL FM (Dw "q") (DJ EP EL EL FM (DW FL (Dw "01") (Dw "-1")))))) (Dh 6 EL) Dn (D2 (DT 6 D4) (CY 2 DE) (DM (Di (Fs 4) (DT 6 (EA EP (Dw "1") FL (Dw "-1")))) Df De))))⟩
def jA:MF:=⟨3,bF ["both","s","t"],3,[],DF (Dm (GP EY) (Di (E5 Fk Dk) (DC (E4 Fk) (DD 1)))) Dp (E5 Fk Dk) (Di CV (Du EY 32767)) (DM CV (EV (Fq EY EO) D3) (Da (Fq EY EO) EY))⟩
def j9:MF:=⟨2,bF ["d","tab","one","other","decl","atoms","rows","tables","ups","terms","choice","up","mine","bound"],14,[],.H 2 (.w 96 (.cons (.h 0) (.cons (.h 1) .m))) (.H 3 (.w 96 (.cons (.h 0) (.cons (.h 1) .m))) (.H 4 (.w 7 (.cons (.h 1) (.cons (.k (.j 2)) (.cons (.k (.F (m "I"))) .m)))) (.iV (.h 4) 15 (.z (.h 3) (.k (.j 0))) (.H 5 (.w 93 (.cons (.w 91 .m) (.cons (.w 88 (.cons (.h 0) (.cons (.k (.j 338)) .m))) (.cons (.k (.j 2)) (.cons (.k (.j 1)) .m))))) (.H 6 (.dm (.cons (.z (.h 2) (.k (.j 0))) (.cons (.bJ (.h 1) 10 (.cons (.B (.cons (.k (.j 9)) (.cons (.bB (.h 4) 11) (.cons (.B .m) .m)))) .m)) (.cons (.bJ (.h 1) 10 (.cons (.B (.cons (.k (.j 11)) (.cons (.w 95 (.cons (.h 1) (.cons (.h 5) .m))) (.cons (.k (.j 0)) .m)))) .m)) .m)))) (.H 7 (.dm (.cons (.z (.h 2) (.k (.j 1))) (.cons (.z (.h 3) (.k (.j 1))) (.cons (.B (.cons .gJ (.cons (.k (.j (-1))) (.cons (.w 94 (.cons (.h 5) .m)) (.cons (.dm .m) .m))))) .m)))) (.H 8 (.dm (.cons (.k (.j (-3))) (.cons (.k (.j (-3))) (.cons (.k (.j (-3))) .m)))) (.H 9 (.dm (.cons (.B (.cons (.dm (.cons (.k (.j 0)) .m)) (.cons (.k (.j 2048)) .m))) (.cons (.B (.cons (.dm (.cons (.k (.j 1)) .m)) (.cons (.k (.j 2048)) .m))) (.cons (.B (.cons (.dm (.cons (.k (.j 2)) .m)) (.cons (.k (.j 2048)) .m))) .m)))) (.fq 10 (.B (.cons (.B (.cons (.k (.j (-2))) (.cons (.k (.j 1)) (.cons (.k (.j (-1))) (.cons (.k (.j 2)) (.cons (.k (.j 0)) .m)))))) (.cons (.B (.cons (.k (.j 3)) (.cons (.k (.j 1)) (.cons (.k (.j 0)) (.cons (.k (.j 3)) (.cons (.k (.j (-1))) .m)))))) (.cons (.B (.cons (.k (.j 0)) (.cons (.k (.j 3)) (.cons (.k (.j 1)) (.cons (.k (.j 4)) (.cons (.k (.j (-1))) .m)))))) .m)))) (.H 11 (.z (.h 10) (.w 88 (.cons (.h 0) (.cons (.k (.j 5)) .m)))) (.H 12 (.dm (.cons (.pO .U (.cons (.h 6) .m)) .m)) (.bA (.bH .ge (.h 11) (.k (.j 0))) (.H 13 (.z (.h 6) (.h 11)) (.jn (.oo (.h 9) (.B (.cons (.hY .fZ (.h 12) (.z (.z (.h 9) (.h 11)) (.k (.j 0)))) (.cons (.z (.z (.h 9) (.h 11)) (.k (.j 1))) .m)))) .V)) (.bA (.bH .eq (.h 11) (.k (.j (-2)))) (.H 13 (.k (.j 6)) (.jn (.oo (.h 9) (.B (.cons (.h 12) (.cons (.k (.j 14272)) .m)))) .V)) (.H 13 (.Ka (.w 88 (.cons (.h 0) (.cons (.k (.j 2)) .m)))) (.jn (.oo (.h 9) (.B (.cons (.h 12) (.cons (.k (.j 32767)) .m)))) .V)) .V) (.jn (.oo (.h 8) (.h 11)) (.jn (.oo (.h 6) (.w 6 (.cons (.h 1) (.cons (.k (.F (m "T"))) (.cons (.h 13) (.cons (.k (.j (-1))) .m)))))) .V))))) (.bL (.B (.cons (.h 6) (.cons (.h 8) (.cons (.h 9) (.cons (.h 7) .m)))))))))))))))⟩
def rT:MF:=⟨2,bF ["d","tab","code","atoms"],4,[],Dr 2 (Hf 120000) (Du (E1 D4 DZ) 4) (Dg Dn (DY EC)) (Ex 3 (.bA (Du (E1 D4 DZ) 3) Dk (DX 93 (Gs 92) (Ed D4 DZ) DB D8)) (Dg (GO 95 De) De))⟩
def nN:MF:=⟨2,bF ["d","tab","bound","atoms","first","second","last","more"],8,[],.g8 [2,3] (Ft 100) (.H 4 (DX 6 D1 (Dw "P") D4 Dn) (.bA (GP (EU DB)) (FS 5 (DX 6 D1 (Dw "Q") Df Dn) 6 (EA Dv (Dg (Fw (CU 21) FH) (GS De)) De Dp)) (.g8 [2,7] (Ft 100) (DS 6 (EA (DX 6 D1 (Dw "Q") D4 Dn) (FU (CU 21) (GS E2)) E2 Dz))) (.bL (Fw (EA Df (FU FH (GS De)) De Dz) DE))))⟩
def wM:MF:=⟨3,bF ["d","tab","keys","pick","code","atoms"],6,[],Dr 3 (EU DL) (CX .gt 3 D8) (CY 2 (.hY .z De DA)) (Dc 4 (Hf 24000) 5 (.bA (Du (E1 Df (CU 40)) 39) Dk (DX 93 (Gs 92) Df DB D8)) (.bL (EA (GO 95 Dv) (GQ (GS Dv)) Dv Dz)))⟩
def kh:MF:=⟨7,bF ["d","tab","things","keys","given","place","key","how","spot","far","pool","atoms","t"],15,[],Dr 7 (.z (Do DL DA (DJ Eh D3 EJ DB (CZ DZ D8))) (EU EZ)) (Dl 7 4) (EA D3 GR Dn GR) (D0 (CX .gt 7 DL) (Dc 8 (Fh 7 6 Dv Gk) 9 (Fh 7 7 DE (F8 102 De)) (.bL (EA (GN D1 (E6 FI (.z Fk EI) (DD 9))) GR EI (DK 9)))) (EW 10 (.hX Fj 13 Fm (Fv (Fs 4) (Fy (Dq 90 Fj) Df) Df)) (Dm (CX .gt 7 D8) (Dh 10 Dk)) (DS 10 (.hX Hu 14 FI Dp)) (Dc 11 (DX 93 DV (Hf 10125) DB (.bA (CX .gt 7 D8) D3 D8)) 12 (GO 95 Eg) (Ej (GP (E1 E2 DA)) (EA Ef (GQ (GS Eg)) Dn GR) (EA (DX 6 D1 (Dw "W") Ef Dn) (FU (CU 30) (GS Eg)) Dn GR)))))⟩
def jh:MF:=⟨4,bF ["tables","base","own","atoms","given","one","at"],7,[],.H 4 (.bA (Ei (Fs 1) (Fx 3 Dk) (Dm D4 (CX .lt 1 DA))) FK Dn) (Ec 5 De (FS 6 (.bA (Fs 4) (D5 97 (DQ CV) Dv) Dn) 4 (.bA (Dm (FE 6) (Gg (DT 5 (Dg DZ Fi)) D4)) Dn (Fq Df DE))) Df)⟩
def ji:MF:=⟨6,bF ["d","tab","rel","mode","things","keys","rows","ups","terms","tables","place","key","own","base","freely","given","s","term","spot","far","first","lies","then","codes","held","told","want","again"],29,[],.g8 [6,7,8,9] Df (FQ 10 (Do D8 DL (GI D3 DB DA DZ)) Gk 11 (F8 102 Dv) (Dc 12 (CX .lt 10 DB) 13 (.bA Ef DV (CY 7 DV)) (.H 14 (Dm (GA 11) (HA 10 2 (DC DZ Hc))) (.fN (CX .gt 13 DA) (FS 13 (CY 7 Fj) 14 Dp) (.H 15 (DX 104 E8 Fj Ef Hc) (.g8 [16,17,18,19] (Db 103 CV D1 (DJ Df Dv FW DV (CW Eg))) (.H 20 (Ei (Fs 18) (DG 98 (Dl 3 2) (CY 8 (.h 18)) (CY 8 DV)) (DG 98 (Dl 3 2) Hw (DK 11))) (.bA (Fs 18) (DS 21 (Dl 15 32767)) (DS 21 (.bA (FN 16) (EK .gt 15) (DG 98 (Dl 3 2) (.h 17) (GQ FW)))) (Dc 22 (Ei (Fs 15) (Fx 3 DL) Hv) 23 Dk (D0 (Gg (.h 22) Hx) (FS 23 (.bA (Di (FN 16) (Fx 15 FK)) (DY D8) Dk) 23 (E0 (.h 23) (.bA (.gH Ef) (DY DB) (.bA (Dm (DC DZ Hc) (DC Fi Hc)) (DY DZ) Dk)))) (Dc 24 (DU Gj) 25 (DX 82 D4 FX (.z (E7 D1) FX) (E6 FI (CY 6 DV) (DD 11))) (D2 (Di (Fx 25 (Dm Hx (.h 22))) (Dm Hy (.gH Hu))) Dz (Dr 26 (.bA Hy (EE (Dg (.h 28) (EN 23)) 28 (.h 23)) Dk) (E5 (Fn Gj (.h 24)) (.h 26)) Dz (.iV D4 45 Dz (.H 27 (DX 82 D4 FX (.z (E7 D1) FX) (E6 FI (CY 6 DV) (DD 11))) (.iV D4 45 Dp (.bL (Fv (Dh 27 Hy) (Fn Gj (.h 24)) (.h 26)))))))))))))))))))⟩
def lU:MF:=⟨5,bF ["d","tab","rel","both","things","rows","ups","terms","tables","place","held","spot","s","want","lax","at","how","low","term","early","late","asking","told"],23,[],.g8 [5,6,7,8] Df (FQ 9 (Do D8 DL (GI D3 DB DA DZ)) Gk 10 (DU Gj) (.bA (GP (EU DA)) (Dc 11 Gk 12 (GN D1 (Dg EX (CY 5 Eg))) (FS 13 (DG 98 De (CY 7 E8) (CY 7 Eg)) 14 Dp)) (FQ 15 (Do D3 D8 (DW DB DL DZ)) (EU DZ) 16 Gk (Dc 17 (Fh 16 4 Dn (Fh 16 5 DA (GN D1 (Dg EX (CY 5 FW))))) 18 (Fh 16 4 (FU FH FK) (Fh 16 5 (FU FH D3) (Dg (Fw FH (E0 EC FW)) (CU 2048)))) (EW 12 (DX 6 D1 (Dw "K") (.h 17) Dn) (GP (EU DB)) (FS 12 (DX 6 D1 (Dw "L") Ef Dn) 18 (Dg (E0 (DY (CU 21)) (DD 18)) (DK 18))) (Dc 19 (DG 98 De (Dg (Fn (DD 18) D8) (DK 18)) (FU (E0 EC E8) D3)) 20 (Di (GJ (CY 6 E8) D3) (DG 98 De (.h 18) (FU (E0 EC (CY 6 E8)) D3))) (FS 13 (Dm Hw Hx) 14 (Di (.gH Hw) (.bH .lt (CY 6 E8) DB))))))) (.H 21 (Dg Ef (GN D1 (Dg EX (CY 5 E8)))) (.g9 (EN 39) Hv D8 (.H 22 (DX 79 D4 Ef (.z (E7 D1) Ef) (Dg EX (CY 5 E8))) (Ev (.xa (EN 39) (CW Hv)) (Fv (Dh 22 Fj) (Fn Gj DV) (.bA (Di Fj Hu) (DY (Dg Fm (EN 23))) Dk))))))))⟩
def zh:MF:=⟨1,bF ["script","d","tab","mode","rel","things","keys","lap","k","t","sure"],13,[],Dc 1 (Fw D3 (EE Eg 11 (.oi CV .m (CU 63)))) 2 (.oj 1 .m) (.jn (DG 7 D4 DZ (Dw "E")) (FQ 3 (EA DA DL D8 D8) (GO 88 DL) 4 (.oj 5 (CZ (.oj 6 (CW D4)) De)) (.jn (Dq 87 Df) (.iV Df 23 (GO 88 Fi) (Dc 5 (GO 99 D4) 6 (GO 101 D4) (.jN 7 (E0 DA (Ed (DU EY) Gh)) (Fo (.gH (Db 105 D1 D4 (GI Df De Dv DE))) Dz) (.jN 7 (E0 D8 (Ed (DU EY) FH)) (Fo (.gH (Db 106 D1 D4 (DW Df (Dl 3 2) Dv))) Dz) (Ec 8 (Do D3 D8 (DW DB DL DZ)) (FQ 9 (DD 5) EI 10 (.bA (CX .lt 8 DA) (D5 14 D4 (EE (GN D4 (GB DB Ef)) 12 (.z (.z (GA 5) EI) DB))) (GN D4 (Dg EX E8))) (Fo (E5 (D5 78 (Fr 36) E8) DV) Dz)) (Fv (Da (Fr 41) Dk) (Fr 39) .gJ)))))))))⟩
noncomputable def I6:List MF:=[gS,lX,gC,eH,lY,nG,iG,nK,nJ,iB,iF,kq,nH,rO,uR,rX,ku,pn,nO,ox,rW,eK,iH,jg,lT,rR,fD,qk,nL,uS,iI,jj,jf,lW,ql,eL,lg,kA,nR,lV,rV,gB,jy,lP,rQ,gQ,lS,lQ,nP,lO,jB,nU,pq,nS,nT,nV,k0,je,zg,nQ,pd,fF,iE,jk,gz,fi,iC,fE,gy,gA,j5,nI,kx,rP,nE,lR,gR,j8,iD,jx,gP,fh,nF,fJ,fH,fG,eG,eo,jz,pg,tI,oy,rS,ph,pj,nM,ki,rU,jA,j9,rT,nN,wM,kh,jh,ji,lU,zh]
structure Cx where
 sc:Scope
 nm:List (Str×Nat)
def Cx.dP (c:Cx)(x:Str):Bool:=(c.nm.lookup x).isNone&&c.sc.names.lookup x==some .globalImplicit
def Cx.hW (c:Cx)(s:Scope)(y:Str)(k:Nat):Cx:=⟨s,(y,k)::c.nm.filter fun p=>s.names.lookup p.1==some .free&&p.1 !=y⟩
def m8:List Str→Bool
 |[] =>true
 |a::r=> !r.contains a&&m8 r
def bS (c:Cx)(s:Scope):Bool:=m8 (s.names.map (·.1))&&s.names.all fun p=>p.2 !=.free||((c.nm.lookup p.1).isSome&&(c.sc.names.lookup p.1==some .cell||c.sc.names.lookup p.1==some .free))
def sj:tX→Operator→Bool
 | .fZ,.Add=>true| .z,.Sub=>true| .Mc,.Mult=>true| .vt,.Mod=>true| .kM,.FloorDiv=>true| .qS,.BitAnd=>true| .Me,.BitOr=>true
 |_,_=>false
def zm:J6→CmpOp→Bool
 | .eq,.Eq=>true| .ne,.NotEq=>true| .lt,.Lt=>true| .le,.LtE=>true| .gt,.Gt=>true| .ge,.GtE=>true| .Ke,.Is=>true| .sL,.IsNot=>true| .jm,.In=>true| .ub,.NotIn=>true
 |_,_=>false
def zE:xc→Str
 | .U=>m "len"| .i0=>m "tuple"| .dO=>m "sorted"| .F=>m "str"| .uh=>m "any"| .A7=>m "all"| .gV=>m "isinstance"
def Jk (v:V):Const→Bool
 | .none=>v==.aE
 | .bool b=>v==.D b
 | .int i=>v==.j i
 | .str s=>v==.F s
 |_=>false
def qd:Expr→Bool
 | .Slice .. =>true
 |_=>false
def jr:Expr→Bool
 | .Starred .. =>false
 |_=>true
def gN:Expr→Bool
 | .Call (.Name _ _) [] [] _=>false
 |_=>true
def M3 (x:Str):Option V:=y4.lookup x
def bK (a:Nat):Str:=pE.getD a (m "?")
mutual
def ar:MX→Cx→Expr→Bool
 | .ia,_,_=>true
 | .k v,c,e=>match e with
  | .Constant k _ _=>Jk v k
  | .Name x _=>c.dP x&&M3 x==some v&&(v !=.aE)
  | .UnaryOp .USub (.Constant (.int k) _ _) _=>v==.j (-k)
  |_=>false
 | .h i,c,e=>match e with
  | .Name x _=>c.nm.lookup x==some i&&x !=m "__debug__"
  |_=>false
 | .B l,c,e=>match e with
  | .Tuple es _ _=>decide (es.length≤1000)&&cV l c es
  |_=>false
 | .dm l,c,e=>match e with
  | .List es _=>decide (es.length≤1000)&&cV l c es
  |_=>false
 | .gJ,_,e=>match e with
  | .Dict [] [] _=>true
  |_=>false
 | .hY o a b,c,e=>match e with
  | .BinOp x p y _=>sj o p&&ar a c x&&ar b c y
  |_=>false
 | .gH a,c,e=>match e with
  | .UnaryOp .Not x _=>ar a c x
  |_=>false
 | .Ka a,c,e=>match e with
  | .UnaryOp .USub x _=>ar a c x
  |_=>false
 | .bH o a b,c,e=>match e with
  | .Compare x [p] [y] _=>zm o p&&ar a c x&&ar b c y
  |_=>false
 | .oD a b d,c,e=>match e with
  | .Compare x [.LtE,.LtE] [y,z] _=>ar a c x&&ar b c y&&ar d c z
  |_=>false
 | .dy l,c,e=>match e with
  | .BoolOp .And es _=>cV l c es
  |_=>false
 | .pK l,c,e=>match e with
  | .BoolOp .Or es _=>cV l c es
  |_=>false
 | .bA t a b,c,e=>match e with
  | .IfExp t' x y _=>ar t c t'&&ar a c x&&ar b c y
  |_=>false
 | .bB a n,c,e=>match e with
  | .Attribute x n' _=>bK n==n'&&gN x&&ar a c x
  |_=>false
 | .z a i,c,e=>match e with
  | .Subscript x y _=> !qd y&&ar a c x&&ar i c y
  |_=>false
 | .oi a lo hi,c,e=>match e with
  | .Subscript x (.Slice l u none _) _=>ar a c x&&(match l with|none=>lo.cE|some l=> !lo.cE&&ar lo c l)&&(match u with|none=>hi.cE|some u=> !hi.cE&&ar hi c u)
  |_=>false
 | .w f l,c,e=>match e with
  | .Call (.Name x _) es [] _=>c.dP x&&j3.lookup x==some f&&cV l c es
  |_=>false
 | .oj k l,c,e=>match e with
  | .Call (.Name x _) es [] _=>c.dP x&&iK.lookup x==some k&&cV l c es
  |_=>false
 | .bJ a n l,c,e=>match e with
  | .Call (.Attribute x n' ap) es [] p=>bK n==n'&&gN x&&ap.endLine==p.line&&decide (es.length<20)&&ar a c x&&cV l c es
  |_=>false
 | .oo a b,c,e=>match e with
  | .Call (.Attribute x n' ap) [y] [] p=>n'==m "append"&&gN x&&ap.endLine==p.line&&ar a c x&&ar b c y&&jr y
  |_=>false
 | .bq a b,c,e=>match e with
  | .Call (.Attribute x n' ap) [y] [] p=>n'==m "extend"&&gN x&&ap.endLine==p.line&&ar a c x&&ar b c y
  |_=>false
 | .xa a l,c,e=>match e with
  | .Call (.Attribute x n' ap) es [] p=>n'==m "pop"&&gN x&&ap.endLine==p.line&&decide (es.length<20)&&ar a c x&&cV l c es
  |_=>false
 | .jG a l,c,e=>match e with
  | .Call (.Attribute x n' ap) es [] p=>n'==m "get"&&gN x&&ap.endLine==p.line&&decide (es.length<20)&&ar a c x&&cV l c es
  |_=>false
 | .Kl a b,c,e=>match e with
  | .Call (.Attribute (.Name k _) n' ap) [x,y] [] p=>ap.endLine==p.line&&k==m "KEY_FAMILIES"&&c.dP k&&n'==m "get"&&ar a c x&&ar b c y&&jr x&&jr y
  |_=>false
 | .pO o l,c,e=>match o,e with
  | .gV,.Call (.Name x _) [y,.Name z _] [] _=>c.dP x&&x==m "isinstance"&&c.dP z&&z==m "str"&&cV l c [y]
  |_,.Call (.Name x _) es [] _=>o !=.gV&&c.dP x&&x==zE o&&cV l c es
  |_,_=>false
 | .g7 a k it g,c,e=>match e with
  | .ListComp x [⟨.Name y _,i,ifs,0⟩] s _=>ar it c i&&(s.names.lookup y==some .local||s.names.lookup y==some .cell)&&s.kind==.function&&bS c s&&y !=m ".0"&& !(c.nm.any fun p=>p.2==k)&&ar a (c.hW s y k) x&&(match ifs with
   |[] =>(match g with| .k (.D true)=>true|_=>false)
   |[f] =>ar g (c.hW s y k) f
   |_=>false)
  |_=>false
 | .hX a k it g,c,e=>match e with
  | .ListComp x [⟨.Name y _,.Call (.Name r _) [i] [] _,ifs,0⟩] s _=>c.dP r&&r==m "range"&&ar it c i&&(s.names.lookup y==some .local||s.names.lookup y==some .cell)&&s.kind==.function&&bS c s&&y !=m ".0"&& !(c.nm.any fun p=>p.2==k)&&ar a (c.hW s y k) x&&(match ifs with
   |[] =>(match g with| .k (.D true)=>true|_=>false)
   |[f] =>ar g (c.hW s y k) f
   |_=>false)
  |_=>false
 | .m,_,_=>false
 | .cons _ _,_,_=>false
def cV:MX→Cx→List Expr→Bool
 | .m,_,es=>es.isEmpty
 | .cons a b,c,es=>match es with
  |e::r=>jr e&&ar a c e&&cV b c r
  |[] =>false
 |_,_,_=>false
end
def gO (c:Cx)(k:Nat)(x:Str):Bool:=c.nm.lookup x==some k
def fc (c:Cx):List Nat→List Expr→Bool
 |[],[] =>true
 |k::r,.Name x _::q=>gO c k x&&fc c r q
 |_,_=>false
def kQ:List Nat→Bool
 |[] =>true
 |a::r=> !(r.contains a)&&kQ r
def sY:Expr→Bool
 | .Tuple vs _ _=>vs.all (foldedForSure 8)|| !(vs.all (constantsAlone 8))
 |_=>true
def cI:MS→Cx→List Stmt→Bool
 | .ia,_,_=>true
 | .V,_,ss=>ss.isEmpty
 | .H x e k,c,ss=>match ss with
  | .Assign [.Name y _] v _::r=>gO c x y&&ar e c v&&cI k c r
  |_=>false
 | .g8 xs e k,c,ss=>match ss with
  | .Assign [.Tuple es _ _] v _::r=>kQ xs&&sY v&&fc c xs es&&ar e c v&&cI k c r
  |_=>false
 | .iV o a e k,c,ss=>match ss with
  | .Assign [.Attribute y n _] v _::r=>bK a==n&&ar o c y&&ar e c v&&cI k c r
  |_=>false
 | .g9 o i e k,c,ss=>match ss with
  | .Assign [.Subscript y z _] v _::r=> !qd z&&ar o c y&&ar i c z&&ar e c v&&cI k c r
  |_=>false
 | .qT o a op e k,c,ss=>match ss with
  | .AugAssign (.Attribute y n _) p v _::r=>bK a==n&&sj op p&&ar o c y&&ar e c v&&cI k c r
  |_=>false
 | .jn e k,c,ss=>match ss with
  | .Expr v _::r=>ar e c v&&cI k c r
  |_=>false
 | .bA t a b k,c,ss=>match ss with
  | .If t' x y _::r=>ar t c t'&&cI a c x&&cI b c y&&cI k c r
  |_=>false
 | .fq x e b k,c,ss=>match ss with
  | .For (.Name y _) i d [] _::r=>gO c x y&&ar e c i&&cI b c d&&cI k c r
  |_=>false
 | .jN x e b k,c,ss=>match ss with
  | .For (.Name y _) (.Call (.Name z _) [i] [] _) d [] _::r=>c.dP z&&z==m "range"&&gO c x y&&ar e c i&&cI b c d&&cI k c r
  |_=>false
 | .fN t b k,c,ss=>match ss with
  | .While t' d [] _::r=>ar t c t'&&cI b c d&&cI k c r
  |_=>false
 | .bL e,c,ss=>match ss with
  | .Return (some v) _::_=>ar e c v
  |_=>false
 | .gZ,_,ss=>match ss with
  | .Continue _::_=>true
  |_=>false
 | .xi k,c,ss=>match ss with
  | .Pass _::r=>cI k c r
  |_=>false
 | .vz o lo k,c,ss=>match ss with
  | .Delete [.Subscript y (.Slice (some l) none none _) _] _::r=>ar o c y&&ar lo c l&&cI k c r
  |_=>false
 | .qO o i k,c,ss=>match ss with
  | .Delete [.Subscript y z _] _::r=> !qd z&&ar o c y&&ar i c z&&cI k c r
  |_=>false
def Lx (f:MF):Stmt→Bool
 | .FunctionDef _ a b [] none [] sc none _ _=>a.posonlyargs.isEmpty&&a.vararg.isNone&&a.kwonlyargs.isEmpty&&a.kw_defaults.isEmpty&&a.kwarg.isNone&&(a.args.map (·.arg))==(f.names.take f.np).map (·.1)&&a.defaults.length==f.dQ.length&&(a.defaults.zip f.dQ).all (fun p=>match p.1 with| .Constant k _ _=>Jk p.2 k| .UnaryOp .USub (.Constant (.int k) _ _) _=>p.2==.j (-k)|_=>false)&&
  sc.kind==.function&& !sc.isGenerator&& !sc.isCoroutine&&f.names.all (fun p=>sc.names.lookup p.1==some .local||sc.names.lookup p.1==some .cell)&&(f.names.map (·.2))==List.range f.names.length&&decide (f.names.length≤f.size)&&cI f.mL ⟨sc,f.names⟩ b
 |_=>false
end
section
open PySem PySem.W PySem.Calls PyProof.Rows
def Ll:List Addr:=[96,103,165,179,200,222,237,244,251,258,265,272,279,286,291,298,305,312,319,326,345,352,409,416,430,437,444,449,456,463,472,479,486,500,507,514,605,612,640,661,666,680,687,694,706,713,720,725,732,753,760,829,836,843,857,864,885,892,899,913,920,927,934,941,955,962,969,976,983,990,997,1004,1011,1018,1032,1053,1060,1065,1072,1079,1086,1093,1098,1112,1119,1138,1150,1157,1164,1171,1178,1185,1192,1197,1204,1209,1216,1223,1230,1237,1244,1251,1258,1263,1270,1275,1282,1287]
def Jq:List Addr:=[120,182,203,629,811,874,1122,1141]
def fa (f:Nat):Addr:=Ll.getD f 0
def ca (c:Nat):Addr:=Jq.getD c 0
structure KR (w:World) (h:Heap) (k:V) (e:DictEntry):Prop where
 bG:V.e 4 k=true
 A5:e.hash=xb w 4 k
 key:VR {} h [] k e.key
inductive DR (N:Heap) (w:World) (h:Heap) (R:aJ):List (V×V)→List DictEntry→Prop
 |m:DR N w h R [] []
 |cons {k v:V} {e:DictEntry} {es:List (V×V)} {cs:List DictEntry} :KR w h k e→VR N h R v e.val→DR N w h R es cs→DR N w h R ((k,v)::es) (e::cs)
inductive FR (N:Heap) (w:World) (h:Heap) (R:aJ):List (Nat×V)→List DictEntry→Prop
 |m:FR N w h R [] []
 |cons {a:Nat} {v:V} {e:DictEntry} {t:Tok} {fs:List (Nat×V)} {cs:List DictEntry} :a<54→e.key=.str (bK a) t→e.hash=hashStr w (bK a)→VR N h R v e.val→FR N w h R fs cs→FR N w h R ((a,v)::fs) (e::cs)
abbrev ir (items:Array Value)(ep:Nat):Obj:= {cls:=.type "list",data:=.seq items ep}
theorem bU {h:Heap}{a:Addr}{items:Array Value}{ep:Nat}(e:h.get? a=some (ir items ep)):h.IsList a items:=⟨_,e,rfl,ep,rfl⟩
inductive OR (N:Heap) (w:World) (h:Heap) (R:aJ):ag→Addr×Addr→Prop
 |f {l:List V} {a:Addr} {items:Array Value} {ep:Nat} :h.get? a=some (ir items ep)→b8 N h R l items.toList→l.length≤2^21→OR N w h R (.f l) (a,a)
 |i {es:List (V×V)} {a:Addr} {ents:List DictEntry} {ep:Nat} :h.get? a=some (dictOf ents ep)→DR N w h R es ents→(es.map (·.1)).Nodup→es.length≤2^21→OR N w h R (.i es) (a,a)
 |J {c:Nat} {fs:List (Nat×V)} {x d:Addr} {ents:List DictEntry} {ep:Nat} :h.get? x=some (instObj (ca c) d)→h.get? d=some (dictOf ents ep)→FR N w h R fs ents→OR N w h R (.J c fs) (x,d)
 |kH {a:Addr} :h.get? a=some (dictOf [] 0)→OR N w h R .kH (a,a)
theorem KR.P {w:World}{h h':Heap}(k:∀a items,IsTup h a items→IsTup h' a items){v:V}{e:DictEntry}(x:KR w h v e):KR w h' v e:=⟨x.bG,x.A5,x.key.P k (fun _ _ z=>absurd z uD) (by simp)⟩
theorem DR.P {N:Heap}{w:World}{h h':Heap}{R R':aJ}(k:∀a items,IsTup h a items→IsTup h' a items)(kf:∀a items,N.IsList a items→h.IsList a items→h'.IsList a items)(kr:∀(n:Nat) (p:Addr×Addr),R[n]?=some p→R'[n]?=some p){es:List (V×V)}{cs:List DictEntry}(x:DR N w h R es cs):DR N w h' R' es cs:=by
 induction x with
 |m=>exact .m
 |cons a b _ ih=>exact .cons (a.P k) (b.P k kf kr) ih
theorem FR.P {N:Heap}{w:World}{h h':Heap}{R R':aJ}(k:∀a items,IsTup h a items→IsTup h' a items)(kf:∀a items,N.IsList a items→h.IsList a items→h'.IsList a items)(kr:∀(n:Nat) (p:Addr×Addr),R[n]?=some p→R'[n]?=some p){es:List (Nat×V)}{cs:List DictEntry}(x:FR N w h R es cs):FR N w h' R' es cs:=by
 induction x with
 |m=>exact .m
 |cons z a b c _ ih=>exact .cons z a b (c.P k kf kr) ih
theorem OR.P {N:Heap}{w:World}{h h':Heap}{R R':aJ}(k:∀a items,IsTup h a items→IsTup h' a items)(kf:∀a items,N.IsList a items→h.IsList a items→h'.IsList a items)(kr:∀(n:Nat) (p:Addr×Addr),R[n]?=some p→R'[n]?=some p){o:ag}{p:Addr×Addr}
 (k1:∀o,h.get? p.1=some o→h'.get? p.1=some o) (k2:∀o,h.get? p.2=some o→h'.get? p.2=some o) (x:OR N w h R o p):OR N w h' R' o p:=by
 cases x with
 |f a b z=>exact .f (k1 _ a) (b.P k kf kr) z
 |i a b z y=>exact .i (k1 _ a) (b.P k kf kr) z y
 |J a b c=>exact .J (k1 _ a) (k2 _ b) (c.P k kf kr)
 |kH a=>exact .kH (k1 _ a)
theorem OR.w9 {N:Heap}{w:World}{h:Heap}{R:aJ}{o:ag}{p:Addr×Addr}(x:OR N w h R o p):∃ob,h.get? p.2=some ob∧(ob.cls=.type "list"∨ob.cls=.type "dict"):=by
 cases x with
 |f a b _=>grind
 |i a b _ _=>grind
 |J a b c=>grind
 |kH a=>grind
structure St (w:World) (s0:Shared) (R:aJ) (H:AH) (s:Shared):Prop where
 U:R.length=H.length
 objs:∀(i:Nat) (o:ag) (p:Addr×Addr),H[i]?=some o→R[i]?=some p→OR s0.heap w s.heap R o p
 W:(R.map (·.2)).Nodup
 bD:∀p∈R,s0.heap.get? p.2=none
 N:∀b o,s0.heap.get? b=some o→s.heap.get? b=some o
 gens:s.gens= #[]
 os:s.os=s0.os
structure cj (Z:Addr→Prop) (R R':aJ) (s s':Shared):Prop where
 N:∀b o,s.heap.get? b=some o→(∀p∈R,p.2≠b)→¬Z b→s'.heap.get? b=some o
 A0:∃R1,R'=R++R1∧∀p∈R1,s.heap.get? p.2=none
 kL:∀b o,s.heap.get? b=some o→∃o',s'.heap.get? b=some o'
abbrev hF:Addr→Prop:=fun _=>False
theorem cj.aD {Z:Addr→Prop}{R:aJ}{s:Shared} :cj Z R R s s:=⟨by simp_all,by simp,by simp_all⟩
theorem cj.jG {Z:Addr→Prop}{R R':aJ}{s s':Shared}(x:cj Z R R' s s'){n:Nat}{p:Addr×Addr}(e:R[n]?=some p):R'[n]?=some p:=by obtain⟨R1,rfl,_⟩:=x.A0;grind
theorem cj.trans {Z:Addr→Prop}{R R' R'':aJ}{s s' s'':Shared}(x:cj Z R R' s s')(y:cj Z R' R'' s' s''):cj Z R R'' s s'':=by
 obtain⟨R1,rfl,h1⟩:=x.A0;obtain⟨R2,rfl,h2⟩:=y.A0;refine⟨fun b o e hb hz=>y.N b o (x.N b o e hb hz) (fun p hp=>by grind) hz,⟨R1++R2,by simp,fun p hp=>?_⟩,fun b o e=>let⟨o',e'⟩:=x.kL b o e;y.kL b o' e'⟩
 ·rcases List.mem_append.mp hp with hp|hp
  ·simp [*]
  ·cases e:s.heap.get? p.2 with
   |none=>rfl
   |some o=>obtain⟨o',e'⟩:=x.kL _ o e;grind
theorem cj.xd {Z Z':Addr→Prop}{R R':aJ}{s s':Shared}(x:cj Z R R' s s')(h:∀b,Z b→Z' b):cj Z' R R' s s':=⟨fun b o e hb hz=>x.N b o e hb fun q=>hz (h b q),x.A0,x.kL⟩
theorem St.at {w:World}{s0:Shared}{R:aJ}{H:AH}{s:Shared}(S:St w s0 R H s){p:Addr×Addr}(hp:p∈R):∃(i:Nat) (o:ag),H[i]?=some o∧R[i]?=some p∧OR s0.heap w s.heap R o p:=by obtain⟨i,hi,rfl⟩:=List.mem_iff_getElem.mp hp;have hl:=S.U▸hi;exact⟨i,H[i],by simp,by simp,S.objs i _ _ (by simp) (by simp)⟩
theorem St.J9 {w:World}{s0:Shared}{R:aJ}{H:AH}{s:Shared}(S:St w s0 R H s){a:Addr}{o:Obj}(e:s.heap.get? a=some o)(h1:o.cls≠.type "list")(h2:o.cls≠.type "dict"):∀p∈R,p.2≠a:=by rintro p hp rfl;obtain⟨i,_,_,_,x⟩:=S.at hp;obtain⟨ob,e',c⟩:=x.w9;grind
def JE (N:Heap)(Z:Addr→Prop)(h:Heap):Prop:=∀a,Z a→N.get? a=none∧∀o,h.get? a=some o→∀xs k,o.data≠.seq xs k
theorem aU (N:Heap)(h:Heap):JE N hF h:=fun _ z=>z.elim
theorem cj.B {Z:Addr→Prop}{w:World}{s0:Shared}{R R':aJ}{H:AH}{s s':Shared}(x:cj Z R R' s s')(S:St w s0 R H s)(z:JE s0.heap Z s.heap){a:Addr}{items:Array Value}(t:IsTup s.heap a items):IsTup s'.heap a items:=by obtain⟨o,e,c,k,r⟩:=t;exact⟨o,x.N a o e (S.J9 e (by simp_all) (by simp_all)) fun q=>(z a q).2 o e _ _ r,c,k,r⟩
theorem cj.jM {Z:Addr→Prop}{w:World}{s0:Shared}{R R':aJ}{H:AH}{s s':Shared}(x:cj Z R R' s s')(S:St w s0 R H s)(z:JE s0.heap Z s.heap){a:Addr}{items:Array Value}(ha:s0.heap.IsList a items)(t:s.heap.IsList a items):s'.heap.IsList a items:=by obtain⟨o,e,c,r⟩:=t;obtain⟨o',e',_⟩:=ha;exact⟨o,x.N a o e fun p hp q=>by have:=S.bD p hp;grind fun q=>by have:=(z a q).1;grind,c,r⟩
theorem VR.bq {Z:Addr→Prop}{w:World}{s0:Shared}{R R':aJ}{H:AH}{s s':Shared}{v:V}{c:Value}(h:VR s0.heap s.heap R v c)(x:cj Z R R' s s')(S:St w s0 R H s)(z:JE s0.heap Z s.heap):VR s0.heap s'.heap R' v c:=
 h.P (fun _ _ t=>x.B S z t) (fun _ _ ha t=>x.jM S z ha t) fun _ _ e=>x.jG e
theorem b8.bq {Z:Addr→Prop}{w:World}{s0:Shared}{R R':aJ}{H:AH}{s s':Shared}{v:List V}{c:List Value}(h:b8 s0.heap s.heap R v c)(x:cj Z R R' s s')(S:St w s0 R H s)(z:JE s0.heap Z s.heap):b8 s0.heap s'.heap R' v c:=
 h.P (fun _ _ t=>x.B S z t) (fun _ _ ha t=>x.jM S z ha t) fun _ _ e=>x.jG e
abbrev cX:Value→Shared→Prop:=fun _ _=>False
structure dT (n:Nat) (A:Around):Prop where
 t:A.handled=none
 oC:A.depth+3*n≤980
 oA:A.units+40*n≤9700
structure kG (n:Nat) (A:Around):Prop where
 t:A.handled=none
 oC:A.depth+3*n≤981
 oA:A.units+40*n≤9710
theorem dT.c {n:Nat}{A:Around}(r:dT n A):kG n A:=⟨r.t,by have:=r.oC;omega,by have:=r.oA;omega⟩
section
variable (w:World)(s0:Shared)
abbrev N0:Heap:=s0.heap
def cG (R:aJ)(s:Shared)(Q:V→AH→Prop):Value→Shared→Prop:=fun c s'=>∃R' v H',Q v H'∧cj hF R R' s s'∧St w s0 R' H' s'∧VR (N0 s0) s'.heap R' v c
def OY (R:aJ)(s:Shared)(Q:List V→AH→Prop):List Value→Shared→Prop:=fun c s'=>∃R' v H',Q v H'∧cj hF R R' s s'∧St w s0 R' H' s'∧b8 (N0 s0) s'.heap R' v c
def od (R:aJ)(s:Shared)(Q:Bool→AH→Prop):Bool→Shared→Prop:=fun b s'=>∃R' H',Q b H'∧cj hF R R' s s'∧St w s0 R' H' s'
def oh (n:Nat)(f:Nat)(args:List V)(H:AH)(Q:V→AH→Prop):Prop:=
 ∀(A:Around) (R:aJ) (s:Shared) (cs:List Value),St w s0 R H s→b8 (N0 s0) s.heap R args cs→kG n A→codeAny (model pw w) A (.call (.ref (fa f)) ⟨cs,[]⟩) (fun r s'=>∃c,r=.ok (.ret c)∧cG w s0 R s Q c s') s
def lu (n:Nat):z4:=⟨oh w s0 n,fun c=>dW.lookup c,fun c a=>(jT.find? fun e=>e.1==c&&e.2.1==a).map (·.2.2)⟩
structure ER (cx:Cx) (env:Env) (vals:En) (R:aJ) (h:Heap):Prop where
 aS:env.scope.kind=.function
 dP:∀x,cx.dP x=true→env.kindOf x=some .globalImplicit
 gl:env.globals=mainGlobals
 bl:env.builtins=builtinsNs
 inj:∀x y i,cx.nm.lookup x=some i→cx.nm.lookup y=some i→x=y
 eN:∀x i,cx.nm.lookup x=some i→env.kindOf x=some .local∨(env.kindOf x=some .cell∧∃a,env.cells.lookup x=some a∧∃c,h.IsCell a c∧∀v,vals[i]?=some (some v)→∃cv,c=some cv∧VR (N0 s0) h R v cv)
 ns:∃m,h.Ns env.locals m∧∀x i v,cx.nm.lookup x=some i→env.kindOf x=some .local→vals[i]?=some (some v)→∃cv,m x=some cv∧VR (N0 s0) h R v cv
 cF:∀p∈R,p.2≠env.locals
 lE:s0.heap.get? env.locals=none
 fQ:∀x a,env.cells.lookup x=some a→s0.heap.get? a=none∧∃c,h.IsCell a c
 qP:∀x y a,env.cells.lookup x=some a→env.cells.lookup y=some a→x=y
 sc:∀x,cx.sc.names.lookup x=some .cell∨cx.sc.names.lookup x=some .free→env.kindOf x=some .cell
end
variable {w:World}{s0:Shared}
theorem cG.cB {R R1:aJ}{s s1:Shared}{Q:V→AH→Prop}{c:Value}{s':Shared}(x:cj hF R R1 s s1):cG w s0 R1 s1 Q c s'→cG w s0 R s Q c s':=
 fun⟨R',v,H',q,e,S,h⟩=>⟨R',v,H',q,x.trans e,S,h⟩
theorem od.cB {R R1:aJ}{s s1:Shared}{Q:Bool→AH→Prop}{c:Bool}{s':Shared}(x:cj hF R R1 s s1):od w s0 R1 s1 Q c s'→od w s0 R s Q c s':=
 fun⟨R',H',q,e,S⟩=>⟨R',H',q,x.trans e,S⟩
theorem OR.om {N:Heap}{h:Heap}{R:aJ}{o:ag}{p:Addr×Addr}(x:OR N w h R o p):∃ob,h.get? p.2=some ob∧∀c,ob.data≠.cell c:=by
 cases x with
 |f a b _=>grind
 |i a b _ _=>grind
 |J a b c=>grind
 |kH a=>grind
theorem St.t9 {R:aJ}{H:AH}{s:Shared}(S:St w s0 R H s){a:Addr}{c:Option Value}(x:s.heap.IsCell a c):∀p∈R,p.2≠a:=by rintro p hp rfl;obtain⟨i,_,_,_,y⟩:=S.at hp;obtain⟨ob,e,n⟩:=y.om;obtain⟨o,e',d⟩:=x;grind
theorem cj.eN {R R':aJ}{H:AH}{s s':Shared}(x:cj hF R R' s s')(S:St w s0 R H s){a:Addr}{c:Option Value}(y:s.heap.IsCell a c):s'.heap.IsCell a c:=by have q:=S.t9 y;obtain⟨o,e,d⟩:=y;exact⟨o,x.N a o e q id,d⟩
theorem ER.bq {cx:Cx}{env:Env}{vals:En}{R R':aJ}{H:AH}{s s':Shared}(F:ER s0 cx env vals R s.heap)(x:cj hF R R' s s')(S:St w s0 R H s):ER s0 cx env vals R' s'.heap:=by
 have z:=aU (N0 s0) s.heap;refine⟨F.aS,F.dP,F.gl,F.bl,F.inj,fun y i e=>?_,by obtain⟨m,⟨o,es,ep,g,r⟩,hm⟩:=F.ns;exact⟨m,⟨o,es,ep,x.N _ o g F.cF id,r⟩,fun y i v a b c=>let⟨cv,e1,e2⟩:=hm y i v a b c;⟨cv,e1,e2.bq x S z⟩⟩,?_,F.lE,fun x1 a e=>let⟨q,c,hc⟩:=F.fQ x1 a e;⟨q,c,x.eN S hc⟩,F.qP,F.sc⟩
 ·rcases F.eN y i e with q|⟨q,a,h1,c,h2,h3⟩
  ·simp_all
  ·exact .inr ⟨q,a,h1,c,x.eN S h2,fun v hv=>let⟨cv,e1,e2⟩:=h3 v hv;⟨cv,e1,e2.bq x S z⟩⟩
 ·obtain⟨R1,rfl,h1⟩:=x.A0;obtain⟨m,⟨o,es,ep,g,r⟩,_⟩:=F.ns;intro p hp;rcases List.mem_append.mp hp with hp|hp
  ·exact F.cF p hp
  grind
theorem St.toks {R:aJ}{H:AH}{s:Shared}(S:St w s0 R H s)(t:Nat):St w s0 R H {s with toks:=t} :=⟨S.U,S.objs,S.W,S.bD,S.N,S.gens,S.os⟩
theorem cj.toks {Z:Addr→Prop}{R:aJ}{s:Shared}(t:Nat):cj Z R R s {s with toks:=t} :=⟨by simp_all,by simp,by simp_all⟩
theorem cG.mq {R:aJ}{H:AH}{s:Shared}{Q:V→AH→Prop}{v:V}{c:Value}(S:St w s0 R H s)(h:VR (N0 s0) s.heap R v c)(q:Q v H):cG w s0 R s Q c s:=⟨R,v,H,q,.aD,S,h⟩
theorem cG.jJ {R:aJ}{H:AH}{s:Shared}{Q:V→AH→Prop}{v:V}{c:Value}(t:Nat)(S:St w s0 R H s)(h:VR (N0 s0) s.heap R v c)(q:Q v H):cG w s0 R s Q c {s with toks:=t} :=⟨R,v,H,q,.toks t,S.toks t,h⟩
section
variable {A:Around}{cx:Cx}{env:Env}{vals:En}{R:aJ}{H:AH}{s:Shared}{Q:V→AH→Prop}
theorem zo {v:V}{k:Const}{n:Nat}{pos:Pos}(e:Jk v k=true)(S:St w s0 R H s)(q:Q v H):wpAny (model pw w) A (eval (.Constant k n pos) env) (cG w s0 R s Q) cX s:=by
 cases k<;>simp [Jk,beq_iff_eq] at e
 ·subst e;exact wpAny_Constant_none (.mq S .aE q)
 ·subst e;exact wpAny_Constant_bool (.mq S (.D _) q)
 ·subst e;exact wpAny_Constant_int (.jJ _ S (.j _ _) q)
 ·subst e;exact wpAny_Constant_str (.jJ _ S (.F _ _) q)
theorem KV {x:Str}{pos:Pos}{i:Nat}{v:V}(F:ER s0 cx env vals R s.heap)(S:St w s0 R H s)(hx:cx.nm.lookup x=some i)(hd:(x==("__debug__":Str))=false)(hv:vals[i]?=some (some v))(q:Q v H):
 wpAny (model pw w) A (eval (.Name x pos) env) (cG w s0 R s Q) cX s:=by
 rcases F.eN x i hx with l|⟨l,a,h1,c,h2,h3⟩
 ·obtain⟨m,hn,hm⟩:=F.ns;obtain⟨cv,e1,e2⟩:=hm x i v hx l hv;exact wpAny_Name (wpAny_loadName_local F.aS l hn e1 (.mq S e2 q)) hd
 ·obtain⟨cv,rfl,e2⟩:=h3 v hv;exact wpAny_Name (wpAny_loadName_cell F.aS l h1 h2 (.mq S e2 q)) hd
end
end
section
open PySem PySem.W PySem.Calls PyProof.Rows
set_option maxRecDepth 1000000
set_option maxHeartbeats 0
noncomputable def FA:List Addr:=[0,1,2,3,120,182,203,629,811,874,1122,1141,119,181,202,628,810,873,1121,1140,96,103,165,179,200,222,237,244,251,258,265,272,279,286,291,298,305,312,319,326,345,352,409,416,430,437,444,449,456,463,472,479,486,500,507,514,605,612,640,661,666,680,687,694,706,713,720,725,732,753,760,829,836,843,857,864,885,892,899,913,920,927,934,941,955,962,969,976,983,990,997,1004,1011,1018,1032,1053,1060,1065,1072,1079,1086,1093,1098,1112,1119,1138,1150,1157,1164,1171,1178,1185,1192,1197,1204,1209,1216,1223,1230,1237,1244,1251,1258,1263,1270,1275,1282,1287,147,125,126,127,128,129,130,131,132,133,134,135,141,136,137,138,139,140,143,142,144,145,146,148,149,150,464,465,761,762,763,764,766,151,95,102,164,178,199,221,215,236,230,243,250,257,264,271,278,285,290,297,304,311,318,325,344,351,408,415,429,436,443,448,455,462,471,478,485,499,506,513,604,611,639,660,665,679,686,693,705,712,719,724,731,752,759,828,835,842,856,863,884,891,898,912,919,926,933,940,954,961,968,975,982,989,996,1003,1010,1017,1031,1052,1059,1064,1071,1078,1085,1092,1097,1111,1118,1137,1149,1156,1163,1170,1177,1184,1191,1196,1203,1208,1215,1222,1229,1236,1243,1250,1257,1262,1269,1274,1281,1286]
noncomputable def FO (P:Params):List Obj:=FA.map fun a=>((mr P).get a).getD default
theorem M5 (w:World):FA.map (H1 w.params).get?=(FO w.params).map some:=by kernel_rfl
def Kf (w:World):Frag:=FA.zip (FO w.params)
theorem zW (w:World):FA=(Kf w).map (·.1):=by kernel_rfl
theorem L2 (w:World):(FO w.params).map some=(Kf w).map (fun p=>some p.2):=by kernel_rfl
theorem OZ (w:World):(Kf w).In (H1 w.params):=Frag.in_of (zW w) ((M5 w).trans (L2 w))
def J0 (K:Frag)(c:Nat):Bool:=makesIn K (ca c)&&plainOver K (ca c)&&(clsIn K (ca c)).any (·.hasDict)&&
 findIn K (.ref (ca c)) "__getattribute__"==some (some (.builtin "object.__getattribute__"))&&findIn K (.ref (ca c)) "__getattr__"==some none&&findIn K (.ref (ca c)) "__setattr__"==some (some (.builtin "object.__setattr__"))
theorem Jo (w:World):((List.range 8).all fun c=>J0 (Kf w) c)=true:=by kernel_rfl
def zb (K:Frag)(c:Nat):Bool:=(List.range 54).all fun a=> !dF a||findIn K (.ref (ca c)) (bK a)==some none
theorem wI (w:World):((List.range 8).all fun c=>zb (Kf w) c)=true:=by kernel_rfl
theorem yp (w:World):(jT.all fun e=>findIn (Kf w) (.ref (ca e.1)) (bK e.2.1)==some (some (.ref (fa e.2.2))))=true:=by kernel_rfl
theorem yT (w:World):((List.range 8).all fun c=>findIn (Kf w) (.ref (ca c)) "__init__"==some (some (match dW.lookup c with|some f=>.ref (fa f)|none=>.builtin "object.__init__")))=true:=by kernel_rfl
theorem y8 (w:World):(Ll.all fun a=>typeIn (Kf w) (.ref a)==some (.type "function"))=true:=by kernel_rfl
theorem tR:pE.Nodup:=by decide+kernel
end
section
open PySem PySem.W PySem.Calls PyProof.Rows
variable {w:World}{s0:Shared}
theorem cn (h:Heap):h.get? h.objs.size=none:=by
 cases e:h.get? _ with
 |none=>rfl
 |some o=>exact absurd (Heap.lt_size e) (by simp)
theorem d9 {h:Heap}{a:Addr}{items:Array Value}(x:h.IsList a items)(o:Obj):(h.push o).IsList a items:=let⟨o',ho,r⟩:=x;⟨o',Heap.get?_push_of_some o ho,r⟩
theorem OR.Y {N:Heap}{h:Heap}{R R':aJ}{ao:ag}{p:Addr×Addr}(x:OR N w h R ao p)(o:Obj)(kr:∀(n:Nat) (p:Addr×Addr),R[n]?=some p→R'[n]?=some p):OR N w (h.push o) R' ao p:=
 x.P (fun _ _ t=>t.push o) (fun _ _ _ t=>d9 t o) kr (fun _ e=>Heap.get?_push_of_some o e) fun _ e=>Heap.get?_push_of_some o e
theorem b8.Y {N:Heap}{h:Heap}{R:aJ}{l:List V}{cs:List Value}(x:b8 N h R l cs)(o:Obj):b8 N (h.push o) R l cs:=
 x.P (fun _ _ t=>t.push o) (fun _ _ _ t=>d9 t o) (by simp)
theorem VR.Y {N:Heap}{h:Heap}{R:aJ}{l:V}{cs:Value}(x:VR N h R l cs)(o:Obj):VR N (h.push o) R l cs:=
 x.P (fun _ _ t=>t.push o) (fun _ _ _ t=>d9 t o) (by simp)
theorem St.Y {R:aJ}{H:AH}{s:Shared}(S:St w s0 R H s)(o:Obj):St w s0 R H {s with heap:=s.heap.push o} :=
 ⟨S.U,fun i ao p e e'=>(S.objs i ao p e e').Y o (by simp),S.W,S.bD,fun b ob e=>Heap.get?_push_of_some o (S.N b ob e),S.gens,S.os⟩
theorem cj.Y {Z:Addr→Prop}{R:aJ}{s:Shared}(o:Obj):cj Z R R s {s with heap:=s.heap.push o} :=
 ⟨fun _ _ e _ _=>Heap.get?_push_of_some o e,by simp,fun _ ob e=>⟨ob,Heap.get?_push_of_some o e⟩⟩
theorem kE {R:aJ}(q:Addr×Addr)(n:Nat)(p:Addr×Addr)(e:R[n]?=some p):(R++[q])[n]?=some p:=by grind
theorem St.lt {R:aJ}{H:AH}{s:Shared}(S:St w s0 R H s){p:Addr×Addr}(hp:p∈R):p.2<s.heap.objs.size:=by obtain⟨_,_,_,_,x⟩:=S.at hp;obtain⟨_,e,_⟩:=x.w9;exact Heap.lt_size e
theorem St.oj {R:aJ}{H:AH}{s:Shared}(S:St w s0 R H s)(o:Obj){ao:ag}(x:OR (N0 s0) w (s.heap.push o) (R++[(s.heap.objs.size,s.heap.objs.size)]) ao (s.heap.objs.size,s.heap.objs.size)):
 St w s0 (R++[(s.heap.objs.size,s.heap.objs.size)]) (H++[ao]) {s with heap:=s.heap.push o} :=by
 have P:=S.Y o
 refine⟨by simp [S.U],fun i bo p e e'=>?_,by rw [List.map_append,List.nodup_append];refine⟨S.W,by simp,fun a ha b hb q=>?_⟩;obtain⟨p,hp,rfl⟩:=List.mem_map.mp ha;have:=S.lt hp;grind,fun p hp=>?_,P.N,P.gens,P.os⟩
 ·by_cases hi:i<H.length
  ·rw [List.getElem?_append_left hi] at e;rw [List.getElem?_append_left (S.U▸hi)] at e';exact(S.objs i bo p e e').Y o (kE _)
  ·have h1:=(List.getElem?_eq_some_iff.mp e).1;have:i=H.length:=by simp at h1;omega
   subst this;rw [←S.U] at e';grind
 ·rcases List.mem_append.mp hp with hp|hp
  ·exact S.bD p hp
  ·simp at hp;subst hp;cases e:s0.heap.get? _ with
   |none=>rfl
   |some o=>exact absurd (Heap.lt_size (S.N _ _ e)) (by simp)
theorem cj.oj {Z:Addr→Prop}{R:aJ}{s:Shared}(o:Obj)(q:Addr):cj Z R (R++[(q,s.heap.objs.size)]) s {s with heap:=s.heap.push o} :=
 ⟨fun _ _ e _ _=>Heap.get?_push_of_some o e,⟨_,rfl,by simp [cn]⟩,fun _ ob e=>⟨ob,Heap.get?_push_of_some o e⟩⟩
theorem cG.f {R:aJ}{H:AH}{s:Shared}{Q:V→AH→Prop}{l:List V}{cs:List Value}(S:St w s0 R H s)(h:b8 (N0 s0) s.heap R l cs)(hz:l.length≤2^21)(q:Q (.y H.length) (H++[.f l])):
 cG w s0 R s Q (.ref s.heap.objs.size) {s with heap:=s.heap.push {cls:=.type "list",data:=.seq cs.toArray} } :=by
 refine⟨_,_,_,q,.oj _ _,S.oj _ (.f (Heap.get?_push_size _ rfl) (by simpa using(h.Y _).P (fun _ _ t=>t) (by simp) (kE _)) hz),?_⟩
 ·have:(R++[(s.heap.objs.size,s.heap.objs.size)])[H.length]?=some (s.heap.objs.size,s.heap.objs.size):=by rw [←S.U];simp
  exact .y this
theorem cG.Mw {R:aJ}{H:AH}{s:Shared}{Q:V→AH→Prop}(S:St w s0 R H s)(q:Q (.y H.length) (H++[.i []])):
 cG w s0 R s Q (.ref s.heap.objs.size) {s with heap:=s.heap.push {cls:=.type "dict",data:=.dict #[] } } :=by
 refine⟨_,_,_,q,.oj _ _,S.oj _ (.i (Heap.get?_push_size _ rfl) .m .nil (by simp)),?_⟩
 have:(R++[(s.heap.objs.size,s.heap.objs.size)])[H.length]?=some (s.heap.objs.size,s.heap.objs.size):=by rw [←S.U];simp
 exact .y this
theorem cG.B {R:aJ}{H:AH}{s:Shared}{Q:V→AH→Prop}{l:List V}{cs:List Value}(S:St w s0 R H s)(h:b8 (N0 s0) s.heap R l cs)(q:Q (.B l) H):
 cG w s0 R s Q (.ref s.heap.objs.size) {s with heap:=s.heap.push {cls:=.type "tuple",data:=.seq cs.toArray} } :=
 ⟨R,_,_,q,.Y _,S.Y _,.B ⟨_,Heap.get?_push_size _ rfl,rfl,0,rfl⟩ (by simpa using h.Y _)⟩
theorem tP (a b:Int)(ha:0≤a)(hb:0≤b):Builtin.bitAnd a b=((a.toNat&&&b.toNat:Nat):Int):=by obtain⟨m,rfl⟩:=Int.eq_ofNat_of_zero_le ha;obtain⟨n,rfl⟩:=Int.eq_ofNat_of_zero_le hb;rfl
theorem sm (a:Int)(ha:0≤a):Builtin.bitAnd a (-1)=a:=by obtain⟨m,rfl⟩:=Int.eq_ofNat_of_zero_le ha;show m-((m&&&0:Nat):Int)=m;simp
theorem OJ (x:Int):Builtin.bitNot (Builtin.bitNot x)=x:=by simp [Builtin.bitNot];omega
theorem zB (m:Nat):decide (0≤Builtin.bitNot (m:Int))=false:=by simp [Builtin.bitNot];omega
theorem wW (a b:Int)(ha:0≤a)(hb:0≤b):Builtin.bitOr a b=((a.toNat|||b.toNat:Nat):Int):=by obtain⟨m,rfl⟩:=Int.eq_ofNat_of_zero_le ha;obtain⟨n,rfl⟩:=Int.eq_ofNat_of_zero_le hb;unfold Builtin.bitOr Builtin.bitAnd;rw [zB,zB,OJ,OJ,OJ]
theorem Jw {A:Around}{R:aJ}{H:AH}{s:Shared}{Q:V→AH→Prop}{o:tX}{p:Operator}{a b c:Int}{t u:Tok}(e:sj o p=true)(hc:oz o a b=some c)(S:St w s0 R H s)(q:Q (.j c) H):
 wpAny (model pw w) A (binaryOp p (.int a t) (.int b u)) (cG w s0 R s Q) cX s:=by
 cases o<;>cases p<;>simp [sj] at e<;>simp [oz,Option.some.injEq,Option.ite_none_right_eq_some] at hc
 ·subst hc;exact add_int (.jJ _ S (.j _ _) q)
 ·subst hc;exact sub_int (.jJ _ S (.j _ _) q)
 ·obtain⟨⟨h1,h2,h3,h4⟩,rfl⟩:=hc;exact mul_int (.jJ _ S (.j _ _) q) (PySem.IntMulOk.of_left (PySem.intBits_le_64 (by omega) (by omega)))
 ·obtain⟨h1,rfl⟩:=hc;refine mod_int' (by omega) (.jJ _ S (.j _ _) ?_);rwa [Int.fmod_eq_emod_of_nonneg a (by omega)]
 ·obtain⟨⟨h1,h3,h4⟩,rfl⟩:=hc;refine floordiv_int (by omega) (.jJ _ S (.j _ _) ?_) (.inl (PyProof.noPylong_small (by omega)));rwa [Int.fdiv_eq_ediv_of_nonneg a (by omega)]
 ·split at hc
  ·rename_i h;simp at hc;subst hc;exact and_int (.jJ _ S (.j _ _) (by rwa [tP a b h.1 h.2]))
  ·simp at hc;obtain⟨⟨h1,rfl⟩,rfl⟩:=hc;exact and_int (.jJ _ S (.j _ _) (by rwa [sm a h1]))
 ·obtain⟨⟨h1,h2⟩,rfl⟩:=hc;exact or_int (.jJ _ S (.j _ _) (by rwa [wW a b h1 h2]))
end
section
open PySem PySem.W PySem.Calls PyProof.Rows PySem.SeqAt
variable {w:World}{s0:Shared}
theorem j0 {N:Heap}{R:aJ}{s:Shared}{A:Around}{n:Nat}{l l':List V}{items items':Array Value}(fx:∀v∈l,V.e n v=true)(fy:∀v∈l',V.e n v=true)(hl:b8 N s.heap R l items.toList)(hl':b8 N s.heap R l' items'.toList)(hu:A.units+n+1<cLine):
 ∀j (h1:j<items.size) (h2:j<items'.size),EqAt A.in1 s items[j] items'[j] ((fun j=>decide (l[j]?=l'[j]?)) j):=by
 intro j h1 h2
 have e1:=hl.length;have e2:=hl'.length
 simp at e1 e2
 obtain⟨c,hc,vc⟩:=hl.jG (i:=j) (v:=l[j]'(by omega)) (by simp)
 obtain⟨c',hc',vc'⟩:=hl'.jG (i:=j) (v:=l'[j]'(by omega)) (by simp)
 have:=lh n (A:=A.in1) (by grind) (by grind) vc vc' (by grind)
 simp_all
theorem qA {l l':List V}{m k:Nat}(e1:l.length=m)(e2:l'.length=k):((List.range (min m k)).all (fun j=>decide (l[j]?=l'[j]?))&&m==k)=decide (l=l'):=by
 rw [Bool.eq_iff_iff];simp;constructor
 ·rintro⟨h1,h2⟩;refine List.ext_getElem? fun j=>?_;grind
 grind
theorem zO {l l':List V}{m:Nat}(e1:l.length=m)(e2:l'.length=m):((List.range m).all (fun j=>decide (l[j]?=l'[j]?)))=decide (l=l'):=by have:=qA e1 e2;simp_all
theorem eg {l:List V}(h:(V.B l).bG=true):∀v∈l,V.e 3 v=true:=by simpa [V.bG,V.e] using h
theorem KL {N:Heap}{R:aJ}{s:Shared}{A:Around}{l l':List V}{a b:Addr}(fx:(V.B l).bG=true)(fy:(V.B l').bG=true)(hx:VR N s.heap R (.B l) (.ref a))(hy:VR N s.heap R (.B l') (.ref b))(hu:A.units+4<cLine):
 RcAt A s (.ref a) (.ref b) (decide (l=l')):=by
 cases hx with
 |B t r=>cases hy with
  |B t' r'=>
   have z:=RcAt.tuples t t' (A:=A) (by omega) (j0 (eg fx) (eg fy) r r' (by omega))
   rwa [qA (by simpa using r.length) (by simpa using r'.length)] at z
theorem yb {N:Heap}{R:aJ}{s:Shared}{A:Around}{l l':List V}{a b:Addr}(fx:(V.B l).bG=true)(fy:(V.B l').bG=true)(hx:VR N s.heap R (.B l) (.ref a))(hy:VR N s.heap R (.B l') (.ref b))(hu:A.units+4<cLine):
 RcNeAt A s (.ref a) (.ref b) (!decide (l=l')):=by
 cases hx with
 |B t r=>cases hy with
  |B t' r'=>
   have z:=RcNeAt.tuples t t' (A:=A) (by omega) (j0 (eg fx) (eg fy) r r' (by omega))
   rwa [qA (by simpa using r.length) (by simpa using r'.length)] at z
theorem Il {N:Heap}{R:aJ}{s:Shared}{A:Around}{l l':List V}{a b:Addr}{items items':Array Value}(fx:(V.B l).bG=true)(fy:(V.B l').bG=true)(ha:s.heap.IsList a items)(hb:s.heap.IsList b items')(r:b8 N s.heap R l items.toList)(r':b8 N s.heap R l' items'.toList)(hu:A.units+4<cLine):
 RcAt A s (.ref a) (.ref b) (decide (l=l'))∧RcNeAt A s (.ref a) (.ref b) (!decide (l=l')):=by
 have e1:=r.length;have e2:=r'.length
 simp at e1 e2
 by_cases hs:items.size=items'.size
 ·have z:=RcAt.lists ha hb hs (A:=A) (by omega) (j0 (eg fx) (eg fy) r r' (by omega));have z':=RcNeAt.lists ha hb hs (A:=A) (by omega) (j0 (eg fx) (eg fy) r r' (by omega));rw [zO e1 (by omega)] at z z';trivial
 ·have e:decide (l=l')=false:=by grind
  rw [e];exact⟨RcAt.lists_lengths ha hb (by simp_all) (by omega),RcNeAt.lists_lengths ha hb (by simp_all) (by omega)⟩
section
variable {A:Around}{R:aJ}{H:AH}{s:Shared}{Q:Bool→AH→Prop}{x y:V}{a b:Value}
theorem bp {n:Nat}{l:List V}{c:Value}(S:St w s0 R H s)(h:VR (N0 s0) s.heap R (.y n) c)(e:H[n]?=some (.f l)):∃p items ep,c=.ref p∧R[n]?=some (p,p)∧s.heap.get? p=some (ir items ep)∧b8 (N0 s0) s.heap R l items.toList∧l.length≤2^21:=by
 cases h with
 | @y _ p e'=>
  have z:=S.objs n _ p e e';cases z with
  |f t r z=>grind
theorem cO {n:Nat}{es:List (V×V)}{c:Value}(S:St w s0 R H s)(h:VR (N0 s0) s.heap R (.y n) c)(e:H[n]?=some (.i es)):∃p ents ep,c=.ref p∧R[n]?=some (p,p)∧s.heap.get? p=some (dictOf ents ep)∧DR (N0 s0) w s.heap R es ents∧(es.map (·.1)).Nodup∧es.length≤2^21:=by
 cases h with
 | @y _ p e'=>
  have z:=S.objs n _ p e e';cases z with
  |i t r z y=>grind
theorem nA {n k:Nat}{fs:List (Nat×V)}{c:Value}(S:St w s0 R H s)(h:VR (N0 s0) s.heap R (.y n) c)(e:H[n]?=some (.J k fs)):∃p d ents ep,c=.ref p∧R[n]?=some (p,d)∧s.heap.get? p=some (instObj (ca k) d)∧s.heap.get? d=some (dictOf ents ep)∧FR (N0 s0) w s.heap R fs ents:=by
 cases h with
 | @y _ p e'=>
  cases S.objs n _ p e e' with
  |J t t' r=>grind
theorem JX (e:qo x y H fun r=>Q r H)(S:St w s0 R H s)(hx:VR (N0 s0) s.heap R x a)(hy:VR (N0 s0) s.heap R y b)(hu:A.units+5<cLine)(hsys:∀p∈R,(p.2==sysModules)=false):
 ∃r,Q r H∧RcAt A s a b r∧RcNeAt A s a b (!r):=by
 unfold qo at e
 split at e
 ·cases hx;cases hy;rename_i i j t u;exact⟨_,e,by have:=RcAt.int_int (A:=A) (s:=s) i t j u;omega,by have:=RcNeAt.int_int (A:=A) (s:=s) i t j u;omega⟩
 ·cases hx;cases hy;rename_i i j;exact⟨_,e,by have:=RcAt.bool_bool (A:=A) (s:=s) i j;omega,by have:=RcNeAt.bool_bool (A:=A) (s:=s) i j;omega⟩
 ·cases hx;cases hy;rename_i i j t u;exact⟨_,e,by have:=RcAt.str_str (A:=A) (s:=s) i t j u;omega,by have:=RcNeAt.str_str (A:=A) (s:=s) i t j u;omega⟩
 ·obtain⟨f,g,e⟩:=e;cases hx with
  |B t r=>cases hy with
   |B t' r'=>exact⟨_,e,KL f g (.B t r) (.B t' r') (by omega),yb f g (.B t r) (.B t' r') (by omega)⟩
 ·split at e
  ·rename_i h1 h2;obtain⟨f,g,e⟩:=e;obtain⟨p,it,_,rfl,_,t,r,_⟩:=bp S hx h1;obtain⟨p',it',_,rfl,_,t',r',_⟩:=bp S hy h2;have z:=Il (A:=A) f g (bU t) (bU t') r r' (by omega);grind
  ·rename_i h1 h2;obtain⟨rfl,rfl,e⟩:=e;obtain⟨p,ents,ep,rfl,hp,t,D,_,_⟩:=cO S hx h1;obtain⟨p',ents',ep',rfl,hp',t',D',_,_⟩:=cO S hy h2;cases D;cases D';have d1:∀prog w,s.heap.DictOf (intKind prog w) p [] :=fun prog w=>⟨_,#[],ep,t,⟨rfl,rfl,rfl⟩,rfl,fun _ h=>by simp at h,.nil,by simp⟩;have d2:∀prog w,s.heap.DictOf (intKind prog w) p' [] :=fun prog w=>⟨_,#[],ep',t',⟨rfl,rfl,rfl⟩,rfl,fun _ h=>by simp at h,.nil,by simp⟩;have q1:=hsys _ (List.mem_of_getElem? hp);have q2:=hsys _ (List.mem_of_getElem? hp');exact⟨true,e,fun prog w E Q' q=>keq_eq q1 q2 (d1 prog w) (d2 prog w) (by omega) (fun _=>.nil) q,fun prog w E Q' q=>keq_ne q1 q2 (d1 prog w) (d2 prog w) (by omega) (fun _=>.nil) q⟩
  trivial
 ·exact e.elim
end
def eF (k:Value)(y:Value):Bool:=match k,y with
 | .int i _,.int j _=>j==i
 | .str i _,.str j _=>j==i
 |_,_=>false
theorem JU {N:Heap}{h:Heap}{R:aJ}{x:V}{c:Value}(f:V.e 0 x=true)(v:VR N h R x c):(∃i t,x=.j i∧c=.int i t)∨∃i t,x=.F i∧c=.str i t:=by
 cases v<;>simp [V.e] at f
 ·simp
 simp
theorem zj {N:Heap}{h:Heap}{R:aJ}{x y:V}{c d:Value}(f:V.e 0 x=true)(g:V.e 0 y=true)(v:VR N h R x c)(u:VR N h R y d):eF c d=decide (x=y):=by
 rcases JU f v with⟨i,t,rfl,rfl⟩|⟨i,t,rfl,rfl⟩<;>rcases JU g u with⟨j,t',rfl,rfl⟩|⟨j,t',rfl,rfl⟩
 ·show(j==i)=decide _;grind
 ·rfl
 ·rfl
 ·show(j==i)=decide _;grind
theorem iA {N:Heap}{h:Heap}{R:aJ}{x:V}{c:Value}(f:V.e 0 x=true)(v:VR N h R x c):∀ {l:List V} {cs:List Value},l.all (V.e 0)=true→b8 N h R l cs→cs.any (eF c)=decide (x∈l)
 |_,_,_,.m=>by simp
 |_,_,g,.cons a r=>by simp only [List.all_cons,Bool.and_eq_true] at g;obtain⟨g1,g2⟩:=g;rw [List.any_cons,iA f v g2 r,zj f g1 v a];simp
theorem iz {N:Heap}{R:aJ}{A:Around}{s:Shared}{x:V}{c:Value}(f:V.e 0 x=true)(v:VR N s.heap R x c)(hu:A.units<cLine):∀ {l:List V} {cs:List Value},l.all (V.e 0)=true→b8 N s.heap R l cs→∀y∈cs,EqAt A s y c (eF c y)
 |_,_,_,.m,y,hy=>by trivial
 |_,_,g,.cons a r,y,hy=>by
  simp only [List.all_cons,Bool.and_eq_true] at g;rcases List.mem_cons.mp hy with rfl|hy
  ·rw [zj f g.1 v a];have:=lh 0 g.1 f a v (by omega);grind
  ·exact iz f v hu g.2 r y hy
section
variable {A:Around}{R:aJ}{H:AH}{s:Shared}{Q:Bool→AH→Prop}{x y:V}{a b:Value}
theorem qy (e:Value→Bool)(items:Array Value):items.any e=items.toList.any e:=by simp
theorem IY {l:List V}(e:gb x l fun r=>Q r H)(hx:VR (N0 s0) s.heap R x a)(hy:VR (N0 s0) s.heap R (.B l) b)(hu:A.units+1<cLine):
 ∃r,Q r H∧(∀Q':Value→Shared→Prop,Q' (.bool r) s→wpAny (model pw w) A (compareOp .In a b) Q' cX s)∧(∀Q':Value→Shared→Prop,Q' (.bool (!r)) s→wpAny (model pw w) A (compareOp .NotIn a b) Q' cX s):=by
 obtain⟨h1,h2,e⟩:=e
 cases hy with
 |B u r=>exact⟨_,e,fun Q' q=>in_tupleAt _ u (fun y hy=>iz h1 hx (by omega) h2 r y (by simp_all)) (by rwa [qy,iA h1 hx h2 r]),fun Q' q=>notIn_tupleAt _ u (fun y hy=>iz h1 hx (by omega) h2 r y (by simp_all)) (by rwa [qy,iA h1 hx h2 r])⟩
theorem yW {l:List V}{p:Addr}{items:Array Value}(e:gb x l fun r=>Q r H)(hx:VR (N0 s0) s.heap R x a)(u:s.heap.IsList p items)(r:b8 (N0 s0) s.heap R l items.toList)(hu:A.units+1<cLine):
 ∃r,Q r H∧(∀Q':Value→Shared→Prop,Q' (.bool r) s→wpAny (model pw w) A (compareOp .In a (.ref p)) Q' cX s)∧(∀Q':Value→Shared→Prop,Q' (.bool (!r)) s→wpAny (model pw w) A (compareOp .NotIn a (.ref p)) Q' cX s):=by
 obtain⟨h1,h2,e⟩:=e
 exact⟨_,e,fun Q' q=>in_listAt _ u (fun y hy=>iz h1 hx (by omega) h2 r y (by simp_all)) (by rwa [qy,iA h1 hx h2 r]),fun Q' q=>notIn_listAt _ u (fun y hy=>iz h1 hx (by omega) h2 r y (by simp_all)) (by rwa [qy,iA h1 hx h2 r])⟩
theorem MN {o:tX}{Q':Int→Int→Prop}(e:Mg x y Q')(hx:VR (N0 s0) s.heap R x a)(hy:VR (N0 s0) s.heap R y b):∃i j t u,a=.int i t∧b=.int j u∧Q' i j:=by
 unfold Mg at e;split at e
 ·cases hx;cases hy;grind
 trivial
theorem ry (hx:VR (N0 s0) s.heap R x a):decide (x=.aE)=decide (a=.none):=by cases hx<;>simp
end
def ix (k:V)(es:List (V×V)):Option Nat:=es.findIdx? fun e=>decide (e.1=k)
theorem DR.uf {N:Heap}{h:Heap}{R:aJ}{key:V}{pe:DictEntry→Bool} :∀ {es:List (V×V)} {ents:List DictEntry},DR N w h R es ents→(∀k e,(∃v,(k,v)∈es)→e∈ents→KR w h k e→pe e=decide (k=key))→ents.findIdx? pe=ix key es:=by
 intro es ents D;induction D with
 |m=>intro _;rfl
 | @cons k v e es cs a b r ih=>intro f;unfold ix;rw [List.findIdx?_cons,List.findIdx?_cons,f k e (by simp) (by simp) a];have:=ih (by grind);unfold ix at this;rw [this]
theorem DR.Mq {N:Heap}{h:Heap}{R:aJ}{es:List (V×V)}{ents:List DictEntry}(D:DR N w h R es ents):∀e∈ents,∃k v,(k,v)∈es∧KR w h k e:=by
 induction D with
 |m=>simp
 | @cons k v e es cs a b r ih=>grind
theorem jZ {k:V}(h:k.aS=1):∃i,k=.j i:=by cases k<;>simp [V.aS] at h<;>simp;split at h<;>simp at h
theorem jY {k:V}(h:k.aS=2):∃i,k=.F i:=by cases k<;>simp [V.aS] at h<;>simp;split at h<;>simp at h
theorem ni {k:V}(h:k.aS=3):∃l,k=.B l∧(V.B l).bG=true:=by cases k<;>simp [V.aS] at h;simp_all
theorem uI {k:V}(h:k.aS≠0):k.aS=1∨k.aS=2∨k.aS=3:=by cases k<;>simp [V.aS] at h ⊢;simp_all
theorem DR.xn {N:Heap}{h:Heap}{R:aJ}{prog:Program}{es:List (V×V)}{ents:List DictEntry}(D:DR N w h R es ents)(hk:∀e∈es,e.1.aS=3):
 ∃xs:List (V×Addr×Value),ents=xs.map (entryOfKey (j4 prog w))∧(∀x∈xs,(j4 prog w).is h x.1 x.2.1)∧xs.map (·.1)=es.map (·.1):=by
 induction D with
 |m=>simp
 | @cons k v e es cs a b r ih=>
  obtain⟨xs,h1,h2,h3⟩:=ih (by grind)
  obtain⟨l,rfl,f⟩:=ni (hk _ (by simp):(k,v).1.aS=3)
  obtain⟨fl,hh,ky⟩:=a
  obtain⟨eh,ek,ev⟩:=e
  simp at hh ky
  cases ky with
  | @B _ ad _ t rr=>
   refine⟨(.B l,ad,ev)::xs,by simp [h1,entryOfKey,hh,j4],fun x hx=>?_,by simp [h3]⟩
   rcases List.mem_cons.mp hx with rfl|hx
   ·exact⟨fl,.B t rr⟩
   simp [*]
theorem iJ {A:Around}{E:Value→Shared→Prop}{N:Heap}{R:aJ}{s:Shared}{p:Addr}{k:V}{ck:Value}{es:List (V×V)}{ents:List DictEntry}{ep:Nat}{Q:Option Nat→Shared→Prop}
 (hk:bI k es) (D:DR N w s.heap R es ents) (hn:(es.map (·.1)).Nodup) (hg:s.heap.get? p=some (dictOf ents ep)) (fl:V.e 4 k=true) (hc:VR {} s.heap [] k ck) (hu:A.units+4<cLine) (q:Q (ix k es) s):
 wpAny (model pw w) A (dictFind p ck (xb w 4 k)) Q E s:=by
 obtain⟨h0,hk⟩:=hk
 rcases uI h0 with h1|h1|h1
 ·obtain⟨i,rfl⟩:=jZ h1;cases hc with
  |j _ t=>
   refine wpAny_dictFind_int hg rfl (fun e he=>?_) ?_
   ·obtain⟨k',v',m,x⟩:=D.Mq e (by simp_all);obtain⟨j,rfl⟩:=jZ ((hk _ m).trans h1);have:=x.key;generalize e.key=ky at this;cases this with
    |j _ t'=>exact⟨j,t',rfl,x.A5⟩
   ·rw [List.findIdx?_toArray,D.uf fun k' e ⟨v',m⟩ he x=>?_]
    ·omega
    ·obtain⟨j,rfl⟩:=jZ ((hk _ m).trans h1);have:=x.key;generalize e.key=ky at this;cases this with
     |j _ t'=>apply Eq.trans (KeyKind.is_eq_decide (knd:=PySem.intKind pw w) (v:=.int j t') (by show Value.isInt j (.int j t')=true;simp [Value.isInt]) i);grind
 ·obtain⟨i,rfl⟩:=jY h1;cases hc with
  |F _ t=>
   refine wpAny_dictFind_of (knd:=PySem.strKind pw w) (strKind_is pw w i t) hg rfl (fun e he=>?_) ?_
   ·obtain⟨k',v',m,x⟩:=D.Mq e (by simpa using he);obtain⟨j,rfl⟩:=jY ((hk _ m).trans h1);have:=x.key;generalize e.key=ky at this;cases this with
    |F _ t'=>exact⟨j,strKind_is pw w j t',x.A5⟩
   ·rw [List.findIdx?_toArray,D.uf fun k' e ⟨v',m⟩ he x=>?_]
    ·omega
    ·obtain⟨j,rfl⟩:=jY ((hk _ m).trans h1);have:=x.key;generalize e.key=ky at this;cases this with
     |F _ t'=>rw [KeyKind.is_eq_decide (strKind_is pw w j t') i];grind
 ·obtain⟨l,rfl,f⟩:=ni h1;cases hc with
  | @B _ a _ t r=>
   obtain⟨xs,e1,e2,e3⟩:=D.xn fun e he=>(hk e he).trans h1;have hget:∀(j:Nat),xs[j]?.map _=es[j]?.map _:=fun j=>by rw [←List.getElem?_map,e3,List.getElem?_map]
   refine wpAny_dictFind_heap (knd:=j4 pw w) (k:=.B l) hu ⟨fl,.B t r⟩ hg rfl (by omega) e2 (e3▸hn) (fun hno=>?_) fun j y hj=>?_
   ·have:ix (.B l) es=none:=by unfold ix;rw [List.findIdx?_eq_none_iff];intro e he;obtain⟨j,hj⟩:=List.mem_iff_getElem?.mp he;grind
    rw [←this];omega
   ·have:ix (.B l) es=some j:=by
     have hj':=hget j;rw [hj] at hj';cases hx:es[j]? with
     |none=>rw [hx] at hj';simp at hj'
     |some e=>
      rw [hx] at hj';simp at hj';unfold ix;rw [List.findIdx?_eq_some_iff_getElem];obtain⟨hl,he⟩:=List.getElem?_eq_some_iff.mp hx;refine⟨hl,by rw [he];simp [hj'],fun i hi=>?_⟩;simp;intro hq;have a1:(es.map (·.1))[i]?=some (.B l):=by rw [List.getElem?_map,List.getElem?_eq_getElem (by omega)];simp [hq]
      have a2:(es.map (·.1))[j]?=some (.B l):=by rw [List.getElem?_map,hx];simp [hj']
      have:=(List.getElem?_inj (by simp;omega) hn).mp (a1.trans a2.symm);omega
    rw [←this];omega
theorem pZ {k:V} :∀ {es:List (V×V)},ix k es=none→bR k es=none
 |[],_=>rfl
 |e::r,h=>by
  unfold ix at h;rw [List.findIdx?_cons] at h;by_cases q:e.1=k
  ·simp_all
  ·simp only [decide_eq_false q,Bool.false_eq_true,if_false,Option.map_eq_none_iff] at h;unfold bR;rw [if_neg q];exact pZ h
theorem DR.jG {N:Heap}{h:Heap}{R:aJ}{k:V}{es:List (V×V)}{ents:List DictEntry}(D:DR N w h R es ents):∀ {j:Nat},ix k es=some j→∃e v,ents[j]?=some e∧bR k es=some v∧VR N h R v e.val:=by
 induction D with
 |m=>intro j h;trivial
 | @cons k' v e es cs a b r ih=>
  intro j hj;unfold ix at hj;rw [List.findIdx?_cons] at hj;unfold bR;by_cases q:k'=k
  ·grind
  ·simp [decide_eq_false q,if_false] at hj;obtain⟨i,hi,rfl⟩:=hj;obtain⟨e',v',h1,h2,h3⟩:=ih hi;grind
def NA (N:Heap)(h:Heap)(R:aJ)(o:Option V)(c:Option Value):Prop:=match o,c with
 |none,none=>True
 |some v,some c=>VR N h R v c
 |_,_=>False
section
variable {A:Around}{E:Value→Shared→Prop}{N:Heap}{R:aJ}{s:Shared}{p:Addr}{k:V}{ck:Value}{es:List (V×V)}{ents:List DictEntry}{ep:Nat}
theorem gT {Q:Option Value→Shared→Prop}(hk:bI k es)(D:DR N w s.heap R es ents)(hn:(es.map (·.1)).Nodup)(hg:s.heap.get? p=some (dictOf ents ep))(fl:V.e 4 k=true)(hc:VR {} s.heap [] k ck)(hu:A.units+4<cLine)
 (q:∀o,NA N s.heap R (bR k es) o→Q o {s with toks:=s.toks+wN 4 k}):wpAny (model pw w) A (dictGet p ck) Q E s:=by
 unfold dictGet
 with_reducible apply wpAny_holding
 refine wpAny_bind (fB 4 fl hc hu (wpAny_bind (iJ hk D hn hg fl hc hu ?_)))
 cases hi:ix k es with
 |none=>exact wpAny_pure (q _ (by rw [pZ hi];trivial))
 |some j=>
  obtain⟨e,v,h1,h2,h3⟩:=D.jG hi
  refine wpAny_bind (wpAny_dictEntries hg rfl ?_)
  have:ents.toArray[j]?=some e:=by simp_all
  rw [this]
  exact wpAny_pure (q _ (by rw [h2];exact h3))
theorem mf {Q:Bool→Shared→Prop}(hk:bI k es)(D:DR N w s.heap R es ents)(hn:(es.map (·.1)).Nodup)(hg:s.heap.get? p=some (dictOf ents ep))(fl:V.e 4 k=true)(hc:VR {} s.heap [] k ck)(hu:A.units+5<cLine)(hd:(p==sysModules)=false)
 (q:Q (bR k es).isSome {s with toks:=s.toks+wN 4 k}):wpAny (model pw w) A (contains (.ref p) ck) Q E s:=by
 have hT:s.TypeIs (.ref p) _:=⟨_,hg,rfl⟩
 unfold contains
 with_reducible apply wpAny_holding
 refine wpAny_bind (wpAny_specialOf hT slot_dict_contains.lookup (wpAny_bind (wpAny_callSpecialUnlessNone?_slot hT slot_dict_contains
  (wpAny_call_entry slot_dict_contains hT entry_dict_contains ?_ (args_dict_contains _ _)))))
 show wpAny _ _ (dictGet p ck>>=_) _ _ s
 refine wpAny_bind (gT hk D hn hg fl hc (by omega) fun o ho=>?_)
 cases hl:bR k es with
 |some v=>
  rw [hl] at ho q
  cases o with
  |none=>trivial
  |some c=>exact wpAny_pure ⟨_,rfl,wpAny_truthy_bool q⟩
 |none=>
  rw [hl] at ho q
  cases o with
  |some c=>trivial
  |none=>exact wpAny_bind (wpAny_pendingKey_other hd (wpAny_pure ⟨_,rfl,wpAny_truthy_bool q⟩))
theorem IX {Q:Value→Shared→Prop}(hk:bI k es)(D:DR N w s.heap R es ents)(hn:(es.map (·.1)).Nodup)(hg:s.heap.get? p=some (dictOf ents ep))(fl:V.e 4 k=true)(hc:VR {} s.heap [] k ck)(hu:A.units+5<cLine)(hd:(p==sysModules)=false)
 (q:Q (.bool (bR k es).isSome) {s with toks:=s.toks+wN 4 k}):wpAny (model pw w) A (compareOp .In ck (.ref p)) Q E s:=wpAny_bind (mf hk D hn hg fl hc hu hd (wpAny_pure q))
theorem ta {Q:Value→Shared→Prop}(hk:bI k es)(D:DR N w s.heap R es ents)(hn:(es.map (·.1)).Nodup)(hg:s.heap.get? p=some (dictOf ents ep))(fl:V.e 4 k=true)(hc:VR {} s.heap [] k ck)(hu:A.units+5<cLine)(hd:(p==sysModules)=false)
 (q:Q (.bool (!(bR k es).isSome)) {s with toks:=s.toks+wN 4 k}):wpAny (model pw w) A (compareOp .NotIn ck (.ref p)) Q E s:=wpAny_bind (mf hk D hn hg fl hc hu hd (wpAny_pure q))
theorem qi {v:V}{Q:Value→Shared→Prop}(hk:bI k es)(D:DR N w s.heap R es ents)(hn:(es.map (·.1)).Nodup)(hg:s.heap.get? p=some (dictOf ents ep))(fl:V.e 4 k=true)(hc:VR {} s.heap [] k ck)(hu:A.units+5<cLine)(hl:bR k es=some v)
 (q:∀c,VR N s.heap R v c→Q c {s with toks:=s.toks+wN 4 k}):wpAny (model pw w) A (getItem (.ref p) ck) Q E s:=by
 have hT:s.TypeIs (.ref p) _:=⟨_,hg,rfl⟩
 unfold getItem
 with_reducible apply wpAny_holding
 refine wpAny_bind (wpAny_sequenceKey hT (by rfl) (wpAny_bind (wpAny_callSpecial?_slot hT slot_dict_getitem
  (wpAny_call_entry slot_dict_getitem hT entry_dict_getitem ?_ (args_dict_getitem _ _)))))
 show wpAny _ _ (dictGet p ck>>=_) _ _ s
 refine wpAny_bind (gT hk D hn hg fl hc (by omega) fun o ho=>?_)
 rw [hl] at ho
 cases o with
 |none=>trivial
 |some c=>exact wpAny_pure ⟨c,rfl,wpAny_pure (q c ho)⟩
end
theorem mU {h h':Heap}{p:Addr}{o:Obj}(hg:h.get? p=some o)(hc:o.cls=.type "dict")(hs:Heap.SameBut p h h'){a:Addr}{items:Array Value}(t:IsTup h a items):IsTup h' a items:=by obtain⟨o',e,c,r⟩:=t;refine⟨o',(hs.2 a ?_).trans e,c,r⟩;grind
theorem kN {h h':Heap}{p:Addr}{o:Obj}(hg:h.get? p=some o)(hc:o.cls=.type "dict")(hs:Heap.SameBut p h h'){a:Addr}{items:Array Value}(t:h.IsList a items):h'.IsList a items:=by obtain⟨o',e,c,r⟩:=t;refine⟨o',(hs.2 a ?_).trans e,c,r⟩;grind
theorem mY {k v:V} :∀ {es:List (V×V)},ix k es=none→eA k v es=es++[(k,v)]
 |[],_=>rfl
 |e::r,h=>by
  unfold ix at h;rw [List.findIdx?_cons] at h;by_cases q:e.1=k
  ·simp_all
  ·simp only [decide_eq_false q,Bool.false_eq_true,if_false,Option.map_eq_none_iff] at h;unfold eA;rw [if_neg q,mY h];rfl
theorem DR.dp {N:Heap}{h:Heap}{R:aJ}{es es':List (V×V)}{ents ents':List DictEntry}(D:DR N w h R es ents)(D':DR N w h R es' ents'):DR N w h R (es++es') (ents++ents'):=by
 induction D with
 |m=>exact D'
 |cons a b _ ih=>exact .cons a b ih
theorem DR.NX {N:Heap}{h:Heap}{R:aJ}{k v:V}{c:Value}(hv:VR N h R v c){es:List (V×V)}{ents:List DictEntry}(D:DR N w h R es ents):∀ {j:Nat},ix k es=some j→DR N w h R (H31.eA k v es) (ents.modify j fun e=> {e with val:=c}):=by
 induction D with
 |m=>intro j h;trivial
 | @cons k' v' e es cs a b r ih=>
  intro j hj;unfold ix at hj;rw [List.findIdx?_cons] at hj;unfold H31.eA;by_cases q:k'=k
  ·subst q;simp at hj;subst hj;simp;exact .cons ⟨a.bG,a.A5,a.key⟩ hv r
  ·simp [decide_eq_false q,if_false] at hj;obtain⟨i,hi,rfl⟩:=hj;rw [if_neg q];exact .cons a b (ih hi)
theorem DR.length {N:Heap}{h:Heap}{R:aJ}{es:List (V×V)}{ents:List DictEntry}(D:DR N w h R es ents):es.length=ents.length:=by
 induction D with
 |m=>rfl
 |cons _ _ _ ih=>simp [ih]
section
variable {A:Around}{E:Value→Shared→Prop}{N:Heap}{R:aJ}{s:Shared}{p:Addr}{k v:V}{ck cv:Value}{es:List (V×V)}{ents:List DictEntry}{ep:Nat}
theorem tJ {Q:Unit→Shared→Prop}(hk:bI k es)(D:DR N w s.heap R es ents)(hn:(es.map (·.1)).Nodup)(hz:es.length≤2^21)(hg:s.heap.get? p=some (dictOf ents ep))(fl:V.e 4 k=true)(hc:VR {} s.heap [] k ck)(hv:VR N s.heap R v cv)(hu:A.units+4<cLine)
 (q:∀h' ents' ep',Heap.SameBut p s.heap h'→h'.get? p=some (dictOf ents' ep')→DR N w h' R (eA k v es) ents'→Q () {s with heap:=h',toks:=s.toks+wN 4 k}):wpAny (model pw w) A (dictSet p ck cv) Q E s:=by
 unfold dictSet
 with_reducible apply wpAny_holding
 refine wpAny_bind (fB 4 fl hc hu ?_)
 unfold dictSetHashed
 with_reducible apply wpAny_holding
 refine wpAny_bind (iJ hk D hn hg fl hc hu ?_)
 have mono:∀h',Heap.SameBut p _ h'→∀ {es':List _} {ents':List _},DR N w _ R es' ents'→DR N w h' R es' _:=fun h' hs _ _ d=>d.P (fun _ _ t=>mU hg rfl hs t) (fun _ _ _ t=>kN hg rfl hs t) (by simp)
 cases hi:ix k es with
 |none=>
  refine wpAny_bind (wpAny_rule (wpAny_updateDictKeys (hz:=by have:=D.length;simp [sizeLine];omega) hg rfl ?_))
  have e:Obj.mapDictKeys (fun es=>es.push ⟨xb w 4 k,ck,cv⟩) (dictOf ents ep)=dictOf (ents++[⟨xb w 4 k,ck,cv⟩]) (ep+1):=by show(⟨_,_,_,_⟩:Obj)=_;simp
  refine q _ _ _ (Heap.SameBut.update ..) ((Heap.get?_update_self _ hg (by rfl)).trans (congrArg _ e)) (mono _ (Heap.SameBut.update ..) ?_)
  rw [mY hi]
  exact D.dp (.cons ⟨fl,rfl,hc⟩ hv .m)
 |some j=>
  have e:Obj.mapDict (fun es=>es.modify j fun e=> {e with val:=cv}) (dictOf ents ep)=dictOf (ents.modify j fun e=> {e with val:=cv}) ep:=by show(⟨_,_,_,_⟩:Obj)=_;simp
  exact wpAny_bind (wpAny_rule (wpAny_bind (wpAny_updateDict hg rfl (wpAny_point (q _ _ _ (Heap.SameBut.update ..) ((Heap.get?_update_self _ hg (by rfl)).trans (congrArg _ e)) (mono _ (Heap.SameBut.update ..) (D.NX hv hi)))))))
theorem pR {Q:Unit→Shared→Prop}(hk:bI k es)(D:DR N w s.heap R es ents)(hn:(es.map (·.1)).Nodup)(hz:es.length≤2^21)(hg:s.heap.get? p=some (dictOf ents ep))(fl:V.e 4 k=true)(hc:VR {} s.heap [] k ck)(hv:VR N s.heap R v cv)(hu:A.units+5<cLine)
 (q:∀h' ents' ep',Heap.SameBut p s.heap h'→h'.get? p=some (dictOf ents' ep')→DR N w h' R (eA k v es) ents'→Q () {s with heap:=h',toks:=s.toks+wN 4 k}):wpAny (model pw w) A (setItem (.ref p) ck cv) Q E s:=by
 have hT:s.TypeIs (.ref p) _:=⟨_,hg,rfl⟩
 unfold setItem
 with_reducible apply wpAny_holding
 refine wpAny_bind (wpAny_sequenceKey hT (by rfl) (wpAny_bind (wpAny_callSpecial?_slot hT slot_dict_setitem
  (wpAny_call_entry slot_dict_setitem hT entry_dict_setitem (wpAny_bind (wpAny_notOrdered_dict hT ?_)) (args_dict_setitem _ _ _)))))
 show wpAny _ _ (dictSet p ck cv>>=_) _ _ s
 exact wpAny_bind (tJ hk D hn hz hg fl hc hv (by omega) fun h' ents' ep' a b c=>wpAny_pure ⟨_,rfl,wpAny_pure (q h' _ ep' a b c)⟩)
end
theorem yi {R:aJ}(hn:(R.map (·.2)).Nodup){i j:Nat}{p q:Addr×Addr}(hi:R[i]?=some p)(hj:R[j]?=some q)(h:i≠j):p.2≠q.2:=by
 intro e;have a1:(R.map (·.2))[i]?=some q.2:=by grind
 have a2:(R.map (·.2))[j]?=some q.2:=by grind
 have hl:=(List.getElem?_eq_some_iff.mp a1).1;exact h ((List.getElem?_inj hl hn).mp (a1.trans a2.symm))
theorem St.NV {R:aJ}{H:AH}{s:Shared}{n:Nat}{x p:Addr}{ao:ag}{h':Heap}{t:Nat}(S:St w s0 R H s)(e:R[n]?=some (x,p))(hs:Heap.SameBut p s.heap h')(new:OR (N0 s0) w h' R ao (x,p)):
 St w s0 R (H.set n ao) {s with heap:=h',toks:=t} ∧cj hF R R s {s with heap:=h',toks:=t} :=by
 have hp:=List.mem_of_getElem? e
 obtain⟨_,bo,_,_,y⟩:=S.at hp
 obtain⟨ob,hob,hcl⟩:=y.w9
 have kt:∀a items,IsTup _ a items→IsTup h' a _:=fun a items ⟨o',e',c,r⟩=>⟨o',(hs.2 a (by grind)).trans e',c,r⟩
 have kf:∀a items,(N0 s0).IsList a items→s.heap.IsList a items→h'.IsList a _:=fun a items ha ⟨o',e',r⟩=>⟨o',(hs.2 a (by rintro rfl;obtain⟨_,q,_⟩:=ha;rw [S.bD _ hp] at q;cases q)).trans e',r⟩
 refine⟨⟨by rw [List.length_set];exact S.U,fun i bo' q ei eq=>?_,S.W,S.bD,fun b o eb=>(hs.2 b (by rintro rfl;rw [S.bD _ hp] at eb;cases eb)).trans (S.N b o eb),S.gens,S.os⟩,⟨fun b o eb hb _=>(hs.2 b (by rintro rfl;exact hb _ hp rfl)).trans eb,by simp,fun b o eb=>?_⟩⟩
 ·by_cases hi:i=n
  ·grind
  ·rw [List.getElem?_set_ne (Ne.symm hi)] at ei;have z:=S.objs i bo' q ei eq;have hne:=yi S.W eq e hi;refine z.P kt kf (fun _ _ e=>e) (fun o ho=>(hs.2 q.1 ?_).trans ho) fun o ho=>(hs.2 q.2 hne).trans ho;cases z with
   |f=>omega
   |i=>omega
   |kH=>omega
   |J g _ _=>grind
 ·by_cases q:b=p
  ·subst q;obtain⟨ob',h1,_⟩:=new.w9;exact⟨ob',h1⟩
  ·exact⟨o,(hs.2 b q).trans eb⟩
theorem VR.z8 {N:Heap}{h h':Heap}{R:aJ}{p:Addr}{o:Obj}(hg:h.get? p=some o)(hc:o.cls=.type "list"∨o.cls=.type "dict")(hp:N.get? p=Option.none)(hs:Heap.SameBut p h h'){v:V}{c:Value}(x:VR N h R v c):VR N h' R v c:=
 x.P (fun a items ⟨o',e',c,r⟩=>⟨o',(hs.2 a (by
  grind)).trans e',c,r⟩) (fun a items ha ⟨o',e',r⟩=>⟨o',(hs.2 a (by
  rintro rfl;obtain⟨_,q,_⟩:=ha;simp_all)).trans e',r⟩) (by simp)
theorem b8.z8 {N:Heap}{h h':Heap}{R:aJ}{p:Addr}{o:Obj}(hg:h.get? p=some o)(hc:o.cls=.type "list"∨o.cls=.type "dict")(hp:N.get? p=Option.none)(hs:Heap.SameBut p h h'){v:List V}{c:List Value}(x:b8 N h R v c):b8 N h' R v c:=
 x.P (fun a items ⟨o',e',c,r⟩=>⟨o',(hs.2 a (by
  grind)).trans e',c,r⟩) (fun a items ha ⟨o',e',r⟩=>⟨o',(hs.2 a (by
  rintro rfl;obtain⟨_,q,_⟩:=ha;simp_all)).trans e',r⟩) (by simp)
theorem St.Oa {R:aJ}{H:AH}{s:Shared}{n:Nat}{p:Addr×Addr}(S:St w s0 R H s)(e:R[n]?=some p):(N0 s0).get? p.2=Option.none:=S.bD _ (List.mem_of_getElem? e)
theorem jU {R:aJ}{H:AH}{s:Shared}{n:Nat}{p:Addr}{l:List V}{items:Array Value}{ep t:Nat}{o:Obj}{f:Obj→Obj}(S:St w s0 R H s)(e:R[n]?=some (p,p))(hg:s.heap.get? p=some o)(hc:o.cls=.type "list")
 (hf:f o=ir items ep) (r:b8 (N0 s0) s.heap R l items.toList) (hz:l.length≤2^21):
 St w s0 R (H.set n (.f l)) {s with heap:=s.heap.update p f,toks:=t} ∧cj hF R R s {s with heap:=s.heap.update p f,toks:=t} :=by
 have hs:Heap.SameBut p _ (s.heap.update p f):=Heap.SameBut.update ..
 exact S.NV e hs (.f (ep:=ep) ((Heap.get?_update_self _ hg (by rw [hf];rfl)).trans (by simp_all)) (r.z8 hg (.inl hc) (S.Oa e) hs) hz)
theorem ml {A:Around}{R:aJ}{H:AH}{s:Shared}{Q:AH→Prop}{o v:V}{c cv:Value}(e:jE o v H Q)(S:St w s0 R H s)(ho:VR (N0 s0) s.heap R o c)(hv:VR (N0 s0) s.heap R v cv):
 wpAny (model pw w) A (call (.builtin "list.append") [c,cv]) (cG w s0 R s fun v H=>v=.aE∧Q H) cX s:=by
 unfold jE at e
 split at e
 ·split at e
  ·rename_i h1;obtain⟨hz,q⟩:=e;obtain⟨p,items,ep,rfl,hR,hg,r,hl⟩:=bp S ho h1;have hT:s.TypeIs (.ref p) _:=⟨_,hg,rfl⟩;have hsz:=r.length;simp at hsz;refine wpAny_call_entry slot_list_append hT entry_list_append ?_ (args_list_append _ _);show wpAny _ _ (updateSeq p _>>=fun _=>ret _) _ _ s;apply wpAny_bind;have hf:Obj.mapSeq (·.push cv) (ir items ep)=ir (items.push cv) (ep+1):=by show(⟨_,_,_,_⟩:Obj)=_;simp
   have z:=jU (t:=s.toks) S hR hg rfl hf (by simpa using r.dp (.cons hv .m)) (by simp;omega);exact wpAny_updateSeq hg rfl (wpAny_pure ⟨_,rfl,R,_,_,⟨rfl,q⟩,z.2,z.1,.aE⟩) (_hz':=by simp [sizeLine];omega)
  trivial
 trivial
theorem O7 {l:List V}{items:Array Value}(h:l.length=items.size):(!items.isEmpty)= !l.isEmpty:=by grind
section
variable {A:Around}{R:aJ}{H:AH}{s:Shared}{x y:V}{a b:Value}
theorem iO {Q:Bool→Prop}{Q':Bool→Shared→Prop}(e:cY x H Q)(S:St w s0 R H s)(hx:VR (N0 s0) s.heap R x a)(q:∀r t,Q r→Q' r {s with toks:=t}):wpAny (model pw w) A (truthy a) Q' cX s:=by
 unfold cY at e;split at e
 ·cases hx;exact truthy_none (by simp_all)
 ·cases hx;exact wpAny_truthy_bool (q _ s.toks e)
 ·cases hx;rename_i i t;apply truthy_int;have:(i !=0)=decide (i≠0):=by rw [Bool.eq_iff_iff];simp
  rw [this];exact q _ s.toks e
 ·cases hx;rename_i i t;obtain⟨h1,e⟩:=e;apply SBL.truthy (by show(i.cps.size:Int)<_;omega);have:((i.length:Int) !=0)=decide (i.cps.size≠0):=by rw [Bool.eq_iff_iff];simp only [bne_iff_ne,decide_eq_true_eq];show((i.cps.size):Int)≠0↔_;omega
  rw [this];exact q _ _ e
 ·cases hx with
  | @B l' a items t r=>have z:=r.length;simp at z;apply truthy_tuple t (by omega);rw [O7 (by omega)];simp [*]
 ·split at e
  ·rename_i h1;obtain⟨p,items,ep,rfl,_,t,r,hz⟩:=bp S hx h1;have z:=r.length;simp at z;apply wpAny_truthy_list (bU t) (by omega);rw [O7 (by omega)];simp [*]
  trivial
 trivial
theorem pT {o:J6}{Q:Bool→Prop}{Q':Value→Shared→Prop}{p:CmpOp}(ho:zm o p=true)(hlt:o=.lt∨o=.le∨o=.gt∨o=.ge)(e:aI o x y H Q)(hx:VR (N0 s0) s.heap R x a)(hy:VR (N0 s0) s.heap R y b)(q:∀r,Q r→Q' (.bool r) s):
 wpAny (model pw w) A (compareOp p a b) Q' cX s:=by
 rcases hlt with rfl|rfl|rfl|rfl<;>cases p<;>simp [zm] at ho<;>obtain⟨i,j,t,u,rfl,rfl,e⟩:=MN (o:=.fZ) e hx hy
 ·exact PyProof.Rows.lt_int (q _ e)
 ·exact PyProof.Rows.le_int (q _ e)
 ·exact PyProof.Rows.gt_int (q _ e)
 ·exact PyProof.Rows.ge_int (q _ e)
end
theorem qg {i:Int}{n j:Nat}(h:yX i n=some j): -(2^63)≤i∧i<2^63∧seqIndex? i n=some j∧((0≤i∧j=i.toNat)∨(i<0∧-(n:Int)≤i∧j=(i+n).toNat)):=by
 unfold yX at h;split at h
 ·trivial
 ·unfold seqIndex?;grind
theorem gx {k:V}(h:k.aS≠0):V.e 4 k=true:=by
 rcases uI h with h|h|h
 ·obtain⟨i,rfl⟩:=jZ h;rfl
 ·obtain⟨i,rfl⟩:=jY h;rfl
 ·obtain⟨l,rfl,f⟩:=ni h;exact f
section
variable {A:Around}{R:aJ}{H:AH}{s:Shared}{x y:V}{a b:Value}
theorem Kw {Q:V→Prop}{Q':Value→Shared→Prop}(e:aF x y H Q)(S:St w s0 R H s)(hx:VR (N0 s0) s.heap R x a)(hy:VR (N0 s0) s.heap R y b)(hu:A.units+5<cLine)
 (q:∀v c t,Q v→VR (N0 s0) s.heap R v c→Q' c {s with toks:=t}):wpAny (model pw w) A (getItem a b) Q' cX s:=by
 unfold aF at e
 split at e
 ·cases hy;cases hx with
  | @B _ p items ht r=>
   split at e
   ·rename_i v hv;rw [Option.bind_eq_some_iff] at hv;obtain⟨j,hj,hv⟩:=hv;obtain⟨c,hc,vc⟩:=r.jG hv;rw [r.length] at hj;obtain⟨h1,h2,h3,_⟩:=qg hj;exact PyProof.Rows.getItem_tuple ht h1 h2 h3 (by simp_all) (q _ _ s.toks e vc)
   trivial
 ·cases hx;cases hy;split at e
  ·rename_i c hc;rw [Option.bind_eq_some_iff] at hc;obtain⟨j,hj,hc⟩:=hc;obtain⟨h1,h2,h3,_⟩:=qg hj;exact PyProof.Rows.getItem_str (by grind) (Option.bind_eq_some_iff.mpr ⟨j,h3,hc⟩) (q _ _ _ e (.F _ _))
  ·exact e.elim
 ·split at e
  ·rename_i hl;obtain⟨p,items,ep,rfl,_,t,r,hz⟩:=bp S hx hl;split at e
   ·cases hy;split at e
    ·rename_i v hv;rw [Option.bind_eq_some_iff] at hv;obtain⟨j,hj,hv⟩:=hv;obtain⟨c,hc,vc⟩:=r.jG hv;rw [r.length] at hj;obtain⟨h1,h2,h3,h4|⟨h4,h5,h6⟩⟩:=qg hj
     ·obtain⟨h4,rfl⟩:=h4;exact wpAny_getItem_list (bU t) h4 h2 (by simp_all) (q _ _ s.toks e vc)
     ·subst h6;exact wpAny_getItem_list_neg (bU t) h4 h5 h1 (by simpa using hc) (q _ _ s.toks e vc)
    trivial
   trivial
  ·rename_i hd;obtain⟨p,ents,ep,rfl,_,t,D,hn,hz⟩:=cO S hx hd;obtain⟨hk,e⟩:=e;split at e
   ·rename_i v hv;have fl:=gx hk.1;exact qi hk D hn t fl (hy.bG 4 fl) hu hv fun c hc=>q _ _ _ e hc
   trivial
  trivial
 trivial
end
theorem pB (n d:Nat)(i:Int):qq n d (some i)=clipAt n i:=by
 unfold qq;dsimp;split
 ·obtain⟨k,rfl⟩:=Int.eq_ofNat_of_zero_le ‹0≤i›;rw [clipAt_nat];simp
 ·obtain⟨k,hk⟩:∃k:Nat,i= -k:=⟨(-i).toNat,by omega⟩;subst hk;rw [clipAt_neg _ _ (by omega)];simp
theorem r8 (items:Array Value)(lo hi:Option Int):(slicePick items lo hi none).toList=fu items.toList lo hi:=by
 have e1:lo.elim 0 (clipAt items.size)=qq items.toList.length 0 lo:=by
  cases lo with
  |none=>rfl
  |some i=>rw [pB];simp
 have e2:hi.elim items.size (clipAt items.size)=qq items.toList.length items.toList.length hi:=by
  cases hi with
  |none=>rfl
  |some i=>rw [pB];simp
 rw [slicePick_plain,e1,e2];unfold fu;rw [List.drop_take]
theorem b8.Of {N:Heap}{h:Heap}{R:aJ}{l:List V}{cs:List Value}(x:b8 N h R l cs)(lo hi:Option Int):b8 N h R (fu l lo hi) (fu cs lo hi):=by unfold fu;rw [x.length];exact(x.take _).drop _
theorem sA (n:Nat)(lo hi:Option Int):Builtin.Slice.sliceAdjust lo hi 1 (n:Int)=(((lo.elim 0 (clipAt n):Nat):Int),((hi.elim n (clipAt n):Nat):Int)):=by
 unfold Builtin.Slice.sliceAdjust;have c:∀i:Int,(if i<0 then max (i+n) 0 else min i n)=clipAt n i:=by intro i;rw [clipAt_cast];omega
 grind
theorem sW (a b:Nat):Builtin.Slice.slicePlaces (a:Int) (b:Int) 1=b-a:=by unfold Builtin.Slice.slicePlaces;omega
theorem uB {A:Around}{E:Value→Shared→Prop}{s:Shared}{v:Value}{k:Option Int}{Q:Option Int→Shared→Prop}(p:IsPart v k)(h:Q k s):wpAny (model pw w) A (Builtin.Slice.slicePartIndex v) Q E s:=by
 cases p with
 |none=>exact slicePart_none h
 |int i t=>exact slicePart_int h
theorem tS {A:Around}{E:Value→Shared→Prop}{s:Shared}{sl:Addr}{n:Nat}{vl vu:Value}{lo hi:Option Int}{Q:Int×Int×Nat→Shared→Prop}(hs:s.heap.IsSliceOf sl vl vu .none)(pl:IsPart vl lo)(pu:IsPart vu hi)
 (h:Q (((lo.elim 0 (clipAt n):Nat):Int),1,hi.elim n (clipAt n)-lo.elim 0 (clipAt n)) s):wpAny (model pw w) A (Builtin.Slice.sliceApplied (.ref sl) (pure (n:Int))) Q E s:=by
 obtain⟨os,hos,hcs,hds⟩:=id hs
 refine wpAny_bind (wpAny_bind (wpAny_field hos hds rfl (wpAny_bind (wpAny_field hos hds rfl (wpAny_bind (wpAny_field hos hds rfl (wpAny_pure (wpAny_bind (slicePart_none (wpAny_bind (uB pl (wpAny_bind (uB pu (wpAny_bind (wpAny_pure ?_)))))))))))))))
 show wpAny _ _ (match Builtin.Slice.sliceAdjust lo hi 1 _ with|(lo,hi)=>pure (lo,(1:Int),Builtin.Slice.slicePlaces lo hi 1)) _ _ s
 rw [sA]
 show wpAny _ _ (pure _) _ _ s
 rw [sW]
 exact wpAny_pure h
theorem Ip (xs:Array Value)(a k:Nat):((List.range k).filterMap fun(k:Nat)=>xs[((a:Int)+(k:Int)*1).toNat]?)=(xs.toList.drop a).take k:=by
 have e:(fun(k:Nat)=>xs[((a:Int)+k*1).toNat]?)=fun k=>xs[a+k]?:=by grind
 rw [e];have:=pick_run xs a k;rw [List.filterMap_map] at this;trivial
theorem vG {A:Around}{E:Value→Shared→Prop}{s:Shared}{t sl:Addr}{items:Array Value}{vl vu:Value}{lo hi:Option Int}{Q:Value→Shared→Prop}(ht:IsTup s.heap t items)(hs:s.heap.IsSliceOf sl vl vu .none)(pl:IsPart vl lo)(pu:IsPart vu hi)
 (h1:fu items.toList lo hi=items.toList→Q (.ref t) s) (h2:Q (.ref s.heap.objs.size) {s with heap:=s.heap.push {cls:=.type "tuple",data:=.seq (fu items.toList lo hi).toArray} })
 (hsz:items.size≤sizeLine):wpAny (model pw w) A (getItem (.ref t) (.ref sl)) Q E s:=by
 have hpick:=r8 items lo hi
 rw [slicePick_plain] at hpick
 simp at hpick
 have hok:=by show(fu items.toList lo hi).toArray.size≤sizeLine;grind
 obtain⟨os,hos,hcs,hds⟩:=id hs
 have hTs:s.TypeIs (.ref sl) _:=⟨os,hos,hcs⟩
 unfold getItem
 with_reducible apply wpAny_holding
 refine wpAny_bind (wpAny_sequenceKey ht.typeIs (by rfl) (wpAny_bind (wpAny_callSpecial?_slot ht.typeIs slot_tuple_getitem
  (wpAny_call_entry slot_tuple_getitem ht.typeIs entry_tuple_getitem ?_ (args_tuple_getitem _ _)))))
 show wpAny _ _ (Builtin.Tuple.tupleItemsOf _>>=_) _ _ s
 refine wpAny_bind (tupleItemsOf_ ht (wpAny_bind (wpAny_typeOf hTs (wpAny_bind (tS hs pl pu ?_)))))
 generalize ha:lo.elim 0 _=a at hpick ⊢
 generalize hk:hi.elim _ _-a=k at hpick ⊢
 show wpAny _ _ (if((a:Int)==0&&1==1&&k==items.size)=true then _ else _) _ _ s
 by_cases hc:((a:Int)==0&&(1:Int)==1&&k==items.size)=true
 ·rw [if_pos hc];simp only [Bool.and_eq_true,beq_iff_eq] at hc;obtain⟨⟨hz,_⟩,hk'⟩:=hc;have hz:a=0:=by omega
  subst hz;rw [hk'] at hpick;have:fu items.toList lo hi=items.toList:=by rw [←hpick];exact List.take_of_length_le (by simp)
  apply wpAny_bind;exact wpAny_bind (wpAny_typeOf ht.typeIs (wpAny_pure (wpAny_bind (wpAny_rule (wpAny_pure ⟨_,rfl,wpAny_pure (h1 this)⟩)))))
 ·rw [if_neg hc,Ip,hpick];exact wpAny_bind (wpAny_newObj_type (wpAny_pure ⟨_,rfl,wpAny_pure h2⟩) hok)
inductive qF:Option Int→Value→Prop
 |aE:qF none .none
 |j (i:Int) (t:Tok):qF (some i) (.int i t)
theorem qF.A1 {o:Option Int}{v:Value}(e:qF o v):IsPart v o:=by
 cases e
 ·exact .none
 constructor
section
variable {A:Around}{R:aJ}{H:AH}{s:Shared}{x:V}{a vl vu:Value}{sl:Addr}{lo hi:Option Int}{Q:V→AH→Prop}
theorem sd {α:Type}(l:List α)(lo hi:Option Int):(fu l lo hi).length≤l.length:=by unfold fu;simp;omega
theorem rg {p:Addr}{items:Array Value}{l:List V}(hp:s.heap.IsList p items)(r:b8 (N0 s0) s.heap R l items.toList)(hz:l.length≤2^21)(hl:l.length<2^20)(S:St w s0 R H s)(hs:s.heap.IsSliceOf sl vl vu .none)(pl:qF lo vl)(pu:qF hi vu)
 (q:Q (.y H.length) (H++[.f (fu l lo hi)])):wpAny (model pw w) A (getItem (.ref p) (.ref sl)) (cG w s0 R s Q) cX s:=by
 have z:=r.length
 simp at z
 refine wpAny_getItem_list_slice hp hs pl.A1 pu.A1 .none (by simp) ?_ (by unfold sizeLine;omega)
 have:=cG.f S (r.Of lo hi) (Nat.le_trans (sd _ _ _) hz) q
 rw [←r8] at this
 omega
theorem Ig {p:Addr}{items:Array Value}{l:List V}(hp:IsTup s.heap p items)(r:b8 (N0 s0) s.heap R l items.toList)(hl:l.length<2^20)(S:St w s0 R H s)(hs:s.heap.IsSliceOf sl vl vu .none)(pl:qF lo vl)(pu:qF hi vu)
 (q:Q (.B (fu l lo hi)) H):wpAny (model pw w) A (getItem (.ref p) (.ref sl)) (cG w s0 R s Q) cX s:=by
 have z:=r.length
 simp at z
 refine vG hp hs pl.A1 pu.A1 (fun e=>?_) (cG.B S (r.Of lo hi) q) (by unfold sizeLine;omega)
 have rr:=r.Of lo hi
 rw [e] at rr
 exact .mq S (.B hp rr) q
end
section
variable {A:Around}{R:aJ}{H:AH}{s:Shared}{x:V}{a:Value}{Q:V→AH→Prop}
theorem wk {p:Addr}{ents:List DictEntry}{ep:Nat}{E:Value→Shared→Prop}{Q:Value→Shared→Prop}(hg:s.heap.get? p=some (dictOf ents ep))(hd:(p==sysModules)=false)(hfit:(ents.length:Int)<2^63)
 (h:Q (.int ents.length (s.toks+1)) {s with toks:=s.toks+1+1}):wpAny (model pw w) A (call (.builtin "len") [.ref p]) Q E s:=by
 have hT:s.TypeIs (.ref p) _:=⟨_,hg,rfl⟩
 exact Calls.call_function_entry rfl plain_len entry_len rfl (wpAny_bind (m:=callSpecial? _ _) (wpAny_callSpecial?_slot hT F.slot_dict_len
  (wpAny_call_entry F.slot_dict_len hT F.entry_dict_len (by show wpAny _ _ (dictSize p>>=_) _ _ s;refine wpAny_bind (wpAny_bind (wpAny_dictEntries hg rfl (wpAny_pure (wpAny_bind (wpAny_pendingCount_other hd ?_)))));apply wpAny_ret_mkInt;simp;refine wpAny_bind (wpAny_holding (wpAny_pure ?_));refine wpAny_bind (wpAny_letGo ?_);rw [if_neg (by omega),if_neg (by omega)];exact wpAny_bind (wpAny_mkInt (wpAny_pure (by simp_all)))) (F.args_dict_len_1 _))))
end
section
variable {A:Around}{R:aJ}{H:AH}{s:Shared}{x:V}{a:Value}{Q:V→AH→Prop}
theorem KZ (e:dj .U [x] H Q)(S:St w s0 R H s)(hx:VR (N0 s0) s.heap R x a)(hsys:∀p∈R,(p.2==sysModules)=false):wpAny (model pw w) A (call (.builtin "len") [a]) (cG w s0 R s Q) cX s:=by
 unfold dj at e;dsimp only at e;split at e
 ·cases hx with
  | @B l p items t r=>have z:=r.length;simp at z;refine PyProof.Rows.len_tuple t (by omega) (cG.jJ _ S (.j _ _) ?_);simp_all
 ·obtain⟨h1,e⟩:=e;cases hx;exact SBL.len (by simp [Str.length];omega) (cG.jJ _ S (.j _ _) e)
 ·split at e
  ·rename_i h1;obtain⟨p,items,ep,rfl,_,t,r,hz⟩:=bp S hx h1;have z:=r.length;simp at z;refine call_len_list (bU t) (by omega) (cG.jJ _ S (.j _ _) ?_);simp_all
  ·rename_i h1;obtain⟨p,ents,ep,rfl,hp,t,D,hn,hz⟩:=cO S hx h1;have z:=D.length;refine wk t (by grind) (by omega) (cG.jJ _ S (.j _ _) ?_);rw [←z];omega
  trivial
 trivial
end
section
variable {A:Around}{R:aJ}{H:AH}{s:Shared}{Q:V→AH→Prop}
theorem ye {n:Nat}{l:List V}{v:V}{c:Value}(h1:H[n]?=some (.f l))(hv:l.getLast?=some v)(S:St w s0 R H s)(ho:VR (N0 s0) s.heap R (.y n) c)(q:Q v (H.set n (.f l.dropLast))):
 wpAny (model pw w) A (call (.builtin "list.pop") [c]) (cG w s0 R s Q) cX s:=by
 obtain⟨p,items,ep,rfl,hR,hg,r,hl⟩:=bp S ho h1
 have hsz:=r.length
 simp at hsz
 have hne:l≠ [] :=by rintro rfl;simp at hv
 have hpos:=List.length_pos_iff.mpr hne
 rw [List.getLast?_eq_getElem?] at hv
 obtain⟨cv,hc,vc⟩:=r.jG hv
 have hy:items[items.size-1]?=some cv:=by rw [←hsz];simpa using hc
 refine call_meets PySem.F.slot_list_pop ⟨_,hg,rfl⟩ PySem.F.entry_list_pop (PySem.F.args_list_pop_1 _) (PySem.MeetsSeq.list_pop_last p _ ep cv hy (by simp [sizeLine];omega)) ⟨hg,?_⟩
 have hf:Obj.mapSeq (fun xs=>xs.eraseIdxIfInBounds (items.size-1)) (ir items ep)=ir items.pop (ep+1):=by
  have this:items.eraseIdxIfInBounds (items.size-1)=items.pop:=by grind
  have hne:¬(items.pop.size==items.size)=true:=by simp;omega
  show(⟨_,_,.seq (items.eraseIdxIfInBounds _) (if((items.eraseIdxIfInBounds _).size==items.size)=true then ep else ep+1),_⟩:Obj)=_;rw [this,if_neg hne]
 have z:=jU (t:=s.toks) S hR hg rfl hf (l:=l.dropLast) (by simpa [List.dropLast_eq_take,hsz] using r.take _) (by simp;omega)
 exact⟨R,v,_,q,z.2,z.1,vc.z8 hg (by simp) (S.Oa hR) (Heap.SameBut.update ..)⟩
end
section
variable {A:Around}{R:aJ}{H:AH}{s:Shared}{x y:V}{a b:Value}
theorem lL (a:Value)(ha:∀p,a≠.builtin p){E:Value→Shared→Prop}{Q:Bool→Shared→Prop}(q:Q (decide (a=.none)) s):wpAny (model pw w) A (isSame a .none) Q E s:=by cases a<;>first|exact absurd rfl (ha _)|(exact wpAny_pure (by omega))
theorem yV {Q:Bool→Prop}(e:jH x y H Q)(S:St w s0 R H s)(hx:VR (N0 s0) s.heap R x a)(hy:VR (N0 s0) s.heap R y b)(hu:A.units+5<cLine)(hsys:∀p∈R,(p.2==sysModules)=false):
 ∃r,Q r∧∃t,(∀Q':Value→Shared→Prop,Q' (.bool r) {s with toks:=t} →wpAny (model pw w) A (compareOp .In a b) Q' cX s)∧(∀Q':Value→Shared→Prop,Q' (.bool (!r)) {s with toks:=t} →wpAny (model pw w) A (compareOp .NotIn a b) Q' cX s):=by
 unfold jH at e
 split at e
 ·obtain⟨r,q,h1,h2⟩:=IY (A:=A) (Q:=fun r _=>Q r) (H:=H) e hx hy (by omega);exact⟨r,q,_,h1,h2⟩
 ·split at e
  ·rename_i hl;obtain⟨p,items,ep,rfl,_,t,r,hz⟩:=bp S hy hl;obtain⟨r,q,h1,h2⟩:=yW (A:=A) (Q:=fun r _=>Q r) (H:=H) e hx (bU t) r (by omega);exact⟨r,q,_,h1,h2⟩
  ·rename_i hd;obtain⟨p,ents,ep,rfl,hp,t,D,hn,hz⟩:=cO S hy hd;obtain⟨hk,e⟩:=e;have fl:=gx hk.1;have hs:=hsys _ (List.mem_of_getElem? hp);exact⟨_,e,_,fun Q' q=>IX hk D hn t fl (hx.bG 4 fl) hu hs q,fun Q' q=>ta hk D hn t fl (hx.bG 4 fl) hu hs q⟩
  trivial
 trivial
theorem zu {o:J6}{p:CmpOp}{Q:Bool→Prop}(ho:zm o p=true)(e:aI o x y H Q)(S:St w s0 R H s)(hx:VR (N0 s0) s.heap R x a)(hy:VR (N0 s0) s.heap R y b)(hu:A.units+5<cLine)(hsys:∀p∈R,(p.2==sysModules)=false):
 wpAny (model pw w) A (compareOp p a b) (fun c s'=>∃r t,c=.bool r∧Q r∧s'= {s with toks:=t}) cX s:=by
 have nb:∀p,a≠.builtin p:=fun p=>by rintro rfl;cases hx
 cases o<;>cases p<;>simp [zm] at ho<;>unfold aI at e
 ·obtain⟨r,q,h1,_⟩:=JX (Q:=fun r _=>Q r) e S hx hy hu hsys;exact h1 pw w _ _ ⟨r,_,rfl,q,rfl⟩
 ·obtain⟨r,q,_,h1⟩:=JX (Q:=fun r _=>Q _) e S hx hy hu hsys;exact h1 pw w _ _ ⟨!r,_,rfl,q,rfl⟩
 ·exact pT (H:=H) (o:=.lt) rfl (by simp) (by unfold aI;omega) hx hy (by grind)
 ·exact pT (H:=H) (o:=.le) rfl (by simp) (by unfold aI;omega) hx hy (by grind)
 ·exact pT (H:=H) (o:=.gt) rfl (by simp) (by unfold aI;omega) hx hy (by grind)
 ·exact pT (H:=H) (o:=.ge) rfl (by simp) (by unfold aI;omega) hx hy (by grind)
 ·obtain⟨rfl,q⟩:=e;cases hy;rw [ry hx] at q;exact wpAny_bind (lL a nb (wpAny_pure ⟨_,_,rfl,q,rfl⟩))
 ·obtain⟨rfl,q⟩:=e;cases hy;rw [ry hx] at q;exact wpAny_bind (lL a nb (wpAny_pure ⟨_,_,rfl,q,rfl⟩))
 ·obtain⟨r,q,t,h1,_⟩:=yV e S hx hy hu hsys;grind
 ·obtain⟨r,q,t,_,h1⟩:=yV e S hx hy hu hsys;grind
theorem xH {h:Heap}{a:Addr}{items:Array Value}(t:IsTup h a items):∃dd n sl,h.get? a=some {cls:=.type "tuple",dict:=dd,data:=.seq items n,slots:=sl} :=by obtain⟨⟨c,dd,da,sl⟩,e,hc,n,hd⟩:=t;grind
theorem JD {l b:Addr}{items items2:Array Value}{Q:Value→Shared→Prop}{E:Value→Shared→Prop}(ht:IsTup s.heap l items)(hb:IsTup s.heap b items2)(hz:items.size+items2.size≤sizeLine)
 (h0:items.toList=[] →Q (.ref b) s) (h1:items2.toList=[] →Q (.ref l) s) (h2:Q (.ref s.heap.objs.size) {s with heap:=s.heap.push {cls:=.type "tuple",data:=.seq (items++items2)} }):
 wpAny (model pw w) A (binaryOp .Add (.ref l) (.ref b)) Q E s:=by
 obtain⟨dd,n,sl,e1⟩:=xH ht
 obtain⟨dd',n',sl',e2⟩:=xH hb
 by_cases c0:items.isEmpty=true
 ·exact concat_meets ⟨_,e1,rfl⟩ ⟨_,e2,rfl⟩ noFill_tuple_add seq_tuple_add F.slot_tuple_add F.entry_tuple_add (F.args_tuple_add_2 _ _) (tuple_addW0 l b _ items2 n n' dd dd' sl sl' c0) (by grind)
 ·by_cases c1:items2.isEmpty=true
  ·exact concat_meets ⟨_,e1,rfl⟩ ⟨_,e2,rfl⟩ noFill_tuple_add seq_tuple_add F.slot_tuple_add F.entry_tuple_add (F.args_tuple_add_2 _ _) (tuple_addW1 l b _ _ n n' dd dd' sl sl' c0 c1) (by grind)
  ·exact concat_meets ⟨_,e1,rfl⟩ ⟨_,e2,rfl⟩ noFill_tuple_add seq_tuple_add F.slot_tuple_add F.entry_tuple_add (F.args_tuple_add_2 _ _) (tuple_addW2 l b _ _ n n' dd dd' sl sl' c0 c1 hz) (by simp_all)
theorem LC {o:tX}{p:Operator}{Q:V→AH→Prop}(ho:sj o p=true)(e:cw o x y H Q)(S:St w s0 R H s)(hx:VR (N0 s0) s.heap R x a)(hy:VR (N0 s0) s.heap R y b):
 wpAny (model pw w) A (binaryOp p a b) (cG w s0 R s Q) cX s:=by
 unfold cw at e
 split at e
 ·cases hx;cases hy;split at e
  ·rename_i hc;exact Jw ho hc S e
  simp_all
 ·obtain⟨rfl,hz,e⟩:=e;cases p<;>simp only [sj,Bool.false_eq_true] at ho;cases hx with
  | @B l1 a1 i1 t1 r1=>
   cases hy with
   | @B l2 a2 i2 t2 r2=>have z1:=r1.length;have z2:=r2.length;simp at z1 z2;exact JD t1 t2 (by unfold sizeLine;omega) (fun q=>by rw [q] at r1;cases r1;exact .mq S (.B t2 r2) e) (fun q=>by rw [q] at r2;cases r2;rw [List.append_nil] at e;exact .mq S (.B t1 r1) e) (by have:=cG.B (Q:=Q) S (r1.dp r2) e;rwa [show(i1.toList++i2.toList).toArray=i1++i2 from by simp] at this)
 ·split at e
  ·rename_i h1 h2;obtain⟨rfl,hz,e⟩:=e;cases p<;>simp only [sj,Bool.false_eq_true] at ho;obtain⟨p1,i1,ep1,rfl,_,t1,r1,_⟩:=bp S hx h1;obtain⟨p2,i2,ep2,rfl,_,t2,r2,_⟩:=bp S hy h2;have z1:=r1.length;have z2:=r2.length;simp at z1 z2;refine P.add_list t1 t2 ?_ (by unfold sizeLine;omega);have:=cG.f (Q:=Q) S (r1.dp r2) (by simp;omega) e;rwa [show(i1.toList++i2.toList).toArray=i1++i2 from by simp] at this
  trivial
 trivial
theorem St.dJ {h':Heap}{t:Nat}(S:St w s0 R H s)(k:∀b o,s.heap.get? b=some o→h'.get? b=some o):St w s0 R H {s with heap:=h',toks:=t} :=
 ⟨S.U,fun i ao p e e'=>(S.objs i ao p e e').P (fun _ _ ⟨o,h1,r⟩=>⟨o,k _ _ h1,r⟩) (fun _ _ _ ⟨o,h1,r⟩=>⟨o,k _ _ h1,r⟩) (by simp) (by simp_all) (by simp_all),S.W,S.bD,fun b o e=>k _ _ (S.N b o e),S.gens,S.os⟩
theorem cj.dJ {Z:Addr→Prop}{h':Heap}{t:Nat}(k:∀b o,s.heap.get? b=some o→h'.get? b=some o):cj Z R R s {s with heap:=h',toks:=t} :=
 ⟨by simp_all,by simp,by grind⟩
theorem b8.dJ {N:Heap}{h h':Heap}{R:aJ}{l:List V}{cs:List Value}(k:∀b o,h.get? b=some o→h'.get? b=some o)(x:b8 N h R l cs):b8 N h' R l cs:=
 x.P (fun _ _ ⟨o,h1,r⟩=>⟨o,k _ _ h1,r⟩) (fun _ _ _ ⟨o,h1,r⟩=>⟨o,k _ _ h1,r⟩) (by simp)
end
section
variable {A:Around}{R:aJ}{H:AH}{s:Shared}{x y:V}{a b:Value}{Q:V→AH→Prop}
theorem cG.xf {l:List V}{items:Array Value}{h':Heap}{t:Nat}(S:St w s0 R H s)(k:∀b o,s.heap.get? b=some o→h'.get? b=some o)(r:b8 (N0 s0) s.heap R l items.toList)(q:Q (.B l) H):
 cG w s0 R s Q (.ref h'.objs.size) {s with heap:=h'.push {cls:=.type "tuple",data:=.seq items},toks:=t} :=by
 have k':∀b o,s.heap.get? b=some o→(h'.push {cls:=.type "tuple",data:=.seq items}).get? b=some o:=fun b o e=>Heap.get?_push_of_some _ (k b o e)
 exact⟨R,_,_,q,.dJ k',S.dJ k',.B ⟨_,Heap.get?_push_size _ rfl,rfl,0,rfl⟩ (r.dJ k')⟩
theorem xG (e:dj .i0 [x] H Q)(S:St w s0 R H s)(hx:VR (N0 s0) s.heap R x a):wpAny (model pw w) A (call (.type "tuple") [a]) (cG w s0 R s Q) cX s:=by
 cases x<;>try trivial
 rename_i n;replace e:match H[n]? with
  |some (.f l)=>l.length<2^20∧Q _ H
  |_=>False:=e
 split at e
 ·rename_i h1;obtain⟨hz,e⟩:=e;obtain⟨p,items,ep,rfl,_,t,r,_⟩:=bp S hx h1;have z:=r.length;simp at z;exact call_tuple_list (bU t) (fun h' hk=>cG.xf S hk r e) (by unfold sizeLine;omega)
 trivial
theorem tg {i:Int}(h:i.natAbs<10^9):i.natAbs.log2<1920:=by
 rcases Nat.eq_zero_or_pos i.natAbs with e|e
 ·simp_all
 ·have:i.natAbs.log2<30:=(Nat.log2_lt (by omega)).mpr (by omega);omega
theorem Kx (e:dj .F [x] H Q)(S:St w s0 R H s)(hx:VR (N0 s0) s.heap R x a):wpAny (model pw w) A (call (.type "str") [a]) (cG w s0 R s Q) cX s:=by
 unfold dj at e;cases hx<;>simp at e
 ·obtain⟨h,e⟩:=e;exact P.str_of_int (tg h) (.jJ _ S (.F _ _) e)
 ·exact P.str_of_str (.mq S (.F _ _) e)
theorem yQ (e:dj .gV [x] H Q)(S:St w s0 R H s)(hx:VR (N0 s0) s.heap R x a):wpAny (model pw w) A (call (.builtin "isinstance") [a,.type "str"]) (cG w s0 R s Q) cX s:=by
 unfold dj at e;cases hx<;>simp at e
 ·exact IsiPair.int_str (.jJ _ S (.D _) e)
 ·exact IsiPair.str_str (.mq S (.D _) e)
theorem J2 {N:Heap}{h:Heap}{R:aJ} :∀ {l:List V} {bs:List Bool} {cs:List Value},fp l=some bs→b8 N h R l cs→cs=bs.map Value.bool
 |[],bs,_,e,.m=>by simp [fp] at e;simp_all
 |_::_,bs,_,e,.cons a r=>by cases a<;>simp [fp,reduceCtorEq] at e;obtain⟨bs',e,rfl⟩:=e;rw [J2 e r];rfl
theorem vU (bs:List Bool):((List.range bs.length).any fun i=>bs.getD i false)=bs.any id:=by
 rw [Bool.eq_iff_iff];simp only [List.any_eq_true,List.mem_range];constructor
 ·rintro⟨i,hi,h⟩;refine⟨_,List.getElem_mem hi,?_⟩;simp_all
 ·rintro⟨b,hb,rfl⟩;obtain⟨i,hi,h⟩:=List.mem_iff_getElem.mp hb;exact⟨i,hi,by simp_all⟩
theorem vV (bs:List Bool):((List.range bs.length).all fun i=>bs.getD i false)=bs.all id:=by
 rw [Bool.eq_iff_iff];simp only [List.all_eq_true,List.mem_range];constructor
 ·intro h b hb;obtain⟨i,hi,rfl⟩:=List.mem_iff_getElem.mp hb;simp_all
 ·intro h i hi;have:=h _ (List.getElem_mem hi);simp_all
theorem lG (bs:List Bool)(items:Array Value)(e:items.toList=bs.map Value.bool)(A:Around):TruthOf pw w A (fun i v=>items[i]?=some v) fun i=>bs.getD i false:=by
 intro i v s Q E hv q;have:(bs.map Value.bool)[i]?=some v:=by grind
 rw [List.getElem?_map,Option.map_eq_some_iff] at this;obtain⟨b,hb,rfl⟩:=this;apply wpAny_truthy_bool;grind
theorem pI {o:xc}{nm:String}(ho:(o=.uh∧nm="any")∨(o=.A7∧nm="all"))(hh:A.handled=none)(e:dj o [x] H Q)(S:St w s0 R H s)(hx:VR (N0 s0) s.heap R x a):wpAny (model pw w) A (call (.builtin nm) [a]) (cG w s0 R s Q) cX s:=by
 have core:∀ {n:Nat} {l:List V} {bs:List _} {f:List _→Bool},x=.y n→H[n]?=some (.f l)→fp l=some bs→Q (.D (f bs)) H→∃p items,a=.ref p∧s.heap.IsList p items∧items.size=bs.length∧items.toList=bs.map Value.bool:=by rintro n l bs f rfl h1 h2 q;obtain⟨p,items,ep,rfl,_,t,r,_⟩:=bp S hx h1;have z:=J2 h2 r;exact⟨p,_,rfl,bU t,by simpa using congrArg List.length z,z⟩
 have fin:∀ {p:Addr} {items:Array _} {bs:List _} {r:Bool},s.heap.IsList p items→items.size=bs.length→items.toList=bs.map Value.bool→Q (.D r) H→∀h' tk,(∀b o,b∉ [s.heap.objs.size] →(s.heap.push {cls:=.type "list_iterator",data:=.fields #[.ref p,.int 0 0] }).get? b=some o→h'.get? b=some o)→cG w s0 R s Q (.bool r) {s with heap:=h',toks:=tk} :=by intro p items bs r hl hz hi q h' tk hk;have k:=fun b o e=>hk b o (by simp;exact Nat.ne_of_lt (Heap.lt_size e)) (Heap.get?_push_of_some _ e);exact⟨R,_,_,q,.dJ k,S.dJ k,.D _⟩
 have hne:∀ {p:Addr} {items:Array _},s.heap.IsList p items→p≠s.heap.objs.size:=fun⟨_,e,_⟩=>Nat.ne_of_lt (Heap.lt_size e);cases x<;>try (rcases ho with⟨rfl,rfl⟩|⟨rfl,rfl⟩<;>exact False.elim e)
 rename_i n;rcases ho with⟨rfl,rfl⟩|⟨rfl,rfl⟩
 ·replace e:match H[n]? with
   |some (.f l)=>match fp l with|some bs=>Q _ H|none=>False
   |_=>False:=e
  split at e
  ·rename_i h1;split at e
   ·rename_i bs h2;obtain⟨p,items,rfl,hl,hz,hi⟩:=core (f:=fun bs=>bs.any id) rfl h1 h2 e;refine call_any_walk (wpAny_pyIter_list hl ⟨_,_,_,_,_,_,_,rfl,Walks.list (A:=A.in1) hh _ p (hne hl) _,⟨⟨_,Heap.get?_push_size _ rfl,rfl,rfl⟩,d9 hl _⟩,lG bs _ hi _,fun h' tk hk=>?_⟩);rw [hz,vU];exact fin hl hz hi e h' tk hk
   ·exact e.elim
  ·exact e.elim
 ·replace e:match H[n]? with
   |some (.f l)=>match fp l with|some bs=>Q _ H|none=>False
   |_=>False:=e
  split at e
  ·rename_i h1;split at e
   ·rename_i bs h2;obtain⟨p,items,rfl,hl,hz,hi⟩:=core (f:=fun bs=>bs.all id) rfl h1 h2 e;refine call_all_walk (wpAny_pyIter_list hl ⟨_,_,_,_,_,_,_,rfl,Walks.list (A:=A.in1) hh _ p (hne hl) _,⟨⟨_,Heap.get?_push_size _ rfl,rfl,rfl⟩,d9 hl _⟩,lG bs _ hi _,fun h' tk hk=>?_⟩);rw [hz,vV];grind
   ·exact e.elim
  ·exact e.elim
end
section
variable {A:Around}{R:aJ}{H:AH}{s:Shared}{x y:V}{a b:Value}{Q:V→AH→Prop}
theorem cG.Kc {l:List V}{items:Array Value}{ep:Nat}{h':Heap}{p:Addr}{t:Nat}(S:St w s0 R H s)(k:∀b o,s.heap.get? b=some o→h'.get? b=some o)(fr:s.heap.get? p=none)(hp:h'.get? p=some (ir items ep))
 (r:b8 (N0 s0) s.heap R l items.toList) (hz:l.length≤2^21) (q:Q (.y H.length) (H++[.f l])):cG w s0 R s Q (.ref p) {s with heap:=h',toks:=t} :=by
 have G:=S.dJ (t:=t) k
 have nw:OR _ w h' (R++[(p,p)]) _ _:=.f hp ((r.dJ k).P (by simp) (by simp) (kE _)) hz
 have hin:(R++[(p,p)])[H.length]?=some (p,p):=by rw [←S.U];simp
 refine⟨_,_,_,q,⟨fun b o e _ _=>k b o e,⟨_,rfl,by simp [fr]⟩,fun b o e=>⟨o,k b o e⟩⟩,⟨by simp [S.U],fun i bo q e e'=>?_,by rw [List.map_append,List.nodup_append];refine⟨S.W,by simp,fun a ha b hb q=>?_⟩;simp at hb;obtain⟨c,hc,rfl⟩:=List.mem_map.mp ha;obtain⟨_,_,_,_,x⟩:=S.at hc;obtain⟨_,e,_⟩:=x.w9;grind,fun q hq=>?_,G.N,G.gens,G.os⟩,.y hin⟩
 ·by_cases hi:i<H.length
  ·rw [List.getElem?_append_left hi] at e;rw [List.getElem?_append_left (S.U▸hi)] at e';exact(G.objs i bo q e e').P (by simp) (by simp) (kE _) (by simp) (by simp)
  ·have h1:=(List.getElem?_eq_some_iff.mp e).1;have:=by simp at h1;omega
   grind
 ·rcases List.mem_append.mp hq with hq|hq
  ·exact S.bD q hq
  ·simp at hq;subst hq;cases e:s0.heap.get? p with
   |none=>rfl
   |some o=>rw [S.N _ _ e] at fr;omega
theorem ny:∀ {l:List V} {is:List Int},iw l=some is→l=is.map V.j
 |[],is,e=>by simp [iw] at e;simp_all
 |v::r,is,e=>by cases v<;>simp [iw,reduceCtorEq] at e;obtain⟨is',e,rfl⟩:=e;rw [ny e];rfl
theorem DR.O8 {N:Heap}{h:Heap}{R:aJ}{es:List (V×V)}{ents:List DictEntry}(D:DR N w h R es ents):∀ {is:List Int},es.map (·.1)=is.map V.j→∃kvs:List (Int×Value),kvs.map (·.1)=is∧Pairs (intKind pw w) ents kvs∧∀e∈ents,∃k,(intKind pw w).is k e.key=true∧e.hash=(intKind pw w).hash k:=by
 induction D with
 |m=>intro is e;cases is with
  |nil=>exact⟨[],rfl,.nil,by simp⟩
  |cons=>trivial
 | @cons k v e es cs a b r ih=>
  intro is q;cases is with
  |nil=>trivial
  |cons i is=>
   simp at q;obtain⟨rfl,q⟩:=q;obtain⟨kvs,h1,h2,h3⟩:=ih q;obtain⟨fl,hh,ky⟩:=a;obtain⟨eh,ek,ev⟩:=e;cases ky with
   |j _ t=>
    refine⟨(i,ev)::kvs,by simp [h1],.cons (by simp [intKind,Value.isInt]) rfl h2,fun e' he=>?_⟩;rcases List.mem_cons.mp he with rfl|he
    ·exact⟨i,by simp [intKind,Value.isInt],by trivial⟩
    simp_all
theorem ow {n:Nat}{kvs:List (Int×Value)}{acc:Array Value}(h:ItemsOf (fun i v=>∃k x,kvs[i]?=some (k,x)∧(intKind pw w).is k v=true) acc kvs.length):IntsAre acc.toList (kvs.map (·.1)):=by
 obtain⟨hz,h⟩:=h;have key:∀(kvs:List (Int×Value)) (l:List _),l.length=kvs.length→(∀(j:Nat) (v:Value),l[j]?=some v→∃k x,kvs[j]?=some (k,x)∧(intKind pw w).is k v=true)→IntsAre l (kvs.map (·.1)):=by
  intro kvs;induction kvs with
  |nil=>intro l hl _;cases l with
   |nil=>exact .nil
   |cons=>trivial
  |cons p r ih=>
   intro l hl h;cases l with
   |nil=>trivial
   |cons v l=>
    obtain⟨k,x,e,q⟩:=h 0 v rfl;simp at e;subst e;have:∃t,v=.int k t:=by cases v<;>simp [intKind,Value.isInt] at q;subst q;simp
    obtain⟨t,rfl⟩:=this;exact .cons k t (ih l (by simpa using hl) fun j v e=>by have:=h (j+1) v (by trivial);trivial)
 grind
theorem b8.Mr {N:Heap}{h:Heap}{R:aJ} :∀ {vs:List Value} {is:List Int},IntsAre vs is→b8 N h R (is.map V.j) vs
 |_,_,.nil=>.m
 |_,_,.cons n t r=>.cons (.j n t) (b8.Mr r)
theorem vN (hh:A.handled=none)(e:dj .dO [x] H Q)(S:St w s0 R H s)(hx:VR (N0 s0) s.heap R x a)(hsys:∀p∈R,(p.2==sysModules)=false):wpAny (model pw w) A (call (.builtin "sorted") [a]) (cG w s0 R s Q) cX s:=by
 cases x<;>try trivial
 rename_i n;replace e:match H[n]? with
  |some (.i es)=>match iw _ with
   |some is=>es.length<64∧Q _ _
   |none=>False
  |_=>False:=e
 split at e;case h_2=>trivial
 rename_i es h1;split at e;case h_2=>trivial
 rename_i is h2;obtain⟨h64,e⟩:=e;obtain⟨p,ents,ep,rfl,hp,hg,D,hn,hz⟩:=cO S hx h1;have hm:=ny h2;obtain⟨kvs,k1,k2,k3⟩:=D.O8 hm;have hlen:=by
  have:(kvs.map (·.1)).length=(es.map (·.1)).length:=by rw [k1,hm];simp
  simpa using this
 have hnd:(kvs.map (·.1)).Nodup:=by grind
 have hat:s.heap.DictAt _ p kvs ep:=⟨_,_,hg,⟨rfl,rfl,rfl⟩,rfl,fun e he=>k3 e (by simpa using he),by omega,hnd⟩;apply call_function_entry kind_sorted plain_sorted entry_sorted (args_sorted1 _);refine wpAny_bind (wpAny_pure (wpAny_bind (kdu_collect (kdl_dict (hsys _ (List.mem_of_getElem? hp))) hh hat (by unfold sizeLine;omega) fun h' tk acc hk hacc=>?_)));have hl:acc.toList.length=kvs.length:=hacc.1;refine wpAny_bind (wpAny_newList ?_ (by unfold sizeLine;omega));have hoL:(h'.push _).get? _=some (seqObj "list" acc.toList.toArray 0):=Heap.get?_push_size _ rfl;refine wpAny_bind (wpAny_holding (wpAny_call_entry slot_list_sort ⟨_,hoL,rfl⟩ entry_list_sort (list_sort_tree hoL (ow (n:=0) hacc) (by omega) fun out ns' a1 a2 a3=>⟨_,rfl,wpAny_pure ⟨_,rfl,?_⟩⟩) (args_list_sort _)));have hs:ns'=is.mergeSort fun a b=>decide (a≤b):=by exact lks_uniq (a2.trans (by rw [k1];exact(List.mergeSort_perm _ _).symm)) a3 ((List.pairwise_mergeSort (le:=fun a b=>decide (a≤b)) (by grind) fun a b=>by simp;omega is).imp (by simp))
 have fr:s.heap.get? h'.objs.size=none:=by
  cases q:s.heap.get? _ with
  |none=>rfl
  |some o=>exact absurd (Heap.lt_size (hk _ _ q)) (by simp)
 have k:∀b o,s.heap.get? b=some o→(sortedHeap (h'.push {cls:=.type "list",data:=.seq acc.toList.toArray}) h'.objs.size acc.toList out).get? b=some o:=fun b o e=>by rw [sortedHeap_old (by grind) (by rw [Heap.size_push];exact Nat.lt_succ_of_lt (Heap.lt_size (hk _ _ e)))];exact Heap.get?_push_of_some _ (hk _ _ e)
 obtain⟨ep',hat'⟩:=sortedHeap_at hoL;refine cG.Kc S k fr hat' (by rw [←hs];exact b8.Mr a1) ?_ e
 ·have:(is.map V.j).length=es.length:=by rw [←hm];simp
  simp at this ⊢;omega
end
section
variable {A:Around}{R:aJ}{H:AH}{s:Shared}{x y:V}{a b:Value}{Q:V→AH→Prop}
theorem Jg {o:V}{vs:List V}{c:Value}{cs:List Value}(e:rJ o vs H fun v=>Q v H)(S:St w s0 R H s)(ho:VR (N0 s0) s.heap R o c)(hv:b8 (N0 s0) s.heap R vs cs)(hu:A.units+6<cLine)(hsys:∀p∈R,(p.2==sysModules)=false):
 wpAny (model pw w) A (call (.builtin "dict.get") (c::cs)) (cG w s0 R s Q) cX s:=by
 unfold rJ at e
 split at e
 case h_2=>exact e.elim
 split at e
 case h_2=>exact e.elim
 rename_i es h1
 obtain⟨p,ents,ep,rfl,hp,hg,D,hn,hz⟩:=cO S ho h1
 have hs:=hsys _ (List.mem_of_getElem? hp)
 have hT:s.TypeIs (.ref p) _:=⟨_,hg,rfl⟩
 have core:∀ {k d:V} {ck cd:Value},bI k es→VR (N0 s0) s.heap R k ck→VR (N0 s0) s.heap R d cd→Q ((bR k es).getD d) H→∀ {Q':Value→Shared→Prop},(∀c s',cG w s0 R s Q c s'→Q' c s')→wpAny (model pw w) A.in1 (dictGet p ck) (fun r s'=>match r with|some v=>Q' v s'|none=>Q' cd s') cX s:=by
  intro k d ck cd hk hc hd q Q' hq;have fl:=gx hk.1;have hc0:VR {} _ [] k ck:=hc.bG 4 fl;refine gT hk D hn hg fl hc0 (by grind) fun r hr=>?_;cases hl:bR k es with
  |none=>
   rw [hl] at hr q;cases r with
   |some _=>trivial
   |none=>exact hq _ _ (.jJ _ S hd q)
  |some v=>
   rw [hl] at hr q;cases r with
   |none=>trivial
   |some c'=>exact hq _ _ (.jJ _ S hr q)
 split at e
 ·cases hv with
  |cons hk1 r=>
   cases r;refine wpAny_call_entry F.slot_dict_get hT F.entry_dict_get ?_ (F.args_dict_get_2 _ _);show wpAny _ _ (dictGet p _>>=_) _ _ s;refine wpAny_bind (wpAny_mono (core e.1 hk1 .aE e.2 fun _ _ z=>z) (fun r s' z=>?_) fun _ _ z=>z);cases r with
   |some v=>exact wpAny_pure ⟨v,rfl,z⟩
   |none=>exact wpAny_bind (wpAny_missed_other hs (wpAny_pure ⟨_,rfl,z⟩))
 ·cases hv with
  |cons hk1 r=>
   cases r with
   |cons hk2 r=>
    cases r;refine wpAny_call_entry F.slot_dict_get hT F.entry_dict_get ?_ (F.args_dict_get_3 _ _ _);show wpAny _ _ (dictGet p _>>=_) _ _ s;refine wpAny_bind (wpAny_mono (core e.1 hk1 hk2 e.2 fun _ _ z=>z) (fun r s' z=>?_) fun _ _ z=>z);cases r with
    |some v=>exact wpAny_pure ⟨v,rfl,z⟩
    |none=>exact wpAny_bind (wpAny_missed_other hs (wpAny_pure ⟨_,rfl,z⟩))
 trivial
theorem DR.Mu {N:Heap}{h:Heap}{R:aJ}{k:V}{es:List (V×V)}{ents:List DictEntry}(D:DR N w h R es ents):∀ {j:Nat},ix k es=some j→DR N w h R (di k es) (ents.eraseIdx j):=by
 induction D with
 |m=>intro j h;trivial
 | @cons k' v e es cs a b r ih=>
  intro j hj;unfold ix at hj;rw [List.findIdx?_cons] at hj;unfold di;by_cases q:k'=k
  ·grind
  ·simp [decide_eq_false q,if_false] at hj;obtain⟨i,hi,rfl⟩:=hj;rw [if_neg q];exact .cons a b (ih hi)
theorem lp {k:V} :∀ {es:List (V×V)},(di k es).Sublist es
 |[] =>.slnil
 |e::r=>by
  unfold di;split
  ·simp
  ·exact .cons_cons _ lp
theorem mQ {p:Addr}{k v:V}{ck:Value}{es:List (V×V)}{ents:List DictEntry}{ep n:Nat}{E:Value→Shared→Prop}{Q:Option DictEntry→Shared→Prop}(S:St w s0 R H s)(hp:R[n]?=some (p,p))(h1:H[n]?=some (.i es))
 (hk:bI k es) (D:DR (N0 s0) w s.heap R es ents) (hn:(es.map (·.1)).Nodup) (hz:es.length≤2^21) (hg:s.heap.get? p=some (dictOf ents ep)) (hc:VR (N0 s0) s.heap R k ck) (hu:A.units+4<cLine) (hl:bR k es=some v)
 (q:∀e s',VR (N0 s0) s'.heap R v e.val→St w s0 R (H.set n (.i (di k es))) s'→cj hF R R s s'→Q (some e) s'):wpAny (model pw w) A (Builtin.Dict.takeOut p ck) Q E s:=by
 have fl:=gx hk.1
 unfold Builtin.Dict.takeOut
 with_reducible apply wpAny_holding
 have hc0:VR {} _ [] k ck:=hc.bG 4 fl
 refine wpAny_bind (fB 4 fl hc0 hu (wpAny_bind (iJ hk D hn hg fl hc0 hu ?_)))
 cases hi:ix k es with
 |none=>rw [pZ hi] at hl;cases hl
 |some j=>
  obtain⟨e,v',e1,e2,e3⟩:=D.jG hi
  obtain rfl:v=v':=Option.some.inj (by simp_all)
  refine wpAny_bind (wpAny_dictEntries hg rfl ?_)
  have:ents.toArray[j]?=some e:=by simp_all
  rw [this]
  have hlen:=D.length
  refine wpAny_bind (wpAny_updateDictKeys hg rfl (wpAny_pure ?_))
  have hf:Obj.mapDictKeys (fun es=>es.eraseIdxIfInBounds j) (dictOf ents ep)=dictOf (ents.eraseIdx j) (ep+1):=by show(⟨_,_,_,_⟩:Obj)=_;simp
  have hs:Heap.SameBut p _ (s.heap.update p (Obj.mapDictKeys fun es=>es.eraseIdxIfInBounds j)):=Heap.SameBut.update ..
  have z:=St.NV (t:=s.toks+wN 4 k) S hp hs (.i (ep:=ep+1) ((Heap.get?_update_self _ hg (by rfl)).trans (by simp_all)) ((D.Mu hi).P (R':=R) (fun _ _ t=>mU hg rfl hs t) (fun _ _ _ t=>kN hg rfl hs t) (by simp)) ((lp.map _).nodup hn) (Nat.le_trans lp.length_le hz))
  exact q e _ (e3.z8 hg (by simp) (S.Oa hp) hs) z.1 z.2
theorem Ji {o i:V}{c d:Value}{Q:AH→Prop}(e:lZ o i H Q)(S:St w s0 R H s)(ho:VR (N0 s0) s.heap R o c)(hi:VR (N0 s0) s.heap R i d)(hu:A.units+5<cLine):
 wpAny (model pw w) A (delItem c d) (fun _ s'=>cG w s0 R s (fun v H=>v=.aE∧Q H) .none s') cX s:=by
 unfold lZ at e
 split at e
 case h_2=>trivial
 split at e
 case h_2=>trivial
 rename_i es h1
 obtain⟨hk,hl,e⟩:=e
 obtain⟨v,hl⟩:=Option.isSome_iff_exists.mp hl
 obtain⟨p,ents,ep,rfl,hp,hg,D,hn,hz⟩:=cO S ho h1
 have hT:s.TypeIs (.ref p) _:=⟨_,hg,rfl⟩
 refine wpAny_delItem_slot hT (by rfl) F.slot_dict_delitem (wpAny_call_entry F.slot_dict_delitem hT F.entry_dict_delitem ?_ (F.args_dict_delitem_2 _ _))
 apply wpAny_bind
 refine wpAny_bind (wpAny_notOrdered_dict hT ?_)
 apply wpAny_pure
 show wpAny _ _ (Builtin.Dict.takeOut p d>>=_) _ _ s
 exact wpAny_bind (mQ S hp h1 hk D hn hz hg hi (by omega) hl fun e' s' v' S' X'=>wpAny_bind (wpAny_letGo (wpAny_pure ⟨_,rfl,R,_,_,⟨rfl,e⟩,X',S',.aE⟩)))
theorem Je {n:Nat}{k v:V}{c d:Value}{es:List (V×V)}(h1:H[n]?=some (.i es))(hk:bI k es)(hl:bR k es=some v)(q:Q v (H.set n (.i (di k es))))(S:St w s0 R H s)(ho:VR (N0 s0) s.heap R (.y n) c)(hi:VR (N0 s0) s.heap R k d)(hu:A.units+5<cLine):
 wpAny (model pw w) A (call (.builtin "dict.pop") [c,d]) (cG w s0 R s Q) cX s:=by
 obtain⟨p,ents,ep,rfl,hp,hg,D,hn,hz⟩:=cO S ho h1
 have hT:s.TypeIs (.ref p) _:=⟨_,hg,rfl⟩
 refine wpAny_call_entry F.slot_dict_pop hT F.entry_dict_pop ?_ (F.args_dict_pop_2 _ _)
 apply wpAny_bind
 refine wpAny_bind (wpAny_notOrdered_dict hT ?_)
 apply wpAny_pure
 have fin:wpAny _ A.in1 (Builtin.Dict.takeOut p d) (fun old s'=>∃e,old=some e∧cG w s0 R s Q e.val s') cX s:=
  mQ S hp h1 hk D hn hz hg hi (by omega) hl fun e' s' v' S' X'=>⟨e',rfl,R,v,_,q,X',S',v'⟩
 have rest:wpAny (model pw w) A.in1 (Builtin.Dict.takeOut p d) (fun old s'=>wpAny (model pw w) A.in1 (do
  if old.isNone then Builtin.Dict.missedRemoval p d
  match old,none with
  |some e,_=>do letGo [e.key] [e.val];ret e.val
  |none,some x=>do rule "dict.pop.default";ret x
  |none,none=>do rule "dict.pop.keyerror";raiseNew (←newExc (.type "KeyError") [d])) (fun fin s'=>∃v,fin=.done (.ret v)∧cG w s0 R s Q v s') cX s') cX s:=by
  refine wpAny_mono fin (fun old s' z=>?_) (by simp)
  obtain⟨e',rfl,z⟩:=z
  exact wpAny_bind (wpAny_letGo (wpAny_pure (by simp_all)))
 by_cases hpart:(keyPart d).isSome=true
 ·simp only [hpart];exact wpAny_bind (wpAny_pure (wpAny_bind rest))
 ·simp only [hpart];refine wpAny_bind (wpAny_dictEntries hg rfl (wpAny_bind (wpAny_pure ?_)));have:ents.toArray.isEmpty=false:=by
   cases D with
   |m=>trivial
   |cons=>rfl
  rw [this];exact wpAny_bind rest
theorem I9 {k:Int}(h0:0≤k)(h1:k<2^30):Builtin.List.listFitsIndex k=true:=by simp [Builtin.List.listFitsIndex,Bool.and_eq_true];omega
theorem Ij {o i v:V}{c d u:Value}{Q:AH→Prop}(e:cD o i v H Q)(S:St w s0 R H s)(ho:VR (N0 s0) s.heap R o c)(hi:VR (N0 s0) s.heap R i d)(hv:VR (N0 s0) s.heap R v u)(hu:A.units+5<cLine):
 wpAny (model pw w) A (setItem c d u) (fun _ s'=>cG w s0 R s (fun v H=>v=.aE∧Q H) .none s') cX s:=by
 unfold cD at e
 split at e
 case h_2=>exact e.elim
 split at e
 case h_3=>exact e.elim
 ·rename_i l h1;split at e;case h_2=>trivial
  obtain⟨h0,h2,h3,e⟩:=e;cases hi;obtain⟨p,items,ep,rfl,hp,hg,r,hz⟩:=bp S ho h1;have zr:=r.length;simp at zr;have hT:s.TypeIs (.ref p) "list":=⟨_,hg,rfl⟩;unfold setItem;with_reducible apply wpAny_holding
  refine wpAny_bind (wpAny_sequenceKey hT (by rfl) (wpAny_bind (wpAny_callSpecial?_slot hT slot_list_setitem
   (wpAny_call_entry slot_list_setitem hT entry_list_setitem ?_ (args_list_setitem _ _ _)))))
  show wpAny _ _ (Builtin.List.listSubscript? _>>=_) _ _ s;refine wpAny_bind (wpAny_listSubscript_int (I9 h0 h2) ?_);obtain⟨j,rfl⟩:=Int.eq_ofNat_of_zero_le h0;have hj:j<items.size:=by omega
  have hx':=Array.getElem?_eq_getElem hj;refine wpAny_bind (wpAny_bind (wpAny_seqItemAt hg rfl (wpAny_pure ?_)));rw [hx'];have hf:Obj.mapSeq (·.setIfInBounds j u) (ir items ep)=ir (items.setIfInBounds j u) ep:=by show(⟨_,_,_,_⟩:Obj)=_;simp
  have z:=jU (t:=s.toks) S hp hg rfl hf (by simpa using r.set hv j) (by simp_all);exact wpAny_bind (wpAny_setSeqItemAt hg rfl (wpAny_pure ⟨.none,rfl,wpAny_pure ⟨R,.aE,_,⟨rfl,e⟩,z.2,z.1,.aE⟩⟩))
 ·rename_i es h1;obtain⟨hk,hz',e⟩:=e;obtain⟨p,ents,ep,rfl,hp,hg,D,hn,hz⟩:=cO S ho h1;have fl:=gx hk.1;refine pR hk D hn hz hg fl (hi.bG 4 fl) hv hu fun h' ents' ep' a b c=>?_;have hn':((eA i v es).map (·.1)).Nodup:=by
   cases hix:ix i es with
   |none=>rw [mY hix,List.map_append,List.nodup_append];refine⟨hn,by simp,fun a ha b hb q=>?_⟩;simp at hb;subst hb q;obtain⟨e',he',rfl⟩:=List.mem_map.mp ha;have:=List.findIdx?_eq_none_iff.mp hix e' he';simp at this
   |some j=>
    have:∀es,(ix i es).isSome=true→(eA i v es).map (·.1)=es.map (·.1):=by
     intro es;induction es with
     |nil=>simp [ix]
     |cons e r ih=>
      intro h;unfold eA;split
      ·rename_i q;simp [q]
      ·have:(ix i r).isSome=true:=by unfold ix at h ⊢;grind
       simp [ih this]
    rw [this es (by rw [hix];rfl)];omega
  have hzl:(eA i v es).length≤2^21:=by
   have:∀es,(eA i v es).length≤es.length+1:=by
    intro es;induction es with
    |nil=>simp [eA]
    |cons e r ih=>unfold eA;split<;>simp;omega
   have:=this es;omega
  have z:=St.NV (t:=s.toks+wN 4 i) S hp a (.i b c hn' hzl);exact⟨R,.aE,_,⟨rfl,e⟩,z.2,z.1,.aE⟩
theorem yN {α:Type}(sel:Nat→Bool)(xs:List α)(h:∀k,k<xs.length→sel k=false):(xs.zipIdx.filterMap fun x=>if sel x.2=true then none else some x.1)=xs:=by
 have gen:∀(xs:List α) (i:Nat),(∀k,i≤k→k<i+xs.length→sel k=false)→((xs.zipIdx i).filterMap fun x=>if sel x.2=true then none else some x.1)=xs:=by
  intro xs;induction xs with
  |nil=>simp
  |cons x r ih=>intro i h;rw [List.zipIdx_cons];grind
 grind
theorem zM {items:Array Value}{sel:Nat→Bool}(h:∀k,k<items.size→sel k=false):(List.filterMap (fun x=>if sel x.2=true then none else some x.1) items.toList.zipIdx).toArray=items:=by rw [yN sel _ ‹_›]
theorem Jh {o lo:V}{c vl:Value}{sl:Addr}{Q:AH→Prop}(e:pA o lo H Q)(S:St w s0 R H s)(ho:VR (N0 s0) s.heap R o c)(hl:VR (N0 s0) s.heap R lo vl)(hs:s.heap.IsSliceOf sl vl .none .none):
 wpAny (model pw w) A (delItem c (.ref sl)) (fun _ s'=>cG w s0 R s (fun v H=>v=.aE∧Q H) .none s') cX s:=by
 unfold pA at e
 split at e
 case h_2=>exact e.elim
 rename_i n i
 split at e
 case h_2=>exact e.elim
 rename_i l h1
 obtain⟨hi,hz',e⟩:=e
 cases hl
 rename_i t
 obtain⟨p,items,ep,rfl,hp,hg,r,hz⟩:=bp S ho h1
 have zr:=r.length
 simp at zr
 have hT:s.TypeIs (.ref p) "list":=⟨_,hg,rfl⟩
 obtain⟨os,hos,hcs,hds⟩:=id hs
 have hTs:s.TypeIs (.ref sl) _:=⟨os,hos,hcs⟩
 have hsz:items.size≤sizeLine:=by unfold sizeLine;omega
 refine wpAny_delItem_slot hT (by decide) F.slot_list_delitem (wpAny_call_entry F.slot_list_delitem hT F.entry_list_delitem ?_ (F.args_list_delitem_2 _ _))
 show wpAny _ _ (Builtin.List.listSubscript? _>>=_) _ _ s
 apply wpAny_bind
 refine wpAny_bind (wpAny_specialOf hTs slice_no_index ?_)
 simp only
 apply wpAny_pure
 refine wpAny_bind (wpAny_typeOf hTs (wpAny_bind (wpAny_bind (wpAny_field hos hds rfl (wpAny_bind (wpAny_listPart .none (wpAny_bind (wpAny_field hos hds rfl (wpAny_bind (wpAny_listPart (.int i t) (wpAny_bind (wpAny_field hos hds rfl (wpAny_bind (wpAny_listPart .none (wpAny_pure ?_)))))))))))))))
 apply wpAny_bind
 refine wpAny_bind (wpAny_seqItems hg rfl (wpAny_pure (wpAny_bind (wpAny_of_eq (sliceIndices_raw (some i) none none _ (by simp)) ?_))))
 have hb:sliceBounds (some i) none none items.size=(i,i,1):=by unfold sliceBounds;grind
 rw [hb]
 have z:∀f,f items=items→St w s0 R H {s with heap:=s.heap.update p (Obj.mapSeq f)} ∧cj hF R R s {s with heap:=s.heap.update p (Obj.mapSeq f)} :=by
  intro f hf;have z:=jU (t:=s.toks) (ep:=ep) (f:=Obj.mapSeq f) S hp hg rfl (by show(⟨_,_,_,_⟩:Obj)=_;simp_all) r hz
  rwa [show H.set n _=H from by obtain⟨hn,hg'⟩:=List.getElem?_eq_some_iff.mp h1;rw [←hg'];simp] at z
 have sz:∀f:Array Value→Array Value,f items=items→(f items).size≤sizeLine+1:=fun f hf=>by rw [hf];omega
 have z':∀f,f items=items→∀ {rest:Unit→Sem Fin},(∀(Q:Fin→Shared→Prop) (s:Shared),Q (.done (.ret .none)) s→wpAny (model pw w) A.in1 (rest ()) Q cX s)→wpAny (model pw w) A.in1 (Builtin.List.listUpdate (.ref p) f>>=rest) (fun fin s'=>∃v,fin=.done (.ret v)∧cG w s0 R s (fun v H=>v=.aE∧Q H) .none s') cX s:=by intro f hf rest hr;exact wpAny_bind (listUpdate_at hg rfl (hr _ _ ⟨.none,rfl,R,.aE,H,⟨rfl,e⟩,(z _ hf).2,(z _ hf).1,.aE⟩) hsz (sz _ hf))
 refine z' _ ?_ fun Q s q=>wpAny_bind (wpAny_letGo (wpAny_pure q))
 apply zM (sel:=fun k=>if(1)>0 then(decide (i≤(k))&&decide ((k)<i)&&((k)-i)%1==0) else(decide (i<(k))&&decide ((k)≤i)&&(i-(k))%(-1)==0))
 intro k hk
 rw [decide_eq_false (by omega)];rfl
end
def bP (w:World)(s0:Shared):Prop:=(Kf w).In s0.heap
section
variable {A:Around}{R:aJ}{H:AH}{s:Shared}{x y:V}{a b:Value}{Q:V→AH→Prop}
theorem bP.K (B:bP w s0)(S:St w s0 R H s):(Kf w).In s.heap:=Frag.In.keeps B fun b o e=>S.N b o e
theorem Oq {P:Nat→Bool}(h:(List.range 8).all P=true){c:Nat}(hc:c<8):P c=true:=List.all_eq_true.mp h c (by simp_all)
theorem nB {c a:Nat}(hc:c<8)(ha:dF a=true):findIn (Kf w) (.ref (ca c)) (bK a)=some none:=by
 have a54:=by simp [dF,Bool.and_eq_true] at ha;omega
 have:=List.all_eq_true.mp (Oq (wI w) hc) a (by simp_all);grind
structure O0 (w:World) (c:Nat):Prop where
 JM:makesIn (Kf w) (ca c)=true
 lD:plainOver (Kf w) (ca c)=true
 i:(clsIn (Kf w) (ca c)).any (·.hasDict)=true
 ga:findIn (Kf w) (.ref (ca c)) "__getattribute__"=some (some (.builtin "object.__getattribute__"))
 gt:findIn (Kf w) (.ref (ca c)) "__getattr__"=some none
 sa:findIn (Kf w) (.ref (ca c)) "__setattr__"=some (some (.builtin "object.__setattr__"))
theorem uU {c:Nat}(hc:c<8):O0 w c:=by have h:=Oq (Jo w) hc;simp [J0,beq_iff_eq] at h;obtain⟨⟨⟨⟨⟨h1,h2⟩,h3⟩,h4⟩,h5⟩,h6⟩:=h;exact⟨h1,h2,h3,h4,h5,h6⟩
theorem pF {a b:Nat}(ha:a<54)(hb:b<54)(e:bK a=bK b):a=b:=by unfold bK at e;rw [List.getD_eq_getElem?_getD,List.getD_eq_getElem?_getD,List.getElem?_eq_getElem (by assumption),List.getElem?_eq_getElem (by assumption)] at e;exact(List.getElem_inj tR).mp e
theorem o5 (x:Str)(t:Tok)(y:Str):(Value.str x t).isStr y=decide (x=y):=by rfl
theorem FR.pM {N:Heap}{h:Heap}{R:aJ}{a:Nat}(ha:a<54){fs:List (Nat×V)}{ents:List DictEntry}(F:FR N w h R fs ents):
 (match qj a fs with
  |some v=>∃e,ents.find? (·.key.isStr (bK a))=some e∧VR N h R v e.val
  |none=>ents.find? (·.key.isStr (bK a))=none∧ents.any (·.refKey)=false):=by
 induction F with
 |m=>trivial
 | @cons b v e t fs cs hb hk hh hv r ih=>
  unfold qj
  have q:e.key.isStr (bK a)=decide (b=a):=by rw [hk,o5,decide_eq_decide];exact⟨fun q=>pF hb ha q,by simp_all⟩
  rw [List.find?_cons,q]
  by_cases hba:b=a
  ·grind
  ·simp only [hba];cases hf:qj a fs with
   |some v'=>simp_all
   |none=>rw [hf] at ih;refine⟨ih.1,?_⟩;rw [List.any_cons,ih.2,Bool.or_false];unfold DictEntry.refKey;rw [hk]
theorem FR.length {N:Heap}{h:Heap}{R:aJ}{fs:List (Nat×V)}{ents:List DictEntry}(F:FR N w h R fs ents):fs.length=ents.length:=by
 induction F with
 |m=>rfl
 |cons _ _ _ _ _ ih=>simp [ih]
theorem FR.Mn {N:Heap}{h:Heap}{R:aJ}{fs:List (Nat×V)}{ents:List DictEntry}(F:FR N w h R fs ents):ents.any (·.refKey)=false:=by
 induction F with
 |m=>rfl
 | @cons b v e t fs cs hb hk hh hv r ih=>rw [List.any_cons,ih,Bool.or_false];unfold DictEntry.refKey;rw [hk]
theorem uN {at_:Nat}{expr:Bool}{Q':Value→Shared→Prop}{E:Value→Shared→Prop}{Q:V→Prop}(B:bP w s0)(e:aX x at_ H Q)(S:St w s0 R H s)(hx:VR (N0 s0) s.heap R x a)
 (q:∀v c t,Q v→VR (N0 s0) s.heap R v c→Q' c {s with toks:=t}):wpAny (model pw w) A (getAttr a (bK at_) expr) Q' E s:=by
 unfold aX at e
 split at e
 case h_2=>trivial
 split at e
 case h_2=>trivial
 rename_i c fs h1
 obtain⟨hc,hf,e⟩:=e
 split at e
 case h_2=>trivial
 rename_i v hv
 obtain⟨p,d,ents,ep,rfl,hp,g1,g2,F⟩:=nA S hx h1
 have C:=uU (w:=w) hc
 have a54:at_<54:=by simp [dF,Bool.and_eq_true] at hf;omega
 have z:=F.pM a54
 rw [hv] at z
 obtain⟨en,he,vr⟩:=z
 have I:InstAt _ p _ _ (some _):=⟨g1,rfl,rfl,g2⟩
 have hl:lookIn (bK at_) (dictOf ents ep)=some (some en.val):=by unfold lookIn;simp_all
 obtain⟨cd,hcd,hdd⟩:=any_some C.i
 have hfo:findObj (Kf w) (ca c) (some (dictOf ents ep)) (bK at_)=some (.value en.val):=by unfold findObj;rw [hcd,nB hc hf];simp only [Option.bind_some,PySem.W.ownOf,hdd,if_true,hl]
 refine get_value (B.K S) I C.ga hfo ?_ (q _ _ _ e vr)
 revert vr
 generalize en.val=cv
 intro vr
 cases vr<;>rfl
theorem FR.set {N:Heap}{h:Heap}{R:aJ}{a:Nat}{v:V}{c:Value}{t:Tok}(ha:a<54)(hv:VR N h R v c){fs:List (Nat×V)}{ents:List DictEntry}(F:FR N w h R fs ents):
 FR N w h R (aL a v fs) (match ents.findIdx? (·.key.isStr (bK a)) with|some i=>ents.modify i fun e=> {e with val:=c} |none=>ents++[⟨hashStr w (bK a),.str (bK a) t,c⟩]):=by
 induction F with
 |m=>exact .cons ha rfl rfl hv .m
 | @cons b u e t' fs cs hb hk hh hu r ih=>
  have q:e.key.isStr (bK a)=decide (b=a):=by rw [hk,o5,decide_eq_decide];exact⟨fun q=>pF hb ha q,by simp_all⟩
  rw [List.findIdx?_cons,q]
  unfold aL
  by_cases hba:b=a
  ·subst hba;simp;exact .cons hb hk hh hv r
  ·simp [hba];cases hi:cs.findIdx? _ with
   |some i=>rw [hi] at ih;exact .cons hb hk hh hu ih
   |none=>rw [hi] at ih;exact .cons hb hk hh hu ih
theorem uy {at_:Nat}{v:V}{c:Value}{Q:AH→Prop}(B:bP w s0)(e:ij x at_ v H Q)(S:St w s0 R H s)(hx:VR (N0 s0) s.heap R x a)(hv:VR (N0 s0) s.heap R v c):
 wpAny (model pw w) A (setAttr a (bK at_) c) (fun _ s'=>cG w s0 R s (fun v H=>v=.aE∧Q H) .none s') cX s:=by
 unfold ij at e
 split at e
 case h_2=>exact e.elim
 split at e
 case h_2=>exact e.elim
 rename_i k fs h1
 obtain⟨hc,hf,hz,e⟩:=e
 obtain⟨p,d,ents,ep,rfl,hp,g1,g2,F⟩:=nA S hx h1
 have C:=uU (w:=w) hc
 have a54:at_<54:=by simp [dF,Bool.and_eq_true] at hf;omega
 have I:InstAt _ p _ _ (some _):=⟨g1,rfl,rfl,g2⟩
 have X:=B.K S
 have ht:takerIn (Kf w) (ca k) (bK at_)=some none:=by unfold takerIn;rw [nB hc hf];rfl
 refine set_plain X I C.sa (osa_open X I C.lD ht fun b=>?_)
 obtain⟨cd,hcd,hdd⟩:=any_some C.i
 refine wpAny_bind (wpAny_pure (wpAny_bind (wpAny_bind (wpAny_loadPart g1 (wpAny_bind (Looks.here (looks_clsIn X hcd) ?_))))))
 rw [hdd]
 refine wpAny_pure (wpAny_bind (wpAny_pure (wpAny_bind ?_)))
 refine wpAny_bind (wpAny_bind (wpAny_askSetting (wpAny_pure (wpAny_bind (wpAny_mkText (wpAny_bind (wpAny_loadPart g2 ?_)))))))
 have hr:(!ents.toArray.any (·.key.isStr (bK at_))&&ents.toArray.any (·.refKey))=false:=by rw [←Array.any_toList,←Array.any_toList,F.Mn,Bool.and_false]
 dsimp
 rw [aRefKeyMayBeTheName_at,hr]
 have hs:Heap.SameBut d _ (s.heap.update d (Obj.putName (bK at_) (PyData.keyHash w.params (bK at_)) (.str (bK at_) (s.toks+1)) c)):=Heap.SameBut.update ..
 have hlen:=F.length
 obtain⟨ents',ep',hf',F',hz'⟩:∃ents' ep',Obj.putName (bK at_) (PyData.keyHash w.params (bK at_)) (.str (bK at_) (s.toks+1)) c (dictOf ents ep)=dictOf ents' ep'∧FR (N0 s0) w s.heap R (aL at_ v fs) ents'∧ents'.length≤61:=by have hq:PyData.keyHash _ (bK at_)=hashStr w _:=rfl;rw [Obj.putName_eq];have z:=F.set (t:=s.toks+1) a54 hv;unfold Obj.putNameByArray;grind
 have hn:(s.heap.update d (Obj.putName _ _ _ c)).get? d=some (dictOf ents' ep'):=(Heap.get?_update_self _ g2 (by rw [hf'];rfl)).trans (by simp_all)
 have hpd:p≠d:=fun q=>by grind
 have z:=St.NV (t:=s.toks+1+1) S hp hs (.J ((hs.2 p hpd).trans g1) hn (F'.P (fun _ _ t=>mU g2 rfl hs t) (fun _ _ _ t=>kN g2 rfl hs t) fun _ _ e=>e))
 exact wpAny_updatePart g2 (wpAny_bind (wpAny_lookBehind hn (pastItsLine_dict (by simp only [List.size_toArray,sizeLine];omega)) (wpAny_pure ⟨R,_,_,⟨rfl,e⟩,z.2,z.1,.aE⟩)))
end
end
section
open PySem PySem.W PySem.Calls PyProof.Rows PySem.SeqAt
set_option maxRecDepth 1000000
mutual
def z6 (K:Frag):V→Value→Bool
 | .aE,.none=>true
 | .D a,.bool b=>a==b
 | .j i,.int j _=>i==j
 | .F x,.str y _=>x==y
 | .B l,.ref a=>(match K.lookup a with
  |some ⟨.type "tuple",_,.seq items _,_⟩=>vD K l items.toList
  |_=>false)
 |_,_=>false
def vD (K:Frag):List V→List Value→Bool
 |[],[] =>true
 |v::r,c::q=>z6 K v c&&vD K r q
 |_,_=>false
end
mutual
theorem xC {K:Frag}{N h:Heap}{R:aJ}(X:K.In h):∀ {v:V} {c:Value},z6 K v c=true→VR N h R v c
 | .aE,c,e=>by cases c<;>simp [z6] at e;exact .aE
 | .D b,c,e=>by cases c<;>simp [z6] at e;subst e;exact .D _
 | .j b,c,e=>by cases c<;>simp [z6] at e;subst e;exact .j _ _
 | .F b,c,e=>by cases c<;>simp [z6] at e;subst e;exact .F _ _
 | .y _,c,e=>by cases c<;>simp [z6] at e
 | .jM _,c,e=>by cases c<;>simp [z6] at e
 | .B l,c,e=>by
  cases c<;>simp only [z6,Bool.false_eq_true] at e;rename_i a;split at e
  ·rename_i dd items n sl ho;exact .B ⟨_,X _ _ ho,rfl,n,rfl⟩ (uo X e)
  ·cases e
theorem uo {K:Frag}{N h:Heap}{R:aJ}(X:K.In h):∀ {l:List V} {cs:List Value},vD K l cs=true→b8 N h R l cs
 |[],[],_=>.m
 |v::r,c::q,e=>by simp only [vD,Bool.and_eq_true] at e;exact .cons (xC X e.1) (uo X e.2)
 |[],_::_,e=>by simp [vD] at e
 |_::_,[],e=>by simp [vD] at e
end
def jb (x:Str):Bool:= !(x==("__debug__":Str))
theorem Lg (w:World):(y4.all fun p=>jb p.1&&match nsIn (Kf w) 3 p.1 with|some (some c)=>z6 (Kf w) p.2 c|_=>false)=true:=by kernel_rfl
theorem Lf (w:World):(j3.all fun p=>jb p.1&&(nsIn (Kf w) 3 p.1==some (some (.ref (fa p.2)))))=true:=by kernel_rfl
theorem Le (w:World):(iK.all fun p=>jb p.1&&(nsIn (Kf w) 3 p.1==some (some (.ref (ca p.2)))))=true:=by kernel_rfl
def fm:List (Str×Value):=[(m "len",.builtin "len"),(m "tuple",.type "tuple"),(m "sorted",.builtin "sorted"),(m "str",.type "str"),(m "any",.builtin "any"),(m "all",.builtin "all"),(m "isinstance",.builtin "isinstance"),(m "range",.type "range")]
theorem Lh (w:World):(fm.all fun p=>jb p.1&&(nsIn (Kf w) 3 p.1==some none)&&(nsIn (Kf w) 0 p.1==some (some p.2)))=true:=by kernel_rfl
def JW (K:Frag):Bool:=jb (m "KEY_FAMILIES")&&match nsIn K 3 (m "KEY_FAMILIES") with
 |some (some (.ref a))=>(match K.lookup a with
  |some ⟨.type "dict",none,.dict es _,⟨[]⟩⟩=>es.toList.map (fun e=>(match e.key with| .int k _=>k|_=>0,match e.val with| .int k _=>k|_=>0))==nD&&es.toList.all (fun e=>(match e.key with| .int k _=>e.hash==hashInt k|_=>false)&&(match e.val with| .int k _=>true|_=>false))&&a !=1
  |_=>false)
 |_=>false
theorem Jd (w:World):JW (Kf w)=true:=by kernel_rfl
theorem cH {α β:Type}[BEq α][LawfulBEq α]{x:α}{v:β} :∀ {l:List (α×β)},l.lookup x=some v→(x,v)∈l
 |[],e=>by trivial
 |p::r,e=>by
  rw [List.lookup_cons] at e;split at e
  ·grind
  ·exact List.mem_cons_of_mem _ (cH e)
variable {w:World}{s0:Shared}
section
variable {A:Around}{cx:Cx}{env:Env}{vals:En}{R:aJ}{H:AH}{s:Shared}{x:Str}{pos:Pos}{E:Value→Shared→Prop}
theorem qh {v:Value}{Q:Value→Shared→Prop}(B:bP w s0)(F:ER s0 cx env vals R s.heap)(S:St w s0 R H s)(hx:cx.dP x=true)(hd:jb x=true)(e:nsIn (Kf w) 3 x=some (some v))(q:Q v s):
 wpAny (model pw w) A (eval (.Name x pos) env) Q E s:=by
 refine Name_function_global F.aS (F.dP x hx) ?_ (by simpa [jb] using hd)
 unfold loadGlobal
 rw [F.gl]
 exact wpAny_bind ((looks_nsIn (B.K S) e).here (wpAny_pure q))
theorem Ld {v:Value}{Q:Value→Shared→Prop}(B:bP w s0)(F:ER s0 cx env vals R s.heap)(S:St w s0 R H s)(hx:cx.dP x=true)(hd:jb x=true)(e:nsIn (Kf w) 3 x=some none)(e':nsIn (Kf w) 0 x=some (some v))(q:Q v s):
 wpAny (model pw w) A (eval (.Name x pos) env) Q E s:=by
 refine Name_function_global F.aS (F.dP x hx) ?_ (by simpa [jb] using hd)
 unfold loadGlobal
 rw [F.gl,F.bl]
 exact wpAny_bind ((looks_nsIn (B.K S) e).here (wpAny_bind ((looks_nsIn (B.K S) e').here (wpAny_pure q))))
theorem Jm {v:V}{Q:V→AH→Prop}(B:bP w s0)(F:ER s0 cx env vals R s.heap)(S:St w s0 R H s)(hx:cx.dP x=true)(e:M3 x=some v)(q:Q v H):
 wpAny (model pw w) A (eval (.Name x pos) env) (cG w s0 R s Q) cX s:=by
 have z:=List.all_eq_true.mp (Lg w) _ (cH e)
 simp at z
 obtain⟨z1,z2⟩:=z
 split at z2
 ·rename_i c hc;exact qh B F S hx z1 hc (.mq S (xC (B.K S) z2) q)
 trivial
theorem OE {f:Nat}{Q:Value→Shared→Prop}(B:bP w s0)(F:ER s0 cx env vals R s.heap)(S:St w s0 R H s)(hx:cx.dP x=true)(e:j3.lookup x=some f)(q:Q (.ref (fa f)) s):
 wpAny (model pw w) A (eval (.Name x pos) env) Q E s:=by
 have z:=List.all_eq_true.mp (Lf w) _ (cH e)
 simp at z
 exact qh B F S hx z.1 z.2 q
theorem M8 {c:Nat}{Q:Value→Shared→Prop}(B:bP w s0)(F:ER s0 cx env vals R s.heap)(S:St w s0 R H s)(hx:cx.dP x=true)(e:iK.lookup x=some c)(q:Q (.ref (ca c)) s):
 wpAny (model pw w) A (eval (.Name x pos) env) Q E s:=by
 have z:=List.all_eq_true.mp (Le w) _ (cH e)
 simp at z
 exact qh B F S hx z.1 z.2 q
theorem uZ {v:Value}{Q:Value→Shared→Prop}(B:bP w s0)(F:ER s0 cx env vals R s.heap)(S:St w s0 R H s)(hx:cx.dP x=true)(e:(x,v)∈fm)(q:Q v s):
 wpAny (model pw w) A (eval (.Name x pos) env) Q E s:=by
 have z:=List.all_eq_true.mp (Lh w) _ e
 simp at z
 exact Ld B F S hx z.1.1 z.1.2 z.2 q
end
theorem Kv (w:World):(Kf w).lookup 1=some (boot_o_1 w.params):=by kernel_rfl
theorem bP.Mi {R:aJ}{H:AH}{s:Shared}(B:bP w s0)(S:St w s0 R H s):∀p∈R,(p.2==sysModules)=false:=by
 intro p hp;have h:=S.bD p hp;have h1:=B _ _ (Kv w);cases q:p.2==sysModules with
 |false=>rfl
 |true=>have:p.2=1:=beq_iff_eq.mp q;grind
end
section
open PySem PySem.W PySem.Calls PyProof.Rows PySem.SeqAt
variable (w:World)(s0:Shared)(n:Nat)
structure bz (me:MX):Prop where
 E:∀ {A:Around} {cx:Cx} {env:Env} {vals:En} {R:aJ} {H:AH} {s:Shared} {e:Expr} {Q:V→AH→Prop},dT n A→ar me cx e=true→ER s0 cx env vals R s.heap→St w s0 R H s→(wX (lu w s0 n) me).E vals H Q→wpAny (model pw w) A (eval e env) (cG w s0 R s Q) cX s
 T:∀ {A:Around} {cx:Cx} {env:Env} {vals:En} {R:aJ} {H:AH} {s:Shared} {e:Expr} {Q:Bool→AH→Prop},dT n A→ar me cx e=true→ER s0 cx env vals R s.heap→St w s0 R H s→(wX (lu w s0 n) me).T vals H Q→wpAny (model pw w) A (isTrue e env (eval e env)) (od w s0 R s Q) cX s
 L:∀ {A:Around} {cx:Cx} {env:Env} {vals:En} {R:aJ} {H:AH} {s:Shared} {es:List Expr} {pos:Pos} {Q:List V→AH→Prop},dT n A→cV me cx es=true→ER s0 cx env vals R s.heap→St w s0 R H s→(wX (lu w s0 n) me).L vals H Q→wpAny (model pw w) A (spliced (backTo pos (starEach es env))) (fun cs s'=>cs.length=es.length∧OY w s0 R s Q cs s') cX s
 A:∀ {A:Around} {cx:Cx} {env:Env} {vals:En} {R:aJ} {H:AH} {s:Shared} {es:List Expr} {pos:Pos} {Q:V→AH→Prop},dT n A→cV me cx es=true→ER s0 cx env vals R s.heap→St w s0 R H s→(wX (lu w s0 n) me).A vals H Q→wpAny (model pw w) A (boolOp pos .And (evalEach es env)) (cG w s0 R s Q) cX s
 O:∀ {A:Around} {cx:Cx} {env:Env} {vals:En} {R:aJ} {H:AH} {s:Shared} {es:List Expr} {pos:Pos} {Q:V→AH→Prop},dT n A→cV me cx es=true→ER s0 cx env vals R s.heap→St w s0 R H s→(wX (lu w s0 n) me).O vals H Q→wpAny (model pw w) A (boolOp pos .Or (evalEach es env)) (cG w s0 R s Q) cX s
 TA:∀ {A:Around} {cx:Cx} {env:Env} {vals:En} {R:aJ} {H:AH} {s:Shared} {es:List Expr} {Q:Bool→AH→Prop},dT n A→cV me cx es=true→ER s0 cx env vals R s.heap→St w s0 R H s→(wX (lu w s0 n) me).TA vals H Q→wpAny (model pw w) A (allTrue .And es env) (od w s0 R s Q) cX s
 TO:∀ {A:Around} {cx:Cx} {env:Env} {vals:En} {R:aJ} {H:AH} {s:Shared} {es:List Expr} {Q:Bool→AH→Prop},dT n A→cV me cx es=true→ER s0 cx env vals R s.heap→St w s0 R H s→(wX (lu w s0 n) me).TO vals H Q→wpAny (model pw w) A (allTrue .Or es env) (od w s0 R s Q) cX s
variable {w:World}{s0:Shared}{n:Nat}
theorem bz.dI {me:MX}{f:En→AH→(V→AH→Prop)→Prop}(hw:wX (lu w s0 n) me=.dI f)
 (hE:∀ {A:Around} {cx:Cx} {env:Env} {vals:En} {R:aJ} {H:AH} {s:Shared} {e:Expr} {Q:V→AH→Prop},dT n A→ar me cx e=true→ER s0 cx env vals R s.heap→St w s0 R H s→f vals H Q→wpAny (model pw w) A (eval e env) (cG w s0 R s Q) cX s)
 (hT:∀ {cx:Cx} {env:Env} {e:Expr} {whole:Sem Value},ar me cx e=true→isTrue e env whole=(do let v←whole;standAt e.pos;holding [v] (truthy v))):bz w s0 n me:=by
 refine⟨fun hr hc F S q=>hE hr hc F S ?_,fun{A cx env vals R H s e Q} hr hc F S q=>?_,fun hr hc F S q=>?_,fun hr hc F S q=>?_,fun hr hc F S q=>?_,fun hr hc F S q=>?_,fun hr hc F S q=>?_⟩
 ·rw [hw] at q;exact q
 ·rw [hw] at q;refine isTrue_plain (wpAny_mono (hE hr hc F S q) (fun c s1 z=>?_) (by simp)) (hT hc);obtain⟨R1,v,H1,q,x,S1,vr⟩:=z;exact iO q S1 vr fun r t q=>⟨R1,H1,q,x.trans (.toks t),S1.toks t⟩
 all_goals rw [hw] at q;trivial
theorem bz.t4 {me:MX}{f:En→AH→(V→AH→Prop)→Prop}{g:En→AH→(Bool→AH→Prop)→Prop}(hw:wX (lu w s0 n) me=.t4 f g)
 (hE:∀ {A:Around} {cx:Cx} {env:Env} {vals:En} {R:aJ} {H:AH} {s:Shared} {e:Expr} {Q:V→AH→Prop},dT n A→ar me cx e=true→ER s0 cx env vals R s.heap→St w s0 R H s→f vals H Q→wpAny (model pw w) A (eval e env) (cG w s0 R s Q) cX s)
 (hT:∀ {A:Around} {cx:Cx} {env:Env} {vals:En} {R:aJ} {H:AH} {s:Shared} {e:Expr} {Q:Bool→AH→Prop},dT n A→ar me cx e=true→ER s0 cx env vals R s.heap→St w s0 R H s→g vals H Q→wpAny (model pw w) A (isTrue e env (eval e env)) (od w s0 R s Q) cX s):bz w s0 n me:=by
 refine⟨fun hr hc F S q=>hE hr hc F S ?_,fun hr hc F S q=>hT hr hc F S ?_,fun hr hc F S q=>?_,fun hr hc F S q=>?_,fun hr hc F S q=>?_,fun hr hc F S q=>?_,fun hr hc F S q=>?_⟩
 all_goals rw [hw] at q;trivial
theorem uv {me:MX}(hw:wX (lu w s0 n) me=⟨TX.qL,TX.sF,TX.Mo,TX.qL,TX.qL,TX.sF,TX.sF⟩):bz w s0 n me:=by refine⟨fun hr hc F S q=>?_,fun hr hc F S q=>?_,fun hr hc F S q=>?_,fun hr hc F S q=>?_,fun hr hc F S q=>?_,fun hr hc F S q=>?_,fun hr hc F S q=>?_⟩;all_goals rw [hw] at q;trivial
theorem dT.u {n:Nat}{A:Around}(r:dT n A):A.units≤9800:=by have:=r.oA;omega
theorem mh:cLine=9900:=rfl
section
theorem HZ (B:bP w s0)(v:V):bz w s0 n (.k v):=by
 refine bz.dI rfl (fun{A cx env vals R H s e Q} hr hc F S q=>?_) (fun{cx env e whole} hc=>by unfold ar at hc;split at hc<;>first|rfl|cases hc)
 ·unfold ar at hc;split at hc
  ·exact zo hc S q
  ·simp at hc;exact Jm B F S hc.1.1 hc.1.2 q
  ·simp at hc;subst hc;exact wpAny_UnaryOp (wpAny_Constant_int (PyProof.Rows.neg_int (.jJ _ S (.j _ _) q)))
  trivial
theorem HV (i:Nat):bz w s0 n (.h i):=by
 refine bz.dI rfl (fun{A cx env vals R H s e Q} hr hc F S q=>?_) fun{cx env e whole} hc=>by unfold ar at hc;split at hc<;>first|rfl|cases hc
 ·unfold ar at hc;split at hc
  ·simp at hc;split at q
   ·rename_i v hv;exact KV F S hc.1 (by simpa [m] using hc.2) hv q
   trivial
  trivial
theorem gM {e:Expr}(h:jr e=true)(env:Env)(rest:List Expr):starEach (e::rest) env=(false,eval e env)::starEach rest env:=by cases e<;>first|rfl|cases h
theorem cf:∀ {me:MX} {cx:Cx} {es:List Expr},cV me cx es=true→∀(pos:Pos) (env:Env),(backTo pos (starEach es env)).any (·.1)=false
 | .m,cx,es,h,pos,env=>by simp [cV,List.isEmpty_iff] at h;subst h;rfl
 | .cons a b,cx,es,h,pos,env=>by
  unfold cV at h;split at h
  ·simp at h;rw [gM h.1.1];show(false||(backTo pos _).any (·.1))=false;rw [Bool.false_or,cf h.2]
  rfl
theorem HR:bz w s0 n .m:=by exact⟨fun hr hc F S q=>by trivial,fun hr hc F S q=>by trivial,fun{A cx env vals R H s es pos Q} hr hc F S q=>by simp [cV] at hc;subst hc;exact spliced_nil ⟨rfl,R,[],H,q,.aD,S,.m⟩,fun hr hc F S q=>by trivial,fun hr hc F S q=>by trivial,fun{A cx env vals R H s es Q} hr hc F S q=>by simp [cV] at hc;subst hc;exact wpAny_pure ⟨R,H,q,.aD,S⟩,fun{A cx env vals R H s es Q} hr hc F S q=>by simp [cV] at hc;subst hc;exact wpAny_pure ⟨R,H,q,.aD,S⟩⟩
theorem pV {b:MX}{cx:Cx}{es:List Expr}(h:cV b cx es=true):(b.cE=true↔es=[]):=by cases b<;>cases es<;>simp [cV,MX.cE] at h ⊢
theorem xW {a b:MX}(ha:bz w s0 n a)(hb:bz w s0 n b):bz w s0 n (.cons a b):=by
 have dec:∀ {cx:Cx} {es:List _},cV (.cons a b) cx es=true→∃e r,es=e::r∧jr e=true∧ar a cx e=true∧cV b cx r=true:=by intro cx es h;unfold cV at h;grind
 refine⟨fun hr hc F S q=>by trivial,fun hr hc F S q=>by trivial,fun{A cx env vals R H s es pos Q} hr hc F S q=>by obtain⟨e,r,rfl,h0,h1,h2⟩:=dec hc;rw [gM h0];refine spliced_cons (wpAny_mono (ha.E hr h1 F S q) (fun c s1 z=>?_) (by simp));obtain⟨R1,v,H1,q,x,S1,vr⟩:=z;refine wpAny_mono (hb.L hr h2 (F.bq x S) S1 q) (fun cs s2 z=>?_) (by simp);obtain⟨hl,R2,vs,H2,q,x2,S2,vrs⟩:=z;exact⟨by simp [hl],R2,_,H2,q,x.trans x2,S2,.cons (vr.bq x2 S1 (aU _ _)) vrs⟩,fun{A cx env vals R H s es pos Q} hr hc F S q=>?_,fun{A cx env vals R H s es pos Q} hr hc F S q=>?_,fun{A cx env vals R H s es Q} hr hc F S q=>?_,fun{A cx env vals R H s es Q} hr hc F S q=>?_⟩
 ·obtain⟨e,r,rfl,h0,h1,h2⟩:=dec hc;simp [wX] at q;cases r with
  |nil=>have hn:=(pV h2).mpr rfl;apply ha.E hr h1 F S;simp_all
  |cons e2 r2=>
   have hn:¬b.cE=true:=fun z=>by have:=(pV h2).mp z;trivial
   refine wpAny_bind (wpAny_mono (ha.E hr h1 F S q) (fun c s1 z=>?_) (by simp));obtain⟨R1,v,H1,q,x,S1,vr⟩:=z;simp [hn,if_false] at q;refine wpAny_bind (wpAny_standAt (wpAny_bind (wpAny_holding (iO q S1 vr fun t tk q=>?_))));cases t with
   |false=>exact wpAny_pure ((cG.jJ tk S1 vr (by trivial)).cB x)
   |true=>exact wpAny_mono (hb.A hr h2 (F.bq (x.trans (.toks tk)) S) (S1.toks tk) (by trivial)) (fun _ _ z=>z.cB (x.trans (.toks tk))) (by simp)
 ·obtain⟨e,r,rfl,h0,h1,h2⟩:=dec hc;simp [wX] at q;cases r with
  |nil=>have hn:=(pV h2).mpr rfl;apply ha.E hr h1 F S;simp_all
  |cons e2 r2=>
   have hn:¬b.cE=true:=fun z=>by have:=(pV h2).mp z;trivial
   refine wpAny_bind (wpAny_mono (ha.E hr h1 F S q) (fun c s1 z=>?_) (by simp));obtain⟨R1,v,H1,q,x,S1,vr⟩:=z;simp [hn,if_false] at q;refine wpAny_bind (wpAny_standAt (wpAny_bind (wpAny_holding (iO q S1 vr fun t tk q=>?_))));cases t with
   |true=>exact wpAny_pure ((cG.jJ tk S1 vr (by trivial)).cB x)
   |false=>exact wpAny_mono (hb.O hr h2 (F.bq (x.trans (.toks tk)) S) (S1.toks tk) (by trivial)) (fun _ _ z=>z.cB (x.trans (.toks tk))) (by simp)
 ·obtain⟨e,r,rfl,h0,h1,h2⟩:=dec hc;refine wpAny_bind (wpAny_mono (ha.T hr h1 F S q) (fun t s1 z=>?_) (by simp));obtain⟨R1,H1,q,x,S1⟩:=z;cases t with
  |false=>exact wpAny_pure (od.cB x ⟨R1,H1,by trivial,.aD,S1⟩)
  |true=>exact wpAny_mono (hb.TA hr h2 (F.bq x S) S1 (by trivial)) (fun _ _ z=>z.cB x) (by simp)
 ·obtain⟨e,r,rfl,h0,h1,h2⟩:=dec hc;refine wpAny_bind (wpAny_mono (ha.T hr h1 F S q) (fun t s1 z=>?_) (by simp));obtain⟨R1,H1,q,x,S1⟩:=z;cases t with
  |true=>exact wpAny_pure (od.cB x ⟨R1,H1,by trivial,.aD,S1⟩)
  |false=>exact wpAny_mono (hb.TO hr h2 (F.bq x S) S1 (by trivial)) (fun _ _ z=>z.cB x) (by simp)
end
theorem HL {l:MX}(hl:bz w s0 n l):bz w s0 n (.B l):=by
 refine bz.dI rfl (fun{A cx env vals R H s e Q} hr hc F S q=>?_) fun{cx env e whole} hc=>by unfold ar at hc;split at hc<;>first|rfl|cases hc
 ·unfold ar at hc;split at hc
  ·simp at hc;refine wpAny_Tuple (wpAny_mono (hl.L hr hc.2 F S q) (fun cs s1 z=>?_) (by simp));obtain⟨h,R1,vs,H1,q,x,S1,vrs⟩:=z;exact⟨by unfold sizeLine;omega,(cG.B S1 vrs q).cB x⟩
  trivial
theorem HU {l:MX}(hl:bz w s0 n l):bz w s0 n (.dm l):=by
 refine bz.dI rfl (fun{A cx env vals R H s e Q} hr hc F S q=>?_) fun{cx env e whole} hc=>by unfold ar at hc;split at hc<;>first|rfl|cases hc
 ·unfold ar at hc;split at hc
  ·simp at hc;refine wpAny_List (wpAny_mono (hl.L hr hc.2 F S q) (fun cs s1 z=>?_) (by simp));obtain⟨h,R1,vs,H1,q,x,S1,vrs⟩:=z;have:=vrs.length;exact⟨by unfold sizeLine;omega,(cG.f S1 vrs (by omega) q).cB x⟩
  trivial
theorem xV:bz w s0 n .gJ:=by
 refine bz.dI rfl (fun{A cx env vals R H s e Q} hr hc F S q=>?_) fun{cx env e whole} hc=>by unfold ar at hc;split at hc<;>first|rfl|cases hc
 ·unfold ar at hc;split at hc
  ·exact wpAny_Dict_empty (cG.Mw S q)
  trivial
theorem Ic {o:tX}{a b:MX}(ha:bz w s0 n a)(hb:bz w s0 n b):bz w s0 n (.hY o a b):=by
 refine bz.dI rfl (fun{A cx env vals R H s e Q} hr hc F S q=>?_) fun{cx env e whole} hc=>by unfold ar at hc;split at hc<;>first|rfl|cases hc
 ·unfold ar at hc;split at hc
  ·simp at hc;obtain⟨⟨h1,h2⟩,h3⟩:=hc;refine wpAny_BinOp (wpAny_mono (ha.E hr h2 F S q) (fun c s1 z=>?_) (by simp));obtain⟨R1,v,H1,q,x,S1,vr⟩:=z;refine wpAny_mono (hb.E hr h3 (F.bq x S) S1 q) (fun d s2 z=>?_) (by simp);obtain⟨R2,u,H2,q,x2,S2,vr2⟩:=z;exact wpAny_mono (LC h1 q S2 (vr.bq x2 S1 (aU _ _)) vr2) (fun _ _ z=>z.cB (x.trans x2)) (by simp)
  trivial
theorem HQ {a:MX}(ha:bz w s0 n a):bz w s0 n (.gH a):=by
 refine bz.t4 rfl (fun{A cx env vals R H s e Q} hr hc F S q=>?_) fun{A cx env vals R H s e Q} hr hc F S q=>?_
 ·unfold ar at hc;split at hc
  ·refine wpAny_UnaryOp (wpAny_mono (ha.E hr hc F S q) (fun c s1 z=>?_) (by simp));obtain⟨R1,v,H1,q,x,S1,vr⟩:=z;exact not_of (iO q S1 vr fun t tk q=>(cG.jJ tk S1 (.D _) q).cB x)
  trivial
 ·unfold ar at hc;split at hc
  ·exact isTrue_not (wpAny_mono (ha.T hr hc F S q) (fun t s1 z=>z) (by simp))
  trivial
theorem HT {a:MX}(ha:bz w s0 n a):bz w s0 n (.Ka a):=by
 refine bz.dI rfl (fun{A cx env vals R H s e Q} hr hc F S q=>?_) (fun{cx env e whole} hc=>by unfold ar at hc;split at hc<;>first|rfl|cases hc)
 ·unfold ar at hc;split at hc
  ·refine wpAny_UnaryOp (wpAny_mono (ha.E hr hc F S q) (fun c s1 z=>?_) (by simp));obtain⟨R1,v,H1,q,x,S1,vr⟩:=z;cases v<;>try trivial
   cases vr;exact PyProof.Rows.neg_int ((cG.jJ _ S1 (.j _ _) q).cB x)
  trivial
theorem lA {b:MX}{cx:Cx}{y:Expr}(h:ar b cx y=true)(p:CmpOp):behindInMarks p y=false∨b=.ia:=by
 cases y<;>try exact .inl rfl
 cases b<;>simp [ar] at h ⊢
theorem Ia (B:bP w s0){o:J6}{a b:MX}(ha:bz w s0 n a)(hb:bz w s0 n b):bz w s0 n (.bH o a b):=by
 refine bz.t4 rfl (fun{A cx env vals R H s e Q} hr hc F S q=>?_) fun{A cx env vals R H s e Q} hr hc F S q=>?_
 ·unfold ar at hc;split at hc
  ·simp at hc;obtain⟨⟨h1,h2⟩,h3⟩:=hc;rcases lA h3 _ with hm|rfl
   ·refine wpAny_Compare1 (wpAny_mono (ha.E hr h2 F S q) (fun c s1 z=>?_) (by simp)) hm;obtain⟨R1,v,H1,q,x,S1,vr⟩:=z;refine wpAny_mono (hb.E hr h3 (F.bq x S) S1 q) (fun d s2 z=>?_) (by simp);obtain⟨R2,u,H2,q,x2,S2,vr2⟩:=z;refine wpAny_mono (zu h1 q S2 (vr.bq x2 S1 (aU _ _)) vr2 (by have:=hr.u;rw [mh];omega) (B.Mi S2)) (fun c s3 z=>?_) (by simp);obtain⟨r,t,rfl,q,rfl⟩:=z;exact(cG.jJ t S2 (.D _) q).cB (x.trans x2)
   ·refine wpAny_bind (wpAny_mono (ha.E hr h2 F S q) (fun c s1 z=>?_) (by simp));obtain⟨R1,v,H1,q,x,S1,vr⟩:=z;trivial
  trivial
 ·unfold ar at hc;split at hc
  ·simp at hc;obtain⟨⟨h1,h2⟩,h3⟩:=hc;rcases lA h3 _ with hm|rfl
   ·refine wpAny_isTrue_Compare1 (wpAny_mono (ha.E hr h2 F S q) (fun c s1 z=>?_) (by simp)) hm;obtain⟨R1,v,H1,q,x,S1,vr⟩:=z;refine wpAny_mono (hb.E hr h3 (F.bq x S) S1 q) (fun d s2 z=>?_) (by simp);obtain⟨R2,u,H2,q,x2,S2,vr2⟩:=z;refine wpAny_mono (zu h1 q S2 (vr.bq x2 S1 (aU _ _)) vr2 (by have:=hr.u;rw [mh];omega) (B.Mi S2)) (fun c s3 z=>?_) (by simp);obtain⟨r,t,rfl,q,rfl⟩:=z;exact wpAny_truthy_bool (od.cB (x.trans x2) ⟨R2,H2,q,.toks t,S2.toks t⟩)
   ·refine wpAny_bind (wpAny_mono (ha.E hr h2 F S q) (fun c s1 z=>?_) (by simp));obtain⟨R1,v,H1,q,x,S1,vr⟩:=z;trivial
  trivial
theorem x6 {l:MX}(hl:bz w s0 n l):bz w s0 n (.dy l):=by
 refine bz.t4 rfl (fun{A cx env vals R H s e Q} hr hc F S q=>?_) fun{A cx env vals R H s e Q} hr hc F S q=>?_
 ·unfold ar at hc;split at hc
  ·exact hl.A hr hc F S q
  trivial
 ·unfold ar at hc;split at hc
  ·exact wpAny_isTrue_BoolOp (hl.TA hr hc F S q)
  trivial
theorem HP {l:MX}(hl:bz w s0 n l):bz w s0 n (.pK l):=by
 refine bz.t4 rfl (fun{A cx env vals R H s e Q} hr hc F S q=>?_) fun{A cx env vals R H s e Q} hr hc F S q=>?_
 ·unfold ar at hc;split at hc
  ·exact hl.O hr hc F S q
  trivial
 ·unfold ar at hc;split at hc
  ·exact wpAny_isTrue_BoolOp (hl.TO hr hc F S q)
  trivial
theorem HW {t a b:MX}(ht:bz w s0 n t)(ha:bz w s0 n a)(hb:bz w s0 n b):bz w s0 n (.bA t a b):=by
 refine bz.t4 rfl (fun{A cx env vals R H s e Q} hr hc F S q=>?_) fun{A cx env vals R H s e Q} hr hc F S q=>?_
 ·unfold ar at hc;split at hc
  ·simp at hc;obtain⟨⟨h1,h2⟩,h3⟩:=hc;refine wpAny_IfExp (wpAny_mono (ht.T hr h1 F S q) (fun r s1 z=>?_) (by simp));obtain⟨R1,H1,q,x,S1⟩:=z;cases r with
   |true=>exact wpAny_mono (ha.E hr h2 (F.bq x S) S1 (by trivial)) (fun _ _ z=>z.cB x) (by simp)
   |false=>exact wpAny_mono (hb.E hr h3 (F.bq x S) S1 (by trivial)) (fun _ _ z=>z.cB x) (by simp)
  trivial
 ·unfold ar at hc;split at hc
  ·simp at hc;obtain⟨⟨h1,h2⟩,h3⟩:=hc;refine isTrue_IfExp (wpAny_mono (ht.T hr h1 F S q) (fun r s1 z=>?_) (by simp));obtain⟨R1,H1,q,x,S1⟩:=z;cases r with
   |true=>exact wpAny_mono (ha.T hr h2 (F.bq x S) S1 (by trivial)) (fun _ _ z=>z.cB x) (by simp)
   |false=>exact wpAny_mono (hb.T hr h3 (F.bq x S) S1 (by trivial)) (fun _ _ z=>z.cB x) (by simp)
  trivial
theorem iT {x:Expr}(h:gN x=true)(a:Str)(env:Env)(wh:Sem Value):attributeBase x a env wh=wh:=by
 unfold attributeBase;split
 ·trivial
 rfl
theorem xZ (B:bP w s0){a:MX}{k:Nat}(ha:bz w s0 n a):bz w s0 n (.bB a k):=by
 refine bz.dI rfl (fun{A cx env vals R H s e Q} hr hc F S q=>?_) fun{cx env e whole} hc=>by unfold ar at hc;split at hc<;>first|rfl|cases hc
 ·unfold ar at hc;split at hc
  ·rename_i x n' ap;simp at hc;obtain⟨⟨rfl,h2⟩,h3⟩:=hc;show wpAny _ _ (attributeBase x _ env _>>=_) _ _ s;rw [iT h2];refine wpAny_bind (wpAny_mono (ha.E hr h3 F S q) (fun c s1 z=>?_) (by simp));obtain⟨R1,v,H1,q,x1,S1,vr⟩:=z;exact wpAny_bind (wpAny_standAt (wpAny_bind (wpAny_holding (uN B q S1 vr fun u c' t q vr'=>wpAny_bind (wpAny_letTemporaryGo (wpAny_pure ((cG.jJ t S1 vr' q).cB x1)))))))
  trivial
theorem ur {A:Around}{s:Shared}{E:Value→Shared→Prop}{value slice:Expr}{o i:Value}{T id:String}{Q:Value→Shared→Prop}(hT:s.TypeIs o T)
 (hl:typeLookup (.type T) "__getitem__"=pure (some (.builtin id))) (h:wpAny (model pw w) A (getItem o i) Q E s):wpAny (model pw w) A (subscriptTail value slice o i) Q E s:=by
 apply wpAny_bind
 refine wpAny_bind (wpAny_specialOf hT hl ?_)
 have fin:∀b,b=false→wpAny (model pw w) A (subscripted slice b o i) (fun r s₃=>wpAny (model pw w) A (letTemporaryGo value o r>>=fun _=>pure r) Q E s₃) E s:=by
  rintro b rfl;have:∃vs,subscripted slice false o i=operate vs (getItem o i):=by
   unfold subscripted;split
   ·exact⟨_,rfl⟩
   ·trivial
   ·exact⟨_,rfl⟩
  obtain⟨vs,e⟩:=this;rw [e];exact wpAny_operating (wpAny_mono h (fun r s₃ h₃=>wpAny_bind (wpAny_letTemporaryGo (wpAny_pure h₃))) (by simp))
 exact wpAny_pure (wpAny_bind (fin _ rfl))
section
variable {A:Around}{R:aJ}{H:AH}{s:Shared}{x y:V}{a b:Value}
theorem xT {Q:V→Prop}(q:aF x y H Q)(S:St w s0 R H s)(hx:VR (N0 s0) s.heap R x a):∃T id,s.TypeIs a T∧typeLookup (.type T) "__getitem__"=pure (some (.builtin id)):=by
 unfold aF at q;split at q
 ·cases hx with
  |B t _=>exact⟨_,_,t.typeIs,slot_tuple_getitem.lookup⟩
 ·cases hx;exact⟨_,_,rfl,F.slot_str_getitem.lookup⟩
 ·split at q
  ·rename_i h1;obtain⟨p,items,ep,rfl,_,t,r,_⟩:=bp S hx h1;exact⟨_,_,⟨_,t,rfl⟩,slot_list_getitem.lookup⟩
  ·rename_i h1;obtain⟨p,ents,ep,rfl,_,t,_⟩:=cO S hx h1;exact⟨_,_,⟨_,t,rfl⟩,slot_dict_getitem.lookup⟩
  trivial
 trivial
end
theorem HM (B:bP w s0){a i:MX}(ha:bz w s0 n a)(hi:bz w s0 n i):bz w s0 n (.z a i):=by
 refine bz.dI rfl (fun{A cx env vals R H s e Q} hr hc F S q=>?_) fun{cx env e whole} hc=>by unfold ar at hc;split at hc<;>first|rfl|cases hc
 ·unfold ar at hc;split at hc
  ·simp at hc;obtain⟨⟨h1,h2⟩,h3⟩:=hc;refine Subscript_ (wpAny_mono (ha.E hr h2 F S q) (fun c s1 z=>?_) (by simp));obtain⟨R1,v,H1,q,x,S1,vr⟩:=z;refine wpAny_mono (hi.E hr h3 (F.bq x S) S1 q) (fun d s2 z=>?_) (by simp);obtain⟨R2,u,H2,q,x2,S2,vr2⟩:=z;have vr':=vr.bq x2 S1 (aU _ _);obtain⟨T,id,hT,hl⟩:=xT q S2 vr';exact ur hT hl (Kw q S2 vr' vr2 (by have:=hr.u;rw [mh];omega) fun v c t q vr=>(cG.jJ t S2 vr q).cB (x.trans x2))
  trivial
section
variable {A:Around}{R:aJ}{H:AH}{s:Shared}{x:V}{a vl vu:Value}{sl:Addr}{lo hi:Option V}{Q:V→AH→Prop}
inductive qE (N h:Heap) (R:aJ):Option V→Value→Prop
 |aE:qE N h R none .none
 |some {v:V} {c:Value} :VR N h R v c→qE N h R (some v) c
theorem rZ {N h:Heap}{o:Option V}{k:Option Int}{v:Value}(e:lj o=some k)(x:qE N h R o v):qF k v:=by
 cases x with
 |aE=>simp [lj] at e;subst e;exact .aE
 |some r=>
  unfold lj at e;split at e<;>cases e
  ·trivial
  ·rename_i h;cases h;cases r;constructor
theorem KD (q:d7 x lo hi H Q)(S:St w s0 R H s)(hx:VR (N0 s0) s.heap R x a)(hs:s.heap.IsSliceOf sl vl vu .none)(pl:qE (N0 s0) s.heap R lo vl)(pu:qE (N0 s0) s.heap R hi vu):
 (∃T id,s.TypeIs a T∧typeLookup (.type T) "__getitem__"=pure (some (.builtin id)))∧wpAny (model pw w) A (getItem a (.ref sl)) (cG w s0 R s Q) cX s:=by
 unfold d7 at q
 split at q
 case h_2=>exact q.elim
 rename_i l u hl hu
 have el:=rZ hl pl
 have eu:=rZ hu pu
 split at q
 ·obtain⟨hz,q⟩:=q;cases hx with
  |B t r=>exact⟨⟨_,_,t.typeIs,slot_tuple_getitem.lookup⟩,Ig t r hz S hs el eu q⟩
 ·obtain⟨hz,q⟩:=q;cases hx with
  |jM h0 t r=>exact⟨⟨_,_,t.typeIs,slot_list_getitem.lookup⟩,rg t r (by omega) hz S hs el eu q⟩
 ·obtain⟨hz,q⟩:=q;cases hx;rename_i x t;refine⟨⟨_,_,typeIs_str _ _ _,F.slot_str_getitem.lookup⟩,?_⟩;have hx':=by show x.cps.size≤sizeLine;unfold sizeLine;omega
  have core:∀ {l' u':Option _},l'.map (·.1)=l→u'.map (·.1)=u→partValue l'=vl→partValue u'=vu→wpAny (model pw w) A (getItem (.str x t) (.ref sl)) (cG w s0 R s Q) cX s:=by rintro l' u' rfl rfl rfl rfl;obtain⟨o,h1,h2,h3⟩:=hs;exact wpAny_getItem_str_slice (st:=none) ⟨o,h1,h2,h3⟩ rfl (post_val_or_str ⟨Nat.le_trans (Txt.slice_le x _ _) hx',fun t' k=>.jJ k S (.F _ _) q⟩)
  cases el with
  |aE=>cases eu with
   |aE=>exact core (l':=none) (u':=none) rfl rfl rfl rfl
   |j j uj=>exact core (l':=none) (u':=some (j,uj)) rfl rfl rfl rfl
  |j i ui=>cases eu with
   |aE=>exact core (l':=some (i,ui)) (u':=none) rfl rfl rfl rfl
   |j j uj=>exact core (l':=some (i,ui)) (u':=some (j,uj)) rfl rfl rfl rfl
 ·split at q
  ·rename_i h1;obtain⟨hz,q⟩:=q;obtain⟨p,items,ep,rfl,_,t,r,hz'⟩:=bp S hx h1;exact⟨⟨_,_,⟨_,t,rfl⟩,slot_list_getitem.lookup⟩,rg (bU t) r hz' hz S hs el eu q⟩
  ·exact q.elim
 ·exact q.elim
end
theorem rv {me:MX}{A:Around}{cx:Cx}{env:Env}{vals:En}{R:aJ}{H:AH}{s:Shared}{e:Option Expr}{Q:Option V→AH→Prop}(hm:bz w s0 n me)(hr:dT n A)
 (hc:(match e with|none=>me.cE|some l=> !me.cE&&ar me cx l)=true) (F:ER s0 cx env vals R s.heap) (S:St w s0 R H s)
 (q:if me.cE=true then Q none H else(wX (lu w s0 n) me).E vals H fun v H=>Q (some v) H):
 wpAny (model pw w) A (evalPart e env) (fun c s'=>∃R' o H',Q o H'∧cj hF R R' s s'∧St w s0 R' H' s'∧qE (N0 s0) s'.heap R' o c) cX s:=by
 cases e with
 |none=>
  rw [if_pos hc] at q
  exact evalPart_none_step ⟨R,_,H,q,.aD,S,.aE⟩
 |some l=>
  simp at hc
  rw [hc.1] at q
  refine evalPart_some_step (wpAny_mono (hm.E hr hc.2 F S q) (fun c s1 z=>?_) (by simp))
  obtain⟨R1,v,H1,q,x,S1,vr⟩:=z
  exact⟨R1,_,H1,q,x,S1,.some vr⟩
theorem qE.bq {R R':aJ}{H:AH}{s s':Shared}{o:Option V}{c:Value}(e:qE (N0 s0) s.heap R o c)(x:cj hF R R' s s')(S:St w s0 R H s):qE (N0 s0) s'.heap R' o c:=by
 cases e with
 |aE=>exact .aE
 |some v=>exact .some (v.bq x S (aU _ _))
theorem HN {a lo hi:MX}(ha:bz w s0 n a)(hl:bz w s0 n lo)(hh:bz w s0 n hi):bz w s0 n (.oi a lo hi):=by
 refine bz.dI rfl (fun{A cx env vals R H s e Q} hr hc F S q=>?_) fun{cx env e whole} hc=>by unfold ar at hc;split at hc<;>first|rfl|cases hc
 ·unfold ar at hc;split at hc
  ·simp at hc;obtain⟨⟨h1,h2⟩,h3⟩:=hc;refine Subscript_ (wpAny_mono (ha.E hr h1 F S q) (fun c s1 z=>?_) (by simp));obtain⟨R1,v,H1,q,x,S1,vr⟩:=z;have q1:=q;refine wpAny_Slice (wpAny_mono (rv hl hr h2 (F.bq x S) S1 (Q:=fun l H=>if hi.cE=true then d7 v l _ H Q else(wX _ hi).E _ H fun h H=>d7 v l (some h) H Q) q1) (fun cl s2 z=>?_) (by simp));obtain⟨R2,ol,H2,q,x2,S2,el⟩:=z;refine wpAny_mono (rv hh hr h3 (F.bq (x.trans x2) S) S2 (Q:=fun h H=>d7 v ol h H Q) q) (fun cu s3 z=>?_) (by simp);obtain⟨R3,ou,H3,q,x3,S3,eu⟩:=z;apply evalPart_none_step;have xx:=x2.trans x3;have xp:cj hF R3 R3 s3 {s3 with heap:=s3.heap.push {cls:=.type "slice",data:=.fields #[cl,cu,.none] } } :=.Y _;obtain⟨⟨T,id,hT,hlk⟩,z⟩:=KD q (S3.Y _) ((vr.bq xx S1 (aU _ _)).Y {cls:=.type "slice",data:=.fields #[cl,cu,.none] }) ⟨_,Heap.get?_push_size _ rfl,rfl,rfl⟩ ((el.bq x3 S2).bq xp S3) (eu.bq xp S3);exact ur hT hlk (wpAny_mono z (fun _ _ z=>z.cB ((x.trans xx).trans xp)) (by simp))
  trivial
theorem eU {M:Model}{A:Around}{E:Value→Shared→Prop}{s:Shared}{f:Value}{trees:List (Bool×Sem Value)}{Q:Args→Shared→Prop}(hp:trees.any (·.1)=false)
 (h:wpAny M A (spliced trees) (fun vs s'=>Q ⟨vs,[]⟩ s') E s):wpAny M A (evalArgs f true trees []) Q E s:=by
 cases trees with
 |nil=>trivial
 |cons t r=>
  obtain⟨b,x⟩:=t
  simp at hp
  obtain⟨rfl,_⟩:=hp
  exact evalArgs_plain h
theorem qt {o:xc}{v:Value}(h:(zE o,v)∈fm){x:Str}(hx:x=zE o):(x,v)∈fm:=by simp_all
def zD:xc→Value
 | .U=>.builtin "len"| .i0=>.type "tuple"| .dO=>.builtin "sorted"| .F=>.type "str"| .uh=>.builtin "any"| .A7=>.builtin "all"| .gV=>.builtin "isinstance"
theorem n7 (o:xc):(zE o,zD o)∈fm:=by cases o<;>simp [zE,zD,fm]
theorem mi {A:Around}{E:Value→Shared→Prop}{s:Shared}{o:xc}{pos:Pos}{trees:List (Bool×Sem Value)}{Q:Value→Shared→Prop}(hp:trees.any (·.1)=false)
 (h:wpAny (model pw w) A (spliced trees) (fun vs s1=>wpAny (model pw w) A (call (zD o) vs) Q E s1) E s):wpAny (model pw w) A (callWith pos (zD o) [] trees []) Q E s:=by
 cases o
 all_goals first
  |exact callWith_builtin hp (eU hp h)
  |exact PySem.callWith_type hp (eU hp h)
theorem zC (B:bP w s0){o:xc}{A:Around}{R:aJ}{H:AH}{s:Shared}{vs:List V}{cs:List Value}{Q:V→AH→Prop}(ho:o≠.gV)(hr:dT n A)(q:dj o vs H Q)(S:St w s0 R H s)(hv:b8 (N0 s0) s.heap R vs cs):
 wpAny (model pw w) A (call (zD o) cs) (cG w s0 R s Q) cX s:=by
 have one:∃x c,vs=[x] ∧cs=[c] ∧VR (N0 s0) s.heap R x c:=by
  cases hv with
  |m=>cases o<;>exact False.elim q
  |cons a r=>cases r with
   |m=>grind
   |cons b r=>
    exfalso
    cases o<;>(rename_i v1 _ _ _ _ _;cases v1<;>exact q)
 obtain⟨x,c,rfl,rfl,hx⟩:=one
 cases o with
 |U=>exact KZ q S hx (B.Mi S)
 |i0=>exact xG q S hx
 |dO=>exact vN hr.t q S hx (B.Mi S)
 |F=>exact Kx q S hx
 |uh=>exact pI (by simp) hr.t q S hx
 |A7=>exact pI (by simp) hr.t q S hx
 |gV=>trivial
theorem Ib (B:bP w s0){o:xc}{l:MX}(hl:bz w s0 n l)(hi:∀a,l=.cons a .m→bz w s0 n a):bz w s0 n (.pO o l):=by
 refine bz.dI rfl (fun{A cx env vals R H s e Q} hr hc F S q=>?_) fun{cx env e whole} hc=>by unfold ar at hc;split at hc<;>first|rfl|cases hc
 ·unfold ar at hc;split at hc
  ·rename_i x p1 y z p2 pos;simp at hc;obtain⟨⟨⟨⟨h1,h2⟩,h3⟩,h4⟩,h5⟩:=hc;refine wpAny_Call_NameR (uZ B F S h1 (qt (n7 .gV) h2) ?_);cases l with
   |cons a b=>
    unfold cV at h5;simp at h5;obtain⟨⟨h6,h7⟩,h8⟩:=h5;have hb:b=.m:=by cases b<;>simp [cV] at h8 ⊢
    subst hb;have hst:starEach [y,.Name z p2] env=[(false,eval y env),(false,eval (.Name z p2) env)] :=by rw [gM h6];rfl
    rw [hst];apply mi rfl;refine spliced_cons (wpAny_mono ((hi a rfl).E hr h7 F S q) (fun c s1 zz=>?_) (by simp));obtain⟨R1,v,H1,q,x1,S1,vr⟩:=zz;exact spliced_cons (uZ B (F.bq x1 S) S1 h3 (qt (n7 .F) h4) (spliced_nil (wpAny_mono (yQ q S1 vr) (fun _ _ z=>z.cB x1) (by simp))))
   |_=>simp [cV] at h5
  ·simp at hc;obtain⟨⟨⟨h1,h2⟩,h3⟩,h4⟩:=hc;refine wpAny_Call_NameR (uZ B F S h2 (qt (n7 o) h3) (mi (cf h4 _ _) (wpAny_mono (hl.L hr h4 F S q) (fun cs s1 z=>?_) (by simp))));obtain⟨hz,R1,vs,H1,q,x,S1,vrs⟩:=z;exact wpAny_mono (zC B h1 hr q S1 vrs) (fun _ _ z=>z.cB x) (by simp)
  trivial
theorem oO {o:V}{H:AH}(h:dK o H=1):∃k l,o=.y k∧H[k]?=some (.f l):=by unfold dK at h;grind
theorem oP {o:V}{H:AH}(h:dK o H=2):∃k l,o=.y k∧H[k]?=some (.i l):=by unfold dK at h;grind
section
variable {A:Around}{R:aJ}{H:AH}{s:Shared}{o:V}{c:Value}
theorem oZ (h:dK o H=1)(S:St w s0 R H s)(ho:VR (N0 s0) s.heap R o c):s.TypeIs c "list"∧∀a,c=.ref a→∃ob,s.heap.get? a=some ob∧ob.dict=none:=by obtain⟨k,l,rfl,h1⟩:=oO h;obtain⟨p,items,ep,rfl,_,t,r,_⟩:=bp S ho h1;exact⟨⟨_,t,rfl⟩,by grind⟩
theorem o3 (h:dK o H=2)(S:St w s0 R H s)(ho:VR (N0 s0) s.heap R o c):s.TypeIs c "dict"∧∀a,c=.ref a→∃ob,s.heap.get? a=some ob∧ob.dict=none:=by obtain⟨k,l,rfl,h1⟩:=oP h;obtain⟨p,items,ep,rfl,_,t,r,_⟩:=cO S ho h1;exact⟨⟨_,t,rfl⟩,by grind⟩
end
theorem nC {es:List Expr}{cx:Cx}{l:MX}(h:cV l cx es=true)(hz:es.length<20)(pos:Pos)(env:Env):
 ((backTo pos (starEach es env)).all (fun x=> !x.1)&&(backToKw pos (keywordEach [] env)).all (fun x=>x.1.isSome)&&decide (es.length+([] :List Keyword).length+(if([] :List Keyword).isEmpty then 0 else 1)<30))=true:=by
 have:=cf h pos env
 simp only [Bool.and_eq_true,List.all_eq_true]
 exact⟨⟨by grind,fun x hx=>by trivial⟩,by simp;omega⟩
theorem Ie {a b:MX}(ha:bz w s0 n a)(hb:bz w s0 n b):bz w s0 n (.oo a b):=by
 refine bz.dI rfl (fun{A cx env vals R H s e Q} hr hc F S q=>?_) fun{cx env e whole} hc=>by unfold ar at hc;split at hc<;>first|rfl|cases hc
 ·unfold ar at hc;split at hc
  ·rename_i x n' ap y pos;simp at hc;obtain⟨⟨⟨⟨⟨rfl,h2⟩,h3⟩,h4⟩,h5⟩,hst⟩:=hc;have hq:=q;have hL:cV (.cons b .m) cx [y] =true:=by simp [cV,hst,h5]
   apply wpAny_Call_method (iT h2 _ _ _) (nC hL (by simp) _ _) (by simp_all) PySem.F.plainAttrs_list PySem.F.slot_list_append PySem.F.type_list_append;refine wpAny_mono (ha.E hr h4 F S hq) (fun c s1 z=>?_) (by simp);obtain⟨R1,v,H1,⟨hk,q⟩,x1,S1,vr⟩:=z;obtain⟨t1,t2⟩:=oZ hk S1 vr;refine⟨t1,t2,?_⟩;rw [gM hst];refine callWith_builtin rfl (eU rfl (spliced_cons (wpAny_mono (hb.E hr h5 (F.bq x1 S) S1 q) (fun d s2 z=>?_) (by simp))));obtain⟨R2,u,H2,q,x2,S2,vr2⟩:=z;apply spliced_nil;refine wpAny_mono (ml q S2 (vr.bq x2 S1 (aU _ _)) vr2) (fun c3 s3 z=>?_) (by simp);obtain⟨R3,v3,H3,⟨rfl,q⟩,x3,S3,vr3⟩:=z;exact⟨R3,_,H3,q,(x1.trans x2).trans x3,S3,vr3⟩
  trivial
theorem HO (B:bP w s0){a l:MX}(ha:bz w s0 n a)(hl:bz w s0 n l):bz w s0 n (.xa a l):=by
 refine bz.dI rfl (fun{A cx env vals R H s e Q} hr hc F S q=>?_) fun{cx env e whole} hc=>by unfold ar at hc;split at hc<;>first|rfl|cases hc
 ·unfold ar at hc;split at hc
  ·rename_i x n' ap es pos;simp at hc;obtain⟨⟨⟨⟨⟨rfl,h2⟩,h3⟩,hz⟩,h4⟩,h5⟩:=hc;have hq:=q;apply wpAny_Call_method_late (iT h2 _ _ _) (nC h5 hz _ _) (by simp_all) rfl;refine wpAny_mono (ha.E hr h4 F S hq) (fun c s1 z=>?_) (by simp);obtain⟨R1,v,H1,⟨hk,q⟩,x1,S1,vr⟩:=z;have hL:=hl.L (pos:=pos) hr h5 (F.bq x1 S) S1 q;rcases hk with hk|hk
   ·obtain⟨t1,t2⟩:=oZ hk S1 vr;refine⟨_,_,PySem.F.plainAttrs_list,PySem.F.slot_list_pop,PySem.F.type_list_pop,t1,t2,callWith_builtin (cf h5 _ _) (eU (cf h5 _ _) (wpAny_mono hL (fun cs s2 z=>?_) (by simp)))⟩;obtain⟨hlen,R2,vs,H2,⟨hk2,q⟩,x2,S2,vrs⟩:=z;obtain⟨k,l0,rfl,h0⟩:=oO (hk2.trans hk);unfold ov at q;simp [h0] at q;obtain⟨rfl,q⟩:=q;cases vrs;split at q
    ·rename_i v hv;exact wpAny_mono (ye h0 hv S2 (vr.bq x2 S1 (aU _ _)) q) (fun _ _ z=>z.cB (x1.trans x2)) (by simp)
    trivial
   ·obtain⟨t1,t2⟩:=o3 hk S1 vr;refine⟨_,_,PySem.F.plainAttrs_dict,PySem.F.slot_dict_pop,PySem.F.type_dict_pop,t1,t2,callWith_builtin (cf h5 _ _) (eU (cf h5 _ _) (wpAny_mono hL (fun cs s2 z=>?_) (by simp)))⟩;obtain⟨hlen,R2,vs,H2,⟨hk2,q⟩,x2,S2,vrs⟩:=z;obtain⟨k,l0,rfl,h0⟩:=oP (hk2.trans hk);unfold ov at q;simp [h0] at q;split at q
    ·cases vrs with
     |cons vk r=>
      cases r;obtain⟨hkey,q⟩:=q;split at q
      ·rename_i v hv;exact wpAny_mono (Je h0 hkey hv q S2 (vr.bq x2 S1 (aU _ _)) vk (by have:=hr.u;rw [mh];omega)) (fun _ _ z=>z.cB (x1.trans x2)) (by simp)
      trivial
    trivial
  trivial
theorem HX (B:bP w s0){a l:MX}(ha:bz w s0 n a)(hl:bz w s0 n l):bz w s0 n (.jG a l):=by
 refine bz.dI rfl (fun{A cx env vals R H s e Q} hr hc F S q=>?_) fun{cx env e whole} hc=>by unfold ar at hc;split at hc<;>first|rfl|cases hc
 ·unfold ar at hc;split at hc
  ·rename_i x n' ap es pos;simp at hc;obtain⟨⟨⟨⟨⟨rfl,h2⟩,h3⟩,hz⟩,h4⟩,h5⟩:=hc;have hq:=q;apply wpAny_Call_method_late (iT h2 _ _ _) (nC h5 hz _ _) (by simp_all) rfl;refine wpAny_mono (ha.E hr h4 F S hq) (fun c s1 z=>?_) (by simp);obtain⟨R1,v,H1,⟨hk,q⟩,x1,S1,vr⟩:=z;obtain⟨t1,t2⟩:=o3 hk S1 vr;refine⟨_,_,PySem.F.plainAttrs_dict,PySem.F.slot_dict_get,PySem.F.type_dict_get,t1,t2,callWith_builtin (cf h5 _ _) (eU (cf h5 _ _) (wpAny_mono (hl.L (pos:=pos) hr h5 (F.bq x1 S) S1 q) (fun cs s2 z=>?_) (by simp)))⟩;obtain⟨hlen,R2,vs,H2,q,x2,S2,vrs⟩:=z;exact wpAny_mono (Jg q S2 (vr.bq x2 S1 (aU _ _)) vrs (by have:=hr.u;rw [mh];omega) (B.Mi S2)) (fun _ _ z=>z.cB (x1.trans x2)) (by simp)
  trivial
theorem uV {A:Around}{f:Nat}{args:List V}{cs:List Value}{R:aJ}{H:AH}{s:Shared}{Q:V→AH→Prop}(hr:dT n A)(q:oh w s0 n f args H Q)(S:St w s0 R H s)(hv:b8 (N0 s0) s.heap R args cs):
 wpAny (model pw w) A (call (.ref (fa f)) cs) (cG w s0 R s Q) cX s:=by
 refine wpAny_call (codeAny_mono (q A R s cs S hv hr.c) fun r s' z=>?_)
 grind
def Lk (K:Frag):Bool:=Ll.all fun a=>keepIn K (.ref a)
def Jp (K:Frag):Bool:=Jq.all fun a=>keepIn K (.ref a)
set_option maxRecDepth 1000000 in
theorem I8 (w:World):Lk (Kf w)=true:=by kernel_rfl
set_option maxRecDepth 1000000 in
theorem zv (w:World):Jp (Kf w)=true:=by kernel_rfl
theorem tH {f:Nat}(h:f<108):fa f∈Ll:=by unfold fa;have hl:Ll.length=108:=rfl;grind
theorem Lz {f:Nat}(h:f<8):ca f∈Jq:=by unfold ca;have hl:Jq.length=8:=rfl;grind
theorem yM {f:Nat}(h:f<108):keepIn (Kf w) (.ref (fa f))=true:=List.all_eq_true.mp (I8 w) _ (tH h)
theorem K6 {f:Nat}(h:f<8):keepIn (Kf w) (.ref (ca f))=true:=List.all_eq_true.mp (zv w) _ (Lz h)
theorem tF {x:Str}{f:Nat}(h:j3.lookup x=some f):f<108:=by
 have:j3.all fun p=>decide (p.2<108)=true:=by rfl
 have:=List.all_eq_true.mp this _ (cH h);simp_all
theorem sg {x:Str}{f:Nat}(h:iK.lookup x=some f):f<8:=by
 have:iK.all fun p=>decide (p.2<8)=true:=by rfl
 have:=List.all_eq_true.mp this _ (cH h);simp_all
theorem jD (B:bP w s0){A:Around}{s:Shared}{E:Value→Shared→Prop}{f:Value}{first:List Value}{pos:Pos}{trees:List (Bool×Sem Value)}{Q:Value→Shared→Prop}(hk:keepIn (Kf w) f=true)(hp:trees.any (·.1)=false)
 (h:wpAny (model pw w) A (spliced trees) (fun vs s1=>(Kf w).In s1.heap∧wpAny (model pw w) A (call f (first++vs)) Q E s1) E s):wpAny (model pw w) A (callWith pos f first trees []) Q E s:=
 callWith_of (by simp_all) (keeps_K hk) (eU hp h)
theorem xY (B:bP w s0){f:Nat}{l:MX}(hl:bz w s0 n l):bz w s0 n (.w f l):=by
 refine bz.dI rfl (fun{A cx env vals R H s e Q} hr hc F S q=>?_) fun{cx env e whole} hc=>by unfold ar at hc;split at hc<;>first|rfl|cases hc
 ·unfold ar at hc;split at hc
  ·simp at hc;obtain⟨⟨h1,h2⟩,h3⟩:=hc;have hq:=q;refine wpAny_Call_NameR (OE B F S h1 h2 (jD B (yM (tF h2)) (cf h3 _ _) (wpAny_mono (hl.L hr h3 F S hq) (fun cs s1 z=>?_) (by simp))));obtain⟨hz,R1,vs,H1,q,x,S1,vrs⟩:=z;exact⟨B.K S1,wpAny_mono (uV hr q S1 vrs) (fun _ _ z=>z.cB x) (by simp)⟩
  trivial
theorem wc {c a f:Nat}(h:(lu w s0 n).bJ c a=some f):findIn (Kf w) (.ref (ca c)) (bK a)=some (some (.ref (fa f)))∧f<108∧c<8:=by
 simp only [lu,Option.map_eq_some_iff] at h;obtain⟨e,he,rfl⟩:=h;have:=List.all_eq_true.mp (yp w) _ (List.mem_of_find?_eq_some he);have hlt:jT.all fun e=>decide (e.2.2<108)&&decide (e.1<8)=true:=by rfl
 grind
theorem xU (B:bP w s0){a l:MX}{k:Nat}(ha:bz w s0 n a)(hl:bz w s0 n l):bz w s0 n (.bJ a k l):=by
 refine bz.dI rfl (fun{A cx env vals R H s e Q} hr hc F S q=>?_) fun{cx env e whole} hc=>by unfold ar at hc;split at hc<;>first|rfl|cases hc
 ·unfold ar at hc;split at hc
  ·rename_i x n' ap es pos;simp only [Bool.and_eq_true,beq_iff_eq,decide_eq_true_eq] at hc;obtain⟨⟨⟨⟨⟨rfl,h2⟩,h3⟩,hz⟩,h4⟩,h5⟩:=hc;rw [arm_eval_Call,iT h2];refine wpAny_bind (wpAny_mono (ha.E hr h4 F S q) (fun c s1 z=>?_) (by simp));obtain⟨R1,v,H1,q,x1,S1,vr⟩:=z;split at q;case h_2=>trivial
   split at q;case h_2=>trivial
   rename_i c' fs h0;split at q;case h_2=>trivial
   rename_i f hf;obtain⟨ha54,hfld,q⟩:=q;obtain⟨hfind,hf108,hc8⟩:=wc hf;obtain⟨p,d,ents,ep,rfl,hp,g1,g2,FRs⟩:=nA S1 vr h0;have C:=uU (w:=w) hc8;have I:InstAt _ p _ _ (some _):=⟨g1,rfl,rfl,g2⟩;have hsh:shadowIn (some (dictOf ents ep)) (bK k)=some false:=by have z:=FRs.pM ha54;unfold shadowIn lookIn;grind
   have hty:=by simpa using List.all_eq_true.mp (y8 w) _ (tH hf108)
   refine wpAny_bind (wpAny_standAt ?_);have hform:methodCallForm _ _ _=true:=nC h5 hz pos env;have hpos:methodCallPos true x env ap pos=pure pos:=by unfold methodCallPos;simp [h3]
   unfold methodCall;rw [hform];refine wpAny_bind (wpAny_holding (method_fn (B.K S1) I C.ga C.gt hfind hty hsh (wpAny_bind (wpAny_of_eq hpos (jD B (yM hf108) (cf h5 _ _) (wpAny_mono (hl.L hr h5 (F.bq x1 S) S1 q) (fun cs s2 z=>?_) (by simp)))))));obtain⟨hz2,R2,vs,H2,q,x2,S2,vrs⟩:=z;exact⟨B.K S2,wpAny_mono (uV hr q S2 (.cons (vr.bq x2 S1 (aU _ _)) vrs)) (fun _ _ z=>z.cB (x1.trans x2)) (by simp)⟩
  trivial
theorem St.A3 {R:aJ}{H:AH}{s:Shared}{c:Nat}(S:St w s0 R H s)(hc:c<8):
 St w s0 (R++[(s.heap.objs.size+1,s.heap.objs.size)]) (H++[.J c []]) {s with heap:=(s.heap.push emptyDict).push (instObj (ca c) s.heap.objs.size)} ∧
 cj hF R (R++[(s.heap.objs.size+1,s.heap.objs.size)]) s {s with heap:=(s.heap.push emptyDict).push (instObj (ca c) s.heap.objs.size)} :=by
 have k:∀b o,s.heap.get? b=some o→((s.heap.push emptyDict).push (instObj (ca c) s.heap.objs.size)).get? b=some o:=fun b o e=>Heap.get?_push_of_some _ (Heap.get?_push_of_some _ e)
 have G:=S.dJ (t:=s.toks) k
 have fr:=cn s.heap
 have hx:((s.heap.push emptyDict).push (instObj (ca c) s.heap.objs.size)).get? (s.heap.objs.size+1)=some (instObj (ca c) s.heap.objs.size):=by have:=Heap.get?_push_size (o:=instObj (ca c) s.heap.objs.size) (s.heap.push emptyDict) rfl;simp_all
 have hd:((s.heap.push emptyDict).push (instObj (ca c) s.heap.objs.size)).get? _=some _:=Heap.get?_push_of_some _ (Heap.get?_push_size _ rfl)
 have hin:(R++[(s.heap.objs.size+1,s.heap.objs.size)])[H.length]?=some (s.heap.objs.size+1,s.heap.objs.size):=by rw [←S.U];simp
 refine⟨⟨by simp [S.U],fun i bo q e e'=>?_,by rw [List.map_append,List.nodup_append];refine⟨S.W,by simp,fun a ha b hb q=>?_⟩;simp at hb;obtain⟨c,hc,rfl⟩:=List.mem_map.mp ha;obtain⟨_,_,_,_,x⟩:=S.at hc;obtain⟨_,e,_⟩:=x.w9;grind,fun q hq=>?_,G.N,G.gens,G.os⟩,⟨by simp_all,by grind,fun b o e=>⟨o,k b o e⟩⟩⟩
 ·by_cases hi:i<H.length
  ·rw [List.getElem?_append_left hi] at e;rw [List.getElem?_append_left (S.U▸hi)] at e';exact(G.objs i bo q e e').P (by simp) (by simp) (kE _) (fun _ e=>e) fun _ e=>e
  ·have h1:=(List.getElem?_eq_some_iff.mp e).1;have:i=H.length:=by simp at h1;omega
   subst this;simp at e;rw [hin] at e';cases e';subst e;exact .J hx hd .m
 ·rcases List.mem_append.mp hq with hq|hq
  ·exact S.bD q hq
  ·simp at hq;subst hq;cases e:s0.heap.get? _ with
   |none=>rfl
   |some o=>rw [S.N _ _ e] at fr;omega
theorem wA {c:Nat}(hc:c<8):findIn (Kf w) (.ref (ca c)) "__init__"=some (some (match dW.lookup c with|some f=>.ref (fa f)|none=>.builtin "object.__init__")):=by have:=Oq (P:=fun c=>findIn _ _ _==some (some (match dW.lookup c with|some f=>.ref _|none=>.builtin _))) (yT w) hc;simp_all
theorem tB {c f:Nat}(h:dW.lookup c=some f):f<108:=by
 have:dW.all fun p=>decide (p.2<108)=true:=by rfl
 have:=List.all_eq_true.mp this _ (cH h);simp_all
theorem sO {A:Around}{c:Addr}{cs:List Value}{kw:List (Str×Value)}(r:dT n A):kG n (A.under (.builtin "type.__call__" ⟨.ref c::cs,kw⟩)):=by have h1:=r.oC;have h2:=r.oA;have e1:(Code.builtin "type.__call__" ⟨.ref c::cs,kw⟩).weight=1:=rfl;have e2:(Code.builtin "type.__call__" ⟨.ref c::cs,kw⟩).cUnits=1:=rfl;exact⟨r.t,by show A.depth+(Code.builtin _ _).weight+3*n≤981;omega,by show A.units+(Code.builtin _ _).cUnits+40*n≤9710;omega⟩
theorem HS (B:bP w s0){c:Nat}{l:MX}(hl:bz w s0 n l):bz w s0 n (.oj c l):=by
 refine bz.dI rfl (fun{A cx env vals R H s e Q} hr hc F S q=>?_) fun{cx env e whole} hc=>by unfold ar at hc;split at hc<;>first|rfl|cases hc
 ·unfold ar at hc;split at hc
  ·simp at hc;obtain⟨⟨h1,h2⟩,h3⟩:=hc;have hc8:=sg h2;have C:=uU (w:=w) hc8;refine wpAny_Call_NameR (M8 B F S h1 h2 (jD B (K6 hc8) (cf h3 _ _) (wpAny_mono (hl.L hr h3 F S q) (fun cs s1 z=>?_) (by simp))));obtain⟨hz,R1,vs,H1,q,x,S1,vrs⟩:=z;refine⟨B.K S1,?_⟩;have X:=B.K S1;obtain⟨S2,x2⟩:=S1.A3 hc8;have xx:=x.trans x2;have hin:VR (N0 s0) ((s1.heap.push emptyDict).push (instObj (ca c) s1.heap.objs.size)) (R1++[(s1.heap.objs.size+1,s1.heap.objs.size)]) (.y H1.length) _:=
    .y (p:=(s1.heap.objs.size+1,s1.heap.objs.size)) (by rw [←S1.U];simp)
   have hinit:=wA (w:=w) hc8;split at q
   ·rename_i f hf;have hf':dW.lookup c=some f:=hf;rw [hf'] at hinit;have hty:typeIn (Kf w) (.ref (fa f))=some (.type "function"):=by have:=List.all_eq_true.mp (y8 w) _ (tH (tB hf'));simp_all
    apply wpAny_call;apply make_core (makes_of X C.JM) (looks_findIn X hinit) (fun self=>bind_fn X _ hty) (by simp);refine codeAny_mono (q _ _ _ _ S2 (.cons hin (vrs.bq x2 S1 (aU _ _))) (sO hr)) fun r s' z=>?_;obtain⟨c',rfl,z⟩:=z;obtain⟨R3,v3,H3,⟨rfl,q⟩,x3,S3,vr3⟩:=z;cases vr3;exact⟨rfl,R3,_,H3,q,xx.trans x3,S3,hin.bq x3 S2 (aU _ _)⟩
   ·rename_i hf;have hf':dW.lookup c=none:=hf;rw [hf'] at hinit;obtain⟨rfl,q⟩:=q;cases vrs;apply wpAny_call;obtain⟨hh,g,d,t,os⟩:=s1;have Y:=makes_of (M:=model pw w) X C.JM;apply make_core Y (looks_findIn X hinit) (fun self=>Looks.of_pure (oi_bind _)) (by simp);have t1:Looks (model pw w) _ (typeOf (.ref _)) _:=(Looks.ld (by have:=Heap.get?_push_size (o:=instObj (ca c) hh.objs.size) (hh.push emptyDict) rfl;rwa [Heap.size_push] at this)).andThen .now
    have t2:Looks _ _ (isInstance _ _) _:=t1.andThen (Y.top.keeps fun b o e=>Heap.get?_push_of_some _ (Heap.get?_push_of_some _ e));exact codeAny_call_builtin oi_plain entry_oi (@check_slot _ _ _ _ _ _ _ _ [] [] _ oi_kind rfl t2 (oi_args _) (wpAny_pure (And.intro rfl ⟨_,_,_,q,xx,S2,hin⟩)))
  trivial
def lN:List (V×V):=nD.map fun p=>(.j p.1,.j p.2)
theorem ze (t d:Int):(bR (.j t) lN).getD (.j d)=.j (wK t d):=by
 unfold wK lN;generalize nD=l;induction l with
 |nil=>rfl
 |cons p r ih=>simp [bR];grind
theorem Lo (w:World):∃a ents ep,nsIn (Kf w) 3 (m "KEY_FAMILIES")=some (some (.ref a))∧jb (m "KEY_FAMILIES")=true∧(Kf w).lookup a=some (dictOf ents ep)∧(a==sysModules)=false∧(∀(h:Heap) (R:aJ),DR h w h R lN ents):=by
 have h:=Jd w;unfold JW at h;simp only [Bool.and_eq_true] at h;obtain⟨hd,h⟩:=h;split at h;case h_2=>cases h
 rename_i a ha;split at h;case h_2=>cases h
 rename_i es ep ho;simp only [Bool.and_eq_true,beq_iff_eq] at h;obtain⟨⟨h1,h2⟩,h3⟩:=h;refine⟨a,_,ep,ha,hd,by omega,by simpa [sysModules] using h3,fun h R=>?_⟩;unfold lN;rw [←h1];have gen:∀l,(l.all fun e=>(match e.key with| .int k _=>e.hash==hashInt k|_=>false)&&match e.val with| .int k _=>true|_=>false)=true→DR h w h R ((l.map fun e=>(match e.key with| .int k _=>k|_=>0,match e.val with| .int k _=>k|_=>0)).map fun p=>(V.j p.1,V.j p.2)) l:=by
  intro l;induction l with
  |nil=>intro _;exact .m
  |cons e r ih=>intro hl;simp only [List.all_cons,Bool.and_eq_true] at hl;obtain⟨⟨k1,k2⟩,k3⟩:=hl;obtain⟨eh,ek,ev⟩:=e;cases ek<;>simp at k1;cases ev<;>simp at k2;refine .cons ⟨rfl,?_,.j _ _⟩ (.j _ _) (ih (by omega));simpa [xb] using k1
 exact gen _ h2
theorem rN:(lN.map (·.1)).Nodup:=by decide
theorem tG (t:Int):bI (.j t) lN:=⟨by simp [V.aS],by simp [lN,nD,V.aS]⟩
theorem HY (B:bP w s0){a b:MX}(ha:bz w s0 n a)(hb:bz w s0 n b):bz w s0 n (.Kl a b):=by
 refine bz.dI (me:=.Kl a b) rfl (fun{A cx env vals R H s e Q} hr hc F S q=>?_) (fun{cx env e whole} hc=>by unfold ar at hc;split at hc<;>first|rfl|cases hc)
 ·unfold ar at hc;split at hc
  ·rename_i k kp n' ap x y pos;simp only [Bool.and_eq_true,beq_iff_eq] at hc;obtain⟨⟨⟨⟨⟨⟨⟨h1,rfl⟩,h3⟩,rfl⟩,h5⟩,h6⟩,h7⟩,h8⟩:=hc;obtain⟨fa,ents,ep,g1,g2,g3,g4,g5⟩:=Lo w;have hL:cV (.cons a (.cons b .m)) cx [x,y] =true:=by simp [cV,h5,h6,h7,h8]
   refine wpAny_Call_method_late (iT rfl _ _ _) (nC hL (by simp) _ _) (by simpa using h1) rfl (qh B F S h3 g2 g1 ?_);have hg:∀ {R':aJ} {H':AH} {s':Shared},St w s0 R' H' s'→s'.heap.get? fa=some (dictOf ents ep):=fun S'=>B.K S' _ _ g3;refine⟨"dict","dict.get",PySem.F.plainAttrs_dict,PySem.F.slot_dict_get,PySem.F.type_dict_get,⟨_,hg S,rfl⟩,fun a e=>by cases e;exact⟨_,hg S,rfl⟩,?_⟩;have hst:backTo pos (starEach [x,y] env)=[(false,eval x env),(false,eval y env)] :=by rw [gM h7,gM h8];rfl
   rw [hst];refine callWith_builtin rfl (eU rfl (spliced_cons (wpAny_mono (ha.E hr h5 F S q) (fun c s1 z=>?_) fun _ _ z=>z)));obtain⟨R1,v,H1,q,x1,S1,vr⟩:=z;refine spliced_cons (wpAny_mono (hb.E hr h6 (F.bq x1 S) S1 q) (fun d s2 z=>?_) fun _ _ z=>z);obtain⟨R2,u,H2,q,x2,S2,vr2⟩:=z;refine spliced_nil ?_;obtain⟨t,dd,rfl,rfl,q⟩:∃t d,v=.j t∧u=.j d∧Q (.j (wK t d)) H2:=by
    cases v<;>try exact False.elim q
    cases u<;>try exact False.elim q
    exact⟨_,_,rfl,rfl,q⟩
   obtain⟨tk,rfl⟩:∃tk,c=.int t tk:=by cases vr.bq x2 S1 (aU _ _);exact⟨_,rfl⟩
   obtain⟨tk2,rfl⟩:∃tk,d=.int dd tk:=by cases vr2;exact⟨_,rfl⟩
   have hT:s2.TypeIs (.ref fa) "dict":=⟨_,hg S2,rfl⟩;refine wpAny_call_entry PySem.F.slot_dict_get hT PySem.F.entry_dict_get ?_ (PySem.F.args_dict_get_3 _ _ _);show wpAny _ _ (dictGet fa (.int t tk)>>=_) _ _ s2;refine wpAny_bind (gT (A:=A.in1) (N:=s2.heap) (R:=R2) (k:=.j t) (tG t) (g5 s2.heap R2) rN (hg S2) rfl (.j t tk) (by have:=hr.u;rw [mh];show A.units+1+4<9900;omega) fun r hlk=>?_);have hf:=ze t dd;cases hl:bR (.j t) lN with
   |none=>
    rw [hl] at hlk hf;cases r with
    |some _=>exact hlk.elim
    |none=>simp at hf;refine wpAny_bind (wpAny_missed_other g4 (wpAny_pure ⟨_,rfl,?_⟩));rw [hf];exact(cG.jJ _ S2 (.j _ _) q).cB (x1.trans x2)
   |some v=>
    rw [hl] at hlk hf;cases r with
    |none=>exact hlk.elim
    |some c=>subst hf;cases hlk;exact wpAny_pure ⟨_,rfl,(cG.jJ _ S2 (.j _ _) q).cB (x1.trans x2)⟩
  ·cases hc
inductive iZ (N h:Heap) (R:aJ) (I:Addr):List V→Option (Nat×List V)→Nat→Prop
 |B {l:List V} {ax:Addr} {items:Array Value} {i:Nat} :h.IsTupleIter I ax i→IsTup h ax items→b8 N h R l items.toList→iZ N h R I l none i
 |Kn {x:Str} {t:Tok} {i:Nat} :h.IsStrIter I "str_ascii_iterator" x t i→iZ N h R I (x.cps.toList.map fun c=>.F ⟨#[c]⟩) none i
 |sH {x:Str} {t:Tok} {i:Nat} :h.IsStrIter I "str_iterator" x t i→iZ N h R I (x.cps.toList.map fun c=>.F ⟨#[c]⟩) none i
 |f {k:Nat} {p:Addr} {l:List V} {i:Nat} :R[k]?=some (p,p)→h.IsListIter I p i→iZ N h R I l (some (k,l)) i
 |mI {k i:Nat} :IsRangeIter h I (i:Int) ((k:Int)-i) 1→iZ N h R I (ft k) none i
def nv (o:Obj):Prop:=∃T fs,o.cls=.type T∧o.data=.fields fs∧T≠"list"∧T≠"dict"∧T≠"tuple"
theorem iZ.at {N h:Heap}{R:aJ}{I:Addr}{l:List V}{src:Option (Nat×List V)}{i:Nat}(x:iZ N h R I l src i):∃o,h.get? I=some o∧nv o:=by
 cases x with
 |B a _ _=>obtain⟨o,h1,h2,h3⟩:=a;exact⟨o,h1,_,_,h2,h3,by simp,by simp,by simp⟩
 |Kn a=>obtain⟨o,h1,h2,h3⟩:=a;exact⟨o,h1,_,_,h2,h3,by simp,by simp,by simp⟩
 |sH a=>obtain⟨o,h1,h2,h3⟩:=a;exact⟨o,h1,_,_,h2,h3,by simp,by simp,by simp⟩
 |f _ a=>obtain⟨o,h1,h2,h3⟩:=a;exact⟨o,h1,_,_,h2,h3,by simp,by simp,by simp⟩
 |mI a=>exact⟨_,a,_,_,rfl,rfl,by simp,by simp,by simp⟩
section
variable {A:Around}{R:aJ}{H:AH}{s:Shared}{I:Addr}{oI:Obj}{h':Heap}
abbrev JK (I:Addr)(h h':Heap):Prop:=∀b o,b≠I→h.get? b=some o→h'.get? b=some o
theorem nv.B (hI:s.heap.get? I=some oI)(it:nv oI)(k:JK I s.heap h'){a:Addr}{items:Array Value}(t:IsTup s.heap a items):IsTup h' a items:=by obtain⟨o,e,c,r⟩:=t;obtain⟨T,fs,c1,_,_,_,c2⟩:=it;refine⟨o,k a o ?_ e,c,r⟩;grind
theorem nv.dm (hI:s.heap.get? I=some oI)(it:nv oI)(k:JK I s.heap h'){a:Addr}{items:Array Value}(t:s.heap.IsList a items):h'.IsList a items:=by obtain⟨o,e,c,r⟩:=t;obtain⟨T,fs,c1,_,c2,_⟩:=it;refine⟨o,k a o ?_ e,c,r⟩;grind
theorem nv.ne (hI:s.heap.get? I=some oI)(it:nv oI)(S:St w s0 R H s){p:Addr×Addr}(hp:p∈R):p.2≠I:=by obtain⟨_,_,_,_,x⟩:=S.at hp;obtain⟨ob,e,c⟩:=x.w9;obtain⟨T,fs,c1,_,c2,c3,_⟩:=it;grind
theorem St.jl {t:Nat}(hI:s.heap.get? I=some oI)(it:nv oI)(h0:s0.heap.get? I=none)(k:JK I s.heap h')(S:St w s0 R H s):St w s0 R H {s with heap:=h',toks:=t} :=by
 refine⟨S.U,fun i ao p e e'=>?_,S.W,S.bD,fun b o e=>k b o ?_ (S.N b o e),S.gens,S.os⟩
 ·have z:=S.objs i ao p e e';refine z.P (fun _ _ t=>it.B hI k t) (fun _ _ _ t=>it.dm hI k t) (by simp) (fun o ho=>k _ _ ?_ ho) fun o ho=>k _ _ (it.ne hI S (by grind)) ho;rintro q;cases z with
  |f=>exact it.ne hI S (List.mem_of_getElem? e') q
  |i=>exact it.ne hI S (List.mem_of_getElem? e') q
  |kH=>exact it.ne hI S (List.mem_of_getElem? e') q
  |J g _ _=>subst q;obtain rfl:=Option.some.inj (hI.symm.trans g);obtain⟨T,fs,c1,_⟩:=it;cases c1
 grind
theorem cj.jl {Z:Addr→Prop}{R0:aJ}{sb:Shared}{t:Nat}(x:cj Z R0 R sb s)(hb:sb.heap.get? I=none)(k:JK I s.heap h'):cj Z R0 R sb {s with heap:=h',toks:=t} :=by exact⟨fun b o e h1 h2=>k b o (by grind) (x.N b o e h1 h2),x.A0,fun b o e=>by obtain⟨o',e'⟩:=x.kL b o e;grind⟩
theorem VR.jl {N:Heap}{v:V}{c:Value}(hI:s.heap.get? I=some oI)(it:nv oI)(k:JK I s.heap h')(x:VR N s.heap R v c):VR N h' R v c:=x.P (fun _ _ t=>it.B hI k t) (fun _ _ _ t=>it.dm hI k t) (by simp)
theorem b8.jl {N:Heap}{v:List V}{c:List Value}(hI:s.heap.get? I=some oI)(it:nv oI)(k:JK I s.heap h')(x:b8 N s.heap R v c):b8 N h' R v c:=x.P (fun _ _ t=>it.B hI k t) (fun _ _ _ t=>it.dm hI k t) (by simp)
theorem ER.jl {cx:Cx}{env:Env}{vals:En}(hI:s.heap.get? I=some oI)(it:nv oI)(k:JK I s.heap h')(F:ER s0 cx env vals R s.heap):ER s0 cx env vals R h':=by
 have kc:∀a c,s.heap.IsCell a c→h'.IsCell a c:=by rintro a c ⟨o,h2,h2'⟩;refine⟨o,k a o ?_ h2,h2'⟩;rintro rfl;obtain⟨T,fs,_,d,_⟩:=it;simp_all
 refine⟨F.aS,F.dP,F.gl,F.bl,F.inj,fun y i e=>?_,by obtain⟨m,⟨o,es,ep,g,d,r⟩,hm⟩:=F.ns;refine⟨m,⟨o,es,ep,k _ o ?_ g,d,r⟩,fun y i v a b c=>let⟨cv,e1,e2⟩:=hm y i v a b c;⟨cv,e1,e2.jl hI it k⟩⟩;rintro q;obtain⟨T,fs,_,d',_⟩:=it;simp_all,F.cF,F.lE,fun x1 a e=>let⟨q,c,hc⟩:=F.fQ x1 a e;⟨q,c,kc a c hc⟩,F.qP,F.sc⟩
 ·rcases F.eN y i e with q|⟨q,a,h1,c,hc,h3⟩
  ·simp_all
  ·exact .inr ⟨q,a,h1,c,kc a c hc,fun v hv=>let⟨cv,e1,e2⟩:=h3 v hv;⟨cv,e1,e2.jl hI it k⟩⟩
def Nz (w:World)(s0:Shared)(R:aJ)(s:Shared)(I:Addr)(l:List V)(src:Option (Nat×List V))(i:Nat)(r:Option Value)(s':Shared):Prop:=
 ∃h' tk,s'= {s with heap:=h',toks:=tk} ∧JK I s.heap h'∧(match l[i]? with
  |some v=>∃c,r=some c∧VR (N0 s0) h' R v c∧iZ (N0 s0) h' R I l src (i+1)
  |none=>r=none)
theorem d8 {h h':Heap}{I:Addr}(x:Heap.SameBut I h h'):JK I h h':=fun b o hb e=>(x.2 b hb).trans e
theorem uJ {l:List V}{src:Option (Nat×List V)}{i:Nat}(hh:A.handled=none)(S:St w s0 R H s)(st:dB src H)(x:iZ (N0 s0) s.heap R I l src i):
 wpAny (model pw w) A (pyNext (.ref I)) (Nz w s0 R s I l src i) cX s:=by
 obtain⟨oI,hI,it⟩:=x.at
 cases x with
 | @B l ax items i a t r=>
  cases hl:l[i]? with
  |some v=>
   obtain⟨c,hc,vc⟩:=r.jG hl
   refine wpAny_pyNext_tuple_item a t (by simpa using hc) fun h' a' hs=>?_
   have k:=d8 hs
   refine⟨h',s.toks,rfl,k,?_⟩
   rw [hl]
   exact⟨c,rfl,vc.jl hI it k,.B a' (it.B hI k t) (r.jl hI it k)⟩
  |none=>
   have hz:=r.length
   have hc:items[i]?=none:=by grind
   refine wpAny_pyNext_tuple_end hh a t hc fun h' hs=>⟨h',s.toks,rfl,hs,?_⟩
   rw [hl]
 | @Kn x t i a=>
  cases hl:x.cps[i]? with
  |some c=>
   refine wpAny_pyNext_ascii_item a hl fun h' a' hs=>⟨h',_,rfl,d8 hs,?_⟩
   simp only [List.getElem?_map,Array.getElem?_toList,hl]
   exact⟨_,rfl,.F _ _,.Kn a'⟩
  |none=>
   refine wpAny_pyNext_ascii_end hh a hl fun h' hs=>⟨h',s.toks,rfl,hs,?_⟩
   grind
 | @sH x t i a=>
  cases hl:x.cps[i]? with
  |some c=>
   refine wpAny_pyNext_wide_item a hl fun h' a' hs=>⟨h',_,rfl,d8 hs,?_⟩
   simp only [List.getElem?_map,Array.getElem?_toList,hl]
   exact⟨_,rfl,.F _ _,.sH a'⟩
  |none=>
   refine wpAny_pyNext_wide_end hh a hl fun h' hs=>⟨h',s.toks,rfl,hs,?_⟩
   grind
 | @f k p l i hk a=>
  have h1:=st
  have vr:VR (N0 s0) s.heap R _ _:=.y hk
  obtain⟨p',items,ep,e,hp',t,r,_⟩:=bp S vr h1
  cases e
  cases hl:l[i]? with
  |some v=>
   obtain⟨c,hc,vc⟩:=r.jG hl
   refine wpAny_pyNext_list_item a (bU t) (by simpa using hc) fun h' a' hs=>?_
   have k:=d8 hs
   refine⟨h',s.toks,rfl,k,?_⟩
   rw [hl]
   exact⟨c,rfl,vc.jl hI it k,.f hk a'⟩
  |none=>
   have hz:=r.length
   have hc:items[i]?=none:=by grind
   refine wpAny_pyNext_list_end hh a (bU t) hc fun h' hs=>⟨h',s.toks,rfl,hs,?_⟩
   rw [hl]
 | @mI k i a=>
  by_cases hl:i<k
  ·refine wpAny_pyNext_range_item a (by omega) fun h' a' hs=>⟨h',_,rfl,d8 hs,?_⟩;have e:(ft k)[i]?=some (.j i):=by simp [ft,hl]
   rw [e];refine⟨_,rfl,.j _ _,.mI ?_⟩;grind
  ·refine wpAny_pyNext_range_end hh a (by omega) fun h' hs=>⟨h',s.toks,rfl,hs,?_⟩;have e:(ft k)[i]?=none:=by simp [ft];omega
   rw [e]
def vd (w:World)(s0:Shared)(R:aJ)(s:Shared)(l:List V)(src:Option (Nat×List V))(c:Value)(s':Shared):Prop:=
 ∃o,c=.ref s.heap.objs.size∧s'= {s with heap:=s.heap.push o} ∧iZ (N0 s0) (s.heap.push o) R s.heap.objs.size l src 0
theorem yP {v:V}{c:Value}{l:List V}{src:Option (Nat×List V)}(e:aG v H=some (l,src))(S:St w s0 R H s)(h:VR (N0 s0) s.heap R v c):
 wpAny (model pw w) A (pyIter c) (vd w s0 R s l src) cX s:=by
 unfold aG at e
 split at e
 ·cases e;cases h with
  |B t r=>exact wpAny_pyIter_tuple t ⟨_,rfl,rfl,.B ⟨_,Heap.get?_push_size _ rfl,rfl,rfl⟩ (t.push _) (r.Y _)⟩
 ·cases e;cases h;refine wpAny_pyIter_strU ⟨_,rfl,rfl,?_⟩;unfold strIterType;split
  ·exact .Kn ⟨_,Heap.get?_push_size _ rfl,rfl,rfl⟩
  ·exact .sH ⟨_,Heap.get?_push_size _ rfl,rfl,rfl⟩
 ·split at e
  ·cases e;rename_i h1;obtain⟨p,items,ep,rfl,hp,t,r,_⟩:=bp S h h1;exact wpAny_pyIter_list (bU t) ⟨_,rfl,rfl,.f hp ⟨_,Heap.get?_push_size _ rfl,rfl,rfl⟩⟩
  trivial
 trivial
end
def Zx (env:Env)(x:Str):Addr→Prop:=fun b=>b=env.locals∨env.cells.lookup x=some b
def FZ (env:Env):Addr→Prop:=fun b=>b=env.locals∨∃x,env.cells.lookup x=some b
theorem zR {env:Env}{x:Str} :∀b,Zx env x b→FZ env b:=fun b h=>h.elim .inl fun h=>.inr ⟨x,h⟩
theorem Iw {Z:Addr→Prop} :∀b,hF b→Z b:=fun _ z=>z.elim
section
variable {A:Around}{cx:Cx}{env:Env}{vals:En}{R:aJ}{H:AH}{s:Shared}
theorem vh (F:ER s0 cx env vals R s.heap):JE s0.heap (FZ env) s.heap:=by
 rintro a (rfl|⟨x,hx⟩)
 ·refine⟨F.lE,fun o ho xs k hd=>?_⟩;obtain⟨m,⟨o',es,ep,g,d,_⟩,_⟩:=F.ns;grind
 ·obtain⟨h0,c,o',g,d⟩:=F.fQ x a hx;grind
theorem J3 (F:ER s0 cx env vals R s.heap)(x:Str):JE s0.heap (Zx env x) s.heap:=fun a ha=>vh F a (zR a ha)
theorem jQ {vals:En}{i j:Nat}{v u:V}(h:(vals.set i (some v))[j]?=some (some u)):(j=i∧u=v)∨(j≠i∧vals[j]?=some (some u)):=by grind
theorem St.Ml {Z:Addr→Prop}{a:Addr}{h':Heap}{t:Nat}(S:St w s0 R H s)(hZ:JE s0.heap Z s.heap)(ha:Z a)(hR:∀p∈R,p.2≠a)(hc:∀o,s.heap.get? a=some o→o.data≠.plain)(hs:Heap.SameBut a s.heap h')(hl:∃o,h'.get? a=some o):
 St w s0 R H {s with heap:=h',toks:=t} ∧cj Z R R s {s with heap:=h',toks:=t} :=by
 have k:∀b o,b≠a→s.heap.get? b=some o→h'.get? b=some o:=fun b o hb e=>(hs.2 b hb).trans e
 have X:cj Z R R s {s with heap:=h',toks:=t} :=⟨by grind,by simp,by grind⟩
 refine⟨⟨S.U,fun i ao p e e'=>?_,S.W,S.bD,fun b o e=>k b o (by rintro rfl;rw [(hZ _ ha).1] at e;cases e) (S.N b o e),S.gens,S.os⟩,X⟩
 ·have z:=S.objs i ao p e e';have hp:=List.mem_of_getElem? e';refine z.P (fun _ _ t=>X.B S hZ t) (fun _ _ ha t=>X.jM S hZ ha t) (by simp) (fun o ho=>k _ _ ?_ ho) (by grind);rintro q;cases z with
  |f=>exact hR _ hp q
  |i=>exact hR _ hp q
  |kH=>exact hR _ hp q
  |J g _ _=>grind
theorem wq (F:ER s0 cx env vals R s.heap):(env.scope.kind==.class||(env.scope.kind==.module&&env.locals !=env.globals))=false:=by rw [F.aS];rfl
theorem zX.om {h:Heap}{a:Addr}{c:Option Value}(x:h.IsCell a c):∀o,h.get? a=some o→o.data=.cell c:=by obtain⟨o,g,d⟩:=x;grind
theorem Ns.om {h:Heap}{a:Addr}{m:Str→Option Value}(x:h.Ns a m):∃o es ep,h.get? a=some o∧o.data=.dict es ep:=let⟨o,es,ep,g,d,_⟩:=x;⟨o,es,ep,g,d⟩
theorem iL {c:Option Value}{a:Addr}(F:ER s0 cx env vals R s.heap)(h:s.heap.IsCell a c):a≠env.locals:=by rintro rfl;obtain⟨m,hn,_⟩:=F.ns;obtain⟨o,es,ep,g,d⟩:=Ns.om hn;rw [zX.om h o g] at d;cases d
theorem ig {x:Str}{i:Nat}{v:V}{c:Value}(hx:cx.nm.lookup x=some i)(F:ER s0 cx env vals R s.heap)(S:St w s0 R H s)(hv:VR (N0 s0) s.heap R v c):
 wpAny (model pw w) A (storeName env x c) (fun _ s'=>St w s0 R H s'∧ER s0 cx env (vals.set i (some v)) R s'.heap∧cj (Zx env x) R R s s') cX s:=by
 have uniq:∀ {y j},cx.nm.lookup y=some j→(j=i↔y=x):=fun{y j} hy=>⟨fun e=>F.inj y x i (e▸hy) hx,by grind⟩
 have ZO:=J3 F x
 rcases F.eN x i hx with l|⟨l,a,h1,c0,h2,h3⟩
 ·obtain⟨m,hn,hm⟩:=F.ns;refine wpAny_storeName_local l hn (fun h' hn' hs=>?_) (wq F);obtain⟨o,es,ep,g,d⟩:=Ns.om hn;obtain⟨S',X⟩:=St.Ml S ZO (.inl rfl) F.cF (by grind) hs (let⟨o,_,_,g,_⟩:=Ns.om hn';⟨o,g⟩);have kc:∀b q,s.heap.IsCell b q→h'.IsCell b q:=fun b q hb=>let⟨o,g,d⟩:=hb;⟨o,(hs.2 b (iL F hb)).trans g,d⟩;refine⟨S',⟨F.aS,F.dP,F.gl,F.bl,F.inj,fun y j e=>?_,⟨_,hn',fun y j u a b hu=>?_⟩,F.cF,F.lE,fun x1 a e=>let⟨q,c,hc⟩:=F.fQ x1 a e;⟨q,c,kc a c hc⟩,F.qP,F.sc⟩,X⟩
  ·rcases F.eN y j e with q|⟨q,a',k1,c1,k2,k3⟩
   ·exact .inl q
   ·refine .inr ⟨q,a',k1,c1,kc _ _ k2,fun u hu=>?_⟩;rcases jQ hu with⟨ej,_⟩|⟨_,hu⟩
    ·grind
    ·obtain⟨cv,e1,e2⟩:=k3 u hu;exact⟨cv,e1,e2.bq X S ZO⟩
  ·rcases jQ hu with⟨ej,rfl⟩|⟨ej,hu⟩
   ·have:=(uniq a).mp ej;subst this;exact⟨c,by simp,hv.bq X S ZO⟩
   ·have:y≠x:=fun q=>ej ((uniq a).mpr q);obtain⟨cv,e1,e2⟩:=hm y j u a b hu;exact⟨cv,by simp [this,e1],e2.bq X S ZO⟩
 ·refine wpAny_storeName_cell F.aS l h1 h2 fun h' hc' hs=>?_;obtain⟨S',X⟩:=St.Ml S ZO (.inr h1) (S.t9 h2) fun o' g'=>by rw [zX.om h2 o' g'];simp hs (let⟨o,g,_⟩:=hc';⟨o,g⟩)
  have kc:∀b q,b≠a→s.heap.IsCell b q→h'.IsCell b q:=fun b q hb ⟨o,g,d⟩=>⟨o,(hs.2 b hb).trans g,d⟩;obtain⟨m,hn,hm⟩:=F.ns;refine⟨S',⟨F.aS,F.dP,F.gl,F.bl,F.inj,fun y j e=>?_,⟨m,hn.at' fun o e=>(hs.2 _ (Ne.symm (iL F h2))).trans e,fun y j u a b hu=>?_⟩,F.cF,F.lE,fun x1 a1 e=>by obtain⟨q,c1,hc1⟩:=F.fQ x1 a1 e;grind,F.qP,F.sc⟩,X⟩
  ·rcases F.eN y j e with q|⟨q,a',k1,c1,k2,k3⟩
   ·exact .inl q
   ·by_cases ej:y=x
    ·subst ej;obtain rfl:a=a':=Option.some.inj (h1.symm.trans k1);refine .inr ⟨q,a,k1,_,hc',fun u hu=>?_⟩;have hj:=(uniq e).mpr rfl;rcases jQ hu with⟨_,rfl⟩|⟨ej,_⟩
     ·exact⟨c,rfl,hv.bq X S ZO⟩
     omega
    ·have hne':a'≠a:=fun q=>ej (F.qP y x a (q▸k1) h1);refine .inr ⟨q,a',k1,c1,kc _ _ hne' k2,fun u hu=>?_⟩;rcases jQ hu with⟨ej',_⟩|⟨_,hu⟩
     ·exact(ej ((uniq e).mp ej')).elim
     ·obtain⟨cv,e1,e2⟩:=k3 u hu;exact⟨cv,e1,e2.bq X S ZO⟩
  ·rcases jQ hu with⟨ej,rfl⟩|⟨ej,hu⟩
   ·have:=(uniq a).mp ej;subst this;rw [l] at b;cases b
   ·obtain⟨cv,e1,e2⟩:=hm y j u a b hu;exact⟨cv,e1,e2.bq X S ZO⟩
end
theorem cj.Mm {Z1 Z2:Addr→Prop}{R R' R'':aJ}{s s' s'':Shared}(x:cj Z1 R R' s s')(y:cj Z2 R' R'' s' s'')(hZ:∀b o,s.heap.get? b=some o→Z2 b→Z1 b):cj Z1 R R'' s s'':=by
 obtain⟨R1,rfl,h1⟩:=x.A0;obtain⟨R2,rfl,h2⟩:=y.A0;refine⟨fun b o e hb hz=>y.N b o (x.N b o e hb hz) (fun p hp=>by grind) (by grind),⟨R1++R2,by simp,fun p hp=>?_⟩,fun b o e=>let⟨o',e'⟩:=x.kL b o e;y.kL b o' e'⟩
 ·rcases List.mem_append.mp hp with hp|hp
  ·simp [*]
  ·cases e:s.heap.get? p.2 with
   |none=>rfl
   |some o=>obtain⟨o',e'⟩:=x.kL _ o e;grind
theorem eR:∀ {l:List Str},m8 l=true→l.Nodup
 |[],_=>.nil
 |a::r,h=>by simp [m8,List.contains_eq_mem] at h;exact List.nodup_cons.mpr ⟨h.1,eR h.2⟩
theorem cQ {l:List (Str×NameKind)}(h:(l.map (·.1)).Nodup){x:Str}{k:NameKind}(hm:(x,k)∈l):l.lookup x=some k:=by
 induction l with
 |nil=>cases hm
 |cons p r ih=>grind
theorem gX (g:Str→NameKind→NameKind)(x:Str):∀l:List (Str×NameKind),(l.map fun p=>(p.1,g p.1 p.2)).lookup x=(l.lookup x).map (g x)
 |[] =>rfl
 |(a,b)::r=>by
  simp [List.lookup_cons];cases h:x==a with
  |true=>grind
  |false=>exact gX g x r
theorem ik (scope:Scope)(env:Env)(x:Str):(relabel scope env).names.lookup x=(scope.names.lookup x).map fun k=>if(k==.free&&env.scope.kind==.function&&env.kindOf x==some .cell) then .cell else k:=by
 have e:(relabel scope env).names=scope.names.map fun p=>(p.1,(fun n k=>if k==NameKind.free&&env.scope.kind==.function&&env.kindOf n==some .cell then NameKind.cell else k) p.1 p.2):=by unfold relabel;grind
 rw [e];exact gX (fun n k=>if k==NameKind.free&&env.scope.kind==.function&&env.kindOf n==some _ then .cell else k) x _
theorem fT (q:Str→Bool)(x:Str):∀l:List (Str×Nat),(l.filter fun p=>q p.1).lookup x=if q x=true then l.lookup x else none
 |[] =>by simp
 |(a,b)::r=>by
  by_cases hq:q a=true
  ·simp [hq,List.lookup_cons];cases h:x==a with
   |true=>grind
   |false=>exact fT q x r
  ·simp [hq,if_false];rw [fT q x r];grind
theorem bT (k:Nat):∀(names:List (Str×NameKind)) (acc:List (Str×Addr)) (n:Nat),cellsFrom n names acc=cellsFrom n names [] ++acc
 |[],acc,n=>rfl
 |(x,kind)::r,acc,n=>by
  unfold cellsFrom;split
  ·rw [bT k r _,bT k r [(x,n)]];simp
  ·exact bT k r acc n
theorem fX:∀ {names:List (Str×NameKind)} {n:Nat} {x:Str} {a:Addr},(x,a)∈cellsFrom n names [] →(x,NameKind.cell)∈names∧n≤a
 |[],n,x,a,h=>by cases h
 |(y,kind)::r,n,x,a,h=>by
  unfold cellsFrom at h;split at h
  ·rw [bT 0] at h;rcases List.mem_append.mp h with h|h
   ·obtain⟨h1,h2⟩:=fX h;grind
   grind
  ·obtain⟨h1,h2⟩:=fX h;grind
theorem dX:∀ {names:List (Str×NameKind)} {n:Nat} {x:Str},(x,NameKind.cell)∈names→∃a,(x,a)∈cellsFrom n names []
 |(y,kind)::r,n,x,h=>by
  unfold cellsFrom;split
  ·rw [bT 0];rcases List.mem_cons.mp h with e|h
   ·grind
   ·obtain⟨a,ha⟩:=dX (n:=n+1) h;grind
  ·rcases List.mem_cons.mp h with e|h
   ·grind
   ·exact dX h
theorem tf {l r:List (Str×Addr)}{x:Str}{a:Addr}(h:(l++r).lookup x=some a):l.lookup x=some a∨((∀b,(x,b)∉l)∧r.lookup x=some a):=by
 induction l with
 |nil=>grind
 |cons p l ih=>grind
theorem kT {l r:List (Str×Addr)}{x:Str}(h:∀b,(x,b)∉l):(l++r).lookup x=r.lookup x:=by grind
theorem fS {l:List (Str×Addr)}{x:Str}{a:Addr}(h:(x,a)∈l):∃b,l.lookup x=some b:=by
 induction l with
 |nil=>cases h
 |cons p l ih=>
  obtain⟨y,b⟩:=p;rw [List.lookup_cons];cases e:x==y with
  |true=>simp
  |false=>grind
theorem nY {scope:Scope}{env:Env}(h:∀z,(z,NameKind.free)∈scope.names→∃a,env.cells.lookup z=some a):
 ∃cl,closureFor scope env=pure cl∧(∀z a,(z,a)∈cl→env.cells.lookup z=some a∧(z,NameKind.free)∈scope.names)∧(∀z,(z,NameKind.free)∈scope.names→∃a,(z,a)∈cl):=by
 have gen:∀(names:List _) (acc:List _),(∀z,(z,NameKind.free)∈names→∃a,env.cells.lookup z=some a)→∃cl,(forIn names acc fun x r=>if(x.2==.free)=true then do let a←cellOf env x.1;pure (ForInStep.yield ((x.1,a)::r)) else pure (ForInStep.yield r):Sem _)=pure (cl++acc)∧(∀z a,(z,a)∈cl→env.cells.lookup z=some a∧(z,NameKind.free)∈names)∧∀z,(z,NameKind.free)∈names→∃a,(z,a)∈cl:=by
  intro names;induction names with
  |nil=>intro acc _;exact⟨[],rfl,by simp,by simp⟩
  |cons p r ih=>
   intro acc h;obtain⟨y,k⟩:=p;rw [List.forIn_cons];by_cases hk:(k==NameKind.free)=true
   ·obtain rfl:=beq_iff_eq.mp hk;obtain⟨a,ha⟩:=h y (by simp);obtain⟨cl,e,h1,h2⟩:=ih _ fun z hz=>h z (List.mem_cons_of_mem _ hz);refine⟨cl++[(y,a)],?_,fun z b hb=>?_,fun z hz=>?_⟩
    ·have:cellOf env y=pure a:=by unfold cellOf;rw [ha]
     rw [this];show(forIn r _ _:Sem _)=_;rw [e];simp
    ·rcases List.mem_append.mp hb with hb|hb
     ·exact⟨(h1 z b hb).1,List.mem_cons_of_mem _ (h1 z b hb).2⟩
     ·simp at hb;obtain⟨rfl,rfl⟩:=hb;exact⟨ha,by simp⟩
    ·rcases List.mem_cons.mp hz with q|q
     ·cases q;simp
     ·obtain⟨b,hb⟩:=h2 z q;exact⟨b,List.mem_append_left _ hb⟩
   ·obtain⟨cl,e,h1,h2⟩:=ih acc fun z hz=>h z (List.mem_cons_of_mem _ hz);refine⟨cl,by grind,fun z b hb=>⟨(h1 z b hb).1,List.mem_cons_of_mem _ (h1 z b hb).2⟩,fun z hz=>?_⟩
    ·rcases List.mem_cons.mp hz with q|q
     ·cases q;trivial
     ·exact h2 z q
 obtain⟨cl,e,h1,h2⟩:=gen _ [] h
 refine⟨cl,?_,h1,h2⟩
 unfold closureFor
 grind
section
variable {A:Around}{cx:Cx}{env:Env}{vals:En}{R:aJ}{H:AH}{s:Shared}
def LB (scope:Scope)(cl:List (Str×Addr))(env:Env)(C:Addr):Env:=newEnv scope C env.globals (cellsFrom (C+1) scope.names cl) env.qual none .none (some env) builtinsNs
def n6 (scope:Scope)(cl:List (Str×Addr))(env:Env)(C:Addr):Env:= {LB scope cl env C with scope:=relabel scope env}
theorem zq {scope:Scope}{y:Str}{k:Nat}{cl:List (Str×Addr)}(F:ER s0 cx env vals R s.heap)(S:St w s0 R H s)(hkind:scope.kind=.function)(hok:bS cx scope=true)
 (hy:scope.names.lookup y=some .local∨scope.names.lookup y=some .cell) (hk:(cx.nm.any fun p=>p.2==k)=false)
 (hcl1:∀z a,(z,a)∈cl→env.cells.lookup z=some a∧(z,NameKind.free)∈scope.names) (hcl2:∀z,(z,NameKind.free)∈scope.names→∃a,(z,a)∈cl)
 {Q:Env→Shared→Prop} {E:Value→Shared→Prop}
 (q:∀s',St w s0 R H s'→cj hF R R s s'→ER s0 (cx.hW scope y k) (n6 scope cl env s.heap.objs.size) (vals.set k none) R s'.heap→(∀b,Zx (n6 scope cl env s.heap.objs.size) y b→s.heap.get? b=none)→Q (LB scope cl env s.heap.objs.size) s'):
 wpAny (model pw w) A (newFunctionEnv scope env.globals cl [] env.qual none .none (some env)) Q E s:=by
 simp only [bS,Bool.and_eq_true] at hok
 have hnd:=eR hok.1
 have hfree:∀z,(z,NameKind.free)∈scope.names→(∃i,cx.nm.lookup z=some i)∧env.kindOf z=some .cell:=by intro z hz;have:=List.all_eq_true.mp hok.2 _ hz;simp only [bne_self_eq_false,Bool.false_or,Bool.and_eq_true,Bool.or_eq_true,beq_iff_eq] at this;exact⟨Option.isSome_iff_exists.mp this.1,F.sc z this.2⟩
 refine wpAny_bind (wpAny_alloc (wpAny_bind (wpAny_layCells _ fun name kind cells=>by rfl _ _ _ _ ?_)))
 rw [show({s with heap:=s.heap.push _} :Shared).heap.objs.size=s.heap.objs.size+1 from Heap.size_push ..]
 have kp:∀b o,s.heap.get? b=some o→(pushCells (s.heap.push {cls:=.type "dict",data:=.dict #[] }) scope.names).get? b=some o:=fun b o e=>pushCells_keeps _ _ b o (Heap.get?_push_of_some _ e)
 have ok:=cellsFrom_ok scope.names (s.heap.push {cls:=.type "dict",data:=.dict #[] }) (s.heap.objs.size+1) [] ⟨by simp,by simp⟩ (by simp)
 rw [Heap.size_push] at ok
 have dead:∀a,s.heap.objs.size≤a→s.heap.get? a=none:=fun a ha=>by
  cases e:s.heap.get? a with
  |none=>rfl
  |some o=>exact absurd (Heap.lt_size e) (Nat.not_lt.mpr ha)
 have dead0:∀a,s.heap.get? a=none→s0.heap.get? a=none:=fun a ha=>by
  cases e:s0.heap.get? a with
  |none=>rfl
  |some o=>rw [S.N _ _ e] at ha;omega
 have own:∀x a,(x,a)∈cellsFrom _ _ [] →(x,NameKind.cell)∈scope.names∧s.heap.get? a=none∧(pushCells _ _).IsCell a _:=fun x a hm=>by obtain⟨h1,h2⟩:=fX hm;exact⟨h1,dead a (by omega),(ok.empty x a hm).1⟩
 have lk:∀x a,(cellsFrom _ _ cl).lookup x=some a→(x,a)∈cellsFrom (s.heap.objs.size+1) scope.names [] ∨(x,a)∈cl:=fun x a h=>by
  rw [bT 0] at h;rcases tf h with h|⟨_,h⟩
  ·exact .inl (mem_of_lookup h)
  ·exact .inr (mem_of_lookup h)
 have live:∀x a,env.cells.lookup x=some a→∃o,s.heap.get? a=some o:=fun x a h=>let⟨_,c,o,g,_⟩:=F.fQ x a h;⟨o,g⟩
 have kc:∀b q,s.heap.IsCell b q→(pushCells _ _).IsCell b q:=fun b q ⟨o,g,d⟩=>⟨o,kp b o g,d⟩
 have innm:∀x i,(cx.hW scope y k).nm.lookup x=some i→x=y∧i=k∨x≠y∧(x,NameKind.free)∈scope.names∧cx.nm.lookup x=some i:=by
  intro x i h;have h':((y,k)::cx.nm.filter _).lookup x=some i:=h;rw [List.lookup_cons] at h';cases e:x==y with
  |true=>rw [e] at h';exact .inl ⟨beq_iff_eq.mp e,Option.some.inj h'.symm⟩
  |false=>
   rw [e] at h';rw [fT fun z=>scope.names.lookup z==some _&&z !=y] at h';by_cases hq:(scope.names.lookup x==some NameKind.free&&x !=y)=true
   ·rw [if_pos hq] at h';simp at hq;exact .inr ⟨by simpa using e,PySem.mem_of_lookup hq.1,h'⟩
   ·rw [if_neg hq] at h';cases h'
 have nok:∀x i,cx.nm.lookup x=some i→i≠k:=fun x i h q=>by have:=List.any_eq_false.mp hk _ (cH h);simp [q] at this
 have memfree:∀ {x},scope.names.lookup x=some _→(x,NameKind.free)∈scope.names:=fun h=>PySem.mem_of_lookup h
 have kfree:∀x,(x,NameKind.free)∈scope.names→(n6 scope cl env s.heap.objs.size).kindOf x=some .cell:=by intro x hx;show(relabel _ env).names.lookup x=some _;rw [ik,cQ hnd hx];rw [(hfree x hx).2,F.aS];rfl
 have kother:∀x q,scope.names.lookup x=some q→q≠.free→(n6 scope cl env s.heap.objs.size).kindOf x=some q:=by intro x q hx hq;show(relabel _ env).names.lookup x=some q;rw [ik,hx,Option.map_some];have:=beq_eq_false_iff_ne.mpr hq;rw [this];rfl
 have lfree:∀x,(x,NameKind.free)∈scope.names→∀b,(x,b)∉cellsFrom (s.heap.objs.size+1) scope.names [] :=by intro x hx b hb;have h1:=cQ hnd (own x b hb).1;rw [cQ hnd hx] at h1;cases h1
 have hC:(pushCells _ scope.names).Ns _ _:=(Heap.Ns.new s.heap (.type "dict")).keeps (pushCells_keeps _ _)
 have X:cj hF R R s _:=.dJ (t:=s.toks) kp
 have S':=S.dJ (t:=s.toks) kp
 apply wpAny_bind
 refine wpAny_pure (wpAny_pure (q _ S' X ?_ ?_))
 ·refine⟨hkind,fun x hx=>by have hx':(((cx.hW _ y k).nm.lookup x).isNone&&scope.names.lookup x==some _)=true:=hx;grind,F.gl,F.bl,fun x1 x2 i h1 h2=>?_,fun x i h=>?_,⟨_,hC,fun x i v h1 h2 hv=>?_⟩,fun p hp e=>by have:=S.lt hp;have e':=e;rw [e'] at this;exact Nat.lt_irrefl _ this,dead0 _ (cn _),fun x a h=>?_,fun x1 x2 a h1 h2=>?_,fun x h=>?_⟩
  ·rcases innm x1 i h1 with⟨e1,e1'⟩|⟨_,_,h1'⟩<;>rcases innm x2 i h2 with⟨e2,e2'⟩|⟨_,_,h2'⟩
   ·rw [e1,e2]
   ·exact(nok _ _ h2' e1').elim
   ·exact(nok _ _ h1' e2').elim
   ·exact F.inj _ _ _ h1' h2'
  ·rcases innm x i h with⟨rfl,rfl⟩|⟨hne,hf,h⟩
   ·rcases hy with hy|hy
    ·exact .inl (kother x _ hy (by simp))
    ·obtain⟨a,ha⟩:=dX (PySem.mem_of_lookup hy);obtain⟨b,hb⟩:=fS (l:=cellsFrom _ _ cl) (by rw [bT 0];exact List.mem_append_left _ ha);refine .inr ⟨kother x _ hy (by simp),b,hb,none,?_,fun v hv=>by rw [List.getElem?_set] at hv;simp at hv⟩
     ·rcases lk x b hb with h'|h'
      ·exact(own x b h').2.2
      ·have:=cQ hnd (hcl1 x b h').2;rw [hy] at this;cases this
   ·obtain⟨a,ha⟩:=hcl2 x hf;have hca:=(hcl1 x a ha).1;have hlk:(cellsFrom (s.heap.objs.size+1) scope.names cl).lookup x=some a:=by rw [bT 0,kT (lfree x hf)];obtain⟨b,hb⟩:=fS ha;have:=(hcl1 x b (PySem.mem_of_lookup hb)).1;rw [hca] at this;rw [hb,this]
    rcases F.eN x i h with q|⟨_,a',e1,c,e2,e3⟩
    ·rw [(hfree x hf).2] at q;cases q
    ·obtain rfl:a=a':=Option.some.inj (hca.symm.trans e1);refine .inr ⟨kfree x hf,a,hlk,c,kc _ _ e2,fun v hv=>?_⟩;rw [List.getElem?_set_ne (Ne.symm (nok x i h))] at hv;obtain⟨cv,z1,z2⟩:=e3 v hv;exact⟨cv,z1,z2.bq X S (aU _ _)⟩
  ·rcases innm x i h1 with⟨rfl,rfl⟩|⟨hne,hf,h⟩
   ·rw [List.getElem?_set] at hv;simp at hv
   ·rw [kfree x hf] at h2;cases h2
  ·rcases lk x a h with h'|h'
   ·exact⟨dead0 _ (own x a h').2.1,_,(own x a h').2.2⟩
   ·obtain⟨h0,c,hc⟩:=F.fQ x a (hcl1 x a h').1;exact⟨h0,c,kc _ _ hc⟩
  ·rcases lk x1 a h1 with h1|h1<;>rcases lk x2 a h2 with h2|h2
   ·exact name_of_addr ok.apart h1 h2
   ·obtain⟨o,g⟩:=live x2 a (hcl1 x2 a h2).1;rw [(own x1 a h1).2.1] at g;cases g
   ·obtain⟨o,g⟩:=live x1 a (hcl1 x1 a h1).1;rw [(own x2 a h2).2.1] at g;cases g
   ·exact F.qP x1 x2 a (hcl1 x1 a h1).1 (hcl1 x2 a h2).1
  ·rcases h with h|h
   ·exact kother x _ h (by simp)
   ·exact kfree x (memfree h)
 ·rintro b (hb|hb)
  ·rw [hb];exact cn _
  ·rcases lk y b hb with h'|h'
   ·exact(own y b h').2.1
   ·have:=cQ hnd (hcl1 y b h').2;rcases hy with hy|hy<;>(rw [hy] at this;cases this)
end
section
variable {A:Around}{cx:Cx}{env:Env}{vals:En}{R:aJ}{H:AH}{s:Shared}
theorem iZ.bq {Z:Addr→Prop}{R':aJ}{s':Shared}{I:Addr}{l:List V}{src:Option (Nat×List V)}{i:Nat}(x:iZ (N0 s0) s.heap R I l src i)(X:cj Z R R' s s')(S:St w s0 R H s)(hZ:JE (N0 s0) Z s.heap)(hI:¬Z I):iZ (N0 s0) s'.heap R' I l src i:=by
 obtain⟨oI,g,it⟩:=x.at;have kI:=fun o e=>X.N I o e (fun p hp=>it.ne g S hp) hI;cases x with
 |B a t r=>exact .B (let⟨o,h,q⟩:=a;⟨o,kI o h,q⟩) (X.B S hZ t) (r.bq X S hZ)
 |Kn a=>exact .Kn (let⟨o,h,q⟩:=a;⟨o,kI o h,q⟩)
 |sH a=>exact .sH (let⟨o,h,q⟩:=a;⟨o,kI o h,q⟩)
 |f hk a=>exact .f (X.jG hk) (let⟨o,h,q⟩:=a;⟨o,kI o h,q⟩)
 |mI a=>exact .mI (kI _ a)
theorem IM {I:Addr}{l:List V}{src:Option (Nat×List V)}{i:Nat}{E:Value→Shared→Prop}{Q:Value→Shared→Prop}(x:iZ (N0 s0) s.heap R I l src i)(q:Q (.ref I) s):wpAny (model pw w) A (pyIter (.ref I)) Q E s:=by
 cases x with
 |B a _ _=>exact wpAny_pyIter_tupleiter a q
 |Kn a=>exact wpAny_pyIter_striter_ascii a q
 |sH a=>exact wpAny_pyIter_striter_wide a q
 |f _ a=>exact wpAny_pyIter_listiter a q
 |mI a=>exact wpAny_pyIter_rangeiter a q
theorem ER.xt {k:Nat}{v:V}{h:Heap}(F:ER s0 cx env (vals.set k (some v)) R h):ER s0 cx env (vals.set k none) R h:=by
 have key:∀ {j:Nat} {u:V},(vals.set k none)[j]?=some (some u)→(vals.set k (some v))[j]?=some (some u):=by grind
 refine⟨F.aS,F.dP,F.gl,F.bl,F.inj,fun y i e=>?_,by obtain⟨m,hn,hm⟩:=F.ns;exact⟨m,hn,fun y i v a b hv=>hm y i v a b (key hv)⟩,F.cF,F.lE,F.fQ,F.qP,F.sc⟩
 ·rcases F.eN y i e with q|⟨q,a,h1,c,h2,h3⟩
  ·exact .inl q
  grind
def tO (mc:MX)(cx:Cx)(ifs:List Expr):Bool:=match ifs with
 |[] =>(match mc with| .k (.D true)=>true|_=>false)
 |[f] =>ar mc cx f
 |_=>false
theorem K9 {mc:MX}(hmc:bz w s0 n mc){ifs:List Expr}{Q:Bool→AH→Prop}(hr:dT n A)(hc:tO mc cx ifs=true)(F:ER s0 cx env vals R s.heap)(S:St w s0 R H s)(q:(wX (lu w s0 n) mc).T vals H Q):
 wpAny (model pw w) A (forIn ifs true fun c r=>if r=true then do let ok←isTrue c env (eval c env);pure (ForInStep.yield ok) else pure (ForInStep.yield r)) (od w s0 R s Q) cX s:=by
 unfold tO at hc
 split at hc
 ·split at hc
  ·exact wpAny_pure ⟨R,H,q,.aD,S⟩
  trivial
 ·apply wpAny_bind;refine wpAny_bind (wpAny_mono (hmc.T hr hc F S q) (fun r s1 z=>?_) (by simp));apply wpAny_pure;exact wpAny_pure z
 trivial
theorem wR {scope:Scope}{y:Str}{k:Nat}{cl:List (Str×Addr)}(F:ER s0 cx env vals R s.heap)(S:St w s0 R H s)(hkind:scope.kind=.function)(hok:bS cx scope=true)
 (hy:scope.names.lookup y=some .local∨scope.names.lookup y=some .cell) (hk:(cx.nm.any fun p=>p.2==k)=false)
 (hcl1:∀z a,(z,a)∈cl→env.cells.lookup z=some a∧(z,NameKind.free)∈scope.names) (hcl2:∀z,(z,NameKind.free)∈scope.names→∃a,(z,a)∈cl)
 {Q:Env→Shared→Prop} {E:Value→Shared→Prop}
 (q:∀C s',St w s0 R H s'→cj hF R R s s'→ER s0 (cx.hW scope y k) (n6 scope cl env C) (vals.set k none) R s'.heap→(∀b,Zx (n6 scope cl env C) y b→s.heap.get? b=none)→s.heap.get? C=none→Q (LB scope cl env C) s'):
 wpAny (model pw w) A (newFunctionEnv scope env.globals cl [] env.qual none .none (some env)) Q E s:=
 zq F S hkind hok hy hk hcl1 hcl2 fun s' a b c d=>q _ s' a b c d (cn _)
theorem nX {me mc:MX}(hme:bz w s0 n me)(hmc:bz w s0 n mc){elt iter:Expr}{ifs:List Expr}{scope:Scope}{pos py:Pos}{y:Str}{k:Nat}{c:Value}{l:List V}{src:Option (Nat×List V)}{cl:List (Str×Addr)}
 {RR:Value→Addr→Result→Shared→Prop} {E:Value→Shared→Prop} {Q:AH→Prop}
 (hr:dT n A) (F:ER s0 cx env vals R s.heap) (S:St w s0 R H s) (hkind:scope.kind=.function) (hok:bS cx scope=true)
 (hy:scope.names.lookup y=some .local∨scope.names.lookup y=some .cell) (hk:(cx.nm.any fun p=>p.2==k)=false)
 (hcl1:∀z a,(z,a)∈cl→env.cells.lookup z=some a∧(z,NameKind.free)∈scope.names) (hcl2:∀z,(z,NameKind.free)∈scope.names→∃a,(z,a)∈cl)
 (h1:ar me (cx.hW scope y k) elt=true) (h2:tO mc (cx.hW scope y k) ifs=true)
 (hit:wpAny (model pw w) A (pyIter c) (vd w s0 R s l src) cX s)
 (q:gD (fun v H q=>(wX (lu w s0 n) mc).T (vals.set k (some v)) H fun r H=>if r=true then(wX (lu w s0 n) me).E (vals.set k (some v)) H fun y H=>q (some y) H else q none H) src H.length Q l (H++[.f []]))
 (hfin:∀D C R' H' s',cj hF R R' s s'→St w s0 R' H' s'→R'[H.length]?=some (D,D)→Q H'→(∃m,s'.heap.Ns C m)→(∀p∈R',p.2≠C)→s.heap.get? C=none→s0.heap.get? C=none→RR (.ref D) C (.ok .next) s'):
 wpAny (model pw w) A (pyIter c) (fun it s2=>wpAny (model pw w) A (newList []) (fun acc s3=>wpAny (model pw w) A (newFunctionEnv scope env.globals cl [] env.qual none .none (some env)) (fun cenv s4=>codeAny (model pw w) A (.compStart (.ListComp elt [⟨.Name y py,iter,ifs,0⟩] scope pos) 0 it acc {cenv with scope:=relabel scope env}) (RR acc cenv.locals) s4) E s3) E s2) E s:=by
 refine wpAny_mono hit (fun it s2 z=>?_) fun _ _ z=>z.elim
 obtain⟨oI,rfl,rfl,its⟩:=z
 have fr:=cn s.heap
 refine wpAny_newObj_type ?_ (by size_fits)
 have X2:cj hF R R s {s with heap:=s.heap.push oI} :=.Y _
 have S2:=S.Y oI
 obtain⟨R3,v3,H3,⟨rfl,rfl⟩,X3,S3,vr3⟩:=cG.f (Q:=fun v H'=>v=.y _∧H'=H++[.f []]) S2 .m (by simp) ⟨rfl,rfl⟩
 have its3:=its.bq X3 S2 (aU _ _) id
 have X13:=X2.trans X3
 have hD:R3[H.length]?=some ((s.heap.push oI).objs.size,(s.heap.push oI).objs.size):=by
  have e3:(H++[ag.f []])[H.length]?=some (.f []):=by simp
  obtain⟨p,_,_,e,hp,_⟩:=bp S3 vr3 e3;cases e;omega
 have fI0:s0.heap.get? s.heap.objs.size=none:=by
  cases e:s0.heap.get? _ with
  |none=>rfl
  |some o=>have:=S.N _ _ e;rw [fr] at this;cases this
 refine wR (F.bq (X2.trans X3) S) S3 hkind hok hy hk hcl1 hcl2 fun C s4 S4 X4 F4 hdead hCd=>?_
 have hCdead:s.heap.get? C=none:=by
  cases e:s.heap.get? C with
  |none=>rfl
  |some o=>obtain⟨o',e'⟩:=X13.kL _ _ e;rw [hCd] at e';cases e'
 have hZdead:∀b,Zx _ y b→s.heap.get? b=none:=fun b hb=>by
  cases e:s.heap.get? b with
  |none=>rfl
  |some o=>obtain⟨o',e'⟩:=X13.kL _ _ e;rw [hdead b hb] at e';cases e'
 have hIlive:∃o,({s with heap:=(s.heap.push oI).push _} :Shared).heap.get? _=some o:=⟨_,its3.at.choose_spec.1⟩
 have hIZ:¬Zx _ y _:=fun h=>by obtain⟨o,e⟩:=hIlive;rw [hdead _ h] at e;cases e
 have its4:=its3.bq X4 S3 (aU _ _) id
 have hC0:=F4.lE
 have loop:codeAny (model pw w) A (.compLoop (.ListComp elt [⟨.Name y py,iter,ifs,0⟩] scope pos) 0 (.ref s.heap.objs.size) (.ref (s.heap.push oI).objs.size) (n6 scope cl env C)) (RR (.ref (s.heap.push oI).objs.size) C) s4:=by
  refine codeAny_compLoop_tests (fun j s'=>∃i R' H',j=l.length-i∧i≤l.length∧cj hF R R' s s'∧St w s0 R' H' s'∧ER s0 _ _ _ R' s'.heap∧iZ _ s'.heap R' _ l src i∧R'[H.length]?=some _∧gD _ src _ Q (l.drop i) H') ?_ _
   ⟨0,R3,_,rfl,Nat.zero_le _,X13.trans X4,S4,F4,its4,hD,q⟩
  rintro j s' ⟨i,R',H',rfl,hi,X',S',F',its',hD',q⟩;have st:=by
   cases hd:l.drop i with
   |nil=>rw [hd] at q;exact q.1
   |cons=>rw [hd] at q;exact q.1
  obtain⟨oJ,hJ,isJ⟩:=its'.at;refine wpAny_mono (uJ hr.t S' st its') (fun r s5 z=>?_) fun _ _ z=>z.elim;obtain⟨h5,tk,rfl,but,z⟩:=z;have S5:=St.jl (t:=tk) hJ isJ fI0 but S';have X5:=cj.jl (t:=tk) X' fr but;have F5:=ER.jl hJ isJ but F';cases hl:l[i]? with
  |none=>
   rw [hl] at z;subst z;have hd:=by rw [List.getElem?_eq_none_iff] at hl;exact List.drop_eq_nil_of_le hl
   rw [hd] at q;exact hfin _ C R' H' _ X5 S5 hD' q.2 (let⟨m,hn,_⟩:=F5.ns;⟨m,hn⟩) F5.cF hCdead hC0
  |some v=>
   rw [hl] at z;obtain⟨cv,rfl,vv,its5⟩:=z;have hil:=(List.getElem?_eq_some_iff.mp hl).1;have hd:l.drop i=v::l.drop (i+1):=by rw [List.drop_eq_getElem_cons hil];rw [List.getElem?_eq_getElem hil] at hl;cases hl;rfl
   rw [hd] at q;have hx:(cx.hW scope y k).nm.lookup y=some k:=by show((y,k)::_).lookup y=some k;simp
   refine wpAny_assign_Name (wpAny_mono (ig hx F5 S5 vv) (fun _ s6 z=>?_) (by simp));obtain⟨S6,F6,X6⟩:=z;rw [List.set_set] at F6;refine wpAny_mono (K9 hmc hr h2 F6 S6 q.2) (fun ok s7 z=>?_) (by simp);obtain⟨R7,H7,q7,X7,S7⟩:=z;have X17:=(X5.Mm X6 fun b o e hz=>by rw [hZdead b hz] at e;cases e).trans X7;have F7:=F6.bq X7 S6;have its7:=(its5.bq X6 S5 (J3 F5 y) hIZ).bq X7 S6 (aU _ _) id;have hD7:=X7.jG (X6.jG hD');cases ok with
   |false=>exact⟨_,by omega,i+1,R7,H7,rfl,hil,X17,S7,F7.xt,its7,hD7,q7⟩
   |true=>refine wpAny_mono (hme.E hr h1 F7 S7 q7) (fun x s8 z=>?_) (by simp);obtain⟨R8,v8,H8,q8,X8,S8,vr8⟩:=z;have hD8:=X8.jG hD7;refine wpAny_mono (ml q8 S8 (.y hD8) vr8) (fun c9 s9 z=>?_) (by simp);obtain⟨R9,v9,H9,⟨_,q9⟩,X9,S9,_⟩:=z;have X89:=X8.trans X9;exact⟨_,by omega,i+1,R9,H9,rfl,hil,X17.trans X89,S9,(F7.bq X89 S7).xt,its7.bq X89 S7 (aU _ _) id,X9.jG hD8,q9⟩
 have fin:=
  codeAny_compStart_list loop (IM its4 loop)
 exact fin
end
theorem nZ {me:MX}{cx:Cx}{e:Expr}(hc:ar me cx e=true)(hb:me≠.ia)(env:Env)(x:Value):foldedSetIterable e env x=pure x:=by
 cases e<;>first|rfl|skip
 cases me<;>simp [ar] at hc hb
theorem tN {me:MX}{cx:Cx}{e:Expr}(hc:ar me cx e=true)(hb:me≠.ia):jr e=true:=by
 cases e<;>first|rfl|skip
 cases me<;>simp [ar] at hc hb
section
variable {A:Around}{cx:Cx}{env:Env}{vals:En}{R R':aJ}{H H':AH}{s s':Shared}{C:Addr}{h h':Heap}{mm:Str→Option Value}
theorem uW (m:h.Ns C mm)(hb:Heap.SameBut C h h'){a:Addr}{items:Array Value}(t:IsTup h a items):IsTup h' a items:=by obtain⟨o,es,ep,g,d⟩:=Ns.om m;obtain⟨o1,e1,c1,k1,r1⟩:=t;refine⟨o1,(hb.2 a ?_).trans e1,c1,k1,r1⟩;grind
theorem uX {N:Heap}(h2:N.get? C=none)(hb:Heap.SameBut C h h'){a:Addr}{items:Array Value}(t0:N.IsList a items)(t:h.IsList a items):h'.IsList a items:=by obtain⟨o1,e1,c1,r1⟩:=t;obtain⟨o0,e0,_⟩:=t0;refine⟨o1,(hb.2 a ?_).trans e1,c1,r1⟩;grind
theorem VR.qR {N:Heap}{v:V}{c:Value}(m:h.Ns C mm)(h2:N.get? C=Option.none)(hb:Heap.SameBut C h h')(x:VR N h R v c):VR N h' R v c:=
 x.P (fun _ _ t=>uW m hb t) (fun _ _ t0 t=>uX h2 hb t0 t) (by simp)
theorem St.qR {Z:Addr→Prop}(S:St w s0 R' H' s')(X:cj Z R R' s s')(m:s'.heap.Ns C mm)(hR:∀p∈R',p.2≠C)(h1:s.heap.get? C=none)(h2:s0.heap.get? C=none)(hb:Heap.SameBut C s'.heap h'):
 St w s0 R' H' {s' with heap:=h'} ∧cj Z R R' s {s' with heap:=h'} :=by
 have k:∀b o,b≠C→s'.heap.get? b=some o→h'.get? b=some o:=fun b o hb' e=>(hb.2 b hb').trans e
 refine⟨⟨S.U,fun i ao p e e'=>?_,S.W,S.bD,fun b o e=>k b o (by grind) (S.N b o e),S.gens,S.os⟩,⟨fun b o1 e hp hz=>k b o1 (by grind) (X.N b o1 e hp hz),X.A0,fun b o1 e=>by obtain⟨o2,e2⟩:=X.kL b o1 e;grind⟩⟩
 ·have z:=S.objs i ao p e e';have hp:=List.mem_of_getElem? e';refine z.P (fun _ _ t=>uW m hb t) (fun _ _ t0 t=>uX h2 hb t0 t) (by simp) (fun o ho=>k _ _ ?_ ho) (by grind);rintro q;cases z with
  |f=>exact hR _ hp q
  |i=>exact hR _ hp q
  |kH=>exact hR _ hp q
  |J g' _ _=>obtain⟨o,es,ep,g,d⟩:=Ns.om m;grind
theorem ER.qR (F:ER s0 cx env vals R h)(m:h.Ns C mm)(h2:s0.heap.get? C=none)(hC:∀a,FZ env a→a≠C)(hb:Heap.SameBut C h h'):ER s0 cx env vals R h':=by
 have kc:∀x a c,env.cells.lookup x=some a→h.IsCell a c→h'.IsCell a c:=fun x a c e t=>by obtain⟨o,e1,d1⟩:=t;exact⟨o,(hb.2 a (hC a (.inr ⟨x,e⟩))).trans e1,d1⟩
 refine⟨F.aS,F.dP,F.gl,F.bl,F.inj,fun y i e=>?_,by obtain⟨mm',⟨o,es,ep,g,r⟩,hm⟩:=F.ns;exact⟨mm',⟨o,es,ep,(hb.2 _ (hC _ (.inl rfl))).trans g,r⟩,fun y i v a b c=>let⟨cv,e1,e2⟩:=hm y i v a b c;⟨cv,e1,e2.qR m h2 hb⟩⟩,F.cF,F.lE,fun x a e=>let⟨q,c,hc⟩:=F.fQ x a e;⟨q,c,kc x a c e hc⟩,F.qP,F.sc⟩
 ·rcases F.eN y i e with q|⟨q,a,h1,c,h2',h3⟩
  ·simp_all
  ·exact .inr ⟨q,a,h1,c,kc y a c h1 h2',fun v hv=>let⟨cv,e1,e2⟩:=h3 v hv;⟨cv,e1,e2.qR m h2 hb⟩⟩
theorem ER.Mx (F:ER s0 cx env vals R s.heap)(h1:s.heap.get? C=none):∀a,FZ env a→a≠C:=by
 rintro a (rfl|⟨x,e⟩) rfl
 ·obtain⟨m,⟨o,es,ep,g,_⟩,_⟩:=F.ns;simp_all
 ·obtain⟨_,c,o,g,_⟩:=F.fQ x _ e;simp_all
theorem mT {scope:Scope}(F:ER s0 cx env vals R h)(hok:bS cx scope=true):∀z,(z,NameKind.free)∈scope.names→∃a,env.cells.lookup z=some a:=by
 simp only [bS,Bool.and_eq_true] at hok;intro z hz;have:=List.all_eq_true.mp hok.2 _ hz;simp only [bne_self_eq_false,Bool.false_or,Bool.and_eq_true,Bool.or_eq_true,beq_iff_eq] at this;obtain⟨i,hi⟩:=Option.isSome_iff_exists.mp this.1;have kc:=F.sc z this.2;rcases F.eN z i hi with q|⟨_,a,h,_⟩
 ·simp_all
 ·exact⟨a,h⟩
end
theorem lI {cx:Cx}{scope:Scope}(hok:bS cx scope=true):∀x∈scope.names,x.2=.local→scope.names.lookup x.1=some .local:=by simp [bS] at hok;rintro⟨x,k⟩ hx rfl;exact cQ (eR hok.1) hx
abbrev vj (w:World)(s0:Shared)(A:Around)(R:aJ)(s:Shared)(use:Option (Value→Sem Unit))(Q:V→AH→Prop)(QQ:Value→Shared→Prop):Prop:=
 ∀D C R' v H' s',cj hF R R' s s'→St w s0 R' H' s'→VR (N0 s0) s'.heap R' v (.ref D)→Q v H'→(∃m,s'.heap.Ns C m)→(∀p∈R',p.2≠C)→s.heap.get? C=none→s0.heap.get? C=none→compPost (model pw w) A cX use QQ (.ref D) C (.ok .next) s'
theorem za {A:Around}{R:aJ}{s:Shared}{Q:V→AH→Prop} :vj w s0 A R s none Q (cG w s0 R s Q):=by intro D C R' v H' s' X S' hv hq hm hR h1 h2;obtain⟨m,hm⟩:=hm;refine⟨m,hm,fun h' hb=>?_⟩;obtain⟨S2,X2⟩:=S'.qR X hm hR h1 h2 hb;exact⟨R',v,H',hq,X2,S2,hv.qR hm h2 hb⟩
structure qG (w:World) (s0:Shared) (n:Nat) (me:MX):Prop where
 C:∀ {A:Around} {cx:Cx} {env:Env} {vals:En} {R:aJ} {H:AH} {s:Shared} {x:Expr} {gens:List Comprehension} {scope:Scope} {pos:Pos} {Q:V→AH→Prop} {use:Option (Value→Sem Unit)} {QQ:Value→Shared→Prop},dT n A→ar me cx (.ListComp x gens scope pos)=true→ER s0 cx env vals R s.heap→St w s0 R H s→(wX (lu w s0 n) me).E vals H Q→vj w s0 A R s use Q QQ→wpAny (model pw w) A (comprehension (.ListComp x gens scope pos) scope env (firstIterPos gens pos) (newList []) (firstAsync gens) (firstIter gens env) use) QQ cX s
theorem zt {a it g:MX}{k:Nat}(ha:bz w s0 n a)(hi:bz w s0 n it)(hg:bz w s0 n g):qG w s0 n (.g7 a k it g):=by
 refine⟨fun{A cx env vals R H s x gens scope pos Q use QQ} hr hc F S q fin=>?_⟩;unfold ar at hc;split at hc
 ·rename_i heq;cases heq;simp only [Bool.and_eq_true,Bool.or_eq_true,beq_iff_eq,Bool.not_eq_true'] at hc;obtain⟨⟨⟨⟨⟨⟨⟨c1,c2⟩,c3⟩,c4⟩,c5⟩,c6⟩,c7⟩,c8⟩:=hc;obtain⟨cl,hcl,hcl1,hcl2⟩:=nY (mT F c4);by_cases hbad:it=.ia
  ·subst hbad;exact q.elim
  refine wpAny_comprehension_free (hcl:=rfl) (nZ c1 hbad env) hcl c3 (lI c4) (wpAny_mono (hi.E hr c1 F S q) (fun c s1 z=>?_) (by simp));obtain⟨R1,v,H1,q1,X1,S1,vr⟩:=z;split at q1
  ·rename_i l src hv;apply nX ha hg hr (F.bq X1 S) S1 c3 c4 c2 c6 hcl1 hcl2 c7 (by trivial) (yP hv S1 vr) q1;intro D C R' H' s' X S' hD hq hm hR h1 h2;refine fin D C R' _ H' s' (X1.trans X) S' (.y hD) hq hm hR ?_ h2;cases e:s.heap.get? C with
   |none=>rfl
   |some o=>obtain⟨o',e'⟩:=X1.kL _ _ e;simp_all
  trivial
 ·cases hc
theorem mR {me:MX}{f:En→AH→(V→AH→Prop)→Prop}(hw:wX (lu w s0 n) me=.dI f)(hc:qG w s0 n me)
 (hl:∀ {cx:Cx} {e:Expr},ar me cx e=true→∃x gens scope pos,e=.ListComp x gens scope pos):bz w s0 n me:=by
 exact .dI hw (fun{A cx env vals R H s e Q} hr h F S q=>by obtain⟨x,gens,scope,pos,rfl⟩:=hl h;exact hc.C hr h F S (by rw [hw];exact q) za) fun{cx env e whole} h=>by obtain⟨x,gens,scope,pos,rfl⟩:=hl h;rfl
theorem Lw {a it g:MX}{k:Nat}{cx:Cx}{e:Expr}(hc:ar (.g7 a k it g) cx e=true):∃x gens scope pos,e=.ListComp x gens scope pos:=by unfold ar at hc;grind
theorem Jn {a it g:MX}{k:Nat}{cx:Cx}{e:Expr}(hc:ar (.hX a k it g) cx e=true):∃x gens scope pos,e=.ListComp x gens scope pos:=by unfold ar at hc;grind
theorem xX {a it g:MX}{k:Nat}(ha:bz w s0 n a)(hi:bz w s0 n it)(hg:bz w s0 n g):bz w s0 n (.g7 a k it g):=mR rfl (zt ha hi hg) Lw
theorem pS (n:Int):Builtin.Range.rangeSize 0 n 1=((n.toNat:Nat):Int):=by rw [rangeSize_one];omega
theorem xE (n:Int):ft n=ft ((n.toNat:Nat):Int):=by rfl
section
variable {A:Around}{R:aJ}{H:AH}{s:Shared}
theorem rG {k:Int}{r:Addr}{t u v:Tok}(h:IsRange s.heap r 0 k 1 t u v)(h1: -(2^60)≤k)(h2:k<2^60):
 wpAny (model pw w) A (pyIter (.ref r)) (vd w s0 R s (ft k) none) cX s:=by
 refine wpAny_pyIter_range h (small_one (by simp) (by simp) (by omega) (by omega)) ⟨_,rfl,rfl,?_⟩
 rw [xE]
 refine .mI ?_
 unfold IsRangeIter
 rw [Heap.get?_push_size _ rfl,pS]
 simp
theorem yc {k:Int}{t:Tok}{Q:Value→Shared→Prop}(S:St w s0 R H s)
 (q:∀r s',St w s0 R H s'→cj hF R R s s'→(∃t u v,IsRange s'.heap r 0 k 1 t u v)→Q (.ref r) s'):wpAny (model pw w) A (call (.type "range") [.int k t]) Q cX s:=by
 exact call_range_1 (q _ _ ((S.Y _).toks _) ((cj.Y _).trans (.toks _)) ⟨_,_,_,.new ..⟩)
end
theorem mX (B:bP w s0){it:MX}(hi:bz w s0 n it){A:Around}{cx:Cx}{env:Env}{vals:En}{R:aJ}{H:AH}{s:Shared}{Q:V→AH→Prop}{rn:Str}{rp pos1:Pos}{i:Expr}{QQ:Value→Shared→Prop}
 (hr:dT n A) (c0:cx.dP rn=true) (c00:rn=m "range") (c1:ar it cx i=true) (F:ER s0 cx env vals R s.heap) (S:St w s0 R H s) (q:(wX (lu w s0 n) it).E vals H Q)
 (k:∀R' v H' s',Q v H'→cj hF R R' s s'→St w s0 R' H' s'→match v with
  | .j m=>∀r s'',cj hF R R' s s''→St w s0 R' H' s''→(∃t u v,IsRange s''.heap r 0 m 1 t u v)→QQ (.ref r) s''
  |_=>False):
 wpAny (model pw w) A (eval (.Call (.Name rn rp) [i] [] pos1) env) QQ cX s:=by
 by_cases hbad:it=.ia
 ·subst hbad;trivial
 have hbl:(rn,Value.type "range")∈fm:=by rw [c00];decide
 refine wpAny_Call_NameR (uZ B F S c0 hbl ?_)
 have e1:starEach [i] env=[(false,eval i env)] :=by rw [gM (tN c1 hbad)];rfl
 rw [e1]
 refine PySem.callWith_type rfl (eU rfl (spliced_cons (wpAny_mono (hi.E hr c1 F S q) (fun c s1 z=>?_) (by simp))))
 obtain⟨R1,v,H1,q1,X1,S1,vr⟩:=z
 apply spliced_nil
 have z:=k R1 v H1 s1 q1 X1 S1
 split at z
 ·cases vr;exact yc S1 fun r s2 S2 X2 hrg=>z r s2 (X1.trans X2) S2 hrg
 trivial
theorem uT (B:bP w s0){a it g:MX}{k:Nat}(ha:bz w s0 n a)(hi:bz w s0 n it)(hg:bz w s0 n g):qG w s0 n (.hX a k it g):=by
 refine⟨fun{A cx env vals R H s x gens scope pos Q use QQ} hr hc F S q fin=>?_⟩;unfold ar at hc;split at hc
 ·rename_i heq;cases heq;simp only [Bool.and_eq_true,Bool.or_eq_true,beq_iff_eq,Bool.not_eq_true'] at hc;obtain⟨⟨⟨⟨⟨⟨⟨⟨⟨c0,c00⟩,c1⟩,c2⟩,c3⟩,c4⟩,c5⟩,c6⟩,c7⟩,c8⟩:=hc;obtain⟨cl,hcl,hcl1,hcl2⟩:=nY (mT F c4);apply wpAny_comprehension_free (hcl:=rfl) (fun _=>rfl) hcl c3 (lI c4);refine mX B hi hr c0 c00 c1 F S q fun R1 v H1 s1 q1 X1 S1=>?_;split at q1
  ·obtain⟨hm1,hm2,q1⟩:=q1;intro r s2 X12 S2 hrg;obtain⟨t,u,v,hrg⟩:=hrg;apply nX ha hg hr (F.bq X12 S) S2 c3 c4 c2 c6 hcl1 hcl2 c7 (by trivial) (rG hrg hm1 hm2) q1;intro D C R' H' s' X S' hD hq hm hR h1 h2;refine fin D C R' _ H' s' (X12.trans X) S' (.y hD) hq hm hR ?_ h2;cases e:s.heap.get? C with
   |none=>rfl
   |some o=>obtain⟨o',e'⟩:=X12.kL _ _ e;simp_all
  trivial
 trivial
theorem vO (B:bP w s0){a it g:MX}{k:Nat}(ha:bz w s0 n a)(hi:bz w s0 n it)(hg:bz w s0 n g):bz w s0 n (.hX a k it g):=mR rfl (uT B ha hi hg) Jn
theorem vP {a b c:MX}(ha:bz w s0 n a)(hb:bz w s0 n b)(hc':bz w s0 n c):bz w s0 n (.oD a b c):=by
 refine bz.t4 rfl (fun{A cx env vals R H s e Q} hr hc F S q=>?_) (fun{A cx env vals R H s e Q} hr hc F S q=>q.elim);unfold ar at hc;split at hc
 ·simp at hc;obtain⟨⟨h1,h2⟩,h3⟩:=hc;split at q
  ·rename_i xs zs;refine Compare_chain (wpAny_mono (ha.E hr h1 F S (Q:=fun v H'=>v=.F xs∧H'=H) ⟨rfl,rfl⟩) (fun cx1 s1 z1=>?_) (by simp)) ?_
   ·obtain⟨R1,v,H1,⟨rfl,rfl⟩,X1,S1,vr1⟩:=z1;refine chain_link (wpAny_mono (hb.E hr h2 (F.bq X1 S) S1 q) (fun cy s2 z2=>?_) (by simp));obtain⟨R2,v,H2,q2,X2,S2,vr2⟩:=z2;split at q2
    ·rename_i ys;cases vr1;cases vr2;apply P.le_str;apply wpAny_truthy_bool;have e1:(!decide _)=Mh xs ys:=rfl;rw [e1];cases hle:Mh xs ys with
     |true=>refine chain_last (wpAny_mono (hc'.E hr h3 ((F.bq X1 S).bq X2 S1) S2 (Q:=fun v H'=>v=.F zs∧H'=H2) ⟨rfl,rfl⟩) (fun cx1 s3 z3=>?_) (by simp));obtain⟨R3,v,H3,⟨rfl,rfl⟩,X3,S3,vr3⟩:=z3;cases vr3;apply P.le_str;refine(cG.mq S3 (.D _) ?_).cB (X1.trans (X2.trans X3));rw [hle] at q2;exact q2
     |false=>refine(cG.mq S2 (.D _) ?_).cB (X1.trans X2);grind
    trivial
   ·rcases lA h3 .LtE with h|h
    ·exact h
    trivial
  trivial
 trivial
theorem HK (B:bP w s0)(me:MX):bz w s0 n me∧∀a,me=.cons a .m→bz w s0 n a:=by
 induction me with
 |cons a b ha hb=>exact⟨xW ha.1 hb.1,by grind⟩
 |pO o l hl=>exact⟨Ib B hl.1 hl.2,by simp⟩
 |k v=>exact⟨HZ B v,by simp⟩
 |h i=>exact⟨HV i,by simp⟩
 |m=>exact⟨HR,by simp⟩
 |B l hl=>exact⟨HL hl.1,by simp⟩
 |dm l hl=>exact⟨HU hl.1,by simp⟩
 |gJ=>exact⟨xV,by simp⟩
 |hY o a b ha hb=>exact⟨Ic ha.1 hb.1,by simp⟩
 |gH a ha=>exact⟨HQ ha.1,by simp⟩
 |Ka a ha=>exact⟨HT ha.1,by simp⟩
 |bH o a b ha hb=>exact⟨Ia B ha.1 hb.1,by simp⟩
 |oD a b c ha hb hc=>exact⟨vP ha.1 hb.1 hc.1,by simp⟩
 |dy l hl=>exact⟨x6 hl.1,by simp⟩
 |pK l hl=>exact⟨HP hl.1,by simp⟩
 |bA t a b ht ha hb=>exact⟨HW ht.1 ha.1 hb.1,by simp⟩
 |bB e k he=>exact⟨xZ B he.1,by simp⟩
 |z e i he hi=>exact⟨HM B he.1 hi.1,by simp⟩
 |oi e lo hi he hl hh=>exact⟨HN he.1 hl.1 hh.1,by simp⟩
 |w f l hl=>exact⟨xY B hl.1,by simp⟩
 |oj c l hl=>exact⟨HS B hl.1,by simp⟩
 |bJ e k l he hl=>exact⟨xU B he.1 hl.1,by simp⟩
 |oo e x he hx=>exact⟨Ie he.1 hx.1,by simp⟩
 |bq e x he hx=>exact⟨uv rfl,by simp⟩
 |xa e l he hl=>exact⟨HO B he.1 hl.1,by simp⟩
 |jG e l he hl=>exact⟨HX B he.1 hl.1,by simp⟩
 |Kl a b ha hb=>exact⟨HY B ha.1 hb.1,by simp⟩
 |g7 e k it c he hi hc=>exact⟨xX he.1 hi.1 hc.1,by simp⟩
 |hX e k it c he hi hc=>exact⟨vO B he.1 hi.1 hc.1,by simp⟩
 |ia=>exact⟨uv rfl,by simp⟩
theorem bf (B:bP w s0)(me:MX):bz w s0 n me:=(HK B me).1
theorem tL (B:bP w s0){me:MX}(h:me.mJ=true):qG w s0 n me:=by
 cases me<;>cases h
 ·exact zt (bf B _) (bf B _) (bf B _)
 ·exact uT B (bf B _) (bf B _) (bf B _)
inductive N4 (N h:Heap) (R:aJ):Fl→Flow→Prop
 |a:N4 N h R .a .next
 |gZ:N4 N h R .gZ .cont
 |bL {v:V} {c:Value} :VR N h R v c→N4 N h R (.bL v) (.ret c)
def mw (w:World)(s0:Shared)(cx:Cx)(env:Env)(R:aJ)(s:Shared)(Q:Fl→En→AH→Prop):Flow→Shared→Prop:=
 fun f s'=>∃R' fl vals' H',Q fl vals' H'∧N4 (N0 s0) s'.heap R' fl f∧cj (FZ env) R R' s s'∧St w s0 R' H' s'∧ER s0 cx env vals' R' s'.heap
def cJ (w:World)(s0:Shared)(n:Nat)(ms:MS):Prop:=
 ∀ {A:Around} {cx:Cx} {env:Env} {vals:En} {R:aJ} {H:AH} {s:Shared} {ss:List Stmt} {Q:Fl→En→AH→Prop},dT n A→cI ms cx ss=true→ER s0 cx env vals R s.heap→St w s0 R H s→wS (lu w s0 n) ms vals H Q→wpAny (model pw w) A (execs ss env) (mw w s0 cx env R s Q) cX s
section
variable {A:Around}{cx:Cx}{env:Env}{vals:En}{R R1 R':aJ}{H H':AH}{s s1 s':Shared}{Q:Fl→En→AH→Prop}
theorem mw.cB {f:Flow}(x:cj (FZ env) R R1 s s1)(z:mw w s0 cx env R1 s1 Q f s'):mw w s0 cx env R s Q f s':=
 let⟨R',fl,v,H',q,fr,e,S,F⟩:=z;⟨R',fl,v,H',q,fr,x.trans e,S,F⟩
theorem cj.fz (x:cj hF R R' s s'):cj (FZ env) R R' s s':=x.xd Iw
theorem cj.zf {y:Str}(x:cj (Zx env y) R R' s s'):cj (FZ env) R R' s s':=x.xd zR
theorem dR {k:MS}{st:Stmt}{r:List Stmt}(hr:dT n A)(hk:cJ w s0 n k)(hc:cI k cx r=true)
 (h:wpAny (model pw w) A (exec st env) (mw w s0 cx env R s fun fl v H=>match fl with| .a=>wS (lu w s0 n) k v H Q|fl=>Q fl v H) cX s):
 wpAny (model pw w) A (execs (st::r) env) (mw w s0 cx env R s Q) cX s:=by
 refine wpAny_execs_cons (wpAny_mono h (fun f s1 z=>?_) (by simp))
 obtain⟨R1,fl,v,H1,q,fr,X,S,F⟩:=z
 cases fr with
 |a=>exact wpAny_mono (hk hr hc F S q) (fun _ _ z=>z.cB X) (by simp)
 |gZ=>exact⟨R1,_,v,H1,q,.gZ,X,S,F⟩
 |bL x=>exact⟨R1,_,v,H1,q,.bL x,X,S,F⟩
theorem mw.nx (q:Q .a vals H)(X:cj (FZ env) R1 R s1 s)(S:St w s0 R H s)(F:ER s0 cx env vals R s.heap):mw w s0 cx env R1 s1 Q .next s:=⟨R,_,_,H,q,.a,X,S,F⟩
theorem St.Kb {h':Heap}(S:St w s0 R H s)(k:∀b o,s.heap.get? b=some o→h'.get? b=some o):St w s0 R H {s with heap:=h'} ∧cj hF R R s {s with heap:=h'} :=by have X:cj hF R R s {s with heap:=h'} :=⟨by simp_all,by simp,by grind⟩;exact⟨⟨S.U,fun i ao p e e'=>(S.objs i ao p e e').P (fun _ _ t=>X.B S (aU _ _) t) (fun _ _ ha t=>X.jM S (aU _ _) ha t) (by simp) (by simp_all) (by simp_all),S.W,S.bD,fun b o e=>k b o (S.N b o e),S.gens,S.os⟩,X⟩
theorem sR {v:Expr}{y:Str}{py:Pos}{l:Nat}{me:MX}(hc:ar me cx v=true)(hb:me≠.ia)(env:Env):
 swapsWith v (some (.Name y py)) l env=pure false∨(swapsWith v (some (.Name y py)) l env=pure true∧∃x gens scope pos,v=.ListComp x gens scope pos):=by
 cases v<;>first|exact .inl rfl|skip
 ·rename_i x gens scope pos;have:∃b:Bool,swapsWith (.ListComp x gens scope pos) (some (.Name y py)) l env=pure b:=⟨_,rfl⟩;simp_all
 all_goals exact absurd hc (by cases me<;>simp [ar] at hb ⊢)
theorem o6 {me:MX}{x:Expr}{gens:List Comprehension}{scope:Scope}{pos:Pos}(hc:ar me cx (.ListComp x gens scope pos)=true)(hb:me≠.ia):me.mJ=true:=by cases me<;>first|rfl|(simp [ar] at hc hb)
theorem KN {y:Str}{x:Nat}{c:Value}{v:V}(hx:cx.nm.lookup y=some x)(F:ER s0 cx env vals R s.heap)(S:St w s0 R H s)(X:cj (FZ env) R1 R s1 s)(vr:VR (N0 s0) s.heap R v c)(q:Q .a (vals.set x (some v)) H):
 wpAny (model pw w) A (storeName env y c) (fun _ s'=>mw w s0 cx env R1 s1 Q .next s') cX s:=by
 refine wpAny_mono (ig hx F S vr) (fun _ s2 z=>?_) (by simp)
 obtain⟨S2,F2,X2⟩:=z
 exact .nx q (X.trans X2.zf) S2 F2
end
theorem LI (B:bP w s0){x:Nat}{e:MX}{k:MS}(hk:cJ w s0 n k):cJ w s0 n (.H x e k):=by
 intro A cx env vals R H s ss Q hr hc F S q;by_cases hbad:e=.ia
 ·subst hbad;trivial
 unfold cI at hc;split at hc
 ·simp at hc;obtain⟨⟨h1,h2⟩,h3⟩:=hc;have hx:=by simpa [gO] using h1
  apply dR hr hk h3;rcases sR h2 hbad env with hs|⟨hs,x',gens,scope,pos',rfl⟩
  ·refine wpAny_Assign_Name (wpAny_mono ((bf B e).E hr h2 F S q) (fun c s1 z=>?_) (by simp)) hs;obtain⟨R1,u,H1,q1,X1,S1,vr⟩:=z;exact KN hx (F.bq X1 S) S1 X1.fz vr q1
  ·rw [exec_Assign_Name_used _ _ _ _ hs];refine wpAny_bind (wpAny_standAt ?_);apply wpAny_bind;refine wpAny_bind ((tL B (o6 h2 hbad)).C hr h2 F S q ?_);intro D C R' v H' s' X S' hv hq hm hR hd1 hd2;obtain⟨m,hm⟩:=hm;refine wpAny_assign_Name (wpAny_mono (ig hx (F.bq X S) S' hv) (fun _ s2 z=>?_) (by simp));obtain⟨S2,F2,X2⟩:=z;have hne:=F.Mx hd1;have hm2:s2.heap.Ns C m:=by obtain⟨o,es,ep,g,r⟩:=hm;exact⟨o,es,ep,X2.N C o g hR fun hz=>hne C (zR C hz) rfl,r⟩
   refine⟨m,hm2,fun h' hb=>?_⟩;obtain⟨S3,X3⟩:=S2.qR (X.fz.trans X2.zf) hm2 hR hd1 hd2 hb;exact wpAny_pure (wpAny_pure (.nx hq X3 S3 (F2.qR hm2 hd2 hne hb)))
 trivial
theorem ie {v:Expr}{t:Expr}{l:Nat}{env:Env}(h:∀x p,t≠.Name x p):swapsWith v (some t) l env=pure false:=by
 cases t with
 |Name x p=>simp_all
 |_=>cases v<;>rfl
theorem yS {cx:Cx}{env:Env}{vals:En}{R:aJ}{h:Heap}(F:ER s0 cx env vals R h):interactive env=false:=by unfold interactive;rw [F.aS];rfl
section
variable {A:Around}{cx:Cx}{env:Env}{vals:En}{R R1 R':aJ}{H H':AH}{s s1 s':Shared}{Q:Fl→En→AH→Prop}
theorem mZ {q:AH→Prop}(F:ER s0 cx env vals R s.heap)(S:St w s0 R H s)(X:cj hF R1 R s1 s){m:Sem Unit}(h:wpAny (model pw w) A m (fun _ s'=>cG w s0 R s (fun v H=>v=.aE∧q H) .none s') cX s)
 (hq:∀H,q H→Q .a vals H):wpAny (model pw w) A m (fun _ s'=>mw w s0 cx env R1 s1 Q .next s') cX s:=by
 refine wpAny_mono h (fun _ s' z=>?_) (by simp)
 obtain⟨R2,v,H2,⟨_,q2⟩,X2,S2,_⟩:=z
 exact .nx (hq _ q2) (X.fz.trans X2.fz) S2 (F.bq X2 S)
end
theorem JC (B:bP w s0){a:Nat}{o e:MX}{k:MS}(hk:cJ w s0 n k):cJ w s0 n (.iV o a e k):=by
 intro A cx env vals R H s ss Q hr hc F S q;unfold cI at hc;split at hc
 ·simp at hc;obtain⟨⟨⟨h1,h2⟩,h3⟩,h4⟩:=hc;subst h1;apply dR hr hk h4;refine plainObj_wpAny_Assign_Attribute (wpAny_mono ((bf B e).E hr h3 F S q) (fun c s1 z=>?_) (by simp)) (ie (by simp));obtain⟨R1,u,H1,q1,X1,S1,vr⟩:=z;have F1:=F.bq X1 S;refine wpAny_mono ((bf B o).E hr h2 F1 S1 q1) (fun d s2 z=>?_) (by simp);obtain⟨R2,x,H2,q2,X2,S2,vx⟩:=z;exact mZ (F1.bq X2 S1) S2 (X1.trans X2) (uy B q2 S2 vx (vr.bq X2 S1 (aU _ _))) (by simp)
 trivial
theorem JB (B:bP w s0){o i e:MX}{k:MS}(hk:cJ w s0 n k):cJ w s0 n (.g9 o i e k):=by
 intro A cx env vals R H s ss Q hr hc F S q;unfold cI at hc;split at hc
 ·simp at hc;obtain⟨⟨⟨⟨h1,h2⟩,h3⟩,h4⟩,h5⟩:=hc;apply dR hr hk h5;refine wpAny_Assign_Subscript (wpAny_mono ((bf B e).E hr h4 F S q) (fun c s1 z=>?_) (by simp)) (ie (by simp));obtain⟨R1,u,H1,q1,X1,S1,vr⟩:=z;have F1:=F.bq X1 S;refine wpAny_mono ((bf B o).E hr h2 F1 S1 q1) (fun d s2 z=>?_) (by simp);obtain⟨R2,x,H2,q2,X2,S2,vx⟩:=z;have F2:=F1.bq X2 S1;refine wpAny_mono ((bf B i).E hr h3 F2 S2 q2) (fun d s2 z=>?_) (by simp);obtain⟨R3,x3,H3,q3,X3,S3,vi⟩:=z;exact mZ (F2.bq X3 S2) S3 (X1.trans (X2.trans X3)) (Ij q3 S3 (vx.bq X3 S2 (aU _ _)) vi (vr.bq (X2.trans X3) S1 (aU _ _)) (by have:=hr.u;rw [mh];omega)) (by simp)
 trivial
theorem LG {A:Around}{s:Shared}{op:tX}{p:Operator}{i j c:Int}{t u:Tok}{Q:Value→Shared→Prop}(hp:sj op p=true)(e:zK op i j=some c)(q:∀t k,Q (.int c t) {s with toks:=k}):
 wpAny (model pw w) A (inplaceOp p (.int i t) (.int j u)) Q cX s:=by
 cases op<;>cases e
 ·cases p<;>cases hp;exact P.iadd_int (q _ _)
 ·cases p<;>cases hp;exact P.isub_int (q _ _)
theorem Jx (B:bP w s0){o e:MX}{a:Nat}{op:tX}{k:MS}(hk:cJ w s0 n k):cJ w s0 n (.qT o a op e k):=by
 intro A cx env vals R H s ss Q hr hc F S q;unfold cI at hc;split at hc
 ·simp at hc;obtain⟨⟨⟨⟨h1,h2⟩,h3⟩,h4⟩,h5⟩:=hc;subst h1;apply dR hr hk h5;refine wpAny_AugAssign_AttributeAny (wpAny_mono ((bf B o).E hr h3 F S q) (fun c s1 z=>?_) (by simp));obtain⟨R1,u,H1,q1,X1,S1,vo⟩:=z;refine uN B q1 S1 vo fun y c t q2 vy=>?_;have S2:=S1.toks t;have X2:cj hF R1 R1 s1 _:=.toks t;have F2:=(F.bq X1 S).bq X2 S1;refine wpAny_mono ((bf B e).E hr h4 F2 S2 q2) (fun d s3 z=>?_) (by simp);obtain⟨R3,x3,H3,q3,X3,S3,ve⟩:=z;have vy':=(vy.bq X2 S1 (aU _ _)).bq X3 S2 (aU _ _);split at q3
  ·split at q3
   ·rename_i cc hcc;cases vy';cases ve;refine LG h2 hcc fun t' k'=>?_;have X4:cj hF R3 R3 s3 _:=.toks k';exact mZ ((F2.bq X3 S2).bq X4 S3) (S3.toks k') (X1.trans (X2.trans (X3.trans X4))) (uy B q3 (S3.toks k') (vo.bq (X2.trans (X3.trans X4)) S1 (aU _ _)) (.j _ _)) (by simp)
   trivial
  trivial
 trivial
theorem Lp (B:bP w s0){e:MX}{k:MS}(hk:cJ w s0 n k):cJ w s0 n (.jn e k):=by
 intro A cx env vals R H s ss Q hr hc F S q;obtain⟨q0,q⟩:=q;by_cases hbad:e=.ia
 ·subst hbad;trivial
 unfold cI at hc;split at hc
 ·rename_i v pos r;simp at hc;obtain⟨h1,h2⟩:=hc;apply dR hr hk h2;refine wpAny_Expr_any (wpAny_mono ((bf B e).E hr h1 F S q) (fun c s1 z=>by obtain⟨R1,u,H1,q1,X1,S1,vo⟩:=z;exact .nx q1 X1.fz S1 (F.bq X1 S)) (by simp)) (yS F) ?_
  ·cases v<;>first|rfl|skip
   ·have:=o6 h1 hbad;grind
   all_goals exact absurd h1 (by cases e<;>simp [ar] at hbad ⊢)
 trivial
theorem La (B:bP w s0){t:MX}{a b k:MS}(ha:cJ w s0 n a)(hb:cJ w s0 n b)(hk:cJ w s0 n k):cJ w s0 n (.bA t a b k):=by
 intro A cx env vals R H s ss Q hr hc F S q;unfold cI at hc;split at hc
 ·simp at hc;obtain⟨⟨⟨h1,h2⟩,h3⟩,h4⟩:=hc;apply dR hr hk h4;refine wpAny_If (wpAny_mono ((bf B t).T hr h1 F S q) (fun c s1 z=>?_) (by simp));obtain⟨R1,H1,q1,X1,S1⟩:=z;have F1:=F.bq X1 S;cases c with
  |true=>exact wpAny_mono (ha hr h2 F1 S1 q1) (fun _ _ z=>z.cB X1.fz) (by simp)
  |false=>exact wpAny_mono (hb hr h3 F1 S1 q1) (fun _ _ z=>z.cB X1.fz) (by simp)
 trivial
theorem KI (B:bP w s0){e:MX} :cJ w s0 n (.bL e):=by
 intro A cx env vals R H s ss Q hr hc F S q;unfold cI at hc;split at hc
 ·refine wpAny_execs_cons (wpAny_Return_some (wpAny_mono ((bf B e).E hr hc F S q) (fun c s1 z=>?_) (by simp)));obtain⟨R1,u,H1,q1,X1,S1,vo⟩:=z;exact⟨R1,_,_,H1,q1,.bL vo,X1.fz,S1,F.bq X1 S⟩
 trivial
theorem Jl:cJ w s0 n .gZ:=by
 intro A cx env vals R H s ss Q hr hc F S q;unfold cI at hc;split at hc
 ·exact wpAny_execs_cons (wpAny_Continue ⟨R,_,_,H,q,.gZ,.aD,S,F⟩)
 trivial
theorem Jf:cJ w s0 n .V:=by
 intro A cx env vals R H s ss Q hr hc F S q;unfold cI at hc;have:ss=[] :=by grind
 subst this;exact wpAny_execs_nil (.nx q .aD S F)
theorem Iq {k:MS}(hk:cJ w s0 n k):cJ w s0 n (.xi k):=by
 intro A cx env vals R H s ss Q hr hc F S q;unfold cI at hc;split at hc
 ·apply dR hr hk hc;exact wpAny_Pass (.nx q .aD S F)
 trivial
theorem LD:cJ w s0 n .ia:=by intro A cx env vals R H s ss Q hr hc F S q;trivial
theorem Lv (B:bP w s0){o i:MX}{k:MS}(hk:cJ w s0 n k):cJ w s0 n (.qO o i k):=by
 intro A cx env vals R H s ss Q hr hc F S q;unfold cI at hc;split at hc
 ·simp at hc;obtain⟨⟨⟨h1,h2⟩,h3⟩,h4⟩:=hc;apply dR hr hk h4;refine wpAny_Delete (wpAny_deleteEach_cons (wpAny_delete_Subscript (wpAny_mono ((bf B o).E hr h2 F S q) (fun d s1 z=>?_) (by simp))));obtain⟨R2,x,H2,q2,X2,S2,vx⟩:=z;have F2:=F.bq X2 S;refine wpAny_mono ((bf B i).E hr h3 F2 S2 q2) (fun d s2 z=>?_) (by simp);obtain⟨R3,x3,H3,q3,X3,S3,vi⟩:=z;exact wpAny_mono (mZ (Q:=fun fl v H=>match fl with| .a=>wS (lu w s0 n) k v H Q|fl=>Q fl v H) (F2.bq X3 S2) S3 (X2.trans X3) (Ji q3 S3 (vx.bq X3 S2 (aU _ _)) vi (by have:=hr.u;rw [mh];omega)) (by simp)) (fun _ s4 z=>wpAny_deleteEach_nil z) (by simp)
 trivial
theorem Lu (B:bP w s0){o lo:MX}{k:MS}(hk:cJ w s0 n k):cJ w s0 n (.vz o lo k):=by
 intro A cx env vals R H s ss Q hr hc F S q;unfold cI at hc;split at hc
 ·simp at hc;obtain⟨⟨h2,h3⟩,h4⟩:=hc;apply dR hr hk h4;refine wpAny_Delete (wpAny_deleteEach_cons (wpAny_delete_Subscript (wpAny_mono ((bf B o).E hr h2 F S q) (fun d s1 z=>?_) (by simp))));obtain⟨R2,x,H2,q2,X2,S2,vx⟩:=z;have F2:=F.bq X2 S;apply wpAny_Slice;refine wpAny_mono ((bf B lo).E hr h3 F2 S2 q2) (fun d s2 z=>?_) (by simp);obtain⟨R3,x3,H3,q3,X3,S3,vi⟩:=z;refine wpAny_pure (wpAny_pure ?_);have X4:cj hF R3 R3 s2 {s2 with heap:=s2.heap.push {cls:=.type "slice",data:=.fields #[d,.none,.none] } } :=.Y _;exact wpAny_mono (mZ (Q:=fun fl v H=>match fl with| .a=>wS (lu w s0 n) k v H Q|fl=>Q fl v H) ((F2.bq X3 S2).bq X4 S3) (S3.Y _) (X2.trans (X3.trans X4)) (Jh q3 (S3.Y _) (vx.bq (X3.trans X4) S2 (aU _ _)) (vi.bq X4 S3 (aU _ _)) ⟨_,Heap.get?_push_size _ rfl,rfl,rfl⟩) (by simp)) (fun _ s4 z=>wpAny_deleteEach_nil z) (by simp)
 trivial
section
variable {A:Around}{cx:Cx}{env:Env}{vals:En}{R R1 R':aJ}{H H':AH}{s s1 s':Shared}{Q:Fl→En→AH→Prop}
theorem o7 {b:MS}(hb:cJ w s0 n b){y:Str}{x:Nat}{py:Pos}{body:List Stmt}{c:Value}{l:List V}{src:Option (Nat×List V)}{E:Value→Shared→Prop}
 (hr:dT n A) (hx:cx.nm.lookup y=some x) (hc:cI b cx body=true) (F:ER s0 cx env vals R s.heap) (S:St w s0 R H s) (hit:wpAny (model pw w) A (pyIter c) (vd w s0 R s l src) cX s)
 (q:iy (fun v env H q=>wS (lu w s0 n) b (env.set x (some v)) H q) src Q l vals H):
 wpAny (model pw w) A (pyIter c) (fun it s2=>codeAny (model pw w) A (.forLoop (.Name y py) it body [] env) (fun r s'=>match r with| .ok f=>mw w s0 cx env R s Q f s'| .error e=>cameBackBy (model pw w) A env E e s') s2) E s:=by
 refine wpAny_mono hit (fun it s2 z=>?_) (by simp)
 obtain⟨oI,rfl,rfl,its⟩:=z
 have fr:=cn s.heap
 have hI:=fun h=>F.Mx fr _ h rfl
 have fI0:s0.heap.get? s.heap.objs.size=none:=by
  cases e:s0.heap.get? _ with
  |none=>rfl
  |some o=>have:=S.N _ _ e;grind
 have X2:cj hF R R s {s with heap:=s.heap.push oI} :=.Y _
 refine codeAny_forLoop (fun j s'=>∃i R' v' H',j=l.length-i∧i≤l.length∧cj (FZ env) R R' s s'∧St w s0 R' H' s'∧ER s0 cx env v' R' s'.heap∧iZ _ s'.heap R' _ l src i∧iy _ src Q (l.drop i) v' H') ?_ _
  ⟨0,R,_,H,rfl,by simp,X2.fz,S.Y _,F.bq X2 S,its,q⟩
 rintro j s' ⟨i,R',v',H',rfl,hi,X',S',F',its',q⟩
 have st:=by
  cases hd:l.drop i with
  |nil=>rw [hd] at q;exact q.1
  |cons=>rw [hd] at q;exact q.1
 obtain⟨oJ,hJ,isJ⟩:=its'.at
 refine wpAny_mono (uJ hr.t S' st its') (fun r s5 z=>?_) (by simp)
 obtain⟨h5,tk,rfl,but,z⟩:=z
 have S5:=St.jl (t:=tk) hJ isJ fI0 but S'
 have X5:=cj.jl (t:=tk) X' fr but
 have F5:=ER.jl hJ isJ but F'
 cases hl:l[i]? with
 |none=>
  rw [hl] at z
  subst z
  have hd:l.drop i=[] :=by grind
  rw [hd] at q
  exact wpAny_execs_nil (.nx q.2 X5 S5 F5)
 |some v=>
  rw [hl] at z
  obtain⟨cv,rfl,vv,its5⟩:=z
  have hil:=(List.getElem?_eq_some_iff.mp hl).1
  have hd:l.drop i=v::l.drop (i+1):=by rw [List.drop_eq_getElem_cons hil];rw [List.getElem?_eq_getElem hil] at hl;cases hl;rfl
  rw [hd] at q
  refine wpAny_assign_Name (wpAny_mono (ig hx F5 S5 vv) (fun _ s6 z=>?_) (by simp))
  obtain⟨S6,F6,X6⟩:=z
  refine wpAny_mono (hb hr hc F6 S6 q.2) (fun f s7 z=>?_) (by simp)
  obtain⟨R7,fl,v7,H7,q7,fr7,X7,S7,F7⟩:=z
  have X17:=(X5.trans X6.zf).trans X7
  have its7:=(its5.bq X6.zf S5 (vh F5) hI).bq X7 S6 (vh F6) hI
  cases fr7 with
  |a=>exact⟨_,by omega,_,R7,v7,H7,rfl,hil,X17,S7,F7,its7,q7⟩
  |gZ=>grind
  |bL vr=>exact⟨R7,_,v7,H7,q7,.bL vr,X17,S7,F7⟩
theorem qW (B:bP w s0){t:MX}{b:MS}(hb:cJ w s0 n b){test:Expr}{body:List Stmt}{E:Value→Shared→Prop}{k:Nat}
 (hr:dT n A) (ht:ar t cx test=true) (hc:cI b cx body=true) (F:ER s0 cx env vals R s.heap) (S:St w s0 R H s)
 (q:fR (fun env H out q=>(wX (lu w s0 n) t).T env H fun r H=>if r=true then wS (lu w s0 n) b env H q else out false env H) Q k vals H):
 codeAny (model pw w) A (.whileLoop test body [] env) (fun r s'=>match r with| .ok f=>mw w s0 cx env R s Q f s'| .error e=>cameBackBy (model pw w) A env E e s') s:=by
 refine codeAny_whileLoop (fun j s'=>∃R' v' H',cj (FZ env) R R' s s'∧St w s0 R' H' s'∧ER s0 cx env v' R' s'.heap∧fR _ Q j v' H') ?_ k ⟨R,_,H,.aD,S,F,q⟩
 rintro j s' ⟨R',v',H',X',S',F',q⟩
 cases j with
 |zero=>trivial
 |succ j=>
  refine wpAny_mono ((bf B t).T hr ht F' S' q) (fun r s1 z=>?_) (by simp)
  obtain⟨R1,H1,q1,X1,S1⟩:=z
  have F1:=F'.bq X1 S'
  cases r with
  |false=>exact wpAny_execs_nil (.nx q1 (X'.trans X1.fz) S1 F1)
  |true=>
   refine wpAny_mono (hb hr hc F1 S1 q1) (fun f s7 z=>?_) (by simp)
   obtain⟨R7,fl,v7,H7,q7,fr7,X7,S7,F7⟩:=z
   have X17:=(X'.trans X1.fz).trans X7
   cases fr7 with
   |a=>grind
   |gZ=>grind
   |bL vr=>exact⟨R7,_,v7,H7,q7,.bL vr,X17,S7,F7⟩
end
theorem Lj (B:bP w s0){x:Nat}{e:MX}{b k:MS}(hb:cJ w s0 n b)(hk:cJ w s0 n k):cJ w s0 n (.fq x e b k):=by
 intro A cx env vals R H s ss Q hr hc F S q;by_cases hbad:e=.ia
 ·subst hbad;trivial
 unfold cI at hc;split at hc
 ·rename_i y py i d pos r;simp at hc;obtain⟨⟨⟨h1,h2⟩,h3⟩,h4⟩:=hc;have hx:=by simpa [gO] using h1
  apply dR hr hk h4;refine wpAny_For (wpAny_mono ((bf B e).E hr h2 F S q) (fun c s1 z=>?_) (by simp)) (nZ h2 hbad env);obtain⟨R1,v,H1,q1,X1,S1,vr⟩:=z;split at q1
  ·rename_i l src hv;refine wpAny_mono (o7 (py:=py) hb hr hx h3 (F.bq X1 S) S1 (yP hv S1 vr) q1) (fun it s2 z=>codeAny_mono z fun r s' z=>?_) fun _ _ z=>z;cases r with
   |ok f=>exact z.cB X1.fz
   |error e=>omega
  trivial
 trivial
theorem I4 (B:bP w s0){x:Nat}{e:MX}{b k:MS}(hb:cJ w s0 n b)(hk:cJ w s0 n k):cJ w s0 n (.jN x e b k):=by
 intro A cx env vals R H s ss Q hr hc F S q;unfold cI at hc;split at hc
 ·rename_i y py z' pz i pc d pos r;simp at hc;obtain⟨⟨⟨⟨⟨h0,h00⟩,h1⟩,h2⟩,h3⟩,h4⟩:=hc;have hx:=by simpa [gO] using h1
  apply dR hr hk h4;refine wpAny_For (mX B (bf B e) hr h0 h00 h2 F S q fun R1 v H1 s1 q1 X1 S1=>?_) fun _=>rfl;split at q1
  ·obtain⟨hm1,hm2,q1⟩:=q1;intro r s2 X2 S2 hrg;obtain⟨t,u,v,hrg⟩:=hrg;refine wpAny_mono (o7 (py:=py) hb hr hx h3 (F.bq X2 S) S2 (rG hrg hm1 hm2) q1) (fun it s3 z=>codeAny_mono z fun r s' z=>?_) fun _ _ z=>z;cases r with
   |ok f=>exact z.cB X2.fz
   |error e=>omega
  trivial
 trivial
theorem xB (B:bP w s0){t:MX}{b k:MS}(hb:cJ w s0 n b)(hk:cJ w s0 n k):cJ w s0 n (.fN t b k):=by
 intro A cx env vals R H s ss Q hr hc F S q;unfold cI at hc;split at hc
 ·simp at hc;obtain⟨⟨h2,h3⟩,h4⟩:=hc;apply dR hr hk h4;obtain⟨m,q⟩:=q;exact wpAny_While (qW B hb hr h2 h3 F S q)
 trivial
theorem pG:∀ {xs:List Nat} {l:List V} {env:En} (x:Nat) (v:V),xs.length=l.length→fo (xs++[x]) (l++[v]) env=(fo xs l env).map fun e=>e.set x (some v)
 |[],[],env,x,v,_=>rfl
 |a::xs,b::l,env,x,v,h=>pG (l:=l) x v (by simp_all)
 |[],_::_,_,_,_,h=>by trivial
 |_::_,[],_,_,_,h=>by trivial
theorem pH:∀ {xs:List Nat} {l:List V} {env:En} (x:Nat) (v:Option V),x∉xs→fo xs l (env.set x v)=(fo xs l env).map fun e=>e.set x v
 |[],[],env,x,v,_=>rfl
 |a::xs,b::l,env,x,v,h=>by simp at h;show fo xs l _=_;rw [List.set_comm _ _ h.1];exact pH x v h.2
 |[],_::_,_,_,_,h=>rfl
 |_::_,[],_,_,_,h=>rfl
theorem oc:∀ {xs:List Nat} {l:List V} {env e:En},fo xs l env=some e→xs.length=l.length
 |[],[],_,_,_=>rfl
 |_::xs,_::l,_,_,h=>by simp [oc (l:=l) h]
theorem rz {a:Nat}{r:List Nat}(h:kQ (a::r)=true):a∉r∧kQ r=true:=by simpa [kQ] using h
theorem sy:∀ {xs:List Nat} {l:List V} {env:En},kQ xs=true→xs.length=l.length→fo xs.reverse l.reverse env=fo xs l env
 |[],[],_,_,_=>rfl
 |a::xs,b::l,env,h,hl=>by
  obtain⟨h1,h2⟩:=rz h;have hl':xs.length=l.length:=by simp_all
  rw [List.reverse_cons,List.reverse_cons,pG _ _ (by simp_all),sy h2 hl',←pH _ _ h1];rfl
 |[],_::_,_,_,h=>by trivial
 |_::_,[],_,_,h=>by trivial
inductive iX (w:World) (cx:Cx) (env:Env):List Nat→List (Value→Sem Unit)→Prop
 |m:iX w cx env [] []
 |cons {x:Str} {i:Nat} {f:Value→Sem Unit} {xs:List Nat} {fs:List (Value→Sem Unit)} :cx.nm.lookup x=some i→(∀ {A:Around} {v:Value} {Q:Unit→Shared→Prop} {E:Value→Shared→Prop} {s:Shared},wpAny (model pw w) A (storeName env x v) Q E s→wpAny (model pw w) A (f v) Q E s)→iX w cx env xs fs→iX w cx env (i::xs) (f::fs)
section
variable {A:Around}{cx:Cx}{env:Env}
theorem iX.dp {xs ys:List Nat}{fs gs:List (Value→Sem Unit)}(h:iX w cx env xs fs)(h':iX w cx env ys gs):iX w cx env (xs++ys) (fs++gs):=by
 induction h with
 |m=>exact h'
 |cons a b _ ih=>exact .cons a b ih
theorem iX.pJ {xs:List Nat}{fs:List (Value→Sem Unit)}(h:iX w cx env xs fs):iX w cx env xs.reverse fs.reverse:=by
 induction h with
 |m=>exact .m
 |cons a b _ ih=>rw [List.reverse_cons,List.reverse_cons];exact ih.dp (.cons a b .m)
theorem iX.U {xs:List Nat}{fs:List (Value→Sem Unit)}(h:iX w cx env xs fs):xs.length=fs.length:=by
 induction h with
 |m=>rfl
 |cons a b _ ih=>simp [ih]
theorem b8.pJ {N h:Heap}{R:aJ}{l:List V}{cs:List Value}(x:b8 N h R l cs):b8 N h R l.reverse cs.reverse:=by
 induction l generalizing cs with
 |nil=>cases x;exact .m
 |cons v l ih=>
  cases x with
  |cons a b=>rw [List.reverse_cons,List.reverse_cons];exact(ih b).dp (.cons a .m)
theorem oK {xs:List Nat}{fs:List (Value→Sem Unit)}(st:iX w cx env xs fs):∀ {l:List V} {cs:List Value} {vals vals':En} {R:aJ} {H:AH} {s:Shared},b8 (N0 s0) s.heap R l cs→ER s0 cx env vals R s.heap→St w s0 R H s→fo xs l vals=some vals'→wpAny (model pw w) A (assignInOrder fs cs) (fun _ s'=>St w s0 R H s'∧ER s0 cx env vals' R s'.heap∧cj (FZ env) R R s s') cX s:=by
 induction st with
 |m=>
  intro l cs vals vals' R H s hv F S e;cases l with
  |nil=>cases e;exact wpAny_pure ⟨S,F,.aD⟩
  |cons=>cases e
 |cons hx hf _ ih=>
  intro l cs vals vals' R H s hv F S e;cases l with
  |nil=>cases e
  |cons v l=>
   cases hv with
   |cons a b=>refine wpAny_bind (wpAny_holding (hf (wpAny_mono (ig hx F S a) (fun _ s2 z=>?_) (by simp))));obtain⟨S2,F2,X2⟩:=z;refine wpAny_mono (ih (b.bq X2.zf S (vh F)) F2 S2 e) (fun _ s3 z=>?_) (by simp);obtain⟨S3,F3,X3⟩:=z;exact⟨S3,F3,X2.zf.trans X3⟩
theorem pv:∀ {xs:List Nat} {es:List Expr},fc cx xs es=true→iX w cx env xs ((assignEach es env).map (·.2))∧(assignEach es env).findIdx? (·.1)=none
 |[],[],_=>⟨.m,rfl⟩
 |i::xs,.Name x p::es,h=>by unfold fc at h;simp at h;obtain⟨a,b⟩:=pv h.2;refine⟨.cons (by simpa [gO] using h.1) (fun h=>wpAny_assign_Name h) a,?_⟩;show List.findIdx? (·.1) ((false,assign _ env)::assignEach es env)=none;grind
 |[],_::_,h=>by cases h
 |_::_,[],h=>by cases h
theorem m9 {f:Expr→Option Str}(hf:∀x p,f (.Name x p)=none∨f (.Name x p)=some x):∀ {xs:List Nat} {es:List Expr},fc cx xs es=true→(es.filterMap f).length=es.length→iX w cx env xs ((es.filterMap f).map fun n=>bindName env n)
 |[],[],_,_=>.m
 |i::xs,.Name x p::es,h,hl=>by
  unfold fc at h;simp at h;rcases hf x p with e|e
  ·grind
  ·rw [List.filterMap_cons_some e] at hl ⊢;exact .cons (by simpa [gO] using h.1) (fun h=>wpAny_bindName h) (m9 hf h.2 (by simp_all))
 |[],_::_,h,_=>by cases h
 |_::_,[],h,_=>by cases h
theorem sS {xs:List Nat}{es:List Expr}{k:Nat}{tp:Pos}{v:Expr}(h:fc cx xs es=true)(hv:sY v=true):
 swappedStores [.Tuple es k tp] v env=pure none∨∃names,swappedStores [.Tuple es k tp] v env=pure (some names)∧iX w cx env xs (names.map fun n=>bindName env n):=by
 cases v<;>first|exact .inl rfl|skip
 unfold swappedStores
 simp only
 split
 ·simp
 ·split
  ·simp
  ·split
   ·simp
   ·split
    ·simp
    ·split
     ·unfold sY at hv;grind
     ·refine .inr ⟨_,rfl,m9 (fun x p=>?_) h ?_⟩
      ·simp only;split
       ·simp
       simp
      grind
end
theorem JA (B:bP w s0){xs:List Nat}{e:MX}{k:MS}(hk:cJ w s0 n k):cJ w s0 n (.g8 xs e k):=by
 intro A cx env vals R H s ss Q hr hc F S q;unfold cI at hc;split at hc
 ·rename_i es k2 tp v pos r;simp at hc;obtain⟨⟨⟨⟨h0,h1⟩,h2⟩,h3⟩,h4⟩:=hc;apply dR hr hk h4;have hsw:swapsWithSole [.Tuple es k2 tp] v pos.line env=pure _:=ie (t:=.Tuple es k2 tp) (l:=pos.line) (env:=env) (by simp);rcases sS (w:=w) h2 h1 with hw|⟨names,hw,hst⟩
  ·refine Assign_Tuple (wpAny_mono ((bf B e).E hr h3 F S q) (fun c s1 z=>?_) (by simp)) hsw hw;obtain⟨R1,u,H1,q1,X1,S1,vr⟩:=z;split at q1
   ·split at q1
    ·rename_i vals' he;cases vr with
     |B t vrs=>
      obtain⟨st,hfi⟩:=pv (w:=w) (env:=env) h2;have hn:(assignEach es env).length=xs.length:=by have:=st.U;grind
      refine assign_Tuple_tuple hr.t t (by rw [hn,oc he,vrs.length,Array.length_toList]) hfi fun h' hx=>?_;obtain⟨S2,X2⟩:=S1.Kb fun b o e=>hx b o (fun q=>by rw [q,cn] at e;cases e) e;refine wpAny_mono (oK st (vrs.bq X2 S1 (aU _ _)) ((F.bq X1 S).bq X2 S1) S2 he) (fun _ s3 z=>?_) (by simp);obtain⟨S3,F3,X3⟩:=z;exact .nx q1 ((X1.trans X2).fz.trans X3) S3 F3
    trivial
   trivial
  ·refine Assign_Tuple_swapped (wpAny_mono ((bf B e).E hr h3 F S q) (fun c s1 z=>?_) (by simp)) hsw hw;obtain⟨R1,u,H1,q1,X1,S1,vr⟩:=z;split at q1
   ·split at q1
    ·rename_i vals' he;cases vr with
     |B t vrs=>
      rename_i a items;have hl:=oc he;have hn:names.length=items.size:=by have:=hst.U;rw [List.length_map] at this;rw [←this,hl,vrs.length,Array.length_toList]
      rw [hn];refine unpackItems_tuple hr.t t fun h' hx=>?_;obtain⟨S2,X2⟩:=S1.Kb fun b o e=>hx b o (fun q=>by rw [q,cn] at e;cases e) e;rw [List.map_reverse];refine wpAny_mono (oK hst.pJ (vrs.bq X2 S1 (aU _ _)).pJ ((F.bq X1 S).bq X2 S1) S2 ((sy h0 hl).trans he)) (fun _ s3 z=>?_) (by simp);obtain⟨S3,F3,X3⟩:=z;exact .nx q1 ((X1.trans X2).fz.trans X3) S3 F3
    trivial
   trivial
 trivial
theorem KC (B:bP w s0)(ms:MS):cJ w s0 n ms:=by
 induction ms with
 |V=>exact Jf
 |H x e k hk=>exact LI B hk
 |g8 xs e k hk=>exact JA B hk
 |iV o a e k hk=>exact JC B hk
 |g9 o i e k hk=>exact JB B hk
 |qT o a op e k hk=>exact Jx B hk
 |jn e k hk=>exact Lp B hk
 |bA t a b k ha hb hk=>exact La B ha hb hk
 |fq x e b k hb hk=>exact Lj B hb hk
 |jN x e b k hb hk=>exact I4 B hb hk
 |fN t b k hb hk=>exact xB B hb hk
 |bL e=>exact KI B
 |gZ=>exact Jl
 |xi k hk=>exact Iq hk
 |vz o lo k hk=>exact Lu B hk
 |qO o i k hk=>exact Lv B hk
 |ia=>exact LD
end
section
open PySem PySem.W PySem.Calls PyProof.Rows
set_option maxRecDepth 1000000
set_option maxHeartbeats 0
structure FT where
 s:Stmt
 q:Option String
 d:Value
 pm:Value
 cd:Addr
def FT.fd (t:FT):FuncData:=fn t.s t.q 3 t.d t.pm (.ref t.cd)
def Ah a b c d:=(⟨a,b,.none,c,d⟩:FT)
def As a b c:=Ah a none b c
def Au a b c:=As (st a) b c
def Be a b c d:=Ah a (some b) c d
def BB a b c d e:=Be (me a b) c d e
def BP a b:=Au a AM b
def BR a b:=Au a AB b
def Cn a b:=Au a AG b
def CG a b:=Au a AE b
noncomputable def j2:List FT:=[BB 11 0 "Notes.__init__" B5 95,BB 11 1 "Notes.put" B5 102,BB 68 0 "TypeTable.__init__" AG 164,BB 68 2 "TypeTable.put" AG 178,BB 69 0 "Decl.__init__" AG 199,⟨st 71,none,.ref 215,AG,221⟩,⟨st 73,none,.ref 230,AG,236⟩,Cn 74 243,Cn 75 250,Cn 76 257,Cn 77 264,Cn 78 271,Cn 79 278,Cn 80 285,Cn 81 290,Cn 82 297,Cn 83 304,Cn 84 311,Cn 85 318,Cn 86 325,Cn 89 344,Cn 90 351,Au 105 Bg 408,Au 106 Bg 415,Au 108 Bg 429,Au 109 Bg 436,Au 110 Bg 443,Au 111 Bg 448,Au 112 Bg 455,Au 113 Bg 462,Au 118 CR 471,Au 119 CR 478,Au 120 CR 485,BB 124 0 "Thin.__init__" AE 499,BB 124 1 "Thin.force" AE 506,BB 124 2 "Thin.put_deferred" AE 513,BB 124 15 "Thin.list_prop" AE 604,BB 124 16 "Thin.list_index" AE 611,CG 125 639,CG 128 660,CG 129 665,CG 131 679,CG 132 686,CG 133 693,CG 135 705,CG 136 712,CG 137 719,CG 138 724,CG 139 731,Au 143 (Cp 1328) 752,Au 144 (Cp 1328) 759,BB 165 0 "Rel.__init__" AB 828,BB 165 1 "Rel.ask" AB 835,BB 165 2 "Rel.note" AB 842,BB 165 4 "Rel.mark" AB 856,BB 165 5 "Rel.back" AB 863,BR 166 884,BR 167 891,BR 168 898,BR 170 912,BR 171 919,BR 172 926,BR 173 933,BR 174 940,BR 176 954,BR 177 961,BR 178 968,BR 179 975,BR 180 982,BR 181 989,BR 182 996,BR 183 1003,BR 184 1010,BR 185 1017,BR 187 1031,Au 191 (Aa "kindkeep.relsig" 1775) 1052,Au 194 Bt 1059,Au 195 Bt 1064,Au 196 Bt 1071,Au 197 Bt 1078,Au 198 Bt 1085,Au 199 Bt 1092,Au 200 Bt 1097,BB 202 0 "BoundHost.bound" BZ 1111,BB 202 1 "BoundHost.shape" BZ 1118,BB 204 0 "ParamRule.holds" BY 1137,Au 205 BY 1149,Au 206 BY 1156,BP 208 1163,BP 209 1170,BP 210 1177,BP 211 1184,BP 212 1191,BP 213 1196,BP 214 1203,BP 215 1208,BP 216 1215,BP 217 1222,BP 218 1229,BP 219 1236,BP 220 1243,BP 221 1250,BP 222 1257,BP 223 1262,BP 224 1269,BP 225 1274,BP 226 1281,BP 227 1286]
theorem I7 (w:World):Ll.map (fun a=>List.lookup a (Kf w))=j2.map (fun t=>some ⟨.type "function",none,.func t.fd,#[]⟩):=by kernel_rfl
def M6:Data→Option Value
 | .fields vs=>vs[1]?
 |_=>none
def MJ:Data→Option (List Value)
 | .seq xs _=>some xs.toList
 |_=>none
def Nb (K:Frag)(t:FT):Bool:=match(List.lookup t.cd K).bind fun o=>M6 o.data with
 |some (.str x _)=>x==t.fd.qualname
 |_=>false
theorem Ly (w:World):(j2.all fun t=>Nb (Kf w) t)=true:=by kernel_rfl
def y7 (t:FT):Bool:=t.fd.scope.names.all fun p=>p.2 !=.free
theorem y6:(j2.all y7)=true:=by kernel_rfl
def gq:List Value→List V→Bool
 |[],[] =>true
 | .int i _::r,.j j::q=>i==j&&gq r q
 |_,_=>false
def M7 (K:Frag)(f:MF)(t:FT):Bool:=match t.d with
 | .none=>f.dQ.isEmpty
 | .ref T=>(match(List.lookup T K).bind fun o=>MJ o.data with
  |some xs=>gq xs f.dQ
  |_=>false)
 |_=>false
theorem Ls (w:World):((I6.zip j2).all fun p=>M7 (Kf w) p.1 p.2)=true:=by kernel_rfl
theorem vY:(I6.all fun f=>m8 (f.names.map (·.1))&&decide (f.dQ.length≤f.np)&&decide (f.np≤f.names.length)&&decide (f.np≤f.size))=true:=by kernel_rfl
theorem Js:((I6.zip j2).all fun p=>Lx p.1 p.2.s)=true:=by kernel_rfl
theorem I5:I6.length=j2.length:=by kernel_rfl
theorem M9 {k:Nat}{f:MF}(e:I6[k]?=some f):∃t,j2[k]?=some t∧Lx f t.s=true:=by have h:k<j2.length:=I5▸(List.getElem?_eq_some_iff.mp e).1;have ht:=List.getElem?_eq_getElem h;exact⟨_,ht,(List.all_eq_true.mp Js) (_,_) (List.mem_iff_getElem?.mpr ⟨k,List.getElem?_zip_eq_some.mpr ⟨e,ht⟩⟩)⟩
end
section
open PySem PySem.W PySem.Calls PyProof.Rows PySem.SeqAt
abbrev tU (sl:List (Str×Value))(p:Str×Value):List (Str×Value):=if(sl.lookup p.1).isNone=true then sl++[p] else sl
theorem o8:∀ {ps sl:List (Str×Value)},(∀p∈ps,(sl.lookup p.1).isSome=true)→ps.foldl tU sl=sl
 |[],_,_=>rfl
 |p::ps,sl,h=>by
  have:tU sl p=sl:=by simp_all
  rw [List.foldl_cons,this];exact o8 (by grind)
theorem rK:∀ {ps sl:List (Str×Value)},(∀p∈ps,sl.lookup p.1=none)→(ps.map (·.1)).Nodup→ps.foldl tU sl=sl++ps
 |[],_,_,_=>by simp
 |p::ps,sl,h,hn=>by
  have:tU sl p=sl++[p] :=by grind
  rw [List.map_cons,List.nodup_cons] at hn;rw [List.foldl_cons,this,rK _ hn.2]
  ·simp
  grind
theorem eD:∀ {names:List Str} {vs:List Value} {x:Str},x∈names.take vs.length→((names.zip vs).lookup x).isSome=true
 |[],_,_,h=>by simp at h
 |n::names,[],_,h=>by trivial
 |n::names,v::vs,x,h=>by
  rw [List.zip_cons_cons,List.lookup_cons];split
  ·rfl
  ·rw [List.length_cons,List.take_succ_cons,List.mem_cons] at h;rcases h with q|q
   ·simp_all
   ·exact eD q
theorem gW:∀ {names:List Str} {vs:List Value} {x:Str},x∉names→(names.zip vs).lookup x=none
 |[],_,_,_=>by simp
 |n::names,[],_,h=>by simp
 |n::names,v::vs,x,h=>by rw [List.mem_cons,not_or] at h;rw [List.zip_cons_cons,List.lookup_cons,show(x==n)=false by simp_all];exact gW h.2
theorem jd:∀ {names:List Str} {vs:List Value} {l:List (Str×Value)},names.Nodup→names.length=vs.length→(∀x∈names,l.lookup x=(names.zip vs).lookup x)→(names.filterMap fun n=>(l.lookup n).map (n,·))=names.zip vs
 |[],_,_,_,_,_=>by simp
 |n::names,[],_,_,h,_=>by trivial
 |n::names,v::vs,l,hn,hl,h=>by rw [List.nodup_cons] at hn;rw [List.filterMap_cons_some (b:=(n,v)) (by simp_all),List.zip_cons_cons,jd hn.2 (by simpa using hl) fun x hx=>?_];rw [h x (by grind),List.zip_cons_cons];grind
theorem qV {names:List Str}{cs:List Value} :names.zip cs=(names.take cs.length).zip cs:=by
 induction names generalizing cs with
 |nil=>simp
 |cons n names ih=>
  cases cs with
  |nil=>simp
  |cons c cs=>simp_all
theorem wF {names:List Str}{cs ds:List Value}(hn:names.Nodup)(l1:cs.length≤names.length)(l2:names.length≤cs.length+ds.length)(l3:ds.length≤names.length):
 ((names.drop (names.length-ds.length)).zip ds).foldl tU (names.zip cs)=names.zip (cs++ds.drop (cs.length+ds.length-names.length)):=by
 have hj:cs.length+ds.length-names.length=cs.length-(names.length-ds.length):=by omega
 rw [hj]
 generalize hf:names.length-ds.length=f
 have hfk:f≤cs.length:=by omega
 have ed:List.drop (cs.length-f) ((names.drop f).zip ds)=(names.drop cs.length).zip (ds.drop (cs.length-f)):=by rw [List.zip_eq_zipWith,List.drop_zipWith,←List.zip_eq_zipWith];simp_all
 have et:List.take (cs.length-f) ((names.drop f).zip ds)=((names.drop f).take (cs.length-f)).zip (ds.take (cs.length-f)):=by rw [List.zip_eq_zipWith,List.take_zipWith,←List.zip_eq_zipWith]
 have hnd:=hn
 rw [←List.take_append_drop _ names,List.nodup_append] at hnd
 have hA:∀p∈List.take (cs.length-f) ((names.drop f).zip ds),((names.zip cs).lookup p.1).isSome=true:=by
  intro p hp;rw [et] at hp;have hm:=(List.of_mem_zip hp).1;apply eD;have:f+(cs.length-f)=cs.length:=by omega
  grind
 have hB:∀p∈List.drop (cs.length-f) ((names.drop f).zip ds),(names.zip cs).lookup p.1=none:=by intro p hp;rw [ed] at hp;rw [qV];exact gW fun h=>hnd.2.2 _ h _ (List.of_mem_zip hp).1 rfl
 have hC:((List.drop (cs.length-f) ((names.drop f).zip ds)).map (·.1)).Nodup:=by
  have:((names.drop cs.length).zip (ds.drop (cs.length-f))).map (·.1)=(names.drop cs.length).take (ds.drop (cs.length-f)).length:=by
   generalize names.drop _=a;generalize ds.drop _=b;induction a generalizing b with
   |nil=>simp
   |cons x a ih=>cases b with
    |nil=>simp
    |cons y b=>simp [ih]
  grind
 have split:(names.drop f).zip ds=List.take _ _++List.drop (cs.length-f) _:=(List.take_append_drop _ _).symm
 rw [split,List.foldl_append,o8 hA,rK hB hC,ed]
 have e2:names.zip (cs++ds.drop (cs.length-f))=(names.take cs.length++names.drop cs.length).zip (cs++ds.drop (cs.length-f)):=by simp
 rw [e2,List.zip_append (by simp [*]),←qV]
theorem tE {ps:List (Str×Value)}{f:Str×Value→List (Str×Value)→Sem (ForInStep (List (Str×Value)))}(hf:∀p r,f p r=pure (.yield (tU r p))):∀sl,forIn ps sl f=(pure (ps.foldl tU sl):Sem _):=by
 induction ps with
 |nil=>simp
 |cons p ps ih=>grind
theorem zI {s:Shared}{fd:FuncData}{cs ds:List Value}(h1:fd.params.posonlyargs=[])(h2:fd.params.vararg=none)(h3:fd.params.kwonlyargs=[])(h4:fd.params.kwarg=none)
 (hn:(fd.params.args.map (·.arg)).Nodup) (hd:∀(M:Model) (A:Around) (E:Value→Shared→Prop) (Q:Option (Array Value)→Shared→Prop),(∀r,(r.getD #[]).toList=ds→Q r s)→wpAny M A (seqItems? fd.defaults) Q E s)
 (l1:cs.length≤fd.params.args.length) (l2:fd.params.args.length≤cs.length+ds.length) (l3:ds.length≤fd.params.args.length):
 BindsTo s fd ⟨cs,[]⟩ ((fd.params.args.map (·.arg)).zip (cs++ds.drop (cs.length+ds.length-fd.params.args.length))):=by
 intro M A E Q hq
 unfold bindArgs
 simp only [h1,h2,h3,h4,List.map_nil,List.nil_append,List.forIn_nil,pure_bind,List.append_nil,List.length_map]
 refine wpAny_bind (hd _ _ _ _ fun r hr=>?_)
 rw [hr]
 have e1:(decide (cs.length>fd.params.args.length)&&(none:Option Arg).isNone)=false:=by simp_all
 rw [e1]
 have e0:ds.drop (ds.length-fd.params.args.length)=ds:=by simp_all
 rw [e0]
 have hl:fd.params.args.length=(fd.params.args.map (·.arg)).length:=by simp
 rw [hl] at l1 l2 l3 hq ⊢
 generalize fd.params.args.map _=names at*
 have e2:((names.take (names.length-ds.length)).filter fun n=>((names.zip cs).lookup n).isNone)=[] :=by
  rw [List.filter_eq_nil_iff];intro x hx;have:=eD (by exact List.take_subset_take_left names (show names.length-ds.length≤cs.length by omega) hx)
  simp_all
 rw [e2]
 refine wpAny_bind ?_
 rw [tE (by grind)]
 apply wpAny_pure
 rw [wF hn l1 l2 l3]
 apply wpAny_pure
 rw [jd hn (by simp;omega) fun _ _=>rfl]
 omega
variable {w:World}{s0:Shared}{n:Nat}
def JY:Data→Option (Array DictEntry)
 | .dict es _=>some es
 |_=>none
def yR:Value→Bool
 | .str _ _=>true
 |_=>false
def yz (K:Frag):Bool:=match(List.lookup 2 K).bind fun o=>JY o.data with
 |some es=>es.toList.all (fun e=>yR e.key)&&(nsFind es "sys.recursionlimit").isNone
 |none=>false
theorem MQ (w:World):yz (Kf w)=true:=by kernel_rfl
theorem tc {K:Frag}{h:Heap}(x:K.In h)(e:yz K=true):h.NoLimit:=by
 unfold yz at e;split at e
 ·rename_i es he;simp only [Bool.and_eq_true,Option.isNone_iff_eq_none] at e;obtain⟨o,ho,hd⟩:=Option.bind_eq_some_iff.mp he;have hd':∃ep,o.data=.dict es ep:=by
   unfold JY at hd;split at hd
   ·cases hd;exact⟨_,by assumption⟩
   ·cases hd
  obtain⟨ep,hd'⟩:=hd';refine⟨nsFind es,⟨o,es,ep,x _ _ ho,hd',fun k hk=>?_,fun _=>rfl⟩,e.2⟩;have:=List.all_eq_true.mp e.1 k (by simpa using hk);unfold yR at this;split at this
  ·exact⟨_,_,by assumption⟩
  ·cases this
 ·cases e
def uO (f:MF)(args:List V):En:=(args++f.dQ.drop (args.length+f.dQ.length-f.np)).map some++List.replicate (f.size-f.np) none
theorem wD {f:MF}{args:List V}{i:Nat}{v:V}(h:(uO f args)[i]?=some (some v)):(args++f.dQ.drop (args.length+f.dQ.length-f.np))[i]?=some v:=by
 unfold uO at h;rw [List.getElem?_append] at h;split at h
 ·rw [List.getElem?_map] at h;cases e:(args++f.dQ.drop (args.length+f.dQ.length-f.np))[i]? with
  |none=>rw [e] at h;cases h
  |some u=>rw [e] at h;cases h;rfl
 ·exfalso;have:=List.mem_of_getElem? h;simp at this
theorem so {kindOf:Str→Option NameKind} :∀ {l:List (Str×Value)} {mm:Str→Option Value} {x:Str},(l.map (·.1)).Nodup→kindOf x=some .local→bindL kindOf l mm x=match l.lookup x with|some v=>some v|none=>mm x
 |[],_,_,_,_=>rfl
 |(y,v)::r,mm,x,hn,hk=>by
  rw [List.map_cons,List.nodup_cons] at hn;unfold bindL;rw [so hn.2 hk,List.lookup_cons];by_cases q:x=y
  ·subst q;have:r.lookup x=none:=by
    cases e:r.lookup x with
    |none=>rfl
    |some u=>exact absurd (List.mem_map_of_mem (f:=(·.1)) (mem_of_lookup e)) hn.1
   rw [this];simp [hk]
  ·rw [show(x==y)=false by simpa using q];cases e:r.lookup x with
   |some u=>rfl
   |none=>
    simp only;split
    ·exact if_neg q
    ·rfl
theorem sq {kindOf:Str→Option NameKind} :∀ {l:List (Str×Value)} {mm:Str→Option Value} {x:Str},(l.map (·.1)).Nodup→kindOf x=some .cell→bindC kindOf l mm x=match l.lookup x with|some v=>some v|none=>mm x
 |[],_,_,_,_=>rfl
 |(y,v)::r,mm,x,hn,hk=>by
  rw [List.map_cons,List.nodup_cons] at hn;unfold bindC;rw [sq hn.2 hk,List.lookup_cons];by_cases q:x=y
  ·subst q;have:r.lookup x=none:=by
    cases e:r.lookup x with
    |none=>rfl
    |some u=>exact absurd (List.mem_map_of_mem (f:=(·.1)) (mem_of_lookup e)) hn.1
   rw [this];simp [hk]
  ·rw [show(x==y)=false by simpa using q];cases e:r.lookup x with
   |some u=>rfl
   |none=>
    simp only;split
    ·rfl
    ·exact if_neg q
theorem b8.at {N h:Heap}{R:aJ}{l:List V}{cs:List Value}(x:b8 N h R l cs):∀ {i:Nat} {v:V},l[i]?=some v→∃c,cs[i]?=some c∧VR N h R v c:=by
 induction l generalizing cs with
 |nil=>intro i v e;simp at e
 |cons a l ih=>
  cases x with
  |cons p q=>
   intro i v e;cases i with
   |zero=>simp at e;subst e;exact⟨_,by simp,p⟩
   |succ i=>simp at e;obtain⟨c,h,p⟩:=ih q e;exact⟨c,by simpa using h,p⟩
theorem IU {N h:Heap}{R:aJ}{cs:List Value} :∀ {l:List V},gq cs l=true→b8 N h R l cs:=by
 induction cs with
 |nil=>intro l e;cases l with|nil=>exact .m|cons=>cases e
 |cons c cs ih=>
  intro l e;cases l with
  |nil=>exact absurd e (by cases c<;>simp [gq])
  |cons v l=>
   cases c<;>cases v<;>first
    |(simp only [gq,Bool.and_eq_true,beq_iff_eq] at e;obtain⟨rfl,e⟩:=e;exact .cons (.j _ _) (ih e))
    |(exact absurd e (by simp [gq]))
theorem xy:∀ {names:List Str} {vs:List Value} {i:Nat} {x:Str} {c:Value},names.Nodup→names[i]?=some x→vs[i]?=some c→(names.zip vs).lookup x=some c
 |[],_,_,_,_,_,h,_=>by simp at h
 |_::_,[],_,_,_,_,_,h=>by simp at h
 |y::names,v::vs,i,x,c,hn,h1,h2=>by
  rw [List.nodup_cons] at hn;rw [List.zip_cons_cons,List.lookup_cons];cases i with
  |zero=>simp at h1 h2;subst h1;subst h2;simp
  |succ i=>simp at h1 h2;rw [show(x==y)=false by simp;rintro rfl;exact hn.1 (List.mem_of_getElem? h1)];exact xy hn.2 h1 h2
theorem nc {l:List (Str×Nat)}(h:l.map (·.2)=List.range l.length){x:Str}{i:Nat}(e:l.lookup x=some i):l[i]?=some (x,i):=by
 have hm:=mem_of_lookup e;obtain⟨j,hj,hx⟩:=List.mem_iff_getElem.mp hm;have:(l.map (·.2))[j]?=some i:=by rw [List.getElem?_map,List.getElem?_eq_getElem hj,hx];rfl
 rw [h,List.getElem?_range hj] at this;cases this;rw [List.getElem?_eq_getElem hj,hx]
theorem ot {M:Model}{A:Around}{E:Value→Shared→Prop}{s:Shared}{Q:Option (Array Value)→Shared→Prop}(q:Q none s):wpAny M A (seqItems? .none) Q E s:=
 wpAny_of_eq (a:=none) rfl q
section
variable {H:AH}
theorem zi {R:aJ}{s s1:Shared}{f:MF}{sc:Scope}{env:Env}{cs:List Value}{vs:List V}{cells:List (Str×Addr)}(S:St w s0 R H s)
 (hk:sc.kind=.function) (hsc:env.scope=sc) (hg:env.globals=3) (hb:env.builtins=0) (hL:env.locals=s.heap.objs.size) (hcells:env.cells=cells)
 (hfree:∀p∈sc.names,p.2≠.free) (hnames:∀p∈f.names,sc.names.lookup p.1=some .local∨sc.names.lookup p.1=some .cell)
 (hcell:∀x,sc.names.lookup x=some .cell→∃a,cells.lookup x=some a)
 (hrange:f.names.map (·.2)=List.range f.names.length) (hnd:(f.names.map (·.1)).Nodup)
 (hvs:b8 (N0 s0) s1.heap R vs cs) (hlen:vs.length=f.np) (hnp:f.np≤f.names.length) {vals:En} (hvals:∀ {i:Nat} {v:V},vals[i]?=some (some v)→vs[i]?=some v)
 (x:InCallC s env.locals (bindL env.kindOf (((f.names.take f.np).map (·.1)).zip cs) fun _=>none) env.cells (bindC env.kindOf (((f.names.take f.np).map (·.1)).zip cs) fun _=>none) s1):
 ER s0 ⟨sc,f.names⟩ env vals R s1.heap:=by
 have fr:=cn s.heap
 have hko:∀y,env.kindOf y=sc.names.lookup y:=fun y=>by unfold Env.kindOf;rw [hsc]
 have hzl:(((f.names.take f.np).map (·.1)).zip cs).map (·.1)=(f.names.take f.np).map (·.1):=by
  have:cs.length=((f.names.take f.np).map (·.1)).length:=by rw [←hvs.length,hlen];simp;omega
  rw [List.map_fst_zip];omega
 have hnd2:((f.names.take f.np).map (·.1)).Nodup:=by rw [List.map_take];exact hnd.sublist (List.take_sublist _ _)
 have hznd:((((f.names.take f.np).map (·.1)).zip cs).map (·.1)).Nodup:=by rw [hzl];exact hnd2
 have par:∀ {y:Str} {i:Nat} {v:V},f.names.lookup y=some i→vals[i]?=some (some v)→∃c,(((f.names.take f.np).map (·.1)).zip cs).lookup y=some c∧VR (N0 s0) s1.heap R v c:=by
  intro y i v hy hv;have hv':=hvals hv;obtain⟨c,hc,vr⟩:=hvs.at hv';have hi:i<f.np:=by rw [←hlen];exact(List.getElem?_eq_some_iff.mp hv').1
  have:=nc hrange hy;refine⟨c,xy (i:=i) hnd2 ?_ hc,vr⟩;rw [List.getElem?_map,List.getElem?_take_of_lt hi,this];rfl
 have up:∀a,s.heap.objs.size≤a→s0.heap.get? a=none:=fun a ha=>by
  cases e:s0.heap.get? a with
  |none=>rfl
  |some o=>exact absurd (Nat.lt_of_lt_of_le (Heap.lt_size (S.N _ _ e)) ha) (Nat.lt_irrefl _)
 refine⟨by rw [hsc];exact hk,fun y hy=>?_,by rw [hg];rfl,by rw [hb];rfl,fun y z i hy hz=>?_,fun y i hy=>?_,⟨_,x.toInCall.ns,fun y i v hy hl hv=>?_⟩,fun p hp=>?_,?_,fun y a ha=>⟨?_,_,x.cell y a ha⟩,fun y z a hy hz=>name_of_addr x.apart (mem_of_lookup hy) (mem_of_lookup hz),fun y hy=>?_⟩
 ·rw [hko];simp only [Cx.dP,Bool.and_eq_true,beq_iff_eq] at hy;exact hy.2
 ·have a:=nc hrange hy;have b:=nc hrange hz;rw [a] at b;cases b;rfl
 ·rcases hnames _ (mem_of_lookup hy) with q|q
  ·exact .inl (by rw [hko];exact q)
  ·obtain⟨a,ha⟩:=hcell y q;refine .inr ⟨by rw [hko];exact q,a,by rw [hcells];exact ha,_,x.cell y a (by rw [hcells];exact ha),fun v hv=>?_⟩;obtain⟨c,hc,vr⟩:=par hy hv;refine⟨c,?_,vr⟩;rw [sq hznd (by rw [hko];exact q),hc]
 ·obtain⟨c,hc,vr⟩:=par hy hv;refine⟨c,?_,vr⟩;rw [so hznd hl,hc]
 ·obtain⟨_,_,_,_,y⟩:=S.at hp;obtain⟨ob,e,_⟩:=y.w9;rw [hL];intro q;rw [q,fr] at e;cases e
 ·exact up _ (by rw [hL];exact Nat.le_refl _)
 ·have:=x.above y a (mem_of_lookup ha);exact up _ (by rw [hL] at this;exact Nat.le_of_lt this)
 ·rw [hko];rcases hy with q|q
  ·exact q
  ·exact absurd rfl (hfree _ (mem_of_lookup q))
end
theorem kG.in {A:Around}(env:Env)(r:kG (n+1) A):dT n (A.deeper env):=by
 refine⟨r.t,?_,?_⟩
 ·have:=r.oC;show A.depth+1+3*n≤980;omega
 ·have:=r.oA;show A.units+3+40*n≤9700;omega
theorem Ju (B:bP w s0){k:Nat}{f:MF}(hk:I6[k]?=some f){args:List V}{H:AH}{Q:V→AH→Prop}(ha:args.length≤f.np∧f.np≤args.length+f.dQ.length)
 (q:wS (lu w s0 n) f.mL (uO f args) H fun fl _ H=>match fl with| .bL v=>Q v H|_=>Q .aE H):oh w s0 (n+1) k args H Q:=by
 intro A R s cs S hv hr
 obtain⟨t,ht,hck⟩:=M9 hk
 have hK:=B.K S
 have hobj:s.heap.get? (fa k)=some ⟨.type "function",none,.func t.fd,#[]⟩:=by
  have e:=congrArg (fun l=>l[k]?) (I7 w);simp only [List.getElem?_map,ht,Option.map_some] at e;cases e1:Ll[k]? with
  |none=>rw [e1] at e;cases e
  |some a=>
   rw [e1] at e;have:fa k=a:=by unfold fa;rw [List.getD_eq_getElem?_getD,e1];rfl
   rw [this];exact hK _ _ (Option.some.inj e)
 have hcd:s.heap.CodeRec (.ref t.cd) t.fd.qualname:=by
  have e:=List.all_eq_true.mp (Ly w) t (List.mem_of_getElem? ht);unfold Nb at e;split at e
  ·rename_i x tk he;obtain⟨o,ho,hd⟩:=Option.bind_eq_some_iff.mp he;have hd':∃vs,o.data=.fields vs∧vs[1]?=some (.str x tk):=by
    unfold M6 at hd;split at hd
    ·exact⟨_,by assumption,hd⟩
    ·cases hd
   obtain⟨vs,hd1,hd2⟩:=hd';rw [beq_iff_eq] at e;exact⟨_,o,vs,tk,rfl,hK _ _ ho,hd1,by rw [hd2,e]⟩
  ·cases e
 have hfree:=List.all_eq_true.mp y6 t (List.mem_of_getElem? ht)
 have hfz:(f,t)∈I6.zip j2:=List.mem_iff_getElem?.mpr ⟨k,by rw [List.getElem?_zip_eq_some];exact⟨hk,ht⟩⟩
 have hdf:=List.all_eq_true.mp (Ls w) _ hfz
 have hnu:=List.all_eq_true.mp vY f (List.mem_of_getElem? hk)
 simp only [Bool.and_eq_true,decide_eq_true_eq] at hnu
 obtain⟨⟨⟨hn1,hn2⟩,hn3⟩,hn4⟩:=hnu
 have hlim:=tc hK (MQ w)
 have hds:∃ds:List Value,b8 (N0 s0) s.heap R f.dQ ds∧∀(M:Model) (A:Around) (E:Value→Shared→Prop) (Q:Option (Array Value)→Shared→Prop),(∀r,(r.getD #[]).toList=ds→Q r s)→wpAny M A (seqItems? t.d) Q E s:=by
  unfold M7 at hdf;split at hdf
  ·rename_i e;refine⟨[],?_,fun M A E Q h=>?_⟩
   ·rw [List.isEmpty_iff.mp hdf];exact .m
   ·rw [show t.d=.none from e];exact ot (h _ rfl)
  ·rename_i T e;split at hdf
   ·rename_i xs he;obtain⟨o,ho,hd⟩:=Option.bind_eq_some_iff.mp he;have hd':∃ys n,o.data=.seq ys n∧ys.toList=xs:=by
     unfold MJ at hd;split at hd
     ·cases hd;exact⟨_,_,by assumption,rfl⟩
     ·cases hd
    obtain⟨ys,nn,hd1,hd2⟩:=hd';refine⟨xs,IU hdf,fun M A E Q h=>?_⟩;rw [show t.d=.ref T from e];exact wpAny_seqItems (hK _ _ ho) hd1 (h _ hd2)
   ·cases hdf
  ·cases hdf
 obtain⟨ds,hdv,hds⟩:=hds
 unfold Lx at hck
 split at hck
 case h_2=>cases hck
 rename_i nm a b sc x1 x2 hs
 simp only [Bool.and_eq_true,Bool.not_eq_true',beq_iff_eq,List.isEmpty_iff,Option.isNone_iff_eq_none,decide_eq_true_eq] at hck
 obtain⟨⟨⟨⟨⟨⟨⟨⟨⟨⟨⟨⟨⟨⟨c1,c2⟩,c3⟩,c4⟩,c5⟩,c6⟩,c7⟩,c8⟩,c9⟩,c10⟩,c11⟩,c12⟩,c13⟩,c14⟩,c15⟩:=hck
 have e1:t.fd.params=a:=by unfold FT.fd;rw [hs];rfl
 have e2:t.fd.body=.stmts b:=by unfold FT.fd;rw [hs];rfl
 have e3:t.fd.scope=sc:=by unfold FT.fd;rw [hs];rfl
 have e4:t.fd.globals=3:=by unfold FT.fd;rw [hs];rfl
 have e5:t.fd.closure=[] :=by unfold FT.fd;rw [hs];rfl
 have e6:t.fd.defaults=t.d:=by unfold FT.fd;rw [hs];rfl
 have e7:t.fd.code=.ref t.cd:=by unfold FT.fd;rw [hs];rfl
 have e8:t.fd.builtins=0:=by unfold FT.fd;rw [hs];rfl
 have hnd:(f.names.map (·.1)).Nodup:=eR hn1
 have hnd2:((f.names.take f.np).map (·.1)).Nodup:=by rw [List.map_take];exact hnd.sublist (List.take_sublist _ _)
 have hal:a.args.length=f.np:=by have:=congrArg List.length c6;simp at this;omega
 have hcl:=hv.length
 have hdl:=hdv.length
 refine codeAny_call_function (fd:=t.fd) (body:=b) (by have:=hr.oC;unfold recursionLimit;omega) hobj rfl (by rw [e3];exact c11) (by rw [e3];exact c10) e2 (by rw [e7];exact hcd) ?_
 have hbind:=zI (s:=s) (fd:=t.fd) (cs:=cs) (ds:=ds) (by rw [e1];exact c1) (by rw [e1];exact c2) (by rw [e1];exact c3) (by rw [e1];exact c5) (by rw [e1,c6];exact hnd2) (by rw [e6];exact hds) (by rw [e1,hal];omega) (by rw [e1,hal];omega) (by rw [e1,hal];omega)
 refine hbind _ _ _ _ ?_
 rw [e1,c6,hal,e3,e4,e5,e7,e8]
 have hcell:∀x,sc.names.lookup x=some .cell→∃a,(cellsFrom (s.heap.objs.size+1) sc.names []).lookup x=some a:=fun x hx=>by obtain⟨a,h⟩:=dX (n:=s.heap.objs.size+1) (mem_of_lookup hx);exact fS h
 have hnames:∀p∈f.names,sc.names.lookup p.1=some .local∨sc.names.lookup p.1=some .cell:=fun p hp=>by have:=List.all_eq_true.mp c12 p hp;simpa [Bool.or_eq_true,beq_iff_eq] using this
 refine wpAny_newFunctionEnv_cells c9 (fun x hx=>?_) fun env he s1 x=>?_
 ·have hm:=(List.of_mem_zip (a:=x.1) (b:=x.2) hx).1;obtain⟨p,hp,hpe⟩:=List.mem_map.mp hm;have:=hnames p (List.mem_of_mem_take hp);rw [hpe] at this;refine this.imp_right fun q=>⟨q,?_⟩;obtain⟨a,h⟩:=hcell _ q;rw [h];rfl
 ·obtain⟨h1,tk,rfl⟩:=x.toInCall.same;have keep:=x.toInCall.keep;obtain⟨S1',X1'⟩:=S.Kb (h':=h1) keep;have S1:=S1'.toks tk;have X1:cj hF R R s {s with heap:=h1,toks:=tk} :=X1'.trans (.toks tk);have hvs:b8 (N0 s0) h1 R (args++f.dQ.drop (args.length+f.dQ.length-f.np)) (cs++ds.drop (cs.length+ds.length-f.np)):=by rw [hcl,hdl];exact(hv.bq X1 S (aU _ _)).dp ((hdv.bq X1 S (aU _ _)).drop _)
  have F:ER s0 ⟨sc,f.names⟩ env (uO f args) R h1:=by
   refine zi (s1:= {s with heap:=h1,toks:=tk}) S c9 (by rw [he];rfl) (by rw [he];rfl) (by rw [he];rfl) (by rw [he];rfl) (by rw [he];rfl) (fun p hp=>?_) hnames hcell c13 hnd hvs ?_ hn3 wD x
   ·unfold y7 at hfree;rw [e3] at hfree;have:=List.all_eq_true.mp hfree p hp;simpa using this
   ·simp;omega
  refine⟨hlim.keeps keep,codeAny_func ?_⟩;refine wpAny_mono (KC B f.mL (hr.in env) c15 F S1 q) (fun fl s2 z=>?_) fun _ _ z=>z.elim;obtain⟨R2,fl',v2,H2,q2,fr,X2,S2,F2⟩:=z;have X:cj hF R R2 s s2:=X1.Mm X2 fun b o e hz=>by
   have hL:env.locals=s.heap.objs.size:=by rw [he];rfl
   have hb:s.heap.objs.size≤b:=by
    rcases hz with q|⟨y,q⟩
    ·rw [q,hL];exact Nat.le_refl _
    ·have:=x.above y b (mem_of_lookup q);rw [hL] at this;exact Nat.le_of_lt this
   exact absurd (Nat.lt_of_lt_of_le (Heap.lt_size e) hb) (Nat.lt_irrefl _)
  cases fr with
  |a=>exact⟨_,rfl,R2,_,H2,q2,X,S2,.aE⟩
  |gZ=>exact⟨_,rfl,R2,_,H2,q2,X,S2,.aE⟩
  |bL vr=>exact⟨_,rfl,R2,_,H2,q2,X,S2,vr⟩
end
abbrev az:=V→AH→Prop
def OD (f:MF)(args:List V):En:=(args++f.dQ.drop (args.length+f.dQ.length-f.np)).map some++List.replicate (f.size-f.np) none
structure aC where
 w:Nat→Nat→List V→AH→az→Prop
 P:∀ {n k:Nat} {a:List V} {H:AH} {Q Q':az},w n k a H Q→(∀v H',Q v H'→Q' v H')→w n k a H Q'
 x:∀ {n m k:Nat} {a:List V} {H:AH} {Q:az},w n k a H Q→n≤m→w m k a H Q
 JN:∀ {n k:Nat} {f:MF} {a:List V} {H:AH} {Q:az},I6[k]?=some f→a.length≤f.np→f.np≤a.length+f.dQ.length→wS ⟨w n,fun c=>dW.lookup c,fun c a=>(jT.find? fun e=>e.1==c&&e.2.1==a).map (·.2.2)⟩ f.mL (OD f a) H (fun fl _ H=>match fl with| .bL v=>Q v H|_=>Q .aE H)→w (n+1) k a H Q
variable {X:aC}
def aC.b (X:aC)(n:Nat):z4:=⟨X.w n,fun c=>dW.lookup c,fun c a=>(jT.find? fun e=>e.1==c&&e.2.1==a).map (·.2.2)⟩
theorem zw (n:Nat):(X.b n).w=X.w n:=rfl
def bX (Q:az):Fl→En→AH→Prop:=fun fl _ H=>match fl with| .bL v=>Q v H|_=>Q .aE H
theorem x9 (Q:az)(v:V)(e:En)(H:AH):bX Q (.bL v) e H=Q v H:=rfl
theorem vR (Q:az)(e:En)(H:AH):bX Q .a e H=Q .aE H:=rfl
theorem aC.hV {n k:Nat}{f:MF}{a:List V}{H:AH}{Q:az}(hk:I6[k]?=some f)(h1:a.length≤f.np)(h2:f.np≤a.length+f.dQ.length)(h:wS (X.b n) f.mL (OD f a) H (bX Q)):X.w (n+1) k a H Q:=X.JN hk h1 h2 h
section
variable (C:z4)(env:En)(H:AH){Q:az}{P:Bool→AH→Prop}{L:List V→AH→Prop}
theorem NP (v:V):(wX C (.k v)).E env H Q=Q v H:=rfl
theorem J5 (i:Nat):(wX C (.h i)).E env H Q=match env[i]? with|some (some v)=>Q v H|_=>False:=rfl
theorem ND (l:MX):(wX C (.B l)).E env H Q=(wX C l).L env H fun vs H=>Q (.B vs) H:=rfl
theorem NL (l:MX):(wX C (.dm l)).E env H Q=(wX C l).L env H fun vs H=>Q (.y H.length) (H++[.f vs]):=rfl
theorem L4:(wX C .gJ).E env H Q=Q (.y H.length) (H++[.i []]):=rfl
theorem NS (o:tX)(a b:MX):(wX C (.hY o a b)).E env H Q=(wX C a).E env H fun x H=>(wX C b).E env H fun y H=>cw o x y H Q:=rfl
theorem NI (a:MX):(wX C (.gH a)).E env H Q=(wX C a).E env H fun v H=>cY v H fun b=>Q (.D (!b)) H:=rfl
theorem Nm (a:MX):(wX C (.gH a)).T env H P=(wX C a).T env H fun b H=>P (!b) H:=rfl
theorem NK (a:MX):(wX C (.Ka a)).E env H Q=(wX C a).E env H fun x H=>match x with| .j i=>Q (.j (-i)) H|_=>False:=rfl
theorem NQ (o:J6)(a b:MX):(wX C (.bH o a b)).E env H Q=(wX C a).E env H fun x H=>(wX C b).E env H fun y H=>aI o x y H fun r=>Q (.D r) H:=rfl
theorem Nr (o:J6)(a b:MX):(wX C (.bH o a b)).T env H P=(wX C a).E env H fun x H=>(wX C b).E env H fun y H=>aI o x y H fun r=>P r H:=rfl
theorem L8 (l:MX):(wX C (.dy l)).E env H Q=(wX C l).A env H Q:=rfl
theorem LN (l:MX):(wX C (.dy l)).T env H P=(wX C l).TA env H P:=rfl
theorem NH (l:MX):(wX C (.pK l)).E env H Q=(wX C l).O env H Q:=rfl
theorem Nl (l:MX):(wX C (.pK l)).T env H P=(wX C l).TO env H P:=rfl
theorem NM (t a b:MX):(wX C (.bA t a b)).E env H Q=(wX C t).T env H fun r H=>if r=true then(wX C a).E env H Q else(wX C b).E env H Q:=rfl
theorem Np (t a b:MX):(wX C (.bA t a b)).T env H P=(wX C t).T env H fun r H=>if r=true then(wX C a).T env H P else(wX C b).T env H P:=rfl
theorem L7 (e:MX)(a:Nat):(wX C (.bB e a)).E env H Q=(wX C e).E env H fun x H=>aX x a H fun v=>Q v H:=rfl
theorem NF (e i:MX):(wX C (.z e i)).E env H Q=(wX C e).E env H fun x H=>(wX C i).E env H fun y H=>aF x y H fun v=>Q v H:=rfl
theorem L6 (f:Nat)(l:MX):(wX C (.w f l)).E env H Q=(wX C l).L env H fun vs H=>C.w f vs H Q:=rfl
theorem NN (e l:MX):(wX C (.jG e l)).E env H Q=(wX C e).E env H fun o H=>dK o H=2∧(wX C l).L env H fun vs H=>rJ o vs H fun v=>Q v H:=rfl
theorem NO (a b:MX):(wX C (.Kl a b)).E env H Q=(wX C a).E env H fun x H=>(wX C b).E env H fun y H=>match x,y with| .j t,.j d=>Q (.j (wK t d)) H|_,_=>False:=rfl
theorem NR (o:xc)(l:MX):(wX C (.pO o l)).E env H Q=(wX C l).L env H fun vs H=>dj o vs H Q:=rfl
theorem NT:(wX C .ia).E env H Q=False:=rfl
theorem NU (e x:MX):(wX C (.oo e x)).E env H Q=(wX C e).E env H fun o H=>dK o H=1∧(wX C x).E env H fun v H=>jE o v H fun H=>Q .aE H:=rfl
theorem zZ (e:MX)(a:Nat)(l:MX):(wX C (.bJ e a l)).E env H Q=(wX C e).E env H fun x H=>match x with
 | .y n=>match H[n]? with
  |some (.J c fs)=>match C.bJ c a with
   |some f=>a<54∧qj a fs=none∧(wX C l).L env H fun vs H=>C.w f (.y n::vs) H Q
   |none=>False
  |_=>False
 |_=>False:=rfl
theorem NB:(wX C .m).L env H L=L [] H:=rfl
theorem L1 (a b:MX):(wX C (.cons a b)).L env H L=(wX C a).E env H fun v H=>(wX C b).L env H fun l H=>L (v::l) H:=rfl
theorem L9 (a b:MX):(wX C (.cons a b)).A env H Q=(wX C a).E env H fun v H=>if b.cE=true then Q v H else cY v H fun r=>if r=true then(wX C b).A env H Q else Q v H:=rfl
theorem L0 (a b:MX):(wX C (.cons a b)).O env H Q=(wX C a).E env H fun v H=>if b.cE=true then Q v H else cY v H fun r=>if r=true then Q v H else(wX C b).O env H Q:=rfl
theorem LP:(wX C .m).TA env H P=P true H:=rfl
theorem LO:(wX C .m).TO env H P=P false H:=rfl
theorem JG (a b:MX):(wX C (.cons a b)).TA env H P=(wX C a).T env H fun r H=>if r=true then(wX C b).TA env H P else P false H:=rfl
theorem JF (a b:MX):(wX C (.cons a b)).TO env H P=(wX C a).T env H fun r H=>if r=true then P true H else(wX C b).TO env H P:=rfl
theorem Nn (i:Nat):(wX C (.h i)).T env H P=match env[i]? with|some (some v)=>cY v H fun b=>P b H|_=>False:=rfl
theorem Nq (v:V):(wX C (.k v)).T env H P=cY v H fun b=>P b H:=rfl
theorem LL (f:Nat)(l:MX):(wX C (.w f l)).T env H P=(wX C l).L env H fun vs H=>C.w f vs H fun v H=>cY v H fun b=>P b H:=rfl
theorem Nk (e i:MX):(wX C (.z e i)).T env H P=(wX C e).E env H fun x H=>(wX C i).E env H fun y H=>aF x y H fun v=>cY v H fun b=>P b H:=rfl
theorem LM (e:MX)(a:Nat):(wX C (.bB e a)).T env H P=(wX C e).E env H fun x H=>aX x a H fun v=>cY v H fun b=>P b H:=rfl
variable {K:Fl→En→AH→Prop}
theorem LS:wS C .V env H K=K .a env H:=rfl
theorem zT (x:Nat)(e:MX)(k:MS):wS C (.H x e k) env H K=(wX C e).E env H fun v H=>wS C k (env.set x (some v)) H K:=rfl
theorem Nw (t:MX)(a b k:MS):wS C (.bA t a b k) env H K=(wX C t).T env H fun r H=>if r=true then wS C a env H (fun fl env H=>match fl with| .a=>wS C k env H K|fl=>K fl env H) else wS C b env H (fun fl env H=>match fl with| .a=>wS C k env H K|fl=>K fl env H):=rfl
theorem Nv (e:MX):wS C (.bL e) env H K=(wX C e).E env H fun v H=>K (.bL v) env H:=rfl
theorem Ny (e:MX)(k:MS):wS C (.jn e k) env H K=(e.mJ=false∧(wX C e).E env H fun _ H=>wS C k env H K):=rfl
theorem LZ (o i e:MX)(k:MS):wS C (.g9 o i e k) env H K=(wX C e).E env H fun v H=>(wX C o).E env H fun x H=>(wX C i).E env H fun y H=>cD x y v H fun H=>wS C k env H K:=rfl
theorem tV (o:MX)(a:Nat)(e:MX)(k:MS):wS C (.iV o a e k) env H K=(wX C e).E env H fun v H=>(wX C o).E env H fun x H=>ij x a v H fun H=>wS C k env H K:=rfl
end
section
variable (H:AH){Q:az}{P:Bool→AH→Prop}{B:Bool→Prop}{F:V→Prop}{G:AH→Prop}
theorem dG (a b:Int):aI .eq (.j a) (.j b) H B=B (decide (a=b)):=rfl
theorem pD (a b:Bool):aI .eq (.D a) (.D b) H B=B (decide (a=b)):=rfl
theorem zA (a b:PySem.Str):aI .eq (.F a) (.F b) H B=B (decide (a=b)):=rfl
theorem si (a b:Int):aI .ne (.j a) (.j b) H B=B (!decide (a=b)):=rfl
theorem wV (a b:Bool):aI .ne (.D a) (.D b) H B=B (!decide (a=b)):=rfl
theorem zx (a b:PySem.Str):aI .ne (.F a) (.F b) H B=B (!decide (a=b)):=rfl
theorem Nc (a b:Int):aI .lt (.j a) (.j b) H B=B (decide (a<b)):=rfl
theorem OG (a b:Int):aI .le (.j a) (.j b) H B=B (decide (a≤b)):=rfl
theorem OH (a b:Int):aI .gt (.j a) (.j b) H B=B (decide (a>b)):=rfl
theorem OI (a b:Int):aI .ge (.j a) (.j b) H B=B (decide (a≥b)):=rfl
theorem Nd (a:V):aI .Ke a .aE H B=B (decide (a=.aE)):=by simp [aI]
theorem LA (a:V):aI .sL a .aE H B=B (!decide (a=.aE)):=by simp [aI]
theorem zy (a:V)(l:List V):aI .jm a (.B l) H B=gb a l B:=rfl
theorem wU (a:V)(l:List V):aI .ub a (.B l) H B=gb a l fun r=>B (!r):=rfl
theorem aR (a:Int)(l:List Int):gb (.j a) (l.map V.j) B=B (decide (a∈l)):=by
 have h1:V.e 0 (.j a)=true:=rfl;have h2:(l.map V.j).all (V.e 0)=true:=by simp [V.e]
 unfold gb;simp_all
theorem mO (b:Bool):cY (.D b) H B=B b:=rfl
theorem HH (i:Int):cY (.j i) H B=B (decide (i≠0)):=rfl
theorem xI:cY .aE H B=B false:=rfl
theorem oH (a:V)(r:List V):aF (.B (a::r)) (.j 0) H F=F a:=by rfl
theorem cz {l:List V}{i:Nat}{v:V}(h:l[i]?=some v)(hi:i<2^62):aF (.B l) (.j (i:Int)) H F=F v:=by
 have hl:=(List.getElem?_eq_some_iff.mp h).1;have:yX i l.length=some i:=by unfold yX;rw [if_neg (by omega),if_pos (by omega),if_pos (by omega)];simp
 simp [aF,this,h]
theorem aA {n:Nat}{l:List V}(i:Int)(h:H[n]?=some (.f l)):aF (.y n) (.j i) H F=aF (.B l) (.j i) H F:=by simp [aF,h]
theorem oG (a b:V)(r:List V):aF (.B (a::b::r)) (.j 1) H F=F b:=cz H rfl (by simp)
theorem oF (a b c:V)(r:List V):aF (.B (a::b::c::r)) (.j 2) H F=F c:=cz H rfl (by simp)
theorem uu (a b c d:V)(r:List V):aF (.B (a::b::c::d::r)) (.j 3) H F=F d:=cz H rfl (by simp)
theorem MH (a b c d e:V)(r:List V):aF (.B (a::b::c::d::e::r)) (.j 4) H F=F e:=cz H rfl (by simp)
theorem MG (a b c d e f:V)(r:List V):aF (.B (a::b::c::d::e::f::r)) (.j 5) H F=F f:=cz H rfl (by simp)
theorem q6 {l:List V}{v:V}(h:l.getLast?=some v):aF (.B l) (.j (-1)) H F=F v:=by
 have:yX (-1) l.length=some (l.length-1):=by unfold yX;grind
 have e:l[l.length-1]?=some v:=by grind
 simp [aF,this,e]
theorem bO {n c a:Nat}{fs:List (Nat×V)}{v:V}(h:H[n]?=some (.J c fs))(hc:c<8)(ha:dF a=true)(hv:qj a fs=some v):aX (.y n) a H F=F v:=by simp [aX,h,hv,hc,ha]
theorem mS {n c a:Nat}{fs:List (Nat×V)}{v:V}(h:H[n]?=some (.J c fs))(hc:c<8)(ha:dF a=true)(hl:fs.length≤60):ij (.y n) a v H G=G (H.set n (.J c (aL a v fs))):=by simp [ij,h,hc,ha,hl]
theorem cS {n:Nat}{l:List V}{v:V}(h:H[n]?=some (.f l))(hl:l.length<2^20):jE (.y n) v H G=G (H.set n (.f (l++[v]))):=by simp [jE,h,hl]
theorem qa {l:List V}(hl:l.length<2^62):dj .U [.B l] H Q=Q (.j l.length) H:=by simp [dj,hl]
theorem bh {n:Nat}{l:List V}(h:H[n]?=some (.f l)):dj .U [.y n] H Q=Q (.j l.length) H:=by simp [dj,h]
theorem jV {n:Nat}{l:List (V×V)}(h:H[n]?=some (.i l)):dj .U [.y n] H Q=Q (.j l.length) H:=by simp [dj,h]
theorem IP (x:PySem.Str):dj .gV [.F x] H Q=Q (.D true) H:=rfl
theorem IQ (x:Int):dj .gV [.j x] H Q=Q (.D false) H:=rfl
theorem bN {n:Nat}{l:List V}(h:H[n]?=some (.f l)):dK (.y n) H=1:=by simp [dK,h]
theorem sZ {n:Nat}{l:List (V×V)}(h:H[n]?=some (.i l)):dK (.y n) H=2:=by simp [dK,h]
theorem uq {n:Nat}{l:List V}(h:H[n]?=some (.f l))(hl:l.length<2^20):dj .i0 [.y n] H Q=Q (.B l) H:=by simp [dj,h,hl]
end
theorem iv {b:Bool}{p q:Prop}(h1:b=true→p)(h2:b=false→q):if b=true then p else q:=by grind
theorem br {turn:V→En→AH→(Fl→En→AH→Prop)→Prop}{src:Option (Nat×List V)}{K:Fl→En→AH→Prop}(I:List V→En→AH→Prop)
 (step:∀v r env H,I (v::r) env H→dB src H∧∀q:Fl→En→AH→Prop,(∀env H,I r env H→q .a env H∧q .gZ env H)→(∀v env H,K (.bL v) env H→q (.bL v) env H)→turn v env H q)
 (last:∀env H,I [] env H→dB src H∧K .a env H):∀ {l:List V} {env:En} {H:AH},I l env H→iy turn src K l env H:=by
 intro l
 induction l with
 |nil=>trivial
 |cons v r ih=>
  intro env H h
  obtain⟨a,b⟩:=step v r env H h
  exact⟨a,by grind⟩
theorem bW {turn:V→AH→(Option V→AH→Prop)→Prop}{src:Option (Nat×List V)}{acc:Nat}{Q:AH→Prop}(I:List V→List V→AH→Prop)
 (step:∀v r out H,I (v::r) out H→H[acc]?=some (.f out)→dB src H∧out.length<2^20∧∀q:Option V→AH→Prop,(∀H',I r out H'→H'[acc]?=some (.f out)→q none H')→(∀x H',I r (out++[x]) (H'.set acc (.f (out++[x])))→H'[acc]?=some (.f out)→q (some x) H')→turn v H q)
 (last:∀out H,I [] out H→H[acc]?=some (.f out)→dB src H∧Q H):∀ {l out:List V} {H:AH},I l out H→H[acc]?=some (.f out)→gD turn src acc Q l H:=by
 intro l
 induction l with
 |nil=>trivial
 |cons v r ih=>
  intro out H h ha
  obtain⟨a,b,c⟩:=step v r out H h ha
  refine⟨a,c _ (fun H' h' ha'=>ih h' ha') fun x H' h' ha'=>?_⟩
  show jE _ x H' _
  rw [cS H' ha' b]
  apply ih h'
  have:=(List.getElem?_eq_some_iff.mp ha').1
  simp [this]
section
variable (C:z4)(env:En)(H:AH){Q:az}{P:Bool→AH→Prop}{K:Fl→En→AH→Prop}
theorem L5 (e:MX)(x:Nat)(it c:MX):(wX C (.g7 e x it c)).E env H Q=(wX C it).E env H fun v H=>match aG v H with
 |some (l,src)=>gD (fun v H q=>(wX C c).T (env.set x (some v)) H fun r H=>if r=true then(wX C e).E (env.set x (some v)) H fun y H=>q (some y) H else q none H) src H.length (Q (.y H.length)) l (H++[.f []])
 |none=>False:=rfl
theorem JJ (e:MX)(x:Nat)(it c:MX):(wX C (.hX e x it c)).E env H Q=(wX C it).E env H fun v H=>match v with
 | .j n=> -(2^60)≤n∧n<2^60∧gD (fun v H q=>(wX C c).T (env.set x (some v)) H fun r H=>if r=true then(wX C e).E (env.set x (some v)) H fun y H=>q (some y) H else q none H) none H.length (Q (.y H.length)) (ft n) (H++[.f []])
 |_=>False:=rfl
theorem zY (e hi:MX)(h:hi.cE=false):(wX C (.oi e .m hi)).E env H Q=(wX C e).E env H fun x H=>(wX C hi).E env H fun h H=>d7 x none (some h) H Q:=by show((wX C e).E env H fun x H=>if true=true then if hi.cE=true then _ else _ else _)=_;grind
theorem og (e lo:MX)(h:lo.cE=false):(wX C (.oi e lo .m)).E env H Q=(wX C e).E env H fun x H=>(wX C lo).E env H fun l H=>d7 x (some l) none H Q:=by show((wX C e).E env H fun x H=>if lo.cE=true then _ else(wX C lo).E env H fun l H=>if true=true then _ else _)=_;grind
theorem NJ (c:Nat)(l:MX):(wX C (.oj c l)).E env H Q=(wX C l).L env H fun vs H=>match C.Kg c with
 |some f=>C.w f (.y H.length::vs) (H++[.J c []]) fun r H'=>r=.aE∧Q (.y H.length) H'
 |none=>vs=[] ∧Q (.y H.length) (H++[.J c []]):=rfl
theorem NG (e l:MX):(wX C (.xa e l)).E env H Q=(wX C e).E env H fun o H1=>(dK o H1=1∨dK o H1=2)∧(wX C l).L env H1 fun vs H=>dK o H=dK o H1∧ov o vs H Q:=rfl
theorem Nt (o:xc)(l:MX):(wX C (.pO o l)).T env H P=(wX C l).L env H fun vs H=>dj o vs H fun v H=>cY v H fun b=>P b H:=rfl
theorem LK (e:MX)(a:Nat)(l:MX):(wX C (.bJ e a l)).T env H P=(wX C (.bJ e a l)).E env H fun v H=>cY v H fun b=>P b H:=rfl
theorem Nu (o:tX)(a b:MX):(wX C (.hY o a b)).T env H P=(wX C (.hY o a b)).E env H fun v H=>cY v H fun b=>P b H:=rfl
theorem Nx (x:Nat)(e:MX)(b k:MS):wS C (.fq x e b k) env H K=(wX C e).E env H fun v H=>match aG v H with
 |some (l,src)=>iy (fun v env H q=>wS C b (env.set x (some v)) H q) src (fun fl env H=>match fl with| .a=>wS C k env H K|fl=>K fl env H) l env H
 |none=>False:=rfl
theorem LR (x:Nat)(e:MX)(b k:MS):wS C (.jN x e b k) env H K=(wX C e).E env H fun v H=>match v with
 | .j n=> -(2^60)≤n∧n<2^60∧iy (fun v env H q=>wS C b (env.set x (some v)) H q) none (fun fl env H=>match fl with| .a=>wS C k env H K|fl=>K fl env H) (ft n) env H
 |_=>False:=rfl
theorem LW:wS C .gZ env H K=K .gZ env H:=rfl
theorem LQ (k:MS):wS C (.xi k) env H K=wS C k env H K:=rfl
theorem LY (xs:List Nat)(e:MX)(k:MS):wS C (.g8 xs e k) env H K=(wX C e).E env H fun v H=>match v with
 | .B l=>match fo xs l env with|some env=>wS C k env H K|none=>False
 |_=>False:=rfl
theorem LX (o:MX)(a:Nat)(op:tX)(e:MX)(k:MS):wS C (.qT o a op e k) env H K=(wX C o).E env H fun x H=>aX x a H fun y=>(wX C e).E env H fun v H=>match y,v with
 | .j i,.j j=>match zK op i j with|some c=>ij x a (.j c) H fun H=>wS C k env H K|none=>False
 |_,_=>False:=rfl
theorem LU (o lo:MX)(k:MS):wS C (.vz o lo k) env H K=(wX C o).E env H fun x H=>(wX C lo).E env H fun y H=>pA x y H fun H=>wS C k env H K:=rfl
theorem LV (o i:MX)(k:MS):wS C (.qO o i k) env H K=(wX C o).E env H fun x H=>(wX C i).E env H fun y H=>lZ x y H fun H=>wS C k env H K:=rfl
theorem va (t:MX)(b k:MS):wS C (.fN t b k) env H K=∃n,fR (fun env H out q=>(wX C t).T env H fun r H=>if r=true then wS C b env H q else out false env H) (fun fl env H=>match fl with| .a=>wS C k env H K|fl=>K fl env H) n env H:=rfl
end
local macro_rules | `(tactic| simp_arith [$ts,*] $[$loc]?) => `(tactic| simp only [NP, J5, ND, NL, L4, NS, NI, Nm, NK, NQ, Nr, L8, LN, NH, Nl, NM, Np, L7, NF, L6, NN, NO, NR, Nt, NT, NU, zZ, LK, Nu, NB, L1, L9, L0, LP, LO, JG, JF, Nn, Nq, LL, Nk, LM, LS, zT, Nw, Nv, Ny, LZ, tV, LW, LQ, Nx, LR, LY, LX, LU, LV, L5, JJ, NJ, NG, x9, vR, zw, List.set_cons_zero, List.set_cons_succ, List.getElem?_cons_zero, List.getElem?_cons_succ, MX.cE, MX.mJ, eq_self, if_true, if_false, Bool.false_eq_true, ite_true, ite_false, true_and, and_true, dG, pD, zA, si, wV, zx, Nc, OG, OH, OI, Nd, LA, zy, wU, mO, HH, xI, oH, oG, oF, uu, MH, MG, IP, IQ, $ts,*] $[$loc]?)
local macro_rules | `(tactic| simp! [$ts,*] $[$loc]?) => `(tactic| simp_arith [$ts,*] $[$loc]?)
local macro_rules | `(tactic| delta $f:ident) => `(tactic| (refine aC.hV (f := $f) rfl (Nat.le_refl _) (Nat.le_refl _) ?_; simp only [$f:ident, OD, List.length_cons, List.length_nil, Nat.reduceAdd, Nat.reduceSub, List.drop, List.append_nil, List.cons_append, List.nil_append, List.map_cons, List.map_nil, List.replicate]))
structure Tb where
 M:List V
 aH:List V
 Z:List V
 gh:Nat
def dN (rows:List V):List (V×V):=rows.zipIdx.map fun p=>(p.1,V.j (p.2:Int))
def lH:List (Nat×V):=[(0,.y 5),(1,.y 6),(2,.y 7),(3,.y 8),(4,.y 9),(5,.y 10),(6,.y 11),(7,.y 12),(8,.j 0),(9,.j 0)]
def kY:List (Nat×V):=[(27,.y 4),(29,.j 0),(30,.j 200),(31,.j 40),(32,.aE)]
structure aY (H:AH) (τ:Tb):Prop where
 J:H[4]?=some (.J 1 lH)
 M:H[5]?=some (.f τ.M)
 i8:H[6]?=some (.i (dN τ.M))
 aH:H[7]?=some (.f τ.aH)
 Z:H[8]?=some (.f τ.Z)
 dQ:∃l,H[9]?=some (.f l)∧l.length=τ.Z.length
 names:∃l,H[10]?=some (.f l)∧l.length=τ.Z.length
 Mk:∃l:List Int,H[2]?=some (.f (l.map V.j))
 d:H[3]?=some (.f [.j (τ.gh:Int),.y 2])
 dZ:H[16]?=some (.J 6 kY)
 jK:H[18]?=some (.i [(.j 2,.y 25)])
 sI:H[25]?=some (.J 7 [])
 bG:∀r∈τ.M,r.aS=3
 W:τ.M.Nodup
def bj (τ:Tb)(t:Int)(l:List V):Prop:=0≤t∧t<2^40∧τ.M[t.toNat]?=some (.B l)
structure iY (H H':AH):Prop where
 kp:∀i o,H[i]?=some o→(i<5∨10<i)→H'[i]?=some o
 U:H.length≤H'.length
theorem iY.aD (H:AH):iY H H:=⟨by simp_all,by simp⟩
theorem iY.trans {H H1 H2:AH}(a:iY H H1)(b:iY H1 H2):iY H H2:=⟨fun i o e h=>b.kp i o (a.kp i o e h) h,Nat.le_trans a.U b.U⟩
theorem af {H:AH}{i:Nat}{o x:ag}(e:H[i]?=some o):(H++[x])[i]?=some o:=by grind
theorem ae {H:AH}{x:ag} :(H++[x])[H.length]?=some x:=by simp
theorem aa {H:AH}{i j:Nat}{o x:ag}(e:H[i]?=some o)(h:i≠j):(H.set j x)[i]?=some o:=by grind
theorem aj {H:AH}{i:Nat}{o x:ag}(e:H[i]?=some o):(H.set i x)[i]?=some x:=by grind
theorem aM {H:AH}{i:Nat}{o:ag}(e:H[i]?=some o):i<H.length:=(List.getElem?_eq_some_iff.mp e).1
theorem iY.Y (H:AH)(x:ag):iY H (H++[x]):=⟨by grind,by simp⟩
theorem iY.set {H H1:AH}(a:iY H H1){g:Nat}(x:ag)(hg:H.length≤g):iY H (H1.set g x):=
 ⟨fun i o e h=>aa (a.kp i o e h) (by have:=aM e;omega),by simpa using a.U⟩
theorem aY.U {H:AH}{τ:Tb}(h:aY H τ):26≤H.length:=aM h.sI
theorem aY.of {H H':AH}{τ:Tb}(h:aY H τ)(k:∀i o,H[i]?=some o→i<17∨i=18∨i=25→H'[i]?=some o):aY H' τ:=
 ⟨k _ _ h.J (by omega),k _ _ h.M (by omega),k _ _ h.i8 (by omega),k _ _ h.aH (by omega),k _ _ h.Z (by omega),let⟨l,a,b⟩:=h.dQ;⟨l,by simp_all,b⟩,let⟨l,a,b⟩:=h.names;⟨l,by simp_all,b⟩,let⟨l,a⟩:=h.Mk;⟨l,by simp_all⟩,k _ _ h.d (by omega),k _ _ h.dZ (by omega),k _ _ h.jK (by omega),k _ _ h.sI (by omega),h.bG,h.W⟩
theorem aY.Y {H:AH}{τ:Tb}(h:aY H τ)(x:ag):aY (H++[x]) τ:=h.of (by grind)
theorem aY.set {H:AH}{τ:Tb}(h:aY H τ){g:Nat}(x:ag)(hg:26≤g):aY (H.set g x) τ:=h.of (by grind)
section
variable {H:AH}{τ:Tb}{F:V→Prop}
theorem aY.bx (h:aY H τ):aX (.y 4) 0 H F=F (.y 5):=bO H h.J (by simp) (by rfl) rfl
theorem aY.Kj (h:aY H τ):aX (.y 4) 1 H F=F (.y 6):=bO H h.J (by simp) (by rfl) rfl
theorem aY.Kk (h:aY H τ):aX (.y 4) 2 H F=F (.y 7):=bO H h.J (by simp) (by rfl) rfl
theorem aY.ue (h:aY H τ):aX (.y 4) 3 H F=F (.y 8):=bO H h.J (by simp) (by rfl) rfl
theorem aY.cK (h:aY H τ):aX (.y 16) 27 H F=F (.y 4):=bO H h.dZ (by simp) (by rfl) rfl
theorem pQ {l:List V}{i:Int}{v:V}(h0:0≤i)(h1:i<2^40)(h:l[i.toNat]?=some v):aF (.B l) (.j i) H F=F v:=by have:=(Int.toNat_of_nonneg h0).symm;rw [this];exact cz H h (by omega)
theorem aY.I (h:aY H τ){t:Int}{l:List V}(hr:bj τ t l):aF (.y 5) (.j t) H F=F (.B l):=by rw [aA H t h.M];exact pQ hr.1 hr.2.1 hr.2.2
theorem yt {rows:List V}(hn:rows.Nodup)(n:Nat){i:Nat}{r:V}(e:rows[i]?=some r):bR r ((rows.zipIdx n).map fun p=>(p.1,V.j (p.2:Int)))=some (.j ((n+i:Nat):Int)):=by
 induction rows generalizing n i with
 |nil=>trivial
 |cons a rows ih=>rw [List.zipIdx_cons];unfold bR;grind
theorem oV {rows:List V}(n:Nat){r:V}(e:r∉rows):bR r ((rows.zipIdx n).map fun p=>(p.1,V.j (p.2:Int)))=none:=by
 induction rows generalizing n with
 |nil=>rfl
 |cons a rows ih=>rw [List.zipIdx_cons];unfold bR;grind
theorem mD {es:List (V×V)}{k v:V}(h:bR k es=none):eA k v es=es++[(k,v)] :=by
 induction es with
 |nil=>rfl
 |cons e r ih=>
  unfold bR at h;split at h
  ·cases h
  ·unfold eA;simp_all
theorem nz (rows:List V)(r:V):dN (rows++[r])=dN rows++[(r,.j (rows.length:Int))] :=by unfold dN;grind
theorem rH {rows:List V}{e:V×V}(h:e∈dN rows):e.1∈rows:=by unfold dN at h;grind
theorem uM (rows:List V):(dN rows).length=rows.length:=by unfold dN;simp
theorem aY.oB (h:aY H τ){k:V}(hk:k.aS=3):bI k (dN τ.M):=⟨by omega,fun e he=>by rw [h.bG _ (rH he),hk]⟩
end
structure au (c:Nat) (H H':AH) (τ τ':Tb):Prop where
 R:aY H' τ'
 M:∃x,τ'.M=τ.M++x∧x.length≤c
 aH:τ'.aH=τ.aH
 Z:τ'.Z=τ.Z
 gh:τ'.gh=τ.gh
 N:iY H H'
theorem au.aD {c:Nat}{H:AH}{τ:Tb}(h:aY H τ):au c H H τ τ:=⟨h,by simp,rfl,rfl,rfl,.aD _⟩
theorem au.trans {c d e:Nat}{H H1 H2:AH}{τ τ1 τ2:Tb}(a:au c H H1 τ τ1)(b:au d H1 H2 τ1 τ2)(he:c+d≤e):au e H H2 τ τ2:=by obtain⟨x,hx,lx⟩:=a.M;obtain⟨y,hy,ly⟩:=b.M;exact⟨b.R,by grind,b.aH.trans a.aH,b.Z.trans a.Z,b.gh.trans a.gh,a.N.trans b.N⟩
theorem au.le {c d:Nat}{H H':AH}{τ τ':Tb}(a:au c H H' τ τ')(h:c≤d):au d H H' τ τ':=⟨a.R,let⟨x,p,q⟩:=a.M;⟨x,p,by omega⟩,a.aH,a.Z,a.gh,a.N⟩
theorem au.U {c:Nat}{H H':AH}{τ τ':Tb}(a:au c H H' τ τ'):τ.M.length≤τ'.M.length∧τ'.M.length≤τ.M.length+c:=by obtain⟨x,hx,lx⟩:=a.M;simp_all
theorem au.I {c:Nat}{H H':AH}{τ τ':Tb}(a:au c H H' τ τ'){t:Int}{l:List V}(h:bj τ t l):bj τ' t l:=by obtain⟨x,hx,_⟩:=a.M;refine⟨h.1,h.2.1,?_⟩;rw [hx,List.getElem?_append_left (List.getElem?_eq_some_iff.mp h.2.2).1];exact h.2.2
theorem au.Y {c:Nat}{H H':AH}{τ τ':Tb}(a:au c H H' τ τ')(x:ag):au c H (H'++[x]) τ τ':=⟨a.R.Y x,a.M,a.aH,a.Z,a.gh,a.N.trans (.Y _ _)⟩
theorem au.set {c:Nat}{H H':AH}{τ τ':Tb}(a:au c H H' τ τ')(h:aY H τ){g:Nat}(x:ag)(hg:H.length≤g):au c H (H'.set g x) τ τ':=⟨a.R.set x (Nat.le_trans h.U hg),a.M,a.aH,a.Z,a.gh,a.N.set x hg⟩
theorem fb {H:AH}{τ:Tb}{l:List V}{Q:az}(h:aY H τ)(hl:(V.B l).aS=3)(hn:τ.M.length<2^19)(q:∀H' τ' i,au 1 H H' τ τ'→bj τ' i l→Q (.j i) H'):X.w 1 3 [.y 4,.B l] H Q:=by
 delta eH;simp! [h.Kj];have hk:=h.oB hl;by_cases hm:V.B l∈τ.M
 ·obtain⟨i,hi⟩:=List.mem_iff_getElem?.mp hm;have hlk':bR (.B l) (dN τ.M)=some (.j (i)):=by rw [show dN _=(τ.M.zipIdx 0).map _ from rfl,yt h.W 0 hi];simp
  have e1:∀ {B:Bool→Prop},aI .jm (.B l) (.y 6) H B=B true:=fun{B} =>by show jH _ (.y 6) H B=_;simp [jH,h.i8,hk,hlk']
  have e2:∀ {F:V→Prop},aF (.y 6) (.B l) H F=F (.j (i)):=fun{F} =>by simp [aF,h.i8,hk,hlk']
  have hil:=(List.getElem?_eq_some_iff.mp hi).1;simp [e1];simp! [e2];exact q H τ i (.aD h) ⟨by omega,by omega,by trivial⟩
 ·have hlk':bR _ (dN _)=none:=oV 0 hm;have e1:∀ {B:Bool→Prop},aI .jm (.B l) (.y 6) H B=B false:=fun{B} =>by show jH _ (.y 6) H B=_;simp [jH,h.i8,hk,hlk']
  simp! [e1,h.bx,bh H h.M,bN H h.M,cS H h.M (Nat.lt_trans hn (by decide))];have h1:(H.set 5 (.f (τ.M++[.B l])))[4]?=some _:=aa h.J (by decide);have h2:(H.set 5 (.f (τ.M++[.B l])))[6]?=some _:=aa h.i8 (by decide);have e3:∀ {F:V→Prop},aX _ 1 _ F=F _:=fun{F} =>bO _ h1 (by decide) (by decide) rfl;have e4:∀ {G:AH→Prop},cD (.y 6) (.B l) _ (H.set 5 (.f (τ.M++[.B l]))) G=G ((H.set 5 _).set 6 (.i (dN _))):=fun{G} =>by simp [cD,h2,hk,uM,show τ.M.length<2^20 from Nat.lt_trans hn _];rw [mD hlk',nz]
  simp! [e3,e4];refine q _ ⟨_,_,_,τ.gh⟩ _ ⟨⟨aa h1 (by decide),aa (aj h.M) (by decide),aj h2,aa (aa h.aH (by decide)) (by decide),aa (aa h.Z (by decide)) (by decide),by obtain⟨x,a,b⟩:=h.dQ;exact⟨x,aa (aa a (by simp)) (by simp),b⟩,by obtain⟨x,a,b⟩:=h.names;exact⟨x,aa (aa a (by simp)) (by simp),b⟩,by obtain⟨x,a⟩:=h.Mk;exact⟨x,aa (aa a (by simp)) (by simp)⟩,aa (aa h.d (by decide)) (by decide),aa (aa h.dZ (by decide)) (by decide),aa (aa h.jK (by decide)) (by decide),aa (aa h.sI (by decide)) (by decide),?_,List.nodup_append.mpr ⟨h.W,by simp,fun a ha b hb=>by grind⟩⟩,⟨[.B l],rfl,Nat.le_refl _⟩,rfl,rfl,rfl,⟨fun i o e hi=>aa (aa e (by omega)) (by omega),by simp⟩⟩ ⟨by omega,by omega,by simp⟩
  ·intro r hr;rcases List.mem_append.mp hr with hr|hr
   ·exact h.bG r hr
   ·simp at hr;subst hr;omega
abbrev zs (l:List Int):List V:=l.map V.j
section
variable {H:AH}{τ:Tb}{Q:az}{n:Nat}
inductive cp (τ:Tb):Int→List Int→Prop
 |o:cp τ 2 []
 |ba {t:Int} {l:List Int} :t≠2→2≤l.length→bj τ t [.j 6,.B (zs l)] →cp τ t l
 |mn {t k:Int} {r:List V} :t≠2→k≠6→bj τ t (.j k::r)→cp τ t [t]
theorem eQ {t:Int}{l:List Int}(h:aY H τ)(hp:cp τ t l)(q:Q (.B (zs l)) H):X.w (n+1) 8 [.y 4,.j t] H Q:=by
 delta nJ;cases hp with
 |o=>trivial
 |ba h1 _ h2=>simp! [h1,h.bx,h.I h2,decide_true,decide_false];omega
 |mn h1 h2 h3=>simp! [h1,h2,h.bx,h.I h3];exact q
def mN (row:List V):Int:=match row with
 |V.j k::r=>if k=3∨k=18 then 6 else if k=4 then 7 else if k=5 then(match r[2]? with|some (V.F _)=>6|_=>7) else-1
 |_=> -1
theorem um {k:Int}{r:List V}(h5:k=5→∃a b v r',r=a::b::v::r'∧((∃x,v=.F x)∨∃x,v=.j x))(q:Q (.j (mN (.j k::r))) H):X.w (n+1) 9 [.B (.j k::r)] H Q:=by
 delta iB;simp! [];unfold mN at q;simp at q;simp;split
 ·grind
 ·split
  ·grind
  ·rw [if_neg (by omega)] at q;split
   ·grind
   ·rename_i e3;rw [if_neg e3] at q;split
    ·rename_i e;rw [if_pos e] at q;obtain⟨a,b,v,r',rfl,hv⟩:=h5 e;rcases hv with⟨x,rfl⟩|⟨x,rfl⟩
     ·trivial
     trivial
    grind
def dH (r:List V):Prop:=∃k r',r=.j k::r'∧(k∈ [2,3,4,5,8] →∃j,r.getLast?=some (.j j)∧j≠1)
theorem sP {t:Int}{r:List V}(h:aY H τ)(hr:bj τ t r)(hs:dH r)(q:Q (.j (-1)) H):X.w (n+1) 10 [.y 4,.j t] H Q:=by
 delta iF;obtain⟨k,r',rfl,hs⟩:=hs;have e:∀ {B:Bool→Prop},gb _ [.j 2,.j 3,.j 4,.j 5,.j 8] B=B _:=aR k [2,3,4,5,8];simp! [h.bx,h.I hr,e];by_cases hk:k∈ [2,3,4,5,8]
 ·obtain⟨j,hj,h1⟩:=hs hk;rw [if_pos (by simp_all)];simp! [q6 H hj,h1,decide_false];omega
 grind
def dc (es:List (V×V))(ks:List Int):Prop:=es.map (·.1)=zs ks∧ks.Nodup
theorem dc.m:dc [] [] :=⟨rfl,by simp⟩
theorem dc.oB {es:List (V×V)}{ks:List Int}(h:dc es ks)(i:Int):bI (.j i) es:=by refine⟨by simp [V.aS],fun e he=>?_⟩;have:=h.1▸List.mem_map_of_mem he;obtain⟨j,_,e⟩:=List.mem_map.mp this;rw [←e];rfl
theorem lK {es:List (V×V)}{k:V} :(bR k es).isSome=decide (k∈es.map (·.1)):=by
 induction es with
 |nil=>rfl
 |cons e r ih=>unfold bR;grind
theorem rq {es:List (V×V)}{k v:V} :(eA k v es).map (·.1)=if k∈es.map (·.1) then es.map (·.1) else es.map (·.1)++[k] :=by
 induction es with
 |nil=>rfl
 |cons e r ih=>unfold eA;grind
theorem dc.Mp {es:List (V×V)}{ks:List Int}(h:dc es ks)(i:Int):(bR (.j i) es).isSome=decide (i∈ks):=by rw [lK,h.1];simp
theorem dc.NX {es:List (V×V)}{ks:List Int}(h:dc es ks)(i:Int)(v:V):∃ks',dc (eA (.j i) v es) ks'∧(∀j,j∈ks'↔j∈ks∨j=i)∧ks'.length≤ks.length+1:=by
 by_cases hm:i∈ks
 ·exact⟨ks,⟨by rw [rq,h.1,if_pos (by simp_all)],h.2⟩,by grind,by omega⟩
 ·exact⟨ks++[i],⟨by rw [rq,h.1,if_neg (by simp_all)];simp,List.nodup_append.mpr ⟨h.2,by simp,by grind⟩⟩,by simp,by simp⟩
theorem dc.xj {es:List (V×V)}{ks:List Int}(h:dc es ks):iw (es.map (·.1))=some ks:=by
 rw [h.1];clear h;induction ks with
 |nil=>rfl
 |cons a r ih=>show(H31.iw _).map _=_;simp_all
theorem dc.U {es:List (V×V)}{ks:List Int}(h:dc es ks):es.length=ks.length:=by have:=congrArg List.length h.1;simp_all
section
variable {g:Nat}{es:List (V×V)}{ks:List Int}
theorem qf (hg:H[g]?=some (.i es))(hk:dc es ks)(i:Int){B:Bool→Prop} :aI .jm (.j i) (.y g) H B=B (decide (i∈ks)):=by show jH _ (.y g) H B=_;simp [jH,hg,hk.oB i,hk.Mp i]
theorem yk (hg:H[g]?=some (.i es))(hk:dc es ks)(i:Int){B:Bool→Prop} :aI .ub (.j i) (.y g) H B=B (!decide (i∈ks)):=by show jH _ (.y g) H _=_;simp [jH,hg,hk.oB i,hk.Mp i]
theorem MC (hg:H[g]?=some (.i es))(hk:dc es ks)(q:Q (.j (if 0∈ks then 0 else if 13∈ks then 13 else if 1∈ks then 1 else-1)) H):X.w (n+1) 13 [.y g] H Q:=by delta rO;simp! [aG,iy,dB,qf hg hk];grind
theorem K7 (hg:H[g]?=some (.i es))(hk:dc es ks)(h1:8∉ks)(h2:14∉ks)(q:Q .aE H):X.w (n+1) 11 [.y g] H Q:=by delta kq;simp! [qf hg hk,h1,h2,decide_false];omega
structure zU (r:List V):Prop where
 t8:dH r
 Mt:∀k r',r=.j k::r'→k=5→∃a b v r'',r'=a::b::v::r''∧((∃x,v=.F x)∨∃x,v=.j x)
theorem HJ {t:Int}{r:List V}(h:aY H τ)(hg:H[g]?=some (.i es))(hk:dc es ks)(hr:bj τ t r)(hp:zU r)(hn: -1∉ks)(q:Q (.D (!decide (mN r∈ks))) H):X.w (n+2) 12 [.y 4,.y g,.j t] H Q:=by apply aC.hV rfl (Nat.le_refl _) (Nat.le_refl _);show wS _ _ [some _,some _,some _] _ _;apply sP h hr hp.t8;simp! [qf hg hk,hn,h.bx,h.I hr];obtain⟨k,r',rfl,_⟩:=hp.t8;apply um (hp.Mt k r' rfl);simp! [yk hg hk];omega
end
end
def bu:List V:=[.B [.j 1,.F (m "any")],.B [.j 1,.F (m "unknown")],.B [.j 1,.F (m "never")],.B [.j 1,.F (m "void")],.B [.j 1,.F (m "undefined")],.B [.j 1,.F (m "null")],.B [.j 1,.F (m "string")],.B [.j 1,.F (m "number")],.B [.j 2,.j 0,.j 0],.B [.j 2,.j 1,.j 0],.B [.j 1,.F (m "object")],.B [.j 8,.B [],.B [],.B [],.B [],.B [],.j 0],.B [.j 6,.B [.j 8,.j 9]],.B [.j 1,.F (m "error")],.B [.j 2,.j 0,.j 1],.B [.j 2,.j 1,.j 1]]
def du (τ:Tb):Prop:=∃x,τ.M=bu++x
theorem du.I {τ:Tb}(h:du τ){t:Int}{l:List V}(h0:0≤t)(h1:t<16)(e:bu[t.toNat]?=some (.B l)):bj τ t l:=by obtain⟨x,hx⟩:=h;refine⟨h0,by omega,?_⟩;grind
theorem au.cR {c:Nat}{H H':AH}{τ τ':Tb}(a:au c H H' τ τ')(h:du τ):du τ':=by obtain⟨x,hx⟩:=h;obtain⟨y,hy,_⟩:=a.M;exact⟨x++y,by grind⟩
theorem bj.bE {τ:Tb}{t:Int}{l l':List V}(h:bj τ t l)(h':bj τ t l'):l=l':=by have:=h.2.2.symm.trans h'.2.2;simp_all
def vg (H:AH)(v:V)(l:List V):Prop:=v=.B l∨∃k,v=.y k∧10<k∧H[k]?=some (.f l)
theorem vg.N6 {H H1:AH}{v:V}{l:List V}(h:vg H v l)(a:iY H H1):∃src,aG v H1=some (l,src)∧∀H2,iY H H2→dB src H2:=by
 rcases h with rfl|⟨k,rfl,hk,e⟩
 ·exact⟨_,rfl,fun _ _=>trivial⟩
 ·refine⟨some (k,l),?_,fun H2 a2=>a2.kp k _ e (.inr hk)⟩;simp [aG,a.kp k _ e (.inr hk)]
inductive lB (τ:Tb):List Int→List Int→Prop
 |m:lB τ [] []
 |cons {t:Int} {l r s:List Int} :cp τ t l→lB τ r s→lB τ (t::r) (l++s)
structure vb (τ:Tb) (i:Int):Prop where
 I:∃r,bj τ i r∧zU r∧∃k r',r=.j k::r'∧k≠6
 no:i≠0∧i≠2∧i≠8∧i≠13∧i≠14
def dU (τ:Tb)(i:Int):Int:=match τ.M[i.toNat]? with
 |some (V.B l)=>mN l
 |_=> -1
theorem bj.tZ {τ:Tb}{t:Int}{l:List V}(h:bj τ t l):dU τ t=mN l:=by unfold dU;rw [h.2.2]
structure NC (τ:Tb) (all l:List Int):Prop where
 dO:l.Pairwise (·< ·)
 kK:∀i,i∈l↔i∈all∧dU τ i∉all
theorem rf {l:List Int}(h:l.Nodup):(l.mergeSort fun a b=>decide (a≤b)).Pairwise (·< ·):=by have h2:(l.mergeSort fun a b=>decide (a≤b)).Nodup:=(List.mergeSort_perm l _).nodup_iff.mpr h;exact((List.pairwise_mergeSort (le:=fun a b=>decide (a≤b)) (by grind) (by grind) l).and h2).imp (by grind)
theorem ng {n:Nat} :(X.b n).bJ 1 10=some 3:=rfl
theorem uP (n:Nat)(l:List Int):(zs l).all (V.e n)=true:=by
 induction l with
 |nil=>rfl
 |cons a r ih=>simp only [List.map_cons,List.all_cons,Bool.and_eq_true];exact⟨by cases n<;>rfl,ih⟩
theorem tv (l:List Int):(V.B [.j 6,.B (zs l)]).aS=3:=by
 have:(V.B [.j 6,.B (zs l)]).bG=true:=by show(V.e 3 (.j 6)&&(V.e 3 _&&true))=true;have e:V.e 3 (.B _)=true:=uP 2 l;rw [e];rfl
 show(if(V.B _).bG then 3 else 0)=3;simp_all
theorem HE {H:AH}{τ:Tb}{Q:az}{n:Nat}{v:V}{ids all:List Int}(h:aY H τ)(hstd:du τ)(hv:vg H v (zs ids))(hp:lB τ ids all)(hpl:∀i∈all,vb τ i)(hlen:all.length<64)(hn:τ.M.length<2^19)
 (q1:1∈all→∀H',au 1 H H' τ τ→Q (.j 1) H')
 (q2:1∉all→∀H' τ' t l,au 1 H H' τ τ'→NC τ all l→cp τ' t l→Q (.j t) H'):X.w (n+3) 14 [.y 4,v] H Q:=by
 delta uR
 simp! []
 have hg0:au 0 H (H++[.i []]) τ τ:=(au.aD h).Y _
 obtain⟨src,hi,hst⟩:=hv.N6 hg0.N
 rw [hi]
 refine br (fun vs env H1=>∃ids' M es ks a b,vs=zs ids'∧lB τ ids' M∧env=[some (.y 4),some v,some (.y H.length),a,b,none,none,none] ∧H1[H.length]?=some (.i es)∧dc es ks∧(∀i,i∈all↔i∈ks∨i∈M)∧ks.length+M.length≤all.length∧au 0 H H1 τ τ) ?_ ?_
  ⟨ids,all,[],[],none,none,rfl,hp,rfl,ae,.m,fun i=>by simp,by simp,hg0⟩
 ·rintro _ r _ H1 ⟨ids',M,es,ks,a,b,e,hpm,rfl,hg,hk,hall,hl,G1⟩;refine⟨hst _ G1.N,fun q qn _=>?_⟩;cases hpm with
  |m=>cases e
  |cons hpt hpr=>
   rename_i t L ids' S;cases e;apply eQ G1.R hpt;refine br (fun vs env H2=>∃L' es ks b,vs=zs L'∧env=[some _,some v,some _,some _,b,none,none,none] ∧H2[H.length]?=some (.i es)∧dc es ks∧(∀i,i∈all↔i∈ks∨i∈L'∨i∈S)∧ks.length+L'.length+S.length≤all.length∧au 0 H H2 τ τ) ?_ ?_
    ⟨L,es,ks,b,rfl,rfl,hg,hk,fun i=>by rw [hall i];simp,by simp at hl;omega,G1⟩
   ·rintro _ r2 _ H2 ⟨L',es2,ks2,b2,e2,rfl,hg2,hk2,hall2,hl2,G2⟩;refine⟨trivial,fun q qn2 _=>?_⟩;cases L' with
    |nil=>cases e2
    |cons i L'=>
     cases e2;obtain⟨ks',hk',hm',hl'⟩:=hk2.NX i _;have es_lt:es2.length<2^20:=by rw [hk2.U];omega
     have e3:∀ {G:AH→Prop},cD (.y H.length) (.j i) (.j 1) H2 G=G (H2.set H.length (.i (eA (.j i) (.j 1) es2))):=fun{G} =>by simp [cD,hg2,hk2.oB i,es_lt]
     simp! [e3];refine(qn2 _ _ ⟨L',_,ks',_,rfl,rfl,aj hg2,hk',fun j=>?_,by simp at hl2;omega,G2.set h _ (by simp)⟩).1;rw [hall2 j,hm' j];simp;constructor
     ·rintro(a|(a|a)|a)
      ·simp [*]
      ·omega
      ·simp [*]
      simp [*]
     ·rintro((a|a)|a|a)
      ·simp [*]
      ·omega
      ·exact .inr (.inl (.inr a))
      simp [*]
   ·rintro _ H2 ⟨L',es2,ks2,b2,e2,rfl,hg2,hk2,hall2,hl2,G2⟩;have:L'=[] :=by cases L'<;>first|rfl|cases e2
    subst this;exact⟨trivial,(qn _ _ ⟨ids',S,es2,ks2,_,_,rfl,hpr,rfl,hg2,hk2,fun j=>by rw [hall2 j];simp,by omega,G2⟩).1⟩
 ·rintro _ H1 ⟨ids',M,es,ks,a,b,e,hpm,rfl,hg,hk,hall,hl,G1⟩;refine⟨hst _ G1.N,?_⟩;have:ids'=[] :=by cases ids'<;>first|rfl|cases e
  subst this;cases hpm;have hall':∀i,i∈ks↔i∈all:=fun i=>by rw [hall i];simp
  have nk:∀i,i∉all→i∉ks:=fun i h h'=>h ((hall' i).mp h');have no:∀ {i},(i=0∨i=2∨i=8∨i=13∨i=14)→i∉ks:=fun{i} hi h'=>by have:=(hpl i ((hall' i).mp h')).no;omega
  simp! [];refine MC hg hk ?_;rw [if_neg (no (by simp)),if_neg (no (by simp))];by_cases h1:1∈all
  ·rw [if_pos ((hall' 1).mpr h1)];exact q1 h1 _ (G1.le (by omega))
  rw [if_neg (nk 1 h1)];refine K7 hg hk (no (by simp)) (no (by simp)) ?_;have hso:dj .dO [.y H.length] H1=fun Q=>Q (.y H1.length) (H1++[.f ((ks.mergeSort fun a b=>decide (a≤b)).map V.j)]):=by funext Q;simp [dj,hg,hk.xj,hk.U,show ks.length<64 by omega]
  simp! [hso];have hit:aG (.y H1.length) (H1++[.f ((ks.mergeSort fun a b=>decide (a≤b)).map V.j)])=some (zs (ks.mergeSort fun a b=>decide (a≤b)),some (H1.length,zs (ks.mergeSort fun a b=>decide (a≤b)))):=by simp only [aG,ae]
  rw [hit];simp only;generalize hsk:(ks.mergeSort _)=sk;have hskm:∀i,i∈sk↔i∈all:=fun i=>by rw [←hsk,←hall' i];simp
  have hsks:sk.Pairwise (·< ·):=by rw [←hsk];exact rf hk.2
  have G2:au 0 H (H1++[.f (zs sk)]) τ τ:=G1.Y _;have hlen2:(H1++[ag.f (zs sk)]).length=H1.length+1:=by simp
  refine bW (fun rest out H3=>∃done rest',rest=zs rest'∧sk=done++rest'∧out=zs (done.filter fun i=> !decide (dU τ i∈all))∧H3[H1.length]?=some (.f (zs sk))∧H3[H.length]?=some (.i es)∧au 0 H H3 τ τ) ?_ ?_ (out:=[]) ⟨[],sk,rfl,rfl,rfl,af ae,af (af hg),G2.Y _⟩ (by rw [hlen2];simp)
  ·rintro _ r out H3 ⟨done,rest',e,hsd,rfl,hl3,hg3,G3⟩ ha3;have hsl:sk.length≤64:=by rw [←hsk,List.length_mergeSort];omega
   refine⟨hl3,?_,fun q qn qs=>?_⟩
   ·have:=congrArg List.length hsd;have h2:=List.length_filter_le (fun i=> !decide (dU τ i∈all)) done;simp at this ⊢;omega
   cases rest' with
   |nil=>cases e
   |cons i rest'=>
    cases e;have him:=(hskm i).mp (by simp [*]);obtain⟨row,hrow,hplain,_⟩:=(hpl i him).I;refine HJ G3.R hg3 hk hrow hplain (fun h'=>?_) ?_
    ·obtain⟨_,⟨h0,_⟩,_⟩:=(hpl _ ((hall' _).mp h')).I;omega
    have hdec:(!decide (dU τ i∈all))= !decide (mN row∈ks):=by rw [hrow.tZ];congr 2;exact propext (hall' _).symm
    exact iv (fun hb=>by refine qs _ _ ⟨done++[i],rest',rfl,by simp [*],?_,aa hl3 (by simp),aa hg3 (by have:=aM hg;simp;omega),G3.set h _ (by have:=G1.N.U;simp;omega)⟩ ha3;rw [List.filter_append,List.filter_cons_of_pos (by rw [hdec];omega)];simp) (fun hb=>by refine qn _ ⟨done++[i],rest',rfl,by simp [*],?_,hl3,hg3,G3⟩ ha3;rw [List.filter_append,List.filter_cons_of_neg (by rw [hdec,hb];simp)];simp)
  ·rintro out H3 ⟨done,rest',e,hsd,rfl,hl3,hg3,G3⟩ ha3;have:rest'=[] :=by cases rest'<;>first|rfl|cases e
   subst this;rw [List.append_nil] at hsd;subst hsd;refine⟨hl3,?_⟩;have hkept:NC τ all (sk.filter fun i=> !decide (dU τ i∈all)):=⟨hsks.filter _,fun i=>by rw [List.mem_filter,hskm i];simp⟩;generalize hkl:(sk.filter _)=kl at ha3 hkept;have hkll:kl.length<64:=by
    have:=List.length_filter_le (fun i=> !decide (dU τ i∈all)) sk;rw [hkl] at this;have h2:sk.length=ks.length:=by rw [←hsk,List.length_mergeSort]
    omega
   have etr:∀ {B:Bool→Prop},cY (.y (H1++[ag.f (zs sk)]).length) H3 B=B (!(zs kl).isEmpty):=fun{B} =>by simp only [cY,ha3]
   simp! [etr];cases kl with
   |nil=>exact q2 h1 _ _ 2 [] (G3.le (by omega)) hkept .o
   |cons x kl=>
    have hx:=((hkept.kK x).mp (by simp)).1;simp! [bh _ ha3];cases kl with
    |nil=>simp! [aA _ 0 ha3];obtain⟨row,hrow,_,k,r',rfl,hk6⟩:=(hpl x hx).I;exact q2 h1 _ _ x [x] (G3.le (by omega)) hkept (.mn (hpl x hx).no.2.1 hk6 hrow)
    |cons y kl=>
     have e2:decide (((zs (x::y::kl)).length:Int)>400)=false:=by simp at hkll ⊢;omega
     have e3:=G3.R.J;simp! [e2,uq _ ha3 (by simp at hkll ⊢;omega),e3];refine⟨by simp,rfl,X.x (fb G3.R (tv _) hn fun H' τ' t G4 hrow=>?_) (by omega)⟩;have hne:t≠2:=by rintro rfl;cases hrow.bE ((G4.cR hstd).I (by simp) (by simp) rfl)
     exact q2 h1 _ _ t _ (G3.trans G4 (by omega)) hkept (.ba hne (by simp) hrow)
def aQ:List (List V):=[[.j 1,.F (m "undefined")],[.j 1,.F (m "null")],[.j 2,.j 1,.j 0],[.j 4,.j 0,.j 0],[.j 4,.j 1,.j 0],[.j 1,.F (m "number")],[.j 3,.F (m "p"),.j 0],[.j 3,.F (m "q"),.j 0],[.j 3,.F (m "0"),.j 0],[.j 1,.F (m "string")],[.j 1,.F (m "unknown")],[.j 5,.j 1,.F (m "A"),.F (m "p"),.j 0],[.j 3,.F (m "NaN"),.j 0],[.j 3,.F (m "01"),.j 0],[.j 4,.j (-1),.j 0],[.j 3,.F (m "z"),.j 0]]
def bt (a:Nat):List V:=aQ.getD a []
structure At (τ:Tb) (i:Int) (a:Nat):Prop where
 lt:a<16
 I:bj τ i (bt a)
theorem At.dJ {c:Nat}{H H':AH}{τ τ':Tb}{i:Int}{a:Nat}(h:At τ i a)(g:au c H H' τ τ'):At τ' i a:=⟨h.lt,g.I h.I⟩
theorem sv:∀a<16,∀b<16,bt a=bt b→a=b:=by decide+kernel
theorem bj.inj {τ:Tb}(hn:τ.M.Nodup){i j:Int}{l:List V}(h:bj τ i l)(h':bj τ j l):i=j:=by
 have a:=h.2.2;have b:=h'.2.2;have:i.toNat=j.toNat:=by exact(List.getElem?_inj (List.getElem?_eq_some_iff.mp a).1 hn).mp (by simp_all)
 have:=h.1;have:=h'.1;omega
theorem At.bE {τ:Tb}{i:Int}{a b:Nat}(h:At τ i a)(h':At τ i b):a=b:=sv a h.lt b h'.lt (h.I.bE h'.I)
theorem At.inj {H:AH}{τ:Tb}{i j:Int}{a:Nat}(t:aY H τ)(h:At τ i a)(h':At τ j a):i=j:=h.I.inj t.W h'.I
def rM:Nat→Option Int
 |0=>some 4|1=>some 5|2=>some 9|5=>some 7|9=>some 6|10=>some 1|_=>none
theorem du.at {τ:Tb}(h:du τ){a:Nat}{i:Int}(e:rM a=some i):At τ i a:=by unfold rM at e;split at e<;>cases e;all_goals exact⟨by simp,h.I (by simp) (by simp) rfl⟩
theorem bV {H:AH}{τ:Tb}(t:aY H τ)(s:du τ){a b:Nat}{i j:Int}(h:At τ i a)(e:rM b=some j):i=j↔a=b:=
 ⟨fun q=>by subst q;exact h.bE (s.at e),fun q=>by subst q;exact h.inj t (s.at e)⟩
def gu:List Int:=[0,2,3,8,10,11,12,13,14,15]
theorem rA:∀a<16,∀i∈ [0,2,3,8,10,11,12,13,14,15],bu[i]?≠some (.B (bt a)):=by decide+kernel
theorem At.no {τ:Tb}{i:Int}{a:Nat}(s:du τ)(h:At τ i a):i∉gu:=by
 intro hm;have h0:i.toNat∈ [0,2,3,8,10,11,12,13,14,15] :=by simp [gu,or_false] at hm ⊢;omega
 have hlt:i.toNat<16:=by simp [gu,or_false] at hm;omega
 obtain⟨x,hx⟩:=s;have:=h.I.2.2;rw [hx,List.getElem?_append_left (by trivial)] at this;exact rA a h.lt _ h0 this
def jt (r:List V):Bool:=match r with
 |V.j k::r'=>(if k∈ [2,3,4,5,8] then(match r.getLast? with|some (V.j j)=>j !=1|_=>false) else true)&&(if k=5 then(match r' with|_::_::V.F _::_=>true|_=>false) else true)&&k !=6
 |_=>false
theorem fA:∀a<16,jt (bt a)=true:=by decide
theorem jR {r:List V}(h:jt r=true):zU r∧∃k r',r=.j k::r'∧k≠6:=by
 unfold jt at h;split at h
 ·rename_i k r';simp only [Bool.and_eq_true,bne_iff_ne] at h;obtain⟨⟨h1,h2⟩,h3⟩:=h;refine⟨⟨⟨k,r',rfl,fun hk=>by grind⟩,fun k2 r2 e hk=>?_⟩,k,r',rfl,h3⟩
  ·cases e;rw [if_pos hk] at h2;split at h2
   ·exact⟨_,_,_,_,rfl,by simp⟩
   trivial
 trivial
theorem At.lD {τ:Tb}{i:Int}{a:Nat}(s:du τ)(h:At τ i a):vb τ i:=by have hp:=jR (fA a h.lt);have hno:=h.no s;simp [gu,not_or] at hno;exact⟨⟨_,h.I,hp.1,hp.2⟩,by omega⟩
def bb (a:Nat):Int:=match a with
 |3|4|14=>7
 |6|7|8|11|12|13|15=>6
 |_=> -1
theorem lF:∀a<16,mN (bt a)=bb a:=by decide
theorem At.tZ {τ:Tb}{i:Int}{a:Nat}(h:At τ i a):dU τ i=bb a:=by rw [h.I.tZ,lF a h.lt]
inductive eI (τ:Tb):List Int→List Nat→Prop
 |m:eI τ [] []
 |cons {i:Int} {a:Nat} {l:List Int} {r:List Nat} :At τ i a→eI τ l r→eI τ (i::l) (a::r)
theorem eI.dJ {c:Nat}{H H':AH}{τ τ':Tb}{l:List Int}{r:List Nat}(h:eI τ l r)(g:au c H H' τ τ'):eI τ' l r:=by
 induction h with
 |m=>exact .m
 |cons a _ ih=>exact .cons (a.dJ g) ih
theorem eI.dp {τ:Tb}{l l':List Int}{r r':List Nat}(h:eI τ l r)(h':eI τ l' r'):eI τ (l++l') (r++r'):=by
 induction h with
 |m=>exact h'
 |cons a _ ih=>exact .cons a ih
theorem eI.kK {τ:Tb}{l:List Int}{r:List Nat}(h:eI τ l r){i:Int}(hi:i∈l):∃a∈r,At τ i a:=by
 induction h with
 |m=>cases hi
 |cons a _ ih=>grind
theorem eI.pL {τ:Tb}{l:List Int}{r:List Nat}(h:eI τ l r){a:Nat}(hi:a∈r):∃i∈l,At τ i a:=by
 induction h with
 |m=>cases hi
 |cons a _ ih=>grind
theorem eI.U {τ:Tb}{l:List Int}{r:List Nat}(h:eI τ l r):l.length=r.length:=by
 induction h with
 |m=>rfl
 |cons _ _ ih=>simp [ih]
theorem eI.of {τ:Tb} :∀ {l:List Int},(∀i∈l,∃a,At τ i a)→∃r,eI τ l r
 |[],_=>⟨[],.m⟩
 |i::l,h=>by obtain⟨a,ha⟩:=h i (by simp);obtain⟨r,hr⟩:=eI.of fun j hj=>h j (List.mem_cons_of_mem _ hj);exact⟨_,.cons ha hr⟩
structure Kd (τ:Tb) (t:Int) (as:List Nat):Prop where
 ex:∃l,cp τ t l∧eI τ l as
 vn:10∈as→as=[10]
 W:as.Nodup
 NW:∃l,cp τ t l∧l.Pairwise (·< ·)
theorem cp.dJ {c:Nat}{H H':AH}{τ τ':Tb}{t:Int}{l:List Int}(h:cp τ t l)(g:au c H H' τ τ'):cp τ' t l:=by
 cases h with
 |o=>exact .o
 |ba a b d=>exact .ba a b (g.I d)
 |mn a b d=>exact .mn a b (g.I d)
theorem Kd.dJ {c:Nat}{H H':AH}{τ τ':Tb}{t:Int}{as:List Nat}(h:Kd τ t as)(g:au c H H' τ τ'):Kd τ' t as:=
 let⟨l,a,b⟩:=h.ex;⟨⟨l,a.dJ g,b.dJ g⟩,h.vn,h.W,let⟨l,a,b⟩:=h.NW;⟨l,a.dJ g,b⟩⟩
theorem eI.W {τ:Tb}(ht:τ.M.Nodup){l:List Int}{r:List Nat}(h:eI τ l r)(hn:l.Nodup):r.Nodup:=by
 induction h with
 |m=>simp
 |cons a b ih=>rw [List.nodup_cons] at hn ⊢;refine⟨fun hm=>?_,ih hn.2⟩;obtain⟨j,hj,hja⟩:=b.pL hm;have:=a.I.inj ht hja.I;grind
def qB (as bs:List Nat):Prop:=(10∈as∧bs=[10])∨(10∉as∧∀a,a∈bs↔a∈as∧¬(bb a=6∧9∈as)∧¬(bb a=7∧5∈as))
inductive J4 (τ:Tb):List Int→List Nat→Prop
 |m:J4 τ [] []
 |cons {t:Int} {a:List Nat} {l:List Int} {r:List Nat} :Kd τ t a→J4 τ l r→J4 τ (t::l) (a++r)
theorem J4.jL {τ:Tb}{l:List Int}{r:List Nat}(h:J4 τ l r):∃all,lB τ l all∧eI τ all r:=by
 induction h with
 |m=>exact⟨[],.m,.m⟩
 |cons a _ ih=>obtain⟨l1,p1,a1⟩:=a.ex;obtain⟨all,p,q⟩:=ih;exact⟨_,.cons p1 p,a1.dp q⟩
theorem At.kd {τ:Tb}{i:Int}{a:Nat}(s:du τ)(h:At τ i a):Kd τ i [a] :=by obtain⟨r,hr,_,k,r',rfl,hk⟩:=(h.lD s).I;exact⟨⟨[i],.mn (h.lD s).no.2.1 hk hr,.cons h .m⟩,by grind,by simp,[i],.mn (h.lD s).no.2.1 hk hr,by simp⟩
theorem nj {τ:Tb} :Kd τ 2 [] :=⟨⟨[],.o,.m⟩,by simp,by simp,[],.o,.nil⟩
theorem jO (a:Nat):bb a=6∨bb a=7∨bb a= -1:=by unfold bb;split<;>simp
theorem iN {H:AH}{τ:Tb}{Q:az}{n:Nat}{v:V}{ts:List Int}{as:List Nat}(h:aY H τ)(hstd:du τ)(hv:vg H v (zs ts))(hk:J4 τ ts as)(hlen:as.length<64)(hn:τ.M.length<2^19)
 (q:∀H' τ' t bs,au 1 H H' τ τ'→Kd τ' t bs→qB as bs→Q (.j t) H'):X.w (n+3) 14 [.y 4,v] H Q:=by
 obtain⟨all,hp,hat⟩:=hk.jL
 have hmem:∀ {i a},At τ i a→(i∈all↔a∈as):=fun{i a} ha=>⟨fun hi=>by obtain⟨b,hb,hib⟩:=hat.kK hi;rw [ha.bE hib];omega,fun h'=>by obtain⟨j,hj,hja⟩:=hat.pL h';rw [ha.I.inj h.W hja.I];omega⟩
 have h1:=hmem (hstd.at (a:=10) rfl)
 refine HE h hstd hv hp (fun i hi=>by obtain⟨a,_,ha⟩:=hat.kK hi;exact ha.lD hstd) (by rw [hat.U];omega) hn (fun hu H' G=>q H' τ 1 _ G ((hstd.at rfl).kd hstd) (.inl ⟨h1.mp hu,rfl⟩)) fun hu H' τ' t l G hkept hpt=>?_
 ·have hl:∀i∈l,∃a,At τ i a:=fun i hi=>by obtain⟨a,_,ha⟩:=hat.kK ((hkept.kK i).mp hi).1;exact⟨a,ha⟩
  obtain⟨bs,hbs⟩:=eI.of hl;have hwh:∀ {i a},At τ i a→(dU τ i∈all↔bb a=6∧9∈as∨bb a=7∧5∈as):=fun{i a} ha=>by
   rw [ha.tZ];rcases jO a with e|e|e
   ·rw [e,hmem (hstd.at (a:=9) rfl)];simp
   ·rw [e,hmem (hstd.at (a:=5) rfl)];simp
   ·rw [e];constructor
    ·intro hm;obtain⟨b,_,hb⟩:=hat.kK hm;have:=hb.I.1;omega
    simp
  have hbm:∀a,a∈bs↔a∈as∧¬(bb a=6∧9∈as)∧¬(bb a=7∧5∈as):=by
   intro a;constructor
   ·intro ha;obtain⟨i,hi,hia⟩:=hbs.pL ha;obtain⟨m1,m2⟩:=(hkept.kK i).mp hi;grind
   ·rintro⟨ha,x1,x2⟩;obtain⟨i,hi,hia⟩:=hat.pL ha;have:=(hkept.kK i).mpr ⟨hi,by grind⟩;obtain⟨b,hb,hib⟩:=hbs.kK this;rw [hia.bE hib];omega
  have hu10:=fun x=>hu (h1.mpr x);exact q H' τ' t bs G ⟨⟨l,hpt,hbs.dJ G⟩,fun x=>absurd ((hbm 10).mp x).1 hu10,hbs.W h.W (hkept.dO.imp (by omega)),l,hpt,hkept.dO⟩ (.inr ⟨hu10,hbm⟩)
structure Rs where
 r:Nat
 n:Nat
 bk:Nat
 G:Nat
 N7:Nat
 aP:Nat
 aO:Nat
 v:Int
 aT:List (Int×Int)
 tl:List (Int×Int)
 kn:List (V×V)
 Q:Nat
 bM:Nat
 M:List V
 kV:Bool
 jo:Int
 cC:List Int
def cM (ρ:Rs):List (Nat×V):=[(36,.y 16),(37,.j ρ.v),(38,.y 18),(39,.y ρ.n),(40,.y ρ.bk),(41,.y ρ.G),(42,.y ρ.N7),(29,.j ρ.bM),(43,.j ρ.Q),(44,.y ρ.aP),(45,.D ρ.kV),(46,.aE),(47,.F (m "")),(23,.j ρ.jo)]
def av (k:Int×Int):V:=.B [.j k.1,.j k.2]
def cP (ρ:Rs):List (V×V):=(ρ.aT++ρ.tl).map fun k=>(av k,.j 1)
def Rs.l (ρ:Rs):List Nat:=[ρ.r,ρ.n,ρ.bk,ρ.G,ρ.aP,ρ.aO]
structure aq (H:AH) (ρ:Rs):Prop where
 J:H[ρ.r]?=some (.J 5 (cM ρ))
 n:H[ρ.n]?=some (.i (cP ρ))
 bk:H[ρ.bk]?=some (.i ρ.kn)
 G:H[ρ.G]?=some (.f (ρ.tl.map av))
 aP:H[ρ.aP]?=some (.J 0 [(0,.y ρ.aO)])
 aO:H[ρ.aO]?=some (.f ρ.M)
 cF:ρ.l.Nodup
 bD:∀p∈ρ.l,17≤p∧p≠18∧p≠25
 W:(ρ.aT++ρ.tl).Nodup
section
variable {H:AH}{ρ:Rs}{τ:Tb}{F:V→Prop}{Q:az}{n:Nat}
theorem aq.dM (h:aq H ρ):aX (.y ρ.r) 36 H F=F (.y 16):=bO H h.J (by simp) (by rfl) rfl
theorem aq.eJ (h:aq H ρ):aX (.y ρ.r) 37 H F=F (.j ρ.v):=bO H h.J (by simp) (by rfl) rfl
theorem aq.xo (h:aq H ρ):aX (.y ρ.r) 38 H F=F (.y 18):=bO H h.J (by simp) (by rfl) rfl
theorem aq.gg (h:aq H ρ):aX (.y ρ.r) 39 H F=F (.y ρ.n):=bO H h.J (by simp) (by rfl) rfl
theorem aq.xq (h:aq H ρ):aX (.y ρ.r) 40 H F=F (.y ρ.bk):=bO H h.J (by simp) (by rfl) rfl
theorem aq.mK (h:aq H ρ):aX (.y ρ.r) 41 H F=F (.y ρ.G):=bO H h.J (by simp) (by rfl) rfl
theorem aq.xr (h:aq H ρ):aX (.y ρ.r) 29 H F=F (.j ρ.bM):=bO H h.J (by simp) (by rfl) rfl
theorem aq.Ki (h:aq H ρ):aX (.y ρ.r) 43 H F=F (.j ρ.Q):=bO H h.J (by simp) (by rfl) rfl
theorem aq.eC (h:aq H ρ):aX (.y ρ.r) 44 H F=F (.y ρ.aP):=bO H h.J (by simp) (by rfl) rfl
theorem aq.qN (h:aq H ρ):aX (.y ρ.r) 45 H F=F (.D ρ.kV):=bO H h.J (by simp) (by rfl) rfl
theorem aq.Od (h:aq H ρ):aX (.y ρ.r) 23 H F=F (.j ρ.jo):=bO H h.J (by simp) (by rfl) rfl
theorem aq.eB (h:aq H ρ):aX (.y ρ.aP) 0 H F=F (.y ρ.aO):=bO H h.aP (by simp) (by rfl) rfl
theorem Iy {n:Nat} :(X.b n).bJ 5 50=some 54:=rfl
theorem pX {n:Nat} :(X.b n).bJ 6 26=some 34:=rfl
theorem uE {C:z4}{e:MX}{a:Nat}{l:MX}{env:En}{p c f:Nat}{fs:List (Nat×V)}(he:∀Q:az,(wX C e).E env H Q=Q (.y p) H)(hp:H[p]?=some (.J c fs))(hm:C.bJ c a=some f)(ha:a<54)(hf:qj a fs=none):
 (wX C (.bJ e a l)).E env H Q=(wX C l).L env H fun vs H=>C.w f (.y p::vs) H Q:=by
 rw [zZ]
 grind
theorem dE {t:V}(q:Q t H):X.w (n+1) 34 [.y 16,t] H Q:=by apply aC.hV rfl (Nat.le_refl _) (Nat.le_refl _);trivial
theorem oX {t k:Int}{r:List V}(h:aY H τ)(hr:bj τ t (.j k::r))(q:Q (.D (decide (k∈ [2,3,4,5]))) H):X.w (n+1) 16 [.y 4,.j t] H Q:=by delta ku;have e:∀ {B:Bool→Prop},gb _ [.j 2,.j 3,.j 4,.j 5] B=B _:=aR k [2,3,4,5];simp! [h.bx,h.I hr,e];omega
theorem I2 {t:Int}{r:List V}(h:aY H τ)(hr:bj τ t r)(hs:dH r)(q:Q (.D false) H):X.w (n+1) 18 [.y 4,.j t] H Q:=by
 delta nO;obtain⟨k,r',rfl,hs⟩:=hs;have e:∀ {B:Bool→Prop},gb _ [.j 2,.j 3,.j 4,.j 5,.j 8] B=B _:=aR k [2,3,4,5,8];simp! [h.bx,h.I hr,e];by_cases hk:k∈ [2,3,4,5,8]
 ·obtain⟨j,hj,h1⟩:=hs hk;simp [hk];simp! [q6 H hj,h1,decide_false];omega
 grind
theorem vT {t:Int}{r:List V}(h:aY H τ)(hr:bj τ t r)(hs:dH r)(q:Q (.j t) H):X.w (n+2) 19 [.y 4,.j t] H Q:=by apply aC.hV rfl (Nat.le_refl _) (Nat.le_refl _);apply I2 h hr hs;trivial
theorem iP {t:Int}{r:List V}(h:aY H τ)(hr:bj τ t r)(hs:dH r)(q:Q (.j t) H):X.w (n+3) 60 [.y 16,.j t] H Q:=by
 delta pd;rw [zT,uE (fun Q=>rfl) h.dZ pX (by simp) rfl];apply dE;simp! [h.cK];obtain⟨k,r',rfl,hs'⟩:=id hs;apply oX h hr;refine iv (fun _=>?_) fun _=>?_
 ·rw [h.cK];exact vT h hr hs q
 omega
end
abbrev lC:List Int:=[10,14,15,16,17,18,19]
abbrev zV:List Int:=[6,7,10,14,15,16,17,18,19]
abbrev w7:List Int:=[1,2,3,4,5]
def d6 (mode s t ks kt:Int):Int:=if s=2 then 1 else if t=1 then 1 else if s=1 then(if kt∈lC then-1 else 0) else if t=2∧ks∉zV then 0 else-1
section
variable {H:AH}{ρ:Rs}{τ:Tb}{F:V→Prop}{Q:az}{n:Nat}
theorem kX {k:Int}{B:Bool→Prop} :gb (.j k) [.j 10,.j 14,.j 15,.j 16,.j 17,.j 18,.j 19] B=B (decide (k∈lC)):=aR k lC
theorem yU {k:Int}{B:Bool→Prop} :gb (.j k) [.j 6,.j 7,.j 10,.j 14,.j 15,.j 16,.j 17,.j 18,.j 19] B=B (decide (k∈zV)):=aR k zV
theorem K8 {k:Int}{B:Bool→Prop} :gb (.j k) [.j 1,.j 2,.j 3,.j 4,.j 5] B=B (decide (k∈w7)):=aR k w7
theorem vE {t kt:Int}{rt:List V}{l:List Int}(h:aY H τ)(hρ:aq H ρ)(ht:bj τ t (.j kt::rt))(hp:cp τ t l)(hl:¬(11∈l∧5∈l))(q:Q (.j (if kt∈lC then-1 else 0)) H):X.w (n+2) 66 [.y ρ.r,.j t] H Q:=by
 delta iC;simp! [hρ.dM,h.cK,h.bx,h.I ht,kX];by_cases hk:kt∈lC
 ·grind
 ·simp [hk] at q ⊢;apply eQ h hp;simp! [hρ.eJ];have e1:∀ {B:Bool→Prop},gb _ _ B=B _:=aR 11 l;have e2:∀ {B:Bool→Prop},gb _ _ B=B _:=aR 5 l;grind
theorem Ks {s t ks kt:Int}{rs rt:List V}{l:List Int}(h:aY H τ)(hρ:aq H ρ)(hs:bj τ s (.j ks::rs))(ht:bj τ t (.j kt::rt))(hp:cp τ t l)(hl:¬(11∈l∧5∈l))(h1:s≠0)(h2:s≠13)(h3:t≠0)(h4:t≠13)
 (q:Q (.j (d6 ρ.v s t ks kt)) H):X.w (n+3) 65 [.y ρ.r,.j s,.j t] H Q:=by
 delta fi
 simp! [h3,h4]
 unfold d6 at q
 by_cases a1:s=2
 ·grind
 rw [if_neg a1] at q
 by_cases a2:t=1
 ·grind
 rw [if_neg a2] at q
 simp [a2]
 by_cases a3:s=1
 ·rw [if_pos a3] at q;simp [a3];exact vE h hρ ht hp hl q
 simp! [hρ.dM,h.cK,h.bx,h.I hs,yU]
 grind
def cT (mode s t ks kt v:Int):Int:=if d6 mode s t ks kt≥0 then d6 mode s t ks kt else if ks∈zV∨kt∈zV then-1 else if kt∈w7 then(if ks∈w7 then v else 0) else if s=4∨s=5∨s=3 then 0 else-1
theorem x7 {s t ks kt v:Int}{rs rt:List V}{l:List Int}(h:aY H τ)(hρ:aq H ρ)(hs:bj τ s (.j ks::rs))(ht:bj τ t (.j kt::rt))(hp:cp τ t l)(hl:¬(11∈l∧5∈l))(h1:s≠0)(h2:s≠13)(h3:t≠0)(h4:t≠13)(h5:t≠10)
 (hv:d6 ρ.v s t ks kt<0→ks∈w7→kt∈w7→∀ {Q:az},Q (.j v) H→X.w (n+3) 68 [.y ρ.r,.j s,.j t] H Q)
 (q:Q (.j (cT ρ.v s t ks kt v)) H):X.w (n+4) 64 [.y ρ.r,.j s,.j t] H Q:=by
 apply aC.hV rfl (Nat.le_refl _) (Nat.le_refl _)
 show wS _ _ [some _,some _,some _,none,none,none,none] _ _
 apply Ks h hρ hs ht hp hl h1 h2 h3 h4
 unfold cT at q
 simp! [hρ.dM,h.cK,h.bx,h.I hs,h.I ht,yU,K8]
 grind
end
def aW (a:Nat):Int:=match bt a with
 |V.j k::_=>k
 |_=>0
theorem bZ:∀a<16,bt a=.j (aW a)::(bt a).tail∧aW a∈w7∧(aW a=5→a=11):=by decide
theorem At.eM {τ:Tb}{i:Int}{a:Nat}(h:At τ i a):bj τ i (.j (aW a)::(bt a).tail):=by rw [←(bZ a h.lt).1];exact h.I
def de (mode:Int)(a b:Nat):Int:=if a=0 then 0 else if(bb a=6∧b=9)∨(bb a=7∧b=5) then 1 else if mode=2∧((bb b=6∧a=9)∨(bb b=7∧a=5)) then 1 else if a=11∧b=6 then 1 else 0
section
variable {H:AH}{ρ:Rs}{τ:Tb}{F:V→Prop}{Q:az}{n:Nat}
theorem eW {a:Nat}(ha:a<16)(q:Q (.j (bb a)) H):X.w (n+1) 9 [.B (.j (aW a)::(bt a).tail)] H Q:=by have e:=(bZ a ha).1;apply um ((jR (fA a ha)).1.Mt _ _ e);rw [←e,lF a ha];omega
theorem vX {b:Nat}(hb:b<16)(q:Q (.D false) H):X.w (n+2) 67 [.B (.j (aW b)::(bt b).tail)] H Q:=by
 delta fE;simp! [];by_cases hh:aW b=5
 ·simp [hh];rw [←hh];apply eW hb;have:=(bZ b hb).2.2 hh;subst this;trivial
 grind
theorem It {s:Int}{a b:Nat}(hρ:aq H ρ)(hb:b<16)(v:V)(q:Q (.j 0) H):X.w (n+3) 69 [.y ρ.r,.j s,v,.B (.j (aW b)::(bt b).tail)] H Q:=by delta gA;simp! [hρ.eJ];refine iv (fun _=>q) fun _=>?_;apply vX hb;trivial
theorem Lq:∀b<16,b≠11→((aW b=3∨aW b=4)∧bb b=6→∃x r,(bt b).tail=.F x::r∧(x=m "p"↔b=6))∧(¬((aW b=3∨aW b=4)∧bb b=6)→b≠6):=by
 intro b hb h;have:b=0∨b=1∨b=2∨b=3∨b=4∨b=5∨b=6∨b=7∨b=8∨b=9∨b=10∨b=12∨b=13∨b=14∨b=15:=by omega
 rcases this with rfl|rfl|rfl|rfl|rfl|rfl|rfl|rfl|rfl|rfl|rfl|rfl|rfl|rfl|rfl;all_goals refine⟨fun hh=>?_,fun hh=>?_⟩
 all_goals first
  |(exact⟨_,_,rfl,by decide⟩)
  |(exfalso;revert hh;decide+kernel)
  |simp
theorem xD {s t:Int}{a b:Nat}(h:aY H τ)(std:du τ)(hρ:aq H ρ)(hs:At τ s a)(ht:At τ t b)(hab:a≠b)(h3:t≠3)
 (q:Q (.j (de ρ.v a b)) H):X.w (n+4) 68 [.y ρ.r,.j s,.j t] H Q:=by
 delta gy
 unfold de at q
 have i4:=bV h std hs (b:=0) (j:=4) rfl
 simp! []
 by_cases a0:a=0
 ·grind
 rw [if_neg a0] at q
 have hs4:s≠4:=fun e=>a0 (i4.mp e)
 simp! [hs4,decide_false,hρ.dM,h.cK,h.bx,h.I hs.eM,h.I ht.eM]
 have wid:∀ {x:Nat} {y:Int} {z:Nat},At τ y z→(bb x=y↔(bb x=6∧z=9)∨(bb x=7∧z=5)):=fun{x y z} hz=>by
  have i6:=bV h std hz (b:=9) rfl;have i7:=bV h std hz (b:=5) rfl;have h0:=hz.I.1;rcases jO x with e|e|e
  ·rw [e];constructor
   ·intro q;exact .inl ⟨rfl,i6.mp q.symm⟩
   omega
  ·rw [e];constructor
   ·intro q;exact .inr ⟨rfl,i7.mp q.symm⟩
   omega
  omega
 refine eW hs.lt ?_
 simp! []
 by_cases w1:bb a=t
 ·rw [if_pos ((wid ht).mp w1)] at q;simp only [w1];apply eW hs.lt;have:bb a≥0:=by have:=ht.I.1;omega
  simp! [this,decide_true];omega
 rw [if_neg (fun e=>w1 ((wid ht).mpr e))] at q
 simp only [w1,decide_false,Bool.false_eq_true,if_false]
 simp! [hρ.eJ]
 have rest:∀ {Q:az},Q (.j (if a=11∧b=6 then 1 else 0)) H→wS (X.b (n+3)) (.bA (.dy (.cons (.bH .eq (.z (.h 3) (.k (.j 0))) (.k (.j 5))) (.cons (.bH .eq (.z (.h 4) (.k (.j 0))) (.k (.j 5))) (.cons (.bH .eq (.z (.h 3) (.k (.j 1))) (.z (.h 4) (.k (.j 1)))) (.m))))) (.bL (.bA (.bH .eq (.z (.h 3) (.k (.j 3))) (.z (.h 4) (.k (.j 3)))) (.k (.j 1)) (.k (.j 0)))) (.V) (.bA (.bH .eq (.z (.h 3) (.k (.j 0))) (.k (.j 5))) (.bL (.bA (.dy (.cons (.bH .jm (.z (.h 4) (.k (.j 0))) (.B (.cons (.k (.j 3)) (.cons (.k (.j 4)) (.m))))) (.cons (.bH .eq (.w 9 (.cons (.h 4) (.m))) (.w 9 (.cons (.h 3) (.m)))) (.cons (.bH .eq (.z (.h 4) (.k (.j 1))) (.z (.h 3) (.k (.j 3)))) (.m))))) (.k (.j 1)) (.k (.j 0)))) (.V) (.bL (.w 69 (.cons (.h 0) (.cons (.h 1) (.cons (.h 3) (.cons (.h 4) (.m)))))))))
  [some (.y ρ.r),some (.j s),some (.j t),some (V.B (.j (aW a)::(bt a).tail)),some (V.B (.j (aW b)::(bt b).tail))] H (bX Q):=by
  intro Q q
  simp! []
  by_cases e5:aW a=5
  ·have a11:=(bZ a hs.lt).2.2 e5;subst a11;have b11:b≠11:=fun e=>hab e.symm;have hb5:aW b≠5:=fun e=>b11 ((bZ b ht.lt).2.2 e);simp [e5,hb5];have ein:∀ {B:Bool→Prop},gb (.j (aW b)) [.j 3,.j 4] B=B _:=aR _ [3,4];obtain⟨p1,p2⟩:=Lq b ht.lt b11;simp! [ein];by_cases hm:aW b∈ [3,4]
   ·have hm':=by simpa using hm
    simp [hm];apply eW ht.lt;apply eW hs.lt;by_cases hw:bb b=6
    ·obtain⟨x,r,hx,hp⟩:=p1 (by omega);rw [hx];have e3:(V.B (.j 5::(bt 11).tail))=.B [.j 5,.j 1,.F _,.F _,.j 0] :=rfl;rw [e3];simp! [show bb 11=6 from rfl];grind
    ·rw [if_neg (by omega)] at q;simp! [hw,decide_false,show bb 11=6 from rfl];omega
   grind
  ·simp [e5];have:a≠11:=fun e=>e5 (by rw [e];rfl);rw [if_neg (by omega)] at q;exact It (a:=a) hρ ht.lt _ q
 by_cases hm2:ρ.v=2
 ·simp only [hm2];apply eW ht.lt;simp! [];by_cases w2:bb b=s
  ·grind
  ·rw [if_neg (by grind)] at q;simp only [w2];have z:=rest q;trivial
 ·rw [if_neg (by omega)] at q;simp only [hm2];have z:=rest q;trivial
end
def vm (τ:Tb)(pid b:Int):Prop:=0≤pid∧pid<2^40∧τ.Z[pid.toNat]?=some (.j b)
inductive Tm (τ:Tb):Int→List Int→List Nat→Nat→Prop
 |cq {t:Int} {a:Nat} :At τ t a→Tm τ t [] [a] 0
 |o:Tm τ 2 [] [] 0
 |ba {t:Int} {l:List Int} {as:List Nat} :t≠2→2≤l.length→bj τ t [.j 6,.B (zs l)] →eI τ l as→10∉as→Tm τ t [] as 0
 |gG {t k:Int} {r:List V} :bj τ t (.j k::r)→dH (.j k::r)→k∈ [8,9,11,14,15] →Tm τ t [t] [16] 0
 |hU {t pid b:Int} {c:List Int} {as:List Nat} {p:Nat} :bj τ t [.j 10,.j pid] →vm τ pid b→Tm τ (if b<0∨b=0 then 1 else b) c as p→Tm τ t (t::c) as (p+1)
structure dY (τ τ':Tb):Prop where
 M:∃x,τ'.M=τ.M++x
 aH:∃x,τ'.aH=τ.aH++x
 Z:∃x,τ'.Z=τ.Z++x
theorem dY.aD (τ:Tb):dY τ τ:=⟨by simp,by simp,by simp⟩
theorem dY.trans {τ τ1 τ2:Tb}(a:dY τ τ1)(b:dY τ1 τ2):dY τ τ2:=by obtain⟨⟨x,hx⟩,⟨y,hy⟩,⟨z,hz⟩⟩:=a;obtain⟨⟨x',hx'⟩,⟨y',hy'⟩,⟨z',hz'⟩⟩:=b;exact⟨by grind,by grind,by grind⟩
theorem au.gI {c:Nat}{H H':AH}{τ τ':Tb}(g:au c H H' τ τ'):dY τ τ':=⟨let⟨x,h,_⟩:=g.M;⟨x,h⟩,⟨[],by simp [g.aH]⟩,⟨[],by simp [g.Z]⟩⟩
section
variable {τ τ':Tb}
theorem dY.I (a:dY τ τ'){t:Int}{l:List V}(h:bj τ t l):bj τ' t l:=by obtain⟨x,hx⟩:=a.M;refine⟨h.1,h.2.1,?_⟩;rw [hx,List.getElem?_append_left (List.getElem?_eq_some_iff.mp h.2.2).1];exact h.2.2
theorem dY.sM (a:dY τ τ'){pid b:Int}(h:vm τ pid b):vm τ' pid b:=by obtain⟨x,hx⟩:=a.Z;refine⟨h.1,h.2.1,?_⟩;rw [hx,List.getElem?_append_left (List.getElem?_eq_some_iff.mp h.2.2).1];exact h.2.2
theorem dY.at (a:dY τ τ'){i:Int}{n:Nat}(h:At τ i n):At τ' i n:=⟨h.lt,a.I h.I⟩
theorem dY.My (a:dY τ τ'){l:List Int}{r:List Nat}(h:eI τ l r):eI τ' l r:=by
 induction h with
 |m=>exact .m
 |cons x _ ih=>exact .cons (a.at x) ih
theorem dY.cR (a:dY τ τ')(h:du τ):du τ':=by obtain⟨x,hx⟩:=h;obtain⟨y,hy⟩:=a.M;exact⟨x++y,by grind⟩
theorem Tm.P (a:dY τ τ'){t:Int}{c:List Int}{as:List Nat}{p:Nat}(h:Tm τ t c as p):Tm τ' t c as p:=by
 induction h with
 |cq h=>exact .cq (a.at h)
 |o=>exact .o
 |ba h1 h2 h3 h4 h5=>exact .ba h1 h2 (a.I h3) (a.My h4) h5
 |gG h1 h2 h3=>exact .gG (a.I h1) h2 h3
 |hU h1 h2 _ ih=>exact .hU (a.I h1) (a.sM h2) ih
theorem eI.bE {l:List Int}{r r':List Nat}(h:eI τ l r)(h':eI τ l r'):r=r':=by
 induction h generalizing r' with
 |m=>cases h';rfl
 |cons a _ ih=>cases h' with|cons b c=>rw [a.bE b,ih c]
theorem xw {l l':List Int}(h:zs l=zs l'):l=l':=by
 induction l generalizing l' with
 |nil=>simp_all
 |cons a r ih=>cases l' with
  |nil=>cases h
  |cons b s=>grind
theorem cN:∀a<16,aW a≠6∧aW a≠8∧aW a≠9∧aW a≠10∧aW a≠11∧aW a≠14∧aW a≠15:=by decide
theorem Tm.d5 (std:du τ){t:Int}{c:List Int}{as:List Nat}{p:Nat}(h:Tm τ t c as p):∃k r,bj τ t (.j k::r)∧dH (.j k::r):=by
 cases h with
 |cq h=>exact⟨_,_,h.eM,by rw [←(bZ _ h.lt).1];exact(jR (fA _ h.lt)).1.t8⟩
 |o=>exact⟨1,_,std.I (by simp) (by simp) rfl,1,_,rfl,by simp⟩
 |ba h1 h2 h3 h4 h5=>exact⟨6,_,h3,6,_,rfl,by simp⟩
 |gG h1 h2 h3=>exact⟨_,_,h1,h2⟩
 |hU h1 h2 _=>exact⟨10,_,h1,10,_,rfl,by simp⟩
theorem Tm.bE (std:du τ){t:Int}{c c':List Int}{as as':List Nat}{p p':Nat}(h:Tm τ t c as p)(h':Tm τ t c' as' p'):c=c'∧as=as'∧p=p':=by
 induction h generalizing c' as' p' with
 |cq h=>
  cases h' with
  |cq h2=>rw [h.bE h2];simp
  |o=>exact absurd (by decide) (h.no std)
  |ba _ _ h3 _ _=>have:=h.eM.bE h3;simp [List.cons.injEq,V.j.injEq] at this;exact absurd this.1 (cN _ h.lt).1
  |gG h1 _ h3=>have:=h.eM.bE h1;simp at this;have z:=cN _ h.lt;simp_all
  |hU h1 _ _=>have:=h.eM.bE h1;simp at this;exact absurd this.1 (cN _ h.lt).2.2.2.1
 |o=>
  have h2:=std.I (t:=2) (by simp) (by simp) rfl;cases h' with
  |cq h=>exact absurd (by decide) (h.no std)
  |o=>simp
  |ba h _ _ _ _=>exact absurd rfl h
  |gG h1 _ h3=>have:=h2.bE h1;grind
  |hU h1 _ _=>have:=h2.bE h1;grind
 |ba h1 h2 h3 h4 h5=>
  cases h' with
  |cq h=>have:=h.eM.bE h3;simp at this;exact absurd this.1 (cN _ h.lt).1
  |o=>exact absurd rfl h1
  |ba _ _ g3 g4 _=>have:=h3.bE g3;simp only [List.cons.injEq,V.B.injEq,true_and,and_true] at this;have:=xw this;subst this;exact⟨rfl,h4.bE g4,rfl⟩
  |gG g1 _ g3=>have:=h3.bE g1;grind
  |hU g1 _ _=>have:=h3.bE g1;grind
 |gG h1 h2 h3=>
  cases h' with
  |cq h=>have:=h.eM.bE h1;simp at this;have z:=cN _ h.lt;simp_all
  |o=>have:=(std.I (by simp) (by simp) rfl).bE h1;simp at this;rw [←this.1] at h3;trivial
  |ba _ _ g3 _ _=>have:=g3.bE h1;grind
  |gG _ _ _=>simp
  |hU g1 _ _=>have:=g1.bE h1;grind
 |hU h1 h2 h3 ih=>
  cases h' with
  |cq h=>have:=h.eM.bE h1;simp only [List.cons.injEq,V.j.injEq] at this;exact absurd this.1 (cN _ h.lt).2.2.2.1
  |o=>have:=(std.I (by simp) (by simp) rfl).bE h1;grind
  |ba _ _ g3 _ _=>have:=g3.bE h1;simp only [List.cons.injEq,V.j.injEq] at this;omega
  |gG g1 _ g3=>have:=h1.bE g1;grind
  |hU g1 g2 g3=>have:=h1.bE g1;simp only [List.cons.injEq,V.j.injEq,true_and,and_true] at this;subst this;have:=h2.2.2.symm.trans g2.2.2;grind
end
def kJ (a b:Nat):Bool:=a==b||b==10||(bb a==6&&b==9)||(bb a==7&&b==5)||(a==11&&b==6)
def iW (a b:Nat):Bool:=kJ a b||kJ b a
def dg (both:Bool)(as bs:List Nat):Bool:=if both then as.any fun a=>bs.any (iW a) else as.all fun a=>bs.any (kJ a)
def aB (both:Bool)(cs:List Int)(as:List Nat)(ct:List Int)(bs:List Nat):Bool:=as.isEmpty||(match ct with|x::_=>cs.contains x||(both&&as==[10])|[] =>dg both as bs)
def mu (p:Nat)(as:List Nat)(ct:List Int)(bs:List Nat):Nat:=2*(p+(if 2≤as.length then 1 else 0))+(if ct=[] ∧2≤bs.length then 1 else 0)
def dx (p ks:Nat):Nat:=p+1+ks
def fk:Nat→Nat→Nat→Nat
 |0,ks,kt=>if ks=0 then 1+kt else 1+ks*(1+kt)
 |p+1,ks,kt=>1+kt*dx (p+1) ks+fk p ks kt
def cU (p:Nat)(as:List Nat)(ct:List Int)(bs:List Nat):Nat:=if ct=[] ∧2≤bs.length then fk p (if 2≤as.length then as.length else 0) bs.length else dx p (if 2≤as.length then as.length else 0)
theorem dS (k:Int×Int):(av k).aS=3:=rfl
theorem jS {k k':Int×Int}(h:av k=av k'):k=k':=by obtain⟨a,b⟩:=k;simp [av] at h;simp_all
section
variable {H:AH}{ρ:Rs}{τ:Tb}{F:V→Prop}{Q:az}{n:Nat}
structure Ne (ρ:Rs):Prop where
 ra:ρ.r≠ρ.n
 rk:ρ.r≠ρ.bk
 rt:ρ.r≠ρ.G
 rn:ρ.r≠ρ.aP
 rw:ρ.r≠ρ.aO
 ak:ρ.n≠ρ.bk
 jo:ρ.n≠ρ.G
 an:ρ.n≠ρ.aP
 aw:ρ.n≠ρ.aO
 kt:ρ.bk≠ρ.G
 kn:ρ.bk≠ρ.aP
 kw:ρ.bk≠ρ.aO
 tn:ρ.G≠ρ.aP
 tw:ρ.G≠ρ.aO
 nw:ρ.aP≠ρ.aO
theorem aq.ne (h:aq H ρ):Ne ρ:=by have:=h.cF;simp only [Rs.l,List.nodup_cons,List.mem_cons,List.not_mem_nil,or_false,not_or] at this;obtain⟨⟨a,b,c,d,e⟩,⟨f,g,i,j⟩,⟨k,l,o⟩,⟨p,q⟩,r,_⟩:=this;exact⟨a,b,c,d,e,f,g,i,j,k,l,o,p,q,r⟩
theorem aq.pN (h:aq H ρ){ρ':Rs}(e:ρ'.l=ρ.l)(h1:ρ'.aT=ρ.aT)(h2:ρ'.tl=ρ.tl)(h3:ρ'.kn=ρ.kn)(h4:ρ'.M=ρ.M):aq (H.set ρ.r (.J 5 (cM ρ'))) ρ':=by
 have d:=h.ne;simp [Rs.l,and_true] at e;obtain⟨e1,e2,e3,e4,e5,e6⟩:=e;have ha:cP ρ'=cP ρ:=by unfold cP;simp_all
 exact⟨by rw [e1];exact aj h.J,by rw [e2,ha];exact aa h.n d.ra.symm,by rw [e3,h3];exact aa h.bk d.rk.symm,by rw [e4,h2];exact aa h.G d.rt.symm,by rw [e5,e6];exact aa h.aP d.rn.symm,by rw [e6,h4];exact aa h.aO d.rw.symm,by have:=h.cF;unfold Rs.l at*;grind,by have:=h.bD;unfold Rs.l at*;grind,by rw [h1,h2];exact h.W⟩
theorem aq.R {x:ag}(h:aq H ρ)(t:aY H τ){p:Nat}(hp:p∈ρ.l):aY (H.set p x) τ:=by have:=h.bD p hp;exact t.of (by grind)
theorem sx {e:V×V}(he:e∈cP ρ):∃k∈ρ.aT++ρ.tl,e=(av k,.j 1):=by obtain⟨k,hk,rfl⟩:=List.mem_map.mp he;exact⟨k,hk,rfl⟩
theorem iU (k:Int×Int):bI (av k) (cP ρ):=⟨by rw [dS];simp,fun e he=>by obtain⟨k',_,rfl⟩:=sx he;rfl⟩
theorem kB (k:Int×Int):(bR (av k) (cP ρ)).isSome=decide (k∈ρ.aT++ρ.tl):=by
 rw [lK];congr 1;rw [eq_iff_iff];constructor
 ·intro h;obtain⟨e,he,hk⟩:=List.mem_map.mp h;obtain⟨k',hk',rfl⟩:=sx he;rw [jS hk.symm];omega
 ·intro h;exact List.mem_map.mpr ⟨_,List.mem_map.mpr ⟨k,h,rfl⟩,rfl⟩
theorem aq.z9 (h:aq H ρ){k:Int×Int}(hk:k∉ρ.aT++ρ.tl):aq ((H.set ρ.n (.i (eA (av k) (.j 1) (cP ρ)))).set ρ.G (.f (ρ.tl.map av++[av k]))) {ρ with tl:=ρ.tl++[k] } :=by
 have d:=h.ne;have hl:bR (av k) (cP ρ)=none:=by have:=kB (ρ:=ρ) k;simp_all
 exact⟨aa (aa h.J d.ra) d.rt,by refine aa ?_ d.jo;rw [aj h.n,mD hl];show some (ag.i _)=some (.i ((ρ.aT++(ρ.tl++[k])).map _));rw [←List.append_assoc,List.map_append];rfl,aa (aa h.bk d.ak.symm) d.kt,by rw [aj (aa h.G d.jo.symm)];simp,aa (aa h.aP d.an.symm) d.tn.symm,aa (aa h.aO d.aw.symm) d.tw.symm,h.cF,h.bD,by rw [←List.append_assoc];exact List.nodup_append.mpr ⟨h.W,by simp,by grind⟩⟩
theorem lq {k v:V} :∀ {l r:List (V×V)},(∀e∈l,e.1≠k)→di k (l++(k,v)::r)=l++r
 |[],r,_=>by unfold di;simp
 |e::l,r,h=>by show di k (e::(l++(k,v)::r))=e::(l++r);unfold di;rw [if_neg (by simp_all),lq (by grind)]
theorem aq.J8 {tl:List (Int×Int)}{k:Int×Int}(h:aq H {ρ with tl:=tl++[k] }):aq ((H.set ρ.G (.f (tl.map av))).set ρ.n (.i (di (av k) (cP {ρ with tl:=tl++[k] })))) {ρ with tl:=tl} :=by
 have d:=h.ne;have hnd:(ρ.aT++tl++[k]).Nodup:=by rw [List.append_assoc];exact h.W
 refine⟨aa (aa h.J d.rt) d.ra,?_,aa (aa h.bk d.kt) d.ak.symm,aa (aj h.G) d.jo.symm,aa (aa h.aP d.tn.symm) d.an.symm,aa (aa h.aO d.tw.symm) d.aw.symm,h.cF,h.bD,(List.nodup_append.mp hnd).1⟩
 ·have e:di (av k) (cP {ρ with tl:=tl++[k] })=cP {ρ with tl:=tl} :=by show di _ ((ρ.aT++(tl++[k])).map _)=(ρ.aT++tl).map _;rw [←List.append_assoc,List.map_append];show di _ ((ρ.aT++tl).map _++[(av k,V.j 1)])=_;rw [lq,List.append_nil];intro e he;obtain⟨k',hk',rfl⟩:=List.mem_map.mp he;intro q;have:=jS q;grind
  rw [e];exact aj (aa h.n d.jo)
theorem td (h:aq H ρ)(q:Q (.B [.j ρ.M.length,.j ρ.tl.length]) H):X.w (n+1) 54 [.y ρ.r] H Q:=by delta nT;simp! [h.eC,h.eB,h.mK,bh H h.aO,bh H h.G];grind
theorem JZ {tl x:List (Int×Int)}(h:aq H {ρ with tl:=tl++x})(t:aY H τ)(hl:ρ.M.length<2^20)
 (q:∀H',aq H' {ρ with tl:=tl} →(∀i o,H[i]?=some o→i≠ρ.G→i≠ρ.n→H'[i]?=some o)→H.length≤H'.length→Q .aE H'):X.w (n+1) 59 [.y ρ.r,.B [.j ρ.M.length,.j tl.length]] H Q:=by
 delta nQ
 have e0:∀ {G:AH→Prop},pA (.y ρ.aO) (.j ρ.M.length) H G=G H:=fun{G} =>by simp [pA,show H[ρ.aO]?=some _ from h.aO,hl]
 have g1:∀ {F},aX _ 44 H F=F _:=h.eC
 have g2:∀ {F},aX _ 0 H F=F _:=h.eB
 simp! [g1,g2,e0]
 refine⟨x.length+1,?_⟩
 obtain⟨turn,hturn⟩:∃turn:En→AH→(Bool→En→AH→Prop)→(Fl→En→AH→Prop)→Prop,turn=fun env H out q=>(wX (X.b n) (.bH .gt (.pO .U (.cons (.bB (.h 0) 41) .m)) (.z (.h 1) (.k (.j 1))))).T env H fun r H=>if r=true then wS (X.b n) (.qO (.bB (.h 0) 39) (.xa (.bB (.h 0) 41) .m) .V) env H q else out false env H:=⟨_,rfl⟩
 rw [←hturn]
 have gen:∀(k:Nat) (x:List _) (H1:AH),x.length=k→aq H1 {ρ with tl:=tl++x} →(∀i o,H[i]?=some o→i≠ρ.G→i≠ρ.n→H1[i]?=some o)→H.length≤H1.length→fR turn
   (fun fl env H=>match fl with| .a=>wS (X.b n) .V env H (bX Q)|fl=>bX Q fl env H) (k+1) [some (.y ρ.r),some (V.B [.j ρ.M.length,.j tl.length])] H1:=by
  intro k
  induction k with
  |zero=>
   intro x H1 hx h1 hk hlen
   have g1:∀ {F},aX _ 41 H1 F=F _:=h1.mK
   have g2:=h1.G
   apply(congrFun (congrFun (congrFun (congrFun hturn _) _) _) _).mpr
   simp! [g1,bh H1 g2]
   grind
  |succ k ih=>
   intro x H1 hx h1 hk hlen
   obtain⟨y,a,rfl⟩:∃y a,x=y++[a] :=by
    rcases List.eq_nil_or_concat x with e|⟨y,a,e⟩
    ·subst e;trivial
    ·exact⟨y,a,by simpa using e⟩
   have g1:∀ {F},aX _ 41 H1 F=F _:=h1.mK
   have g3:∀ {F},aX _ 39 H1 F=F _:=h1.gg
   have g2:=h1.G
   have e1:decide (((tl++(y++[a])).map av).length>(tl.length:Int))=true:=by simp;omega
   have el:(tl++y++[a]).map av=(tl++y).map av++[av a] :=by simp
   have h1':aq H1 {ρ with tl:=tl++y++[a] } :=by rw [List.append_assoc];omega
   have e2:=bN H1 g2
   have e3:∀ {Q:az},ov (.y ρ.G) [] H1 Q=Q (av a) (H1.set ρ.G (.f ((tl++y).map av))):=fun{Q} =>by simp only [ov,g2];simp
   have e4:∀ {G:AH→Prop},lZ (.y ρ.n) (av a) (H1.set ρ.G (.f ((tl++y).map av))) G=G ((H1.set ρ.G (.f ((tl++y).map av))).set ρ.n (.i (di (av a) (cP {ρ with tl:=tl++y++[a] })))):=fun{G} =>by have ga:(H1.set _ (.f ((tl++y).map av)))[ρ.n]?=some _:=aa h1'.n h1.ne.jo;simp only [lZ,ga,iU,kB];simp
   apply(congrFun (congrFun (congrFun (congrFun hturn _) _) _) _).mpr
   simp! [g1,g3,bh H1 g2,e1,e2,e3,e4,true_or]
   exact ih y _ (by simpa using hx) h1'.J8 (fun i o e n1 n2=>aa (aa (hk i o e n1 n2) n1) n2) (by simpa using hlen)
 exact gen _ x H rfl h (fun _ _ e _ _=>e) (by simp)
end
theorem pY {es:List (V×V)}{k v:V}{e:V×V}(h:e∈eA k v es):e∈es∨e=(k,v):=by
 induction es with
 |nil=>simpa [eA] using h
 |cons a r ih=>unfold eA at h;grind
theorem uF {es:List (V×V)}{k v:V} :(eA k v es).length≤es.length+1:=by
 induction es with
 |nil=>simp [eA]
 |cons a r ih=>unfold eA;split<;>simp;omega
theorem wm {es:List (V×V)}{k v:V}(hk:k.aS=3)(h:∀e∈es,e.1.aS=3):∀e∈eA k v es,e.1.aS=3:=fun e he=>by
 rcases pY he with q|q
 ·simp [*]
 simp_all
section
variable {H:AH}{ρ:Rs}{τ:Tb}{F:V→Prop}{Q:az}{n:Nat}
theorem Jr (h:aq H ρ)(hH:26≤H.length)(hkn:∀e∈ρ.kn,e.1.aS=3)(hlen:ρ.kn.length+ρ.tl.length<2^20)
 (q:∀H' kn',aq H' {ρ with tl:=[],kn:=kn',G:=H.length} →(∀e∈kn',e∈ρ.kn∨∃k∈ρ.tl,e=(av k,.D true))→kn'.length≤ρ.kn.length+ρ.tl.length→(∀i o,H[i]?=some o→i∉ρ.l→H'[i]?=some o)→H.length≤H'.length→Q .aE H'):
 X.w (n+1) 63 [.y ρ.r,.D true] H Q:=by
 delta jk
 simp! [h.mK]
 have hi:aG (.y ρ.G) H=some (ρ.tl.map av,some (ρ.G,ρ.tl.map av)):=by simp [aG,h.G]
 rw [hi]
 have d:=h.ne
 refine br (fun vs env H1=>∃dn r kn1 a,vs=r.map av∧ρ.tl=dn++r∧env=[some _,some _,a] ∧H1[ρ.r]?=some _∧H1[ρ.n]?=some (.i ((ρ.aT++r).map _))∧H1[ρ.bk]?=some (.i kn1)∧H1[ρ.G]?=some _∧H1[ρ.aP]?=some _∧H1[ρ.aO]?=some _∧(∀e∈kn1,e.1.aS=3)∧(∀e∈kn1,e∈ρ.kn∨∃k∈ρ.tl,e=(av k,.D true))∧kn1.length+r.length≤ρ.kn.length+ρ.tl.length∧(∀i o,H[i]?=some o→i∉ρ.l→H1[i]?=some o)∧H.length=H1.length) ?_ ?_ ⟨[],ρ.tl,ρ.kn,none,rfl,rfl,rfl,h.J,h.n,h.bk,h.G,h.aP,h.aO,hkn,fun e he=>.inl he,Nat.le_refl _,fun _ _ e _=>e,rfl⟩
 ·rintro _ r _ H1 ⟨dn,r1,kn1,a,e,hdn,rfl,f1,f2,f3,f4,f5,f6,f7,f8,f9,f10,f11⟩;refine⟨f4,fun q qn _=>?_⟩;cases r1 with
  |nil=>cases e
  |cons k r1=>
   cases e;have hnd:(ρ.aT++(k::r1)).Nodup:=by have:=h.W;rw [hdn] at this;exact this.sublist (by simp)
   have g1:∀ {F},aX _ 39 H1 F=F _:=fun{F} =>bO H1 f1 (by decide) (by decide) rfl;have ed:di (av k) ((ρ.aT++k::r1).map fun k=>(av k,V.j 1))=(ρ.aT++r1).map fun k=>(av k,V.j 1):=by rw [List.map_append,List.map_cons,lq,List.map_append];intro e he;obtain⟨k',hk',rfl⟩:=List.mem_map.mp he;intro q;have:=jS q;subst this;exact(List.nodup_append.mp hnd).2.2 _ hk' _ (by simp) rfl
   have f2':H1[ρ.n]?=some (.i (cP {ρ with tl:=k::r1})):=f2;have e4:∀ {G:AH→Prop},lZ (.y ρ.n) (av k) H1 G=G (H1.set ρ.n (.i ((ρ.aT++r1).map fun k=>(av k,V.j 1)))):=fun{G} =>by simp [lZ,f2',iU,kB];rw [show di _ (cP _)=_ from ed];simp
   have g2:(H1.set _ (.i ((ρ.aT++r1).map fun k=>(av k,V.j 1))))[ρ.r]?=some _:=aa f1 d.ra;have g3:∀ {F},aX _ 40 _ F=F _:=fun{F} =>bO _ g2 (by decide) (by decide) rfl;have g4:(H1.set _ (.i ((ρ.aT++r1).map fun k=>(av k,V.j 1))))[ρ.bk]?=some _:=aa f3 d.ak.symm;have e5:∀ {G:AH→Prop},cD (.y ρ.bk) (av k) (.D true) (H1.set ρ.n (.i ((ρ.aT++r1).map fun k=>(av k,V.j 1)))) G=G ((H1.set ρ.n (.i ((ρ.aT++r1).map fun k=>(av k,V.j 1)))).set ρ.bk (.i (eA (av k) (.D true) kn1))):=fun{G} =>by
    have ko:bI (av k) kn1:=⟨by rw [dS];simp,‹_›⟩;have kl:kn1.length<2^20:=by omega
    simp only [cD,g4,ko,kl,true_and]
   simp! [g1,e4,g3,e5];refine(qn _ _ ⟨dn++[k],r1,_,_,rfl,by rw [hdn];simp,rfl,aa g2 d.rk,aa (aj f2) d.ak,aj g4,aa (aa f4 d.jo.symm) d.kt.symm,aa (aa f5 d.an.symm) d.kn.symm,aa (aa f6 d.aw.symm) d.kw.symm,wm (dS k) f7,fun e he=>?_,by have:=uF (es:=kn1) (k:=av k) (v:=.D true);simp at f9;omega,fun i o e hi=>by have hn:=hi;simp [Rs.l] at hn;exact aa (aa (f10 i o e hi) hn.2.1) hn.2.2.1,by simpa using f11⟩).1
   ·rcases pY he with q|q
    ·exact f8 e q
    ·exact .inr ⟨k,by simp [*],q⟩
 ·rintro _ H1 ⟨dn,r1,kn1,a,e,hdn,rfl,f1,f2,f3,f4,f5,f6,f7,f8,f9,f10,f11⟩;have:r1=[] :=by cases r1<;>first|rfl|cases e
  subst this;refine⟨f4,?_⟩;simp! [];have g1:(H1++[ag.f []])[ρ.r]?=some _:=af f1;rw [mS _ g1 (by decide) (by decide) (by show 14≤60;decide),←f11];have hlt:∀p∈ρ.l,p<H1.length:=by
   intro p hp;simp [Rs.l] at hp;rcases hp with rfl|rfl|rfl|rfl|rfl|rfl
   ·exact aM f1
   ·exact aM f2
   ·exact aM f3
   ·exact aM f4
   ·exact aM f5
   ·exact aM f6
  have hr:=hlt ρ.r (by simp [Rs.l]);have hmem:∀ {p},p∈ρ.l→p≠H.length:=fun{p} hp=>by have:=hlt p hp;omega
  refine q _ kn1 ⟨aj g1,aa (af f2) d.ra.symm,aa (af f3) d.rk.symm,by rw [f11];exact aa ae (by show H1.length≠ρ.r;omega),aa (af f5) d.rn.symm,aa (af f6) d.rw.symm,by have z1:=h.cF;simp [Rs.l,List.nodup_cons,List.mem_cons,List.not_mem_nil,not_or,not_false_eq_true,List.nodup_nil,and_true] at z1 ⊢;have m4:=hmem (p:=ρ.aP) (by simp [Rs.l]);have m5:=hmem (p:=ρ.aO) (by simp [Rs.l]);exact⟨⟨d.ra,d.rk,hmem (by constructor),d.rn,d.rw⟩,⟨d.ak,hmem (by simp [Rs.l]),d.an,d.aw⟩,⟨hmem (by simp [Rs.l]),d.kn,d.kw⟩,(by omega),d.nw⟩,?_,by rw [List.append_nil];exact(List.nodup_append.mp h.W).1⟩ f8 (by omega) (fun i o e hi=>by have hn:=hi;simp [Rs.l] at hn;exact aa (af (f10 i o e hi)) hn.1) (by simp;omega)
  ·intro p hp;simp [Rs.l] at hp;have hrr:=h.bD;simp only [Rs.l] at hrr;rcases hp with rfl|rfl|rfl|rfl|rfl|rfl
   ·exact hrr _ (by simp)
   ·exact hrr _ (by simp)
   ·exact hrr _ (by simp)
   ·omega
   ·exact hrr _ (by simp)
   ·exact hrr _ (by simp)
end
def oe (τ:Tb)(mode:Int)(e:V×V):Prop:=∃s t b cs as p ct bs p',e=(av (s,t),.D b)∧Tm τ s cs as p∧Tm τ t ct bs p'∧aB (decide (mode=2)) cs as ct bs=b
def tY (τ:Tb)(mode:Int)(k:Int×Int):Prop:=∃cs as p ct bs p',Tm τ k.1 cs as p∧Tm τ k.2 ct bs p'∧aB (decide (mode=2)) cs as ct bs=true
def qH (τ:Tb)(mode:Int)(m:Nat)(far:List Int)(k:Int×Int):Prop:=k.2∈far∨∃cs as p ct bs p',Tm τ k.1 cs as p∧Tm τ k.2 ct bs p'∧(mu p as ct bs≤m→aB (decide (mode=2)) cs as ct bs=true)
theorem tY.ok {τ:Tb}{mode:Int}{m:Nat}{far:List Int}{k:Int×Int}(h:tY τ mode k):qH τ mode m far k:=
 let⟨cs,as,p,ct,bs,p',a,b,c⟩:=h;.inr (by grind)
theorem qH.le {τ:Tb}{mode:Int}{m m':Nat}{far:List Int}{k:Int×Int}(h:qH τ mode m far k)(hm:m'≤m):qH τ mode m' far k:=
 h.imp id (by grind)
theorem oe.aS {τ:Tb}{mode:Int}{e:V×V}(h:oe τ mode e):e.1.aS=3:=by obtain⟨s,t,b,_,_,_,_,_,_,rfl,_⟩:=h;rfl
structure tW (τ:Tb) (ρ:Rs) (m:Nat):Prop where
 kn:∀e∈ρ.kn,oe τ ρ.v e
 as:∀k∈ρ.aT++ρ.tl,qH τ ρ.v m ρ.cC k
 qQ:ρ.kn.length+ρ.tl.length≤ρ.Q
 M:ρ.M.length<2^19
 v:ρ.v≠3
 aT:ρ.aT.length≤4
 cC:∀i∈ρ.cC,∃r,bj τ i (.j 14::r)
structure aN (τ:Tb) (c:Nat) (H H':AH) (ρ ρ':Rs):Prop where
 bC:aq H' ρ'
 eq:ρ'= {ρ with tl:=ρ'.tl,kn:=ρ'.kn,Q:=ρ'.Q,G:=ρ'.G}
 tl:ρ.tl=[] →ρ'.tl=[]
 bq:ρ.tl≠ [] →ρ'.G=ρ.G∧∃x,ρ'.tl=ρ.tl++x∧∀k∈x,tY τ ρ.v k
 G:ρ'.G=ρ.G∨H.length≤ρ'.G
 kn:∀e∈ρ'.kn,e∈ρ.kn∨oe τ ρ.v e
 Q:ρ.Q≤ρ'.Q∧ρ'.Q≤ρ.Q+c
 qQ:ρ'.kn.length+ρ'.tl.length+ρ.Q≤ρ.kn.length+ρ.tl.length+ρ'.Q
 N:∀i o,H[i]?=some o→i∉ρ.l→H'[i]?=some o
 U:H.length≤H'.length
section
variable {H H' H1 H2:AH}{ρ ρ' ρ1 ρ2:Rs}{τ:Tb}{F:V→Prop}{Q:az}{n c d:Nat}
theorem aN.aD (h:aq H ρ):aN τ c H H ρ ρ:=⟨h,rfl,id,by simp,.inl rfl,by simp_all,by simp,by simp,by simp_all,by simp⟩
theorem aN.r (s:aN τ c H H' ρ ρ'):ρ'.r=ρ.r:=by rw [s.eq]
theorem aN.v (s:aN τ c H H' ρ ρ'):ρ'.v=ρ.v:=by rw [s.eq]
theorem aN.M (s:aN τ c H H' ρ ρ'):ρ'.M=ρ.M:=by rw [s.eq]
theorem aN.bM (s:aN τ c H H' ρ ρ'):ρ'.bM=ρ.bM:=by rw [s.eq]
theorem aN.aT (s:aN τ c H H' ρ ρ'):ρ'.aT=ρ.aT:=by rw [s.eq]
theorem aN.cC (s:aN τ c H H' ρ ρ'):ρ'.cC=ρ.cC:=by rw [s.eq]
theorem aN.l (s:aN τ c H H' ρ ρ'):ρ'.l=[ρ.r,ρ.n,ρ.bk,ρ'.G,ρ.aP,ρ.aO] :=by unfold Rs.l;rw [s.eq]
theorem aN.le (s:aN τ c H H' ρ ρ')(h:c≤d):aN τ d H H' ρ ρ':=⟨s.bC,s.eq,s.tl,s.bq,s.G,s.kn,⟨s.Q.1,by have:=s.Q.2;omega⟩,s.qQ,s.N,s.U⟩
theorem aN.trans (a:aN τ c H H1 ρ ρ1)(b:aN τ d H1 H2 ρ1 ρ2):aN τ (c+d) H H2 ρ ρ2:=by
 refine⟨b.bC,by rw [b.eq,a.eq],fun h=>b.tl (a.tl h),fun h=>?_,?_,fun e he=>?_,⟨Nat.le_trans a.Q.1 b.Q.1,by have:=a.Q.2;have:=b.Q.2;omega⟩,by have:=a.qQ;have:=b.qQ;omega,fun i o e hi=>?_,Nat.le_trans a.U b.U⟩
 ·obtain⟨t1,x,hx,tx⟩:=a.bq h;have h1:ρ1.tl≠ [] :=by simp_all
  obtain⟨t2,y,hy,ty⟩:=b.bq h1;refine⟨by omega,x++y,by grind,fun k hk=>?_⟩;rcases List.mem_append.mp hk with q|q
  ·simp_all
  ·have:=ty k q;rw [a.v] at this;omega
 ·rcases b.G with q|q
  ·rw [q];exact a.G
  ·exact .inr (Nat.le_trans a.U q)
 ·rcases b.kn e he with q|q
  ·exact a.kn e q
  ·rw [a.v] at q;simp_all
 ·apply b.N i o (a.N i o e hi);rw [a.l];simp [Rs.l,not_or] at hi ⊢;refine⟨hi.1,hi.2.1,hi.2.2.1,?_,by omega,by omega⟩;have:=aM e;rcases a.G with q|q
  ·omega
  omega
theorem aN.R (s:aN τ c H H' ρ ρ')(h:aq H ρ)(t:aY H τ):aY H' τ:=by
 have k:∀i o,H[i]?=some o→i<17∨i=18∨i=25→H'[i]?=some o:=fun i o e hi=>s.N i o e fun hm=>by have:=h.bD i hm;omega
 exact t.of k
theorem aN.sG {m:Nat}(s:aN τ c H H' ρ ρ')(I:tW τ ρ m):tW τ ρ' m:=by
 refine⟨fun e he=>by rw [s.v];exact(s.kn e he).elim (I.kn e) id,fun k hk=>?_,by have:=s.qQ;have:=I.qQ;omega,by rw [s.M];exact I.M,by rw [s.v];exact I.v,by rw [s.aT];exact I.aT,by rw [s.cC];exact I.cC⟩
 ·rw [s.v,s.cC];rw [s.aT] at hk;by_cases h:ρ.tl=[]
  ·rw [s.tl h] at hk;exact I.as k (by grind)
  ·obtain⟨_,x,hx,tx⟩:=s.bq h;rw [hx,←List.append_assoc] at hk;rcases List.mem_append.mp hk with q|q
   ·exact I.as k q
   ·exact(tx k q).ok
theorem yr {es:List (V×V)}{k v:V}(h:bR k es=some v):(k,v)∈es:=by
 induction es with
 |nil=>cases h
 |cons e r ih=>unfold bR at h;grind
theorem vQ {G:AH→Prop}(h:aq H ρ):ij (.y ρ.r) 43 (.j ((ρ.Q:Int)+1)) H G=G (H.set ρ.r (.J 5 (cM {ρ with Q:=ρ.Q+1}))):=mS H h.J (by simp) (by rfl) (by show 14≤60;simp)
theorem rl {G:AH→Prop}(h:aq H ρ)(x:Nat):ij (.y ρ.r) 29 (.j (x:Int)) H G=G (H.set ρ.r (.J 5 (cM {ρ with bM:=x}))):=mS H h.J (by simp) (by rfl) (by show 14≤60;simp)
theorem Jy:(cP ρ).length=ρ.aT.length+ρ.tl.length:=by unfold cP;simp
end
theorem aq.xh {H:AH}{ρ:Rs}(h:aq H ρ)(kn:List (V×V)):aq (H.set ρ.bk (.i kn)) {ρ with kn:=kn} :=by have d:=h.ne;exact⟨aa h.J d.rk,aa h.n d.ak,aj h.bk,aa h.G d.kt.symm,aa h.aP d.kn.symm,aa h.aO d.kw.symm,h.cF,h.bD,h.W⟩
theorem oN {H:AH}{ρ:Rs}{τ:Tb}{Q:az}{n m c p p':Nat}{s t:Int}{cs ct:List Int}{as bs:List Nat}{b:Bool}(h:aY H τ)(std:du τ)(hρ:aq H ρ)(I:tW τ ρ m)(htf:t∉ρ.cC)(hs:Tm τ s cs as p)(ht:Tm τ t ct bs p')(hmu:mu p as ct bs≤m)(hb:aB (decide (ρ.v=2)) cs as ct bs=b)
 (hl:ρ.Q+(c+1)≤19999) (hd:ρ.bM<60)
 (body:∀ {H1:AH} {ρ1:Rs} {Q1:az},aY H1 τ→aq H1 ρ1→ρ1.r=ρ.r→ρ1.v=ρ.v→ρ1.cC=ρ.cC→ρ1.tl≠ [] →ρ1.bM=ρ.bM+1→ρ1.Q=ρ.Q+1→(∀m',m'<mu p as ct bs→tW τ ρ1 m')→(∀H2 ρ2,aN τ c H1 H2 ρ1 ρ2→Q1 (.D b) H2)→X.w (n+1) 70 [.y ρ.r,.j s,.j t] H1 Q1)
 (q:∀H' ρ',aN τ (c+1) H H' ρ ρ'→(b=false→ρ'.tl=ρ.tl)→Q (.D b) H'):X.w (n+2) 62 [.y ρ.r,.j s,.j t] H Q:=by
 delta iE
 have dne:=hρ.ne
 have hko:bI (.B [.j s,.j t]) ρ.kn:=⟨by show(av (s,t)).aS≠0;rw [dS];decide,fun e he=>by rw [(I.kn e he).aS];rfl⟩
 have e1:∀ {B:Bool→Prop},aI .jm (.B [.j s,.j t]) (.y ρ.bk) H B=B (bR (av (s,t)) ρ.kn).isSome:=fun{B} =>by show jH _ (.y _) H B=_;simp [jH,hρ.bk,hko];rfl
 simp! [hρ.xq,e1]
 cases hlk:bR (av (s,t)) ρ.kn with
 |some v=>
  obtain⟨s',t',b',cs',as',q',ct',bs',q'',he,hs',ht',hg⟩:=I.kn _ (yr hlk)
  obtain⟨rfl,rfl⟩:=jS (congrArg Prod.fst he)
  obtain⟨rfl,rfl,rfl⟩:=hs.bE std hs'
  obtain⟨rfl,rfl,rfl⟩:=ht.bE std ht'
  have hv:v=.D b:=by have:=congrArg Prod.snd he;simp at this;rw [this,←hg,hb]
  subst hv
  have e2:∀ {F:V→Prop},aF (.y ρ.bk) (.B [.j s,.j t]) H F=F _:=fun{F} =>by simp [aF,hρ.bk,hko];rw [show bR (.B _) ρ.kn=some _ from hlk]
  simp! [e2]
  exact q H ρ (aN.aD hρ) (by simp)
 |none=>
  simp only [Option.isSome_none,Bool.false_eq_true,if_false]
  have e2:∀ {B:Bool→Prop},aI .jm (.B [.j s,.j t]) (.y ρ.n) H B=B (decide ((s,t)∈ρ.aT++ρ.tl)):=fun{B} =>by show jH (av (s,t)) (.y _) H B=_;simp [jH,hρ.n,iU,kB]
  simp! [hρ.gg,e2]
  by_cases hm:(s,t)∈ρ.aT++ρ.tl
  ·simp [hm];obtain⟨cs',as',q',ct',bs',q'',hs',ht',hg⟩:=(I.as _ hm).resolve_left htf;obtain⟨rfl,rfl,rfl⟩:=hs.bE std hs';obtain⟨rfl,rfl,rfl⟩:=ht.bE std ht';have hbt:b=true:=by rw [←hb];exact hg hmu
   subst hbt;exact q H ρ (aN.aD hρ) (by simp)
  ·simp only [hm,decide_false,Bool.false_eq_true,if_false];have l1:decide ((ρ.Q:Int)≥20000)=false:=by simp;omega
   have l2:decide ((ρ.bM:Int)≥60)=false:=by simp;omega
   simp! [hρ.Ki,hρ.xr,l1,l2,zK];rw [vQ hρ];have h1:aq (H.set ρ.r (.J 5 (cM {ρ with Q:=ρ.Q+1}))) {ρ with Q:=ρ.Q+1} :=hρ.pN rfl rfl rfl rfl rfl;generalize hH1:H.set ρ.r (.J 5 (cM {ρ with Q:=ρ.Q+1}))=H1 at h1;have t1:aY H1 τ:=by rw [←hH1];exact hρ.R h (by simp [Rs.l])
   have k1:∀i o,H[i]?=some o→i∉ρ.l→H1[i]?=some o:=fun i o e hi=>by rw [←hH1];exact aa e (fun q=>hi (by rw [q];constructor))
   have len1:H1.length=H.length:=by rw [←hH1];simp
   have i1:H1[ρ.r]?=some (.J 5 (cM {ρ with Q:=ρ.Q+1})):=h1.J;rw [i1];simp only [Iy];refine⟨by decide,rfl,td (ρ:= {ρ with Q:=ρ.Q+1}) h1 ?_⟩;have hk1:bI (.B [.j s,.j t]) (cP {ρ with Q:=ρ.Q+1}):=iU (s,t);have hal:(cP {ρ with Q:=ρ.Q+1}).length<2^20:=by rw [Jy];show ρ.aT.length+ρ.tl.length<_;have:=I.aT;have:=I.qQ;omega
   have e3:∀ {G:AH→Prop},cD (.y ρ.n) (.B [.j s,.j t]) (.j 1) H1 G=G (H1.set ρ.n (.i (eA (av (s,t)) (.j 1) (cP {ρ with Q:=ρ.Q+1})))):=fun{G} =>by simp [cD,show H1[ρ.n]?=some _ from h1.n,hk1,hal];rfl
   have ga1:∀ {F},aX (.y ρ.r) 39 H1 F=F (.y ρ.n):=h1.gg;simp! [ga1,e3];have h2:aq _ _:=h1.z9 (k:=(s,t)) hm;have gr2:(H1.set ρ.n (.i (eA (av (s,t)) (.j 1) (cP {ρ with Q:=ρ.Q+1}))))[ρ.r]?=some (.J 5 (cM {ρ with Q:=ρ.Q+1})):=aa h1.J dne.ra;have gt2:(H1.set ρ.n (.i (eA (av (s,t)) (.j 1) (cP {ρ with Q:=ρ.Q+1}))))[ρ.G]?=some (.f (ρ.tl.map av)):=aa h1.G dne.jo.symm;have e4:∀ {F},aX (.y ρ.r) 41 (H1.set ρ.n (.i (eA (av (s,t)) (.j 1) (cP {ρ with Q:=ρ.Q+1})))) F=F (.y ρ.G):=fun{F} =>bO _ gr2 (by decide) (by decide) rfl;have e5:∀ {G:AH→Prop},jE (.y ρ.G) (.B [.j s,.j t]) (H1.set ρ.n (.i (eA (av (s,t)) (.j 1) (cP {ρ with Q:=ρ.Q+1})))) G=G ((H1.set ρ.n (.i (eA (av (s,t)) (.j 1) (cP {ρ with Q:=ρ.Q+1})))).set ρ.G (.f (ρ.tl.map av++[av (s,t)]))):=fun{G} =>cS _ gt2 (by rw [List.length_map];have:=I.qQ;omega)
   have e6:dK (.y ρ.G) (H1.set ρ.n (.i (eA (av (s,t)) (.j 1) (cP {ρ with Q:=ρ.Q+1}))))=1:=bN _ gt2;simp! [e4,e5,e6];generalize hH2:(H1.set ρ.n (.i (eA (av (s,t)) (.j 1) (cP {ρ with Q:=ρ.Q+1})))).set ρ.G (.f (ρ.tl.map av++[av (s,t)]))=H2;have h2':aq H2 {ρ with Q:=ρ.Q+1,tl:=ρ.tl++[(s,t)] } :=by rw [←hH2];exact h2
   have t2:aY H2 τ:=by have a:=hρ.bD ρ.G (by simp [Rs.l]);rw [←hH2];exact(h1.R (x:=.i (eA (av (s,t)) (.j 1) (cP {ρ with Q:=ρ.Q+1}))) t1 (p:=ρ.n) (by simp [Rs.l])).of fun _ _ e _=>aa e (by omega)
   have k2:∀i o,H[i]?=some o→i∉ρ.l→H2[i]?=some o:=fun i o e hi=>by have hn:=hi;simp [Rs.l,not_or] at hn;rw [←hH2];exact aa (aa (k1 i o e hi) hn.2.1) hn.2.2.2.1
   have len2:H2.length=H.length:=by rw [←hH2];simpa using len1
   have gd2:∀ {F},aX (.y ρ.r) 29 H2 F=F (.j ρ.bM):=h2'.xr;have sd2:∀ {G},ij (.y ρ.r) 29 (.j ((ρ.bM:Int)+1)) H2 G=G (H2.set ρ.r (.J 5 (cM {ρ with Q:=ρ.Q+1,tl:=ρ.tl++[(s,t)],bM:=ρ.bM+1}))):=fun{G} =>rl h2' (ρ.bM+1);simp! [gd2,sd2,zK];obtain⟨ρ3,hρ3⟩:∃ρ3:Rs,ρ3= {ρ with Q:=ρ.Q+1,tl:=ρ.tl++[(s,t)],bM:=ρ.bM+1} :=⟨_,rfl⟩;rw [←hρ3];have h3:aq (H2.set ρ.r (.J 5 (cM ρ3))) ρ3:=by rw [hρ3];exact h2'.pN rfl rfl rfl rfl rfl
   have t3:aY (H2.set ρ.r (.J 5 (cM ρ3))) τ:=h2'.R t2 (p:=ρ.r) (by simp [Rs.l]);generalize hH3:H2.set ρ.r (.J 5 (cM ρ3))=H3 at h3 t3;have k3:∀i o,H[i]?=some o→i∉ρ.l→H3[i]?=some o:=fun i o e hi=>by rw [←hH3];exact aa (k2 i o e hi) (fun q=>hi (by rw [q];constructor))
   have len3:H3.length=H.length:=by rw [←hH3];simpa using len2
   have r3:ρ3.r=ρ.r:=by rw [hρ3]
   have m3:ρ3.v=ρ.v:=by rw [hρ3]
   have gm:∀ {F},aX (.y ρ.r) 37 H3 F=F (.j ρ.v):=fun{F} =>by rw [←r3,←m3];exact h3.eJ
   simp! [gm,I.v,decide_false];refine body t3 h3 r3 m3 (by rw [hρ3]) (by rw [hρ3];simp) (by rw [hρ3]) (by rw [hρ3]) (fun m' hm'=>?_) fun H4 ρ4 S=>?_
   ·rw [hρ3];refine⟨I.kn,fun k hk=>?_,by have:=I.qQ;simp;omega,I.M,I.v,I.aT,I.cC⟩;have hk':k∈(ρ.aT++ρ.tl)++[(s,t)] :=by rw [List.append_assoc];omega
    rcases List.mem_append.mp hk' with a|a
    ·exact(I.as k a).le (by omega)
    ·simp at a;subst a;exact .inr ⟨cs,as,p,ct,bs,p',hs,ht,(by omega)⟩
   have r4:ρ4.r=ρ.r:=S.r.trans r3;have d4:ρ4.bM=ρ.bM+1:=by rw [S.bM,hρ3]
   have h4:=S.bC;have gd4:∀ {F},aX (.y ρ.r) 29 H4 F=F (.j ((ρ.bM+1:Nat):Int)):=fun{F} =>by rw [←r4,←d4];exact h4.xr
   have sd4:∀ {G},ij (.y ρ.r) 29 (.j (((ρ.bM+1:Nat):Int)-1)) H4 G=G (H4.set ρ.r (.J 5 (cM {ρ4 with bM:=ρ.bM}))):=fun{G} =>by rw [show((ρ.bM+1:Nat))-1=(ρ.bM:Int) by omega,←r4];exact rl h4 _
   simp! [gd4,sd4];obtain⟨ρ5,hρ5⟩:∃ρ5:Rs,ρ5= {ρ4 with bM:=ρ.bM} :=⟨_,rfl⟩;rw [←hρ5];have h5:aq (H4.set ρ.r (.J 5 (cM ρ5))) ρ5:=by rw [hρ5,←r4];exact h4.pN rfl rfl rfl rfl rfl
   have t5:aY (H4.set ρ.r (.J 5 (cM ρ5))) τ:=h4.R (S.R h3 t3) (p:=ρ.r) (by simp [Rs.l,r4]);generalize hH5:H4.set ρ.r (.J 5 (cM ρ5))=H5 at h5 t5;have tr4:ρ4.G=ρ.G:=by rw [(S.bq (by rw [hρ3];simp)).1,hρ3]
   obtain⟨x,hx,tx⟩:=(S.bq (by rw [hρ3];simp)).2;have eq5:ρ5= {ρ with tl:=ρ4.tl,kn:=ρ4.kn,Q:=ρ4.Q} :=by rw [hρ5,S.eq,hρ3];simp;omega
   have tl4:ρ4.tl=ρ.tl++((s,t)::x):=by rw [hx,hρ3];simp
   have r5:ρ5.r=ρ.r:=by rw [eq5]
   have pl5:ρ5.l=ρ.l:=by rw [eq5];rfl
   have pl3:ρ3.l=ρ.l:=by rw [hρ3];rfl
   have k5:∀i o,H[i]?=some o→i∉ρ.l→H5[i]?=some o:=fun i o e hi=>by rw [←hH5];exact aa (S.N i o (k3 i o e hi) (by rw [pl3];omega)) (fun q=>hi (by rw [q];constructor))
   have len5:H.length≤H5.length:=by rw [←hH5];have:=S.U;simp;omega
   have lk4:ρ.Q+1≤ρ4.Q∧ρ4.Q≤ρ.Q+1+c:=by have:=S.Q;rw [hρ3] at this;exact this
   have cap4:ρ4.kn.length+ρ4.tl.length+(ρ.Q+1)≤ρ.kn.length+(ρ.tl.length+1)+ρ4.Q:=by have:=S.qQ;rw [hρ3] at this;simpa using this
   have kn4:∀e∈ρ4.kn,e∈ρ.kn∨oe τ ρ.v e:=fun e he=>by have:=S.kn e he;rw [hρ3] at this;exact this
   have kk4:∀e∈ρ4.kn,e.1.aS=3:=fun e he=>(kn4 e he).elim (fun q=>(I.kn e q).aS) oe.aS;have cap:=I.qQ;have l4:ρ4.tl.length=ρ.tl.length+(1+x.length):=by rw [tl4];simp;omega
   have tr5:ρ5.G=ρ.G:=by rw [eq5]
   have kn_f:b=false→oe τ ρ.v (av (s,t),.D false):=fun e=>⟨s,t,false,cs,as,p,ct,bs,p',rfl,hs,ht,by rw [hb,e]⟩;have kn_t:b=true→oe τ ρ.v (av (s,t),.D true):=fun e=>⟨s,t,true,cs,as,p,ct,bs,p',rfl,hs,ht,by rw [hb,e]⟩;cases b with
   |false=>
    simp only [mO,Bool.not_false,if_true];have h5':aq H5 {ρ5 with tl:=ρ.tl++((s,t)::x)} :=by rw [←tl4,show({ρ5 with tl:=ρ4.tl})=ρ5 by rw [eq5]];omega
    have rw5:ρ5.M=ρ.M:=by rw [eq5]
    have cc:=JZ (X:=X) (n:=n) (ρ:=ρ5) (tl:=ρ.tl) (x:=(s,t)::x) (Q:=fun v H=>if decide ((ρ.tl.length:Int)=0)=true then aX (.y ρ.r) 40 H fun v_1=>cD v_1 (.B [.j s,.j t]) (.D false) H fun H=>Q (.D false) H
     else aX (.y ρ.r) 37 H fun v_1=>aI .ne v_1 (.j 4) H fun r=>if r=true then aX (.y ρ.r) 40 H fun v_2=>cD v_2 (.B [.j s,.j t]) (.D false) H fun H=>Q (.D false) H else Q (.D false) H) h5' t5 (by rw [rw5];have:=I.M;omega) (fun H6 h6 k6 len6=>?_)
    ·rw [r5,rw5] at cc;exact cc
    ·obtain⟨ρ6,hρ6⟩:∃ρ6:Rs,ρ6= {ρ with kn:=ρ4.kn,Q:=ρ4.Q} :=⟨_,rfl⟩;have h6':aq H6 ρ6:=by
      have:({ρ5 with tl:=ρ.tl})=ρ6:=by rw [hρ6,eq5]
      rw [←this];omega
     have keep6:∀i o,H[i]?=some o→i∉ρ.l→H6[i]?=some o:=fun i o e hi=>by have hn:=hi;simp [Rs.l,not_or] at hn;exact k6 i o (k5 i o e hi) (by rw [tr5];exact hn.2.2.2.1) (by rw [show ρ5.n=ρ.n by rw [eq5]];exact hn.2.1)
     have st6:aN τ (c+1) H H6 ρ ρ6:=by exact⟨h6',by rw [hρ6],fun e=>by rw [hρ6];omega,fun _=>⟨by rw [hρ6],[],by rw [hρ6];simp,by simp⟩,.inl (by rw [hρ6]),fun e he=>by rw [hρ6] at he;exact kn4 e he,by rw [hρ6];show ρ.Q≤ρ4.Q∧ρ4.Q≤ρ.Q+(c+1);omega,by rw [hρ6];show ρ4.kn.length+ρ.tl.length+ρ.Q≤ρ.kn.length+ρ.tl.length+ρ4.Q;omega,keep6,by omega⟩
     have st7:aN τ (c+1) H (H6.set ρ6.bk (.i (eA (av (s,t)) (.D false) ρ4.kn))) ρ {ρ6 with kn:=eA (av (s,t)) (.D false) ρ4.kn} :=by
      refine⟨h6'.xh (eA (av (s,t)) (.D false) ρ4.kn),by rw [hρ6],fun e=>by rw [hρ6];omega,fun _=>⟨by rw [hρ6],[],by rw [hρ6];simp,by simp⟩,.inl (by rw [hρ6]),fun e he=>?_,by rw [hρ6];show ρ.Q≤ρ4.Q∧ρ4.Q≤ρ.Q+(c+1);omega,by have:=uF (es:=ρ4.kn) (k:=av (s,t)) (v:=.D false);rw [hρ6];show(eA _ _ ρ4.kn).length+ρ.tl.length+ρ.Q≤ρ.kn.length+ρ.tl.length+ρ4.Q;omega,fun i o e hi=>aa (keep6 i o e hi) (fun z=>hi (by rw [z,hρ6];simp [Rs.l])),by simp;omega⟩
      ·rcases pY he with z|z
       ·exact kn4 e z
       ·simp [*]
     have r6:ρ6.r=ρ.r:=by rw [hρ6]
     have ka:ρ6.bk=ρ.bk:=by rw [hρ6]
     have g6:∀ {F},aX (.y ρ.r) 40 H6 F=F (.y ρ.bk):=fun{F} =>by rw [←r6,←ka];exact h6'.xq
     have gm6:∀ {F},aX (.y ρ.r) 37 H6 F=F (.j ρ.v):=fun{F} =>by rw [←r6,show ρ.v=ρ6.v by rw [hρ6]];exact h6'.eJ
     have kd6:H6[ρ.bk]?=some (.i ρ4.kn):=by rw [←ka];rw [h6'.bk,hρ6]
     have si6:∀ {G:AH→Prop},cD (.y ρ.bk) (.B [.j s,.j t]) (.D false) H6 G=G (H6.set ρ6.bk (.i (eA (av (s,t)) (.D false) ρ4.kn))):=fun{G} =>by
      have ko:bI (.B _) ρ4.kn:=⟨by show(av (s,t)).aS≠0;rw [dS];simp,‹_›⟩;have kl:ρ4.kn.length<2^20:=by omega
      simp [cD,kd6,ko,kl,ka];rfl
     simp only [g6,gm6,si6,si];split
     ·exact q _ _ st7 fun _=>by rw [hρ6]
     ·split
      ·exact q _ _ st7 fun _=>by rw [hρ6]
      ·exact q _ _ st6 fun _=>by rw [hρ6]
   |true=>
    simp only [mO,Bool.not_true,Bool.false_eq_true,if_false];by_cases hz:ρ.tl=[]
    ·rw [if_pos (by simp [*])];have nt5:ρ5.aP=ρ.aP:=by rw [eq5]
     have nr5:ρ5.aO=ρ.aO:=by rw [eq5]
     have rw5:ρ5.M=ρ.M:=by rw [eq5]
     have g5:∀ {F},aX (.y ρ.r) 44 H5 F=F (.y ρ.aP):=fun{F} =>by rw [←r5,←nt5];exact h5.eC
     have g5':∀ {F},aX (.y ρ.aP) 0 H5 F=F (.y ρ.aO):=fun{F} =>by rw [←nt5,←nr5];exact h5.eB
     have n5:H5[ρ.aO]?=some (.f ρ.M):=by rw [←nr5,←rw5];exact h5.aO
     simp! [g5,g5',bh H5 n5];rw [←r5];have k45:ρ5.kn=ρ4.kn:=by rw [eq5]
     have t45:ρ5.tl=ρ4.tl:=by rw [eq5]
     refine Jr h5 t5.U (by rw [k45];omega) (by rw [k45,t45];omega) fun H8 kn' h8 hkn' hl' k8 len8=>q _ _ ⟨h8,by rw [eq5],(by simp),fun e=>absurd hz e,.inr len5,fun e he=>?_,by rw [eq5];show ρ.Q≤ρ4.Q∧ρ4.Q≤ρ.Q+(c+1);omega,by rw [k45,t45] at hl';rw [eq5];show kn'.length+0+ρ.Q≤ρ.kn.length+ρ.tl.length+ρ4.Q;omega,fun i o e hi=>k8 i o (k5 i o e hi) (by rw [pl5];omega),by omega⟩ (by simp)
     ·rcases hkn' e he with z|⟨k,hk,z⟩
      ·rw [k45] at z;exact kn4 e z
      ·rw [t45,tl4,hz] at hk;rcases List.mem_cons.mp hk with a|a
       ·simp [*]
       ·have⟨cs1,as1,p1,ct1,bs1,p1',b1,b2,b3⟩:=tx k a;rw [m3] at b3;rw [z];exact .inr ⟨k.1,k.2,true,cs1,as1,p1,ct1,bs1,p1',rfl,b1,b2,b3⟩
    ·rw [if_neg (by simp [*])];refine q H5 ρ5 ⟨h5,by rw [eq5],fun e=>absurd e hz,fun _=>⟨tr5,_,by rw [eq5];omega,fun k hk=>?_⟩,.inl tr5,fun e he=>by rw [eq5] at he;exact kn4 e he,by rw [eq5];show ρ.Q≤ρ4.Q∧ρ4.Q≤ρ.Q+(c+1);omega,by rw [eq5];show ρ4.kn.length+ρ4.tl.length+ρ.Q≤ρ.kn.length+ρ.tl.length+ρ4.Q;omega,k5,len5⟩ (by simp)
     ·rcases List.mem_cons.mp hk with a|a
      ·subst a;exact⟨cs,as,p,ct,bs,p',hs,ht,hb⟩
      ·have:=tx k a;rw [m3] at this;omega
section
variable {H:AH}{ρ:Rs}{τ:Tb}{F:V→Prop}{Q:az}{n:Nat}
abbrev hO (b:Int):Int:=if b<0∨b=0 then 1 else b
theorem JQ {pid b:Int}(h:aY H τ)(hb:vm τ pid b)(q:Q (.j (hO b)) H):X.w (n+1) 75 [.y 4,.j pid] H Q:=by
 delta lR;have e:∀ {F:V→Prop},aF _ _ H F=F _:=fun{F} =>by rw [aA H pid h.Z];exact pQ hb.1 hb.2.1 hb.2.2
 simp! [h.ue,e];grind
theorem KH {a b:Int}(h7:a≠7∧b≠7)(h13:a≠13)(q:∀r,(a∈lC∨b∈lC→r=2)→(¬(a∈lC∨b∈lC)→r=4∨r=5)→Q (.j r) H):X.w (n+1) 71 [.j a,.j b] H Q:=by delta nI;have e1:∀ {B:Bool→Prop},gb _ _ B=B _:=aR a [11,12];have e2:∀ {B:Bool→Prop},gb _ _ B=B _:=aR b [11,12];simp! [kX];grind
theorem rx {r s t:Int}(h:aY H τ)(hρ:aq H ρ)(hr:r≠2)(q:Q (.D false) H):X.w (n+1) 56 [.y ρ.r,.j r,.j s,.j t] H Q:=by
 delta k0;have e:∀ {F:V→Prop},rJ (.y 18) [.j r] H F=F .aE:=fun{F} =>by
  have hk:bI (.j r) [(V.j 2,V.y 25)] :=⟨by simp [V.aS],fun e he=>by simp at he;subst he;rfl⟩;have hl:bR (.j r) [(V.j 2,V.y 25)] =none:=by unfold bR;rw [if_neg (by simpa using Ne.symm hr)];rfl
  simp only [rJ,h.jK,hk,hl,true_and];rfl
 simp! [hρ.xo,sZ H h.jK,e,decide_true,Bool.not_true];omega
theorem oS {s t k:Int}{r:List V}(h:aY H τ)(hρ:aq H ρ)(hs:bj τ s (.j k::r))(hk:k≠10)(q:Q (.D false) H):X.w (n+1) 86 [.y ρ.r,.j s,.j t] H Q:=by delta eG;simp! [hρ.dM,h.cK,h.bx,h.I hs,hk,decide_false,Bool.not_false];omega
theorem mB {s t:Int}(h:aY H τ)(hρ:aq H ρ)(hm:ρ.v≠3)(q:X.w (n+1) 86 [.y ρ.r,.j s,.j t] H Q):X.w (n+3) 56 [.y ρ.r,.j 2,.j s,.j t] H Q:=by
 delta k0;have e:∀ {F:V→Prop},rJ (.y 18) [.j 2] H F=F (.y 25):=fun{F} =>by have hk:bI (.j 2) [(V.j 2,V.y 25)] :=⟨by decide,by simp⟩;simp [rJ,h.jK,hk];rfl
 have e2:decide (V.y 25=V.aE)=false:=by simp
 simp! [hρ.xo,sZ H h.jK,e];rw [h.sI];refine⟨by simp,rfl,?_⟩;delta fG;simp! [hρ.eJ,hm,decide_false,Bool.not_false];omega
theorem uC {s t pid b:Int}(h:aY H τ)(hρ:aq H ρ)(hs:bj τ s [.j 10,.j pid])(hb:vm τ pid b)(hne:hO b≠s)(q:X.w (n+1) 52 [.y ρ.r,.j (hO b),.j t] H Q):X.w (n+2) 86 [.y ρ.r,.j s,.j t] H Q:=by delta eG;simp! [hρ.dM,h.cK,h.bx,h.I hs];apply JQ h hb;simp! [hne];rw [hρ.J];trivial
end
section
variable {H:AH}{ρ:Rs}{τ:Tb}{F:V→Prop}{Q:az}{n:Nat}
theorem aN.eJ {c:Nat}{H1:AH}{ρ1:Rs}(S:aN τ c H H1 ρ ρ1):aX (.y ρ.r) 37 H1 F=F (.j ρ.v):=by rw [←S.r,←S.v];exact S.bC.eJ
theorem aN.J {c:Nat}{H1:AH}{ρ1:Rs}(S:aN τ c H H1 ρ ρ1):H1[ρ.r]?=some (.J 5 (cM ρ1)):=by rw [←S.r];exact S.bC.J
theorem Li {s t:Int}{L:List Int}{k:Nat}{f:Int→Bool}(h:aY H τ)(hρ:aq H ρ)(hp:cp τ s L)
 (ask:∀i∈L,∀ {H1:AH} {ρ1:Rs} {Q1:az} (j:Nat),j<L.length→aN τ (k*j) H H1 ρ ρ1→(∀H2 ρ2,aN τ k H1 H2 ρ1 ρ2→Q1 (.D (f i)) H2)→X.w (n+1) 52 [.y ρ.r,.j i,.j t] H1 Q1)
 (q:∀H' ρ',aN τ (k*L.length) H H' ρ ρ'→Q (.D (if ρ.v=2 then L.any f else L.all f)) H'):X.w (n+2) 72 [.y ρ.r,.j s,.j t] H Q:=by
 delta kx
 simp! [hρ.dM,h.cK]
 apply eQ h hp
 refine br (fun vs env H1=>∃dn rest ρ1 a,vs=zs rest∧L=dn++rest∧env=[some _,some _,some _,a] ∧aN τ (k*dn.length) H H1 ρ ρ1∧(ρ.v=2→dn.any f=false)∧(ρ.v≠2→dn.all f=true)) ?_ ?_ ⟨[],L,ρ,_,rfl,rfl,rfl,aN.aD hρ,by simp,by simp⟩
 ·rintro _ r _ H1 ⟨dn,rest,ρ1,a,e,hL,rfl,S,i1,i2⟩;refine⟨trivial,fun q' qn qr=>?_⟩;cases rest with
  |nil=>cases e
  |cons i rest=>
   cases e;simp! [];rw [S.J];refine⟨by simp,rfl,?_⟩;have hlen:L.length=dn.length+(rest.length+1):=by rw [hL];simp
   refine ask i (by rw [hL];simp) _ (by omega) S fun H2 ρ2 S2=>?_;have S12:aN τ (k*(dn++[i]).length) H H2 ρ ρ2:=(S.trans S2).le (by simp [Nat.mul_add]);have Sfin:aN τ (k*L.length) H H2 ρ ρ2:=S12.le (Nat.mul_le_mul_left k (by rw [hlen];simp));simp! [S12.eJ];cases hf:f i with
   |true=>
    by_cases hm:ρ.v=2
    ·simp [hm];apply qr _ _ _;show Q _ _;have:=q H2 ρ2 Sfin;rw [if_pos hm] at this;rw [show L.any f=true by rw [hL];simp [hf]] at this;omega
    ·simp [hm];exact(qn _ _ ⟨_,_,ρ2,_,rfl,by rw [hL];simp,rfl,S12,by omega,fun _=>by rw [List.all_append,i2 hm];simp [hf]⟩).1
   |false=>
    by_cases hm:ρ.v=2
    ·simp [hm];exact(qn _ _ ⟨_,_,ρ2,_,rfl,by rw [hL];simp,rfl,S12,fun _=>by rw [List.any_append,i1 hm];simp [hf],by omega⟩).1
    ·simp [hm];apply qr _ _ _;show Q _ _;grind
 ·rintro _ H1 ⟨dn,rest,ρ1,a,e,hL,rfl,S,i1,i2⟩;have:rest=[] :=by cases rest<;>first|rfl|cases e
  refine⟨trivial,?_⟩;simp! [S.eJ];grind
theorem aN.eC {c:Nat}{H1:AH}{ρ1:Rs}(S:aN τ c H H1 ρ ρ1):aX (.y ρ.r) 44 H1 F=F (.y ρ.aP):=by rw [←S.r,show ρ.aP=ρ1.aP by rw [S.eq]];exact S.bC.eC
theorem aN.eB {c:Nat}{H1:AH}{ρ1:Rs}(S:aN τ c H H1 ρ ρ1):aX (.y ρ.aP) 0 H1 F=F (.y ρ.aO):=by rw [show ρ.aP=ρ1.aP by rw [S.eq],show ρ.aO=ρ1.aO by rw [S.eq]];exact S.bC.eB
theorem aN.aO {c:Nat}{H1:AH}{ρ1:Rs}(S:aN τ c H H1 ρ ρ1):H1[ρ.aO]?=some (.f ρ.M):=by rw [show ρ.aO=ρ1.aO by rw [S.eq],←S.M];exact S.bC.aO
theorem KQ {c:Nat}{H1:AH}{ρ1:Rs}(S:aN τ c H H1 ρ ρ1)(q:Q (.B [.j ρ1.M.length,.j ρ1.tl.length]) H1):X.w (n+1) 54 [.y ρ.r] H1 Q:=by rw [←S.r];exact td S.bC q
theorem KA {s:Int}{L:List Int}{k:Nat}{f:Int→Bool}(hρ:aq H ρ)
 (ask:∀i∈L,∀ {H1:AH} {ρ1:Rs} {Q1:az} (j:Nat),j<L.length→aN τ (k*j) H H1 ρ ρ1→(∀H2 ρ2,aN τ k H1 H2 ρ1 ρ2→Q1 (.D (f i)) H2)→X.w (n+1) 52 [.y ρ.r,.j s,.j i] H1 Q1)
 (q:∀H' ρ',aN τ (k*L.length) H H' ρ ρ'→Q (.D (L.any f)) H'):X.w (n+2) 73 [.y ρ.r,.j s,.B (zs L)] H Q:=by
 apply aC.hV rfl (Nat.le_refl _) (Nat.le_refl _)
 refine br (fun vs env H1=>∃dn rest ρ1 a b,vs=zs rest∧L=dn++rest∧env=[some _,some _,some _,some _,a,b] ∧aN τ (k*dn.length) H H1 ρ ρ1∧dn.any f=false) ?_ ?_ ⟨[],L,ρ,_,_,rfl,rfl,rfl,aN.aD hρ,rfl⟩
 ·rintro _ r _ H1 ⟨dn,rest,ρ1,a,b,e,hL,rfl,S,i1⟩;refine⟨trivial,fun q' qn qr=>?_⟩;cases rest with
  |nil=>cases e
  |cons i rest=>
   cases e;simp! [];rw [S.J];refine⟨by simp,rfl,?_⟩;apply KQ S;rw [S.J];refine⟨by simp,rfl,?_⟩;have hlen:L.length=dn.length+(rest.length+1):=by rw [hL];simp
   refine ask i (by rw [hL];simp) _ (by omega) S fun H2 ρ2 S2=>?_;have S12:aN τ (k*(dn++[i]).length) H H2 ρ ρ2:=(S.trans S2).le (by simp [Nat.mul_add]);have Sfin:aN τ (k*L.length) H H2 ρ ρ2:=S12.le (Nat.mul_le_mul_left k (by rw [hlen];simp));cases hf:f i with
   |true=>simp! [S12.eC,S12.eB,bh H2 S12.aO,S.M];apply qr _ _ _;show Q _ _;have:=q H2 ρ2 Sfin;rw [show L.any f=true by rw [hL];simp [hf]] at this;omega
   |false=>simp! [];grind
 ·rintro _ H1 ⟨dn,rest,ρ1,a,b,e,hL,rfl,S,i1⟩;have:rest=[] :=by cases rest<;>first|rfl|cases e
  subst this;rw [List.append_nil] at hL;subst hL;refine⟨trivial,?_⟩;simp! [decide_true];have:=q H1 ρ1 S;rw [i1] at this;omega
end
section
variable {H:AH}{ρ:Rs}{τ:Tb}{F:V→Prop}{Q:az}{n:Nat}
theorem yh {c:Nat}{H1:AH}{ρ1:Rs}{r s t:Int}(S:aN τ c H H1 ρ ρ1)(hρ:aq H ρ)(h:aY H τ)(hr:r≠2)(q:Q (.D false) H1):X.w (n+1) 56 [.y ρ.r,.j r,.j s,.j t] H1 Q:=by rw [←S.r];exact rx (S.R hρ h) S.bC hr q
theorem MD {s t ks:Int}{r:List V}{L:List Int}{k:Nat}{f:Int→Bool}(h:aY H τ)(hρ:aq H ρ)(hs:bj τ s (.j ks::r))(h7:ks≠7)(h12:ks≠12)(hp:cp τ t L)(hself:s∈L→f s=true)
 (ask:∀i∈L,∀ {H1:AH} {ρ1:Rs} {Q1:az} (j:Nat),j<L.length→aN τ (k*j) H H1 ρ ρ1→(∀H2 ρ2,aN τ k H1 H2 ρ1 ρ2→Q1 (.D (f i)) H2)→X.w (n+1) 52 [.y ρ.r,.j s,.j i] H1 Q1)
 (q1:L.any f=true→∀H' ρ',aN τ (k*L.length) H H' ρ ρ'→Q (.D true) H')
 (q2:L.any f=false→ks∉lC→∀H' ρ',aN τ (k*L.length) H H' ρ ρ'→Q (.D false) H')
 (q3:L.any f=false→ks∈lC→∀H' ρ',aN τ (k*L.length) H H' ρ ρ'→X.w (n+2) 56 [.y ρ.r,.j 2,.j s,.j t] H' Q):X.w (n+3) 74 [.y ρ.r,.j s,.j t] H Q:=by
 delta nE
 simp! [hρ.dM,h.cK]
 apply eQ h hp
 have e:∀ {B:Bool→Prop},gb _ (zs L) B=B _:=aR s L
 simp! [e]
 by_cases hm:s∈L
 ·simp [hm];exact q1 (by grind) H ρ (aN.aD hρ)
 simp [hm]
 refine KA hρ ask fun H1 ρ1 S=>?_
 cases ha:L.any f with
 |true=>exact q1 ha H1 ρ1 S
 |false=>
  have t1:=S.R hρ h
  have e3:∀ {B:Bool→Prop},gb _ [.j 8,.j 9] B=B _:=aR ks [8,9]
  simp! [t1.bx,t1.I hs,kX,h7,e3]
  by_cases hd:ks∈lC
  ·grind
  ·simp only [hd,decide_false,Bool.false_eq_true];refine iv (fun _=>?_) (fun _=>?_)
   ·exact yh S hρ h (by simp) (q2 ha hd H1 ρ1 S)
   grind
theorem dA {s t ks kt:Int}{rs rt:List V}(h:aY H τ)(hρ:aq H ρ)(hs:bj τ s (.j ks::rs))(ht:bj τ t (.j kt::rt))(h7:ks≠7∧kt≠7)(h13:ks≠13)
 (q1:ks=6→X.w (n+3) 72 [.y ρ.r,.j s,.j t] H Q) (q2:ks≠6→kt=6→X.w (n+3) 74 [.y ρ.r,.j s,.j t] H Q)
 (q3:ks≠6→kt≠6→ks∈lC∨kt∈lC→X.w (n+3) 56 [.y ρ.r,.j 2,.j s,.j t] H Q) (q4:ks≠6→kt≠6→¬(ks∈lC∨kt∈lC)→Q (.D false) H):X.w (n+4) 70 [.y ρ.r,.j s,.j t] H Q:=by
 delta j5
 simp! [hρ.dM,h.cK,h.bx,h.I hs,h.I ht]
 by_cases a:ks=6
 ·grind
 by_cases b:kt=6
 ·grind
 simp [a,b]
 refine KH h7 h13 fun r hr1 hr2=>?_
 by_cases hd:ks∈lC∨kt∈lC
 ·grind
 ·refine rx h hρ ?_ (q4 a b hd);grind
end
section
variable {H:AH}{ρ:Rs}{τ:Tb}{F:V→Prop}{Q:az}{n:Nat}
theorem LH {s:Int}(hρ:aq H ρ)(q:Q (.D true) H):X.w (n+2) 52 [.y ρ.r,.j s,.j s] H Q:=by apply aC.hV rfl (Nat.le_refl _) (Nat.le_refl _);delta fF;simp! [decide_true];omega
theorem zL {s t v1 v2:Int}{rs rt:List V}(h:aY H τ)(hρ:aq H ρ)(hm:ρ.v≠3)(hst:s≠t)(hs:bj τ s rs)(hs':dH rs)(ht:bj τ t rt)(ht':dH rt)
 (h1:∀ {Q:az},Q (.j v1) H→X.w (n+3) 64 [.y ρ.r,.j s,.j t] H Q)
 (h2:ρ.v=2→t≠2→∀ {Q:az},Q (.j v2) H→X.w (n+3) 64 [.y ρ.r,.j t,.j s] H Q)
 (q1:v1=1∨(ρ.v=2∧t≠2∧v2=1)→Q (.D true) H)
 (q2:¬(v1=1∨(ρ.v=2∧t≠2∧v2=1))→v1<0→X.w (n+3) 62 [.y ρ.r,.j s,.j t] H Q)
 (q3:¬(v1=1∨(ρ.v=2∧t≠2∧v2=1))→¬v1<0→Q (.D false) H):X.w (n+5) 52 [.y ρ.r,.j s,.j t] H Q:=by
 apply aC.hV rfl (Nat.le_refl _) (Nat.le_refl _)
 delta fF
 simp! [hst,hρ.dM]
 apply iP h hs hs'
 simp! [hρ.dM]
 apply iP h ht ht'
 simp! [hst,hρ.eJ,hm]
 apply h1
 simp! [hρ.eJ]
 by_cases a:v1=1
 ·grind
 simp [a]
 by_cases b:ρ.v=2
 ·simp [b];by_cases c:t=2
  ·grind
  ·simp [c];apply h2 b c;simp! [];grind
 grind
end
theorem rC (a:Nat):kJ a a=true:=by simp [kJ]
theorem pC (a:Nat):iW a a=true:=by simp [iW,kJ]
theorem iu (a:Nat):kJ a 10=true:=by simp [kJ]
theorem mG (a:Nat):iW a 10=true:=by simp [iW,kJ]
theorem HD:∀a<16,∀b<16,(a==b||a==10||b==10||(decide (de 1 a b=1)==kJ a b&&decide (de 4 a b=1)==kJ a b&&(decide (de 2 a b=1)||decide (de 2 b a=1))==iW a b))=true:=by decide+kernel
theorem Kr {a b:Nat}(ha:a<16)(hb:b<16)(h:a≠b)(h1:a≠10)(h2:b≠10):(de 1 a b=1↔kJ a b=true)∧(de 4 a b=1↔kJ a b=true)∧((de 2 a b=1∨de 2 b a=1)↔iW a b=true):=by have:=HD a ha b hb;grind
theorem wC (both:Bool){τ:Tb}{t:Int}{c:List Int}{as:List Nat}{p:Nat}(h:Tm τ t c as p):aB both c as c as=true:=by
 unfold aB;have key:as.isEmpty=true∨dg both as as=true:=by
  cases as with
  |nil=>simp
  |cons a r=>
   right;unfold dg;split
   ·rw [List.any_eq_true];exact⟨a,by simp,List.any_eq_true.mpr ⟨a,by simp,pC a⟩⟩
   ·rw [List.all_eq_true];intro b hb;exact List.any_eq_true.mpr ⟨b,hb,rC b⟩
 grind
theorem ec {both:Bool}{cs:List Int}{as:List Nat}{t:Int}{ct:List Int}{bs:List Nat}(h1:as≠ [])(h2:t∉cs):aB both cs as (t::ct) bs=(both&&as==[10]):=by unfold aB;grind
theorem b9 {both:Bool}{cs:List Int}{as:List Nat}{bs:List Nat}(h1:as≠ []):aB both cs as [] bs=dg both as bs:=by unfold aB;grind
theorem rI {both:Bool}{s:Int}{c:List Int}{as:List Nat}{ct:List Int}{bs:List Nat}(h:∀x,ct.head?=some x→x≠s):aB both (s::c) as ct bs=aB both c as ct bs:=by unfold aB;grind
theorem ya {both:Bool}{as bs:List Nat}(h:as.length=1):dg both as bs=bs.any fun b=>dg both as [b] :=by
 obtain⟨a,rfl⟩:∃a,as=[a] :=by
  cases as with
  |nil=>trivial
  |cons a r=>grind
 cases both<;>simp [dg]
theorem vS {both:Bool}{as bs:List Nat}{b:Nat}(hb:b∈bs)(h:dg both as [b] =true):dg both as bs=true:=by unfold dg at*;grind
theorem tC:∀i∈ [0,1,2,3,4,5,6,7,10,13],∃r,bu[i]?=some (.B (.j 1::r)):=by intro i hi;simp at hi;rcases hi with rfl|rfl|rfl|rfl|rfl|rfl|rfl|rfl|rfl|rfl<;>exact⟨_,rfl⟩
theorem bj.dz {τ:Tb}(std:du τ){t k:Int}{r:List V}(h:bj τ t (.j k::r))(hk:k≠1):t∉ [0,1,2,3,4,5,6,7,10,13] :=by
 intro hm;have h0:t.toNat∈ [0,1,2,3,4,5,6,7,10,13] :=by simp at hm ⊢;omega
 obtain⟨r',hr'⟩:=tC _ h0;have hlt:t<16:=by simp at hm;omega
 have:=(std.I h.1 hlt hr').bE h;grind
theorem Tm.cm {τ:Tb}(std:du τ){t:Int}{c:List Int}{as:List Nat}{p:Nat}(h:Tm τ t c as p):t≠0∧t≠13∧t≠10:=by
 cases h with
 |cq h=>have:=h.no std;simp [gu,not_or] at this;omega
 |o=>omega
 |ba _ _ h3 _ _=>have:=h3.dz std (by simp);simp_all
 |gG h1 _ h3=>have:=h1.dz std (by grind);simp_all
 |hU h1 _ _=>have:=h1.dz std (by simp);simp_all
theorem Tm.jL {τ:Tb}(std:du τ){t:Int}{c:List Int}{as:List Nat}{p:Nat}(h:Tm τ t c as p):∃l,cp τ t l∧¬(11∈l∧5∈l):=by
 have one:∀ {t:Int},¬(11∈ [t] ∧5∈ [t]):=fun{t} h=>by simp at h;omega
 cases h with
 |cq h=>obtain⟨_,hr,_,k,r',rfl,hk⟩:=(h.lD std).I;exact⟨[t],.mn (h.lD std).no.2.1 hk hr,one⟩
 |o=>exact⟨[],.o,by simp⟩
 |ba h1 h2 h3 h4 h5=>refine⟨_,.ba h1 h2 h3,fun h=>?_⟩;obtain⟨a,_,ha⟩:=h4.kK h.1;exact ha.no std (by decide)
 |gG h1 _ h3=>exact⟨[t],.mn (fun e=>h1.dz std (by grind) (by rw [e];simp)) (by grind) h1,one⟩
 |hU h1 _ _=>have:=h1.dz std (by simp);exact⟨[t],.mn (by grind) (by simp) h1,one⟩
theorem ux {H:AH}{ρ:Rs}{τ:Tb}{Q:az}{n:Nat}{s t ks kt v:Int}{rs rt:List V}{cs ct:List Int}{as bs:List Nat}{p p':Nat}(h:aY H τ)(std:du τ)(hρ:aq H ρ)(hst:s≠t)(hs:Tm τ s cs as p)(ht:Tm τ t ct bs p')(rs':bj τ s (.j ks::rs))(rt':bj τ t (.j kt::rt))
 (hv:∀a b,At τ s a→At τ t b→v=de ρ.v a b) (q:Q (.j (cT ρ.v s t ks kt v)) H):X.w (n+5) 64 [.y ρ.r,.j s,.j t] H Q:=by
 obtain⟨l,hp,hl⟩:=ht.jL std
 have i1:=hs.cm std
 have i2:=ht.cm std
 refine x7 h hρ rs' rt' hp hl i1.1 i1.2.1 i2.1 i2.2.1 i2.2.2 (fun hto hks hkt Q q=>?_) q
 have atom:∀ {t k:Int} {r:List V} {c:List Int} {as:List Nat} {p:Nat},Tm τ t c as p→bj τ t (.j k::r)→k∈w7→t≠2→∃a,At τ t a:=by
  intro t k r c as p h hr hk h2;cases h with
  |cq h=>exact⟨_,h⟩
  |o=>omega
  |ba _ _ h3 _ _=>have:=h3.bE hr;grind
  |gG h1 _ h3=>have:=h1.bE hr;simp at this;simp only [List.mem_cons,List.not_mem_nil,or_false] at hk h3;omega
  |hU h1 _ _=>have:=h1.bE hr;grind
 have s2:s≠2:=by rintro rfl;unfold d6 at hto;omega
 have t2:t≠2:=by
  rintro rfl;have ho:ks∉zV:=fun z=>by simp only [List.mem_cons,List.not_mem_nil,or_false] at hks z;omega
  unfold d6 at hto;rw [if_neg s2,if_neg (by simp)] at hto;by_cases h1:s=1
  ·rw [if_pos h1,if_neg fun z=>by simp only [List.mem_cons,List.not_mem_nil,or_false] at hkt z;omega] at hto;omega
  grind
 obtain⟨a,ha⟩:=atom hs rs' hks s2
 obtain⟨b,hb⟩:=atom ht rt' hkt t2
 have hab:a≠b:=by rintro rfl;exact hst (ha.inj h hb)
 refine xD h std hρ ha hb hab (fun e=>by subst e;exact hb.no std (by decide)) ?_
 ·rw [←hv a b ha hb];omega
theorem K0 {H:AH}{ρ:Rs}{τ:Tb}{Q:az}{n m p p':Nat}{s t ks kt:Int}{rs rt:List V}{cs ct:List Int}{as bs:List Nat}(h:aY H τ)(std:du τ)(hρ:aq H ρ)(I:tW τ ρ m)(htf:t∉ρ.cC)(hs:Tm τ s cs as p)(ht:Tm τ t ct bs p')(hmu:mu p as ct bs≤m)
 (rs':bj τ s (.j ks::rs)) (rt':bj τ t (.j kt::rt)) (h7:ks≠7∧kt≠7) (h13:ks≠13) (h6:ks≠6∧kt≠6) (h10:ks≠10) (hb:aB (decide (ρ.v=2)) cs as ct bs=false) (hl:ρ.Q+1≤19999) (hd:ρ.bM<60)
 (q:∀H' ρ',aN τ 1 H H' ρ ρ'→ρ'.tl=ρ.tl→Q (.D false) H'):X.w (n+8) 62 [.y ρ.r,.j s,.j t] H Q:=by
 refine oN h std hρ I htf hs ht hmu hb hl hd ?_ (by grind)
 intro H1 ρ1 Q1 t1 r1 er em _ _ _ _ inv k
 have fin:=k H1 ρ1 (aN.aD r1)
 rw [←er]
 refine dA t1 r1 rs' rt' h7 h13 (by omega) (by omega) (fun _ _ _=>?_) fun _ _ _=>fin
 apply mB t1 r1 (by rw [em];exact I.v)
 exact oS t1 r1 rs' h10 fin
def gY (X:aC)(τ:Tb)(m d:Nat):Prop:=
 ∀ {H:AH} {ρ:Rs} {Q:az} {s t:Int} {cs ct:List Int} {as bs:List Nat} {p p':Nat},aY H τ→aq H ρ→tW τ ρ m→t∉ρ.cC→Tm τ s cs as p→Tm τ t ct bs p'→mu p as ct bs≤m→ρ.Q+cU p as ct bs≤19999→ρ.bM+mu p as ct bs<60→(ρ.v=1∨ρ.v=2∨ρ.v=4)→(∀H' ρ',aN τ (cU p as ct bs) H H' ρ ρ'→(aB (decide (ρ.v=2)) cs as ct bs=false→ρ'.tl=ρ.tl)→Q (.D (aB (decide (ρ.v=2)) cs as ct bs)) H')→X.w d 52 [.y ρ.r,.j s,.j t] H Q
theorem gY.x {τ:Tb}{m d d':Nat}(h:gY X τ m d)(hd:d≤d'):gY X τ m d':=fun a b c z d e f g i j k=>X.x (h a b c z d e f g i j k) hd
theorem wQ (p ks:Nat):1≤dx p ks:=by unfold dx;omega
theorem wO:∀(p ks kt:Nat),1≤fk p ks kt
 |0,ks,kt=>by unfold fk;split<;>omega
 |p+1,ks,kt=>by unfold fk;omega
theorem se (p:Nat)(as:List Nat)(ct:List Int)(bs:List Nat):1≤cU p as ct bs:=by
 unfold cU;split
 ·exact wO _ _ _
 ·exact wQ _ _
def ay (τ:Tb)(i:Int):Nat:=match τ.M[i.toNat]? with
 |some (V.B l)=>aQ.findIdx (fun r=>decide (r=l))
 |_=>16
theorem wB:∀a<16,aQ.findIdx (fun r=>decide (r=bt a))=a:=by decide+kernel
theorem At.of {τ:Tb}{i:Int}{a:Nat}(h:At τ i a):ay τ i=a:=by unfold ay;rw [h.I.2.2];exact wB a h.lt
theorem eI.map {τ:Tb}{l:List Int}{r:List Nat}(h:eI τ l r):l.map (ay τ)=r:=by
 induction h with
 |m=>rfl
 |cons a _ ih=>rw [List.map_cons,a.of,ih]
theorem eI.uh {τ:Tb}{l:List Int}{r:List Nat}(h:eI τ l r)(g:Nat→Bool):(l.any fun i=>g (ay τ i))=r.any g:=by rw [←h.map,List.any_map];rfl
theorem eI.A7 {τ:Tb}{l:List Int}{r:List Nat}(h:eI τ l r)(g:Nat→Bool):(l.all fun i=>g (ay τ i))=r.all g:=by rw [←h.map,List.all_map];rfl
theorem cZ {mode s ks kt v:Int} :cT mode s 1 ks kt v=1:=by unfold cT d6;simp
theorem Tm.ud {τ:Tb}(std:du τ){t k:Int}{r:List V}{c:List Int}{as:List Nat}{p:Nat}(h:Tm τ t c as p)(hr:bj τ t (.j k::r)):k≠7∧k≠13:=by
 cases h with
 |cq h=>have:=h.eM.bE hr;have z:=(bZ _ h.lt).2.1;grind
 |o=>have:=(std.I (by simp) (by simp) rfl).bE hr;grind
 |ba _ _ h3 _ _=>have:=h3.bE hr;grind
 |gG h1 _ h3=>have:=h1.bE hr;grind
 |hU h1 _ _=>have:=h1.bE hr;grind
theorem gj {mode s t ks kt v:Int}(h2:s≠2)(ht:t≠1)(h1:s≠1)(h:ks∈zV∨(t≠2∧kt∈zV)):cT mode s t ks kt v= -1:=by
 have e:d6 mode s t ks kt= -1:=by unfold d6;grind
 unfold cT;grind
theorem sU {mode t ks kt v:Int}(ht:t≠1)(hk:kt∉lC):cT mode 1 t ks kt v=0:=by
 have e:d6 mode 1 t ks kt=0:=by unfold d6;grind
 unfold cT;omega
theorem kC {H:AH}{ρ:Rs}{τ:Tb}{Q:az}{n m p p':Nat}{s t ks kt v1 v2:Int}{rs rt:List V}{cs ct:List Int}{as bs:List Nat}(h:aY H τ)(std:du τ)(hρ:aq H ρ)(I:tW τ ρ m)(htf:t∉ρ.cC)(hst:s≠t)(hs:Tm τ s cs as p)(ht:Tm τ t ct bs p')(hmu:mu p as ct bs≤m)
 (rs':bj τ s (.j ks::rs)) (ss:dH (.j ks::rs)) (rt':bj τ t (.j kt::rt)) (st:dH (.j kt::rt)) (hl:ρ.Q+cU p as ct bs≤19999) (hd:ρ.bM<60)
 (hv1:∀a b,At τ s a→At τ t b→v1=de ρ.v a b) (hv2:∀a b,At τ t a→At τ s b→v2=de ρ.v a b)
 (yes:cT ρ.v s t ks kt v1=1∨(ρ.v=2∧t≠2∧cT ρ.v t s kt ks v2=1)→aB (decide (ρ.v=2)) cs as ct bs=true)
 (no:¬(cT ρ.v s t ks kt v1=1∨(ρ.v=2∧t≠2∧cT ρ.v t s kt ks v2=1))→aB (decide (ρ.v=2)) cs as ct bs=false∧(cT ρ.v s t ks kt v1<0→ks≠6∧kt≠6∧ks≠10))
 (q:∀H' ρ',aN τ (cU p as ct bs) H H' ρ ρ'→(aB (decide (ρ.v=2)) cs as ct bs=false→ρ'.tl=ρ.tl)→Q (.D (aB (decide (ρ.v=2)) cs as ct bs)) H'):X.w (n+10) 52 [.y ρ.r,.j s,.j t] H Q:=by
 have here:=q H ρ (aN.aD hρ) (by simp)
 refine zL h hρ I.v hst rs' ss rt' st (fun k=>X.x (ux (n:=0) h std hρ hst hs ht rs' rt' hv1 k) (by omega)) (fun _ _ _ k=>X.x (ux (n:=0) h std hρ (Ne.symm hst) ht hs rt' rs' hv2 k) (by omega)) (fun y=>?_) (fun y z=>?_) fun y z=>?_
 ·grind
 ·obtain⟨g,w⟩:=no y;obtain⟨a6,b6,a10⟩:=w z;have hh:=hs.ud std rs';have hh':=ht.ud std rt';refine K0 h std hρ I htf hs ht hmu rs' rt' (by omega) hh.2 ⟨a6,b6⟩ a10 g (by have:=se p as ct bs;omega) hd fun H' ρ' S e=>?_;have:=q H' ρ' (S.le (se _ _ _ _)) fun _=>e;grind
 grind
theorem eP {mode s t ks kt v:Int}(h2:s≠2)(ht:t≠1)(h:s=1∨t=2∨ks∉w7∨kt∉w7):cT mode s t ks kt v≠1:=by
 unfold cT;have e:d6 mode s t ks kt≠1∧(d6 mode s t ks kt<0→(s=1→kt∈lC)∧(t=2→ks∈zV∨s=1)):=by unfold d6;grind
 grind
theorem rh {mode s t ks kt v:Int}(h2:s≠2)(ht:t≠1)(h1:s≠1)(ht2:t≠2)(hs:ks∈w7)(hk:kt∈w7):cT mode s t ks kt v=v:=by
 unfold cT;have e:d6 mode s t ks kt= -1:=by unfold d6;omega
 have no:¬(ks∈zV∨kt∈zV):=by simp only [List.mem_cons,List.not_mem_nil,or_false] at*;omega
 grind
theorem tr:∀b<17,b≠10→b≠16→kJ 16 b=false∧kJ b 16=false:=by decide
theorem oY:∀b<17,b≠10→kJ 10 b=false:=by decide
theorem JR {a:Nat}(h:a<16):a<17∧a≠16:=by omega
inductive mx (τ:Tb):Int→Int→List Int→List Nat→Prop
 |o:mx τ 2 1 [] []
 |cq {t:Int} {a:Nat} :At τ t a→mx τ t (aW a) [] [a]
 |gG {t k:Int} :k∈ [8,9,11,14,15] →t≠1→t≠2→mx τ t k [t] [16]
inductive LJ (τ:Tb):Int→Int→List Int→List Nat→Prop
 |qM {t k:Int} {c:List Int} {as:List Nat} :mx τ t k c as→LJ τ t k c as
 |hU {t:Int} {c:List Int} {as:List Nat} :t≠1→t≠2→LJ τ t 10 (t::c) as
theorem eO {H:AH}{τ:Tb}{t:Int}{a:Nat}(h:aY H τ)(std:du τ)(ha:At τ t a):t=1↔a=10:=bV h std ha rfl
theorem qx {τ:Tb}{t:Int}{a:Nat}(std:du τ)(ha:At τ t a):t≠2:=fun e=>ha.no std (by rw [e];decide)
theorem yC {H:AH}{τ:Tb}{mode s t ks kt:Int}{cs ct:List Int}{as bs:List Nat}(h:aY H τ)(std:du τ)(hm:mode=1∨mode=2∨mode=4)(hst:s≠t)(hs:mx τ s ks cs as)(ht:LJ τ t kt ct bs):
 aB (decide (mode=2)) cs as ct bs=true↔(cT mode s t ks kt (de mode (ay τ s) (ay τ t))=1∨(mode=2∧t≠2∧cT mode t s kt ks (de mode (ay τ t) (ay τ s))=1)):=by
 have atv:=fun{a} ha=>(bZ a ha).2.1
 have opv:∀ {k:Int},k∈ [8,9,11,14,15] →k∉w7:=fun{k} hk=>by grind
 cases hs with
 |o=>exact⟨fun _=>.inl rfl,fun _=>rfl⟩
 |cq ha=>
  rename_i a
  have s2:=qx std ha
  by_cases t1:t=1
  ·subst t1;have hb:bs=[10] ∧ct=[] :=by
    cases ht with
    |qM ht=>cases ht with
     |cq hb=>rw [(eO h std hb).mp rfl];exact⟨rfl,rfl⟩
     |gG _ q _=>exact absurd rfl q
    |hU q _=>exact absurd rfl q
   rw [hb.1,hb.2,cZ,b9 (by simp)];unfold dg;simp [iu,mG]
  by_cases s1:s=1
  ·have a10:=(eO h std ha).mp s1;subst s1 a10;have n1:cT mode 1 t (aW 10) kt (de mode (ay τ 1) (ay τ t))≠1:=eP (by simp) t1 (.inl rfl);rw [cZ];simp [n1];cases ht with
   |qM ht=>cases ht with
    |o=>
     rw [b9 (by simp)];constructor
     ·intro q;unfold dg at q;simp at q
     simp
    |cq hb=>
     rename_i b
     have b10:=fun e=>t1 ((eO h std hb).mpr e)
     rw [b9 (by simp)]
     by_cases m2:mode=2
     ·simp [m2,dg,iW,iu,qx std hb]
     ·simp [m2,dg,oY b (JR hb.lt).1 b10]
    |gG q _ q2=>rw [ec (by simp) (by simp)];grind
   |hU q q2=>rw [ec (by simp) (by simp)];grind
  have a10:a≠10:=fun e=>s1 ((eO h std ha).mpr e)
  cases ht with
  |qM ht=>cases ht with
   |o=>
    have n1:cT mode s 2 (aW a) 1 (de mode (ay τ s) (ay τ 2))≠1:=eP s2 t1 (.inr (.inl rfl))
    rw [b9 (by simp)]
    simp only [n1]
    constructor
    ·intro q;unfold dg at q;simp at q
    simp
   |cq hb=>
    rename_i b
    have t2:=qx std hb
    have b10:=fun e=>t1 ((eO h std hb).mpr e)
    have hab:a≠b:=by rintro rfl;exact hst (ha.inj h hb)
    rw [rh s2 t1 s1 t2 (atv ha.lt) (atv hb.lt),rh t2 s1 t1 s2 (atv hb.lt) (atv ha.lt),ha.of,hb.of,b9 (by simp)]
    have v:=Kr ha.lt hb.lt hab a10 b10
    rcases hm with m|m|m
    ·subst m;simp [dg,v.1]
    ·subst m;simp [dg,←v.2.2,t2,ne_eq]
    ·subst m;simp [dg,v.2.1]
   |gG q q1 q2=>
    have n1:cT mode s t (aW a) kt (de mode (ay τ s) (ay τ t))≠1:=eP s2 t1 (.inr (.inr (.inr (opv q))))
    have n2:cT mode t s kt (aW a) (de mode (ay τ t) (ay τ s))≠1:=eP q2 s1 (.inr (.inr (.inl (opv q))))
    rw [ec (by simp) (by simp)]
    simp [n1,n2,a10]
  |hU q1 q2=>
   have n1:cT mode s t (aW a) 10 (de mode (ay τ s) (ay τ t))≠1:=eP s2 t1 (.inr (.inr (.inr (by decide))))
   have n2:cT mode t s 10 (aW a) (de mode (ay τ t) (ay τ s))≠1:=eP q2 s1 (by simp)
   rw [ec (by simp) (by simp)]
   simp [n1,n2,a10]
 |gG hk s1 s2=>
  by_cases t1:t=1
  ·subst t1;have hb:bs=[10] ∧ct=[] :=by
    cases ht with
    |qM ht=>cases ht with
     |cq hb=>rw [(eO h std hb).mp rfl];exact⟨rfl,rfl⟩
     |gG _ q _=>exact absurd rfl q
    |hU q _=>exact absurd rfl q
   rw [hb.1,hb.2,cZ,b9 (by simp)];unfold dg;simp [iu,mG]
  have n1:cT mode s t ks kt (de mode (ay τ s) (ay τ t))≠1:=eP s2 t1 (.inr (.inr (.inl (opv hk))))
  have n2:t≠2→cT mode t s kt ks (de mode (ay τ t) (ay τ s))≠1:=fun z=>eP z s1 (.inr (.inr (.inr (opv hk))))
  have g:aB (decide (mode=2)) [s] [16] ct bs=false:=by
   cases ht with
   |qM ht=>cases ht with
    |o=>rw [b9 (by simp)];unfold dg;simp
    |cq hb=>
     rename_i b
     have b10:=fun e=>t1 ((eO h std hb).mpr e)
     have hl2:=JR hb.lt
     have:=tr b hl2.1 b10 hl2.2
     rw [b9 (by simp)];unfold dg;simp [iW,this.1,this.2]
    |gG q q1 q2=>rw [ec (by simp) (by simpa using Ne.symm hst)];simp
   |hU q1 q2=>rw [ec (by simp) (by simpa using Ne.symm hst)];simp
  grind
theorem gY.vp {τ:Tb}{m d c:Nat}(A:gY X τ m d){H1 Hj:AH}{ρ1 ρj:Rs}{Q:az}{s t:Int}{cs ct:List Int}{as bs:List Nat}{p p':Nat}(h1:aY H1 τ)(r1:aq H1 ρ1)(I1:tW τ ρ1 m)(S:aN τ c H1 Hj ρ1 ρj)(htf:t∉ρ1.cC)(hs:Tm τ s cs as p)(ht:Tm τ t ct bs p')(hmu:mu p as ct bs≤m)
 (hl:ρ1.Q+c+cU p as ct bs≤19999) (hd:ρ1.bM+mu p as ct bs<60) (hm:ρ1.v=1∨ρ1.v=2∨ρ1.v=4)
 (q:∀H2 ρ2,aN τ (cU p as ct bs) Hj H2 ρj ρ2→Q (.D (aB (decide (ρ1.v=2)) cs as ct bs)) H2):X.w d 52 [.y ρ1.r,.j s,.j t] Hj Q:=by
 rw [←S.r]
 refine A (S.R r1 h1) S.bC (S.sG I1) (by rw [S.cC];omega) hs ht hmu (by have:=S.Q.2;omega) (by rw [S.bM];omega) (by rw [S.v];omega) fun H2 ρ2 S2 _=>?_
 rw [S.v];exact q H2 ρ2 S2
theorem kD {H:AH}{ρ:Rs}{τ:Tb}{Q:az}{n m c p p':Nat}{s t ks kt:Int}{rs rt:List V}{cs ct:List Int}{as bs:List Nat}(h:aY H τ)(std:du τ)(hρ:aq H ρ)(I:tW τ ρ m)(htf:t∉ρ.cC)(hst:s≠t)(hs:Tm τ s cs as p)(ht:Tm τ t ct bs p')(hmu:mu p as ct bs≤m)
 (rs':bj τ s (.j ks::rs)) (ss:dH (.j ks::rs)) (rt':bj τ t (.j kt::rt)) (st:dH (.j kt::rt)) (hc:cU p as ct bs=c+1) (hl:ρ.Q+cU p as ct bs≤19999) (hd:ρ.bM<60)
 (n1:∀v,cT ρ.v s t ks kt v= -1) (n2:t≠2→∀v,cT ρ.v t s kt ks v= -1)
 (body:∀ {H1:AH} {ρ1:Rs} {Q1:az},aY H1 τ→aq H1 ρ1→ρ1.r=ρ.r→ρ1.v=ρ.v→ρ1.cC=ρ.cC→ρ1.bM=ρ.bM+1→ρ1.Q=ρ.Q+1→(∀m',m'<mu p as ct bs→tW τ ρ1 m')→(∀H2 ρ2,aN τ c H1 H2 ρ1 ρ2→Q1 (.D (aB (decide (ρ.v=2)) cs as ct bs)) H2)→X.w (n+7) 70 [.y ρ.r,.j s,.j t] H1 Q1)
 (q:∀H' ρ',aN τ (cU p as ct bs) H H' ρ ρ'→(aB (decide (ρ.v=2)) cs as ct bs=false→ρ'.tl=ρ.tl)→Q (.D (aB (decide (ρ.v=2)) cs as ct bs)) H'):X.w (n+10) 52 [.y ρ.r,.j s,.j t] H Q:=by
 have fact:∀ {P:Prop},cT ρ.v s t ks kt (de ρ.v (ay τ s) (ay τ t))=1∨ρ.v=2∧t≠2∧cT ρ.v t s kt ks (de ρ.v (ay τ t) (ay τ s))=1→P:=fun y=>by grind
 refine zL h hρ I.v hst rs' ss rt' st (fun k=>X.x (ux (n:=0) h std hρ hst hs ht rs' rt' fun a b ha hb=>by rw [ha.of,hb.of] k) (by omega)) (fun _ _ _ k=>X.x (ux (n:=0) h std hρ (Ne.symm hst) ht hs rt' rs' fun a b ha hb=>by rw [ha.of,hb.of] k) (by omega)) fact (fun _ _=>?_) fun _ z=>?_
 ·refine oN h std hρ I htf hs ht hmu rfl (by omega) hd (fun t1 r1 er em ef _ ed el inv k=>body t1 r1 er em ef ed el inv k) fun H' ρ' S e=>?_;rw [←hc] at S;exact q H' ρ' S e
 grind
theorem tD (both:Bool){as:List Nat}(h2:2≤as.length)(h10:10∉as)(ct:List Int)(bs:List Nat):aB both [] as ct bs=if both=true then as.any (fun a=>aB both [] [a] ct bs) else as.all fun a=>aB both [] [a] ct bs:=by
 have hne:as≠ [] :=by rintro rfl;trivial
 cases ct with
 |nil=>
  rw [b9 hne];have:(fun a=>aB both [] [a] [] bs)=fun a=>dg both [a] bs:=by rfl
  rw [this];cases both<;>simp [dg]
 |cons x r=>
  rw [ec hne (by simp)];have e:∀a∈as,aB both [] [a] (x::r) bs=false:=fun a ha=>by rw [ec (by simp) (by simp)];grind
  cases both with
  |true=>grind
  |false=>
   cases as with
   |nil=>trivial
   |cons a r=>simp_all
theorem mx.tm {τ:Tb}(std:du τ){t k:Int}{r:List V}{c:List Int}{as:List Nat}{p:Nat}(h:Tm τ t c as p)(hr:bj τ t (.j k::r))(h6:k≠6)(h10:k≠10):mx τ t k c as∧p=0:=by
 cases h with
 |cq h=>have:=h.eM.bE hr;simp at this;rw [←this.1];exact⟨.cq h,rfl⟩
 |o=>have:=(std.I (by simp) (by simp) rfl).bE hr;simp at this;rw [←this.1];exact⟨.o,rfl⟩
 |ba _ _ h3 _ _=>have:=h3.bE hr;grind
 |gG h1 _ h3=>have:=h1.bE hr;simp at this;rw [←this.1];have z:=h1.dz std (by grind);simp at z;exact⟨.gG h3 (by omega) (by omega),rfl⟩
 |hU h1 _ _=>have:=h1.bE hr;grind
theorem LJ.tm {τ:Tb}(std:du τ){t k:Int}{r:List V}{c:List Int}{as:List Nat}{p:Nat}(h:Tm τ t c as p)(hr:bj τ t (.j k::r))(h6:k≠6):LJ τ t k c as:=by
 by_cases h10:k=10
 ·subst h10;have z:=hr.dz std (by simp);simp at z;cases h with
  |hU h1 _ _=>exact .hU (by omega) (by omega)
  |cq h=>have:=h.eM.bE hr;simp at this;exact absurd this.1 (cN _ h.lt).2.2.2.1
  |o=>omega
  |ba _ _ h3 _ _=>have:=h3.bE hr;grind
  |gG h1 _ h3=>have:=h1.bE hr;grind
 ·exact .qM (mx.tm std h hr h6 h10).1
theorem Tm.un {τ:Tb}(std:du τ){t:Int}{r:List V}{c:List Int}{as:List Nat}{p:Nat}(h:Tm τ t c as p)(hr:bj τ t (.j 6::r)):c=[] ∧p=0∧2≤as.length∧10∉as∧t≠1∧t≠2∧∃l,cp τ t l∧eI τ l as:=by
 have z:=hr.dz std (by simp);simp at z;cases h with
 |ba h1 h2 h3 h4 h5=>exact⟨rfl,rfl,by rw [←h4.U];omega,h5,by omega,by omega,_,.ba h1 h2 h3,h4⟩
 |hU h1 _ _=>have:=h1.bE hr;grind
 |cq h=>have:=h.eM.bE hr;simp at this;exact absurd this.1 (cN _ h.lt).1
 |o=>omega
 |gG h1 _ h3=>have:=h1.bE hr;grind
theorem Tm.pr {τ:Tb}(std:du τ){t:Int}{r:List V}{c:List Int}{as:List Nat}{p:Nat}(h:Tm τ t c as p)(hr:bj τ t (.j 10::r)):t≠1∧t≠2∧∃pid b c' p',r=[.j pid] ∧c=t::c'∧p=p'+1∧vm τ pid b∧Tm τ (hO b) c' as p':=by
 have z:=hr.dz std (by simp);simp at z;cases h with
 |hU h1 h2 h3=>have:=h1.bE hr;grind
 |ba _ _ h3 _ _=>have:=h3.bE hr;grind
 |cq h=>have:=h.eM.bE hr;simp at this;exact absurd this.1 (cN _ h.lt).2.2.2.1
 |o=>omega
 |gG h1 _ h3=>have:=h1.bE hr;grind
theorem jC (p ks kt:Nat):fk (p+1) ks kt=1+kt*dx (p+1) ks+fk p ks kt:=rfl
theorem mx.N9 {τ:Tb}{t k:Int}{c:List Int}{as:List Nat}(h:mx τ t k c as):k≠12:=by
 cases h with
 |o=>simp
 |cq ha=>have z:=(bZ _ ha.lt).2.1;grind
 |gG hk _ _=>grind
theorem Jz {τ:Tb}(std:du τ):∀m,gY X τ m (8*m+10):=by
 intro m;induction m using Nat.strongRecOn with
 |ind m ih=>
 intro H ρ Q s t cs ct as bs p p' h hρ I htf hs ht hmu hl hd hm q;by_cases hst:s=t
 ·subst hst;obtain⟨rfl,rfl,rfl⟩:=hs.bE std ht;have:=q H ρ (aN.aD hρ) (by simp);rw [wC _ hs] at this;exact X.x (LH (n:=0) hρ this) (by omega)
 have nofar:∀ {i:Int} {a:Nat},At τ i a→i∉ρ.cC:=fun{i a} ha hi=>by obtain⟨r,hr⟩:=I.cC i hi;have:=ha.eM.bE hr;simp at this;exact absurd this.1 (cN _ ha.lt).2.2.2.2.2.1
 obtain⟨ks,rs,rs',ss⟩:=hs.d5 std;obtain⟨kt,rt,rt',st⟩:=ht.d5 std;have hhs:=hs.ud std rs';have hht:=ht.ud std rt';by_cases k6:ks=6
 ·subst k6;obtain⟨rfl,rfl,la,a10,s1,s2,L,hL,hLa⟩:=hs.un std rs';by_cases t1:t=1
  ·subst t1;have tb:ct=[] ∧bs=[10] :=by have:=ht.bE std (.cq (std.at (a:=10) rfl));grind
   have g:aB (decide (ρ.v=2)) [] as ct bs=true:=by
    rw [tb.1,tb.2];cases as with
    |nil=>rfl
    |cons x r=>rw [b9 (by simp)];unfold dg;simp [iu,mG]
   exact X.x (kC (n:=0) (v1:=de _ (ay τ s) (ay τ 1)) (v2:=de _ (ay τ 1) (ay τ s)) h std hρ I htf hst hs ht hmu rs' ss rt' st hl (by omega) (fun a b ha hb=>by rw [ha.of,hb.of]) (fun a b ha hb=>by rw [ha.of,hb.of]) (fun _=>g) (fun z=>absurd (.inl cZ) z) q) (by omega)
  have hmu1:∀a,mu 0 [a] ct bs+2=mu 0 as ct bs:=fun a=>by unfold mu;rw [if_pos la];simp;omega
  have hm2:2≤m:=by have:=hmu1 0;omega
  have hll:=hLa.U;have hcost:cU 0 as ct bs=as.length*cU 0 [0] ct bs+1:=by
   unfold cU;rw [if_pos la];have:¬2≤ [0].length:=by simp
   rw [if_neg this];split
   ·unfold fk;grind
   ·unfold dx;omega
  have hc1:∀a,cU 0 [a] ct bs=cU 0 [0] ct bs:=fun a=>rfl;refine X.x (kD (n:=8*(m-2)+10) (c:=as.length*cU 0 [0] ct bs) h std hρ I htf hst hs ht hmu rs' ss rt' st hcost hl (by omega) (fun v=>gj s2 t1 s1 (.inl (by decide))) (fun t2 v=>gj t2 s1 t1 (.inr ⟨s2,by decide⟩)) (fun{H1 ρ1 Q1} h1 r1 er em ef ed el inv k=>?_) q) (by omega);rw [←er];refine dA (n:=8*(m-2)+13) h1 r1 rs' rt' ⟨by decide,hht.1⟩ (by decide) (fun _=>Li (n:=8*(m-2)+14) (k:=cU 0 [0] ct bs) (f:=fun i=>aB (decide (ρ.v=2)) [] [ay τ i] ct bs) h1 r1 hL (fun i hi {Hj ρj Qj} j hj Sj kj=>by obtain⟨a,_,ha⟩:=hLa.kK hi;exact X.x (gY.vp (@ih (mu 0 as ct bs-2) (by omega)) h1 r1 (inv _ (by have:=hmu1 0;omega)) Sj (by rw [ef];omega) (.cq ha) ht (by have:=hmu1 a;omega) (by rw [hc1 a];have e1:cU 0 [0] ct bs*j+cU 0 [0] ct bs≤cU 0 [0] ct bs*L.length:=Nat.mul_le_mul_left _ hj;rw [hll,Nat.mul_comm _ as.length] at e1;omega) (by have:=hmu1 a;omega) (by rw [em];omega) fun H2 ρ2 S2=>by rw [em,←ha.of];exact kj H2 ρ2 S2) (by omega)) fun H2 ρ2 S2=>by rw [hll,Nat.mul_comm] at S2;have:=k H2 ρ2 S2;rw [tD _ la a10,←hLa.uh _,←hLa.A7 _] at this;rw [em];simpa using this) (fun z=>absurd rfl z) (fun z=>absurd rfl z) (fun z=>absurd rfl z)
 by_cases t6:kt=6
 ·subst t6;obtain⟨rfl,rfl,lb,b10,t1,t2,L,hL,hLb⟩:=ht.un std rt';have hll:=hLb.U;by_cases s1:s=1
  ·subst s1;obtain⟨rfl,rfl,rfl⟩:=hs.bE std (.cq (std.at (a:=10) rfl));have n1:∀v,cT ρ.v 1 t ks 6 v≠1:=fun v=>eP (by simp) t1 (.inl rfl);have n0:∀v,¬cT ρ.v 1 t ks 6 v<0:=fun v=>by rw [sU t1 (by decide)];simp
   refine X.x (kC (n:=0) (v1:=de _ (ay τ 1) (ay τ t)) (v2:=de _ (ay τ t) (ay τ 1)) h std hρ I htf hst hs ht hmu rs' ss rt' st hl (by omega) (fun a b ha hb=>by rw [ha.of,hb.of]) (fun a b ha hb=>by rw [ha.of,hb.of]) (fun y=>?_) (fun y=>?_) q) (by omega)
   ·have m2:ρ.v=2:=by grind
    rw [b9 (by simp)];cases bs with
    |nil=>simp at lb
    |cons b r=>simp [m2,dg,iW,iu]
   ·have m2:ρ.v≠2:=fun z=>y (.inr ⟨z,t2,cZ⟩);refine⟨?_,fun z=>absurd z (n0 _)⟩;rw [b9 (by simp)];simp only [dg,m2,decide_false,Bool.false_eq_true,if_false,List.all_cons,List.all_nil,Bool.and_true];rw [List.any_eq_false];intro b hb;have:b<16:=by obtain⟨i,_,hi⟩:=hLb.pL hb;exact hi.lt
    rw [oY b (by omega) (by rintro rfl;exact b10 hb)];simp
  by_cases s2:s=2
  ·subst s2;obtain⟨rfl,rfl,rfl⟩:=hs.bE std .o;exact X.x (kC (n:=0) (v1:=de _ (ay τ 2) (ay τ t)) (v2:=de _ (ay τ t) (ay τ 2)) h std hρ I htf hst hs ht hmu rs' ss rt' st hl (by omega) (fun a b ha hb=>by rw [ha.of,hb.of]) (fun a b ha hb=>by rw [ha.of,hb.of]) (fun _=>rfl) (fun z=>absurd (.inl rfl) z) q) (by omega)
  have hmu1:∀b,mu p as [] [b] +1=mu p as [] bs:=fun b=>by
   have e:¬(([] :List Int)=[] ∧2≤ [b].length):=by simp
   unfold mu;rw [if_pos (⟨rfl,lb⟩:([])=[] ∧2≤bs.length),if_neg e]
  have hm1:1≤m:=by have:=hmu1 0;omega
  have hcA:∀b,cU p as [] [b] =dx p (if 2≤as.length then as.length else 0):=fun b=>by unfold cU;rw [if_neg (by simp)]
  have hcU:cU p as [] bs=fk p (if 2≤as.length then as.length else 0) bs.length:=by unfold cU;rw [if_pos ⟨rfl,lb⟩]
  generalize hKS:(if 2≤as.length then as.length else 0)=KS at hcA hcU;have one:∀ {H1:AH} {ρ1:Rs},aY H1 τ→aq H1 ρ1→ρ1.v=ρ.v→ρ1.cC=ρ.cC→ρ1.bM=ρ.bM+1→ρ1.Q=ρ.Q+1→1+dx p KS*L.length≤cU p as [] bs→(∀m',m'<mu p as [] bs→tW τ ρ1 m')→∀i∈L,∀ {Hj:AH} {ρj:Rs} {Qj:az} (j:Nat),j<L.length→aN τ (dx p KS*j) H1 Hj ρ1 ρj→(∀H2 ρ2,aN τ (dx p KS) Hj H2 ρj ρ2→Qj (.D (aB (decide (ρ.v=2)) cs as [] [ay τ i])) H2)→X.w (8*(m-1)+10) 52 [.y ρ1.r,.j s,.j i] Hj Qj:=by intro H1 ρ1 h1 r1 em ef ed el hcc inv i hi Hj ρj Qj j hj Sj kj;obtain⟨b,_,hb⟩:=hLb.kK hi;exact X.x (gY.vp (@ih (mu p as [] bs-1) (by omega)) h1 r1 (inv _ (by have:=hmu1 0;omega)) Sj (by rw [ef];exact nofar hb) hs (.cq hb) (by have:=hmu1 b;omega) (by rw [hcA b];have e1:dx p KS*j+dx p KS≤dx p KS*L.length:=Nat.mul_le_mul_left _ hj;omega) (by have:=hmu1 b;omega) (by rw [em];omega) fun H2 ρ2 S2=>by rw [hcA b] at S2;rw [em,←hb.of];exact kj H2 ρ2 S2) (by omega)
  have self:s∈L→aB (decide (ρ.v=2)) cs as [] [ay τ s] =true:=fun hi=>by obtain⟨b,_,hb⟩:=hLb.kK hi;obtain⟨rfl,rfl,_⟩:=hs.bE std (.cq hb);rw [hb.of,b9 (by simp)];unfold dg;simp [rC,pC]
  have any_yes:L.any _=true→aB (decide (ρ.v=2)) cs as [] bs=true:=fun hany=>by
   rw [hLb.uh fun b=>aB _ cs as [] [b]] at hany;obtain⟨b,hb,hg⟩:=List.any_eq_true.mp hany;cases as with
   |nil=>rfl
   |cons x r=>exact vS hb hg
  have any_no:as.length=1→L.any _=false→aB (decide (ρ.v=2)) cs as [] bs=false:=fun h1 hany=>by
   rw [hLb.uh fun b=>aB _ cs as [] [b]] at hany;have hne:as≠ [] :=by rintro rfl;simp at h1
   rw [b9 hne,ya h1,←hany];congr 1;funext b;rw [b9 hne]
  have o1:∀v,cT ρ.v s t ks 6 v= -1:=fun v=>gj s2 t1 s1 (.inr ⟨t2,by decide⟩);have o2:t≠2→∀v,cT ρ.v t s 6 ks v= -1:=fun _ v=>gj t2 s1 t1 (.inl (by decide));by_cases k10:ks=10
  ·subst k10;obtain⟨_,_,pid,b,c',p1,rfl,rfl,rfl,hbd,hb⟩:=hs.pr std rs';have hcost:cU (p1+1) as [] bs=(bs.length*dx (p1+1) KS+fk p1 KS bs.length)+1:=by rw [hcU,jC];omega
   have hcost':cU p1 as [] bs=fk p1 KS bs.length:=by unfold cU;rw [if_pos ⟨rfl,lb⟩,hKS]
   have hmu2:mu p1 as [] bs+2=mu (p1+1) as [] bs:=by unfold mu;omega
   have hne:hO b≠s:=fun e=>by rw [e] at hb;have:=(hs.bE std hb).1;simp at this
   refine X.x (kD (n:=8*(m-1)+8) h std hρ I htf hst hs ht hmu rs' ss rt' st hcost hl (by omega) o1 o2 (fun{H1 ρ1 Q1} h1 r1 er em ef ed el inv k=>?_) q) (by omega);rw [←er];exact dA h1 r1 rs' rt' (by simp) (by simp) (by simp) (fun _ _=>MD h1 r1 rs' (by simp) (by simp) hL self (fun i hi {Hj ρj Qj} j hj Sj kj=>X.x (one h1 r1 em ef ed el (by rw [hcost,hll,Nat.mul_comm];omega) inv i hi j hj Sj kj) (by omega)) (fun hany H2 ρ2 S2=>by rw [hll,Nat.mul_comm] at S2;have:=k H2 ρ2 (S2.le (by omega));rw [any_yes hany] at this;omega) (by simp) fun hany _ H2 ρ2 S2=>by rw [hll,Nat.mul_comm] at S2;have h2:=S2.R r1 h1;have r2:=S2.bC;rw [←S2.r];apply mB h2 r2 (by rw [S2.v,em];exact I.v);apply uC h2 r2 rs' hbd hne;rw [S2.r];refine X.x (gY.vp (@ih (mu p1 as [] bs) (by omega)) h1 r1 (inv _ (by omega)) S2 (by rw [ef];exact htf) hb ht (by omega) (by omega) (by rw [ed];omega) (by rw [em];omega) fun H3 ρ3 S3=>?_) (by omega);rw [hcost'] at S3;have:=k H3 ρ3 (S2.trans S3);rw [rI (by simp)] at this;rw [em];omega) (by simp) (by simp)
  ·obtain⟨hleaf,rfl⟩:=mx.tm std hs rs' k6 k10;have la:as.length=1:=by
    cases hleaf with
    |o=>exact absurd rfl s2
    |cq _=>rfl
    |gG _ _ _=>rfl
   have hK:KS=0:=by rw [←hKS,if_neg (by omega)]
   have hcost:cU 0 as [] bs=bs.length*dx 0 KS+1:=by rw [hcU,hK];unfold fk dx;simp;omega
   refine X.x (kD (n:=8*(m-1)+8) h std hρ I htf hst hs ht hmu rs' ss rt' st hcost hl (by omega) o1 o2 (fun{H1 ρ1 Q1} h1 r1 er em ef ed el inv k=>?_) q) (by omega);rw [←er];exact dA h1 r1 rs' rt' ⟨hhs.1,by simp⟩ hhs.2 (fun z=>absurd z k6) (fun _ _=>MD h1 r1 rs' hhs.1 hleaf.N9 hL self (fun i hi {Hj ρj Qj} j hj Sj kj=>X.x (one h1 r1 em ef ed el (by rw [hcost,hll,Nat.mul_comm];omega) inv i hi j hj Sj kj) (by omega)) (fun hany H2 ρ2 S2=>by rw [hll,Nat.mul_comm] at S2;have:=k H2 ρ2 S2;rw [any_yes hany] at this;omega) (fun hany _ H2 ρ2 S2=>by rw [hll,Nat.mul_comm] at S2;have:=k H2 ρ2 S2;rw [any_no la hany] at this;omega) fun hany _ H2 ρ2 S2=>by rw [hll,Nat.mul_comm] at S2;have h2:=S2.R r1 h1;have r2:=S2.bC;have:=k H2 ρ2 S2;rw [any_no la hany] at this;rw [←S2.r];apply mB h2 r2 (by rw [S2.v,em];exact I.v);exact oS h2 r2 rs' k10 this) (fun _ z=>absurd rfl z) (by simp)
 by_cases k10:ks=10
 ·subst k10;obtain⟨s1,s2,pid,b,c',p1,rfl,rfl,rfl,hbd,hb⟩:=hs.pr std rs';have htg:=LJ.tm std ht rt' t6;by_cases t1:t=1
  ·subst t1;obtain⟨rfl,rfl,_⟩:=ht.bE std (.cq (std.at (a:=10) rfl));have g:aB (decide (ρ.v=2)) (s::c') as [] [10] =true:=by
    cases as with
    |nil=>rfl
    |cons x r=>rw [b9 (by simp)];unfold dg;simp [iu,mG]
   exact X.x (kC (n:=0) (v1:=de _ (ay τ s) (ay τ 1)) (v2:=de _ (ay τ 1) (ay τ s)) h std hρ I htf hst hs ht hmu rs' ss rt' st hl (by omega) (fun a b ha hb=>by rw [ha.of,hb.of]) (fun a b ha hb=>by rw [ha.of,hb.of]) (fun _=>g) (fun z=>absurd (.inl cZ) z) q) (by omega)
  have hnb:¬(ct=[] ∧2≤bs.length):=by
   rintro⟨z1,z2⟩;cases htg with
   |qM z=>cases z with
    |o=>simp at z2
    |cq _=>simp at z2
    |gG _ _ _=>cases z1
   |hU _ _=>cases z1
  have hhead:∀x,ct.head?=some x→x≠s:=by
   intro x hx;cases htg with
   |qM z=>cases z with
    |o=>cases hx
    |cq _=>cases hx
    |gG _ _ _=>cases hx;exact Ne.symm hst
   |hU _ _=>grind
  have hcost:cU (p1+1) as ct bs=cU p1 as ct bs+1:=by unfold cU;rw [if_neg hnb,if_neg hnb];unfold dx;omega
  have hmu2:mu p1 as ct bs+2=mu (p1+1) as ct bs:=by unfold mu;omega
  have hne:hO b≠s:=fun e=>by rw [e] at hb;have:=(hs.bE std hb).1;simp at this
  refine X.x (kD (n:=8*(m-1)+8) h std hρ I htf hst hs ht hmu rs' ss rt' st hcost hl (by omega) (fun v=>gj s2 t1 s1 (.inl (by decide))) (fun t2 v=>gj t2 s1 t1 (.inr ⟨s2,by decide⟩)) (fun{H1 ρ1 Q1} h1 r1 er em ef ed el inv k=>?_) q) (by omega);rw [←er];refine dA (n:=8*(m-1)+11) h1 r1 rs' rt' ⟨by decide,hht.1⟩ (by decide) (fun z=>absurd z (by decide)) (fun _ z=>absurd z t6) (fun _ _ _=>mB (n:=8*(m-1)+11) h1 r1 (by rw [em];exact I.v) (uC (n:=8*(m-1)+10) h1 r1 rs' hbd hne (X.x (gY.vp (@ih (mu p1 as ct bs) (by omega)) h1 r1 (inv _ (by omega)) (aN.aD r1) (c:=0) (by rw [ef];exact htf) hb ht (by omega) (by rw [el];omega) (by rw [ed];omega) (by rw [em];exact hm) fun H3 ρ3 S3=>?_) (by omega)))) (fun _ _ z=>absurd (.inl (by decide)) z);have:=k H3 ρ3 S3;rw [rI hhead] at this;rw [em];exact this
 obtain⟨hleaf,rfl⟩:=mx.tm std hs rs' k6 k10;have iff:=yC h std hm hst hleaf (LJ.tm std ht rt' t6);refine X.x (kC (n:=0) h std hρ I htf hst hs ht hmu rs' ss rt' st hl (by omega) (fun a b ha hb=>by rw [ha.of,hb.of]) (fun a b ha hb=>by rw [ha.of,hb.of]) (fun y=>iff.mpr y) (fun y=>⟨?_,fun _=>⟨k6,t6,k10⟩⟩) q) (by omega);cases hg:aB (decide (ρ.v=2)) cs as ct bs with
 |true=>exact absurd (iff.mp hg) y
 |false=>rfl
def aZ (a:Nat):Nat:=[1,2,4,8,16,16440,192,256,512,14272,32767,128,4096,8192,16384,0,2048].getD a 0
def ah:List Nat→Nat
 |[] =>0
 |a::r=>aZ a|||ah r
def vW (a:Nat):Prop:=a<17∧a≠15
theorem bw (as:List Nat)(i:Nat):(ah as).testBit i=as.any fun a=>(aZ a).testBit i:=by
 induction as with
 |nil=>simp [ah]
 |cons a r ih=>simp [ah,ih]
theorem u7:∀a<17,aZ a<2^15:=by decide
theorem qw {as:List Nat}(h:∀a∈as,vW a):ah as<2^15:=by
 induction as with
 |nil=>decide
 |cons a r ih=>exact Nat.or_lt_two_pow (u7 a (h a (by simp)).1) (ih (by grind))
def Kq (a:Nat):Nat:=[0,1,2,3,4,5,6,8,9,10,11,7,12,13,14,0,11].getD a 0
theorem my:∀a<17,∀b<17,a=15∨b=15∨(a=16∧b=10)∨(a=10∧b=16)∨((aZ b).testBit (Kq a)=kJ a b∧(aZ a&&&aZ b !=0)=iW a b∧(aZ a).testBit (Kq a)=true∧(kJ a b=true→aZ a&&&aZ b=aZ a)):=by decide+kernel
theorem sf {a b:Nat}(ha:vW a)(hb:vW b):iW a b=true↔∃i,(aZ a).testBit i=true∧(aZ b).testBit i=true:=by
 have key:iW a b=(aZ a&&&aZ b !=0):=by
  rcases my a ha.1 b hb.1 with z|z|⟨z1,z2⟩|⟨z1,z2⟩|z
  ·exact absurd z ha.2
  ·exact absurd z hb.2
  ·subst z1 z2;rfl
  ·subst z1 z2;rfl
  simp_all
 rw [key,bne_iff_ne];constructor
 ·intro h;obtain⟨i,hi⟩:=Nat.exists_testBit_of_ne_zero h;grind
 ·rintro⟨i,h1,h2⟩ h;have:(aZ a&&&aZ b).testBit i=true:=by grind
  grind
theorem zN {as bs:List Nat}(ha:∀a∈as,vW a)(hb:∀b∈bs,vW b):(ah as&&&ah bs≠0)↔(as.any fun a=>bs.any (iW a))=true:=by
 constructor
 ·intro h;obtain⟨i,hi⟩:=Nat.exists_testBit_of_ne_zero h;rw [Nat.testBit_and,Bool.and_eq_true,bw,bw,List.any_eq_true,List.any_eq_true] at hi;obtain⟨⟨a,h1,h2⟩,b,h3,h4⟩:=hi;exact List.any_eq_true.mpr ⟨a,h1,List.any_eq_true.mpr ⟨b,h3,(sf (ha a h1) (hb b h3)).mpr ⟨i,h2,h4⟩⟩⟩
 ·intro h;obtain⟨a,h1,h2⟩:=List.any_eq_true.mp h;obtain⟨b,h3,h4⟩:=List.any_eq_true.mp h2;obtain⟨i,h5,h6⟩:=(sf (ha a h1) (hb b h3)).mp h4;have:(ah as&&&ah bs).testBit i=true:=by rw [Nat.testBit_and,bw,bw];grind
  grind
theorem qb {a b:Nat}(ha:vW a)(hb:vW b)(h:kJ a b=true){i:Nat}(hi:(aZ a).testBit i=true):(aZ b).testBit i=true:=by
 have e:aZ a&&&aZ b=aZ a:=by
  rcases my a ha.1 b hb.1 with z|z|⟨z1,z2⟩|⟨z1,z2⟩|z
  ·exact absurd z ha.2
  ·exact absurd z hb.2
  ·subst z1 z2;rfl
  ·subst z1 z2;trivial
  simp_all
 grind
structure Wf (as:List Nat):Prop where
 ok:∀a∈as,vW a
 vn:10∈as→as=[10]
 gG:16∈as→as=[16]
theorem zP {as bs:List Nat}(ha:Wf as)(hb:Wf bs):(ah as&&&ah bs=ah as)↔(as.all fun a=>bs.any (kJ a))=true:=by
 constructor
 ·intro h;have sub:∀i,(ah as).testBit i=true→(ah bs).testBit i=true:=fun i hi=>by grind
  rw [List.all_eq_true];intro a haa;have oa:=ha.ok a haa;have hwit:(aZ a).testBit (Kq a)=true:=by
   by_cases z:a=16
   ·subst z;rfl
   by_cases z':a=10
   ·subst z';rfl
   rcases my a oa.1 a oa.1 with q|q|⟨q1,q2⟩|⟨q1,q2⟩|q
   ·exact absurd q oa.2
   ·exact absurd q oa.2
   ·omega
   ·omega
   ·exact q.2.2.1
  have:=sub _ (by rw [bw];exact List.any_eq_true.mpr ⟨a,haa,hwit⟩);rw [bw] at this;obtain⟨b,hbb,hbt⟩:=List.any_eq_true.mp this;refine List.any_eq_true.mpr ⟨b,hbb,?_⟩;have ob:=hb.ok b hbb;rcases my a oa.1 b ob.1 with z|z|⟨z1,z2⟩|⟨z1,z2⟩|z
  ·exact absurd z oa.2
  ·exact absurd z ob.2
  ·subst z1 z2;rfl
  ·subst z1 z2;have h0:=sub 0 (by rw [bw];exact List.any_eq_true.mpr ⟨10,haa,by rfl⟩);rw [hb.gG hbb] at h0;trivial
  grind
 ·intro h;apply Nat.eq_of_testBit_eq;intro i;rw [Nat.testBit_and];cases hi:(ah as).testBit i with
  |false=>rfl
  |true=>
   rw [bw] at hi;obtain⟨a,haa,hat⟩:=List.any_eq_true.mp hi;obtain⟨b,hbb,hle⟩:=List.any_eq_true.mp (List.all_eq_true.mp h a haa);have:(ah bs).testBit i=true:=by rw [bw];exact List.any_eq_true.mpr ⟨b,hbb,qb (ha.ok a haa) (hb.ok b hbb) hle hat⟩
   trivial
theorem zH:∀a<17,a≠15→aZ a≠0:=by decide
theorem lz {as:List Nat}(h:∀a∈as,vW a):ah as=0↔as=[] :=by
 cases as with
 |nil=>decide
 |cons a r=>
  constructor
  ·intro e;have:=zH a (h a (by simp)).1 (h a (by simp)).2;have:=Nat.or_eq_zero_iff.mp e;omega
  simp
theorem Ng:∀a<17,(aZ a).testBit 11=true→a=10∨a=16:=by decide
theorem eT {as:List Nat}(h:Wf as):ah as=32767↔as=[10] :=by
 constructor
 ·intro e;have:(ah as).testBit 11=true:=by rw [e];rfl
  rw [bw] at this;obtain⟨a,ha,hb⟩:=List.any_eq_true.mp this;rcases Ng a (h.ok a ha).1 hb with z|z
  ·subst z;exact h.vn ha
  ·subst z;rw [h.gG ha] at e;trivial
 ·rintro rfl;rfl
def hG (both:Bool)(S:List Int)(x:Nat)(T:List Int)(y:Nat):Bool:=x==0||(match T with|t::_=>S.contains t||(both&&x==32767)|[] =>if both then decide (x&&&y>0) else x&&&y==x)
theorem gv {both:Bool}{S T:List Int}{as bs:List Nat}{f:Int→Int}(ha:Wf as)(hb:Wf bs)(hf:∀x∈S,∀t,T.head?=some t→f x=f t→x=t):hG both S (ah as) T (ah bs)=aB both (S.map f) as (T.map f) bs:=by
 unfold hG aB;have e0:(ah as==0)=as.isEmpty:=by rw [Bool.eq_iff_iff,beq_iff_eq,lz ha.ok];simp
 rw [e0];cases as with
 |nil=>rfl
 |cons a r=>
  cases T with
  |cons t T=>
   have e1:(ah (a::r)==32767)=(a::r==[10]):=by rw [Bool.eq_iff_iff,beq_iff_eq,beq_iff_eq,eT ha]
   grind
  |nil=>
   show if both=true then decide _ else ah _&&&ah bs==ah _=dg _ _ bs;unfold dg;cases both with
   |true=>rw [if_pos rfl,if_pos rfl,Bool.eq_iff_iff,decide_eq_true_iff,←zN ha.ok hb.ok];omega
   |false=>rw [if_neg (by simp),if_neg (by simp),Bool.eq_iff_iff,beq_iff_eq,zP ha hb]
theorem ez (as bs:List Nat):ah (as++bs)=ah as|||ah bs:=by
 induction as with
 |nil=>simp [ah]
 |cons a r ih=>show aZ a|||ah (r++bs)=aZ a|||ah r|||ah bs;rw [ih,Nat.or_assoc]
theorem ey {as bs:List Nat}(h:∀a,a∈as↔a∈bs):ah as=ah bs:=by apply Nat.eq_of_testBit_eq;intro i;rw [bw,bw,Bool.eq_iff_iff];grind
def jP (a:Nat):Bool:=a==0||a==1||decide (aW a∈ [2,3,4,5])
def dh (a:Nat):Int:=match a with
 |0=>5|1=>4|2=>3|3=>2|4=>2|14=>2|5=>2|10=>0|_=>1
def iq (a b:Nat):Int:=if a=b then 1 else if dh a=4∨dh a=5∨dh b=4∨dh b=5 then 0 else if dh a≠dh b then 0 else if jP a&&jP b then 0 else if a=9∨a=5 then 2 else if b=9∨b=5 then 1 else 3
def wg (a:Nat):Prop:=a<10
theorem nh:∀a<10,∀b<10,(iq a b=1∧aZ a&&&aZ b=aZ a)∨(iq a b=2∧aZ a&&&aZ b=aZ b)∨(iq a b=0∧aZ a&&&aZ b=0):=by decide
section
variable {H:AH}{ρ:Rs}{τ:Tb}{F:V→Prop}{Q:az}{n:Nat}
theorem xF {t:Int}{a:Nat}(h:aY H τ)(std:du τ)(ha:At τ t a)(q:Q (.D (jP a)) H):X.w (n+2) 17 [.y 4,.j t] H Q:=by
 delta pn;have i4:=bV h std ha (b:=0) rfl;have i5:=bV h std ha (b:=1) rfl;simp! [];unfold jP at q;by_cases h0:a=0
 ·grind
 have n4:t≠4:=fun e=>h0 (i4.mp e);simp [n4];by_cases h1:a=1
 ·grind
 have n5:t≠5:=fun e=>h1 (i5.mp e);simp [n5];apply oX h ha.eM;grind
theorem wJ:∀a<16,(aW a=1∧(rM a).isSome∧dh a=wK ((rM a).getD 0) 0)∨(aW a=2∧dh a=3)∨(aW a∈ [3,4,5] ∧(bb a=6∧dh a=1∨bb a=7∧dh a=2)):=by decide
theorem JV {t:Int}{a:Nat}(h:aY H τ)(std:du τ)(ha:At τ t a)(q:Q (.j (dh a)) H):X.w (n+2) 20 [.y 4,.j t] H Q:=by
 delta rW;simp! [h.bx,h.I ha.eM];have e:∀ {B:Bool→Prop},gb (.j (aW a)) [.j 8,.j 9,.j 11,.j 12,.j 13] B=B _:=aR _ [8,9,11,12,13];rcases wJ a ha.lt with⟨z,z1,z2⟩|⟨z,z1⟩|⟨z,z1⟩
 ·obtain⟨i,hi⟩:=Option.isSome_iff_exists.mp z1;have:=(bV h std ha hi).mpr rfl;grind
 ·grind
 ·have hz:aW a≠1∧aW a≠2∧aW a∉ [8,9,11,12,13] ∧aW a≠6∧aW a≠7:=by grind
  simp! [hz.1,hz.2.1,e,hz.2.2.1,hz.2.2.2.1,hz.2.2.2.2];apply eW ha.lt;simp! [];grind
theorem oR {f:Int}(q:Q (.D (decide (f=4∨f=5∨f=6))) H):X.w (n+1) 21 [.j f] H Q:=by delta eK;simp! [];grind
theorem pa:∀a<16,dh a=0∨dh a=1∨dh a=2∨dh a=3∨dh a=4∨dh a=5:=by decide
theorem uQ:∀a<10,dh a≠0:=by decide
theorem Iz {s t:Int}{a b:Nat}(h:aY H τ)(std:du τ)(ha:At τ s a)(hb:At τ t b)(ma:wg a)(mb:wg b)(q:Q (.j (iq a b)) H):X.w (n+4) 24 [.y 4,.j s,.j t] H Q:=by
 delta lT;simp! [];unfold iq at q;by_cases hab:a=b
 ·subst hab;have:=ha.inj h hb;grind
 have hst:s≠t:=by rintro rfl;exact hab (ha.bE hb)
 rw [if_neg hab] at q;simp only [hst,if_false];have st:∀ {i:Int} {c:Nat},At τ i c→dH (.j _::(bt c).tail):=fun{i c} hc=>by rw [←(bZ _ hc.lt).1];exact(jR (fA _ hc.lt)).1.t8
 have s0:=ha.I.1;have t0:=hb.I.1;apply sP h hb.eM (st hb);simp! [show((-1)=s)=False from eq_false (by omega)];apply sP h ha.eM (st ha);simp! [show((-1)=t)=False from eq_false (by omega)];apply JV h std ha;apply JV h std hb;simp! [uQ a ma,uQ b mb];apply oR;have ra:=pa a ha.lt;have rb:=pa b hb.lt;have e5:decide (dh a=6)=false:=by simp;omega
 have e6:decide (dh b=6)=false:=by simp;omega
 have nul:∀ {Q:az},Q _ H→X.w (n+3) 22 [.j s,.j t,.j (dh a),.j (dh b)] H Q:=fun{Q} q=>by delta iH;simp! [e5,e6];split<;>exact q
 by_cases h4:dh a=4∨dh a=5∨dh a=6
 ·rw [if_pos (by omega)] at q;simp! [h4];simp_all
 simp! [h4];apply oR;by_cases h5:dh b=4∨dh b=5∨dh b=6
 ·simp! [h5];simp_all
 rw [if_neg (by omega)] at q;simp! [h5,show(dh a=7)=False from eq_false (by omega),show(dh b=7)=False from eq_false (by omega)];delta jg;simp! [];by_cases hf:dh a=dh b
 ·rw [if_neg (by omega)] at q;simp only [hf];have j6:=bV h std ha (b:=9) rfl;have j7:=bV h std ha (b:=5) rfl;have k6:=bV h std hb (b:=9) rfl;have k7:=bV h std hb (b:=5) rfl;have rest:∀ {Q:az},((jP a&&jP b)=false→Q (.j (if a=9∨a=5 then 2 else if b=9∨b=5 then 1 else 3)) H)→(jP a&&jP b)=false→(if decide (s=6)=true then Q (.j 2) H else if decide (s=7)=true then Q (.j 2) H else if decide (t=6)=true then Q (.j 1) H else if decide (t=7)=true then Q (.j 1) H else Q (.j 3) H):=by grind
  apply xF h std ha;cases ua:jP a with
  |false=>rw [ua] at q rest;exact rest (fun _=>q) rfl
  |true=>apply xF h std hb;simp! [];grind
 ·rw [if_pos (by omega)] at q;simp [hf];omega
theorem oU {t:Int}{a:Nat}(h:aY H τ)(ha:At τ t a)(q:Q (.B [.j t]) H):X.w (n+1) 26 [.y 4,.j t] H Q:=by
 delta fD;have hh:=cN a ha.lt;have h7:aW a≠7:=by have:=(bZ a ha.lt).2.1;grind
 simp! [h.bx,h.I ha.eM,hh.2.1,hh.2.2.1,h7,decide_false];omega
theorem MR {s t:Int}{a b g:Nat}(h:aY H τ)(std:du τ)(ha:At τ s a)(hb:At τ t b)(ma:wg a)(mb:wg b)(hg:H[g]?=some (.f [.j s]))(h11:10<g)
 (q0:iq a b=0→∀H',au 0 H H' τ τ→Q .aE H') (q1:∀r,(iq a b=1∧r=s)∨(iq a b=2∧r=t)→∀H',au 0 H H' τ τ→∀g',H'[g']?=some (.f [.j r])→Q (.y g') H'):X.w (n+5) 25 [.y 4,.y g,.j t] H Q:=by
 delta rR
 simp! []
 have G1:au 0 H (H++[.f []]) τ τ:=(au.aD h).Y _
 have hg1:(H++[ag.f []])[g]?=some _:=af hg
 have hgn:g≠H.length:=by have:=aM hg;omega
 have hi:aG (.y g) (H++[ag.f []])=some ([.j s],some (g,[.j s])):=by simp [aG,hg1]
 rw [hi]
 refine⟨hg1,?_⟩
 apply Iz G1.R std ha hb ma mb
 simp! []
 rcases nh a ma b mb with⟨z,_⟩|⟨z,_⟩|⟨z,_⟩
 ·simp only [z];simp! [bN _ (ae),cS _ (ae (x:=.f [])) (by simp)];exact⟨aa hg1 hgn,q1 s (by omega) _ (G1.set h _ (by simp)) _ (by simp)⟩
 ·simp only [z];refine⟨hg1,?_⟩;simp! [bN _ (ae),cS _ (ae (x:=.f [])) (by simp)];exact q1 t (by omega) _ (G1.set h _ (by simp)) _ (by simp)
 grind
theorem yo {s t:Int}{a b:Nat}(h:aY H τ)(std:du τ)(ha:At τ s a)(hb:At τ t b)(ma:wg a)(mb:wg b)
 (q0:iq a b=0→∀H',au 0 H H' τ τ→Q (.j 2) H') (q1:∀r,(iq a b=1∧r=s)∨(iq a b=2∧r=t)→∀H',au 0 H H' τ τ→Q (.j r) H'):X.w (n+6) 27 [.y 4,.j s,.j t] H Q:=by
 apply aC.hV rfl (Nat.le_refl _) (Nat.le_refl _)
 show wS _ _ [some _,some _,some _,none,none,none,none] _ _
 apply oU h ha
 have hl:=h.U
 simp [aG,gD,dB]
 simp! [cS _ (ae (x:=.f [])) (by simp)]
 have G1:au 0 H ((H++[ag.f []]).set H.length (.f [.j s])) τ τ:=((au.aD h).Y _).set h _ (by simp)
 have hg:((H++[ag.f []]).set _ (.f [.j s]))[H.length]?=some _:=aj ae
 apply oU G1.R hb
 simp only [aG,iy,dB,true_and]
 exact MR G1.R std ha hb ma mb hg (by omega) (fun z H2 G2=>q0 z _ (G1.trans G2 (by omega))) fun r hr H2 G2 g' hg'=>by simp! [bh _ hg',aA _ 0 hg'];exact q1 r hr _ (G1.trans G2 (by omega))
end
theorem cp.bE {τ:Tb}{t:Int}{l l':List Int}(h:cp τ t l)(h':cp τ t l'):l=l':=by
 cases h with
 |o=>cases h' with
  |o=>rfl
  |ba a _ _=>omega
  |mn a _ _=>omega
 |ba a b c=>cases h' with
  |o=>omega
  |ba _ _ c'=>have:=c.bE c';simp at this;exact xw this
  |mn _ k c'=>have:=c.bE c';grind
 |mn a k c=>cases h' with
  |o=>omega
  |ba _ _ c'=>have:=c.bE c';grind
  |mn _ _ _=>rfl
theorem Kd.bE {τ:Tb}{t:Int}{as bs:List Nat}(h:Kd τ t as)(h':Kd τ t bs):as=bs:=by obtain⟨l,p,a⟩:=h.ex;obtain⟨l',p',a'⟩:=h'.ex;have:=p.bE p';subst this;exact a.bE a'
theorem Kd.tm {τ:Tb}{t:Int}{as:List Nat}(h:Kd τ t as):Tm τ t [] as 0:=by
 obtain⟨l,p,a⟩:=h.ex;cases p with
 |o=>cases a;exact .o
 |ba x y z=>refine .ba x y z a fun q=>?_;have:=h.vn q;have:=a.U;grind
 |mn x y z=>cases a with|cons b c=>cases c;exact .cq b
theorem dY.jL {τ τ':Tb}(g:dY τ τ'){t:Int}{l:List Int}(h:cp τ t l):cp τ' t l:=by
 cases h with
 |o=>exact .o
 |ba a b d=>exact .ba a b (g.I d)
 |mn a b d=>exact .mn a b (g.I d)
theorem dY.kd {τ τ':Tb}(g:dY τ τ'){t:Int}{as:List Nat}(h:Kd τ t as):Kd τ' t as:=
 let⟨l,a,b⟩:=h.ex;⟨⟨l,g.jL a,g.My b⟩,h.vn,h.W,let⟨l,a,b⟩:=h.NW;⟨l,g.jL a,b⟩⟩
theorem Kd.lt {τ:Tb}{t:Int}{as:List Nat}(h:Kd τ t as):∀a∈as,a<16:=fun a ha=>by obtain⟨l,_,b⟩:=h.ex;obtain⟨i,_,hi⟩:=b.pL ha;exact hi.lt
theorem dD:∀(n:Nat) {l:List Nat},l.Nodup→(∀a∈l,a<n)→l.length≤n
 |0,l,_,h=>by cases l with
  |nil=>simp
  |cons a r=>exact absurd (h a (by simp)) (by omega)
 |n+1,l,hn,h=>by
  by_cases hm:n∈l
  ·have:=dD n (l:=l.erase n) (hn.erase _) (by grind);grind
  ·have:=dD n hn (by grind);omega
theorem js {as bs:List Nat}(h:qB as bs)(ok:∀a∈as,vW a):ah bs=ah as:=by
 rcases h with⟨h10,rfl⟩|⟨h10,hm⟩
 ·apply Nat.eq_of_testBit_eq;intro i;rw [bw,bw];by_cases hi:i<15
  ·have e:=by
    have:∀i<15,(aZ 10).testBit i=true:=by decide
    exact this i hi
   grind
  ·have no:∀a,vW a→(aZ a).testBit i=false:=fun a ha=>by exact Nat.testBit_lt_two_pow (Nat.lt_of_lt_of_le (u7 a ha.1) (Nat.pow_le_pow_right (by simp) (by omega)))
   grind
 ·apply Nat.eq_of_testBit_eq;intro i;rw [bw,bw,Bool.eq_iff_iff,List.any_eq_true,List.any_eq_true];constructor
  ·grind
  ·rintro⟨a,x,y⟩;have oa:=ok a x;by_cases h6:bb a=6∧9∈as
   ·have le:kJ a 9=true:=by simp [kJ,h6.1]
    exact⟨9,(hm 9).mpr ⟨h6.2,fun z=>absurd z.1 (by decide),fun z=>absurd z.1 (by decide)⟩,qb oa (ok 9 h6.2) le y⟩
   by_cases h7:bb a=7∧5∈as
   ·have le:kJ a 5=true:=by simp [kJ,h7.1]
    exact⟨5,(hm 5).mpr ⟨h7.2,fun z=>absurd z.1 (by decide),fun z=>absurd z.1 (by decide)⟩,qb oa (ok 5 h7.2) le y⟩
   grind
structure Km (τ:Tb) (t:Int) (as:List Nat):Prop where
 kd:Kd τ t as
 kK:as=[10] ∨∀a∈as,a<10
theorem dY.km {τ τ':Tb}(g:dY τ τ'){t:Int}{as:List Nat}(h:Km τ t as):Km τ' t as:=⟨g.kd h.kd,h.kK⟩
theorem Km.ok {τ:Tb}{t:Int}{as:List Nat}(h:Km τ t as):∀a∈as,vW a:=fun a ha=>by
 rcases h.kK with e|e
 ·rw [e] at ha;simp at ha;subst ha;trivial
 ·have:=e a ha;exact⟨by omega,by omega⟩
theorem Km.wf {τ:Tb}{t:Int}{as:List Nat}(h:Km τ t as):Wf as:=⟨h.ok,h.kd.vn,fun q=>by
 rcases h.kK with e|e
 ·simp_all
 ·have:=e 16 q;omega⟩
theorem qz {x:Nat}(h:x<2^15):x&&&32767=x∧32767&&&x=x:=by
 have:x&&&32767=x:=by have:=Nat.and_two_pow_sub_one_eq_mod x 15;grind
 grind
section
variable {H:AH}{ρ:Rs}{τ:Tb}{F:V→Prop}{Q:az}{n:Nat}
theorem zF {ks ks':List Int}{i:Int}(h:∀j,j∈ks'↔j∈ks∨j=i):ah (ks'.map (ay τ))=ah (ks.map (ay τ))|||aZ (ay τ i):=by have:ah (ks'.map (ay τ))=ah (ks.map (ay τ)++[ay τ i]):=ey (by grind);rw [this,ez];simp [ah]
theorem yn {s t:Int}{as bs:List Nat}(h:aY H τ)(std:du τ)(hs:Km τ s as)(ht:Km τ t bs)(hn:τ.M.length<2^19)
 (q:∀H' τ' r cs,au 1 H H' τ τ'→Km τ' r cs→ah cs=ah as&&&ah bs→Q (.j r) H'):X.w (n+7) 28 [.y 4,.j s,.j t] H Q:=by
 delta nL
 have one:∀ {t:Int} {as:List Nat},Km τ t as→t=1→as=[10] :=fun{t as} h e=>by subst e;exact h.kd.bE ((std.at rfl).kd std)
 simp! []
 by_cases hst:s=t
 ·simp [hst];subst hst;exact q H τ s as (.aD h) hs (by rw [hs.kd.bE ht.kd,Nat.and_self])
 simp only [hst,decide_false,Bool.false_eq_true,if_false]
 by_cases t1:t=1
 ·simp [t1];apply q H τ s as (.aD h) hs;rw [one ht t1];exact(qz (qw hs.ok)).1.symm
 simp only [t1,decide_false,Bool.false_eq_true,if_false]
 by_cases s1:s=1
 ·simp [s1];apply q H τ t bs (.aD h) ht;rw [one hs s1];exact(qz (qw ht.ok)).2.symm
 simp only [s1,decide_false,Bool.false_eq_true,if_false]
 have small:∀ {t:Int} {as:List Nat},Km τ t as→t≠1→∀a∈as,a<10:=fun{t as} h e=>by
  rcases h.kK with z|z
  ·obtain⟨l,p,al⟩:=h.kd.ex;rw [z] at al;cases al with
   |cons x y=>
    cases y;have:=(eO ‹aY H τ› std x).mpr rfl;cases p with
    |ba _ u _=>trivial
    |mn _ _ _=>omega
  omega
 have ma:=small hs s1
 have mb:=small ht t1
 obtain⟨L,hL,hLa⟩:=hs.kd.ex
 obtain⟨R,hR,hRb⟩:=ht.kd.ex
 have G0:au 0 H (H++[.i []]) τ τ:=(au.aD h).Y _
 refine eQ G0.R hL (eQ G0.R hR ?_)
 have hLl:=hLa.U
 have hRl:=hRb.U
 have l10:=dD 10 hs.kd.W ma
 have r10:=dD 10 ht.kd.W mb
 simp only [fo]
 simp! [qa _ (l:=zs L) (by rw [List.length_map];omega),qa _ (l:=zs R) (by rw [List.length_map];omega)]
 have keyl:∀ {ks:List Int},ks.Nodup→(∀i∈ks,∃c,c<10∧At τ i c)→ks.length≤10:=fun{ks} hnd hk=>by
  have:=dD 10 (l:=ks.map (ay τ)) ?_ ?_
  ·simpa using this
  ·rw [List.nodup_iff_pairwise_ne,List.pairwise_map];refine List.Pairwise.imp_of_mem ?_ hnd;intro i j hi hj hij e;obtain⟨c,_,hc⟩:=hk i hi;obtain⟨d,_,hd⟩:=hk j hj;rw [hc.of,hd.of] at e;subst e;exact hij (hc.inj h hd)
  ·intro a ha;obtain⟨i,hi,rfl⟩:=List.mem_map.mp ha;obtain⟨c,hc,hci⟩:=hk i hi;rw [hci.of];omega
 have loops:∀cr:Bool,wS (X.b (n+6)) (.fq 7 (.h 4) (.fq 8 (.h 5) (.H 9 (.w 27 (.cons (.h 0) (.cons (.h 7) (.cons (.h 8) (.m))))) (.bA (.bH .ne (.h 9) (.k (.j 2))) (.g9 (.h 3) (.h 9) (.k (.j 1)) (.V)) (.V) (.bA (.dy (.cons (.h 6) (.cons (.bH .gt (.pO .U (.cons (.h 3) (.m))) (.k (.j 200))) (.m)))) (.ia) (.V) (.V)))) (.V)) (.bL (.w 14 (.cons (.h 0) (.cons (.pO .dO (.cons (.h 3) (.m))) (.m))))))
  [some (.y 4),some (.j s),some (.j t),some (.y H.length),some (.B (zs L)),some (.B (zs R)),some (.D cr),none,none,none] (H++[.i []]) (bX Q):=by
  intro cr
  simp! [aG]
  refine br (fun vs env H1=>∃dn rest es ks x y z,vs=zs rest∧L=dn++rest∧env=[some (.y 4),some (.j s),some (.j t),some (.y H.length),some (.B (zs L)),some (.B (zs R)),some (.D cr),x,y,z] ∧H1[H.length]?=some (.i es)∧dc es ks∧(∀i∈ks,∃c,c<10∧At τ i c)∧ah (ks.map (ay τ))=ah (dn.map (ay τ))&&&ah bs∧au 0 H H1 τ τ) ?_ ?_
   ⟨[],L,[],[],none,none,none,rfl,rfl,rfl,ae,.m,(fun i hi=>nomatch hi),by simp [ah],G0⟩
  ·rintro _ r _ H1 ⟨dn,rest,es,ks,x,y,z,e,hdl,rfl,hg,hk,hka,hbt,G1⟩;refine⟨trivial,fun q' qn _=>?_⟩;cases rest with
   |nil=>cases e
   |cons i rest=>
    cases e;obtain⟨a,haa,hia⟩:=hLa.kK (i:=i) (by rw [hdl];simp);simp! [aG];refine br (fun vs env H2=>∃dn2 rest2 es ks y z,vs=zs rest2∧R=dn2++rest2∧env=[some (.y 4),some (.j s),some (.j t),some (.y H.length),some (.B (zs L)),some (.B (zs R)),some (.D cr),some (.j i),y,z] ∧H2[H.length]?=some (.i es)∧dc es ks∧(∀i∈ks,∃c,c<10∧At τ i c)∧ah (ks.map (ay τ))=(ah (dn.map (ay τ))&&&ah bs)|||(aZ a&&&ah (dn2.map (ay τ)))∧au 0 H H2 τ τ) ?_ ?_
     ⟨[],R,es,ks,y,z,rfl,rfl,rfl,hg,hk,hka,by rw [hbt];simp [ah],G1⟩
    ·rintro _ r2 _ H2 ⟨dn2,rest2,es2,ks2,y2,z2,e2,hdr,rfl,hg2,hk2,hka2,hbt2,G2⟩;refine⟨trivial,fun q'' qn2 _=>?_⟩;cases rest2 with
     |nil=>cases e2
     |cons j rest2=>
      cases e2;obtain⟨b,hbb,hjb⟩:=hRb.kK (i:=j) (by rw [hdr];simp);have hbd:ah ((dn2++[j]).map (ay τ))=ah (dn2.map (ay τ))|||aZ b:=by rw [List.map_append,ez];simp [ah,hjb.of]
      simp! [];refine yo (n:=n) G2.R std hia hjb (ma a haa) (mb b hbb) (fun z0 H3 G3=>?_) (fun rr hr H3 G3=>?_)
      ·have hg3:=G3.N.kp _ _ hg2 (.inr (by have:=h.U;omega));have l3:decide ((es2.length:Int)>200)=false:=by have:=keyl hk2.2 hka2;simp [hk2.U];omega
       have g0:aZ a&&&aZ b=0:=by
        rcases nh a (ma a haa) b (mb b hbb) with w|w|w
        ·omega
        ·omega
        omega
       have fin:=(qn2 _ _ ⟨dn2++[j],rest2,es2,ks2,some (.j j),some (.j 2),rfl,by simp [*],rfl,hg3,hk2,hka2,by rw [hbt2,hbd,Nat.and_or_distrib_left,g0,Nat.or_zero],G2.trans G3 (by omega:0+0≤0)⟩).1;simp! [jV _ hg3,l3];cases cr
       ·simpa using fin
       ·simpa using fin
      ·have hg3:=G3.N.kp _ _ hg2 (.inr (by have:=h.U;omega));have hrr:∃c,c<10∧At τ rr c∧aZ a&&&aZ b=aZ c:=by
        rcases nh a (ma a haa) b (mb b hbb) with w|w|w
        ·rcases hr with⟨u,v⟩|⟨u,v⟩
         ·exact⟨a,ma a haa,v▸hia,w.2⟩
         ·rw [u] at w;exact absurd w.1 (by decide)
        ·rcases hr with⟨u,v⟩|⟨u,v⟩
         ·rw [u] at w;exact absurd w.1 (by decide)
         ·exact⟨b,mb b hbb,v▸hjb,w.2⟩
        ·rcases hr with⟨u,v⟩|⟨u,v⟩<;>(rw [u] at w;exact absurd w.1 (by decide))
       obtain⟨c,hc,hrc,hcb⟩:=hrr;have hr2:rr≠2:=qx std hrc;obtain⟨ks',hk',hm',hl'⟩:=hk2.NX rr (.j 1);have es_lt:es2.length<2^20:=by have:=keyl hk2.2 hka2;rw [hk2.U];omega
       have e3:∀ {G:AH→Prop},cD (.y H.length) (.j rr) (.j 1) H3 G=G (H3.set H.length (.i (eA (.j rr) (.j 1) es2))):=fun{G} =>by simp only [cD,hg3,hk2.oB rr,es_lt,true_and]
       have hka':∀i∈ks',∃c,c<10∧At τ i c:=fun i hi=>by
        rcases(hm' i).mp hi with w|w
        ·exact hka2 i w
        ·rw [w];exact⟨c,hc,hrc⟩
       have hg4:(H3.set H.length (.i (eA (.j rr) (.j 1) es2)))[H.length]?=some (.i (eA (.j rr) (.j 1) es2)):=aj hg3;have l3:decide (((eA (.j rr) (.j 1) es2).length:Int)>200)=false:=by have:=keyl hk'.2 hka';simp [hk'.U];omega
       have fin:=(qn2 _ _ ⟨dn2++[j],rest2,_,ks',some (.j j),some (.j rr),rfl,by rw [hdr];simp,rfl,hg4,hk',hka',by rw [zF hm',hbt2,hbd,Nat.and_or_distrib_left,hcb,hrc.of,Nat.or_assoc],(G2.trans G3 (by omega:0+0≤0)).set h _ (Nat.le_refl _)⟩).1;simp! [hr2,decide_false,Bool.not_false,e3,jV _ hg4,l3];cases cr
       ·simpa using fin
       ·simpa using fin
    ·rintro _ H2 ⟨dn2,rest2,es2,ks2,y2,z2,e2,hdr,rfl,hg2,hk2,hka2,hbt2,G2⟩;have:rest2=[] :=by cases rest2<;>first|rfl|cases e2
     subst this;rw [List.append_nil] at hdr;subst hdr;refine⟨trivial,(qn _ _ ⟨dn++[i],rest,es2,ks2,_,_,_,rfl,by simp [*],rfl,hg2,hk2,hka2,?_,G2⟩).1⟩;rw [hbt2,hRb.map,List.map_append,ez,Nat.and_or_distrib_right];simp [ah,hia.of]
  ·rintro _ H1 ⟨dn,rest,es,ks,x,y,z,e,hdl,rfl,hg,hk,hka,hbt,G1⟩;have:rest=[] :=by cases rest<;>first|rfl|cases e
   subst this;rw [List.append_nil] at hdl;subst hdl;refine⟨trivial,?_⟩;have kl:=keyl hk.2 hka;have hso:∀ {Q:az},dj .dO [.y H.length] H1 Q=Q (.y H1.length) (H1++[.f (zs (ks.mergeSort fun a b=>decide (a≤b)))]):=fun{Q} =>by simp [dj,hg,hk.xj,hk.U,show ks.length<64 by omega]
   simp! [hso];have hmem:∀i,i∈(ks.mergeSort fun a b=>decide (a≤b))↔i∈ks:=fun i=>(List.mergeSort_perm ks _).mem_iff;obtain⟨cs,hcs⟩:=eI.of fun i hi=>let⟨c,_,hc⟩:=hka i ((hmem i).mp hi);⟨c,hc⟩;have hkdl:∀ {l:List Int} {r:List Nat},eI τ l r→J4 τ l r:=fun{l r} hl=>by
    induction hl with
    |m=>exact .m
    |cons a _ ih=>exact .cons (a.kd std) ih
   have hc10:∀c∈cs,c<10:=fun c hc=>by obtain⟨i,hi,hic⟩:=hcs.pL hc;obtain⟨d,hd,hid⟩:=hka i ((hmem i).mp hi);rw [hic.bE hid];omega
   have G2:au 0 H (H1++[.f (zs (ks.mergeSort fun a b=>decide (a≤b)))]) τ τ:=G1.Y _;refine X.x (iN (n:=0) G2.R std (.inr ⟨_,rfl,by have:=G1.N.U;have:=h.U;omega,ae⟩) (hkdl hcs) (by rw [←hcs.U,List.length_mergeSort];omega) hn fun H3 τ3 r bs' G3 hkd hu=>q H3 τ3 r bs' (G2.trans G3 (by omega)) ⟨hkd,.inr fun a ha=>?_⟩ (by rw [js hu fun a ha=>⟨by have:=hc10 a ha;omega,by have:=hc10 a ha;omega⟩,←hLa.map,←hbt,←hcs.map];refine ey fun a=>?_;simp)) (by omega)
   ·rcases hu with⟨u,_⟩|⟨_,u⟩
    ·exact absurd (hc10 10 u) (by simp)
    ·exact hc10 a ((u a).mp ha).1
 by_cases c1:decide (((zs L).length:Int)>1)=true
 ·simp only [c1];have fin:=loops (decide (((zs R).length:Int)>1));trivial
 ·simp only [c1];have fin:=loops false;trivial
end
theorem yK {τ:Tb} :Km τ 2 [] :=⟨nj,by simp⟩
theorem Km.w9 {τ:Tb}{t:Int}{as:List Nat}(h:Km τ t as)(e:t=2):as=[] :=by subst e;exact h.kd.bE nj
section
variable {H:AH}{ρ:Rs}{τ:Tb}{F:V→Prop}{Q:az}{n:Nat}
theorem IV {s t:Int}{as bs:List Nat}(h:aY H τ)(std:du τ)(hs:Km τ s as)(ht:Km τ t bs)(hn:τ.M.length+1<2^19)
 (q:∀H' τ' r cs,au 2 H H' τ τ'→Km τ' r cs→ah cs=ah as&&&ah bs→Q (.j r) H'):X.w (n+8) 29 [.y 4,.B [.j s,.j t]] H Q:=by
 delta uS
 have ei:∀(i:Int) {B:Bool→Prop},gb _ [.j s,.j t] B=B _:=fun i=>aR i [s,t]
 simp! [aG,iy,dB,ei,qa _ (l:=[V.j s,V.j t]) (show 2<2^62 by decide),zY _ _ _ _ (.h 4) rfl]
 by_cases h2:(2)∈ [s,t]
 ·simp [h2];apply q H τ 2 [] (.aD h) yK;simp at h2;rcases h2 with e|e
  ·rw [hs.w9 e.symm];simp [ah]
  ·rw [ht.w9 e.symm];simp [ah]
 have i1:=hs.kd.tm.cm std
 have i2:=ht.kd.tm.cm std
 have h0:(0)∉ [s,t] :=by simp [List.mem_cons,List.not_mem_nil,or_false];omega
 have h13:(13)∉ [s,t] :=by simp [List.mem_cons,List.not_mem_nil,or_false];omega
 simp only [h2,h0,h13,if_false]
 have up:ft (([V.j s,V.j t].length))=[.j 0,.j 1] :=rfl
 refine⟨show-(2^60)≤2 by decide,show(2)<2^60 by decide,?_⟩
 rw [up]
 have cut0:∀ {Q:az},d7 (.B [.j s,.j t]) none (some (.j 0)) H Q=Q (.B []) H:=fun{Q} =>by simp only [d7,lj,fu,qq];simp
 have n0:∀ {B:Bool→Prop},gb _ [] B=B false:=fun{B} =>aR s []
 simp [iy,dB]
 simp! [cut0,n0]
 have k1:Km τ 1 [10] :=⟨(std.at rfl).kd std,.inl rfl⟩
 refine X.x (yn (n:=n) h std k1 hs (by omega) fun H1 τ1 r1 cs1 G1 km1 hb1=>?_) (by omega)
 have cut1:∀ {H:AH} {Q:az},d7 (.B [.j s,.j t]) none (some (.j 1)) H Q=Q (.B [.j s]) H:=fun{H Q} =>by simp only [d7,lj,fu,qq];simp
 have n1:∀ {B:Bool→Prop},gb _ [.j s] B=B _:=fun{B} =>aR t [s]
 have hb1':ah cs1=ah as:=by rw [hb1];exact(qz (qw hs.ok)).2
 simp! [cut1,n1]
 by_cases hts:t∈ [s]
 ·simp [hts];apply q H1 τ1 r1 cs1 (G1.le (by omega)) km1;simp at hts;subst hts;rw [hb1',hs.kd.bE ht.kd,Nat.and_self]
 ·simp [hts];exact X.x (yn (n:=n) G1.R (G1.cR std) km1 (G1.gI.km ht) (by have:=G1.U;omega) fun H2 τ2 r2 cs2 G2 km2 hb2=>q H2 τ2 r2 cs2 (G1.trans G2 (by omega)) km2 (by rw [hb2,hb1'])) (by omega)
theorem HF {t:Int}{as:List Nat}(h:aY H τ)(std:du τ)(ht:Km τ t as)(hn:τ.M.length<2^19)
 (q:∀H' τ' r cs,au 1 H H' τ τ'→Km τ' r cs→ah cs=ah as|||1→Q (.j r) H'):X.w (n+4) 15 [.y 4,.j t] H Q:=by
 apply aC.hV rfl (Nat.le_refl _) (Nat.le_refl _)
 have hl:=dD 16 ht.kd.W ht.kd.lt
 refine iN h std (.inl rfl) (.cons ht.kd (.cons ((std.at (a:=0) rfl).kd std) .m)) (by simp;omega) hn fun H' τ' r cs G hk hu=>?_
 have ok:∀a∈as++([0] ++[]),vW a:=fun a ha=>by
  rcases List.mem_append.mp ha with z|z
  ·exact ht.ok a z
  ·simp at z;subst z;trivial
 refine q H' τ' r cs G ⟨hk,?_⟩ (by rw [js hu ok,ez];rfl)
 rcases hu with⟨_,u⟩|⟨u0,u⟩
 ·simp_all
 ·refine .inr fun a ha=>?_;rcases List.mem_append.mp ((u a).mp ha).1 with z|z
  ·rcases ht.kK with w|w
   ·simp_all
   ·exact w a z
  simp_all
def oq (a:Nat):Option PySem.Str:=match a with
 |3=>some (m "0")|4=>some (m "1")|6=>some (m "p")|7=>some (m "q")|8=>some (m "0")|11=>some (m "p")|12=>some (m "NaN")|13=>some (m "01")|14=>some (m "-1")|15=>some (m "z")|_=>none
def HG (o:Option PySem.Str):V:=match o with|some x=>.F x|none=>.aE
theorem xP {t:Int}{a:Nat}(h:aY H τ)(ha:At τ t a)(q:Q (HG (oq a)) H):X.w (n+2) 50 [.y 4,.j t] H Q:=by
 delta jB;have ei:∀(i:Int) {B:Bool→Prop},gb _ [.j 3,.j 4,.j 5] B=B _:=fun i=>aR i [3,4,5];simp! [h.bx,h.I ha.eM,ei];have word:aW a∈ [3,4,5] →X.w (n+1) 49 [.y 4,.j t] H Q:=fun hh=>by
  delta lO;simp! [h.bx,h.I ha.eM];have hlt:=ha.lt;have cases16:a=0∨a=1∨a=2∨a=3∨a=4∨a=5∨a=6∨a=7∨a=8∨a=9∨a=10∨a=11∨a=12∨a=13∨a=14∨a=15:=by omega
  rcases cases16 with rfl|rfl|rfl|rfl|rfl|rfl|rfl|rfl|rfl|rfl|rfl|rfl|rfl|rfl|rfl|rfl;all_goals trivial
 by_cases hh:aW a∈ [3,4,5]
 ·grind
 ·simp [hh];have:∀a<16,aW a∉ [3,4,5] →oq a=none:=by decide
  rw [this a ha.lt hh] at q;exact q
def N2 (c:Nat):Bool:=Mh (m "0") ⟨#[c]⟩&&Mh ⟨#[c]⟩ (m "9")
def Lr (s:PySem.Str):Bool:=decide (s=m "0")||(!decide (s=m "")&& !decide (s.cps.toList.head?.map (fun c=>(⟨#[c]⟩:PySem.Str))=some (m "0"))&&s.cps.toList.all N2)
theorem gU (l:List Bool):fp (l.map V.D)=some l:=by
 induction l with
 |nil=>rfl
 |cons a r ih=>show(fp _).map _=_;simp_all
theorem zk {s:PySem.Str}(hl:s.cps.size<2^20)(q:∀H',iY H H'→(∀τ,aY H τ→aY H' τ)→Q (.D (Lr s)) H'):X.w (n+1) 40 [.F s] H Q:=by
 apply aC.hV rfl (Nat.le_refl _) (Nat.le_refl _);show wS _ _ [some _,none,none] _ _;refine bW (fun rest out H1=>∃dn rs:List Nat,rest=rs.map _∧s.cps.toList=dn++rs∧out=(dn.map N2).map V.D∧iY H H1∧(∀τ,aY H τ→aY H1 τ)∧H.length<H1.length) ?_ ?_ ⟨[],_,rfl,rfl,rfl,.Y _ _,fun τ h=>h.Y _,by simp⟩ ae
 ·rintro _ r out H1 ⟨dn,rs,e,hs,rfl,k1,t1,l1⟩ ha;refine⟨trivial,?_,fun q' qn qs=>?_⟩
  ·have:=congrArg List.length hs;simp at this ⊢;omega
  cases rs with
  |nil=>cases e
  |cons c rs=>cases e;have hch:∀ {Q:az},(wX (X.b n) (.oD (.k (.F _)) (.h 2) (.k (.F _)))).E [some (V.F s),none,some (V.F _)] H1 Q=Q (.D (N2 c)) H1:=fun{Q} =>rfl;simp! [hch];exact qs _ _ ⟨dn++[c],rs,rfl,by rw [hs];simp,by simp,k1.set _ (by omega),fun τ h=>(t1 τ h).set _ (by have:=h.U;omega),by simpa using l1⟩ ha
 ·rintro out H1 ⟨dn,rs,e,hs,rfl,k1,t1,l1⟩ ha;have:rs=[] :=by simp_all
  subst this;rw [List.append_nil] at hs;subst hs;refine⟨trivial,?_⟩;have eall:∀ {Q:az},dj .A7 [.y H.length] H1 Q=Q (.D (s.cps.toList.all N2)) H1:=fun{Q} =>by simp only [dj,ha,gU];simp
  simp! [eall];have fin:=q H1 k1 t1;unfold Lr at fin;by_cases h0:s=m "0"
  ·grind
  by_cases h1:s=m ""
  ·grind
  have hsub:∀ {F:V→Prop},aF (.F s) (.j 0) H1 F=match s.cps.toList.head? with|some c=>F _|none=>False:=fun{F} =>by
   simp [aF];have hpos:0<s.cps.size:=by
    rcases Nat.eq_zero_or_pos s.cps.size with z|z
    ·exfalso;apply h1;have:=Array.eq_empty_of_size_eq_zero z;cases s;subst this;rfl
    omega
   have:yX 0 s.cps.size=some 0:=by unfold yX;grind
   rw [this];simp;rw [show s.cps[0]?=s.cps.toList[0]? by simp,←List.head?_eq_getElem?] <;>rfl
  cases hh:s.cps.toList.head? with
  |none=>
   exfalso;apply h1;cases s with|mk cps=>
    have:cps= #[] :=by simp_all
    subst this;rfl
  |some c=>rw [hh] at hsub fin;simp! [hsub];simp at fin;grind
end
def tQ (s:PySem.Str):PySem.Str:=if decide (PySem.Txt.slice s (some 0) (some 1)=m "-")&& !decide (s=m "-0") then PySem.Txt.slice s (some 1) none else s
def ML (s:PySem.Str):Bool:=decide (s=m "NaN")||(Lr (tQ s)||decide (tQ s=m "Infinity"))
def fe:List PySem.Str:=[m "0",m "1",m "p",m "q",m "NaN",m "01",m "-1"]
def m7 (s:PySem.Str):Bool:=decide (s∈ [m "0",m "1",m "NaN",m "-1"])
theorem Iu:∀s∈fe,ML s=m7 s∧s.cps.size<2^20∧(tQ s).cps.size<2^20:=by decide
theorem L3 (C:z4)(env:En)(H:AH){Q:az}(e lo hi:MX)(hl:lo.cE=false)(hh:hi.cE=false):(wX C (.oi e lo hi)).E env H Q=(wX C e).E env H fun x H=>(wX C lo).E env H fun l H=>(wX C hi).E env H fun h H=>d7 x (some l) (some h) H Q:=by show(wX C e).E env H _=_;grind
section
variable {H:AH}{ρ:Rs}{τ:Tb}{F:V→Prop}{Q:az}{n:Nat}
theorem oQ {s:PySem.Str}(hs:s∈fe)(h:aY H τ)(q:∀H',au 0 H H' τ τ→Q (.D (m7 s)) H'):X.w (n+2) 41 [.F s] H Q:=by
 obtain⟨e,l1,l2⟩:=Iu s hs;delta gB;have es:∀(lo hi:Option Int) (a b:Option V) {Q:az},lj a=some lo→lj b=some hi→d7 (.F s) a b H Q=Q (.F (PySem.Txt.slice s lo hi)) H:=fun lo hi a b {Q} h1 h2=>by simp [d7,h1,h2,l1]
 rw [←e] at q;unfold ML at q;simp! [L3 _ _ _ _ (.k _) (.k _) rfl rfl,og _ _ _ _ (.k _) rfl,es _ _ (some (.j 0)) (some (.j 1)) rfl rfl,es _ _ (some (.j 1)) none rfl rfl];by_cases hn:s=m "NaN"
 ·simp [hn] at q ⊢;exact q H (.aD h)
 have fin:∀ {b:PySem.Str},b=tQ s→X.w (n+1) 40 [.F b] H fun v H=>cY v H fun r=>if r=true then Q v H else aI .eq (.F b) (.F (m "Infinity")) H fun r=>Q (.D r) H:=fun{b} eb=>by subst eb;refine zk l2 fun H' k t=>?_;have fin:=q H' ⟨t τ h,by simp,rfl,rfl,rfl,k⟩;simp! [];grind
 by_cases c1:PySem.Txt.slice s (some 0) (some 1)=m "-"
 ·by_cases c2:s=m "-0"
  ·have:=fin (b:=s) (by unfold tQ;simp [c2]);simp! [] at this;grind
  ·have:=fin (b:=PySem.Txt.slice s (some 1) none) (by unfold tQ;simp [c1,c2]);simp! [] at this;grind
 ·have:=fin (b:=s) (by unfold tQ;simp [c1]);simp! [] at this;grind
theorem uY {t k:Int}{r:List V}(h:aY H τ)(hr:bj τ t (.j k::r))(hk:k≠10)(q:Q (.j t) H):X.w (n+2) 83 [.y 16,.j t] H Q:=by delta fJ;simp! [h.cK];delta nR;simp! [h.bx,h.I hr,hk,decide_false,Bool.not_false];omega
abbrev Pr:=PySem.Str×Int×Nat
def aV (p:Pr):V:=.B [.F p.1,.j p.2.1,.j (p.2.2:Int),.j 0]
def dC (ps:List Pr)(c0 c1:V):List V:=[.j 8,.B (ps.map aV),.B [],.B [],c0,c1,.j 0]
inductive Sh (H:AH) (τ:Tb):Int→Int→List Pr→V→V→Prop
 |sE {t:Int} {ps:List Pr} {c0 c1:V} :bj τ t (dC ps c0 c1)→Sh H τ t t ps c0 c1
 |y {t u did:Int} {g:Nat} {fs:List (Nat×V)} {ps:List Pr} {c0 c1:V} :bj τ t [.j 9,.j did,.B []] →0≤did→did<2^40→τ.aH[did.toNat]?=some (.y g)→H[g]?=some (.J 2 fs)→qj 16 fs=some (.B [])→qj 15 fs=some (.j u)→bj τ u (dC ps c0 c1)→Sh H τ t u ps c0 c1
theorem Sh.I {t u:Int}{ps:List Pr}{c0 c1:V}(h:Sh H τ t u ps c0 c1):bj τ u (dC ps c0 c1):=by
 cases h with
 |sE h=>omega
 |y _ _ _ _ _ _ _ h=>omega
theorem Sh.d5 {t u:Int}{ps:List Pr}{c0 c1:V}(h:Sh H τ t u ps c0 c1):∃k r,bj τ t (.j k::r)∧(k=8∨k=9)∧dH (.j k::r):=by
 cases h with
 |sE h=>exact⟨8,_,h,.inl rfl,8,_,rfl,by simp⟩
 |y h _ _ _ _ _ _ _=>exact⟨9,_,h,.inr rfl,9,_,rfl,by simp⟩
theorem Sh.N {H':AH}{τ':Tb}{t u:Int}{ps:List Pr}{c0 c1:V}(h:Sh H τ t u ps c0 c1)(le:dY τ τ')(k:∀(g:Nat) (fs:List (Nat×V)),H[g]?=some (.J 2 fs)→H'[g]?=some (.J 2 fs)):Sh H' τ' t u ps c0 c1:=by
 cases h with
 |sE h=>exact .sE (le.I h)
 |y a b c d e f g i=>obtain⟨x,hx⟩:=le.aH;exact .y (le.I a) b c (by grind) (k _ _ e) f g (le.I i)
theorem mz {t u:Int}{ps:List Pr}{c0 c1:V}(h:aY H τ)(hs:Sh H τ t u ps c0 c1)(q:Q (.j u) H):X.w (n+2) 84 [.y 16,.j t] H Q:=by
 delta fH;simp! [h.cK];delta jf;obtain⟨rest,hup⟩:∃r,ft 40=.j 0:: .j 1::r:=⟨_,rfl⟩;cases hs with
 |sE hr=>have h0:=hr.1;simp! [hup,iy,dB,h.bx,h.I hr,dC];grind
 |y hr d0 d1 hd hg h16 h15 hu=>
  rename_i did g fs;have h0:=hr.1;have u0:=hu.1;have e1:∀ {F:V→Prop},aF _ _ H F=F _:=fun{F} =>by rw [aA H did h.aH];exact pQ d0 d1 hd
  have e2:∀ {F:V→Prop},aX _ 16 H F=F _:=fun{F} =>bO H hg (by simp) (by rfl) h16;have e3:∀ {F:V→Prop},aX _ 15 H F=F _:=fun{F} =>bO H hg (by simp) (by rfl) h15;have e4:∀ {B:Bool→Prop},cY (.B []) H B=B false:=fun{B} =>by simp [cY]
  have e5:∀(i:Int) {B:Bool→Prop},gb _ _ B=B _:=fun i=>aR i [1,2,3,4,5];simp! [hup,iy,dB,h.bx,h.I hr,h.I hu,dC,h.Kk,e1,e2,e3,e4,e5];grind
theorem Ln {ps:List Pr}{c0 c1:V}{x:PySem.Str}(q:Q (match ps.find? (fun p=>decide (p.1=x)) with|some p=>aV p|none=>.aE) H):X.w (n+1) 39 [.B (dC ps c0 c1),.F x] H Q:=by
 apply aC.hV rfl (Nat.le_refl _) (Nat.le_refl _);unfold lV;simp! [aG];refine br (fun vs env H1=>∃rest a,vs=rest.map aV∧env=[some _,some _,a] ∧H1=H∧ps.find? _=rest.find? fun p=>decide (p.1=x)) ?_ ?_ ⟨ps,_,rfl,rfl,rfl,rfl⟩
 ·rintro _ r _ H1 ⟨rest,a,e,rfl,rfl,hf⟩;refine⟨trivial,fun q' qn qr=>?_⟩;cases rest with
  |nil=>cases e
  |cons p rest=>
   cases e;have e0:∀ {F:V→Prop},aF (aV p) _ H1 F=F _:=fun{F} =>oH H1 _ _;simp! [e0];by_cases hp:p.1=x
   ·simp [hp];apply qr _ _ _;rw [hf,List.find?_cons_of_pos (by simpa using hp)] at q;exact q
   grind
 ·rintro _ _ ⟨rest,a,e,rfl,rfl,hf⟩;have:rest=[] :=by simp_all
  refine⟨trivial,?_⟩;grind
def uA (ps:List Pr)(x:PySem.Str):V:=match ps.find? (fun p=>decide (p.1=x)) with|some p=>aV p|none=>.aE
theorem KO {t u:Int}{ps:List Pr}{c0 c1:V}{x:PySem.Str}(h:aY H τ)(hs:Sh H τ t u ps c0 c1)(q:Q (uA ps x) H):X.w (n+3) 42 [.y 16,.j t,.F x] H Q:=by
 delta jy;obtain⟨k,r,hr,hk,_⟩:=hs.d5;have k11:(k=11)=False:=eq_false (by omega);have k12:(k=12)=False:=eq_false (by omega);have mt:∀ {a f:Nat} {l:MX} {env:En} {Q:az} {C:z4},C.bJ 6 a=some f→a<54→qj a kY=none→env[0]?=some (some _)→(wX C _).E env H Q=(wX C l).L env H _:=fun{a f l env Q C} hm ha hf he=>uE (fun Q=>by rw [J5,he]) h.dZ hm ha hf;rw [zT,mt pX (by simp) rfl rfl];apply dE;simp! [h.cK,h.bx,h.I hr,k11,k12,h.dZ];refine⟨by simp,rfl,X.x (mz (n:=n) h hs ?_) (by omega)⟩;simp! [h.I hs.I];refine X.x (Ln (n:=n) ?_) (by omega);unfold uA at q;cases hf:ps.find? _ with
 |none=>grind
 |some p=>
  rw [hf] at q;have hp:p.1=x:=by grind
  simp! [h.dZ];refine⟨by simp,rfl,X.x (dE (n:=n) ?_) (by omega)⟩;rw [←hp];exact q
theorem KJ {p:Pr}{as:List Nat}(h:aY H τ)(std:du τ)(hk:Km τ p.2.1 as)(hf:p.2.2=0∨p.2.2=1)(hn:τ.M.length<2^19)(q:∀H' τ' r cs,au 1 H H' τ τ'→Km τ' r cs→ah cs=ah as|||p.2.2→Q (.j r) H'):X.w (n+5) 43 [.y 4,aV p] H Q:=by
 delta lP;have e2:∀ {F:V→Prop},aF (aV p) _ H F=F _:=fun{F} =>oF H _ _ _ _;simp! [e2];rcases hf with z|z
 ·rw [z];exact q H τ _ as (.aD h) hk (by simp_all)
 ·rw [z];exact HF h std hk hn (by grind)
end
def fY (τ:Tb)(c:V)(o:Option Nat):Prop:=(c=.B [] ∧o=none)∨∃k as,c=.B [.j k,.j 0] ∧Km τ k as∧o=some (ah as)
def jF (τ:Tb)(ps:List Pr)(x:PySem.Str)(v tx nm:Option Nat):Prop:=match ps.find? (fun p=>decide (p.1=x)) with
 |some p=>(p.2.2=0∨p.2.2=1)∧∃as,Km τ p.2.1 as∧v=some (ah as|||p.2.2)
 |none=>v=if(m7 x&&nm.isSome)=true then nm else tx
inductive Bs (H:AH) (τ:Tb):Int→Bool→(PySem.Str→Option Nat)→Option Nat→Option Nat→Prop
 |sE {t u:Int} {ps:List Pr} {c0 c1:V} {f:PySem.Str→Option Nat} {tx nm:Option Nat} :Sh H τ t u ps c0 c1→fY τ c0 tx→fY τ c1 nm→(∀x∈fe,jF τ ps x (f x) tx nm)→Bs H τ t false f tx nm
 |Mf {t k:Int} {as:List Nat} {f:PySem.Str→Option Nat} :bj τ t [.j 11,.j k,.j 0] →Km τ k as→(∀x∈fe,f x=if m7 x=true then some (ah as) else none)→Bs H τ t true f none none
def M4 (Q:az)(H:AH)(τ:Tb):Option Nat→Prop
 |none=>Q (.j (-1)) H
 |some x=>∀r cs,Km τ r cs→ah cs=x→Q (.j r) H
def JI (Q:az)(c:Nat)(H:AH)(τ:Tb)(o:Option Nat):Prop:=∀H' τ',au c H H' τ τ'→M4 Q H' τ' o
theorem Kd.nn {τ:Tb}{t:Int}{as:List Nat}(h:Kd τ t as):0≤t:=by
 obtain⟨l,p,_⟩:=h.ex;cases p with
 |o=>simp
 |ba _ _ c=>exact c.1
 |mn _ _ c=>exact c.1
section
variable {H:AH}{ρ:Rs}{τ:Tb}{F:V→Prop}{Q:az}{n:Nat}
theorem JI.le {c d:Nat}{o:Option Nat}(h:JI Q d H τ o)(hc:c≤d):JI Q c H τ o:=fun H' τ' G=>h H' τ' (G.le hc)
theorem au.J {c:Nat}{H H':AH}{τ τ':Tb}(G:au c H H' τ τ'){g:Nat}{k:Nat}{fs:List (Nat×V)}(h:aY H τ)(hk:k≠1)(e:H[g]?=some (.J k fs)):H'[g]?=some (.J k fs):=by
 by_cases hg:g<5∨10<g
 ·exact G.N.kp _ _ e hg
 ·have:g=5∨g=6∨g=7∨g=8∨g=9∨g=10:=by omega
  rcases this with rfl|rfl|rfl|rfl|rfl|rfl
  ·rw [h.M] at e;cases e
  ·rw [h.i8] at e;cases e
  ·rw [h.aH] at e;cases e
  ·rw [h.Z] at e;cases e
  ·obtain⟨l,a,_⟩:=h.dQ;simp_all
  ·obtain⟨l,a,_⟩:=h.names;simp_all
theorem dY.eN {τ τ':Tb}(g:dY τ τ'){c:V}{o:Option Nat}(h:fY τ c o):fY τ' c o:=h.imp id fun⟨k,as,a,b,c⟩=>⟨k,as,a,g.km b,c⟩
theorem dY.sJ {τ τ':Tb}(g:dY τ τ'){ps:List Pr}{x:PySem.Str}{v tx nm:Option Nat}(h:jF τ ps x v tx nm):jF τ' ps x v tx nm:=by
 unfold jF at h ⊢;split
 ·rename_i p hp;rw [hp] at h;exact⟨h.1,let⟨as,a,b⟩:=h.2;⟨as,g.km a,b⟩⟩
 grind
theorem Bs.N {H':AH}{τ':Tb}{t:Int}{arr:Bool}{f:PySem.Str→Option Nat}{tx nm:Option Nat}(h:Bs H τ t arr f tx nm)(le:dY τ τ')(k:∀(g:Nat) (fs:List (Nat×V)),H[g]?=some (.J 2 fs)→H'[g]?=some (.J 2 fs)):Bs H' τ' t arr f tx nm:=by
 cases h with
 |sE a b c d=>exact .sE (a.N le k) (le.eN b) (le.eN c) fun x hx=>le.sJ (d x hx)
 |Mf a b c=>exact .Mf (le.I a) (le.km b) c
theorem Bs.dJ {c:Nat}{H':AH}{τ':Tb}{t:Int}{arr:Bool}{f:PySem.Str→Option Nat}{tx nm:Option Nat}(h:Bs H τ t arr f tx nm)(tb:aY H τ)(G:au c H H' τ τ'):Bs H' τ' t arr f tx nm:=h.N G.gI fun g fs e=>G.J tb (by simp) e
theorem Bs.d5 {t:Int}{arr:Bool}{f:PySem.Str→Option Nat}{tx nm:Option Nat}(h:Bs H τ t arr f tx nm):∃k r,bj τ t (.j k::r)∧(if arr=true then k=11 else k=8∨k=9)∧dH (.j k::r):=by
 cases h with
 |sE a _ _ _=>obtain⟨k,r,a,b,c⟩:=a.d5;grind
 |Mf a _ _=>exact⟨11,_,a,by simp,11,_,rfl,by simp⟩
theorem Jt {c:V}{o:Option Nat}(h:fY τ c o){B:Bool→Prop} :aI .ne c (.B []) H B=B o.isSome:=by
 rcases h with⟨rfl,rfl⟩|⟨k,as,rfl,_,rfl⟩
 ·simp [aI,qo,V.bG,V.e]
 ·simp [aI,qo,V.bG,V.e]
theorem mH {c:V}{o:Option Nat}(h:fY τ c o){B:Bool→Prop} :aI .eq c (.B []) H B=B (!o.isSome):=by
 rcases h with⟨rfl,rfl⟩|⟨k,as,rfl,_,rfl⟩
 ·simp [aI,qo,V.bG,V.e]
 ·simp [aI,qo,V.bG,V.e]
theorem IS {t u:Int}{ps:List Pr}{c0 c1:V}{tx nm:Option Nat}{x:PySem.Str}(h:aY H τ)(hs:Sh H τ t u ps c0 c1)(h0:fY τ c0 tx)(h1:fY τ c1 nm)(hx:x∈fe)(q:JI Q 0 H τ (if(m7 x&&nm.isSome)=true then nm else tx)):X.w (n+4) 45 [.y 16,.j t,.F x] H Q:=by
 delta gQ;obtain⟨k,r,hr,hk,_⟩:=hs.d5;have k11:(k=11)=False:=eq_false (by omega);have k12:(k=12)=False:=eq_false (by omega);simp! [h.cK,h.bx,h.I hr,k11,k12,h.dZ];refine⟨by simp,rfl,X.x (mz (n:=n) h hs ?_) (by omega)⟩;simp! [h.I hs.I,dC];refine X.x (oQ (n:=n) hx h fun H1 G1=>?_) (by omega);have g2:=q H1 τ G1;simp! [Jt h1,mH h0];have tail:M4 Q H1 τ tx→if(!tx.isSome)=true then Q _ H1 else match H1[16]? with
  |some (ag.J c fs)=>match(X.b (n+3)).bJ c 26 with
   |some f=>26<54∧qj 26 fs=none∧aF c0 (.j 0) H1 fun v=>X.w (n+3) f [.y 16,v] H1 _
   |none=>False
  |_=>False:=fun g=>by
  rcases h0 with⟨rfl,rfl⟩|⟨k,as,rfl,km,rfl⟩
  ·exact g
  ·rw [G1.R.dZ];exact⟨by simp,rfl,X.x (dE (n:=n) (g k as km rfl)) (by omega)⟩
 cases hnx:m7 x with
 |false=>grind
 |true=>
  rw [hnx] at g2;rcases h1 with⟨rfl,rfl⟩|⟨k,as,rfl,km,rfl⟩
  ·grind
  ·rw [G1.R.dZ];exact⟨by simp,rfl,X.x (dE (n:=n) (g2 k as km rfl)) (by omega)⟩
theorem IT {t k:Int}{as:List Nat}{x:PySem.Str}(h:aY H τ)(hr:bj τ t [.j 11,.j k,.j 0])(hk:Km τ k as)(hx:x∈fe)(q:JI Q 0 H τ (if m7 x=true then some (ah as) else none)):X.w (n+4) 45 [.y 16,.j t,.F x] H Q:=by
 delta gQ;simp! [h.cK,h.bx,h.I hr];apply aC.hV rfl (Nat.le_refl _) (Nat.le_refl _);show wS _ _ [some _,some _,some _] _ _;refine X.x (oQ (n:=n) hx h fun H1 G1=>?_) (by omega);have g2:=q H1 τ G1;have hk0:=hk.kd.nn;cases hnx:m7 x with
 |false=>rw [hnx] at g2;trivial
 |true=>rw [hnx] at g2;simp! [show(k<0)=False from eq_false (by omega)];rw [G1.R.dZ];exact⟨by simp,rfl,X.x (dE (n:=n) (g2 k as hk rfl)) (by omega)⟩
end
section
variable {H:AH}{ρ:Rs}{τ:Tb}{F:V→Prop}{Q:az}{n:Nat}
theorem Ja {t k:Int}{r:List V}(h:aY H τ)(hr:bj τ t (.j k::r))(hk:k≠6∧k≠10)(q:∀H' g,au 0 H H' τ τ→H.length≤g→H'[g]?=some (.f [.j t])→Q (.y g) H'):X.w (n+3) 31 [.y 16,.j t] H Q:=by
 delta jj;simp! [];have hl:=h.U;generalize hH3:H++[ag.f []] ++[ag.i []] ++[ag.f [V.j t]] =H3;have l1:(H++[ag.f []]).length=H.length+1:=by simp
 have l2:(H++[ag.f []] ++[ag.i []]).length=H.length+2:=by simp
 rw [l1,l2];have l3:H3.length=H.length+3:=by rw [←hH3];simp
 have a0:H3[H.length]?=some (.f []):=by rw [←hH3];exact af (af ae)
 have a1:H3[H.length+1]?=some (.i []):=by rw [←hH3,←l1];exact af ae
 have a2:H3[H.length+2]?=some (.f [.j t]):=by rw [←hH3,←l2];exact ae
 have G3:au 0 H H3 τ τ:=by rw [←hH3];exact(((au.aD h).Y _).Y _).Y _
 rw [va];refine⟨2,?_⟩;have ee:∀(i:Int) {B:Bool→Prop},gb (.j i) [.j 11,.j 12] B=B (decide (i∈ [11,12])):=fun i=>aR i [11,12];have G4:au 0 H (H3.set (H.length+2) (.f [])) τ τ:=G3.set h _ (by omega);have b1:(H3.set (H.length+2) (.f []))[H.length+1]?=some (.i []):=aa a1 (by omega);have b0:(H3.set (H.length+2) (.f []))[H.length]?=some (.f []):=aa a0 (by omega);have b2:(H3.set (H.length+2) (.f []))[H.length+2]?=some (.f []):=aj a2;have epop:∀ {Q:az},ov (.y (H.length+2)) [] H3 Q=Q (.j t) (H3.set (H.length+2) (.f [])):=fun{Q} =>by simp only [ov,a2,true_and];rfl
 have ko:bI (.j t) [] :=⟨by simp [V.aS],fun e he=>nomatch he⟩;have ein:∀ {B:Bool→Prop},aI .jm (.j t) (.y (H.length+1)) (H3.set (H.length+2) (.f [])) B=B false:=fun{B} =>by show jH _ (.y _) _ B=_;simp [jH,b1,ko];rfl
 have eset:∀ {G:AH→Prop},cD (.y (H.length+1)) (.j t) (.j 1) (H3.set (H.length+2) (.f [])) G=G ((H3.set (H.length+2) (.f [])).set (H.length+1) (.i [(.j t,.j 1)])):=fun{G} =>by simp only [cD,b1,ko];exact eq_of_heq (heq_of_eq (by simp [eA]))
 generalize hH4:H3.set (H.length+2) (ag.f [])=H4 at G4 b0 b1 b2 epop ein eset;have G5:au 0 H (H4.set (H.length+1) (.i [(.j t,.j 1)])) τ τ:=G4.set h _ (by omega);have c0:(H4.set (H.length+1) (.i [(.j t,.j 1)]))[H.length]?=some (.f []):=aa b0 (by omega);have c2:(H4.set (H.length+1) (.i [(.j t,.j 1)]))[H.length+2]?=some (.f []):=aa b2 (by omega);generalize hH5:H4.set (H.length+1) (ag.i [(.j t,.j 1)])=H5 at G5 c0 c2 eset;have G6:au 0 H (H5.set H.length (.f [.j t])) τ τ:=G5.set h _ (Nat.le_refl _);have d0:(H5.set H.length (.f [.j t]))[H.length]?=some (.f [.j t]):=aj c0;have d2:(H5.set H.length (.f [.j t]))[H.length+2]?=some (.f []):=aa c2 (by omega);have fin:=q _ _ G6 (Nat.le_refl _) d0;have etr:∀ {B:Bool→Prop},cY (.y (H.length+2)) H3 B=B true:=fun{B} =>by simp only [cY,a2];rfl
 have etr2:∀ {B:Bool→Prop},cY (.y (H.length+2)) (H5.set H.length (.f [.j t])) B=B false:=fun{B} =>by simp only [cY,d2];rfl
 have eok:dK (.y (H.length+2)) H3=1:=bN _ a2;have eapp:∀ {G:AH→Prop},jE (.y H.length) (.j t) H5 G=G (H5.set H.length (.f [.j t])):=fun{G} =>by rw [cS _ c0 (by decide)];rfl
 have eok2:dK (.y H.length) H5=1:=bN _ c0;have eeq:∀ {B:Bool→Prop},aI .eq (.B [.j t]) (.B [.j t]) H5 B=B true:=fun{B} =>by simp [aI,qo,V.bG,V.e]
 simp only [fR];simp! [etr,eok,true_or,epop,G3.R.dZ];simp only [pX];refine⟨by decide,rfl,X.x (dE (n:=n) ?_) (by omega)⟩;simp! [ein,eset,G5.R.cK,G5.R.bx,G5.R.I hr,hk.1,decide_false,ee];by_cases h11:k∈ [11,12]
 ·simp only [h11,decide_true];simp! [eeq,eok2,eapp,etr2];omega
 ·simp only [h11];rw [G5.R.dZ];refine⟨by simp,rfl,X.x (uY (n:=n) G5.R hr hk.2 ?_) (by omega)⟩;simp! [eeq,eok2,eapp,etr2];omega
theorem Bs.N8 {t:Int}{arr:Bool}{f:PySem.Str→Option Nat}{tx nm:Option Nat}{x:PySem.Str}(h:aY H τ)(std:du τ)(hb:Bs H τ t arr f tx nm)(hx:x∈fe):∃o:V,(o=.aE∨∃p:Pr,o=aV p)∧(∀ {n c:Nat} {Q:az} {H':AH} {τ':Tb},au c H H' τ τ'→Q o H'→X.w (n+3) 42 [.y 16,.j t,.F x] H' Q)∧∀ {n c:Nat} {Q:az} {H':AH} {τ':Tb},au c H H' τ τ'→τ'.M.length<2^19→JI Q 1 H' τ' (f x)→X.w (n+6) 46 [.y 16,.j t,o,.F x] H' Q:=by
 obtain⟨k,r,hr,hk,_⟩:=hb.d5;have hk1:k≠1:=by cases arr<;>simp at hk<;>omega
 have hn1:=hr.dz std hk1;have t0:(t=0)=False:=eq_false (fun e=>hn1 (by rw [e];decide));have t13:(t=13)=False:=eq_false (fun e=>hn1 (by rw [e];decide));have start:∀ {n:Nat} {Q:az} {H':AH} {o:V},(if decide _=true then X.w _ 45 _ H' Q else aX _ 27 H' _)→X.w (n+6) 46 [.y 16,.j t,o,.F x] H' Q:=fun{n Q H' o} z=>by delta lS;simp! [t0,t13,decide_false];omega
 cases hb with
 |sE hs h0 h1 hp=>
  rename_i u ps c0 c1;have keep:∀ {c:Nat} {H':AH} {τ':Tb},au c H H' τ τ'→Sh H' τ' t u ps c0 c1:=fun G=>hs.N G.gI fun g fs e=>G.J h (by simp) e;refine⟨_,?_,fun G q=>KO G.R (keep G) q,fun{n c Q H' τ'} G hn q=>start ?_⟩
  ·unfold uA;cases ps.find? _ with
   |none=>simp
   |some p=>exact .inr ⟨p,rfl⟩
  ·have hpx:=G.gI.sJ (hp x hx);unfold jF at hpx;unfold uA;cases hf:ps.find? _ with
   |none=>rw [hf] at hpx;exact X.x (IS (n:=n) G.R (keep G) (G.gI.eN h0) (G.gI.eN h1) hx (by rw [←hpx];exact q.le (by omega))) (by omega)
   |some p=>rw [hf] at hpx;obtain⟨hfl,as,km,e⟩:=hpx;simp [G.R.cK];refine X.x (KJ (n:=n) G.R (G.cR std) km hfl hn fun H2 τ2 r cs G2 km' hb=>?_) (by omega);have:=q H2 τ2 G2;rw [e] at this;exact this r cs km' hb
 |Mf hr2 km hf=>exact⟨.aE,.inl rfl,fun{n c Q H' τ'} G q=>by apply aC.hV rfl (Nat.le_refl _) (Nat.le_refl _);show wS _ _ [some _,some _,some _,none,none] _ _;unfold jy;simp! [G.R.dZ];refine⟨by simp,rfl,X.x (dE (n:=n) ?_) (by omega)⟩;simp! [G.R.cK,G.R.bx,G.R.I (G.I hr2),G.R.dZ];refine⟨by simp,rfl,?_⟩;apply aC.hV rfl (Nat.le_refl _) (Nat.le_refl _);trivial,fun{n c Q H' τ'} G hn q=>start (X.x (IT (n:=n) G.R (G.I hr2) (G.gI.km km) hx (by rw [←hf x hx];exact q.le (by omega))) (by omega))⟩
theorem y1 {g:Nat}{o:V}(hg:H[g]?=some (.f [o]))(hg2:10<g)(h:aY H τ)(ho:o=.aE∨∃p:Pr,o=aV p)(q:∀H',au 0 H H' τ τ→Q (.D false) H'):X.w (n+1) 30 [.y g] H Q:=by
 delta iI;have hg1:(H++[ag.i []])[g]?=some _:=af hg;have hi:aG (.y g) (H++[ag.i []])=some ([o],some (g,[o])):=by simp [aG,hg1]
 simp! [hi];simp [iy];refine⟨hg1,?_⟩;have ko:∀k,bI (.j k) [] :=fun k=>⟨by simp [V.aS],by simp⟩;have fin:∀k,∃es,(∀ {G:AH→Prop},cD (.y H.length) (.j k) (.j 1) (H++[ag.i []]) G=G ((H++[ag.i []]).set H.length (.i es)))∧es.length=1:=fun k=>⟨[(.j k,.j 1)],fun{G} =>by simp [cD,ko];simp [eA],rfl⟩
 have g1:au 0 H (H++[ag.i []]) τ τ:=(au.aD h).Y _;have done:∀es,es.length=1→(∃l,((H++[ag.i []]).set H.length (.i es))[g]?=some (.f l)∧l=[o])∧Q (.D (decide ((es.length:Int)>1))) ((H++[ag.i []]).set H.length (.i es)):=fun es he=>by refine⟨by grind,?_⟩;rw [he];exact q _ (g1.set h _ (by simp))
 rcases ho with rfl|⟨p,rfl⟩
 ·obtain⟨es,e1,e2⟩:=fin 0;obtain⟨⟨l,d1,d2⟩,d3⟩:=done es e2;subst d2;simp! [e1,jV _ (aj ae)];trivial
 ·have e2:∀ {F:V→Prop},aF (aV p) _ (H++[ag.i []]) F=F _:=fun{F} =>oF _ _ _ _ _;have e3:∀ {F:V→Prop},aF (aV p) _ (H++[ag.i []]) F=F _:=fun{F} =>uu _ _ _ _ _ _;have b1:∀ {Q:az},cw .Me (.j 8) (.j 16) (H++[ag.i []]) Q=Q (.j 24) _:=fun{Q} =>rfl;have b2:∀ {Q:az},cw .qS (.j p.2.2) (.j 24) _ Q=Q _ (H++[ag.i []]):=fun{Q} =>by rfl
  simp! [e2,b1,b2,e3];obtain⟨es,e1,e2⟩:=fin 0;obtain⟨⟨l,d1,d2⟩,d3⟩:=done es e2;subst d2;refine iv (fun _=>?_) fun _=>?_;all_goals
   simp! [e1,jV _ (aj ae)]
   trivial
end
section
variable {H:AH}{ρ:Rs}{τ:Tb}{F:V→Prop}{Q:az}{n:Nat}
theorem yd {t:Int}{arr:Bool}{f:PySem.Str→Option Nat}{tx nm:Option Nat}{x:PySem.Str}(h:aY H τ)(std:du τ)(hb:Bs H τ t arr f tx nm)(hx:x∈fe)(hn:τ.M.length+1<2^19)(q:JI Q 2 H τ (f x)):X.w (n+7) 47 [.y 16,.j t,.F x] H Q:=by
 delta lQ;obtain⟨k,r,hr,hk,_⟩:=hb.d5;have hk6:k≠6∧k≠10∧k≠1:=by cases arr<;>simp at hk<;>omega
 have hn1:=hr.dz std hk6.2.2;have t0:t≠0:=fun e=>hn1 (by rw [e];decide);have t13:t≠13:=fun e=>hn1 (by rw [e];decide);simp! [];refine X.x (Ja (n:=n) h hr ⟨hk6.1,hk6.2.1⟩ fun H1 g G1 hg0 hg=>?_) (by omega);have hl:=h.U;have i1:aG (.y g) H1=some ([.j t],some (g,[.j t])):=by simp [aG,hg]
 rw [i1];simp only [gD];have p1:(H1++[ag.f []])[g]?=some _:=af hg;have gl1:=aM hg;have G2:au 0 H (H1++[ag.f []]) τ τ:=G1.Y _;refine⟨p1,?_⟩;rw [G2.R.dZ];refine⟨by decide,rfl,⟨by decide,rfl,X.x (uY (n:=n) G2.R (G2.I hr) hk6.2.1 (X.x (dE (n:=n) ?_) (by omega))) (by omega)⟩⟩;simp! [cS _ (ae (x:=.f [])) (by decide),List.nil_append];have G3:au 0 H ((H1++[ag.f []]).set H1.length (.f [.j t])) τ τ:=G2.set h _ (by omega);have a3:((H1++[ag.f []]).set _ _)[H1.length]?=some (.f [.j t]):=aj ae;have p3:((H1++[ag.f []]).set H1.length (.f [.j t]))[g]?=some _:=aa p1 (by omega);refine⟨p3,?_⟩;generalize hH3:(H1++[ag.f []]).set _ _=H3 at G3 a3 p3;have l3:H3.length=H1.length+1:=by rw [←hH3];simp
 have i3:aG (.y H1.length) H3=some ([.j t],some (H1.length,[.j t])):=by simp [aG,a3]
 rw [i3];have a4:(H3++[ag.f []])[H1.length]?=some _:=af a3;have G4:au 0 H (H3++[ag.f []]) τ τ:=G3.Y _;refine⟨a4,?_⟩;have ei:∀(i:Int) {B:Bool→Prop},gb _ [.j 0,.j 13] B=B _:=fun i=>aR i [0,13];have hno:t∉ [0,13] :=by simp [List.mem_cons,List.not_mem_nil,or_false];omega
 simp! [ei,hno];obtain⟨o,ho,hoc,hpt⟩:=hb.N8 h std hx;refine X.x (hoc (n:=n) G4 ?_) (by omega);simp! [cS _ (ae (x:=.f [])) (by decide),List.nil_append];have G5:au 0 H ((H3++[ag.f []]).set H3.length (.f [o])) τ τ:=G4.set h _ (by omega);have a5:((H3++[ag.f []]).set H3.length (.f [o]))[H1.length]?=some _:=aa a4 (by omega);have b5:((H3++[ag.f []]).set _ _)[H3.length]?=some (.f [o]):=aj ae;have l5:((H3++[ag.f []]).set H3.length (.f [o])).length=H3.length+1:=by simp
 refine⟨a5,?_⟩;generalize hH5:(H3++[ag.f []]).set _ _=H5 at G5 a5 b5 l5;simp! [bh _ a5];have up1:ft (([V.j t].length))=[.j 0] :=rfl;refine⟨show-(2^60)≤1 by decide,show(1)<2^60 by decide,?_⟩;rw [up1];simp only [gD,dB];have G6:au 0 H (H5++[ag.f []]) τ τ:=G5.Y _;have a6:(H5++[ag.f []])[H1.length]?=some _:=af a5;have b6:(H5++[ag.f []])[H3.length]?=some _:=af b5;simp! [aA _ 0 a6,aA _ 0 b6];refine X.x (hpt (n:=n) G6 (by omega) fun H7 τ7 G7=>?_) (by omega);have a7:=G7.N.kp _ _ b6 (.inr (by omega));have c7:=G7.N.kp _ _ ae (.inr (by omega));have tail:∀v,(∀H9,au 1 H H9 τ τ7→H9[H5.length]?=some (.f [.j v])→H9[H3.length]?=some (.f [o])→(v<0→v= -1∧Q (.j (-1)) H9)∧(0≤v→X.w (n+6) 14 [.y 4,.y H5.length] H9 Q))→jE (.y H5.length) (.j v) H7 fun H_1=>aI .jm (.j (-1)) (.y H5.length) H_1 fun r=>if r=true then Q (.j (-1)) H_1 else cY (.y H5.length) H_1 fun b=>if(!b)=true then Q (.j (-1)) H_1 else X.w (n+6) 30 [.y H3.length] H_1 fun v H_2=>cY v H_2 fun b=>if b=true then Q (.j (-1)) H_2 else aX (.y 16) 27 H_2 fun v_1=>X.w (n+6) 14 [v_1,.y H5.length] H_2 fun v H=>Q v H:=by
  intro v z;rw [cS _ c7 (by simp),List.nil_append];have G8:au 1 H (H7.set H5.length (.f [.j v])) τ τ7:=(G6.trans G7 (by omega:0+1≤1)).set h _ (by omega);have c8:(H7.set _ (.f [.j v]))[H5.length]?=some _:=aj c7;have a8:(H7.set H5.length (.f [.j v]))[H3.length]?=some _:=aa a7 (by omega);generalize H7.set _ _=H8 at G8 c8 a8;have ein:∀ {B:Bool→Prop},aI .jm _ (.y H5.length) H8 B=B _:=fun{B} =>by show jH _ (.y _) H8 B=_;simp only [jH,c8];exact aR (-1) [v]
  rw [ein];by_cases hv:v<0
  ·obtain⟨z1,z2⟩:=(z H8 G8 c8 a8).1 hv;subst z1;simp;omega
  ·have:(-1)∉ [v] :=by simp;omega
   simp [this];have etr:∀ {B:Bool→Prop},cY (.y H5.length) H8 B=B true:=fun{B} =>by simp only [cY,c8];rfl
   rw [etr];refine X.x (y1 (n:=n) a8 (by omega) G8.R ho fun H9 G9=>?_) (by omega);simp! [G9.R.cK];exact(z H9 (G8.trans G9 (by omega)) (G9.N.kp _ _ c8 (by omega)) (G9.N.kp _ _ a8 (by omega))).2 (by omega)
 cases hv:f x with
 |none=>rw [hv] at q;exact tail (-1) fun H9 G9 _ _=>⟨fun _=>⟨rfl,q H9 τ7 (G9.le (by omega))⟩,(by simp)⟩
 |some y=>
  rw [hv] at q;intro r' cs km hbits;have hr0:=km.kd.nn;refine tail r' fun H9 G9 c9 a9=>⟨(by omega),fun _=>?_⟩;have hcl:=dD 16 km.kd.W km.kd.lt;refine X.x (iN (n:=0) (ts:=[r']) G9.R (G9.cR std) (.inr ⟨_,rfl,by omega,c9⟩) (.cons km.kd .m) (by simp;omega) (by have:=G9.U;omega) fun H10 τ10 r2 bs G10 kd hu=>q H10 τ10 (G9.trans G10 (by omega)) r2 bs ⟨kd,?_⟩ (by rw [js hu (fun a ha=>by rw [List.append_nil] at ha;exact km.ok a ha),List.append_nil,hbits])) (by omega)
  ·rcases hu with⟨_,u⟩|⟨u0,u⟩
   ·exact .inl u
   ·refine .inr fun a ha=>?_;have ha':=((u a).mp ha).1;rw [List.append_nil] at ha';rcases km.kK with w|w
    ·rw [w] at u0;simp at u0
    ·exact w a ha'
end
def hM (f:PySem.Str→Option Nat)(tx nm:Option Nat)(own:Bool)(a:Nat):Option Nat:=match oq a with
 |some x=>f x
 |none=>if(own&&(a==5||a==9))=true then(if(a==5&&nm.isSome)=true then nm else tx) else none
def cL (g:Nat→Option Nat):List Nat→Nat→Option Nat
 |[],y=>some y
 |a::r,y=>match g a with
  |none=>none
  |some z=>cL g r (y&&&z)
theorem vF:∀a<15,∀x,oq a=some x→x∈fe:=by decide
section
variable {H:AH}{ρ:Rs}{τ:Tb}{F:V→Prop}{Q:az}{n:Nat}
theorem uK {t:Int}{arr:Bool}{f:PySem.Str→Option Nat}{tx nm:Option Nat}(h:aY H τ)(hb:Bs H τ t arr f tx nm)(b:Bool)(q:∀c,fY τ c (if b=true then nm else tx)→Q c H):X.w (n+3) 48 [.y 16,.j t,.j (if b=true then 1 else 0)] H Q:=by
 delta nP;obtain⟨k,r,hr,hk,_⟩:=hb.d5;have hk6:(k=6)=False:=eq_false (by cases arr<;>simp at hk<;>omega);simp! [h.dZ];refine⟨by decide,rfl,X.x (dE (n:=n) ?_) (by omega)⟩;simp! [h.cK,h.bx,h.I hr,hk6];have fin:∀ {c:V} {o:Option Nat},fY τ c o→(∀c,fY τ c o→Q c H)→aI .eq c _ H fun r=>if r=true then Q _ H else match H[16]? with
  |some (ag.J c' fs)=>match(X.b (n+2)).bJ c' 26 with
   |some f=>26<54∧qj 26 fs=none∧aF c (.j 0) H fun v=>X.w (n+2) f [.y 16,v] H fun v H=>aF c _ H fun v_1=>Q (.B [v,v_1]) H
   |none=>False
  |_=>False:=fun{c o} hc g=>by
  rw [mH hc]
  rcases id hc with⟨rfl,rfl⟩|⟨k,as,rfl,km,rfl⟩
  ·exact g _ hc
  ·rw [h.dZ];refine⟨by simp,rfl,X.x (dE (n:=n) ?_) (by omega)⟩;rw [oG];simp_all
 cases hb with
 |sE hs h0 h1 hp=>
  have k11:(k=11)=False:=eq_false (by simp at hk;omega);have k12:(k=12)=False:=eq_false (by simp at hk;omega);simp! [k11,k12,h.dZ];refine⟨by simp,rfl,X.x (mz (n:=n) h hs ?_) (by omega)⟩;simp! [h.I hs.I];cases b with
  |true=>exact fin h1 q
  |false=>exact fin h0 q
 |Mf hr2 km hf=>
  have hk':k=11:=by trivial
  subst hk';have e0:aI .eq (.B []) _ H _:=fin (o:=none) (.inl (by simp)) fun c hc=>by grind
  cases b with
  |false=>exact e0
  |true=>rw [h.dZ];refine⟨by simp,rfl,?_⟩;apply aC.hV rfl (Nat.le_refl _) (Nat.le_refl _);trivial
theorem MB {t key:Int}{arr own:Bool}{f:PySem.Str→Option Nat}{tx nm:Option Nat}{a:Nat}(h:aY H τ)(std:du τ)(hb:Bs H τ t arr f tx nm)(hk:At τ key a)(ha:a<15)(hn:τ.M.length+1<2^19)(q:JI Q 2 H τ (hM f tx nm own a)):X.w (n+8) 80 [.y 16,.j t,.j key,.D own] H Q:=by
 delta gP;unfold hM at q;simp! [h.cK];refine X.x (xP (n:=n) h hk ?_) (by omega);cases ht:oq a with
 |some x=>rw [ht] at q;exact X.x (yd (n:=n) h std hb (vF a ha x ht) hn q) (by omega)
 |none=>
  rw [ht] at q;have i6:=bV h std hk (b:=9) rfl;have i7:=bV h std hk (b:=5) rfl;have ei:∀(i:Int) {B:Bool→Prop},gb _ [.j 6,.j 7] B=B _:=fun i=>aR i [6,7];simp [HG];simp! [ei];have none_:hM f tx nm own a=none→Q _ H:=fun z=>by unfold hM at z;rw [ht] at z;rw [z] at q;exact q H τ (.aD h)
  have kdef:hM f tx nm own a=if(own&&(a==5||a==9))=true then(if(a==5&&nm.isSome)=true then nm else tx) else none:=by unfold hM;rw [ht]
  cases own with
  |false=>grind
  |true=>
   by_cases hm:key∈ [6,7]
   ·have a59:a=5∨a=9:=by grind
    have k2:hM f tx nm true a=if(a==5&&nm.isSome)=true then nm else tx:=by rcases a59 with z|z<;>(rw [z];rfl)
    rw [←kdef,k2] at q;have last:(¬(a=5∧nm.isSome=true))→X.w (n+7) 48 _ H fun v H=>aI .eq v (.B []) H fun r=>if r=true then Q _ H else aF v (.j 0) H fun v=>Q v H:=fun z=>by
     refine X.x (uK (n:=n) h hb false fun c hc=>?_) (by omega);rw [if_neg (by simpa using z)] at q;have q:=q H τ (.aD h);simp! [mH hc];rcases hc with⟨rfl,rfl⟩|⟨k,as,rfl,km,rfl⟩
     ·exact q
     ·exact q k as km rfl
    have eemp:∀ {B:Bool→Prop},aI .eq (.B []) (.B []) H B=B true:=fun{B} =>by simp [aI,qo,V.bG,V.e]
    by_cases h7:key=7
    ·simp [h7];refine X.x (uK (n:=n) h hb true fun c hc=>?_) (by omega);simp at hc;simp! [mH hc];rcases id hc with⟨rfl,e⟩|⟨k,as,rfl,km,e⟩
     ·simp [e];exact last (by rw [e];simp)
     ·rw [if_pos (by rw [i7.mp h7,e];rfl),e] at q;simp! [e];exact q H τ (.aD h) k as km rfl
    grind
   ·grind
theorem A9 {t idx:Int}{arr own:Bool}{f:PySem.Str→Option Nat}{tx nm:Option Nat}{L:List Int}{as:List Nat}(h:aY H τ)(std:du τ)(hb:Bs H τ t arr f tx nm)(hp:cp τ idx L)(hL:eI τ L as)(ha:∀a∈as,a<15)(hn:τ.M.length+4*as.length<2^19)(q:JI Q (4*as.length) H τ (cL (hM f tx nm own) as 32767)):X.w (n+9) 81 [.y 16,.j t,.j idx,.D own] H Q:=by
 delta fh;simp! [h.cK];refine X.x (eQ (n:=n) h hp (br (fun vs env H1=>∃rest ra τ1 fd cs x y c,vs=zs rest∧eI τ rest ra∧(∀a∈ra,a<15)∧env=[some _,some _,some _,some _,some (.j fd),x,y] ∧au c H H1 τ τ1∧Km τ1 fd cs∧cL _ as 32767=cL (hM f tx nm own) ra (ah cs)∧c+4*ra.length≤4*as.length) ?_ ?_
  ⟨L,as,τ,1,_,_,_,0,rfl,hL,ha,rfl,.aD h,⟨(std.at rfl).kd std,.inl rfl⟩,rfl,by omega⟩)) (by omega)
 ·rintro _ r _ H1 ⟨rest,ra,τ1,fd,cs,x,y,c,e,hra,har,rfl,G1,km,hw,hc⟩;refine⟨trivial,fun q' qn qr=>?_⟩;cases hra with
  |m=>cases e
  |cons hia hra=>
   rename_i i a rest ra;cases e;have len1:=G1.U;simp at hc;refine X.x (MB (n:=n) G1.R (G1.cR std) (hb.dJ h G1) (hia.dJ G1) (har a (by simp)) (by omega) fun H2 τ2 G2=>?_) (by omega);have hw':cL (hM f tx nm own) as 32767=match hM f tx nm own a with|none=>none|some z=>cL (hM f tx nm own) ra (ah cs&&&z):=by trivial
   have G12:=G1.trans G2 (Nat.le_refl _);have len2:=G12.U;cases hka:hM f tx nm own a with
   |none=>rw [hka] at hw';apply qr _ _ _;have:=q H2 τ2 (G12.le (by omega));rw [hw'] at this;trivial
   |some z=>rw [hka] at hw';intro g gs kg hg;have g0:=kg.kd.nn;simp! [show(g<0)=False from eq_false (by omega),G2.R.cK];refine X.x (IV (n:=n) G2.R (G12.cR std) (G2.gI.km km) kg (by omega) fun H3 τ3 r3 c3 G3 k3 b3=>(qn _ _ ⟨_,ra,τ3,r3,c3,_,_,_,rfl,hra,by grind,rfl,G12.trans G3 (Nat.le_refl _),k3,?_,by omega⟩).1) (by omega);rw [hw',b3,hg]
 ·rintro _ H1 ⟨rest,ra,τ1,fd,cs,x,y,c,e,hra,har,rfl,G1,km,hw,hc⟩;cases hra with
  |cons _ _=>cases e
  |m=>refine⟨trivial,?_⟩;have:=q H1 τ1 (G1.le (by omega));rw [hw] at this;exact this fd cs km rfl
theorem A8 {t idx pid:Int}{own:Bool}(h:aY H τ)(std:du τ)(hr:bj τ idx [.j 10,.j pid])(q:Q (.j (-1)) H):X.w (n+4) 81 [.y 16,.j t,.j idx,.D own] H Q:=by
 delta fh;have no:=hr.dz std (by simp);simp at no;simp! [h.cK];refine X.x (eQ (n:=n) h (.mn (by omega) (by simp) hr) ?_) (by omega);simp [aG,iy,dB];delta gP;simp! [h.cK];delta jB;have ei:∀(i:Int) {B:Bool→Prop},gb _ _ B=B _:=fun i=>aR i [3,4,5];have e6:∀ {B:Bool→Prop},gb _ [.j 6,.j 7] B=B false:=fun{B} =>by rw [show([V.j 6,V.j 7])=zs [6,7] from rfl,aR idx [6,7]];grind
 simp! [h.bx,h.I hr];grind
end
structure Gr (c:Nat) (H H':AH) (τ τ':Tb):Prop where
 R:aY H' τ'
 le:dY τ τ'
 M:τ'.M.length≤τ.M.length+c
 vB:τ'.Z.length≤τ.Z.length+c
 vA:τ'.aH.length≤τ.aH.length+c
 gh:τ'.gh≤τ.gh+c
 N:∀i o,H[i]?=some o→i<3∨i=4∨10<i→H'[i]?=some o
 U:H.length≤H'.length
theorem Gr.aD {c:Nat}{H:AH}{τ:Tb}(h:aY H τ):Gr c H H τ τ:=⟨h,.aD τ,by omega,by omega,by omega,by omega,by simp_all,by simp⟩
theorem Gr.trans {c d e:Nat}{H H1 H2:AH}{τ τ1 τ2:Tb}(a:Gr c H H1 τ τ1)(b:Gr d H1 H2 τ1 τ2)(he:c+d≤e):Gr e H H2 τ τ2:=
 ⟨b.R,a.le.trans b.le,by have:=a.M;have:=b.M;omega,by have:=a.vB;have:=b.vB;omega,by have:=a.vA;have:=b.vA;omega,by have:=a.gh;have:=b.gh;omega,fun i o e h=>b.N i o (a.N i o e h) h,Nat.le_trans a.U b.U⟩
theorem Gr.P {c d:Nat}{H H':AH}{τ τ':Tb}(a:Gr c H H' τ τ')(h:c≤d):Gr d H H' τ τ':=⟨a.R,a.le,by have:=a.M;omega,by have:=a.vB;omega,by have:=a.vA;omega,by have:=a.gh;omega,a.N,a.U⟩
theorem au.gr {c:Nat}{H H':AH}{τ τ':Tb}(a:au c H H' τ τ'):Gr c H H' τ τ':=
 ⟨a.R,a.gI,a.U.2,by rw [a.Z];omega,by rw [a.aH];omega,by rw [a.gh];omega,fun i o e h=>a.N.kp i o e (by omega),a.N.U⟩
theorem Gr.cR {c:Nat}{H H':AH}{τ τ':Tb}(a:Gr c H H' τ τ')(h:du τ):du τ':=a.le.cR h
theorem Gr.Y {c:Nat}{H H':AH}{τ τ':Tb}(a:Gr c H H' τ τ')(x:ag):Gr c H (H'++[x]) τ τ':=⟨a.R.Y x,a.le,a.M,a.vB,a.vA,a.gh,fun i o e h=>af (a.N i o e h),by have:=a.U;simp;omega⟩
theorem Gr.set {c:Nat}{H H':AH}{τ τ':Tb}(a:Gr c H H' τ τ')(h:aY H τ){g:Nat}(x:ag)(hg:H.length≤g):Gr c H (H'.set g x) τ τ':=⟨a.R.set x (Nat.le_trans h.U hg),a.le,a.M,a.vB,a.vA,a.gh,fun i o e h=>aa (a.N i o e h) (by have:=aM e;omega),by have:=a.U;simp_all⟩
def Bd (τ:Tb)(k:Nat):Prop:=τ.M.length≤k∧τ.Z.length≤k∧τ.aH.length≤k∧τ.gh≤k
theorem Gr.bd {c k k':Nat}{H H':AH}{τ τ':Tb}(a:Gr c H H' τ τ')(h:Bd τ k)(e:k+c≤k'):Bd τ' k':=by obtain⟨h1,h2,h3,h4⟩:=h;have:=a.M;have:=a.vB;have:=a.vA;have:=a.gh;exact⟨by omega,by omega,by omega,by omega⟩
theorem oe.P {τ τ':Tb}(g:dY τ τ'){mode:Int}{e:V×V}(h:oe τ mode e):oe τ' mode e:=by obtain⟨s,t,b,cs,as,p,ct,bs,p',h1,h2,h3,h4⟩:=h;exact⟨s,t,b,cs,as,p,ct,bs,p',h1,h2.P g,h3.P g,h4⟩
theorem qH.P {τ τ':Tb}(g:dY τ τ'){mode:Int}{m:Nat}{far:List Int}{k:Int×Int}(h:qH τ mode m far k):qH τ' mode m far k:=
 h.imp id fun⟨cs,as,p,ct,bs,p',h1,h2,h3⟩=>⟨cs,as,p,ct,bs,p',h1.P g,h2.P g,h3⟩
theorem tW.P {τ τ':Tb}(g:dY τ τ'){ρ:Rs}{m:Nat}(I:tW τ ρ m):tW τ' ρ m:=⟨fun e he=>(I.kn e he).P g,fun k hk=>(I.as k hk).P g,I.qQ,I.M,I.v,I.aT,fun i hi=>let⟨r,hr⟩:=I.cC i hi;⟨r,g.I hr⟩⟩
theorem aq.N {H H':AH}{ρ:Rs}(h:aq H ρ)(k:∀i o,H[i]?=some o→10<i→H'[i]?=some o):aq H' ρ:=by
 have a:∀p∈ρ.l,10<p:=fun p hp=>by have:=h.bD p hp;omega
 exact⟨k _ _ h.J (a _ (by constructor)),k _ _ h.n (a _ (by simp [Rs.l])),k _ _ h.bk (a _ (by simp [Rs.l])),k _ _ h.G (a _ (by simp [Rs.l])),k _ _ h.aP (a _ (by simp [Rs.l])),k _ _ h.aO (a _ (by simp [Rs.l])),h.cF,h.bD,h.W⟩
structure W (H:AH) (τ:Tb) (ρ:Rs) (k m:Nat):Prop where
 R:aY H τ
 cR:du τ
 bC:aq H ρ
 sG:tW τ ρ m
 tl:ρ.tl=[]
 bM:ρ.bM=0
 v:ρ.v=1∨ρ.v=2∨ρ.v=4
 bd:Bd τ k
 Q:ρ.Q≤k
 aP:ρ.M.length≤k
structure Mv (H H':AH) (τ τ':Tb) (ρ ρ':Rs):Prop where
 le:dY τ τ'
 N:∀i o,H[i]?=some o→i<3∨i=4∨10<i→i∉ρ.l→H'[i]?=some o∧i∉ρ'.l
 U:H.length≤H'.length
 eq:ρ'= {ρ with kn:=ρ'.kn,Q:=ρ'.Q,G:=ρ'.G,M:=ρ'.M}
section
variable {H H' H1 H2:AH}{ρ ρ' ρ1 ρ2:Rs}{τ τ' τ1 τ2:Tb}{F:V→Prop}{Q:az}{n c d k m:Nat}
theorem Mv.aD:Mv H H τ τ ρ ρ:=⟨.aD τ,by grind,by simp,rfl⟩
theorem Mv.trans (a:Mv H H1 τ τ1 ρ ρ1)(b:Mv H1 H2 τ1 τ2 ρ1 ρ2):Mv H H2 τ τ2 ρ ρ2:=by exact⟨a.le.trans b.le,fun i o e hi hp=>by obtain⟨x,y⟩:=a.N i o e hi hp;exact b.N i o x hi y,Nat.le_trans a.U b.U,by rw [b.eq,a.eq]⟩
theorem Mv.r (a:Mv H H1 τ τ1 ρ ρ1):ρ1.r=ρ.r:=by rw [a.eq]
theorem Mv.v (a:Mv H H1 τ τ1 ρ ρ1):ρ1.v=ρ.v:=by rw [a.eq]
theorem Mv.cC (a:Mv H H1 τ τ1 ρ ρ1):ρ1.cC=ρ.cC:=by rw [a.eq]
theorem Mv.aT (a:Mv H H1 τ τ1 ρ ρ1):ρ1.aT=ρ.aT:=by rw [a.eq]
theorem Mv.jo (a:Mv H H1 τ τ1 ρ ρ1):ρ1.jo=ρ.jo:=by rw [a.eq]
theorem Mv.kV (a:Mv H H1 τ τ1 ρ ρ1):ρ1.kV=ρ.kV:=by rw [a.eq]
theorem Gr.mv (G:Gr c H H' τ τ'):Mv H H' τ τ' ρ ρ:=⟨G.le,fun i o e hi hp=>⟨G.N i o e hi,hp⟩,G.U,rfl⟩
theorem W.gr (w:W H τ ρ k m)(G:Gr c H H' τ τ')(e:k+c≤n):W H' τ' ρ n m:=⟨G.R,G.cR w.cR,w.bC.N fun i o e h=>G.N i o e (by omega),w.sG.P G.le,w.tl,w.bM,w.v,G.bd w.bd e,by have:=w.Q;omega,by have:=w.aP;omega⟩
theorem W.x (w:W H τ ρ k m)(e:k≤n):W H τ ρ n m:=w.gr (Gr.aD w.R) (c:=0) e
theorem aN.mv (S:aN τ c H H' ρ ρ')(htl:ρ.tl=[]):Mv H H' τ τ ρ ρ':=by
 refine⟨.aD τ,fun i o e hi hp=>⟨S.N i o e hp,?_⟩,S.U,by have h1:=S.eq;have h2:=S.tl htl;grind⟩
 ·rw [S.l];simp [Rs.l,not_or] at hp ⊢;refine⟨hp.1,hp.2.1,hp.2.2.1,?_,by omega,by omega⟩;have:=aM e;rcases S.G with q|q
  ·omega
  omega
theorem W.vp (w:W H τ ρ k m)(S:aN τ c H H' ρ ρ')(e:k+c≤n):W H' τ ρ' n m:=
 ⟨S.R w.bC w.R,w.cR,S.bC,S.sG w.sG,S.tl w.tl,S.bM.trans w.bM,by rw [S.v];exact w.v,⟨by have:=w.bd.1;omega,by have:=w.bd.2.1;omega,by have:=w.bd.2.2.1;omega,by have:=w.bd.2.2.2;omega⟩,by have:=S.Q.2;have:=w.Q;omega,by rw [S.M];have:=w.aP;omega⟩
theorem mj {s t:Int}{cs ct:List Int}{as bs:List Nat}{p p':Nat}(w:W H τ ρ k m)(hs:Tm τ s cs as p)(ht:Tm τ t ct bs p')(htf:t∉ρ.cC)(hmu:mu p as ct bs≤m)(hm:m≤20)(hc:cU p as ct bs≤c)(hk:k+c≤19000)
 (q:∀H' ρ',W H' τ ρ' (k+c) m→Mv H H' τ τ ρ ρ'→ρ'.M=ρ.M→Q (.D (aB (decide (ρ.v=2)) cs as ct bs)) H'):X.w (n+170) 52 [.y ρ.r,.j s,.j t] H Q:=by
 have A:gY X τ m (n+170):=gY.x (Jz w.cR m) (by omega)
 exact A w.R w.bC w.sG htf hs ht hmu (by have:=w.Q;omega) (by rw [w.bM];omega) w.v fun H' ρ' S _=>q H' ρ' (w.vp S (by omega)) (S.mv w.tl) S.M
def bg (ρ:Rs)(c:Int):V:=.B [.j c,.j ρ.jo]
def ja (ρ:Rs)(c:Int):Rs:= {ρ with M:=if ρ.kV=true then ρ.M++[bg ρ c] else ρ.M}
theorem pU {code:Int}(w:W H τ ρ k m)(hk:k+1≤19000)(q:∀H',W H' τ (ja ρ code) (k+1) m→Mv H H' τ τ ρ (ja ρ code)→Q .aE H'):X.w (n+2) 53 [.y ρ.r,.j code] H Q:=by
 delta nS;simp! [w.bC.qN];have wn:=w.aP;cases ht:ρ.kV with
 |false=>
  have e:ja ρ code=ρ:=by unfold ja;rw [if_neg (by simp_all)]
  have:=q H;rw [e] at this;exact this (w.x (by omega)) .aD
 |true=>
  have e:ja ρ code= {ρ with M:=ρ.M++[bg ρ code] } :=by unfold ja;simp_all
  rw [e] at q;simp! [w.bC.eC,w.bC.aP];refine⟨by simp,rfl,?_⟩;rw [w.bC.Od];delta lX;simp! [w.bC.eB,bN _ w.bC.aO,cS _ w.bC.aO (by omega)];have d:=w.bC.ne;have rel':aq _ {ρ with M:=ρ.M++[bg ρ code] } :=
   ⟨aa w.bC.J d.rw,aa w.bC.n d.aw,aa w.bC.bk d.kw,aa w.bC.G d.tw,aa w.bC.aP d.nw,aj w.bC.aO,w.bC.cF,w.bC.bD,w.bC.W⟩
  have I:=w.sG;refine q _ ⟨w.bC.R w.R (by simp [Rs.l]),w.cR,rel',⟨I.kn,I.as,I.qQ,by simp;omega,I.v,I.aT,I.cC⟩,w.tl,w.bM,w.v,(Gr.aD (c:=0) w.R).bd w.bd (by omega),by have:=w.Q;grind,by simp_all⟩ ⟨.aD τ,fun i o e hi hp=>⟨aa e ?_,hp⟩,by simp,rfl⟩;intro z;apply hp;rw [z];simp [Rs.l]
theorem Ni {t:Int}{as:List Nat}(w:W H τ ρ k m)(hm:ρ.v≠4)(ht:Km τ t as)(hk:k+1≤19000)
 (q0:as=[] →Q (.D false) H) (q1:as=[10] →Q (.D true) H)
 (q2:as≠ [] →as≠ [10] →∀H',W H' τ (ja ρ 1) (k+1) m→Mv H H' τ τ ρ (ja ρ 1)→Q (.D true) H'):X.w (n+6) 52 [.y ρ.r,.j 0,.j t] H Q:=by
 have h:=w.R
 have hρ:=w.bC
 have i:=ht.kd.tm.cm w.cR
 obtain⟨kt,rt,rt',st⟩:=ht.kd.tm.d5 w.cR
 have r0:bj τ 0 [.j 1,.F (H31.m "any")] :=w.cR.I (by decide) (by decide) rfl
 have s0:dH [.j 1,.F (H31.m "any")] :=⟨1,_,rfl,fun z=>absurd z (by decide)⟩
 delta pq
 simp! []
 delta fF
 have t0:((0:Int)=t)=False:=eq_false (Ne.symm i.1)
 have t0':(t=0)=False:=eq_false i.1
 have t13:(t=13)=False:=eq_false i.2.1
 simp! [t0,decide_false,hρ.dM]
 refine X.x (iP (n:=n) h r0 s0 ?_) (by omega)
 simp! [hρ.dM]
 refine X.x (iP (n:=n) h rt' st ?_) (by omega)
 simp! [t0,decide_false,hρ.eJ,w.sG.v]
 delta gz
 simp! []
 delta fi
 simp! [t0',t13,show((0:Int)=2)=False by decide,show((0:Int)=13)=False by decide,decide_false,decide_true,hρ.eJ,hm]
 by_cases t1:t=1
 ·subst t1;have a10:=ht.kd.bE ((w.cR.at (a:=10) rfl).kd w.cR);grind
 have a10:as≠ [10] :=fun e=>by
  obtain⟨l,p,al⟩:=ht.kd.ex;rw [e] at al;cases al with
  |cons x y=>
   cases y;have:=(eO h w.cR x).mpr rfl;cases p with
   |ba _ u _=>trivial
   |mn _ _ _=>omega
 simp! [t1,decide_false]
 by_cases t2:t=2
 ·have a0:=ht.w9 t2;grind
 ·have a0:as≠ [] :=fun e=>by
   obtain⟨l,p,al⟩:=ht.kd.ex;rw [e] at al;cases al;cases p with
   |o=>omega
   |ba _ u _=>trivial
  simp only [t2];rw [hρ.J];refine⟨by simp,rfl,X.x (pU (n:=n) w hk fun H' w' M'=>?_) (by omega)⟩;grind
theorem u4 {t kt:Int}{r:List V}(h:aY H τ)(hr:bj τ t (.j kt::r))(hk:kt∉lC)(q:Q (.j t) H):X.w (n+1) 76 [.y 16,.j t] H Q:=by delta gR;have k10:kt≠10:=fun e=>hk (by simp_all);simp! [h.cK,h.bx,h.I hr,k10,decide_false,kX,hk];omega
theorem qu {t pid b:Int}(h:aY H τ)(hr:bj τ t [.j 10,.j pid])(hb:vm τ pid b)(q:Q (.j (hO b)) H):X.w (n+2) 76 [.y 16,.j t] H Q:=by delta gR;simp! [h.cK,h.bx,h.I hr];exact JQ h hb q
end
def Pa:MS:=.bA (.pO .uh (.cons (.g7 (.bH .Ke (.w 50 (.cons (.bB (.h 4) 27) (.cons (.h 10) (.m)))) (.k (.aE))) 10 (.w 8 (.cons (.bB (.h 4) 27) (.cons (.h 6) (.m)))) (.k (.D true))) (.m))) (.jn (.bJ (.h 0) 49 (.cons (.k (.j 5)) (.m))) (.V)) (.V) (.V)
def sQ:MS:=.bA (.gH (.h 7)) (.jn (.bJ (.h 0) 49 (.cons (.k (.j 3)) (.m))) (.V)) Pa (.bL (.k (.D true)))
def xO:MS:=.H 9 (.w 81 (.cons (.h 4) (.cons (.h 5) (.cons (.h 6) (.cons (.h 7) (.m)))))) (.bA (.pK (.cons (.bH .lt (.h 9) (.k (.j 0))) (.cons (.gH (.bJ (.h 0) 51 (.cons (.h 1) (.cons (.h 9) (.m))))) (.m)))) (.bL (.k (.D false))) (.V) sQ)
def pP:MS:=.H 4 (.bB (.h 0) 36) (.H 5 (.w 76 (.cons (.h 4) (.cons (.z (.h 3) (.k (.j 1))) (.m)))) (.H 6 (.w 76 (.cons (.h 4) (.cons (.z (.h 3) (.k (.j 2))) (.m)))) (.H 7 (.bH .eq (.h 5) (.z (.h 3) (.k (.j 1)))) (.H 8 (.z (.z (.bB (.bB (.h 4) 27) 0) (.h 5)) (.k (.j 0))) (.bA (.pK (.cons (.bH .ub (.bB (.h 0) 37) (.B (.cons (.k (.j 1)) (.cons (.k (.j 2)) (.m))))) (.cons (.bH .eq (.h 6) (.k (.j 2))) (.m)))) (.bL (.k (.D false))) (.V) (.bA (.dy (.cons (.bH .ub (.h 8) (.k (.B [.j 8,.j 9]))) (.cons (.gH (.dy (.cons (.h 7) (.cons (.bH .jm (.h 8) (.k (.B [.j 11,.j 12]))) (.m))))) (.m)))) (.bL (.k (.D false))) (.V) xO))))))
theorem HI:nF.mL=.bA (.dy (.cons (.bH .eq (.z (.h 2) (.k (.j 0))) (.k (.j 15))) (.cons (.bJ (.h 0) 51 (.cons (.z (.h 2) (.k (.j 1))) (.cons (.z (.h 3) (.k (.j 1))) (.m)))) (.cons (.bJ (.h 0) 51 (.cons (.z (.h 2) (.k (.j 2))) (.cons (.z (.h 3) (.k (.j 2))) (.m)))) (.m))))) (.bL (.k (.D true))) (.V) pP:=rfl
def dv (sec:Option Nat)(lies n1:Nat→Bool)(own wide:Bool):Bool×List Int:=match sec with
 |none=>(false,[])
 |some y=>if lies y=true then(true,(if n1 y=true then [1] else [])++(if own=true then(if wide=true then [5] else []) else [3])) else(false,[])
def dq (ρ:Rs)(cs:List Int):List V:=if ρ.kV=true then cs.map (bg ρ) else []
theorem cW (ρ:Rs):dq ρ [] =[] :=by unfold dq;simp
theorem xQ (ρ:Rs)(a b:List Int):dq ρ (a++b)=dq ρ a++dq ρ b:=by unfold dq;split<;>simp
theorem gK (ρ:Rs)(c:Int):(ja ρ c).M=ρ.M++dq ρ [c] :=by unfold ja dq;split<;>simp
def qI (τ:Tb)(th obj:Int)(own:Bool):Prop:=(own=true∧obj=th∧∃kt r,bj τ th (.j kt::r)∧kt∉lC)∨(own=false∧obj≠th∧∃pid b,bj τ th [.j 10,.j pid] ∧vm τ pid b∧obj=hO b)
def sC (τ:Tb)(key idx:Int):Prop:=(idx=key∧∃kt r,bj τ key (.j kt::r)∧kt∉lC)∨∃pid b,bj τ key [.j 10,.j pid] ∧vm τ pid b∧idx=hO b
def u9 (H:AH)(τ:Tb)(mode:Int)(obj idx:Int)(own wide:Bool)(sec:Option Nat):Prop:=
 ((mode=4∨idx=2∨∃ko r,bj τ obj (.j ko::r)∧ko∉ [8,9] ∧¬(own=true∧ko∈ [11,12]))∧(∃ko r,bj τ obj (.j ko::r))∧sec=none)∨
 (mode≠4∧idx≠2∧∃arr f tx nm,Bs H τ obj arr f tx nm∧(arr=true→own=true)∧((∃L as,cp τ idx L∧eI τ L as∧(∀a∈as,a<15)∧as.length≤4∧sec=cL (hM f tx nm own) as 32767∧wide=as.any fun a=>(oq a).isNone)∨∃pid,bj τ idx [.j 10,.j pid] ∧sec=none))
def JH (τ:Tb)(mode:Int)(s:Int)(lies n1:Nat→Bool):Prop:=
 (s=0∧(∀y,lies y=decide (y≠0))∧∀y,n1 y=(decide (y≠0)&&decide (y≠32767)))∨
 ∃cs as p,Tm τ s cs as p∧p≤2∧as.length≤4∧(∀bs,(bs=[10] ∨∀a∈bs,a<10)→aB (decide (mode=2)) cs as [] bs=lies (ah bs))∧∀y,n1 y=false
theorem zl {p ks kt:Nat}(hp:p≤2)(hk:ks≤4)(ht:kt≤10):fk p ks kt≤200:=by
 have a0:fk 0 ks kt≤45:=by
  unfold fk;split
  ·omega
  ·have:=Nat.mul_le_mul hk (show 1+kt≤11 by omega);omega
 have b:∀q,q≤2→kt*dx q ks≤10*7:=fun q hq=>Nat.mul_le_mul ht (by unfold dx;omega);have h1:=jC 0 ks kt;have h2:=jC 1 ks kt;grind
theorem fK {p:Nat}{as bs:List Nat}{ct:List Int}(hp:p≤4)(h2:ct=[] →p≤2)(ha:as.length≤4)(hb:bs.length≤10):cU p as ct bs≤200:=by
 unfold cU;split
 ·rename_i z;exact zl (h2 z.1) (by split<;>omega) hb
 ·unfold dx;split<;>omega
section
variable {H:AH}{ρ:Rs}{τ:Tb}{F:V→Prop}{Q:az}{n k m:Nat}
theorem qI.w {th obj:Int}{own:Bool}(h:aY H τ)(o:qI τ th obj own)(q:Q (.j obj) H):X.w (n+2) 76 [.y 16,.j th] H Q:=by
 rcases o with⟨_,rfl,kt,r,hr,hk⟩|⟨_,_,pid,b,hr,hb,rfl⟩
 ·exact X.x (u4 (n:=n) h hr hk q) (by omega)
 ·exact qu h hr hb q
theorem qI.Ml {th obj:Int}{own:Bool}(o:qI τ th obj own):decide (obj=th)=own:=by
 rcases o with⟨rfl,rfl,_⟩|⟨rfl,z,_⟩
 ·simp
 simp_all
theorem sC.w {key idx:Int}(h:aY H τ)(o:sC τ key idx)(q:Q (.j idx) H):X.w (n+2) 76 [.y 16,.j key] H Q:=by
 rcases o with⟨rfl,kt,r,hr,hk⟩|⟨pid,b,hr,hb,rfl⟩
 ·exact X.x (u4 (n:=n) h hr hk q) (by omega)
 ·exact qu h hr hb q
theorem wZ {L:List Int}{as:List Nat}(h:aY H τ)(hL:eI τ L as)(hl:L.length≤4){env:En}{C:z4}{K:Bool→AH→Prop}(hC:C.w=X.w (n+2))(he:env.length=11)(h4:env[4]?=some (some (.y 16))){idx:Int}(h6:env[6]?=some (some (.j idx)))(hp:cp τ idx L)
 (q:∀H',au 0 H H' τ τ→K (as.any fun a=>(oq a).isNone) H'):(wX C (.pO .uh (.cons (.g7 (.bH .Ke (.w 50 (.cons (.bB (.h 4) 27) (.cons (.h 10) (.m)))) (.k (.aE))) 10 (.w 8 (.cons (.bB (.h 4) 27) (.cons (.h 6) (.m)))) (.k (.D true))) (.m)))).T env H K:=by
 simp! [h4,h6,h.cK,hC]
 refine X.x (eQ (n:=n) h hp (bW (fun rest out H1=>∃dn ra l,rest=zs l∧eI τ l ra∧as=dn++ra∧out=(dn.map fun a=>(oq a).isNone).map V.D∧au 0 H H1 τ τ) ?_ ?_ ⟨[],as,L,rfl,hL,rfl,rfl,(au.aD h).Y _⟩ ae)) (by omega)
 ·rintro _ r out H1 ⟨dn,ra,l,e,hra,hd,rfl,G1⟩ ha;refine⟨trivial,?_,fun q' qn qs=>?_⟩
  ·have:=congrArg List.length hd;have h2:=hL.U;simp at this ⊢;omega
  cases hra with
  |m=>cases e
  |cons hia hra=>
   rename_i i a l ra;cases e;have g4:(env.set 10 (some (.j i)))[4]?=some (some (.y 16)):=by rw [List.getElem?_set_ne (by simp)];omega
   have g10:(env.set 10 (some (.j i)))[10]?=some (some (.j i)):=by rw [List.getElem?_set_self (by omega)]
   simp! [g4,g10,G1.R.cK];refine X.x (xP (n:=n) G1.R ‹_› ?_) (by omega);have e:decide (HG (oq a)=V.aE)=(oq a).isNone:=by cases oq a<;>simp [HG]
   simp [e];exact qs _ _ ⟨dn++[a],ra,l,rfl,hra,by rw [hd];simp,by simp,G1.set h _ (by simp)⟩ ha
 ·rintro out H1 ⟨dn,ra,l,e,hra,hd,rfl,G1⟩ ha;cases hra with
  |cons _ _=>cases e
  |m=>refine⟨trivial,?_⟩;simp only [dj,ha,gU,cY];simp_all
theorem xN {s th key obj idx ko g:Int}{own wide:Bool}{ra:V}(w:W H τ ρ k 20)(hw:own=true→∃L as,cp τ idx L∧eI τ L as∧as.length≤4∧wide=as.any fun a=>(oq a).isNone)(hk:k+5≤19000)
 (q:∀H' ρ',W H' τ ρ' (k+5) 20→Mv H H' τ τ ρ ρ'→ρ'.M=ρ.M++dq ρ (if own=true then(if wide=true then [5] else []) else [3])→Q (.D true) H'):
 wS (X.b (n+10)) sQ [some (.y ρ.r),some (.j s),some ra,some (.B [.j 15,.j th,.j key]),some (.y 16),some (.j obj),some (.j idx),some (.D own),some (.j ko),some (.j g),none] H (bX Q):=by
 have noteD:∀ {c:Int} {H3:AH},au 0 H H3 τ τ→dq ρ (if own=true then if wide=true then [5] else [] else [3])=dq ρ [c] →X.w (n+10) 53 [.y _,.j c] H3 fun _ H=>Q _ H:=fun{c H3} G3 hc=>by refine X.x (pU (n:=n) (w.gr (n:=k) G3.gr (by omega)) (by omega) fun H4 w4 m4=>?_) (by omega);apply q H4 _ (w4.x (by omega)) (G3.gr.mv.trans m4);rw [gK,hc]
 unfold sQ
 simp! []
 cases own with
 |false=>
  rw [w.bC.J]
  exact⟨by simp,rfl,noteD (au.aD w.R) rfl⟩
 |true=>
  obtain⟨L,as,hp,hL,hal,hwide⟩:=hw rfl
  refine wZ w.R hL (by rw [hL.U];omega) rfl rfl rfl rfl hp fun H3 G3=>?_
  have w3:=w.gr (n:=k) G3.gr (by omega)
  rw [←hwide]
  cases wide with
  |true=>
   simp! []
   rw [w3.bC.J]
   exact⟨by simp,rfl,noteD G3 rfl⟩
  |false=>exact q H3 ρ (w3.x (by omega)) G3.gr.mv (by simp [cW])
theorem Kz {y:Nat}{gs:List Nat}{g:Int}(kg:Km τ g gs):gs.length≤10:=by
 rcases kg.kK with z|z
 ·simp_all
 ·exact dD 10 kg.kd.W z
theorem MI {s g:Int}{lies n1:Nat→Bool}{gs:List Nat}{mode:Int}(w:W H τ ρ k 20)(hmo:ρ.v=mode)(hm4:ρ.v≠4)(hfar:g∉ρ.cC)(hsr:JH τ mode s lies n1)(kg:Km τ g gs)(hk:k+250≤19000)
 (q:∀H' ρ',W H' τ ρ' (k+250) 20→Mv H H' τ τ ρ ρ'→ρ'.M=ρ.M++(if(lies (ah gs)&&n1 (ah gs))=true then dq ρ [1] else [])→Q (.D (lies (ah gs))) H'):X.w (n+170) 52 [.y ρ.r,.j s,.j g] H Q:=by
 rcases hsr with⟨rfl,hl,hn⟩|⟨cs,as,p,hs,hp,hal,hl,hn⟩
 ·have z1:=lz kg.ok;have z2:=eT kg.wf;exact X.x (Ni (n:=n) w hm4 kg (by omega) (fun e=>by have:=q H ρ (w.x (by omega)) .aD;grind) (fun e=>by have:=q H ρ (w.x (by omega)) .aD;grind) fun e1 e2 H' w' m'=>by have:=q H' _ (w'.x (by omega)) m';simp [gK] at this;simp_all) (by omega)
 ·subst hmo;exact mj w hs kg.kd.tm hfar (by unfold mu;grind) (by omega) (fK (by omega) (by omega) hal (Kz (y:=0) kg)) (by omega) fun H' ρ' w' m' hr=>by rw [hl gs kg.kK];apply q H' ρ' (w'.x (by omega)) m';rw [hr,hn];simp
theorem xM {s th key obj idx ko:Int}{own wide arr:Bool}{sec:Option Nat}{f:PySem.Str→Option Nat}{tx nm:Option Nat}{lies n1:Nat→Bool}{ra:V}(w:W H τ ρ k 20)(hm4:ρ.v≠4)(hfar:∀i∈ρ.cC,∃r,bj τ i (.j 14::r))(hb:Bs H τ obj arr f tx nm)
 (hcase:(∃L as,cp τ idx L∧eI τ L as∧(∀a∈as,a<15)∧as.length≤4∧sec=cL (hM f tx nm own) as 32767∧wide=as.any fun a=>(oq a).isNone)∨∃pid,bj τ idx [.j 10,.j pid] ∧sec=none) (hsr:JH τ ρ.v s lies n1) (hk:k+300≤19000)
 (q:∀H' τ' ρ',W H' τ' ρ' (k+300) 20→Mv H H' τ τ' ρ ρ'→ρ'.M=ρ.M++dq ρ (dv sec lies n1 own wide).2→Q (.D (dv sec lies n1 own wide).1) H'):
 wS (X.b (n+180)) xO [some (.y ρ.r),some (.j s),some ra,some (.B [.j 15,.j th,.j key]),some (.y 16),some (.j obj),some (.j idx),some (.D own),some (.j ko),none,none] H (bX Q):=by
 have h:=w.R
 have no:sec=none→Q (.D false) H:=fun e=>by have:=q H τ ρ (w.x (by omega)) .aD;rw [e] at this;exact this (by show ρ.M=ρ.M++dq ρ [];rw [cW,List.append_nil])
 rcases hcase with⟨L,as,hp,hL,ha,hal,hsec,hwide⟩|⟨pid,hpr,hsec⟩
 ·have wb:=w.bd.1;refine X.x (A9 (n:=n) h w.cR hb hp hL ha (by omega) fun H1 τ1 G1=>?_) (by omega);have w1:=w.gr (n:=k+16) (G1.gr.P (d:=16) (by omega)) (by omega);have m1:=G1.gr.mv (ρ:=ρ);rw [←hsec];cases hsc:sec with
  |none=>have:=q H1 τ1 ρ (w1.x (by omega)) m1;rw [hsc] at this;exact this (by show ρ.M=ρ.M++dq ρ [];rw [cW,List.append_nil])
  |some y=>
   intro g gs kg hg;have g0:=kg.kd.nn;simp! [show(g<0)=False from eq_false (by omega)];rw [w1.bC.J];refine⟨by simp,rfl,?_⟩;have hsr1:JH τ1 _ s _ n1:=hsr.imp id fun⟨cs,as,p,a,b⟩=>⟨cs,as,p,a.P G1.gI,b⟩;have hfar1:g∉ρ.cC:=fun hi=>by
    obtain⟨r,hr⟩:=hfar g hi;have hr:=G1.I hr;obtain⟨l,p,al⟩:=kg.kd.ex;cases p with
    |o=>have:=hr.bE (w1.cR.I (by simp) (by simp) rfl);simp_all
    |ba _ _ z=>have:=hr.bE z;simp_all
    |mn _ _ z=>
     cases al with
     |cons x y=>have:=hr.bE x.eM;simp at this;exact absurd (by omega) (cN _ x.lt).2.2.2.2.2.1
   refine X.x (MI (n:=n) w1 rfl hm4 hfar1 hsr1 kg (by omega) fun H2 ρ2 w2 m2 hr2=>?_) (by omega);rw [hg] at hr2 ⊢;rw [hsc] at q;simp [dv] at q;have m12:=m1.trans m2;cases hly:lies y with
   |false=>rw [hly] at hr2 q;simp at hr2 q;exact q H2 τ1 ρ2 (w2.x (by omega)) m12 (by rw [hr2,cW,List.append_nil])
   |true=>
    rw [hly] at hr2 q;simp at hr2 q;have r2:=m12.r;rw [←r2];refine xN w2 (fun _=>⟨L,as,m12.le.jL hp,m12.le.My hL,hal,hwide⟩) (by omega) fun H3 ρ3 w3 m3 hr3=>?_;apply q H3 τ1 ρ3 (w3.x (by omega)) (m12.trans m3);rw [hr3,hr2,xQ,List.append_assoc];congr 1;congr 1
    ·cases n1 y<;>simp [cW]
    ·unfold dq bg;rw [m12.kV,m12.jo]
 ·refine X.x (A8 (n:=n) h w.cR hpr ?_) (by omega);simp! [show decide (-1<0)=true from rfl];simp_all
theorem xK {s th key obj idx:Int}{own wide:Bool}{sec:Option Nat}{lies n1:Nat→Bool}{ra:V}(w:W H τ ρ k 20)(ho:qI τ th obj own)(hi:sC τ key idx)(hs:u9 H τ ρ.v obj idx own wide sec)(hsr:JH τ ρ.v s lies n1)(hk:k+300≤19000)
 (q:∀H' τ' ρ',W H' τ' ρ' (k+300) 20→Mv H H' τ τ' ρ ρ'→ρ'.M=ρ.M++dq ρ (dv sec lies n1 own wide).2→Q (.D (dv sec lies n1 own wide).1) H'):
 wS (X.b (n+180)) pP [some (.y ρ.r),some (.j s),some ra,some (.B [.j 15,.j th,.j key]),none,none,none,none,none,none,none] H (bX Q):=by
 have h:=w.R
 have hρ:=w.bC
 have no:sec=none→Q (.D false) H:=fun e=>by have:=q H τ ρ (w.x (by omega)) .aD;rw [e] at this;exact this (by show ρ.M=ρ.M++dq ρ [];rw [cW,List.append_nil])
 unfold pP
 have em:∀(i:Int) {B:Bool→Prop},gb _ [.j 1,.j 2] B=B _:=fun i=>aR i [1,2]
 have e8:∀(i:Int) {B:Bool→Prop},gb _ [.j 8,.j 9] B=B _:=fun i=>aR i [8,9]
 have e11:∀(i:Int) {B:Bool→Prop},gb _ [.j 11,.j 12] B=B _:=fun i=>aR i [11,12]
 obtain⟨ko,ro,hko⟩:∃ko r,bj τ obj (.j ko::r):=by
  rcases hs with⟨_,z,_⟩|⟨_,_,arr,f,tx,nm,hb,_⟩
  ·omega
  ·obtain⟨ko,r,hr,_⟩:=hb.d5;exact⟨ko,r,hr⟩
 have modes:=w.v
 simp! [hρ.dM]
 refine X.x (ho.w (n:=n) h (X.x (hi.w (n:=n) h ?_) (by omega))) (by omega)
 simp! [ho.Ml,h.cK,h.bx,h.I hko,hρ.eJ,em,e8,e11]
 have hm12:ρ.v≠4→ρ.v∈ [1,2] :=fun e=>by grind
 rcases hs with⟨hbad,_,hsec⟩|⟨hm4,hi2,arr,f,tx,nm,hb,hao,hcase⟩
 ·have bad:=no hsec;by_cases hm:ρ.v∈ [1,2]
  ·by_cases hi:idx=2
   ·simp [hi];omega
   have hm4:ρ.v≠4:=fun e=>by rw [e] at hm;exact absurd hm (by simp)
   obtain⟨k1,r1,hr1,h8,h11⟩:=(hbad.resolve_left hm4).resolve_left hi;have hkk:=by have:=hr1.bE hko;simp at this;exact this.1
   subst hkk;simp [h8];cases own with
   |false=>simp;omega
   |true=>grind
  ·simp [hm];omega
 obtain⟨kb,rb,hrb,hkb,_⟩:=hb.d5
 have hkk:kb=ko:=by have:=hrb.bE hko;simp at this;omega
 subst hkk
 simp only [hm12 hm4,hi2]
 have fin:=xM (X:=X) (n:=n) (ra:=ra) (ko:=kb) (th:=th) (key:=key) w hm4 w.sG.cC hb hcase hsr hk q
 cases arr with
 |true=>
  have h11:=by simpa using hkb
  subst h11
  have:=hao rfl
  subst this
  simp
  omega
 |false=>
  have h8:=by simpa using hkb
  simp [h8]
  omega
end
def N3 (τ:Tb)(mode:Int)(ra:List V)(th key:Int)(first:Bool):Prop:=
 (∃x y csx asx px csy asy py cth ath pth ck ak pk,ra=[.j 15,.j x,.j y] ∧Tm τ x csx asx px∧Tm τ th cth ath pth∧Tm τ y csy asy py∧Tm τ key ck ak pk∧first=(aB (decide (mode=2)) csx asx cth ath&&aB (decide (mode=2)) csy asy ck ak)∧px≤4∧cth≠ [] ∧asx.length≤4∧ath.length≤10∧py≤2∧asy.length≤4∧ak.length≤10)∨(∃ka r,ra=.j ka::r∧ka≠15∧first=false)
theorem nf {p:Nat}{as bs:List Nat}{ct:List Int}(hp:p≤4):mu p as ct bs≤20:=by unfold mu;grind
section
variable {H H':AH}{ρ ρ':Rs}{τ τ':Tb}{F:V→Prop}{Q:az}{n k m:Nat}
theorem W.uc (w:W H τ ρ k m){g:Nat}{fs:List (Nat×V)}(e:H[g]?=some (.J 2 fs)):(g<3∨g=4∨10<g)∧g∉ρ.l:=by
 have h:=w.R;have hρ:=w.bC;refine⟨?_,fun hm=>?_⟩
 ·refine Classical.byContradiction fun hg=>?_;have:g=3∨g=5∨g=6∨g=7∨g=8∨g=9∨g=10:=by omega
  rcases this with rfl|rfl|rfl|rfl|rfl|rfl|rfl
  ·rw [h.d] at e;cases e
  ·rw [h.M] at e;cases e
  ·rw [h.i8] at e;cases e
  ·rw [h.aH] at e;cases e
  ·rw [h.Z] at e;cases e
  ·obtain⟨l,a,_⟩:=h.dQ;simp_all
  ·obtain⟨l,a,_⟩:=h.names;simp_all
 ·simp [Rs.l,or_false] at hm;rcases hm with rfl|rfl|rfl|rfl|rfl|rfl
  ·rw [hρ.J] at e;cases e
  ·rw [hρ.n] at e;cases e
  ·rw [hρ.bk] at e;cases e
  ·rw [hρ.G] at e;cases e
  ·rw [hρ.aP] at e;cases e
  ·rw [hρ.aO] at e;cases e
theorem Mv.uc (M:Mv H H' τ τ' ρ ρ')(w:W H τ ρ k m){g:Nat}{fs:List (Nat×V)}(e:H[g]?=some (.J 2 fs)):H'[g]?=some (.J 2 fs):=by obtain⟨a,b⟩:=w.uc e;exact(M.N g _ e a b).1
theorem Mv.bs (M:Mv H H' τ τ' ρ ρ')(w:W H τ ρ k m){t:Int}{arr:Bool}{f:PySem.Str→Option Nat}{tx nm:Option Nat}(h:Bs H τ t arr f tx nm):Bs H' τ' t arr f tx nm:=h.N M.le fun g fs e=>M.uc w e
theorem Mv.Mj (M:Mv H H' τ τ' ρ ρ')(w:W H τ ρ k m){mode obj idx:Int}{own wide:Bool}{sec:Option Nat}(h:u9 H τ mode obj idx own wide sec):u9 H' τ' mode obj idx own wide sec:=by
 rcases h with⟨a,⟨k1,r1,b⟩,c⟩|⟨a,b,arr,f,tx,nm,hb,hao,hc⟩
 ·exact .inl ⟨a.imp id fun z=>z.imp id fun⟨ko,r,x,y⟩=>⟨ko,r,M.le.I x,y⟩,⟨k1,r1,M.le.I b⟩,c⟩
 ·exact .inr ⟨a,b,arr,f,tx,nm,M.bs w hb,hao,hc.imp (fun⟨L,as,x,y,z⟩=>⟨L,as,M.le.jL x,M.le.My y,z⟩) fun⟨pid,x,y⟩=>⟨pid,M.le.I x,y⟩⟩
theorem Mv.A2 (M:Mv H H' τ τ' ρ ρ'){th obj:Int}{own:Bool}(h:qI τ th obj own):qI τ' th obj own:=
 h.imp (fun⟨a,b,kt,r,c,d⟩=>⟨a,b,kt,r,M.le.I c,d⟩) fun⟨a,b,pid,x,c,d,e⟩=>⟨a,b,pid,x,M.le.I c,M.le.sM d,e⟩
theorem Mv.Kh (M:Mv H H' τ τ' ρ ρ'){key idx:Int}(h:sC τ key idx):sC τ' key idx:=
 h.imp (fun⟨b,kt,r,c,d⟩=>⟨b,kt,r,M.le.I c,d⟩) fun⟨pid,x,c,d,e⟩=>⟨pid,x,M.le.I c,M.le.sM d,e⟩
theorem Mv.N6 (M:Mv H H' τ τ' ρ ρ'){mode s:Int}{lies n1:Nat→Bool}(h:JH τ mode s lies n1):JH τ' mode s lies n1:=h.imp id fun⟨cs,as,p,a,b⟩=>⟨cs,as,p,a.P M.le,b⟩
theorem oE {s th key obj idx:Int}{own wide first:Bool}{sec:Option Nat}{lies n1:Nat→Bool}{ra:List V}(w:W H τ ρ k 20)(hfar:ρ.cC=[])(hf:N3 τ ρ.v ra th key first)(ho:qI τ th obj own)(hi:sC τ key idx)(hs:u9 H τ ρ.v obj idx own wide sec)(hsr:JH τ ρ.v s lies n1)(hk:k+700≤19000)
 (q:∀H' τ' ρ',W H' τ' ρ' (k+700) 20→Mv H H' τ τ' ρ ρ'→ρ'.M=ρ.M++dq ρ (if first=true then [] else(dv sec lies n1 own wide).2)→Q (.D (first||(dv sec lies n1 own wide).1)) H'):
 X.w (n+181) 82 [.y ρ.r,.j s,.B ra,.B [.j 15,.j th,.j key]] H Q:=by
 apply aC.hV rfl (Nat.le_refl _) (Nat.le_refl _)
 show wS _ _ [some _,some _,some _,some _,none,none,none,none,none,none,none] _ _
 rw [HI]
 have rest:first=false→∀H1 ρ1,W H1 τ ρ1 (k+400) 20→Mv H H1 τ τ ρ ρ1→ρ1.M=ρ.M→wS (X.b (n+180)) pP [some (.y ρ.r),some (.j s),some (.B ra),some (.B [.j 15,.j th,.j key]),none,none,none,none,none,none,none] H1 (bX Q):=by intro hff H1 ρ1 w1 m1 hr1;rw [hff] at q;rw [←m1.r];refine xK w1 ho hi (by rw [m1.v];exact m1.Mj w hs) (by rw [m1.v];omega) (by omega) fun H2 τ2 ρ2 w2 m2 hr2=>?_;apply q H2 τ2 ρ2 ‹_› (m1.trans m2);rw [hr2,hr1];simp;unfold dq bg;rw [m1.kV,m1.jo]
 rcases hf with⟨x,y,csx,asx,px,csy,asy,py,cth,ath,pth,ck,ak,pk,rfl,hx,hth,hy,hkey,hfirst,b1,b2,b3,b4,b5,b6,b7⟩|⟨ka,r,rfl,hka,hfirst⟩
 ·simp! [decide_true];rw [w.bC.J];refine⟨by simp,rfl,X.x (mj (n:=n) w hx hth (by rw [hfar];simp) (nf b1) (by omega) (fK b1 (fun z=>absurd z b2) b3 b4) (by omega) fun H1 ρ1 w1 m1 hr1=>?_) (by omega)⟩;cases hg1:aB _ csx asx cth ath with
  |false=>rw [hg1] at hfirst;exact rest hfirst H1 ρ1 (w1.x (by omega)) m1 hr1
  |true=>
   rw [hg1,Bool.true_and] at hfirst;rw [show H1[ρ.r]?=some _ by rw [←m1.r];exact w1.bC.J];refine⟨by simp,rfl,?_⟩;rw [←m1.r];refine X.x (mj (n:=n) w1 hy hkey (by rw [m1.cC,hfar];simp) (nf (by omega)) (by omega) (fK (by omega) (by omega) b6 b7) (by omega) fun H2 ρ2 w2 m2 hr2=>?_) (by omega);rw [m1.v,m1.r];have m12:=m1.trans m2;cases hg2:aB _ csy asy ck ak with
   |false=>simp! [];grind
   |true=>rw [hg2] at hfirst;have:=q H2 τ ρ2 (w2.x (by omega)) m12;rw [hfirst] at this;exact this (by rw [hr2,hr1,if_pos rfl,cW,List.append_nil])
 ·simp! [hka];exact rest hfirst H ρ (w.x (by omega)) .aD rfl
end
theorem oL:∀ {l l':List Int},l.Pairwise (·< ·)→l'.Pairwise (·< ·)→(∀i,i∈l↔i∈l')→l=l'
 |[],[],_,_,_=>rfl
 |[],a::r,_,_,h=>by have:=(h a).mpr (by simp);trivial
 |a::r,[],_,_,h=>by have:=(h a).mp (by simp);trivial
 |a::r,b::s,h1,h2,h=>by
  rw [List.pairwise_cons] at h1 h2;have ab:a=b:=by have ha:=(h a).mp (by simp);have hb:=(h b).mpr (by simp);grind
  subst ab;rw [oL h1.2 h2.2 _];grind
theorem Kd.N5 {H:AH}{τ:Tb}(h:aY H τ){t t':Int}{as bs:List Nat}(a:Kd τ t as)(b:Kd τ t' bs)(e:∀x,x∈as↔x∈bs):t=t':=by
 obtain⟨l,p,al⟩:=a.ex;obtain⟨l0,p0,s0⟩:=a.NW;obtain⟨l',p',al'⟩:=b.ex;obtain⟨l0',p0',s0'⟩:=b.NW;have:=p.bE p0;subst this;have:=p'.bE p0';subst this;have ll:=oL s0 s0' fun i=>by
  constructor
  ·intro hi;obtain⟨x,hx,hix⟩:=al.kK hi;obtain⟨j,hj,hjx⟩:=al'.pL ((e x).mp hx);rw [hix.inj h hjx];omega
  ·intro hi;obtain⟨x,hx,hix⟩:=al'.kK hi;obtain⟨j,hj,hjx⟩:=al.pL ((e x).mpr hx);rw [hix.inj h hjx];omega
 subst ll;cases p with
 |o=>cases p' with
  |o=>rfl
  |ba _ u _=>trivial
 |ba _ u r=>cases p' with
  |o=>trivial
  |ba _ _ r'=>exact r.inj h.W r'
  |mn _ _ _=>trivial
 |mn _ _ _=>cases p' with
  |ba _ u _=>trivial
  |mn _ _ _=>rfl
def dt:List PySem.Str:=[m "0",m "p",m "q",m "z"]
def n9 (x:PySem.Str):Nat:=if x=m "0" then 8 else if x=m "p" then 6 else if x=m "q" then 7 else 15
theorem gE:∀x∈dt,bt (n9 x)=[.j 3,.F x,.j 0] ∧n9 x<16∧n9 x∈ [6,7,8,15] :=by decide
theorem eI.Ob {τ:Tb}(std:du τ){l:List Int}{r:List Nat}(h:eI τ l r):J4 τ l r:=by
 induction h with
 |m=>exact .m
 |cons a _ ih=>exact .cons (a.kd std) ih
theorem lJ {as bs:List Nat}(ha:∀a∈as,a∈ [6,7,8,15])(h:qB as bs):∀a,a∈bs↔a∈as:=by
 rcases h with⟨u,_⟩|⟨_,u⟩
 ·grind
 grind
theorem kW:∀a<16,(V.B (bt a)).aS=3:=by decide
section
variable {H:AH}{ρ:Rs}{τ:Tb}{F:V→Prop}{Q:az}{n:Nat}
theorem vM {x:PySem.Str}(h:aY H τ)(hx:x∈dt)(hn:τ.M.length<2^19)(q:∀H' τ' i,au 1 H H' τ τ'→At τ' i (n9 x)→Q (.j i) H'):X.w (n+2) 5 [.y 4,.F x] H Q:=by apply aC.hV rfl (Nat.le_succ _) (Nat.le_refl _);show wS _ _ [some _,some _,some _] _ _;unfold nG;have e3:=h.J;simp! [e3];refine⟨by simp,rfl,?_⟩;obtain⟨hr,hl,_⟩:=gE x hx;have hk:=kW _ hl;rw [hr] at hk;exact X.x (fb h hk hn fun H' τ' i G hrow=>q H' τ' i G ⟨hl,by simp_all⟩) (by omega)
def eY (ps:List Pr):List Nat:=(ps.filter fun p=>p.2.2&&&25==0).map fun p=>n9 p.1
theorem Ii {t u:Int}{ps:List Pr}{c0 c1:V}(h:aY H τ)(std:du τ)(hu:bj τ u (dC ps c0 c1))(hsh:∀ {Q:az},Q (.j u) H→X.w (n+4) 84 [.y 16,.j t] H Q)(hps:∀p∈ps,p.1∈dt)(hl:ps.length≤10)(hn:τ.M.length+12<2^19)
 (q:∀H' τ' r bs,au 12 H H' τ τ'→Kd τ' r bs→(∀a,a∈bs↔a∈eY ps)→Q (.j r) H'):X.w (n+5) 77 [.y 16,.j t,.j 25] H Q:=by
 delta j8
 simp! [h.cK,h.bx,h.dZ]
 refine⟨by simp,rfl,?_⟩
 apply hsh
 simp! [h.I hu,h.cK]
 refine bW (fun rest out H1=>∃dn ps' ids τ1,rest=ps'.map aV∧ps=dn++ps'∧out=zs ids∧eI τ1 ids (eY dn)∧au dn.length H H1 τ τ1) ?_ ?_ ⟨[],ps,[],τ,rfl,rfl,rfl,.m,(au.aD h).Y _⟩ ae
 ·rintro _ r out H1 ⟨dn,ps',ids,τ1,e,hd,rfl,hat,G1⟩ ha;have hlen:ps.length=dn.length+ps'.length:=by rw [hd];simp
  have hil:=hat.U;have hsl:(eY dn).length≤dn.length:=by unfold eY;grind
  refine⟨trivial,by simp;omega,fun q' qn qs=>?_⟩;cases ps' with
  |nil=>cases e
  |cons p ps'=>
   cases e;have e2:∀ {F:V→Prop},aF (aV p) _ H1 F=F _:=fun{F} =>oF _ _ _ _ _;have b2:∀ {Q:az},cw .qS (.j p.2.2) (.j 25) H1 Q=Q (.j (p.2.2&&&25:Nat)) H1:=fun{Q} =>by rfl
   simp! [e2,b2,G1.R.cK];have hz:decide (((p.2.2&&&25:Nat):Int)=0)=(p.2.2&&&25==0):=by grind
   rw [hz];exact iv (fun hb=>by have gl:=G1.U;refine X.x (vM (n:=n) G1.R (hps p (by rw [hd];simp)) (by omega) fun H2 τ2 i G2 hi=>qs _ _ ⟨dn++[p],ps',ids++[i],τ2,rfl,by rw [hd];simp,by simp,?_,((G1.trans G2 (Nat.le_refl _)).le (by simp)).set h _ (by simp)⟩ (G2.N.kp _ _ ha (.inr (by have:=h.U;omega)))) (by omega);unfold eY;rw [List.filter_append,List.filter_cons_of_pos (by omega),List.map_append];exact(hat.dJ G2).dp (.cons hi .m)) fun hb=>by refine qn _ ⟨dn++[p],ps',ids,τ1,rfl,by rw [hd];simp,rfl,?_,G1.le (by simp)⟩ ha;unfold eY;rw [List.filter_append,List.filter_cons_of_neg (by simpa using hb),List.filter_nil,List.append_nil];exact hat
 ·rintro out H1 ⟨dn,ps',ids,τ1,e,hd,rfl,hat,G1⟩ ha;have:ps'=[] :=by cases ps'<;>first|rfl|cases e
  subst this;rw [List.append_nil] at hd;subst hd;refine⟨trivial,?_⟩;have gl:=G1.U;have hsl:(eY ps).length≤ps.length:=by unfold eY;grind
  refine X.x (iN (n:=0) G1.R (G1.cR std) (.inr ⟨_,rfl,by have:=h.U;omega,ha⟩) (hat.Ob (G1.cR std)) (by omega) (by omega) fun H2 τ2 r bs G2 kd hu=>q H2 τ2 r bs (G1.trans G2 (by omega)) kd (lJ (fun a ha=>?_) hu)) (by omega);obtain⟨p,hp,rfl⟩:=List.mem_map.mp ha;exact(gE _ (hps p (List.mem_filter.mp hp).1)).2.2
theorem rm {t:Int}(h:aY H τ)(hn:τ.M.length<2^19)(q:∀H' τ' r,au 1 H H' τ τ'→bj τ' r [.j 14,.j t] →Q (.j r) H'):X.w (n+2) 35 [.y 16,.B [.j 14,.j t]] H Q:=by delta eL;simp! [h.cK,h.J];exact⟨by simp,rfl,X.x (fb h rfl hn q) (by omega)⟩
theorem xR {t pid:Int}(h:aY H τ)(hr:bj τ t [.j 10,.j pid])(hn:τ.M.length<2^19)(q:∀H' τ' r,au 1 H H' τ τ'→bj τ' r [.j 14,.j t] →Q (.j r) H'):X.w (n+3) 78 [.y 16,.j t] H Q:=by delta iD;simp! [h.cK,h.bx,h.I hr,kX,h.dZ];exact⟨by simp,rfl,X.x (rm (n:=n) h hn q) (by omega)⟩
theorem xS {t u:Int}{ps:List Pr}{c0 c1:V}(h:aY H τ)(std:du τ)(hs:Sh H τ t u ps c0 c1)(hps:∀p∈ps,p.1∈dt)(hl:ps.length≤10)(hn:τ.M.length+12<2^19)
 (q:∀H' τ' r bs,au 12 H H' τ τ'→Kd τ' r bs→(∀a,a∈bs↔a∈eY ps)→Q (.j r) H'):X.w (n+6) 78 [.y 16,.j t] H Q:=by
 delta iD
 obtain⟨k,r,hr,hk,_⟩:=hs.d5
 have kd:k∉lC:=by grind
 have b1:∀ {Q:az},cw .Me (.j 24) (.j 1) H Q=Q _ H:=fun{Q} =>rfl
 simp! [h.cK,h.bx,h.I hr,kX,kd]
 refine X.x (Ii (n:=n) h std hs.I (fun{Q} q=>X.x (mz (n:=n) h hs q) (by omega)) hps hl hn fun H' τ' r bs G kd hb=>?_) (by omega)
 rw [show [V.j 11,V.j 12] =zs [11,12] from rfl,aR k _]
 grind
end
theorem aK {H t:AH}{c a:Nat}{fs:List (Nat×V)}{v:V}{G:AH→Prop}(hc:c<8)(ha:dF a=true)(hl:fs.length≤60)(g:G (H++ .J c (aL a v fs)::t)):ij (.y H.length) a v (H++ .J c fs::t) G:=by rw [mS _ (by simp) hc ha hl];grind
theorem fU {H t:AH}{y:ag}{n:Nat}(h:t.length+1=n):(H++y::t).length=H.length+n:=by simp_all
def kO (n:Nat)(host:Nat)(mode:Int):List (Nat×V):=[(36,.y host),(37,.j mode),(38,.y (n+1)),(39,.y (n+2)),(40,.y (n+3)),(41,.y (n+4)),(42,.y (n+5)),(29,.j 0),(43,.j 0),(44,.y (n+6)),(45,.D true),(46,.aE),(47,.F (m "")),(23,.j 0)]
def mC (n:Nat)(host:Nat)(mode:Int):AH:=[.J 5 (kO n host mode),.i [],.i [],.i [],.f [],.f [],.J 0 [(0,.y (n+7))],.f []]
section
variable {H:AH}{ρ:Rs}{τ:Tb}{F:V→Prop}{Q:az}{n k:Nat}
theorem oM {host:Nat}{mode:Int}(q:Q .aE (H++mC H.length host mode)):X.w (n+2) 51 [.y H.length,.y host,.j mode] (H++[.J 5 []]) Q:=by
 delta nU;rw [tV];simp! [];refine aK (by decide) (by decide) (by simp) ?_;simp only [aL];refine aK (by decide) (by decide) (by simp) ?_;simp only [aL,show((36:Nat)=37)=False by decide,if_false,List.append_assoc,List.cons_append,List.nil_append];rw [fU (n:=1) rfl];refine aK (by decide) (by decide) (by simp) ?_;simp only [aL,show((36:Nat)=38)=False by decide,show((37:Nat)=38)=False by decide,if_false,List.append_assoc,List.cons_append,List.nil_append];rw [fU (n:=2) rfl];refine aK (by decide) (by decide) (by simp) ?_;simp only [aL,show∀k,k<39→(k=39)=False from fun k h=>eq_false (by omega),Nat.reduceLT,if_false,List.append_assoc,List.cons_append,List.nil_append];rw [fU (n:=3) rfl];refine aK (by decide) (by decide) (by simp) ?_;simp only [aL,Nat.reduceEqDiff,if_false,List.append_assoc,List.cons_append,List.nil_append];rw [fU (n:=4) rfl];refine aK (by decide) (by decide) (by simp) ?_;simp only [aL,Nat.reduceEqDiff,if_false,List.append_assoc,List.cons_append,List.nil_append];rw [fU (n:=5) rfl];refine aK (by decide) (by decide) (by simp) ?_;simp only [aL,Nat.reduceEqDiff,if_false,List.append_assoc,List.cons_append,List.nil_append];refine aK (by decide) (by decide) (by simp) ?_;simp only [aL,Nat.reduceEqDiff,if_false,List.append_assoc,List.cons_append,List.nil_append];refine aK (by decide) (by decide) (by simp) ?_;simp only [aL,Nat.reduceEqDiff,if_false,List.append_assoc,List.cons_append,List.nil_append];rw [show(X.b (n+1)).Kg 0=some 0 from rfl];refine aC.hV (f:=gS) rfl (Nat.le_refl _) (Nat.le_refl _) ?_;rw [fU (n:=6) rfl];show wS _ _ [some (.y (H.length+6))] _ _;unfold gS;rw [tV];simp! [];simp only [List.append_assoc,List.cons_append,List.nil_append];rw [fU (n:=7) rfl];obtain⟨H6,hH6⟩:∃H6:AH,H6=H++[.J 5 [(36,.y host),(37,.j mode),(38,.y (H.length+1)),(39,.y (H.length+2)),(40,.y (H.length+3)),(41,.y (H.length+4)),(42,.y (H.length+5)),(29,.j 0),(43,.j 0)],.i [],.i [],.i [],.f [],.f []] :=⟨_,rfl⟩;have e6:H6.length=H.length+6:=by rw [hH6];simp
 have e7:H++[.J 5 [(36,.y host),(37,.j mode),(38,.y (H.length+1)),(39,.y (H.length+2)),(40,.y (H.length+3)),(41,.y (H.length+4)),(42,.y (H.length+5)),(29,.j 0),(43,.j 0)],.i [],.i [],.i [],.f [],.f [],.J 0 [],.f []] =H6++[.J 0 [],.f []] :=by rw [hH6];simp
 rw [e7,show V.y (H.length+6)=V.y H6.length by rw [e6]];refine aK (by decide) (by decide) (by simp) ?_;simp only [aL];rw [e6,hH6,List.append_assoc];simp only [List.cons_append,List.nil_append];refine aK (by decide) (by decide) (by simp) ?_;simp only [aL,Nat.reduceEqDiff,if_false,List.append_assoc,List.cons_append,List.nil_append];refine aK (by decide) (by decide) (by simp) ?_;simp only [aL,Nat.reduceEqDiff,if_false,List.append_assoc,List.cons_append,List.nil_append];refine aK (by decide) (by decide) (by simp) ?_;simp only [aL,Nat.reduceEqDiff,if_false,List.append_assoc,List.cons_append,List.nil_append];refine aK (by decide) (by decide) (by simp) ?_;simp only [aL,Nat.reduceEqDiff,if_false,List.append_assoc,List.cons_append,List.nil_append];refine aK (by decide) (by decide) (by simp) ?_;simp only [aL,Nat.reduceEqDiff,if_false,List.append_assoc,List.cons_append,List.nil_append];exact q
theorem KY (w:W H τ ρ k 20)(q:∀H' ρ',W H' τ ρ' k 20→H'.length=H.length+8→(∀(i:Nat) (o:ag),H[i]?=some o→H'[i]?=some o)→ρ'.r=H.length→ρ'.v=ρ.v→ρ'.cC=[] →(∀p∈ρ'.l,H.length≤p)→ρ'.kV=false→Q (.y H.length) H'):X.w (n+4) 58 [.y ρ.r] H Q:=by
 delta zg;simp! [w.bC.eJ];delta je;simp! [w.bC.dM];refine X.x (oM (n:=n) ?_) (by omega);obtain⟨t,ht⟩:∃t:AH,t=[.i [],.i [],.i [],.f [],.f [],.J 0 [(0,.y (H.length+7))],.f []] :=⟨_,rfl⟩;have hm:mC H.length 16 ρ.v=.J 5 (kO H.length 16 ρ.v)::t:=by rw [ht];rfl
 rw [hm];have old:∀(y:ag) (t:AH) (i:Nat) (o:ag),H[i]?=some o→(H++y::t)[i]?=some o:=fun y t i o e=>by rw [List.getElem?_append_left (aM e)];exact e
 have ge:aX (.y ρ.r) 38 (H++ .J 5 (kO H.length 16 ρ.v)::t)=fun F=>F (.y 18):=by funext F;exact bO _ (old _ _ _ _ w.bC.J) (by simp) (by rfl) rfl
 simp! [ge];apply aK (by decide) (by decide) (by show 14≤60;decide);apply aK (by decide) (by decide) (by show 14≤60;decide);have hl:=w.R.U;obtain⟨ρn,hρn⟩:∃ρn:Rs,ρn=⟨H.length,H.length+2,H.length+3,H.length+4,H.length+5,H.length+6,H.length+7,ρ.v,[],[],[],0,0,[],false,0,[]⟩:=⟨_,rfl⟩;have hfs:aL 45 (V.D false) (aL 38 (V.y 18) (kO H.length 16 ρ.v))=cM ρn:=by rw [hρn];rfl
 rw [hfs];have hpl:ρn.l=[H.length,H.length+2,H.length+3,H.length+4,H.length+6,H.length+7] :=by rw [hρn];rfl
 have at_:∀(j:Nat) (x:ag),t[j]?=some x→(H++ .J 5 (cM ρn)::t)[H.length+(j+1)]?=some x:=fun j x e=>by rw [List.getElem?_append_right (by omega),show H.length+(j+1)-H.length=j+1 by omega];exact e
 have rel':aq (H++ .J 5 (cM ρn)::t) ρn:=by
  have e3:ρn.bk=H.length+3:=by rw [hρn]
  have e5:ρn.aP=H.length+6:=by rw [hρn]
  have e6:ρn.aO=H.length+7:=by rw [hρn]
  have a1:cP ρn=[] :=by rw [hρn];rfl
  have a2:ρn.kn=[] :=by rw [hρn]
  have a3:ρn.tl=[] :=by rw [hρn]
  have a5:ρn.aT=[] :=by rw [hρn]
  exact⟨by simp_all,by simp_all,by rw [e3,a2];exact at_ 2 _ (by rw [ht];rfl),by simp_all,by rw [e5,e6];exact at_ 5 _ (by rw [ht];rfl),by simp_all,by rw [hpl];simp,by grind,by rw [a5,a3];simp⟩
 exact q _ ρn ⟨w.R.of fun i o e _=>old _ _ _ _ e,w.cR,rel',⟨(by rw [hρn];intro e he;cases he),(by rw [hρn];intro e he;cases he),by rw [hρn];exact Nat.le_refl _,by rw [hρn];show 0<2^19;decide,by rw [hρn];exact w.sG.v,by rw [hρn];exact Nat.zero_le _,by rw [hρn];intro e he;cases he⟩,by rw [hρn],by rw [hρn],by rw [hρn];exact w.v,w.bd,by rw [hρn];exact Nat.zero_le _,by rw [hρn];exact Nat.zero_le _⟩ (by rw [ht];simp) (fun i o e=>old _ _ _ _ e) (by rw [hρn]) (by rw [hρn]) (by rw [hρn]) (by rw [hpl];simp) (by rw [hρn])
end
section
variable {H H':AH}{ρ ρ':Rs}{τ τ':Tb}{F:V→Prop}{Q:az}{n k m:Nat}
theorem aq.of (h:aq H ρ)(k:∀p∈ρ.l,∀o,H[p]?=some o→H'[p]?=some o):aq H' ρ:=
 ⟨k _ (by constructor) _ h.J,k _ (by simp [Rs.l]) _ h.n,k _ (by simp [Rs.l]) _ h.bk,k _ (by simp [Rs.l]) _ h.G,k _ (by simp [Rs.l]) _ h.aP,k _ (by simp [Rs.l]) _ h.aO,h.cF,h.bD,h.W⟩
theorem W.JL {far:List Int}(w:W H τ ρ k m){m':Nat}(h1:∀e∈ρ.aT,qH τ ρ.v m' far e)(h2:∀i∈far,∃r,bj τ i (.j 14::r)):W H τ {ρ with cC:=far} k m':=by
 have r:=w.bC;have I:=w.sG;refine⟨w.R,w.cR,⟨r.J,r.n,r.bk,r.G,r.aP,r.aO,r.cF,r.bD,r.W⟩,⟨I.kn,fun e he=>?_,I.qQ,I.M,I.v,I.aT,h2⟩,w.tl,w.bM,w.v,w.bd,w.Q,w.aP⟩;have he':=by have:=he;rw [w.tl] at this;omega
 simp_all
theorem LF (w:W H τ ρ k m){a b:Nat}(ha:a=ρ.M.length)(hb:b=0)(hk:k≤19000)(q:∀H',W H' τ ρ k m→Mv H H' τ τ ρ ρ→Q .aE H'):X.w (n+2) 55 [.y ρ.r,.B [.j a,.j b]] H Q:=by
 subst ha hb;apply aC.hV rfl (Nat.le_refl _) (Nat.le_refl _);unfold nV;simp! [];have e0: {ρ with tl:=[] ++[] } =ρ:=by rw [List.append_nil,←w.tl]
 have e1: {ρ with tl:=[] } =ρ:=by grind
 have wn:=w.aP;refine X.x (JZ (n:=n) (by rw [e0];exact w.bC) w.R (by omega) fun H1 r1 k1 l1=>?_) (by omega);rw [e1] at r1;exact q H1 ⟨w.R.of fun i o e hi=>by have a1:=w.bC.bD ρ.G (by simp [Rs.l]);have a2:=w.bC.bD ρ.n (by simp [Rs.l]);grind,w.cR,r1,w.sG,w.tl,w.bM,w.v,w.bd,w.Q,w.aP⟩ ⟨.aD τ,fun i o e hi hp=>⟨by simp [Rs.l] at hp;grind,hp⟩,l1,rfl⟩
theorem ic {kt th:Int}(h:bj τ kt [.j 14,.j th]):Tm τ kt [kt] [16] 0:=.gG h ⟨14,_,rfl,by simp⟩ (by simp)
theorem vI {s th kt x:Int}{cth cx:List Int}{ath ax:List Nat}{pth px:Nat}(w:W H τ ρ k 20)(hfar:ρ.cC=[kt])(hth:Tm τ th cth ath pth)(hx:Tm τ x cx ax px)(hxk:x≠kt)(b1:pth≤4)(b2:cx≠ [])(b3:ath.length≤4)(b4:ax.length≤10)(hk:k+700≤19000)
 (q:∀H' τ' ρ',W H' τ' ρ' (k+700) 20→Mv H H' τ τ' ρ ρ'→ρ'.M=ρ.M++dq ρ (if aB (decide (ρ.v=2)) cth ath cx ax=true then [11] else [])→Q (.D (aB (decide (ρ.v=2)) cth ath cx ax)) H'):
 X.w (n+180) 79 [.y ρ.r,.j s,.B [.j 14,.j x],.B [.j 14,.j th]] H Q:=by
 delta jx
 simp! [w.bC.dM]
 rw [w.bC.J]
 refine⟨by simp,rfl,X.x (mj (n:=n) w hth hx (by grind) (nf b1) (by omega) (fK b1 (by simp_all) b3 b4) (by omega) fun H1 ρ1 w1 m1 hr1=>?_) (by omega)⟩
 cases hg:aB _ cth ath cx ax with
 |false=>
  rw [hg] at q
  exact q H1 τ ρ1 (w1.x (by omega)) m1 (by rw [hr1];simp [cW])
 |true=>
  rw [hg] at q
  rw [show H1[ρ.r]?=some _ by rw [←m1.r];exact w1.bC.J]
  refine⟨by simp,rfl,?_⟩
  rw [←m1.r]
  refine X.x (pU (n:=n) w1 (by omega) fun H2 w2 m2=>?_) (by omega)
  apply q H2 τ _ (w2.x (by omega)) (m1.trans m2)
  rw [gK,hr1,if_pos rfl]
  unfold dq bg
  rw [m1.kV,m1.jo]
def zS (H:AH)(τ:Tb)(obj:Int)(both:Bool)(cs:List Int)(as:List Nat)(par:Bool):Prop:=
 (par=true∧∃pid,bj τ obj [.j 10,.j pid])∨(par=false∧∃u ps c0 c1,Sh H τ obj u ps c0 c1∧(∀p∈ps,p.1∈dt)∧ps.length≤10∧∀bs,(∀a∈bs,a∈ [6,7,8,15])→aB both cs as [] bs=false)
theorem Mv.sh (M:Mv H H' τ τ' ρ ρ')(w:W H τ ρ k m){t u:Int}{ps:List Pr}{c0 c1:V}(h:Sh H τ t u ps c0 c1):Sh H' τ' t u ps c0 c1:=h.N M.le fun g fs e=>M.uc w e
theorem tj {s obj kb:Int}{cs:List Int}{as:List Nat}{p:Nat}{par:Bool}(w:W H τ ρ k 20)(hs:Tm τ s cs as p)(hkb:bj τ kb [.j 14,.j obj])(hlate:aB (decide (ρ.v=2)) cs as [kb] [16] =true)(hsure:zS H τ obj (decide (ρ.v=2)) cs as par)(b1:p≤2)(b3:as.length≤4)(hk:k+300≤19000)
 {env:En} (he:env[0]?=some (some (.y ρ.r))) (he1:env[1]?=some (some (.j s))) (he4:env[4]?=some (some (.y 16))) (he6:env[6]?=some (some (.j obj))) {K:Bool→AH→Prop}
 (q:∀H' τ',W H' τ' ρ (k+300) 20→Mv H H' τ τ' ρ ρ→K (!par) H'):
 (wX (X.b (n+179)) (.gH (.bJ (.w 58 (.cons (.h 0) (.m))) 51 (.cons (.h 1) (.cons (.w 78 (.cons (.h 4) (.cons (.h 6) (.m)))) (.m)))))).T env H K:=by
 simp! [he]
 refine X.x (KY (n:=n) w fun H1 ρn w1 l1 k1 er em ef ep et=>?_) (by omega)
 rw [←er]
 simp only [w1.bC.J]
 refine⟨by decide,rfl,?_⟩
 simp! [he1,he4,he6]
 have m1:∀ {H2:AH} {τ2:Tb} {ρ2:Rs},Mv H1 H2 τ τ2 ρn ρ2→Mv H H2 τ τ2 ρ ρ:=fun{H2 τ2 ρ2} M=>⟨M.le,fun i o e hi hp=>⟨(M.N i o (k1 i o e) hi fun z=>by have:=ep i z;have:=aM e;omega).1,hp⟩,Nat.le_trans (by omega) M.U,rfl⟩
 have back:∀ {H2:AH} {τ2:Tb} {ρ2:Rs} {k2:Nat},W H2 τ2 ρ2 k2 20→Mv H1 H2 τ τ2 ρn ρ2→k2≤k+300→W H2 τ2 ρ (k+300) 20:=fun{H2 τ2 ρ2 k2} w2 M hle=>by
  have rel2:=w.bC.of fun p hp o e=>by have:=w.bC.bD p hp;exact(M.N p o (k1 p o e) (by omega) fun z=>by have:=ep p z;have:=aM e;omega).1
  have b2:=w2.bd;exact⟨w2.R,w2.cR,rel2,w.sG.P M.le,w.tl,w.bM,w.v,⟨by have:=b2.1;omega,by have:=b2.2.1;omega,by have:=b2.2.2.1;omega,by have:=b2.2.2.2;omega⟩,by have:=w.Q;omega,by have:=w.aP;omega⟩
 have wb:=w1.bd.1
 rcases hsure with⟨hpar,pid,hpr⟩|⟨hpar,u,ps,c0,c1,hsh,hnm,hpl,hno⟩
 ·refine X.x (xR (n:=n) w1.R hpr (by omega) fun H2 τ2 r G2 hr=>?_) (by omega);have:=hr.inj G2.R.W (G2.I hkb);subst this;have M2:=G2.gr.mv (ρ:=ρn);refine X.x (mj (n:=n) (w1.gr (n:=k+1) G2.gr (by omega)) (hs.P G2.gI) (ic hr) (by rw [ef];simp) (nf (by omega)) (by omega) (fK (by omega) (by simp) b3 (by simp)) (by omega) fun H3 ρ3 w3 m3 hr3=>?_) (by omega);rw [em,hlate];have:=q H3 τ2 (back w3 (M2.trans m3) (by omega)) (m1 (M2.trans m3));rw [hpar] at this;trivial
 ·have hsh1:=hsh.N (.aD τ) fun g fs e=>k1 g _ e;refine X.x (xS (n:=n) w1.R w.cR hsh1 hnm hpl (by omega) fun H2 τ2 r bs G2 kd hb=>?_) (by omega);have M2:=G2.gr.mv (ρ:=ρn);have hb4:∀a∈bs,a∈ [6,7,8,15] :=fun a ha=>by obtain⟨p,hp,rfl⟩:=List.mem_map.mp ((hb a).mp ha);exact(gE _ (hnm p (List.mem_filter.mp hp).1)).2.2
  have hbl:=by
   have:∀l:List Nat,l.Nodup→(∀a∈l,a∈ [6,7,8,15])→l.length≤10:=fun l hn hl=>by
    have h1:=dD 9 (hn.erase _) fun a ha=>by
     have h1:=hl a (List.mem_of_mem_erase ha);have h2:a≠15:=fun e=>by rw [e] at ha;exact(hn.mem_erase_iff.mp ha).1 rfl
     simp at h1;omega
    have h2:=List.length_erase (a:=15) (l:=l);split at h2<;>omega
   exact this bs kd.W hb4
  refine X.x (mj (n:=n) (w1.gr (n:=k+12) G2.gr (by omega)) (hs.P G2.gI) kd.tm (by rw [ef];simp) (nf (by omega)) (by omega) (fK (by omega) (fun _=>b1) b3 hbl) (by omega) fun H3 ρ3 w3 m3 hr3=>?_) (by omega);rw [em,hno bs hb4];have:=q H3 τ2 (back w3 (M2.trans m3) (by omega)) (m1 (M2.trans m3));rw [hpar] at this;trivial
def K5:MX:=.gH (.bJ (.w 58 (.cons (.h 0) (.m))) 51 (.cons (.h 1) (.cons (.w 78 (.cons (.h 4) (.cons (.h 6) (.m)))) (.m))))
def tA:MS:=.H 6 (.w 76 (.cons (.h 4) (.cons (.z (.h 3) (.k (.j 1))) (.m)))) (.bA (.pK (.cons (.bH .eq (.h 6) (.z (.h 3) (.k (.j 1)))) (.cons (.bH .eq (.h 6) (.k (.j 1))) (.m)))) (.bL (.k (.D false))) (.V) (.bA (.gH (.bJ (.h 0) 51 (.cons (.h 1) (.cons (.bJ (.h 4) 53 (.cons (.B (.cons (.k (.j 14)) (.cons (.h 6) (.m)))) (.m))) (.m))))) (.bL (.k (.D false))) (.V) (.bA (.dy (.cons (.bB (.h 0) 45) (.cons K5 (.m)))) (.jn (.bJ (.h 0) 49 (.cons (.k (.j 11)) (.m))) (.V)) (.V) (.bL (.k (.D true))))))
theorem II:jx.mL=.H 4 (.bB (.h 0) 36) (.bA (.bH .eq (.z (.h 2) (.k (.j 0))) (.k (.j 14))) (.bA (.gH (.bJ (.h 0) 51 (.cons (.z (.h 3) (.k (.j 1))) (.cons (.z (.h 2) (.k (.j 1))) (.m))))) (.bL (.k (.D false))) (.V) (.jn (.bJ (.h 0) 49 (.cons (.k (.j 11)) (.m))) (.bL (.k (.D true))))) (.V) (.bA (.bH .eq (.z (.h 2) (.k (.j 0))) (.k (.j 10))) (.H 5 (.bJ (.h 0) 50 (.m)) (.bA (.bJ (.h 0) 51 (.cons (.w 76 (.cons (.h 4) (.cons (.h 1) (.m)))) (.cons (.bJ (.bB (.h 4) 27) 10 (.cons (.h 3) (.m))) (.m)))) (.bL (.k (.D true))) (.V) (.jn (.bJ (.h 0) 52 (.cons (.h 5) (.m))) (.V)))) (.V) tA)):=rfl
def gw (own one late par:Bool):Bool×List Int:=if own=true then(false,[]) else if one=true then(false,[]) else if late=true then(true,if par=true then [] else [11]) else(false,[])
theorem yL {s th obj:Int}{own late par:Bool}{cs:List Int}{as:List Nat}{p:Nat}{ra:V}{spot:V}(w:W H τ ρ k 20)(ht:ρ.kV=true)(hs:Tm τ s cs as p)(b1:p≤2)(b3:as.length≤4)(ho:qI τ th obj own)
 (hkf:∀i∈ρ.cC,bj τ i [.j 14,.j th]) (hlate:own=false→obj≠1→∀ {H':AH} {τ':Tb} {kb:Int},aY H' τ'→dY τ τ'→bj τ' kb [.j 14,.j obj] →aB (decide (ρ.v=2)) cs as [kb] [16] =late) (hsure:own=false→obj≠1→late=true→zS H τ obj (decide (ρ.v=2)) cs as par) (hk:k+520≤19000)
 (q:∀H' τ' ρ',W H' τ' ρ' (k+520) 20→Mv H H' τ τ' ρ ρ'→ρ'.M=ρ.M++dq ρ (gw own (decide (obj=1)) late par).2→Q (.D (gw own (decide (obj=1)) late par).1) H'):
 wS (X.b (n+179)) tA [some (.y ρ.r),some (.j s),some ra,some (.B [.j 14,.j th]),some (.y 16),some spot,none] H (bX Q):=by
 have no:(gw own _ late par)=(false,[])→∀H' τ' ρ',W H' τ' ρ' _ 20→Mv H H' τ τ' ρ ρ'→ρ'.M=ρ.M→Q _ H':=fun e H' τ' ρ' w' m' hr=>by have:=q H' τ' ρ' w' m';rw [e] at this;exact this (by rw [hr];simp [cW])
 have here:=fun e=>no e H τ ρ (w.x (by omega)) .aD rfl
 have h:=w.R
 unfold tA
 refine X.x (ho.w (n:=n) h ?_) (by omega)
 simp! [ho.Ml]
 cases own with
 |true=>exact here rfl
 |false=>
  by_cases o1:obj=1
  ·simp [o1];exact here (by rw [o1];rfl)
  simp only [o1,if_false]
  have hres:gw false (decide (obj=1)) late par=if late=true then(true,if par=true then [] else [11]) else(false,[]):=by unfold gw;simp [o1]
  rw [w.bC.J]
  refine⟨by decide,rfl,?_⟩
  rw [h.dZ]
  refine⟨by decide,rfl,?_⟩
  have wb:=w.bd.1
  refine X.x (rm (n:=n) h (by omega) fun H1 τ1 kb G1 hkb=>?_) (by omega)
  have hl:=hlate rfl o1 G1.R G1.gI hkb
  have hkbf:kb∉ρ.cC:=fun hi=>by
   have:=(G1.I (hkf kb hi)).bE hkb;simp at this;rcases ho with⟨z,_⟩|⟨_,z,_⟩
   ·cases z
   omega
  refine X.x (mj (n:=n) (w.gr (n:=k+1) G1.gr (by omega)) (hs.P G1.gI) (ic hkb) hkbf (nf (by omega)) (by omega) (fK (by omega) (fun z=>by cases z) b3 (by simp)) (by omega) fun H2 ρ2 w2 m2 hr2=>?_) (by omega)
  have m12:=G1.gr.mv (ρ:=ρ).trans m2
  rw [hl]
  cases hlt:late with
  |false=>exact no (by rw [hres,hlt];rfl) H2 τ1 ρ2 (w2.x (by omega)) m12 hr2
  |true=>
   rw [hlt] at hres hl hsure q
   have g2:∀ {F},aX (.y ρ.r) 45 H2 F=F (.D true):=fun{F} =>by rw [←m2.r,←ht,←m2.kV];exact w2.bC.qN
   simp! [g2]
   have hsu:zS H2 τ1 obj (decide (ρ2.v=2)) cs as par:=by rw [m12.v];exact(hsure rfl o1 rfl).imp (fun⟨a,pid,b⟩=>⟨a,pid,m12.le.I b⟩) fun⟨a,u,ps,c0,c1,b,c⟩=>⟨a,u,ps,c0,c1,m12.sh w b,c⟩
   rw [hres] at q
   rw [←m2.r]
   refine tj w2 (hs.P m12.le) ‹_› (by rw [m2.v];omega) hsu b1 b3 (by omega) (by rfl) rfl rfl rfl fun H3 τ3 w3 m3=>?_
   have m123:=m12.trans m3
   cases par with
   |true=>exact q H3 τ3 ρ2 (w3.x (by omega)) m123 (by rw [hr2];simp [cW])
   |false=>
    rw [w3.bC.J]
    refine⟨by simp,rfl,X.x (pU (n:=n) w3 (by omega) fun H4 w4 m4=>?_) (by omega)⟩
    apply q H4 τ3 _ (w4.x (by omega)) (m123.trans m4)
    rw [gK,hr2]
    simp
    unfold dq bg
    rw [m12.kV,m12.jo]
theorem vH {s th kt obj pid b:Int}{own late par:Bool}{cb:List Int}{ab:List Nat}{pb:Nat}(w:W H τ ρ k 20)(ht:ρ.kV=true)(hfar:ρ.cC=[kt])(hbase:ρ.aT=[(s,kt)])(hkt:bj τ kt [.j 14,.j th])(hs:bj τ s [.j 10,.j pid])(hb:vm τ pid b)(htb:Tm τ (hO b) cb ab pb)(b1:pb≤1)(b3:ab.length≤4)(ho:qI τ th obj own)
 (hlate:own=false→obj≠1→∀ {H':AH} {τ':Tb} {kb:Int},aY H' τ'→dY τ τ'→bj τ' kb [.j 14,.j obj] →aB (decide (ρ.v=2)) (s::cb) ab [kb] [16] =late) (hsure:own=false→obj≠1→late=true→aB (decide (ρ.v=2)) cb ab [kt] [16] =false→zS H τ obj (decide (ρ.v=2)) (s::cb) ab par) (hk:k+800≤19000)
 (q:∀H' τ' ρ',W H' τ' ρ' (k+800) 20→Mv H H' τ τ' ρ ρ'→ρ'.M=ρ.M++dq ρ (if aB (decide (ρ.v=2)) cb ab [kt] [16] =true then [] else(gw own (decide (obj=1)) late par).2)→Q (.D (aB (decide (ρ.v=2)) cb ab [kt] [16] ||(gw own (decide (obj=1)) late par).1)) H'):
 X.w (n+180) 79 [.y ρ.r,.j s,.B [.j 10,.j pid],.B [.j 14,.j th]] H Q:=by
 apply aC.hV rfl (Nat.le_refl _) (Nat.le_refl _)
 show wS _ _ [some _,some _,some _,some _,none,none,none] _ _
 rw [II]
 have hts:Tm τ s _ ab _:=.hU hs hb htb
 have h:=w.R
 simp! [w.bC.dM,decide_true]
 rw [w.bC.J]
 refine⟨by decide,rfl,X.x (td (n:=n) w.bC ?_) (by omega)⟩
 rw [w.bC.J]
 refine⟨by decide,rfl,X.x (qu (n:=n) h hs hb ?_) (by omega)⟩
 simp! [h.cK]
 rw [h.J]
 refine⟨by decide,rfl,?_⟩
 have wb:=w.bd.1
 refine X.x (fb h rfl (by omega) fun H1 τ1 i G1 hi=>?_) (by omega)
 have hik:=hi.inj G1.R.W (G1.I hkt)
 subst hik
 obtain⟨ρ0,hρ0⟩:∃ρ0:Rs,ρ0= {ρ with cC:=[] } :=⟨_,rfl⟩
 have w0:W H1 τ1 ρ0 (k+1) (mu pb ab [i] [16]):=by rw [hρ0];refine(w.gr (n:=k+1) G1.gr (by omega)).JL (fun e he=>.inr ?_) (by simp);rw [hbase] at he;simp at he;subst he;exact⟨_,_,_,_,_,_,hts.P G1.gI,ic hi,fun z=>absurd (show mu _ ab [i] [16] ≤mu pb ab [i] [16] from z) (by unfold mu;omega)⟩
 have r0:ρ0.r=ρ.r:=by rw [hρ0]
 have mo0:ρ0.v=ρ.v:=by rw [hρ0]
 rw [w.tl,←r0]
 refine X.x (mj (n:=n) w0 (htb.P G1.gI) (ic hi) (by rw [hρ0];simp) (Nat.le_refl _) (nf (by omega)) (fK (by omega) (fun z=>by cases z) b3 (by simp)) (by omega) fun H2 ρ2 w2 m2 hr2=>?_) (by omega)
 rw [mo0]
 have far3:∀ {H3:AH} {τ3:Tb} {ρ3:Rs} {k3 m3:Nat},W H3 τ3 ρ3 k3 m3→Mv H1 H3 τ1 τ3 ρ0 ρ3→W H3 τ3 {ρ3 with cC:=[i] } k3 20∧Mv H H3 τ τ3 ρ {ρ3 with cC:=[i] } :=fun{H3 τ3 ρ3 k3 m3} w3 M=>by
  have hb3:ρ3.aT=[(s,i)] :=by rw [M.aT,hρ0];omega
  refine⟨w3.JL (fun e he=>.inl (by rw [hb3] at he;simp at he;subst he;simp)) (fun j hj=>by simp at hj;subst hj;exact⟨_,M.le.I hi⟩),?_⟩
  ·refine⟨G1.gI.trans M.le,fun j o e hj hp=>?_,Nat.le_trans G1.N.U M.U,by rw [M.eq];simp [*]⟩
   ·have hp0:j∉ρ0.l:=by rw [hρ0];exact hp
    exact M.N j o (G1.gr.N j o e hj) hj hp0
 cases hg:aB _ cb ab [i] [16] with
 |true=>
  rw [hg] at q
  obtain⟨w3,m3⟩:=far3 w2 m2
  apply q H2 τ1 _ (w3.x (by omega)) m3
  rw [hr2,hρ0,if_pos rfl,cW,List.append_nil]
 |false=>
  rw [hg] at q hsure
  rw [show H2[ρ0.r]?=some _ by rw [←m2.r];exact w2.bC.J]
  refine⟨by simp,rfl,?_⟩
  rw [←m2.r]
  refine X.x (LF (n:=n) w2 (by rw [hr2,hρ0]) rfl (by omega) fun H3 w3 m3=>?_) (by omega)
  obtain⟨w4,m4⟩:=far3 w3 (m2.trans m3)
  have fin:=yL (X:=X) (n:=n) (late:=late) (par:=par) (ra:=.B [.j 10,.j pid]) (spot:=.B [.j ρ.M.length,.j ([] :List (Int×Int)).length]) (Q:=Q) w4 (by rw [m2.kV,hρ0];omega) (hts.P m4.le) (by omega) b3 (m4.A2 ho) (fun j hj=>?_) (fun a c H' τ' kb t le=>?_) (fun a c d=>?_) (by omega) fun H5 τ5 ρ5 w5 m5 hr5=>?_
  ·omega
  ·simp at hj;subst hj;omega
  ·rw [m2.v,mo0];exact hlate a c t (m4.le.trans le)
  ·rw [m2.v,mo0];exact(hsure a c d rfl).imp (fun⟨a,pid,b⟩=>⟨a,pid,m4.le.I b⟩) fun⟨a,u,ps,c0,c1,b,c⟩=>⟨a,u,ps,c0,c1,m4.sh w b,c⟩
  ·apply q H5 τ5 ρ5 (w5.x (by omega)) (m4.trans m5);rw [hr5,hr2,hρ0];simp;unfold dq bg;rw [show({ρ2 with cC:=[i] } :Rs).kV=ρ.kV by rw [m2.kV,hρ0],show({ρ2 with cC:=[i] } :Rs).jo=ρ.jo by rw [m2.jo,hρ0]]
end
abbrev ns (l:List Nat):List V:=l.map fun(a:Nat)=>V.j (a:Int)
section
variable {H H':AH}{ρ ρ':Rs}{τ τ':Tb}{F:V→Prop}{Q:az}{n k m:Nat}
theorem uL (a:Nat)(l:List Nat){B:Bool→Prop} :gb (.j (a:Int)) (ns l) B=B (decide (a∈l)):=by
 have h3:decide (V.j a∈ns l)=decide (a∈l):=by grind
 unfold gb;rw [h3];simp [V.e]
theorem qe {g:Nat}{l:List Nat}(hg:H[g]?=some (.f (ns l)))(a:Nat){B:Bool→Prop} :aI .jm (.j (a:Int)) (.y g) H B=B (decide (a∈l)):=by show jH _ (.y g) H B=_;simp only [jH,hg];exact uL a l
theorem yj {g:Nat}{l:List Nat}(hg:H[g]?=some (.f (ns l)))(a:Nat){B:Bool→Prop} :aI .ub (.j (a:Int)) (.y g) H B=B (!decide (a∈l)):=by show jH _ (.y g) H _=_;simp only [jH,hg];exact uL a l
theorem iM {a b:Nat}{x y:List V}(h1:H[a]?=some (.f x))(h2:H[b]?=some (.f y))(hl:x.length+y.length<2^20):cw .fZ (.y a) (.y b) H Q=Q (.y H.length) (H++[.f (x++y)]):=by simp [cw,h1,h2,hl]
theorem KP (x:Int)(y:Int):oz .Mc x y=if 0≤x∧x<2^30∧0≤y∧y<2^30 then some (x*y) else none:=rfl
theorem ym (x y:Int)(h:0≤x∧x<2^30∧0≤y∧y<2^30):cw .Mc (.j x) (.j y) H Q=Q (.j (x*y)) H:=by show(match oz _ x y with|some c=>Q _ H|none=>False)=_;rw [KP,if_pos h]
theorem cA {N:Int}(h:aY H τ)(hN:0<N)(hk:τ.gh<2^29)(q:∀H' τ' v,Gr 1 H H' τ τ'→τ'.M=τ.M→τ'.Z=τ.Z→τ'.aH=τ.aH→0≤v→v<N→Q (.j v) H'):X.w (n+1) 88 [.y 3,.j N] H Q:=by
 delta jz;obtain⟨l,hl⟩:=h.Mk;have e0:∀ {F:V→Prop},aF _ _ H F=F _:=fun{F} =>by rw [aA H 0 h.d];rfl
 have es:∀ {G:AH→Prop},cD (.y 3) (.j 0) (.j (τ.gh+1)) H G=G (H.set 3 (.f [.j (τ.gh+1:Nat),.y 2])):=fun{G} =>by simp only [cD,h.d];simp
 have ea:∀ {Q:az},cw .fZ (.j τ.gh) (.j 1) H Q=Q _ H:=fun{Q} =>rfl;simp! [e0,ea,es];have d1:(H.set 3 (.f [.j (τ.gh+1:Nat),.y 2]))[3]?=some _:=aj h.d;have s1:(H.set 3 (.f [.j (τ.gh+1:Nat),.y 2]))[2]?=some _:=aa hl (by simp);obtain⟨H1,hH1⟩:∃H1,H1=H.set 3 (.f [.j (τ.gh+1:Nat),.y 2]):=⟨_,rfl⟩;have G1:Gr 1 H H1 τ {τ with gh:=τ.gh+1} :=by rw [hH1];exact⟨⟨aa h.J (by simp),aa h.M (by simp),aa h.i8 (by simp),aa h.aH (by simp),aa h.Z (by simp),let⟨l,a,b⟩:=h.dQ;⟨l,aa a (by simp),b⟩,let⟨l,a,b⟩:=h.names;⟨l,aa a (by simp),b⟩,⟨l,s1⟩,d1,aa h.dZ (by simp),aa h.jK (by simp),aa h.sI (by simp),h.bG,h.W⟩,⟨by simp,by simp,by simp⟩,by simp,by simp,by simp,by simp,by grind,by simp⟩
 rw [←hH1] at d1 s1 ⊢;have e1:∀ {F:V→Prop},aF _ _ H1 F=F _:=fun{F} =>by rw [aA _ 1 d1];rfl
 have fin:∀x,cw .vt (.j x) (.j N) H1 Q:=fun x=>by simp [cw,oz,hN];exact q H1 _ _ G1 rfl rfl rfl (Int.emod_nonneg _ (by omega)) (Int.emod_lt_of_pos _ hN)
 simp! [e1,bh _ s1];by_cases hlt:(τ.gh:Int)<(l.map V.j).length
 ·simp only [hlt];have hlt':=by simpa using hlt
  have e2:∀ {F:V→Prop},aF _ (.j τ.gh) H1 F=F (.j (l[τ.gh]'hlt')):=fun{F} =>by rw [aA _ _ s1];exact cz _ (by simp) (by omega)
  simp! [e2];exact fin _
 ·simp only [hlt];have em:∀ {Q:az},cw _ (.j τ.gh) (.j 101) H1 Q=Q _ H1:=fun{Q} =>ym _ _ (by omega);simp! [em];exact fin _
theorem fw {g:Nat}{l:List V}{a:Nat}{v:V}(hg:H[g]?=some (.f l))(e:l[a]?=some v)(ha:a<2^20):aF (.y g) (.j (a:Int)) H F=F v:=by rw [aA H _ hg];exact cz _ e (by omega)
theorem x8:∀a<15,(aQ.map V.B)[a]?=some (V.B (bt a)):=by decide
theorem KU {a:Nat}(h:aY H τ)(ha:a<15)(q:∀H',au 0 H H' τ τ→Q (.B (bt a)) H'):X.w (n+1) 89 [.j (a:Int)] H Q:=by delta pg;have a1:(H++[ag.f ((aQ.map V.B).take 8)] ++[ag.f (((aQ.map V.B).drop 8).take 6)])[H.length]?=some _:=af ae;have b1:(H++[ag.f _] ++[ag.f (((aQ.map V.B).drop 8).take 6)])[(H++[ag.f ((aQ.map V.B).take 8)]).length]?=some _:=ae;apply(iM (Q:=fun v H=>(wX (X.b n) (.z (.hY .fZ (.h 1) (.dm (.cons (.B (.cons (.k (.j 4)) (.cons (.k (.j (-1))) (.cons (.k (.j 0)) .m)))) .m))) (.h 0))).E [some (.j a),some v] H Q) a1 b1 (by decide)).mpr;have G3:au 0 H (H++[ag.f ((aQ.map V.B).take 8)] ++[ag.f (((aQ.map V.B).drop 8).take 6)] ++[ag.f ((aQ.map V.B).take 8++((aQ.map V.B).drop 8).take 6)]) τ τ:=(((au.aD h).Y _).Y _).Y _;generalize H++[ag.f _] ++[ag.f _] =H2 at G3;have a2:(H2++[ag.f ((aQ.map V.B).take 8++((aQ.map V.B).drop 8).take 6)] ++[ag.f (((aQ.map V.B).drop 14).take 1)])[H2.length]?=some _:=af ae;have b2:(H2++[ag.f _] ++[ag.f (((aQ.map V.B).drop 14).take 1)])[(H2++[ag.f ((aQ.map V.B).take 8++((aQ.map V.B).drop 8).take 6)]).length]?=some _:=ae;apply(iM (Q:=fun x H=>aF x (.j a) H fun v=>Q v H) a2 b2 (by decide)).mpr;have:=fw (H:=H2++[ag.f ((aQ.map V.B).take 8++((aQ.map V.B).drop 8).take 6)] ++[ag.f (((aQ.map V.B).drop 14).take 1)] ++[ag.f _]) (F:=fun v=>Q v (H2++[ag.f ((aQ.map V.B).take 8++((aQ.map V.B).drop 8).take 6)] ++[ag.f (((aQ.map V.B).drop 14).take 1)] ++[ag.f ((aQ.map V.B).take 15)])) ae (by rw [List.getElem?_take_of_lt ha];exact x8 a ha) (by omega);exact this.mpr (q _ ((G3.Y _).Y _))
theorem zG:∀a<15,([.j 1,.j 2,.j 4,.j 8,.j 16,.j 16440,.j 192,.j 256,.j 512,.j 14272,.j 32767,.j 128,.j 4096,.j 8192,.j 16384] :List V)[a]?=some (.j (aZ a:Int)):=by decide
theorem jW {a:Nat}(h:aY H τ)(ha:a<15)(q:∀H',au 0 H H' τ τ→Q (.j (aZ a:Int)) H'):X.w (n+1) 90 [.j (a:Int)] H Q:=by apply aC.hV rfl (Nat.le_refl _) (Nat.le_refl _);exact(fw ae (zG a ha) (by omega)).mpr (q _ ((au.aD h).Y _))
theorem J1 (x y:Nat):cw .Me (.j (x:Int)) (.j (y:Int)) H Q=Q (.j ((x|||y:Nat):Int)) H:=by rfl
theorem zJ (x y:Nat):cw .qS (.j (x:Int)) (.j (y:Int)) H Q=Q (.j ((x&&&y:Nat):Int)) H:=by rfl
theorem fV {g:Nat}{as:List Nat}(h:aY H τ)(hg:H[g]?=some (.f (ns as)))(hg2:10<g)(ha:∀a∈as,a<15)(q:∀H',au 0 H H' τ τ→Q (.j (ah as:Int)) H'):X.w (n+2) 94 [.y g] H Q:=by
 delta pj;have hi:aG (.y g) H=some (ns as,some (g,ns as)):=by simp [aG,hg]
 simp! [hi];refine br (fun vs env H1=>∃dn rest x,vs=ns rest∧as=dn++rest∧env=[some _,some (.j (ah dn)),x] ∧au 0 H H1 τ τ) ?_ ?_ ⟨[],as,_,rfl,rfl,rfl,.aD h⟩
 ·rintro _ r _ H1 ⟨dn,rest,x,e,hd,rfl,G1⟩;refine⟨G1.N.kp _ _ hg (.inr hg2),fun q' qn _=>?_⟩;cases rest with
  |nil=>cases e
  |cons a rest=>cases e;refine X.x (jW (n:=n) G1.R (ha a (by rw [hd];simp)) fun H2 G2=>(qn _ _ ⟨dn++[a],_,some (.j a),rfl,by rw [hd];simp,?_,G1.trans G2 (by omega)⟩).1) (by omega);rw [ez];simp [ah]
 ·rintro _ H1 ⟨dn,rest,x,e,hd,rfl,G1⟩;have:rest=[] :=by simp_all
  refine⟨G1.N.kp _ _ hg (.inr hg2),?_⟩;grind
end
structure qJ (as:List Nat):Prop where
 lt:∀a∈as,a<15
 W:as.Nodup
 A6:∀a∈as,∀b∈as,a≠b→b∈ [5,9,10] →kJ a b=false
 U:as.length≤4
theorem qJ.m:qJ [] :=⟨by simp,by simp,by simp,by simp⟩
theorem xA:∀a<15,∀b<15,a=b∨b∉ [5,9,10] ∨((aZ a|||aZ b==aZ b)=kJ a b):=by decide
theorem qJ.set {as bs:List Nat}(h:qJ as)(u:qB as bs):∀a,a∈bs↔a∈as:=by
 rcases u with⟨u,rfl⟩|⟨_,u⟩
 ·intro a;constructor
  ·grind
  ·intro z;by_cases e:a=10
   ·simp_all
   ·have:=h.A6 a z 10 u e (by simp);rw [iu] at this;trivial
 ·intro a;rw [u a];refine⟨fun z=>z.1,fun z=>⟨z,fun y=>?_,fun y=>?_⟩⟩
  ·have hne:a≠9:=by rintro rfl;exact absurd y.1 (by decide)
   have:=h.A6 a z 9 y.2 hne (by simp);simp [kJ,y.1] at this
  ·have hne:a≠5:=by rintro rfl;exact absurd y.1 (by decide)
   have:=h.A6 a z 5 y.2 hne (by simp);simp [kJ,y.1] at this
theorem qJ.wf {as:List Nat}(h:qJ as):Wf as:=by
 refine⟨fun a ha=>⟨by have:=h.lt a ha;omega,by have:=h.lt a ha;omega⟩,fun z=>?_,fun z=>by have:=h.lt 16 z;omega⟩;have:=fun a ha=>Classical.byContradiction fun e=>by have:=h.A6 a ha 10 z e (by simp);rw [iu] at this;trivial
 cases hs:as with
 |nil=>simp_all
 |cons a r=>
  have ha:=this a (by simp_all);cases hr:r with
  |nil=>rw [ha]
  |cons b r'=>have hb:=this b (by simp_all);have nd:=h.W;grind
section
variable {H H':AH}{ρ ρ':Rs}{τ τ':Tb}{F:V→Prop}{Q:az}{n k m:Nat}
theorem ip (x y:Int)(h:0<y):cw .vt (.j x) (.j y) H Q=Q (.j (x%y)) H:=by simp [cw,oz,h]
theorem Jb (x y:Int):oz .kM x y=if 0≤x∧0<y∧y<2^29 then some (x/y) else none:=rfl
theorem fC (x y:Int)(h:0≤x∧0<y∧y<2^29):cw .kM (.j x) (.j y) H Q=Q (.j (x/y)) H:=by show(match oz _ x y with|some c=>Q _ H|none=>False)=_;rw [Jb,if_pos h]
theorem tT (x y:Int):cw .fZ (.j x) (.j y) H Q=Q (.j (x+y)) H:=rfl
theorem o9 {g:Nat}{pl:List Nat}{code most low:Int}(h:aY H τ)(hg:H[g]?=some (.f (ns pl)))(hg2:10<g)(hp:∀a∈pl,a<15)(hpn:pl≠ [])(hpl:pl.length<64)(hc:0≤code)(hm:0<most∧most≤4)(hl:0≤low∧low+most≤5)
 (q:∀H' g' as,au 0 H H' τ τ→qJ as→H.length≤g'→H'[g']?=some (.f (ns as))→(∀a∈as,a∈pl)→Q (.y g') H'):X.w (n+2) 93 [.y g,.j code,.j most,.j low] H Q:=by
 delta ph
 have hll:0<pl.length:=by cases pl with|nil=>exact absurd rfl hpn|cons=>simp
 have hmod:0≤code%most∧code%most<most:=⟨Int.emod_nonneg _ (by omega),Int.emod_lt_of_pos _ hm.1⟩
 have hlen:=h.U
 simp! [fC _ _ (show 0≤code∧0<most∧most<2^29 by omega),ip _ _ hm.1,tT]
 refine⟨by omega,by omega,?_⟩
 have G1:au 0 H (H++[.f []]) τ τ:=(au.aD h).Y _
 refine br (fun vs env H1=>∃(gt:List Nat) (r:Int) (x y:Option V),vs.length+gt.length≤4∧env=[some (.y g),some (.j code),some (.j most),some (.j low),some (.y H.length),some (.j r),x,y,none,none,none,none] ∧0≤r∧gt.Nodup∧(∀a∈gt,a∈pl)∧H1[H.length]?=some (.f (ns gt))∧au 0 H H1 τ τ) ?_ ?_
  ⟨[],code/most,none,none,?_,rfl,Int.ediv_nonneg hc (by omega),List.nodup_nil,(fun a h=>nomatch h),ae,G1⟩
 ·rintro v r _ H1 ⟨gt,r0,x,y,hlen4,rfl,hr0,hnd,hsub,hgt,G1⟩;refine⟨trivial,fun q' qn _=>?_⟩;have hg1:=G1.N.kp _ _ hg (.inr hg2);have hplen:(0:Int)<((ns pl).length):=by simp;omega
  have hj0:0≤r0%((ns pl).length):=Int.emod_nonneg _ (by omega);have hj1:r0%((ns pl).length)<((ns pl).length):=Int.emod_lt_of_pos _ hplen;have hjl:(r0%((ns pl).length)).toNat<pl.length:=by
   have:(ns pl).length=pl.length:=by simp
   omega
  obtain⟨a,ha⟩:∃a,pl[(r0%((ns pl).length)).toNat]?=some a:=⟨_,List.getElem?_eq_getElem hjl⟩;have e1:∀ {F:V→Prop},aF _ (.j (r0%((ns pl).length))) H1 F=F _:=fun{F} =>by rw [aA _ _ hg1];have:=(Int.toNat_of_nonneg hj0).symm;rw [this];exact cz _ (by rw [List.getElem?_map,ha];rfl) (by omega)
  have hal:((ns pl).length:Int)<2^29:=by simp;omega
  simp! [bh _ hg1,ip _ _ hplen,e1,fC _ _ ⟨hr0,hplen,hal⟩,yj hgt];have hr1:0≤r0/((ns pl).length):=Int.ediv_nonneg hr0 (by omega);simp at hlen4;by_cases hm2:a∈gt
  ·simp only [hm2];exact(qn _ _ ⟨gt,_,_,_,by omega,rfl,hr1,hnd,hsub,hgt,G1⟩).1
  ·simp only [hm2];simp! [bN _ hgt,cS _ hgt (by rw [List.length_map];omega)];refine(qn _ _ ⟨gt++[a],_,_,_,by simp;omega,rfl,hr1,List.nodup_append.mpr ⟨hnd,by simp,fun b hb c hc=>by simp at hc;subst hc;rintro rfl;exact hm2 hb⟩,fun b hb=>?_,by rw [aj hgt];simp,G1.set h _ (by simp)⟩).1
   ·rcases List.mem_append.mp hb with z|z
    ·exact hsub b z
    ·simp at z;subst z;exact List.mem_of_getElem? ha
 ·rintro _ H1 ⟨gt,r0,x,y,hlen4,rfl,hr0,hnd,hsub,hgt,G1⟩;refine⟨trivial,?_⟩;have hlt:∀a∈gt,a<15:=fun a ha=>hp a (hsub a ha);have ew:∀(i:Nat) {H:AH} {B:Bool→Prop},gb (.j (i:Int)) [.j 5,.j 9,.j 10] B=B (decide (i∈ [5,9,10])):=fun i {H B} =>by rw [show([V.j 5,V.j 9,V.j 10])=ns [5,9,10] from rfl];exact uL i _
  have i1:aG (.y H.length) H1=some (ns gt,some (H.length,ns gt)):=by simp only [aG,hgt]
  simp only [List.length_nil,Nat.zero_add] at hlen4;have l1:H.length<H1.length:=aM hgt;simp! [i1];refine bW (fun rest out H2=>∃dn rs,rest=ns rs∧gt=dn++rs∧out=ns (dn.filter fun b=>decide (b∈ [5,9,10]))∧H2[H.length]?=some (.f (ns gt))∧au 0 H H2 τ τ) ?_ ?_ (out:=[]) ⟨[],gt,rfl,rfl,rfl,af hgt,G1.Y _⟩ ae
  ·rintro _ r out H2 ⟨dn,rs,e,hd,rfl,hgt2,G2⟩ ha;have hdl:gt.length=dn.length+rs.length:=by rw [hd];simp
   have hfl:=List.length_filter_le (fun b=>decide (b∈ [5,9,10])) dn;refine⟨hgt2,by rw [List.length_map];omega,fun q' qn qs=>?_⟩;cases rs with
   |nil=>cases e
   |cons b rs=>cases e;simp! [ew b (H:=H2)];exact iv (fun hb=>by refine qs _ _ ⟨dn++[b],rs,rfl,by simp [*],?_,aa hgt2 (by omega),G2.set h _ (by omega)⟩ ha;rw [List.filter_append,List.filter_cons_of_pos (by omega)];simp) (fun hb=>by refine qn _ ⟨dn++[b],rs,rfl,by simp [*],?_,hgt2,G2⟩ ha;rw [List.filter_append,List.filter_cons_of_neg (by rw [hb];simp)];simp)
  ·rintro out H2 ⟨dn,rs,e,hd,rfl,hgt2,G2⟩ hw;have:rs=[] :=by cases rs<;>first|rfl|cases e
   subst this;rw [List.append_nil] at hd;subst hd;refine⟨hgt2,?_⟩;generalize hwd:(gt.filter fun b=>decide (b∈ [5,9,10]))=wd at hw;have hwdm:∀b,b∈wd↔b∈gt∧b∈ [5,9,10] :=fun b=>by rw [←hwd,List.mem_filter];simp
   have hwl:wd.length≤4:=by rw [←hwd];exact Nat.le_trans (List.length_filter_le _ _) hlen4
   have l2:H1.length<H2.length:=aM hw;have i2:aG (.y H.length) H2=some (ns gt,some (H.length,ns gt)):=by simp only [aG,hgt2]
   simp! [i2];refine bW (fun rest out H3=>∃dn rs,rest=ns rs∧gt=dn++rs∧out=ns (dn.filter fun a=> !wd.any fun b=> !decide (b=a)&&(aZ a|||aZ b==aZ b))∧H3[H.length]?=some (.f (ns gt))∧H3[H1.length]?=some (.f (ns wd))∧au 0 H H3 τ τ) ?_ ?_ (out:=[]) ⟨[],gt,rfl,rfl,rfl,af hgt2,af hw,G2.Y _⟩ ae
   ·rintro _ r out H3 ⟨dn,rs,e,hd,rfl,hgt3,hw3,G3⟩ ha;have hdl:gt.length=dn.length+rs.length:=by rw [hd];simp
    have hfl:=List.length_filter_le (fun a=> !wd.any fun b=> !decide (b=a)&&(aZ a|||aZ b==aZ b)) dn;refine⟨hgt3,by rw [List.length_map];omega,fun q' qn qs=>?_⟩;cases rs with
    |nil=>cases e
    |cons a rs=>
     cases e;have ha15:a<15:=hlt a (by rw [hd];simp);have l3:H2.length<H3.length:=aM ha;have i3:aG (.y H1.length) H3=some (ns wd,some (H1.length,ns wd)):=by simp only [aG,hw3]
     simp! [i3];refine bW (fun rest out' H4=>∃dn' rs',rest=ns rs'∧wd=dn'++rs'∧out'=(dn'.map fun b=> !decide (b=a)&&(aZ a|||aZ b==aZ b)).map V.D∧H4[H.length]?=some (.f (ns gt))∧H4[H1.length]?=some (.f (ns wd))∧H4[H2.length]?=some _∧au 0 H H4 τ τ) ?_ ?_ (out:=[]) ⟨[],wd,rfl,rfl,rfl,af hgt3,af hw3,af ha,G3.Y _⟩ ae
     ·rintro _ r' out' H4 ⟨dn',rs',e,hd',rfl,hgt4,hw4,ha4,G4⟩ hb4;have hdl':wd.length=dn'.length+rs'.length:=by simp [*]
      refine⟨hw4,by simp;omega,fun q'' qn' qs'=>?_⟩;cases rs' with
      |nil=>cases e
      |cons b rs'=>
       cases e;have hbw:b∈wd:=by simp [*]
       have hb15:=hlt b ((hwdm b).mp hbw).1;have fin:∀H5,au 0 H4 H5 τ τ→q'' (some (.D (!decide (b=a)&&(aZ a|||aZ b==aZ b)))) H5:=fun H5 G5=>by have k5:=fun i o hi e=>G5.N.kp i o e (.inr hi);exact qs' _ _ ⟨dn'++[b],rs',rfl,by simp [*],by simp,aa (k5 _ _ (by omega) hgt4) (by omega),aa (k5 _ _ (by omega) hw4) (by omega),aa (k5 _ _ (by omega) ha4) (by omega),(G4.trans G5 (by omega)).set h _ (by omega)⟩ (k5 _ _ (by omega) hb4)
       have hbe:decide ((b)=(a:Int))=decide (b=a):=by congr 1;rw [eq_iff_iff];omega
       simp! [hbe];by_cases hba:b=a
       ·have:=fin H4 (au.aD G4.R);simp [hba,if_false] at this ⊢;omega
       ·simp [hba];refine X.x (jW (n:=n) G4.R ha15 fun H5 G5=>X.x (jW (n:=n) G5.R hb15 fun H6 G6=>?_) (by omega)) (by omega);rw [J1];refine X.x (jW (n:=n) G6.R hb15 fun H7 G7=>?_) (by omega);simp! [];have e:decide (((aZ a|||aZ b):Int)=(aZ b))=(aZ a|||aZ b==aZ b):=by rw [Bool.eq_iff_iff,decide_eq_true_iff,beq_iff_eq];omega
        rw [e];simpa [hba] using fin H7 ((G5.trans G6 (by omega:0+0≤0)).trans G7 (by omega))
     ·rintro out' H4 ⟨dn',rs',e,hd',rfl,hgt4,hw4,ha4,G4⟩ hb4;have:rs'=[] :=by cases rs'<;>first|rfl|cases e
      subst this;rw [List.append_nil] at hd';subst hd';refine⟨hw4,?_⟩;have eany:∀ {Q:az},dj .uh [.y H3.length] H4 Q=Q (.D (wd.any fun b=> !decide (b=a)&&(aZ a|||aZ b==aZ b))) H4:=fun{Q} =>by simp only [dj,hb4,gU];simp
      simp! [eany];exact iv (fun hb=>by refine qs _ _ ⟨dn++[a],rs,rfl,by simp [*],?_,aa hgt4 (by omega),aa hw4 (by omega),G4.set h _ (by omega)⟩ ha4;rw [List.filter_append,List.filter_cons_of_pos (by omega)];simp) (fun hb=>by refine qn _ ⟨dn++[a],rs,rfl,by simp [*],?_,hgt4,hw4,G4⟩ ha4;rw [List.filter_append,List.filter_cons_of_neg (by simp [*])];simp)
   ·rintro out H3 ⟨dn,rs,e,hd,rfl,hgt3,hw3,G3⟩ ha;have:rs=[] :=by cases rs<;>first|rfl|cases e
    subst this;rw [List.append_nil] at hd;subst hd;refine⟨hgt3,q H3 _ _ G3 ⟨fun a ha=>hlt a (List.mem_filter.mp ha).1,hnd.filter _,fun a ha b hb hab hb3=>?_,Nat.le_trans (List.length_filter_le _ _) hlen4⟩ (by omega) ha fun a ha=>hsub a (List.mem_filter.mp ha).1⟩;obtain⟨ha1,ha2⟩:=List.mem_filter.mp ha;have hb1:=(List.mem_filter.mp hb).1;rcases xA a (hlt a ha1) b (hlt b hb1) with z|z|z
    ·omega
    ·exact absurd hb3 z
    ·rw [←z];rw [Bool.not_eq_true',List.any_eq_false] at ha2;simpa [Ne.symm hab] using ha2 b ((hwdm b).mpr ⟨hb1,hb3⟩)
 ·have:(ft (low+code%most)).length≤4:=by unfold ft;rw [List.length_map,List.length_range];omega
  omega
theorem iQ {g:Nat}{as:List Nat}(h:aY H τ)(std:du τ)(hg:H[g]?=some (.f (ns as)))(hg2:10<g)(hf:qJ as)(hn:τ.M.length+5<2^19)
 (q:∀H' τ' t bs,au 5 H H' τ τ'→Kd τ' t bs→(∀a,a∈bs↔a∈as)→Q (.j t) H'):X.w (n+4) 95 [.y 4,.y g] H Q:=by
 delta nM
 have hi:aG (.y g) H=some (ns as,some (g,ns as)):=by simp [aG,hg]
 have hlen:=h.U
 have hal:=hf.U
 simp! [hi]
 refine bW (fun rest out H1=>∃dn rs ids τ1,rest=ns rs∧as=dn++rs∧out=zs ids∧eI τ1 ids dn∧au dn.length H H1 τ τ1) ?_ ?_ ⟨[],as,[],τ,rfl,rfl,rfl,.m,(au.aD h).Y _⟩ ae
 ·rintro _ r out H1 ⟨dn,rs,ids,τ1,e,hd,rfl,hat,G1⟩ ha;have hdl:as.length=dn.length+rs.length:=by simp_all
  have hil:=hat.U;refine⟨G1.N.kp _ _ hg (.inr hg2),by simp;omega,fun q' qn qs=>?_⟩;cases rs with
  |nil=>cases e
  |cons a rs=>cases e;have ha15:=hf.lt a (by rw [hd];simp);have gl:=G1.U;simp! [G1.R.J];refine⟨by simp,rfl,X.x (KU (n:=n) G1.R ha15 fun H2 G2=>X.x (fb G2.R (kW a (by omega)) (by omega) fun H3 τ3 i G3 hrow=>?_) (by omega)) (by omega)⟩;have G13:au (dn.length+1) H H3 τ τ3:=(G1.trans G2 (Nat.le_refl _)).trans G3 (by omega);exact qs _ _ ⟨_,rs,_,τ3,rfl,by rw [hd];simp,by simp,(hat.dJ (G2.trans G3 (Nat.le_refl _))).dp (.cons ⟨by omega,hrow⟩ .m),(G13.le (by simp)).set h _ (by simp)⟩ (G3.N.kp _ _ (G2.N.kp _ _ ha (by omega)) (by omega))
 ·rintro out H1 ⟨dn,rs,ids,τ1,e,hd,rfl,hat,G1⟩ ha;have:rs=[] :=by simp_all
  subst this;rw [List.append_nil] at hd;subst hd;have gl:=G1.U;exact⟨G1.N.kp _ _ hg (.inr hg2),X.x (iN (n:=0) G1.R (G1.cR std) (.inr (by grind)) (hat.Ob (G1.cR std)) (by omega) (by omega) fun H2 τ2 t bs G2 kd hu=>q H2 τ2 t bs (G1.trans G2 (by omega)) kd (hf.set hu)) (by omega)⟩
end
def bc (g:Nat)(x:Nat):V:=.B [.y g,.j (x:Int)]
def gF:Option Nat→Int
 |none=> -1
 |some x=>(x:Int)
def fL (names:List (PySem.Str×Nat))(tx nm:Option Nat)(x:PySem.Str):Option Nat:=match names.lookup x with
 |some b=>some b
 |none=>if(m7 x&&nm.isSome)=true then nm else tx
def bQ (names:List (PySem.Str×Nat)):List (V×V):=names.map fun p=>(V.F p.1,V.j (p.2:Int))
theorem y9 (l:List Int):(V.B (zs l)).bG=true:=uP 3 l
theorem yH {both:Bool}{S:List Int}{x y:Nat}(h:x≠0):hG both S x [] y=if both=true then decide (x&&&y>0) else x&&&y==x:=by show(x==0||_)=_;simp_all
theorem kU {both:Bool}{S T:List Int}{t:Int}{x y:Nat}(h:x≠0):hG both S x (t::T) y=(S.contains t||(both&&x==32767)):=by show(x==0||_)=_;simp_all
section
variable {H H':AH}{ρ ρ':Rs}{τ τ':Tb}{F:V→Prop}{Q:az}{n k m:Nat}
theorem iR {both:Bool}{g g' x y:Nat}{S T:List Int}(h:aY H τ)(hg:H[g]?=some (.f (zs S)))(hg':H[g']?=some (.f (zs T)))(q:∀H',au 0 H H' τ τ→Q (.D (hG both S x T y)) H'):X.w (n+1) 98 [.D both,bc g x,bc g' y] H Q:=by
 apply aC.hV rfl (Nat.le_refl _) (Nat.le_refl _);show wS _ _ [some _,some (.B _),some (.B _)] _ _;unfold jA;have hx0:decide ((x:Int)=0)=(x==0):=by grind
 simp! [hx0];have ne_list:∀ {H:AH} {B:Bool→Prop},H[g']?=some _→aI .ne (.y g') (.y H.length) (H++[ag.f []]) B=B !T.isEmpty:=fun{H B} e=>by have e1:(H++[ag.f []])[g']?=some (.f (zs T)):=af e;have e2:(H++[ag.f []])[H.length]?=some _:=ae;simp [aI,qo,e1,y9];have e3:(V.B []).bG=true:=rfl;simp [e3];cases T<;>simp
 have G1:au 0 H (H++[ag.f []]) τ τ:=(au.aD h).Y _;have G2:au 0 H (H++[ag.f []] ++[ag.f []]) τ τ:=G1.Y _;have hg1:(H++[ag.f []])[g']?=some _:=af hg';have hs1:(H++[ag.f []])[g]?=some _:=af hg;by_cases hx:x=0
 ·have e:hG both S x T y=true:=by rw [hx];rfl
  have:=q H (.aD h);grind
 have hx':(x==0)=false:=by simpa using hx
 simp only [hx'];rw [ne_list hg'];cases T with
 |nil=>
  rw [ne_list hg1];have fin:=q _ G2;rw [yH hx] at fin;cases both with
  |true=>rw [zJ];simp! [];simp_all
  |false=>
   simp at fin ⊢;rw [zJ];simp! [];have e:decide ((x&&&y:Nat)=(x:Int))=(x&&&y==x):=by grind
   rw [e];omega
 |cons t T=>
  simp only [List.isEmpty_cons];have s0:∀ {F:V→Prop},aF _ _ _ F=F _:=fun{F} =>by rw [aA _ 0 hg1];rfl
  have ein:∀ {B:Bool→Prop},aI .jm _ (.y g) _ B=B (S.contains t):=fun{B} =>by show jH _ (.y g) (H++[ag.f []]) B=_;simp only [jH,hs1];rw [aR t S];simp
  simp! [s0,ein];cases hc:S.contains t with
  |true=>have fin:=q _ G1;rw [kU hx] at fin;grind
  |false=>
   rw [ne_list hg1];have fin:=q _ G2;rw [kU hx] at fin;simp only [hc] at fin;simp only [List.isEmpty_cons];cases both with
   |true=>
    have e:decide ((x:Int)=32767)=(x==32767):=by rw [Bool.eq_iff_iff,decide_eq_true_iff,beq_iff_eq];omega
    rw [e];trivial
   |false=>grind
theorem ju {names:List (PySem.Str×Nat)}(x:PySem.Str):bR (.F x) (bQ names)=(names.lookup x).map fun b=>V.j (b:Int):=by
 induction names with
 |nil=>rfl
 |cons p r ih=>show bR _ ((V.F p.1,V.j _)::bQ r)=_;unfold bR;grind
theorem kR {names:List (PySem.Str×Nat)}(x:PySem.Str):bI (.F x) (bQ names):=⟨by simp [V.aS],fun e he=>by obtain⟨p,_,rfl⟩:=List.mem_map.mp he;rfl⟩
def fg:List V:=[.F (H31.m ""),.F (H31.m ""),.F (H31.m ""),.F (H31.m "0"),.F (H31.m "1"),.F (H31.m ""),.F (H31.m "p"),.F (H31.m "q"),.F (H31.m "0"),.F (H31.m ""),.F (H31.m ""),.F (H31.m "p"),.F (H31.m "NaN"),.F (H31.m "01"),.F (H31.m "-1")]
def pW (a:Nat):PySem.Str:=match oq a with|some x=>x|none=>H31.m ""
theorem vZ:∀a<15,fg[a]?=some (.F (pW a))∧decide (pW a=H31.m "")=(oq a).isNone:=by decide
theorem wG (l:List PySem.Str):(l.map V.F).all (V.e 0)=true:=by
 induction l with
 |nil=>rfl
 |cons a r ih=>trivial
theorem IW (a:PySem.Str)(l:List PySem.Str){B:Bool→Prop} :gb (.F a) (l.map V.F) B=B (decide (a∈l)):=by have h1:V.e 0 (.F a)=true:=rfl;unfold gb;rw [wG,h1];simp
def mP (d:Nat)(tx nm:Option Nat)(sr:Nat):V:=.B [.y d,.j (gF tx),.j (gF nm),.y sr]
theorem xJ (o:Option Nat):decide (gF o≥0)=o.isSome:=by
 cases o with
 |none=>rfl
 |some x=>rfl
theorem MW {d sr a:Nat}{names:List (PySem.Str×Nat)}{tx nm:Option Nat}(h:aY H τ)(hd:H[d]?=some (.i (bQ names)))(ha:a<15)(q:∀H',au 0 H H' τ τ→Q (.j (gF (hM (fL names tx nm) tx nm true a))) H'):X.w (n+1) 97 [mP d tx nm sr,.j (a:Int)] H Q:=by
 apply aC.hV rfl (Nat.le_refl _) (Nat.le_refl _);show wS _ _ [some (.B _),some _,none,none,none,none,none] _ _;unfold rU;simp! [fo,xJ];have h5:decide ((a:Int)=5)=decide (a=5):=by congr 1;rw [eq_iff_iff];omega
 have h9:decide ((a:Int)=9)=decide (a=9):=by congr 1;rw [eq_iff_iff];omega
 rw [h5,h9];by_cases a5:a=5
 ·have q:=q H (.aD h);have e:hM (fL names tx nm) tx nm true 5=if nm.isSome=true then nm else tx:=by rfl
  grind
 simp [a5,if_false];by_cases a9:a=9
 ·subst a9;have q:=q H (.aD h);trivial
 simp [a9,if_false];obtain⟨n1,n2⟩:=vZ a ha;have G1:au 0 H (H++[ag.f fg]) τ τ:=(au.aD h).Y _;have q:=q _ G1;have es:∀ {F:V→Prop},aF (.y H.length) _ _ F=F _:=fun{F} =>fw ae n1 (by omega);apply es.mpr;have hd1:(H++[ag.f fg])[d]?=some _:=af hd;simp! [n2];cases ht:oq a with
 |none=>
  have e:hM (fL names tx nm) tx nm true a=none:=by unfold hM;rw [ht];simp [a5,a9]
  rw [e] at q;trivial
 |some x=>
  have ex:pW a=x:=by unfold pW;rw [ht]
  have e:hM (fL names tx nm) tx nm true a=fL names tx nm x:=by unfold hM;rw [ht]
  rw [e] at q;simp [ex];have ein:∀ {B:Bool→Prop},aI .jm (.F x) (.y d) (H++[ag.f fg]) B=B (names.lookup x).isSome:=fun{B} =>by show jH _ (.y d) _ B=_;simp [jH,hd1,kR,true_and,ju];cases names.lookup x<;>rfl
  show aI .jm _ _ (H++[ag.f fg]) _;rw [ein];unfold fL at q;cases hlk:names.lookup x with
  |some b=>
   rw [hlk] at q;have esub:∀ {F:V→Prop},aF (.y d) (.F x) (H++[ag.f fg]) F=F _:=fun{F} =>by simp [aF,hd1,kR,true_and,ju,hlk];rfl
   show aF (.y d) (.F x) (H++[ag.f fg]) _;rw [esub];exact q
  |none=>
   rw [hlk] at q;cases nm with
   |none=>simp at q ⊢;exact q
   |some y=>
    have e4:∀ {B:Bool→Prop},gb _ [.F _,.F _,.F _,.F _] B=B (m7 x):=fun{B} =>IW x [H31.m "0",H31.m "1",H31.m "NaN",H31.m "-1"];rw [e4];cases hn:m7 x with
    |true=>rw [hn] at q;trivial
    |false=>rw [hn] at q;trivial
end
theorem rL (l:List Nat):(V.B (ns l)).bG=true:=by
 induction l with
 |nil=>rfl
 |cons a r ih=>trivial
theorem Kt (o:Option Nat):decide (gF o<0)=o.isNone:=by
 cases o with
 |none=>rfl
 |some x=>rfl
theorem IJ {f:PySem.Str→Option Nat}{tx nm:Option Nat}{own:Bool}{a:Nat} :hM f tx nm own a=if(own=false∧(a=5∨a=9)) then none else hM f tx nm true a:=by
 unfold hM;cases ht:oq a with
 |some x=>simp only;rw [if_neg];rintro⟨_,rfl|rfl⟩<;>simp [oq] at ht
 |none=>grind
def wL (f:PySem.Str→Option Nat)(tx nm:Option Nat)(base:Int)(own:Bool)(as:List Nat):Option Nat:=if 0≤base∧as≠ [] ∧(own=true∨base<2) then cL (hM f tx nm own) as 32767 else none
section
variable {H H':AH}{ρ ρ':Rs}{τ τ':Tb}{F:V→Prop}{Q:az}{n k m:Nat}
theorem rB {g:Nat}{as:List Nat}(e:H[g]?=some (.f (ns as))){B:Bool→Prop} :aI .ne (.y g) (.y H.length) (H++[ag.f []]) B=B (!as.isEmpty):=by have e1:(H++[ag.f []])[g]?=some _:=af e;have e3:(V.B []).bG=true:=rfl;simp [aI,qo,e1,rL,e3];cases as<;>simp
theorem te {tb ga d sr:Nat}{base:Int}{own:Bool}{as:List Nat}{names:List (PySem.Str×Nat)}{tx nm:Option Nat}(h:aY H τ)(hga:H[ga]?=some (.f (ns as)))(hga2:10<ga)(has:∀a∈as,a<15)(hb:base<2^20)
 (hok:0≤base→(own=true∨base<2)→∃tbs,H[tb]?=some (.f tbs)∧10<tb∧tbs[base.toNat]?=some (mP d tx nm sr)∧H[d]?=some (.i (bQ names))∧10<d)
 (q:∀H',au 0 H H' τ τ→Q (.j (gF (wL (fL names tx nm) tx nm base own as))) H'):X.w (n+2) 104 [.y tb,.j base,.D own,.y ga] H Q:=by
 delta jh
 have loop:∀ {H1:AH} {st:Option Nat},au 0 H H1 τ τ→(match st with|none=>wL (fL names tx nm) tx nm base own as=none|some y=>0≤base∧(own=true∨base<2)∧wL (fL names tx nm) tx nm base own as=cL (hM (fL names tx nm) tx nm own) as y)→wS (X.b (n+1)) (.fq 5 (.h 3) (.H 6 (.bA (.bH .ge (.h 4) (.k (.j 0))) (.w 97 (.cons (.z (.h 0) (.h 1)) (.cons (.h 5) (.m)))) (.k (.j (-1)))) (.H 4 (.bA (.pK (.cons (.bH .lt (.h 6) (.k (.j 0))) (.cons (.dy (.cons (.bH .jm (.h 5) (.B (.cons (.k (.j 5)) (.cons (.k (.j 9)) (.m))))) (.cons (.gH (.h 2)) (.m)))) (.m)))) (.k (.j (-1))) (.hY .qS (.h 4) (.h 6))) (.V))) (.bL (.h 4)))
   [some (.y tb),some (.j base),some (.D own),some (.y ga),some (.j (gF st)),none,none] H1 (bX Q):=by
  intro H1 st G1 hst
  have hi:aG (.y ga) H1=some (ns as,some (ga,ns as)):=by simp only [aG,G1.N.kp _ _ hga (.inr hga2)]
  simp! [hi]
  refine br (fun vs env H2=>∃dn rest st x y,vs=ns rest∧as=dn++rest∧env=[some (.y tb),some (.j base),some (.D own),some (.y ga),some (.j (gF st)),x,y] ∧au 0 H H2 τ τ∧(st=none→wL _ tx nm base own as=none)∧∀y,st=some y→0≤base∧(own=true∨base<2)∧wL _ tx nm base own as=cL _ rest y) ?_ ?_
   ⟨[],as,st,none,none,rfl,rfl,rfl,G1,fun e=>by subst e;exact hst,fun y e=>by subst e;exact hst⟩
  ·rintro _ r _ H2 ⟨dn,rest,st,x,y,e,hd,rfl,G2,hs1,hs2⟩;refine⟨G2.N.kp _ _ hga (.inr hga2),fun q' qn _=>?_⟩;cases rest with
   |nil=>cases e
   |cons a rest=>
    cases e;have e59:∀ {H:AH} {B:Bool→Prop},gb _ [.j 5,.j 9] B=B _:=fun{H B} =>uL a [5,9];cases st with
    |none=>exact(qn _ _ ⟨dn++[a],rest,none,_,_,rfl,by rw [hd];simp,rfl,G2,hs1,(by simp)⟩).1
    |some y0=>
     obtain⟨hb0,hown,hw⟩:=hs2 y0 rfl;obtain⟨tbs,ht,ht2,htb,hdd,hd2⟩:=hok hb0 hown;have esub:∀ {F:V→Prop},aF (.y tb) (.j base) H2 F=F _:=fun{F} =>by rw [aA _ _ (G2.N.kp _ _ ht (.inr ht2)),show base=((base.toNat)) from(Int.toNat_of_nonneg hb0).symm];exact cz _ htb (by omega)
     simp! [esub];refine X.x (MW (n:=n) (sr:=sr) (tx:=tx) (nm:=nm) G2.R (G2.N.kp _ _ hdd (.inr hd2)) (has a (by rw [hd];simp)) fun H3 G3=>?_) (by omega);have G23:=G2.trans G3 (by omega:0+0≤0);simp! [Kt,e59 (H:=H3)];have hka:=IJ (f:=fL names tx nm) (tx:=tx) (nm:=nm) (own:=own) (a:=a);have hwf:cL _ (a::rest) y0=match hM (fL names tx nm) tx nm own a with|none=>none|some z=>cL _ rest (y0&&&z):=rfl
     cases ho:hM _ tx nm true a with
     |none=>
      have hk0:hM (fL names tx nm) tx nm own a=none:=by rw [hka,ho];simp
      rw [hk0] at hwf;exact(qn _ _ ⟨dn++[a],rest,none,_,_,rfl,by rw [hd];simp,rfl,G23,fun _=>by rw [hw,hwf],(by simp)⟩).1
     |some z=>
      have hm59:a∈ [5,9] ↔a=5∨a=9:=by simp
      by_cases h59:a∈ [5,9] ∧own=false
      ·obtain⟨hin,hof⟩:=h59;subst hof;have hk0:hM (fL names tx nm) tx nm false a=none:=by rw [hka,if_pos ⟨rfl,hm59.mp hin⟩]
       rw [hk0] at hwf;simp [hin];exact(qn _ _ ⟨dn++[a],rest,none,_,_,rfl,by rw [hd];simp,rfl,G23,fun _=>by rw [hw,hwf],(by simp)⟩).1
      ·have hk0:hM (fL names tx nm) tx nm own a=some z:=by rw [hka,if_neg (fun w=>h59 ⟨hm59.mpr w.2,w.1⟩),ho]
       rw [hk0] at hwf;have fin:=(qn _ _ ⟨dn++[a],rest,some _,some (.j (a)),some (.j (z)),rfl,by rw [hd];simp,rfl,G23,(by simp),fun y e=>by cases e;exact⟨hb0,hown,by rw [hw,hwf]⟩⟩).1;by_cases hin:a∈ [5,9]
       ·have hown':own=true:=by
         cases own with
         |true=>rfl
         |false=>exact absurd ⟨hin,rfl⟩ h59
        subst hown';simp;exact fin
       ·simp [hin];exact fin
  ·rintro _ H2 ⟨dn,rest,st,x,y,e,hd,rfl,G2,hs1,hs2⟩;have:rest=[] :=by cases rest<;>first|rfl|cases e
   subst this;refine⟨G2.N.kp _ _ hga (.inr hga2),?_⟩;simp! [];have:=q H2 G2;cases st with
   |none=>grind
   |some y=>rw [(hs2 y rfl).2.2] at this;exact this
 have G0:au 0 H H τ τ:=.aD h
 have G1:au 0 H (H++[ag.f []]) τ τ:=G0.Y _
 have none_:=fun{H1} G e=>loop (H1:=H1) (st:=none) G e
 have some_:=fun(b:0≤base) (o) (e:as≠ [])=>loop (st:=some 32767) G1 ⟨b,o,by unfold wL;rw [if_pos ⟨b,e,o⟩]⟩
 have ene:∀ {B:Bool→Prop},aI .ne (.y ga) (.y H.length) _ B=B (!as.isEmpty):=fun{B} =>rB hga
 simp! [ene]
 by_cases hb0:0≤base
 ·simp only [show decide _=true from decide_eq_true hb0];cases has':as.isEmpty with
  |true=>have:=List.isEmpty_iff.mp has';exact none_ G1 (by unfold wL;rw [if_neg (fun z=>z.2.1 this)])
  |false=>
   have hne:as≠ [] :=fun e=>by rw [e] at has';trivial
   cases ho:own with
   |true=>subst ho;exact some_ hb0 (by simp) hne
   |false=>
    subst ho;by_cases h2:base<2
    ·simp only [h2];exact some_ hb0 (.inr h2) hne
    ·simp only [h2];exact none_ G1 (by unfold wL;rw [if_neg (fun z=>z.2.2.elim (by simp) h2)])
 ·simp only [show decide _=false from decide_eq_false hb0];exact none_ G0 (by unfold wL;rw [if_neg (by omega)])
end
theorem j1 {α:Type}{l:List α}{i:Nat}{x:α}(e:l[i]?=some x):i<l.length:=(List.getElem?_eq_some_iff.mp e).1
section
variable {H H':AH}{ρ ρ':Rs}{τ τ':Tb}{F:V→Prop}{Q:az}{n k m:Nat}
theorem dr {x:PySem.Str}{b:Int}(h:aY H τ)(hn:τ.M.length<2^18)(hb:τ.Z.length<2^18)
 (q:∀H' τ' i pid,Gr 1 H H' τ τ'→τ'.gh=τ.gh→τ'.aH=τ.aH→bj τ' i [.j 10,.j pid] →vm τ' pid b→(∀j r pid',bj τ j (.j 10::r)→r=[.j pid'] →∀b',vm τ pid' b'→j≠i)→Q (.j i) H'):X.w (n+2) 6 [.y 4,.F x,.j b,.j (-1)] H Q:=by
 refine aC.hV (f:=iG) rfl (Nat.le_refl _) (Nat.le_add_right 4 2) ?_
 show wS _ _ [some (.y 4),some (.F x),some (.j b),some (.j (-1)),none] _ _
 unfold iG
 obtain⟨ld,hd,hdl⟩:=h.dQ
 obtain⟨ln,hnm,hnl⟩:=h.names
 have n8:dK (.y 8) H=1:=bN _ h.Z
 simp! [h.ue,bh _ h.Z,n8,cS _ h.Z (by omega)]
 have i1:(H.set 8 (.f (τ.Z++[.j b])))[4]?=some (.J 1 lH):=aa h.J (by decide)
 have d1:(H.set 8 (.f (τ.Z++[.j b])))[9]?=some (.f ld):=aa hd (by decide)
 have g1:∀ {F},aX (.y 4) 4 (H.set 8 (.f (τ.Z++[.j b]))) F=F (.y 9):=fun{F} =>bO _ i1 (by decide) (by decide) rfl
 simp! [g1,bN _ d1,cS _ d1 (by omega)]
 have i2:((H.set 8 (.f (τ.Z++[.j b]))).set 9 (.f (ld++[.j (-1)])))[4]?=some (.J 1 lH):=aa i1 (by decide)
 have d2:((H.set 8 (.f (τ.Z++[.j b]))).set 9 (.f (ld++[.j (-1)])))[10]?=some (.f ln):=aa (aa hnm (by decide)) (by decide)
 have g2:∀ {F},aX (.y 4) 5 ((H.set 8 (.f (τ.Z++[.j b]))).set 9 (.f (ld++[.j (-1)]))) F=F (.y 10):=fun{F} =>bO _ i2 (by decide) (by decide) rfl
 simp! [g2,bN _ d2,cS _ d2 (by omega)]
 obtain⟨H3,hH3⟩:∃H3,H3=((H.set 8 (.f (τ.Z++[.j b]))).set 9 (.f (ld++[.j (-1)]))).set 10 (.f (ln++[.F x])):=⟨_,rfl⟩
 obtain⟨τ3,hτ3⟩:∃τ3:Tb,τ3= {τ with Z:=τ.Z++[.j b] } :=⟨_,rfl⟩
 have keep:∀(i:Nat) (o:ag),H[i]?=some o→i≠8→i≠9→i≠10→H3[i]?=some o:=fun i o e a b c=>by rw [hH3];exact aa (aa (aa e a) b) c
 have t3:aY H3 τ3:=by rw [hτ3];exact⟨keep _ _ h.J (by simp) (by simp) (by simp),keep _ _ h.M (by simp) (by simp) (by simp),keep _ _ h.i8 (by simp) (by simp) (by simp),keep _ _ h.aH (by simp) (by simp) (by simp),by rw [hH3];exact aa (aa (aj h.Z) (by simp)) (by simp),⟨ld++[.j (-1)],by rw [hH3];exact aa (aj d1) (by simp),by simp [hdl]⟩,⟨ln++[.F x],by rw [hH3];exact aj d2,by simp [hnl]⟩,let⟨l,a⟩:=h.Mk;⟨l,keep _ _ a (by simp) (by simp) (by simp)⟩,keep _ _ h.d (by simp) (by simp) (by simp),keep _ _ h.dZ (by simp) (by simp) (by simp),keep _ _ h.jK (by simp) (by simp) (by simp),keep _ _ h.sI (by simp) (by simp) (by simp),h.bG,h.W⟩
 have len3:H3.length=H.length:=by rw [hH3];simp
 rw [←hH3,t3.J]
 simp only [ng]
 refine⟨by decide,rfl,X.x (fb t3 (l:=[.j 10,.j (τ.Z.length:Int)]) rfl (by rw [hτ3];show τ.M.length<_;omega) fun H4 τ4 i G hrow=>?_) (by omega)⟩
 have gl:=G.U
 obtain⟨x4,hx4,hl4⟩:=G.M
 have bnds4:τ4.Z=τ.Z++[.j b] :=by rw [G.Z,hτ3]
 refine q H4 τ4 i (τ.Z.length:Int) ⟨G.R,⟨⟨x4,by rw [hx4,hτ3]⟩,⟨[],by rw [G.aH,hτ3];simp⟩,⟨[.j b],bnds4⟩⟩,by rw [hτ3] at gl;exact gl.2,by rw [bnds4];simp,by rw [G.aH,hτ3];show τ.aH.length≤_;omega,by rw [G.gh,hτ3];show τ.gh≤_;omega,fun j o e hj=>G.N.kp _ _ (keep j o e (by omega) (by omega) (by omega)) (by omega),by have:=G.N.U;omega⟩ (by rw [G.gh,hτ3]) (by rw [G.aH,hτ3]) hrow ⟨by omega,by omega,by rw [bnds4];simp⟩ fun j r pid' hj hr b' hb' e=>?_
 ·subst e hr;have hj4:bj τ4 j [.j 10,.j pid'] :=by refine⟨hj.1,hj.2.1,?_⟩;rw [hx4,hτ3,List.getElem?_append_left (j1 hj.2.2)];exact hj.2.2
  have:=hj4.bE hrow;simp at this;subst this;have:=hb'.2.2;simp at this
def fj (did kind:Int)(name:PySem.Str)(body:Int)(l1 l2:Nat):List (Nat×V):=[(11,.j did),(12,.j kind),(13,.F name),(14,.B []),(15,.j body),(16,.B []),(17,.j (-1)),(18,.j 0),(19,.D false),(20,.y l1),(21,.y l2),(22,.j 0),(23,.j 0),(24,.F (H31.m "")),(25,.j 0)]
theorem tK {did kind:Int}{x:PySem.Str}(q:Q .aE (H++[.J 2 (fj did kind x (-1) (H.length+1) (H.length+2)),.f [],.f []])):X.w (n+1) 4 [.y H.length,.j did,.j kind,.F x] (H++[.J 2 []]) Q:=by delta lY;simp! [];apply aK (by decide) (by decide) (by simp);simp [aL,List.nil_append];apply aK (by decide) (by decide) (by simp);simp [aL,Nat.reduceEqDiff,List.nil_append];apply aK (by decide) (by decide) (by simp);simp [aL,if_false,List.nil_append];apply aK (by decide) (by decide) (by simp);simp [aL,Nat.reduceEqDiff,if_false,List.nil_append];apply aK (by decide) (by decide) (by simp);simp [aL,List.nil_append];apply aK (by decide) (by decide) (by simp);simp [aL,Nat.reduceEqDiff,if_false,List.nil_append];apply aK (by decide) (by decide) (by simp);simp [aL,List.nil_append];apply aK (by decide) (by decide) (by simp);simp [aL,Nat.reduceEqDiff,if_false,List.nil_append];apply aK (by decide) (by decide) (by simp);simp only [aL,List.append_assoc,List.nil_append];rw [fU rfl];apply aK (by decide) (by decide) (by simp);simp only [aL,Nat.reduceEqDiff,if_false,List.append_assoc,List.nil_append];rw [fU rfl];apply aK (by decide) (by decide) (by simp);simp [aL,List.nil_append];apply aK (by decide) (by decide) (by simp);simp [aL,Nat.reduceEqDiff,if_false,List.nil_append];apply aK (by decide) (by decide) (by simp);simp [aL,List.nil_append];apply aK (by decide) (by decide) (by simp);simp [aL,Nat.reduceEqDiff,if_false,List.nil_append];apply aK (by decide) (by decide) (by simp);exact q
theorem oT {dl:List V}{kind:Int}{x:PySem.Str}(h4:H[4]?=some (.J 1 lH))(h7:H[7]?=some (.f dl))(hl:dl.length<2^20)
 (q:Q (.y H.length) ((H++[ag.J 2 (fj dl.length kind x (-1) (H.length+1) (H.length+2)),ag.f [],ag.f []]).set 7 (.f (dl++[.y H.length])))):X.w (n+2) 7 [.y 4,.j kind,.F x] H Q:=by
 delta nK
 have g1:∀ {F},aX _ 2 H F=F _:=fun{F} =>bO _ h4 (by simp) (by rfl) rfl
 simp! [g1,bh _ h7]
 refine X.x (tK (n:=n) ?_) (by omega)
 have old:∀(t:AH) (i:Nat) (o:ag),H[i]?=some o→(H++t)[i]?=some o:=fun t i o e=>by rw [List.getElem?_append_left (aM e)];omega
 have g2:∀ {F},aX _ 2 (H++[.J 2 (fj dl.length kind x (-1) (H.length+1) (H.length+2)),.f [],.f []]) F=F _:=fun{F} =>bO _ (old _ _ _ h4) (by simp) (by rfl) rfl
 have h7':=old [.J 2 (fj dl.length kind x (-1) (H.length+1) (H.length+2)),.f [],.f []] _ _ h7
 simp! [g2,bN _ h7',cS _ h7' hl]
 omega
theorem kS (q:Q (.y H.length) (H++[.f (ns [9,6,5,3,10,0,7,1,8,6,4,2,9])])):X.w (n+1) 91 [] H Q:=by apply aC.hV rfl (by simp) (Nat.le_refl _);trivial
theorem uk (q:Q (.y H.length) (H++[.f (ns [6,7,8,3,11,6,7,8,6,7,3,6,9,5,4,12,13,14,2,10])])):X.w (n+1) 92 [] H Q:=by apply aC.hV rfl (by simp) (Nat.le_refl _);trivial
end
abbrev Ad:=Nat→ag→Prop
def Na (H:AH)(L:Nat):Ad:=fun i o=>H[i]?=some o∧L≤i∧10<i
def Wa (H:AH)(ρ:Rs):Ad:=fun i o=>H[i]?=some o∧10<i∧i∉ρ.l
def bY (id:Int)(g:Nat)(as:List Nat)(ga:Nat)(fr:Bool):V:=.B [.j id,bc g (ah as),.y ga,.D fr]
structure Ky (A:Ad) (τ:Tb) (kid:Int→Int) (id:Int) (g:Nat) (S:List Int) (ga:Nat) (as bs:List Nat) (p:Nat) (fr:Bool):Prop where
 t7:A g (.f (zs S))
 qU:A ga (.f (ns as))
 Oe:qJ as
 set:∀a,a∈bs↔a∈as
 wf:Wf bs
 tm:Tm τ id (S.map kid) bs p
 p2:p≤2
 U:bs.length≤4
 xk:∀x∈S,x=20∨x=21
 A4:(fr=false∧∃A4,sC τ id A4∧Kd τ A4 bs)∨(fr=true∧∃A4 pid,sC τ id A4∧bj τ A4 [.j 10,.j pid])
theorem mA {as bs:List Nat}(hn:bs.Nodup)(h:∀a,a∈bs↔a∈as):bs.length≤as.length:=by
 induction bs generalizing as with
 |nil=>simp
 |cons b r ih=>
  have hb:=(h b).mp (by simp);have hl:(as.filter fun x=>x !=b).length<as.length:=by simp_all
  grind
theorem qJ.Ma {as bs:List Nat}(h:qJ as)(e:∀a,a∈bs↔a∈as)(hn:bs.Nodup)(hu:10∈bs→bs=[10]):Wf bs:=
 ⟨fun a ha=>h.wf.ok a ((e a).mp ha),hu,fun z=>by have:=h.lt 16 ((e 16).mp z);omega⟩
section
variable {H H':AH}{ρ ρ':Rs}{τ τ':Tb}{F:V→Prop}{Q:az}{n k m:Nat}
theorem dY.Ms (g:dY τ τ'){key idx:Int}(h:sC τ key idx):sC τ' key idx:=
 h.imp (fun⟨b,kt,r,c,d⟩=>⟨b,kt,r,g.I c,d⟩) fun⟨pid,x,c,d,e⟩=>⟨pid,x,g.I c,g.sM d,e⟩
theorem Ky.P {A A':Ad}{kid:Int→Int}{id:Int}{g:Nat}{S:List Int}{ga:Nat}{as bs:List Nat}{p:Nat}{fr:Bool}(h:Ky A τ kid id g S ga as bs p fr)(hA:∀i o,A i o→A' i o)(le:dY τ τ'):Ky A' τ' kid id g S ga as bs p fr:=
 ⟨hA _ _ h.t7,hA _ _ h.qU,h.Oe,h.set,h.wf,h.tm.P le,h.p2,h.U,h.xk,h.A4.imp (fun⟨a,idx,b,c⟩=>⟨a,idx,le.Ms b,le.kd c⟩) fun⟨a,idx,pid,b,c⟩=>⟨a,idx,pid,le.Ms b,le.I c⟩⟩
theorem Gr.na {c L:Nat}(G:Gr c H H' τ τ'):∀i o,Na H L i o→Na H' L i o:=fun i o ⟨a,b,c⟩=>⟨G.N i o a (by omega),b,c⟩
theorem Gr.wa {c:Nat}(G:Gr c H H' τ τ'):∀i o,Wa H ρ i o→Wa H' ρ i o:=fun i o ⟨a,b,c⟩=>⟨G.N i o a (by omega),b,c⟩
theorem Mv.wa (M:Mv H H' τ τ' ρ ρ'):∀i o,Wa H ρ i o→Wa H' ρ' i o:=fun i o ⟨a,b,c⟩=>let⟨x,y⟩:=M.N i o a (by omega) c;⟨x,b,y⟩
theorem aq.lt (h:aq H ρ):∀p∈ρ.l,p<H.length:=fun p hp=>by
 simp [Rs.l,or_false] at hp;rcases hp with rfl|rfl|rfl|rfl|rfl|rfl
 ·exact aM h.J
 ·exact aM h.n
 ·exact aM h.bk
 ·exact aM h.G
 ·exact aM h.aP
 ·exact aM h.aO
theorem aq.na {H0:AH}(h:aq H0 ρ):∀i o,Na H H0.length i o→Wa H ρ i o:=fun i o ⟨a,b,c⟩=>⟨a,c,fun z=>by have:=h.lt i z;omega⟩
theorem fM {b:Int}(h:0≤b)(h0:b≠0):hO b=b:=if_neg (by omega)
theorem Kd.sM {b:Int}{bs:List Nat}(std:du τ)(h:Kd τ b bs):hO b=b:=fM h.nn (h.tm.cm std).1
theorem rD (h:aY H τ)(std:du τ)(hb:Bd τ k)(hk:k+20<2^18)
 (q:∀H' τ' b ga as bs,Gr 10 H H' τ τ'→Na H' H.length ga (.f (ns as))→qJ as→Kd τ' (hO b) bs→(∀a,a∈bs↔a∈as)→Q (.B [.j b,.y ga]) H'):X.w (n+5) 100 [.y 3,.y 4] H Q:=by
 apply aC.hV rfl (Nat.le_refl _) (Nat.le_refl _)
 show wS _ _ [some _,some _,none,none] _ _
 have hlen:=h.U
 refine X.x (cA (n:=n) h (by simp) (by have:=hb.2.2.2;omega) fun H1 τ1 v G1 r1 b1 d1 hv0 hv1=>?_) (by omega)
 have l1:=G1.U
 have std1:=G1.cR std
 simp! [ip v 5 (by simp)]
 by_cases h4:v%5=4
 ·simp [h4];exact q _ _ _ _ [10] [10] ((G1.Y _).P (by omega)) ⟨ae,l1,by omega⟩ ⟨by simp,by simp,by simp,by simp⟩ ((std1.at rfl).kd std1) (by simp)
 simp [h4]
 have fin:∀H2 (ga:Nat) (as:List Nat),Gr 1 H H2 τ τ1→qJ as→H.length≤ga→H2[ga]?=some _→X.w (n+4) 95 _ H2 fun v H=>Q (.B [v,.y ga]) H:=fun H2 ga as G2 hf hga0 hga=>by refine X.x (iQ (n:=n) G2.R std1 hga (by omega) hf (by have:=(G2.bd hb (Nat.le_refl _)).1;omega) fun H3 τ3 t bs G3 kd hs=>q H3 τ3 t ga as bs (G2.trans G3.gr (by omega:1+5≤10)) ⟨G3.N.kp _ _ hga (by omega),hga0,by omega⟩ hf ?_ hs) (by omega);rw [kd.sM (G3.cR std1)];omega
 by_cases h3:v%5=3
 ·simp [h3];exact fin _ _ [] (G1.Y _) qJ.m l1 ae
 ·simp [h3];refine X.x (uk (n:=n) ?_) (by omega);simp! [fC v 5 (by omega)];have Gw:=G1.Y (.f (ns [6,7,8,3,11,6,7,8,6,7,3,6,9,5,4,12,13,14,2,10]));refine X.x (o9 (n:=n) Gw.R ae (by omega) (by simp) (by simp) (by simp) (by omega) (by simp) (by simp) fun H2 ga as G2 hf hga0 hga _=>?_) (by omega);have:=Gw.U;exact fin H2 ga as (Gw.trans G2.gr (by omega)) hf (by omega) hga
theorem IA (h:aY H τ)(std:du τ)(hb:Bd τ k)(hk:k+40<2^18)
 (q:∀H' τ' gk (kid:Int→Int) i1 g1 S1 ga1 as1 bs1 p1 i2 g2 S2 ga2 as2 bs2 p2 fr2,Gr 40 H H' τ τ'→Na H' H.length gk (.f [bY i1 g1 as1 ga1 false,bY i2 g2 as2 ga2 fr2])→kid 20≠kid 21→Ky (Na H' H.length) τ' kid i1 g1 S1 ga1 as1 bs1 p1 false→Ky (Na H' H.length) τ' kid i2 g2 S2 ga2 as2 bs2 p2 fr2→Q (.y gk) H'):X.w (n+6) 101 [.y 3,.y 4] H Q:=by
 refine aC.hV (f:=nN) rfl (Nat.le_refl _) (Nat.le_refl _) ?_
 show wS _ _ [some (.y 3),some (.y 4),none,none,none,none,none,none] _ _
 have hlen:=h.U
 try simp_arith []
 refine X.x (rD (n:=n) h std hb (by omega) fun H1 τ1 b ga as bs G1 hga hf kd hs=>?_) (by omega)
 have bd1:=G1.bd hb (Nat.le_refl _)
 try simp_arith []
 refine X.x (dr (n:=n) G1.R (by have:=bd1.1;omega) (by have:=bd1.2.1;omega) fun H2 τ2 P pid G2 _ _ hP hPb hPn=>?_) (by omega)
 have G12:=G1.trans G2 (by omega:10+1≤11)
 try simp_arith []
 refine X.x (cA (n:=n) G2.R (by decide) (by have:=(G12.bd hb (Nat.le_refl _)).2.2.2;omega) fun H3 τ3 v G3 _ _ _ hv0 hv1=>?_) (by omega)
 have G13:=G12.trans G3 (by omega:11+1≤12)
 have bd3:=G13.bd hb (Nat.le_refl _)
 have std3:=G13.cR std
 have hP3:=G3.le.I hP
 have hPb3:=G3.le.sM hPb
 have kd3:=(G2.le.trans G3.le).kd kd
 have tmP:Tm τ3 P [P] bs 1:=.hU hP3 hPb3 kd3.tm
 have hga3:=G3.na _ _ (G2.na _ _ hga)
 have hbl:=Nat.le_trans (mA kd.W hs) hf.U
 try simp_arith []
 have first:∀ {H4:AH} {τ4:Tb} {c:Nat} (kid:Int→Int),kid 20=P→Gr c H3 H4 τ3 τ4→∀g,Na H4 H.length g (.f (zs [20]))→Ky (Na H4 H.length) τ4 kid P g [20] ga as bs 1 false:=fun{H4 τ4 c} kid hk20 G g hg=>⟨hg,G.na _ _ hga3,hf,hs,hf.Ma hs kd.W kd.vn,by rw [show List.map kid [20] =[P] by simp [hk20]];exact tmP.P G.le,by decide,hbl,fun x hx=>by simp at hx;exact .inl hx,.inl ⟨rfl,hO b,.inr ⟨pid,b,G.le.I hP3,G.le.sM hPb3,rfl⟩,G.le.kd kd3⟩⟩
 by_cases hv:v=0
 ·simp only [hv,decide_true,if_true];refine X.x (dr (n:=n) G3.R (by have:=bd3.1;omega) (by have:=bd3.2.1;omega) fun H4 τ4 Qi qid G4 _ _ hQ hQb hQn=>?_) (by omega);have hPQ:P≠Qi:=hQn P _ pid hP3 rfl b hPb3;have l14:=(G13.trans G4 (by omega:12+1≤13)).U;have Ga:Gr 1 H3 (H4++[ag.f (zs [21,20])]) τ3 τ4:=G4.Y _;have hga4:=G4.na _ _ hga3;try simp_arith []
  refine X.x (fV (n:=n) (as:=as) Ga.R (af hga4.1) hga4.2.2 hf.lt fun H5 G5=>?_) (by omega);try simp_arith []
  have Gc:Gr 1 H3 (H5++[ag.f (zs [20])]) τ3 τ4:=(Ga.trans G5.gr (by omega:1+0≤1)).Y _;have g21:=G5.N.kp _ _ ae (.inr (by omega));refine X.x (fV (n:=n) (as:=as) Gc.R (af (G5.N.kp _ _ (af hga4.1) (.inr hga4.2.2))) hga4.2.2 hf.lt fun H6 G6=>?_) (by omega);have l56:=G6.N.U;have l45:=G5.N.U;simp only [List.length_append] at l56 l45;have g20:=G6.N.kp _ _ ae (.inr (by omega));have g21':=G6.N.kp _ _ (af g21) (.inr (by omega));try simp_arith []
  have Ge:=(Gc.trans G6.gr (by omega:1+0≤1)).Y (.f [bY P H5.length as ga false,bY Qi H4.length as ga true]);have n20:Na (H6++[ag.f [bY P H5.length as ga false,bY Qi H4.length as ga true]]) H.length H5.length (.f (zs [20])):=⟨af g20,by omega,by omega⟩;have n21:Na (H6++[ag.f [bY P H5.length as ga false,bY Qi H4.length as ga true]]) H.length H4.length _:=⟨af g21',by omega,by omega⟩;refine q _ τ4 H6.length (fun x=>if x=20 then P else Qi) P H5.length [20] ga as bs 1 Qi H4.length [21,20] ga as bs 2 true (G13.trans Ge (by omega)) ⟨ae,by omega,by omega⟩ (by simpa using hPQ) (first _ (by simp) Ge _ n20) ⟨n21,Ge.na _ _ hga3,hf,hs,hf.Ma hs kd.W kd.vn,?_,by decide,hbl,fun x hx=>by simp at hx;omega,.inr ⟨rfl,P,pid,.inr ⟨qid,P,hQ,hQb,(fM hP3.1 (fun e=>by have:=hP3.dz std3 (by simp);rw [e] at this;exact this (by simp))).symm⟩,G4.le.I hP3⟩⟩
  ·have hPp:=fM hP3.1 (fun e=>by have:=hP3.dz std3 (by simp);rw [e] at this;exact this (by simp));have:Tm τ4 (hO P) [P] bs 1:=by rw [hPp];exact tmP.P G4.le
   exact .hU hQ hQb this
 ·simp only [hv,decide_false,if_false];refine X.x (rD (n:=n) G3.R std3 bd3 (by omega) fun H4 τ4 b2 ga2 as2 bs2 G4 hga2 hf2 kd2 hs2=>?_) (by omega);have bd4:=(G13.trans G4 (by omega:12+10≤22)).bd hb (Nat.le_refl _);have l3:=G13.U;try simp_arith []
  refine X.x (dr (n:=n) G4.R (by have:=bd4.1;omega) (by have:=bd4.2.1;omega) fun H5 τ5 Qi qid G5 _ _ hQ hQb hQn=>?_) (by omega);have hPQ:P≠Qi:=hQn P _ pid (G4.le.I hP3) rfl b (G4.le.sM hPb3);have G35:=G4.trans G5 (by omega:10+1≤11);have l35:=G35.U;have Ga:Gr 11 H3 (H5++[ag.f (zs [21])]) τ3 τ5:=G35.Y _;have hga2':=G5.na _ _ hga2;try simp_arith []
  refine X.x (fV (n:=n) (as:=as2) Ga.R (af hga2'.1) hga2'.2.2 hf2.lt fun H6 G6=>?_) (by omega);have l56:=G6.N.U;simp only [List.length_append] at l56;have g21:=G6.N.kp _ _ ae (.inr (by omega));have hga5:=G35.na _ _ hga3;try simp_arith []
  have Gc:Gr 11 H3 (H6++[ag.f (zs [20])]) τ3 τ5:=(Ga.trans G6.gr (by omega:11+0≤11)).Y _;refine X.x (fV (n:=n) (as:=as) Gc.R (af (G6.N.kp _ _ (af hga5.1) (.inr hga5.2.2))) hga5.2.2 hf.lt fun H7 G7=>?_) (by omega);have l67:=G7.N.U;simp only [List.length_append] at l67;have g20:=G7.N.kp _ _ ae (.inr (by omega));have g21':=G7.N.kp _ _ (af g21) (.inr (by omega));have hg2':=G7.N.kp _ _ (af (G6.N.kp _ _ (af hga2'.1) (.inr hga2'.2.2))) (.inr hga2'.2.2);try simp_arith []
  have Ge:=(Gc.trans G7.gr (by omega:11+0≤11)).Y (.f [bY P H6.length as ga false,bY Qi H5.length as2 ga2 false]);have n20:Na (H7++[ag.f [bY P H6.length as ga false,bY Qi H5.length as2 ga2 false]]) H.length H6.length (.f (zs [20])):=⟨af g20,by omega,by omega⟩;have n21:Na (H7++[ag.f [bY P H6.length as ga false,bY Qi H5.length as2 ga2 false]]) H.length H5.length (.f (zs [21])):=⟨af g21',by omega,by omega⟩;have kd5:=G5.le.kd kd2;exact q _ τ5 H7.length (fun x=>if x=20 then P else Qi) P H6.length [20] ga as bs 1 Qi H5.length [21] ga2 as2 bs2 1 false (G13.trans Ge (by omega)) ⟨ae,by omega,by omega⟩ (by simpa using hPQ) (first _ (by simp) Ge _ n20) ⟨n21,⟨af hg2',by have:=hga2'.2.1;omega,hga2'.2.2⟩,hf2,hs2,hf2.Ma hs2 kd2.W kd2.vn,.hU hQ hQb kd5.tm,by decide,Nat.le_trans (mA kd2.W hs2) hf2.U,fun x hx=>by simp at hx;omega,.inl ⟨rfl,hO b2,.inr ⟨qid,b2,hQ,hQb,rfl⟩,kd5⟩⟩
end
theorem I0:∀a<16,aW a∉lC:=by decide
theorem Kd.d5 {τ:Tb}(std:du τ){t:Int}{bs:List Nat}(h:Kd τ t bs):∃kt r,bj τ t (.j kt::r)∧kt∉lC:=by
 obtain⟨l,p,a⟩:=h.ex;cases p with
 |o=>exact⟨1,_,std.I (by simp) (by simp) rfl,by simp⟩
 |ba _ _ r=>exact⟨6,_,r,by simp⟩
 |mn _ _ r=>cases a with
  |cons x _=>exact⟨_,_,x.eM,I0 _ x.lt⟩
section
variable {H H':AH}{ρ ρ':Rs}{τ τ':Tb}{F:V→Prop}{Q:az}{n k m:Nat}
theorem df {l:List Int}{v:Int}(h0:0≤v)(h1:v.toNat<l.length)(h2:l.length<2^20):aF (.B (zs l)) (.j v) H F=F (.j (l.getD v.toNat 0)):=by obtain⟨i,rfl⟩:∃i:Nat,v=i:=⟨v.toNat,by omega⟩;refine cz H ?_ (by omega);grind
theorem Jv (x y:Int):cw .z (.j x) (.j y) H Q=Q (.j (x-y)) H:=rfl
theorem wo {ga:Nat}{as:List Nat}(w:W H τ ρ k m)(hga:Wa H ρ ga (.f (ns as)))(hf:qJ as)(hk:k+10≤19000)
 (q:∀H' τ' t g bs,Gr 5 H H' τ τ'→Wa H' ρ g (.f [])→Kd τ' t bs→(∀a,a∈bs↔a∈as)→Q (.B [.j t,bc g (ah as)]) H'):
 X.w (n+4) 95 [.y 4,.y ga] H fun v H=>X.w (n+4) 94 [.y ga] (H++[.f []]) fun v_1 H_1=>Q (.B [v,.B [.y H.length,v_1]]) H_1:=by
 have wb:=w.bd.1
 refine X.x (iQ (n:=n) w.R w.cR hga.1 hga.2.1 hf (by omega) fun H1 τ1 t bs G1 kd hs=>?_) (by omega)
 have Ga:Gr 5 H (H1++[ag.f []]) τ τ1:=G1.gr.Y _
 have l1:=G1.N.U
 refine X.x (fV (n:=n) Ga.R (af (G1.gr.wa _ _ hga).1) hga.2.1 hf.lt fun H2 G2=>?_) (by omega)
 have hl:=w.R.U
 exact q H2 τ1 t _ bs (Ga.trans G2.gr (by omega)) (w.bC.na _ _ ⟨G2.N.kp _ _ ae (by omega),l1,by omega⟩) kd hs
theorem yy {gk:Nat}{kid:Int→Int}{i1:Int}{g1:Nat}{S1:List Int}{ga1:Nat}{as1 bs1:List Nat}{p1:Nat}{i2:Int}{g2:Nat}{S2:List Int}{ga2:Nat}{as2 bs2:List Nat}{p2:Nat}{fr2:Bool}(w:W H τ ρ k m)(hgk:Wa H ρ gk (.f [bY i1 g1 as1 ga1 false,bY i2 g2 as2 ga2 fr2]))
 (k1:Ky (Wa H ρ) τ kid i1 g1 S1 ga1 as1 bs1 p1 false) (k2:Ky (Wa H ρ) τ kid i2 g2 S2 ga2 as2 bs2 p2 fr2) (hk:k+20≤19000)
 (q:∀H' τ' id g S ga as bs p fr,Gr 10 H H' τ τ'→Ky (Wa H' ρ) τ' kid id g S ga as bs p fr→Q (bY id g as ga fr) H'):X.w (n+5) 102 [.y 3,.y 4,.y gk] H Q:=by
 apply aC.hV rfl (Nat.le_refl _) (Nat.le_refl _)
 show wS _ _ [some _,some _,some _,none,none,none] _ _
 have h:=w.R
 have hb:=w.bd
 have hl:=h.U
 refine X.x (cA (n:=n) h (by simp) (by have:=hb.2.2.2;omega) fun H1 τ1 v G1 _ _ _ hv0 hv1=>?_) (by omega)
 have hgk1:=G1.wa _ _ hgk
 simp! [Jv]
 by_cases hv:v>1
 ·have:v=2∨v=3:=by omega
  rcases this with rfl|rfl
  ·rw [show(2:Int)-2=(0:Nat) from rfl,fw hgk1.1 rfl (by simp)];exact q H1 τ1 _ _ _ _ _ _ _ _ (G1.P (by omega)) (k1.P G1.wa G1.le)
  ·rw [show 3-2=((1:Nat):Int) from rfl,fw hgk1.1 rfl (by simp)];exact q H1 τ1 _ _ _ _ _ _ _ _ (G1.P (by omega)) (k2.P G1.wa G1.le)
 simp [hv]
 refine X.x (cA (n:=n) G1.R (by simp) (by have:=hb.2.2.2;have:=G1.gh;omega) fun H2 τ2 c G2 _ _ _ hc0 hc1=>?_) (by omega)
 have G12:=G1.trans G2 (by omega:1+1≤2)
 simp! [ip c 40 (by simp)]
 have fin:∀H3 (ga:Nat) (as:List Nat),Gr 2 H H3 τ τ2→qJ as→Wa H3 ρ ga _→X.w (n+4) 95 _ H3 fun v H=>X.w (n+4) 94 [.y ga] (H++[.f []]) fun v_1 H_1=>Q (.B [v,.B [.y H.length,v_1],.y ga,.D false]) H_1:=fun H3 ga as G3 hf hga=>by have w3:=w.gr (n:=k+2) G3 (by omega);exact X.P (wo (Q:=fun v H=>match v with| .B [a,b] =>Q (.B [a,b,.y ga,.D false]) H|_=>False) w3 hga hf (by omega) fun H4 τ4 t g bs G4 hg kd hs=>q H4 τ4 t g [] ga as bs 0 _ (G3.trans G4 (by omega)) ⟨hg,G4.wa _ _ hga,hf,hs,hf.Ma hs kd.W kd.vn,kd.tm,by simp,Nat.le_trans (mA kd.W hs) hf.U,by simp,.inl ⟨rfl,t,.inl ⟨rfl,kd.d5 (G4.cR w3.cR)⟩,kd⟩⟩) (by simp)
 by_cases h39:c%40=39
 ·simp [h39];exact fin _ _ [] (G12.Y _) qJ.m (w.bC.na _ _ ⟨ae,by have:=G12.U;omega,by have:=G12.U;omega⟩)
 ·simp [h39];refine X.x (uk (n:=n) ?_) (by omega);have Gw:=G12.Y (.f (ns [6,7,8,3,11,6,7,8,6,7,3,6,9,5,4,12,13,14,2,10]));have l12:=G12.U;refine X.x (o9 (n:=n) Gw.R ae (by omega) (by simp) (by simp) (by simp) hc0 (by simp) (by simp) fun H3 ga as G3 hf hga0 hga _=>?_) (by omega);have lw:=Gw.U;exact fin H3 ga as (Gw.trans G3.gr (by omega:2+0≤2)) hf (w.bC.na _ _ ⟨hga,by omega,by omega⟩)
end
section
variable {H H':AH}{ρ ρ':Rs}{τ τ':Tb}{F:V→Prop}{Q:az}{n k m:Nat}
theorem rY {g:Nat}{as:List Nat}(e:H[g]?=some (.f (ns as))){B:Bool→Prop} :aI .eq (.y g) (.y H.length) (H++[ag.f []]) B=B as.isEmpty:=by have e1:(H++[ag.f []])[g]?=some _:=af e;have e3:(V.B []).bG=true:=rfl;simp [aI,qo,e1,rL,e3];cases as<;>simp
def yZ:List Int:=[4,2,6,0,7,3,5,1]
theorem Lc:∀i<8,0≤yZ.getD i 0∧yZ.getD i 0≤7:=by decide
theorem wj {ri u1 u2 u3 gk:Nat}{ids:List Int}{given:Option Nat}{place:Int}{kid:Int→Int}{i1:Int}{g1:Nat}{S1:List Int}{ga1:Nat}{as1 bs1:List Nat}{p1:Nat}{i2:Int}{g2:Nat}{S2:List Int}{ga2:Nat}{as2 bs2:List Nat}{p2:Nat}{fr2:Bool}
 {id:Int} {g:Nat} {S:List Int} {ga:Nat} {as bs:List Nat} {p:Nat} {fr:Bool}
 (w:W H τ ρ k m) (hri:Wa H ρ ri (.f (zs ids))) (hids:ids.length=6) (hpl:0≤place∧place<6) (hgk:Wa H ρ gk (.f [bY i1 g1 as1 ga1 false,bY i2 g2 as2 ga2 fr2]))
 (k1:Ky (Wa H ρ) τ kid i1 g1 S1 ga1 as1 bs1 p1 false) (k2:Ky (Wa H ρ) τ kid i2 g2 S2 ga2 as2 bs2 p2 fr2) (ky:Ky (Wa H ρ) τ kid id g S ga as bs p fr) (hk:k+60≤19000)
 (q1:∀H' τ' a b,Gr 40 H H' τ τ'→Wa H' ρ a (.f [])→Wa H' ρ b (.f [])→Q (.B [.j 0,bc a 0,.j (-1),bc b 0]) H')
 (q2:∀H' τ' s a spot x y gf Sf gaf asf bsf pf frf,Gr 40 H H' τ τ'→Wa H' ρ a (.f [])→0≤spot→spot<6→x=ids.getD spot.toNat 0→bj τ' s [.j 15,.j x,.j y] →Ky (Wa H' ρ) τ' kid y gf Sf gaf asf bsf pf frf→Q (.B [.j s,bc a 0,.j spot,bc gf (ah asf)]) H')
 (q3:∀H' τ' s gs Ss ass bss ps b ks r,Gr 40 H H' τ τ'→Wa H' ρ gs (.f (zs Ss))→Wa H' ρ b (.f [])→Tm τ' s (Ss.map fun _=>s) bss ps→ps≤1→(Ss=[] ∨Ss=[30])→qJ ass→(∀a,a∈bss↔a∈ass)→Wf bss→bss.length≤4→bj τ' s (.j ks::r)→ks≠15→Q (.B [.j s,bc gs (ah ass),.j (-1),bc b 0]) H'):
 X.w (n+6) 103 [.y 3,.y 4,.B [.y ri,.y u1,.y u2,.y u3],.y gk,.j (gF given),.j place,bY id g as ga fr] H Q:=by
 delta kh
 have h:=w.R
 have hl:=h.U
 have hb:=w.bd
 simp! []
 refine X.x (cA (n:=n) h (by decide) (by have:=hb.2.2.2;omega) fun H1 τ1 v G1 _ _ _ hv0 hv1=>?_) (by omega)
 have ehow:∀ {F:V→Prop},aF (.B [.j 4,.j 2,.j 6,.j 0,.j 7,.j 3,.j 5,.j 1]) (.j v) H1 F=F (.j (yZ.getD v.toNat 0)):=fun{F} =>df (l:=yZ) hv0 (by show v.toNat<8;omega) (by decide)
 obtain⟨how,hhow⟩:∃how,how=yZ.getD v.toNat 0:=⟨_,rfl⟩
 have hr:=Lc v.toNat (by omega)
 rw [←hhow] at hr ehow
 have l1:=G1.U
 have w1:=w.gr (n:=k+1) G1 (by omega)
 simp! [ehow]
 by_cases h4:how=4
 ·simp only [h4];have Ga:Gr 1 H (H1++[ag.f []] ++[ag.f []]) τ τ1:=(G1.Y _).Y _;exact q1 _ τ1 _ _ (Ga.P (by omega)) (w.bC.na _ _ ⟨(by simp),l1,by omega⟩) (w.bC.na _ _ ⟨ae,by simp;omega,by simp;omega⟩)
 simp only [h4,decide_false,Bool.false_eq_true,if_false]
 by_cases h5:how>4
 ·simp only [h5,decide_true,if_true];have rest:∀ {H2:AH} {τ2:Tb} {spot:Int},Gr 2 H H2 τ τ2→0≤spot→spot<6→wS (X.b (n+5)) (.H 9 (.bA (.bH .eq (.h 7) (.k (.j 7))) (.h 6) (.w 102 (.cons (.h 0) (.cons (.h 1) (.cons (.h 3) (.m)))))) (.bL (.B (.cons (.bJ (.h 1) 10 (.cons (.B (.cons (.k (.j 15)) (.cons (.z (.z (.h 2) (.k (.j 0))) (.h 8)) (.cons (.z (.h 9) (.k (.j 0))) (.m))))) (.m))) (.cons (.B (.cons (.dm (.m)) (.cons (.k (.j 0)) (.m)))) (.cons (.h 8) (.cons (.z (.h 9) (.k (.j 1))) (.m))))))))
    [some (.y 3),some (.y 4),some (.B [.y ri,.y u1,.y u2,.y u3]),some (.y gk),some (.j (gF given)),some (.j place),some (bY id g as ga fr),some (.j how),some (.j spot),none,none,none,none,none,none] H2 (bX Q):=by
   intro H2 τ2 spot G2 hs0 hs1
   have fin:∀ {H3:AH} {τ3:Tb} {y:Int} {gf:Nat} {Sf:List Int} {gaf:Nat} {asf bsf:List Nat} {pf:Nat} {frf:Bool},Gr 15 H H3 τ τ3→Ky (Wa H3 ρ) τ3 kid y gf Sf gaf asf bsf pf frf→wS (X.b (n+5)) (.bL (.B (.cons (.bJ (.h 1) 10 (.cons (.B (.cons (.k (.j 15)) (.cons (.z (.z (.h 2) (.k (.j 0))) (.h 8)) (.cons (.z (.h 9) (.k (.j 0))) (.m))))) (.m))) (.cons (.B (.cons (.dm (.m)) (.cons (.k (.j 0)) (.m)))) (.cons (.h 8) (.cons (.z (.h 9) (.k (.j 1))) (.m)))))))
     [some (.y 3),some (.y 4),some (.B [.y ri,.y u1,.y u2,.y u3]),some (.y gk),some (.j (gF given)),some (.j place),some (bY id g as ga fr),some (.j how),some (.j spot),some (bY y gf asf gaf frf),none,none,none,none,none] H3 (bX Q):=by
    intro H3 τ3 y gf Sf gaf asf bsf pf frf G3 kyf
    have es:∀ {F:V→Prop},aF _ _ H3 F=F _:=fun{F} =>by rw [aA _ _ (G3.wa _ _ hri).1];exact df hs0 (by omega) (by omega)
    simp! [G3.R.J,es]
    refine⟨by simp,rfl,X.x (fb G3.R rfl (by have:=(G3.bd hb (Nat.le_refl _)).1;omega) fun H4 τ4 s G4 hrow=>?_) (by omega)⟩
    have G34:=G3.trans G4.gr (by omega:15+1≤16)
    have l4:=G34.U
    exact q2 _ τ4 s _ spot _ y gf Sf gaf asf bsf pf frf ((G34.Y _).P (by omega)) (w.bC.na _ _ ⟨ae,l4,by omega⟩) hs0 hs1 rfl hrow (kyf.P ((G4.gr.Y _).wa) G4.gI)
   simp! []
   by_cases h7:how=7
   ·simp only [h7];have:=fin (G2.P (by omega)) (ky.P (G2.wa) G2.le);trivial
   ·simp only [h7];refine X.x (yy (n:=n) (w.gr (n:=k+2) G2 (by omega)) (G2.wa _ _ hgk) (k1.P G2.wa G2.le) (k2.P G2.wa G2.le) (by omega) fun H3 τ3 y gf Sf gaf asf bsf pf frf G3 kyf=>?_) (by omega);have:=fin (G2.trans G3 (by omega)) kyf;trivial
  by_cases h6:how=6
  ·simp only [h6,decide_true,if_true];have:=rest (G1.P (by omega)) hpl.1 hpl.2;simp! [h6] at this;omega
  ·simp only [h6];refine X.x (cA (n:=n) G1.R (by simp) (by have:=hb.2.2.2;have:=G1.gh;omega) fun H2 τ2 v2 G2 _ _ _ hv20 hv21=>?_) (by omega);have:=rest (G1.trans G2 (by omega)) hv20 hv21;simp! [] at this;omega
 simp only [h5,decide_false,Bool.false_eq_true,if_false]
 refine⟨by decide,by decide,?_⟩
 have up11:ft 11=ns (List.range 11):=rfl
 have up15:ft 15=ns (List.range 15):=rfl
 rw [up11]
 refine bW (fun rest out H2=>∃(dn rs pl:List Nat),rest=ns rs∧List.range 11=dn++rs∧out=ns pl∧(∀a∈pl,a<11)∧pl.length≤dn.length∧Gr 1 H H2 τ τ1) ?_ ?_ (out:=[]) ⟨[],List.range 11,[],rfl,rfl,rfl,(fun a h=>nomatch h),Nat.le_refl _,G1.Y _⟩ ae
 ·rintro _ r out H2 ⟨dn,rs,pl,e,hd,rfl,hp11,hpl2,G2⟩ ha;have hdl:=by simpa using congrArg List.length hd
  refine⟨trivial,by rw [List.length_map];omega,fun q' qn qs=>?_⟩;cases rs with
  |nil=>cases e
  |cons a rs=>
   cases e;have ha11:=by
    have:a∈List.range 11:=by rw [hd];simp
    simpa using this
   have yes:∀H3,Gr 1 H H3 τ τ1→H3[H1.length]?=some _→q' (some (.j (a))) H3:=fun H3 G3 ha3=>qs _ _ ⟨dn++[a],rs,pl++[a],rfl,by rw [hd];simp,by simp,fun b hb=>by rcases List.mem_append.mp hb with z|z;exact hp11 b z;simp at z;omega,by simp [*],G3.set h _ l1⟩ ha3
   have no:∀H3,Gr 1 H H3 τ τ1→H3[H1.length]?=some _→q' none H3:=fun H3 G3 ha3=>qn _ ⟨dn++[a],rs,pl,rfl,by rw [hd];simp,rfl,hp11,by simp;omega,G3⟩ ha3
   cases given with
   |none=>exact no H2 G2 ha
   |some y=>refine X.x (jW (n:=n) G2.R (by omega) fun H3 G3=>?_) (by omega);have ha3:=G3.N.kp _ _ ha (by omega);have G23:=G2.trans G3.gr (by omega:1+0≤1);exact iv (fun _=>yes H3 G23 ha3) (fun _=>no H3 G23 ha3)
 ·rintro out H2 ⟨dn,rs,pl,e,hd,rfl,hp11,hpl2,G2⟩ ha;have:rs=[] :=by cases rs<;>first|rfl|cases e
  subst this;rw [List.append_nil] at hd;refine⟨trivial,?_⟩;have hpl3:pl.length≤11:=by have:=congrArg List.length hd;simp at this;omega
  have fin:∀ {H3:AH} {gp:Nat} {pool:List Nat},Gr 1 H H3 τ τ1→H.length≤gp→H3[gp]?=some (.f (ns pool))→(∀a∈pool,a<15)→pool≠ [] →pool.length<64→wS (X.b (n+5)) (.H 11 (.w 93 (.cons (.h 10) (.cons (.w 88 (.cons (.h 0) (.cons (.k (.j 10125)) (.m)))) (.cons (.k (.j 3)) (.cons (.bA (.bH .gt (.h 7) (.k (.j 1))) (.k (.j 0)) (.k (.j 1))) (.m)))))) (.H 12 (.w 95 (.cons (.h 1) (.cons (.h 11) (.m)))) (.bA (.bH .eq (.hY .vt (.h 7) (.k (.j 2))) (.k (.j 0))) (.bL (.B (.cons (.h 12) (.cons (.B (.cons (.dm (.m)) (.cons (.w 94 (.cons (.h 11) (.m))) (.m)))) (.cons (.k (.j (-1))) (.cons (.B (.cons (.dm (.m)) (.cons (.k (.j 0)) (.m)))) (.m))))))) (.V) (.bL (.B (.cons (.w 6 (.cons (.h 1) (.cons (.k (.F (H31.m "W"))) (.cons (.h 12) (.cons (.k (.j (-1))) (.m)))))) (.cons (.B (.cons (.dm (.cons (.k (.j 30)) (.m))) (.cons (.w 94 (.cons (.h 11) (.m))) (.m)))) (.cons (.k (.j (-1))) (.cons (.B (.cons (.dm (.m)) (.cons (.k (.j 0)) (.m)))) (.m))))))))))
    [some (.y 3),some (.y 4),some (.B [.y ri,.y u1,.y u2,.y u3]),some (.y gk),some (.j (gF given)),some (.j place),some (bY id g as ga fr),some (.j how),none,none,some (.y gp),none,none,none,none] H3 (bX Q):=by
   intro H3 gp pool G3 hgp0 hgp hp15 hpn hpl
   simp! []
   refine X.x (cA (n:=n) G3.R (by decide) (by have:=(G3.bd hb (Nat.le_refl _)).2.2.2;omega) fun H4 τ4 c G4 _ _ _ hc0 hc1=>?_) (by omega)
   have G34:=G3.trans G4 (by omega:1+1≤2)
   have l34:=G34.U
   have after:∀low:Int,0≤low→low≤1→X.w (n+5) 93 [.y gp,.j c,.j 3,.j low] H4 fun v H=>X.w (n+5) 95 [.y 4,v] H fun v_1 H=>aI .eq (.j (how%2)) (.j 0) H fun r=>if r=true then X.w (n+5) 94 [v] (H++[.f []]) fun v_2 H_1=>Q (.B [v_1,.B [.y H.length,v_2],.j (-1),.B [.y H_1.length,.j 0]]) (H_1++[.f []]) else X.w (n+5) 6 [.y 4,.F (H31.m "W"),v_1,.j (-1)] H fun v_2 H=>X.w (n+5) 94 [v] (H++[.f [.j 30]]) fun v_3 H_1=>Q (.B [v_2,.B [.y H.length,v_3],.j (-1),.B [.y H_1.length,.j 0]]) (H_1++[.f []]):=by intro low hlow0 hlow1;refine X.x (o9 (n:=n) G4.R (G4.N _ _ hgp (by omega)) (by omega) hp15 hpn hpl hc0 ⟨by decide,by decide⟩ ⟨hlow0,by omega⟩ fun H5 ga5 as5 G5 hf5 hga50 hga5 _=>?_) (by omega);have G35:=G34.trans G5.gr (by omega:2+0≤2);refine X.x (iQ (n:=n) G5.R (G35.cR w.cR) hga5 (by omega) hf5 (by have:=(G35.bd hb (Nat.le_refl _)).1;omega) fun H6 τ6 t bs6 G6 kd hs=>?_) (by omega);have G36:=G35.trans G6.gr (by omega:2+5≤7);have l36:=G36.U;have bd6:=G36.bd hb (Nat.le_refl _);have hga6:=G6.N.kp _ _ hga5 (.inr (by omega));have hbl:=Nat.le_trans (mA kd.W hs) hf5.U;obtain⟨kt,rt,hrt,hkt⟩:=kd.d5 (G36.cR w.cR);rw [dG];refine iv (fun _=>by have Ga:Gr 7 H (H6++[ag.f []]) τ τ6:=G36.Y _;refine X.x (fV (n:=n) Ga.R (af hga6) (by omega) hf5.lt fun H7 G7=>?_) (by omega);have Gb:=Ga.trans G7.gr (by omega:7+0≤7);have l7:=Gb.U;have hg7:=G7.N.kp _ _ ae (by omega);exact q3 _ τ6 t _ [] as5 bs6 0 _ kt rt ((Gb.Y _).P (by omega)) (w.bC.na _ _ ⟨af hg7,l36,by omega⟩) (w.bC.na _ _ ⟨ae,l7,by omega⟩) kd.tm (by simp) (by simp) hf5 hs (hf5.Ma hs kd.W kd.vn) hbl hrt (fun e=>hkt (by simp [*]))) (fun _=>by refine X.x (dr (n:=n) G6.R (by have:=bd6.1;omega) (by have:=bd6.2.1;omega) fun H7 τ7 P pid G7 _ _ hP hPb _=>?_) (by omega);have G37:=G36.trans G7 (by omega:7+1≤8);have l37:=G37.U;have Ga:Gr 8 H (H7++[ag.f (zs [30])]) τ τ7:=G37.Y _;refine X.x (fV (n:=n) Ga.R (af (G7.N _ _ hga6 (by omega))) (by omega) hf5.lt fun H8 G8=>?_) (by omega);have Gb:=Ga.trans G8.gr (by omega:8+0≤8);have l8:=Gb.U;have hg8:=G8.N.kp _ _ ae (by omega);have kd7:=G7.le.kd kd;have tmP:Tm τ7 P [P] bs6 1:=.hU hP hPb (by have:=kd7.tm;rw [show(if t<0∨t=0 then 1 else t)=t from kd7.sM (G37.cR w.cR)];omega);exact q3 _ τ7 P _ [30] as5 bs6 1 _ 10 _ ((Gb.Y _).P (by omega)) (w.bC.na _ _ ⟨af hg8,l37,by omega⟩) (w.bC.na _ _ ⟨ae,l8,by omega⟩) tmP (by simp) (by simp) hf5 hs (hf5.Ma hs kd.W kd.vn) hbl hP (by simp))
   have emod:∀ {H:AH} {Q:az},cw .vt (.j how) (.j 2) H Q=Q (.j (how%2)) H:=fun{H Q} =>ip how 2 (by decide)
   by_cases hgt:how>1
   ·have:=after 0 (by simp) (by simp);simp [hgt,if_true];simp [emod];omega
   ·have:=after 1 (by simp) (by simp);simp [hgt,if_false];simp [emod];omega
  have all15:∀ {H3:AH},Gr 1 H H3 τ τ1→gD (fun v H q=>(wX (X.b (n+5)) (.k (.D true))).T [some (.y 3),some (.y 4),some (.B [.y ri,.y u1,.y u2,.y u3]),some (.y gk),some (.j (gF given)),some (.j place),some (bY id g as ga fr),some (.j how),none,none,some (.y H1.length),none,none,none,some v] H fun r H=>if r=true then q (some v) H else q none H) none H3.length (fun H4=>wS (X.b (n+5)) (.H 11 (.w 93 (.cons (.h 10) (.cons (.w 88 (.cons (.h 0) (.cons (.k (.j 10125)) (.m)))) (.cons (.k (.j 3)) (.cons (.bA (.bH .gt (.h 7) (.k (.j 1))) (.k (.j 0)) (.k (.j 1))) (.m)))))) (.H 12 (.w 95 (.cons (.h 1) (.cons (.h 11) (.m)))) (.bA (.bH .eq (.hY .vt (.h 7) (.k (.j 2))) (.k (.j 0))) (.bL (.B (.cons (.h 12) (.cons (.B (.cons (.dm (.m)) (.cons (.w 94 (.cons (.h 11) (.m))) (.m)))) (.cons (.k (.j (-1))) (.cons (.B (.cons (.dm (.m)) (.cons (.k (.j 0)) (.m)))) (.m))))))) (.V) (.bL (.B (.cons (.w 6 (.cons (.h 1) (.cons (.k (.F (H31.m "W"))) (.cons (.h 12) (.cons (.k (.j (-1))) (.m)))))) (.cons (.B (.cons (.dm (.cons (.k (.j 30)) (.m))) (.cons (.w 94 (.cons (.h 11) (.m))) (.m)))) (.cons (.k (.j (-1))) (.cons (.B (.cons (.dm (.m)) (.cons (.k (.j 0)) (.m)))) (.m))))))))))
   [some (.y 3),some (.y 4),some (.B [.y ri,.y u1,.y u2,.y u3]),some (.y gk),some (.j (gF given)),some (.j place),some (bY id g as ga fr),some (.j how),none,none,some (.y H3.length),none,none,none,none] H4 (bX Q)) (ns (List.range 15)) (H3++[.f []]):=by
   intro H3 G3
   have l3:=G3.U
   refine bW (fun rest out H4=>∃(dn rs:List Nat),rest=ns rs∧List.range 15=dn++rs∧out=ns dn∧Gr 1 H H4 τ τ1) ?_ ?_ ⟨[],_,rfl,rfl,rfl,G3.Y _⟩ ae
   ·rintro _ r out H4 ⟨dn,rs,e,hd,rfl,G4⟩ ha;have hdl:=by simpa using congrArg List.length hd
    refine⟨trivial,by rw [List.length_map];omega,fun q' qn qs=>?_⟩;cases rs with
    |nil=>cases e
    |cons a rs=>cases e;exact qs _ _ ⟨dn++[a],rs,rfl,by rw [hd];simp,by simp,G4.set h _ l3⟩ ha
   ·rintro out H4 ⟨dn,rs,e,hd,rfl,G4⟩ ha;have:rs=[] :=by cases rs<;>first|rfl|cases e
    subst this;rw [List.append_nil] at hd;subst hd;exact⟨trivial,fin G4 l3 ha (by simp) (by simp) (by simp)⟩
  try simp_arith []
  by_cases hgt:how>1
  ·simp only [hgt,decide_true,if_true];refine⟨by simp,by simp,?_⟩;rw [up15];have:=all15 G2;simp! [] at this;simp [hgt,if_true] at this;omega
  ·simp only [hgt,decide_false,Bool.false_eq_true,if_false];have ee:∀ {B:Bool→Prop},aI .eq _ _ _ B=B _:=fun{B} =>rY ha;rw [ee];have G2':Gr 1 H (H2++[ag.f []]) τ τ1:=G2.Y _;cases hem:pl.isEmpty with
   |true=>refine⟨by simp,by simp,?_⟩;rw [up15];have:=all15 G2';simp! [] at this;simp only [hgt,decide_false,Bool.false_eq_true,if_false] at this;omega
   |false=>
    simp;have hne:pl≠ [] :=fun e=>by rw [e] at hem;trivial
    have:=fin G2' l1 (af ha) (fun a ha=>by have:=hp11 a ha;omega) hne (by omega);simp! [] at this;simp [hgt,if_false] at this;omega
end
def cg (ps:List Pr):List PySem.Str:=(ps.filter fun p=>p.2.2&&&25==0).map (·.1)
structure PI (τ:Tb) (ps:List Pr) (nms:List (PySem.Str×Nat)) (dn:List PySem.Str):Prop where
 pM:∀x,x≠m "z"→(∃p as,ps.find? (fun p=>decide (p.1=x))=some p∧(p.2.2=0∨p.2.2=1)∧Km τ p.2.1 as∧nms.lookup x=some (ah as|||p.2.2))∨(ps.find? (fun p=>decide (p.1=x))=none∧nms.lookup x=none)
 nm:∀p∈ps,p.1∈dn
 U:ps.length≤dn.length
theorem PI.P {τ τ':Tb}(le:dY τ τ'){ps:List Pr}{nms:List (PySem.Str×Nat)}{dn:List PySem.Str}(h:PI τ ps nms dn):PI τ' ps nms dn:=⟨fun x hx=>(h.pM x hx).imp (fun⟨p,as,a,b,c,d⟩=>⟨p,as,a,b,le.km c,d⟩) id,h.nm,h.U⟩
theorem PI.aE {τ:Tb}{ps:List Pr}{nms:List (PySem.Str×Nat)}{dn:List PySem.Str}(h:PI τ ps nms dn){x:PySem.Str}(hx:x∉dn)(hz:x≠m "z"):nms.lookup x=none:=by
 rcases h.pM x hz with⟨p,as,a,_⟩|⟨_,b⟩
 ·exfalso;have:=List.find?_some a;have e:p.1=x:=by simp_all
  exact hx (e▸h.nm p (List.mem_of_find?_eq_some a))
 omega
theorem PI.fZ {τ:Tb}{ps:List Pr}{nms:List (PySem.Str×Nat)}{dn:List PySem.Str}(h:PI τ ps nms dn){x:PySem.Str}{t:Int}{fl:Nat}{as:List Nat}(hx:x∉dn)(hz:x≠m "z")(km:Km τ t as)(hf:fl=0∨fl=1):PI τ (ps++[(x,t,fl)]) (nms++[(x,ah as|||fl)]) (dn++[x]):=by
 refine⟨fun y hy=>?_,fun p hp=>?_,by have:=h.U;simp_all⟩
 ·rcases h.pM y hy with⟨p,bs,a,b,c,d⟩|⟨a,b⟩
  ·exact .inl ⟨p,bs,by rw [List.find?_append,a];rfl,b,c,by rw [List.lookup_append,d];rfl⟩
  ·by_cases e:x=y
   ·subst e;exact .inl ⟨(x,t,fl),as,by rw [List.find?_append,a];simp,hf,km,by rw [List.lookup_append,b];simp⟩
   grind
 ·rcases List.mem_append.mp hp with z|z
  ·exact List.mem_append_left _ (h.nm p z)
  grind
theorem PI.vq {τ:Tb}{ps:List Pr}{nms:List (PySem.Str×Nat)}{dn:List PySem.Str}(h:PI τ ps nms dn)(x:PySem.Str):PI τ ps nms (dn++[x]):=⟨h.pM,fun p hp=>List.mem_append_left _ (h.nm p hp),by have:=h.U;simp;omega⟩
theorem PI.Ko {τ:Tb}{ps:List Pr}{nms:List (PySem.Str×Nat)}{dn:List PySem.Str}(h:PI τ ps nms dn)(t:Int)(fl:Nat):PI τ (ps++[(m "z",t,fl)]) nms (dn++[m "z"]):=by
 refine⟨fun y hy=>?_,fun p hp=>?_,by have:=h.U;simp;omega⟩
 ·have e:[(m "z",t,fl)].find? (fun p=>decide (p.1=y))=Option.none:=by simp [Ne.symm hy]
  rcases h.pM y hy with⟨p,bs,a,b,c,d⟩|⟨a,b⟩
  ·grind
  ·exact .inr (by grind)
 ·rcases List.mem_append.mp hp with z|z
  ·exact List.mem_append_left _ (h.nm p z)
  grind
def qC (τ:Tb)(id:Int)(names:List (PySem.Str×Nat))(tx nm:Option Nat)(sure:List PySem.Str):Prop:=∃ps c0 c1,bj τ id (dC ps c0 c1)∧fY τ c0 tx∧fY τ c1 nm∧(∀x∈fe,jF τ ps x (fL names tx nm x) tx nm)∧(∀p∈ps,p.1∈dt)∧ps.length≤10∧sure=cg ps
theorem qC.P {τ τ':Tb}(le:dY τ τ'){id:Int}{names:List (PySem.Str×Nat)}{tx nm:Option Nat}{sure:List PySem.Str}(h:qC τ id names tx nm sure):qC τ' id names tx nm sure:=
 let⟨ps,c0,c1,a,b,c,d,e,f,g⟩:=h;⟨ps,c0,c1,le.I a,le.eN b,le.eN c,fun x hx=>le.sJ (d x hx),e,f,g⟩
theorem Km.of {τ:Tb}{t:Int}{as bs:List Nat}(kd:Kd τ t bs)(hs:∀a,a∈bs↔a∈as)(h:∀a∈as,a∈ [9,6,5,3,10,0,7,1,8,6,4,2,9]):Km τ t bs:=by
 refine⟨kd,?_⟩;by_cases h10:10∈bs
 ·exact .inl (kd.vn h10)
 ·refine .inr fun a ha=>?_;have:=h a (by simp_all);have hne:a≠10:=fun e=>h10 (e▸ha);simp at this;omega
section
variable {H H':AH}{ρ ρ':Rs}{τ τ':Tb}{F:V→Prop}{Q:az}{n k m:Nat}
def il:List PySem.Str:=[H31.m "0",H31.m "p",H31.m "q"]
theorem yl:il.Nodup∧(∀x∈il,x≠H31.m "z"∧x∈dt)∧∀x∈fe,x≠H31.m "z":=by decide
theorem yg {ps:List Pr}{c0 c1:V}{tx nm:Option Nat}(h0:fY τ c0 tx)(h1:fY τ c1 nm):(V.B (dC ps c0 c1)).aS=3:=by
 have hp:∀n,(ps.map aV).all (V.e (n+1))=true:=fun n=>by
  induction ps with
  |nil=>rfl
  |cons p r ih=>simp only [List.map_cons,List.all_cons,Bool.and_eq_true];exact⟨by cases n<;>rfl,ih⟩
 have hc:∀ {c:V} {o:Option Nat},fY τ c o→V.e 3 c=true:=fun{c o} h=>by rcases h with⟨rfl,_⟩|⟨k,as,rfl,_⟩<;>rfl
 have:(V.B (dC ps c0 c1)).bG=true:=by show(V.e 3 (.j 8)&&(V.e 3 _&&(V.e 3 _&&(V.e 3 _&&(V.e 3 c0&&(V.e 3 c1&&(V.e 3 _&&true)))))))=true;have e:V.e 3 (.B _)=true:=hp 1;rw [e,hc h0,hc h1];rfl
 show(if(V.B _).bG then 3 else 0)=3;simp_all
theorem gi (ps:List Pr)(p:Pr):cg (ps++[p])=if(p.2.2&&&25==0)=true then cg ps++[p.1] else cg ps:=by unfold cg;grind
theorem oW (h:aY H τ)(std:du τ)(hb:Bd τ k)(hk:k+60<2^18)
 (q:∀H' τ' id d sr names tx nm sure,Gr 40 H H' τ τ'→Na H' H.length d (.i (bQ names))→Na H' H.length sr (.f (sure.map V.F))→qC τ' id names tx nm sure→Q (.B [.j id,mP d tx nm sr]) H'):X.w (n+5) 96 [.y 3,.y 4] H Q:=by
 delta ki
 have hl:=h.U
 simp! [fo,aG]
 obtain⟨H0,hH0⟩:∃H0,H0=H++[ag.i []] ++[ag.f []] ++[ag.f []] :=⟨_,rfl⟩
 have l1:(H++[ag.i []]).length=H.length+1:=by simp
 have l2:(H++[ag.i []] ++[ag.f []]).length=H.length+2:=by simp
 have a0:H0[H.length]?=some (.i []):=by rw [hH0];exact af (af ae)
 have a1:H0[H.length+1]?=some (.f []):=by rw [hH0,←l1];exact af ae
 have a2:H0[H.length+2]?=some (.f []):=by rw [hH0,←l2];exact ae
 have G0:Gr 0 H H0 τ τ:=by rw [hH0];exact(((Gr.aD h).Y _).Y _).Y _
 rw [←hH0,l1,l2]
 obtain⟨n3a,n3b,n7z⟩:=yl
 refine br (fun vs env H1=>∃(dn rest:List PySem.Str) (ps:List Pr) (nms:List (PySem.Str×Nat)) (τ1:Tb) (x y z:Option V),vs=rest.map V.F∧il=dn++rest∧env=[some (.y 3),some (.y 4),some (.y H.length),some (.y (H.length+1)),some (.y (H.length+2)),x,y,z,none,none,none,none] ∧H1[H.length]?=some (.i (bQ nms))∧H1[H.length+1]?=some (.f ((cg ps).map V.F))∧H1[H.length+2]?=some (.f (ps.map aV))∧PI τ1 ps nms dn∧(∀p∈ps,p.1∈dt)∧nms.length≤dn.length∧Gr (7*dn.length) H H1 τ τ1) ?_ ?_
  ⟨[],il,[],[],τ,none,none,none,rfl,rfl,rfl,a0,a1,a2,⟨fun x _=>.inr ⟨rfl,rfl⟩,(fun p hp=>nomatch hp),Nat.le_refl _⟩,(fun p hp=>nomatch hp),Nat.le_refl _,G0⟩
 ·rintro _ r _ H1 ⟨dn,rest,ps,nms,τ1,x0,y0,z0,e,hd,rfl,hdn,hsn,hpn,pi,hn4,hnl,G1⟩;refine⟨trivial,fun q' qn _=>?_⟩;cases rest with
  |nil=>cases e
  |cons x rest=>
   cases e;have hxm:x∈il:=by rw [hd];simp
   have hxd:x∉dn:=fun z=>by rw [hd] at n3a;exact(List.nodup_append.mp n3a).2.2 x z x (by simp) rfl
   obtain⟨hxz,hx4⟩:=n3b x hxm;have hdl:dn.length+1≤3:=by have:=congrArg List.length hd;simp [il] at this;omega
   have bd1:=G1.bd hb (Nat.le_refl _);have l1':=G1.U;have hsl:(cg ps).length≤3:=by
    have h1:(cg ps).length≤ps.length:=by unfold cg;rw [List.length_map];exact List.length_filter_le _ _
    have:=pi.U;omega
   have hpl:=pi.U;simp! [];refine X.x (cA (n:=n) G1.R (by decide) (by have:=bd1.2.2.2;omega) fun H2 τ2 v G2 _ _ _ hv0 hv1=>?_) (by omega);have G12:=G1.trans G2 (Nat.le_refl _);have l2':=G12.U;have std2:=G12.cR std;have hdn2:=G2.N _ _ hdn (by omega);have hsn2:=G2.N _ _ hsn (by omega);have hpn2:=G2.N _ _ hpn (by omega);obtain⟨c,hc,hcv⟩:∃c:Nat,c<4∧v%4=(c:Int):=⟨(v%4).toNat,by omega,by omega⟩;have emod:∀ {H:AH} {Q:az},cw .vt (.j v) (.j 4) H Q=Q (.j (c:Int)) H:=fun{H Q} =>by rw [ip v 4 (by decide),hcv]
   have ediv:∀ {H:AH} {Q:az},cw .kM (.j v) (.j 4) H Q=Q (.j (v/4)) H:=fun{H Q} =>fC v 4 ⟨hv0,by decide,by decide⟩;have ediv3:∀ {H:AH} {Q:az},cw .kM (.j (c:Int)) (.j 3) H Q=Q (.j ((c/3:Nat):Int)) H:=fun{H Q} =>by rfl
   simp! [emod,ediv,ediv3];by_cases hc0:c=0
   ·have:decide ((c:Int)>0)=false:=by simp [*]
    simp only [this];exact(qn _ _ ⟨_,rest,ps,nms,τ2,_,_,_,rfl,by simp [*],rfl,hdn2,hsn2,hpn2,(pi.P G2.le).vq x,hn4,by simp;omega,G12.P (by simp;omega)⟩).1
   have hcp:decide ((c:Int)>0)=true:=decide_eq_true (by omega);simp only [hcp,if_true];refine X.x (kS (n:=n) ?_) (by omega);have Gm:=G12.Y (.f (ns [9,6,5,3,10,0,7,1,8,6,4,2,9]));refine X.x (o9 (n:=n) Gm.R (ae (H:=H2)) (by omega) (by decide) (by decide) (by decide) (Int.ediv_nonneg hv0 (by decide)) ⟨by decide,by decide⟩ ⟨by decide,by decide⟩ fun H3 ga as G3 hf hga0 hga hsub=>?_) (by omega);have hga0':H2.length+1≤ga:=by simpa using hga0
   have hp_lt:=aM hpn2;have G13:=Gm.trans G3.gr (Nat.le_refl _);have bd3:=G13.bd hb (Nat.le_refl _);have k3:∀(i:Nat) (o:ag),10<i→H2[i]?=some o→H3[i]?=some o:=fun i o hi e=>G3.N.kp i o (af e) (.inr hi);have hpn3:=k3 _ _ (by omega) hpn2;simp! [bN _ hpn3];refine X.x (iQ (n:=n) G3.R std2 hga (by omega) hf (by have:=bd3.1;omega) fun H4 τ4 t bs G4 kd hs=>?_) (by omega);have G14:=G13.trans G4.gr (Nat.le_refl _);have km:=Km.of kd hs hsub;have k4:∀(i:Nat) (o:ag),10<i→H3[i]?=some o→H4[i]?=some o:=fun i o hi e=>G4.N.kp i o e (.inr hi);have hpn4:=k4 _ _ (by omega) hpn3;have hdn4:=k4 _ _ (by omega) (k3 _ _ (by omega) hdn2);have hsn4:=k4 _ _ (by omega) (k3 _ _ (by omega) hsn2);have hga4:=k4 _ _ (by omega) hga;simp! [cS _ hpn4 (by rw [List.length_map];omega)];have G5:Gr (7*dn.length+1+0+5) H (H4.set (H.length+2) (.f (ps.map aV++[aV (x,t,c/3)]))) τ τ4:=G14.set h _ (by omega);have hpn5:(H4.set (H.length+2) (.f (ps.map aV++[aV (x,t,c/3)])))[H.length+2]?=some (.f ((ps++[(x,t,c/3)]).map aV)):=by rw [aj hpn4];simp
   have hdn5:(H4.set (H.length+2) (.f (ps.map aV++[aV (x,t,c/3)])))[H.length]?=some (.i (bQ nms)):=aa hdn4 (by omega);have hsn5:(H4.set (H.length+2) (.f (ps.map aV++[aV (x,t,c/3)])))[H.length+1]?=some (.f ((cg ps).map V.F)):=aa hsn4 (by omega);have hga5:(H4.set (H.length+2) (.f (ps.map aV++[aV (x,t,c/3)])))[ga]?=some (.f (ns as)):=aa hga4 (by omega);have hset:(H4.set (H.length+2) (.f (ps.map aV++[.B [.F x,.j t,.j ((c/3:Nat):Int),.j 0]])))=(H4.set (H.length+2) (.f (ps.map aV++[aV (x,t,c/3)]))):=rfl;rw [hset];generalize H4.set (H.length+2) (ag.f (ps.map aV++[aV (x,t,c/3)]))=H5 at G5 hpn5 hdn5 hsn5 hga5;refine X.x (fV (n:=n) (as:=as) G5.R hga5 (by omega) hf.lt fun H6 G6=>?_) (by omega);have G16:=G5.trans G6.gr (Nat.le_refl _);have k6:∀(i:Nat) (o:ag),10<i→H5[i]?=some o→H6[i]?=some o:=fun i o hi e=>G6.N.kp i o e (.inr hi);have hpn6:=k6 _ _ (by omega) hpn5;have hdn6:=k6 _ _ (by omega) hdn5;have hsn6:=k6 _ _ (by omega) hsn5;rw [J1];have hlk:=pi.aE hxd hxz;have eset:∀ {G:AH→Prop},cD (.y H.length) (.F x) (.j ((ah as|||c/3:Nat):Int)) H6 G=G (H6.set H.length (.i (bQ (nms++[(x,ah as|||c/3)])))):=fun{G} =>by
    have hln:(bQ nms).length<2^20:=by unfold bQ;rw [List.length_map];omega
    simp [cD,hdn6,kR,hln];rw [mD (by rw [ju,hlk];rfl)];unfold bQ;simp
   simp! [eset];have G7:Gr (7*dn.length+1+0+5+0) H (H6.set H.length (.i (bQ (nms++[(x,ah as|||c/3)])))) τ τ4:=G16.set h _ (Nat.le_refl _);have hdn7:(H6.set H.length (.i (bQ (nms++[(x,ah as|||c/3)]))))[H.length]?=some (.i (bQ (nms++[(x,ah as|||c/3)]))):=aj hdn6;have hpn7:(H6.set H.length (.i (bQ (nms++[(x,ah as|||c/3)]))))[H.length+2]?=some (.f ((ps++[(x,t,c/3)]).map aV)):=aa hpn6 (by omega);have hsn7:(H6.set H.length (.i (bQ (nms++[(x,ah as|||c/3)]))))[H.length+1]?=some (.f ((cg ps).map V.F)):=aa hsn6 (by omega);generalize H6.set H.length (ag.i (bQ (nms++[(x,ah as|||c/3)])))=H7 at G7 hdn7 hpn7 hsn7;have hfl:c/3=0∨c/3=1:=by omega
   have pi':PI τ4 (ps++[(x,t,c/3)]) (nms++[(x,ah as|||c/3)]) (dn++[x]):=by have:=(pi.P (G2.le.trans G4.gI)).fZ hxd hxz km hfl;rw [ey hs] at this;omega
   have hn4':∀p∈ps++[(x,t,c/3)],p.1∈dt:=fun p hp=>by
    rcases List.mem_append.mp hp with z|z
    ·simp [*]
    ·simp at z;simp [*]
   have hnl':(nms++[(x,ah as|||c/3)]).length≤(dn++[x]).length:=by simp;omega
   by_cases h3:c=3
   ·have e3:decide ((c:Int)<3)=false:=by simp [*]
    simp [e3];refine(qn _ _ ⟨_,rest,_,_,τ4,_,_,_,rfl,by simp [*],rfl,hdn7,?_,hpn7,pi',hn4',hnl',G7.P (by simp;omega)⟩).1;subst h3;rw [gi,if_neg (by simp)];omega
   ·have e3:decide ((c:Int)<3)=true:=decide_eq_true (by omega);simp [e3];simp! [bN _ hsn7,cS _ hsn7 (by rw [List.length_map];omega)];refine(qn _ _ ⟨_,rest,_,_,τ4,_,_,_,rfl,by simp [*],rfl,aa hdn7 (by omega),?_,aa hpn7 (by omega),pi',hn4',hnl',(G7.set h _ (by omega)).P (by simp;omega)⟩).1;rw [aj hsn7,gi,if_pos (by show((c/3)&&&25==0)=true;rw [show c/3=0 by omega];rfl)];simp
 ·rintro _ H1 ⟨dn,rest,ps,nms,τ1,x0,y0,z0,e,hd,rfl,hdn,hsn,hpn,pi,hn4,hnl,G1⟩;refine⟨trivial,?_⟩;have:rest=[] :=by cases rest<;>first|rfl|cases e
  subst this;rw [List.append_nil] at hd;subst hd;have bd1:=G1.bd hb (Nat.le_refl _);have l1':=G1.U;have hp_lt:=aM hpn;have hpl:=pi.U;have e21:7*il.length=21:=rfl;rw [e21] at G1 bd1;have e3:il.length=3:=rfl;rw [e3] at hpl;have hsl:(cg ps).length≤3:=by
   have h1:(cg ps).length≤ps.length:=by unfold cg;rw [List.length_map];exact List.length_filter_le _ _
   omega
  try simp_arith []
  refine X.x (cA (n:=n) G1.R (by decide) (by have:=bd1.2.2.2;omega) fun H2 τ2 v G2 _ _ _ hv0 hv1=>?_) (by omega);have G12:=G1.trans G2 (Nat.le_refl _);have l2':=G12.U;have std2:=G12.cR std;have hdn2:=G2.N _ _ hdn (by omega);have hsn2:=G2.N _ _ hsn (by omega);have hpn2:=G2.N _ _ hpn (by omega);have hp_lt2:=aM hpn2;obtain⟨c,hc,hcv⟩:∃c:Nat,c<4∧v%4=(c:Int):=⟨(v%4).toNat,by omega,by omega⟩;have emod:∀ {H:AH} {Q:az},cw .vt (.j v) (.j 4) H Q=Q (.j (c:Int)) H:=fun{H Q} =>by rw [ip v 4 (by decide),hcv]
  have ediv:∀ {H:AH} {Q:az},cw .kM (.j v) (.j 4) H Q=Q (.j (v/4)) H:=fun{H Q} =>fC v 4 ⟨hv0,by decide,by decide⟩;obtain⟨body,hbody⟩:∃body:MS,body=(.g8 [8,9] (.B (.cons (.dm (.cons (.B (.m)) (.cons (.B (.m)) (.m)))) (.cons (.dm (.cons (.k (.j (-1))) (.cons (.k (.j (-1))) (.m)))) (.m)))) (.jN 10 (.k (.j 2)) (.bA (.bH .eq (.hY .vt (.hY .kM (.hY .kM (.h 6) (.k (.j 4))) (.hY .fZ (.k (.j 1)) (.h 10))) (.k (.j 2))) (.k (.j 1))) (.H 7 (.w 93 (.cons (.w 91 (.m)) (.cons (.w 88 (.cons (.h 0) (.cons (.k (.j 338)) (.m)))) (.cons (.k (.j 2)) (.cons (.k (.j 1)) (.m)))))) (.g9 (.h 8) (.h 10) (.B (.cons (.w 95 (.cons (.h 1) (.cons (.h 7) (.m)))) (.cons (.k (.j 0)) (.m)))) (.g9 (.h 9) (.h 10) (.w 94 (.cons (.h 7) (.m))) (.V)))) (.V) (.V)) (.H 11 (.B (.cons (.k (.j 8)) (.cons (.pO .i0 (.cons (.h 4) (.m))) (.cons (.B (.m)) (.cons (.B (.m)) (.cons (.z (.h 8) (.k (.j 0))) (.cons (.z (.h 8) (.k (.j 1))) (.cons (.k (.j 0)) (.m))))))))) (.bL (.B (.cons (.bJ (.h 1) 10 (.cons (.h 11) (.m))) (.cons (.B (.cons (.h 2) (.cons (.z (.h 9) (.k (.j 0))) (.cons (.z (.h 9) (.k (.j 1))) (.cons (.h 3) (.m)))))) (.m)))))))):=⟨_,rfl⟩;have rest:∀ {H3:AH} {ps3:List Pr} {dn3:List PySem.Str} {x y:Option V},Gr 22 H H3 τ τ2→H3[H.length]?=some (.i (bQ nms))→H3[H.length+1]?=some (.f ((cg ps3).map V.F))→H3[H.length+2]?=some (.f (ps3.map aV))→PI τ2 ps3 nms dn3→dn3.length≤4→(∀p∈ps3,p.1∈dt)→wS (X.b (n+4)) body [some (.y 3),some (.y 4),some (.y H.length),some (.y (H.length+1)),some (.y (H.length+2)),x,some (.j v),y,none,none,none,none] H3 (bX Q):=by
   intro H3 ps3 dn3 x y G3 hdn3 hsn3 hpn3 pi3 hdl3 hn43;have l3':=G3.U;have hp_lt3:=aM hpn3;have hpl3:=pi3.U;rw [hbody];simp! [fo];obtain⟨H4,hH4⟩:∃H4,H4=H3++[ag.f [.B [],.B []]] ++[ag.f [.j (-1),.j (-1)]] :=⟨_,rfl⟩;have l4:(H3++[ag.f [.B [],.B []]]).length=H3.length+1:=by simp
   have c4:H4[H3.length]?=some (.f [.B [],.B []]):=by rw [hH4];exact af ae
   have d4:H4[H3.length+1]?=some (.f [.j (gF none),.j (gF none)]):=by rw [hH4,←l4];exact ae
   have G4:Gr 22 H H4 τ τ2:=by rw [hH4];exact(G3.Y _).Y _
   have k4:∀(i:Nat) (o:ag),H3[i]?=some o→H4[i]?=some o:=fun i o e=>by rw [hH4];exact af (af e)
   rw [←hH4,l4];refine⟨by decide,by decide,?_⟩;have up2:ft 2=[.j 0,.j 1] :=rfl;rw [up2];refine br (fun vs env H5=>∃(τ5:Tb) (c0 c1:V) (tx nm:Option Nat) (y z w:Option V),vs.length≤2∧(∀v∈vs,v=.j 0∨v=.j 1)∧env=[some (.y 3),some (.y 4),some (.y H.length),some (.y (H.length+1)),some (.y (H.length+2)),x,some (.j v),y,some (.y H3.length),some (.y (H3.length+1)),z,w] ∧H5[H.length]?=some (.i (bQ nms))∧H5[H.length+1]?=some (.f ((cg ps3).map V.F))∧H5[H.length+2]?=some (.f (ps3.map aV))∧H5[H3.length]?=some (.f [c0,c1])∧H5[H3.length+1]?=some (.f [.j (gF tx),.j (gF nm)])∧fY τ5 c0 tx∧fY τ5 c1 nm∧dY τ2 τ5∧Gr (22+6*(2-vs.length)) H H5 τ τ5) ?_ ?_
    ⟨τ2,.B [],.B [],none,none,y,none,none,by decide,by simp,rfl,k4 _ _ hdn3,k4 _ _ hsn3,k4 _ _ hpn3,c4,d4,.inl ⟨rfl,rfl⟩,.inl ⟨rfl,rfl⟩,.aD _,G4.P (by simp)⟩
   ·rintro kv r _ H5 ⟨τ5,c0,c1,tx,nm,y5,z5,w5,hvl,hvm,rfl,e1,e2,e3,e4,e5,hc0,hc1,le5,G5⟩;refine⟨trivial,fun q' qn _=>?_⟩;simp only [List.length_cons] at hvl G5;have hrest:∀v∈r,v=.j 0∨v=.j 1:=fun v hv=>hvm v (by simp [hv]);obtain⟨kk,hkk,hk01⟩:∃kk:Int,kv=.j kk∧(kk=0∨kk=1):=by
     rcases hvm kv (by simp) with rfl|rfl
     ·simp
     simp
    subst hkk;have eadd:∀ {H:AH} {Q:az},cw .fZ (.j 1) (.j kk) H Q=Q (.j (1+kk)) H:=fun{H Q} =>rfl;have ediv2:∀ {H:AH} {Q:az},cw .kM (.j (v/4)) (.j (1+kk)) H Q=Q (.j (v/4/(1+kk))) H:=fun{H Q} =>fC _ _ ⟨Int.ediv_nonneg hv0 (by decide),by omega,by omega⟩;have emod2:∀ {H:AH} {Q:az} (x:Int),cw .vt (.j x) (.j 2) H Q=Q (.j (x%2)) H:=fun{H Q} x=>ip x 2 (by decide);simp! [ediv,eadd,ediv2,emod2];refine iv (fun _=>?_) (fun _=>?_)
    ·refine X.x (kS (n:=n) ?_) (by omega);have l5':=G5.U;have hc_lt:=aM e5;have Gm:=G5.Y (.f (ns [9,6,5,3,10,0,7,1,8,6,4,2,9]));try simp_arith []
     refine X.x (cA (n:=n) Gm.R (by decide) (by have:=(G5.bd hb (Nat.le_refl _)).2.2.2;omega) fun H6 τ6 v6 G6 _ _ _ hv60 hv61=>?_) (by omega);have hm6:H6[H5.length]?=some (.f (ns [9,6,5,3,10,0,7,1,8,6,4,2,9])):=G6.N _ _ ae (by omega);have l6':=G6.U;simp only [List.length_append,List.length_singleton] at l6';refine X.x (o9 (n:=n) G6.R hm6 (by omega) (by decide) (by decide) (by decide) hv60 ⟨by decide,by decide⟩ ⟨by decide,by decide⟩ fun H7 ga as G7 hf hga0 hga hsub=>?_) (by omega);have G57:=(Gm.trans G6 (Nat.le_refl _)).trans G7.gr (Nat.le_refl _);try simp_arith []
     refine X.x (iQ (n:=n) G7.R (G57.cR std) hga (by omega) hf (by have:=(G57.bd hb (Nat.le_refl _)).1;omega) fun H8 τ8 t bs G8 kd hs=>?_) (by omega);have k8:∀(i:Nat) (o:ag),10<i→H5[i]?=some o→H8[i]?=some o:=fun i o hi e=>G8.N.kp i o (G7.N.kp i o (G6.N i o (af e) (by omega)) (.inr hi)) (.inr hi);have e4':=k8 _ _ (by omega) e4;have hga8:H8[ga]?=some (.f (ns as)):=G8.N.kp _ _ hga (.inr (by omega));obtain⟨c0',c1',tx',nm',hset,hset2,hc0',hc1'⟩:∃(c0' c1':V) (tx' nm':Option Nat),(∀ {G:AH→Prop},cD (.y H3.length) (.j kk) (.B [.j t,.j 0]) H8 G=G (H8.set H3.length (.f [c0',c1'])))∧(∀ {H:AH} {G:AH→Prop},H[H3.length+1]?=some (.f [.j (gF tx),.j (gF nm)])→cD (.y (H3.length+1)) (.j kk) (.j (ah as:Int)) H G=G (H.set (H3.length+1) (.f [.j (gF tx'),.j (gF nm')])))∧fY τ8 c0' tx'∧fY τ8 c1' nm':=by
      have le8:=(G6.le.trans G8.gI);have new:fY τ8 _ _:=.inr ⟨t,bs,rfl,Km.of kd hs hsub,by rw [ey hs]⟩;have z30:(0)<2^30:=by simp
      rcases hk01 with rfl|rfl
      ·exact⟨_,c1,_,nm,fun{G} =>by simp [cD,e4',Nat.zero_lt_succ],fun{H G} e=>by simp [cD,e,List.length_cons];rfl,new,le8.eN hc1⟩
      ·exact⟨c0,_,tx,_,fun{G} =>by simp only [cD,e4'];simp,fun{H G} e=>by simp only [cD,e];simp;rfl,le8.eN hc0,new⟩
     simp! [hset];have G9:=(G57.trans G8.gr (Nat.le_refl _)).set h (.f [c0',c1']) (g:=H3.length) (by omega);have hga9:(H8.set H3.length (.f [c0',c1']))[ga]?=some (.f (ns as)):=aa hga8 (by omega);have e1':(H8.set H3.length (.f [c0',c1']))[H.length]?=some (.i (bQ nms)):=aa (k8 _ _ (by omega) e1) (by omega);have e2':(H8.set H3.length (.f [c0',c1']))[H.length+1]?=some (.f ((cg ps3).map V.F)):=aa (k8 _ _ (by omega) e2) (by omega);have e3':(H8.set H3.length (.f [c0',c1']))[H.length+2]?=some (.f (ps3.map aV)):=aa (k8 _ _ (by omega) e3) (by omega);have e5':(H8.set H3.length (.f [c0',c1']))[H3.length+1]?=some (.f [.j (gF tx),.j (gF nm)]):=aa (k8 _ _ (by omega) e5) (by omega);have e4'':(H8.set H3.length (.f [c0',c1']))[H3.length]?=some (.f [c0',c1']):=aj e4';generalize H8.set H3.length (ag.f [c0',c1'])=H9 at G9 hga9 e1' e2' e3' e5' e4'';refine X.x (fV (n:=n) (as:=as) G9.R hga9 (by omega) hf.lt fun H10 G10=>?_) (by omega);have k10:∀(i:Nat) (o:ag),10<i→H9[i]?=some o→H10[i]?=some o:=fun i o hi e=>G10.N.kp i o e (.inr hi);simp! [hset2 (k10 _ _ (by omega) e5')];refine(qn _ _ ⟨τ8,c0',c1',tx',nm',_,_,w5,by omega,hrest,rfl,aa (k10 _ _ (by omega) e1') (by omega),aa (k10 _ _ (by omega) e2') (by omega),aa (k10 _ _ (by omega) e3') (by omega),aa (k10 _ _ (by omega) e4'') (by omega),aj (k10 _ _ (by omega) e5'),hc0',hc1',le5.trans (G6.le.trans G8.gI),((G9.trans G10.gr (Nat.le_refl _)).set h _ (by omega)).P (by omega)⟩).1
    ·exact(qn _ _ ⟨τ5,c0,c1,tx,nm,y5,_,w5,by omega,hrest,rfl,e1,e2,e3,e4,e5,hc0,hc1,le5,G5.P (by omega)⟩).1
   ·rintro _ H5 ⟨τ5,c0,c1,tx,nm,y5,z5,w5,hvl,hvm,rfl,e1,e2,e3,e4,e5,hc0,hc1,le5,G5⟩;refine⟨trivial,?_⟩;have l5':=G5.U;simp! [uq _ e3 (by rw [List.length_map];omega),aA _ 0 e4,aA _ 1 e4,G5.R.J];refine⟨by simp,rfl,X.x (fb G5.R (yg hc0 hc1) (by have:=(G5.bd hb (Nat.le_refl _)).1;omega) fun H6 τ6 id G6 hrow=>?_) (by omega)⟩;have k6:=fun i o hi e=>G6.N.kp i o e (.inr hi);have e5':=k6 _ _ (by omega) e5;simp! [aA _ 0 e5',aA _ 1 e5'];refine q H6 τ6 id _ _ nms tx nm _ ((G5.trans G6.gr (Nat.le_refl _)).P (by simp)) ⟨k6 _ _ (by omega) e1,by omega,by omega⟩ ⟨k6 _ _ (by omega) e2,by omega,by omega⟩ ⟨ps3,c0,c1,hrow,G6.gI.eN hc0,G6.gI.eN hc1,fun x hx=>?_,hn43,by omega,rfl⟩;unfold jF fL;rcases(pi3.P (le5.trans G6.gI)).pM x (n7z x hx) with⟨p,as,a,b,c,d⟩|⟨a,b⟩
    ·rw [a,d];exact⟨b,as,c,rfl⟩
    simp [*]
  have pi2:=pi.P G2.le;have hz4:∀(fl:Nat),∀p∈ps++[(H31.m "z",7,fl)],p.1∈dt:=fun fl p hp=>by
   rcases List.mem_append.mp hp with z|z
   ·simp [*]
   ·simp at z;rw [z];show H31.m "z"∈dt;decide
  have Gz:Gr 22 H (H2++[ag.f [.j 0,.j 8,.j 16,.j 0]]) τ τ2:=G12.Y _;have hpz:(H2++[ag.f [.j 0,.j 8,.j 16,.j 0]])[H.length+2]?=some (.f (ps.map aV)):=af hpn2;have zstep:∀(fl:Nat),Gr 22 H ((H2++[ag.f [.j 0,.j 8,.j 16,.j 0]]).set (H.length+2) (.f (ps.map aV++[aV (H31.m "z",7,fl)]))) τ τ2:=fun fl=>Gz.set h _ (by omega);have zp:∀(fl:Nat),((H2++[ag.f [.j 0,.j 8,.j 16,.j 0]]).set (H.length+2) (.f (ps.map aV++[aV (H31.m "z",7,fl)])))[H.length+2]?=some (.f ((ps++[(H31.m "z",7,fl)]).map aV)):=fun fl=>by rw [aj hpz];simp
  have zd:∀(fl:Nat),((H2++[ag.f [.j 0,.j 8,.j 16,.j 0]]).set (H.length+2) (.f (ps.map aV++[aV (H31.m "z",7,fl)])))[H.length]?=some (.i (bQ nms)):=fun fl=>aa (af hdn2) (by omega);have zs':∀(fl:Nat),((H2++[ag.f [.j 0,.j 8,.j 16,.j 0]]).set (H.length+2) (.f (ps.map aV++[aV (H31.m "z",7,fl)])))[H.length+1]?=some (.f ((cg ps).map V.F)):=fun fl=>aa (af hsn2) (by omega);have eapp:∀(fl:Nat) {G:AH→Prop},jE (.y (H.length+2)) (.B [.F (H31.m "z"),.j 7,.j (fl:Int),.j 0]) (H2++[ag.f [.j 0,.j 8,.j 16,.j 0]]) G=G ((H2++[ag.f [.j 0,.j 8,.j 16,.j 0]]).set (H.length+2) (.f (ps.map aV++[aV (H31.m "z",7,fl)]))):=fun fl {G} =>cS _ hpz (by rw [List.length_map];omega);rcases(by omega:c=0∨c=1∨c=2∨c=3) with rfl|rfl|rfl|rfl
  ·have fin:=rest (x:=x0) (y:=z0) G12 hdn2 hsn2 hpn2 pi2 (by omega) hn4;rw [hbody] at fin;simp! [fo] at fin;simp! [emod,show decide (((0:Nat):Int)>0)=false from rfl,show decide (((0:Nat):Int)=3)=false from rfl];omega
  ·have fin:=rest (x:=x0) (y:=z0) (zstep 8) (zd 8) (by rw [gi];exact zs' 8) (zp 8) (pi2.Ko 7 8) (by decide) (hz4 8);rw [hbody] at fin;simp! [fo] at fin;have es:∀ {F:V→Prop},aF _ (.j ((1:Nat))) (H2++[ag.f [.j 0,.j 8,.j 16,.j 0]]) F=F (.j ((8:Nat))):=fun{F} =>fw ae rfl (by simp);simp! [emod,show decide (((1:Nat):Int)>0)=true from rfl,show decide (((1:Nat):Int)=3)=false from rfl,bN _ hpn2,es,eapp 8];omega
  ·have fin:=rest (x:=x0) (y:=z0) (zstep 16) (zd 16) (by rw [gi];exact zs' 16) (zp 16) (pi2.Ko 7 16) (by decide) (hz4 16);rw [hbody] at fin;simp! [fo] at fin;have es:∀ {F:V→Prop},aF _ (.j ((2:Nat))) (H2++[ag.f [.j 0,.j 8,.j 16,.j 0]]) F=F (.j ((16:Nat))):=fun{F} =>fw ae rfl (by simp);simp! [emod,show decide (((2:Nat):Int)>0)=true from rfl,show decide (((2:Nat):Int)=3)=false from rfl,bN _ hpn2,es,eapp 16];omega
  ·have es:∀ {F:V→Prop},aF _ (.j ((3:Nat))) (H2++[ag.f [.j 0,.j 8,.j 16,.j 0]]) F=F (.j ((0:Nat))):=fun{F} =>fw ae rfl (by simp);simp! [emod,show decide (((3:Nat):Int)>0)=true from rfl,show decide (((3:Nat):Int)=3)=true from rfl,bN _ hpn2,es,eapp 0];have g0:=zstep 0;have g1:=zd 0;have g2:=zs' 0;have g3:=zp 0;generalize (H2++[ag.f _]).set _ _=H3 at g0 g1 g2 g3;have fin:=rest (x:=x0) (y:=z0) (H3:=H3.set (H.length+1) (.f ((cg ps).map V.F++[.F (H31.m "z")]))) (g0.set h _ (by omega)) (aa g1 (by omega)) (by rw [aj g2,gi];simp) (aa g3 (by omega)) (pi2.Ko 7 0) (by decide) (hz4 0);rw [hbody] at fin;simp! [fo] at fin;simp! [bN _ g2,cS _ g2 (by rw [List.length_map];omega)];omega
end
def fI (ids:List Int)(s:Int):Int:=ids.getD s.toNat 0
structure qK (A:Ad) (τ:Tb) (ids ups:List Int) (k:Nat) (id up:Int) (g:Nat) (S:List Int) (as:List Nat) (p:Nat):Prop where
 xl:ids[k]?=some id
 Mb:ups[k]?=some up
 t7:A g (.f (zs S))
 tm:Tm τ id (S.map (fI ids)) as p
 xk:∀s∈S,0≤s∧s≤(k:Int)
 hd:∃r,S=(k:Int)::r
 Md:p≤k-2
 N1:as=[16] ∨as=[9] ∨as=[10]
 aS:(k<3∧up= -3∧as=[16] ∧∃kt r,bj τ id (.j kt::r)∧kt∈ [8,9,11])∨(3≤k∧∃pid b,bj τ id [.j 10,.j pid] ∧vm τ pid b∧((0≤up∧up<(k:Int)∧hO b=fI ids up∧b=hO b)∨(up= -2∧hO b=6)∨(up= -1∧hO b=1)))
theorem qK.P {A A':Ad}{τ τ':Tb}{ids ups:List Int}{k:Nat}{id up:Int}{g:Nat}{S:List Int}{as:List Nat}{p:Nat}(h:qK A τ ids ups k id up g S as p)(hA:∀i o,A i o→A' i o)(le:dY τ τ'):qK A' τ' ids ups k id up g S as p:=
 ⟨h.xl,h.Mb,hA _ _ h.t7,h.tm.P le,h.xk,h.hd,h.Md,h.N1,h.aS.imp (fun⟨a,b,c,kt,r,d,e⟩=>⟨a,b,c,kt,r,le.I d,e⟩) fun⟨a,pid,b,c,d,e⟩=>⟨a,pid,b,le.I c,le.sM d,e⟩⟩
theorem nW {ids:List Int}{s x:Int}(h0:0≤s)(h:s.toNat<ids.length):fI (ids++[x]) s=fI ids s:=by unfold fI;grind
theorem qK.oo {A:Ad}{τ:Tb}{ids ups:List Int}{k:Nat}{id up:Int}{g:Nat}{S:List Int}{as:List Nat}{p:Nat}(h:qK A τ ids ups k id up g S as p)(x y:Int):qK A τ (ids++[x]) (ups++[y]) k id up g S as p:=by have hk:=j1 h.xl;refine⟨by rw [List.getElem?_append_left hk];exact h.xl,by rw [List.getElem?_append_left (j1 h.Mb)];exact h.Mb,h.t7,?_,h.xk,h.hd,h.Md,h.N1,h.aS.imp (by simp) fun⟨a,pid,b,c,d,e⟩=>⟨a,pid,b,c,d,e.imp (fun⟨u,v,w,z⟩=>⟨u,v,by rw [nW u (by omega)];omega,z⟩) (by simp)⟩⟩;have:S.map (fI (ids++[x]))=S.map _:=List.map_congr_left fun s hs=>nW (h.xk s hs).1 (by have:=(h.xk s hs).2;omega);rw [this];exact h.tm
structure TD where
 ri:Nat
 ui:Nat
 ei:Nat
 bi:Nat
 cm:List Int
 fO:List Int
 g:Nat→Nat
 S:Nat→List Int
 as:Nat→List Nat
 p:Nat→Nat
 d:Nat→Nat
 sr:Nat→Nat
 names:Nat→List (PySem.Str×Nat)
 tx:Nat→Option Nat
 nm:Nat→Option Nat
 z7:Nat→List PySem.Str
def TD.fP (T:TD)(n:Nat):List V:=(List.range n).map fun k=>bc (T.g k) (ah (T.as k))
def TD.dI (T:TD):V:=.B [.y T.ri,.y T.ui,.y T.ei,.y T.bi]
structure Nj (A:Ad) (τ:Tb) (T:TD):Prop where
 xg:A T.bi (.f ((List.range 3).map fun k=>mP (T.d k) (T.tx k) (T.nm k) (T.sr k)))
 dk:∀k<3,A (T.d k) (.i (bQ (T.names k)))
 sk:∀k<2,A (T.sr k) (.f ((T.z7 k).map V.F))
 o0:qC τ (fI T.cm 0) (T.names 0) (T.tx 0) (T.nm 0) (T.z7 0)
 o1:∃did gd fs u,bj τ (fI T.cm 1) [.j 9,.j did,.B []] ∧0≤did∧did<2^40∧τ.aH[did.toNat]?=some (.y gd)∧A gd (.J 2 fs)∧qj 16 fs=some (.B [])∧qj 15 fs=some (.j u)∧qC τ u (T.names 1) (T.tx 1) (T.nm 1) (T.z7 1)
 o2:T.names 2=[] ∧T.tx 2=none∧∃kid as,bj τ (fI T.cm 2) [.j 11,.j kid,.j 0] ∧Km τ kid as∧T.nm 2=some (ah as)
structure Th (A:Ad) (τ:Tb) (T:TD):Prop where
 M:A T.ri (.f (zs T.cm))
 fO:A T.ui (.f (zs T.fO))
 eV:A T.ei (.f (T.fP 6))
 U:T.cm.length=6
 jI:T.fO.length=6
 W:T.cm.Nodup
 vw:∀k,k<6→∃id up,qK A τ T.cm T.fO k id up (T.g k) (T.S k) (T.as k) (T.p k)
 sD:Nj A τ T
theorem Nj.P {A A':Ad}{τ τ':Tb}{T:TD}(h:Nj A τ T)(hA:∀i o,A i o→A' i o)(le:dY τ τ'):Nj A' τ' T:=by exact⟨hA _ _ h.xg,fun k hk=>hA _ _ (h.dk k hk),fun k hk=>hA _ _ (h.sk k hk),h.o0.P le,by obtain⟨did,gd,fs,u,a,b,c,d,e,f,g,i⟩:=h.o1;obtain⟨x,hx⟩:=le.aH;exact⟨did,gd,fs,u,le.I a,b,c,by grind,hA _ _ e,f,g,i.P le⟩,by obtain⟨a,b,kid,as,c,d,e⟩:=h.o2;exact⟨a,b,kid,as,le.I c,le.km d,e⟩⟩
theorem Th.P {A A':Ad}{τ τ':Tb}{T:TD}(h:Th A τ T)(hA:∀i o,A i o→A' i o)(le:dY τ τ'):Th A' τ' T:=
 ⟨hA _ _ h.M,hA _ _ h.fO,hA _ _ h.eV,h.U,h.jI,h.W,fun k hk=>let⟨id,up,e⟩:=h.vw k hk;⟨id,up,e.P hA le⟩,h.sD.P hA le⟩
def vf (H:AH)(L r u e:Nat):Ad:=fun i o=>H[i]?=some o∧L≤i∧10<i∧i≠r∧i≠u∧i≠e
theorem Gr.O1 {c L r u e:Nat}{H H':AH}{τ τ':Tb}(G:Gr c H H' τ τ'):∀i o,vf H L r u e i o→vf H' L r u e i o:=fun i o ⟨a,b,c,d⟩=>⟨G.N i o a (by omega),b,c,d⟩
structure w8 (H:AH) (L:Nat) (τ:Tb) (T:TD) (n:Nat):Prop where
 M:H[T.ri]?=some (.f (zs T.cm))
 fO:H[T.ui]?=some (.f (zs T.fO))
 eV:H[T.ei]?=some (.f (T.fP n))
 cF:T.ri≠T.ui∧T.ri≠T.ei∧T.ui≠T.ei
 ge:L≤T.ri∧L≤T.ui∧L≤T.ei
 U:T.cm.length=n
 jI:T.fO.length=n
 W:T.cm.Nodup
 vw:∀k,k<n→∃id up,qK (vf H L T.ri T.ui T.ei) τ T.cm T.fO k id up (T.g k) (T.S k) (T.as k) (T.p k)
 sD:Nj (vf H L T.ri T.ui T.ei) τ T
theorem w8.gr {c L n:Nat}{H H':AH}{τ τ':Tb}{T:TD}(h:w8 H L τ T n)(hL:10<L)(G:Gr c H H' τ τ'):w8 H' L τ' T n:=
 ⟨G.N _ _ h.M (by have:=h.ge;omega),G.N _ _ h.fO (by have:=h.ge;omega),G.N _ _ h.eV (by have:=h.ge;omega),h.cF,h.ge,h.U,h.jI,h.W,fun k hk=>let⟨id,up,e⟩:=h.vw k hk;⟨id,up,e.P G.O1 G.le⟩,h.sD.P G.O1 G.le⟩
theorem w8.th {L:Nat}{H:AH}{τ:Tb}{T:TD}(h:w8 H L τ T 6)(hL:10<L):Th (Na H L) τ T:=by have hA:∀i o,vf H L T.ri T.ui T.ei i o→Na H L i o:=fun i o ⟨a,b,c,_⟩=>⟨a,b,c⟩;obtain⟨g1,g2,g3⟩:=h.ge;exact⟨⟨h.M,g1,by omega⟩,⟨h.fO,g2,by omega⟩,⟨h.eV,g3,by omega⟩,h.U,h.jI,h.W,fun k hk=>let⟨id,up,e⟩:=h.vw k hk;⟨id,up,e.P hA (.aD τ)⟩,h.sD.P hA (.aD τ)⟩
def TD.fZ (T:TD)(n:Nat)(i up:Int)(g:Nat)(S:List Int)(as:List Nat)(p:Nat):TD:= {T with cm:=T.cm++[i],fO:=T.fO++[up],g:=fun k=>if k=n then g else T.g k,S:=fun k=>if k=n then S else T.S k,as:=fun k=>if k=n then as else T.as k,p:=fun k=>if k=n then p else T.p k}
theorem TD.xv (T:TD)(n:Nat)(i up:Int)(g:Nat)(S:List Int)(as:List Nat)(p:Nat):(T.fZ n i up g S as p).fP (n+1)=T.fP n++[bc g (ah as)] :=by
 unfold TD.fP TD.fZ;rw [List.range_succ,List.map_append];congr 1
 ·refine List.map_congr_left fun k hk=>?_;grind
 simp
theorem w8.fZ {L n:Nat}{H H':AH}{τ τ':Tb}{T:TD}(h:w8 H L τ T n)(hn:3≤n)(hL:10<L){i up:Int}{g:Nat}{S:List Int}{as:List Nat}{p:Nat}
 (keep:∀j o,H[j]?=some o→10<j→j≠T.ri→j≠T.ui→j≠T.ei→H'[j]?=some o) (le:dY τ τ')
 (hr:H'[T.ri]?=some (.f (zs (T.cm++[i])))) (hu:H'[T.ui]?=some (.f (zs (T.fO++[up])))) (he:H'[T.ei]?=some (.f (T.fP n++[bc g (ah as)])))
 (hni:i∉T.cm) (hent:qK (vf H' L T.ri T.ui T.ei) τ' (T.cm++[i]) (T.fO++[up]) n i up g S as p):w8 H' L τ' (T.fZ n i up g S as p) (n+1):=by
 have hA:∀j o,vf H L _ T.ui T.ei j o→vf H' L T.ri _ _ j o:=fun j o ⟨a,b,c,d⟩=>⟨by grind,b,c,d⟩
 have t3:=h.sD.P hA le
 have hf:∀s,0≤s→s<3→fI (T.cm++[i]) s=fI _ s:=fun s h0 h1=>nW h0 (by rw [h.U];omega)
 refine⟨hr,hu,by rw [TD.xv];exact he,h.cF,h.ge,by show(T.cm++[i]).length=_;simp [h.U],by show(T.fO++[up]).length=_;simp [h.jI],List.nodup_append.mpr ⟨h.W,by simp,by grind⟩,fun k hk=>?_,⟨t3.xg,t3.dk,t3.sk,by show qC τ' (fI (T.cm++[i]) 0) _ _ _ _;rw [hf 0 (by simp) (by simp)];exact t3.o0,by show∃did gd fs u,bj τ' (fI (T.cm++[i]) 1) _∧_;rw [hf 1 (by simp) (by simp)];exact t3.o1,by show _∧_∧∃kid as,bj τ' (fI (T.cm++[i]) 2) _∧_;rw [hf 2 (by simp) (by simp)];exact t3.o2⟩⟩
 ·by_cases e:k=n
  ·subst e;refine⟨i,up,?_⟩;show qK _ _ _ _ _ _ _ (if k=k then g else T.g k) (if k=k then S else T.S k) (if k=k then as else T.as k) (if k=k then p else T.p k);simp;trivial
  ·obtain⟨id,up',e1⟩:=h.vw k (by omega);refine⟨id,up',?_⟩;show qK _ _ _ _ _ _ _ (if k=n then g else T.g k) (if k=n then S else T.S k) (if k=n then as else T.as k) (if k=n then p else T.p k);simp [e];exact(e1.P hA le).oo i up
section
variable {H H':AH}{ρ ρ':Rs}{τ τ':Tb}{F:V→Prop}{Q:az}{n k m:Nat}
theorem Jj {c:Nat}{kind:Int}{x:PySem.Str}(h:aY H τ)(hl:τ.aH.length<2^18):Gr 1 H ((H++[ag.J 2 (fj τ.aH.length kind x (-1) (H.length+1) (H.length+2)),ag.f [],ag.f []]).set 7 (.f (τ.aH++[.y H.length]))) τ {τ with aH:=τ.aH++[.y H.length] } :=by
 have old:∀(i:Nat) (o:ag),H[i]?=some o→i≠7→((H++[ag.J 2 (fj τ.aH.length kind x (-1) (H.length+1) (H.length+2)),ag.f [],ag.f []]).set 7 (.f (τ.aH++[.y H.length])))[i]?=some o:=fun i o e hi=>by grind
 exact⟨⟨old _ _ h.J (by simp),old _ _ h.M (by simp),old _ _ h.i8 (by simp),aj (by rw [List.getElem?_append_left (aM h.aH)];exact h.aH),old _ _ h.Z (by simp),let⟨l,a,b⟩:=h.dQ;⟨l,old _ _ a (by simp),b⟩,let⟨l,a,b⟩:=h.names;⟨l,old _ _ a (by simp),b⟩,let⟨l,a⟩:=h.Mk;⟨l,old _ _ a (by simp)⟩,old _ _ h.d (by simp),old _ _ h.dZ (by simp),old _ _ h.jK (by simp),old _ _ h.sI (by simp),h.bG,h.W⟩,⟨by simp,by simp,by simp⟩,by simp,by simp,by simp,by simp,by grind,by simp⟩
theorem KW:(ah [16] :Int)=2048:=by rfl
theorem MP:(ah [9] :Int)=14272:=by rfl
theorem KX:(ah [10] :Int)=32767:=by rfl
def iS:List (List Int):=[[-2,1,-1,2,0],[3,1,0,3,-1],[0,3,1,4,-1]]
theorem tM:∀i<3,∀j<5,-2≤((iS.getD i []).getD j 0)∧((iS.getD i []).getD j 0)<(i+3:Nat):=by decide
theorem wi (h:aY H τ)(std:du τ)(hb:Bd τ k)(hk:k+200<2^18)
 (q:∀H' τ' T,Gr 150 H H' τ τ'→Th (Na H' H.length) τ' T→Q T.dI H'):X.w (n+6) 99 [.y 3,.y 4] H Q:=by
 delta j9
 have hl:=h.U
 obtain⟨loop,hloop⟩:∃loop:MS,loop=(.fq 10 (.B (.cons (.B (.cons (.k (.j (-2))) (.cons (.k (.j 1)) (.cons (.k (.j (-1))) (.cons (.k (.j 2)) (.cons (.k (.j 0)) (.m))))))) (.cons (.B (.cons (.k (.j 3)) (.cons (.k (.j 1)) (.cons (.k (.j 0)) (.cons (.k (.j 3)) (.cons (.k (.j (-1))) (.m))))))) (.cons (.B (.cons (.k (.j 0)) (.cons (.k (.j 3)) (.cons (.k (.j 1)) (.cons (.k (.j 4)) (.cons (.k (.j (-1))) (.m))))))) (.m))))) (.H 11 (.z (.h 10) (.w 88 (.cons (.h 0) (.cons (.k (.j 5)) (.m))))) (.H 12 (.dm (.cons (.pO .U (.cons (.h 6) (.m))) (.m))) (.bA (.bH .ge (.h 11) (.k (.j 0))) (.H 13 (.z (.h 6) (.h 11)) (.jn (.oo (.h 9) (.B (.cons (.hY .fZ (.h 12) (.z (.z (.h 9) (.h 11)) (.k (.j 0)))) (.cons (.z (.z (.h 9) (.h 11)) (.k (.j 1))) (.m))))) (.V))) (.bA (.bH .eq (.h 11) (.k (.j (-2)))) (.H 13 (.k (.j 6)) (.jn (.oo (.h 9) (.B (.cons (.h 12) (.cons (.k (.j 14272)) (.m))))) (.V))) (.H 13 (.Ka (.w 88 (.cons (.h 0) (.cons (.k (.j 2)) (.m))))) (.jn (.oo (.h 9) (.B (.cons (.h 12) (.cons (.k (.j 32767)) (.m))))) (.V))) (.V)) (.jn (.oo (.h 8) (.h 11)) (.jn (.oo (.h 6) (.w 6 (.cons (.h 1) (.cons (.k (.F (H31.m "T"))) (.cons (.h 13) (.cons (.k (.j (-1))) (.m))))))) (.V)))))) (.bL (.B (.cons (.h 6) (.cons (.h 8) (.cons (.h 9) (.cons (.h 7) (.m)))))))):=⟨_,rfl⟩
 have loop_c:∀ {H1:AH} {τ1:Tb} {T:TD} {a b c d:Option V},Gr 100 H H1 τ τ1→w8 H1 H.length τ1 T 3→wS (X.b (n+5)) loop [some (.y 3),some (.y 4),a,b,c,d,some (.y T.ri),some (.y T.bi),some (.y T.ui),some (.y T.ei),none,none,none,none] H1 (bX Q):=by
  intro H1 τ1 T0 a b c d G1 th0;rw [hloop];simp! [aG];refine br (fun vs env H2=>∃(i:Nat) (τ2:Tb) (T:TD) (x y z w:Option V),i≤3∧vs=(iS.drop i).map (fun l=>V.B (zs l))∧env=[some (.y 3),some (.y 4),a,b,c,d,some (.y T.ri),some (.y T.bi),some (.y T.ui),some (.y T.ei),x,y,z,w] ∧w8 H2 H.length τ2 T (3+i)∧Gr (100+4*i) H H2 τ τ2) ?_ ?_
   ⟨0,τ1,T0,none,none,none,none,by omega,rfl,rfl,th0,G1⟩
  ·rintro v r _ H2 ⟨i,τ2,T,x,y,z,w,hi,e,rfl,th,G2⟩;refine⟨trivial,fun q' qn _=>?_⟩;have hi3:i<3:=by
    refine Classical.byContradiction fun z=>?_;have:i=3:=by omega
    subst this;cases e
   obtain⟨ch,hch⟩:∃ch,ch=iS.getD i [] :=⟨_,rfl⟩;have hdrop:iS.drop i=ch::iS.drop (i+1):=by
    rw [hch];have:i=0∨i=1∨i=2:=by omega
    rcases this with rfl|rfl|rfl<;>rfl
   rw [hdrop] at e;simp only [List.map_cons,List.cons.injEq] at e;obtain⟨rfl,rfl⟩:=e;have hchl:ch.length=5:=by
    rw [hch];have:i=0∨i=1∨i=2:=by omega
    rcases this with rfl|rfl|rfl<;>rfl
   have l2:=G2.U;have tlen:(zs T.cm).length=3+i:=by simp [th.U]
   simp! [];refine X.x (cA (n:=n) G2.R (by decide) (by have:=(G2.bd hb (Nat.le_refl _)).2.2.2;omega) fun H3 τ3 v G3 _ _ _ hv0 hv1=>?_) (by omega);have th3:=th.gr (by omega) G3;have G23:=G2.trans G3 (Nat.le_refl _);obtain⟨up,hup⟩:∃up,up=ch.getD v.toNat 0:=⟨_,rfl⟩;have eup:∀ {F:V→Prop},aF (.B (zs ch)) (.j v) H3 F=F (.j up):=fun{F} =>by rw [hup];exact df hv0 (by omega) (by omega)
   have hupr: -2≤up∧up<(i+3:Nat):=by rw [hup,hch];exact tM i hi3 v.toNat (by omega)
   simp! [eup,bh _ th3.M,tlen];have thm:w8 (H3++[ag.f [.j ((3+i:Nat):Int)]]) H.length τ3 T (3+i):=th3.gr (by omega) ((Gr.aD G3.R (c:=0)).Y _);have Gm:Gr (100+4*i+1) H (H3++[ag.f [.j ((3+i:Nat):Int)]]) τ τ3:=G23.Y _;have hm:(H3++[ag.f [.j ((3+i:Nat):Int)]])[H3.length]?=some (.f [.j ((3+i:Nat):Int)]):=ae;have lm:=G23.U;generalize hHm:H3++[ag.f [.j ((3+i:Nat):Int)]] =Hm at thm Gm hm;have lmm:Hm.length=H3.length+1:=by rw [←hHm];simp
   obtain⟨ge1,ge2,ge3⟩:=thm.ge;have rlt:=aM th3.M;have ult:=aM th3.fO;have elt:=aM th3.eV;have after:∀ {H4:AH} {τ4:Tb} {b':Int} {g:Nat} {S:List Int} {as:List Nat} {p:Nat},Gr (100+4*i+2) H H4 τ τ4→w8 H4 H.length τ4 T (3+i)→vf H4 H.length T.ri T.ui T.ei g (.f (zs ((3+i:Nat)::S)))→(∀s∈S,0≤s∧s<((3+i:Nat):Int))→Tm τ4 (hO b') (S.map (fI T.cm)) as p→p+1≤3+i-2→(as=[16] ∨as=[9] ∨as=[10])→((0≤up∧hO b'=fI T.cm up∧b'=hO b')∨(up= -2∧hO b'=6)∨(up= -1∧hO b'=1))→(jE (.y T.ei) (bc g (ah as)) H4 fun H=>dK (.y T.ui) H=1∧jE (.y T.ui) (.j up) H fun H=>dK (.y T.ri) H=1∧X.w (n+5) 6 [.y 4,.F (H31.m "T"),.j b',.j (-1)] H fun v_1 H=>jE (.y T.ri) v_1 H fun H=>q' .a [some (.y 3),some (.y 4),a,b,c,d,some (.y T.ri),some (.y T.bi),some (.y T.ui),some (.y T.ei),some (.B (zs ch)),some (.j up),some (.y H3.length),some (.j b')] H):=by
    intro H4 τ4 b' g S as p G4 th4 hg hS htm hp has hbk;have tl4:(T.fP (3+i)).length<2^20:=by unfold TD.fP;rw [List.length_map,List.length_range];omega
    have bd4:=G4.bd hb (Nat.le_refl _);obtain⟨ap1,ap2,ap3⟩:=th4.cF;rw [cS _ th4.eV tl4];have u5:(H4.set T.ei (.f (T.fP (3+i)++[bc g (ah as)])))[T.ui]?=some (.f (zs T.fO)):=aa th4.fO ap3;have r5:(H4.set T.ei (.f (T.fP (3+i)++[bc g (ah as)])))[T.ri]?=some (.f (zs T.cm)):=aa th4.M ap2;have e5:(H4.set T.ei (.f (T.fP (3+i)++[bc g (ah as)])))[T.ei]?=some (.f (T.fP (3+i)++[bc g (ah as)])):=aj th4.eV;refine⟨bN _ u5,?_⟩;rw [cS _ u5 (by rw [List.length_map,th4.jI];omega)];obtain⟨H6,hH6⟩:∃H6,H6=(H4.set T.ei (.f (T.fP (3+i)++[bc g (ah as)]))).set T.ui (.f (zs T.fO++[.j up])):=⟨_,rfl⟩;have r6:H6[T.ri]?=some (.f (zs T.cm)):=by rw [hH6];exact aa r5 ap1
    have e6:H6[T.ei]?=some (.f (T.fP (3+i)++[bc g (ah as)])):=by rw [hH6];exact aa e5 (Ne.symm ap3)
    have u6:H6[T.ui]?=some (.f (zs (T.fO++[up]))):=by rw [hH6,aj u5];simp
    have k6:∀(j:Nat) (o:ag),H4[j]?=some o→j≠T.ei→j≠T.ui→H6[j]?=some o:=fun j o e a b=>by rw [hH6];exact aa (aa e a) b
    have G6:Gr (100+4*i+2) H H6 τ τ4:=by rw [hH6];exact(G4.set h _ ge3).set h _ ge2
    rw [←hH6];refine⟨bN _ r6,?_⟩;refine X.x (dr (n:=n) G6.R (by have:=bd4.1;omega) (by have:=bd4.2.1;omega) fun H7 τ7 j pid G7 _ _ hj hjb hjn=>?_) (by omega);have r7:=G7.N _ _ r6 (by omega);rw [cS _ r7 (by rw [List.length_map,th4.U];omega)];have k8:∀(j':Nat) (o:ag),H4[j']?=some o→10<j'→j'≠T.ri→j'≠T.ui→j'≠T.ei→(H7.set T.ri (.f (zs T.cm++[.j j])))[j']?=some o:=fun j' o e h10 a b c=>aa (G7.N _ _ (k6 j' o e c b) (by omega)) a;have hnj:j∉T.cm:=fun hm=>by
     obtain⟨kk,hkk⟩:=List.mem_iff_getElem?.mp hm;have hk3:=by have:=j1 hkk;rw [th4.U] at this;omega
     obtain⟨id,up',en⟩:=th4.vw kk hk3;have:=by simpa using en.xl.symm.trans hkk
     subst this;rcases en.aS with⟨_,_,_,kt,r,hr,hkt⟩|⟨_,pid',b2,hr,hb2,_⟩
     ·have:=(G7.le.I hr).bE hj;simp at this;rw [this.1] at hkt;exact absurd hkt (by simp)
     ·exact hjn id _ pid' hr rfl b2 hb2 rfl
    have hent:qK (vf (H7.set T.ri (.f (zs T.cm++[.j j]))) H.length T.ri T.ui T.ei) τ7 (T.cm++[j]) (T.fO++[up]) (3+i) j up g ((3+i:Nat)::S) as (p+1):=by
     refine⟨by rw [List.getElem?_append_right (by rw [th4.U];omega),th4.U];simp,by rw [List.getElem?_append_right (by rw [th4.jI];omega),th4.jI];simp,⟨k8 _ _ hg.1 hg.2.2.1 hg.2.2.2.1 hg.2.2.2.2.1 hg.2.2.2.2.2,hg.2.1,hg.2.2.1,hg.2.2.2⟩,?_,fun s hs=>?_,(by simp),hp,has,.inr ⟨by omega,pid,b',hj,hjb,?_⟩⟩
     ·rw [List.map_cons];have e1:fI (T.cm++[j]) ((3+i:Nat))=j:=by unfold fI;rw [Int.toNat_natCast,List.getD_eq_getElem?_getD,List.getElem?_append_right (by rw [th4.U];omega),th4.U];simp
      have e2:S.map (fI (T.cm++[j]))=S.map _:=List.map_congr_left fun s hs=>nW (hS s hs).1 (by have:=(hS s hs).2;rw [th4.U];omega);rw [e1,e2];exact .hU hj hjb (htm.P G7.le)
     ·rcases List.mem_cons.mp hs with z|z
      ·omega
      ·have:=hS s z;omega
     ·rcases hbk with⟨u1,u2,u3⟩|u|u
      ·refine .inl ⟨u1,by omega,?_,u3⟩;rw [nW u1 (by rw [th4.U];omega)];omega
      ·exact .inr (.inl u)
      omega
    exact(qn _ _ ⟨i+1,τ7,T.fZ (3+i) j up g ((3+i:Nat)::S) as (p+1),_,_,_,_,by omega,rfl,rfl,th4.fZ (H':=H7.set T.ri (.f (zs T.cm++[.j j]))) (by omega) (by omega) k8 G7.le (by rw [aj r7];simp) (aa (G7.N _ _ u6 (by omega)) (Ne.symm ap1)) (aa (G7.N _ _ e6 (by omega)) (Ne.symm ap2)) hnj hent,((G6.trans G7 (Nat.le_refl _)).set h _ ge1).P (by omega)⟩).1
   have std3:=G23.cR std;by_cases hup0:up≥0
   ·simp only [hup0,decide_true,if_true];have hupn:up.toNat<3+i:=by omega
    obtain⟨idu,upu,en⟩:=thm.vw up.toNat hupn;have es:∀ {F:V→Prop},aF (.y T.ri) (.j up) Hm F=F (.j (fI T.cm up)):=fun{F} =>by rw [aA _ _ thm.M];exact df hup0 (by rw [thm.U];omega) (by rw [thm.U];omega)
    have hid:fI T.cm up=idu:=by unfold fI;rw [List.getD_eq_getElem?_getD,en.xl];rfl
    have htr:(T.fP (3+i))[up.toNat]?=some (bc (T.g up.toNat) (ah (T.as up.toNat))):=by unfold TD.fP;rw [List.getElem?_map,List.getElem?_range hupn];rfl
    have et:∀ {H:AH} {F:V→Prop},H[T.ei]?=some (.f (T.fP (3+i)))→aF (.y T.ei) (.j up) H F=F (bc (T.g up.toNat) (ah (T.as up.toNat))):=fun{H F} e=>by rw [aA _ _ e,show up=((up.toNat)) from(Int.toNat_of_nonneg hup0).symm];exact cz _ htr (by omega)
    have s0:∀ {H:AH} {F:V→Prop},aF (bc (T.g up.toNat) (ah (T.as up.toNat))) (.j 0) H F=F (.y (T.g up.toNat)):=fun{H F} =>oH _ _ _;have s1:∀ {H:AH} {F:V→Prop},aF (bc (T.g up.toNat) (ah (T.as up.toNat))) (.j 1) H F=F (.j (ah (T.as up.toNat):Int)):=fun{H F} =>oG _ _ _ _;simp! [es,bN _ thm.eV,et thm.eV,s0];have hSl:(zs (T.S up.toNat)).length≤8:=by
     have:=en.tm;have hlen:∀ {t:Int} {c:List Int} {as:List Nat} {p:Nat},Tm τ3 t c as p→c.length≤p+1:=fun{t c as p} z=>by
      induction z with
      |cq _=>simp
      |o=>simp
      |ba _ _ _ _ _=>simp
      |gG _ _ _=>simp
      |hU _ _ _ ih=>simp;omega
     have:=hlen this;simp at this ⊢;have:=en.Md;omega
    rw [iM hm en.t7.1 (by simp only [List.length_singleton];omega)];have Gp:Gr (100+4*i+1) H (Hm++[ag.f ([.j ((3+i:Nat):Int)] ++zs (T.S up.toNat))]) τ τ3:=Gm.Y _;have thp:w8 (Hm++[ag.f ([.j ((3+i:Nat):Int)] ++zs (T.S up.toNat))]) H.length τ3 T (3+i):=thm.gr (by omega) ((Gr.aD Gm.R (c:=0)).Y _);simp! [et thp.eV,s1];refine after (b':=fI T.cm up) (g:=Hm.length) (S:=T.S up.toNat) (as:=T.as up.toNat) (p:=T.p up.toNat) (Gp.P (by omega)) thp ⟨ae,by omega,by omega,by omega,by omega,by omega⟩ (fun s hs=>by have:=en.xk s hs;omega) ?_ ?_ en.N1 (.inl ⟨hup0,?_,?_⟩)
    ·have hbp:hO (fI T.cm up)=idu:=by rw [hid];exact fM (by obtain⟨_,_,hr,_⟩:=en.tm.d5 std3;exact hr.1) (en.tm.cm std3).1
     rw [hbp];exact en.tm
    ·have:=en.Md;omega
    ·rw [hid];exact fM (by obtain⟨_,_,hr,_⟩:=en.tm.d5 std3;exact hr.1) (en.tm.cm std3).1
    ·rw [hid];exact(fM (by obtain⟨_,_,hr,_⟩:=en.tm.d5 std3;exact hr.1) (en.tm.cm std3).1).symm
   ·simp [hup0,if_false];by_cases hup2:up= -2
    ·simp [hup2,if_true];simp! [bN _ thm.eV];have fin:=after (b':=6) (S:=[]) (Gm.P (by omega)) thm ⟨hm,by omega,by omega,by omega,by omega,by omega⟩ (by simp) (.cq (std3.at (a:=9) rfl)) (by omega) (by simp) (.inr (.inl ⟨hup2,rfl⟩));unfold bc at fin;rw [MP,hup2] at fin;omega
    ·simp [hup2];have hup1:up= -1:=by omega
     refine X.x (cA (n:=n) Gm.R (by simp) (by have:=(Gm.bd hb (Nat.le_refl _)).2.2.2;omega) fun H5 τ5 v5 G5 _ _ _ hv50 hv51=>?_) (by omega);have G45:=Gm.trans G5 (Nat.le_refl _);have th5:=thm.gr (by omega) G5;simp! [bN _ th5.eV];have hb1:hO (-v5)=1:=if_pos (by omega);have fin:=after (S:=[]) ‹_› th5 ⟨G5.N _ _ hm (by omega),by omega,by omega,by omega,by omega,by omega⟩ (fun s hs=>nomatch hs) (by rw [hb1];exact .cq ((G45.cR std).at (a:=10) rfl)) (by omega) (by simp) (.inr (.inr ⟨hup1,hb1⟩));trivial
  ·rintro _ H2 ⟨i,τ2,T,x,y,z,w,hi,e,rfl,th,G2⟩;have:i=3:=by
    refine Classical.byContradiction fun z=>?_;have:i=0∨i=1∨i=2:=by omega
    rcases this with rfl|rfl|rfl<;>cases e
   subst this;exact⟨trivial,q H2 τ2 T (G2.P (by simp)) (th.th (by omega))⟩
 rw [←hloop]
 clear hloop
 simp! []
 refine X.x (oW (n:=n) h std hb (by omega) fun H1 τ1 id0 d0 sr0 nm0 tx0 nu0 su0 G1 hd0 hs0 o0=>?_) (by omega)
 have bd1:=G1.bd hb (Nat.le_refl _)
 have l1:=G1.U
 try simp_arith []
 refine X.x (oW (n:=n) G1.R (G1.cR std) bd1 (by omega) fun H2 τ2 u d1 sr1 nm1 tx1 nu1 su1 G2 hd1 hs1 o1=>?_) (by omega)
 have G12:=G1.trans G2 (Nat.le_refl _)
 have bd2:=G12.bd hb (Nat.le_refl _)
 have l2:=G12.U
 try simp_arith []
 refine X.x (oT (n:=n) G2.R.J G2.R.aH (by have:=bd2.2.2.1;omega) ?_) (by omega)
 have Gd:=Jj (c:=0) (kind:=2) (x:=H31.m "I") G2.R (by have:=bd2.2.2.1;omega)
 have hgd:((H2++[ag.J 2 (fj τ2.aH.length 2 (H31.m "I") (-1) (H2.length+1) (H2.length+2)),ag.f [],ag.f []]).set 7 (.f (τ2.aH++[.y H2.length])))[H2.length]?=some (.J 2 (fj τ2.aH.length 2 (H31.m "I") (-1) (H2.length+1) (H2.length+2))):=by refine aa ?_ (by omega);simp
 obtain⟨τd,hτd⟩:∃τd:Tb,τd= {τ2 with aH:=τ2.aH++[.y H2.length] } :=⟨_,rfl⟩
 rw [←hτd] at Gd
 generalize (H2++[ag.J 2 (fj τ2.aH.length 2 (H31.m "I") (-1) (H2.length+1) (H2.length+2)),ag.f [],ag.f []]).set 7 (ag.f (τ2.aH++[.y H2.length]))=Hd at Gd hgd
 have G1d:=G12.trans Gd (Nat.le_refl _)
 try simp_arith []
 rw [mS _ hgd (by decide) (by decide) (by show 15≤60;decide)]
 obtain⟨fs,hfs⟩:∃fs,fs=aL 15 (V.j u) (fj τ2.aH.length 2 (H31.m "I") (-1) (H2.length+1) (H2.length+2)):=⟨_,rfl⟩
 have f11:qj 11 fs=some (.j (τ2.aH.length:Int)):=by rw [hfs];rfl
 have f15:qj 15 fs=some (.j u):=by rw [hfs];rfl
 have f16:qj 16 fs=some (.B []):=by rw [hfs];rfl
 rw [←hfs]
 have Ge:=G1d.set h (.J 2 fs) (g:=H2.length) (by omega)
 have hge:(Hd.set H2.length (.J 2 fs))[H2.length]?=some (.J 2 fs):=aj hgd
 have ke:∀(i:Nat) (o:ag),H2[i]?=some o→10<i→(Hd.set H2.length (.J 2 fs))[i]?=some o:=fun i o e hi=>aa (Gd.N _ _ e (by omega)) (by have:=aM e;omega)
 generalize Hd.set H2.length (ag.J 2 fs)=He at Ge hge ke
 have hgd_lt:=aM hge
 refine X.x (kS (n:=n) ?_) (by omega)
 have Gm:=Ge.Y (.f (ns [9,6,5,3,10,0,7,1,8,6,4,2,9]))
 try simp_arith []
 have bde:=Ge.bd hb (Nat.le_refl _)
 refine X.x (cA (n:=n) Gm.R (by decide) (by have:=bde.2.2.2;omega) fun H5 τ5 v5 G5 _ _ _ hv50 hv51=>?_) (by omega)
 have hm5:H5[He.length]?=some (.f (ns [9,6,5,3,10,0,7,1,8,6,4,2,9])):=G5.N _ _ ae (by omega)
 have G15:=Gm.trans G5 (Nat.le_refl _)
 have l5:=G5.U
 simp only [List.length_append,List.length_singleton] at l5
 refine X.x (o9 (n:=n) G5.R hm5 (by omega) (by decide) (by decide) (by decide) hv50 ⟨by decide,by decide⟩ ⟨by decide,by decide⟩ fun H6 ga as G6 hf hga0 hga hsub=>?_) (by omega)
 have G16:=G15.trans G6.gr (Nat.le_refl _)
 have bd6:=G16.bd hb (Nat.le_refl _)
 have l6:=G6.N.U
 have k6:∀(i:Nat) (o:ag),He[i]?=some o→10<i→H6[i]?=some o:=fun i o e hi=>G6.N.kp _ _ (G5.N _ _ (af e) (by omega)) (.inr hi)
 have hgd6:=k6 _ _ hge (by omega)
 have le26:dY τ2 τ5:=Gd.le.trans G5.le
 have g11:∀ {H:AH} {F:V→Prop},H[H2.length]?=some (.J 2 fs)→aX (.y H2.length) 11 H F=F (.j (τ2.aH.length:Int)):=fun{H F} e=>bO _ e (by decide) (by decide) f11
 simp! [G6.R.J,g11 hgd6]
 simp only [ng]
 refine⟨by decide,rfl,?_⟩
 refine X.x (fb G6.R (l:=[.j 9,.j (τ2.aH.length:Int),.B []]) rfl (by have:=bd6.1;omega) fun H7 τ7 id1 G7 hr1=>?_) (by omega)
 have G17:=G16.trans G7.gr (Nat.le_refl _)
 have bd7:=G17.bd hb (Nat.le_refl _)
 simp! [G7.R.J]
 simp only [ng]
 refine⟨by decide,rfl,?_⟩
 have hga7:H7[ga]?=some (.f (ns as)):=G7.N.kp _ _ hga (.inr (by omega))
 refine X.x (iQ (n:=n) G7.R (G17.cR std) hga7 (by omega) hf (by have:=bd7.1;omega) fun H8 τ8 t bs G8 kd hs=>?_) (by omega)
 have G18:=G17.trans G8.gr (Nat.le_refl _)
 have bd8:=G18.bd hb (Nat.le_refl _)
 have km:=Km.of kd hs hsub
 refine X.x (fb G8.R (l:=[.j 11,.j t,.j 0]) rfl (by have:=bd8.1;omega) fun H9 τ9 id2 G9 hr2=>?_) (by omega)
 have G19:Gr 95 H H9 τ τ9:=(G18.trans G9.gr (Nat.le_refl _)).P (by decide)
 have l9:H6.length≤H9.length:=Nat.le_trans G7.N.U (Nat.le_trans G8.N.U G9.N.U)
 have k9:∀(i:Nat) (o:ag),H6[i]?=some o→10<i→H9[i]?=some o:=fun i o e hi=>G9.N.kp _ _ (G8.N.kp _ _ (G7.N.kp _ _ e (.inr hi)) (.inr hi)) (.inr hi)
 have le29:dY τ2 τ9:=le26.trans (G7.gI.trans (G8.gI.trans G9.gI))
 try simp_arith []
 obtain⟨Hr,hHr⟩:∃Hr,Hr=H9++[ag.f [.j id0,.j id1,.j id2]] ++[ag.i []] :=⟨_,rfl⟩
 have lr1:(H9++[ag.f [.j id0,.j id1,.j id2]]).length=H9.length+1:=by simp
 have lr:Hr.length=H9.length+2:=by rw [hHr];simp
 have Gr_:Gr 95 H Hr τ τ9:=by rw [hHr];exact(G19.Y _).Y _
 have kr:∀(i:Nat) (o:ag),H9[i]?=some o→Hr[i]?=some o:=fun i o e=>by rw [hHr];exact af (af e)
 have rr:Hr[H9.length]?=some (.f (zs [id0,id1,id2])):=by rw [hHr];exact af ae
 have rd:Hr[H9.length+1]?=some (.i (bQ [])):=by rw [hHr,←lr1];exact ae
 rw [←hHr,lr1]
 have hga9:=k9 _ _ hga (by omega)
 refine X.x (fV (n:=n) (as:=as) Gr_.R (kr _ _ hga9) (by omega) hf.lt fun Ha Ga=>?_) (by omega)
 have G1a:Gr 95 H Ha τ τ9:=Gr_.trans Ga.gr (Nat.le_refl _)
 have la:=Ga.N.U
 have ka:∀(i:Nat) (o:ag),Hr[i]?=some o→10<i→Ha[i]?=some o:=fun i o e hi=>Ga.N.kp _ _ e (.inr hi)
 try simp_arith []
 obtain⟨tb0,htb0⟩:∃tb0:ag,tb0=.f [mP d0 tx0 nu0 sr0,mP d1 tx1 nu1 sr1,mP (H9.length+1) none (some (ah as)) Ha.length] :=⟨_,rfl⟩
 obtain⟨Hz,hHz⟩:∃Hz,Hz=Ha++[ag.f [],tb0,.f (zs [-3,-3,-3]),.f (zs [0]),.f (zs [1]),.f (zs [2]),.f [bc (Ha.length+3) 2048,bc (Ha.length+4) 2048,bc (Ha.length+5) 2048]] :=⟨_,rfl⟩
 have at_:∀(j:Nat) (x:ag),([ag.f [],tb0,.f (zs [-3,-3,-3]),.f (zs [0]),.f (zs [1]),.f (zs [2]),.f [bc (Ha.length+3) 2048,bc (Ha.length+4) 2048,bc (Ha.length+5) 2048]] :AH)[j]?=some x→Hz[Ha.length+j]?=some x:=fun j x e=>by rw [hHz,List.getElem?_append_right (by omega),show Ha.length+j-Ha.length=j by omega];omega
 have kz:∀(i:Nat) (o:ag),Ha[i]?=some o→Hz[i]?=some o:=fun i o e=>by rw [hHz,List.getElem?_append_left (aM e)];exact e
 have Gz:Gr 95 H Hz τ τ9:=by
  have:=((((((G1a.Y (.f [])).Y tb0).Y (.f (zs [-3,-3,-3]))).Y (.f (zs [0]))).Y (.f (zs [1]))).Y (.f (zs [2]))).Y (.f [bc (Ha.length+3) 2048,bc (Ha.length+4) 2048,bc (Ha.length+5) 2048]);have e:Hz=Ha++[ag.f []] ++[tb0] ++[.f (zs [-3,-3,-3])] ++[.f (zs [0])] ++[.f (zs [1])] ++[.f (zs [2])] ++[.f [bc (Ha.length+3) 2048,bc (Ha.length+4) 2048,bc (Ha.length+5) 2048]] :=by simp [*]
  rw [e];omega
 obtain⟨T,hT⟩:∃T:TD,T=⟨H9.length,Ha.length+2,Ha.length+6,Ha.length+1,[id0,id1,id2],[-3,-3,-3],fun k=>Ha.length+3+k,fun k=>[(k:Int)],fun _=>[16],fun _=>0,fun k=>[d0,d1,H9.length+1].getD k 0,fun k=>[sr0,sr1,Ha.length].getD k 0,fun k=>[nm0,nm1,[]].getD k [],fun k=>[tx0,tx1,none].getD k none,fun k=>[nu0,nu1,some (ah as)].getD k none,fun k=>[su0,su1].getD k []⟩:=⟨_,rfl⟩
 have fin:=loop_c (H1:=Hz) (τ1:=τ9) (T:=T) (a:=some (.B [.j id0,mP d0 tx0 nu0 sr0])) (b:=some (.B [.j u,mP d1 tx1 nu1 sr1])) (c:=some (.y H2.length)) (d:=some (.y ga)) (Gz.P (by decide)) ?_
 ·rw [hT] at fin;rw [hHz,htb0] at fin;simpa [mP,bc,gF] using fin
 have kk:∀(i:Nat) (o:ag),H2[i]?=some o→10<i→Hz[i]?=some o:=fun i o e hi=>kz _ _ (ka _ _ (kr _ _ (k9 _ _ (k6 _ _ (ke _ _ e hi) hi) hi)) hi)
 have na:∀(i:Nat) (o:ag),Na H2 H.length i o→vf Hz H.length T.ri T.ui T.ei i o:=fun i o ⟨a,b,c⟩=>by have:=aM a;rw [hT];exact⟨kk _ _ a c,b,c,by show i≠H9.length;omega,by show i≠Ha.length+2;omega,by show i≠Ha.length+6;omega⟩
 have na9:∀(i:Nat) (o:ag),Hz[i]?=some o→H9.length<i→i≠Ha.length+2→i≠Ha.length+6→vf Hz H.length T.ri T.ui T.ei i o:=fun i o a b c d=>by rw [hT];exact⟨a,by omega,by omega,by show i≠H9.length;omega,c,d⟩
 have hd0':=na _ _ ((G2.na (L:=H.length)) _ _ hd0)
 have hs0':=na _ _ ((G2.na (L:=H.length)) _ _ hs0)
 have hd1':=na _ _ (show Na H2 H.length d1 _ from⟨hd1.1,by have:=hd1.2.1;omega,hd1.2.2⟩)
 have hs1':=na _ _ (show Na H2 H.length sr1 _ from⟨hs1.1,by have:=hs1.2.1;omega,hs1.2.2⟩)
 obtain⟨ps0,c00,c10,r0',o0'⟩:=o0
 have r0:bj τ9 id0 (dC ps0 c00 c10):=le29.I (G2.le.I r0')
 have r1:bj τ9 id1 [.j 9,.j (τ2.aH.length:Int),.B []] :=(G8.gI.trans G9.gI).I hr1
 have e16:ah [16] =2048:=by decide+kernel
 have ids_ne:[id0,id1,id2].Nodup:=by
  have n1:id0≠id1:=fun e=>by rw [e] at r0;have:=r0.bE r1;simp [dC] at this
  have n2:id0≠id2:=fun e=>by rw [e] at r0;have:=r0.bE hr2;simp [dC] at this
  have n3:id1≠id2:=fun e=>by rw [e] at r1;have:=r1.bE hr2;simp at this
  simp [*]
 have ent3:∀(k:Nat) (id:Int),k<3→[id0,id1,id2][k]?=some id→(∃kt r,bj τ9 id (.j kt::r)∧kt∈ [8,9,11] ∧dH (.j kt::r))→∃id up,qK (vf Hz H.length T.ri T.ui T.ei) τ9 T.cm T.fO k id up (T.g k) (T.S k) (T.as k) (T.p k):=fun k id hk hid ⟨kt,r,hr,hkt,hst⟩=>by
  refine⟨id,-3,?_⟩;have hf:fI [id0,id1,id2] (k)=id:=by unfold fI;rw [Int.toNat_natCast,List.getD_eq_getElem?_getD,hid];rfl
  have hlist:([ag.f [],tb0,.f (zs [-3,-3,-3]),.f (zs [0]),.f (zs [1]),.f (zs [2]),.f [bc (Ha.length+3) 2048,bc (Ha.length+4) 2048,bc (Ha.length+5) 2048]])[3+k]?=some (.f (zs [(k)])):=by
   have:k=0∨k=1∨k=2:=by omega
   rcases this with rfl|rfl|rfl<;>rfl
  have hup:([-3,-3,-3])[k]?=some (-3):=by
   have:k=0∨k=1∨k=2:=by omega
   rcases this with rfl|rfl|rfl<;>rfl
  have hg:=na9 _ _ (by have:=at_ _ _ hlist;rw [←Nat.add_assoc] at this;omega) (by omega) (by omega) (by omega);have htm:Tm τ9 id ([(k:Int)].map (fI [id0,id1,id2])) [16] 0:=by rw [List.map_cons,hf];refine .gG hr hst ?_;simp at hkt ⊢;omega
  rw [hT] at hg ⊢;exact⟨hid,hup,hg,htm,(by simp),(by simp),(by simp),.inl rfl,.inl ⟨hk,rfl,rfl,kt,r,hr,hkt⟩⟩
 refine⟨?_,?_,?_,?_,?_,by rw [hT];rfl,by rw [hT];rfl,by rw [hT];exact ids_ne,fun k hk=>?_,⟨?_,fun k hk=>?_,fun k hk=>?_,?_,?_,?_⟩⟩
 ·rw [hT];show Hz[H9.length]?=_;exact kz _ _ (ka _ _ rr (by omega))
 ·rw [hT];exact at_ 2 _ rfl
 ·rw [hT];exact at_ 6 _ rfl
 ·rw [hT];show H9.length≠Ha.length+2∧H9.length≠Ha.length+6∧Ha.length+2≠Ha.length+6;omega
 ·rw [hT];show H.length≤H9.length∧H.length≤Ha.length+2∧H.length≤Ha.length+6;omega
 ·have:k=0∨k=1∨k=2:=by omega
  rcases this with rfl|rfl|rfl
  ·exact ent3 0 id0 (by simp) rfl ⟨8,_,r0,by simp,8,_,rfl,(by simp)⟩
  ·exact ent3 1 id1 (by simp) rfl ⟨9,_,r1,by simp,9,_,rfl,(by simp)⟩
  ·exact ent3 2 id2 (by simp) rfl ⟨11,_,hr2,by simp,11,_,rfl,(by simp)⟩
 ·have:=na9 _ _ (at_ 1 _ rfl) (by omega) (by omega) (by omega);rw [htb0] at this;rw [hT] at this ⊢;exact this
 ·have:k=0∨k=1∨k=2:=by omega
  rcases this with rfl|rfl|rfl
  ·rw [hT] at hd0' ⊢;exact hd0'
  ·rw [hT] at hd1' ⊢;exact hd1'
  ·have:=na9 _ _ (kz _ _ (ka _ _ rd (by omega))) (by omega) (by omega) (by omega);rw [hT] at this ⊢;exact this
 ·have:k=0∨k=1:=by omega
  rcases this with rfl|rfl
  ·rw [hT] at hs0' ⊢;exact hs0'
  ·rw [hT] at hs1' ⊢;exact hs1'
 ·rw [hT];exact qC.P le29 (qC.P G2.le ⟨ps0,c00,c10,r0',o0'⟩)
 ·have hgz:vf Hz H.length T.ri T.ui T.ei H2.length (.J 2 fs):=by rw [hT];exact⟨kz _ _ (ka _ _ (kr _ _ (k9 _ _ hgd6 (by omega))) (by omega)),by omega,by omega,by show H2.length≠H9.length;omega,by show H2.length≠Ha.length+2;omega,by show H2.length≠Ha.length+6;omega⟩
  have leD:=G5.le.trans (G7.gI.trans (G8.gI.trans G9.gI));obtain⟨x,hx⟩:=leD.aH;have hdl:=bd2.2.2.1;rw [hT] at hgz ⊢;refine⟨_,_,fs,u,r1,by omega,by omega,?_,hgz,f16,f15,o1.P le29⟩;simp [*]
 ·rw [hT];exact⟨rfl,rfl,t,bs,hr2,G9.gI.km km,by rw [ey hs];rfl⟩
end
def jc:MS:=.H 24 (.pO .U (.cons (.bB (.bB (.h 2) 44) 0) (.m))) (.H 25 (.w 82 (.cons (.h 2) (.cons (.h 16) (.cons (.z (.bB (.h 1) 0) (.h 16)) (.cons (.B (.cons (.k (.j 15)) (.cons (.z (.h 6) (.h 10)) (.cons (.z (.h 11) (.k (.j 0))) (.m))))) (.m)))))) (.bA (.dy (.cons (.bH .ne (.h 25) (.pK (.cons (.h 20) (.cons (.h 22) (.m))))) (.cons (.pK (.cons (.h 25) (.cons (.gH (.h 14)) (.m)))) (.m)))) (.bL (.k (.D false))) (.V) (.H 26 (.bA (.h 25) (.g7 (.B (.cons (.h 28) (.cons (.bB (.h 2) 23) (.m)))) 28 (.h 23) (.k (.D true))) (.dm (.m))) (.bA (.bH .ne (.oi (.bB (.bB (.h 2) 44) 0) (.h 24) .m) (.h 26)) (.bL (.k (.D false))) (.V) (.iV (.h 2) 45 (.k (.D false)) (.H 27 (.w 82 (.cons (.h 2) (.cons (.h 16) (.cons (.z (.bB (.h 1) 0) (.h 16)) (.cons (.B (.cons (.k (.j 15)) (.cons (.z (.h 6) (.h 10)) (.cons (.z (.h 11) (.k (.j 0))) (.m))))) (.m)))))) (.iV (.h 2) 45 (.k (.D true)) (.bL (.dy (.cons (.bH .eq (.h 27) (.h 25)) (.cons (.bH .eq (.oi (.bB (.bB (.h 2) 44) 0) (.h 24) .m) (.h 26)) (.m))))))))))))
theorem u9.N {H H':AH}{τ τ':Tb}{mode obj idx:Int}{own wide:Bool}{sec:Option Nat}(h:u9 H τ mode obj idx own wide sec)(le:dY τ τ')(k:∀(g:Nat) (fs:List (Nat×V)),H[g]?=some (.J 2 fs)→H'[g]?=some (.J 2 fs)):u9 H' τ' mode obj idx own wide sec:=by
 rcases h with⟨a,⟨k1,r1,b⟩,c⟩|⟨a,b,arr,f,tx,nm,hb,hao,hc⟩
 ·exact .inl ⟨a.imp id fun z=>z.imp id fun⟨ko,r,x,y⟩=>⟨ko,r,le.I x,y⟩,⟨k1,r1,le.I b⟩,c⟩
 ·exact .inr ⟨a,b,arr,f,tx,nm,hb.N le k,hao,hc.imp (fun⟨L,as,x,y,z⟩=>⟨L,as,le.jL x,le.My y,z⟩) fun⟨pid,x,y⟩=>⟨pid,le.I x,y⟩⟩
theorem wy {H:AH}{r:Nat}{fs0 fs1:List (Nat×V)}(e:H[r]?=some (.J 5 fs0)):∀(g:Nat) (fs:List (Nat×V)),H[g]?=some (.J 2 fs)→(H.set r (.J 5 fs1))[g]?=some (.J 2 fs):=fun g fs e2=>aa e2 (by grind)
section
variable {H H':AH}{ρ ρ':Rs}{τ τ':Tb}{F:V→Prop}{Q:az}{n k m:Nat}
theorem W.kV (w:W H τ ρ k m)(b:Bool):W (H.set ρ.r (.J 5 (cM {ρ with kV:=b}))) τ {ρ with kV:=b} k m∧Mv H (H.set ρ.r (.J 5 (cM {ρ with kV:=b}))) τ τ {ρ with kV:=b} {ρ with kV:=b} :=by have I:=w.sG;refine⟨⟨w.bC.R w.R (by constructor),w.cR,w.bC.pN rfl rfl rfl rfl rfl,⟨I.kn,I.as,I.qQ,I.M,I.v,I.aT,I.cC⟩,w.tl,w.bM,w.v,w.bd,w.Q,w.aP⟩,⟨.aD τ,fun i o e hi hp=>⟨aa e ?_,hp⟩,by simp,rfl⟩⟩;intro z;apply hp;rw [z];constructor
theorem rj (w:W H τ ρ k m)(b:Bool){G:AH→Prop} :ij (.y ρ.r) 45 (.D b) H G=G (H.set ρ.r (.J 5 (cM {ρ with kV:=b}))):=mS H w.bC.J (by simp) (by rfl) (by show 14≤60;simp)
theorem jv (ρ:Rs)(l:List Int):(V.B (l.map (bg ρ))).bG=true:=by
 induction l with
 |nil=>rfl
 |cons a r ih=>trivial
theorem r9 {l x:List V} :fu (l++x) (some (l.length:Int)) none=x:=by
 unfold fu qq;have e:min (l.length:Int).toNat (l++x).length=l.length:=by simp
 simp;grind
theorem uw {g:Nat}{l:List V}{codes want:List Int}(op:Bool)(w:W H τ ρ k m)(hr:ρ.M=l++codes.map (bg ρ))(hg:H[g]?=some (.f (want.map (bg ρ))))(hk:k≤19000){env:En}{C:z4}(h2:env[2]?=some (some (.y ρ.r)))(h24:env[24]?=some (some (.j (l.length:Int))))(h26:env[26]?=some (some (.y g))){P:Bool→AH→Prop}
 (q:P (if op=true then decide (codes.map (bg ρ)=want.map (bg ρ)) else !decide (codes.map (bg ρ)=want.map (bg ρ))) (H++[.f (codes.map (bg ρ))])):
 (wX C (.bH (if op=true then .eq else .ne) (.oi (.bB (.bB (.h 2) 44) 0) (.h 24) .m) (.h 26))).T env H P:=by
 have wn:=w.aP
 have hs:∀ {Q:az},d7 (.y ρ.aO) (some (.j _)) none H Q=Q _ _:=fun{Q} =>by
  have hlt:ρ.M.length<2^20:=by omega
  simp [d7,lj,w.bC.aO,hlt];rw [hr,r9]
 have e1:(H++[ag.f (codes.map (bg ρ))])[H.length]?=some _:=ae
 have e2:(H++[ag.f (codes.map (bg ρ))])[g]?=some _:=af hg
 cases op with
 |true=>
  simp at q ⊢
  simp! [og _ _ _ _ (.h 24) rfl,h2,h24,h26,w.bC.eC,w.bC.eB,hs,aI,qo,e1,e2,jv]
  omega
 |false=>
  simp at q ⊢
  simp! [og _ _ _ _ (.h 24) rfl,h2,h24,h26,w.bC.eC,w.bC.eB,hs,aI,qo,e1,e2,jv]
  omega
theorem IK {s th key obj idx place:Int}{ri gc:Nat}{ids:List Int}{own wide first then_ freely:Bool}{sec:Option Nat}{lies n1:Nat→Bool}{ra:List V}{codes:List Int}{kv:V}{e3 e4 e5 e7 e8 e9 e12 e13 e15 e17 e18 e19 e21:Option V}
 (w:W H τ ρ k 20) (htell:ρ.kV=true) (hfar:ρ.cC=[]) (hrow:bj τ s ra) (hri:Wa H ρ ri (.f (zs ids))) (hpl:0≤place∧place.toNat<ids.length∧ids.length<2^20) (hth:th=fI ids place) (hkv:∀ {H:AH} {F:V→Prop},aF kv (.j 0) H F=F (.j key))
 (hf:N3 τ ρ.v ra th key first) (ho:qI τ th obj own) (hi:sC τ key idx) (hs:u9 H τ ρ.v obj idx own wide sec) (hsr:JH τ ρ.v s lies n1)
 (hgc:Wa H ρ gc (.f (codes.map V.j))) (hcl:codes.length≤4)
 (hc1:(first||(dv sec lies n1 own wide).1)=true→codes=if first=true then [] else(dv sec lies n1 own wide).2)
 (hc2:(first||(dv sec lies n1 own wide).1)=(first||then_)∨((first||(dv sec lies n1 own wide).1)=false∧freely=true)) (hk:k+1500≤19000)
 (q:∀H' τ' ρ',W H' τ' ρ' (k+1500) 20→Mv H H' τ τ' ρ ρ'→Q (.D true) H'):
 wS (X.b (n+182)) jc [some (.y 3),some (.y 4),some (.y ρ.r),e3,e4,e5,some (.y ri),e7,e8,e9,some (.j place),some kv,e12,e13,some (.D freely),e15,some (.j s),e17,e18,e19,some (.D first),e21,some (.D then_),some (.y gc),none,none,none,none,none] H (bX Q):=by
 obtain⟨C1,hC1⟩:∃C1:MX,C1=(.bH .ne (.oi (.bB (.bB (.h 2) 44) 0) (.h 24) .m) (.h 26)):=⟨_,rfl⟩
 obtain⟨C2,hC2⟩:∃C2:MX,C2=(.bH .eq (.oi (.bB (.bB (.h 2) 44) 0) (.h 24) .m) (.h 26)):=⟨_,rfl⟩
 obtain⟨told,htold⟩:∃told,told=(first||(dv sec lies n1 own wide).1):=⟨_,rfl⟩
 obtain⟨cds,hcds⟩:∃cds,cds=(if first=true then [] else(dv sec lies n1 own wide).2):=⟨_,rfl⟩
 rw [←htold,←hcds] at hc1
 have hno:told=false→cds=[] :=fun e=>by rw [htold] at e;simp at e;rw [hcds];have e2:=e.2;unfold dv at e2 ⊢;grind
 unfold jc
 rw [←hC1,←hC2]
 have esub:∀ {H:AH} {F:V→Prop},H[ri]?=some (.f (zs ids))→aF (.y ri) (.j place) H F=F (.j th):=fun{H F} e=>by rw [aA _ _ e,hth];exact df hpl.1 hpl.2.1 hpl.2.2
 simp! [w.bC.eC,w.bC.eB,bh _ w.bC.aO,w.R.bx,w.R.I hrow,esub hri.1,hkv]
 refine X.x (oE (n:=n) w hfar hf ho hi hs hsr (by omega) fun H1 τ1 ρ1 w1 m1 hr1=>?_) (by omega)
 rw [←htold]
 rw [←hcds] at hr1
 have hte:dq ρ cds=cds.map (bg ρ1):=by unfold dq bg;rw [htell,m1.jo];rfl
 rw [hte] at hr1
 have hgc1:=m1.wa _ _ hgc
 have go:∀ {P:Prop},P→(if first=true then(if(!decide (told=first))=true then(if told=true then Q (.D false) H1 else(if(!freely)=true then Q (.D false) H1 else P)) else P) else(if(!decide (told=then_))=true then(if told=true then Q (.D false) H1 else(if(!freely)=true then Q (.D false) H1 else P)) else P)):=fun{P} z=>by grind
 have wanted:∀ {H2:AH} {g2:Nat},Gr 0 H1 H2 τ1 τ1→Wa H2 ρ1 g2 (.f (cds.map (bg ρ1)))→(wX (X.b (n+182)) C1).T [some (.y 3),some (.y 4),some (.y ρ.r),e3,e4,e5,some (.y ri),e7,e8,e9,some (.j place),some kv,e12,e13,some (.D freely),e15,some (.j s),e17,e18,e19,some (.D first),e21,some (.D then_),some (.y gc),some (.j (ρ.M.length:Int)),some (.D told),some (.y g2),none,none] H2 fun r H=>if r=true then Q (.D false) H else ij (.y ρ.r) 45 (.D false) H fun H=>aX (.y 4) 0 H fun v=>aF v (.j s) H fun v=>aF (.y ri) (.j place) H fun v_1=>X.w (n+182) 82 [.y ρ.r,.j s,v,.B [.j 15,v_1,.j key]] H fun v H=>ij (.y ρ.r) 45 (.D true) H fun H=>aI .eq v (.D told) H fun r=>if r=true then(wX (X.b (n+182)) C2).E [some (.y 3),some (.y 4),some (.y ρ.r),e3,e4,e5,some (.y ri),e7,e8,e9,some (.j place),some kv,e12,e13,some (.D freely),e15,some (.j s),e17,e18,e19,some (.D first),e21,some (.D then_),some (.y gc),some (.j (ρ.M.length:Int)),some (.D told),some (.y g2),some v,none] H Q else Q (.D r) H:=by
  intro H2 g2 G2 hg2;have w2:=w1.gr (n:=k+700) G2 (by omega);rw [hC1];refine uw false w2 hr1 hg2.1 (by omega) (by rw [m1.r];rfl) rfl rfl ?_;simp only;have G3:Gr 0 H1 (H2++[ag.f (cds.map (bg ρ1))]) τ1 τ1:=G2.Y _;have w3:=w1.gr (n:=k+700) G3 (by omega);have m3:=m1.trans (G3.mv (ρ:=ρ1));have hg3:=((Gr.aD w2.R (c:=0)).Y (.f (cds.map (bg ρ1)))).wa _ _ hg2;generalize H2++[ag.f (cds.map (bg ρ1))] =H3 at G3 w3 m3 hg3;rw [←m1.r,rj w3];obtain⟨w4,m4⟩:=w3.kV false;have i4:=wy (fs1:=cM {ρ1 with kV:=false}) w3.bC.J;have k4:∀i o,Wa H3 ρ1 i o→Wa _ {ρ1 with kV:=false} i o:=fun i o ⟨a,b,c⟩=>⟨(m4.N i o a (by omega) c).1,b,c⟩;have l34:=m4.U;generalize H3.set ρ1.r _=H4 at w4 m4 k4 i4 l34;obtain⟨ρ4,hρ4⟩:∃ρ4:Rs,ρ4= {ρ1 with kV:=false} :=⟨_,rfl⟩;rw [←hρ4] at w4 m4 k4;have r4:ρ4.r=ρ1.r:=by rw [hρ4]
  rw [w4.R.bx,w4.R.I (m1.le.I hrow),esub (k4 _ _ (G3.wa _ _ (m1.wa _ _ hri))).1,←r4];have mo4:ρ4.v=ρ.v:=by rw [hρ4];exact m1.v
  have sec4:u9 H4 τ1 ρ4.v obj idx own wide sec:=by rw [mo4];exact(m3.Mj w hs).N (.aD τ1) i4
  have far4:ρ4.cC=[] :=by rw [hρ4];show ρ1.cC=[];rw [m1.cC,hfar]
  have fst4:N3 τ1 ρ4.v ra th key first:=by rw [mo4];exact hf.imp (fun⟨x,y,a1,a2,a3,a4,a5,a6,a7,a8,a9,b1,b2,b3,c1,c2,c3,c4,c5,c6⟩=>⟨x,y,a1,a2,a3,a4,a5,a6,a7,a8,a9,b1,b2,b3,c1,c2.P m1.le,c3.P m1.le,c4.P m1.le,c5.P m1.le,c6⟩) id
  refine X.x (oE (n:=n) w4 far4 fst4 (m1.A2 ho) (m1.Kh hi) sec4 (by rw [mo4];exact m1.N6 hsr) (by omega) fun H5 τ5 ρ5 w5 m5 hr5=>?_) (by omega);rw [←htold];have hr5':ρ5.M=ρ.M++cds.map (bg ρ5):=by
   have e1:dq ρ4 (if first=true then [] else(dv sec lies n1 own wide).2)=[] :=by rw [hρ4];rfl
   have e2:ρ4.M=ρ1.M:=by rw [hρ4]
   have e3:ρ4.jo=ρ1.jo:=by rw [hρ4]
   rw [hr5,e1,List.append_nil,e2,hr1];unfold bg;rw [m5.jo,e3]
  rw [r4,←r4,←m5.r,rj w5];obtain⟨w6,m6⟩:=w5.kV true;have k6:∀i o,Wa H5 ρ5 i o→Wa _ {ρ5 with kV:=true} i o:=fun i o ⟨a,b,c⟩=>⟨(m6.N i o a (by omega) c).1,b,c⟩;have l56:=m6.U;have hg6:=k6 _ _ (m5.wa _ _ (k4 _ _ hg3));have keep6:=fun i o a b c=>(m6.N i o a b c).1;generalize H5.set ρ5.r _=H6 at w6 m6 hg6 l56 keep6;obtain⟨ρ6,hρ6⟩:∃ρ6:Rs,ρ6= {ρ5 with kV:=true} :=⟨_,rfl⟩;rw [←hρ6] at w6 hg6;rw [pD];simp only;have hn6:bg ρ6=bg ρ5:=by rw [hρ6];rfl
  have hn1:bg ρ1=bg ρ5:=by funext c;unfold bg;rw [m5.jo,hρ4]
  have hr6:ρ6.M=ρ.M++cds.map (bg ρ6):=by rw [hn6];rw [hρ6];exact hr5'
  rw [hn1,←hn6] at hg6;have mv6:Mv H H6 τ τ5 ρ ρ6:=by exact⟨(m3.le.trans m4.le).trans m5.le,fun i o a b c=>by obtain⟨x,y⟩:=m3.N i o a b c;obtain⟨x5,y5⟩:=m5.N i o (m4.N i o x b (by rw [hρ4];exact y)).1 b (by rw [hρ4];exact y);exact⟨keep6 i o x5 b y5,by rw [hρ6];exact y5⟩,by have:=m3.U;have:=m5.U;omega,by rw [hρ6,m5.eq,hρ4,m1.eq];simp;simp [*]⟩
  rw [hC2];exact uw (P:=fun b H=>Q (.D b) H) (C:=X.b (n+182)) (env:=[some (.y 3),some (.y 4),some (.y ρ5.r),e3,e4,e5,some (.y ri),e7,e8,e9,some (.j place),some kv,e12,e13,some (.D freely),e15,some (.j s),e17,e18,e19,some (.D first),e21,some (.D then_),some (.y gc),some _,some (.D told),some (.y g2),some (.D told),none]) true w6 hr6 hg6.1 (by omega) (by rw [hρ6];rfl) rfl rfl (by simp;have G7:Gr 0 H6 (H6++[ag.f (cds.map (bg ρ6))]) τ5 τ5:=(Gr.aD w6.R).Y _;exact q _ τ5 ρ6 ((w6.gr G7 (by omega))) (mv6.trans (G7.mv)))
 simp! []
 refine go ?_
 cases hto:told with
 |true=>
  subst hto
  have hi1:aG (.y gc) H1=some (codes.map V.j,some (gc,codes.map V.j)):=by simp [aG,hgc1.1]
  rw [hi1]
  have hl1:=w1.R.U
  refine bW (fun rest out H2=>∃dn rs:List Int,rest=rs.map V.j∧codes=dn++rs∧out=dn.map (bg ρ1)∧Gr 0 H1 H2 τ1 τ1) ?_ ?_ ⟨[],codes,rfl,rfl,rfl,(Gr.aD w1.R).Y _⟩ ae
  ·rintro _ r out H2 ⟨dn,rs,e,hd,rfl,G2⟩ ha;have hdl:codes.length=dn.length+rs.length:=by rw [hd];simp
   refine⟨G2.N _ _ hgc1.1 (by have:=hgc1.2.1;omega),by rw [List.length_map];omega,fun q' qn qs=>?_⟩;cases rs with
   |nil=>cases e
   |cons c rs=>
    cases e;have ga:∀ {F},aX (.y ρ.r) 23 H2 F=F _:=fun{F} =>by rw [←m1.r];exact(w1.gr (n:=k+700) G2 (by omega)).bC.Od
    simp! [ga];exact qs _ _ ⟨dn++[c],rs,rfl,by rw [hd];simp,by simp [bg],G2.set w1.R _ (by simp)⟩ ha
  ·rintro out H2 ⟨dn,rs,e,hd,rfl,G2⟩ ha;have:rs=[] :=by cases rs<;>first|rfl|cases e
   subst this;rw [List.append_nil] at hd;subst hd;refine⟨G2.N _ _ hgc1.1 (by have:=hgc1.2.1;omega),?_⟩;rw [hc1 rfl] at ha;exact wanted G2 (w1.bC.na _ _ ⟨ha,(by simp),by omega⟩)
 |false=>
  subst hto
  have hl1:=w1.R.U
  exact wanted ((Gr.aD w1.R).Y _) (w1.bC.na _ _ ⟨by rw [hno rfl];simp,(by simp),by omega⟩)
end
def nr:MS:=.H 22 (.dy (.cons (.bH .ge (.h 15) (.k (.j 0))) (.cons (.bH .ne (.h 3) (.k (.j 4))) (.cons (.h 21) (.m))))) (.H 23 (.dm (.m)) (.bA (.dy (.cons (.h 22) (.cons (.gH (.h 20)) (.m)))) (.H 23 (.bA (.dy (.cons (.bH .eq (.h 16) (.k (.j 0))) (.cons (.bH .ne (.h 15) (.k (.j 32767))) (.m)))) (.dm (.cons (.k (.j 1)) (.m))) (.dm (.m))) (.H 23 (.hY .fZ (.h 23) (.bA (.gH (.h 12)) (.dm (.cons (.k (.j 3)) (.m))) (.bA (.pK (.cons (.bH .jm (.k (.j 5)) (.z (.h 11) (.k (.j 2)))) (.cons (.bH .jm (.k (.j 9)) (.z (.h 11) (.k (.j 2)))) (.m)))) (.dm (.cons (.k (.j 5)) (.m))) (.dm (.m))))) (.V))) (.V) jc))
def nt:MS:=.H 20 (.dy (.cons (.bH .ge (.h 18) (.k (.j 0))) (.cons (.w 98 (.cons (.bH .eq (.h 3) (.k (.j 2))) (.cons (.z (.h 8) (.h 18)) (.cons (.z (.h 8) (.h 10)) (.m))))) (.cons (.w 98 (.cons (.bH .eq (.h 3) (.k (.j 2))) (.cons (.h 19) (.cons (.z (.h 11) (.k (.j 1))) (.m))))) (.m))))) (.bA (.bH .ge (.h 18) (.k (.j 0))) (.H 21 (.bH .eq (.h 15) (.k (.j 32767))) (.V)) (.H 21 (.bA (.bH .eq (.h 16) (.k (.j 0))) (.bH .gt (.h 15) (.k (.j 0))) (.w 98 (.cons (.bH .eq (.h 3) (.k (.j 2))) (.cons (.h 17) (.cons (.B (.cons (.dm (.m)) (.cons (.h 15) (.m)))) (.m)))))) (.V)) nr)
def yO:MS:=.H 15 (.w 104 (.cons (.h 9) (.cons (.h 13) (.cons (.h 12) (.cons (.z (.h 11) (.k (.j 2))) (.m)))))) (.g8 [16,17,18,19] (.w 103 (.cons (.h 0) (.cons (.h 1) (.cons (.h 4) (.cons (.h 5) (.cons (.h 15) (.cons (.h 10) (.cons (.h 11) (.m))))))))) nt)
theorem IL:ji.mL=.g8 [6,7,8,9] (.h 4) (.H 10 (.z (.B (.cons (.k (.j 1)) (.cons (.k (.j 4)) (.cons (.k (.j 0)) (.cons (.k (.j 3)) (.cons (.k (.j 2)) (.cons (.k (.j 5)) (.m)))))))) (.w 88 (.cons (.h 0) (.cons (.k (.j 6)) (.m))))) (.H 11 (.w 102 (.cons (.h 0) (.cons (.h 1) (.cons (.h 5) (.m))))) (.H 12 (.bH .lt (.h 10) (.k (.j 3))) (.H 13 (.bA (.h 12) (.h 10) (.z (.h 7) (.h 10))) (.H 14 (.pK (.cons (.z (.h 11) (.k (.j 3))) (.cons (.dy (.cons (.bH .eq (.h 10) (.k (.j 2))) (.cons (.bH .jm (.k (.j 5)) (.z (.h 11) (.k (.j 2)))) (.m)))) (.m)))) (.fN (.bH .gt (.h 13) (.k (.j 2))) (.H 13 (.z (.h 7) (.h 13)) (.H 14 (.k (.D true)) (.V))) yO)))))):=rfl
def fW (then_ first own:Bool)(s:Int)(gL:Option Nat)(as:List Nat):List Int:=if(then_&& !first)=true then(if(decide (s=0)&& !decide (gL=some 32767))=true then [1] else [])++(if own=true then(if(decide (5∈as)||decide (9∈as))=true then [5] else []) else [3]) else []
section
variable {H H':AH}{ρ ρ':Rs}{τ τ':Tb}{F:V→Prop}{Q:az}{n k m:Nat}
theorem nq {s th key obj idx place:Int}{ri g ga:Nat}{ids:List Int}{own wide first lies0 freely fr:Bool}{sec gL:Option Nat}{lies n1:Nat→Bool}{ra:List V}{as:List Nat}{e4 e5 e7 e8 e9 e13 e17 e18 e19:Option V}
 (w:W H τ ρ k 20) (htell:ρ.kV=true) (hfar:ρ.cC=[]) (hrow:bj τ s ra) (hri:Wa H ρ ri (.f (zs ids))) (hpl:0≤place∧place.toNat<ids.length∧ids.length<2^20) (hth:th=fI ids place) (hga:Wa H ρ ga (.f (ns as)))
 (hf:N3 τ ρ.v ra th key first) (ho:qI τ th obj own) (hi:sC τ key idx) (hs:u9 H τ ρ.v obj idx own wide sec) (hsr:JH τ ρ.v s lies n1)
 (hsem1:sec=none→freely=true∨(gL.isSome&& !decide (ρ.v=4)&&lies0)=false)
 (hsem2:∀y,sec=some y→gL=some y∧ρ.v≠4∧lies0=lies y∧(lies y=true→n1 y=(decide (s=0)&& !decide (y=32767)))∧wide=(decide (5∈as)||decide (9∈as))) (hk:k+1500≤19000)
 (q:∀H' τ' ρ',W H' τ' ρ' (k+1500) 20→Mv H H' τ τ' ρ ρ'→Q (.D true) H'):
 wS (X.b (n+182)) nr [some (.y 3),some (.y 4),some (.y ρ.r),some (.j ρ.v),e4,e5,some (.y ri),e7,e8,e9,some (.j place),some (bY key g as ga fr),some (.D own),e13,some (.D freely),some (.j (gF gL)),some (.j s),e17,e18,e19,some (.D first),some (.D lies0),none,none,none,none,none,none,none] H (bX Q):=by
 obtain⟨then_,hthen⟩:∃t,t=(gL.isSome&& !decide (ρ.v=4)&&lies0):=⟨_,rfl⟩
 rw [←hthen] at hsem1
 have hl:=w.R.U
 have fin:∀ {H1:AH} {gc:Nat},Gr 0 H H1 τ τ→H.length≤gc→H1[gc]?=some (.f ((fW then_ first own s gL as).map V.j))→wS (X.b (n+182)) jc [some (.y 3),some (.y 4),some (.y ρ.r),some (.j ρ.v),e4,e5,some (.y ri),e7,e8,e9,some (.j place),some (bY key g as ga fr),some (.D own),e13,some (.D freely),some (.j (gF gL)),some (.j s),e17,e18,e19,some (.D first),some (.D lies0),some (.D then_),some (.y gc),none,none,none,none,none] H1 (bX Q):=by
  intro H1 gc G1 hgc0 hgc;have m1:=G1.mv (ρ:=ρ);have hlen:(fW then_ first own s gL as).length≤4:=by unfold fW;(repeat' split)<;>simp
  refine IK (w.gr (n:=k) G1 (by omega)) htell hfar hrow (G1.wa _ _ hri) hpl hth (fun{H F} =>oH _ _ _) hf ho hi (m1.Mj w hs) hsr (w.bC.na _ _ ⟨hgc,hgc0,by omega⟩) hlen ?_ ?_ hk fun H2 τ2 ρ2 w2 m2=>q H2 τ2 ρ2 w2 (m1.trans m2)
  ·intro htold;cases first with
   |true=>unfold fW;simp
   |false=>
    cases hsec:sec with
    |none=>rw [hsec] at htold;trivial
    |some y=>
     obtain⟨a1,a2,a3,a4,a5⟩:=hsem2 y hsec;have hly:lies y=true:=by unfold dv at htold;grind
     have ht:then_=true:=by rw [hthen,a1,a3,hly];simp [a2]
     unfold fW dv;simp [hly,ht];rw [a4 hly,a5,a1];simp
  ·cases hsec:sec with
   |none=>have e:(dv none lies n1 own wide).1=false:=rfl;grind
   |some y=>
    have e:(dv (some y) lies n1 own wide).1=lies y:=by unfold dv;grind
    grind
 unfold nr
 have h32:∀ {gL:Option Nat},decide (gF gL=32767)=decide (gL=some 32767):=fun{gL} =>by
  cases gL with
  |none=>rfl
  |some y=>congr 1;simp [gF];omega
 have s2:∀ {H:AH} {F:V→Prop},aF (bY key g as ga fr) (.j 2) H F=F (.y ga):=fun{H F} =>oF _ _ _ _ _
 simp! [xJ,h32,s2]
 have tailc:∀(t:Bool),t=then_→wS (X.b (n+182)) (.H 23 (.dm (.m)) (.bA (.dy (.cons (.h 22) (.cons (.gH (.h 20)) (.m)))) (.H 23 (.bA (.dy (.cons (.bH .eq (.h 16) (.k (.j 0))) (.cons (.bH .ne (.h 15) (.k (.j 32767))) (.m)))) (.dm (.cons (.k (.j 1)) (.m))) (.dm (.m))) (.H 23 (.hY .fZ (.h 23) (.bA (.gH (.h 12)) (.dm (.cons (.k (.j 3)) (.m))) (.bA (.pK (.cons (.bH .jm (.k (.j 5)) (.z (.h 11) (.k (.j 2)))) (.cons (.bH .jm (.k (.j 9)) (.z (.h 11) (.k (.j 2)))) (.m)))) (.dm (.cons (.k (.j 5)) (.m))) (.dm (.m))))) (.V))) (.V) jc))
  [some (.y 3),some (.y 4),some (.y ρ.r),some (.j ρ.v),e4,e5,some (.y ri),e7,e8,e9,some (.j place),some (bY key g as ga fr),some (.D own),e13,some (.D freely),some (.j (gF gL)),some (.j s),e17,e18,e19,some (.D first),some (.D lies0),some (.D t),none,none,none,none,none,none] H (bX Q):=by
  intro t ht
  subst ht
  have G1:Gr 0 H (H++[ag.f []]) τ τ:=(Gr.aD w.R).Y _
  simp! [h32,s2]
  have two:∀ {H1:AH} {g1:Nat} {c1:List Int},Gr 0 H H1 τ τ→H1[g1]?=some (.f (c1.map V.j))→H.length≤g1→c1.length≤1→t=true→first=false→c1=(if(decide (s=0)&& !decide (gL=some 32767))=true then [1] else [])→(if(!own)=true then cw .fZ (.y g1) (.y H1.length) (H1++[.f [.j 3]]) fun v H=>wS (X.b (n+182)) jc [some (.y 3),some (.y 4),some (.y ρ.r),some (.j ρ.v),e4,e5,some (.y ri),e7,e8,e9,some (.j place),some (bY key g as ga fr),some (.D own),e13,some (.D freely),some (.j (gF gL)),some (.j s),e17,e18,e19,some (.D first),some (.D lies0),some (.D t),some v,none,none,none,none,none] H (bX Q)
    else aI .jm (.j 5) (.y ga) H1 fun r=>if r=true then cw .fZ (.y g1) (.y H1.length) (H1++[.f [.j 5]]) fun v H=>wS (X.b (n+182)) jc [some (.y 3),some (.y 4),some (.y ρ.r),some (.j ρ.v),e4,e5,some (.y ri),e7,e8,e9,some (.j place),some (bY key g as ga fr),some (.D own),e13,some (.D freely),some (.j (gF gL)),some (.j s),e17,e18,e19,some (.D first),some (.D lies0),some (.D t),some v,none,none,none,none,none] H (bX Q)
     else aI .jm (.j 9) (.y ga) H1 fun r=>if r=true then cw .fZ (.y g1) (.y H1.length) (H1++[.f [.j 5]]) fun v H=>wS (X.b (n+182)) jc [some (.y 3),some (.y 4),some (.y ρ.r),some (.j ρ.v),e4,e5,some (.y ri),e7,e8,e9,some (.j place),some (bY key g as ga fr),some (.D own),e13,some (.D freely),some (.j (gF gL)),some (.j s),e17,e18,e19,some (.D first),some (.D lies0),some (.D t),some v,none,none,none,none,none] H (bX Q)
     else cw .fZ (.y g1) (.y H1.length) (H1++[.f []]) fun v H=>wS (X.b (n+182)) jc [some (.y 3),some (.y 4),some (.y ρ.r),some (.j ρ.v),e4,e5,some (.y ri),e7,e8,e9,some (.j place),some (bY key g as ga fr),some (.D own),e13,some (.D freely),some (.j (gF gL)),some (.j s),e17,e18,e19,some (.D first),some (.D lies0),some (.D t),some v,none,none,none,none,none] H (bX Q)):=by
   intro H1 g1 c1 G1 hg1 hg10 hc1 ht hfi he
   have l1:=G1.U
   have put:∀c2,c2.length≤1→fW t first own s gL as=c1++c2→cw .fZ _ _ (H1++[ag.f (c2.map V.j)]) fun v H=>wS _ jc [some _,some _,some _,some _,e4,e5,some _,e7,e8,e9,some _,some _,some _,e13,some _,some _,some _,e17,e18,e19,some _,some _,some _,some v,none,none,none,none,none] H _:=fun c2 hc2 hce=>by rw [iM (af hg1) (ae) (by simp;omega)];apply fin ((G1.Y _).Y _) (by simp;omega);rw [hce];simp
   have hga1:=(G1.wa _ _ hga).1
   have i5:∀ {B:Bool→Prop},aI .jm (.j 5) _ H1 B=B _:=fun{B} =>qe hga1 5
   have i9:∀ {B:Bool→Prop},aI .jm (.j 9) _ H1 B=B _:=fun{B} =>qe hga1 9
   rw [i5,i9]
   have hcd:fW t first own s gL as=c1++(if own=true then(if(decide (5∈as)||decide (9∈as))=true then [5] else []) else [3]):=by unfold fW;rw [ht,hfi,←he];rfl
   cases own with
   |false=>exact put [3] (by simp) hcd
   |true=>
    by_cases h5:5∈as
    ·simp [h5];exact put [5] (by simp) (by rw [hcd];simp [h5])
    ·by_cases h9:9∈as
     ·simp [h9];exact put [5] (by simp) (by rw [hcd];simp [h9])
     ·simp [h5,h9];exact put [] (by simp) (by rw [hcd];simp [h5,h9])
  have e0:(t&& !first)=false→fW t first own s gL as=[] :=fun z=>by unfold fW;rw [z];rfl
  cases ht:t with
  |false=>
   rw [ht] at e0 fin
   exact fin G1 (by simp) (by rw [e0 rfl];simp)
  |true=>
   cases hfi:first with
   |true=>
    rw [ht,hfi] at e0
    rw [ht,hfi] at fin
    exact fin G1 (by simp) (by rw [e0 rfl];simp)
   |false=>
    rw [ht,hfi] at two
    have G2:∀c,Gr 0 H (H++[ag.f []] ++[c]) τ τ:=fun c=>G1.Y _
    by_cases hs0:s=0
    ·simp only [hs0];rw [hs0] at two;by_cases h3:gL=some 32767
     ·simp only [h3];rw [h3] at two;exact two (c1:=[]) (G2 _) ae (by simp) (by simp) rfl rfl (by simp)
     ·simp only [h3];exact two (c1:=[1]) (G2 _) ae (by simp) (by simp) rfl rfl (by simp [h3])
    ·simp only [hs0];exact two (c1:=[]) (G2 _) ae (by simp) (by simp) rfl rfl (by simp [*])
 have tt:=fun(t:Bool) (e:t=then_)=>tailc t e
 cases hgl:gL.isSome with
 |false=>
  simp only [Bool.false_eq_true,if_false]
  have:=tt false (by rw [hthen,hgl];rfl)
  simp! [h32,s2] at this
  exact this
 |true=>
  by_cases hm4:ρ.v=4
  ·simp [hm4,if_false];have:=tt false (by rw [hthen,hgl,hm4];rfl);simp! [s2] at this;rw [hm4] at this;omega
  ·simp only [hm4,decide_false,Bool.not_false,if_true];have:=tt lies0 (by simp_all);simp! [h32,s2] at this;omega
end
theorem eX {g:Nat→Option Nat} :∀ {as:List Nat} {y:Nat},(∃a∈as,g a=none)→cL g as y=none
 |[],_,⟨_,h,_⟩=>nomatch h
 |a::r,y,h=>by
  show(match g a with|none=>none|some z=>cL g r _)=none;cases ha:g a with
  |none=>rfl
  |some z=>apply eX;grind
theorem jq {g:Nat→Option Nat} :∀ {as:List Nat} {y:Nat},(∀a∈as,∃z,g a=some z)→∃z,cL g as y=some z∧∀i,z.testBit i=(y.testBit i&&as.all fun a=>((g a).getD 0).testBit i)
 |[],y,_=>⟨y,rfl,by simp⟩
 |a::r,y,h=>by
  obtain⟨x,hx⟩:=h a (by simp);obtain⟨z,hz,hb⟩:=jq (g:=g) (as:=r) (y:=y&&&x) (by grind);refine⟨z,?_,fun i=>?_⟩
  ·show(match g a with|none=>none|some z=>cL g r _)=_;simp_all
  grind
theorem vC {g:Nat→Option Nat}{as bs:List Nat}{y:Nat}(h:∀a,a∈as↔a∈bs):cL g as y=cL g bs y:=by
 by_cases hn:∃a∈as,g a=none
 ·obtain⟨a,ha,e⟩:=hn;rw [eX ⟨a,ha,e⟩,eX ⟨a,(h a).mp ha,e⟩]
 ·have all:∀a∈as,∃z,g a=some z:=fun a ha=>by
   cases e:g a with
   |none=>grind
   |some z=>simp
  obtain⟨z,hz,b1⟩:=jq all;obtain⟨z',hz',b2⟩:=jq fun a ha=>all a ((h a).mpr ha);rw [hz,hz'];congr 1;apply Nat.eq_of_testBit_eq;grind
theorem ib {g g':Nat→Option Nat} :∀ {as:List Nat} {y:Nat},(∀a∈as,g a=g' a)→cL g as y=cL g' as y
 |[],_,_=>rfl
 |a::r,y,h=>by
  show(match g a with|none=>none|some z=>cL g r _)=match g' a with|none=>none|some z=>cL g' r _
  rw [h a (by simp)];cases g' a with
  |none=>rfl
  |some z=>exact ib (by grind)
theorem HC {f:PySem.Str→Option Nat}{tx nm:Option Nat}{own:Bool}{as:List Nat}{y z:Nat}(h:cL (hM f tx nm own) as y=some z):(as.any fun a=>(oq a).isNone)=(decide (5∈as)||decide (9∈as)):=by
 have all:∀a∈as,hM f tx nm own a≠none:=fun a ha e=>by rw [eX ⟨a,ha,e⟩] at h;cases h
 rw [Bool.eq_iff_iff,List.any_eq_true];constructor
 ·rintro⟨a,ha,e⟩;have hk:=all a ha;unfold hM at hk;grind
 ·intro e;rw [Bool.or_eq_true,decide_eq_true_iff,decide_eq_true_iff] at e;rcases e with e|e
  ·exact⟨5,e,rfl⟩
  ·exact⟨9,e,rfl⟩
section
variable {H H':AH}{ρ ρ':Rs}{τ τ':Tb}{F:V→Prop}{Q:az}{n k m:Nat}
theorem Th.bs {T:TD}(th:Th (Wa H ρ) τ T){b:Nat}(hb:b<3):∃arr f tx nm,Bs H τ (fI T.cm b) arr f tx nm∧f=fL (T.names b) (T.tx b) (T.nm b)∧(b≠2→arr=false∧tx=T.tx b∧nm=T.nm b)∧(b=2→arr=true∧tx=none∧nm=none∧T.tx b=none):=by
 have t3:=th.sD;have:b=0∨b=1∨b=2:=by omega
 rcases this with rfl|rfl|rfl
 ·obtain⟨ps,c0,c1,a1,a2,a3,a4,_⟩:=t3.o0;exact⟨_,_,_,_,.sE (.sE a1) a2 a3 a4,rfl,by simp,by simp⟩
 ·obtain⟨did,gd,fs,u,r1,d0,d1,hd,hg,f16,f15,ps,c0,c1,a1,a2,a3,a4,_⟩:=t3.o1;exact⟨_,_,_,_,.sE (.y r1 d0 d1 hd hg.1 f16 f15 a1) a2 a3 a4,rfl,by simp,by simp⟩
 ·obtain⟨e1,e2,kid,as,r2,km,e3⟩:=t3.o2;refine⟨_,_,_,_,.Mf r2 km fun x hx=>?_,rfl,by simp,by grind⟩;unfold fL;simp_all
theorem JP {obj id:Int}{arr own:Bool}{f:PySem.Str→Option Nat}{tx nm:Option Nat}{A:Ad}{kid:Int→Int}{g:Nat}{S:List Int}{ga:Nat}{as bs:List Nat}{p:Nat}{fr:Bool}(std:du τ)(ky:Ky A τ kid id g S ga as bs p fr)(hB:Bs H τ obj arr f tx nm)(hao:arr=true→own=true){mode:Int}(hm4:mode≠4):
 ∃idx wide sec,sC τ id idx∧u9 H τ mode obj idx own wide sec∧(fr=true→sec=none)∧(fr=false→as=[] →sec=none)∧(fr=false→as≠ [] →sec=cL (hM f tx nm own) as 32767)∧(∀y,sec=some y→wide=(decide (5∈as)||decide (9∈as))):=by
 obtain⟨ko,ro,hro,_⟩:=hB.d5
 rcases ky.A4 with⟨hfr,idx,hi,kd⟩|⟨hfr,idx,pid,hi,hp⟩
 ·by_cases h2:idx=2
  ·have hbs:=by subst h2;exact kd.bE nj
   have has:as=[] :=by
    cases as with
    |nil=>rfl
    |cons a r=>have:=(ky.set a).mpr (by simp);grind
   exact⟨idx,false,_,hi,.inl (by grind),fun _=>rfl,fun _ _=>rfl,fun _ z=>absurd has z,by simp⟩
  ·obtain⟨L,hL,hA⟩:=kd.ex;refine⟨idx,_,_,hi,.inr ⟨hm4,h2,arr,f,tx,nm,hB,hao,.inl ⟨L,bs,hL,hA,fun a ha=>ky.Oe.lt a ((ky.set a).mp ha),ky.U,rfl,rfl⟩⟩,by grind,fun _ has=>?_,fun _ _=>vC ky.set,fun y hy=>by rw [HC hy];congr 1<;>(congr 1;rw [eq_iff_iff];exact ky.set _)⟩
   ·exfalso;have hbs:bs=[] :=by
     cases bs with
     |nil=>rfl
     |cons a r=>have:=(ky.set a).mp (by simp);rw [has] at this;cases this
    rw [hbs] at hA;cases hA;cases hL with
    |o=>exact h2 rfl
    |ba _ z _=>simp at z
 ·have h2:idx≠2:=fun e=>by rw [e] at hp;have:=hp.bE (std.I (by simp) (by simp) rfl);simp at this
  exact⟨idx,false,_,hi,.inr (by grind),fun _=>rfl,fun _ _=>rfl,by grind,by simp⟩
theorem KG {T:TD}{id:Int}{kid:Int→Int}{g:Nat}{S:List Int}{ga:Nat}{as bs:List Nat}{p:Nat}{fr:Bool}{place:Nat}{base mode:Int}{freely:Bool}(std:du τ)(th:Th (Wa H ρ) τ T)(ky:Ky (Wa H ρ) τ kid id g S ga as bs p fr)(hp:place<6)
 (hb:(if place<3 then(place:Int) else fI T.fO place)≤2→base=(if place<3 then(place:Int) else fI T.fO place)) (hfreely:freely=(fr||(decide (place=2)&&decide (5∈as))||decide ((if place<3 then(place:Int) else fI T.fO place)>2))):
 ∃obj idx wide sec,qI τ (fI T.cm place) obj (decide (place<3))∧sC τ id idx∧u9 H τ mode obj idx (decide (place<3)) wide sec∧(sec=none→freely=true∨mode=4∨wL (fL (T.names base.toNat) (T.tx base.toNat) (T.nm base.toNat)) (T.tx base.toNat) (T.nm base.toNat) base (decide (place<3)) as=none)∧(∀y,sec=some y→wL (fL (T.names base.toNat) (T.tx base.toNat) (T.nm base.toNat)) (T.tx base.toNat) (T.nm base.toNat) base (decide (place<3)) as=some y∧mode≠4∧wide=(decide (5∈as)||decide (9∈as))):=by
 obtain⟨thid,up,en⟩:=th.vw place hp
 have hth:fI T.cm place=thid:=by unfold fI;rw [Int.toNat_natCast,List.getD_eq_getElem?_getD,en.xl];rfl
 have hup:fI T.fO place=up:=by unfold fI;rw [Int.toNat_natCast,List.getD_eq_getElem?_getD,en.Mb];rfl
 rw [hth]
 rw [hup] at hb hfreely
 have hidx:∃idx,sC τ id idx:=by rcases ky.A4 with⟨_,idx,hi,_⟩|⟨_,idx,_,hi,_⟩<;>exact⟨idx,hi⟩
 by_cases h3:place<3
 ·simp only [h3,if_true,decide_true] at hb hfreely ⊢;have hbn:base.toNat=place:=by omega
  rcases en.aS with⟨_,_,_,kt,r,hr,hkt⟩|⟨z,_⟩
  ·have hnd:kt∉lC:=fun z=>by simp at hkt z;omega
   have ho:qI τ thid thid true:=.inl ⟨rfl,rfl,kt,r,hr,hnd⟩;by_cases hm4:mode=4
   ·obtain⟨idx,hi⟩:=hidx;exact⟨thid,idx,false,none,ho,hi,.inl (by grind),fun _=>.inr (.inl hm4),fun y e=>nomatch e⟩
   obtain⟨arr,f,tx,nm,hB,hf,hn2,h2⟩:=th.bs h3;rw [hth] at hB;obtain⟨idx,wide,sec,hi,hs,s1,s2,s3,s4⟩:=JP std ky hB (fun _=>rfl) hm4;refine⟨thid,idx,wide,sec,ho,hi,hs,fun e=>?_,fun y e=>?_⟩
   ·cases hfr:fr with
    |true=>left;rw [hfreely,hfr];rfl
    |false=>
     by_cases has:as=[]
     ·right;right;unfold wL;rw [if_neg (fun z=>z.2.1 has)]
     ·have e3:=s3 hfr has;rw [e] at e3;by_cases hp2:place=2
      ·by_cases h5:5∈as
       ·left;simp [*]
       ·right;right;obtain⟨_,t1,t2,t3⟩:=h2 hp2;unfold wL;rw [hbn,if_pos ⟨by omega,has,.inl rfl⟩,e3,hf];refine(ib fun a ha=>?_);have ha5:a≠5:=fun z=>h5 (z▸ha);unfold hM;rw [t1,t3];cases oq a with
        |some x=>rfl
        |none=>simp [ha5]
      ·right;right;obtain⟨_,t1,t2⟩:=hn2 hp2;unfold wL;rw [hbn,if_pos ⟨by omega,has,.inl rfl⟩,e3,hf,t1,t2]
   ·cases hfr:fr with
    |true=>rw [s1 hfr] at e;cases e
    |false=>
     by_cases has:as=[]
     ·rw [s2 hfr has] at e;cases e
     ·have e3:=s3 hfr has;rw [e] at e3;refine⟨?_,hm4,s4 y e⟩;unfold wL;rw [hbn,if_pos ⟨by omega,has,.inl rfl⟩,e3];by_cases hp2:place=2
      ·obtain⟨_,t1,t2,t3⟩:=h2 hp2;have h5:5∉as:=fun h5=>by rw [t1,t2] at e3;rw [eX ⟨5,h5,by rfl⟩] at e3;cases e3
       rw [hf];refine(ib fun a ha=>?_);have ha5:a≠5:=fun z=>h5 (z▸ha);unfold hM;rw [t1,t3];cases oq a with
       |some x=>rfl
       |none=>simp [ha5]
      grind
  ·omega
 ·simp only [h3,if_false,decide_false] at hb hfreely ⊢;rcases en.aS with⟨z,_⟩|⟨_,pid,b,hr,hbd,hk⟩
  ·exact absurd z h3
  have hp2:decide (place=2)=false:=by simp;omega
  have idne:∀i:Int,i∈ [1,6] →i≠thid:=fun i hi e=>by
   rw [←e] at hr;simp at hi;rcases hi with rfl|rfl
   ·have:=hr.bE (std.I (by simp) (by simp) rfl);simp at this
   ·have:=hr.bE (std.I (by simp) (by simp) rfl);simp_all
  have none_:hO b≠thid→(∃ko r,bj τ (hO b) (.j ko::r)∧ko∉ [8,9])→(freely=true∨wL (fL (T.names base.toNat) (T.tx base.toNat) (T.nm base.toNat)) (T.tx base.toNat) (T.nm base.toNat) base false as=none)→∃obj idx wide sec,qI τ thid obj false∧sC τ id idx∧u9 H τ mode obj idx false wide sec∧(sec=none→freely=true∨mode=4∨wL (fL (T.names base.toNat) (T.tx base.toNat) (T.nm base.toNat)) (T.tx base.toNat) (T.nm base.toNat) base false as=none)∧(∀y,sec=some y→wL (fL (T.names base.toNat) (T.tx base.toNat) (T.nm base.toNat)) (T.tx base.toNat) (T.nm base.toNat) base false as=some y∧mode≠4∧wide=(decide (5∈as)||decide (9∈as))):=fun hne ⟨ko,r,hro,hk8⟩ hz=>by obtain⟨idx,hi⟩:=hidx;exact⟨hO b,idx,false,none,.inr ⟨rfl,hne,pid,b,hr,hbd,rfl⟩,hi,.inl ⟨.inr (.inr ⟨ko,r,hro,hk8,fun z=>nomatch z.1⟩),⟨ko,r,hro⟩,rfl⟩,(by grind),fun y e=>nomatch e⟩
  rcases hk with⟨u0,u1,u2,u3⟩|⟨u1,u2⟩|⟨u1,u2⟩
  ·have hun:up.toNat<6:=by omega
   have hne:hO b≠thid:=fun e=>by
    have e1:T.cm[up.toNat]?=some thid:=by
     have hlt:up.toNat<T.cm.length:=by rw [th.U];omega
     rw [←e,u2];unfold fI;rw [List.getD_eq_getElem?_getD,List.getElem?_eq_getElem hlt];rfl
    have:=(List.getElem?_inj (by rw [th.U];omega) th.W).mp (e1.trans en.xl.symm);omega
   obtain⟨uid,uup,uen⟩:=th.vw up.toNat hun;have huid:fI T.cm up=uid:=by unfold fI;rw [List.getD_eq_getElem?_getD,uen.xl];rfl
   by_cases hu2:up>2
   ·refine none_ hne ?_ (.inl (by simp [*]));rcases uen.aS with⟨z,_⟩|⟨_,pid',b',hr',_⟩
    ·omega
    ·exact⟨10,_,by rw [u2,huid];omega,by simp⟩
   have hbase:=hb (by omega);by_cases hup2:up=2
   ·refine none_ hne ?_ (.inr (by unfold wL;rw [if_neg];rintro⟨_,_,z|z⟩;cases z;omega));obtain⟨_,_,kid',as',r2,_,_⟩:=th.sD.o2;exact⟨11,_,by rw [u2,hup2];omega,by simp⟩
   ·by_cases hm4:mode=4
    ·obtain⟨idx,hi⟩:=hidx;obtain⟨kt,rt,hrt,_⟩:=uen.tm.d5 std;exact⟨hO b,idx,false,none,.inr ⟨rfl,hne,pid,b,hr,hbd,rfl⟩,hi,.inl ⟨.inl hm4,⟨kt,rt,by rw [u2,huid];omega⟩,rfl⟩,fun _=>.inr (.inl hm4),fun y e=>nomatch e⟩
    obtain⟨arr,f,tx,nm,hB,hf,hn2,h2⟩:=th.bs (b:=up.toNat) (by omega);rw [Int.toNat_of_nonneg u0] at hB;obtain⟨t0,t1,t2⟩:=hn2 (by omega);rw [←u2] at hB;have hbn:base.toNat=up.toNat:=by rw [hbase]
    obtain⟨idx,wide,sec,hi,hs,s1,s2,s3,s4⟩:=JP (own:=false) std ky hB (fun z=>by rw [t0] at z;omega) hm4;refine⟨hO b,idx,wide,sec,.inr ⟨rfl,hne,pid,b,hr,hbd,rfl⟩,hi,hs,fun e=>?_,fun y e=>?_⟩
    ·cases hfr:fr with
     |true=>left;simp [*]
     |false=>
      right;right;by_cases has:as=[]
      ·unfold wL;rw [if_neg (fun z=>z.2.1 has)]
      ·have e3:=s3 hfr has;rw [e] at e3;unfold wL;rw [hbn,if_pos ⟨by omega,has,.inr (by omega)⟩,e3,hf,t1,t2]
    ·cases hfr:fr with
     |true=>rw [s1 hfr] at e;cases e
     |false=>
      by_cases has:as=[]
      ·rw [s2 hfr has] at e;cases e
      ·unfold wL;grind
  ·refine none_ (by rw [u2];exact idne 6 (by simp)) ⟨1,_,by rw [u2];exact std.I (by simp) (by simp) rfl,by simp⟩ (.inr ?_);unfold wL;rw [if_neg];omega
  ·refine none_ (by rw [u2];exact idne 1 (by simp)) ⟨1,_,by rw [u2];exact std.I (by simp) (by simp) rfl,by simp⟩ (.inr ?_);unfold wL;rw [if_neg];omega
end
theorem yq {bs:List Nat}(h:bs=[10] ∨∀a∈bs,a<10):Wf bs:=by
 rcases h with rfl|h
 ·exact⟨fun a ha=>by simp at ha;subst ha;trivial,by simp,by simp⟩
 ·exact⟨fun a ha=>by have:=h a ha;exact⟨by omega,by omega⟩,by grind,by grind⟩
theorem yf {both:Bool}{s:Int}{bs:List Nat}(h:bs=[10] ∨∀a∈bs,a<10):aB both [s] [16] [] bs=decide (ah bs=32767):=by
 rw [b9 (by simp)];have e:decide (ah bs=32767)=decide (bs=[10]):=by congr 1;rw [eq_iff_iff];exact eT (yq h)
 rw [e];rcases h with rfl|h
 ·cases both<;>rfl
 ·have hne:bs≠ [10] :=by rintro rfl;trivial
  rw [decide_eq_false hne];have key:=fun b hb=>tr b (by have:=h b hb;omega) (by have:=h b hb;omega) (by have:=h b hb;omega);unfold dg;cases both with
  |true=>simp;unfold iW;grind
  |false=>grind
section
variable {H H':AH}{ρ ρ':Rs}{τ τ':Tb}{F:V→Prop}{Q:az}{n k m:Nat}
theorem su (x:Nat):cw .qS (.j (x:Int)) (.j (-1)) H Q=Q (.j (x:Int)) H:=by rfl
theorem IB {both:Bool}{g g' x:Nat}{S:List Int}(h:aY H τ)(hg:H[g]?=some (.f (zs S)))(hg':H[g']?=some (.f []))(q:∀H',au 0 H H' τ τ→Q (.D true) H'):X.w (n+1) 98 [.D both,bc g x,.B [.y g',.j (-1)]] H Q:=by
 apply aC.hV rfl (Nat.le_refl _) (Nat.le_refl _);show wS _ _ [some _,some (.B _),some _] _ _;unfold jA;have hx0:decide (x=0)=(x==0):=by grind
 simp! [hx0];have ne_list:∀ {H:AH} {B:Bool→Prop},H[g']?=some _→aI .ne (.y g') (.y H.length) (H++[ag.f []]) B=B false:=fun{H B} e=>by have e1:(H++[ag.f []])[g']?=some (.f []):=af e;have e2:(H++[ag.f []])[H.length]?=some _:=ae;have e3:(V.B []).bG=true:=rfl;simp only [aI,qo,e1,e2,e3];simp
 have G2:au 0 H (H++[ag.f []] ++[ag.f []]) τ τ:=((au.aD h).Y _).Y _;by_cases hx:x=0
 ·simp [hx];exact q H (.aD h)
 rw [ne_list (af hg')];cases both with
 |true=>rw [su];simp! [];have e:decide (x>0)=true:=decide_eq_true (by omega);simp_all
 |false=>simp;rw [su];simp! [decide_true];simp_all
structure qD (H:AH) (τ:Tb) (ρ:Rs) (T:TD) (id:Int) (ga:Nat) (as:List Nat) (place:Int) (obj idx:Int) (wide freely:Bool) (sec gL:Option Nat):Prop where
 NY:Wa H ρ T.ri (.f (zs T.cm))
 U:T.cm.length=6
 xm:0≤place∧place<6
 NZ:Wa H ρ ga (.f (ns as))
 ho:qI τ (fI T.cm place) obj (decide (place<3))
 hi:sC τ id idx
 hs:u9 H τ ρ.v obj idx (decide (place<3)) wide sec
 s1:sec=none→freely=true∨ρ.v=4∨gL=none
 s2:∀y,sec=some y→gL=some y∧ρ.v≠4∧wide=(decide (5∈as)||decide (9∈as))
theorem qD.J7 {T:TD}{id:Int}{ga:Nat}{as:List Nat}{place obj idx:Int}{wide freely:Bool}{sec gL:Option Nat}(i:qD H τ ρ T id ga as place obj idx wide freely sec gL)(lies0:Bool):sec=none→freely=true∨(gL.isSome&& !decide (ρ.v=4)&&lies0)=false:=fun e=>by
 rcases i.s1 e with z|z|z
 ·simp_all
 ·simp_all
 simp_all
theorem qD.gr {c:Nat}{T:TD}{id:Int}{ga:Nat}{as:List Nat}{place obj idx:Int}{wide freely:Bool}{sec gL:Option Nat}(i:qD H τ ρ T id ga as place obj idx wide freely sec gL)(w:W H τ ρ k m)(G:Gr c H H' τ τ'):qD H' τ' ρ T id ga as place obj idx wide freely sec gL:=
 ⟨G.wa _ _ i.NY,i.U,i.xm,G.wa _ _ i.NZ,G.mv.A2 (ρ:=ρ) i.ho,G.mv.Kh (ρ:=ρ) i.hi,G.mv.Mj w i.hs,i.s1,i.s2⟩
theorem wx {T:TD}{id:Int}{g ga a b:Nat}{as:List Nat}{place obj idx:Int}{wide freely fr:Bool}{sec gL:Option Nat}{e4 e5 e7 e8 e9 e13:Option V}(w:W H τ ρ k 20)(htell:ρ.kV=true)(hfar:ρ.cC=[])(I:qD H τ ρ T id ga as place obj idx wide freely sec gL)(hk:k+1500≤19000)
 (q:∀H' τ' ρ',W H' τ' ρ' (k+1500) 20→Mv H H' τ τ' ρ ρ'→Q (.D true) H'):
 wS (X.b (n+182)) nt [some (.y 3),some (.y 4),some (.y ρ.r),some (.j ρ.v),e4,e5,some (.y T.ri),e7,e8,e9,some (.j place),some (bY id g as ga fr),some (.D (decide (place<3))),e13,some (.D freely),some (.j (gF gL)),some (.j 0),some (bc a 0),some (.j (-1)),some (bc b 0),none,none,none,none,none,none,none,none,none] H (bX Q):=by
 unfold nt
 have hne:decide ((-1)≥0)=false:=rfl
 simp! [hne]
 refine nq (lies:=fun y=>decide (y≠0)) (n1:=fun y=>decide (y≠0)&&decide (y≠32767)) w htell hfar (w.cR.I (by simp) (by simp) rfl) I.NY ⟨I.xm.1,by rw [I.U];have:=I.xm;omega,by rw [I.U];simp⟩ rfl I.NZ (.inr (by simp)) I.ho I.hi I.hs (.inl (by simp)) (I.J7 _) (fun y e=>?_) hk q
 obtain⟨x1,x2,x3⟩:=I.s2 y e
 refine⟨x1,x2,?_,fun hy=>?_,x3⟩
 ·rw [x1];show decide ((y:Int)>0)=decide _;grind
 grind
theorem wt {T:TD}{id s ks:Int}{g ga gs b p:Nat}{S:List Int}{ass bss:List Nat}{r:List V}{as:List Nat}{place obj idx:Int}{wide freely fr:Bool}{sec gL:Option Nat}{e4 e5 e7 e8 e9 e13:Option V}(w:W H τ ρ k 20)(htell:ρ.kV=true)(hfar:ρ.cC=[])(I:qD H τ ρ T id ga as place obj idx wide freely sec gL)
 (hgs:Wa H ρ gs (.f (zs S))) (hs:Tm τ s (S.map fun _=>s) bss p) (hp:p≤1) (hset:∀a,a∈bss↔a∈ass) (hwf:Wf bss) (hlen:bss.length≤4) (hrow:bj τ s (.j ks::r)) (hks:ks≠15) (hk:k+1500≤19000)
 (q:∀H' τ' ρ',W H' τ' ρ' (k+1500) 20→Mv H H' τ τ' ρ ρ'→Q (.D true) H'):
 wS (X.b (n+182)) nt [some (.y 3),some (.y 4),some (.y ρ.r),some (.j ρ.v),e4,e5,some (.y T.ri),e7,e8,e9,some (.j place),some (bY id g as ga fr),some (.D (decide (place<3))),e13,some (.D freely),some (.j (gF gL)),some (.j s),some (bc gs (ah ass)),some (.j (-1)),some (bc b 0),none,none,none,none,none,none,none,none,none] H (bX Q):=by
 unfold nt
 have hne:decide ((-1)≥0)=false:=rfl
 have s0:=(hs.cm w.cR).1
 simp! [hne,s0,decide_false]
 have G1:Gr 0 H (H++[ag.f []]) τ τ:=(Gr.aD w.R).Y _
 have fin:∀ {H1:AH} {lies0:Bool},Gr 0 H H1 τ τ→(∀y,gL=some y→lies0=hG (decide (ρ.v=2)) S (ah ass) [] y)→wS _ nr [some _,some _,some _,some _,e4,e5,some _,e7,e8,e9,some _,some (bY id g as ga fr),some _,e13,some _,some _,some _,some (bc gs (ah ass)),some (.j (-1)),some (bc b 0),some (.D false),some (.D lies0),none,none,none,none,none,none,none] H1 _:=fun{H1 lies0} G hl=>by have I1:=I.gr w G;exact nq (X:=X) (n:=n) (lies:=fun y=>hG (decide (ρ.v=2)) S (ah ass) [] y) (n1:=fun y=>false) (w.gr (n:=k) G (by omega)) htell hfar hrow I1.NY ⟨I.xm.1,by rw [I.U];have:=I.xm;omega,by rw [I.U];simp⟩ rfl I1.NZ (.inr (by grind)) I1.ho I1.hi I1.hs (.inr ⟨_,bss,p,hs,by omega,hlen,fun bs hbs=>by rw [←ey hset];exact(gv (T:=[]) hwf (yq hbs) (by simp)).symm,(by simp)⟩) (I.J7 _) (fun y e=>by obtain⟨x1,x2,x3⟩:=I.s2 y e;grind) hk fun H2 τ2 ρ2 w2 m2=>q H2 τ2 ρ2 w2 (G.mv.trans m2)
 cases hgl:gL with
 |none=>
  rw [hgl] at fin
  exact X.x (IB (n:=n) G1.R (af hgs.1) (by simp) fun H1 Gx=>fin (G1.trans Gx.gr (by omega)) (by simp)) (by omega)
 |some y=>
  rw [hgl] at fin
  exact X.x (iR (n:=n) (T:=[]) G1.R (af hgs.1) (by simp) fun H1 Gx=>fin (G1.trans Gx.gr (by omega)) (by simp)) (by omega)
theorem qK.wf {A:Ad}{ids ups:List Int}{k:Nat}{id up:Int}{g:Nat}{S:List Int}{as:List Nat}{p:Nat}(h:qK A τ ids ups k id up g S as p):Wf as∧as.length=1:=by rcases h.N1 with e|e|e<;>(subst e;exact⟨⟨fun a ha=>by simp at ha;subst ha;trivial,by simp,by simp⟩,rfl⟩)
theorem qm {ids:List Int}(hn:ids.Nodup){x y:Int}(hx:0≤x∧x.toNat<ids.length)(hy:0≤y∧y.toNat<ids.length)(e:fI ids x=fI ids y):x=y:=by
 unfold fI at e;have h1:ids[x.toNat]?=ids[y.toNat]?:=by grind
 have:=(List.getElem?_inj hx.2 hn).mp h1;omega
theorem wu {T:TD}{id s spot x y:Int}{g ga a gf gaf p pf:Nat}{S Sf:List Int}{as bs asf bsf:List Nat}{fr frf:Bool}{kid:Int→Int}{place obj idx:Int}{wide freely:Bool}{sec gL:Option Nat}{e4 e5 e7 e9 e13:Option V}(w:W H τ ρ k 20)(htell:ρ.kV=true)(hfar:ρ.cC=[])(th:Th (Wa H ρ) τ T)(I:qD H τ ρ T id ga as place obj idx wide freely sec gL)
 (ky:Ky (Wa H ρ) τ kid id g S ga as bs p fr) (kf:Ky (Wa H ρ) τ kid y gf Sf gaf asf bsf pf frf) (hkid:kid 20≠kid 21) (hsp:0≤spot∧spot<6) (hx:x=fI T.cm spot) (hrow:bj τ s [.j 15,.j x,.j y]) (hk:k+1500≤19000)
 (q:∀H' τ' ρ',W H' τ' ρ' (k+1500) 20→Mv H H' τ τ' ρ ρ'→Q (.D true) H'):
 wS (X.b (n+182)) nt [some (.y 3),some (.y 4),some (.y ρ.r),some (.j ρ.v),e4,e5,some (.y T.ri),e7,some (.y T.ei),e9,some (.j place),some (bY id g as ga fr),some (.D (decide (place<3))),e13,some (.D freely),some (.j (gF gL)),some (.j s),some (bc a 0),some (.j spot),some (bc gf (ah asf)),none,none,none,none,none,none,none,none,none] H (bX Q):=by
 unfold nt
 obtain⟨sid,sup,sen⟩:=th.vw spot.toNat (by omega)
 obtain⟨pid,pup,pen⟩:=th.vw place.toNat (by have:=I.xm;omega)
 have hsid:fI T.cm spot=sid:=by unfold fI;rw [List.getD_eq_getElem?_getD,sen.xl];rfl
 have hpid:fI T.cm place=pid:=by unfold fI;rw [List.getD_eq_getElem?_getD,pen.xl];rfl
 have hge:decide (spot≥0)=true:=decide_eq_true hsp.1
 have et:∀ {H1:AH} {F:V→Prop} {j:Int},H1[T.ei]?=some (.f (T.fP 6))→0≤j→j<6→aF (.y T.ei) (.j j) H1 F=F (bc (T.g j.toNat) (ah (T.as j.toNat))):=fun{H1 F j} e h0 h6=>by rw [aA _ _ e,show j=((j.toNat)) from(Int.toNat_of_nonneg h0).symm];refine cz _ ?_ (by omega);unfold TD.fP;rw [List.getElem?_map,List.getElem?_range (by omega)];rfl
 have hte:=th.eV.1
 have k1:∀ {H1:AH} {F:V→Prop},aF (bY id g as ga fr) (.j 1) H1 F=F (bc g (ah as)):=fun{H1 F} =>oG _ _ _ _
 have h32:decide (gF gL=32767)=decide (gL=some 32767):=by
  cases gL with
  |none=>rfl
  |some y=>congr 1;simp [gF];omega
 have hg1:hG (decide (ρ.v=2)) (T.S spot.toNat) (ah (T.as spot.toNat)) (T.S place.toNat) (ah (T.as place.toNat))=aB (decide (ρ.v=2)) ((T.S spot.toNat).map (fI T.cm)) (T.as spot.toNat) ((T.S place.toNat).map (fI T.cm)) (T.as place.toNat):=
  gv sen.wf.1 pen.wf.1 fun u hu t ht e=>by obtain⟨r,hr⟩:=pen.hd;rw [hr] at ht;simp at ht;have b1:=sen.xk u hu;refine qm th.W ⟨b1.1,by rw [th.U];omega⟩ ?_ e;rw [th.U];have:=I.xm;omega
 have hg2:hG (decide (ρ.v=2)) Sf (ah asf) S (ah as)=aB (decide (ρ.v=2)) (Sf.map kid) bsf (S.map kid) bs:=by
  rw [←ey kf.set,←ey ky.set];refine gv kf.wf ky.wf fun u hu t ht e=>?_;have ht':t∈S:=by cases S with|nil=>cases ht|cons a r=>simp at ht;rw [←ht];simp
  rcases kf.xk u hu with rfl|rfl<;>rcases ky.xk t ht' with rfl|rfl
  ·rfl
  ·omega
  ·omega
  rfl
 simp! [hge,et hte hsp.1 hsp.2,et hte I.xm.1 I.xm.2,k1,h32]
 have fin:∀ {H1:AH} {first:Bool},Gr 0 H H1 τ τ→first=(aB (decide (ρ.v=2)) ((T.S spot.toNat).map (fI T.cm)) (T.as spot.toNat) ((T.S place.toNat).map (fI T.cm)) (T.as place.toNat)&&aB (decide (ρ.v=2)) (Sf.map kid) bsf (S.map kid) bs)→wS (X.b (n+182)) nr [some (.y 3),some (.y 4),some (.y ρ.r),some (.j ρ.v),e4,e5,some (.y T.ri),e7,some (.y T.ei),e9,some (.j place),some (bY id g as ga fr),some (.D (decide (place<3))),e13,some (.D freely),some (.j (gF gL)),some (.j s),some (bc a 0),some (.j spot),some (bc gf (ah asf)),some (.D first),some (.D (decide (gL=some 32767))),none,none,none,none,none,none,none] H1 (bX Q):=fun{H1 first} G hfst=>by
  have I1:=I.gr w G;have hch:(T.S place.toNat).map (fI T.cm)≠ [] :=by obtain⟨r,hr⟩:=pen.hd;rw [hr];simp
  have hst:dH [.j 15,.j x,.j y] :=⟨15,_,rfl,(by simp)⟩;refine nq (lies:=fun y=>decide (y=32767)) (n1:=fun y=>false) (w.gr (n:=k) G (by omega)) htell hfar hrow I1.NY ⟨I.xm.1,by rw [I.U];have:=I.xm;omega,by rw [I.U];simp⟩ rfl I1.NZ
   (.inl ⟨x,y,_,_,_,_,_,_,_,_,_,_,_,_,rfl,(by rw [hx,hsid];exact sen.tm),(by rw [hpid];exact pen.tm),kf.tm,ky.tm,hfst,by have:=sen.Md;omega,hch,by have:=sen.wf.2;omega,by have:=pen.wf.2;omega,kf.p2,kf.U,by have:=ky.U;omega⟩) I1.ho I1.hi I1.hs
   (.inr ⟨[s],[16],0,.gG hrow hst (by simp),by simp,by simp,fun bs' hbs=>yf hbs,(by simp)⟩) (I.J7 _) (fun y' e=>?_) hk fun H2 τ2 ρ2 w2 m2=>q H2 τ2 ρ2 w2 (G.mv.trans m2)
  obtain⟨x1,x2,x3⟩:=I.s2 y' e;have s0:=(Tm.cm w.cR (.gG hrow hst (by simp))).1;refine⟨x1,x2,?_,fun _=>by simp [s0],x3⟩;rw [x1];simp
 refine X.x (iR (n:=n) w.R sen.t7.1 pen.t7.1 fun H1 G1=>?_) (by omega)
 rw [hg1]
 cases hb1:aB (decide (ρ.v=2)) ((T.S spot.toNat).map (fI T.cm)) (T.as spot.toNat) ((T.S place.toNat).map (fI T.cm)) (T.as place.toNat) with
 |false=>
  have f1:=fin (first:=false) G1.gr (by rw [hb1];rfl)
  simp! []
  omega
 |true=>
  refine X.x (iR (n:=n) G1.R (G1.gr.wa _ _ kf.t7).1 (G1.gr.wa _ _ ky.t7).1 fun H2 G2=>?_) (by omega)
  rw [hg2]
  exact fin (G1.gr.trans G2.gr (by omega)) (by rw [hb1];rfl)
end
def kP:List Int:=[1,4,0,3,2,5]
theorem ru:∀i<6,0≤kP.getD i 0∧kP.getD i 0<6:=by decide
section
variable {H H':AH}{ρ ρ':Rs}{τ τ':Tb}{F:V→Prop}{Q:az}{n k m:Nat}
theorem JO {T:TD}(th:Th (Wa H ρ) τ T){p:Int}(h0:0≤p)(h6:p<6): -3≤fI T.fO p∧(fI T.fO p<p∨fI T.fO p<0):=by
 obtain⟨id,up,en⟩:=th.vw p.toNat (by omega);have:fI T.fO p=up:=by unfold fI;rw [List.getD_eq_getElem?_getD,en.Mb];rfl
 rcases en.aS with⟨_,u,_⟩|⟨_,pid,b,_,_,⟨a,c,_⟩|⟨u,_⟩|⟨u,_⟩⟩<;>omega
theorem o4 {T:TD}{C:z4}{K:Fl→En→AH→Prop}{e3 e4 e5 e6 e8 e9 e10 e11 e12:Option V}{rest:List (Option V)}{r:Nat}(th:Th (Wa H ρ) τ T):∀(N:Nat) (base:Int) (fr:Bool),base.toNat≤N→-3≤base→base<6→(∀b',(base≤2→b'=base)→b'≤2→-3≤b'→K .a ([some (.y 3),some (.y 4),some (.y r),e3,e4,e5,e6,some (.y T.ui),e8,e9,e10,e11,e12,some (.j b'),some (.D (fr||decide (base>2)))] ++rest) H)→∃n,fR (fun env H out q=>(wX C (.bH .gt (.h 13) (.k (.j 2)))).T env H fun r H=>if r=true then wS C (.H 13 (.z (.h 7) (.h 13)) (.H 14 (.k (.D true)) (.V))) env H q else out false env H) K n ([some (.y 3),some (.y 4),some (.y r),e3,e4,e5,e6,some (.y T.ui),e8,e9,e10,e11,e12,some (.j base),some (.D fr)] ++rest) H
 |N,base,fr,hN,h3,h6,q=>by
  by_cases hb:base>2
  ·have hu:=JO th (by omega) h6;obtain⟨N',rfl⟩:∃N',N=N'+1:=⟨N-1,by omega⟩;obtain⟨n,hn⟩:=o4 (C:=C) (K:=K) (e3:=e3) (e4:=e4) (e5:=e5) (e6:=e6) (e8:=e8) (e9:=e9) (e10:=e10) (e11:=e11) (e12:=e12) (rest:=rest) (r:=r) th N' _ true (by omega) hu.1 (by omega) (by grind);refine⟨n+1,?_⟩;have es:∀ {F:V→Prop},aF _ (.j base) H F=F _:=fun{F} =>by rw [aA _ _ th.fO.1];exact df (by omega) (by rw [th.jI];omega) (by rw [th.jI];simp)
   simp [fR] at hn ⊢;simp! [decide_eq_true hb,es];exact hn
  ·refine⟨1,?_⟩;simp [fR];simp! [decide_eq_false hb];simp_all
theorem ti {T:TD}{gk:Nat}{kid:Int→Int}{i1:Int}{g1:Nat}{S1:List Int}{ga1:Nat}{as1 bs1:List Nat}{p1:Nat}{i2:Int}{g2:Nat}{S2:List Int}{ga2:Nat}{as2 bs2:List Nat}{p2:Nat}{fr2:Bool}
 (w:W H τ ρ k 20) (htell:ρ.kV=true) (hfar:ρ.cC=[]) (th:Th (Wa H ρ) τ T) (hkid:kid 20≠kid 21) (hgk:Wa H ρ gk (.f [bY i1 g1 as1 ga1 false,bY i2 g2 as2 ga2 fr2])) (k1:Ky (Wa H ρ) τ kid i1 g1 S1 ga1 as1 bs1 p1 false) (k2:Ky (Wa H ρ) τ kid i2 g2 S2 ga2 as2 bs2 p2 fr2) (hk:k+1600≤19000)
 (q:∀H' τ' ρ',W H' τ' ρ' (k+1600) 20→Mv H H' τ τ' ρ ρ'→Q (.D true) H'):X.w (n+183) 105 [.y 3,.y 4,.y ρ.r,.j ρ.v,T.dI,.y gk] H Q:=by
 refine aC.hV rfl (Nat.le_refl _) (Nat.le_refl _) ?_
 show wS _ _ [some (.y 3),some (.y 4),some (.y ρ.r),some (.j ρ.v),some (.B _),some (.y gk),none,none,none,none,none,none,none,none,none,none,none,none,none,none,none,none,none,none,none,none,none,none,none] _ _
 rw [IL]
 simp! [fo]
 refine X.x (cA (n:=n) w.R (by decide) (by have:=w.bd.2.2.2;omega) fun H1 τ1 v G1 _ _ _ hv0 hv1=>?_) (by omega)
 obtain⟨place,hplace⟩:∃place,place=kP.getD v.toNat 0:=⟨_,rfl⟩
 have epl:∀ {F:V→Prop},aF (.B [.j 1,.j 4,.j 0,.j 3,.j 2,.j 5]) (.j v) H1 F=F (.j place):=fun{F} =>by rw [hplace];exact df (l:=kP) hv0 (by show v.toNat<6;omega) (by decide)
 have hpr:0≤place∧place<6:=by rw [hplace];exact ru v.toNat (by omega)
 simp! [epl]
 refine X.x (yy (n:=n) (w.gr (n:=k+1) G1 (by omega)) (G1.wa _ _ hgk) (k1.P G1.wa G1.le) (k2.P G1.wa G1.le) (by omega) fun H2 τ2 id g S ga as bs p fr G2 ky=>?_) (by omega)
 have G12:=G1.trans G2 (by omega:1+10≤11)
 have w2:=w.gr (n:=k+11) G12 (by omega)
 have th2:=th.P (G12.wa (ρ:=ρ)) G12.le
 have s2:∀ {H:AH} {F:V→Prop},aF (bY id g as ga fr) (.j 2) H F=F (.y ga):=fun{H F} =>oF _ _ _ _ _
 have s3:∀ {H:AH} {F:V→Prop},aF (bY id g as ga fr) (.j 3) H F=F (.D fr):=fun{H F} =>uu _ _ _ _ _ _
 have eui:∀ {F:V→Prop},aF (.y T.ui) (.j place) H2 F=F (.j (fI T.fO place)):=fun{F} =>by rw [aA _ _ th2.fO.1];exact df hpr.1 (by rw [th.jI];omega) (by rw [th.jI];simp)
 have i5:∀ {B:Bool→Prop},aI .jm (.j 5) (.y ga) H2 B=B _:=fun{B} =>qe ky.qU.1 5
 simp! [s2,s3,eui,i5]
 obtain⟨base0,hbase0⟩:∃base0,base0=(if place<3 then place else fI T.fO place):=⟨_,rfl⟩
 have hb0: -3≤base0∧base0<6:=by
  rw [hbase0];split
  ·omega
  ·have:=JO th2 hpr.1 hpr.2;omega
 have loop:∀fr0:Bool,fr0=(fr||(decide (place=2)&&decide (5∈as)))→wS (X.b (n+182)) (.fN (.bH .gt (.h 13) (.k (.j 2))) (.H 13 (.z (.h 7) (.h 13)) (.H 14 (.k (.D true)) (.V))) yO)
  [some (.y 3),some (.y 4),some (.y ρ.r),some (.j ρ.v),some (.B [.y T.ri,.y T.ui,.y T.ei,.y T.bi]),some (.y gk),some (.y T.ri),some (.y T.ui),some (.y T.ei),some (.y T.bi),some (.j place),some (bY id g as ga fr),some (.D (decide (place<3))),some (.j base0),some (.D fr0),none,none,none,none,none,none,none,none,none,none,none,none,none,none] H2 (bX Q):=by
  intro fr0 hfr0
  rw [va]
  refine o4 th2 base0.toNat base0 fr0 (Nat.le_refl _) hb0.1 hb0.2 fun base hbe hb2 hb3=>?_
  obtain⟨freely,hfreely⟩:∃f,f=(fr0||decide (base0>2)):=⟨_,rfl⟩
  rw [←hfreely]
  have hpn:=Int.toNat_of_nonneg hpr.1
  have hdec:decide (place.toNat<3)=decide (place<3):=by congr 1;rw [eq_iff_iff];omega
  have hbz:(if place.toNat<3 then((place.toNat:Nat):Int) else fI T.fO ((place.toNat:Nat):Int))=base0:=by rw [hpn,hbase0];simp
  obtain⟨obj,idx,wide,sec,ho,hi,hs,hs1,hs2⟩:=KG (place:=place.toNat) (base:=base) (freely:=freely) w2.cR th2 ky (by omega) (by rw [hbz];exact hbe) (by rw [hfreely];grind)
  rw [hdec,hpn] at ho
  rw [hdec] at hs hs1 hs2
  obtain⟨gL,hgL⟩:∃gL,gL=wL (fL (T.names base.toNat) (T.tx base.toNat) (T.nm base.toNat)) (T.tx base.toNat) (T.nm base.toNat) base (decide (place<3)) as:=⟨_,rfl⟩
  rw [←hgL] at hs1 hs2
  simp! [s2]
  refine X.x (te (n:=n) (sr:=T.sr base.toNat) (tx:=T.tx base.toNat) (nm:=T.nm base.toNat) w2.R ky.qU.1 ky.qU.2.1 ky.Oe.lt (by omega) (fun hb0' _=>⟨_,th2.sD.xg.1,th2.sD.xg.2.1,?_,(th2.sD.dk base.toNat (by omega)).1,(th2.sD.dk base.toNat (by omega)).2.1⟩) fun H3 G3=>?_) (by omega)
  ·rw [List.getElem?_map,List.getElem?_range (by omega)];rfl
  rw [←hgL]
  have w3:=w2.gr (n:=k+11) G3.gr (by omega)
  have ky3:=ky.P (G3.gr.wa (ρ:=ρ)) G3.gI
  have th3:=th2.P (G3.gr.wa (ρ:=ρ)) G3.gI
  have G13:=G12.trans G3.gr (by omega:11+0≤11)
  have I3:qD H3 τ2 ρ T id ga as place obj idx wide freely sec gL:=⟨th3.M,th.U,hpr,ky3.qU,G3.gr.mv.A2 (ρ:=ρ) ho,G3.gr.mv.Kh (ρ:=ρ) hi,G3.gr.mv.Mj w2 hs,hs1,hs2⟩
  have done:∀ {H4:AH} {τ4:Tb},Gr 40 H3 H4 τ2 τ4→∀H' τ' ρ',W H' τ' ρ' (k+51+1500) 20→Mv H4 H' τ4 τ' ρ ρ'→Q (.D true) H':=fun{H4 τ4} G4 H' τ' ρ' w' m'=>q H' τ' ρ' (w'.x (by omega)) ((G13.mv.trans G4.mv).trans m')
  exact X.x (wj (n:=n) w3 th3.M th.U hpr (G13.wa _ _ hgk) (k1.P G13.wa G13.le) (k2.P G13.wa G13.le) ky3 (by omega) (fun H4 τ4 a b G4 ha hb=>by simp [fo];exact wx (w3.gr G4 (by omega)) htell hfar (I3.gr w3 G4) (by omega) (done G4)) (fun H4 τ4 s a spot x y gf Sf gaf asf bsf pf frf G4 ha hs0 hs6 hx hrow kf=>wu (w3.gr G4 (by omega)) htell hfar (th3.P G4.wa G4.le) (I3.gr w3 G4) (ky3.P G4.wa G4.le) kf hkid ⟨hs0,hs6⟩ (by trivial) hrow (by omega) (done G4)) (fun H4 τ4 s gs Ss ass bss ps b ks r G4 hgs hb htm hps hSs hfew hset hwf hlen hrow hks=>by simp [fo];exact wt (w3.gr G4 (by omega)) htell hfar (I3.gr w3 G4) hgs htm hps hset hwf hlen hrow hks (by omega) (done G4))) (by omega)
 by_cases hown:place<3
 ·rw [if_pos hown] at hbase0;simp only [hown,decide_true] at loop ⊢;rw [hbase0] at loop;cases hfr:fr with
  |true=>simp;have:=loop true (by rw [hfr];rfl);rw [hfr] at this;omega
  |false=>
   simp;by_cases h2:place=2
   ·simp only [h2,if_true] at loop ⊢;have:=loop (decide (5∈as)) (by rw [hfr];simp);rw [hfr] at this;omega
   ·simp only [h2,decide_false,if_false] at loop ⊢;have:=loop false (by rw [hfr];simp);rw [hfr] at this;omega
 ·rw [if_neg hown] at hbase0;simp only [hown,decide_false,if_false] at loop ⊢;rw [hbase0] at loop;have h2:place≠2:=by omega
  cases hfr:fr with
  |true=>simp;have:=loop true (by rw [hfr];rfl);rw [hfr] at this;omega
  |false=>simp [h2,if_false];have:=loop false (by rw [hfr];simp [h2]);rw [hfr] at this;omega
end
def jX:MS:=.H 21 (.B (.cons (.h 12) (.cons (.bJ (.h 1) 10 (.cons (.B (.cons (.k (.j 14)) (.cons (.z (.h 5) (.h 9)) (.m)))) (.m))) (.m)))) (.g9 (.bB (.h 2) 39) (.h 21) (.k (.j 1)) (.H 22 (.w 79 (.cons (.h 2) (.cons (.h 12) (.cons (.z (.bB (.h 1) 0) (.h 12)) (.cons (.B (.cons (.k (.j 14)) (.cons (.z (.h 5) (.h 9)) (.m)))) (.m)))))) (.jn (.xa (.bB (.h 2) 39) (.cons (.h 21) (.m))) (.bL (.dy (.cons (.bH .eq (.h 22) (.h 13)) (.cons (.bH .eq (.oi (.bB (.bB (.h 2) 44) 0) (.h 10) .m) (.bA (.dy (.cons (.h 13) (.cons (.h 14) (.m)))) (.dm (.cons (.B (.cons (.k (.j 11)) (.cons (.bB (.h 2) 23) (.m)))) (.m))) (.dm (.m)))) (.m))))))))
section
variable {H H':AH}{ρ ρ':Rs}{τ τ':Tb}{F:V→Prop}{Q:az}{n k m:Nat}
theorem wz {H:AH}{r:Nat}{x y:ag}(e:H[r]?=some x)(hx:∀fs,x≠.J 2 fs):∀(g:Nat) (fs:List (Nat×V)),H[g]?=some (.J 2 fs)→(H.set r y)[g]?=some (.J 2 fs):=fun g fs e2=>aa e2 (by grind)
theorem W.Y (w:W H τ ρ k 20)(hb:ρ.aT=[]){s kt:Int}{r:List V}(hkt:bj τ kt (.j 14::r)):W (H.set ρ.n (.i [(av (s,kt),.j 1)])) τ {ρ with aT:=[(s,kt)],cC:=[kt] } k 20:=by
 have I:=w.sG;have d:=w.bC.ne;have rr:=w.bC;have ea:cP {ρ with aT:=[(s,kt)],cC:=[kt] } =[(av (s,kt),.j 1)] :=by rw [show({ρ with aT:=[(s,kt)],cC:=[kt] } :Rs).tl=[] from w.tl];rfl
 refine⟨rr.R w.R (by simp [Rs.l]),w.cR,⟨aa rr.J d.ra,by rw [ea];exact aj rr.n,aa rr.bk d.ak.symm,aa rr.G d.jo.symm,aa rr.aP d.an.symm,aa rr.aO d.aw.symm,rr.cF,rr.bD,?_⟩,⟨I.kn,fun e he=>.inl ?_,I.qQ,I.M,I.v,by simp,fun i hi=>?_⟩,w.tl,w.bM,w.v,w.bd,w.Q,w.aP⟩
 ·rw [w.tl];simp
 ·have:=he;rw [w.tl] at this;grind
 grind
theorem W.xa {s kt:Int}{far:List Int}(w:W H τ {ρ with aT:=[(s,kt)],cC:=far} k 20):W (H.set ρ.n (.i [])) τ {ρ with aT:=[],cC:=[] } k 20:=by
 have I:=w.sG;have d:=w.bC.ne;have rr:=w.bC;have htl:=w.tl;have ea:cP {ρ with aT:=[],cC:=[] } =[] :=by unfold cP;grind
 refine⟨rr.R w.R (by simp [Rs.l]),w.cR,⟨aa rr.J d.ra,by rw [ea];exact aj rr.n,aa rr.bk d.ak.symm,aa rr.G d.jo.symm,aa rr.aP d.an.symm,aa rr.aO d.aw.symm,rr.cF,rr.bD,?_⟩,⟨I.kn,fun e he=>?_,I.qQ,I.M,I.v,by simp,by simp⟩,w.tl,w.bM,w.v,w.bd,w.Q,w.aP⟩
 ·grind
 grind
theorem uH {s place:Int}{ri:Nat}{ids:List Int}{ra:List V}{want lax:Bool}{e3 e4 e6 e7 e8 e11 e15 e16 e17 e18 e19 e20:Option V}
 (w:W H τ ρ k 20) (htell:ρ.kV=true) (hfar:ρ.cC=[]) (hbase:ρ.aT=[]) (hrow:bj τ s ra) (hri:Wa H ρ ri (.f (zs ids))) (hpl:0≤place∧place.toNat<ids.length∧ids.length<2^20) (hk:k+900≤19000)
 (hcall:∀ {H1:AH} {τ1:Tb} {ρ1:Rs} {kt:Int} {Q1:az},W H1 τ1 ρ1 (k+1) 20→dY τ τ1→(∀(g:Nat) (fs:List (Nat×V)),H[g]?=some (.J 2 fs)→H1[g]?=some (.J 2 fs))→ρ1.r=ρ.r→ρ1.v=ρ.v→ρ1.kV=true→ρ1.cC=[kt] →ρ1.aT=[(s,kt)] →bj τ1 kt [.j 14,.j (fI ids place)] →(∀H2 τ2 ρ2,W H2 τ2 ρ2 (k+801) 20→Mv H1 H2 τ1 τ2 ρ1 ρ2→ρ2.M=ρ1.M++dq ρ1 (if(want&&lax)=true then [11] else [])→Q1 (.D want) H2)→X.w (n+182) 79 [.y ρ.r,.j s,.B ra,.B [.j 14,.j (fI ids place)]] H1 Q1)
 (q:∀H' τ' ρ',W H' τ' ρ' (k+900) 20→Mv H H' τ τ' ρ ρ'→Q (.D true) H'):
 wS (X.b (n+182)) jX [some (.y 3),some (.y 4),some (.y ρ.r),e3,e4,some (.y ri),e6,e7,e8,some (.j place),some (.j (ρ.M.length:Int)),e11,some (.j s),some (.D want),some (.D lax),e15,e16,e17,e18,e19,e20,none,none] H (bX Q):=by
 unfold jX
 obtain⟨th,hth⟩:∃th,th=fI ids place:=⟨_,rfl⟩
 rw [←hth] at hcall
 have esub:∀ {H:AH} {F:V→Prop},H[ri]?=some _→aF _ _ H F=F (.j th):=fun{H F} e=>by rw [aA _ _ e,hth];exact df hpl.1 hpl.2.1 hpl.2.2
 have wb:=w.bd.1
 simp! [w.R.J,esub hri.1]
 refine⟨by decide,rfl,X.x (fb w.R rfl (by omega) fun H1 τ1 kt G1 hkt=>?_) (by omega)⟩
 have w1:=w.gr (n:=k+1) G1.gr (by omega)
 have hasm:cP ρ=[] :=by unfold cP;rw [hbase,w.tl];rfl
 have ha1:=w1.bC.n
 rw [hasm] at ha1
 have ko:bI (.B _) [] :=⟨by show(av (s,kt)).aS≠0;rw [dS];decide,fun e he=>nomatch he⟩
 have eset:∀ {G:AH→Prop},cD (.y ρ.n) (.B [.j s,.j kt]) (.j 1) H1 G=G (H1.set ρ.n (.i [(av (s,kt),.j 1)])):=fun{G} =>by simp [cD,ha1,ko];simp [eA,av]
 simp! [w1.bC.gg,eset]
 have w2:=w1.Y hbase (s:=s) hkt
 have k2:∀i o,Wa H1 ρ i o→(H1.set ρ.n (.i [(av (s,kt),.j 1)]))[i]?=some o:=fun i o ⟨a,b,c⟩=>aa a (by rintro rfl;exact c (by simp [Rs.l]))
 have l12:(H1.set ρ.n (.i [(av (s,kt),.j 1)])).length=H1.length:=by simp
 obtain⟨ρ1,hρ1⟩:∃ρ1:Rs,ρ1= {ρ with aT:=[(s,kt)],cC:=[kt] } :=⟨_,rfl⟩
 rw [←hρ1] at w2
 have k2':∀(i:Nat) (o:ag),H1[i]?=some o→i≠ρ.n→(H1.set _ (.i [(av (s,kt),.j 1)]))[i]?=some o:=fun i o e h=>aa e h
 have r1:ρ1.r=ρ.r:=by rw [hρ1]
 have p1:ρ1.l=ρ.l:=by rw [hρ1];rfl
 simp! [w2.R.bx,w2.R.I (G1.I hrow),esub (k2 _ _ (G1.gr.wa _ _ hri))]
 refine hcall w2 G1.gI (fun g fs e=>wz (y:=.i [(av (s,kt),.j 1)]) ha1 (fun fs e=>nomatch e) g fs (G1.J w.R (by decide) e)) r1 (by rw [hρ1]) (by rw [hρ1];exact htell) (by rw [hρ1]) (by rw [hρ1]) hkt fun H3 τ3 ρ3 w3 m3 hr3=>?_
 have r3:ρ3.r=ρ.r:=by rw [m3.r,r1]
 have b3:ρ3.aT=[(s,kt)] :=by rw [m3.aT,hρ1]
 have as3:ρ3.n=ρ.n:=by rw [m3.eq,hρ1]
 have hasm3:cP ρ3=[(av (s,kt),.j 1)] :=by unfold cP;rw [b3,w3.tl];rfl
 have ha3:=w3.bC.n
 rw [hasm3,as3] at ha3
 have ga3:∀ {F},aX (.y ρ.r) 39 H3 F=F (.y ρ.n):=fun{F} =>by rw [←r3,←as3];exact w3.bC.gg
 have ko3:bI (.B _) [(av _,V.j 1)] :=⟨by show(av (s,kt)).aS≠0;rw [dS];decide,fun e he=>by simp at he;subst he;rfl⟩
 have epop:∀ {Q:az},ov (.y ρ.n) [.B [.j s,.j kt]] H3 Q=Q (.j 1) (H3.set ρ.n (.i [])):=fun{Q} =>by simp [ov,ha3,ko3];simp [bR,di,av]
 have eok:=sZ _ ha3
 simp! [ga3,eok,epop,or_true]
 obtain⟨ρ4,hρ4⟩:∃ρ4:Rs,ρ4= {ρ3 with aT:=[],cC:=[] } :=⟨_,rfl⟩
 have w4:W (H3.set ρ3.n (.i [])) τ3 ρ4 (k+801) 20:=by
  rw [hρ4];have e:({ρ3 with aT:=[(s,kt)],cC:=ρ3.cC})=ρ3:=by rw [←b3]
  apply W.xa;rw [e];omega
 rw [as3] at w4
 have k4:∀i o,H3[i]?=some o→i∉ρ3.l→(H3.set ρ.n (.i []))[i]?=some o:=fun i o a c=>aa a (by rintro rfl;exact c (by rw [←as3];simp [Rs.l]))
 have l34:(H3.set ρ.n (.i [])).length=H3.length:=by simp
 generalize H3.set _ _=H4 at w4 k4 l34
 have r4:ρ4.r=ρ.r:=by rw [hρ4];exact r3
 have p4:ρ4.l=ρ3.l:=by rw [hρ4];rfl
 have m4:Mv H H4 τ τ3 ρ ρ4:=⟨G1.gI.trans m3.le,fun i o a b c=>by obtain⟨x3,y3⟩:=m3.N i o (k2' i o (G1.gr.N i o a b) (by rintro rfl;exact c (by simp [Rs.l]))) b (by rw [p1];omega);exact⟨k4 i o x3 y3,by rw [p4];omega⟩,by have:=G1.N.U;have:=m3.U;omega,by rw [hρ4,m3.eq,hρ1];simp only [Rs.mk.injEq,true_and];exact⟨hbase.symm,hfar.symm⟩⟩
 have rows4:ρ4.M=ρ.M++(if(want&&lax)=true then [11] else []).map (bg ρ4):=by
  have e1:ρ4.M=ρ3.M:=by rw [hρ4]
  have e2:ρ1.M=ρ.M:=by rw [hρ1]
  have e3:ρ1.kV=true:=by rw [hρ1];omega
  have e4:ρ4.jo=ρ1.jo:=by rw [hρ4,m3.jo]
  rw [e1,hr3,e2];unfold dq bg;rw [e3,e4];rfl
 have fin:∀ {H5:AH},Gr 0 H4 H5 τ3 τ3→Q _ H5:=fun{H5} G5=>q H5 τ3 ρ4 (w4.gr G5 (by omega)) (m4.trans G5.mv)
 have wn:=w4.aP
 have gn:∀ {F},aX (.y ρ.r) 44 H4 F=F _:=fun{F} =>by rw [←r4];exact w4.bC.eC
 have hs:∀ {Q:az},d7 (.y ρ4.aO) (some (.j _)) none H4 Q=Q _ _:=fun{Q} =>by
  have hlt:ρ4.M.length<2^20:=by omega
  simp [d7,lj,w4.bC.aO,hlt,true_and];rw [rows4,r9]
 simp! [og _ _ _ _ (.h 10) rfl,gn,w4.bC.eB,hs]
 have G5:Gr 0 H4 (H4++[ag.f ((if(want&&lax)=true then [11] else []).map (bg ρ4))]) τ3 τ3:=(Gr.aD w4.R).Y _
 have w5:=w4.gr (n:=k+801) G5 (by omega)
 have ga5:∀ {F},aX (.y ρ.r) 23 _ F=F _:=fun{F} =>by rw [←r4];exact w5.bC.Od
 have e5:(H4++[ag.f ((if(want&&lax)=true then [11] else []).map (bg ρ4))])[H4.length]?=some _:=ae
 generalize hH5:H4++[ag.f _] =H5 at G5 w5 ga5 e5
 have cmp:∀cs,(if(want&&lax)=true then [11] else [])=cs→aI .eq (.y H4.length) (.y H5.length) (H5++[ag.f (cs.map (bg ρ4))]) fun r=>Q _ (H5++[ag.f (cs.map (bg ρ4))]):=fun cs hcs=>by
  have x1:(H5++[ag.f (cs.map (bg ρ4))])[H4.length]?=some (.f (cs.map (bg ρ4))):=by rw [←hcs];exact af e5
  simp [aI,qo,x1,jv];exact fin (G5.Y _)
 cases want with
 |false=>exact cmp [] rfl
 |true=>
  cases lax with
  |false=>exact cmp [] rfl
  |true=>
   simp! [ga5]
   exact cmp [11] rfl
end
def O4:MS:=.H 11 (.w 88 (.cons (.h 0) (.cons (.k (.j 6)) (.m)))) (.H 12 (.bJ (.h 1) 10 (.cons (.B (.cons (.k (.j 14)) (.cons (.z (.h 5) (.h 11)) (.m)))) (.m))) (.H 13 (.w 98 (.cons (.h 3) (.cons (.z (.h 7) (.h 9)) (.cons (.z (.h 7) (.h 11)) (.m))))) (.H 14 (.k (.D true)) (.V))))
def qc:MS:=.H 19 (.w 98 (.cons (.h 3) (.cons (.B (.cons (.oi (.z (.h 18) (.k (.j 0))) (.k (.j 1)) .m) (.cons (.z (.h 18) (.k (.j 1))) (.m)))) (.cons (.B (.cons (.dm (.cons (.hY .fZ (.k (.j 10)) (.h 9)) (.m))) (.cons (.k (.j 0)) (.m)))) (.m))))) (.H 20 (.dy (.cons (.bH .ge (.z (.h 6) (.h 9)) (.k (.j 0))) (.cons (.w 98 (.cons (.h 3) (.cons (.h 18) (.cons (.B (.cons (.dm (.cons (.hY .fZ (.k (.j 10)) (.z (.h 6) (.h 9))) (.m))) (.cons (.k (.j 0)) (.m)))) (.m))))) (.m)))) (.H 13 (.pK (.cons (.h 19) (.cons (.h 20) (.m)))) (.H 14 (.dy (.cons (.gH (.h 19)) (.cons (.bH .lt (.z (.h 6) (.h 9)) (.k (.j 3))) (.m)))) (.V))))
def OA:MS:=.H 12 (.w 6 (.cons (.h 1) (.cons (.k (.F (m "L"))) (.cons (.h 12) (.cons (.k (.j (-1))) (.m)))))) (.H 18 (.B (.cons (.hY .fZ (.dm (.cons (.k (.j 21)) (.m))) (.z (.h 18) (.k (.j 0)))) (.cons (.z (.h 18) (.k (.j 1))) (.m)))) (.V))
def OB:MS:=.H 15 (.z (.B (.cons (.k (.j 0)) (.cons (.k (.j 1)) (.cons (.k (.j 3)) (.cons (.k (.j 4)) (.cons (.k (.j 5)) (.m))))))) (.w 88 (.cons (.h 0) (.cons (.k (.j 5)) (.m))))) (.H 16 (.w 88 (.cons (.h 0) (.cons (.k (.j 6)) (.m)))) (.H 17 (.bA (.bH .eq (.h 16) (.k (.j 4))) (.k (.j (-1))) (.bA (.bH .eq (.h 16) (.k (.j 5))) (.k (.j 2)) (.bJ (.h 1) 10 (.cons (.B (.cons (.k (.j 14)) (.cons (.z (.h 5) (.h 15)) (.m)))) (.m))))) (.H 18 (.bA (.bH .eq (.h 16) (.k (.j 4))) (.B (.cons (.dm (.cons (.k (.j 20)) (.m))) (.cons (.k (.j 32767)) (.m)))) (.bA (.bH .eq (.h 16) (.k (.j 5))) (.B (.cons (.dm (.cons (.k (.j 20)) (.m))) (.cons (.k (.j 0)) (.m)))) (.B (.cons (.dm (.cons (.k (.j 20)) (.cons (.hY .fZ (.k (.j 10)) (.h 15)) (.m)))) (.cons (.k (.j 2048)) (.m)))))) (.H 12 (.w 6 (.cons (.h 1) (.cons (.k (.F (m "K"))) (.cons (.h 17) (.cons (.k (.j (-1))) (.m)))))) (.bA (.bH .eq (.w 88 (.cons (.h 0) (.cons (.k (.j 3)) (.m)))) (.k (.j 0))) OA (.V) qc)))))
theorem IG:lU.mL=.g8 [5,6,7,8] (.h 4) (.H 9 (.z (.B (.cons (.k (.j 1)) (.cons (.k (.j 4)) (.cons (.k (.j 0)) (.cons (.k (.j 3)) (.cons (.k (.j 2)) (.cons (.k (.j 5)) (.m)))))))) (.w 88 (.cons (.h 0) (.cons (.k (.j 6)) (.m))))) (.H 10 (.pO .U (.cons (.bB (.bB (.h 2) 44) 0) (.m))) (.bA (.bH .eq (.w 88 (.cons (.h 0) (.cons (.k (.j 2)) (.m)))) (.k (.j 0))) O4 OB jX))):=rfl
section
variable {H H':AH}{ρ ρ':Rs}{τ τ':Tb}{F:V→Prop}{Q:az}{n k m:Nat}
theorem Th.t7 {T:TD}(th:Th (Wa H ρ) τ T){j:Int}{H1:AH}(e:H1[T.ei]?=some (.f (T.fP 6)))(h0:0≤j)(h6:j<6){F:V→Prop} :aF (.y T.ei) (.j j) H1 F=F (bc (T.g j.toNat) (ah (T.as j.toNat))):=by rw [aA _ _ e,show j=j.toNat from(Int.toNat_of_nonneg h0).symm];refine cz _ ?_ (by omega);unfold TD.fP;grind
theorem Th.at {T:TD}(th:Th (Wa H ρ) τ T){j:Int}(h0:0≤j)(h6:j<6):qK (Wa H ρ) τ T.cm T.fO j.toNat (fI T.cm j) (fI T.fO j) (T.g j.toNat) (T.S j.toNat) (T.as j.toNat) (T.p j.toNat):=by
 obtain⟨id,up,en⟩:=th.vw j.toNat (by omega);have e1:fI T.cm j=id:=by unfold fI;rw [List.getD_eq_getElem?_getD,en.xl];rfl
 have e2:fI T.fO j=up:=by unfold fI;rw [List.getD_eq_getElem?_getD,en.Mb];rfl
 simp_all
theorem Th.Oc {T:TD}(th:Th (Wa H ρ) τ T)(both:Bool){i j:Int}(hi:0≤i∧i<6)(hj:0≤j∧j<6):hG both (T.S i.toNat) (ah (T.as i.toNat)) (T.S j.toNat) (ah (T.as j.toNat))=aB both ((T.S i.toNat).map (fI T.cm)) (T.as i.toNat) ((T.S j.toNat).map (fI T.cm)) (T.as j.toNat):=by have e1:=th.at hi.1 hi.2;have e2:=th.at hj.1 hj.2;refine gv e1.wf.1 e2.wf.1 fun u hu t ht e=>?_;obtain⟨r,hr⟩:=e2.hd;rw [hr] at ht;simp at ht;have b1:=e1.xk u hu;refine qm th.W ⟨b1.1,by rw [th.U];omega⟩ ?_ e;rw [th.U];omega
theorem qK.d5 {A:Ad}{ids ups:List Int}{k:Nat}{id up:Int}{g:Nat}{S:List Int}{as:List Nat}{p:Nat}(h:qK A τ ids ups k id up g S as p):∃kt r,bj τ id (.j kt::r)∧(kt=8∨kt=9∨kt=10∨kt=11):=by
 rcases h.aS with⟨_,_,_,kt,r,hr,hk⟩|⟨_,pid,b,hr,_⟩
 ·grind
 grind
theorem yx {T:TD}{place v:Int}{a b c d:Option V}(w:W H τ ρ k 20)(htell:ρ.kV=true)(hfar:ρ.cC=[])(hbase:ρ.aT=[])(th:Th (Wa H ρ) τ T)(hpr:0≤place∧place<6)(hk:k+1000≤19000)
 (q:∀H' τ' ρ',W H' τ' ρ' (k+1000) 20→Mv H H' τ τ' ρ ρ'→Q (.D true) H'):
 wS (X.b (n+182)) O4 [some (.y 3),some (.y 4),some (.y ρ.r),some (.D (decide (ρ.v=2))),some T.dI,some (.y T.ri),some (.y T.ui),some (.y T.ei),some (.y T.bi),some (.j place),some (.j (ρ.M.length:Int)),none,none,none,none,none,none,none,none,none,none,none,none] H
  (fun fl env H=>match fl with| .a=>wS (X.b (n+182)) jX env H (bX Q)|fl=>bX Q fl env H):=by
 refine X.x (cA (n:=n) w.R (by simp) (by have:=w.bd.2.2.2;omega) fun H1 τ1 spot G1 _ _ _ hs0 hs6=>?_) (by omega)
 have w1:=w.gr (n:=k+1) G1 (by omega)
 have esub:∀ {j:Int} {F:V→Prop},0≤j→j<6→aF _ _ H1 F=F (.j (fI _ j)):=fun{j F} h0 h6=>by rw [aA _ _ (th.P G1.wa G1.le).M.1];exact df h0 (by rw [th.U];omega) (by rw [th.U];simp)
 have wb:=w1.bd.1
 simp! [w1.R.J,esub hs0 hs6]
 refine⟨by simp,rfl,X.x (fb w1.R rfl (by omega) fun H2 τ2 s G2 hrow=>?_) (by omega)⟩
 have G12:=G1.trans G2.gr (by omega:1+1≤2)
 have w2:=w.gr (n:=k+2) G12 (by omega)
 have th2:=th.P G12.wa G12.le
 simp! [th2.t7 th2.eV.1 hpr.1 hpr.2,th2.t7 th2.eV.1 hs0 hs6]
 have eS:=th2.at hs0 hs6
 refine X.x (iR (n:=n) w2.R (th2.at hpr.1 hpr.2).t7.1 eS.t7.1 fun H3 G3=>?_) (by omega)
 rw [th2.Oc _ hpr ⟨hs0,hs6⟩]
 have th3:=th2.P G3.gr.wa G3.gI
 refine uH (w2.gr (n:=k+2) G3.gr (by omega)) htell hfar hbase ‹_› th3.M ⟨hpr.1,by rw [th.U];omega,by rw [th.U];simp⟩ (by omega) (fun{H4 τ4 ρ4 kt Q4} w4 le4 i4 r4 mo4 te4 fa4 ba4 hkt q4=>?_) fun H' τ' ρ' w' m'=>q H' τ' ρ' (w'.x (by omega)) ((G12.mv (ρ:=ρ)|>.trans G3.gr.mv).trans m')
 rw [←r4]
 have eP3:=th3.at hpr.1 hpr.2
 have eS3:=th3.at hs0 hs6
 have hch:(T.S spot.toNat).map (fI T.cm)≠ [] :=by obtain⟨r,hr⟩:=eS.hd;rw [hr];simp
 have hne:fI _ spot≠kt:=fun e=>by obtain⟨kk,r,hr,hkk⟩:=eS3.d5;have:=(le4.I hr).bE (e▸hkt);grind
 refine X.x (vI (n:=n) w4 fa4 (eP3.tm.P le4) (eS3.tm.P le4) hne (by have:=eP3.Md;omega) hch (by have:=eP3.wf.2;omega) (by have:=eS3.wf.2;omega) (by omega) fun H5 τ5 ρ5 w5 m5 hr5=>?_) (by omega)
 rw [mo4] at hr5 ⊢
 apply q4 H5 τ5 ρ5 (w5.x (by omega)) m5
 simp_all
end
def kF (τ:Tb)(ids:List Int)(f:Int→Int)(S:List Int):Prop:=∀x∈S,((x=20∨x=21)∧∃r,bj τ (f x) (.j 10::r))∨∃at_,x=10+at_∧0≤at_∧at_<6∧at_≠2∧bj τ (f x) [.j 14,.j (fI ids at_)]
theorem kF.P {τ τ':Tb}(le:dY τ τ'){ids:List Int}{f:Int→Int}{S:List Int}(h:kF τ ids f S):kF τ' ids f S:=fun x hx=>(h x hx).imp (fun⟨a,r,b⟩=>⟨a,r,le.I b⟩) fun⟨at_,a,b,c,d,e⟩=>⟨at_,a,b,c,d,le.I e⟩
theorem rE {H:AH}{τ:Tb}{ids:List Int}{f:Int→Int}{S:List Int}{both:Bool}{ab:List Nat}{j kb:Int}(ht:aY H τ)(hn:ids.Nodup)(hl:ids.length=6)(h:kF τ ids f S)(hw:Wf ab)(hj:0≤j∧j<6)(hkb:bj τ kb [.j 14,.j (fI ids j)]):hG both S (ah ab) [10+j] 0=aB both (S.map f) ab [kb] [16] :=by
 have wf16:Wf [16] :=⟨fun a ha=>by simp at ha;subst ha;trivial,by simp,by simp⟩;have e:hG _ S (ah ab) [10+j] 0=hG both S _ [10+j] (ah [16]):=rfl;obtain⟨f',hf'⟩:∃f':Int→Int,f'=fun x=>if x=10+j then kb else f x:=⟨_,rfl⟩;have key:∀x∈S,f' x=kb→x=10+j:=fun x hx e=>by
  by_cases hxj:x=10+j
  ·omega
  rw [hf'] at e;simp [hxj] at e;rcases h x hx with⟨_,r,hr⟩|⟨at_,hxa,a0,a6,_,hr⟩
  ·rw [e] at hr;have:=hr.bE hkb;simp_all
  ·rw [e] at hr;have:=hr.bE hkb;simp at this;have:=qm hn (by omega) (by omega) this;omega
 have hmap:S.map f'=S.map f:=List.map_congr_left fun x hx=>by
  rw [hf'];by_cases hxj:x=10+j
  ·simp [hxj];rcases h x hx with⟨z,_⟩|⟨at_,hxa,a0,a6,_,hr⟩
   ·omega
   ·have:at_=j:=by omega
    subst this;rw [hxj] at hr;exact hkb.inj ht.W hr
  grind
 have e2:[kb] =[10+j].map f':=by rw [hf'];simp
 rw [e,gv hw wf16 _,hmap,←e2];grind
section
variable {H H':AH}{ρ ρ':Rs}{τ τ':Tb}{F:V→Prop}{Q:az}{n k m:Nat}
theorem kZ {both:Bool}{cs:List Int}{ab:List Nat}{kb:Int} :aB both cs ab [kb] [16] =(ab.isEmpty||(cs.contains kb||(both&&ab==[10]))):=rfl
theorem rF {T:TD}{s pid b place:Int}{cb:List Int}{ab:List Nat}{pb gt y:Nat}{ys:Int}{S':List Int}{f:Int→Int}{e11 e13 e14 e15 e16 e17 e19 e20:Option V}(w:W H τ ρ k 20)(htell:ρ.kV=true)(hfar:ρ.cC=[])(hbase:ρ.aT=[])(th:Th (Wa H ρ) τ T)(hpr:0≤place∧place<6)
 (hs:bj τ s [.j 10,.j pid]) (hb:vm τ pid b) (htb:Tm τ (hO b) cb ab pb) (hpb:pb≤1) (hgt:Wa H ρ gt (.f (zs (ys::S')))) (hcb:cb=S'.map f) (hfs:f ys=s) (hsym:kF τ T.cm f (ys::S')) (hwf:Wf ab) (hab:ab=[16] ∨((ab=[] ∨ab=[10])∧∀x∈ys::S',x=20∨x=21)) (hk:k+950≤19000)
 (q:∀H' τ' ρ',W H' τ' ρ' (k+950) 20→Mv H H' τ τ' ρ ρ'→Q (.D true) H'):
 wS (X.b (n+182)) qc [some (.y 3),some (.y 4),some (.y ρ.r),some (.D (decide (ρ.v=2))),some T.dI,some (.y T.ri),some (.y T.ui),some (.y T.ei),some (.y T.bi),some (.j place),some (.j (ρ.M.length:Int)),e11,some (.j s),e13,e14,e15,e16,e17,some (bc gt (ah ab)),e19,e20,none,none] H
  (fun fl env H=>match fl with| .a=>wS (X.b (n+182)) jX env H (bX Q)|fl=>bX Q fl env H):=by
 have hl:=w.R.U
 obtain⟨both,hboth⟩:∃both,both=decide (ρ.v=2):=⟨_,rfl⟩
 obtain⟨up,hup⟩:∃up,up=fI T.fO place:=⟨_,rfl⟩
 obtain⟨early,hearly⟩:∃e,e=hG both S' (ah ab) [10+place] 0:=⟨_,rfl⟩
 obtain⟨late,hlate⟩:∃l,l=(if 0≤up then hG both (ys::S') (ah ab) [10+up] 0 else(ab.isEmpty||(both&&ab==[10]))):=⟨_,rfl⟩
 obtain⟨lateL,hlateL⟩:∃l,l=(if 0≤up then hG both (ys::S') (ah ab) [10+up] 0 else false):=⟨_,rfl⟩
 have hsl:(ys::S').length≤3:=by
  have hlen:∀ {t:Int} {c:List Int} {as:List Nat} {p:Nat},Tm τ t c as p→c.length≤p+1:=fun{t c as p} z=>by
   induction z with
   |cq _=>simp
   |o=>simp
   |ba _ _ _ _ _=>simp
   |gG _ _ _=>simp
   |hU _ _ _ ih=>simp;omega
  grind
 have hmapS:(ys::S').map f=s::cb:=by rw [List.map_cons,hfs,hcb]
 have hsym':kF τ T.cm f S':=fun x hx=>hsym x (List.mem_cons_of_mem _ hx)
 have early_eq:∀ {H1:AH} {τ1:Tb} {kt:Int},aY H1 τ1→dY τ τ1→bj τ1 kt [.j 14,.j (fI T.cm place)] →aB both cb ab [kt] [16] =early:=fun{H1 τ1 kt} t1 le hkt=>by rw [hearly,rE t1 th.W th.U (hsym'.P le) hwf hpr hkt,hcb]
 have fin:∀ {H1:AH} {e11 e15 e16 e17 e18 e19 e20:Option V},Gr 0 H H1 τ τ→wS (X.b (n+182)) jX [some (.y 3),some (.y 4),some (.y ρ.r),some (.D (decide (ρ.v=2))),some T.dI,some (.y T.ri),some (.y T.ui),some (.y T.ei),some (.y T.bi),some (.j place),some (.j (ρ.M.length:Int)),e11,some (.j s),some (.D (early||lateL)),some (.D (!early&&decide (up<3))),e15,e16,e17,e18,e19,e20,none,none] H1 (bX Q):=by
  intro H1 e11 e15 e16 e17 e18 e19 e20 G1;refine uH (X:=X) (n:=n) (ids:=T.cm) (ra:=[.j 10,.j pid]) (w.gr (n:=k) G1 (by omega)) htell hfar hbase hs (G1.wa _ _ th.M) ⟨hpr.1,by rw [th.U];omega,by rw [th.U];decide⟩ (by omega) (fun{H4 τ4 ρ4 kt Q4} w4 le4 i4 r4 mo4 te4 fa4 ba4 hkt q4=>?_) fun H' τ' ρ' w' m'=>q H' τ' ρ' (w'.x (by omega)) (G1.mv.trans m');have he:=early_eq w4.R le4 hkt;obtain⟨own,obj,ho,hown,hobj⟩:∃own obj,qI τ (fI T.cm place) obj own∧(own=true→up= -3)∧(own=false→(0≤up∧up<place∧obj=fI T.cm up)∨(up= -2∧obj=6)∨(up= -1∧obj=1)):=by
   rcases(th.at hpr.1 hpr.2).aS with⟨z,u3,_,kt',r',hr',hk'⟩|⟨z,pid',b',hr',hbd',hk'⟩
   ·exact⟨true,_,.inl ⟨rfl,rfl,kt',r',hr',fun z=>by simp at hk' z;omega⟩,(by omega),(by simp)⟩
   ·rw [←hup] at hk';refine⟨false,hO b',.inr ⟨rfl,fun e=>?_,pid',b',hr',hbd',rfl⟩,(by simp),fun _=>?_⟩
    ·rcases hk' with⟨u0,u1,u2,_⟩|⟨u1,u2⟩|⟨u1,u2⟩
     ·have:=qm th.W ⟨u0,by rw [th.U];omega⟩ ⟨hpr.1,by rw [th.U];omega⟩ (u2.symm.trans e);omega
     ·rw [u2] at e;rw [←e] at hr';have:=hr'.bE (w.cR.I (by simp) (by simp) rfl);simp at this
     ·rw [u2] at e;rw [←e] at hr';have:=hr'.bE (w.cR.I (by simp) (by simp) rfl);simp at this
    ·rcases hk' with⟨u0,u1,u2,_⟩|⟨u1,u2⟩|⟨u1,u2⟩
     ·exact .inl ⟨u0,by omega,u2⟩
     ·exact .inr (.inl ⟨u1,u2⟩)
     omega
  have obj1:0≤up→own=false→obj≠1:=fun h0 ho' e=>by
   rcases hobj ho' with⟨_,hup2,e2⟩|⟨z,_⟩|⟨z,_⟩
   ·obtain⟨kk,r,hr,hkk⟩:=(th.at h0 (by omega)).d5;rw [←e2,e] at hr;have:=hr.bE (w.cR.I (by simp) (by simp) rfl);simp at this;omega
   ·omega
   omega
  have nolate:early=false→up<0→late=false:=fun z h0=>by rw [hlate,if_neg (by omega)];rw [←he,kZ] at z;simp only [Bool.or_eq_false_iff] at z;rw [z.1,z.2.2];rfl
  have hla:own=false→obj≠1→∀ {H':AH} {τ':Tb} {kb:Int},aY H' τ'→dY τ4 τ'→bj τ' kb [.j 14,.j obj] →aB (decide (ρ4.v=2)) (s::cb) ab [kb] [16] =late:=fun ho' h1 {H' τ' kb} t' le' hkb=>by
   rw [mo4,←hboth];rcases hobj ho' with⟨u0,u1,e2⟩|⟨u1,e2⟩|⟨u1,e2⟩
   ·rw [hlate,if_pos u0,rE t' th.W th.U (hsym.P (le4.trans le')) hwf (by omega) (by rw [←e2];omega),hmapS]
   ·rw [hlate,if_neg (by omega),kZ];have hnc:(s::cb).contains kb=false:=by
     rw [←hmapS,Bool.eq_false_iff];intro z;rw [List.contains_iff_mem,List.mem_map] at z;obtain⟨x,hx,e⟩:=z;rcases(hsym.P (le4.trans le')) x hx with⟨_,r,hr⟩|⟨at_,_,a0,a6,_,hr⟩
     ·rw [e] at hr;have:=hr.bE hkb;simp at this
     ·rw [e] at hr;have:=hr.bE hkb;simp at this;obtain⟨kk,r,hr2,hkk⟩:=(th.at a0 a6).d5;rw [this,e2] at hr2;have:=hr2.bE (w.cR.I (by simp) (by simp) rfl);simp at this;omega
    rw [hnc,Bool.false_or]
   omega
  have hsu:own=false→obj≠1→late=true→aB (decide (ρ4.v=2)) cb ab [kt] [16] =false→zS H4 τ4 obj (decide (ρ4.v=2)) (s::cb) ab (decide (3≤up)):=fun ho' h1 hlt hne=>by
   rw [mo4,←hboth] at hne ⊢;rw [he] at hne;have hu0:0≤up:=Classical.byContradiction fun z=>by rw [nolate hne (by omega)] at hlt;cases hlt
   obtain⟨e2,u1⟩:obj=fI T.cm up∧up<place:=by
    rcases hobj ho' with⟨_,u1,e2⟩|⟨z,_⟩|⟨z,_⟩
    ·omega
    ·omega
    omega
   by_cases hu3:3≤up
   ·rw [decide_eq_true hu3];rcases(th.at hu0 (by omega)).aS with⟨z,_⟩|⟨_,pid',b',hr',_⟩
    ·omega
    ·exact .inl ⟨rfl,pid',by rw [e2];exact le4.I hr'⟩
   ·rw [decide_eq_false hu3];rw [hlate,if_pos hu0] at hlt;have hz:early=(ab.isEmpty||(cb.contains kt||(both&&ab==[10]))):=by rw [←he,kZ]
    rw [hne] at hz;have hz2:=hz.symm;simp only [Bool.or_eq_false_iff] at hz2;have hx0:ah ab≠0:=fun e=>by rw [lz hwf.ok] at e;rw [e] at hz2;cases hz2.1
    rw [kU hx0] at hlt;have hall:(both&&ah ab==32767)=false:=by
     have:(ah ab==32767)=(ab==[10]):=by rw [Bool.eq_iff_iff,beq_iff_eq,beq_iff_eq,eT hwf]
     rw [this];exact hz2.2.2
    rw [hall,Bool.or_false,List.contains_iff_mem] at hlt;have hab16:ab=[16] :=hab.elim id fun⟨_,z⟩=>by have:=z _ hlt;omega
    have hu2:up≠2:=fun e=>by
     rcases hsym _ hlt with⟨z,_⟩|⟨at_,z,_,_,z2,_⟩
     ·omega
     omega
    have hno:∀bs,(∀a∈bs,a∈ [6,7,8,15])→aB both (s::cb) ab [] bs=false:=fun bs hbs=>by
     rw [hab16,b9 (by simp)];have key:=fun b hb=>by have:=hbs b hb;simp at this;exact tr b (by omega) (by omega) (by omega)
     unfold dg;cases both with
     |true=>simp only [if_true,List.any_cons,List.any_nil,Bool.or_false];rw [List.any_eq_false];intro b hb;unfold iW;rw [(key b hb).1,(key b hb).2];simp
     |false=>simp only [Bool.false_eq_true,if_false,List.all_cons,List.all_nil,Bool.and_true];rw [List.any_eq_false];intro b hb;rw [(key b hb).1];simp
    have t3:=th.sD;have h01:up=0∨up=1:=by omega
    rcases h01 with h|h
    ·obtain⟨ps,c0,c1,a1,a2,a3,a4,a5,a6,_⟩:=t3.o0;rw [←h,←e2] at a1;exact .inr ⟨rfl,obj,ps,c0,c1,.sE (le4.I a1),a5,a6,hno⟩
    ·obtain⟨did,gd,fs,u,r1,d0,d1,hd,hg,f16,f15,ps,c0,c1,a1,a2,a3,a4,a5,a6,_⟩:=t3.o1;rw [←h,←e2] at r1;have sh:Sh H1 τ obj u ps c0 c1:=.y r1 d0 d1 hd (G1.N _ _ hg.1 (by have:=hg.2.1;omega)) f16 f15 a1;exact .inr ⟨rfl,u,ps,c0,c1,sh.N le4 i4,a5,a6,hno⟩
  rw [←r4];have ho4:qI τ4 (fI T.cm place) obj own:=ho.imp (fun⟨a,b,kt',r',c,d⟩=>⟨a,b,kt',r',le4.I c,d⟩) fun⟨a,b,pid',x',c,d,e⟩=>⟨a,b,pid',x',le4.I c,le4.sM d,e⟩;refine X.x (vH (n:=n) w4 te4 fa4 ba4 hkt (le4.I hs) (le4.sM hb) (htb.P le4) hpb (by rcases hab with e|⟨e|e,_⟩<;>(rw [e];decide)) ho4 hla hsu (by omega) fun H5 τ5 ρ5 w5 m5 hr5=>?_) (by omega);rw [mo4,←hboth,he] at hr5 ⊢;have both_eq:(early||(gw own (decide (obj=1)) late (decide (3≤up))).1)=(early||lateL)∧(if early=true then [] else(gw own (decide (obj=1)) late (decide (3≤up))).2)=(if((early||lateL)&&(!early&&decide (up<3)))=true then [11] else []):=by
   cases hea:early with
   |true=>simp
   |false=>
    simp;cases hoo:own with
    |true=>
     have u3:=hown hoo;have:lateL=false:=by rw [hlateL,if_neg (by omega)]
     rw [this];exact⟨rfl,rfl⟩
    |false=>
     by_cases hu0:0≤up
     ·have e1:lateL=late:=by rw [hlateL,hlate,if_pos hu0,if_pos hu0]
      have e2:gw false (decide (obj=1)) late (decide (3≤up))=if late=true then(true,if decide (3≤up)=true then [] else [11]) else(false,[]):=by unfold gw;simp [obj1 hu0 hoo]
      rw [e1,e2];cases late with
      |false=>simp
      |true=>
       simp only [if_true];refine⟨trivial,?_⟩;by_cases h3:3≤up
       ·rw [if_pos (decide_eq_true h3),if_neg (by omega)]
       ·rw [if_neg (by simpa using h3),if_pos (by simp;omega)]
     ·have e1:lateL=false:=by rw [hlateL,if_neg hu0]
      rw [e1,nolate hea (by omega)];have:gw false (decide (obj=1)) false (decide (3≤up))=(false,[]):=by unfold gw;simp
      rw [this];simp
  rw [both_eq.1];refine q4 H5 τ5 ρ5 (w5.x (by omega)) m5 ?_;rw [hr5,both_eq.2]
 unfold qc
 have s0:∀ {H:AH} {F:V→Prop},aF (bc gt (ah ab)) (.j 0) H F=F (.y gt):=fun{H F} =>oH _ _ _
 have s1:∀ {H:AH} {F:V→Prop},aF (bc gt (ah ab)) (.j 1) H F=F (.j (ah ab:Int)):=fun{H F} =>oG _ _ _ _
 have eui:∀ {H1:AH} {F:V→Prop},H1[T.ui]?=some (.f (zs T.fO))→aF (.y T.ui) (.j place) H1 F=F (.j up):=fun{H1 F} e=>by rw [aA _ _ e,hup];exact df hpr.1 (by rw [th.jI];omega) (by rw [th.jI];simp)
 have eslc:∀ {Q:az},d7 (.y gt) (some (.j 1)) none H Q=Q (.y H.length) (H++[.f (zs S')]):=fun{Q} =>by
  have hlt:(zs (ys::S')).length<2^20:=by rw [List.length_map];omega
  simp only [d7,lj,hgt.1,hlt,true_and];have:fu (zs (ys::S')) (some 1) none=zs S':=List.take_of_length_le (by simp);rw [this]
 simp! [og _ _ _ (.z (.h 18) (.k (.j 0))) (.k (.j 1)) rfl,s0,s1,eslc,tT]
 have G1:Gr 0 H (H++[ag.f (zs S')]) τ τ:=(Gr.aD w.R).Y _
 have G2:Gr 0 H (H++[ag.f (zs S')] ++[ag.f [.j (10+place)]]) τ τ:=G1.Y _
 refine X.x (iR (n:=n) (x:=ah ab) (y:=0) (T:=[10+place]) G2.R (af ae) ae fun H3 G3=>?_) (by omega)
 rw [←hboth,←hearly]
 have G03:=G2.trans G3.gr (by omega:0+0≤0)
 simp! [eui (G03.wa (ρ:=ρ) _ _ th.fO).1]
 by_cases hu0:0≤up
 ·have hge:=decide_eq_true hu0;have hlL:lateL=hG both (ys::S') (ah ab) [10+up] 0:=by rw [hlateL,if_pos hu0]
  simp [hge];have G4:=G03.Y (.f [.j (10+up)]);refine X.x (iR (n:=n) (T:=[10+up]) G4.R (G4.wa _ _ hgt).1 ae fun H5 G5=>?_) (by omega);rw [←hlL];have G05:=G4.trans G5.gr (by omega:0+0≤0);rw [←hboth] at fin;cases hea:early with
  |true=>have fin':=fun{e11 e15 e16 e17 e18 e19 e20} =>fin (e11:=e11) (e15:=e15) (e16:=e16) (e17:=e17) (e18:=e18) (e19:=e19) (e20:=e20) G05;rw [hea] at fin';simpa using fin'
  |false=>have fin':=fun{e11 e15 e16 e17 e18 e19 e20} =>fin (e11:=e11) (e15:=e15) (e16:=e16) (e17:=e17) (e18:=e18) (e19:=e19) (e20:=e20) G05;rw [hea] at fin';simp [eui (G05.wa _ _ th.fO).1,Nc];simpa using fin'
 ·have hge:=decide_eq_false hu0;have hlL:lateL=false:=by rw [hlateL,if_neg hu0]
  simp [hge];rw [←hboth,hlL] at fin;cases hea:early with
  |true=>have fin':=fun{e11 e15 e16 e17 e18 e19 e20} =>fin (e11:=e11) (e15:=e15) (e16:=e16) (e17:=e17) (e18:=e18) (e19:=e19) (e20:=e20) G03;rw [hea] at fin';simpa using fin'
  |false=>have fin':=fun{e11 e15 e16 e17 e18 e19 e20} =>fin (e11:=e11) (e15:=e15) (e16:=e16) (e17:=e17) (e18:=e18) (e19:=e19) (e20:=e20) G03;rw [hea] at fin';simpa using fin'
end
def IH:MS:=.H 12 (.w 6 (.cons (.h 1) (.cons (.k (.F (m "K"))) (.cons (.h 17) (.cons (.k (.j (-1))) (.m)))))) (.bA (.bH .eq (.w 88 (.cons (.h 0) (.cons (.k (.j 3)) (.m)))) (.k (.j 0))) OA (.V) qc)
def MY:MS:=.H 17 (.bA (.bH .eq (.h 16) (.k (.j 4))) (.k (.j (-1))) (.bA (.bH .eq (.h 16) (.k (.j 5))) (.k (.j 2)) (.bJ (.h 1) 10 (.cons (.B (.cons (.k (.j 14)) (.cons (.z (.h 5) (.h 15)) (.m)))) (.m))))) (.H 18 (.bA (.bH .eq (.h 16) (.k (.j 4))) (.B (.cons (.dm (.cons (.k (.j 20)) (.m))) (.cons (.k (.j 32767)) (.m)))) (.bA (.bH .eq (.h 16) (.k (.j 5))) (.B (.cons (.dm (.cons (.k (.j 20)) (.m))) (.cons (.k (.j 0)) (.m)))) (.B (.cons (.dm (.cons (.k (.j 20)) (.cons (.hY .fZ (.k (.j 10)) (.h 15)) (.m)))) (.cons (.k (.j 2048)) (.m)))))) IH)
theorem K4:OB=.H 15 (.z (.B (.cons (.k (.j 0)) (.cons (.k (.j 1)) (.cons (.k (.j 3)) (.cons (.k (.j 4)) (.cons (.k (.j 5)) (.m))))))) (.w 88 (.cons (.h 0) (.cons (.k (.j 5)) (.m))))) (.H 16 (.w 88 (.cons (.h 0) (.cons (.k (.j 6)) (.m)))) MY):=rfl
section
variable {H H':AH}{ρ ρ':Rs}{τ τ':Tb}{F:V→Prop}{Q:az}{n k m:Nat}
theorem W.xe (w:W H τ ρ k m){H1:AH}{o:ag}(e:H1[H.length]?=some o):Wa H1 ρ H.length o:=⟨e,by have:=w.R.U;omega,fun z=>by have:=w.bC.lt _ z;omega⟩
theorem Wa.Y {g:Nat}{o x:ag}(h:Wa H ρ g o):Wa (H++[x]) ρ g o:=⟨af h.1,h.2⟩
theorem yu {T:TD}{place low:Int}{cb:List Int}{ab:List Nat}{gt:Nat}{S':List Int}{f:Int→Int}{e11 e13 e14 e15 e16 e19 e20:Option V}(w:W H τ ρ k 20)(htell:ρ.kV=true)(hfar:ρ.cC=[])(hbase:ρ.aT=[])(th:Th (Wa H ρ) τ T)(hpr:0≤place∧place<6)
 (hbt:Tm τ (hO low) cb ab 0) (hgt:Wa H ρ gt (.f (zs (20::S')))) (hcb:cb=S'.map f) (hsym:kF τ T.cm f S') (h20:∀x∈S',x≠20∧x≠21) (hwf:Wf ab) (hab:ab=[16] ∨((ab=[] ∨ab=[10])∧S'=[])) (hk:k+960≤19000)
 (q:∀H' τ' ρ',W H' τ' ρ' (k+960) 20→Mv H H' τ τ' ρ ρ'→Q (.D true) H'):
 wS (X.b (n+182)) IH [some (.y 3),some (.y 4),some (.y ρ.r),some (.D (decide (ρ.v=2))),some T.dI,some (.y T.ri),some (.y T.ui),some (.y T.ei),some (.y T.bi),some (.j place),some (.j (ρ.M.length:Int)),e11,none,e13,e14,e15,e16,some (.j low),some (bc gt (ah ab)),e19,e20,none,none] H
  (fun fl env H=>match fl with| .a=>wS (X.b (n+182)) jX env H (bX Q)|fl=>bX Q fl env H):=by
 have wb:=w.bd.1
 have wb2:=w.bd.2.1
 unfold IH
 refine X.x (dr (n:=n) w.R (by omega) (by omega) fun H1 τ1 i pid G1 _ _ hi hib hin=>?_) (by omega)
 have w1:=w.gr (n:=k+1) G1 (by omega)
 refine X.x (cA (n:=n) w1.R (by decide) (by have:=w1.bd.2.2.2;omega) fun H2 τ2 v G2 _ _ _ hv0 hv3=>?_) (by omega)
 have G12:=G1.trans G2 (by omega:1+1≤2)
 have w2:=w.gr (n:=k+2) G12 (by omega)
 have hi2:=G2.le.I hi
 have hib2:=G2.le.sM hib
 have hbt2:=hbt.P G12.le
 have hgt2:=G12.wa _ _ hgt
 obtain⟨f1,hf1⟩:∃f1:Int→Int,f1=fun x=>if x=20 then i else f x:=⟨_,rfl⟩
 have f1S:∀x∈S',f1 x=f x:=fun x hx=>by rw [hf1];exact if_neg (h20 x hx).1
 have f120:f1 20=i:=by rw [hf1];rfl
 have hcb1:cb=S'.map f1:=by rw [hcb];exact(List.map_congr_left f1S).symm
 have hsym1:kF τ2 T.cm f1 _:=fun x hx=>by
  rcases List.mem_cons.mp hx with e|e
  ·rw [e,f120];exact .inl ⟨.inl rfl,_,hi2⟩
  ·rw [f1S x e];exact(hsym.P G12.le) x e
 have hab1:ab=[16] ∨((ab=[] ∨ab=[10])∧∀x∈(20)::S',x=20∨x=21):=hab.imp id fun⟨a,b⟩=>⟨a,fun x hx=>by rw [b] at hx;simp at hx;exact .inl hx⟩
 by_cases hv:v=0
 ·subst hv;have e0:∀ {B:Bool→Prop},aI .eq (.j 0) (.j 0) H2 B=B true:=fun{B} =>rfl;unfold OA;have w2b:=w2.bd.1;have w2c:=w2.bd.2.1;refine X.x (dr (n:=n) w2.R (by omega) (by omega) fun H3 τ3 j pid3 G3 _ _ hj hjb hjn=>?_) (by omega);have G03:=G12.trans G3 (by omega:2+1≤3);have s0:∀ {H:AH} {F:V→Prop},aF (bc gt (ah ab)) _ H F=F _:=fun{H F} =>oH _ _ _;have s1:∀ {H:AH} {F:V→Prop},aF (bc gt (ah ab)) _ H F=F _:=fun{H F} =>oG _ _ _ _;have hS1:=by
   have hlen:∀ {t:Int} {c:List Int} {as:List Nat} {p:Nat},Tm τ t c as p→c.length≤p+1:=fun{t c as p} z=>by
    induction z with
    |cq _=>simp
    |o=>simp
    |ba _ _ _ _ _=>simp
    |gG _ _ _=>simp
    |hU _ _ _ ih=>simp;omega
   have:=hlen hbt;rw [hcb] at this;simpa using this
  have eb:∀ {Q:az},cw .fZ _ _ (H3++[.f [.j 21]]) Q=Q (.y (H3.length+1)) (H3++[.f [.j 21]] ++[.f (zs (21::20::S'))]):=fun{Q} =>by rw [iM ae ((G3.wa _ _ hgt2).Y).1 (by simp;omega)];simp
  simp! [s0,eb];have G5:Gr 3 H (H3++[ag.f [.j 21]] ++[ag.f (zs (21::20::S'))]) τ τ3:=(G03.Y _).Y _;have h5:Wa (H3++[ag.f [.j 21]] ++[ag.f (zs (21::20::S'))]) ρ (H3.length+1) (.f (zs (21::20::S'))):=by simpa using(w.gr (n:=k+3) (G03.Y (.f [.j 21])) (by omega)).xe (by simp)
  obtain⟨f2,hf2⟩:∃f2:Int→Int,f2=fun x=>if x=21 then j else f1 x:=⟨_,rfl⟩;have f221:f2 21=j:=by rw [hf2];rfl
  have f2S:∀x∈(20)::S',f2 x=f1 x:=fun x hx=>by
   rw [hf2];apply if_neg;rcases List.mem_cons.mp hx with e|e
   ·omega
   ·exact(h20 x e).2
  have hib3:=fM (by have:=hi2.1;omega) fun e=>by have:=w2.cR.I (t:=0) (by simp) (by simp) rfl;rw [e] at hi2;have:=hi2.bE this;simp at this
  have hts:Tm τ3 i _ ab 1:=.hU (G3.le.I hi2) (G3.le.sM hib2) (hbt2.P G3.le);refine rF (y:=0) (w.gr (n:=k+3) G5 (by omega)) htell hfar hbase (th.P (G5.wa) G5.le) hpr hj hjb (by rw [hib3];exact hts) (by omega) h5 (by rw [List.map_congr_left f2S,List.map_cons,f120,←hcb1]) f221 (fun x hx=>?_) hwf (hab1.imp id (by simp)) (by omega) fun H' τ' ρ' w' m'=>q H' τ' ρ' (w'.x (by omega)) (G5.mv.trans m')
  ·rcases List.mem_cons.mp hx with e|e
   ·rw [e,f221];exact .inl ⟨.inr rfl,_,hj⟩
   ·rw [f2S x e];exact(hsym1.P G3.le) x e
 ·have e0:∀ {B:Bool→Prop},aI .eq _ _ H2 B=B false:=fun{B} =>by rw [dG,decide_eq_false hv]
  simp! [e0];exact rF (y:=0) w2 htell hfar hbase (th.P (G12.wa) G12.le) hpr hi2 hib2 hbt2 (by omega) hgt2 hcb1 f120 hsym1 hwf hab1 (by omega) fun H' τ' ρ' w' m'=>q H' τ' ρ' (w'.x (by omega)) (G12.mv.trans m')
end
def yJ:List Int:=[0,1,3,4,5]
theorem K3:∀i<5,0≤yJ.getD i 0∧yJ.getD i 0<6∧yJ.getD i 0≠2:=by decide
theorem Mz:Wf [16] :=⟨fun a ha=>by simp at ha;subst ha;trivial,by simp,by simp⟩
theorem MA:Wf [10] :=⟨fun a ha=>by simp at ha;subst ha;trivial,by simp,by simp⟩
theorem Og:Wf [] :=⟨by simp,by simp,by simp⟩
section
variable {H H':AH}{ρ ρ':Rs}{τ τ':Tb}{F:V→Prop}{Q:az}{n k m:Nat}
theorem yw {T:TD}{place:Int}(w:W H τ ρ k 20)(htell:ρ.kV=true)(hfar:ρ.cC=[])(hbase:ρ.aT=[])(th:Th (Wa H ρ) τ T)(hpr:0≤place∧place<6)(hk:k+970≤19000)
 (q:∀H' τ' ρ',W H' τ' ρ' (k+970) 20→Mv H H' τ τ' ρ ρ'→Q (.D true) H'):
 wS (X.b (n+182)) OB [some (.y 3),some (.y 4),some (.y ρ.r),some (.D (decide (ρ.v=2))),some T.dI,some (.y T.ri),some (.y T.ui),some (.y T.ei),some (.y T.bi),some (.j place),some (.j (ρ.M.length:Int)),none,none,none,none,none,none,none,none,none,none,none,none] H
  (fun fl env H=>match fl with| .a=>wS (X.b (n+182)) jX env H (bX Q)|fl=>bX Q fl env H):=by
 have hl:=w.R.U
 rw [K4]
 simp! []
 refine X.x (cA (n:=n) w.R (by decide) (by have:=w.bd.2.2.2;omega) fun H1 τ1 v G1 _ _ _ hv0 hv5=>?_) (by omega)
 have w1:=w.gr (n:=k+1) G1 (by omega)
 obtain⟨at_,hat⟩:∃at_,at_=yJ.getD v.toNat 0:=⟨_,rfl⟩
 have epl:∀ {F:V→Prop},aF (.B [.j 0,.j 1,.j 3,.j 4,.j 5]) (.j v) H1 F=F (.j at_):=fun{F} =>by rw [hat];exact df (l:=yJ) hv0 (by show v.toNat<5;omega) (by decide)
 have har:0≤at_∧at_<6∧at_≠2:=by rw [hat];exact K3 v.toNat (by omega)
 simp! [epl]
 refine X.x (cA (n:=n) w1.R (by decide) (by have:=w1.bd.2.2.2;omega) fun H2 τ2 how G2 _ _ _ hh0 hh6=>?_) (by omega)
 have G12:=G1.trans G2 (by omega:1+1≤2)
 have w2:=w.gr (n:=k+2) G12 (by omega)
 have fin:∀ {H3:AH} {τ3:Tb} {low:Int} {cb:List Int} {ab:List Nat} {S':List Int} {f:Int→Int},Gr 3 H H3 τ τ3→Tm τ3 (hO low) cb ab 0→cb=S'.map f→kF τ3 T.cm f S'→(∀x∈S',x≠20∧x≠21)→Wf ab→(ab=[16] ∨((ab=[] ∨ab=[10])∧S'=[]))→wS (X.b (n+182)) IH [some (.y 3),some (.y 4),some (.y ρ.r),some (.D (decide (ρ.v=2))),some T.dI,some (.y T.ri),some (.y T.ui),some (.y T.ei),some (.y T.bi),some (.j place),some (.j (ρ.M.length:Int)),none,none,none,none,some (.j at_),some (.j how),some (.j low),some (bc H3.length (ah ab)),none,none,none,none] (H3++[.f (zs (20::S'))])
  (fun fl env H=>match fl with| .a=>wS (X.b (n+182)) jX env H (bX Q)|fl=>bX Q fl env H):=by
  intro H3 τ3 low cb ab S' f G3 a b c d e f'
  have G4:=G3.Y (.f (zs (20::S')))
  exact yu (w.gr (n:=k+3) G4 (by omega)) htell hfar hbase (th.P (G4.wa) G4.le) hpr a ((w.gr (n:=k+3) G3 (by omega)).xe ae) b c d e f' (by omega) fun H' τ' ρ' w' m'=>q H' τ' ρ' (w'.x (by omega)) (G4.mv.trans m')
 have l0:∀g,V.B [V.y g,V.j 0] =bc g (ah []):=fun g=>rfl
 have l10:∀g,V.B [V.y g,V.j 32767] =bc g (ah [10]):=fun g=>by unfold bc;rw [KX]
 have l16:∀g,V.B [V.y g,V.j 2048] =bc g (ah [16]):=fun g=>by unfold bc;rw [KW]
 unfold MY
 by_cases h4:how=4
 ·have e4:∀ {H:AH} {B:Bool→Prop},aI .eq _ _ H B=B true:=fun{H B} =>by rw [dG,decide_eq_true h4]
  simp! [e4];rw [l10];exact fin (S':=[]) (f:=id) (G12.P (by omega)) (.cq (w2.cR.at rfl)) rfl (fun x hx=>nomatch hx) (by simp) MA (by simp)
 ·have e4:∀ {H:AH} {B:Bool→Prop},aI .eq _ _ H B=B false:=fun{H B} =>by rw [dG,decide_eq_false h4]
  by_cases h5:how=5
  ·have e5:∀ {H:AH} {B:Bool→Prop},aI .eq _ _ H B=B true:=fun{H B} =>by rw [dG,decide_eq_true h5]
   simp! [e4,e5];rw [l0];exact fin (S':=[]) (f:=id) (G12.P (by omega)) .o rfl (fun x hx=>nomatch hx) (by simp) Og (by simp)
  ·have e5:∀ {H:AH} {B:Bool→Prop},aI .eq _ _ H B=B false:=fun{H B} =>by rw [dG,decide_eq_false h5]
   have esub:∀ {F:V→Prop},aF _ _ H2 F=F _:=fun{F} =>by rw [aA _ _ (th.P (G12.wa (ρ:=ρ)) G12.le).M.1];exact df har.1 (by rw [th.U];omega) (by rw [th.U];simp)
   have wb:=w2.bd.1;simp! [e4,e5,w2.R.J,esub,tT];refine⟨by simp,rfl,X.x (fb w2.R rfl (by omega) fun H3 τ3 ka G3 hrow=>?_) (by omega)⟩;rw [l16];have hb:=fM (by have:=hrow.1;omega) fun e=>by have:=(G3.cR w2.cR).I (t:=0) (by simp) (by simp) rfl;rw [e] at hrow;have:=hrow.bE this;simp at this
   exact fin (S':=[10+at_]) (f:=fun _=>ka) (G12.trans G3.gr (by omega:2+1≤3)) (by rw [hb];exact ic hrow) rfl (fun x hx=>by simp at hx;exact .inr ⟨at_,hx,har.1,har.2.1,har.2.2,hrow⟩) (fun x hx=>by simp at hx;omega) Mz (by simp)
theorem yv {T:TD}(w:W H τ ρ k 20)(htell:ρ.kV=true)(hfar:ρ.cC=[])(hbase:ρ.aT=[])(th:Th (Wa H ρ) τ T)(hk:k+1010≤19000)
 (q:∀H' τ' ρ',W H' τ' ρ' (k+1010) 20→Mv H H' τ τ' ρ ρ'→Q (.D true) H'):
 X.w (n+183) 106 [.y 3,.y 4,.y ρ.r,.D (decide (ρ.v=2)),T.dI] H Q:=by
 apply aC.hV rfl (Nat.le_refl _) (Nat.le_refl _)
 show wS _ _ [some _,some _,some _,some _,some _,none,none,none,none,none,none,none,none,none,none,none,none,none,none,none,none,none,none] _ _
 rw [IG]
 refine X.x (cA (n:=n) w.R (by simp) (by have:=w.bd.2.2.2;omega) fun H1 τ1 v G1 _ _ _ hv0 hv1=>?_) (by omega)
 obtain⟨place,hplace⟩:∃place,place=kP.getD v.toNat 0:=⟨_,rfl⟩
 have epl:∀ {F:V→Prop},aF (.B [.j 1,.j 4,.j 0,.j 3,.j 2,.j 5]) _ H1 F=F (.j place):=fun{F} =>by rw [hplace];exact df (l:=kP) hv0 (by show v.toNat<6;omega) (by decide)
 have hpr:0≤place∧place<6:=by rw [hplace];exact ru _ (by omega)
 have w1:=w.gr (n:=k+1) G1 (by omega)
 simp! [epl,w1.bC.eC,w1.bC.eB,bh _ w1.bC.aO]
 refine X.x (cA (n:=n) w1.R (by simp) (by have:=w1.bd.2.2.2;omega) fun H2 τ2 x G2 _ _ _ hx0 hx2=>?_) (by omega)
 have G12:=G1.trans G2 (by omega:1+1≤2)
 have w2:=w.gr (n:=k+2) G12 (by omega)
 have th2:=th.P (G12.wa) G12.le
 by_cases hx:x=0
 ·have e0:∀ {B:Bool→Prop},aI .eq _ _ H2 B=B true:=fun{B} =>by rw [dG,decide_eq_true hx]
  simp! [e0];exact yx (a:=none) (b:=none) (c:=none) (d:=none) (v:=0) w2 htell hfar hbase th2 hpr (by omega) fun H' τ' ρ' w' m'=>q H' τ' ρ' (w'.x (by omega)) (G12.mv.trans m')
 ·have e0:∀ {B:Bool→Prop},aI .eq _ _ H2 B=B false:=fun{B} =>by rw [dG,decide_eq_false hx]
  simp! [e0];exact yw w2 htell hfar hbase th2 hpr (by omega) fun H' τ' ρ' w' m'=>q H' τ' ρ' (w'.x (by omega)) (G12.mv.trans m')
end
section
variable {H H':AH}{ρ ρ':Rs}{τ τ':Tb}{F:V→Prop}{Q:az}{n k m:Nat}
theorem q5 {N:Int}{l:List Int}{c:Nat}(hs:H[2]?=some (.f (l.map V.j)))(hd:H[3]?=some (.f [.j (c:Int),.y 2]))(hN:0<N)(hk:c<2^29)(q:∀v,0≤v→v<N→Q (.j v) (H.set 3 (.f [.j ((c+1:Nat):Int),.y 2]))):X.w (n+1) 88 [.y 3,.j N] H Q:=by
 delta jz;have e0:∀ {F:V→Prop},aF _ _ H F=F _:=fun{F} =>by rw [aA H 0 hd];rfl
 have es:∀ {G:AH→Prop},cD (.y 3) (.j 0) (.j ((c)+1)) H G=G (H.set 3 (.f [.j ((c+1:Nat)),.y 2])):=fun{G} =>by simp only [cD,hd];simp
 have ea:∀ {Q:az},cw .fZ (.j (c)) (.j 1) H Q=Q _ H:=fun{Q} =>rfl;simp! [e0,ea,es];have d1:(H.set 3 (.f [.j ((c+1:Nat)),.y 2]))[3]?=some _:=aj hd;have s1:(H.set 3 (.f [.j ((c+1:Nat)),.y 2]))[2]?=some _:=aa hs (by simp);generalize H.set 3 _=H1 at d1 s1 q ⊢;have e1:∀ {F:V→Prop},aF _ _ H1 F=F _:=fun{F} =>by rw [aA _ 1 d1];rfl
 have fin:∀x,cw .vt (.j x) (.j N) H1 Q:=fun x=>by simp [cw,oz,hN];exact q _ (Int.emod_nonneg _ (by omega)) (Int.emod_lt_of_pos _ hN)
 simp! [e1,bh _ s1];by_cases hlt:(c:Int)<((l.map V.j).length)
 ·simp only [hlt];have hlt':c<l.length:=by simp_all
  have e2:∀ {F:V→Prop},aF _ (.j (c)) H1 F=F (.j (l[c]'hlt')):=fun{F} =>by rw [aA _ _ s1];exact cz _ (by simp) (by omega)
  simp! [e2];exact fin _
 ·simp only [hlt];have em:∀ {Q:az},cw .Mc (.j (c)) (.j 101) H1 Q=Q _ H1:=fun{Q} =>ym _ _ (by omega);simp! [em];exact fin _
def qZ (rows:List V):AH:=[.J 1 lH,.f rows,.i (dN rows),.f [.aE],.f [],.f [],.f [],.i [],.i []]
theorem Im {l:List V}{rows:List V}(hH:H.length=4)(hf:∀r∈rows,r.aS=3)(hl:(V.B l).aS=3)(hm:V.B l∉rows)(hn:rows.length<2^19)(q:Q (.j rows.length) (H++qZ (rows++[.B l]))):X.w 1 3 [.y 4,.B l] (H++qZ rows) Q:=by
 delta eH;have at_:∀i,4≤i→(H++qZ rows)[i]?=(qZ rows)[i-4]?:=fun i h=>by grind
 have h4:(H++qZ rows)[4]?=some (.J 1 lH):=by rw [at_ 4 (by simp)];rfl
 have h5:(H++qZ rows)[5]?=some (.f rows):=by rw [at_ 5 (by simp)];rfl
 have h6:(H++qZ rows)[6]?=some (.i (dN rows)):=by rw [at_ 6 (by simp)];rfl
 have g0:∀ {F},aX _ 0 _ F=F _:=fun{F} =>bO _ h4 (by simp) (by rfl) rfl;have g1:∀ {F},aX _ 1 _ F=F _:=fun{F} =>bO _ h4 (by simp) (by rfl) rfl;have hk:bI (.B l) _:=⟨by omega,fun e he=>by rw [hf _ (rH he),hl]⟩;have hlk':bR _ (dN rows)=none:=oV 0 hm;have e1:∀ {B:Bool→Prop},aI .jm _ (.y 6) (H++qZ rows) B=B false:=fun{B} =>by show jH (.B l) (.y 6) _ B=_;simp [jH,h6,hk,hlk']
 simp! [g0,g1,e1,bh _ h5,bN _ h5,cS _ h5 (by omega)];have t1:((H++qZ rows).set 5 (.f (rows++[.B l])))[4]?=some _:=aa h4 (by simp);have t2:((H++qZ rows).set 5 (.f (rows++[.B l])))[6]?=some _:=aa h6 (by simp);have e3:∀ {F:V→Prop},aX _ 1 _ F=F _:=fun{F} =>bO _ t1 (by simp) (by rfl) rfl;have e5:(((H++qZ rows).set 5 (.f (rows++[.B l]))).set 6 (.i (dN (rows++[.B l]))))=H++qZ (rows++[.B l]):=by rw [List.set_append_right _ _ (by omega),List.set_append_right _ _ (by omega),hH];rfl
 have e4:∀ {G:AH→Prop},cD (.y 6) (.B l) _ ((H++qZ rows).set 5 (.f (rows++[.B l]))) G=G _:=fun{G} =>by simp [cD,t2,hk,uM,show rows.length<2^20 from Nat.lt_trans hn _];rw [mD hlk',←nz,e5]
 simp! [e3,e4];omega
theorem lM:bu.Nodup:=by decide+kernel
theorem jw:∀r∈bu,r.aS=3:=by decide
theorem wH:∀r∈bu,∃l,r=.B l:=fun r hr=>by simp [bu,or_false] at hr;grind
theorem vJ (hH:H.length=4)(q:Q .aE (H++qZ bu)):X.w (n+2) 2 [.y H.length] (H++[.J 1 []]) Q:=by
 delta gC;simp! [];have step:∀ {t:AH} {a:Nat} {fs:List _} {x:ag} {G:AH→Prop},dF a=true→fs.length≤60→G (H++ .J 1 (aL a (.y (4+(t.length+1))) fs)::(t++[x]))→ij _ a (.y (H++ .J 1 fs::t).length) (H++ .J 1 fs::t++[x]) G:=fun{t a fs x G} ha hl g=>by rw [List.append_assoc,fU rfl,hH];apply aK (by simp) ha hl;simp_all
 apply step (by rfl) (by simp);apply step (by rfl) (by decide);apply step (by rfl) (by decide);apply step (by rfl) (by decide);apply step (by rfl) (by decide);apply step (by rfl) (by decide);apply step (by rfl) (by decide);apply step (by rfl) (by decide);apply aK (by simp) (by rfl) (by decide);apply aK (by simp) (by rfl) (by decide);rw [hH];show iy _ _ _ bu _ (H++qZ []);refine br (fun rest env H1=>(∃v,env=[some (.y 4),v])∧∃done,done++rest=bu∧H1=H++qZ done) ?_ (by intro env H1 hI;obtain⟨⟨v0,rfl⟩,done,hd,rfl⟩:=hI;rw [List.append_nil] at hd;rw [hd];trivial) (by simp)
 ·intro v r env H1 hI;obtain⟨⟨v0,rfl⟩,done,hd,rfl⟩:=hI;refine⟨trivial,fun K next _=>?_⟩;have hv:v∈bu:=by rw [←hd];simp
  obtain⟨l,rfl⟩:=wH v hv;have hnd:=lM;have h4:(H++qZ done)[4]?=some (.J 1 lH):=by rw [List.getElem?_append_right (by omega),hH];rfl
  simp! [h4];refine⟨by simp,rfl,?_⟩;have hlen:=by simpa [bu] using congrArg List.length hd
  exact X.x (Im hH (fun r hr=>jw r (by rw [←hd];simp [hr])) (jw _ hv) (fun z=>by grind) (by omega) (next _ _ ⟨⟨_,rfl⟩,_,by rw [←hd];simp,rfl⟩).1) (by omega)
end
def tu:MS:=.fq 8 (.B (.cons (.k (.j 0)) (.cons (.k (.j 1)) (.cons (.k (.j 3)) (.cons (.k (.j 4)) (.cons (.k (.j 5)) (.m))))))) (.H 9 (.z (.z (.h 5) (.k (.j 0))) (.h 8)) (.H 10 (.bA (.bH .lt (.h 8) (.k (.j 2))) (.w 14 (.cons (.h 2) (.cons (.g7 (.bJ (.h 2) 10 (.cons (.B (.cons (.k (.j 3)) (.cons (.h 12) (.cons (.k (.j 0)) (.m))))) (.m))) 12 (.z (.z (.z (.h 5) (.k (.j 3))) (.h 8)) (.k (.j 3))) (.k (.D true))) (.m)))) (.bJ (.h 2) 10 (.cons (.B (.cons (.k (.j 14)) (.cons (.h 9) (.m)))) (.m)))) (.bA (.bH .ne (.w 78 (.cons (.bB (.h 4) 36) (.cons (.h 9) (.m)))) (.h 10)) (.bL (.k (.D false))) (.V) (.V)))) (.bL (.dy (.cons (.bH .eq (.bB (.h 4) 41) (.dm (.m))) (.cons (.bH .eq (.bB (.h 4) 39) (.gJ)) (.m)))))
def yG:MS:=.jN 7 (.hY .fZ (.k (.j 1)) (.hY .kM (.pO .U (.cons (.z (.h 1) (.k (.j 1))) (.m))) (.k (.j 20)))) (.bA (.gH (.w 106 (.cons (.h 1) (.cons (.h 2) (.cons (.h 4) (.cons (.bH .eq (.h 3) (.k (.j 2))) (.cons (.h 5) (.m)))))))) (.bL (.k (.D false))) (.V) (.V)) tu
def uG:MS:=.jN 7 (.hY .fZ (.k (.j 2)) (.hY .kM (.pO .U (.cons (.z (.h 1) (.k (.j 1))) (.m))) (.k (.j 16)))) (.bA (.gH (.w 105 (.cons (.h 1) (.cons (.h 2) (.cons (.h 4) (.cons (.h 3) (.cons (.h 5) (.cons (.h 6) (.m))))))))) (.bL (.k (.D false))) (.V) (.V)) yG
def MV:MS:=.jn (.w 87 (.cons (.h 4) (.m))) (.iV (.h 4) 23 (.w 88 (.cons (.h 1) (.cons (.k (.j 9)) (.m)))) (.H 5 (.w 99 (.cons (.h 1) (.cons (.h 2) (.m)))) (.H 6 (.w 101 (.cons (.h 1) (.cons (.h 2) (.m)))) uG)))
def IF:MS:=.H 2 (.oj 1 (.m)) (.jn (.w 7 (.cons (.h 2) (.cons (.k (.j 5)) (.cons (.k (.F (m "E"))) (.m))))) (.H 3 (.z (.B (.cons (.k (.j 2)) (.cons (.k (.j 4)) (.cons (.k (.j 1)) (.cons (.k (.j 1)) (.m)))))) (.w 88 (.cons (.h 1) (.cons (.k (.j 4)) (.m))))) (.H 4 (.oj 5 (.cons (.oj 6 (.cons (.h 2) (.m))) (.cons (.h 3) (.m)))) MV)))
theorem yF:zh.mL=.H 1 (.dm (.cons (.k (.j 0)) (.cons (.g7 (.h 11) 11 (.oi (.h 0) .m (.k (.j 63))) (.k (.D true))) (.m)))) IF:=rfl
section
variable {H H':AH}{ρ ρ':Rs}{τ τ':Tb}{F:V→Prop}{Q:az}{n k m:Nat}
def O5 (l:List V):AH:=[.kH,.f l,.f l,.f [.j 0,.y 2]]
theorem MU {script:List Int}{K:Fl→En→AH→Prop}(hl:script.length≤63)(q:wS (X.b n) IF [some (.jM (script.map V.j)),some (.y 3),none,none,none,none,none,none,none,none,none,none,none] (O5 (script.map V.j)) K):
 wS (X.b n) zh.mL [some (.jM (script.map V.j)),none,none,none,none,none,none,none,none,none,none,none,none] [.kH] K:=by
 rw [yF]
 obtain⟨l,hL⟩:∃l,l=script.map V.j:=⟨_,rfl⟩
 rw [←hL] at q ⊢
 have hl:l.length≤63:=by simp_all
 have es:∀ {Q:az},d7 (.jM l) none (some (.j 63)) [.kH] Q=Q _ _:=fun{Q} =>by
  have hlt:l.length<2^20:=by omega
  have:fu l none (some 63)=l:=by show(l.take (min 63 _)).drop 0=l;grind
  simp [d7,lj,hlt,this];rfl
 simp! [zY _ _ _ _ (.k _) rfl,es]
 refine bW (fun rest out H1=>∃o,H1=[.kH,.f l,.f o] ∧o=out∧out++rest=l) ?_ (by intro out H1 hI _;obtain⟨o,rfl,rfl,e⟩:=hI;rw [List.append_nil] at e;subst e;exact⟨rfl,q⟩) (by simp) rfl
 ·intro v r out H1 hI _;obtain⟨o,rfl,rfl,e⟩:=hI;have hol:o.length≤l.length:=by rw [←e];simp
  refine⟨rfl,by omega,fun K _ next=>?_⟩;grind
end
def JS:MS:=.H 5 (.w 99 (.cons (.h 1) (.cons (.h 2) (.m)))) (.H 6 (.w 101 (.cons (.h 1) (.cons (.h 2) (.m)))) uG)
theorem IC:MV=.jn (.w 87 (.cons (.h 4) (.m))) (.iV (.h 4) 23 (.w 88 (.cons (.h 1) (.cons (.k (.j 9)) (.m)))) JS):=rfl
section
variable {H H':AH}{ρ ρ':Rs}{τ τ':Tb}{F:V→Prop}{Q:az}{n k m:Nat}
def Lb (l:List V)(c:Nat):AH:=[.kH,.f l,.f l,.f [.j (c:Int),.y 2],.J 1 lH,.f bu,.i (dN bu),.f [.aE,.y 13],.f [],.f [],.f [],.i [],.i [],.J 2 (fj 1 5 (H31.m "E") (-1) 14 15),.f [],.f []]
def Ik (mode at_:Int):Rs:=⟨17,19,20,21,22,23,24,mode,[],[],[],0,0,[],true,at_,[]⟩
def Oi (c:Nat):Tb:=⟨bu,[.aE,.y 13],[],c⟩
def yY (l:List V)(c:Nat)(mode at_:Int):AH:=Lb l c++[.J 6 kY,.J 5 (cM (Ik mode at_)),.i [(.j 2,.y 25)],.i [],.i [],.f [],.f [],.J 0 [(0,.y 24)],.f [],.J 7 []]
theorem Kp {script:List Int}{c:Nat}{mode at_:Int}(hm:mode=1∨mode=2∨mode=4)(hc:c≤16):W (yY (script.map V.j) c mode at_) (Oi c) (Ik mode at_) 16 20:=by exact⟨⟨rfl,rfl,rfl,rfl,rfl,⟨[],rfl,rfl⟩,⟨[],rfl,rfl⟩,⟨_,rfl⟩,rfl,rfl,rfl,rfl,jw,lM⟩,⟨[],rfl⟩,⟨rfl,rfl,rfl,rfl,rfl,rfl,by show [17,19,20,21,23,24].Nodup;simp,by show∀p∈ [17,19,20,21,23,24],17≤p∧p≠18∧p≠25;simp,.nil⟩,⟨fun e he=>(nomatch he),fun k hk=>(nomatch hk),Nat.le_refl _,by show 0<2^19;simp,by show mode≠3;omega,by show 0≤4;simp,fun i hi=>nomatch hi⟩,rfl,rfl,hm,⟨Nat.le_refl _,by show 0≤16;simp,by show 2≤16;simp,hc⟩,Nat.zero_le _,Nat.zero_le _⟩
theorem Ku (q:Q .aE (H++[.J 6 kY])):X.w (n+1) 33 [.y H.length,.y 4] (H++[.J 6 []]) Q:=by apply aC.hV rfl (Nat.le_refl _) (Nat.le_refl _);unfold lW;simp! [];apply aK (by simp) (by rfl) (by simp);apply aK (by simp) (by rfl) (by decide);apply aK (by simp) (by rfl) (by decide);apply aK (by simp) (by rfl) (by decide);apply aK (by simp) (by rfl) (by decide);exact q
theorem MT {script:List Int}{K:Fl→En→AH→Prop}(q:∀mode at_,(mode=1∨mode=2∨mode=4)→wS (X.b (n+4)) JS [some (.jM (script.map V.j)),some (.y 3),some (.y 4),some (.j mode),some (.y 17),none,none,none,none,none,none,none,none] (yY (script.map V.j) 2 mode at_) K):
 wS (X.b (n+4)) IF [some (.jM (script.map V.j)),some (.y 3),none,none,none,none,none,none,none,none,none,none,none] (O5 (script.map V.j)) K:=by
 unfold IF
 simp! []
 refine X.x (vJ (n:=n) rfl ⟨rfl,X.x (oT (n:=n) rfl rfl (by decide) (X.x (q5 (n:=n) rfl rfl (by decide) (by decide) fun v hv0 hv4=>?_) (by omega))) (by omega)⟩) (by omega)
 obtain⟨mode,hmode⟩:∃mode,mode=([2,4,1,1] :List Int).getD v.toNat 0:=⟨_,rfl⟩
 have hm:mode=1∨mode=2∨mode=4:=by
  have:∀i<4,([2,4,1,1] :List Int).getD i 0=1∨([2,4,1,1] :List Int).getD i 0=2∨([2,4,1,1] :List Int).getD i 0=4:=by decide
  simp_all
 have epl:∀ {H:AH} {F:V→Prop},aF (.B [.j 2,.j 4,.j 1,.j 1]) _ H F=F (.j mode):=fun{H F} =>by rw [hmode];exact df (l:=[2,4,1,1]) hv0 (by simp_all) (by simp)
 simp! [epl]
 refine X.x (Ku (n:=n) ⟨rfl,X.x (oM (n:=n) ?_) (by omega)⟩) (by omega)
 rw [IC]
 simp! []
 apply aC.hV rfl (Nat.le_refl _) (Nat.le_refl _)
 unfold eo
 obtain⟨H17,hH17⟩:∃H17:AH,H17=Lb (script.map V.j) 1++[.J 6 kY] ++mC 17 16 mode:=⟨_,rfl⟩
 show wS _ _ [some (.y 17)] (Lb _ 1++[.J 6 kY] ++mC 17 16 mode) _
 rw [←hH17]
 have e17:H17[17]?=some (.J 5 (kO 17 16 mode)):=by rw [hH17];rfl
 have l17:H17.length=25:=by rw [hH17];rfl
 have g38:∀ {H:AH} {F:V→Prop},H[17]?=some (.J 5 (kO 17 16 mode))→aX _ 38 H F=F _:=fun{H F} e=>bO _ e (by decide) (by decide) rfl
 have e25:(H17++[ag.J 7 []])[17]?=some _:=af e17
 have e18:(H17++[ag.J 7 []])[18]?=some (.i []):=by rw [hH17];rfl
 have ko:bI (.j 2) [] :=⟨by decide,fun e he=>nomatch he⟩
 have es:∀ {G:AH→Prop},cD (.y 18) (.j 2) (.y 25) (H17++[ag.J 7 []]) G=G ((H17++[ag.J 7 []]).set 18 (.i [(.j 2,.y 25)])):=fun{G} =>by simp [cD,e18,ko];simp [eA]
 simp! [l17,g38 e25,es]
 rw [hH17]
 refine X.x (q5 (n:=n) rfl rfl (by decide) (by decide) fun v2 _ _=>?_) (by omega)
 rw [mS _ rfl (by decide) (by decide) (by show 14≤60;decide)]
 exact q mode v2 hm
end
section
variable {H H':AH}{ρ ρ':Rs}{τ τ':Tb}{F:V→Prop}{Q:az}{n k m:Nat}
theorem sT (ps:List Pr):(cg ps).map n9=eY ps:=by unfold cg eY;simp
theorem vL (ps:List Pr):(cg ps).length≤ps.length:=by unfold cg;grind
theorem vK {ps:List Pr}(h:∀p∈ps,p.1∈dt):∀x∈cg ps,x∈dt:=fun x hx=>by unfold cg at hx;grind
theorem yI {T:TD}{e0 e6 e7 e8 e9 e10 e11 e12:Option V}(w:W H τ ρ k 20)(hbase:ρ.aT=[])(th:Th (Wa H ρ) τ T)(hk:k+200≤19000)(h0:H[0]?=some .kH)(q:∀H',H'[0]?=some .kH→Q (.D true) H'):
 wS (X.b (n+9)) tu [e0,some (.y 3),some (.y 4),some (.j ρ.v),some (.y ρ.r),some T.dI,e6,e7,e8,e9,e10,e11,e12] H (bX Q):=by
 have hl:=w.R.U
 unfold tu
 simp! []
 simp only [aG]
 refine br (fun rest env H1=>(∃e8 e9 e10 e11 e12,env=[e0,some (.y 3),some (.y 4),some (.j ρ.v),some (.y ρ.r),some (.B _),e6,e7,e8,e9,e10,e11,e12])∧(∀v∈rest,∃j:Int,v=.j j∧0≤j∧j<6∧j≠2)∧rest.length≤5∧∃τ1,Gr (40*(5-rest.length)) H H1 τ τ1) ?_ ?_ ⟨⟨_,_,_,_,_,rfl⟩,by intro v hv;simp at hv;grind,Nat.le_refl _,τ,Gr.aD w.R⟩
 ·rintro v r env H1 ⟨⟨e8,e9,e10,e11,e12,rfl⟩,hv,hrl,τ1,G1⟩;refine⟨trivial,fun K next _=>?_⟩;obtain⟨j,rfl,hj0,hj6,hj2⟩:=hv v (List.mem_cons_self ..);have hrl':r.length+1≤5:=by simpa using hrl
  have hrr:r.length≤5:=by omega
  have w1:=w.gr (n:=k+160) G1 (by simp only [List.length_cons];omega);have th1:=th.P (G1.wa (ρ:=ρ)) G1.le;have wb:=w1.bd.1;have nx:∀ {e9 e10 e11 e12:Option V} {H2:AH} {τ2:Tb},Gr 40 H1 H2 τ1 τ2→K .a [e0,some (.y 3),some (.y 4),some (.j ρ.v),some (.y ρ.r),some _,e6,e7,some (.j j),e9,e10,e11,e12] H2:=fun{e9 e10 e11 e12 H2 τ2} G2=>(next _ _ ⟨⟨_,_,_,_,_,rfl⟩,fun v hv'=>hv v (List.mem_cons_of_mem _ hv'),hrr,τ2,G1.trans G2 (by simp only [List.length_cons];omega)⟩).1
  have esub:∀ {F:V→Prop},aF (.y T.ri) (.j j) H1 F=F (.j (fI T.cm j)):=fun{F} =>by rw [aA _ _ th1.M.1];exact df hj0 (by rw [th.U];omega) (by rw [th.U];simp)
  have hgh:∀ {H2:AH} {F:V→Prop},(∀i o,H1[i]?=some o→10<i→H2[i]?=some o)→aX (.y ρ.r) 36 H2 F=F (.y 16):=fun{H2 F} hkp=>(w1.bC.N hkp).dM;by_cases h2:j<2
  ·have d2:decide (j<2)=true:=decide_eq_true h2;have h01:j=0∨j=1:=by omega
   obtain⟨ps,u,c0,c1,hsh,hps,hpl,hsl⟩:∃ps u c0 c1,Sh H1 τ1 (fI T.cm j) u ps c0 c1∧(∀p∈ps,p.1∈dt)∧ps.length≤10∧T.z7 j.toNat=cg ps:=by
    rcases h01 with rfl|rfl
    ·obtain⟨ps,c0,c1,a1,_,_,_,a5,a6,a7⟩:=th1.sD.o0;exact⟨ps,_,c0,c1,.sE a1,a5,a6,a7⟩
    ·obtain⟨did,gd,fs,u,r1,d0,d1,hd,hg,f16,f15,ps,c0,c1,a1,_,_,_,a5,a6,a7⟩:=th1.sD.o1;exact⟨ps,u,c0,c1,.y r1 d0 d1 hd hg.1 f16 f15 a1,a5,a6,a7⟩
   have hsr:=th1.sD.sk j.toNat (by omega);have eb:∀ {F:V→Prop},aF (.y T.bi) (.j j) H1 F=F _:=fun{F} =>by rw [aA _ _ th1.sD.xg.1,show j=((j.toNat)) from(Int.toNat_of_nonneg hj0).symm];refine cz _ ?_ (by omega);rw [List.getElem?_map,List.getElem?_range (by omega)];rfl
   have e3:∀ {F:V→Prop},aF (mP (T.d j.toNat) (T.tx j.toNat) (T.nm j.toNat) (T.sr j.toNat)) (.j 3) H1 F=F (.y (T.sr j.toNat)):=fun{F} =>uu _ _ _ _ _ _;rw [hsl] at hsr;simp! [esub,d2,eb,e3,hsr.1];have hnm:=vK hps;have hnl:=vL ps;refine bW (fun rest out H2=>∃dn ps' ids τ2,rest=ps'.map V.F∧cg ps=dn++ps'∧out=zs ids∧eI τ2 ids (dn.map n9)∧au dn.length H1 H2 τ1 τ2) ?_ ?_ (out:=[]) ⟨[],cg ps,[],τ1,rfl,rfl,rfl,.m,(au.aD w1.R).Y _⟩ ae
   ·rintro _ r' out H2 ⟨dn,ps',ids,τ2,e,hd,rfl,hat,G2⟩ ha;have hlen:(cg ps).length=dn.length+ps'.length:=by rw [hd];simp
    have hil:=hat.U;rw [List.length_map] at hil;refine⟨G2.N.kp _ _ hsr.1 (by have:=hsr.2.1;omega),by simp;omega,fun q' qn qs=>?_⟩;cases ps' with
    |nil=>cases e
    |cons x ps'=>cases e;have gl:=G2.U;simp! [G2.R.J];refine⟨by simp,rfl,?_⟩;obtain⟨hr,hlt,_⟩:=gE x (hnm x (by simp [*]));have hkd:=kW _ hlt;rw [hr] at hkd;refine X.x (fb G2.R hkd (by omega) fun H3 τ3 i G3 hrow=>qs _ _ ⟨dn++[x],ps',ids++[i],τ3,rfl,by simp [*],by simp,?_,((G2.trans G3 (Nat.le_refl _)).le (by simp)).set w1.R _ (by simp)⟩ (G3.N.kp _ _ ha (.inr (by have:=w1.R.U;omega)))) (by omega);rw [List.map_append];exact(hat.dJ G3).dp (.cons ⟨hlt,by simp [*]⟩ .m)
   ·rintro out H2 ⟨dn,ps',ids,τ2,e,hd,rfl,hat,G2⟩ ha;have:ps'=[] :=by cases ps'<;>first|rfl|cases e
    subst this;rw [List.append_nil] at hd;have gl:=G2.U;refine⟨G2.N.kp _ _ hsr.1 (by have:=hsr.2.1;omega),?_⟩;rw [←hd] at hat G2;refine X.x (iN (n:=0) G2.R (G2.cR w1.cR) (.inr ⟨_,rfl,by have:=w1.R.U;omega,ha⟩) (hat.Ob (G2.cR w1.cR)) (by rw [List.length_map];omega) (by have:=G2.U;omega) fun H3 τ3 r1 bs G3 kd hu=>?_) (by omega);have G13:=G2.trans G3 (e:=11) (by omega);have gl3:=G13.U;simp! [hgh (fun i o e h=>G13.N.kp i o e (.inr h))];have hsh3:=hsh.N G13.gI fun g fs e=>G13.J w1.R (by simp) e;refine X.x (xS (n:=0) G13.R (G13.cR w1.cR) hsh3 hps hpl (by omega) fun H4 τ4 r2 bs2 G4 kd2 hb2=>?_) (by omega);have heq:=kd2.N5 G4.R (kd.dJ G4) fun x=>by rw [hb2,lJ (fun a ha=>by obtain⟨x,hx,rfl⟩:=List.mem_map.mp ha;exact(gE _ (hnm x hx)).2.2) hu,sT]
    rw [heq];simp! [];exact nx ((G13.trans G4 (by omega)).gr)
  ·have d2:=decide_eq_false h2;obtain⟨pid,hrow⟩:∃pid,bj τ1 _ _:=by
    rcases(th1.at hj0 hj6).aS with⟨z,_⟩|⟨_,pid,b,hr,_⟩
    ·omega
    ·exact⟨pid,hr⟩
   simp! [esub,d2,w1.R.J];refine⟨by simp,rfl,X.x (fb w1.R rfl (by omega) fun H2 τ2 r1 G2 hr1=>?_) (by omega)⟩;have gl:=G2.U;simp! [hgh (fun i o e h=>G2.N.kp i o e (.inr h))];refine X.x (xR (n:=0) G2.R (G2.I hrow) (by omega) fun H3 τ3 r2 G3 hr2=>?_) (by omega);have heq:=hr2.inj G3.R.W (G3.I hr1);rw [heq];simp! [];exact nx ((G2.trans G3 (by omega)).gr)
 ·rintro env H1 ⟨⟨e8,e9,e10,e11,e12,rfl⟩,_,_,τ1,G1⟩;refine⟨trivial,?_⟩;have w1:=w.gr (n:=k+200) G1 (by simp);have ht:=w1.bC.G;rw [w.tl] at ht;have hasm:cP ρ=[] :=by unfold cP;rw [hbase,w.tl];rfl
  have ha:=w1.bC.n;rw [hasm] at ha;have e1:∀ {B:Bool→Prop},aI .eq (.y ρ.G) (.y H1.length) (H1++[ag.f []]) B=B true:=fun{B} =>by have h1:(H1++[ag.f []])[ρ.G]?=some _:=af ht;simp [aI,qo,h1];simp [V.bG,V.e]
  have hgA:∀ {F:V→Prop},aX _ 39 (H1++[ag.f []]) F=F _:=fun{F} =>(w1.bC.N (fun i o e _=>af e)).gg;have e2:∀ {B:Bool→Prop},aI .eq (.y ρ.n) (.y (H1++[ag.f []]).length) (H1++[ag.f []] ++[ag.i []]) B=B true:=fun{B} =>by have h1:(H1++[ag.f []] ++[ag.i []])[ρ.n]?=some _:=af (af ha);have h2:(H1++[ag.f []] ++[ag.i []])[(H1++[ag.f []]).length]?=some _:=ae;simp only [aI,qo,h1,h2,true_and]
  simp! [w1.bC.mK,e1,hgA,e2];exact q _ (af (af (G1.N 0 _ h0 (by omega))))
end
section
variable {H H':AH}{ρ ρ':Rs}{τ τ':Tb}{F:V→Prop}{Q:az}{n k m:Nat}
theorem qY (x:Int):(ft x).length=x.toNat:=by unfold ft;simp
theorem MZ {l:List V}(w:W H τ ρ k 20)(M:Mv H H' τ τ' ρ ρ')(h:H[2]?=some (.f l)):H'[2]?=some (.f l):=(M.N 2 _ h (by omega) fun z=>by have:=(w.bC.bD _ z).1;omega).1
theorem JT {o:ag}(w:W H τ ρ k 20)(M:Mv H H' τ τ' ρ ρ')(h:H[0]?=some o):H'[0]?=some o:=(M.N 0 _ h (by omega) fun z=>by have:=(w.bC.bD _ z).1;omega).1
theorem ID {T:TD}{l:List V}{e0 e6 e7 e8 e9 e10 e11 e12:Option V}(w:W H τ ρ k 20)(htell:ρ.kV=true)(hfar:ρ.cC=[])(hbase:ρ.aT=[])(th:Th (Wa H ρ) τ T)(h2:H[2]?=some (.f l))(hl:l.length≤63)(hk:k+4300≤19000)(h0:H[0]?=some .kH)(q:∀H',H'[0]?=some .kH→Q (.D true) H'):
 wS (X.b (n+183)) yG [e0,some (.y 3),some (.y 4),some (.j ρ.v),some (.y ρ.r),some T.dI,e6,e7,e8,e9,e10,e11,e12] H (bX Q):=by
 unfold yG
 obtain⟨N,hN⟩:∃N:Int,N=1+(l.length)/20:=⟨_,rfl⟩
 have e1:∀ {F:V→Prop},aF _ _ H F=F _:=fun{F} =>by rw [aA _ 1 w.R.d];rfl
 simp! [e1,bh _ h2,fC (l.length) 20 _]
 refine⟨by omega,by omega,br (fun rest env H1=>rest.length≤4∧(∃e7,env=[e0,some (.y 3),some (.y 4),some (.j ρ.v),some (.y ρ.r),some T.dI,e6,e7,e8,e9,e10,e11,e12])∧∃τ1 ρ1,W H1 τ1 ρ1 (k+1010*(4-rest.length)) 20∧Mv H H1 τ τ1 ρ ρ1) ?_ (by rintro env H1 ⟨_,⟨e7,rfl⟩,τ1,ρ1,w1,m1⟩;refine⟨trivial,?_⟩;rw [←m1.v,←m1.r];exact yI (w1.x (n:=k+4040) (by simp)) (m1.aT.trans hbase) (th.P m1.wa m1.le) (by omega) (JT w m1 h0) q) ⟨by rw [qY];omega,(by simp),τ,ρ,w.x (by omega),.aD⟩⟩
 ·rintro v r env H1 ⟨hr,⟨e7,rfl⟩,τ1,ρ1,w1,m1⟩;refine⟨trivial,fun K next _=>?_⟩;have hr4:r.length+1≤4:=by omega
  rw [←m1.v,←m1.r];refine X.x (yv (n:=n) w1 (m1.kV.trans htell) (m1.cC.trans hfar) (m1.aT.trans hbase) (th.P m1.wa m1.le) (by simp [List.length_cons];omega) fun H2 τ2 ρ2 w2 m2=>?_) (by omega);rw [m1.v,m1.r];exact(next _ _ ⟨by omega,⟨_,rfl⟩,τ2,ρ2,(by grind),m1.trans m2⟩).1
theorem IE {T:TD}{l:List V}{gk:Nat}{kid:Int→Int}{i1:Int}{g1:Nat}{S1:List Int}{ga1:Nat}{as1 bs1:List Nat}{p1:Nat}{i2:Int}{g2:Nat}{S2:List Int}{ga2:Nat}{as2 bs2:List Nat}{p2:Nat}{fr2:Bool}
 {e0 e7 e8 e9 e10 e11 e12:Option V} (w:W H τ ρ k 20) (htell:ρ.kV=true) (hfar:ρ.cC=[]) (hbase:ρ.aT=[]) (th:Th (Wa H ρ) τ T) (hkid:kid 20≠kid 21) (hgk:Wa H ρ gk (.f [bY i1 g1 as1 ga1 false,bY i2 g2 as2 ga2 fr2])) (k1:Ky (Wa H ρ) τ kid i1 g1 S1 ga1 as1 bs1 p1 false) (k2:Ky (Wa H ρ) τ kid i2 g2 S2 ga2 as2 bs2 p2 fr2)
 (h2:H[2]?=some (.f l)) (hl:l.length≤63) (hk:k+12500≤19000) (h0:H[0]?=some .kH) (q:∀H',H'[0]?=some .kH→Q (.D true) H'):
 wS (X.b (n+183)) uG [e0,some (.y 3),some (.y 4),some (.j ρ.v),some (.y ρ.r),some T.dI,some (.y gk),e7,e8,e9,e10,e11,e12] H (bX Q):=by
 unfold uG
 obtain⟨N,hN⟩:∃N:Int,N=2+(l.length)/16:=⟨_,rfl⟩
 have e1:∀ {F:V→Prop},aF _ _ H F=F _:=fun{F} =>by rw [aA _ 1 w.R.d];rfl
 simp! [e1,bh _ h2,fC (l.length) 16 _]
 refine⟨by omega,by omega,br (fun rest env H1=>rest.length≤5∧(∃e7,env=[e0,some _,some _,some _,some _,some T.dI,some _,e7,e8,e9,e10,e11,e12])∧∃τ1 ρ1,W H1 τ1 ρ1 (k+1600*(5-rest.length)) 20∧Mv H H1 τ τ1 ρ ρ1) ?_ (by rintro env H1 ⟨_,⟨e7,rfl⟩,τ1,ρ1,w1,m1⟩;refine⟨trivial,?_⟩;rw [←m1.v,←m1.r];exact ID (w1.x (n:=k+8000) (by simp)) (m1.kV.trans htell) (m1.cC.trans hfar) (m1.aT.trans hbase) (th.P m1.wa m1.le) (MZ w m1 h2) hl (by omega) (JT w m1 h0) q) ⟨by rw [qY];omega,⟨_,rfl⟩,τ,ρ,w.x (by omega),.aD⟩⟩
 ·rintro v r env H1 ⟨hr,⟨e7,rfl⟩,τ1,ρ1,w1,m1⟩;refine⟨trivial,fun K next _=>?_⟩;have hr5:r.length+1≤5:=by omega
  rw [←m1.v,←m1.r];refine X.x (ti (n:=n) w1 (m1.kV.trans htell) (m1.cC.trans hfar) (th.P m1.wa m1.le) hkid (m1.wa _ _ hgk) (k1.P m1.wa m1.le) (k2.P m1.wa m1.le) (by omega) fun H2 τ2 ρ2 w2 m2=>?_) (by omega);rw [m1.v,m1.r];exact(next _ _ ⟨by omega,⟨_,rfl⟩,τ2,ρ2,(by grind),m1.trans m2⟩).1
theorem yD {script:List Int}(hl:script.length≤63)(q:∀H',H'[0]?=some .kH→Q (.D true) H'):X.w (n+184) 107 [.jM (script.map V.j)] [.kH] Q:=by
 apply aC.hV rfl (Nat.le_refl _) (Nat.le_refl _);apply MU hl;refine MT fun mode at_ hm=>?_;have w:=Kp (script:=script) (c:=2) (at_:=at_) hm (by simp);have hpl:∀p∈(Ik mode at_).l,p<26:=by show∀p∈ [17,19,20,21,23,24],p<26;simp
 have h2:(yY (script.map V.j) 2 mode at_)[2]?=some _:=rfl;have h0:(yY (script.map V.j) 2 mode at_)[0]?=some _:=rfl;have hl0:(yY (script.map V.j) 2 mode at_).length=26:=rfl;obtain⟨ρ,hρ⟩:∃ρ,ρ=Ik mode at_:=⟨_,rfl⟩;have htell:ρ.kV=true:=by rw [hρ];rfl
 have hfar:ρ.cC=[] :=by rw [hρ];rfl
 have hbase:ρ.aT=[] :=by rw [hρ];rfl
 have hr:ρ.r=17:=by rw [hρ];rfl
 have hmo:ρ.v=mode:=by rw [hρ];rfl
 rw [←hρ] at w hpl;refine X.x (wi (n:=n) w.R w.cR w.bd (by omega) fun H1 τ1 T G1 th=>?_) (by omega);have w1:=w.gr (n:=166) G1 (by omega);refine X.x (IA (n:=n) w1.R w1.cR w1.bd (by omega) fun H2 τ2 gk kid i1 g1 S1 ga1 as1 bs1 p1 i2 g2 S2 ga2 as2 bs2 p2 fr2 G2 hgk hkid k1 k2=>?_) (by omega);have G12:=G1.trans G2 (by omega:150+40≤190);have nw:∀ {H:AH} {L:Nat},26≤L→∀i o,Na H L i o→Wa H ρ i o:=fun{H L} h i o ⟨a,b,c⟩=>⟨a,c,by grind⟩;have l1:=G1.U;have th2:=(th.P (nw (by omega)) (.aD τ1)).P G2.wa G2.le;rw [←hmo,←hr];exact IE (w.gr (n:=206) G12 (by omega)) htell hfar hbase th2 hkid (nw (by omega) _ _ hgk) (k1.P (nw (by omega)) (.aD τ2)) (k2.P (nw (by omega)) (.aD τ2)) (G12.N 2 _ h2 (by omega)) (by simp_all) (by omega) (G12.N 0 _ h0 (by omega)) q
end
section
open PySem PySem.W PySem.Calls PyProof.Rows PySem.SeqAt
variable {w:World}{s0:Shared}
theorem kG.P {n k:Nat}{A:Around}(r:kG n A)(h:k≤n):kG k A:=⟨r.t,by have:=r.oC;omega,by have:=r.oA;omega⟩
def Oj (B:bP w s0):aC where
 w:=oh w s0
 P h q:=fun A R s cs S hv hr=>codeAny_mono (h A R s cs S hv hr) fun r s' ⟨c,e,R',v,H',z,x,y⟩=>⟨c,e,R',v,H',q _ _ z,x,y⟩
 x h l:=fun A R s cs S hv hr=>h A R s cs S hv (hr.P l)
 JN hk h1 h2 q:=Ju B hk ⟨h1,h2⟩ q
theorem yE (B:bP w s0){script:List Int}(hl:script.length≤63):oh w s0 184 107 [.jM (script.map V.j)] [.kH] (fun v H=>v=.D true∧H[0]?=some .kH):=
 yD (X:=Oj B) hl (by simp)
theorem OK (w:World):(H1 w.params).get? 6=some (dictOf [] 0):=by kernel_rfl
theorem Pu:FA.contains 6=false:=by decide
theorem K2 (w:World):nsIn (Kf w) mainGlobals (m "law")=some (some (.ref (fa 107))):=by kernel_rfl
def tq (h:Heap):Heap:=⟨h.objs.setIfInBounds 6 ⟨.none,none,.freed,#[]⟩,h.life⟩
theorem yB (h:Heap):(tq h).get? 6=none:=by unfold tq Heap.get?;grind
theorem mE (h:Heap){b:Addr}(hb:b≠6):(tq h).get? b=h.get? b:=by unfold tq Heap.get?;grind
theorem yA {h:Heap}{b:Addr}{o:PySem.Obj}(e:(tq h).get? b=some o):b≠6∧h.get? b=some o:=by
 have hb:b≠6:=by rintro rfl;rw [yB] at e;cases e
 exact⟨hb,by rw [←mE h hb];omega⟩
theorem nu {R:WRecords} :∀ {xs:List WData},WShape.hasItems R xs .int=true→∃l:List Int,xs=l.map WData.int
 |[],_=>⟨[],rfl⟩
 |d::r,h=>by
  have h':=by simpa [WShape.hasItems] using h
  obtain⟨i,rfl⟩:=hasW_int h'.1;obtain⟨l,rfl⟩:=nu h'.2;exact⟨i::l,rfl⟩
theorem mW {R:WRecords}{cl:Str→Option Addr}{h N:Heap}{Rr:aJ} :∀ {l:List Int} {vs:List Value} {as:List Addr},ReadsAllW R cl h vs (l.map WData.int) as→b8 N h Rr (l.map V.j) vs
 |[],_,_,r=>by cases r;exact .m
 |i::l,_,_,r=>by obtain⟨v,vs',a,b,rfl,rfl,hr,hx⟩:=readsAllW_cons_inv r;cases hr;exact .cons (.j i _) (mW hx)
theorem Io {args:List WData}(h:mV.row.toRowW.claim.pre args=true):∃l:List Int,args=[.list (l.map WData.int)] ∧l.length≤63:=by
 obtain⟨h1,h2⟩:=pre_splitW h;obtain⟨d,r,rfl,hd,hr⟩:=hasAllW_cons h1;obtain rfl:=hasAllW_nil hr;obtain⟨xs,rfl,hx⟩:=hasW_list hd;obtain⟨l,rfl⟩:=nu hx;refine⟨l,rfl,?_⟩;have e:mV.row.toRowW.pre=.and (.not _) _:=rfl;rw [e] at h2;simp [WTm.holds,WTm.value] at h2;by_cases hl:l.length≤63
 ·omega
 ·rw [show less? _ _=some _ from rfl,decide_eq_true (by omega)] at h2;trivial
theorem Iv {K:Frag}{h:Heap}{N:Addr}{mg:Str→Option Value}{n:Str}{v:Value}(X:K.In h)(G:h.Ns N mg)(e:nsIn K N n=some (some v)):mg n=some v:=by
 obtain⟨o,es,ep,ho,hd,_,hf⟩:=G;unfold nsIn at e;split at e
 ·rename_i q;have z:=X _ _ q;split at e
  ·rw [←hf];unfold nsFind findBy;grind
  grind
 trivial
theorem OF:WalkO qv dw (fun _ _=>True) YP mV.row.toRowW qp [] (fun f vs=>PySem.call f vs):=by
 intro w s₀ s₁ mg mb G y a o pm cd doc dV kV ho hod hcode hdf hmg hgens args vals as hpre hlay hrd hwell hsys;obtain⟨script,rfl,hlen⟩:=Io hpre;obtain⟨v,vs,a1,a2,rfl,rfl,hr,hn⟩:=readsAllW_cons_inv hrd;obtain⟨rfl,rfl⟩:=readsAllW_nil_inv hn;obtain⟨l,ob,its,nn,ai,rfl,hl,hc,hd,hri,rfl⟩:=readsW_list_open hr;have K1:=Frag.In.keeps (OZ w) ‹_›;have h6:=y _ _ (OK w);have ha:a=fa 107:=by have h2:mg qp.name=some _:=Iv K1 G.T.g (K2 w);grind
 subst ha;obtain⟨s0,hs0⟩:∃s0:Shared,s0= {s₁ with heap:=tq s₁.heap} :=⟨_,rfl⟩;have hh:s0.heap=tq s₁.heap:=by rw [hs0]
 have B:bP w s0:=fun b o e=>by
  rw [hh];have hb:b≠6:=by rintro rfl;have h1:=Pu;have h2:6∈(Kf w).map (·.1):=List.mem_map.mpr ⟨_,cH e,rfl⟩;rw [←zW w] at h2;grind
  rw [mE _ hb];exact K1 _ _ e
 have hl6:l≠6:=by grind
 have hs1:s₁.heap.IsList l its:=⟨ob,hl,hc,nn,hd⟩;have hN:s0.heap.IsList l its:=⟨ob,by rw [hh,mE _ hl6];omega,hc,nn,hd⟩;have hk:∀b o,s0.heap.get? b=some o→s₁.heap.get? b=some o:=fun b o e=>by rw [hh] at e;exact(yA e).2
 have S:St w s0 [(6,6)] [.kH] s₁:=by
  refine⟨rfl,fun i o p hi hp=>?_,by simp,fun p hp=>by simp at hp;subst hp;rw [hh];exact yB _,hk,hgens,by rw [hs0]⟩
  ·match i,hi,hp with
   |0,hi,hp=>simp at hi hp;subst hi hp;exact .kH h6
 have hv:b8 _ _ [(6,6)] _ _:=.cons (.jM hN hs1 (mW hri)) .m;have hroom:kG 184 callerA:=⟨rfl,by decide,by decide⟩;refine enter_call (codeAny_mono (yE B hlen _ _ _ _ S hv hroom) fun r s' z=>?_);obtain⟨c,rfl,R',v,H',⟨rfl,h0⟩,X,S',hvr⟩:=z;cases hvr;refine⟨.inl ⟨_,_,[],rfl,fun _=>rfl,.bool _,?_,by simp⟩,.of_keep fun b o e=>?_,by rw [S'.os,hs0],by rw [S'.gens];exact fun y hy=>by simp at hy⟩
 ·show(WShape.has mV.row.toRowW.records (.bool true) .bool&&WTm.holds _ (.eq _ _) _)=true;have hs:same (.bool true) (.bool true)=true:=by decide+kernel
  simp [WShape.has,WShape.arms,WTm.holds,WTm.value,hs]
 ·by_cases hb:b=6
  ·have h7:=S'.objs 0 _ _ h0 (X.jG rfl);cases h7 with
   |kH h7=>grind
  ·exact S'.N _ _ (by rw [hh,mE _ hb];omega)
theorem M0:mV.Holds:=M1 OF
end
end
end H31
theorem PySem.Challenge.cw_up0031_01_holds : PySem.Challenge.rw_up0031_01.Holds :=
 H31.M0
