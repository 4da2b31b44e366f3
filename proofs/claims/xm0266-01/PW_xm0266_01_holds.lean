import PyProof.Rows.All
import Wide.All
import OpenK.AllK
import Wide.FinOn
import PySem.Challenge.RW_xm0266_01
set_option Elab.async false
set_option tactic.hygienic false
set_option maxRecDepth 100000
set_option genSizeOf false
set_option genSizeOfSpec false
set_option genInjectivity false
set_option backward.match.sparseCases false
set_option linter.unusedVariables false
set_option genCtorIdx false
section
open PySem PySem.W PyProof.Rows
namespace Mine.H
noncomputable abbrev rw_:OpenLaw:=Challenge.rw_xm0266_01
noncomputable abbrev pr:Program:=rw_.row.toRowW.1
noncomputable def bd:List Stmt:=behindTheImports pr
noncomputable def nth:List Stmt→Nat→Stmt
 | [],_=>.Pass ⟨0,0,0,0⟩
 |s::l,n=>match Nat.beq n 0 with
  |true=>s
  |false=>nth l (Nat.sub n 1)
noncomputable def st(i:Nat):Stmt:=nth bd i
noncomputable def sm(i j:Nat):Stmt:=match st i with
 |.ClassDef _ _ _ b _ _ _ _ _ _ _=>nth b j
 |s=>s
noncomputable abbrev I(n:Int)(t:Nat):Value:=.int n t
noncomputable abbrev S(x:String)(t:Nat):Value:=.str (Str.ofString x) t
noncomputable abbrev Rf(a:Nat):Value:=.ref a
noncomputable abbrev Ty(x:String):Value:=.type x
noncomputable abbrev Bi(x:String):Value:=.builtin x
noncomputable abbrev No:Value:=.none
noncomputable abbrev Bo(b:Bool):Value:=.bool b
noncomputable abbrev tp(l:List Value):Obj:=⟨.type "tuple",none,.seq ⟨l⟩ 0,⟨[]⟩⟩
noncomputable abbrev fl(c:Value)(l:List Value):Obj:=⟨c,none,.fields ⟨l⟩,⟨[]⟩⟩
noncomputable abbrev co(n q:String)(t:Nat)(ln ac k:Int)(a b c d e f:Value)(u:Int):Obj:=
 fl (Ty "code") [S n t,S q (t+1),S "/claim/cut.py" (t+2),I ln 0,I ac 0,I 0 0,I 0 0,I k 0,a,b,I 181 0,c,No,d,e,f,I u 0,I ln 0,S "/claim/cut.py" (u.toNat+1)]
noncomputable abbrev ds(P:Params)(x:String)(t:Nat)(v:Value):DictEntry:=⟨PyData.keyHash P (Str.ofString x),S x t,v⟩
noncomputable abbrev di(n:Int)(t:Nat)(v:Value):DictEntry:=⟨n,.int n t,v⟩
noncomputable abbrev dc(c:Value)(l:List DictEntry)(e:Nat):Obj:=⟨c,none,.dict ⟨l⟩ e,⟨[]⟩⟩
noncomputable abbrev clS(u:List Value)(n:String)(b m:List Value)(a:Nat)(q:String)(c:Value)(l:List (Option Value)):Obj:=
 ⟨c,none,.cls { name:=Str.ofString n,bases:=b,mro:=m,ns:=a,qualname:=Str.ofString q,subclasses:=u },⟨l⟩⟩
noncomputable abbrev cl(n:String)(b m:List Value)(a:Nat)(q:String)(c:Value)(l:List (Option Value)):Obj:=clS [] n b m a q c l
noncomputable abbrev ob(c:Value)(d:Option Nat)(l:List (Option Value)):Obj:=⟨c,d,.plain,⟨l⟩⟩
noncomputable def fb(s:Stmt)(q:String):Obj:=match s with
 |.FunctionDef n a b _ _ _ sc _ _ _=>⟨.none,none,.func { name:=n,qualname:=Str.ofString q,params:=a,body:=.stmts b,scope:=sc,globals:=0,closure:=[],defaults:=.none,kwdefaults:=.none },⟨[]⟩⟩
 |_=>tp []
noncomputable def fn(s:Stmt)(q:String)(m c:Value):Obj:=match s with
 |.FunctionDef n a b _ _ _ sc _ _ _=>⟨.type "function",none,.func { name:=n,qualname:=Str.ofString q,params:=a,body:=.stmts b,scope:=sc,globals:=3,closure:=[],defaults:=.none,kwdefaults:=.none,pyModule:=m,code:=c },⟨[]⟩⟩
 |_=>tp []
noncomputable abbrev n(v:Obj)(l r:BT):BT:=.node v l r
noncomputable abbrev lf(v:Obj):BT:=.node v .nil .nil
noncomputable def mdE(P:Params):List DictEntry:=[ds P "__doc__" 166 (No),
 ds P "__package__" 167 (No),
 ds P "__loader__" 168 (Bi "__main__.__loader__#opaque"),
 ds P "__spec__" 169 (No),
 ds P "__annotations__" 170 (Rf 6),
 ds P "__builtins__" 171 (Rf 4),
 ds P "__file__" 173 (S "/claim/cut.py" 172),
 ds P "__cached__" 174 (No),
 ds P "OP_CALL" 188 (I 40 187),
 ds P "OP_RET" 190 (I 42 189),
 ds P "OP_BR" 192 (I 56 191),
 ds P "OP_SWITCH" 194 (I 69 193),
 ds P "OP_CALLVIRT" 196 (I 111 195),
 ds P "OP_NEWOBJ" 198 (I 115 197),
 ds P "OP_THROW" 200 (I 122 199),
 ds P "OP_LDELEMA" 202 (I 143 201),
 ds P "OP_ENDFINALLY" 204 (I 220 203),
 ds P "OP_LEAVE" 206 (I 221 205),
 ds P "OP_ENDFILTER" 208 (I 65041 207),
 ds P "OP_CONSTRAINED" 210 (I 65046 209),
 ds P "OP_RETHROW" 212 (I 65050 211),
 ds P "OP_READONLY" 214 (I 65054 213),
 ds P "EC_CATCH" 216 (I 0 215),
 ds P "EC_FILTER" 218 (I 1 217),
 ds P "RuneError" 251 (Rf 31),
 ds P "BadCode" 267 (Rf 44),
 ds P "BadKind" 283 (Rf 56),
 ds P "VOID" 287 (I 0 286),
 ds P "BOOL" 289 (I 1 288),
 ds P "CHAR" 291 (I 2 290),
 ds P "I1" 293 (I 3 292),
 ds P "U1" 295 (I 4 294),
 ds P "I2" 297 (I 5 296),
 ds P "U2" 299 (I 6 298),
 ds P "I4" 301 (I 7 300),
 ds P "U4" 303 (I 8 302),
 ds P "I8" 305 (I 9 304),
 ds P "U8" 307 (I 10 306),
 ds P "NINT" 309 (I 11 308),
 ds P "OBJECT" 311 (I 12 310),
 ds P "STRING" 313 (I 13 312),
 ds P "NULLK" 315 (I 14 314),
 ds P "PRIM_END" 317 (I 16 316),
 ds P "R_PRIM" 319 (I 1 318),
 ds P "R_CLASS" 321 (I 2 320),
 ds P "R_VALUE" 323 (I 3 322),
 ds P "R_ARRAY" 325 (I 4 324),
 ds P "R_BYREF" 327 (I 5 326),
 ds P "R_VAR" 329 (I 6 328),
 ds P "R_MVAR" 331 (I 7 330),
 ds P "R_BOXED" 333 (I 8 332),
 ds P "R_ROREF" 335 (I 9 334),
 ds P "R_FTN" 337 (I 10 336),
 ds P "R_RAW" 339 (I 11 338),
 ds P "DEEPEST_KIND" 341 (I 24 340),
 ds P "HEAVIEST_KIND" 343 (I 4096 342),
 ds P "TID_PRIM" 372 (Rf 59),
 ds P "KindTable" 429 (Rf 90),
 ds P "inner_kinds" 437 (Rf 101),
 ds P "row_level" 444 (Rf 108),
 ds P "row_length" 451 (Rf 115),
 ds P "check_kind_row" 461 (Rf 122),
 ds P "check_named" 469 (Rf 129),
 ds P "check_args" 478 (Rf 136),
 ds P "may_stand" 487 (Rf 143),
 ds P "is_value" 495 (Rf 150),
 ds P "is_var" 504 (Rf 157),
 ds P "SO_NONE" 508 (I 0 507),
 ds P "SO_I4" 510 (I 1 509),
 ds P "SO_I8" 512 (I 2 511),
 ds P "SO_ARG" 514 (I 3 513),
 ds P "SO_LOCAL" 516 (I 4 515),
 ds P "SO_BRANCH" 518 (I 5 517),
 ds P "SO_SWITCH" 520 (I 6 519),
 ds P "SO_KIND" 522 (I 7 521),
 ds P "SO_FIELD" 524 (I 8 523),
 ds P "SO_METHOD" 526 (I 9 525),
 ds P "SO_TEXT" 528 (I 10 527),
 ds P "SO_TOKEN" 530 (I 11 529),
 ds P "OP_SORT" 783 (Rf 158),
 ds P "OP_STACK" 1272 (Rf 166),
 ds P "op_sort" 1279 (Rf 302),
 ds P "ends_flow" 1286 (Rf 309),
 ds P "is_branch" 1293 (Rf 316),
 ds P "targets" 1300 (Rf 323),
 ds P "prefix_goal" 1307 (Rf 330),
 ds P "pops_pushes" 1317 (Rf 337),
 ds P "MF_STATIC" 1321 (I 1 1320),
 ds P "MethodDef" 1369 (Rf 354),
 ds P "Store" 1403 (Rf 375),
 ds P "plain_names" 1412 (Rf 386),
 ds P "is_static" 1419 (Rf 393),
 ds P "StoreTeller" 1470 (Rf 424),
 ds P "stored_method" 1478 (Rf 435),
 ds P "clause_edges" 1485 (Rf 442),
 ds P "check_edges" 1497 (Rf 449),
 ds P "successors" 1508 (Rf 456),
 ds P "enter_depth" 1518 (Rf 463),
 ds P "start_depths" 1530 (Rf 470),
 ds P "depth_after" 1542 (Rf 477),
 ds P "max_stack" 1557 (Rf 484),
 ds P "reach_one" 1566 (Rf 491),
 ds P "reachable" 1579 (Rf 498),
 ds P "new_places" 1589 (Rf 505),
 ds P "move_targets" 1599 (Rf 512),
 ds P "move_clause" 1608 (Rf 519),
 ds P "keep_only" 1622 (Rf 526),
 ds P "clause_lives" 1631 (Rf 533),
 ds P "drop_dead" 1637 (Rf 538),
 ds P "region_key" 1648 (Rf 545),
 ds P "chain_end" 1661 (Rf 552),
 ds P "checked_goal" 1670 (Rf 559),
 ds P "thread_one" 1682 (Rf 566),
 ds P "is_edge" 1691 (Rf 573),
 ds P "thread_in" 1700 (Rf 580),
 ds P "thread_round" 1713 (Rf 587),
 ds P "_law_store" 1726 (Rf 594),
 ds P "_law_end" 1734 (Rf 601),
 ds P "_law_call" 1740 (Rf 606),
 ds P "_law_odd" 1747 (Rf 613),
 ds P "_law_unit" 1758 (Rf 620),
 ds P "_law_handler" 1772 (Rf 627),
 ds P "_law_units" 1794 (Rf 634),
 ds P "_law_aim" 1802 (Rf 641),
 ds P "_law_aims" 1808 (Rf 646),
 ds P "_law_lay" 1814 (Rf 651),
 ds P "_law_goals" 1821 (Rf 658),
 ds P "_law_inside" 1827 (Rf 663),
 ds P "_law_threads" 1835 (Rf 670),
 ds P "_law_drops" 1843 (Rf 677),
 ds P "_law_depth" 1852 (Rf 684),
 ds P "_law_settle" 1861 (Rf 691),
 ds P "_law_parts" 1876 (Rf 698),
 ds P "_law_pairs" 1882 (Rf 703),
 ds P "_law_alike" 1895 (Rf 710),
 ds P "_law_lives" 1901 (Rf 715),
 ds P "_law_behind" 1907 (Rf 720),
 ds P "_law_lean" 1913 (Rf 725),
 ds P "_law_closed" 1919 (Rf 730),
 ds P "_law_depths" 1934 (Rf 737),
 ds P "_law_one_code" 1945 (Rf 744),
 ds P "law" 1951 (Rf 749)]
noncomputable def md(P:Params)(v:Value)(m e:Nat):Obj:=dc (Ty "dict") (ds P "__name__" 165 (v)::(mdE P).take m) e
noncomputable def fE:List Value:=[I 18 0,I 0 0,Rf 20,I 23 0,I 0 0,Rf 40,I 25 0,I 0 0,Rf 52,I 58 0,I 0 0,Rf 65,I 107 0,I 0 0,Rf 100,I 116 0,I 0 0,Rf 107,I 120 0,I 0 0,Rf 114,I 126 0,I 0 0,Rf 121,I 148 0,I 0 0,Rf 128,I 152 0,I 0 0,Rf 135,I 156 0,I 0 0,Rf 142,I 161 0,I 0 0,Rf 149,I 165 0,I 0 0,Rf 156,I 183 0,I 0 0,Rf 301,I 185 0,I 0 0,Rf 308,I 189 0,I 0 0,Rf 315,I 191 0,I 0 0,Rf 322,I 197 0,I 0 0,Rf 329,I 203 0,I 0 0,Rf 336,I 223 0,I 0 0,Rf 343,I 240 0,I 0 0,Rf 364,I 250 0,I 0 0,Rf 385,I 255 0,I 0 0,Rf 392,I 258 0,I 0 0,Rf 399,I 278 0,I 0 0,Rf 434,I 282 0,I 0 0,Rf 441,I 286 0,I 0 0,Rf 448,I 295 0,I 0 0,Rf 455,I 306 0,I 0 0,Rf 462,I 314 0,I 0 0,Rf 469,I 324 0,I 0 0,Rf 476,I 333 0,I 0 0,Rf 483,I 349 0,I 0 0,Rf 490,I 353 0,I 0 0,Rf 497,I 367 0,I 0 0,Rf 504,I 376 0,I 0 0,Rf 511,I 385 0,I 0 0,Rf 518,I 390 0,I 0 0,Rf 525,I 400 0,I 0 0,Rf 532,I 405 0,I 0 0,Rf 537,I 417 0,I 0 0,Rf 544,I 428 0,I 0 0,Rf 551,I 438 0,I 0 0,Rf 558,I 442 0,I 0 0,Rf 565,I 454 0,I 0 0,Rf 572,I 459 0,I 0 0,Rf 579,I 466 0,I 0 0,Rf 586,I 477 0,I 0 0,Rf 593,I 483 0,I 0 0,Rf 600,I 488 0,I 0 0,Rf 605,I 495 0,I 0 0,Rf 612,I 503 0,I 0 0,Rf 619,I 530 0,I 0 0,Rf 626,I 552 0,I 0 0,Rf 633,I 574 0,I 0 0,Rf 640,I 580 0,I 0 0,Rf 645,I 586 0,I 0 0,Rf 650,I 617 0,I 0 0,Rf 657,I 623 0,I 0 0,Rf 662,I 638 0,I 0 0,Rf 669,I 643 0,I 0 0,Rf 676,I 648 0,I 0 0,Rf 683,I 653 0,I 0 0,Rf 690,I 661 0,I 0 0,Rf 697,I 665 0,I 0 0,Rf 702,I 690 0,I 0 0,Rf 709,I 707 0,I 0 0,Rf 714,I 709 0,I 0 0,Rf 719,I 711 0,I 0 0,Rf 724,I 744 0,I 0 0,Rf 729,I 751 0,I 0 0,Rf 736,I 765 0,I 0 0,Rf 743,I 771 0,I 0 0,Rf 748]
noncomputable def fk(m:Nat):Obj:=fl No (fE.take m)
noncomputable def t7(P:Params):BT:=(n (boot_o_7 P) (n (tp [Ty "Exception"]) (n (clS [Rf 44,Rf 56] "RuneError" [Ty "Exception"] [Rf 31,Ty "Exception",Ty "BaseException",Ty "object"] 30 "RuneError" (Ty "type") [some (Rf 15),none,some (S "RuneError" 221),some (S "RuneError" 229),some (Bi "Exception.__new__"),some (Bo true)]) (n (tp []) (n (fb (st 56) "check_named") (n (tp [I 1 1121,I 1 1122]) (lf (co "move_targets" "move_targets" 1590 376 2 3 (Rf 506) (Bo true) (Rf 507) (Rf 508) (Rf 509) (Rf 510) 1597)) .nil) (n (tp []) (lf (fb (st 121) "_law_aim")) .nil)) (n (tp [I 1 877,I 1 878]) (n (tp [S "ins" 1297]) (lf (fl (No) [])) .nil) (n (fb (st 92) "check_edges") (lf (fn (st 131) "_law_pairs" (S "law_xm0266_01" 1714) (Rf 702))) .nil))) (n (tp []) (n (dc (Ty "dict") [di 65 565 (I 5 517),di 66 567 (I 5 517),di 67 569 (I 5 517),di 68 571 (I 5 517),di 69 573 (I 6 519),di 70 575 (I 0 507),di 71 577 (I 0 507),di 72 579 (I 0 507),di 73 581 (I 0 507),di 74 583 (I 0 507),di 75 585 (I 0 507),di 76 587 (I 0 507),di 77 589 (I 0 507),di 80 591 (I 0 507),di 81 593 (I 0 507),di 82 595 (I 0 507),di 83 597 (I 0 507)] 17) (n (tp [I 0 1241,I 1 1242]) (lf (fb (st 106) "region_key")) .nil) (n (tp []) (lf (tp [])) .nil)) (n (tp [I 1 997,I 1 998]) (n (fn (sm 84 0) "MethodDef.__init__" (S "framerune.store" 1318) (Rf 350)) (lf (tp [])) .nil) (n (fl (No) []) (lf (fb (st 137) "_law_depths")) .nil)))) (n (tp [Rf 31]) (n (co "row" "KindTable.row" 394 74 2 3 (Rf 74) (Bo true) (Rf 75) (Rf 76) (Rf 77) (Rf 78) 399) (n (fn (st 58) "may_stand" (S "framerune.kinds" 284) (Rf 142)) (n (tp [I 2 1181,I 1 1182]) (lf (tp [])) .nil) (n (co "StoreTeller" "StoreTeller" 1424 258 0 0 (Rf 397) (Bo false) (Rf 398) (No) (No) (No) 1427) (lf (tp [])) .nil)) (n (tp [I 2 937,I 1 938]) (n (fb (st 81) "pops_pushes") (lf (tp [])) .nil) (n (fn (st 94) "enter_depth" (S "framerune.ilflow" 1420) (Rf 462)) (lf (co "_law_behind" "_law_behind" 1902 709 2 3 (Rf 716) (Bo true) (Rf 717) (No) (No) (Rf 718) 1905)) .nil))) (n (tp [S "sort" 448]) (n (tp [I 1 817,I 0 818]) (n (tp []) (lf (fn (st 108) "checked_goal" (S "framerune.ilflow" 1420) (Rf 558))) .nil) (n (tp [S "store" 1474,S "mid" 1475]) (lf (tp [S "code" 1856,S "at" 1857,S "steps" 1858])) .nil)) (n (tp [I 1 1057,I 1 1058]) (n (fl (No) []) (lf (tp [S "w" 1762,S "z" 1763,S "sort" 1764,S "ret" 1765,S "first" 1766,S "never" 1767,S "begin" 1768,S "size" 1769])) .nil) (lf (tp [])))))) (n (fl (No) []) (n (fl (No) []) (n (fb (sm 51 0) "KindTable.__init__") (n (co "check_args" "check_args" 470 152 2 3 (Rf 130) (Bo true) (Rf 131) (Rf 132) (Rf 133) (Rf 134) 476) (n (tp [I 0 1149,I 1 1150]) (lf (fn (st 102) "move_clause" (S "framerune.ilflow" 1420) (Rf 518))) .nil) (n (fb (st 87) "is_static") (lf (tp [])) .nil)) (n (tp [I 2 909,I 0 910]) (n (tp []) (lf (tp [S "code" 1704,S "clauses" 1705,S "rows" 1706,S "i" 1707,S "kept" 1708,S "idle" 1709,S "out" 1710])) .nil) (n (co "successors" "successors" 1498 295 2 3 (Rf 450) (Bo true) (Rf 451) (Rf 452) (Rf 453) (Rf 454) 1506) (lf (tp [])) .nil))) (n (fl (No) []) (n (tp [I 0 785,I 0 786]) (n (tp [I 0 1267,I 0 1268]) (lf (co "chain_end" "chain_end" 1649 428 4 3 (Rf 546) (Bo true) (Rf 547) (Rf 548) (Rf 549) (Rf 550) 1659)) .nil) (n (dc (Ty "dict") [ds P "__module__" 1429 (S "framerune.ilflow" 1420),ds P "__firstlineno__" 1433 (I 258 1432),ds P "__init__" 1442 (Rf 407),ds P "call_counts" 1453 (Rf 414),ds P "ret_count" 1460 (Rf 421),ds P "__static_attributes__" 1463 (Rf 422),ds P "__dict__" 1465 (Rf 425),ds P "__weakref__" 1467 (Rf 426),ds P "__doc__" 1468 (No)] 4) (lf (fl (No) [])) .nil)) (n (tp [I 1 1029,I 1 1030]) (n (tp []) (lf (fl (No) [])) .nil) (n (tp [S "seen" 1561,S "work" 1562,S "i" 1563]) (lf (co "_law_one_code" "_law_one_code" 1935 765 3 3 (Rf 738) (Bo true) (Rf 739) (Rf 740) (Rf 741) (Rf 742) 1943)) .nil)))) (n (dc (Ty "dict") [ds P "__module__" 275 (S "framerune.faults" 219),ds P "__firstlineno__" 279 (I 25 278),ds P "__static_attributes__" 280 (Rf 54),ds P "__doc__" 281 (No)] 2) (n (fn (sm 51 2) "KindTable.put" (S "framerune.kinds" 284) (Rf 86)) (n (tp []) (n (tp [I 2 1209,I 1 1210]) (lf (fl (No) [])) .nil) (n (fn (sm 89 0) "StoreTeller.__init__" (S "framerune.ilflow" 1420) (Rf 406)) (lf (fn (st 125) "_law_inside" (S "law_xm0266_01" 1714) (Rf 662))) .nil)) (n (tp [I 2 969,I 1 970]) (n (co "MethodDef" "MethodDef" 1324 223 0 0 (Rf 341) (Bo false) (Rf 342) (No) (No) (No) 1327) (lf (fb (st 115) "_law_end")) .nil) (n (tp []) (lf (fl (No) [])) .nil))) (n (tp []) (n (tp [I 2 849,I 0 850]) (n (fl (No) []) (lf (tp [])) .nil) (n (tp []) (lf (tp [])) .nil)) (n (tp [I 1 1089,I 1 1090]) (n (cl "Store" [Ty "object"] [Rf 375,Ty "object"] 374 "Store" (Ty "type") [none,none,some (S "Store" 1370),some (S "Store" 1378),some (Bi "object.__new__"),some (Bo true)]) (lf (tp [])) .nil) (lf (fb (st 100) "new_places")))))))
noncomputable def t11(P:Params):BT:=(n (tp []) (n (fl (No) [I 20 0,I 4 0,Rf 27]) (n (tp [Rf 31]) (n (tp []) (n (fl (No) []) (n (tp [I 1 1133,I 1 1134]) (lf (tp [S "clause" 1603,S "places" 1604,S "extra" 1605])) .nil) (n (tp []) (lf (fl (No) [])) .nil)) (n (tp [I 1 893,I 1 894]) (n (fn (st 79) "targets" (S "framerune.ops" 505) (Rf 322)) (lf (co "thread_in" "thread_in" 1692 459 2 3 (Rf 574) (Bo true) (Rf 575) (Rf 576) (Rf 577) (Rf 578) 1698)) .nil) (n (fl (No) []) (lf (tp [])) .nil))) (n (fb (st 52) "inner_kinds") (n (dc (Ty "dict") [di 164 701 (I 7 521),di 165 703 (I 7 521),di 179 705 (I 0 507),di 180 707 (I 0 507),di 181 709 (I 0 507),di 182 711 (I 0 507),di 183 713 (I 0 507),di 184 715 (I 0 507),di 185 717 (I 0 507),di 186 719 (I 0 507),di 208 721 (I 11 529),di 209 723 (I 0 507),di 210 725 (I 0 507),di 211 727 (I 0 507),di 214 729 (I 0 507),di 215 731 (I 0 507),di 216 733 (I 0 507)] 17) (n (tp [I 1 1257,I 0 1258]) (lf (fl (No) [])) .nil) (n (fb (sm 89 2) "StoreTeller.ret_count") (lf (fb (st 127) "_law_drops")) .nil)) (n (tp [I 1 1013,I 1 1014]) (n (fl (Ty "getset_descriptor") [S "__dict__" 1363,Rf 354,Bi "function.__dict__",Bi "function.__dict__#set"]) (lf (fb (st 117) "_law_odd")) .nil) (n (co "max_stack" "max_stack" 1543 333 3 3 (Rf 478) (Bo true) (Rf 479) (Rf 480) (Rf 481) (Rf 482) 1555) (lf (fl (No) [])) .nil)))) (n (fl (No) []) (n (tp [S "self" 405,S "row" 406,S "found" 407,S "depth" 408,S "weight" 409,S "opened" 410,S "level" 411,S "inner" 412,S "k" 413]) (n (tp []) (n (tp [I 0 1193,I 0 1194]) (lf (fb (st 104) "clause_lives")) .nil) (n (tp [S "self" 1437,S "store" 1438,S "mid" 1439]) (lf (tp [])) .nil)) (n (tp [I 2 953,I 1 954]) (n (fl (Ty "builtin_function_or_method") [Bi "type.__prepare__",Ty "type"]) (lf (tp [])) .nil) (n (tp []) (lf (fb (st 135) "_law_lean")) .nil))) (n (fn (st 54) "row_length" (S "framerune.kinds" 284) (Rf 114)) (n (tp [I 2 833,I 0 834]) (n (fb (st 77) "ends_flow") (lf (tp [])) .nil) (n (fn (st 90) "stored_method" (S "framerune.ilflow" 1420) (Rf 434)) (lf (fn (st 129) "_law_settle" (S "law_xm0266_01" 1714) (Rf 690))) .nil)) (n (tp [I 1 1073,I 1 1074]) (n (co "__init__" "Store.__init__" 1382 242 1 3 (Rf 366) (Bo true) (Rf 367) (Rf 368) (Rf 369) (Rf 370) 1386) (lf (fn (st 119) "_law_handler" (S "law_xm0266_01" 1714) (Rf 626))) .nil) (lf (tp [])))))) (n (co "__init__" "RuneError.__init__" 233 20 3 3 (Rf 22) (Bo true) (Rf 23) (Rf 24) (Rf 25) (Rf 26) 239) (n (dc (Ty "dict") [ds P "__module__" 259 (S "framerune.faults" 219),ds P "__firstlineno__" 263 (I 23 262),ds P "__static_attributes__" 264 (Rf 42),ds P "__doc__" 265 (No)] 2) (n (fl (No) []) (n (tp [S "kt" 482,S "k" 483,S "sort" 484]) (n (tp [I 2 1165,I 1 1166]) (lf (tp [])) .nil) (n (fl (Ty "builtin_function_or_method") [Bi "type.__prepare__",Ty "type"]) (lf (fn (st 123) "_law_lay" (S "law_xm0266_01" 1714) (Rf 650))) .nil)) (n (tp [I 2 921,I 1 922]) (n (tp []) (lf (fn (st 112) "thread_round" (S "framerune.ilflow" 1420) (Rf 586))) .nil) (n (tp [S "depths" 1512,S "work" 1513,S "i" 1514,S "depth" 1515]) (lf (fn (st 133) "_law_lives" (S "law_xm0266_01" 1714) (Rf 714))) .nil))) (n (co "row_level" "row_level" 438 116 1 3 (Rf 102) (Bo true) (Rf 103) (Rf 104) (Rf 105) (Rf 106) 442) (n (tp [I 1 801,I 2 802]) (n (tp []) (lf (tp [S "code" 1665,S "i" 1666,S "goal" 1667])) .nil) (n (fl (Ty "super") [Rf 424,Rf 424,Rf 424]) (lf (co "_law_depth" "_law_depth" 1844 648 3 3 (Rf 678) (Bo true) (Rf 679) (Rf 680) (Rf 681) (Rf 682) 1850)) .nil)) (n (tp [I 0 1045,I 1 1046]) (n (fl (No) [I 242 0,I 4 0,Rf 371]) (lf (co "_law_unit" "_law_unit" 1748 503 2 3 (Rf 614) (Bo true) (Rf 615) (Rf 616) (Rf 617) (Rf 618) 1756)) .nil) (n (fn (st 98) "reach_one" (S "framerune.ilflow" 1420) (Rf 490)) (lf (fb (st 139) "law")) .nil)))) (n (dc (Ty "dict") [di 20 344 (I 0 286),di 9 345 (I 1 288),di 10 346 (I 2 290),di 11 347 (I 3 292),di 12 348 (I 4 294),di 13 349 (I 5 296),di 14 350 (I 6 298),di 15 351 (I 7 300),di 16 352 (I 8 302),di 17 353 (I 9 304),di 18 354 (I 10 306),di 19 355 (I 11 308),di 1 356 (I 12 310),di 4 357 (I 13 312)] 14) (n (fl (Ty "getset_descriptor") [S "__dict__" 423,Rf 90,Bi "function.__dict__",Bi "function.__dict__#set"]) (n (fb (st 60) "is_var") (n (tp [I 1 1225,I 1 1226]) (lf (tp [])) .nil) (n (tp []) (lf (tp [])) .nil)) (n (tp [I 1 985,I 1 986]) (n (tp [S "self" 1337,S "mid" 1338,S "owner" 1339,S "name" 1340,S "access" 1341,S "flags" 1342,S "ret" 1343,S "params" 1344]) (lf (fl (No) [])) .nil) (n (fb (st 96) "depth_after") (lf (tp [])) .nil))) (n (tp []) (n (tp [I 1 861,I 0 862]) (n (co "is_branch" "is_branch" 1287 189 1 3 (Rf 310) (Bo true) (Rf 311) (Rf 312) (Rf 313) (Rf 314) 1291) (lf (fb (st 110) "is_edge")) .nil) (n (tp []) (lf (tp [])) .nil)) (n (tp [I 2 1105,I 1 1106]) (n (fl (Ty "builtin_function_or_method") [Bi "object.__init_subclass__",Rf 375]) (lf (tp [])) .nil) (lf (fl (No) [])))))))
noncomputable def t9(P:Params):BT:=(n (boot_o_9 P) (n (dc (Ty "dict") [ds P "__module__" 228 (S "framerune.faults" 219),ds P "__qualname__" 230 (S "RuneError" 229),ds P "__firstlineno__" 232 (I 18 231),ds P "__init__" 241 (Rf 28),ds P "__static_attributes__" 244 (Rf 29)] 5) (n (fl (Ty "super") [Rf 31,Rf 31,Rf 31]) (n (co "KindTable" "KindTable" 375 58 0 0 (Rf 63) (Bo false) (Rf 64) (No) (No) (No) 378) (n (fn (st 56) "check_named" (S "framerune.kinds" 284) (Rf 128)) (n (tp [I 1 1125,I 1 1126]) (lf (tp [])) .nil) (n (co "plain_names" "plain_names" 1404 250 1 3 (Rf 380) (Bo true) (Rf 381) (Rf 382) (Rf 383) (Rf 384) 1410) (lf (fn (st 121) "_law_aim" (S "law_xm0266_01" 1714) (Rf 640))) .nil)) (n (tp [I 1 885,I 1 886]) (n (fb (st 79) "targets") (lf (tp [])) .nil) (n (fn (st 92) "check_edges" (S "framerune.ilflow" 1420) (Rf 448)) (lf (fl (No) [])) .nil))) (n (tp [S "row" 433,S "sort" 434]) (n (dc (Ty "dict") [di 103 633 (I 0 507),di 104 635 (I 0 507),di 105 637 (I 0 507),di 106 639 (I 0 507),di 109 641 (I 0 507),di 110 643 (I 0 507),di 111 645 (I 9 525),di 113 647 (I 7 521),di 114 649 (I 10 527),di 115 651 (I 9 525),di 116 653 (I 7 521),di 117 655 (I 7 521),di 121 657 (I 7 521),di 122 659 (I 0 507),di 123 661 (I 8 523),di 124 663 (I 8 523),di 125 665 (I 8 523)] 17) (n (tp [I 1 1249,I 0 1250]) (lf (fn (st 106) "region_key" (S "framerune.ilflow" 1420) (Rf 544))) .nil) (n (tp [S "self" 1457]) (lf (tp [S "code" 1839,S "clauses" 1840])) .nil)) (n (tp [I 1 1005,I 1 1006]) (n (dc (Ty "dict") [ds P "__module__" 1329 (S "framerune.store" 1318),ds P "__firstlineno__" 1333 (I 223 1332),ds P "__init__" 1347 (Rf 351),ds P "__static_attributes__" 1362 (Rf 352),ds P "__dict__" 1364 (Rf 355),ds P "__weakref__" 1366 (Rf 356),ds P "__doc__" 1367 (No)] 4) (lf (tp [S "t" 1744])) .nil) (n (tp []) (lf (fn (st 137) "_law_depths" (S "law_xm0266_01" 1714) (Rf 736))) .nil)))) (n (dc (Ty "dict") [ds P "__module__" 275 (S "framerune.faults" 219),ds P "__qualname__" 277 (S "BadKind" 276),ds P "__firstlineno__" 279 (I 25 278),ds P "__static_attributes__" 280 (Rf 54)] 4) (n (tp []) (n (fl (No) []) (n (tp [I 0 1189,I 0 1190]) (lf (tp [S "clause" 1626,S "kept" 1627,S "i" 1628])) .nil) (n (tp []) (lf (co "_law_goals" "_law_goals" 1815 617 1 3 (Rf 652) (Bo true) (Rf 653) (Rf 654) (Rf 655) (Rf 656) 1819)) .nil)) (n (tp [I 2 945,I 1 946]) (n (fn (st 81) "pops_pushes" (S "framerune.ops" 505) (Rf 336)) (lf (co "_law_store" "_law_store" 1716 477 0 3 (Rf 588) (Bo true) (Rf 589) (Rf 590) (Rf 591) (Rf 592) 1724)) .nil) (n (fl (No) []) (lf (tp [])) .nil))) (n (fb (st 54) "row_length") (n (tp [I 2 825,I 0 826]) (n (tp [S "op" 1283]) (lf (fl (No) [])) .nil) (n (fb (st 90) "stored_method") (lf (fb (st 129) "_law_settle")) .nil)) (n (tp [I 1 1065,I 1 1066]) (n (tp []) (lf (fb (st 119) "_law_handler")) .nil) (lf (co "reachable" "reachable" 1567 353 2 3 (Rf 492) (Bo true) (Rf 493) (Rf 494) (Rf 495) (Rf 496) 1577)))))) (n (tp []) (n (ob (Ty "frame") (none) [some (Rf 40),some (Rf 3),some (Rf 37),none,some (S "framerune.faults" 219),none,some (Rf 0)]) (n (fn (sm 51 0) "KindTable.__init__" (S "framerune.kinds" 284) (Rf 72)) (n (tp []) (n (tp [I 1 1157,I 1 1158]) (lf (fl (No) [])) .nil) (n (fn (st 87) "is_static" (S "framerune.store" 1318) (Rf 392)) (lf (fb (st 123) "_law_lay")) .nil)) (n (tp [I 2 917,I 0 918]) (n (co "prefix_goal" "prefix_goal" 1301 197 1 3 (Rf 324) (Bo true) (Rf 325) (Rf 326) (Rf 327) (Rf 328) 1305) (lf (fb (st 112) "thread_round")) .nil) (n (tp []) (lf (fb (st 133) "_law_lives")) .nil))) (n (tp []) (n (tp [I 0 793,I 1 794]) (n (fl (No) []) (lf (tp [])) .nil) (n (fl (Ty "getset_descriptor") [S "__dict__" 1464,Rf 424,Bi "function.__dict__",Bi "function.__dict__#set"]) (lf (tp [])) .nil)) (n (tp [I 2 1037,I 0 1038]) (n (dc (Ty "dict") [ds P "__module__" 1377 (S "framerune.store" 1318),ds P "__qualname__" 1379 (S "Store" 1378),ds P "__firstlineno__" 1381 (I 240 1380),ds P "__init__" 1388 (Rf 372),ds P "__static_attributes__" 1396 (Rf 373)] 5) (lf (tp [])) .nil) (n (fb (st 98) "reach_one") (lf (tp [])) .nil)))) (n (fl (Ty "super") [Rf 56,Rf 56,Rf 56]) (n (dc (Ty "dict") [ds P "__module__" 380 (S "framerune.kinds" 284),ds P "__firstlineno__" 384 (I 58 383),ds P "__init__" 393 (Rf 73),ds P "row" 401 (Rf 80),ds P "put" 416 (Rf 87),ds P "__static_attributes__" 422 (Rf 88),ds P "__dict__" 424 (Rf 91),ds P "__weakref__" 426 (Rf 92),ds P "__doc__" 427 (No)] 4) (n (tp [S "kt" 499,S "k" 500,S "sort" 501]) (n (tp [I 2 1217,I 1 1218]) (lf (co "drop_dead" "drop_dead" 1632 405 2 3 (Rf 534) (Bo true) (Rf 535) (No) (No) (Rf 536) 1635)) .nil) (n (fl (No) []) (lf (fl (No) [])) .nil)) (n (tp [I 1 977,I 1 978]) (n (tp []) (lf (fn (st 115) "_law_end" (S "law_xm0266_01" 1714) (Rf 600))) .nil) (n (tp [S "code" 1534,S "i" 1535,S "depth" 1536,S "teller" 1537,S "taken" 1538,S "given" 1539]) (lf (co "_law_closed" "_law_closed" 1914 744 2 3 (Rf 726) (Bo true) (Rf 727) (No) (No) (Rf 728) 1917)) .nil))) (n (co "check_kind_row" "check_kind_row" 452 126 2 3 (Rf 116) (Bo true) (Rf 117) (Rf 118) (Rf 119) (Rf 120) 459) (n (tp [I 2 853,I 0 854]) (n (tp []) (lf (tp [S "clauses" 1686,S "i" 1687,S "clause" 1688])) .nil) (n (co "clause_edges" "clause_edges" 1479 282 1 3 (Rf 436) (Bo true) (Rf 437) (Rf 438) (Rf 439) (Rf 440) 1483) (lf (co "_law_parts" "_law_parts" 1862 661 2 3 (Rf 692) (Bo true) (Rf 693) (Rf 694) (Rf 695) (Rf 696) 1874)) .nil)) (n (tp [I 1 1097,I 1 1098]) (n (fl (Ty "getset_descriptor") [S "__weakref__" 1399,Rf 375,Bi "ExceptionGroup.__weakref__",No]) (lf (co "_law_units" "_law_units" 1773 552 2 3 (Rf 628) (Bo true) (Rf 629) (Rf 630) (Rf 631) (Rf 632) 1792)) .nil) (lf (fn (st 100) "new_places" (S "framerune.ilflow" 1420) (Rf 504))))))))
noncomputable def t13(P:Params):BT:=(n (co "<module>" "<module>" 182 1 0 0 (Rf 11) (Bo false) (Rf 12) (No) (No) (No) 185) (n (ob (Ty "frame") (none) [some (Rf 20),some (Rf 3),some (Rf 17),none,some (S "framerune.faults" 219),none,some (Rf 0)]) (n (dc (Ty "dict") [ds P "__module__" 259 (S "framerune.faults" 219),ds P "__qualname__" 261 (S "BadCode" 260),ds P "__firstlineno__" 263 (I 23 262),ds P "__static_attributes__" 264 (Rf 42)] 4) (n (tp [S "self" 388,S "number" 389,S "row" 390]) (n (tp []) (n (tp [I 1 1141,I 1 1142]) (lf (fb (st 102) "move_clause")) .nil) (n (tp [S "m" 1416]) (lf (co "_law_aims" "_law_aims" 1803 580 3 3 (Rf 642) (Bo true) (Rf 643) (No) (No) (Rf 644) 1806)) .nil)) (n (tp [I 2 901,I 0 902]) (n (fl (No) []) (lf (tp [])) .nil) (n (tp []) (lf (co "_law_alike" "_law_alike" 1883 690 2 3 (Rf 704) (Bo true) (Rf 705) (Rf 706) (Rf 707) (Rf 708) 1893)) .nil))) (n (fn (st 52) "inner_kinds" (S "framerune.kinds" 284) (Rf 100)) (n (dc (Ty "dict") [di 65037 769 (I 4 515),di 65038 770 (I 4 515),di 65041 771 (I 0 507),di 65045 772 (I 7 521),di 65046 773 (I 7 521),di 65050 774 (I 0 507),di 65054 775 (I 0 507)] 7) (n (tp [I 0 1261,I 0 1262]) (lf (tp [])) .nil) (n (fn (sm 89 2) "StoreTeller.ret_count" (S "framerune.ilflow" 1420) (Rf 420)) (lf (fn (st 127) "_law_drops" (S "law_xm0266_01" 1714) (Rf 676))) .nil)) (n (tp [I 1 1021,I 1 1022]) (n (fl (Ty "super") [Rf 354,Rf 354,Rf 354]) (lf (fn (st 117) "_law_odd" (S "law_xm0266_01" 1714) (Rf 612))) .nil) (n (tp []) (lf (tp [])) .nil)))) (n (ob (Ty "frame") (none) [some (Rf 52),some (Rf 3),some (Rf 49),none,some (S "framerune.faults" 219),none,some (Rf 0)]) (n (fb (sm 51 2) "KindTable.put") (n (co "is_value" "is_value" 488 161 2 3 (Rf 144) (Bo true) (Rf 145) (Rf 146) (Rf 147) (Rf 148) 493) (n (tp [I 2 1201,I 1 1202]) (lf (fn (st 104) "clause_lives" (S "framerune.ilflow" 1420) (Rf 532))) .nil) (n (fb (sm 89 0) "StoreTeller.__init__") (lf (fb (st 125) "_law_inside")) .nil)) (n (tp [I 2 961,I 1 962]) (n (tp []) (lf (tp [S "ret" 1730,S "rows" 1731])) .nil) (n (co "start_depths" "start_depths" 1519 314 4 3 (Rf 464) (Bo true) (Rf 465) (Rf 466) (Rf 467) (Rf 468) 1528) (lf (fn (st 135) "_law_lean" (S "law_xm0266_01" 1714) (Rf 724))) .nil))) (n (fl (No) []) (n (tp [I 2 841,I 0 842]) (n (fn (st 77) "ends_flow" (S "framerune.ops" 505) (Rf 308)) (lf (co "thread_one" "thread_one" 1671 442 3 3 (Rf 560) (Bo true) (Rf 561) (Rf 562) (Rf 563) (Rf 564) 1680)) .nil) (n (fl (No) []) (lf (fl (No) [])) .nil)) (n (tp [I 1 1081,I 1 1082]) (n (tp [S "asms" 1389,S "entry" 1390,S "fields_" 1391,S "kt" 1392,S "methods" 1393,S "names" 1394,S "types" 1395]) (lf (fl (No) [])) .nil) (lf (tp [S "flags" 1583,S "out" 1584,S "count" 1585,S "one" 1586])))))) (n (tp [S "at" 242,S "code" 243]) (n (fl (Ty "super") [Rf 44,Rf 44,Rf 44]) (n (tp []) (n (fb (st 58) "may_stand") (n (tp [I 2 1173,I 1 1174]) (lf (co "keep_only" "keep_only" 1609 390 3 3 (Rf 520) (Bo true) (Rf 521) (Rf 522) (Rf 523) (Rf 524) 1620)) .nil) (n (tp []) (lf (fl (No) [])) .nil)) (n (tp [I 2 929,I 1 930]) (n (tp [S "ins" 1311,S "teller" 1312,S "op" 1313,S "taken" 1314]) (lf (fl (No) [])) .nil) (n (fb (st 94) "enter_depth") (lf (fl (No) [])) .nil))) (n (tp []) (n (tp [I 0 809,I 0 810]) (n (co "op_sort" "op_sort" 1273 183 1 3 (Rf 296) (Bo true) (Rf 297) (Rf 298) (Rf 299) (Rf 300) 1277) (lf (fb (st 108) "checked_goal")) .nil) (n (tp []) (lf (tp [])) .nil)) (n (tp [I 2 1053,I 0 1054]) (n (ob (Ty "frame") (none) [some (Rf 364),some (Rf 3),some (Rf 361),none,some (S "framerune.store" 1318),none,some (Rf 0)]) (lf (tp [])) .nil) (n (fl (No) []) (lf (fn (st 139) "law" (S "law_xm0266_01" 1714) (Rf 748))) .nil)))) (n (fl (Ty "builtin_function_or_method") [Bi "type.__prepare__",Ty "type"]) (n (fl (Ty "super") [Rf 90,Rf 90,Rf 90]) (n (fn (st 60) "is_var" (S "framerune.kinds" 284) (Rf 156)) (n (tp [I 0 1233,I 1 1234]) (lf (tp [S "clauses" 1641,S "i" 1642,S "out" 1643,S "place" 1644,S "clause" 1645])) .nil) (n (co "call_counts" "StoreTeller.call_counts" 1443 264 2 3 (Rf 408) (Bo true) (Rf 409) (Rf 410) (Rf 411) (Rf 412) 1451) (lf (co "_law_threads" "_law_threads" 1828 638 2 3 (Rf 664) (Bo true) (Rf 665) (Rf 666) (Rf 667) (Rf 668) 1833)) .nil)) (n (tp [I 1 989,I 1 990]) (n (fb (sm 84 0) "MethodDef.__init__") (lf (co "_law_call" "_law_call" 1735 488 1 3 (Rf 602) (Bo true) (Rf 603) (No) (No) (Rf 604) 1738)) .nil) (n (fn (st 96) "depth_after" (S "framerune.ilflow" 1420) (Rf 476)) (lf (tp [S "x" 1923,S "t" 1924,S "d" 1925,S "td" 1926,S "dt" 1927,S "want" 1928,S "teller" 1929,S "before" 1930,S "last" 1931])) .nil))) (n (tp [S "kt" 465,S "row" 466]) (n (tp [I 1 869,I 1 870]) (n (tp []) (lf (fn (st 110) "is_edge" (S "framerune.ilflow" 1420) (Rf 572))) .nil) (n (tp [S "code" 1489,S "clauses" 1490,S "count" 1491,S "at" 1492,S "clause" 1493,S "edge" 1494]) (lf (fb (st 131) "_law_pairs")) .nil)) (n (tp [I 1 1113,I 1 1114]) (n (fl (No) []) (lf (tp [S "t" 1798,S "w" 1799])) .nil) (lf (tp [])))))))
noncomputable def t8(P:Params):BT:=(n (boot_o_8 P) (n (fl (Ty "builtin_function_or_method") [Bi "type.__prepare__",Ty "type"]) (n (fl (Ty "getset_descriptor") [S "__weakref__" 245,Rf 31,Bi "ExceptionGroup.__weakref__",No]) (n (fl (No) [I 60 0,I 4 0,Rf 72,I 74 0,I 4 0,Rf 79,I 79 0,I 4 0,Rf 86]) (n (co "check_named" "check_named" 462 148 2 3 (Rf 123) (Bo true) (Rf 124) (Rf 125) (Rf 126) (Rf 127) 467) (n (dc (Ty "dict") [di 181 1124 (Rf 257),di 182 1128 (Rf 258),di 183 1132 (Rf 259),di 184 1136 (Rf 260),di 185 1140 (Rf 261),di 186 1144 (Rf 262),di 208 1148 (Rf 263),di 209 1152 (Rf 264),di 210 1156 (Rf 265),di 211 1160 (Rf 266),di 214 1164 (Rf 267),di 215 1168 (Rf 268),di 216 1172 (Rf 269),di 217 1176 (Rf 270),di 218 1180 (Rf 271),di 219 1184 (Rf 272),di 220 1188 (Rf 273)] 17) (lf (fn (st 101) "move_targets" (S "framerune.ilflow" 1420) (Rf 511))) .nil) (n (fb (st 86) "plain_names") (lf (co "_law_aim" "_law_aim" 1795 574 2 3 (Rf 635) (Bo true) (Rf 636) (Rf 637) (Rf 638) (Rf 639) 1800)) .nil)) (n (tp [I 1 881,I 1 882]) (n (tp []) (lf (tp [S "code" 1695,S "clauses" 1696,S "count" 1697])) .nil) (n (co "check_edges" "check_edges" 1486 286 2 3 (Rf 443) (Bo true) (Rf 444) (Rf 445) (Rf 446) (Rf 447) 1495) (lf (tp [])) .nil))) (n (fl (No) []) (n (dc (Ty "dict") [di 84 599 (I 0 507),di 85 601 (I 0 507),di 88 603 (I 0 507),di 89 605 (I 0 507),di 90 607 (I 0 507),di 91 609 (I 0 507),di 92 611 (I 0 507),di 93 613 (I 0 507),di 94 615 (I 0 507),di 95 617 (I 0 507),di 96 619 (I 0 507),di 97 621 (I 0 507),di 98 623 (I 0 507),di 99 625 (I 0 507),di 100 627 (I 0 507),di 101 629 (I 0 507),di 102 631 (I 0 507)] 17) (n (tp [I 0 1245,I 1 1246]) (lf (co "region_key" "region_key" 1638 417 2 3 (Rf 539) (Bo true) (Rf 540) (Rf 541) (Rf 542) (Rf 543) 1646)) .nil) (n (fl (No) []) (lf (fl (No) [])) .nil)) (n (tp [I 1 1001,I 1 1002]) (n (tp [S "access" 1348,S "body" 1349,S "flags" 1350,S "gbounds" 1351,S "gnames" 1352,S "mid" 1353,S "name" 1354,S "native" 1355,S "ngen" 1356,S "owner" 1357,S "params" 1358,S "pflags" 1359,S "pnames" 1360,S "ret" 1361]) (lf (fl (No) [])) .nil) (n (tp [S "code" 1546,S "clauses" 1547,S "teller" 1548,S "depths" 1549,S "work" 1550,S "most" 1551,S "i" 1552,S "after" 1553,S "goal" 1554]) (lf (co "_law_depths" "_law_depths" 1920 751 7 3 (Rf 731) (Bo true) (Rf 732) (Rf 733) (Rf 734) (Rf 735) 1932)) .nil)))) (n (fl (Ty "builtin_function_or_method") [Bi "type.__prepare__",Ty "type"]) (n (fn (sm 51 1) "KindTable.row" (S "framerune.kinds" 284) (Rf 79)) (n (tp []) (n (tp [I 2 1185,I 1 1186]) (lf (fl (No) [])) .nil) (n (ob (Ty "frame") (none) [some (Rf 399),some (Rf 3),some (Rf 396),none,some (S "framerune.ilflow" 1420),none,some (Rf 0)]) (lf (fb (st 124) "_law_goals")) .nil)) (n (tp [I 2 941,I 1 942]) (n (co "pops_pushes" "pops_pushes" 1308 203 2 3 (Rf 331) (Bo true) (Rf 332) (Rf 333) (Rf 334) (Rf 335) 1315) (lf (fb (st 114) "_law_store")) .nil) (n (tp []) (lf (fn (st 134) "_law_behind" (S "law_xm0266_01" 1714) (Rf 719))) .nil))) (n (tp []) (n (tp [I 2 821,I 0 822]) (n (fl (No) []) (lf (tp [])) .nil) (n (tp []) (lf (tp [])) .nil)) (n (tp [I 1 1061,I 1 1062]) (n (tp [S "self" 1385]) (lf (tp [])) .nil) (lf (fb (st 99) "reachable")))))) (n (tp [S "self" 236,S "code" 237,S "at" 238]) (n (co "BadCode" "BadCode" 254 23 0 0 (Rf 38) (Bo false) (Rf 39) (No) (No) (No) 257) (n (co "__init__" "KindTable.__init__" 385 60 1 3 (Rf 67) (Bo true) (Rf 68) (Rf 69) (Rf 70) (Rf 71) 391) (n (fn (st 57) "check_args" (S "framerune.kinds" 284) (Rf 135)) (n (tp [I 1 1153,I 1 1154]) (lf (tp [])) .nil) (n (co "is_static" "is_static" 1413 255 1 3 (Rf 387) (Bo true) (Rf 388) (Rf 389) (Rf 390) (Rf 391) 1417) (lf (fl (No) [])) .nil)) (n (tp [I 2 913,I 0 914]) (n (fb (st 80) "prefix_goal") (lf (tp [])) .nil) (n (fn (st 93) "successors" (S "framerune.ilflow" 1420) (Rf 455)) (lf (fl (No) [])) .nil))) (n (tp [S "sort" 441]) (n (tp [I 0 789,I 1 790]) (n (tp []) (lf (fn (st 107) "chain_end" (S "framerune.ilflow" 1420) (Rf 551))) .nil) (n (cl "StoreTeller" [Ty "object"] [Rf 424,Ty "object"] 423 "StoreTeller" (Ty "type") [none,none,some (S "StoreTeller" 1422),some (S "StoreTeller" 1430),some (Bi "object.__new__"),some (Bo true)]) (lf (tp [S "code" 1847,S "clauses" 1848,S "teller" 1849])) .nil)) (n (tp [I 1 1033,I 1 1034]) (n (fl (Ty "builtin_function_or_method") [Bi "type.__prepare__",Ty "type"]) (lf (tp [S "v" 1751,S "ret" 1752,S "k" 1753,S "t" 1754,S "number" 1755])) .nil) (n (tp []) (lf (fn (st 138) "_law_one_code" (S "law_xm0266_01" 1714) (Rf 743))) .nil)))) (n (cl "BadKind" [Rf 31] [Rf 56,Rf 31,Ty "Exception",Ty "BaseException",Ty "object"] 55 "BadKind" (Ty "type") [some (Rf 47),none,some (S "BadKind" 268),some (S "BadKind" 276),some (Bi "Exception.__new__"),some (Bo true)]) (n (tp [S "depths" 417,S "index" 418,S "opens" 419,S "rows" 420,S "weights" 421]) (n (fl (No) []) (n (tp [I 2 1213,I 1 1214]) (lf (fb (st 105) "drop_dead")) .nil) (n (tp []) (lf (tp [])) .nil)) (n (tp [I 1 973,I 1 974]) (n (ob (Ty "frame") (none) [some (Rf 343),some (Rf 3),some (Rf 340),none,some (S "framerune.store" 1318),none,some (Rf 0)]) (lf (co "_law_end" "_law_end" 1727 483 1 3 (Rf 595) (Bo true) (Rf 596) (Rf 597) (Rf 598) (Rf 599) 1732)) .nil) (n (fl (No) []) (lf (fb (st 136) "_law_closed")) .nil))) (n (fb (st 55) "check_kind_row") (n (dc (Ty "dict") [di 67 852 (Rf 185),di 68 856 (Rf 186),di 69 860 (Rf 187),di 70 864 (Rf 188),di 71 868 (Rf 189),di 72 872 (Rf 190),di 73 876 (Rf 191),di 74 880 (Rf 192),di 75 884 (Rf 193),di 76 888 (Rf 194),di 77 892 (Rf 195),di 80 896 (Rf 196),di 81 900 (Rf 197),di 82 904 (Rf 198),di 83 908 (Rf 199),di 84 912 (Rf 200),di 85 916 (Rf 201)] 17) (n (tp [S "op" 1290]) (lf (fl (No) [])) .nil) (n (fb (st 91) "clause_edges") (lf (fb (st 130) "_law_parts")) .nil)) (n (tp [I 1 1093,I 1 1094]) (n (fl (Ty "getset_descriptor") [S "__dict__" 1397,Rf 375,Bi "function.__dict__",Bi "function.__dict__#set"]) (lf (fb (st 120) "_law_units")) .nil) (lf (co "new_places" "new_places" 1580 367 1 3 (Rf 499) (Bo true) (Rf 500) (Rf 501) (Rf 502) (Rf 503) 1587)))))))
noncomputable def t12(P:Params):BT:=(n (fk 219) (n (co "RuneError" "RuneError" 223 18 0 0 (Rf 18) (Bo false) (Rf 19) (No) (No) (No) 226) (n (fl (Ty "builtin_function_or_method") [Bi "type.__prepare__",Ty "type"]) (n (fl (No) []) (n (tp [S "kt" 473,S "args" 474,S "arg" 475]) (n (tp [I 1 1137,I 1 1138]) (lf (tp [])) .nil) (n (fl (No) []) (lf (fb (st 122) "_law_aims")) .nil)) (n (tp [I 1 897,I 1 898]) (n (tp []) (lf (fn (st 111) "thread_in" (S "framerune.ilflow" 1420) (Rf 579))) .nil) (n (tp [S "code" 1501,S "i" 1502,S "count" 1503,S "out" 1504,S "goal" 1505]) (lf (fb (st 132) "_law_alike")) .nil))) (n (co "inner_kinds" "inner_kinds" 430 107 1 3 (Rf 95) (Bo true) (Rf 96) (Rf 97) (Rf 98) (Rf 99) 435) (n (dc (Ty "dict") [di 217 735 (I 0 507),di 218 737 (I 0 507),di 219 739 (I 0 507),di 220 741 (I 0 507),di 221 743 (I 5 517),di 223 745 (I 0 507),di 65025 747 (I 0 507),di 65026 749 (I 0 507),di 65027 751 (I 0 507),di 65028 753 (I 0 507),di 65029 755 (I 0 507),di 65030 757 (I 9 525),di 65031 759 (I 9 525),di 65033 761 (I 3 513),di 65034 763 (I 3 513),di 65035 765 (I 3 513),di 65036 767 (I 4 515)] 17) (n (dc (Ty "dict") [di 65046 1260 (Rf 293),di 65050 1263 (Rf 294),di 65054 1266 (Rf 295)] 3) (lf (tp [S "code" 1652,S "clauses" 1653,S "i" 1654,S "goal" 1655,S "key" 1656,S "seen" 1657,S "at" 1658])) .nil) (n (co "ret_count" "StoreTeller.ret_count" 1454 274 1 3 (Rf 415) (Bo true) (Rf 416) (Rf 417) (Rf 418) (Rf 419) 1458) (lf (co "_law_drops" "_law_drops" 1836 643 2 3 (Rf 671) (Bo true) (Rf 672) (Rf 673) (Rf 674) (Rf 675) 1841)) .nil)) (n (tp [I 1 1017,I 1 1018]) (n (fl (Ty "getset_descriptor") [S "__weakref__" 1365,Rf 354,Bi "ExceptionGroup.__weakref__",No]) (lf (co "_law_odd" "_law_odd" 1741 495 1 3 (Rf 607) (Bo true) (Rf 608) (Rf 609) (Rf 610) (Rf 611) 1745)) .nil) (n (fn (st 97) "max_stack" (S "framerune.ilflow" 1420) (Rf 483)) (lf (tp [S "code" 1938,S "td" 1939,S "dt" 1940,S "own" 1941,S "again" 1942])) .nil)))) (n (co "BadKind" "BadKind" 270 25 0 0 (Rf 50) (Bo false) (Rf 51) (No) (No) (No) 273) (n (tp []) (n (fb (st 59) "is_value") (n (tp [I 2 1197,I 0 1198]) (lf (co "clause_lives" "clause_lives" 1623 400 2 3 (Rf 527) (Bo true) (Rf 528) (Rf 529) (Rf 530) (Rf 531) 1629)) .nil) (n (tp []) (lf (fl (No) [])) .nil)) (n (tp [I 2 957,I 1 958]) (n (dc (Ty "dict") [ds P "__module__" 1329 (S "framerune.store" 1318),ds P "__qualname__" 1331 (S "MethodDef" 1330),ds P "__firstlineno__" 1333 (I 223 1332),ds P "__init__" 1347 (Rf 351),ds P "__static_attributes__" 1362 (Rf 352)] 5) (lf (fl (No) [])) .nil) (n (fb (st 95) "start_depths") (lf (co "_law_lean" "_law_lean" 1908 711 1 3 (Rf 721) (Bo true) (Rf 722) (No) (No) (Rf 723) 1911)) .nil))) (n (tp []) (n (tp [I 2 837,I 0 838]) (n (co "ends_flow" "ends_flow" 1280 185 1 3 (Rf 303) (Bo true) (Rf 304) (Rf 305) (Rf 306) (Rf 307) 1284) (lf (fb (st 109) "thread_one")) .nil) (n (tp []) (lf (tp [])) .nil)) (n (tp [I 1 1077,I 1 1078]) (n (fn (sm 85 0) "Store.__init__" (S "framerune.store" 1318) (Rf 371)) (lf (tp [])) .nil) (lf (fl (No) [])))))) (n (fn (sm 17 0) "RuneError.__init__" (S "framerune.faults" 219) (Rf 27)) (n (cl "BadCode" [Rf 31] [Rf 44,Rf 31,Ty "Exception",Ty "BaseException",Ty "object"] 43 "BadCode" (Ty "type") [some (Rf 35),none,some (S "BadCode" 252),some (S "BadCode" 260),some (Bi "Exception.__new__"),some (Bo true)]) (n (tp [S "self" 397,S "k" 398]) (n (tp []) (n (tp [I 2 1169,I 1 1170]) (lf (fb (st 103) "keep_only")) .nil) (n (dc (Ty "dict") [ds P "__module__" 1429 (S "framerune.ilflow" 1420),ds P "__qualname__" 1431 (S "StoreTeller" 1430),ds P "__firstlineno__" 1433 (I 258 1432),ds P "__init__" 1442 (Rf 407),ds P "call_counts" 1453 (Rf 414),ds P "ret_count" 1460 (Rf 421),ds P "__static_attributes__" 1463 (Rf 422)] 7) (lf (tp [])) .nil)) (n (tp [I 2 925,I 1 926]) (n (fl (No) []) (lf (tp [])) .nil) (n (tp []) (lf (tp [])) .nil))) (n (fn (st 53) "row_level" (S "framerune.kinds" 284) (Rf 107)) (n (tp [I 1 805,I 0 806]) (n (fb (st 76) "op_sort") (lf (tp [])) .nil) (n (fl (Ty "builtin_function_or_method") [Bi "object.__init_subclass__",Rf 424]) (lf (fn (st 128) "_law_depth" (S "law_xm0266_01" 1714) (Rf 683))) .nil)) (n (tp [I 1 1049,I 0 1050]) (n (co "Store" "Store" 1372 240 0 0 (Rf 362) (Bo false) (Rf 363) (No) (No) (No) 1375) (lf (fn (st 118) "_law_unit" (S "law_xm0266_01" 1714) (Rf 619))) .nil) (n (tp []) (lf (co "law" "law" 1946 771 1 3 (Rf 745) (Bo true) (Rf 746) (No) (No) (Rf 747) 1949)) .nil)))) (n (tp []) (n (fl (Ty "getset_descriptor") [S "__weakref__" 425,Rf 90,Bi "ExceptionGroup.__weakref__",No]) (n (co "is_var" "is_var" 496 165 2 3 (Rf 151) (Bo true) (Rf 152) (Rf 153) (Rf 154) (Rf 155) 502) (n (tp [I 0 1229,I 1 1230]) (lf (fl (No) [])) .nil) (n (fb (sm 89 1) "StoreTeller.call_counts") (lf (fb (st 126) "_law_threads")) .nil)) (n (dc (Ty "dict") [di 105 988 (Rf 221),di 106 992 (Rf 222),di 109 996 (Rf 223),di 110 1000 (Rf 224),di 113 1004 (Rf 225),di 114 1008 (Rf 226),di 116 1012 (Rf 227),di 117 1016 (Rf 228),di 121 1020 (Rf 229),di 122 1024 (Rf 230),di 123 1028 (Rf 231),di 124 1032 (Rf 232),di 125 1036 (Rf 233),di 126 1040 (Rf 234),di 127 1044 (Rf 235),di 128 1048 (Rf 236),di 129 1052 (Rf 237)] 17) (n (tp []) (lf (fb (st 116) "_law_call")) .nil) (n (co "depth_after" "depth_after" 1531 324 4 3 (Rf 471) (Bo true) (Rf 472) (Rf 473) (Rf 474) (Rf 475) 1540) (lf (fl (No) [])) .nil))) (n (fl (No) []) (n (tp [I 1 865,I 1 866]) (n (fn (st 78) "is_branch" (S "framerune.ops" 505) (Rf 315)) (lf (co "is_edge" "is_edge" 1683 454 2 3 (Rf 567) (Bo true) (Rf 568) (Rf 569) (Rf 570) (Rf 571) 1689)) .nil) (n (fl (No) []) (lf (fl (No) [])) .nil)) (n (tp [I 3 1109,I 0 1110]) (n (tp []) (lf (fl (No) [])) .nil) (lf (tp [S "ins" 1593,S "places" 1594,S "out" 1595,S "goal" 1596])))))))
noncomputable def t10(P:Params):BT:=(n (boot_o_10 P) (n (tp []) (n (fl (Ty "builtin_function_or_method") [Bi "object.__init_subclass__",Rf 31]) (n (ob (Ty "frame") (none) [some (Rf 65),some (Rf 3),some (Rf 62),none,some (S "framerune.kinds" 284),none,some (Rf 0)]) (n (tp []) (n (tp [I 1 1129,I 1 1130]) (lf (fl (No) [])) .nil) (n (fn (st 86) "plain_names" (S "framerune.store" 1318) (Rf 385)) (lf (tp [])) .nil)) (n (tp [I 1 889,I 1 890]) (n (co "targets" "targets" 1294 191 1 3 (Rf 317) (Bo true) (Rf 318) (Rf 319) (Rf 320) (Rf 321) 1298) (lf (fb (st 111) "thread_in")) .nil) (n (tp []) (lf (tp [S "a" 1886,S "b" 1887,S "todo" 1888,S "seen" 1889,S "x" 1890,S "y" 1891,S "more" 1892])) .nil))) (n (tp []) (n (dc (Ty "dict") [di 126 667 (I 8 523),di 127 669 (I 8 523),di 128 671 (I 8 523),di 129 673 (I 7 521),di 130 675 (I 0 507),di 131 677 (I 0 507),di 132 679 (I 0 507),di 133 681 (I 0 507),di 134 683 (I 0 507),di 135 685 (I 0 507),di 136 687 (I 0 507),di 137 689 (I 0 507),di 140 691 (I 7 521),di 141 693 (I 7 521),di 142 695 (I 0 507),di 143 697 (I 7 521),di 163 699 (I 7 521)] 17) (n (tp [I 1 1253,I 0 1254]) (lf (tp [])) .nil) (n (tp []) (lf (tp [])) .nil)) (n (tp [I 0 1009,I 1 1010]) (n (cl "MethodDef" [Ty "object"] [Rf 354,Ty "object"] 353 "MethodDef" (Ty "type") [none,none,some (S "MethodDef" 1322),some (S "MethodDef" 1330),some (Bi "object.__new__"),some (Bo true)]) (lf (tp [])) .nil) (n (fb (st 97) "max_stack") (lf (tp [])) .nil)))) (n (tp []) (n (fl (No) []) (n (tp [S "kt" 491,S "k" 492]) (n (dc (Ty "dict") [di 221 1192 (Rf 275),di 223 1196 (Rf 276),di 65025 1200 (Rf 277),di 65026 1204 (Rf 278),di 65027 1208 (Rf 279),di 65028 1212 (Rf 280),di 65029 1216 (Rf 281),di 65030 1220 (Rf 282),di 65031 1224 (Rf 283),di 65033 1228 (Rf 284),di 65034 1232 (Rf 285),di 65035 1236 (Rf 286),di 65036 1240 (Rf 287),di 65037 1244 (Rf 288),di 65038 1248 (Rf 289),di 65041 1252 (Rf 290),di 65045 1256 (Rf 291)] 17) (lf (tp [])) .nil) (n (fl (No) []) (lf (fn (st 124) "_law_goals" (S "law_xm0266_01" 1714) (Rf 657))) .nil)) (n (tp [I 2 949,I 1 950]) (n (tp []) (lf (fn (st 114) "_law_store" (S "law_xm0266_01" 1714) (Rf 593))) .nil) (n (tp [S "code" 1522,S "clauses" 1523,S "depths" 1524,S "work" 1525,S "clause" 1526,S "depth" 1527]) (lf (fl (No) [])) .nil))) (n (co "row_length" "row_length" 445 120 1 3 (Rf 109) (Bo true) (Rf 110) (Rf 111) (Rf 112) (Rf 113) 449) (n (tp [I 2 829,I 0 830]) (n (tp []) (lf (tp [S "code" 1674,S "clauses" 1675,S "i" 1676,S "ins" 1677,S "out" 1678,S "goal" 1679])) .nil) (n (co "stored_method" "stored_method" 1471 278 2 3 (Rf 429) (Bo true) (Rf 430) (Rf 431) (Rf 432) (Rf 433) 1476) (lf (co "_law_settle" "_law_settle" 1853 653 2 3 (Rf 685) (Bo true) (Rf 686) (Rf 687) (Rf 688) (Rf 689) 1859)) .nil)) (n (tp [I 1 1069,I 1 1070]) (n (fb (sm 85 0) "Store.__init__") (lf (co "_law_handler" "_law_handler" 1759 530 4 3 (Rf 621) (Bo true) (Rf 622) (Rf 623) (Rf 624) (Rf 625) 1770)) .nil) (lf (fn (st 99) "reachable" (S "framerune.ilflow" 1420) (Rf 497))))))) (n (fb (sm 17 0) "RuneError.__init__") (n (tp []) (n (tp []) (n (fl (No) []) (n (tp [I 1 1161,I 1 1162]) (lf (tp [S "code" 1612,S "clauses" 1613,S "kept" 1614,S "places" 1615,S "out" 1616,S "i" 1617,S "edges" 1618,S "clause" 1619])) .nil) (n (tp []) (lf (co "_law_lay" "_law_lay" 1809 586 1 3 (Rf 647) (Bo true) (Rf 648) (No) (No) (Rf 649) 1812)) .nil)) (n (dc (Ty "dict") [di 88 920 (Rf 203),di 89 924 (Rf 204),di 90 928 (Rf 205),di 91 932 (Rf 206),di 92 936 (Rf 207),di 93 940 (Rf 208),di 94 944 (Rf 209),di 95 948 (Rf 210),di 96 952 (Rf 211),di 97 956 (Rf 212),di 98 960 (Rf 213),di 99 964 (Rf 214),di 100 968 (Rf 215),di 101 972 (Rf 216),di 102 976 (Rf 217),di 103 980 (Rf 218),di 104 984 (Rf 219)] 17) (n (fn (st 80) "prefix_goal" (S "framerune.ops" 505) (Rf 329)) (lf (co "thread_round" "thread_round" 1701 466 2 3 (Rf 581) (Bo true) (Rf 582) (Rf 583) (Rf 584) (Rf 585) 1711)) .nil) (n (fl (No) []) (lf (co "_law_lives" "_law_lives" 1896 707 2 3 (Rf 711) (Bo true) (Rf 712) (No) (No) (Rf 713) 1899)) .nil))) (n (fb (st 53) "row_level") (n (tp [I 0 797,I 1 798]) (n (tp [S "op" 1276]) (lf (fl (No) [])) .nil) (n (fl (Ty "getset_descriptor") [S "__weakref__" 1466,Rf 424,Bi "ExceptionGroup.__weakref__",No]) (lf (fb (st 128) "_law_depth")) .nil)) (n (tp [I 0 1041,I 1 1042]) (n (tp []) (lf (fb (st 118) "_law_unit")) .nil) (n (co "reach_one" "reach_one" 1558 349 3 3 (Rf 485) (Bo true) (Rf 486) (Rf 487) (Rf 488) (Rf 489) 1564) (lf (fl (No) [])) .nil)))) (n (fl (Ty "builtin_function_or_method") [Bi "object.__init_subclass__",Rf 56]) (n (cl "KindTable" [Ty "object"] [Rf 90,Ty "object"] 89 "KindTable" (Ty "type") [none,none,some (S "KindTable" 373),some (S "KindTable" 381),some (Bi "object.__new__"),some (Bo true)]) (n (tp []) (n (tp [I 0 1221,I 1 1222]) (lf (fn (st 105) "drop_dead" (S "framerune.ilflow" 1420) (Rf 537))) .nil) (n (tp [S "self" 1446,S "mref" 1447,S "m" 1448,S "taken" 1449,S "given" 1450]) (lf (tp [S "code" 1831,S "clauses" 1832])) .nil)) (n (tp [I 1 981,I 1 982]) (n (fl (No) []) (lf (tp [])) .nil) (n (tp []) (lf (fn (st 136) "_law_closed" (S "law_xm0266_01" 1714) (Rf 729))) .nil))) (n (fn (st 55) "check_kind_row" (S "framerune.kinds" 284) (Rf 121)) (n (tp [I 2 857,I 0 858]) (n (fb (st 78) "is_branch") (lf (tp [])) .nil) (n (fn (st 91) "clause_edges" (S "framerune.ilflow" 1420) (Rf 441)) (lf (fn (st 130) "_law_parts" (S "law_xm0266_01" 1714) (Rf 697))) .nil)) (n (tp [I 2 1101,I 1 1102]) (n (fl (Ty "super") [Rf 375,Rf 375,Rf 375]) (lf (fn (st 120) "_law_units" (S "law_xm0266_01" 1714) (Rf 633))) .nil) (lf (tp [])))))))
noncomputable def t14(P:Params):BT:=(n (ob (Ty "frame") (none) [some (Rf 13),some (Rf 3),some (Rf 3),none,some (S "__main__" 164),none,some (Rf 0)]) (n (tp []) (n (tp []) (n (tp []) (n (fb (st 57) "check_args") (n (tp [I 1 1145,I 1 1146]) (lf (co "move_clause" "move_clause" 1600 385 2 3 (Rf 513) (Bo true) (Rf 514) (Rf 515) (Rf 516) (Rf 517) 1606)) .nil) (n (tp []) (lf (fn (st 122) "_law_aims" (S "law_xm0266_01" 1714) (Rf 645))) .nil)) (n (tp [I 2 905,I 0 906]) (n (tp [S "op" 1304]) (lf (fl (No) [])) .nil) (n (fb (st 93) "successors") (lf (fn (st 132) "_law_alike" (S "law_xm0266_01" 1714) (Rf 709))) .nil))) (n (tp []) (n (dc (Ty "dict") [di 0 784 (Rf 167),di 20 788 (Rf 168),di 32 792 (Rf 169),di 33 796 (Rf 170),di 37 800 (Rf 171),di 38 804 (Rf 172),di 56 808 (Rf 173),di 57 812 (Rf 174),di 58 816 (Rf 175),di 59 820 (Rf 176),di 60 824 (Rf 177),di 61 828 (Rf 178),di 62 832 (Rf 179),di 63 836 (Rf 180),di 64 840 (Rf 181),di 65 844 (Rf 182),di 66 848 (Rf 183),di 67 852 (Rf 185),di 68 856 (Rf 186),di 69 860 (Rf 187),di 70 864 (Rf 188),di 71 868 (Rf 189),di 72 872 (Rf 190),di 73 876 (Rf 191),di 74 880 (Rf 192),di 75 884 (Rf 193),di 76 888 (Rf 194),di 77 892 (Rf 195),di 80 896 (Rf 196),di 81 900 (Rf 197),di 82 904 (Rf 198),di 83 908 (Rf 199),di 84 912 (Rf 200),di 85 916 (Rf 201),di 88 920 (Rf 203),di 89 924 (Rf 204),di 90 928 (Rf 205),di 91 932 (Rf 206),di 92 936 (Rf 207),di 93 940 (Rf 208),di 94 944 (Rf 209),di 95 948 (Rf 210),di 96 952 (Rf 211),di 97 956 (Rf 212),di 98 960 (Rf 213),di 99 964 (Rf 214),di 100 968 (Rf 215),di 101 972 (Rf 216),di 102 976 (Rf 217),di 103 980 (Rf 218),di 104 984 (Rf 219),di 105 988 (Rf 221),di 106 992 (Rf 222),di 109 996 (Rf 223),di 110 1000 (Rf 224),di 113 1004 (Rf 225),di 114 1008 (Rf 226),di 116 1012 (Rf 227),di 117 1016 (Rf 228),di 121 1020 (Rf 229),di 122 1024 (Rf 230),di 123 1028 (Rf 231),di 124 1032 (Rf 232),di 125 1036 (Rf 233),di 126 1040 (Rf 234),di 127 1044 (Rf 235),di 128 1048 (Rf 236),di 129 1052 (Rf 237),di 130 1056 (Rf 239),di 131 1060 (Rf 240),di 132 1064 (Rf 241),di 133 1068 (Rf 242),di 134 1072 (Rf 243),di 135 1076 (Rf 244),di 136 1080 (Rf 245),di 137 1084 (Rf 246),di 140 1088 (Rf 247),di 141 1092 (Rf 248),di 142 1096 (Rf 249),di 143 1100 (Rf 250),di 163 1104 (Rf 251),di 164 1108 (Rf 252),di 165 1112 (Rf 253),di 179 1116 (Rf 254),di 180 1120 (Rf 255),di 181 1124 (Rf 257),di 182 1128 (Rf 258),di 183 1132 (Rf 259),di 184 1136 (Rf 260),di 185 1140 (Rf 261),di 186 1144 (Rf 262),di 208 1148 (Rf 263),di 209 1152 (Rf 264),di 210 1156 (Rf 265),di 211 1160 (Rf 266),di 214 1164 (Rf 267),di 215 1168 (Rf 268),di 216 1172 (Rf 269),di 217 1176 (Rf 270),di 218 1180 (Rf 271),di 219 1184 (Rf 272),di 220 1188 (Rf 273),di 221 1192 (Rf 275),di 223 1196 (Rf 276),di 65025 1200 (Rf 277),di 65026 1204 (Rf 278),di 65027 1208 (Rf 279),di 65028 1212 (Rf 280),di 65029 1216 (Rf 281),di 65030 1220 (Rf 282),di 65031 1224 (Rf 283),di 65033 1228 (Rf 284),di 65034 1232 (Rf 285),di 65035 1236 (Rf 286),di 65036 1240 (Rf 287),di 65037 1244 (Rf 288),di 65038 1248 (Rf 289),di 65041 1252 (Rf 290),di 65045 1256 (Rf 291),di 65046 1260 (Rf 293),di 65050 1263 (Rf 294),di 65054 1266 (Rf 295)] 122) (n (tp [I 0 1264,I 0 1265]) (lf (fb (st 107) "chain_end")) .nil) (n (tp [S "mid" 1461,S "store" 1462]) (lf (tp [])) .nil)) (n (tp [I 1 1025,I 0 1026]) (n (fl (Ty "builtin_function_or_method") [Bi "object.__init_subclass__",Rf 354]) (lf (tp [])) .nil) (n (fl (No) []) (lf (fb (st 138) "_law_one_code")) .nil)))) (n (tp []) (n (co "put" "KindTable.put" 402 79 2 3 (Rf 81) (Bo true) (Rf 82) (Rf 83) (Rf 84) (Rf 85) 414) (n (fn (st 59) "is_value" (S "framerune.kinds" 284) (Rf 149)) (n (tp [I 2 1205,I 1 1206]) (lf (tp [])) .nil) (n (co "__init__" "StoreTeller.__init__" 1434 260 3 3 (Rf 401) (Bo true) (Rf 402) (Rf 403) (Rf 404) (Rf 405) 1440) (lf (co "_law_inside" "_law_inside" 1822 623 1 3 (Rf 659) (Bo true) (Rf 660) (No) (No) (Rf 661) 1825)) .nil)) (n (tp [I 2 965,I 1 966]) (n (fl (No) [I 225 0,I 4 0,Rf 350]) (lf (tp [])) .nil) (n (fn (st 95) "start_depths" (S "framerune.ilflow" 1420) (Rf 469)) (lf (tp [])) .nil))) (n (tp [S "kt" 455,S "row" 456,S "sort" 457,S "inner" 458]) (n (tp [I 2 845,I 0 846]) (n (tp []) (lf (fn (st 109) "thread_one" (S "framerune.ilflow" 1420) (Rf 565))) .nil) (n (tp [S "clause" 1482]) (lf (tp [S "clause" 1865,S "i" 1866,S "sort" 1867,S "t0" 1868,S "t1" 1869,S "h0" 1870,S "h1" 1871,S "extra" 1872,S "told" 1873])) .nil)) (n (tp [I 1 1085,I 1 1086]) (n (dc (Ty "dict") [ds P "__module__" 1377 (S "framerune.store" 1318),ds P "__firstlineno__" 1381 (I 240 1380),ds P "__init__" 1388 (Rf 372),ds P "__static_attributes__" 1396 (Rf 373),ds P "__dict__" 1398 (Rf 376),ds P "__weakref__" 1400 (Rf 377),ds P "__doc__" 1401 (No)] 4) (lf (tp [S "numbers" 1776,S "q" 1777,S "ret" 1778,S "count" 1779,S "w" 1780,S "rows" 1781,S "v" 1782,S "mains" 1783,S "j" 1784,S "z" 1785,S "t0" 1786,S "t1" 1787,S "sort" 1788,S "first" 1789,S "begin" 1790,S "end" 1791])) .nil) (lf (tp [])))))) (n (dc (Ty "dict") [ds P "__module__" 228 (S "framerune.faults" 219),ds P "__firstlineno__" 232 (I 18 231),ds P "__init__" 241 (Rf 28),ds P "__static_attributes__" 244 (Rf 29),ds P "__weakref__" 246 (Rf 32),ds P "__doc__" 247 (No)] 3) (n (fl (Ty "builtin_function_or_method") [Bi "object.__init_subclass__",Rf 44]) (n (fb (sm 51 1) "KindTable.row") (n (co "may_stand" "may_stand" 479 156 2 3 (Rf 137) (Bo true) (Rf 138) (Rf 139) (Rf 140) (Rf 141) 485) (n (tp [I 2 1177,I 1 1178]) (lf (fn (st 103) "keep_only" (S "framerune.ilflow" 1420) (Rf 525))) .nil) (n (fl (No) [I 260 0,I 4 0,Rf 406,I 264 0,I 4 0,Rf 413,I 274 0,I 4 0,Rf 420]) (lf (tp [S "row" 1818])) .nil)) (n (tp [I 2 933,I 1 934]) (n (tp []) (lf (tp [S "store" 1719,S "rows" 1720,S "flags" 1721,S "ret" 1722,S "params" 1723])) .nil) (n (co "enter_depth" "enter_depth" 1509 306 4 3 (Rf 457) (Bo true) (Rf 458) (Rf 459) (Rf 460) (Rf 461) 1516) (lf (fb (st 134) "_law_behind")) .nil))) (n (fl (No) []) (n (tp [I 1 813,I 0 814]) (n (fn (st 76) "op_sort" (S "framerune.ops" 505) (Rf 301)) (lf (co "checked_goal" "checked_goal" 1662 438 3 3 (Rf 553) (Bo true) (Rf 554) (Rf 555) (Rf 556) (Rf 557) 1668)) .nil) (n (fl (No) []) (lf (fl (No) [])) .nil)) (n (dc (Ty "dict") [di 130 1056 (Rf 239),di 131 1060 (Rf 240),di 132 1064 (Rf 241),di 133 1068 (Rf 242),di 134 1072 (Rf 243),di 135 1076 (Rf 244),di 136 1080 (Rf 245),di 137 1084 (Rf 246),di 140 1088 (Rf 247),di 141 1092 (Rf 248),di 142 1096 (Rf 249),di 143 1100 (Rf 250),di 163 1104 (Rf 251),di 164 1108 (Rf 252),di 165 1112 (Rf 253),di 179 1116 (Rf 254),di 180 1120 (Rf 255)] 17) (n (tp []) (lf (fl (No) [])) .nil) (lf (tp [S "code" 1570,S "clauses" 1571,S "seen" 1572,S "work" 1573,S "i" 1574,S "goal" 1575,S "clause" 1576]))))) (n (dc (Ty "dict") [ds P "__module__" 380 (S "framerune.kinds" 284),ds P "__qualname__" 382 (S "KindTable" 381),ds P "__firstlineno__" 384 (I 58 383),ds P "__init__" 393 (Rf 73),ds P "row" 401 (Rf 80),ds P "put" 416 (Rf 87),ds P "__static_attributes__" 422 (Rf 88)] 7) (n (fl (Ty "builtin_function_or_method") [Bi "object.__init_subclass__",Rf 90]) (n (dc (Ty "dict") [di 0 531 (I 0 507),di 20 533 (I 0 507),di 32 535 (I 1 509),di 33 537 (I 2 511),di 37 539 (I 0 507),di 38 541 (I 0 507),di 40 543 (I 9 525),di 42 545 (I 0 507),di 56 547 (I 5 517),di 57 549 (I 5 517),di 58 551 (I 5 517),di 59 553 (I 5 517),di 60 555 (I 5 517),di 61 557 (I 5 517),di 62 559 (I 5 517),di 63 561 (I 5 517),di 64 563 (I 5 517),di 65 565 (I 5 517),di 66 567 (I 5 517),di 67 569 (I 5 517),di 68 571 (I 5 517),di 69 573 (I 6 519),di 70 575 (I 0 507),di 71 577 (I 0 507),di 72 579 (I 0 507),di 73 581 (I 0 507),di 74 583 (I 0 507),di 75 585 (I 0 507),di 76 587 (I 0 507),di 77 589 (I 0 507),di 80 591 (I 0 507),di 81 593 (I 0 507),di 82 595 (I 0 507),di 83 597 (I 0 507),di 84 599 (I 0 507),di 85 601 (I 0 507),di 88 603 (I 0 507),di 89 605 (I 0 507),di 90 607 (I 0 507),di 91 609 (I 0 507),di 92 611 (I 0 507),di 93 613 (I 0 507),di 94 615 (I 0 507),di 95 617 (I 0 507),di 96 619 (I 0 507),di 97 621 (I 0 507),di 98 623 (I 0 507),di 99 625 (I 0 507),di 100 627 (I 0 507),di 101 629 (I 0 507),di 102 631 (I 0 507),di 103 633 (I 0 507),di 104 635 (I 0 507),di 105 637 (I 0 507),di 106 639 (I 0 507),di 109 641 (I 0 507),di 110 643 (I 0 507),di 111 645 (I 9 525),di 113 647 (I 7 521),di 114 649 (I 10 527),di 115 651 (I 9 525),di 116 653 (I 7 521),di 117 655 (I 7 521),di 121 657 (I 7 521),di 122 659 (I 0 507),di 123 661 (I 8 523),di 124 663 (I 8 523),di 125 665 (I 8 523),di 126 667 (I 8 523),di 127 669 (I 8 523),di 128 671 (I 8 523),di 129 673 (I 7 521),di 130 675 (I 0 507),di 131 677 (I 0 507),di 132 679 (I 0 507),di 133 681 (I 0 507),di 134 683 (I 0 507),di 135 685 (I 0 507),di 136 687 (I 0 507),di 137 689 (I 0 507),di 140 691 (I 7 521),di 141 693 (I 7 521),di 142 695 (I 0 507),di 143 697 (I 7 521),di 163 699 (I 7 521),di 164 701 (I 7 521),di 165 703 (I 7 521),di 179 705 (I 0 507),di 180 707 (I 0 507),di 181 709 (I 0 507),di 182 711 (I 0 507),di 183 713 (I 0 507),di 184 715 (I 0 507),di 185 717 (I 0 507),di 186 719 (I 0 507),di 208 721 (I 11 529),di 209 723 (I 0 507),di 210 725 (I 0 507),di 211 727 (I 0 507),di 214 729 (I 0 507),di 215 731 (I 0 507),di 216 733 (I 0 507),di 217 735 (I 0 507),di 218 737 (I 0 507),di 219 739 (I 0 507),di 220 741 (I 0 507),di 221 743 (I 5 517),di 223 745 (I 0 507),di 65025 747 (I 0 507),di 65026 749 (I 0 507),di 65027 751 (I 0 507),di 65028 753 (I 0 507),di 65029 755 (I 0 507),di 65030 757 (I 9 525),di 65031 759 (I 9 525),di 65033 761 (I 3 513),di 65034 763 (I 3 513),di 65035 765 (I 3 513),di 65036 767 (I 4 515),di 65037 769 (I 4 515),di 65038 770 (I 4 515),di 65041 771 (I 0 507),di 65045 772 (I 7 521),di 65046 773 (I 7 521),di 65050 774 (I 0 507),di 65054 775 (I 0 507)] 126) (n (tp [I 1 1237,I 0 1238]) (lf (tp [])) .nil) (n (fn (sm 89 1) "StoreTeller.call_counts" (S "framerune.ilflow" 1420) (Rf 413)) (lf (fn (st 126) "_law_threads" (S "law_xm0266_01" 1714) (Rf 669))) .nil)) (n (tp [I 1 993,I 1 994]) (n (co "__init__" "MethodDef.__init__" 1334 225 8 3 (Rf 345) (Bo true) (Rf 346) (Rf 347) (Rf 348) (Rf 349) 1345) (lf (fn (st 116) "_law_call" (S "law_xm0266_01" 1714) (Rf 605))) .nil) (n (tp []) (lf (tp [])) .nil))) (n (tp []) (n (tp [I 1 873,I 1 874]) (n (fl (No) []) (lf (tp [])) .nil) (n (tp []) (lf (co "_law_pairs" "_law_pairs" 1877 665 4 3 (Rf 699) (Bo true) (Rf 700) (No) (No) (Rf 701) 1880)) .nil)) (n (tp [I 1 1117,I 1 1118]) (n (tp [S "count" 1407,S "out" 1408,S "place" 1409]) (lf (tp [])) .nil) (lf (fb (st 101) "move_targets")))))))
noncomputable def T(P:Params):BT:=(n (boot_o_0 P) (n (boot_o_1 P) (n (md P (S "law_xm0266_01" 1714) 142 143) (t7 P) (t11 P)) (n (boot_o_5 P) (t9 P) (t13 P))) (n (dc (No) [ds P "type.__subclasses__.Exception.0" 248 (I 31 0),ds P "type.__subclasses__.Exception.n" 249 (I 1 0)] 2) (n (boot_o_4 P) (t8 P) (t12 P)) (n (boot_o_6 P) (t10 P) (t14 P))))
noncomputable def cut:Nat→BT→BT
 |_,.nil=>.nil
 |k,.node v l r=>match Nat.beq k 0 with
  |true=>.nil
  |false=>.node v (cut (k/2) l) (cut ((k - 1)/2) r)
noncomputable def oa(P:Params)(i:Nat):Obj:=match(T P).get i with
 |some o=>o
 |none=>tp []
noncomputable def H₁(P:Params):Heap:=⟨⟨[oa P 0,oa P 1,oa P 2,oa P 3,oa P 4,oa P 5,oa P 6,oa P 7,oa P 8,oa P 9,oa P 10,oa P 11,oa P 12,oa P 13,oa P 14,oa P 15,oa P 16,oa P 17,oa P 18,oa P 19,oa P 20,oa P 21,oa P 22,oa P 23,oa P 24,oa P 25,oa P 26,oa P 27,oa P 28,oa P 29,oa P 30,oa P 31,oa P 32,oa P 33,oa P 34,oa P 35,oa P 36,oa P 37,oa P 38,oa P 39,oa P 40,oa P 41,oa P 42,oa P 43,oa P 44,oa P 45,oa P 46,oa P 47,oa P 48,oa P 49,oa P 50,oa P 51,oa P 52,oa P 53,oa P 54,oa P 55,oa P 56,oa P 57,oa P 58,oa P 59,oa P 60,oa P 61,oa P 62,oa P 63,oa P 64,oa P 65,oa P 66,oa P 67,oa P 68,oa P 69,oa P 70,oa P 71,oa P 72,oa P 73,oa P 74,oa P 75,oa P 76,oa P 77,oa P 78,oa P 79,oa P 80,oa P 81,oa P 82,oa P 83,oa P 84,oa P 85,oa P 86,oa P 87,oa P 88,oa P 89,oa P 90,oa P 91,oa P 92,oa P 93,oa P 94,oa P 95,oa P 96,oa P 97,oa P 98,oa P 99,oa P 100,oa P 101,oa P 102,oa P 103,oa P 104,oa P 105,oa P 106,oa P 107,oa P 108,oa P 109,oa P 110,oa P 111,oa P 112,oa P 113,oa P 114,oa P 115,oa P 116,oa P 117,oa P 118,oa P 119,oa P 120,oa P 121,oa P 122,oa P 123,oa P 124,oa P 125,oa P 126,oa P 127,oa P 128,oa P 129,oa P 130,oa P 131,oa P 132,oa P 133,oa P 134,oa P 135,oa P 136,oa P 137,oa P 138,oa P 139,oa P 140,oa P 141,oa P 142,oa P 143,oa P 144,oa P 145,oa P 146,oa P 147,oa P 148,oa P 149,oa P 150,oa P 151,oa P 152,oa P 153,oa P 154,oa P 155,oa P 156,oa P 157,oa P 158,oa P 159,oa P 160,oa P 161,oa P 162,oa P 163,oa P 164,oa P 165,oa P 166,oa P 167,oa P 168,oa P 169,oa P 170,oa P 171,oa P 172,oa P 173,oa P 174,oa P 175,oa P 176,oa P 177,oa P 178,oa P 179,oa P 180,oa P 181,oa P 182,oa P 183,oa P 184,oa P 185,oa P 186,oa P 187,oa P 188,oa P 189,oa P 190,oa P 191,oa P 192,oa P 193,oa P 194,oa P 195,oa P 196,oa P 197,oa P 198,oa P 199,oa P 200,oa P 201,oa P 202,oa P 203,oa P 204,oa P 205,oa P 206,oa P 207,oa P 208,oa P 209,oa P 210,oa P 211,oa P 212,oa P 213,oa P 214,oa P 215,oa P 216,oa P 217,oa P 218,oa P 219,oa P 220,oa P 221,oa P 222,oa P 223,oa P 224,oa P 225,oa P 226,oa P 227,oa P 228,oa P 229,oa P 230,oa P 231,oa P 232,oa P 233,oa P 234,oa P 235,oa P 236,oa P 237,oa P 238,oa P 239,oa P 240,oa P 241,oa P 242,oa P 243,oa P 244,oa P 245,oa P 246,oa P 247,oa P 248,oa P 249,oa P 250,oa P 251,oa P 252,oa P 253,oa P 254,oa P 255,oa P 256,oa P 257,oa P 258,oa P 259,oa P 260,oa P 261,oa P 262,oa P 263,oa P 264,oa P 265,oa P 266,oa P 267,oa P 268,oa P 269,oa P 270,oa P 271,oa P 272,oa P 273,oa P 274,oa P 275,oa P 276,oa P 277,oa P 278,oa P 279,oa P 280,oa P 281,oa P 282,oa P 283,oa P 284,oa P 285,oa P 286,oa P 287,oa P 288,oa P 289,oa P 290,oa P 291,oa P 292,oa P 293,oa P 294,oa P 295,oa P 296,oa P 297,oa P 298,oa P 299,oa P 300,oa P 301,oa P 302,oa P 303,oa P 304,oa P 305,oa P 306,oa P 307,oa P 308,oa P 309,oa P 310,oa P 311,oa P 312,oa P 313,oa P 314,oa P 315,oa P 316,oa P 317,oa P 318,oa P 319,oa P 320,oa P 321,oa P 322,oa P 323,oa P 324,oa P 325,oa P 326,oa P 327,oa P 328,oa P 329,oa P 330,oa P 331,oa P 332,oa P 333,oa P 334,oa P 335,oa P 336,oa P 337,oa P 338,oa P 339,oa P 340,oa P 341,oa P 342,oa P 343,oa P 344,oa P 345,oa P 346,oa P 347,oa P 348,oa P 349,oa P 350,oa P 351,oa P 352,oa P 353,oa P 354,oa P 355,oa P 356,oa P 357,oa P 358,oa P 359,oa P 360,oa P 361,oa P 362,oa P 363,oa P 364,oa P 365,oa P 366,oa P 367,oa P 368,oa P 369,oa P 370,oa P 371,oa P 372,oa P 373,oa P 374,oa P 375,oa P 376,oa P 377,oa P 378,oa P 379,oa P 380,oa P 381,oa P 382,oa P 383,oa P 384,oa P 385,oa P 386,oa P 387,oa P 388,oa P 389,oa P 390,oa P 391,oa P 392,oa P 393,oa P 394,oa P 395,oa P 396,oa P 397,oa P 398,oa P 399,oa P 400,oa P 401,oa P 402,oa P 403,oa P 404,oa P 405,oa P 406,oa P 407,oa P 408,oa P 409,oa P 410,oa P 411,oa P 412,oa P 413,oa P 414,oa P 415,oa P 416,oa P 417,oa P 418,oa P 419,oa P 420,oa P 421,oa P 422,oa P 423,oa P 424,oa P 425,oa P 426,oa P 427,oa P 428,oa P 429,oa P 430,oa P 431,oa P 432,oa P 433,oa P 434,oa P 435,oa P 436,oa P 437,oa P 438,oa P 439,oa P 440,oa P 441,oa P 442,oa P 443,oa P 444,oa P 445,oa P 446,oa P 447,oa P 448,oa P 449,oa P 450,oa P 451,oa P 452,oa P 453,oa P 454,oa P 455,oa P 456,oa P 457,oa P 458,oa P 459,oa P 460,oa P 461,oa P 462,oa P 463,oa P 464,oa P 465,oa P 466,oa P 467,oa P 468,oa P 469,oa P 470,oa P 471,oa P 472,oa P 473,oa P 474,oa P 475,oa P 476,oa P 477,oa P 478,oa P 479,oa P 480,oa P 481,oa P 482,oa P 483,oa P 484,oa P 485,oa P 486,oa P 487,oa P 488,oa P 489,oa P 490,oa P 491,oa P 492,oa P 493,oa P 494,oa P 495,oa P 496,oa P 497,oa P 498,oa P 499,oa P 500,oa P 501,oa P 502,oa P 503,oa P 504,oa P 505,oa P 506,oa P 507,oa P 508,oa P 509,oa P 510,oa P 511,oa P 512,oa P 513,oa P 514,oa P 515,oa P 516,oa P 517,oa P 518,oa P 519,oa P 520,oa P 521,oa P 522,oa P 523,oa P 524,oa P 525,oa P 526,oa P 527,oa P 528,oa P 529,oa P 530,oa P 531,oa P 532,oa P 533,oa P 534,oa P 535,oa P 536,oa P 537,oa P 538,oa P 539,oa P 540,oa P 541,oa P 542,oa P 543,oa P 544,oa P 545,oa P 546,oa P 547,oa P 548,oa P 549,oa P 550,oa P 551,oa P 552,oa P 553,oa P 554,oa P 555,oa P 556,oa P 557,oa P 558,oa P 559,oa P 560,oa P 561,oa P 562,oa P 563,oa P 564,oa P 565,oa P 566,oa P 567,oa P 568,oa P 569,oa P 570,oa P 571,oa P 572,oa P 573,oa P 574,oa P 575,oa P 576,oa P 577,oa P 578,oa P 579,oa P 580,oa P 581,oa P 582,oa P 583,oa P 584,oa P 585,oa P 586,oa P 587,oa P 588,oa P 589,oa P 590,oa P 591,oa P 592,oa P 593,oa P 594,oa P 595,oa P 596,oa P 597,oa P 598,oa P 599,oa P 600,oa P 601,oa P 602,oa P 603,oa P 604,oa P 605,oa P 606,oa P 607,oa P 608,oa P 609,oa P 610,oa P 611,oa P 612,oa P 613,oa P 614,oa P 615,oa P 616,oa P 617,oa P 618,oa P 619,oa P 620,oa P 621,oa P 622,oa P 623,oa P 624,oa P 625,oa P 626,oa P 627,oa P 628,oa P 629,oa P 630,oa P 631,oa P 632,oa P 633,oa P 634,oa P 635,oa P 636,oa P 637,oa P 638,oa P 639,oa P 640,oa P 641,oa P 642,oa P 643,oa P 644,oa P 645,oa P 646,oa P 647,oa P 648,oa P 649,oa P 650,oa P 651,oa P 652,oa P 653,oa P 654,oa P 655,oa P 656,oa P 657,oa P 658,oa P 659,oa P 660,oa P 661,oa P 662,oa P 663,oa P 664,oa P 665,oa P 666,oa P 667,oa P 668,oa P 669,oa P 670,oa P 671,oa P 672,oa P 673,oa P 674,oa P 675,oa P 676,oa P 677,oa P 678,oa P 679,oa P 680,oa P 681,oa P 682,oa P 683,oa P 684,oa P 685,oa P 686,oa P 687,oa P 688,oa P 689,oa P 690,oa P 691,oa P 692,oa P 693,oa P 694,oa P 695,oa P 696,oa P 697,oa P 698,oa P 699,oa P 700,oa P 701,oa P 702,oa P 703,oa P 704,oa P 705,oa P 706,oa P 707,oa P 708,oa P 709,oa P 710,oa P 711,oa P 712,oa P 713,oa P 714,oa P 715,oa P 716,oa P 717,oa P 718,oa P 719,oa P 720,oa P 721,oa P 722,oa P 723,oa P 724,oa P 725,oa P 726,oa P 727,oa P 728,oa P 729,oa P 730,oa P 731,oa P 732,oa P 733,oa P 734,oa P 735,oa P 736,oa P 737,oa P 738,oa P 739,oa P 740,oa P 741,oa P 742,oa P 743,oa P 744,oa P 745,oa P 746,oa P 747,oa P 748,oa P 749]⟩,{}⟩
noncomputable def H₀(P:Params):Heap:=⟨⟨[oa P 0,oa P 1,boot_o_2 P,boot_o_3 P,oa P 4,oa P 5,oa P 6,oa P 7,oa P 8,oa P 9,oa P 10,oa P 11,fk 0,oa P 13,oa P 14]⟩,{}⟩
noncomputable abbrev S0(w:World)(os:OsState):SharedT:=⟨(((cut 15 (T w.params)).set 2 fun _=>boot_o_2 w.params).set 3 fun _=>boot_o_3 w.params).set 12 fun _=>fk 0,15,{},⟨[]⟩,{},187,os⟩
noncomputable abbrev S1(w:World)(os:OsState):SharedT:=⟨(((cut 35 (T w.params)).set 3 fun _=>md w.params (S "framerune.faults" 219) 25 26).set 12 fun _=>fk 3).set 31 fun _=>clS [] "RuneError" [Ty "Exception"] [Rf 31,Ty "Exception",Ty "BaseException",Ty "object"] 30 "RuneError" (Ty "type") [some (Rf 15),none,some (S "RuneError" 221),some (S "RuneError" 229),some (Bi "Exception.__new__"),some (Bo true)],35,{},⟨[]⟩,{},252,os⟩
noncomputable abbrev S2(w:World)(os:OsState):SharedT:=⟨(((cut 47 (T w.params)).set 3 fun _=>md w.params (S "framerune.faults" 219) 26 27).set 12 fun _=>fk 6).set 31 fun _=>clS [Rf 44] "RuneError" [Ty "Exception"] [Rf 31,Ty "Exception",Ty "BaseException",Ty "object"] 30 "RuneError" (Ty "type") [some (Rf 15),none,some (S "RuneError" 221),some (S "RuneError" 229),some (Bi "Exception.__new__"),some (Bo true)],47,{},⟨[]⟩,{},268,os⟩
noncomputable abbrev S3(w:World)(os:OsState):SharedT:=⟨((cut 59 (T w.params)).set 3 fun _=>md w.params (S "framerune.kinds" 284) 46 47).set 12 fun _=>fk 9,59,{},⟨[]⟩,{},324,os⟩
noncomputable abbrev S4(w:World)(os:OsState):SharedT:=⟨((cut 60 (T w.params)).set 3 fun _=>md w.params (S "framerune.kinds" 284) 57 58).set 12 fun _=>fk 9,60,{},⟨[]⟩,{},373,os⟩
noncomputable abbrev S5(w:World)(os:OsState):SharedT:=⟨((cut 116 (T w.params)).set 3 fun _=>md w.params (S "framerune.kinds" 284) 61 62).set 12 fun _=>fk 21,116,{},⟨[]⟩,{},452,os⟩
noncomputable abbrev S6(w:World)(os:OsState):SharedT:=⟨((cut 158 (T w.params)).set 3 fun _=>md w.params (S "framerune.ops" 505) 79 80).set 12 fun _=>fk 39,158,{},⟨[]⟩,{},531,os⟩
noncomputable abbrev S7(w:World)(os:OsState):SharedT:=⟨((cut 166 (T w.params)).set 3 fun _=>md w.params (S "framerune.ops" 505) 80 81).set 12 fun _=>fk 39,166,{},⟨[]⟩,{},784,os⟩
noncomputable abbrev S8(w:World)(os:OsState):SharedT:=⟨((cut 296 (T w.params)).set 3 fun _=>md w.params (S "framerune.ops" 505) 81 82).set 12 fun _=>fk 39,296,{},⟨[]⟩,{},1273,os⟩
noncomputable abbrev S9(w:World)(os:OsState):SharedT:=⟨((cut 338 (T w.params)).set 3 fun _=>md w.params (S "framerune.store" 1318) 88 89).set 12 fun _=>fk 57,338,{},⟨[]⟩,{},1322,os⟩
noncomputable abbrev S10(w:World)(os:OsState):SharedT:=⟨((cut 359 (T w.params)).set 3 fun _=>md w.params (S "framerune.store" 1318) 89 90).set 12 fun _=>fk 60,359,{},⟨[]⟩,{},1370,os⟩
noncomputable abbrev S11(w:World)(os:OsState):SharedT:=⟨((cut 394 (T w.params)).set 3 fun _=>md w.params (S "framerune.ilflow" 1420) 92 93).set 12 fun _=>fk 69,394,{},⟨[]⟩,{},1422,os⟩
noncomputable abbrev S12(w:World)(os:OsState):SharedT:=⟨((cut 450 (T w.params)).set 3 fun _=>md w.params (S "framerune.ilflow" 1420) 96 97).set 12 fun _=>fk 81,450,{},⟨[]⟩,{},1498,os⟩
noncomputable abbrev S13(w:World)(os:OsState):SharedT:=⟨((cut 534 (T w.params)).set 3 fun _=>md w.params (S "framerune.ilflow" 1420) 108 109).set 12 fun _=>fk 117,534,{},⟨[]⟩,{},1632,os⟩
noncomputable abbrev S14(w:World)(os:OsState):SharedT:=⟨((cut 614 (T w.params)).set 3 fun _=>md w.params (S "law_xm0266_01" 1714) 120 121).set 12 fun _=>fk 153,614,{},⟨[]⟩,{},1748,os⟩
noncomputable abbrev S15(w:World)(os:OsState):SharedT:=⟨((cut 692 (T w.params)).set 3 fun _=>md w.params (S "law_xm0266_01" 1714) 132 133).set 12 fun _=>fk 189,692,{},⟨[]⟩,{},1862,os⟩
noncomputable abbrev S16(w:World)(os:OsState):SharedT:=⟨T w.params,750,{},⟨[]⟩,{},1952,os⟩
noncomputable def take:Nat→List Stmt→List Stmt
 |_,[]=>[]
 |k,s::l=>match Nat.beq k 0 with
  |true=>[]
  |false=>s::take (k - 1) l
noncomputable def drop:Nat→List Stmt→List Stmt
 |_,[]=>[]
 |k,s::l=>match Nat.beq k 0 with
  |true=>s::l
  |false=>drop (k - 1) l
noncomputable def sts(a c:Nat):List Stmt:=take c (drop a bd)
noncomputable def env:Env:={ scope:=pr.main.scope,locals:=mainNs,globals:=mainNs,cells:=[],code:=.ref 13,frame:=some 14 }
noncomputable abbrev ann:Option Value:=some (.ref 6)
noncomputable abbrev cE:Code:=.body (behindTheImports pr) env
noncomputable abbrev q0:Pos:=⟨0,0,0,0⟩
noncomputable abbrev B:List Frame:=[topFrame q0]
abbrev Seg(l:List Stmt)(k:Nat)(p p':Pos)(X X':World→OsState→SharedT)(w:World):Prop:=
 (fun os=>segRunT treeTable pr w 11 ann 1 k (X w os) (piecesOf l env cE p B))=fun os=>some (.next,X' w os,cE,p')
theorem seg_tw{l:List Stmt}{k:Nat}{p p':Pos}{X X':World→OsState→SharedT}{w:World}
  (h:(fun os=>Fast.tw10110043849684766642 Fast.tw14364793385576792824 (Fast.tw2368527892694137696 rw_).toRowW.1 w 11 ann 1 k (X w os) (piecesOf l env (.body (behindTheImports (Fast.tw2368527892694137696 rw_).toRowW.1) env) p B))=fun os=>some (.next,X' w os,.body (behindTheImports pr) env,p')):Seg l k p p' X X' w:=by
 unfold Seg;rw[Fast.te10110043849684766642,Fast.te14364793385576792824];show(fun os=>Fast.tw10110043849684766642 Fast.tw14364793385576792824 (OpenLaw.row rw_).toRowW.1 w 11 ann 1 k (X w os) (piecesOf l env (.body (behindTheImports (OpenLaw.row rw_).toRowW.1) env) p B))=_;rw[Fast.te2368527892694137696];exact h
theorem g0:∀w,Seg (sts 0 18) 384 ⟨0,0,0,0⟩ ⟨18,0,22,20⟩ S0 S1 w:=fun w=>seg_tw (by kernel_rfl)
theorem g1:∀w,Seg (sts 18 1) 214 ⟨18,0,22,20⟩ ⟨23,0,24,8⟩ S1 S2 w:=fun w=>seg_tw (by kernel_rfl)
theorem g2:∀w,Seg (sts 19 21) 394 ⟨23,0,24,8⟩ ⟨46,0,46,7⟩ S2 S3 w:=fun w=>seg_tw (by kernel_rfl)
theorem g3f:∀w:World,Seg (sts 40 11) 297 ⟨46,0,46,7⟩ ⟨57,0,57,8⟩ S3 S4 (w.withFollow "special-get-raises" false):=fun w=>seg_tw (by kernel_rfl)
theorem g3t:∀w:World,Seg (sts 40 11) 297 ⟨46,0,46,7⟩ ⟨57,0,57,8⟩ S3 S4 (w.withFollow "special-get-raises" true):=fun w=>seg_tw (by kernel_rfl)
theorem g3:∀w,Seg (sts 40 11) 297 ⟨46,0,46,7⟩ ⟨57,0,57,8⟩ S3 S4 w:=byRow2 "special-get-raises" (P:=fun w=>Seg (sts 40 11) 297 ⟨46,0,46,7⟩ ⟨57,0,57,8⟩ S3 S4 w) g3f g3t
theorem g4:∀w,Seg (sts 51 4) 387 ⟨57,0,57,8⟩ ⟨120,0,125,12⟩ S4 S5 w:=fun w=>seg_tw (by kernel_rfl)
theorem g5:∀w,Seg (sts 55 19) 303 ⟨120,0,125,12⟩ ⟨180,0,180,8⟩ S5 S6 w:=fun w=>seg_tw (by kernel_rfl)
abbrev It:=Option (Sem Value)×Sem Value
abbrev Ac:=Option Addr×List (Sem Value×Sem Value)
noncomputable def ddE:{p:(It→Ac→Sem (ForInStep Ac))×(Ac→Sem Value) // ∀items,dictDisplay items=forIn items (none,[]) p.1>>=p.2}:=⟨(_,_),fun _=>rfl⟩
noncomputable def asE(tg:List Expr)(v:Expr)(pos:Pos)(env:Env):{h:Sem Flow×(Value→Sem Flow) // exec (.Assign tg v pos) env=(do
  standAt pos
  let b ←swapsWithSole tg v pos.line env
  if b=true then h.1 else eval v env>>=h.2)}:=⟨(_,_),arm_exec_Assign tg v pos env⟩
noncomputable def exE(s:Stmt)(env:Env):{h:Flow→Sem Flow // execs [s] env=exec s env>>=h}:=⟨_,rfl⟩
noncomputable def mid(s:Stmt)(j:Nat)(d:Addr):Sem Flow:=match s with
 |.Assign tg (.Dict ks vs dp) pos=>
  let items:=(evalEachOpt ks env).zip ((evalEach vs env).map fun v=>do let x ←v;standAt dp;pure x)
  ((List.forIn'.loop items (fun a _ b=>ddE.1.1 a b) (items.drop j) (some d,[]) ⟨items.take j,List.take_append_drop j items⟩>>=ddE.1.2)>>=(asE tg (.Dict ks vs dp) pos env).1.2)>>=(exE s env).1
 |s=>exec s env
noncomputable abbrev thM(s:Stmt)(j:Nat)(d:Addr)(q:Pos):Thread:=⟨(mid s j d).wrap doneF deadEnd id id,cE,q,B⟩
noncomputable def part(o:Obj)(k:Nat):Obj:=match o with
 |⟨c,x,.dict ⟨l⟩ _,y⟩=>⟨c,x,.dict ⟨l.take k⟩ k,y⟩
 |o=>o
abbrev SegG(k:Nat)(X X':World→OsState→SharedT)(t t':Thread)(w:World):Prop:=
 (fun os=>segGoT treeTable pr w 11 ann 1 k (X w os) t)=fun os=>some (X' w os,t')
theorem go_tw{k:Nat}{X X':World→OsState→SharedT}{t t':Thread}{w:World}
  (h:(fun os=>Fast.tw10295753902157049106 Fast.tw14364793385576792824 (Fast.tw2368527892694137696 rw_).toRowW.1 w 11 ann 1 k (X w os) t)=fun os=>some (X' w os,t')):SegG k X X' t t' w:=by
 unfold SegG;rw[Fast.te10295753902157049106,Fast.te14364793385576792824];show(fun os=>Fast.tw10295753902157049106 Fast.tw14364793385576792824 (OpenLaw.row rw_).toRowW.1 w 11 ann 1 k (X w os) t)=_;rw[Fast.te2368527892694137696];exact h
abbrev SegR(k:Nat)(X X':World→OsState→SharedT)(t:Thread)(p':Pos)(w:World):Prop:=
 (fun os=>segRunT treeTable pr w 11 ann 1 k (X w os) t)=fun os=>some (.next,X' w os,cE,p')
theorem run_tw{k:Nat}{X X':World→OsState→SharedT}{t:Thread}{p':Pos}{w:World}
  (h:(fun os=>Fast.tw10110043849684766642 Fast.tw14364793385576792824 (Fast.tw2368527892694137696 rw_).toRowW.1 w 11 ann 1 k (X w os) t)=fun os=>some (.next,X' w os,cE,p')):SegR k X X' t p' w:=by
 unfold SegR;rw[Fast.te10110043849684766642,Fast.te14364793385576792824];show(fun os=>Fast.tw10110043849684766642 Fast.tw14364793385576792824 (OpenLaw.row rw_).toRowW.1 w 11 ann 1 k (X w os) t)=_;rw[Fast.te2368527892694137696];exact h
abbrev SegA(l:List Stmt)(k:Nat)(p p':Pos)(X X':World→OsState→SharedT)(w:World):Prop:=∀os,segRun treeTable pr w 11 ann 1 k (X w os).abs (piecesOf l env cE p B)=some (.next,(X' w os).abs,cE,p')
theorem cut3{l:List Stmt}{a b c:Nat}{p p':Pos}{X X1 X2 X':World→OsState→SharedT}{t1 t2:Thread}{w:World}
  (h1:SegG a X X1 (piecesOf l env cE p B) t1 w) (h2:SegG b X1 X2 t1 t2 w) (h3:SegR c X2 X' t2 p' w):SegA l (a+(b+c)) p p' X X' w:=
 fun os=>seg_go (segGo_of (congrFun h1 os)) (seg_go (segGo_of (congrFun h2 os)) (segRun_of (congrFun h3 os)))
noncomputable abbrev q6:Pos:=⟨181,10,181,1804⟩
noncomputable abbrev q7:Pos:=⟨182,11,182,1586⟩
noncomputable abbrev S6x(m e n t:Nat)(a j:Nat)(w:World)(os:OsState):SharedT:=⟨(((cut n (T w.params)).set 3 fun _=>md w.params (S "framerune.ops" 505) m e).set 12 fun _=>fk 39).set a fun _=>part (oa w.params a) j,n,{},⟨[]⟩,{},t,os⟩
noncomputable abbrev S6a:=S6x 79 80 162 667 158 68
noncomputable abbrev S6b:=S6x 79 80 164 735 158 102
noncomputable abbrev S7a:=S6x 80 81 238 1056 166 68
noncomputable abbrev S7b:=S6x 80 81 274 1192 166 102
theorem g6fa:∀w:World,SegG 1283 S6 S6a (piecesOf (sts 74 1) env cE ⟨180,0,180,8⟩ B) (thM (st 74) 68 158 q6) (w.withFollow "special-get-raises" false):=fun w=>go_tw (by kernel_rfl)
theorem g6fb:∀w:World,SegG 694 S6a S6b (thM (st 74) 68 158 q6) (thM (st 74) 102 158 q6) (w.withFollow "special-get-raises" false):=fun w=>go_tw (by kernel_rfl)
theorem g6fc:∀w:World,SegR 501 S6b S7 (thM (st 74) 102 158 q6) ⟨181,0,181,7⟩ (w.withFollow "special-get-raises" false):=fun w=>run_tw (by kernel_rfl)
theorem g6f:∀w:World,SegA (sts 74 1) (1283+(694+501)) ⟨180,0,180,8⟩ ⟨181,0,181,7⟩ S6 S7 (w.withFollow "special-get-raises" false):=fun w=>cut3 (g6fa w) (g6fb w) (g6fc w)
theorem g6ta:∀w:World,SegG 1283 S6 S6a (piecesOf (sts 74 1) env cE ⟨180,0,180,8⟩ B) (thM (st 74) 68 158 q6) (w.withFollow "special-get-raises" true):=fun w=>go_tw (by kernel_rfl)
theorem g6tb:∀w:World,SegG 694 S6a S6b (thM (st 74) 68 158 q6) (thM (st 74) 102 158 q6) (w.withFollow "special-get-raises" true):=fun w=>go_tw (by kernel_rfl)
theorem g6tc:∀w:World,SegR 501 S6b S7 (thM (st 74) 102 158 q6) ⟨181,0,181,7⟩ (w.withFollow "special-get-raises" true):=fun w=>run_tw (by kernel_rfl)
theorem g6t:∀w:World,SegA (sts 74 1) (1283+(694+501)) ⟨180,0,180,8⟩ ⟨181,0,181,7⟩ S6 S7 (w.withFollow "special-get-raises" true):=fun w=>cut3 (g6ta w) (g6tb w) (g6tc w)
theorem g6:∀w,SegA (sts 74 1) (1283+(694+501)) ⟨180,0,180,8⟩ ⟨181,0,181,7⟩ S6 S7 w:=byRow2 "special-get-raises" (P:=fun w=>SegA (sts 74 1) (1283+(694+501)) ⟨180,0,180,8⟩ ⟨181,0,181,7⟩ S6 S7 w) g6f g6t
theorem g7fa:∀w:World,SegG 1419 S7 S7a (piecesOf (sts 75 1) env cE ⟨181,0,181,7⟩ B) (thM (st 75) 68 166 q7) (w.withFollow "special-get-raises" false):=fun w=>go_tw (by kernel_rfl)
theorem g7fb:∀w:World,SegG 762 S7a S7b (thM (st 75) 68 166 q7) (thM (st 75) 102 166 q7) (w.withFollow "special-get-raises" false):=fun w=>go_tw (by kernel_rfl)
theorem g7fc:∀w:World,SegR 461 S7b S8 (thM (st 75) 102 166 q7) ⟨182,0,182,8⟩ (w.withFollow "special-get-raises" false):=fun w=>run_tw (by kernel_rfl)
theorem g7f:∀w:World,SegA (sts 75 1) (1419+(762+461)) ⟨181,0,181,7⟩ ⟨182,0,182,8⟩ S7 S8 (w.withFollow "special-get-raises" false):=fun w=>cut3 (g7fa w) (g7fb w) (g7fc w)
theorem g7ta:∀w:World,SegG 1419 S7 S7a (piecesOf (sts 75 1) env cE ⟨181,0,181,7⟩ B) (thM (st 75) 68 166 q7) (w.withFollow "special-get-raises" true):=fun w=>go_tw (by kernel_rfl)
theorem g7tb:∀w:World,SegG 762 S7a S7b (thM (st 75) 68 166 q7) (thM (st 75) 102 166 q7) (w.withFollow "special-get-raises" true):=fun w=>go_tw (by kernel_rfl)
theorem g7tc:∀w:World,SegR 461 S7b S8 (thM (st 75) 102 166 q7) ⟨182,0,182,8⟩ (w.withFollow "special-get-raises" true):=fun w=>run_tw (by kernel_rfl)
theorem g7t:∀w:World,SegA (sts 75 1) (1419+(762+461)) ⟨181,0,181,7⟩ ⟨182,0,182,8⟩ S7 S8 (w.withFollow "special-get-raises" true):=fun w=>cut3 (g7ta w) (g7tb w) (g7tc w)
theorem g7:∀w,SegA (sts 75 1) (1419+(762+461)) ⟨181,0,181,7⟩ ⟨182,0,182,8⟩ S7 S8 w:=byRow2 "special-get-raises" (P:=fun w=>SegA (sts 75 1) (1419+(762+461)) ⟨181,0,181,7⟩ ⟨182,0,182,8⟩ S7 S8 w) g7f g7t
theorem g8:∀w,Seg (sts 76 8) 196 ⟨182,0,182,8⟩ ⟨222,0,222,9⟩ S8 S9 w:=fun w=>seg_tw (by kernel_rfl)
theorem g9:∀w,Seg (sts 84 1) 242 ⟨222,0,222,9⟩ ⟨223,0,239,23⟩ S9 S10 w:=fun w=>seg_tw (by kernel_rfl)
theorem g10:∀w,Seg (sts 85 4) 297 ⟨223,0,239,23⟩ ⟨257,0,257,8⟩ S10 S11 w:=fun w=>seg_tw (by kernel_rfl)
theorem g11:∀w,Seg (sts 89 4) 384 ⟨257,0,257,8⟩ ⟨286,0,294,43⟩ S11 S12 w:=fun w=>seg_tw (by kernel_rfl)
theorem g12:∀w,Seg (sts 93 12) 399 ⟨286,0,294,43⟩ ⟨400,0,404,16⟩ S12 S13 w:=fun w=>seg_tw (by kernel_rfl)
theorem g13:∀w,Seg (sts 105 13) 384 ⟨400,0,404,16⟩ ⟨495,0,502,27⟩ S13 S14 w:=fun w=>seg_tw (by kernel_rfl)
theorem g14:∀w,Seg (sts 118 12) 373 ⟨495,0,502,27⟩ ⟨653,0,660,13⟩ S14 S15 w:=fun w=>seg_tw (by kernel_rfl)
theorem g15:∀w,Seg (sts 130 10) 299 ⟨653,0,660,13⟩ ⟨771,0,808,55⟩ S15 S16 w:=fun w=>seg_tw (by kernel_rfl)
end Mine.H
namespace Mine.H
theorem t_pre(w:World)(os:OsState):topGo treeTable pr w 11 ann 12 ⟨boot_heap w.params,⟨[]⟩,boot_drawn,boot_toks,os⟩ (topStub pr)=some (⟨H₀ w.params,⟨[]⟩,{},187,os⟩,⟨denote treeTable cE,cE,q0,B⟩):=by kernel_rfl
theorem t_block(w:World)(os:OsState):segRun treeTable pr w 11 ann 1 1 ⟨H₀ w.params,⟨[]⟩,{},187,os⟩ (blockOf bd env cE q0 B)=some (.next,(S0 w os).abs,cE,q0):=by kernel_rfl
theorem t_fin(w:World)(os:OsState):topRun treeTable pr w 11 ann 2 (S16 w os).abs ⟨doneF .next,cE,⟨771,0,808,55⟩,B⟩=some ⟨H₁ w.params,⟨[]⟩,{},1952,os⟩:=by kernel_rfl
theorem app(l:List Stmt){rest:List Stmt}{k K:Nat}{p p':Pos}{X X':World→OsState→SharedT}{w:World}{os:OsState}{r:Shared}(h:∀w,Seg l k p p' X X' w)
  (g:topRun treeTable pr w 11 ann K (X' w os).abs (restOf rest env cE p' B)=some r):topRun treeTable pr w 11 ann (k+K) (X w os).abs (restOf (l++rest) env cE p B)=some r:=piece_app (segRun_of (congrFun (h w) os)) g
theorem app'(l:List Stmt){rest:List Stmt}{k K:Nat}{p p':Pos}{X X':World→OsState→SharedT}{w:World}{os:OsState}{r:Shared}(h:∀w,SegA l k p p' X X' w)
  (g:topRun treeTable pr w 11 ann K (X' w os).abs (restOf rest env cE p' B)=some r):topRun treeTable pr w 11 ann (k+K) (X w os).abs (restOf (l++rest) env cE p B)=some r:=piece_app (h w os) g
theorem bd_eq:bd=sts 0 18++(sts 18 1++(sts 19 21++(sts 40 11++(sts 51 4++(sts 55 19++(sts 74 1++(sts 75 1++(sts 76 8++(sts 84 1++(sts 85 4++(sts 89 4++(sts 93 12++(sts 105 13++(sts 118 12++(sts 130 10++[]))))))))))))))):=by kernel_rfl
theorem t_body(w:World)(os:OsState):topRun treeTable pr w 11 ann (384+(214+(394+(297+(387+(303+(2478+(2642+(196+(242+(297+(384+(399+(384+(373+(299+(2))))))))))))))))) (S0 w os).abs (restOf bd env cE q0 B)=some ⟨H₁ w.params,⟨[]⟩,{},1952,os⟩:=by
 rw[bd_eq];exact app (sts 0 18) g0 (app (sts 18 1) g1 (app (sts 19 21) g2 (app (sts 40 11) g3 (app (sts 51 4) g4 (app (sts 55 19) g5 (app' (sts 74 1) g6 (app' (sts 75 1) g7 (app (sts 76 8) g8 (app (sts 84 1) g9 (app (sts 85 4) g10 (app (sts 89 4) g11 (app (sts 93 12) g12 (app (sts 105 13) g13 (app (sts 118 12) g14 (app (sts 130 10) g15 (piece_nil (t_fin w os)))))))))))))))))
theorem t_run(w:World)(os:OsState):topRun treeTable pr w 11 ann 9688 ⟨boot_heap w.params,⟨[]⟩,boot_drawn,boot_toks,os⟩ (topStub pr)=some ⟨H₁ w.params,⟨[]⟩,{},1952,os⟩:=
 go_top (N:=9676) (t_pre w os) (piece_block (N:=9675) (t_block w os) (t_body w os))
theorem t_boot:∀w:World,(fencedOpening treeTable pr w 20000).map (fun s=>(s.heap,s.gens,s.drawn,s.toks))=some (boot_heap w.params,⟨[]⟩,boot_drawn,boot_toks):=
 boot_open (by kernel_rfl) (by decide+kernel) (fun s=>by kernel_rfl)
theorem t_size(w:World):((boot_heap w.params).isNs mainGlobals&&(⟨[]⟩:Array GenState).size==0,(boot_heap w.params).objs.size,(boot_heap w.params).nsMap mainGlobals "__annotations__")=(true,11,ann):=by
 rw[Fast.te8920871248978507458];kernel_rfl
noncomputable def vb:Nat→List Stmt→List Stmt
 |_,[]=>[]
 |k,s::l=>match [16,20,61,82,88,113].any (Nat.beq k) with
  |true=>vb (k+1) l
  |false=>s::vb (k+1) l
noncomputable def q:Program:={ pr with main:={ pr.main with body:=vb 0 pr.main.body } }
noncomputable abbrev loose:List Str:=[Str.ofString "TID_PRIM",Str.ofString "OP_SORT",Str.ofString "OP_STACK"]
noncomputable abbrev X1(w:World)(os:OsState):Shared:=⟨H₁ w.params,⟨[]⟩,{},1952,os⟩
theorem l_top(w:World)(os:OsState):(staticsOk (importedModules pr.main.body) (boot_heap w.params) (H₁ w.params)&&namesBound pr (H₁ w.params)&&gensDone (X1 w os)&&laidKept (boot_heap w.params) (H₁ w.params))=true:=by kernel_rfl
theorem l_seen(w:World)(os:OsState):seen ((recsOf q).map (·.name)) (ownsOf q) [] { X1 w os with gens:=#[] }=expectedOf q:=by rw[Fast.te5160383126252970620];kernel_rfl
theorem l_blt(w:World)(os:OsState):(X1 w os).heap.bltView=bltViewBooted:=by kernel_rfl
theorem an{a b:Bool}(h:a=true)(k:b=true):(a&&b)=true:=by subst h;exact k
theorem l_k0(w:World)(os:OsState):(X1 w os).heap.keysOk (looseW q loose) ((recsOf q).map (·.name)) ((litsOf q).map (·.1)) ((clssOf q (looseW q loose)).map (·.name))=true:=by rw[Fast.te10880121769531294198];kernel_rfl
theorem l_k1(w:World)(os:OsState):(X1 w os).heap.accountedOkI (importedModules pr.main.body)=true:=by kernel_rfl
theorem l_k2(w:World)(os:OsState):(X1 w os).heap.isNs mainGlobals=true:=by kernel_rfl
theorem l_k3(w:World)(os:OsState):(X1 w os).heap.isNs builtinsNs=true:=by kernel_rfl
theorem l_k4(w:World)(os:OsState):tablesOk q (X1 w os).heap=true:=by kernel_rfl
theorem l_k5(w:World)(os:OsState):xlAt q [] (X1 w os)=true:=by kernel_rfl
theorem l_k6(w:World)(os:OsState):recOk (RowW.records rw_.row.toRowW) (X1 w os)=true:=by kernel_rfl
theorem l_k7(w:World)(os:OsState):(if true then(X1 w os).gens.size==0 else !leftWithCleanup (X1 w os).gens)=true:=by kernel_rfl
theorem l_keys(w:World)(os:OsState):((X1 w os).heap.keysOk (looseW q loose) ((recsOf q).map (·.name)) ((litsOf q).map (·.1)) ((clssOf q (looseW q loose)).map (·.name))&&(X1 w os).heap.accountedOkI (importedModules pr.main.body)&&(X1 w os).heap.isNs mainGlobals&&(X1 w os).heap.isNs builtinsNs&&tablesOk q (X1 w os).heap&&(xlAt q [] (X1 w os)&&recOk (RowW.records rw_.row.toRowW) (X1 w os))&&(if true then(X1 w os).gens.size==0 else !leftWithCleanup (X1 w os).gens))=true:=
 an (an (an (an (an (an (l_k0 w os) (l_k1 w os)) (l_k2 w os)) (l_k3 w os)) (l_k4 w os)) (an (l_k5 w os) (l_k6 w os))) (l_k7 w os)
theorem l_tabs(w:World)(os:OsState):tabsOk q (X1 w os)=true:=by rw[Fast.te479339242167458305];kernel_rfl
theorem l_pin(w:World)(os:OsState):pinSeenD q (drecsOf q) (X1 w os)=pinGoodD (drecsOf q):=by rw[Fast.te16090120013241838585];kernel_rfl
theorem l_pe(w:World)(os:OsState):plainSeenE q (looseW q loose) (X1 w os)=plainGoodE q (looseW q loose):=by rw[Fast.te2386780881361962483];kernel_rfl
theorem l_pd(w:World)(os:OsState):plainSeenD q loose (X1 w os)=plainGoodD q loose:=by rw[Fast.te11698064438423848299];kernel_rfl
theorem l_wide(w:World)(os:OsState):wideSeen q (X1 w os)=wideGood q:=by rw[Fast.te7317090234206586261];kernel_rfl
theorem l_cls(w:World)(os:OsState):clsSeenW q loose (X1 w os)=clsGoodW q loose:=by rw[Fast.te7369524293546568484];kernel_rfl
end Mine.H
set_option tactic.hygienic true
namespace Mine.H
noncomputable def as:List Addr:=[2,3,15,22,24,25,27,28,29,30,31,32,35,42,43,44,47,54,55,56,59,67,69,70,72,73,74,76,77,79,80,81,83,84,86,87,88,89,90,91,92,95,97,98,100,101,102,104,105,107,108,109,111,112,114,115,116,118,119,121,122,123,125,126,128,129,130,132,133,135,136,137,139,140,142,143,144,146,147,149,150,151,153,154,156,157,158,166,167,168,169,170,171,172,173,174,175,176,177,178,179,180,181,182,183,185,186,187,188,189,190,191,192,193,194,195,196,197,198,199,200,201,203,204,205,206,207,208,209,210,211,212,213,214,215,216,217,218,219,221,222,223,224,225,226,227,228,229,230,231,232,233,234,235,236,237,239,240,241,242,243,244,245,246,247,248,249,250,251,252,253,254,255,257,258,259,260,261,262,263,264,265,266,267,268,269,270,271,272,273,275,276,277,278,279,280,281,282,283,284,285,286,287,288,289,290,291,293,294,295,296,298,299,301,302,303,305,306,308,309,310,312,313,315,316,317,319,320,322,323,324,326,327,329,330,331,333,334,336,337,345,347,348,350,351,352,353,354,355,356,366,368,369,371,372,373,374,375,376,377,380,382,383,385,386,387,389,390,392,393,401,403,404,406,407,408,410,411,413,414,415,417,418,420,421,422,423,424,425,426,429,431,432,434,435,436,438,439,441,442,443,445,446,448,449,450,452,453,455,456,457,459,460,462,463,464,466,467,469,470,471,473,474,476,477,478,480,481,483,484,485,487,488,490,491,492,494,495,497,498,499,501,502,504,505,506,508,509,511,512,513,515,516,518,519,520,522,523,525,526,527,529,530,532,533,534,537,538,539,541,542,544,545,546,548,549,551,552,553,555,556,558,559,560,562,563,565,566,567,569,570,572,573,574,576,577,579,580,581,583,584,586,587,588,590,591,593,594,595,597,598,600,601,602,605,606,607,609,610,612,613,614,616,617,619,620,621,623,624,626,627,628,630,631,633,634,635,637,638,640,641,642,645,646,647,650,651,652,654,655,657,658,659,662,663,664,666,667,669,670,671,673,674,676,677,678,680,681,683,684,685,687,688,690,691,692,694,695,697,698,699,702,703,704,706,707,709,710,711,714,715,716,719,720,721,724,725,726,729,730,731,733,734,736,737,738,740,741,743,744,745,748,749]
noncomputable def Kf(P:Params):List Addr→Frag
 | []=>[]
 |a::l=>(a,oa P a)::Kf P l
noncomputable def K(P:Params):Frag:=Kf P as
noncomputable abbrev hk:Hook:=kHook K as (fun _=>by kernel_rfl)
theorem l_hook(w:World)(os:OsState):hk.obs (X1 w os)=hk.val w:=by kernel_rfl
theorem look:∀w:World,(fun os=>((staticsOk (importedModules pr.main.body) (boot_heap w.params) (H₁ w.params)&&namesBound pr (H₁ w.params)&&gensDone ⟨H₁ w.params,⟨[]⟩,{},1952,os⟩&&laidKept (boot_heap w.params) (H₁ w.params)),
    openSeen q loose (importedModules pr.main.body) (fun s=>xlAt q [] s&&recOk (RowW.records rw_.row.toRowW) s) true ⟨H₁ w.params,⟨[]⟩,{},1952,os⟩,hk.obs ⟨H₁ w.params,⟨[]⟩,{},1952,os⟩))=fun _=>(true,openGood q loose,hk.val w):=fun w=>funext fun os=>
 looks_pair (l_top w os) (looks_pair (looks_pair (l_seen w os) (looks_pair (l_blt w os) (looks_pair (l_keys w os) (looks_pair (l_tabs w os) (looks_pair (l_pin w os) (looks_pair (l_pe w os) (looks_pair (l_pd w os) (looks_pair (l_wide w os) (l_cls w os))))))))) (l_hook w os))
theorem left:LeftO pr q loose (fun s=>xlAt q [] s&&recOk (RowW.records rw_.row.toRowW) s) hk.obs hk.val 20000:=
 LeftO.of_pieces t_boot t_size t_run (by decide) look
theorem head{d:DefRec}{kwd:List (Str×Expr)}(hdef:defOf q rw_.row.name=some (d,kwd))(hp:rw_.row.prog.theDef rw_.row.name=some (d.params,d.body,d.scope))(hk':kwWritten? d.params.kwonlyargs d.params.kw_defaults=some kwd)
  (said:rw_.row.wellSaid=true) (hw:rw_.row.toRowW.promised) (hc:WalkO q loose (XL q []) hk.says rw_.row.toRowW d kwd fun f vs=>PySem.call f vs):rw_.row.Holds:=
 holds_open left hk.of hk.keeps (fun s e=>xl_of s (Bool.and_eq_true_iff.mp e).1) XL.keeps hdef hp hk' (fun s e=>recFacts_of (Bool.and_eq_true_iff.mp e).2) (by kernel_rfl) said (by decide+kernel) ⟨rfl,rfl,rfl,rfl,rfl,by decide+kernel⟩ hw hc
end Mine.H
end
noncomputable section
namespace Mine
theorem aa:type_of%@Nat.le_trans:=@Nat.le_trans
theorem ae:type_of%@Nat.le_of_ble_eq_true:=@Nat.le_of_ble_eq_true
theorem af:type_of%@List.length_map:=@List.length_map
theorem ag:type_of%@List.getElem?_eq_some_iff:=@List.getElem?_eq_some_iff
theorem ah:type_of%@Option.some.inj:=@Option.some.inj
theorem ai:type_of%@List.length_append:=@List.length_append
theorem aj:type_of%@congrArg:=@congrArg
theorem ak:type_of%@decide_eq_true:=@decide_eq_true
theorem am:type_of%@Bool.and_eq_true_iff:=@Bool.and_eq_true_iff
theorem ao:type_of%@decide_eq_false:=@decide_eq_false
theorem aq:type_of%@List.mem_singleton:=@List.mem_singleton
theorem au:type_of%@PySem.wpAny_mono:=@PySem.wpAny_mono
theorem av:type_of%@PySem.wpAny_bind:=@PySem.wpAny_bind
theorem aw:type_of%@List.map_append:=@List.map_append
theorem ay:type_of%@List.mem_of_getElem?:=@List.mem_of_getElem?
theorem az:type_of%@List.mem_cons:=@List.mem_cons
theorem aA:type_of%@List.mem_append_right:=@List.mem_append_right
theorem aB:type_of%@if_pos:=@if_pos
theorem aC:type_of%@if_neg:=@if_neg
theorem aE:type_of%@Nat.le_of_lt:=@Nat.le_of_lt
theorem aF:type_of%@Nat.lt_of_le_of_lt:=@Nat.lt_of_le_of_lt
theorem aG:type_of%@Option.ne_none_iff_exists':=@Option.ne_none_iff_exists'
theorem aH:type_of%@PySem.Heap.get?_push_of_some:=@PySem.Heap.get?_push_of_some
theorem aI:type_of%@PySem.wpAny_pure:=@PySem.wpAny_pure
theorem aJ:type_of%@List.append_assoc:=@List.append_assoc
theorem aK:type_of%@List.append_nil:=@List.append_nil
theorem aM:type_of%@Nat.le_refl:=@Nat.le_refl
theorem aO:type_of%@List.length_range:=@List.length_range
theorem aP:type_of%@List.mem_map:=@List.mem_map
theorem aQ:type_of%@Nat.zero_le:=@Nat.zero_le
theorem aR:type_of%@Nat.add_le_add_left:=@Nat.add_le_add_left
theorem aS:type_of%@Nat.lt_of_lt_of_le:=@Nat.lt_of_lt_of_le
theorem aT:type_of%@of_decide_eq_true:=@of_decide_eq_true
theorem aV:type_of%@List.getElem?_map:=@List.getElem?_map
theorem aX:type_of%@Int.ofNat.inj:=@Int.ofNat.inj
theorem aZ:type_of%@Nat.lt_irrefl:=@Nat.lt_irrefl
theorem a4:type_of%@Nat.lt_succ_self:=@Nat.lt_succ_self
theorem a8:type_of%@Nat.succ_pos:=@Nat.succ_pos
theorem a9:type_of%@List.mem_append:=@List.mem_append
theorem bg:type_of%@Classical.byContradiction:=@Classical.byContradiction
theorem bk:type_of%@Nat.add_le_add_right:=@Nat.add_le_add_right
theorem bn:type_of%@List.getElem?_eq_none:=@List.getElem?_eq_none
theorem bo:type_of%@Nat.add_le_add:=@Nat.add_le_add
theorem bp:type_of%@Nat.succ.inj:=@Nat.succ.inj
theorem bu:type_of%@Nat.le_of_eq:=@Nat.le_of_eq
theorem bC:type_of%@Int.ofNat_le:=@Int.ofNat_le
theorem bD:type_of%@Nat.le_add_right:=@Nat.le_add_right
theorem bE:type_of%@List.mem_append_left:=@List.mem_append_left
theorem bG:type_of%@Option.bind_eq_some_iff:=@Option.bind_eq_some_iff
theorem bH:type_of%@List.length_filter_le:=@List.length_filter_le
theorem bI:type_of%@Nat.eq_of_beq_eq_true:=@Nat.eq_of_beq_eq_true
theorem bK:type_of%@Nat.succ_ne_zero:=@Nat.succ_ne_zero
theorem bL:type_of%@Int.natCast_nonneg:=@Int.natCast_nonneg
theorem bM:type_of%@List.nodup_cons:=@List.nodup_cons
theorem bN:type_of%@PySem.wpAny_holding:=@PySem.wpAny_holding
theorem bO:type_of%@Nat.add_assoc:=@Nat.add_assoc
theorem bP:type_of%@List.mem_range:=@List.mem_range
theorem bQ:type_of%@Nat.succ_le_succ:=@Nat.succ_le_succ
theorem bR:type_of%@List.mem_filter:=@List.mem_filter
theorem bS:type_of%@Nat.not_lt:=@Nat.not_lt
theorem bU:type_of%@decide_eq_true_iff:=@decide_eq_true_iff
theorem bV:type_of%@List.mem_map_of_mem:=@List.mem_map_of_mem
theorem bW:type_of%@Nat.mul_le_mul_left:=@Nat.mul_le_mul_left
theorem bY:type_of%@Option.map_eq_some_iff:=@Option.map_eq_some_iff
theorem bZ:type_of%@decide_eq_decide:=@decide_eq_decide
theorem b4:type_of%@PySem.Calls.spliced_cons:=@PySem.Calls.spliced_cons
theorem b6:type_of%@Bool.false_ne_true:=@Bool.false_ne_true
theorem b7:type_of%@Nat.add_right_comm:=@Nat.add_right_comm
theorem b8:type_of%@List.getElem?_append_right:=@List.getElem?_append_right
theorem b9:type_of%@List.length_replicate:=@List.length_replicate
theorem cf:type_of%@PySem.Heap.get?_push_size:=@PySem.Heap.get?_push_size
theorem cn:type_of%@Nat.le_add_left:=@Nat.le_add_left
theorem cr:type_of%@Option.isSome_iff_exists:=@Option.isSome_iff_exists
theorem cu:type_of%@PySem.Heap.SameBut.update:=@PySem.Heap.SameBut.update
theorem cv:type_of%@Nat.add_comm:=@Nat.add_comm
theorem cy:type_of%@Nat.le_succ_of_le:=@Nat.le_succ_of_le
theorem cz:type_of%@Nat.le_of_lt_succ:=@Nat.le_of_lt_succ
theorem cA:type_of%@List.getElem?_eq_none_iff:=@List.getElem?_eq_none_iff
theorem cC:type_of%@PySem.wpAny_Call_NameR:=@PySem.wpAny_Call_NameR
theorem cD:type_of%@List.lookup_cons:=@List.lookup_cons
theorem cF:type_of%@PySem.Calls.spliced_nil:=@PySem.Calls.spliced_nil
theorem cG:type_of%@Nat.ne_of_lt:=@Nat.ne_of_lt
theorem cH:type_of%@List.map_map:=@List.map_map
theorem cI:type_of%@Nat.zero_add:=@Nat.zero_add
theorem cL:type_of%@Nat.le_antisymm:=@Nat.le_antisymm
theorem cM:type_of%@List.foldlM_cons:=@List.foldlM_cons
theorem cN:type_of%@List.map_congr_left:=@List.map_congr_left
theorem cP:type_of%@Array.getElem?_toList:=@Array.getElem?_toList
theorem cQ:type_of%@PySem.wpAny_standAt:=@PySem.wpAny_standAt
theorem cT:type_of%@List.length_cons:=@List.length_cons
theorem cZ:type_of%@List.map_cons:=@List.map_cons
theorem dh:type_of%@Array.length_toList:=@Array.length_toList
theorem dm:type_of%@List.pairwise_iff_getElem:=@List.pairwise_iff_getElem
theorem dn:type_of%@List.mem_iff_getElem?:=@List.mem_iff_getElem?
theorem dq:type_of%@PySem.Calls.Constant_str:=@PySem.Calls.Constant_str
theorem dr:type_of%@List.any_eq_true:=@List.any_eq_true
theorem dt:type_of%@Nat.lt_or_eq_of_le:=@Nat.lt_or_eq_of_le
theorem dz:type_of%@List.getElem?_eq_getElem:=@List.getElem?_eq_getElem
theorem dA:type_of%@Nat.lt_succ_iff_lt_or_eq:=@Nat.lt_succ_iff_lt_or_eq
theorem dF:type_of%@List.getElem?_set_ne:=@List.getElem?_set_ne
theorem dG:type_of%@List.forall_mem_cons:=@List.forall_mem_cons
theorem dI:type_of%@PySem.wpAny_loadPart_at:=@PySem.wpAny_loadPart_at
theorem dJ:type_of%@PySem.IsL.isList:=@PySem.IsL.isList
theorem dN:type_of%@Bool.or_eq_true_iff:=@Bool.or_eq_true_iff
theorem dO:type_of%@List.flatten_append:=@List.flatten_append
theorem dS:type_of%@PySem.Heap.lt_size:=@PySem.Heap.lt_size
theorem dT:type_of%@Int.ofNat_lt:=@Int.ofNat_lt
theorem dU:type_of%@List.getElem?_set_self:=@List.getElem?_set_self
theorem dY:type_of%@Bool.and_eq_true:=@Bool.and_eq_true
theorem d8:type_of%@Nat.le_succ:=@Nat.le_succ
section
open PySem (PyData)
section
inductive V where
 |none | bool (b:Bool) | int (i:Int) | Js (l:List V) | Jq (l:List V) | rng (lo hi:Int) | obj (c:Nat) (fs:List (Nat×V)) | Jv (n:Nat)
abbrev Env:=List (Option (Bool×V))
abbrev R(α:Type):=(α→Prop)→Prop→Prop
noncomputable def ok{α:Type}(a:α):R α:=fun Q Z=>Q a
noncomputable def exc{α:Type}:R α:=fun Z X=>X
noncomputable def bad{α:Type}:R α:=fun Z Z=>False
noncomputable def bc{α β:Type}(r:R α)(f:α→R β):R β:=fun Q X=>r (fun a=>f a Q X) X
noncomputable def iff{α:Type}(c:Prop)[Decidable c](r:R α):R α:=if c then r else bad
noncomputable def ft{α:Type}(o:Option α):R α:=match o with
 |some a=>ok a
 |.none=>bad
inductive U where
 |not | len | JE | JF | max | min | JW | range | isNone | J9 | JG | JN | J1 | Ke | JX
 |key (k:Nat) | attr (k:Nat)
set_option genCtorIdx true in
inductive B where
 |add | sub | mul | fdiv | fmod | Ks | eq | ne | lt | le | gt | ge | JK | JI | item | KD | J5 | Kw
inductive CE where
 |f (v:V) | c (i:Nat) | nil | cons (e es:CE) | Js (es:CE) | Jq (es:CE) | un (u:U) (e:CE) | h (b:B) (x y:CE)
 |y (x y:CE) | D (x y:CE) | J2 (c x y:CE) | J8 (x:CE) (p:B) (y:CE) (q:B) (z:CE)
 |slice (x lo hi:CE) | call (f:Nat) (es:CE) | Kb (f:Nat) (x es:CE) | J6 (f:Nat) (es:CE)
 |comp (elt:CE) (slot:Nat) (iter:CE) | Jz (elt:CE) (slot:Nat) (iter c:CE) | idx (x y:CE) | u (e:CE) | Ka (e:CE) | Kn | own (i:Nat)
inductive T where
 |v (i:Nat) | nil | cons (t r:T)
inductive CS where
 |k | seq (s t:CS) | q (t:T) (e:CE) | new (i:Nat) (e:CE) | KT (i:Nat) | Kv (i f:Nat) (es:CE) | JO (i:Nat) | r (i:Nat)
 |app (i:Nat) (e:CE) | J3 (i:Nat) (k e:CE) | KA (i:Nat) (e:CE) | JT (t:T) (i:Nat)
 |JD (i k:Nat) (e:CE) | JZ (i k:Nat) (e:CE) | KF (i k:Nat) | JH (i k:Nat) (e:CE) | Kk (i k:Nat) (x e:CE)
 |Kt (i:Nat) (e:CE) | p (c:CE) (s t:CS) | J7 (c:CE) (s:CS) | C (t:T) (e:CE) (s:CS) | J0 (t:T) (e:CE) (s:CS)
 |Ki (t:T) (f:Nat) (es:CE) | callX (f:Nat) (es:CE) | ret (e:CE) | Kd (i:Nat) | cont | JC (e:CE) | JL (e:CE) (v:V)
inductive Flow where
 |nxt | cont | ret (v:V)
abbrev FT:=Nat→List V→R (V×List V)
noncomputable def lim:Nat:=100000
noncomputable def qZ(ρ:Env)(i:Nat):R V:=match ρ[i]? with
 |some (some (false,v))=>ok v
 |_=>bad
noncomputable def tr:V→Option Bool
 |.none=>some false
 |.bool b=>some b
 |.int i=>some (i !=0)
 |.Jq l=>some !l.isEmpty
 |_=>.none
noncomputable def da(v:V):R Bool:=ft (tr v)
mutual
noncomputable def kb:V→PyData
 |.bool b=>.bool b
 |.int i=>.int i
 |.Js l=>.tuple (k8 l)
 |.Jq l=>.list (k8 l)
 |_=>.none
noncomputable def k8:List V→List PyData
 | []=>[]
 |v::l=>kb v::k8 l
end
noncomputable def iQ:Nat→V→Bool
 |n+1,.Js l=>l.all (iQ n)
 |n+1,.Jq l=>l.all (iQ n)
 |_,.none=>true
 |_,.bool _=>true
 |_,.int _=>true
 |_,_=>false
noncomputable def gB:Nat→V→Bool
 |n+1,.Js l=>l.all (gB n)
 |_,.Jq _=>false
 |_,.obj _ _=>false
 |0,.Js _=>false
 |_,_=>true
noncomputable def wb(lo hi:Int):List V:=(List.range (hi - lo).toNat).map fun k:Nat=>V.int (lo+(k:Int))
noncomputable def jB:V→Option (List V)
 |.Js l=>some l
 |.Jq l=>some l
 |.rng lo hi=>some (wb lo hi)
 |_=>.none
noncomputable def j9(v:V):R (List V):=ft (jB v)
noncomputable def o7(n:Nat)(i:Int):Option Nat:=if 0≤i then(if i.toNat<n then some i.toNat else .none)else if 0≤n+i then some (n+i).toNat else .none
noncomputable def idx(l:List V)(i:Int):R V:=ft ((o7 l.length i).bind fun j=>l[j]?)
noncomputable def fm:V→R Int
 |.int i=>ok i
 |_=>bad
noncomputable def dD:V→R (List V)
 |.Jq l=>ok l
 |_=>bad
noncomputable def DE:V→R Nat
 |.Jv n=>ok n
 |_=>bad
noncomputable def jl:V→R (List V)
 |.Js l=>ok l
 |_=>bad
noncomputable def nY:V→R (Nat×List (Nat×V))
 |.obj c fs=>ok (c,fs)
 |_=>bad
noncomputable def iB:List V→R (List Int)
 | []=>ok []
 |.int i::l=>bc (iB l) fun r=>ok (i::r)
 |_=>bad
noncomputable def iO(k:Nat):List (Nat×V)→Option V
 | []=>.none
 |(j,v)::r=>if j=k then some v else iO k r
noncomputable def gd(k:Nat)(v:V):List (Nat×V)→List (Nat×V)
 | []=>[(k,v)]
 |(j,u)::r=>if j=k then(j,v)::r else(j,u)::gd k v r
noncomputable def il(op:Int):Int:=
 if op=40∨op=111 then 9
 else if op=69 then 6
 else if(56≤op∧op≤68)∨op=221 then 5
 else if op=32 then 1 else 0
noncomputable def eU(op:Int):Option (Int×Int):=
 if op=0∨op=56∨op=220∨op=221∨op=65050 then some (0,0)
 else if op=20∨op=32 then some (0,1)
 else if op=38∨op=57∨op=58∨op=69∨op=122∨op=65041 then some (1,0)
 else if 59≤op∧op≤68 then some (2,0)else .none
noncomputable def cw:List Int:=[0,20,32,38,40,42,56,57,58,59,60,61,62,63,64,65,66,67,68,69,111,122,220,221,65041,65050]
noncomputable def HK:V→R Int
 |.Js l=>ok l.length
 |.Jq l=>ok l.length
 |_=>bad
noncomputable def j6(l:List V):R V:=iff (l.length≤lim) (ok (.Jq l))
noncomputable def FK(l:List V):R V:=iff (l.length≤lim) (ok (.Js l))
noncomputable def xJ(f:Int→Int→Int):List Int→R V
 | []=>bad
 |a::l=>ok (.int (l.foldl f a))
noncomputable def attrs:List (Nat×Nat):=[(57,0),(57,1),(58,2),(59,3),(59,4),(59,5),(60,6),(60,7),(60,8),(60,9),(60,10)]
noncomputable def kZ:V→R V
 |.Jv _=>bad
 |v=>ok v
noncomputable def isNone:V→R Bool
 |.none=>ok true
 |.Jv _=>bad
 |_=>ok false
noncomputable def l6(u:U)(v:V):R V:=match u with
 |.not=>bc (da v) fun b=>ok (.bool !b)
 |.len=>bc (HK v) fun n=>ok (.int n)
 |.JE=>match v with
  |.Js l=>ok (.Js l)
  |v=>bc (dD v) FK
 |.JF=>bc (j9 v) j6
 |.max=>bc (dD v) fun l=>bc (iB l) (xJ max)
 |.min=>bc (dD v) fun l=>bc (iB l) (xJ min)
 |.JW=>bc (dD v) fun l=>bc (iB l) fun is=>iff (is.length<64) (j6 ((is.mergeSort fun a b=>decide (a≤b)).map .int))
 |.range=>bc (fm v) fun n=>iff (n.natAbs≤lim) (ok (.rng 0 n))
 |.isNone=>bc (isNone v) fun b=>ok (.bool b)
 |.J9=>bc (isNone v) fun b=>ok (.bool !b)
 |.JG=>bc (fm v) fun op=>iff (op∈cw) (ok (.int (il op)))
 |.JN=>bc (fm v) fun op=>iff (op∈cw) (ok (.bool (eU op).isSome))
 |.J1=>bc (fm v) fun op=>iff (op∈cw) (bc (ft (eU op)) fun p=>ok (.Js [.int p.1,.int p.2]))
 |.Ke=>bc (fm v) fun n=>iff (n=0∨n=1) (ok (.Jv 0))
 |.JX=>bc (fm v) fun n=>iff (0≤n∧n≤2) (ok (.Jv 0))
 |.key k=>bc (nY v) fun p=>iff (p.1=0) (ft (iO k p.2))
 |.attr k=>bc (nY v) fun p=>iff ((p.1,k)∈attrs) (bc (ft (iO k p.2)) kZ)
noncomputable def AC(x y:V):R Bool:=match x,y with
 |.int a,.int b=>ok (decide (a=b))
 |x,y=>iff (iQ 20 x=true∧iQ 20 y=true) (ok (PyData.eqv (kb x) (kb y)))
noncomputable def zW(x y:V):R Bool:=bc (match y with | .rng _ _=>bad | y=>j9 y) fun l=>iff (iQ 20 x=true∧l.all (iQ 20)=true) (ok (l.any fun u=>PyData.eqv (kb u) (kb x)))
noncomputable def nT(x y:V)(f:Int→Int→R V):R V:=bc (fm x) fun a=>bc (fm y) fun b=>f a b
noncomputable def E4(x y:V):R V:=match x with
 |.int a=>bc (fm y) fun b=>ok (.int (a+b))
 |x=>bc (dD x) fun l=>bc (dD y) fun m=>j6 (l++m)
noncomputable def FM(x:V)(n:Int):R V:=match x with
 |.int a=>iff (a.natAbs<2^40∧n.natAbs<2^40) (ok (.int (a*n)))
 |.Jq [u]=>iff (0≤n∧n≤lim) (ok (.Jq (List.replicate n.toNat u)))
 |_=>bad
noncomputable def FI(x y:V):R V:=bc (fm y) fun n=>FM x n
noncomputable def Bk(x:V)(i:Int):R V:=match x with
 |.Js l=>idx l i
 |.Jq l=>idx l i
 |_=>bad
noncomputable def eP(o:B)(x y:V):R V:=match o with
 |.add=>E4 x y
 |.sub=>nT x y fun a b=>ok (.int (a - b))
 |.mul=>FI x y
 |.fdiv=>nT x y fun a b=>iff (0<b∧b<2^40) (ok (.int (a/b)))
 |.fmod=>nT x y fun a b=>iff (0<b∧b<2^40) (ok (.int (a%b)))
 |.Ks=>nT x y fun a b=>iff (b=1∧(a=0∨a=1)) (ok (.int a))
 |.eq=>bc (AC x y) fun b=>ok (.bool b)
 |.ne=>bc (AC x y) fun b=>ok (.bool !b)
 |.lt=>nT x y fun a b=>ok (.bool (decide (a<b)))
 |.le=>nT x y fun a b=>ok (.bool (decide (a≤b)))
 |.gt=>nT x y fun a b=>ok (.bool (decide (b<a)))
 |.ge=>nT x y fun a b=>ok (.bool (decide (b≤a)))
 |.JK=>bc (zW x y) fun b=>ok (.bool b)
 |.JI=>bc (zW x y) fun b=>ok (.bool !b)
 |.item=>bc (fm y) fun i=>Bk x i
 |.KD=>bc (dD x) fun l=>bc (iB l) fun is=>bc (fm y) fun i=>iff (i∈is) (ok (.int (is.idxOf i)))
 |.J5=>nT x y fun a b=>iff (a.natAbs≤lim∧b.natAbs≤lim) (ok (.rng a b))
 |.Kw=>nT x y fun a b=>ok (.int (max a b))
noncomputable def tV(x lo hi:V):R V:=bc (dD x) fun l=>bc (match lo with | .none=>ok 0 | v=>fm v) fun a=>bc (fm hi) fun b=>
 iff (0≤a∧0≤b∧a≤lim∧b≤lim) (ok (.Jq ((l.take b.toNat).drop a.toNat)))
noncomputable def qd{α:Type}(r:R α):R α:=fun Q Z=>r Q False
noncomputable def A7(o:Option V)(r:List V):List V:=match o with
 |some u=>u::r
 |.none=>r
noncomputable def o8(f:V→R (Option V)):List V→R (List V)
 | []=>ok []
 |v::l=>bc (f v) fun o=>bc (o8 f l) fun r=>ok (A7 o r)
noncomputable def ty(p:V×List V):R V:=match p.1 with
 |.none=>ft p.2.head?
 |_=>bad
noncomputable def plain(ρ:Env):Env:=ρ.map (Option.map fun p=>(false,p.2))
noncomputable def aY(F:FT):CE→Env→R V
 |.f v,_=>ok v
 |.c i,ρ=>qZ ρ i
 |.nil,_=>ok (.Js [])
 |.cons e r,ρ=>bc (aY F e ρ) fun v=>bc (aY F r ρ) fun w=>bc (jl w) fun l=>ok (.Js (v::l))
 |.Js xs,ρ=>bc (aY F xs ρ) fun w=>bc (jl w) fun l=>ok (.Js l)
 |.Jq xs,ρ=>bc (aY F xs ρ) fun w=>bc (jl w) fun l=>ok (.Jq l)
 |.un u e,ρ=>bc (aY F e ρ) (l6 u)
 |.h b x y,ρ=>bc (aY F x ρ) fun v=>bc (aY F y ρ) fun w=>eP b v w
 |.y x y,ρ=>bc (aY F x ρ) fun v=>bc (da v) fun t=>cond t (aY F y ρ) (ok v)
 |.D x y,ρ=>bc (aY F x ρ) fun v=>bc (da v) fun t=>cond t (ok v) (aY F y ρ)
 |.J2 c x y,ρ=>bc (aY F c ρ) fun v=>bc (da v) fun t=>cond t (aY F x ρ) (aY F y ρ)
 |.J8 x p y q z,ρ=>bc (aY F x ρ) fun a=>bc (aY F y ρ) fun b=>bc (eP p a b) fun r=>bc (da r) fun t=>cond t (bc (aY F z ρ) fun c=>eP q b c) (ok r)
 |.slice x lo hi,ρ=>bc (aY F x ρ) fun v=>bc (aY F lo ρ) fun a=>bc (aY F hi ρ) fun b=>tV v a b
 |.call f xs,ρ=>bc (aY F xs ρ) fun w=>bc (jl w) fun l=>bc (F f l) fun p=>ok p.1
 |.Kb f x xs,ρ=>bc (aY F x ρ) fun v=>bc (nY v) fun q=>iff (q.1=57) (bc (aY F xs ρ) fun w=>bc (jl w) fun l=>bc (F f (v::l)) fun p=>ok p.1)
 |.J6 f xs,ρ=>bc (aY F xs ρ) fun w=>bc (jl w) fun l=>bc (F f (.obj f []::l)) ty
 |.comp elt i iter,ρ=>bc (aY F iter ρ) fun s=>bc (j9 s) fun l=>iff (l.length≤lim) (bc (qd (o8 (fun v=>bc (aY F elt (ρ.set i (some (false,v)))) fun u=>ok (some u)) l)) fun r=>ok (.Jq r))
 |.Jz elt i iter c,ρ=>bc (aY F iter ρ) fun s=>bc (j9 s) fun l=>iff (l.length≤lim) (bc (qd (o8 (fun v=>bc (aY F c (ρ.set i (some (false,v)))) fun x=>bc (da x) fun t=>
   cond t (bc (aY F elt (ρ.set i (some (false,v)))) fun u=>ok (some u)) (ok .none)) l)) fun r=>ok (.Jq r))
 |.idx x y,ρ=>bc (aY F x ρ) fun v=>bc (dD v) fun l=>bc (aY F y ρ) fun w=>eP .KD (.Jq l) w
 |.u e,ρ=>bc (aY F e (plain ρ)) fun v=>cond (gB 20 v) (ok v) bad
 |.Ka e,ρ=>bc (aY F e (plain ρ)) fun v=>bc (dD v) fun l=>cond (l.all (gB 20)) (ok (.Jq l)) bad
 |.Kn,_=>ok (.Jv 0)
 |.own _,_=>bad
noncomputable def cS:T→V→Env→Option Env
 |.v i,x,ρ=>some (ρ.set i (some (false,x)))
 |.nil,.Js [],ρ=>some ρ
 |.cons t r,.Js (x::l),ρ=>(cS t x ρ).bind fun ρ'=>cS r (.Js l) ρ'
 |_,_,_=>none
noncomputable def fT(step:V→Env→R (Flow×Env)):List V→Env→R (Flow×Env)
 | [],ρ=>ok (.nxt,ρ)
 |v::l,ρ=>bc (step v ρ) fun p=>match p.1 with
  |.ret u=>ok (.ret u,p.2)
  |_=>fT step l p.2
noncomputable def gS(test:Env→R Bool)(body:Env→R (Flow×Env)):Nat→Env→R (Flow×Env)
 |0,_=>bad
 |n+1,ρ=>bc (test ρ) fun t=>cond t (bc (body ρ) fun p=>match p.1 with
  |.ret u=>ok (.ret u,p.2)
  |_=>gS test body n p.2) (ok (.nxt,ρ))
noncomputable def jY(ρ:Env)(i:Nat):R V:=match ρ[i]? with
 |some (some (true,v))=>ok v
 |_=>bad
noncomputable def nS(ρ:Env)(i:Nat):R (List V):=bc (jY ρ i) dD
noncomputable def fq(ρ:Env)(i:Nat)(v:V):Env:=ρ.set i (some (true,v))
noncomputable def yU(F:FT)(ρ:Env):CE→R (List (Option Nat×V))
 |.nil=>ok []
 |.cons e r=>bc (match e with
   |.own i=>bc (jY ρ i) fun v=>ok (some i,v)
   |e=>bc (aY F e ρ) fun v=>ok (none,v)) fun p=>bc (yU F ρ r) fun l=>ok (p::l)
 |_=>bad
noncomputable def qU:List (Option Nat×V)→List V→Env→Option Env
 | [],[],ρ=>some ρ
 |(some i,_)::l,v::r,ρ=>qU l r (fq ρ i v)
 |(none,_)::l,r,ρ=>qU l r ρ
 |_,_,_=>none
noncomputable def tQ:V→R Unit
 |.none=>ok ()
 |.int _=>ok ()
 |_=>bad
noncomputable def oB(ρ:Env)(i k:Nat)(v:V):R Env:=bc (jY ρ i) fun o=>bc (nY o) fun p=>iff (p.1=0↔100≤k)<| ok (fq ρ i (.obj p.1 (gd k v p.2)))
noncomputable def bJ(F:FT)(io:List Nat):CS→Env→R (Flow×Env)
 |.k,ρ=>ok (.nxt,ρ)
 |.seq s t,ρ=>bc (bJ F io s ρ) fun p=>match p.1 with
  |.nxt=>bJ F io t p.2
  |f=>ok (f,p.2)
 |.q t e,ρ=>bc (aY F e ρ) fun v=>bc (ft (cS t v ρ)) fun ρ'=>ok (.nxt,ρ')
 |.new i e,ρ=>iff (i∉io) (bc (aY F e ρ) fun v=>bc (dD v) fun l=>ok (.nxt,fq ρ i (.Jq l)))
 |.KT i,ρ=>iff (i∉io) (ok (.nxt,fq ρ i (.obj 0 [(100,.Jq []),(101,.Jq []),(102,.Jq [])])))
 |.Kv i f xs,ρ=>iff (i∉io) (bc (aY F xs ρ) fun w=>bc (jl w) fun l=>bc (F f (.obj f []::l)) fun p=>bc (ty p) fun v=>ok (.nxt,fq ρ i v))
 |.JO i,ρ=>iff (i∉io) (bc (jY ρ i) fun v=>ok (.nxt,ρ.set i (some (false,v))))
 |.r i,ρ=>ok (.nxt,ρ.set i none)
 |.app i e,ρ=>bc (nS ρ i) fun l=>bc (aY F e ρ) fun v=>iff (l.length≤lim) (ok (.nxt,fq ρ i (.Jq (l++[v]))))
 |.J3 i k e,ρ=>bc (aY F e ρ) fun v=>bc (nS ρ i) fun l=>bc (aY F k ρ) fun j=>bc (fm j) fun j=>bc (ft (o7 l.length j)) fun j=>ok (.nxt,fq ρ i (.Jq (l.set j v)))
 |.KA i e,ρ=>bc (nS ρ i) fun l=>bc (iB l) fun is=>bc (aY F e ρ) fun v=>bc (fm v) fun k=>iff (k∈is) (ok (.nxt,fq ρ i (.Jq ((is.erase k).map .int))))
 |.JT t i,ρ=>bc (nS ρ i) fun l=>bc (ft l.getLast?) fun v=>bc (ft (cS t v (fq ρ i (.Jq l.dropLast)))) fun ρ'=>ok (.nxt,ρ')
 |.JD i k e,ρ=>bc (aY F e ρ) fun v=>bc (oB ρ i k v) fun ρ'=>ok (.nxt,ρ')
 |.JZ i k e,ρ=>bc (aY F e ρ) fun v=>bc (dD v) fun l=>bc (oB ρ i k (.Jq l)) fun ρ'=>ok (.nxt,ρ')
 |.KF i k,ρ=>bc (oB ρ i k (.Jv 0)) fun ρ'=>ok (.nxt,ρ')
 |.JH i k e,ρ=>bc (jY ρ i) fun o=>bc (nY o) fun p=>iff (p.1=0↔100≤k)<| bc (ft (iO k p.2)) fun x=>bc (dD x) fun l=>bc (aY F e ρ) fun v=>iff (l.length≤lim) (ok (.nxt,fq ρ i (.obj p.1 (gd k (.Jq (l++[v])) p.2))))
 |.Kk i k x e,ρ=>bc (aY F e ρ) fun Z=>bc (jY ρ i) fun o=>bc (nY o) fun p=>iff (p.1≠0∧k<100)<| bc (ft (iO k p.2)) fun d=>bc (DE d) fun n=>bc (aY F x ρ) fun y=>bc (jl y) fun l=>bc (iB l) fun Z=>iff (n<1000∧l.length≤5) (ok (.nxt,fq ρ i (.obj p.1 (gd k (.Jv (n+1)) p.2))))
 |.Kt i e,ρ=>bc (qZ ρ i) fun o=>bc (aY F e ρ) fun v=>bc (fm o) fun a=>bc (fm v) fun b=>ok (.nxt,ρ.set i (some (false,.int (a+b))))
 |.p c s t,ρ=>bc (aY F c ρ) fun v=>bc (da v) fun b=>cond b (bJ F io s ρ) (bJ F io t ρ)
 |.J7 c s,ρ=>gS (fun ρ=>bc (aY F c ρ) da) (bJ F io s) lim ρ
 |.C t e s,ρ=>bc (aY F e ρ) fun x=>bc (j9 x) fun l=>iff (l.length≤lim) (fT (fun v ρ=>bc (ft (cS t v ρ)) (bJ F io s)) l ρ)
 |.J0 t e s,ρ=>bc (aY F e ρ) fun x=>bc (dD x) fun l=>iff (l.length≤lim) (fT (fun v ρ=>bc (ft (cS t v ρ)) (bJ F io s)) (l.mapIdx fun i v=>.Js [.int i,v]) ρ)
 |.Ki t f xs,ρ=>bc (yU F ρ xs) fun as=>bc (F f (as.map (·.2))) fun p=>bc (ft (qU as p.2 ρ)) fun ρ'=>bc (ft (cS t p.1 ρ')) fun ρ''=>ok (.nxt,ρ'')
 |.callX f xs,ρ=>bc (yU F ρ xs) fun as=>bc (F f (as.map (·.2))) fun p=>bc (tQ p.1) fun Z=>bc (ft (qU as p.2 ρ)) fun ρ'=>ok (.nxt,ρ')
 |.ret e,ρ=>bc (aY F e ρ) fun v=>ok (.ret v,ρ)
 |.Kd i,ρ=>bc (nS ρ i) fun l=>ok (.ret (.Jq l),ρ)
 |.cont,ρ=>ok (.cont,ρ)
 |.JC e,ρ=>bc (aY F e ρ) fun Z=>exc
 |.JL e u,ρ=>fun Q X=>aY F e ρ (fun v=>Q (.ret v,ρ)) (Q (.ret u,ρ))
structure Fn where
 Jy:Nat
 slots:Nat
 io:List Nat
 own:Bool
 body:CS
noncomputable def callF(tab:List Fn):Nat→FT
 |0,_,_=>bad
 |d+1,f,args=>match tab[f]? with
  |some fn=>iff (args.length=fn.Jy) (bc (bJ (callF tab d) fn.io fn.body (args.mapIdx (fun i v=>some (fn.io.contains i,v))++List.replicate (fn.slots - fn.Jy) none)) fun p=>
   match p.1 with
   |.cont=>bad
   |.nxt=>cond fn.own bad (bc (outs p.2 fn.io) fun l=>ok (.none,l))
   |.ret v=>bc (outs p.2 fn.io) fun l=>ok (v,l))
  |none=>bad
where outs (ρ:Env):List Nat→R (List V)
 | []=>ok []
 |i::r=>bc (jY ρ i) fun v=>bc (outs ρ r) fun l=>ok (v::l)
noncomputable def sE:CS:=
 (.seq (.p (.D (.h .eq (.c 0) (.f (.int 56))) (.D (.h .eq (.c 0) (.f (.int 42))) (.D (.h .eq (.c 0) (.f (.int 122))) (.h .eq (.c 0) (.f (.int 221)))))) (.ret (.f (.bool true))) .k)
 (.ret (.D (.h .eq (.c 0) (.f (.int 65050))) (.D (.h .eq (.c 0) (.f (.int 220))) (.h .eq (.c 0) (.f (.int 65041)))))))
noncomputable def wc:CS:=
 (.ret (.un .JG (.c 0)))
noncomputable def rO:CS:=
 (.ret (.h .eq (.un .JG (.c 0)) (.f (.int 5))))
noncomputable def wA:CS:=
 (.seq (.p (.h .eq (.h .item (.c 0) (.f (.int 0))) (.f (.int 69))) (.ret (.h .item (.c 0) (.f (.int 1)))) .k)
 (.seq (.p (.call 2 (.cons (.h .item (.c 0) (.f (.int 0))) .nil)) (.ret (.Js (.cons (.h .item (.c 0) (.f (.int 1))) .nil))) .k)
 (.ret (.Js .nil))))
noncomputable def oX:CS:=
 (.seq (.p (.h .eq (.c 0) (.f (.int 65046))) (.ret (.f (.int 111))) .k)
 (.seq (.p (.h .eq (.c 0) (.f (.int 65054))) (.ret (.f (.int 143))) .k)
 (.ret (.f (.int (-1))))))
noncomputable def oS:CS:=
 (.seq (.q (.v 2) (.h .item (.c 0) (.f (.int 0))))
 (.seq (.p (.un .JN (.c 2)) (.ret (.un .J1 (.c 2))) .k)
 (.seq (.p (.h .eq (.c 2) (.f (.int 42))) (.ret (.Js (.cons (.Kb 8 (.c 1) .nil) (.cons (.f (.int 0)) .nil)))) .k)
 (.seq (.p (.D (.h .eq (.c 2) (.f (.int 40))) (.h .eq (.c 2) (.f (.int 111)))) (.seq (.p (.h .eq (.h .item (.h .item (.c 0) (.f (.int 1))) (.f (.int 1))) (.f (.int 0))) (.JC (.f (.int 0))) .k)
 (.ret (.Kb 7 (.c 1) (.cons (.h .item (.c 0) (.f (.int 1))) .nil)))) .k)
 (.seq (.p (.h .eq (.c 2) (.f (.int 115))) (.seq (.p (.h .eq (.h .item (.h .item (.c 0) (.f (.int 1))) (.f (.int 1))) (.f (.int 0))) (.ret (.Js (.cons (.f (.int 0)) (.cons (.f (.int 1)) .nil)))) .k)
 (.seq (.q (.v 3) (.h .item (.Kb 7 (.c 1) (.cons (.h .item (.c 0) (.f (.int 1))) .nil)) (.f (.int 0))))
 (.seq (.p (.h .lt (.c 3) (.f (.int 1))) (.JC (.h .item (.h .item (.c 0) (.f (.int 1))) (.f (.int 1)))) .k)
 (.ret (.Js (.cons (.h .sub (.c 3) (.f (.int 1))) (.cons (.f (.int 1)) .nil))))))) .k)
 (.JC (.c 2)))))))
noncomputable def rU:CS:=
 (.ret (.h .ne (.h .Ks (.un (.attr 5) (.c 0)) (.f (.int 1))) (.f (.int 0))))
noncomputable def oN:CS:=
 (.seq (.q (.v 2) (.call 9 (.cons (.un (.attr 0) (.c 0)) (.cons (.h .item (.c 1) (.f (.int 1))) .nil))))
 (.seq (.q (.v 3) (.un .len (.un (.attr 4) (.c 2))))
 (.seq (.p (.un .not (.call 6 (.cons (.c 2) .nil))) (.Kt 3 (.f (.int 1))) .k)
 (.seq (.q (.v 4) (.f (.int 1)))
 (.seq (.p (.h .eq (.un (.attr 3) (.c 2)) (.f (.int 0))) (.q (.v 4) (.f (.int 0))) .k)
 (.ret (.Js (.cons (.c 3) (.cons (.c 4) .nil)))))))))
noncomputable def sf:CS:=
 (.seq (.p (.h .eq (.un (.attr 3) (.call 9 (.cons (.un (.attr 0) (.c 0)) (.cons (.un (.attr 1) (.c 0)) .nil)))) (.f (.int 0))) (.ret (.f (.int 0))) .k)
 (.ret (.f (.int 1))))
noncomputable def mn:CS:=
 (.seq (.p (.D (.h .le (.c 1) (.f (.int 0))) (.D (.h .ge (.c 1) (.un .len (.un (.attr 2) (.c 0)))) (.un .isNone (.h .item (.un (.attr 2) (.c 0)) (.c 1))))) (.JC (.c 1)) .k)
 (.ret (.h .item (.un (.attr 2) (.c 0)) (.c 1))))
noncomputable def mQ:CS:=
 (.seq (.p (.h .eq (.h .item (.c 0) (.f (.int 0))) (.f (.int 1))) (.ret (.Js (.cons (.h .item (.c 0) (.f (.int 1))) (.cons (.h .item (.c 0) (.f (.int 2))) (.cons (.h .item (.c 0) (.f (.int 3))) (.cons (.h .item (.c 0) (.f (.int 4))) (.cons (.h .item (.c 0) (.f (.int 5))) .nil))))))) .k)
 (.ret (.Js (.cons (.h .item (.c 0) (.f (.int 1))) (.cons (.h .item (.c 0) (.f (.int 2))) (.cons (.h .item (.c 0) (.f (.int 3))) (.cons (.h .item (.c 0) (.f (.int 4))) .nil)))))))
noncomputable def j5:CS:=
 (.seq (.q (.v 2) (.un .len (.c 0)))
 (.C (.v 3) (.un .range (.un .len (.c 1))) (.seq (.q (.v 4) (.h .item (.c 1) (.c 3)))
 (.seq (.p (.D (.h .ge (.h .item (.c 4) (.f (.int 1))) (.c 2)) (.D (.h .ge (.h .item (.c 4) (.f (.int 3))) (.c 2)) (.y (.h .eq (.h .item (.c 4) (.f (.int 0))) (.f (.int 1))) (.h .ge (.h .item (.c 4) (.f (.int 5))) (.c 2))))) (.JC (.c 3)) .k)
 (.seq (.C (.v 5) (.call 10 (.cons (.c 4) .nil)) (.seq (.p (.D (.h .lt (.c 5) (.f (.int 0))) (.D (.h .gt (.c 5) (.c 2)) (.y (.h .gt (.c 5) (.f (.int 0))) (.h .ge (.call 4 (.cons (.h .item (.h .item (.c 0) (.h .sub (.c 5) (.f (.int 1)))) (.f (.int 0))) .nil)) (.f (.int 0)))))) (.JC (.c 3)) .k)
 (.r 5)))
 (.seq (.r 3)
 (.r 4)))))))
noncomputable def gR:CS:=
 (.seq (.q (.v 2) (.un .len (.c 0)))
 (.seq (.new 3 (.Jq .nil))
 (.seq (.p (.y (.un .not (.call 0 (.cons (.h .item (.h .item (.c 0) (.c 1)) (.f (.int 0))) .nil))) (.h .lt (.h .add (.c 1) (.f (.int 1))) (.c 2))) (.app 3 (.h .add (.c 1) (.f (.int 1)))) .k)
 (.seq (.C (.v 4) (.call 3 (.cons (.h .item (.c 0) (.c 1)) .nil)) (.seq (.p (.D (.h .lt (.c 4) (.f (.int 0))) (.h .ge (.c 4) (.c 2))) (.JC (.c 1)) .k)
 (.seq (.p (.u (.h .JI (.c 4) (.c 3))) (.app 3 (.c 4)) .k)
 (.r 4))))
 (.ret (.u (.un .JE (.c 3))))))))
noncomputable def iE:CS:=
 (.seq (.p (.u (.D (.h .lt (.c 2) (.f (.int 0))) (.h .ge (.c 2) (.un .len (.c 0))))) (.JC (.c 2)) .k)
 (.p (.u (.h .lt (.h .item (.c 0) (.c 2)) (.f (.int 0)))) (.seq (.J3 0 (.c 2) (.c 3))
 (.app 1 (.c 2))) (.p (.u (.h .ne (.h .item (.c 0) (.c 2)) (.c 3))) (.JC (.c 2)) .k)))
noncomputable def eg:CS:=
 (.seq (.p (.h .gt (.un .len (.c 0)) (.f (.int 0))) (.callX 13 (.cons (.own 2) (.cons (.own 3) (.cons (.f (.int 0)) (.cons (.f (.int 0)) .nil))))) .k)
 (.C (.v 4) (.c 1) (.seq (.q (.v 5) (.f (.int 0)))
 (.seq (.p (.D (.h .eq (.h .item (.c 4) (.f (.int 0))) (.f (.int 0))) (.h .eq (.h .item (.c 4) (.f (.int 0))) (.f (.int 1)))) (.q (.v 5) (.f (.int 1))) .k)
 (.seq (.callX 13 (.cons (.own 2) (.cons (.own 3) (.cons (.h .item (.c 4) (.f (.int 3))) (.cons (.c 5) .nil)))))
 (.seq (.p (.h .eq (.h .item (.c 4) (.f (.int 0))) (.f (.int 1))) (.callX 13 (.cons (.own 2) (.cons (.own 3) (.cons (.h .item (.c 4) (.f (.int 5))) (.cons (.f (.int 1)) .nil))))) .k)
 (.seq (.r 4)
 (.r 5))))))))
noncomputable def gj:CS:=
 (.seq (.p (.h .lt (.call 1 (.cons (.h .item (.h .item (.c 0) (.c 1)) (.f (.int 0))) .nil)) (.f (.int 0))) (.JC (.c 1)) .k)
 (.seq (.q (.cons (.v 4) (.cons (.v 5) .nil)) (.call 5 (.cons (.h .item (.c 0) (.c 1)) (.cons (.c 3) .nil))))
 (.seq (.p (.h .gt (.c 4) (.c 2)) (.JC (.c 1)) .k)
 (.seq (.p (.h .eq (.h .item (.h .item (.c 0) (.c 1)) (.f (.int 0))) (.f (.int 221))) (.ret (.f (.int 0))) .k)
 (.ret (.h .add (.h .sub (.c 2) (.c 4)) (.c 5)))))))
noncomputable def dB:CS:=
 (.seq (.callX 11 (.cons (.c 0) (.cons (.c 1) .nil)))
 (.seq (.new 3 (.h .mul (.Jq (.cons (.f (.int (-1))) .nil)) (.un .len (.c 0))))
 (.seq (.new 4 (.Jq .nil))
 (.seq (.callX 14 (.cons (.c 0) (.cons (.c 1) (.cons (.own 3) (.cons (.own 4) .nil)))))
 (.seq (.q (.v 5) (.f (.int 0)))
 (.seq (.J7 (.u (.h .gt (.un .len (.c 4)) (.f (.int 0)))) (.seq (.JT (.v 6) 4)
 (.seq (.q (.v 7) (.u (.call 15 (.cons (.c 0) (.cons (.c 6) (.cons (.h .item (.c 3) (.c 6)) (.cons (.c 2) .nil)))))))
 (.seq (.p (.u (.h .gt (.h .item (.c 3) (.c 6)) (.c 5))) (.q (.v 5) (.u (.h .item (.c 3) (.c 6)))) .k)
 (.seq (.p (.h .gt (.c 7) (.c 5)) (.q (.v 5) (.c 7)) .k)
 (.seq (.C (.v 8) (.call 12 (.cons (.c 0) (.cons (.c 6) .nil))) (.seq (.callX 13 (.cons (.own 3) (.cons (.own 4) (.cons (.c 8) (.cons (.c 7) .nil)))))
 (.r 8)))
 (.seq (.r 6)
 (.r 7))))))))
 (.ret (.c 5))))))))
noncomputable def lO:CS:=
 (.p (.u (.y (.h .ge (.c 2) (.f (.int 0))) (.y (.h .lt (.c 2) (.un .len (.c 0))) (.un .not (.h .item (.c 0) (.c 2)))))) (.seq (.J3 0 (.c 2) (.f (.bool true)))
 (.app 1 (.c 2))) .k)
noncomputable def dW:CS:=
 (.seq (.new 2 (.h .mul (.Jq (.cons (.f (.bool false)) .nil)) (.un .len (.c 0))))
 (.seq (.new 3 (.Jq .nil))
 (.seq (.callX 17 (.cons (.own 2) (.cons (.own 3) (.cons (.f (.int 0)) .nil))))
 (.seq (.J7 (.u (.h .gt (.un .len (.c 3)) (.f (.int 0)))) (.seq (.JT (.v 4) 3)
 (.seq (.C (.v 5) (.call 12 (.cons (.c 0) (.cons (.c 4) .nil))) (.seq (.callX 17 (.cons (.own 2) (.cons (.own 3) (.cons (.c 5) .nil))))
 (.r 5)))
 (.seq (.C (.v 6) (.c 1) (.seq (.p (.y (.h .le (.h .item (.c 6) (.f (.int 1))) (.c 4)) (.h .lt (.c 4) (.h .item (.c 6) (.f (.int 2))))) (.seq (.callX 17 (.cons (.own 2) (.cons (.own 3) (.cons (.h .item (.c 6) (.f (.int 3))) .nil))))
 (.p (.h .eq (.h .item (.c 6) (.f (.int 0))) (.f (.int 1))) (.callX 17 (.cons (.own 2) (.cons (.own 3) (.cons (.h .item (.c 6) (.f (.int 5))) .nil)))) .k)) .k)
 (.r 6)))
 (.r 4)))))
 (.Kd 2)))))
noncomputable def qL:CS:=
 (.seq (.new 1 (.Jq .nil))
 (.seq (.q (.v 2) (.f (.int 0)))
 (.seq (.C (.v 3) (.c 0) (.seq (.app 1 (.c 2))
 (.seq (.p (.c 3) (.Kt 2 (.f (.int 1))) .k)
 (.r 3))))
 (.seq (.app 1 (.c 2))
 (.seq (.JO 1)
 (.ret (.c 1)))))))
noncomputable def oh:CS:=
 (.seq (.p (.h .eq (.h .item (.c 0) (.f (.int 0))) (.f (.int 69))) (.seq (.new 2 (.Jq .nil))
 (.seq (.C (.v 3) (.h .item (.c 0) (.f (.int 1))) (.seq (.app 2 (.h .item (.c 1) (.c 3)))
 (.r 3)))
 (.ret (.u (.Js (.cons (.h .item (.c 0) (.f (.int 0))) (.cons (.un .JE (.c 2)) .nil))))))) .k)
 (.seq (.p (.call 2 (.cons (.h .item (.c 0) (.f (.int 0))) .nil)) (.ret (.Js (.cons (.h .item (.c 0) (.f (.int 0))) (.cons (.h .item (.c 1) (.h .item (.c 0) (.f (.int 1)))) .nil)))) .k)
 (.ret (.c 0))))
noncomputable def oR:CS:=
 (.seq (.q (.v 2) (.h .item (.c 0) (.f (.int 5))))
 (.seq (.p (.h .eq (.h .item (.c 0) (.f (.int 0))) (.f (.int 1))) (.q (.v 2) (.h .item (.c 1) (.c 2))) .k)
 (.ret (.Js (.cons (.h .item (.c 0) (.f (.int 0))) (.cons (.h .item (.c 1) (.h .item (.c 0) (.f (.int 1)))) (.cons (.h .item (.c 1) (.h .item (.c 0) (.f (.int 2)))) (.cons (.h .item (.c 1) (.h .item (.c 0) (.f (.int 3)))) (.cons (.h .item (.c 1) (.h .item (.c 0) (.f (.int 4)))) (.cons (.c 2) .nil))))))))))
noncomputable def sg:CS:=
 (.seq (.q (.v 3) (.call 19 (.cons (.c 2) .nil)))
 (.seq (.new 4 (.Jq .nil))
 (.seq (.C (.v 5) (.un .range (.un .len (.c 0))) (.seq (.p (.h .item (.c 2) (.c 5)) (.app 4 (.call 20 (.cons (.h .item (.c 0) (.c 5)) (.cons (.c 3) .nil)))) .k)
 (.r 5)))
 (.seq (.new 6 (.Jq .nil))
 (.seq (.C (.v 7) (.c 1) (.seq (.app 6 (.call 21 (.cons (.c 7) (.cons (.c 3) .nil))))
 (.r 7)))
 (.seq (.JO 4)
 (.seq (.JO 6)
 (.ret (.Js (.cons (.c 4) (.cons (.c 6) (.cons (.c 3) .nil))))))))))))
noncomputable def jF:CS:=
 (.seq (.C (.v 2) (.h .J5 (.h .item (.c 0) (.f (.int 1))) (.h .item (.c 0) (.f (.int 2)))) (.seq (.p (.h .item (.c 1) (.c 2)) (.ret (.f (.bool true))) .k)
 (.r 2)))
 (.ret (.f (.bool false))))
noncomputable def gG:CS:=
 (.seq (.callX 11 (.cons (.c 0) (.cons (.c 1) .nil)))
 (.seq (.q (.v 2) (.Jz (.c 3) 3 (.c 1) (.h .lt (.h .item (.c 3) (.f (.int 3))) (.h .item (.c 3) (.f (.int 4))))))
 (.seq (.new 4 (.call 18 (.cons (.c 0) (.cons (.c 2) .nil))))
 (.seq (.new 5 (.Jq .nil))
 (.seq (.C (.v 3) (.c 2) (.seq (.p (.u (.call 23 (.cons (.c 3) (.cons (.c 4) .nil)))) (.app 5 (.c 3)) .k)
 (.r 3)))
 (.seq (.JO 5)
 (.seq (.C (.v 3) (.c 5) (.seq (.p (.y (.h .eq (.h .item (.c 3) (.f (.int 0))) (.f (.int 1))) (.y (.h .gt (.h .item (.c 3) (.f (.int 3))) (.f (.int 0))) (.h .eq (.h .item (.h .item (.c 0) (.h .sub (.h .item (.c 3) (.f (.int 3))) (.f (.int 1)))) (.f (.int 0))) (.f (.int 65041))))) (.J3 4 (.h .sub (.h .item (.c 3) (.f (.int 3))) (.f (.int 1))) (.f (.bool true))) .k)
 (.r 3)))
 (.seq (.JO 4)
 (.ret (.call 22 (.cons (.c 0) (.cons (.c 5) (.cons (.c 4) .nil)))))))))))))
noncomputable def qo:CS:=
 (.seq (.new 2 (.Jq .nil))
 (.seq (.C (.v 3) (.un .range (.un .len (.c 0))) (.seq (.q (.v 4) (.h .item (.c 0) (.c 3)))
 (.seq (.p (.y (.h .le (.h .item (.c 4) (.f (.int 1))) (.c 1)) (.h .lt (.c 1) (.h .item (.c 4) (.f (.int 2))))) (.app 2 (.h .mul (.f (.int 3)) (.c 3))) .k)
 (.seq (.p (.y (.h .eq (.h .item (.c 4) (.f (.int 0))) (.f (.int 1))) (.y (.h .le (.h .item (.c 4) (.f (.int 5))) (.c 1)) (.h .lt (.c 1) (.h .item (.c 4) (.f (.int 3)))))) (.app 2 (.h .add (.h .mul (.f (.int 3)) (.c 3)) (.f (.int 1)))) .k)
 (.seq (.p (.y (.h .le (.h .item (.c 4) (.f (.int 3))) (.c 1)) (.h .lt (.c 1) (.h .item (.c 4) (.f (.int 4))))) (.app 2 (.h .add (.h .mul (.f (.int 3)) (.c 3)) (.f (.int 2)))) .k)
 (.seq (.r 3)
 (.r 4)))))))
 (.ret (.u (.un .JE (.c 2))))))
noncomputable def eV:CS:=
 (.seq (.q (.v 4) (.call 25 (.cons (.c 1) (.cons (.c 2) .nil))))
 (.seq (.new 5 (.Jq .nil))
 (.seq (.q (.v 6) (.call 27 (.cons (.c 0) (.cons (.c 2) (.cons (.c 3) .nil)))))
 (.seq (.J7 (.y (.h .eq (.h .item (.h .item (.c 0) (.c 6)) (.f (.int 0))) (.f (.int 56))) (.h .eq (.call 25 (.cons (.c 1) (.cons (.c 6) .nil))) (.c 4))) (.seq (.p (.u (.h .JK (.c 6) (.c 5))) (.ret (.c 3)) .k)
 (.seq (.app 5 (.c 6))
 (.q (.v 6) (.call 27 (.cons (.c 0) (.cons (.c 6) (.cons (.h .item (.h .item (.c 0) (.c 6)) (.f (.int 1))) .nil))))))))
 (.ret (.c 6))))))
noncomputable def oi:CS:=
 (.seq (.p (.D (.h .lt (.c 2) (.f (.int 0))) (.h .ge (.c 2) (.un .len (.c 0)))) (.JC (.c 1)) .k)
 (.ret (.c 2)))
noncomputable def fK:CS:=
 (.seq (.q (.v 3) (.h .item (.c 0) (.c 2)))
 (.seq (.p (.h .eq (.h .item (.c 3) (.f (.int 0))) (.f (.int 69))) (.seq (.new 4 (.Jq .nil))
 (.seq (.C (.v 5) (.h .item (.c 3) (.f (.int 1))) (.seq (.app 4 (.call 26 (.cons (.c 0) (.cons (.c 1) (.cons (.c 2) (.cons (.c 5) .nil))))))
 (.r 5)))
 (.ret (.u (.Js (.cons (.h .item (.c 3) (.f (.int 0))) (.cons (.un .JE (.c 4)) .nil))))))) .k)
 (.seq (.p (.y (.call 2 (.cons (.h .item (.c 3) (.f (.int 0))) .nil)) (.h .ne (.h .item (.c 3) (.f (.int 0))) (.f (.int 221)))) (.ret (.Js (.cons (.h .item (.c 3) (.f (.int 0))) (.cons (.call 26 (.cons (.c 0) (.cons (.c 1) (.cons (.c 2) (.cons (.h .item (.c 3) (.f (.int 1))) .nil))))) .nil)))) .k)
 (.seq (.p (.h .eq (.h .item (.c 3) (.f (.int 0))) (.f (.int 221))) (.callX 27 (.cons (.c 0) (.cons (.c 2) (.cons (.h .item (.c 3) (.f (.int 1))) .nil)))) .k)
 (.ret (.c 3))))))
noncomputable def pA:CS:=
 (.seq (.C (.v 2) (.c 0) (.seq (.p (.h .JK (.c 1) (.call 10 (.cons (.c 2) .nil))) (.ret (.f (.bool true))) .k)
 (.r 2)))
 (.ret (.f (.bool false))))
noncomputable def ie:CS:=
 (.seq (.callX 11 (.cons (.c 0) (.cons (.c 1) .nil)))
 (.seq (.q (.v 2) (.h .add (.un .len (.c 0)) (.f (.int 1))))
 (.seq (.J7 (.h .lt (.un .len (.c 0)) (.c 2)) (.seq (.q (.v 2) (.un .len (.c 0)))
 (.q (.cons (.v 0) (.cons (.v 1) .nil)) (.call 31 (.cons (.c 0) (.cons (.c 1) .nil))))))
 (.ret (.Js (.cons (.c 0) (.cons (.c 1) .nil)))))))
noncomputable def nq:CS:=
 (.seq (.new 2 (.Jq .nil))
 (.seq (.C (.v 3) (.un .range (.un .len (.c 0))) (.seq (.app 2 (.call 28 (.cons (.c 0) (.cons (.c 1) (.cons (.c 3) .nil)))))
 (.r 3)))
 (.seq (.JO 2)
 (.seq (.new 4 (.Jq .nil))
 (.seq (.C (.v 3) (.un .range (.un .len (.c 2))) (.seq (.q (.v 5) (.y (.h .eq (.h .item (.h .item (.c 2) (.c 3)) (.f (.int 0))) (.f (.int 56))) (.y (.h .eq (.h .item (.h .item (.c 2) (.c 3)) (.f (.int 1))) (.h .add (.c 3) (.f (.int 1)))) (.h .lt (.h .add (.c 3) (.f (.int 1))) (.un .len (.c 2))))))
 (.seq (.app 4 (.D (.un .not (.c 5)) (.D (.call 29 (.cons (.c 1) (.cons (.c 3) .nil))) (.call 29 (.cons (.c 1) (.cons (.h .add (.c 3) (.f (.int 1))) .nil))))))
 (.seq (.r 3)
 (.r 5)))))
 (.seq (.JO 4)
 (.seq (.q (.v 6) (.call 22 (.cons (.c 2) (.cons (.c 1) (.cons (.c 4) .nil)))))
 (.ret (.Js (.cons (.h .item (.c 6) (.f (.int 0))) (.cons (.h .item (.c 6) (.f (.int 1))) .nil)))))))))))
noncomputable def vK:CS:=
 (.seq (.q (.v 1) (.Jq (.cons (.Js (.cons (.f (.int 42)) (.cons (.f (.int 0)) (.cons (.f (.int 0)) (.cons (.c 0) .nil))))) .nil)))
 (.seq (.p (.c 0) (.q (.v 1) (.h .add (.Jq (.cons (.Js (.cons (.f (.int 32)) (.cons (.f (.int 0)) (.cons (.f (.int 0)) (.cons (.f (.int 1)) .nil))))) .nil)) (.c 1))) .k)
 (.ret (.c 1))))
noncomputable def tZ:CS:=
 (.seq (.q (.cons (.v 1) (.cons (.v 2) .nil)) (.h .item (.Js (.cons (.Js (.cons (.f (.int 0)) (.cons (.f (.int 1)) .nil))) (.cons (.Js (.cons (.f (.int 2)) (.cons (.f (.int 0)) .nil))) (.cons (.Js (.cons (.f (.int 2)) (.cons (.f (.int 1)) .nil))) (.cons (.Js (.cons (.f (.int 1)) (.cons (.f (.int 0)) .nil))) .nil))))) (.h .fmod (.c 0) (.f (.int 4)))))
 (.seq (.new 3 (.comp (.Js (.cons (.f (.int 32)) (.cons (.f (.int 0)) (.cons (.f (.int 0)) (.cons (.h .add (.c 4) (.f (.int 1))) .nil))))) 4 (.un .range (.c 1))))
 (.seq (.app 3 (.Js (.cons (.h .item (.Js (.cons (.f (.int 40)) (.cons (.f (.int 111)) .nil))) (.h .fmod (.h .fdiv (.c 0) (.f (.int 4))) (.f (.int 2)))) (.cons (.Js (.cons (.f (.int 7)) (.cons (.h .add (.f (.int 1)) (.h .fmod (.c 0) (.f (.int 4)))) (.cons (.Js .nil) .nil)))) (.cons (.f (.int 0)) (.cons (.h .Kw (.c 1) (.c 2)) .nil))))))
 (.seq (.p (.c 2) (.app 3 (.Js (.cons (.f (.int 38)) (.cons (.f (.int 0)) (.cons (.f (.int 0)) (.cons (.f (.int 1)) .nil)))))) .k)
 (.seq (.JO 3)
 (.ret (.c 3)))))))
noncomputable def v9:CS:=
 (.seq (.p (.h .eq (.h .fmod (.c 0) (.f (.int 4))) (.f (.int 0))) (.ret (.Jq (.cons (.Js (.cons (.f (.int 220)) (.cons (.f (.int 0)) (.cons (.f (.int 0)) (.cons (.f (.int 0)) .nil))))) .nil))) .k)
 (.seq (.p (.h .eq (.h .fmod (.c 0) (.f (.int 4))) (.f (.int 1))) (.ret (.Jq (.cons (.Js (.cons (.f (.int 32)) (.cons (.f (.int 0)) (.cons (.f (.int 0)) (.cons (.f (.int 1)) .nil))))) (.cons (.Js (.cons (.f (.int 65041)) (.cons (.f (.int 0)) (.cons (.f (.int 0)) (.cons (.f (.int 1)) .nil))))) .nil)))) .k)
 (.seq (.p (.h .eq (.h .fmod (.c 0) (.f (.int 4))) (.f (.int 2))) (.ret (.Jq (.cons (.Js (.cons (.f (.int 65050)) (.cons (.f (.int 0)) (.cons (.f (.int 0)) (.cons (.f (.int 0)) .nil))))) .nil))) .k)
 (.ret (.Jq (.cons (.Js (.cons (.f (.int 38)) (.cons (.f (.int 0)) (.cons (.f (.int 0)) (.cons (.f (.int (-1))) .nil))))) .nil))))))
noncomputable def tJ:CS:=
 (.seq (.q (.v 2) (.h .fmod (.c 0) (.f (.int 14))))
 (.seq (.q (.v 3) (.h .fdiv (.c 0) (.f (.int 14))))
 (.seq (.q (.v 4) (.Js (.cons (.f (.int 32)) (.cons (.f (.int 0)) (.cons (.f (.int 0)) (.cons (.f (.int 1)) .nil))))))
 (.seq (.p (.h .lt (.c 2) (.f (.int 3))) (.ret (.Jq (.cons (.Js (.cons (.f (.int 56)) (.cons (.c 3) (.cons (.f (.int 1)) (.cons (.f (.int 0)) .nil))))) .nil))) .k)
 (.seq (.p (.h .eq (.c 2) (.f (.int 3))) (.ret (.Jq (.cons (.Js (.cons (.f (.int 0)) (.cons (.f (.int 0)) (.cons (.f (.int 0)) (.cons (.f (.int 0)) .nil))))) .nil))) .k)
 (.seq (.p (.h .eq (.c 2) (.f (.int 4))) (.ret (.Jq (.cons (.c 4) (.cons (.Js (.cons (.h .add (.f (.int 57)) (.h .fmod (.h .fdiv (.c 3) (.f (.int 7))) (.f (.int 2)))) (.cons (.c 3) (.cons (.f (.int 1)) (.cons (.f (.int 1)) .nil))))) .nil)))) .k)
 (.seq (.p (.h .eq (.c 2) (.f (.int 5))) (.ret (.Jq (.cons (.c 4) (.cons (.Js (.cons (.f (.int 32)) (.cons (.f (.int 0)) (.cons (.f (.int 0)) (.cons (.f (.int 2)) .nil))))) (.cons (.Js (.cons (.h .add (.f (.int 59)) (.h .fmod (.h .fdiv (.c 3) (.f (.int 7))) (.f (.int 10)))) (.cons (.c 3) (.cons (.f (.int 1)) (.cons (.f (.int 2)) .nil))))) .nil))))) .k)
 (.seq (.p (.h .eq (.c 2) (.f (.int 6))) (.ret (.Jq (.cons (.c 4) (.cons (.Js (.cons (.f (.int 69)) (.cons (.c 3) (.cons (.f (.int 3)) (.cons (.f (.int 1)) .nil))))) .nil)))) .k)
 (.seq (.p (.h .eq (.c 2) (.f (.int 7))) (.ret (.Jq (.cons (.c 4) (.cons (.Js (.cons (.f (.int 38)) (.cons (.f (.int 0)) (.cons (.f (.int 0)) (.cons (.f (.int 1)) .nil))))) .nil)))) .k)
 (.seq (.p (.h .eq (.c 2) (.f (.int 8))) (.ret (.call 33 (.cons (.c 3) .nil))) .k)
 (.seq (.p (.h .eq (.c 2) (.f (.int 9))) (.ret (.call 32 (.cons (.c 1) .nil))) .k)
 (.seq (.p (.h .eq (.c 2) (.f (.int 10))) (.ret (.Jq (.cons (.Js (.cons (.f (.int 20)) (.cons (.f (.int 0)) (.cons (.f (.int 0)) (.cons (.f (.int 1)) .nil))))) (.cons (.Js (.cons (.f (.int 122)) (.cons (.f (.int 0)) (.cons (.f (.int 0)) (.cons (.f (.int 1)) .nil))))) .nil)))) .k)
 (.seq (.p (.h .eq (.c 2) (.f (.int 11))) (.ret (.Jq (.cons (.Js (.cons (.f (.int 221)) (.cons (.c 3) (.cons (.f (.int 1)) (.cons (.f (.int 0)) .nil))))) .nil))) .k)
 (.seq (.p (.h .eq (.c 2) (.f (.int 12))) (.ret (.call 34 (.cons (.c 3) .nil))) .k)
 (.ret (.Jq (.cons (.c 4) (.cons (.Js (.cons (.f (.int 58)) (.cons (.f (.int 3)) (.cons (.f (.int 2)) (.cons (.f (.int 1)) .nil))))) (.cons (.c 4) (.cons (.Js (.cons (.f (.int 56)) (.cons (.f (.int 2)) (.cons (.f (.int 2)) (.cons (.f (.int 1)) .nil))))) (.cons (.c 4) (.cons (.Js (.cons (.f (.int 56)) (.cons (.f (.int 1)) (.cons (.f (.int 2)) (.cons (.f (.int 1)) .nil))))) (.cons (.Js (.cons (.f (.int 38)) (.cons (.f (.int 0)) (.cons (.f (.int 0)) (.cons (.f (.int 1)) .nil))))) .nil)))))))))))))))))))))))
noncomputable def dy:CS:=
 (.seq (.q (.v 4) (.u (.un .len (.un (.key 100) (.c 0)))))
 (.seq (.p (.h .eq (.c 2) (.f (.int 1))) (.seq (.q (.v 5) (.h .fmod (.h .fdiv (.c 1) (.f (.int 23))) (.f (.int 2))))
 (.seq (.JH 0 100 (.J2 (.c 5) (.Jq (.cons (.Js (.cons (.f (.int 122)) (.cons (.f (.int 0)) (.cons (.f (.int 0)) (.cons (.f (.int 1)) .nil))))) (.cons (.Js (.cons (.f (.int 65041)) (.cons (.f (.int 0)) (.cons (.f (.int 0)) (.cons (.f (.int 1)) .nil))))) .nil))) (.Jq (.cons (.Js (.cons (.f (.int 38)) (.cons (.f (.int 0)) (.cons (.f (.int 0)) (.cons (.f (.int 1)) .nil))))) (.cons (.Js (.cons (.f (.int 32)) (.cons (.f (.int 0)) (.cons (.f (.int 0)) (.cons (.f (.int 1)) .nil))))) (.cons (.Js (.cons (.f (.int 65041)) (.cons (.f (.int 0)) (.cons (.f (.int 0)) (.cons (.f (.int 1)) .nil))))) .nil))))))
 (.JH 0 101 (.f (.int 1))))) .k)
 (.seq (.q (.v 6) (.u (.un .len (.un (.key 100) (.c 0)))))
 (.seq (.p (.h .lt (.c 2) (.f (.int 2))) (.seq (.JH 0 100 (.Jq (.cons (.Js (.cons (.f (.int 38)) (.cons (.f (.int 0)) (.cons (.f (.int 0)) (.cons (.f (.int 1)) .nil))))) .nil)))
 (.JH 0 101 (.f (.int 1)))) (.seq (.JH 0 100 (.J2 (.h .eq (.h .fmod (.h .fdiv (.c 1) (.f (.int 19))) (.f (.int 3))) (.f (.int 2))) (.Jq (.cons (.Js (.cons (.f (.int 56)) (.cons (.f (.int 1)) (.cons (.f (.int 2)) (.cons (.f (.int 0)) .nil))))) .nil)) (.Jq (.cons (.Js (.cons (.f (.int 0)) (.cons (.f (.int 0)) (.cons (.f (.int 0)) (.cons (.f (.int 0)) .nil))))) .nil))))
 (.JH 0 101 (.f (.int 0)))))
 (.seq (.JH 0 100 (.call 35 (.cons (.h .fdiv (.c 1) (.f (.int 11))) (.cons (.c 3) .nil))))
 (.seq (.JH 0 100 (.J2 (.h .lt (.c 2) (.f (.int 2))) (.Jq (.cons (.Js (.cons (.f (.int 221)) (.cons (.h .fdiv (.c 1) (.f (.int 13))) (.cons (.f (.int 1)) (.cons (.f (.int 0)) .nil))))) .nil)) (.Jq (.cons (.Js (.cons (.f (.int 220)) (.cons (.f (.int 0)) (.cons (.f (.int 0)) (.cons (.f (.int 0)) .nil))))) .nil))))
 (.seq (.JZ 0 101 (.Ka (.h .add (.un (.key 101) (.c 0)) (.Jq (.cons (.f (.int 0)) (.cons (.f (.int 0)) .nil))))))
 (.seq (.q (.v 7) (.f (.int 3)))
 (.seq (.p (.h .eq (.h .fmod (.h .fdiv (.c 1) (.f (.int 17))) (.f (.int 11))) (.f (.int 10))) (.q (.v 7) (.f (.int 0))) (.p (.h .eq (.h .fmod (.h .fdiv (.c 1) (.f (.int 17))) (.f (.int 5))) (.f (.int 4))) (.q (.v 7) (.f (.int 2))) .k))
 (.ret (.Js (.cons (.c 4) (.cons (.c 6) (.cons (.h .add (.c 6) (.c 7)) .nil))))))))))))))
noncomputable def eR:CS:=
 (.seq (.q (.v 2) (.h .fmod (.c 1) (.f (.int 2))))
 (.seq (.q (.v 3) (.h .item (.Js (.cons (.f (.int 0)) (.cons (.f (.int 0)) (.cons (.f (.int 1)) (.cons (.f (.int 2)) .nil))))) (.h .fmod (.h .fdiv (.c 1) (.f (.int 2))) (.f (.int 4)))))
 (.seq (.KT 4)
 (.seq (.q (.v 5) (.f (.int 0)))
 (.seq (.C (.v 6) (.c 0) (.seq (.p (.h .lt (.c 5) (.h .sub (.f (.int 10)) (.h .mul (.f (.int 2)) (.c 3)))) (.seq (.JH 4 100 (.call 35 (.cons (.c 6) (.cons (.c 2) .nil))))
 (.Kt 5 (.u (.un .len (.h .item (.un (.key 100) (.c 4)) (.f (.int (-1)))))))) .k)
 (.r 6)))
 (.seq (.p (.D (.c 3) (.h .ne (.h .fmod (.h .fdiv (.c 1) (.f (.int 8))) (.f (.int 4))) (.f (.int 3)))) (.JH 4 100 (.call 32 (.cons (.c 2) .nil))) .k)
 (.seq (.q (.v 7) (.u (.un .len (.un (.key 100) (.c 4)))))
 (.seq (.JD 4 103 (.c 7))
 (.seq (.JZ 4 101 (.h .mul (.Jq (.cons (.f (.int 0)) .nil)) (.c 7)))
 (.seq (.C (.v 8) (.un .range (.c 3)) (.seq (.q (.v 9) (.h .add (.h .fdiv (.c 1) (.f (.int 32))) (.h .mul (.f (.int 1009)) (.c 8))))
 (.seq (.q (.v 10) (.h .fmod (.c 9) (.c 7)))
 (.seq (.q (.v 11) (.h .add (.h .add (.c 10) (.f (.int 1))) (.h .fmod (.h .fdiv (.c 9) (.f (.int 7))) (.h .sub (.c 7) (.c 10)))))
 (.seq (.q (.v 12) (.h .item (.Js (.cons (.f (.int 0)) (.cons (.f (.int 1)) (.cons (.f (.int 2)) (.cons (.f (.int 4)) .nil))))) (.h .fmod (.h .fdiv (.c 9) (.f (.int 5))) (.f (.int 4)))))
 (.seq (.Ki (.cons (.v 13) (.cons (.v 14) (.cons (.v 15) .nil))) 36 (.cons (.own 4) (.cons (.c 9) (.cons (.c 12) (.cons (.c 2) .nil)))))
 (.seq (.JH 4 102 (.Js (.cons (.c 12) (.cons (.c 10) (.cons (.c 11) (.cons (.c 14) (.cons (.c 15) (.cons (.c 13) .nil))))))))
 (.seq (.r 8)
 (.seq (.r 9)
 (.seq (.r 10)
 (.seq (.r 11)
 (.seq (.r 12)
 (.seq (.r 13)
 (.seq (.r 14)
 (.r 15)))))))))))))))
 (.seq (.JO 4)
 (.ret (.c 4)))))))))))))
noncomputable def wz:CS:=
 (.seq (.p (.h .eq (.h .fmod (.c 0) (.f (.int 43))) (.f (.int 42))) (.ret (.un .len (.un (.key 100) (.c 1)))) .k)
 (.seq (.p (.h .eq (.h .fmod (.c 0) (.f (.int 29))) (.f (.int 28))) (.ret (.h .fmod (.h .fdiv (.c 0) (.f (.int 29))) (.un .len (.un (.key 100) (.c 1))))) .k)
 (.ret (.h .fmod (.c 0) (.un (.key 103) (.c 1))))))
noncomputable def uw:CS:=
 (.seq (.p (.h .eq (.c 2) (.f (.int 1))) (.ret (.Jq (.cons (.call 38 (.cons (.c 1) (.cons (.c 0) .nil))) .nil))) .k)
 (.seq (.p (.h .eq (.c 2) (.f (.int 3))) (.ret (.comp (.call 38 (.cons (.h .add (.c 1) (.h .mul (.c 3) (.h .fmod (.h .fdiv (.c 1) (.f (.int 4))) (.f (.int 3))))) (.cons (.c 0) .nil))) 3 (.un .range (.h .fmod (.c 1) (.f (.int 4)))))) .k)
 (.ret (.Jq .nil))))
noncomputable def gY:CS:=
 (.seq (.new 1 (.Jq (.cons (.f (.int 0)) .nil)))
 (.seq (.C (.v 2) (.un (.key 100) (.c 0)) (.seq (.app 1 (.u (.h .add (.h .item (.c 1) (.f (.int (-1)))) (.un .len (.c 2)))))
 (.r 2)))
 (.seq (.JO 1)
 (.seq (.new 3 (.Jq .nil))
 (.seq (.new 4 (.Jq .nil))
 (.seq (.C (.v 2) (.un (.key 100) (.c 0)) (.seq (.C (.cons (.v 5) (.cons (.v 6) (.cons (.v 7) (.cons (.v 8) .nil)))) (.c 2) (.seq (.q (.v 9) (.call 39 (.cons (.c 0) (.cons (.c 6) (.cons (.c 7) .nil)))))
 (.seq (.C (.v 10) (.c 9) (.seq (.p (.y (.h .lt (.c 10) (.un .len (.un (.key 101) (.c 0)))) (.h .item (.un (.key 101) (.c 0)) (.c 10))) (.q (.v 8) (.f (.int (-1)))) .k)
 (.r 10)))
 (.seq (.p (.h .eq (.c 7) (.f (.int 1))) (.q (.v 6) (.h .item (.c 1) (.h .item (.c 9) (.f (.int 0))))) (.p (.h .eq (.c 7) (.f (.int 2))) (.q (.v 6) (.u (.h .add (.un .len (.c 3)) (.c 6)))) (.p (.h .eq (.c 7) (.f (.int 3))) (.q (.v 6) (.un .JE (.comp (.h .item (.c 1) (.c 10)) 10 (.c 9)))) (.p (.h .eq (.c 5) (.f (.int 32))) (.q (.v 6) (.u (.un .len (.c 3)))) .k))))
 (.seq (.app 3 (.Js (.cons (.c 5) (.cons (.c 6) .nil))))
 (.seq (.app 4 (.c 8))
 (.seq (.r 5)
 (.seq (.r 6)
 (.seq (.r 7)
 (.seq (.r 8)
 (.r 9)))))))))))
 (.r 2)))
 (.seq (.new 11 (.Jq .nil))
 (.seq (.J0 (.cons (.v 12) (.cons (.cons (.v 13) (.cons (.v 14) (.cons (.v 15) (.cons (.v 16) (.cons (.v 17) (.cons (.v 18) .nil)))))) .nil)) (.un (.key 102) (.c 0)) (.seq (.q (.v 19) (.f (.int 0)))
 (.seq (.p (.h .eq (.c 13) (.f (.int 0))) (.q (.v 19) (.h .add (.f (.int 70)) (.c 12))) .k)
 (.seq (.p (.h .eq (.c 13) (.f (.int 1))) (.q (.v 19) (.h .item (.c 1) (.c 18))) .k)
 (.seq (.app 11 (.Js (.cons (.c 13) (.cons (.h .item (.c 1) (.c 14)) (.cons (.h .item (.c 1) (.c 15)) (.cons (.h .item (.c 1) (.c 16)) (.cons (.h .item (.c 1) (.c 17)) (.cons (.c 19) .nil))))))))
 (.seq (.r 12)
 (.seq (.r 13)
 (.seq (.r 14)
 (.seq (.r 15)
 (.seq (.r 16)
 (.seq (.r 17)
 (.seq (.r 18)
 (.r 19)))))))))))))
 (.seq (.JO 11)
 (.seq (.JO 3)
 (.seq (.JO 4)
 (.ret (.Js (.cons (.c 3) (.cons (.c 4) (.cons (.c 11) .nil))))))))))))))))
noncomputable def rQ:CS:=
 (.seq (.p (.h .eq (.h .item (.c 0) (.f (.int 0))) (.f (.int 69))) (.ret (.un .JF (.h .item (.c 0) (.f (.int 1))))) .k)
 (.seq (.p (.D (.J8 (.f (.int 56)) .le (.h .item (.c 0) (.f (.int 0))) .lt (.f (.int 69))) (.h .eq (.h .item (.c 0) (.f (.int 0))) (.f (.int 221)))) (.ret (.Jq (.cons (.h .item (.c 0) (.f (.int 1))) .nil))) .k)
 (.ret (.Jq .nil))))
noncomputable def kU:CS:=
 (.seq (.new 1 (.Jq .nil))
 (.seq (.new 2 (.Jq .nil))
 (.seq (.J0 (.cons (.v 3) (.cons (.v 4) .nil)) (.c 0) (.seq (.p (.h .lt (.un .max (.h .add (.call 41 (.cons (.c 4) .nil)) (.Jq (.cons (.f (.int 0)) .nil)))) (.un .len (.c 0))) (.seq (.app 1 (.c 4))
 (.seq (.r 3)
 (.seq (.r 4)
 .cont))) .k)
 (.seq (.app 2 (.c 3))
 (.seq (.p (.h .eq (.h .item (.c 4) (.f (.int 0))) (.f (.int 69))) (.app 1 (.Js (.cons (.f (.int 69)) (.cons (.un .JE (.Jz (.c 5) 5 (.h .item (.c 4) (.f (.int 1))) (.h .lt (.c 5) (.un .len (.c 0))))) .nil)))) (.p (.h .JK (.h .item (.c 4) (.f (.int 0))) (.Js (.cons (.f (.int 56)) (.cons (.f (.int 221)) .nil)))) (.app 1 (.Js (.cons (.f (.int 42)) (.cons (.f (.int 0)) .nil)))) (.app 1 (.Js (.cons (.f (.int 0)) (.cons (.f (.int 0)) .nil))))))
 (.seq (.r 3)
 (.r 4))))))
 (.seq (.JO 1)
 (.seq (.JO 2)
 (.ret (.Js (.cons (.c 1) (.cons (.c 2) .nil)))))))))
noncomputable def oK:CS:=
 (.JL (.call 30 (.cons (.c 0) (.cons (.c 1) .nil))) .none)
noncomputable def rK:CS:=
 (.JL (.call 24 (.cons (.c 0) (.cons (.c 1) .nil))) .none)
noncomputable def r7:CS:=
 (.JL (.call 16 (.cons (.c 0) (.cons (.c 1) (.cons (.c 2) .nil)))) (.int (-1)))
noncomputable def eY:CS:=
 (.seq (.q (.v 2) (.f (.int 0)))
 (.seq (.J7 (.y (.h .lt (.c 1) (.un .len (.c 0))) (.h .eq (.h .item (.h .item (.c 0) (.c 1)) (.f (.int 0))) (.f (.int 56)))) (.seq (.q (.v 1) (.h .item (.h .item (.c 0) (.c 1)) (.f (.int 1))))
 (.seq (.Kt 2 (.f (.int 1)))
 (.p (.h .gt (.c 2) (.un .len (.c 0))) (.ret (.f (.int (-1)))) .k))))
 (.ret (.c 1))))
noncomputable def mf:CS:=
 (.seq (.q (.cons (.v 2) (.cons (.v 3) (.cons (.v 4) (.cons (.v 5) (.cons (.v 6) (.cons (.v 7) .nil)))))) (.c 0))
 (.seq (.q (.v 8) (.J2 (.h .eq (.c 2) (.f (.int 0))) (.c 7) (.f (.int 0))))
 (.ret (.Js (.cons (.c 2) (.cons (.c 8) (.cons (.J8 (.c 3) .le (.c 1) .lt (.c 4)) (.cons (.y (.h .eq (.c 2) (.f (.int 1))) (.J8 (.c 7) .le (.c 1) .lt (.c 5))) (.cons (.J8 (.c 5) .le (.c 1) .lt (.c 6)) .nil)))))))))
noncomputable def fG:CS:=
 (.seq (.p (.D (.h .eq (.c 2) (.f (.int (-1)))) (.D (.h .eq (.c 3) (.f (.int (-1)))) (.D (.h .eq (.c 2) (.un .len (.h .item (.c 0) (.f (.int 0))))) (.h .eq (.c 3) (.un .len (.h .item (.c 1) (.f (.int 0)))))))) (.ret (.J2 (.y (.h .eq (.h .eq (.c 2) (.f (.int (-1)))) (.h .eq (.c 3) (.f (.int (-1))))) (.h .eq (.h .eq (.c 2) (.un .len (.h .item (.c 0) (.f (.int 0))))) (.h .eq (.c 3) (.un .len (.h .item (.c 1) (.f (.int 0))))))) (.Jq .nil) (.f .none))) .k)
 (.seq (.q (.v 4) (.h .item (.h .item (.c 0) (.f (.int 0))) (.c 2)))
 (.seq (.q (.v 5) (.h .item (.h .item (.c 1) (.f (.int 0))) (.c 3)))
 (.seq (.q (.v 6) (.call 41 (.cons (.c 4) .nil)))
 (.seq (.q (.v 7) (.call 41 (.cons (.c 5) .nil)))
 (.seq (.p (.D (.h .ne (.h .item (.c 4) (.f (.int 0))) (.h .item (.c 5) (.f (.int 0)))) (.h .ne (.un .len (.c 6)) (.un .len (.c 7)))) (.ret (.f .none)) .k)
 (.seq (.p (.y (.h .eq (.c 6) (.Jq .nil)) (.h .ne (.h .item (.c 4) (.f (.int 1))) (.h .item (.c 5) (.f (.int 1))))) (.ret (.f .none)) .k)
 (.seq (.new 8 (.comp (.Js (.cons (.h .item (.c 6) (.c 9)) (.cons (.h .item (.c 7) (.c 9)) .nil))) 9 (.un .range (.un .len (.c 6)))))
 (.seq (.p (.h .JI (.h .item (.c 4) (.f (.int 0))) (.Js (.cons (.f (.int 42)) (.cons (.f (.int 122)) (.cons (.f (.int 220)) (.cons (.f (.int 65041)) (.cons (.f (.int 65050)) (.cons (.f (.int 221)) .nil)))))))) (.app 8 (.Js (.cons (.h .add (.c 2) (.f (.int 1))) (.cons (.h .add (.c 3) (.f (.int 1))) .nil)))) .k)
 (.seq (.C (.v 9) (.un .range (.un .len (.h .item (.c 0) (.f (.int 1))))) (.seq (.q (.v 10) (.h .item (.h .item (.c 0) (.f (.int 1))) (.c 9)))
 (.seq (.q (.v 11) (.h .item (.h .item (.c 1) (.f (.int 1))) (.c 9)))
 (.seq (.q (.v 12) (.call 47 (.cons (.c 10) (.cons (.c 2) .nil))))
 (.seq (.p (.h .ne (.c 12) (.call 47 (.cons (.c 11) (.cons (.c 3) .nil)))) (.ret (.f .none)) .k)
 (.seq (.p (.h .item (.c 12) (.f (.int 2))) (.seq (.app 8 (.Js (.cons (.h .item (.c 10) (.f (.int 3))) (.cons (.h .item (.c 11) (.f (.int 3))) .nil))))
 (.p (.h .eq (.h .item (.c 10) (.f (.int 0))) (.f (.int 1))) (.app 8 (.Js (.cons (.h .item (.c 10) (.f (.int 5))) (.cons (.h .item (.c 11) (.f (.int 5))) .nil)))) .k)) .k)
 (.seq (.r 9)
 (.seq (.r 10)
 (.seq (.r 11)
 (.r 12))))))))))
 (.seq (.JO 8)
 (.ret (.c 8)))))))))))))
noncomputable def eS:CS:=
 (.seq (.p (.h .ne (.un .len (.h .item (.c 0) (.f (.int 1)))) (.un .len (.h .item (.c 1) (.f (.int 1))))) (.ret (.f (.bool false))) .k)
 (.seq (.new 2 (.Jq (.cons (.Js (.cons (.f (.int 0)) (.cons (.f (.int 0)) .nil))) .nil)))
 (.seq (.new 3 (.Jq .nil))
 (.seq (.J7 (.u (.h .ne (.c 2) (.Jq .nil))) (.seq (.JT (.cons (.v 4) (.cons (.v 5) .nil)) 2)
 (.seq (.q (.v 4) (.call 46 (.cons (.h .item (.c 0) (.f (.int 0))) (.cons (.c 4) .nil))))
 (.seq (.q (.v 5) (.call 46 (.cons (.h .item (.c 1) (.f (.int 0))) (.cons (.c 5) .nil))))
 (.seq (.p (.u (.h .JK (.Js (.cons (.c 4) (.cons (.c 5) .nil))) (.c 3))) (.seq (.r 4)
 (.seq (.r 5)
 (.seq (.r 6)
 .cont))) .k)
 (.seq (.app 3 (.Js (.cons (.c 4) (.cons (.c 5) .nil))))
 (.seq (.q (.v 6) (.call 48 (.cons (.c 0) (.cons (.c 1) (.cons (.c 4) (.cons (.c 5) .nil))))))
 (.seq (.p (.un .isNone (.c 6)) (.ret (.f (.bool false))) .k)
 (.seq (.new 2 (.Ka (.h .add (.c 2) (.c 6))))
 (.seq (.r 4)
 (.seq (.r 5)
 (.r 6))))))))))))
 (.ret (.f (.bool true)))))))
noncomputable def sF:CS:=
 (.ret (.Jz (.c 2) 2 (.c 1) (.y (.h .lt (.h .item (.c 2) (.f (.int 3))) (.h .item (.c 2) (.f (.int 4)))) (.h .JK (.f (.bool true)) (.slice (.c 0) (.h .item (.c 2) (.f (.int 1))) (.h .item (.c 2) (.f (.int 2))))))))
noncomputable def qr:CS:=
 (.ret (.un .min (.Jz (.c 2) 2 (.c 0) (.h .ge (.c 2) (.c 1)))))
noncomputable def eE:CS:=
 (.seq (.new 1 (.Jq .nil))
 (.seq (.C (.v 2) (.c 0) (.seq (.app 1 (.comp (.J2 (.h .eq (.call 46 (.cons (.c 0) (.cons (.c 3) .nil))) (.f (.int (-1)))) (.c 3) (.call 46 (.cons (.c 0) (.cons (.c 3) .nil)))) 3 (.call 41 (.cons (.c 2) .nil))))
 (.seq (.p (.h .eq (.h .item (.c 2) (.f (.int 0))) (.f (.int 221))) (.J3 1 (.f (.int (-1))) (.Jq (.cons (.h .item (.c 2) (.f (.int 1))) .nil))) .k)
 (.r 2))))
 (.seq (.JO 1)
 (.seq (.new 4 (.Jq (.cons (.f (.int 0)) .nil)))
 (.seq (.q (.v 5) (.f (.int 0)))
 (.seq (.J7 (.u (.h .lt (.c 5) (.un .len (.c 4)))) (.seq (.q (.v 6) (.u (.h .item (.c 4) (.c 5))))
 (.seq (.Kt 5 (.f (.int 1)))
 (.seq (.q (.v 7) (.h .item (.c 1) (.c 6)))
 (.seq (.p (.y (.h .JI (.h .item (.h .item (.c 0) (.c 6)) (.f (.int 0))) (.Js (.cons (.f (.int 56)) (.cons (.f (.int 42)) (.cons (.f (.int 122)) (.cons (.f (.int 220)) (.cons (.f (.int 65041)) (.cons (.f (.int 65050)) (.cons (.f (.int 221)) .nil))))))))) (.h .lt (.h .add (.c 6) (.f (.int 1))) (.un .len (.c 0)))) (.q (.v 7) (.h .add (.c 7) (.Jq (.cons (.h .add (.c 6) (.f (.int 1))) .nil)))) .k)
 (.seq (.C (.v 3) (.c 7) (.seq (.p (.u (.h .JI (.c 3) (.c 4))) (.app 4 (.c 3)) .k)
 (.r 3)))
 (.seq (.r 6)
 (.r 7))))))))
 (.seq (.new 4 (.Ka (.un .JW (.c 4))))
 (.seq (.q (.v 8) (.f (.int 0)))
 (.seq (.J7 (.u (.h .lt (.c 8) (.un .len (.c 4)))) (.seq (.q (.v 6) (.u (.h .item (.c 4) (.c 8))))
 (.seq (.Kt 8 (.f (.int 1)))
 (.seq (.p (.u (.y (.h .eq (.h .item (.h .item (.c 0) (.c 6)) (.f (.int 0))) (.f (.int 56))) (.y (.h .lt (.c 8) (.un .len (.c 4))) (.h .eq (.call 51 (.cons (.c 4) (.cons (.h .item (.h .item (.c 1) (.c 6)) (.f (.int 0))) .nil))) (.h .item (.c 4) (.c 8)))))) (.seq (.KA 4 (.c 6))
 (.q (.v 8) (.f (.int 0)))) .k)
 (.r 6)))))
 (.seq (.new 9 (.Jq .nil))
 (.seq (.JO 4)
 (.seq (.C (.v 6) (.c 4) (.seq (.q (.v 10) (.comp (.idx (.c 4) (.call 51 (.cons (.c 4) (.cons (.c 3) .nil)))) 3 (.h .item (.c 1) (.c 6))))
 (.seq (.p (.h .eq (.h .item (.h .item (.c 0) (.c 6)) (.f (.int 0))) (.f (.int 69))) (.app 9 (.Js (.cons (.f (.int 69)) (.cons (.un .JE (.c 10)) .nil)))) (.app 9 (.Js (.cons (.h .item (.h .item (.c 0) (.c 6)) (.f (.int 0))) (.cons (.J2 (.c 10) (.h .item (.c 10) (.f (.int 0))) (.h .item (.h .item (.c 0) (.c 6)) (.f (.int 1)))) .nil)))))
 (.seq (.r 6)
 (.r 10)))))
 (.seq (.JO 9)
 (.ret (.c 9)))))))))))))))
noncomputable def pX:CS:=
 (.seq (.q (.v 2) (.Jz (.h .sub (.h .item (.c 3) (.f (.int 3))) (.f (.int 1))) 3 (.c 1) (.h .eq (.h .item (.c 3) (.f (.int 0))) (.f (.int 1)))))
 (.seq (.q (.v 4) (.call 18 (.cons (.c 0) (.cons (.c 1) .nil))))
 (.seq (.C (.v 5) (.un .range (.un .len (.c 0))) (.seq (.p (.y (.un .not (.h .item (.c 4) (.c 5))) (.D (.h .JI (.c 5) (.c 2)) (.h .ne (.h .item (.h .item (.c 0) (.c 5)) (.f (.int 0))) (.f (.int 65041))))) (.ret (.f (.bool false))) .k)
 (.r 5)))
 (.ret (.h .eq (.un .len (.c 4)) (.un .len (.c 0)))))))
noncomputable def kI:CS:=
 (.seq (.q (.v 7) (.call 45 (.cons (.h .item (.c 0) (.f (.int 0))) (.cons (.h .item (.c 0) (.f (.int 1))) (.cons (.c 6) .nil)))))
 (.seq (.p (.h .ne (.call 45 (.cons (.h .item (.c 1) (.f (.int 0))) (.cons (.h .item (.c 1) (.f (.int 1))) (.cons (.c 6) .nil)))) (.c 7)) (.ret (.f (.bool false))) .k)
 (.seq (.p (.h .ne (.call 45 (.cons (.h .item (.c 3) (.f (.int 0))) (.cons (.h .item (.c 3) (.f (.int 1))) (.cons (.c 6) .nil)))) (.c 5)) (.ret (.f (.bool false))) .k)
 (.seq (.q (.v 8) (.call 45 (.cons (.h .item (.c 4) (.f (.int 0))) (.cons (.h .item (.c 4) (.f (.int 1))) (.cons (.c 6) .nil)))))
 (.seq (.p (.y (.h .ge (.c 7) (.f (.int 0))) (.D (.h .lt (.c 5) (.f (.int 0))) (.h .gt (.c 5) (.c 7)))) (.ret (.f (.bool false))) .k)
 (.seq (.p (.y (.h .ge (.c 5) (.f (.int 0))) (.D (.h .lt (.c 8) (.f (.int 0))) (.h .gt (.c 8) (.c 5)))) (.ret (.f (.bool false))) .k)
 (.seq (.p (.y (.h .eq (.un .len (.h .item (.c 2) (.f (.int 1)))) (.un .len (.h .item (.c 0) (.f (.int 1))))) (.h .ne (.c 5) (.c 7))) (.ret (.f (.bool false))) .k)
 (.ret (.D (.h .ne (.un .len (.h .item (.c 4) (.f (.int 1)))) (.un .len (.h .item (.c 2) (.f (.int 1))))) (.h .eq (.c 8) (.c 5)))))))))))
noncomputable def mV:CS:=
 (.seq (.q (.v 3) (.Js (.cons (.call 52 (.cons (.c 0) .nil)) (.cons (.Jq .nil) .nil))))
 (.seq (.q (.v 4) (.call 24 (.cons (.h .item (.c 1) (.f (.int 0))) (.cons (.h .item (.c 1) (.f (.int 1))) .nil))))
 (.seq (.p (.D (.h .ne (.call 30 (.cons (.h .item (.c 2) (.f (.int 0))) (.cons (.h .item (.c 2) (.f (.int 1))) .nil))) (.c 3)) (.h .ne (.call 30 (.cons (.h .item (.c 4) (.f (.int 0))) (.cons (.h .item (.c 4) (.f (.int 1))) .nil))) (.c 3))) (.ret (.f (.bool false))) .k)
 (.ret (.h .JI (.f (.bool false)) (.call 18 (.cons (.h .item (.c 3) (.f (.int 0))) (.cons (.Jq .nil) .nil))))))))
noncomputable def iR:CS:=
 (.seq (.q (.v 0) (.slice (.c 0) (.f .none) (.f (.int 63))))
 (.seq (.q (.v 1) (.J2 (.c 0) (.h .item (.c 0) (.f (.int 0))) (.f (.int 1668))))
 (.seq (.q (.v 2) (.J2 (.h .gt (.un .len (.c 0)) (.f (.int 1))) (.slice (.c 0) (.f (.int 1)) (.f (.int 11))) (.Jq (.cons (.f (.int 8)) (.cons (.f (.int 43)) (.cons (.f (.int 7)) .nil))))))
 (.seq (.q (.v 3) (.call 37 (.cons (.c 2) (.cons (.c 1) .nil))))
 (.seq (.q (.cons (.v 4) (.cons (.v 5) (.cons (.v 6) .nil))) (.call 40 (.cons (.c 3) .nil)))
 (.seq (.q (.cons (.v 7) (.cons (.v 8) .nil)) (.call 42 (.cons (.c 4) .nil)))
 (.seq (.q (.v 9) (.call 18 (.cons (.c 7) (.cons (.Jz (.c 10) 10 (.c 6) (.h .lt (.h .item (.c 10) (.f (.int 3))) (.h .item (.c 10) (.f (.int 4))))) .nil))))
 (.seq (.p (.h .ne (.c 8) (.Jq .nil)) (.seq (.q (.v 11) (.Jz (.c 12) 12 (.c 8) (.h .item (.c 9) (.c 12))))
 (.seq (.q (.v 13) (.call 44 (.cons (.c 4) (.cons (.c 6) .nil))))
 (.seq (.p (.D (.un .J9 (.call 43 (.cons (.c 4) (.cons (.c 6) .nil)))) (.h .ne (.un .isNone (.c 13)) (.h .ne (.c 11) (.Jq .nil)))) (.ret (.f (.bool false))) .k)
 (.seq (.p (.un .isNone (.c 13)) (.ret (.f (.bool true))) .k)
 (.p (.h .ne (.c 13) (.call 24 (.cons (.c 7) (.cons (.c 6) .nil)))) (.ret (.f (.bool false))) .k))))) .k)
 (.seq (.q (.v 14) (.Js (.cons (.c 7) (.cons (.c 6) .nil))))
 (.seq (.q (.v 15) (.Js (.cons (.un .JF (.c 7)) (.cons (.un .JF (.c 6)) .nil))))
 (.seq (.q (.v 16) (.call 30 (.cons (.c 7) (.cons (.c 6) .nil))))
 (.seq (.q (.v 17) (.call 24 (.cons (.c 7) (.cons (.c 6) .nil))))
 (.seq (.p (.D (.h .ne (.c 14) (.c 15)) (.h .ne (.call 30 (.cons (.h .item (.c 16) (.f (.int 0))) (.cons (.h .item (.c 16) (.f (.int 1))) .nil))) (.c 16))) (.ret (.f (.bool false))) .k)
 (.seq (.p (.h .ne (.call 24 (.cons (.h .item (.c 17) (.f (.int 0))) (.cons (.h .item (.c 17) (.f (.int 1))) .nil))) (.Js (.cons (.h .item (.c 17) (.f (.int 0))) (.cons (.h .item (.c 17) (.f (.int 1))) (.cons (.un .JF (.un .range (.h .add (.un .len (.h .item (.c 17) (.f (.int 0)))) (.f (.int 1))))) .nil))))) (.ret (.f (.bool false))) .k)
 (.seq (.q (.v 18) (.call 30 (.cons (.h .item (.c 17) (.f (.int 0))) (.cons (.h .item (.c 17) (.f (.int 1))) .nil))))
 (.seq (.q (.v 19) (.call 24 (.cons (.h .item (.c 16) (.f (.int 0))) (.cons (.h .item (.c 16) (.f (.int 1))) .nil))))
 (.seq (.q (.v 20) (.call 50 (.cons (.c 9) (.cons (.c 6) .nil))))
 (.seq (.q (.v 21) (.call 50 (.cons (.call 18 (.cons (.h .item (.c 16) (.f (.int 0))) (.cons (.Jz (.c 10) 10 (.h .item (.c 16) (.f (.int 1))) (.h .lt (.h .item (.c 10) (.f (.int 3))) (.h .item (.c 10) (.f (.int 4))))) .nil))) (.cons (.h .item (.c 16) (.f (.int 1))) .nil))))
 (.seq (.p (.D (.un .not (.call 49 (.cons (.c 16) (.cons (.c 14) .nil)))) (.un .not (.call 49 (.cons (.c 18) (.cons (.Js (.cons (.c 7) (.cons (.c 20) .nil))) .nil))))) (.ret (.f (.bool false))) .k)
 (.seq (.p (.D (.un .not (.call 49 (.cons (.c 19) (.cons (.Js (.cons (.h .item (.c 16) (.f (.int 0))) (.cons (.c 21) .nil))) .nil)))) (.un .not (.call 53 (.cons (.h .item (.c 19) (.f (.int 0))) (.cons (.h .item (.c 19) (.f (.int 1))) .nil))))) (.ret (.f (.bool false))) .k)
 (.seq (.q (.v 22) (.Jz (.h .item (.c 5) (.c 12)) 12 (.un .range (.un .len (.c 7))) (.h .item (.c 9) (.c 12))))
 (.seq (.q (.v 23) (.J2 (.h .JK (.f (.int (-1))) (.c 22)) (.f (.int (-1))) (.un .max (.c 22))))
 (.seq (.p (.un .not (.call 54 (.cons (.c 14) (.cons (.c 16) (.cons (.c 17) (.cons (.c 18) (.cons (.c 19) (.cons (.c 23) (.cons (.J6 57 (.cons (.call 62 .nil) (.cons (.h .add (.f (.int 5)) (.h .fmod (.c 1) (.f (.int 2)))) .nil))) .nil))))))))) (.ret (.f (.bool false))) .k)
 (.ret (.D (.h .ne (.c 6) (.Jq .nil)) (.call 55 (.cons (.c 7) (.cons (.c 18) (.cons (.c 19) .nil)))))))))))))))))))))))))))))
noncomputable def ky:CS:=
 (.seq (.JD 0 0 (.c 1))
 (.JD 0 1 (.c 2)))
noncomputable def pT:CS:=
 (.seq (.JD 0 21 (.J6 60 .nil))
 (.seq (.JD 0 22 (.Jq (.cons (.f .none) .nil)))
 (.seq (.JD 0 23 (.Jq (.cons (.f .none) .nil)))
 (.seq (.JZ 0 2 (.Jq (.cons (.f .none) .nil)))
 (.seq (.JD 0 24 .Kn)
 (.seq (.JD 0 25 (.Jq .nil))
 (.JD 0 26 (.f (.int 0)))))))))
noncomputable def lD:CS:=
 (.seq (.JD 0 1 (.c 1))
 (.seq (.JD 0 11 (.c 2))
 (.seq (.JD 0 12 (.c 3))
 (.seq (.JD 0 13 (.c 4))
 (.seq (.JD 0 5 (.c 5))
 (.seq (.JD 0 14 (.f (.int 0)))
 (.seq (.JD 0 15 (.Jq .nil))
 (.seq (.JD 0 16 (.Jq .nil))
 (.seq (.JD 0 3 (.c 6))
 (.seq (.JD 0 4 (.un .JE (.c 7)))
 (.seq (.JD 0 17 (.call 61 (.cons (.un .len (.c 7)) .nil)))
 (.seq (.JD 0 18 (.un .JX (.un .len (.c 7))))
 (.seq (.JD 0 19 (.f .none))
 (.JD 0 20 (.f (.int 0))))))))))))))))
noncomputable def lj:CS:=
 (.seq (.JZ 0 6 (.Jq .nil))
 (.seq (.KF 0 7)
 (.seq (.JZ 0 8 (.Jq .nil))
 (.seq (.JZ 0 9 (.Jq .nil))
 (.seq (.JZ 0 10 (.Jq .nil))
 (.C (.v 1) (.un .range (.f (.int 16))) (.seq (.q (.v 2) (.Js (.cons (.f (.int 1)) (.cons (.c 1) .nil))))
 (.seq (.JH 0 6 (.c 2))
 (.seq (.Kk 0 7 (.c 2) (.c 1))
 (.seq (.JH 0 8 (.f (.int 1)))
 (.seq (.JH 0 9 (.f (.int 1)))
 (.seq (.JH 0 10 (.f (.int 0)))
 (.seq (.r 1)
 (.r 2))))))))))))))
noncomputable def oY:CS:=
 (.seq (.new 1 (.Jq .nil))
 (.seq (.C (.v 2) (.un .range (.c 0)) (.seq (.app 1 (.un .Ke (.c 2)))
 (.r 2)))
 (.ret (.u (.un .JE (.c 1))))))
noncomputable def sU:CS:=
 (.seq (.Kv 0 58 .nil)
 (.seq (.q (.v 1) (.Js (.cons (.Js (.cons (.f (.int 1)) (.cons (.f (.int 7)) (.cons (.Js .nil) .nil)))) (.cons (.Js (.cons (.f (.int 1)) (.cons (.f (.int 0)) (.cons (.Js (.cons (.f (.int 7)) (.cons (.f (.int 7)) .nil))) .nil)))) (.cons (.Js (.cons (.f (.int 0)) (.cons (.f (.int 7)) (.cons (.Js (.cons (.f (.int 7)) .nil)) .nil)))) (.cons (.Js (.cons (.f (.int 0)) (.cons (.f (.int 0)) (.cons (.Js .nil) .nil)))) (.cons (.Js (.cons (.f (.int 1)) (.cons (.f (.int 0)) (.cons (.Js (.cons (.f (.int 7)) .nil)) .nil)))) (.cons (.Js (.cons (.f (.int 0)) (.cons (.f (.int 7)) (.cons (.Js .nil) .nil)))) .nil))))))))
 (.seq (.C (.cons (.v 2) (.cons (.v 3) (.cons (.v 4) .nil))) (.c 1) (.seq (.JH 0 2 (.J6 59 (.cons (.u (.un .len (.un (.attr 2) (.c 0)))) (.cons (.f (.int 64)) (.cons (.f (.Jv 0)) (.cons (.f (.int 6)) (.cons (.c 2) (.cons (.c 3) (.cons (.c 4) .nil)))))))))
 (.seq (.r 2)
 (.seq (.r 3)
 (.r 4)))))
 (.seq (.JO 0)
 (.ret (.c 0))))))
noncomputable def tab:List Fn:=[
⟨1,1,[],false,sE⟩,
⟨1,1,[],false,wc⟩,
⟨1,1,[],false,rO⟩,
⟨1,1,[],false,wA⟩,
⟨1,1,[],false,oX⟩,
⟨2,4,[],false,oS⟩,
⟨1,1,[],false,rU⟩,
⟨2,5,[],false,oN⟩,
⟨1,1,[],false,sf⟩,
⟨2,2,[],false,mn⟩,
⟨1,1,[],false,mQ⟩,
⟨2,6,[],false,j5⟩,
⟨2,5,[],false,gR⟩,
⟨4,4,[0,1],false,iE⟩,
⟨4,6,[2,3],false,eg⟩,
⟨4,6,[],false,gj⟩,
⟨3,9,[],false,dB⟩,
⟨3,3,[0,1],false,lO⟩,
⟨2,7,[],true,dW⟩,
⟨1,4,[],false,qL⟩,
⟨2,4,[],false,oh⟩,
⟨2,3,[],false,oR⟩,
⟨3,8,[],false,sg⟩,
⟨2,3,[],false,jF⟩,
⟨2,6,[],false,gG⟩,
⟨2,5,[],false,qo⟩,
⟨4,7,[],false,eV⟩,
⟨3,3,[],false,oi⟩,
⟨3,6,[],false,fK⟩,
⟨2,3,[],false,pA⟩,
⟨2,3,[],false,ie⟩,
⟨2,7,[],false,nq⟩,
⟨1,2,[],false,vK⟩,
⟨1,5,[],false,tZ⟩,
⟨1,1,[],false,v9⟩,
⟨2,5,[],false,tJ⟩,
⟨4,8,[0],false,dy⟩,
⟨2,16,[],false,eR⟩,
⟨2,2,[],false,wz⟩,
⟨3,4,[],false,uw⟩,
⟨1,20,[],false,gY⟩,
⟨1,1,[],false,rQ⟩,
⟨1,6,[],false,kU⟩,
⟨2,2,[],false,oK⟩,
⟨2,2,[],false,rK⟩,
⟨3,3,[],false,r7⟩,
⟨2,3,[],false,eY⟩,
⟨2,9,[],false,mf⟩,
⟨4,13,[],false,fG⟩,
⟨2,7,[],false,eS⟩,
⟨2,3,[],false,sF⟩,
⟨2,3,[],false,qr⟩,
⟨1,11,[],false,eE⟩,
⟨2,6,[],false,pX⟩,
⟨7,9,[],false,kI⟩,
⟨3,5,[],false,mV⟩,
⟨1,24,[],false,iR⟩,
⟨3,3,[0],false,ky⟩,
⟨1,1,[0],false,pT⟩,
⟨8,8,[0],false,lD⟩,
⟨1,3,[0],false,lj⟩,
⟨1,3,[],false,oY⟩,
⟨0,5,[],false,sU⟩]
noncomputable def GS:List (Nat×Nat×List String):=[
 (0,309,["op"]),
 (1,302,["op"]),
 (2,316,["op"]),
 (3,323,["ins"]),
 (4,330,["op"]),
 (5,337,["ins","teller","op","taken"]),
 (6,393,["m"]),
 (7,414,["self","mref","m","taken","given"]),
 (8,421,["self"]),
 (9,435,["store","mid"]),
 (10,442,["clause"]),
 (11,449,["code","clauses","count","at","clause","edge"]),
 (12,456,["code","i","count","out","goal"]),
 (13,463,["depths","work","i","depth"]),
 (14,470,["code","clauses","depths","work","clause","depth"]),
 (15,477,["code","i","depth","teller","taken","given"]),
 (16,484,["code","clauses","teller","depths","work","most","i","after","goal"]),
 (17,491,["seen","work","i"]),
 (18,498,["code","clauses","seen","work","i","goal","clause"]),
 (19,505,["flags","out","count","one"]),
 (20,512,["ins","places","out","goal"]),
 (21,519,["clause","places","extra"]),
 (22,526,["code","clauses","kept","places","out","i","edges","clause"]),
 (23,533,["clause","kept","i"]),
 (24,538,["code","clauses","handled","clause","kept","live"]),
 (25,545,["clauses","i","out","place","clause"]),
 (26,552,["code","clauses","i","goal","key","seen","at"]),
 (27,559,["code","i","goal"]),
 (28,566,["code","clauses","i","ins","out","goal"]),
 (29,573,["clauses","i","clause"]),
 (30,580,["code","clauses","count"]),
 (31,587,["code","clauses","rows","i","kept","idle","out"]),
 (32,601,["ret","rows"]),
 (33,606,["t","taken","given","rows","j"]),
 (34,613,["t"]),
 (35,620,["v","ret","k","t","number"]),
 (36,627,["w","z","sort","ret","first","never","begin","size"]),
 (37,634,["numbers","q","ret","count","w","rows","v","mains","j","z","t0","t1","sort","first","begin","end"]),
 (38,641,["t","w"]),
 (39,646,["w","operand","form","j"]),
 (40,651,["w","starts","unit","code","marks","op","operand","form","deep","aims","aim","clauses","j","sort","t0","t1","begin","end","first","extra"]),
 (41,658,["row"]),
 (42,663,["code","rows","wild","i","row","goal"]),
 (43,670,["code","clauses"]),
 (44,677,["code","clauses"]),
 (45,684,["code","clauses","teller"]),
 (46,691,["code","at","steps"]),
 (47,698,["clause","i","sort","t0","t1","h0","h1","extra","told"]),
 (48,703,["a","b","x","y","one","other","ways","twins","todo","j","c","e","here"]),
 (49,710,["a","b","todo","seen","x","y","more"]),
 (50,715,["flags","clauses","c"]),
 (51,720,["live","n","i"]),
 (52,725,["code","aimed","row","goal","live","turn","i","on","at","rows","told"]),
 (53,730,["code","clauses","closing","c","flags","i"]),
 (54,737,["x","t","d","td","dt","want","teller","before","last"]),
 (55,744,["code","td","dt","own","again"]),
 (56,749,["script","q","numbers","w","code","marks","clauses","rows","wild","flags","c","lost","i","found","x","kept","t","d","td","dt","lives","later","deep","want"]),
 (57,407,["self","store","mid"]),
 (58,372,["self"]),
 (59,351,["self","mid","owner","name","access","flags","ret","params"]),
 (60,73,["self","number","row"]),
 (61,386,["count","out","place"]),
 (62,594,["store","rows","flags","ret","params"])]
noncomputable def ka:List (String×Nat×Nat):=[("ends_flow",0,309),("op_sort",1,302),("is_branch",2,316),("targets",3,323),("prefix_goal",4,330),("pops_pushes",5,337),("is_static",6,393),("stored_method",9,435),("clause_edges",10,442),("check_edges",11,449),("successors",12,456),("enter_depth",13,463),("start_depths",14,470),("depth_after",15,477),("max_stack",16,484),("reach_one",17,491),("reachable",18,498),("new_places",19,505),("move_targets",20,512),("move_clause",21,519),("keep_only",22,526),("clause_lives",23,533),("drop_dead",24,538),("region_key",25,545),("chain_end",26,552),("checked_goal",27,559),("thread_one",28,566),("is_edge",29,573),("thread_in",30,580),("thread_round",31,587),("_law_end",32,601),("_law_call",33,606),("_law_odd",34,613),("_law_unit",35,620),("_law_handler",36,627),("_law_units",37,634),("_law_aim",38,641),("_law_aims",39,646),("_law_lay",40,651),("_law_goals",41,658),("_law_inside",42,663),("_law_threads",43,670),("_law_drops",44,677),("_law_depth",45,684),("_law_settle",46,691),("_law_parts",47,698),("_law_pairs",48,703),("_law_alike",49,710),("_law_lives",50,715),("_law_behind",51,720),("_law_lean",52,725),("_law_closed",53,730),("_law_depths",54,737),("_law_one_code",55,744),("law",56,749),("plain_names",61,386),("_law_store",62,594)]
noncomputable def kT:List (String×Int):=[("EC_CATCH",0),("EC_FILTER",1),("I4",7),("MF_STATIC",1),("OP_BR",56),("OP_CALL",40),("OP_CALLVIRT",111),("OP_CONSTRAINED",65046),("OP_ENDFILTER",65041),("OP_ENDFINALLY",220),("OP_LDELEMA",143),("OP_LEAVE",221),("OP_NEWOBJ",115),("OP_READONLY",65054),("OP_RET",42),("OP_RETHROW",65050),("OP_SWITCH",69),("OP_THROW",122),("PRIM_END",16),("R_PRIM",1),("SO_BRANCH",5),("VOID",0)]
end
end
section
open PySem PySem.W PyProof.Rows
section
noncomputable def km(fr:List Addr)(ch:Addr→Prop)(h h':Heap):Prop:=
 ∀b o,h.get? b=some o→¬ch b→(b∉fr→h'.get? b=some o)∧∃sl,h'.get? b=some { o with slots:=sl }
noncomputable abbrev PD:=PySem.Obj→List (Str×Value)→Prop
noncomputable def DK(prog:Program)(w:World):PD:=fun o kvs=>o.ExactDict∧∃es ep,o.data=.dict es ep∧PySem.KeysOf (strKind prog w) es∧Pairs (strKind prog w) es.toList kvs∧(kvs.map (·.1)).Nodup
noncomputable def qC:List String:=["store","mid","methods","ret","params","flags","rows","index","depths","weights","opens","owner","name","access","ngen","gnames","gbounds","pnames","pflags","body","native","kt","types","fields_","names","asms","entry"]
noncomputable def a5(c k:Nat):Str:=Str.ofString (if c=0 then(if k<100 then "" else ["units","ins","clauses","mains"].getD (k - 100) "")else qC.getD k "")
noncomputable def iF:Nat→Addr
 |57=>424
 |58=>375
 |59=>354
 |60=>90
 |_=>424
inductive p6(P:PD)(H:Heap)(x:Addr):Nat→(Str→Option Value)→Prop
 |dict {o kvs}:H.get? x=some o→P o kvs→p6 P H x 0 (valueAt kvs)
 |inst {k dx od m}:H.get? x=some (instObj (iF (k+1)) dx)→H.get? dx=some od→(∀y,lookIn y od=some (m y))→p6 P H x (k+1) m
inductive bz(P:PD)(H:Heap):List V→List Value→Prop
 |nil:bz P H [] []
 |none {l r}:bz P H l r→bz P H (.none::l) (.none::r)
 |bool {b l r}:bz P H l r→bz P H (.bool b::l) (.bool b::r)
 |int {i t l r}:bz P H l r→bz P H (.int i::l) (.int i t::r)
 |Js {m a items l r}:m.length≤lim→IsTup H a items→bz P H m items.toList→bz P H l r→bz P H (.Js m::l) (.ref a::r)
 |Jq {m a items n l r}:m.length≤lim+1→IsL H a items n→bz P H m items.toList→bz P H l r→bz P H (.Jq m::l) (.ref a::r)
 |rng {lo hi a t u v l r}:IsRange H a lo hi 1 t u v→lo.natAbs≤lim∧hi.natAbs≤lim→bz P H l r→bz P H (.rng lo hi::l) (.ref a::r)
 |obj {c fs us m x l r}:p6 P H x c m→bz P H (fs.map (·.2)) us→(fs.map (·.1)).map (fun k=>m (a5 c k))=us.map some→(∀y u,m y=some u→∃k∈fs.map (·.1),y=a5 c k)→bz P H l r→bz P H (.obj c fs::l) (.ref x::r)
 |Jv {n u l r}:bz P H l r→bz P H (.Jv n::l) (u::r)
noncomputable abbrev du(P:PD)(H:Heap)(v:V)(u:Value):Prop:=bz P H [v] [u]
inductive Gv(P:PD)(H:Heap)(m:List V)(u:Value):Prop
 |mk (a:Addr) (items:Array Value) (e:u=.ref a) (n:m.length≤lim) (t:IsTup H a items) (r:bz P H m items.toList)
inductive GB(P:PD)(H:Heap)(m:List V)(u:Value):Prop
 |mk (a:Addr) (items:Array Value) (k:Nat) (e:u=.ref a) (n:m.length≤lim+1) (t:IsL H a items k) (r:bz P H m items.toList)
inductive Fb(H:Heap)(lo hi:Int)(u:Value):Prop
 |mk (a:Addr) (t t' t'':Tok) (e:u=.ref a) (r:IsRange H a lo hi 1 t t' t'') (h:lo.natAbs≤lim∧hi.natAbs≤lim)
inductive Gi(P:PD)(H:Heap)(c:Nat)(fs:List (Nat×V))(u:Value):Prop
 |mk (x:Addr) (us:List Value) (m:Str→Option Value) (e:u=.ref x) (o:p6 P H x c m) (r:bz P H (fs.map (·.2)) us) (h:(fs.map (·.1)).map (fun k=>m (a5 c k))=us.map some) (g:∀y u,m y=some u→∃k∈fs.map (·.1),y=a5 c k)
noncomputable def Fa(P:PD)(H:Heap)(v:V)(u:Value):Prop:=match v with
 |.none=>u=.none
 |.bool b=>u=.bool b
 |.int i=>∃t,u=.int i t
 |.Js m=>Gv P H m u
 |.Jq m=>GB P H m u
 |.rng lo hi=>Fb H lo hi u
 |.obj c fs=>Gi P H c fs u
 |.Jv _=>True
inductive Hh(P:PD)(H:Heap)(v:V)(l:List V)(r:List Value):Prop
 |mk (u:Value) (r':List Value) (e:r=u::r') (a:du P H v u) (i:Fa P H v u) (b:bz P H l r')
noncomputable def Jl(P:PD)(H:Heap)(l:List V)(r:List Value):Prop:=match l with
 | []=>r=[]
 |v::l=>Hh P H v l r
variable{P:PD}{H H':Heap}
theorem xr{a:Addr}{items:Array Value}(x:IsTup H a items)(k:∀o,o.cls=.type "tuple"→H.get? a=some o→H'.get? a=some o):IsTup H' a items:=let⟨o,e,hc,r⟩:=x;⟨o,k o hc e,hc,r⟩
theorem p6.mono{x c m}(k:H.StaysIn H')(r:p6 P H x c m):p6 P H' x c m:=by
 induction r with
 |dict a b=>exact .dict (k _ _ a) b
 |inst a b d=>exact .inst (k _ _ a) (k _ _ b) d
theorem bz.mono{l r}(k:H.StaysIn H')(x:bz P H l r):bz P H' l r:=by
 induction x with
 |nil=>exact .nil
 |none _ a=>exact .none a
 |bool _ a=>exact .bool a
 |int _ a=>exact .int a
 |Js n t _ _ a b=>exact .Js n (xr t fun Z Z e=>k _ _ e) a b
 |Jq n t _ _ a b=>exact .Jq n (k _ _ t) a b
 |rng t n _ a=>exact .rng (k _ _ t) n a
 |obj o _ e n _ a b=>exact .obj (o.mono k) a e n b
 |Jv _ a=>exact .Jv a
theorem bz.append{l r l' r'}(x:bz P H l r)(y:bz P H l' r'):bz P H (l++l') (r++r'):=by
 induction x with
 |nil=>exact y
 |none _ a=>exact .none a
 |bool _ a=>exact .bool a
 |int _ a=>exact .int a
 |Js n t c _ _ b=>exact .Js n t c b
 |Jq n t c _ _ b=>exact .Jq n t c b
 |rng t n _ a=>exact .rng t n a
 |obj o c e n _ _ b=>exact .obj o c e n b
 |Jv _ a=>exact .Jv a
theorem bz.cons{v u l r}(x:du P H v u)(b:bz P H l r):bz P H (v::l) (u::r):=bz.append x b
theorem bz.Ju{l r}(x:bz P H l r):Jl P H l r:=by
 induction x with
 |nil=>rfl
 |none b=>exact⟨_,_,rfl,.none .nil,rfl,b⟩
 |bool b=>exact⟨_,_,rfl,.bool .nil,rfl,b⟩
 |int b=>exact⟨_,_,rfl,.int .nil,⟨_,rfl⟩,b⟩
 |Js n t a b=>exact⟨_,_,rfl,.Js n t a .nil,⟨_,_,rfl,n,t,a⟩,b⟩
 |Jq n t a b=>exact⟨_,_,rfl,.Jq n t a .nil,⟨_,_,_,rfl,n,t,a⟩,b⟩
 |rng t n b=>exact⟨_,_,rfl,.rng t n .nil,⟨_,_,_,_,rfl,t,n⟩,b⟩
 |obj o a e n b=>exact⟨_,_,rfl,.obj o a e n .nil,⟨_,_,_,rfl,o,a,e,n⟩,b⟩
 |Jv b=>exact⟨_,_,rfl,.Jv .nil,trivial,b⟩
theorem du.Ju{v u}(x:du P H v u):Fa P H v u:=by
 obtain⟨_,_,e,_,i,_⟩:=bz.Ju x;cases e;exact i
theorem iD{i t}:du P H (.int i) (.int i t):=.int .nil
theorem gq{b}:du P H (.bool b) (.bool b):=.bool .nil
theorem uM:du P H .none .none:=.none .nil
theorem du.J4{i u}{C:Value→Prop}(x:du P H (.int i) u)(h:∀t,C (.int i t)):C u:=by
 obtain⟨t,rfl⟩:=x.Ju;exact h t
end
section
structure qD(prog:Program)(A:Around)(l:List PySem.Env)(d:Nat):Prop where
 hh:A.handled=none
 fr:A.frames=some l
 tree:prog.given.tree=none
 dep:A.depth+2*d+150≤recursionLimit
 un:A.units+30*d+200≤cLine
structure zk(prog:Program)(A:Around)(l:List PySem.Env)(d:Nat):Prop extends qD prog A l d where
 top:∃env r,l=env::r∧env.scope.isGenerator=false∧env.scope.isCoroutine=false∧env.builtins=builtinsNs∧env.globals=mainGlobals
structure GF(K:Frag)(hb:Heap):Prop where
 inK:K.In hb
 g:∃mg mb,hb.Ns mainGlobals mg∧hb.Ns builtinsNs mb∧(∀x v,nsIn K mainGlobals x=some (some v)→mg x=some v)∧(∀x,nsIn K mainGlobals x=some none→mg x=none)∧∀x:Str,x≠"__name__"→mb x=bootBuiltins x
 lim:hb.NoLimit
 seer:hb.NoSeer
theorem GF.keeps{K:Frag}{hb hb':Heap}(g:GF K hb)(k:hb.StaysIn hb'):GF K hb':=
 ⟨g.inK.keeps k,let⟨mg,mb,a,b,c⟩:=g.g;⟨mg,mb,a.keeps k,b.keeps k,c⟩,g.lim.keeps k,g.seer.keeps k⟩
structure Ctx where
 prog:Program
 w:World
 A:Around
 l:List PySem.Env
 d:Nat
 K:Frag
 F:FT
noncomputable abbrev Ctx.P(c:Ctx):PD:=DK c.prog c.w
noncomputable abbrev Ctx.M(c:Ctx):Model:=model c.prog c.w
noncomputable abbrev kA(l:List PySem.Env):List Addr:=l.filterMap (·.frame)
structure St(c:Ctx)(H:Heap)(s:Shared):Prop where
 gf:GF c.K H
 stays:H.StaysIn s.heap
 ff:s.heap.FunFrames H c.l
structure Mv(c:Ctx)(ch:Addr→Prop)(H:Heap)(s:Shared)(H':Heap)(s':Shared):Prop where
 st:St c H' s'
 eq:∃h tk,s'={ s with heap:=h,toks:=tk }
 base:H.StaysIn H'
 keep:km (kA c.l) ch s.heap s'.heap
 JM:∀a,s.heap.get? a≠none→¬ch a→H.get? a=none→H'.get? a=none
noncomputable abbrev no:Addr→Prop:=fun Z=>False
variable{c:Ctx}{ch ch':Addr→Prop}{H H' H0 H1:Heap}{s s' s0 s1:Shared}{h':Heap}{tk:Nat}
theorem km.refl{fr:List Addr}{h:Heap}:km fr ch h h:=fun Z o e Z=>⟨fun Z=>e,o.slots,e⟩
theorem km.of{fr:List Addr}{h:Heap}(k:∀b o,h.get? b=some o→¬ch b→h'.get? b=some o):km fr ch h h':=fun b o e n=>⟨fun Z=>k b o e n,o.slots,k b o e n⟩
theorem km.trans{fr:List Addr}{h h1 h2:Heap}(x:km fr ch h h1)(y:km fr ch h1 h2):km fr ch h h2:=fun b o e n=>
 ⟨fun hf=>(y b o ((x b o e n).1 hf) n).1 hf,let⟨_,e1⟩:=(x b o e n).2;let⟨sl,e2⟩:=(y b _ e1 n).2;⟨sl,e2⟩⟩
theorem km.some{fr:List Addr}{h h':Heap}(x:km fr ch h h'){a:Addr}(e:h.get? a≠none)(n:¬ch a):h'.get? a≠none:=by
 obtain⟨o,e⟩:=aG.mp e;obtain⟨sl,e'⟩:=(x a o e n).2;rw[e'];exact(by intro h;cases h)
theorem Mv.refl(S:St c H s):Mv c ch H s H s:=⟨S,⟨s.heap,s.toks,rfl⟩,fun Z Z e=>e,.refl,fun Z Z Z e=>e⟩
theorem Mv.trans(g:Mv c ch H s H1 s1)(g':Mv c ch H1 s1 H' s'):Mv c ch H s H' s':=
 ⟨g'.st,let⟨h,t,e⟩:=g.eq;let⟨h',t',e'⟩:=g'.eq;⟨h',t',by rw[e',e]⟩,fun b o e=>g'.base b o (g.base b o e),g.keep.trans g'.keep,fun a h1 h2 h3=>g'.JM a (g.keep.some h1 h2) h2 (g.JM a h1 h2 h3)⟩
theorem Mv.JA(g:Mv c ch H s H' s')(k:∀a,ch a→ch' a):Mv c ch' H s H' s':=
 ⟨g.st,g.eq,g.base,fun b o e n=>g.keep b o e fun q=>n (k b q),fun a h1 h2=>g.JM a h1 fun q=>h2 (k a q)⟩
theorem St.frOld(S:St c H s){b:Addr}(h:b∈kA c.l):H.get? b=none∧s.heap.get? b≠none:=by
 obtain⟨n,o,e,_⟩:=S.ff.mem h;exact⟨n,by rw[e];exact(by intro h;cases h)⟩
theorem yb{h:Heap}:∀{l:List PySem.Env},h.FunFrames H l→(∀b∈kA l,H'.get? b=none)→(∀b o,h.get? b=some o→b∈kA l→(∀vs,o.data≠.fields vs)→∃o',h'.get? b=some o'∧∀vs,o'.data≠.fields vs)→h'.FunFrames H' l
 | [],_,_,_=>trivial
 |env::r,⟨hk,⟨L,o,hf,_,ho,hd⟩,hr⟩,b,k=>by
  have e:kA (env::r)=L::kA r:=by simp[kA,hf]
  rw[e]at b k;obtain⟨o',e',hd'⟩:=k L o ho (.head _) hd;exact⟨hk,⟨L,o',hf,b L (.head _),e',hd'⟩,yb hr (fun x hx=>b x (.tail _ hx)) fun x y z hx=>k x y z (.tail _ hx)⟩
theorem jd{h:Heap}{l:List PySem.Env}(f:h.FunFrames H l)(b:∀b∈kA l,H'.get? b=none)(k:∀b o,h.get? b=some o→b∈kA l→∃sl,h'.get? b=some { o with slots:=sl }):h'.FunFrames H' l:=yb f b fun b o e q hd=>let⟨sl,e'⟩:=k b o e q;⟨_,e',hd⟩
theorem Mv.step(g:Mv c ch H0 s0 H s)(k:km (kA c.l) ch s.heap h')(hb:H.StaysIn h')(hf:∀b∈kA c.l,¬ch b):Mv c ch H0 s0 H { s with heap:=h',toks:=tk }:=
 g.trans ⟨⟨g.st.gf,hb,jd g.st.ff (fun Z q=>(g.st.frOld q).1) fun b o e q=>(k b o e (hf b q)).2⟩,⟨h',tk,rfl⟩,fun Z Z e=>e,k,fun Z Z Z e=>e⟩
theorem Mv.keeps(g:Mv c no H0 s0 H s)(k:∀b o,s.heap.get? b=some o→h'.get? b=some o):Mv c no H0 s0 H { s with heap:=h',toks:=tk }:=
 g.step (.of fun b o e Z=>k b o e) (fun b o e=>k b o (g.st.stays b o e)) fun Z Z q=>q
theorem Mv.toks(g:Mv c no H0 s0 H s):Mv c no H0 s0 H { s with toks:=tk }:=g.keeps (h':=s.heap) fun Z Z e=>e
theorem vX(h H:Heap)(k:H.StaysIn h)(p:Addr→Prop):∃H':Heap,H.StaysIn H'∧H'.StaysIn h∧(∀a o,h.get? a=some o→p a→H'.get? a=some o)∧∀a,H.get? a=none→¬p a→H'.get? a=none:=by
 classical
 refine⟨hideAll h ((List.range h.objs.size).filter fun b=>decide (H.get? b=none∧¬p b)),fun b o e=>hideAll_get _ (k b o e) fun q=>?_,fun b o e=>of_hideAll _ e,fun a o e q=>hideAll_get _ e fun z=>?_,fun a e n=>?_⟩
 ·rw[(aT (bR.mp q).2).1]at e;cases e
 ·exact(aT (bR.mp z).2).2 q
 ·cases e1:h.get? a with
  |none=>cases e2:(hideAll h _).get? a with
   |none=>rfl
   |some o=>rw[of_hideAll _ e2]at e1;cases e1
  |some o=>exact hideAll_none _ (bR.mpr ⟨bP.mpr (dS e1),ak ⟨e,n⟩⟩)
theorem St.pick(S:St c H s)(p:Addr→Prop)(hp:∀b∈kA c.l,¬p b):∃H',St c H' s∧H.StaysIn H'∧(∀a o,s.heap.get? a=some o→p a→H'.get? a=some o)∧∀a,H.get? a=none→¬p a→H'.get? a=none:=by
 obtain⟨H',a,b,d,e⟩:=vX s.heap H S.stays p;exact⟨H',⟨S.gf.keeps a,b,jd S.ff (fun x q=>e x (S.frOld q).1 (hp x q)) fun b o e Z=>⟨o.slots,e⟩⟩,a,d,e⟩
theorem Mv.pick(g:Mv c no H0 s0 H s)(S0:St c H0 s0)(p:Addr→Prop)(hp:∀b,p b→s0.heap.get? b=none):∃H',Mv c no H0 s0 H' s∧H.StaysIn H'∧(∀a o,s.heap.get? a=some o→p a→H'.get? a=some o)∧∀a,H.get? a=none→¬p a→H'.get? a=none:=by
 obtain⟨H',a,b,d,e⟩:=g.st.pick p fun b q z=>(S0.frOld q).2 (hp b z);exact⟨H',⟨a,g.eq,fun x o q=>b x o (g.base x o q),g.keep,fun x h1 h2 h3=>e x (g.JM x h1 h2 h3) fun z=>h1 (hp x z)⟩,b,d,e⟩
inductive NP(c:Ctx)(H:Heap)(s:Shared)(Q:V→Prop)(u:Value)(s':Shared):Prop
 |mk (H':Heap) (v:V) (g:Mv c no H s H' s') (r:du c.P H' v u) (q:Q v)
inductive NL(c:Ctx)(H:Heap)(s:Shared)(Q:V→Prop)(u:Value)(s':Shared):Prop
 |mk (H':Heap) (m:List V) (a:Addr) (items:Array Value) (k:Nat) (g:Mv c no H s H' s') (e:u=.ref a) (n:s.heap.get? a=none) (h:H'.get? a=none) (t:IsL s'.heap a items k) (r:bz c.P H' m items.toList) (len:m.length≤lim+1) (q:Q (.Jq m))
variable{Q:V→Prop}{u:Value}{v:V}
theorem Mv.np(g:Mv c no H0 s0 H s)(r:du c.P H v u)(q:Q v):NP c H0 s0 Q u s:=⟨H,v,g,r,q⟩
theorem Mv.JU(g:Mv c no H0 s0 H s)(r:du c.P H v u)(q:Q v):NP c H0 s0 Q u { s with toks:=tk }:=⟨H,v,g.toks,r,q⟩
theorem NP.of(S0:St c H s)(x:NL c H s Q u s'):NP c H s Q u s':=by
 obtain⟨H',m,a,items,k,g,rfl,n,h,t,r,len,q⟩:=x;obtain⟨H2,g2,b,d,_⟩:=g.pick S0 (·=a) fun Z e=>e▸n;exact⟨H2,_,g2,.Jq len (d a _ t rfl) (r.mono b) .nil,q⟩
theorem gb{h:Heap}(n:Nat):h.get? (h.objs.size+n)=none:=by
 cases e:h.get? (h.objs.size+n) with
 |none=>rfl
 |some o=>exact absurd (dS e) (bS.mpr (bD _ _))
theorem cK{h:Heap}:h.get? h.objs.size=none:=gb 0
theorem Mv.off(g:Mv c no H0 s0 H s){a:Addr}(e:s.heap.get? a=none):s0.heap.get? a=none:=bg fun q=>g.keep.some q (fun z=>z) e
theorem St.off(S:St c H s){a:Addr}(e:s.heap.get? a=none):H.get? a=none:=by
 cases q:H.get? a with
 |none=>rfl
 |some o=>rw[S.stays a o q]at e;cases e
theorem Mv.nl(g:Mv c no H0 s0 H s){m:List V}{items:Array Value}(r:bz c.P H m items.toList)(hm:m.length≤lim+1){a:Addr}{k:Nat}(ha:s.heap.get? a=none)(kp:∀b o,s.heap.get? b=some o→h'.get? b=some o)(t:IsL h' a items k)(q:Q (.Jq m)):
  NL c H0 s0 Q (.ref a) { s with heap:=h',toks:=tk }:=⟨H,m,a,items,k,g.keeps kp,rfl,g.off ha,g.st.off ha,t,r,hm,q⟩
theorem Mv.Kg(g:Mv c no H0 s0 H s){m:List V}{items:Array Value}(r:bz c.P H m items.toList)(hm:m.length≤lim+1)(q:Q (.Jq m)):
  NL c H0 s0 Q (.ref s.heap.objs.size) { s with heap:=s.heap.push { cls:=.type "list",data:=.seq items },toks:=tk }:=g.nl r hm cK (fun Z Z e=>aH _ e) (cf _ rfl) q
theorem Mv.Kx(g:Mv c no H0 s0 H s)(S0:St c H0 s0)(k:∀b o,s.heap.get? b=some o→h'.get? b=some o):∃H',Mv c no H0 s0 H' { s with heap:=h',toks:=tk }∧H.StaysIn H'∧∀a o,s.heap.get? a=none→h'.get? a=some o→H'.get? a=some o:=by
 obtain⟨H',a,b,d,_⟩:=(g.keeps (tk:=tk) k).pick S0 (fun a=>s.heap.get? a=none) fun Z e=>g.off e;exact⟨H',a,b,fun a o n e=>d a o e n⟩
theorem Mv.KG(g:Mv c no H0 s0 H s)(S0:St c H0 s0){m:List V}{items:Array Value}(r:bz c.P H m items.toList)(hm:m.length≤lim)(q:Q (.Js m)):
  NP c H0 s0 Q (.ref s.heap.objs.size) { s with heap:=s.heap.push { cls:=.type "tuple",data:=.seq items },toks:=tk }:=by
 obtain⟨H',a,b,d⟩:=g.Kx (tk:=tk) S0 fun Z Z e=>aH { cls:=.type "tuple",data:=.seq items } e;exact a.np (.Js hm ⟨_,d _ _ cK (cf _ rfl),rfl,0,rfl⟩ (r.mono b) .nil) q
variable{P:PD}
theorem bz.len{l r}(x:bz P H l r):r.length=l.length:=by
 induction x with
 |nil=>rfl
 |none _ a=>exact aj (·+1) a
 |bool _ a=>exact aj (·+1) a
 |int _ a=>exact aj (·+1) a
 |Js _ _ _ _ _ a=>exact aj (·+1) a
 |Jq _ _ _ _ _ a=>exact aj (·+1) a
 |rng _ _ _ a=>exact aj (·+1) a
 |obj _ _ _ _ _ _ a=>exact aj (·+1) a
 |Jv _ a=>exact aj (·+1) a
theorem bz.two{v:V}{l:List V}{r:List Value}(x:bz P H (v::l) r):∃u r',r=u::r'∧du P H v u∧bz P H l r':=let⟨u,r',e,a,_,b⟩:=x.Ju;⟨u,r',e,a,b⟩
theorem bz.get{l:List V}:∀{r:List Value},bz P H l r→∀{i:Nat}{v:V},l[i]? =some v→∃u,r[i]? =some u∧du P H v u:=by
 induction l with
 |nil=>exact fun Z Z Z e=>(by cases e)
 |cons w l ih=>
  intro r x i v e;obtain⟨u,r',rfl,a,b⟩:=x.two;cases i with
  |zero=>obtain rfl:=ah (e);exact⟨u,rfl,a⟩
  |succ i=>exact ih b e
theorem bz.take{l:List V}:∀{r:List Value},bz P H l r→∀n,bz P H (l.take n) (r.take n):=by
 induction l with
 |nil=>intro r x n;obtain rfl:=bz.Ju x;rw[List.take_nil,List.take_nil];exact .nil
 |cons w l ih=>
  intro r x n;obtain⟨u,r',rfl,a,b⟩:=x.two;cases n with
  |zero=>exact .nil
  |succ n=>exact .cons a (ih b n)
theorem bz.drop{l:List V}:∀{r:List Value},bz P H l r→∀n,bz P H (l.drop n) (r.drop n):=by
 induction l with
 |nil=>intro r x n;obtain rfl:=bz.Ju x;rw[List.drop_nil,List.drop_nil];exact .nil
 |cons w l ih=>
  intro r x n;cases n with
  |zero=>exact x
  |succ n=>
   obtain⟨u,r',rfl,a,b⟩:=x.two;exact ih b n
theorem bz.set{v:V}{u:Value}(y:du P H v u){l:List V}:∀{r:List Value},bz P H l r→∀i,bz P H (l.set i v) (r.set i u):=by
 induction l with
 |nil=>intro r x i;obtain rfl:=bz.Ju x;exact .nil
 |cons w l ih=>
  intro r x i;obtain⟨u',r',rfl,a,b⟩:=x.two;cases i with
  |zero=>exact .cons y b
  |succ i=>exact .cons a (ih b i)
theorem bz.replicate{v:V}{u:Value}(y:du P H v u):∀n,bz P H (List.replicate n v) (List.replicate n u)
 |0=>.nil
 |n+1=>.cons y (bz.replicate y n)
theorem bz.Kr{is:List Int}:∀{r:List Value},bz P H (is.map .int) r→IntsAre r is:=by
 induction is with
 |nil=>intro r x;obtain rfl:=bz.Ju x;exact .nil
 |cons i is ih=>
  intro r x;obtain⟨u,r',rfl,a,b⟩:=bz.two x;exact a.J4 (C:=fun u=>IntsAre (u::r') (i::is)) fun t=>.cons _ _ (ih b)
theorem bz.Kq{is:List Int}{r:List Value}(x:IntsAre r is):bz P H (is.map .int) r:=by
 induction x with
 |nil=>exact .nil
 |cons _ _ _ ih=>exact .int ih
theorem bz.size{l:List V}{items:Array Value}(r:bz P H l items.toList):items.size=l.length:=r.len
theorem fO:lim=100000:=rfl
theorem js{n:Nat}(h:n≤lim):n≤sizeLine:=aa h (by decide)
theorem f9{n:Nat}(h:n≤lim+1):n≤sizeLine:=aa h (by decide)
variable{A:Around}{X:Prop}{E:Value→Shared→Prop}{v1 v2:V}{u1 u2:Value}{T:Value→Shared→Prop}
section
theorem db{v:V}{Q:Int→Prop}(x:fm v Q X):∃i,v=.int i∧Q i:=by
 cases v with
 |int i=>exact⟨i,rfl,x⟩
 |_=>exact x.elim
theorem fD{v:V}{Q:List V→Prop}(x:dD v Q X):∃l,v=.Jq l∧Q l:=by
 cases v with
 |Jq i=>exact⟨i,rfl,x⟩
 |_=>exact x.elim
theorem bh{α:Type}{p:Prop}[Decidable p]{r:R α}{Q:α→Prop}(x:iff p r Q X):p∧r Q X:=by
 unfold iff at x;by_cases h:p
 ·rw[aB h]at x;exact⟨h,x⟩
 ·rw[aC h]at x;exact x.elim
theorem d4{α:Type}{o:Option α}{Q:α→Prop}(x:ft o Q X):∃a,o=some a∧Q a:=by
 cases o with
 |some a=>exact⟨a,rfl,x⟩
 |none=>exact x.elim
theorem je{l:List V}:∀{Q:List Int→Prop},iB l Q X→∃is:List Int,l=is.map .int∧Q is:=by
 induction l with
 |nil=>exact fun x=>⟨[],rfl,x⟩
 |cons v l ih=>
  intro Q x;cases v with
  |int i=>obtain⟨is,e,q⟩:=ih (Q:=fun r=>Q (i::r)) x;exact⟨i::is,aj _ e,q⟩
  |_=>exact x.elim
theorem hO{f:Value→Value→Sem Value}{φ:Int→Int→R V}(x:nT v1 v2 φ Q X)(r1:du c.P H v1 u1)(r2:du c.P H v2 u2)(h:∀i j t t',φ i j Q X→wpAny c.M A (f (.int i t) (.int j t')) T E s):wpAny c.M A (f u1 u2) T E s:=by
 obtain⟨i,rfl,x⟩:=db x;obtain⟨j,rfl,x⟩:=db (Q:=fun b=>φ i b Q X) x;obtain⟨t,rfl⟩:=r1.Ju;obtain⟨t',rfl⟩:=r2.Ju;exact h i j t t' x
variable(g:Mv c no H0 s0 H s)(S0:St c H0 s0)(r1:du c.P H v1 u1)(r2:du c.P H v2 u2)
include g r1 r2
theorem FG(x:eP .sub v1 v2 Q X):wpAny c.M A (binaryOp .Sub u1 u2) (NP c H0 s0 Q) E s:=hO x r1 r2 fun Z Z Z Z q=>PyProof.Rows.sub_int (g.JU iD q)
theorem B0(x:eP .Ks v1 v2 Q X):wpAny c.M A (binaryOp .BitAnd u1 u2) (NP c H0 s0 Q) E s:=hO x r1 r2 fun i j Z Z q=>by
 obtain⟨⟨rfl,h0⟩,q⟩:=bh q;refine PyProof.Rows.and_int (g.JU iD ?_);rcases h0 with rfl|rfl<;>exact q
theorem Cc(x:eP .fmod v1 v2 Q X):wpAny c.M A (binaryOp .Mod u1 u2) (NP c H0 s0 Q) E s:=hO x r1 r2 fun i j Z Z q=>
 have⟨h,q⟩:=bh q
 PyProof.Rows.mod_int' (Int.ne_of_gt h.1) (g.JU iD (by rw[Int.fmod_eq_emod_of_nonneg _ (Int.le_of_lt h.1)];exact q))
theorem HG(x:eP .lt v1 v2 Q X):wpAny c.M A (compareOp .Lt u1 u2) (NP c H0 s0 Q) E s:=hO x r1 r2 fun Z Z Z Z q=>PyProof.Rows.lt_int (g.np gq q)
theorem G9(x:eP .le v1 v2 Q X):wpAny c.M A (compareOp .LtE u1 u2) (NP c H0 s0 Q) E s:=hO x r1 r2 fun Z Z Z Z q=>PyProof.Rows.le_int (g.np gq q)
theorem HH(x:eP .gt v1 v2 Q X):wpAny c.M A (compareOp .Gt u1 u2) (NP c H0 s0 Q) E s:=hO x r1 r2 fun Z Z Z Z q=>PyProof.Rows.gt_int (g.np gq q)
theorem Hj(x:eP .ge v1 v2 Q X):wpAny c.M A (compareOp .GtE u1 u2) (NP c H0 s0 Q) E s:=hO x r1 r2 fun Z Z Z Z q=>PyProof.Rows.ge_int (g.np gq q)
end
section
theorem du.Kj{m:List V}{C:Value→Prop}(x:du c.P H (.Jq m) u)(h:∀a items k,m.length≤lim+1→IsL H a items k→bz c.P H m items.toList→C (.ref a)):C u:=by
 obtain⟨a,items,k,rfl,n,t,r⟩:=x.Ju;exact h a items k n t r
theorem du.La{m:List V}{C:Value→Prop}(x:du c.P H (.Js m) u)(h:∀a items,m.length≤lim→IsTup H a items→bz c.P H m items.toList→C (.ref a)):C u:=by
 obtain⟨a,items,rfl,n,t,r⟩:=x.Ju;exact h a items n t r
theorem eO(S:St c H s){a:Addr}{items:Array Value}(t:IsTup H a items):IsTup s.heap a items:=xr t fun Z Z e=>S.stays _ _ e
theorem vG{m:List V}(x:j6 m Q X):m.length≤lim∧Q (.Jq m):=bh x
theorem vx(x:E4 v1 v2 Q X):(∃i j,v1=.int i∧v2=.int j∧Q (.int (i+j)))∨∃l m,v1=.Jq l∧v2=.Jq m∧(l++m).length≤lim∧Q (.Jq (l++m)):=by
 cases v1 with
 |int i=>obtain⟨j,rfl,q⟩:=db (Q:=fun b=>Q (.int (i+b))) x;exact .inl ⟨i,j,rfl,rfl,q⟩
 |Jq l=>obtain⟨m,rfl,q⟩:=fD (Q:=fun m=>j6 (l++m) Q X) x;exact .inr ⟨l,m,rfl,rfl,vG q⟩
 |_=>exact(x:False).elim
theorem yd(g:Mv c no H0 s0 H s){l m:List V}(r1:du c.P H (.Jq l) u1)(r2:du c.P H (.Jq m) u2)(h:(l++m).length≤lim)(q:Q (.Jq (l++m))):wpAny c.M A (binaryOp .Add u1 u2) (NL c H0 s0 Q) E s:=
 r1.Kj (C:=fun u1=>wpAny c.M A (binaryOp .Add u1 u2) (NL c H0 s0 Q) E s) fun a items k n t r=>r2.Kj (C:=fun u2=>wpAny c.M A (binaryOp .Add (.ref a) u2) (NL c H0 s0 Q) E s) fun a' items' k' n' t' r'=>
  PySem.P.add_list (g.st.stays _ _ t) (g.st.stays _ _ t') (g.Kg (tk:=s.toks) (by rw[Array.toList_append];exact(r.append r')) (cy h) q) (js (by rw[r.size,r'.size,←ai];exact h))
variable(g:Mv c no H0 s0 H s)(S0:St c H0 s0)(r1:du c.P H v1 u1)(r2:du c.P H v2 u2)
include g S0 r1 r2
theorem Fh(x:eP .add v1 v2 Q X):wpAny c.M A (binaryOp .Add u1 u2) (NP c H0 s0 Q) E s:=by
 rcases vx x with⟨i,j,rfl,rfl,q⟩|⟨l,m,rfl,rfl,h,q⟩
 ·exact hO (v1:=.int i) (v2:=.int j) (φ:=fun a b=>ok (.int (a+b))) (X:=X) q r1 r2 fun Z Z Z Z q=>wpAny_add_int (g.JU iD q)
 ·exact au (yd g r1 r2 h q) (fun Z Z z=>NP.of S0 z) fun Z Z z=>z
omit S0
theorem DR(x:eP .add v1 v2 (fun v=>dD v (fun l=>Q (.Jq l)) X) X):wpAny c.M A (binaryOp .Add u1 u2) (NL c H0 s0 Q) E s:=by
 rcases vx x with⟨i,j,rfl,rfl,q⟩|⟨l,m,rfl,rfl,h,q⟩
 ·exact q.elim
 ·exact yd g r1 r2 h q
theorem B8(o:zk c.prog A c.l c.d)(x:eP .fdiv v1 v2 Q X):wpAny c.M A (binaryOp .FloorDiv u1 u2) (NP c H0 s0 Q) E s:=hO x r1 r2 fun i j Z Z q=>by
 obtain⟨h,q⟩:=bh q;refine PyProof.Rows.floordiv_int (Int.ne_of_gt h.1) (g.JU iD (Int.fdiv_eq_ediv_of_nonneg _ (Int.le_of_lt h.1)▸q)) (.inr ?_);obtain⟨env,r,e,h1,h2,h3,h4⟩:=o.top;exact PylongRoom.of (g.st.gf.lim.keeps g.st.stays) (by have:=o.dep;have:Builtin.pylongFrames=100:=rfl;omega) (SeerAt.of (env:=env) (l:=r) (g.st.gf.seer.keeps g.st.stays) o.tree ((e).symm▸o.fr) h1 h2 h3 h4)
end
end
section
variable{c:Ctx}{A:Around}{H H0:Heap}{s s0:Shared}{Q:V→Prop}{X:Prop}{E:Value→Shared→Prop}{v v1 v2:V}{u u1 u2:Value}{T:Value→Shared→Prop}
theorem xC(g:Mv c no H0 s0 H s){y:V}{n:Int}(r1:du c.P H (.Jq [y]) u1)(r2:du c.P H (.int n) u2)(h:0≤n∧n≤lim)(q:Q (.Jq (List.replicate n.toNat y))):wpAny c.M A (binaryOp .Mult u1 u2) (NL c H0 s0 Q) E s:=by
 obtain⟨t,rfl⟩:=r2.Ju;refine r1.Kj (C:=fun u1=>wpAny c.M A (binaryOp .Mult u1 (.int n t)) (NL c H0 s0 Q) E s) fun cc items k Z hl r=>?_
 replace hl:=g.st.stays _ _ hl
 have h1:items.size=1:=r.size;have hn':n.toNat≤100000:=by have:lim=100000:=rfl;omega
 refine wpAny_binaryOp_repeat_ref (T:="list") (U:="int") (by decide) ⟨_,hl,rfl⟩ (fun s'=>typeIs_int s' n t) noFill_list_mul F.fills_int_mul F.slot_int_rmul repeat_list F.slot_int_index.lookup
  (call_meets F.slot_int_rmul (typeIs_int s n t) F.entry_int_rmul (F.args_int_rmul_2 _ _) (lm_int_rmul_list_any n t cc items k none #[])
   ⟨hl,rfl,⟨_,hl,rfl⟩,call_meets F.slot_list_mul ⟨_,hl,rfl⟩ F.entry_list_mul (F.args_list_mul_2 _ _)
    (lm_list_mul_any cc items k none #[] n t ?_ ?_ ?_) ⟨hl,?_⟩⟩)
 ·simp[Builtin.List.listFitsIndex];omega
 ·rw[h1];omega
 ·rw[h1];simp[Builtin.List.listTooLong,sizeLine];omega
 ·obtain⟨w,r',e,a,b⟩:=r.two;obtain rfl:=bz.Ju b;refine g.Kg (m:=List.replicate n.toNat y) ?_ (by rw[b9];have:=fO;omega) q
  rw[listMul_foldl_if,e,show(List.replicate n.toNat [w]).flatten.toArray.toList=List.replicate n.toNat w by simp];exact .replicate a _
theorem all_cons{α:Type}{p:α→Bool}{a:α}{l:List α}(h:(a::l).all p=true):p a=true∧l.all p=true:=am.mp h
theorem bz.JQ{P:PD}{H:Heap}{l:List V}{r:List Value}(x:bz P H l r):∀{n:Nat},l.all (iQ n)=true→∃as,ReadsAll H r (k8 l) as:=by
 induction x with
 |nil=>exact fun Z=>⟨_,.nil⟩
 |none _ a=>exact fun g=>let⟨_,z⟩:=a (all_cons g).2;⟨_,.cons .none z⟩
 |bool _ a=>exact fun g=>let⟨_,z⟩:=a (all_cons g).2;⟨_,.cons (.bool _) z⟩
 |int _ a=>exact fun g=>let⟨_,z⟩:=a (all_cons g).2;⟨_,.cons (.int _ _) z⟩
 |Js _ t _ _ a b=>
  intro n g;cases n with
  |zero=>cases(all_cons g).1
  |succ n=>
   obtain⟨_,z⟩:=b (all_cons g).2;obtain⟨_,y⟩:=a (n:=n) (all_cons g).1;obtain⟨o,e,c,k,d⟩:=t;exact⟨_,.cons (.tuple e c d y) z⟩
 |Jq _ t _ _ a b=>
  intro n g;cases n with
  |zero=>cases(all_cons g).1
  |succ n=>
   obtain⟨_,z⟩:=b (all_cons g).2;obtain⟨_,y⟩:=a (n:=n) (all_cons g).1;exact⟨_,.cons (.list t rfl rfl y) z⟩
 |rng _ _ _ _=>intro n g;cases n<;>cases(all_cons g).1
 |obj _ _ _ _ _ _ _=>intro n g;cases n<;>cases(all_cons g).1
 |Jv _ _=>intro n g;cases n<;>cases(all_cons g).1
theorem jQ{n:Nat}(ih:∀{v},iQ n v=true→(kb v).canLay0=true∧(kb v).depth≤n):∀{l:List V},l.all (iQ n)=true→PyData.canLayAll0 (k8 l)=true∧PyData.depthAll (k8 l)≤n
 | [],_=>⟨rfl,aQ _⟩
 |v::l,g=>by obtain⟨g1,g2⟩:=all_cons g;exact have h:=jQ ih g2;⟨am.mpr ⟨(ih g1).1,h.1⟩,Nat.max_le.mpr ⟨(ih g1).2,h.2⟩⟩
theorem kl:∀{n:Nat}{v:V},iQ n v=true→(kb v).canLay0=true∧(kb v).depth≤n:=by
 intro n;induction n with
 |zero=>intro v g;cases v<;>first | exact⟨rfl,aM _⟩ | cases g
 |succ n ih=>
  intro v g;cases v with
  |Js l=>exact⟨(jQ ih g).1,bQ (jQ ih g).2⟩
  |Jq l=>exact⟨(jQ ih g).1,bQ (jQ ih g).2⟩
  |none=>exact⟨rfl,aQ _⟩
  |bool=>exact⟨rfl,aQ _⟩
  |int=>exact⟨rfl,aQ _⟩
  |_=>cases g
theorem jP{n:Nat}{l:List V}:l.all (iQ n)=true→PyData.canLayAll0 (k8 l)=true∧PyData.depthAll (k8 l)≤n:=jQ kl
theorem na(d:PyData):∀l:List V,(l.any fun u=>PyData.eqv (kb u) d)=(k8 l).any fun y=>PyData.eqv y d
 | []=>rfl
 |v::l=>aj (PyData.eqv (kb v) d||·) (na d l)
section
theorem du.JQ(S:St c H s)(r:du c.P H v u)(g:iQ 20 v=true):∃as,Reads s.heap u (kb v) as:=by
 obtain⟨as,z⟩:=(r.mono S.stays).JQ (n:=20) (am.mpr ⟨g,rfl⟩);cases z with
 |cons a _=>exact⟨_,a⟩
theorem i5(g:iQ 20 v=true):PySem.SeqAt.shaped (kb v)=true:=am.mpr ⟨(kl g).1,ak (aa (kl g).2 (by decide))⟩
theorem yG{Q:Bool→Prop}(x:AC v1 v2 Q X):(∃a b,v1=.int a∧v2=.int b∧Q (decide (a=b)))∨(iQ 20 v1=true∧iQ 20 v2=true)∧Q (PyData.eqv (kb v1) (kb v2)):=by
 cases v1 with
 |int a=>cases v2 with
  |int b=>exact .inl ⟨a,b,rfl,rfl,x⟩
  |_=>exact .inr (bh x)
 |_=>exact .inr (bh x)
theorem qD.KQ{prog:Program}{l:List PySem.Env}{d:Nat}(O:qD prog A l d):A.units+64<cLine:=by have:=O.un;omega
theorem qD.KN{prog:Program}{l:List PySem.Env}{d n k:Nat}(O:qD prog A l d)(h:n≤20):A.units+1+min n k<cLine:=by have:=O.un;omega
variable(g:Mv c no H0 s0 H s)(o:qD c.prog A c.l c.d)(r1:du c.P H v1 u1)(r2:du c.P H v2 u2)
include g o r1 r2
theorem HU(x:eP .eq v1 v2 Q X):wpAny c.M A (compareOp .Eq u1 u2) (NP c H0 s0 Q) E s:=by
 rcases yG x with⟨i,j,rfl,rfl,q⟩|⟨⟨h1,h2⟩,q⟩
 ·exact r1.J4 (C:=fun u1=>wpAny c.M A (compareOp .Eq u1 u2) (NP c H0 s0 Q) E s) fun t=>r2.J4 (C:=fun u2=>wpAny c.M A (compareOp .Eq (.int i t) u2) (NP c H0 s0 Q) E s) fun Z=>PyProof.Rows.eq_int (g.np gq q)
 ·obtain⟨_,a⟩:=r1.JQ g.st h1;obtain⟨_,b⟩:=r2.JQ g.st h2;exact eq_dataH a b (i5 h1) (i5 h2) o.KQ (g.np gq q)
theorem HQ(x:eP .ne v1 v2 Q X):wpAny c.M A (compareOp .NotEq u1 u2) (NP c H0 s0 Q) E s:=by
 rcases yG (Q:=fun b=>Q (.bool !b)) x with⟨i,j,rfl,rfl,q⟩|⟨⟨h1,h2⟩,q⟩
 ·exact r1.J4 (C:=fun u1=>wpAny c.M A (compareOp .NotEq u1 u2) (NP c H0 s0 Q) E s) fun t=>r2.J4 (C:=fun u2=>wpAny c.M A (compareOp .NotEq (.int i t) u2) (NP c H0 s0 Q) E s) fun Z=>PyProof.Rows.ne_int (g.np gq q)
 ·obtain⟨_,a⟩:=r1.JQ g.st h1;obtain⟨_,b⟩:=r2.JQ g.st h2;exact ne_dataH a b (i5 h1) (i5 h2) o.KQ (g.np gq q)
omit g o r1 r2 in
theorem w7{Q:Bool→Prop}(x:zW v1 v2 Q X):∃l,(v2=.Js l∨v2=.Jq l)∧(iQ 20 v1=true∧l.all (iQ 20)=true)∧Q ((k8 l).any fun y=>PyData.eqv y (kb v1)):=by
 cases v2 with
 |Js l=>refine⟨l,.inl rfl,?_⟩;rw[←na];exact bh (r:=ok _) x
 |Jq l=>refine⟨l,.inr rfl,?_⟩;rw[←na];exact bh (r:=ok _) x
 |_=>exact(x:False).elim
theorem Hx(x:eP .JK v1 v2 Q X):wpAny c.M A (compareOp .In u1 u2) (NP c H0 s0 Q) E s:=by
 obtain⟨l,hl,⟨g1,g2⟩,q⟩:=w7 x;obtain⟨_,a⟩:=r1.JQ g.st g1;have hu:=o.KN (k:=(kb v1).depth) (jP g2).2;rcases hl with rfl|rfl
 ·obtain⟨_,items,rfl,n,t,r⟩:=r2.Ju;obtain⟨_,b⟩:=(r.mono g.st.stays).JQ g2;obtain⟨_,e,hc,k,hd⟩:=eO g.st t;exact PySem.SeqAt.in_tuple_reads (.tuple e hc hd b) a (jP g2).1 (kl g1).1 hu (g.np gq q)
 ·obtain⟨_,items,k,rfl,n,t,r⟩:=r2.Ju;obtain⟨_,b⟩:=(r.mono g.st.stays).JQ g2;exact PySem.SeqAt.in_list_reads (.list (g.st.stays _ _ t) rfl rfl b) a (jP g2).1 (kl g1).1 hu (g.np gq q)
theorem AF(x:eP .JI v1 v2 Q X):wpAny c.M A (compareOp .NotIn u1 u2) (NP c H0 s0 Q) E s:=by
 obtain⟨l,hl,⟨g1,g2⟩,q⟩:=w7 (Q:=fun b=>Q (.bool !b)) x;obtain⟨_,a⟩:=r1.JQ g.st g1;have hu:=o.KN (k:=(kb v1).depth) (jP g2).2;rcases hl with rfl|rfl
 ·obtain⟨_,items,rfl,n,t,r⟩:=r2.Ju;obtain⟨_,b⟩:=(r.mono g.st.stays).JQ g2;obtain⟨_,e,hc,k,hd⟩:=eO g.st t;exact PySem.SeqAt.notIn_tuple_reads (.tuple e hc hd b) a (jP g2).1 (kl g1).1 hu (g.np gq q)
 ·obtain⟨_,items,k,rfl,n,t,r⟩:=r2.Ju;obtain⟨_,b⟩:=(r.mono g.st.stays).JQ g2;exact PySem.SeqAt.notIn_list_reads (.list (g.st.stays _ _ t) rfl rfl b) a (jP g2).1 (kl g1).1 hu (g.np gq q)
end
theorem vi(x:FI v1 v2 Q X):∃n,v2=.int n∧((∃a,v1=.int a∧(a.natAbs<2^40∧n.natAbs<2^40)∧Q (.int (a*n)))∨∃y,v1=.Jq [y]∧(0≤n∧n≤lim)∧Q (.Jq (List.replicate n.toNat y))):=by
 obtain⟨n,rfl,x⟩:=db (Q:=fun n=>FM v1 n Q X) x;refine⟨n,rfl,?_⟩;cases v1 with
 |int a=>exact .inl ⟨a,rfl,bh x⟩
 |Jq l=>cases l with
  |nil=>exact(x:False).elim
  |cons y l=>cases l with
   |nil=>exact .inr ⟨y,rfl,bh x⟩
   |cons=>exact(x:False).elim
 |_=>exact(x:False).elim
theorem ED(g:Mv c no H0 s0 H s)(S0:St c H0 s0)(r1:du c.P H v1 u1)(r2:du c.P H v2 u2)(x:eP .mul v1 v2 Q X):wpAny c.M A (binaryOp .Mult u1 u2) (NP c H0 s0 Q) E s:=by
 obtain⟨n,rfl,⟨a,rfl,⟨h1,h2⟩,q⟩|⟨y,rfl,h,q⟩⟩:=vi x
 ·obtain⟨t,rfl⟩:=r1.Ju;obtain⟨t',rfl⟩:=r2.Ju;exact PyProof.Rows.mul_int (g.JU iD q) (by mul_fits)
 ·exact au (xC g r1 r2 h q) (fun Z Z z=>NP.of S0 z) fun Z Z z=>z
theorem Dv(g:Mv c no H0 s0 H s)(r1:du c.P H v1 u1)(r2:du c.P H v2 u2)(x:eP .mul v1 v2 (fun v=>dD v (fun l=>Q (.Jq l)) X) X):wpAny c.M A (binaryOp .Mult u1 u2) (NL c H0 s0 Q) E s:=by
 obtain⟨n,rfl,⟨a,rfl,_,q⟩|⟨y,rfl,h,q⟩⟩:=vi x
 ·exact q.elim
 ·exact xC g r1 r2 h q
theorem iN{n:Nat}{i:Int}{j:Nat}(e:o7 n i=some j):seqIndex? i n=some j∧((0≤i∧i=j)∨(i<0∧i+n=j))∧j<n:=by
 unfold o7 at e;split at e
 ·rename_i h;split at e
  ·obtain rfl:=ah (e);refine⟨?_,.inl ⟨h,by omega⟩,by assumption⟩;unfold seqIndex?;simp only[show ¬i<0 by omega,if_false];rw[aB (by rw[dY,decide_eq_true_eq,decide_eq_true_eq];omega)]
  ·cases e
 ·split at e
  ·obtain rfl:=ah (e);refine⟨?_,.inr ⟨by omega,by omega⟩,by omega⟩;rw[seqIndex_neg (by omega) (by omega),Int.add_comm]
  ·cases e
end
section
variable{c:Ctx}{A:Around}{H H0:Heap}{s s0:Shared}{Q:V→Prop}{X:Prop}{E:Value→Shared→Prop}{v v1 v2:V}{u u1 u2:Value}{T:Value→Shared→Prop}{a:Addr}{items:Array Value}{n:Nat}{m:List V}{i:Int}{t:Tok}
theorem uJ(x:idx m i Q X):∃(j:Nat)(v:V),seqIndex? i m.length=some j∧m[j]? =some v∧((0≤i∧i=j)∨(i<0∧i+m.length=j))∧j<m.length∧Q v:=by
 obtain⟨v,e,q⟩:=d4 x;obtain⟨j,e1,e2⟩:=bG.mp e;exact⟨j,v,(iN e1).1,e2,(iN e1).2.1,(iN e1).2.2,q⟩
theorem xd(hl:IsL s.heap a items n)(r:bz c.P H m items.toList)(hm:m.length≤lim+1)(x:idx m i Q X)(q:∀v y,du c.P H v y→Q v→T y s):wpAny c.M A (getItem (.ref a) (.int i t)) T E s:=by
 obtain⟨j,v,hj,ej,hi,hjl,qv⟩:=uJ x;obtain⟨y,ey,ry⟩:=r.get ej;have hs:=r.size;rw[fO]at hm;rw[cP]at ey;rcases hi with⟨h0,rfl⟩|⟨h0,hi⟩
 ·exact wpAny_getItem_list hl.isList h0 (by omega) ey (q v y ry qv)
 ·exact wpAny_getItem_list_neg hl.isList h0 (by omega) (by omega) (x:=y) (by rw[hs,hi];exact ey) (q v y ry qv)
theorem yZ(hl:IsTup s.heap a items)(r:bz c.P H m items.toList)(hm:m.length≤lim)(x:idx m i Q X)(q:∀v y,du c.P H v y→Q v→T y s):wpAny c.M A (getItem (.ref a) (.int i t)) T E s:=by
 obtain⟨j,v,hj,ej,hi,hjl,qv⟩:=uJ x;obtain⟨y,ey,ry⟩:=r.get ej;rw[fO]at hm;rw[cP]at ey;exact PyProof.Rows.getItem_tuple hl (by omega) (by omega) ((r.size)▸hj) ey (q v y ry qv)
theorem DC(g:Mv c no H0 s0 H s)(r1:du c.P H v1 u1)(r2:du c.P H v2 u2)(x:eP .item v1 v2 Q X):SubscriptOn c.M A u1 u2 (NP c H0 s0 Q) E s:=by
 obtain⟨i,rfl,x⟩:=db (Q:=fun i=>Bk v1 i Q X) x;obtain⟨t,rfl⟩:=r2.Ju;cases v1 with
 |Js m=>
  obtain⟨a,items,rfl,n,ht,r⟩:=r1.Ju;exact⟨_,_,F.slot_tuple_getitem.lookup,(eO g.st ht).typeIs,yZ (eO g.st ht) r n x fun v y ry q=>g.np ry q⟩
 |Jq m=>
  obtain⟨a,items,k,rfl,n,ht,r⟩:=r1.Ju;exact⟨_,_,F.slot_list_getitem.lookup,(dJ (g.st.stays _ _ ht)).typeIs,xd (g.st.stays _ _ ht) r n x fun v y ry q=>g.np ry q⟩
 |_=>exact(x:False).elim
theorem iV{is:List Int}{k:Int}(x:IntsAre items.toList is)(h:k∈is):
  ∃hj:is.idxOf k<items.size,isInt k items[is.idxOf k]=true∧∀m (hm:m<items.size),m<is.idxOf k→isInt k items[m]=false:=by
 have hl:items.size=is.length:=x.length;have hj:is.idxOf k<is.length:=List.idxOf_lt_length_iff.mpr h;refine⟨by omega,?_,fun m hm hlt=>?_⟩
 ·have:=isInt_at k x (is.idxOf k) (by simpa using (by omega:is.idxOf k<items.size)) hj;simp only[Array.getElem_toList]at this;rw[this]
  simpa using List.getElem_idxOf hj
 ·have:=isInt_at k x m (by simpa using hm) (by omega);simp only[Array.getElem_toList]at this;rw[this];exact ne_of_lt_idxOf hlt _
theorem Dw(hl:s.heap.IsList a items)(hn:items.size=n)(h:n≤lim+1)(q:T (.int n (s.toks+1)) { s with toks:=s.toks+1+1 }):wpAny c.M A (call (.builtin "len") [.ref a]) T E s:=
 Calls.call_len_list hl (by have:=fO;omega) (hn▸q)
theorem Fr(g:Mv c no H0 s0 H s)(r1:du c.P H v1 u1)(x:l6 .len v1 Q X):wpAny c.M A (call (.builtin "len") [u1]) (NP c H0 s0 Q) E s:=by
 cases v1 with
 |Js m=>
  obtain⟨a,items,rfl,n,ht,r⟩:=r1.Ju;exact PyProof.Rows.len_tuple (eO g.st ht) (by have:=fO;have:=r.size;omega) (r.size▸g.JU iD x)
 |Jq m=>
  obtain⟨a,items,k,rfl,n,ht,r⟩:=r1.Ju;exact Dw (dJ (g.st.stays _ _ ht)) r.size n (g.JU iD x)
 |_=>exact(x:False).elim
theorem AO(g:Mv c no H0 s0 H s)(S0:St c H0 s0)(r1:du c.P H v1 u1)(x:l6 .range v1 Q X):wpAny c.M A (call (.type "range") [u1]) (NP c H0 s0 Q) E s:=by
 obtain⟨n,rfl,x⟩:=db (v:=v1) (X:=X) (Q:=fun n=>iff (n.natAbs≤lim) (ok (V.rng 0 n)) Q X) x;obtain⟨t,rfl⟩:=r1.Ju;refine call_range_1 ?_
 obtain⟨H',g',_,d⟩:=g.Kx S0 fun Z Z e=>aH _ e;exact g'.np (.rng (d _ _ cK (IsRange.new ..)) ⟨aQ _,(bh x).1⟩ .nil) (bh x).2
theorem wT(g:Mv c no H0 s0 H s)(S0:St c H0 s0)(r1:du c.P H v1 u1)(r2:du c.P H v2 u2)(x:eP .J5 v1 v2 Q X):wpAny c.M A (call (.type "range") [u1,u2]) (NP c H0 s0 Q) E s:=
 hO (f:=fun u1 u2=>call (.type "range") [u1,u2]) x r1 r2 fun i j Z Z q=>call_range_2 (by
  obtain⟨h,q⟩:=bh q;obtain⟨H',g',_,d⟩:=g.Kx S0 fun Z Z e=>aH _ e;exact g'.np (.rng (d _ _ cK (IsRange.new ..)) h .nil) q)
theorem D1(g:Mv c no H0 s0 H s)(o:A.handled=none)(r1:du c.P H v1 u1)(r2:du c.P H v2 u2)(x:eP .Kw v1 v2 Q X):wpAny c.M A (call (.builtin "max") [u1,u2]) (NP c H0 s0 Q) E s:=
 hO (f:=fun u1 u2=>call (.builtin "max") [u1,u2]) x r1 r2 fun i j t t' q=>max_two_ints o fun h' tk k=>(g.keeps k).np (v:=.int (max i j)) (by
  split
  ·rename_i h;rw[show max i j=j by omega];exact iD
  ·rename_i h;rw[show max i j=i by omega];exact iD) q
theorem vN(g:Mv c no H0 s0 H s)(S0:St c H0 s0)(r1:du c.P H v1 u1)(x:l6 .JE v1 Q X):wpAny c.M A (call (.type "tuple") [u1]) (NP c H0 s0 Q) E s:=by
 cases v1 with
 |Js m=>
  obtain⟨a,items,rfl,n,ht,r⟩:=r1.Ju;exact call_tuple_same (eO g.st ht) (g.np (.Js n ht r .nil) x)
 |Jq m=>
  obtain⟨h,q⟩:=bh x;obtain⟨a,items,k,rfl,n,ht,r⟩:=r1.Ju;exact call_tuple_list (dJ (g.st.stays _ _ ht)) (fun h' k=>(g.keeps (tk:=s.toks) k).KG (tk:=s.toks) S0 r h q) (js (by rw[r.size];exact h))
 |_=>exact(x:False).elim
theorem kP(lo hi:Int):(wb lo hi).length=(hi - lo).toNat:=by rw[wb,af,aO]
theorem bz.KI{P:PD}:∀{l:List V}{r:List Value},r.length=l.length→(∀(i:Nat)(v:V)(u:Value),l[i]? =some v→r[i]? =some u→du P H v u)→bz P H l r
 | [],[],_,_=>.nil
 | [],_::_,e,_=>(by cases e)
 |_::_,[],e,_=>(by cases e)
 |_::_,_::_,e,k=>.cons (k 0 _ _ rfl rfl) (bz.KI (bp e) fun i v u a b=>k (i+1) v u a b)
theorem vZ{P:PD}{lo hi:Int}{acc:Array Value}(x:ItemsOf (fun i v=>∃t,v=.int (lo+i*1) t) acc (hi - lo).toNat):bz P H (wb lo hi) acc.toList:=by
 refine .KI (by rw[kP,dh,x.1]) fun i v u a b=>?_
 obtain⟨t,rfl⟩:=x.2 i u (by rw[←cP];exact b);unfold wb at a;rw[aV]at a;obtain⟨n,e,rfl⟩:=bY.mp a;obtain⟨h1,rfl⟩:=ag.mp e;rw[List.getElem_range,Int.mul_one];exact iD
theorem pH{lo hi:Int}(h:lo.natAbs≤lim∧hi.natAbs≤lim):Builtin.Range.small lo hi 1=true:=by
 have:=fO;exact small_one (by omega) (by omega) (by omega) (by omega)
theorem rJ(lo hi:Int):Builtin.Range.rangeSize lo hi 1=((hi - lo).toNat:Nat):=by
 rw[rangeSize_one];split<;>omega
theorem pn(g:Mv c no H0 s0 H s){Ty:String}{o:PySem.Obj}(hT:Ty="list"∨Ty="tuple")(ho:s.heap.get? a=some o)(hc:o.cls=.type Ty)(hd:o.data=.seq items n)(r:bz c.P H m items.toList)(hm:m.length≤lim)(q:Q (.Jq m)):
  wpAny c.M A (call (.type "list") [.ref a]) (NL c H0 s0 Q) E s:=
 call_list_seq a hT ho hc hd (fun h' n' k e=>g.nl (tk:=s.toks) r (cy hm) cK k e q) (js (by rw[r.size];exact hm))
theorem vL(g:Mv c no H0 s0 H s)(o:A.handled=none)(r1:du c.P H v1 u1)(x:l6 .JF v1 (fun v=>dD v (fun l=>Q (.Jq l)) X) X):wpAny c.M A (call (.type "list") [u1]) (NL c H0 s0 Q) E s:=by
 cases v1 with
 |Js m=>
  obtain⟨h,q⟩:=bh x;obtain⟨a,items,rfl,n,ht,r⟩:=r1.Ju;obtain⟨o,ho,hc,k,hd⟩:=eO g.st ht;exact pn g (.inr rfl) ho hc hd r h q
 |Jq m=>
  obtain⟨h,q⟩:=bh x;obtain⟨a,items,k,rfl,n,ht,r⟩:=r1.Ju;exact pn g (.inl rfl) (g.st.stays _ _ ht) rfl rfl r h q
 |rng lo hi=>
  obtain⟨h,q⟩:=bh x;obtain⟨a,t,t',t'',rfl,hr,hl⟩:=r1.Ju;rw[kP]at h;exact call_list_range o (g.st.stays _ _ hr) (pH hl) (rJ lo hi) (by have:=fO;omega) fun h' tk acc c' k e hi'=>g.nl (vZ hi') (by rw[kP];exact cy h) cK k e q
 |_=>exact(x:False).elim
theorem pM:∀(l:List Int)(a:Int),l.foldl max a∈a::l∧∀y∈a::l,y≤l.foldl max a
 | [],a=>⟨.head _,fun y h=>by rw[aq.mp h];exact Int.le_refl _⟩
 |b::l,a=>by
  obtain⟨h1,h2⟩:=pM l (max a b);refine⟨?_,fun y h=>?_⟩
  ·rcases az.mp h1 with e|e
   ·show l.foldl max (max a b)∈_;rw[e];rcases Int.le_total a b with h | h
    ·rw[Int.max_eq_right h];exact .tail _ (.head _)
    ·rw[Int.max_eq_left h];exact .head _
   ·exact .tail _ (.tail _ e)
  ·rcases az.mp h with rfl|h
   ·exact Int.le_trans (Int.le_max_left _ b) (h2 _ (.head _))
   ·rcases az.mp h with rfl|h
    ·exact Int.le_trans (Int.le_max_right a _) (h2 _ (.head _))
    ·exact h2 y (.tail _ h)
theorem jI:∀(l:List Int)(a:Int),l.foldl min a∈a::l∧∀y∈a::l,l.foldl min a≤y
 | [],a=>⟨.head _,fun y h=>by rw[aq.mp h];exact Int.le_refl _⟩
 |b::l,a=>by
  have h3:=(jI l (min a b)).2 _ (.head _);refine⟨?_,fun y h=>?_⟩
  ·rcases az.mp (jI l (min a b)).1 with e|e
   ·show l.foldl min (min a b)∈_;rw[e];rcases Int.le_total a b with h | h
    ·rw[Int.min_eq_left h];exact .head _
    ·rw[Int.min_eq_right h];exact .tail _ (.head _)
   ·exact .tail _ (.tail _ e)
  ·rcases az.mp h with rfl|h
   ·exact Int.le_trans h3 (Int.min_le_left _ b)
   ·rcases az.mp h with rfl|h
    ·exact Int.le_trans h3 (Int.min_le_right a _)
    ·exact(jI l (min a b)).2 y (.tail _ h)
end
section
variable{c:Ctx}{A:Around}{H H0:Heap}{s s0:Shared}{Q:V→Prop}{X:Prop}{E:Value→Shared→Prop}{v v1 v2:V}{u u1 u2:Value}{T:Value→Shared→Prop}{a:Addr}{items:Array Value}{n:Nat}{m:List V}{i:Int}{t:Tok}
theorem vB{is:List Int}(hi:IntsAre items.toList is):∃xs:Array (Int×Tok),items=intItems xs∧is=xs.toList.map (·.1)∧xs.size=is.length:=by
 obtain⟨xs,e⟩:=hi.allInts.items;have e':items=intItems xs:=by rw[←e]
 have hns:is=xs.toList.map (·.1):=by rw[←hi.numsOf,←nums_intItems,←e]
 exact⟨xs,e',hns,by rw[hns,af];rfl⟩
theorem jH{k:List Int→R V}(x:dD v1 (fun l=>iB l (fun is=>k is Q X) X) X)(r1:du c.P H v1 u1):∃is a items n,u1=.ref a∧IsL H a items n∧IntsAre items.toList is∧k is Q X:=by
 obtain⟨l,rfl,y⟩:=fD x;obtain⟨is,rfl,z⟩:=je y;obtain⟨a,items,n,e,_,t,r⟩:=r1.Ju;exact⟨is,a,items,n,e,t,r.Kr,z⟩
theorem sD{f:Int→Int→Int}{is:List Int}(x:xJ f is Q X):∃b l,is=b::l∧Q (.int (l.foldl f b)):=by
 cases is with
 |nil=>exact(x:False).elim
 |cons b l=>exact⟨b,l,rfl,x⟩
theorem Gy(g:Mv c no H0 s0 H s)(o:A.handled=none)(r1:du c.P H v1 u1)(x:l6 .max v1 Q X):wpAny c.M A (call (.builtin "max") [u1]) (NP c H0 s0 Q) E s:=by
 obtain⟨is,a,items,n,rfl,hl,hi,x⟩:=jH (k:=xJ max) x r1;obtain⟨b,l,rfl,q⟩:=sD x;obtain⟨xs,rfl,hns,hsz⟩:=vB hi;obtain⟨hM,hA⟩:=pM l b;generalize l.foldl max b=M at hM hA q;have h0:0<xs.size:=by rw[hsz];exact a8 _
 refine max_intList o (dJ (g.st.stays _ _ hl)) h0 fun v h' tk hv hk=>?_
 obtain⟨t,rfl⟩:=intItems_at hv;obtain⟨h1,h2⟩:=argBest_gt (numAt xs) (xs.size - 1);generalize argBest (fun i j=>decide (numAt xs i>numAt xs j)) (xs.size - 1)=j at h1 h2
 have i1:numAt xs j∈b::l:=by
  rw[hns,numAt_eq];exact getD_mem (by rw[af,dh];omega)
 have i2:M≤numAt xs j:=by
  rw[hns]at hM;obtain⟨j',hj,rfl⟩:=mem_getD hM;rw[af,dh]at hj;rw[←numAt_eq];exact h2 j' (by omega)
 rw[Int.le_antisymm (hA _ i1) i2];exact(g.keeps hk).np iD q
theorem Ge(g:Mv c no H0 s0 H s)(o:A.handled=none)(r1:du c.P H v1 u1)(x:l6 .min v1 Q X):wpAny c.M A (call (.builtin "min") [u1]) (NP c H0 s0 Q) E s:=by
 obtain⟨is,a,items,n,rfl,hl,hi,x⟩:=jH (k:=xJ min) x r1;obtain⟨b,l,rfl,q⟩:=sD x;obtain⟨xs,rfl,hns,hsz⟩:=vB hi;obtain⟨hM,hA⟩:=jI l b;generalize l.foldl min b=M at hM hA q;have h0:0<xs.size:=by rw[hsz];exact a8 _
 refine min_intList o (dJ (g.st.stays _ _ hl)) h0 fun v h' tk hv hk=>?_
 obtain⟨t,rfl⟩:=intItems_at hv;obtain⟨h1,h2⟩:=argBest_lt (numAt xs) (xs.size - 1);generalize argBest (fun i j=>decide (numAt xs i<numAt xs j)) (xs.size - 1)=j at h1 h2
 have i1:numAt xs j∈b::l:=by
  rw[hns,numAt_eq];exact getD_mem (by rw[af,dh];omega)
 have i2:numAt xs j≤M:=by
  rw[hns]at hM;obtain⟨j',hj,rfl⟩:=mem_getD hM;rw[af,dh]at hj;rw[←numAt_eq];exact h2 j' (by omega)
 rw[Int.le_antisymm i2 (hA _ i1)];exact(g.keeps hk).np iD q
theorem vW(g:Mv c no H0 s0 H s)(r1:du c.P H v1 u1)(x:l6 .JW v1 (fun v=>dD v (fun l=>Q (.Jq l)) X) X):wpAny c.M A (call (.builtin "sorted") [u1]) (NL c H0 s0 Q) E s:=by
 obtain⟨is,a,items,n,rfl,hl,hi,x⟩:=jH (k:=fun is=>iff (is.length<64) (j6 ((is.mergeSort fun a b=>decide (a≤b)).map .int))) x r1;obtain⟨h64,x⟩:=bh x;have hl':s.heap.IsList a items.toList.toArray:=by rw[Array.toArray_toList];exact dJ (g.st.stays _ _ hl)
 refine sorted_ints hl' hi (by rw[hi.length];exact h64) fun out ns' ho hp' hs'=>?_
 have en:ns'=is.mergeSort fun a b=>decide (a≤b):=List.Perm.eq_of_pairwise (fun a b Z Z h1 h2=>Int.le_antisymm h1 h2) hs'
  ((List.pairwise_mergeSort (le:=fun a b:Int=>decide (a≤b)) (fun a b c h1 h2=>ak (Int.le_trans (aT h1) (aT h2))) (fun a b=>by rcases Int.le_total a b with h | h<;>simp[h]) is).imp aT) (hp'.trans (List.mergeSort_perm is _).symm)
 subst en;obtain⟨k,ek⟩:=sortedAll_at s.heap items.toList out;exact g.nl (tk:=s.toks) (bz.Kq ho) (cy (bh x).1) (gb 1) (fun b o e=>sortedAll_old e) ek (bh x).2
theorem AH{x:Sem Value}{pos:Pos}(g0:Mv c no H0 s0 H s)(hl:IsL H a items n)(r:bz c.P H m items.toList)(hm:m.length≤lim+1)
  (hx:wpAny c.M A x (fun u s'=>∃H' v,Mv c no H0 s0 H' s'∧H.StaysIn H'∧du c.P H' v u∧eP .KD (.Jq m) v Q X) E s):wpAny c.M A (callWith pos (.builtin "list.index") [.ref a] [(false,x)] []) (NP c H0 s0 Q) E s:=by
 refine PySem.P.index_list (au hx (fun u s₁ ⟨H',v,g,b,rv,y⟩=>?_) fun Z Z e=>e);obtain⟨is,rfl,z⟩:=je (Q:=fun is=>fm v (fun i=>iff (i∈is) (ok (V.int (is.idxOf i))) Q X) X) y;obtain⟨k,rfl,w⟩:=db z;obtain⟨t,rfl⟩:=rv.Ju;obtain⟨hj,h1,h2⟩:=iV (r.Kr) (bh w).1;have hs:=r.size;have hv:=fO;exact⟨items,n,isInt k,is.idxOf k,hj,g.st.stays _ _ (b _ _ hl),fun y hy=>eq_isInt k _ (r.Kr) y (Array.mem_toList_iff.mpr hy),by omega,h1,h2,g.JU iD (bh w).2⟩
theorem gA{T:Bool→Shared→Prop}{b:Bool}(g:Mv c no H0 s0 H s)(r:du c.P H v u)(x:tr v=some b)(h:∀tk,Mv c no H0 s0 H { s with toks:=tk }→T b { s with toks:=tk }):wpAny c.M A (PySem.truthy u) T E s:=by
 cases v with
 |none=>obtain rfl:=r.Ju;exact PyProof.Rows.truthy_none (by obtain rfl:=ah (x);exact h s.toks g)
 |bool b=>obtain rfl:=r.Ju;exact wpAny_truthy_bool (by obtain rfl:=ah (x);exact h s.toks g)
 |int i=>obtain⟨t,rfl⟩:=r.Ju;exact PyProof.Rows.truthy_int (by obtain rfl:=ah (x);exact h s.toks g)
 |Jq m=>
  obtain⟨a,items,k,rfl,n,ht,r'⟩:=r.Ju;have em:items.isEmpty=m.isEmpty:=by rw[Array.isEmpty,r'.size];cases m<;>rfl
  exact wpAny_truthy_list (dJ (g.st.stays _ _ ht)) (by have:=fO;rw[r'.size];omega) (by rw[em];obtain rfl:=ah (x);exact h _ g.toks)
 |_=>cases x
end
section
theorem nz{α:Type}(l:List α)(a b:Nat):(l.drop (min a l.length)).take (min b l.length - min a l.length)=(l.take b).drop a:=by
 rw[List.drop_take];rcases Nat.le_total a l.length with h|h
 ·rw[Nat.min_eq_left h];rcases Nat.le_total b l.length with h'|h'
  ·rw[Nat.min_eq_left h']
  ·rw[Nat.min_eq_right h',List.take_of_length_le (by rw[List.length_drop];exact aM _),List.take_of_length_le (by rw[List.length_drop];omega)]
 ·rw[Nat.min_eq_right h,List.drop_of_length_le (aM _),List.drop_of_length_le h,List.take_nil,List.take_nil]
theorem yD(items:Array Value)(a b:Nat):(slicePick items (some a) (some b) none).toList=(items.toList.take b).drop a:=by
 rw[slicePick_plain];simp only[Option.elim,clipAt_nat];have:=nz items.toList a b;rw[dh]at this
 simpa using this
inductive HP(u:Value)(o:Option Int)(n:Nat):Prop
 |mk (p:IsPart u o) (h:o=some (n:Int)∨(o=none∧n=0))
noncomputable def Cq(K:Frag)(C:Addr)(name:Str):Prop:=
 (∃cd,clsIn K C=some cd∧cd.hasDict=true)∧findIn K (.ref C) name=some none∧findIn K (.ref C) "__getattribute__"=some (some (.builtin "object.__getattribute__"))
noncomputable def mI(es:Array DictEntry):Prop:=∀e∈es,∃k t,e.key=.int k t∧e.hash=hashInt k
inductive Az(K:Frag):Prop
 |mk (es:Array DictEntry) (n:Nat) (l:K.lookup 158=some ⟨.type "dict",none,.dict es n,#[]⟩) (k:mI es) (h:∀op∈cw,∃t,findBy Value.isInt es op=some (.int (il op) t))
inductive nZ(K:Frag)(es:Array DictEntry)(op:Int):Option (Int×Int)→Prop
 |no:findBy Value.isInt es op=none→nZ K es op none
 |yes {a b c t t' n sl}:findBy Value.isInt es op=some (.ref c)→K.lookup c=some ⟨.type "tuple",none,.seq #[.int a t,.int b t'] n,sl⟩→nZ K es op (some (a,b))
inductive yE(K:Frag):Prop
 |mk (es:Array DictEntry) (n:Nat) (l:K.lookup 166=some ⟨.type "dict",none,.dict es n,#[]⟩) (k:mI es) (h:∀op∈cw,nZ K es op (eU op))
structure Er(K:Frag):Prop where
 K7:Az K
 KP:yE K
 at_:∀p∈attrs,Cq K (iF p.1) (a5 p.1 p.2)
inductive Shape(y:V):Value→Prop
 |none:y=.none→Shape y .none
 |bool (b):isNone y=ok false→kZ y=ok y→Shape y (.bool b)
 |int (i t):isNone y=ok false→kZ y=ok y→Shape y (.int i t)
 |ref (a):isNone y=ok false→kZ y=ok y→Shape y (.ref a)
theorem ny{P:PD}{H:Heap}{c:Nat}{m:Str→Option Value}{k:Nat}{v:V}:∀{fs:List (Nat×V)}{us:List Value},bz P H (fs.map (·.2)) us→(fs.map (·.1)).map (fun k=>m (a5 c k))=us.map some→iO k fs=some v→∃u,m (a5 c k)=some u∧du P H v u
 | [],_,_,_,e=>(by cases e)
 |(j,w)::fs,_,r,h,e=>by
  obtain⟨u,r',rfl,a,b⟩:=bz.two r;unfold iO at e;by_cases hj:j=k
  ·rw[aB hj]at e;obtain rfl:=ah (e);subst hj;exact⟨u,(List.cons.inj h).1,a⟩
  ·rw[aC hj]at e;exact ny b (List.cons.inj h).2 e
variable{c:Ctx}{A:Around}{H H0:Heap}{s s0:Shared}{Q:V→Prop}{X:Prop}{E:Value→Shared→Prop}{v v1 v2:V}{u u1 u2:Value}{T:Value→Shared→Prop}{a:Addr}{items:Array Value}{n:Nat}{m:List V}{i:Int}{t:Tok}
theorem zm{vl vu:Value}{lo:Option Int}{a b:Nat}(g:Mv c no H0 s0 H s)(S0:St c H0 s0)(r1:du c.P H (.Jq m) u1)(pl:HP vl lo a)(pu:IsPart vu (some (b:Int)))(q:Q (.Jq ((m.take b).drop a))):
  SubscriptOn c.M A u1 (.ref s.heap.objs.size) (NP c H0 s0 Q) E { s with heap:=s.heap.push { cls:=.type "slice",data:=.fields #[vl,vu,.none] } }:=by
 obtain⟨x,items,k,rfl,n,ht,r⟩:=r1.Ju;have hl:(s.heap.push { cls:=.type "slice",data:=.fields #[vl,vu,.none] }).IsList x items:=dJ (aH _ (g.st.stays _ _ ht));refine⟨_,_,F.slot_list_getitem.lookup,Heap.IsList.typeIs (s:={ s with heap:=s.heap.push { cls:=.type "slice",data:=.fields #[vl,vu,.none] } }) hl,wpAny_getItem_list_slice hl (Heap.IsSliceOf.new ..) pl.1 pu .none (by simp) ?_ (f9 ((r.size)▸n))⟩
 have e:(slicePick items lo (some (b:Int)) none).toList=(items.toList.take b).drop a:=by
  rcases pl.2 with rfl|⟨rfl,rfl⟩
  ·exact yD ..
  ·rw[slicePick_upto',List.drop_zero]
 have g':Mv c no H0 s0 H { s with heap:=s.heap.push { cls:=.type "slice",data:=.fields #[vl,vu,.none] },toks:=s.toks }:=g.keeps fun Z Z e=>aH _ e;refine NP.of S0 (g'.Kg (tk:=s.toks) (m:=(m.take b).drop a) (e▸(r.take b).drop a) (aa ?_ n) q);rw[List.length_drop,List.length_take];exact aa (Nat.sub_le _ _) (Nat.min_le_right _ _)
theorem xG:∀p∈attrs,p.1≠0∧a5 p.1 p.2=a5 1 p.2:=by decide+kernel
theorem gX{v:V}{Q:Nat×List (Nat×V)→Prop}(x:nY v Q X):∃cc fs,v=.obj cc fs∧Q (cc,fs):=by
 cases v with
 |obj cc fs=>exact⟨cc,fs,rfl,x⟩
 |_=>exact x.elim
theorem o9(r:du c.P H v u):(∃n,v=.Jv n)∨Shape v u:=by
 have y:=r.Ju;cases v with
 |none=>obtain rfl:=y;exact .inr (.none rfl)
 |bool b=>obtain rfl:=y;exact .inr (.bool _ rfl rfl)
 |int i=>obtain⟨t,rfl⟩:=y;exact .inr (.int _ _ rfl rfl)
 |Js m=>obtain⟨_,_,rfl,_⟩:=y;exact .inr (.ref _ rfl rfl)
 |Jq m=>obtain⟨_,_,_,rfl,_⟩:=y;exact .inr (.ref _ rfl rfl)
 |rng lo hi=>obtain⟨_,_,_,_,rfl,_⟩:=y;exact .inr (.ref _ rfl rfl)
 |obj cc fs=>obtain⟨_,_,_,rfl,_⟩:=y;exact .inr (.ref _ rfl rfl)
 |Jv n=>exact .inl ⟨n,rfl⟩
theorem sJ(r:du c.P H v u)(x:kZ v Q X):handedIn u=true∧Q v:=by
 rcases o9 r with⟨n,rfl⟩|y
 ·exact x.elim
 ·induction y with
  |none h=>subst h;exact⟨rfl,x⟩
  |bool _ _ h=>rw[h]at x;exact⟨rfl,x⟩
  |int _ _ _ h=>rw[h]at x;exact⟨rfl,x⟩
  |ref _ _ h=>rw[h]at x;exact⟨rfl,x⟩
theorem iZ{Q:Bool→Prop}(r:du c.P H v u)(x:isNone v Q X):plainIs u .none=true∧Q (u==.none):=by
 rcases o9 r with⟨n,rfl⟩|y
 ·exact x.elim
 ·induction y with
  |none h=>subst h;exact⟨rfl,x⟩
  |bool _ h _=>rw[h]at x;exact⟨rfl,x⟩
  |int _ _ h _=>rw[h]at x;exact⟨rfl,x⟩
  |ref _ h _=>rw[h]at x;exact⟨rfl,x⟩
theorem p6.Ku{P:PD}{x:Addr}{cc:Nat}{m:Str→Option Value}(o:p6 P H x cc m)(h:cc≠0):∃dx od,H.get? x=some (instObj (iF cc) dx)∧H.get? dx=some od∧∀y,lookIn y od=some (m y):=by
 induction o with
 |dict=>exact absurd rfl h
 |inst a b d=>exact⟨_,_,a,b,d⟩
theorem vt{C x dx:Addr}{od:PySem.Obj}{name:Str}{y:Value}{b:Bool}(X:c.K.In s.heap)(at_:Cq c.K C name)(h1:s.heap.get? x=some (instObj C dx))(h2:s.heap.get? dx=some od)(h3:lookIn name od=some (some y))(hy:handedIn y=true)(q:T y { s with toks:=s.toks+1 }):
  wpAny c.M A (getAttr (.ref x) name b) T E s:=by
 obtain⟨⟨cd,hc,hd⟩,hf,hg⟩:=at_;refine get_value X (od:=some od) ⟨h1,rfl,rfl,h2⟩ hg ?_ hy q
 unfold findObj;rw[hc,Option.bind_some,hf,Option.bind_some];dsimp only[Option.bind];unfold PySem.W.ownOf;rw[hd,aB rfl];dsimp only;rw[h3]
theorem DX{k:Nat}{b:Bool}(Y:Er c.K)(g:Mv c no H0 s0 H s)(r1:du c.P H v1 u1)(x:l6 (.attr k) v1 Q X):wpAny c.M A (getAttr u1 (a5 1 k) b) (NP c H0 s0 Q) E s:=by
 obtain⟨cc,fs,rfl,y⟩:=gX x;obtain⟨h0,y⟩:=bh y;obtain⟨v,e,q⟩:=d4 y;obtain⟨x,us,m,rfl,o,r,h,_⟩:=r1.Ju;obtain⟨y,ey,ry⟩:=ny r h e;obtain⟨hy,q⟩:=sJ ry q;have ec:=xG _ h0;obtain⟨dx,od,h1,h2,h3⟩:=o.Ku ec.1;rw[ec.2]at ey;refine vt (g.st.gf.inK.keeps g.st.stays) (ec.2▸(Y.at_ _ h0)) (g.st.stays _ _ h1) (g.st.stays _ _ h2) ((h3 _).trans (by rw[ey])) hy (g.JU ry q)
theorem En{k:Nat}{t:Tok}(g:Mv c no H0 s0 H s)(r1:du c.P H v1 u1)(x:l6 (.key k) v1 Q X):SubscriptOn c.M A u1 (.str (a5 0 k) t) (NP c H0 s0 Q) E s:=by
 obtain⟨cc,fs,rfl,y⟩:=gX x;obtain⟨h0,y⟩:=bh y;obtain⟨v,e,q⟩:=d4 y;obtain⟨xa,us,m,rfl,o,r,h,_⟩:=r1.Ju;obtain⟨y,ey,ry⟩:=ny r h e
 replace h0:cc=0:=h0
 subst h0;generalize hz:(0:Nat)=z at o;induction o with
 |inst=>cases hz
 |dict a b=>
  obtain⟨ex,es,ep,hd,ks,ps,nd⟩:=b;exact⟨_,_,F.slot_dict_getitem.lookup,(show s.heap.DictOf (strKind c.prog c.w) xa _ from⟨_,es,ep,g.st.stays _ _ a,ex,hd,ks,ps,nd⟩).typeIs,wpAny_getItem_of (knd:=strKind c.prog c.w) (strKind_is c.prog c.w _ t) (show s.heap.DictOf (strKind c.prog c.w) xa _ from⟨_,es,ep,g.st.stays _ _ a,ex,hd,ks,ps,nd⟩).mapOf ey (g.JU ry q)⟩
theorem qW{K:Frag}{prog:Program}{w:World}{a:Addr}{es:Array DictEntry}{n:Nat}{h:Heap}(X:K.In h)(hl:K.lookup a=some ⟨.type "dict",none,.dict es n,#[]⟩)(hk:mI es):h.MapOf (intKind prog w) a (fun k=>findBy Value.isInt es k):=
 ⟨_,es,n,X _ _ hl,⟨rfl,rfl,rfl⟩,rfl,fun e he=>by
  obtain⟨x,t,e1,e2⟩:=hk e he;exact⟨x,by rw[e1];exact intKind_is prog w x t,e2⟩,fun Z=>rfl⟩
theorem St.inK(S:St c H s):c.K.In s.heap:=S.gf.inK.keeps S.stays
theorem m9{r:Int→R V}(x:fm v1 (fun op=>iff (op∈cw) (r op) Q X) X)(r1:du c.P H v1 u1):∃op t,u1=.int op t∧op∈cw∧r op Q X:=by
 obtain⟨op,rfl,y⟩:=db x;obtain⟨t,e⟩:=r1.Ju;exact⟨op,t,e,(bh y).1,(bh y).2⟩
theorem yO{pos:Pos}{x y:Sem Value}(Y:Az c.K)(h:wpAny c.M A x (fun u1 s₁=>wpAny c.M A y (fun u2 s₂=>∃H' v,Mv c no H0 s0 H' s₂∧du c.P H' v u1∧l6 .JG v Q X) E s₁) E s):
  wpAny c.M A (callWith pos (.builtin "dict.get") [.ref 158] [(false,x),(false,y)] []) (NP c H0 s0 Q) E s:=by
 refine wpAny_dict_get2 (knd:=intKind c.prog c.w) (by decide) (au h (fun u1 s₁ h₁=>au h₁ (fun u2 s₂ ⟨H',v,g,r,z⟩=>?_) fun Z Z e=>e) fun Z Z e=>e);obtain⟨op,t,rfl,hk,q⟩:=m9 (r:=fun op=>ok (.int (il op))) z r;obtain⟨es,n,hl,hi,ht⟩:=Y;obtain⟨t,e⟩:=ht op hk;exact⟨op,_,intKind_is c.prog c.w op _,qW g.st.inK hl hi,by rw[e];exact g.JU iD q⟩
theorem v6(Y:yE c.K)(g:Mv c no H0 s0 H s)(r1:du c.P H v1 u1)(x:l6 .JN v1 Q X):wpAny c.M A (compareOp .In u1 (.ref 166)) (NP c H0 s0 Q) E s:=by
 obtain⟨op,t,rfl,hk,q⟩:=m9 (r:=fun op=>ok (.bool (eU op).isSome)) x r1;obtain⟨es,n,hl,hi,ht⟩:=Y;refine wpAny_in_of (knd:=intKind c.prog c.w) (intKind_is c.prog c.w op _) (by decide) (qW g.st.inK hl hi) ?_
 have e:(findBy Value.isInt es op).isSome=(eU op).isSome:=by
  have h:=ht op hk;revert h;generalize eU op=o;intro h;induction h with
  |no e=>rw[e];rfl
  |yes e _=>rw[e];rfl
 rw[e];exact g.JU gq q
theorem v7(Y:yE c.K)(g:Mv c no H0 s0 H s)(S0:St c H0 s0)(r1:du c.P H v1 u1)(x:l6 .J1 v1 Q X):SubscriptOn c.M A (.ref 166) u1 (NP c H0 s0 Q) E s:=by
 obtain⟨op,t,rfl,hk,y⟩:=m9 (r:=fun op=>bc (ft (eU op)) fun p=>ok (.Js [.int p.1,.int p.2])) x r1;obtain⟨p,eo,q⟩:=d4 y;obtain⟨es,n,hl,hi,ht⟩:=Y;have h:=ht op hk;rw[eo]at h;generalize hz:some p=z at h;induction h with
 |no=>cases hz
 |yes e1 e2=>
  obtain rfl:=ah (hz);exact⟨_,_,F.slot_dict_getitem.lookup,(qW (prog:=c.prog) (w:=c.w) g.st.inK hl hi).typeIs,wpAny_getItem_of (knd:=intKind c.prog c.w) (intKind_is c.prog c.w op _) (qW (prog:=c.prog) (w:=c.w) g.st.inK hl hi) e1 (g.JU (.Js (m:=[.int _,.int _]) (show 2≤lim by decide) ⟨_,g.st.gf.inK _ _ e2,rfl,_,rfl⟩ (.int (.int .nil)) .nil) q)⟩
end
section
structure Cx where
 nm:List Str
 kd:List (Str×NameKind)
 io:List Nat
 own:Bool
structure jU(x:Cx)(env:PySem.Env):Prop where
 fk:env.scope.kind=.function
 gl:env.globals=mainGlobals
 bl:env.builtins=builtinsNs
 inj:∀x y a,env.cells.lookup x=some a→env.cells.lookup y=some a→x=y
 kinds:∀y k,x.kd.lookup y=some k→env.kindOf y=some (if k=.free then .cell else k)
 nd:x.nm.Nodup
noncomputable def fi(k:NameKind):Prop:=k=.local∨k=.cell∨k=.free
abbrev ez:=Addr→Option (Nat×Nat)
abbrev C7(prog:Program)(w:World):=tupleKind (intKind prog w)
inductive AX(c:Ctx)(H h:Heap)(a:Addr)(xs:List (List Int×Addr×Value)):Prop
 |mk (o:PySem.Obj) (es:Array DictEntry) (ep:Nat) (e:h.get? a=some o) (x:o.ExactDict) (d:o.data=.dict es ep) (q:es.toList=xs.map (entryOfKey (C7 c.prog c.w))) (k:∀y∈xs,(C7 c.prog c.w).is H y.1 y.2.1) (n:(xs.map (·.1)).Nodup)
noncomputable def ee(k:Nat):Bool:=decide (k=2∨(6≤k∧k≤10)∨(100≤k∧k≤102))
inductive fJ(c:Ctx)(own:ez)(H h:Heap)(i k:Nat):V→Value→Prop
 |keep {v y}:ee k=false→du c.P H v y→fJ c own H h i k v y
 |Jq {m a items n}:ee k=true→own a=some (i+1,k+1)→m.length≤lim+1→IsL h a items n→bz c.P H m items.toList→fJ c own H h i k (.Jq m) (.ref a)
 |dict {a xs n}:ee k=true→own a=some (i+1,k+1)→AX c H h a xs→xs.length≤n→fJ c own H h i k (.Jv n) (.ref a)
inductive iU(c:Ctx)(own:ez)(H h:Heap)(i:Nat):List (Nat×V)→List Value→Prop
 |nil:iU c own H h i [] []
 |cons {k v y fs us}:fJ c own H h i k v y→iU c own H h i fs us→iU c own H h i ((k,v)::fs) (y::us)
inductive cV(c:Ctx)(own:ez)(H h:Heap)(i:Nat):V→Value→Prop
 |Jq {m a items n}:own a=some (i+1,0)→m.length≤lim+1→IsL h a items n→bz c.P H m items.toList→cV c own H h i (.Jq m) (.ref a)
 |dict {a o kvs fs us}:own a=some (i+1,0)→h.get? a=some o→c.P o kvs→iU c own H h i fs us→(fs.map (·.1)).map (fun k=>valueAt kvs (a5 0 k))=us.map some→(∀y u,valueAt kvs y=some u→∃k∈fs.map (·.1),y=a5 0 k)→(fs.map (·.1)).Nodup→cV c own H h i (.obj 0 fs) (.ref a)
 |inst {x dx C m fs us}:own x=some (i+1,0)→own dx=some (i+1,99)→h.get? x=some (instObj (iF (C+1)) dx)→h.Ns1 dx m→iU c own H h i fs us→(fs.map (·.1)).map (fun k=>m (a5 (C+1) k))=us.map some→(∀y u,m y=some u→∃k∈fs.map (·.1),y=a5 (C+1) k)→(fs.map (·.1)).Nodup→cV c own H h i (.obj (C+1) fs) (.ref x)
noncomputable def RS(c:Ctx)(own:ez)(H h:Heap)(i:Nat)(p:Bool×V)(u:Value):Prop:=match p.1 with
 |true=>cV c own H h i p.2 u
 |false=>du c.P H p.2 u
noncomputable def yV(o:PySem.Obj):Prop:=(o.cls≠.type "tuple"∧o.cls≠.type "range")∨∃es ep,o.data=.dict es ep
structure ma(c:Ctx)(H:Heap)(s:Shared)(a:Addr):Prop where
 new:H.get? a=none
 fr:a∉kA c.l
 at_:∃o,s.heap.get? a=some o∧yV o
structure dw(c:Ctx)(own:ez)(H:Heap)(s:Shared):Prop where
 off:∀a i k,own a=some (i+1,k)→ma c H s a
 uniq:∀a b i k,own a=some (i+1,k)→own b=some (i+1,k)→a=b
 live:∀a,own a≠none→H.get? a=none∧s.heap.get? a≠none
noncomputable def eT(x:Cx)(env:PySem.Env)(P:Addr→Prop):Prop:=∀(i:Nat)(y:Str)(k:NameKind)(a:Addr),x.nm[i]? =some y→x.kd.lookup y=some k→k=.cell∨k=.free→env.cells.lookup y=some a→P a
structure gN(x:Cx)(env:PySem.Env)(R:Nat→Bool×V→Value→Prop)(h:Heap)(ρ:Env):Prop where
 ns:∃m,h.Ns env.locals m∧∀i y v,x.nm[i]? =some y→x.kd.lookup y=some .local→ρ[i]? =some (some v)→∃u,m y=some u∧R i v u
 cell:∀i y k,x.nm[i]? =some y→x.kd.lookup y=some k→k=.cell∨k=.free→∃a w,env.cells.lookup y=some a∧h.IsCell a w∧∀v,ρ[i]? =some (some v)→∃u,w=some u∧R i v u
variable{x:Cx}{c:Ctx}{env:PySem.Env}{own own':ez}{H H' h h':Heap}{s s':Shared}{ρ:Env}{R R':Nat→Bool×V→Value→Prop}{v:V}{p:Bool×V}{u:Value}{i i' k:Nat}{fr:List Addr}{ch:Addr→Prop}
noncomputable abbrev iY(own own':ez)(h h':Heap)(i i':Nat):Prop:=∀a k,own a=some (i+1,k)→own' a=some (i'+1,k)∧∀o,h.get? a=some o→h'.get? a=some o
theorem fJ.mono(b:H.StaysIn H')(kp:iY own own' h h' i i')(f:fJ c own H h i k v u):fJ c own' H' h' i' k v u:=by
 induction f with
 |keep q r=>exact .keep q (r.mono b)
 |Jq q o n t r=>exact .Jq q (kp _ _ o).1 n ((kp _ _ o).2 _ t) (r.mono b)
 |dict q o d n=>
  obtain⟨ob,es,ep,e,ec,ed,q1,q2,q3⟩:=d;exact .dict q (kp _ _ o).1 ⟨ob,es,ep,(kp _ _ o).2 _ e,ec,ed,q1,fun y hy=>let⟨ob,it,n,e,r⟩:=q2 y hy;⟨ob,it,n,b _ _ e,r⟩,q3⟩ n
theorem iU.mono{fs us}(b:H.StaysIn H')(kp:iY own own' h h' i i')(f:iU c own H h i fs us):iU c own' H' h' i' fs us:=by
 induction f with
 |nil=>exact .nil
 |cons a _ ih=>exact .cons (a.mono b kp) ih
theorem cV.mono(b:H.StaysIn H')(kp:iY own own' h h' i i')(f:cV c own H h i v u):cV c own' H' h' i' v u:=by
 induction f with
 |Jq o n t r=>exact .Jq (kp _ _ o).1 n ((kp _ _ o).2 _ t) (r.mono b)
 |dict o t p f m g nd=>exact .dict (kp _ _ o).1 ((kp _ _ o).2 _ t) p (f.mono b kp) m g nd
 |inst q o t n f m g nd=>exact .inst (kp _ _ q).1 (kp _ _ o).1 ((kp _ _ q).2 _ t) (n.at fun ob e=>(kp _ _ o).2 ob e) (f.mono b kp) m g nd
theorem yp{a:Addr}{m:Str→Option Value}(n:h.Ns a m)(k:∀o,h.get? a=some o→∃sl,h'.get? a=some { o with slots:=sl }):h'.Ns a m:=
 let⟨o,es,ep,e,hd,r⟩:=n;let⟨_,e'⟩:=k o e;⟨_,es,ep,e',hd,r⟩
theorem tC{a:Addr}{w:Option Value}(n:h.IsCell a w)(k:∀o,h.get? a=some o→∃sl,h'.get? a=some { o with slots:=sl }):h'.IsCell a w:=
 let⟨o,e,hd⟩:=n;let⟨_,e'⟩:=k o e;⟨_,e',hd⟩
theorem gN.keep(V:gN x env R h ρ)(k:km fr ch h h')(hl:¬ch env.locals)(hc:eT x env fun a=>¬ch a)(r:∀i v u,R i v u→R' i v u):gN x env R' h' ρ:=by
 obtain⟨⟨m,hn,hv⟩,cl⟩:=V;refine⟨⟨m,yp hn fun o e=>(k _ o e hl).2,fun i y v a b e=>let⟨u,e',q⟩:=hv i y v a b e;⟨u,e',r i v u q⟩⟩,fun i y kk a b e=>?_⟩;obtain⟨ad,w,e1,e4,e5⟩:=cl i y kk a b e;exact⟨ad,w,e1,tC e4 fun o q=>(k _ o q (hc i y kk ad a b e e1)).2,fun v q=>let⟨u,e',z⟩:=e5 v q;⟨u,e',r i v u z⟩⟩
theorem kL{M:Model}{A:Around}{E:Value→Shared→Prop}{y:Str}{kk:NameKind}{Q:Value→Shared→Prop}(N:jU x env)(V:gN x env R s.heap ρ)(hi:x.nm[i]? =some y)(hk:x.kd.lookup y=some kk)(hv:fi kk)
  (e:ρ[i]? =some (some p)) (q:∀u,R i p u→Q u s):wpAny M A (loadName env y) Q E s:=by
 have ke:=N.kinds y kk hk;obtain⟨⟨m,hn,hm⟩,cl⟩:=V;rcases hv with rfl|hv
 ·obtain⟨u,e',r⟩:=hm i y p hi hk e;exact wpAny_loadName_local N.fk ke hn e' (q u r)
 ·obtain⟨a,w,e1,e4,e5⟩:=cl i y kk hi hk hv;obtain⟨u,rfl,r⟩:=e5 p e;refine wpAny_loadName_cell N.fk ?_ e1 e4 (q u r)
  rcases hv with rfl|rfl<;>exact ke
structure gK(x:Cx)(c:Ctx)(env:PySem.Env)(ρ:Env)(own:ez)(H:Heap)(s:Shared):Prop where
 nk:jU x env
 st:St c H s
 vs:gN x env (RS c own H s.heap) s.heap ρ
 ow:dw c own H s
theorem RS.mono(b:H.StaysIn H')(kp:iY own own' h h' i i')(f:RS c own H h i p u):RS c own' H' h' i' p u:=by
 obtain⟨t,v⟩:=p;cases t with
 |true=>exact cV.mono b kp f
 |false=>exact bz.mono b f
theorem ma.mv{a:Addr}(g:Mv c ch H s H' s')(n:¬ch a)(o:ma c H s a):ma c H' s' a∧∀o,s.heap.get? a=some o→s'.heap.get? a=some o:=by
 obtain⟨h1,h2,ob,e,h3⟩:=o;have k:∀o,s.heap.get? a=some o→s'.heap.get? a=some o:=fun o q=>(g.keep a o q n).1 h2;exact⟨⟨g.JM a (by rw[e];exact(by intro h;cases h)) n h1,h2,ob,k ob e,h3⟩,k⟩
theorem dw.mv(g:Mv c no H s H' s')(W:dw c own H s):dw c own H' s':=⟨fun a i k e=>((W.off a i k e).mv g fun z=>z).1,W.uniq,fun a e=>let⟨h1,h3⟩:=W.live a e;⟨g.JM a h3 (fun z=>z) h1,g.keep.some h3 fun z=>z⟩⟩
theorem gK.mv(T:gK x c env ρ own H s)(g:Mv c no H s H' s'):gK x c env ρ own H' s':=
 ⟨T.nk,g.st,T.vs.keep g.keep (fun z=>z) (fun Z Z Z Z Z Z Z Z z=>z) fun i v u r=>r.mono g.base fun a k e=>⟨e,fun o q=>((T.ow.off a i k e).mv g fun z=>z).2 o q⟩,T.ow.mv g⟩
end
section
inductive p5:Operator→B→Prop
 |add:p5 .Add .add | sub:p5 .Sub .sub | mul:p5 .Mult .mul | fdiv:p5 .FloorDiv .fdiv | fmod:p5 .Mod .fmod | Ks:p5 .BitAnd .Ks
inductive lz:CmpOp→B→Prop
 |eq:lz .Eq .eq | ne:lz .NotEq .ne | lt:lz .Lt .lt | le:lz .LtE .le | gt:lz .Gt .gt | ge:lz .GtE .ge | JK:lz .In .JK | JI:lz .NotIn .JI
noncomputable def ba:Expr→Bool | .Starred ..=>false | _=>true
noncomputable def jD:Expr→Bool | .Slice ..=>false | _=>true
noncomputable def fN:Expr→Bool | .Call (.Name _ _) [] [] _=>false | _=>true
noncomputable def ml(x:Cx)(y:Str):Prop:=x.kd.lookup y=some .globalImplicit∧(y==("__debug__":Str))=false
noncomputable abbrev fP(K:Frag)(x:Str)(v:Value):Prop:=nsIn K mainGlobals x=some (some v)
noncomputable abbrev xx(K:Frag)(x:Str)(v:Value):Prop:=nsIn K mainGlobals x=some none∧bootBuiltins x=some v∧x≠"__name__"
noncomputable abbrev cB:Value:=.ref 44
inductive BadEx(K:Frag):Prop
 |mk (nm q:Str) (N:Addr) (bs bm:List Value) (hdct:Bool) (sn:List Str) (sub:List Value) (ab:Bool) (col:Option Bool) (dd:Option Addr) (k0 k1 k2 k3 k5:Option Value) (h:K.lookup 44=some (excClassObj nm q 44 N bs bm hdct sn sub ab col dd k0 k1 k2 k3 k5 "Exception.__new__"))
  (h1:bm.contains (.type "Exception")=true) (h2:bm.contains (.type "AttributeError")=false) (h3:bm.contains (.type "NameError")=false) (h4:bm.contains (.type "BaseException")=true)
noncomputable def hY:List (Str×Value):=[("len",.builtin "len"),("tuple",.type "tuple"),("list",.type "list"),("max",.builtin "max"),("min",.builtin "min"),("sorted",.builtin "sorted"),("range",.type "range"),("enumerate",.type "enumerate"),("str",.type "str")]
noncomputable def mr:List (Str×Nat):=[("StoreTeller",57),("Store",58),("MethodDef",59),("KindTable",60)]
noncomputable def pL:List (Str×Nat×Addr):=[("call_counts",7,414),("ret_count",8,421)]
structure rI(K:Frag)(C:Addr):Prop where
 cd:∃cd,clsIn K C=some cd∧cd.hasDict=true∧cd.mro.isEmpty=false∧cd.mro.contains (.type "object")=true∧∀self,refuseLoop self "__setattr__" cd.mro=pure ()
 sa:findIn K (.ref C) "__setattr__"=some (some (.builtin "object.__setattr__"))
structure GI(K:Frag):Prop where
 set:∀a∈[424,375,354,90],rI K a∧∀k<27,Cq K a (a5 1 k)
 tab:Er K
 Lb:∀p∈kT,∃t,fP K (Str.ofString p.1) (.int p.2 t)
 fns:∀p∈ka,fP K (Str.ofString p.1) (.ref p.2.2)∧keepIn K (.ref p.2.2)=true
 KP:fP K "OP_STACK" (.ref 166)
 K7:fP K "OP_SORT" (.ref 158)
 KE:∀p∈hY,xx K p.1 p.2
 cls:∀p∈mr,fP K p.1 (.ref (iF p.2))∧keepIn K (.ref (iF p.2))=true
 KZ:∀p∈pL,findIn K (.ref 424) p.1=some (some (.ref p.2.2))∧keepIn K (.ref p.2.2)=true∧typeIn K (.ref p.2.2)=some (.type "function")
 Lf:findIn K (.ref 424) "__getattr__"=some none
 hga:findIn K (.ref 424) "__getattribute__"=some (some (.builtin "object.__getattribute__"))
 bad:fP K "BadCode" cB∧keepIn K cB=true
 badObj:BadEx K
noncomputable abbrev iv(l:List PySem.Env)(s:Shared):Heap:=hideAll s.heap (kA l)
structure ji(l:List PySem.Env)(s1:Shared)(e:Addr)(s:Shared):Prop where
 eq:∃h tk,s={ s1 with heap:=h,toks:=tk }
 stays:(iv l s1).StaysIn s.heap
 fresh:(iv l s1).get? e=none
 ff:s.heap.FunFrames (iv l s1) l
 up:s1.heap.UpToSlots s.heap
 Lg:(∃oe vs a0,s.heap.get? e=some oe∧oe.cls=cB∧oe.data=.fields vs∧vs[1]? =some .none∧vs[0]? =some a0)∨
  ∃a0 fl,s.heap.TracedAtW (iv l s1) e cB a0 fl∧(fl=.none∨∃env r L,l=env::r∧env.frame=some L∧fl=rawInt L)
inductive XP(c:Ctx)(ch:Addr→Prop)(H:Heap)(s:Shared)(X:Prop)(e:Value)(s':Shared):Prop
 |mk (H1:Heap) (s1:Shared) (a:Addr) (g:Mv c ch H s H1 s1) (x:X) (e:e=.ref a) (f:ji c.l s1 a s')
inductive xw(s s':Shared)(v:Value):Prop
 |mk (e:Addr) (h:Heap) (tk:Nat) (t:Addr) (dd:Option Addr) (ev:v=.ref e) (es:s'={ s with heap:=h,toks:=tk }) (k:∀b o,s.heap.get? b=some o→h.get? b=some o) (n:s.heap.get? e=none) (o:h.get? e=some { cls:=cB,dict:=dd,data:=.fields #[.ref t,.none,.none,.none,.bool false,.none] })
noncomputable def pK(l:List PySem.Env)(env:PySem.Env):Prop:=∃r,l=env::r
noncomputable def ir(n:Nat):Bool:=match tab[n]? with
 |some fn=>fn.own
 |none=>false
noncomputable def pV(n:Nat):Bool:=match tab[n]? with
 |some fn=>fn.io.isEmpty
 |none=>false
noncomputable def fe(n:Nat):Addr:=match GS[n]? with
 |some p=>p.2.1
 |none=>0
noncomputable def oM(n:Nat)(c:Ctx)(H:Heap)(s:Shared)(Q:V→Prop)(u:Value)(s':Shared):Prop:=match ir n with
 |true=>NL c H s Q u s'
 |false=>NP c H s Q u s'
inductive iG(c:Ctx)(own:ez)(H h:Heap):List (Option Nat×V)→List Value→Prop
 |nil:iG c own H h [] []
 |own {i v u as us}:cV c own H h i v u→iG c own H h as us→iG c own H h ((some i,v)::as) (u::us)
 |val {v u as us}:du c.P H v u→iG c own H h as us→iG c own H h ((none,v)::as) (u::us)
inductive oq(c:Ctx)(own:ez)(H h:Heap):List (Option Nat×V)→List Value→List V→Prop
 |nil:oq c own H h [] [] []
 |own {i v v' u as us vs}:cV c own H h i v' u→oq c own H h as us vs→oq c own H h ((some i,v)::as) (u::us) (v'::vs)
 |val {v u as us vs}:oq c own H h as us vs→oq c own H h ((none,v)::as) (u::us) vs
noncomputable def slots(as:List (Option Nat×V)):List Nat:=as.filterMap (·.1)
noncomputable def fZ:List (Option Nat)→Nat→List Nat
 | [],_=>[]
 |some _::l,n=>n::fZ l (n+1)
 |none::l,n=>fZ l (n+1)
noncomputable def tH(n:Nat):List Nat:=match tab[n]? with
 |some fn=>fn.io
 |none=>[]
inductive wM(n:Nat)(c:Ctx)(own:ez)(H:Heap)(s:Shared)(as:List (Option Nat×V))(us:List Value)(Q:V×List V→Prop)(u:Value)(s':Shared):Prop
 |mk (own':ez) (H':Heap) (v:V) (vs:List V) (g:Mv c (fun a=>∃i k,i∈slots as∧own a=some (i+1,k)) H s H' s') (old:∀a j k,(∀i∈slots as,j≠i+1)→own a=some (j,k)→own' a=some (j,k)) (ok:dw c own' H' s') (ow:∀a,s.heap.get? a≠none→own a=none→own' a=none)
  (io:∀a i,i∈slots as→own a=some (i+1,0)→own' a=some (i+1,0)) (o:oq c own' H' s'.heap as us vs) (r:du c.P H' v u) (q:Q (v,vs))
inductive vI(c:Ctx)(H:Heap)(s:Shared)(Q:V→Prop)(u:Value)(s':Shared):Prop
 |mk (own:ez) (H':Heap) (v:V) (g:Mv c no H s H' s') (w:∀a k,own a=some (1,k)→ma c H' s' a∧s.heap.get? a=none) (uq:∀a b k,own a=some (1,k)→own b=some (1,k)→a=b) (o:cV c own H' s'.heap 0 v u) (q:Q v)
structure k9(c:Ctx):Prop where
 o:zk c.prog c.A c.l c.d
 gk:GI c.K
 call:∀{n vs us H s Q X},pV n=true→St c H s→bz c.P H vs us→c.F n vs (fun p=>Q p.1) X→wpAny c.M c.A (PySem.call (.ref (fe n)) us) (oM n c H s Q) (XP c no H s X) s
 KW:∀{n as us own H s Q X},ir n=false→tH n=fZ (as.map (·.1)) 0→(slots as).Nodup→St c H s→dw c own H s→iG c own H s.heap as us→c.F n (as.map (·.2)) Q X→wpAny c.M c.A (PySem.call (.ref (fe n)) us) (wM n c own H s as us Q) (XP c (fun a=>∃i k,i∈slots as∧own a=some (i+1,k)) H s X) s
 K9:∀{n vs us H s Q X},n∈mr.map (·.2)→St c H s→bz c.P H vs us→c.F n (.obj n []::vs) (fun p=>ty p Q X) X→wpAny c.M c.A (PySem.call (.ref (iF n)) us) (vI c H s Q) (XP c no H s X) s
 bad:∀{u1 u2 H s E},St c H s→wpAny c.M c.A (PySem.call cB [u1,u2]) (fun v s'=>xw s s' v) E s
noncomputable def jj(x:Cx)(e:Expr)(a:CE):Prop:=∀{c:Ctx}{env ρ own H s Q X},k9 c→gK x c env ρ own H s→aY c.F a ρ Q X→wpAny c.M c.A (eval e env) (NP c H s Q) (XP c no H s X) s
noncomputable def gW(x:Cx)(e:Expr)(a:CE):Prop:=∀{c:Ctx}{env ρ own H s Q X},k9 c→gK x c env ρ own H s→aY c.F a ρ (fun v=>dD v (fun l=>Q (.Jq l)) X) X→wpAny c.M c.A (eval e env) (NL c H s Q) (XP c no H s X) s
inductive NT(c:Ctx)(H:Heap)(s:Shared)(Q:V→Prop)(b:Bool)(s':Shared):Prop
 |mk (H':Heap) (v:V) (g:Mv c no H s H' s') (t:tr v=some b) (q:Q v)
noncomputable def G7(x:Cx)(e:Expr)(a:CE):Prop:=∀{c:Ctx}{env ρ own H s Q X},k9 c→gK x c env ρ own H s→(∀v,Q v→(tr v).isSome=true)→aY c.F a ρ Q X→wpAny c.M c.A (isTrue e env (eval e env)) (NT c H s Q) (XP c no H s X) s
structure aN(x:Cx)(e:Expr)(a:CE):Prop where
 E:jj x e a
 T:G7 x e a
noncomputable def lh(x:Cx)(es:List Expr)(xs:CE):Prop:=∀{c:Ctx}{env ρ own H s Q X},k9 c→gK x c env ρ own H s→aY c.F xs ρ (fun w=>jl w Q X) X→
 wpAny c.M c.A (spliced (es.map fun e=>(false,eval e env))) (fun us s'=>∃H' vs,Mv c no H s H' s'∧bz c.P H' vs us∧vs.length=es.length∧Q vs) (XP c no H s X) s
variable{x:Cx}{c:Ctx}{env:PySem.Env}{ρ:Env}{own:ez}{H H' H0 H1:Heap}{s s' s0 s1:Shared}{Q Q1:V→Prop}{X:Prop}{ch:Addr→Prop}{A:Around}{T:Value→Shared→Prop}{m:Sem Value}
theorem Mv.xp(g:Mv c ch H0 s0 H s){e:Value}(z:XP c ch H s X e s'):XP c ch H0 s0 X e s':=let⟨a,b,d,g',y,e,f⟩:=z;⟨a,b,d,g.trans g',y,e,f⟩
theorem bx(g:Mv c no H0 s0 H s)(h:wpAny c.M A m (NP c H s Q1) (XP c no H s X) s)(k:∀u s' H' v,Mv c no H0 s0 H' s'→H.StaysIn H'→du c.P H' v u→Q1 v→T u s'):wpAny c.M A m T (XP c no H0 s0 X) s:=
 au h (by rintro u s' ⟨H',v,g',r,q⟩;exact k u s' H' v (g.trans g') g'.base r q) fun Z Z z=>g.xp z
theorem ex(g:Mv c no H0 s0 H s)(h:wpAny c.M A m (NP c H s Q) (XP c no H s X) s):wpAny c.M A m (NP c H0 s0 Q) (XP c no H0 s0 X) s:=
 bx g h fun Z Z Z Z g' Z r q=>g'.np r q
theorem bt{m:Sem Bool}{T:Bool→Shared→Prop}(g:Mv c no H0 s0 H s)(h:wpAny c.M A m (NT c H s Q) (XP c no H s X) s)(k:∀b s' H' v,Mv c no H0 s0 H' s'→H.StaysIn H'→tr v=some b→Q v→T b s'):wpAny c.M A m T (XP c no H0 s0 X) s:=
 au h (by rintro u s' ⟨H',v,g',t,q⟩;exact k u s' H' v (g.trans g') g'.base t q) fun Z Z z=>g.xp z
theorem et{m:Sem Bool}(g:Mv c no H0 s0 H s)(h:wpAny c.M A m (NT c H s Q) (XP c no H s X) s):wpAny c.M A m (NT c H0 s0 Q) (XP c no H0 s0 X) s:=
 bt g h fun Z Z Z Z g' Z t q=>⟨_,_,g',t,q⟩
theorem ig{v:V}{K:Bool→Prop}(x:da v K X):∃b,tr v=some b∧K b:=d4 x
theorem ib{v:V}{K:Bool→Prop}(x:da v K X):(tr v).isSome=true:=by obtain⟨b,e,_⟩:=ig x;rw[e];rfl
theorem gW.snd{e:Expr}{a:CE}(h:gW x e a)(k:∀{F ρ Q X},aY F a ρ Q X→aY F a ρ (fun v=>dD v (fun l=>Q (.Jq l)) X) X):jj x e a:=fun R K y=>au (h R K (k y)) (fun Z Z z=>NP.of K.st z) fun Z Z z=>z
theorem jj.plain{e:Expr}{a:CE}(h:jj x e a)(he:∀env whole,isTrue e env whole=(do let v ←whole;standAt e.pos;holding [v] (PySem.truthy v))):aN x e a:=
 ⟨h,fun R K k y=>isTrue_plain (bx (.refl K.st) (h R K y) fun Z Z Z v g Z r q=>by
  obtain⟨b,e⟩:=cr.mp (k v q);exact gA g r e fun tk g'=>⟨_,_,g',e,q⟩) (he _ _)⟩
end
section
variable{x:Cx}{c:Ctx}{A:Around}{env:PySem.Env}{ρ:Env}{own:ez}{H H' H0 H1:Heap}{s s' s0 s1:Shared}{Q Q1:V→Prop}{X:Prop}{T E:Value→Shared→Prop}
variable{e e2 e3:Expr}{a b a3:CE}{p p' p2 p3 p4 ap:Pos}{k kd:Nat}
theorem Fe{i:Int}:aN x (.Constant (.int i) k p) (.f (.int i)):=jj.plain (fun R K y=>wpAny_Constant_int ((Mv.refl K.st).JU iD y)) fun Z Z=>rfl
theorem B5{i:Bool}:aN x (.Constant (.bool i) k p) (.f (.bool i)):=jj.plain (fun R K y=>PyProof.Rows.Constant_bool ((Mv.refl K.st).np gq y)) fun Z Z=>rfl
theorem D8:aN x (.Constant .none k p) (.f .none):=jj.plain (fun R K y=>PyProof.Rows.Constant_none ((Mv.refl K.st).np uM y)) fun Z Z=>rfl
theorem E5{i:Str}{n:Nat}:aN x (.Constant (.str i) k p) (.f (.Jv n)):=jj.plain (fun R K y=>dq ((Mv.refl K.st).JU (.Jv .nil) y)) fun Z Z=>rfl
theorem FY{i:Int}:aN x (.UnaryOp .USub (.Constant (.int i) k p) p') (.f (.int (-i))):=
 jj.plain (fun R K y=>UnaryOp_ (wpAny_Constant_int (PyProof.Rows.neg_int ((Mv.refl K.st).JU iD y)))) fun Z Z=>rfl
theorem sV{i:Nat}(y:qZ ρ i Q X):∃v,ρ[i]? =some (some (false,v))∧Q v:=by
 unfold qZ at y;cases h:ρ[i]? with
 |none=>rw[h]at y;exact y.elim
 |some o=>
  rw[h]at y;cases o with
  |none=>exact y.elim
  |some q=>
   obtain⟨t,v⟩:=q;cases t with
   |true=>exact y.elim
   |false=>exact⟨v,rfl,y⟩
theorem Gf{n:Str}{kk:NameKind}{i:Nat}(hi:x.nm[i]? =some n)(hk:x.kd.lookup n=some kk)(hv:fi kk)(hd:(n==("__debug__":Str))=false):aN x (.Name n p) (.c i):=
 jj.plain (fun R K y=>let⟨v,e,q⟩:=sV y;wpAny_Name (kL K.nk K.vs hi hk hv e fun u r=>(Mv.refl K.st).np (v:=v) r q) hd) fun Z Z=>rfl
theorem jy{n:Str}{v:Value}(N:jU x env)(S:St c H s)(hx:ml x n)(hv:fP c.K n v)(q:T v s):wpAny c.M A (eval (.Name n p) env) T E s:=by
 obtain⟨mg,mb,h1,h2,h3,h4,h5⟩:=S.gf.g;exact Calls.Name_function_global N.fk (N.kinds n _ hx.1) (Calls.loadGlobal_global (by rw[N.gl];exact h1.keeps S.stays) (h3 n v hv) q) hx.2
theorem k7{n:Str}{v:Value}(N:jU x env)(S:St c H s)(hx:ml x n)(hv:xx c.K n v)(q:T v s):wpAny c.M A (eval (.Name n p) env) T E s:=by
 obtain⟨mg,mb,h1,h2,h3,h4,h5⟩:=S.gf.g;exact Calls.Name_function_global N.fk (N.kinds n _ hx.1) (Calls.loadGlobal_builtin (by rw[N.gl];exact h1.keeps S.stays) (h4 n hv.1) (by rw[N.bl];exact h2.keeps S.stays) ((h5 n hv.2.2).trans hv.2.1) q) hx.2
theorem FC{n:String}{i:Int}(hx:ml x (Str.ofString n))(hn:(n,i)∈kT):aN x (.Name (Str.ofString n) p) (.f (.int i)):=
 jj.plain (fun R K y=>let⟨t,ht⟩:=R.gk.Lb _ hn;jy K.nk K.st hx ht ((Mv.refl K.st).np iD y)) fun Z Z=>rfl
theorem FR(h:aN x e a):aN x (.UnaryOp .Not e p) (.un .not a):=
 ⟨fun R K y=>UnaryOp_ (bx (.refl K.st) (h.E R K y) fun u s2 H2 v g Z r q=>not_of (by
  obtain⟨b,e,q⟩:=ig q;exact gA g r e fun tk g'=>g'.np gq q)),
  fun R K k y=>isTrue_not (bt (.refl K.st) (h.T R K (Q:=fun v=>da v (fun b=>_) _) (fun v z=>ib z) y) fun b s2 H2 v g Z t q=>by
   obtain⟨b',e,q⟩:=ig q;rw[t]at e;obtain rfl:=ah (e);exact⟨_,.bool !b,g,rfl,q⟩)⟩
theorem F8{op:BoolOp}(h:aN x e a):aN x (.BoolOp op [e] p) a:=
 ⟨fun R K y=>BoolOp_one (h.E R K y),fun R K k y=>by
  cases op with
  |And=>exact isTrue_and (au (h.T R K k y) (fun t Z z=>by cases t with
    |true=>exact isTrue_and_nil z
    |false=>exact z) fun Z Z z=>z)
  |Or=>exact isTrue_or (au (h.T R K k y) (fun t Z z=>by cases t with
    |true=>exact z
    |false=>exact isTrue_or_nil z) fun Z Z z=>z)⟩
theorem Gn{r:List Expr}(h:aN x e a)(h2:aN x (.BoolOp .And (e2::r) p) b):aN x (.BoolOp .And (e::e2::r) p) (.y a b):=
 ⟨fun R K y=>BoolOp_and (bx (.refl K.st) (h.E R K y) fun u s2 H2 v g Z r q=>by
  obtain⟨t,e,q⟩:=ig q;refine gA g r e fun tk g'=>?_
  cases t with
  |true=>exact ex g' (h2.E R (K.mv g') q)
  |false=>exact g'.np r q),
  fun R K k y=>isTrue_and (bt (.refl K.st) (h.T R K (Q:=fun v=>da v (fun t=>(cond t _ _:Mine.R V) _ _) _) (fun v z=>ib z) y) fun t s2 H2 v g Z e q=>by
   obtain⟨t',e',q⟩:=ig q;rw[e]at e';obtain rfl:=ah (e');cases t with
   |true=>exact et g (h2.T R (K.mv g) k q)
   |false=>exact⟨_,v,g,e,q⟩)⟩
theorem Ho{r:List Expr}(h:aN x e a)(h2:aN x (.BoolOp .Or (e2::r) p) b):aN x (.BoolOp .Or (e::e2::r) p) (.D a b):=
 ⟨fun R K y=>BoolOp_or (bx (.refl K.st) (h.E R K y) fun u s2 H2 v g Z r q=>by
  obtain⟨t,e,q⟩:=ig q;refine gA g r e fun tk g'=>?_
  cases t with
  |false=>exact ex g' (h2.E R (K.mv g') q)
  |true=>exact g'.np r q),
  fun R K k y=>isTrue_or (bt (.refl K.st) (h.T R K (Q:=fun v=>da v (fun t=>(cond t _ _:Mine.R V) _ _) _) (fun v z=>ib z) y) fun t s2 H2 v g Z e q=>by
   obtain⟨t',e',q⟩:=ig q;rw[e]at e';obtain rfl:=ah (e');cases t with
   |false=>exact et g (h2.T R (K.mv g) k q)
   |true=>exact⟨_,v,g,e,q⟩)⟩
theorem E1(h:aN x e a)(h2:aN x e2 b)(h3:aN x e3 a3):aN x (.IfExp e e2 e3 p) (.J2 a b a3):=
 ⟨fun R K y=>IfExp_ (bt (.refl K.st) (h.T R K (Q:=fun v=>da v (fun t=>(cond t _ _:Mine.R V) _ _) _) (fun v z=>ib z) y) fun t s2 H2 v g Z e q=>by
  obtain⟨t',e',q⟩:=ig q;rw[e]at e';obtain rfl:=ah (e');cases t with
  |true=>exact ex g (h2.E R (K.mv g) q)
  |false=>exact ex g (h3.E R (K.mv g) q)),
  fun R K k y=>isTrue_IfExp (bt (.refl K.st) (h.T R K (Q:=fun v=>da v (fun t=>(cond t _ _:Mine.R V) _ _) _) (fun v z=>ib z) y) fun t s2 H2 v g Z e q=>by
  obtain⟨t',e',q⟩:=ig q;rw[e]at e';obtain rfl:=ah (e');cases t with
  |true=>exact et g (h2.T R (K.mv g) k q)
  |false=>exact et g (h3.T R (K.mv g) k q))⟩
theorem FA{op:Operator}{o:B}(ho:p5 op o){v1 v2:V}{u1 u2:Value}(O:zk c.prog A c.l c.d)(g:Mv c no H0 s0 H s)(S0:St c H0 s0)(r1:du c.P H v1 u1)(r2:du c.P H v2 u2)(y:eP o v1 v2 Q X):
  wpAny c.M A (binaryOp op u1 u2) (NP c H0 s0 Q) E s:=by
 induction ho with
 |add=>exact Fh g S0 r1 r2 y
 |sub=>exact FG g r1 r2 y
 |mul=>exact ED g S0 r1 r2 y
 |fmod=>exact Cc g r1 r2 y
 |Ks=>exact B0 g r1 r2 y
 |fdiv=>exact B8 g r1 r2 O y
theorem sO{op:CmpOp}{o:B}(ho:lz op o){v1 v2:V}{u1 u2:Value}(O:zk c.prog A c.l c.d)(g:Mv c no H0 s0 H s)(r1:du c.P H v1 u1)(r2:du c.P H v2 u2)(y:eP o v1 v2 Q X):
  wpAny c.M A (compareOp op u1 u2) (NP c H0 s0 Q) E s:=by
 induction ho with
 |eq=>exact HU g O.toqD r1 r2 y
 |ne=>exact HQ g O.toqD r1 r2 y
 |lt=>exact HG g r1 r2 y
 |le=>exact G9 g r1 r2 y
 |gt=>exact HH g r1 r2 y
 |ge=>exact Hj g r1 r2 y
 |JK=>exact Hx g O.toqD r1 r2 y
 |JI=>exact AF g O.toqD r1 r2 y
theorem E3{op:Operator}{o:B}(ho:p5 op o)(h:aN x e a)(h2:aN x e2 b):aN x (.BinOp e op e2 p) (.h o a b):=
 jj.plain (fun R K y=>wpAny_BinOp (bx (.refl K.st) (h.E R K y) fun Z Z Z Z g1 Z r1 y=>bx g1 (h2.E R (K.mv g1) y) fun Z Z Z Z g2 b r2 y=>
  FA ho R.o g2 K.st (r1.mono b) r2 y)) fun Z Z=>rfl
theorem jj.KH{op:CmpOp}{w:V→V→R V}(hm:behindInMarks op e2=false)(h:aN x e a)(h2:∀{c:Ctx}{env ρ own H H0 s0 s v u Q X},k9 c→gK x c env ρ own H s→Mv c no H0 s0 H s→du c.P H v u→aY c.F b ρ (fun v2=>w v v2 Q X) X→wpAny c.M c.A (eval e2 env) (fun u2 s2=>wpAny c.M c.A (compareOp op u u2) (NP c H0 s0 Q) (XP c no H0 s0 X) s2) (XP c no H0 s0 X) s)
  {ce:CE} (hce:∀F ρ,aY F ce ρ=bc (aY F a ρ) fun v=>bc (aY F b ρ) fun v2=>w v v2):aN x (.Compare e [op] [e2] p) ce:=
 ⟨fun R K y=>wpAny_Compare1 (by rw[hce]at y;exact bx (.refl K.st) (h.E R K y) fun Z Z Z Z g1 Z r1 y=>h2 R (K.mv g1) g1 r1 y) hm,
  fun R K k y=>wpAny_isTrue_Compare1 (by rw[hce]at y;exact bx (.refl K.st) (h.E R K y) fun Z Z Z Z g1 Z r1 y=>au (h2 R (K.mv g1) g1 r1 y) (fun u s2 z=>au z (fun u3 s3 ⟨H3,v3,g3,r3,q⟩=>by
   obtain⟨b,e⟩:=cr.mp (k v3 q);exact gA g3 r3 e fun tk g'=>⟨_,_,g',e,q⟩) fun Z Z z=>z) fun Z Z z=>z) hm⟩
theorem Fg{op:CmpOp}{o:B}(ho:lz op o)(hm:behindInMarks op e2=false)(h:aN x e a)(h2:aN x e2 b):aN x (.Compare e [op] [e2] p) (.h o a b):=
 jj.KH (w:=eP o) hm h (fun R K g1 r1 y=>bx g1 (h2.E R K y) fun Z Z Z Z g2 bb r2 y=>sO ho R.o g2 (r1.mono bb) r2 y) fun Z Z=>rfl
end
section
variable{M:Model}{A:Around}{E:Value→Shared→Prop}{s:Shared}{env:PySem.Env}
theorem tW{l m r:Expr}{op op':CmpOp}{pos:Pos}{Q:Value→Shared→Prop}(hm:behindInMarks op' r=false)
  (h:wpAny M A (eval l env) (fun a s1=>wpAny M A (eval m env) (fun b s2=>wpAny M A (compareOp op a b) (fun c s3=>wpAny M A (PySem.truthy c) (fun t s4=>
   if t=true then wpAny M A (eval r env) (fun d s5=>wpAny M A (compareOp op' b d) Q E s5) E s4 else Q c s4) E s3) E s2) E s1) E s):
  wpAny M A (eval (.Compare l [op,op'] [m,r] pos) env) Q E s:=by
 rw[arm_eval_Compare];refine av (au h (fun a s1 h1=>?_) fun Z Z z=>z);show wpAny M A (compareChain pos a [op,op'] [eval m env,markedBehindIn op' r (eval r env)]) Q E s1;rw[markedBehindIn_of_false hm]
 show wpAny M A (do
  let rv ←holding [a] (eval m env)
  standAt pos
  let c ←holding [a,rv] (compareOp op a rv)
  release [a,rv] [c]
  if ←holding [c,rv] (PySem.truthy c)then compareChain pos rv [op'] [eval r env]else pure c) Q E s1
 refine av (bN (au h1 (fun b s2 h2=>av (cQ (av (bN (au h2 (fun c s3 h3=>av (wpAny_release (av (bN (au h3 (fun t s4 h4=>?_) fun Z Z z=>z))))) fun Z Z z=>z))))) fun Z Z z=>z));cases t with
 |false=>exact aI h4
 |true=>
  rw[aB rfl]at h4
  show wpAny M A (do
   let rv ←holding [b] (eval r env)
   standAt pos
   operate [b,rv] (compareOp op' b rv)) Q E s4
  exact av (bN (au h4 (fun d s5 h5=>av (cQ (wpAny_operating h5))) fun Z Z z=>z))
theorem vC{l m r:Expr}{op op':CmpOp}{pos:Pos}{whole:Sem Value}{Q:Bool→Shared→Prop}(hm:behindInMarks op' r=false)
  (h:wpAny M A (eval l env) (fun a s1=>wpAny M A (eval m env) (fun b s2=>wpAny M A (compareOp op a b) (fun c s3=>wpAny M A (PySem.truthy c) (fun t s4=>
   if t=true then wpAny M A (eval r env) (fun d s5=>wpAny M A (compareOp op' b d) (fun c s6=>wpAny M A (PySem.truthy c) Q E s6) E s5) E s4 else Q false s4) E s3) E s2) E s1) E s):
  wpAny M A (isTrue (.Compare l [op,op'] [m,r] pos) env whole) Q E s:=by
 rw[arm_isTrue_Compare];refine av (au h (fun a s1 h1=>?_) fun Z Z z=>z);show wpAny M A (testChain pos a [op,op'] [eval m env,markedBehindIn op' r (eval r env)]) Q E s1;rw[markedBehindIn_of_false hm]
 show wpAny M A (do
  let rv ←holding [a] (eval m env)
  standAt pos
  let c ←holding [a,rv] (compareOp op a rv)
  release [a,rv] [c]
  if ←holding [c,rv] (PySem.truthy c)then testChain pos rv [op'] [eval r env]else pure false) Q E s1
 refine av (bN (au h1 (fun b s2 h2=>av (cQ (av (bN (au h2 (fun c s3 h3=>av (wpAny_release (av (bN (au h3 (fun t s4 h4=>?_) fun Z Z z=>z))))) fun Z Z z=>z))))) fun Z Z z=>z));cases t with
 |false=>exact aI h4
 |true=>
  rw[aB rfl]at h4
  show wpAny M A (do
   let rv ←holding [b] (eval r env)
   standAt pos
   let c ←operate [b,rv] (compareOp op' b rv)
   holding [c] (PySem.truthy c)) Q E s4
  exact av (bN (au h4 (fun d s5 h5=>av (cQ (av (wpAny_operating (au h5 (fun c s6 h6=>bN h6) fun Z Z z=>z))))) fun Z Z z=>z))
theorem ua{e:Expr}{es:List Expr}(h:ba e=true):starEach (e::es) env=(false,eval e env)::starEach es env:=by cases e<;>first | rfl | cases h
theorem fz{pos:Pos}{es:List Expr}(h:es.all ba=true):backTo pos (starEach es env)=es.map fun e=>(false,eval e env):=by
 induction es with
 |nil=>rfl
 |cons e es ih=>
  rw[ua (all_cons h).1];exact aj _ (ih (all_cons h).2)
theorem ik{o:Expr}{name:Str}{whole:Sem Value}(h:fN o=true):attributeBase o name env whole=whole:=by
 cases o<;>first | rfl | skip
 cases func<;>first | rfl | skip
 cases args<;>first | rfl | skip
 cases keywords<;>first | rfl | cases h
theorem fF{prog:Program}{w:World}{value slice:Expr}{pos:Pos}{Q:Value→Shared→Prop}
  (h:wpAny (model prog w) A (eval value env) (fun o s₁=>wpAny (model prog w) A (eval slice env) (fun i s₂=>SubscriptOn (model prog w) A o i Q E s₂) E s₁) E s)
  (hs:∀o i,∃vs,subscripted slice false o i=operate vs (getItem o i)):
  wpAny (model prog w) A (eval (.Subscript value slice pos) env) Q E s:=by
 rw[eval_Subscript];refine av (au h (fun o s₁ h₁=>av (bN (au h₁ (fun i s₂ h₂=>av (cQ ?_)) fun Z Z x=>x))) fun Z Z x=>x);obtain⟨T,id,hl,hT,hg⟩:=h₂;obtain⟨vs,e⟩:=hs o i;refine av ?_
 rw[getitemInPython_of_ne hT.not_modules];refine av (wpAny_specialOf hT hl ?_)
 have fin:wpAny (model prog w) A (subscripted slice false o i) (fun r s₃=>wpAny (model prog w) A (letTemporaryGo value o r>>=fun Z=>pure r) Q E s₃) E s₂:=by
  rw[e];exact wpAny_operating (au hg (fun r s₃ h₃=>av (wpAny_letTemporaryGo (aI h₃))) fun Z Z x=>x)
 first
  |exact aI (av fin)
  |exact av (aI (av fin))
  |exact av fin
theorem jT{slice:Expr}(h:jD slice=true)(o i:Value):∃vs,subscripted slice false o i=operate vs (getItem o i):=by
 cases slice<;>first | exact⟨_,rfl⟩ | cases h
theorem lZ{prog:Program}{w:World}{value:Expr}{attr:Str}{pos:Pos}{Q:Value→Shared→Prop}(hb:fN value=true)
  (h:wpAny (model prog w) A (eval value env) (fun o s₁=>wpAny (model prog w) A (getAttr o attr true) Q E s₁) E s):wpAny (model prog w) A (eval (.Attribute value attr pos) env) Q E s:=by
 rw[arm_eval_Attribute,ik hb];exact av (au h (fun o s₁ h₁=>av (cQ (av (bN (au h₁ (fun r s₂ h₂=>av (wpAny_letTemporaryGo (aI h₂))) fun Z Z y=>y))))) fun Z Z y=>y)
theorem uS{lo hi:Option Expr}{p:Pos}{T:Value→Shared→Prop}
  (h:wpAny M A (valueOrNone (evalOpt lo env)) (fun v1 s1=>wpAny M A (valueOrNone (evalOpt hi env)) (fun v2 s2=>
   T (.ref s2.heap.objs.size) { s2 with heap:=s2.heap.push { cls:=.type "slice",data:=.fields #[v1,v2,.none] } }) E s1) E s):wpAny M A (eval (.Slice lo hi none p) env) T E s:=by
 rw[arm_eval_Slice];refine av (au h (fun v1 s1 h1=>av (bN (au h1 (fun v2 s2 h2=>av (bN (aI ?_))) fun Z Z z=>z))) fun Z Z z=>z);exact wpAny_newObj_type h2
theorem BV{o i:Value}{Q Q':Value→Shared→Prop}(h:SubscriptOn M A o i Q E s)(k:∀v s',Q v s'→Q' v s'):SubscriptOn M A o i Q' E s:=
 let⟨T,id,a,b,c⟩:=h;⟨T,id,a,b,au c k fun Z Z z=>z⟩
variable{x:Cx}{c:Ctx}{ρ:Env}{own:ez}{H H' H0 H1:Heap}{s' s0 s1:Shared}{Q Q1:V→Prop}{X:Prop}{T:Value→Shared→Prop}
variable{e e2 e3:Expr}{a b a3:CE}{p p' p2 p3 p4 ap:Pos}{k kd:Nat}{es:List Expr}{xs:CE}
theorem Fo(h:aN x e a):aN x (.Compare e [.Is] [.Constant .none k p'] p) (.un .isNone a):=
 jj.KH (b:=.f .none) (w:=fun v Z=>bc (isNone v) fun b=>ok (.bool b)) rfl h (fun {c env ρ own H H0 s0 s v u Q X} R K g r y=>PyProof.Rows.Constant_none (by
  exact wpAny_is_plain (iZ (Q:=fun b=>Q (.bool b)) r y).1 (g.np gq (iZ (Q:=fun b=>Q (.bool b)) r y).2))) fun Z Z=>rfl
theorem DJ(h:aN x e a):aN x (.Compare e [.IsNot] [.Constant .none k p'] p) (.un .J9 a):=
 jj.KH (b:=.f .none) (w:=fun v Z=>bc (isNone v) fun b=>ok (.bool !b)) rfl h (fun {c env ρ own H H0 s0 s v u Q X} R K g r y=>PyProof.Rows.Constant_none (by
  exact wpAny_isNot_plain (iZ (Q:=fun b=>Q (.bool !b)) r y).1 (g.np gq (iZ (Q:=fun b=>Q (.bool !b)) r y).2))) fun Z Z=>rfl
theorem zn(hx:ml x "OP_STACK")(h:aN x e a):aN x (.Compare e [.In] [.Name "OP_STACK" p'] p) (.un .JN a):=
 jj.KH (b:=.f .none) (w:=fun v Z=>l6 .JN v) rfl h (fun R K g r y=>jy K.nk K.st hx R.gk.KP (v6 R.gk.tab.KP g r y)) fun Z Z=>rfl
theorem Dl{op op':CmpOp}{o o':B}(ho:lz op o)(ho':lz op' o')(hm:behindInMarks op' e3=false)(h:aN x e a)(h2:aN x e2 b)(h3:aN x e3 a3):
  aN x (.Compare e [op,op'] [e2,e3] p) (.J8 a o b o' a3):=
 ⟨fun R K y=>tW hm (bx (.refl K.st) (h.E R K y) fun Z Z Z Z g1 Z r1 y=>bx g1 (h2.E R (K.mv g1) y) fun Z Z Z Z g2 b2 r2 y=>bx g2 (sO ho R.o (.refl g2.st) (r1.mono b2) r2 y) fun Z Z Z Z g3 b3 r3 q=>by
   obtain⟨t,e,q⟩:=ig q;refine gA g3 r3 e fun tk g4=>?_
   cases t with
   |false=>exact g4.np r3 q
   |true=>exact bx g4 (h3.E R (K.mv g4) q) fun Z Z Z Z g5 b5 r5 q=>sO ho' R.o g5 ((r2.mono b3).mono b5) r5 q),
  fun R K k y=>vC hm (bx (.refl K.st) (h.E R K y) fun Z Z Z Z g1 Z r1 y=>bx g1 (h2.E R (K.mv g1) y) fun Z Z Z Z g2 b2 r2 y=>bx g2 (sO ho R.o (.refl g2.st) (r1.mono b2) r2 y) fun Z Z Z Z g3 b3 r3 q=>by
   obtain⟨t,e,q⟩:=ig q;refine gA g3 r3 e fun tk g4=>?_
   cases t with
   |false=>exact⟨_,_,g4,e,q⟩
   |true=>
    exact bx g4 (h3.E R (K.mv g4) q) fun Z Z Z Z g5 b5 r5 q=>bx g5 (sO ho' R.o (.refl g5.st) ((r2.mono b3).mono b5) r5 q) fun Z Z Z Z g6 Z r6 q=>by
     obtain⟨b,e⟩:=cr.mp (k _ q);exact gA g6 r6 e fun tk g'=>⟨_,_,g',e,q⟩)⟩
theorem EI:lh x [] .nil:=fun R K y=>cF ⟨_,_,.refl K.st,.nil,rfl,y⟩
theorem wn{v:V}{Q:List V→Prop}(x:jl v Q X):∃l,v=.Js l∧Q l:=by
 cases v with
 |Js i=>exact⟨i,rfl,x⟩
 |_=>exact x.elim
theorem B3(h:aN x e a)(hs:lh x es xs):lh x (e::es) (.cons a xs):=fun {c env ρ own H s Q X} R K y=>
 b4 (bx (.refl K.st) (h.E R K y) fun u s1 H1 v g1 Z r1 y=>au (hs (Q:=fun l=>Q (v::l)) R (K.mv g1) y) (fun Z Z ⟨H2,vs,g2,r2,hl,q⟩=>
  ⟨H2,_,g1.trans g2,.cons (r1.mono g2.base) r2,aj (·+1) hl,q⟩) fun Z Z z=>g1.xp z)
theorem ER(hn:es.length≤100)(hs:es.all ba=true)(h:lh x es xs):aN x (.Tuple es k p) (.Js xs):=
 jj.plain (fun {c env ρ own H s Q X} R K y=>wpAny_Tuple (by
  rw[fz hs];refine au (h (Q:=fun l=>Q (.Js l)) R K y) (fun us s2 ⟨H2,vs,g2,r2,hl,q⟩=>?_) fun Z Z z=>z;have h1:=r2.len;have hv:=fO;exact⟨js (by omega),g2.KG (tk:=s2.toks) K.st (by rw[List.toList_toArray];exact r2) (by omega) q⟩)) fun Z Z=>rfl
theorem w6(hn:es.length≤100)(hs:es.all ba=true)(h:lh x es xs):gW x (.List es p) (.Jq xs):=
 fun {c env ρ own H s Q X} R K y=>wpAny_List (by
  rw[fz hs];refine au (h (Q:=fun l=>Q (.Jq l)) R K y) (fun us s2 ⟨H2,vs,g2,r2,hl,q⟩=>?_) fun Z Z z=>z;have h1:=r2.len;have hv:=fO;exact⟨js (by omega),g2.Kg (tk:=s2.toks) (by rw[List.toList_toArray];exact r2) (by omega) q⟩)
theorem EG(hn:es.length≤100)(hs:es.all ba=true)(h:lh x es xs):aN x (.List es p) (.Jq xs):=jj.plain (gW.snd (w6 hn hs h) fun y=>y) fun Z Z=>rfl
theorem DA(hb:fN e=true)(h:aN x e a):aN x (.Attribute e (a5 1 k) p) (.un (.attr k) a):=
 jj.plain (fun R K y=>lZ hb (bx (.refl K.st) (h.E R K y) fun Z Z Z Z g Z r y=>DX R.gk.tab g r y)) fun Z Z=>rfl
theorem DS(hs:jD e2=true)(h:aN x e a)(h2:aN x e2 b):aN x (.Subscript e e2 p) (.h .item a b):=
 jj.plain (fun R K y=>fF (bx (.refl K.st) (h.E R K y) fun Z Z Z Z g1 Z r1 y=>bx g1 (h2.E R (K.mv g1) y) fun Z Z Z Z g2 b r2 y=>DC g2 (r1.mono b) r2 y) (jT hs)) fun Z Z=>rfl
theorem FU(h:aN x e a):aN x (.Subscript e (.Constant (.str (a5 0 k)) kd p') p) (.un (.key k) a):=
 jj.plain (fun R K y=>fF (bx (.refl K.st) (h.E R K y) fun Z Z Z Z g1 Z r1 y=>dq (En g1.toks r1 y)) (jT rfl)) fun Z Z=>rfl
theorem Gw(hx:ml x "OP_STACK")(hs:jD e=true)(h:aN x e a):aN x (.Subscript (.Name "OP_STACK" p') e p) (.un .J1 a):=
 jj.plain (fun R K y=>fF (jy K.nk K.st hx R.gk.KP (bx (.refl K.st) (h.E R K y) fun Z Z Z Z g1 Z r1 y=>v7 R.gk.tab.KP g1 K.st r1 y)) (jT hs)) fun Z Z=>rfl
theorem vH{v vl vu:V}(y:tV v vl vu Q X):∃(l:List V)(lo:Option Int)(a b:Nat),v=.Jq l∧vu=.int b∧((vl=.none∧lo=none∧a=0)∨(vl=.int a∧lo=some (a:Int)))∧Q (.Jq ((l.take b).drop a)):=by
 obtain⟨l,rfl,y⟩:=fD y;cases vl with
 |none=>
  obtain⟨b,rfl,z⟩:=db (v:=vu) (X:=X) (Q:=fun b=>iff (0≤(0:Int)∧0≤b∧(0:Int)≤lim∧b≤lim) (ok (V.Jq ((l.take b.toNat).drop (0:Int).toNat))) Q X) y;obtain⟨⟨_,h,_⟩,q⟩:=bh z;obtain⟨b,rfl⟩:=Int.eq_ofNat_of_zero_le h;exact⟨l,none,0,b,rfl,rfl,.inl ⟨rfl,rfl,rfl⟩,q⟩
 |int a=>
  obtain⟨b,rfl,z⟩:=db (v:=vu) (X:=X) (Q:=fun b=>iff (0≤a∧0≤b∧a≤lim∧b≤lim) (ok (V.Jq ((l.take b.toNat).drop a.toNat))) Q X) y;obtain⟨⟨h',h,_⟩,q⟩:=bh z;obtain⟨b,rfl⟩:=Int.eq_ofNat_of_zero_le h;obtain⟨a,rfl⟩:=Int.eq_ofNat_of_zero_le h';exact⟨l,_,a,b,rfl,rfl,.inr ⟨rfl,rfl⟩,q⟩
 |_=>exact(y:False).elim
theorem uY{v vl vu:V}{u ul uu:Value}(g:Mv c no H0 s0 H s)(S0:St c H0 s0)(r:du c.P H v u)(rl:du c.P H vl ul)(ru:du c.P H vu uu)(y:tV v vl vu Q X):
  SubscriptOn c.M A u (.ref s.heap.objs.size) (NP c H0 s0 Q) E { s with heap:=s.heap.push { cls:=.type "slice",data:=.fields #[ul,uu,.none] } }:=by
 obtain⟨l,lo,i,j,rfl,rfl,h,q⟩:=vH y;obtain⟨t,rfl⟩:=ru.Ju;refine zm g S0 r (lo:=lo) ?_ (.int _ _) q
 rcases h with⟨rfl,rfl,rfl⟩|⟨rfl,rfl⟩
 ·obtain rfl:=rl.Ju;exact⟨.none,.inr ⟨rfl,rfl⟩⟩
 ·obtain⟨t,rfl⟩:=rl.Ju;exact⟨.int _ _,.inl rfl⟩
theorem Aj(h:aN x e a)(h2:aN x e2 b)(h3:aN x e3 a3):aN x (.Subscript e (.Slice (some e2) (some e3) none p') p) (.slice a b a3):=
 jj.plain (fun R K y=>fF (bx (.refl K.st) (h.E R K y) fun Z Z Z Z g1 Z r1 y=>uS (bx g1 (h2.E R (K.mv g1) y) fun Z Z Z Z g2 b2 r2 y=>bx g2 (h3.E R (K.mv g2) y) fun Z Z Z Z g3 b3 r3 y=>
  uY g3 K.st ((r1.mono b2).mono b3) (r2.mono b3) r3 y)) fun Z Z=>⟨_,rfl⟩) fun Z Z=>rfl
theorem xc(h:aN x e a)(h3:aN x e3 a3):aN x (.Subscript e (.Slice none (some e3) none p') p) (.slice a (.f .none) a3):=
 jj.plain (fun R K y=>fF (bx (.refl K.st) (h.E R K y) fun Z Z Z Z g1 Z r1 y=>uS (aI (bx g1 (h3.E R (K.mv g1) y) fun Z Z Z Z g3 b3 r3 y=>
  uY g3 K.st (r1.mono b3) uM r3 y))) fun Z Z=>⟨_,rfl⟩) fun Z Z=>rfl
theorem CA(h:aN x e a)(h2:aN x e2 b):gW x (.BinOp e .Add e2 p) (.h .add a b):=fun R K y=>
 wpAny_BinOp (bx (.refl K.st) (h.E R K y) fun Z Z Z Z g1 Z r1 y=>bx g1 (h2.E R (K.mv g1) y) fun Z Z Z Z g2 b r2 y=>DR g2 (r1.mono b) r2 y)
theorem Df(h:aN x e a)(h2:aN x e2 b):gW x (.BinOp e .Mult e2 p) (.h .mul a b):=fun R K y=>
 wpAny_BinOp (bx (.refl K.st) (h.E R K y) fun Z Z Z Z g1 Z r1 y=>bx g1 (h2.E R (K.mv g1) y) fun Z Z Z Z g2 b r2 y=>Dv g2 (r1.mono b) r2 y)
set_option tactic.hygienic true in
theorem rH{h:Heap}{dx:Addr}{m:Str→Option Value}(n:h.Ns1 dx m):∃od,h.get? dx=some od∧∀y,lookIn y od=some (m y):=by
 obtain⟨o,es,ep,e,hd,hk,_,hf⟩:=n;refine⟨o,e,fun y=>?_⟩;unfold lookIn;rw[hd];have q:=hf y;unfold nsFind findBy at q;rw[←Array.find?_toList]at q;dsimp only;split
 ·rename_i en he;rw[he]at q;rw[←q];rfl
 ·rename_i he;rw[he]at q;rw[aC,←q];rfl;rw[dr];rintro⟨en,hm,hr⟩;obtain⟨n,t,e⟩:=hk en (Array.mem_toList_iff.mp hm);unfold DictEntry.refKey at hr;rw[e]at hr;cases hr
theorem bz.thin{P:PD}{H H':Heap}{l:List V}{r:List Value}(x:bz P H l r)(k:∀a o,H.get? a=some o→¬yV o→H'.get? a=some o):∀{n:Nat},l.all (gB n)=true→bz P H' l r:=by
 induction x with
 |nil=>exact fun Z=>.nil
 |none _ a=>exact fun g=>.none (a (all_cons g).2)
 |bool _ a=>exact fun g=>.bool (a (all_cons g).2)
 |int _ a=>exact fun g=>.int (a (all_cons g).2)
 |Js n t _ _ a b=>
  intro m g;cases m with
  |zero=>cases(all_cons g).1
  |succ m=>
   obtain⟨o,e,hc,j,hd⟩:=t;exact .Js n ⟨o,k _ o e (fun z=>z.elim (fun z=>z.1 hc) fun⟨Z1,Z2,z⟩=>by rw[hd]at z;cases z),hc,j,hd⟩ (a (n:=m) (all_cons g).1) (b (all_cons g).2)
 |Jq=>intro m g;cases m<;>cases(all_cons g).1
 |rng t n _ a=>exact fun g=>.rng (k _ _ t fun z=>z.elim (fun z=>z.2 rfl) fun⟨Z1,Z2,z⟩=>(by cases z)) n (a (all_cons g).2)
 |obj=>intro m g;cases m<;>cases(all_cons g).1
 |Jv _ a=>exact fun g=>.Jv (a (all_cons g).2)
noncomputable def ol(own:ez)(a:Addr):Prop:=∃i k,own a=some (i+1,k)
end
section
variable{x:Cx}{c:Ctx}{A:Around}{env:PySem.Env}{ρ:Env}{own:ez}{H H' H0 H1 H2 h:Heap}{s s' s0 s1:Shared}{Q Q1:V→Prop}{X:Prop}{T E:Value→Shared→Prop}
variable{e e2 e3:Expr}{a b a3:CE}{p p' p2 p3 p4 ap:Pos}{k kd i:Nat}{es:List Expr}{xs:CE}{v:V}{u:Value}
theorem iU.JV{fs us}(b:H.StaysIn H1)(kp:∀a o k,own a=some (i+1,k)→h.get? a=some o→H1.get? a=some o)(f:iU c own H h i fs us):bz c.P H1 (fs.map (·.2)) us:=by
 induction f with
 |nil=>exact .nil
 |cons a _ ih=>
  refine .cons ?_ ih
  induction a with
  |keep q r=>exact r.mono b
  |Jq q o n t r=>exact .Jq n (kp _ _ _ o t) (r.mono b) .nil
  |dict=>exact .Jv .nil
theorem cV.JV(b:H.StaysIn H1)(kp:∀a o k,own a=some (i+1,k)→h.get? a=some o→H1.get? a=some o)(f:cV c own H h i v u):du c.P H1 v u:=by
 induction f with
 |Jq o n t r=>exact .Jq n (kp _ _ _ o t) (r.mono b) .nil
 |dict o t p f m g nd=>exact .obj (.dict (kp _ _ _ o t) p) (f.JV b kp) m g .nil
 |inst q o t n f m g nd=>
  obtain⟨od,e1,e2⟩:=rH n;exact .obj (.inst (kp _ _ _ q t) (kp _ _ _ o e1) e2) (f.JV b kp) m g .nil
theorem RS.JV{q:Bool×V}(b:H.StaysIn H1)(kp:∀a o k,own a=some (i+1,k)→h.get? a=some o→H1.get? a=some o)(f:RS c own H h i q u):du c.P H1 q.2 u:=by
 obtain⟨t,v⟩:=q;cases t with
 |true=>exact cV.JV b kp f
 |false=>exact bz.mono b f
theorem pG{q:Bool×V}(e:(plain ρ)[i]? =some (some q)):∃t,q.1=false∧ρ[i]? =some (some (t,q.2)):=by
 unfold plain at e;rw[aV]at e;obtain⟨o,e1,e2⟩:=bY.mp e;cases o with
 |none=>cases e2
 |some q'=>obtain rfl:=ah (e2);exact⟨q'.1,rfl,e1⟩
theorem gK.freeze(K:gK x c env ρ own H s):∃H1,H.StaysIn H1∧gK x c env (plain ρ) (fun Z=>none) H1 s∧∀a,H.get? a=none→¬ol own a→H1.get? a=none:=by
 obtain⟨H1,S1,b,d,n⟩:=K.st.pick (ol own) fun a q ⟨i,k,z⟩=>(K.ow.off a i k z).fr q
 have r:∀{i q u},RS c own H s.heap i q u→∀t:Bool×V,t.1=false→t.2=q.2→RS c (fun Z=>none) H1 s.heap i t u:=fun {i q u} f t h1 h2=>by
  obtain⟨t1,t2⟩:=t;obtain rfl:=h1;subst h2;exact RS.JV (q:=q) b (fun a o k z e=>d a o e ⟨i,k,z⟩) f
 obtain⟨⟨m,hn,hv⟩,cl⟩:=K.vs;refine⟨H1,b,⟨K.nk,S1,⟨⟨m,hn,fun i y q h1 h2 h3=>?_⟩,fun i y kk h1 h2 h3=>?_⟩,⟨nofun,nofun,fun Z z=>(z rfl).elim⟩⟩,n⟩
 ·obtain⟨t,e1,e2⟩:=pG h3;obtain⟨u,e,f⟩:=hv i y _ h1 h2 e2;exact⟨u,e,r f q e1 rfl⟩
 ·obtain⟨a,w,e1,e2,e3⟩:=cl i y kk h1 h2 h3;refine⟨a,w,e1,e2,fun q h4=>?_⟩;obtain⟨t,e1,e2⟩:=pG h4;obtain⟨u,e,f⟩:=e3 _ e2;exact⟨u,e,r f q e1 rfl⟩
theorem gK.melt(K:gK x c env ρ own H s)(b:H.StaysIn H1)(n:∀a,H.get? a=none→¬ol own a→H1.get? a=none)(g:Mv c no H1 s H2 s'):∃H3,Mv c no H s H3 s'∧(∀a,H2.get? a=none→H3.get? a=none)∧
  ∀{l r n},bz c.P H2 l r→l.all (gB n)=true→bz c.P H3 l r:=by
 have b2:H.StaysIn H2:=fun a o e=>g.base a o (b a o e);have fr:∀a∈kA c.l,H2.get? a=none:=fun a q=>(g.st.frOld q).1;have S:St c H s':=⟨K.st.gf,fun a o e=>g.st.stays a o (b2 a o e),jd g.st.ff (fun a q=>(K.st.frOld q).1) fun a o e Z=>⟨o.slots,e⟩⟩;obtain⟨H3,S3,b3,d3,n3⟩:=S.pick (fun a=>H2.get? a≠none∧¬ol own a) fun a q z=>z.1 (fr a q);refine⟨H3,⟨S3,g.eq,b3,g.keep,fun a h1 h2 h3=>n3 a h3 fun z=>?_⟩,fun a e=>n3 a ?_ fun z=>z.1 e,fun r h=>r.thin (fun a o e hc=>d3 a o (g.st.stays a o e) ⟨by rw[e];exact(by intro h;cases h),fun⟨i,k,z⟩=>?_⟩) h⟩
 ·exact z.1 (g.JM a h1 h2 (n a h3 z.2))
 ·cases q:H.get? a with
  |none=>rfl
  |some o=>rw[b2 a o q]at e;cases e
 ·obtain⟨_,h2,o',e',hc'⟩:=K.ow.off a i k z;have:=(g.keep a o' e' fun z=>z).1 h2;rw[g.st.stays a o e]at this;obtain rfl:=ah (this);exact hc hc'
theorem gK.xp(K:gK x c env ρ own H s)(b:H.StaysIn H1)(n:∀a,H.get? a=none→¬ol own a→H1.get? a=none){e:Value}(z:XP c no H1 s X e s'):XP c no H s X e s':=by
 obtain⟨H2,s2,a,g,y,e,f⟩:=z;obtain⟨H3,g3,_⟩:=K.melt b n g;exact⟨H3,s2,a,g3,y,e,f⟩
theorem kD{t:Bool}{r:R V}(y:(cond t r bad:R V) Q X):t=true∧r Q X:=by
 cases t with
 |true=>exact⟨rfl,y⟩
 |false=>exact y.elim
theorem DM(h:aN x e a):aN x e (.u a):=
 ⟨fun R K y=>by
  obtain⟨H1,b,K1,n⟩:=K.freeze;refine au (h.E R K1 y) (fun u s2 ⟨H2,v,g,r,q⟩=>?_) fun Z Z z=>K.xp b n z;obtain⟨H3,g3,_,d⟩:=K.melt b n g;obtain⟨h1,q⟩:=kD q;exact⟨H3,v,g3,d r (am.mpr ⟨h1,rfl⟩),q⟩,
 fun {c env ρ own H s Q X} R K k y=>by
  obtain⟨H1,b,K1,n⟩:=K.freeze;refine au (h.T R K1 (Q:=fun v=>(cond (gB 20 v) (ok v) bad:Mine.R V) Q X) (fun v z=>k v (kD z).2) y) (fun u s2 ⟨H2,v,g,t,q⟩=>?_) fun Z Z z=>K.xp b n z;obtain⟨H3,g3,_,d⟩:=K.melt b n g;exact⟨H3,v,g3,t,(kD q).2⟩⟩
theorem zL(h:gW x e a):gW x e (.Ka a):=fun {c env ρ own H s Q X} R K y=>by
 obtain⟨H1,b,K1,n⟩:=K.freeze;refine au (h (Q:=fun v=>dD v (fun l=>(cond (l.all (gB 20)) (ok (.Jq l)) bad:Mine.R V) (fun v=>dD v (fun l=>Q (.Jq l)) X) X) X) R K1 y) (fun u s2 ⟨H2,m,a,items,k,g,e,n',h',t,r,len,q⟩=>?_) fun Z Z z=>K.xp b n z;obtain⟨H3,g3,d1,d⟩:=K.melt b n g;obtain⟨h1,q⟩:=kD q;exact⟨H3,m,a,items,k,g3,e,n',d1 a h',t,d r h1,len,q⟩
theorem k9.J6{c:Ctx}{n vs us H s}{Q:V→Prop}{X:Prop}(R:k9 c)(hn:n∈mr.map (·.2))(S:St c H s)(r:bz c.P H vs us)(z:c.F n (.obj n []::vs) (fun p=>ty p Q X) X):wpAny c.M c.A (PySem.call (.ref (iF n)) us) (NP c H s Q) (XP c no H s X) s:=
 au (R.K9 hn S r z) (fun u s' ⟨own,H',v,g,w,uq,o,q⟩=>by
  obtain⟨H2,g2,b,d,_⟩:=g.pick S (fun a=>∃k,own a=some (1,k)) fun a ⟨k,e⟩=>(w a k e).2;exact⟨H2,v,g2,o.JV b fun a o k e q=>d a o q ⟨k,e⟩,q⟩) fun Z Z z=>z
end
section
variable{M:Model}{A:Around}{E:Value→Shared→Prop}{s:Shared}{env:PySem.Env}
theorem iX{f:Value}{es:List Expr}{Q:Args→Shared→Prop}(h:wpAny M A (spliced (es.map fun e=>(false,eval e env))) (fun vs s'=>Q ⟨vs,[]⟩ s') E s):
  wpAny M A (evalArgs f true (es.map fun e=>(false,eval e env)) []) Q E s:=by
 unfold evalArgs;cases es with
 |nil=>
  show wpAny M A (spliced []>>=_) Q E s;refine av (au h (fun vs s' h'=>?_) fun Z Z x=>x);exact bN (av (aI (av (aI (aI h')))))
 |cons e es=>
  show wpAny M A (spliced ((false,eval e env)::es.map fun e=>(false,eval e env))>>=_) Q E s;refine av (au h (fun vs s' h'=>?_) fun Z Z x=>x);exact bN (av (aI (av (aI (aI h')))))
theorem lq(es:List Expr):(es.map fun e=>(false,eval e env)).any (·.1)=false:=by
 induction es with
 |nil=>rfl
 |cons e es ih=>exact ih
theorem i9{K:Frag}{f:Value}{first:List Value}{es:List Expr}{pos:Pos}{Q:Value→Shared→Prop}(hs:es.all ba=true)(hk:keepIn K f=true)
  (h:wpAny M A (spliced (es.map fun e=>(false,eval e env))) (fun vs s1=>K.In s1.heap∧wpAny M A (call f (first++vs)) Q E s1) E s):wpAny M A (callWith pos f first (backTo pos (starEach es env)) []) Q E s:=by
 rw[fz hs];exact callWith_of (by rw[lq];rfl) (keeps_K hk) (iX h)
noncomputable def tX(v:Value):Prop:=(∃i,v=.builtin i)∨∃T,v=.type T
theorem jA{prog:Program}{w:World}{v:Value}{es:List Expr}{pos:Pos}{R:Value→Shared→Prop}(hv:tX v)(hs:es.all ba=true)(h:wpAny (model prog w) A (spliced (es.map fun e=>(false,eval e env))) (fun vs s1=>wpAny (model prog w) A (call v vs) R E s1) E s):
  wpAny (model prog w) A (callWith pos v [] (backTo pos (starEach es env)) []) R E s:=by
 rw[fz hs];rcases hv with⟨i,rfl⟩|⟨T,rfl⟩
 ·exact Calls.callWith_builtin (lq es) (iX h)
 ·exact PyProof.Rows.callWith_type (lq es) (iX h)
theorem yx{e:Expr}(h:ba e=true):[e].all ba=true:=am.mpr ⟨h,rfl⟩
theorem FJ{e e2:Expr}(h:ba e=true)(h2:ba e2=true):[e,e2].all ba=true:=am.mpr ⟨h,yx h2⟩
variable{x:Cx}{c:Ctx}{ρ:Env}{own:ez}{H H' H0 H1 H2 h:Heap}{s' s0 s1:Shared}{Q Q1:V→Prop}{X:Prop}{T:Value→Shared→Prop}
variable{e e2 e3:Expr}{a b a3:CE}{p p' p2 p3 p4 ap:Pos}{k kd i:Nat}{es:List Expr}{xs:CE}{v:V}{u:Value}
inductive mc:U→Str→Value→Prop
 |len:mc .len "len" (.builtin "len") | Js:mc .JE "tuple" (.type "tuple") | max:mc .max "max" (.builtin "max") | min:mc .min "min" (.builtin "min") | range:mc .range "range" (.type "range")
inductive m5:U→Str→Value→Prop
 |Jq:m5 .JF "list" (.type "list") | JW:m5 .JW "sorted" (.builtin "sorted")
inductive sQ:B→Str→Value→Prop
 |range:sQ .J5 "range" (.type "range") | max:sQ .Kw "max" (.builtin "max")
theorem FV{o:U}{f:Str}{y:Value}{v1:V}{u1:Value}(h:mc o f y)(O:A.handled=none)(g:Mv c no H0 s0 H s)(S0:St c H0 s0)(r:du c.P H v1 u1)(q:l6 o v1 Q X):wpAny c.M A (call y [u1]) (NP c H0 s0 Q) E s:=by
 induction h with
 |len=>exact Fr g r q
 |Js=>exact vN g S0 r q
 |max=>exact Gy g O r q
 |min=>exact Ge g O r q
 |range=>exact AO g S0 r q
theorem BQ{o:U}{f:Str}{y:Value}{v1:V}{u1:Value}(h:m5 o f y)(O:A.handled=none)(g:Mv c no H0 s0 H s)(r:du c.P H v1 u1)(q:l6 o v1 (fun v=>dD v (fun l=>Q (.Jq l)) X) X):wpAny c.M A (call y [u1]) (NL c H0 s0 Q) E s:=by
 induction h with
 |Jq=>exact vL g O r q
 |JW=>exact vW g r q
theorem Ag{f:Str}{o:U}{y:Value}(h1:mc o f y)(hv:tX y)(hn:(f,y)∈hY)(hx:ml x f)(hs:ba e=true)(h:aN x e a):aN x (.Call (.Name f p') [e] [] p) (.un o a):=
 jj.plain (fun R K z=>cC (k7 K.nk K.st hx (R.gk.KE _ hn) (jA hv (yx hs) (b4 (bx (.refl K.st) (h.E R K z) fun Z Z Z Z g1 Z r1 z=>
  cF (FV h1 R.o.hh g1 K.st r1 z)))))) fun Z Z=>rfl
theorem xV{f:Str}{o:U}{y:Value}(h1:m5 o f y)(hv:tX y)(hn:(f,y)∈hY)(hx:ml x f)(hs:ba e=true)(h:aN x e a):gW x (.Call (.Name f p') [e] [] p) (.un o a):=fun R K z=>
 cC (k7 K.nk K.st hx (R.gk.KE _ hn) (jA hv (yx hs) (b4 (bx (.refl K.st) (h.E R K z) fun Z Z Z Z g1 Z r1 z=>
  cF (BQ h1 R.o.hh g1 r1 z)))))
theorem FW{o:B}{f:Str}{y:Value}{v1 v2:V}{u1 u2:Value}(h:sQ o f y)(O:A.handled=none)(g:Mv c no H0 s0 H s)(S0:St c H0 s0)(r1:du c.P H v1 u1)(r2:du c.P H v2 u2)(q:eP o v1 v2 Q X):wpAny c.M A (call y [u1,u2]) (NP c H0 s0 Q) E s:=by
 induction h with
 |range=>exact wT g S0 r1 r2 q
 |max=>exact D1 g O r1 r2 q
theorem AR{f:Str}{o:B}{y:Value}(h1:sQ o f y)(hv:tX y)(hn:(f,y)∈hY)(hx:ml x f)(hs:ba e=true)(hs2:ba e2=true)(h:aN x e a)(h2:aN x e2 b):
  aN x (.Call (.Name f p') [e,e2] [] p) (.h o a b):=
 jj.plain (fun R K z=>cC (k7 K.nk K.st hx (R.gk.KE _ hn) (jA hv (FJ hs hs2) (b4 (bx (.refl K.st) (h.E R K z) fun Z Z Z Z g1 Z r1 z=>
  b4 (bx g1 (h2.E R (K.mv g1) z) fun Z Z Z Z g2 b r2 z=>cF (FW h1 R.o.hh g2 K.st (r1.mono b) r2 z))))))) fun Z Z=>rfl
theorem oM.np{n:Nat}(S:St c H s)(z:oM n c H s Q u s'):NP c H s Q u s':=by
 unfold oM at z;cases h:ir n with
 |true=>rw[h]at z;exact NP.of S z
 |false=>rw[h]at z;exact z
theorem sI{n:Nat}(g:Mv c no H0 s0 H s)(z:oM n c H s Q u s'):oM n c H0 s0 Q u s':=by
 unfold oM at z ⊢;cases h:ir n with
 |true=>
  rw[h]at z;obtain⟨H',m,a,items,k,g',e,n,h',t,r,len,q⟩:=(z:NL c H s Q u s');exact⟨H',m,a,items,k,g.trans g',e,g.off n,h',t,r,len,q⟩
 |false=>
  rw[h]at z;obtain⟨H',v,g',r,q⟩:=(z:NP c H s Q u s');exact⟨H',v,g.trans g',r,q⟩
theorem sC{f:String}{n:Nat}(hf:(f,n,fe n)∈ka)(hx:ml x (Str.ofString f))(hi:pV n=true)(hs:es.all ba=true)(h:lh x es xs)(R:k9 c)(K:gK x c env ρ own H s)(y:aY c.F xs ρ (fun w=>jl w (fun l=>c.F n l (fun p=>Q p.1) X) X) X):
  wpAny c.M c.A (eval (.Call (.Name (Str.ofString f) p') es [] p) env) (oM n c H s Q) (XP c no H s X) s:=
 cC (jy K.nk K.st hx (R.gk.fns _ hf).1 (i9 hs (R.gk.fns _ hf).2 (au (h R K y) (fun us s2 ⟨H2,vs,g2,r2,Z1,z⟩=>
  ⟨g2.st.inK,au (R.call hi g2.st r2 z) (fun Z Z z=>sI g2 z) fun Z Z z=>g2.xp z⟩) fun Z Z z=>z)))
theorem CV{f:String}{n:Nat}(hf:(f,n,fe n)∈ka)(hx:ml x (Str.ofString f))(hi:pV n=true)(hs:es.all ba=true)(h:lh x es xs):aN x (.Call (.Name (Str.ofString f) p') es [] p) (.call n xs):=
 jj.plain (fun R K y=>au (sC hf hx hi hs h R K y) (fun Z Z z=>z.np K.st) fun Z Z z=>z) fun Z Z=>rfl
theorem zY{f:String}{n:Nat}(hf:(f,n,fe n)∈ka)(hx:ml x (Str.ofString f))(hi:pV n=true)(ho:ir n=true)(hs:es.all ba=true)(h:lh x es xs):gW x (.Call (.Name (Str.ofString f) p') es [] p) (.call n xs):=fun {c env ρ own H s Q X} R K y=>by
 refine au (sC (Q:=fun v=>dD v (fun l=>Q (.Jq l)) X) (p:=p) (p':=p') hf hx hi hs h R K y) (fun u s2 z=>?_) fun Z Z z=>z;unfold oM at z;rw[ho]at z;obtain⟨H',m,a,items,k,g',e,n,h',t,r,len,q⟩:=(z:NL c H s _ u s2);exact⟨H',m,a,items,k,g',e,n,h',t,r,len,q⟩
theorem Do{f:String}{n:Nat}(hf:(Str.ofString f,n)∈mr)(hx:ml x (Str.ofString f))(hs:es.all ba=true)(h:lh x es xs):aN x (.Call (.Name (Str.ofString f) p') es [] p) (.J6 n xs):=
 jj.plain (fun R K y=>have q:=R.gk.cls _ hf
  cC (jy K.nk K.st hx q.1 (i9 hs q.2 (au (h R K y) (fun us s2 ⟨H2,vs,g2,r2,Z1,z⟩=>
   ⟨g2.st.inK,ex g2 (R.J6 (bV hf) g2.st r2 z)⟩) fun Z Z z=>z)))) fun Z Z=>rfl
theorem ph{n:Int}(h:n=0∨n=1):("p":Str).length+(Str.ofString (toString n)).length≤sizeLine∧n.natAbs.log2<1920:=by
 rw[sizeLine_eq];rcases h with rfl|rfl<;>exact⟨(ae rfl),(ae rfl)⟩
theorem CY{q1:Str}(hs1:q1="p")(hx:ml x "str")(hs:ba e=true)(h:aN x e a):aN x (.BinOp (.Constant (.str q1) k p2) .Add (.Call (.Name "str" p') [e] [] p3) p) (.un .Ke a):=
 jj.plain (fun {c env ρ own H s Q X} R K y=>wpAny_BinOp (dq (by
  have g0:Mv c no H s H { s with toks:=s.toks+1 }:=(Mv.refl K.st).toks;refine cC (k7 K.nk g0.st hx (R.gk.KE ("str",.type "str") (by unfold hY;simp)) (jA (.inr ⟨_,rfl⟩) (yx hs) (b4 (bx g0 (h.E R (K.mv g0) y) fun u s1 H1 v g1 Z r1 z=>cF ?_))));obtain⟨n,rfl,z⟩:=db z;obtain⟨t,rfl⟩:=r1.Ju;subst hs1;exact PySem.P.str_of_int (ph (bh z).1).2 (PyProof.Rows.add_str (fun t' tk'=>g1.JU (.Jv .nil) (bh z).2) (ph (bh z).1).1)))) fun Z Z=>rfl
end
section
theorem lx:fillsNumberSlot (.type "tuple") "mul"=pure false:=PySem.fillsNumberSlot_seq (id:="tuple.__mul__") (r:=some (.builtin "tuple.__rmul__")) PySem.F.slot_tuple_mul.lookup (by decide+kernel) PySem.F.slot_tuple_rmul.lookup (by decide+kernel)
theorem qi:seqRepeat? (.type "tuple")=pure (some (.builtin "tuple.__mul__")):=by
 unfold seqRepeat?;rw[PySem.seqSlot_of (T:="tuple") (name:="__mul__") (id:="tuple.__mul__") PySem.F.slot_tuple_mul.lookup (by decide+kernel),PySem.seqSlot_of (T:="tuple") (name:="__rmul__") (id:="tuple.__rmul__") PySem.F.slot_tuple_rmul.lookup (by decide+kernel)];rfl
theorem z4(a:Int)(t:Tok)(l:Addr)(items:Array Value):
  Meets (Builtin.«int.__rmul__» ⟨[.int a t,.ref l],[]⟩) (fun Z R s=>s.heap.get? l=some { cls:=.type "tuple",data:=.seq items }∧R (.ok (.ret Value.notImplemented)) s):=
 .of_wp fun prog w A R s h=>by obtain⟨hp,g,d,tk,os⟩:=s;obtain⟨hl,h⟩:=h;wp_walk;exact⟨_,rfl,h⟩
noncomputable def Kp(s s':Shared):Prop:=∃h tk,s'={ s with heap:=h,toks:=tk }∧∀b o,s.heap.get? b=some o→h.get? b=some o
theorem BW(l:Addr)(x:Value)(k:Nat)(hk:k≤2)(u:Tok):
  Meets (Builtin.«tuple.__mul__» ⟨[.ref l,.int k u],[]⟩) (fun Z R s=>s.heap.get? l=some { cls:=.type "tuple",data:=.seq #[x] }∧∀v s',Kp s s'→R (.ok (.ret v)) s'):=
 .of_wp fun prog w A R s h=>by
  obtain⟨hp,g,d,tk,os⟩:=s;obtain⟨hl,h⟩:=h
  match k,hk with
  |0,_ | 2,_=>wp_walk;exact⟨_,rfl,h _ _ ⟨_,_,rfl,fun Z Z e=>aH _ e⟩⟩
  |1,_=>wp_walk;exact⟨_,rfl,h _ _ ⟨_,_,rfl,fun Z Z e=>e⟩⟩
variable{x:Cx}{c:Ctx}{A:Around}{env:PySem.Env}{ρ:Env}{own:ez}{H H' H0 H1 H2 h:Heap}{s s' s0 s1:Shared}{Q Q1:V→Prop}{X:Prop}{T E:Value→Shared→Prop}
variable{e e2 e3:Expr}{a b a3:CE}{p p' p2 p3 p4 ap:Pos}{k kd i:Nat}{es:List Expr}{xs:CE}{v:V}{u:Value}
theorem Ey{l:Addr}{y:Value}{k:Nat}{t:Tok}(hl:s.heap.get? l=some { cls:=.type "tuple",data:=.seq #[y] })(hk:k≤2)(q:∀v s',Kp s s'→T v s'):wpAny c.M A (binaryOp .Mult (.ref l) (.int k t)) T E s:=
 wpAny_binaryOp_repeat_ref (T:="tuple") (U:="int") (by decide) ⟨_,hl,rfl⟩ (fun s'=>typeIs_int s' k t) lx F.fills_int_mul F.slot_int_rmul qi F.slot_int_index.lookup
  (call_meets F.slot_int_rmul (typeIs_int s k t) F.entry_int_rmul (F.args_int_rmul_2 _ _) (z4 k t l #[y]) ⟨hl,rfl,⟨_,hl,rfl⟩,
   call_meets F.slot_tuple_mul ⟨_,hl,rfl⟩ F.entry_tuple_mul (F.args_tuple_mul_2 _ _) (BW l y k hk t) ⟨hl,q⟩⟩)
theorem xj{i:Int}(h:aN x e a):aN x (.BinOp (.Tuple [.Constant (.int i) kd p4] k p2) .Mult e p) (.un .JX a):=
 jj.plain (fun {c env ρ own H s Q X} R K y=>wpAny_BinOp (wpAny_Tuple (b4 (wpAny_Constant_int (pos:=p4) (k:=kd) (cF ⟨by show 1≤_;rw[sizeLine_eq];decide,by
  obtain⟨H1,g0,_,d⟩:=(Mv.refl K.st).Kx (tk:=s.toks+1) K.st fun Z Z e=>aH { cls:=.type "tuple",data:=.seq #[.int i s.toks] } e;have ht:=d _ _ cK (cf _ rfl);refine bx g0 (h.E R (K.mv g0) y) fun u s1 H2 v g1 b r1 z=>?_
  obtain⟨n,rfl,z⟩:=db z;obtain⟨t,rfl⟩:=r1.Ju;obtain⟨n,rfl⟩:=Int.eq_ofNat_of_zero_le (bh z).1.1;exact Ey (g1.st.stays _ _ (b _ _ ht)) (bC.mp (bh z).1.2) fun v s' ⟨h',tk,e,kp⟩=>e▸(g1.keeps kp).np (.Jv .nil) (bh z).2⟩))))) fun Z Z=>rfl
theorem AD:aN x (.Dict [] [] p) .Kn:=jj.plain (fun {c env ρ own H s Q X} R K y=>by
 rw[eval_Dict_empty];exact av (cQ (wpAny_newObj_type (((Mv.refl K.st).keeps (tk:=s.toks) fun Z Z e=>aH _ e).np (.Jv .nil) y)))) fun Z Z=>rfl
theorem m7{name:Str}{id:String}{trees:List (Bool×Sem Value)}{cc:Addr}{items:Array Value}{n:Nat}(hl:IsL s.heap cc items n)(slot:Slot "list" name id)(hty:typeOf (.builtin id)=pure (.type "method_descriptor"))
  (h:wpAny c.M A (callWith p (.builtin id) [.ref cc] trees []) T E s):MethodOn c.prog c.w A name p (.ref cc) trees T E s:=
 ⟨"list",id,F.plainAttrs_list,slot,hty,hl.isList.typeIs,fun a e=>by cases e;exact⟨_,hl,rfl⟩,h⟩
theorem zS{e:Expr}(hs:ba e=true):backTo p (starEach [e] env)=[(false,eval e env)]:=fz (yx hs)
theorem AT(hl:(ap.endLine==p.line)=true)(hb:fN e=true)(hs:ba e2=true)(h:aN x e a)(h2:aN x e2 b):aN x (.Call (.Attribute e "index" ap) [e2] [] p) (.idx a b):=
 jj.plain (fun {c env ρ own H s Q X} R K y=>wpAny_Call_method1_late (ik hb) hl (zS hs) (bx (.refl K.st) (h.E R K y) fun u s1 H1 v g1 Z r1 y=>by
  obtain⟨m,rfl,z⟩:=fD y;obtain⟨cc,items,n,rfl,hm,t,r⟩:=r1.Ju;exact m7 (g1.st.stays _ _ t) F.slot_list_index F.type_list_index (AH (X:=X) g1 t r hm (bx g1 (h2.E R (K.mv g1) z) fun u2 s2 H2 v2 g2 b2 r2 y=>⟨H2,v2,g2,b2,r2,y⟩)))) fun Z Z=>rfl
theorem De{trees:List (Bool×Sem Value)}{dd:Addr}{es:Array DictEntry}{n:Nat}(X:c.K.In s.heap)(hl:c.K.lookup dd=some ⟨.type "dict",none,.dict es n,#[]⟩)
  (h:wpAny c.M A (callWith p (.builtin "dict.get") [.ref dd] trees []) T E s):MethodOn c.prog c.w A "get" p (.ref dd) trees T E s:=
 ⟨"dict","dict.get",F.plainAttrs_dict,F.slot_dict_get,F.type_dict_get,⟨_,X _ _ hl,rfl⟩,fun a e=>by cases e;exact⟨_,X _ _ hl,rfl⟩,h⟩
theorem FO{i:Int}(hl:(ap.endLine==p.line)=true)(hx:ml x "OP_SORT")(hs:ba e=true)(h:aN x e a):aN x (.Call (.Attribute (.Name "OP_SORT" p2) "get" ap) [e,.UnaryOp .USub (.Constant (.int i) kd p3) p4] [] p) (.un .JG a):=
 jj.plain (fun {c env ρ own H s Q X} R K y=>wpAny_Call_method2_late (ik rfl) hl (fz (FJ hs rfl)) (jy K.nk K.st hx R.gk.K7 (by
  obtain⟨es,n,e1,_,_⟩:=R.gk.tab.K7;exact De K.st.inK e1 (yO R.gk.tab.K7 (bx (.refl K.st) (h.E R K y) fun u1 s2 H2 v g1 Z r1 y=>UnaryOp_ (wpAny_Constant_int (PyProof.Rows.neg_int ⟨H2,v,g1.toks,r1,y⟩))))))) fun Z Z=>rfl
theorem s9{M:Model}{a:Addr}{o:PySem.Obj}{name:Str}{R:Option Value→Shared→Prop}(ho:s.heap.get? a=some o)(hl:lookIn name o=some none)(q:R none s):wpAny M A (nsGet a name) R E s:=by
 unfold nsGet;refine av (wpAny_loadPart ho ?_);rw[nsLook_of hl];exact aI q
theorem nQ{K:Frag}{M:Model}{x C f dx:Addr}{ox od:PySem.Obj}{name:Str}{pl:Sem Bool}{R:Value×List Value→Shared→Prop}(X:K.In s.heap)(ho:s.heap.get? x=some ox)(hc:ox.cls=.ref C)(hd:ox.dict=some dx)(hdx:s.heap.get? dx=some od)
  (hl:lookIn name od=some none) (hga:findIn K (.ref C) "__getattribute__"=some (some (.builtin "object.__getattribute__"))) (hng:findIn K (.ref C) "__getattr__"=some none) (hf:findIn K (.ref C) name=some (some (.ref f)))
  (ht:typeIn K (.ref f)=some (.type "function")) (q:R (.ref f,[.ref x]) s):wpAny M A (getMethod (.ref x) name pl) R E s:=by
 have L0:Looks M s.heap (typeOf (.ref x)) (.ref C):=hc▸(Looks.ld ho).andThen .now;unfold getMethod specialOf;refine av (av (L0.here ((looks_findIn X hga).here ?_)));dsimp only;rw[show(Manifest.canonical "object.__getattribute__" !="object.__getattribute__")=false from by decide+kernel,aC b6];refine av (av (L0.here ((looks_findIn X hng).here ?_)));rw[aC (by exact b6)];refine av (av (L0.here ((looks_findIn X hf).here ?_)));dsimp only;refine av ((looks_typeIn X ht).here ?_);rw[aC (by decide)];refine av (wpAny_loadPart ho ?_);rw[hd];refine av (s9 hdx hl ?_);rw[aC (by exact b6)];exact av (wpAny_rule (aI q))
theorem qb{M:Model}{o:Expr}{name:Str}{es:List Expr}(hbase:fN o=true)(hline:(ap.endLine==p.line)=true)
  (hfew:((backTo p (starEach es env)).all (fun x=>!x.1)&&(backToKw p (keywordEach [] env)).all (fun x=>x.1.isSome)
   &&decide (es.length+([]:List Keyword).length+(if([]:List Keyword).isEmpty then 0 else 1)<30))=true)
  (h:wpAny M A (eval o env) (fun ov s1=>∀pl,wpAny M A (getMethod ov name pl) (fun fx s2=>wpAny M A (callWith p fx.1 fx.2 (backTo p (starEach es env)) []) T E s2) E s1) E s):
  wpAny M A (eval (.Call (.Attribute o name ap) es [] p) env) T E s:=by
 rw[arm_eval_Call,ik hbase];refine av (au h (fun ov s1 h1=>av (cQ ?_)) fun Z Z z=>z);have hform:methodCallForm (es.length+([]:List Keyword).length) (backTo p (starEach es env)) (backToKw p (keywordEach [] env))=true:=hfew;have hpos:methodCallPos true o env ap p=pure p:=by unfold methodCallPos;simp[hline]
 unfold methodCall;rw[hform];exact av (bN (au (h1 _) (fun fx s2 h2=>av (wpAny_of_eq hpos h2)) fun Z Z z=>z))
theorem pa(k:Nat):∃z∈""::qC,a5 57 k=Str.ofString z:=by
 refine⟨qC.getD k "",?_,rfl⟩;rw[List.getD_eq_getElem?_getD];cases h:qC[k]? with
 |none=>exact .head _
 |some z=>exact .tail _ (ay h)
theorem yC{m:Str→Option Value}{fs:List (Nat×V)}(gg:∀y u,m y=some u→∃k∈fs.map (·.1),y=a5 57 k){y:Str}(hy:y∈pL.map (·.1)):m y=none:=by
 cases h:m y with
 |none=>rfl
 |some u=>
  obtain⟨k,_,e⟩:=gg y u h;obtain⟨z,hz,e'⟩:=pa k;have d:∀y∈pL.map (·.1),∀z∈""::qC,y≠Str.ofString z:=by decide+kernel
  exact absurd (e.trans e') (d y hy z hz)
theorem AE{nm:String}{n:Nat}(hm:(Str.ofString nm,n,fe n)∈pL)(hi:pV n=true)(hs:es.all ba=true)(hn:es.length<20)(hb:fN e=true)(hl:(ap.endLine==p.line)=true)(h:aN x e a)(h2:lh x es xs):
  aN x (.Call (.Attribute e (Str.ofString nm) ap) es [] p) (.Kb n a xs):=
 jj.plain (fun {c env ρ own H s Q X} R K y=>qb hb hl (by
   rw[fz hs];have e1:(es.map fun e=>(false,eval e env)).all (fun x=>!x.1)=true:=by rw[List.all_map];exact List.all_eq_true.mpr fun Z Z=>rfl
   rw[e1];exact ak (show es.length+0+0<30 by omega)) (bx (.refl K.st) (h.E R K y) fun u s1 H1 v g1 Z r1 y pl=>by
  obtain⟨cc,fs,rfl,z⟩:=gX y;obtain⟨hc,z⟩:=bh z;obtain⟨xa,us,m,rfl,o,r,hm',gg⟩:=r1.Ju
  replace hc:cc=57:=hc
  subst hc;obtain⟨dx,od,o1,o2,o3⟩:=o.Ku (by decide);refine nQ g1.st.inK ((g1.st.stays) _ _ o1) rfl rfl ((g1.st.stays) _ _ o2) ((o3 _).trans (aj some (yC gg (bV hm)))) R.gk.hga R.gk.Lf (R.gk.KZ _ hm).1 (R.gk.KZ _ hm).2.2 ?_
  refine i9 hs (R.gk.KZ _ hm).2.1 (au (h2 (Q:=fun l=>c.F n (.obj 57 fs::l) (fun p=>Q p.1) X) R (K.mv g1) z) (fun us s2 ⟨H2,vs,g2,r2,Z1,z⟩=>?_) fun Z Z z=>g1.xp z);exact⟨g2.st.inK,au (R.call hi g2.st (.cons (r1.mono g2.base) r2) z) (fun Z Z z=>(sI (g1.trans g2) z).np K.st) fun Z Z z=>(g1.trans g2).xp z⟩)) fun Z Z=>rfl
end
section
inductive jx(h:Heap)(I:Addr)(i:Nat):V→Value→Prop
 |Jq {m a}:h.IsListIter I a i→jx h I i (.Jq m) (.ref a)
 |Js {m a}:IsTupIter h I a i→jx h I i (.Js m) (.ref a)
 |rng {lo hi u}:IsRangeIter h I (lo+(i:Int)) (((hi - lo).toNat:Int) - (i:Int)) 1→jx h I i (.rng lo hi) u
variable{c:Ctx}{A:Around}{H H' H0 H1 h h':Heap}{s s' s0 s1:Shared}{X:Prop}{E:Value→Shared→Prop}{v:V}{u:Value}{m:List V}{I:Addr}{i:Nat}{pr:List Addr}{tk:Nat}
theorem jx.keep(x:jx h I i v u)(k:∀o,h.get? I=some o→h'.get? I=some o):jx h' I i v u:=by
 induction x with
 |Jq x=>obtain⟨o,e,r⟩:=x;exact .Jq ⟨o,k o e,r⟩
 |Js x=>obtain⟨o,e,r⟩:=x;exact .Js ⟨o,k o e,r⟩
 |rng x=>exact .rng (k _ x)
theorem Mv.priv{ch:Addr→Prop}(g:Mv c ch H0 s0 H s)(S0:St c H0 s0)(hp:∀b∈pr,s0.heap.get? b=none∧H.get? b=none)(k:∀b o,b∉pr→s.heap.get? b=some o→h'.get? b=some o):Mv c ch H0 s0 H { s with heap:=h',toks:=tk }:=
 ⟨⟨g.st.gf,fun b o e=>k b o (fun q=>by rw[(hp b q).2]at e;cases e) (g.st.stays b o e),jd g.st.ff (fun Z q=>(g.st.frOld q).1) fun b o e q=>⟨o.slots,k b o (fun z=>(S0.frOld q).2 (hp b z).1) e⟩⟩,
  let⟨_,_,q⟩:=g.eq;⟨h',tk,by rw[q]⟩,g.base,fun b o e n=>by
   have nb:b∉pr:=fun z=>by rw[(hp b z).1]at e;cases e
   obtain⟨x1,sl,x2⟩:=g.keep b o e n;exact⟨fun q=>k b o nb (x1 q),sl,k b _ nb x2⟩,g.JM⟩
theorem Mv.cell(g:Mv c no H0 s0 H s)(S0:St c H0 s0){s2:Shared}{H2:Heap}(g2:Mv c no H s H2 s2){b:Addr}{o:PySem.Obj}(n:s0.heap.get? b=none)(e:s.heap.get? b=some o)(nH:H.get? b=none):s2.heap.get? b=some o∧H2.get? b=none:=
 ⟨(g2.keep b o e fun z=>z).1 fun q=>(S0.frOld q).2 n,g2.JM b (by rw[e];exact(by intro h;cases h)) (fun z=>z) nH⟩
theorem pB{T:Value→Shared→Prop}(S:St c H s)(r:du c.P H v u)(hs:jB v=some m)(q:∀o,jx (s.heap.push o) s.heap.objs.size 0 v u→T (.ref s.heap.objs.size) { s with heap:=s.heap.push o }):wpAny c.M A (pyIter u) T E s:=by
 cases v with
 |Js l=>obtain⟨a,items,rfl,n,t,r⟩:=r.Ju;exact iter_tuple (eO S t) (q _ (.Js ⟨_,cf _ rfl,rfl,rfl⟩))
 |Jq l=>obtain⟨a,items,k,rfl,n,t,r⟩:=r.Ju;exact wpAny_pyIter_list (dJ (S.stays _ _ t)) (q _ (.Jq ⟨_,cf _ rfl,rfl,rfl⟩))
 |rng lo hi=>
  obtain⟨a,t,t',t'',rfl,hr,hl⟩:=r.Ju;refine wpAny_pyIter_range (S.stays _ _ hr) (pH hl) (q _ (.rng ?_));rw[rJ];show IsRangeIter _ _ (_+((0:Nat):Int)) (_ - ((0:Nat):Int)) 1;rw[Int.natCast_zero,Int.add_zero,Int.sub_zero];exact cf _ rfl
 |_=>cases hs
theorem pP{T:Option Value→Shared→Prop}(S:St c H s)(r:du c.P H v u)(hs:jB v=some m)(hI:jx s.heap I i v u){x:V}(e:m[i]? =some x)
  (q:∀y h' tk,Heap.SameBut I s.heap h'→jx h' I (i+1) v u→du c.P H x y→T (some y) { s with heap:=h',toks:=tk }):wpAny c.M A (pyNext (.ref I)) T E s:=by
 induction hI with
 |Js hit=>
  obtain rfl:=ah (hs);obtain⟨a,items,e',n,t,r⟩:=r.Ju;cases e';obtain⟨y,ey,ry⟩:=r.get e;exact next_tuple_item hit (eO S t) (by rw[←cP];exact ey) fun h' hit' k=>q y h' s.toks k (.Js hit') ry
 |Jq hit=>
  obtain rfl:=ah (hs);obtain⟨a,items,k,e',n,t,r⟩:=r.Ju;cases e';obtain⟨y,ey,ry⟩:=r.get e;exact wpAny_pyNext_list_item hit (dJ (S.stays _ _ t)) (by rw[←cP];exact ey) fun h' hit' k=>q y h' s.toks k (.Jq hit') ry
 | @rng lo hi u hit=>
  obtain rfl:=ah (hs);unfold wb at e;rw[aV]at e;obtain⟨j,e7,rfl⟩:=bY.mp e;obtain⟨h1,rfl⟩:=ag.mp e7;rw[List.getElem_range]at q;rw[aO]at h1;refine wpAny_pyNext_range_item hit (by omega) fun h' hit' k=>q _ h' _ k (.rng ?_) iD;rw[show lo+((i+1:Nat):Int)=lo+(i:Int)+1 by omega,show(((hi - lo).toNat:Nat):Int) - ((i+1:Nat):Int)=(((hi - lo).toNat:Nat):Int) - (i:Int) - 1 by omega];exact hit'
theorem rt{T:Option Value→Shared→Prop}(hh:A.handled=none)(S:St c H s)(r:du c.P H v u)(hs:jB v=some m)(hI:jx s.heap I i v u)(e:m.length≤i)
  (q:∀h',(∀b o,b≠I→s.heap.get? b=some o→h'.get? b=some o)→T none { s with heap:=h' }):wpAny c.M A (pyNext (.ref I)) T E s:=by
 induction hI with
 |Js hit=>
  obtain rfl:=ah (hs);obtain⟨a,items,e',n,t,r⟩:=r.Ju;cases e';exact next_tuple_end hh hit (eO S t) (Array.getElem?_eq_none (by rw[r.size];exact e)) fun h' k=>q h' k
 |Jq hit=>
  obtain rfl:=ah (hs);obtain⟨a,items,k,e',n,t,r⟩:=r.Ju;cases e';exact wpAny_pyNext_list_end hh hit (dJ (S.stays _ _ t)) (Array.getElem?_eq_none (by rw[r.size];exact e)) fun h' k=>q h' k
 |rng hit=>
  obtain rfl:=ah (hs);rw[kP]at e;exact wpAny_pyNext_range_end hh hit (by omega) fun h' k=>q h' k
theorem wq{T:Value→Shared→Prop}(hI:jx s.heap I i v u)(q:T (.ref I) s):wpAny c.M A (pyIter (.ref I)) T E s:=by
 induction hI with
 |Jq hit=>exact wpAny_pyIter_listiter hit q
 |Js hit=>exact wpAny_pyIter_tupleiter hit q
 |rng hit=>exact wpAny_pyIter_rangeiter hit q
end
section
noncomputable def clo(cells:List (Str×Addr)):List (Str×NameKind)→List (Str×Addr)→List (Str×Addr)
 | [],acc=>acc
 |x::r,acc=>clo cells r (if x.2==.free then(x.1,(cells.lookup x.1).getD 0)::acc else acc)
theorem oJ{scope:Scope}{env:PySem.Env}(h:∀y∈scope.names,y.2=.free→(env.cells.lookup y.1).isSome=true):closureFor scope env=pure (clo env.cells scope.names []):=by
 unfold closureFor
 have key:∀(l:List (Str×NameKind))(acc:List (Str×Addr)),(∀y∈l,y.2=.free→(env.cells.lookup y.1).isSome=true)→
   (forIn l acc fun(x:Str×NameKind)(r:List (Str×Addr))=>(if(x.2==NameKind.free)=true then(do let a ←cellOf env x.1;pure (ForInStep.yield ((x.1,a)::r)))else pure (ForInStep.yield r):Sem _))=pure (clo env.cells l acc):=by
  intro l;induction l with
  |nil=>intro acc _;rfl
  |cons x l ih=>
   intro acc hl;rw[List.forIn_cons];unfold clo;by_cases hx:x.2=.free
   ·obtain⟨a,ha⟩:=cr.mp (hl x (.head _) hx);rw[aB (by rw[hx];rfl),aB (by rw[hx];rfl),ha];unfold cellOf;rw[ha,←ih _ fun y hy=>hl y (.tail _ hy)];rfl
   ·have hb:(x.2==NameKind.free)=false:=by simpa using hx
    rw[aC (by rw[hb];exact b6),aC (by rw[hb];exact b6),←ih _ fun y hy=>hl y (.tail _ hy)];rfl
 have:=key scope.names [] h;exact(aj (·>>=fun cs=>pure cs) this)
theorem kG{cells:List (Str×Addr)}{y:Str}:∀{l:List (Str×NameKind)}{acc:List (Str×Addr)},(∀z∈l,z.2=.free→(cells.lookup z.1).isSome=true)→(∀a,acc.lookup y=some a→cells.lookup y=some a)→
  ∀a,(clo cells l acc).lookup y=some a→cells.lookup y=some a
 | [],_,_,h,a,e=>h a e
 |x::l,acc,hl,h,a,e=>by
  unfold clo at e;refine kG (fun z hz=>hl z (.tail _ hz)) (fun b eb=>?_) a e;split at eb
  ·rename_i hx;obtain⟨q,hq⟩:=cr.mp (hl x (.head _) (by simpa using hx));rw[hq,cD]at eb;split at eb
   ·rename_i hy;rw[beq_iff_eq.mp hy,hq];exact eb
   ·exact h b eb
  ·exact h b eb
theorem uF{cells:List (Str×Addr)}{y:Str}:∀{l:List (Str×NameKind)}{acc:List (Str×Addr)},((y,NameKind.free)∈l∨(acc.lookup y).isSome=true)→((clo cells l acc).lookup y).isSome=true
 | [],acc,h=>h.elim (fun q=>((by cases q))) id
 |x::l,acc,h=>by
  unfold clo;refine uF (h.elim (fun q=>?_) fun q=>?_)
  ·rcases az.mp q with rfl|q
   ·right;simp
   ·exact .inl q
  ·right;split
   ·rw[cD];split
    ·rfl
    ·exact q
   ·exact q
structure eX(x x':Cx)(scope:Scope)(y:Str)(i:Nat):Prop where
 nm:x'.nm=x.nm
 kd:x'.kd=scope.names
 fk:scope.kind=.function
 nocell:∀y∈scope.names,y.2≠.cell
 loc:∀z∈scope.names,z.2=.local→(z.1=y∨z.1∉x.nm)∧scope.names.lookup z.1=some .local
 look:scope.names.lookup y=some .local
 slot:x.nm[i]? =some y
 free:∀y∈scope.names,y.2=.free→x.kd.lookup y.1=some .cell∧y.1∈x.nm
theorem tT{l:List Str}{i j:Nat}{y:Str}(n:l.Nodup)(hi:l[i]? =some y)(hj:l[j]? =some y):i=j:=by
 obtain⟨a1,b1⟩:=ag.mp hi;obtain⟨a2,b2⟩:=ag.mp hj;have p:=dm.mp n;rcases Nat.lt_trichotomy i j with q|q|q
 ·exact absurd (b1.trans b2.symm) (p i j a1 a2 q)
 ·exact q
 ·exact absurd (b2.trans b1.symm) (p j i a2 a1 q)
theorem gh{ρ:Env}{i j:Nat}{o v:Option (Bool×V)}(e:(ρ.set i o)[j]? =some v):(i=j∧v=o)∨(i≠j∧ρ[j]? =some v):=by
 by_cases h:i=j
 ·subst h;obtain⟨h1,h2⟩:=ag.mp e;rw[List.getElem_set_self]at h2;exact .inl ⟨rfl,h2.symm⟩
 ·rw[dF h]at e;exact .inr ⟨h,e⟩
variable{x x':Cx}{env:PySem.Env}{R:Nat→Bool×V→Value→Prop}{h h':Heap}{ρ:Env}{scope:Scope}{y:Str}{i:Nat}
theorem tF{l:List (Str×NameKind)}{f:Str→NameKind→Bool}{y:Str}{k:NameKind}(h:l.lookup y=some k)(hf:k=.free→f y k=true)(hn:k≠.free→f y k=false):
  (l.map fun(n,k)=>if f n k then(n,NameKind.cell)else(n,k)).lookup y=some (if k=.free then .cell else k):=by
 induction l with
 |nil=>cases h
 |cons p l ih=>
  obtain⟨n,q⟩:=p;rw[cZ];rw[cD]at h;split at h
  ·rename_i hy;have hy':=beq_iff_eq.mp hy;subst hy';cases h;by_cases hk:k=.free
   ·show List.lookup y ((if f y k=true then(y,NameKind.cell)else(y,k))::_)=_;rw[aB (hf hk),aB hk,cD,beq_self_eq_true]
   ·show List.lookup y ((if f y k=true then(y,NameKind.cell)else(y,k))::_)=_;rw[aC (by rw[hn hk];exact b6),aC hk,cD,beq_self_eq_true]
  ·rename_i hy
   have e1:∀z:Str×NameKind,z.1=n→List.lookup y (z::(l.map fun(n,k)=>if f n k then(n,NameKind.cell)else(n,k)))=List.lookup y (l.map fun(n,k)=>if f n k then(n,NameKind.cell)else(n,k)):=fun z hz=>by
    obtain⟨z1,z2⟩:=z;dsimp only at hz;subst hz;rw[cD,hy]
   show List.lookup y ((if f n q=true then(n,NameKind.cell)else(n,q))::_)=_;rw[e1 _ (by split<;>rfl)];exact ih h
theorem i0(V:gN x env R h ρ)(O:eX x x' scope y i):∀y∈scope.names,y.2=.free→(env.cells.lookup y.1).isSome=true:=fun y hy hk=>by
 obtain⟨h1,h2⟩:=O.free y hy hk;obtain⟨j,hj⟩:=List.getElem?_of_mem h2;obtain⟨a,w,e,_⟩:=V.cell j y.1 _ hj h1 (.inl rfl);rw[e];rfl
theorem vP{C:Addr}(N:jU x env)(V:gN x env R h ρ)(O:eX x x' scope y i):jU x' (compEnvC scope (clo env.cells scope.names []) C env):=by
 have lk:∀y a,(clo env.cells scope.names []).lookup y=some a→env.cells.lookup y=some a:=fun y a e=>kG (i0 V O) (fun Z q=>absurd q (by simp)) a e;refine⟨O.fk,N.gl,N.bl,fun y z a e1 e2=>N.inj y z a (lk y a e1) (lk z a e2),fun y k hk=>?_,by rw[O.nm];exact N.nd⟩;rw[O.kd]at hk;refine tF (f:=fun n k=>k==.free&&env.scope.kind==.function&&env.kindOf n==some .cell) hk (fun hf=>?_) fun hn=>?_
 ·subst hf;rw[N.fk,(N.kinds y _ (O.free _ (mem_of_lookup hk) rfl).1)];rfl
 ·have:(k==NameKind.free)=false:=by simpa using hn
  rw[this];rfl
theorem we{C:Addr}{mm:Str→Option Value}{R':Nat→Bool×V→Value→Prop}(N:jU x env)(V:gN x env R h ρ)(O:eX x x' scope y i)(hn:h'.Ns C mm)(k:∀b o,h.get? b=some o→h'.get? b=some o)(r:∀i v u,R i v u→R' i v u):
  gN x' (compEnvC scope (clo env.cells scope.names []) C env) R' h' (ρ.set i none):=by
 refine⟨⟨mm,hn,fun j z v hj hy e=>?_⟩,fun j z kk hj hy hkk=>?_⟩
 ·rw[O.kd]at hy;rw[O.nm]at hj;rcases(O.loc _ (mem_of_lookup hy) rfl).1 with h|hnn
  ·replace h:z=y:=h
   subst h;rcases gh e with⟨_,e6⟩|⟨hne,_⟩
   ·cases e6
   ·exact absurd (tT N.nd O.slot hj) hne
  ·exact absurd (ay hj) hnn
 ·rw[O.kd]at hy;have hm:=mem_of_lookup hy;have hf:kk=.free:=hkk.elim (fun q=>absurd q (O.nocell _ hm)) id;subst hf;rw[O.nm]at hj;obtain⟨a,w,e1,⟨o,e4,e5⟩,e6⟩:=V.cell j z _ hj (O.free _ hm rfl).1 (.inl rfl);obtain⟨b,eb⟩:=cr.mp (uF (cells:=env.cells) (acc:=[]) (.inl hm));have q:=kG (i0 V O) (fun Z q=>absurd q (by simp)) b eb;rw[e1]at q;obtain rfl:=ah (q);refine⟨a,w,eb,⟨o,k _ _ e4,e5⟩,fun v e=>?_⟩;rcases gh e with⟨h1,e7⟩|⟨_,e7⟩
  ·cases e7
  ·obtain⟨u,e',f⟩:=e6 v e7;exact⟨u,e',r _ _ _ f⟩
end
section
variable{x x':Cx}{c:Ctx}{A:Around}{env cenv:PySem.Env}{ρ:Env}{own:ez}{H H' H0 H1 H2 h h':Heap}{s s' s0 s1:Shared}{Q:V→Prop}{X:Prop}{E:Value→Shared→Prop}
variable{i slot:Nat}{v:V}{u:Value}{m:List V}{y:Str}{I D C:Addr}{tk:Nat}{Rl:Nat→Bool×V→Value→Prop}{p:Bool×V}
theorem gN.Kz(vv:gN x env Rl h ρ){a:Addr}(k:Heap.SameBut a h h')(hl:env.locals≠a)(hc:eT x env (·≠a)){R':Nat→Bool×V→Value→Prop}(r:∀i v u,Rl i v u→R' i v u):gN x env R' h' ρ:=
 vv.keep (fr:=[]) (ch:=(·=a)) (.of fun b o e n=>(k.2 b n).trans e) hl hc r
theorem sy{T:Unit→Shared→Prop}{R':Heap→Nat→Bool×V→Value→Prop}(N:jU x env)(vv:gN x env Rl s.heap ρ)(hc:eT x env (·≠env.locals))
  (hi:x.nm[i]? =some y) (hk:x.kd.lookup y=some .local) (f:∀h',Heap.SameBut env.locals s.heap h'→R' h' i p u∧∀j v u,i≠j→Rl j v u→R' h' j v u)
  (q:∀h',Heap.SameBut env.locals s.heap h'→gN x env (R' h') h' (ρ.set i (some p))→T () { s with heap:=h',toks:=s.toks+1 }):wpAny c.M A (storeName env y u) T E s:=by
 obtain⟨⟨m,hn,hm⟩,cl⟩:=vv;refine wpAny_storeName_local (N.kinds y _ hk) hn (fun h' n' k'=>q h' k' ⟨⟨_,n',fun j z w hj hz e=>?_⟩,fun j z kk hj hz hkk=>?_⟩) (by rw[N.fk];rfl)
 ·rcases gh e with⟨rfl,e6⟩|⟨hne,e6⟩
  ·obtain rfl:=ah (e6);rw[hi]at hj;obtain rfl:=ah (hj);exact⟨u,aB rfl,(f h' k').1⟩
  ·obtain⟨u',e',r'⟩:=hm j z w hj hz e6;exact⟨u',(aC (show ¬z=y from fun q=>hne (tT N.nd hi (q▸hj)))).trans e',(f h' k').2 _ _ _ hne r'⟩
 ·obtain⟨a,w,e1,⟨o,e4,e4'⟩,e5⟩:=cl j z kk hj hz hkk;refine⟨a,w,e1,⟨o,(k'.2 a (hc j z kk a hj hz hkk e1)).trans e4,e4'⟩,fun v' e=>?_⟩;rcases gh e with⟨rfl,e⟩|⟨hne,e⟩
  ·rw[hi]at hj;obtain rfl:=ah (hj);rw[hk]at hz;obtain rfl:=ah (hz);rcases hkk with h|h<;>cases h
  ·obtain⟨u',e',r'⟩:=e5 v' e;exact⟨u',e',(f h' k').2 _ _ _ hne r'⟩
theorem sr{items:Array Value}{n:Nat}{y:Value}{T:Value→Shared→Prop}(hl:IsL s.heap D items n)(hz:items.size≤lim+1)(q:T .none { s with heap:=s.heap.update D (Obj.mapSeq (·.push y)) }):
  wpAny c.M A (call (.builtin "list.append") [.ref D,y]) T E s:=by
 refine wpAny_call_entry slot_list_append hl.isList.typeIs entry_list_append ?_ (args_list_append _ _)
 show wpAny _ _ (updateSeq D (·.push y)>>=fun Z=>ret .none) _ _ s;exact av (wpAny_updateSeq hl rfl (aI ⟨.none,rfl,q⟩) (f9 hz) (by rw[Array.size_push];exact bQ (f9 hz)))
variable{ifs:List Expr}{elt iter t:Expr}{a b it:CE}
noncomputable abbrev mN(ifs:List Expr)(cenv:PySem.Env):Sem Bool:=forIn ifs true fun c r=>if r=true then do let ok ←isTrue c cenv (eval c cenv);pure (ForInStep.yield ok)else pure (ForInStep.yield r)
noncomputable def n7(x':Cx)(ifs:List Expr)(elt:Expr)(slot:Nat)(step:FT→Env→V→R (Option V)):Prop:=
 ∀{c:Ctx}{cenv ρ own H s xv T},k9 c→gK x' c cenv (ρ.set slot (some (false,xv))) own H s→step c.F ρ xv T False→
  wpAny c.M c.A (mN ifs cenv) (fun ok s'=>∃H',Mv c no H s H' s'∧if ok=true then wpAny c.M c.A (eval elt cenv) (NP c H' s' fun v=>T (some v)) (fun Z Z=>False) s' else T none) (fun Z Z=>False) s
theorem XP.false{ch:Addr→Prop}{e:Value}(z:XP c ch H s False e s'):False:=by obtain⟨_,_,_,_,q,_,_⟩:=z;exact q
theorem kz(h:aN x' elt a):n7 x' [] elt slot fun F ρ v=>bc (aY F a (ρ.set slot (some (false,v)))) fun u=>ok (some u):=fun {c cenv ρ own H s xv T} R K z=>by
 unfold mN;rw[List.forIn_nil];refine aI ⟨H,.refl K.st,?_⟩;rw[aB rfl];exact au (h.E R K (Q:=fun u=>T (some u)) z) (fun Z Z z=>z) fun Z Z z=>z.false
theorem uE(h:aN x' elt a)(ht:aN x' t b):n7 x' [t] elt slot fun F ρ v=>bc (aY F b (ρ.set slot (some (false,v)))) fun x=>bc (da x) fun t=>cond t (bc (aY F a (ρ.set slot (some (false,v)))) fun u=>ok (some u)) (ok none):=fun {c cenv ρ own H s xv T} R K z=>by
 unfold mN;rw[List.forIn_cons,aB rfl];refine av (av (au (ht.T R K (Q:=fun x=>da x (fun t=>(cond t (bc (aY c.F a (ρ.set slot (some (false,xv)))) fun u=>ok (some u)) (ok none):Mine.R (Option V)) T False) False) (fun v z=>ib z) z) (fun b s2 ⟨H2,v,g,e,q⟩=>aI ?_) fun Z Z z=>z.false));show wpAny _ _ (forIn ([]:List Expr) b _) _ _ _;rw[List.forIn_nil];refine aI ⟨H2,g,?_⟩;obtain⟨b',e',q⟩:=ig q;rw[e]at e';obtain rfl:=ah (e');cases b with
 |true=>rw[aB rfl];exact au (h.E R (K.mv g) (Q:=fun u=>T (some u)) q) (fun Z Z z=>z) fun Z Z z=>z.false
 |false=>exact q
inductive yt(x':Cx)(c:Ctx)(cenv:PySem.Env)(own:ez)(H1:Heap)(s1:Shared)(I D C:Addr)(v:V)(u:Value)(m:List V)(ρ:Env)(slot:Nat)(step:V→Mine.R (Option V))(Q:List V→Prop)(i:Nat)(s:Shared):Prop
 |mk (H:Heap) (acc:List V) (items:Array Value) (n:Nat) (o:Option (Bool×V)) (g:Mv c no H1 s1 H s) (hI:jx s.heap I i v u) (hD:IsL s.heap D items n) (r:bz c.P H acc items.toList) (al:acc.length≤i) (V:gN x' cenv (RS c own H s.heap) s.heap (ρ.set slot o))
  (nI:H.get? I=none) (nD:H.get? D=none) (nC:H.get? C=none) (w:o8 step (m.drop i) (fun r=>Q (acc++r)) False) (hi:i≤m.length)
theorem vQ{RR:Result→Shared→Prop}{Qf:List V→Prop}{scope:Scope}{q px:Pos}{step:V→Mine.R (Option V)}(hh:A.handled=none)(S1:St c H1 s1)(N:jU x' cenv)(hloc:cenv.locals=C)(hy:x'.nm[slot]? =some y)(hk:x'.kd.lookup y=some .local)
  (cl:eT x' cenv fun a=>s1.heap.get? a≠none) (dis:I≠D∧I≠C∧D≠C) (h1:s1.heap.get? I=none∧s1.heap.get? D=none∧s1.heap.get? C=none) (hlen:m.length≤lim) (r1:du c.P H1 v u) (hs:jB v=some m) (W1:dw c own H1 s1)
  (tests:∀{H s xv T},gK x' c cenv (ρ.set slot (some (false,xv))) own H s→step xv T False→
   wpAny c.M A (mN ifs cenv) (fun ok s'=>∃H',Mv c no H s H' s'∧if ok=true then wpAny c.M A (eval elt cenv) (NP c H' s' fun v=>T (some v)) (fun Z Z=>False) s' else T none) (fun Z Z=>False) s)
  (fin:∀{H r s items n},Mv c no H1 s1 H s→IsL s.heap D items n→bz c.P H r items.toList→r.length≤lim→H.get? D=none→H.get? C=none→(∃mm,s.heap.Ns C mm)→Qf r→RR (.ok .next) s)
  (L:yt x' c cenv own H1 s1 I D C v u m ρ slot step Qf 0 s):
  codeAny c.M A (.compLoop (.ListComp elt [⟨.Name y px,iter,ifs,0⟩] scope q) 0 (.ref I) (.ref D) cenv) RR s:=by
 have ci:∀{b},s1.heap.get? b=none→eT x' cenv (·≠b):=fun e i y k a h1 h2 h3 h4 z=>cl i y k a h1 h2 h3 h4 (z▸e);refine codeAny_compLoop_tests (fun k s=>∃i,k=m.length+1 - i∧yt x' c cenv own H1 s1 I D C v u m ρ slot step Qf i s) ?_ (m.length+1) ⟨0,rfl,L⟩
 rintro k s ⟨i,rfl,⟨H,acc,items,n,o,g,hI,hD,r,al,V,nI,nD,nC,W,hi⟩⟩;by_cases hlt:i<m.length
 ·rw[List.drop_eq_getElem_cons hlt]at W;refine pP g.st (r1.mono g.base) hs hI (dz hlt) fun y2 h2 tk k2 I2 ry=>?_
  have g2:Mv c no H1 s1 H { s with heap:=h2,toks:=tk }:=g.priv (pr:=[I]) S1 (fun b q=>aq.mp q▸⟨h1.1,nI⟩) fun b o q e=>(k2.2 b fun z=>q (z▸.head _)).trans e;have own2:∀{G:Heap}{a:Addr}{h h':Heap},Heap.SameBut a h h'→s1.heap.get? a=none→∀i v u,RS c own G h i v u→RS c own G h' i v u:=fun {G a h h'} k e i v u f=>f.mono (fun Z Z e=>e) fun b Z q1=>⟨q1,fun o q2=>(k.2 b fun z=>(W1.off b i _ q1).at_.elim fun Z w=>by rw[z,e]at w;cases w.1).trans q2⟩;have V2:=V.Kz k2 (hloc▸Ne.symm dis.2.1) (ci h1.1) (own2 k2 h1.1);have D2:IsL h2 D items n:=(k2.2 D (Ne.symm dis.1)).trans hD;refine wpAny_assign_Name (sy (c:=c) (p:=(false,m[i])) (R':=fun h=>RS c own H h) N V2 (hloc▸ci h1.2.2) hy hk (fun h3 k3=>⟨ry,fun j v u Z=>own2 k3 (hloc▸h1.2.2) j v u⟩) fun h3 k3 V3=>?_);rw[List.set_set]at V3;rw[hloc]at k3;have g3:Mv c no H1 s1 H { s with heap:=h3,toks:=tk+1 }:=g2.priv (pr:=[C]) S1 (fun b q=>aq.mp q▸⟨h1.2.2,nC⟩) fun b o q e=>(k3.2 b fun z=>q (z▸.head _)).trans e;have D3:IsL h3 D items n:=(k3.2 D dis.2.2).trans D2;have I3:jx h3 I (i+1) v u:=I2.keep fun o e=>(k3.2 I dis.2.1).trans e;have K3:gK x' c cenv (ρ.set slot (some (false,m[i]))) own H { s with heap:=h3,toks:=tk+1 }:=⟨N,g3.st,V3,W1.mv g3⟩;have C3:∃o,h3.get? C=some o:=let⟨_,⟨o,_,_,e,_⟩,_⟩:=V3.ns;⟨o,hloc▸e⟩
  have I3':∃o,h3.get? I=some o:=by
   induction I3 with
   |Jq x=>exact⟨_,x.choose_spec.1⟩
   |Js x=>exact⟨_,x.choose_spec.1⟩
   |rng x=>exact⟨_,x⟩
  refine au (tests (T:=fun o=>o8 step (m.drop (i+1)) (fun r=>Qf (acc++A7 o r)) False) K3 W) (fun ok s4 z=>?_) fun Z Z z=>z.elim;obtain⟨H4,g4,z⟩:=z
  have again:∀{s5 H5 acc' items' n'},Mv c no H { s with heap:=h3,toks:=tk+1 } H5 s5→IsL s5.heap D items' n'→bz c.P H5 acc' items'.toList→acc'.length≤i+1→o8 step (m.drop (i+1)) (fun r=>Qf (acc'++r)) False→yt x' c cenv own H1 s1 I D C v u m ρ slot step Qf (i+1) s5:=fun {s5 H5 acc' items' n'} g5 D5 r5 l5 w5=>
   ⟨H5,acc',items',n',_,g3.trans g5,I3.keep fun o e=>(g3.cell S1 g5 h1.1 e nI).1,D5,r5,l5,(K3.mv g5).vs,let⟨_,e⟩:=I3';(g3.cell S1 g5 h1.1 e nI).2,(g3.cell S1 g5 h1.2.1 D3 nD).2,let⟨_,e⟩:=C3;(g3.cell S1 g5 h1.2.2 e nC).2,w5,hlt⟩
  cases ok with
  |false=>
   rw[aC b6]at z ⊢;exact⟨_,by omega,i+1,rfl,again g4 (g3.cell S1 g4 h1.2.1 D3 nD).1 (r.mono g4.base) (cy al) z⟩
  |true=>
   rw[aB rfl]at z ⊢;refine au z (fun y5 s5 ⟨H5,v5,g5,r5,z⟩=>?_) fun Z Z z=>z.elim;have g35:=g4.trans g5;have D5:=(g3.cell S1 g35 h1.2.1 D3 nD).1;have r':=r.mono g35.base;refine sr D5 (by have:=r'.size;omega) ?_
   have k6:Heap.SameBut D s5.heap (s5.heap.update D (Obj.mapSeq (·.push y5))):=cu ..;have g6:Mv c no H1 s1 H5 { s5 with heap:=s5.heap.update D (Obj.mapSeq (·.push y5)),toks:=s5.toks }:=(g3.trans g35).priv (pr:=[D]) S1 (fun b q=>aq.mp q▸⟨h1.2.1,(g3.cell S1 g35 h1.2.1 D3 nD).2⟩) fun b o q e=>(k6.2 b fun z=>q (z▸.head _)).trans e;obtain⟨oI,eI⟩:=I3';obtain⟨oC,eC⟩:=C3;refine⟨_,by omega,i+1,rfl,⟨H5,acc++[v5],_,_,_,g6,I3.keep fun o e=>(k6.2 I dis.1).trans (g3.cell S1 g35 h1.1 e nI).1,IsL.update D5 _,?_,by rw[ai];exact bQ al,((K3.mv g35).vs).Kz k6 (hloc▸Ne.symm dis.2.2) (ci h1.2.1) (own2 k6 h1.2.1),(g3.cell S1 g35 h1.1 eI nI).2,(g3.cell S1 g35 h1.2.1 D3 nD).2,(g3.cell S1 g35 h1.2.2 eC nC).2,?_,hlt⟩⟩
   ·rw[Array.toList_push];exact r'.append r5
   ·simp only[aJ];exact z
 ·have hi':i=m.length:=by omega
  subst hi';rw[List.drop_length]at W
  replace W:Qf (acc++[]):=W
  rw[aK]at W;refine rt hh g.st (r1.mono g.base) hs hI (aM _) fun h2 k2=>?_
  have g2:Mv c no H1 s1 H { s with heap:=h2,toks:=s.toks }:=g.priv (pr:=[I]) S1 (fun b q=>aq.mp q▸⟨h1.1,nI⟩) fun b o q e=>k2 b o (fun z=>q (z▸.head _)) e;refine fin g2 (k2 D _ (Ne.symm dis.1) hD) r (aa al hlen) nD nC ?_ W
  obtain⟨mm,⟨o,es,ep,e,rr⟩,_⟩:=V.ns;rw[hloc]at e;exact⟨mm,o,es,ep,k2 C _ (Ne.symm dis.2.1) e,rr⟩
noncomputable def fy:Expr→Bool | .Set ..=>false | _=>true
theorem lF{e:Expr}{env:PySem.Env}(h:fy e=true)(x:Value):foldedSetIterable e env x=pure x:=by
 cases e<;>first | rfl | cases h
end
section
variable{x x':Cx}{c:Ctx}{A:Around}{env cenv:PySem.Env}{ρ:Env}{own:ez}{H H' H0 H1 H2 h h':Heap}{s s' s0 s1:Shared}{Q:V→Prop}{X:Prop}{E:Value→Shared→Prop}
variable{i slot:Nat}{v:V}{u:Value}{m:List V}{y:Str}{I D C:Addr}{tk:Nat}{p:Bool×V}{ifs:List Expr}{elt iter t:Expr}{a b it:CE}{scope:Scope}{px q:Pos}
inductive qY(c:Ctx)(H:Heap)(s:Shared)(Q:V→Prop)(D C:Addr)(s2:Shared):Prop
 |mk (H':Heap) (m:List V) (items:Array Value) (k:Nat) (g:Mv c no H s H' s2) (n:s.heap.get? D=none) (h:H'.get? D=none) (t:IsL s2.heap D items k) (r:bz c.P H' m items.toList) (len:m.length≤lim+1) (q:Q (.Jq m)) (hn:∃mm,s2.heap.Ns C mm) (nC:s.heap.get? C=none) (hC:H'.get? C=none) (ne:C≠D)
theorem qY.nl{D C:Addr}(S:St c H s){s2:Shared}(z:qY c H s Q D C s2)(k:Heap.SameBut C s2.heap h'):NL c H s Q (.ref D) { s2 with heap:=h',toks:=s2.toks }:=by
 obtain⟨H',m,items,n,g,nD,hD,t,r,len,q,_,nC,hC,ne⟩:=z;exact⟨H',m,D,items,n,g.priv (pr:=[C]) S (fun b z=>aq.mp z▸⟨nC,hC⟩) (fun b o z e=>(k.2 b fun w=>z (w▸.head _)).trans e),rfl,nD,hD,(k.2 D (Ne.symm ne)).trans t,r,len,q⟩
theorem pi{use:Option (Value→Sem Unit)}{T:Value→Shared→Prop}{step:FT→Env→V→Mine.R (Option V)}{pos:Pos}(O:eX x x' scope y i)(hi:aN x iter it)(hst:n7 x' ifs elt i step)(R:k9 c)(K:gK x c env ρ own H s)
  (hsf:∀x,foldedSetIterable iter env x=pure x) (hx:aY c.F it ρ (fun sv=>j9 sv (fun l=>iff (l.length≤lim) (bc (qd (o8 (step c.F ρ) l)) fun r=>ok (V.Jq r)) Q X) X) X)
  (hend:∀D C s2,qY c H s Q D C s2→compPost c.M c.A (XP c no H s X) use T (.ref D) C (.ok .next) s2):
  wpAny c.M c.A (comprehension (.ListComp elt [⟨.Name y px,iter,ifs,0⟩] scope q) scope env pos (newList []) false (eval iter env) use) T (XP c no H s X) s:=by
 refine wpAny_comprehension_free (use:=use) rfl hsf (oJ (i0 K.vs O)) O.fk (fun y hy hl=>(O.loc y hy hl).2) (bx (.refl K.st) (hi.E R K hx) fun u1 s1 H1 v g1 Z r1 W=>?_);obtain⟨m,hm,W⟩:=d4 W;obtain⟨hlen,W⟩:=bh W;have K1:=K.mv g1;refine pB g1.st r1 hm fun o hI=>?_
 refine wpAny_newObj_type (wpAny_newFunctionEnv O.nocell (by intro y hy;cases hy) (fun h₁ hns₁ hsb₁=>?_) O.fk);dsimp only at hns₁ hsb₁ ⊢;generalize hH2:(s1.heap.push o).push { cls:=.type "list",dict:=none,data:=.seq ([]:List Value).toArray }=H2 at hns₁ hsb₁ ⊢;have zD:(s1.heap.push o).objs.size=s1.heap.objs.size+1:=Heap.size_push ..;have zC:H2.objs.size=s1.heap.objs.size+2:=by rw[←hH2,Heap.size_push,zD]
 have old1:∀b o',(s1.heap.push o).get? b=some o'→h₁.get? b=some o':=fun b o' e=>by
  have hb:b<(s1.heap.push o).objs.size:=dS e;exact hsb₁.extBut b o' (fun q=>by rw[q,zC,zD]at hb;exact aZ _ (Nat.lt_of_succ_lt hb)) (aH _ (hH2▸aH _ e))
 have k:∀b o',s1.heap.get? b=some o'→h₁.get? b=some o':=fun b o' e=>old1 b o' (aH _ e);have nD:s1.heap.get? (s1.heap.push o).objs.size=none:=zD▸gb 1;have nC:s1.heap.get? H2.objs.size=none:=by rw[zC];exact gb 2
 have hCD:H2.objs.size≠(s1.heap.push o).objs.size:=by rw[zC,zD];exact Nat.succ_ne_self _
 have hDI:s1.heap.objs.size≠(s1.heap.push o).objs.size:=by rw[zD];exact Ne.symm (Nat.succ_ne_self _)
 have hCI:s1.heap.objs.size≠H2.objs.size:=by rw[zC];exact cG (Nat.lt_add_of_pos_right (by decide))
 have DL:IsL h₁ (s1.heap.push o).objs.size #[] 0:=hsb₁.extBut _ _ (Ne.symm hCD) (aH _ (hH2▸cf _ rfl));generalize (s1.heap.push o).objs.size=D at*;generalize H2.objs.size=C at*;have g4:Mv c no H1 s1 H1 { s1 with heap:=h₁,toks:=s1.toks+([]:List (Str×Value)).length }:=(Mv.refl g1.st).keeps k
 have cl:eT x' (compEnvC scope (clo env.cells scope.names []) C env) fun a=>s1.heap.get? a≠none:=fun j z kk a h1 h2 h3 h4 e=>by
  rw[O.kd]at h2;have hm:=mem_of_lookup h2;have hf:kk=.free:=h3.elim (fun q=>absurd q (O.nocell _ hm)) id;subst hf;rw[O.nm]at h1;obtain⟨a',w,e1,⟨o,e4,_⟩,_⟩:=K1.vs.cell j z _ h1 (O.free _ hm rfl).1 (.inl rfl);have q:=kG (i0 K1.vs O) (fun Z q=>absurd q (by simp)) a h4;rw[e1]at q;obtain rfl:=ah (q);rw[e]at e4;cases e4
 have loop:∀s₃:Shared,s₃={ s1 with heap:=h₁,toks:=s1.toks+([]:List (Str×Value)).length }→
   codeAny c.M c.A (.compLoop (.ListComp elt [⟨.Name y px,iter,ifs,0⟩] scope q) 0 (.ref s1.heap.objs.size) (.ref D) (compEnvC scope (clo env.cells scope.names []) C env))
    (compPost c.M c.A (XP c no H s X) use T (.ref D) C) s₃:=by
  rintro s₃ rfl
  refine vQ (own:=own) (m:=m) (v:=v) (u:=u1) (ρ:=ρ) (slot:=i) (step:=step c.F ρ) (Qf:=fun r=>Q (V.Jq r)) R.o.hh g1.st (vP K1.nk K1.vs O) rfl (by rw[O.nm];exact O.slot) (O.kd▸O.look) cl ⟨hDI,hCI,Ne.symm hCD⟩ ⟨cK,nD,nC⟩ hlen r1 hm K1.ow (fun K z=>hst R K z) ?_
   ⟨H1,[],#[],0,none,g4,hI.keep fun o e=>old1 _ o e,DL,.nil,aM _,(we (C:=C) (R':=RS c own H1 h₁) K1.nk K1.vs O hns₁ k fun i q u f=>f.mono (fun Z Z e=>e) fun a Z q=>⟨q,fun o e=>k a o e⟩),g1.st.off cK,g1.st.off nD,g1.st.off nC,W,aQ _⟩
  intro H' r s' items n g hl rr hr nHD nHC hn q;exact hend _ _ _ ⟨H',r,items,n,g1.trans g,g1.off nD,nHD,hl,rr,cy hr,q,hn,g1.off nC,nHC,hCD⟩
 exact codeAny_compStart_list (loop _ rfl) (wq (c:=c) (s:={ s1 with heap:=h₁,toks:=s1.toks+([]:List (Str×Value)).length }) (hI.keep fun o e=>old1 _ o e) (loop _ rfl))
noncomputable def lL(x:Cx)(e:Expr)(a:CE):Prop:=∀{c:Ctx}{env ρ own H s Q X},k9 c→gK x c env ρ own H s→aY c.F a ρ Q X→wpAny c.M c.A (eval e env) (NL c H s Q) (XP c no H s X) s
theorem lL.n{e:Expr}(h:lL x e a):gW x e a:=fun R K z=>au (h R K z) (by rintro u s' ⟨H',m,a,items,k,g',e,n,h',t,r,len,q⟩;exact⟨H',m,a,items,k,g',e,n,h',t,r,len,q⟩) fun Z Z z=>z
theorem lL.e{e:Expr}(h:lL x e a):jj x e a:=fun R K z=>au (h R K z) (fun Z Z z=>NP.of K.st z) fun Z Z z=>z
theorem xn{step:FT→Env→V→Mine.R (Option V)}(O:eX x x' scope y i)(hs:fy iter=true)(hi:aN x iter it)(hst:n7 x' ifs elt i step)(ha:∀F ρ,aY F a ρ=bc (aY F it ρ) fun s=>bc (j9 s) fun l=>iff (l.length≤lim) (bc (qd (o8 (step F ρ) l)) fun r=>ok (V.Jq r))):
  lL x (.ListComp elt [⟨.Name y px,iter,ifs,0⟩] scope q) a:=fun {c env ρ own H s Q X} R K z=>by
 rw[eval_ListComp];rw[ha]at z;exact pi (use:=none) O hi hst R K (lF hs) z fun D C s2 z=>let⟨mm,hn⟩:∃mm,s2.heap.Ns C mm:=(by obtain⟨_,_,_,_,_,_,_,_,_,_,_,hn,_⟩:=z;exact hn);⟨mm,hn,fun h' e=>z.nl K.st e⟩
theorem xD(O:eX x x' scope y i)(hs:fy iter=true)(hi:aN x iter it)(h:aN x' elt a):lL x (.ListComp elt [⟨.Name y px,iter,[],0⟩] scope q) (.comp a i it):=xn O hs hi (kz h) fun Z Z=>rfl
theorem yk(O:eX x x' scope y i)(hs:fy iter=true)(hi:aN x iter it)(h:aN x' elt a)(ht:aN x' t b):lL x (.ListComp elt [⟨.Name y px,iter,[t],0⟩] scope q) (.Jz a i it b):=xn O hs hi (uE h ht) fun Z Z=>rfl
end
section
noncomputable abbrev ch(own:ez):Addr→Prop:=fun a=>own a≠none
structure cJ(x:Cx)(c:Ctx)(env:PySem.Env)(ρ:Env)(own:ez)(H:Heap)(s:Shared):Prop extends gK x c env ρ own H s where
 loc:own env.locals=some (0,0)
 cel:eT x env fun a=>own a=some (0,0)∧a≠env.locals
structure Gs(x:Cx)(c:Ctx)(own:ez)(H:Heap)(s:Shared)(own':ez)(H':Heap)(s':Shared):Prop where
 mv:Mv c (ch own) H s H' s'
 ow:∀a,s.heap.get? a≠none→own a=none→own' a=none
 io:∀i a,i∈x.io→own a=some (i+1,0)→own' a=some (i+1,0)
inductive ro(x:Cx)(c:Ctx)(own:ez)(H:Heap)(s:Shared):Flow→PySem.Flow→Prop
 |nxt:ro x c own H s .nxt .next
 |cont:ro x c own H s .cont .cont
 |ret {v u}:x.own=false→du c.P H v u→ro x c own H s (.ret v) (.ret u)
 |Kd {m a items n i}:x.own=true→own a=some (i+1,0)→m.length≤lim+1→IsL s.heap a items n→bz c.P H m items.toList→H.get? a=none→ro x c own H s (.ret (.Jq m)) (.ret (.ref a))
inductive SP(x:Cx)(c:Ctx)(env:PySem.Env)(own:ez)(H:Heap)(s:Shared)(Q:Flow×Env→Prop)(fl:PySem.Flow)(s':Shared):Prop
 |mk (own':ez) (H':Heap) (ρ':Env) (f:Flow) (g:Gs x c own H s own' H' s') (K:cJ x c env ρ' own' H' s') (r:ro x c own' H' s' f fl) (q:Q (f,ρ'))
noncomputable def cx(x:Cx)(st:Stmt)(b:CS):Prop:=∀{c:Ctx}{env ρ own H s Q X},k9 c→pK c.l env→cJ x c env ρ own H s→bJ c.F x.io b ρ Q X→wpAny c.M c.A (exec st env) (SP x c env own H s Q) (XP c (ch own) H s X) s
noncomputable def fC(x:Cx)(sts:List Stmt)(b:CS):Prop:=∀{c:Ctx}{env ρ own H s Q X},k9 c→pK c.l env→cJ x c env ρ own H s→bJ c.F x.io b ρ Q X→wpAny c.M c.A (execs sts env) (SP x c env own H s Q) (XP c (ch own) H s X) s
variable{x x':Cx}{c:Ctx}{A:Around}{env:PySem.Env}{ρ:Env}{own own' own0:ez}{H H' H0 H1 H2 h h':Heap}{s s' s0 s1:Shared}{Q:Flow×Env→Prop}{X:Prop}{E:Value→Shared→Prop}
variable{e e2 e3:Expr}{a b a3:CE}{p p' p2:Pos}{k kd i:Nat}{v:V}{u:Value}{st:Stmt}{sts els:List Stmt}{bs bt:CS}{m:Sem Value}{T:Value→Shared→Prop}
theorem Mv.Kh{ch ch1:Addr→Prop}(g:Mv c ch H s H1 s1)(g':Mv c ch1 H1 s1 H' s')(k:∀a,s.heap.get? a≠none→¬ch a→¬ch1 a):Mv c ch H s H' s':=
 ⟨g'.st,let⟨h,t,e⟩:=g.eq;let⟨h',t',e'⟩:=g'.eq;⟨h',t',by rw[e',e]⟩,fun b o e=>g'.base b o (g.base b o e),fun b o e n=>
  have n':=k b (by rw[e];exact(by intro h;cases h)) n
  ⟨fun hf=>(g'.keep b o ((g.keep b o e n).1 hf) n').1 hf,let⟨_,e1⟩:=(g.keep b o e n).2;let⟨sl,e2⟩:=(g'.keep b _ e1 n').2;⟨sl,e2⟩⟩,
  fun a h1 h2 h3=>g'.JM a (g.keep.some h1 h2) (k a h1 h2) (g.JM a h1 h2 h3)⟩
theorem Gs.nn(g:Gs x c own H s own' H' s'):∀a,s.heap.get? a≠none→¬ch own a→¬ch own' a:=fun a h n z=>z (g.ow a h (bg n))
theorem Gs.trans{own'':ez}(g:Gs x c own H s own' H1 s1)(g':Gs x c own' H1 s1 own'' H' s'):Gs x c own H s own'' H' s':=
 ⟨g.mv.Kh g'.mv g.nn,fun a h n=>g'.ow a (g.mv.keep.some h fun z=>z n) (g.ow a h n),fun i a h1 h2=>g'.io i a h1 (g.io i a h1 h2)⟩
theorem Mv.gs(g:Mv c no H s H' s'):Gs x c own H s own H' s':=⟨g.JA fun Z z=>z.elim,fun Z Z e=>e,fun Z Z Z e=>e⟩
theorem Gs.refl(S:St c H s):Gs x c own H s own H s:=Mv.gs (.refl S)
theorem cJ.mv(K:cJ x c env ρ own H s)(g:Mv c no H s H' s'):cJ x c env ρ own H' s':=⟨K.togK.mv g,K.loc,K.cel⟩
theorem XP.JA{ch ch':Addr→Prop}{e:Value}(z:XP c ch H s X e s')(k:∀a,ch a→ch' a):XP c ch' H s X e s':=let⟨a,b,d,g,y,e,f⟩:=z;⟨a,b,d,g.JA k,y,e,f⟩
theorem Gs.xp(g:Gs x c own H s own' H1 s1){e:Value}(z:XP c (ch own') H1 s1 X e s'):XP c (ch own) H s X e s':=let⟨a,b,d,g',y,e,f⟩:=z;⟨a,b,d,g.mv.Kh g' g.nn,y,e,f⟩
theorem Gs.sp(g:Gs x c own H s own' H1 s1){fl:PySem.Flow}(z:SP x c env own' H1 s1 Q fl s'):SP x c env own H s Q fl s':=
 let⟨a,b,r,f,g',K,z,q⟩:=z;⟨a,b,r,f,g.trans g',K,z,q⟩
theorem sx{Q1:V→Prop}(h:wpAny c.M A m (NP c H s Q1) (XP c no H s X) s)(k:∀u s' H' v,Mv c no H s H' s'→du c.P H' v u→Q1 v→T u s'):wpAny c.M A m T (XP c (ch own) H s X) s:=
 au h (by rintro u s' ⟨H',v,g',r,q⟩;exact k u s' H' v g' r q) fun Z Z z=>z.JA fun Z z=>z.elim
theorem lG{M:Model}{rest:List Stmt}{T:PySem.Flow→Shared→Prop}(h:wpAny M A (exec st env) (fun f s1=>match f with | .next=>wpAny M A (execs rest env) T E s1 | f=>T f s1) E s):wpAny M A (execs (st::rest) env) T E s:=by
 rw[arm_execs_cons];refine av (au h (fun f s1 h1=>?_) fun Z Z z=>z);cases f<;>first | exact h1 | exact aI h1
theorem A4:fC x [] .k:=fun R ht K y=>aI ⟨_,_,_,_,.refl K.st,K,.nxt,y⟩
theorem FX(h:cx x st bs):fC x [st] bs:=fun R ht K y=>lG (au (h R ht K y) (fun fl Z z=>by
 cases fl<;>first | exact aI z | exact z) fun Z Z z=>z)
theorem Fj(h:cx x st bs)(h2:fC x sts bt):fC x (st::sts) (.seq bs bt):=fun R ht K y=>lG (au (h R ht K y) (fun fl Z ⟨Z1,Z2,ρ1,f,g1,K1,r,z⟩=>by
 induction r with
 |nxt=>exact au (h2 R ht K1 z) (fun Z Z z=>g1.sp z) fun Z Z z=>g1.xp z
 |cont=>exact⟨_,_,ρ1,_,g1,K1,.cont,z⟩
 |ret o r=>exact⟨_,_,ρ1,_,g1,K1,.ret o r,z⟩
 |Kd o w a b d e=>exact⟨_,_,ρ1,_,g1,K1,.Kd o w a b d e,z⟩) fun Z Z z=>z)
theorem EO(h:aN x e a)(h1:fC x sts bs)(h2:fC x els bt):cx x (.If e sts els p) (.p a bs bt):=fun {c env ρ own H s Q X} R ht K y=>
 wpAny_If (au (h.T R K.togK (Q:=fun v=>da v (fun t=>(cond t (bJ c.F x.io bs ρ) (bJ c.F x.io bt ρ):Mine.R (Flow×Env)) Q X) X) (fun v z=>ib z) y) (fun t s1 ⟨H1,v,g1,e,q⟩=>by
  obtain⟨t',e',q⟩:=ig q;rw[e]at e';obtain rfl:=ah (e');cases t with
  |true=>exact au (h1 R ht (K.mv g1) q) (fun Z Z z=>g1.gs.sp z) fun Z Z z=>g1.gs.xp (x:=x) z
  |false=>exact au (h2 R ht (K.mv g1) q) (fun Z Z z=>g1.gs.sp z) fun Z Z z=>g1.gs.xp (x:=x) z) fun Z Z z=>z.JA fun Z z=>z.elim)
theorem Gx(ho:x.own=false)(h:aN x e a):cx x (.Return (some e) p) (.ret a):=fun R ht K y=>wpAny_Return_some (sx (h.E R K.togK y) fun u s1 H1 v g r q=>
 ⟨_,_,_,_,g.gs,K.mv g,.ret ho r,q⟩)
theorem B9:cx x (.Continue p) .cont:=fun R ht K y=>wpAny_Continue ⟨_,_,_,_,.refl K.st,K,.cont,y⟩
noncomputable def e9:Expr→Bool | .ListComp ..=>false | .SetComp ..=>false | .DictComp ..=>false | _=>true
theorem d6{t:Option Expr}{n:Nat}(h:e9 e=true):swapsWith e t n env=pure false:=by
 cases e<;>first | rfl | cases h
end
section
structure lT(x:Cx)(c:Ctx)(i:Nat)(own own':ez)(s0:Shared)(H:Heap)(s:Shared):Prop where
 old:∀a j k,j≠i+1→own a=some (j,k)→own' a=some (j,k)
 ok:dw c own' H s
 ow:∀a,s0.heap.get? a≠none→own a=none→own' a=none
 io:∀j a,j∈x.io→own a=some (j+1,0)→own' a=some (j+1,0)
noncomputable def ez.re(own:ez)(i:Nat)(f:Addr→Option Nat):ez:=fun a=>match f a with
 |some k=>some (i+1,k)
 |none=>match own a with
  |some (j,k)=>if j=i+1 then none else some (j,k)
  |none=>none
variable{x x':Cx}{c:Ctx}{A:Around}{env:PySem.Env}{ρ:Env}{own own' own0:ez}{H H' H0 H1 H2 h h':Heap}{s s' s0 s1:Shared}{X:Prop}{E:Value→Shared→Prop}
variable{i j k:Nat}{v:V}{u:Value}{m:List V}{y:Str}{a0:Addr}{tk:Nat}{p:Bool×V}{kk:NameKind}{f:Addr→Option Nat}
theorem om{a:Addr}(e:f a=some k):own.re i f a=some (i+1,k):=by unfold ez.re;rw[e]
theorem n8{a:Addr}(e:f a=none)(q:own a=some (j,k))(n:j≠i+1):own.re i f a=some (j,k):=by unfold ez.re;rw[e,q];exact aC n
theorem pZ{a:Addr}(e:f a=none)(q:own a=none):own.re i f a=none:=by unfold ez.re;rw[e,q]
theorem oz{a:Addr}(e:own.re i f a=some (j,k)):(f a=some k∧j=i+1)∨(f a=none∧own a=some (j,k)∧j≠i+1):=by
 unfold ez.re at e;cases q:f a with
 |some z=>rw[q]at e;cases e;exact .inl ⟨rfl,rfl⟩
 |none=>
  rw[q]at e;cases w:own a with
  |none=>rw[w]at e;cases e
  |some t=>
   rw[w]at e
   replace e:(if t.1=i+1 then none else some (t.1,t.2))=some (j,k):=e
   by_cases h:t.1=i+1
   ·rw[aB h]at e;cases e
   ·rw[aC h]at e;cases e;exact .inr ⟨rfl,rfl,h⟩
theorem lT.re(W:dw c own H s)(g:∀a,own a≠none→s0.heap.get? a≠none)(F1:∀a k,f a=some k→ma c H s a)(F2:∀a b k,f a=some k→f b=some k→a=b)(F3:∀a k,f a=some k→s0.heap.get? a=none∨∃k',own a=some (i+1,k'))
  (F4:i∈x.io→∀a,own a=some (i+1,0)→f a=some 0):lT x c i own (own.re i f) s0 H s:=
 have fn:∀a j k,j≠i+1→own a=some (j,k)→f a=none:=fun a j k n e=>by
  cases q:f a with
  |none=>rfl
  |some k'=>
   rcases F3 a k' q with z|⟨k'',z⟩
   ·exact absurd z (g a (by rw[e];exact nofun))
   ·rw[e]at z;cases z;exact absurd rfl n
 ⟨fun a j k n e=>n8 (fn a j k n e) e n,⟨fun a j k e=>(oz e).elim (fun z=>F1 a k z.1) fun z=>W.off a j k z.2.1,fun a b j k e1 e2=>by
  rcases oz e1 with⟨z1,w1⟩|⟨_,z1,w1⟩<;>rcases oz e2 with⟨z2,w2⟩|⟨_,z2,w2⟩
  ·exact F2 a b k z1 z2
  ·exact absurd w1 w2
  ·exact absurd w2 w1
  ·exact W.uniq a b j k z1 z2,fun a e=>by
   obtain⟨⟨j,k⟩,e⟩:=aG.mp e;rcases oz e with⟨z,_⟩|⟨_,z,_⟩
   ·obtain⟨h1,h2,o,h3,_⟩:=F1 a k z;exact⟨h1,by rw[h3];exact nofun⟩
   ·exact W.live a (by rw[z];exact nofun)⟩,
 fun a h1 h2=>pZ (by
  cases q:f a with
  |none=>rfl
  |some k=>
   rcases F3 a k q with z|⟨k',z⟩
   ·exact absurd z h1
   ·rw[h2]at z;cases z) h2,
 fun j a hj e=>by
  by_cases h:j=i
  ·subst h;exact om (F4 hj a e)
  ·exact n8 (fn a _ _ (fun z=>h (bp z)) e) e fun z=>h (bp z)⟩
theorem lT.same(W:dw c own H s):lT x c i own own s0 H s:=⟨fun Z Z Z Z e=>e,W,fun Z Z e=>e,fun Z Z Z e=>e⟩
theorem dw.Kz(W:dw c own H s)(k:Heap.SameBut a0 s.heap h')(n:∀i k,own a0≠some (i+1,k))(e:own a0≠none→h'.get? a0≠none):dw c own H { s with heap:=h',toks:=tk }:=
 ⟨fun a i j q=>let⟨h1,h2,o,h3,h4⟩:=W.off a i j q;⟨h1,h2,o,(k.2 a fun z=>n i j (z▸q)).trans h3,h4⟩,W.uniq,fun a q=>let⟨h1,h3⟩:=W.live a q;⟨h1,by
  by_cases h:a=a0
  ·subst h;exact e q
  ·show h'.get? a≠none;rw[k.2 a h];exact h3⟩⟩
theorem rT(k:Heap.SameBut a0 h h')(n:∀i k,own a0≠some (i+1,k))(t:∀a k,own a=some (i+1,k)→own' a=some (i+1,k)):iY own own' h h' i i:=fun a j e=>⟨t a j e,fun o q=>(k.2 a fun z=>n i j (z▸e)).trans q⟩
theorem wQ{T:Unit→Shared→Prop}{R':Heap→Nat→Bool×V→Value→Prop}{Rl:Nat→Bool×V→Value→Prop}(N:jU x env)(vv:gN x env Rl s.heap ρ)(hc:eT x env (·≠env.locals))
  (hi:x.nm[i]? =some y) (hk:x.kd.lookup y=some kk) (hv:kk=.cell∨kk=.free) (f:∀a h',env.cells.lookup y=some a→Heap.SameBut a s.heap h'→R' h' i p u∧∀j v u,i≠j→Rl j v u→R' h' j v u)
  (q:∀a h',env.cells.lookup y=some a→Heap.SameBut a s.heap h'→(∃o,h'.get? a=some o∧∀vs,o.data≠.fields vs)→gN x env (R' h') h' (ρ.set i (some p))→T () { s with heap:=h' }):wpAny c.M A (storeName env y u) T E s:=by
 obtain⟨⟨m,hn,hm⟩,cl⟩:=vv;obtain⟨a,w,e1,e4,_⟩:=cl i y kk hi hk hv;have kc:env.kindOf y=some .cell:=by rcases hv with rfl | rfl<;>exact(N.kinds y _ hk)
 refine wpAny_storeName_cell N.fk kc e1 e4 fun h' n' k'=>q a h' e1 k' (by obtain⟨o,e,d⟩:=n';exact⟨o,e,by rw[d];exact(by intro _ h;cases h)⟩) ⟨⟨m,hn.sameBut k' (Ne.symm (hc i y kk a hi hk hv e1)),fun j z w hj hz e=>?_⟩,fun j z kj hj hz hkk=>?_⟩
 ·rcases gh e with⟨rfl,e⟩|⟨hne,e⟩
  ·rw[hi]at hj;obtain rfl:=ah (hj);rw[hk]at hz;obtain rfl:=ah (hz);rcases hv with h|h<;>cases h
  ·obtain⟨u',e',r'⟩:=hm j z w hj hz e;exact⟨u',e',(f a h' e1 k').2 _ _ _ hne r'⟩
 ·by_cases hij:i=j
  ·subst hij;rw[hi]at hj;obtain rfl:=ah (hj);refine⟨a,some u,e1,n',fun v' e=>?_⟩;rcases gh e with⟨_,e6⟩|⟨hne,_⟩
   ·cases e6;exact⟨u,rfl,(f a h' e1 k').1⟩
   ·exact absurd rfl hne
  ·obtain⟨a',w',f1,f4,f5⟩:=cl j z kj hj hz hkk
   have ne:a'≠a:=fun q=>by
    subst q;have:=N.inj y z a' e1 f1;subst this;exact hij (tT N.nd hi hj)
   refine⟨a',w',f1,f4.sameBut k' ne,fun v' e=>?_⟩;rcases gh e with⟨h,_⟩|⟨_,e⟩
   ·exact absurd h hij
   ·obtain⟨u',e',r'⟩:=f5 v' e;exact⟨u',e',(f a h' e1 k').2 _ _ _ hij r'⟩
theorem Gs.upd{own0:ez}{H0:Heap}(g:Gs x c own0 H0 s0 own H s)(W:dw c own H s)(h0:own a0≠none)(k:Heap.SameBut a0 s.heap h')(hd:a0∈kA c.l→∃o,h'.get? a0=some o∧∀vs,o.data≠.fields vs):Gs x c own0 H0 s0 own H { s with heap:=h',toks:=tk }:=by
 exact g.trans ⟨⟨⟨g.mv.st.gf,fun b o e=>(k.2 b fun z=>by rw[z,(W.live a0 h0).1]at e;cases e).trans (g.mv.st.stays b o e),yb g.mv.st.ff (fun b q=>(g.mv.st.frOld q).1) fun b o e q d=>by
  by_cases z:b=a0
  ·subst z;exact hd q
  ·exact⟨o,(k.2 b z).trans e,d⟩⟩,⟨h',tk,rfl⟩,fun Z Z e=>e,(show km (kA c.l) (ch own) s.heap h' from .of fun b o e n=>(k.2 b fun z=>n (z▸h0)).trans e),fun Z Z Z e=>e⟩,fun Z Z e=>e,fun Z Z Z e=>e⟩
theorem vr{T:Unit→Shared→Prop}(K:cJ x c env ρ own H0 s0)(g:Mv c no H0 s0 H s)(t:lT x c i own own' s0 H s)(hi:x.nm[i]? =some y)(hk:x.kd.lookup y=some kk)(hv:fi kk)(r:RS c own' H s.heap i p u)
  (q:∀s',cJ x c env (ρ.set i (some p)) own' H s'→Gs x c own H0 s0 own' H s'→(∀b o,own b=none→s.heap.get? b=some o→s'.heap.get? b=some o)→T () s'):wpAny c.M A (storeName env y u) T E s:=by
 have K1:=K.mv g;have G:Gs x c own H0 s0 own' H s:=⟨g.JA fun Z z=>z.elim,t.ow,t.io⟩;have loc:=t.old _ _ 0 (Ne.symm (bK i)) K.loc;have cel:eT x env fun a=>own' a=some (0,0)∧a≠env.locals:=fun i y k a h1 h2 h3 h4=>let z:=K.cel i y k a h1 h2 h3 h4;⟨t.old _ _ _ (Ne.symm (bK _)) z.1,z.2⟩;have kp:∀a h',own a=some (0,0)→Heap.SameBut a s.heap h'→∀b o,own b=none→s.heap.get? b=some o→h'.get? b=some o:=fun a h' e k b o n q=>(k.2 b fun z=>by rw[z,e]at n;cases n).trans q;have hc:eT x env (·≠env.locals):=fun i y k a h1 h2 h3 h4=>(K.cel i y k a h1 h2 h3 h4).2;have nt:∀{a},own' a=some (0,0)→∀i k,own' a≠some (i+1,k):=fun e i k z=>by rw[e]at z;cases z
 have ff:∀a h',own a=some (0,0)→Heap.SameBut a s.heap h'→RS c own' H h' i p u∧∀j v u,i≠j→RS c own H s.heap j v u→RS c own' H h' j v u:=fun a h' e k=>
  have e':=t.old _ _ 0 (Ne.symm (bK i)) e
  ⟨r.mono (fun Z Z e=>e) (rT k (nt e') fun Z Z z=>z),fun j v u ne f=>f.mono (fun Z Z e=>e) (rT k (fun i k z=>by rw[e]at z;cases z) fun a k z=>t.old a _ _ (fun w=>ne (bp w).symm) z)⟩
 rcases hv with rfl|hv
 ·exact sy (R':=fun h=>RS c own' H h) K.nk K1.vs hc hi hk (fun h' k=>ff _ h' K.loc k) fun h' k V=>
   have hd:∃o,h'.get? env.locals=some o∧∀vs,o.data≠.fields vs:=let⟨_,⟨o,_,_,e,d,_⟩,_⟩:=V.ns;⟨o,e,by rw[d];exact(by intro _ h;cases h)⟩
   q _ ⟨⟨K.nk,(G.upd t.ok (by rw[loc];exact nofun) k (fun Z=>hd) (tk:=s.toks+1)).mv.st,V,t.ok.Kz k (nt loc) fun Z=>let⟨o,e,_⟩:=hd;by rw[e];exact nofun⟩,loc,cel⟩ (G.upd t.ok (by rw[loc];exact nofun) k (fun Z=>hd) (tk:=s.toks+1)) (kp _ h' K.loc k)
 ·refine wQ (R':=fun h=>RS c own' H h) K.nk K1.vs hc hi hk hv (fun a h' e k=>ff a h' (K.cel i y kk a hi hk hv e).1 k) fun a h' e k ha V=>?_
  have e':=(cel i y kk a hi hk hv e).1;exact q _ ⟨⟨K.nk,(G.upd t.ok (by rw[e'];exact nofun) k (fun Z=>ha) (tk:=s.toks)).mv.st,V,t.ok.Kz k (nt e') fun Z=>let⟨o,e,_⟩:=ha;by rw[e];exact nofun⟩,loc,cel⟩ (G.upd t.ok (by rw[e'];exact nofun) k (fun Z=>ha) (tk:=s.toks)) (kp a h' (K.cel i y kk a hi hk hv e).1 k)
end
section
inductive Av(x:Cx)(c:Ctx)(env:PySem.Env)(ρ':Env)(own:ez)(H0:Heap)(s0:Shared)(H h:Heap)(D:Addr)(s':Shared):Prop
 |mk (own':ez) (H':Heap) (K:cJ x c env ρ' own' H' s') (g:Gs x c own H0 s0 own' H' s') (off:∀b,s0.heap.get? b=none→H.get? b=none→b≠D→own' b=none∧H'.get? b=none∧∀o,h.get? b=some o→s'.heap.get? b=some o)
noncomputable def pI(y:Str)(scope:Scope)(p p':Pos):Prop:=(p'.line==p.line)=true∧(scope.names.any fun(n,k)=>n==y&&(k==.local||k==.cell))=false
variable{x x':Cx}{c:Ctx}{A:Around}{env:PySem.Env}{ρ:Env}{own own' own0:ez}{H H' H0 H1 H2 h h':Heap}{s s' s0 s1:Shared}{X:Prop}{E:Value→Shared→Prop}{Q:Flow×Env→Prop}
variable{i j k slot:Nat}{v:V}{u:Value}{m:List V}{y z:Str}{a0 D:Addr}{tk:Nat}{p p' p2 px:Pos}{kk:NameKind}{f:Addr→Option Nat}{e elt iter t:Expr}{a b it:CE}{items:Array Value}{sts:List Stmt}{bs:CS}{ifs:List Expr}{scope:Scope}
theorem vD{n:Nat}(N:jU x env)(hk:x.kd.lookup y=some .local)(h:pI y scope p p'):swapsWith (.ListComp elt [⟨.Name z px,iter,ifs,0⟩] scope p) (some (.Name y p')) n env=pure true:=by
 unfold swapsWith;have e1:env.blockKind=.function:=by unfold Env.blockKind;rw[N.fk];rfl
 have e2:env.kindOf y=some .local:=N.kinds y _ hk;show(pure _:Sem Bool)=_;rw[e1,e2,show(Expr.ListComp elt [⟨.Name z px,iter,ifs,0⟩] scope p).pos.line=p.line from rfl,h.1,h.2];rfl
theorem tw{n:Nat}{gs:List Comprehension}(N:jU x env)(hk:x.kd.lookup y=some kk)(hv:kk=.cell∨kk=.free):swapsWith (.ListComp elt gs scope p) (some (.Name y p')) n env=pure false:=by
 have e3:(env.kindOf y==some NameKind.local)=false:=by rw[N.kinds y _ hk];rcases hv with rfl | rfl<;>rfl
 unfold swapsWith;show(pure _:Sem Bool)=_;rw[e3,Bool.and_false,Bool.false_and,Bool.false_and]
theorem cJ.off(K:cJ x c env ρ own H s){b:Addr}(e:s.heap.get? b=none):own b=none:=bg fun z=>(K.ow.live b z).2 e
theorem uC(K:cJ x c env ρ own H0 s0)(g:Mv c no H0 s0 H s)(hi:x.nm[i]? =some y)(hk:x.kd.lookup y=some kk)(hv:fi kk)(r:du c.P H v u):wpAny c.M A (storeName env y u) (fun Z s'=>Av x c env (ρ.set i (some (false,v))) own H0 s0 H s.heap D s') E s:=
 vr (p:=(false,v)) K g (.same (K.mv g).ow) hi hk hv r fun s' K' G k=>⟨own,H,K',G,fun b h1 h2 Z=>⟨K.off h1,h2,fun o=>k b o (K.off h1)⟩⟩
theorem CM(g:Mv c no H0 s0 H s)(S0:St c H0 s0){n:Nat}(h0:s0.heap.get? D=none)(hD:H.get? D=none)(t:IsL s.heap D items n):ma c H s D:=⟨hD,fun q=>(S0.frOld q).2 h0,_,t,.inl ⟨by simp,by simp⟩⟩
theorem Bd(fl:Bool)(hio:fl=true→i∉x.io)(K:cJ x c env ρ own H0 s0)(g:Mv c no H0 s0 H s)(hi:x.nm[i]? =some y)(hk:x.kd.lookup y=some kk)(hv:fi kk){n:Nat}(h0:s0.heap.get? D=none)(hD:H.get? D=none)(t:IsL s.heap D items n)(r:bz c.P H m items.toList)(len:m.length≤lim+1):
  wpAny c.M A (storeName env y (.ref D)) (fun Z s'=>Av x c env (ρ.set i (some (fl,.Jq m))) own H0 s0 H s.heap D s') E s:=by
 cases fl with
 |false=>
  obtain⟨H2,g2,b,d,n2⟩:=g.pick K.st (·=D) fun Z e=>e▸h0;refine au (uC (D:=D) (v:=.Jq m) K g2 hi hk hv (.Jq len (d D _ t rfl) (r.mono b) .nil)) (by rintro _ s' ⟨o,H',K',G,z⟩;exact⟨o,H',K',G,fun b h1 h2 h3=>z b h1 (n2 b h2 h3) h3⟩) fun Z Z z=>z
 |true=>
  classical
  have f1:∀{a k},(if a=D then some 0 else none:Option Nat)=some k→a=D∧k=0:=fun {a k} e=>by
   by_cases z:a=D
   ·rw[aB z]at e;obtain rfl:=ah (e);exact⟨z,rfl⟩
   ·rw[aC z]at e;cases e
  refine vr (p:=(true,.Jq m)) (own':=own.re i fun a=>if a=D then some 0 else none) K g (.re (K.mv g).ow (fun a e=>(K.ow.live a e).2) (fun a k e=>(f1 e).1▸CM g K.st h0 hD t) (fun a b k e1 e2=>(f1 e1).1.trans (f1 e2).1.symm) (fun a k e=>.inl ((f1 e).1▸h0)) fun q=>absurd q (hio rfl)) hi hk hv
   (cV.Jq (om (aB rfl)) len t r) fun s' K' G k=>⟨_,H,K',G,fun b h1 h2 h3=>⟨pZ (aC h3) (K.off h1),h2,fun o=>k b o (K.off h1)⟩⟩
theorem Av.sp{ρ':Env}(z:Av x c env ρ' own H s H' h D s')(q:Q (.nxt,ρ')):SP x c env own H s Q .next s':=let⟨o,H',K,g,_⟩:=z;⟨o,H',_,_,g,K,.nxt,q⟩
theorem FZ(hi:x.nm[i]? =some y)(hk:x.kd.lookup y=some kk)(hv:fi kk)(hc:∀{env n},jU x env→swapsWith e (some (.Name y p')) n env=pure false)(h:aN x e a):cx x (.Assign [.Name y p'] e p) (.q (.v i) a):=fun R ht K z=>
 wpAny_Assign_Name (sx (h.E R K.togK z) fun u s1 H1 v g r q=>au (uC (D:=0) K g hi hk hv r) (fun Z Z z=>z.sp q) fun Z Z z=>z) (hc K.nk)
theorem EW(hi:x.nm[i]? =some y)(hk:x.kd.lookup y=some kk)(hv:fi kk)(hc:∀{env n},jU x env→swapsWith e (some (.Name y p')) n env=pure false)(h:gW x e a):cx x (.Assign [.Name y p'] e p) (.new i a):=fun {c env ρ own H s Q X} R ht K z=>by
 obtain⟨hio,z⟩:=bh z;exact wpAny_Assign_Name (au (h R K.togK (Q:=fun v=>dD v (fun l=>Q (.nxt,fq ρ i (.Jq l))) X) z) (by rintro u s1 ⟨H1,m,D,items,n,g,e,h0,hD,t,r,len,q⟩;exact e▸au (Bd true (fun Z=>hio) K g hi hk hv h0 hD t r len) (fun Z Z z=>z.sp q) fun Z Z z=>z) fun Z Z z=>z.JA fun Z z=>z.elim) (hc K.nk)
theorem cJ.priv(K:cJ x c env ρ own H s){own0:ez}(g:Gs x c own0 H0 s0 own H s)(S0:St c H0 s0){wr:List Addr}(hw:∀a∈wr,s0.heap.get? a=none∧H.get? a=none∧own a=none)(k:∀b o,b∉wr→s.heap.get? b=some o→h'.get? b=some o):
  cJ x c env ρ own H { s with heap:=h',toks:=tk }∧Gs x c own0 H0 s0 own H { s with heap:=h',toks:=tk }:=by
 have no:∀{t a},own a=some t→a∉wr:=fun e z=>by rw[(hw _ z).2.2]at e;cases e
 exact⟨⟨⟨K.nk,(g.mv.priv (h':=h') (tk:=tk) S0 (fun b z=>⟨(hw b z).1,(hw b z).2.1⟩) k).st,K.vs.keep (fr:=[]) (ch:=(·∈wr)) (.of fun b o e n=>k b o n e) (no K.loc) (fun i y k a h1 h2 h3 h4=>no (K.cel i y k a h1 h2 h3 h4).1) fun i v u f=>f.mono (fun Z Z e=>e) fun a l e=>⟨e,fun o=>k a o (no e)⟩,
  ⟨fun a i l e=>let⟨h1,h2,o,h3,h4⟩:=K.ow.off a i l e;⟨h1,h2,o,k a o (no e) h3,h4⟩,K.ow.uniq,fun a e=>let⟨h1,h3⟩:=K.ow.live a e;⟨h1,by
   obtain⟨o,q⟩:=aG.mp h3;obtain⟨t,e⟩:=aG.mp e;show h'.get? a≠none;rw[k a o (no e) q];exact(by intro h;cases h)⟩⟩⟩,K.loc,K.cel⟩,(g.mv.priv (h':=h') (tk:=tk) S0 (fun b z=>⟨(hw b z).1,(hw b z).2.1⟩) k),g.ow,g.io⟩
theorem mR{step:FT→Env→V→Mine.R (Option V)}{Q1:V→Prop}(fl:Bool)(hio:fl=true→j∉x.io)(O:eX x x' scope z i)(hs:fy iter=true)(hi:aN x iter it)(hst:n7 x' ifs elt i step)(hj:x.nm[j]? =some y)(hk:x.kd.lookup y=some .local)(hu:pI y scope p p')
  (R:k9 c) (K:cJ x c env ρ own H s) (ha:∀F ρ,aY F a ρ=bc (aY F it ρ) fun s=>bc (j9 s) fun l=>iff (l.length≤lim) (bc (qd (o8 (step F ρ) l)) fun r=>ok (V.Jq r))) (hx:aY c.F a ρ Q1 X) (hq:∀m,Q1 (.Jq m)→Q (.nxt,ρ.set j (some (fl,.Jq m)))):
  wpAny c.M c.A (exec (.Assign [.Name y p'] (.ListComp elt [⟨.Name z px,iter,ifs,0⟩] scope p) p2) env) (SP x c env own H s Q) (XP c (ch own) H s X) s:=by
 rw[ha]at hx;rw[exec_Assign_Name_used _ _ _ _ (vD K.nk hk hu)];refine av (cQ (av ?_));show wpAny _ c.A (do let _ ←comprehension (.ListComp elt [⟨.Name z px,iter,ifs,0⟩] scope p) scope env _ (newList []) false (eval iter env) (some (assign (.Name y p') env))) _ _ s;refine av (au (pi (use:=some (assign (.Name y p') env)) (T:=fun Z s'=>SP x c env own H s Q .next s') (Q:=Q1) O hi hst R K.togK (lF hs) hx fun D C s2 z=>?_) (fun Z s' hq=>aI (aI hq)) fun Z Z e=>e.JA fun Z z=>z.elim);obtain⟨H2,m,items,n,g,nD,hD,t,r,len,q,⟨mm,hn⟩,nC,hC,ne⟩:=z;show wpAny _ c.A (assign (.Name y p') env (.ref D)) _ _ _;refine wpAny_assign_Name (au (Bd fl hio K g hj hk (.inl rfl) nD hD t r len) (fun Z s3 ⟨own',H',K',G,off⟩=>?_) fun Z Z z=>z);obtain⟨o,es,ep,e,rr⟩:=hn;refine⟨mm,⟨o,es,ep,(off C nC hC ne).2.2 o e,rr⟩,fun h' k=>?_⟩;exact⟨_,_,_,_,(K'.priv (wr:=[C]) (tk:=s3.toks) G K.st (fun a q=>aq.mp q▸⟨nC,(off C nC hC ne).2.1,(off C nC hC ne).1⟩) fun b o q e=>(k.2 b fun z=>q (z▸.head _)).trans e).2,(K'.priv (wr:=[C]) (tk:=s3.toks) G K.st (fun a q=>aq.mp q▸⟨nC,(off C nC hC ne).2.1,(off C nC hC ne).1⟩) fun b o q e=>(k.2 b fun z=>q (z▸.head _)).trans e).1,.nxt,hq m q⟩
theorem Da(O:eX x x' scope z i)(hs:fy iter=true)(hi:aN x iter it)(h:aN x' elt a)(hj:x.nm[j]? =some y)(hk:x.kd.lookup y=some .local)(hu:pI y scope p p'):
  cx x (.Assign [.Name y p'] (.ListComp elt [⟨.Name z px,iter,[],0⟩] scope p) p2) (.q (.v j) (.comp a i it)):=fun {c env ρ own H s Q X} R ht K z=>mR (Q1:=fun v=>Q (.nxt,ρ.set j (some (false,v)))) false nofun O hs hi (kz h) hj hk hu R K (fun Z Z=>rfl) z fun Z z=>z
theorem AS(O:eX x x' scope z i)(hs:fy iter=true)(hi:aN x iter it)(h:aN x' elt a)(hT:aN x' t b)(hj:x.nm[j]? =some y)(hk:x.kd.lookup y=some .local)(hu:pI y scope p p'):
  cx x (.Assign [.Name y p'] (.ListComp elt [⟨.Name z px,iter,[t],0⟩] scope p) p2) (.q (.v j) (.Jz a i it b)):=fun {c env ρ own H s Q X} R ht K z=>mR (Q1:=fun v=>Q (.nxt,ρ.set j (some (false,v)))) false nofun O hs hi (uE h hT) hj hk hu R K (fun Z Z=>rfl) z fun Z z=>z
theorem Dy(O:eX x x' scope z i)(hs:fy iter=true)(hi:aN x iter it)(h:aN x' elt a)(hj:x.nm[j]? =some y)(hk:x.kd.lookup y=some .local)(hu:pI y scope p p'):
  cx x (.Assign [.Name y p'] (.ListComp elt [⟨.Name z px,iter,[],0⟩] scope p) p2) (.new j (.comp a i it)):=fun {c env ρ own H s Q X} R ht K z=>
 have⟨h1,z⟩:=bh z
 mR (Q1:=fun v=>dD v (fun l=>Q (.nxt,fq ρ j (.Jq l))) X) true (fun Z=>h1) O hs hi (kz h) hj hk hu R K (fun Z Z=>rfl) z fun Z z=>z
theorem FL(hi:x.nm[i]? =some y)(hk:x.kd.lookup y=some kk)(hv:fi kk)(hd:(y==("__debug__":Str))=false)(h:aN x e a):cx x (.AugAssign (.Name y p') .Add e p) (.Kt i a):=fun {c env ρ own H s Q X} R ht K z=>by
 obtain⟨o,eo,z⟩:=sV z;refine wpAny_AugAssign_Name (kL K.nk K.vs hi hk hv eo fun u0 r0=>sx (h.E R K.togK z) fun u s1 H1 v g r q=>?_);obtain⟨a,rfl,q1⟩:=db q;obtain⟨b,rfl,q2⟩:=db q1;obtain⟨t,rfl⟩:=du.Ju (show du c.P H (.int a) u0 from r0);obtain⟨t',rfl⟩:=r.Ju;exact wpAny_iadd_int (au (uC (D:=0) (s:={ s1 with toks:=s1.toks+1 }) K g.toks hi hk hv (.int .nil)) (fun Z Z z=>z.sp q2) fun Z Z z=>z)
theorem Bx(h:fC x sts bs):fC x sts (.seq (.r i) bs):=fun R ht K z=>h R ht ⟨⟨K.nk,K.st,let⟨⟨m,a,b⟩,d⟩:=K.vs;⟨⟨m,a,fun j y v h1 h2 h3=>(gh h3).elim (fun q=>by cases q.2) fun q=>b j y v h1 h2 q.2⟩,fun j y k h1 h2 h3=>let⟨ad,w,e1,e2,e3⟩:=d j y k h1 h2 h3;⟨ad,w,e1,e2,fun v e=>(gh e).elim (fun q=>by cases q.2) fun q=>e3 v q.2⟩⟩,K.ow⟩,K.loc,K.cel⟩ z
theorem Dq:fC x [] (.r i):=fun R ht K z=>Bx (bs:=.k) A4 R ht K z
end
section
inductive CW(c:Ctx)(own:ez)(H h:Heap)(i:Nat)(m:List V)(u:Value):Prop
 |mk (a:Addr) (items:Array Value) (n:Nat) (e:u=.ref a) (o:own a=some (i+1,0)) (len:m.length≤lim+1) (t:IsL h a items n) (r:bz c.P H m items.toList)
inductive zw(c:Ctx)(own:ez)(H h:Heap)(i:Nat)(fs:List (Nat×V))(u:Value):Prop
 |mk (a:Addr) (o:PySem.Obj) (kvs:List (Str×Value)) (us:List Value) (e:u=.ref a) (w:own a=some (i+1,0)) (t:h.get? a=some o) (p:c.P o kvs) (f:iU c own H h i fs us) (m:(fs.map (·.1)).map (fun k=>valueAt kvs (a5 0 k))=us.map some) (g:∀y u,valueAt kvs y=some u→∃k∈fs.map (·.1),y=a5 0 k) (nd:(fs.map (·.1)).Nodup)
inductive zV(c:Ctx)(own:ez)(H h:Heap)(i C:Nat)(fs:List (Nat×V))(u:Value):Prop
 |mk (a dx:Addr) (m:Str→Option Value) (us:List Value) (e:u=.ref a) (w:own a=some (i+1,0)) (w':own dx=some (i+1,99)) (t:h.get? a=some (instObj (iF (C+1)) dx)) (n:h.Ns1 dx m) (f:iU c own H h i fs us) (q:(fs.map (·.1)).map (fun k=>m (a5 (C+1) k))=us.map some) (g:∀y u,m y=some u→∃k∈fs.map (·.1),y=a5 (C+1) k) (nd:(fs.map (·.1)).Nodup)
noncomputable def Ie(c:Ctx)(own:ez)(H h:Heap)(i:Nat)(v:V)(u:Value):Prop:=match v with
 |.Jq m=>CW c own H h i m u
 |.obj 0 fs=>zw c own H h i fs u
 |.obj (C+1) fs=>zV c own H h i C fs u
 |_=>False
variable{x x':Cx}{c:Ctx}{A:Around}{env:PySem.Env}{ρ:Env}{own own' own0:ez}{H H' H0 H1 H2 h h':Heap}{s s' s0 s1:Shared}{X:Prop}{E:Value→Shared→Prop}{Q:Flow×Env→Prop}{R R':Nat→Bool×V→Value→Prop}
variable{i j k slot kd:Nat}{v:V}{u:Value}{m m':List V}{y z:Str}{a0 D:Addr}{tk:Nat}{p p' p2 ap:Pos}{kk:NameKind}{f:Addr→Option Nat}{e e2 e3 elt iter t:Expr}{a b it:CE}{items items':Array Value}{sts:List Stmt}{bs:CS}{w w0:Bool×V}
theorem cV.Ju(z:cV c own H h i v u):Ie c own H h i v u:=by
 induction z with
 |Jq o n t r=>exact⟨_,_,_,rfl,o,n,t,r⟩
 |dict o t p f m g nd=>exact⟨_,_,_,_,rfl,o,t,p,f,m,g,nd⟩
 |inst q o t n f m g nd=>exact⟨_,_,_,_,rfl,q,o,t,n,f,m,g,nd⟩
theorem gC{Q:V→Prop}(z:jY ρ i Q X):∃v,ρ[i]? =some (some (true,v))∧Q v:=by
 unfold jY at z;rcases e:ρ[i]? with _|_|⟨_|_,v⟩<;>rw[e]at z<;>first|exact z.elim|exact⟨v,rfl,z⟩
theorem gN.upd(V:gN x env R h ρ)(k:∀o,h.get? env.locals=some o→h'.get? env.locals=some o)(kc:eT x env fun a=>∀o,h.get? a=some o→h'.get? a=some o)(f:∀j p u,i≠j→R j p u→R' j p u)(e0:ρ[i]? =some (some w0))(f0:∀u,R i w0 u→R' i w u):gN x env R' h' (ρ.set i (some w)):=by
 obtain⟨⟨m,⟨o,es,ep,e,r⟩,hv⟩,cl⟩:=V
 have g:∀{j v},(ρ.set i (some w))[j]? =some (some v)→∃v',ρ[j]? =some (some v')∧(∀u:Value,R j v' u→R' j v u):=fun {j v} q=>by
  rcases gh q with⟨rfl,q1⟩|⟨n,q1⟩
  ·obtain rfl:=ah (q1);exact⟨w0,e0,f0⟩
  ·exact⟨v,q1,fun u=>f j v u n⟩
 refine⟨⟨m,⟨o,es,ep,k o e,r⟩,fun j y v h1 h2 h3=>?_⟩,fun j y kk h1 h2 h3=>?_⟩
 ·obtain⟨v',q,z⟩:=g h3;obtain⟨u,e,q⟩:=hv j y v' h1 h2 q;exact⟨u,e,z u q⟩
 ·obtain⟨a,wv,e1,⟨o,e2,e2'⟩,e3⟩:=cl j y kk h1 h2 h3;refine⟨a,wv,e1,⟨o,kc j y kk a h1 h2 h3 e1 o e2,e2'⟩,fun v q=>?_⟩;obtain⟨v',q,z⟩:=g q;obtain⟨u,e,q⟩:=e3 v' q;exact⟨u,e,z u q⟩
theorem EU(h:fC x sts bs):fC x sts (.seq (.JO i) bs):=fun {c env ρ own H s Q X} R ht K z=>by
 obtain⟨hio,z⟩:=bh z;obtain⟨v,e,z⟩:=gC z;obtain⟨H1,S1,b,d,n⟩:=K.st.pick (fun a=>∃k,own a=some (i+1,k)) fun a q ⟨k,z⟩=>(K.ow.off a i k z).fr q
 have nt:∀a j k,own.re i (fun Z=>none) a=some (j,k)→own a=some (j,k)∧¬∃k,own a=some (i+1,k):=fun a j k e=>by
  rcases oz e with⟨q,_⟩|⟨_,q,w⟩
  ·cases q
  ·exact⟨q,by rintro⟨k,z⟩;exact by rw[q]at z;cases z;exact w rfl⟩
 have fr:∀{a},own a=some (0,0)→own.re i (fun Z=>none) a=some (0,0):=fun e=>n8 rfl e (Ne.symm (bK i))
 have W:dw c (own.re i fun Z=>none) H1 s:=⟨fun a j k e=>let⟨q,w⟩:=nt a (j+1) k e;let⟨h1,h2,h3⟩:=K.ow.off a j k q;⟨n a h1 w,h2,h3⟩,fun a b j k e1 e2=>K.ow.uniq a b j k (nt _ _ _ e1).1 (nt _ _ _ e2).1,fun a e=>by
  obtain⟨⟨j,k⟩,e⟩:=aG.mp e;obtain⟨q,w⟩:=nt a j k e;obtain⟨h1,h3⟩:=K.ow.live a (by rw[q];exact(by intro h;cases h));exact⟨n a h1 w,h3⟩⟩
 have G:Gs x c own H s (own.re i fun Z=>none) H1 s:=⟨⟨S1,⟨_,_,rfl⟩,b,.refl,fun a Z q h=>n a h fun⟨k,z⟩=>q (show own a≠none by rw[z];exact(by intro h;cases h))⟩,fun a Z e=>pZ rfl e,fun j a hj e=>n8 rfl e fun z=>hio (bp z▸hj)⟩;refine au (h R ht ⟨⟨K.nk,S1,K.vs.upd (R':=RS c (own.re i fun Z=>none) H1 s.heap) (w:=(false,v)) (fun Z e=>e) (fun Z Z Z Z Z Z Z Z Z e=>e) (fun j p u ne f=>f.mono b fun a k e=>⟨n8 rfl e fun z=>ne (bp z).symm,fun Z e=>e⟩) e fun u f=>RS.JV (q:=(true,v)) b (fun a o k q e=>d a o e ⟨k,q⟩) f,W⟩,fr K.loc,fun i y k a h1 h2 h3 h4=>let q:=K.cel i y k a h1 h2 h3 h4;⟨fr q.1,q.2⟩⟩ z) (fun Z Z z=>G.sp z) fun Z Z z=>G.xp z
theorem BP(ho:x.own=true)(hi:x.nm[i]? =some y)(hk:x.kd.lookup y=some kk)(hv:fi kk)(hd:(y==("__debug__":Str))=false):cx x (.Return (some (.Name y p')) p) (.Kd i):=fun R ht K z=>by
 obtain⟨v,e,z⟩:=gC z;obtain⟨m,rfl,z⟩:=fD z;refine wpAny_Return_some (wpAny_Name (kL K.nk K.vs hi hk hv e fun u r=>?_) hd);obtain⟨a,items,n,rfl,o,len,t,r'⟩:=cV.Ju r;exact⟨_,_,_,_,.refl K.st,K,.Kd ho o len t r' (K.ow.off a i 0 o).new,z⟩
theorem cJ.turn(K:cJ x c env ρ own H s)(e0:ρ[i]? =some (some (true,.Jq m)))(o:own D=some (i+1,0))(k:Heap.SameBut D s.heap h')(len:m'.length≤lim+1){n:Nat}(t:IsL h' D items' n)(r:bz c.P H m' items'.toList):
  cJ x c env (fq ρ i (.Jq m')) own H { s with heap:=h',toks:=tk }∧Gs x c own H s own H { s with heap:=h',toks:=tk }:=by
 have nl:∀{a t},own a=some t→t.1≠i+1→∀ob,s.heap.get? a=some ob→h'.get? a=some ob:=fun e n ob q=>(k.2 _ fun z=>by rw[z,o]at e;obtain rfl:=ah (e);exact n rfl).trans q
 refine⟨⟨⟨K.nk,((Gs.refl (x:=x) (own:=own) K.st).upd K.ow (by rw[o];exact(by intro h;cases h)) k (fun q=>absurd q (K.ow.off D i 0 o).fr) (tk:=tk)).mv.st,K.vs.upd (nl K.loc (Ne.symm (bK i))) (fun j y kk a h1 h2 h3 h4=>nl (K.cel j y kk a h1 h2 h3 h4).1 (Ne.symm (bK i))) (fun j p u ne f=>f.mono (fun Z Z e=>e) fun a k e=>⟨e,nl e fun z=>ne (bp z).symm⟩) e0 fun u f=>?_,
  ⟨fun a j l e=>let⟨h1,h2,o',h3,h4⟩:=K.ow.off a j l e;?_,K.ow.uniq,fun a e=>let⟨h1,h3⟩:=K.ow.live a e;⟨h1,?_⟩⟩⟩,K.loc,K.cel⟩,((Gs.refl (x:=x) (own:=own) K.st).upd K.ow (by rw[o];exact(by intro h;cases h)) k (fun q=>absurd q (K.ow.off D i 0 o).fr) (tk:=tk))⟩
 ·obtain⟨a,it,n,rfl,o',_⟩:=cV.Ju f;obtain rfl:=K.ow.uniq _ _ _ _ o o';exact cV.Jq o len t r
 ·by_cases z:a=D
  ·subst z;exact⟨h1,h2,_,t,.inl ⟨by simp,by simp⟩⟩
  ·exact⟨h1,h2,o',(k.2 a z).trans h3,h4⟩
 ·by_cases z:a=D
  ·subst z;show h'.get? a≠none;rw[show h'.get? a=_ from t];exact(by intro h;cases h)
  ·show h'.get? a≠none;rw[k.2 a z];exact h3
end
section
inductive AP(x:Cx)(c:Ctx)(env:PySem.Env)(own:ez)(H:Heap)(s:Shared)(ρ':Env)(s':Shared):Prop
 |mk (K:cJ x c env ρ' own H s') (g:Gs x c own H s own H s')
noncomputable def nK(x:Cx)(t:Expr)(tt:T):Prop:=∀{c:Ctx}{env ρ own H s v u ρ' E},k9 c→cJ x c env ρ own H s→du c.P H v u→cS tt v ρ=some ρ'→wpAny c.M c.A (assign t env u) (fun Z s'=>AP x c env own H s ρ' s') E s
noncomputable def DU:T→Nat
 |.cons _ r=>DU r+1
 |_=>0
noncomputable def GG:T→Prop
 |.nil=>True
 |.cons _ r=>GG r
 |.v _=>False
structure pw(x:Cx)(ts:List Expr)(tt:T):Prop where
 ok:GG tt
 len:ts.length=DU tt
 run:∀{c:Ctx}{env ρ own H s vs us ρ' E},k9 c→cJ x c env ρ own H s→bz c.P H vs us→cS tt (.Js vs) ρ=some ρ'→wpAny c.M c.A (assignInOrder (ts.map fun t=>assign t env) us) (fun Z s'=>AP x c env own H s ρ' s') E s
noncomputable def tu:Expr→Bool | .Tuple ..=>false | _=>true
variable{x x':Cx}{c:Ctx}{A:Around}{env:PySem.Env}{ρ:Env}{own own' own0:ez}{H H' H0 H1 H2 h h':Heap}{s s' s0 s1:Shared}{X:Prop}{E:Value→Shared→Prop}{Q:Flow×Env→Prop}{R R':Nat→Bool×V→Value→Prop}
variable{i j k slot kd:Nat}{v:V}{u:Value}{m m':List V}{y z:Str}{a0 D:Addr}{tk:Nat}{p p' p2 ap:Pos}{kk:NameKind}{e e2 e3 elt iter t:Expr}{a b it:CE}{items items':Array Value}{sts:List Stmt}{bs:CS}{w w0:Bool×V}{tt tr:T}{ts:List Expr}
theorem vR{ρ':Env}(ok:GG tt)(z:cS tt v ρ=some ρ'):∃vs,v=.Js vs:=by
 cases v with
 |Js vs=>exact⟨vs,rfl⟩
 |_=>cases tt<;>first | exact ok.elim | cases z
theorem wh:∀{vs:List V}{ρ ρ':Env},GG tt→cS tt (.Js vs) ρ=some ρ'→vs.length=DU tt:=by
 induction tt with
 |v i=>exact fun h=>h.elim
 |nil=>intro vs ρ ρ' _ e;cases vs with
  |nil=>rfl
  |cons=>cases e
 |cons t r _ ih=>intro vs ρ ρ' h e;cases vs with
  |nil=>cases e
  |cons x l=>
   obtain⟨ρ1,_,e2⟩:=bG.mp e;exact aj (·+1) (ih h e2)
theorem Cf(hi:x.nm[i]? =some y)(hk:x.kd.lookup y=some kk)(hv:fi kk):nK x (.Name y p) (.v i):=fun {c env ρ own H s v u ρ' E} R K r z=>by
 obtain rfl:=ah (z);exact wpAny_assign_Name (vr (p:=(false,v)) K (.refl K.st) (.same K.ow) hi hk hv r fun s' K' G Z=>⟨K',G⟩)
theorem Es:pw x [] .nil:=⟨trivial,rfl,fun {c env ρ own H s vs us ρ' E} R K r z=>by
 cases vs with
 |nil=>obtain rfl:=ah (z);obtain rfl:=r.Ju;exact aI ⟨K,.refl K.st⟩
 |cons=>cases z⟩
theorem Dg(h:nK x t tt)(h2:pw x ts tr):pw x (t::ts) (.cons tt tr):=⟨h2.ok,aj (·+1) h2.len,fun {c env ρ own H s vs us ρ' E} R K r z=>by
 cases vs with
 |nil=>cases z
 |cons v vs=>
  obtain⟨u,us,rfl,r1,r2⟩:=r.two;obtain⟨ρ1,e1,e2⟩:=bG.mp z;rw[cZ,assignInOrder];exact av (bN (au (h R K r1 e1) (by rintro _ s1 ⟨K1,g1⟩;exact au (h2.run R K1 r2 e2) (by rintro _ _ ⟨K2,g2⟩;exact⟨K2,g1.trans g2⟩) fun Z Z y=>y) fun Z Z y=>y))⟩
theorem lw{es:List Expr}(h:es.all ba=true):assignEach es env=es.map fun t=>(false,assign t env):=by
 induction es with
 |nil=>rfl
 |cons e es ih=>
  have e1:assignEach (e::es) env=(false,assign e env)::assignEach es env:=by cases e<;>first | rfl | cases(am.mp h).1
  rw[e1,ih (am.mp h).2];rfl
theorem uP(hs:ts.all ba=true)(h:pw x ts tt):nK x (.Tuple ts k p) tt:=fun {c env ρ own H s v u ρ' E} R K r z=>by
 obtain⟨vs,rfl⟩:=vR h.ok z;obtain⟨a,items,rfl,n,t,r'⟩:=r.Ju;have hl:=wh h.ok z;have hz:=r'.size;have ea:=lw (env:=env) hs;have em:((assignEach ts env).map (·.2))=ts.map fun t=>assign t env:=by rw[ea,cH];rfl
 refine assign_Tuple_tuple R.o.hh (eO K.st t) (by rw[ea,af,hz,hl,h.len]) (by rw[ea];simp) fun h' kk=>?_
 have g:Mv c no H s H { s with heap:=h',toks:=s.toks }:=(Mv.refl K.st).keeps fun b o e=>kk b o (cG (dS e)) e;rw[em];exact au (h.run R (K.mv g) r' z) (by rintro _ _ ⟨K2,g2⟩;exact⟨K2,g.gs.trans g2⟩) fun Z Z z=>z
theorem s7{ts:List Expr}{k:Nat}(h:tu e=true):swappedStores [.Tuple ts k p] e env=pure none:=by
 cases e<;>first | rfl | cases h
theorem Dk(hc:e9 e=true)(hT:tu e=true)(ha:nK x (.Tuple ts k p') tt)(h:aN x e a):cx x (.Assign [.Tuple ts k p'] e p) (.q tt a):=fun {c env ρ own H s Q X} R ht K z=>
 Assign_Tuple (sx (h.E R K.togK z) fun u s1 H1 v g r q=>by
  obtain⟨ρ',e1,q⟩:=d4 q;exact au (ha R (K.mv g) r e1) (by rintro _ _ ⟨K2,g2⟩;exact⟨_,_,_,_,g.gs.trans g2,K2,.nxt,q⟩) fun Z Z z=>z) (d6 (env:=env) (t:=some (.Tuple ts k p')) (n:=p.line) hc) (s7 hT)
end
section
variable{x x':Cx}{c:Ctx}{A:Around}{env:PySem.Env}{ρ:Env}{own own' own0:ez}{H H' H0 H1 H2 h h':Heap}{s s' s0 s1:Shared}{X:Prop}{E:Value→Shared→Prop}{Q:Flow×Env→Prop}{R R':Nat→Bool×V→Value→Prop}
variable{i j k slot kd:Nat}{v:V}{u:Value}{m m':List V}{y z:Str}{a0 D:Addr}{tk:Nat}{p p' p2 p3 ap:Pos}{kk:NameKind}{e e2 e3 elt iter t:Expr}{a b it:CE}{items items':Array Value}{sts:List Stmt}{bs:CS}{w w0:Bool×V}{tt tr:T}{ts:List Expr}
structure gO(x:Cx)(y:Str)(i:Nat):Prop where
 hi:x.nm[i]? =some y
 hk:∃kk,x.kd.lookup y=some kk∧fi kk
 hd:(y==("__debug__":Str))=false
theorem jv{Q:List V→Prop}(z:nS ρ i Q X):∃m,ρ[i]? =some (some (true,.Jq m))∧Q m:=by
 obtain⟨v,e,z⟩:=gC z;obtain⟨m,rfl,z⟩:=fD z;exact⟨m,e,z⟩
theorem vy{T:Value→Shared→Prop}(N:gO x y i)(K:cJ x c env ρ own H s)(e:ρ[i]? =some (some (true,.Jq m)))(q:∀D items n,own D=some (i+1,0)→m.length≤lim+1→IsL s.heap D items n→bz c.P H m items.toList→T (.ref D) s):
  wpAny c.M A (eval (.Name y p) env) T E s:=
 let⟨kk,hk,hv⟩:=N.hk
 wpAny_Name (kL K.nk K.vs N.hi hk hv e fun u r=>by
  obtain⟨D,items,n,rfl,o,len,t,r'⟩:=cV.Ju r;exact q D items n o len t r') N.hd
theorem cJ.own2(K:cJ x c env ρ own H s)(g:Mv c no H s H' s')(o:own D=some (i+1,0)){n:Nat}(t:IsL s.heap D items n):IsL s'.heap D items n:=((K.ow.off D i 0 o).mv g fun z=>z).2 _ t
theorem F6(N:gO x y i)(hl:(ap.endLine==p.line)=true)(hs:ba e2=true)(h2:aN x e2 b):cx x (.Expr (.Call (.Attribute (.Name y p') "append" ap) [e2] [] p) p2) (.app i b):=fun {c env ρ own H s Q X} R ht K z=>by
 obtain⟨m,e0,z⟩:=jv z;refine wpAny_Expr (wpAny_Call_method1_late (ik rfl) hl (zS hs) (vy N K e0 fun D items n o len t r=>m7 t F.slot_list_append F.type_list_append (PySem.P.append_list (sx (h2.E R K.togK z) fun u s1 H1 v g ru q=>?_)))) (by unfold interactive;rw[K.nk.fk];rfl) (d6 rfl);obtain⟨hm,q⟩:=bh q;have t1:=K.own2 g o t;exact⟨items,n,f9 (r.size▸len),t1,_,_,_,_,g.gs.trans ((K.mv g).turn (tk:=s1.toks) (m':=m++[v]) e0 o (cu ..) (by rw[ai];exact bQ hm) (t1.update (·.push u)) (by rw[Array.toList_push];exact(r.mono g.base).append ru)).2,((K.mv g).turn (tk:=s1.toks) (m':=m++[v]) e0 o (cu ..) (by rw[ai];exact bQ hm) (t1.update (·.push u)) (by rw[Array.toList_push];exact(r.mono g.base).append ru)).1,.nxt,q⟩
theorem o5{r:List Value}{is:List Int}(x:IntsAre r is):∀i,IntsAre (r.eraseIdx i) (is.eraseIdx i):=by
 induction x with
 |nil=>exact fun Z=>.nil
 |cons n t x ih=>intro i;cases i with
  |zero=>exact x
  |succ i=>exact .cons n t (ih i)
theorem EN(N:gO x y i)(hl:(ap.endLine==p.line)=true)(hs:ba e2=true)(h2:aN x e2 b):cx x (.Expr (.Call (.Attribute (.Name y p') "remove" ap) [e2] [] p) p2) (.KA i b):=fun {c env ρ own H s Q X} R ht K z=>by
 obtain⟨m,e0,z⟩:=jv z;obtain⟨is,rfl,z2⟩:=je z;refine wpAny_Expr (wpAny_Call_method1_late (ik rfl) hl (zS hs) (vy N K e0 fun D items n o len t r=>m7 t F.slot_list_remove F.type_list_remove (PySem.P.remove_list (sx (h2.E R K.togK z2) fun u s1 H1 v g ru q=>?_)))) (by unfold interactive;rw[K.nk.fk];rfl) (d6 rfl);obtain⟨k,rfl,q1⟩:=db q;obtain⟨t',rfl⟩:=ru.Ju;have t1:=K.own2 g o t;have ri:=(r.mono g.base).Kr
 obtain⟨K2,G2⟩:=(K.mv g).turn (tk:=s1.toks) (m':=(is.erase k).map .int) e0 o (cu ..) (by rw[af]at len ⊢;exact aa List.length_erase_le len) (t1.update (·.eraseIdxIfInBounds (is.idxOf k))) (.Kq (by
  rw[List.erase_eq_eraseIdx_of_idxOf rfl,show(items.eraseIdxIfInBounds (is.idxOf k)).toList=items.toList.eraseIdx (is.idxOf k) by rw[Array.eraseIdxIfInBounds_eq];simp[(iV ri (bh q1).1).1]];exact o5 ri _))
 exact⟨items,n,isInt k,is.idxOf k,(iV ri (bh q1).1).1,f9 (r.size▸len),t1,fun y hy=>eq_isInt k _ ri y (Array.mem_toList_iff.mpr hy),(iV ri (bh q1).1).2.1,(iV ri (bh q1).1).2.2,_,_,_,_,g.gs.trans G2,K2,.nxt,(bh q1).2⟩
theorem ue{n:Nat}{k:Int}{t:Tok}{u x:Value}{j:Nat}{T:Unit→Shared→Prop}(hl:IsL s.heap D items n)
  (hj:(0≤k∧k=j)∨(k<0∧k+items.size=j)) (hjs:j<items.size) (hz:items.size≤200000) (hx:items[j]? =some x)
  (q:T () { s with heap:=s.heap.update D (Obj.mapSeq (·.setIfInBounds j u)) }):wpAny c.M A (setItem (.ref D) (.int k t) u) T E s:=by
 have hl':=hl.isList;unfold setItem
 try with_reducible refine bN ?_
 refine av (wpAny_sequenceKey hl'.typeIs (by decide) ?_)
 refine av (wpAny_callSpecial?_slot (name:=Str.ofString "__setitem__") hl'.typeIs slot_list_setitem
  (wpAny_call_entry slot_list_setitem hl'.typeIs entry_list_setitem ?_ (args_list_setitem _ _ _)))
 show wpAny _ _ (Builtin.List.listSubscript? (.int k t)>>=_) _ _ s;rcases hj with⟨h0,hk⟩|⟨h0,hk⟩
 ·refine av (wpAny_listSubscript_int (fitsIndex_of h0 (by omega)) ?_);subst hk;show wpAny _ _ ((seqItemAt D j>>=fun r=>pure (r.map (j,·)))>>=_) _ _ s;refine av (av (wpAny_seqItemAt hl rfl (aI ?_)));rw[hx];show wpAny _ _ (setSeqItemAt D j u>>=_) _ _ s;refine av (wpAny_setSeqItemAt hl rfl ?_)
  first
   |exact av (aI (aI ⟨.none,rfl,aI q⟩))
   |exact aI ⟨.none,rfl,aI q⟩
 ·refine av (wpAny_listSubscript_int (fitsIndex_neg h0 (by omega)) ?_);have hidx:seqIndex? k items.size=some j:=by rw[seqIndex_neg h0 (by omega),hk];rfl
  obtain⟨i,rfl⟩:∃j:Nat,k=Int.negSucc j:=by
   cases k with
   |ofNat n=>exact absurd h0 (Int.not_lt.mpr (bL n))
   |negSucc n=>exact⟨n,rfl⟩
  show wpAny _ _ ((Builtin.List.listItems (.ref D)>>=fun xs=>pure ((seqIndex? (Int.negSucc i) xs.size).bind fun i=>xs[i]?.map (i,·)))>>=_) _ _ s;refine av (av ?_);show wpAny _ _ (seqItems? (.ref D)>>=_) _ _ s;refine av (wpAny_seqItems hl rfl (aI (aI ?_)));rw[hidx];simp only[Option.bind_some,hx,Option.map_some];show wpAny _ _ (setSeqItemAt D j u>>=_) _ _ s;refine av (wpAny_setSeqItemAt hl rfl ?_)
  first
   |exact av (aI (aI ⟨.none,rfl,aI q⟩))
   |exact aI ⟨.none,rfl,aI q⟩
theorem Bl{T:Value→Shared→Prop}(N:gO x y i)(hl:(ap.endLine==p.line)=true)(K:cJ x c env ρ own H s)(e0:ρ[i]? =some (some (true,.Jq m)))(e1:m.getLast? =some v)(q:∀u s',cJ x c env (fq ρ i (.Jq m.dropLast)) own H s'→Gs x c own H s own H s'→du c.P H v u→T u s'):
  wpAny c.M c.A (eval (.Call (.Attribute (.Name y p2) "pop" ap) [] [] p) env) T E s:=by
 refine wpAny_Call_method0_late (ik rfl) hl (vy N K e0 fun D items n o len t r=>m7 t F.slot_list_pop F.type_list_pop ?_);have hs:=r.size;rw[List.getLast?_eq_getElem?]at e1;obtain⟨u,eu,ru⟩:=r.get e1
 obtain⟨K2,G2⟩:=K.turn (tk:=s.toks) (m':=m.dropLast) e0 o (cu ..) (List.length_dropLast▸aa (Nat.sub_le ..) len) (t.update fun xs=>xs.eraseIdxIfInBounds (items.size - 1)) (by
  have hz:items.size - 1<items.size:=by rw[hs];exact(ag.mp e1).1
  rw[List.dropLast_eq_take,←hs,Array.eraseIdxIfInBounds_eq,dif_pos hz,Array.toList_eraseIdx,List.eraseIdx_eq_take_drop_succ,List.drop_of_length_le (by rw[dh];omega),aK];exact r.take _)
 exact PySem.P.pop_list t (by rw[hs,←cP];exact eu) (q u _ K2 G2 ru) (f9 (hs▸len))
theorem FN(N:gO x y i)(hl:(ap.endLine==p.line)=true)(hi:x.nm[j]? =some z)(hk:x.kd.lookup z=some kk)(hv:fi kk):cx x (.Assign [.Name z p'] (.Call (.Attribute (.Name y p2) "pop" ap) [] [] p) p3) (.JT (.v j) i):=fun {c env ρ own H s Q X} R ht K z=>by
 obtain⟨m,e0,z⟩:=jv z;obtain⟨v,e1,z⟩:=d4 z;exact wpAny_Assign_Name (Bl N hl K e0 e1 fun u s' K2 G2 ru=>au (uC (D:=0) K2 (.refl K2.st) hi hk hv ru) (fun Z Z w=>G2.sp (w.sp z)) fun Z Z w=>w) (d6 rfl)
theorem Cm(N:gO x y i)(hl:(ap.endLine==p.line)=true)(ha:nK x (.Tuple ts k p') tt):cx x (.Assign [.Tuple ts k p'] (.Call (.Attribute (.Name y p2) "pop" ap) [] [] p) p3) (.JT tt i):=fun {c env ρ own H s Q X} R ht K z=>by
 obtain⟨m,e0,z⟩:=jv z;obtain⟨v,e1,z⟩:=d4 z;obtain⟨ρ',e2,q⟩:=d4 z;exact Assign_Tuple (Bl N hl K e0 e1 fun u s' K2 G2 ru=>au (ha R K2 ru e2) (by rintro _ _ ⟨K3,g3⟩;exact⟨_,_,_,_,G2.trans g3,K3,.nxt,q⟩) fun Z Z w=>w) rfl rfl
theorem C6(N:gO x y i)(hc:e9 e=true)(h:aN x e a)(h3:aN x e3 b):cx x (.Assign [.Subscript (.Name y p') e3 p2] e p) (.J3 i b a):=fun {c env ρ own H s Q X} R ht K z=>
 wpAny_Assign_Subscript (sx (h.E R K.togK z) fun u s1 H1 v g ru q=>by
  obtain⟨m,e0,q⟩:=jv q;refine vy N (K.mv g) e0 fun D items n o len t r=>au (h3.E R (K.mv g).togK q) (fun ku s2 ⟨H2,kv,g2,rk,q⟩=>?_) fun Z Z w=>(g.xp w).JA fun Z w=>w.elim;obtain⟨j,rfl,q1⟩:=db q;obtain⟨n',ej,q2⟩:=d4 q1;obtain⟨t',rfl⟩:=rk.Ju;have hs:=r.size;have t2:=(K.mv g).own2 g2 o t;exact ue t2 (by rw[hs];exact(iN ej).2.1) (hs▸(iN ej).2.2) (hs▸aa len (by decide)) (Array.getElem?_eq_getElem (hs▸(iN ej).2.2)) ⟨_,_,_,_,((g.trans g2).gs (x:=x)).trans (((K.mv g).mv g2).turn (tk:=s2.toks) (m':=m.set n' v) e0 o (cu ..) (by rw[List.length_set];exact len) (t2.update (·.setIfInBounds n' u)) (by rw[Array.toList_setIfInBounds];exact .set (ru.mono g2.base) (r.mono g2.base) _)).2,(((K.mv g).mv g2).turn (tk:=s2.toks) (m':=m.set n' v) e0 o (cu ..) (by rw[List.length_set];exact len) (t2.update (·.setIfInBounds n' u)) (by rw[Array.toList_setIfInBounds];exact .set (ru.mono g2.base) (r.mono g2.base) _)).1,.nxt,q2⟩) (d6 hc)
end
section
variable{M:Model}{A:Around}{E:Value→Shared→Prop}{env:PySem.Env}{l:List PySem.Env}{s s1 s':Shared}{e:Addr}{a0 fl:Value}{Q:Unit→Shared→Prop}{c:Ctx}{ch:Addr→Prop}{H H' H0:Heap}{X:Prop}{s0:Shared}
theorem ji.next{h':Heap}{tk:Nat}(x:ji l s1 e s)(a:(iv l s1).StaysIn h')(b:h'.FunFrames (iv l s1) l)(c:h'.TracedAtW (iv l s1) e cB a0 fl)(d:s.heap.UpToSlots h')(f:fl=.none∨∃env r L,l=env::r∧env.frame=some L∧fl=rawInt L):
  ji l s1 e { s with heap:=h',toks:=tk }:=
 ⟨let⟨_,_,q⟩:=x.eq;⟨_,_,by rw[q]⟩,a,x.fresh,b,x.up.trans d,.inr ⟨a0,fl,c,f⟩⟩
theorem gm{base:Heap}{cls:Value}{fr:Option Addr}(hkb:base.StaysIn s.heap)(hl:s.heap.FunFrames base l)(ht:s.heap.TracedAtW base e cls a0 fl)
  (h:∀h',base.StaysIn h'→h'.FunFrames base l→h'.TracedAtW base e cls a0 (fr.elim .none fun f=>rawInt f)→s.heap.UpToSlots h'→Q () { s with heap:=h' }):wpAny M A (setFlight (.ref e) fr) Q E s:=by
 obtain⟨oe,vs,T,oT,ts,he,hcls,hd,h1,hnT,hTe,hT,hdT,h3⟩:=ht;have other:∀b,b≠T→(s.heap.update T (Obj.mapFields (·.setIfInBounds 3 (fr.elim Value.none fun f=>rawInt f)))).get? b=s.heap.get? b:=fun b hb=>Heap.get?_update_other _ _ (Ne.symm hb)
 have nr:∀b o,s.heap.get? b=some o→(∀vs,o.data≠.fields vs)→b≠T:=fun b o hb hnf q=>by
  rw[q,hT]at hb;obtain rfl:=ah (hb);exact hnf ts hdT
 unfold setFlight;refine av (wpAny_field he hd h1 ?_);rw[aB (show(Value.ref T !=Value.none)=true from by simp)]
 exact wpAny_setField hT hdT (show 3<ts.size from(Array.getElem?_eq_some_iff.mp h3).1) (h _ (fun b o hbo=>(other b fun q=>by rw[q,hnT]at hbo;cases hbo).trans (hkb b o hbo))
  (hl.of_keeps fun b o hb hnf=>⟨o,(other b (nr b o hb hnf)).trans hb,rfl⟩) ⟨oe,vs,T,_,_,(other e (Ne.symm hTe)).trans he,hcls,hd,h1,hnT,hTe,Heap.get?_update_self _ hT (Obj.isFreed_of_fields (Obj.data_mapFields hdT _)),Obj.data_mapFields hdT _,by simp[(show 3<ts.size from(Array.getElem?_eq_some_iff.mp h3).1)]⟩
  fun b o hb hnf=>⟨o.slots,(other b (nr b o hb hnf)).trans hb⟩)
theorem mZ(hfr:A.frames=some l)(ht:pK l env)(x:ji l s1 e s)(q:∀h' a0 L,env.frame=some L→h'.TracedAtW (iv l s1) e cB a0 (rawInt L)→ji l s1 e { s with heap:=h' }→Q () { s with heap:=h' }):wpAny M A (noteFrame (.ref e) env) Q E s:=by
 obtain⟨r,rfl⟩:=ht;obtain⟨_,⟨L,_,hf,_⟩,_⟩:=(x.ff)
 have mk:∀{h' a0 oe},oe=cB→Heap.NotedW (iv (env::r) s1) (env::r) e oe a0 (rawInt L) s.heap h'→Q () { s with heap:=h' }:=fun eq ⟨n1,n2,n3,n4⟩=>by
  subst eq;exact q _ _ L hf n3 (x.next n1 n2 n3 n4 (.inr ⟨env,r,L,rfl,hf,rfl⟩))
 rcases x.Lg with⟨oe,vs,a0,he,hc,hd,h1,h0⟩|⟨a0,fl,ht,rfl|⟨env',r',L',el,hf',rfl⟩⟩
 ·unfold noteFrame;simp only[hf];refine av (wpAny_field he hd h1 ?_);rw[aC (by decide)];exact wpAny_entryW hfr x.ff hf he x.stays x.fresh hd (Array.getElem?_eq_some_iff.mp h1).1 h0 fun h' n=>mk hc n
 ·exact wpAny_noteFrame_onW hfr x.ff hf ht x.stays x.fresh fun h' n=>mk rfl n
 ·cases el;exact wpAny_noteFrame_againW hf' ht (q s.heap a0 L' hf' ht x)
theorem sT(hfr:A.frames=some c.l)(ht:pK c.l env):PassesOwn M A env (XP c ch H s X):=by
 rintro x s' ⟨H1,s1,e,g,hX,rfl,f⟩;refine mZ hfr ht f fun h' a0 L hf t f'=>?_
 have f1:=f';obtain⟨oe,vs,T,oT,ts,he,hcls,hd,h1,_⟩:=t;refine av (wpAny_field he hd h1 ?_);rw[aC (show ¬((Value.ref T==Value.none)=true)from b6)];refine gm (l:=c.l) f'.stays f'.ff ⟨oe,vs,T,oT,ts,he,hcls,hd,h1,by assumption⟩ fun h2 k1 k2 k3 k4=>⟨H1,s1,e,g,hX,rfl,?_⟩;obtain⟨r,e⟩:=ht;exact f'.next k1 k2 k3 k4 (.inr ⟨env,r,L,e,hf,by rw[hf];rfl⟩)
theorem ji.calm(x:ji c.l s1 e s)(S:St c H s1):Mv c no H s1 H s:=by
 have k:km (kA c.l) no s1.heap s.heap:=fun b o h Z=>by
  by_cases hf:b∈kA c.l
  ·refine⟨fun q=>absurd hf q,x.up b o h ?_⟩;obtain⟨_,o',e',hd⟩:=S.ff.mem hf;rw[h]at e';obtain rfl:=ah (e');exact hd
  ·have:=x.stays b o (hideAll_get _ h hf);exact⟨fun Z=>this,o.slots,this⟩
 obtain⟨h,tk,e⟩:=x.eq;subst e;exact(Mv.refl S).step k (fun b o q=>(k b o (S.stays b o q) fun z=>z).1 fun z=>by rw[(S.frOld z).1]at q;cases q) fun Z Z z=>z
end
section
noncomputable def iH(e:Expr)(v:V):Prop:=∀{prog w A s env}{R:Value→Shared→Prop}{E:Value→Shared→Prop},(∀u tk,(∀P H,du P H v u)→R u { s with toks:=tk })→wpAny (model prog w) A (eval e env) R E s
inductive IN(x:Cx)(c:Ctx)(env:PySem.Env)(own:ez)(H:Heap)(s:Shared)(Z:Env→Prop)(s1:Shared):Prop
 |mk (own1:ez) (H1:Heap) (ρ1:Env) (g:Gs x c own H s own1 H1 s1) (K:cJ x c env ρ1 own1 H1 s1) (z:Z ρ1)
variable{x x':Cx}{c:Ctx}{A:Around}{env:PySem.Env}{ρ:Env}{own own' own0:ez}{H H' H0 H1 H2 h h':Heap}{s s' s0 s1:Shared}{X:Prop}{E:Value→Shared→Prop}{Q:Flow×Env→Prop}{R R':Nat→Bool×V→Value→Prop}
variable{i j k slot kd:Nat}{v:V}{u:Value}{tk:Nat}{p p' p2 p3 p4 np cp:Pos}{e e2 e3 ce:Expr}{a b it:CE}{sts:List Stmt}{bs:CS}
theorem ub:iH (.Constant .none kd p) .none:=fun q=>PyProof.Rows.Constant_none (q _ _ fun Z Z=>uM)
theorem wj{i:Int}:iH (.UnaryOp .USub (.Constant (.int i) kd p) p') (.int (-i)):=fun q=>UnaryOp_ (wpAny_Constant_int (PyProof.Rows.neg_int (q _ _ fun Z Z=>iD)))
theorem E6(ho:x.own=false)(hx:ml x "BadCode")(hc:iH ce v)(h:aN x e a):cx x (.Try [.Return (some e) p] [.ExceptHandler (some (.Name "BadCode" np)) none [.Return (some ce) p2] p3] [] [] p4) (.JL a v):=fun {c env ρ own H s Q X} R ht K z=>by
 have h0:wpAny c.M c.A (execs [.Return (some e) p] env) (fun fl s1=>∃u,fl=.ret u∧NP c H s (fun v=>Q (.ret v,ρ)) u s1) (XP c no H s (Q (.ret v,ρ))) s:=
  lG (wpAny_Return_some (au (h.E R K.togK z) (fun u s1 z=>⟨u,rfl,z⟩) fun Z Z z=>z))
 refine wpAny_Try_except (au h0 (fun fl s1 ⟨u,e,H1,v1,g,r,q⟩=>?_) fun e s1 z=>?_)
 ·subst e;exact⟨_,_,_,_,g.gs,K.mv g,.ret ho r,q⟩
 ·obtain⟨H1,s2,ea,g1,q,rfl,f⟩:=z;refine mZ R.o.fr ht f fun h3 a0 L hf t f3=>?_
  refine gm (l:=c.l) f3.stays f3.ff t fun h4 k1 k2 k3 k4=>?_
  have f4:ji c.l s2 ea { s1 with heap:=h4 }:=f3.next (tk:=s1.toks) k1 k2 k3 k4 (.inl rfl);have g14:=g1.trans (f4.calm g1.st);obtain⟨nm,qn,N,bs,bm,hdct,sn,sub,ab,col,dd,c0,c1,c2,c3,c5,hC,_,_,_,hbase⟩:=R.gk.badObj;obtain⟨oe,vs,T,oT,ts,he,hcls,_⟩:=k3;refine wpAny_handleBy_cons (codeAny_handlers_test (jy (K.mv g14).nk (K.mv g14).st hx R.gk.bad.1 ?_)) (by intro q;cases q);refine wpAny_excMatches_sub_self ((g14.st.gf.inK.keeps g14.st.stays) _ _ hC) he hcls.1 hbase ?_
  rw[aB rfl];refine codeAny_handlers_suite (gm (l:=c.l) f4.stays f4.ff ⟨oe,vs,T,oT,ts,he,hcls,by assumption⟩ fun h5 j1 j2 j3 j4=>?_);have f5:ji c.l s2 ea { s1 with heap:=h5 }:=f4.next (tk:=s1.toks) j1 j2 j3 j4 (.inl rfl);refine lG (wpAny_Return_some (hc fun u tk r=>?_));exact⟨_,_,_,_,((g1.trans (f5.calm g1.st)).toks (tk:=tk)).gs,K.mv ((g1.trans (f5.calm g1.st)).toks (tk:=tk)),.ret ho (r _ _),q⟩
theorem wy{M:Model}{y:Sem Value}{nm qn:Str}{N:Addr}{bs bm:List Value}{hdct:Bool}{sn:List Str}{sub:List Value}{ab:Bool}{col:Option Bool}{dd:Option Addr}{c0 c1 c2 c3 c5:Option Value}{newId:String}{T:PySem.Flow→Shared→Prop}
  (hbase:bm.contains (.type "BaseException")=true) (hh:A.handled=none) (h:wpAny M A y (fun v s₁=>∃e t dx,v=.ref e∧s₁.heap.get? 44=some (excClassObj nm qn 44 N bs bm hdct sn sub ab col dd c0 c1 c2 c3 c5 newId)∧
   s₁.heap.get? e=some { cls:=cB,dict:=dx,data:=.fields #[.ref t,.none,.none,.none,.bool false,.none] }∧E (.ref e) s₁) E s):wpAny M A (raiseStmt env (some y) none) T E s:=by
 have hcB:(Value.ref 44::bm).contains (.type "BaseException")=true:=by rw[List.contains_cons,hbase,Bool.or_true]
 unfold raiseStmt;refine av (au h (fun v s₁ h₁=>?_) fun Z Z x=>x);obtain⟨e,t,dx,rfl,hC,he,hE⟩:=h₁
 repeat (first | with_reducible refine dI he ?_ | with_reducible refine dI hC ?_ | (with_reducible refine wpAny_isSubtype_exc hC ?_;rw[hcB]) | wp_step)
 exact wpAny_raiseNew_none hh hE
theorem As(hx:ml x "BadCode")(hs:ba e=true)(h:aN x e a){y:Str}:cx x (.Raise (some (.Call (.Name "BadCode" np) [.Constant (.str y) kd p,e] [] cp)) none p2) (.JC a):=fun {c env ρ own H s Q X} R ht K z=>by
 rw[arm_exec_Raise];obtain⟨nm,qn,N,bs,bm,hdct,sn,sub,ab,col,dd,c0,c1,c2,c3,c5,hC,_,_,_,hbase⟩:=R.gk.badObj
 refine av (cQ (wy (nm:=nm) (qn:=qn) (N:=N) (bs:=bs) (bm:=bm) (hdct:=hdct) (sn:=sn) (sub:=sub) (ab:=ab) (col:=col) (dd:=dd) (c0:=c0) (c1:=c1) (c2:=c2) (c3:=c3) (c5:=c5) (newId:="Exception.__new__") hbase R.o.hh
  (av (au (cC (jy K.nk K.st hx R.gk.bad.1 (i9 (by rw[List.all_cons,List.all_cons,hs];rfl) R.gk.bad.2 ?_))) (fun v s₃ h₃=>av (cQ (aI h₃))) fun Z Z x=>x))))
 refine b4 (dq (b4 ?_));have gt:Mv c no H s H { s with toks:=s.toks+1 }:=(Mv.refl K.st).toks;refine au (bx gt (h.E R (K.mv gt).togK (Q:=fun Z=>X) z) fun u s1 H1 v g Z r q=>cF ⟨g.st.gf.inK.keeps g.st.stays,?_⟩) (fun Z Z z=>z) fun Z Z z=>z.JA fun Z z=>z.elim;refine au (R.bad g.st) (fun v' s2 nb=>?_) fun Z Z z=>z;obtain⟨ea,h',tk,t,dx,rfl,rfl,kp,hnew,hobj⟩:=nb;have kc:(iv c.l s1).StaysIn h':=fun b o q=>kp b o (of_hideAll _ q)
 have fresh:(iv c.l s1).get? ea=none:=by
  cases q:(iv c.l s1).get? ea with
  |none=>rfl
  |some o=>rw[of_hideAll _ q]at hnew;cases hnew
 refine⟨ea,t,dx,rfl,kp _ _ (g.st.stays _ _ (g.st.gf.inK _ _ hC)),hobj,H1,s1,ea,g.JA fun Z z=>z.elim,q,rfl,⟨h',tk,rfl⟩,kc,fresh,?_,.of_keeps kp,.inl ⟨_,_,_,hobj,rfl,rfl,rfl,rfl⟩⟩;exact(funFrames_hide g.st.ff fun env he a ha=>List.mem_filterMap.mpr ⟨env,he,ha⟩).of_keeps fun b o q Z=>⟨o,kp b o q,rfl⟩
theorem Eu(h:aN x e a)(h2:fC x sts bs):cx x (.While e sts [] p) (.J7 a bs):=fun {c env ρ own H s Q X} R ht K z=>by
 refine wpAny_While (codeAny_whileLoop (fun k s1=>IN x c env own H s (fun ρ=>gS (fun ρ=>bc (aY c.F a ρ) da) (bJ c.F x.io bs) k ρ Q X) s1) ?_ lim ⟨own,H,ρ,.refl K.st,K,z⟩);rintro k s1 ⟨own1,H1,ρ1,g1,K1,z⟩;have pass:=sT (M:=c.M) (ch:=ch own) (H:=H) (s:=s) (X:=X) R.o.fr ht;cases k with
 |zero=>exact z.elim
 |succ k=>
  refine au (h.T R K1.togK (Q:=fun v=>da v (fun t=>(cond t (bc (bJ c.F x.io bs ρ1) fun p=>match p.1 with
   |.ret u=>ok (.ret u,p.2)
   |_=>gS (fun ρ=>bc (aY c.F a ρ) da) (bJ c.F x.io bs) k p.2) (ok (.nxt,ρ1)):Mine.R (Flow×Env)) Q X) X) (fun v z=>ib z) z) (fun t s2 ⟨H2,v,g2,e,q⟩=>?_) fun e s2 z=>pass e s2 (g1.xp (z.JA fun Z z=>z.elim))
  obtain⟨t',e',q⟩:=ig q;rw[e]at e';obtain rfl:=ah (e');have g12:=g1.trans g2.gs;cases t with
  |false=>exact aI ⟨_,_,_,_,g12,K1.mv g2,.nxt,q⟩
  |true=>
   rw[aB rfl];refine au (h2 R ht (K1.mv g2) q) (fun fl s3 ⟨own3,H3,ρ3,f,g3,K3,r3,z⟩=>?_) fun e s3 z=>pass e s3 (g12.xp z);have g13:=g12.trans g3;induction r3 with
   |nxt=>exact⟨k,a4 _,own3,H3,ρ3,g13,K3,z⟩
   |cont=>exact⟨k,a4 _,own3,H3,ρ3,g13,K3,z⟩
   |ret o r=>exact⟨_,_,ρ3,_,g13,K3,.ret o r,z⟩
   |Kd o w a b d e=>exact⟨_,_,ρ3,_,g13,K3,.Kd o w a b d e,z⟩
noncomputable def mD(t:Expr):Prop:=(∃x p,t=.Name x p)∨∃es k p,t=.Tuple es k p
noncomputable abbrev Bs:List String:=["enumerate","zip","dict_itemiterator","dict_reverseitemiterator","odict_iterator","itertools.zip_longest","itertools.pairwise"]
end
section
variable{x x':Cx}{c:Ctx}{A:Around}{env:PySem.Env}{ρ:Env}{own own' own0:ez}{H H' H0 H1 H2 h h':Heap}{s s' s0 s1:Shared}{X:Prop}{E:Value→Shared→Prop}{Q:Flow×Env→Prop}
variable{i j k slot kd:Nat}{v:V}{u:Value}{tk:Nat}{p p' p2 p3 p4 np cp:Pos}{e e2 e3 ce t:Expr}{a b it:CE}{sts:List Stmt}{bs:CS}{I a0:Addr}{tt:T}{ms:List V}{wr:List Addr}
theorem ur{elts:List Expr}{x1}{pos:Pos}{o:PySem.Obj}{T:String}{vs:Array Value}{y:Value}{Q:Unit→Shared→Prop}(e:s.heap.get? I=some o)(hc:o.cls=.type T)(hd:o.data=.fields vs)
  (hT:Bs.contains T=false) (hQ:Q () s):wpAny c.M A (letOwnedTupleGo (.Tuple elts x1 pos) (.ref I) y) Q E s:=by
 cases y with
 |ref a=>
  unfold letOwnedTupleGo;refine av (wpAny_load e ?_);rw[hc,hd];show wpAny _ A (if(Bs.contains T&&vs[0]? ==some (rawInt a))=true then _ else _) Q E s;rw[hT,Bool.false_and,aC b6];exact aI hQ
 |_=>exact aI hQ
theorem Cz{y:Value}{Q:Unit→Shared→Prop}(ht:mD t)(hI:jx s.heap I i v u)(hQ:Q () s):wpAny c.M A (letOwnedTupleGo t (.ref I) y) Q E s:=by
 rcases ht with⟨x,p,rfl⟩|⟨es,k,p,rfl⟩
 ·exact aI hQ
 ·induction hI with
  |Jq x=>obtain⟨o,e,hc,hd⟩:=x;exact ur e hc hd (by decide) hQ
  |Js x=>obtain⟨o,e,hc,hd⟩:=x;exact ur e hc hd (by decide) hQ
  |rng x=>exact ur (show s.heap.get? I=some _ from x) rfl rfl (by decide) hQ
theorem cJ.pick(K:cJ x c env ρ own H s)(g:Gs x c own0 H0 s0 own H s)(S0:St c H0 s0)(h0:s0.heap.get? a0=none)(ho:own a0=none):
  ∃H',cJ x c env ρ own H' s∧Gs x c own0 H0 s0 own H' s∧H.StaysIn H'∧(∀o,s.heap.get? a0=some o→H'.get? a0=some o)∧∀a,H.get? a=none→a≠a0→H'.get? a=none:=by
 obtain⟨H',S,b,d,n⟩:=K.st.pick (·=a0) fun q e z=>(S0.frOld e).2 (z▸h0);have ne:∀{a},own a≠none→a≠a0:=fun e z=>e (z▸ho)
 exact⟨H',⟨⟨K.nk,S,K.vs.keep (fr:=[]) (ch:=no) .refl (fun z=>z) (fun Z Z Z Z Z Z Z Z z=>z) fun i v u f=>f.mono b fun a k e=>⟨e,fun o e=>e⟩,
  ⟨fun a i k e=>let⟨h1,h2,h3⟩:=K.ow.off a i k e;⟨n a h1 (ne (by rw[e];exact(by intro h;cases h))),h2,h3⟩,K.ow.uniq,fun a e=>let⟨h1,h3⟩:=K.ow.live a e;⟨n a h1 (ne e),h3⟩⟩⟩,K.loc,K.cel⟩,
  ⟨⟨S,g.mv.eq,fun a o e=>b a o (g.mv.base a o e),g.mv.keep,fun a h1 h2 h3=>n a (g.mv.JM a h1 h2 h3) fun z=>h1 (z▸h0)⟩,g.ow,g.io⟩,b,fun o e=>d a0 o e rfl,n⟩
inductive B1(x:Cx)(c:Ctx)(env:PySem.Env)(own:ez)(H:Heap)(s:Shared)(It:Heap→Nat→Prop)(wr:List Addr)(v:V)(u:Value)(ms:List V)(Z:List V→Env→Prop)(i:Nat)(s1:Shared):Prop
 |mk (own1:ez) (H1:Heap) (ρ1:Env) (g:Gs x c own H s own1 H1 s1) (K:cJ x c env ρ1 own1 H1 s1) (I:It s1.heap i) (r:du c.P H1 v u) (w:∀a∈wr,H1.get? a=none∧own1 a=none) (z:Z (ms.drop i) ρ1) (h:i≤ms.length)
inductive HR(c:Ctx)(s:Shared)(H1:Heap)(s1:Shared)(It:Heap→Nat→Prop)(wr:List Addr)(i:Nat)(x:V)(y:Value)(s3:Shared):Prop
 |mk (h':Heap) (tk:Nat) (a0:Addr) (e:s3={ s1 with heap:=h',toks:=tk }) (k:∀b o,b∉wr→s1.heap.get? b=some o→h'.get? b=some o) (I:It h' (i+1)) (n:s.heap.get? a0=none∧s1.heap.get? a0=none) (r:∀H',H1.StaysIn H'→(∀o,h'.get? a0=some o→H'.get? a0=some o)→du c.P H' x y)
theorem sj{It:Heap→Nat→Prop}(R:k9 c)(ht:pK c.l env)(K:cJ x c env ρ own H s)(h0:∀a∈wr,s.heap.get? a=none)(hq:∀{h i},It h i→∀a∈wr,h.get? a≠none)
  (hk:∀{h h' i},It h i→(∀a∈wr,∀o,h.get? a=some o→h'.get? a=some o)→It h' i) (ha:nK x t tt) (hB:fC x sts bs)
  (nxt:∀{H1 s1 i xv E},St c H1 s1→du c.P H1 v u→It s1.heap i→ms[i]? =some xv→wpAny c.M c.A (pyNext (.ref I)) (fun r s2=>∃y,r=some y∧
   wpAny c.M c.A (letOwnedTupleGo t (.ref I) y) (fun Z s3=>HR c s H1 s1 It wr i xv y s3) E s2) E s1)
  (fin:∀{H1 s1 E},St c H1 s1→du c.P H1 v u→It s1.heap ms.length→wpAny c.M c.A (pyNext (.ref I)) (fun r s2=>r=none∧∃h' tk,s2={ s1 with heap:=h',toks:=tk }∧(∀b o,b∉wr→s1.heap.get? b=some o→h'.get? b=some o)) E s1)
  (L:B1 x c env own H s It wr v u ms (fun l ρ=>fT (fun v ρ=>bc (ft (cS tt v ρ)) (bJ c.F x.io bs)) l ρ Q X) 0 s1):
  codeAny c.M c.A (.forLoop t (.ref I) sts [] env) (fun r s'=>match r with | .ok f=>SP x c env own H s Q f s' | .error e=>cameBackBy c.M c.A env (XP c (ch own) H s X) e s') s1:=by
 refine codeAny_forLoop_any (fun k s1=>∃i,k=ms.length+1 - i∧B1 x c env own H s It wr v u ms (fun l ρ=>fT (fun v ρ=>bc (ft (cS tt v ρ)) (bJ c.F x.io bs)) l ρ Q X) i s1) ?_ (ms.length+1) ⟨0,rfl,L⟩
 rintro k s1 ⟨i,rfl,own1,H1,ρ1,g1,K1,hI,ru,hw,W,hi⟩;have hw1:∀a∈wr,s.heap.get? a=none∧H1.get? a=none∧own1 a=none:=fun a q=>⟨h0 a q,hw a q⟩;by_cases hlt:i<ms.length
 ·rw[List.drop_eq_getElem_cons hlt]at W;refine au (nxt K1.st ru hI (dz hlt)) (fun r s2 ⟨y,e,z⟩=>e▸au z (fun Z s3 ⟨h',tk,a0,e,hke,hI',n0,hr⟩=>?_) fun Z Z z=>z) fun Z Z z=>z;subst e;obtain⟨ρ2,e2,W⟩:=d4 W;obtain⟨K2,g2⟩:=K1.priv (tk:=tk) g1 K.st hw1 hke;obtain⟨H3,K3,g3,b3,d3,n3⟩:=K2.pick g2 K.st n0.1 (K1.off n0.2);have ne:∀a∈wr,a≠a0:=fun a q z=>hq hI a q (z▸n0.2);refine au (ha R K3 (hr H3 b3 d3) e2) (fun Z s4 ⟨K4,g4⟩=>?_) fun Z Z z=>z;refine au (hB R ht K4 W) (fun fl s5 ⟨own5,H5,ρ5,f,g5,K5,r5,z⟩=>?_) fun e s5 z=>(sT (M:=c.M) (ch:=ch own) (H:=H) (s:=s) (X:=X) R.o.fr ht) e s5 ((g3.trans g4).xp z);have g35:=g4.trans g5;have g15:=(g3.trans g4).trans g5;have hx:∀a∈wr,¬ch own1 a:=fun a q z=>z (hw a q).2
  have again:fT (fun v ρ=>bc (ft (cS tt v ρ)) (bJ c.F x.io bs)) (ms.drop (i+1)) ρ5 Q X→∃m,m<ms.length+1 - i∧∃i,m=ms.length+1 - i∧B1 x c env own H s It wr v u ms (fun l ρ=>fT (fun v ρ=>bc (ft (cS tt v ρ)) (bJ c.F x.io bs)) l ρ Q X) i s5:=
   fun z=>⟨_,by omega,i+1,rfl,own5,H5,ρ5,g15,K5,hk hI' fun a q o e=>(g35.mv.keep a o e (hx a q)).1 fun w=>(K.st.frOld w).2 (h0 a q),ru.mono fun a o e=>g35.mv.base a o (b3 a o e),
    fun a q=>⟨g35.mv.JM a (hq hI' a q) (hx a q) (n3 a (hw a q).1 (ne a q)),g35.ow a (hq hI' a q) (hw a q).2⟩,z,hlt⟩
  induction r5 with
  |nxt=>exact again z
  |cont=>exact again z
  |ret o r=>exact⟨_,_,ρ5,_,g15,K5,.ret o r,z⟩
  |Kd o w a b d e=>exact⟨_,_,ρ5,_,g15,K5,.Kd o w a b d e,z⟩
 ·have hi':i=ms.length:=by omega
  subst hi';rw[List.drop_length]at W;refine au (fin K1.st ru hI) (fun r s2 ⟨e,h',tk,e',hke⟩=>?_) fun Z Z z=>z;subst e e';obtain⟨K2,g2⟩:=K1.priv (tk:=tk) g1 K.st hw1 hke;exact wpAny_execs_nil ⟨_,_,_,_,g2,K2,.nxt,W⟩
theorem jx.ne(hI:jx h I i v u):h.get? I≠none:=by
 induction hI with
 |Jq x=>obtain⟨o,e,_⟩:=x;rw[e];exact nofun
 |Js x=>obtain⟨o,e,_⟩:=x;rw[e];exact nofun
 |rng x=>rw[show h.get? I=some _ from x];exact(by intro h;cases h)
theorem xH(g:Mv c no H s H1 s1){b:Addr}(hb:s1.heap.objs.size≤b)(e:h.get? b≠none):s.heap.get? h.objs.size=none:=bg fun z=>by
 obtain⟨o,q⟩:=aG.mp (g.keep.some z fun z=>z);obtain⟨o',q'⟩:=aG.mp e;exact absurd (dS q) (bS.mpr (aa hb (aE (dS q'))))
theorem Gm(hs:fy e=true)(hT:mD t)(h:aN x e a)(ha:nK x t tt)(hB:fC x sts bs):cx x (.For t e sts [] p) (.C tt a bs):=fun {c env ρ own H s Q X} R ht K z=>
 wpAny_For (sx (h.E R K.togK z) fun u s1 H1 v g1 r1 z=>by
  obtain⟨m,hm,z⟩:=d4 z;refine pB g1.st r1 hm fun o hI=>?_
  have g2:Mv c no H s H1 { s1 with heap:=s1.heap.push o,toks:=s1.toks }:=g1.keeps fun b o' e=>aH _ e;have one:∀{P:Addr→Prop},P s1.heap.objs.size→∀a∈[s1.heap.objs.size],P a:=fun q a ha=>by rw[aq.mp ha];exact q
  exact sj (wr:=[s1.heap.objs.size]) (It:=fun h i=>jx h s1.heap.objs.size i v u) (ms:=m) (tt:=tt) (bs:=bs) (v:=v) (u:=u) R ht K (one (g1.off (cK (h:=s1.heap)))) (fun x=>one x.ne) (fun x k=>x.keep (k _ (.head _))) ha hB
   (fun {H2 s2 i xv E} S2 r2 hI2 hx=>pP S2 r2 hm hI2 hx fun y h' tk k hI' ry=>⟨y,rfl,Cz hT hI' ⟨h',tk,s2.heap.objs.size,rfl,fun b o hb e=>(k.2 b fun q=>hb (q▸.head _)).trans e,hI',⟨xH g1 (aM _) hI2.ne,cK⟩,fun H' b Z=>ry.mono b⟩⟩)
   (fun {H2 s2 E} S2 r2 hI2=>rt R.o.hh S2 r2 hm hI2 (aM _) fun h' k=>⟨rfl,h',s2.toks,rfl,fun b o hb e=>k b o (fun q=>hb (q▸.head _)) e⟩)
   ⟨own,H1,ρ,g2.gs,K.mv g2,hI,r1,one ⟨g1.st.off cK,K.off (g1.off (cK (h:=s1.heap)))⟩,(bh z).2,aQ _⟩) (lF hs)
inductive H8(I e l:Addr)(h:Heap)(i:Nat):Prop
 |mk (old:Value) (hit:h.IsListIter I l i) (he:IsEnum h e I (i:Int) old)
theorem two{P:Addr→Prop}{a b:Addr}(p1:P a)(p2:P b):∀x∈[a,b],P x:=fun x hx=>by
 rcases az.mp hx with rfl|hx
 ·exact p1
 ·rw[aq.mp hx];exact p2
theorem vF{ts:List Expr}(hx:ml x "enumerate")(hs:ba e=true)(h:aN x e a)(ha:nK x (.Tuple ts k p2) tt)(hB:fC x sts bs):
  cx x (.For (.Tuple ts k p2) (.Call (.Name "enumerate" p') [e] [] p) sts [] p3) (.J0 tt a bs):=fun {c env ρ own H s Q X} R ht K z=>
 wpAny_For (cC (k7 K.nk K.st hx (R.gk.KE ("enumerate",.type "enumerate") (by decide)) (jA (.inr ⟨_,rfl⟩) (by rw[List.all_cons,hs];rfl) (b4 (sx (h.E R K.togK z) fun u s1 H1 v g1 r1 z=>cF (by
  obtain⟨m,rfl,z⟩:=fD z;obtain⟨cc,items,n,rfl,hm,hl,rl⟩:=r1.Ju;have hl1:=g1.st.stays _ _ hl;refine call_enumerate_1 hl1 fun h' he hit hsz kp=>wpAny_pyIter_enum he ?_
  have g2:Mv c no H s H1 { s1 with heap:=h',toks:=s1.toks }:=g1.keeps kp;have nI:=cK (h:=s1.heap);have nE:=gb (h:=s1.heap) 1
  refine sj (wr:=[s1.heap.objs.size,s1.heap.objs.size+1]) (It:=H8 s1.heap.objs.size (s1.heap.objs.size+1) cc) (ms:=m.mapIdx fun i v=>.Js [.int i,v]) (tt:=tt) (bs:=bs) (v:=.Jq m) (u:=.ref cc) R ht K (two (g1.off nI) (g1.off nE))
   (fun⟨old,⟨o,e,Z1⟩,he⟩=>two (by rw[e];exact nofun) (by rw[show _=some _ from he];exact nofun)) (fun⟨old,⟨o,e,hc,hd⟩,he⟩ k=>⟨old,⟨o,k _ (.head _) o e,hc,hd⟩,k _ (.tail _ (.head _)) _ he⟩) ha hB ?_ ?_
   ⟨own,H1,ρ,g2.gs,K.mv g2,⟨.none,hit,he⟩,r1,two ⟨g1.st.off nI,K.off (g1.off nI)⟩ ⟨g1.st.off nE,K.off (g1.off nE)⟩,(bh z).2,aQ _⟩
  ·intro H2 s2 i xv E S2 r2 ⟨old,hit2,he2⟩ hx;rw[List.getElem?_mapIdx]at hx;obtain⟨y0,hy0,rfl⟩:=bY.mp hx;obtain⟨cc',items',n',ec,hm',hl2,rl2⟩:=r2.Ju;cases ec;obtain⟨y,hy,ry⟩:=rl2.get hy0;refine wpAny_pyNext_enum_item he2 hit2 (dJ (S2.stays _ _ hl2)) ((cP).symm▸hy) (show s1.heap.objs.size+1≠s1.heap.objs.size from Nat.succ_ne_self _) fun h3 heo hit3 htu hsz3 k3=>⟨_,rfl,?_⟩;refine wpAny_letOwnedTupleGo_enum heo fun h4 he4 k4=>?_
   replace k4:Heap.SameBut (s1.heap.objs.size+1) h3 h4:=k4
   refine⟨h4,s2.toks+1,s2.heap.objs.size,rfl,fun b o hb e=>(k4.2 b fun q=>hb (q▸.tail _ (.head _))).trans (k3 b o (fun q=>hb (q▸.tail _ (.head _))) (fun q=>hb (q▸.head _)) e),⟨y,hit3.extBut k4.extBut (Ne.symm (show s1.heap.objs.size+1≠s1.heap.objs.size from Nat.succ_ne_self _)),?_⟩,
    ⟨xH g1 (d8 _) (by rw[show _=some _ from he2];exact nofun),cK⟩,fun H' b q=>.Js (show 2≤100000 by decide) ⟨_,q _ ((k4.2 _ (Nat.ne_of_gt (show s1.heap.objs.size+1<s2.heap.objs.size from dS he2))).trans htu),rfl,_,rfl⟩ (.cons iD (ry.mono b)) .nil⟩
   rw[show((i+1:Nat):Int)=(i:Int)+1 from rfl];exact he4
  ·intro H2 s2 E S2 r2 ⟨old,hit2,he2⟩;obtain⟨cc',items',n',ec,hm',hl2,rl2⟩:=r2.Ju;cases ec;exact wpAny_pyNext_enum_end R.o.hh he2 hit2 (dJ (S2.stays _ _ hl2)) (by rw[List.length_mapIdx];exact Array.getElem?_eq_none (bu rl2.size)) fun h3 k3=>⟨rfl,h3,s2.toks,rfl,fun b o hb e=>k3 b o (fun q=>hb (q▸.head _)) e⟩)))))) fun Z=>rfl
end
section
noncomputable def ownsOf:CE→List (Option Nat)
 |.cons (.own i) r=>some i::ownsOf r
 |.cons _ r=>none::ownsOf r
 |_=>[]
noncomputable def ui:CE→Bool | .own _=>false | _=>true
inductive Jm(c:Ctx)(own:ez)(ρ:Env)(H:Heap)(s:Shared)(xs:CE)(Q:List (Option Nat×V)→Prop)(us:List Value)(s':Shared):Prop
 |mk (H':Heap) (as:List (Option Nat×V)) (g:Mv c no H s H' s') (r:iG c own H' s'.heap as us) (o:as.map (·.1)=ownsOf xs) (en:∀i v,(some i,v)∈as→ρ[i]? =some (some (true,v))) (q:Q as)
noncomputable def jk(x:Cx)(es:List Expr)(xs:CE):Prop:=∀{c:Ctx}{env ρ own H s Q X},k9 c→gK x c env ρ own H s→yU c.F ρ xs Q X→wpAny c.M c.A (spliced (es.map fun e=>(false,eval e env))) (Jm c own ρ H s xs Q) (XP c no H s X) s
variable{x x':Cx}{c:Ctx}{A:Around}{env:PySem.Env}{ρ:Env}{own own' own0:ez}{H H' H0 H1 H2 h h':Heap}{s s' s0 s1:Shared}{X:Prop}{E:Value→Shared→Prop}{Q:Flow×Env→Prop}
variable{i j k slot kd:Nat}{v:V}{u:Value}{tk:Nat}{p p' p2 p3 p4 np cp:Pos}{e e2 e3 ce t:Expr}{a b it xs:CE}{es:List Expr}{y:Str}{us:List Value}{as:List (Option Nat×V)}
theorem iG.mono(b:H.StaysIn H')(kp:∀i,iY own own' h h' i i)(z:iG c own H h as us):iG c own' H' h' as us:=by
 induction z with
 |nil=>exact .nil
 |own f _ ih=>exact .own (f.mono b (kp _)) ih
 |val r _ ih=>exact .val (r.mono b) ih
theorem gK.keepOwn(K:gK x c env ρ own H s)(g:Mv c no H s H' s'):iY own own s.heap s'.heap i i:=fun a k e=>⟨e,fun o q=>((K.ow.off a i k e).mv g fun z=>z).2 o q⟩
theorem Eb:jk x [] .nil:=fun R K z=>cF ⟨_,_,.refl K.st,.nil,rfl,(fun Z Z h=>by cases h),z⟩
theorem xK{F:FT}{q:List (Option Nat×V)→Prop}(h:ui a=true)(z:yU F ρ (.cons a xs) q X):aY F a ρ (fun v=>yU F ρ xs (fun l=>q ((none,v)::l)) X) X∧ownsOf (.cons a xs)=none::ownsOf xs:=by
 cases a<;>first | exact⟨z,rfl⟩ | cases h
theorem za(hn:ui a=true)(h:aN x e a)(h2:jk x es xs):jk x (e::es) (.cons a xs):=fun {c env ρ own H s Q X} R K z=>by
 obtain⟨z,ho⟩:=xK hn z;exact b4 (bx (.refl K.st) (h.E R K z) fun u s1 H1 v g Z r z=>au (h2 R (K.mv g) z) (by rintro us s2 ⟨H2,as,g2,r2,o,en,q⟩;exact⟨H2,_,g.trans g2,.val (r.mono g2.base) r2,by rw[ho,cZ,o],(fun i v h=>by cases h with | tail _ h=>exact en i v h),q⟩) fun Z Z z=>g.xp z)
theorem Dc(N:gO x y i)(h2:jk x es xs):jk x (.Name y p::es) (.cons (.own i) xs):=fun {c env ρ own H s Q X} R K z=>by
 obtain⟨v,e0,z⟩:=gC z;obtain⟨kk,hk,hv⟩:=N.hk;exact b4 (wpAny_Name (kL K.nk K.vs N.hi hk hv e0 fun u r=>au (h2 R K z) (by rintro us s2 ⟨H2,as,g2,r2,o,en,q⟩;exact⟨H2,_,g2,.own (cV.mono g2.base (K.keepOwn g2) r) r2,aj (some i::·) o,(fun i v h=>by cases h with | head=>exact e0 | tail _ h=>exact en i v h),q⟩) fun Z Z z=>z) N.hd)
theorem cV.ref(f:cV c own H h i v u):∃a,u=.ref a∧own a=some (i+1,0):=by
 induction f with
 |Jq o=>exact⟨_,rfl,o⟩
 |dict o=>exact⟨_,rfl,o⟩
 |inst q=>exact⟨_,rfl,q⟩
theorem wi{L:List Nat}{hh:Heap}{vs:List V}(io:∀a i,i∈L→own a=some (i+1,0)→own' a=some (i+1,0))(uq:∀a b i k,own' a=some (i+1,k)→own' b=some (i+1,k)→a=b)(z:oq c own' H' h' as us vs):(slots as).Nodup→(∀i∈slots as,i∈L)→
  ∀{ρ ρ':Env},(∀i v,(some i,v)∈as→ρ[i]? =some (some (true,v)))→gN x env (fun j p u=>(j∈slots as→RS c own H h j p u)∧(j∉slots as→RS c own' H' h' j p u)) hh ρ→qU as vs ρ=some ρ'→gN x env (RS c own' H' h') hh ρ':=by
 induction z with
 |nil=>intro _ _ ρ ρ' _ V e;obtain rfl:=ah (e);exact V.keep (fr:=[]) (ch:=no) .refl (fun z=>z) (fun Z Z Z Z Z Z Z Z z=>z) fun i v u f=>f.2 List.not_mem_nil
 | @val v u as us vs _ ih=>intro nd sub ρ ρ' en V e;exact ih nd sub (fun i w h=>en i w (.tail _ h)) V e
 | @own i v v' u as us vs f _ ih=>
  intro nd sub ρ ρ' en V e;obtain⟨ni,nd⟩:=bM.mp nd;refine ih nd (fun j h=>sub j (.tail _ h)) (fun j w h=>?_) (V.upd (w:=(true,v')) (fun Z e=>e) (fun Z Z Z Z Z Z Z Z Z e=>e) (fun j p u ne g=>⟨fun h=>g.1 (.tail _ h),fun h=>g.2 fun z=>?_⟩) (en i v (.head _)) fun u' g=>⟨fun h=>absurd h ni,fun Z=>?_⟩) e
  ·have:i≠j:=fun z=>ni (z▸List.mem_filterMap.mpr ⟨_,h,rfl⟩);exact(dF this).trans (en j w (.tail _ h))
  ·rcases az.mp z with z|z
   ·exact ne z.symm
   ·exact h z
  ·obtain⟨b,rfl,hb⟩:=cV.ref (show cV c own H h i v u' from g.1 (.head _));obtain⟨a,rfl,ha⟩:=f.ref;obtain rfl:=uq _ _ _ _ ha (io b i (sub i (.head _)) hb);exact f
theorem wM.here{n:Nat}{Q:V×List V→Prop}(K:cJ x c env ρ own H s)(nd:(slots as).Nodup)(en:∀i v,(some i,v)∈as→ρ[i]? =some (some (true,v)))(z:wM n c own H s as us Q u s'):
  ∃own' H' v vs,Gs x c own H s own' H' s'∧(∀ρ',qU as vs ρ=some ρ'→cJ x c env ρ' own' H' s')∧du c.P H' v u∧Q (v,vs):=by
 obtain⟨own',H',v,vs,g,old,ok,ow,io,o,r,q⟩:=z;have c0:∀{a},own a=some (0,0)→¬∃i k,i∈slots as∧own a=some (i+1,k):=fun e ⟨i,k,Z1,z⟩=>by rw[e]at z;cases z
 have o0:∀{a},own a=some (0,0)→own' a=some (0,0):=fun e=>old _ 0 0 (fun i Z=>Ne.symm (bK i)) e;refine⟨own',H',v,vs,⟨g.JA fun a ⟨i,k,Z1,z⟩=>by show own a≠none;rw[z];exact nofun,ow,fun i a Z e=>?_⟩,fun ρ' eb=>⟨⟨K.nk,g.st,wi (H:=H) (h:=s.heap) io ok.uniq o nd (fun Z h=>h) en ?_ eb,ok⟩,o0 K.loc,fun i y k a h1 h2 h3 h4=>let q:=K.cel i y k a h1 h2 h3 h4;⟨o0 q.1,q.2⟩⟩,r,q⟩
 ·by_cases h:i∈slots as
  ·exact io a i h e
  ·exact old a _ _ (fun j hj z=>h (bp z▸hj)) e
 ·refine K.vs.keep g.keep (c0 K.loc) (fun i y k a h1 h2 h3 h4=>c0 (K.cel i y k a h1 h2 h3 h4).1) fun i p u f=>⟨fun Z=>f,fun h=>f.mono g.base fun a k e=>⟨old a _ _ (fun j hj z=>h (bp z▸hj)) e,((K.ow.off a i k e).mv g fun⟨j,l,hj,z⟩=>?_).2⟩⟩;rw[e]at z;cases z;exact h hj
theorem wC{P:PD}{Q:Unit→Prop}(z:tQ v Q X)(r:du P H v u):(u=.none∨∃i t,u=.int i t)∧Q ():=by
 cases v with
 |none=>exact⟨.inl r.Ju,z⟩
 |int i=>exact⟨.inr ⟨i,r.Ju⟩,z⟩
 |_=>exact(z:False).elim
theorem zd{f:String}{n:Nat}(hf:(f,n,fe n)∈ka)(hx:ml x (Str.ofString f))(hn:ir n=false)(hio:tH n=fZ (ownsOf xs) 0)(nd:((ownsOf xs).filterMap id).Nodup)(hs:es.all ba=true)(h:jk x es xs):cx x (.Expr (.Call (.Name (Str.ofString f) p') es [] p) p2) (.callX n xs):=fun {c env ρ own H s Q X} R ht K z=>
 have q:=R.gk.fns _ hf
 wpAny_Expr (cC (jy K.nk K.st hx q.1 (i9 hs q.2 (au (h R K.togK z) (by rintro us s2 ⟨H2,as,g2,r2,o,en,z⟩;exact⟨g2.st.inK,by
  have nd':(slots as).Nodup:=by rw[←o,List.filterMap_map]at nd;exact nd
  refine au (R.KW hn (by rw[o];exact hio) nd' g2.st (K.mv g2).ow r2 z) (fun u s3 z=>?_) fun Z Z z=>(g2.JA fun Z z=>z.elim).xp (z.JA fun a ⟨i,k,Z1,e⟩=>show own a≠none by rw[e];exact nofun);obtain⟨own',H',v,vs,G,hr,r,q⟩:=z.here (K.mv g2) nd' en;obtain⟨hu,q⟩:=wC q r;obtain⟨ρ',eb,q⟩:=d4 q;have e:SP x c env own H s Q .next s3:=⟨_,_,_,_,g2.gs.trans G,hr ρ' eb,.nxt,q⟩;rcases hu with rfl|⟨i,t,rfl⟩<;>exact e⟩) fun Z Z z=>z.JA fun Z z=>z.elim)))) (by unfold interactive;rw[K.nk.fk];rfl) (d6 rfl)
abbrev Args:=List (Option Nat×V)
noncomputable def im(t:Nat):Args→Nat→Option Nat
 | [],_=>none
 |(some i,_)::l,n=>if t=i+1 then some n else im t l (n+1)
 |(none,_)::l,n=>im t l (n+1)
theorem i6{t:Nat}:∀{as:Args}{n:Nat},(∀i∈slots as,t≠i+1)→im t as n=none
 | [],_,_=>rfl
 |(some i,v)::l,n,h=>(aC (h i (.head _))).trans (i6 fun j q=>h j (.tail _ q))
 |(none,v)::l,n,h=>i6 (as:=l) h
theorem ys{i:Nat}{v:V}{as:Args}{j:Nat}(h:as[j]? =some (some i,v)):i∈slots as:=List.mem_filterMap.mpr ⟨_,ay h,rfl⟩
theorem gy{i:Nat}{v:V}:∀{as:Args}{n j:Nat},(slots as).Nodup→as[j]? =some (some i,v)→im (i+1) as n=some (n+j)
 |(some i',v')::l,n,0,nd,h=>by cases h;exact aB rfl
 |(none,v')::l,n,0,nd,h=>by cases h
 |(some i',v')::l,n,j+1,nd,h=>by
  refine(aC fun z=>(bM.mp nd).1 ?_).trans ((gy (bM.mp nd).2 h).trans (by rw[b7];rfl));obtain rfl:=bp z;exact ys h
 |(none,v')::l,n,j+1,nd,h=>(gy (as:=l) nd h).trans (by rw[b7];rfl)
theorem ll{t j:Nat}:∀{as:Args}{n:Nat},im t as n=some j→∃k i v,j=n+k∧as[k]? =some (some i,v)∧t=i+1
 |(some i,v)::l,n,h=>by
  by_cases z:t=i+1
  ·rw[im,aB z]at h;obtain rfl:=ah (h);exact⟨0,i,v,rfl,rfl,z⟩
  ·rw[im,aC z]at h;obtain⟨k,i,v,e,e2,e3⟩:=ll h;exact⟨k+1,i,v,by rw[e,b7];rfl,e2,e3⟩
 |(none,v)::l,n,h=>by
  obtain⟨k,i,v,e,e2,e3⟩:=ll (as:=l) h;exact⟨k+1,i,v,by rw[e,b7];rfl,e2,e3⟩
noncomputable def gP(own:ez)(as:Args)(h:Heap)(p:Addr→Prop):ez:=open Classical in fun a=>match h.get? a with
 |none=>if p a then some (0,0)else none
 |some _=>(own a).bind fun t=>(im t.1 as 0).map fun j=>(j+1,t.2)
noncomputable def gH(own own2:ez)(as:Args):ez:=fun a=>match(own2 a).bind fun t=>(as[t.1 - 1]?).bind fun p=>p.1.bind fun i=>if t.1=0 then none else some (i+1,t.2) with
 |some t=>some t
 |none=>match(own a).bind fun t=>im t.1 as 0 with
  |some _=>none
  |none=>own a
end
section
variable{own own2:ez}{as:Args}{h:Heap}{p:Addr→Prop}{a:Addr}{i j k:Nat}{v:V}
theorem yi(e:h.get? a=none)(z:p a):gP own as h p a=some (0,0):=by unfold gP;rw[e];exact aB z
theorem xy(nd:(slots as).Nodup)(e:h.get? a≠none)(o:own a=some (i+1,k))(z:as[j]? =some (some i,v)):gP own as h p a=some (j+1,k):=by
 obtain⟨ob,e⟩:=aG.mp e;unfold gP;rw[e,o];show(im (i+1) as 0).map _=_;rw[gy nd z,cI];rfl
theorem uZ(e:h.get? a≠none)(o:∀i k,i∈slots as→own a≠some (i+1,k)):gP own as h p a=none:=by
 obtain⟨ob,e⟩:=aG.mp e;unfold gP;rw[e];cases q:own a with
 |none=>rfl
 |some t=>
  show(im t.1 as 0).map _=_;rw[i6 fun i hi z=>o i t.2 hi (by rw[q,←z])];rfl
theorem jL{t:Nat×Nat}(e:gP own as h p a=some t):(h.get? a=none∧p a∧t=(0,0))∨∃j i k v,h.get? a≠none∧as[j]? =some (some i,v)∧own a=some (i+1,k)∧t=(j+1,k):=by
 unfold gP at e;cases q:h.get? a with
 |none=>
  rw[q]at e;by_cases z:p a
  ·exact .inl ⟨rfl,z,(ah ((aB z).symm.trans e)).symm⟩
  ·exact nomatch (aC z).symm.trans e
 |some ob=>
  rw[q]at e;obtain⟨⟨t1,t2⟩,e1,e2⟩:=bG.mp e;obtain⟨j,e3,e4⟩:=bY.mp e2;obtain⟨k,i,v,e5,e6,e7⟩:=ll e3;rw[cI]at e5;exact .inr ⟨j,i,t2,v,(by intro h;cases h),e5▸e6,e1.trans (by rw[show t1=i+1 from e7]),e4.symm⟩
theorem u4(o:own2 a=some (j+1,k))(z:as[j]? =some (some i,v)):gH own own2 as a=some (i+1,k):=by
 have e:((own2 a).bind fun t=>(as[t.1 - 1]?).bind fun p=>p.1.bind fun i=>if t.1=0 then none else some (i+1,t.2))=some (i+1,k):=by
  rw[o];show(as[j]?).bind _=_;rw[z];rfl
 unfold gH;rw[e]
set_option tactic.hygienic true in
theorem kQ{t:Nat×Nat}(e:gH own own2 as a=some t):(∃j i k v,own2 a=some (j+1,k)∧as[j]? =some (some i,v)∧t=(i+1,k))∨(own a=some t∧im t.1 as 0=none):=by
 unfold gH at e;split at e
 ·rename_i t' q;obtain rfl:=ah (e);obtain⟨⟨t1,t2⟩,e1,e2⟩:=bG.mp q;obtain⟨p,e3,e4⟩:=bG.mp e2;obtain⟨i,e5,e6⟩:=bG.mp e4;cases t1 with
  |zero=>cases e6
  |succ j=>exact .inl ⟨j,i,t2,p.2,e1,e3.trans (by rw[←e5]),by obtain rfl:=ah (e6);rfl⟩
 ·split at e
  ·cases e
  ·rename_i q;exact .inr ⟨e,by rw[e]at q;exact q⟩
theorem xR(n:∀j k,own2 a=some (j+1,k)→∀i v,as[j]? ≠some (some i,v))(q:∀t:Nat×Nat,own a=some t→im t.1 as 0=none):gH own own2 as a=own a:=by
 cases e:gH own own2 as a with
 |some t=>
  rcases kQ e with⟨j,i,k,v,h1,h2,_⟩|⟨h1,_⟩
  ·exact absurd h2 (n j k h1 i v)
  ·exact h1.symm
 |none=>
  cases w:own a with
  |none=>rfl
  |some t=>
   unfold gH at e;split at e
   ·cases e
   ·rw[w]at e;split at e
    ·rename_i q';have:=(q t w).symm.trans q';cases this
    ·cases e
end
section
noncomputable abbrev EF(own:ez)(as:Args):Addr→Prop:=fun a=>∃i k,i∈slots as∧own a=some (i+1,k)
noncomputable abbrev Ctx.in(c:Ctx)(env:PySem.Env)(d:Nat)(F:FT):Ctx:=⟨c.prog,c.w,c.A.deeper env,env::c.l,d,c.K,F⟩
structure iq(env:PySem.Env)(L:Addr)(s se:Shared):Prop where
 eq:∃h tk,se={ s with heap:=h,toks:=tk }
 keep:∀b o,s.heap.get? b=some o→se.heap.get? b=some o
 fr:env.frame=some L
 Lk:env.scope.kind≠.module
 at_:∃o,se.heap.get? L=some o∧∀vs,o.data≠.fields vs
 new:s.heap.get? L=none
theorem iJ{env:PySem.Env}{l:List PySem.Env}{L:Addr}(h:env.frame=some L):kA (env::l)=L::kA l:=by simp[kA,h]
variable{x:Cx}{c:Ctx}{env:PySem.Env}{own own2:ez}{H H2 h':Heap}{s se s2:Shared}{L a:Addr}{d:Nat}{F:FT}{as:Args}{us:List Value}{p:Addr→Prop}{i j k tk:Nat}{v:V}{u:Value}
theorem iq.st(n:iq env L s se)(S:St c H s):St (c.in env d F) H se:=
 ⟨S.gf,fun b o e=>n.keep b o (S.stays b o e),n.Lk,let⟨o,e,q⟩:=n.at_;⟨L,o,n.fr,S.off n.new,e,q⟩,jd S.ff (fun b q=>(S.frOld q).1) fun b o e Z=>⟨o.slots,n.keep b o e⟩⟩
theorem iq.KY(n:iq env L s se)(S:St c H s)(W:dw c own H s)(nd:(slots as).Nodup)(hp:∀a,p a→s.heap.get? a=none→se.heap.get? a≠none):dw (c.in env d F) (gP own as s.heap p) H se:=by
 refine⟨fun a j k e=>?_,fun a b j k e1 e2=>?_,fun a e=>?_⟩
 ·rcases jL e with⟨_,_,z⟩|⟨j',i,k',v,h0,h1,h2,z⟩
  ·cases z
  ·cases z;obtain⟨h3,h4,o,h5,h6⟩:=W.off a i k h2;exact⟨h3,iJ n.fr▸fun q=>(az.mp q).elim (fun q=>h0 (q▸n.new)) h4,o,n.keep a o h5,h6⟩
 ·rcases jL e1 with⟨_,_,z⟩|⟨j1,i1,k1,v1,_,h1,w1,z⟩<;>cases z
  rcases jL e2 with⟨_,_,z⟩|⟨j2,i2,k2,v2,_,h2,w2,z⟩<;>cases z
  rw[h1]at h2;cases h2;exact W.uniq a b _ _ w1 w2
 ·obtain⟨t,e⟩:=aG.mp e;rcases jL e with⟨h0,h1,_⟩|⟨j',i,k',v,h0,h1,h2,z⟩
  ·exact⟨S.off h0,hp a h1 h0⟩
  ·obtain⟨o,e⟩:=aG.mp h0;exact⟨(W.off a i k' h2).new,by rw[n.keep a o e];exact nofun⟩
theorem iq.K6(W:dw c own H s)(h0:s.heap.get? a≠none)(h:¬EF own as a):gP own as s.heap p a=none:=uZ h0 fun i k hi e=>h ⟨i,k,hi,e⟩
theorem iq.ret(n:iq env L s se)(W:dw c own H s)(S:St c H s)(g:Mv (c.in env d F) (ch (gP own as s.heap p)) H se H2 s2)(k:∀b o,b≠L→s2.heap.get? b=some o→h'.get? b=some o):Mv c (EF own as) H s H2 { s2 with heap:=h',toks:=tk }:=by
 have hL:H2.get? L=none:=(g.st.frOld (by show L∈kA (env::c.l);rw[iJ n.fr];exact .head _)).1;have ne:∀{b},s.heap.get? b≠none→b≠L:=fun e z=>e (z▸n.new);have mem:∀{b},b∈kA c.l→b∈kA (env::c.l):=fun q=>by rw[iJ n.fr];exact .tail _ q
 refine⟨⟨g.st.gf,fun b o e=>k b o (fun z=>by rw[z,hL]at e;cases e) (g.st.stays b o e),jd g.st.ff.2.2 (fun b q=>(g.st.frOld (mem q)).1) fun b o e q=>⟨o.slots,k b o (ne (S.frOld q).2) e⟩⟩,
  let⟨h1,t1,e1⟩:=n.eq;let⟨h2,t2,e2⟩:=g.eq;⟨h',tk,by rw[e2,e1]⟩,g.base,fun b o e nc=>?_,fun a h1 nc h3=>?_⟩
 ·have e0:s.heap.get? b≠none:=by rw[e];exact nofun
  obtain⟨x1,sl,x2⟩:=g.keep b o (n.keep b o e) fun z=>z (iq.K6 W e0 nc)
  exact⟨fun q=>k b o (ne e0) (x1 fun z=>by
   rw[show kA (c.in env d F).l=L::kA c.l from iJ n.fr]at z;exact(az.mp z).elim (ne e0) q),sl,k b _ (ne e0) x2⟩
 ·obtain⟨o,e⟩:=aG.mp h1;exact g.JM a (by rw[n.keep a o e];exact nofun) (fun z=>z (iq.K6 W h1 nc)) h3
theorem iq.Ko(n:iq env L s se)(g:Gs x (c.in env d F) (gP own as s.heap p) H se own2 H2 s2)(W:dw c own H s)(h0:s.heap.get? a≠none)(q:∀i∈slots as,∀k,own a≠some (i+1,k)):own2 a=none∧gH own own2 as a=own a:=by
 obtain⟨o,e⟩:=aG.mp h0;have e2:=g.ow a (by rw[n.keep a o e];exact nofun) (uZ h0 fun i k hi=>q i hi k);exact⟨e2,xR (fun j k e=>by rw[e2]at e;cases e) fun t e=>i6 fun i hi z=>q i hi t.2 (by rw[e,←z])⟩
theorem iq.KX(n:iq env L s se)(W:dw c own H s)(S:St c H s)(g:Gs x (c.in env d F) (gP own as s.heap p) H se own2 H2 s2)(W2:dw (c.in env d F) own2 H2 s2)(nd:(slots as).Nodup):dw c (gH own own2 as) H2 s2:=by
 have m:=n.ret (h':=s2.heap) (tk:=s2.toks) W S g.mv fun Z Z Z e=>e;have frx:∀{a},a∉kA (c.in env d F).l→a∉kA c.l:=fun q z=>q (by rw[show kA (c.in env d F).l=L::kA c.l from iJ n.fr];exact .tail _ z)
 have old:∀{a t},own a=some t→im t.1 as 0=none→¬EF own as a:=fun {a t} e q ⟨i,k,hi,e'⟩=>by
  rw[e]at e';obtain rfl:=ah (e');obtain⟨⟨o,v⟩,h1,h2⟩:=List.mem_filterMap.mp hi;obtain rfl:=h2;obtain⟨j,hj⟩:=List.getElem?_of_mem h1;rw[gy nd hj]at q;cases q
 refine⟨fun a i k e=>?_,fun a b i k e1 e2=>?_,fun a e=>?_⟩
 ·rcases kQ e with⟨j,i',k',v,h1,h2,z⟩|⟨h1,h2⟩
  ·cases z;obtain⟨q1,q2,q3⟩:=W2.off a j k h1;exact⟨q1,frx q2,q3⟩
  ·exact((W.off a i k h1).mv m (old h1 h2)).1
 ·rcases kQ e1 with⟨j,i',k',v,h1,h2,z⟩|⟨h1,h2⟩<;>rcases kQ e2 with⟨j',i'',k'',v',h3,h4,z'⟩|⟨h3,h4⟩
  ·cases z;cases z';have:=(gy (n:=0) nd h2).symm.trans (gy nd h4);rw[cI,cI]at this;obtain rfl:=ah (this);exact W2.uniq a b j k h1 h3
  ·cases z;rw[gy nd h2]at h4;cases h4
  ·cases z';rw[gy nd h4]at h2;cases h2
  ·exact W.uniq a b i k h1 h3
 ·obtain⟨t,e⟩:=aG.mp e;rcases kQ e with⟨j,i',k',v,h1,h2,z⟩|⟨h1,h2⟩
  ·exact W2.live a (by rw[h1];exact(by intro h;cases h))
  ·obtain⟨q1,q2⟩:=W.live a (by rw[h1];exact(by intro h;cases h));exact⟨m.JM a q2 (old h1 h2) q1,m.keep.some q2 (old h1 h2)⟩
end
section
structure Hg(K:Frag)(x:Cx)(fd:FuncData)(fn:Fn):Prop where
 clo:fd.closure=[]
 gl:fd.globals=mainGlobals
 bl:fd.builtins=builtinsNs
 fk:fd.scope.kind=.function
 co:fd.scope.isCoroutine=false
 gen:fd.scope.isGenerator=false
 cd:codeIn K fd.code fd.qualname=true
 kd:x.kd=fd.scope.names
 io:x.io=fn.io
 own:x.own=fn.own
 nd:x.nm.Nodup
 ln:fn.Jy≤x.nm.length
 par:∀KM:List Value,KM.length=fn.Jy→bindArgs fd ⟨KM,[]⟩=pure ((x.nm.take fn.Jy).zip KM)
 pk:∀y∈x.nm.take fn.Jy,fd.scope.names.lookup y=some .local∨fd.scope.names.lookup y=some .cell
 nofree:∀y k,fd.scope.names.lookup y=some k→k≠.free
inductive vM(K:Frag)(a:Addr)(fn:Fn):Prop
 |mk (oc:Value) (od:Option Addr) (osl:Array (Option Value)) (fd:FuncData) (body:List Stmt) (x:Cx) (h:K.lookup a=some ⟨oc,od,.func fd,osl⟩) (b:fd.body=.stmts body) (s:fC x body fn.body) (f:Hg K x fd fn)
theorem jO:∀{l:List (Str×NameKind)}{n:Nat}{acc:List (Str×Addr)}{y:Str},((y,NameKind.cell)∈l∨(acc.lookup y).isSome=true)→((cellsFrom n l acc).lookup y).isSome=true
 | [],_,_,_,h=>h.elim (fun q=>((by cases q))) id
 |(x,k)::l,n,acc,y,h=>by
  unfold cellsFrom;split
  ·refine jO (h.elim (fun q=>?_) fun q=>.inr ?_)
   ·rcases az.mp q with e|q
    ·cases e;right;rw[cD,beq_self_eq_true];rfl
    ·exact .inl q
   ·rw[cD];split
    ·rfl
    ·exact q
  ·rename_i hk;refine jO (h.elim (fun q=>?_) .inr);rcases az.mp q with e|q
   ·cases e;exact absurd rfl hk
   ·exact .inl q
theorem lX{kindOf:Str→Option NameKind}{x:Str}:∀{b:List (Str×Value)}{m:Str→Option Value},x∉b.map (·.1)→bindL kindOf b m x=m x
 | [],_,_=>rfl
 |(n,v)::r,m,h=>by
  have h1:x≠n:=fun q=>h (by rw[q];exact .head _);refine(lX fun q=>h (.tail _ q)).trans ?_
  split
  ·exact aC h1
  ·rfl
theorem l8{kindOf:Str→Option NameKind}{x:Str}:∀{b:List (Str×Value)}{m:Str→Option Value},x∉b.map (·.1)→bindC kindOf b m x=m x
 | [],_,_=>rfl
 |(n,v)::r,m,h=>by
  have h1:x≠n:=fun q=>h (by rw[q];exact .head _);refine(l8 fun q=>h (.tail _ q)).trans ?_
  split
  ·rfl
  ·exact aC h1
theorem mz{kindOf:Str→Option NameKind}{x:Str}{v:Value}:∀{ns:List Str}{vs:List Value}{m m':Str→Option Value}{i:Nat},ns.Nodup→ns.length=vs.length→ns[i]? =some x→vs[i]? =some v→
  (kindOf x=some .local→bindL kindOf (ns.zip vs) m x=some v)∧(kindOf x≠some .local→bindC kindOf (ns.zip vs) m' x=some v)
 |n::ns,u::vs,m,m',0,nd,hl,e1,e2=>by
  cases e1;obtain rfl:=ah (e2)
  have nx:x∉(ns.zip vs).map (·.1):=by
   rw[List.map_fst_zip (bu (bp hl))];exact(bM.mp nd).1
  exact⟨fun h=>(lX nx).trans (by rw[aB h];exact aB rfl),fun h=>(l8 nx).trans (by rw[aC h];exact aB rfl)⟩
 |n::ns,u::vs,m,m',i+1,nd,hl,e1,e2=>@mz kindOf x v ns vs _ _ i (bM.mp nd).2 (bp hl) e1 e2
 | [],_,_,_,_,_,_,e1,_=>by cases e1
 |_::_,[],_,_,_,_,hl,_,_=>by cases hl
theorem hH{i:Nat}:∀{l:List (Option Nat)}{n:Nat},i∈fZ l n↔∃j a,i=n+j∧l[j]? =some (some a)
 | [],n=>⟨fun h=>((by cases h)),by rintro⟨_,_,_,h⟩;exact by cases h⟩
 |some a::l,n=>by
  show i∈n::fZ l (n+1)↔_;rw[az,hH];constructor
  ·rintro(rfl | ⟨j,b,e,h⟩)
   ·exact⟨0,a,rfl,rfl⟩
   ·exact⟨j+1,b,by rw[e,b7];rfl,h⟩
  ·rintro⟨_ | j,b,e,h⟩
   ·exact .inl e
   ·exact .inr ⟨j,b,by rw[e,b7];rfl,h⟩
 |none::l,n=>by
  show i∈fZ l (n+1)↔_;rw[hH];constructor
  ·rintro⟨j,b,e,h⟩;exact⟨j+1,b,by rw[e,b7];rfl,h⟩
  ·rintro⟨_ | j,b,e,h⟩
   ·cases h
   ·exact⟨j,b,by rw[e,b7];rfl,h⟩
noncomputable def nG(fn:Fn)(vs:List V):Env:=vs.mapIdx (fun i v=>some (fn.io.contains i,v))++List.replicate (fn.slots - fn.Jy) none
theorem xZ{fn:Fn}{vs:List V}{i:Nat}{q:Bool×V}(e:(nG fn vs)[i]? =some (some q)):vs[i]? =some q.2∧q.1=fn.io.contains i:=by
 unfold nG at e;rcases Nat.lt_or_ge i vs.length with h|h
 ·rw[List.getElem?_append_left (by rw[List.length_mapIdx];exact h),List.getElem?_mapIdx]at e;obtain⟨y,e1,e2⟩:=bY.mp e;obtain rfl:=ah (e2);exact⟨e1,rfl⟩
 ·rw[b8 (by rw[List.length_mapIdx];exact h)]at e;have:=ay e;rw[List.mem_replicate]at this;cases this.2
variable{c:Ctx}{own own':ez}{H H' h h':Heap}{as:Args}{us:List Value}{X:Prop}
theorem fJ.Kl{c1 c2:Ctx}(e:c1.prog=c2.prog)(e':c1.w=c2.w){i k:Nat}{v:V}{u:Value}(f:fJ c1 own H h i k v u):fJ c2 own H h i k v u:=by
 obtain⟨p,w,_,_,_,_,_⟩:=c1;obtain rfl:=e;obtain rfl:=e';induction f with
 |keep q r=>exact .keep q r
 |Jq q o n t r=>exact .Jq q o n t r
 |dict q o d n=>
  obtain⟨ob,es,ep,e,ec,ed,q1,q2,q3⟩:=d;exact .dict q o ⟨ob,es,ep,e,ec,ed,q1,q2,q3⟩ n
theorem iU.Kl{c1 c2:Ctx}(e:c1.prog=c2.prog)(e':c1.w=c2.w){i:Nat}{fs us}(f:iU c1 own H h i fs us):iU c2 own H h i fs us:=by
 induction f with
 |nil=>exact .nil
 |cons a _ ih=>exact .cons (a.Kl e e') ih
theorem cV.Kl{c1 c2:Ctx}(e:c1.prog=c2.prog)(e':c1.w=c2.w){i:Nat}{v:V}{u:Value}(f:cV c1 own H h i v u):cV c2 own H h i v u:=by
 have hP:c1.P=c2.P:=by show DK c1.prog c1.w=DK c2.prog c2.w;rw[e,e']
 induction f with
 |Jq o n t r=>exact .Jq o n t (hP▸r)
 |dict o t p f m g nd=>exact .dict o t (hP▸p) (f.Kl e e') m g nd
 |inst q o t n f m g nd=>exact .inst q o t n (f.Kl e e') m g nd
theorem iG.len(z:iG c own H h as us):us.length=as.length:=by
 induction z with
 |nil=>rfl
 |own _ _ ih=>exact aj (·+1) ih
 |val _ _ ih=>exact aj (·+1) ih
theorem iG.at(z:iG c own H h as us):∀{j:Nat}{o:Option Nat}{v:V},as[j]? =some (o,v)→∃u,us[j]? =some u∧match o with
  |some i=>cV c own H h i v u
  |none=>du c.P H v u:=by
 induction z with
 |nil=>intro j o v e;cases e
 |own f _ ih=>intro j o v e;cases j with
  |zero=>cases e;exact⟨_,rfl,f⟩
  |succ j=>exact ih (j:=j) e
 |val f _ ih=>intro j o v e;cases j with
  |zero=>cases e;exact⟨_,rfl,f⟩
  |succ j=>exact ih (j:=j) e
theorem yM{ρ:Env}{Q:List V→Prop}(z:iG c own H h as us):∀{n:Nat}{Q:List V→Prop},(∀j i v w,as[j]? =some (some i,v)→ρ[n+j]? =some (some (true,w))→∃u,us[j]? =some u∧cV c own' H' h' i w u)→
  callF.outs ρ (fZ (as.map (·.1)) n) Q X→∃l,Q l∧oq c own' H' h' as us l:=by
 induction z with
 |nil=>exact fun Z z=>⟨[],z,.nil⟩
 | @own i v u as us f _ ih=>
  intro n Q k z;obtain⟨w,e,z⟩:=gC z;obtain⟨l,q,r⟩:=ih (n:=n+1) (fun j i v w h1 h2=>k (j+1) i v w h1 (by rw[←h2,b7];rfl)) z;obtain⟨u',e',r'⟩:=k 0 i v w rfl e;obtain rfl:=ah (e');exact⟨_,q,.own r' r⟩
 | @val v u as us f _ ih=>
  intro n Q k z;obtain⟨l,q,r⟩:=ih (n:=n+1) (fun j i v w h1 h2=>k (j+1) i v w h1 (by rw[←h2,b7];rfl)) z;exact⟨l,q,.val r⟩
end
section
inductive BB(fn:Fn)(c:Ctx)(own:ez)(H:Heap)(s:Shared)(as:Args)(us:List Value)(Q:V×List V→Prop)(u:Value)(s':Shared):Prop
 |mk (own':ez) (H':Heap) (v:V) (vs:List V) (g:Mv c (EF own as) H s H' s') (old:∀a j k,(∀i∈slots as,j≠i+1)→own a=some (j,k)→own' a=some (j,k)) (ok:dw c own' H' s') (ow:∀a,s.heap.get? a≠none→own a=none→own' a=none)
  (io:∀a i,i∈slots as→own a=some (i+1,0)→own' a=some (i+1,0)) (o:oq c own' H' s'.heap as us vs) (r:fn.own=false→du c.P H' v u) (r':fn.own=true→slots as=[]→∃m a items k,v=.Jq m∧u=.ref a∧s.heap.get? a=none∧H'.get? a=none∧IsL s'.heap a items k∧bz c.P H' m items.toList∧m.length≤lim+1) (q:Q (v,vs))
noncomputable def zQ(fn:Fn)(p:Flow×Env):R (V×List V):=match p.1 with
 |.cont=>bad
 |.nxt=>cond fn.own bad (bc (callF.outs p.2 fn.io) fun l=>ok (.none,l))
 |.ret v=>bc (callF.outs p.2 fn.io) fun l=>ok (v,l)
variable{x:Cx}{c:Ctx}{env:PySem.Env}{own own2:ez}{H H2 h':Heap}{s se s2:Shared}{L a:Addr}{d:Nat}{F:FT}{as:Args}{us:List Value}{i j k tk:Nat}{v:V}{u:Value}{fn:Fn}{Q:V×List V→Prop}{X:Prop}{ρ:Env}{R':Nat→Bool×V→Value→Prop}{y:Str}{q:Bool×V}{h:Heap}
theorem gN.get(V:gN x env R' h ρ)(hi:x.nm[i]? =some y)(hk:x.kd.lookup y=some .local∨x.kd.lookup y=some .cell)(e:ρ[i]? =some (some q)):∃u,R' i q u:=by
 obtain⟨⟨m,_,hv⟩,cl⟩:=V;rcases hk with hk|hk
 ·obtain⟨u,_,r⟩:=hv i y q hi hk e;exact⟨u,r⟩
 ·obtain⟨a,w,_,_,hw⟩:=cl i y _ hi hk (.inl rfl);obtain⟨u,_,r⟩:=hw q e;exact⟨u,r⟩
theorem ww{A:Around}{E:Value→Shared→Prop}{l:List PySem.Env}{s1:Shared}{e:Addr}{Q:Unit→Shared→Prop}{M:Model}(hfr:A.frames=some (env::l))(x:ji (env::l) s1 e s)(q:∀h' L,env.frame=some L→ji l { s1 with heap:=hideAll s1.heap [L] } e { s with heap:=h' }→Q () { s with heap:=h' }):wpAny M A (leaving env (.ref e)) Q E s:=by
 unfold leaving;refine av (mZ hfr ⟨_,rfl⟩ x fun h' a0 L hf t f=>?_);refine gm (l:=env::l) f.stays f.ff t fun h2 k1 k2 k3 k4=>q h2 L hf ?_
 have k:(iv l { s1 with heap:=hideAll s1.heap [L] }).StaysIn (iv (env::l) s1):=fun b o h=>by
  have h1:=of_hideAll _ h;refine hideAll_get _ (of_hideAll _ h1) fun z=>?_
  rw[iJ hf]at z;rcases az.mp z with rfl|z
  ·rw[hideAll_none _ (.head _)]at h1;cases h1
  ·rw[hideAll_none _ z]at h;cases h
 refine⟨let⟨_,tk,q⟩:=x.eq;⟨h2,tk,by rw[q]⟩,(flyingW_base (l:=l) k ⟨k1,f.fresh,k2.2.2,k3⟩).1,(flyingW_base (l:=l) k ⟨k1,f.fresh,k2.2.2,k3⟩).2.1,(flyingW_base (l:=l) k ⟨k1,f.fresh,k2.2.2,k3⟩).2.2.1,fun b o h hn=>?_,.inr ⟨a0,_,(flyingW_base (l:=l) k ⟨k1,f.fresh,k2.2.2,k3⟩).2.2.2,.inl rfl⟩⟩;exact(f.up.trans k4) b o (of_hideAll _ h) hn
structure DH(prog:Program)(A:Around)(l:List PySem.Env)(d:Nat):Prop where
 hh:A.handled=none
 fr:A.frames=some l
 tree:prog.given.tree=none
 dep:A.depth+2*d+151≤recursionLimit
 un:A.units+30*d+203≤cLine
theorem qD.call{prog:Program}{A:Around}{l:List PySem.Env}{d:Nat}(O:qD prog A l (d+1)):DH prog A l d:=⟨O.hh,O.fr,O.tree,by have:=O.dep;omega,by have:=O.un;omega⟩
theorem mG(O:DH c.prog c.A c.l d)(S:St c H s)(W:dw c own H s)(Y:vM c.K a fn)(run:∀env,zk c.prog (c.A.deeper env) (env::c.l) d→k9 (c.in env d F))(r:iG c own H s.heap as us)(hl:as.length=fn.Jy)(hio:fn.io=fZ (as.map (·.1)) 0)(nd:(slots as).Nodup)
  (z:bJ F fn.io fn.body (nG fn (as.map (·.2))) (fun p=>zQ fn p Q X) X):codeAny c.M c.A (.call (.ref a) ⟨us,[]⟩) (fun r s'=>match r with | .ok (.ret v)=>BB fn c own H s as us Q v s' | .ok _=>False | .error e=>XP c (EF own as) H s X e s') s:=by
 obtain⟨oc,od,osl,fd,body,x,ho,hb,B,D⟩:=Y;have G':=S.gf.keeps S.stays;have hlu:us.length=fn.Jy:=r.len.trans hl;have tl:(x.nm.take fn.Jy).length=us.length:=by rw[List.length_take,hlu];exact Nat.min_eq_left D.ln
 refine codeAny_call_cells (by have:=O.dep;omega) (G'.inK _ _ ho) rfl G'.lim (codeRec_of G'.inK D.cd) hb (D.par us hlu) D.clo (fun y hy=>?_) (fun se ic=>?_) D.co D.gen D.fk
 ·rcases D.pk _ (List.of_mem_zip hy).1 with h|h
  ·exact .inl h
  ·exact .inr ⟨h,jO (.inl (mem_of_lookup h))⟩
 generalize hev:callEnvC fd s.heap.objs.size a=env at ic ⊢;have hL:env.locals=s.heap.objs.size:=by rw[←hev];rfl
 have hfr:env.frame=some s.heap.objs.size:=by rw[←hev];rfl
 have hsc:env.scope=fd.scope:=by rw[←hev];rfl
 have hkind:∀y,env.kindOf y=x.kd.lookup y:=fun y=>by rw[D.kd,←hev];rfl
 have hcells:env.cells=cellsFrom (s.heap.objs.size+1) fd.scope.names []:=by rw[←hev];rfl
 rw[hL]at ic
 have N:jU x env:=⟨by rw[hsc];exact D.fk,by rw[←hev];exact D.gl,(hev).symm▸D.bl,fun x y b e1 e2=>name_of_addr ic.apart (mem_of_lookup e1) (mem_of_lookup e2),fun y k h=>by
  rw[hkind,h,aC (D.nofree y k ((D.kd).symm▸h))],D.nd⟩
 have n:iq env s.heap.objs.size s se:=⟨ic.toInCall.same,ic.toInCall.keep,hfr,by rw[N.fk];decide,let⟨o,es,ep,e,hd,_⟩:=ic.toInCall.ns;⟨o,e,by rw[hd];exact(by intro _ h;cases h)⟩,cK⟩;generalize hp:(fun b=>b=s.heap.objs.size∨∃y,env.cells.lookup y=some b)=p
 have pc:∀{y b},env.cells.lookup y=some b→s.heap.get? b=none∧b≠s.heap.objs.size∧p b:=fun {y b} e=>
  have lt:=ic.above y b (mem_of_lookup e)
  ⟨Heap.get?_none_of_le (aE lt),Nat.ne_of_gt lt,by rw[←hp];exact .inr ⟨y,e⟩⟩
 have W0:=n.KY (d:=d) (F:=F) (p:=p) S W nd fun b pb Z=>by
  rw[←hp]at pb;rcases pb with rfl|⟨y,e⟩
  ·obtain⟨o,e,_⟩:=n.at_;rw[e];exact nofun
  ·obtain⟨o,e2,_⟩:=ic.cell y b e;rw[e2];exact nofun
 have at_:∀{j y q},x.nm[j]? =some y→(nG fn (as.map (·.2)))[j]? =some (some q)→∃u,us[j]? =some u∧RS (c.in env d F) (gP own as s.heap p) H se.heap j q u∧(x.nm.take fn.Jy)[j]? =some y:=fun {j y q} h1 h2=>by
  obtain⟨h3,h4⟩:=xZ h2;obtain⟨t,v⟩:=q;rw[aV]at h3;obtain⟨⟨o,v'⟩,h5,h6⟩:=bY.mp h3;cases h6;obtain⟨u,h7,h8⟩:=r.at h5;refine⟨u,h7,?_,by rw[List.getElem?_take_of_lt (by rw[←hl];exact(ag.mp h5).1)];exact h1⟩
  have hc:t=o.isSome:=by
   rw[show t=fn.io.contains j from h4];cases o with
   |none=>
    refine Bool.eq_false_iff.mpr fun z=>?_
    obtain⟨j',b,e,e'⟩:=hH.mp (hio▸List.contains_iff_mem.mp z);rw[cI]at e;obtain rfl:=e;rw[aV,h5]at e';cases e'
   |some b=>exact List.contains_iff_mem.mpr (hio▸hH.mpr ⟨j,b,(cI j).symm,by rw[aV,h5];rfl⟩)
  cases o with
  |none=>rw[hc];exact bz.mono (fun Z Z e=>e) h8
  |some b=>
   rw[hc];refine cV.Kl (c1:=c) (c2:=c.in env d F) rfl rfl (cV.mono (c:=c) (own':=gP own as s.heap p) (h':=se.heap) (i':=j) (fun Z Z e=>e) (fun a k e=>?_) h8);obtain⟨_,_,o,e1,_⟩:=W.off a b k e;exact⟨xy nd (by rw[e1];exact nofun) e h5,fun o e=>n.keep a o e⟩
 have V0:gN x env (RS (c.in env d F) (gP own as s.heap p) H se.heap) se.heap (nG fn (as.map (·.2))):=by
  refine⟨⟨_,hL▸ic.toInCall.ns,fun j y q h1 h2 h3=>?_⟩,fun j y k h1 h2 hk=>?_⟩
  ·obtain⟨u,h4,h5,h6⟩:=at_ h1 h3;exact⟨u,(mz (show(x.nm.take fn.Jy).Nodup from D.nd.sublist (List.take_sublist _ _)) tl h6 h4 (m':=fun Z=>none)).1 (by rw[hkind];exact h2),h5⟩
  ·have hkc:k=.cell:=hk.elim id fun q=>absurd q (D.nofree y k ((D.kd).symm▸h2));subst hkc;obtain⟨b,hb⟩:=cr.mp (jO (n:=s.heap.objs.size+1) (acc:=[]) (l:=fd.scope.names) (.inl (mem_of_lookup ((D.kd).symm▸h2))));rw[←hcells]at hb;refine⟨b,_,hb,ic.cell y b hb,fun v h3=>?_⟩;obtain⟨u,h4,h5,h6⟩:=at_ h1 h3;exact⟨u,(mz (show(x.nm.take fn.Jy).Nodup from D.nd.sublist (List.take_sublist _ _)) tl h6 h4 (m:=fun Z=>none)).2 (by rw[hkind,h2];decide),h5⟩
 have O':zk c.prog (c.A.deeper env) (env::c.l) d:=⟨⟨O.hh,Around.frames_deeper O.fr,O.tree,by
  have:=O.dep;show c.A.depth+1+2*d+150≤_;omega,by have:=O.un;show c.A.units+3+30*d+200≤_;omega⟩,⟨env,c.l,rfl,by rw[hsc];exact D.gen,by rw[hsc];exact D.co,N.bl,N.gl⟩⟩
 refine au (B (c:=c.in env d F) (Q:=fun p=>zQ fn p Q X) (X:=X) (run env O') ⟨c.l,rfl⟩ (show cJ x (c.in env d F) env _ _ H se from⟨⟨N,n.st S,V0,W0⟩,by rw[hL];exact yi cK (by rw[←hp];exact .inl rfl),fun j y k b Z Z Z e=>⟨yi (pc e).1 (pc e).2.2,by rw[hL];exact(pc e).2.1⟩⟩) (D.io▸z)) (fun fl s' z=>?_) fun e s' z=>?_
 ·obtain⟨own2,H2,ρ2,f,g2,K2,fr,q⟩:=z;have ex:∀{a},own a≠none→s.heap.get? a≠none:=fun e=>(W.live _ e).2
  have inIo:∀{j i v},as[j]? =some (some i,v)→j∈x.io:=fun {j i v} e=>by
   rw[D.io,hio];exact hH.mpr ⟨j,i,(cI j).symm,by rw[aV,e];rfl⟩
  have tg:∀{a i j v},as[j]? =some (some i,v)→own a=some (i+1,0)→own2 a=some (j+1,0):=fun {a i j v} h e=>g2.io j a (inIo h) (xy nd (ex (by rw[e];exact(by intro h;cases h))) e h)
  have out:∀{Q:List V→Prop},callF.outs ρ2 fn.io Q X→∃l,Q l∧oq c (gH own own2 as) H2 s'.heap as us l:=fun {Q} w=>yM (c:=c) (X:=X) (ρ:=ρ2) (Q:=Q) r (n:=0) (fun j i v w h1 h2=>by
   rw[cI]at h2;obtain⟨u,e,f0⟩:=r.at h1;have hj:j<fn.Jy:=by rw[←hl];exact(ag.mp h1).1
   obtain⟨u',f1⟩:=K2.vs.get (dz (aS hj D.ln)) (D.kd▸D.pk _ (ay (i:=j) ((List.getElem?_take_of_lt hj).trans (dz (aS hj D.ln))))) h2;obtain⟨a1,rfl,e1⟩:=f0.ref;obtain⟨b,rfl,e2⟩:=cV.ref (show cV (c.in env d F) own2 H2 s'.heap j w u' from f1);obtain rfl:=K2.ow.uniq _ _ _ _ (tg h1 e1) e2;exact⟨_,e,cV.mono (c:=c) (fun Z Z e=>e) (fun a k e=>⟨u4 e h1,fun Z e=>e⟩) (cV.Kl (c1:=c.in env d F) (c2:=c) rfl rfl f1)⟩) (hio▸w)
  have fin:∀{v u l},oq c (gH own own2 as) H2 s'.heap as us l→Q (v,l)→(fn.own=false→du c.P H2 v u)→(fn.own=true→slots as=[]→∃m a items k,v=.Jq m∧u=.ref a∧s.heap.get? a=none∧H2.get? a=none∧IsL s'.heap a items k∧bz c.P H2 m items.toList∧m.length≤lim+1)→BB fn c own H s as us Q u s':=fun {v u l} o q r1 r2=>
   ⟨gH own own2 as,H2,v,l,n.ret (tk:=s'.toks) W S g2.mv fun Z Z Z e=>e,fun a j k hj e=>(n.Ko g2 W (ex (by rw[e];exact(by intro h;cases h))) fun i hi k' z=>by rw[e]at z;cases z;exact hj i hi rfl).2.trans e,n.KX W S g2 K2.ow nd,
    fun a h0 e=>(n.Ko g2 W h0 fun i hi k' z=>by rw[e]at z;cases z).2.trans e,fun a i hi e=>by
     obtain⟨⟨o,v⟩,h1,h2⟩:=List.mem_filterMap.mp hi;obtain rfl:=h2;obtain⟨j,hj⟩:=List.getElem?_of_mem h1;exact u4 (tg hj e) hj,o,r1,r2,q⟩
  induction fr with
  |nxt=>
   replace q:(cond fn.own bad (bc (callF.outs ρ2 fn.io) fun l=>ok (.none,l)):R (V×List V)) Q X:=q
   cases ho:fn.own with
   |true=>rw[ho]at q;exact q.elim
   |false=>
    rw[ho]at q;obtain⟨l,q,o⟩:=out q;exact fin o q (fun Z=>uM) fun z=>by rw[ho]at z;cases z
  |cont=>exact q.elim
  |ret o r1=>
   obtain⟨l,q,w⟩:=out q;exact fin w q (fun Z=>r1) fun z=>by rw[←D.own,o]at z;cases z
  |Kd o w0 len t r1 hn=>
   obtain⟨l,q,w⟩:=out q;refine fin w q (fun z=>by rw[←D.own,o]at z;cases z) fun Z hs=>⟨_,_,_,_,rfl,rfl,bg fun z=>?_,hn,t,r1,len⟩;have:=(n.Ko g2 W z fun i hi=>by rw[hs]at hi;cases hi).1;rw[w0]at this;cases this
 ·obtain⟨H2,s1,e,g2,q,rfl,f⟩:=z;refine ww O'.fr f fun h' L hf f'=>?_
  rw[hfr]at hf;obtain rfl:=ah (hf);exact⟨H2,_,e,n.ret (h':=hideAll s1.heap [s.heap.objs.size]) (tk:=s1.toks) W S g2 fun b o hb e=>hideAll_get _ e fun z=>hb (aq.mp z),q,rfl,f'⟩
end
section
variable{x x':Cx}{c:Ctx}{A:Around}{env:PySem.Env}{ρ:Env}{own own' own0:ez}{H H' H0 H1 H2 h h':Heap}{s s' s0 s1:Shared}{X:Prop}{E:Value→Shared→Prop}{Q:Flow×Env→Prop}
variable{i j k slot kd:Nat}{v v':V}{u u':Value}{m m':List V}{y z:Str}{a0 D:Addr}{tk:Nat}{p p' p2 p3 ap:Pos}{kk:NameKind}{f:Addr→Option Nat}{e e2 e3:Expr}{a b:CE}{items items':Array Value}{fs:List (Nat×V)}{us:List Value}
theorem cJ.turnX(K:cJ x c env ρ own H0 s0)(g:Mv c no H0 s0 H s)(e0:ρ[i]? =some (some (true,v)))(k:∀b o,(∀k,own b≠some (i+1,k))→s.heap.get? b=some o→h'.get? b=some o)
  (kk:∀a k,own a=some (i+1,k)→∃o,h'.get? a=some o∧yV o) (t:dw c own H { s with heap:=h',toks:=tk }→lT x c i own own' s0 H { s with heap:=h',toks:=tk }) (r:∀u,cV c own H s.heap i v u→cV c own' H h' i v' u):
  cJ x c env (fq ρ i v') own' H { s with heap:=h',toks:=tk }∧Gs x c own H0 s0 own' H { s with heap:=h',toks:=tk }:=by
 have K1:=K.mv g;have nl:∀{a t},own a=some t→t.1≠i+1→∀ob,s.heap.get? a=some ob→h'.get? a=some ob:=fun e n ob q=>k _ ob (fun j z=>by rw[e]at z;obtain rfl:=ah (z);exact n rfl) q
 have W:dw c own H { s with heap:=h',toks:=tk }:=⟨fun a j l e=>by
  obtain⟨h1,h2,o,h3,h4⟩:=K1.ow.off a j l e;by_cases z:j+1=i+1
  ·rw[z]at e;exact⟨h1,h2,kk a l e⟩
  ·exact⟨h1,h2,o,nl e z o h3,h4⟩,K.ow.uniq,fun a e=>by
  obtain⟨h1,h2⟩:=K1.ow.live a e;obtain⟨⟨j,l⟩,e⟩:=aG.mp e;refine⟨h1,?_⟩;show h'.get? a≠none;by_cases z:j=i+1
  ·obtain⟨o,q,_⟩:=kk a l (z▸e);rw[q];exact nofun
  ·obtain⟨o,q⟩:=aG.mp h2;rw[nl e z o q];exact nofun⟩
 have t:=t W;have z0:∀{a},own a=some (0,0)→own' a=some (0,0):=fun e=>t.old _ _ 0 (Ne.symm (bK i)) e;have S:St c H { s with heap:=h',toks:=tk }:=⟨K1.st.gf,fun b o e=>k b o (fun j z=>by rw[(K1.ow.off b i j z).new]at e;cases e) (K1.st.stays b o e),jd K1.st.ff (fun b q=>(K1.st.frOld q).1) fun b o e q=>⟨o.slots,k b o (fun j z=>(K1.ow.off b i j z).fr q) e⟩⟩
 exact⟨⟨⟨K.nk,S,K1.vs.upd (nl K.loc (Ne.symm (bK i))) (fun j y kk a h1 h2 h3 h4=>nl (K.cel j y kk a h1 h2 h3 h4).1 (Ne.symm (bK i))) (fun j p u ne f=>f.mono (fun Z Z e=>e) fun a k e=>⟨t.old _ _ _ (fun z=>ne (bp z).symm) e,nl e fun z=>ne (bp z).symm⟩) e0 fun u f=>r u f,t.ok⟩,
   z0 K.loc,fun i y k a h1 h2 h3 h4=>let q:=K.cel i y k a h1 h2 h3 h4;⟨z0 q.1,q.2⟩⟩,⟨(g.JA fun Z z=>z.elim).trans ⟨S,⟨h',tk,rfl⟩,fun Z Z e=>e,.of fun b o e n=>k b o (fun j z=>n (show own b≠none by rw[z];exact(by intro h;cases h))) e,fun Z Z Z e=>e⟩,t.ow,t.io⟩⟩
theorem iU.get(z:iU c own H h i fs us)(e:iO k fs=some v):∃u,fJ c own H h i k v u∧∀{M:Nat→Option Value},(fs.map (·.1)).map M=us.map some→M k=some u:=by
 induction z with
 |nil=>cases e
 | @cons k' w y fs us a b ih=>
  by_cases hj:k'=k
  ·subst hj;rw[iO,aB rfl]at e;obtain rfl:=ah (e);exact⟨y,a,fun h=>(List.cons.inj h).1⟩
  ·rw[iO,aC hj]at e;obtain⟨u,h1,h2⟩:=ih e;exact⟨u,h1,fun h=>h2 (List.cons.inj h).2⟩
theorem iU.KB(z:iU c own H h i fs us)(nd:(fs.map (·.1)).Nodup)(f:∀k' v u,k'≠k→fJ c own H h i k' v u→fJ c own' H h' i k' v u)(g:fJ c own' H h' i k v' u'):
  ∃us',iU c own' H h' i (gd k v' fs) us'∧∀{M M':Nat→Option Value},M' k=some u'→(∀k',k'≠k→k'∈fs.map (·.1)→M' k'=M k')→(fs.map (·.1)).map M=us.map some→((gd k v' fs).map (·.1)).map M'=us'.map some:=by
 induction z with
 |nil=>exact⟨[u'],.cons g .nil,fun h1 Z Z=>aj (·::[]) h1⟩
 | @cons k' w y fs us a b ih=>
  obtain⟨n1,n2⟩:=bM.mp nd;by_cases hj:k'=k
  ·subst hj;refine⟨u'::us,?_,fun {M M'} h1 h2 h3=>?_⟩
   ·rw[gd,aB rfl];refine .cons g ?_
    clear ih n2 nd;induction b with
    |nil=>exact .nil
    |cons a' _ ih=>exact .cons (f _ _ _ (fun z=>n1 (z▸.head _)) a') (ih fun z=>n1 (.tail _ z))
   ·rw[gd,aB rfl,cZ,cZ,cZ,h1];refine aj (_::·) ((cN fun q hq=>h2 q (fun z=>n1 (z▸hq)) (.tail _ hq)).trans (List.cons.inj h3).2)
  ·obtain⟨us',g1,g2⟩:=ih n2;refine⟨y::us',?_,fun {M M'} q1 q2 q3=>?_⟩
   ·rw[gd,aC hj];exact .cons (f _ _ _ hj a) g1
   ·rw[gd,aC hj,cZ,cZ,cZ,g2 q1 (fun k' n hk=>q2 k' n (.tail _ hk)) (List.cons.inj q3).2,q2 k' hj (.head _)];exact aj (·::_) (List.cons.inj q3).1
theorem e8{w:V}:∀{fs:List (Nat×V)}{q:Nat},q∈(gd k w fs).map (·.1)↔q=k∨q∈fs.map (·.1)
 | [],q=>by simp[gd]
 |(j,u)::r,q=>by
  by_cases hj:j=k
  ·rw[gd,aB hj];simp[hj]
  ·rw[gd,aC hj];simp[e8 (fs:=r),or_left_comm]
theorem fV{w:V}:∀{fs:List (Nat×V)},(fs.map (·.1)).Nodup→((gd k w fs).map (·.1)).Nodup
 | [],_=>by simp[gd]
 |(j,u)::r,h=>by
  by_cases hj:j=k
  ·rw[gd,aB hj];exact h
  ·rw[gd,aC hj];exact bM.mpr ⟨fun z=>(e8.mp z).elim hj (bM.mp h).1,fV (bM.mp h).2⟩
variable{C:Nat}
theorem Je:((List.range 28).map (a5 1)).Nodup:=by decide+kernel
theorem IZ:((List.range 5).map fun k=>a5 0 (k+100)).Nodup:=by decide+kernel
theorem t4{k k':Nat}(h:k<27)(e:a5 1 k'=a5 1 k):k'=k:=by
 have g:∀j,a5 1 j=a5 1 (min j 27):=fun j=>by
  by_cases z:j≤27
  ·rw[Nat.min_eq_left z]
  ·rw[Nat.min_eq_right (by omega)];have d:∀j,27≤j→qC.getD j ""="":=fun j h=>by rw[List.getD_eq_getElem?_getD,bn h];rfl
   show Str.ofString (qC.getD j "")=Str.ofString (qC.getD 27 "");rw[d j (by omega),d 27 (aM _)]
 rw[g k']at e
 have q:∀i j (hi:i<28) (hj:j<28),i<j→a5 1 i≠a5 1 j:=fun i j hi hj h=>by
  have:=(dm.mp Je) i j (by simpa using hi) (by simpa using hj) h
  simpa using this
 rcases Nat.lt_trichotomy (min k' 27) k with z|z|z
 ·exact absurd e (q _ _ (by omega) (by omega) z)
 ·omega
 ·exact absurd e.symm (q _ _ (by omega) (by omega) z)
theorem fJ.Ju{l:List V}(z:fJ c own H h i k (.Jq l) u)(hk:ee k=true):∃m D items n,V.Jq l=.Jq m∧u=.ref D∧own D=some (i+1,k+1)∧m.length≤lim+1∧IsL h D items n∧bz c.P H m items.toList:=by
 generalize hv:V.Jq l=v at z;induction z with
 |keep n=>rw[hk]at n;cases n
 |Jq _ o n t r=>exact⟨_,_,_,_,rfl,rfl,o,n,t,r⟩
 |dict=>exact nomatch (aj jB hv)
theorem cV.app{cc:Nat}{l:List V}(W:dw c own H s)(hk:ee k=true)(hl:iO k fs=some (.Jq l))(z:cV c own H s.heap i (.obj cc fs) u)(o:own D=some (i+1,k+1))(sb:Heap.SameBut D s.heap h'){n:Nat}(t:IsL h' D items n)(r:bz c.P H m items.toList)(len:m.length≤lim+1):
  cV c own H h' i (.obj cc (gd k (.Jq m) fs)) u:=by
 have ne:∀{a k'},own a=some (i+1,k')→k'≠k+1→∀ob,s.heap.get? a=some ob→h'.get? a=some ob:=fun e n ob q=>(sb.2 _ fun z=>by rw[z,o]at e;cases e;exact n rfl).trans q
 have nf:∀k' v u,k'≠k→fJ c own H s.heap i k' v u→fJ c own H h' i k' v u:=fun k' v u n f=>by
  induction f with
  |keep q r=>exact .keep q r
  |Jq q o' len t r=>exact .Jq q o' len (ne o' (fun z=>n (bp z)) _ t) r
  |dict q o' d len=>
   obtain⟨ob,es,ep,e,ec,ed,q1,q2,q3⟩:=d;exact .dict q o' ⟨ob,es,ep,ne o' (fun z=>n (bp z)) _ e,ec,ed,q1,q2,q3⟩ len
 cases cc with
 |zero=>
  obtain⟨a,ob,kvs,us,rfl,w,t',p,fl,mm,g,nd⟩:=(z.Ju);obtain⟨u0,f0,h2⟩:=fl.get hl;obtain⟨_,D0,_,_,_,rfl,o',_⟩:=f0.Ju hk;obtain rfl:=W.uniq _ _ _ _ o o';obtain⟨us',g1,g2⟩:=fl.KB nd nf (fJ.Jq hk o len t r);exact cV.dict w (ne w (Ne.symm (bK k)) _ t') p g1 (g2 (h2 mm) (fun Z Z Z=>rfl) mm) (fun y u e=>let⟨q,h,e⟩:=g y u e;⟨q,e8.mpr (.inr h),e⟩) (fV nd)
 |succ C=>
  obtain⟨a,dx,M,us,rfl,w,w',t',n',fl,mm,g,nd⟩:=(z.Ju);obtain⟨u0,f0,h2⟩:=fl.get hl;obtain⟨_,D0,_,_,_,rfl,o',_⟩:=f0.Ju hk;obtain rfl:=W.uniq _ _ _ _ o o';obtain⟨us',g1,g2⟩:=fl.KB nd nf (fJ.Jq hk o len t r);have n9:99≠k+1:=fun z=>by obtain rfl:=bp z;exact absurd hk (by decide)
  exact cV.inst w w' (ne w (Ne.symm (bK k)) _ t') (n'.at fun ob e=>ne w' n9 ob e) g1 (g2 (h2 mm) (fun Z Z Z=>rfl) mm) (fun y u e=>let⟨q,h,e⟩:=g y u e;⟨q,e8.mpr (.inr h),e⟩) (fV nd)
noncomputable def n6(x:Cx)(be:Expr)(i k:Nat):Prop:=∀{c:Ctx}{env ρ own H s cc fs l}{T E:Value→Shared→Prop},k9 c→cJ x c env ρ own H s→ρ[i]? =some (some (true,.obj cc fs))→(cc=0↔100≤k)→iO k fs=some (.Jq l)→
 (∀D items n tk,own D=some (i+1,k+1)→l.length≤lim+1→IsL s.heap D items n→bz c.P H l items.toList→T (.ref D) { s with toks:=tk })→wpAny c.M c.A (eval be env) T E s
variable{be:Expr}
theorem xN(N:gO x y i)(hk:ee k=true)(h100:100≤k):n6 x (.Subscript (.Name y p) (.Constant (.str (a5 0 k)) kd p2) p3) i k:=fun {c env ρ own H s cc fs l T E} R K e0 hc hl q=>by
 have hz:cc=0:=hc.mpr h100;subst hz;obtain⟨kk,hkk,hv⟩:=N.hk;refine fF (wpAny_Name (kL K.nk K.vs N.hi hkk hv e0 fun u r=>dq ?_) N.hd) (jT rfl);obtain⟨xa,ob,kvs,us,rfl,w,t,pp,fl,mm,g,nd⟩:=cV.Ju (show cV c own H s.heap i (.obj 0 fs) u from r);obtain⟨u0,f0,h2⟩:=fl.get hl;obtain⟨m,D,items,n,em,rfl,o,len,tl,rl⟩:=f0.Ju hk;have em':l=m:=ah (aj jB em);subst em';obtain⟨ex,es,ep,hd,ks,ps,nd'⟩:=pp;exact⟨_,_,F.slot_dict_getitem.lookup,Heap.DictOf.typeIs (s:={ s with toks:=s.toks+1 }) (show s.heap.DictOf (strKind c.prog c.w) xa _ from⟨_,es,ep,t,ex,hd,ks,ps,nd'⟩),wpAny_getItem_of (s:={ s with toks:=s.toks+1 }) (knd:=strKind c.prog c.w) (strKind_is c.prog c.w _ _) (show s.heap.DictOf (strKind c.prog c.w) xa _ from⟨_,es,ep,t,ex,hd,ks,ps,nd'⟩).mapOf (h2 mm) (q D items n _ o len tl rl)⟩
theorem Ea(B:n6 x be i k)(hk:ee k=true)(hb:fN be=true)(hl:(ap.endLine==p.line)=true)(hs:ba e2=true)(h2:aN x e2 b):cx x (.Expr (.Call (.Attribute be "append" ap) [e2] [] p) p2) (.JH i k b):=fun {c env ρ own H s Q X} R ht K z=>by
 obtain⟨ov,e0,z⟩:=gC z;obtain⟨cc,fs,rfl,z⟩:=gX z;obtain⟨hc,z⟩:=bh z;obtain⟨fv,el,z⟩:=d4 z;obtain⟨l,rfl,z⟩:=fD z;refine wpAny_Expr (wpAny_Call_method1_late (ik hb) hl (zS hs) (B R K e0 hc el fun D items n tk o len t r=>m7 t F.slot_list_append F.type_list_append (PySem.P.append_list ?_))) (by unfold interactive;rw[K.nk.fk];rfl) (d6 rfl);have g0:Mv c no H s H { s with toks:=tk }:=(Mv.refl K.st).toks;refine au (bx g0 (h2.E R (K.mv g0).togK z) fun u s1 H1 v g Z ru q=>?_) (fun Z Z z=>z) fun Z Z z=>z.JA fun Z z=>z.elim;obtain⟨hm,q⟩:=bh q;have t1:IsL s1.heap D items n:=((K.ow.off D i _ o).mv g fun z=>z).2 _ t
 have kp:∀a k',own a=some (i+1,k')→∃o,(s1.heap.update D (Obj.mapSeq (·.push u))).get? a=some o∧yV o:=fun a k' e=>by
  by_cases z:a=D
  ·subst z;exact⟨_,t1.update (·.push u),.inl ⟨by simp,by simp⟩⟩
  ·obtain⟨_,_,ob,h3,h4⟩:=(K.mv g).ow.off a i k' e;exact⟨ob,((cu ..).2 a z).trans h3,h4⟩
 obtain⟨K2,G2⟩:=K.turnX (tk:=s1.toks) (own':=own) (v':=.obj cc (gd k (.Jq (l++[v])) fs)) g e0 (fun b ob nb e=>((cu ..).2 b fun z=>nb _ (z▸o)).trans e) kp (fun W=>.same W) fun u' f=>f.app (K.mv g).ow hk el o (cu ..) (t1.update (·.push u)) (by rw[Array.toList_push];exact(r.mono g.base).append ru) (ai▸bQ hm);exact⟨items,n,f9 (r.size▸len),t1,_,_,_,_,G2,K2,.nxt,q⟩
end
end
section
open PySem PySem.W PyProof.Rows Builtin Builtin.ObjectAttr PySem.Calls
section
variable{prog:Program}{w:World}{A:Around}{E:Value→Shared→Prop}{h:Heap}{g:Array GenState}{d:Drawn}{t:Nat}{os:OsState}{K:Frag}{C x:Addr}{mA:Str→Option Value}{name:Str}{v:Value}
set_option tactic.hygienic true in
theorem rF{Q:Unit→Shared→Prop}{ns:List Str}(X:K.In h)(Y:rI K C)(hn:findIn K (.ref C) name=some none)(I:h.Inst x C mA)
  (hq:∀h' tk',h'.Inst x C (fun y=>if y=name then some v else mA y)→
   (∀b o,b≠x→(∀o₀ dx,h.get? x=some o₀→o₀.dict=some dx→b≠dx)→h.get? b=some o→h'.get? b=some o)→
   (∀o₀,h.get? x=some o₀→∃dx,h'.get? x=some { o₀ with dict:=some dx }∧(o₀.dict=some dx∨(o₀.dict=none∧h.get? dx=none)))→Q () ⟨h',g,d,tk',os⟩) (hw:Within mA ns) (hsz:ns.length≤1000):
  wpAny (model prog w) A (setAttr (.ref x) name v) Q E ⟨h,g,d,t,os⟩:=by
 obtain⟨⟨cd,hc,hdct,hne,hobj,hov⟩,hsa⟩:=Y;obtain⟨o,hx,hcl,hnc,hd⟩:=I;have SF:=PySem.F.store_object;have T:Looks (model prog w) h (typeOf (.ref x)) (.ref C):=hcl▸(Looks.ld hx).andThen .now;unfold setAttr callSpecial? specialOf;refine av (wpAny_mkText ?_);refine av (av (av (T.here ((looks_findIn X hsa).here ?_))));dsimp only;rw[SF.slot.bind];refine bN (av (aI (av (wpAny_call (codeAny_call_builtin SF.slot.plain SF.entry (@check_slot (model prog w) _ _ _ "object.__setattr__" "object" "__setattr__" (.ref x) [.str name t,v] [] _ SF.kind SF.split (show Looks (model prog w) h (isInstance (.ref x) (.type "object")) true from T.andThen (looks_mroIn X (by unfold mroIn;rw[hc,Option.bind_some,aC (by rw[hne];decide),hobj]))) (SF.args (.ref x) (.str name t) v) ?_))))));show wpAny _ _ (Builtin.«object.__setattr__» ⟨[.ref x,.str name t,v],[]⟩) _ _ _;rw[osa_eq,refuse_eq];refine av (av (T.here (av ((show Looks (model prog w) h (mroOf (.ref C)) cd.mro from(looks_clsIn X hc).andThen .now).here ?_))));rw[hov];refine aI (av (T.here (av ((looks_findIn X hn).here (av ((Looks.now (a:=(none:Option Value))).here ?_))))));dsimp only;refine av (aI (av (av (wpAny_loadPart hx ?_))));rw[hcl];refine av ((looks_clsIn X hc).here ?_);rw[hdct]
 have fin:∀{dx:Addr}{h1:Heap}{A':Around}{Q':Fin→Shared→Prop}{E':Value→Shared→Prop}{m:Str→Option Value},Within m ns→h1.Ns1 dx m→
   (∀h' tk',h'.Ns1 dx (fun y=>if y=name then some v else m y)→Heap.SameBut dx h1 h'→Q' (.done (.ret .none)) ⟨h',g,d,tk',os⟩)→wpAny (model prog w) A' (storeInDict dx (.str name t) name v) Q' E' ⟨h1,g,d,t+1,os⟩:=by
  intro dx h1 A' Q' E' m hwm hns q;unfold storeInDict newKeyGuard;refine av (aI (av (wpAny_nsSet1 hns fun h' hn' hs=>?_)));obtain⟨oD,esD,epD,hoD,hdD,hcD⟩:=hn'.count (Within.cons name v hwm);refine av (wpAny_lookBehind hoD (by rw[hdD];exact pastItsLine_dict (aa hcD (by rw[cT,sizeLine_eq];omega))) ?_);exact aI (q _ _ hn' hs)
 rcases hd with⟨hdn,hmA⟩|⟨dx,hdx,hne2,hns⟩
 ·rw[hdn];have hx₁:(h.push { cls:=.type "dict",data:=.dict #[] }).get? x=some o:=aH _ hx;have hxs:x≠h.objs.size:=cG (dS hx);rw[aC (by decide)];dsimp only;rw[aC (by exact b6)];split
  ·rename_i c hcd;exact absurd hcd (hnc c)
  refine av (wpAny_alloc' (av (wpAny_update' hx₁ ?_)))
  have hgd:((h.push { cls:=.type "dict",data:=.dict #[] }).update x fun o=>{ cls:=o.cls,dict:=some h.objs.size,data:=o.data,slots:=o.slots }).get? h.objs.size
    =some { cls:=.type "dict",data:=.dict #[] }:=(Heap.get?_update_ne _ _ _ _ hxs.symm).trans (Heap.get?_push_at rfl rfl)
  have dZ:((h.push { cls:=.type "dict",data:=.dict #[] }).update x fun o=>{ cls:=o.cls,dict:=some h.objs.size,data:=o.data,slots:=o.slots }).Ns h.objs.size (fun Z=>none):=
   ⟨_,#[],_,hgd,rfl,fun e he=>absurd he (by simp),fun Z=>rfl⟩
  refine aI ?_
  refine fin (fun Z h=>absurd rfl h) (Heap.Ns1.of_empty dZ) fun h' tk' hn' hs=>?_
  have hx':h'.get? x=some { o with dict:=some h.objs.size }:=(hs.2 x hxs).trans (Heap.get?_update_self _ hx₁ (by
   obtain⟨oc,od,odt,osl⟩:=o;cases odt<;>first | rfl | exact((Heap.get?_some_iff.mp hx).2)))
  refine aI (aI (hq h' tk' ⟨_,hx',hcl,hnc,.inr ⟨h.objs.size,rfl,hxs.symm,?_⟩⟩ (fun b ob hbx Z hb=>?_) fun o₀ h₀=>?_))
  ·obtain⟨o',es,ep,e1,e2,e3,eu,e4⟩:=hn';exact⟨o',es,ep,e1,e2,e3,eu,fun y=>by rw[e4 y];by_cases hy:y=name<;>simp[hy,hmA]⟩
  ·exact(hs.2 b (cG (dS hb))).trans ((Heap.get?_update_ne _ _ _ _ hbx).trans (aH _ hb))
  ·rw[hx]at h₀;obtain rfl:=ah (h₀);exact⟨_,hx',.inr ⟨hdn,Heap.get?_none_of_le (aM _)⟩⟩
 ·rw[hdx];refine aI (a:=some dx) (fin hw hns fun h' tk' hn' hs=>aI (aI (hq h' tk' ⟨o,(hs.2 x hne2.symm).trans hx,hcl,hnc,.inr ⟨dx,hdx,hne2,hn'⟩⟩ (fun b ob Z hbd hb=>(hs.2 b (hbd o dx hx hdx)).trans hb) fun o₀ h₀=>?_)));rw[hx]at h₀;obtain rfl:=ah (h₀);exact⟨dx,by rw[hs.2 x hne2.symm,hx,←hdx],.inl hdx⟩
theorem zh{dx:Addr}{Q:Unit→Shared→Prop}{ns:List Str}(X:K.In h)(Y:rI K C)(hn:findIn K (.ref C) name=some none)(hx:h.get? x=some (instObj C dx))(hns:h.Ns1 dx mA)(hw:Within mA ns)(hsz:ns.length≤1000)
  (hq:∀h' tk',h'.Ns1 dx (fun y=>if y=name then some v else mA y)→(∀b o,b≠dx→h.get? b=some o→h'.get? b=some o)→Q () ⟨h',g,d,tk',os⟩):wpAny (model prog w) A (setAttr (.ref x) name v) Q E ⟨h,g,d,t,os⟩:=by
 have ne:dx≠x:=fun q=>by
  obtain⟨o,es,ep,e,hd,_⟩:=hns;rw[q,hx]at e;obtain rfl:=ah (e);cases hd
 refine rF X Y hn ⟨_,hx,rfl,by simp,.inr ⟨dx,rfl,ne,hns⟩⟩ (fun h' tk' i' k s'=>?_) hw hsz;obtain⟨dx',e3,e4⟩:=s' _ hx
 have ed:dx'=dx:=by
  rcases e4 with e4|⟨e4,_⟩
  ·obtain rfl:=ah (e4);rfl
  ·cases e4
 subst ed;refine hq h' tk' ?_ fun b o hb e=>?_
 ·obtain⟨o,f1,f2,f3,f4⟩:=i';rw[e3]at f1;obtain rfl:=ah (f1);rcases f4 with⟨f4,_⟩|⟨d,g1,g2,g3⟩
  ·cases f4
  ·obtain rfl:=ah (g1);exact g3
 ·by_cases hxb:b=x
  ·subst hxb;rw[hx]at e;obtain rfl:=ah (e);exact e3
  ·exact k b o hxb (fun o₀ d' q1 q2 q3=>by rw[hx]at q1;obtain rfl:=ah (q1);obtain rfl:=ah (q2);exact hb q3) e
end
end
section
open PySem PySem.W PyProof.Rows
section
structure rA(x:Cx)(c:Ctx)(i k:Nat)(own own':ez)(s0:Shared)(H:Heap)(s:Shared):Prop where
 re:lT x c i own own' s0 H s
 sub:∀a k',own a=some (i+1,k')→k'≠k+1→own' a=some (i+1,k')
inductive FP(x:Cx)(c:Ctx)(i k:Nat)(own:ez)(H:Heap)(s:Shared)(Q:V→Prop)(u:Value)(s':Shared):Prop
 |mk (own':ez) (H':Heap) (v:V) (g:Mv c no H s H' s') (t:rA x c i k own own' s H' s') (f:fJ c own' H' s'.heap i k v u) (q:Q v)
noncomputable def sq(x:Cx)(i k:Nat)(e:Expr)(r:FT→Env→R V):Prop:=∀{c:Ctx}{env ρ own H s Q X},k9 c→cJ x c env ρ own H s→r c.F ρ Q X→wpAny c.M c.A (eval e env) (FP x c i k own H s Q) (XP c no H s X) s
variable{x:Cx}{c:Ctx}{A:Around}{env:PySem.Env}{ρ:Env}{own own':ez}{H H' H0 h h':Heap}{s s' s0 s1:Shared}{X:Prop}{E:Value→Shared→Prop}{Q:Flow×Env→Prop}
variable{i j k kd C:Nat}{v v':V}{u u':Value}{y:Str}{a0 D:Addr}{tk:Nat}{p p' p2 p3 ap:Pos}{e e2:Expr}{a b:CE}{fs:List (Nat×V)}{us:List Value}{r:FT→Env→R V}
theorem rA.same(W:dw c own H s):rA x c i k own own s0 H s:=⟨.same W,fun Z Z e Z=>e⟩
theorem Fw(hk:ee k=false)(h:aN x e b):sq x i k e fun F ρ=>aY F b ρ:=fun R K z=>
 au (h.E R K.togK z) (by rintro u s' ⟨H',v,g,ru,q⟩;exact⟨_,H',v,g,.same (K.mv g).ow,.keep hk ru,q⟩) fun Z Z z=>z
theorem dw.new(W:dw c own H0 s0)(g:Mv c no H0 s0 H s)(n:s0.heap.get? a0=none)(h:H.get? a0=none)(S0:St c H0 s0){o:PySem.Obj}(e:s.heap.get? a0=some o)(h1:yV o):∃own',rA x c i k own own' s0 H s∧own' a0=some (i+1,k+1):=by
 have n0:own a0=none:=bg fun z=>(W.live a0 z).2 n
 have inv:∀{a k'},(if a=a0 then some (k+1)else(own a).bind fun t=>if t.1=i+1∧t.2≠k+1 then some t.2 else none)=some k'→(a=a0∧k'=k+1)∨(own a=some (i+1,k')∧k'≠k+1):=fun {a k'} e=>by
  by_cases z:a=a0
  ·rw[aB z]at e;exact .inl ⟨z,(ah e).symm⟩
  ·rw[aC z]at e;obtain⟨⟨t1,t2⟩,e1,e2⟩:=bG.mp e;by_cases w:t1=i+1∧t2≠k+1
   ·rw[aB w]at e2;obtain rfl:=ah (e2);exact .inr ⟨by rw[e1,w.1],w.2⟩
   ·rw[aC w]at e2;cases e2
 have tag:∀{a k'},own a=some (i+1,k')→k'≠k+1→(if a=a0 then some (k+1)else(own a).bind fun t=>if t.1=i+1∧t.2≠k+1 then some t.2 else none)=some k':=fun {a k'} e hk=>by
  rw[aC (fun z=>by rw[z,n0]at e;cases e),e];exact aB ⟨rfl,hk⟩
 refine⟨own.re i fun a=>if a=a0 then some (k+1)else(own a).bind fun t=>if t.1=i+1∧t.2≠k+1 then some t.2 else none,⟨lT.re (W.mv g) (fun a e=>(W.live a e).2) (fun a k' e'=>?_) (fun a b k' e1 e2=>?_) (fun a k' e'=>?_) fun Z a e'=>tag e' (Ne.symm (bK k)),fun a k' e' hk=>om (tag e' hk)⟩,om (aB rfl)⟩
 ·rcases inv e' with⟨rfl,_⟩|⟨z,_⟩
  ·exact⟨h,fun q=>(S0.frOld q).2 n,o,e,h1⟩
  ·exact(W.mv g).off a i k' z
 ·rcases inv e1 with⟨z1,w1⟩|⟨z1,w1⟩<;>rcases inv e2 with⟨z2,w2⟩|⟨z2,w2⟩
  ·rw[z1,z2]
  ·exact absurd w1 w2
  ·exact absurd w2 w1
  ·exact W.uniq a b i k' z1 z2
 ·rcases inv e' with⟨rfl,_⟩|⟨z,_⟩
  ·exact .inl n
  ·exact .inr ⟨k',z⟩
theorem BI(hk:ee k=true)(h:gW x e b):sq x i k e fun F ρ=>bc (aY F b ρ) fun v=>bc (dD v) fun l=>ok (.Jq l):=fun R K z=>
 au (h R K.togK z) (fun u s' ⟨H',m,a,items,n,g,eu,n0,h0,t,r,len,q⟩=>by
  subst eu;obtain⟨own',T,e⟩:=K.ow.new (x:=x) (i:=i) (k:=k) g n0 h0 K.st t (.inl ⟨by simp,by simp⟩);exact⟨own',H',_,g,T,.Jq hk e len t r,q⟩) fun Z Z z=>z
theorem CF(hk:ee k=true):sq x i k (.Dict [] [] p) fun Z Z=>ok (.Jv 0):=fun {c env ρ own H s Q X} R K z=>by
 rw[eval_Dict_empty];refine av (cQ (wpAny_newObj_type ?_));have g:Mv c no H s H { s with heap:=s.heap.push { cls:=.type "dict",data:=.dict #[] },toks:=s.toks }:=(Mv.refl K.st).keeps fun Z Z e=>aH _ e;have hd:(s.heap.push { cls:=.type "dict",data:=.dict #[] }).get? s.heap.objs.size=some { cls:=.type "dict",data:=.dict #[] }:=cf _ rfl;obtain⟨own',T,e⟩:=K.ow.new (x:=x) (i:=i) (k:=k) g cK (K.st.off cK) K.st hd (.inr ⟨_,_,rfl⟩);exact⟨own',H,_,g,T,.dict (xs:=[]) hk e ⟨_,#[],0,hd,⟨rfl,rfl,rfl⟩,rfl,rfl,fun y hy=>((by cases hy)),List.nodup_nil⟩ (aM 0),z⟩
theorem dw.turn(W:dw c own H s)(k:∀b o,b≠a0→s.heap.get? b=some o→h'.get? b=some o)(h:∃o,h'.get? a0=some o∧yV o):dw c own H { s with heap:=h',toks:=tk }:=
 have f:∀{a o},s.heap.get? a=some o→(a=a0)∨h'.get? a=some o:=fun {a o} e=>by
  by_cases z:a=a0
  ·exact .inl z
  ·exact .inr (k a o z e)
 ⟨fun a i j e=>let⟨h1,h2,o,h3,h4⟩:=W.off a i j e;⟨h1,h2,(f h3).elim (fun z=>z▸h) fun z=>⟨o,z,h4⟩⟩,W.uniq,fun a e=>by
  obtain⟨h1,h2⟩:=W.live a e;obtain⟨o,e⟩:=aG.mp h2;refine⟨h1,?_⟩;show h'.get? a≠none;rcases f e with rfl|z
  ·obtain⟨o,e,_⟩:=h;rw[e];exact nofun
  ·rw[z];exact nofun⟩
theorem rA.KR(T:rA x c i k own own' s0 H s){k':Nat}(n:k'≠k)(kp:∀a,ee k'=true→own a=some (i+1,k'+1)→∀o,s.heap.get? a=some o→h'.get? a=some o)(f:fJ c own H s.heap i k' v u):fJ c own' H h' i k' v u:=by
 have n':k'+1≠k+1:=fun z=>n (bp z);induction f with
 |keep q r=>exact .keep q r
 |Jq q o len t r=>exact .Jq q (T.sub _ _ o n') len (kp _ q o _ t) r
 |dict q o d len=>
  obtain⟨ob,es,ep,e,ec,ed,q1,q2,q3⟩:=d;exact .dict q (T.sub _ _ o n') ⟨ob,es,ep,kp _ q o _ e,ec,ed,q1,q2,q3⟩ len
theorem fJ.same(kp:∀a j,ee j=true→own a=some (i+1,j+1)→∀o,h.get? a=some o→h'.get? a=some o)(f:fJ c own H h i k v u):fJ c own H h' i k v u:=by
 induction f with
 |keep q r=>exact .keep q r
 |Jq q o len t r=>exact .Jq q o len (kp _ _ q o _ t) r
 |dict q o d len=>
  obtain⟨ob,es,ep,e,ec,ed,q1,q2,q3⟩:=d;exact .dict q o ⟨ob,es,ep,kp _ _ q o _ e,ec,ed,q1,q2,q3⟩ len
variable{n:Str}{kvs:List (Str×Value)}
theorem mU(c:Nat):iF c∈[424,375,354,90]:=by
 unfold iF;split<;>decide
theorem DG(k:Nat):a5 0 k∈["","units","ins","clauses","mains"].map Str.ofString:=by
 by_cases h:k<100
 ·rw[show a5 0 k=Str.ofString (if k<100 then "" else _)from rfl,aB h];exact .head _
 ·rw[show a5 0 k=Str.ofString (if k<100 then "" else ["units","ins","clauses","mains"].getD (k - 100) "")from rfl,aC h];generalize k - 100=j;rcases j with _|_|_|_|j
  ·exact .tail _ (.head _)
  ·exact .tail _ (.tail _ (.head _))
  ·exact .tail _ (.tail _ (.tail _ (.head _)))
  ·exact .tail _ (.tail _ (.tail _ (.tail _ (.head _))))
  ·exact .head _
theorem tA{k k':Nat}(h:100≤k)(h4:k<104)(e:a5 0 k'=a5 0 k):k'=k:=by
 have g:∀j,∃m,m≤4∧a5 0 j=a5 0 (m+100)∧(m<4→j=m+100):=fun j=>by
  by_cases z:j<100
  ·exact⟨4,aM _,by rw[show a5 0 j=Str.ofString (if j<100 then "" else _)from rfl,aB z];rfl,fun w=>absurd w (aZ _)⟩
  ·by_cases w:j<104
   ·exact⟨j - 100,by omega,by rw[Nat.sub_add_cancel (Nat.le_of_not_lt z)],fun Z=>(Nat.sub_add_cancel (Nat.le_of_not_lt z)).symm⟩
   ·refine⟨4,aM _,?_,fun w=>absurd w (aZ _)⟩;rw[show a5 0 j=Str.ofString (if j<100 then "" else ["units","ins","clauses","mains"].getD (j - 100) "")from rfl,aC z,List.getD_eq_getElem?_getD,bn (by show 4≤_;omega)];rfl
 obtain⟨m,hm,em,rm⟩:=g k';rw[em]at e
 have q:∀i j (hi:i<5) (hj:j<5),i<j→a5 0 (i+100)≠a5 0 (j+100):=fun i j hi hj h=>by
  have:=(dm.mp IZ) i j (by simpa using hi) (by simpa using hj) h
  simpa using this
 have ek:a5 0 k=a5 0 ((k - 100)+100):=by rw[Nat.sub_add_cancel h]
 rw[ek]at e;rcases Nat.lt_trichotomy m (k - 100)with z|z|z
 ·exact absurd e (q _ _ (by omega) (by omega) z)
 ·rw[rm (by omega),z];omega
 ·exact absurd e.symm (q _ _ (by omega) (by omega) z)
theorem i7{m:Str}{w:Value}:valueAt ((m,w)::kvs) y=if m=y then some w else valueAt kvs y:=by
 unfold valueAt;by_cases h:m=y<;>simp[h]
theorem zX(h:valueAt kvs n=none):valueAt (kvs++[(n,u)]) y=if y=n then some u else valueAt kvs y:=by
 induction kvs with
 |nil=>
  rw[List.nil_append,i7];by_cases q:y=n
  ·rw[aB q,aB q.symm]
  ·rw[aC q,aC (Ne.symm q)]
 |cons q kvs ih=>
  rw[i7]at h;by_cases hm:q.1=n
  ·rw[aB hm]at h;cases h
  ·rw[aC hm]at h;rw[List.cons_append,i7,i7,ih h];by_cases hy:q.1=y
   ·rw[aB hy,aB hy,aC fun z=>hm (hy.trans z)]
   ·rw[aC hy,aC hy]
theorem BZ:valueAt (kvs.map fun kv=>if kv.1=n then(kv.1,u)else kv) y=(valueAt kvs y).map fun w=>if y=n then u else w:=by
 induction kvs with
 |nil=>rfl
 |cons q kvs ih=>
  have e:(if q.1=n then(q.1,u)else(q.1,q.2))=(q.1,if q.1=n then u else q.2):=by split<;>rfl
  show valueAt ((if q.1=n then(q.1,u)else(q.1,q.2))::_) y=_;rw[e,i7,i7,ih];by_cases hy:q.1=y
  ·rw[aB hy,aB hy,hy];rfl
  ·rw[aC hy,aC hy]
theorem wN:kvs.any (fun kv=>kv.1=n)=(valueAt kvs n).isSome:=by
 induction kvs with
 |nil=>rfl
 |cons q kvs ih=>
  rw[List.any_cons,i7,ih];by_cases h:q.1=n<;>simp[h]
theorem eB:valueAt (stored kvs n u) y=if y=n then some u else valueAt kvs y:=by
 unfold stored;rw[wN];cases h:valueAt kvs n with
 |none=>rw[aC (by exact b6)];exact zX h
 |some w=>
  rw[show(if(some w).isSome=true then List.map (fun kv=>if kv.1=n then(kv.1,u)else kv) kvs else kvs++[(n,u)])=_ from aB rfl,BZ];by_cases q:y=n
  ·rw[aB q,q,h];exact aj some (aB rfl)
  ·rw[aC q,show(fun w=>if y=n then u else w)=id from funext fun w=>aC q];cases valueAt kvs y<;>rfl
noncomputable def HD(ρ:Env)(i k:Nat)(r:R V):R (Flow×Env):=bc r fun v=>bc (oB ρ i k v) fun ρ'=>ok (.nxt,ρ')
noncomputable def lb(x:Cx)(st:Stmt)(i k:Nat)(r:FT→Env→R V):Prop:=∀{c:Ctx}{env ρ own H s Q X},k9 c→pK c.l env→cJ x c env ρ own H s→HD ρ i k (r c.F ρ) Q X→wpAny c.M c.A (exec st env) (SP x c env own H s Q) (XP c (ch own) H s X) s
theorem ng{Q:Env→Prop}(z:oB ρ i k v Q X):∃cc fs,ρ[i]? =some (some (true,.obj cc fs))∧(cc=0↔100≤k)∧Q (fq ρ i (.obj cc (gd k v fs))):=by
 obtain⟨ov,e0,z⟩:=gC z;obtain⟨cc,fs,rfl,z⟩:=gX z;obtain⟨hc,z⟩:=bh z;exact⟨cc,fs,e0,hc,z⟩
theorem qX(K:cJ x c env ρ own H s)(g:Mv c no H s H' s1)(T:rA x c i k own own' s H' s1){cc:Nat}(e0:ρ[i]? =some (some (true,.obj cc fs))){k0:Nat}(w:own a0=some (i+1,k0))(sb:∀b o,b≠a0→s1.heap.get? b=some o→h'.get? b=some o)
  (at_:∃o,h'.get? a0=some o∧yV o) (q:Q (.nxt,fq ρ i (.obj cc (gd k v fs)))) (wa:own D=some (i+1,0)) (r:cV c own' H' h' i (.obj cc (gd k v fs)) (.ref D)):SP x c env own H s Q .next { s1 with heap:=h',toks:=tk }:=by
 obtain⟨K2,G2⟩:=K.turnX (tk:=tk) (own':=own') (v':=.obj cc (gd k v fs)) g e0 (fun b o nb e=>sb b o (fun z=>nb _ (z▸w)) e) (fun a k' e=>by
  by_cases z:a=a0
  ·exact z▸at_
  ·obtain⟨_,_,ob,h3,h4⟩:=(K.mv g).ow.off a i k' e;exact⟨ob,sb a ob z h3,h4⟩) (fun Z=>⟨T.re.old,T.re.ok.turn sb at_,T.re.ow,T.re.io⟩) fun u f=>by
  obtain⟨a2,rfl,w2⟩:=f.ref;obtain rfl:=K.ow.uniq _ _ _ _ wa w2;exact r
 exact⟨_,_,_,_,G2,K2,.nxt,q⟩
theorem BM(N:gO x y i)(h100:100≤k)(h104:k<104)(hc:e9 e=true)(h:sq x i k e r):lb x (.Assign [.Subscript (.Name y p') (.Constant (.str (a5 0 k)) kd p2) p3] e p) i k r:=fun {c env ρ own H s Q X} R ht K z=>
 wpAny_Assign_Subscript (au (h R K z) (fun u s1 ⟨own',H1,v,g,T,fv,q⟩=>by
  obtain⟨cc,fs,e0,hcc,q⟩:=ng q;obtain rfl:=hcc.mpr h100;obtain⟨kk,hkk,hv⟩:=N.hk;refine wpAny_Name (kL (K.mv g).nk (K.mv g).vs N.hi hkk hv e0 fun u0 r0=>dq ?_) N.hd;obtain⟨xa,ob,kvs,us,rfl,w,t,pp,fl,mm,gg,nd⟩:=cV.Ju (show cV c own H1 s1.heap i (.obj 0 fs) u0 from r0);obtain⟨ex,es,ep,hd,ks,ps,nd'⟩:=pp
  have hl:kvs.length≤sizeLine:=by
   have:=length_le_of_nodup_of_subset _ (["","units","ins","clauses","mains"].map Str.ofString) nd' fun z hz=>by
    obtain⟨⟨z1,z2⟩,hz1,rfl⟩:=aP.mp hz
    have:∃w,valueAt kvs z1=some w:=by
     rw[←cr,←wN];exact dr.mpr ⟨_,hz1,ak rfl⟩
    obtain⟨w,e⟩:=this;obtain⟨j,_,rfl⟩:=gg _ _ e;exact DG j
   rw[af]at this;exact aa this (by rw[sizeLine_eq];decide)
  refine wpAny_setItem_pairs (s:={ s1 with toks:=s1.toks+1 }) (knd:=strKind c.prog c.w) (k:=a5 0 k) (strKind_is c.prog c.w _ _) ⟨_,es,ep,t,ex,hd,ks,ps,nd'⟩ (fun h' hd' sb=>?_) hl;obtain⟨o',es',ep',e1,e2,e3,e4,e5,e6⟩:=hd';have w':=T.sub _ _ w (Ne.symm (bK k));have kp:∀{b o},b≠xa→s1.heap.get? b=some o→h'.get? b=some o:=fun hb e=>(sb.2 _ hb).trans e;have nx:∀{own:ez}{b j},own xa=some (i+1,0)→own b=some (i+1,j+1)→b≠xa:=fun w e z=>by rw[z,w]at e;cases e
  obtain⟨us',g1,g2⟩:=fl.KB nd (fun k' v u n f=>T.KR n (fun b Z e o q=>kp (nx w e) q) f) (fv.same (h':=h') fun b j Z e o q=>kp (nx w' e) q);refine qX (s1:=s1) (tk:=s1.toks+1+1) K g T e0 w (fun b o hb e=>kp hb e) ⟨o',e1,.inr ⟨_,_,e3⟩⟩ q w (cV.dict w' e1 ⟨e2,es',ep',e3,e4,e5,e6⟩ g1 (g2 (M:=fun j=>valueAt kvs (a5 0 j)) (M':=fun j=>valueAt (stored kvs (a5 0 k) u) (a5 0 j)) (eB.trans (aB rfl)) (fun j n Z=>eB.trans (aC fun z=>n (tA h100 h104 z))) mm) (fun y0 u0 e=>?_) (fV nd))
  ·rw[eB]at e;by_cases z:y0=a5 0 k
   ·exact⟨k,e8.mpr (.inl rfl),z⟩
   ·rw[aC z]at e;obtain⟨j,hj,ej⟩:=gg _ _ e;exact⟨j,e8.mpr (.inr hj),ej⟩) fun Z Z z=>z.JA fun Z z=>z.elim) (d6 hc)
theorem Ir{k:Nat}:a5 (C+1) k=a5 1 k:=rfl
theorem Dt(N:gO x y i)(hk:k<27)(hc:e9 e=true)(h:sq x i k e r):lb x (.Assign [.Attribute (.Name y p') (a5 1 k) p2] e p) i k r:=fun {c env ρ own H s Q X} R ht K z=>
 plainObj_wpAny_Assign_Attribute (au (h R K z) (fun u s1 ⟨own',H1,v,g,T,fv,q⟩=>by
  obtain⟨cc,fs,e0,hcc,q⟩:=ng q;have K1:=K.mv g;obtain⟨kk,hkk,hv⟩:=N.hk;refine wpAny_Name (kL K1.nk K1.vs N.hi hkk hv e0 fun u0 r0=>?_) N.hd;cases cc with
  |zero=>exact absurd (hcc.mp rfl) (by omega)
  |succ C=>
  obtain⟨xa,dx,M,us,rfl,w,wd,t,hn,fl,mm,gg,nd⟩:=cV.Ju (show cV c own H1 s1.heap i (.obj (C+1) fs) u0 from r0);have ne0:∀{b j},own b=some (i+1,j)→j≠99→b≠dx:=fun e n z=>by rw[z,wd]at e;cases e;exact n rfl
  have nk:∀{j},ee j=true→j+1≠99:=fun hj z=>by obtain rfl:=bp z;exact absurd hj (by decide)
  have hk1:k+1≠99:=by omega
  have wd':=T.sub _ _ wd (Ne.symm hk1);refine zh (ns:=(""::qC).map Str.ofString) (K1.st.gf.inK.keeps K1.st.stays) (R.gk.set _ (mU (C+1))).1 ((R.gk.set _ (mU (C+1))).2 k hk).2.1 t hn (fun y hy=>?_) (by decide) fun h' tk' hn' sb=>?_
  ·obtain⟨u,e⟩:=aG.mp hy;obtain⟨j,_,rfl⟩:=gg _ _ e;obtain⟨z,hz,e⟩:=pa j;rw[show a5 (C+1) j=a5 57 j from rfl,e];exact bV hz
  obtain⟨us',g1,g2⟩:=fl.KB nd (fun k' v u n f=>T.KR n (h':=h') (fun b hj e o q=>sb _ _ (ne0 e (nk hj)) q) f) (fv.same (h':=h') fun b j hj e o q=>sb _ _ (fun z=>by rw[z,wd']at e;cases e;exact nk hj rfl) q);refine qX (s1:=s1) (tk:=tk') K g T e0 wd (fun b o hb e=>sb b o hb e) (let⟨o,es,ep,e,d,_⟩:=hn';⟨o,e,.inr ⟨_,_,d⟩⟩) q w (cV.inst (T.sub _ _ w (Ne.symm (bK k))) wd' (sb _ _ (ne0 w (by decide)) t) hn' g1 (g2 (M:=fun j=>M (a5 (C+1) j)) (M':=fun j=>if a5 (C+1) j=a5 1 k then some u else M (a5 (C+1) j)) (aB rfl) (fun j n Z=>aC fun z=>n (t4 hk z)) mm) (fun y0 u0 e=>?_) (fV nd));by_cases z:y0=a5 1 k
  ·exact⟨k,e8.mpr (.inl rfl),z⟩
  ·rw[aC z]at e;obtain⟨j,hj,ej⟩:=gg _ _ e;exact⟨j,e8.mpr (.inr hj),ej⟩) fun Z Z z=>z.JA fun Z z=>z.elim) (d6 hc)
variable{T:Value→Shared→Prop}
theorem A6(N:gO x y i)(R:k9 c)(K:cJ x c env ρ own H s)(hk:k<27)(e0:ρ[i]? =some (some (true,.obj (C+1) fs)))(hl:iO k fs=some v)(q:∀u,fJ c own H s.heap i k v u→handedIn u=true∧T u { s with toks:=s.toks+1 }):wpAny c.M c.A (eval (.Attribute (.Name y p') (a5 1 k) p) env) T E s:=by
 obtain⟨kk,hkk,hv⟩:=N.hk;refine lZ rfl (wpAny_Name (kL K.nk K.vs N.hi hkk hv e0 fun u0 r0=>?_) N.hd);obtain⟨xa,dx,M,us,rfl,w,wd,t,hn,fl,mm,gg,nd⟩:=cV.Ju (show cV c own H s.heap i (.obj (C+1) fs) u0 from r0);obtain⟨u1,f1,h1⟩:=fl.get hl;obtain⟨od,e1,e2⟩:=rH hn;obtain⟨hh,q⟩:=q u1 f1;exact vt (K.st.gf.inK.keeps K.st.stays) ((R.gk.set _ (mU (C+1))).2 k hk) t e1 ((e2 _).trans (aj some (h1 (M:=fun j=>M (a5 (C+1) j)) mm))) hh q
theorem vV(N:gO x y i)(hk:ee k=true)(h27:k<27):n6 x (.Attribute (.Name y p) (a5 1 k) p2) i k:=fun {c env ρ own H s cc fs l T E} R K e0 hc hl q=>by
 cases cc with
 |zero=>exact absurd (hc.mp rfl) (by omega)
 |succ C=>
  refine A6 N R K h27 e0 hl fun u f=>?_
  obtain⟨m,D,items,n,em,rfl,o,len,tl,rl⟩:=f.Ju hk;obtain rfl:=ah (aj jB em);exact⟨rfl,q D items n _ o len tl rl⟩
theorem fJ.KS{n:Nat}(z:fJ c own H h i k (.Jv n) u)(hk:ee k=true):∃a xs,u=.ref a∧own a=some (i+1,k+1)∧AX c H h a xs∧xs.length≤n:=by
 generalize hv:V.Jv n=v at z;induction z with
 |keep n=>rw[hk]at n;cases n
 |Jq=>exact nomatch (aj jB hv)
 | @dict a xs m _ o d len=>
  have e:n=m:=aj (fun v=>match v with | .Jv n=>n | _=>0) hv;exact⟨_,_,rfl,o,d,e▸len⟩
theorem Ct{is:List Int}(r:du c.P H (.Js (is.map .int)) u):∃a,u=.ref a∧(C7 c.prog c.w).is H is a:=by
 obtain⟨a,items,rfl,n,⟨o,e,hc,k,hd⟩,r1⟩:=r.Ju;refine⟨a,rfl,o,items,k,e,hc,hd,?_⟩;have:=r1.Kr;clear r1 n r;clear hd;generalize items.toList=l at this;induction this with
 |nil=>exact .nil
 |cons n t x ih=>exact .cons (intKind_is ..) ih
theorem IsTupleKey.KC{is:List Int}{a:Addr}(z:(C7 c.prog c.w).is H is a)(b:H.StaysIn h):(C7 c.prog c.w).is h is a:=let⟨o,it,k,e,r⟩:=z;⟨o,it,k,b _ _ e,r⟩
theorem Dx(N:gO x y i)(K:cJ x c env ρ own H s)(e0:ρ[i]? =some (some (true,v))):∃u,cV c own H s.heap i v u:=by
 obtain⟨kk,hk,hv⟩:=N.hk;obtain⟨⟨m,_,hm⟩,cl⟩:=K.vs;rcases hv with rfl|hv
 ·obtain⟨u,_,r⟩:=hm i y _ N.hi hk e0;exact⟨u,r⟩
 ·obtain⟨a,w,_,_,hw⟩:=cl i y kk N.hi hk hv;obtain⟨u,_,r⟩:=hw _ e0;exact⟨u,r⟩
theorem Dz(N:gO x y i)(hk:ee k=true)(h27:k<27)(hc:e9 e=true)(h:aN x e a)(h2:aN x e2 b):cx x (.Assign [.Subscript (.Attribute (.Name y p') (a5 1 k) p2) e2 p3] e p) (.Kk i k b a):=fun {c env ρ own H s Q X} R ht K z=>
 wpAny_Assign_Subscript (sx (h.E R K.togK z) fun u s1 H1 v g ru q=>by
  obtain⟨ov,e0,q⟩:=gC q;obtain⟨cc,fs,rfl,q⟩:=gX q;obtain⟨hcc,q⟩:=bh q;obtain⟨dv,el,q⟩:=d4 q;have K1:=K.mv g;cases cc with
  |zero=>exact absurd rfl hcc.1
  |succ C=>
  refine A6 N R K1 h27 e0 el fun u0 f0=>?_
  cases dv with
  |Jv n=>
   obtain⟨D,xs,rfl,o,d,len⟩:=f0.KS hk;refine⟨rfl,?_⟩;have g1:Mv c no H s H1 { s1 with toks:=s1.toks+1 }:=g.toks;refine au (h2.E R (K.mv g1).togK q) (fun ku s2 ⟨H2,kv,g2,rk,q⟩=>?_) fun Z Z z=>(g1.xp z).JA fun Z z=>z.elim;obtain⟨l,rfl,q⟩:=wn q;obtain⟨is,rfl,q⟩:=je q;obtain⟨⟨hn,hl⟩,q⟩:=bh q;obtain⟨T,rfl,hT⟩:=Ct rk;have g12:=g1.trans g2;have K2:=K.mv g12;obtain⟨ob,es,ep,e1,ex,hd,q1,q2,q3⟩:=d;have e2:=(((K.mv g1).ow.off D i _ o).mv g2 fun z=>z).2 _ e1;refine wpAny_setItem_heap (knd:=C7 c.prog c.w) (k:=is) (xs:=xs) (show c.A.units+1<cLine by have:=R.o.un;omega) (IsTupleKey.KC hT K2.st.stays) ⟨ob,es,ep,e2,ex,hd,q1,fun y hy=>IsTupleKey.KC (q2 y hy) (fun b o e=>K2.st.stays _ _ (g2.base _ _ e)),q3⟩ (fun h' hd' sb=>?_) (by rw[sizeLine_eq];omega);obtain⟨o',es',ep',f1,f2,f3,f4,f5,f6⟩:=hd';obtain⟨u2,z2⟩:=Dx N K2 e0;obtain⟨xa,dx,M,us,rfl,w,wd,t,hns,fl,mm,gg,nd⟩:=cV.Ju z2;obtain⟨u1,f7,h1⟩:=fl.get el;obtain⟨D',_,rfl,o2,_⟩:=f7.KS hk;obtain rfl:=K.ow.uniq _ _ _ _ o o2;have kp:∀{b j},own b=some (i+1,j)→j≠k+1→∀ob,s2.heap.get? b=some ob→h'.get? b=some ob:=fun e n ob z=>(sb.2 _ fun q=>by rw[q,o]at e;cases e;exact n rfl).trans z
   have f':fJ c own H2 h' i k (.Jv (n+1)) (.ref D):=by
    refine .dict hk o ⟨o',es',ep',f1,f2,f3,f4,fun y hy=>?_,f6⟩ ?_
    ·rcases mem_storedH hy with⟨y',hy',e1,e2⟩|⟨e1,e2⟩
     ·rw[e1,e2];exact IsTupleKey.KC (q2 y' hy') g2.base
     ·rw[e1,e2];exact hT
    ·unfold storedH;split
     ·rw[af];omega
     ·rw[ai];exact bQ len
   obtain⟨us',p1,p2⟩:=fl.KB nd (fun k' v u n f=>(rA.same (x:=x) (s0:=s) K2.ow).KR n (h':=h') (fun b hj e o q=>kp e (fun z=>n (bp z)) o q) f) f';exact qX (s1:=s2) (tk:=s2.toks+(C7 c.prog c.w).draws is) K g12 (.same K2.ow) e0 o (fun b o hb e=>(sb.2 b hb).trans e) ⟨o',f1,.inr ⟨_,_,f3⟩⟩ q w (cV.inst w wd (kp w (Ne.symm (bK k)) _ t) (hns.at fun ob e=>kp wd (fun z=>by obtain rfl:=bp z;exact absurd hk (by decide)) ob e) p1 (p2 (M:=fun j=>M (a5 (C+1) j)) (h1 mm) (fun Z Z Z=>rfl) mm) (fun y u e=>let⟨j,hj,e⟩:=gg y u e;⟨j,e8.mpr (.inr hj),e⟩) (fV nd))
  |_=>exact q.elim) (d6 hc)
variable{f:Nat}{kk:NameKind}
theorem wK(hi:x.nm[i]? =some y)(hk:x.kd.lookup y=some kk)(hv:fi kk)(hc:e9 e=true)
  (h:∀{c:Ctx}{env ρ own H s Q X},k9 c→cJ x c env ρ own H s→r c.F ρ Q X→wpAny c.M c.A (eval e env) (vI c H s Q) (XP c no H s X) s):
  ∀{c:Ctx}{env ρ own H s Q X},k9 c→cJ x c env ρ own H s→iff (i∉x.io) (bc (r c.F ρ) fun v=>ok (.nxt,fq ρ i v)) Q X→wpAny c.M c.A (exec (.Assign [.Name y p'] e p) env) (SP x c env own H s Q) (XP c (ch own) H s X) s:=fun {c env ρ own H s Q X} R K z=>by
 obtain⟨hio,z⟩:=bh z;refine wpAny_Assign_Name (au (h R K z) (fun u s1 ⟨o2,H1,v,g,w,uq,o,q⟩=>?_) fun Z Z z=>z.JA fun Z z=>z.elim) (d6 hc)
 have f1:∀{a k},((o2 a).bind fun t=>if t.1=1 then some t.2 else none:Option Nat)=some k→o2 a=some (1,k):=fun {a k} e=>by
  obtain⟨⟨t1,t2⟩,e1,e2⟩:=bG.mp e;by_cases z:t1=1
  ·rw[aB z]at e2;obtain rfl:=ah (e2);rw[e1,z]
  ·rw[aC z]at e2;cases e2
 refine vr (p:=(true,v)) (own':=own.re i fun a=>(o2 a).bind fun t=>if t.1=1 then some t.2 else none) K g (.re (K.mv g).ow (fun a e=>(K.ow.live a e).2) (fun a k e=>(w a k (f1 e)).1) (fun a b k e1 e2=>uq a b k (f1 e1) (f1 e2)) (fun a k e=>.inl (w a k (f1 e)).2) fun q=>absurd q hio) hi hk hv
  (cV.mono (fun Z Z e=>e) (fun a k e=>⟨om (by rw[e];rfl),fun Z e=>e⟩) o) fun s' K' G k=>⟨_,H1,_,_,G,K',.nxt,q⟩
theorem vI.from{Q:V→Prop}(g:Mv c no H0 s0 H s)(z:vI c H s Q u s'):vI c H0 s0 Q u s':=let⟨o,H',v,g',w,uq,z,q⟩:=z;⟨o,H',v,g.trans g',fun a k e=>⟨(w a k e).1,g.off (w a k e).2⟩,uq,z,q⟩
theorem CO{nm:String}{es:List Expr}{xs:CE}(hi:x.nm[i]? =some y)(hk:x.kd.lookup y=some kk)(hv:fi kk)(hf:(Str.ofString nm,f)∈mr)(hx:ml x (Str.ofString nm))(hs:es.all ba=true)(h:lh x es xs):
  cx x (.Assign [.Name y p'] (.Call (.Name (Str.ofString nm) p2) es [] p3) p) (.Kv i f xs):=fun {c env ρ own H s Q X} R ht K z=>
 wK (r:=fun F ρ=>bc (aY F xs ρ) fun w=>bc (jl w) fun l=>bc (F f (.obj f []::l)) ty) hi hk hv rfl (fun R K y=>have q:=R.gk.cls _ hf
  cC (jy K.nk K.st hx q.1 (i9 hs q.2 (au (h R K.togK y) (fun us s2 ⟨H2,vs,g2,r2,Z1,z⟩=>
   ⟨g2.st.inK,au (R.K9 (bV hf) g2.st r2 z) (fun Z Z z=>z.from g2) fun Z Z z=>g2.xp z⟩) fun Z Z z=>z)))) R K z
theorem Fq{M:Model}{s:Shared}{q:Pos}{R:Value→Shared→Prop}(h:R (.ref s.heap.objs.size) { s with heap:=s.heap.push { cls:=.type "list",data:=.seq #[] } }):wpAny M A (eval (.List [] q) env) R E s:=
 wpAny_List (cF ⟨aQ _,h⟩)
theorem wH{prog:Program}{w:World}{x:Str}{k:Nat}{p1 q1:Pos}{ks:List (Option Expr)}{vs:List Expr}{R:List (Value×Value)→Shared→Prop}{E:Value→Shared→Prop}
  (h:wpAny (model prog w) A (evalPairs (pairTrees ks vs env p)) (fun r s3=>R ((.str x s.toks,.ref s.heap.objs.size)::r) s3) E { s with heap:=s.heap.push { cls:=.type "list",data:=.seq #[] },toks:=s.toks+1 }):
  wpAny (model prog w) A (evalPairs (pairTrees (some (.Constant (.str x) k p1)::ks) (.List [] q1::vs) env p)) R E s:=
 pairTrees_cons_walk (dq (Fq h))
theorem yN{prog:Program}{w:World}{Q':Value→Shared→Prop}{x y z:Str}{k1 k2 k3:Nat}{p1 p2 p3 q1 q2 q3:Pos}{t:Sem Value}(ht:eval (.Dict [some (.Constant (.str x) k1 p1),some (.Constant (.str y) k2 p2),some (.Constant (.str z) k3 p3)] [.List [] q1,.List [] q2,.List [] q3] p) env=t)
  (h:∀h' tk,h'.DictOf (strKind prog w) s.heap.objs.size (merged [] [(x,Value.ref (s.heap.objs.size+1)),(y,.ref (s.heap.objs.size+2)),(z,.ref (s.heap.objs.size+3))])→
   (∀b o,s.heap.get? b=some o→h'.get? b=some o)→(∀i,i=1∨i=2∨i=3→IsL h' (s.heap.objs.size+i) #[] 0)→Q' (.ref s.heap.objs.size) { s with heap:=h',toks:=tk }):
  wpAny (model prog w) A t Q' E s:=by
 subst ht;refine wpAny_Dict_walk (knd:=strKind prog w) ?_ ?_ ?_ ?_ ?_
 ·rfl
 ·rfl
 ·exact List.cons_ne_nil _ _
 ·exact(show 3≤15 by decide)
 refine wH (wH (wH (pairTrees_nil_walk ?_)));have e0:∀(h:Heap)(o:PySem.Obj),(h.push o).objs.size=h.objs.size+1:=fun Z Z=>Heap.size_push ..;have up:∀(h:Heap)(o:PySem.Obj)(b:Addr)(x:PySem.Obj),h.get? b=some x→(h.push o).get? b=some x:=fun h o b x e=>aH o e;refine⟨[(x,.ref _),(y,.ref _),(z,.ref _)],⟨strKind_is prog w _ _,rfl,strKind_is prog w _ _,rfl,strKind_is prog w _ _,rfl,trivial⟩,(((Heap.DictOf.new (knd:=strKind prog w) s.heap).push _).push _).push _,fun h' hd k=>?_⟩;simp only[e0]at hd;refine h h' _ hd (fun b o e=>(k.2 b (cG (dS e))).trans (up _ _ _ _ (up _ _ _ _ (up _ _ _ _ (up _ _ _ _ e))))) fun i hi=>?_
 have ne:s.heap.objs.size+i≠s.heap.objs.size:=by rcases hi with rfl | rfl | rfl<;>omega
 refine(k.2 _ ne).trans ?_
 rcases hi with rfl|rfl|rfl
 ·refine up _ _ _ _ (up _ _ _ _ ?_);rw[←e0 s.heap { cls:=.type "dict",data:=.dict #[] }];exact cf _ rfl
 ·refine up _ _ _ _ ?_
  rw[show s.heap.objs.size+2=((s.heap.push { cls:=.type "dict",data:=.dict #[] }).push { cls:=.type "list",data:=.seq #[] }).objs.size by simp only[e0]];exact cf _ rfl
 ·rw[show s.heap.objs.size+3=(((s.heap.push { cls:=.type "dict",data:=.dict #[] }).push { cls:=.type "list",data:=.seq #[] }).push { cls:=.type "list",data:=.seq #[] }).objs.size by simp only[e0]];exact cf _ rfl
theorem Dd{k1 k2 k3:Nat}{p1 p2 p3 q1 q2 q3 p4:Pos}(hi:x.nm[i]? =some y)(hk:x.kd.lookup y=some kk)(hv:fi kk)
  (he:e=.Dict [some (.Constant (.str (a5 0 100)) k1 p1),some (.Constant (.str (a5 0 101)) k2 p2),some (.Constant (.str (a5 0 102)) k3 p3)] [.List [] q1,.List [] q2,.List [] q3] p4):
  cx x (.Assign [.Name y p'] e p) (.KT i):=fun {c env ρ own H s Q X} R ht K z=>
 wK (r:=fun F ρ=>ok (.obj 0 [(100,.Jq []),(101,.Jq []),(102,.Jq [])])) hi hk hv (by rw[he];rfl) (fun {c env ρ own H s Q X} R K z=>by
  generalize ht:eval e env=t;rw[he]at ht;refine yN (prog:=c.prog) (w:=c.w) ht fun h' tk hd k hl=>?_
  generalize hn:s.heap.objs.size=n at hd hl;obtain⟨o,es,ep,e1,e2,e3,e4,e5,e6⟩:=hd;have g:Mv c no H s H { s with heap:=h',toks:=tk }:=(Mv.refl K.st).keeps k;have of:∀i,s.heap.get? (n+i)=none:=fun i=>by rw[←hn];exact gb i
  have oa:∀i o,h'.get? (n+i)=some o→yV o→ma c H { s with heap:=h',toks:=tk } (n+i)∧s.heap.get? (n+i)=none:=fun i o e w=>⟨⟨K.st.off (of i),fun q=>(K.st.frOld q).2 (of i),o,e,w⟩,of i⟩
  have va:∀y,valueAt (merged [] [(a5 0 100,Value.ref (n+1)),(a5 0 101,.ref (n+2)),(a5 0 102,.ref (n+3))]) y=if y=a5 0 102 then some (.ref (n+3))else if y=a5 0 101 then some (.ref (n+2))else if y=a5 0 100 then some (.ref (n+1))else none:=fun y=>by
   simp only[merged,List.foldl];rw[eB,eB,eB];rfl
  have tg:∀i,i≤3→(if n≤n+i∧n+i≤n+3 then some (1,if n+i=n then 0 else 100+(n+i - n))else none:Option (Nat×Nat))=some (1,if i=0 then 0 else 100+i):=fun i h=>by
   rw[aB ⟨bD _ _,aR h _⟩,Nat.add_sub_cancel_left];by_cases z:i=0
   ·rw[aB z,aB (by omega)]
   ·rw[aC z,aC (by omega)]
  have inv:∀{a k},(if n≤a∧a≤n+3 then some (1,if a=n then 0 else 100+(a - n))else none:Option (Nat×Nat))=some (1,k)→∃i,i≤3∧a=n+i∧k=if i=0 then 0 else 100+i:=fun {a k} e=>by
   by_cases z:n≤a∧a≤n+3
   ·obtain⟨i,rfl⟩:=Nat.exists_eq_add_of_le z.1;have hi:=Nat.le_of_add_le_add_left z.2;rw[tg i hi]at e;exact⟨i,hi,rfl,(aj Prod.snd (ah e)).symm⟩
   ·rw[aC z]at e;cases e
  refine⟨fun a=>if n≤a∧a≤n+3 then some (1,if a=n then 0 else 100+(a - n))else none,H,_,g,fun a k e=>?_,fun a b k e1 e2=>?_,cV.dict (us:=[.ref (n+1),.ref (n+2),.ref (n+3)]) (tg 0 (by decide)) e1 ⟨e2,es,ep,e3,e4,e5,e6⟩
   (.cons (.Jq rfl (tg 1 (by decide)) (aQ _) (hl 1 (.inl rfl)) .nil) (.cons (.Jq rfl (tg 2 (by decide)) (aQ _) (hl 2 (.inr (.inl rfl))) .nil) (.cons (.Jq rfl (tg 3 (by decide)) (aQ _) (hl 3 (.inr (.inr rfl))) .nil) .nil)))
   ?_ (fun y u e=>?_) (by decide),z⟩
  ·obtain⟨i,hi,rfl,_⟩:=inv e;rcases i with _|_|_|_|i
   ·exact oa 0 o e1 (.inr ⟨_,_,e3⟩)
   ·exact oa 1 _ (hl 1 (.inl rfl)) (.inl ⟨by simp,by simp⟩)
   ·exact oa 2 _ (hl 2 (.inr (.inl rfl))) (.inl ⟨by simp,by simp⟩)
   ·exact oa 3 _ (hl 3 (.inr (.inr rfl))) (.inl ⟨by simp,by simp⟩)
   ·omega
  ·obtain⟨i,hi,ha,ea⟩:=inv e1;obtain⟨j,hj,hb,eb⟩:=inv e2;rw[ea]at eb;have ij:i=j:=by split at eb<;>split at eb<;>omega
   rw[ha,hb,ij]
  ·show [valueAt _ (a5 0 100),valueAt _ (a5 0 101),valueAt _ (a5 0 102)]=[_,_,_];rw[va,va,va,aB rfl,aC (by decide+kernel),aC (by decide+kernel),aC (by decide+kernel),aB rfl,aB rfl]
  ·rw[va]at e;by_cases z2:y=a5 0 102
   ·exact⟨102,by simp,z2⟩
   ·rw[aC z2]at e;by_cases z1:y=a5 0 101
    ·exact⟨101,by simp,z1⟩
    ·rw[aC z1]at e;by_cases z0:y=a5 0 100
     ·exact⟨100,by simp,z0⟩
     ·rw[aC z0]at e;cases e) R K z
end
section
variable{x:Cx}{c:Ctx}{A:Around}{env:PySem.Env}{ρ:Env}{own own':ez}{H H' H0 h h':Heap}{s s' s0 s1:Shared}{X:Prop}{E:Value→Shared→Prop}{Q:V→Prop}
variable{i j k kd C:Nat}{v v':V}{u u':Value}{y n:Str}{kk:NameKind}{a0 D:Addr}{tk:Nat}{p p' p2 p3 ap:Pos}{e e2:Expr}{a b xs:CE}{ts es:List Expr}{tt:T}
theorem AN{f:String}{n:Nat}(ha:nK x (.Tuple ts k p') tt)(hf:(f,n,fe n)∈ka)(hx:ml x (Str.ofString f))(hn:ir n=false)(hio:tH n=fZ (ownsOf xs) 0)(nd:((ownsOf xs).filterMap id).Nodup)(hs:es.all ba=true)(h:jk x es xs):
  cx x (.Assign [.Tuple ts k p'] (.Call (.Name (Str.ofString f) p2) es [] p3) p) (.Ki tt n xs):=fun {c env ρ own H s Q X} R ht K z=>
 have q:=R.gk.fns _ hf
 Assign_Tuple (cC (jy K.nk K.st hx q.1 (i9 hs q.2 (au (h R K.togK z) (by rintro us s2 ⟨H2,as,g2,r2,o,en,z⟩;exact⟨g2.st.inK,by
  have nd':(slots as).Nodup:=by rw[←o,List.filterMap_map]at nd;exact nd
  have K2:=K.mv g2;refine au (R.KW hn (by rw[o];exact hio) nd' g2.st K2.ow r2 z) (fun u s3 z=>?_) fun Z Z z=>(g2.JA fun Z z=>z.elim).xp (z.JA fun a ⟨i,k,Z1,e⟩=>show own a≠none by rw[e];exact(by intro h;cases h));obtain⟨own',H',v,vs,G,hr,r,q⟩:=z.here K2 nd' en;obtain⟨ρ',eb,q⟩:=d4 q;obtain⟨ρ2,e2,q⟩:=d4 q;exact au (ha R (hr ρ' eb) r e2) (by rintro _ _ ⟨K3,g3⟩;exact⟨_,_,_,_,(g2.gs.trans G).trans g3,K3,.nxt,q⟩) fun Z Z z=>z⟩) fun Z Z z=>z.JA fun Z z=>z.elim)))) rfl rfl
theorem yv{prog:Program}{w:World}{K:Frag}{C fI:Addr}{rest:List Value}{Q:Value→Shared→Prop}(X:K.In s.heap)(mk:makesIn K C=true)(hi:findIn K (.ref C) "__init__"=some (some (.ref fI)))(hf:typeIn K (.ref fI)=some (.type "function"))
  (hq:∀h',(∀b o,s.heap.get? b=some o→h'.get? b=some o)→h'.get? (s.heap.objs.size+1)=some (instObj C s.heap.objs.size)→h'.Ns1 s.heap.objs.size (fun Z=>none)→codeAny (model prog w) (A.under (.builtin "type.__call__" ⟨.ref C::rest,[]⟩)) (.call (.ref fI) ⟨.ref (s.heap.objs.size+1)::rest,[]⟩) (InitBack (s.heap.objs.size+1) fun r s'=>match r with | .ok (.ret v)=>Q v s' | .error e=>E e s' | _=>False) { s with heap:=h' }):wpAny (model prog w) A (PySem.call (.ref C) rest) Q E s:=by
 refine wpAny_call (codeAny_mono (make_core (R:=fun r s'=>match r with | .ok (.ret v)=>Q v s' | .error e=>E e s' | _=>False) (makes_of X mk) (looks_findIn X hi) (fun self=>bind_fn X self hf) (.inl rfl) (hq _ ?_ ?_ ?_)) fun r s' z=>?_)
 ·exact fun b o e=>aH _ (aH _ e)
 ·heap_get
 ·have hd:((s.1.push emptyDict).push (instObj C s.1.objs.size)).get? s.1.objs.size=some emptyDict:=by heap_get
  exact Heap.Ns1.of_empty ⟨_,#[],_,hd,rfl,fun e he=>absurd he (by simp),fun Z=>rfl⟩
 ·rcases r with e|(v|_|_|_)<;>exact z
end
section
noncomputable abbrev Ctx.at(c:Ctx)(A:Around):Ctx:=⟨c.prog,c.w,A,c.l,c.d,c.K,c.F⟩
structure pD(K:Frag)(n:Nat)(fn:Fn):Prop where
 made:makesIn K (iF n)=true
 init:findIn K (.ref (iF n)) "__init__"=some (some (.ref (fe n)))
 fnT:typeIn K (.ref (fe n))=some (.type "function")
 io:fn.io=[0]
 own:fn.own=false
variable{x:Cx}{c:Ctx}{A:Around}{own own2:ez}{H H2 h':Heap}{s se s2:Shared}{d n:Nat}{F:FT}{us:List Value}{vs:List V}{fn:Fn}{Q:V→Prop}{X:Prop}
theorem lV{vs:List V}:∀n,fZ ((vs.map fun v=>((none:Option Nat),v)).map (·.1)) n=[]:=by
 induction vs with
 |nil=>exact fun Z=>rfl
 |cons v vs ih=>exact fun n=>ih (n+1)
theorem kh{vs:List V}:slots (vs.map fun v=>((none:Option Nat),v))=[]:=by
 induction vs with
 |nil=>rfl
 |cons v vs ih=>exact ih
theorem iG.KM(r:bz c.P H vs us){h:Heap}:iG c own H h (vs.map fun v=>(none,v)) us:=by
 induction vs generalizing us with
 |nil=>obtain rfl:=(show us=[]from r.Ju);exact .nil
 |cons v vs ih=>
  obtain⟨u,us',rfl,a,b⟩:=bz.two r;exact .val a (ih b)
theorem zT(O:qD c.prog c.A c.l (d+1))(S:St c H s)(hn:n∈mr.map (·.2))(M:pD c.K n fn)(Y:vM c.K (fe n) fn)(run:∀(A:Around)(env:PySem.Env),zk c.prog (A.deeper env) (env::c.l) d→k9 ⟨c.prog,c.w,A.deeper env,env::c.l,d,c.K,F⟩)(r:bz c.P H vs us)(hl:vs.length+1=fn.Jy)
  (z:bJ F fn.io fn.body (nG fn (.obj n []::vs)) (fun p=>zQ fn p (fun p=>ty p Q X) X) X):wpAny c.M c.A (PySem.call (.ref (iF n)) us) (vI c H s Q) (XP c no H s X) s:=by
 refine yv (K:=c.K) S.inK M.made M.init M.fnT fun h' k hx hd=>?_
 generalize hA:c.A.under _=A';generalize hs0:s.heap.objs.size=m at hx hd;have g:Mv c no H s H { s with heap:=h' }:=(Mv.refl S).keeps (tk:=s.toks) k;have g1:Mv (c.at A') no H s H { s with heap:=h' }:=⟨⟨g.st.gf,g.st.stays,g.st.ff⟩,g.eq,g.base,g.keep,g.JM⟩;have off:∀i,s.heap.get? (m+i)=none:=fun i=>hs0▸gb i;have hdo:∃o,h'.get? m=some o∧yV o:=let⟨o,es,ep,e,d,_⟩:=hd;⟨o,e,.inr ⟨_,_,d⟩⟩;generalize ho:(fun a=>if a=m+1 then some (1,0)else if a=m then some (1,99)else none:ez)=own
 have inv:∀{a t},own a=some t→(a=m+1∧t=(1,0))∨(a=m∧t=(1,99)):=fun {a t} e=>by
  rw[←ho]at e;by_cases z:a=m+1
  ·replace e:=(aB z).symm.trans e;exact .inl ⟨z,(ah e).symm⟩
  ·replace e:=(aC z).symm.trans e
   by_cases w:a=m
   ·rw[aB w]at e;exact .inr ⟨w,(ah e).symm⟩
   ·rw[aC w]at e;cases e
 have ox:own (m+1)=some (1,0):=by rw[←ho];exact aB rfl
 have od:own m=some (1,99):=by rw[←ho];exact(aC (cG (a4 m))).trans (aB rfl)
 have oa:∀{a t},own a=some t→s.heap.get? a=none∧∃o,h'.get? a=some o∧yV o:=fun {a t} e=>by
  rcases inv e with⟨rfl,_⟩|⟨rfl,_⟩
  ·exact⟨off 1,_,hx,.inl ⟨by simp,by simp⟩⟩
  ·exact⟨off 0,hdo⟩
 have W:dw (c.at A') own H { s with heap:=h' }:=⟨fun a i k e=>⟨S.off (oa e).1,fun q=>(S.frOld q).2 (oa e).1,(oa e).2⟩,fun a b i k e1 e2=>by
  rcases inv e1 with⟨z1,w1⟩|⟨z1,w1⟩<;>rcases inv e2 with⟨z2,w2⟩|⟨z2,w2⟩
  ·rw[z1,z2]
  ·rw[w1]at w2;cases w2
  ·rw[w1]at w2;cases w2
  ·rw[z1,z2],fun a e=>by
   obtain⟨t,e⟩:=aG.mp e;obtain⟨h1,o,h2,_⟩:=oa e;exact⟨S.off h1,by rw[show Heap.get? _ a=_ from h2];exact(by intro h;cases h)⟩⟩
 have O':DH c.prog A' c.l d:=by
  rw[←hA];exact⟨O.hh,O.fr,O.tree,by have:=O.dep;rw[depth_under_make];omega,by have:=O.un;rw[units_under_make];omega⟩
 obtain⟨C,rfl⟩:∃C,n=C+1:=by
  cases n with
  |zero=>exact absurd hn (by decide)
  |succ C=>exact⟨C,rfl⟩
 have ar:iG (c.at A') own H h' ((some 0,.obj (C+1) [])::vs.map fun v=>(none,v)) (.ref (m+1)::us):=.own (cV.inst ox od hx hd .nil rfl (fun Z Z e=>(by cases e)) List.nodup_nil) (iG.KM (c:=c.at A') r)
 have R:=mG (c:=c.at A') (own:=own) (F:=F) (X:=X) (Q:=fun p=>ty p Q X) O' g1.st W Y (run A') ar (by rw[cT,af];exact hl) (by rw[M.io];exact(aj (0::·) (lV 1)).symm) (by show(0::slots _).Nodup;rw[kh];exact bM.mpr ⟨List.not_mem_nil,List.nodup_nil⟩)
  (by rw[cZ,cH,show vs.map (Prod.snd∘fun v=>((none:Option Nat),v))=vs from List.map_id _];exact z)
 refine codeAny_mono R fun r s' z=>?_
 cases r with
 |error e=>
  obtain⟨H1,s1,a,g2,y,e,f⟩:=z;refine⟨H1,s1,a,?_,y,e,f⟩;exact g.Kh ⟨⟨g2.st.gf,g2.st.stays,g2.st.ff⟩,g2.eq,g2.base,g2.keep,g2.JM⟩ fun b hb Z ⟨i,k,Z1,e⟩=>hb (oa e).1
 |ok f=>
  cases f with
  |next=>exact z.elim
  |brk=>exact z.elim
  |cont=>exact z.elim
  |ret u=>
  obtain⟨own',H',v,vs',g2,old,ok,ow,io,o,rv,_,q⟩:=z;cases v with
  |none=>
   refine⟨(rv M.own).Ju,?_⟩;cases o with
   |own f _=>
    refine⟨own',H',_,(show Mv c no H s H' s' from g.Kh ⟨⟨g2.st.gf,g2.st.stays,g2.st.ff⟩,g2.eq,g2.base,g2.keep,g2.JM⟩ fun b hb Z ⟨i,k,Z1,e⟩=>hb (oa e).1),fun a k e=>⟨let⟨h1,h2,h3⟩:=ok.off a 0 k e;⟨h1,h2,h3⟩,bg fun z=>?_⟩,fun a b k e1 e2=>ok.uniq a b 0 k e1 e2,f.Kl (c1:=c.at A') (c2:=c) rfl rfl,q⟩;have:=ow a (g.keep.some z fun z=>z) (bg fun w=>z (let⟨t,e⟩:=aG.mp w;(oa e).1));rw[e]at this;cases this
  |_=>exact q.elim
end
end
section
open PySem PySem.W PyProof.Rows Builtin Builtin.ObjectAttr PySem.Calls
section
variable{prog:Program}{w:World}{A:Around}{E:Value→Shared→Prop}{h:Heap}{g:Array GenState}{d:Drawn}{t:Nat}{os:OsState}{K:Frag}{C x:Addr}{mA:Str→Option Value}{name:Str}{v:Value}
structure NI(h0 h:Heap)(x C:Addr)(ob:PySem.Obj)(mA:Str→Option Value):Prop where
 keep:∀b o,h0.get? b=some o→h.get? b=some o
 new:h0.get? x=none
 inst:h.Inst x C mA
 obj:∃dd,h.get? x=some { ob with dict:=dd }∧∀dx,dd=some dx→h0.get? dx=none
theorem NI.notDict{h0:Heap}{ob:PySem.Obj}(I:NI h0 h x C ob mA){b:Addr}{o:PySem.Obj}(e:h0.get? b=some o):b≠x∧∀o₀ dx,h.get? x=some o₀→o₀.dict=some dx→b≠dx:=by
 refine⟨fun q=>(by rw[q,I.new]at e;cases e),fun o₀ dx e1 e2 q=>?_⟩;obtain⟨dd,e3,e4⟩:=I.obj;rw[e3]at e1;obtain rfl:=ah (e1);rw[q,e4 dx e2]at e;cases e
theorem NI.set{h0:Heap}{ob:PySem.Obj}{ns:List Str}{Q:Unit→Shared→Prop}(I:NI h0 h x C ob mA)(X:K.In h0)(Y:rI K C)(hn:findIn K (.ref C) name=some none)(hw:Within mA ns)(hsz:ns.length≤1000)
  (hq:∀h' tk',NI h0 h' x C ob (fun y=>if y=name then some v else mA y)→(∀b o,b≠x→(∀o₀ dx,h.get? x=some o₀→o₀.dict=some dx→b≠dx)→h.get? b=some o→h'.get? b=some o∧∀o₀ dx,h'.get? x=some o₀→o₀.dict=some dx→b≠dx)→Q () ⟨h',g,d,tk',os⟩):
  wpAny (model prog w) A (setAttr (.ref x) name v) Q E ⟨h,g,d,t,os⟩:=by
 refine rF (X.keeps I.keep) Y hn I.inst (fun h' tk' i' k s'=>?_) hw hsz;obtain⟨dd,e1,e2⟩:=I.obj;obtain⟨dx,e3,e4⟩:=s' _ e1;refine hq h' tk' ⟨fun b o e=>k b o (I.notDict e).1 (I.notDict e).2 (I.keep b o e),I.new,i',some dx,e3,fun dx' q=>?_⟩ fun b o h1 h2 e=>⟨k b o h1 h2 e,fun o₀ dx' q1 q2 q3=>?_⟩
 ·obtain rfl:=ah (q);rcases e4 with e4|⟨_,e4⟩
  ·exact e2 dx e4
  ·cases q:h0.get? dx with
   |none=>rfl
   |some o=>rw[I.keep _ _ q]at e4;cases e4
 ·rw[e3]at q1;obtain rfl:=ah (q1);obtain rfl:=ah (q2);rcases e4 with e4|⟨_,e4⟩
  ·exact h2 _ _ e1 e4 q3
  ·rw[←q3,e]at e4;cases e4
theorem NI.keeps{h0 h':Heap}{ob:PySem.Obj}(I:NI h0 h x C ob mA)(k:∀b o,h.get? b=some o→h'.get? b=some o):NI h0 h' x C ob mA:=by
 obtain⟨o,e1,e2,e3,e4⟩:=I.inst;refine⟨fun b o e=>k b o (I.keep b o e),I.new,⟨o,k _ _ e1,e2,e3,e4.imp id fun⟨dx,f1,f2,f3⟩=>⟨dx,f1,f2,f3.keeps k⟩⟩,let⟨dd,f1,f2⟩:=I.obj;⟨dd,k _ _ f1,f2⟩⟩
end
section
structure jh(K:Frag)(f C:Addr)(a1 a2:Str):Prop where
 ex:∃oc od osl fd p0 p1 p2 q0 q1 q2 q3 q4 q5 q6 q7,K.lookup f=some ⟨oc,od,.func fd,osl⟩∧fd.closure=[]∧fd.scope.kind=.function∧fd.scope.isCoroutine=false∧fd.scope.isGenerator=false∧codeIn K fd.code fd.qualname=true∧
  fd.body=.stmts [.Assign [.Attribute (.Name p0 q0) a1 q1] (.Name p1 q2) q3,.Assign [.Attribute (.Name p0 q4) a2 q5] (.Name p2 q6) q7]∧(∀x∈[p0,p1,p2],fd.scope.names.lookup x=some .local∧(x==("__debug__":Str))=false)∧[p0,p1,p2].Nodup∧
  ∀u0 u1 u2,bindArgs fd ⟨[u0,u1,u2],[]⟩=pure [(p0,u0),(p1,u1),(p2,u2)]
 set:rI K C
 n1:findIn K (.ref C) a1=some none
 n2:findIn K (.ref C) a2=some none
variable{prog:Program}{w:World}{A:Around}{E:Value→Shared→Prop}{s:Shared}{K:Frag}{C x f:Addr}{mA:Str→Option Value}{a1 a2:Str}{u1 u2:Value}{h0:Heap}{ob:PySem.Obj}
theorem kY{M:Model}{env:PySem.Env}{n:Str}{m:Str→Option Value}{v:Value}{p:Pos}{Q:Value→Shared→Prop}(hk:env.scope.kind=.function)(hl:env.kindOf n=some .local)(hn:s.heap.Ns env.locals m)(hv:m n=some v)(hd:(n==("__debug__":Str))=false)(q:Q v s):
  wpAny M A (eval (.Name n p) env) Q E s:=wpAny_Name (wpAny_loadName_local hk hl hn hv q) hd
theorem um{R:Result→Shared→Prop}(X:K.In h0)(lim:h0.NoLimit)(Y:jh K f C a1 a2)(I:NI h0 s.heap x C ob mA)(room:A.depth<recursionLimit){ns:List Str}(hw:Within mA ns)(hsz:ns.length≤900)
  (q:∀h' tk,NI h0 h' x C ob (fun y=>if y=a2 then some u2 else if y=a1 then some u1 else mA y)→R (.ok (.ret .none)) { s with heap:=h',toks:=tk }):codeAny (model prog w) A (.call (.ref f) ⟨[.ref x,u1,u2],[]⟩) R s:=by
 obtain⟨⟨oc,od,osl,fd,p0,p1,p2,q0,q1,q2,q3,q4,q5,q6,q7,ho,hclo,hk,hco,hgen,hcd,hbody,hloc,dZ,hbind⟩,hset,n1,n2⟩:=Y;have Xs:=X.keeps I.keep;have l0:=hloc p0 (.head _);have l1:=hloc p1 (.tail _ (.head _));have l2:=hloc p2 (.tail _ (.tail _ (.head _)));refine codeAny_call_cells room (Xs _ _ ho) rfl (lim.keeps I.keep) (codeRec_of Xs hcd) hbody (hbind _ _ _) hclo (fun y hy=>.inl ?_) (fun se ic=>?_) hco hgen hk
 ·simp only[az,List.not_mem_nil,or_false]at hy;rcases hy with rfl|rfl|rfl
  ·exact l0.1
  ·exact l1.1
  ·exact l2.1
 generalize hev:callEnvC fd s.heap.objs.size f=env at ic ⊢;have hL:env.locals=s.heap.objs.size:=by rw[←hev];rfl
 have hfk:env.scope.kind=.function:=by rw[←hev];exact hk
 have hkind:∀x,env.kindOf x=fd.scope.names.lookup x:=fun x=>by rw[←hev];rfl
 have at_:∀{i n v},[p0,p1,p2][i]? =some n→[Value.ref x,u1,u2][i]? =some v→fd.scope.names.lookup n=some .local→bindL env.kindOf [(p0,.ref x),(p1,u1),(p2,u2)] (fun Z=>none) n=some v:=fun {i n v} e1 e2 hl=>
  (mz (ns:=[p0,p1,p2]) (vs:=[.ref x,u1,u2]) (m':=fun Z=>none) dZ rfl e1 e2).1 (by rw[hkind];exact hl)
 obtain⟨he,tk,rfl⟩:=ic.toInCall.same;have I1:NI h0 he x C ob mA:=I.keeps ic.toInCall.keep;have hn1:he.Ns env.locals (bindL env.kindOf [(p0,.ref x),(p1,u1),(p2,u2)] fun Z=>none):=ic.toInCall.ns;have hLx:s.heap.get? env.locals=none:=by rw[hL];exact cK
 have neL:env.locals≠x∧∀o₀ dx,he.get? x=some o₀→o₀.dict=some dx→env.locals≠dx:=by
  obtain⟨o,e1,_,_,e4⟩:=I.inst;refine⟨fun z=>(by rw[z,e1]at hLx;cases hLx),fun o₀ dx e5 e6 z=>?_⟩;rw[ic.toInCall.keep _ _ e1]at e5;obtain rfl:=ah (e5);rcases e4 with⟨e4,_⟩|⟨d,f1,f2,f3⟩
  ·rw[e4]at e6;cases e6
  ·rw[f1]at e6;obtain rfl:=ah (e6);obtain⟨od,_,_,e7,_⟩:=f3;rw[z,e7]at hLx;cases hLx
 refine lG (plainObj_wpAny_Assign_Attribute (kY hfk (by rw[hkind];exact l1.1) hn1 (at_ (i:=1) rfl rfl l1.1) l1.2 (kY hfk (by rw[hkind];exact l0.1) hn1 (at_ (i:=0) rfl rfl l0.1) l0.2
  (I1.set (t:=tk) X hset n1 hw (by omega) fun h2 tk2 I2 k2=>?_))) (d6 rfl))
 obtain⟨o,es,ep,eo,er⟩:=hn1;have k2L:=k2 _ _ neL.1 neL.2 eo;have hn2:h2.Ns env.locals (bindL env.kindOf [(p0,.ref x),(p1,u1),(p2,u2)] fun Z=>none):=⟨o,es,ep,k2L.1,er⟩
 refine lG (plainObj_wpAny_Assign_Attribute (kY hfk (by rw[hkind];exact l2.1) hn2 (at_ (i:=2) rfl rfl l2.1) l2.2 (kY hfk (by rw[hkind];exact l0.1) hn2 (at_ (i:=0) rfl rfl l0.1) l0.2
  (I2.set (t:=tk2) X hset n2 (Within.cons a1 u1 hw) (by rw[cT];omega) fun h3 tk3 I3 k3=>?_))) (d6 rfl))
 exact wpAny_execs_nil (q h3 tk3 I3)
end
section
structure AL(K:Frag):Prop where
 obj:BadEx K
 init:findIn K (.ref 44) "__init__"=some (some (.ref 28))
 fn:typeIn K (.ref 28)=some (.type "function")
 two:jh K 28 44 "code" "at"
noncomputable abbrev badObj(t:Addr):PySem.Obj:={ cls:=.ref 44,data:=.fields #[.ref t,.none,.none,.none,.bool false,.none] }
variable{prog:Program}{w:World}{A:Around}{E:Value→Shared→Prop}{h:Heap}{g:Array GenState}{d:Drawn}{t:Nat}{os:OsState}
variable{nm q:Str}{C N:Addr}{bs bm:List Value}{hdct:Bool}{sn:List Str}{sub:List Value}{ab:Bool}{col:Option Bool}{dd:Option Addr}{k0 k1 k2 k3 k5:Option Value}{K:Frag}{rest:List Value}
theorem wB{M:Model}{Q:Unit→Shared→Prop}(hC:h.get? C=some (excClassObj nm q C N bs bm hdct sn sub ab col dd k0 k1 k2 k3 k5 "Exception.__new__"))(hB:bm.contains (.type "Exception")=true)(hq:Q () ⟨h,g,d,t,os⟩):
  wpAny M A (checkBuiltinCall "Exception.__new__" ⟨.ref C::rest,[]⟩) Q E ⟨h,g,d,t,os⟩:=by
 have F:=PySem.F.excBase_Exception;have hcont:(Value.ref C::bm).contains (.type "Exception")=true:=by rw[List.contains_cons,hB,Bool.or_true]
 have hstar:=F.noStar;unfold checkBuiltinCall;rw[F.newKind,F.newSplit,F.newRow]
 repeat (first | refine dI hC ?_ | (refine wpAny_isSubtype_exc hC ?_;rw[hcont]) | refine wpAny_staticBase_exc hC ?_ | refine wpAny_madeBy_exc hC ?_ | simp only[bne_self_eq_false,Bool.false_eq_true,if_false] | wp_step)
 exact hq
theorem zI{R:Result→Shared→Prop}(hC:h.get? C=some (excClassObj nm q C N bs bm hdct sn sub ab col dd k0 k1 k2 k3 k5 "Exception.__new__"))(hB:bm.contains (.type "Exception")=true)(hA:bm.contains (.type "AttributeError")=false)(hN:bm.contains (.type "NameError")=false)
  (hq:R (.ok (.ret (.ref (h.objs.size+1)))) ⟨(h.push { cls:=.type "tuple",data:=.seq rest.toArray }).push { cls:=.ref C,data:=.fields #[.ref h.objs.size,.none,.none,.none,.bool false,.none] },g,d,t,os⟩) (hrest:rest.length≤sizeLine):
  codeAny (model prog w) A (.builtin "Exception.__new__" ⟨.ref C::rest,[]⟩) R ⟨h,g,d,t,os⟩:=by
 have F:=PySem.F.excBase_Exception;have hends:=F.ends;have hcB:(Value.ref C::bm).contains (.type "Exception")=true:=by rw[List.contains_cons,hB,Bool.or_true]
 have hcA:(Value.ref C::bm).contains (.type "AttributeError")=false:=by rw[List.contains_cons,hA];rfl
 have hcN:(Value.ref C::bm).contains (.type "NameError")=false:=by rw[List.contains_cons,hN];rfl
 refine codeAny_builtinAt F.entry ?_
 unfold Builtin.«BaseException.__new__»;refine PySem.wpAt_bind ?_
 show PySem.wpAt _ _ _ (stack>>=_) _ _ _;refine PySem.wpAt_bind (PySem.wpAt_stack fun p below=>PySem.wpAt_of_wpAny ?_)
 wp_walk
 refine PySem.wpAt_of_wpAny ?_
 rw[F.owner]
 repeat (first | with_reducible refine wpAny_madeHere_exc F.canon hC ?_ | with_reducible refine dI hC ?_ | (with_reducible refine wpAny_isSubtype_exc hC ?_;first | rw[hcB] | rw[hcA] | rw[hcN]) | wp_step)
 show R _ _;rw[Heap.size_push];exact hq
theorem wX{R:Result→Shared→Prop}{fI:Addr}(X:K.In h)(hC:h.get? C=some (excClassObj nm q C N bs bm hdct sn sub ab col dd k0 k1 k2 k3 k5 "Exception.__new__"))(hB:bm.contains (.type "Exception")=true)(hA:bm.contains (.type "AttributeError")=false)(hN:bm.contains (.type "NameError")=false)
  (hi:findIn K (.ref C) "__init__"=some (some (.ref fI))) (hf:typeIn K (.ref fI)=some (.type "function")) (hrest:rest.length≤sizeLine)
  (hq:codeAny (model prog w) (A.under (.builtin "type.__call__" ⟨.ref C::rest,[]⟩)) (.call (.ref fI) ⟨.ref (h.objs.size+1)::rest,[]⟩) (InitBack (h.objs.size+1) R) ⟨(h.push { cls:=.type "tuple",data:=.seq rest.toArray }).push { cls:=.ref C,data:=.fields #[.ref h.objs.size,.none,.none,.none,.bool false,.none] },g,d,t,os⟩):
  codeAny (model prog w) A (.call (.ref C) ⟨rest,[]⟩) R ⟨h,g,d,t,os⟩:=by
 have F:=PySem.F.excBase_Exception;have f1:=tc_lookup;have f2:=tc_bind (.ref C);have hT:(⟨h,g,d,t,os⟩:Shared).TypeIs (.ref C) "type":=⟨_,hC,rfl⟩;refine codeAny_of_tree ?_
 show wpAny _ _ (callAny (.ref C) _) _ _ _
 repeat (any_goals (first | assumption | with_reducible refine dI hC ?_ | wp_step))
 refine⟨rfl,?_⟩;refine codeAny_call_builtin_at (Code.quiet_builtin _ (by decide+kernel)) entry_typeCall (wpAny_check_type_call_sub hC ?_)
 repeat (first | with_reducible refine dI hC ?_ | with_reducible refine wpAny_madeBy_exc hC ?_ | wp_step)
 refine codeAny_call_builtin_code (Code.quiet_builtin _ F.quiet) (wB hC hB ?_);refine zI hC hB hA hN ?_ hrest
 show wpAny _ _ _ _ _ _;have k:∀b o,h.get? b=some o→((h.push { cls:=.type "tuple",data:=.seq rest.toArray }).push { cls:=.ref C,data:=.fields #[.ref h.objs.size,.none,.none,.none,.bool false,.none] }).get? b=some o:=fun b o e=>aH _ (aH _ e)
 have hget:((h.push { cls:=.type "tuple",data:=.seq rest.toArray }).push { cls:=.ref C,data:=.fields #[.ref h.objs.size,.none,.none,.none,.bool false,.none] }).get? (h.objs.size+1)=some
   { cls:=.ref C,data:=.fields #[.ref h.objs.size,.none,.none,.none,.bool false,.none] }:=by heap_get
 have hcC:(Value.ref C::bm).contains (.ref C)=true:=by simp
 unfold isInstance
 repeat (first | with_reducible refine dI hget ?_ | (refine wpAny_isSubtype_exc (k _ _ hC) ?_;rw[hcC]) | wp_step)
 show wpAny _ _ (typeLookup (.ref C) _) _ _ _;refine(looks_findIn (X.keeps k) hi).here ?_
 dsimp only;refine bN (av ((bind_fn (X.keeps k) _ hf).here ?_));refine av (wpAny_call (codeAny_mono hq fun r s' hr=>?_));rcases r with e|(v|_|_|_)<;>first|exact hr|exact hr.elim|skip
 obtain⟨rfl,hQ⟩:=hr
 wp_walk
 exact hQ
theorem sk{u1 u2:Value}{c:Ctx}{H:Heap}{s:Shared}{A:Around}{E:Value→Shared→Prop}(hr:A.depth+1<recursionLimit)(S:St c H s)(Y:AL c.K):wpAny c.M A (PySem.call cB [u1,u2]) (fun v s'=>xw s s' v) E s:=by
 have Xs:=S.inK;obtain⟨nm,q,N,bs,bm,hdct,sn,sub,ab,col,dd,k0,k1,k2,k3,k5,hC,hB,hA,hN,_⟩:=Y.obj;refine wpAny_call (wX Xs (Xs _ _ hC) hB hA hN Y.init Y.fn (by show 2≤_;rw[sizeLine_eq];decide) ?_)
 have I0:NI s.1 ((s.1.push { cls:=.type "tuple",data:=.seq [u1,u2].toArray }).push (badObj s.1.objs.size)) (s.1.objs.size+1) 44 (badObj s.1.objs.size) (fun Z=>none):=by
  have hx:((s.1.push { cls:=.type "tuple",data:=.seq [u1,u2].toArray }).push (badObj s.1.objs.size)).get? (s.1.objs.size+1)=some (badObj s.1.objs.size):=by heap_get
  exact⟨fun b o e=>aH _ (aH _ e),Heap.get?_none_of_le (d8 _),⟨_,hx,rfl,by simp,.inl ⟨rfl,fun Z=>rfl⟩⟩,none,hx,fun dx e=>by cases e⟩
 refine um Xs (S.gf.lim.keeps S.stays) Y.two I0 (by rw[depth_under_make];exact hr) Within.nil (aQ _) fun h' tk I=>?_
 refine⟨rfl,?_⟩;obtain⟨dx,e,_⟩:=I.obj;exact⟨_,h',tk,s.1.objs.size,dx,rfl,rfl,I.keep,I.new,e⟩
end
end
section
open PySem PySem.W PyProof.Rows
section
variable{prog:Program}{w:World}{K:Frag}
theorem jN{d n:Nat}{vs:List V}{Q:V×List V→Prop}{X:Prop}(z:callF tab (d+1) n vs Q X):∃fn,tab[n]? =some fn∧vs.length=fn.Jy∧bJ (callF tab d) fn.io fn.body (nG fn vs) (fun p=>zQ fn p Q X) X:=by
 unfold callF at z;cases e:tab[n]? with
 |none=>rw[e]at z;exact z.elim
 |some fn=>
  rw[e]at z;obtain⟨h,z⟩:=bh z;exact⟨fn,rfl,h,z⟩
theorem tR{M:Model}{A:Around}{f:Value}{us:List Value}{Q:Value→Shared→Prop}{E:Value→Shared→Prop}{s:Shared}(h:codeAny M A (.call f ⟨us,[]⟩) (fun r s'=>match r with | .ok (.ret v)=>Q v s' | .ok _=>False | .error e=>E e s') s):wpAny M A (PySem.call f us) Q E s:=
 wpAny_call (codeAny_mono h fun r s' z=>by
  cases r with
  |error e=>exact z
  |ok f=>cases f<;>exact z)
theorem sH{own:ez}(h:own=fun Z=>none){c:Ctx}{H:Heap}{s:Shared}:dw c own H s:=by
 subst h;exact⟨fun Z Z Z e=>(nomatch e),fun Z Z Z Z e=>(nomatch e),fun Z e=>absurd rfl e⟩
theorem vm(GK:GI K)(B:AL K)(hf:∀n fn,tab[n]? =some fn→vM K (fe n) fn)(hm:∀n∈mr.map (·.2),∀fn,tab[n]? =some fn→pD K n fn):
  ∀(d:Nat)(A:Around)(l:List PySem.Env),zk prog A l d→k9 ⟨prog,w,A,l,d,K,callF tab d⟩
 |0,A,l,O=>⟨O,GK,fun Z Z Z z=>z.elim,fun Z Z Z Z Z Z z=>z.elim,fun Z Z Z z=>z.elim,fun S=>sk (by have:=O.dep;show A.depth+1<_;omega) S B⟩
 |d+1,A,l,O=>by
  have run:∀(A:Around)(env:PySem.Env),zk prog (A.deeper env) (env::l) d→k9 ⟨prog,w,A.deeper env,env::l,d,K,callF tab d⟩:=fun A env O=>vm GK B hf hm d _ _ O;refine⟨O,GK,fun {n vs us H s Q X} hn S r z=>?_,fun {n as us own H s Q X} hn hio nd S W r z=>?_,fun {n vs us H s Q X} hn S r z=>?_,fun S=>sk (by have:=O.dep;show A.depth+1<_;omega) S B⟩
  ·obtain⟨fn,e,hl,z⟩:=jN z;have ho:ir n=fn.own:=by unfold ir;rw[e]
   have hi:fn.io=[]:=by unfold pV at hn;rw[e]at hn;exact List.isEmpty_iff.mp hn
   have R:=mG (c:=⟨prog,w,A,l,d+1,K,callF tab (d+1)⟩) (own:=fun Z=>none) (F:=callF tab d) (Q:=fun p=>Q p.1) (X:=X) (as:=vs.map fun v=>(none,v)) O.toqD.call S (sH rfl) (hf n fn e) (run A) (iG.KM r) (by rw[af];exact hl) (hi.trans (lV 0).symm) (kh▸List.nodup_nil)
    (by rw[cH,show vs.map (Prod.snd∘fun v=>((none:Option Nat),v))=vs from List.map_id _];exact z)
   refine au (tR R) (fun u s' ⟨own',H',v,vs',g,Z1,Z2,Z3,Z4,Z5,r1,r2,q⟩=>?_) fun Z Z z=>z.JA fun a ⟨i,k,Z1,e⟩=>nomatch e;have g:=g.JA (ch':=no) fun a ⟨i,k,Z1,e⟩=>nomatch e;unfold oM;rw[ho];cases hown:fn.own with
   |false=>exact⟨H',v,g,r1 hown,q⟩
   |true=>
    obtain⟨m,a,items,k,rfl,rfl,h1,h2,t,r,len⟩:=r2 hown kh;exact⟨H',m,a,items,k,g,rfl,h1,h2,t,r,len,q⟩
  ·obtain⟨fn,e,hl,z⟩:=jN z;have ho:ir n=fn.own:=by unfold ir;rw[e]
   have hi:tH n=fn.io:=by unfold tH;rw[e]
   exact au (tR (mG (c:=⟨prog,w,A,l,d+1,K,callF tab (d+1)⟩) (F:=callF tab d) O.toqD.call S W (hf n fn e) (run A) r (by rw[af]at hl;exact hl) (hi.symm.trans hio) nd z)) (by rintro u s' ⟨own',H',v,vs',g,old,ok,ow,io,o,r1,_,q⟩;exact⟨own',H',v,vs',g,old,ok,ow,io,o,r1 (ho.symm.trans hn),q⟩) fun Z Z z=>z
  ·obtain⟨fn,e,hl,z⟩:=jN z;exact zT (c:=⟨prog,w,A,l,d+1,K,callF tab (d+1)⟩) (F:=callF tab d) O.toqD S hn (hm n hn fn e) (hf n fn e) run r (by rw[cT]at hl;exact hl) z
section
inductive cj(p:Prop):Type
 |yes (h:p):cj p
 |no:cj p
namespace cj
noncomputable def bind{p q:Prop}(x:cj p)(f:p→cj q):cj q:=cj.rec f .no x
noncomputable def isYes{p:Prop}(x:cj p):Bool:=cj.rec (fun Z=>true) false x
noncomputable def or{p:Prop}(x y:cj p):cj p:=cj.rec .yes y x
theorem of{p:Prop}{x:cj p}(h:x.isYes=true):p:=by
 cases x with
 |yes q=>exact q
 |no=>cases h
end cj
noncomputable def dX(p:Prop)[d:Decidable p]:cj p:=Decidable.rec (fun Z=>.no) .yes d
noncomputable def dj(b:Bool):cj (b=true):=dX (b=true)
noncomputable def yF{α:Type}{p:Prop}(q:α→Bool):(l:List α)→((a:α)→a∈l→q a=true→cj p)→cj p
 | [],_=>.no
 |a::r,k=>((dj (q a)).bind fun h=>k a (.head _) h).or (yF q r fun b m=>k b (.tail _ m))
section
variable{α:Type}{P:Expr→Prop}{PL:List α→Prop}{PO:Option α→Prop}{PC:Const→Prop}{PS:Str→Prop}
noncomputable def d5(k:(n:Str)→(p:Pos)→cj (P (.Name n p))):(e:Expr)→cj (P e) | .Name n p=>k n p | _=>.no
noncomputable def fu(k:(c:Const)→(n:Nat)→(p:Pos)→cj (P (.Constant c n p))):(e:Expr)→cj (P e) | .Constant c n p=>k c n p | _=>.no
noncomputable def GM(k:(o:UnaryOp)→(e:Expr)→(p:Pos)→cj (P (.UnaryOp o e p))):(e:Expr)→cj (P e) | .UnaryOp o e p=>k o e p | _=>.no
noncomputable def Gq(k:(o:BoolOp)→(l:List Expr)→(p:Pos)→cj (P (.BoolOp o l p))):(e:Expr)→cj (P e) | .BoolOp o l p=>k o l p | _=>.no
noncomputable def yl(k:(e:Expr)→(o:Operator)→(e2:Expr)→(p:Pos)→cj (P (.BinOp e o e2 p))):(e:Expr)→cj (P e) | .BinOp e o e2 p=>k e o e2 p | _=>.no
noncomputable def AB(k:(e:Expr)→(o:List CmpOp)→(l:List Expr)→(p:Pos)→cj (P (.Compare e o l p))):(e:Expr)→cj (P e) | .Compare e o l p=>k e o l p | _=>.no
noncomputable def I5(k:(e e2 e3:Expr)→(p:Pos)→cj (P (.IfExp e e2 e3 p))):(e:Expr)→cj (P e) | .IfExp a b c p=>k a b c p | _=>.no
noncomputable def r9(k:(l:List Expr)→(n:Nat)→(p:Pos)→cj (P (.Tuple l n p))):(e:Expr)→cj (P e) | .Tuple l n p=>k l n p | _=>.no
noncomputable def Ew(k:(l:List Expr)→(p:Pos)→cj (P (.List l p))):(e:Expr)→cj (P e) | .List l p=>k l p | _=>.no
noncomputable def hG(k:(f:Expr)→(l:List Expr)→(p:Pos)→cj (P (.Call f l [] p))):(e:Expr)→cj (P e) | .Call f l [] p=>k f l p | _=>.no
noncomputable def jn(k:(e:Expr)→(f:Str)→(p:Pos)→cj (P (.Attribute e f p))):(e:Expr)→cj (P e) | .Attribute e f p=>k e f p | _=>.no
noncomputable def rV(k:(e e2:Expr)→(p:Pos)→cj (P (.Subscript e e2 p))):(e:Expr)→cj (P e) | .Subscript e e2 p=>k e e2 p | _=>.no
noncomputable def D6(k:(a:Option Expr)→(b:Expr)→(p:Pos)→cj (P (.Slice a (some b) none p))):(e:Expr)→cj (P e) | .Slice a (some b) none p=>k a b p | _=>.no
noncomputable def rW(k:(e:Expr)→(y:Str)→(px:Pos)→(it:Expr)→(ifs:List Expr)→(sc:Scope)→(p:Pos)→cj (P (.ListComp e [⟨.Name y px,it,ifs,0⟩] sc p))):(e:Expr)→cj (P e) | .ListComp e [⟨.Name y px,it,ifs,0⟩] sc p=>k e y px it ifs sc p | _=>.no
noncomputable def xb(k:(a:List (Option Expr))→(b:List Expr)→(p:Pos)→cj (P (.Dict a b p))):(e:Expr)→cj (P e) | .Dict a b p=>k a b p | _=>.no
noncomputable def jC(k:cj (PL [])):(l:List α)→cj (PL l) | []=>k | _=>.no
noncomputable def lY(k:(a:α)→(l:List α)→cj (PL (a::l))):(l:List α)→cj (PL l) | a::l=>k a l | _=>.no
noncomputable def mq(k:(a:α)→cj (PL [a])):(l:List α)→cj (PL l):=lY fun a=>jC (PL:=fun l=>PL (a::l)) (k a)
noncomputable def vT(k:(a b:α)→cj (PL [a,b])):(l:List α)→cj (PL l):=lY fun a=>mq (PL:=fun l=>PL (a::l)) (k a)
noncomputable def Ep(k:(a:α)→cj (PO (some a))):(l:Option α)→cj (PO l) | some a=>k a | _=>.no
noncomputable def Fv(k:cj (PO none)):(l:Option α)→cj (PO l) | none=>k | _=>.no
noncomputable def Ar(k:(i:Int)→cj (PC (.int i))):(c:Const)→cj (PC c) | .int i=>k i | _=>.no
noncomputable def CZ(k:(i:Str)→cj (PC (.str i))):(c:Const)→cj (PC c) | .str i=>k i | _=>.no
noncomputable def jp{β:Type}[DecidableEq β]{PB:β→Prop}(y:β)(k:cj (PB y))(x:β):cj (PB x):=(dX (y=x)).bind fun h=>h▸k
end
section
variable{x x':Cx}{e e2:Expr}{a b:CE}
noncomputable def oW(x:Cx)(y:Str):cj (ml x y):=(dX (x.kd.lookup y=some .globalImplicit)).bind fun h=>(dX ((y==("__debug__":Str))=false)).bind fun h2=>.yes ⟨h,h2⟩
noncomputable def G0(x:Cx)(y:Str):cj (∃kk,x.kd.lookup y=some kk∧fi kk):=((dX (x.kd.lookup y=some .local)).bind fun h=>.yes ⟨_,h,.inl rfl⟩).or (((dX (x.kd.lookup y=some .cell)).bind fun h=>.yes ⟨_,h,.inr (.inl rfl)⟩).or ((dX (x.kd.lookup y=some .free)).bind fun h=>.yes ⟨_,h,.inr (.inr rfl)⟩))
noncomputable def iT(x:Cx)(y:Str)(i:Nat):cj (gO x y i):=(dX (x.nm[i]? =some y)).bind fun h=>(G0 x y).bind fun h2=>(dX ((y==("__debug__":Str))=false)).bind fun h3=>.yes ⟨h,h2,h3⟩
noncomputable def uT(x:Cx)(sc:Scope)(y:Str)(i:Nat):cj (eX x { x with kd:=sc.names } sc y i):=
 (dX (sc.kind=.function)).bind fun h1=>(dX (∀y∈sc.names,y.2≠.cell)).bind fun h2=>(dX (∀z∈sc.names,z.2=.local→(z.1=y∨z.1∉x.nm)∧sc.names.lookup z.1=some .local)).bind fun h3=>
  (dX (sc.names.lookup y=some .local)).bind fun h4=>(dX (x.nm[i]? =some y)).bind fun h5=>(dX (∀y∈sc.names,y.2=.free→x.kd.lookup y.1=some .cell∧y.1∈x.nm)).bind fun h6=>.yes ⟨rfl,rfl,h1,h2,h3,h4,h5,h6⟩
noncomputable def z8:(op:Operator)→(o:B)→cj (p5 op o)
 |.Add,.add=>.yes .add | .Sub,.sub=>.yes .sub | .Mult,.mul=>.yes .mul | .FloorDiv,.fdiv=>.yes .fdiv | .Mod,.fmod=>.yes .fmod | .BitAnd,.Ks=>.yes .Ks | _,_=>.no
noncomputable def qO:(op:CmpOp)→(o:B)→cj (lz op o)
 |.Eq,.eq=>.yes .eq | .NotEq,.ne=>.yes .ne | .Lt,.lt=>.yes .lt | .LtE,.le=>.yes .le | .Gt,.gt=>.yes .gt | .GtE,.ge=>.yes .ge | .In,.JK=>.yes .JK | .NotIn,.JI=>.yes .JI | _,_=>.no
structure sX(a:CE) where
 E:(x:Cx)→(e:Expr)→cj (aN x e a)
 N:(x:Cx)→(e:Expr)→cj (gW x e a)
 L:(x:Cx)→(l:List Expr)→cj (lh x l a)
 A:(x:Cx)→(l:List Expr)→cj (jk x l a)
 W:(x:Cx)→(e:Expr)→(es:List Expr)→(xs:CE)→cj (jk x es xs)→cj (jk x (e::es) (.cons a xs))
noncomputable def nP(E:(x:Cx)→(e:Expr)→cj (aN x e a))(N:(x:Cx)→(e:Expr)→cj (gW x e a)):sX a:=
 ⟨E,N,fun Z Z=>.no,fun Z Z=>.no,fun x e es xs h=>(dj (ui a)).bind fun h1=>(E x e).bind fun h2=>h.bind fun h3=>.yes (za h1 h2 h3)⟩
noncomputable def rG:(x:Cx)→(e:Expr)→cj (gW x e a):=fun Z Z=>.no
noncomputable def CB(v:V)(x:Cx)(e:Expr):cj (aN x e (.f v)):=match v with
 |.none=>fu (P:=fun e=>aN x e (.f .none)) (fun c Z Z=>(dX (c=.none)).bind fun h=>.yes (by subst h;exact D8)) e
 |.bool b=>fu (P:=fun e=>aN x e (.f (.bool b))) (fun c Z Z=>(dX (c=.bool b)).bind fun h=>.yes (by subst h;exact B5)) e
 |.int i=>(fu (P:=fun e=>aN x e (.f (.int i))) (fun c Z Z=>(dX (c=.int i)).bind fun h=>.yes (by subst h;exact Fe)) e).or
   ((GM (P:=fun e=>aN x e (.f (.int i))) (fun o e Z=>(dX (o=.USub)).bind fun h=>(fu (P:=fun e=>aN x (.UnaryOp o e _) (.f (.int i))) (fun c Z Z=>Ar (PC:=fun c=>aN x (.UnaryOp o (.Constant c _ _) _) (.f (.int i))) (fun j=>(dX (i=-j)).bind fun h2=>.yes (by subst h;subst h2;exact FY)) c) e)) e).or
   (d5 (P:=fun e=>aN x e (.f (.int i))) (fun n Z=>(oW x n).bind fun hg=>yF (fun p=>p.1==(String.ofList (n.cps.toList.map Char.ofNat))&&p.2==i) kT fun p m h=>(dX (Str.ofString p.1=n)).bind fun h1=>(dX (p.2=i)).bind fun h2=>.yes (by subst h1;subst h2;exact FC hg m)) e))
 |.Jv k=>fu (P:=fun e=>aN x e (.f (.Jv k))) (fun c Z Z=>CZ (PC:=fun c=>aN x (.Constant c _ _) (.f (.Jv k))) (fun Z=>.yes E5) c) e
 |_=>.no
end
end
variable{x x':Cx}{e e2:Expr}{a b:CE}{o:U}{f:Str}{y:Value}
noncomputable def u9{P:Expr→Prop}(f:Str)(x:Cx)(k:(e:Expr)→(p p':Pos)→ba e=true→ml x f→cj (P (.Call (.Name f p') [e] [] p))):(e:Expr)→cj (P e):=
 hG fun g l p=>d5 (P:=fun g=>P (.Call g l [] p)) (fun n p'=>jp (PB:=fun n=>P (.Call (.Name n p') l [] p)) f ((oW x f).bind fun hg=>mq (PL:=fun l=>P (.Call (.Name f p') l [] p)) (fun e=>(dj (ba e)).bind fun hs=>k e p p' hs hg) l) n) g
noncomputable def bi(h1:mc o f y)(hv:tX y)(hn:(f,y)∈hY)(c:sX a)(x:Cx):(e:Expr)→cj (aN x e (.un o a)):=
 u9 f x fun e p p' hs hg=>(c.E x e).bind fun h=>.yes (Ag h1 hv hn hg hs h)
noncomputable def Iq(h1:m5 o f y)(hv:tX y)(hn:(f,y)∈hY)(c:sX a)(x:Cx):(e:Expr)→cj (gW x e (.un o a)):=
 u9 f x fun e p p' hs hg=>(c.E x e).bind fun h=>.yes (xV h1 hv hn hg hs h)
theorem zo(i:Nat)(h:hY[i]? =some (f,y):=by rfl):(f,y)∈hY:=ay h
noncomputable def ID(o:CmpOp)(c:sX a)(x:Cx){P:Expr→Prop}(k:(e:Expr)→(p p':Pos)→(n:Nat)→aN x e a→P (.Compare e [o] [.Constant .none n p'] p)):(e:Expr)→cj (P e):=
 AB fun e l es p=>jp (PB:=fun l=>P (.Compare e l es p)) [o] (mq (PL:=fun es=>P (.Compare e [o] es p)) (fu (P:=fun e2=>P (.Compare e [o] [e2] p)) fun c' n p'=>jp (PB:=fun c'=>P (.Compare e [o] [.Constant c' n p'] p)) .none ((c.E x e).bind fun h=>.yes (k e p p' n h)) c') es) l
noncomputable def Hr(c:sX a)(x:Cx)(o:U):(e:Expr)→cj (aN x e (.un o a)):=match o with
 |.not=>GM fun o e p=>jp (PB:=fun o=>aN x (.UnaryOp o e p) (.un .not a)) .Not ((c.E x e).bind fun h=>.yes (FR h)) o
 |.len=>bi .len (.inl ⟨_,rfl⟩) (zo 0) c x
 |.JE=>bi .Js (.inr ⟨_,rfl⟩) (zo 1) c x
 |.JF=>fun Z=>.no
 |.max=>bi .max (.inl ⟨_,rfl⟩) (zo 3) c x
 |.min=>bi .min (.inl ⟨_,rfl⟩) (zo 4) c x
 |.JW=>fun Z=>.no
 |.range=>bi .range (.inr ⟨_,rfl⟩) (zo 6) c x
 |.isNone=>ID .Is c x fun Z Z Z Z h=>Fo h
 |.J9=>ID .IsNot c x fun Z Z Z Z h=>DJ h
 |.JG=>hG fun g l p=>jn (P:=fun g=>aN x (.Call g l [] p) (.un .JG a)) (fun e f ap=>jp (PB:=fun f=>aN x (.Call (.Attribute e f ap) l [] p) (.un .JG a)) "get" (d5 (P:=fun e=>aN x (.Call (.Attribute e "get" ap) l [] p) (.un .JG a)) (fun n p2=>jp (PB:=fun n=>aN x (.Call (.Attribute (.Name n p2) "get" ap) l [] p) (.un .JG a)) "OP_SORT" (
   (dX ((ap.endLine==p.line)=true)).bind fun hl=>(oW x "OP_SORT").bind fun hg=>vT (PL:=fun l=>aN x (.Call (.Attribute (.Name "OP_SORT" p2) "get" ap) l [] p) (.un .JG a)) (fun e e2=>(dj (ba e)).bind fun hs=>(c.E x e).bind fun h=>
    GM (P:=fun e2=>aN x (.Call (.Attribute (.Name "OP_SORT" p2) "get" ap) [e,e2] [] p) (.un .JG a)) (fun o e3 p4=>jp (PB:=fun o=>aN x (.Call (.Attribute (.Name "OP_SORT" p2) "get" ap) [e,.UnaryOp o e3 p4] [] p) (.un .JG a)) .USub (fu (P:=fun e3=>aN x (.Call (.Attribute (.Name "OP_SORT" p2) "get" ap) [e,.UnaryOp .USub e3 p4] [] p) (.un .JG a)) (fun c n p3=>Ar (PC:=fun c=>aN x (.Call (.Attribute (.Name "OP_SORT" p2) "get" ap) [e,.UnaryOp .USub (.Constant c n p3) p4] [] p) (.un .JG a)) (fun i=>.yes (FO hl hg hs h)) c) e3) o) e2) l) n) e) f) g
 |.JN=>AB fun e l es p=>jp (PB:=fun l=>aN x (.Compare e l es p) (.un .JN a)) [.In] (mq (PL:=fun es=>aN x (.Compare e [.In] es p) (.un .JN a)) (d5 (P:=fun e2=>aN x (.Compare e [.In] [e2] p) (.un .JN a)) fun n p'=>jp (PB:=fun n=>aN x (.Compare e [.In] [.Name n p'] p) (.un .JN a)) "OP_STACK" ((oW x "OP_STACK").bind fun hg=>(c.E x e).bind fun h=>.yes (zn hg h)) n) es) l
 |.J1=>rV fun e e2 p=>d5 (P:=fun e=>aN x (.Subscript e e2 p) (.un .J1 a)) (fun n p'=>jp (PB:=fun n=>aN x (.Subscript (.Name n p') e2 p) (.un .J1 a)) "OP_STACK" ((oW x "OP_STACK").bind fun hg=>(dj (jD e2)).bind fun hs=>(c.E x e2).bind fun h=>.yes (Gw hg hs h)) n) e
 |.Ke=>yl fun e o e2 p=>jp (PB:=fun o=>aN x (.BinOp e o e2 p) (.un .Ke a)) .Add (fu (P:=fun e=>aN x (.BinOp e .Add e2 p) (.un .Ke a)) (fun c' n p2=>CZ (PC:=fun c'=>aN x (.BinOp (.Constant c' n p2) .Add e2 p) (.un .Ke a)) (fun i=>(dX (i="p")).bind fun hi=>u9 (P:=fun e2=>aN x (.BinOp (.Constant (.str i) n p2) .Add e2 p) (.un .Ke a)) "str" x (fun e p3 p' hs hg=>(c.E x e).bind fun h=>.yes (CY hi hg hs h)) e2) c') e) o
 |.JX=>yl fun e o e2 p=>jp (PB:=fun o=>aN x (.BinOp e o e2 p) (.un .JX a)) .Mult (r9 (P:=fun e=>aN x (.BinOp e .Mult e2 p) (.un .JX a)) (fun l n p2=>mq (PL:=fun l=>aN x (.BinOp (.Tuple l n p2) .Mult e2 p) (.un .JX a)) (fu (P:=fun e=>aN x (.BinOp (.Tuple [e] n p2) .Mult e2 p) (.un .JX a)) fun c' n' p4=>Ar (PC:=fun c'=>aN x (.BinOp (.Tuple [.Constant c' n' p4] n p2) .Mult e2 p) (.un .JX a)) (fun i=>(c.E x e2).bind fun h=>.yes (xj h)) c') l) e) o
 |.key k=>rV fun e e2 p=>fu (P:=fun e2=>aN x (.Subscript e e2 p) (.un (.key k) a)) (fun c' n p'=>jp (PB:=fun c'=>aN x (.Subscript e (.Constant c' n p') p) (.un (.key k) a)) (.str (a5 0 k)) ((c.E x e).bind fun h=>.yes (FU h)) c') e2
 |.attr k=>jn fun e f p=>jp (PB:=fun f=>aN x (.Attribute e f p) (.un (.attr k) a)) (a5 1 k) ((dj (fN e)).bind fun hb=>(c.E x e).bind fun h=>.yes (DA hb h)) f
noncomputable def AU(c:sX a)(x:Cx)(o:U):(e:Expr)→cj (gW x e (.un o a)):=match o with
 |.JF=>Iq .Jq (.inr ⟨_,rfl⟩) (zo 2) c x
 |.JW=>Iq .JW (.inl ⟨_,rfl⟩) (zo 5) c x
 |_=>fun Z=>.no
end
section
variable{x x':Cx}{e e2:Expr}{a b:CE}{o:B}{f:Str}{y:Value}
noncomputable def IB(h1:sQ o f y)(hv:tX y)(hn:(f,y)∈hY)(c:sX a)(d:sX b)(x:Cx):(e:Expr)→cj (aN x e (.h o a b)):=
 hG fun g l p=>d5 (P:=fun g=>aN x (.Call g l [] p) (.h o a b)) (fun n p'=>jp (PB:=fun n=>aN x (.Call (.Name n p') l [] p) (.h o a b)) f ((oW x f).bind fun hg=>vT (PL:=fun l=>aN x (.Call (.Name f p') l [] p) (.h o a b)) (fun e e2=>(dj (ba e)).bind fun hs=>(dj (ba e2)).bind fun hs2=>(c.E x e).bind fun h=>(d.E x e2).bind fun h2=>.yes (AR h1 hv hn hg hs hs2 h h2)) l) n) g
noncomputable def Hd(c:sX a)(d:sX b)(x:Cx)(o:B)(e:Expr):cj (aN x e (.h o a b)):=
 (yl (P:=fun e=>aN x e (.h o a b)) (fun e op e2 p=>(z8 op o).bind fun ho=>(c.E x e).bind fun h=>(d.E x e2).bind fun h2=>.yes (E3 ho h h2)) e).or
 ((AB (P:=fun e=>aN x e (.h o a b)) (fun e ops es p=>mq (PL:=fun ops=>aN x (.Compare e ops es p) (.h o a b)) (fun op=>(qO op o).bind fun ho=>mq (PL:=fun es=>aN x (.Compare e [op] es p) (.h o a b)) (fun e2=>(dX (behindInMarks op e2=false)).bind fun hm=>(c.E x e).bind fun h=>(d.E x e2).bind fun h2=>.yes (Fg ho hm h h2)) es) ops) e).or
 (match o with
  |.item=>rV (P:=fun e=>aN x e (.h .item a b)) (fun e e2 p=>(dj (jD e2)).bind fun hs=>(c.E x e).bind fun h=>(d.E x e2).bind fun h2=>.yes (DS hs h h2)) e
  |.J5=>IB .range (.inr ⟨_,rfl⟩) (zo 6) c d x e
  |.Kw=>IB .max (.inl ⟨_,rfl⟩) (zo 3) c d x e
  |_=>.no))
noncomputable def Gh(c:sX a)(d:sX b)(x:Cx)(o:B):(e:Expr)→cj (gW x e (.h o a b)):=match o with
 |.add=>yl fun e op e2 p=>jp (PB:=fun op=>gW x (.BinOp e op e2 p) (.h .add a b)) .Add ((c.E x e).bind fun h=>(d.E x e2).bind fun h2=>.yes (CA h h2)) op
 |.mul=>yl fun e op e2 p=>jp (PB:=fun op=>gW x (.BinOp e op e2 p) (.h .mul a b)) .Mult ((c.E x e).bind fun h=>(d.E x e2).bind fun h2=>.yes (Df h h2)) op
 |_=>fun Z=>.no
noncomputable def Hz{P:Expr→Prop}(x:Cx)(n:Nat)(k:(f:String)→(p:Pos)→(f,n,fe n)∈ka→ml x (Str.ofString f)→cj (P (.Name (Str.ofString f) p))):(e:Expr)→cj (P e):=
 d5 fun y p=>yF (fun t=>Nat.beq t.2.1 n) ka fun t m Z=>(dX (t.2=(n,fe n))).bind fun h=>jp (PB:=fun y=>P (.Name y p)) (Str.ofString t.1) ((oW x (Str.ofString t.1)).bind fun hg=>k t.1 p (by rw[←h];exact m) hg) y
noncomputable def E2{P:Expr→Prop}(x:Cx)(n:Nat)(k:(f:String)→(p:Pos)→(Str.ofString f,n)∈mr→ml x (Str.ofString f)→cj (P (.Name (Str.ofString f) p))):(e:Expr)→cj (P e):=
 d5 fun y p=>yF (fun t=>Nat.beq t.2 n) [("StoreTeller",57),("Store",58),("MethodDef",59),("KindTable",60)] fun t m Z=>(dX ((Str.ofString t.1,n)∈mr)).bind fun h=>jp (PB:=fun y=>P (.Name y p)) (Str.ofString t.1) ((oW x (Str.ofString t.1)).bind fun hg=>k t.1 p h hg) y
theorem zx{o:U}(h:gW x e (.un o a))(k:∀v Q X,l6 o v Q X=l6 o v (fun v=>dD v (fun l=>Q (.Jq l)) X) X)(he:∀env whole,isTrue e env whole=(do let v ←whole;standAt e.pos;holding [v] (PySem.truthy v))):aN x e (.un o a):=
 jj.plain (h.snd fun {F ρ Q X} z=>by
  show aY F a ρ (fun v=>l6 o v _ X) X;rw[←funext fun v=>k v Q X];exact z) he
theorem wm(v:V)(Q:V→Prop)(X:Prop):l6 .JF v Q X=l6 .JF v (fun v=>dD v (fun l=>Q (.Jq l)) X) X:=by
 show j9 v (fun l=>j6 l Q X) X=j9 v (fun l=>j6 l (fun v=>dD v (fun l=>Q (.Jq l)) X) X) X;congr 1;funext l;unfold j6 iff;split<;>rfl
noncomputable def BD{P:Expr→Prop}(op:BoolOp)(c:sX a)(d:sX b)(x:Cx)(k:(e e2:Expr)→(r:List Expr)→(p:Pos)→aN x e a→aN x (.BoolOp op (e2::r) p) b→P (.BoolOp op (e::e2::r) p)):(e:Expr)→cj (P e):=
 Gq fun o l p=>jp (PB:=fun o=>P (.BoolOp o l p)) op (lY (PL:=fun l=>P (.BoolOp op l p)) (fun e l=>lY (PL:=fun l=>P (.BoolOp op (e::l) p)) (fun e2 r=>(c.E x e).bind fun h=>((jC (PL:=fun r=>aN x (.BoolOp op (e2::r) p) b) ((d.E x e2).bind fun h2=>.yes (F8 h2)) r).or (d.E x (.BoolOp op (e2::r) p))).bind fun h2=>.yes (k e e2 r p h h2)) l) l) o
theorem lL.sb{e:Expr}(h:lL x e a)(he:∀env whole,isTrue e env whole=(do let v ←whole;standAt e.pos;holding [v] (PySem.truthy v))):aN x e a:=jj.plain (lL.e h) he
noncomputable def lI(a:CE):sX a:=CE.rec (motive:=sX)
 (fun v=>nP (CB v) rG)
 (fun i=>nP (fun x=>d5 fun n p=>(iT x n i).bind fun N=>.yes (let⟨kk,hk,hv⟩:=N.hk;Gf N.hi hk hv N.hd)) rG)
 { nP (a:=.nil) (fun Z Z=>.no) rG with L:=fun x=>jC (.yes EI),A:=fun x=>jC (.yes Eb) }
 (fun e es c d=>{ nP (a:=.cons e es) (fun Z Z=>.no) rG with
  L:=fun x=>lY fun e' l=>(c.E x e').bind fun h=>(d.L x l).bind fun h2=>.yes (B3 h h2)
  A:=fun x=>lY fun e' l=>c.W x e' l es (d.A x l) })
 (fun es c=>nP (fun x=>r9 fun l n p=>(dX (l.length≤100)).bind fun hn=>(dj (l.all ba)).bind fun hs=>(c.L x l).bind fun h=>.yes (ER hn hs h)) rG)
 (fun es c=>nP (fun x=>Ew fun l p=>(dX (l.length≤100)).bind fun hn=>(dj (l.all ba)).bind fun hs=>(c.L x l).bind fun h=>.yes (EG hn hs h))
  fun x=>Ew fun l p=>(dX (l.length≤100)).bind fun hn=>(dj (l.all ba)).bind fun hs=>(c.L x l).bind fun h=>.yes (w6 hn hs h))
 (fun u e c=>nP (fun x e'=>(Hr c x u e').or (match u with
  |.JF=>(AU c x .JF e').bind fun h=>(hG (P:=fun e'=>∀env whole,isTrue e' env whole=(do let v ←whole;standAt e'.pos;holding [v] (PySem.truthy v))) (fun Z Z Z=>.yes fun Z Z=>rfl) e').bind fun he=>.yes (zx h wm he)
  |_=>.no)) fun x=>AU c x u)
 (fun o e e2 c d=>nP (fun x=>Hd c d x o) fun x=>Gh c d x o)
 (fun e e2 c d=>nP (fun x=>BD .And c d x fun Z Z Z Z h h2=>Gn h h2) rG)
 (fun e e2 c d=>nP (fun x=>BD .Or c d x fun Z Z Z Z h h2=>Ho h h2) rG)
 (fun e e2 e3 c d f=>nP (fun x=>I5 fun e e2 e3 p=>(c.E x e).bind fun h=>(d.E x e2).bind fun h2=>(f.E x e3).bind fun h3=>.yes (E1 h h2 h3)) rG)
 (fun e o e2 o' e3 c d f=>nP (fun x=>AB fun a1 ops es p=>vT (PL:=fun ops=>aN x (.Compare a1 ops es p) (.J8 e o e2 o' e3)) (fun op op'=>(qO op o).bind fun ho=>(qO op' o').bind fun ho'=>vT (PL:=fun es=>aN x (.Compare a1 [op,op'] es p) (.J8 e o e2 o' e3)) (fun a2 a3=>(dX (behindInMarks op' a3=false)).bind fun hm=>(c.E x a1).bind fun h=>(d.E x a2).bind fun h2=>(f.E x a3).bind fun h3=>.yes (Dl ho ho' hm h h2 h3)) es) ops) rG)
 (fun e e2 e3 c d f=>nP (fun x=>rV fun a1 s p=>D6 (P:=fun s=>aN x (.Subscript a1 s p) (.slice e e2 e3)) (fun lo a3 p'=>(c.E x a1).bind fun h=>(f.E x a3).bind fun h3=>(Ep (PO:=fun lo=>aN x (.Subscript a1 (.Slice lo (some a3) none p') p) (.slice e e2 e3)) (fun a2=>(d.E x a2).bind fun h2=>.yes (Aj h h2 h3)) lo).or
  (Fv (PO:=fun lo=>aN x (.Subscript a1 (.Slice lo (some a3) none p') p) (.slice e e2 e3)) (match e2 with
   |.f .none=>.yes (xc h h3)
   |_=>.no) lo)) s) rG)
 (fun n es c=>nP (fun x=>hG fun g l p=>Hz (P:=fun g=>aN x (.Call g l [] p) (.call n es)) x n (fun f p' hf hg=>(dj (pV n)).bind fun hi=>(dj (l.all ba)).bind fun hs=>(c.L x l).bind fun h=>.yes (CV hf hg hi hs h)) g)
  fun x=>hG fun g l p=>Hz (P:=fun g=>gW x (.Call g l [] p) (.call n es)) x n (fun f p' hf hg=>(dj (pV n)).bind fun hi=>(dj (ir n)).bind fun ho=>(dj (l.all ba)).bind fun hs=>(c.L x l).bind fun h=>.yes (zY hf hg hi ho hs h)) g)
 (fun n e es c d=>nP (fun x=>hG fun g l p=>jn (P:=fun g=>aN x (.Call g l [] p) (.Kb n e es)) (fun e1 y ap=>yF (fun t=>Nat.beq t.2 n) [("call_counts",7),("ret_count",8)] fun t m Z=>(dX ((Str.ofString t.1,n,fe n)∈pL)).bind fun hm=>jp (PB:=fun y=>aN x (.Call (.Attribute e1 y ap) l [] p) (.Kb n e es)) (Str.ofString t.1) ((dj (pV n)).bind fun hi=>(dj (l.all ba)).bind fun hs=>(dX (l.length<20)).bind fun hn=>(dj (fN e1)).bind fun hb=>(dj (ap.endLine==p.line)).bind fun hl=>(c.E x e1).bind fun h=>(d.L x l).bind fun h2=>.yes (AE hm hi hs hn hb hl h h2)) y) g) rG)
 (fun n es c=>nP (fun x=>hG fun g l p=>E2 (P:=fun g=>aN x (.Call g l [] p) (.J6 n es)) x n (fun f p' hf hg=>(dj (l.all ba)).bind fun hs=>(c.L x l).bind fun h=>.yes (Do hf hg hs h)) g) rG)
 (fun e i it c d=>nP (fun x=>rW fun el y px it' ifs sc p=>jC (PL:=fun ifs=>aN x (.ListComp el [⟨.Name y px,it',ifs,0⟩] sc p) (.comp e i it)) ((uT x sc y i).bind fun O=>(dj (fy it')).bind fun hs=>(d.E x it').bind fun hi=>(c.E _ el).bind fun h=>.yes (lL.sb (xD O hs hi h) fun Z Z=>rfl)) ifs)
  fun x=>rW fun el y px it' ifs sc p=>jC (PL:=fun ifs=>gW x (.ListComp el [⟨.Name y px,it',ifs,0⟩] sc p) (.comp e i it)) ((uT x sc y i).bind fun O=>(dj (fy it')).bind fun hs=>(d.E x it').bind fun hi=>(c.E _ el).bind fun h=>.yes (lL.n (xD O hs hi h))) ifs)
 (fun e i it t c d f=>nP (fun x=>rW fun el y px it' ifs sc p=>mq (PL:=fun ifs=>aN x (.ListComp el [⟨.Name y px,it',ifs,0⟩] sc p) (.Jz e i it t)) (fun t'=>(uT x sc y i).bind fun O=>(dj (fy it')).bind fun hs=>(d.E x it').bind fun hi=>(c.E _ el).bind fun h=>(f.E _ t').bind fun ht=>.yes (lL.sb (yk O hs hi h ht) fun Z Z=>rfl)) ifs) rG)
 (fun e e2 c d=>nP (fun x=>hG fun g l p=>jn (P:=fun g=>aN x (.Call g l [] p) (.idx e e2)) (fun e1 y ap=>jp (PB:=fun y=>aN x (.Call (.Attribute e1 y ap) l [] p) (.idx e e2)) "index" (mq (PL:=fun l=>aN x (.Call (.Attribute e1 "index" ap) l [] p) (.idx e e2)) (fun a2=>(dj (ap.endLine==p.line)).bind fun hl=>(dj (fN e1)).bind fun hb=>(dj (ba a2)).bind fun hs=>(c.E x e1).bind fun h=>(d.E x a2).bind fun h2=>.yes (AT hl hb hs h h2)) l) y) g) rG)
 (fun e c=>nP (fun x e'=>(c.E x e').bind fun h=>.yes (DM h)) rG)
 (fun e c=>nP (fun x e'=>.no) fun x e'=>(c.N x e').bind fun h=>.yes (zL h))
 (nP (fun x=>xb fun a b p=>jC (PL:=fun a=>aN x (.Dict a b p) .Kn) (jC (PL:=fun b=>aN x (.Dict [] b p) .Kn) (.yes AD) b) a) rG)
 (fun i=>{ nP (a:=.own i) (fun Z Z=>.no) rG with W:=fun x e es xs h=>d5 (P:=fun e=>jk x (e::es) (.cons (.own i) xs)) (fun n p=>(iT x n i).bind fun N=>h.bind fun h=>.yes (Dc N h)) e }) a
variable{P:Stmt→Prop}
noncomputable def gU(k:(t e:Expr)→(p:Pos)→cj (P (.Assign [t] e p))):(s:Stmt)→cj (P s) | .Assign [t] e p=>k t e p | _=>.no
noncomputable def AY(k:(e:Expr)→(p:Pos)→cj (P (.Expr e p))):(s:Stmt)→cj (P s) | .Expr e p=>k e p | _=>.no
noncomputable def IK(k:(e:Expr)→(l r:List Stmt)→(p:Pos)→cj (P (.If e l r p))):(s:Stmt)→cj (P s) | .If e l r p=>k e l r p | _=>.no
noncomputable def DD(k:(e:Expr)→(l:List Stmt)→(p:Pos)→cj (P (.While e l [] p))):(s:Stmt)→cj (P s) | .While e l [] p=>k e l p | _=>.no
noncomputable def Eo(k:(t e:Expr)→(l:List Stmt)→(p:Pos)→cj (P (.For t e l [] p))):(s:Stmt)→cj (P s) | .For t e l [] p=>k t e l p | _=>.no
noncomputable def AQ(k:(e:Expr)→(p:Pos)→cj (P (.Return (some e) p))):(s:Stmt)→cj (P s) | .Return (some e) p=>k e p | _=>.no
noncomputable def GZ(k:(y:Str)→(p:Pos)→(e:Expr)→(p':Pos)→cj (P (.AugAssign (.Name y p) .Add e p'))):(s:Stmt)→cj (P s) | .AugAssign (.Name y p) .Add e p'=>k y p e p' | _=>.no
noncomputable def EA(k:(p:Pos)→cj (P (.Continue p))):(s:Stmt)→cj (P s) | .Continue p=>k p | _=>.no
noncomputable def CI(k:(e:Expr)→(p2:Pos)→cj (P (.Raise (some e) none p2))):(s:Stmt)→cj (P s) | .Raise (some e) none p2=>k e p2 | _=>.no
noncomputable def G1(k:(s:Stmt)→(h:ExceptHandler)→(p4:Pos)→cj (P (.Try [s] [h] [] [] p4))):(s:Stmt)→cj (P s) | .Try [s] [h] [] [] p4=>k s h p4 | _=>.no
noncomputable def Hb{PH:ExceptHandler→Prop}(k:(e:Expr)→(s:Stmt)→(p:Pos)→cj (PH (.ExceptHandler (some e) none [s] p))):(h:ExceptHandler)→cj (PH h) | .ExceptHandler (some e) none [s] p=>k e s p | _=>.no
noncomputable def xf(f:Str)(k:(be:Expr)→(ap:Pos)→(e:Expr)→(p p2:Pos)→(ap.endLine==p.line)=true→ba e=true→cj (P (.Expr (.Call (.Attribute be f ap) [e] [] p) p2))):(s:Stmt)→cj (P s):=
 AY fun c p2=>hG (P:=fun c=>P (.Expr c p2)) (fun g l p=>jn (P:=fun g=>P (.Expr (.Call g l [] p) p2)) (fun be n ap=>jp (PB:=fun n=>P (.Expr (.Call (.Attribute be n ap) l [] p) p2)) f (mq (PL:=fun l=>P (.Expr (.Call (.Attribute be f ap) l [] p) p2)) (fun e=>(dj (ap.endLine==p.line)).bind fun hl=>(dj (ba e)).bind fun hs=>k be ap e p p2 hl hs) l) n) g) c
end
section
variable{x x':Cx}{e e2:Expr}{a b:CE}{y:Str}{i k:Nat}{p p':Pos}{r:FT→Env→R V}
structure Cy(t:T) where
 A:(x:Cx)→(e:Expr)→cj (nK x e t)
 L:(x:Cx)→(l:List Expr)→cj (pw x l t)
noncomputable def Gg{t:T}(L:(x:Cx)→(l:List Expr)→cj (pw x l t)):Cy t:=⟨fun x=>r9 fun l n p=>(dj (l.all ba)).bind fun hs=>(L x l).bind fun h=>.yes (uP hs h),L⟩
noncomputable def ET(t:T):Cy t:=T.rec (motive:=Cy)
 (fun i=>⟨fun x=>d5 fun n p=>(iT x n i).bind fun N=>.yes (let⟨kk,hk,hv⟩:=N.hk;Cf N.hi hk hv),fun Z Z=>.no⟩)
 (Gg fun x=>jC (.yes Es))
 (fun t r c d=>Gg fun x=>lY fun e l=>(c.A x e).bind fun h=>(d.L x l).bind fun h2=>.yes (Dg h h2)) t
noncomputable def At(t:T)(x:Cx):(l:List Expr)→(n:Nat)→(p:Pos)→cj (nK x (.Tuple l n p) t):=fun l n p=>(dj (l.all ba)).bind fun hs=>((ET t).L x l).bind fun h=>.yes (uP hs h)
structure zN(x:Cx)(y:Str)(p':Pos)(e:Expr):Prop where
 run:∀{env n},jU x env→swapsWith e (some (.Name y p')) n env=pure false
theorem F0(h:e9 e=true):zN x y p' e:=⟨fun Z=>d6 h⟩
theorem Bv{kk:NameKind}{elt:Expr}{gs:List Comprehension}{sc:Scope}(h:x.kd.lookup y=some kk)(hv:kk=.cell∨kk=.free):zN x y p' (.ListComp elt gs sc p):=⟨fun N=>tw N h hv⟩
noncomputable def Bw(x:Cx)(y:Str)(p':Pos)(e:Expr):cj (zN x y p' e):=
 ((dj (e9 e)).bind fun hc=>.yes (F0 hc)).or (rW (P:=zN x y p') (fun Z Z Z Z Z Z Z=>((dX (x.kd.lookup y=some .cell)).bind fun h=>.yes (Bv h (.inl rfl))).or ((dX (x.kd.lookup y=some .free)).bind fun h=>.yes (Bv h (.inr rfl)))) e)
noncomputable def DY{P:Expr→Prop}(x:Cx)(y:Str)(p':Pos)(j i:Nat)(it:CE)(k:(el:Expr)→(z:Str)→(px:Pos)→(it':Expr)→(ifs:List Expr)→(sc:Scope)→(p:Pos)→eX x { x with kd:=sc.names } sc z i→fy it'=true→aN x it' it→x.nm[j]? =some y→x.kd.lookup y=some .local→pI y sc p p'→cj (P (.ListComp el [⟨.Name z px,it',ifs,0⟩] sc p))):(e:Expr)→cj (P e):=
 rW fun el z px it' ifs sc p=>(uT x sc z i).bind fun O=>(dj (fy it')).bind fun hs=>((lI it).E x it').bind fun hi=>(dX (x.nm[j]? =some y)).bind fun hj=>(dX (x.kd.lookup y=some .local)).bind fun hk=>(dj (p'.line==p.line)).bind fun h1=>(dX ((sc.names.any fun(n,k)=>n==y&&(k==.local||k==.cell))=false)).bind fun h2=>k el z px it' ifs sc p O hs hi hj hk ⟨h1,h2⟩
noncomputable def B6(x:Cx)(i:Nat)(a:CE)(y:Str)(p':Pos)(e:Expr)(p:Pos):cj (cx x (.Assign [.Name y p'] e p) (.q (.v i) a)):=
 ((iT x y i).bind fun N=>(Bw x y p' e).bind fun hc=>((lI a).E x e).bind fun h=>.yes (let⟨kk,hk,hv⟩:=N.hk;FZ N.hi hk hv hc.run h)).or (match a with
  |.comp a j it=>DY (P:=fun e=>cx x (.Assign [.Name y p'] e p) (.q (.v i) (.comp a j it))) x y p' i j it (fun el z px it' ifs sc q O hs hi hj hk hu=>jC (PL:=fun ifs=>cx x (.Assign [.Name y p'] (.ListComp el [⟨.Name z px,it',ifs,0⟩] sc q) p) (.q (.v i) (.comp a j it))) (((lI a).E _ el).bind fun h=>.yes (Da O hs hi h hj hk hu)) ifs) e
  |.Jz a j it b=>DY (P:=fun e=>cx x (.Assign [.Name y p'] e p) (.q (.v i) (.Jz a j it b))) x y p' i j it (fun el z px it' ifs sc q O hs hi hj hk hu=>mq (PL:=fun ifs=>cx x (.Assign [.Name y p'] (.ListComp el [⟨.Name z px,it',ifs,0⟩] sc q) p) (.q (.v i) (.Jz a j it b))) (fun t=>((lI a).E _ el).bind fun h=>((lI b).E _ t).bind fun hT=>.yes (AS O hs hi h hT hj hk hu)) ifs) e
  |_=>.no)
noncomputable def Cs(x:Cx)(i:Nat)(a:CE)(y:Str)(p':Pos)(e:Expr)(p:Pos):cj (cx x (.Assign [.Name y p'] e p) (.new i a)):=
 ((iT x y i).bind fun N=>(Bw x y p' e).bind fun hc=>((lI a).N x e).bind fun h=>.yes (let⟨kk,hk,hv⟩:=N.hk;EW N.hi hk hv hc.run h)).or (match a with
  |.comp a j it=>DY (P:=fun e=>cx x (.Assign [.Name y p'] e p) (.new i (.comp a j it))) x y p' i j it (fun el z px it' ifs sc q O hs hi hj hk hu=>jC (PL:=fun ifs=>cx x (.Assign [.Name y p'] (.ListComp el [⟨.Name z px,it',ifs,0⟩] sc q) p) (.new i (.comp a j it))) (((lI a).E _ el).bind fun h=>.yes (Dy O hs hi h hj hk hu)) ifs) e
  |_=>.no)
noncomputable def GA(x:Cx)(i k:Nat)(hk:ee k=true)(e:Expr):cj (n6 x e i k):=
 (rV (P:=fun e=>n6 x e i k) (fun e e2 p3=>d5 (P:=fun e=>n6 x (.Subscript e e2 p3) i k) (fun y p=>fu (P:=fun e2=>n6 x (.Subscript (.Name y p) e2 p3) i k) (fun c n p2=>jp (PB:=fun c=>n6 x (.Subscript (.Name y p) (.Constant c n p2) p3) i k) (.str (a5 0 k)) ((iT x y i).bind fun N=>(dX (100≤k)).bind fun h=>.yes (xN N hk h)) c) e2) e) e).or
 (jn (P:=fun e=>n6 x e i k) (fun e f p2=>d5 (P:=fun e=>n6 x (.Attribute e f p2) i k) (fun y p=>jp (PB:=fun f=>n6 x (.Attribute (.Name y p) f p2) i k) (a5 1 k) ((iT x y i).bind fun N=>(dX (k<27)).bind fun h=>.yes (vV N hk h)) f) e) e)
noncomputable def D4(x:Cx)(i k:Nat)(hF:(e:Expr)→cj (sq x i k e r)):(s:Stmt)→cj (lb x s i k r):=
 gU fun t e p=>(dj (e9 e)).bind fun hc=>(hF e).bind fun h=>
  (rV (P:=fun t=>lb x (.Assign [t] e p) i k r) (fun e1 e2 p3=>d5 (P:=fun e1=>lb x (.Assign [.Subscript e1 e2 p3] e p) i k r) (fun y p'=>fu (P:=fun e2=>lb x (.Assign [.Subscript (.Name y p') e2 p3] e p) i k r) (fun c n p2=>jp (PB:=fun c=>lb x (.Assign [.Subscript (.Name y p') (.Constant c n p2) p3] e p) i k r) (.str (a5 0 k)) ((iT x y i).bind fun N=>(dX (100≤k)).bind fun h1=>(dX (k<104)).bind fun h2=>.yes (BM N h1 h2 hc h)) c) e2) e1) t).or
  (jn (P:=fun t=>lb x (.Assign [t] e p) i k r) (fun e1 f p2=>d5 (P:=fun e1=>lb x (.Assign [.Attribute e1 f p2] e p) i k r) (fun y p'=>jp (PB:=fun f=>lb x (.Assign [.Attribute (.Name y p') f p2] e p) i k r) (a5 1 k) ((iT x y i).bind fun N=>(dX (k<27)).bind fun h1=>.yes (Dt N h1 hc h)) f) e1) t)
theorem EH{st:Stmt}(h:lb x st i k fun F ρ=>aY F a ρ):cx x st (.JD i k a):=h
theorem CR{st:Stmt}(h:lb x st i k fun F ρ=>bc (aY F a ρ) fun v=>bc (dD v) fun l=>ok (.Jq l)):cx x st (.JZ i k a):=h
theorem Cd{st:Stmt}(h:lb x st i k fun Z Z=>ok (.Jv 0)):cx x st (.KF i k):=h
end
section
variable{x x':Cx}{e e2:Expr}{a b:CE}{y:Str}{i k:Nat}{p p':Pos}{r:FT→Env→R V}{c d:CS}
structure vO(b:CS) where
 B:(x:Cx)→(l:List Stmt)→cj (fC x l b)
 Q:(bt:CS)→((x:Cx)→(l:List Stmt)→cj (fC x l bt))→(x:Cx)→(l:List Stmt)→cj (fC x l (.seq b bt))
noncomputable def mj{b:CS}(S:(x:Cx)→(s:Stmt)→cj (cx x s b)):vO b:=
 ⟨fun x=>mq fun s=>(S x s).bind fun h=>.yes (FX h),fun bt k x=>lY fun s l=>(S x s).bind fun h=>(k x l).bind fun h2=>.yes (Fj h h2)⟩
noncomputable def Ft{b:CS}{P:Cx→Str→Pos→Expr→Pos→Prop}(k:(x:Cx)→(y:Str)→(p':Pos)→(e:Expr)→(p:Pos)→cj (cx x (.Assign [.Name y p'] e p) b)):vO b:=
 mj fun x=>gU fun t e p=>d5 (P:=fun t=>cx x (.Assign [t] e p) b) (fun y p'=>k x y p' e p) t
noncomputable def HF(tt:T)(a:CE)(B:(x:Cx)→(l:List Stmt)→cj (fC x l d))(x:Cx):(s:Stmt)→cj (cx x s (.C tt a d)):=
 Eo fun t e l p=>(dj (fy e)).bind fun hs=>((d5 (P:=mD) (fun Z Z=>.yes (.inl ⟨_,_,rfl⟩)) t).or (r9 (P:=mD) (fun Z Z Z=>.yes (.inr ⟨_,_,_,rfl⟩)) t)).bind fun hT=>((lI a).E x e).bind fun h=>((ET tt).A x t).bind fun ha=>(B x l).bind fun hB=>.yes (Gm hs hT h ha hB)
noncomputable def uW{P:Expr→Prop}(n:Nat)(xs:CE)(x:Cx)(k:(f:String)→(p p':Pos)→(l:List Expr)→(f,n,fe n)∈ka→ml x (Str.ofString f)→ir n=false→tH n=fZ (ownsOf xs) 0→((ownsOf xs).filterMap id).Nodup→l.all ba=true→jk x l xs→cj (P (.Call (.Name (Str.ofString f) p') l [] p))):(e:Expr)→cj (P e):=
 hG fun g l p=>Hz (P:=fun g=>P (.Call g l [] p)) x n (fun f p' hf hg=>(dX (ir n=false)).bind fun hn=>(dX (tH n=fZ (ownsOf xs) 0)).bind fun hio=>(dX ((ownsOf xs).filterMap id).Nodup).bind fun nd=>(dj (l.all ba)).bind fun hs=>((lI xs).A x l).bind fun h=>k f p p' l hf hg hn hio nd hs h) g
noncomputable def qF(k:Nat):cj (ee k=true):=dj (ee k)
noncomputable def G5(b:CS):vO b:=CS.rec (motive:=vO)
 { B:=fun x=>jC (.yes A4),Q:=fun Z Z Z Z=>.no }
 (fun s t c d=>{ B:=fun x l=>c.Q t d.B x l,Q:=fun Z Z Z Z=>.no })
 (fun t a=>T.rec (motive:=fun t=>vO (.q t a)) (fun i=>Ft (P:=fun Z Z Z Z Z=>True) fun x y p' e p=>B6 x i a y p' e p) (mj fun Z Z=>.no) (fun t r Z Z=>mj fun x=>gU fun t' e p=>r9 (P:=fun t'=>cx x (.Assign [t'] e p) (.q (.cons t r) a)) (fun l n p'=>(dj (e9 e)).bind fun hc=>(dj (tu e)).bind fun hT=>(At (.cons t r) x l n p').bind fun ha=>((lI a).E x e).bind fun h=>.yes (Dk hc hT ha h)) t') t)
 (fun i a=>Ft (P:=fun Z Z Z Z Z=>True) fun x y p' e p=>Cs x i a y p' e p)
 (fun i=>Ft (P:=fun Z Z Z Z Z=>True) fun x y p' e p=>(iT x y i).bind fun N=>(xb (P:=fun e=>∃(k1 k2 k3:Nat)(p1 p2 p3 q1 q2 q3 p4:Pos),e=.Dict [some (.Constant (.str (a5 0 100)) k1 p1),some (.Constant (.str (a5 0 101)) k2 p2),some (.Constant (.str (a5 0 102)) k3 p3)] [.List [] q1,.List [] q2,.List [] q3] p4) (fun a b p4=>match a,b with
   | [some (.Constant (.str s1) k1 p1),some (.Constant (.str s2) k2 p2),some (.Constant (.str s3) k3 p3)],[.List [] q1,.List [] q2,.List [] q3]=>(dX ([s1,s2,s3]=[a5 0 100,a5 0 101,a5 0 102])).bind fun h=>.yes ⟨k1,k2,k3,p1,p2,p3,q1,q2,q3,p4,by cases h;rfl⟩
   |_,_=>.no) e).bind fun he=>.yes (let⟨kk,hk,hv⟩:=N.hk;let⟨_,_,_,_,_,_,_,_,_,_,he⟩:=he;Dd N.hi hk hv he))
 (fun i f xs=>Ft (P:=fun Z Z Z Z Z=>True) fun x y p' e p=>(iT x y i).bind fun N=>hG (P:=fun e=>cx x (.Assign [.Name y p'] e p) (.Kv i f xs)) (fun g l p3=>E2 (P:=fun g=>cx x (.Assign [.Name y p'] (.Call g l [] p3) p) (.Kv i f xs)) x f (fun nm p2 hf hg=>(dj (l.all ba)).bind fun hs=>((lI xs).L x l).bind fun h=>.yes (let⟨kk,hk,hv⟩:=N.hk;CO N.hi hk hv hf hg hs h)) g) e)
 (fun i=>{ B:=fun Z Z=>.no,Q:=fun bt k x l=>(k x l).bind fun h=>.yes (EU h) })
 (fun i=>{ B:=fun x=>jC (.yes Dq),Q:=fun bt k x l=>(k x l).bind fun h=>.yes (Bx h) })
 (fun i a=>mj fun x=>xf "append" fun be ap e p p2 hl hs=>d5 (P:=fun be=>cx x (.Expr (.Call (.Attribute be "append" ap) [e] [] p) p2) (.app i a)) (fun y p'=>(iT x y i).bind fun N=>((lI a).E x e).bind fun h=>.yes (F6 N hl hs h)) be)
 (fun i kk a=>mj fun x=>gU fun t e p=>(dj (e9 e)).bind fun hc=>((lI a).E x e).bind fun h=>rV (P:=fun t=>cx x (.Assign [t] e p) (.J3 i kk a)) (fun e1 e3 p2=>d5 (P:=fun e1=>cx x (.Assign [.Subscript e1 e3 p2] e p) (.J3 i kk a)) (fun y p'=>(iT x y i).bind fun N=>((lI kk).E x e3).bind fun h3=>.yes (C6 N hc h h3)) e1) t)
 (fun i a=>mj fun x=>xf "remove" fun be ap e p p2 hl hs=>d5 (P:=fun be=>cx x (.Expr (.Call (.Attribute be "remove" ap) [e] [] p) p2) (.KA i a)) (fun y p'=>(iT x y i).bind fun N=>((lI a).E x e).bind fun h=>.yes (EN N hl hs h)) be)
 (fun t i=>T.rec (motive:=fun t=>vO (.JT t i)) (fun j=>Ft (P:=fun Z Z Z Z Z=>True) fun x z p' e p3=>hG (P:=fun e=>cx x (.Assign [.Name z p'] e p3) (.JT (.v j) i)) (fun g l p=>jC (PL:=fun l=>cx x (.Assign [.Name z p'] (.Call g l [] p) p3) (.JT (.v j) i)) (jn (P:=fun g=>cx x (.Assign [.Name z p'] (.Call g [] [] p) p3) (.JT (.v j) i)) (fun e1 f ap=>jp (PB:=fun f=>cx x (.Assign [.Name z p'] (.Call (.Attribute e1 f ap) [] [] p) p3) (.JT (.v j) i)) "pop" (d5 (P:=fun e1=>cx x (.Assign [.Name z p'] (.Call (.Attribute e1 "pop" ap) [] [] p) p3) (.JT (.v j) i)) (fun y p2=>(iT x y i).bind fun N=>(iT x z j).bind fun N2=>(dj (ap.endLine==p.line)).bind fun hl=>.yes (let⟨kk,hk,hv⟩:=N2.hk;FN N hl N2.hi hk hv)) e1) f) g) l) e) (mj fun Z Z=>.no) (fun t r Z Z=>mj fun x=>gU fun t' e p3=>r9 (P:=fun t'=>cx x (.Assign [t'] e p3) (.JT (.cons t r) i)) (fun ts m p'=>(At (.cons t r) x ts m p').bind fun ha=>hG (P:=fun e=>cx x (.Assign [.Tuple ts m p'] e p3) (.JT (.cons t r) i)) (fun g l p=>jC (PL:=fun l=>cx x (.Assign [.Tuple ts m p'] (.Call g l [] p) p3) (.JT (.cons t r) i)) (jn (P:=fun g=>cx x (.Assign [.Tuple ts m p'] (.Call g [] [] p) p3) (.JT (.cons t r) i)) (fun e1 f ap=>jp (PB:=fun f=>cx x (.Assign [.Tuple ts m p'] (.Call (.Attribute e1 f ap) [] [] p) p3) (.JT (.cons t r) i)) "pop" (d5 (P:=fun e1=>cx x (.Assign [.Tuple ts m p'] (.Call (.Attribute e1 "pop" ap) [] [] p) p3) (.JT (.cons t r) i)) (fun y p2=>(iT x y i).bind fun N=>(dj (ap.endLine==p.line)).bind fun hl=>.yes (Cm N hl ha)) e1) f) g) l) e) t') t)
 (fun i k a=>mj fun x s=>(D4 (r:=fun F ρ=>aY F a ρ) x i k (fun e=>(dX (ee k=false)).bind fun hk=>((lI a).E x e).bind fun h=>.yes (Fw hk h)) s).bind fun h=>.yes (EH h))
 (fun i k a=>mj fun x s=>(D4 (r:=fun F ρ=>bc (aY F a ρ) fun v=>bc (dD v) fun l=>ok (.Jq l)) x i k (fun e=>(qF k).bind fun hk=>((lI a).N x e).bind fun h=>.yes (BI hk h)) s).bind fun h=>.yes (CR h))
 (fun i k=>mj fun x s=>(D4 (r:=fun Z Z=>ok (.Jv 0)) x i k (xb fun a b p=>(qF k).bind fun hk=>jC (PL:=fun a=>sq x i k (.Dict a b p) fun Z Z=>ok (.Jv 0)) (jC (PL:=fun b=>sq x i k (.Dict [] b p) fun Z Z=>ok (.Jv 0)) (.yes (CF hk)) b) a) s).bind fun h=>.yes (Cd h))
 (fun i k a=>mj fun x=>xf "append" fun be ap e p p2 hl hs=>(qF k).bind fun hk=>(GA x i k hk be).bind fun B=>(dj (fN be)).bind fun hb=>((lI a).E x e).bind fun h=>.yes (Ea B hk hb hl hs h))
 (fun i k b a=>mj fun x=>gU fun t e p=>(dj (e9 e)).bind fun hc=>(qF k).bind fun hk=>(dX (k<27)).bind fun h27=>((lI a).E x e).bind fun h=>rV (P:=fun t=>cx x (.Assign [t] e p) (.Kk i k b a)) (fun e1 e2 p3=>jn (P:=fun e1=>cx x (.Assign [.Subscript e1 e2 p3] e p) (.Kk i k b a)) (fun e0 f p2=>jp (PB:=fun f=>cx x (.Assign [.Subscript (.Attribute e0 f p2) e2 p3] e p) (.Kk i k b a)) (a5 1 k) (d5 (P:=fun e0=>cx x (.Assign [.Subscript (.Attribute e0 (a5 1 k) p2) e2 p3] e p) (.Kk i k b a)) (fun y p'=>(iT x y i).bind fun N=>((lI b).E x e2).bind fun h2=>.yes (Dz N hk h27 hc h h2)) e0) f) e1) t)
 (fun i a=>mj fun x=>GZ fun y p' e p=>(iT x y i).bind fun N=>((lI a).E x e).bind fun h=>.yes (let⟨kk,hk,hv⟩:=N.hk;FL N.hi hk hv N.hd h))
 (fun a s t c d=>mj fun x=>IK fun e l r p=>((lI a).E x e).bind fun h=>(c.B x l).bind fun h1=>(d.B x r).bind fun h2=>.yes (EO h h1 h2))
 (fun a s c=>mj fun x=>DD fun e l p=>((lI a).E x e).bind fun h=>(c.B x l).bind fun h2=>.yes (Eu h h2))
 (fun t a s c=>mj fun x=>HF t a c.B x)
 (fun t a s c=>mj fun x=>Eo fun t' e l p3=>r9 (P:=fun t'=>cx x (.For t' e l [] p3) (.J0 t a s)) (fun ts n p2=>u9 (P:=fun e=>cx x (.For (.Tuple ts n p2) e l [] p3) (.J0 t a s)) "enumerate" x (fun e p p' hs hg=>((lI a).E x e).bind fun h=>(At t x ts n p2).bind fun ha=>(c.B x l).bind fun hB=>.yes (vF hg hs h ha hB)) e) t')
 (fun t n xs=>mj fun x=>gU fun t' e p=>r9 (P:=fun t'=>cx x (.Assign [t'] e p) (.Ki t n xs)) (fun ts m p'=>(At t x ts m p').bind fun ha=>uW (P:=fun e=>cx x (.Assign [.Tuple ts m p'] e p) (.Ki t n xs)) n xs x (fun f p3 p2 l hf hg hn hio nd hs h=>.yes (AN ha hf hg hn hio nd hs h)) e) t')
 (fun n xs=>mj fun x=>AY fun e p2=>uW (P:=fun e=>cx x (.Expr e p2) (.callX n xs)) n xs x (fun f p p' l hf hg hn hio nd hs h=>.yes (zd hf hg hn hio nd hs h)) e)
 (fun a=>mj fun x=>AQ fun e p=>(dX (x.own=false)).bind fun ho=>((lI a).E x e).bind fun h=>.yes (Gx ho h))
 (fun i=>mj fun x=>AQ fun e p=>d5 (P:=fun e=>cx x (.Return (some e) p) (.Kd i)) (fun y p'=>(dX (x.own=true)).bind fun ho=>(iT x y i).bind fun N=>.yes (let⟨kk,hk,hv⟩:=N.hk;BP ho N.hi hk hv N.hd)) e)
 (mj fun x=>EA fun p=>.yes B9)
 (fun a=>mj fun x=>CI fun e p2=>hG (P:=fun e=>cx x (.Raise (some e) none p2) (.JC a)) (fun g l cp=>d5 (P:=fun g=>cx x (.Raise (some (.Call g l [] cp)) none p2) (.JC a)) (fun n np=>jp (PB:=fun n=>cx x (.Raise (some (.Call (.Name n np) l [] cp)) none p2) (.JC a)) "BadCode" ((oW x "BadCode").bind fun hg=>vT (PL:=fun l=>cx x (.Raise (some (.Call (.Name "BadCode" np) l [] cp)) none p2) (.JC a)) (fun e1 e=>(dj (ba e)).bind fun hs=>((lI a).E x e).bind fun h=>fu (P:=fun e1=>cx x (.Raise (some (.Call (.Name "BadCode" np) [e1,e] [] cp)) none p2) (.JC a)) (fun c kd p=>CZ (PC:=fun c=>cx x (.Raise (some (.Call (.Name "BadCode" np) [.Constant c kd p,e] [] cp)) none p2) (.JC a)) (fun y=>.yes (As hg hs h)) c) e1) l) n) g) e)
 (fun a v=>mj fun x=>G1 fun s h p4=>(dX (x.own=false)).bind fun ho=>(oW x "BadCode").bind fun hg=>AQ (P:=fun s=>cx x (.Try [s] [h] [] [] p4) (.JL a v)) (fun e p=>((lI a).E x e).bind fun he=>Hb (PH:=fun h=>cx x (.Try [.Return (some e) p] [h] [] [] p4) (.JL a v)) (fun e1 s1 p3=>d5 (P:=fun e1=>cx x (.Try [.Return (some e) p] [.ExceptHandler (some e1) none [s1] p3] [] [] p4) (.JL a v)) (fun n np=>jp (PB:=fun n=>cx x (.Try [.Return (some e) p] [.ExceptHandler (some (.Name n np)) none [s1] p3] [] [] p4) (.JL a v)) "BadCode" (AQ (P:=fun s1=>cx x (.Try [.Return (some e) p] [.ExceptHandler (some (.Name "BadCode" np)) none [s1] p3] [] [] p4) (.JL a v)) (fun ce p2=>(match v with
   |.none=>fu (P:=fun ce=>iH ce .none) (fun c Z Z=>jp (PB:=fun c=>iH (.Constant c _ _) .none) .none (.yes ub) c) ce
   |.int i=>GM (P:=fun ce=>iH ce (.int i)) (fun o e' Z=>jp (PB:=fun o=>iH (.UnaryOp o e' _) (.int i)) .USub (fu (P:=fun e'=>iH (.UnaryOp .USub e' _) (.int i)) (fun c Z Z=>Ar (PC:=fun c=>iH (.UnaryOp .USub (.Constant c _ _) _) (.int i)) (fun j=>(dX (-j=i)).bind fun h=>.yes (by subst h;exact wj)) c) e') o) ce
   |_=>.no:cj (iH ce v)).bind fun hc=>.yes (E6 ho hg hc he)) s1) n) e1) h) s) b
theorem sh:∀{ns:List Str}{vs:List Value}{n:Str},ns.length=vs.length→n∈ns→((ns.zip vs).lookup n).isSome=true
 |n::ns,v::vs,m,hl,hm=>by
  rw[List.zip_cons_cons,cD];split
  ·rfl
  ·rename_i h;rcases az.mp hm with rfl|hm
   ·simp at h
   ·exact sh (bp hl) hm
 |_::_,[],_,hl,_=>by cases hl
theorem ot{vs0:List Value}{ns0:List Str}:∀{ns:List Str}{vs:List Value},ns.length=vs.length→(∀p∈ns.zip vs,(ns0.zip vs0).lookup p.1=some p.2)→(ns.filterMap fun n=>((ns0.zip vs0).lookup n).map (n,·))=ns.zip vs
 | [],_,_,_=>by simp
 |n::ns,v::vs,hl,h=>by
  rw[List.filterMap_cons,List.zip_cons_cons,h (n,v) (by simp)];exact aj _ (ot (bp hl) fun p hp=>h p (by simp[hp]))
 |_::_,[],hl,_=>by cases hl
theorem ou:∀{ns:List Str}{vs:List Value},ns.Nodup→ns.length=vs.length→∀p∈ns.zip vs,(ns.zip vs).lookup p.1=some p.2
 | [],_,_,_,p,hp=>by simp at hp
 |n::ns,v::vs,nd,hl,p,hp=>by
  rw[List.zip_cons_cons]at hp ⊢;rcases az.mp hp with rfl|hp
  ·rw[cD,beq_self_eq_true]
  ·have:(p.1==n)=false:=by
    have:=(bM.mp nd).1;simp only[beq_eq_false_iff_ne];exact fun q=>this (q▸((List.of_mem_zip hp).1))
   rw[cD,this];exact ou (bM.mp nd).2 (bp hl) p hp
 |_::_,[],_,hl,_,_=>by cases hl
theorem AW{α:Type}{c:Bool}{x y z:α}(h:c=false)(e:y=z):(if c=true then x else y)=z:=by obtain rfl:=h;exact e
theorem yn{α β γ:Type}{l:List α}{b:β}{f:α→β→Sem (ForInStep β)}{k:β→Sem γ}(e:l=[]):(forIn l b f>>=k)=k b:=by obtain rfl:=e;rfl
theorem tm{fd:FuncData}{vals:List Value}{ns:List Str}(h1:fd.params.posonlyargs=[])(h2:fd.params.kwonlyargs=[])(h3:fd.params.vararg=none)(h4:fd.params.kwarg=none)(h5:fd.defaults=.none)(h6:fd.params.args.map (·.arg)=ns)(nd:ns.Nodup)(hl:vals.length=ns.length):
  bindArgs fd ⟨vals,[]⟩=pure (ns.zip vals):=by
 obtain⟨nm,qn,⟨po,as,va,ko,kd,kw,df⟩,body,sc,gl,cl,de⟩:=fd;obtain rfl:=h1;obtain rfl:=h2;obtain rfl:=h3;obtain rfl:=h4;obtain rfl:=h5;obtain rfl:=h6;refine AW ?_ (AW ?_ ?_)
 ·show(decide (vals.length>(as.map (·.arg)).length)&&true)=false;rw[hl,Bool.and_true];exact ao (aZ _)
 ·show(!(((as.map (·.arg)).take ((as.map (·.arg)).length - (List.drop (0 - (as.map (·.arg)).length) ([]:List Value)).length)).filter fun n=>(List.lookup n ((as.map (·.arg)).zip vals)).isNone).isEmpty)=false;rw[List.drop_nil,List.length_nil,Nat.sub_zero,List.take_length,List.filter_eq_nil_iff.mpr]
  ·rfl
  ·intro a ha;have:=sh hl.symm ha;cases h:List.lookup a ((as.map (·.arg)).zip vals) with
   |none=>rw[h]at this;cases this
   |some v=>exact b6
 ·have e:((as.map (·.arg)).drop ((as.map (·.arg)).length - (List.drop (0 - (as.map (·.arg)).length) ([]:List Value)).length)).zip (List.drop (0 - (as.map (·.arg)).length) ([]:List Value))=[]:=by rw[List.drop_nil,List.zip_nil_right]
  refine Eq.trans (yn e) ?_
  exact aj (pure:_→Sem (List (Str×Value))) ((aj _ (aK _)).trans (ot hl.symm (ou nd hl.symm)))
structure Jf(K:Frag)(fd:FuncData)(ns:List Str):Prop where
 clo:fd.closure=[]
 fk:fd.scope.kind=.function
 co:fd.scope.isCoroutine=false
 gen:fd.scope.isGenerator=false
 cd:codeIn K fd.code fd.qualname=true
 nd:ns.Nodup
 par:∀KM:List Value,KM.length=ns.length→bindArgs fd ⟨KM,[]⟩=pure (ns.zip KM)
noncomputable def gM{α:Type}{p:Prop}(o:Option α)(k:(a:α)→o=some a→cj p):cj p:=Option.rec (motive:=fun o'=>o=o'→cj p) (fun Z=>.no) (fun a h=>k a h) o rfl
noncomputable def xO{p:Prop}(o:PySem.Obj)(k:(oc:Value)→(od:Option Addr)→(fd:FuncData)→(osl:Array (Option Value))→o=⟨oc,od,.func fd,osl⟩→cj p):cj p:=match o with
 |⟨oc,od,.func fd,osl⟩=>k oc od fd osl rfl
 |_=>.no
noncomputable def xQ{p:Prop}(b:FuncBody)(k:(l:List Stmt)→b=.stmts l→cj p):cj p:=match b with
 |.stmts l=>k l rfl
 |_=>.no
noncomputable def xL(v:Value):cj (v=.none):=match v with
 |.none=>.yes rfl
 |_=>.no
noncomputable def yz(K:Frag)(fd:FuncData)(ns:List Str):cj (Jf K fd ns):=
 (dX (fd.closure=[])).bind fun h1=>(dX (fd.scope.kind=.function)).bind fun h4=>(dX (fd.scope.isCoroutine=false)).bind fun h5=>(dX (fd.scope.isGenerator=false)).bind fun h6=>
 (dj (codeIn K fd.code fd.qualname)).bind fun h7=>(dX ns.Nodup).bind fun h8=>(dj fd.params.posonlyargs.isEmpty).bind fun h13=>(dj fd.params.kwonlyargs.isEmpty).bind fun h14=>(dj fd.params.vararg.isNone).bind fun h15=>(dj fd.params.kwarg.isNone).bind fun h16=>(xL fd.defaults).bind fun h17=>(dX (fd.params.args.map (·.arg)=ns)).bind fun h18=>
 .yes ⟨h1,h4,h5,h6,h7,h8,fun vals hl=>tm (List.isEmpty_iff.mp h13) (List.isEmpty_iff.mp h14) (Option.isNone_iff_eq_none.mp h15) (Option.isNone_iff_eq_none.mp h16) h17 h18 h8 hl⟩
theorem xY{l:List (Str×NameKind)}{y:Str}{k:NameKind}(h:l.lookup y=some k):(y,k)∈l:=mem_of_lookup h
noncomputable def Fz(K:Frag)(a:Addr)(nm:List String)(fn:Fn):cj (vM K a fn):=
 gM (K.lookup a) fun o h=>xO o fun oc od fd osl ho=>xQ fd.body fun body hb=>((G5 fn.body).B ⟨nm.map Str.ofString,fd.scope.names,fn.io,fn.own⟩ body).bind fun B=>
  (yz K fd ((nm.map Str.ofString).take fn.Jy)).bind fun D=>(dX (fd.globals=mainGlobals)).bind fun h2=>(dX (fd.builtins=builtinsNs)).bind fun h3=>(dX (nm.map Str.ofString).Nodup).bind fun h8=>(dX (fn.Jy≤(nm.map Str.ofString).length)).bind fun h9=>
  (dX (∀y∈(nm.map Str.ofString).take fn.Jy,fd.scope.names.lookup y=some .local∨fd.scope.names.lookup y=some .cell)).bind fun h11=>(dX (∀p∈fd.scope.names,p.2≠.free)).bind fun h12=>
  .yes ⟨oc,od,osl,fd,body,_,ho▸h,hb,B,⟨D.clo,h2,h3,D.fk,D.co,D.gen,D.cd,rfl,rfl,rfl,h8,h9,fun vals hl=>D.par vals (hl.trans (by rw[List.length_take];exact(Nat.min_eq_left h9).symm)),h11,fun y k q=>h12 _ (xY q)⟩⟩
noncomputable def wR(ns:List (Nat×Nat×List String))(n:Nat):Addr:=(ns[n]?.map fun p=>p.2.1).getD 0
theorem zj(n:Nat):wR GS n=fe n:=by
 unfold wR fe;cases GS[n]? <;>rfl
noncomputable def wY(K:Frag):(l:List Fn)→(ns:List (Nat×Nat×List String))→cj (∀(n:Nat)(fn:Fn),l[n]? =some fn→vM K (wR ns n) fn)
 | [],_=>.yes fun n fn h=>((by cases h))
 |fn::l,(i,a,nm)::ns=>(Fz K a nm fn).bind fun h=>(wY K l ns).bind fun h2=>.yes fun n f e=>by
  cases n with
  |zero=>obtain rfl:=ah (e);exact h
  |succ n=>exact h2 n f e
 |_,_=>.no
noncomputable def LawOk:Prop:=∀ns:List Int,ns.length≤63→callF tab 41 56 [.Jq (ns.map .int)] (fun p=>p.1=.bool true) False
structure AllK(K:Frag):Prop where
 gl:GI K
 bad:AL K
 fns:∀n fn,tab[n]? =some fn→vM K (fe n) fn
 made:∀n∈mr.map (·.2),∀fn,tab[n]? =some fn→pD K n fn
 Ll:nsIn K mainGlobals "law"=some (some (.ref 749))
theorem s8{K:Frag}(Y:AllK K)(L:LawOk){w:World}{s:Shared}{a:Addr}{items:Array Value}{n:Nat}{ns:List Int}{Q:Value→Shared→Prop}{E:Value→Shared→Prop}{prog:Program}(ht:prog.given.tree=none)(G:GF K s.heap)(hl:IsL s.heap a items n)(hi:IntsAre items.toList ns)(hn:ns.length≤63)
  (q:∀h tk,(∀b o,s.heap.get? b=some o→h.get? b=some o)→Q (.bool true) { s with heap:=h,toks:=tk }):wpAny (model prog w) callerA (PySem.call (.ref 749) [.ref a]) Q E s:=by
 obtain⟨fn,e,hl',z⟩:=jN (L ns hn);have hio:fn.io=[]:=by obtain rfl:=ah (e);rfl
 have hown:fn.own=false:=by obtain rfl:=ah (e);rfl
 have hadr:fe 56=749:=by decide+kernel
 have R:=mG (c:=⟨prog,w,callerA,[],41,K,callF tab 41⟩) (own:=fun Z=>none) (F:=callF tab 40) (d:=40) (Q:=fun p=>p.1=.bool true) (X:=False) (as:=[(none,.Jq (ns.map .int))]) ⟨rfl,rfl,ht,(by decide+kernel:callerA.depth+2*40+151≤recursionLimit),(by decide+kernel:callerA.units+30*40+203≤cLine)⟩ (show St ⟨prog,w,callerA,[],41,K,callF tab 41⟩ s.heap s from⟨G,fun Z Z e=>e,trivial⟩) (sH rfl) (Y.fns 56 fn e) (fun env O=>vm Y.gl Y.bad Y.fns Y.made 40 _ _ O) (.val (show bz (DK prog w) s.heap [.Jq (ns.map .int)] [.ref a]from .Jq (by rw[af];exact aa hn (by decide)) hl (.Kq hi) .nil) .nil) hl' hio List.nodup_nil z;rw[hadr]at R;refine au (tR R) (fun v s' ⟨own',H',v',vs',g,Z1,Z2,Z3,Z4,Z5,r1,Z6,q'⟩=>?_) fun e s' ⟨Z1,Z2,Z3,Z4,x,Z5,Z6⟩=>x.elim;obtain rfl:=(show v'=.bool true from q');obtain rfl:=(show v=.bool true from((r1 hown).Ju));obtain⟨h,tk,rfl⟩:=g.eq;exact q h tk fun b o e=>(g.keep b o e fun⟨i,k,Z1,z⟩=>(by cases z)).1 (by intro h;cases h)
theorem E0{K:Frag}{p:Program}{L:List Str}{mean:ExcName→Option Value}{mg mb:Str→Option Value}{h:Heap}(X:K.In h)(T:Top p L mean mg mb h)(hi:importsNone p=true):GF K h:=
 ⟨X,⟨mg,mb,T.g,T.b,fun x v e=>mg_of X T.g e,fun x e=>mg_none_of X T.g e,T.builtins⟩,T.nolimit,T.seer hi⟩
set_option tactic.hygienic true in
theorem link{K:Params→Frag}{view:Program}(hv:importsNone view=true)(A:∀P,AllK (K P))(L:LawOk){l:List Str}{XP:(Str→Option Value)→Heap→Prop}{as:List Addr}{e:∀P,as=(K P).map (·.1)}{d:DefRec}{kwd:List (Str×Expr)}(hd0:d.name=Str.ofString "law"):
  WalkO view l XP (kHook K as e).says Challenge.rw_xm0266_01.row.toRowW d kwd fun f vs=>PySem.call f vs:=by
 intro w s₀ s₁ mg mb G Y fa o pm cd doc dV kV ho hd hcd hD hmg hg args vals as hpre hlay hrd hwl hlo;have ef:mg (Str.ofString "law")=some (.ref 749):=mg_of (kIn_of Y) G.T.g (A w.params).Ll;rw[hd0,ef]at hmg;cases hmg;clear ho hd hcd hD;have hw2:=hwl
 wrow_args hpre hlay hrd hwl hlo
 rename_i ns _ _ _ _ _ _ _ a items _ hl _ w1 _ hi _ hlen _
 obtain⟨vs,e1⟩:∃vs:List Value,s₁.heap.get? a=some { cls:=.type "list",data:=.seq vs.toArray }:=by
  generalize hz:ofPy (PyData.list (List.map PyData.int ns))=z at w1;cases w1 with
  |list e _=>exact⟨_,e⟩
  |_=>cases hz
 obtain⟨o,e2,_,n,e3⟩:=hl;rw[e1]at e2;obtain rfl:=ah (e2);cases(show vs.toArray=items.toArray by cases e3;rfl);refine s8 (A w.params) L (by kernel_rfl) (E0 (kIn_of Y) G.T hv) e1 (by rw[List.toList_toArray];exact hi) (by omega) fun h tk k=>GoodW.toG ⟨.inl ⟨.bool true,.bool true,[],rfl,?_,.bool _,?_,fun Z=>⟨List.nodup_nil,(by intro _ h;cases h)⟩⟩,k,rfl,hg⟩
 ·exact fun cls=>rfl
 ·wrow_post
variable{K:Frag}
noncomputable def fW{α:Type}{p:α→Prop}(f:(a:α)→cj (p a)):(l:List α)→cj (∀a∈l,p a)
 | []=>.yes fun Z h=>(nomatch h)
 |a::l=>(f a).bind fun h=>(fW f l).bind fun h2=>.yes fun b hb=>by
  rcases az.mp hb with rfl|hb
  ·exact h
  ·exact h2 b hb
noncomputable def tU{p:Value→Prop}(v:Value)(k:(i:Int)→(t:Tok)→cj (p (.int i t))):cj (p v):=match v with
 |.int i t=>k i t
 |_=>.no
noncomputable def Di{p:Value→Prop}(v:Value)(k:(a:Addr)→cj (p (.ref a))):cj (p v):=match v with
 |.ref a=>k a
 |_=>.no
noncomputable def vk{p:PySem.Obj→Prop}(o:PySem.Obj)(k:(es:Array DictEntry)→(n:Nat)→cj (p ⟨.type "dict",none,.dict es n,#[]⟩)):cj (p o):=match o with
 |⟨c,none,.dict es n,⟨[]⟩⟩=>jp (PB:=fun c=>p ⟨c,none,.dict es n,⟨[]⟩⟩) (.type "dict") (k es n) c
 |_=>.no
noncomputable def CX{p:PySem.Obj→Prop}(o:PySem.Obj)(k:(l:List Value)→(n:Nat)→(sl:Array (Option Value))→cj (p ⟨.type "tuple",none,.seq ⟨l⟩ n,sl⟩)):cj (p o):=match o with
 |⟨c,none,.seq ⟨l⟩ n,sl⟩=>jp (PB:=fun c=>p ⟨c,none,.seq ⟨l⟩ n,sl⟩) (.type "tuple") (k l n sl) c
 |_=>.no
noncomputable def Ds(p:String×Int):cj (∃t,fP K (Str.ofString p.1) (.int p.2 t)):=gM (nsIn K mainGlobals (Str.ofString p.1)) fun o h=>gM o fun v h1=>tU (p:=fun v'=>v=v'→_) v (fun i t=>(dX (i=p.2)).bind fun e=>.yes fun hv=>⟨t,by subst h1;subst hv;subst e;exact h⟩)|>.bind fun f=>.yes (f rfl)
noncomputable def u5(es:Array DictEntry):cj (mI es):=(fW (p:=fun(e:DictEntry)=>∃k t,e.key=.int k t∧e.hash=hashInt k) (fun e=>tU (p:=fun v=>e.key=v→_) e.key (fun k t=>(dX (e.hash=hashInt k)).bind fun h2=>.yes fun h=>⟨k,t,h,h2⟩)|>.bind fun f=>.yes (f rfl)) es.toList).bind fun h=>.yes fun e he=>h e (Array.mem_toList_iff.mpr he)
noncomputable def DN:cj (Az K):=gM (K.lookup 158) fun o h=>(vk (p:=fun o'=>o=o'→Az K) o fun es n=>(u5 es).bind fun h1=>(fW (p:=fun op=>∃t,findBy Value.isInt es op=some (.int (il op) t)) (fun op=>gM (findBy Value.isInt es op) fun v h2=>(tU (p:=fun v'=>v=v'→_) v fun i t=>(dX (i=il op)).bind fun h3=>.yes fun hv=>⟨t,by rw[←h3,←hv];exact h2⟩).bind fun f=>.yes (f rfl)) cw).bind fun h4=>.yes fun e=>⟨es,n,e▸h,h1,h4⟩).bind fun f=>.yes (f rfl)
noncomputable def z7(es:Array DictEntry)(op:Int):cj (nZ K es op (eU op)):=match eU op with
 |none=>(dX (findBy Value.isInt es op=none)).bind fun h=>.yes (.no h)
 |some (a,b)=>gM (findBy Value.isInt es op) fun v h2=>(Di (p:=fun v'=>v=v'→nZ K es op (some (a,b))) v fun c=>gM (K.lookup c) fun o h3=>(CX (p:=fun o'=>o=o'→v=.ref c→nZ K es op (some (a,b))) o fun l n sl=>match l with
   | [.int a' t,.int b' t']=>(dX (a'=a)).bind fun h4=>(dX (b'=b)).bind fun h5=>.yes fun ho hv=>by subst h4;subst h5;subst ho;subst hv;exact .yes h2 h3
   |_=>.no).bind fun f=>.yes fun hv=>f rfl hv).bind fun f=>.yes (f rfl)
noncomputable def DO:cj (yE K):=gM (K.lookup 166) fun o h=>(vk (p:=fun o'=>o=o'→yE K) o fun es n=>(u5 es).bind fun h1=>(fW (p:=fun op=>nZ K es op (eU op)) (fun op=>z7 es op) cw).bind fun h4=>.yes fun e=>⟨es,n,e▸h,h1,h4⟩).bind fun f=>.yes (f rfl)
noncomputable def BC(C:Addr)(name:Str):cj (Cq K C name):=gM (clsIn K C) fun cd h=>(dj cd.hasDict).bind fun h1=>(dX (findIn K (.ref C) name=some none)).bind fun h2=>(dX (findIn K (.ref C) "__getattribute__"=some (some (.builtin "object.__getattribute__")))).bind fun h3=>.yes ⟨⟨cd,h,h1⟩,h2,h3⟩
theorem lP{self:Value}{bm:List Value}(h:refuseLoop self "__setattr__" bm=pure ()):∀(l:List Addr),refuseLoop self "__setattr__" (l.map Value.ref++bm)=pure ()
 | []=>h
 |a::l=>(refuseLoop_ref self _ a _).trans (lP h l)
noncomputable def xX(C:Addr)(bm:List Value)(hb:∀self,refuseLoop self "__setattr__" bm=pure ())(l:List Addr):cj (rI K C):=gM (clsIn K C) fun cd h=>
 (dj cd.hasDict).bind fun h1=>(dX (cd.mro.isEmpty=false)).bind fun h2=>(dX (cd.mro.contains (.type "object")=true)).bind fun h3=>(dX (cd.mro=l.map Value.ref++bm)).bind fun h4=>(dX (findIn K (.ref C) "__setattr__"=some (some (.builtin "object.__setattr__")))).bind fun h5=>
   .yes ⟨⟨cd,h,h1,h2,h3,fun self=>h4▸lP (hb self) l⟩,h5⟩
noncomputable def tj(x:Str)(v:Value):cj (fP K x v∧keepIn K v=true):=(dX (nsIn K mainGlobals x=some (some v))).bind fun h1=>(dj (keepIn K v)).bind fun h2=>.yes ⟨h1,h2⟩
noncomputable def Ga(b:BadEx K):cj (GI K):=
 (fW (p:=fun a=>rI K a∧∀k<27,Cq K a (a5 1 k)) (fun a=>(xX a [.type "object"] PySem.F.store_object.passes [a]).bind fun h1=>(fW (p:=fun k=>Cq K a (a5 1 k)) (fun k=>BC a (a5 1 k)) (List.range 27)).bind fun h2=>.yes ⟨h1,fun k hk=>h2 k (bP.mpr hk)⟩) [424,375,354,90]).bind fun c1=>
 DN.bind fun t1=>DO.bind fun t2=>(fW (p:=fun p=>Cq K (iF p.1) (a5 p.1 p.2)) (fun p=>BC (iF p.1) (a5 p.1 p.2)) attrs).bind fun t3=>
 (fW Ds kT).bind fun c3=>(fW (p:=fun p=>fP K (Str.ofString p.1) (.ref p.2.2)∧keepIn K (.ref p.2.2)=true) (fun p=>tj (Str.ofString p.1) (.ref p.2.2)) ka).bind fun c4=>
 (dX (nsIn K mainGlobals "OP_STACK"=some (some (.ref 166)))).bind fun c5=>(dX (nsIn K mainGlobals "OP_SORT"=some (some (.ref 158)))).bind fun c6=>
 (fW (p:=fun p=>xx K p.1 p.2) (fun p=>(dX (nsIn K mainGlobals p.1=some none)).bind fun h1=>(dX (bootBuiltins p.1=some p.2)).bind fun h2=>(dX (p.1≠Str.ofString "__name__")).bind fun h3=>.yes ⟨h1,h2,h3⟩) hY).bind fun c7=>
 (fW (p:=fun p=>fP K p.1 (.ref (iF p.2))∧keepIn K (.ref (iF p.2))=true) (fun p=>tj p.1 (.ref (iF p.2))) mr).bind fun c8=>
 (fW (p:=fun p=>findIn K (.ref 424) p.1=some (some (.ref p.2.2))∧keepIn K (.ref p.2.2)=true∧typeIn K (.ref p.2.2)=some (.type "function")) (fun p=>(dX (findIn K (.ref 424) p.1=some (some (.ref p.2.2)))).bind fun h1=>(dj (keepIn K (.ref p.2.2))).bind fun h2=>(dX (typeIn K (.ref p.2.2)=some (.type "function"))).bind fun h3=>.yes ⟨h1,h2,h3⟩) pL).bind fun c9=>
 (dX (findIn K (.ref 424) "__getattr__"=some none)).bind fun GJ=>(dX (findIn K (.ref 424) "__getattribute__"=some (some (.builtin "object.__getattribute__")))).bind fun Ec=>(tj "BadCode" cB).bind fun GC=>
 .yes ⟨c1,⟨t1,t2,t3⟩,c3,c4,c5,c6,c7,c8,c9,GJ,Ec,GC,b⟩
noncomputable def BL(n:Nat)(fn:Fn):cj (pD K n fn):=(dj (makesIn K (iF n))).bind fun h1=>(dX (findIn K (.ref (iF n)) "__init__"=some (some (.ref (fe n))))).bind fun h2=>(dX (typeIn K (.ref (fe n))=some (.type "function"))).bind fun h3=>(dX (fn.io=[0])).bind fun h4=>(dX (fn.own=false)).bind fun h5=>.yes ⟨h1,h2,h3,h4,h5⟩
noncomputable def Gc:cj (∀n∈mr.map (·.2),∀fn,tab[n]? =some fn→pD K n fn):=fW (p:=fun n=>∀fn,tab[n]? =some fn→pD K n fn) (fun n=>gM tab[n]? fun fn h=>(BL n fn).bind fun h2=>.yes fun f e=>by rw[h]at e;obtain rfl:=ah (e);exact h2) _
noncomputable def xo(f C:Addr)(a1 a2:Str)(S:rI K C):cj (jh K f C a1 a2):=gM (K.lookup f) fun o h=>xO o fun oc od fd osl ho=>xQ fd.body fun body hb=>
 (vT (PL:=fun l=>l=body→jh K f C a1 a2) (fun s1 s2=>(gU (P:=fun s1=>[s1,s2]=body→jh K f C a1 a2) (fun t1 e1 q3=>jn (P:=fun t1=>[Stmt.Assign [t1] e1 q3,s2]=body→jh K f C a1 a2) (fun w1 b1 q1=>d5 (P:=fun w1=>[Stmt.Assign [.Attribute w1 b1 q1] e1 q3,s2]=body→jh K f C a1 a2) (fun p0 q0=>d5 (P:=fun e1=>[Stmt.Assign [.Attribute (.Name p0 q0) b1 q1] e1 q3,s2]=body→jh K f C a1 a2) (fun p1 q2=>
  gU (P:=fun s2=>[Stmt.Assign [.Attribute (.Name p0 q0) b1 q1] (.Name p1 q2) q3,s2]=body→jh K f C a1 a2) (fun t2 e2 q7=>jn (P:=fun t2=>[Stmt.Assign [.Attribute (.Name p0 q0) b1 q1] (.Name p1 q2) q3,.Assign [t2] e2 q7]=body→jh K f C a1 a2) (fun w2 b2 q5=>d5 (P:=fun w2=>[Stmt.Assign [.Attribute (.Name p0 q0) b1 q1] (.Name p1 q2) q3,.Assign [.Attribute w2 b2 q5] e2 q7]=body→jh K f C a1 a2) (fun p0' q4=>d5 (P:=fun e2=>[Stmt.Assign [.Attribute (.Name p0 q0) b1 q1] (.Name p1 q2) q3,.Assign [.Attribute (.Name p0' q4) b2 q5] e2 q7]=body→jh K f C a1 a2) (fun p2 q6=>
   (dX (b1=a1∧b2=a2∧p0'=p0)).bind fun e=>(yz K fd [p0,p1,p2]).bind fun D=>(dX (∀x∈[p0,p1,p2],fd.scope.names.lookup x=some .local∧(x==("__debug__":Str))=false)).bind fun h8=>(dX (findIn K (.ref C) a1=some none)).bind fun n1=>(dX (findIn K (.ref C) a2=some none)).bind fun n2=>
    .yes fun hbd=>⟨⟨oc,od,osl,fd,p0,p1,p2,q0,q1,q2,q3,q4,q5,q6,q7,ho▸h,D.clo,D.fk,D.co,D.gen,D.cd,by obtain⟨rfl,rfl,rfl⟩:=e;rw[hb,←hbd],h8,D.nd,fun u0 u1 u2=>D.par [u0,u1,u2] rfl⟩,S,n1,n2⟩) e2) w2) t2) s2) e1) w1) t1) s1)) body).bind fun f=>.yes (f rfl)
noncomputable def Dh(b:BadEx K):cj (AL K):=(dX (findIn K (.ref 44) "__init__"=some (some (.ref 28)))).bind fun h2=>(dX (typeIn K (.ref 28)=some (.type "function"))).bind fun h3=>
 (xX 44 [.type "Exception",.type "BaseException",.type "object"] PySem.F.store_Exception.passes [44,31]).bind fun h4=>(xo 28 44 "code" "at" h4).bind fun h5=>.yes ⟨b,h2,h3,h5⟩
theorem allK(b:BadEx K)(h1:(Ga b).isYes=true)(h2:(Dh b).isYes=true)(h3:(wY K tab GS).isYes=true)(h4:(Gc (K:=K)).isYes=true)(h5:nsIn K mainGlobals "law"=some (some (.ref 749))):AllK K:=
 ⟨cj.of h1,cj.of h2,fun n fn e=>zj n▸cj.of h3 n fn e,cj.of h4,h5⟩
end
end
section
open PySem (PyData)
section
variable{α β:Type}{F:FT}{io:List Nat}{ρ ρ1 ρ2:Env}{s t:CS}{c e e1 e2:CE}{v w:V}{d f i k:Nat}{l o:List V}{r:R (Flow×Env)}{z:R V}{b:Bool}{as:List (Option Nat×V)}
theorem bq{r:R α}{f:α→R β}{a:α}{z}(h:r=ok a)(k:f a=z):bc r f=z:=by subst k h;rfl
theorem pq{r:R α}{f:α→R β}(h:r=exc):bc r f=exc:=by subst h;rfl
theorem cY{c:Prop}[i:Decidable c]{r z:R α}(h:c)(k:r=z):Mine.iff c r=z:=by subst k;exact aB h
theorem tq(h:tr v=some b){f:Bool→R α}{z}(k:f b=z):bc (da v) f=z:=by subst k;unfold da;rw[h];rfl
theorem ax(h:bJ F io s ρ=ok (.nxt,ρ1))(k:bJ F io t ρ1=r):bJ F io (.seq s t) ρ=r:=bq h k
theorem ia(h:bJ F io s ρ=ok (.ret v,ρ1)):bJ F io (.seq s t) ρ=ok (.ret v,ρ1):=bq h rfl
theorem iC(h:bJ F io s ρ=exc):bJ F io (.seq s t) ρ=exc:=pq h
theorem kn(h:aY F c ρ=ok v)(ht:tr v=some b)(k:cond b (bJ F io s ρ) (bJ F io t ρ)=r):bJ F io (.p c s t) ρ=r:=bq h (tq ht k)
theorem gu(h:aY F c ρ=ok v)(ht:tr v=some true)(k:bJ F io s ρ=r):bJ F io (.p c s t) ρ=r:=kn h ht k
theorem eH(h:aY F c ρ=ok v)(ht:tr v=some false)(k:bJ F io t ρ=r):bJ F io (.p c s t) ρ=r:=kn h ht k
theorem eK(h:aY F c ρ=ok v)(ht:tr v=some b)(hb:b=true)(k:bJ F io s ρ=r):bJ F io (.p c s t) ρ=r:=by subst hb;exact kn h ht k
theorem cU(h:aY F c ρ=ok v)(ht:tr v=some b)(hb:b=false)(k:bJ F io t ρ=r):bJ F io (.p c s t) ρ=r:=by subst hb;exact kn h ht k
theorem bX(h:aY F e ρ=ok v):bJ F io (.q (.v i) e) ρ=ok (.nxt,ρ.set i (some (false,v))):=bq h rfl
theorem zU{t:T}(h:aY F e ρ=exc):bJ F io (.q t e) ρ=exc:=pq h
theorem qN{t:T}(h:aY F e ρ=ok v)(k:cS t v ρ=some ρ1):bJ F io (.q t e) ρ=ok (.nxt,ρ1):=bq h (bq (a:=ρ1) (by rw[k];rfl) rfl)
theorem cX(h:aY F e ρ=ok v):bJ F io (.ret e) ρ=ok (.ret v,ρ):=bq h rfl
theorem Hy(h:aY F e ρ=exc):bJ F io (.ret e) ρ=exc:=pq h
theorem yc(h:aY F e ρ=ok v):bJ F io (.JC e) ρ=exc:=bq h rfl
theorem bj(h:aY F e ρ=ok (.Js l))(k:F f l=ok (v,o)):aY F (.call f e) ρ=ok v:=bq h (bq (a:=l) rfl (bq k rfl))
theorem callX(h:aY F e ρ=ok (.Js l))(k:F f l=exc):aY F (.call f e) ρ=exc:=bq h (bq (a:=l) rfl (pq k))
theorem d7{u:U}(h:aY F e ρ=ok v)(k:l6 u v=z):aY F (.un u e) ρ=z:=bq h k
theorem aD{u:B}(h:aY F e1 ρ=ok v)(h2:aY F e2 ρ=ok w)(k:eP u v w=z):aY F (.h u e1 e2) ρ=z:=bq h (bq h2 k)
theorem a6(h:aY F e1 ρ=ok v)(h2:aY F e2 ρ=ok (.Js l)):aY F (.cons e1 e2) ρ=ok (.Js (v::l)):=bq h (bq h2 rfl)
theorem gT(h:aY F e ρ=ok (.Js l)):aY F (.Js e) ρ=ok (.Js l):=bq h rfl
theorem HS(h:aY F e ρ=ok (.Js l)):aY F (.Jq e) ρ=ok (.Jq l):=bq h rfl
theorem C8(h:aY F e1 ρ=exc):aY F (.cons e1 e2) ρ=exc:=pq h
theorem DF(h:aY F e1 ρ=ok v)(h2:aY F e2 ρ=exc):aY F (.cons e1 e2) ρ=exc:=bq h (pq h2)
theorem HJ(h:aY F e ρ=exc):aY F (.Js e) ρ=exc:=pq h
theorem F7(h:nS ρ i=ok l)(h2:aY F e ρ=exc):bJ F io (.app i e) ρ=exc:=bq h (pq h2)
theorem su(h:aY F e1 ρ=ok v)(ht:tr v=some b)(k:cond b (aY F e2 ρ) (ok v)=z):aY F (.y e1 e2) ρ=z:=bq h (tq ht k)
theorem GW(h:aY F e1 ρ=ok v)(ht:tr v=some b)(k:cond b (ok v) (aY F e2 ρ)=z):aY F (.D e1 e2) ρ=z:=bq h (tq ht k)
theorem mh(h:aY F e1 ρ=ok v)(ht:tr v=some b)(hb:b=false)(k:aY F e2 ρ=z):aY F (.D e1 e2) ρ=z:=by subst hb;exact GW h ht k
theorem Ee(h:aY F e1 ρ=ok v)(ht:tr v=some b)(hb:b=true):aY F (.D e1 e2) ρ=ok v:=by subst hb;exact GW h ht rfl
theorem gI(h:aY F e1 ρ=ok v)(ht:tr v=some b)(hb:b=true)(k:aY F e2 ρ=z):aY F (.y e1 e2) ρ=z:=by subst hb;exact su h ht k
theorem jW(h:aY F e1 ρ=ok v)(ht:tr v=some b)(hb:b=false):aY F (.y e1 e2) ρ=ok v:=by subst hb;exact su h ht rfl
theorem jZ(h:aY F c ρ=ok v)(ht:tr v=some b)(k:cond b (aY F e1 ρ) (aY F e2 ρ)=z):aY F (.J2 c e1 e2) ρ=z:=bq h (tq ht k)
theorem dM(h:aY F e (plain ρ)=ok v)(k:gB 20 v=true):aY F (.u e) ρ=ok v:=bq h (by rw[k];rfl)
theorem eG(hi:i∉io)(h:aY F e ρ=ok (.Jq l)):bJ F io (.new i e) ρ=ok (.nxt,fq ρ i (.Jq l)):=cY hi (bq h rfl)
theorem fj(h:nS ρ i=ok l)(h2:aY F e ρ=ok v)(hl:l.length≤lim):bJ F io (.app i e) ρ=ok (.nxt,fq ρ i (.Jq (l++[v]))):=bq h (bq h2 (cY hl rfl))
theorem iP(hi:i∉io)(h:jY ρ i=ok v):bJ F io (.JO i) ρ=ok (.nxt,ρ.set i (some (false,v))):=cY hi (bq h rfl)
theorem yj{k:CE}{j:Nat}{z:Int}(h:aY F e ρ=ok v)(h2:nS ρ i=ok l)(h3:aY F k ρ=ok (.int z))(h4:o7 l.length z=some j):bJ F io (.J3 i k e) ρ=ok (.nxt,fq ρ i (.Jq (l.set j v))):=
 bq h (bq h2 (bq h3 (bq (a:=z) rfl (bq (a:=j) (by rw[h4];rfl) rfl))))
theorem gL{t:T}(h:aY F e ρ=ok v)(h2:jB v=some l)(hl:l.length≤lim)(k:fT (fun v ρ=>bc (ft (cS t v ρ)) (bJ F io s)) l ρ=r):bJ F io (.C t e s) ρ=r:=
 bq h (bq (a:=l) (by show ft (jB v)=_;rw[h2];rfl) (cY hl k))
theorem HW{t:T}(h:aY F e ρ=exc):bJ F io (.C t e s) ρ=exc:=pq h
theorem wG(h:yU F ρ e=ok as)(k:F f (as.map (·.2))=ok (v,o))(hv:tQ v=ok ())(hb:qU as o ρ=some ρ1):bJ F io (.callX f e) ρ=ok (.nxt,ρ1):=bq h (bq k (bq hv (bq (a:=ρ1) (by rw[hb];rfl) rfl)))
theorem Hu(h:yU F ρ e=ok as)(k:F f (as.map (·.2))=exc):bJ F io (.callX f e) ρ=exc:=bq h (pq k)
noncomputable def gp(fn:Fn)(args:List V):Env:=args.mapIdx (fun i v=>some (fn.io.contains i,v))++List.replicate (fn.slots - fn.Jy) none
theorem GX{fn:Fn}{args:List V}(hf:tab[f]? =some fn)(hl:args.length=fn.Jy)(h:bJ (callF tab d) fn.io fn.body (gp fn args)=ok (.ret v,ρ1))(ho:callF.outs ρ1 fn.io=ok o):callF tab (d+1) f args=ok (v,o):=by
 unfold callF;rw[hf];exact cY hl (bq h (bq ho rfl))
theorem rN{fn:Fn}{args:List V}(hf:tab[f]? =some fn)(hl:args.length=fn.Jy)(h:bJ (callF tab d) fn.io fn.body (gp fn args)=exc):callF tab (d+1) f args=exc:=by
 unfold callF;rw[hf];exact cY hl (pq h)
theorem CU{fn:Fn}{args:List V}(hf:tab[f]? =some fn)(hl:args.length=fn.Jy)(hw:fn.own=false)(h:bJ (callF tab d) fn.io fn.body (gp fn args)=ok (.nxt,ρ1))(ho:callF.outs ρ1 fn.io=ok o):callF tab (d+1) f args=ok (.none,o):=by
 unfold callF;rw[hf];exact cY hl (bq h (by show cond fn.own _ _=_;rw[hw];exact(bq ho rfl:bc (callF.outs ρ1 fn.io) (fun l=>ok (V.none,l))=_)))
theorem fR{fn:Fn}{args:List V}(hf:tab[f]? =some fn)(hl:args.length=fn.Jy)(hi:fn.io=[])(h:bJ (callF tab d) fn.io fn.body (gp fn args)=ok (.ret v,ρ1)):callF tab (d+1) f args=ok (v,[]):=
 GX hf hl h (by rw[hi];rfl)
theorem HO{fn:Fn}{args:List V}(hf:tab[f]? =some fn)(hl:args.length=fn.Jy)(hi:fn.io=[])(hw:fn.own=false)(h:bJ (callF tab d) fn.io fn.body (gp fn args)=ok (.nxt,ρ1)):callF tab (d+1) f args=ok (.none,[]):=
 CU hf hl hw h (by rw[hi];rfl)
theorem qV{enc:β→V}{step:V→Env→R (Flow×Env)}(E:List β→Env)(r:List V):∀(l p:List β),(∀q x m,l=q++x::m→step (enc x) (E (p++q))=ok (.nxt,E (p++(q++[x]))))→fT step (l.map enc++r) (E p)=fT step r (E (p++l))
 | [],p,_=>by rw[aK];rfl
 |x::l,p,h=>by
  have h1:=h [] x l rfl;rw[aK]at h1
  have h2:=qV E r l (p++[x]) fun q y m e=>by
   have:=h (x::q) y m (aj (x::·) e);rw[aJ,aJ];exact this
  rw[aJ]at h2
  exact bq (f:=fun q=>match q.1 with
   |.ret u=>ok (.ret u,q.2)
   |_=>fT step (l.map enc++r) q.2) h1 h2
theorem cR{enc:β→V}{step:V→Env→R (Flow×Env)}(E:List β→Env){l:List β}(h:∀p x m,l=p++x::m→step (enc x) (E p)=ok (.nxt,E (p++[x]))):fT step (l.map enc) (E [])=ok (.nxt,E l):=by
 have:=qV E [] l [] h;rw[aK]at this;exact this
theorem mY{enc:β→V}{step:V→Env→R (Flow×Env)}(E:List β→Env){l m:List β}{x:β}(h:∀p x m,l=p++x::m→step (enc x) (E p)=ok (.nxt,E (p++[x])))(hx:step (enc x) (E l)=exc):fT step ((l++x::m).map enc) (E [])=exc:=by
 rw[aw,qV E _ l [] h];exact pq hx
end
section
inductive Arg where
 |go (g:Nat) | sw (gs:List Nat) | num (i:Int) | me (k:Nat)
structure aU where
 op:Int
 arg:Arg
structure Cl where
 s:Nat
 t0:Nat
 t1:Nat
 h0:Nat
 h1:Nat
 x:Nat
noncomputable abbrev nv(n:Nat):V:=.int n
noncomputable def Arg.v:Arg→V
 |.go g=>nv g
 |.sw gs=>.Js (gs.map nv)
 |.num i=>.int i
 |.me k=>.Js [.int 7,nv k,.Js []]
noncomputable def Arg.gs:Arg→List Nat
 |.go g=>[g]
 |.sw gs=>gs
 |_=>[]
noncomputable def Arg.map(f:Nat→Nat):Arg→Arg
 |.go g=>.go (f g)
 |.sw gs=>.sw (gs.map f)
 |a=>a
noncomputable abbrev aU.gs(r:aU):List Nat:=r.arg.gs
noncomputable def aU.v(r:aU):V:=.Js [.int r.op,r.arg.v]
noncomputable def aU.map(f:Nat→Nat)(r:aU):aU:=⟨r.op,r.arg.map f⟩
noncomputable def CS.tl:CS→CS
 |.seq _ t=>t
 |s=>s
noncomputable def CS.hd:CS→CS
 |.seq s _=>s
 |s=>s
noncomputable def CS.bd:CS→CS
 |.C _ _ s=>s
 |.J0 _ _ s=>s
 |.J7 _ s=>s
 |s=>s
noncomputable def iL:List Int:=[56,57,58,59,60,61,62,63,64,65,66,67,68,221]
noncomputable def fH:List Int:=[0,20,32,38,42,122,220,65041,65050]
noncomputable def aU.Ok(r:aU):Prop:=match r.arg with
 |.go _=>r.op∈iL
 |.sw gs=>r.op=69∧gs.length≤3
 |.num _=>r.op∈fH
 |.me k=>(r.op=40∨r.op=111)∧1≤k∧k≤4
noncomputable def Cl.v(c:Cl):V:=.Js [nv c.s,nv c.t0,nv c.t1,nv c.h0,nv c.h1,nv c.x]
noncomputable def aL(l:List aU):V:=.Jq (l.map aU.v)
noncomputable def bF(l:List Cl):V:=.Jq (l.map Cl.v)
theorem dP{p:Int→Prop}:∀{l:List Int},List.foldr (fun a q=>p a∧q) True l→∀{a},a∈l→p a
 |_::_,h,_,.head _=>h.1
 |_::_,h,_,.tail _ m=>dP h.2 m
noncomputable def ends(op:Int):Bool:=op==56||op==42||op==122||op==221||op==65050||op==220||op==65041
noncomputable def oG(op:Int):Bool:=decide (op∈iL)
theorem p9{op:Int}(h:op∈iL):op∈cw:=(by decide:∀a∈iL,a∈cw) _ h
theorem qQ{op:Int}(h:op∈fH):op∈cw:=(by decide:∀a∈fH,a∈cw) _ h
theorem aU.Ok.short:∀{r:aU},r.Ok→r.gs.length≤3
 |⟨_,.go _⟩,_=>ae rfl
 |⟨_,.sw _⟩,h=>h.2
 |⟨_,.num _⟩,_=>ae rfl
 |⟨_,.me _⟩,_=>ae rfl
theorem aU.Ok.Kc:∀{r:aU},r.Ok→r.op∈cw
 |⟨_,.go _⟩,h=>p9 h
 |⟨_,.sw _⟩,h=>(show _=(69:Int)from h.1)▸by decide
 |⟨_,.num _⟩,h=>qQ h
 |⟨_,.me _⟩,h=>h.1.elim (fun e=>e▸by decide) (fun e=>e▸by decide)
variable{d:Nat}
theorem c0{op:Int}(h:op∈cw):callF tab (d+1) 0 [.int op]=ok (.bool (ends op),[]):=
 dP (l:=cw) (p:=fun op=>callF tab (d+1) 0 [.int op]=ok (.bool (ends op),[])) ⟨rfl,rfl,rfl,rfl,rfl,rfl,rfl,rfl,rfl,rfl,rfl,rfl,rfl,rfl,rfl,rfl,rfl,rfl,rfl,rfl,rfl,rfl,rfl,rfl,rfl,rfl,trivial⟩ h
theorem c1{op:Int}(h:op∈cw):callF tab (d+1) 1 [.int op]=ok (.int (il op),[]):=GX rfl rfl (cX (cY h rfl)) rfl
theorem c2{op:Int}(h:op∈cw):callF tab (d+1) 2 [.int op]=ok (.bool (oG op),[]):=
 dP (l:=cw) (p:=fun op=>callF tab (d+1) 2 [.int op]=ok (.bool (oG op),[])) ⟨rfl,rfl,rfl,rfl,rfl,rfl,rfl,rfl,rfl,rfl,rfl,rfl,rfl,rfl,rfl,rfl,rfl,rfl,rfl,rfl,rfl,rfl,rfl,rfl,rfl,rfl,trivial⟩ h
variable{α β:Type}{F:FT}{n i:Nat}{ρ:Env}
theorem C9:∀n,(∀v,iQ n v=true→PyData.eqv (kb v) (kb v)=true)→∀l:List V,l.all (iQ n)=true→PyData.eqvAll (k8 l) (k8 l)=true
 |_,_,[],_=>rfl
 |n,h,v::l,g=>by
  exact am.2 ⟨h v (am.1 (show(iQ n v&&l.all (iQ n))=true from g)).1,C9 n h l (am.1 (show(iQ n v&&l.all (iQ n))=true from g)).2⟩
theorem C0:∀n v,iQ n v=true→PyData.eqv (kb v) (kb v)=true
 |_,.none,_=>rfl
 |_,.bool b,_=>by cases b<;>rfl
 |_,.int i,_=>beq_self_eq_true i
 |n+1,.Js l,g=>C9 n (C0 n) l g
 |n+1,.Jq l,g=>C9 n (C0 n) l g
 |0,.Js _,g=>(by cases g)
 |0,.Jq _,g=>(by cases g)
 |n,.rng _ _,g=>by cases n<;>cases g
 |n,.obj _ _,g=>by cases n<;>cases g
 |n,.Jv _,g=>by cases n<;>cases g
theorem rY{v:V}(g:iQ 20 v=true):AC v v=ok true:=by
 have h:Mine.iff (iQ 20 v=true∧iQ 20 v=true) (ok (PyData.eqv (kb v) (kb v)))=ok true:=cY ⟨g,g⟩ (aj ok (C0 20 v g));cases v with
 |int i=>exact aj ok (ak rfl)
 |_=>exact h
theorem IA{v:V}(g:iQ 20 v=true):eP .eq v v=ok (.bool true):=aj (fun r=>bc r fun b=>ok (V.bool b)) (rY g)
theorem xW{v:V}(g:iQ 20 v=true):eP .ne v v=ok (.bool false):=aj (fun r=>bc r fun b=>ok (V.bool !b)) (rY g)
theorem all_map{p:V→Bool}{f:α→V}(h:∀a,p (f a)=true):∀l:List α,(l.map f).all p=true
 | []=>rfl
 |a::l=>am.2 ⟨h a,all_map h l⟩
theorem Hp(k:Nat):∀r:aU,iQ (k+3) r.v=true
 |⟨_,.go _⟩=>rfl
 |⟨_,.num _⟩=>rfl
 |⟨_,.me _⟩=>rfl
 |⟨_,.sw gs⟩=>by show(iQ (k+2) (.Js (gs.map nv))&&true)=true;rw[Bool.and_true];exact all_map (fun Z=>rfl) gs
theorem Hl(k:Nat)(c:Cl):iQ (k+2) c.v=true:=rfl
theorem FH(k:Nat)(l:List aU):iQ (k+4) (aL l)=true:=all_map (Hp k) l
theorem Bb(k:Nat)(l:List Cl):iQ (k+3) (bF l)=true:=all_map (Hl k) l
theorem nL(g:Nat):∀l:List Nat,(l.map nv).any (fun u=>PyData.eqv (kb u) (kb (nv g)))=decide (g∈l)
 | []=>rfl
 |a::l=>by
  show((a:Int)==(g:Int)||(l.map nv).any _)=_;rw[nL g l,show((a:Int)==(g:Int))=decide (g=a)from bZ.2 ⟨fun h=>(aX h).symm,fun h=>h▸rfl⟩,←Bool.decide_or];exact bZ.2 az.symm
theorem uD(g:Nat)(l:List Nat):zW (nv g) (.Jq (l.map nv))=ok (decide (g∈l)):=
 bq (a:=l.map nv) rfl (cY ⟨rfl,all_map (fun Z=>rfl) l⟩ (aj ok (nL g l)))
theorem a7(f:α→V)(l:List α):l6 .len (.Jq (l.map f))=ok (nv l.length):=by
 show ok (V.int ((l.map f).length:Nat))=_;rw[af]
theorem zu{f:α→V}{l:List α}{a:α}(h:l[i]? =some a):idx (l.map f) (i:Nat)=ok (f a):=by
 have hi:i<(l.map f).length:=by rw[af];exact(ag.1 h).1
 have:o7 (l.map f).length (i:Nat)=some i:=(aB (bL i)).trans (aB hi);unfold idx;rw[this];show ft (l.map f)[i]? =_;rw[aV,h];rfl
theorem aW{f:α→V}{l:List α}{a:α}(h:l[i]? =some a):eP .item (.Jq (l.map f)) (nv i)=ok (f a):=zu h
theorem tc{g:Nat}:decide ((g:Int)<0)=false:=ao (Int.not_lt.2 (bL g))
theorem Ef{g:Nat}(h:g<n):decide ((n:Int)≤(g:Int))=false:=ao (Int.not_le.2 (dT.2 h))
theorem G3{g:Nat}(h:¬g<n):decide ((n:Int)≤(g:Int))=true:=ak (bC.2 (bS.1 h))
theorem oZ(a b:Nat):decide ((a:Int)<(b:Int))=decide (a<b):=bZ.2 dT
theorem jR(P:α→Prop):∀l:List α,(∀x∈l,P x)∨∃p x m,l=p++x::m∧(∀y∈p,P y)∧¬P x
 | []=>.inl nofun
 |a::l=>(Classical.em (P a)).elim (fun h=>(jR P l).imp (fun g=>dG.2 ⟨h,g⟩) fun⟨p,x,m,e,g,b⟩=>⟨a::p,x,m,aj (a::·) e,dG.2 ⟨h,g⟩,b⟩) fun h=>.inr ⟨[],a,l,rfl,nofun,h⟩
theorem c3:∀{r:aU},r.Ok→callF tab (d+2) 3 [r.v]=ok (.Js (r.gs.map nv),[])
 |⟨op,.go g⟩,h=>dP (l:=iL) (p:=fun op=>callF tab (d+2) 3 [.Js [.int op,nv g]]=ok (.Js [nv g],[])) (by repeat' (first | exact trivial | refine⟨rfl,?_⟩)) h
 |⟨op,.sw gs⟩,h=>by obtain rfl:=(show op=69 from h.1);rfl
 |⟨op,.num j⟩,h=>dP (l:=fH) (p:=fun op=>callF tab (d+2) 3 [.Js [.int op,.int j]]=ok (.Js [],[])) (by repeat' (first | exact trivial | refine⟨rfl,?_⟩)) h
 |⟨op,.me k⟩,h=>by obtain⟨rfl | rfl,_⟩:_∧_:=h<;>rfl
theorem c4{op:Int}(h:op∈cw):callF tab (d+1) 4 [.int op]=ok (.int (-1),[]):=
 dP (l:=cw) (p:=fun op=>callF tab (d+1) 4 [.int op]=ok (.int (-1),[])) (by repeat' (first | exact trivial | refine⟨rfl,?_⟩)) h
noncomputable def Cl.JR(c:Cl):List Nat:=if c.s=1 then [c.t0,c.t1,c.h0,c.h1,c.x]else [c.t0,c.t1,c.h0,c.h1]
theorem GJ(c:Cl):callF tab (d+1) 10 [c.v]=ok (.Js (c.JR.map nv),[]):=by
 refine fR rfl rfl rfl (ρ1:=[some (false,c.v)]) ?_
 by_cases h:c.s=1
 ·rw[show c.JR=_ from aB h];exact ia (eK rfl rfl (ak (aj Int.ofNat h)) (cX rfl))
 ·rw[show c.JR=_ from aC h];exact ax (cU rfl rfl (ao fun e=>h (aX e)) rfl) (cX rfl)
noncomputable def fp(l:List Nat)(g:Nat):List Nat:=if g∈l then l else l++[g]
noncomputable def ix(n i:Nat)(r:aU):List Nat:=cond (!ends r.op&&decide (i+1<n)) [i+1] []
noncomputable def iA(n i:Nat)(r:aU):List Nat:=r.gs.foldl fp (ix n i r)
theorem mP{a:List Nat}{g:Nat}(h:g∈a):fp a g=a:=aB h
theorem kW{a:List Nat}{g:Nat}(h:¬g∈a):fp a g=a++[g]:=aC h
theorem xP(a:List Nat)(g:Nat):(fp a g).length≤a.length+1:=by
 unfold fp;split
 ·exact d8 _
 ·exact bu ai
theorem iS:∀(p a:List Nat),(p.foldl fp a).length≤a.length+p.length
 | [],_=>aM _
 |g::p,a=>aa (iS p (fp a g)) (by rw[cT,cv p.length,←bO];exact bk (xP a g) _)
theorem nN(g:Nat)(l:List Nat):eP .JI (nv g) (.Jq (l.map nv))=ok (.bool !(decide (g∈l))):=aj (fun r=>bc r fun b=>ok (V.bool !b)) (uD g l)
theorem kC(n i:Nat)(r:aU):(ix n i r).length≤1:=by unfold ix;cases(!ends r.op&&decide (i+1<n))<;>exact ae rfl
theorem eJ{p m:List α}{x:α}:p.length≤(p++x::m).length:=by rw[ai];exact bD _ _
section
variable{rows:List aU}{r:aU}(hr:rows[i]? =some r)(ho:r.Ok)
noncomputable def qa(rows:List aU)(i:Nat)(r:aU)(x:Option (Bool×V))(p:List Nat):Env:=[some (false,aL rows),some (false,nv i),some (false,nv rows.length),some (true,.Jq ((p.foldl fp (ix rows.length i r)).map nv)),x]
include ho in
theorem sS{p m:List Nat}{x:Nat}(e:r.gs=p++x::m)(hx:x<rows.length):bJ F [] gR.tl.tl.tl.hd.bd (qa rows i r (some (false,nv x)) p)=ok (.nxt,qa rows i r none (p++[x])):=by
 refine ax (cU (mh rfl rfl tc rfl) rfl (Ef hx) rfl) (ax (ρ1:=qa rows i r (some (false,nv x)) (p++[x])) (kn (dM (aD rfl rfl (nN _ _)) rfl) rfl ?_) rfl);unfold qa;rw[List.foldl_append];show cond _ _ _=(ok (Flow.nxt,[_,_,_,some (true,V.Jq ((fp _ x).map nv)),_]):R (Flow×Env));by_cases h:x∈p.foldl fp (ix rows.length i r)
 ·rw[ak h,mP h];rfl
 ·rw[ao h,kW h,aw];refine fj (io:=[]) rfl rfl ?_
  rw[af];exact aa (iS _ _) (aa (bo (kC _ _ _) (aa eJ (e▸ho.short))) (by decide))
include hr ho in
theorem vj{z}(k:bJ (callF tab (d+2)) [] gR.tl.tl.tl (qa rows i r none [])=z):bJ (callF tab (d+2)) [] gR [some (false,aL rows),some (false,nv i),none,none,none]=z:=by
 refine ax (bX (d7 rfl (a7 _ _))) (ax (eG (by intro h;cases h) rfl) (ax (ρ1:=qa rows i r none []) (kn (b:=!ends r.op&&decide (i+1<rows.length)) (v:=.bool (!ends r.op&&decide (i+1<rows.length))) (su (d7 (bj (a6 (aD (aD rfl rfl (aW hr)) rfl rfl) rfl) (c0 ho.Kc)) rfl) rfl ?_) rfl ?_) k))
 ·cases ends r.op
  ·exact aj (fun b=>ok (V.bool b)) (oZ (i+1) rows.length)
  ·rfl
 ·unfold qa ix;cases(!ends r.op&&decide (i+1<rows.length))<;>rfl
include hr ho in
theorem GC(h:∀g∈r.gs,g<rows.length):callF tab (d+3) 12 [aL rows,nv i]=ok (.Js ((iA rows.length i r).map nv),[]):=by
 refine fR rfl rfl rfl (vj hr ho (ax (gL (bj (a6 (aD rfl rfl (aW hr)) rfl) (c3 ho)) rfl ?_ (cR (qa rows i r none) fun p x m e=>sS ho e (h x (e▸aA _ (.head _))))) (cX (dM (d7 rfl (cY ?_ rfl)) ?_))))
 ·rw[af];exact aa ho.short (by decide)
 ·rw[af];exact aa (iS _ _) (aa (bo (kC _ _ _) ho.short) (by decide))
 ·exact all_map (fun Z=>rfl) _
include hr ho in
theorem Id{p m:List Nat}{x:Nat}(e:r.gs=p++x::m)(h:∀g∈p,g<rows.length)(hx:¬x<rows.length):callF tab (d+3) 12 [aL rows,nv i]=exc:=by
 refine rN rfl rfl (vj hr ho (iC (gL (bj (a6 (aD rfl rfl (aW hr)) rfl) (c3 ho)) rfl ?_ ?_)))
 ·rw[af];exact aa ho.short (by decide)
 ·rw[e];refine mY (l:=p) (m:=m) (qa rows i r none) (fun q y m' e'=>sS ho (p:=q) (m:=m'++x::m) ?_ (h y (e'▸aA _ (.head _)))) (iC (eK (mh rfl rfl tc rfl) rfl (G3 hx) (yc rfl)));rw[e,e',aJ];rfl
end
theorem ya(n:Nat):jB (.rng 0 n)=some ((List.range n).map nv):=by
 show some ((List.range ((n:Int) - 0).toNat).map _)=_;rw[Int.sub_zero,Int.toNat_natCast];exact aj some (cN fun k Z=>aj V.int (Int.zero_add _))
theorem ym{e:CE}(h:aY F e ρ=ok (nv n))(hn:n≤lim):aY F (.un .range e) ρ=ok (.rng 0 n):=d7 h (cY hn rfl)
theorem i4{io:List Nat}{s:CS}{i:Nat}{e:CE}{r:R (Flow×Env)}(h:aY F e ρ=ok (nv n))(hn:n≤lim)(k:fT (fun v ρ=>bc (ft (cS (.v i) v ρ)) (bJ F io s)) ((List.range n).map nv) ρ=r):bJ F io (.C (.v i) (.un .range e) s) ρ=r:=
 gL (ym h hn) (ya n) (by rw[af,aO];exact hn) k
theorem gF{p m:List Nat}{x:Nat}(e:List.range n=p++x::m):x<n:=bP.1 (e▸aA p (.head m))
theorem bw{l:List α}(h:i<l.length):l[i]? =some (l[i]):=dz h
noncomputable def Cl.In(n:Nat)(c:Cl):Prop:=c.t0<n∧c.h0<n∧(c.s=1→c.x<n)∧c.t1≤n∧c.h1≤n
theorem Cl.In.K8{c:Cl}(h:c.In n){e:Nat}(m:e∈c.JR):e≤n:=by
 have A:∀e∈[c.t0,c.t1,c.h0,c.h1],e≤n:=dG.2 ⟨aE h.1,dG.2 ⟨h.2.2.2.1,dG.2 ⟨aE h.2.1,dG.2 ⟨h.2.2.2.2,(by intro _ h;cases h)⟩⟩⟩⟩;unfold Cl.JR at m;split at m
 ·rename_i s;rw[show [c.t0,c.t1,c.h0,c.h1,c.x]=[c.t0,c.t1,c.h0,c.h1]++[c.x]from rfl,a9]at m;exact m.elim (A e) fun m=>aq.1 m▸aE (h.2.2.1 s)
 ·exact A e m
theorem yw(c:Cl):(c.JR.map nv).length≤lim:=by unfold Cl.JR;split<;>exact ae rfl
theorem uN(a b:Nat):decide ((a:Int)=(b:Int))=decide (a=b):=bZ.2 Int.ofNat_inj
theorem AZ(a b:Nat):eP .eq (nv a) (nv b)=ok (.bool (decide (a=b))):=aj (fun b=>ok (V.bool b)) (uN a b)
variable{rows:List aU}{cls:List Cl}
theorem yA{n:Nat}(hn:n=rows.length)(ho:∀r∈rows,r.Ok){c:Cl}(hc:c.In n){a0 a1 a3:Option (Bool×V)}:fT (fun v ρ=>bc (ft (cS (.v 5) v ρ)) (bJ (callF tab (d+1)) [] j5.tl.bd.tl.tl.hd.bd)) (c.JR.map nv) [some (false,aL rows),a1,some (false,nv n),a3,a0,none]=ok (.nxt,[some (false,aL rows),a1,some (false,nv n),a3,a0,none]):=by
 refine cR (fun Z=>[some (false,aL rows),a1,some (false,nv n),a3,a0,none]) fun p x m e=>?_
 have hx:=hc.K8 (e▸aA p (.head m));refine ax (ρ1:=[some (false,aL rows),a1,some (false,nv n),a3,a0,some (false,nv x)]) (cU (b:=false) (v:=.bool false) (mh rfl rfl tc (mh rfl rfl (ao (Int.not_lt.2 (bC.2 hx))) ?_)) rfl rfl rfl) rfl;cases x with
 |zero=>rfl
 |succ x=>
  obtain⟨r,hr⟩:∃r,rows[x]? =some r:=⟨_,bw (hn▸hx)⟩;have k:=c4 (d:=d) (ho r (ay hr)).Kc;refine gI rfl rfl (ak (Int.natCast_pos.2 (a8 x))) ?_
  refine aD (bj (a6 (aD (aD rfl (v:=aL rows) (w:=nv x) (aD rfl rfl (aj (fun k=>ok (V.int k)) (by exact Int.add_sub_cancel (x:Int) 1))) (aW hr)) rfl rfl) rfl) k) rfl rfl
theorem Ec(ho:∀r∈rows,r.Ok)(hc:∀c∈cls,c.In rows.length)(hl:cls.length≤lim):callF tab (d+2) 11 [aL rows,bF cls]=ok (.none,[]):=by
 refine HO rfl rfl rfl rfl (ρ1:=[some (false,aL rows),some (false,bF cls),some (false,nv rows.length),none,none,none]) (ax (bX (d7 rfl (a7 _ _))) (i4 (d7 rfl (a7 _ _)) hl
  (cR (fun Z=>[some (false,aL rows),some (false,bF cls),some (false,nv rows.length),none,none,none]) fun p x m e=>?_)))
 have hx:=gF e;have hg:=bw hx;have hi:=hc _ (ay hg);generalize cls[x]=c at hg hi;refine ax (bX (aD rfl rfl (aW hg))) (ax (cU (b:=false) (v:=.bool false) (mh rfl rfl (Ef hi.1) (mh rfl rfl (Ef hi.2.1) ?_)) rfl rfl rfl) (ax (gL (bj rfl (GJ c)) rfl (yw c) (yA rfl ho hi)) rfl));by_cases s:c.s=1
 ·exact gI rfl rfl (ak (aj Int.ofNat s)) (aj (fun b=>ok (V.bool b)) (Ef (hi.2.2.1 s)))
 ·exact aj (fun b=>cond b _ (ok (V.bool b))) (ao fun e=>s (aX e))
section
variable{σ:Type}(E:σ→Env)(I:σ→Prop)(μ:σ→Nat)(C:V→Prop)(X:Prop)
inductive Wk(s:σ):R (Flow×Env)→Prop
 |nxt {s':σ}:I s'→μ s'<μ s→Wk s (ok (.nxt,E s'))
 |cont {s':σ}:I s'→μ s'<μ s→Wk s (ok (.cont,E s'))
 |ret {v:V} {ρ:Env}:C v→Wk s (ok (.ret v,ρ))
 |exc:X→Wk s exc
inductive uH(t:σ→Bool):R (Flow×Env)→Prop
 |nxt {s:σ}:I s→t s=false→uH t (ok (.nxt,E s))
 |ret {v:V} {ρ:Env}:C v→uH t (ok (.ret v,ρ))
 |exc:X→uH t exc
variable{E I μ C X}
theorem lA{test:Env→R Bool}{body:Env→R (Flow×Env)}{t:σ→Bool}(ht:∀s,I s→test (E s)=ok (t s))(hb:∀s,I s→t s=true→Wk E I μ C X s (body (E s)))(k:Nat):∀s:σ,I s→μ s<k→uH E I C X t (gS test body k (E s)):=by
 induction k with
 |zero=>exact fun Z Z l=>absurd l (Nat.not_lt_zero _)
 |succ k ih=>
  intro s h l;cases e:t s with
  |false=>rw[show gS test body (k+1) (E s)=ok (.nxt,E s)from bq ((ht s h).trans (aj ok e)) rfl];exact .nxt h e
  |true=>
   have b:=hb s h e;generalize hz:body (E s)=z at b
   have u {z} (q:bc (body (E s)) (fun p=>match p.1 with
    |.ret u=>ok (.ret u,p.2)
    |_=>gS test body k p.2)=z):gS test body (k+1) (E s)=z:=bq ((ht s h).trans (aj ok e)) q
   cases b with
   |nxt i m=>rw[u (bq hz rfl)];exact ih _ i (aS m (cz l))
   |cont i m=>rw[u (bq hz rfl)];exact ih _ i (aS m (cz l))
   |ret g=>rw[u (bq hz rfl)];exact .ret g
   |exc g=>rw[u (pq hz)];exact .exc g
end
theorem yr{α:Type}{P:List α→Prop}(h0:P [])(h1:∀w i,P (w++[i]))(w:List α):P w:=
 (List.eq_nil_or_concat w).elim (fun e=>e▸h0) fun⟨l,a,e⟩=>by rw[e,List.concat_eq_append];exact h1 l a
noncomputable abbrev SW:=List Bool×List Nat
noncomputable def dl(s:SW)(g:Nat):SW:=if s.1[g]? =some false then(s.1.set g true,s.2++[g])else s
noncomputable abbrev bv(l:List Bool):V:=.Jq (l.map .bool)
noncomputable abbrev cW(l:List Nat):V:=.Jq (l.map nv)
noncomputable def un:List Bool→Nat
 | []=>0
 |b::l=>cond b 0 1+un l
theorem tf:∀{l:List Bool}{g:Nat},l[g]? =some false→un (l.set g true)+1=un l
 |false::l,0,_=>by show 0+un l+1=1+un l;rw[cI,cv]
 |b::l,g+1,h=>by
  have:=tf (l:=l) (g:=g) h;show cond b 0 1+un (l.set g true)+1=cond b 0 1+un l;rw[bO,this]
theorem Bf:∀l:List Bool,un l≤l.length
 | []=>aM _
 |true::l=>by show 0+un l≤_;rw[cI];exact cy (Bf l)
 |false::l=>by show 1+un l≤_;rw[cv];exact bQ (Bf l)
noncomputable def wt(s:SW):Nat:=un s.1+s.2.length
theorem tS(s:SW)(g:Nat):wt (dl s g)=wt s:=by
 unfold dl;split
 ·rename_i h;show un _+(s.2++[g]).length=un s.1+s.2.length;rw[ai,←tf h,bO,cv 1];rfl
 ·rfl
theorem nX:∀(l:List Nat)(s:SW),wt (l.foldl dl s)=wt s
 | [],_=>rfl
 |g::l,s=>(nX l _).trans (tS s g)
theorem GL(s:SW)(g:Nat)(h:s.2.length≤lim):callF tab (d+1) 17 [bv s.1,cW s.2,nv g]=ok (.none,[bv (dl s g).1,cW (dl s g).2]):=by
 have nn:decide ((0:Int)≤g)=true:=ak (bL g);have lt {b:Bool} (e:decide (g<s.1.length)=b):eP .lt (nv g) (nv s.1.length)=ok (.bool b):=aj (fun b=>ok (V.bool b)) ((oZ g _).trans e);cases q:s.1[g]? with
 |none=>
  rw[show dl s g=s from aC (by rw[q];nofun)];exact CU rfl rfl rfl (ρ1:=[some (true,bv s.1),some (true,cW s.2),some (false,nv g)]) (eH (dM (gI rfl rfl nn (jW (aD rfl (d7 rfl (a7 _ _)) (lt (ao fun l=>by rw[bw l]at q;nomatch q))) rfl rfl)) rfl) rfl rfl) rfl
 |some b=>
  have l:=(ag.1 q).1
  have c:aY (callF tab d) (.u (.y (.h .ge (.c 2) (.f (.int 0))) (.y (.h .lt (.c 2) (.un .len (.c 0))) (.un .not (.h .item (.c 0) (.c 2)))))) [some (true,bv s.1),some (true,cW s.2),some (false,nv g)]=ok (.bool !b):=
   dM (gI rfl rfl nn (gI (aD rfl (d7 rfl (a7 _ _)) (lt (ak l))) rfl rfl (d7 (aD rfl rfl (aW q)) rfl))) rfl
  cases b with
  |true=>
   rw[show dl s g=s from aC (by rw[q];nofun)];exact CU rfl rfl rfl (ρ1:=[some (true,bv s.1),some (true,cW s.2),some (false,nv g)]) (eH c rfl rfl) rfl
  |false=>
   rw[show dl s g=(s.1.set g true,s.2++[g])from aB q]
   have hi:ft (o7 (s.1.map V.bool).length (nv g|>fun | .int i=>i | _=>0))=ok g:=by
    rw[af];exact aj ft ((aB (bL g)).trans (aB l))
   have k:bJ (callF tab d) [0,1] (.seq (.J3 0 (.c 2) (.f (.bool true))) (.app 1 (.c 2))) [some (true,bv s.1),some (true,cW s.2),some (false,nv g)]=ok (.nxt,[some (true,.Jq ((s.1.map V.bool).set g (.bool true))),some (true,.Jq (s.2.map nv++[nv g])),some (false,nv g)]):=
    ax (bq rfl (bq rfl (bq rfl (bq rfl (bq hi rfl))))) (fj rfl rfl (by rw[af];exact h))
   have k2:=CU (d:=d) (f:=17) (fn:=⟨3,3,[0,1],false,lO⟩) (args:=[bv s.1,cW s.2,nv g]) rfl rfl rfl (gu c rfl k) rfl;rw[k2];show ok _=ok (V.none,[V.Jq ((s.1.set g true).map V.bool),V.Jq ((s.2++[g]).map nv)]);rw[List.map_set,aw];rfl
end
section
variable{α β:Type}{F:FT}{d n i:Nat}{ρ:Env}
theorem qq{u:V}(hn:n≤lim):eP .mul (.Jq [u]) (nv n)=ok (.Jq (List.replicate n u)):=cY ⟨bL n,bC.2 hn⟩ rfl
theorem nu{γ:Type}(h:γ→List Nat)(f:β→Nat→β):∀(l:List γ)(a:β),(l.flatMap h).foldl f a=l.foldl (fun a c=>(h c).foldl f a) a
 | [],_=>rfl
 |c::l,a=>by rw[List.flatMap_cons,List.foldl_append];exact nu h f l _
noncomputable def Cl.hs(c:Cl):List Nat:=if c.s=1 then [c.h0,c.x]else [c.h0]
noncomputable def hL(i:Nat)(c:Cl):List Nat:=if c.t0≤i∧i<c.t1 then c.hs else []
inductive bf(rows:List aU)(cls:List Cl):Nat→Prop
 |zero:0<rows.length→bf rows cls 0
 |go {i r g}:bf rows cls i→rows[i]? =some r→g∈r.gs→g<rows.length→bf rows cls g
 |fall {i r}:bf rows cls i→rows[i]? =some r→ends r.op=false→i+1<rows.length→bf rows cls (i+1)
 |hand {i c g}:bf rows cls i→c∈cls→c.t0≤i→i<c.t1→g∈c.hs→g<rows.length→bf rows cls g
theorem bf.lt{rows:List aU}{cls:List Cl}(h:bf rows cls i):i<rows.length:=by cases h<;>assumption
variable{rows:List aU}{cls:List Cl}{r:aU}
noncomputable def rE(rows:List aU)(cls:List Cl)(x4 x5 x6:Option (Bool×V))(s:SW):Env:=[some (false,aL rows),some (false,bF cls),some (true,bv s.1),some (true,cW s.2),x4,x5,x6]
theorem tG{s:SW}(h:wt s≤lim):s.2.length≤lim:=aa (cn _ _) h
theorem vf(f:β→α→β)(p:List α)(x:α)(a:β):(p++[x]).foldl f a=f (p.foldl f a) x:=List.foldl_append
theorem Ai{x4 x6:Option (Bool×V)}(l:List Nat)(s:SW)(h:wt s≤lim):fT (fun v ρ=>bc (ft (cS (.v 5) v ρ)) (bJ (callF tab (d+1)) [] dW.tl.tl.tl.hd.bd.tl.hd.bd)) (l.map nv) (rE rows cls x4 none x6 s)=ok (.nxt,rE rows cls x4 none x6 (l.foldl dl s)):=
 cR (fun p=>rE rows cls x4 none x6 (p.foldl dl s)) fun p x m e=>by
  rw[vf];exact ax (wG rfl (GL (p.foldl dl s) x (tG (nX p s▸h))) rfl rfl) rfl
theorem AJ{x5:Option (Bool×V)}(s:SW)(h:wt s≤lim):fT (fun v ρ=>bc (ft (cS (.v 6) v ρ)) (bJ (callF tab (d+1)) [] dW.tl.tl.tl.hd.bd.tl.tl.hd.bd)) (cls.map Cl.v) (rE rows cls (some (false,nv i)) x5 none s)=ok (.nxt,rE rows cls (some (false,nv i)) x5 none ((cls.flatMap (hL i)).foldl dl s)):=by
 have hw:∀(p:List Cl),wt (p.foldl (fun s c=>(hL i c).foldl dl s) s)≤lim:=fun p=>by rw[←nu,nX];exact h
 rw[nu];refine cR (fun p=>rE rows cls (some (false,nv i)) x5 none (p.foldl (fun s c=>(hL i c).foldl dl s) s)) fun p c m e=>?_
 rw[vf];generalize hs:p.foldl (fun s c=>(hL i c).foldl dl s) s=u;by_cases ht:c.t0≤i∧i<c.t1
 ·refine ax (ρ1:=rE rows cls (some (false,nv i)) x5 (some (false,c.v)) ((hL i c).foldl dl u)) (eK (gI rfl rfl (ak (bC.2 ht.1)) rfl) rfl (ak (dT.2 ht.2)) ?_) rfl;rw[show hL i c=c.hs from aB ht];refine ax (wG rfl (GL u c.h0 (tG (hs▸hw p))) rfl rfl) ?_
  by_cases hs1:c.s=1
  ·rw[show c.hs=[c.h0,c.x]from aB hs1];exact eK rfl rfl (ak (aj Int.ofNat hs1)) (wG rfl (GL (dl u c.h0) c.x (tG (tS u c.h0▸(hs▸hw p)))) rfl rfl)
  ·rw[show c.hs=[c.h0]from aC hs1];exact cU rfl rfl (ao fun e=>hs1 (aX e)) rfl
 ·rw[show hL i c=[]from aC ht];refine ax (ρ1:=rE rows cls (some (false,nv i)) x5 (some (false,c.v)) u) ?_ rfl
  by_cases h1:c.t0≤i
  ·exact cU (gI rfl rfl (ak (bC.2 h1)) rfl) rfl (ao (Int.not_lt.2 (bC.2 (bS.1 fun h2=>ht ⟨h1,h2⟩)))) rfl
  ·have k:=ao (p:=(c.t0:Int)≤i) (Int.not_le.2 (dT.2 (Nat.not_le.1 h1)));exact cU (jW rfl rfl k) rfl k rfl
noncomputable def qw(rows:List aU)(cls:List Cl)(i:Nat)(r:aU):List Nat:=iA rows.length i r++cls.flatMap (hL i)
theorem Bz{s0:List Bool}{w0:List Nat}:bJ F [] (.JT (.v 4) 3) (rE rows cls none none none (s0,w0++[i]))=ok (.nxt,rE rows cls (some (false,nv i)) none none (s0,w0)):=by
 have h1:ft ((w0++[i]).map nv).getLast? =ok (nv i):=by rw[aw];exact aj ft List.getLast?_concat
 have h2:((w0++[i]).map nv).dropLast=w0.map nv:=by rw[aw];exact List.dropLast_concat
 refine bq (a:=(w0++[i]).map nv) rfl (bq h1 ?_);rw[h2];rfl
theorem BH(hr:rows[i]? =some r)(ho:r.Ok)(hg:∀g∈r.gs,g<rows.length)(hl:cls.length≤lim){s0:List Bool}{w0:List Nat}(h:wt (s0,w0)≤lim):bJ (callF tab (d+3)) [] dW.tl.tl.tl.hd.bd (rE rows cls none none none (s0,w0++[i]))=ok (.nxt,rE rows cls none none none ((qw rows cls i r).foldl dl (s0,w0))):=by
 unfold qw;rw[List.foldl_append];refine ax Bz (ax (gL (bj rfl (GC hr ho hg)) rfl ?_ (Ai _ _ h)) (ax (gL rfl rfl (by rw[af];exact hl) (AJ _ (by rw[nX];exact h))) rfl));rw[af];exact aa (iS _ _) (aa (bo (kC _ _ _) ho.short) (ae rfl))
theorem zB{p m:List Nat}{x:Nat}(hr:rows[i]? =some r)(ho:r.Ok)(e:r.gs=p++x::m)(hp:∀g∈p,g<rows.length)(hx:¬x<rows.length){s0:List Bool}{w0:List Nat}:bJ (callF tab (d+3)) [] dW.tl.tl.tl.hd.bd (rE rows cls none none none (s0,w0++[i]))=exc:=
 bq Bz (iC (HW (callX rfl (Id hr ho e hp hx))))
structure oQ(L:List Nat)(s s':SW):Prop where
 len:s'.1.length=s.1.length
 mono:∀j:Nat,s.1[j]? =some true→s'.1[j]? =some true
 only:∀j:Nat,s'.1[j]? =some true→s.1[j]? =some true∨(j∈s'.2∧j∈L)
 sub:∀j∈s.2,j∈s'.2
 wk:∀j∈s'.2,j∈s.2∨s'.1[j]? =some true
 adds:∀j∈L,j<s.1.length→s'.1[j]? =some true
 un:2*un s'.1+s'.2.length≤2*un s.1+s.2.length
theorem oQ.one(s:SW)(g:Nat):oQ [g] s (dl s g):=by
 unfold dl;split
 ·rename_i h;have ne:∀j:Nat,s.1[j]? =some true→g≠j:=fun j e z=>by rw[←z,h]at e;nomatch e
  refine⟨List.length_set,fun j e=>(dF (ne j e)).trans e,fun j e=>?_,fun j m=>bE _ m,fun j m=>?_,fun j m l=>?_,?_⟩
  ·by_cases z:g=j
   ·exact .inr ⟨aA _ (z▸.head _),z▸.head _⟩
   ·exact .inl ((dF z).symm.trans e)
  ·refine(a9.1 m).imp id fun m=>?_
   rw[aq.1 m];exact dU ((ag.1 h).1)
  ·rw[aq.1 m];exact dU ((ag.1 h).1)
  ·show 2*Mine.un (s.1.set g true)+(s.2++[g]).length≤_;rw[ai,←(tf h),Nat.mul_succ,bO,cv 2];exact aR (d8 _) _
 ·rename_i h;refine⟨rfl,fun Z e=>e,fun Z e=>.inl e,fun Z m=>m,fun Z m=>.inl m,fun j m l=>?_,aM _⟩;cases aq.1 m;rw[bw l]at h ⊢;revert h;cases s.1[g] with
  |true=>exact fun Z=>rfl
  |false=>exact fun h=>absurd rfl h
theorem oQ.all:∀(l:List Nat)(s:SW),oQ l s (l.foldl dl s)
 | [],_=>⟨rfl,fun Z e=>e,fun Z e=>.inl e,fun Z m=>m,fun Z m=>.inl m,(by intro _ h;cases h),aM _⟩
 |g::l,s=>by
  have A:=oQ.one s g;have B:=oQ.all l (dl s g);refine⟨B.len.trans A.len,fun j e=>B.mono j (A.mono j e),fun j e=>?_,fun j m=>B.sub j (A.sub j m),fun j m=>?_,fun j m h=>?_,aa B.un A.un⟩
  ·exact(B.only j e).elim (fun e=>(A.only j e).imp id fun⟨a,b⟩=>⟨B.sub j a,aq.1 b▸.head _⟩) fun⟨a,b⟩=>.inr ⟨a,.tail _ b⟩
  ·exact(B.wk j m).elim (fun m=>(A.wk j m).imp id (B.mono j)) .inr
  ·exact(az.1 m).elim (fun e=>B.mono j (A.adds j (e▸.head _) h)) fun m=>B.adds j m (A.len.symm▸h)
end
section
variable{F:FT}{d n i:Nat}{ρ:Env}
variable{rows:List aU}{cls:List Cl}
noncomputable def f8(rows:List aU)(i:Nat):Prop:=∀r,rows[i]? =some r→∀g∈r.gs,g<rows.length
theorem kN:∀(l a:List Nat)(g:Nat),g∈l.foldl fp a↔g∈a∨g∈l
 | [],_,_=>⟨.inl,fun h=>h.elim id nofun⟩
 |x::l,a,g=>by
  have k:g∈fp a x↔g∈a∨g=x:=by
   by_cases h:x∈a
   ·rw[mP h];exact⟨.inl,fun z=>z.elim id fun e=>e▸h⟩
   ·rw[kW h,a9,aq]
  rw[List.foldl_cons,kN l,k,az,or_assoc]
theorem jS{r:aU}{g:Nat}:g∈qw rows cls i r↔((ends r.op=false∧i+1<rows.length∧g=i+1)∨g∈r.gs)∨∃c∈cls,c.t0≤i∧i<c.t1∧g∈c.hs:=by
 unfold qw iA;rw[a9,kN,List.mem_flatMap];refine or_congr (or_congr ?_ .rfl) (exists_congr fun c=>and_congr .rfl ?_)
 ·unfold ix;cases ends r.op with
  |true=>exact⟨(by intro h;cases h),fun h=>nomatch h.1⟩
  |false=>
   by_cases h:i+1<rows.length
   ·rw[ak h];exact⟨fun m=>⟨rfl,h,aq.1 m⟩,fun m=>aq.2 m.2.2⟩
   ·rw[ao h];exact⟨(by intro h;cases h),fun m=>absurd m.2.1 h⟩
 ·unfold hL;by_cases h:c.t0≤i∧i<c.t1
  ·rw[aB h];exact⟨fun m=>⟨h.1,h.2,m⟩,fun m=>m.2.2⟩
  ·rw[aC h];exact⟨nofun,fun m=>absurd ⟨m.1,m.2.1⟩ h⟩
theorem bf.out{r:aU}{g:Nat}(h:bf rows cls i)(hr:rows[i]? =some r)(m:g∈qw rows cls i r)(hg:g<rows.length):bf rows cls g:=by
 obtain(⟨a,b,rfl⟩|a)|⟨c,a,b,e,f⟩:=jS.1 m
 ·exact .fall h hr a b
 ·exact .go h hr a hg
 ·exact .hand h a b e f hg
structure oU(rows:List aU)(cls:List Cl)(s:SW):Prop where
 len:s.1.length=rows.length
 wt:wt s≤lim
 sound:∀j:Nat,s.1[j]? =some true→bf rows cls j
 work:∀j∈s.2,s.1[j]? =some true
 KO:∀j:Nat,s.1[j]? =some true→j∈s.2∨(f8 rows j∧∀r,rows[j]? =some r→∀g∈qw rows cls j r,g<rows.length→s.1[g]? =some true)
 zero:0<rows.length→s.1[0]? =some true
theorem oU.fin{s:List Bool}(h:oU rows cls (s,[]))(i:Nat):(s[i]? =some true↔bf rows cls i)∧(bf rows cls i→f8 rows i):=by
 have C:∀j:Nat,s[j]? =some true→_:=fun j e=>(h.KO j e).resolve_left (by intro h;cases h)
 have all:∀i,bf rows cls i→s[i]? =some true:=fun i R=>by
  induction R with
  |zero l=>exact h.zero l
  |go R hr m l ih=>exact(C _ ih).2 _ hr _ (jS.2 (.inl (.inr m))) l
  |fall R hr e l ih=>exact(C _ ih).2 _ hr _ (jS.2 (.inl (.inl ⟨e,l,rfl⟩))) l
  |hand R a b e f l ih=>exact(C _ ih).2 _ (bw R.lt) _ (jS.2 (.inr ⟨_,a,b,e,f⟩)) l
 exact⟨⟨h.sound i,all i⟩,fun R=>(C i (all i R)).1⟩
theorem oU.step{s0:List Bool}{w0:List Nat}{r:aU}(h:oU rows cls (s0,w0++[i]))(hr:rows[i]? =some r)(hf:f8 rows i):oU rows cls ((qw rows cls i r).foldl dl (s0,w0)):=by
 have G:=oQ.all (qw rows cls i r) (s0,w0);refine⟨G.len.trans h.len,?_,fun j e=>?_,fun j m=>(G.wk j m).elim (fun m=>G.mono j (h.work j (bE _ m))) id,fun j e=>?_,fun l=>G.mono 0 (h.zero l)⟩
 ·rw[nX];refine aa (aR ?_ _) h.wt;show w0.length≤(w0++[i]).length;rw[ai];exact bD _ _
 ·refine(G.only j e).elim (h.sound j) fun m=>(show bf rows cls i from h.sound i (h.work i (aA _ (.head _)))).out hr m.2 ?_
  have:=(ag.1 e).1
  rwa [G.len,h.len]at this
 ·refine(G.only j e).elim (fun e=>(h.KO j e).elim (fun m=>?_) fun c=>.inr ⟨c.1,fun r hr g m l=>G.mono g (c.2 r hr g m l)⟩) fun m=>.inl m.1;refine(a9.1 m).elim (fun m=>.inl (G.sub j m)) fun m=>.inr ?_
  obtain rfl:=aq.1 m;refine⟨hf,fun r' hr' g m l=>G.adds g ?_ (h.len.symm▸l)⟩;obtain rfl:=ah (hr.symm.trans hr');exact m
open Classical in
noncomputable def RF(rows:List aU)(cls:List Cl):List Bool:=(List.range rows.length).map fun i=>decide (bf rows cls i)
theorem fM:(RF rows cls).length=rows.length:=by unfold RF;rw[af,aO]
open Classical in
theorem fY(i:Nat):(RF rows cls)[i]? =some true↔bf rows cls i:=by
 unfold RF;rw[aV];constructor
 ·intro h;cases e:(List.range rows.length)[i]? with
  |none=>rw[e]at h;nomatch h
  |some j=>
   rw[e]at h;obtain⟨_,rfl⟩:=ag.1 e;rw[List.getElem_range]at h;exact aT (ah h)
 ·intro h;rw[List.getElem?_range h.lt];exact aj some (ak h)
theorem Af{S U:List Bool}(hl:S.length=U.length)(h:∀i:Nat,S[i]? =some true↔U[i]? =some true):S=U:=
 List.ext_getElem hl fun i a b=>by
  have:=h i;rw[bw a,bw b]at this;revert this;cases S[i] with
  |true=>cases U[i] with
   |true=>exact fun Z=>rfl
   |false=>exact fun g=>nomatch g.1 rfl
  |false=>cases U[i] with
   |true=>exact fun g=>nomatch g.2 rfl
   |false=>exact fun Z=>rfl
theorem uc:∀n,un (List.replicate n false)=n
 |0=>rfl
 |n+1=>by rw[List.replicate_succ];show 1+un _=_;rw[uc n,cv]
theorem EP(hn:rows.length≤1000):oU rows cls (dl (List.replicate rows.length false,[]) 0):=by
 have none:∀j:Nat,(List.replicate rows.length false)[j]? ≠some true:=fun j e=>by
  rw[List.getElem?_replicate]at e;split at e<;>exact nomatch e
 have G:=oQ.one (List.replicate rows.length false,[]) 0;have k:∀j:Nat,(dl (List.replicate rows.length false,[]) 0).1[j]? =some true→j∈(dl (List.replicate rows.length false,[]) 0).2∧j∈[0]:=fun j e=>(G.only j e).resolve_left (none j);refine⟨G.len.trans b9,?_,fun j e=>?_,fun j m=>(G.wk j m).resolve_left nofun,fun j e=>.inl (k j e).1,fun l=>G.adds 0 (.head _) (b9.symm▸l)⟩
 ·rw[tS];show un _+0≤_;rw[uc];exact aa hn (by decide)
 ·cases aq.1 (k j e).2;have:=(ag.1 e).1;rw[G.len]at this;exact .zero (Nat.lt_of_lt_of_eq this b9)
theorem pR{w:List Nat}{k:Nat}(h:qZ (plain ρ) k=ok (cW w)):bc (aY F (.u (.h .gt (.un .len (.c k)) (.f (.int 0)))) ρ) da=ok !w.isEmpty:=
 bq (dM (v:=.bool !w.isEmpty) (aD (d7 h (a7 nv w)) rfl (aj (fun b=>ok (V.bool b)) (by cases w with
  |nil=>rfl
  |cons a l=>exact ak (Int.natCast_pos.2 (a8 _))))) rfl) rfl
noncomputable abbrev Br:CS:=dW.tl.tl.tl.hd.bd
noncomputable def rX(rows:List aU)(cls:List Cl):Prop:=∃i,bf rows cls i∧¬f8 rows i
theorem CH(ho:∀r∈rows,r.Ok)(hl:cls.length≤lim)(s:SW):oU rows cls s→(!s.2.isEmpty)=true→Wk (rE rows cls none none none) (oU rows cls) (fun s=>2*un s.1+s.2.length) (fun Z=>False) (rX rows cls) s (bJ (callF tab (d+3)) [] Br (rE rows cls none none none s)):=by
 obtain⟨s,w⟩:=s;refine yr (P:=fun w=>oU rows cls (s,w)→(!w.isEmpty)=true→Wk (rE rows cls none none none) (oU rows cls) (fun s=>2*un s.1+s.2.length) (fun Z=>False) (rX rows cls) (s,w) (bJ (callF tab (d+3)) [] Br (rE rows cls none none none (s,w)))) (fun Z e=>nomatch e) (fun w0 i I Z=>?_) w;have hi:bf rows cls i:=I.sound i (I.work i (aA _ (.head _)));obtain⟨r,hr⟩:∃r,rows[i]? =some r:=⟨_,bw hi.lt⟩;have hw:w0.length≤(w0++[i]).length:=by rw[ai];exact bD _ _
 rcases jR (·<rows.length) r.gs with hg|⟨p,x,q,e,hp,hx⟩
 ·rw[BH hr (ho _ (ay hr)) hg hl (aa (aR hw _) I.wt)];refine .nxt (I.step hr fun r e=>by cases hr.symm.trans e;exact hg) (aF (oQ.all _ (s,w0)).un ?_);show _+w0.length<_+(w0++[i]).length;rw[ai];exact a4 _
 ·rw[zB hr (ho _ (ay hr)) e hp hx];exact .exc ⟨i,hi,fun z=>hx (z _ hr x (e▸aA _ (.head _)))⟩
theorem c18(ho:∀r∈rows,r.Ok)(hl:cls.length≤lim)(hn:rows.length≤1000):(callF tab (d+4) 18 [aL rows,bF cls]=ok (bv (RF rows cls),[])∧∀i,bf rows cls i→f8 rows i)∨(callF tab (d+4) 18 [aL rows,bF cls]=exc∧∃i,bf rows cls i∧¬f8 rows i):=by
 have h0:bJ (callF tab (d+3)) [] dW.tl.tl.hd (rE rows cls none none none (List.replicate rows.length false,[]))=ok (.nxt,rE rows cls none none none (dl (List.replicate rows.length false,[]) 0)):=
  wG rfl (GL (List.replicate rows.length false,[]) 0 (aQ _)) rfl rfl
 have pre {z} (k:bJ (callF tab (d+3)) [] dW.tl.tl.tl (rE rows cls none none none (dl (List.replicate rows.length false,[]) 0))=z):bJ (callF tab (d+3)) [] dW (gp ⟨2,7,[],true,dW⟩ [aL rows,bF cls])=z:=by
  refine ax (eG nofun (aD rfl (d7 rfl (a7 _ _)) (qq (aa hn (by decide))))) (ax (eG nofun rfl) (ax ?_ k));rw[←h0,←List.map_replicate (f:=V.bool)];rfl
 have W:=lA (test:=fun ρ=>bc (aY (callF tab (d+3)) (.u (.h .gt (.un .len (.c 3)) (.f (.int 0)))) ρ) da) (fun s Z=>pR (w:=s.2) rfl) (CH (d:=d) ho hl) lim _ (EP (cls:=cls) hn) (aF (oQ.one (List.replicate rows.length false,[]) 0).un (by show 2*un _+0<_;rw[uc];exact aF (bW 2 hn) (by decide)));generalize hz:gS _ _ _ _=z at W;cases W with
 | @nxt s I e=>
  obtain⟨S,w⟩:=s;cases w with
  |cons _ _=>exact nomatch e
  |nil=>
   have e:S=RF rows cls:=Af (I.len.trans fM.symm) fun i=>(I.fin i).1.trans (fY i).symm;subst e;exact .inl ⟨fR rfl rfl rfl (pre (ax hz (bq (a:=(RF rows cls).map V.bool) rfl rfl))),fun i=>(I.fin i).2⟩
 |ret g=>exact g.elim
 |exc g=>exact .inr ⟨rN rfl rfl (pre (iC hz)),g⟩
variable{α β:Type}
noncomputable def pl(k:List Bool):Nat→Nat
 |0=>0
 |i+1=>pl k i+cond (k[i]?.getD false) 1 0
theorem u6{k:List Bool}{i:Nat}{b:Bool}(h:k[i]? =some b):pl k (i+1)=pl k i+cond b 1 0:=by
 show _+cond (k[i]?.getD false) 1 0=_;rw[h];rfl
noncomputable def PL(k:List Bool):List Nat:=(List.range (k.length+1)).map (pl k)
theorem Cw{k:List Bool}(h:i≤k.length):(PL k)[i]? =some (pl k i):=by
 unfold PL;rw[aV,List.getElem?_range (Nat.lt_succ_of_le h)];rfl
theorem jf{p m:List α}{x:α}:(p++x::m)[p.length]? =some x:=by
 rw[b8 (aM _),Nat.sub_self];rfl
theorem IJ{k:List Bool}(h:k.length≤1000):callF tab (d+1) 19 [bv k]=ok (cW (PL k),[]):=by
 have hl:k.length≤lim:=aa h (by decide);have L:∀n,n≤lim→(((List.range n).map (pl k)).map nv).length≤lim:=fun n h=>by rw[af,af,aO];exact h
 have S:∀n,(((List.range n).map (pl k)).map nv++[nv (pl k n)])=((List.range (n+1)).map (pl k)).map nv:=fun n=>by rw[List.range_succ,aw,aw];rfl
 refine fR rfl rfl rfl (ρ1:=[some (false,bv k),some (false,cW (PL k)),some (false,nv (pl k k.length)),none]) (ax (eG nofun rfl) (ax (bX rfl) (ax (gL rfl rfl (by rw[af];exact hl) (cR (fun p:List Bool=>[some (false,bv k),some (true,cW ((List.range p.length).map (pl k))),some (false,nv (pl k p.length)),none]) fun p x m e=>?_)) ?_)))
 ·have hx:k[p.length]? =some x:=e▸jf;refine ax (fj rfl rfl (L _ (show p.length≤lim from aa (e▸eJ) hl))) (ax (ρ1:=[some (false,bv k),some (true,cW ((List.range (p.length+1)).map (pl k))),some (false,nv (pl k (p.length+1))),some (false,.bool x)]) ?_ ?_)
  ·rw[S,u6 hx];cases x<;>rfl
  ·rw[ai];rfl
 ·refine ax (fj rfl rfl (L _ hl)) ?_
  rw[S];exact ax (iP nofun rfl) (cX rfl)
noncomputable def Cl.map(f:Nat→Nat)(c:Cl):Cl:=⟨c.s,f c.t0,f c.t1,f c.h0,f c.h1,if c.s=1 then f c.x else c.x⟩
theorem kq{e1 e2:CE}{k:List Bool}{g:Nat}(h1:aY F e1 ρ=ok (cW (PL k)))(h2:aY F e2 ρ=ok (nv g))(h:g≤k.length):aY F (.h .item e1 e2) ρ=ok (nv (pl k g)):=aD h1 h2 (aW (Cw h))
theorem Jj{k:List Bool}{c:Cl}(h:c.In k.length):callF tab (d+1) 21 [c.v,cW (PL k)]=ok ((c.map (pl k)).v,[]):=by
 have e:∀x,aY (callF tab d) (.Js (.cons (.h .item (.c 0) (.f (.int 0))) (.cons (.h .item (.c 1) (.h .item (.c 0) (.f (.int 1)))) (.cons (.h .item (.c 1) (.h .item (.c 0) (.f (.int 2)))) (.cons (.h .item (.c 1) (.h .item (.c 0) (.f (.int 3)))) (.cons (.h .item (.c 1) (.h .item (.c 0) (.f (.int 4)))) (.cons (.c 2) .nil))))))) [some (false,c.v),some (false,cW (PL k)),some (false,nv x)]=ok (.Js [nv c.s,nv (pl k c.t0),nv (pl k c.t1),nv (pl k c.h0),nv (pl k c.h1),nv x]):=fun x=>
  gT (a6 rfl (a6 (kq rfl rfl (aE h.1)) (a6 (kq rfl rfl h.2.2.2.1) (a6 (kq rfl rfl (aE h.2.1)) (a6 (kq rfl rfl h.2.2.2.2) rfl)))))
 unfold Cl.map;by_cases s:c.s=1
 ·rw[aB s];exact fR rfl rfl rfl (ax (bX rfl) (ax (eK rfl rfl (ak (aj Int.ofNat s)) (bX (kq rfl rfl (aE (h.2.2.1 s))))) (cX (e _))))
 ·rw[aC s];exact fR rfl rfl rfl (ax (bX rfl) (ax (cU rfl rfl (ao fun e=>s (aX e)) rfl) (cX (e _))))
theorem ux{op:Int}(h:op∈iL):decide (op=69)=false∧oG op=true:=(by decide+kernel:∀op∈iL,decide (op=69)=false∧oG op=true) op h
theorem v0{op:Int}(h:op∈fH):decide (op=69)=false∧oG op=false:=(by decide+kernel:∀op∈fH,decide (op=69)=false∧oG op=false) op h
theorem Jd{k:List Bool}:∀{r:aU},r.Ok→(∀g∈r.gs,g≤k.length)→callF tab (d+2) 20 [r.v,cW (PL k)]=ok ((r.map (pl k)).v,[])
 |⟨op,.go g⟩,h,hg=>fR rfl rfl rfl (ax (cU rfl rfl (ux h).1 rfl) (ia (eK (bj rfl (c2 (p9 h))) rfl (ux h).2 (cX (gT (a6 rfl (a6 (kq rfl rfl (hg g (.head _))) rfl)))))))
 |⟨op,.num j⟩,h,_=>fR rfl rfl rfl (ax (cU rfl rfl (v0 h).1 rfl) (ax (cU (bj rfl (c2 (qQ h))) rfl (v0 h).2 rfl) (cX rfl)))
 |⟨op,.me k⟩,h,_=>by obtain⟨rfl | rfl,_⟩:_∧_:=h<;>rfl
 |⟨op,.sw gs⟩,h,hg=>by
  obtain rfl:=(show op=69 from h.1);have hl:gs.length≤lim:=aa h.2 (by decide);refine fR rfl rfl rfl (ia (gu rfl rfl (ax (eG (by intro h;cases h) rfl) (ax (gL rfl rfl (by rw[af];exact hl) (cR (fun p:List Nat=>[some (false,.Js [.int 69,.Js (gs.map nv)]),some (false,cW (PL k)),some (true,cW (p.map (pl k))),none]) fun p x m e=>?_)) (cX (dM (gT (a6 rfl (a6 (d7 rfl (cY ?_ rfl)) rfl))) ?_))))))
  ·refine ax (fj rfl (kq rfl rfl (hg x (show x∈gs from e▸aA _ (.head _)))) ?_) ?_
   ·rw[af,af];exact aa (e▸eJ) hl
   ·rw[aw];show ok (_,[_,_,some (true,V.Jq (_++[_])),_])=ok (_,[_,_,some (true,V.Jq (List.map nv (_++[_]))),_]);rw[aw];rfl
  ·rw[af,af];exact hl
  ·show(List.all _ (gB _)&&true)=true;rw[Bool.and_true];exact all_map (fun Z=>rfl) _
noncomputable def iM(k:List Bool)(rows:List aU)(i:Nat):Option aU:=if k[i]? =some true then rows[i]? else none
noncomputable def cq(k:List Bool)(rows:List aU):List aU:=((List.range rows.length).filterMap (iM k rows)).map (aU.map (pl k))
theorem IH{k:List Bool}(hn:rows.length≤1000)(hk:k.length=rows.length)(ho:∀r∈rows,r.Ok)(hg:∀r∈rows,∀g∈r.gs,g≤rows.length)(hc:∀c∈cls,c.In rows.length)(hl:cls.length≤lim):
  callF tab (d+3) 22 [aL rows,bF cls,bv k]=ok (.Js [aL (cq k rows),bF (cls.map (Cl.map (pl k))),cW (PL k)],[]):=by
 refine fR rfl rfl rfl (ρ1:=[some (false,aL rows),some (false,bF cls),some (false,bv k),some (false,cW (PL k)),some (false,aL (cq k rows)),none,some (false,bF (cls.map (Cl.map (pl k)))),none])
  (ax (bX (bj rfl (IJ (hk▸hn)))) (ax (eG (by intro h;cases h) rfl) (ax (i4 (d7 rfl (a7 _ _)) (show rows.length≤lim from aa hn (by decide)) (cR (fun p:List Nat=>[some (false,aL rows),some (false,bF cls),some (false,bv k),some (false,cW (PL k)),some (true,aL ((p.filterMap (iM k rows)).map (aU.map (pl k)))),none,none,none]) fun p x m e=>?_))
  (ax (eG (by intro h;cases h) rfl) (ax (gL rfl rfl (by rw[af];exact hl) (cR (fun p:List Cl=>[some (false,aL rows),some (false,bF cls),some (false,bv k),some (false,cW (PL k)),some (true,aL (cq k rows)),none,some (true,bF (p.map (Cl.map (pl k)))),none]) fun p x m e=>?_)) rfl)))))
 ·have hx:=gF e;obtain⟨b,hb⟩:∃b,k[x]? =some b:=⟨_,bw (hk▸hx)⟩;obtain⟨r,hr⟩:∃r,rows[x]? =some r:=⟨_,bw hx⟩;refine ax (ρ1:=[some (false,aL rows),some (false,bF cls),some (false,bv k),some (false,cW (PL k)),some (true,aL (((p++[x]).filterMap (iM k rows)).map (aU.map (pl k)))),some (false,nv x),none,none]) (kn (aD rfl rfl (aW hb)) rfl ?_) rfl;rw[List.filterMap_append];cases b with
  |true=>
   rw[show [x].filterMap (iM k rows)=[r] by rw[List.filterMap_cons];unfold iM;rw[aB hb,hr];rfl,aw];show bJ _ [] (.app 4 _) _=ok (_,[_,_,_,_,some (true,V.Jq (List.map _ (_++[_]))),_,_,_]);rw[aw];refine fj (io:=[]) rfl (bj (a6 (aD rfl rfl (aW hr)) rfl) (Jd (ho r (ay hr)) (hk▸hg r (ay hr)))) ?_
   rw[af,af];exact aa (List.length_filterMap_le _ _) (aa (eJ (x:=x) (m:=m)) (e▸aO▸(show rows.length≤lim from aa hn (by decide))))
  |false=>
   rw[show [x].filterMap (iM k rows)=[] by rw[List.filterMap_cons];unfold iM;rw[aC (by rw[hb];nofun)];rfl,aK];rfl
 ·refine ax (fj rfl (bj rfl (Jj (k:=k) (hk▸hc x (e▸aA _ (.head _))))) ?_) ?_
  ·rw[af,af];exact aa (e▸eJ) hl
  ·rw[aw];show ok (_,[_,_,_,_,_,_,some (true,V.Jq (_++[_])),_])=ok (_,[_,_,_,_,_,_,some (true,V.Jq (List.map _ (_++[_]))),_]);rw[aw];rfl
noncomputable def jg(k:List Bool)(c:Cl):Prop:=∃i,c.t0≤i∧i<c.t1∧k[i]? =some true
theorem Fk(a b:Nat):jB (.rng a b)=some ((List.range (b - a)).map fun j=>nv (a+j)):=by
 show some ((List.range ((b:Int) - a).toNat).map _)=_;rw[Int.toNat_sub];rfl
theorem nh{enc:β→V}{step:V→Env→R (Flow×Env)}{p:β→Bool}{v:V}{ρ:Env}:∀{l:List β},(∀x∈l,cond (p x) (∃ρ',step (enc x) ρ=ok (.ret v,ρ')) (step (enc x) ρ=ok (.nxt,ρ)))→cond (l.any p) (∃ρ',fT step (l.map enc) ρ=ok (.ret v,ρ')) (fT step (l.map enc) ρ=ok (.nxt,ρ))
 | [],_=>rfl
 |x::l,h=>by
  have hx:=h x (.head _);show cond (p x||l.any p) _ _;revert hx;cases p x with
  |true=>exact by rintro⟨ρ',e⟩;exact⟨ρ',bq e rfl⟩
  |false=>
   intro e;have:=nh (l:=l) fun y m=>h y (.tail _ m);have u:fT step ((x::l).map enc) ρ=fT step (l.map enc) ρ:=bq e rfl;rw[u];exact this
theorem ss{b:Bool}{r:R (Flow×Env)}(h:cond b (∃ρ',r=ok (.ret (.bool true),ρ')) (r=ok (.nxt,ρ))){io:List Nat}{s:CS}(hs:bJ F io s ρ=r):∃ρ',bJ F io (.seq s (.ret (.f (.bool false)))) ρ=ok (.ret (.bool b),ρ'):=by
 cases b with
 |true=>obtain⟨ρ',e⟩:=h;exact⟨ρ',ia (hs.trans e)⟩
 |false=>exact⟨ρ,ax (hs.trans h) (cX rfl)⟩
open Classical in
theorem IM{k:List Bool}{c:Cl}(h:c.In k.length)(hk:k.length≤1000):callF tab (d+1) 23 [c.v,bv k]=ok (.bool (decide (jg k c)),[]):=by
 have hl:k.length≤lim:=aa hk (by decide);have L:∀x∈List.range (c.t1 - c.t0),∃b,k[c.t0+x]? =some b:=fun x m=>⟨_,bw (aS (Nat.add_lt_of_lt_sub' (bP.1 m)) h.2.2.2.1)⟩
 have A:=nh (enc:=fun j=>nv (c.t0+j)) (p:=fun x=>k[c.t0+x]?.getD false) (v:=.bool true) (ρ:=[some (false,c.v),some (false,bv k),none]) (step:=fun v ρ=>bc (ft (cS (.v 2) v ρ)) (bJ (callF tab d) [] jF.hd.bd)) (l:=List.range (c.t1 - c.t0)) fun x m=>by
  obtain⟨b,hb⟩:=L x m;rw[hb];cases b with
  |true=>exact⟨_,ia (gu (aD rfl rfl (aW (hb))) rfl (cX rfl))⟩
  |false=>exact ax (eH (aD rfl rfl (aW (hb))) rfl rfl) rfl
 have e:(List.range (c.t1 - c.t0)).any (fun x=>k[c.t0+x]?.getD false)=decide (jg k c):=by
  rw[Bool.eq_iff_iff,dr,bU];constructor
  ·rintro⟨x,m,e⟩;obtain⟨b,hb⟩:=L x m;rw[hb]at e;exact⟨c.t0+x,bD _ _,Nat.add_lt_of_lt_sub' (bP.1 m),hb.trans (aj some e)⟩
  ·rintro⟨i,a,b,e⟩;refine⟨i - c.t0,bP.2 (Nat.sub_lt_sub_right a b),?_⟩;rw[Nat.add_sub_cancel' a,e];rfl
 rw[e]at A;have hr:eP .J5 (nv c.t0) (nv c.t1)=ok (.rng c.t0 c.t1):=cY ⟨aa (aE h.1) hl,aa h.2.2.2.1 hl⟩ rfl;have hq:aY (callF tab d) (.h .J5 (.h .item (.c 0) (.f (.int 1))) (.h .item (.c 0) (.f (.int 2)))) [some (false,c.v),some (false,bv k),none]=ok (.rng c.t0 c.t1):=aD rfl rfl hr;obtain⟨ρ',q⟩:=ss A (gL hq (Fk _ _) (by rw[af,aO];exact aa (Nat.sub_le _ _) (aa h.2.2.2.1 hl)) rfl);exact fR rfl rfl rfl q
theorem jw{enc enc':β→V}{p:β→Bool}{f:V→R (Option V)}:∀{l:List β},(∀x∈l,f (enc x)=ok (cond (p x) (some (enc' x)) none))→o8 f (l.map enc)=ok ((l.filter p).map enc')
 | [],_=>rfl
 |x::l,h=>bq (h x (.head _)) (bq (jw fun y m=>h y (.tail _ m)) (by rw[List.filter_cons];cases p x<;>rfl))
theorem jc{enc enc':β→V}{elt it c:CE}{v:V}{l:List β}(p:β→Bool)(h:aY F it ρ=ok v)(hs:jB v=some (l.map enc))(hl:l.length≤lim)(hc:∀x∈l,∃w,aY F c (ρ.set i (some (false,enc x)))=ok w∧tr w=some (p x))(he:∀x∈l,p x=true→aY F elt (ρ.set i (some (false,enc x)))=ok (enc' x)):
  aY F (.Jz elt i it c) ρ=ok (.Jq ((l.filter p).map enc')):=by
 refine bq h (bq (a:=l.map enc) (by show ft (jB v)=_;rw[hs];rfl) (cY (by rw[af];exact hl) (bq (a:=(l.filter p).map enc') (aj qd (jw fun x m=>?_)) rfl)));obtain⟨w,e,t⟩:=hc x m;refine bq e (tq t ?_);revert t;cases hp:p x with
 |true=>exact fun Z=>aj (fun r=>bc r fun u=>ok (some u)) (he x m hp)
 |false=>exact fun Z=>rfl
theorem rg{enc enc':β→V}{elt it:CE}{v:V}{l:List β}(h:aY F it ρ=ok v)(hs:jB v=some (l.map enc))(hl:l.length≤lim)(he:∀x∈l,aY F elt (ρ.set i (some (false,enc x)))=ok (enc' x)):
  aY F (.comp elt i it) ρ=ok (.Jq (l.map enc')):=by
 refine bq h (bq (a:=l.map enc) (by show ft (jB v)=_;rw[hs];rfl) (cY (by rw[af];exact hl) (bq (a:=l.map enc') (show qd _=qd (ok (l.map enc'))from aj qd ?_) rfl)));have:=jw (enc:=enc) (enc':=enc') (p:=fun Z=>true) (f:=fun v=>bc (aY F elt (ρ.set i (some (false,v)))) fun u=>ok (some u)) (l:=l) fun x m=>aj (fun r=>bc r fun u=>ok (some u)) (he x m)
 rwa [List.filter_eq_self.2 fun Z Z=>rfl]at this
noncomputable def dZ(cls:List Cl):List Cl:=cls.filter fun c=>decide (c.h0<c.h1)
open Classical in
noncomputable def Ab(k:List Bool)(cls:List Cl):List Cl:=cls.filter fun c=>decide (jg k c)
noncomputable def kf(rows:List aU)(c:Cl):Bool:=decide (c.s=1)&&(decide (0<c.h0)&&match rows[c.h0 - 1]? with
 |some r=>decide (r.op=65041)
 |none=>false)
noncomputable def lB(rows:List aU)(k:List Bool)(c:Cl):List Bool:=cond (kf rows c) (k.set (c.h0 - 1) true) k
noncomputable def dL(rows:List aU)(cls:List Cl):List Cl:=Ab (RF rows (dZ cls)) (dZ cls)
noncomputable def dK(rows:List aU)(cls:List Cl):List Bool:=(dL rows cls).foldl (lB rows) (RF rows (dZ cls))
theorem rq{k:List Bool}{c:Cl}:(lB rows k c).length=k.length:=by unfold lB;cases kf rows c<;>first | rfl | exact List.length_set
theorem lr:∀{l:List Cl}{k:List Bool},(l.foldl (lB rows) k).length=k.length
 | [],_=>rfl
 |_::l,_=>(lr (l:=l)).trans rq
theorem nM:(dK rows cls).length=rows.length:=lr.trans fM
theorem eM{c:Cl}(h:c∈dZ cls):c∈cls∧c.h0<c.h1:=(bR.1 h).imp id aT
open Classical in
theorem tP{c:Cl}(h:c∈dL rows cls):c∈dZ cls∧jg (RF rows (dZ cls)) c:=(bR.1 h).imp id aT
noncomputable def dE(rows:List aU)(cls:List Cl)(x2 x3 x4 x5:Option (Bool×V)):Env:=[some (false,aL rows),some (false,bF cls),x2,x3,x4,x5]
theorem Cr{k:List Bool}{c:Cl}(hk:k.length=rows.length)(hc:c.In rows.length){x1 x2 x5:Option (Bool×V)}:bJ F [] gG.tl.tl.tl.tl.tl.tl.hd.bd [some (false,aL rows),x1,x2,some (false,c.v),some (true,bv k),x5]=ok (.nxt,[some (false,aL rows),x1,x2,none,some (true,bv (lB rows k c)),x5]):=by
 refine ax (ρ1:=[some (false,aL rows),x1,x2,some (false,c.v),some (true,bv (lB rows k c)),x5]) ?_ rfl
 unfold lB kf;by_cases hs:c.s=1
 ·rw[ak hs];have e1:decide ((c.s:Int)=1)=true:=ak (aj Int.ofNat hs);cases h0:c.h0 with
  |zero=>exact cU (v:=.bool false) (gI rfl rfl e1 (jW rfl rfl (by rw[h0];rfl)|>.trans (by rw[h0];rfl))) rfl rfl rfl
  |succ j=>
   have hj:j<rows.length:=by have:=hc.2.1;rw[h0]at this;exact Nat.lt_of_succ_lt this
   obtain⟨r,hr⟩:∃r,rows[j]? =some r:=⟨_,bw hj⟩
   have hsub:aY F (.h .sub (.h .item (.c 3) (.f (.int 3))) (.f (.int 1))) [some (false,aL rows),x1,x2,some (false,c.v),some (true,bv k),x5]=ok (nv j):=by
    refine(rfl:_=ok (V.int ((c.h0:Int) - 1))).trans ?_
    rw[h0];exact aj (fun k=>ok (V.int k)) (Int.add_sub_cancel (j:Int) 1)
   have hc0:aY F (.y (.h .eq (.h .item (.c 3) (.f (.int 0))) (.f (.int 1))) (.y (.h .gt (.h .item (.c 3) (.f (.int 3))) (.f (.int 0))) (.h .eq (.h .item (.h .item (.c 0) (.h .sub (.h .item (.c 3) (.f (.int 3))) (.f (.int 1)))) (.f (.int 0))) (.f (.int 65041))))) [some (false,aL rows),x1,x2,some (false,c.v),some (true,bv k),x5]=ok (.bool (decide (r.op=65041))):=
    gI rfl rfl e1 (gI rfl rfl (ak (Int.natCast_pos.2 (h0▸a8 j))) (aD (aD (aD rfl hsub (aW hr)) rfl rfl) rfl rfl))
   refine kn hc0 rfl ?_
   show cond _ _ _=ok (_,[_,_,_,_,some (true,bv (cond (true&&(decide (0<j+1)&&match rows[j]? with
    |some r=>decide (r.op=65041)
    |none=>false)) (k.set j true) k)),_])
   rw[hr,ak (a8 j)];show cond (decide (r.op=65041)) _ _=ok (_,[_,_,_,_,some (true,bv (cond (decide (r.op=65041)) (k.set j true) k)),_]);cases decide (r.op=65041) with
   |false=>rfl
   |true=>
    refine(yj (io:=[]) (v:=.bool true) (l:=k.map V.bool) (j:=j) rfl rfl hsub ?_).trans ?_
    ·rw[af];exact(aB (bL j)).trans (aB (hk▸hj))
    ·show ok (_,[_,_,_,_,some (true,V.Jq ((k.map V.bool).set j (.bool true))),_])=ok (_,[_,_,_,_,some (true,V.Jq ((k.set j true).map V.bool)),_]);rw[List.map_set]
 ·rw[ao hs];exact cU (jW rfl rfl (ao fun e=>hs (aX e))) rfl (ao fun e=>hs (aX e)) rfl
end
section
variable{α β:Type}{F:FT}{d n i:Nat}{ρ:Env}{rows:List aU}{cls:List Cl}
structure Wf(rows:List aU)(cls:List Cl):Prop where
 ok:∀r∈rows,r.Ok
 goals:∀r∈rows,∀g∈r.gs,g≤rows.length
 cin:∀c∈cls,c.In rows.length
 few:cls.length≤100
 len:rows.length≤1000
theorem Wf.few'(h:Wf rows cls):cls.length≤lim:=aa h.few (ae rfl)
theorem oj{it:CE}{s:Nat}(h:aY F it ρ=ok (bF cls))(hl:cls.length≤lim)(hs:∀v,qZ (ρ.set s (some (false,v))) s=ok v):aY F (.Jz (.c s) s it (.h .lt (.h .item (.c s) (.f (.int 3))) (.h .item (.c s) (.f (.int 4))))) ρ=ok (bF (dZ cls)):=
 jc (enc:=Cl.v) (enc':=Cl.v) (fun c=>decide (c.h0<c.h1)) h rfl hl (fun c Z=>⟨_,aD (aD (hs _) rfl rfl) (aD (hs _) rfl rfl) (aj (fun b=>ok (V.bool b)) (oZ c.h0 c.h1)),rfl⟩) fun Z Z Z=>hs _
open Classical in
theorem c24(W:Wf rows cls):(callF tab (d+5) 24 [aL rows,bF cls]=ok (.Js [aL (cq (dK rows cls) rows),bF ((dL rows cls).map (Cl.map (pl (dK rows cls)))),cW (PL (dK rows cls))],[])∧∀i,bf rows (dZ cls) i→f8 rows i)∨
  (callF tab (d+5) 24 [aL rows,bF cls]=exc∧∃i,bf rows (dZ cls) i∧¬f8 rows i):=by
 have hl:=W.few';have hhl:(dZ cls).length≤lim:=aa (bH _ _) hl
 have pre {z} (k:bJ (callF tab (d+4)) [] gG.tl.tl (dE rows cls (some (false,bF (dZ cls))) none none none)=z):bJ (callF tab (d+4)) [] gG (gp ⟨2,6,[],false,gG⟩ [aL rows,bF cls])=z:=
  ax (wG rfl (Ec W.ok W.cin hl) rfl rfl) (ax (bX (oj rfl hl fun Z=>rfl)) k)
 rcases c18 (d:=d) (rows:=rows) (cls:=dZ cls) W.ok hhl W.len with⟨e,f⟩|⟨e,x⟩
 ·refine .inl ⟨fR rfl rfl rfl (ρ1:=dE rows cls (some (false,bF (dZ cls))) none (some (false,bv (dK rows cls))) (some (false,bF (dL rows cls)))) (pre (ax (eG nofun (bj rfl e)) (ax (eG nofun rfl) (ax (ρ1:=dE rows cls (some (false,bF (dZ cls))) none (some (true,bv (RF rows (dZ cls)))) (some (true,bF (dL rows cls))))
   (gL rfl rfl (by rw[af];exact hhl) ?_) (ax (iP nofun rfl) (ax (gL rfl rfl (by rw[af];exact(show(dL rows cls).length≤lim from aa (bH _ _) hhl))
    (cR (fun p:List Cl=>dE rows cls (some (false,bF (dZ cls))) none (some (true,bv (p.foldl (lB rows) (RF rows (dZ cls))))) (some (false,bF (dL rows cls)))) fun p c m e=>?_)) (ax (iP nofun rfl) (cX (bj (o:=[]) rfl ?_))))))))),f⟩
  ·refine cR (fun p:List Cl=>dE rows cls (some (false,bF (dZ cls))) none (some (true,bv (RF rows (dZ cls)))) (some (true,bF (Ab (RF rows (dZ cls)) p)))) fun p c m e=>?_
   refine ax (ρ1:=dE rows cls (some (false,bF (dZ cls))) (some (false,c.v)) (some (true,bv (RF rows (dZ cls)))) (some (true,bF (Ab (RF rows (dZ cls)) (p++[c]))))) (kn (dM (bj rfl (IM (show c.In (RF rows (dZ cls)).length from fM.symm▸W.cin c (eM (e▸aA _ (.head _))).1) (fM.symm▸W.len))) rfl) rfl ?_) rfl;unfold Ab;rw[List.filter_append,List.filter_cons,List.filter_nil];cases decide (jg (RF rows (dZ cls)) c) with
   |false=>show ok _=ok (_,dE _ _ _ _ _ (some (true,bF (_++[]))));rw[aK];rfl
   |true=>
    refine(fj (io:=[]) (l:=(Ab (RF rows (dZ cls)) p).map Cl.v) rfl rfl ?_).trans ?_
    ·rw[af];exact aa (bH _ _) (aa (by rw[e];exact eJ) hhl)
    ·show ok (_,[_,_,_,_,_,some (true,V.Jq (_++[_]))])=ok (_,[_,_,_,_,_,some (true,V.Jq (List.map Cl.v (_++[_])))]);rw[aw];rfl
  ·rw[vf];exact Cr (lr.trans fM) (W.cin c (eM (tP (e▸aA _ (.head _):c∈dL rows cls)).1).1)
  ·exact IH W.len nM W.ok W.goals (fun c m=>W.cin c (eM (tP m).1).1) (show(dL rows cls).length≤lim from aa (bH _ _) hhl)
 ·exact .inr ⟨rN rfl rfl (pre (iC (cY nofun (pq (callX rfl e))))),x⟩
theorem w4{e1 e2 e3:CE}{a b:Nat}(h1:aY F e1 ρ=ok (nv a))(h2:aY F e2 ρ=ok (nv i))(h3:aY F e3 ρ=ok (nv b)):aY F (.y (.h .le e1 e2) (.h .lt e2 e3)) ρ=ok (.bool (decide (a≤i)&&decide (i<b))):=by
 refine su (aD h1 h2 (aj (fun b=>ok (V.bool b)) (bZ.2 bC:_=decide (a≤i)))) rfl ?_
 have:=aD (u:=.lt) h2 h3 (aj (fun b=>ok (V.bool b)) (oZ i b));cases decide (a≤i) with
 |true=>exact this
 |false=>rfl
theorem Ca{e0 e1 e2 e3:CE}{a b s:Nat}(h0:aY F e0 ρ=ok (nv s))(h1:aY F e1 ρ=ok (nv a))(h2:aY F e2 ρ=ok (nv i))(h3:aY F e3 ρ=ok (nv b)):aY F (.y (.h .eq e0 (.f (.int 1))) (.y (.h .le e1 e2) (.h .lt e2 e3))) ρ=ok (.bool (decide (s=1)&&(decide (a≤i)&&decide (i<b)))):=by
 refine su (aD h0 rfl (AZ s 1)) rfl ?_
 have:=w4 h1 h2 h3;cases decide (s=1) with
 |true=>exact this
 |false=>rfl
noncomputable def kp(i j:Nat)(c:Cl):List Nat:=cond (decide (c.t0≤i)&&decide (i<c.t1)) [3*j] []++(cond (decide (c.s=1)&&(decide (c.x≤i)&&decide (i<c.h0))) [3*j+1] []++cond (decide (c.h0≤i)&&decide (i<c.h1)) [3*j+2] [])
noncomputable def zE(cls:List Cl)(i j:Nat):List Nat:=match cls[j]? with
 |some c=>kp i j c
 |none=>[]
noncomputable def key(cls:List Cl)(i:Nat):List Nat:=(List.range cls.length).flatMap (zE cls i)
theorem iW(b:Bool)(x:Nat):(cond b [x] []).length≤1:=by cases b<;>exact ae rfl
theorem zR(j:Nat):(zE cls i j).length≤3:=by
 unfold zE;split
 ·unfold kp;rw[ai,ai];exact bo (iW _ _) (bo (iW _ _) (iW _ _))
 ·exact aQ _
theorem rf{f:Nat→List Nat}(h:∀j,(f j).length≤3):∀l:List Nat,(l.flatMap f).length≤3*l.length
 | []=>aM _
 |a::l=>by rw[List.flatMap_cons,ai,cT,Nat.mul_succ,cv];exact bo (rf h l) (h a)
noncomputable def kE(cls:List Cl)(i:Nat)(x3 x4:Option (Bool×V))(l:List Nat):Env:=[some (false,bF cls),some (false,nv i),some (true,cW l),x3,x4]
theorem t6{c e:CE}{b:Bool}{l:List Nat}{x:Nat}{x3 x4:Option (Bool×V)}(hc:aY F c (kE cls i x3 x4 l)=ok (.bool b))(he:aY F e (kE cls i x3 x4 l)=ok (nv x))(hl:l.length≤lim):bJ F [] (.p c (.app 2 e) .k) (kE cls i x3 x4 l)=ok (.nxt,kE cls i x3 x4 (l++cond b [x] [])):=by
 refine kn hc rfl ?_
 cases b with
 |false=>rw[show l++cond false [x] []=l from aK l];rfl
 |true=>
  refine(fj (io:=[]) (l:=l.map nv) rfl he (by rw[af];exact hl)).trans ?_
  show ok (_,[_,_,some (true,V.Jq (_++[_])),_,_])=ok (_,[_,_,some (true,V.Jq (List.map nv (_++[_]))),_,_]);rw[aw];rfl
theorem HN(hl:cls.length≤100):callF tab (d+1) 25 [bF cls,nv i]=ok (.Js ((key cls i).map nv),[]):=by
 have K:∀p:List Nat,p.length≤100→(p.flatMap (zE cls i)).length≤300:=fun p h=>aa (rf zR p) (bW 3 h);refine fR rfl rfl rfl (ρ1:=kE cls i none none (key cls i)) (ax (eG (by intro h;cases h) rfl) (ax (i4 (d7 rfl (a7 _ _)) (aa hl (ae rfl)) (cR (fun p:List Nat=>kE cls i none none (p.flatMap (zE cls i))) fun p j m e=>?_)) (cX (dM (d7 rfl (cY ?_ rfl)) ?_))))
 ·have hj:=gF e;obtain⟨c,hc⟩:∃c,cls[j]? =some c:=⟨_,bw hj⟩;rw[List.flatMap_append,show [j].flatMap (zE cls i)=kp i j c by rw[List.flatMap_cons,List.flatMap_nil,aK];unfold zE;rw[hc]]
  have L:∀l:List Nat,l.length≤3→(p.flatMap (zE cls i)++l).length≤lim:=fun l h=>by
   rw[ai];exact aa (bo (K p (show p.length≤100 from aa (eJ (x:=j) (m:=m)) (e▸by rw[aO];exact hl))) h) (ae rfl)
  unfold kp;generalize p.flatMap (zE cls i)=q at L;have M:eP .mul (nv 3) (nv j)=ok (nv (3*j)):=cY ⟨(ae rfl),Nat.lt_trans hj (aF hl (ae rfl))⟩ rfl;refine ax (bX (aD rfl rfl (aW hc))) (ax (t6 (x3:=some (false,nv j)) (x4:=some (false,c.v)) (x:=3*j) (w4 rfl rfl rfl) (aD rfl rfl M) ?_) (ax (t6 (x:=3*j+1) (Ca rfl rfl rfl rfl) (aD (aD rfl rfl M) rfl rfl) ?_) (ax (t6 (x:=3*j+2) (w4 rfl rfl rfl) (aD (aD rfl rfl M) rfl rfl) ?_) ?_)))
  ·have:=L [] (ae rfl);rwa [aK]at this
  ·exact L _ (aa (iW _ _) (ae rfl))
  ·rw[aJ];exact L _ (by rw[ai];exact aa (bo (iW _ _) (iW _ _)) (ae rfl))
  ·rw[aJ,aJ];rfl
 ·rw[af];exact aa (K _ (by rw[aO];exact hl)) (ae rfl)
 ·exact all_map (fun Z=>rfl) _
theorem Hw{g:Nat}{v:V}(h:g<rows.length):callF tab (d+1) 27 [aL rows,v,nv g]=ok (nv g,[]):=
 fR rfl rfl rfl (ax (cU (mh rfl rfl tc (aD rfl (d7 rfl (a7 _ _)) rfl)) rfl (Ef h) rfl) (cX rfl))
theorem BN{g:Nat}(h:¬g<rows.length):callF tab (d+1) 27 [aL rows,nv i,nv g]=exc:=
 rN rfl rfl (iC (eK (mh rfl rfl tc (aD rfl (d7 rfl (a7 _ _)) rfl)) rfl (G3 h) (yc rfl)))
noncomputable def Au(cls:List Cl)(i:Nat):Bool:=cls.any fun c=>decide (i∈c.JR)
theorem BY(g:Nat)(l:List Nat):eP .JK (nv g) (.Js (l.map nv))=ok (.bool (decide (g∈l))):=
 aj (fun r=>bc r fun b=>ok (V.bool b)) (bq (a:=l.map nv) rfl (cY ⟨rfl,all_map (fun Z=>rfl) l⟩ (aj ok (nL g l))):zW (nv g) (.Js (l.map nv))=ok (decide (g∈l)))
theorem IX(hl:cls.length≤lim):callF tab (d+2) 29 [bF cls,nv i]=ok (.bool (Au cls i),[]):=by
 have A:=nh (enc:=Cl.v) (p:=fun c=>decide (i∈c.JR)) (v:=.bool true) (ρ:=[some (false,bF cls),some (false,nv i),none]) (step:=fun v ρ=>bc (ft (cS (.v 2) v ρ)) (bJ (callF tab (d+1)) [] pA.hd.bd)) (l:=cls) fun c m=>by
  have k:aY (callF tab (d+1)) (.h .JK (.c 1) (.call 10 (.cons (.c 2) .nil))) [some (false,bF cls),some (false,nv i),some (false,c.v)]=ok (.bool (decide (i∈c.JR))):=aD rfl (bj rfl (GJ c)) (BY _ _);revert k;cases decide (i∈c.JR) with
  |true=>exact fun k=>⟨_,ia (gu k rfl (cX rfl))⟩
  |false=>exact fun k=>ax (eH k rfl rfl) rfl
 obtain⟨ρ',q⟩:=ss A (gL (e:=.c 0) (v:=bF cls) rfl rfl (by rw[af];exact hl) rfl);exact fR rfl rfl rfl q
end
section
variable{α β:Type}{F:FT}{d n i:Nat}{ρ:Env}{rows:List aU}{cls:List Cl}
theorem wW:∀a b:List Nat,PyData.eqvAll (k8 (a.map nv)) (k8 (b.map nv))=decide (a=b)
 | [],[]=>rfl
 | [],_::_=>rfl
 |_::_,[]=>rfl
 |x::a,y::b=>by
  show((x:Int)==(y:Int)&&PyData.eqvAll _ _)=_;rw[wW a b,show((x:Int)==(y:Int))=decide (x=y)from uN x y,←Bool.decide_and];exact bZ.2 (List.cons.injEq x a y b▸.rfl)
theorem Cj(a b:List Nat):eP .eq (.Js (a.map nv)) (.Js (b.map nv))=ok (.bool (decide (a=b))):=
 aj (fun r=>bc r fun b=>ok (V.bool b)) (cY ⟨all_map (fun Z=>rfl) a,all_map (fun Z=>rfl) b⟩ (aj ok (wW a b)):AC (.Js (a.map nv)) (.Js (b.map nv))=_)
inductive Ch(rows:List aU)(P:Nat→Prop):Nat→Nat→Prop
 |refl (a):Ch rows P a a
 |step {a c e}:rows[a]? =some ⟨56,.go c⟩→P a→Ch rows P c e→Ch rows P a e
noncomputable def iK(rows:List aU)(P:Nat→Prop)(e:Nat):Prop:=∀c,rows[e]? =some ⟨56,.go c⟩→¬P e
variable{P:Nat→Prop}{a b c e:Nat}
theorem iI(h:rows[a]? =some ⟨56,.go b⟩)(h2:rows[a]? =some ⟨56,.go c⟩):b=c:=by cases h.symm.trans h2;rfl
theorem Ch.trans(h:Ch rows P a b)(k:Ch rows P b c):Ch rows P a c:=by
 induction h with
 |refl=>exact k
 |step e p _ ih=>exact .step e p (ih k)
theorem Ch.snoc(h:Ch rows P a b)(e:rows[b]? =some ⟨56,.go c⟩)(p:P b):Ch rows P a c:=h.trans (.step e p (.refl c))
theorem Ch.split(h:Ch rows P a b)(k:Ch rows P a c):Ch rows P b c∨Ch rows P c b:=by
 induction h with
 |refl=>exact .inl k
 |step e p h ih=>cases k with
  |refl=>exact .inr (.step e p h)
  |step e' _ k=>cases iI e e';exact ih k
theorem Ch.stop(h:Ch rows P a b)(s:iK rows P a):a=b:=by
 cases h with
 |refl=>rfl
 |step e p _=>exact absurd p (s _ e)
theorem Ch.uniq(h:Ch rows P a b)(s:iK rows P b)(k:Ch rows P a c)(s':iK rows P c):b=c:=
 (h.split k).elim (fun h=>h.stop s) fun h=>(h.stop s').symm
open Classical in
noncomputable def endO(rows:List aU)(P:Nat→Prop)(g:Nat):Option Nat:=if h:∃e,Ch rows P g e∧iK rows P e then some (Classical.choose h)else none
theorem dH:endO rows P a=some e↔Ch rows P a e∧iK rows P e:=by
 unfold endO;split
 ·rename_i h;have s:=Classical.choose_spec h;exact⟨fun q=>ah q▸s,fun q=>aj some (s.1.uniq s.2 q.1 q.2)⟩
 ·rename_i h;exact⟨nofun,fun q=>absurd ⟨_,q⟩ h⟩
theorem eF:endO rows P a=none↔∀e,Ch rows P a e→¬iK rows P e:=
 ⟨fun h e k s=>(by rw[dH.2 ⟨k,s⟩]at h;exact nomatch h),fun h=>by
  cases q:endO rows P a with
  |none=>rfl
  |some e=>exact absurd (dH.1 q).2 (h e (dH.1 q).1)⟩
noncomputable def ce(rows:List aU)(cls:List Cl)(i g:Nat):Nat:=(endO rows (fun x=>key cls x=key cls i) g).getD g
theorem hJ:∀(n:Nat)(l:List Nat),l.Nodup→(∀x∈l,x<n)→l.length≤n
 |0,[],_,_=>aM _
 |0,x::_,_,h=>absurd (h x (.head _)) (Nat.not_lt_zero x)
 |n+1,l,hd,h=>by
  have lt:∀x∈l,x≠n→x<n:=fun x m ne=>Nat.lt_of_le_of_ne (cz (h x m)) ne;by_cases m:n∈l
  ·have:=hJ n (l.erase n) (hd.erase n) fun x k=>lt x (List.mem_of_mem_erase k) (hd.mem_erase_iff.1 k).1;rw[List.length_erase_of_mem m]at this;exact Nat.le_succ_of_pred_le this
  ·exact cy (hJ n l hd fun x k=>lt x k fun e=>m (e▸k))
theorem vz{r:aU}(ho:r.Ok)(h:r.op=56):∃g,r=⟨56,.go g⟩:=by
 obtain⟨op,a⟩:=r;cases(show op=56 from h);cases a with
 |go g=>exact⟨g,rfl⟩
 |sw _=>exact absurd (show(56:Int)=69 from ho.1) (by decide)
 |num _=>exact absurd (show(56:Int)∈fH from ho) (by decide)
 |me _=>exact absurd (show(56:Int)=40∨(56:Int)=111 from ho.1) (by decide)
noncomputable def Eh(rows:List aU)(cls:List Cl)(i g:Nat)(s:List Nat)(x:Nat):Env:=[some (false,aL rows),some (false,bF cls),some (false,nv i),some (false,nv g),some (false,.Js ((key cls i).map nv)),some (true,cW s),some (false,nv x)]
theorem wL(g:Nat)(l:List Nat):eP .JK (nv g) (cW l)=ok (.bool (decide (g∈l))):=aj (fun r=>bc r fun b=>ok (V.bool b)) (uD g l)
structure AV(rows:List aU)(cls:List Cl)(i g:Nat)(s:List Nat)(x:Nat):Prop where
 at_:x<rows.length
 way:Ch rows (fun x=>key cls x=key cls i) g x
 nd:s.Nodup
 seen:∀y∈s,y<rows.length∧∃c,rows[y]? =some ⟨56,.go c⟩∧key cls y=key cls i∧(c∈s∨c=x)
 frm:g∈s∨g=x
theorem AV.round{g x a:Nat}{s:List Nat}(I:AV rows cls i g s x)(h:x∈s)(e:Nat)(m:a∈s)(k:Ch rows (fun x=>key cls x=key cls i) a e):¬iK rows (fun x=>key cls x=key cls i) e:=by
 induction k with
 |refl a=>
  intro z;obtain⟨_,c,hc,p,_⟩:=I.seen a m;exact z c hc p
 |step q _ _ ih=>
  obtain⟨_,c,hc,_,o⟩:=I.seen _ m;cases iI q hc;exact ih (o.elim id fun e=>e▸h)
theorem AV.circle{g x:Nat}{s:List Nat}(I:AV rows cls i g s x)(h:x∈s):ce rows cls i g=g:=by
 unfold ce;rw[eF.2 fun e=>I.round h e (I.frm.elim id fun e=>e▸h)];rfl
noncomputable def yR(rows:List aU)(x:Nat):Bool:=match rows[x]? with
 |some r=>decide (r.op=56)
 |none=>false
theorem xu(ho:∀r∈rows,r.Ok){x:Nat}(h:yR rows x=true):∃c,rows[x]? =some ⟨56,.go c⟩:=by
 unfold yR at h;cases hr:rows[x]? with
 |none=>rw[hr]at h;exact nomatch h
 |some r=>
  rw[hr]at h;obtain⟨c,rfl⟩:=vz (ho r (ay hr)) (aT h);exact⟨c,rfl⟩
noncomputable abbrev Eg(rows:List aU)(cls:List Cl)(i g:Nat)(s:List Nat×Nat):Env:=Eh rows cls i g s.1 s.2
noncomputable abbrev H9(rows:List aU)(cls:List Cl)(i g:Nat):=Wk (Eg rows cls i g) (fun s=>AV rows cls i g s.1 s.2) (fun s=>rows.length - s.1.length) (fun v=>v=nv (ce rows cls i g)) (¬∀j,f8 rows j)
theorem zy(W:Wf rows cls){g:Nat}(s:List Nat×Nat)(I:AV rows cls i g s.1 s.2):bc (aY (callF tab (d+1)) (.y (.h .eq (.h .item (.h .item (.c 0) (.c 6)) (.f (.int 0))) (.f (.int 56))) (.h .eq (.call 25 (.cons (.c 1) (.cons (.c 6) .nil))) (.c 4))) (Eg rows cls i g s)) da=ok (yR rows s.2&&decide (key cls s.2=key cls i)):=by
 obtain⟨r,hr⟩:∃r,rows[s.2]? =some r:=⟨_,bw I.at_⟩;have e1:aY (callF tab (d+1)) (.h .eq (.h .item (.h .item (.c 0) (.c 6)) (.f (.int 0))) (.f (.int 56))) (Eg rows cls i g s)=ok (.bool (decide (r.op=56))):=aD (aD (aD rfl rfl (aW hr)) rfl rfl) rfl rfl;unfold yR;rw[hr];by_cases h:r.op=56
 ·exact bq (gI e1 rfl (ak h) (aD (bj rfl (HN W.few)) rfl (Cj _ _))) (by show _=ok (decide (r.op=56)&&_);rw[ak h];rfl)
 ·exact bq (jW e1 rfl (ao h)) (by show _=ok (decide (r.op=56)&&_);rw[ao h];rfl)
theorem Ap(W:Wf rows cls){g:Nat}(s:List Nat×Nat)(I:AV rows cls i g s.1 s.2)(t:(yR rows s.2&&decide (key cls s.2=key cls i))=true):H9 rows cls i g s (bJ (callF tab (d+1)) [] eV.tl.tl.tl.hd.bd (Eg rows cls i g s)):=by
 obtain⟨s,x⟩:=s;have I:AV rows cls i g s x:=I;have t:=am.1 t;obtain⟨c,hr⟩:=xu W.ok t.1;have h2:=aT t.2;by_cases h3:x∈s
 ·rw[show bJ (callF tab (d+1)) [] eV.tl.tl.tl.hd.bd (Eg rows cls i g (s,x))=_ from ia (eK (dM (aD rfl rfl (wL _ _)) rfl) rfl (ak h3) (cX rfl))];exact .ret (aj (fun k:Nat=>V.int k) (I.circle h3).symm)
 ·have nd:(s++[x]).Nodup:=List.nodup_append.2 ⟨I.nd,bM.2 ⟨nofun,.nil⟩,fun a ha b hb e=>h3 (aq.1 hb▸e▸ha)⟩;have lt:=hJ rows.length (s++[x]) nd fun y m=>(a9.1 m).elim (fun m=>(I.seen y m).1) fun m=>aq.1 m▸I.at_
  have u {z} (k:bJ (callF tab (d+1)) [] (.q (.v 6) (.call 27 (.cons (.c 0) (.cons (.c 6) (.cons (.h .item (.h .item (.c 0) (.c 6)) (.f (.int 1))) .nil))))) (Eh rows cls i g (s++[x]) x)=z):bJ (callF tab (d+1)) [] eV.tl.tl.tl.hd.bd (Eg rows cls i g (s,x))=z:=
   ax (cU (dM (aD rfl rfl (wL _ _)) rfl) rfl (ao h3) rfl) (ax (ρ1:=Eh rows cls i g (s++[x]) x) ((fj (l:=s.map nv) rfl rfl (by rw[af];exact aa eJ (aa lt (aa W.len (by decide))))).trans (by unfold Eh cW;rw[aw];rfl)) k)
  have a27:aY (callF tab (d+1)) (.cons (.c 0) (.cons (.c 6) (.cons (.h .item (.h .item (.c 0) (.c 6)) (.f (.int 1))) .nil))) (Eh rows cls i g (s++[x]) x)=ok (.Js [aL rows,nv x,nv c]):=a6 rfl (a6 rfl (a6 (aD (aD rfl rfl (aW hr)) rfl rfl) rfl));rw[ai]at lt;by_cases hc:c<rows.length
  ·rw[u (bX (bj a27 (Hw hc)))];refine .nxt (s':=(s++[x],c)) ⟨hc,I.way.snoc hr h2,nd,fun y m=>(a9.1 m).elim (fun m=>?_) fun m=>?_,.inl (I.frm.elim (bE _) fun e=>e▸aA _ (.head _))⟩ ?_
   ·obtain⟨a,b,e,f,o⟩:=I.seen y m;exact⟨a,b,e,f,.inl (o.elim (bE _) fun e=>e▸aA _ (.head _))⟩
   ·obtain rfl:=aq.1 m;exact⟨I.at_,c,hr,h2,.inr rfl⟩
   ·show _ - (s++[x]).length<_ - s.length;rw[ai];exact Nat.sub_succ_lt_self _ _ lt
  ·rw[u (zU (callX a27 (BN hc)))];exact .exc fun f=>hc (f x _ hr c (.head _))
theorem II(W:Wf rows cls){g:Nat}:(callF tab (d+2) 26 [aL rows,bF cls,nv i,nv g]=ok (nv (ce rows cls i g),[])∧g<rows.length)∨(callF tab (d+2) 26 [aL rows,bF cls,nv i,nv g]=exc∧¬(g<rows.length∧∀j,f8 rows j)):=by
 by_cases hg:g<rows.length
 ·have pre {z} (k:bJ (callF tab (d+1)) [] eV.tl.tl.tl (Eh rows cls i g [] g)=z):bJ (callF tab (d+1)) [] eV (gp ⟨4,7,[],false,eV⟩ [aL rows,bF cls,nv i,nv g])=z:=
   ax (bX (bj rfl (HN W.few))) (ax (eG nofun rfl) (ax (bX (bj rfl (Hw hg))) k))
  have L:=lA (test:=fun ρ=>bc (aY (callF tab (d+1)) (.y (.h .eq (.h .item (.h .item (.c 0) (.c 6)) (.f (.int 0))) (.f (.int 56))) (.h .eq (.call 25 (.cons (.c 1) (.cons (.c 6) .nil))) (.c 4))) ρ) da) (zy (d:=d) W (i:=i) (g:=g)) (Ap (d:=d) W) lim ([],g) ⟨hg,.refl g,.nil,nofun,.inr rfl⟩ (aF (aa (Nat.sub_le _ _) W.len) (by decide));generalize hz:gS _ _ _ _=z at L;cases L with
  | @nxt s I t=>
   have e:ce rows cls i g=s.2:=by
    unfold ce;rw[dH.2 ⟨I.way,fun c e k=>?_⟩];rfl;unfold yR at t;rw[e,ak k]at t;exact nomatch t
   rw[e];exact .inl ⟨fR rfl rfl rfl (pre (ax hz (cX rfl))),hg⟩
  |ret h=>subst h;exact .inl ⟨fR rfl rfl rfl (pre (ia hz)),hg⟩
  |exc h=>exact .inr ⟨rN rfl rfl (pre (iC hz)),fun q=>h q.2⟩
 ·exact .inr ⟨rN rfl rfl (ax (bX (bj rfl (HN W.few))) (ax (eG nofun rfl) (iC (zU (callX rfl (BN hg)))))),fun q=>hg q.1⟩
noncomputable def fc(rows:List aU)(cls:List Cl)(i:Nat)(r:aU):aU:=if r.op=221 then r else r.map (ce rows cls i)
theorem Bh{op:Int}(h:op∈fH):decide (op=221)=false:=(by decide+kernel:∀op∈fH,decide (op=221)=false) op h
noncomputable def nA(rows:List aU)(cls:List Cl)(i:Nat)(r:aU):Env:=[some (false,aL rows),some (false,bF cls),some (false,nv i),some (false,r.v),none,none]
theorem Ip(W:Wf rows cls){r:aU}(hr:rows[i]? =some r):(callF tab (d+3) 28 [aL rows,bF cls,nv i]=ok ((fc rows cls i r).v,[])∧∀g∈r.gs,g<rows.length)∨(callF tab (d+3) 28 [aL rows,bF cls,nv i]=exc∧¬∀j,f8 rows j):=by
 have ho:=W.ok r (ay hr)
 have pre {z} (k:bJ (callF tab (d+2)) [] fK.tl (nA rows cls i r)=z):bJ (callF tab (d+2)) [] fK (gp ⟨3,6,[],false,fK⟩ [aL rows,bF cls,nv i])=z:=
  ax (bX (aD rfl rfl (aW hr))) k
 obtain⟨op,a⟩:=r;cases a with
 |num j=>exact .inl ⟨fR rfl rfl rfl (pre (ax (cU rfl rfl (v0 ho).1 rfl) (ax (cU (jW (bj rfl (c2 (qQ ho))) rfl (v0 ho).2) rfl (v0 ho).2 rfl) (ax (cU rfl rfl (Bh ho) rfl) (cX (by unfold fc;rw[aC (of_decide_eq_false (Bh ho))];rfl)))))),(by intro _ h;cases h)⟩
 |me k=>exact .inl ⟨by obtain⟨rfl | rfl,_⟩:_∧_:=ho<;>exact fR rfl rfl rfl (pre (ax (eH rfl rfl rfl) (ax (eH rfl rfl rfl) (ax (eH rfl rfl rfl) (cX rfl))))),(by intro _ h;cases h)⟩
 |go g=>
  have e2:aY (callF tab (d+2)) (.y (.call 2 (.cons (.h .item (.c 3) (.f (.int 0))) .nil)) (.h .ne (.h .item (.c 3) (.f (.int 0))) (.f (.int 221)))) (nA rows cls i ⟨op,.go g⟩)=ok (.bool !(decide (op=221))):=gI (bj rfl (c2 (p9 ho))) rfl (ux ho).2 rfl;unfold fc;by_cases h:op=221
  ·rw[aB h];rw[ak h]at e2;have u {z} (k:bJ (callF tab (d+2)) [] fK.tl.tl.tl (nA rows cls i ⟨op,.go g⟩)=z):=pre (ax (cU rfl rfl (ux ho).1 rfl) (ax (eH e2 rfl rfl) k));by_cases hg:g<rows.length
   ·exact .inl ⟨fR rfl rfl rfl (u (ax (eK rfl rfl (ak h) (wG rfl (Hw hg) rfl rfl)) (cX rfl))),fun x m=>aq.1 m▸hg⟩
   ·exact .inr ⟨rN rfl rfl (u (iC (eK rfl rfl (ak h) (Hu rfl (BN hg))))),fun f=>hg (f i _ hr g (.head _))⟩
  ·rw[aC h];rw[ao h]at e2;rcases II (d:=d) (i:=i) W (g:=g)with⟨e,hg⟩|⟨e,hg⟩
   ·exact .inl ⟨fR rfl rfl rfl (pre (ax (cU rfl rfl (ux ho).1 rfl) (ia (gu e2 rfl (cX (gT (a6 rfl (a6 (bj rfl e) rfl)))))))),fun x m=>aq.1 m▸hg⟩
   ·exact .inr ⟨rN rfl rfl (pre (ax (cU rfl rfl (ux ho).1 rfl) (iC (gu e2 rfl (Hy (HJ (DF rfl (C8 (callX rfl e))))))))),fun f=>hg ⟨f i _ hr g (.head _),f⟩⟩
 |sw gs=>
  obtain rfl:=(show op=69 from ho.1);have hl:gs.length≤lim:=aa ho.2 (by decide)
  have step {p m:List Nat} {x:Nat} (e:gs=p++x::m) (h:callF tab (d+2) 26 [aL rows,bF cls,nv i,nv x]=ok (nv (ce rows cls i x),[])):bc (ft (cS (.v 5) (nv x) ((nA rows cls i ⟨69,.sw gs⟩).set 4 (some (true,cW (p.map (ce rows cls i))))))) (bJ (callF tab (d+2)) [] (.seq (.app 4 (.call 26 (.cons (.c 0) (.cons (.c 1) (.cons (.c 2) (.cons (.c 5) .nil)))))) (.r 5)))=ok (.nxt,(nA rows cls i ⟨69,.sw gs⟩).set 4 (some (true,cW ((p++[x]).map (ce rows cls i))))):=by
   refine ax (fj (l:=(p.map (ce rows cls i)).map nv) rfl (bj rfl h) ?_) ?_
   ·rw[af,af];exact aa (by rw[e];exact eJ) hl
   ·unfold cW;rw[aw,aw];rfl
  rcases jR (fun g=>callF tab (d+2) 26 [aL rows,bF cls,nv i,nv g]=ok (nv (ce rows cls i g),[])∧g<rows.length) gs with h|⟨p,x,m,e,h,hx⟩
  ·refine .inl ⟨fR rfl rfl rfl (pre (ia (gu rfl rfl (ax (eG nofun rfl) (ax (gL rfl rfl (by rw[af];exact hl) (cR (fun p=>(nA rows cls i ⟨69,.sw gs⟩).set 4 (some (true,cW (p.map (ce rows cls i))))) fun p x m e=>step e (h x (e▸aA _ (.head _))).1)) (cX (dM (gT (a6 rfl (a6 (d7 rfl (cY ?_ rfl)) rfl))) ?_))))))),fun g m=>(h g m).2⟩
   ·rw[af,af];exact hl
   ·show(List.all _ (gB _)&&true)=true;rw[Bool.and_true];exact all_map (fun Z=>rfl) _
  ·have q:=(II (d:=d) (i:=i) W (g:=x)).resolve_left hx;refine .inr ⟨rN rfl rfl (pre (iC (gu rfl rfl (ax (eG nofun rfl) (iC (gL rfl rfl (by rw[af];exact hl) ?_)))))),fun f=>q.2 ⟨f i _ hr x (show x∈gs from e▸aA _ (.head _)),f⟩⟩;rw[aj (List.map nv) e];refine mY (l:=p) (m:=m) (fun p=>(nA rows cls i ⟨69,.sw gs⟩).set 4 (some (true,cW (p.map (ce rows cls i))))) (fun p' y m' e'=>?_) ?_
   ·exact step (m:=m'++x::m) (by rw[e,e',aJ];rfl) (h y (e'▸aA _ (.head _))).1
   ·exact iC (F7 rfl (callX rfl q.1))
noncomputable def wD(rows:List aU)(cls:List Cl)(i:Nat):aU:=fc rows cls i (rows[i]?.getD ⟨0,.num 0⟩)
noncomputable def bB(rows:List aU)(cls:List Cl):List aU:=(List.range rows.length).map (wD rows cls)
theorem bA:(bB rows cls).length=rows.length:=by unfold bB;rw[af,aO]
theorem dg{r:aU}(h:rows[i]? =some r):(bB rows cls)[i]? =some (fc rows cls i r):=by
 unfold bB;rw[aV,List.getElem?_range (ag.1 h).1];show some (fc rows cls i (rows[i]?.getD _))=_;rw[h];rfl
theorem xT{f:Nat→Nat}:∀{r:aU},r.Ok→(r.map f).Ok
 |⟨_,.go _⟩,h=>h
 |⟨_,.sw gs⟩,h=>⟨h.1,(af f (as:=gs)).symm▸h.2⟩
 |⟨_,.num _⟩,h=>h
 |⟨_,.me _⟩,h=>h
theorem gJ{f:Nat→Nat}:∀r:aU,(r.map f).gs=r.gs.map f
 |⟨_,.go _⟩=>rfl
 |⟨_,.sw _⟩=>rfl
 |⟨_,.num _⟩=>rfl
 |⟨_,.me _⟩=>rfl
theorem vA{r:aU}(h:r.Ok):(fc rows cls i r).Ok:=by unfold fc;split<;>first | exact h | exact xT h
theorem Ch.lt{a e:Nat}(h:Ch rows P a e)(F:∀j,f8 rows j)(ha:a<rows.length):e<rows.length:=by
 induction h with
 |refl=>exact ha
 |step q _ _ ih=>exact ih (F _ _ q _ (.head _))
theorem EQ(g:Nat):Ch rows (fun x=>key cls x=key cls i) g (ce rows cls i g):=by
 unfold ce;cases h:endO rows (fun x=>key cls x=key cls i) g with
 |none=>exact .refl g
 |some e=>exact(dH.1 h).1
theorem uB{r:aU}(F:∀j,f8 rows j)(h:∀g∈r.gs,g<rows.length):∀g∈(fc rows cls i r).gs,g<rows.length:=by
 unfold fc;split
 ·exact h
 ·rw[gJ];intro g m;obtain⟨x,m',rfl⟩:=aP.1 m;exact(EQ x).lt F (h x m')
theorem pe{r:aU}(h:r∈bB rows cls):∃i r',rows[i]? =some r'∧r=fc rows cls i r':=by
 obtain⟨i,m,rfl⟩:=aP.1 h;have:=bw (bP.1 m);exact⟨i,_,this,by unfold wD;rw[this];rfl⟩
noncomputable def l7(rows:List aU)(i:Nat):Bool:=match rows[i]? with
 |some ⟨op,.go g⟩=>decide (op=56)&&(decide (g=i+1)&&decide (i+1<rows.length))
 |_=>false
noncomputable def lg(rows:List aU)(cls:List Cl)(i:Nat):Bool:=!l7 rows i||(Au cls i||Au cls (i+1))
noncomputable def kF(rows:List aU)(cls:List Cl):List Bool:=(List.range rows.length).map (lg rows cls)
theorem Cv:(kF rows cls).length=rows.length:=by unfold kF;rw[af,aO]
noncomputable def rR(rows:List aU)(cls:List Cl):List aU:=cq (kF (bB rows cls) cls) (bB rows cls)
noncomputable def rC(rows:List aU)(cls:List Cl):List Cl:=cls.map (Cl.map (pl (kF (bB rows cls) cls)))
noncomputable def GH(rows:List aU)(cls:List Cl)(x2 x3 x4 x5 x6:Option (Bool×V)):Env:=[some (false,aL rows),some (false,bF cls),x2,x3,x4,x5,x6]
theorem Fy{T:List aU}{r:aU}(hr:T[i]? =some r)(ho:r.Ok){x0 x1 x4 x5 x6:Option (Bool×V)}:aY F (.y (.h .eq (.h .item (.h .item (.c 2) (.c 3)) (.f (.int 0))) (.f (.int 56))) (.y (.h .eq (.h .item (.h .item (.c 2) (.c 3)) (.f (.int 1))) (.h .add (.c 3) (.f (.int 1)))) (.h .lt (.h .add (.c 3) (.f (.int 1))) (.un .len (.c 2))))) [x0,x1,some (false,aL T),some (false,nv i),x4,x5,x6]=ok (.bool (l7 T i)):=by
 unfold l7;rw[hr];have e1:aY F (.h .eq (.h .item (.h .item (.c 2) (.c 3)) (.f (.int 0))) (.f (.int 56))) [x0,x1,some (false,aL T),some (false,nv i),x4,x5,x6]=ok (.bool (decide (r.op=56))):=aD (aD (aD rfl rfl (aW hr)) rfl rfl) rfl rfl;by_cases h:r.op=56
 ·obtain⟨g,rfl⟩:=vz ho h;refine gI e1 rfl (ak rfl) (su (b:=decide (g=i+1)) (v:=.bool (decide (g=i+1))) (aD (aD (aD rfl rfl (aW hr)) rfl rfl) rfl (AZ g (i+1))) rfl ?_);show cond _ _ _=ok (V.bool (true&&(decide (g=i+1)&&decide (i+1<T.length))));cases decide (g=i+1) with
  |true=>exact aD rfl (d7 rfl (a7 _ _)) (aj (fun b=>ok (V.bool b)) (oZ (i+1) T.length))
  |false=>rfl
 ·refine(jW e1 rfl (ao h)).trans ?_
  obtain⟨op,a⟩:=r;cases a with
  |go g=>show ok (V.bool (decide (op=56)))=ok (V.bool (decide (op=56)&&_));rw[ao h];rfl
  |_=>exact aj (fun b=>ok (V.bool b)) (ao h)
theorem qM{p m:List Nat}{x:Nat}(e:List.range n=p++x::m):p.length≤n:=aa (eJ (x:=x) (m:=m)) (bu (by rw[←e,aO]))
theorem Jo(W:Wf rows cls)(hf:∀j,f8 rows j):callF tab (d+4) 31 [aL rows,bF cls]=ok (.Js [aL (rR rows cls),bF (rC rows cls)],[]):=by
 have hn:rows.length≤lim:=aa W.len (by decide)
 have hm:∀r∈bB rows cls,r.Ok∧∀g∈r.gs,g<rows.length:=fun r m=>by
  obtain⟨i,r',e,rfl⟩:=pe m;exact⟨vA (W.ok _ (ay e)),uB hf (hf i r' e)⟩
 refine fR rfl rfl rfl (ax (eG nofun rfl) (ax (i4 (d7 rfl (a7 _ _)) hn (cR (fun p:List Nat=>GH rows cls (some (true,aL (p.map (wD rows cls)))) none none none none) fun p x m e=>?_)) (ax (ρ1:=GH rows cls (some (false,aL (bB rows cls))) none none none none) (iP nofun rfl) (ax (eG nofun rfl)
  (ax (i4 (d7 rfl (a7 _ _)) (by rw[bA];exact hn) (cR (fun p:List Nat=>GH rows cls (some (false,aL (bB rows cls))) none (some (true,bv (p.map (lg (bB rows cls) cls)))) none none) fun p x m e=>?_)) (ax (iP nofun rfl) (ax (bX (bj (o:=[]) rfl (IH (k:=kF (bB rows cls) cls) (cls:=cls) (bA.symm▸W.len) Cv (fun r m=>(hm r m).1) (fun r m g k=>aE (bA.symm▸(hm r m).2 g k)) (fun c m=>bA.symm▸W.cin c m) W.few'))) (cX (gT (a6 (aD rfl rfl rfl) (a6 (aD rfl rfl rfl) rfl)))))))))))
 ·have hx:=gF e;obtain⟨r,hr⟩:∃r,rows[x]? =some r:=⟨_,bw hx⟩;have k:=(Ip (d:=d) W hr).resolve_right fun q=>q.2 hf;refine ax (fj (l:=(p.map (wD rows cls)).map aU.v) rfl (bj rfl k.1) ?_) ?_
  ·rw[af,af];exact aa (qM e) hn
  ·unfold aL;rw[aw,aw,show(fc rows cls x r)=wD rows cls x by unfold wD;rw[hr];rfl];rfl
 ·have hx:=gF e;obtain⟨r,hr⟩:∃r,(bB rows cls)[x]? =some r:=⟨_,bw hx⟩;have a (y:Nat):=IX (d:=d+1) (i:=y) W.few';refine ax (bX (Fy hr (hm r (ay hr)).1)) (ax (fj (v:=.bool (lg (bB rows cls) cls x)) (l:=(p.map (lg (bB rows cls) cls)).map V.bool) rfl ?_ ?_) ?_)
  ·refine GW (d7 (v:=.bool (l7 (bB rows cls) x)) rfl rfl) rfl ?_
   unfold lg;cases !l7 (bB rows cls) x with
   |true=>rfl
   |false=>
    refine GW (bj rfl (a x)) rfl ?_
    cases Au cls x with
    |true=>rfl
    |false=>exact bj (a6 rfl (a6 (v:=nv (x+1)) (aD rfl rfl rfl) rfl)) (a (x+1))
  ·rw[af,af];exact aa (qM e) (by rw[bA];exact hn)
  ·unfold bv;rw[aw,aw];rfl
theorem H7(W:Wf rows cls)(hf:¬∀j,f8 rows j):callF tab (d+4) 31 [aL rows,bF cls]=exc:=by
 have hn:rows.length≤lim:=aa W.len (by decide);rcases jR (fun i=>callF tab (d+3) 28 [aL rows,bF cls,nv i]=ok ((wD rows cls i).v,[])∧f8 rows i) (List.range rows.length)with h|⟨p,x,m,e,h,hx⟩
 ·exact absurd (fun j r e g m=>(h j (bP.2 (ag.1 e).1)).2 r e g m) hf
 ·have hl:=gF e;obtain⟨r,hr⟩:∃r,rows[x]? =some r:=⟨_,bw hl⟩;have q:callF tab (d+3) 28 [aL rows,bF cls,nv x]=exc:=(Ip (d:=d) W hr).elim (fun q=>absurd ⟨by rw[q.1];unfold wD;rw[hr];rfl,fun r' e'=>by obtain rfl:=ah (hr.symm.trans e');exact q.2⟩ hx) (·.1);refine rN rfl rfl (ax (eG nofun rfl) (iC (i4 (d7 rfl (a7 _ _)) hn ?_)));rw[e];refine mY (l:=p) (m:=m) (fun p:List Nat=>GH rows cls (some (true,aL (p.map (wD rows cls)))) none none none none) (fun p' y m' e'=>?_) (iC (F7 rfl (callX rfl q)));refine ax (fj (l:=(p'.map (wD rows cls)).map aU.v) rfl (bj rfl ((h y (e'▸aA _ (.head _))).1)) ?_) ?_
  ·rw[af,af];refine aa (eJ (x:=y) (m:=m'++x::m)) (aa (bu ?_) hn);rw[show p'++y::(m'++x::m)=List.range rows.length by rw[e,e',aJ];rfl,aO]
  ·unfold aL;rw[aw,aw];rfl
end
section
variable{α β:Type}{F:FT}{d n i j:Nat}{ρ:Env}{rows:List aU}{cls:List Cl}{K:List Bool}
theorem fL:∀{j i:Nat},i≤j→pl K i≤pl K j
 |0,_,h=>by obtain rfl:=Nat.le_zero.1 h;exact aM _
 |j+1,i,h=>(Nat.le_or_eq_of_le_succ h).elim (fun h=>aa (fL h) (bD _ _)) fun h=>h▸aM _
theorem eW(h:K[i]? =some true):pl K (i+1)=pl K i+1:=u6 h
theorem nU(h:K[i]? =some true)(l:i<j):pl K i<pl K j:=aS (Nat.lt_of_lt_of_eq (a4 _) (eW h).symm) (fL l)
theorem uG(h:K[i]? =some true):pl K j≤pl K i↔j≤i:=
 ⟨fun l=>bS.1 fun g=>aZ _ (aS (nU h g) l),fL⟩
theorem pF(h:K[i]? =some true):pl K i<pl K j↔i<j:=
 ⟨fun l=>Nat.not_le.1 fun g=>aZ _ (aS l (fL g)),nU h⟩
theorem Hn(h:K[i]? =some true)(h2:K[j]? =some true)(e:pl K i=pl K j):i=j:=
 cL ((uG h2).1 (bu e)) ((uG h).1 (bu e.symm))
theorem ip(h:K[i]? ≠some true):pl K (i+1)=pl K i:=by
 show _+cond (K[i]?.getD false) 1 0=_;revert h;cases K[i]? with
 |none=>exact fun Z=>rfl
 |some b=>cases b with
  |true=>exact fun h=>absurd rfl h
  |false=>exact fun Z=>rfl
theorem zb{r:aU}(h:K[i]? =some true)(hr:rows[i]? =some r):iM K rows i=some r:=(aB h).trans hr
theorem Am(h:K[i]? ≠some true):iM K rows i=none:=aC h
theorem kB:∀{m:Nat},m≤rows.length→((List.range m).filterMap (iM K rows)).length=pl K m∧
  ∀(j:Nat)(r:aU),((List.range m).filterMap (iM K rows))[j]? =some r↔∃i,i<m∧K[i]? =some true∧rows[i]? =some r∧j=pl K i
 |0,_=>⟨rfl,fun Z Z=>⟨(by intro h;cases h),by rintro⟨_,h,_⟩;exact absurd h (Nat.not_lt_zero _)⟩⟩
 |m+1,h=>by
  have I:=kB (m:=m) (aE h);obtain⟨r0,hr0⟩:∃r,rows[m]? =some r:=⟨_,bw h⟩;rw[List.range_succ,List.filterMap_append];by_cases hk:K[m]? =some true
  ·rw[show [m].filterMap (iM K rows)=[r0] by rw[List.filterMap_cons,zb hk hr0];rfl];refine⟨by rw[ai,I.1,eW hk];rfl,fun j r=>?_⟩;by_cases hj:j<pl K m
   ·rw[List.getElem?_append_left (I.1.symm▸hj),I.2];refine exists_congr fun i=>⟨fun q=>⟨Nat.lt_succ_of_lt q.1,q.2⟩,fun q=>⟨?_,q.2⟩⟩;refine(dA.1 q.1).resolve_right fun e=>?_
    rw[q.2.2.2,e]at hj;exact aZ _ hj
   ·rw[b8 (I.1.symm▸bS.1 hj),I.1];constructor
    ·intro e;have l:=(ag.1 e).1;have z:j=pl K m:=cL (Nat.sub_eq_zero_iff_le.1 (Nat.lt_one_iff.1 l)) (bS.1 hj);rw[z,Nat.sub_self]at e;exact⟨m,a4 m,hk,hr0.trans e,z⟩
    ·rintro⟨i,l,k,e,rfl⟩;have z:i=m:=cL (Nat.lt_succ_iff.1 l) (bS.1 fun g=>hj (nU k g));subst z;rw[Nat.sub_self];exact hr0.symm.trans e
  ·rw[show [m].filterMap (iM K rows)=[] by rw[List.filterMap_cons,Am hk];rfl,aK];refine⟨I.1.trans (ip hk).symm,fun j r=>(I.2 j r).trans (exists_congr fun i=>⟨fun q=>⟨Nat.lt_succ_of_lt q.1,q.2⟩,fun q=>⟨?_,q.2⟩⟩)⟩;exact(dA.1 q.1).resolve_right fun e=>hk (e▸q.2.1)
theorem cO:(cq K rows).length=pl K rows.length:=by unfold cq;rw[af];exact(kB (aM _)).1
theorem eA{r':aU}:(cq K rows)[j]? =some r'↔∃i r,K[i]? =some true∧rows[i]? =some r∧j=pl K i∧r'=r.map (pl K):=by
 unfold cq;rw[aV,bY];constructor
 ·rintro⟨r,h,rfl⟩;obtain⟨i,_,k,e,z⟩:=((kB (aM _)).2 j r).1 h;exact⟨i,r,k,e,z,rfl⟩
 ·rintro⟨i,r,k,e,z,rfl⟩;exact⟨r,((kB (aM _)).2 j r).2 ⟨i,(ag.1 e).1,k,e,z⟩,rfl⟩
theorem ei{r:aU}(h:K[i]? =some true)(hr:rows[i]? =some r):(cq K rows)[pl K i]? =some (r.map (pl K)):=eA.2 ⟨i,r,h,hr,rfl,rfl⟩
structure ct(rows:List aU)(cls:List Cl):Prop extends Wf rows cls where
 fine:∀j,f8 rows j
theorem Wf.good(W:Wf rows cls)(h:∀j,f8 rows j):ct rows cls:=⟨W,h⟩
theorem nV:∀j,pl K j≤j
 |0=>aM _
 |j+1=>by
  show pl K j+_≤_;exact bo (nV j) (by cases K[j]?.getD false<;>exact ae rfl)
theorem ct.keep(G:ct rows cls){L:List Cl}(hL:∀c∈L,c∈cls)(hf:L.length≤cls.length)
  (hg:∀(i:Nat)(r:aU),K[i]? =some true→rows[i]? =some r→∀g∈r.gs,pl K g<pl K rows.length)
  (hc:∀c∈L,pl K c.t0<pl K rows.length∧pl K c.h0<pl K rows.length∧(c.s=1→pl K c.x<pl K rows.length)):ct (cq K rows) (L.map (Cl.map (pl K))):=by
 have len:(cq K rows).length≤rows.length:=cO▸nV _
 have fine:∀j,f8 (cq K rows) j:=fun j r' h g m=>by
  obtain⟨i,r,k,e,_,rfl⟩:=eA.1 h;rw[gJ]at m;obtain⟨x,m',rfl⟩:=aP.1 m;rw[cO];exact hg i r k e x m'
 have get:∀r∈cq K rows,∃i:Nat,(cq K rows)[i]? =some r:=fun r m=>dn.1 m;refine⟨⟨fun r m=>?_,fun r m g k=>?_,fun c m=>?_,?_,aa len G.len⟩,fine⟩
 ·obtain⟨j,h⟩:=get r m;obtain⟨i,r',k,e,_,rfl⟩:=eA.1 h;exact xT (G.ok _ (ay e))
 ·obtain⟨j,h⟩:=get r m;exact aE (fine j r h g k)
 ·obtain⟨c',m',rfl⟩:=aP.1 m;have C:=hc c' m';rw[Cl.In,cO];refine⟨C.1,C.2.1,fun s=>?_,fL (G.cin c' (hL c' m')).2.2.2.1,fL (G.cin c' (hL c' m')).2.2.2.2⟩;show(if c'.s=1 then pl K c'.x else c'.x)<_;rw[aB (show c'.s=1 from s)];exact C.2.2 s
 ·rw[af];exact aa hf G.few
theorem ct.T(G:ct rows cls):ct (bB rows cls) cls:=by
 have hm:∀r∈bB rows cls,r.Ok∧∀g∈r.gs,g<rows.length:=fun r m=>by
  obtain⟨i,r',e,rfl⟩:=pe m;exact⟨vA (G.ok _ (ay e)),uB G.fine (G.fine i r' e)⟩
 exact⟨⟨fun r m=>(hm r m).1,fun r m g k=>aE (bA.symm▸(hm r m).2 g k),fun c m=>bA.symm▸G.cin c m,G.few,bA.symm▸G.len⟩,fun j r h g k=>bA.symm▸(hm r (ay h)).2 g k⟩
theorem jK(f:Nat→β){b:β}:((List.range n).map f)[i]? =some b↔i<n∧f i=b:=by
 rw[aV,bY];constructor
 ·rintro⟨j,h,e⟩;obtain⟨l,z⟩:=ag.1 h;rw[List.getElem_range]at z;subst z;exact⟨aO (n:=n)▸l,e⟩
 ·exact by rintro⟨l,e⟩;exact⟨i,List.getElem?_range l,e⟩
theorem qf:(kF rows cls)[i]? =some true↔i<rows.length∧lg rows cls i=true:=jK _
theorem mC(h:i<rows.length):pl (kF rows cls) i<pl (kF rows cls) rows.length:=by
 obtain⟨m,e⟩:∃m,rows.length=m+1:=⟨_,(Nat.succ_pred_eq_of_pos (aF (aQ _) h)).symm⟩
 have k:(kF rows cls)[m]? =some true:=qf.2 ⟨e▸a4 m,by
  unfold lg l7;cases rows[m]? with
  |none=>rfl
  |some r=>
   obtain⟨op,a⟩:=r;cases a with
   |go g=>
    show(!(decide (op=56)&&(decide (g=m+1)&&decide (m+1<rows.length)))||_)=true;rw[ao (p:=m+1<rows.length) (e▸aZ _),Bool.and_false,Bool.and_false];rfl
   |_=>rfl⟩
 rw[e];exact aF (fL (Nat.lt_succ_iff.1 (Nat.lt_of_lt_of_eq h e))) (nU k (a4 m))
theorem ct.round(G:ct rows cls):ct (rR rows cls) (rC rows cls):=
 G.T.keep (fun Z m=>m) (aM _) (fun i r Z e g m=>mC (G.T.fine i r e g m)) fun c m=>have I:=G.T.cin c m;⟨mC I.1,mC I.2.1,fun s=>mC (I.2.2.1 s)⟩
inductive fS:List aU→List Cl→List aU→List Cl→Prop
 |done {R C}:(rR R C).length=R.length→fS R C (rR R C) (rC R C)
 |more {R C R' C'}:(rR R C).length<R.length→fS (rR R C) (rC R C) R' C'→fS R C R' C'
theorem EK{test:Env→R Bool}{body:Env→R (Flow×Env)}{k:Nat}{ρ ρ':Env}{z}(h:test ρ=ok true)(b:body ρ=ok (.nxt,ρ'))(e:gS test body k ρ'=z):gS test body (k+1) ρ=z:=by
 subst e
 exact bq h (bq (f:=fun p:Flow×Env=>match p.1 with
  |.ret u=>ok (.ret u,p.2)
  |_=>gS test body k p.2) b rfl)
theorem He{test:Env→R Bool}{body:Env→R (Flow×Env)}{k:Nat}{ρ:Env}(h:test ρ=ok false):gS test body (k+1) ρ=ok (.nxt,ρ):=bq h rfl
theorem Ic{test:Env→R Bool}{body:Env→R (Flow×Env)}{k:Nat}{ρ:Env}(h:test ρ=ok true)(b:body ρ=exc):gS test body (k+1) ρ=exc:=
 bq h (pq b:bc (body ρ) (fun p:Flow×Env=>match p.1 with
  |.ret u=>ok (.ret u,p.2)
  |_=>gS test body k p.2)=exc)
theorem Cg{c:CE}{s:CS}{io:List Nat}{r:R (Flow×Env)}(h:gS (fun ρ=>bc (aY F c ρ) da) (bJ F io s) lim ρ=r):bJ F io (.J7 c s) ρ=r:=h
noncomputable def D7(R:List aU)(C:List Cl)(k:Nat):Env:=[some (false,aL R),some (false,bF C),some (false,nv k)]
theorem uv:(rR rows cls).length≤rows.length:=by unfold rR;rw[cO];exact aa (nV _) (bu bA)
theorem mO{b:Bool}(h:decide (rows.length<n)=b):bc (aY F (.h .lt (.un .len (.c 0)) (.c 2)) (D7 rows cls n)) da=ok b:=
 bq (aD (d7 rfl (a7 _ _)) rfl (aj (fun b=>ok (V.bool b)) ((oZ _ _).trans h))) rfl
theorem uR:∀(m k c:Nat)(R:List aU)(C:List Cl),ct R C→R.length<m→R.length<c→∃R' C',fS R C R' C'∧gS (fun ρ=>bc (aY (callF tab (d+4)) (.h .lt (.un .len (.c 0)) (.c 2)) ρ) da) (bJ (callF tab (d+4)) [] ie.tl.tl.hd.bd) (m+k+1) (D7 R C c)=ok (.nxt,D7 R' C' R'.length)
 |0,_,_,_,_,_,hm,_=>absurd hm (Nat.not_lt_zero _)
 |m+1,k,c,R,C,G,hm,hc=>by
  rw[Nat.succ_add]
  have b:bJ (callF tab (d+4)) [] ie.tl.tl.hd.bd (D7 R C c)=ok (.nxt,D7 (rR R C) (rC R C) R.length):=
   ax (bX (d7 rfl (a7 _ _))) (qN (bj rfl (Jo G.toWf G.fine)) rfl)
  rcases Nat.lt_or_ge (rR R C).length R.length with l|l
  ·obtain⟨R',C',I,e⟩:=uR m k R.length (rR R C) (rC R C) G.round (aS l (cz hm)) l;exact⟨R',C',.more l I,EK (mO (ak hc)) b e⟩
  ·have e:=cL uv l;exact⟨_,_,.done e,EK (mO (ak hc)) b (e▸He (mO (ao (e▸aZ _))))⟩
theorem Ik(G:ct rows cls):∃R' C',fS rows cls R' C'∧callF tab (d+5) 30 [aL rows,bF cls]=ok (.Js [aL R',bF C'],[]):=by
 obtain⟨R',C',I,e⟩:=uR (d:=d) 1001 98998 (rows.length+1) rows cls G (Nat.lt_succ_of_le G.len) (a4 _);rw[show 1001+98998+1=lim from rfl]at e;exact⟨R',C',I,fR rfl rfl rfl (ax (wG rfl (Ec G.ok G.cin G.few') rfl rfl) (ax (bX (aD (d7 rfl (a7 _ _)) rfl rfl)) (ax (ρ1:=D7 R' C' R'.length) (Cg e) (cX rfl))))⟩
theorem Hv(W:Wf rows cls)(h:¬∀j,f8 rows j):callF tab (d+5) 30 [aL rows,bF cls]=exc:=by
 have e:gS (fun ρ=>bc (aY (callF tab (d+4)) (.h .lt (.un .len (.c 0)) (.c 2)) ρ) da) (bJ (callF tab (d+4)) [] ie.tl.tl.hd.bd) lim (D7 rows cls (rows.length+1))=exc:=by
  rw[show lim=99999+1 from rfl];exact Ic (k:=99999) (mO (ak (a4 _))) (ax (bX (d7 rfl (a7 _ _))) (zU (callX rfl (H7 W h))))
 exact rN rfl rfl (ax (wG rfl (Ec W.ok W.cin W.few') rfl rfl) (ax (bX (aD (d7 rfl (a7 _ _)) rfl rfl)) (iC (Cg e))))
noncomputable def wg(mid flags ret:Int)(ps ns:List V):V:=.obj 59 [(1,.int mid),(11,.int 64),(12,.Jv 0),(13,.int 6),(5,.int flags),(14,.int 0),(15,.Jq []),(16,.Jq []),(3,.int ret),(4,.Js ps),(17,.Js ns),(18,.Jv 0),(19,.none),(20,.int 0)]
noncomputable def FQ:V:=.obj 60 [(6,.Jq ((List.range 16).map fun k=>.Js [.int 1,nv k])),(7,.Jv 16),(8,.Jq (List.replicate 16 (.int 1))),(9,.Jq (List.replicate 16 (.int 1))),(10,.Jq (List.replicate 16 (.int 0)))]
noncomputable def pU:V:=.obj 58 [(21,FQ),(22,.Jq [.none]),(23,.Jq [.none]),(2,.Jq [.none,wg 1 1 7 [] [],wg 2 1 0 [.int 7,.int 7] [.Jv 0,.Jv 0],wg 3 0 7 [.int 7] [.Jv 0],wg 4 0 0 [] [],wg 5 1 0 [.int 7] [.Jv 0],wg 6 0 7 [] []]),(24,.Jv 0),(25,.Jq []),(26,.int 0)]
theorem IO:callF tab (d+3) 62 []=ok (pU,[]):=by kernel_rfl
noncomputable def gr(b:Nat):V:=.obj 57 [(0,pU),(1,.int (5+b))]
theorem I8(b:Nat):callF tab (d+1) 57 [.obj 57 [],pU,.int (5+b)]=ok (.none,[gr b]):=rfl
noncomputable def tg(b:Nat)(r:aU):Nat×Nat:=match r.arg with
 |.me 1=>(0,1)
 |.me 2=>(2,0)
 |.me 3=>(2,1)
 |.me _=>(1,0)
 |_=>if r.op=42 then(b,0)else match eU r.op with
  |some (a,c)=>(a.toNat,c.toNat)
  |none=>(0,0)
theorem c5{b:Nat}(hb:b<2):∀{r:aU},r.Ok→callF tab (d+5) 5 [r.v,gr b]=ok (.Js [nv (tg b r).1,nv (tg b r).2],[])
 |⟨op,.go g⟩,h=>dP (l:=iL) (p:=fun op=>callF tab (d+5) 5 [.Js [.int op,nv g],gr b]=ok (.Js [nv (tg b ⟨op,.go g⟩).1,nv (tg b ⟨op,.go g⟩).2],[])) (by repeat' (first | exact trivial | refine⟨rfl,?_⟩)) h
 |⟨op,.sw gs⟩,h=>by obtain rfl:=(show op=69 from h.1);rfl
 |⟨op,.num k⟩,h=>by
  obtain rfl|rfl:=(by decide:∀b,b<2→b=0∨b=1) b hb
  ·exact dP (l:=fH) (p:=fun op=>callF tab (d+5) 5 [.Js [.int op,.int k],gr 0]=ok (.Js [nv (tg 0 ⟨op,.num k⟩).1,nv (tg 0 ⟨op,.num k⟩).2],[])) (by repeat' (first | exact trivial | refine⟨rfl,?_⟩)) h
  ·exact dP (l:=fH) (p:=fun op=>callF tab (d+5) 5 [.Js [.int op,.int k],gr 1]=ok (.Js [nv (tg 1 ⟨op,.num k⟩).1,nv (tg 1 ⟨op,.num k⟩).2],[])) (by repeat' (first | exact trivial | refine⟨rfl,?_⟩)) h
 |⟨op,.me k⟩,h=>by
  obtain rfl|rfl|rfl|rfl:=(by decide:∀k,k<5→1≤k→k=1∨k=2∨k=3∨k=4) k (Nat.lt_succ_of_le h.2.2) h.2.1
  all_goals obtain rfl | rfl:op=40∨op=111:=h.1
  all_goals rfl
variable{σ:Type}{b:Nat}
noncomputable abbrev ov(o:Option Nat):V:=match o with
 |none=>.int (-1)
 |some k=>nv k
noncomputable abbrev dv(l:List (Option Nat)):V:=.Jq (l.map ov)
noncomputable abbrev DW:=List (Option Nat)×List Nat
noncomputable def q9(s:DW)(g k:Nat):Option DW:=match s.1[g]? with
 |some none=>some (s.1.set g (some k),s.2++[g])
 |some (some k')=>if k'=k then some s else none
 |none=>none
noncomputable def oc(E:σ→Env):Option σ→R (Flow×Env)
 |some s=>ok (.nxt,E s)
 |none=>exc
theorem p8{enc:β→V}{step:V→Env→R (Flow×Env)}(E:σ→Env)(f:σ→β→Option σ)(I:σ→Prop):∀{l:List β}{s:σ},(∀s x,x∈l→I s→step (enc x) (E s)=oc E (f s x)∧∀s',f s x=some s'→I s')→I s→fT step (l.map enc) (E s)=oc E (l.foldlM f s)
 | [],_,_,_=>rfl
 |x::l,s,h,hs=>by
  have hx:=h s x (.head _) hs;rw[cM];cases e:f s x with
  |none=>rw[e]at hx;exact pq hx.1
  |some s'=>rw[e]at hx;exact bq (f:=fun p:Flow×Env=>match p.1 with
    |.ret u=>ok (.ret u,p.2)
    |_=>fT step (l.map enc) p.2) hx.1 (p8 E f I (fun s x m=>h s x (.tail _ m)) (hx.2 s' rfl))
noncomputable def uo:List (Option Nat)→Nat
 | []=>0
 |o::l=>(match o with
  |none=>1
  |some _=>0)+uo l
theorem tI:∀{l:List (Option Nat)}{g k:Nat},l[g]? =some none→uo (l.set g (some k))+1=uo l
 |none::l,0,_,_=>by show 0+uo l+1=1+uo l;rw[cI,cv]
 |o::l,g+1,k,h=>by
  have:=tI (l:=l) (g:=g) (k:=k) h;show _+uo (l.set g (some k))+1=_+uo l;rw[bO,this]
noncomputable def wo(s:DW):Nat:=uo s.1+s.2.length
theorem pY{s s':DW}{g k:Nat}(h:q9 s g k=some s'):wo s'=wo s:=by
 unfold q9 at h;split at h
 ·rename_i e;obtain rfl:=ah (h);show uo _+(s.2++[g]).length=uo s.1+s.2.length;rw[ai,←tI (k:=k) e,bO,cv 1];rfl
 ·split at h
  ·obtain rfl:=ah (h);rfl
  ·exact nomatch h
 ·exact nomatch h
theorem IQ{s:DW}{g k:Nat}(h:s.2.length≤lim):callF tab (d+1) 13 [dv s.1,cW s.2,nv g,nv k]=match q9 s g k with
  |some s'=>ok (.none,[dv s'.1,cW s'.2])
  |none=>exc:=by
 have c1 {b:Bool} (e:decide ((s.1.length:Int)≤g)=b):aY (callF tab d) (.u (.D (.h .lt (.c 2) (.f (.int 0))) (.h .ge (.c 2) (.un .len (.c 0))))) [some (true,dv s.1),some (true,cW s.2),some (false,nv g),some (false,nv k)]=ok (.bool b):=
  dM (mh rfl rfl tc (aD rfl (d7 rfl (a7 _ _)) (aj (fun b=>ok (V.bool b)) e))) rfl
 unfold q9;cases q:s.1[g]? with
 |none=>
  have hg:¬g<s.1.length:=fun l=>by rw[bw l]at q;nomatch q
  exact rN rfl rfl (iC (gu (c1 (G3 hg)) rfl (yc rfl)))
 |some o=>
  have hg:=(ag.1 q).1;have c0:=c1 (Ef hg);have it:aY (callF tab d) (.h .item (.c 0) (.c 2)) (plain [some (true,dv s.1),some (true,cW s.2),some (false,nv g),some (false,nv k)])=ok (ov o):=aD rfl rfl (aW q);cases o with
  |none=>
   have k1:bJ (callF tab d) [0,1] (.seq (.J3 0 (.c 2) (.c 3)) (.app 1 (.c 2))) [some (true,dv s.1),some (true,cW s.2),some (false,nv g),some (false,nv k)]=ok (.nxt,[some (true,.Jq ((s.1.map ov).set g (nv k))),some (true,.Jq (s.2.map nv++[nv g])),some (false,nv g),some (false,nv k)]):=
    ax (yj (l:=s.1.map ov) (j:=g) rfl rfl rfl (by rw[af];exact(aB (bL g)).trans (aB hg))) (fj (l:=s.2.map nv) rfl rfl (by rw[af];exact h))
   refine(CU (fn:=⟨4,4,[0,1],false,iE⟩) rfl rfl rfl (ax (eH c0 rfl rfl) (gu (dM (aD it rfl rfl) rfl) rfl k1)) rfl).trans ?_
   show ok _=ok (V.none,[V.Jq ((s.1.set g (some k)).map ov),V.Jq ((s.2++[g]).map nv)]);rw[List.map_set,aw];rfl
  |some k'=>
   have c2:aY (callF tab d) (.u (.h .lt (.h .item (.c 0) (.c 2)) (.f (.int 0)))) [some (true,dv s.1),some (true,cW s.2),some (false,nv g),some (false,nv k)]=ok (.bool false):=dM (aD it rfl (aj (fun b=>ok (V.bool b)) tc)) rfl;have c3:aY (callF tab d) (.u (.h .ne (.h .item (.c 0) (.c 2)) (.c 3))) [some (true,dv s.1),some (true,cW s.2),some (false,nv g),some (false,nv k)]=ok (.bool !(decide (k'=k))):=dM (aD it rfl (aj (fun b=>ok (V.bool !b)) (uN k' k))) rfl;by_cases e:k'=k
   ·rw[ak e]at c3
    show _=(match(if k'=k then some s else none:Option DW) with
     |some s'=>ok (V.none,[dv s'.1,cW s'.2])
     |none=>exc)
    rw[aB e];exact CU (fn:=⟨4,4,[0,1],false,iE⟩) rfl rfl rfl (ax (eH c0 rfl rfl) (eH c2 rfl (eH c3 rfl rfl))) rfl
   ·rw[ao e]at c3
    show _=(match(if k'=k then some s else none:Option DW) with
     |some s'=>ok (V.none,[dv s'.1,cW s'.2])
     |none=>exc)
    rw[aC e];exact rN rfl rfl (ax (eH c0 rfl rfl) (eH c2 rfl (gu c3 rfl (yc rfl))))
variable{τ:Type}
theorem Ci{io:List Nat}{s t:CS}{E:σ→Env}{E':τ→Env}{o:Option σ}{f:σ→Option τ}(h:bJ F io s ρ=oc E o)(k:∀s',o=some s'→bJ F io t (E s')=oc E' (f s')):bJ F io (.seq s t) ρ=oc E' (o.bind f):=by
 cases o with
 |none=>exact pq h
 |some s'=>exact ax h (k s' rfl)
theorem kX{as:List (Option Nat×V)}{e:CE}{io:List Nat}{s:DW}{g k:Nat}{E:DW→Env}(h:yU (callF tab (d+1)) ρ e=ok as)(ha:as.map (·.2)=[dv s.1,cW s.2,nv g,nv k])(hl:s.2.length≤lim)(hb:∀s':DW,qU as [dv s'.1,cW s'.2] ρ=some (E s')):bJ (callF tab (d+1)) io (.callX 13 e) ρ=oc E (q9 s g k):=by
 have c:=IQ (d:=d) (s:=s) (g:=g) (k:=k) hl;rw[←ha]at c;cases q:q9 s g k with
 |none=>rw[q]at c;exact Hu h c
 |some s'=>rw[q]at c;exact wG h c rfl (hb s')
noncomputable def fQ(b:Nat)(r:aU)(k:Nat):Nat:=if r.op=221 then 0 else k - (tg b r).1+(tg b r).2
theorem xI{op:Int}(h:op∈cw):decide (il op<0)=false:=(by decide+kernel:∀op∈cw,decide (il op<0)=false) op h
noncomputable def Iy(rows:List aU)(i k b:Nat)(r:aU):Env:=[some (false,aL rows),some (false,nv i),some (false,nv k),some (false,gr b),some (false,nv (tg b r).1),some (false,nv (tg b r).2)]
theorem Il{r:aU}{k:Nat}(hb:b<2)(hr:rows[i]? =some r)(ho:r.Ok):((tg b r).1≤k∧callF tab (d+6) 15 [aL rows,nv i,nv k,gr b]=ok (nv (fQ b r k),[]))∨(¬(tg b r).1≤k∧callF tab (d+6) 15 [aL rows,nv i,nv k,gr b]=exc):=by
 have pre {z} (h:bJ (callF tab (d+5)) [] gj.tl.tl (Iy rows i k b r)=z):bJ (callF tab (d+5)) [] gj (gp ⟨4,6,[],false,gj⟩ [aL rows,nv i,nv k,gr b])=z:=
  ax (cU (aD (bj (a6 (aD (aD rfl rfl (aW hr)) rfl rfl) rfl) (c1 ho.Kc)) rfl rfl) rfl (xI ho.Kc) rfl) (ax (qN (bj (a6 (aD rfl rfl (aW hr)) rfl) (c5 hb ho)) rfl) h)
 have e:aY (callF tab (d+5)) (.h .eq (.h .item (.h .item (.c 0) (.c 1)) (.f (.int 0))) (.f (.int 221))) (Iy rows i k b r)=ok (.bool (decide (r.op=221))):=aD (aD (aD rfl rfl (aW hr)) rfl rfl) rfl rfl;by_cases h:(tg b r).1≤k
 ·refine .inl ⟨h,?_⟩;have q:decide ((k:Int)<(tg b r).1)=false:=ao (Int.not_lt.2 (bC.2 h));unfold fQ;by_cases o:r.op=221
  ·rw[aB o];exact fR rfl rfl rfl (pre (ax (cU rfl rfl q rfl) (ia (eK e rfl (ak o) (cX rfl)))))
  ·rw[aC o];refine fR rfl rfl rfl (pre (ax (cU rfl rfl q rfl) (ax (cU e rfl (ao o) rfl) (cX ?_))));show ok (V.int ((k:Int) - ((tg b r).1:Int)+((tg b r).2:Int)))=ok (V.int ((k - (tg b r).1+(tg b r).2:Nat):Int));rw[Int.natCast_add,Int.ofNat_sub h]
 ·exact .inr ⟨h,rN rfl rfl (pre (iC (eK rfl rfl (ak (dT.2 (Nat.not_le.1 h))) (yc rfl))))⟩
noncomputable def iy(s:DW)(p:Nat×Nat):Option DW:=q9 s p.1 p.2
noncomputable def sd(c:Cl):Nat:=if c.s=0∨c.s=1 then 1 else 0
noncomputable def dQ(c:Cl):List (Nat×Nat):=(c.h0,sd c)::(if c.s=1 then [(c.x,1)]else [])
theorem mL:∀{l:List (Nat×Nat)}{s s':DW},l.foldlM iy s=some s'→wo s'=wo s
 | [],s,s',h=>by obtain rfl:=ah (h);rfl
 |p::l,s,s',h=>by
  rw[cM]at h;obtain⟨t,a,b⟩:=bG.1 h;exact(mL b).trans (pY a)
theorem qk{s:DW}(h:wo s≤lim):s.2.length≤lim:=aa (cn _ _) h
noncomputable def xq(rows:List aU)(cls:List Cl)(x4 x5:Option (Bool×V))(s:DW):Env:=[some (false,aL rows),some (false,bF cls),some (true,dv s.1),some (true,cW s.2),x4,x5]
theorem zF{c:Cl}{s:DW}(h:wo s≤lim):bc (ft (cS (.v 4) c.v (xq rows cls none none s))) (bJ (callF tab (d+1)) [2,3] eg.tl.bd)=oc (xq rows cls none none) ((dQ c).foldlM iy s):=by
 have s0:bJ (callF tab (d+1)) [2,3] eg.tl.bd.tl.hd (xq rows cls (some (false,c.v)) (some (false,.int 0)) s)=ok (.nxt,xq rows cls (some (false,c.v)) (some (false,nv (sd c))) s):=by
  unfold sd;by_cases h0:c.s=0
  ·rw[aB (.inl h0)];exact eK (Ee rfl rfl (ak (aj Int.ofNat h0))) rfl (ak (aj Int.ofNat h0)) (bX rfl)
  ·have n0:decide ((c.s:Int)=0)=false:=ao fun e=>h0 (aX e);by_cases h1:c.s=1
   ·rw[aB (.inr h1)];exact eK (mh rfl rfl n0 rfl) rfl (ak (aj Int.ofNat h1)) (bX rfl)
   ·rw[aC (fun h=>h.elim h0 h1)];exact cU (mh rfl rfl n0 rfl) rfl (ao fun e=>h1 (aX e)) rfl
 have s1:bJ (callF tab (d+1)) [2,3] eg.tl.bd.tl.tl.hd (xq rows cls (some (false,c.v)) (some (false,nv (sd c))) s)=oc (xq rows cls (some (false,c.v)) (some (false,nv (sd c)))) (q9 s c.h0 (sd c)):=kX rfl rfl (qk h) fun Z=>rfl;refine ax (bX rfl) (ax s0 ?_);unfold dQ;rw[cM];refine Ci s1 fun s' e=>?_
 by_cases h1:c.s=1
 ·rw[aB h1,cM];refine Ci (E:=xq rows cls (some (false,c.v)) (some (false,nv (sd c)))) (eK rfl rfl (ak (aj Int.ofNat h1)) (kX rfl rfl (qk (show wo s'≤lim from pY e▸h)) fun Z=>rfl)) fun s'' Z=>rfl
 ·rw[aC h1];exact ax (cU rfl rfl (ao fun e=>h1 (aX e)) rfl) rfl
end
section
variable{F:FT}{d n i j b:Nat}{ρ:Env}{rows:List aU}{cls:List Cl}
structure jo(L:List (Nat×Nat))(s s':DW):Prop where
 len:s'.1.length=s.1.length
 mono:∀j k:Nat,s.1[j]? =some (some k)→s'.1[j]? =some (some k)
 only:∀j k:Nat,s'.1[j]? =some (some k)→s.1[j]? =some (some k)∨(j∈s'.2∧(j,k)∈L)
 sub:∀j∈s.2,j∈s'.2
 wk:∀j∈s'.2,j∈s.2∨∃k,s'.1[j]? =some (some k)
 adds:∀p∈L,s'.1[p.1]? =some (some p.2)
 un:2*uo s'.1+s'.2.length≤2*uo s.1+s.2.length
set_option tactic.hygienic true in
theorem jo.one{s s':DW}{g k:Nat}(h:q9 s g k=some s'):jo [(g,k)] s s':=by
 unfold q9 at h;split at h
 ·rename_i e;obtain rfl:=ah (h);have hl:=(ag.1 e).1;refine⟨List.length_set,fun j c q=>(dF fun z=>by rw[←z,e]at q;nomatch q).trans q,fun j c q=>?_,fun j m=>bE _ m,fun j m=>?_,fun p m=>?_,?_⟩
  ·by_cases z:g=j
   ·subst z;rw[dU hl]at q;cases q;exact .inr ⟨aA _ (.head _),.head _⟩
   ·exact .inl ((dF z).symm.trans q)
  ·refine(a9.1 m).imp id fun m=>?_
   rw[aq.1 m];exact⟨k,dU hl⟩
  ·rw[aq.1 m];exact dU hl
  ·show 2*uo (s.1.set g (some k))+(s.2++[g]).length≤_;rw[ai,←tI (k:=k) e,Nat.mul_succ,bO,cv 2];exact aR (d8 _) _
 ·rename_i k' e;split at h
  ·rename_i z;obtain rfl:=ah (h);exact⟨rfl,fun Z Z q=>q,fun Z Z q=>.inl q,fun Z m=>m,fun Z m=>.inl m,fun p m=>aq.1 m▸z▸e,aM _⟩
  ·exact nomatch h
 ·exact nomatch h
set_option tactic.hygienic true in
theorem jo.all:∀{l:List (Nat×Nat)}{s s':DW},l.foldlM iy s=some s'→jo l s s'
 | [],s,s',h=>by obtain rfl:=ah (h);exact⟨rfl,fun Z Z q=>q,fun Z Z q=>.inl q,fun Z m=>m,fun Z m=>.inl m,(by intro _ h;cases h),aM _⟩
 |p::l,s,s',h=>by
  rw[cM]at h;obtain⟨t,a,c⟩:=bG.1 h;have A:=jo.one a;have B:=jo.all c;refine⟨B.len.trans A.len,fun j k e=>B.mono j k (A.mono j k e),fun j k e=>?_,fun j m=>B.sub j (A.sub j m),fun j m=>?_,fun q m=>?_,aa B.un A.un⟩
  ·exact(B.only j k e).elim (fun e=>(A.only j k e).imp id fun⟨x,y⟩=>⟨B.sub j x,aq.1 y▸.head _⟩) fun⟨x,y⟩=>.inr ⟨x,.tail _ y⟩
  ·exact(B.wk j m).elim (fun m=>(A.wk j m).imp id fun⟨k,e⟩=>⟨k,B.mono j k e⟩) .inr
  ·exact(az.1 m).elim (fun e=>e▸B.mono _ _ (A.adds p (.head _))) fun m=>B.adds q m
set_option tactic.hygienic true in
theorem lK:∀{l:List (Nat×Nat)}{s:DW},l.foldlM iy s=none→∃g k,(g,k)∈l∧(s.1.length≤g∨∃k',k'≠k∧(s.1[g]? =some (some k')∨(g,k')∈l))
 |p::l,s,h=>by
  rw[cM]at h;cases a:iy s p with
  |none=>
   unfold iy q9 at a;split at a
   ·cases a
   ·rename_i k' e;split at a
    ·exact nomatch a
    ·rename_i z;exact⟨p.1,p.2,.head _,.inr ⟨k',z,.inl e⟩⟩
   ·rename_i e;exact⟨p.1,p.2,.head _,.inl (cA.1 e)⟩
  |some t=>
   rw[a]at h;obtain⟨g,k,m,q⟩:=lK (show l.foldlM iy t=none from h);refine⟨g,k,.tail _ m,q.imp (fun q=>(jo.one (show q9 s p.1 p.2=some t from a)).len▸q) fun⟨k',ne,q⟩=>⟨k',ne,?_⟩⟩;exact q.elim (fun q=>((jo.one (show q9 s p.1 p.2=some t from a)).only g k' q).imp id fun⟨Z1,y⟩=>aq.1 y▸.head _) fun m=>.inr (.tail _ m)
inductive jV(rows:List aU)(cls:List Cl)(b:Nat):Nat→Nat→Prop
 |zero:jV rows cls b 0 0
 |Ky {c p}:c∈cls→p∈dQ c→jV rows cls b p.1 p.2
 |go {i k r g}:jV rows cls b i k→rows[i]? =some r→(tg b r).1≤k→g∈iA rows.length i r→jV rows cls b g (fQ b r k)
structure hV(rows:List aU)(cls:List Cl)(b:Nat):Prop where
 one:∀i k k',jV rows cls b i k→jV rows cls b i k'→k=k'
 full:∀i k r,jV rows cls b i k→rows[i]? =some r→(tg b r).1≤k
structure lU(rows:List aU)(cls:List Cl)(b m:Nat):Prop where
 le:∀i k r,jV rows cls b i k→rows[i]? =some r→k≤m∧fQ b r k≤m
 at_:m=0∨∃i k r,jV rows cls b i k∧rows[i]? =some r∧(m=k∨m=fQ b r k)
noncomputable def nW(cls:List Cl):List (Nat×Nat):=cls.flatMap dQ
theorem pJ:∀(l:List Cl)(s:DW),(nW l).foldlM iy s=l.foldlM (fun s c=>(dQ c).foldlM iy s) s
 | [],_=>rfl
 |c::l,s=>by
  show((dQ c)++nW l).foldlM iy s=_;rw[List.foldlM_append,cM];exact aj _ (funext fun s=>pJ l s)
theorem Jb(h0:0<rows.length)(hl:cls.length≤lim){s:DW}(h:wo s≤lim):callF tab (d+2) 14 [aL rows,bF cls,dv s.1,cW s.2]=match((0,0)::nW cls).foldlM iy s with
  |some s'=>ok (.none,[dv s'.1,cW s'.2])
  |none=>exc:=by
 have a:bJ (callF tab (d+1)) [2,3] eg (xq rows cls none none s)=oc (xq rows cls none none) (((0,0)::nW cls).foldlM iy s):=by
  rw[cM];refine Ci (E:=xq rows cls none none) (eK (aD (d7 rfl (a7 _ _)) rfl rfl) rfl (ak (Int.natCast_pos.2 h0)) (kX (s:=s) (g:=0) (k:=0) rfl rfl (qk h) fun Z=>rfl)) fun s' e=>?_
  rw[pJ];exact gL rfl rfl (by rw[af];exact hl) (p8 (xq rows cls none none) (fun s c=>(dQ c).foldlM iy s) (fun s=>wo s≤lim) (fun s c Z I=>⟨zF I,fun s' e=>mL e▸I⟩) (pY e▸h))
 generalize ((0,0)::nW cls).foldlM iy s=o at a;cases o with
 |none=>exact rN rfl rfl a
 |some s'=>exact CU (fn:=⟨4,6,[2,3],false,eg⟩) rfl rfl rfl a rfl
end
section
variable{F:FT}{d n i j b:Nat}{ρ:Env}{rows:List aU}{cls:List Cl}
structure DI(rows:List aU)(cls:List Cl)(b:Nat)(s:DW)(m:Nat):Prop where
 len:s.1.length=rows.length
 wt:wo s≤lim
 sound:∀j k:Nat,s.1[j]? =some (some k)→jV rows cls b j k
 work:∀j∈s.2,∃k,s.1[j]? =some (some k)
 done:∀j k:Nat,s.1[j]? =some (some k)→j∈s.2∨∀r,rows[j]? =some r→(tg b r).1≤k∧(k≤m∧fQ b r k≤m)∧∀g∈iA rows.length j r,s.1[g]? =some (some (fQ b r k))
 seeds:∀p∈(0,0)::nW cls,s.1[p.1]? =some (some p.2)
 top:m=0∨∃i k r,jV rows cls b i k∧rows[i]? =some r∧(m=k∨m=fQ b r k)
theorem jE{p:Nat×Nat}:p∈nW cls↔∃c∈cls,p∈dQ c:=List.mem_flatMap
theorem mX{p:Nat×Nat}(h:p∈(0,0)::nW cls):jV rows cls b p.1 p.2:=by
 rcases az.1 h with rfl|h
 ·exact .zero
 ·obtain⟨c,m,q⟩:=jE.1 h;exact .Ky m q
theorem DI.fin{s:List (Option Nat)}{m:Nat}(I:DI rows cls b (s,[]) m):hV rows cls b∧lU rows cls b m:=by
 have C:∀j k:Nat,s[j]? =some (some k)→_:=fun j k e=>(I.done j k e).resolve_left (by intro h;cases h)
 have all:∀i k,jV rows cls b i k→s[i]? =some (some k):=fun i k D=>by
  induction D with
  |zero=>exact I.seeds (0,0) (.head _)
  |Ky m q=>exact I.seeds _ (.tail _ (jE.2 ⟨_,m,q⟩))
  |go _ hr _ g ih=>exact(C _ _ ih _ hr).2.2 _ g
 exact⟨⟨fun i k k' a c=>ah (ah ((all i k a).symm.trans (all i k' c))),fun i k r a e=>(C i k (all i k a) r e).1⟩,⟨fun i k r a e=>(C i k (all i k a) r e).2.1,I.top⟩⟩
noncomputable def mE(rows:List aU)(cls:List Cl)(b m:Nat)(x6 x7 x8:Option (Bool×V))(s:DW):Env:=[some (false,aL rows),some (false,bF cls),some (false,gr b),some (true,dv s.1),some (true,cW s.2),some (false,nv m),x6,x7,x8]
theorem Gk{e:CE}(h:aY F e (plain ρ)=exc):aY F (.u e) ρ=exc:=pq h
noncomputable def Ej(l:List Nat)(a:Nat):List (Nat×Nat):=l.map fun g=>(g,a)
theorem rL(a:Nat):∀(l:List Nat)(s:DW),(Ej l a).foldlM iy s=l.foldlM (fun s g=>q9 s g a) s
 | [],_=>rfl
 |g::l,s=>by
  show((g,a)::Ej l a).foldlM iy s=_;rw[cM,cM];exact aj _ (funext fun s=>rL a l s)
theorem A5{D:List (Option Nat)}{w0:List Nat}{m:Nat}:bJ F [] (.JT (.v 6) 4) (mE rows cls b m none none none (D,w0++[i]))=ok (.nxt,mE rows cls b m (some (false,nv i)) none none (D,w0)):=by
 have h1:ft ((w0++[i]).map nv).getLast? =ok (nv i):=by rw[aw];exact aj ft List.getLast?_concat
 have h2:((w0++[i]).map nv).dropLast=w0.map nv:=by rw[aw];exact List.dropLast_concat
 refine bq (a:=(w0++[i]).map nv) rfl (bq h1 ?_);rw[h2];rfl
theorem Bj{c e:CE}{x m:Nat}{x6 x7 x8:Option (Bool×V)}{s:DW}(hc:aY F c (mE rows cls b m x6 x7 x8 s)=ok (.bool (decide (m<x))))(he:aY F e (mE rows cls b m x6 x7 x8 s)=ok (nv x)):bJ F [] (.p c (.q (.v 5) e) .k) (mE rows cls b m x6 x7 x8 s)=ok (.nxt,mE rows cls b (max m x) x6 x7 x8 s):=by
 by_cases h:m<x
 ·rw[Nat.max_eq_right (aE h)];exact eK hc rfl (ak h) (bX he)
 ·rw[Nat.max_eq_left (bS.1 h)];exact cU hc rfl (ao h) rfl
theorem DQ(W:Wf rows cls)(hb:b<2){r:aU}(hr:rows[i]? =some r)(hf:f8 rows i){D:List (Option Nat)}{w0:List Nat}{m k:Nat}(hk:D[i]? =some (some k))(h:wo (D,w0)≤lim)(ht:(tg b r).1≤k):bJ (callF tab (d+6)) [] dB.tl.tl.tl.tl.tl.hd.bd (mE rows cls b m none none none (D,w0++[i]))=oc (mE rows cls b (max (max m k) (fQ b r k)) none none none) ((Ej (iA rows.length i r) (fQ b r k)).foldlM iy (D,w0)):=by
 have ho:=W.ok r (ay hr);have it:∀m x7 x8,aY (callF tab (d+6)) (.u (.h .item (.c 3) (.c 6))) (mE rows cls b m (some (false,nv i)) x7 x8 (D,w0))=ok (nv k):=fun Z Z Z=>dM (aD rfl rfl (aW hk)) rfl;have gt:∀m x7 x8,aY (callF tab (d+6)) (.u (.h .gt (.h .item (.c 3) (.c 6)) (.c 5))) (mE rows cls b m (some (false,nv i)) x7 x8 (D,w0))=ok (.bool (decide (m<k))):=fun m Z Z=>dM (aD (aD rfl rfl (aW hk)) rfl (aj (fun b=>ok (V.bool b)) (oZ m k))) rfl;refine ax A5 (ax (bX (dM (bj (a6 rfl (a6 rfl (a6 (aD rfl rfl (aW hk)) rfl))) (((Il (d:=d) (k:=k) hb hr ho).resolve_right fun q=>q.1 ht).2)) rfl)) (ax (Bj (x7:=some (false,nv (fQ b r k))) (x8:=none) (gt m _ _) (it m _ _)) (ax (Bj (x:=fQ b r k) (aD rfl rfl (aj (fun b=>ok (V.bool b)) (oZ _ _))) rfl) ?_)));rw[rL]
 have q:bJ (callF tab (d+6)) [] dB.tl.tl.tl.tl.tl.hd.bd.tl.tl.tl.tl.hd (mE rows cls b (max (max m k) (fQ b r k)) (some (false,nv i)) (some (false,nv (fQ b r k))) none (D,w0))=oc (mE rows cls b (max (max m k) (fQ b r k)) (some (false,nv i)) (some (false,nv (fQ b r k))) none) ((iA rows.length i r).foldlM (fun s g=>q9 s g (fQ b r k)) (D,w0)):=by
  refine gL (bj rfl (GC hr ho (hf r hr))) rfl ?_ (p8 (mE rows cls b (max (max m k) (fQ b r k)) (some (false,nv i)) (some (false,nv (fQ b r k))) none) (fun s g=>q9 s g (fQ b r k)) (fun s=>wo s≤lim) (fun s g Z I=>⟨?_,fun s' e=>pY e▸I⟩) h)
  ·rw[af];exact aa (iS _ _) (aa (bo (kC _ _ _) ho.short) (ae rfl))
  ·have c:=kX (d:=d+5) (io:=[]) (ρ:=mE rows cls b (max (max m k) (fQ b r k)) (some (false,nv i)) (some (false,nv (fQ b r k))) (some (false,nv g)) s) (e:=.cons (.own 3) (.cons (.own 4) (.cons (.c 8) (.cons (.c 7) .nil)))) (E:=mE rows cls b (max (max m k) (fQ b r k)) (some (false,nv i)) (some (false,nv (fQ b r k))) (some (false,nv g))) (g:=g) (k:=fQ b r k) (s:=s) rfl rfl (qk I) fun Z=>rfl;show bJ _ [] (.seq _ (.r 8)) _=_;cases e:q9 s g (fQ b r k) with
   |none=>rw[e]at c;exact iC c
   |some s'=>rw[e]at c;exact ax c rfl
 generalize (iA rows.length i r).foldlM (fun s g=>q9 s g (fQ b r k)) (D,w0)=o at q;cases o with
 |none=>exact pq q
 |some s'=>exact ax q rfl
theorem Aq(W:Wf rows cls)(hb:b<2){r:aU}(hr:rows[i]? =some r){D:List (Option Nat)}{w0:List Nat}{m k:Nat}(hk:D[i]? =some (some k))(ht:¬(tg b r).1≤k):bJ (callF tab (d+6)) [] dB.tl.tl.tl.tl.tl.hd.bd (mE rows cls b m none none none (D,w0++[i]))=exc:=by
 exact bq A5 (pq (zU (Gk (callX (a6 rfl (a6 rfl (a6 (aD rfl rfl (aW hk)) rfl))) (((Il (d:=d) (k:=k) hb hr (W.ok r (ay hr))).resolve_left fun q=>ht q.1).2)))))
theorem DI.step{D:List (Option Nat)}{w0:List Nat}{m k:Nat}{r:aU}{s':DW}(I:DI rows cls b (D,w0++[i]) m)(hr:rows[i]? =some r)(hk:D[i]? =some (some k))(ht:(tg b r).1≤k)(h:(Ej (iA rows.length i r) (fQ b r k)).foldlM iy (D,w0)=some s'):DI rows cls b s' (max (max m k) (fQ b r k)):=by
 have G:=jo.all h;have hi:=I.sound i k hk
 have mp:∀{g a:Nat},(g,a)∈Ej (iA rows.length i r) (fQ b r k)→g∈iA rows.length i r∧a=fQ b r k:=fun q=>by
  obtain⟨x,m,e⟩:=aP.1 q;cases e;exact⟨m,rfl⟩
 refine⟨G.len.trans I.len,?_,fun j a e=>?_,fun j q=>(G.wk j q).elim (fun q=>?_) id,fun j a e=>?_,fun p q=>G.mono _ _ (I.seeds p q),?_⟩
 ·rw[mL h];refine aa (aR ?_ _) I.wt;show w0.length≤(w0++[i]).length;rw[ai];exact bD _ _
 ·refine(G.only j a e).elim (I.sound j a) fun q=>?_
  obtain⟨x,rfl⟩:=mp q.2;exact .go hi hr ht x
 ·obtain⟨a,e⟩:=I.work j (bE _ q);exact⟨a,G.mono j a e⟩
 ·refine(G.only j a e).elim (fun e=>(I.done j a e).elim (fun q=>?_) fun c=>.inr fun r' hr'=>?_) fun q=>.inl q.1
  ·refine(a9.1 q).elim (fun q=>.inl (G.sub j q)) fun q=>.inr fun r' hr'=>?_
   cases aq.1 q;obtain rfl:=ah (ah (hk.symm.trans e));obtain rfl:=ah (hr.symm.trans hr');exact⟨ht,⟨aa (Nat.le_max_right _ _) (Nat.le_max_left _ _),Nat.le_max_right _ _⟩,fun g q=>G.adds (g,fQ b r k) (aP.2 ⟨g,q,rfl⟩)⟩
  ·have:=c r' hr';exact⟨this.1,⟨aa this.2.1.1 (show m≤max (max m k) (fQ b r k)from aa (Nat.le_max_left _ _) (Nat.le_max_left _ _)),aa this.2.1.2 (show m≤max (max m k) (fQ b r k)from aa (Nat.le_max_left _ _) (Nat.le_max_left _ _))⟩,fun g q=>G.mono _ _ (this.2.2 g q)⟩
 ·rcases Nat.le_total (max m k) (fQ b r k)with h|h
  ·rw[Nat.max_eq_right h];exact .inr ⟨i,k,r,hi,hr,.inr rfl⟩
  ·rw[Nat.max_eq_left h];rcases Nat.le_total m k with h|h
   ·rw[Nat.max_eq_right h];exact .inr ⟨i,k,r,hi,hr,.inl rfl⟩
   ·rw[Nat.max_eq_left h];exact I.top
theorem yq{r:aU}{g:Nat}(hf:∀g∈r.gs,g<rows.length)(h:g∈iA rows.length i r):g<rows.length:=by
 rcases(jS (rows:=rows) (cls:=[]) (i:=i)).1 (bE _ h)with(⟨_,l,rfl⟩|m)|⟨_,m,_⟩
 ·exact l
 ·exact hf g m
 ·exact nomatch m
theorem pS(G:ct rows cls)(h0:0<rows.length){p:Nat×Nat}(h:p∈(0,0)::nW cls):p.1<rows.length:=by
 rcases az.1 h with rfl|h
 ·exact h0
 ·obtain⟨c,m,q⟩:=jE.1 h;have I:=G.cin c m;unfold dQ at q;rcases az.1 q with rfl|q
  ·exact I.2.1
  ·split at q
   ·rename_i s;cases aq.1 q;exact I.2.2.1 s
   ·exact nomatch q
theorem qm:∀n,uo (List.replicate n none)=n
 |0=>rfl
 |n+1=>by rw[List.replicate_succ];show 1+uo _=_;rw[qm n,cv]
theorem tO{k:Nat}:(List.replicate n (none:Option Nat))[i]? ≠some (some k):=fun e=>by
 rw[List.getElem?_replicate]at e;split at e<;>exact nomatch e
theorem DI.init(G:ct rows cls){s:DW}(h:((0,0)::nW cls).foldlM iy (List.replicate rows.length none,[])=some s):DI rows cls b s 0:=by
 have A:=jo.all h;refine⟨A.len.trans b9,?_,fun j k e=>mX ((A.only j k e).resolve_left tO).2,fun j m=>(A.wk j m).resolve_left nofun,fun j k e=>.inl ((A.only j k e).resolve_left tO).1,A.adds,.inl rfl⟩;rw[mL h];show uo _+0≤_;rw[qm];exact aa G.len (by decide)
noncomputable abbrev mS(rows:List aU)(cls:List Cl)(b:Nat)(s:DW×Nat):Env:=mE rows cls b s.2 none none none s.1
noncomputable abbrev IC(rows:List aU)(cls:List Cl)(b:Nat):=Wk (mS rows cls b) (fun s=>DI rows cls b s.1 s.2) (fun s=>2*uo s.1.1+s.1.2.length) (fun Z=>False) (¬hV rows cls b)
theorem BX(G:ct rows cls)(hb:b<2)(s:DW×Nat):DI rows cls b s.1 s.2→(!s.1.2.isEmpty)=true→IC rows cls b s (bJ (callF tab (d+6)) [] dB.tl.tl.tl.tl.tl.hd.bd (mS rows cls b s)):=by
 obtain⟨⟨D,w⟩,m⟩:=s;refine yr (P:=fun w=>DI rows cls b (D,w) m→(!w.isEmpty)=true→IC rows cls b ((D,w),m) (bJ (callF tab (d+6)) [] dB.tl.tl.tl.tl.tl.hd.bd (mS rows cls b ((D,w),m)))) (fun Z e=>nomatch e) (fun w0 i I Z=>?_) w;obtain⟨k,hk⟩:=I.work i (aA _ (.head _));obtain⟨r,hr⟩:∃r,rows[i]? =some r:=⟨_,bw (I.len▸(ag.1 hk).1)⟩;by_cases ht:(tg b r).1≤k
 ·rw[show bJ (callF tab (d+6)) [] dB.tl.tl.tl.tl.tl.hd.bd (mS rows cls b ((D,w0++[i]),m))=_ from DQ G.toWf hb hr (G.fine i) hk (aa (aR (by rw[ai];exact bD _ _) _) I.wt) ht];cases e:(Ej (iA rows.length i r) (fQ b r k)).foldlM iy (D,w0) with
  |some s'=>
   refine .nxt (s':=(s',_)) (I.step hr hk ht e) (aF (jo.all e).un ?_);show _+w0.length<_+(w0++[i]).length;rw[ai];exact a4 _
  |none=>
   refine .exc fun Q=>?_
   obtain⟨g,a,m1,q⟩:=lK e;obtain⟨x,mx,ex⟩:=aP.1 m1;cases ex;rcases q with q|⟨k',ne,q|m2⟩
   ·exact aZ _ (aS (yq (G.fine i r hr) mx) (I.len▸q))
   ·exact ne (Q.one _ _ _ (I.sound _ _ q) (.go (I.sound i k hk) hr ht mx))
   ·obtain⟨_,_,ex⟩:=aP.1 m2;cases ex;exact ne rfl
 ·rw[show bJ (callF tab (d+6)) [] dB.tl.tl.tl.tl.tl.hd.bd (mS rows cls b ((D,w0++[i]),m))=_ from Aq G.toWf hb hr hk ht];exact .exc fun Q=>ht (Q.full i k r (I.sound i k hk) hr)
theorem Ih(G:ct rows cls)(h0:0<rows.length)(hb:b<2):(∃m,callF tab (d+7) 16 [aL rows,bF cls,gr b]=ok (nv m,[])∧hV rows cls b∧lU rows cls b m)∨(callF tab (d+7) 16 [aL rows,bF cls,gr b]=exc∧¬hV rows cls b):=by
 have hn:rows.length≤lim:=aa G.len (by decide);have q14:=Jb (d:=d+4) h0 G.few' (by show uo _+0≤_;rw[qm];exact hn:wo (List.replicate rows.length none,[])≤lim)
 have pre {z} (k:bJ (callF tab (d+6)) [] dB.tl.tl.tl [some (false,aL rows),some (false,bF cls),some (false,gr b),some (true,dv (List.replicate rows.length none)),some (true,cW []),none,none,none,none]=z):bJ (callF tab (d+6)) [] dB (gp ⟨3,9,[],false,dB⟩ [aL rows,bF cls,gr b])=z:=by
  refine ax (wG rfl (Ec G.ok G.cin G.few') rfl rfl) (ax (eG nofun (aD rfl (d7 rfl (a7 _ _)) (qq hn))) (ax (eG nofun rfl) ?_));rw[←k];unfold dv;rw[List.map_replicate];rfl
 cases e:((0,0)::nW cls).foldlM iy (List.replicate rows.length none,[]) with
 |none=>
  rw[e]at q14;refine .inr ⟨rN rfl rfl (pre (iC (Hu rfl q14))),fun D=>?_⟩;obtain⟨g,k,m,q⟩:=lK e;rcases q with q|⟨k',ne,q|m'⟩
  ·exact aZ _ (aS (pS G h0 m) (aa (bu b9.symm) q))
  ·exact tO q
  ·exact ne (D.one g k' k (mX m') (mX m))
 |some s=>
  rw[e]at q14;have L:=lA (test:=fun ρ=>bc (aY (callF tab (d+6)) (.u (.h .gt (.un .len (.c 4)) (.f (.int 0)))) ρ) da) (fun s Z=>pR (w:=s.1.2) rfl) (BX (d:=d) G hb) lim (s,0) (DI.init G e) (aF (jo.all e).un (by show 2*uo _+0<_;rw[qm];exact aF (bW 2 G.len) (by decide)));generalize hz:gS _ _ _ _=z at L;cases L with
  | @nxt s I e=>
   obtain⟨⟨D,w⟩,m⟩:=s;cases w with
   |cons _ _=>exact nomatch e
   |nil=>exact .inl ⟨m,fR rfl rfl rfl (pre (ax (wG rfl q14 rfl rfl) (ax (bX rfl) (ax hz (cX rfl))))),DI.fin I⟩
  |ret h=>exact h.elim
  |exc h=>exact .inr ⟨rN rfl rfl (pre (ax (wG rfl q14 rfl rfl) (ax (bX rfl) (iC hz)))),h⟩
end
section
variable{F:FT}{d n i j b:Nat}{ρ:Env}{rows:List aU}{cls:List Cl}
noncomputable abbrev Al:Nat→Prop:=fun Z=>True
inductive tB(rows:List aU):List Nat→Nat→Nat→Prop
 |nil (a):tB rows [] a a
 |cons {a c e l}:rows[a]? =some ⟨56,.go c⟩→tB rows l c e→tB rows (a::l) a e
theorem tB.snoc{l:List Nat}{a e c:Nat}(h:tB rows l a e)(q:rows[e]? =some ⟨56,.go c⟩):tB rows (l++[e]) a c:=by
 induction h with
 |nil a=>exact .cons q (.nil c)
 |cons p _ ih=>exact .cons p (ih q)
theorem tB.ch{l:List Nat}{a e:Nat}(h:tB rows l a e):Ch rows Al a e:=by
 induction h with
 |nil a=>exact .refl a
 |cons p _ ih=>exact .step p trivial ih
theorem tB.mem{l:List Nat}{a e x:Nat}(h:tB rows l a e)(m:x∈l):x<rows.length∧Ch rows Al a x:=by
 induction h with
 |nil a=>exact nomatch m
 |cons p _ ih=>exact(az.1 m).elim (fun e=>by subst e;exact⟨(ag.1 p).1,.refl _⟩) fun m=>⟨(ih m).1,.step p trivial (ih m).2⟩
theorem yg{c e:Nat}(h:Ch rows Al c e)(s:iK rows Al e):∀{a:Nat},Ch rows Al c a→¬rows[a]? =some ⟨56,.go c⟩:=by
 induction h with
 |refl=>intro a k q;cases k.stop s;exact s _ q trivial
 |step p _ _ ih=>
  intro a k q;cases k with
  |refl=>cases iI p q;exact ih s (.refl _) p
  |step p' _ k=>cases iI p p';exact ih s (k.snoc q trivial) p
theorem tB.KV{a e:Nat}(h:Ch rows Al a e)(s:iK rows Al e):∀{l:List Nat}{x:Nat},tB rows l a x→l.Nodup:=by
 induction h with
 |refl=>intro l x k;cases k with
  |nil=>exact .nil
  |cons p _=>exact absurd trivial (s _ p)
 |step p _ h ih=>intro l x k;cases k with
  |nil=>exact .nil
  |cons p' k=>
   cases iI p p';exact bM.2 ⟨fun m=>yg h s (k.mem m).2 p,ih s k⟩
noncomputable def st(rows:List aU)(z:Nat):Int:=match endO rows Al z with
 |some e=>e
 |none=>-1
noncomputable def GO(rows:List aU)(x k:Nat):Env:=[some (false,aL rows),some (false,nv x),some (false,nv k)]
noncomputable abbrev Ed(rows:List aU)(s:List Nat×Nat):Env:=GO rows s.2 s.1.length
theorem z6(s:List Nat×Nat):bc (aY F (.y (.h .lt (.c 1) (.un .len (.c 0))) (.h .eq (.h .item (.h .item (.c 0) (.c 1)) (.f (.int 0))) (.f (.int 56)))) (Ed rows s)) da=ok (yR rows s.2):=by
 have e0:aY F (.h .lt (.c 1) (.un .len (.c 0))) (Ed rows s)=ok (.bool (decide (s.2<rows.length))):=aD rfl (d7 rfl (a7 _ _)) (aj (fun b=>ok (V.bool b)) (oZ s.2 rows.length));unfold yR;cases hr:rows[s.2]? with
 |none=>
  have hx:=ao (bS.2 (cA.1 hr));exact bq (jW e0 rfl hx) (aj ok hx)
 |some r=>exact bq (gI e0 rfl (ak (ag.1 hr).1) (aD (aD (aD rfl rfl (aW hr)) rfl rfl) rfl rfl)) rfl
theorem Ay(ho:∀r∈rows,r.Ok){z:Nat}(s:List Nat×Nat):tB rows s.1 z s.2∧s.1.length≤rows.length→yR rows s.2=true→Wk (Ed rows) (fun s=>tB rows s.1 z s.2∧s.1.length≤rows.length) (fun s=>rows.length - s.1.length) (fun v=>v=.int (st rows z)) False s (bJ F [] eY.tl.hd.bd (Ed rows s)):=by
 obtain⟨l,x⟩:=s;rintro⟨C,hl⟩ hb;obtain⟨c,hr⟩:=xu ho hb;have C':=C.snoc hr;have e:(l++[x]).length=l.length+1:=ai
 have u {q} (k:bJ F [] eY.tl.hd.bd.tl.tl (GO rows c (l.length+1))=q):bJ F [] eY.tl.hd.bd (GO rows x l.length)=q:=
  ax (bX (aD (aD rfl rfl (aW hr)) rfl rfl)) (ax rfl k)
 have e2:aY F (.h .gt (.c 2) (.un .len (.c 0))) (GO rows c (l.length+1))=ok (.bool (decide (rows.length<l.length+1))):=aD rfl (d7 rfl (a7 _ _)) (aj (fun b=>ok (V.bool b)) (oZ _ (l.length+1)));rcases dt hl with h|h
 ·rw[show bJ F [] eY.tl.hd.bd (Ed rows (l,x))=_ from u (cU e2 rfl (ao (bS.2 h)) rfl),←e];exact .nxt (s':=(l++[x],c)) ⟨C',e▸h⟩ (by show _ - (l++[x]).length<_ - l.length;rw[e];exact Nat.sub_succ_lt_self _ _ h)
 ·rw[show bJ F [] eY.tl.hd.bd (Ed rows (l,x))=_ from u (eK e2 rfl (ak (h▸a4 _)) (cX rfl))];refine .ret (aj V.int ?_);unfold st;rw[eF.2 fun y k s=>?_];have:=hJ _ _ (tB.KV k s C') fun y m=>(C'.mem m).1;rw[e,h]at this;exact Nat.not_succ_le_self _ this
theorem Hk(ho:∀r∈rows,r.Ok)(hn:rows.length≤1000){z:Nat}:callF tab (d+1) 46 [aL rows,nv z]=ok (.int (st rows z),[]):=by
 have L:=lA (test:=fun ρ=>bc (aY (callF tab d) (.y (.h .lt (.c 1) (.un .len (.c 0))) (.h .eq (.h .item (.h .item (.c 0) (.c 1)) (.f (.int 0))) (.f (.int 56)))) ρ) da) (fun s Z=>z6 s) (Ay (F:=callF tab d) ho (z:=z)) lim ([],z) ⟨.nil z,aQ _⟩ (aF (Nat.sub_le _ _) (aF hn (by decide)));generalize hz:gS _ _ _ _=q at L;cases L with
 | @nxt s I t=>
  have e:st rows z=s.2:=by
   unfold st;rw[dH.2 ⟨I.1.ch,fun c e Z=>by unfold yR at t;rw[e]at t;exact nomatch t⟩]
  rw[e];exact fR rfl rfl rfl (ax (bX rfl) (ax hz (cX rfl)))
 |ret h=>subst h;exact fR rfl rfl rfl (ax (bX rfl) (ia hz))
 |exc h=>exact h.elim
theorem GV:∀{r:aU},r.Ok→callF tab (d+1) 41 [r.v]=ok (.Jq (r.gs.map nv),[])
 |⟨op,.go g⟩,h=>dP (l:=iL) (p:=fun op=>callF tab (d+1) 41 [.Js [.int op,nv g]]=ok (.Jq [nv g],[])) (by repeat' (first | exact trivial | refine⟨rfl,?_⟩)) h
 |⟨op,.sw gs⟩,h=>by
  obtain rfl:=(show op=69 from h.1);exact fR rfl rfl rfl (ia (gu rfl rfl (cX (d7 rfl (bq (a:=gs.map nv) rfl (cY (by rw[af];exact aa h.2 (ae rfl)) rfl))))))
 |⟨op,.num j⟩,h=>dP (l:=fH) (p:=fun op=>callF tab (d+1) 41 [.Js [.int op,.int j]]=ok (.Jq [],[])) (by repeat' (first | exact trivial | refine⟨rfl,?_⟩)) h
 |⟨op,.me k⟩,h=>by obtain⟨rfl | rfl,_⟩:_∧_:=h<;>rfl
theorem Cn{e1 e2 e3:CE}{a b:Nat}(h1:aY F e1 ρ=ok (nv a))(h2:aY F e2 ρ=ok (nv i))(h3:aY F e3 ρ=ok (nv b)):aY F (.J8 e1 .le e2 .lt e3) ρ=ok (.bool (decide (a≤i)&&decide (i<b))):=by
 refine bq h1 (bq h2 (bq (aj (fun b=>ok (V.bool b)) (bZ.2 bC:_=decide (a≤i))) (tq (b:=decide (a≤i)) rfl ?_)));cases decide (a≤i) with
 |true=>exact(bq (f:=eP .lt (nv i)) h3 (aj (fun b=>ok (V.bool b)) (oZ i b)):bc (aY F e3 ρ) (eP .lt (nv i))=_)
 |false=>rfl
noncomputable def inT(c:Cl)(i:Nat):Bool:=decide (c.t0≤i)&&decide (i<c.t1)
noncomputable def fX(c:Cl)(i:Nat):V:=.Js [nv c.s,nv (if c.s=0 then c.x else 0),.bool (inT c i),.bool (decide (c.s=1)&&(decide (c.x≤i)&&decide (i<c.h0))),.bool (decide (c.h0≤i)&&decide (i<c.h1))]
theorem Iv(c:Cl):callF tab (d+1) 47 [c.v,nv i]=ok (fX c i,[]):=by
 have e:bJ (callF tab d) [] mf.tl.hd [some (false,c.v),some (false,nv i),some (false,nv c.s),some (false,nv c.t0),some (false,nv c.t1),some (false,nv c.h0),some (false,nv c.h1),some (false,nv c.x),none]=ok (.nxt,[some (false,c.v),some (false,nv i),some (false,nv c.s),some (false,nv c.t0),some (false,nv c.t1),some (false,nv c.h0),some (false,nv c.h1),some (false,nv c.x),some (false,nv (if c.s=0 then c.x else 0))]):=by
  by_cases h:c.s=0
  ·rw[aB h];exact bX (jZ (b:=true) (aD rfl rfl (AZ c.s 0)) (aj some (ak h)) rfl)
  ·rw[aC h];exact bX (jZ (b:=false) (aD rfl rfl (AZ c.s 0)) (aj some (ao h)) rfl)
 refine fR rfl rfl rfl (ax (qN rfl rfl) (ax e (cX (gT (a6 rfl (a6 rfl (a6 (Cn rfl rfl rfl) (a6 ?_ (a6 (Cn rfl rfl rfl) rfl)))))))));refine su (aD rfl rfl (AZ c.s 1)) rfl ?_
 cases decide (c.s=1) with
 |true=>exact Cn rfl rfl rfl
 |false=>rfl
noncomputable def fB(ra:List aU)(ca:List Cl)(e:List V):V:=.Js (aL ra::bF ca::e)
noncomputable def pv(p:Nat×Nat):V:=.Js [nv p.1,nv p.2]
noncomputable def jm(op:Int):Bool:=![42,122,220,65041,65050,221].contains op
theorem Gz{op:Int}(h:op∈cw):eP .JI (.int op) (.Js [.int 42,.int 122,.int 220,.int 65041,.int 65050,.int 221])=ok (.bool (jm op)):=
 dP (l:=cw) (p:=fun op=>eP .JI (.int op) (.Js [.int 42,.int 122,.int 220,.int 65041,.int 65050,.int 221])=ok (.bool (jm op))) (by repeat' (first | exact trivial | refine⟨rfl,?_⟩)) h
theorem Fu(l:List Nat):eP .eq (cW l) (.Jq [])=ok (.bool l.isEmpty):=
 aj (fun r=>bc r fun b=>ok (V.bool b)) (cY ⟨all_map (fun Z=>rfl) l,rfl⟩ (by cases l<;>rfl):AC (cW l) (.Jq [])=ok l.isEmpty)
theorem rZ:∀(a c:List Nat),a.length=c.length→(List.range a.length).map (fun j=>V.Js [nv (a[j]?.getD 0),nv (c[j]?.getD 0)])=(a.zip c).map pv
 | [],[],_=>rfl
 |x::a,y::c,h=>by
  rw[cT,List.range_succ_eq_map,cZ,cH];exact aj (V.Js [nv x,nv y]::·) (rZ a c (bp h))
noncomputable def lH(x:Nat)(c e:Cl):List (Nat×Nat):=cond (inT c x) ((c.h0,e.h0)::(if c.s=1 then [(c.x,e.x)]else [])) []
noncomputable def Bq(ca cb:List Cl)(x j:Nat):List (Nat×Nat):=match ca[j]?,cb[j]? with
 |some c,some e=>lH x c e
 |_,_=>[]
noncomputable def nJ(ca cb:List Cl)(x y:Nat)(r r':aU):List (Nat×Nat):=(r.gs.zip r'.gs++cond (jm r.op) [(x+1,y+1)] [])++(List.range ca.length).flatMap (Bq ca cb x)
variable{ra rb:List aU}{ca cb:List Cl}{ea eb:List V}{x y:Nat}{r r':aU}
noncomputable def wE(ra rb:List aU)(ca cb:List Cl)(ea eb:List V)(x y:Nat)(r r':aU)(t:Option (Bool×V)):Env:=[some (false,fB ra ca ea),some (false,fB rb cb eb),some (false,nv x),some (false,nv y),some (false,r.v),some (false,r'.v),some (false,cW r.gs),some (false,cW r'.gs),t,none,none,none,none]
noncomputable abbrev own(t:List (Nat×Nat)):Option (Bool×V):=some (true,.Jq (t.map pv))
theorem tK{l:List (Nat×Nat)}{p:Nat×Nat}{e:CE}{k:Nat}{io:List Nat}(h:nS ρ k=ok (l.map pv))(he:aY F e ρ=ok (pv p))(hl:l.length≤lim):bJ F io (.app k e) ρ=ok (.nxt,fq ρ k (.Jq ((l++[p]).map pv))):=by
 rw[aw];exact fj h he (by rw[af];exact hl)
theorem zP{c e:Cl}(hc:ca[j]? =some c)(he:cb[j]? =some e)(hp:fX c x=fX e y){l:List (Nat×Nat)}(hl:l.length+2≤lim):bc (ft (cS (.v 9) (nv j) (wE ra rb ca cb ea eb x y r r' (own l)))) (bJ (callF tab (d+1)) [] fG.tl.tl.tl.tl.tl.tl.tl.tl.tl.hd.bd)=ok (.nxt,wE ra rb ca cb ea eb x y r r' (own (l++lH x c e))):=by
 have q:aY (callF tab (d+1)) (.call 47 (.cons (.c 11) (.cons (.c 3) .nil))) (((((wE ra rb ca cb ea eb x y r r' (own l)).set 9 (some (false,nv j))).set 10 (some (false,c.v))).set 11 (some (false,e.v))).set 12 (some (false,fX c x)))=ok (fX c x):=bj rfl (hp▸Iv e);refine ax (bX (aD (aD rfl rfl rfl) rfl (aW hc))) (ax (bX (aD (aD rfl rfl rfl) rfl (aW he))) (ax (bX (bj rfl (Iv c))) (ax (eH (aD rfl q (xW rfl)) rfl rfl) ?_)));have it:∀ρ,aY (callF tab (d+1)) (.h .item (.c 12) (.f (.int 2))) (((((wE ra rb ca cb ea eb x y r r' ρ).set 9 (some (false,nv j))).set 10 (some (false,c.v))).set 11 (some (false,e.v))).set 12 (some (false,fX c x)))=ok (.bool (inT c x)):=fun Z=>rfl;unfold lH;cases ht:inT c x with
 |false=>
  rw[show l++cond false ((c.h0,e.h0)::(if c.s=1 then [(c.x,e.x)]else [])) []=l from aK l];exact ax (eH (ht▸it _) rfl rfl) rfl
 |true=>
  refine ax (ρ1:=((((wE ra rb ca cb ea eb x y r r' (own (l++((c.h0,e.h0)::(if c.s=1 then [(c.x,e.x)]else []))))).set 9 (some (false,nv j))).set 10 (some (false,c.v))).set 11 (some (false,e.v))).set 12 (some (false,fX c x))) (gu (ht▸it _) rfl (ax (tK (l:=l) (p:=(c.h0,e.h0)) rfl rfl (aa (bD _ 2) hl)) ?_)) rfl;by_cases h1:c.s=1
  ·rw[aB h1,show l++[(c.h0,e.h0),(c.x,e.x)]=(l++[(c.h0,e.h0)])++[(c.x,e.x)] by rw[aJ];rfl];exact eK rfl rfl (ak (aj Int.ofNat h1)) (tK (l:=l++[(c.h0,e.h0)]) (p:=(c.x,e.x)) rfl rfl (by rw[ai];exact aa (d8 _) hl))
  ·rw[aC h1];exact cU rfl rfl (ao fun e=>h1 (aX e)) rfl
end
section
variable{F:FT}{d n i j b:Nat}{ρ:Env}{ra rb:List aU}{ca cb:List Cl}{ea eb:List V}{x y:Nat}{r r':aU}
structure E9(ra rb:List aU)(ca cb:List Cl)(x y:Nat)(r r':aU):Prop where
 a:ra[x]? =some r
 b:rb[y]? =some r'
 op:r.op=r'.op
 len:r.gs.length=r'.gs.length
 arg:r.gs=[]→r.arg.v=r'.arg.v
 parts:∀(j:Nat)(c e:Cl),ca[j]? =some c→cb[j]? =some e→fX c x=fX e y∧c.s=e.s∧inT c x=inT e y
theorem tx(x:Nat):decide ((x:Int)=-1)=false:=ao fun h=>by cases h
theorem Iz{x n:Nat}(h:x<n):decide ((x:Int)=(n:Int))=false:=ao fun e=>cG h (aX e)
theorem HY(k:Nat):∀a:Arg,iQ (k+2) a.v=true
 |.go _=>rfl
 |.num _=>rfl
 |.me _=>rfl
 |.sw gs=>all_map (fun Z=>rfl) gs
theorem uK(x j:Nat):(Bq ca cb x j).length≤2:=by
 unfold Bq;split
 ·unfold lH;cases inT _ x with
  |false=>exact aQ _
  |true=>show _+1≤2;split<;>exact ae rfl
 ·exact aQ _
theorem yJ{f:Nat→List (Nat×Nat)}(h:∀j,(f j).length≤2):∀l:List Nat,(l.flatMap f).length≤2*l.length
 | []=>aM _
 |a::l=>by rw[List.flatMap_cons,ai,cT,Nat.mul_succ,cv];exact bo (yJ h l) (h a)
theorem IV(P:E9 ra rb ca cb x y r r')(ho:r.Ok)(ho':r'.Ok)(hl:ca.length=cb.length)(h2:ca.length≤100):callF tab (d+2) 48 [fB ra ca ea,fB rb cb eb,nv x,nv y]=ok (.Jq ((nJ ca cb x y r r').map pv),[]):=by
 have hx:=(ag.1 P.a).1;have hy:=(ag.1 P.b).1;have hz:(r.gs.zip r'.gs).length≤3:=aa (List.length_zip▸Nat.min_le_left _ _) ho.short
 have h0:(r.gs.zip r'.gs++cond (jm r.op) [(x+1,y+1)] []).length≤4:=by
  rw[ai];refine bo (d:=1) hz ?_;cases jm r.op<;>exact ae rfl
 have e1:bJ (callF tab (d+1)) [] fG.hd (gp ⟨4,13,[],false,fG⟩ [fB ra ca ea,fB rb cb eb,nv x,nv y])=ok (.nxt,gp ⟨4,13,[],false,fG⟩ [fB ra ca ea,fB rb cb eb,nv x,nv y]):=
  cU (mh rfl rfl (tx x) (mh rfl rfl (tx y) (mh (aD rfl (d7 (aD rfl rfl rfl) (a7 _ _)) rfl) rfl (Iz hx) (aD rfl (d7 (aD rfl rfl rfl) (a7 _ _)) rfl)))) rfl (Iz hy) rfl
 refine fR rfl rfl rfl (ρ1:=(wE ra rb ca cb ea eb x y r r' (own (nJ ca cb x y r r'))).set 8 (some (false,.Jq ((nJ ca cb x y r r').map pv)))) (ax e1 (ax (bX (aD (aD rfl rfl rfl) rfl (aW P.a))) (ax (bX (aD (aD rfl rfl rfl) rfl (aW P.b))) (ax (bX (bj rfl (GV ho))) (ax (bX (bj rfl (GV ho'))) (ax (ρ1:=wE ra rb ca cb ea eb x y r r' none) ?_ (ax (ρ1:=wE ra rb ca cb ea eb x y r r' none) ?_ (ax (ρ1:=wE ra rb ca cb ea eb x y r r' (own (r.gs.zip r'.gs))) ?_ (ax (ρ1:=wE ra rb ca cb ea eb x y r r' (own (r.gs.zip r'.gs++cond (jm r.op) [(x+1,y+1)] []))) ?_ (ax (ρ1:=wE ra rb ca cb ea eb x y r r' (own (nJ ca cb x y r r'))) ?_ (ax (iP nofun rfl) (cX rfl))))))))))))
 ·exact cU (mh (v:=.bool (!decide (r.op=r'.op))) rfl rfl (by rw[ak P.op];rfl) (aD (d7 rfl (a7 _ _)) (d7 rfl (a7 _ _)) rfl)) rfl (aj (!·) (ak (aj Int.ofNat P.len))) rfl
 ·by_cases hg:r.gs=[]
  ·have hv:eP .ne r.arg.v r'.arg.v=ok (.bool false):=P.arg hg▸xW (HY 18 _);exact eH (gI (aD rfl rfl (Fu r.gs)) rfl (by rw[hg];rfl) (aD (v:=r.arg.v) (w:=r'.arg.v) rfl rfl hv)) rfl rfl
  ·exact cU (jW (aD rfl rfl (Fu r.gs)) rfl (by cases hh:r.gs with
    |nil=>exact absurd hh hg
    |cons _ _=>rfl)) rfl (by cases hh:r.gs with
    |nil=>exact absurd hh hg
    |cons _ _=>rfl) rfl
 ·refine eG nofun ((rg (enc:=nv) (enc':=fun j=>V.Js [nv (r.gs[j]?.getD 0),nv (r'.gs[j]?.getD 0)]) (l:=List.range r.gs.length) (ym (d7 rfl (a7 _ _)) (aa ho.short (by decide))) (ya _) (aO▸aa ho.short (by decide)) fun j m=>?_).trans (by rw[rZ _ _ P.len]));have hj:=bP.1 m;rw[bw hj,bw (P.len▸hj)];exact gT (a6 (aD rfl rfl (aW (bw hj))) (a6 (aD rfl rfl (aW (bw (P.len▸hj)))) rfl))
 ·refine kn (aD (aD rfl rfl rfl) rfl (Gz ho.Kc)) rfl ?_
  cases jm r.op with
  |false=>rw[show r.gs.zip r'.gs++cond false [(x+1,y+1)] []=r.gs.zip r'.gs from aK _];rfl
  |true=>exact tK (io:=[]) (p:=(x+1,y+1)) rfl rfl (aa hz (by decide))
 ·refine i4 (d7 (aD rfl rfl rfl) (a7 _ _)) (aa h2 (ae rfl)) ?_
  have:=cR (enc:=nv) (step:=fun v ρ=>bc (ft (cS (.v 9) v ρ)) (bJ (callF tab (d+1)) [] fG.tl.tl.tl.tl.tl.tl.tl.tl.tl.hd.bd)) (fun p:List Nat=>wE ra rb ca cb ea eb x y r r' (own ((r.gs.zip r'.gs++cond (jm r.op) [(x+1,y+1)] [])++p.flatMap (Bq ca cb x)))) (l:=List.range ca.length) fun p j m e=>by
   have hj:=gF e;have hc:=bw hj;have he:=bw (hl▸hj);rw[List.flatMap_append,show [j].flatMap (Bq ca cb x)=lH x ca[j] (cb[j]'(hl▸hj)) by rw[List.flatMap_cons,List.flatMap_nil,aK];unfold Bq;rw[hc,he],←aJ];refine zP hc he (P.parts j _ _ hc he).1 ?_
   rw[ai];refine aa (bk (bo h0 (yJ (uK x) p)) 2) ?_
   refine aa (bk (aR (bW 2 (aa (qM e) h2)) 4) 2) (ae rfl)
  rw[show([]:List Nat).flatMap (Bq ca cb x)=[]from rfl,aK]at this;exact this
end
section
variable{F:FT}{d n i j b:Nat}{ρ:Env}{ra rb:List aU}{ca cb:List Cl}{ea eb:List V}{x y:Nat}{r r':aU}
structure CC(ca cb:List Cl)(R:Nat→Nat→Prop)(x y:Nat)(r r':aU):Prop where
 gs:∀j g g':Nat,r.gs[j]? =some g→r'.gs[j]? =some g'→R g g'
 fall:jm r.op=true→R (x+1) (y+1)
 hand:∀(j:Nat)(c e:Cl),ca[j]? =some c→cb[j]? =some e→inT c x=true→R c.h0 e.h0∧(c.s=1→R c.x e.x)
inductive zc(ra rb:List aU)(ca cb:List Cl)(R:Nat→Nat→Prop)(u v:Nat):Prop
 |no:st ra u=-1→st rb v=-1→zc ra rb ca cb R u v
 |fin:st ra u=ra.length→st rb v=rb.length→zc ra rb ca cb R u v
 |row {x y:Nat} {r r':aU}:st ra u=(x:Nat)→st rb v=(y:Nat)→E9 ra rb ca cb x y r r'→CC ca cb R x y r r'→zc ra rb ca cb R u v
structure ze(ra rb:List aU)(ca cb:List Cl)(R:Nat→Nat→Prop):Prop where
 zero:R 0 0
 step:∀u v,R u v→zc ra rb ca cb R u v
theorem vn{R:Nat→Nat→Prop}:∀{a c:List Nat},(∀j g g':Nat,a[j]? =some g→c[j]? =some g'→R g g')→∀p∈a.zip c,R p.1 p.2
 | [],_,_,_,m=>(by cases m)
 |_::_,[],_,_,m=>(by cases m)
 |x::a,y::c,h,p,m=>(az.1 m).elim (fun e=>e▸h 0 x y rfl rfl) (vn (fun j=>h (j+1)) p)
set_option tactic.hygienic true in
theorem CC.all{R:Nat→Nat→Prop}(N:CC ca cb R x y r r'):∀p∈nJ ca cb x y r r',R p.1 p.2:=fun p m=>by
 rcases a9.1 m with m|m
 ·rcases a9.1 m with m|m
  ·exact vn N.gs p m
  ·cases hf:jm r.op with
   |false=>rw[hf]at m;exact nomatch m
   |true=>rw[hf]at m;obtain rfl:=aq.1 m;exact N.fall hf
 ·obtain⟨j,_,m⟩:=List.mem_flatMap.1 m;unfold Bq at m;split at m
  ·rename_i c e hc he;unfold lH at m;cases hi:inT c x with
   |false=>rw[hi]at m;cases m
   |true=>
    rw[hi]at m;rcases az.1 m with rfl|m
    ·exact((N.hand j c e hc he) hi).1
    ·split at m
     ·rename_i s;obtain rfl:=aq.1 m;exact((N.hand j c e hc he) hi).2 s
     ·exact nomatch m
  ·exact nomatch m
theorem Jp(a b:Bool):eP .eq (.bool a) (.bool b)=ok (.bool (a==b)):=by cases a<;>cases b<;>rfl
theorem Ig:callF tab (d+2) 48 [fB ra ca ea,fB rb cb eb,.int (-1),.int (-1)]=ok (.Jq [],[]):=by
 have q:∀n:Nat,decide ((-1:Int)=(n:Int))=false:=fun n=>ao fun h=>by cases h
 have l (v:V) {i:Nat} {e:CE} {l:List aU} {ρ:Env} (h:aY (callF tab (d+1)) e ρ=ok (aL l)) (hv:aY (callF tab (d+1)) (.c i) ρ=ok (.int (-1))):aY (callF tab (d+1)) (.h .eq (.c i) (.un .len e)) ρ=ok (.bool false):=aD hv (d7 h (a7 _ _)) (aj (fun b=>ok (V.bool b)) (q _));exact fR rfl rfl rfl (ia (gu (Ee (b:=true) rfl rfl rfl) rfl (cX (jZ (v:=.bool true) (b:=true) (gI (v:=.bool true) rfl rfl rfl (aD (l .none (aD rfl rfl rfl) rfl) (l .none (aD rfl rfl rfl) rfl) rfl)) rfl rfl))))
theorem Hc:callF tab (d+2) 48 [fB ra ca ea,fB rb cb eb,nv ra.length,nv rb.length]=ok (.Jq [],[]):=by
 have l {i:Nat} {e:CE} {l:List aU} {ρ:Env} (h:aY (callF tab (d+1)) e ρ=ok (aL l)) (hv:aY (callF tab (d+1)) (.c i) ρ=ok (nv l.length)):aY (callF tab (d+1)) (.h .eq (.c i) (.un .len e)) ρ=ok (.bool true):=aD hv (d7 h (a7 _ _)) (aj (fun b=>ok (V.bool b)) (ak rfl));exact fR rfl rfl rfl (ia (gu (mh rfl rfl (tx _) (mh rfl rfl (tx _) (Ee (l (aD rfl rfl rfl) rfl) rfl rfl))) rfl (cX (jZ (v:=.bool true) (b:=true) (gI (v:=.bool true) (aD (v:=.bool false) (w:=.bool false) (aD rfl rfl (aj (fun b=>ok (V.bool b)) (tx _))) (aD rfl rfl (aj (fun b=>ok (V.bool b)) (tx _))) rfl) rfl rfl (aD (l (aD rfl rfl rfl) rfl) (l (aD rfl rfl rfl) rfl) rfl)) rfl rfl))))
end
section
variable{F:FT}{d n i j b:Nat}{ρ:Env}{ra rb:List aU}{ca cb:List Cl}{ea eb:List V}{x y:Nat}{r r':aU}
abbrev PP:=Nat×Nat
noncomputable def sN(rows:List aU)(z:Nat):Nat:=match endO rows Al z with
 |some e=>e+1
 |none=>0
theorem yB(rows:List aU)(z:Nat):st rows z=(sN rows z:Int) - 1:=by
 unfold st sN;cases endO rows Al z with
 |none=>rfl
 |some e=>exact(Int.add_sub_cancel (e:Int) 1).symm
noncomputable def zi(p:PP):V:=.Js [.int ((p.1:Int) - 1),.int ((p.2:Int) - 1)]
theorem Ff(p q:PP):PyData.eqv (kb (zi p)) (kb (zi q))=decide (q=p):=by
 have e (a b:Nat):((a:Int) - 1==(b:Int) - 1)=decide (a=b):=bZ.2 ⟨fun h=>aX (Int.sub_left_inj 1|>.1 h),fun h=>h▸rfl⟩;show(((p.1:Int) - 1==(q.1:Int) - 1)&&(((p.2:Int) - 1==(q.2:Int) - 1)&&true))=_;rw[e,e,Bool.and_true,←Bool.decide_and];exact bZ.2 ⟨fun h=>Prod.ext h.1.symm h.2.symm,fun h=>h▸⟨rfl,rfl⟩⟩
theorem EY(p:PP)(l:List PP):eP .JK (zi p) (.Jq (l.map zi))=ok (.bool (decide (p∈l))):=by
 have a:∀l:List PP,(l.map zi).any (fun u=>PyData.eqv (kb u) (kb (zi p)))=decide (p∈l):=fun l=>by
  induction l with
  |nil=>rfl
  |cons q l ih=>
   show(PyData.eqv (kb (zi q)) _||(l.map zi).any _)=_;rw[ih,Ff,←Bool.decide_or];exact bZ.2 az.symm
 exact aj (fun r=>bc r fun b=>ok (V.bool b)) (bq (a:=l.map zi) rfl (cY ⟨rfl,all_map (fun Z=>rfl) l⟩ (aj ok (a l))):zW (zi p) (.Jq (l.map zi))=_)
noncomputable def z9(b:Nat):Nat→List PP
 |0=>[]
 |a+1=>(List.range b).map (a,·)++z9 b a
theorem og:∀a,(z9 b a).length=a*b
 |0=>(Nat.zero_mul b).symm
 |a+1=>by show((List.range b).map _++z9 b a).length=_;rw[ai,af,aO,og a,Nat.succ_mul,cv]
theorem nF{p:PP}(h2:p.2<b):∀{a},p.1<a→p∈z9 b a
 |a+1,h1=>a9.2 ((dA.1 h1).elim (fun h=>.inr (nF h2 h)) fun h=>.inl (aP.2 ⟨p.2,bP.2 h2,Prod.ext h.symm rfl⟩))
noncomputable def yT(ra rb:List aU)(ca cb:List Cl)(ea eb:List V)(t s:List PP):Env:=[some (false,fB ra ca ea),some (false,fB rb cb eb),some (true,.Jq (t.map pv)),some (true,.Jq (s.map zi)),none,none,none]
noncomputable def By(A B:Nat)(x:List PP×List PP):Nat:=(A*B - x.2.length)*9+x.1.length
structure Ce(R:Nat→Nat→Prop)(A B:Nat)(x:List PP×List PP):Prop where
 nd:x.2.Nodup
 bd:∀p∈x.2,p.1<A∧p.2<B
 td:∀p∈x.1,R p.1 p.2
 me:By A B x≤40000
theorem Ce.room{R:Nat→Nat→Prop}{A B:Nat}{x:List PP×List PP}(I:Ce R A B x):x.2.length≤A*B:=by
 have:=I.nd.length_le_of_subset fun p k=>nF (I.bd p k).2 (I.bd p k).1
 rwa [og]at this
variable{R:Nat→Nat→Prop}
theorem xm(ho:r.Ok)(h2:ca.length≤2):(nJ ca cb x y r r').length≤8:=by
 unfold nJ;rw[ai,ai];refine bo (b:=4) (d:=4) (bo (b:=3) (d:=1) (aa (List.length_zip▸Nat.min_le_left _ _) ho.short) (by cases jm r.op<;>exact ae rfl)) ?_
 exact aa (yJ (uK x) _) (by rw[aO];exact bW 2 h2)
theorem Jc(t:List PP):(t.map pv).all (gB 20)=true:=all_map (fun Z=>rfl) t
theorem IS{a k t q:Nat}(h:q≤8):k*9+(t+q)<(a+k+1 - a)*9+(t+1):=by
 rw[bO,Nat.add_sub_cancel_left,Nat.succ_mul,bO];refine Nat.add_lt_add_left (aF (aR h t) ?_) _;rw[cv 9,bO];exact Nat.add_lt_add_left (by decide) t
noncomputable abbrev GP(ra rb:List aU)(ca cb:List Cl)(ea eb:List V)(x:List PP×List PP):Env:=yT ra rb ca cb ea eb x.1 x.2
noncomputable abbrev BU(ra rb:List aU)(ca cb:List Cl)(ea eb:List V)(R:Nat→Nat→Prop)(A B:Nat):=Wk (GP ra rb ca cb ea eb) (Ce R A B) (By A B) (fun Z=>False) False
theorem yY{A B:Nat}{s t:List PP}{p:PP}{more:List PP}(ho:∀r∈ra,r.Ok)(ho':∀r∈rb,r.Ok)(hn:ra.length≤1000)(hn':rb.length≤1000)(I:Ce R A B (t++[p],s))(hX:A*B≤4000)(hq:sN ra p.1<A∧sN rb p.2<B∧more.length≤8∧(∀q∈more,R q.1 q.2)∧callF tab (d+2) 48 [fB ra ca ea,fB rb cb eb,.int (st ra p.1),.int (st rb p.2)]=ok (.Jq (more.map pv),[])):BU ra rb ca cb ea eb R A B (t++[p],s) (bJ (callF tab (d+2)) [] eS.tl.tl.tl.hd.bd (yT ra rb ca cb ea eb (t++[p]) s)):=by
 have g1:ft ((t++[p]).map pv).getLast? =ok (pv p):=by rw[aw];exact aj ft List.getLast?_concat
 have g2:((t++[p]).map pv).dropLast=t.map pv:=by rw[aw];exact List.dropLast_concat
 have hp:bJ (callF tab (d+2)) [] eS.tl.tl.tl.hd.bd.hd (yT ra rb ca cb ea eb (t++[p]) s)=ok (.nxt,((yT ra rb ca cb ea eb t s).set 4 (some (false,nv p.1))).set 5 (some (false,nv p.2))):=by
  refine bq (a:=(t++[p]).map pv) rfl (bq g1 ?_);rw[g2];rfl
 have pz:V.Js [.int (st ra p.1),.int (st rb p.2)]=zi (sN ra p.1,sN rb p.2):=by rw[yB,yB];rfl
 have u {z} (k:bJ (callF tab (d+2)) [] eS.tl.tl.tl.hd.bd.tl.tl.tl (((yT ra rb ca cb ea eb t s).set 4 (some (false,.int (st ra p.1)))).set 5 (some (false,.int (st rb p.2))))=z):bJ (callF tab (d+2)) [] eS.tl.tl.tl.hd.bd (yT ra rb ca cb ea eb (t++[p]) s)=z:=
  ax hp (ax (bX (bj (a6 (aD rfl rfl rfl) rfl) (Hk ho hn))) (ax (bX (bj (a6 (aD rfl rfl rfl) rfl) (Hk ho' hn'))) k))
 have hin:aY (callF tab (d+2)) (.u (.h .JK (.Js (.cons (.c 4) (.cons (.c 5) .nil))) (.c 3))) (((yT ra rb ca cb ea eb t s).set 4 (some (false,.int (st ra p.1)))).set 5 (some (false,.int (st rb p.2))))=ok (.bool (decide ((sN ra p.1,sN rb p.2)∈s))):=
  dM (aD rfl rfl (pz▸EY _ s)) rfl
 have lm (w:List PP):By A B (w,s)=(A*B - s.length)*9+w.length:=rfl;by_cases hs:(sN ra p.1,sN rb p.2)∈s
 ·rw[u (bq (eK hin rfl (ak hs) rfl) rfl)];have lt:By A B (t,s)<By A B (t++[p],s):=by rw[lm,lm,ai];exact a4 _
  exact .cont (s':=(t,s)) ⟨I.nd,I.bd,fun q k=>I.td q (bE _ k),aa (aE lt) I.me⟩ lt
 ·obtain⟨qA,qB,ql,qt,qc⟩:=hq;have nd:(s++[(sN ra p.1,sN rb p.2)]).Nodup:=List.nodup_append.2 ⟨I.nd,bM.2 ⟨nofun,.nil⟩,fun a ha b hb e=>hs (aq.1 hb▸e▸ha)⟩;have bd:∀q∈s++[(sN ra p.1,sN rb p.2)],q.1<A∧q.2<B:=fun q k=>(a9.1 k).elim (I.bd q) fun k=>by cases aq.1 k;exact⟨qA,qB⟩
  have room:(s++[(sN ra p.1,sN rb p.2)]).length≤A*B:=by
   have:=nd.length_le_of_subset fun p k=>nF (bd p k).2 (bd p k).1
   rwa [og]at this
  have lt:By A B (t++more,s++[(sN ra p.1,sN rb p.2)])<By A B (t++[p],s):=by
   show(A*B - (s++[(sN ra p.1,sN rb p.2)]).length)*9+(t++more).length<(A*B - s.length)*9+(t++[p]).length;obtain⟨k,hk⟩:=Nat.le.dest room;rw[ai]at hk;rw[ai,ai,ai,←hk,Nat.add_sub_cancel_left,b7];exact IS ql
  have J:Ce R A B (t++more,s++[(sN ra p.1,sN rb p.2)]):=⟨nd,bd,fun q k=>(a9.1 k).elim (fun k=>I.td q (bE _ k)) (qt q),aa (aE lt) I.me⟩;have hl:(t++more).length≤lim:=aa (cn _ _) (aa J.me (by decide))
  have a1:aY (callF tab (d+2)) (.Ka (.h .add (.c 2) (.c 6))) (((((yT ra rb ca cb ea eb t (s++[(sN ra p.1,sN rb p.2)])).set 4 (some (false,.int (st ra p.1)))).set 5 (some (false,.int (st rb p.2)))).set 6 (some (false,.Jq (more.map pv)))))=ok (.Jq ((t++more).map pv)):=by
   refine bq (aD rfl rfl (cY (by rw[←aw,af];exact hl) rfl)) (bq (a:=t.map pv++more.map pv) rfl ?_);rw[←aw,Jc];rfl
  rw[u (ax (cU hin rfl (ao hs) rfl) (ax (ρ1:=(((yT ra rb ca cb ea eb t (s++[(sN ra p.1,sN rb p.2)])).set 4 (some (false,.int (st ra p.1)))).set 5 (some (false,.int (st rb p.2))))) ?_ (ax (bX (bj rfl qc)) (ax (eH rfl rfl rfl) (ax (eG nofun a1) rfl)))))]
  ·exact .nxt (s':=(t++more,_)) J lt
  ·unfold yT;rw[aw];exact fj (io:=[]) rfl (pz▸rfl) (by rw[af];exact aa I.room (aa hX (by decide)))
end
section
variable{F:FT}{d n i j b:Nat}{ρ:Env}{ra rb:List aU}{ca cb:List Cl}{ea eb:List V}{x y:Nat}{r r':aU}{R:Nat→Nat→Prop}
theorem yI{z:Nat}{k:Nat}(h:st ra z=(k:Nat) - 1):sN ra z=k:=aX (Int.sub_left_inj 1|>.1 ((yB ra z).symm.trans h))
theorem vo{z:Nat}(h:st ra z=x):sN ra z=x+1:=yI (h.trans (Int.add_sub_cancel (x:Int) 1).symm)
theorem Dp(B:ze ra rb ca cb R)(ho:∀r∈ra,r.Ok)(ho':∀r∈rb,r.Ok)(hc:ca.length=cb.length)(h2:ca.length≤2){p:PP}(hp:R p.1 p.2):∃more:List PP,sN ra p.1<ra.length+2∧sN rb p.2<rb.length+2∧more.length≤8∧(∀q∈more,R q.1 q.2)∧callF tab (d+2) 48 [fB ra ca ea,fB rb cb eb,.int (st ra p.1),.int (st rb p.2)]=ok (.Jq (more.map pv),[]):=by
 have lt {a k:Nat} (h:a<k):a+1<k+2:=Nat.succ_lt_succ (Nat.lt_succ_of_lt h);rcases B.step p.1 p.2 hp with⟨e,f⟩|⟨e,f⟩|⟨e,f,P,N⟩
 ·rw[yI (k:=0) e,yI (k:=0) f,e,f];exact⟨[],Nat.zero_lt_succ _,Nat.zero_lt_succ _,aQ _,nofun,Ig⟩
 ·rw[vo e,vo f,e,f];exact⟨[],a4 _,a4 _,aQ _,nofun,Hc⟩
 ·rw[vo e,vo f,e,f];have o:=ho _ (ay P.a);exact⟨_,lt (ag.1 P.a).1,lt (ag.1 P.b).1,xm o h2,N.all,IV P o (ho' _ (ay P.b)) hc (aa h2 (by decide))⟩
theorem zK{x:List PP×List PP}:bc (aY F (.u (.h .ne (.c 2) (.Jq .nil))) (GP ra rb ca cb ea eb x)) da=ok !x.1.isEmpty:=
 bq (dM (v:=.bool !x.1.isEmpty) (aD rfl rfl (aj (fun r=>bc r fun b=>ok (V.bool !b)) (cY ⟨all_map (fun Z=>rfl) x.1,rfl⟩ (by cases x.1<;>rfl):AC (.Jq (x.1.map pv)) (.Jq [])=ok x.1.isEmpty))) rfl) rfl
theorem zf(B:ze ra rb ca cb R)(ho:∀r∈ra,r.Ok)(ho':∀r∈rb,r.Ok)(hn:ra.length≤60)(hn':rb.length≤60)(hc:ca.length=cb.length)(h2:ca.length≤2)(hX:(ra.length+2)*(rb.length+2)≤4000)(x:List PP×List PP):Ce R (ra.length+2) (rb.length+2) x→(!x.1.isEmpty)=true→BU ra rb ca cb ea eb R (ra.length+2) (rb.length+2) x (bJ (callF tab (d+2)) [] eS.tl.tl.tl.hd.bd (GP ra rb ca cb ea eb x)):=by
 obtain⟨t,s⟩:=x;refine yr (P:=fun t=>Ce R (ra.length+2) (rb.length+2) (t,s)→(!t.isEmpty)=true→BU ra rb ca cb ea eb R (ra.length+2) (rb.length+2) (t,s) (bJ (callF tab (d+2)) [] eS.tl.tl.tl.hd.bd (GP ra rb ca cb ea eb (t,s)))) (fun Z e=>nomatch e) (fun t p I Z=>?_) t;obtain⟨more,q⟩:=Dp (d:=d) (ea:=ea) (eb:=eb) B ho ho' hc h2 (I.td p (aA _ (.head _)));exact yY ho ho' (aa hn (by decide)) (aa hn' (by decide)) I hX q
theorem HZ(B:ze ra rb ca cb R)(ho:∀r∈ra,r.Ok)(ho':∀r∈rb,r.Ok)(hn:ra.length≤60)(hn':rb.length≤60)(hc:ca.length=cb.length)(h2:ca.length≤2):callF tab (d+3) 49 [fB ra ca ea,fB rb cb eb]=ok (.bool true,[]):=by
 have hX:(ra.length+2)*(rb.length+2)≤4000:=aa (Nat.mul_le_mul (bk hn 2) (bk hn' 2)) (by decide);have l0:By (ra.length+2) (rb.length+2) ([(0,0)],[])≤40000:=aa (bQ (Nat.mul_le_mul_right 9 hX)) (by decide);have L:=lA (test:=fun ρ=>bc (aY (callF tab (d+2)) (.u (.h .ne (.c 2) (.Jq .nil))) ρ) da) (fun Z Z=>zK) (zf (d:=d) (ea:=ea) (eb:=eb) B ho ho' hn hn' hc h2 hX) lim ([(0,0)],[]) ⟨.nil,nofun,fun p m=>by cases aq.1 m;exact B.zero,l0⟩ (aF l0 (by decide));generalize hz:gS _ _ _ _=q at L;cases L with
 |nxt _ _=>exact fR rfl rfl rfl (ax (eH (aD (d7 (aD rfl rfl rfl) (a7 _ _)) (d7 (aD rfl rfl rfl) (a7 _ _)) (by rw[hc];exact xW rfl)) rfl rfl) (ax (eG nofun rfl) (ax (eG nofun rfl) (ax hz (cX rfl)))))
 |ret h=>exact h.elim
 |exc h=>exact h.elim
end
section
inductive yX(ra rb:List aU)(φ:Nat→Nat)(w:Nat):Nat→Prop
 |here:yX ra rb φ w w
 |step {g c:Nat}:ra[g]? =some ⟨56,.go c⟩→rb[φ g]? =some ⟨56,.go (φ w)⟩→yX ra rb φ w c→yX ra rb φ w g
variable{ra rb:List aU}{ca:List Cl}{φ:Nat→Nat}{G:Nat→Prop}{a c e x w g:Nat}
theorem yX.ch(h:yX ra rb φ w g):Ch ra Al g w:=by
 induction h with
 |here=>exact .refl _
 |step q _ _ ih=>exact .step q trivial ih
structure iz(ra rb:List aU)(φ f:Nat→Nat)(x:Nat)(r:aU):Prop where
 row:rb[φ x]? =some (r.map f)
 gs:∀g∈r.gs,∃w,yX ra rb φ w g∧f g=φ w
 nx:φ (x+1)=φ x+1
 le:∀j,φ j≤φ x↔j≤x
 lt:∀j,φ x<φ j↔x<j
inductive FF(ra rb:List aU)(φ:Nat→Nat)(x:Nat)(r:aU):Prop
 |drop {a:Nat}:r=⟨56,.go a⟩→φ a=φ x→x<a→a<ra.length→FF ra rb φ x r
 |keep {f:Nat→Nat}:iz ra rb φ f x r→FF ra rb φ x r
structure ju(ra rb:List aU)(ca:List Cl)(φ:Nat→Nat)(G:Nat→Prop):Prop where
 end_:φ ra.length=rb.length
 last:G ra.length
 le:∀x,G x→x≤ra.length
 g0:G 0
 z0:φ 0=0
 row:∀x r,G x→ra[x]? =some r→FF ra rb φ x r
 goal:∀x r,G x→ra[x]? =some r→∀g∈r.gs,G g
 fall:∀x r,G x→ra[x]? =some r→ends r.op=false→G (x+1)
 hand:∀c∈ca,∀x,G x→c.t0≤x→x<c.t1→G c.h0∧(c.s=1→G c.x)
noncomputable def Ji:Arg→Prop
 |.go _=>True
 |_=>False
theorem sZ{r:aU}{f:Nat→Nat}(h:r.map f=⟨56,.go c⟩):∃g,r=⟨56,.go g⟩∧f g=c:=by
 obtain⟨op,a⟩:=r;cases a with
 |go g=>cases h;exact⟨g,rfl,rfl⟩
 |_=>exact(show False=True from aj (fun r:aU=>Ji r.arg) h).symm.mp trivial|>.elim
theorem mH{n m:Nat}(h:n≤x+(m+1))(l:x<a):n≤a+m:=aa h (by rw[cv m,←bO];exact bk l m)
section
variable(S:ju ra rb ca φ G)
include S
theorem ju.way(h:Ch ra Al a e)(ga:G a):G e:=by
 induction h with
 |refl=>exact ga
 |step q _ _ ih=>exact ih (S.goal _ _ ga q _ (.head _))
theorem ju.ch(h:Ch ra Al a e)(s:iK ra Al e)(ga:G a):∀y,Ch ra Al a y→Ch rb Al (φ y) (φ e):=by
 induction h with
 |refl=>intro y k;obtain rfl:=k.stop s;exact .refl _
 |step q _ h ih=>
  intro y k;have gc:=S.goal _ _ ga q _ (.head _);cases k with
  |step q' _ k=>obtain rfl:=iI q q';exact ih s gc y k
  |refl=>
   rcases S.row _ _ ga q with⟨e1,e2,_⟩|K
   ·cases e1;exact e2▸ih s gc _ (.refl _)
   ·obtain⟨w,hw,fw⟩:=K.gs _ (.head _);exact .step (K.row.trans (aj (fun g=>some (aU.mk 56 (.go g))) fw)) trivial (ih s gc w hw.ch)
theorem ju.stop(ge:G e)(s:iK ra Al e):iK rb Al (φ e):=fun c q Z=>by
 cases h:ra[e]? with
 |none=>
  rw[cL (S.le e ge) (cA.1 h),S.end_,bn (aM _)]at q;exact nomatch q
 |some r=>
  rcases S.row _ _ ge h with⟨rfl,_⟩|K
  ·exact s _ h trivial
  ·obtain⟨g,rfl,_⟩:=sZ (ah (K.row.symm.trans q));exact s _ h trivial
theorem ju.live:∀m x,G x→ra.length≤x+m→(∀e,Ch ra Al x e→¬iK ra Al e)→∃w,G w∧(∀e,Ch ra Al w e→¬iK ra Al e)∧rb[φ x]? =some ⟨56,.go (φ w)⟩
 |0,x,_,hm,h=>absurd (fun c q=>absurd (ag.1 q).1 (bS.2 hm)) (h x (.refl x))
 |m+1,x,gx,hm,h=>by
  obtain⟨c,q⟩:∃c,ra[x]? =some ⟨56,.go c⟩:=bg fun n=>h x (.refl x) fun c q=>absurd ⟨c,q⟩ n;have gc:=S.goal _ _ gx q c (.head _);rcases S.row _ _ gx q with⟨e1,e2,l,_⟩|K
  ·cases e1;obtain⟨w,a,b,k⟩:=ju.live m c gc (mH hm l) fun e k=>h e (.step q trivial k);exact⟨w,a,b,e2▸k⟩
  ·obtain⟨w,hw,fw⟩:=K.gs _ (.head _);exact⟨w,S.way hw.ch gc,fun e k=>h e (.step q trivial (hw.ch.trans k)),K.row.trans (aj (fun g=>some (aU.mk 56 (.go g))) fw)⟩
theorem ju.endless{u:Nat}(k:Ch rb Al u e):∀x,G x→(∀e,Ch ra Al x e→¬iK ra Al e)→φ x=u→¬iK rb Al e:=by
 induction k with
 |refl u=>
  rintro x gx h rfl s;obtain⟨w,_,_,q⟩:=S.live _ x gx (cn _ x) h;exact s _ q trivial
 |step p _ _ ih=>
  rintro x gx h rfl s;obtain⟨w,gw,hw,q⟩:=S.live _ x gx (cn _ x) h;exact ih w gw hw (iI q p) s
theorem ju.endO(gx:G x):Mine.endO rb Al (φ x)=(Mine.endO ra Al x).map φ:=by
 cases h:Mine.endO ra Al x with
 |none=>exact eF.2 fun e k=>S.endless k x gx (eF.1 h) rfl
 |some e=>exact dH.2 (have h:=dH.1 h;⟨S.ch h.1 h.2 gx x (.refl x),S.stop (S.way h.1 gx) h.2⟩)
end
variable{f:Nat→Nat}{r:aU}
theorem map_nil(h:r.gs=[]):r.map f=r:=by
 obtain⟨op,a⟩:=r;cases a with
 |go g=>cases h
 |sw gs=>obtain rfl:=(show gs=[]from h);rfl
 |_=>rfl
theorem F9{p q:Prop}[Decidable p][Decidable q](h:p↔q):decide p=decide q:=bZ.2 h
theorem iz.bt(K:iz ra rb φ f x r)(a b:Nat):(decide (φ a≤φ x)&&decide (φ x<φ b))=(decide (a≤x)&&decide (x<b)):=by rw[F9 (K.le a),F9 (K.lt b)]
theorem iz.inT(K:iz ra rb φ f x r)(c:Cl):Mine.inT (c.map φ) (φ x)=Mine.inT c x:=K.bt _ _
theorem iz.parts(K:iz ra rb φ f x r)(c:Cl):fX (c.map φ) (φ x)=fX c x:=by
 show V.Js [nv c.s,nv (if c.s=0 then(if c.s=1 then φ c.x else c.x)else 0),.bool (Mine.inT (c.map φ) (φ x)),.bool (decide (c.s=1)&&(decide ((if c.s=1 then φ c.x else c.x)≤φ x)&&decide (φ x<φ c.h0))),.bool (decide (φ c.h0≤φ x)&&decide (φ x<φ c.h1))]=_;rw[K.inT,K.bt c.h0];by_cases s:c.s=1
 ·rw[aB s,K.bt,aC (c:=c.s=0) (by rw[s];decide)];unfold fX;rw[aC (c:=c.s=0) (by rw[s];decide)]
 ·rw[aC s];unfold fX;rw[ao s];rfl
theorem tL{op:Int}(h:jm op=true)(n:op≠56):ends op=false:=by
 cases e:ends op with
 |false=>rfl
 |true=>
  unfold ends at e;simp only[Bool.or_eq_true,beq_iff_eq]at e;rcases e with(((((e|e)|e)|e)|e)|e)|e<;>subst e<;>first|exact absurd rfl n|cases h
noncomputable def SR(ra rb:List aU)(φ:Nat→Nat)(G:Nat→Prop)(u v:Nat):Prop:=G v∧endO rb Al u=(endO ra Al v).map φ
theorem Ch.end_(h:Ch ra Al a c):endO ra Al c=endO ra Al a:=by
 cases q:endO ra Al c with
 |some e=>exact(dH.2 (have k:=dH.1 q;⟨h.trans k.1,k.2⟩)).symm
 |none=>exact(eF.2 fun e k s=>(h.split k).elim (fun k=>eF.1 q e k s) fun k=>eF.1 q c (.refl c) (k.stop s▸s)).symm
theorem ju.bis(S:ju ra rb ca φ G)(ho:∀r∈ra,r.Ok):ze rb ra (ca.map (Cl.map φ)) ca (SR ra rb φ G):=by
 have go:∀{x},G x→SR ra rb φ G (φ x) x:=fun gx=>⟨gx,S.endO gx⟩;have z:=go S.g0;rw[S.z0]at z;refine⟨z,fun u v ⟨gv,h⟩=>?_⟩;have hv (a:Int) (rows:List aU) (z:Nat) (o:Option Nat) (q:Mine.endO rows Al z=o) (e:o.elim (-1) Int.ofNat=a):st rows z=a:=by subst e q;unfold st;cases Mine.endO rows Al z<;>rfl
 cases q:Mine.endO ra Al v with
 |none=>rw[q]at h;exact .no (hv _ rb u _ h rfl) (hv _ ra v _ q rfl)
 |some x=>
  rw[q]at h
  replace h:st rb u=(φ x:Nat):=hv _ rb u _ h rfl
  have q':st ra v=(x:Nat):=hv _ ra v _ q rfl;obtain⟨k,s⟩:=dH.1 q;have gx:=S.way k gv;cases hr:ra[x]? with
  |none=>
   obtain rfl:=cL (S.le x gx) (cA.1 hr);exact .fin (h.trans (aj Int.ofNat S.end_)) q'
  |some r=>
   obtain⟨rfl,_⟩|K:=S.row x r gx hr
   ·exact absurd trivial (s _ hr)
   refine .row (x:=φ x) (y:=x) (r:=r.map _) (r':=r) h q' ⟨K.row,hr,rfl,by rw[gJ,af],fun e=>?_,fun j c e hc he=>?_⟩ ⟨fun j g g' h1 h2=>?_,fun hf=>?_,fun j c e hc he ht=>?_⟩
   ·rw[map_nil];rw[gJ]at e;exact List.map_eq_nil_iff.1 e
   ·rw[aV,he]at hc;obtain rfl:=ah (hc);exact⟨K.parts e,rfl,K.inT e⟩
   ·rw[gJ,aV,h2]at h1;obtain rfl:=ah (h1);have m:=ay h2;obtain⟨w,hw,fw⟩:=K.gs g' m;exact⟨(S.goal x r gx hr g' m),by rw[fw,S.endO (S.way hw.ch (S.goal x r gx hr g' m)),hw.ch.end_]⟩
   ·exact K.nx▸go (S.fall x r gx hr (tL hf fun e=>by obtain⟨g,rfl⟩:=vz (ho r (ay hr)) e;exact s _ hr trivial))
   ·rw[aV,he]at hc;obtain rfl:=ah (hc);have H:=S.hand e (ay he) x gx (aT (am.1 ((K.inT e).symm.trans ht)).1) (aT (am.1 ((K.inT e).symm.trans ht)).2);exact⟨go H.1,fun s=>(show(e.map φ).x=φ e.x from aB s)▸go (H.2 s)⟩
variable{rc:List aU}{cb cc:List Cl}{R R':Nat→Nat→Prop}{y z:Nat}{r' r'':aU}
noncomputable def Cp(R R':Nat→Nat→Prop)(u w:Nat):Prop:=∃v,R u v∧R' v w
theorem m6{α β:Type}{l:List α}{m:List β}{j:Nat}{a:α}(h:l.length=m.length)(e:l[j]? =some a):∃b,m[j]? =some b:=⟨_,bw (h▸(ag.1 e).1)⟩
theorem ze.trans(hl:ca.length=cb.length)(B:ze ra rb ca cb R)(B':ze rb rc cb cc R'):ze ra rc ca cc (Cp R R'):=by
 refine⟨⟨0,B.zero,B'.zero⟩,fun u w ⟨v,h,h'⟩=>?_⟩;rcases B.step u v h with⟨a,b⟩|⟨a,b⟩|⟨a,b,P,N⟩<;>rcases B'.step v w h' with⟨a',b'⟩|⟨a',b'⟩|⟨a',b',P',N'⟩
 ·exact .no a b'
 ·exact absurd (b.symm.trans a') (by nofun)
 ·exact absurd (b.symm.trans a') (by nofun)
 ·exact absurd (a'.symm.trans b) (by nofun)
 ·exact .fin a b'
 ·exact absurd (ag.1 P'.a).1 (aX (a'.symm.trans b)▸aZ _)
 ·exact absurd (a'.symm.trans b) (by nofun)
 ·exact absurd (ag.1 P.b).1 (aX (b.symm.trans a')▸aZ _)
 ·obtain rfl:=aX (b.symm.trans a');obtain rfl:=ah (P.b.symm.trans P'.a);refine .row a b' ⟨P.a,P'.b,P.op.trans P'.op,P.len.trans P'.len,fun e=>(P.arg e).trans (P'.arg (List.eq_nil_of_length_eq_zero (P.len▸aj List.length e))),fun j c e hc he=>?_⟩ ⟨fun j g g' h1 h2=>?_,fun hf=>⟨_,N.fall hf,N'.fall (P.op▸hf)⟩,fun j c e hc he ht=>?_⟩
  ·obtain⟨m,hm⟩:=m6 hl hc;have p:=P.parts j c m hc hm;have q:=P'.parts j m e hm he;exact⟨p.1.trans q.1,p.2.1.trans q.2.1,p.2.2.trans q.2.2⟩
  ·obtain⟨m,hm⟩:=m6 P.len h1;exact⟨m,N.gs j g m h1 hm,N'.gs j m g' hm h2⟩
  ·obtain⟨m,hm⟩:=m6 hl hc;have p:=(P.parts j c m hc hm).2;have n:=N.hand j c m hc hm ht;have n':=N'.hand j m e hm he (p.2▸ht);exact⟨⟨_,n.1,n'.1⟩,fun s=>⟨_,n.2 s,n'.2 (p.1▸s)⟩⟩
end
section
variable{ra rb:List aU}{ca S:List Cl}{φ f:Nat→Nat}{G:Nat→Prop}{a c e x w g b i k:Nat}{r:aU}
inductive DV(rows:List aU)(cls:List Cl)(b:Nat):Int→Prop
 |ok {m:Nat}:hV rows cls b→lU rows cls b m→DV rows cls b m
 |no:¬hV rows cls b→DV rows cls b (-1)
theorem oo(r:aU):tg b (r.map f)=tg b r:=by
 obtain⟨op,a⟩:=r;cases a<;>rfl
theorem mF(r:aU):fQ b (r.map f) k=fQ b r k:=by unfold fQ;rw[oo];rfl
theorem IF:tg b ⟨56,.go c⟩=(0,0):=rfl
theorem eL{n:Nat}:g∈iA n i r↔(ends r.op=false∧i+1<n∧g=i+1)∨g∈r.gs:=by
 have:=jS (rows:=List.replicate n ⟨0,.num 0⟩) (cls:=[]) (i:=i) (r:=r) (g:=g);rw[b9]at this;unfold qw at this;rw[b9,List.flatMap_nil,aK]at this;exact this.trans ⟨fun h=>h.resolve_right (by rintro⟨_,m,_⟩;exact(by cases m)),Or.inl⟩
theorem t5{n:Nat}:g∈iA n i ⟨56,.go c⟩↔g=c:=eL.trans ⟨fun h=>h.elim (fun h=>nomatch h.1) aq.1,fun h=>.inr (h▸.head _)⟩
theorem jV.br(h:jV ra S b i k)(q:ra[i]? =some ⟨56,.go c⟩):jV ra S b c k:=.go h q (aQ k) (t5.2 rfl)
theorem jV.ch(h:Ch ra Al a e):jV ra S b a k→jV ra S b e k:=by
 induction h with
 |refl=>exact id
 |step q _ _ ih=>exact fun d=>ih (d.br q)
inductive E7(ra rb:List aU)(φ:Nat→Nat)(G:Nat→Prop)(x:Nat):Prop
 |mk {z r f}:Ch ra Al x z→G z→ra[z]? =some r→iz ra rb φ f z r→φ z=φ x→E7 ra rb φ G x
theorem ju.land(S:ju ra rb ca φ G):∀m x,G x→x<ra.length→ra.length≤x+m→E7 ra rb φ G x
 |0,_,_,l,e=>absurd l (bS.2 e)
 |m+1,x,gx,l,e=>by
  have q:=bw l;rcases S.row x _ gx q with⟨e1,e2,l,l'⟩|K
  ·rw[e1]at q;obtain⟨h,a,b,c,d⟩:=ju.land S m _ (S.goal x _ gx q _ (.head _)) l' (mH e l);exact⟨.step q trivial h,a,b,c,d.trans e2⟩
  ·exact⟨.refl x,gx,q,K,rfl⟩
end
section
section
section
variable(ra rb:List aU)(L:List Cl)(φ:Nat→Nat)(G:Nat→Prop)(b:Nat)
noncomputable abbrev DB:Nat→Nat→Prop:=jV rb (L.map (Cl.map φ)) b
inductive Ae(k:Nat):Nat→Prop
 |mk {z:Nat} {r:aU} {f:Nat→Nat}:jV ra L b z k→G z→ra[z]? =some r→iz ra rb φ f z r→Ae k (φ z)
inductive FD(k:Nat):Nat→Prop
 |at_ {i:Nat}:DB rb L φ b (φ i) k→FD k i
 |on {i c:Nat}:(∀k,¬DB rb L φ b (φ i) k)→ra[i]? =some ⟨56,.go c⟩→FD k c→FD k i
inductive Up(k i:Nat):Prop
 |mk:G i→i<ra.length→FD ra rb L φ b k i→Up k i
end
variable{ra rb:List aU}{ca L:List Cl}{φ f:Nat→Nat}{G:Nat→Prop}{a c e x w g b i k k' m:Nat}{r:aU}(S:ju ra rb ca φ G)(F:∀j,f8 ra j)(h0:0<ra.length)(hs:∀c∈L,∀p∈dQ c,G p.1∧p.1<ra.length)
theorem pt{c:Cl}{p:Nat×Nat}:p∈dQ (c.map φ)↔∃q∈dQ c,p=(φ q.1,q.2):=by
 have:dQ (c.map φ)=(dQ c).map fun q=>(φ q.1,q.2):=by
  unfold dQ;show(φ c.h0,sd c)::(if c.s=1 then [((if c.s=1 then φ c.x else c.x),1)]else [])=_;by_cases s:c.s=1
  ·rw[aB s,aB s,aB s];rfl
  ·rw[aC s,aC s];rfl
 rw[this,aP];exact exists_congr fun q=>and_congr .rfl eq_comm
include S
theorem ju.landD(gx:G x)(l:x<ra.length)(d:jV ra L b x k):Ae ra rb L φ G b k (φ x):=by
 obtain⟨h,a,q,K,e⟩:=S.land _ x gx l (cn _ _);exact e▸.mk (d.ch h) a q K
include F h0 hs in
theorem ju.down{u:Nat}(h:DB rb L φ b u k):Ae ra rb L φ G b k u:=by
 induction h with
 |zero=>
  have d:Ae ra rb L φ G b 0 (φ 0):=S.landD S.g0 h0 .zero
  rwa [S.z0]at d
 |Ky m q=>
  obtain⟨c,m',rfl⟩:=aP.1 m;obtain⟨p,q',rfl⟩:=pt.1 q;have l:=hs c m' p q';exact S.landD l.1 l.2 (.Ky m' q')
 |go _ hr ht m ih=>
  obtain⟨d,gz,q,K⟩:=ih;obtain rfl:=ah (K.row.symm.trans hr);rw[oo]at ht;rw[mF];rcases eL.1 m with⟨e,l,rfl⟩|m
  ·have gn:=S.fall _ _ gz q e;have l':=Nat.lt_of_le_of_ne (S.le _ gn) fun z=>by rw[←K.nx,z,S.end_]at l;exact aZ _ l
   exact K.nx▸S.landD gn l' (.go d q ht (eL.2 (.inl ⟨e,l',rfl⟩)))
  ·rw[gJ]at m;obtain⟨g,m',rfl⟩:=aP.1 m;obtain⟨w,h,e⟩:=K.gs g m';exact e▸S.landD (S.way h.ch (S.goal _ _ gz q g m')) (h.ch.lt F (F _ _ q g m')) (jV.ch h.ch (.go d q ht (eL.2 (.inr m'))))
omit S
theorem FD.one(O:hV rb (L.map (Cl.map φ)) b)(h:FD ra rb L φ b k i)(h':FD ra rb L φ b k' i):k=k':=by
 induction h with
 |at_ d=>cases h' with
  |at_ d'=>exact O.one _ _ _ d d'
  |on n _ _=>exact absurd d (n _)
 |on n q _ ih=>cases h' with
  |at_ d'=>exact absurd d' (n _)
  |on _ q' h'=>obtain rfl:=iI q q';exact ih h'
theorem yX.fd(O:hV rb (L.map (Cl.map φ)) b)(h:yX ra rb φ w g)(d:DB rb L φ b (φ w) k):FD ra rb L φ b k g:=by
 induction h with
 |here=>exact .at_ d
 |step q p _ ih=>
  exact(Classical.em (∃k,DB rb L φ b (φ _) k)).elim (by rintro⟨k',d'⟩;exact O.one _ _ _ (d'.br p) d▸.at_ d') fun n=>.on (fun k d'=>n ⟨k,d'⟩) q ih
include S F h0 hs in
theorem ju.up(O:hV rb (L.map (Cl.map φ)) b)(h:jV ra L b i k):Up ra rb L φ G b k i:=by
 induction h with
 |zero=>exact⟨S.g0,h0,.at_ (S.z0.symm▸.zero)⟩
 |Ky m q=>have l:=hs _ m _ q;exact⟨l.1,l.2,.at_ (.Ky (bV m) (pt.2 ⟨_,q,rfl⟩))⟩
 | @go i k r g _ hr ht m ih=>
  obtain⟨gi,_,D⟩:=ih;have gg:G _:=(eL.1 m).elim (fun h=>h.2.2▸S.fall _ _ gi hr h.1) (S.goal _ _ gi hr _);refine⟨gg,(yq (F _ _ hr) m),?_⟩;cases D with
  |on n q D=>obtain rfl:=ah (q.symm.trans hr);obtain rfl:=t5.1 m;exact D
  |at_ d=>cases S.row _ _ gi hr with
   |drop e1 e2 _ _=>subst e1;obtain rfl:=t5.1 m;exact .at_ (e2.symm▸d)
   | @keep f K=>
    have u {y} (h:y∈iA rb.length (φ i) (r.map f)):DB rb L φ b y (fQ b r k):=by have:=jV.go d K.row ((oo r).symm▸ht) h;rwa [mF]at this
    rcases eL.1 m with⟨e,l,rfl⟩|m
    ·obtain⟨_,_,_,K',e'⟩:=S.land _ _ gg l (cn _ _);exact .at_ (K.nx.symm▸u (eL.2 (.inl ⟨e,K.nx▸e'▸(ag.1 K'.row).1,rfl⟩)))
    ·obtain⟨w,h,e⟩:=K.gs _ m;exact h.fd O (e▸u (eL.2 (.inr (by rw[gJ];exact bV m))))
end
variable{ra rb:List aU}{ca L:List Cl}{φ f:Nat→Nat}{G:Nat→Prop}{a c e x w g b i k k' m:Nat}{r:aU}{v v':Int}
theorem Ht:fQ b ⟨56,.go c⟩ k=k:=rfl
inductive CQ(rb:List aU)(L:List Cl)(b k:Nat):Prop
 |mk {u:Nat} {r:aU}:jV rb L b u k→rb[u]? =some r→CQ rb L b k
section
variable(S:ju ra rb ca φ G)(F:∀j,f8 ra j)(h0:0<ra.length)(hs:∀c∈L,∀p∈dQ c,G p.1∧p.1<ra.length)
include S F h0 hs
theorem ju.tail{u:Nat}(d:DB rb L φ b u k):CQ rb (L.map (Cl.map φ)) b k:=by
 obtain⟨_,_,_,K⟩:=S.down F h0 hs d;exact⟨d,K.row⟩
theorem ju.ok1(O:hV rb (L.map (Cl.map φ)) b):hV ra L b:=by
 refine⟨fun i k k' d d'=>?_,fun i k r d hr=>?_⟩
 ·obtain⟨_,_,D⟩:=S.up F h0 hs O d;obtain⟨_,_,D'⟩:=S.up F h0 hs O d';exact D.one O D'
 ·obtain⟨gi,_,D⟩:=S.up F h0 hs O d;cases D with
  |on _ q _=>obtain rfl:=ah (q.symm.trans hr);exact aQ k
  |at_ d=>cases S.row _ _ gi hr with
   |drop e _ _ _=>subst e;exact aQ k
   |keep K=>have:=O.full _ _ _ d K.row;rwa [oo]at this
theorem ju.ok2(O:hV ra L b):hV rb (L.map (Cl.map φ)) b:=by
 refine⟨fun u k k' d d'=>?_,fun u k r d hr=>?_⟩
 ·generalize h:u=y at d';cases S.down F h0 hs d with
  |mk d1 _ _ K=>cases S.down F h0 hs d' with
   |mk d2 _ _ K'=>
    obtain rfl:=cL ((K'.le _).1 (bu h)) ((K.le _).1 (bu h.symm));exact O.one _ _ _ d1 d2
 ·obtain⟨d1,_,q,K⟩:=S.down F h0 hs d;obtain rfl:=ah (K.row.symm.trans hr);rw[oo];exact O.full _ _ _ d1 q
theorem ju.top(O:hV rb (L.map (Cl.map φ)) b)(T:lU ra L b m):lU rb (L.map (Cl.map φ)) b m:=by
 refine⟨fun u k r d0 hr=>?_,T.at_.imp id ?_⟩
 ·obtain⟨d,_,q,K⟩:=S.down F h0 hs d0;obtain rfl:=ah (K.row.symm.trans hr);rw[mF];exact T.le _ _ _ d q
 ·rintro⟨i,k,r,d,hr,e⟩;obtain⟨gi,li,D⟩:=S.up F h0 hs O d
  have t:CQ rb (L.map (Cl.map φ)) b k:=by
   clear d hr e gi li;induction D with
   |at_ d=>exact S.tail F h0 hs d
   |on _ _ _ ih=>exact ih
  have br:∀c,r=⟨56,.go c⟩→∃i k r,DB rb L φ b i k∧rb[i]? =some r∧(m=k∨m=fQ b r k):=fun c q=>by
   subst q;obtain⟨d,q⟩:=t;exact⟨_,k,_,d,q,.inl (e.elim id id)⟩
  cases D with
  |on _ q _=>exact br _ (ah (hr.symm.trans q))
  |at_ d=>cases S.row _ _ gi hr with
   |drop e _ _ _=>exact br _ e
   |keep K=>exact⟨_,k,_,d,K.row,by rw[mF];exact e⟩
theorem ju.dv(h:DV ra L b v):DV rb (L.map (Cl.map φ)) b v:=by
 cases h with
 |ok O T=>have O':=S.ok2 F h0 hs O;exact .ok O' (S.top F h0 hs O' T)
 |no n=>exact .no fun O=>n (S.ok1 F h0 hs O)
end
theorem lU.inj{m':Nat}(T:lU ra L b m)(T':lU ra L b m'):m≤m':=by
 rcases T.at_ with rfl|⟨i,k,r,d,q,rfl|rfl⟩
 ·exact aQ _
 ·exact(T'.le i _ r d q).1
 ·exact(T'.le i k r d q).2
theorem jV.mono{L L':List Cl}(h:∀c∈L,c∈L')(d:jV ra L b i k):jV ra L' b i k:=by
 induction d with
 |zero=>exact .zero
 |Ky m q=>exact .Ky (h _ m) q
 |go _ hr ht m ih=>exact .go ih hr ht m
theorem DV.inj(h:DV ra L b v)(h':DV ra L b v'):v=v':=by
 cases h with
 |ok O T=>cases h' with
  |ok _ T'=>exact aj Int.ofNat (cL (T.inj T') (T'.inj T))
  |no n=>exact absurd O n
 |no n=>cases h' with
  |ok O _=>exact absurd O n
  |no _=>rfl
theorem DV.mono{L':List Cl}(h:∀c∈L,c∈L')(D:DV ra L b v)(D':DV ra L' b v'):v'≥0→0≤v∧v≤v':=fun p=>by
 cases D' with
 |no _=>exact absurd p (by decide)
 |ok O' T'=>cases D with
  |ok O T=>
   refine⟨bL _,bC.2 ?_⟩;rcases T.at_ with rfl|⟨i,k,r,d,q,rfl|rfl⟩
   ·exact aQ _
   ·exact(T'.le i _ r (d.mono h) q).1
   ·exact(T'.le i k r (d.mono h) q).2
  |no n=>exact absurd ⟨fun i k k' d d'=>O'.one i k k' (d.mono h) (d'.mono h),fun i k r d=>O'.full i k r (d.mono h)⟩ n
variable{rows:List aU}{cls:List Cl}{K:List Bool}
theorem rD:∀r:aU,r.map id=r
 |⟨_,.go _⟩=>rfl
 |⟨op,.sw gs⟩=>aj (fun l=>(⟨op,.sw l⟩:aU)) (List.map_id gs)
 |⟨_,.num _⟩=>rfl
 |⟨_,.me _⟩=>rfl
noncomputable abbrev fA(cls:List Cl)(i x:Nat):Prop:=key cls x=key cls i
theorem vd(h:Ch rows (fA cls i) g e)(s:iK rows (fA cls i) e):ce rows cls i g=e:=by unfold ce;rw[dH.2 ⟨h,s⟩];rfl
theorem Dn(h:Ch rows (fA cls i) g e)(s:iK rows (fA cls i) e):yX rows (bB rows cls) id e g:=by
 induction h with
 |refl=>exact .here
 | @step a c e q p h ih=>
  refine .step q ((dg q).trans (aj (fun g=>some (aU.mk 56 (.go g))) (vd (i:=a) ?_ ?_))) (ih s)
  ·rw[show fA cls a=fA cls i from funext fun x=>aj (key cls x=·) p];exact h
  ·rw[show fA cls a=fA cls i from funext fun x=>aj (key cls x=·) p];exact s
theorem u7(i g:Nat):yX rows (bB rows cls) id (ce rows cls i g) g:=by
 cases h:endO rows (fA cls i) g with
 |none=>rw[show ce rows cls i g=g by unfold ce;rw[h];rfl];exact .here
 |some e=>have k:=dH.1 h;rw[vd k.1 k.2];exact Dn k.1 k.2
theorem ve(A:ct rows cls){φ:Nat→Nat}{rb:List aU}(h1:φ rows.length=rb.length)(h2:φ 0=0)(h:∀x r,rows[x]? =some r→FF rows rb φ x r):ju rows rb cls φ (·≤rows.length):=
 ⟨h1,aM _,fun Z h=>h,aQ _,h2,fun x r Z=>h x r,fun x r Z q g m=>aE (A.fine x r q g m),fun x r Z q Z=>(ag.1 q).1,fun c m Z Z Z Z=>have I:=A.cin c m;⟨aE I.2.1,fun s=>aE (I.2.2.1 s)⟩⟩
theorem HE(A:ct rows cls):ju rows (bB rows cls) cls id (·≤rows.length):=by
 refine ve A bA.symm rfl fun x r q=>?_
 have t:=dg (cls:=cls) q;unfold fc at t;by_cases h:r.op=221
 ·exact .keep (f:=id) ⟨t.trans (by rw[aB h,rD]),fun g Z=>⟨g,.here,rfl⟩,rfl,fun Z=>.rfl,fun Z=>.rfl⟩
 ·exact .keep (f:=ce rows cls x) ⟨t.trans (by rw[aC h]),fun g Z=>⟨_,u7 x g,rfl⟩,rfl,fun Z=>.rfl,fun Z=>.rfl⟩
theorem D9(q:rows[x]? =some r)(h:K[x]? =some true∨(r=⟨56,.go (x+1)⟩∧x+1<rows.length)):FF rows (cq K rows) (pl K) x r:=by
 by_cases k:K[x]? =some true
 ·exact .keep (f:=pl K) ⟨ei k q,fun g Z=>⟨g,.here,rfl⟩,eW k,fun Z=>uG k,fun Z=>pF k⟩
 ·have h:=h.resolve_left k;exact .drop h.1 (ip k) (a4 x) h.2
theorem vw(q:rows[x]? =some r)(k:¬lg rows cls x=true):r=⟨56,.go (x+1)⟩∧x+1<rows.length:=by
 unfold lg l7 at k;rw[q]at k;obtain⟨op,a⟩:=r;cases a with
 |go g=>
  rw[Bool.or_eq_true,not_or,Bool.not_eq_true',Bool.not_eq_false]at k;have k:=k.1;rw[dY,dY,bU,bU,bU]at k;exact⟨by rw[k.1,k.2.1],k.2.2⟩
 |_=>exact absurd rfl k
theorem zZ(q:rows[x]? =some ⟨56,.go (x+1)⟩)(l:x+1<rows.length):lg rows [] x=false:=by
 unfold lg l7;rw[q];show(!(decide _&&(decide _&&decide _))||_)=false;rw[ak rfl,ak rfl,ak l];rfl
theorem HT(A:ct rows cls):ju rows (cq (kF rows cls) rows) cls (pl (kF rows cls)) (·≤rows.length):=
 ve A cO.symm rfl fun x r q=>D9 q ((Classical.em (lg rows cls x=true)).imp (fun k=>qf.2 ⟨(ag.1 q).1,k⟩) (vw q))
end
section
variable{ra rb R R':List aU}{ca L L' C C':List Cl}{φ f:Nat→Nat}{G:Nat→Prop}{a c e x w g b i k u:Nat}{r:aU}
theorem bf.ch(F:∀j,f8 ra j)(h:Ch ra Al a e):bf ra L a→bf ra L e:=by
 induction h with
 |refl=>exact id
 |step q _ _ ih=>exact fun d=>ih (.go d q (.head _) (F _ _ q _ (.head _)))
theorem xh{c:Cl}{p:Nat}:p∈(c.map φ).hs↔∃q∈c.hs,p=φ q:=by
 have:(c.map φ).hs=c.hs.map φ:=by
  unfold Cl.hs;show(if c.s=1 then [φ c.h0,if c.s=1 then φ c.x else c.x]else [φ c.h0])=_;by_cases s:c.s=1
  ·rw[aB s,aB s,aB s];rfl
  ·rw[aC s,aC s];rfl
 rw[this,aP];exact exists_congr fun q=>and_congr .rfl eq_comm
theorem tn{P:Nat→Prop}{c:Cl}(h:P c.h0)(h':c.s=1→P c.x):∀g∈c.hs,P g:=fun g m=>by
 unfold Cl.hs at m;split at m
 ·rename_i s;exact(az.1 m).elim (fun e=>e▸h) fun m=>aq.1 m▸h' s
 ·exact aq.1 m▸h
inductive w8(ra rb:List aU)(L:List Cl)(φ:Nat→Nat)(G:Nat→Prop):Nat→Prop
 |mk {z:Nat} {r:aU} {f:Nat→Nat}:bf ra L z→G z→ra[z]? =some r→iz ra rb φ f z r→w8 ra rb L φ G (φ z)
section
variable(S:ju ra rb ca φ G)(F:∀j,f8 ra j)
include S F
theorem ju.landR(gx:G x)(d:bf ra L x):w8 ra rb L φ G (φ x):=by
 obtain⟨h,a,q,K,e⟩:=S.land _ x gx d.lt (cn _ _);exact e▸.mk (d.ch F h) a q K
theorem ju.rdown(h0:0<ra.length)(hi:∀c∈L,c∈ca∧c.In ra.length)(hL:∀c∈L',∃c'∈L,c=c'.map φ)(h:bf rb L' u):w8 ra rb L φ G u:=by
 induction h with
 |zero=>
  have d:=S.landR F (L:=L) S.g0 (.zero h0)
  rwa [S.z0]at d
 |go _ hr m _ ih=>
  obtain⟨d,gz,q,K⟩:=ih;obtain rfl:=ah (K.row.symm.trans hr);rw[gJ]at m;obtain⟨g,m',rfl⟩:=aP.1 m;obtain⟨w,h,e⟩:=K.gs g m';exact e▸S.landR F (S.way h.ch (S.goal _ _ gz q g m')) (bf.ch F h.ch (.go d q m' (F _ _ q g m')))
 |fall _ hr e l ih=>
  obtain⟨d,gz,q,K⟩:=ih;obtain rfl:=ah (K.row.symm.trans hr);exact K.nx▸S.landR F (S.fall _ _ gz q e) (.fall d q e (Nat.lt_of_le_of_ne (S.le _ (S.fall _ _ gz q e)) fun z=>by rw[←K.nx,z,S.end_]at l;exact aZ _ l))
 |hand _ m t0 t1 p l ih=>
  obtain⟨d,gz,q,K⟩:=ih;obtain⟨c,m',rfl⟩:=hL _ m;obtain⟨y,p',rfl⟩:=xh.1 p;exact S.landR F (tn (S.hand c (hi c m').1 _ gz ((K.le _).1 t0) ((K.lt _).1 t1)).1 (S.hand c (hi c m').1 _ gz ((K.le _).1 t0) ((K.lt _).1 t1)).2 y p') (.hand d m' ((K.le _).1 t0) ((K.lt _).1 t1) p' (tn (P:=(·<ra.length)) ((hi c m').2).2.1 ((hi c m').2).2.2.1 y p'))
end
inductive wS(R:List aU)(C:List Cl)(R':List aU)(C':List Cl):Prop
 |mk (φ:Nat→Nat) (Q:Nat→Nat→Prop):ct R' C'→C'=C.map (Cl.map φ)→ze R' R C' C Q→0<R'.length→(∀b L v,(∀c∈L,c∈C)→DV R L b v→DV R' (L.map (Cl.map φ)) b v)→(∀c∈C,φ c.h0<φ c.h1→c.h0<c.h1)→(∀c∈C,jg (RF R' (dZ C')) (c.map φ)→jg (RF R (dZ C)) c)→wS R C R' C'
theorem zO(m:∀c∈C,φ c.h0<φ c.h1→c.h0<c.h1){c:Cl}(h:c∈dZ (C.map (Cl.map φ))):∃c'∈dZ C,c=c'.map φ:=by
 obtain⟨c',h',rfl⟩:=aP.1 (eM h).1;exact⟨c',bR.2 ⟨h',ak (m c' h' (eM h).2)⟩,rfl⟩
theorem ju.thr(A:ct R C)(h0:0<R.length)(S:ju R R' C φ (·≤R.length))(A':ct R' (C.map (Cl.map φ)))(m:∀i j,φ i<φ j→i<j):wS R C R' (C.map (Cl.map φ)):=by
 have rd {u} (h:bf R' (dZ (C.map (Cl.map φ))) u):=S.rdown A.fine h0 (fun c m=>⟨(eM m).1,A.cin c (eM m).1⟩) (fun c h=>zO (fun Z Z=>m _ _) h) h;refine⟨φ,_,A',rfl,S.bis A.ok,?_,fun b L v hL=>S.dv A.fine h0 fun c q p k=>?_,fun Z Z=>m _ _,fun c q=>?_⟩
 ·obtain⟨_,_,_,K,_⟩:=S.land _ 0 (aQ _) h0 (cn _ _);exact aF (aQ _) (ag.1 K.row).1
 ·have:=pS A h0 (List.mem_cons_of_mem _ (jE.2 ⟨c,hL c q,k⟩));exact⟨aE this,this⟩
 ·rintro⟨i,a,b,h⟩;cases rd ((fY i).1 h) with
  |mk d _ _ K=>exact⟨_,(K.le _).1 a,(K.lt _).1 b,(fY _).2 d⟩
theorem pE{ψ:Nat→Nat}(c:Cl):(c.map φ).map ψ=c.map (ψ∘φ):=by
 show Cl.mk _ _ _ _ _ (if c.s=1 then ψ (if c.s=1 then φ c.x else c.x)else(if c.s=1 then φ c.x else c.x))=_;unfold Cl.map;by_cases s:c.s=1
 ·rw[aB s,aB s,aB s];rfl
 ·rw[aC s,aC s,aC s];rfl
end
section
variable{ra rb R R':List aU}{ca L L' C C':List Cl}{φ f:Nat→Nat}{G:Nat→Prop}{a c e x w g b i k u n:Nat}{r:aU}{K:List Bool}
theorem wS.trans{R'':List aU}{C'':List Cl}(h:wS R C R' C')(h':wS R' C' R'' C''):wS R C R'' C'':=by
 obtain⟨φ,Q,A,rfl,B,p,dv,m,lv⟩:=h;obtain⟨ψ,Q',A',rfl,B',p',dv',m',lv'⟩:=h';have e (L:List Cl):(L.map (Cl.map φ)).map (Cl.map ψ)=L.map (Cl.map (ψ∘φ)):=by rw[cH];exact cN fun c Z=>pE c
 have hm {c} (q:c∈C):=bV (f:=Cl.map φ) q;refine⟨ψ∘φ,_,A',e C,B'.trans (by rw[af]) B,p',fun b L v hL d=>?_,fun c q l=>m c q (m' _ (hm q) l),fun c q l=>lv c q (lv' _ (hm q) (pE c▸l))⟩;exact e L▸dv' b (L.map (Cl.map φ)) v (fun c q=>by obtain⟨c',q',rfl⟩:=aP.1 q;exact hm (hL c' q')) (dv b L v hL d)
theorem uI(h:∀c∈C,c.In n)(h2:∀j,j≤n→φ j=j):C.map (Cl.map φ)=C:=by
 refine(cN fun c m=>?_).trans (List.map_id C);have I:=h c m;show Cl.mk _ (φ _) (φ _) (φ _) (φ _) _=c;rw[h2 _ (aE I.1),h2 _ (aE I.2.1),h2 _ I.2.2.2.1,h2 _ I.2.2.2.2];by_cases s:c.s=1
 ·rw[aB s,h2 _ (aE (I.2.2.1 s))]
 ·rw[aC s]
theorem ct.thr(A:ct R C)(h0:0<R.length):wS R C (rR R C) (rC R C):=by
 have e:C.map (Cl.map id)=C:=uI A.cin fun Z Z=>rfl;have a:=(HE A).thr A h0 (e.symm▸A.T) fun Z Z=>id;rw[e]at a;exact a.trans ((HT A.T).thr A.T (bA.symm▸h0) A.round fun i j l=>Nat.lt_of_not_le fun l'=>bS.2 (fL l') l)
theorem fS.thr(I:fS R C R' C'):ct R C→0<R.length→wS R C R' C':=by
 induction I with
 |done _=>exact ct.thr
 | @more R C _ _ _ _ ih=>
  intro A h0;have a:=A.thr h0;have p:0<(rR R C).length:=by obtain⟨_,_,_,_,_,p⟩:=a;exact p
  exact a.trans (ih A.round p)
theorem fS.one{R1:List aU}{C1:List Cl}(I:fS R C R' C'):fS R C R1 C1→R1=R'∧C1=C':=by
 induction I with
 |done e=>intro J;cases J with
  |done _=>exact⟨rfl,rfl⟩
  |more l _=>exact absurd e (cG l)
 |more l _ ih=>intro J;cases J with
  |done e=>exact absurd e (cG l)
  |more _ J=>exact ih J
theorem Fd(h:(bB R C)[a]? =some ⟨56,.go c⟩):∃g,R[a]? =some ⟨56,.go g⟩∧c=ce R C a g:=by
 obtain⟨l,e⟩:=(jK (wD R C)).1 h;unfold wD fc at e;rw[(bw l)]at e;by_cases o:(R[a]).op=221
 ·have e':=(aB o).symm.trans e;rw[show(Option.getD (some R[a]) ⟨0,.num 0⟩)=R[a]from rfl]at e';rw[e']at o;exact nomatch o
 ·obtain⟨g,h1,h2⟩:=sZ ((aC o).symm.trans e);exact⟨g,(bw l).trans (aj some h1),h2.symm⟩
theorem Hm(h:R[a]? =some ⟨56,.go c⟩):(bB R C)[a]? =some ⟨56,.go (ce R C a c)⟩:=dg h
theorem Ez:ce (bB R C) C i (ce R C i g)=ce R C i g:=by
 cases h:endO R (fA C i) g with
 |some e=>
  have k:=dH.1 h;rw[vd k.1 k.2];exact vd (.refl e) fun c q p=>by obtain⟨d,q',_⟩:=Fd q;exact k.2 d q' p
 |none=>
  have none_ce {j g} (h:endO R (fA C j) g=none):ce R C j g=g:=by unfold ce;rw[h];rfl
  rw[none_ce h]
  have w {a e} (k:Ch (bB R C) (fA C i) a e):(∀e,Ch R (fA C i) a e→¬iK R (fA C i) e)→∀e',Ch R (fA C i) e e'→¬iK R (fA C i) e':=by
   induction k with
   |refl=>exact id
   | @step a c e q p _ ih=>
    intro n;obtain⟨d,q',rfl⟩:=Fd q;have n':=fun e k=>n e (.step q' p k);have:=none_ce (j:=a) (eF.2 (by rw[show fA C a=fA C i from funext fun x=>aj (key C x=·) p];exact n'));rw[this]at ih;exact ih n'
  unfold ce;rw[eF.2 fun e k s=>w k (eF.1 h) e (.refl e) fun c q p=>s _ (Hm q) p];rfl
end
section
variable{ra rb R R':List aU}{ca L L' C C':List Cl}{φ f:Nat→Nat}{G:Nat→Prop}{a c e x w g b i k u n:Nat}{r:aU}{K:List Bool}
theorem map_map{h:Nat→Nat}:∀r:aU,(r.map f).map h=r.map (h∘f)
 |⟨_,.go _⟩=>rfl
 |⟨op,.sw gs⟩=>aj (fun l=>(⟨op,.sw l⟩:aU)) cH
 |⟨_,.num _⟩=>rfl
 |⟨_,.me _⟩=>rfl
theorem n5{h:Nat→Nat}:∀{r:aU},(∀g∈r.gs,f g=h g)→r.map f=r.map h
 |⟨op,.go g⟩,e=>aj (fun l=>(⟨op,.go l⟩:aU)) (e g (.head _))
 |⟨op,.sw gs⟩,e=>aj (fun l=>(⟨op,.sw l⟩:aU)) (cN e)
 |⟨_,.num _⟩,_=>rfl
 |⟨_,.me _⟩,_=>rfl
theorem tt:bB (bB R C) C=bB R C:=by
 refine List.ext_getElem? fun i=>?_
 cases h:R[i]? with
 |none=>
  rw[bn (by rw[bA,bA];exact(cA.1 h)),bn (by rw[bA];exact(cA.1 h))]
 |some r=>
  rw[(dg (cls:=C) h),dg (dg (cls:=C) h)];refine aj some ?_
  unfold fc;by_cases o:r.op=221
  ·rw[aB o,aB o]
  ·rw[aC o,aC (c:=(r.map _).op=221) o,map_map];exact n5 fun g Z=>Ez
theorem qp:∀{n:Nat},pl K n=n→∀i,i<n→K[i]? =some true
 |0,_,_,l=>absurd l (Nat.not_lt_zero _)
 |n+1,h,i,l=>by
  have k:K[n]? =some true:=bg fun k=>Nat.not_succ_le_self n (aa (bu (h.symm.trans (ip k))) (nV n));exact(dA.1 l).elim (qp (bp ((eW k).symm.trans h)) i) fun e=>e▸k
theorem uh:∀{n:Nat},(∀i,i<n→K[i]? =some true)→pl K n=n
 |0,_=>rfl
 |n+1,h=>(eW (h n (a4 n))).trans (aj Nat.succ (uh fun i l=>h i (Nat.lt_succ_of_lt l)))
theorem gZ(A:ct R C)(h:∀i,i<R.length→K[i]? =some true):cq K R=R∧C.map (Cl.map (pl K))=C:=by
 have e j (l:j≤R.length):pl K j=j:=uh fun i q=>h i (aS q l);refine⟨List.ext_getElem? fun i=>?_,uI A.cin e⟩;cases q:R[i]? with
 |none=>exact bn (by rw[cO,e _ (aM _)];exact cA.1 q)
 |some r=>
  refine eA.2 ⟨i,r,h i ((ag.1 q).1),q,(e i (aE ((ag.1 q).1))).symm,?_⟩;exact(rD r).symm.trans (n5 fun g m=>(e g (aE (A.fine i r q g m))).symm)
structure zq(R:List aU)(C:List Cl):Prop where
 good:ct R C
 t:bB R C=R
 kp:∀i,i<R.length→(kF R C)[i]? =some true
theorem zq.of(A:ct R C)(h:(rR R C).length=R.length):zq (rR R C) (rC R C):=by
 have h':pl (kF (bB R C) C) (bB R C).length=(bB R C).length:=by rw[←cO,bA];exact h
 obtain⟨e1,e2⟩:=gZ A.T (qp h');have e1:rR R C=bB R C:=e1;have e2:rC R C=C:=e2;rw[e1,e2];exact⟨A.T,tt,(qp h')⟩
theorem fS.fix(I:fS R C R' C'):ct R C→zq R' C':=by
 induction I with
 |done h=>exact fun A=>zq.of A h
 |more _ _ ih=>exact fun A=>ih A.round
theorem zq.iter(F:zq R C):fS R C R C:=by
 have e1:rR R C=R:=by unfold rR;rw[F.t];exact(gZ F.good F.kp).1
 have e2:rC R C=C:=by unfold rC;rw[F.t];exact(gZ F.good F.kp).2
 have:=fS.done (R:=R) (C:=C) (by rw[e1])
 rwa [e1,e2]at this
inductive Ti(R:List aU)(C:List Cl):Prop
 |mk {R':List aU} {C':List Cl}:fS R C R' C'→(∀d,callF tab (d+5) 30 [aL R,bF C]=ok (.Js [aL R',bF C'],[]))→Ti R C
theorem ct.ti(A:ct R C):Ti R C:=by
 obtain⟨R',C',I,_⟩:=Ik (d:=0) A;refine⟨I,fun d=>?_⟩;obtain⟨R1,C1,J,e⟩:=Ik (d:=d) A;obtain⟨rfl,rfl⟩:=I.one J;exact e
theorem zq.ti(F:zq R C)(d:Nat):callF tab (d+5) 30 [aL R,bF C]=ok (.Js [aL R,bF C],[]):=by
 obtain⟨J,e⟩:=F.good.ti;obtain⟨rfl,rfl⟩:=F.iter.one J;exact e d
end
section
variable{R:List aU}{C:List Cl}{i g:Nat}{K:List Bool}{c:Cl}
inductive i3(R:List aU)(c:Cl)(i:Nat):Prop
 |mk {r:aU}:c.s=1→c.h0=i+1→R[i]? =some r→r.op=65041→i3 R c i
theorem tz:kf R c=true∧c.h0 - 1=i↔i3 R c i:=by
 constructor
 ·rintro⟨h,rfl⟩;unfold kf at h;rw[dY,dY,bU,bU]at h;have q:=h.2.2;split at q
  ·rename_i e;exact⟨h.1,(Nat.succ_pred_eq_of_pos h.2.1).symm,e,aT q⟩
  ·exact nomatch q
 ·rintro⟨s,h,e,o⟩;refine⟨?_,by rw[h];rfl⟩;unfold kf;rw[h,Nat.add_sub_cancel,e,ak s,ak (a8 i)];exact ak o
theorem xt{k:List Bool}:(lB R k c)[i]? =some true↔k[i]? =some true∨(i<k.length∧i3 R c i):=by
 rw[←tz];unfold lB;cases kf R c with
 |false=>exact⟨.inl,fun h=>h.resolve_right fun h=>nomatch h.2.1⟩
 |true=>
  show(k.set (c.h0 - 1) true)[i]? =_↔_;rw[List.getElem?_set];by_cases h:c.h0 - 1=i
  ·rw[aB h,h];by_cases l:i<k.length
   ·rw[aB l];exact⟨fun Z=>.inr ⟨l,rfl,rfl⟩,fun Z=>rfl⟩
   ·rw[aC l,bn (bS.1 l)];exact⟨nofun,fun h=>h.elim nofun fun h=>absurd h.1 l⟩
  ·rw[aC h];exact⟨.inl,fun q=>q.resolve_right fun q=>h q.2.2⟩
theorem pg:∀{l:List Cl}{k:List Bool},(l.foldl (lB R) k)[i]? =some true↔k[i]? =some true∨(i<k.length∧∃c∈l,i3 R c i)
 | [],_=>⟨.inl,fun h=>h.resolve_right fun⟨Z1,Z2,m,Z3⟩=>(by cases m)⟩
 |c::l,k=>by
  show(l.foldl (lB R) (lB R k c))[i]? =_↔_;rw[pg,xt,rq,or_assoc,←and_or_left];refine or_congr .rfl (and_congr .rfl ⟨fun h=>h.elim (fun h=>⟨c,.head _,h⟩) fun⟨c,m,h⟩=>⟨c,.tail _ m,h⟩,fun⟨c',m,h⟩=>?_⟩);exact(az.1 m).elim (fun e=>.inl (e▸h)) fun m=>.inr ⟨c',m,h⟩
theorem i8:(dK R C)[i]? =some true↔bf R (dZ C) i∨∃c∈dL R C,i3 R c i:=by
 unfold dK;rw[pg,fY,fM];exact or_congr .rfl ⟨And.right,fun h=>⟨have⟨_,_,⟨_,_,e,_⟩⟩:=h;(ag.1 e).1,h⟩⟩
open Classical in
theorem jr:c∈dL R C↔c∈dZ C∧∃i,c.t0≤i∧i<c.t1∧bf R (dZ C) i:=
 bR.trans (and_congr .rfl (bU.trans (exists_congr fun Z=>and_congr .rfl (and_congr .rfl (fY _)))))
noncomputable abbrev dR(R:List aU)(C:List Cl):List aU:=cq (dK R C) R
noncomputable abbrev dC(R:List aU)(C:List Cl):List Cl:=(dL R C).map (Cl.map (pl (dK R C)))
theorem kS(h:bf R (dZ C) i):(dK R C)[i]? =some true:=i8.2 (.inl h)
theorem qy(A:ct R C)(h:c∈dL R C):∀g∈c.hs,bf R (dZ C) g:=fun g m=>by
 obtain⟨h,i,a,b,d⟩:=jr.1 h;exact .hand d h a b m (tn (P:=(·<R.length)) (A.cin c (eM h).1).2.1 (A.cin c (eM h).1).2.2.1 g m)
theorem rB(A:ct R C)(h:c∈dL R C):bf R (dZ C) c.h0:=qy A h _ (by unfold Cl.hs;split<;>exact .head _)
theorem zp(A:ct R C)(h:c∈dL R C)(s:c.s=1):bf R (dZ C) c.x:=qy A h _ (by unfold Cl.hs;rw[aB s];exact .tail _ (.head _))
theorem qS{j:Nat}(h:bf R (dZ C) i)(l:i<j):pl (dK R C) i<pl (dK R C) j:=nU (kS h) l
theorem yQ{r:aU}(ho:r.Ok)(h:r.op=65041):r.gs=[]:=by
 obtain⟨op,a⟩:=r;obtain rfl:=(show op=65041 from h);cases a with
 |go g=>exact absurd (show(65041:Int)∈iL from ho) (by decide)
 |sw gs=>exact absurd (show(65041:Int)=69 from ho.1) (by decide)
 |_=>rfl
theorem ct.dead(A:ct R C):ct (dR R C) (dC R C):=by
 refine A.keep (fun c m=>(eM (tP m).1).1) (aa (bH _ _) (bH _ _)) (fun i r k e g m=>?_) fun c m=>?_
 ·rcases i8.1 k with h|⟨c,_,⟨_,_,e',o⟩⟩
  ·have l:=A.fine i r e g m;exact qS (.go h e m l) l
  ·obtain rfl:=ah (e.symm.trans e');rw[yQ (A.ok r (ay e)) o]at m;exact nomatch m
 ·obtain⟨_,i,a,b,d⟩:=jr.1 m;exact⟨aF (fL a) (qS d d.lt),qS (rB A m) (rB A m).lt,fun s=>qS (zp A m s) (zp A m s).lt⟩
theorem yH(A:ct R C)(h0:0<R.length):ju R (dR R C) (dL R C) (pl (dK R C)) fun x=>bf R (dZ C) x∨x=R.length:=by
 have at_ {x r} (h:bf R (dZ C) x∨x=R.length) (q:R[x]? =some r):bf R (dZ C) x:=h.resolve_right fun e=>aZ _ (e▸(ag.1 q).1);refine⟨cO.symm,.inr rfl,fun x h=>h.elim (fun h=>aE h.lt) bu,.inl (.zero h0),rfl,fun x r h q=>D9 q (.inl (kS (at_ h q))),fun x r h q g m=>.inl (.go (at_ h q) q m (A.fine x r q g m)),fun x r h q e=>?_,fun c m Z Z Z Z=>⟨.inl (rB A m),fun s=>.inl (zp A m s)⟩⟩;exact(dt (ag.1 q).1).imp (.fall (at_ h q) q e) id
variable{d:Nat}
section
variable(A:ct R C)(h0:0<R.length)
include A
theorem sK(h:bf R (dZ C) i):bf (dR R C) (dC R C) (pl (dK R C) i):=by
 have lt {j:Nat} (l:bf R (dZ C) j):pl (dK R C) j<(dR R C).length:=cO.symm▸qS l l.lt;induction h with
 |zero l=>exact .zero (aF (aQ _) (lt (.zero l)))
 |go h q m l ih=>exact .go ih (ei (kS h) q) (by rw[gJ];exact bV m) (lt (.go h q m l))
 |fall h q e l ih=>have:=bf.fall ih (ei (kS h) q) e;rw[←eW (kS h)]at this;exact this (lt (.fall h q e l))
 |hand h m t0 t1 p l ih=>
  exact .hand ih (bV (show _∈dL R C from jr.2 ⟨m,_,t0,t1,h⟩)) (fL t0) (qS h t1) (xh.2 ⟨_,p,rfl⟩) (lt (.hand h m t0 t1 p l))
theorem qR:dZ (dC R C)=dC R C:=List.filter_eq_self.2 fun c m=>by
 obtain⟨c,m',rfl⟩:=aP.1 m;exact ak (qS (rB A m') (eM (jr.1 m').1).2)
open Classical in
theorem Bu:dL (dR R C) (dC R C)=dC R C:=List.filter_eq_self.2 (fun c m=>by
 rw[qR A]at m;obtain⟨c,m',rfl⟩:=aP.1 m;obtain⟨_,i,a,b,d⟩:=jr.1 m';rw[qR A];exact ak ⟨_,fL a,qS d b,(fY _).2 (sK A d)⟩)|>.trans (qR A)
theorem yu{u:Nat}(l:u<(dR R C).length):bf (dR R C) (dC R C) u∨∃c∈dC R C,i3 (dR R C) c u:=by
 obtain⟨i,r,k,q,rfl,_⟩:=eA.1 (bw l);refine(i8.1 k).imp (sK A) fun⟨c,m,⟨s,h,q',o⟩⟩=>⟨_,bV m,?_⟩;obtain rfl:=ah (q.symm.trans q');exact⟨s,(aj (pl _) h).trans (eW k),ei k q,o⟩
theorem qe{u:Nat}(l:u<(dR R C).length):(dK (dR R C) (dC R C))[u]? =some true:=i8.2 (by rw[qR A,Bu A];exact yu A l)
theorem ct.c24(d:Nat):callF tab (d+5) 24 [aL R,bF C]=ok (.Js [aL (dR R C),bF (dC R C),cW (PL (dK R C))],[]):=
 ((Mine.c24 A.toWf).resolve_right fun h=>by obtain⟨_,i,_,n⟩:=h;exact n (A.fine i)).1
theorem HX(d:Nat):callF tab (d+5) 24 [aL (dR R C),bF (dC R C)]=ok (.Js [aL (dR R C),bF (dC R C),cW (List.range ((dR R C).length+1))],[]):=by
 have h:=A.dead.c24 d
 have p:PL (dK (dR R C) (dC R C))=List.range ((dR R C).length+1):=by
  unfold PL;rw[nM];exact(cN fun j m=>uh fun i l=>qe A (aS l (cz (bP.1 m)))).trans (List.map_id _)
 rw[show dR (dR R C) (dC R C)=dR R C from(gZ A.dead fun i=>qe A).1,show dC (dR R C) (dC R C)=dC R C from(aj (List.map _) (Bu A)).trans (gZ A.dead fun i=>qe A).2,p]at h;exact h
include h0 in
theorem EV{b:Nat}{v:Int}(h:DV R (dL R C) b v):DV (dR R C) (dC R C) b v:=(yH A h0).dv A.fine h0 (fun c m p q=>by
 refine⟨.inl ?_,(pS A h0 (List.mem_cons_of_mem _ (jE.2 ⟨c,(eM (jr.1 m).1).1,q⟩)))⟩;unfold dQ at q;rcases az.1 q with rfl|q
 ·exact rB A m
 ·split at q
  ·rename_i s;obtain rfl:=aq.1 q;exact zp A m s
  ·exact nomatch q) h
omit A in
include h0 in
theorem xM:0<(dR R C).length:=cO.symm▸aF (aQ _) (qS (C:=C) (.zero h0) h0)
end
end
section
variable{c R X R':List aU}{C C':List Cl}{φ f:Nat→Nat}{G:Nat→Prop}{a e x w g i j k u z n:Nat}{r:aU}{K K':List Bool}
abbrev On(K:List Bool)(z:Nat):Prop:=K[z]? =some true
structure CG(c:List aU)(G:Nat→Prop):Prop where
 g0:G 0
 last:G c.length
 le:∀x,G x→x≤c.length
 goal:∀x r,G x→c[x]? =some r→∀g∈r.gs,G g
 fall:∀x r,G x→c[x]? =some r→ends r.op=false→G (x+1)
inductive Gp(c:List aU)(K:List Bool)(z:Nat):Prop
 |mk {a:Nat}:c[z]? =some ⟨56,.go a⟩→z<a→(∀y,z≤y→y<a→¬On K y)→Gp c K z
structure kg(c:List aU)(G:Nat→Prop)(K:List Bool):Prop where
 cg:CG c G
 len:K.length=c.length
 sub:∀z,On K z→G z
 out:∀z,G z→z<c.length→¬On K z→Gp c K z
theorem ja:∀{j i:Nat},(∀y,i≤y→y<j→¬On K y)→i≤j→pl K j=pl K i
 |0,_,_,l=>by obtain rfl:=Nat.le_zero.1 l;rfl
 |j+1,i,h,l=>(dt l).elim (fun l=>(ip (h j (cz l) (a4 j))).trans (ja (fun y a b=>h y a (Nat.lt_succ_of_lt b)) (cz l))) fun e=>e▸rfl
section
variable(A:ct c [])(S:kg c G K)
include A S
theorem kg.KJ:ju c (cq K c) [] (pl K) G:=
 ⟨cO.symm,S.cg.last,S.cg.le,S.cg.g0,rfl,fun x r gx q=>(Classical.em (On K x)).elim (fun k=>D9 q (.inl k)) fun k=>by
  obtain⟨q',l,n⟩:=S.out x gx (ag.1 q).1 k;exact .drop (ah (q.symm.trans q')) (ja n (aE l)) l (A.fine x _ q' _ (.head _)),S.cg.goal,S.cg.fall,(by intro _ h;cases h)⟩
theorem kg.lt(g:G x)(l:x<c.length):pl K x<(cq K c).length:=by
 obtain⟨_,_,_,k,e⟩:=(kg.KJ A S).land _ x g l (cn _ _);exact e▸(ag.1 k.row).1
end
theorem GN:ce X [] i g=(endO X Al g).getD g:=by
 show(endO X (fA [] i) g).getD g=_;rw[show fA [] i=Al from funext fun x=>propext ⟨fun Z=>trivial,fun Z=>rfl⟩]
theorem DP(S:ju X R C (pl K) G)(gs:∀g∈r.gs,G g):fc R [] j (r.map (pl K))=(fc X [] i r).map (pl K):=by
 unfold fc;by_cases o:r.op=221
 ·rw[aB (c:=(r.map _).op=221) o,aB o]
 ·rw[aC (c:=(r.map _).op=221) o,aC o,map_map,map_map];refine n5 fun g m=>?_
  show ce R [] j (pl K g)=pl K (ce X [] i g);rw[GN,GN,S.endO (gs g m)];cases endO X Al g<;>rfl
theorem p7(S:ju X (cq K X) C (pl K) G)(h:∀z,On K z→G z):bB (cq K X) []=cq K (bB X []):=by
 refine List.ext_getElem? fun u=>?_
 by_cases l:u<(cq K X).length
 ·have q:=bw l;rw[dg q];obtain⟨z,r,k,q',e,e'⟩:=eA.1 q;rw[e',e,ei k (dg q'),DP S fun g m=>S.goal z r (h z k) q' g m]
 ·have l:=bS.1 l;rw[bn (by rw[bA];exact l),bn];rw[cO]at l ⊢;rw[bA];exact l
noncomputable def kk(K K':List Bool):List Bool:=(List.range K.length).map fun z=>K[z]?.getD false&&K'[pl K z]?.getD false
theorem xi:(kk K K').length=K.length:=by unfold kk;rw[af,aO]
theorem mJ:K[z]?.getD false=true↔On K z:=by
 show _↔K[z]? =some true;cases K[z]? with
 |none=>exact⟨(by intro h;cases h),(by intro h;cases h)⟩
 |some b=>exact⟨aj some,ah⟩
theorem j8:On (kk K K') z↔On K z∧On K' (pl K z):=by
 unfold On kk;rw[jK,dY,mJ,mJ];exact⟨And.right,fun h=>⟨(ag.1 h.1).1,h⟩⟩
theorem pj:∀j,pl (kk K K') j=pl K' (pl K j)
 |0=>rfl
 |j+1=>by
  by_cases h:On K j
  ·rw[eW h];by_cases h':On K' (pl K j)
   ·rw[eW h',eW (j8.2 ⟨h,h'⟩),pj j]
   ·rw[ip h',ip fun q=>h' (j8.1 q).2,pj j]
  ·rw[ip h,ip fun q=>h (j8.1 q).1,pj j]
theorem uL:cq K' (cq K c)=cq (kk K K') c:=by
 refine List.ext_getElem? fun u=>?_
 by_cases l:u<(cq K' (cq K c)).length
 ·have q:=bw l;obtain⟨v,_,k',q',e,e'⟩:=eA.1 q;obtain⟨z,r,k,p,o,o'⟩:=eA.1 q';subst o;rw[q,e',o',e,←pj,ei (j8.2 ⟨k,k'⟩) p,map_map,show pl (kk K K')=pl K'∘pl K from funext pj]
 ·have l:=bS.1 l;rw[bn l,bn];rw[cO,cO]at l;rw[cO,pj];exact l
end
section
variable{c R X R':List aU}{C C':List Cl}{φ f:Nat→Nat}{G:Nat→Prop}{a e x w g i j k u z n:Nat}{r:aU}{K K':List Bool}
theorem Gp.kk(h:Gp c K z):Gp c (kk K K') z:=by
 obtain⟨q,l,n⟩:=h;exact⟨q,l,fun y a b k=>n y a b (j8.1 k).1⟩
theorem B4(h:On K z)(l:z<c.length):(cq K c)[pl K z]? =some ((c[z]).map (pl K)):=ei h (bw l)
theorem kg.round(S:kg c G K):kg c G (kk K (kF (cq K c) [])):=by
 refine⟨S.cg,xi.trans S.len,fun z k=>S.sub z (j8.1 k).1,fun z gz l n=>?_⟩;by_cases k:On K z
 ·have q:=B4 k l;have f:¬lg (cq K c) [] (pl K z)=true:=fun f=>n (j8.2 ⟨k,qf.2 ⟨(ag.1 q).1,f⟩⟩);obtain⟨a,e,o⟩:=sZ (vw q f).1;refine⟨(bw l).trans (aj some e),(pF k).1 (o▸a4 _),fun y h1 h2 k'=>?_⟩;rcases dt h1 with h1|rfl
  ·have k':=(j8.1 k').1;exact bS.2 (cz (Nat.lt_of_lt_of_eq (nU k' h2) o)) (nU k h1)
  ·exact n k'
 ·exact(S.out z gz l k).kk
inductive Fs(c:List aU)(G:Nat→Prop)(R':List aU)(C':List Cl):Prop
 |mk {K:List Bool}:kg c G K→R'=cq K c→C'=[]→Fs c G R' C'
theorem fS.thin(A:ct c [])(t:bB c []=c)(I:fS X C R' C'):C=[]→∀K,kg c G K→bB X []=cq K c→Fs c G R' C':=by
 have go {X K} (S:kg c G K) (e:bB X []=cq K c):rR X []=cq (kk K (kF (cq K c) [])) c:=by unfold rR;rw[e];exact uL
 induction I with
 |done _=>rintro rfl K S e;exact⟨S.round,go S e,rfl⟩
 |more _ _ ih=>
  rintro rfl K S e;exact ih rfl _ S.round (by rw[go S e,p7 (kg.KJ A S.round) S.round.sub,t])
noncomputable abbrev Gr(c:List aU)(x:Nat):Prop:=bf c [] x∨x=c.length
structure NF(c:List aU)(K:List Bool):Prop where
 st:kg c (Gr c) K
 tight:∀z a,On K z→c[z]? =some ⟨56,.go a⟩→z<a→¬∀y,z<y→y<a→¬On K y
theorem NF.le(N:NF c K)(N':NF c K')(h:∀y,z<y→(On K y↔On K' y))(k:On K z)(l:z<c.length):On K' z:=bg fun n=>by
 obtain⟨q,l',f⟩:=N'.st.out z (N.st.sub z k) l n;exact N.tight z _ k q l' fun y a b o=>f y (aE a) b ((h y a).1 o)
theorem NF.iff(N:NF c K)(N':NF c K'):∀m z,c.length≤z+m→(On K z↔On K' z)
 |0,_,l=>⟨fun h=>absurd (ag.1 h).1 (bS.2 (N.st.len▸l)),fun h=>absurd (ag.1 h).1 (bS.2 (N'.st.len▸l))⟩
 |m+1,_,l=>
  have h y q:=NF.iff N N' m y (mH l q)
  ⟨fun k=>N.le N' h k (N.st.len▸(ag.1 k).1),fun k=>N'.le N (fun y q=>(h y q).symm) k (N'.st.len▸(ag.1 k).1)⟩
theorem NF.one(N:NF c K)(N':NF c K'):K=K':=Af (N.st.len.trans N'.st.len.symm) fun z=>N.iff N' c.length z (cn _ _)
theorem kg.nf(A:ct c [])(S:kg c (Gr c) K)(F:zq (cq K c) []):NF c K:=⟨S,fun z a k q l n=>by
 have e:pl K a=pl K z+1:=(ja (fun y h=>n y h) l).trans (eW k);have f:=(qf.1 (F.kp (pl K z) (ag.1 (ei k q)).1)).2;rw[zZ ((ei k q).trans (aj (fun g=>some (aU.mk 56 (.go g))) e)) (e▸(kg.lt A S (S.cg.goal z _ (S.sub z k) q a (.head _)) (A.fine z _ q a (.head _))))]at f;exact nomatch f⟩
theorem CG.reach(g:CG c G)(h:bf c [] z):G z:=by
 induction h with
 |zero _=>exact g.g0
 |go _ q m _ ih=>exact g.goal _ _ ih q _ m
 |fall _ q e _ ih=>exact g.fall _ _ ih q e
 |hand _ m=>exact nomatch m
theorem kg.up(A:ct c [])(S:kg c G K)(h:bf c [] z):bf (cq K c) [] (pl K z):=by
 induction h with
 |zero l=>exact .zero (aF (aQ _) (kg.lt A S S.cg.g0 l))
 | @go z r g h q m l ih=>
  by_cases k:On K z
  ·exact .go ih (ei k q) (by rw[gJ];exact bV m) (kg.lt A S (S.cg.reach (.go h q m l)) l)
  ·obtain⟨q',l,n⟩:=S.out z (S.cg.reach h) h.lt k;obtain rfl:=ah (q.symm.trans q');obtain rfl:=aq.1 m;exact(ja n (aE l)).symm▸ih
 | @fall z r h q e l ih=>
  by_cases k:On K z
  ·have:=bf.fall ih (ei k q) e;rw[←eW k]at this;exact this (kg.lt A S (S.cg.reach (.fall h q e l)) l)
  ·obtain⟨q',_⟩:=S.out z (S.cg.reach h) h.lt k;obtain rfl:=ah (q.symm.trans q');cases e
 |hand _ m=>exact nomatch m
theorem ct.cgr(A:ct c [])(h0:0<c.length):CG c (Gr c):=
 have at_ {x r} (h:Gr c x) (q:c[x]? =some r):bf c [] x:=h.resolve_right fun e=>aZ _ (e▸(ag.1 q).1)
 ⟨.inl (.zero h0),.inr rfl,fun x h=>h.elim (fun h=>aE h.lt) bu,fun x r h q g m=>.inl (.go (at_ h q) q m (A.fine x r q g m)),fun x r h q e=>(dt (ag.1 q).1).imp (.fall (at_ h q) q e) id⟩
theorem kg.dead(A:ct c [])(h0:0<c.length)(S:kg c G K):kg c (Gr c) (kk K (dK (cq K c) [])):=by
 have dk {u}:On (dK (cq K c) []) u↔bf (cq K c) [] u:=i8.trans ⟨fun h=>h.resolve_right (by rintro⟨_,m,_⟩;exact nomatch (show _∈([]:List Cl)from m)),.inl⟩;refine⟨A.cgr h0,xi.trans S.len,fun z k=>.inl ?_,fun z gz l n=>?_⟩
 ·have k:=j8.1 k;have d:=(kg.KJ A S).rdown A.fine h0 (L:=[]) (L':=[]) nofun nofun (dk.1 k.2);generalize e:pl K z=u at d;obtain⟨d,_,_,Q⟩:=d;exact cL ((Q.le _).1 (bu e)) ((uG k.1).1 (bu e.symm))▸d
 ·have d:=gz.resolve_right (cG l);by_cases k:On K z
  ·exact absurd (j8.2 ⟨k,dk.2 (kg.up A S d)⟩) n
  ·exact(S.out z (S.cg.reach d) l k).kk
end
section
variable{c R X R' t td o:List aU}{C C' C1 Co:List Cl}{φ f:Nat→Nat}{G:Nat→Prop}{a e x w g i j k u z n:Nat}{r:aU}{K K':List Bool}
inductive Ax(c o:List aU)(Co:List Cl):Prop
 |mk {K:List Bool}:NF c K→o=cq K c→Co=[]→Ax c o Co
theorem kg.own(A:ct c [])(h0:0<c.length)(ht:bB c []=c)(S:kg c G K)(B:ct (cq K c) [])(J:fS (dR (cq K c) []) (dC (cq K c) []) o Co):Ax c o Co:=by
 have S':=S.dead A h0;have e:dR (cq K c) []=cq (kk K (dK (cq K c) [])) c:=uL;obtain⟨S2,rfl,rfl⟩:=J.thin A ht rfl _ S' (by rw[e,p7 (kg.KJ A S') S'.sub,ht]);exact⟨S2.nf A (J.fix B.dead),rfl,rfl⟩
section
variable(A:ct R [])(h0:0<R.length)
include A
theorem ct.st0:kg (bB R []) (·≤(bB R []).length) (List.replicate R.length true):=
 have l {z} (h:On (List.replicate R.length true) z):z<(bB R []).length:=by have:=(ag.1 h).1;rwa [b9,←bA (cls:=[])]at this
 ⟨⟨aQ _,aM _,fun Z h=>h,fun x r Z q g m=>aE (A.T.fine x r q g m),fun x r Z q Z=>(ag.1 q).1⟩,b9.trans bA.symm,fun Z h=>aE (l h),fun z Z h n=>absurd (List.getElem?_replicate_of_lt (bA (cls:=[])▸h)) n⟩
include h0
theorem ct.own1(I:fS R [] t C1)(J:fS (dR t C1) (dC t C1) o Co):Ax (bB R []) o Co:=by
 have F:=I.fix A;obtain⟨S,rfl,rfl⟩:=I.thin A.T tt rfl _ A.st0 (gZ A.T fun i l=>List.getElem?_replicate_of_lt (bA (cls:=[])▸l)).1.symm;exact S.own A.T (bA.symm▸h0) tt F.good J
theorem ct.stD:kg (bB R []) (fun x=>bf R [] x∨x=R.length) (dK R []):=by
 have S:=yH A h0;have dk {u}:On (dK R []) u↔bf R [] u:=i8.trans ⟨fun h=>h.resolve_right fun⟨Z1,m,Z2⟩=>(nomatch (show _∈([]:List Cl)from m)),.inl⟩;have at_ {x r} (q:(bB R [])[x]? =some r):∃r,R[x]? =some r:=⟨_,bw (bA (cls:=[])▸(ag.1 q).1)⟩;refine⟨⟨S.g0,bA.symm▸S.last,fun x h=>bA.symm▸S.le x h,fun x r h q g m=>?_,fun x r h q e=>?_⟩,nM.trans bA.symm,fun z k=>.inl (dk.1 k),fun z gz l n=>absurd (dk.2 (gz.resolve_right (cG (bA (cls:=[])▸l)))) n⟩
 ·obtain⟨r',q'⟩:=at_ q;obtain rfl:=ah ((dg q').symm.trans q);unfold fc at m;split at m
  ·exact S.goal x _ h q' g m
  ·rw[gJ]at m;obtain⟨y,m',rfl⟩:=aP.1 m;exact S.way (u7 x y).ch (S.goal x _ h q' y m')
 ·obtain⟨r',q'⟩:=at_ q;obtain rfl:=ah ((dg q').symm.trans q);refine S.fall x _ h q' ?_
  unfold fc at e;split at e<;>exact e
theorem ct.own2(I:fS (dR R []) (dC R []) td C1)(J:fS (dR td C1) (dC td C1) o Co):Ax (bB R []) o Co:=by
 have F:=I.fix A.dead;obtain⟨S,rfl,rfl⟩:=I.thin A.T tt rfl _ (A.stD h0) (p7 (yH A h0) (A.stD h0).sub);exact S.own A.T (bA.symm▸h0) tt F.good J
end
theorem NF.all(A:ct c [])(N:NF c K)(l:u<(cq K c).length):bf (cq K c) [] u:=by
 obtain⟨z,r,k,q,rfl,_⟩:=eA.1 (bw l);exact kg.up A N.st ((N.st.sub z k).resolve_right (cG (ag.1 q).1))
end
section
variable{R:List aU}{C:List Cl}{i g d b n:Nat}{K:List Bool}{c:Cl}{v w w2 w3:Int}{F:FT}{ρ:Env}{e:CE}{u x:V}{io:List Nat}
theorem Fl(h:aY F e ρ=ok x):bJ F io (.JL e u) ρ=ok (.ret x,ρ):=by
 show(fun Q X=>aY F e ρ _ _)=_;rw[h];rfl
theorem BJ(h:aY F e ρ=exc):bJ F io (.JL e u) ρ=ok (.ret u,ρ):=by
 show(fun Q X=>aY F e ρ _ _)=_;rw[h];rfl
theorem IY{x y:V}(h:callF tab d 30 [x,y]=exc):callF tab (d+1) 43 [x,y]=ok (.none,[]):=fR rfl rfl rfl (BJ (callX rfl h))
theorem IT{x y:V}(h:callF tab d 24 [x,y]=ok (u,[])):callF tab (d+1) 44 [x,y]=ok (u,[]):=fR rfl rfl rfl (Fl (bj rfl h))
theorem Hi{x y:V}(h:callF tab d 24 [x,y]=exc):callF tab (d+1) 44 [x,y]=ok (.none,[]):=fR rfl rfl rfl (BJ (callX rfl h))
theorem DV.ex(A:ct R C)(h0:0<R.length)(hb:b<2):∃v,DV R C b v:=(Ih (d:=0) A h0 hb).elim (by rintro⟨m,_,o,t⟩;exact⟨m,.ok o t⟩) fun h=>⟨-1,.no h.2⟩
theorem GR(A:ct R C)(h0:0<R.length)(hb:b<2)(D:DV R C b v):callF tab (d+8) 45 [aL R,bF C,gr b]=ok (.int v,[]):=by
 rcases Ih (d:=d) A h0 hb with⟨m,e,o,t⟩|⟨e,n⟩
 ·rw[D.inj (.ok o t)];exact fR rfl rfl rfl (Fl (bj rfl e))
 ·rw[D.inj (.no n)];exact fR rfl rfl rfl (BJ (callX rfl e))
theorem rp(b:Bool)(l:List Bool):zW (.bool b) (bv l)=ok (l.any (·==b)):=
 bq (a:=l.map V.bool) rfl (cY ⟨rfl,all_map (fun Z=>rfl) l⟩ (aj ok (by rw[List.any_map];exact aj (l.any ·) (funext fun a=>by cases a<;>cases b<;>rfl))))
theorem Du{e1 e2 e3:CE}{f:Bool→V}{a b:Nat}(h1:aY F e1 ρ=ok (.Jq (K.map f)))(h2:aY F e2 ρ=ok (nv a))(h3:aY F e3 ρ=ok (nv b))(ha:a≤lim)(hb:b≤lim):aY F (.slice e1 e2 e3) ρ=ok (.Jq (((K.take b).drop a).map f)):=by
 rw[List.map_drop,List.map_take];exact bq h1 (bq h2 (bq h3 (bq (a:=K.map f) rfl (bq (a:=(a:Int)) rfl (bq (a:=(b:Int)) rfl (cY ⟨bL _,bL _,bC.2 ha,bC.2 hb⟩ rfl))))))
theorem uO{α:Type}{l:List α}{a b:Nat}{x:α}:x∈(l.take b).drop a↔∃i,a≤i∧i<b∧l[i]? =some x:=by
 rw[dn];constructor
 ·rintro⟨i,e⟩;rw[List.getElem?_drop,List.getElem?_take]at e;split at e
  ·rename_i l;exact⟨a+i,bD _ _,l,e⟩
  ·exact nomatch e
 ·rintro⟨i,h,h',e⟩;exact⟨i - a,by rw[List.getElem?_drop,Nat.add_sub_cancel' h,List.getElem?_take,aB h',e]⟩
open Classical in
theorem c50(hc:∀c∈C,c.t0≤lim∧c.t1≤lim)(hl:C.length≤lim):callF tab (d+1) 50 [bv K,bF C]=ok (bF (Ab K (dZ C)),[]):=by
 have z:Ab K (dZ C)=C.filter fun c=>decide (c.h0<c.h1)&&decide (jg K c):=by
  unfold Ab dZ;rw[List.filter_filter];exact aj (C.filter ·) (funext fun c=>Bool.and_comm _ _)
 rw[z];refine fR rfl rfl rfl (cX (jc (enc:=Cl.v) (enc':=Cl.v) (fun c=>decide (c.h0<c.h1)&&decide (jg K c)) rfl rfl hl (fun c m=>?_) fun Z Z Z=>rfl));by_cases h:c.h0<c.h1
 ·refine⟨.bool (decide (jg K c)),gI rfl rfl (ak (dT.2 h)) ?_,by rw[ak h];rfl⟩;refine aD rfl (Du (K:=K) rfl rfl rfl (hc c m).1 (hc c m).2) (aj (fun r=>bc r fun b=>ok (V.bool b)) ((rp _ _).trans (aj ok ?_)));rw[Bool.eq_iff_iff,dr,bU];exact⟨by rintro⟨x,m,e⟩;exact uO.1 (eq_of_beq e▸m),fun h=>⟨true,uO.2 h,rfl⟩⟩
 ·exact⟨.bool false,jW rfl rfl (ao fun q=>h (dT.1 q))|>.trans (by rw[ao fun q=>h (dT.1 q)]),by rw[ao h];rfl⟩
end
section
variable{R:List aU}{C:List Cl}{i g d b n:Nat}{K:List Bool}{c:Cl}{F:FT}{ρ:Env}{e:CE}{u x:V}{io:List Nat}
theorem uV(a:Int)(l:List Int):zW (.int a) (.Jq (l.map .int))=ok (decide (a∈l)):=
 bq (a:=l.map V.int) rfl (cY ⟨rfl,all_map (fun Z=>rfl) l⟩ (aj ok (by
  rw[List.any_map,Bool.eq_iff_iff,dr,bU];exact⟨by rintro⟨x,m,e⟩;exact(show x=a from eq_of_beq e)▸m,fun m=>⟨a,m,beq_self_eq_true a⟩⟩)))
theorem Jn(A:ct R C)(h:∀u,u<R.length→bf R C u∨∃c∈C,i3 R c u):callF tab (d+5) 53 [aL R,bF C]=ok (.bool true,[]):=by
 refine fR rfl rfl rfl (ax (bX (jc (enc:=Cl.v) (enc':=fun c=>.int ((c.h0:Int) - 1)) (fun c=>decide (c.s=1)) rfl rfl A.few' (fun c Z=>⟨.bool (decide (c.s=1)),aD rfl rfl (AZ c.s 1),rfl⟩) fun Z Z Z=>rfl)) (ax (bX (bj rfl (((c18 (d:=d) A.ok A.few' A.len).resolve_right fun h=>by obtain⟨_,i,_,n⟩:=h;exact n (A.fine i)).1))) (ax (i4 (d7 rfl (a7 _ _)) (aa A.len (ae rfl)) (cR (fun Z=>[some (false,aL R),some (false,bF C),some (false,.Jq ((C.filter fun c=>decide (c.s=1)).map fun c=>.int ((c.h0:Int) - 1))),none,some (false,bv (RF R C)),none]) fun p x m e=>?_)) (cX ?_))))
 ·have l:=gF e;obtain⟨k,hk⟩:∃k,(RF R C)[x]? =some k:=⟨_,bw (fM.symm▸l)⟩;refine ax (ρ1:=[some (false,aL R),some (false,bF C),_,none,some (false,bv (RF R C)),some (false,nv x)]) ?_ rfl
  have e1:aY (callF tab (d+4)) (.un .not (.h .item (.c 4) (.c 5))) [some (false,aL R),some (false,bF C),some (false,.Jq ((C.filter fun c=>decide (c.s=1)).map fun c=>.int ((c.h0:Int) - 1))),none,some (false,bv (RF R C)),some (false,nv x)]=ok (.bool !k):=d7 (aD rfl rfl (aW hk)) rfl;cases k with
  |true=>exact cU (jW e1 rfl rfl) rfl rfl rfl
  |false=>
   obtain⟨c,m,⟨s,h0,q,o⟩⟩:=(h x l).resolve_left fun r=>by rw[(fY x).2 r]at hk;exact nomatch hk
   have i:(x:Int)∈(C.filter fun c=>decide (c.s=1)).map fun c=>(c.h0:Int) - 1:=aP.2 ⟨c,bR.2 ⟨m,ak s⟩,h0▸Int.add_sub_cancel (x:Int) 1⟩;have j:=uV x ((C.filter fun c=>decide (c.s=1)).map fun c=>(c.h0:Int) - 1);rw[ak i,cH]at j;refine cU (gI e1 rfl rfl (mh (aD rfl rfl (aj (fun r=>bc r fun b=>ok (V.bool !b)) j)) rfl rfl (aD (v:=.int 65041) (aD (aD rfl rfl (aW q)) rfl (aj (fun i=>ok (V.int i)) o)) rfl (xW rfl)))) rfl rfl rfl
 ·exact aD (d7 rfl (a7 _ _)) (d7 rfl (a7 _ _)) (fM▸IA rfl)
end
section
variable{A0 R1 R2 R3 R4:List aU}{C C1 C2 C3 C4:List Cl}{d:Nat}{e0 e1 e2 e3 e4:List V}{v w l:Int}{x:V}{F:FT}{ρ:Env}
theorem IG{a b:CE}{i j k:Int}(ha:aY F a ρ=ok (.int i))(hb:aY F b ρ=ok (.int j)){c e:CE}{s t:CS}{io:List Nat}{z:R (Flow×Env)}(hc:aY F c ρ=ok (.int k))(he:aY F e ρ=ok (.int j))(h:j≤i→j≤k∧k≤i)(q:bJ F io t ρ=z):bJ F io (.p (.y (.h .ge a b) (.D (.h .lt c e) (.h .gt c a))) s t) ρ=z:=by
 by_cases p:j≤i
 ·exact cU (v:=.bool (decide (i<k))) (gI (v:=.bool (decide (j≤i))) (aD ha hb rfl) rfl (ak p) (mh (v:=.bool (decide (k<j))) (aD hc he rfl) rfl (ao (Int.not_lt.2 (h p).1)) (aD hc ha rfl))) rfl (ao (Int.not_lt.2 (h p).2)) q
 ·exact cU (v:=.bool (decide (j≤i))) (jW (aD ha hb rfl) rfl (ao p)) rfl (ao p) q
theorem Hf{i:Int}:eP .ne (.int i) (.int i)=ok (.bool false):=xW rfl
theorem Fp{a b:CE}(ha:aY F a ρ=ok (bF C))(hb:aY F b ρ=ok (bF C1)):aY F (.h .eq (.un .len a) (.un .len b)) ρ=ok (.bool (decide (C.length=C1.length))):=aD (d7 ha (a7 _ _)) (d7 hb (a7 _ _)) (AZ _ _)
theorem Jh(h0:callF tab d 45 [aL A0,bF C,x]=ok (.int v,[]))(h1:callF tab d 45 [aL R1,bF C1,x]=ok (.int v,[]))(h3:callF tab d 45 [aL R3,bF C3,x]=ok (.int w,[]))(h4:callF tab d 45 [aL R4,bF C4,x]=ok (.int l,[]))(m1:0≤v→0≤w∧w≤v)(m2:0≤w→0≤l∧l≤w)(q1:C2.length=C.length→w=v)(q2:C4.length=C2.length→l=w):callF tab (d+1) 54 [fB A0 C e0,fB R1 C1 e1,fB R2 C2 e2,fB R3 C3 e3,fB R4 C4 e4,.int w,x]=ok (.bool true,[]):=by
 refine fR rfl rfl rfl (ρ1:=((gp ⟨7,9,[],false,kI⟩ [fB A0 C e0,fB R1 C1 e1,fB R2 C2 e2,fB R3 C3 e3,fB R4 C4 e4,.int w,x]).set 7 (some (false,.int v))).set 8 (some (false,.int l))) (ax (bX (bj rfl h0)) (ax (eH (aD (bj rfl h1) rfl Hf) rfl rfl) (ax (eH (aD (bj rfl h3) rfl Hf) rfl rfl) (ax (bX (bj rfl h4)) (ax (IG rfl rfl rfl rfl m1 rfl) (ax (IG rfl rfl rfl rfl m2 rfl) (ax ?_ (cX ?_))))))))
 ·by_cases p:C2.length=C.length
  ·exact cU (gI (Fp rfl rfl) rfl (ak p) (aD (v:=.int w) (w:=.int w) rfl (q1 p▸rfl) Hf)) rfl rfl rfl
  ·exact cU (jW (Fp rfl rfl) rfl (ao p)) rfl (ao p) rfl
 ·have n:eP .ne (nv C4.length) (nv C2.length)=ok (.bool !(decide (C4.length=C2.length))):=aj (fun b=>ok (V.bool !b)) (uN _ _);by_cases p:C4.length=C2.length
  ·exact mh (aD (d7 rfl (a7 _ _)) (d7 rfl (a7 _ _)) n) rfl (by rw[ak p];rfl) (aD (v:=.int w) (w:=.int w) (q2 p▸rfl) rfl (IA rfl))
  ·exact(Ee (aD (d7 rfl (a7 _ _)) (d7 rfl (a7 _ _)) n) rfl (by rw[ao p];rfl)).trans (by rw[ao p];rfl)
variable{A1 A2 A3 O:List aU}{e:List V}{L:List Bool}
theorem xB(R:List aU)(C:List Cl)(h:e.all (iQ 19)=true):iQ 20 (fB R C e)=true:=by
 show(iQ 19 (aL R)&&(iQ 19 (bF C)&&e.all (iQ 19)))=true;rw[FH 15,Bb 16,h];rfl
theorem I6(h52:callF tab d 52 [aL A0]=ok (aL O,[]))(h24:callF tab d 24 [aL A1,bF []]=ok (fB A3 [] e,[]))(ha:callF tab d 30 [aL A2,bF []]=ok (fB O [] [],[]))(hb:callF tab d 30 [aL A3,bF []]=ok (fB O [] [],[]))(h18:callF tab d 18 [aL O,bF []]=ok (bv L,[]))(hf:L.any (·==false)=false):callF tab (d+1) 55 [aL A0,fB A1 [] e1,fB A2 [] e2]=ok (.bool true,[]):=by
 refine fR rfl rfl rfl (ρ1:=[some (false,aL A0),some (false,fB A1 [] e1),some (false,fB A2 [] e2),some (false,fB O [] []),some (false,fB A3 [] e)]) (ax (bX (gT (a6 (bj rfl h52) rfl))) (ax (bX (bj rfl h24)) (ax (eH (mh (aD (bj rfl ha) rfl (xW (xB O [] (e:=[]) rfl))) rfl rfl (aD (bj rfl hb) rfl (xW (xB O [] (e:=[]) rfl)))) rfl rfl) (cX (aD rfl (bj rfl h18) ?_)))));exact aj (fun r=>bc r fun b=>ok (V.bool !b)) ((rp false L).trans (aj ok hf))
theorem rj:∀{l:List Int}{a b:Int},b∈a::l→(∀x∈a::l,b≤x)→l.foldl min a=b
 | [],a,b,m,_=>(aq.1 m).symm
 |x::l,a,b,m,h=>by
  have hm:b≤min a x:=Int.le_min.2 ⟨h a (.head _),h x (.tail _ (.head _))⟩;refine rj (l:=l) (a:=min a x) ?_ fun y m=>(az.1 m).elim (fun e=>e▸hm) fun m=>h y (.tail _ (.tail _ m))
  rcases az.1 m with rfl|m
  ·exact az.2 (.inl (Int.le_antisymm hm (Int.min_le_left _ _)))
  ·exact(az.1 m).elim (fun e=>by subst e;exact az.2 (.inl (Int.le_antisymm hm (Int.min_le_right _ _)))) fun m=>.tail _ m
theorem sG:∀{l:List Int}{a b:Int},b∈a::l→(∀x∈a::l,x≤b)→l.foldl max a=b
 | [],a,b,m,_=>(aq.1 m).symm
 |x::l,a,b,m,h=>by
  have hm:max a x≤b:=Int.max_le.2 ⟨h a (.head _),h x (.tail _ (.head _))⟩;refine sG (l:=l) (a:=max a x) ?_ fun y m=>(az.1 m).elim (fun e=>e▸hm) fun m=>h y (.tail _ (.tail _ m))
  rcases az.1 m with rfl|m
  ·exact az.2 (.inl (Int.le_antisymm (Int.le_max_left _ _) hm))
  ·exact(az.1 m).elim (fun e=>by subst e;exact az.2 (.inl (Int.le_antisymm (Int.le_max_right _ _) hm))) fun m=>.tail _ m
theorem jJ:∀l:List Int,iB (l.map .int)=ok l
 | []=>rfl
 |_::l=>bq (jJ l) rfl
theorem Hs{l:List Int}{b:Int}(m:b∈l)(h:∀x∈l,b≤x):l6 .min (.Jq (l.map .int))=ok (.int b):=by
 refine bq (a:=l.map V.int) rfl (bq (jJ l) ?_);cases l with
 |nil=>exact nomatch m
 |cons a l=>exact aj (fun i=>ok (V.int i)) (rj m h)
theorem EL{l:List Int}{b:Int}(m:b∈l)(h:∀x∈l,x≤b):l6 .max (.Jq (l.map .int))=ok (.int b):=by
 refine bq (a:=l.map V.int) rfl (bq (jJ l) ?_);cases l with
 |nil=>exact nomatch m
 |cons a l=>exact aj (fun i=>ok (V.int i)) (sG m h)
theorem jb(l:List Nat):l.map nv=(l.map Int.ofNat).map V.int:=by rw[cH];rfl
structure A9(S:List Nat)(g b:Nat):Prop where
 m:b∈S
 le:g≤b
 min:∀s∈S,g≤s→b≤s
theorem Io{S:List Nat}{g b:Nat}(N:A9 S g b)(hl:S.length≤lim):callF tab (d+1) 51 [cW S,nv g]=ok (nv b,[]):=by
 refine fR rfl rfl rfl (cX (d7 (jc (enc:=nv) (enc':=nv) (fun x=>decide (g≤x)) rfl rfl hl (fun x Z=>⟨_,rfl,aj some (bZ.2 bC)⟩) fun Z Z Z=>rfl) ?_));rw[jb];refine Hs (aP.2 ⟨b,bR.2 ⟨N.m,ak N.le⟩,rfl⟩) fun x m=>?_
 obtain⟨s,m0,rfl⟩:=aP.1 m;exact bC.2 (N.min s (bR.1 m0).1 (aT (bR.1 m0).2))
variable{R c:List aU}{n i j k:Nat}{r:aU}{S:List Nat}
noncomputable def uj(R:List aU)(g:Nat):Nat:=(endO R Al g).getD g
noncomputable def gD(R:List aU)(r:aU):List Nat:=if r.op=221 then r.gs else r.gs.map (uj R)
theorem ly:(fc R [] i r).gs=gD R r:=by
 unfold fc gD;by_cases o:r.op=221
 ·rw[aB o,aB o]
 ·rw[aC o,aC o,gJ];exact cN fun g Z=>GN
noncomputable def ki(R:List aU)(p:List aU):List V:=p.map fun r=>cW (gD R r)
noncomputable def yW(R:List aU)(a x2 x4 x5 x6 x7 x8 x9 x10:Option (Bool×V)):Env:=[some (false,aL R),a,x2,none,x4,x5,x6,x7,x8,x9,x10]
theorem Ex{r:aU}(ho:r.Ok)(h:r.op=221):∃g,r=⟨221,.go g⟩:=by
 obtain⟨op,a⟩:=r;obtain rfl:=(show op=221 from h);cases a with
 |go g=>exact⟨g,rfl⟩
 |sw _=>exact absurd (show(221:Int)=69 from ho.1) (by decide)
 |num _=>exact absurd (show(221:Int)∈fH from ho) (by decide)
 |me _=>exact absurd (show(221:Int)=40∨(221:Int)=111 from ho.1) (by decide)
theorem nR(l:List V)(x:V):o7 (l++[x]).length (-1)=some l.length:=by
 have e:(((l++[x]).length:Nat):Int)+-1=l.length:=by rw[ai];exact Int.add_neg_cancel_right (l.length:Int) 1
 refine(aC (by decide)).trans ((aB (by rw[e];exact bL _)).trans (aj some ?_));rw[e];rfl
theorem r4:∀(l:List V)(x v:V),(l++[x]).set l.length v=l++[v]
 | [],_,_=>rfl
 |a::l,x,v=>aj (a::·) (r4 l x v)
theorem zz(ho:∀r∈R,r.Ok)(hn:R.length≤1000):bJ (callF tab (d+1)) [] eE.tl.hd (yW R (some (true,.Jq [])) none none none none none none none none)=ok (.nxt,yW R (some (true,.Jq (ki R R))) none none none none none none none none):=by
 refine gL rfl rfl (by rw[af];exact aa hn (by decide)) (cR (fun p:List aU=>yW R (some (true,.Jq (ki R p))) none none none none none none none none) fun p r m e=>?_);have hr:=ho r (e▸aA _ (.head _))
 have cp:aY (callF tab (d+1)) (.comp (.J2 (.h .eq (.call 46 (.cons (.c 0) (.cons (.c 3) .nil))) (.f (.int (-1)))) (.c 3) (.call 46 (.cons (.c 0) (.cons (.c 3) .nil)))) 3 (.call 41 (.cons (.c 2) .nil))) (yW R (some (true,.Jq (ki R p))) (some (false,r.v)) none none none none none none none)=ok (cW (r.gs.map (uj R))):=by
  rw[show cW (r.gs.map (uj R))=V.Jq (r.gs.map fun g=>nv (uj R g))from aj V.Jq (by rw[cH];rfl)];refine rg (enc:=nv) (bj rfl (GV hr)) rfl (aa hr.short (by decide)) fun g Z=>?_
  have c:=Hk (d:=d) ho hn (z:=g);refine jZ (aD (bj rfl c) rfl rfl) rfl ?_
  unfold st at c ⊢;unfold uj;cases q:endO R Al g with
  |none=>rfl
  |some e=>rw[q]at c;rw[tx];exact bj rfl c
 have out:ki R (p++[r])=ki R p++[cW (gD R r)]:=aw;refine ax (fj (io:=[]) (i:=1) (l:=ki R p) (ρ:=yW R (some (true,.Jq (ki R p))) (some (false,r.v)) none none none none none none none) rfl cp (by unfold ki;rw[af];exact aa (e▸eJ) (aa hn (by decide)))) (ax (ρ1:=yW R (some (true,.Jq (ki R (p++[r])))) (some (false,r.v)) none none none none none none none) ?_ rfl);by_cases o:r.op=221
 ·obtain⟨g,rfl⟩:=Ex hr o;refine gu rfl rfl ((yj (l:=ki R p++[cW ([g].map (uj R))]) (j:=(ki R p).length) (z:=-1) rfl rfl rfl (nR _ _)).trans ?_);rw[r4,out];rfl
 ·refine cU rfl rfl (ao o) ?_
  rw[out,show gD R r=r.gs.map (uj R)from aC o];rfl
end
section
variable{R c:List aU}{d n i j k g:Nat}{r:aU}{S p q:List Nat}{F:FT}{ρ:Env}
noncomputable abbrev sW(R:List aU)(x4 x5 x6 x7 x8 x9 x10:Option (Bool×V)):Env:=yW R (some (false,.Jq (ki R R))) none x4 x5 x6 x7 x8 x9 x10
theorem Fc{op:Int}(h:op∈cw):eP .JI (.int op) (.Js [.int 56,.int 42,.int 122,.int 220,.int 65041,.int 65050,.int 221])=ok (.bool !(ends op)):=
 dP (l:=cw) (p:=fun op=>eP .JI (.int op) (.Js [.int 56,.int 42,.int 122,.int 220,.int 65041,.int 65050,.int 221])=ok (.bool !(ends op))) (by repeat' (first | exact trivial | refine⟨rfl,?_⟩)) h
theorem vc:(fc R [] i r).op=r.op:=by unfold fc;split<;>rfl
noncomputable def on(n i:Nat)(r:aU):List Nat:=r.gs++ix n i r
theorem z5:on n i (fc R [] i r)=gD R r++ix n i r:=by
 unfold on ix;rw[ly,vc]
theorem kt:∀{l a:List Nat},a.Nodup→(l.foldl fp a).Nodup∧∃e,l.foldl fp a=a++e
 | [],a,h=>⟨h,[],(aK a).symm⟩
 |g::l,a,h=>by
  by_cases m:g∈a
  ·show(l.foldl fp (fp a g)).Nodup∧∃e,l.foldl fp (fp a g)=_;rw[mP m];exact kt h
  ·show(l.foldl fp (fp a g)).Nodup∧∃e,l.foldl fp (fp a g)=_;rw[kW m];obtain⟨h',e,q⟩:=kt (l:=l) (a:=a++[g]) (List.nodup_append.2 ⟨h,bM.2 ⟨(by intro h;cases h),.nil⟩,fun x hx y hy e=>m (aq.1 hy▸e▸hx)⟩);exact⟨h',[g]++e,by rw[q,aJ]⟩
structure L1(c:List aU)(p q:List Nat):Prop where
 nd:(p++q).Nodup
 rc:∀s∈p++q,bf c [] s
 z:0∈p++q
 cl:∀i∈p,∀r,c[i]? =some r→∀g∈on c.length i r,g∈p++q
theorem L1.step(A:ct c [])(I:L1 c p (i::q))(h:c[i]? =some r):∃e,(on c.length i r).foldl fp (p++i::q)=(p++[i])++(q++e)∧L1 c (p++[i]) (q++e):=by
 have ri:=I.rc i (aA _ (.head _));obtain⟨nd,e,he⟩:=kt (l:=on c.length i r) I.nd;have eq:(p++[i])++(q++e)=(on c.length i r).foldl fp (p++i::q):=by rw[he,aJ,aJ];rfl
 have mm {g}:g∈(p++[i])++(q++e)↔g∈p++i::q∨g∈on c.length i r:=eq▸kN _ _ _;refine⟨e,eq.symm,eq▸nd,fun s m=>(mm.1 m).elim (I.rc s) fun m=>?_,mm.2 (.inl I.z),fun k m r' h' g m'=>?_⟩
 ·rcases a9.1 m with m|m
  ·exact .go ri h m (A.fine i r h s m)
  ·have:=(eL (n:=c.length) (i:=i) (r:=r) (g:=s)).1 ((kN _ _ _).2 (.inl m));exact this.elim (by rintro⟨a,b,e⟩;exact e▸.fall ri h a b) fun m=>.go ri h m (A.fine i r h s m)
 ·rcases a9.1 m with m|m
  ·exact mm.2 (.inl (I.cl k m r' h' g m'))
  ·cases aq.1 m;obtain rfl:=ah (h.symm.trans h');exact mm.2 (.inr m')
theorem L1.all(I:L1 c p [])(h:bf c [] k):k∈p:=by
 have cl i (m:i∈p):=I.cl i m;have z:=I.z;rw[aK]at z cl;induction h with
 |zero _=>exact z
 |go _ q m _ ih=>exact cl _ ih _ q _ (bE _ m)
 |fall _ q e l ih=>exact cl _ ih _ q _ (aA _ (by unfold ix;rw[e,ak l];exact .head _))
 |hand _ m=>cases m
theorem L1.len(I:L1 c p q):p.length+q.length≤c.length:=ai▸hJ _ _ I.nd fun s m=>(I.rc s m).lt
end
section
section
variable{σ:Type}(E:σ→Env)(I:σ→Prop)(μ:σ→Nat)
abbrev Go(s:σ):R (Flow×Env)→Prop:=Wk E I μ (fun Z=>False) False s
inductive B7(t:σ→Bool)(r:R (Flow×Env)):Prop
 |mk {s:σ}:r=ok (.nxt,E s)→I s→t s=false→B7 t r
variable{E I μ}
theorem wJ{test:Env→R Bool}{body:Env→R (Flow×Env)}{t:σ→Bool}(ht:∀s,I s→test (E s)=ok (t s))(hb:∀s,I s→t s=true→Go E I μ s (body (E s)))(k:Nat)(s:σ)(i:I s)(l:μ s<k):B7 E I t (gS test body k (E s)):=by
 have L:=lA ht hb k s i l;generalize hz:gS test body k (E s)=z at L;cases L with
 |nxt i t=>exact⟨rfl,i,t⟩
 |ret h=>exact h.elim
 |exc h=>exact h.elim
end
variable{R c:List aU}{d n i j k g:Nat}{r:aU}{S p q:List Nat}{F:FT}{ρ:Env}
noncomputable abbrev nO(k:Nat):Option (Bool×V):=some (false,nv k)
noncomputable abbrev oO(S:List Nat):Option (Bool×V):=some (true,cW S)
theorem DZ{x5 x6 x7:Option (Bool×V)}(l:List Nat)(h:S.length+l.length≤lim):fT (fun v ρ=>bc (ft (cS (.v 3) v ρ)) (bJ F [] eE.tl.tl.tl.tl.tl.hd.bd.tl.tl.tl.tl.hd.bd)) (l.map nv) (sW R (oO S) x5 x6 x7 none none none)=ok (.nxt,sW R (oO (l.foldl fp S)) x5 x6 x7 none none none):=
 cR (fun p=>sW R (oO (p.foldl fp S)) x5 x6 x7 none none none) fun p x m e=>by
  have hl:(p.foldl fp S).length≤lim:=aa (iS p S) (aa (aR (by rw[e];exact eJ) _) h);rw[vf];refine ax (ρ1:=(sW R (oO (fp (p.foldl fp S) x)) x5 x6 x7 none none none).set 3 (nO x)) (kn (dM (aD rfl rfl (nN _ _)) rfl) rfl ?_) rfl;by_cases h:x∈p.foldl fp S
  ·rw[ak h,mP h];rfl
  ·rw[ao h,kW h];refine(fj (io:=[]) (l:=(p.foldl fp S).map nv) rfl rfl (by rw[af];exact hl)).trans ?_
   unfold oO cW;rw[aw];rfl
theorem qP{e1 e2:CE}{a b:List Nat}(h1:aY F e1 ρ=ok (cW a))(h2:aY F e2 ρ=ok (cW b))(h:(a++b).length≤lim):aY F (.h .add e1 e2) ρ=ok (cW (a++b)):=
 aD h1 h2 (show j6 (a.map nv++b.map nv)=_ by rw[←aw];exact cY (by rw[af];exact h) rfl)
theorem CJ(A:ct R [])(hs:S[k]? =some i)(hr:R[i]? =some r)(h:S.length≤1000):bJ (callF tab (d+1)) [] eE.tl.tl.tl.tl.tl.hd.bd (sW R (oO S) (nO k) none none none none none)=ok (.nxt,sW R (oO ((on R.length i (fc R [] i r)).foldl fp S)) (nO (k+1)) none none none none none):=by
 have ho:=A.ok r (ay hr);have la:(gD R r).length≤3:=by unfold gD;split<;>first | exact ho.short | exact(by rw[af];exact ho.short)
 have lf:(gD R r++ix R.length i r).length≤4:=by rw[ai];exact bo (d:=1) la (kC _ _ _)
 have ha:(ki R R)[i]? =some (cW (gD R r)):=by unfold ki;rw[aV,hr];rfl
 have e5:aY (callF tab (d+1)) (.h .item (.c 1) (.c 6)) (sW R (oO S) (nO (k+1)) (nO i) none none none none)=ok (cW (gD R r)):=aD rfl rfl ((aW (f:=fun r=>cW (gD R r)) hr));have ey:aY (callF tab (d+1)) (.h .item (.h .item (.c 0) (.c 6)) (.f (.int 0))) (sW R (oO S) (nO (k+1)) (nO i) (some (false,cW (gD R r))) none none none)=ok (.int r.op):=aD (aD rfl rfl (aW hr)) rfl rfl;rw[z5];refine ax (bX (dM (aD rfl rfl (aW hs)) rfl)) (ax (ρ1:=sW R (oO S) (nO (k+1)) (nO i) none none none none) rfl (ax (bX e5) (ax (ρ1:=sW R (oO S) (nO (k+1)) (nO i) (some (false,cW (gD R r++ix R.length i r))) none none none) (kn (b:=!ends r.op&&decide (i+1<R.length)) (v:=.bool (!ends r.op&&decide (i+1<R.length))) (su (aD ey rfl (Fc ho.Kc)) rfl ?_) rfl ?_) (ax (gL rfl rfl (by rw[af];exact aa lf (by decide)) (DZ _ (aa (bo h lf) (by decide)))) rfl))))
 ·cases ends r.op with
  |false=>exact aD rfl (d7 rfl (a7 _ _)) (aj (fun b=>ok (V.bool b)) (oZ (i+1) R.length))
  |true=>rfl
 ·unfold ix at lf ⊢;cases h:!ends r.op&&decide (i+1<R.length) with
  |false=>rw[show gD R r++cond false [i+1] []=gD R r from aK _];rfl
  |true=>rw[h]at lf;exact bX (io:=[]) (qP rfl rfl (aa lf (by decide)))
noncomputable def v4(R:List aU)(s:List Nat×List Nat):Env:=sW R (oO (s.1++s.2)) (nO s.1.length) none none none none none
theorem sL(s:List Nat×List Nat):decide (s.1.length<(s.1++s.2).length)=!s.2.isEmpty:=by
 cases h:s.2 with
 |nil=>rw[aK];exact ao (aZ _)
 |cons a l=>exact ak (by rw[ai];exact Nat.lt_add_of_pos_right (a8 _))
theorem yf(s:List Nat×List Nat):bc (aY F (.u (.h .lt (.c 5) (.un .len (.c 4)))) (v4 R s)) da=ok !s.2.isEmpty:=
 bq (dM (aD rfl (d7 rfl (a7 _ _)) rfl) rfl) (aj ok ((oZ _ _).trans (sL s)))
theorem wU(A:ct R []):∀s:List Nat×List Nat,L1 (bB R []) s.1 s.2→(!s.2.isEmpty)=true→Go (v4 R) (fun s=>L1 (bB R []) s.1 s.2) (fun s=>R.length - s.1.length) s (bJ (callF tab (d+1)) [] eE.tl.tl.tl.tl.tl.hd.bd (v4 R s))
 |(_,[]),_,h=>nomatch h
 |(p,i::q),I,_=>by
  have hc:(bB R []).length=R.length:=bA;have li:=(I.rc i (aA _ (.head _))).lt;obtain⟨r,hr⟩:∃r,R[i]? =some r:=⟨_,bw (hc▸li)⟩;obtain⟨e,he,J⟩:=I.step A.T (dg (cls:=[]) hr);have b:=CJ (d:=d) (k:=p.length) A jf hr (ai▸aa I.len (hc▸A.len));rw[hc]at he;rw[he,show p.length+1=(p++[i]).length from(ai (as:=p) (bs:=[i])).symm]at b;rw[show bJ (callF tab (d+1)) [] eE.tl.tl.tl.tl.tl.hd.bd (v4 R (p,i::q))=_ from b];refine .nxt (s':=(p++[i],q++e)) J ?_
  show R.length - (p++[i]).length<R.length - p.length;rw[ai];exact Nat.sub_succ_lt_self _ _ (aS (Nat.lt_add_of_pos_right (a8 _)) (hc▸I.len))
theorem BR(A:ct R [])(h0:0<R.length):B7 (v4 R) (fun s=>L1 (bB R []) s.1 s.2) (fun s=>!s.2.isEmpty) (bJ (callF tab (d+1)) [] eE.tl.tl.tl.tl.tl.hd (v4 R ([],[0]))):=
 wJ (fun s Z=>yf s) (wU A) lim ([],[0]) ⟨bM.2 ⟨nofun,.nil⟩,fun s m=>by cases aq.1 m;exact .zero (bA.symm▸h0),.head _,nofun⟩ (aF (Nat.sub_le _ _) (aF A.len (by decide)))
end
section
variable{R c:List aU}{d n i j k g a b y z:Nat}{r:aU}{S p q:List Nat}{K:List Bool}
noncomputable abbrev Bt(S:List Nat):Prop:=S.Pairwise (·<·)
structure L2(c:List aU)(p q:List Nat):Prop where
 so:Bt (p++q)
 rc:∀s∈p++q,bf c [] s
 out:∀z,bf c [] z→z∉p++q→∃a,c[z]? =some ⟨56,.go a⟩∧z<a∧∀y∈p++q,z≤y→¬y<a
 ti:∀i∈p,∀a,c[i]? =some ⟨56,.go a⟩→i<a→∃y∈p++q,i<y∧y<a
theorem L2.land(A:ct c [])(I:L2 c p q):∀m z,c.length≤z+m→bf c [] z→∃s∈p++q,z≤s
 |0,_,l,h=>absurd h.lt (bS.2 l)
 |m+1,z,l,h=>(Classical.em (z∈p++q)).elim (fun k=>⟨z,k,aM z⟩) fun k=>by
  obtain⟨a,q,l',_⟩:=I.out z h k;obtain⟨s,m,e⟩:=L2.land A I m a (mH l l') (.go h q (.head _) (A.fine z _ q a (.head _)));exact⟨s,m,aa (aE l') e⟩
theorem qG:∀{S:List Nat},(∃s∈S,g≤s)→∃b,A9 S g b
 | [],⟨_,m,_⟩=>(by cases m)
 |x::S,h=>by
  by_cases h':∃s∈S,g≤s
  ·obtain⟨b,m,l,k⟩:=qG h';by_cases q:g≤x∧x<b
   ·exact⟨x,.head _,q.1,fun s m g=>(az.1 m).elim (fun e=>bu e.symm) fun m=>aa (aE q.2) (k s m g)⟩
   ·exact⟨b,.tail _ m,l,fun s m g=>(az.1 m).elim (fun e=>bS.1 fun l=>q (e▸⟨g,l⟩)) fun m=>k s m g⟩
  ·obtain⟨s,m,l⟩:=h;have e:=(az.1 m).resolve_right fun m=>h' ⟨s,m,l⟩;exact⟨x,.head _,e▸l,fun t m g=>(az.1 m).elim (fun e=>bu e.symm) fun m=>absurd ⟨t,m,g⟩ h'⟩
theorem tN(h:Bt (p++i::q)):(∀x∈p,x<i)∧∀x∈q,i<x:=
 ⟨fun x m=>(List.pairwise_append.1 h).2.2 x m i (.head _),(List.pairwise_cons.1 (List.pairwise_append.1 h).2.1).1⟩
theorem iu{x:Nat}:x∈p++i::q↔x=i∨x∈p++q:=by
 rw[a9,a9,az,or_left_comm]
theorem L2.drop(I:L2 c p (i::q))(h:c[i]? =some ⟨56,.go a⟩)(l:i<a)(f:∀y∈q,a≤y):L2 c [] (p++q):=by
 refine⟨I.so.sublist (List.Sublist.append_left (List.sublist_cons_self i q) p),fun s m=>I.rc s (iu.2 (.inr m)),fun z hz n=>?_,(by intro _ h;cases h)⟩;by_cases e:z=i
 ·exact⟨a,e▸h,e▸l,fun y m g l'=>(a9.1 (show y∈p++q from m)).elim (fun m=>bS.2 g (e▸(tN I.so).1 y m)) fun m=>bS.2 (f y m) l'⟩
 ·obtain⟨a',h',l',f'⟩:=I.out z hz fun m=>(iu.1 m).elim e n;exact⟨a',h',l',fun y m=>f' y (iu.2 (.inr m))⟩
theorem L2.keep(I:L2 c p (i::q))(h:∀a,c[i]? =some ⟨56,.go a⟩→i<a→∃y∈p++i::q,i<y∧y<a):L2 c (p++[i]) q:=by
 have e:p++[i]++q=p++i::q:=aJ _ _ _;exact⟨e▸I.so,e▸I.rc,e▸I.out,fun z m=>e.symm▸(a9.1 m).elim (I.ti z) fun m=>aq.1 m▸h⟩
noncomputable def mK(n:Nat)(S:List Nat):List Bool:=(List.range n).map fun z=>decide (z∈S)
theorem nj(h:∀s∈S,s<n):On (mK n S) z↔z∈S:=(jK _).trans ⟨fun e=>aT e.2,fun m=>⟨h z m,ak m⟩⟩
theorem L2.nf(A:ct c [])(h0:0<c.length)(I:L2 c p []):NF c (mK c.length p):=by
 have e:=aK p;have on {z}:On (mK c.length p) z↔z∈p:=nj fun s m=>(I.rc s (e.symm▸m)).lt;refine⟨⟨A.cgr h0,by unfold mK;rw[af,aO],fun z k=>.inl (I.rc z (e.symm▸on.1 k)),fun z gz l n=>?_⟩,fun z a k q l f=>?_⟩
 ·obtain⟨a,q,l,f⟩:=I.out z (gz.resolve_right (cG l)) fun m=>n (on.2 (e▸m));exact⟨q,l,fun y h1 h2 k=>f y (e.symm▸on.1 k) h1 h2⟩
 ·obtain⟨y,m,l1,l2⟩:=I.ti z (on.1 k) a q l;exact f y l1 l2 (on.2 (e▸m))
theorem vq(h:Bt S)(hn:∀s∈S,s<n):∀{j b:Nat},S[j]? =some b→pl (mK n S) b=j
 |0,b,e=>ja (fun y Z l k=>by
  obtain⟨i,hi,q⟩:=List.mem_iff_getElem.1 ((nj hn).1 k);obtain⟨h0,e⟩:=ag.1 e;subst q e;cases i with
  |zero=>exact aZ _ l
  |succ i=>exact Nat.lt_asymm l (dm.1 h 0 (i+1) h0 hi (a8 i))) (aQ _)
 |j+1,b,e=>by
  obtain⟨hj,q⟩:=ag.1 e;have P:=dm.1 h;have hj':=Nat.lt_of_succ_lt hj;have l:=P j (j+1) hj' hj (a4 j);have k:On (mK n S) S[j]:=(nj hn).2 (ay (bw hj'));rw[←q,ja (i:=S[j]+1) (fun y g l k=>?_) l,eW k,(vq h hn (bw hj'))];obtain⟨i,hi,q⟩:=List.mem_iff_getElem.1 ((nj hn).1 k);subst q;rcases Nat.lt_or_ge j i with o|o
  ·rcases dt (show j+1≤i from o)with o|rfl
   ·exact Nat.lt_asymm l (P _ _ hj hi o)
   ·exact aZ _ l
  ·rcases dt o with o|rfl
   ·exact Nat.lt_asymm g (P _ _ hi hj' o)
   ·exact aZ _ g
end
section
variable{R c:List aU}{d n i j k g a b y z:Nat}{r:aU}{S p q:List Nat}{K:List Bool}{F:FT}{ρ:Env}
noncomputable def mo(R:List aU)(x5:Option (Bool×V))(s:List Nat×List Nat):Env:=sW R (oO (s.1++s.2)) x5 none none (nO s.1.length) none none
theorem Ad{io:List Nat}{e:CE}{l:Nat}(h:nS ρ l=ok ((p++i::q).map nv))(he:aY F e ρ=ok (nv i))(n:i∉p):bJ F io (.KA l e) ρ=ok (.nxt,fq ρ l (cW (p++q))):=by
 have e1:((p++i::q).map Int.ofNat).erase (i:Int)=(p++q).map Int.ofNat:=by
  rw[aw,List.erase_append_right _ (fun m=>by obtain⟨x,m,e⟩:=aP.1 m;exact n (aX e▸m)),aw];exact aj _ (List.erase_cons_head ..)
 rw[jb]at h;refine bq h (bq (jJ _) (bq he (bq (a:=(i:Int)) rfl (cY (aP.2 ⟨i,iu.2 (.inl rfl),rfl⟩) ?_))));rw[e1];unfold cW;rw[jb]
theorem H6{x k:Nat}(h:x≤60):x*61+x<(x+1)*61+k:=by
 rw[Nat.succ_mul,bO];exact Nat.add_lt_add_left (aS (Nat.lt_succ_of_le h) (bD _ _)) _
noncomputable def CS.cd:CS→CE
 |.p (.u c) _ _=>c
 |_=>.nil
noncomputable abbrev oL:CS:=eE.tl.tl.tl.tl.tl.tl.tl.tl.hd.bd
noncomputable abbrev oP(R:List aU)(x5:Option (Bool×V))(p q:List Nat)(i:Nat):Env:=sW R (oO (p++i::q)) x5 (nO i) none (nO (p.length+1)) none none
variable{x5:Option (Bool×V)}{v:V}{s:List Nat×List Nat}
theorem uz{b:Bool}{ρ1:Env}(h:aY F oL.tl.tl.hd.cd (plain (oP R x5 p q i))=ok v)(hv:tr v=some b)(hl:gB 20 v=true)(k:cond b (bJ F [] (.seq (.KA 4 (.c 6)) (.q (.v 8) (.f (.int 0)))) (oP R x5 p q i)) (ok (.nxt,oP R x5 p q i))=ok (.nxt,ρ1))(e:ρ1.set 6 none=mo R x5 s):bJ F [] oL (mo R x5 (p,i::q))=ok (.nxt,mo R x5 s):=
 ax (bX (dM (aD rfl rfl (aW (jf (p:=p) (x:=i) (m:=q)))) rfl)) (ax (ρ1:=oP R x5 p q i) rfl (ax (kn (dM h hl) hv k) (aj (fun ρ=>ok (Flow.nxt,ρ)) e)))
theorem BO(h:aY F oL.tl.tl.hd.cd (plain (oP R x5 p q i))=ok v)(hv:tr v=some false)(hl:gB 20 v=true):bJ F [] oL (mo R x5 (p,i::q))=ok (.nxt,mo R x5 (p++[i],q)):=
 uz h hv hl rfl (by unfold mo;rw[show p++[i]++q=p++i::q from aJ _ _ _,ai];rfl)
theorem AI(h:aY F oL.tl.tl.hd.cd (plain (oP R x5 p q i))=ok v)(hv:tr v=some true)(hl:gB 20 v=true)(n:i∉p):bJ F [] oL (mo R x5 (p,i::q))=ok (.nxt,mo R x5 ([],p++q)):=
 uz h hv hl (ax (Ad rfl rfl n) rfl) rfl
noncomputable abbrev Et(R:List aU)(x5:Option (Bool×V)):=Go (mo R x5) (fun s=>L2 (bB R []) s.1 s.2) (fun s=>(s.1++s.2).length*61+s.2.length)
theorem xS(A:ct R [])(hn:R.length≤60){x5:Option (Bool×V)}:∀s:List Nat×List Nat,L2 (bB R []) s.1 s.2→(!s.2.isEmpty)=true→Et R x5 s (bJ (callF tab (d+1)) [] oL (mo R x5 s))
 |(_,[]),_,h=>(by cases h)
 |(p,i::q),I,_=>by
  have hc:(bB R []).length=R.length:=bA;have ri:=I.rc i (iu.2 (.inl rfl));obtain⟨r,hr⟩:∃r,R[i]? =some r:=⟨_,bw (hc▸ri.lt)⟩;have u:=tN I.so;have len:(p++i::q).length≤60:=aa (hJ _ _ (I.so.imp cG) fun s m=>(I.rc s m).lt) (hc▸hn);have e0:aY (callF tab (d+1)) (.h .eq (.h .item (.h .item (.c 0) (.c 6)) (.f (.int 0))) (.f (.int 56))) (plain (oP R x5 p q i))=ok (.bool (decide (r.op=56))):=aD (aD (aD rfl rfl (aW hr)) rfl rfl) rfl rfl
  have no {v} (h:∀a,(bB R [])[i]? =some ⟨56,.go a⟩→i<a→∃y∈p++i::q,i<y∧y<a) (e:aY (callF tab (d+1)) oL.tl.tl.hd.cd (plain (oP R x5 p q i))=ok v) (hv:tr v=some false) (hl:gB 20 v=true):Et R x5 (p,i::q) (bJ (callF tab (d+1)) [] oL (mo R x5 (p,i::q))):=by
   rw[BO e hv hl];refine .nxt (I.keep h) ?_
   show(p++[i]++q).length*61+q.length<_;rw[show p++[i]++q=p++i::q from aJ _ _ _];exact a4 _
  by_cases o:r.op=56
  ·obtain⟨g,rfl⟩:=vz (A.ok r (ay hr)) o;have ht:(bB R [])[i]? =some ⟨56,.go (ce R [] i g)⟩:=dg hr;obtain⟨s,ms,ls⟩:=I.land A.T _ _ (cn _ _) (show bf (bB R []) [] (ce R [] i g)from .go ri ht (.head _) (A.T.fine i _ ht _ (.head _)));cases q with
   |nil=>exact no (fun a e l=>by obtain rfl:=iI ht e;exact absurd ls (Nat.not_le.2 (aF ((iu.1 ms).elim bu fun m=>aE (u.1 s (aK p▸m))) l))) (gI e0 rfl rfl (jW (aD rfl (d7 rfl (a7 _ _)) (aj (fun b=>ok (V.bool b)) (oZ (p.length+1) _))) rfl (ao (by rw[ai];exact aZ _)))) (aj some (ao (by rw[ai];exact aZ _))) rfl
   |cons y q=>
    obtain⟨b,N⟩:=qG ⟨s,ms,ls⟩;have ha:aY (callF tab (d+1)) (.h .item (.h .item (.c 1) (.c 6)) (.f (.int 0))) (plain (oP R x5 p (y::q) i))=ok (nv (ce R [] i g)):=aD (aD rfl rfl (aW (f:=fun r=>cW (gD R r)) hr)) rfl (aj (fun g=>ok (nv g)) GN.symm);have hy:(p++i::y::q)[p.length+1]? =some y:=by rw[show p++i::y::q=(p++[i])++y::q from(aJ p [i] (y::q)).symm,show p.length+1=(p++[i]).length from(ai (as:=p) (bs:=[i])).symm];exact jf
    have e:aY (callF tab (d+1)) oL.tl.tl.hd.cd (plain (oP R x5 p (y::q) i))=ok (.bool (decide (b=y))):=
     gI e0 rfl rfl (gI (aD rfl (d7 rfl (a7 _ _)) (aj (fun b=>ok (V.bool b)) (oZ (p.length+1) _))) rfl (ak (by rw[ai];exact Nat.add_lt_add_left (Nat.succ_lt_succ (a8 _)) _)) (aD (bj (a6 rfl (a6 ha rfl)) (Io N (aa len (ae rfl)))) (aD rfl rfl (aW hy)) (AZ b y)))
    have un:=u.2 y (.head _);have hq:∀x∈y::q,y≤x:=fun x m=>(az.1 m).elim (fun e=>bu e.symm) fun m=>aE ((List.pairwise_cons.1 (List.pairwise_cons.1 (List.pairwise_append.1 I.so).2.1).2).1 x m);by_cases h:b=y
    ·subst h;rw[AI e (aj some (ak rfl)) rfl fun m=>aZ _ (u.1 i m)];refine .nxt (s':=([],p++b::q)) (I.drop ht (show i<ce R [] i g from Nat.lt_of_not_le fun l=>Nat.not_le.2 un (N.min i (iu.2 (.inl rfl)) l)) fun x m=>aa N.le (hq x m)) ?_
     have el:(p++i::b::q).length=(p++b::q).length+1:=by rw[ai,ai];rfl
     show(p++b::q).length*61+(p++b::q).length<(p++i::b::q).length*61+_;rw[el]at len ⊢;exact H6 (Nat.le_of_succ_le len)
    ·refine no (fun a e l=>?_) e (aj some (ao h)) rfl;obtain rfl:=iI ht e;have my:y∈p++i::y::q:=iu.2 (.inr (aA _ (.head _)));have mb:b∈y::q:=(az.1 ((a9.1 N.m).resolve_left fun m=>Nat.not_le.2 (Nat.lt_trans (u.1 b m) l) N.le)).resolve_left fun e=>Nat.not_le.2 l (e▸N.le);exact⟨y,my,un,Nat.lt_of_not_le fun g=>h (cL (N.min y my g) (hq b mb))⟩
  ·exact no (fun a e=>by have:=aj aU.op (ah ((dg (cls:=[]) hr).symm.trans e));exact absurd (vc.symm.trans this) o) (jW e0 rfl (ao o)) (aj some (ao o)) rfl
end
section
variable{R c:List aU}{d n i j k g a b y z:Nat}{r:aU}{S p q:List Nat}{K:List Bool}{F:FT}{ρ:Env}
theorem zA{l:List Nat}(hn:l.Nodup)(h:l.length<64):∃S,S.Perm l∧Bt S∧l6 .JW (cW l)=ok (cW S):=by
 have tr:∀a b c:Nat,decide (a≤b)=true→decide (b≤c)=true→decide (a≤c)=true:=fun a b c h k=>ak (aa (aT h) (aT k));have to:∀a b:Nat,(decide (a≤b)||decide (b≤a))=true:=fun a b=>dN.2 ((Nat.le_total a b).imp ak ak);refine⟨_,(List.mergeSort_perm l fun a b=>decide (a≤b)),((List.pairwise_mergeSort tr to l).and ((List.mergeSort_perm l fun a b=>decide (a≤b)).nodup_iff.2 hn)).imp fun h=>Nat.lt_of_le_of_ne (aT h.1) h.2,?_⟩;unfold cW;rw[jb,jb,List.map_mergeSort (f:=Int.ofNat) (s:=fun a b:Int=>decide (a≤b)) fun a Z b Z=>bZ.2 bC.symm];refine bq (a:=(l.map Int.ofNat).map V.int) rfl (bq (jJ _) (cY (by rw[af];exact h) (cY ?_ rfl)));rw[af,List.length_mergeSort,af];exact aa (aE h) (by decide)
theorem Ha{e1 e2:CE}(h1:aY F e1 ρ=ok (cW S))(h2:aY F e2 ρ=ok (nv b))(h:Bt S)(m:b∈S)(hn:∀s∈S,s<n):aY F (.idx e1 e2) ρ=ok (nv (pl (mK n S) b)):=by
 obtain⟨p,q,rfl⟩:=List.append_of_mem m;have np:b∉p:=fun m=>aZ _ ((tN h).1 b m);refine bq h1 (bq (a:=(p++b::q).map nv) rfl (bq h2 (bq (a:=(p++b::q).map nv) rfl ?_)));rw[jb,vq h hn jf];refine bq (jJ _) (bq (a:=(b:Int)) rfl (cY (aP.2 ⟨b,m,rfl⟩) (aj (fun k:Nat=>ok (nv k)) ?_)));rw[aw,List.idxOf_append,aC fun m=>by obtain⟨x,m,e⟩:=aP.1 m;exact np (aX e▸m)];exact(aj (·+_) List.idxOf_cons_self).trans ((cI _).trans (af _))
noncomputable def l9(R:List aU)(K:List Bool)(i:Nat):aU:=((bB R [])[i]?.getD ⟨0,.num 0⟩).map (pl K)
theorem Ak(h:Bt S)(hn:∀s∈S,s<(bB R []).length):S.map (l9 R (mK (bB R []).length S))=cq (mK (bB R []).length S) (bB R []):=by
 refine List.ext_getElem? fun u=>?_
 rw[aV];cases e:S[u]? with
 |some z=>
  have q:=bw (hn z (ay e));have:=ei ((nj hn).2 (ay e)) q;rw[vq h hn e]at this;rw[this];show some (l9 _ _ _)=_;unfold l9;rw[q];rfl
 |none=>
  cases q:(cq (mK (bB R []).length S) (bB R []))[u]? with
  |none=>rfl
  |some r=>
   obtain⟨z,_,k,_,rfl,_⟩:=eA.1 q;obtain⟨j,e'⟩:=dn.1 ((nj hn).1 k);rw[vq h hn e',e']at e;exact nomatch e
noncomputable def zJ(R:List aU)(x5 x8:Option (Bool×V))(S:List Nat)(w:List aU)(x6 x10:Option (Bool×V)):Env:=yW R (some (false,.Jq (ki R R))) none (some (false,cW S)) x5 x6 none x8 (some (true,aL w)) x10
noncomputable def Be:CE:=.J2 (.c 10) (.h .item (.c 10) (.f (.int 0))) (.h .item (.h .item (.c 0) (.c 6)) (.f (.int 1)))
noncomputable abbrev GD:CS:=eE.tl.tl.tl.tl.tl.tl.tl.tl.tl.tl.tl.hd
variable{x5 x8:Option (Bool×V)}{w:List aU}{x:V}{l:List Nat}
noncomputable abbrev tE(R:List aU)(x5 x8:Option (Bool×V))(S:List Nat)(w:List aU)(i:Nat)(l:List Nat):Env:=zJ R x5 x8 S w (nO i) (some (false,cW l))
theorem xU(hr:R[i]? =some r):aY F (.h .item (.h .item (.c 0) (.c 6)) (.f (.int 0))) (tE R x5 x8 S w i l)=ok (.int r.op):=aD (aD rfl rfl (aW hr)) rfl rfl
theorem xz(hr:R[i]? =some r):aY F Be (tE R x5 x8 S w i [])=ok r.arg.v:=jZ (b:=false) rfl rfl (aD (aD rfl rfl (aW hr)) rfl rfl)
theorem xA(hr:R[i]? =some r)(h:decide (r.op=69)=false)(hx:aY F Be (tE R x5 x8 S w i l)=ok x)(hl:w.length≤lim):bJ F [] GD.bd.tl.hd (tE R x5 x8 S w i l)=ok (.nxt,(tE R x5 x8 S w i l).set 9 (some (true,.Jq (w.map aU.v++[.Js [.int r.op,x]])))):=
 cU (aD (xU hr) rfl rfl) rfl h (fj (io:=[]) (l:=w.map aU.v) rfl (gT (a6 (xU hr) (a6 hx rfl))) (by rw[af];exact hl))
theorem EZ(hr:R[i]? =some r)(h:decide (r.op=69)=true)(h3:l.length≤lim)(hl:w.length≤lim):bJ F [] GD.bd.tl.hd (tE R x5 x8 S w i l)=ok (.nxt,(tE R x5 x8 S w i l).set 9 (some (true,.Jq (w.map aU.v++[.Js [.int 69,.Js (l.map nv)]])))):=
 eK (aD (xU hr) rfl rfl) rfl h (fj (io:=[]) (l:=w.map aU.v) rfl (gT (a6 rfl (a6 (d7 rfl (cY (by rw[af];exact h3) rfl)) rfl))) (by rw[af];exact hl))
theorem CN(ho:r.Ok)(hr:R[i]? =some r)(hl:w.length≤lim):bJ F [] GD.bd.tl.hd (tE R x5 x8 S w i ((gD R r).map (pl K)))=ok (.nxt,tE R x5 x8 S (w++[l9 R K i]) i ((gD R r).map (pl K))):=by
 have fin:(tE R x5 x8 S w i ((gD R r).map (pl K))).set 9 (some (true,.Jq (w.map aU.v++[((fc R [] i r).map (pl K)).v])))=tE R x5 x8 S (w++[l9 R K i]) i ((gD R r).map (pl K)):=by
  unfold l9;rw[dg hr];show yW _ _ _ _ _ _ _ _ (some (true,V.Jq (_++[_]))) _=yW _ _ _ _ _ _ _ _ (some (true,V.Jq (List.map _ (_++[_])))) _;rw[aw];rfl
 rw[←fin,←ly (i:=i)];obtain⟨op,a⟩:=r;cases a with
 |sw gs=>
  obtain rfl:=(show op=69 from ho.1);refine EZ hr rfl (l:=((gs.map _)).map _) ?_ hl
  rw[af,af];exact aa ho.2 (by decide)
 |go g=>
  obtain⟨x,hx⟩:∃x,fc R [] i ⟨op,.go g⟩=⟨op,.go x⟩:=by unfold fc;split<;>exact⟨_,rfl⟩
  rw[hx];exact xA (r:=⟨op,.go g⟩) (x:=nv (pl K x)) (l:=[pl K x]) hr (ux ho).1 rfl hl
 |num j=>
  rw[show fc R [] i ⟨op,.num j⟩=⟨op,.num j⟩ by unfold fc;split<;>rfl];exact xA (r:=⟨op,.num j⟩) (l:=[]) hr (v0 ho).1 (xz hr) hl
 |me k=>
  rw[show fc R [] i ⟨op,.me k⟩=⟨op,.me k⟩ by unfold fc;split<;>rfl];exact xA (r:=⟨op,.me k⟩) (l:=[]) hr (ho.1.elim (fun e=>by obtain rfl:=(show op=40 from e);rfl) fun e=>by obtain rfl:=(show op=111 from e);rfl) (xz hr) hl
end
section
variable{R c:List aU}{d n i j k g a b y z:Nat}{r:aU}{S p q:List Nat}{K:List Bool}{F:FT}{ρ:Env}
inductive Bn(R:List aU)(d:Nat):Prop
 |mk {K:List Bool}:NF (bB R []) K→callF tab (d+2) 52 [aL R]=ok (aL (cq K (bB R [])),[])→Bn R d
theorem Ck(A:ct R [])(I:L2 (bB R []) S []){x5 x8:Option (Bool×V)}(hn:S.length≤lim):bJ (callF tab (d+1)) [] GD (zJ R x5 x8 S [] none none)=ok (.nxt,zJ R x5 x8 S (cq (mK (bB R []).length S) (bB R [])) none none):=by
 have e:=aK S;have hs s (m:s∈S):=I.rc s (e.symm▸m);have up:Bt S:=e▸I.so;have lt s (m:s∈S):=(hs s m).lt;rw[←Ak up lt];refine gL rfl rfl (by rw[af];exact hn) (cR (fun p:List Nat=>zJ R x5 x8 S (p.map (l9 R (mK (bB R []).length S))) none none) fun p i m e'=>?_);have mi:i∈S:=e'▸aA _ (.head _);obtain⟨r,hr⟩:∃r,R[i]? =some r:=⟨_,bw (bA (cls:=[])▸lt i mi)⟩;have ho:=A.ok r (ay hr);have la:(gD R r).length≤lim:=by unfold gD;split<;>first | exact aa ho.short (by decide) | exact(by rw[af];exact aa ho.short (by decide))
 have hp:(p.map (l9 R (mK (bB R []).length S))).length≤lim:=by rw[af];exact aa (by rw[e'];exact eJ) hn
 rw[aw];refine ax (bX ?_) (ax (CN (K:=mK (bB R []).length S) ho hr hp) rfl);rw[show cW ((gD R r).map (pl (mK (bB R []).length S)))=V.Jq ((gD R r).map fun g=>nv (pl (mK (bB R []).length S) g))from aj V.Jq (by rw[cH];rfl)];refine rg (enc:=nv) (aD rfl rfl (aW (f:=fun r=>cW (gD R r)) hr)) rfl la fun g m=>?_
 have mg:g∈(fc R [] i r).gs:=ly.symm▸m;obtain⟨s,ms,l⟩:=I.land A.T _ g (cn _ _) (.go (hs i mi) (dg (cls:=[]) hr) mg (A.T.fine i _ (dg (cls:=[]) hr) g mg));rw[e]at ms;obtain⟨b,N⟩:=qG ⟨s,ms,l⟩;rw[←ja (fun y l1 l2 k=>Nat.not_le.2 l2 (N.min y ((nj lt).1 k) l1)) N.le];exact Ha rfl (bj (a6 rfl (a6 rfl rfl)) (Io N hn)) up N.m lt
theorem wZ{x5:Option (Bool×V)}(s:List Nat×List Nat):bc (aY F (.u (.h .lt (.c 8) (.un .len (.c 4)))) (mo R x5 s)) da=ok !s.2.isEmpty:=
 bq (dM (aD rfl (d7 rfl (a7 _ _)) rfl) rfl) (aj ok ((oZ _ _).trans (sL s)))
set_option tactic.hygienic true in
theorem IP(A:ct R [])(h0:0<R.length)(hn:R.length≤60):Bn R d:=by
 have hc:(bB R []).length=R.length:=bA;obtain⟨e1,I,t⟩:=BR (d:=d) A h0;rename_i s;obtain⟨p,q⟩:=s;cases q with
 |cons _ _=>exact nomatch t
 |nil=>
  have I:L1 (bB R []) p []:=I;obtain⟨S,P,up,so⟩:=zA (aK p▸I.nd) (aF (aa (I.len) (hc▸hn)) (by decide));have lS:S.length≤60:=P.length_eq▸aa (I.len) (hc▸hn);obtain⟨e2,J',t'⟩:=wJ (test:=fun ρ=>bc (aY (callF tab (d+1)) (.u (.h .lt (.c 8) (.un .len (.c 4)))) ρ) da) (t:=fun s=>!s.2.isEmpty) (fun s Z=>wZ s) (xS (d:=d) A hn (x5:=nO p.length)) lim ([],S) (show L2 (bB R []) [] S from⟨up,fun s m=>I.rc s (bE _ (P.mem_iff.1 m)),fun z h n=>absurd (P.mem_iff.2 (I.all h)) n,(by intro _ h;cases h)⟩) (aF (bo (Nat.mul_le_mul_right 61 lS) lS) (by decide));rename_i s;obtain⟨S',q⟩:=s;cases q with
  |cons _ _=>exact nomatch t'
  |nil=>
   have J':L2 (bB R []) S' []:=J'
   have sv:aY (callF tab (d+1)) (.Ka (.un .JW (.c 4))) (sW R (oO p) (nO p.length) none none none none none)=ok (cW S):=
    bq (d7 rfl so) (bq (a:=S.map nv) rfl (by rw[show(S.map nv).all (gB 20)=true from all_map (fun Z=>rfl) S];rfl))
   exact⟨J'.nf A.T (hc.symm▸h0),fR rfl rfl rfl (ax (eG nofun rfl) (ax (zz A.ok A.len) (ax (iP nofun rfl) (ax (eG nofun rfl) (ax (bX rfl) (ax (e1.trans (aj (fun l=>ok (Flow.nxt,sW R (oO l) (nO p.length) none none none none none)) (aK p))) (ax (eG nofun sv) (ax (bX rfl) (ax (Cg (e2.trans (aj (fun l=>ok (Flow.nxt,sW R (oO l) (nO p.length) none none (nO S'.length) none none)) (aK S')))) (ax (eG nofun rfl) (ax (iP nofun rfl) (ax (Ck (d:=d) A J' (x5:=nO p.length) (x8:=nO S'.length) (show S'.length≤lim from aa (hJ _ _ ((aK S'▸J'.so:Bt S').imp cG) fun s m=>(J'.rc s (bE _ m)).lt) (hc▸aa hn (by decide)))) (ax (iP nofun rfl) (cX rfl))))))))))))))⟩
end
section
variable{F:FT}{d n i j k b:Nat}{ρ:Env}{c:CE}{s t:CS}{io:List Nat}
structure UR where
 op:Int
 arg:Arg
 Jw:Nat
 deep:Int
 pre:Nat
noncomputable def UR.v(u:UR):V:=.Js [.int u.op,u.arg.v,nv u.Jw,.int u.deep]
noncomputable abbrev eN(u:List UR):V:=.Jq (u.map UR.v)
noncomputable abbrev UR.row(u:UR):aU:=⟨u.op,u.arg⟩
noncomputable def nxt(e:Bool)(a:Nat):List UR→Bool
 | []=>e&&Nat.beq a 0
 |n::_=>Nat.beq n.pre a
noncomputable def into(e:Bool)(a:Nat)(rest:List UR):Arg→Bool
 |.num (.ofNat (x+1))=>nxt e a (rest.drop x)&&Nat.ble x rest.length
 |_=>false
noncomputable def pO:Arg→Bool
 |.num _=>true
 |_=>false
noncomputable def jt(op:Int):Arg→Bool
 |.num _=>decide (op∈fH)
 |.me k=>(op==40||op==111)&&(Nat.ble 1 k&&Nat.ble k 4)
 |_=>false
noncomputable def Ei(e:Bool)(u:UR)(rest:List UR)(a:Nat):Nat→Bool
 |0=>jt u.op u.arg
 |1=>oG u.op&&pO u.arg&&Nat.beq a 0
 |2=>oG u.op&&into e a rest u.arg
 |3=>u.op==69&&pO u.arg&&Nat.beq a 0
 |_=>false
noncomputable def CL(e:Bool)(b:Nat)(u:UR)(rest:List UR):Bool:=cond (Nat.ble (tg b u.row).1 u.pre)
 (u.deep==(max u.pre (fQ b u.row u.pre):Nat)&&((ends u.op||nxt e (fQ b u.row u.pre) rest)&&Ei e u rest (fQ b u.row u.pre) u.Jw))
 (u.deep==-1&&(Nat.beq u.Jw 0&&jt u.op u.arg))
noncomputable def wf(e:Bool)(b:Nat):List UR→Bool
 | []=>true
 |u::rest=>CL e b u rest&&wf e b rest
noncomputable def GU(b ins:Nat):List UR→Bool
 | []=>false
 |u::rest=>Nat.beq u.pre ins&&((Nat.beq ins 0||(Nat.ble 1 (tg b u.row).1&&Nat.beq u.Jw 0))&&wf true b (u::rest))
structure py(b ins:Nat)(u:List UR):Prop where
 ck:GU b ins u=true
 len:u.length≤7
inductive gE(b:Nat):R (Flow×Env)→Prop
 |mk {u:List UR} {ρ:Env}:py b 0 u→gE b (ok (.ret (eN u),ρ))
inductive lQ(b:Nat):R (V×List V)→Prop
 |mk {u:List UR}:py b 0 u→lQ b (ok (eN u,[]))
theorem gE.fn{f:Nat}{fn:Fn}{args:List V}(hf:tab[f]? =some fn)(hl:args.length=fn.Jy)(hi:fn.io=[])(h:gE b (bJ (callF tab d) fn.io fn.body (gp fn args))):lQ b (callF tab (d+1) f args):=by
 generalize hz:bJ (callF tab d) fn.io fn.body (gp fn args)=z at h;cases h with
 |mk o=>rw[fR hf hl hi hz];exact⟨o⟩
theorem gE.eq{u:List UR}{ρ1:Env}{z:R (Flow×Env)}(h:z=ok (.ret (eN u),ρ1))(o:py b 0 u):gE b z:=by rw[h];exact⟨o⟩
theorem gE.of{e:CE}{u:List UR}(h:aY F e ρ=ok (eN u))(o:py b 0 u):gE b (bJ F io (.ret e) ρ):=by rw[cX (io:=io) h];exact⟨o⟩
theorem gE.call{e:CE}{f:Nat}{l:List V}(h:aY F e ρ=ok (.Js l))(o:lQ b (F f l)):gE b (bJ F io (.ret (.call f e)) ρ):=by
 generalize hz:F f l=z at o;cases o with
 |mk o=>exact .of (bj h hz) o
theorem gE.seq{x:V}{p:Bool}(h:aY F c ρ=ok x)(hx:tr x=some p)(h1:p=true→gE b (bJ F io s ρ))(h2:p=false→gE b (bJ F io t ρ)):gE b (bJ F io (.seq (.p c s .k) t) ρ):=by
 cases p with
 |false=>rw[ax (eH h hx rfl) rfl];exact h2 rfl
 |true=>
  have h1:=h1 rfl;generalize hz:bJ F io s ρ=z at h1;cases h1 with
  |mk o=>rw[ia (gu h hx hz)];exact⟨o⟩
noncomputable def num(deep:Int)(pre:Nat):UR:=⟨32,.num 0,0,deep,pre⟩
noncomputable def qJ(b:Nat):List UR:=cond (Nat.beq b 0) [⟨42,.num 0,0,0,0⟩] [num 1 0,⟨42,.num 0,0,1,1⟩]
theorem xF{P:Nat→Prop}(h0:P 0)(h1:P 1)(hb:b<2):P b:=by
 cases b with
 |zero=>exact h0
 |succ b=>cases b with
  |zero=>exact h1
  |succ b=>exact absurd (Nat.le_of_succ_le_succ (Nat.le_of_succ_le_succ hb)) (Nat.not_succ_le_zero b)
theorem HI(hb:b<2):callF tab (d+1) 32 [nv b]=ok (eN (qJ b),[])∧py b 0 (qJ b):=
 xF (P:=fun b=>callF tab (d+1) 32 [nv b]=ok (eN (qJ b),[])∧py b 0 (qJ b)) ⟨rfl,rfl,ae rfl⟩ ⟨rfl,rfl,ae rfl⟩ hb
noncomputable def tM:UR:=⟨38,.num 0,0,1,1⟩
theorem ta(t:Int)(n:Nat)(h:0<n):t%(n:Int)∈(List.range n).map Int.ofNat:=by
 have p:(n:Int)≠0:=fun e=>Nat.ne_of_gt h (aX e);refine aP.2 ⟨(t%(n:Int)).toNat,bP.2 ?_,Int.toNat_of_nonneg (Int.emod_nonneg t p)⟩;exact(Int.toNat_lt (Int.emod_nonneg t p)).2 (Int.emod_lt_of_pos t (Int.natCast_pos.2 h))
noncomputable def oA(t:Int):Int:=if t/4%2=0 then 40 else 111
theorem rM(t:Int):eP .item (.Js [.int 40,.int 111]) (.int (t/4%2))=ok (.int (oA t)):=
 dP (l:=[0,1]) (p:=fun a=>eP .item (.Js [.int 40,.int 111]) (.int a)=ok (.int (if a=0 then 40 else 111))) ⟨rfl,rfl,trivial⟩ (ta (t/4) 2 (a8 _))
theorem sY(t:Int):oA t=40∨oA t=111:=by unfold oA;split<;>first | exact .inl rfl | exact .inr rfl
theorem Jg(t:Int):lQ b (callF tab (d+1) 33 [.int t]):=by
 have two:=sY t;have item:=rM t;generalize oA t=op at two item;have md {a:Int} (h:t%4=a):eP .fmod (.int t) (.int 4)=ok (.int a):=h▸rfl;have uk {u:Int→List UR} (h:∀op:Int,op=40∨op=111→GU b 0 (u op)=true∧Nat.ble (u op).length 7=true):py b 0 (u op):=⟨(h op two).1,ae (h op two).2⟩;refine dP (l:=[0,1,2,3]) (p:=fun a=>t%4=a→lQ b (callF tab (d+1) 33 [.int t])) ⟨fun h=>?_,fun h=>?_,fun h=>?_,fun h=>?_,trivial⟩ (ta t 4 (a8 _)) rfl
 ·exact gE.fn rfl rfl rfl (gE.eq (ax (qN (aD rfl (aD rfl rfl (md h)) rfl) rfl) (ax (eG nofun rfl) (ax (fj rfl (gT (a6 (aD rfl rfl item) (a6 (gT (a6 rfl (a6 (aD rfl (aD rfl rfl (md h)) rfl) rfl))) rfl))) (ae rfl)) (ax (gu rfl rfl (fj rfl rfl (ae rfl))) (ax (iP nofun rfl) (cX rfl)))))) (uk (u:=fun op=>[⟨op,.me 1,0,1,0⟩,tM]) fun op h=>by rcases h with rfl | rfl<;>exact⟨rfl,rfl⟩))
 ·exact gE.fn rfl rfl rfl (gE.eq (ax (qN (aD rfl (aD rfl rfl (md h)) rfl) rfl) (ax (eG nofun rfl) (ax (fj rfl (gT (a6 (aD rfl rfl item) (a6 (gT (a6 rfl (a6 (aD rfl (aD rfl rfl (md h)) rfl) rfl))) rfl))) (ae rfl)) (ax (eH rfl rfl rfl) (ax (iP nofun rfl) (cX rfl)))))) (uk (u:=fun op=>[num 1 0,num 2 1,⟨op,.me 2,0,2,2⟩]) fun op h=>by rcases h with rfl | rfl<;>exact⟨rfl,rfl⟩))
 ·exact gE.fn rfl rfl rfl (gE.eq (ax (qN (aD rfl (aD rfl rfl (md h)) rfl) rfl) (ax (eG nofun rfl) (ax (fj rfl (gT (a6 (aD rfl rfl item) (a6 (gT (a6 rfl (a6 (aD rfl (aD rfl rfl (md h)) rfl) rfl))) rfl))) (ae rfl)) (ax (gu rfl rfl (fj rfl rfl (ae rfl))) (ax (iP nofun rfl) (cX rfl)))))) (uk (u:=fun op=>[num 1 0,num 2 1,⟨op,.me 3,0,2,2⟩,tM]) fun op h=>by rcases h with rfl | rfl<;>exact⟨rfl,rfl⟩))
 ·exact gE.fn rfl rfl rfl (gE.eq (ax (qN (aD rfl (aD rfl rfl (md h)) rfl) rfl) (ax (eG nofun rfl) (ax (fj rfl (gT (a6 (aD rfl rfl item) (a6 (gT (a6 rfl (a6 (aD rfl (aD rfl rfl (md h)) rfl) rfl))) rfl))) (ae rfl)) (ax (eH rfl rfl rfl) (ax (iP nofun rfl) (cX rfl)))))) (uk (u:=fun op=>[num 1 0,⟨op,.me 4,0,1,1⟩]) fun op h=>by rcases h with rfl | rfl<;>exact⟨rfl,rfl⟩))
theorem I7(t:Int):lQ b (callF tab (d+1) 34 [.int t]):=
 gE.fn rfl rfl rfl (.seq (p:=decide (t%4=0)) rfl rfl (fun Z=>.of (u:=[⟨220,.num 0,0,0,0⟩]) rfl ⟨rfl,ae rfl⟩) fun Z=>
  .seq (p:=decide (t%4=1)) rfl rfl (fun Z=>.of (u:=[num 1 0,⟨65041,.num 0,0,1,1⟩]) rfl ⟨rfl,ae rfl⟩) fun Z=>
  .seq (p:=decide (t%4=2)) rfl rfl (fun Z=>.of (u:=[⟨65050,.num 0,0,0,0⟩]) rfl ⟨rfl,ae rfl⟩) fun Z=>
  .of (u:=[⟨38,.num 0,0,-1,0⟩]) rfl ⟨rfl,ae rfl⟩)
noncomputable def C5(t:Int):Int→List UR:=fun o=>[num 1 0,⟨57+o,.num t,1,1,1⟩]
noncomputable def xE(t:Int):Int→List UR:=fun o=>[num 1 0,num 2 1,⟨59+o,.num t,1,2,2⟩]
theorem z3(t:Int){o:Int}(h:o∈(List.range 2).map Int.ofNat):py b 0 (C5 t o):=dP (l:=[0,1]) (p:=fun o=>py b 0 (C5 t o)) ⟨⟨rfl,ae rfl⟩,⟨rfl,ae rfl⟩,trivial⟩ h
theorem xg(t:Int){o:Int}(h:o∈(List.range 10).map Int.ofNat):py b 0 (xE t o):=
 ⟨dP (l:=[0,1,2,3,4,5,6,7,8,9]) (p:=fun o=>GU b 0 (xE t o)=true) (by repeat' (first | exact trivial | refine⟨rfl,?_⟩)) h,ae rfl⟩
theorem gE.KL{ρ1:Env}(h:bJ F io s ρ=ok (.nxt,ρ1))(k:gE b (bJ F io t ρ1)):gE b (bJ F io (.seq s t) ρ):=by rw[ax h rfl];exact k
theorem Im(v:Int)(hb:b<2):lQ b (callF tab (d+2) 35 [.int v,nv b]):=by
 have h32:lQ b (callF tab (d+1) 32 [nv b]):=by obtain⟨e,o⟩:=HI (d:=d) hb;rw[e];exact⟨o⟩
 exact gE.fn rfl rfl rfl (.KL (bX rfl) (.KL (bX rfl) (.KL (bX rfl) (
  .seq (p:=decide (v%14<3)) rfl rfl (fun Z=>.of (u:=[⟨56,.num (v/14),1,0,0⟩]) rfl ⟨rfl,ae rfl⟩) fun Z=>
  .seq (p:=decide (v%14=3)) rfl rfl (fun Z=>.of (u:=[⟨0,.num 0,0,0,0⟩]) rfl ⟨rfl,ae rfl⟩) fun Z=>
  .seq (p:=decide (v%14=4)) rfl rfl (fun Z=>.of (u:=C5 (v/14) (v/14/7%2)) rfl (z3 _ (ta _ 2 (a8 _)))) fun Z=>
  .seq (p:=decide (v%14=5)) rfl rfl (fun Z=>.of (u:=xE (v/14) (v/14/7%10)) rfl (xg _ (ta _ 10 (a8 _)))) fun Z=>
  .seq (p:=decide (v%14=6)) rfl rfl (fun Z=>.of (u:=[num 1 0,⟨69,.num (v/14),3,1,1⟩]) rfl ⟨rfl,ae rfl⟩) fun Z=>
  .seq (p:=decide (v%14=7)) rfl rfl (fun Z=>.of (u:=[num 1 0,tM]) rfl ⟨rfl,ae rfl⟩) fun Z=>
  .seq (p:=decide (v%14=8)) rfl rfl (fun Z=>.call rfl (Jg (v/14))) fun Z=>
  .seq (p:=decide (v%14=9)) rfl rfl (fun Z=>.call rfl h32) fun Z=>
  .seq (p:=decide (v%14=10)) rfl rfl (fun Z=>.of (u:=[⟨20,.num 0,0,1,0⟩,⟨122,.num 0,0,1,1⟩]) rfl ⟨rfl,ae rfl⟩) fun Z=>
  .seq (p:=decide (v%14=11)) rfl rfl (fun Z=>.of (u:=[⟨221,.num (v/14),1,0,0⟩]) rfl ⟨rfl,ae rfl⟩) fun Z=>
  .seq (p:=decide (v%14=12)) rfl rfl (fun Z=>.call rfl (I7 (v/14))) fun Z=>
  .of (u:=[num 1 0,⟨58,.num 3,2,1,1⟩,num 1 0,⟨56,.num 2,2,1,1⟩,num 1 0,⟨56,.num 1,2,1,1⟩,tM]) rfl ⟨rfl,ae rfl⟩))))
end
section
variable{F:FT}{d n i j k b m0:Nat}{ρ:Env}{c:CE}{s t:CS}{io:List Nat}{us:List (List UR)}{ins:List Nat}{cl:List Cl}{m:Option Nat}{z:Int}
noncomputable def wF(us:List (List UR))(ins:List Nat)(cl:List Cl)(m:Option Nat):List (Nat×V):=(100,.Jq (us.map eN))::(101,cW ins)::(102,bF cl)::(match m with
 |none=>[]
 |some m=>[(103,nv m)])
noncomputable abbrev wO(us:List (List UR))(ins:List Nat)(cl:List Cl)(m:Option Nat):V:=.obj 0 (wF us ins cl m)
theorem tY{e:CE}{u:List UR}(h:jY ρ i=ok (wO us ins cl m))(he:aY F e ρ=ok (eN u))(hl:us.length≤lim):bJ F io (.JH i 100 e) ρ=ok (.nxt,fq ρ i (wO (us++[u]) ins cl m)):=by
 rw[show wO (us++[u]) ins cl m=.obj 0 (gd 100 (.Jq (us.map eN++[eN u])) (wF us ins cl m)) by show V.obj 0 ((100,.Jq ((us++[u]).map eN))::_)=_;rw[aw];rfl];exact bq h (bq rfl (cY ⟨fun Z=>aM _,fun Z=>rfl⟩ (bq (a:=.Jq (us.map eN)) rfl (bq rfl (bq he (cY (by rw[af];exact hl) rfl))))))
theorem Cb{e:CE}(h:jY ρ i=ok (wO us ins cl m))(he:aY F e ρ=ok (nv k))(hl:ins.length≤lim):bJ F io (.JH i 101 e) ρ=ok (.nxt,fq ρ i (wO us (ins++[k]) cl m)):=by
 rw[show wO us (ins++[k]) cl m=.obj 0 (gd 101 (.Jq (ins.map nv++[nv k])) (wF us ins cl m)) by show V.obj 0 (_::(101,.Jq ((ins++[k]).map nv))::_)=_;rw[aw];rfl];exact bq h (bq rfl (cY ⟨fun Z=>d8 _,fun Z=>rfl⟩ (bq (a:=cW ins) rfl (bq rfl (bq he (cY (by rw[af];exact hl) rfl))))))
theorem G4{e:CE}{a:Cl}(h:jY ρ i=ok (wO us ins cl m))(he:aY F e ρ=ok a.v)(hl:cl.length≤lim):bJ F io (.JH i 102 e) ρ=ok (.nxt,fq ρ i (wO us ins (cl++[a]) m)):=by
 rw[show wO us ins (cl++[a]) m=.obj 0 (gd 102 (.Jq (cl.map Cl.v++[a.v])) (wF us ins cl m)) by show V.obj 0 (_::_::(102,.Jq ((cl++[a]).map Cl.v))::_)=_;rw[aw];rfl];exact bq h (bq rfl (cY ⟨fun Z=>ae rfl,fun Z=>rfl⟩ (bq (a:=bF cl) rfl (bq rfl (bq he (cY (by rw[af];exact hl) rfl))))))
theorem Gj{e:CE}{l:List Nat}(h:jY ρ i=ok (wO us ins cl m))(he:aY F e ρ=ok (cW l)):bJ F io (.JZ i 101 e) ρ=ok (.nxt,fq ρ i (wO us l cl m)):=
 bq he (bq (a:=l.map nv) rfl (bq (bq h (bq rfl (cY ⟨fun Z=>d8 _,fun Z=>rfl⟩ rfl))) rfl))
theorem oF{e:CE}(h:aY F e ρ=ok (wO us ins cl m)):aY F (.un .len (.un (.key 100) e)) ρ=ok (nv us.length):=d7 (d7 h rfl) (a7 _ _)
noncomputable def IR(t:Int):List UR:=[⟨221,.num t,1,0,0⟩]
noncomputable def IW:List UR:=[⟨220,.num 0,0,0,0⟩]
noncomputable def j7(z:Int):Nat:=if z/17%11=10 then 0 else if z/17%5=4 then 2 else 3
theorem wI:j7 z≤3:=by unfold j7;split;exact aQ _;split<;>exact ae rfl
noncomputable def hS(s:Nat)(z:Int):List UR:=if s<2 then IR (z/13)else IW
noncomputable def hE(us:List (List UR))(ins:List Nat)(cl:List Cl)(m:Option Nat)(z:Int)(s b f:Nat)(x5:Option (Bool×V))(x6 x7:Option (Bool×V)):Env:=[some (true,wO us ins cl m),some (false,.int z),nO s,nO b,nO f,x5,x6,x7]
inductive Tl(d b:Nat)(us:List (List UR))(ins:List Nat)(cl:List Cl)(m:Option Nat)(z:Int)(s f g:Nat)(x5:Option (Bool×V)):Prop
 |mk {u:List UR}:py b 0 u→bJ (callF tab (d+2)) [0] dy.tl.tl.tl.tl (hE us ins cl m z s b f x5 (nO g) none)=ok (.ret (.Js [nv f,nv g,nv (g+j7 z)]),hE (us++[u,hS s z]) (ins++[0,0]) cl m z s b f x5 (nO g) (nO (j7 z)))→Tl d b us ins cl m z s f g x5
theorem BK{s0 f g:Nat}{x5:Option (Bool×V)}(hb:b<2)(hu:us.length≤100)(hi:ins.length≤100):Tl d b us ins cl m z s0 f g x5:=by
 have h35:=Im (d:=d) (z/11) hb;generalize hz:callF tab (d+2) 35 [.int (z/11),nv b]=q at h35;cases h35 with
 | @mk u o=>
 refine⟨o,?_⟩;have e1:bJ (callF tab (d+2)) [0] dy.tl.tl.tl.tl.hd (hE us ins cl m z s0 b f x5 (nO g) none)=ok (.nxt,hE (us++[u]) ins cl m z s0 b f x5 (nO g) none):=tY rfl (bj rfl hz) (aa hu (ae rfl))
 have e2:bJ (callF tab (d+2)) [0] dy.tl.tl.tl.tl.tl.hd (hE (us++[u]) ins cl m z s0 b f x5 (nO g) none)=ok (.nxt,hE (us++[u,hS s0 z]) ins cl m z s0 b f x5 (nO g) none):=by
  rw[show us++[u,hS s0 z]=(us++[u])++[hS s0 z]from(aJ us [u] [_]).symm];refine tY rfl (jZ (b:=decide (s0<2)) (v:=.bool (decide (s0<2))) (aD rfl rfl (aj (fun b=>ok (V.bool b)) (oZ s0 2))) rfl ?_) (by rw[ai];exact aa (bk hu 1) (ae rfl));unfold hS;by_cases h:s0<2
  ·rw[ak h,aB h];rfl
  ·rw[ao h,aC h];rfl
 have e3:bJ (callF tab (d+2)) [0] dy.tl.tl.tl.tl.tl.tl.hd (hE (us++[u,hS s0 z]) ins cl m z s0 b f x5 (nO g) none)=ok (.nxt,hE (us++[u,hS s0 z]) (ins++[0,0]) cl m z s0 b f x5 (nO g) none):=by
  refine Gj rfl (bq (a:=cW (ins++[0,0])) (qP (d7 rfl rfl) rfl (by rw[ai];exact aa (bk hi 2) (ae rfl))) (bq (a:=(ins++[0,0]).map nv) rfl ?_));have hh:((ins++[0,0]).map nv).all (gB 20)=true:=all_map (fun Z=>rfl) (ins++[0,0]);rw[hh];rfl
 refine ax e1 (ax e2 (ax e3 (ax (bX rfl) (ax (ρ1:=hE (us++[u,hS s0 z]) (ins++[0,0]) cl m z s0 b f x5 (nO g) (nO (j7 z))) ?_ (cX rfl)))));unfold j7;by_cases h:z/17%11=10
 ·rw[aB h];exact eK rfl rfl (ak h) rfl
 ·rw[aC h];refine cU rfl rfl (ao h) ?_
  by_cases h:z/17%5=4
  ·rw[aB h];exact eK rfl rfl (ak h) rfl
  ·rw[aC h];exact cU rfl rfl (ao h) rfl
end
section
variable{F:FT}{d n i j k b a:Nat}{ρ:Env}{us:List (List UR)}{ins:List Nat}{cl:List Cl}{m:Option Nat}{z:Int}{e e':Bool}{u:UR}{rest B W:List UR}
noncomputable def pd(e:Bool):List UR→Prop
 | []=>False
 |h::_=>e=true→h.pre=0
theorem uA(h:pd e' B)(q:nxt e' a rest=true):nxt e a (rest++B)=true:=by
 cases rest with
 |cons _ _=>exact q
 |nil=>cases B with
  |nil=>exact h.elim
  |cons x B=>
   obtain⟨p,q⟩:=am.1 q;show Nat.beq x.pre a=true;rw[h p,bI q];rfl
theorem yo(h:pd e' B):∀{x:Arg},into e' a rest x=true→into e a (rest++B) x=true
 |.num (.ofNat (x+1)),q=>by
  obtain⟨p,q⟩:=am.1 (show(nxt e' a (rest.drop x)&&Nat.ble x rest.length)=true from q);refine am.2 ⟨?_,Nat.ble_eq_true_of_le (by rw[ai];exact Nat.le_add_right_of_le (ae q))⟩;rw[List.drop_append_of_le_length (ae q)];exact uA h p
 |.num (.ofNat 0),q=>(by cases q)
 |.num (.negSucc _),q=>(by cases q)
 |.go _,q=>(by cases q)
 |.sw _,q=>(by cases q)
 |.me _,q=>(by cases q)
theorem Aw(h:pd e' B):∀{f:Nat},Ei e' u rest a f=true→Ei e u (rest++B) a f=true
 |0,q=>q
 |1,q=>q
 |2,q=>have q:=am.1 q;am.2 ⟨q.1,yo h q.2⟩
 |3,q=>q
theorem zl(h:pd e' B)(q:CL e' b u rest=true):CL e b u (rest++B)=true:=by
 unfold CL at q ⊢;cases t:Nat.ble (tg b u.row).1 u.pre with
 |false=>rw[t]at q;exact q
 |true=>
  rw[t]at q;obtain⟨q1,q⟩:=am.1 q;exact am.2 ⟨q1,am.2 ⟨dN.2 ((dN.1 (am.1 q).1).imp id (uA h)),Aw h (am.1 q).2⟩⟩
theorem uU(h:pd e' B)(hB:wf e b B=true):∀{W:List UR},wf e' b W=true→wf e b (W++B)=true
 | [],_=>hB
 |_::_,q=>have q:=am.1 q;am.2 ⟨zl h q.1,uU h hB q.2⟩
structure jX(e:Bool)(b:Nat)(us:List (List UR))(ins:List Nat):Prop where
 len:ins.length=us.length
 ck:wf e b us.flatten=true
 each:∀(j i:Nat)(u:List UR),us[j]? =some u→ins[j]? =some i→GU b i u=true
theorem py.head{u:List UR}(o:py b i u)(h:e'=true→i=0):pd e' u:=by
 cases u with
 |nil=>exact nomatch (o.ck)
 |cons x u=>exact fun q=>(bI (am.1 (o.ck)).1).trans (h q)
theorem py.open{u:List UR}(o:py b i u):wf true b u=true:=by
 cases u with
 |nil=>exact nomatch (o.ck)
 |cons x u=>exact(am.1 (am.1 (o.ck)).2).2
theorem rx{α:Type}{l:List α}{x y:α}(h:(l++[x])[j]? =some y):l[j]? =some y∨(j=l.length∧y=x):=by
 rcases Nat.lt_or_ge j l.length with g|g
 ·rw[List.getElem?_append_left g]at h;exact .inl h
 ·rw[b8 g]at h;have l':=(ag.1 h).1;rw[(Nat.lt_one_iff.1 l')]at h;exact .inr ⟨cL (Nat.sub_eq_zero_iff_le.1 (Nat.lt_one_iff.1 l')) g,(ah h).symm⟩
theorem jX.snoc{u:List UR}(U:jX e' b us ins)(o:py b i u)(c:wf e b u=true)(h:e'=true→i=0):jX e b (us++[u]) (ins++[i]):=by
 refine⟨by rw[ai,ai,U.len];rfl,?_,fun j k v h1 h2=>?_⟩
 ·rw[dO];exact uU (by rw[List.flatten_singleton];exact o.head h) (by rw[List.flatten_singleton];exact c) U.ck
 ·rcases rx h1 with h1|⟨e1,rfl⟩<;>rcases rx h2 with h2|⟨e2,rfl⟩
  ·exact U.each j k v h1 h2
  ·exact absurd (ag.1 h1).1 (by rw[e2,U.len];exact aZ _)
  ·exact absurd (ag.1 h2).1 (by rw[e1,U.len];exact aZ _)
  ·exact o.ck
end
section
variable{F:FT}{d n i j k b a s:Nat}{ρ:Env}{us us':List (List UR)}{ins ins':List Nat}{cl:List Cl}{m:Option Nat}{z:Int}{e e':Bool}{u:UR}{x5:Option (Bool×V)}
noncomputable def fU(z:Int):List UR:=if z/23%2=0 then [tM,num 1 0,⟨65041,.num 0,0,1,1⟩]else [⟨122,.num 0,0,1,1⟩,⟨65041,.num 0,0,1,1⟩]
noncomputable def qT(s:Nat)(z:Int):List UR:=if s<2 then [tM]else if z/19%3=2 then [⟨56,.num 1,2,0,0⟩]else [⟨0,.num 0,0,0,0⟩]
noncomputable def yS(s:Nat):Nat:=if s<2 then 1 else 0
theorem A8:py b 1 (fU z)∧wf false b (fU z)=true:=by unfold fU;split<;>exact⟨⟨rfl,ae rfl⟩,rfl⟩
theorem Ao:py b (yS s) (qT s z):=by
 unfold yS qT;split
 ·exact⟨rfl,ae rfl⟩
 ·split<;>exact⟨rfl,ae rfl⟩
theorem r8:py b 0 (hS s z)∧wf false b (hS s z)=true:=by unfold hS;split<;>exact⟨⟨rfl,ae rfl⟩,rfl⟩
structure IE(w b:Nat)(us us':List (List UR))(ins ins':List Nat)(s f g:Nat):Prop where
 ok:jX false b us' ins'
 flat:us'.flatten.length≤us.flatten.length+w
 old:∀j i:Nat,ins[j]? =some i→ins'[j]? =some i
 up:us.length≤us'.length∧us'.length≤us.length+4
 top:g+3=us'.length
 beg:ins'[g]? =some (yS s)
 first:s=1→ins'[f]? =some 1
inductive Fi(d b:Nat)(us:List (List UR))(ins:List Nat)(cl:List Cl)(m:Option Nat)(z:Int)(s:Nat):Prop
 |mk {us' ins' f g}:callF tab (d+3) 36 [wO us ins cl m,.int z,nv s,nv b]=ok (.Js [nv f,nv g,nv (g+j7 z)],[wO us' ins' cl m])→IE 12 b us us' ins ins' s f g→Fi d b us ins cl m z s
theorem gV{α:Type}{l:List α}{x:α}{e:List α}(h:l[j]? =some x):(l++e)[j]? =some x:=(List.getElem?_append_left (ag.1 h).1).trans h
theorem eZ{u:List UR}:(us++[u]).flatten.length=us.flatten.length+u.length:=by rw[dO,ai,List.flatten_singleton]
theorem G6(hl:us.length≤99)(U:jX e' b us ins){f:Nat}:bJ F [0] dy.tl.tl.tl.hd (hE us ins cl m z s b f x5 (nO us.length) none)=ok (.nxt,hE (us++[qT s z]) (ins++[yS s]) cl m z s b f x5 (nO us.length) none):=by
 have l:=aa hl (ae rfl:99≤lim);have c:aY F (.h .lt (.c 2) (.f (.int 2))) (hE us ins cl m z s b f x5 (nO us.length) none)=ok (.bool (decide (s<2))):=aD rfl rfl (aj (fun b=>ok (V.bool b)) (oZ s 2));unfold qT yS;by_cases h:s<2
 ·rw[aB h,aB h];exact eK c rfl (ak h) (ax (tY (u:=[tM]) rfl rfl l) (Cb (k:=1) rfl rfl (U.len▸l)))
 ·rw[aC h,aC h];refine cU c rfl (ao h) (ax (tY (u:=if z/19%3=2 then [⟨56,.num 1,2,0,0⟩]else [⟨0,.num 0,0,0,0⟩]) rfl (jZ (b:=decide (z/19%3=2)) rfl rfl ?_) l) (Cb (k:=0) rfl rfl (U.len▸l)));by_cases h:z/19%3=2
  ·rw[ak h,aB h];rfl
  ·rw[ao h,aC h];rfl
inductive EC(d b:Nat)(us:List (List UR))(ins:List Nat)(cl:List Cl)(m:Option Nat)(z:Int)(s f:Nat)(x5:Option (Bool×V)):Prop
 |mk {us':List (List UR)} {ins':List Nat}:IE 9 b us us' ins ins' s f us.length→bJ (callF tab (d+2)) [0] dy.tl.tl (hE us ins cl m z s b f x5 none none)=ok (.ret (.Js [nv f,nv us.length,nv (us.length+j7 z)]),hE us' ins' cl m z s b f x5 (nO us.length) (nO (j7 z)))→EC d b us ins cl m z s f x5
set_option tactic.hygienic true in
theorem Bc{f:Nat}(hb:b<2)(hl:us.length≤99)(U:jX false b us ins)(hf:s=1→ins[f]? =some 1):EC d b us ins cl m z s f x5:=by
 have hi:ins.length≤99:=U.len▸hl;obtain⟨o,e⟩:=BK (d:=d) (us:=us++[qT s z]) (ins:=ins++[yS s]) (cl:=cl) (m:=m) (z:=z) (s0:=s) (f:=f) (g:=us.length) (x5:=x5) hb (by rw[ai];exact bk hl 1) (by rw[ai];exact bk hi 1);rename_i u;have o1:py b (yS s) (qT s z):=Ao;have U1:=U.snoc (e:=true) o1 o1.open nofun;have e1:us++[qT s z]++[u,hS s z]=us++[qT s z]++[u]++[hS s z]:=(aJ _ [u] [hS s z]).symm;have e2:ins++[yS s]++[0,0]=ins++[yS s]++[0]++[0]:=(aJ _ [0] [0]).symm;rw[e1,e2]at e;refine⟨⟨((U1.snoc (e:=true) o o.open fun Z=>rfl).snoc (r8 (s:=s) (z:=z)).1 r8.2 fun Z=>rfl),?_,fun j i h=>gV (gV (gV h)),?_,?_,gV (gV ?_),fun h=>gV (gV (gV (hf h)))⟩,ax (bX (dM (oF rfl) rfl)) (ax (G6 hl U) e)⟩
 ·rw[eZ,eZ,eZ,bO,bO];refine aR (bo (b:=1) (d:=8) ?_ (bo (b:=7) (d:=1) o.len ?_)) _
  ·unfold qT;split;exact aM _;split<;>exact aM _
  ·unfold hS;split<;>exact aM _
 ·rw[ai,ai,ai];exact⟨bD _ 3,d8 _⟩
 ·rw[ai,ai,ai];rfl
 ·rw[b8 (bu U.len),U.len,Nat.sub_self];rfl
theorem IU(hb:b<2)(hl:us.length≤98)(U:jX false b us ins):Fi d b us ins cl m z s:=by
 have hh:bJ (callF tab (d+2)) [0] dy.hd (gp ⟨4,8,[0],false,dy⟩ [wO us ins cl m,.int z,nv s,nv b])=ok (.nxt,hE us ins cl m z s b us.length none none none):=bX (dM (oF rfl) rfl);by_cases h:s=1
 ·have U1:=U.snoc (A8 (z:=z)).1 A8.2 nofun;have l1:(us++[fU z]).length≤99:=by rw[ai];exact bk hl 1
  have get:(ins++[1])[us.length]? =some 1:=by rw[b8 (bu U.len),U.len,Nat.sub_self];rfl
  obtain⟨H,e⟩:=Bc (d:=d) (cl:=cl) (m:=m) (z:=z) (s:=s) (f:=us.length) (x5:=some (false,.int (z/23%2))) hb l1 U1 fun Z=>get;have u1:=H.up.1;have t1:=H.top;rw[show(us++[fU z]).length=us.length+1 from ai]at u1 t1;refine⟨GX rfl rfl (ax hh (ax (eK rfl rfl (ak (aj Int.ofNat h)) (ax (bX rfl) (ax (tY (u:=fU z) rfl (jZ rfl rfl ?_) (aa hl (by decide))) (Cb (k:=1) rfl rfl (U.len▸aa hl (by decide)))))) e)) rfl,⟨H.ok,aa H.flat ?_,fun j i h=>H.old j i (gV h),⟨Nat.le_of_succ_le u1,t1▸aM _⟩,H.top,H.beg,H.first⟩⟩
  ·unfold fU;by_cases h0:z/23%2=0
   ·rw[aB h0,h0];rfl
   ·rw[aC h0,show(z/23%2 !=0)=true from bne_iff_ne.2 h0];rfl
  ·rw[eZ,bO];exact aR (bk (show(fU z).length≤3 by unfold fU;split<;>exact ae rfl) 9) _
 ·obtain⟨H,e⟩:=Bc (d:=d) (cl:=cl) (m:=m) (z:=z) (s:=s) (f:=us.length) (x5:=none) hb (cy hl) U fun q=>absurd q h;exact⟨GX rfl rfl (ax hh (ax (cU rfl rfl (ao fun e=>h (aX e)) rfl) e)) rfl,⟨H.ok,aa H.flat (aR (ae rfl) _),H.old,H.up,H.top,H.beg,H.first⟩⟩
end
section
variable{β σ:Type}
inductive pN(E:σ→Env)(I:σ→Prop)(r:R (Flow×Env)):Prop
 |mk {s:σ}:r=ok (.nxt,E s)→I s→pN E I r
theorem ut{enc:β→V}{step:V→Env→R (Flow×Env)}(E:σ→Env)(I:Nat→σ→Prop){L:List β}(h:∀k s x,L[k]? =some x→I k s→pN E (I (k+1)) (step (enc x) (E s))):∀(l p:List β)(s:σ),L=p++l→I p.length s→pN E (I L.length) (fT step (l.map enc) (E s))
 | [],p,s,e,i=>⟨rfl,by rw[e,aK];exact i⟩
 |x::l,p,s,e,i=>by
  obtain⟨q,i'⟩:=h p.length s x (e▸jf) i;obtain⟨q',i'⟩:=ut E I h l (p++[x]) _ (by rw[e,aJ];rfl) (by rw[ai];exact i');exact⟨bq q q',i'⟩
variable{F:FT}{d n i j k b a s c mains:Nat}{ρ:Env}{us:List (List UR)}{ins:List Nat}{cl:List Cl}{m:Option Nat}{z q:Int}{u:List UR}
theorem wx{e:CE}(h:aY F e ρ=ok (wO (us++[u]) ins cl m)):aY F (.un .len (.h .item (.un (.key 100) e) (.f (.int (-1))))) ρ=ok (nv u.length):=by
 refine d7 (aD (d7 h rfl) rfl ?_) (a7 UR.v u);show idx ((us++[u]).map eN) (-1)=_;rw[aw];unfold idx;rw[show o7 (us.map eN++[u].map eN).length (-1)=_ from nR _ _];show ft ((us.map eN++[eN u])[(us.map eN).length]?)=_;rw[b8 (aM _),Nat.sub_self];rfl
noncomputable def xe(ns q b c:V)(us:List (List UR))(ins:List Nat)(cl:List Cl)(m:Option Nat)(x5 x7:Option (Bool×V)):Env:=[some (false,ns),some (false,q),some (false,b),some (false,c),some (true,wO us ins cl m),x5,none,x7,none,none,none,none,none,none,none,none]
structure Mn(b k:Nat)(us:List (List UR)):Prop where
 ok:jX true b us (List.replicate us.length 0)
 flat:us.flatten.length≤16
 some:k=0∨0<us.length
 few:us.length≤k
theorem sM:List.replicate (us++[u]).length 0=List.replicate us.length 0++[0]:=by rw[ai];exact List.replicate_succ'
theorem CT{ns q0:V}{v:Int}(hb:b<2)(hc:c≤2)(hk:k<10)(M:Mn b k us):pN (fun us=>xe ns q0 (nv b) (nv c) us [] [] none (nO us.flatten.length) none) (Mn b (k+1)) (bc (ft (cS (.v 6) (.int v) (xe ns q0 (nv b) (nv c) us [] [] none (nO us.flatten.length) none))) (bJ (callF tab (d+2)) [] eR.tl.tl.tl.tl.hd.bd)):=by
 have e1:aY (callF tab (d+2)) (.h .lt (.c 5) (.h .sub (.f (.int 10)) (.h .mul (.f (.int 2)) (.c 3)))) ((xe ns q0 (nv b) (nv c) us [] [] none (nO us.flatten.length) none).set 6 (some (false,.int v)))=ok (.bool (decide (us.flatten.length<10 - 2*c))):=by
  have e2:eP .mul (.int 2) (nv c)=ok (.int (2*c)):=cY ⟨ae rfl,aF hc (ae rfl)⟩ rfl;refine aD rfl (aD rfl (aD rfl rfl e2) rfl) (aj (fun b=>ok (V.bool b)) (bZ.2 ?_));rw[show(10:Int) - 2*(c:Int)=((10 - 2*c:Nat):Int)from(Int.ofNat_sub (aa (bW 2 hc) (ae rfl))).symm];exact dT
 by_cases h:us.flatten.length<10 - 2*c
 ·have h35:=Im (d:=d) v hb;generalize hz:callF tab (d+2) 35 [.int v,nv b]=r at h35;cases h35 with
  | @mk u o=>
  refine .mk (s:=us++[u]) ?_ ⟨sM▸M.ok.snoc o o.open fun Z=>rfl,?_,.inr (by rw[ai];exact a8 _),by rw[ai];exact bQ M.few⟩
  ·show _=ok (Flow.nxt,xe ns q0 (nv b) (nv c) (us++[u]) [] [] none (nO (us++[u]).flatten.length) none);rw[eZ];exact ax (eK e1 rfl (ak h) (ax (tY rfl (bj rfl hz) (show us.length≤lim from aa M.few (aa (aE hk) (ae rfl)))) (ρ1:=(xe ns q0 (nv b) (nv c) (us++[u]) [] [] none (nO us.flatten.length) none).set 6 (some (false,.int v))) (bq rfl (bq (dM (wx rfl) rfl) rfl)))) rfl
  ·rw[eZ];exact bo (b:=9) (d:=7) (cz (aS h (Nat.sub_le _ _))) o.len
 ·exact⟨ax (cU e1 rfl (ao h) rfl) rfl,⟨M.ok,M.flat,.inr (M.some.elim (fun e=>absurd (by obtain rfl:=List.eq_nil_of_length_eq_zero (Nat.le_zero.1 (e▸M.few));exact Nat.sub_pos_of_lt (aF (bW 2 hc) (ae rfl))) h) id),cy M.few⟩⟩
end
section
variable{F:FT}{d n i j k b a s c M:Nat}{ρ:Env}{us us':List (List UR)}{ins ins':List Nat}{cl:List Cl}{m:Option Nat}{z q:Int}{u:List UR}{e:Bool}
structure vU(us:List (List UR))(ins:List Nat)(M:Nat)(c:Cl):Prop where
 t0:c.t0<M
 t1:c.t1≤M
 h0:c.h0<us.length
 h1:c.h1≤us.length
 beg:ins[c.h0]? =some (yS c.s)
 x:c.s=1→ins[c.x]? =some 1
structure Dr(e:Bool)(b k M:Nat)(us:List (List UR))(ins:List Nat)(cl:List Cl):Prop where
 ok:jX e b us ins
 flat:us.flatten.length≤18+12*k
 len:us.length≤11+4*k
 pos:0<M
 le:M≤us.length
 few:cl.length=k
 zero:ins[0]? =some 0
 each:∀c∈cl,vU us ins M c
theorem vU.mono{c:Cl}(h:vU us ins M c)(l:us.length≤us'.length)(o:∀j i:Nat,ins[j]? =some i→ins'[j]? =some i):vU us' ins' M c:=
 ⟨h.t0,h.t1,aS h.h0 l,aa h.h1 l,o _ _ h.beg,fun s=>o _ _ (h.x s)⟩
theorem qx(z:Int)(h:0<n):∃k,k<n∧z%(n:Int)=(k:Nat):=by
 obtain⟨k,m,e⟩:=aP.1 (ta z n h);exact⟨k,bP.1 m,e.symm⟩
theorem Jk{t:T}{f:Nat}{e:CE}{as:List (Option Nat×V)}{v:V}{o:List V}{io:List Nat}{ρ1 ρ2:Env}(h:yU F ρ e=Mine.ok as)(k:F f (as.map (·.2))=Mine.ok (v,o))(hb:qU as o ρ=some ρ1)(hs:cS t v ρ1=some ρ2):bJ F io (.Ki t f e) ρ=Mine.ok (.nxt,ρ2):=bq h (bq k (bq (a:=ρ1) (by rw[hb];rfl) (bq (a:=ρ2) (by rw[hs];rfl) rfl)))
theorem BF(z:Int)(h0:0<n)(h:n≤100):∃k,k<n∧eP .fmod (.int z) (nv n)=ok (nv k):=by
 obtain⟨k,l,e⟩:=qx z h0;exact⟨k,l,cY ⟨Int.natCast_pos.2 h0,Int.lt_of_le_of_lt (bC.2 h) (by decide)⟩ (aj (fun i=>ok (V.int i)) e)⟩
theorem Gb(z:Int):∃s:Nat,eP .item (.Js [.int 0,.int 1,.int 2,.int 4]) (.int (z%4))=ok (nv s):=
 dP (l:=[0,1,2,3]) (p:=fun a=>∃s:Nat,eP .item (.Js [.int 0,.int 1,.int 2,.int 4]) (.int a)=ok (nv s)) ⟨⟨0,rfl⟩,⟨1,rfl⟩,⟨2,rfl⟩,⟨4,rfl⟩,trivial⟩ (ta z 4 (a8 _))
noncomputable abbrev Iw:=List (List UR)×List Nat×List Cl
noncomputable def ES(ns:V)(q:Int)(b c M:Nat)(x5:Option (Bool×V))(s:Iw):Env:=xe ns (.int q) (nv b) (nv c) s.1 s.2.1 s.2.2 (some M) x5 (nO M)
noncomputable def Iu(ns:V)(q:Int)(b c M:Nat)(x5:Option (Bool×V))(us:List (List UR))(ins:List Nat)(cl:List Cl)(k:Nat)(z:Int)(t0 t1 s f g sz:Nat):Env:=[some (false,ns),some (false,.int q),nO b,nO c,some (true,wO us ins cl (some M)),x5,none,nO M,nO k,some (false,.int z),nO t0,nO t1,nO s,nO f,nO g,nO (g+sz)]
set_option tactic.hygienic true in
theorem zG{ns:V}{x5:Option (Bool×V)}(hb:b<2)(hk:k<2)(s:Iw)(D:Dr false b k M s.1 s.2.1 s.2.2):pN (ES ns q b c M x5) (fun s=>Dr false b (k+1) M s.1 s.2.1 s.2.2) (bc (ft (cS (.v 8) (nv k) (ES ns q b c M x5 s))) (bJ (callF tab (d+3)) [] eR.tl.tl.tl.tl.tl.tl.tl.tl.tl.hd.bd)):=by
 obtain⟨us,ins,cl⟩:=s;have D:Dr false b k M us ins cl:=D;have lu:us.length≤98:=aa D.len (aa (aR (bW 4 (aE hk)) 11) (ae rfl));have lM:M≤100:=aa D.le (aa lu (ae rfl));have em:eP .mul (.int 1009) (nv k)=ok (.int (1009*k)):=cY ⟨ae rfl,Nat.lt_trans hk (ae rfl)⟩ rfl;generalize hz:q/32+1009*(k:Int)=z;obtain⟨t0,l0,e0⟩:=BF z D.pos lM;obtain⟨t1,l1,e1⟩:=BF (z/7) (Nat.sub_pos_of_lt l0) (aa (Nat.sub_le _ _) lM);obtain⟨s,es⟩:=Gb (z/5);obtain⟨eh,H⟩:=IU (d:=d) (z:=z) (s:=s) (cl:=cl) (m:=some M) hb lu D.ok;rename_i us' ins' f g;have hs3:=wI (z:=z);generalize j7 z=sz at eh hs3;have le1:t0+1+t1≤M:=by have:=aR (Nat.succ_le_of_lt l1) t0;rw[Nat.add_sub_cancel' (aE l0)]at this;rw[bO,cv 1];exact this
 refine .mk (s:=(us',ins',cl++[⟨s,t0,t0+1+t1,g,g+sz,f⟩])) ?_ ⟨H.ok,?_,?_,D.pos,aa D.le H.up.1,by rw[ai,D.few];rfl,H.old 0 0 D.zero,fun c m=>?_⟩
 ·have sub:eP .sub (nv M) (nv t0)=ok (nv (M - t0)):=aj (fun i=>ok (V.int i)) (Int.ofNat_sub (aE l0)).symm;refine ax (bX (aD rfl (aD rfl rfl em) (aj (fun i=>ok (V.int i)) hz))) (ax (bX (aD rfl rfl e0)) (ax (bX (v:=nv (t0+1+t1)) (aD rfl (aD rfl (aD rfl rfl sub) e1) rfl)) (ax (bX (aD rfl rfl es)) (ax (ρ1:=Iu ns q b c M x5 us' ins' cl k z t0 (t0+1+t1) s f g sz) (Jk (as:=[(some 4,wO us ins cl (some M)),(none,.int z),(none,nv s),(none,nv b)]) rfl eh rfl rfl) (ax (ρ1:=Iu ns q b c M x5 us' ins' (cl++[⟨s,t0,t0+1+t1,g,g+sz,f⟩]) k z t0 (t0+1+t1) s f g sz) (G4 (a:=⟨s,t0,t0+1+t1,g,g+sz,f⟩) rfl rfl (by rw[D.few];exact aa (aE hk) (ae rfl))) rfl)))))
 ·refine aa H.flat ?_
  rw[Nat.mul_succ,←bO];exact bk D.flat 12
 ·refine aa H.up.2 ?_
  rw[Nat.mul_succ,←bO];exact bk D.len 4
 ·rcases a9.1 m with m|m
  ·exact(D.each c m).mono H.up.1 H.old
  ·obtain rfl:=aq.1 m;exact⟨l0,le1,H.top▸Nat.lt_add_of_pos_right (a8 _),H.top▸aR hs3 g,H.beg,H.first⟩
end
section
variable{F:FT}{d n i j k b a s c M:Nat}{ρ:Env}{us us':List (List UR)}{ins ins':List Nat}{cl:List Cl}{m:Option Nat}{z q:Int}{u:List UR}{e:Bool}
inductive Bg(d:Nat)(ns:List Int)(q:Int):Prop
 |mk {e:Bool} {b c M:Nat} {us:List (List UR)} {ins:List Nat} {cl:List Cl}:q%2=(b:Nat)→b<2→c≤2→callF tab (d+4) 37 [.Jq (ns.map .int),.int q]=ok (wO us ins cl (some M),[])→Dr e b c M us ins cl→Bg d ns q
theorem CP(z:Int):∃c:Nat,c≤2∧eP .item (.Js [.int 0,.int 0,.int 1,.int 2]) (.int (z%4))=ok (nv c):=
 dP (l:=[0,1,2,3]) (p:=fun a=>∃c:Nat,c≤2∧eP .item (.Js [.int 0,.int 0,.int 1,.int 2]) (.int a)=ok (nv c)) ⟨⟨0,aQ _,rfl⟩,⟨0,aQ _,rfl⟩,⟨1,d8 _,rfl⟩,⟨2,aM _,rfl⟩,trivial⟩ (ta z 4 (a8 _))
structure Mz(b c:Nat)(e:Bool)(us:List (List UR)):Prop where
 ok:jX e b us (List.replicate us.length 0)
 cl:c≠0→e=false
 flat:us.flatten.length≤18
 some:0<us.length
 few:us.length≤11
inductive Bp(d:Nat)(ns:V)(q:Int)(b c:Nat)(x5:Option (Bool×V))(us:List (List UR)):Prop
 |mk {e:Bool} {us':List (List UR)}:Mz b c e us'→bJ (callF tab (d+3)) [] eR.tl.tl.tl.tl.tl.hd (xe ns (.int q) (nv b) (nv c) us [] [] none x5 none)=ok (.nxt,xe ns (.int q) (nv b) (nv c) us' [] [] none x5 none)→Bp d ns q b c x5 us
theorem Cu{ns:V}{x5:Option (Bool×V)}(hb:b<2)(hk:k≤10)(h0:0<k)(N:Mn b k us):Bp d ns q b c x5 us:=by
 have hl:us.length≤10:=aa N.few hk;have hc:wf false b (qJ b)=true:=xF (P:=fun b=>wf false b (qJ b)=true) rfl rfl hb;have M':Mz b c false (us++[qJ b]):=⟨sM▸N.ok.snoc (HI (d:=d+2) hb).2 hc fun Z=>rfl,fun Z=>rfl,by rw[eZ];exact bo (b:=16) (d:=2) N.flat (xF (P:=fun b=>(qJ b).length≤2) (ae rfl) (ae rfl) hb),by rw[ai];exact a8 _,by rw[ai];exact bQ hl⟩;have ap:bJ (callF tab (d+3)) [] (.JH 4 100 (.call 32 (.cons (.c 2) .nil))) (xe ns (.int q) (nv b) (nv c) us [] [] none x5 none)=ok (.nxt,xe ns (.int q) (nv b) (nv c) (us++[qJ b]) [] [] none x5 none):=tY rfl (bj rfl (HI (d:=d+2) hb).1) (aa hl (by decide));by_cases h:c=0
 ·subst h;by_cases h:q/8%4=3
  ·exact⟨⟨N.ok,fun q=>absurd rfl q,aa N.flat (ae rfl),N.some.resolve_left (Nat.ne_of_gt h0),cy hl⟩,cU (mh rfl rfl rfl rfl) rfl (aj (!·) (ak h)) rfl⟩
  ·exact⟨M',eK (mh rfl rfl rfl rfl) rfl (aj (!·) (ao h)) ap⟩
 ·have t:tr (nv c)=some true:=aj some (bne_iff_ne.2 fun e=>h (aX e));exact⟨M',eK (Ee rfl t rfl) t rfl ap⟩
set_option tactic.hygienic true in
theorem Ja{ns:List Int}(h1:0<ns.length)(h2:ns.length≤10)(q:Int):Bg d ns q:=by
 obtain⟨b,hb,eb⟩:=qx q (n:=2) (a8 _);obtain⟨c,hc,ec⟩:=CP (q/2);have b0:jX true b [] (List.replicate ([]:List (List UR)).length 0):=⟨rfl,rfl,nofun⟩;obtain⟨l1,N⟩:=ut (enc:=V.int) (step:=fun v ρ=>bc (ft (cS (.v 6) v ρ)) (bJ (callF tab (d+3)) [] eR.tl.tl.tl.tl.hd.bd)) (fun us=>xe (.Jq (ns.map .int)) (.int q) (nv b) (nv c) us [] [] none (nO us.flatten.length) none) (Mn b) (fun k s x hk i=>CT (d:=d+1) (v:=x) hb hc (aS (ag.1 hk).1 h2) i) ns [] [] rfl ⟨b0,aQ _,.inl rfl,aM _⟩;rename_i us;obtain⟨Z,l2⟩:=Cu (d:=d) (ns:=.Jq (ns.map .int)) (q:=q) (c:=c) (x5:=nO us.flatten.length) hb h2 h1 N;rename_i e us';have D0:Dr e b 0 us'.length us' (List.replicate us'.length 0) []:=⟨Z.ok,aa Z.flat (bD _ _),aa Z.few (bD _ _),Z.some,aM _,rfl,List.getElem?_replicate_of_lt Z.some,(by intro _ h;cases h)⟩
 have l3:pN (ES (.Jq (ns.map .int)) q b c us'.length (nO us.flatten.length)) (fun s=>Dr e b c us'.length s.1 s.2.1 s.2.2) (fT (fun v ρ=>bc (ft (cS (.v 8) v ρ)) (bJ (callF tab (d+3)) [] eR.tl.tl.tl.tl.tl.tl.tl.tl.tl.hd.bd)) ((List.range c).map nv) (ES (.Jq (ns.map .int)) q b c us'.length (nO us.flatten.length) (us',List.replicate us'.length 0,[]))):=by
  by_cases h:c=0
  ·subst h;exact⟨rfl,D0⟩
  ·obtain rfl:=Z.cl h;have:=ut (enc:=nv) (step:=fun v ρ=>bc (ft (cS (.v 8) v ρ)) (bJ (callF tab (d+3)) [] eR.tl.tl.tl.tl.tl.tl.tl.tl.tl.hd.bd)) (ES (.Jq (ns.map .int)) q b c us'.length (nO us.flatten.length)) (fun k s=>Dr false b k us'.length s.1 s.2.1 s.2.2) (L:=List.range c) (fun k s x hk D=>?_) (List.range c) [] (us',List.replicate us'.length 0,[]) rfl D0
   ·rwa [aO]at this
   ·obtain⟨l,e⟩:=ag.1 hk;rw[List.getElem_range]at e;subst e;exact zG hb (aS (aO (n:=c)▸l) hc) s D
 obtain⟨l3,D⟩:=l3;rename_i s;refine⟨eb,hb,hc,fR rfl rfl rfl (ax (bX (v:=nv b) (aj (fun i=>ok (V.int i)) eb)) (ax (bX (aD rfl rfl ec)) (ax rfl (ax (bX rfl) (ax (gL rfl rfl (by rw[af];exact aa h2 (by decide)) l1) (ax l2 (ax (bX (dM (oF rfl) rfl)) (ax rfl (ax (Gj rfl ?_) (ax (i4 rfl (aa hc (ae rfl)) l3) (ax (iP (by intro h;cases h) rfl) (cX rfl)))))))))))),D⟩;rw[cW,List.map_replicate];exact qq (aa Z.few (ae rfl))
end
section
variable{F:FT}{d n i j k b a s c M:Nat}{ρ:Env}{us us':List (List UR)}{ins ins':List Nat}{cl:List Cl}{z q t x:Int}{u:UR}{e:Bool}
noncomputable def o4(us:List (List UR))(M:Nat)(t:Int):Nat:=if t%43=42 then us.length else if t%29=28 then(t/29%(us.length:Int)).toNat else(t%(M:Int)).toNat
structure Sz(us:List (List UR))(M:Nat):Prop where
 pos:0<M
 le:M≤us.length
 few:us.length≤100
theorem ud(z:Int)(h0:0<n)(h:n≤100):(z%(n:Int)).toNat<n∧eP .fmod (.int z) (nv n)=ok (nv (z%(n:Int)).toNat):=by
 obtain⟨k,l,e⟩:=qx z h0;rw[show(z%(n:Int)).toNat=k by rw[e];rfl];exact⟨l,cY ⟨Int.natCast_pos.2 h0,Int.lt_of_le_of_lt (bC.2 h) (by decide)⟩ (aj (fun i=>ok (V.int i)) e)⟩
theorem uf(Z:Sz us M):o4 us M t≤us.length:=by
 unfold o4;split
 ·exact aM _
 ·split
  ·exact aE (ud _ (aS Z.pos Z.le) Z.few).1
  ·exact aa (aE (ud _ Z.pos (aa Z.le Z.few)).1) Z.le
theorem Ij(Z:Sz us M):callF tab (d+1) 38 [.int t,wO us ins cl (some M)]=ok (nv (o4 us M t),[]):=by
 unfold o4;by_cases h:t%43=42
 ·rw[aB h];exact fR rfl rfl rfl (ia (eK rfl rfl (ak h) (cX (oF rfl))))
 ·rw[aC h];by_cases h':t%29=28
  ·rw[aB h'];exact fR rfl rfl rfl (ax (cU rfl rfl (ao h) rfl) (ia (eK rfl rfl (ak h') (cX (aD rfl (oF rfl) (ud _ (aS Z.pos Z.le) Z.few).2)))))
  ·rw[aC h'];exact fR rfl rfl rfl (ax (cU rfl rfl (ao h) rfl) (ax (cU rfl rfl (ao h') rfl) (cX (aD rfl rfl (ud _ Z.pos (aa Z.le Z.few)).2))))
noncomputable def j0(us:List (List UR))(M:Nat)(x:Int):Nat→List Nat
 |1=>[o4 us M x]
 |3=>(List.range (x%4).toNat).map fun j:Nat=>o4 us M (x+(j:Int)*(x/4%3))
 |_=>[]
noncomputable def yy:Arg→Int
 |.num x=>x
 |_=>0
noncomputable abbrev fo(us:List (List UR))(M:Nat)(u:UR):List Nat:=j0 us M (yy u.arg) u.Jw
theorem qH(Z:Sz us M):∀{f:Nat},∀a∈j0 us M x f,a≤us.length
 |1,a,m=>aq.1 m▸uf Z
 |3,a,m=>by obtain⟨j,_,rfl⟩:=aP.1 m;exact uf Z
theorem kR:(j0 us M x 3).length≤3:=by
 show((List.range (x%4).toNat).map _).length≤3;rw[af,aO];exact cz (ud x (n:=4) (a8 _) (by decide)).1
theorem IL(Z:Sz us M){y:Arg}:∀{f:Nat},(f=1∨f=3→pO y=true)→callF tab (d+2) 39 [wO us ins cl (some M),y.v,nv f]=ok (cW (j0 us M (yy y) f),[]):=by
 intro f h;by_cases h1:f=1
 ·subst h1;cases y with
  |num x=>exact fR rfl rfl rfl (ia (gu rfl rfl (cX (HS (a6 (bj rfl (Ij Z)) rfl)))))
  |_=>exact nomatch h (.inl rfl)
 ·have d1:decide ((f:Int)=1)=false:=ao fun e=>h1 (aX e);by_cases h3:f=3
  ·subst h3;cases y with
   |num x=>
    have m4:=ud x (n:=4) (a8 _) (by decide);refine fR rfl rfl rfl (ax (eH rfl rfl rfl) (ia (gu rfl rfl (cX (?_:_=ok (V.Jq (((List.range (x%4).toNat).map fun j:Nat=>o4 us M (x+(j:Int)*(x/4%3))).map nv)))))));rw[cH];refine rg (enc:=nv) (ym (aD rfl rfl m4.2) (aa (aE m4.1) (by decide))) (ya _) (aO▸aa (aE m4.1) (by decide)) fun j m=>?_
    have m3:=ud (x/4) (n:=3) (a8 _) (ae rfl)
    have mu:eP .mul (nv j) (.int (x/4%3))=ok (.int (j*(x/4%3))):=by
     obtain⟨k,l,e⟩:=qx (x/4) (n:=3) (a8 _);rw[show x/4%3=(k:Int)from e];exact cY ⟨Nat.lt_trans (bP.1 m) (Nat.lt_trans m4.1 (ae rfl)),Nat.lt_trans l (ae rfl)⟩ rfl
    exact bj (a6 (aD rfl (aD rfl rfl mu) rfl) rfl) (Ij Z)
   |_=>exact nomatch h (.inr rfl)
  ·have d3:decide ((f:Int)=3)=false:=ao fun e=>h3 (aX e);rw[show j0 us M (yy y) f=[] by unfold j0;split<;>first | exact absurd rfl h1 | exact absurd rfl h3 | rfl];exact fR rfl rfl rfl (ax (cU rfl rfl d1 rfl) (ax (cU rfl rfl d3 rfl) (cX rfl)))
variable{p:List (List UR)}{v:List UR}
noncomputable def ps(us:List (List UR))(j:Nat):Nat:=(us.take j).flatten.length
noncomputable def qg(us:List (List UR)):List Nat:=(List.range (us.length+1)).map (ps us)
theorem rz(p:List (List UR)):qg p=(List.range p.length).map (ps p)++[p.flatten.length]:=by
 unfold qg;rw[List.range_succ,aw];exact aj (fun k=>_++[k]) (by unfold ps;rw[List.take_length])
theorem wP:qg (p++[v])=qg p++[p.flatten.length+v.length]:=by
 rw[rz (p++[v]),eZ,ai];refine aj (·++_) (cN fun j m=>?_);unfold ps;rw[List.take_append_of_le_length (cz (bP.1 m))]
theorem qj(h:j≤us.length):(qg us)[j]? =some (ps us j):=by
 unfold qg;rw[aV,List.getElem?_range (Nat.lt_succ_of_le h)];rfl
theorem vJ{l:List Nat}:eP .item (cW (l++[a])) (.int (-1))=ok (nv a):=by
 show idx ((l++[a]).map nv) (-1)=_;rw[aw];unfold idx;rw[show o7 (l.map nv++[a].map nv).length (-1)=_ from nR _ _];show ft ((l.map nv++[nv a])[(l.map nv).length]?)=_;rw[b8 (aM _),Nat.sub_self];rfl
noncomputable def BG(w:V)(x1 x2 x3 x4 x5 x6 x7 x8 x9 x10 x11:Option (Bool×V)):Env:=[some (false,w),x1,x2,x3,x4,x5,x6,x7,x8,x9,x10,x11,none,none,none,none,none,none,none,none]
theorem vY(Z:Sz us M):bJ F [] gY.tl.hd (BG (wO us ins cl (some M)) (some (true,cW (qg []))) none none none none none none none none none none)=ok (.nxt,BG (wO us ins cl (some M)) (some (true,cW (qg us))) none none none none none none none none none none):=by
 refine gL (v:=.Jq (us.map eN)) (d7 rfl rfl) rfl (by rw[af];exact aa Z.few (by decide)) (cR (fun p:List (List UR)=>BG (wO us ins cl (some M)) (some (true,cW (qg p))) none none none none none none none none none none) fun p v m e=>?_);have hp:p.length≤us.length:=by rw[e];exact eJ
 have i1:aY F (.u (.h .add (.h .item (.c 1) (.f (.int (-1)))) (.un .len (.c 2)))) (BG (wO us ins cl (some M)) (some (true,cW (qg p))) (some (false,eN v)) none none none none none none none none none)=ok (nv (p.flatten.length+v.length)):=
  dM (aD (aD rfl rfl (rz p▸vJ)) (d7 rfl (a7 _ _)) rfl) rfl
 rw[wP];refine ax ((fj (io:=[]) (l:=(qg p).map nv) rfl i1 ?_).trans (aj (fun l=>ok (Flow.nxt,BG (wO us ins cl (some M)) (some (true,V.Jq l)) (some (false,eN v)) none none none none none none none none none)) (aw (f:=nv) (l₁:=qg p) (l₂:=[p.flatten.length+v.length])).symm)) rfl;unfold qg;rw[af,af,aO];exact aa (bQ (aa hp Z.few)) (by decide)
noncomputable def hZ(ins:List Nat)(a:Nat):Bool:=match ins[a]? with
 |some i=>!Nat.beq i 0
 |none=>false
noncomputable def d9(us:List (List UR))(M n:Nat)(u:UR):aU:=match u.Jw with
 |1=>⟨u.op,.go (ps us (o4 us M (yy u.arg)))⟩
 |2=>⟨u.op,.go (n+(yy u.arg).toNat)⟩
 |3=>⟨u.op,.sw ((fo us M u).map (ps us))⟩
 |_=>if u.op=32 then⟨32,.num n⟩else u.row
noncomputable def eD(us:List (List UR))(ins:List Nat)(M:Nat)(u:UR):Int:=cond ((fo us M u).any (hZ ins)) (-1) u.deep
noncomputable def hU(us:List (List UR))(M:Nat):Nat→List UR→List aU
 |_,[]=>[]
 |n,u::l=>d9 us M n u::hU us M (n+1) l
theorem vg:∀(A B:List UR)(n:Nat),hU us M n (A++B)=hU us M n A++hU us M (n+A.length) B
 | [],_,_=>rfl
 |u::A,B,n=>aj (d9 us M n u::·) ((vg A B (n+1)).trans (by rw[cT,Nat.succ_add_eq_add_succ];rfl))
theorem kM:∀(A:List UR)(n:Nat),(hU us M n A).length=A.length
 | [],_=>rfl
 |_::A,n=>aj Nat.succ (kM A (n+1))
theorem qs:∀{A:List UR}{n i:Nat},A[i]? =some u→(hU us M n A)[i]? =some (d9 us M (n+i) u)
 |_::_,_,0,h=>by obtain rfl:=ah (h);rfl
 |_::A,n,i+1,h=>(qs (A:=A) (n:=n+1) (i:=i) h).trans (by rw[Nat.succ_add_eq_add_succ])
end
section
variable{F:FT}{d n i j k b a s c M:Nat}{ρ:Env}{us us' p:List (List UR)}{ins ins':List Nat}{cl:List Cl}{z q t:Int}{u:UR}{v:List UR}{e:Bool}{C:List aU}{K:List Int}{l:List Nat}{x:Arg}
noncomputable def Gu:Arg→Bool
 |.num (.ofNat _)=>true
 |_=>false
noncomputable def kJ(u:UR):Nat→Bool
 |0=>jt u.op u.arg
 |1=>oG u.op&&pO u.arg
 |2=>oG u.op&&Gu u.arg
 |3=>u.op==69&&pO u.arg
 |_=>false
noncomputable abbrev G8(us:List (List UR))(ins:List Nat)(cl:List Cl)(M:Nat)(v:List UR)(C:List aU)(K:List Int)(x5 x6 x7 x8 x9:Option (Bool×V)):Env:=BG (wO us ins cl (some M)) (some (false,cW (qg us))) (some (false,eN v)) (some (true,aL C)) (some (true,.Jq (K.map .int))) x5 x6 x7 x8 x9 none none
noncomputable abbrev vE(us:List (List UR))(ins:List Nat)(cl:List Cl)(M:Nat)(v:List UR)(C:List aU)(K:List Int)(u:UR)(x:Arg)(z:Int)(l:List Nat):Env:=G8 us ins cl M v C K (some (false,.int u.op)) (some (false,x.v)) (nO u.Jw) (some (false,.int z)) (some (false,cW l))
noncomputable abbrev FE:CS:=gY.tl.tl.tl.tl.tl.hd.bd.hd.bd
theorem CD(hi:ins.length=us.length)(hl:l.length≤lim)(h:∀a∈l,a≤us.length):bJ F [] FE.tl.hd (vE us ins cl M v C K u x u.deep l)=ok (.nxt,vE us ins cl M v C K u x (cond (l.any (hZ ins)) (-1) u.deep) l):=by
 refine gL rfl rfl (by rw[af];exact hl) (cR (fun q:List Nat=>vE us ins cl M v C K u x (cond (q.any (hZ ins)) (-1) u.deep) l) fun q a m e=>?_);have ha:=h a (e▸aA _ (.head _));rw[List.any_append,show [a].any (hZ ins)=hZ ins a from Bool.or_false _];refine ax (ρ1:=(vE us ins cl M v C K u x (cond (q.any (hZ ins)||hZ ins a) (-1) u.deep) l).set 10 (nO a)) ?_ rfl
 have lt:aY F (.h .lt (.c 10) (.un .len (.un (.key 101) (.c 0)))) ((vE us ins cl M v C K u x (cond (q.any (hZ ins)) (-1) u.deep) l).set 10 (nO a))=ok (.bool (decide (a<ins.length))):=aD rfl (d7 (d7 rfl rfl) (a7 _ _)) (aj (fun b=>ok (V.bool b)) (oZ _ _));by_cases g:a<ins.length
 ·have q':=bw g
  have tv:tr (nv ins[a])=some (hZ ins a):=by
   unfold hZ;rw[q'];cases ins[a]<;>rfl
  refine kn (gI lt rfl (ak g) (aD (d7 rfl rfl) rfl (aW (f:=nv) q'))) tv ?_
  cases hZ ins a with
  |true=>rw[Bool.or_true];rfl
  |false=>rw[Bool.or_false];rfl
 ·rw[show hZ ins a=false by unfold hZ;rw[bn (bS.1 g)],Bool.or_false];exact cU (jW lt rfl (ao g)) rfl (ao g) rfl
theorem Dj(Z:Sz us M)(hs:kJ u u.Jw=true)(hC:C.length≤lim)(hl:fo us M u=l):bJ F [] FE.tl.tl.hd (vE us ins cl M v C K u u.arg z l)=ok (.nxt,vE us ins cl M v C K u (d9 us M C.length u).arg z l):=by
 subst hl;obtain⟨op,y,f,dp,pr⟩:=u
 match f with
 |0=>
  refine eH rfl rfl (eH rfl rfl (eH rfl rfl ?_));show _=ok (Flow.nxt,vE us ins cl M v C K ⟨op,y,0,dp,pr⟩ (if op=32 then(⟨32,.num C.length⟩:aU)else⟨op,y⟩).arg z _);by_cases h:op=32
  ·rw[aB h];exact eK rfl rfl (ak h) (bX (dM (d7 rfl (a7 _ _)) rfl))
  ·rw[aC h];exact cU rfl rfl (ao h) rfl
 |1=>exact gu rfl rfl (bX (aD rfl rfl (aW (f:=nv) (qj (uf Z)))))
 |2=>
  cases y with
  |num k=>cases k with
   |ofNat k=>exact eH rfl rfl (gu rfl rfl (bX (dM (aD (d7 rfl (a7 _ _)) rfl rfl) rfl)))
   |negSucc k=>exact nomatch (am.1 hs).2
  |_=>exact nomatch (am.1 hs).2
 |3=>
  refine eH rfl rfl (eH rfl rfl (gu rfl rfl (bX (d7 (v:=.Jq (((j0 us M (yy y) 3).map (ps us)).map nv)) ?_ (cY (by rw[af,af];exact aa (kR (us:=us) (M:=M) (x:=yy y)) (by decide)) rfl)))));rw[cH];exact rg (enc:=nv) rfl rfl (aa (kR (us:=us) (M:=M) (x:=yy y)) (by decide)) fun a m=>aD rfl rfl (aW (f:=nv) (qj (qH Z a m)))
variable{r:List UR}
noncomputable abbrev El(us:List (List UR))(ins:List Nat)(cl:List Cl)(M:Nat)(v:List UR)(C:List aU)(K:List Int):Env:=G8 us ins cl M v C K none none none none none
theorem qI:(d9 us M n u).op=u.op:=by
 unfold d9;split
 ·rfl
 ·rfl
 ·rfl
 ·split
  ·rename_i h;exact h.symm
  ·rfl
theorem zr(h:kJ u u.Jw=true):u.Jw=1∨u.Jw=3→pO u.arg=true:=by
 rintro(e | e)<;>rw[e]at h<;>exact(am.1 h).2
theorem pC{α β:Type}(f:α→β)(l:List α)(x:α):l.map f++[f x]=(l++[x]).map f:=by rw[aw];rfl
theorem An(Z:Sz us M)(hi:ins.length=us.length)(hs:kJ u u.Jw=true)(hC:C.length≤lim)(hK:K.length≤lim):bc (ft (cS (.cons (.v 5) (.cons (.v 6) (.cons (.v 7) (.cons (.v 8) .nil)))) u.v (El us ins cl M v C K))) (bJ (callF tab (d+2)) [] FE)=ok (.nxt,El us ins cl M v (C++[d9 us M C.length u]) (K++[eD us ins M u])):=by
 have l3:(fo us M u).length≤lim:=by
  show(j0 us M (yy u.arg) u.Jw).length≤lim;unfold j0;split
  ·exact ae rfl
  ·exact aa kR (ae rfl)
  ·exact aQ _
 have e3:V.Jq (C.map aU.v++[.Js [.int u.op,(d9 us M C.length u).arg.v]])=aL (C++[d9 us M C.length u]):=by
  rw[←qI (us:=us) (M:=M) (n:=C.length)];exact aj V.Jq (pC aU.v C _)
 have e4:V.Jq (K.map V.int++[.int (eD us ins M u)])=.Jq ((K++[eD us ins M u]).map .int):=aj V.Jq (pC V.int K (eD us ins M u));refine bq (a:=G8 us ins cl M v C K (some (false,.int u.op)) (some (false,u.arg.v)) (nO u.Jw) (some (false,.int u.deep)) none) rfl (ax (ρ1:=vE us ins cl M v C K u u.arg u.deep (fo us M u)) (bX (bj rfl (IL Z (zr hs)))) (ax (CD hi l3 fun a m=>qH Z a m) (ax (Dj Z hs hC rfl) (ax (ρ1:=vE us ins cl M v (C++[d9 us M C.length u]) K u (d9 us M C.length u).arg (eD us ins M u) (fo us M u)) ?_ (ax (ρ1:=vE us ins cl M v (C++[d9 us M C.length u]) (K++[eD us ins M u]) u (d9 us M C.length u).arg (eD us ins M u) (fo us M u)) ?_ rfl)))))
 ·exact(fj (l:=C.map aU.v) (v:=.Js [.int u.op,(d9 us M C.length u).arg.v]) rfl rfl (by rw[af];exact hC)).trans (aj (fun w=>ok (Flow.nxt,(vE us ins cl M v C K u (d9 us M C.length u).arg (eD us ins M u) (fo us M u)).set 3 (some (true,w)))) e3)
 ·exact(fj (l:=K.map V.int) (v:=.int (eD us ins M u)) rfl rfl (by rw[af];exact hK)).trans (aj (fun w=>ok (Flow.nxt,(vE us ins cl M v (C++[d9 us M C.length u]) K u (d9 us M C.length u).arg (eD us ins M u) (fo us M u)).set 4 (some (true,w)))) e4)
theorem AA(Z:Sz us M)(hi:ins.length=us.length)(pf:List UR)(hs:∀u∈v,kJ u u.Jw=true)(hl:pf.length+v.length≤lim):fT (fun w ρ=>bc (ft (cS (.cons (.v 5) (.cons (.v 6) (.cons (.v 7) (.cons (.v 8) .nil)))) w ρ)) (bJ (callF tab (d+2)) [] FE)) (v.map UR.v) (El us ins cl M v (hU us M 0 pf) (pf.map (eD us ins M)))=ok (.nxt,El us ins cl M v (hU us M 0 (pf++v)) ((pf++v).map (eD us ins M))):=by
 have:=cR (enc:=UR.v) (step:=fun w ρ=>bc (ft (cS (.cons (.v 5) (.cons (.v 6) (.cons (.v 7) (.cons (.v 8) .nil)))) w ρ)) (bJ (callF tab (d+2)) [] FE)) (fun r=>El us ins cl M v (hU us M 0 (pf++r)) ((pf++r).map (eD us ins M))) (l:=v) fun r u m e=>by
  have hr:(pf++r).length≤lim:=by rw[ai];exact aa (aR (e▸eJ) _) hl
  have s:=An (d:=d) (cl:=cl) (v:=v) (C:=hU us M 0 (pf++r)) (K:=(pf++r).map (eD us ins M)) Z hi (hs u (e▸aA _ (.head _))) (by rw[kM];exact hr) (by rw[af];exact hr);rw[kM]at s;have e1:hU us M 0 (pf++(r++[u]))=hU us M 0 (pf++r)++[d9 us M (pf++r).length u]:=by rw[←aJ,vg,cI];rfl
  have e2:(pf++(r++[u])).map (eD us ins M)=(pf++r).map (eD us ins M)++[eD us ins M u]:=by rw[←aJ,aw];rfl
  rw[←e1,←e2]at s;exact s
 rw[aK]at this;exact this
noncomputable abbrev GQ(us:List (List UR))(ins:List Nat)(cl:List Cl)(M:Nat)(W:List UR):Env:=BG (wO us ins cl (some M)) (some (false,cW (qg us))) none (some (true,aL (hU us M 0 W))) (some (true,.Jq ((W.map (eD us ins M)).map .int))) none none none none none none none
theorem Aa(Z:Sz us M)(hi:ins.length=us.length)(hs:∀v∈us,∀u∈v,kJ u u.Jw=true)(hl:us.flatten.length≤lim):bJ (callF tab (d+2)) [] gY.tl.tl.tl.tl.tl.hd (GQ us ins cl M [])=ok (.nxt,GQ us ins cl M us.flatten):=by
 refine gL (v:=.Jq (us.map eN)) (d7 rfl rfl) rfl (by rw[af];exact aa Z.few (ae rfl)) (cR (fun p:List (List UR)=>GQ us ins cl M p.flatten) fun p v m e=>?_)
 have hp:p.flatten.length+v.length≤lim:=by
  rw[←eZ];refine aa ?_ hl
  rw[e,show p++v::m=(p++[v])++m from(aJ p [v] m).symm,dO (L₁:=p++[v]),ai];exact bD _ _
 rw[dO,List.flatten_singleton];exact ax (gL (v:=eN v) rfl rfl (by rw[af];exact aa (cn _ _) hp) (AA Z hi p.flatten (hs v (e▸aA _ (.head _))) hp)) rfl
end
section
variable{F:FT}{d n i j k b a s M:Nat}{ρ:Env}{us us' p:List (List UR)}{ins ins':List Nat}{cl:List Cl}{c:Cl}{e:Bool}
noncomputable def tD(us:List (List UR))(c:Cl)(j:Nat):Cl:=⟨c.s,ps us c.t0,ps us c.t1,ps us c.h0,ps us c.h1,if c.s=0 then 70+j else if c.s=1 then ps us c.x else 0⟩
noncomputable def Ek(us:List (List UR))(w x3 x4:V)(C:List Cl):Env:=[some (false,w),some (false,cW (qg us)),none,some (true,x3),some (true,x4),none,none,none,none,none,none,some (true,bF C),none,none,none,none,none,none,none,none]
structure HV(U:Nat)(c:Cl):Prop where
 t0:c.t0≤U
 t1:c.t1≤U
 h0:c.h0≤U
 h1:c.h1≤U
 x:c.s=1→c.x≤U
noncomputable def AG(us:List (List UR))(w x3 x4:V)(C:List Cl)(j:Nat)(c:Cl)(y:Nat):Env:=[some (false,w),some (false,cW (qg us)),none,some (true,x3),some (true,x4),none,none,none,none,none,none,some (true,bF C),nO j,nO c.s,nO c.t0,nO c.t1,nO c.h0,nO c.h1,nO c.x,nO y]
noncomputable abbrev Ii:T:=.cons (.v 12) (.cons (.cons (.v 13) (.cons (.v 14) (.cons (.v 15) (.cons (.v 16) (.cons (.v 17) (.cons (.v 18) .nil)))))) .nil)
noncomputable abbrev GY:CS:=gY.tl.tl.tl.tl.tl.tl.tl.hd.bd
theorem AK{w x3 x4:V}{C:List Cl}(hc:HV us.length c)(hl:C.length≤lim):bc (ft (cS Ii (.Js [nv j,c.v]) (Ek us w x3 x4 C))) (bJ F [] GY)=ok (.nxt,Ek us w x3 x4 (C++[tD us c j])):=by
 have it {a:Nat} (h:a≤us.length):eP .item (cW (qg us)) (nv a)=ok (nv (ps us a)):=aW (f:=nv) (qj h)
 have e3:bJ F [] GY.tl.tl.hd (AG us w x3 x4 C j c (if c.s=0 then 70+j else 0))=ok (.nxt,AG us w x3 x4 C j c (tD us c j).x):=by
  show _=ok (Flow.nxt,AG us w x3 x4 C j c (if c.s=0 then 70+j else if c.s=1 then ps us c.x else 0));by_cases h:c.s=1
  ·rw[aB h,aC (c:=c.s=0) (by rw[h];decide),aC (c:=c.s=0) (by rw[h];decide)];exact eK rfl rfl (ak (aj Int.ofNat h)) (bX (aD rfl rfl (it (hc.x h))))
  ·rw[aC h];exact cU rfl rfl (ao fun e=>h (aX e)) rfl
 have e2:bJ F [] GY.tl.hd (AG us w x3 x4 C j c 0)=ok (.nxt,AG us w x3 x4 C j c (if c.s=0 then 70+j else 0)):=by
  by_cases h:c.s=0
  ·rw[aB h];exact eK rfl rfl (ak (aj Int.ofNat h)) (bX rfl)
  ·rw[aC h];exact cU rfl rfl (ao fun e=>h (aX e)) rfl
 have e4:V.Jq (C.map Cl.v++[(tD us c j).v])=bF (C++[tD us c j]):=aj V.Jq (pC Cl.v C _);refine bq (a:=(AG us w x3 x4 C j c 0).set 19 none) rfl (ax (ρ1:=AG us w x3 x4 C j c 0) rfl (ax e2 (ax e3 (ax (ρ1:=AG us w x3 x4 (C++[tD us c j]) j c (tD us c j).x) ?_ rfl))));exact(fj (l:=C.map Cl.v) (v:=(tD us c j).v) rfl (gT (a6 rfl (a6 (aD rfl rfl (it hc.t0)) (a6 (aD rfl rfl (it hc.t1)) (a6 (aD rfl rfl (it hc.h0)) (a6 (aD rfl rfl (it hc.h1)) (a6 rfl rfl))))))) (by rw[af];exact hl)).trans (aj (fun w'=>ok (Flow.nxt,(AG us w x3 x4 C j c (tD us c j).x).set 11 (some (true,w')))) e4)
noncomputable def sA(us:List (List UR))(cl:List Cl):List Cl:=cl.zipIdx.map fun p=>tD us p.1 p.2
theorem Dm{x3 x4:V}{m:Option Nat}(hc:∀c∈cl,HV us.length c)(hl:cl.length≤lim):bJ F [] gY.tl.tl.tl.tl.tl.tl.tl.hd (Ek us (wO us ins cl m) x3 x4 [])=ok (.nxt,Ek us (wO us ins cl m) x3 x4 (sA us cl)):=by
 have A:=cR (enc:=fun p:Cl×Nat=>V.Js [nv p.2,p.1.v]) (step:=fun v ρ=>bc (ft (cS Ii v ρ)) (bJ F [] GY)) (fun p:List (Cl×Nat)=>Ek us (wO us ins cl m) x3 x4 (p.map fun p=>tD us p.1 p.2)) (l:=cl.zipIdx) fun p x m' e=>by
  have mx:x.1∈cl:=by
   have:x∈cl.zipIdx:=e▸aA _ (.head _);exact List.fst_mem_of_mem_zipIdx this
  have s:=AK (F:=F) (us:=us) (w:=wO us ins cl m) (x3:=x3) (x4:=x4) (j:=x.2) (C:=p.map fun p=>tD us p.1 p.2) (hc x.1 mx) (by rw[af];exact(show p.length≤lim from aa (by rw[←List.length_zipIdx (l:=cl) (i:=0),e];exact eJ) hl));rw[pC (fun p:Cl×Nat=>tD us p.1 p.2) p x]at s;exact s
 refine bq (d7 rfl rfl) (bq (a:=cl.map Cl.v) rfl (cY (by rw[af];exact hl) ?_));rw[List.mapIdx_eq_zipIdx_map,List.zipIdx_map,cH];exact A
variable{R C:List aU}{r:aU}{W:List Nat}
theorem I9(Z:Sz us M)(hi:ins.length=us.length)(hs:∀v∈us,∀u∈v,kJ u u.Jw=true)(hl:us.flatten.length≤lim)(hc:∀c∈cl,HV us.length c)(hk:cl.length≤lim):callF tab (d+3) 40 [wO us ins cl (some M)]=ok (.Js [aL (hU us M 0 us.flatten),.Jq ((us.flatten.map (eD us ins M)).map .int),bF (sA us cl)],[]):=
 fR rfl rfl rfl (ax (eG nofun rfl) (ax (vY Z) (ax (ρ1:=BG (wO us ins cl (some M)) (some (false,cW (qg us))) none none none none none none none none none none) (iP nofun rfl) (ax (eG nofun rfl) (ax (ρ1:=GQ us ins cl M []) (eG nofun rfl) (ax (Aa Z hi hs hl) (ax (ρ1:=Ek us (wO us ins cl (some M)) (aL (hU us M 0 us.flatten)) (.Jq ((us.flatten.map (eD us ins M)).map .int)) []) (eG nofun rfl) (ax (Dm hc hk) (ax (iP nofun rfl) (ax (iP nofun rfl) (ax (iP nofun rfl) (cX rfl))))))))))))
noncomputable def eQ(n:Nat)(r:aU):Bool:=r.gs.all fun g=>decide (g<n)
noncomputable def kK(n:Nat)(r:aU):aU:=if r.op=69 then⟨69,.sw (r.gs.filter fun g=>decide (g<n))⟩else if r.op=56∨r.op=221 then⟨42,.num 0⟩else⟨0,.num 0⟩
noncomputable def mW(n:Nat)(r:aU):aU:=cond (eQ n r) r (kK n r)
theorem wV:∀l:List Nat,∃b:Nat,b∈l++[0]∧∀x∈l++[0],x≤b
 | []=>⟨0,.head _,fun x m=>bu (aq.1 m)⟩
 |a::l=>by
  obtain⟨b,m,h⟩:=wV l;rcases Nat.le_total a b with g|g
  ·exact⟨b,.tail _ m,fun x m=>(az.1 m).elim (fun e=>e▸g) (h x)⟩
  ·exact⟨a,.head _,fun x m=>(az.1 m).elim bu fun m=>aa (h x m) g⟩
noncomputable def kx(R C:List aU)(W:List Nat)(x3 x4:Option (Bool×V)):Env:=[some (false,aL R),some (true,aL C),some (true,cW W),x3,x4,none]
theorem rn(ho:r.Ok)(hn:0<R.length){x3:Option (Bool×V)}:aY (callF tab (d+1)) (.h .lt (.un .max (.h .add (.call 41 (.cons (.c 4) .nil)) (.Jq (.cons (.f (.int 0)) .nil)))) (.un .len (.c 0))) (kx R C W x3 (some (false,r.v)))=ok (.bool (eQ R.length r)):=by
 obtain⟨b,m,h⟩:=wV r.gs;have a:aY (callF tab (d+1)) (.h .add (.call 41 (.cons (.c 4) .nil)) (.Jq (.cons (.f (.int 0)) .nil))) (kx R C W x3 (some (false,r.v)))=ok (cW (r.gs++[0])):=qP (bj rfl (GV ho)) rfl (by rw[ai];exact aa (bk ho.short 1) (ae rfl));refine aD (d7 a (v:=cW (r.gs++[0])) (z:=ok (nv b)) ?_) (d7 rfl (a7 _ _)) (aj (fun b=>ok (V.bool b)) ((oZ b _).trans ?_))
 ·unfold cW;rw[jb];exact EL (aP.2 ⟨b,m,rfl⟩) fun x mx=>by obtain⟨y,my,rfl⟩:=aP.1 mx;exact bC.2 (h y my)
 ·unfold eQ;rw[Bool.eq_iff_iff,bU,List.all_eq_true];exact⟨fun l g mg=>ak (aF (h g (bE _ mg)) l),fun l=>(a9.1 m).elim (fun m=>aT (l b m)) fun m=>aq.1 m▸hn⟩
end
section
theorem sP{β:Type}{enc:β→V}{step:V→Env→R (Flow×Env)}(E:List β→Env):∀(l p:List β),(∀q x m,p++l=q++x::m→step (enc x) (E q)=ok (.nxt,E (q++[x]))∨step (enc x) (E q)=ok (.cont,E (q++[x])))→fT step (l.map enc) (E p)=ok (.nxt,E (p++l))
 | [],p,_=>by rw[aK];rfl
 |x::l,p,h=>by
  have k:=sP E l (p++[x]) fun q y m e=>h q y m ((aJ p [x] l).symm.trans e);rw[aJ]at k;exact(h p x l rfl).elim (fun h=>bq h k) fun h=>bq h k
variable{F:FT}{d n i j k b a s M:Nat}{ρ:Env}{e:Bool}{R C:List aU}{r:aU}{W:List Nat}
noncomputable abbrev B2:T:=.cons (.v 3) (.cons (.v 4) .nil)
noncomputable abbrev Db:CS:=kU.tl.tl.hd.bd
theorem mB{io:List Nat}{e:CE}(h:aY F e ρ=ok r.v)(ho:jY ρ i=ok (aL C))(hl:C.length≤lim):bJ F io (.app i e) ρ=ok (.nxt,fq ρ i (aL (C++[r]))):=
 (fj (l:=C.map aU.v) (bq ho rfl) h (by rw[af];exact hl)).trans (aj (fun w=>ok (Flow.nxt,fq ρ i (.Jq w))) (pC aU.v C r))
theorem AM{io:List Nat}{e:CE}(h:aY F e ρ=ok (nv a))(ho:jY ρ i=ok (cW W))(hl:W.length≤lim):bJ F io (.app i e) ρ=ok (.nxt,fq ρ i (cW (W++[a]))):=
 (fj (l:=W.map nv) (bq ho rfl) h (by rw[af];exact hl)).trans (aj (fun w=>ok (Flow.nxt,fq ρ i (.Jq w))) (pC nv W a))
theorem zt(ho:r.Ok)(hn:0<R.length)(hf:eQ R.length r=true)(hC:C.length≤lim):bc (ft (cS B2 (.Js [nv j,r.v]) (kx R C W none none))) (bJ (callF tab (d+1)) [] Db)=ok (.cont,kx R (C++[mW R.length r]) W none none):=by
 rw[show mW R.length r=r by unfold mW;rw[hf];rfl];exact bq (a:=kx R C W (nO j) (some (false,r.v))) rfl (bq (eK (rn ho hn) rfl hf (ax (mB (r:=r) rfl rfl hC) rfl)) rfl)
theorem DT(ho:r.Ok)(hn:0<R.length)(hf:eQ R.length r=false)(hC:C.length≤lim)(hW:W.length≤lim):bc (ft (cS B2 (.Js [nv j,r.v]) (kx R C W none none))) (bJ (callF tab (d+1)) [] Db)=ok (.nxt,kx R (C++[mW R.length r]) (W++[j]) none none):=by
 rw[show mW R.length r=kK R.length r by unfold mW;rw[hf];rfl];refine bq (a:=kx R C W (nO j) (some (false,r.v))) rfl (ax (cU (rn ho hn) rfl hf rfl) (ax (ρ1:=kx R C (W++[j]) (nO j) (some (false,r.v))) (AM (a:=j) rfl rfl hW) (ax (ρ1:=kx R (C++[kK R.length r]) (W++[j]) (nO j) (some (false,r.v))) ?_ rfl)));unfold kK;by_cases h:r.op=69
 ·rw[aB h];obtain⟨op,a⟩:=r;obtain rfl:=(show op=69 from h);cases a with
  |sw gs=>
   refine gu rfl rfl (mB (r:=⟨69,.sw (gs.filter fun g=>decide (g<R.length))⟩) (gT (a6 rfl (a6 (d7 (v:=.Jq ((gs.filter fun g=>decide (g<R.length)).map nv)) (jc (enc:=nv) (enc':=nv) (fun g=>decide (g<R.length)) rfl rfl (aa ho.2 (by decide)) (fun g Z=>⟨_,aD rfl (d7 rfl (a7 _ _)) rfl,aj some (oZ g R.length)⟩) fun Z Z Z=>rfl) (cY (by rw[af];exact aa (bH _ _) (aa ho.2 (by decide))) rfl)) rfl))) rfl hC)
  |go _=>exact absurd (show(69:Int)∈iL from ho) (by decide)
  |num _=>exact absurd (show(69:Int)∈fH from ho) (by decide)
  |me _=>exact absurd (show(69:Int)=40∨(69:Int)=111 from ho.1) (by decide)
 ·rw[aC h];refine cU rfl rfl (ao h) ?_
  have q:aY (callF tab (d+1)) (.h .JK (.h .item (.c 4) (.f (.int 0))) (.Js (.cons (.f (.int 56)) (.cons (.f (.int 221)) .nil)))) (kx R C (W++[j]) (nO j) (some (false,r.v)))=ok (.bool (decide (r.op=56∨r.op=221))):=by
   refine aD rfl rfl (aj (fun r=>bc r fun b=>ok (V.bool b)) (bq (a:=[V.int 56,V.int 221]) rfl (cY ⟨rfl,rfl⟩ (aj ok ?_)):zW (.int r.op) (.Js [.int 56,.int 221])=ok (decide (r.op=56∨r.op=221))));show((56:Int)==r.op||((221:Int)==r.op||false))=_;rw[Bool.or_false,Bool.eq_iff_iff,Bool.or_eq_true,beq_iff_eq,beq_iff_eq,bU,eq_comm,eq_comm (a:=(221:Int))]
  by_cases h':r.op=56∨r.op=221
  ·rw[aB h'];exact eK q rfl (ak h') (mB (r:=⟨42,.num 0⟩) rfl rfl hC)
  ·rw[aC h'];exact cU q rfl (ao h') (mB (r:=⟨0,.num 0⟩) rfl rfl hC)
noncomputable def gQ(n:Nat)(p:List (aU×Nat)):List Nat:=(p.filter fun x=>!eQ n x.1).map (·.2)
theorem I4(ho:∀r∈R,r.Ok)(hn:0<R.length)(hl:R.length≤lim):callF tab (d+2) 42 [aL R]=ok (.Js [aL (R.map (mW R.length)),cW (gQ R.length R.zipIdx)],[]):=by
 have A:=sP (enc:=fun p:aU×Nat=>V.Js [nv p.2,p.1.v]) (step:=fun v ρ=>bc (ft (cS B2 v ρ)) (bJ (callF tab (d+1)) [] Db)) (fun p:List (aU×Nat)=>kx R ((p.map (·.1)).map (mW R.length)) (gQ R.length p) none none) R.zipIdx [] fun p x m e=>by
  have mx:x.1∈R:=List.fst_mem_of_mem_zipIdx (show x∈R.zipIdx from(show R.zipIdx=p++x::m from e)▸aA _ (.head _));have lp:p.length≤lim:=aa (by rw[←List.length_zipIdx (l:=R) (i:=0),show R.zipIdx=p++x::m from e];exact eJ) hl;have lC:((p.map (·.1)).map (mW R.length)).length≤lim:=by rw[af,af];exact lp
  have lW:(gQ R.length p).length≤lim:=by unfold gQ;rw[af];exact aa (bH _ _) lp
  have e1:(((p++[x]).map (·.1)).map (mW R.length))=((p.map (·.1)).map (mW R.length))++[mW R.length x.1]:=by rw[aw,aw];rfl
  show _=ok (Flow.nxt,kx R (((p++[x]).map (·.1)).map (mW R.length)) (gQ R.length (p++[x])) none none)∨_=ok (Flow.cont,kx R (((p++[x]).map (·.1)).map (mW R.length)) (gQ R.length (p++[x])) none none);rw[e1];cases hf:eQ R.length x.1 with
  |true=>
   rw[show gQ R.length (p++[x])=gQ R.length p by unfold gQ;rw[List.filter_append,List.filter_cons_of_neg (by rw[hf];nofun)];rw[List.filter_nil,aK]];exact .inr (zt (ho x.1 mx) hn hf lC)
  |false=>
   rw[show gQ R.length (p++[x])=gQ R.length p++[x.2] by unfold gQ;rw[List.filter_append,List.filter_cons_of_pos (by rw[hf];rfl),aw];rfl];exact .inl (DT (ho x.1 mx) hn hf lC lW)
 rw[List.nil_append,List.zipIdx_map_fst]at A;refine fR rfl rfl rfl (ax (eG nofun rfl) (ax (eG nofun rfl) (ax (ρ1:=kx R (R.map (mW R.length)) (gQ R.length R.zipIdx) none none) (bq rfl (bq (a:=R.map aU.v) rfl (cY (by rw[af];exact hl) ?_))) (ax (iP nofun rfl) (ax (iP nofun rfl) (cX rfl))))));rw[List.mapIdx_eq_zipIdx_map,List.zipIdx_map,cH];exact A
end
section
variable{R:List aU}{C L:List Cl}{b i g k w:Nat}{r r':aU}{mk:Nat→Int}{pr:Nat→Nat}{c:Cl}
inductive v8(R:List aU)(b:Nat)(mk:Nat→Int)(pr:Nat→Nat)(i:Nat)(r:aU):Prop
 |good:(tg b r).1≤pr i→mk i=(max (pr i) (fQ b r (pr i)):Nat)→(∀g∈iA R.length i r,pr g=fQ b r (pr i))→v8 R b mk pr i r
 |under:mk i=-1→¬(tg b r).1≤pr i→v8 R b mk pr i r
 |into {g:Nat} {r':aU}:mk i=-1→(tg b r).1≤pr i→g∈iA R.length i r→R[g]? =some r'→fQ b r (pr i)=0→¬(tg b r').1≤0→v8 R b mk pr i r
structure oH(R:List aU)(C:List Cl)(b:Nat)(mk:Nat→Int)(pr:Nat→Nat):Prop where
 z:pr 0=0
 row:∀i r,bf R (dZ C) i→R[i]? =some r→v8 R b mk pr i r
 seeds:∀c∈C,∀p∈dQ c,pr p.1=p.2
inductive Well(R:List aU)(b:Nat)(mk:Nat→Int)(pr:Nat→Nat)(i:Nat)(r:aU):Prop
 |mk:(tg b r).1≤pr i→mk i=(max (pr i) (fQ b r (pr i)):Nat)→(∀g∈iA R.length i r,pr g=fQ b r (pr i))→Well R b mk pr i r
theorem zg(h:g∈c.hs):∃k,(g,k)∈dQ c:=by
 unfold Cl.hs at h;unfold dQ;split at h
 ·rename_i s;rw[aB s];exact(az.1 h).elim (fun e=>⟨sd c,by rw[e];exact .head _⟩) fun m=>⟨1,by rw[aq.1 m];exact .tail _ (.head _)⟩
 ·exact⟨sd c,by rw[aq.1 h];exact .head _⟩
theorem zH{p:Nat×Nat}(h:p∈dQ c):p.1∈c.hs:=by
 unfold dQ at h;unfold Cl.hs;by_cases s:c.s=1
 ·rw[aB s]at h ⊢;exact(az.1 h).elim (fun e=>by rw[e];exact .head _) fun m=>by rw[aq.1 m];exact .tail _ (.head _)
 ·rw[aC s]at h ⊢;rw[aq.1 h];exact .head _
section
variable(P:oH R C b mk pr)
include P
theorem oH.dep(h:∀i r,bf R (dZ C) i→jV R (dL R C) b i (pr i)→R[i]? =some r→Well R b mk pr i r)(q:bf R (dZ C) i):jV R (dL R C) b i (pr i):=by
 induction q with
 |zero _=>rw[P.z];exact .zero
 | @go i r g q e m l ih=>
  obtain⟨t,_,s⟩:=h _ _ q ih e;have m':g∈iA R.length i r:=eL.2 (.inr m);rw[s _ m'];exact .go ih e t m'
 | @fall i r q e x l ih=>
  obtain⟨t,_,s⟩:=h _ _ q ih e;have m':i+1∈iA R.length i r:=eL.2 (.inl ⟨x,l,rfl⟩);rw[s _ m'];exact .go ih e t m'
 |hand q m t0 t1 g _ _=>
  obtain⟨k,s⟩:=zg g;rw[P.seeds _ (eM m).1 _ s];exact .Ky (jr.2 ⟨m,_,t0,t1,q⟩) s
theorem oH.no(q:bf R (dZ C) i)(e:R[i]? =some r)(n:mk i=-1):DV R (dL R C) b (-1):=.no fun O=>by
 have w i r (_:bf R (dZ C) i) (d:jV R (dL R C) b i (pr i)) (e:R[i]? =some r):Well R b mk pr i r:=by
  cases P.row i r ‹_› e with
  |good a b c=>exact⟨a,b,c⟩
  |under _ a=>exact absurd (O.full _ _ _ d e) a
  |into _ t m e' z a=>exact absurd (z▸O.full _ _ _ (.go d e t m) e') a
 obtain⟨_,m,_⟩:=w i r q (P.dep w q) e;rw[n]at m;cases m
theorem oH.yes(A:ct R C)(n:∀i,bf R (dZ C) i→mk i≠-1)(q:bf R (dZ C) i)(e:mk i=(w:Nat))(hw:∀j,bf R (dZ C) j→mk j≤(w:Nat)):DV R (dL R C) b w:=by
 have W i r (q:bf R (dZ C) i) (e:R[i]? =some r):Well R b mk pr i r:=by
  cases P.row i r q e with
  |good a b c=>exact⟨a,b,c⟩
  |under a _=>exact absurd a (n i q)
  |into a _ _ _ _ _=>exact absurd a (n i q)
 have D {i} (q:bf R (dZ C) i):=P.dep (fun i r q Z e=>W i r q e) q
 have U {i k} (d:jV R (dL R C) b i k) (l:0<R.length):bf R (dZ C) i∧k=pr i:=by
  induction d with
  |zero=>exact⟨.zero l,P.z.symm⟩
  |Ky m s=>exact⟨qy A m _ (zH s),(P.seeds _ (eM (jr.1 m).1).1 _ s).symm⟩
  |go _ e _ m ih=>
   obtain⟨q,rfl⟩:=ih;obtain⟨_,_,s⟩:=W _ _ q e;refine⟨?_,(s _ m).symm⟩;exact(eL.1 m).elim (by rintro⟨x,l,e'⟩;exact e'▸.fall q e x l) fun m=>.go q e m (A.fine _ _ e _ m)
 have l:=aF (aQ _) q.lt
 have O:hV R (dL R C) b:=⟨fun i k k' d d'=>(U d l).2.trans (U d' l).2.symm,fun i k r d e=>by
  obtain⟨q,rfl⟩:=U d l;obtain⟨t,_,_⟩:=W _ _ q e;exact t⟩
 refine .ok O ⟨fun i k r d e=>?_,.inr ?_⟩
 ·obtain⟨q,rfl⟩:=U d l;obtain⟨_,m,_⟩:=W _ _ q e;have h:=bC.1 (m▸hw i q);exact⟨aa (Nat.le_max_left _ _) h,aa (Nat.le_max_right _ _) h⟩
 ·obtain⟨r,e'⟩:∃r,R[i]? =some r:=⟨_,bw q.lt⟩;obtain⟨_,m,_⟩:=W _ _ q e';refine⟨i,pr i,_,D q,e',?_⟩;rw[(aX (e.symm.trans m))];exact(Nat.le_total (pr i) (fQ b r (pr i))).elim (fun g=>.inr (Nat.max_eq_right g)) fun g=>.inl (Nat.max_eq_left g)
end
end
section
variable{us:List (List UR)}{ins:List Nat}{cl:List Cl}{M b c i j k n a g f:Nat}{e:Bool}{u h v:UR}{W rest t:List UR}
theorem kH:∀{W:List UR}{i:Nat},wf e b W=true→W[i]? =some u→CL e b u (W.drop (i+1))=true
 |_::_,0,o,q=>by obtain rfl:=ah (q);exact(am.1 o).1
 |_::W,i+1,o,q=>kH (W:=W) (am.1 o).2 q
theorem oy:∀{x:Arg},into e a rest x=true→∃k:Nat,x=.num ((k+1:Nat):Int)∧nxt e a (rest.drop k)=true∧k≤rest.length
 |.num (.ofNat (k+1)),o=>have o:=am.1 (show(nxt e a (rest.drop k)&&Nat.ble k rest.length)=true from o);⟨k,rfl,o.1,ae o.2⟩
 |.num (.ofNat 0),o=>(by cases o)
 |.num (.negSucc _),o=>(by cases o)
 |.go _,o=>(by cases o)
 |.sw _,o=>(by cases o)
 |.me _,o=>(by cases o)
inductive mT(e:Bool)(b:Nat)(u:UR)(rest:List UR):Prop
 |bad:¬(tg b u.row).1≤u.pre→u.deep=-1→u.Jw=0→jt u.op u.arg=true→mT e b u rest
 |ok:(tg b u.row).1≤u.pre→u.deep=(max u.pre (fQ b u.row u.pre):Nat)→(ends u.op=true∨nxt e (fQ b u.row u.pre) rest=true)→Ei e u rest (fQ b u.row u.pre) u.Jw=true→mT e b u rest
theorem qz(o:CL e b u rest=true):mT e b u rest:=by
 unfold CL at o;cases q:Nat.ble (tg b u.row).1 u.pre with
 |false=>
  rw[q]at o;obtain⟨o1,o⟩:=am.1 o;exact .bad (fun l=>by rw[Nat.ble_eq_true_of_le l]at q;exact nomatch q) (eq_of_beq o1) (bI (am.1 o).1) (am.1 o).2
 |true=>
  rw[q]at o;obtain⟨o1,o⟩:=am.1 o;exact .ok (ae q) (eq_of_beq o1) (dN.1 (am.1 o).1) (am.1 o).2
theorem sB:∀{f:Nat},Ei e u rest a f=true→kJ u f=true
 |0,o=>o
 |1,o=>(am.1 o).1
 |2,o=>by
  obtain⟨o1,o2⟩:=am.1 o;obtain⟨k,q,_⟩:=oy o2;exact am.2 ⟨o1,by rw[q];rfl⟩
 |3,o=>(am.1 o).1
theorem mT.Km(s:mT e b u rest):kJ u u.Jw=true:=by
 cases s with
 |bad _ _ f p=>rw[f];exact p
 |ok _ _ _ s=>exact sB s
inductive te(us:List (List UR))(M n:Nat)(u:UR):Prop
 |plain:u.Jw=0→jt u.op u.arg=true→d9 us M n u=(if u.op=32 then⟨32,.num n⟩else u.row)→fo us M u=[]→te us M n u
 |one {x:Int}:u.Jw=1→u.op∈iL→u.arg=.num x→d9 us M n u=⟨u.op,.go (ps us (o4 us M x))⟩→fo us M u=[o4 us M x]→te us M n u
 |hop {k:Nat}:u.Jw=2→u.op∈iL→u.arg=.num (k:Int)→d9 us M n u=⟨u.op,.go (n+k)⟩→fo us M u=[]→te us M n u
 |Lh {x:Int}:u.Jw=3→u.op=69→u.arg=.num x→d9 us M n u=⟨69,.sw ((fo us M u).map (ps us))⟩→(fo us M u).length≤3→te us M n u
theorem kind(s:kJ u u.Jw=true):te us M n u:=by
 obtain⟨op,x,f,dp,pr⟩:=u
 match f with
 |0=>exact .plain rfl s rfl rfl
 |1=>
  have s:=am.1 s;cases x with
  |num x=>exact .one rfl (aT s.1) rfl rfl rfl
  |_=>cases s.2
 |2=>
  have s:=am.1 s;cases x with
  |num x=>cases x with
   |ofNat k=>exact .hop rfl (aT s.1) rfl rfl rfl
   |negSucc k=>cases s.2
  |_=>cases s.2
 |3=>
  have s:=am.1 s;cases x with
  |num x=>
   have e:op=69:=eq_of_beq s.1;subst e;exact .Lh rfl rfl rfl rfl kR
  |_=>cases s.2
theorem lN{op:Int}{x:Arg}(h:jt op x=true):((⟨op,x⟩:aU).Ok∧x.gs=[])∧(op=32→∃y,x=.num y):=by
 cases x with
 |num y=>exact⟨⟨(aT (show decide (op∈fH)=true from h):op∈fH),rfl⟩,fun Z=>⟨y,rfl⟩⟩
 |me k=>
  have o:op=40∨op=111:=(dN.1 (am.1 (show((op==40||op==111)&&(Nat.ble 1 k&&Nat.ble k 4))=true from h)).1).imp eq_of_beq eq_of_beq;exact⟨⟨⟨o,ae (am.1 (am.1 (show((op==40||op==111)&&(Nat.ble 1 k&&Nat.ble k 4))=true from h)).2).1,ae (am.1 (am.1 (show((op==40||op==111)&&(Nat.ble 1 k&&Nat.ble k 4))=true from h)).2).2⟩,rfl⟩,fun e=>by rw[e]at o;exact absurd o (by decide)⟩
 |_=>cases h
theorem te.ok(q:te us M n u):(d9 us M n u).Ok∧tg b (d9 us M n u)=tg b u.row:=by
 cases q with
 |plain _ p e _=>
  rw[e];split
  ·rename_i h;obtain⟨y,hy⟩:=(lN p).2 h;refine⟨show(32:Int)∈fH by decide,?_⟩;show tg b ⟨32,.num n⟩=tg b ⟨u.op,u.arg⟩;rw[h,hy];rfl
  ·exact⟨(lN p).1.1,rfl⟩
 |one _ o x e _=>rw[e];exact⟨o,by show _=tg b ⟨u.op,u.arg⟩;rw[x];rfl⟩
 |hop _ o x e _=>rw[e];exact⟨o,by show _=tg b ⟨u.op,u.arg⟩;rw[x];rfl⟩
 |Lh _ o x e l=>rw[e];exact⟨⟨rfl,by rw[af];exact l⟩,by show _=tg b ⟨u.op,u.arg⟩;rw[x,o];rfl⟩
end
section
variable{us:List (List UR)}{ins:List Nat}{cl:List Cl}{M b c i j k n a g f:Nat}{e:Bool}{u h:UR}{v W rest t:List UR}{R:List aU}{mk:Nat→Int}
theorem BS:ps us us.length=us.flatten.length:=by unfold ps;rw[List.take_length]
theorem u8:ps us j≤us.flatten.length:=by
 have:us.flatten=(us.take j).flatten++(us.drop j).flatten:=by rw[←dO,List.take_append_drop]
 rw[this,ai];exact bD _ _
theorem Ah(q:us[j]? =some (h::t)):us.flatten[ps us j]? =some h:=by
 have:us=us.take j++((h::t)::us.drop (j+1)):=by rw[←(ag.1 q).2,←List.drop_eq_getElem_cons (ag.1 q).1,List.take_append_drop]
 have f:us.flatten=(us.take j).flatten++(h::(t++(us.drop (j+1)).flatten)):=(aj List.flatten this).trans (by rw[dO];rfl);rw[f];exact jf
inductive Fx(us:List (List UR))(b i j:Nat):Prop
 |mk {h:UR}:us.flatten[ps us j]? =some h→h.pre=i→(i=0∨(1≤(tg b h.row).1∧h.Jw=0))→Fx us b i j
theorem jX.head(U:jX e b us ins)(q:ins[j]? =some i):Fx us b i j:=by
 have l:j<us.length:=U.len▸(ag.1 q).1;have o:=U.each j i us[j] (bw l) q;cases hv:us[j] with
 |nil=>rw[hv]at o;cases o
 |cons h t=>
  rw[hv]at o;obtain⟨o1,o⟩:=am.1 o;refine⟨Ah ((bw l).trans (aj some hv)),bI o1,(dN.1 (am.1 o).1).imp bI fun o=>?_⟩;exact⟨ae (am.1 o).1,bI (am.1 o).2⟩
noncomputable def yL(W:List UR)(j:Nat):Nat:=(W[j]?.map UR.pre).getD 0
theorem lE(q:W[j]? =some u):yL W j=u.pre:=by unfold yL;rw[q];rfl
theorem vh(o:nxt e a (W.drop j)=true)(q:W[j]? =some u):yL W j=a:=by
 rw[lE q];have:(W.drop j)[0]? =some u:=by rw[List.getElem?_drop];exact q
 cases hd:W.drop j with
 |nil=>rw[hd]at this;exact nomatch this
 |cons x _=>rw[hd]at this o;obtain rfl:=ah (this);exact bI o
theorem si(U:jX e b us ins)(Z:Sz us M){x:Int}(m:a∈j0 us M x f)(nb:hZ ins a=false)(l:ps us a<us.flatten.length):yL us.flatten (ps us a)=0:=by
 have la:a<ins.length:=U.len▸Nat.lt_of_le_of_ne (qH Z a m) fun e=>by rw[e,BS]at l;exact aZ _ l
 unfold hZ at nb;rw[(bw la)]at nb;have nb:(!Nat.beq ins[a] 0)=false:=nb
 have z:ins[a]=0:=bI (by cases hz:Nat.beq ins[a] 0 with
  |true=>rfl
  |false=>rw[hz]at nb;exact nomatch nb)
 obtain⟨p,e,_⟩:=U.head (bw la);rw[lE p,e,z]
theorem zv(U:jX e b us ins)(hb:(fo us M u).any (hZ ins)=true):∃a h,a∈fo us M u∧us.flatten[ps us a]? =some h∧1≤(tg b h.row).1∧h.Jw=0:=by
 obtain⟨a,m,o⟩:=dr.1 hb;cases q:ins[a]? with
 |none=>unfold hZ at o;rw[q]at o;exact nomatch o
 |some i=>
  unfold hZ at o;rw[q]at o;obtain⟨p,_,z⟩:=U.head q;rcases z with rfl|z
  ·exact nomatch o
  ·exact⟨a,_,m,p,z⟩
variable{r:aU}
theorem qh(h:eQ n r=true):∀g∈r.gs,g<n:=fun g m=>aT (List.all_eq_true.1 h g m)
theorem mM(s:kJ u u.Jw=true):tg b (d9 us M n u)=tg b u.row:=(kind (us:=us) (M:=M) (n:=n) s).ok.2
theorem yh(s:kJ u u.Jw=true):fQ b (d9 us M n u) k=fQ b u.row k:=by
 unfold fQ;rw[mM s,qI]
theorem kr(h:u.Jw=0)(p:jt u.op u.arg=true):(d9 us M n u).gs=[]:=by
 have s:kJ u u.Jw=true:=h▸p;cases kind (us:=us) (M:=M) (n:=n) s with
 |plain _ p e _=>
  rw[e];split
  ·rfl
  ·exact(lN p).1.2
 |one f _ _ _ _=>rw[h]at f;exact nomatch f
 |hop f _ _ _ _=>rw[h]at f;exact nomatch f
 |Lh f _ _ _ _=>rw[h]at f;exact nomatch f
theorem zs{x y z:Bool}(h:(x&&y&&z)=true):z=true:=(am.1 h).2
section
variable(U:jX e b us ins)(Z:Sz us M)(hn:R.length=us.flatten.length)(hR:∀j v,us.flatten[j]? =some v→eQ us.flatten.length (d9 us M j v)=true→R[j]? =some (d9 us M j v))(q:us.flatten[i]? =some u)(hf:eQ us.flatten.length (d9 us M i u)=true)(hm:mk i=eD us ins M u)
include U Z q hf
theorem xk(s:Ei e u (us.flatten.drop (i+1)) a u.Jw=true)(nb:(fo us M u).any (hZ ins)=false):∀g∈(d9 us M i u).gs,yL us.flatten g=a:=fun g m=>by
 have l:=qh hf g m
 have nb:∀x∈fo us M u,hZ ins x=false:=fun x m=>by
  cases hb:hZ ins x with
  |false=>rfl
  |true=>rw[dr.2 ⟨x,m,hb⟩]at nb;exact nomatch nb
 cases kind (us:=us) (M:=M) (n:=i) (sB s) with
 |plain f p _ _=>rw[kr f p]at m;exact nomatch m
 |one f _ hx er ea=>
  rw[f]at s;rw[er]at m;obtain rfl:=aq.1 m;rw[si U Z (f:=1) (.head _) (nb _ (ea▸.head _)) l,bI (zs s)]
 | @hop k f _ hx er _=>
  rw[f]at s;rw[er]at m;obtain rfl:=aq.1 m;obtain⟨k',e',o,_⟩:=oy (am.1 s).2;rw[hx]at e';obtain rfl:=(show k=k'+1 from aX (aj yy e'));rw[List.drop_drop]at o;have e2:i+(k'+1)=i+1+k':=by rw[bO,cv 1]
  rw[e2]at l ⊢;exact vh o (bw l)
 |Lh f _ _ er _=>
  rw[f]at s;rw[er]at m;obtain⟨x,m',rfl⟩:=aP.1 m;rw[si U Z m' (nb x m') l,bI (zs s)]
include hn hR hm
theorem HM:v8 R b mk (yL us.flatten) i (d9 us M i u):=by
 have rs:=qz (kH U.ck q);have s0:=rs.Km;have ha:=yh (us:=us) (M:=M) (n:=i) (b:=b) (k:=u.pre) s0;have hp:=lE q;cases rs with
 |bad n d f p=>
  refine .under ?_ (by rw[hp,(mM (us:=us) (M:=M) (n:=i) (b:=b) s0)];exact n)
  rw[hm];unfold eD;rw[show fo us M u=[] by unfold fo;rw[f];rfl];exact d
 |ok t d fl s=>
  have lt:(tg b (d9 us M i u)).1≤yL us.flatten i:=by rw[hp,(mM (us:=us) (M:=M) (n:=i) (b:=b) s0)];exact t
  cases hb:(fo us M u).any (hZ ins) with
  |true=>
   obtain⟨x,h,m,hx,t1,hf0⟩:=zv U hb;have mk1:mk i=-1:=by rw[hm];unfold eD;rw[hb];rfl
   have hs:jt h.op h.arg=true:=by have:=(qz (kH U.ck hx)).Km;rw[hf0]at this;exact this
   have fh:eQ us.flatten.length (d9 us M (ps us x) h)=true:=by unfold eQ;rw[kr hf0 hs];rfl
   have th:tg b (d9 us M (ps us x) h)=tg b h.row:=mM (hf0▸hs)
   have fin (a0:fQ b u.row u.pre=0) (mg:ps us x∈(d9 us M i u).gs):v8 R b mk (yL us.flatten) i (d9 us M i u):=
    .into mk1 lt (eL.2 (.inr mg)) (hR _ h hx fh) (by rw[hp,ha];exact a0) (by rw[th];exact Nat.not_le.2 t1)
   cases kind (us:=us) (M:=M) (n:=i) s0 with
   |plain _ _ _ ea=>rw[ea]at m;exact nomatch m
   |one f _ _ er ea=>rw[f]at s;rw[ea]at m;exact fin (bI (zs s)) (by rw[er,aq.1 m];exact .head _)
   |hop _ _ _ _ ea=>rw[ea]at m;exact nomatch m
   |Lh f _ _ er _=>rw[f]at s;exact fin (bI (zs s)) (by rw[er];exact bV m)
  |false=>
   refine .good lt ?_ fun g m=>?_
   ·rw[hm,hp,ha];unfold eD;rw[hb];exact d
   ·rw[hp,ha];rcases eL.1 m with⟨x,l,rfl⟩|m
    ·rw[qI]at x;exact vh (fl.resolve_left fun y=>by rw[x]at y;exact nomatch y) (bw (hn▸l))
    ·exact xk U Z q hf s hb g m
end
end
section
variable{A B:List aU}{C L:List Cl}{w:Nat→Prop}{i j n:Nat}{c:Cl}{r:aU}
structure iw(A B:List aU)(w:Nat→Prop):Prop where
 len:A.length=B.length
 same:∀i,¬w i→A[i]? =B[i]?
 KU:∀i r,w i→A[i]? =some r→r.op≠65041
 Lj:∀i r,w i→B[i]? =some r→r.op≠65041
theorem iw.symm(h:iw A B w):iw B A w:=⟨h.len.symm,fun i n=>(h.same i n).symm,h.Lj,h.KU⟩
theorem iw.reach(h:iw A B w)(q:bf A L i):bf B L i∨∃j,w j∧bf B L j:=by
 induction q with
 |zero l=>exact .inl (.zero (h.len▸l))
 | @go i r g q e m l ih=>
  refine ih.elim (fun q=>?_) .inr;exact(Classical.em (w i)).elim (fun k=>.inr ⟨i,k,q⟩) fun k=>.inl (.go q ((h.same i k).symm.trans e) m (h.len▸l))
 | @fall i r q e x l ih=>
  refine ih.elim (fun q=>?_) .inr;exact(Classical.em (w i)).elim (fun k=>.inr ⟨i,k,q⟩) fun k=>.inl (.fall q ((h.same i k).symm.trans e) x (h.len▸l))
 |hand q m t0 t1 g l ih=>exact ih.imp (fun q=>.hand q m t0 t1 g (h.len▸l)) id
theorem iw.closes(h:iw A B w)(q:i3 A c i):i3 B c i:=by
 obtain⟨s,e,p,o⟩:=q;exact⟨s,e,(h.same i fun k=>h.KU i _ k p o).symm.trans p,o⟩
section
variable(h:iw A B w)(n1:∀j,w j→¬bf A (dZ C) j)
include h n1
theorem iw.no:∀j,w j→¬bf B (dZ C) j:=fun j k q=>(h.symm.reach q).elim (n1 j k) fun⟨j,k,q⟩=>n1 j k q
theorem iw.iff:bf A (dZ C) i↔bf B (dZ C) i:=
 ⟨fun q=>(h.reach q).resolve_right fun⟨j,k,q⟩=>h.no n1 j k q,fun q=>(h.symm.reach q).resolve_right fun⟨j,k,q⟩=>n1 j k q⟩
theorem iw.dL:dL A C=dL B C:=by
 unfold Mine.dL;rw[show RF A (dZ C)=RF B (dZ C)from Af (by rw[fM,fM];exact h.len) fun i=>by rw[fY,fY];exact h.iff n1]
theorem iw.dK:dK A C=dK B C:=Af (by rw[nM,nM];exact h.len) fun i=>by
 rw[i8,i8,h.dL n1];exact or_congr (h.iff n1) ⟨by rintro⟨c,m,q⟩;exact⟨c,m,h.closes q⟩,by rintro⟨c,m,q⟩;exact⟨c,m,h.symm.closes q⟩⟩
theorem iw.rows:cq (Mine.dK A C) A=dR B C:=by
 have l1:(cq (Mine.dK A C) A).length=(dR B C).length:=by rw[cO,cO,h.dK n1,h.len]
 refine List.ext_getElem? fun u=>?_
 by_cases l:u<(cq (Mine.dK A C) A).length
 ·have q:=bw l;obtain⟨z,r,k,p,e,e'⟩:=eA.1 q
  have p':B[z]? =some r:=(i8.1 k).elim (fun d=>(h.same z fun k=>n1 z k d).symm.trans p) fun⟨c,Z1,⟨Z2,Z3,p',o⟩⟩=>by
   obtain rfl:=ah (p.symm.trans p');exact(h.same z fun k=>h.KU z _ k p o).symm.trans p
  rw[q,e',e,h.dK n1];exact(ei (h.dK n1▸k) p').symm
 ·have l:=bS.1 l;rw[bn l,bn (l1▸l)]
end
end
section
variable{us:List (List UR)}{ins:List Nat}{cl C:List Cl}{M b c i j k n a g d:Nat}{e:Bool}{u h:UR}{r:aU}{K0:List aU}{m:List Int}{q:Int}
noncomputable def rP(K0:List aU)(j:Nat):Prop:=∃r,K0[j]? =some r∧eQ K0.length r=false
noncomputable abbrev q8(K0:List aU):List aU:=K0.map (mW K0.length)
theorem l4(ho:r.Ok):(kK n r).Ok∧(∀g∈(kK n r).gs,g<n)∧(kK n r).op≠65041:=by
 unfold kK;split
 ·exact⟨⟨rfl,aa (bH _ _) ho.short⟩,fun g m=>aT (bR.1 m).2,show(69:Int)≠65041 by decide⟩
 ·split
  ·exact⟨show(42:Int)∈fH by decide,(by intro _ h;cases h),by decide⟩
  ·exact⟨show(0:Int)∈fH by decide,(by intro _ h;cases h),by decide⟩
theorem uQ(h:K0[i]? =some r):(q8 K0)[i]? =some (mW K0.length r):=by rw[aV,h];rfl
theorem kO(h:eQ n r=true):mW n r=r:=by unfold mW;rw[h];rfl
theorem rh(h:eQ n r=false):mW n r=kK n r:=by unfold mW;rw[h];rfl
theorem rS(A:Wf K0 C):ct (q8 K0) C:=by
 have l:(q8 K0).length=K0.length:=af _
 have F:∀r∈K0,(mW K0.length r).Ok∧∀g∈(mW K0.length r).gs,g<K0.length:=fun r m=>by
  cases h:eQ K0.length r with
  |true=>rw[kO h];exact⟨A.ok r m,qh h⟩
  |false=>rw[rh h];have f:=l4 (n:=K0.length) (A.ok r m);exact⟨f.1,f.2.1⟩
 have G:∀r∈q8 K0,r.Ok∧∀g∈r.gs,g<K0.length:=fun r m=>by obtain⟨r,m',rfl⟩:=aP.1 m;exact F r m'
 exact⟨⟨fun r m=>(G r m).1,fun r m g k=>by rw[l];exact aE ((G r m).2 g k),fun c m=>by rw[l];exact A.cin c m,A.few,by rw[l];exact A.len⟩,fun j r h g m=>by rw[l];exact(G r (ay h)).2 g m⟩
theorem wp(A:Wf K0 C):iw K0 (q8 K0) (rP K0):=by
 refine⟨(af _).symm,fun i n=>?_,fun i r ⟨r',h,f⟩ e o=>?_,fun i r ⟨r',h,f⟩ e=>?_⟩
 ·rw[aV];cases h:K0[i]? with
  |none=>rfl
  |some r=>
   cases f:eQ K0.length r with
   |true=>exact aj some (kO f).symm
   |false=>exact absurd ⟨r,h,f⟩ n
 ·cases h.symm.trans e;unfold eQ at f;rw[yQ (A.ok r (ay h)) o]at f;exact nomatch f
 ·obtain rfl:=ah ((uQ h).symm.trans e);rw[rh f];exact(l4 (A.ok r' (ay h))).2.2
inductive EM(b:Nat)(K0:List aU)(C:List Cl)(m:List Int):Prop
 |mk {pr:Nat→Nat}:Wf K0 C→0<K0.length→K0.length≤60→C.length≤2→m.length=K0.length→((∀j,rP K0 j→¬bf (q8 K0) (dZ C) j)→oH (q8 K0) C b (fun i=>m[i]?.getD 0) pr)→EM b K0 C m
theorem uX(q:(hU us M 0 us.flatten)[i]? =some r):∃u,us.flatten[i]? =some u∧r=d9 us M i u:=by
 have l:=(ag.1 q).1;rw[kM]at l;have h:=qs (us:=us) (M:=M) (n:=0) (bw l);rw[q,cI]at h;exact⟨_,bw l,ah h⟩
section
variable(D:Dr e b c M us ins cl)
include D
theorem sR(q:us.flatten[i]? =some u):kJ u u.Jw=true:=(qz (kH D.ok.ck q)).Km
theorem vp(h:j<us.length):ps us j<us.flatten.length:=by
 obtain⟨p,_⟩:=D.ok.head (bw (D.ok.len.symm▸h));exact(ag.1 p).1
theorem CK(q:us.flatten[i]? =some u):∀g∈(d9 us M i u).gs,g≤us.flatten.length:=fun g m=>by
 have o:=qz (kH D.ok.ck q);cases kind (us:=us) (M:=M) (n:=i) o.Km with
 |plain f p _ _=>rw[kr f p]at m;exact nomatch m
 |one _ _ _ er _=>rw[er]at m;obtain rfl:=aq.1 m;exact u8
 | @hop k f _ hx er _=>
  rw[er]at m;obtain rfl:=aq.1 m;cases o with
  |bad _ _ f' _=>rw[f]at f';exact nomatch f'
  |ok _ _ _ s=>
   rw[f]at s;obtain⟨k',e',_,l⟩:=oy (am.1 s).2;rw[hx]at e';obtain rfl:=(show k=k'+1 from aX (aj yy e'));rw[List.length_drop]at l;have:=aR l (i+1);rw[Nat.add_sub_cancel' ((ag.1 q).1)]at this;rw[←bO,b7];exact this
 |Lh _ _ _ er _=>rw[er]at m;obtain⟨x,_,rfl⟩:=aP.1 m;exact u8
theorem Em{x:Cl}(h:vU us ins M x):(tD us x j).In us.flatten.length:=by
 have xl (s:x.s=1):x.x<us.length:=D.ok.len▸(ag.1 (h.x s)).1;refine⟨vp D (aS h.t0 D.le),vp D h.h0,fun s=>?_,u8,u8⟩;show(if x.s=0 then 70+j else if x.s=1 then ps us x.x else 0)<_;rw[aC (c:=x.s=0) (by rw[show x.s=1 from s];decide),aB (show x.s=1 from s)];exact vp D (xl s)
theorem zM{x:Cl}(h:vU us ins M x):∀p∈dQ (tD us x j),yL us.flatten p.1=p.2:=fun p m=>by
 unfold dQ at m;rcases az.1 m with rfl|m
 ·obtain⟨q,e,_⟩:=D.ok.head h.beg;refine(lE q).trans (e.trans ?_);exact ite_congr (propext ⟨fun l=>(dA.1 l).imp Nat.lt_one_iff.1 id,fun o=>o.elim (fun e=>aF (bu e) (a8 _)) fun e=>aF (bu e) (a4 _)⟩) (fun Z=>rfl) fun Z=>rfl
 ·split at m
  ·rename_i s;obtain rfl:=aq.1 m;obtain⟨q,e,_⟩:=D.ok.head (h.x s);show yL us.flatten (if x.s=0 then 70+j else if x.s=1 then ps us x.x else 0)=1;rw[aC (c:=x.s=0) (by rw[show x.s=1 from s];decide),aB (show x.s=1 from s)];exact(lE q).trans e
  ·exact nomatch m
end
theorem Dr.law0(D:Dr e b c M us ins cl)(hc:c≤2)(Z:Sz us M):EM b (hU us M 0 us.flatten) (sA us cl) (us.flatten.map (eD us ins M)):=by
 have ln:(hU us M 0 us.flatten).length=us.flatten.length:=kM _ _
 have cm {x} (h:x∈sA us cl):∃y j,y∈cl∧x=tD us y j:=by
  obtain⟨p,m,rfl⟩:=aP.1 h;exact⟨p.1,p.2,List.fst_mem_of_mem_zipIdx m,rfl⟩
 have cl2:(sA us cl).length=c:=by unfold sA;rw[af,List.length_zipIdx,D.few]
 have W:Wf (hU us M 0 us.flatten) (sA us cl):=by
  have row r (m:r∈hU us M 0 us.flatten):∃i u,us.flatten[i]? =some u∧r=d9 us M i u:=by
   obtain⟨i,q⟩:=dn.1 m;obtain⟨u,q,e⟩:=uX q;exact⟨i,u,q,e⟩
  refine⟨fun r m=>?_,fun r m g mg=>?_,fun x m=>?_,by rw[cl2];exact aa hc (by decide),by rw[ln];exact aa (show us.flatten.length≤60 from aa D.flat (aa (aR (bW 12 hc) 18) (by decide))) (by decide)⟩
  ·obtain⟨i,u,q,rfl⟩:=row r m;exact((kind (us:=us) (M:=M) (n:=i) (sR D q)).ok (b:=b)).1
  ·obtain⟨i,u,q,rfl⟩:=row r m;rw[ln];exact CK D q g mg
  ·obtain⟨y,j,my,rfl⟩:=cm m;rw[ln];exact Em D (D.each y my)
 refine⟨W,?_,by rw[ln];exact(show us.flatten.length≤60 from aa D.flat (aa (aR (bW 12 hc) 18) (by decide))),by rw[cl2];exact hc,by rw[af,ln],fun nw=>(⟨?_,fun i r q er=>?_,fun x m p mp=>?_⟩:oH _ _ _ _ (yL us.flatten))⟩
 ·rw[ln];exact aF (aQ _) (vp D (aS D.pos D.le))
 ·obtain⟨p,e,_⟩:=D.ok.head D.zero;exact(lE p).trans e
 ·rw[aV,bY]at er;obtain⟨r0,e0,rfl⟩:=er;obtain⟨u,qu,rfl⟩:=uX e0
  have f:eQ (hU us M 0 us.flatten).length (d9 us M i u)=true:=by
   cases hf:eQ (hU us M 0 us.flatten).length (d9 us M i u) with
   |true=>rfl
   |false=>exact absurd q (nw i ⟨_,e0,hf⟩)
  rw[kO f];rw[ln]at f;refine HM D.ok Z (by rw[af,ln]) (fun j v qv fv=>?_) qu f ?_
  ·have:=uQ ((qs (us:=us) (M:=M) (n:=0) qv).trans (by rw[cI]));rw[kO (ln.symm▸fv)]at this;exact this
  ·show((us.flatten.map (eD us ins M))[i]?).getD 0=_;rw[aV,qu];rfl
 ·obtain⟨y,j,my,rfl⟩:=cm m;exact zM D (D.each y my) p mp
end
section
variable{A0 T T':List aU}{C D S TC TC':List Cl}{b i n:Nat}{v w vS:Int}{c:Cl}{φ:Nat→Nat}
theorem fS.len(I:fS A0 C T TC):T.length≤A0.length:=by
 induction I with
 |done _=>exact uv
 |more _ _ ih=>exact aa ih uv
theorem pW:(dR A0 C).length≤A0.length:=cO▸nV _
theorem ct.sub(A:ct A0 C)(h:S.Sublist C):ct A0 S:=⟨⟨A.ok,A.goals,fun c m=>A.cin c (h.mem m),aa h.length_le A.few,A.len⟩,A.fine⟩
open Classical in
noncomputable def jz(K:List Bool)(c:Cl):Bool:=decide (jg K c)&&decide (c.h0<c.h1)
open Classical in
theorem pQ{K:List Bool}:jz K c=true↔jg K c∧c.h0<c.h1:=by
 unfold jz;rw[dY,bU,bU]
theorem lc:dL A0 C=C.filter (jz (RF A0 (dZ C))):=by
 unfold dL Ab dZ;rw[List.filter_filter];rfl
theorem jM:(dL A0 C).Sublist C:=by rw[lc];exact List.filter_sublist
inductive Gl(A0:List aU)(C:List Cl)(T:List aU)(TC:List Cl)(b:Nat):Prop
 |mk {v vS:Int}:DV A0 C b v→DV T TC b v→DV T (dL T TC) b vS→(∀w,DV A0 (dL A0 C) b w→(0≤v→0≤w∧w≤v)∧(0≤w→0≤vS∧vS≤w)∧((dL A0 C).length=C.length→w=v)∧((dL T TC).length=(dL A0 C).length→vS=w))→Gl A0 C T TC b
theorem wS.deps(A:ct A0 C)(h0:0<A0.length)(hb:b<2)(t:wS A0 C T TC):Gl A0 C T TC b:=by
 obtain⟨φ,Q,A',rfl,B,p,dv,m,lv⟩:=t;obtain⟨v,V⟩:=DV.ex A h0 hb;have e:dL T (C.map (Cl.map φ))=(C.filter (jz (RF T (dZ (C.map (Cl.map φ))))∘Cl.map φ)).map (Cl.map φ):=by rw[lc,List.filter_map]
 have imp:∀c∈C,(jz (RF T (dZ (C.map (Cl.map φ))))∘Cl.map φ) c=true→jz (RF A0 (dZ C)) c=true:=fun c q h=>by
  have h:=pQ.1 h;exact pQ.2 ⟨lv c q h.1,m c q h.2⟩
 have sub:(C.filter (jz (RF T (dZ (C.map (Cl.map φ))))∘Cl.map φ)).Sublist (dL A0 C):=by
  rw[show C.filter (jz (RF T (dZ (C.map (Cl.map φ))))∘Cl.map φ)=(dL A0 C).filter (jz (RF T (dZ (C.map (Cl.map φ))))∘Cl.map φ)from by
   rw[lc,List.filter_filter];refine List.filter_congr fun c q=>?_
   cases h:(jz (RF T (dZ (C.map (Cl.map φ))))∘Cl.map φ) c with
   |false=>rfl
   |true=>exact(imp c q h).symm]
  exact List.filter_sublist
 generalize C.filter (jz (RF T (dZ (C.map (Cl.map φ))))∘Cl.map φ)=S at e sub;obtain⟨vS,VS⟩:=DV.ex (A.sub (sub.trans jM)) h0 hb;refine⟨V,dv b C v (fun Z h=>h) V,e▸dv b S vS (fun c h=>jM.mem (sub.mem h)) VS,fun w D=>⟨D.mono (fun c h=>jM.mem h) V,VS.mono (fun c h=>sub.mem h) D,fun l=>?_,fun l=>?_⟩⟩
 ·rw[jM.eq_of_length l]at D;exact D.inj V
 ·rw[e,af]at l;rw[sub.eq_of_length l]at VS;exact VS.inj D
end
section
variable{A0 T T' td:List aU}{C TC tdC:List Cl}{b i n d:Nat}{e2:List V}
theorem uy(t:wS A0 [] T TC):TC=[]:=by
 obtain⟨_,_,_,e,_⟩:=t;exact e
theorem w9(A:ct A0 [])(h0:0<A0.length)(hn:A0.length≤60)(I:fS A0 [] T TC)(J:fS (dR A0 []) [] td tdC):callF tab (d+6) 55 [aL A0,fB td tdC [],fB (dR T TC) (dC T TC) e2]=ok (.bool true,[]):=by
 obtain rfl:=uy (I.thr A h0);obtain rfl:=uy (J.thr A.dead (xM h0));have GT:=(I.fix A).good;have Gd:ct td []:=(J.fix A.dead).good;obtain⟨N,e52⟩:=IP (d:=d+3) A h0 hn;obtain⟨Ia,ea⟩:=GT.dead.ti;obtain⟨Ib,eb⟩:=Gd.dead.ti;obtain⟨N1,rfl,rfl⟩:=A.own1 h0 I Ia;obtain⟨N2,rfl,rfl⟩:=A.own2 h0 J Ib;have k1:=N1.one N;have k2:=N2.one N;subst k1;subst k2;have Go:=(Ia.fix GT.dead).good;refine I6 e52 (Gd.c24 d) (ea d) (eb d) (((c18 (d:=d+1) Go.ok Go.few' Go.len).resolve_right fun h=>by obtain⟨_,i,_,n⟩:=h;exact n (Go.fine i)).1) (Bool.eq_false_iff.2 fun h=>?_);obtain⟨x,m,e⟩:=dr.1 h;obtain rfl:=eq_of_beq e;obtain⟨u,q⟩:=dn.1 m;have r:=(fY u).2 (NF.all A.T N1 (fM▸(ag.1 q).1));rw[q]at r;exact nomatch r
variable{m:List Int}{q w:Int}{pr:Nat→Nat}{F:FT}{ρ:Env}{mk:Nat→Int}
theorem oH.max(P:oH A0 C b mk pr)(A:ct A0 C)(n:∀i,bf A0 (dZ C) i→mk i≠-1)(q:bf A0 (dZ C) i)(e:mk i=w)(hw:∀j,bf A0 (dZ C) j→mk j≤w):DV A0 (dL A0 C) b w:=by
 have k:∃k:Nat,mk i=k:=by
  cases P.row i _ q (bw q.lt) with
  |good _ a _=>exact⟨_,a⟩
  |under a _=>exact absurd a (n i q)
  |into a _ _ _ _ _=>exact absurd a (n i q)
 obtain⟨k,hk⟩:=k;obtain rfl:=e.symm.trans hk;exact P.yes A n q e hw
theorem yK:∀{l:List Int},l≠[]→∃b∈l,∀x∈l,x≤b
 | [],h=>absurd rfl h
 | [a],_=>⟨a,.head _,fun x m=>aq.1 m▸Int.le_refl _⟩
 |a::c::l,_=>by
  obtain⟨b,m,h⟩:=yK (l:=c::l) (by intro h;cases h);rcases Int.le_total a b with g|g
  ·exact⟨b,.tail _ m,fun x m=>(az.1 m).elim (fun e=>e▸g) (h x)⟩
  ·exact⟨a,.head _,fun x m=>(az.1 m).elim (fun e=>e▸Int.le_refl _) fun m=>Int.le_trans (h x m) g⟩
noncomputable def FB(x0 x2 x3 x4 x8:V)(q:Int)(m:List Int)(C:List Cl)(A0:List aU)(x11 x13:Option (Bool×V))(r:Env):Env:=some (false,x0)::some (false,.int q)::some (false,x2)::some (false,x3)::some (false,x4)::some (false,.Jq (m.map .int))::some (false,bF C)::some (false,aL A0)::some (false,x8)::some (false,bv (RF A0 (dZ C)))::none::x11::none::x13::r
noncomputable def jq(A0:List aU)(C:List Cl)(m:List Int):List Int:=((List.range A0.length).filter fun x=>(RF A0 (dZ C))[x]?.getD false).map fun x=>m[x]?.getD 0
theorem jG{x:Int}:x∈jq A0 C m↔∃i,bf A0 (dZ C) i∧m[i]?.getD 0=x:=by
 unfold jq;rw[aP];refine exists_congr fun i=>and_congr ?_ .rfl
 rw[bR,bP,mJ];exact⟨fun h=>(fY i).1 h.2,fun h=>⟨h.lt,(fY i).2 h⟩⟩
variable{x0 x2 x3 x4 x8:V}{x11 x13 y1 y2 y3 y4 y5 y6 y7 y8 y9 y10:Option (Bool×V)}
theorem EB(hm:m.length=A0.length)(hl:A0.length≤60):aY F (.Jz (.h .item (.c 5) (.c 12)) 12 (.un .range (.un .len (.c 7))) (.h .item (.c 9) (.c 12))) (FB x0 x2 x3 x4 x8 q m C A0 x11 x13 [y1,y2,y3,y4,y5,y6,y7,y8,y9,y10])=ok (.Jq ((jq A0 C m).map .int)):=by
 unfold jq;rw[cH];refine jc (enc:=nv) _ (ym (d7 rfl (a7 _ _)) (show A0.length≤lim from aa hl (ae rfl))) (ya _) (aO▸(show A0.length≤lim from aa hl (ae rfl))) (fun x h=>?_) fun x h Z=>?_
 ·have g:=bw (fM (rows:=A0) (cls:=dZ C)▸bP.1 h);rw[g];exact⟨_,aD rfl rfl (aW g),rfl⟩
 ·have g:=bw (hm.symm▸bP.1 h);show _=ok (V.int (m[x]?.getD 0));rw[g];exact aD rfl rfl (aW g)
inductive F5(A0:List aU)(C:List Cl)(b:Nat)(m:List Int):Prop
 |mk {w:Int}:DV A0 (dL A0 C) b w→(∀(F:FT)(ρ:Env)(i:Nat),qZ ρ i=ok (.Jq ((jq A0 C m).map .int))→aY F (.J2 (.h .JK (.f (.int (-1))) (.c i)) (.f (.int (-1))) (.un .max (.c i))) ρ=ok (.int w))→F5 A0 C b m
theorem Fm(A:ct A0 C)(h0:0<A0.length)(P:oH A0 C b (fun i=>m[i]?.getD 0) pr):F5 A0 C b m:=by
 have ii (F:FT) (ρ:Env) (i:Nat) (h:qZ ρ i=ok (.Jq ((jq A0 C m).map .int))):aY F (.h .JK (.f (.int (-1))) (.c i)) ρ=ok (.bool (decide ((-1:Int)∈jq A0 C m))):=aD rfl h (aj (fun r=>bc r fun b=>ok (V.bool b)) (uV _ _));by_cases h:(-1:Int)∈jq A0 C m
 ·obtain⟨i,q,e⟩:=jG.1 h;exact⟨P.no q (bw q.lt) e,fun F ρ i g=>jZ (ii F ρ i g) (aj some (ak h)) rfl⟩
 ·obtain⟨w,mw,hw⟩:=yK (l:=jq A0 C m) (fun e=>by have q:m[0]?.getD 0∈jq A0 C m:=jG.2 ⟨0,.zero h0,rfl⟩;rw[e]at q;exact nomatch q);obtain⟨i,q,e⟩:=jG.1 mw;exact⟨P.max A (fun i q e=>h (jG.2 ⟨i,q,e⟩)) q e fun j q=>hw _ (jG.2 ⟨j,q,rfl⟩),fun F ρ i g=>jZ (ii F ρ i g) (aj some (ao h)) (d7 g (EL mw hw))⟩
theorem E8(e:q%2=(b:Nat)){ρ:Env}(h:qZ ρ 1=ok (.int q)):aY (callF tab (d+3)) (.J6 57 (.cons (.call 62 .nil) (.cons (.h .add (.f (.int 5)) (.h .fmod (.c 1) (.f (.int 2)))) .nil))) ρ=ok (gr b):=by
 have e2:aY (callF tab (d+3)) (.h .add (.f (.int 5)) (.h .fmod (.c 1) (.f (.int 2)))) ρ=ok (.int (5+b)):=aD rfl (aD h rfl (aj (fun i=>ok (V.int i)) e)) rfl;exact bq (a6 (bj rfl (IO (d:=d))) (a6 e2 rfl)) (bq (a:=[pU,.int (5+b)]) rfl (bq (I8 (d:=d+2) b) rfl))
end
section
variable{A0 T td:List aU}{C TC tdC:List Cl}{b i n d:Nat}{m:List Int}{q w:Int}{pr:Nat→Nat}{F:FT}{ρ:Env}{x0 x2 x3 x4 x8:V}{x11 x13:Option (Bool×V)}
noncomputable abbrev oV(v:V):Option (Bool×V):=some (false,v)
noncomputable abbrev dV(R:List aU)(C:List Cl):V:=fB (dR R C) (dC R C) [cW (PL (dK R C))]
noncomputable abbrev bT:CS:=iR.tl.tl.tl.tl.tl.tl.tl.tl
theorem ct.c18(A:ct A0 C)(L:List Cl)(hl:L.length≤lim)(d:Nat):callF tab (d+4) 18 [aL A0,bF L]=ok (bv (RF A0 L),[]):=((Mine.c18 (d:=d) A.ok hl A.len).resolve_right fun h=>by obtain⟨_,i,_,n⟩:=h;exact n (A.fine i)).1
theorem ct.c50(A:ct A0 C)(d:Nat):callF tab (d+1) 50 [bv (RF A0 (dZ C)),bF C]=ok (bF (dL A0 C),[]):=
 Mine.c50 (fun c m=>have I:=A.cin c m;have l:=aa A.len (ae rfl:1000≤lim);⟨aa (aE I.1) l,aa I.2.2.2.1 l⟩) A.few'
theorem BA{e:CE}{l:List V}(h:aY F e ρ=ok (.Jq l))(hl:l.length≤lim):aY F (.un .JF e) ρ=ok (.Jq l):=d7 h (bq (a:=l) rfl (cY hl rfl))
theorem yP{e:CE}{x:Bool}(h:aY F e ρ=ok (.bool x)):aY F (.un .not e) ρ=ok (.bool !x):=d7 h rfl
theorem EX{e1 e2:CE}{s t:CS}{io:List Nat}{r:R (Flow×Env)}(h1:aY F e1 ρ=ok (.bool false))(h2:aY F e2 ρ=ok (.bool false))(k:bJ F io t ρ=r):bJ F io (.seq (.p (.D e1 e2) s .k) t) ρ=r:=ax (eH (mh h1 rfl rfl h2) rfl rfl) k
theorem EJ(R:List aU)(C:List Cl)(l:List Nat):iQ 20 (fB R C [cW l])=true:=xB R C (e:=[cW l]) (by show(_&&true)=true;rw[Bool.and_true];exact all_map (fun Z=>rfl) l)
structure TD(A0:List aU)(C:List Cl)(T:List aU)(TC:List Cl)(td:List aU)(tdC:List Cl):Prop where
 i:fS A0 C T TC
 j:fS (dR A0 C) (dC A0 C) td tdC
 e30:∀d,callF tab (d+5) 30 [aL A0,bF C]=ok (fB T TC [],[])
 e30d:∀d,callF tab (d+5) 30 [aL (dR A0 C),bF (dC A0 C)]=ok (fB td tdC [],[])
theorem EE(A:ct A0 C)(t:TD A0 C T TC td tdC)(hc:C.length≤lim){z}(k:bJ (callF tab 40) [] bT.tl.tl.tl.tl.tl.tl.tl.tl.tl.tl (FB x0 x2 x3 x4 x8 q m C A0 x11 x13 [oV (fB A0 C []),oV (fB A0 C []),oV (fB T TC []),oV (dV A0 C),oV (fB td tdC []),oV (dV T TC),oV (bF (dL A0 C)),oV (bF (dL T TC)),none,none])=z):bJ (callF tab 40) [] bT (FB x0 x2 x3 x4 x8 q m C A0 x11 x13 [none,none,none,none,none,none,none,none,none,none])=z:=by
 have G:=(t.i.fix A).good;have n:A0.length≤lim:=aa A.len (ae rfl)
 have rl {ρ:Env} {e:CE} (h:aY (callF tab 40) e ρ=ok (aL (dR A0 C))):aY (callF tab 40) (.un .JF (.un .range (.h .add (.un .len e) (.f (.int 1))))) ρ=ok (cW (List.range ((dR A0 C).length+1))):=
  d7 (ym (n:=(dR A0 C).length+1) (aD (d7 h (a7 _ _)) rfl rfl) (show(dR A0 C).length+1≤lim from aa (bQ (aa pW A.len)) (ae rfl))) (bq (a:=(List.range ((dR A0 C).length+1)).map nv) (aj ft (ya _)) (cY (by rw[af,aO];exact(show(dR A0 C).length+1≤lim from aa (bQ (aa pW A.len)) (ae rfl))) rfl))
 refine ax (bX (gT (a6 rfl (a6 rfl rfl)))) (ax (bX (gT (a6 (BA rfl (by rw[af];exact n)) (a6 (BA rfl (by rw[af];exact hc)) rfl)))) (ax (bX (bj rfl (t.e30 35))) (ax (bX (bj rfl (A.c24 35))) (EX (aD rfl rfl (xW (xB A0 C (e:=[]) rfl))) (aD (bj rfl ((t.i.fix A).ti 35)) rfl (xW (xB T TC (e:=[]) rfl))) (ax (eH (aD (bj rfl (HX A 35)) (gT (a6 rfl (a6 rfl (a6 (rl rfl) rfl)))) (xW (EJ _ _ _))) rfl rfl) (ax (bX (bj rfl (t.e30d 35))) (ax (bX (bj rfl (G.c24 35))) (ax (bX (bj rfl (A.c50 39))) (ax (bX (bj (a6 (bj (a6 rfl (a6 (oj rfl G.few' fun Z=>rfl) rfl)) (G.c18 (dZ TC) (aa (bH _ _) G.few') 36)) (a6 rfl rfl)) (G.c50 39))) k)))))))))
end
section
variable{A0 T td:List aU}{C TC tdC:List Cl}{b i n d:Nat}{m:List Int}{q w:Int}{pr:Nat→Nat}{F:FT}{ρ:Env}{x0 x2 x3 x4 x8:V}{x11 x13:Option (Bool×V)}
noncomputable abbrev Ev(x0 x2 x3 x4 x8:V)(q:Int)(m:List Int)(C:List Cl)(A0:List aU)(x11 x13:Option (Bool×V))(T:List aU)(TC:List Cl)(td:List aU)(tdC:List Cl)(y9 y10:Option (Bool×V)):Env:=FB x0 x2 x3 x4 x8 q m C A0 x11 x13 [oV (fB A0 C []),oV (fB A0 C []),oV (fB T TC []),oV (dV A0 C),oV (fB td tdC []),oV (dV T TC),oV (bF (dL A0 C)),oV (bF (dL T TC)),y9,y10]
theorem BE(C:List Cl):eP .ne (bF C) (.Jq [])=ok (.bool !C.isEmpty):=aj (fun r=>bc r fun b=>ok (V.bool !b)) (cY ⟨Bb 17 C,rfl⟩ (by cases C<;>rfl):AC (bF C) (.Jq [])=ok C.isEmpty)
set_option tactic.hygienic true in
theorem FS(A:ct A0 C)(h0:0<A0.length)(hn:A0.length≤60)(h2:C.length≤2)(hb:b<2)(eq:q%2=(b:Nat))(hm:m.length=A0.length)(P:oH A0 C b (fun i=>m[i]?.getD 0) pr)(t:TD A0 C T TC td tdC):∃ρ,bJ (callF tab 40) [] bT.tl.tl.tl.tl.tl.tl.tl.tl.tl.tl (Ev x0 x2 x3 x4 x8 q m C A0 x11 x13 T TC td tdC none none)=ok (.ret (.bool true),ρ):=by
 have G:=(t.i.fix A).good;have R1:=t.i.thr A h0;have R2:=t.j.thr A.dead (xM h0);have l1:T.length≤60:=aa t.i.len hn;obtain⟨V1,V2,V3,M⟩:=R1.deps A h0 hb;obtain⟨hw,ew⟩:=Fm A h0 P;rename_i w;have M:=M w hw;have p1:0<T.length:=by obtain⟨_,_,_,_,_,p,_⟩:=R1;exact p
 have p2:0<td.length:=by obtain⟨_,_,_,_,_,p,_⟩:=R2;exact p
 have D2:DV td tdC b w:=by
  obtain⟨φ,_,_,rfl,_,_,dv,_⟩:=R2;exact dv b (dC A0 C) w (fun Z h=>h) (EV A h0 hw)
 have k1:TC.length=C.length:=by obtain⟨_,_,_,rfl,_⟩:=R1;exact af _
 have k2:tdC.length=(dC A0 C).length:=by obtain⟨_,_,_,rfl,_⟩:=R2;exact af _
 have k3:(dC A0 C).length=(dL A0 C).length:=af _;have k4:(dC T TC).length=(dL T TC).length:=af _
 have a1 (d:Nat):callF tab (d+3) 49 [fB T TC [],fB A0 C []]=ok (.bool true,[]):=by
  obtain⟨_,_,_,_,B,_⟩:=R1;exact HZ B G.ok A.ok l1 hn k1 (k1▸h2)
 have a2 (d:Nat):callF tab (d+3) 49 [fB td tdC [],fB A0 (dL A0 C) []]=ok (.bool true,[]):=by
  obtain⟨_,_,_,_,B,_⟩:=R2;exact HZ (B.trans k2 ((yH A h0).bis A.ok)) ((t.j.fix A.dead).good).ok A.ok (show td.length≤60 from aa t.j.len (aa pW hn)) hn (k2.trans k3) (by rw[k2,k3];exact(show(dL A0 C).length≤2 from aa jM.length_le h2))
 have a3 (d:Nat):callF tab (d+3) 49 [dV T TC,fB T (dL T TC) []]=ok (.bool true,[]):=
  HZ ((yH G p1).bis G.ok) G.dead.ok G.ok (aa pW l1) l1 k4 (k4▸aa jM.length_le (k1▸h2))
 have dp:callF tab 40 54 [fB A0 C [],fB T TC [],dV A0 C,fB td tdC [],dV T TC,.int w,gr b]=ok (.bool true,[]):=
  Jh (d:=39) (GR (d:=31) A h0 hb V1) (GR (d:=31) G p1 hb V2) (GR (d:=31) ((t.j.fix A.dead).good) p2 hb D2) (GR (d:=31) G.dead (xM p1) hb (EV G p1 V3)) M.1 M.2.1 (fun l=>M.2.2.1 (k3▸l)) fun l=>M.2.2.2 (by rw[←k3,←k4];exact l)
 have fin:∃ρ,bJ (callF tab 40) [] (.ret (.D (.h .ne (.c 6) (.Jq .nil)) (.call 55 (.cons (.c 7) (.cons (.c 18) (.cons (.c 19) .nil)))))) (Ev x0 x2 x3 x4 x8 q m C A0 x11 x13 T TC td tdC (oV (.Jq ((jq A0 C m).map .int))) (oV (.int w)))=ok (.ret (.bool true),ρ):=by
  cases C with
  |cons c C=>exact⟨_,cX (Ee (aD rfl rfl (BE _)) rfl rfl)⟩
  |nil=>
   obtain rfl:=List.length_eq_zero_iff.1 (k1.trans rfl);obtain rfl:=List.length_eq_zero_iff.1 (k2.trans rfl);exact⟨_,cX (mh (aD rfl rfl (BE [])) rfl rfl (bj rfl (w9 (d:=34) A h0 hn t.i t.j)))⟩
 obtain⟨ρ,fin⟩:=fin;exact⟨ρ,EX (yP (bj rfl (a1 37))) (yP (bj rfl (a2 37))) (EX (yP (bj rfl (a3 37))) (yP (bj rfl (Jn (d:=35) G.dead fun u l=>yu G l))) (ax (bX (EB hm hn)) (ax (bX (ew _ _ 22 rfl)) (ax (eH (yP (bj (a6 rfl (a6 rfl (a6 rfl (a6 rfl (a6 rfl (a6 rfl (a6 (E8 eq rfl) rfl))))))) dp)) rfl rfl) fin))))⟩
end
section
variable{K0:List aU}{C:List Cl}{b i n d j:Nat}{m:List Int}{q:Int}{F:FT}{ρ:Env}{x0 x2 x3:V}{x11 x13:Option (Bool×V)}
noncomputable abbrev wl(K0:List aU):List Nat:=gQ K0.length K0.zipIdx
theorem qK:i∈wl K0↔rP K0 i:=by
 unfold wl gQ rP;rw[aP];constructor
 ·rintro⟨⟨r,j⟩,h,rfl⟩;have h:=bR.1 h;exact⟨r,List.mem_zipIdx_iff_getElem?.1 h.1,Bool.not_eq_true' _▸h.2⟩
 ·rintro⟨r,h,f⟩;exact⟨(r,i),bR.2 ⟨List.mem_zipIdx_iff_getElem?.2 h,by show(!eQ _ r)=true;rw[f];rfl⟩,rfl⟩
theorem lJ:rP K0 i↔¬f8 K0 i:=by
 constructor
 ·rintro⟨r,h,f⟩ F;rw[show eQ K0.length r=true from List.all_eq_true.2 fun g m=>ak (F r h g m)]at f;exact nomatch f
 ·intro n;refine bg fun w=>n fun r h g m=>?_
  cases f:eQ K0.length r with
  |true=>exact qh f g m
  |false=>exact absurd ⟨r,h,f⟩ w
theorem nB(l:List Nat):eP .ne (cW l) (.Jq [])=ok (.bool !l.isEmpty):=aj (fun r=>bc r fun b=>ok (V.bool !b)) (cY ⟨all_map (fun Z=>rfl) l,rfl⟩ (by cases l<;>rfl):AC (cW l) (.Jq [])=ok l.isEmpty)
theorem Ix(a b:Bool):eP .ne (.bool a) (.bool b)=ok (.bool !(a==b)):=by cases a<;>cases b<;>rfl
noncomputable abbrev oE(x0 x2 x3:V)(q:Int)(m:List Int)(K0:List aU)(C:List Cl)(x11 x13:Option (Bool×V)):Env:=FB x0 x2 x3 (aL K0) (cW (wl K0)) q m C (q8 K0) x11 x13 [none,none,none,none,none,none,none,none,none,none]
noncomputable def o6(K0:List aU)(C:List Cl):List Nat:=(wl K0).filter fun i=>(RF (q8 K0) (dZ C))[i]?.getD false
theorem m8:i∈o6 K0 C↔rP K0 i∧bf (q8 K0) (dZ C) i:=by
 unfold o6;rw[bR,qK,mJ];exact and_congr .rfl (fY i)
theorem Bm(h:i∈wl K0):i<(q8 K0).length:=by
 obtain⟨_,h,_⟩:=qK.1 h;rw[af];exact(ag.1 h).1
inductive qE(x0 x2 x3:V)(q:Int)(m:List Int)(K0:List aU)(C:List Cl):R (Flow×Env)→Prop
 |done {ρ:Env}:qE x0 x2 x3 q m K0 C (ok (.ret (.bool true),ρ))
 |on {x11 x13:Option (Bool×V)}:(∀j,rP K0 j→¬bf (q8 K0) (dZ C) j)→qE x0 x2 x3 q m K0 C (ok (.nxt,oE x0 x2 x3 q m K0 C x11 x13))
theorem ye(A:Wf K0 C):qE x0 x2 x3 q m K0 C (bJ (callF tab 40) [] iR.tl.tl.tl.tl.tl.tl.tl.hd (oE x0 x2 x3 q m K0 C none none)):=by
 have H:=wp A;cases hw:wl K0 with
 |nil=>
  rw[show bJ (callF tab 40) [] iR.tl.tl.tl.tl.tl.tl.tl.hd (oE x0 x2 x3 q m K0 C none none)=_ from cU (aD rfl rfl (nB _)) rfl (by rw[hw];rfl) rfl];exact .on fun j k=>absurd (qK.2 k) (hw▸nofun)
 |cons w0 ws=>
  have ne:(!(wl K0).isEmpty)=true:=by rw[hw];rfl
  have nf:¬∀j,f8 K0 j:=fun F=>lJ.1 (qK.1 (hw▸.head _)) (F w0)
  have len:(wl K0).length≤lim:=by
   unfold wl gQ;rw[af];exact aa (bH _ _) (by rw[List.length_zipIdx];exact aa A.len (ae rfl))
  have e11:aY (callF tab 40) (.Jz (.c 12) 12 (.c 8) (.h .item (.c 9) (.c 12))) (oE x0 x2 x3 q m K0 C none none)=ok (cW (o6 K0 C)):=
   jc (enc:=nv) (enc':=nv) _ rfl rfl len (fun i k=>by
    rw[(bw (fM (rows:=q8 K0) (cls:=dZ C)▸Bm k))];exact⟨_,aD rfl rfl (aW (bw (fM (rows:=q8 K0) (cls:=dZ C)▸Bm k))),rfl⟩) fun Z Z Z=>rfl
  have e43 {x13}:aY (callF tab 40) (.un .J9 (.call 43 (.cons (.c 4) (.cons (.c 6) .nil)))) (oE x0 x2 x3 q m K0 C (oV (cW (o6 K0 C))) x13)=ok (.bool false):=d7 (bj rfl (IY (Hv (d:=34) A nf))) rfl;rcases c24 (d:=34) A with⟨e,f⟩|⟨e,i,r,nfi⟩
  ·have n1:∀j,rP K0 j→¬bf K0 (dZ C) j:=fun j k r=>lJ.1 k (f j r);have lo:o6 K0 C=[]:=List.eq_nil_iff_forall_not_mem.2 fun i k=>have k:=m8.1 k;H.no n1 i k.1 k.2
   have e':callF tab 39 24 [aL K0,bF C]=ok (dV (q8 K0) C,[]):=by
    rw[show callF tab 39 24 [aL K0,bF C]=_ from e,H.rows n1,H.dL n1,H.dK n1];rfl
   have z:bJ (callF tab 40) [] iR.tl.tl.tl.tl.tl.tl.tl.hd (oE x0 x2 x3 q m K0 C none none)=ok (.nxt,oE x0 x2 x3 q m K0 C (oV (cW (o6 K0 C))) (oV (dV (q8 K0) C))):=
    eK (aD rfl rfl (nB _)) rfl ne (ax (bX e11) (ax (bX (bj rfl (IT e'))) (EX e43 (aD rfl (aD rfl rfl (nB _)) (lo▸Ix _ _)) (ax (eH rfl rfl rfl) (eH (aD rfl (bj rfl ((rS A).c24 35)) (xW (EJ _ _ _))) rfl rfl)))))
   rw[z];exact .on (H.no n1)
  ·have lo:(!(o6 K0 C).isEmpty)=true:=by
    have:∃j,j∈o6 K0 C:=(H.reach r).elim (fun r=>⟨i,m8.2 ⟨lJ.2 nfi,r⟩⟩) fun⟨j,k,r⟩=>⟨j,m8.2 ⟨k,r⟩⟩;obtain⟨j,k⟩:=this;cases h:o6 K0 C with
    |nil=>rw[h]at k;exact nomatch k
    |cons _ _=>rfl
   have z:bJ (callF tab 40) [] iR.tl.tl.tl.tl.tl.tl.tl.hd (oE x0 x2 x3 q m K0 C none none)=ok (.ret (.bool true),oE x0 x2 x3 q m K0 C (oV (cW (o6 K0 C))) (oV .none)):=
    eK (aD rfl rfl (nB _)) rfl ne (ax (bX e11) (ax (bX (bj rfl (Hi e))) (EX e43 (aD rfl (aD rfl rfl (nB _)) (by rw[lo];exact Ix _ _)) (ia (gu rfl rfl (cX rfl))))))
   rw[z];exact .done
end
section
variable{K0:List aU}{C:List Cl}{b i n d j:Nat}{m:List Int}{q:Int}{F:FT}{ρ:Env}{x0 x2 x3:V}
noncomputable abbrev fg(l:List Int):V:=.Jq (l.map .int)
noncomputable def ug(ns:V)(x1 x2:Option (Bool×V)):Env:=[oV ns,x1,x2,none,none,none,none,none,none,none,none,none,none,none,none,none,none,none,none,none,none,none,none,none]
inductive Ba(ns:List Int):Prop
 |mk {q:Int} {l:List Int}:0<l.length→l.length≤10→(∀(F:FT)(z:R (Flow×Env)),bJ F [] iR.tl.tl.tl (ug (fg ns) (oV (.int q)) (oV (fg l)))=z→bJ F [] iR (ug (fg ns) none none)=z)→Ba ns
theorem Hq{e1 e2 e3:CE}{l:List Int}{a b:Nat}(h1:aY F e1 ρ=ok (fg l))(h2:aY F e2 ρ=ok (nv a))(h3:aY F e3 ρ=ok (nv b))(ha:a≤lim)(hb:b≤lim):aY F (.slice e1 e2 e3) ρ=ok (fg ((l.take b).drop a)):=by
 unfold fg;rw[List.map_drop,List.map_take];exact bq h1 (bq h2 (bq h3 (bq (a:=l.map V.int) rfl (bq (a:=(a:Int)) rfl (bq (a:=(b:Int)) rfl (cY ⟨bL _,bL _,bC.2 ha,bC.2 hb⟩ rfl))))))
theorem wu{ns:List Int}(h:ns.length≤63):Ba ns:=by
 have s0 (F:FT) (x1 x2):bJ F [] iR.hd (ug (fg ns) x1 x2)=ok (.nxt,ug (fg ns) x1 x2):=by
  refine bX (bq rfl (bq rfl (bq rfl (bq (a:=ns.map V.int) rfl (bq (a:=0) rfl (bq (a:=63) rfl (cY ⟨by decide,by decide,bC.2 (aQ lim),bC.2 (ae rfl:63≤lim)⟩ ?_)))))));show ok (V.Jq (((ns.map V.int).take 63).drop 0))=_;rw[List.take_of_length_le (by rw[af];exact h)];rfl
 have s1 (F:FT) (l:List Int) (a:Int) (t:List Int):bJ F [] iR.tl.hd (ug (fg (a::t)) none none)=ok (.nxt,ug (fg (a::t)) (oV (.int a)) none):=bX (jZ (b:=true) rfl rfl rfl)
 match ns,s0 with
 | [],s0=>exact .mk (l:=[8,43,7]) (a8 2) (ae rfl) (fun F z k=>ax (s0 F none none) (ax (bX (v:=.int 1668) (jZ (b:=false) rfl rfl rfl)) (ax (bX (v:=fg [8,43,7]) (jZ (b:=false) rfl rfl rfl)) k)))
 | [a],s0=>exact .mk (l:=[8,43,7]) (a8 2) (ae rfl) (fun F z k=>ax (s0 F none none) (ax (s1 F [] a []) (ax (bX (v:=fg [8,43,7]) (jZ (b:=false) rfl rfl rfl)) k)))
 |a::c::t,s0=>
  have g:decide ((1:Int)<((a::c::t).map V.int).length)=true:=ak (dT.2 (Nat.succ_lt_succ (a8 _)));refine .mk (l:=((a::c::t).take 11).drop 1) (a8 _) ?_ (fun F z k=>ax (s0 F none none) (ax (s1 F [] a (c::t)) (ax (bX (jZ (b:=true) (v:=.bool (decide ((1:Int)<((a::c::t).map V.int).length))) (aD (d7 rfl rfl) rfl rfl) (aj some g) (Hq rfl rfl rfl (ae rfl) (ae rfl)))) k)))
  rw[List.length_drop];exact Nat.sub_le_of_le_add (List.length_take_le _ _)
set_option tactic.hygienic true in
theorem law_true{ns:List Int}(h:ns.length≤63):callF tab 41 56 [fg ns]=ok (.bool true,[]):=by
 obtain⟨l1,l2,go⟩:=wu h;rename_i q l;obtain⟨eb,hb,hc,e37,D⟩:=Ja (d:=36) l1 l2 q;rename_i e b c M us ins cl;have Z:Sz us M:=⟨D.pos,D.le,(show us.length≤100 from aa D.len (aa (aR (bW 4 hc) 11) (by decide)))⟩
 have hs:∀v∈us,∀u∈v,kJ u u.Jw=true:=fun v mv u mu=>by
  obtain⟨i,e⟩:=dn.1 (List.mem_flatten.2 ⟨v,mv,mu⟩:u∈us.flatten);exact sR D e
 have e40:=I9 (d:=37) (cl:=cl) Z D.ok.len hs (aa D.flat (aa (aR (bW 12 hc) 18) (by decide))) (fun x m=>have r:=D.each x m;⟨aa (aE r.t0) D.le,aa r.t1 D.le,aE r.h0,r.h1,fun s=>aE (D.ok.len▸(ag.1 (r.x s)).1)⟩) (D.few▸aa hc (by decide));have L:=D.law0 hc Z;generalize hU us M 0 us.flatten=K0 at e40 L;generalize us.flatten.map (eD us ins M)=m at e40 L;generalize sA us cl=C at e40 L;obtain⟨W,h0,hn,h2,hm,P⟩:=L;have G:=rS W;have lR:(q8 K0).length=K0.length:=af _
 have pre {z} (k:bJ (callF tab 40) [] iR.tl.tl.tl.tl.tl.tl.tl (oE (fg ns) (fg l) (wO us ins cl (some M)) q m K0 C none none)=z):bJ (callF tab 40) [] iR (ug (fg ns) none none)=z:=
  go _ _ (ax (bX (bj rfl e37)) (ax (qN (bj rfl e40) rfl) (ax (qN (bj rfl (I4 (d:=38) W.ok h0 (aa hn (by decide)))) rfl) (ax (bX (bj (a6 rfl (a6 (oj rfl W.few' fun Z=>rfl) rfl)) (G.c18 (dZ C) (aa (bH _ _) G.few') 36))) k))))
 have w:=ye (x0:=fg ns) (x2:=fg l) (x3:=wO us ins cl (some M)) (q:=q) (m:=m) W;generalize hz:bJ (callF tab 40) [] iR.tl.tl.tl.tl.tl.tl.tl.hd (oE (fg ns) (fg l) (wO us ins cl (some M)) q m K0 C none none)=z at w;cases w with
 |done=>exact fR rfl rfl rfl (pre (ia hz))
 |on nw=>
  obtain⟨I,e30⟩:=G.ti;obtain⟨J,e30d⟩:=G.dead.ti;have t:TD (q8 K0) C _ _ _ _:=⟨I,J,e30,e30d⟩;obtain⟨ρ,e⟩:=FS (x0:=fg ns) (x2:=fg l) (x3:=wO us ins cl (some M)) (x4:=aL K0) (x8:=cW (wl K0)) G (lR.symm▸h0) (lR.symm▸hn) h2 hb eb (hm.trans lR.symm) (P nw) t;exact fR rfl rfl rfl (pre (ax hz (EE G t G.few' e)))
end
end
end Mine
end
set_option tactic.hygienic true
section
open PySem PySem.W PyProof.Rows
namespace Mine
theorem badEx(P:Params):BadEx (H.K P):=.mk _ _ _ _ _ _ _ _ _ _ _ _ _ _ _ _ (show(H.K P).lookup 44=some (H.oa P 44) by kernel_rfl) (by decide+kernel) (by decide+kernel) (by decide+kernel) (by decide+kernel)
theorem all_ok(P:Params):AllK (H.K P):=allK (badEx P) (by kernel_rfl) (by kernel_rfl) (by kernel_rfl) (by kernel_rfl) (by kernel_rfl)
theorem walk_ok(L:LawOk){d:DefRec}{kwd:List (Str×Expr)}(h:d.name=Str.ofString "law"):WalkO H.q H.loose (XL H.q []) H.hk.says Challenge.rw_xm0266_01.row.toRowW d kwd fun f vs=>PySem.call f vs:=
 link (by decide+kernel) all_ok L h
end Mine
namespace Mine.H
noncomputable def dL:DefRec:=match st 139 with
 |.FunctionDef n a b _ _ _ sc _ _ p=>⟨n,a,b,sc,p⟩
 |_=>⟨Str.ofString "",⟨[],[],none,[],[],none,[]⟩,[],pr.main.scope,q0⟩
noncomputable section
theorem wit:Challenge.rw_xm0266_01.row.toRowW.promised:=by w_witness2
end
end Mine.H
theorem Mine.lawOk:Mine.LawOk:=fun ns h=>by
 rw[show Mine.callF Mine.tab 41 56 [.Jq (ns.map .int)]=_ from Mine.law_true h];exact rfl
noncomputable def Mine.big.tw17831351212457813877:Unit:=()
set_option Elab.async true
open Mine.H in
set_option maxHeartbeats 8000000 in
theorem Mine.big:PySem.Challenge.rw_xm0266_01.Holds:=by
 w_on
 o_law
 exact head (d:=Mine.H.dL) (kwd:=[]) (by kernel_rfl) (by kernel_rfl) (by kernel_rfl) (by assumption) wit (Mine.walk_ok Mine.lawOk (by kernel_rfl))
set_option Elab.async false
end
theorem PySem.Challenge.cw_xm0266_01_holds : PySem.Challenge.rw_xm0266_01.Holds :=
 Mine.big
