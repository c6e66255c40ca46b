import PyProof.Rows.All
import PyProof.ExcBaseAll.Exception
import KE.KUnpack
import KE.KItem
import KE.KSlice
import KE.KDictList
import KE.KRevIter
import Open.Tops
import OpenK.ZHead
import OpenK.ZGo
import Wide.FinOn
import OpenK.AllK
import Wide.All
import Lean
import PySem.Challenge.RW_rg0151_01
set_option Elab.async false
set_option maxRecDepth 100000
set_option maxHeartbeats 0
set_option linter.all false
set_option bootstrap.genMatcherCode false
set_option genSizeOf false
namespace Mine
open PySem PySem.W PySem.Calls PyProof.Rows
noncomputable abbrev P0 : Program := PySem.Challenge.pw_rg0151_01
noncomputable abbrev L0 : OpenLaw := PySem.Challenge.rw_rg0151_01
theorem w_c1 : sreFenced P0.main = true := by kernel_rfl
theorem w_c2 : ((moduleNames P0.main.body).isEmpty || lookedIntoSs (moduleNames P0.main.body) P0.main.body) = true := by kernel_rfl
theorem w_c3 : namesResolve P0 = true := by kernel_rfl
theorem w_c4 : P0.boundNames.all (fun n => !worldNames.contains n) = true := by kernel_rfl
theorem w_c5s : (!(importedModules P0.main.body).all cThrough.contains) = false := by kernel_rfl
theorem w_c5v : readsOut P0 P0.main.body "vars" = false := by kernel_rfl
theorem w_c5d : readsOut P0 P0.main.body "dir" = false := by kernel_rfl
theorem w_c5l : readsOut P0 P0.main.body "locals" = false := by kernel_rfl
theorem w_c5b : (["vars", "dir", "locals"] : List Str).filter (readsOut P0 P0.main.body) = [] := by
  rw [List.filter_cons_of_neg (by rw [w_c5v]; decide), List.filter_cons_of_neg (by rw [w_c5d]; decide), List.filter_cons_of_neg (by rw [w_c5l]; decide), List.filter_nil]
theorem w_c5c : noRoadLSs { strict := false, foot := none, bare := [] } P0.main.body = true := by kernel_rfl
theorem w_c5 : noRoadLSs { strict := !(importedModules P0.main.body).all cThrough.contains, foot := none, bare := (["vars", "dir", "locals"] : List Str).filter (readsOut P0 P0.main.body) } P0.main.body = true := by
  rw [w_c5s, w_c5b]
  exact w_c5c
theorem w_c6 : (namesMeet P0 P0.main.body fun _ n => attrL n) = true := by kernel_rfl
theorem looks0 : looksOpen P0 = true := look_both (look_both (look_both (look_both (look_both w_c1 w_c2) w_c3) w_c4) w_c5) w_c6
theorem part0 : OpenRow.partSaid (OpenLaw.row L0) = true := by
  unfold OpenRow.partSaid
  refine look_both (look_both (look_both (look_both (look_both (look_both (look_both (look_both (look_both (look_both (look_both (look_both (look_both looks0 ?_) ?_) ?_) ?_) ?_) ?_) ?_) ?_) ?_) ?_) ?_) ?_) ?_ <;> kernel_rfl
theorem w_r1 : L0.row.prog.boundNames.contains L0.row.name = true := by kernel_rfl
theorem w_r2 : (!startupNames.contains L0.row.name) = true := by kernel_rfl
theorem row0 : OpenRow.wellSaid (OpenLaw.row L0) = true := look_both (look_both part0 w_r1) w_r2
theorem w_l2 : decide (L0.foot ≤ (behindTheImports L0.prog).length) = true := by kernel_rfl
theorem w_l3 : L0.footing.all footLine = true := by kernel_rfl
theorem w_l4 : noClassBlock L0.prog L0.footing = true := by kernel_rfl
theorem w_l5 : L0.most.all (fun n => decide (63 ≤ n)) = true := by kernel_rfl
theorem w_l6 : L0.bound.all (fun n => decide (2 ^ 63 ≤ n)) = true := by kernel_rfl
theorem w_l7 : noRoadLSs { strict := true, foot := some L0.bound', writes := L0.writes, may := L0.may } L0.footing = true := by kernel_rfl
theorem w_l8 : defStands L0.about L0.above = true := by kernel_rfl
theorem w_l9 : L0.namesIt = true := by kernel_rfl
theorem w_l10 : (["type", "isinstance", "issubclass", "getattr", "hasattr"] : List Str).all (fun n => L0.about != [n]) = true := by kernel_rfl
theorem w_l11 : L0.bound'.all (fun n => !builtinNamed n || L0.about == [n] || !L0.reads n) = true := by kernel_rfl
theorem w_l12 : (!L0.writes || (L0.prog.main.body.flatMap importedNames).all fun n => !L0.reads n) = true := by kernel_rfl
theorem w_l13 : (L0.prog.main.body.flatMap importedNames).all (fun n => !L0.reads n || (drawsOf n L0.prog.main.body).all fun mn => mn.2 != ("attrgetter" : Str) && mn.2 != ("methodcaller" : Str)) = true := by kernel_rfl
theorem w_l14 : namesMeet L0.prog L0.footing (fun sc n => (!(["type", "isinstance", "issubclass", "getattr", "hasattr"] : List Str).contains n || sc.names.lookup n == some .globalImplicit) &&
    (L0.may != some n || sc.kind == .module || sc.names.lookup n == some .globalImplicit)) = true := by kernel_rfl
theorem w_l15 : L0.own.contains L0.name = true := by kernel_rfl
theorem w_l16 : (L0.own.eraseDups.length == L0.own.length) = true := by kernel_rfl
theorem w_l17 : L0.own.all (fun n => !builtinNamed n) = true := by kernel_rfl
theorem w_l18 : namesMeet L0.prog L0.above (fun _ n => !L0.own.contains n) = true := by kernel_rfl
theorem w_l19 : (namesMeet L0.prog L0.footing fun sc n => sc.kind == .module || sc.names.lookup n != some .globalExplicit) = true := by kernel_rfl
theorem said0 : OpenLaw.wellSaid L0 = true := (look_both (look_both (look_both (look_both (look_both (look_both (look_both (look_both (look_both (look_both (look_both (look_both (look_both (look_both (look_both (look_both (look_both (look_both row0 w_l2) w_l3) w_l4) w_l5) w_l6) w_l7) w_l8) w_l9) w_l10) w_l11) w_l12) w_l13) w_l14) w_l15) w_l16) w_l17) w_l18) w_l19)
end Mine
namespace Mine
open PySem PySem.W PySem.Calls PyProof.Rows
noncomputable abbrev PW : Program := PySem.Challenge.pw_rg0151_01
noncomputable abbrev S (x : String) : Str := Str.ofString x
noncomputable def bd : List Stmt := behindTheImports PW
noncomputable def stAt (i : Nat) : Stmt := (bd.drop i).headD (.Pass ⟨0, 0, 0, 0⟩)
noncomputable def inC (s : Stmt) (j : Nat) : Stmt := match s with
  | .ClassDef _ _ _ b _ _ _ _ _ _ _ => (b.drop j).headD (.Pass ⟨0, 0, 0, 0⟩)
  | s => s
noncomputable abbrev tp (l : List Value) : Obj := ⟨.type "tuple", none, .seq l.toArray 0, #[]⟩
noncomputable abbrev fl (c : Value) (l : List Value) : Obj := ⟨c, none, .fields l.toArray, #[]⟩
noncomputable abbrev dc (c : Value) (l : List DictEntry) (n : Nat) : Obj := ⟨c, none, .dict l.toArray n, #[]⟩
noncomputable abbrev en (P : Params) (x : String) (t : Nat) (v : Value) : DictEntry := ⟨PyData.keyHash P (Str.ofString x), .str (Str.ofString x) t, v⟩
noncomputable def fn (c : Value) (s : Stmt) (qn : Str) (g : Nat) (dV kV doc pm cd ct : Value) (bi : Nat) : Obj := match s with
  | .FunctionDef n a b _ _ _ sc _ _ _ => ⟨c, none, .func { name := n, qualname := qn, params := a, body := .stmts b, scope := sc, globals := g, closure := [], defaults := dV, kwdefaults := kV, doc := doc, pyModule := pm, annotations := none, code := cd, closureTuple := ct, builtins := bi }, #[]⟩
  | _ => default
namespace Z
noncomputable abbrev R := Params
noncomputable abbrev Tt := Params → BT
noncomputable abbrev l (f : Params → Obj) : Tt := fun P => .node (f P) .nil .nil
noncomputable abbrev m (f : Params → Obj) (a : Tt) : Tt := fun P => .node (f P) (a P) .nil
noncomputable abbrev k (f : Params → Obj) (a b : Tt) : Tt := fun P => .node (f P) (a P) (b P)
noncomputable abbrev s (x : String) (t : Nat) : Value := .str (Str.ofString x) t
noncomputable abbrev u (t : Nat) : Value := .str (Str.ofString "/claim/cut.py") t
noncomputable abbrev i (n : Int) : Value := .int n 0
noncomputable abbrev r (a : Nat) : Value := .ref a
noncomputable abbrev c (l : List Value) : Obj := fl (.type "code") l
end Z
section
open Z
noncomputable def L12:List Value:=[i 1,i 0,r 20,i 5,i 0,r 27,i 7,i 0,r 34,i 53,i 0,r 90,i 73,i 0,r 116,i 119,i 0,r 179,i 125,i 0,r 200,i 127,i 0,r 212,i 130,i 0,r 224,i 132,i 0,r 232,i 135,i 0,r 239,i 137,i 0,r 246,i 139,i 0,r 253,i 142,i 0,r 260,i 144,i 0,r 267,i 146,i 0,r 274,i 148,i 0,r 281,i 155,i 0,r 288,i 157,i 0,r 295,i 168,i 0,r 302,i 179,i 0,r 309,i 188,i 0,r 316,i 198,i 0,r 323,i 200,i 0,r 330,i 207,i 0,r 337,i 257,i 0,r 379,i 277,i 0,r 422,i 281,i 0,r 429,i 285,i 0,r 436,i 289,i 0,r 443,i 293,i 0,r 450,i 298,i 0,r 457,i 304,i 0,r 464,i 310,i 0,r 471,i 321,i 0,r 478,i 336,i 0,r 485,i 344,i 0,r 492,i 351,i 0,r 499,i 361,i 0,r 506,i 369,i 0,r 513,i 374,i 0,r 520,i 379,i 0,r 527,i 381,i 0,r 534,i 384,i 0,r 541,i 386,i 0,r 548,i 389,i 0,r 555,i 394,i 0,r 562,i 400,i 0,r 569,i 403,i 0,r 576,i 405,i 0,r 583,i 410,i 0,r 590,i 412,i 0,r 597,i 414,i 0,r 604,i 416,i 0,r 611,i 425,i 0,r 618,i 427,i 0,r 625,i 429,i 0,r 632,i 431,i 0,r 639,i 433,i 0,r 646,i 438,i 0,r 653,i 440,i 0,r 660,i 442,i 0,r 667,i 444,i 0,r 674,i 452,i 0,r 681,i 463,i 0,r 688,i 483,i 0,r 695,i 501,i 0,r 702,i 519,i 0,r 709,i 533,i 0,r 716,i 542,i 0,r 723,i 544,i 0,r 730,i 552,i 0,r 737,i 558,i 0,r 744,i 566,i 0,r 751,i 571,i 0,r 758,i 585,i 0,r 763,i 616,i 0,r 770,i 623,i 0,r 777,i 627,i 0,r 784,i 646,i 0,r 791,i 658,i 0,r 798,i 701,i 0,r 844,i 709,i 0,r 851,i 716,i 0,r 858,i 727,i 0,r 865,i 735,i 0,r 872,i 746,i 0,r 879,i 749,i 0,r 886,i 777,i 0,r 893,i 796,i 0,r 900,i 805,i 0,r 907,i 811,i 0,r 914,i 817,i 0,r 921,i 825,i 0,r 928,i 831,i 0,r 933,i 849,i 0,r 940,i 860,i 0,r 945,i 866,i 0,r 952,i 891,i 0,r 959,i 898,i 0,r 966,i 905,i 0,r 973,i 916,i 0,r 980,i 921,i 0,r 987,i 923,i 0,r 994,i 941,i 0,r 1001,i 952,i 0,r 1008,i 956,i 0,r 1015,i 963,i 0,r 1022,i 969,i 0,r 1029,i 973,i 0,r 1036,i 978,i 0,r 1043,i 980,i 0,r 1050,i 982,i 0,r 1057,i 984,i 0,r 1064,i 988,i 0,r 1071,i 992,i 0,r 1078,i 994,i 0,r 1085,i 1001,i 0,r 1092,i 1020,i 0,r 1099,i 1027,i 0,r 1106,i 1034,i 0,r 1113,i 1044,i 0,r 1120,i 1050,i 0,r 1127,i 1072,i 0,r 1134,i 1085,i 0,r 1141,i 1104,i 0,r 1148,i 1116,i 0,r 1155,i 1124,i 0,r 1162,i 1142,i 0,r 1169,i 1151,i 0,r 1176,i 1161,i 0,r 1183,i 1166,i 0,r 1190,i 1173,i 0,r 1197,i 1181,i 0,r 1204,i 1185,i 0,r 1211,i 1213,i 0,r 1218,i 1220,i 0,r 1225,i 1239,i 0,r 1232,i 1262,i 0,r 1239,i 1265,i 0,r 1246,i 1268,i 0,r 1253,i 1275,i 0,r 1260,i 1278,i 0,r 1267,i 1280,i 0,r 1274,i 1293,i 0,r 1281,i 1298,i 0,r 1288,i 1306,i 0,r 1295,i 1391,i 0,r 1372,i 1396,i 0,r 1379,i 1406,i 0,r 1386,i 1412,i 0,r 1393,i 1428,i 0,r 1400,i 1433,i 0,r 1407,i 1437,i 0,r 1414,i 1448,i 0,r 1422,i 1454,i 0,r 1429,i 1456,i 0,r 1436,i 1465,i 0,r 1443,i 1477,i 0,r 1450,i 1484,i 0,r 1455,i 1486,i 0,r 1462,i 1502,i 0,r 1469,i 1506,i 0,r 1476,i 1525,i 0,r 1483,i 1531,i 0,r 1490,i 1541,i 0,r 1497,i 1550,i 0,r 1504,i 1554,i 0,r 1509,i 1556,i 0,r 1516,i 1565,i 0,r 1523,i 1569,i 0,r 1530,i 1585,i 0,r 1537,i 1594,i 0,r 1544,i 1603,i 0,r 1551,i 1606,i 0,r 1558,i 1722,i 0,r 1628,i 1728,i 0,r 1635,i 1730,i 0,r 1642]
noncomputable def E3(P:R):List DictEntry:=[en P "__name__" 165 (s "law_rg0151_01" 2633),en P "__doc__" 166 .none,en P "__package__" 167 .none,en P "__loader__" 168 (.builtin "__main__.__loader__#opaque"),en P "__spec__" 169 .none,en P "__annotations__" 170 (r 6),en P "__builtins__" 171 (r 4),en P "__file__" 173 (u 172),en P "__cached__" 174 .none,en P "_wall" 193 (r 21),en P "net_kinds" 201 (r 28),en P "Signal" 286 (r 80),en P "Routine" 338 (r 106),en P "Design" 440 (r 169),en P "GateloomError" 478 (r 191),en P "DesignError" 494 (r 204),en P "LimitReached" 510 (r 216),en P "mask" 519 (r 225),en P "vec" 530 (r 233),en P "zeros" 537 (r 240),en P "ones" 544 (r 247),en P "all_x" 552 (r 254),en P "all_z" 559 (r 261),en P "from_int" 567 (r 268),en P "is_known" 574 (r 275),en P "to_int" 585 (r 282),en P "code" 593 (r 289),en P "slice_vec" 609 (r 296),en P "put_slice" 625 (r 303),en P "concat" 636 (r 310),en P "extend" 649 (r 317),en P "z_to_x" 656 (r 324),en P "truth" 663 (r 331),en P "Store" 732 (r 369),en P "Context" 791 (r 412),en P "add" 801 (r 423),en P "sub" 809 (r 430),en P "mul" 817 (r 437),en P "neg" 824 (r 444),en P "quotient" 833 (r 451),en P "div" 844 (r 458),en P "mod" 855 (r 465),en P "raise_whole" 868 (r 472),en P "power" 881 (r 479),en P "shift_left" 891 (r 486),en P "shift_right" 900 (r 493),en P "shift_arith" 915 (r 500),en P "ordered" 926 (r 507),en P "less" 936 (r 514),en P "less_equal" 946 (r 521),en P "greater" 955 (r 528),en P "greater_equal" 964 (r 535),en P "one_bit" 973 (r 542),en P "bit_not" 983 (r 549),en P "bit_and" 997 (r 556),en P "bit_or" 1012 (r 563),en P "bit_xor" 1021 (r 570),en P "bit_xnor" 1029 (r 577),en P "reduce_and" 1039 (r 584),en P "reduce_nand" 1046 (r 591),en P "reduce_or" 1053 (r 598),en P "reduce_nor" 1060 (r 605),en P "reduce_xor" 1069 (r 612),en P "reduce_xnor" 1076 (r 619),en P "logic_not" 1083 (r 626),en P "logic_and" 1091 (r 633),en P "logic_or" 1099 (r 640),en P "equal" 1108 (r 647),en P "not_equal" 1116 (r 654),en P "case_equal" 1124 (r 661),en P "case_not_equal" 1132 (r 668),en P "matches" 1143 (r 675),en P "choose" 1156 (r 682),en P "unary" 1166 (r 689),en P "arithmetic" 1176 (r 696),en P "comparison" 1186 (r 703),en P "bitwise" 1195 (r 710),en P "binary" 1206 (r 717),en P "whole_of" 1215 (r 724),en P "memory_word" 1225 (r 731),en P "picked" 1235 (r 738),en P "conditional" 1245 (r 745),en P "bits_needed" 1253 (r 752),en P "system_value" 1264 (r 1170),en P "system_value_evaluate" 1265 (r 759),en P "evaluate" 1271 (r 764),en P "locate" 1280 (r 771),en P "holder_width" 1288 (r 778),en P "resolve_target" 1307 (r 785),en P "store_rows" 1324 (r 792),en P "DEPTH_LIMIT" 1328 (.int 24 1327),en P "FunctionContext" 1395 (r 836),en P "run_block" 1405 (r 845),en P "run_set" 1415 (r 852),en P "run_case" 1428 (r 859),en P "run_while" 1439 (r 866),en P "run_repeat" 1449 (r 873),en P "run_for" 1457 (r 880),en P "run_statement" 1466 (r 887),en P "children" 1476 (r 894),en P "subexpressions" 1487 (r 901),en P "expr_reads" 1496 (r 908),en P "expr_calls" 1505 (r 915),en P "target_indexes" 1514 (r 922),en P "target_writes" 1523 (r 929),en P "stmt_parts" 1529 (r 934),en P "substatements" 1540 (r 941),en P "stmt_targets" 1546 (r 946),en P "stmt_exprs" 1558 (r 953),en P "stmt_reads" 1569 (r 960),en P "stmt_writes" 1580 (r 967),en P "stmt_calls" 1591 (r 974),en P "MAX_WIDTH" 1595 (.int 65536 1594),en P "last_select" 1604 (r 981),en P "is_memory" 1612 (r 988),en P "shape" 1622 (r 1380),en P "shape_elabparts" 1623 (r 995),en P "read_entry" 1633 (r 1002),en P "folds" 1640 (r 1009),en P "folded" 1648 (r 1016),en P "checked_width" 1656 (r 1023),en P "selected" 1665 (r 1030),en P "text_vec" 1674 (r 1037),en P "inner_join" 1681 (r 1044),en P "is_context_operator" 1688 (r 1051),en P "is_shift" 1695 (r 1058),en P "widen" 1704 (r 1065),en P "number_value" 1715 (r 1072),en P "is_changing" 1722 (r 1079),en P "asks_system" 1732 (r 1086),en P "is_constant" 1745 (r 1093),en P "MOST_NESTING" 1749 (.int 8 1748),en P "path_names" 1760 (r 1100),en P "entry_of" 1769 (r 1107),en P "base_entry" 1779 (r 1114),en P "select_width" 1787 (r 1121),en P "select_where" 1805 (r 1128),en P "named_type" 1815 (r 1135),en P "named_value" 1828 (r 1142),en P "function_of" 1838 (r 1149),en P "call_value" 1850 (r 1156),en P "system_type" 1860 (r 1163),en P "system_value_elabexpr" 1872 (r 1170),en P "joined_parts" 1882 (r 1177),en P "copies" 1891 (r 1184),en P "joined_width" 1901 (r 1191),en P "joined_value" 1912 (r 1198),en P "both_types" 1923 (r 1205),en P "expr_type" 1933 (r 1212),en P "unary_value" 1944 (r 1219),en P "binary_value" 1960 (r 1226),en P "build" 1974 (r 1233),en P "self_determined" 1984 (r 1240),en P "sized" 1995 (r 1247),en P "constant_vec" 2005 (r 1254),en P "constant" 2015 (r 1261),en P "constant_sized" 2024 (r 1268),en P "whole" 2036 (r 1275),en P "small_whole" 2045 (r 1282),en P "range_of" 2055 (r 1289),en P "Scope" 2175 (r 1362),en P "MOST_WIDTH" 2179 (.int 4096 2178),en P "MOST_WORDS" 2181 (.int 65536 2180),en P "width_of" 2191 (r 1373),en P "shape_elabdecl" 2205 (r 1380),en P "array_bounds" 2217 (r 1387),en P "declare_signal" 2236 (r 1394),en P "declare_event" 2246 (r 1401),en P "set_initial" 2256 (r 1408),en P "parameter_value" 2272 (r 1415),en P "declare_parameter" 2284 (r 1423),en P "uses_frame" 2291 (r 1430),en P "declare_local" 2310 (r 1437),en P "declare_variable" 2328 (r 1444),en P "declare_inner" 2337 (r 1451),en P "variables_by_name" 2343 (r 1456),en P "declare_port" 2364 (r 1463),en P "declare_result" 2376 (r 1470),en P "declare_routine" 2393 (r 1477),en P "is_port_name" 2402 (r 1484),en P "called_names" 2414 (r 1491),en P "are_names_known" 2424 (r 1498),en P "declared_name" 2431 (r 1505),en P "port_items" 2437 (r 1510),en P "partner_places" 2449 (r 1517),en P "default_net" 2456 (r 1524),en P "port_shape" 2472 (r 1531),en P "check_port_range" 2484 (r 1538),en P "joined_entry" 2502 (r 1545),en P "check_net_delay" 2509 (r 1552),en P "Declarer" 2632 (r 1618),en P "_law_take" 2644 (r 1629),en P "_law_num" 2651 (r 1636),en P "law" 2678 (r 1643)]
noncomputable def o11(P:R):Obj:=tp []
noncomputable def o12(P:R):Obj:=fl .none (L12.take 0)
noncomputable def o13(P:R):Obj:=c [s "<module>" 182,s "<module>" 183,u 184,i 1,i 0,i 0,i 0,i 0,r 11,.bool false,i 181,r 12,.none,.none,.none,.none,i 185,i 1,u 186]
noncomputable def o14(P:R):Obj:=⟨.type "frame",none,.plain,#[some (r 13),some (r 3),some (r 3),none,some (s "__main__" 164),none,some (r 0)]⟩
noncomputable def T0:Tt:=(k boot_o_0 (k boot_o_1 (k boot_o_3 (l boot_o_7) (l o11)) (k boot_o_5 (l boot_o_9) (l o13))) (k boot_o_2 (k boot_o_4 (l boot_o_8) (l o12)) (k boot_o_6 (l boot_o_10) (l o14))))
noncomputable def o3v1(P:R):Obj:=dc (.type "dict") (en P "__name__" 165 (s "gateloom.design" 194) :: (E3 P).tail.take 12) 13
noncomputable def o12v1(P:R):Obj:=fl .none (L12.take 12)
noncomputable def o16(P:R):Obj:=fl .none []
noncomputable def o17(P:R):Obj:=tp [s "k" 190]
noncomputable def o19(P:R):Obj:=fn .none (stAt 0) (S "_wall") 0 .none .none .none .none .none .none 0
noncomputable def o20(P:R):Obj:=c [s "_wall" 187,s "_wall" 188,u 189,i 1,i 1,i 0,i 0,i 3,r 15,.bool true,i 181,r 16,.none,r 17,r 18,r 19,i 191,i 1,u 192]
noncomputable def o21(P:R):Obj:=fn (.type "function") (stAt 0) (S "_wall") 3 .none .none .none (s "__main__" 164) (r 20) .none 0
noncomputable def o26(P:R):Obj:=fn .none (stAt 2) (S "net_kinds") 0 .none .none .none .none .none .none 0
noncomputable def o27(P:R):Obj:=c [s "net_kinds" 196,s "net_kinds" 197,u 198,i 5,i 0,i 0,i 0,i 3,r 22,.bool true,i 181,r 23,.none,r 24,r 25,r 26,i 199,i 5,u 200]
noncomputable def o28(P:R):Obj:=fn (.type "function") (stAt 2) (S "net_kinds") 3 .none .none .none (s "gateloom.design" 194) (r 27) .none 0
noncomputable def o30(P:R):Obj:=fl (.type "builtin_function_or_method") [.builtin "type.__prepare__",.type "type"]
noncomputable def o31(P:R):Obj:=dc (.type "dict") [en P "__module__" 209 (s "gateloom.design" 194),en P "__qualname__" 211 (s "Signal" 210),en P "__firstlineno__" 213 (.int 7 212),en P "__init__" 227 (r 42),en P "is_net" 234 (r 49),en P "is_memory" 241 (r 56),en P "words" 248 (r 63),en P "offset" 257 (r 70),en P "place" 266 (r 77),en P "__static_attributes__" 279 (r 78)] 10
noncomputable def o33(P:R):Obj:=fl .none [i 9,i 4,r 41,i 23,i 4,r 48,i 26,i 4,r 55,i 29,i 4,r 62,i 34,i 4,r 69,i 43,i 4,r 76]
noncomputable def o34(P:R):Obj:=c [s "Signal" 204,s "Signal" 205,u 206,i 7,i 0,i 0,i 0,i 0,r 32,.bool false,i 181,r 33,.none,.none,.none,.none,i 207,i 7,u 208]
noncomputable def o35(P:R):Obj:=⟨.type "frame",none,.plain,#[some (r 34),some (r 3),some (r 31),none,some (s "gateloom.design" 194),none,some (r 0)]⟩
noncomputable def o38(P:R):Obj:=tp [s "self" 217,s "key" 218,s "path" 219,s "kind" 220,s "width" 221,s "signed" 222,s "msb" 223,s "lsb" 224]
noncomputable def o40(P:R):Obj:=fn .none (inC (stAt 3) 0) (S "Signal.__init__") 0 .none .none .none .none .none .none 0
noncomputable def o41(P:R):Obj:=c [s "__init__" 214,s "Signal.__init__" 215,u 216,i 9,i 8,i 0,i 0,i 3,r 36,.bool true,i 181,r 37,.none,r 38,r 39,r 40,i 225,i 9,u 226]
noncomputable def o42(P:R):Obj:=fn (.type "function") (inC (stAt 3) 0) (S "Signal.__init__") 3 .none .none .none (s "gateloom.design" 194) (r 41) .none 0
noncomputable def o45(P:R):Obj:=tp [s "self" 231]
noncomputable def o47(P:R):Obj:=fn .none (inC (stAt 3) 1) (S "Signal.is_net") 0 .none .none .none .none .none .none 0
noncomputable def o48(P:R):Obj:=c [s "is_net" 228,s "Signal.is_net" 229,u 230,i 23,i 1,i 0,i 0,i 3,r 43,.bool true,i 181,r 44,.none,r 45,r 46,r 47,i 232,i 23,u 233]
noncomputable def o49(P:R):Obj:=fn (.type "function") (inC (stAt 3) 1) (S "Signal.is_net") 3 .none .none .none (s "gateloom.design" 194) (r 48) .none 0
noncomputable def o52(P:R):Obj:=tp [s "self" 238]
noncomputable def o54(P:R):Obj:=fn .none (inC (stAt 3) 2) (S "Signal.is_memory") 0 .none .none .none .none .none .none 0
noncomputable def o55(P:R):Obj:=c [s "is_memory" 235,s "Signal.is_memory" 236,u 237,i 26,i 1,i 0,i 0,i 3,r 50,.bool true,i 181,r 51,.none,r 52,r 53,r 54,i 239,i 26,u 240]
noncomputable def o56(P:R):Obj:=fn (.type "function") (inC (stAt 3) 2) (S "Signal.is_memory") 3 .none .none .none (s "gateloom.design" 194) (r 55) .none 0
noncomputable def o59(P:R):Obj:=tp [s "self" 245]
noncomputable def o61(P:R):Obj:=fn .none (inC (stAt 3) 3) (S "Signal.words") 0 .none .none .none .none .none .none 0
noncomputable def o62(P:R):Obj:=c [s "words" 242,s "Signal.words" 243,u 244,i 29,i 1,i 0,i 0,i 3,r 57,.bool true,i 181,r 58,.none,r 59,r 60,r 61,i 246,i 29,u 247]
noncomputable def o63(P:R):Obj:=fn (.type "function") (inC (stAt 3) 3) (S "Signal.words") 3 .none .none .none (s "gateloom.design" 194) (r 62) .none 0
noncomputable def o66(P:R):Obj:=tp [s "self" 252,s "index" 253,s "place" 254]
noncomputable def o68(P:R):Obj:=fn .none (inC (stAt 3) 4) (S "Signal.offset") 0 .none .none .none .none .none .none 0
noncomputable def o69(P:R):Obj:=c [s "offset" 249,s "Signal.offset" 250,u 251,i 34,i 2,i 0,i 0,i 3,r 64,.bool true,i 181,r 65,.none,r 66,r 67,r 68,i 255,i 34,u 256]
noncomputable def o70(P:R):Obj:=fn (.type "function") (inC (stAt 3) 4) (S "Signal.offset") 3 .none .none .none (s "gateloom.design" 194) (r 69) .none 0
noncomputable def o73(P:R):Obj:=tp [s "self" 261,s "index" 262,s "place" 263]
noncomputable def o75(P:R):Obj:=fn .none (inC (stAt 3) 5) (S "Signal.place") 0 .none .none .none .none .none .none 0
noncomputable def o76(P:R):Obj:=c [s "place" 258,s "Signal.place" 259,u 260,i 43,i 2,i 0,i 0,i 3,r 71,.bool true,i 181,r 72,.none,r 73,r 74,r 75,i 264,i 43,u 265]
noncomputable def o77(P:R):Obj:=fn (.type "function") (inC (stAt 3) 5) (S "Signal.place") 3 .none .none .none (s "gateloom.design" 194) (r 76) .none 0
noncomputable def o78(P:R):Obj:=tp [s "at" 267,s "first" 268,s "init" 269,s "key" 270,s "kind" 271,s "last" 272,s "lsb" 273,s "msb" 274,s "path" 275,s "scalar" 276,s "signed" 277,s "width" 278]
noncomputable def o79(P:R):Obj:=dc (.type "dict") [en P "__module__" 209 (s "gateloom.design" 194),en P "__firstlineno__" 213 (.int 7 212),en P "__init__" 227 (r 42),en P "is_net" 234 (r 49),en P "is_memory" 241 (r 56),en P "words" 248 (r 63),en P "offset" 257 (r 70),en P "place" 266 (r 77),en P "__static_attributes__" 279 (r 78),en P "__dict__" 281 (r 81),en P "__weakref__" 283 (r 82),en P "__doc__" 284 .none] 4
noncomputable def o80(P:R):Obj:=⟨.type "type",none,.cls { name:=(S "Signal"),bases:=[.type "object"],mro:=[r 80,.type "object"],ns:=79,qualname:=(S "Signal"),hasDict:=true,slotNames:=[],subclasses:=[],abstract:=false,collection:=none,hasDel:=false },#[none,none,some (s "Signal" 202),some (s "Signal" 210),some (.builtin "object.__new__"),some (.bool true)]⟩
noncomputable def o81(P:R):Obj:=fl (.type "getset_descriptor") [s "__dict__" 280,r 80,.builtin "function.__dict__",.builtin "function.__dict__#set"]
noncomputable def o82(P:R):Obj:=fl (.type "getset_descriptor") [s "__weakref__" 282,r 80,.builtin "ExceptionGroup.__weakref__",.none]
noncomputable def o83(P:R):Obj:=fl (.type "super") [r 80,r 80,r 80]
noncomputable def o84(P:R):Obj:=fl (.type "builtin_function_or_method") [.builtin "object.__init_subclass__",r 80]
noncomputable def o87(P:R):Obj:=dc (.type "dict") [en P "__module__" 294 (s "gateloom.design" 194),en P "__qualname__" 296 (s "Routine" 295),en P "__firstlineno__" 298 (.int 53 297),en P "__init__" 310 (r 98),en P "inputs" 316 (r 103),en P "__static_attributes__" 331 (r 104)] 6
noncomputable def o89(P:R):Obj:=fl .none [i 55,i 4,r 97,i 71,i 4,r 102]
noncomputable def o90(P:R):Obj:=c [s "Routine" 289,s "Routine" 290,u 291,i 53,i 0,i 0,i 0,i 0,r 88,.bool false,i 181,r 89,.none,.none,.none,.none,i 292,i 53,u 293]
noncomputable def o91(P:R):Obj:=⟨.type "frame",none,.plain,#[some (r 90),some (r 3),some (r 87),none,some (s "gateloom.design" 194),none,some (r 0)]⟩
noncomputable def o94(P:R):Obj:=tp [s "self" 302,s "number" 303,s "path" 304,s "is_function" 305,s "automatic" 306,s "at" 307]
noncomputable def o96(P:R):Obj:=fn .none (inC (stAt 4) 0) (S "Routine.__init__") 0 .none .none .none .none .none .none 0
noncomputable def o97(P:R):Obj:=c [s "__init__" 299,s "Routine.__init__" 300,u 301,i 55,i 6,i 0,i 0,i 3,r 92,.bool true,i 181,r 93,.none,r 94,r 95,r 96,i 308,i 55,u 309]
noncomputable def o98(P:R):Obj:=fn (.type "function") (inC (stAt 4) 0) (S "Routine.__init__") 3 .none .none .none (s "gateloom.design" 194) (r 97) .none 0
noncomputable def o101(P:R):Obj:=fn .none (inC (stAt 4) 1) (S "Routine.inputs") 0 .none .none .none .none .none .none 0
noncomputable def o102(P:R):Obj:=c [s "inputs" 311,s "Routine.inputs" 312,u 313,i 71,i 1,i 0,i 0,i 3,r 99,.bool true,i 181,r 100,.none,.none,.none,r 101,i 314,i 71,u 315]
noncomputable def o103(P:R):Obj:=fn (.type "function") (inC (stAt 4) 1) (S "Routine.inputs") 3 .none .none .none (s "gateloom.design" 194) (r 102) .none 0
noncomputable def o104(P:R):Obj:=tp [s "at" 317,s "automatic" 318,s "body" 319,s "disable_scope" 320,s "is_function" 321,s "made" 322,s "number" 323,s "path" 324,s "ports" 325,s "scope" 326,s "signed" 327,s "slots" 328,s "source" 329,s "width" 330]
noncomputable def o105(P:R):Obj:=dc (.type "dict") [en P "__module__" 294 (s "gateloom.design" 194),en P "__firstlineno__" 298 (.int 53 297),en P "__init__" 310 (r 98),en P "inputs" 316 (r 103),en P "__static_attributes__" 331 (r 104),en P "__dict__" 333 (r 107),en P "__weakref__" 335 (r 108),en P "__doc__" 336 .none] 4
noncomputable def o106(P:R):Obj:=⟨.type "type",none,.cls { name:=(S "Routine"),bases:=[.type "object"],mro:=[r 106,.type "object"],ns:=105,qualname:=(S "Routine"),hasDict:=true,slotNames:=[],subclasses:=[],abstract:=false,collection:=none,hasDel:=false },#[none,none,some (s "Routine" 287),some (s "Routine" 295),some (.builtin "object.__new__"),some (.bool true)]⟩
noncomputable def o107(P:R):Obj:=fl (.type "getset_descriptor") [s "__dict__" 332,r 106,.builtin "function.__dict__",.builtin "function.__dict__#set"]
noncomputable def o108(P:R):Obj:=fl (.type "getset_descriptor") [s "__weakref__" 334,r 106,.builtin "ExceptionGroup.__weakref__",.none]
noncomputable def o109(P:R):Obj:=fl (.type "super") [r 106,r 106,r 106]
noncomputable def o110(P:R):Obj:=fl (.type "builtin_function_or_method") [.builtin "object.__init_subclass__",r 106]
noncomputable def T1:Tt:=(k boot_o_0 (k boot_o_1 (k o3v1 (k boot_o_7 (k o11 (k o31 (l o63) (l o11)) (m o47 (l o79))) (k o16 (k o11 (l o11) (l o103)) (m o55 (l o87)))) (k o11 (k o19 (k o35 (l o11) (l o11)) (m o16 (l o83))) (k o27 (k o11 (l o75) (l o107)) (m o59 (l o91))))) (k boot_o_5 (k boot_o_9 (k o17 (k o33 (l o16) (l o97)) (m o49 (l o81))) (k o11 (k o41 (l o73) (l o105)) (m o11 (l o89)))) (k o13 (k o21 (k o16 (l o69) (l o101)) (m o11 (l o11))) (k o11 (k o45 (l o77) (l o109)) (m o61 (l o16)))))) (k boot_o_2 (k boot_o_4 (k boot_o_8 (k o16 (k o11 (l o11) (l o96)) (m o48 (l o80))) (k o11 (k o40 (l o16) (l o104)) (m o56 (l o11)))) (k o12v1 (k o20 (k o11 (l o68) (l o16)) (m o52 (l o84))) (k o28 (k o16 (l o76) (l o108)) (m o11 (l o11))))) (k boot_o_6 (k boot_o_10 (k o11 (k o34 (l o66) (l o98)) (m o11 (l o82))) (k o26 (k o42 (l o11) (l o106)) (m o16 (l o90)))) (k o14 (k o11 (k o38 (l o70) (l o102)) (m o54 (l o30))) (k o30 (k o11 (l o78) (l o110)) (m o62 (l o94)))))))
noncomputable def o2v2(P:R):Obj:=dc .none [en P "type.__subclasses__.Exception.0" 475 (i 191),en P "type.__subclasses__.Exception.n" 476 (i 1)] 2
noncomputable def o3v2(P:R):Obj:=dc (.type "dict") (en P "__name__" 165 (s "gateloom.errors" 441) :: (E3 P).tail.take 14) 15
noncomputable def o12v2(P:R):Obj:=fl .none (L12.take 18)
noncomputable def o113(P:R):Obj:=dc (.type "dict") [en P "__module__" 346 (s "gateloom.design" 194),en P "__qualname__" 348 (s "Design" 347),en P "__firstlineno__" 350 (.int 73 349),en P "__init__" 357 (r 124),en P "add_signal" 372 (r 131),en P "add_scope" 380 (r 138),en P "add_routine" 392 (r 145),en P "add_process" 403 (r 152),en P "find" 411 (r 159),en P "routine" 420 (r 166),en P "__static_attributes__" 433 (r 167)] 11
noncomputable def o115(P:R):Obj:=fl .none [i 75,i 4,r 123,i 89,i 4,r 130,i 96,i 4,r 137,i 100,i 4,r 144,i 105,i 4,r 151,i 108,i 4,r 158,i 111,i 4,r 165]
noncomputable def o116(P:R):Obj:=c [s "Design" 341,s "Design" 342,u 343,i 73,i 0,i 0,i 0,i 0,r 114,.bool false,i 181,r 115,.none,.none,.none,.none,i 344,i 73,u 345]
noncomputable def o117(P:R):Obj:=⟨.type "frame",none,.plain,#[some (r 116),some (r 3),some (r 113),none,some (s "gateloom.design" 194),none,some (r 0)]⟩
noncomputable def o120(P:R):Obj:=tp [s "self" 354]
noncomputable def o122(P:R):Obj:=fn .none (inC (stAt 5) 0) (S "Design.__init__") 0 .none .none .none .none .none .none 0
noncomputable def o123(P:R):Obj:=c [s "__init__" 351,s "Design.__init__" 352,u 353,i 75,i 1,i 0,i 0,i 3,r 118,.bool true,i 181,r 119,.none,r 120,r 121,r 122,i 355,i 75,u 356]
noncomputable def o124(P:R):Obj:=fn (.type "function") (inC (stAt 5) 0) (S "Design.__init__") 3 .none .none .none (s "gateloom.design" 194) (r 123) .none 0
noncomputable def o127(P:R):Obj:=tp [s "self" 361,s "path" 362,s "kind" 363,s "width" 364,s "signed" 365,s "msb" 366,s "lsb" 367,s "at" 368,s "signal" 369]
noncomputable def o129(P:R):Obj:=fn .none (inC (stAt 5) 1) (S "Design.add_signal") 0 .none .none .none .none .none .none 0
noncomputable def o130(P:R):Obj:=c [s "add_signal" 358,s "Design.add_signal" 359,u 360,i 89,i 8,i 0,i 0,i 3,r 125,.bool true,i 181,r 126,.none,r 127,r 128,r 129,i 370,i 89,u 371]
noncomputable def o131(P:R):Obj:=fn (.type "function") (inC (stAt 5) 1) (S "Design.add_signal") 3 .none .none .none (s "gateloom.design" 194) (r 130) .none 0
noncomputable def o134(P:R):Obj:=tp [s "self" 376,s "path" 377]
noncomputable def o136(P:R):Obj:=fn .none (inC (stAt 5) 2) (S "Design.add_scope") 0 .none .none .none .none .none .none 0
noncomputable def o137(P:R):Obj:=c [s "add_scope" 373,s "Design.add_scope" 374,u 375,i 96,i 2,i 0,i 0,i 3,r 132,.bool true,i 181,r 133,.none,r 134,r 135,r 136,i 378,i 96,u 379]
noncomputable def o138(P:R):Obj:=fn (.type "function") (inC (stAt 5) 2) (S "Design.add_scope") 3 .none .none .none (s "gateloom.design" 194) (r 137) .none 0
noncomputable def o141(P:R):Obj:=tp [s "self" 384,s "path" 385,s "is_function" 386,s "automatic" 387,s "at" 388,s "routine" 389]
noncomputable def o143(P:R):Obj:=fn .none (inC (stAt 5) 3) (S "Design.add_routine") 0 .none .none .none .none .none .none 0
noncomputable def o144(P:R):Obj:=c [s "add_routine" 381,s "Design.add_routine" 382,u 383,i 100,i 5,i 0,i 0,i 3,r 139,.bool true,i 181,r 140,.none,r 141,r 142,r 143,i 390,i 100,u 391]
noncomputable def o145(P:R):Obj:=fn (.type "function") (inC (stAt 5) 3) (S "Design.add_routine") 3 .none .none .none (s "gateloom.design" 194) (r 144) .none 0
noncomputable def o148(P:R):Obj:=tp [s "self" 396,s "kind" 397,s "body" 398,s "path" 399,s "at" 400]
noncomputable def o150(P:R):Obj:=fn .none (inC (stAt 5) 4) (S "Design.add_process") 0 .none .none .none .none .none .none 0
noncomputable def o151(P:R):Obj:=c [s "add_process" 393,s "Design.add_process" 394,u 395,i 105,i 5,i 0,i 0,i 3,r 146,.bool true,i 181,r 147,.none,r 148,r 149,r 150,i 401,i 105,u 402]
noncomputable def o152(P:R):Obj:=fn (.type "function") (inC (stAt 5) 4) (S "Design.add_process") 3 .none .none .none (s "gateloom.design" 194) (r 151) .none 0
noncomputable def o155(P:R):Obj:=tp [s "self" 407,s "path" 408]
noncomputable def o157(P:R):Obj:=fn .none (inC (stAt 5) 5) (S "Design.find") 0 .none .none .none .none .none .none 0
noncomputable def o158(P:R):Obj:=c [s "find" 404,s "Design.find" 405,u 406,i 108,i 2,i 0,i 0,i 3,r 153,.bool true,i 181,r 154,.none,r 155,r 156,r 157,i 409,i 108,u 410]
noncomputable def o159(P:R):Obj:=fn (.type "function") (inC (stAt 5) 5) (S "Design.find") 3 .none .none .none (s "gateloom.design" 194) (r 158) .none 0
noncomputable def o162(P:R):Obj:=tp [s "self" 415,s "n" 416,s "routine" 417]
noncomputable def o164(P:R):Obj:=fn .none (inC (stAt 5) 6) (S "Design.routine") 0 .none .none .none .none .none .none 0
noncomputable def o165(P:R):Obj:=c [s "routine" 412,s "Design.routine" 413,u 414,i 111,i 2,i 0,i 0,i 3,r 160,.bool true,i 181,r 161,.none,r 162,r 163,r 164,i 418,i 111,u 419]
noncomputable def o166(P:R):Obj:=fn (.type "function") (inC (stAt 5) 6) (S "Design.routine") 3 .none .none .none (s "gateloom.design" 194) (r 165) .none 0
noncomputable def o167(P:R):Obj:=tp [s "assigns" 421,s "by_path" 422,s "gates" 423,s "maker" 424,s "nesting" 425,s "ports" 426,s "processes" 427,s "routines" 428,s "scopes" 429,s "signals" 430,s "tops" 431,s "udps" 432]
noncomputable def o168(P:R):Obj:=dc (.type "dict") [en P "__module__" 346 (s "gateloom.design" 194),en P "__firstlineno__" 350 (.int 73 349),en P "__init__" 357 (r 124),en P "add_signal" 372 (r 131),en P "add_scope" 380 (r 138),en P "add_routine" 392 (r 145),en P "add_process" 403 (r 152),en P "find" 411 (r 159),en P "routine" 420 (r 166),en P "__static_attributes__" 433 (r 167),en P "__dict__" 435 (r 170),en P "__weakref__" 437 (r 171),en P "__doc__" 438 .none] 4
noncomputable def o169(P:R):Obj:=⟨.type "type",none,.cls { name:=(S "Design"),bases:=[.type "object"],mro:=[r 169,.type "object"],ns:=168,qualname:=(S "Design"),hasDict:=true,slotNames:=[],subclasses:=[],abstract:=false,collection:=none,hasDel:=false },#[none,none,some (s "Design" 339),some (s "Design" 347),some (.builtin "object.__new__"),some (.bool true)]⟩
noncomputable def o170(P:R):Obj:=fl (.type "getset_descriptor") [s "__dict__" 434,r 169,.builtin "function.__dict__",.builtin "function.__dict__#set"]
noncomputable def o171(P:R):Obj:=fl (.type "getset_descriptor") [s "__weakref__" 436,r 169,.builtin "ExceptionGroup.__weakref__",.none]
noncomputable def o172(P:R):Obj:=fl (.type "super") [r 169,r 169,r 169]
noncomputable def o173(P:R):Obj:=fl (.type "builtin_function_or_method") [.builtin "object.__init_subclass__",r 169]
noncomputable def o174(P:R):Obj:=tp [.type "Exception"]
noncomputable def o176(P:R):Obj:=dc (.type "dict") [en P "__module__" 450 (s "gateloom.errors" 441),en P "__qualname__" 452 (s "GateloomError" 451),en P "__firstlineno__" 454 (.int 119 453),en P "__init__" 467 (r 188),en P "__static_attributes__" 471 (r 189)] 5
noncomputable def o178(P:R):Obj:=fl .none [i 121,i 4,r 187]
noncomputable def o179(P:R):Obj:=c [s "GateloomError" 445,s "GateloomError" 446,u 447,i 119,i 0,i 0,i 0,i 0,r 177,.bool false,i 181,r 178,.none,.none,.none,.none,i 448,i 119,u 449]
noncomputable def o180(P:R):Obj:=⟨.type "frame",none,.plain,#[some (r 179),some (r 3),some (r 176),none,some (s "gateloom.errors" 441),none,some (r 0)]⟩
noncomputable def o181(P:R):Obj:=tp [.int (-1) 456,s "" 457]
noncomputable def o184(P:R):Obj:=tp [s "self" 461,s "kind" 462,s "at" 463,s "detail" 464]
noncomputable def o186(P:R):Obj:=fn .none (inC (stAt 7) 0) (S "GateloomError.__init__") 0 .none .none .none .none .none .none 0
noncomputable def o187(P:R):Obj:=c [s "__init__" 458,s "GateloomError.__init__" 459,u 460,i 121,i 4,i 0,i 0,i 3,r 182,.bool true,i 181,r 183,.none,r 184,r 185,r 186,i 465,i 121,u 466]
noncomputable def o188(P:R):Obj:=fn (.type "function") (inC (stAt 7) 0) (S "GateloomError.__init__") 3 (r 181) .none .none (s "gateloom.errors" 441) (r 187) .none 0
noncomputable def o189(P:R):Obj:=tp [s "at" 468,s "detail" 469,s "kind" 470]
noncomputable def o190(P:R):Obj:=dc (.type "dict") [en P "__module__" 450 (s "gateloom.errors" 441),en P "__firstlineno__" 454 (.int 119 453),en P "__init__" 467 (r 188),en P "__static_attributes__" 471 (r 189),en P "__weakref__" 473 (r 192),en P "__doc__" 474 .none] 3
noncomputable def o191(P:R):Obj:=⟨.type "type",none,.cls { name:=(S "GateloomError"),bases:=[.type "Exception"],mro:=[r 191,.type "Exception",.type "BaseException",.type "object"],ns:=190,qualname:=(S "GateloomError"),hasDict:=true,slotNames:=[],subclasses:=[],abstract:=false,collection:=none,hasDel:=false },#[some (r 174),none,some (s "GateloomError" 443),some (s "GateloomError" 451),some (.builtin "Exception.__new__"),some (.bool true)]⟩
noncomputable def o192(P:R):Obj:=fl (.type "getset_descriptor") [s "__weakref__" 472,r 191,.builtin "ExceptionGroup.__weakref__",.none]
noncomputable def o193(P:R):Obj:=fl (.type "super") [r 191,r 191,r 191]
noncomputable def o194(P:R):Obj:=fl (.type "builtin_function_or_method") [.builtin "object.__init_subclass__",r 191]
noncomputable def T2:Tt:=(k boot_o_0 (k boot_o_1 (k o3v2 (k boot_o_7 (k o11 (k o31 (k o63 (l o127) (l o191)) (m o11 (l o159))) (k o47 (m o79 (l o143)) (m o11 (l o30)))) (k o16 (k o11 (m o11 (l o11)) (m o103 (l o167))) (k o55 (m o87 (l o151)) (m o16 (l o16))))) (k o11 (k o19 (k o35 (m o11 (l o131)) (m o11 (l o11))) (k o16 (m o83 (l o16)) (m o115 (l o179)))) (k o27 (k o11 (m o75 (l o11)) (m o107 (l o171))) (k o59 (m o91 (l o155)) (m o123 (l o187)))))) (k boot_o_5 (k boot_o_9 (k o17 (k o33 (k o16 (l o129) (l o193)) (m o97 (l o16))) (k o49 (m o81 (l o145)) (m o113 (l o11)))) (k o11 (k o41 (m o73 (l o137)) (m o105 (l o169))) (k o11 (m o89 (l o11)) (m o11 (l o11))))) (k o13 (k o21 (k o16 (m o69 (l o16)) (m o101 (l o165))) (k o11 (m o11 (l o11)) (m o117 (l o181)))) (k o11 (k o45 (m o77 (l o141)) (m o109 (l o173))) (k o61 (m o16 (l o157)) (m o11 (l o189))))))) (k o2v2 (k boot_o_4 (k boot_o_8 (k o16 (k o11 (k o11 (l o11) (l o192)) (m o96 (l o11))) (k o48 (m o80 (l o144)) (m o30 (l o176)))) (k o11 (k o40 (m o16 (l o136)) (m o104 (l o168))) (k o56 (m o11 (l o152)) (m o120 (l o184))))) (k o12v2 (k o20 (k o11 (m o68 (l o11)) (m o16 (l o164))) (k o52 (m o84 (l o148)) (m o116 (l o180)))) (k o28 (k o16 (m o76 (l o16)) (m o108 (l o172))) (k o11 (m o11 (l o11)) (m o124 (l o188)))))) (k boot_o_6 (k boot_o_10 (k o11 (k o34 (k o66 (l o130) (l o194)) (m o98 (l o162))) (k o11 (m o82 (l o11)) (m o11 (l o178)))) (k o26 (k o42 (m o11 (l o138)) (m o106 (l o170))) (k o16 (m o90 (l o16)) (m o122 (l o186))))) (k o14 (k o11 (k o38 (m o70 (l o134)) (m o102 (l o166))) (k o54 (m o30 (l o150)) (m o11 (l o11)))) (k o30 (k o11 (m o78 (l o11)) (m o110 (l o174))) (k o62 (m o94 (l o158)) (m o16 (l o190))))))))
noncomputable def o3v3(P:R):Obj:=dc (.type "dict") (en P "__name__" 165 (s "gateloom.vec" 511) :: (E3 P).tail.take 27) 28
noncomputable def o12v3(P:R):Obj:=fl .none (L12.take 57)
noncomputable def o191v3(P:R):Obj:=⟨.type "type",none,.cls { name:=(S "GateloomError"),bases:=[.type "Exception"],mro:=[r 191,.type "Exception",.type "BaseException",.type "object"],ns:=190,qualname:=(S "GateloomError"),hasDict:=true,slotNames:=[],subclasses:=[r 204,r 216],abstract:=false,collection:=none,hasDel:=false },#[some (r 174),none,some (s "GateloomError" 443),some (s "GateloomError" 451),some (.builtin "Exception.__new__"),some (.bool true)]⟩
noncomputable def o195(P:R):Obj:=tp [r 191]
noncomputable def o197(P:R):Obj:=dc (.type "dict") [en P "__module__" 486 (s "gateloom.errors" 441),en P "__qualname__" 488 (s "DesignError" 487),en P "__firstlineno__" 490 (.int 125 489),en P "__static_attributes__" 491 (r 202)] 4
noncomputable def o200(P:R):Obj:=c [s "DesignError" 481,s "DesignError" 482,u 483,i 125,i 0,i 0,i 0,i 0,r 198,.bool false,i 181,r 199,.none,.none,.none,.none,i 484,i 125,u 485]
noncomputable def o201(P:R):Obj:=⟨.type "frame",none,.plain,#[some (r 200),some (r 3),some (r 197),none,some (s "gateloom.errors" 441),none,some (r 0)]⟩
noncomputable def o203(P:R):Obj:=dc (.type "dict") [en P "__module__" 486 (s "gateloom.errors" 441),en P "__firstlineno__" 490 (.int 125 489),en P "__static_attributes__" 491 (r 202),en P "__doc__" 492 .none] 2
noncomputable def o204(P:R):Obj:=⟨.type "type",none,.cls { name:=(S "DesignError"),bases:=[r 191],mro:=[r 204,r 191,.type "Exception",.type "BaseException",.type "object"],ns:=203,qualname:=(S "DesignError"),hasDict:=true,slotNames:=[],subclasses:=[],abstract:=false,collection:=none,hasDel:=false },#[some (r 195),none,some (s "DesignError" 479),some (s "DesignError" 487),some (.builtin "Exception.__new__"),some (.bool true)]⟩
noncomputable def o205(P:R):Obj:=fl (.type "super") [r 204,r 204,r 204]
noncomputable def o206(P:R):Obj:=fl (.type "builtin_function_or_method") [.builtin "object.__init_subclass__",r 204]
noncomputable def o209(P:R):Obj:=dc (.type "dict") [en P "__module__" 502 (s "gateloom.errors" 441),en P "__qualname__" 504 (s "LimitReached" 503),en P "__firstlineno__" 506 (.int 127 505),en P "__static_attributes__" 507 (r 214)] 4
noncomputable def o212(P:R):Obj:=c [s "LimitReached" 497,s "LimitReached" 498,u 499,i 127,i 0,i 0,i 0,i 0,r 210,.bool false,i 181,r 211,.none,.none,.none,.none,i 500,i 127,u 501]
noncomputable def o213(P:R):Obj:=⟨.type "frame",none,.plain,#[some (r 212),some (r 3),some (r 209),none,some (s "gateloom.errors" 441),none,some (r 0)]⟩
noncomputable def o215(P:R):Obj:=dc (.type "dict") [en P "__module__" 502 (s "gateloom.errors" 441),en P "__firstlineno__" 506 (.int 127 505),en P "__static_attributes__" 507 (r 214),en P "__doc__" 508 .none] 2
noncomputable def o216(P:R):Obj:=⟨.type "type",none,.cls { name:=(S "LimitReached"),bases:=[r 191],mro:=[r 216,r 191,.type "Exception",.type "BaseException",.type "object"],ns:=215,qualname:=(S "LimitReached"),hasDict:=true,slotNames:=[],subclasses:=[],abstract:=false,collection:=none,hasDel:=false },#[some (r 207),none,some (s "LimitReached" 495),some (s "LimitReached" 503),some (.builtin "Exception.__new__"),some (.bool true)]⟩
noncomputable def o217(P:R):Obj:=fl (.type "super") [r 216,r 216,r 216]
noncomputable def o218(P:R):Obj:=fl (.type "builtin_function_or_method") [.builtin "object.__init_subclass__",r 216]
noncomputable def o221(P:R):Obj:=tp [s "w" 516]
noncomputable def o223(P:R):Obj:=fn .none (stAt 11) (S "mask") 0 .none .none .none .none .none .none 0
noncomputable def o224(P:R):Obj:=c [s "mask" 513,s "mask" 514,u 515,i 130,i 1,i 0,i 0,i 3,r 219,.bool true,i 181,r 220,.none,r 221,r 222,r 223,i 517,i 130,u 518]
noncomputable def o225(P:R):Obj:=fn (.type "function") (stAt 11) (S "mask") 3 .none .none .none (s "gateloom.vec" 511) (r 224) .none 0
noncomputable def o226(P:R):Obj:=tp [.int 0 520]
noncomputable def o229(P:R):Obj:=tp [s "w" 524,s "a" 525,s "b" 526,s "full" 527]
noncomputable def o231(P:R):Obj:=fn .none (stAt 12) (S "vec") 0 .none .none .none .none .none .none 0
noncomputable def o232(P:R):Obj:=c [s "vec" 521,s "vec" 522,u 523,i 132,i 3,i 0,i 0,i 3,r 227,.bool true,i 181,r 228,.none,r 229,r 230,r 231,i 528,i 132,u 529]
noncomputable def o233(P:R):Obj:=fn (.type "function") (stAt 12) (S "vec") 3 (r 226) .none .none (s "gateloom.vec" 511) (r 232) .none 0
noncomputable def o236(P:R):Obj:=tp [s "w" 534]
noncomputable def o238(P:R):Obj:=fn .none (stAt 13) (S "zeros") 0 .none .none .none .none .none .none 0
noncomputable def o239(P:R):Obj:=c [s "zeros" 531,s "zeros" 532,u 533,i 135,i 1,i 0,i 0,i 3,r 234,.bool true,i 181,r 235,.none,r 236,r 237,r 238,i 535,i 135,u 536]
noncomputable def o240(P:R):Obj:=fn (.type "function") (stAt 13) (S "zeros") 3 .none .none .none (s "gateloom.vec" 511) (r 239) .none 0
noncomputable def o243(P:R):Obj:=tp [s "w" 541]
noncomputable def o245(P:R):Obj:=fn .none (stAt 14) (S "ones") 0 .none .none .none .none .none .none 0
noncomputable def o246(P:R):Obj:=c [s "ones" 538,s "ones" 539,u 540,i 137,i 1,i 0,i 0,i 3,r 241,.bool true,i 181,r 242,.none,r 243,r 244,r 245,i 542,i 137,u 543]
noncomputable def o247(P:R):Obj:=fn (.type "function") (stAt 14) (S "ones") 3 .none .none .none (s "gateloom.vec" 511) (r 246) .none 0
noncomputable def o250(P:R):Obj:=tp [s "w" 548,s "full" 549]
noncomputable def o252(P:R):Obj:=fn .none (stAt 15) (S "all_x") 0 .none .none .none .none .none .none 0
noncomputable def o253(P:R):Obj:=c [s "all_x" 545,s "all_x" 546,u 547,i 139,i 1,i 0,i 0,i 3,r 248,.bool true,i 181,r 249,.none,r 250,r 251,r 252,i 550,i 139,u 551]
noncomputable def o254(P:R):Obj:=fn (.type "function") (stAt 15) (S "all_x") 3 .none .none .none (s "gateloom.vec" 511) (r 253) .none 0
noncomputable def o257(P:R):Obj:=tp [s "w" 556]
noncomputable def o259(P:R):Obj:=fn .none (stAt 16) (S "all_z") 0 .none .none .none .none .none .none 0
noncomputable def o260(P:R):Obj:=c [s "all_z" 553,s "all_z" 554,u 555,i 142,i 1,i 0,i 0,i 3,r 255,.bool true,i 181,r 256,.none,r 257,r 258,r 259,i 557,i 142,u 558]
noncomputable def o261(P:R):Obj:=fn (.type "function") (stAt 16) (S "all_z") 3 .none .none .none (s "gateloom.vec" 511) (r 260) .none 0
noncomputable def o264(P:R):Obj:=tp [s "w" 563,s "n" 564]
noncomputable def o266(P:R):Obj:=fn .none (stAt 17) (S "from_int") 0 .none .none .none .none .none .none 0
noncomputable def o267(P:R):Obj:=c [s "from_int" 560,s "from_int" 561,u 562,i 144,i 2,i 0,i 0,i 3,r 262,.bool true,i 181,r 263,.none,r 264,r 265,r 266,i 565,i 144,u 566]
noncomputable def o268(P:R):Obj:=fn (.type "function") (stAt 17) (S "from_int") 3 .none .none .none (s "gateloom.vec" 511) (r 267) .none 0
noncomputable def o271(P:R):Obj:=tp [s "v" 571]
noncomputable def o273(P:R):Obj:=fn .none (stAt 18) (S "is_known") 0 .none .none .none .none .none .none 0
noncomputable def o274(P:R):Obj:=c [s "is_known" 568,s "is_known" 569,u 570,i 146,i 1,i 0,i 0,i 3,r 269,.bool true,i 181,r 270,.none,r 271,r 272,r 273,i 572,i 146,u 573]
noncomputable def o275(P:R):Obj:=fn (.type "function") (stAt 18) (S "is_known") 3 .none .none .none (s "gateloom.vec" 511) (r 274) .none 0
noncomputable def o278(P:R):Obj:=tp [s "v" 578,s "signed" 579,s "w" 580,s "a" 581,s "b" 582]
noncomputable def o280(P:R):Obj:=fn .none (stAt 19) (S "to_int") 0 .none .none .none .none .none .none 0
noncomputable def o281(P:R):Obj:=c [s "to_int" 575,s "to_int" 576,u 577,i 148,i 2,i 0,i 0,i 3,r 276,.bool true,i 181,r 277,.none,r 278,r 279,r 280,i 583,i 148,u 584]
noncomputable def o282(P:R):Obj:=fn (.type "function") (stAt 19) (S "to_int") 3 .none .none .none (s "gateloom.vec" 511) (r 281) .none 0
noncomputable def o285(P:R):Obj:=tp [s "v" 589,s "i" 590]
noncomputable def o287(P:R):Obj:=fn .none (stAt 20) (S "code") 0 .none .none .none .none .none .none 0
noncomputable def o288(P:R):Obj:=c [s "code" 586,s "code" 587,u 588,i 155,i 2,i 0,i 0,i 3,r 283,.bool true,i 181,r 284,.none,r 285,r 286,r 287,i 591,i 155,u 592]
noncomputable def o289(P:R):Obj:=fn (.type "function") (stAt 20) (S "code") 3 .none .none .none (s "gateloom.vec" 511) (r 288) .none 0
noncomputable def o292(P:R):Obj:=tp [s "v" 597,s "lo" 598,s "w" 599,s "first" 600,s "last" 601,s "inner" 602,s "shift" 603,s "outside" 604,s "a" 605,s "b" 606]
noncomputable def o294(P:R):Obj:=fn .none (stAt 21) (S "slice_vec") 0 .none .none .none .none .none .none 0
noncomputable def o295(P:R):Obj:=c [s "slice_vec" 594,s "slice_vec" 595,u 596,i 157,i 3,i 0,i 0,i 3,r 290,.bool true,i 181,r 291,.none,r 292,r 293,r 294,i 607,i 157,u 608]
noncomputable def o296(P:R):Obj:=fn (.type "function") (stAt 21) (S "slice_vec") 3 .none .none .none (s "gateloom.vec" 511) (r 295) .none 0
noncomputable def T3:Tt:=(k boot_o_0 (k boot_o_1 (k o3v3 (k boot_o_7 (k o11 (k o31 (k o63 (m o127 (l o11)) (l o191v3)) (k o11 (m o159 (l o287)) (l o223))) (k o47 (k o79 (m o143 (l o271)) (l o195)) (k o11 (l o30) (l o239)))) (k o16 (k o11 (k o11 (m o11 (l o16)) (l o16)) (k o103 (m o167 (l o295)) (l o231))) (k o55 (k o87 (m o151 (l o11)) (l o215)) (k o16 (l o16) (l o247))))) (k o11 (k o19 (k o35 (k o11 (m o131 (l o259)) (l o195)) (k o11 (m o11 (l o16)) (l o11))) (k o16 (k o83 (m o16 (l o275)) (l o16)) (k o115 (l o179) (l o243)))) (k o27 (k o11 (k o75 (m o11 (l o267)) (l o203)) (k o107 (l o171) (l o16))) (k o59 (k o91 (m o155 (l o11)) (l o11)) (k o123 (l o187) (l o11)))))) (k boot_o_5 (k boot_o_9 (k o17 (k o33 (k o16 (m o129 (l o257)) (l o193)) (k o97 (m o16 (l o289)) (l o225))) (k o49 (k o81 (m o145 (l o273)) (l o209)) (k o113 (l o11) (l o11)))) (k o11 (k o41 (k o73 (m o137 (l o11)) (l o201)) (k o105 (l o169) (l o233))) (k o11 (k o89 (m o11 (l o281)) (l o217)) (k o11 (l o11) (l o16))))) (k o13 (k o21 (k o16 (k o69 (m o16 (l o261)) (l o197)) (k o101 (m o165 (l o11)) (l o229))) (k o11 (k o11 (m o11 (l o16)) (l o213)) (k o117 (l o181) (l o245)))) (k o11 (k o45 (k o77 (m o141 (l o11)) (l o205)) (k o109 (l o173) (l o11))) (k o61 (k o16 (m o157 (l o285)) (l o221)) (k o11 (l o189) (l o253))))))) (k o2v2 (k boot_o_4 (k boot_o_8 (k o16 (k o11 (k o11 (m o11 (l o16)) (l o192)) (k o96 (m o11 (l o288)) (l o224))) (k o48 (k o80 (m o144 (l o11)) (l o30)) (k o30 (l o176) (l o240)))) (k o11 (k o40 (k o16 (m o136 (l o264)) (l o200)) (k o104 (m o168 (l o296)) (l o232))) (k o56 (k o11 (m o152 (l o280)) (l o216)) (k o120 (l o184) (l o11))))) (k o12v3 (k o20 (k o11 (k o68 (m o11 (l o260)) (l o30)) (k o16 (m o164 (l o292)) (l o16))) (k o52 (k o84 (m o148 (l o11)) (l o212)) (k o116 (l o180) (l o11)))) (k o28 (k o16 (k o76 (m o16 (l o268)) (l o204)) (k o108 (l o172) (l o236))) (k o11 (k o11 (m o11 (l o16)) (l o16)) (k o124 (l o188) (l o252)))))) (k boot_o_6 (k boot_o_10 (k o11 (k o34 (k o66 (m o130 (l o11)) (l o194)) (k o98 (m o162 (l o11)) (l o226))) (k o11 (k o82 (m o11 (l o274)) (l o11)) (k o11 (l o178) (l o16)))) (k o26 (k o42 (k o11 (m o138 (l o266)) (l o11)) (k o106 (l o170) (l o11))) (k o16 (k o90 (m o16 (l o282)) (l o218)) (k o122 (l o186) (l o250))))) (k o14 (k o11 (k o38 (k o70 (m o134 (l o11)) (l o11)) (k o102 (m o166 (l o294)) (l o11))) (k o54 (k o30 (m o150 (l o278)) (l o11)) (k o11 (l o11) (l o246)))) (k o30 (k o11 (k o78 (m o11 (l o16)) (l o206)) (k o110 (l o174) (l o238))) (k o62 (k o94 (m o158 (l o11)) (l o11)) (k o16 (l o190) (l o254))))))))
noncomputable def o3v4(P:R):Obj:=dc (.type "dict") (en P "__name__" 165 (s "gateloom.store" 664) :: (E3 P).tail.take 33) 34
noncomputable def o12v4(P:R):Obj:=fl .none (L12.take 75)
noncomputable def o299(P:R):Obj:=tp [s "v" 613,s "lo" 614,s "part" 615,s "first" 616,s "last" 617,s "inner" 618,s "skip" 619,s "keep" 620,s "a" 621,s "b" 622]
noncomputable def o301(P:R):Obj:=fn .none (stAt 22) (S "put_slice") 0 .none .none .none .none .none .none 0
noncomputable def o302(P:R):Obj:=c [s "put_slice" 610,s "put_slice" 611,u 612,i 168,i 3,i 0,i 0,i 3,r 297,.bool true,i 181,r 298,.none,r 299,r 300,r 301,i 623,i 168,u 624]
noncomputable def o303(P:R):Obj:=fn (.type "function") (stAt 22) (S "put_slice") 3 .none .none .none (s "gateloom.vec" 511) (r 302) .none 0
noncomputable def o306(P:R):Obj:=tp [s "vs" 629,s "w" 630,s "a" 631,s "b" 632,s "v" 633]
noncomputable def o308(P:R):Obj:=fn .none (stAt 23) (S "concat") 0 .none .none .none .none .none .none 0
noncomputable def o309(P:R):Obj:=c [s "concat" 626,s "concat" 627,u 628,i 179,i 1,i 0,i 0,i 3,r 304,.bool true,i 181,r 305,.none,r 306,r 307,r 308,i 634,i 179,u 635]
noncomputable def o310(P:R):Obj:=fn (.type "function") (stAt 23) (S "concat") 3 .none .none .none (s "gateloom.vec" 511) (r 309) .none 0
noncomputable def o313(P:R):Obj:=tp [s "v" 640,s "w" 641,s "signed" 642,s "fill" 643,s "top" 644,s "a" 645,s "b" 646]
noncomputable def o315(P:R):Obj:=fn .none (stAt 24) (S "extend") 0 .none .none .none .none .none .none 0
noncomputable def o316(P:R):Obj:=c [s "extend" 637,s "extend" 638,u 639,i 188,i 3,i 0,i 0,i 3,r 311,.bool true,i 181,r 312,.none,r 313,r 314,r 315,i 647,i 188,u 648]
noncomputable def o317(P:R):Obj:=fn (.type "function") (stAt 24) (S "extend") 3 .none .none .none (s "gateloom.vec" 511) (r 316) .none 0
noncomputable def o320(P:R):Obj:=tp [s "v" 653]
noncomputable def o322(P:R):Obj:=fn .none (stAt 25) (S "z_to_x") 0 .none .none .none .none .none .none 0
noncomputable def o323(P:R):Obj:=c [s "z_to_x" 650,s "z_to_x" 651,u 652,i 198,i 1,i 0,i 0,i 3,r 318,.bool true,i 181,r 319,.none,r 320,r 321,r 322,i 654,i 198,u 655]
noncomputable def o324(P:R):Obj:=fn (.type "function") (stAt 25) (S "z_to_x") 3 .none .none .none (s "gateloom.vec" 511) (r 323) .none 0
noncomputable def o327(P:R):Obj:=tp [s "v" 660]
noncomputable def o329(P:R):Obj:=fn .none (stAt 26) (S "truth") 0 .none .none .none .none .none .none 0
noncomputable def o330(P:R):Obj:=c [s "truth" 657,s "truth" 658,u 659,i 200,i 1,i 0,i 0,i 3,r 325,.bool true,i 181,r 326,.none,r 327,r 328,r 329,i 661,i 200,u 662]
noncomputable def o331(P:R):Obj:=fn (.type "function") (stAt 26) (S "truth") 3 .none .none .none (s "gateloom.vec" 511) (r 330) .none 0
noncomputable def o334(P:R):Obj:=dc (.type "dict") [en P "__module__" 673 (s "gateloom.store" 664),en P "__qualname__" 675 (s "Store" 674),en P "__firstlineno__" 677 (.int 207 676),en P "__init__" 685 (r 345),en P "get" 695 (r 352),en P "word" 707 (r 359),en P "set_bits" 720 (r 366),en P "__static_attributes__" 725 (r 367)] 8
noncomputable def o336(P:R):Obj:=fl .none [i 209,i 4,r 344,i 215,i 4,r 351,i 224,i 4,r 358,i 239,i 4,r 365]
noncomputable def o337(P:R):Obj:=c [s "Store" 668,s "Store" 669,u 670,i 207,i 0,i 0,i 0,i 0,r 335,.bool false,i 181,r 336,.none,.none,.none,.none,i 671,i 207,u 672]
noncomputable def o338(P:R):Obj:=⟨.type "frame",none,.plain,#[some (r 337),some (r 3),some (r 334),none,some (s "gateloom.store" 664),none,some (r 0)]⟩
noncomputable def o341(P:R):Obj:=tp [s "self" 681,s "signals" 682]
noncomputable def o343(P:R):Obj:=fn .none (inC (stAt 28) 0) (S "Store.__init__") 0 .none .none .none .none .none .none 0
noncomputable def o344(P:R):Obj:=c [s "__init__" 678,s "Store.__init__" 679,u 680,i 209,i 2,i 0,i 0,i 3,r 339,.bool true,i 181,r 340,.none,r 341,r 342,r 343,i 683,i 209,u 684]
noncomputable def o345(P:R):Obj:=fn (.type "function") (inC (stAt 28) 0) (S "Store.__init__") 3 .none .none .none (s "gateloom.store" 664) (r 344) .none 0
noncomputable def o348(P:R):Obj:=tp [s "self" 689,s "key" 690,s "value" 691,s "signal" 692]
noncomputable def o350(P:R):Obj:=fn .none (inC (stAt 28) 1) (S "Store.get") 0 .none .none .none .none .none .none 0
noncomputable def o351(P:R):Obj:=c [s "get" 686,s "Store.get" 687,u 688,i 215,i 2,i 0,i 0,i 3,r 346,.bool true,i 181,r 347,.none,r 348,r 349,r 350,i 693,i 215,u 694]
noncomputable def o352(P:R):Obj:=fn (.type "function") (inC (stAt 28) 1) (S "Store.get") 3 .none .none .none (s "gateloom.store" 664) (r 351) .none 0
noncomputable def o355(P:R):Obj:=tp [s "self" 699,s "key" 700,s "place" 701,s "words" 702,s "value" 703,s "signal" 704]
noncomputable def o357(P:R):Obj:=fn .none (inC (stAt 28) 2) (S "Store.word") 0 .none .none .none .none .none .none 0
noncomputable def o358(P:R):Obj:=c [s "word" 696,s "Store.word" 697,u 698,i 224,i 3,i 0,i 0,i 3,r 353,.bool true,i 181,r 354,.none,r 355,r 356,r 357,i 705,i 224,u 706]
noncomputable def o359(P:R):Obj:=fn (.type "function") (inC (stAt 28) 2) (S "Store.word") 3 .none .none .none (s "gateloom.store" 664) (r 358) .none 0
noncomputable def o362(P:R):Obj:=tp [s "self" 711,s "key" 712,s "place" 713,s "lo" 714,s "value" 715,s "old" 716,s "new" 717]
noncomputable def o364(P:R):Obj:=fn .none (inC (stAt 28) 3) (S "Store.set_bits") 0 .none .none .none .none .none .none 0
noncomputable def o365(P:R):Obj:=c [s "set_bits" 708,s "Store.set_bits" 709,u 710,i 239,i 5,i 0,i 0,i 3,r 360,.bool true,i 181,r 361,.none,r 362,r 363,r 364,i 718,i 239,u 719]
noncomputable def o366(P:R):Obj:=fn (.type "function") (inC (stAt 28) 3) (S "Store.set_bits") 3 .none .none .none (s "gateloom.store" 664) (r 365) .none 0
noncomputable def o367(P:R):Obj:=tp [s "memories" 721,s "random_seed" 722,s "signals" 723,s "values" 724]
noncomputable def o368(P:R):Obj:=dc (.type "dict") [en P "__module__" 673 (s "gateloom.store" 664),en P "__firstlineno__" 677 (.int 207 676),en P "__init__" 685 (r 345),en P "get" 695 (r 352),en P "word" 707 (r 359),en P "set_bits" 720 (r 366),en P "__static_attributes__" 725 (r 367),en P "__dict__" 727 (r 370),en P "__weakref__" 729 (r 371),en P "__doc__" 730 .none] 4
noncomputable def o369(P:R):Obj:=⟨.type "type",none,.cls { name:=(S "Store"),bases:=[.type "object"],mro:=[r 369,.type "object"],ns:=368,qualname:=(S "Store"),hasDict:=true,slotNames:=[],subclasses:=[],abstract:=false,collection:=none,hasDel:=false },#[none,none,some (s "Store" 666),some (s "Store" 674),some (.builtin "object.__new__"),some (.bool true)]⟩
noncomputable def o370(P:R):Obj:=fl (.type "getset_descriptor") [s "__dict__" 726,r 369,.builtin "function.__dict__",.builtin "function.__dict__#set"]
noncomputable def o371(P:R):Obj:=fl (.type "getset_descriptor") [s "__weakref__" 728,r 369,.builtin "ExceptionGroup.__weakref__",.none]
noncomputable def o372(P:R):Obj:=fl (.type "super") [r 369,r 369,r 369]
noncomputable def o373(P:R):Obj:=fl (.type "builtin_function_or_method") [.builtin "object.__init_subclass__",r 369]
noncomputable def T4:Tt:=(k boot_o_0 (k boot_o_1 (k o3v4 (k boot_o_7 (k o11 (k o31 (k o63 (m o127 (l o11)) (m o191v3 (l o16))) (k o11 (m o159 (l o287)) (m o223 (l o351)))) (k o47 (k o79 (m o143 (l o271)) (m o195 (l o11))) (k o11 (m o30 (l o303)) (m o239 (l o367))))) (k o16 (k o11 (k o11 (m o11 (l o16)) (m o16 (l o327))) (k o103 (m o167 (l o295)) (m o231 (l o359)))) (k o55 (k o87 (m o151 (l o11)) (m o215 (l o343))) (k o16 (m o16 (l o11)) (l o247))))) (k o11 (k o19 (k o35 (k o11 (m o131 (l o259)) (m o195 (l o323))) (k o11 (m o11 (l o16)) (m o11 (l o355)))) (k o16 (k o83 (m o16 (l o275)) (m o16 (l o11))) (k o115 (m o179 (l o11)) (m o243 (l o371))))) (k o27 (k o11 (k o75 (m o11 (l o267)) (m o203 (l o331))) (k o107 (m o171 (l o299)) (m o16 (l o11)))) (k o59 (k o91 (m o155 (l o11)) (m o11 (l o16))) (k o123 (m o187 (l o315)) (l o11)))))) (k boot_o_5 (k boot_o_9 (k o17 (k o33 (k o16 (m o129 (l o257)) (m o193 (l o11))) (k o97 (m o16 (l o289)) (m o225 (l o11)))) (k o49 (k o81 (m o145 (l o273)) (m o209 (l o337))) (k o113 (m o11 (l o16)) (m o11 (l o369))))) (k o11 (k o41 (k o73 (m o137 (l o11)) (m o201 (l o329))) (k o105 (m o169 (l o11)) (m o233 (l o16)))) (k o11 (k o89 (m o11 (l o281)) (m o217 (l o345))) (k o11 (m o11 (l o313)) (l o16))))) (k o13 (k o21 (k o16 (k o69 (m o16 (l o261)) (m o197 (l o11))) (k o101 (m o165 (l o11)) (m o229 (l o357)))) (k o11 (k o11 (m o11 (l o16)) (m o213 (l o341))) (k o117 (m o181 (l o309)) (m o245 (l o373))))) (k o11 (k o45 (k o77 (m o141 (l o11)) (m o205 (l o30))) (k o109 (m o173 (l o301)) (m o11 (l o365)))) (k o61 (k o16 (m o157 (l o285)) (m o221 (l o11))) (k o11 (m o189 (l o317)) (l o253))))))) (k o2v2 (k boot_o_4 (k boot_o_8 (k o16 (k o11 (k o11 (m o11 (l o16)) (m o192 (l o320))) (k o96 (m o11 (l o288)) (m o224 (l o352)))) (k o48 (k o80 (m o144 (l o11)) (m o30 (l o336))) (k o30 (m o176 (l o11)) (m o240 (l o368))))) (k o11 (k o40 (k o16 (m o136 (l o264)) (m o200 (l o11))) (k o104 (m o168 (l o296)) (m o232 (l o11)))) (k o56 (k o11 (m o152 (l o280)) (m o216 (l o344))) (k o120 (m o184 (l o16)) (l o11))))) (k o12v4 (k o20 (k o11 (k o68 (m o11 (l o260)) (m o30 (l o324))) (k o16 (m o164 (l o292)) (m o16 (l o11)))) (k o52 (k o84 (m o148 (l o11)) (m o212 (l o16))) (k o116 (m o180 (l o308)) (m o11 (l o372))))) (k o28 (k o16 (k o76 (m o16 (l o268)) (m o204 (l o11))) (k o108 (m o172 (l o11)) (m o236 (l o364)))) (k o11 (k o11 (m o11 (l o16)) (m o16 (l o348))) (k o124 (m o188 (l o316)) (l o252)))))) (k boot_o_6 (k boot_o_10 (k o11 (k o34 (k o66 (m o130 (l o11)) (m o194 (l o322))) (k o98 (m o162 (l o11)) (m o226 (l o16)))) (k o11 (k o82 (m o11 (l o274)) (m o11 (l o338))) (k o11 (m o178 (l o306)) (m o16 (l o370))))) (k o26 (k o42 (k o11 (m o138 (l o266)) (m o11 (l o330))) (k o106 (m o170 (l o16)) (m o11 (l o362)))) (k o16 (k o90 (m o16 (l o282)) (m o218 (l o11))) (k o122 (m o186 (l o11)) (l o250))))) (k o14 (k o11 (k o38 (k o70 (m o134 (l o11)) (m o11 (l o16))) (k o102 (m o166 (l o294)) (m o11 (l o358)))) (k o54 (k o30 (m o150 (l o278)) (m o11 (l o11))) (k o11 (m o11 (l o310)) (l o246)))) (k o30 (k o11 (k o78 (m o11 (l o16)) (m o206 (l o334))) (k o110 (m o174 (l o302)) (m o238 (l o366)))) (k o62 (k o94 (m o158 (l o11)) (m o11 (l o350))) (k o16 (m o190 (l o11)) (l o254))))))))
noncomputable def o3v5(P:R):Obj:=dc (.type "dict") (en P "__name__" 165 (s "gateloom.vecarith" 792) :: (E3 P).tail.take 48) 49
noncomputable def o12v5(P:R):Obj:=fl .none (L12.take 120)
noncomputable def o376(P:R):Obj:=dc (.type "dict") [en P "__module__" 740 (s "gateloom.store" 664),en P "__qualname__" 742 (s "Context" 741),en P "__firstlineno__" 744 (.int 257 743),en P "__init__" 755 (r 388),en P "call" 764 (r 395),en P "next_random" 772 (r 402),en P "time_vec" 780 (r 409),en P "__static_attributes__" 784 (r 410)] 8
noncomputable def o378(P:R):Obj:=fl .none [i 259,i 4,r 387,i 264,i 4,r 394,i 267,i 4,r 401,i 274,i 4,r 408]
noncomputable def o379(P:R):Obj:=c [s "Context" 735,s "Context" 736,u 737,i 257,i 0,i 0,i 0,i 0,r 377,.bool false,i 181,r 378,.none,.none,.none,.none,i 738,i 257,u 739]
noncomputable def o380(P:R):Obj:=⟨.type "frame",none,.plain,#[some (r 379),some (r 3),some (r 376),none,some (s "gateloom.store" 664),none,some (r 0)]⟩
noncomputable def o381(P:R):Obj:=tp [.int 0 745]
noncomputable def o384(P:R):Obj:=tp [s "self" 749,s "store" 750,s "frame" 751,s "now" 752]
noncomputable def o386(P:R):Obj:=fn .none (inC (stAt 29) 0) (S "Context.__init__") 0 .none .none .none .none .none .none 0
noncomputable def o387(P:R):Obj:=c [s "__init__" 746,s "Context.__init__" 747,u 748,i 259,i 4,i 0,i 0,i 3,r 382,.bool true,i 181,r 383,.none,r 384,r 385,r 386,i 753,i 259,u 754]
noncomputable def o388(P:R):Obj:=fn (.type "function") (inC (stAt 29) 0) (S "Context.__init__") 3 (r 381) .none .none (s "gateloom.store" 664) (r 387) .none 0
noncomputable def o391(P:R):Obj:=tp [s "self" 759,s "number" 760,s "args" 761]
noncomputable def o393(P:R):Obj:=fn .none (inC (stAt 29) 1) (S "Context.call") 0 .none .none .none .none .none .none 0
noncomputable def o394(P:R):Obj:=c [s "call" 756,s "Context.call" 757,u 758,i 264,i 3,i 0,i 0,i 3,r 389,.bool true,i 181,r 390,.none,r 391,r 392,r 393,i 762,i 264,u 763]
noncomputable def o395(P:R):Obj:=fn (.type "function") (inC (stAt 29) 1) (S "Context.call") 3 .none .none .none (s "gateloom.store" 664) (r 394) .none 0
noncomputable def o398(P:R):Obj:=tp [s "self" 768,s "seed" 769]
noncomputable def o400(P:R):Obj:=fn .none (inC (stAt 29) 2) (S "Context.next_random") 0 .none .none .none .none .none .none 0
noncomputable def o401(P:R):Obj:=c [s "next_random" 765,s "Context.next_random" 766,u 767,i 267,i 1,i 0,i 0,i 3,r 396,.bool true,i 181,r 397,.none,r 398,r 399,r 400,i 770,i 267,u 771]
noncomputable def o402(P:R):Obj:=fn (.type "function") (inC (stAt 29) 2) (S "Context.next_random") 3 .none .none .none (s "gateloom.store" 664) (r 401) .none 0
noncomputable def o405(P:R):Obj:=tp [s "self" 776,s "width" 777]
noncomputable def o407(P:R):Obj:=fn .none (inC (stAt 29) 3) (S "Context.time_vec") 0 .none .none .none .none .none .none 0
noncomputable def o408(P:R):Obj:=c [s "time_vec" 773,s "Context.time_vec" 774,u 775,i 274,i 2,i 0,i 0,i 3,r 403,.bool true,i 181,r 404,.none,r 405,r 406,r 407,i 778,i 274,u 779]
noncomputable def o409(P:R):Obj:=fn (.type "function") (inC (stAt 29) 3) (S "Context.time_vec") 3 .none .none .none (s "gateloom.store" 664) (r 408) .none 0
noncomputable def o410(P:R):Obj:=tp [s "frame" 781,s "now" 782,s "store" 783]
noncomputable def o411(P:R):Obj:=dc (.type "dict") [en P "__module__" 740 (s "gateloom.store" 664),en P "__firstlineno__" 744 (.int 257 743),en P "__init__" 755 (r 388),en P "call" 764 (r 395),en P "next_random" 772 (r 402),en P "time_vec" 780 (r 409),en P "__static_attributes__" 784 (r 410),en P "__dict__" 786 (r 413),en P "__weakref__" 788 (r 414),en P "__doc__" 789 .none] 4
noncomputable def o412(P:R):Obj:=⟨.type "type",none,.cls { name:=(S "Context"),bases:=[.type "object"],mro:=[r 412,.type "object"],ns:=411,qualname:=(S "Context"),hasDict:=true,slotNames:=[],subclasses:=[],abstract:=false,collection:=none,hasDel:=false },#[none,none,some (s "Context" 733),some (s "Context" 741),some (.builtin "object.__new__"),some (.bool true)]⟩
noncomputable def o413(P:R):Obj:=fl (.type "getset_descriptor") [s "__dict__" 785,r 412,.builtin "function.__dict__",.builtin "function.__dict__#set"]
noncomputable def o414(P:R):Obj:=fl (.type "getset_descriptor") [s "__weakref__" 787,r 412,.builtin "ExceptionGroup.__weakref__",.none]
noncomputable def o415(P:R):Obj:=fl (.type "super") [r 412,r 412,r 412]
noncomputable def o416(P:R):Obj:=fl (.type "builtin_function_or_method") [.builtin "object.__init_subclass__",r 412]
noncomputable def o419(P:R):Obj:=tp [s "u" 797,s "v" 798]
noncomputable def o421(P:R):Obj:=fn .none (stAt 31) (S "add") 0 .none .none .none .none .none .none 0
noncomputable def o422(P:R):Obj:=c [s "add" 794,s "add" 795,u 796,i 277,i 2,i 0,i 0,i 3,r 417,.bool true,i 181,r 418,.none,r 419,r 420,r 421,i 799,i 277,u 800]
noncomputable def o423(P:R):Obj:=fn (.type "function") (stAt 31) (S "add") 3 .none .none .none (s "gateloom.vecarith" 792) (r 422) .none 0
noncomputable def o426(P:R):Obj:=tp [s "u" 805,s "v" 806]
noncomputable def o428(P:R):Obj:=fn .none (stAt 32) (S "sub") 0 .none .none .none .none .none .none 0
noncomputable def o429(P:R):Obj:=c [s "sub" 802,s "sub" 803,u 804,i 281,i 2,i 0,i 0,i 3,r 424,.bool true,i 181,r 425,.none,r 426,r 427,r 428,i 807,i 281,u 808]
noncomputable def o430(P:R):Obj:=fn (.type "function") (stAt 32) (S "sub") 3 .none .none .none (s "gateloom.vecarith" 792) (r 429) .none 0
noncomputable def o433(P:R):Obj:=tp [s "u" 813,s "v" 814]
noncomputable def o435(P:R):Obj:=fn .none (stAt 33) (S "mul") 0 .none .none .none .none .none .none 0
noncomputable def o436(P:R):Obj:=c [s "mul" 810,s "mul" 811,u 812,i 285,i 2,i 0,i 0,i 3,r 431,.bool true,i 181,r 432,.none,r 433,r 434,r 435,i 815,i 285,u 816]
noncomputable def o437(P:R):Obj:=fn (.type "function") (stAt 33) (S "mul") 3 .none .none .none (s "gateloom.vecarith" 792) (r 436) .none 0
noncomputable def o440(P:R):Obj:=tp [s "v" 821]
noncomputable def o442(P:R):Obj:=fn .none (stAt 34) (S "neg") 0 .none .none .none .none .none .none 0
noncomputable def o443(P:R):Obj:=c [s "neg" 818,s "neg" 819,u 820,i 289,i 1,i 0,i 0,i 3,r 438,.bool true,i 181,r 439,.none,r 440,r 441,r 442,i 822,i 289,u 823]
noncomputable def o444(P:R):Obj:=fn (.type "function") (stAt 34) (S "neg") 3 .none .none .none (s "gateloom.vecarith" 792) (r 443) .none 0
noncomputable def o447(P:R):Obj:=tp [s "m" 828,s "n" 829,s "found" 830]
noncomputable def o449(P:R):Obj:=fn .none (stAt 35) (S "quotient") 0 .none .none .none .none .none .none 0
noncomputable def o450(P:R):Obj:=c [s "quotient" 825,s "quotient" 826,u 827,i 293,i 2,i 0,i 0,i 3,r 445,.bool true,i 181,r 446,.none,r 447,r 448,r 449,i 831,i 293,u 832]
noncomputable def o451(P:R):Obj:=fn (.type "function") (stAt 35) (S "quotient") 3 .none .none .none (s "gateloom.vecarith" 792) (r 450) .none 0
noncomputable def o454(P:R):Obj:=tp [s "u" 837,s "v" 838,s "signed" 839,s "m" 840,s "n" 841]
noncomputable def o456(P:R):Obj:=fn .none (stAt 36) (S "div") 0 .none .none .none .none .none .none 0
noncomputable def o457(P:R):Obj:=c [s "div" 834,s "div" 835,u 836,i 298,i 3,i 0,i 0,i 3,r 452,.bool true,i 181,r 453,.none,r 454,r 455,r 456,i 842,i 298,u 843]
noncomputable def o458(P:R):Obj:=fn (.type "function") (stAt 36) (S "div") 3 .none .none .none (s "gateloom.vecarith" 792) (r 457) .none 0
noncomputable def o461(P:R):Obj:=tp [s "u" 848,s "v" 849,s "signed" 850,s "m" 851,s "n" 852]
noncomputable def o463(P:R):Obj:=fn .none (stAt 37) (S "mod") 0 .none .none .none .none .none .none 0
noncomputable def o464(P:R):Obj:=c [s "mod" 845,s "mod" 846,u 847,i 304,i 3,i 0,i 0,i 3,r 459,.bool true,i 181,r 460,.none,r 461,r 462,r 463,i 853,i 304,u 854]
noncomputable def o465(P:R):Obj:=fn (.type "function") (stAt 37) (S "mod") 3 .none .none .none (s "gateloom.vecarith" 792) (r 464) .none 0
noncomputable def o468(P:R):Obj:=tp [s "base" 859,s "exponent" 860,s "w" 861,s "full" 862,s "result" 863,s "square" 864,s "rest" 865]
noncomputable def o470(P:R):Obj:=fn .none (stAt 38) (S "raise_whole") 0 .none .none .none .none .none .none 0
noncomputable def o471(P:R):Obj:=c [s "raise_whole" 856,s "raise_whole" 857,u 858,i 310,i 3,i 0,i 0,i 3,r 466,.bool true,i 181,r 467,.none,r 468,r 469,r 470,i 866,i 310,u 867]
noncomputable def o472(P:R):Obj:=fn (.type "function") (stAt 38) (S "raise_whole") 3 .none .none .none (s "gateloom.vecarith" 792) (r 471) .none 0
noncomputable def o475(P:R):Obj:=tp [s "u" 872,s "v" 873,s "usigned" 874,s "vsigned" 875,s "w" 876,s "base" 877,s "exponent" 878]
noncomputable def o477(P:R):Obj:=fn .none (stAt 39) (S "power") 0 .none .none .none .none .none .none 0
noncomputable def o478(P:R):Obj:=c [s "power" 869,s "power" 870,u 871,i 321,i 4,i 0,i 0,i 3,r 473,.bool true,i 181,r 474,.none,r 475,r 476,r 477,i 879,i 321,u 880]
noncomputable def o479(P:R):Obj:=fn (.type "function") (stAt 39) (S "power") 3 .none .none .none (s "gateloom.vecarith" 792) (r 478) .none 0
noncomputable def o482(P:R):Obj:=tp [s "u" 885,s "n" 886,s "w" 887,s "full" 888]
noncomputable def o484(P:R):Obj:=fn .none (stAt 40) (S "shift_left") 0 .none .none .none .none .none .none 0
noncomputable def o485(P:R):Obj:=c [s "shift_left" 882,s "shift_left" 883,u 884,i 336,i 2,i 0,i 0,i 3,r 480,.bool true,i 181,r 481,.none,r 482,r 483,r 484,i 889,i 336,u 890]
noncomputable def o486(P:R):Obj:=fn (.type "function") (stAt 40) (S "shift_left") 3 .none .none .none (s "gateloom.vecarith" 792) (r 485) .none 0
noncomputable def o489(P:R):Obj:=tp [s "u" 895,s "n" 896,s "w" 897]
noncomputable def o491(P:R):Obj:=fn .none (stAt 41) (S "shift_right") 0 .none .none .none .none .none .none 0
noncomputable def o492(P:R):Obj:=c [s "shift_right" 892,s "shift_right" 893,u 894,i 344,i 2,i 0,i 0,i 3,r 487,.bool true,i 181,r 488,.none,r 489,r 490,r 491,i 898,i 344,u 899]
noncomputable def o493(P:R):Obj:=fn (.type "function") (stAt 41) (S "shift_right") 3 .none .none .none (s "gateloom.vecarith" 792) (r 492) .none 0
noncomputable def o496(P:R):Obj:=tp [s "u" 904,s "n" 905,s "signed" 906,s "w" 907,s "count" 908,s "fill" 909,s "top" 910,s "a" 911,s "b" 912]
noncomputable def o498(P:R):Obj:=fn .none (stAt 42) (S "shift_arith") 0 .none .none .none .none .none .none 0
noncomputable def o499(P:R):Obj:=c [s "shift_arith" 901,s "shift_arith" 902,u 903,i 351,i 3,i 0,i 0,i 3,r 494,.bool true,i 181,r 495,.none,r 496,r 497,r 498,i 913,i 351,u 914]
noncomputable def o500(P:R):Obj:=fn (.type "function") (stAt 42) (S "shift_arith") 3 .none .none .none (s "gateloom.vecarith" 792) (r 499) .none 0
noncomputable def o503(P:R):Obj:=tp [s "u" 919,s "v" 920,s "signed" 921,s "m" 922,s "n" 923]
noncomputable def o505(P:R):Obj:=fn .none (stAt 43) (S "ordered") 0 .none .none .none .none .none .none 0
noncomputable def o506(P:R):Obj:=c [s "ordered" 916,s "ordered" 917,u 918,i 361,i 3,i 0,i 0,i 3,r 501,.bool true,i 181,r 502,.none,r 503,r 504,r 505,i 924,i 361,u 925]
noncomputable def o507(P:R):Obj:=fn (.type "function") (stAt 43) (S "ordered") 3 .none .none .none (s "gateloom.vecarith" 792) (r 506) .none 0
noncomputable def o510(P:R):Obj:=tp [s "u" 930,s "v" 931,s "signed" 932,s "sign" 933]
noncomputable def o512(P:R):Obj:=fn .none (stAt 44) (S "less") 0 .none .none .none .none .none .none 0
noncomputable def o513(P:R):Obj:=c [s "less" 927,s "less" 928,u 929,i 369,i 3,i 0,i 0,i 3,r 508,.bool true,i 181,r 509,.none,r 510,r 511,r 512,i 934,i 369,u 935]
noncomputable def o514(P:R):Obj:=fn (.type "function") (stAt 44) (S "less") 3 .none .none .none (s "gateloom.vecarith" 792) (r 513) .none 0
noncomputable def T5:Tt:=(k boot_o_0 (k boot_o_1 (k o3v5 (k boot_o_7 (k o11 (k o31 (k o63 (k o127 (m o11 (l o11)) (l o16)) (k o191v3 (l o16) (l o447))) (k o11 (k o159 (l o287) (l o415)) (k o223 (l o351) (l o479)))) (k o47 (k o79 (k o143 (l o271) (l o11)) (k o195 (l o11) (l o463))) (k o11 (k o30 (l o303) (l o11)) (k o239 (l o367) (l o16))))) (k o16 (k o11 (k o11 (k o11 (l o16) (l o391)) (k o16 (l o327) (l o11))) (k o103 (k o167 (l o295) (l o423)) (k o231 (l o359) (l o11)))) (k o55 (k o87 (k o151 (l o11) (l o407)) (k o215 (l o343) (l o471))) (k o16 (k o16 (l o11) (l o16)) (k o247 (l o30) (l o503)))))) (k o11 (k o19 (k o35 (k o11 (k o131 (l o259) (l o387)) (k o195 (l o323) (l o451))) (k o11 (k o11 (l o16) (l o419)) (k o11 (l o355) (l o11)))) (k o16 (k o83 (k o16 (l o275) (l o11)) (k o16 (l o11) (l o16))) (k o115 (k o179 (l o11) (l o435)) (k o243 (l o371) (l o499))))) (k o27 (k o11 (k o75 (k o11 (l o267) (l o395)) (k o203 (l o331) (l o11))) (k o107 (k o171 (l o299) (l o11)) (k o16 (l o11) (l o491)))) (k o59 (k o91 (k o155 (l o11) (l o411)) (k o11 (l o16) (l o475))) (k o123 (k o187 (l o315) (l o443)) (k o11 (l o379) (l o507))))))) (k boot_o_5 (k boot_o_9 (k o17 (k o33 (k o16 (k o129 (m o257 (l o513)) (l o11)) (k o193 (l o11) (l o449))) (k o97 (k o16 (l o289) (l o11)) (k o225 (l o11) (l o16)))) (k o49 (k o81 (k o145 (l o273) (l o401)) (k o209 (l o337) (l o465))) (k o113 (k o11 (l o16) (l o433)) (k o11 (l o369) (l o11))))) (k o11 (k o41 (k o73 (k o137 (l o11) (l o393)) (k o201 (l o329) (l o457))) (k o105 (k o169 (l o11) (l o16)) (k o233 (l o16) (l o489)))) (k o11 (k o89 (k o11 (l o281) (l o409)) (k o217 (l o345) (l o11))) (k o11 (k o11 (l o313) (l o11)) (k o16 (l o11) (l o505)))))) (k o13 (k o21 (k o16 (k o69 (k o16 (l o261) (l o11)) (k o197 (l o11) (l o16))) (k o101 (k o165 (l o11) (l o421)) (k o229 (l o357) (l o485)))) (k o11 (k o11 (k o11 (l o16) (l o405)) (k o213 (l o341) (l o11))) (k o117 (k o181 (l o309) (l o437)) (k o245 (l o373) (l o11))))) (k o11 (k o45 (k o77 (k o141 (l o11) (l o16)) (k o205 (l o30) (l o461))) (k o109 (k o173 (l o301) (l o429)) (k o11 (l o365) (l o493)))) (k o61 (k o16 (k o157 (l o285) (l o413)) (k o221 (l o11) (l o477))) (k o11 (k o189 (l o317) (l o11)) (k o253 (l o381) (l o16)))))))) (k o2v2 (k boot_o_4 (k boot_o_8 (k o16 (k o11 (k o11 (k o11 (m o16 (l o512)) (l o384)) (k o192 (l o320) (l o11))) (k o96 (k o11 (l o288) (l o416)) (k o224 (l o352) (l o11)))) (k o48 (k o80 (k o144 (l o11) (l o400)) (k o30 (l o336) (l o464))) (k o30 (k o176 (l o11) (l o16)) (k o240 (l o368) (l o496))))) (k o11 (k o40 (k o16 (k o136 (l o264) (l o11)) (k o200 (l o11) (l o456))) (k o104 (k o168 (l o296) (l o11)) (k o232 (l o11) (l o16)))) (k o56 (k o11 (k o152 (l o280) (l o408)) (k o216 (l o344) (l o472))) (k o120 (k o184 (l o16) (l o440)) (k o11 (l o376) (l o11)))))) (k o12v5 (k o20 (k o11 (k o68 (k o11 (l o260) (l o388)) (k o30 (l o324) (l o11))) (k o16 (k o164 (l o292) (l o11)) (k o16 (l o11) (l o484)))) (k o52 (k o84 (k o148 (l o11) (l o16)) (k o212 (l o16) (l o468))) (k o116 (k o180 (l o308) (l o436)) (k o11 (l o372) (l o500))))) (k o28 (k o16 (k o76 (k o16 (l o268) (l o11)) (k o204 (l o11) (l o16))) (k o108 (k o172 (l o11) (l o428)) (k o236 (l o364) (l o492)))) (k o11 (k o11 (k o11 (l o16) (l o412)) (k o16 (l o348) (l o11))) (k o124 (k o188 (l o316) (l o444)) (k o252 (l o380) (l o11))))))) (k boot_o_6 (k boot_o_10 (k o11 (k o34 (k o66 (k o130 (m o11 (l o514)) (l o386)) (k o194 (l o322) (l o450))) (k o98 (k o162 (l o11) (l o16)) (k o226 (l o16) (l o482)))) (k o11 (k o82 (k o11 (l o274) (l o402)) (k o11 (l o338) (l o11))) (k o11 (k o178 (l o306) (l o11)) (k o16 (l o370) (l o498))))) (k o26 (k o42 (k o11 (k o138 (l o266) (l o394)) (k o11 (l o330) (l o458))) (k o106 (k o170 (l o16) (l o426)) (k o11 (l o362) (l o11)))) (k o16 (k o90 (k o16 (l o282) (l o410)) (k o218 (l o11) (l o16))) (k o122 (k o186 (l o11) (l o442)) (k o250 (l o378) (l o506)))))) (k o14 (k o11 (k o38 (k o70 (k o134 (l o11) (l o16)) (k o11 (l o16) (l o454))) (k o102 (k o166 (l o294) (l o422)) (k o11 (l o358) (l o486)))) (k o54 (k o30 (k o150 (l o278) (l o11)) (k o11 (l o11) (l o470))) (k o11 (k o11 (l o310) (l o11)) (k o246 (l o11) (l o16))))) (k o30 (k o11 (k o78 (k o11 (l o16) (l o398)) (k o206 (l o334) (l o11))) (k o110 (k o174 (l o302) (l o430)) (k o238 (l o366) (l o11)))) (k o62 (k o94 (k o158 (l o11) (l o414)) (k o11 (l o350) (l o478))) (k o16 (k o190 (l o11) (l o16)) (k o254 (l o11) (l o510)))))))))
noncomputable def o3v6(P:R):Obj:=dc (.type "dict") (en P "__name__" 165 (s "gateloom.evaluate" 1157) :: (E3 P).tail.take 73) 74
noncomputable def o12v6(P:R):Obj:=fl .none (L12.take 195)
noncomputable def o517(P:R):Obj:=tp [s "u" 940,s "v" 941,s "signed" 942,s "sign" 943]
noncomputable def o519(P:R):Obj:=fn .none (stAt 45) (S "less_equal") 0 .none .none .none .none .none .none 0
noncomputable def o520(P:R):Obj:=c [s "less_equal" 937,s "less_equal" 938,u 939,i 374,i 3,i 0,i 0,i 3,r 515,.bool true,i 181,r 516,.none,r 517,r 518,r 519,i 944,i 374,u 945]
noncomputable def o521(P:R):Obj:=fn (.type "function") (stAt 45) (S "less_equal") 3 .none .none .none (s "gateloom.vecarith" 792) (r 520) .none 0
noncomputable def o524(P:R):Obj:=tp [s "u" 950,s "v" 951,s "signed" 952]
noncomputable def o526(P:R):Obj:=fn .none (stAt 46) (S "greater") 0 .none .none .none .none .none .none 0
noncomputable def o527(P:R):Obj:=c [s "greater" 947,s "greater" 948,u 949,i 379,i 3,i 0,i 0,i 3,r 522,.bool true,i 181,r 523,.none,r 524,r 525,r 526,i 953,i 379,u 954]
noncomputable def o528(P:R):Obj:=fn (.type "function") (stAt 46) (S "greater") 3 .none .none .none (s "gateloom.vecarith" 792) (r 527) .none 0
noncomputable def o531(P:R):Obj:=tp [s "u" 959,s "v" 960,s "signed" 961]
noncomputable def o533(P:R):Obj:=fn .none (stAt 47) (S "greater_equal") 0 .none .none .none .none .none .none 0
noncomputable def o534(P:R):Obj:=c [s "greater_equal" 956,s "greater_equal" 957,u 958,i 381,i 3,i 0,i 0,i 3,r 529,.bool true,i 181,r 530,.none,r 531,r 532,r 533,i 962,i 381,u 963]
noncomputable def o535(P:R):Obj:=fn (.type "function") (stAt 47) (S "greater_equal") 3 .none .none .none (s "gateloom.vecarith" 792) (r 534) .none 0
noncomputable def o538(P:R):Obj:=tp [s "c" 970]
noncomputable def o540(P:R):Obj:=fn .none (stAt 49) (S "one_bit") 0 .none .none .none .none .none .none 0
noncomputable def o541(P:R):Obj:=c [s "one_bit" 967,s "one_bit" 968,u 969,i 384,i 1,i 0,i 0,i 3,r 536,.bool true,i 181,r 537,.none,r 538,r 539,r 540,i 971,i 384,u 972]
noncomputable def o542(P:R):Obj:=fn (.type "function") (stAt 49) (S "one_bit") 3 .none .none .none (s "gateloom.vecops" 965) (r 541) .none 0
noncomputable def o545(P:R):Obj:=tp [s "v" 977,s "w" 978,s "a" 979,s "b" 980]
noncomputable def o547(P:R):Obj:=fn .none (stAt 50) (S "bit_not") 0 .none .none .none .none .none .none 0
noncomputable def o548(P:R):Obj:=c [s "bit_not" 974,s "bit_not" 975,u 976,i 386,i 1,i 0,i 0,i 3,r 543,.bool true,i 181,r 544,.none,r 545,r 546,r 547,i 981,i 386,u 982]
noncomputable def o549(P:R):Obj:=fn (.type "function") (stAt 50) (S "bit_not") 3 .none .none .none (s "gateloom.vecops" 965) (r 548) .none 0
noncomputable def o552(P:R):Obj:=tp [s "u" 987,s "v" 988,s "w" 989,s "a" 990,s "b" 991,s "c" 992,s "d" 993,s "both" 994]
noncomputable def o554(P:R):Obj:=fn .none (stAt 51) (S "bit_and") 0 .none .none .none .none .none .none 0
noncomputable def o555(P:R):Obj:=c [s "bit_and" 984,s "bit_and" 985,u 986,i 389,i 2,i 0,i 0,i 3,r 550,.bool true,i 181,r 551,.none,r 552,r 553,r 554,i 995,i 389,u 996]
noncomputable def o556(P:R):Obj:=fn (.type "function") (stAt 51) (S "bit_and") 3 .none .none .none (s "gateloom.vecops" 965) (r 555) .none 0
noncomputable def o559(P:R):Obj:=tp [s "u" 1001,s "v" 1002,s "w" 1003,s "a" 1004,s "b" 1005,s "c" 1006,s "d" 1007,s "either" 1008,s "sure" 1009]
noncomputable def o561(P:R):Obj:=fn .none (stAt 52) (S "bit_or") 0 .none .none .none .none .none .none 0
noncomputable def o562(P:R):Obj:=c [s "bit_or" 998,s "bit_or" 999,u 1000,i 394,i 2,i 0,i 0,i 3,r 557,.bool true,i 181,r 558,.none,r 559,r 560,r 561,i 1010,i 394,u 1011]
noncomputable def o563(P:R):Obj:=fn (.type "function") (stAt 52) (S "bit_or") 3 .none .none .none (s "gateloom.vecops" 965) (r 562) .none 0
noncomputable def o566(P:R):Obj:=tp [s "u" 1016,s "v" 1017,s "b" 1018]
noncomputable def o568(P:R):Obj:=fn .none (stAt 53) (S "bit_xor") 0 .none .none .none .none .none .none 0
noncomputable def o569(P:R):Obj:=c [s "bit_xor" 1013,s "bit_xor" 1014,u 1015,i 400,i 2,i 0,i 0,i 3,r 564,.bool true,i 181,r 565,.none,r 566,r 567,r 568,i 1019,i 400,u 1020]
noncomputable def o570(P:R):Obj:=fn (.type "function") (stAt 53) (S "bit_xor") 3 .none .none .none (s "gateloom.vecops" 965) (r 569) .none 0
noncomputable def o573(P:R):Obj:=tp [s "u" 1025,s "v" 1026]
noncomputable def o575(P:R):Obj:=fn .none (stAt 54) (S "bit_xnor") 0 .none .none .none .none .none .none 0
noncomputable def o576(P:R):Obj:=c [s "bit_xnor" 1022,s "bit_xnor" 1023,u 1024,i 403,i 2,i 0,i 0,i 3,r 571,.bool true,i 181,r 572,.none,r 573,r 574,r 575,i 1027,i 403,u 1028]
noncomputable def o577(P:R):Obj:=fn (.type "function") (stAt 54) (S "bit_xnor") 3 .none .none .none (s "gateloom.vecops" 965) (r 576) .none 0
noncomputable def o580(P:R):Obj:=tp [s "v" 1033,s "w" 1034,s "a" 1035,s "b" 1036]
noncomputable def o582(P:R):Obj:=fn .none (stAt 55) (S "reduce_and") 0 .none .none .none .none .none .none 0
noncomputable def o583(P:R):Obj:=c [s "reduce_and" 1030,s "reduce_and" 1031,u 1032,i 405,i 1,i 0,i 0,i 3,r 578,.bool true,i 181,r 579,.none,r 580,r 581,r 582,i 1037,i 405,u 1038]
noncomputable def o584(P:R):Obj:=fn (.type "function") (stAt 55) (S "reduce_and") 3 .none .none .none (s "gateloom.vecops" 965) (r 583) .none 0
noncomputable def o587(P:R):Obj:=tp [s "v" 1043]
noncomputable def o589(P:R):Obj:=fn .none (stAt 56) (S "reduce_nand") 0 .none .none .none .none .none .none 0
noncomputable def o590(P:R):Obj:=c [s "reduce_nand" 1040,s "reduce_nand" 1041,u 1042,i 410,i 1,i 0,i 0,i 3,r 585,.bool true,i 181,r 586,.none,r 587,r 588,r 589,i 1044,i 410,u 1045]
noncomputable def o591(P:R):Obj:=fn (.type "function") (stAt 56) (S "reduce_nand") 3 .none .none .none (s "gateloom.vecops" 965) (r 590) .none 0
noncomputable def o594(P:R):Obj:=tp [s "v" 1050]
noncomputable def o596(P:R):Obj:=fn .none (stAt 57) (S "reduce_or") 0 .none .none .none .none .none .none 0
noncomputable def o597(P:R):Obj:=c [s "reduce_or" 1047,s "reduce_or" 1048,u 1049,i 412,i 1,i 0,i 0,i 3,r 592,.bool true,i 181,r 593,.none,r 594,r 595,r 596,i 1051,i 412,u 1052]
noncomputable def o598(P:R):Obj:=fn (.type "function") (stAt 57) (S "reduce_or") 3 .none .none .none (s "gateloom.vecops" 965) (r 597) .none 0
noncomputable def o601(P:R):Obj:=tp [s "v" 1057]
noncomputable def o603(P:R):Obj:=fn .none (stAt 58) (S "reduce_nor") 0 .none .none .none .none .none .none 0
noncomputable def o604(P:R):Obj:=c [s "reduce_nor" 1054,s "reduce_nor" 1055,u 1056,i 414,i 1,i 0,i 0,i 3,r 599,.bool true,i 181,r 600,.none,r 601,r 602,r 603,i 1058,i 414,u 1059]
noncomputable def o605(P:R):Obj:=fn (.type "function") (stAt 58) (S "reduce_nor") 3 .none .none .none (s "gateloom.vecops" 965) (r 604) .none 0
noncomputable def o608(P:R):Obj:=tp [s "v" 1064,s "parity" 1065,s "rest" 1066]
noncomputable def o610(P:R):Obj:=fn .none (stAt 59) (S "reduce_xor") 0 .none .none .none .none .none .none 0
noncomputable def o611(P:R):Obj:=c [s "reduce_xor" 1061,s "reduce_xor" 1062,u 1063,i 416,i 1,i 0,i 0,i 3,r 606,.bool true,i 181,r 607,.none,r 608,r 609,r 610,i 1067,i 416,u 1068]
noncomputable def o612(P:R):Obj:=fn (.type "function") (stAt 59) (S "reduce_xor") 3 .none .none .none (s "gateloom.vecops" 965) (r 611) .none 0
noncomputable def o615(P:R):Obj:=tp [s "v" 1073]
noncomputable def o617(P:R):Obj:=fn .none (stAt 60) (S "reduce_xnor") 0 .none .none .none .none .none .none 0
noncomputable def o618(P:R):Obj:=c [s "reduce_xnor" 1070,s "reduce_xnor" 1071,u 1072,i 425,i 1,i 0,i 0,i 3,r 613,.bool true,i 181,r 614,.none,r 615,r 616,r 617,i 1074,i 425,u 1075]
noncomputable def o619(P:R):Obj:=fn (.type "function") (stAt 60) (S "reduce_xnor") 3 .none .none .none (s "gateloom.vecops" 965) (r 618) .none 0
noncomputable def o622(P:R):Obj:=tp [s "v" 1080]
noncomputable def o624(P:R):Obj:=fn .none (stAt 61) (S "logic_not") 0 .none .none .none .none .none .none 0
noncomputable def o625(P:R):Obj:=c [s "logic_not" 1077,s "logic_not" 1078,u 1079,i 427,i 1,i 0,i 0,i 3,r 620,.bool true,i 181,r 621,.none,r 622,r 623,r 624,i 1081,i 427,u 1082]
noncomputable def o626(P:R):Obj:=fn (.type "function") (stAt 61) (S "logic_not") 3 .none .none .none (s "gateloom.vecops" 965) (r 625) .none 0
noncomputable def o629(P:R):Obj:=tp [s "u" 1087,s "v" 1088]
noncomputable def o631(P:R):Obj:=fn .none (stAt 62) (S "logic_and") 0 .none .none .none .none .none .none 0
noncomputable def o632(P:R):Obj:=c [s "logic_and" 1084,s "logic_and" 1085,u 1086,i 429,i 2,i 0,i 0,i 3,r 627,.bool true,i 181,r 628,.none,r 629,r 630,r 631,i 1089,i 429,u 1090]
noncomputable def o633(P:R):Obj:=fn (.type "function") (stAt 62) (S "logic_and") 3 .none .none .none (s "gateloom.vecops" 965) (r 632) .none 0
noncomputable def o636(P:R):Obj:=tp [s "u" 1095,s "v" 1096]
noncomputable def o638(P:R):Obj:=fn .none (stAt 63) (S "logic_or") 0 .none .none .none .none .none .none 0
noncomputable def o639(P:R):Obj:=c [s "logic_or" 1092,s "logic_or" 1093,u 1094,i 431,i 2,i 0,i 0,i 3,r 634,.bool true,i 181,r 635,.none,r 636,r 637,r 638,i 1097,i 431,u 1098]
noncomputable def o640(P:R):Obj:=fn (.type "function") (stAt 63) (S "logic_or") 3 .none .none .none (s "gateloom.vecops" 965) (r 639) .none 0
noncomputable def o643(P:R):Obj:=tp [s "u" 1103,s "v" 1104,s "unknown" 1105]
noncomputable def o645(P:R):Obj:=fn .none (stAt 64) (S "equal") 0 .none .none .none .none .none .none 0
noncomputable def o646(P:R):Obj:=c [s "equal" 1100,s "equal" 1101,u 1102,i 433,i 2,i 0,i 0,i 3,r 641,.bool true,i 181,r 642,.none,r 643,r 644,r 645,i 1106,i 433,u 1107]
noncomputable def o647(P:R):Obj:=fn (.type "function") (stAt 64) (S "equal") 3 .none .none .none (s "gateloom.vecops" 965) (r 646) .none 0
noncomputable def o650(P:R):Obj:=tp [s "u" 1112,s "v" 1113]
noncomputable def o652(P:R):Obj:=fn .none (stAt 65) (S "not_equal") 0 .none .none .none .none .none .none 0
noncomputable def o653(P:R):Obj:=c [s "not_equal" 1109,s "not_equal" 1110,u 1111,i 438,i 2,i 0,i 0,i 3,r 648,.bool true,i 181,r 649,.none,r 650,r 651,r 652,i 1114,i 438,u 1115]
noncomputable def o654(P:R):Obj:=fn (.type "function") (stAt 65) (S "not_equal") 3 .none .none .none (s "gateloom.vecops" 965) (r 653) .none 0
noncomputable def o657(P:R):Obj:=tp [s "u" 1120,s "v" 1121]
noncomputable def o659(P:R):Obj:=fn .none (stAt 66) (S "case_equal") 0 .none .none .none .none .none .none 0
noncomputable def o660(P:R):Obj:=c [s "case_equal" 1117,s "case_equal" 1118,u 1119,i 440,i 2,i 0,i 0,i 3,r 655,.bool true,i 181,r 656,.none,r 657,r 658,r 659,i 1122,i 440,u 1123]
noncomputable def o661(P:R):Obj:=fn (.type "function") (stAt 66) (S "case_equal") 3 .none .none .none (s "gateloom.vecops" 965) (r 660) .none 0
noncomputable def o664(P:R):Obj:=tp [s "u" 1128,s "v" 1129]
noncomputable def o666(P:R):Obj:=fn .none (stAt 67) (S "case_not_equal") 0 .none .none .none .none .none .none 0
noncomputable def o667(P:R):Obj:=c [s "case_not_equal" 1125,s "case_not_equal" 1126,u 1127,i 442,i 2,i 0,i 0,i 3,r 662,.bool true,i 181,r 663,.none,r 664,r 665,r 666,i 1130,i 442,u 1131]
noncomputable def o668(P:R):Obj:=fn (.type "function") (stAt 67) (S "case_not_equal") 3 .none .none .none (s "gateloom.vecops" 965) (r 667) .none 0
noncomputable def o671(P:R):Obj:=tp [s "kind" 1136,s "u" 1137,s "v" 1138,s "free" 1139,s "care" 1140]
noncomputable def o673(P:R):Obj:=fn .none (stAt 68) (S "matches") 0 .none .none .none .none .none .none 0
noncomputable def o674(P:R):Obj:=c [s "matches" 1133,s "matches" 1134,u 1135,i 444,i 3,i 0,i 0,i 3,r 669,.bool true,i 181,r 670,.none,r 671,r 672,r 673,i 1141,i 444,u 1142]
noncomputable def o675(P:R):Obj:=fn (.type "function") (stAt 68) (S "matches") 3 .none .none .none (s "gateloom.vecops" 965) (r 674) .none 0
noncomputable def o678(P:R):Obj:=tp [s "c" 1147,s "t" 1148,s "f" 1149,s "found" 1150,s "w" 1151,s "same" 1152,s "unknown" 1153]
noncomputable def o680(P:R):Obj:=fn .none (stAt 69) (S "choose") 0 .none .none .none .none .none .none 0
noncomputable def o681(P:R):Obj:=c [s "choose" 1144,s "choose" 1145,u 1146,i 452,i 3,i 0,i 0,i 3,r 676,.bool true,i 181,r 677,.none,r 678,r 679,r 680,i 1154,i 452,u 1155]
noncomputable def o682(P:R):Obj:=fn (.type "function") (stAt 69) (S "choose") 3 .none .none .none (s "gateloom.vecops" 965) (r 681) .none 0
noncomputable def o685(P:R):Obj:=tp [s "op" 1162,s "u" 1163]
noncomputable def o687(P:R):Obj:=fn .none (stAt 71) (S "unary") 0 .none .none .none .none .none .none 0
noncomputable def o688(P:R):Obj:=c [s "unary" 1159,s "unary" 1160,u 1161,i 463,i 2,i 0,i 0,i 3,r 683,.bool true,i 181,r 684,.none,r 685,r 686,r 687,i 1164,i 463,u 1165]
noncomputable def o689(P:R):Obj:=fn (.type "function") (stAt 71) (S "unary") 3 .none .none .none (s "gateloom.evaluate" 1157) (r 688) .none 0
noncomputable def T6:Tt:=(k boot_o_0 (k boot_o_1 (k o3v6 (k boot_o_7 (k o11 (k o31 (k o63 (k o127 (m o11 (l o11)) (m o16 (l o639))) (k o191v3 (m o16 (l o575)) (l o447))) (k o11 (k o159 (m o287 (l o11)) (m o415 (l o671))) (k o223 (m o351 (l o16)) (l o479)))) (k o47 (k o79 (k o143 (m o271 (l o527)) (m o11 (l o11))) (k o195 (m o11 (l o591)) (l o463))) (k o11 (k o30 (m o303 (l o559)) (m o11 (l o687))) (k o239 (m o367 (l o11)) (l o16))))) (k o16 (k o11 (k o11 (k o11 (m o16 (l o519)) (m o391 (l o647))) (k o16 (m o327 (l o583)) (l o11))) (k o103 (k o167 (m o295 (l o16)) (m o423 (l o11))) (k o231 (m o359 (l o615)) (l o11)))) (k o55 (k o87 (k o151 (m o11 (l o535)) (m o407 (l o16))) (k o215 (m o343 (l o11)) (l o471))) (k o16 (k o16 (m o11 (l o11)) (l o16)) (k o247 (m o30 (l o631)) (l o503)))))) (k o11 (k o19 (k o35 (k o11 (k o131 (m o259 (l o11)) (m o387 (l o643))) (k o195 (m o323 (l o16)) (l o451))) (k o11 (k o11 (m o16 (l o547)) (m o419 (l o675))) (k o11 (m o355 (l o611)) (l o11)))) (k o16 (k o83 (k o16 (m o275 (l o531)) (m o11 (l o659))) (k o16 (m o11 (l o11)) (l o16))) (k o115 (k o179 (m o11 (l o563)) (l o435)) (k o243 (m o371 (l o11)) (l o499))))) (k o27 (k o11 (k o75 (k o11 (m o267 (l o16)) (m o395 (l o11))) (k o203 (m o331 (l o587)) (l o11))) (k o107 (k o171 (m o299 (l o555)) (m o11 (l o11))) (k o16 (m o11 (l o619)) (l o491)))) (k o59 (k o91 (k o155 (m o11 (l o11)) (m o411 (l o667))) (k o11 (m o16 (l o603)) (l o475))) (k o123 (k o187 (m o315 (l o11)) (l o443)) (k o11 (m o379 (l o16)) (l o507))))))) (k boot_o_5 (k boot_o_9 (k o17 (k o33 (k o16 (k o129 (m o257 (l o513)) (m o11 (l o11))) (k o193 (m o11 (l o577)) (l o449))) (k o97 (k o16 (m o289 (l o545)) (m o11 (l o673))) (k o225 (m o11 (l o11)) (l o16)))) (k o49 (k o81 (k o145 (m o273 (l o11)) (m o401 (l o657))) (k o209 (m o337 (l o16)) (l o465))) (k o113 (k o11 (m o16 (l o561)) (m o433 (l o689))) (k o11 (m o369 (l o625)) (l o11))))) (k o11 (k o41 (k o73 (k o137 (m o11 (l o521)) (m o393 (l o16))) (k o201 (m o329 (l o11)) (l o457))) (k o105 (k o169 (m o11 (l o11)) (m o16 (l o681))) (k o233 (m o16 (l o617)) (l o489)))) (k o11 (k o89 (k o11 (m o281 (l o16)) (m o409 (l o11))) (k o217 (m o345 (l o601)) (l o11))) (k o11 (k o11 (m o313 (l o569)) (l o11)) (k o16 (m o11 (l o633)) (l o505)))))) (k o13 (k o21 (k o16 (k o69 (k o16 (m o261 (l o517)) (m o11 (l o645))) (k o197 (m o11 (l o11)) (l o16))) (k o101 (k o165 (m o11 (l o549)) (m o421 (l o16))) (k o229 (m o357 (l o11)) (l o485)))) (k o11 (k o11 (k o11 (m o16 (l o533)) (m o405 (l o661))) (k o213 (m o341 (l o597)) (l o11))) (k o117 (k o181 (m o309 (l o16)) (l o437)) (k o245 (m o373 (l o629)) (l o11))))) (k o11 (k o45 (k o77 (k o141 (m o11 (l o11)) (m o16 (l o653))) (k o205 (m o30 (l o589)) (l o461))) (k o109 (k o173 (m o301 (l o11)) (m o429 (l o685))) (k o11 (m o365 (l o16)) (l o493)))) (k o61 (k o16 (k o157 (m o285 (l o541)) (m o413 (l o11))) (k o221 (m o11 (l o605)) (l o477))) (k o11 (k o189 (m o317 (l o573)) (l o11)) (k o253 (m o381 (l o11)) (l o16)))))))) (k o2v2 (k boot_o_4 (k boot_o_8 (k o16 (k o11 (k o11 (k o11 (m o16 (l o512)) (m o384 (l o640))) (k o192 (m o320 (l o576)) (l o11))) (k o96 (k o11 (m o288 (l o16)) (m o416 (l o11))) (k o224 (m o352 (l o608)) (l o11)))) (k o48 (k o80 (k o144 (m o11 (l o528)) (m o400 (l o16))) (k o30 (m o336 (l o11)) (l o464))) (k o30 (k o176 (m o11 (l o11)) (m o16 (l o688))) (k o240 (m o368 (l o624)) (l o496))))) (k o11 (k o40 (k o16 (k o136 (m o264 (l o520)) (m o11 (l o11))) (k o200 (m o11 (l o584)) (l o456))) (k o104 (k o168 (m o296 (l o552)) (m o11 (l o680))) (k o232 (m o11 (l o11)) (l o16)))) (k o56 (k o11 (k o152 (m o280 (l o11)) (m o408 (l o664))) (k o216 (m o344 (l o16)) (l o472))) (k o120 (k o184 (m o16 (l o568)) (l o440)) (k o11 (m o376 (l o632)) (l o11)))))) (k o12v6 (k o20 (k o11 (k o68 (k o11 (m o260 (l o16)) (m o388 (l o11))) (k o30 (m o324 (l o580)) (l o11))) (k o16 (k o164 (m o292 (l o548)) (m o11 (l o11))) (k o16 (m o11 (l o612)) (l o484)))) (k o52 (k o84 (k o148 (m o11 (l o11)) (m o16 (l o660))) (k o212 (m o16 (l o596)) (l o468))) (k o116 (k o180 (m o308 (l o11)) (l o436)) (k o11 (m o372 (l o16)) (l o500))))) (k o28 (k o16 (k o76 (k o16 (m o268 (l o524)) (m o11 (l o652))) (k o204 (m o11 (l o11)) (l o16))) (k o108 (k o172 (m o11 (l o556)) (m o428 (l o16))) (k o236 (m o364 (l o11)) (l o492)))) (k o11 (k o11 (k o11 (m o16 (l o540)) (m o412 (l o668))) (k o16 (m o348 (l o604)) (l o11))) (k o124 (k o188 (m o316 (l o16)) (l o444)) (k o252 (m o380 (l o636)) (l o11))))))) (k boot_o_6 (k boot_o_10 (k o11 (k o34 (k o66 (k o130 (m o11 (l o514)) (m o386 (l o16))) (k o194 (m o322 (l o11)) (l o450))) (k o98 (k o162 (m o11 (l o11)) (m o16 (l o674))) (k o226 (m o16 (l o610)) (l o482)))) (k o11 (k o82 (k o11 (m o274 (l o16)) (m o402 (l o11))) (k o11 (m o338 (l o594)) (l o11))) (k o11 (k o178 (m o306 (l o562)) (l o11)) (k o16 (m o370 (l o626)) (l o498))))) (k o26 (k o42 (k o11 (k o138 (m o266 (l o11)) (m o394 (l o650))) (k o11 (m o330 (l o16)) (l o458))) (k o106 (k o170 (m o16 (l o554)) (m o426 (l o682))) (k o11 (m o362 (l o618)) (l o11)))) (k o16 (k o90 (k o16 (m o282 (l o538)) (m o410 (l o666))) (k o218 (m o11 (l o11)) (l o16))) (k o122 (k o186 (m o11 (l o570)) (l o442)) (k o250 (m o378 (l o11)) (l o506)))))) (k o14 (k o11 (k o38 (k o70 (k o134 (m o11 (l o11)) (m o16 (l o646))) (k o11 (m o16 (l o582)) (l o454))) (k o102 (k o166 (m o294 (l o11)) (m o422 (l o678))) (k o11 (m o358 (l o16)) (l o486)))) (k o54 (k o30 (k o150 (m o278 (l o534)) (m o11 (l o11))) (k o11 (m o11 (l o598)) (l o470))) (k o11 (k o11 (m o310 (l o566)) (l o11)) (k o246 (m o11 (l o11)) (l o16))))) (k o30 (k o11 (k o78 (k o11 (m o16 (l o526)) (m o398 (l o654))) (k o206 (m o334 (l o590)) (l o11))) (k o110 (k o174 (m o302 (l o16)) (m o430 (l o11))) (k o238 (m o366 (l o622)) (l o11)))) (k o62 (k o94 (k o158 (m o11 (l o542)) (m o414 (l o16))) (k o11 (m o350 (l o11)) (l o478))) (k o16 (k o190 (m o11 (l o11)) (l o16)) (k o254 (m o11 (l o638)) (l o510)))))))))
noncomputable def o3v7(P:R):Obj:=dc (.type "dict") [en P "__name__" 165 (s "gateloom.funcs" 1325),en P "__doc__" 166 .none,en P "__package__" 167 .none,en P "__loader__" 168 (.builtin "__main__.__loader__#opaque"),en P "__spec__" 169 .none,en P "__annotations__" 170 (r 6),en P "__builtins__" 171 (r 4),en P "__file__" 173 (u 172),en P "__cached__" 174 .none,en P "_wall" 193 (r 21),en P "net_kinds" 201 (r 28),en P "Signal" 286 (r 80),en P "Routine" 338 (r 106),en P "Design" 440 (r 169),en P "GateloomError" 478 (r 191),en P "DesignError" 494 (r 204),en P "LimitReached" 510 (r 216),en P "mask" 519 (r 225),en P "vec" 530 (r 233),en P "zeros" 537 (r 240),en P "ones" 544 (r 247),en P "all_x" 552 (r 254),en P "all_z" 559 (r 261),en P "from_int" 567 (r 268),en P "is_known" 574 (r 275),en P "to_int" 585 (r 282),en P "code" 593 (r 289),en P "slice_vec" 609 (r 296),en P "put_slice" 625 (r 303),en P "concat" 636 (r 310),en P "extend" 649 (r 317),en P "z_to_x" 656 (r 324),en P "truth" 663 (r 331),en P "Store" 732 (r 369),en P "Context" 791 (r 412),en P "add" 801 (r 423),en P "sub" 809 (r 430),en P "mul" 817 (r 437),en P "neg" 824 (r 444),en P "quotient" 833 (r 451),en P "div" 844 (r 458),en P "mod" 855 (r 465),en P "raise_whole" 868 (r 472),en P "power" 881 (r 479),en P "shift_left" 891 (r 486),en P "shift_right" 900 (r 493),en P "shift_arith" 915 (r 500),en P "ordered" 926 (r 507),en P "less" 936 (r 514),en P "less_equal" 946 (r 521),en P "greater" 955 (r 528),en P "greater_equal" 964 (r 535),en P "one_bit" 973 (r 542),en P "bit_not" 983 (r 549),en P "bit_and" 997 (r 556),en P "bit_or" 1012 (r 563),en P "bit_xor" 1021 (r 570),en P "bit_xnor" 1029 (r 577),en P "reduce_and" 1039 (r 584),en P "reduce_nand" 1046 (r 591),en P "reduce_or" 1053 (r 598),en P "reduce_nor" 1060 (r 605),en P "reduce_xor" 1069 (r 612),en P "reduce_xnor" 1076 (r 619),en P "logic_not" 1083 (r 626),en P "logic_and" 1091 (r 633),en P "logic_or" 1099 (r 640),en P "equal" 1108 (r 647),en P "not_equal" 1116 (r 654),en P "case_equal" 1124 (r 661),en P "case_not_equal" 1132 (r 668),en P "matches" 1143 (r 675),en P "choose" 1156 (r 682),en P "unary" 1166 (r 689),en P "arithmetic" 1176 (r 696),en P "comparison" 1186 (r 703),en P "bitwise" 1195 (r 710),en P "binary" 1206 (r 717),en P "whole_of" 1215 (r 724),en P "memory_word" 1225 (r 731),en P "picked" 1235 (r 738),en P "conditional" 1245 (r 745),en P "bits_needed" 1253 (r 752),en P "system_value" 1264 (r 759),en P "system_value_evaluate" 1265 (r 759),en P "evaluate" 1271 (r 764),en P "locate" 1280 (r 771),en P "holder_width" 1288 (r 778),en P "resolve_target" 1307 (r 785),en P "store_rows" 1324 (r 792),en P "DEPTH_LIMIT" 1328 (.int 24 1327)] 91
noncomputable def o12v7(P:R):Obj:=fl .none (L12.take 240)
noncomputable def o692(P:R):Obj:=tp [s "op" 1170,s "u" 1171,s "v" 1172,s "signed" 1173]
noncomputable def o694(P:R):Obj:=fn .none (stAt 72) (S "arithmetic") 0 .none .none .none .none .none .none 0
noncomputable def o695(P:R):Obj:=c [s "arithmetic" 1167,s "arithmetic" 1168,u 1169,i 483,i 4,i 0,i 0,i 3,r 690,.bool true,i 181,r 691,.none,r 692,r 693,r 694,i 1174,i 483,u 1175]
noncomputable def o696(P:R):Obj:=fn (.type "function") (stAt 72) (S "arithmetic") 3 .none .none .none (s "gateloom.evaluate" 1157) (r 695) .none 0
noncomputable def o699(P:R):Obj:=tp [s "op" 1180,s "u" 1181,s "v" 1182,s "signed" 1183]
noncomputable def o701(P:R):Obj:=fn .none (stAt 73) (S "comparison") 0 .none .none .none .none .none .none 0
noncomputable def o702(P:R):Obj:=c [s "comparison" 1177,s "comparison" 1178,u 1179,i 501,i 4,i 0,i 0,i 3,r 697,.bool true,i 181,r 698,.none,r 699,r 700,r 701,i 1184,i 501,u 1185]
noncomputable def o703(P:R):Obj:=fn (.type "function") (stAt 73) (S "comparison") 3 .none .none .none (s "gateloom.evaluate" 1157) (r 702) .none 0
noncomputable def o706(P:R):Obj:=tp [s "op" 1190,s "u" 1191,s "v" 1192]
noncomputable def o708(P:R):Obj:=fn .none (stAt 74) (S "bitwise") 0 .none .none .none .none .none .none 0
noncomputable def o709(P:R):Obj:=c [s "bitwise" 1187,s "bitwise" 1188,u 1189,i 519,i 3,i 0,i 0,i 3,r 704,.bool true,i 181,r 705,.none,r 706,r 707,r 708,i 1193,i 519,u 1194]
noncomputable def o710(P:R):Obj:=fn (.type "function") (stAt 74) (S "bitwise") 3 .none .none .none (s "gateloom.evaluate" 1157) (r 709) .none 0
noncomputable def o713(P:R):Obj:=tp [s "op" 1199,s "u" 1200,s "v" 1201,s "signed" 1202,s "value" 1203]
noncomputable def o715(P:R):Obj:=fn .none (stAt 75) (S "binary") 0 .none .none .none .none .none .none 0
noncomputable def o716(P:R):Obj:=c [s "binary" 1196,s "binary" 1197,u 1198,i 533,i 4,i 0,i 0,i 3,r 711,.bool true,i 181,r 712,.none,r 713,r 714,r 715,i 1204,i 533,u 1205]
noncomputable def o717(P:R):Obj:=fn (.type "function") (stAt 75) (S "binary") 3 .none .none .none (s "gateloom.evaluate" 1157) (r 716) .none 0
noncomputable def o720(P:R):Obj:=tp [s "e" 1210,s "signed" 1211,s "ctx" 1212]
noncomputable def o722(P:R):Obj:=fn .none (stAt 76) (S "whole_of") 0 .none .none .none .none .none .none 0
noncomputable def o723(P:R):Obj:=c [s "whole_of" 1207,s "whole_of" 1208,u 1209,i 542,i 3,i 0,i 0,i 3,r 718,.bool true,i 181,r 719,.none,r 720,r 721,r 722,i 1213,i 542,u 1214]
noncomputable def o724(P:R):Obj:=fn (.type "function") (stAt 76) (S "whole_of") 3 .none .none .none (s "gateloom.evaluate" 1157) (r 723) .none 0
noncomputable def o727(P:R):Obj:=tp [s "e" 1219,s "ctx" 1220,s "index" 1221,s "place" 1222]
noncomputable def o729(P:R):Obj:=fn .none (stAt 77) (S "memory_word") 0 .none .none .none .none .none .none 0
noncomputable def o730(P:R):Obj:=c [s "memory_word" 1216,s "memory_word" 1217,u 1218,i 544,i 2,i 0,i 0,i 3,r 725,.bool true,i 181,r 726,.none,r 727,r 728,r 729,i 1223,i 544,u 1224]
noncomputable def o731(P:R):Obj:=fn (.type "function") (stAt 77) (S "memory_word") 3 .none .none .none (s "gateloom.evaluate" 1157) (r 730) .none 0
noncomputable def o734(P:R):Obj:=tp [s "e" 1229,s "ctx" 1230,s "value" 1231,s "index" 1232]
noncomputable def o736(P:R):Obj:=fn .none (stAt 78) (S "picked") 0 .none .none .none .none .none .none 0
noncomputable def o737(P:R):Obj:=c [s "picked" 1226,s "picked" 1227,u 1228,i 552,i 2,i 0,i 0,i 3,r 732,.bool true,i 181,r 733,.none,r 734,r 735,r 736,i 1233,i 552,u 1234]
noncomputable def o738(P:R):Obj:=fn (.type "function") (stAt 78) (S "picked") 3 .none .none .none (s "gateloom.evaluate" 1157) (r 737) .none 0
noncomputable def o741(P:R):Obj:=tp [s "e" 1239,s "ctx" 1240,s "condition" 1241,s "known" 1242]
noncomputable def o743(P:R):Obj:=fn .none (stAt 79) (S "conditional") 0 .none .none .none .none .none .none 0
noncomputable def o744(P:R):Obj:=c [s "conditional" 1236,s "conditional" 1237,u 1238,i 558,i 2,i 0,i 0,i 3,r 739,.bool true,i 181,r 740,.none,r 741,r 742,r 743,i 1243,i 558,u 1244]
noncomputable def o745(P:R):Obj:=fn (.type "function") (stAt 79) (S "conditional") 3 .none .none .none (s "gateloom.evaluate" 1157) (r 744) .none 0
noncomputable def o748(P:R):Obj:=tp [s "n" 1249,s "k" 1250]
noncomputable def o750(P:R):Obj:=fn .none (stAt 80) (S "bits_needed") 0 .none .none .none .none .none .none 0
noncomputable def o751(P:R):Obj:=c [s "bits_needed" 1246,s "bits_needed" 1247,u 1248,i 566,i 1,i 0,i 0,i 3,r 746,.bool true,i 181,r 747,.none,r 748,r 749,r 750,i 1251,i 566,u 1252]
noncomputable def o752(P:R):Obj:=fn (.type "function") (stAt 80) (S "bits_needed") 3 .none .none .none (s "gateloom.evaluate" 1157) (r 751) .none 0
noncomputable def o755(P:R):Obj:=tp [s "e" 1257,s "ctx" 1258,s "w" 1259,s "name" 1260,s "n" 1261]
noncomputable def o757(P:R):Obj:=fn .none (stAt 81) (S "system_value") 0 .none .none .none .none .none .none 0
noncomputable def o758(P:R):Obj:=c [s "system_value" 1254,s "system_value" 1255,u 1256,i 571,i 2,i 0,i 0,i 3,r 753,.bool true,i 181,r 754,.none,r 755,r 756,r 757,i 1262,i 571,u 1263]
noncomputable def o759(P:R):Obj:=fn (.type "function") (stAt 81) (S "system_value") 3 .none .none .none (s "gateloom.evaluate" 1157) (r 758) .none 0
noncomputable def o762(P:R):Obj:=fn .none (stAt 83) (S "evaluate") 0 .none .none .none .none .none .none 0
noncomputable def o763(P:R):Obj:=c [s "evaluate" 1266,s "evaluate" 1267,u 1268,i 585,i 2,i 0,i 0,i 3,r 760,.bool true,i 181,r 761,.none,.none,.none,r 762,i 1269,i 585,u 1270]
noncomputable def o764(P:R):Obj:=fn (.type "function") (stAt 83) (S "evaluate") 3 .none .none .none (s "gateloom.evaluate" 1157) (r 763) .none 0
noncomputable def o767(P:R):Obj:=tp [s "where" 1275,s "ctx" 1276,s "index" 1277]
noncomputable def o769(P:R):Obj:=fn .none (stAt 84) (S "locate") 0 .none .none .none .none .none .none 0
noncomputable def o770(P:R):Obj:=c [s "locate" 1272,s "locate" 1273,u 1274,i 616,i 2,i 0,i 0,i 3,r 765,.bool true,i 181,r 766,.none,r 767,r 768,r 769,i 1278,i 616,u 1279]
noncomputable def o771(P:R):Obj:=fn (.type "function") (stAt 84) (S "locate") 3 .none .none .none (s "gateloom.evaluate" 1157) (r 770) .none 0
noncomputable def o774(P:R):Obj:=tp [s "part" 1284,s "ctx" 1285]
noncomputable def o776(P:R):Obj:=fn .none (stAt 85) (S "holder_width") 0 .none .none .none .none .none .none 0
noncomputable def o777(P:R):Obj:=c [s "holder_width" 1281,s "holder_width" 1282,u 1283,i 623,i 2,i 0,i 0,i 3,r 772,.bool true,i 181,r 773,.none,r 774,r 775,r 776,i 1286,i 623,u 1287]
noncomputable def o778(P:R):Obj:=fn (.type "function") (stAt 85) (S "holder_width") 3 .none .none .none (s "gateloom.evaluate" 1157) (r 777) .none 0
noncomputable def o781(P:R):Obj:=tp [s "lv" 1292,s "ctx" 1293,s "rows" 1294,s "take" 1295,s "part" 1296,s "kind" 1297,s "w" 1298,s "ref" 1299,s "word" 1300,s "where" 1301,s "place" 1302,s "index" 1303,s "lo" 1304]
noncomputable def o783(P:R):Obj:=fn .none (stAt 86) (S "resolve_target") 0 .none .none .none .none .none .none 0
noncomputable def o784(P:R):Obj:=c [s "resolve_target" 1289,s "resolve_target" 1290,u 1291,i 627,i 2,i 0,i 0,i 3,r 779,.bool true,i 181,r 780,.none,r 781,r 782,r 783,i 1305,i 627,u 1306]
noncomputable def o785(P:R):Obj:=fn (.type "function") (stAt 86) (S "resolve_target") 3 .none .none .none (s "gateloom.evaluate" 1157) (r 784) .none 0
noncomputable def o788(P:R):Obj:=tp [s "rows" 1311,s "value" 1312,s "ctx" 1313,s "changed" 1314,s "kind" 1315,s "ref" 1316,s "place" 1317,s "lo" 1318,s "w" 1319,s "take" 1320,s "piece" 1321]
noncomputable def o790(P:R):Obj:=fn .none (stAt 87) (S "store_rows") 0 .none .none .none .none .none .none 0
noncomputable def o791(P:R):Obj:=c [s "store_rows" 1308,s "store_rows" 1309,u 1310,i 646,i 3,i 0,i 0,i 3,r 786,.bool true,i 181,r 787,.none,r 788,r 789,r 790,i 1322,i 646,u 1323]
noncomputable def o792(P:R):Obj:=fn (.type "function") (stAt 87) (S "store_rows") 3 .none .none .none (s "gateloom.evaluate" 1157) (r 791) .none 0
noncomputable def T7:Tt:=(k boot_o_0 (k boot_o_1 (k o3v7 (k boot_o_7 (k o11 (k o31 (k o63 (k o127 (k o11 (l o11) (l o767)) (m o16 (l o639))) (k o191v3 (m o16 (l o575)) (m o447 (l o703)))) (k o11 (k o159 (m o287 (l o11)) (m o415 (l o671))) (k o223 (m o351 (l o16)) (m o479 (l o11))))) (k o47 (k o79 (k o143 (k o271 (l o527) (l o783)) (m o11 (l o11))) (k o195 (m o11 (l o591)) (m o463 (l o16)))) (k o11 (k o30 (m o303 (l o559)) (m o11 (l o687))) (k o239 (m o367 (l o11)) (m o16 (l o751)))))) (k o16 (k o11 (k o11 (k o11 (k o16 (l o519) (l o11)) (m o391 (l o647))) (k o16 (m o327 (l o583)) (m o11 (l o11)))) (k o103 (k o167 (m o295 (l o16)) (m o423 (l o11))) (k o231 (m o359 (l o615)) (m o11 (l o743))))) (k o55 (k o87 (k o151 (k o11 (l o535) (l o791)) (m o407 (l o16))) (k o215 (m o343 (l o11)) (m o471 (l o727)))) (k o16 (k o16 (m o11 (l o11)) (m o16 (l o695))) (k o247 (m o30 (l o631)) (m o503 (l o759))))))) (k o11 (k o19 (k o35 (k o11 (k o131 (k o259 (l o11) (l o771)) (m o387 (l o643))) (k o195 (m o323 (l o16)) (m o451 (l o11)))) (k o11 (k o11 (m o16 (l o547)) (m o419 (l o675))) (k o11 (m o355 (l o611)) (m o11 (l o11))))) (k o16 (k o83 (k o16 (k o275 (l o531) (l o16)) (m o11 (l o659))) (k o16 (m o11 (l o11)) (m o16 (l o723)))) (k o115 (k o179 (m o11 (l o563)) (m o435 (l o16))) (k o243 (m o371 (l o11)) (m o499 (l o755)))))) (k o27 (k o11 (k o75 (k o11 (k o267 (l o16) (l o11)) (m o395 (l o11))) (k o203 (m o331 (l o587)) (m o11 (l o715)))) (k o107 (k o171 (m o299 (l o555)) (m o11 (l o11))) (k o16 (m o11 (l o619)) (m o491 (l o16))))) (k o59 (k o91 (k o155 (m o11 (l o11)) (m o411 (l o667))) (k o11 (m o16 (l o603)) (m o475 (l o731)))) (k o123 (k o187 (m o315 (l o11)) (m o443 (l o699))) (k o11 (m o379 (l o16)) (m o507 (l o763)))))))) (k boot_o_5 (k boot_o_9 (k o17 (k o33 (k o16 (k o129 (k o257 (l o513) (l o769)) (m o11 (l o11))) (k o193 (m o11 (l o577)) (m o449 (l o16)))) (k o97 (k o16 (m o289 (l o545)) (m o11 (l o673))) (k o225 (m o11 (l o11)) (m o16 (l o737))))) (k o49 (k o81 (k o145 (k o273 (l o11) (l o785)) (m o401 (l o657))) (k o209 (m o337 (l o16)) (m o465 (l o11)))) (k o113 (k o11 (m o16 (l o561)) (m o433 (l o689))) (k o11 (m o369 (l o625)) (m o11 (l o11)))))) (k o11 (k o41 (k o73 (k o137 (k o11 (l o521) (l o777)) (m o393 (l o16))) (k o201 (m o329 (l o11)) (m o457 (l o713)))) (k o105 (k o169 (m o11 (l o11)) (m o16 (l o681))) (k o233 (m o16 (l o617)) (m o489 (l o745))))) (k o11 (k o89 (k o11 (m o281 (l o16)) (m o409 (l o11))) (k o217 (m o345 (l o601)) (m o11 (l o729)))) (k o11 (k o11 (m o313 (l o569)) (m o11 (l o11))) (k o16 (m o11 (l o633)) (m o505 (l o16))))))) (k o13 (k o21 (k o16 (k o69 (k o16 (k o261 (l o517) (l o16)) (m o11 (l o645))) (k o197 (m o11 (l o11)) (m o16 (l o709)))) (k o101 (k o165 (m o11 (l o549)) (m o421 (l o16))) (k o229 (m o357 (l o11)) (m o485 (l o741))))) (k o11 (k o11 (k o11 (k o16 (l o533) (l o11)) (m o405 (l o661))) (k o213 (m o341 (l o597)) (m o11 (l o11)))) (k o117 (k o181 (m o309 (l o16)) (m o437 (l o11))) (k o245 (m o373 (l o629)) (m o11 (l o757)))))) (k o11 (k o45 (k o77 (k o141 (k o11 (l o11) (l o781)) (m o16 (l o653))) (k o205 (m o30 (l o589)) (m o461 (l o717)))) (k o109 (k o173 (m o301 (l o11)) (m o429 (l o685))) (k o11 (m o365 (l o16)) (m o493 (l o11))))) (k o61 (k o16 (k o157 (m o285 (l o541)) (m o413 (l o11))) (k o221 (m o11 (l o605)) (m o477 (l o16)))) (k o11 (k o189 (m o317 (l o573)) (m o11 (l o701))) (k o253 (m o381 (l o11)) (m o16 (l o11))))))))) (k o2v2 (k boot_o_4 (k boot_o_8 (k o16 (k o11 (k o11 (k o11 (k o16 (l o512) (l o11)) (m o384 (l o640))) (k o192 (m o320 (l o576)) (m o11 (l o11)))) (k o96 (k o11 (m o288 (l o16)) (m o416 (l o11))) (k o224 (m o352 (l o608)) (m o11 (l o736))))) (k o48 (k o80 (k o144 (k o11 (l o528) (l o784)) (m o400 (l o16))) (k o30 (m o336 (l o11)) (m o464 (l o720)))) (k o30 (k o176 (m o11 (l o11)) (m o16 (l o688))) (k o240 (m o368 (l o624)) (m o496 (l o752)))))) (k o11 (k o40 (k o16 (k o136 (k o264 (l o520) (l o776)) (m o11 (l o11))) (k o200 (m o11 (l o584)) (m o456 (l o16)))) (k o104 (k o168 (m o296 (l o552)) (m o11 (l o680))) (k o232 (m o11 (l o11)) (m o16 (l o744))))) (k o56 (k o11 (k o152 (k o280 (l o11) (l o792)) (m o408 (l o664))) (k o216 (m o344 (l o16)) (m o472 (l o11)))) (k o120 (k o184 (m o16 (l o568)) (m o440 (l o696))) (k o11 (m o376 (l o632)) (m o11 (l o11))))))) (k o12v7 (k o20 (k o11 (k o68 (k o11 (k o260 (l o16) (l o11)) (m o388 (l o11))) (k o30 (m o324 (l o580)) (m o11 (l o708)))) (k o16 (k o164 (m o292 (l o548)) (m o11 (l o11))) (k o16 (m o11 (l o612)) (m o484 (l o16))))) (k o52 (k o84 (k o148 (k o11 (l o11) (l o788)) (m o16 (l o660))) (k o212 (m o16 (l o596)) (m o468 (l o724)))) (k o116 (k o180 (m o308 (l o11)) (m o436 (l o692))) (k o11 (m o372 (l o16)) (m o500 (l o11)))))) (k o28 (k o16 (k o76 (k o16 (k o268 (l o524) (l o16)) (m o11 (l o652))) (k o204 (m o11 (l o11)) (m o16 (l o716)))) (k o108 (k o172 (m o11 (l o556)) (m o428 (l o16))) (k o236 (m o364 (l o11)) (m o492 (l o748))))) (k o11 (k o11 (k o11 (m o16 (l o540)) (m o412 (l o668))) (k o16 (m o348 (l o604)) (m o11 (l o11)))) (k o124 (k o188 (m o316 (l o16)) (m o444 (l o11))) (k o252 (m o380 (l o636)) (m o11 (l o764)))))))) (k boot_o_6 (k boot_o_10 (k o11 (k o34 (k o66 (k o130 (k o11 (l o514) (l o770)) (m o386 (l o16))) (k o194 (m o322 (l o11)) (m o450 (l o706)))) (k o98 (k o162 (m o11 (l o11)) (m o16 (l o674))) (k o226 (m o16 (l o610)) (m o482 (l o738))))) (k o11 (k o82 (k o11 (k o274 (l o16) (l o11)) (m o402 (l o11))) (k o11 (m o338 (l o594)) (m o11 (l o722)))) (k o11 (k o178 (m o306 (l o562)) (m o11 (l o11))) (k o16 (m o370 (l o626)) (m o498 (l o16)))))) (k o26 (k o42 (k o11 (k o138 (k o266 (l o11) (l o778)) (m o394 (l o650))) (k o11 (m o330 (l o16)) (m o458 (l o11)))) (k o106 (k o170 (m o16 (l o554)) (m o426 (l o682))) (k o11 (m o362 (l o618)) (m o11 (l o11))))) (k o16 (k o90 (k o16 (m o282 (l o538)) (m o410 (l o666))) (k o218 (m o11 (l o11)) (m o16 (l o730)))) (k o122 (k o186 (m o11 (l o570)) (m o442 (l o16))) (k o250 (m o378 (l o11)) (m o506 (l o762))))))) (k o14 (k o11 (k o38 (k o70 (k o134 (k o11 (l o11) (l o774)) (m o16 (l o646))) (k o11 (m o16 (l o582)) (m o454 (l o710)))) (k o102 (k o166 (m o294 (l o11)) (m o422 (l o678))) (k o11 (m o358 (l o16)) (m o486 (l o11))))) (k o54 (k o30 (k o150 (k o278 (l o534) (l o790)) (m o11 (l o11))) (k o11 (m o11 (l o598)) (m o470 (l o16)))) (k o11 (k o11 (m o310 (l o566)) (m o11 (l o694))) (k o246 (m o11 (l o11)) (m o16 (l o758)))))) (k o30 (k o11 (k o78 (k o11 (k o16 (l o526) (l o11)) (m o398 (l o654))) (k o206 (m o334 (l o590)) (m o11 (l o11)))) (k o110 (k o174 (m o302 (l o16)) (m o430 (l o11))) (k o238 (m o366 (l o622)) (m o11 (l o750))))) (k o62 (k o94 (k o158 (m o11 (l o542)) (m o414 (l o16))) (k o11 (m o350 (l o11)) (m o478 (l o734)))) (k o16 (k o190 (m o11 (l o11)) (m o16 (l o702))) (k o254 (m o11 (l o638)) (m o510 (l o16))))))))))
noncomputable def o3v8(P:R):Obj:=dc (.type "dict") [en P "__name__" 165 (s "gateloom.walks" 1467),en P "__doc__" 166 .none,en P "__package__" 167 .none,en P "__loader__" 168 (.builtin "__main__.__loader__#opaque"),en P "__spec__" 169 .none,en P "__annotations__" 170 (r 6),en P "__builtins__" 171 (r 4),en P "__file__" 173 (u 172),en P "__cached__" 174 .none,en P "_wall" 193 (r 21),en P "net_kinds" 201 (r 28),en P "Signal" 286 (r 80),en P "Routine" 338 (r 106),en P "Design" 440 (r 169),en P "GateloomError" 478 (r 191),en P "DesignError" 494 (r 204),en P "LimitReached" 510 (r 216),en P "mask" 519 (r 225),en P "vec" 530 (r 233),en P "zeros" 537 (r 240),en P "ones" 544 (r 247),en P "all_x" 552 (r 254),en P "all_z" 559 (r 261),en P "from_int" 567 (r 268),en P "is_known" 574 (r 275),en P "to_int" 585 (r 282),en P "code" 593 (r 289),en P "slice_vec" 609 (r 296),en P "put_slice" 625 (r 303),en P "concat" 636 (r 310),en P "extend" 649 (r 317),en P "z_to_x" 656 (r 324),en P "truth" 663 (r 331),en P "Store" 732 (r 369),en P "Context" 791 (r 412),en P "add" 801 (r 423),en P "sub" 809 (r 430),en P "mul" 817 (r 437),en P "neg" 824 (r 444),en P "quotient" 833 (r 451),en P "div" 844 (r 458),en P "mod" 855 (r 465),en P "raise_whole" 868 (r 472),en P "power" 881 (r 479),en P "shift_left" 891 (r 486),en P "shift_right" 900 (r 493),en P "shift_arith" 915 (r 500),en P "ordered" 926 (r 507),en P "less" 936 (r 514),en P "less_equal" 946 (r 521),en P "greater" 955 (r 528),en P "greater_equal" 964 (r 535),en P "one_bit" 973 (r 542),en P "bit_not" 983 (r 549),en P "bit_and" 997 (r 556),en P "bit_or" 1012 (r 563),en P "bit_xor" 1021 (r 570),en P "bit_xnor" 1029 (r 577),en P "reduce_and" 1039 (r 584),en P "reduce_nand" 1046 (r 591),en P "reduce_or" 1053 (r 598),en P "reduce_nor" 1060 (r 605),en P "reduce_xor" 1069 (r 612),en P "reduce_xnor" 1076 (r 619),en P "logic_not" 1083 (r 626),en P "logic_and" 1091 (r 633),en P "logic_or" 1099 (r 640),en P "equal" 1108 (r 647),en P "not_equal" 1116 (r 654),en P "case_equal" 1124 (r 661),en P "case_not_equal" 1132 (r 668),en P "matches" 1143 (r 675),en P "choose" 1156 (r 682),en P "unary" 1166 (r 689),en P "arithmetic" 1176 (r 696),en P "comparison" 1186 (r 703),en P "bitwise" 1195 (r 710),en P "binary" 1206 (r 717),en P "whole_of" 1215 (r 724),en P "memory_word" 1225 (r 731),en P "picked" 1235 (r 738),en P "conditional" 1245 (r 745),en P "bits_needed" 1253 (r 752),en P "system_value" 1264 (r 759),en P "system_value_evaluate" 1265 (r 759),en P "evaluate" 1271 (r 764),en P "locate" 1280 (r 771),en P "holder_width" 1288 (r 778),en P "resolve_target" 1307 (r 785),en P "store_rows" 1324 (r 792),en P "DEPTH_LIMIT" 1328 (.int 24 1327),en P "FunctionContext" 1395 (r 836),en P "run_block" 1405 (r 845),en P "run_set" 1415 (r 852),en P "run_case" 1428 (r 859),en P "run_while" 1439 (r 866),en P "run_repeat" 1449 (r 873),en P "run_for" 1457 (r 880),en P "run_statement" 1466 (r 887),en P "children" 1476 (r 894),en P "subexpressions" 1487 (r 901),en P "expr_reads" 1496 (r 908),en P "expr_calls" 1505 (r 915),en P "target_indexes" 1514 (r 922)] 104
noncomputable def o12v8(P:R):Obj:=fl .none (L12.take 279)
noncomputable def o412v8(P:R):Obj:=⟨.type "type",none,.cls { name:=(S "Context"),bases:=[.type "object"],mro:=[r 412,.type "object"],ns:=411,qualname:=(S "Context"),hasDict:=true,slotNames:=[],subclasses:=[r 836],abstract:=false,collection:=none,hasDel:=false },#[none,none,some (s "Context" 733),some (s "Context" 741),some (.builtin "object.__new__"),some (.bool true)]⟩
noncomputable def o793(P:R):Obj:=tp [r 412]
noncomputable def o795(P:R):Obj:=dc (.type "dict") [en P "__module__" 1336 (s "gateloom.funcs" 1325),en P "__qualname__" 1338 (s "FunctionContext" 1337),en P "__firstlineno__" 1340 (.int 658 1339),en P "__init__" 1353 (r 807),en P "call" 1365 (r 814),en P "new_frame" 1371 (r 819),en P "burn" 1378 (r 826),en P "is_true" 1386 (r 833),en P "__static_attributes__" 1392 (r 834)] 9
noncomputable def o797(P:R):Obj:=fl .none [i 660,i 4,r 806,i 667,i 4,r 813,i 682,i 4,r 818,i 694,i 4,r 825,i 699,i 4,r 832]
noncomputable def o798(P:R):Obj:=c [s "FunctionContext" 1331,s "FunctionContext" 1332,u 1333,i 658,i 0,i 0,i 0,i 0,r 796,.bool false,i 181,r 797,.none,.none,.none,.none,i 1334,i 658,u 1335]
noncomputable def o799(P:R):Obj:=⟨.type "frame",none,.plain,#[some (r 798),some (r 3),some (r 795),none,some (s "gateloom.funcs" 1325),none,some (r 0)]⟩
noncomputable def o800(P:R):Obj:=tp [.int 10000 1341]
noncomputable def o803(P:R):Obj:=tp [s "self" 1345,s "design" 1346,s "store" 1347,s "frame" 1348,s "now" 1349,s "fuel" 1350]
noncomputable def o805(P:R):Obj:=fn .none (inC (stAt 90) 0) (S "FunctionContext.__init__") 0 .none .none .none .none .none .none 0
noncomputable def o806(P:R):Obj:=c [s "__init__" 1342,s "FunctionContext.__init__" 1343,u 1344,i 660,i 6,i 0,i 0,i 3,r 801,.bool true,i 181,r 802,.none,r 803,r 804,r 805,i 1351,i 660,u 1352]
noncomputable def o807(P:R):Obj:=fn (.type "function") (inC (stAt 90) 0) (S "FunctionContext.__init__") 3 (r 800) .none .none (s "gateloom.funcs" 1325) (r 806) .none 0
noncomputable def o810(P:R):Obj:=tp [s "self" 1357,s "number" 1358,s "args" 1359,s "routine" 1360,s "caller" 1361,s "value" 1362]
noncomputable def o812(P:R):Obj:=fn .none (inC (stAt 90) 1) (S "FunctionContext.call") 0 .none .none .none .none .none .none 0
noncomputable def o813(P:R):Obj:=c [s "call" 1354,s "FunctionContext.call" 1355,u 1356,i 667,i 3,i 0,i 0,i 3,r 808,.bool true,i 181,r 809,.none,r 810,r 811,r 812,i 1363,i 667,u 1364]
noncomputable def o814(P:R):Obj:=fn (.type "function") (inC (stAt 90) 1) (S "FunctionContext.call") 3 .none .none .none (s "gateloom.funcs" 1325) (r 813) .none 0
noncomputable def o817(P:R):Obj:=fn .none (inC (stAt 90) 2) (S "FunctionContext.new_frame") 0 .none .none .none .none .none .none 0
noncomputable def o818(P:R):Obj:=c [s "new_frame" 1366,s "FunctionContext.new_frame" 1367,u 1368,i 682,i 3,i 0,i 0,i 3,r 815,.bool true,i 181,r 816,.none,.none,.none,r 817,i 1369,i 682,u 1370]
noncomputable def o819(P:R):Obj:=fn (.type "function") (inC (stAt 90) 2) (S "FunctionContext.new_frame") 3 .none .none .none (s "gateloom.funcs" 1325) (r 818) .none 0
noncomputable def o822(P:R):Obj:=tp [s "self" 1375]
noncomputable def o824(P:R):Obj:=fn .none (inC (stAt 90) 3) (S "FunctionContext.burn") 0 .none .none .none .none .none .none 0
noncomputable def o825(P:R):Obj:=c [s "burn" 1372,s "FunctionContext.burn" 1373,u 1374,i 694,i 1,i 0,i 0,i 3,r 820,.bool true,i 181,r 821,.none,r 822,r 823,r 824,i 1376,i 694,u 1377]
noncomputable def o826(P:R):Obj:=fn (.type "function") (inC (stAt 90) 3) (S "FunctionContext.burn") 3 .none .none .none (s "gateloom.funcs" 1325) (r 825) .none 0
noncomputable def o829(P:R):Obj:=tp [s "self" 1382,s "e" 1383]
noncomputable def o831(P:R):Obj:=fn .none (inC (stAt 90) 4) (S "FunctionContext.is_true") 0 .none .none .none .none .none .none 0
noncomputable def o832(P:R):Obj:=c [s "is_true" 1379,s "FunctionContext.is_true" 1380,u 1381,i 699,i 2,i 0,i 0,i 3,r 827,.bool true,i 181,r 828,.none,r 829,r 830,r 831,i 1384,i 699,u 1385]
noncomputable def o833(P:R):Obj:=fn (.type "function") (inC (stAt 90) 4) (S "FunctionContext.is_true") 3 .none .none .none (s "gateloom.funcs" 1325) (r 832) .none 0
noncomputable def o834(P:R):Obj:=tp [s "depth" 1387,s "design" 1388,s "frame" 1389,s "fuel" 1390,s "written" 1391]
noncomputable def o835(P:R):Obj:=dc (.type "dict") [en P "__module__" 1336 (s "gateloom.funcs" 1325),en P "__firstlineno__" 1340 (.int 658 1339),en P "__init__" 1353 (r 807),en P "call" 1365 (r 814),en P "new_frame" 1371 (r 819),en P "burn" 1378 (r 826),en P "is_true" 1386 (r 833),en P "__static_attributes__" 1392 (r 834),en P "__doc__" 1393 .none] 2
noncomputable def o836(P:R):Obj:=⟨.type "type",none,.cls { name:=(S "FunctionContext"),bases:=[r 412],mro:=[r 836,r 412,.type "object"],ns:=835,qualname:=(S "FunctionContext"),hasDict:=true,slotNames:=[],subclasses:=[],abstract:=false,collection:=none,hasDel:=false },#[some (r 793),none,some (s "FunctionContext" 1329),some (s "FunctionContext" 1337),some (.builtin "object.__new__"),some (.bool true)]⟩
noncomputable def o837(P:R):Obj:=fl (.type "super") [r 836,r 836,r 836]
noncomputable def o838(P:R):Obj:=fl (.type "builtin_function_or_method") [.builtin "object.__init_subclass__",r 836]
noncomputable def o841(P:R):Obj:=tp [s "s" 1399,s "ctx" 1400,s "inner" 1401,s "disabled" 1402]
noncomputable def o843(P:R):Obj:=fn .none (stAt 91) (S "run_block") 0 .none .none .none .none .none .none 0
noncomputable def o844(P:R):Obj:=c [s "run_block" 1396,s "run_block" 1397,u 1398,i 701,i 2,i 0,i 0,i 3,r 839,.bool true,i 181,r 840,.none,r 841,r 842,r 843,i 1403,i 701,u 1404]
noncomputable def o845(P:R):Obj:=fn (.type "function") (stAt 91) (S "run_block") 3 .none .none .none (s "gateloom.funcs" 1325) (r 844) .none 0
noncomputable def o848(P:R):Obj:=tp [s "s" 1409,s "ctx" 1410,s "value" 1411,s "key" 1412]
noncomputable def o850(P:R):Obj:=fn .none (stAt 92) (S "run_set") 0 .none .none .none .none .none .none 0
noncomputable def o851(P:R):Obj:=c [s "run_set" 1406,s "run_set" 1407,u 1408,i 709,i 2,i 0,i 0,i 3,r 846,.bool true,i 181,r 847,.none,r 848,r 849,r 850,i 1413,i 709,u 1414]
noncomputable def o852(P:R):Obj:=fn (.type "function") (stAt 92) (S "run_set") 3 .none .none .none (s "gateloom.funcs" 1325) (r 851) .none 0
noncomputable def o855(P:R):Obj:=tp [s "s" 1419,s "ctx" 1420,s "value" 1421,s "default" 1422,s "labels" 1423,s "inner" 1424,s "label" 1425]
noncomputable def o857(P:R):Obj:=fn .none (stAt 93) (S "run_case") 0 .none .none .none .none .none .none 0
noncomputable def o858(P:R):Obj:=c [s "run_case" 1416,s "run_case" 1417,u 1418,i 716,i 2,i 0,i 0,i 3,r 853,.bool true,i 181,r 854,.none,r 855,r 856,r 857,i 1426,i 716,u 1427]
noncomputable def o859(P:R):Obj:=fn (.type "function") (stAt 93) (S "run_case") 3 .none .none .none (s "gateloom.funcs" 1325) (r 858) .none 0
noncomputable def o862(P:R):Obj:=tp [s "condition" 1432,s "body" 1433,s "step" 1434,s "ctx" 1435,s "disabled" 1436]
noncomputable def o864(P:R):Obj:=fn .none (stAt 94) (S "run_while") 0 .none .none .none .none .none .none 0
noncomputable def o865(P:R):Obj:=c [s "run_while" 1429,s "run_while" 1430,u 1431,i 727,i 4,i 0,i 0,i 3,r 860,.bool true,i 181,r 861,.none,r 862,r 863,r 864,i 1437,i 727,u 1438]
noncomputable def o866(P:R):Obj:=fn (.type "function") (stAt 94) (S "run_while") 3 .none .none .none (s "gateloom.funcs" 1325) (r 865) .none 0
noncomputable def o869(P:R):Obj:=tp [s "s" 1443,s "ctx" 1444,s "count" 1445,s "disabled" 1446]
noncomputable def o871(P:R):Obj:=fn .none (stAt 95) (S "run_repeat") 0 .none .none .none .none .none .none 0
noncomputable def o872(P:R):Obj:=c [s "run_repeat" 1440,s "run_repeat" 1441,u 1442,i 735,i 2,i 0,i 0,i 3,r 867,.bool true,i 181,r 868,.none,r 869,r 870,r 871,i 1447,i 735,u 1448]
noncomputable def o873(P:R):Obj:=fn (.type "function") (stAt 95) (S "run_repeat") 3 .none .none .none (s "gateloom.funcs" 1325) (r 872) .none 0
noncomputable def o876(P:R):Obj:=tp [s "s" 1453,s "ctx" 1454]
noncomputable def o878(P:R):Obj:=fn .none (stAt 96) (S "run_for") 0 .none .none .none .none .none .none 0
noncomputable def o879(P:R):Obj:=c [s "run_for" 1450,s "run_for" 1451,u 1452,i 746,i 2,i 0,i 0,i 3,r 874,.bool true,i 181,r 875,.none,r 876,r 877,r 878,i 1455,i 746,u 1456]
noncomputable def o880(P:R):Obj:=fn (.type "function") (stAt 96) (S "run_for") 3 .none .none .none (s "gateloom.funcs" 1325) (r 879) .none 0
noncomputable def o883(P:R):Obj:=tp [s "s" 1461,s "ctx" 1462,s "tag" 1463]
noncomputable def o885(P:R):Obj:=fn .none (stAt 97) (S "run_statement") 0 .none .none .none .none .none .none 0
noncomputable def o886(P:R):Obj:=c [s "run_statement" 1458,s "run_statement" 1459,u 1460,i 749,i 2,i 0,i 0,i 3,r 881,.bool true,i 181,r 882,.none,r 883,r 884,r 885,i 1464,i 749,u 1465]
noncomputable def o887(P:R):Obj:=fn (.type "function") (stAt 97) (S "run_statement") 3 .none .none .none (s "gateloom.funcs" 1325) (r 886) .none 0
noncomputable def o890(P:R):Obj:=tp [s "e" 1472,s "tag" 1473]
noncomputable def o892(P:R):Obj:=fn .none (stAt 99) (S "children") 0 .none .none .none .none .none .none 0
noncomputable def o893(P:R):Obj:=c [s "children" 1469,s "children" 1470,u 1471,i 777,i 1,i 0,i 0,i 3,r 888,.bool true,i 181,r 889,.none,r 890,r 891,r 892,i 1474,i 777,u 1475]
noncomputable def o894(P:R):Obj:=fn (.type "function") (stAt 99) (S "children") 3 .none .none .none (s "gateloom.walks" 1467) (r 893) .none 0
noncomputable def o897(P:R):Obj:=tp [s "e" 1480,s "found" 1481,s "stack" 1482,s "node" 1483,s "part" 1484]
noncomputable def o899(P:R):Obj:=fn .none (stAt 100) (S "subexpressions") 0 .none .none .none .none .none .none 0
noncomputable def o900(P:R):Obj:=c [s "subexpressions" 1477,s "subexpressions" 1478,u 1479,i 796,i 1,i 0,i 0,i 3,r 895,.bool true,i 181,r 896,.none,r 897,r 898,r 899,i 1485,i 796,u 1486]
noncomputable def o901(P:R):Obj:=fn (.type "function") (stAt 100) (S "subexpressions") 3 .none .none .none (s "gateloom.walks" 1467) (r 900) .none 0
noncomputable def o904(P:R):Obj:=tp [s "e" 1491,s "keys" 1492,s "node" 1493]
noncomputable def o906(P:R):Obj:=fn .none (stAt 101) (S "expr_reads") 0 .none .none .none .none .none .none 0
noncomputable def o907(P:R):Obj:=c [s "expr_reads" 1488,s "expr_reads" 1489,u 1490,i 805,i 1,i 0,i 0,i 3,r 902,.bool true,i 181,r 903,.none,r 904,r 905,r 906,i 1494,i 805,u 1495]
noncomputable def o908(P:R):Obj:=fn (.type "function") (stAt 101) (S "expr_reads") 3 .none .none .none (s "gateloom.walks" 1467) (r 907) .none 0
noncomputable def o911(P:R):Obj:=tp [s "e" 1500,s "numbers" 1501,s "node" 1502]
noncomputable def o913(P:R):Obj:=fn .none (stAt 102) (S "expr_calls") 0 .none .none .none .none .none .none 0
noncomputable def o914(P:R):Obj:=c [s "expr_calls" 1497,s "expr_calls" 1498,u 1499,i 811,i 1,i 0,i 0,i 3,r 909,.bool true,i 181,r 910,.none,r 911,r 912,r 913,i 1503,i 811,u 1504]
noncomputable def o915(P:R):Obj:=fn (.type "function") (stAt 102) (S "expr_calls") 3 .none .none .none (s "gateloom.walks" 1467) (r 914) .none 0
noncomputable def o918(P:R):Obj:=tp [s "lv" 1509,s "found" 1510,s "part" 1511]
noncomputable def o920(P:R):Obj:=fn .none (stAt 103) (S "target_indexes") 0 .none .none .none .none .none .none 0
noncomputable def o921(P:R):Obj:=c [s "target_indexes" 1506,s "target_indexes" 1507,u 1508,i 817,i 1,i 0,i 0,i 3,r 916,.bool true,i 181,r 917,.none,r 918,r 919,r 920,i 1512,i 817,u 1513]
noncomputable def o922(P:R):Obj:=fn (.type "function") (stAt 103) (S "target_indexes") 3 .none .none .none (s "gateloom.walks" 1467) (r 921) .none 0
noncomputable def T8:Tt:=(k boot_o_0 (k boot_o_1 (k o3v8 (k boot_o_7 (k o11 (k o31 (k o63 (k o127 (k o11 (l o11) (l o767)) (k o16 (l o639) (l o11))) (k o191v3 (k o16 (l o575) (l o831)) (m o447 (l o703)))) (k o11 (k o159 (k o287 (l o11) (l o799)) (m o415 (l o671))) (k o223 (k o351 (l o16) (l o11)) (m o479 (l o11))))) (k o47 (k o79 (k o143 (k o271 (l o527) (l o783)) (k o11 (l o11) (l o911))) (k o195 (k o11 (l o591) (l o16)) (m o463 (l o16)))) (k o11 (k o30 (k o303 (l o559) (l o11)) (m o11 (l o687))) (k o239 (k o367 (l o11) (l o879)) (m o16 (l o751)))))) (k o16 (k o11 (k o11 (k o11 (k o16 (l o519) (l o11)) (k o391 (l o647) (l o16))) (k o16 (k o327 (l o583) (l o11)) (m o11 (l o11)))) (k o103 (k o167 (k o295 (l o16) (l o807)) (m o423 (l o11))) (k o231 (k o359 (l o615) (l o871)) (m o11 (l o743))))) (k o55 (k o87 (k o151 (k o11 (l o535) (l o791)) (k o407 (l o16) (l o11))) (k o215 (k o343 (l o11) (l o855)) (m o471 (l o727)))) (k o16 (k o16 (k o11 (l o11) (l o11)) (m o16 (l o695))) (k o247 (k o30 (l o631) (l o887)) (m o503 (l o759))))))) (k o11 (k o19 (k o35 (k o11 (k o131 (k o259 (l o11) (l o771)) (k o387 (l o643) (l o899))) (k o195 (k o323 (l o16) (l o835)) (m o451 (l o11)))) (k o11 (k o11 (k o16 (l o547) (l o803)) (m o419 (l o675))) (k o11 (k o355 (l o611) (l o11)) (m o11 (l o11))))) (k o16 (k o83 (k o16 (k o275 (l o531) (l o16)) (k o11 (l o659) (l o915))) (k o16 (k o11 (l o11) (l o851)) (m o16 (l o723)))) (k o115 (k o179 (k o11 (l o563) (l o819)) (m o435 (l o16))) (k o243 (k o371 (l o11) (l o883)) (m o499 (l o755)))))) (k o27 (k o11 (k o75 (k o11 (k o267 (l o16) (l o11)) (k o395 (l o11) (l o907))) (k o203 (k o331 (l o587) (l o843)) (m o11 (l o715)))) (k o107 (k o171 (k o299 (l o555) (l o11)) (m o11 (l o11))) (k o16 (k o11 (l o619) (l o16)) (m o491 (l o16))))) (k o59 (k o91 (k o155 (k o11 (l o11) (l o795)) (m o411 (l o667))) (k o11 (k o16 (l o603) (l o859)) (m o475 (l o731)))) (k o123 (k o187 (k o315 (l o11) (l o11)) (m o443 (l o699))) (k o11 (k o379 (l o16) (l o11)) (m o507 (l o763)))))))) (k boot_o_5 (k boot_o_9 (k o17 (k o33 (k o16 (k o129 (k o257 (l o513) (l o769)) (k o11 (l o11) (l o897))) (k o193 (k o11 (l o577) (l o833)) (m o449 (l o16)))) (k o97 (k o16 (k o289 (l o545) (l o11)) (m o11 (l o673))) (k o225 (k o11 (l o11) (l o865)) (m o16 (l o737))))) (k o49 (k o81 (k o145 (k o273 (l o11) (l o785)) (k o401 (l o657) (l o913))) (k o209 (k o337 (l o16) (l o11)) (m o465 (l o11)))) (k o113 (k o11 (k o16 (l o561) (l o817)) (m o433 (l o689))) (k o11 (k o369 (l o625) (l o11)) (m o11 (l o11)))))) (k o11 (k o41 (k o73 (k o137 (k o11 (l o521) (l o777)) (k o393 (l o16) (l o11))) (k o201 (k o329 (l o11) (l o841)) (m o457 (l o713)))) (k o105 (k o169 (k o11 (l o11) (l o16)) (m o16 (l o681))) (k o233 (k o16 (l o617) (l o873)) (m o489 (l o745))))) (k o11 (k o89 (k o11 (k o281 (l o16) (l o793)) (k o409 (l o11) (l o921))) (k o217 (k o345 (l o601) (l o857)) (m o11 (l o729)))) (k o11 (k o11 (k o313 (l o569) (l o825)) (m o11 (l o11))) (k o16 (k o11 (l o633) (l o16)) (m o505 (l o16))))))) (k o13 (k o21 (k o16 (k o69 (k o16 (k o261 (l o517) (l o16)) (k o11 (l o645) (l o901))) (k o197 (k o11 (l o11) (l o837)) (m o16 (l o709)))) (k o101 (k o165 (k o11 (l o549) (l o805)) (m o421 (l o16))) (k o229 (k o357 (l o11) (l o869)) (m o485 (l o741))))) (k o11 (k o11 (k o11 (k o16 (l o533) (l o11)) (k o405 (l o661) (l o16))) (k o213 (k o341 (l o597) (l o11)) (m o11 (l o11)))) (k o117 (k o181 (k o309 (l o16) (l o16)) (m o437 (l o11))) (k o245 (k o373 (l o629) (l o885)) (m o11 (l o757)))))) (k o11 (k o45 (k o77 (k o141 (k o11 (l o11) (l o781)) (k o16 (l o653) (l o11))) (k o205 (k o30 (l o589) (l o845)) (m o461 (l o717)))) (k o109 (k o173 (k o301 (l o11) (l o813)) (m o429 (l o685))) (k o11 (k o365 (l o16) (l o11)) (m o493 (l o11))))) (k o61 (k o16 (k o157 (k o285 (l o541) (l o797)) (m o413 (l o11))) (k o221 (k o11 (l o605) (l o16)) (m o477 (l o16)))) (k o11 (k o189 (k o317 (l o573) (l o829)) (m o11 (l o701))) (k o253 (k o381 (l o11) (l o893)) (m o16 (l o11))))))))) (k o2v2 (k boot_o_4 (k boot_o_8 (k o16 (k o11 (k o11 (k o11 (k o16 (l o512) (l o11)) (k o384 (l o640) (l o16))) (k o192 (k o320 (l o576) (l o832)) (m o11 (l o11)))) (k o96 (k o11 (k o288 (l o16) (l o800)) (m o416 (l o11))) (k o224 (k o352 (l o608) (l o864)) (m o11 (l o736))))) (k o48 (k o80 (k o144 (k o11 (l o528) (l o784)) (k o400 (l o16) (l o11))) (k o30 (k o336 (l o11) (l o848)) (m o464 (l o720)))) (k o30 (k o176 (k o11 (l o11) (l o16)) (m o16 (l o688))) (k o240 (k o368 (l o624) (l o880)) (m o496 (l o752)))))) (k o11 (k o40 (k o16 (k o136 (k o264 (l o520) (l o776)) (k o11 (l o11) (l o904))) (k o200 (k o11 (l o584) (l o16)) (m o456 (l o16)))) (k o104 (k o168 (k o296 (l o552) (l o11)) (m o11 (l o680))) (k o232 (k o11 (l o11) (l o872)) (m o16 (l o744))))) (k o56 (k o11 (k o152 (k o280 (l o11) (l o792)) (k o408 (l o664) (l o920))) (k o216 (k o344 (l o16) (l o11)) (m o472 (l o11)))) (k o120 (k o184 (k o16 (l o568) (l o824)) (m o440 (l o696))) (k o11 (k o376 (l o632) (l o11)) (m o11 (l o11))))))) (k o12v8 (k o20 (k o11 (k o68 (k o11 (k o260 (l o16) (l o11)) (k o388 (l o11) (l o900))) (k o30 (k o324 (l o580) (l o836)) (m o11 (l o708)))) (k o16 (k o164 (k o292 (l o548) (l o11)) (m o11 (l o11))) (k o16 (k o11 (l o612) (l o16)) (m o484 (l o16))))) (k o52 (k o84 (k o148 (k o11 (l o11) (l o788)) (k o16 (l o660) (l o11))) (k o212 (k o16 (l o596) (l o852)) (m o468 (l o724)))) (k o116 (k o180 (k o308 (l o11) (l o11)) (m o436 (l o692))) (k o11 (k o372 (l o16) (l o11)) (m o500 (l o11)))))) (k o28 (k o16 (k o76 (k o16 (k o268 (l o524) (l o16)) (k o11 (l o652) (l o908))) (k o204 (k o11 (l o11) (l o844)) (m o16 (l o716)))) (k o108 (k o172 (k o11 (l o556) (l o812)) (m o428 (l o16))) (k o236 (k o364 (l o11) (l o876)) (m o492 (l o748))))) (k o11 (k o11 (k o11 (k o16 (l o540) (l o11)) (m o412v8 (l o668))) (k o16 (k o348 (l o604) (l o11)) (m o11 (l o11)))) (k o124 (k o188 (k o316 (l o16) (l o16)) (m o444 (l o11))) (k o252 (k o380 (l o636) (l o892)) (m o11 (l o764)))))))) (k boot_o_6 (k boot_o_10 (k o11 (k o34 (k o66 (k o130 (k o11 (l o514) (l o770)) (k o386 (l o16) (l o11))) (k o194 (k o322 (l o11) (l o834)) (m o450 (l o706)))) (k o98 (k o162 (k o11 (l o11) (l o16)) (m o16 (l o674))) (k o226 (k o16 (l o610) (l o866)) (m o482 (l o738))))) (k o11 (k o82 (k o11 (k o274 (l o16) (l o11)) (k o402 (l o11) (l o914))) (k o11 (k o338 (l o594) (l o850)) (m o11 (l o722)))) (k o11 (k o178 (k o306 (l o562) (l o818)) (m o11 (l o11))) (k o16 (k o370 (l o626) (l o16)) (m o498 (l o16)))))) (k o26 (k o42 (k o11 (k o138 (k o266 (l o11) (l o778)) (k o394 (l o650) (l o906))) (k o11 (k o330 (l o16) (l o11)) (m o458 (l o11)))) (k o106 (k o170 (k o16 (l o554) (l o810)) (m o426 (l o682))) (k o11 (k o362 (l o618) (l o11)) (m o11 (l o11))))) (k o16 (k o90 (k o16 (k o282 (l o538) (l o30)) (k o410 (l o666) (l o922))) (k o218 (k o11 (l o11) (l o858)) (m o16 (l o730)))) (k o122 (k o186 (k o11 (l o570) (l o826)) (m o442 (l o16))) (k o250 (k o378 (l o11) (l o890)) (m o506 (l o762))))))) (k o14 (k o11 (k o38 (k o70 (k o134 (k o11 (l o11) (l o774)) (k o16 (l o646) (l o11))) (k o11 (k o16 (l o582) (l o838)) (m o454 (l o710)))) (k o102 (k o166 (k o294 (l o11) (l o806)) (m o422 (l o678))) (k o11 (k o358 (l o16) (l o11)) (m o486 (l o11))))) (k o54 (k o30 (k o150 (k o278 (l o534) (l o790)) (k o11 (l o11) (l o918))) (k o11 (k o11 (l o598) (l o16)) (m o470 (l o16)))) (k o11 (k o11 (k o310 (l o566) (l o822)) (m o11 (l o694))) (k o246 (k o11 (l o11) (l o886)) (m o16 (l o758)))))) (k o30 (k o11 (k o78 (k o11 (k o16 (l o526) (l o11)) (k o398 (l o654) (l o16))) (k o206 (k o334 (l o590) (l o11)) (m o11 (l o11)))) (k o110 (k o174 (k o302 (l o16) (l o814)) (m o430 (l o11))) (k o238 (k o366 (l o622) (l o878)) (m o11 (l o750))))) (k o62 (k o94 (k o158 (k o11 (l o542) (l o798)) (m o414 (l o16))) (k o11 (k o350 (l o11) (l o862)) (m o478 (l o734)))) (k o16 (k o190 (k o11 (l o11) (l o11)) (m o16 (l o702))) (k o254 (k o11 (l o638) (l o894)) (m o510 (l o16))))))))))
noncomputable def o3v9(P:R):Obj:=dc (.type "dict") [en P "__name__" 165 (s "gateloom.elabparts" 1592),en P "__doc__" 166 .none,en P "__package__" 167 .none,en P "__loader__" 168 (.builtin "__main__.__loader__#opaque"),en P "__spec__" 169 .none,en P "__annotations__" 170 (r 6),en P "__builtins__" 171 (r 4),en P "__file__" 173 (u 172),en P "__cached__" 174 .none,en P "_wall" 193 (r 21),en P "net_kinds" 201 (r 28),en P "Signal" 286 (r 80),en P "Routine" 338 (r 106),en P "Design" 440 (r 169),en P "GateloomError" 478 (r 191),en P "DesignError" 494 (r 204),en P "LimitReached" 510 (r 216),en P "mask" 519 (r 225),en P "vec" 530 (r 233),en P "zeros" 537 (r 240),en P "ones" 544 (r 247),en P "all_x" 552 (r 254),en P "all_z" 559 (r 261),en P "from_int" 567 (r 268),en P "is_known" 574 (r 275),en P "to_int" 585 (r 282),en P "code" 593 (r 289),en P "slice_vec" 609 (r 296),en P "put_slice" 625 (r 303),en P "concat" 636 (r 310),en P "extend" 649 (r 317),en P "z_to_x" 656 (r 324),en P "truth" 663 (r 331),en P "Store" 732 (r 369),en P "Context" 791 (r 412),en P "add" 801 (r 423),en P "sub" 809 (r 430),en P "mul" 817 (r 437),en P "neg" 824 (r 444),en P "quotient" 833 (r 451),en P "div" 844 (r 458),en P "mod" 855 (r 465),en P "raise_whole" 868 (r 472),en P "power" 881 (r 479),en P "shift_left" 891 (r 486),en P "shift_right" 900 (r 493),en P "shift_arith" 915 (r 500),en P "ordered" 926 (r 507),en P "less" 936 (r 514),en P "less_equal" 946 (r 521),en P "greater" 955 (r 528),en P "greater_equal" 964 (r 535),en P "one_bit" 973 (r 542),en P "bit_not" 983 (r 549),en P "bit_and" 997 (r 556),en P "bit_or" 1012 (r 563),en P "bit_xor" 1021 (r 570),en P "bit_xnor" 1029 (r 577),en P "reduce_and" 1039 (r 584),en P "reduce_nand" 1046 (r 591),en P "reduce_or" 1053 (r 598),en P "reduce_nor" 1060 (r 605),en P "reduce_xor" 1069 (r 612),en P "reduce_xnor" 1076 (r 619),en P "logic_not" 1083 (r 626),en P "logic_and" 1091 (r 633),en P "logic_or" 1099 (r 640),en P "equal" 1108 (r 647),en P "not_equal" 1116 (r 654),en P "case_equal" 1124 (r 661),en P "case_not_equal" 1132 (r 668),en P "matches" 1143 (r 675),en P "choose" 1156 (r 682),en P "unary" 1166 (r 689),en P "arithmetic" 1176 (r 696),en P "comparison" 1186 (r 703),en P "bitwise" 1195 (r 710),en P "binary" 1206 (r 717),en P "whole_of" 1215 (r 724),en P "memory_word" 1225 (r 731),en P "picked" 1235 (r 738),en P "conditional" 1245 (r 745),en P "bits_needed" 1253 (r 752),en P "system_value" 1264 (r 759),en P "system_value_evaluate" 1265 (r 759),en P "evaluate" 1271 (r 764),en P "locate" 1280 (r 771),en P "holder_width" 1288 (r 778),en P "resolve_target" 1307 (r 785),en P "store_rows" 1324 (r 792),en P "DEPTH_LIMIT" 1328 (.int 24 1327),en P "FunctionContext" 1395 (r 836),en P "run_block" 1405 (r 845),en P "run_set" 1415 (r 852),en P "run_case" 1428 (r 859),en P "run_while" 1439 (r 866),en P "run_repeat" 1449 (r 873),en P "run_for" 1457 (r 880),en P "run_statement" 1466 (r 887),en P "children" 1476 (r 894),en P "subexpressions" 1487 (r 901),en P "expr_reads" 1496 (r 908),en P "expr_calls" 1505 (r 915),en P "target_indexes" 1514 (r 922),en P "target_writes" 1523 (r 929),en P "stmt_parts" 1529 (r 934),en P "substatements" 1540 (r 941),en P "stmt_targets" 1546 (r 946),en P "stmt_exprs" 1558 (r 953),en P "stmt_reads" 1569 (r 960),en P "stmt_writes" 1580 (r 967),en P "stmt_calls" 1591 (r 974),en P "MAX_WIDTH" 1595 (.int 65536 1594),en P "last_select" 1604 (r 981),en P "is_memory" 1612 (r 988),en P "shape" 1622 (r 995),en P "shape_elabparts" 1623 (r 995),en P "read_entry" 1633 (r 1002),en P "folds" 1640 (r 1009),en P "folded" 1648 (r 1016),en P "checked_width" 1656 (r 1023),en P "selected" 1665 (r 1030),en P "text_vec" 1674 (r 1037),en P "inner_join" 1681 (r 1044),en P "is_context_operator" 1688 (r 1051),en P "is_shift" 1695 (r 1058),en P "widen" 1704 (r 1065),en P "number_value" 1715 (r 1072),en P "is_changing" 1722 (r 1079),en P "asks_system" 1732 (r 1086),en P "is_constant" 1745 (r 1093)] 131
noncomputable def o12v9(P:R):Obj:=fl .none (L12.take 354)
noncomputable def o925(P:R):Obj:=tp [s "lv" 1518,s "keys" 1519,s "part" 1520]
noncomputable def o927(P:R):Obj:=fn .none (stAt 104) (S "target_writes") 0 .none .none .none .none .none .none 0
noncomputable def o928(P:R):Obj:=c [s "target_writes" 1515,s "target_writes" 1516,u 1517,i 825,i 1,i 0,i 0,i 3,r 923,.bool true,i 181,r 924,.none,r 925,r 926,r 927,i 1521,i 825,u 1522]
noncomputable def o929(P:R):Obj:=fn (.type "function") (stAt 104) (S "target_writes") 3 .none .none .none (s "gateloom.walks" 1467) (r 928) .none 0
noncomputable def o932(P:R):Obj:=fn .none (stAt 105) (S "stmt_parts") 0 .none .none .none .none .none .none 0
noncomputable def o933(P:R):Obj:=c [s "stmt_parts" 1524,s "stmt_parts" 1525,u 1526,i 831,i 1,i 0,i 0,i 3,r 930,.bool true,i 181,r 931,.none,.none,.none,r 932,i 1527,i 831,u 1528]
noncomputable def o934(P:R):Obj:=fn (.type "function") (stAt 105) (S "stmt_parts") 3 .none .none .none (s "gateloom.walks" 1467) (r 933) .none 0
noncomputable def o937(P:R):Obj:=tp [s "s" 1533,s "found" 1534,s "stack" 1535,s "node" 1536,s "part" 1537]
noncomputable def o939(P:R):Obj:=fn .none (stAt 106) (S "substatements") 0 .none .none .none .none .none .none 0
noncomputable def o940(P:R):Obj:=c [s "substatements" 1530,s "substatements" 1531,u 1532,i 849,i 1,i 0,i 0,i 3,r 935,.bool true,i 181,r 936,.none,r 937,r 938,r 939,i 1538,i 849,u 1539]
noncomputable def o941(P:R):Obj:=fn (.type "function") (stAt 106) (S "substatements") 3 .none .none .none (s "gateloom.walks" 1467) (r 940) .none 0
noncomputable def o944(P:R):Obj:=fn .none (stAt 107) (S "stmt_targets") 0 .none .none .none .none .none .none 0
noncomputable def o945(P:R):Obj:=c [s "stmt_targets" 1541,s "stmt_targets" 1542,u 1543,i 860,i 1,i 0,i 0,i 3,r 942,.bool true,i 181,r 943,.none,.none,.none,r 944,i 1544,i 860,u 1545]
noncomputable def o946(P:R):Obj:=fn (.type "function") (stAt 107) (S "stmt_targets") 3 .none .none .none (s "gateloom.walks" 1467) (r 945) .none 0
noncomputable def o949(P:R):Obj:=tp [s "s" 1550,s "tag" 1551,s "found" 1552,s "row" 1553,s "arg" 1554,s "lv" 1555]
noncomputable def o951(P:R):Obj:=fn .none (stAt 108) (S "stmt_exprs") 0 .none .none .none .none .none .none 0
noncomputable def o952(P:R):Obj:=c [s "stmt_exprs" 1547,s "stmt_exprs" 1548,u 1549,i 866,i 1,i 0,i 0,i 3,r 947,.bool true,i 181,r 948,.none,r 949,r 950,r 951,i 1556,i 866,u 1557]
noncomputable def o953(P:R):Obj:=fn (.type "function") (stAt 108) (S "stmt_exprs") 3 .none .none .none (s "gateloom.walks" 1467) (r 952) .none 0
noncomputable def o956(P:R):Obj:=tp [s "s" 1562,s "keys" 1563,s "node" 1564,s "e" 1565,s "key" 1566]
noncomputable def o958(P:R):Obj:=fn .none (stAt 109) (S "stmt_reads") 0 .none .none .none .none .none .none 0
noncomputable def o959(P:R):Obj:=c [s "stmt_reads" 1559,s "stmt_reads" 1560,u 1561,i 891,i 1,i 0,i 0,i 3,r 954,.bool true,i 181,r 955,.none,r 956,r 957,r 958,i 1567,i 891,u 1568]
noncomputable def o960(P:R):Obj:=fn (.type "function") (stAt 109) (S "stmt_reads") 3 .none .none .none (s "gateloom.walks" 1467) (r 959) .none 0
noncomputable def o963(P:R):Obj:=tp [s "s" 1573,s "keys" 1574,s "node" 1575,s "lv" 1576,s "key" 1577]
noncomputable def o965(P:R):Obj:=fn .none (stAt 110) (S "stmt_writes") 0 .none .none .none .none .none .none 0
noncomputable def o966(P:R):Obj:=c [s "stmt_writes" 1570,s "stmt_writes" 1571,u 1572,i 898,i 1,i 0,i 0,i 3,r 961,.bool true,i 181,r 962,.none,r 963,r 964,r 965,i 1578,i 898,u 1579]
noncomputable def o967(P:R):Obj:=fn (.type "function") (stAt 110) (S "stmt_writes") 3 .none .none .none (s "gateloom.walks" 1467) (r 966) .none 0
noncomputable def o970(P:R):Obj:=tp [s "s" 1584,s "numbers" 1585,s "node" 1586,s "e" 1587,s "number" 1588]
noncomputable def o972(P:R):Obj:=fn .none (stAt 111) (S "stmt_calls") 0 .none .none .none .none .none .none 0
noncomputable def o973(P:R):Obj:=c [s "stmt_calls" 1581,s "stmt_calls" 1582,u 1583,i 905,i 1,i 0,i 0,i 3,r 968,.bool true,i 181,r 969,.none,r 970,r 971,r 972,i 1589,i 905,u 1590]
noncomputable def o974(P:R):Obj:=fn (.type "function") (stAt 111) (S "stmt_calls") 3 .none .none .none (s "gateloom.walks" 1467) (r 973) .none 0
noncomputable def o977(P:R):Obj:=tp [s "e" 1599,s "name" 1600,s "index" 1601]
noncomputable def o979(P:R):Obj:=fn .none (stAt 114) (S "last_select") 0 .none .none .none .none .none .none 0
noncomputable def o980(P:R):Obj:=c [s "last_select" 1596,s "last_select" 1597,u 1598,i 916,i 1,i 0,i 0,i 3,r 975,.bool true,i 181,r 976,.none,r 977,r 978,r 979,i 1602,i 916,u 1603]
noncomputable def o981(P:R):Obj:=fn (.type "function") (stAt 114) (S "last_select") 3 .none .none .none (s "gateloom.elabparts" 1592) (r 980) .none 0
noncomputable def o984(P:R):Obj:=tp [s "scope" 1608,s "entry" 1609]
noncomputable def o986(P:R):Obj:=fn .none (stAt 115) (S "is_memory") 0 .none .none .none .none .none .none 0
noncomputable def o987(P:R):Obj:=c [s "is_memory" 1605,s "is_memory" 1606,u 1607,i 921,i 2,i 0,i 0,i 3,r 982,.bool true,i 181,r 983,.none,r 984,r 985,r 986,i 1610,i 921,u 1611]
noncomputable def o988(P:R):Obj:=fn (.type "function") (stAt 115) (S "is_memory") 3 .none .none .none (s "gateloom.elabparts" 1592) (r 987) .none 0
noncomputable def o991(P:R):Obj:=tp [s "scope" 1616,s "entry" 1617,s "at" 1618,s "signal" 1619]
noncomputable def o993(P:R):Obj:=fn .none (stAt 116) (S "shape") 0 .none .none .none .none .none .none 0
noncomputable def o994(P:R):Obj:=c [s "shape" 1613,s "shape" 1614,u 1615,i 923,i 3,i 0,i 0,i 3,r 989,.bool true,i 181,r 990,.none,r 991,r 992,r 993,i 1620,i 923,u 1621]
noncomputable def o995(P:R):Obj:=fn (.type "function") (stAt 116) (S "shape") 3 .none .none .none (s "gateloom.elabparts" 1592) (r 994) .none 0
noncomputable def o998(P:R):Obj:=tp [s "scope" 1627,s "entry" 1628,s "word" 1629,s "width" 1630]
noncomputable def o1000(P:R):Obj:=fn .none (stAt 118) (S "read_entry") 0 .none .none .none .none .none .none 0
noncomputable def o1001(P:R):Obj:=c [s "read_entry" 1624,s "read_entry" 1625,u 1626,i 941,i 3,i 0,i 0,i 3,r 996,.bool true,i 181,r 997,.none,r 998,r 999,r 1000,i 1631,i 941,u 1632]
noncomputable def o1002(P:R):Obj:=fn (.type "function") (stAt 118) (S "read_entry") 3 .none .none .none (s "gateloom.elabparts" 1592) (r 1001) .none 0
noncomputable def o1005(P:R):Obj:=tp [s "e" 1637]
noncomputable def o1007(P:R):Obj:=fn .none (stAt 119) (S "folds") 0 .none .none .none .none .none .none 0
noncomputable def o1008(P:R):Obj:=c [s "folds" 1634,s "folds" 1635,u 1636,i 952,i 1,i 0,i 0,i 3,r 1003,.bool true,i 181,r 1004,.none,r 1005,r 1006,r 1007,i 1638,i 952,u 1639]
noncomputable def o1009(P:R):Obj:=fn (.type "function") (stAt 119) (S "folds") 3 .none .none .none (s "gateloom.elabparts" 1592) (r 1008) .none 0
noncomputable def o1012(P:R):Obj:=tp [s "e" 1644,s "part" 1645]
noncomputable def o1014(P:R):Obj:=fn .none (stAt 120) (S "folded") 0 .none .none .none .none .none .none 0
noncomputable def o1015(P:R):Obj:=c [s "folded" 1641,s "folded" 1642,u 1643,i 956,i 1,i 0,i 0,i 3,r 1010,.bool true,i 181,r 1011,.none,r 1012,r 1013,r 1014,i 1646,i 956,u 1647]
noncomputable def o1016(P:R):Obj:=fn (.type "function") (stAt 120) (S "folded") 3 .none .none .none (s "gateloom.elabparts" 1592) (r 1015) .none 0
noncomputable def o1019(P:R):Obj:=tp [s "width" 1652,s "at" 1653]
noncomputable def o1021(P:R):Obj:=fn .none (stAt 121) (S "checked_width") 0 .none .none .none .none .none .none 0
noncomputable def o1022(P:R):Obj:=c [s "checked_width" 1649,s "checked_width" 1650,u 1651,i 963,i 2,i 0,i 0,i 3,r 1017,.bool true,i 181,r 1018,.none,r 1019,r 1020,r 1021,i 1654,i 963,u 1655]
noncomputable def o1023(P:R):Obj:=fn (.type "function") (stAt 121) (S "checked_width") 3 .none .none .none (s "gateloom.elabparts" 1592) (r 1022) .none 0
noncomputable def o1026(P:R):Obj:=tp [s "value" 1660,s "width" 1661,s "where" 1662]
noncomputable def o1028(P:R):Obj:=fn .none (stAt 122) (S "selected") 0 .none .none .none .none .none .none 0
noncomputable def o1029(P:R):Obj:=c [s "selected" 1657,s "selected" 1658,u 1659,i 969,i 3,i 0,i 0,i 3,r 1024,.bool true,i 181,r 1025,.none,r 1026,r 1027,r 1028,i 1663,i 969,u 1664]
noncomputable def o1030(P:R):Obj:=fn (.type "function") (stAt 122) (S "selected") 3 .none .none .none (s "gateloom.elabparts" 1592) (r 1029) .none 0
noncomputable def o1033(P:R):Obj:=tp [s "text" 1669,s "value" 1670,s "sign" 1671]
noncomputable def o1035(P:R):Obj:=fn .none (stAt 123) (S "text_vec") 0 .none .none .none .none .none .none 0
noncomputable def o1036(P:R):Obj:=c [s "text_vec" 1666,s "text_vec" 1667,u 1668,i 973,i 1,i 0,i 0,i 3,r 1031,.bool true,i 181,r 1032,.none,r 1033,r 1034,r 1035,i 1672,i 973,u 1673]
noncomputable def o1037(P:R):Obj:=fn (.type "function") (stAt 123) (S "text_vec") 3 .none .none .none (s "gateloom.elabparts" 1592) (r 1036) .none 0
noncomputable def o1040(P:R):Obj:=tp [s "e" 1678]
noncomputable def o1042(P:R):Obj:=fn .none (stAt 124) (S "inner_join") 0 .none .none .none .none .none .none 0
noncomputable def o1043(P:R):Obj:=c [s "inner_join" 1675,s "inner_join" 1676,u 1677,i 978,i 1,i 0,i 0,i 3,r 1038,.bool true,i 181,r 1039,.none,r 1040,r 1041,r 1042,i 1679,i 978,u 1680]
noncomputable def o1044(P:R):Obj:=fn (.type "function") (stAt 124) (S "inner_join") 3 .none .none .none (s "gateloom.elabparts" 1592) (r 1043) .none 0
noncomputable def o1047(P:R):Obj:=tp [s "op" 1685]
noncomputable def o1049(P:R):Obj:=fn .none (stAt 125) (S "is_context_operator") 0 .none .none .none .none .none .none 0
noncomputable def o1050(P:R):Obj:=c [s "is_context_operator" 1682,s "is_context_operator" 1683,u 1684,i 980,i 1,i 0,i 0,i 3,r 1045,.bool true,i 181,r 1046,.none,r 1047,r 1048,r 1049,i 1686,i 980,u 1687]
noncomputable def o1051(P:R):Obj:=fn (.type "function") (stAt 125) (S "is_context_operator") 3 .none .none .none (s "gateloom.elabparts" 1592) (r 1050) .none 0
noncomputable def o1054(P:R):Obj:=tp [s "op" 1692]
noncomputable def o1056(P:R):Obj:=fn .none (stAt 126) (S "is_shift") 0 .none .none .none .none .none .none 0
noncomputable def o1057(P:R):Obj:=c [s "is_shift" 1689,s "is_shift" 1690,u 1691,i 982,i 1,i 0,i 0,i 3,r 1052,.bool true,i 181,r 1053,.none,r 1054,r 1055,r 1056,i 1693,i 982,u 1694]
noncomputable def o1058(P:R):Obj:=fn (.type "function") (stAt 126) (S "is_shift") 3 .none .none .none (s "gateloom.elabparts" 1592) (r 1057) .none 0
noncomputable def o1061(P:R):Obj:=tp [s "value" 1699,s "w" 1700,s "signed" 1701]
noncomputable def o1063(P:R):Obj:=fn .none (stAt 127) (S "widen") 0 .none .none .none .none .none .none 0
noncomputable def o1064(P:R):Obj:=c [s "widen" 1696,s "widen" 1697,u 1698,i 984,i 3,i 0,i 0,i 3,r 1059,.bool true,i 181,r 1060,.none,r 1061,r 1062,r 1063,i 1702,i 984,u 1703]
noncomputable def o1065(P:R):Obj:=fn (.type "function") (stAt 127) (S "widen") 3 .none .none .none (s "gateloom.elabparts" 1592) (r 1064) .none 0
noncomputable def o1068(P:R):Obj:=tp [s "e" 1708,s "w" 1709,s "signed" 1710,s "number" 1711,s "fill" 1712]
noncomputable def o1070(P:R):Obj:=fn .none (stAt 128) (S "number_value") 0 .none .none .none .none .none .none 0
noncomputable def o1071(P:R):Obj:=c [s "number_value" 1705,s "number_value" 1706,u 1707,i 988,i 3,i 0,i 0,i 3,r 1066,.bool true,i 181,r 1067,.none,r 1068,r 1069,r 1070,i 1713,i 988,u 1714]
noncomputable def o1072(P:R):Obj:=fn (.type "function") (stAt 128) (S "number_value") 3 .none .none .none (s "gateloom.elabparts" 1592) (r 1071) .none 0
noncomputable def o1075(P:R):Obj:=tp [s "node" 1719]
noncomputable def o1077(P:R):Obj:=fn .none (stAt 129) (S "is_changing") 0 .none .none .none .none .none .none 0
noncomputable def o1078(P:R):Obj:=c [s "is_changing" 1716,s "is_changing" 1717,u 1718,i 992,i 1,i 0,i 0,i 3,r 1073,.bool true,i 181,r 1074,.none,r 1075,r 1076,r 1077,i 1720,i 992,u 1721]
noncomputable def o1079(P:R):Obj:=fn (.type "function") (stAt 129) (S "is_changing") 3 .none .none .none (s "gateloom.elabparts" 1592) (r 1078) .none 0
noncomputable def o1082(P:R):Obj:=tp [s "body" 1726,s "s" 1727,s "e" 1728,s "node" 1729]
noncomputable def o1084(P:R):Obj:=fn .none (stAt 130) (S "asks_system") 0 .none .none .none .none .none .none 0
noncomputable def o1085(P:R):Obj:=c [s "asks_system" 1723,s "asks_system" 1724,u 1725,i 994,i 1,i 0,i 0,i 3,r 1080,.bool true,i 181,r 1081,.none,r 1082,r 1083,r 1084,i 1730,i 994,u 1731]
noncomputable def o1086(P:R):Obj:=fn (.type "function") (stAt 130) (S "asks_system") 3 .none .none .none (s "gateloom.elabparts" 1592) (r 1085) .none 0
noncomputable def o1089(P:R):Obj:=tp [s "design" 1736,s "e" 1737,s "node" 1738,s "numbers" 1739,s "seen" 1740,s "n" 1741,s "body" 1742]
noncomputable def o1091(P:R):Obj:=fn .none (stAt 131) (S "is_constant") 0 .none .none .none .none .none .none 0
noncomputable def o1092(P:R):Obj:=c [s "is_constant" 1733,s "is_constant" 1734,u 1735,i 1001,i 2,i 0,i 0,i 3,r 1087,.bool true,i 181,r 1088,.none,r 1089,r 1090,r 1091,i 1743,i 1001,u 1744]
noncomputable def o1093(P:R):Obj:=fn (.type "function") (stAt 131) (S "is_constant") 3 .none .none .none (s "gateloom.elabparts" 1592) (r 1092) .none 0
noncomputable def T9:Tt:=(k boot_o_0 (k boot_o_1 (k o3v9 (k boot_o_7 (k o11 (k o31 (k o63 (k o127 (k o11 (m o11 (l o1023)) (l o767)) (k o16 (l o639) (l o11))) (k o191v3 (k o16 (m o575 (l o11)) (l o831)) (k o447 (l o703) (l o959)))) (k o11 (k o159 (k o287 (m o11 (l o11)) (l o799)) (k o415 (l o671) (l o927))) (k o223 (k o351 (l o16) (l o11)) (k o479 (l o11) (l o991))))) (k o47 (k o79 (k o143 (k o271 (m o527 (l o16)) (l o783)) (k o11 (l o11) (l o911))) (k o195 (k o11 (l o591) (l o16)) (k o463 (l o16) (l o11)))) (k o11 (k o30 (k o303 (m o559 (l o1071)) (l o11)) (k o11 (l o687) (l o16))) (k o239 (k o367 (l o11) (l o879)) (k o16 (l o751) (l o1007)))))) (k o16 (k o11 (k o11 (k o11 (k o16 (m o519 (l o11)) (l o11)) (k o391 (l o647) (l o16))) (k o16 (k o327 (l o583) (l o11)) (k o11 (l o11) (l o967)))) (k o103 (k o167 (k o295 (m o16 (l o1063)) (l o807)) (k o423 (l o11) (l o11))) (k o231 (k o359 (l o615) (l o871)) (k o11 (l o743) (l o11))))) (k o55 (k o87 (k o151 (k o11 (m o535 (l o1047)) (l o791)) (k o407 (l o16) (l o11))) (k o215 (k o343 (l o11) (l o855)) (k o471 (l o727) (l o16)))) (k o16 (k o16 (k o11 (m o11 (l o1079)) (l o11)) (k o16 (l o695) (l o951))) (k o247 (k o30 (l o631) (l o887)) (k o503 (l o759) (l o1015))))))) (k o11 (k o19 (k o35 (k o11 (k o131 (k o259 (m o11 (l o11)) (l o771)) (k o387 (l o643) (l o899))) (k o195 (k o323 (m o16 (l o1091)) (l o835)) (k o451 (l o11) (l o963)))) (k o11 (k o11 (k o16 (m o547 (l o11)) (l o803)) (k o419 (l o675) (l o16))) (k o11 (k o355 (l o611) (l o11)) (k o11 (l o11) (l o995))))) (k o16 (k o83 (k o16 (k o275 (m o531 (l o1043)) (l o16)) (k o11 (l o659) (l o915))) (k o16 (k o11 (l o11) (l o851)) (k o16 (l o723) (l o979)))) (k o115 (k o179 (k o11 (m o563 (l o1075)) (l o819)) (k o435 (l o16) (l o11))) (k o243 (k o371 (l o11) (l o883)) (k o499 (l o755) (l o16)))))) (k o27 (k o11 (k o75 (k o11 (k o267 (m o16 (l o1035)) (l o11)) (k o395 (l o11) (l o907))) (k o203 (k o331 (l o587) (l o843)) (k o11 (l o715) (l o11)))) (k o107 (k o171 (k o299 (m o555 (l o16)) (l o11)) (k o11 (l o11) (l o939))) (k o16 (k o11 (l o619) (l o16)) (k o491 (l o16) (l o11))))) (k o59 (k o91 (k o155 (k o11 (m o11 (l o1051)) (l o795)) (k o411 (l o667) (l o11))) (k o11 (k o16 (l o603) (l o859)) (k o475 (l o731) (l o987)))) (k o123 (k o187 (k o315 (m o11 (l o11)) (l o11)) (k o443 (l o699) (l o16))) (k o11 (k o379 (l o16) (l o11)) (k o507 (l o763) (l o1019)))))))) (k boot_o_5 (k boot_o_9 (k o17 (k o33 (k o16 (k o129 (k o257 (m o513 (l o16)) (l o769)) (k o11 (l o11) (l o897))) (k o193 (k o11 (m o577 (l o1089)) (l o833)) (k o449 (l o16) (l o11)))) (k o97 (k o16 (k o289 (m o545 (l o1057)) (l o11)) (k o11 (l o673) (l o929))) (k o225 (k o11 (l o11) (l o865)) (k o16 (l o737) (l o993))))) (k o49 (k o81 (k o145 (k o273 (m o11 (l o11)) (l o785)) (k o401 (l o657) (l o913))) (k o209 (k o337 (l o16) (l o11)) (k o465 (l o11) (l o977)))) (k o113 (k o11 (k o16 (m o561 (l o11)) (l o817)) (k o433 (l o689) (l o945))) (k o11 (k o369 (l o625) (l o11)) (k o11 (l o11) (l o1009)))))) (k o11 (k o41 (k o73 (k o137 (k o11 (m o521 (l o1033)) (l o777)) (k o393 (l o16) (l o11))) (k o201 (k o329 (l o11) (l o841)) (k o457 (l o713) (l o16)))) (k o105 (k o169 (k o11 (m o11 (l o1065)) (l o16)) (k o16 (l o681) (l o937))) (k o233 (k o16 (l o617) (l o873)) (k o489 (l o745) (l o1001))))) (k o11 (k o89 (k o11 (k o281 (m o16 (l o1049)) (l o793)) (k o409 (l o11) (l o921))) (k o217 (k o345 (l o601) (l o857)) (k o11 (l o729) (l o11)))) (k o11 (k o11 (k o313 (m o569 (l o16)) (l o825)) (k o11 (l o11) (l o953))) (k o16 (k o11 (l o633) (l o16)) (k o505 (l o16) (l o11))))))) (k o13 (k o21 (k o16 (k o69 (k o16 (k o261 (m o517 (l o1029)) (l o16)) (k o11 (l o645) (l o901))) (k o197 (k o11 (m o11 (l o1093)) (l o837)) (k o16 (l o709) (l o965)))) (k o101 (k o165 (k o11 (m o549 (l o1061)) (l o805)) (k o421 (l o16) (l o933))) (k o229 (k o357 (l o11) (l o869)) (k o485 (l o741) (l o16))))) (k o11 (k o11 (k o11 (k o16 (m o533 (l o11)) (l o11)) (k o405 (l o661) (l o16))) (k o213 (k o341 (l o597) (l o11)) (k o11 (l o11) (l o981)))) (k o117 (k o181 (k o309 (m o16 (l o1077)) (l o16)) (k o437 (l o11) (l o949))) (k o245 (k o373 (l o629) (l o885)) (k o11 (l o757) (l o11)))))) (k o11 (k o45 (k o77 (k o141 (k o11 (m o11 (l o1037)) (l o781)) (k o16 (l o653) (l o11))) (k o205 (k o30 (l o589) (l o845)) (k o461 (l o717) (l o973)))) (k o109 (k o173 (k o301 (m o11 (l o11)) (l o813)) (k o429 (l o685) (l o941))) (k o11 (k o365 (l o16) (l o11)) (k o493 (l o11) (l o1005))))) (k o61 (k o16 (k o157 (k o285 (m o541 (l o16)) (l o797)) (k o413 (l o11) (l o925))) (k o221 (k o11 (l o605) (l o16)) (k o477 (l o16) (l o11)))) (k o11 (k o189 (k o317 (m o573 (l o1085)) (l o829)) (k o11 (l o701) (l o11))) (k o253 (k o381 (l o11) (l o893)) (k o16 (l o11) (l o1021))))))))) (k o2v2 (k boot_o_4 (k boot_o_8 (k o16 (k o11 (k o11 (k o11 (k o16 (m o512 (l o11)) (l o11)) (k o384 (l o640) (l o16))) (k o192 (k o320 (m o576 (l o16)) (l o832)) (k o11 (l o11) (l o960)))) (k o96 (k o11 (k o288 (m o16 (l o1056)) (l o800)) (k o416 (l o11) (l o928))) (k o224 (k o352 (l o608) (l o864)) (k o11 (l o736) (l o11))))) (k o48 (k o80 (k o144 (k o11 (m o528 (l o1040)) (l o784)) (k o400 (l o16) (l o11))) (k o30 (k o336 (l o11) (l o848)) (k o464 (l o720) (l o16)))) (k o30 (k o176 (k o11 (m o11 (l o1072)) (l o16)) (k o16 (l o688) (l o944))) (k o240 (k o368 (l o624) (l o880)) (k o496 (l o752) (l o1008)))))) (k o11 (k o40 (k o16 (k o136 (k o264 (m o520 (l o16)) (l o776)) (k o11 (l o11) (l o904))) (k o200 (k o11 (l o584) (l o16)) (k o456 (l o16) (l o11)))) (k o104 (k o168 (k o296 (m o552 (l o1064)) (l o11)) (k o11 (l o680) (l o16))) (k o232 (k o11 (l o11) (l o872)) (k o16 (l o744) (l o1000))))) (k o56 (k o11 (k o152 (k o280 (m o11 (l o11)) (l o792)) (k o408 (l o664) (l o920))) (k o216 (k o344 (l o16) (l o11)) (k o472 (l o11) (l o984)))) (k o120 (k o184 (k o16 (m o568 (l o11)) (l o824)) (k o440 (l o696) (l o952))) (k o11 (k o376 (l o632) (l o11)) (k o11 (l o11) (l o1016))))))) (k o12v9 (k o20 (k o11 (k o68 (k o11 (k o260 (m o16 (l o1028)) (l o11)) (k o388 (l o11) (l o900))) (k o30 (k o324 (m o580 (l o1092)) (l o836)) (k o11 (l o708) (l o11)))) (k o16 (k o164 (k o292 (m o548 (l o16)) (l o11)) (k o11 (l o11) (l o932))) (k o16 (k o11 (l o612) (l o16)) (k o484 (l o16) (l o11))))) (k o52 (k o84 (k o148 (k o11 (m o11 (l o1044)) (l o788)) (k o16 (l o660) (l o11))) (k o212 (k o16 (l o596) (l o852)) (k o468 (l o724) (l o980)))) (k o116 (k o180 (k o308 (m o11 (l o11)) (l o11)) (k o436 (l o692) (l o16))) (k o11 (k o372 (l o16) (l o11)) (k o500 (l o11) (l o1012)))))) (k o28 (k o16 (k o76 (k o16 (k o268 (m o524 (l o1036)) (l o16)) (k o11 (l o652) (l o908))) (k o204 (k o11 (l o11) (l o844)) (k o16 (l o716) (l o972)))) (k o108 (k o172 (k o11 (m o556 (l o1068)) (l o812)) (k o428 (l o16) (l o940))) (k o236 (k o364 (l o11) (l o876)) (k o492 (l o748) (l o16))))) (k o11 (k o11 (k o11 (k o16 (m o540 (l o11)) (l o11)) (k o412v8 (l o668) (l o16))) (k o16 (k o348 (l o604) (l o11)) (k o11 (l o11) (l o988)))) (k o124 (k o188 (k o316 (m o16 (l o1084)) (l o16)) (k o444 (l o11) (l o956))) (k o252 (k o380 (l o636) (l o892)) (k o11 (l o764) (l o11)))))))) (k boot_o_6 (k boot_o_10 (k o11 (k o34 (k o66 (k o130 (k o11 (m o514 (l o1026)) (l o770)) (k o386 (l o16) (l o11))) (k o194 (k o322 (m o11 (l o11)) (l o834)) (k o450 (l o706) (l o16)))) (k o98 (k o162 (k o11 (m o11 (l o1058)) (l o16)) (k o16 (l o674) (l o11))) (k o226 (k o16 (l o610) (l o866)) (k o482 (l o738) (l o994))))) (k o11 (k o82 (k o11 (k o274 (m o16 (l o1042)) (l o11)) (k o402 (l o11) (l o914))) (k o11 (k o338 (l o594) (l o850)) (k o11 (l o722) (l o11)))) (k o11 (k o178 (k o306 (m o562 (l o16)) (l o818)) (k o11 (l o11) (l o946))) (k o16 (k o370 (l o626) (l o16)) (k o498 (l o16) (l o11)))))) (k o26 (k o42 (k o11 (k o138 (k o266 (m o11 (l o11)) (l o778)) (k o394 (l o650) (l o906))) (k o11 (k o330 (l o16) (l o11)) (k o458 (l o11) (l o970)))) (k o106 (k o170 (k o16 (m o554 (l o11)) (l o810)) (k o426 (l o682) (l o11))) (k o11 (k o362 (l o618) (l o11)) (k o11 (l o11) (l o1002))))) (k o16 (k o90 (k o16 (k o282 (m o538 (l o1050)) (l o30)) (k o410 (l o666) (l o922))) (k o218 (k o11 (l o11) (l o858)) (k o16 (l o730) (l o986)))) (k o122 (k o186 (k o11 (m o570 (l o1082)) (l o826)) (k o442 (l o16) (l o11))) (k o250 (k o378 (l o11) (l o890)) (k o506 (l o762) (l o16))))))) (k o14 (k o11 (k o38 (k o70 (k o134 (k o11 (m o11 (l o1030)) (l o774)) (k o16 (l o646) (l o11))) (k o11 (k o16 (l o582) (l o838)) (k o454 (l o710) (l o966)))) (k o102 (k o166 (k o294 (m o11 (l o11)) (l o806)) (k o422 (l o678) (l o934))) (k o11 (k o358 (l o16) (l o11)) (k o486 (l o11) (l o998))))) (k o54 (k o30 (k o150 (k o278 (m o534 (l o16)) (l o790)) (k o11 (l o11) (l o918))) (k o11 (k o11 (l o598) (l o16)) (k o470 (l o16) (l o11)))) (k o11 (k o11 (k o310 (m o566 (l o1078)) (l o822)) (k o11 (l o694) (l o11))) (k o246 (k o11 (l o11) (l o886)) (k o16 (l o758) (l o1014)))))) (k o30 (k o11 (k o78 (k o11 (k o16 (m o526 (l o11)) (l o11)) (k o398 (l o654) (l o16))) (k o206 (k o334 (l o590) (l o11)) (k o11 (l o11) (l o974)))) (k o110 (k o174 (k o302 (m o16 (l o1070)) (l o814)) (k o430 (l o11) (l o11))) (k o238 (k o366 (l o622) (l o878)) (k o11 (l o750) (l o11))))) (k o62 (k o94 (k o158 (k o11 (m o542 (l o1054)) (l o798)) (k o414 (l o16) (l o11))) (k o11 (k o350 (l o11) (l o862)) (k o478 (l o734) (l o16)))) (k o16 (k o190 (k o11 (m o11 (l o1086)) (l o11)) (k o16 (l o702) (l o958))) (k o254 (k o11 (l o638) (l o894)) (k o510 (l o16) (l o1022))))))))))
noncomputable def o3v10(P:R):Obj:=dc (.type "dict") [en P "__name__" 165 (s "gateloom.elabexpr" 1746),en P "__doc__" 166 .none,en P "__package__" 167 .none,en P "__loader__" 168 (.builtin "__main__.__loader__#opaque"),en P "__spec__" 169 .none,en P "__annotations__" 170 (r 6),en P "__builtins__" 171 (r 4),en P "__file__" 173 (u 172),en P "__cached__" 174 .none,en P "_wall" 193 (r 21),en P "net_kinds" 201 (r 28),en P "Signal" 286 (r 80),en P "Routine" 338 (r 106),en P "Design" 440 (r 169),en P "GateloomError" 478 (r 191),en P "DesignError" 494 (r 204),en P "LimitReached" 510 (r 216),en P "mask" 519 (r 225),en P "vec" 530 (r 233),en P "zeros" 537 (r 240),en P "ones" 544 (r 247),en P "all_x" 552 (r 254),en P "all_z" 559 (r 261),en P "from_int" 567 (r 268),en P "is_known" 574 (r 275),en P "to_int" 585 (r 282),en P "code" 593 (r 289),en P "slice_vec" 609 (r 296),en P "put_slice" 625 (r 303),en P "concat" 636 (r 310),en P "extend" 649 (r 317),en P "z_to_x" 656 (r 324),en P "truth" 663 (r 331),en P "Store" 732 (r 369),en P "Context" 791 (r 412),en P "add" 801 (r 423),en P "sub" 809 (r 430),en P "mul" 817 (r 437),en P "neg" 824 (r 444),en P "quotient" 833 (r 451),en P "div" 844 (r 458),en P "mod" 855 (r 465),en P "raise_whole" 868 (r 472),en P "power" 881 (r 479),en P "shift_left" 891 (r 486),en P "shift_right" 900 (r 493),en P "shift_arith" 915 (r 500),en P "ordered" 926 (r 507),en P "less" 936 (r 514),en P "less_equal" 946 (r 521),en P "greater" 955 (r 528),en P "greater_equal" 964 (r 535),en P "one_bit" 973 (r 542),en P "bit_not" 983 (r 549),en P "bit_and" 997 (r 556),en P "bit_or" 1012 (r 563),en P "bit_xor" 1021 (r 570),en P "bit_xnor" 1029 (r 577),en P "reduce_and" 1039 (r 584),en P "reduce_nand" 1046 (r 591),en P "reduce_or" 1053 (r 598),en P "reduce_nor" 1060 (r 605),en P "reduce_xor" 1069 (r 612),en P "reduce_xnor" 1076 (r 619),en P "logic_not" 1083 (r 626),en P "logic_and" 1091 (r 633),en P "logic_or" 1099 (r 640),en P "equal" 1108 (r 647),en P "not_equal" 1116 (r 654),en P "case_equal" 1124 (r 661),en P "case_not_equal" 1132 (r 668),en P "matches" 1143 (r 675),en P "choose" 1156 (r 682),en P "unary" 1166 (r 689),en P "arithmetic" 1176 (r 696),en P "comparison" 1186 (r 703),en P "bitwise" 1195 (r 710),en P "binary" 1206 (r 717),en P "whole_of" 1215 (r 724),en P "memory_word" 1225 (r 731),en P "picked" 1235 (r 738),en P "conditional" 1245 (r 745),en P "bits_needed" 1253 (r 752),en P "system_value" 1264 (r 1170),en P "system_value_evaluate" 1265 (r 759),en P "evaluate" 1271 (r 764),en P "locate" 1280 (r 771),en P "holder_width" 1288 (r 778),en P "resolve_target" 1307 (r 785),en P "store_rows" 1324 (r 792),en P "DEPTH_LIMIT" 1328 (.int 24 1327),en P "FunctionContext" 1395 (r 836),en P "run_block" 1405 (r 845),en P "run_set" 1415 (r 852),en P "run_case" 1428 (r 859),en P "run_while" 1439 (r 866),en P "run_repeat" 1449 (r 873),en P "run_for" 1457 (r 880),en P "run_statement" 1466 (r 887),en P "children" 1476 (r 894),en P "subexpressions" 1487 (r 901),en P "expr_reads" 1496 (r 908),en P "expr_calls" 1505 (r 915),en P "target_indexes" 1514 (r 922),en P "target_writes" 1523 (r 929),en P "stmt_parts" 1529 (r 934),en P "substatements" 1540 (r 941),en P "stmt_targets" 1546 (r 946),en P "stmt_exprs" 1558 (r 953),en P "stmt_reads" 1569 (r 960),en P "stmt_writes" 1580 (r 967),en P "stmt_calls" 1591 (r 974),en P "MAX_WIDTH" 1595 (.int 65536 1594),en P "last_select" 1604 (r 981),en P "is_memory" 1612 (r 988),en P "shape" 1622 (r 995),en P "shape_elabparts" 1623 (r 995),en P "read_entry" 1633 (r 1002),en P "folds" 1640 (r 1009),en P "folded" 1648 (r 1016),en P "checked_width" 1656 (r 1023),en P "selected" 1665 (r 1030),en P "text_vec" 1674 (r 1037),en P "inner_join" 1681 (r 1044),en P "is_context_operator" 1688 (r 1051),en P "is_shift" 1695 (r 1058),en P "widen" 1704 (r 1065),en P "number_value" 1715 (r 1072),en P "is_changing" 1722 (r 1079),en P "asks_system" 1732 (r 1086),en P "is_constant" 1745 (r 1093),en P "MOST_NESTING" 1749 (.int 8 1748),en P "path_names" 1760 (r 1100),en P "entry_of" 1769 (r 1107),en P "base_entry" 1779 (r 1114),en P "select_width" 1787 (r 1121),en P "select_where" 1805 (r 1128),en P "named_type" 1815 (r 1135),en P "named_value" 1828 (r 1142),en P "function_of" 1838 (r 1149),en P "call_value" 1850 (r 1156),en P "system_type" 1860 (r 1163),en P "system_value_elabexpr" 1872 (r 1170),en P "joined_parts" 1882 (r 1177),en P "copies" 1891 (r 1184),en P "joined_width" 1901 (r 1191),en P "joined_value" 1912 (r 1198),en P "both_types" 1923 (r 1205),en P "expr_type" 1933 (r 1212),en P "unary_value" 1944 (r 1219),en P "binary_value" 1960 (r 1226),en P "build" 1974 (r 1233),en P "self_determined" 1984 (r 1240),en P "sized" 1995 (r 1247),en P "constant_vec" 2005 (r 1254)] 155
noncomputable def o12v10(P:R):Obj:=fl .none (L12.take 423)
noncomputable def o1096(P:R):Obj:=tp [s "scope" 1753,s "e" 1754,s "names" 1755,s "name" 1756,s "index" 1757]
noncomputable def o1098(P:R):Obj:=fn .none (stAt 134) (S "path_names") 0 .none .none .none .none .none .none 0
noncomputable def o1099(P:R):Obj:=c [s "path_names" 1750,s "path_names" 1751,u 1752,i 1020,i 2,i 0,i 0,i 3,r 1094,.bool true,i 181,r 1095,.none,r 1096,r 1097,r 1098,i 1758,i 1020,u 1759]
noncomputable def o1100(P:R):Obj:=fn (.type "function") (stAt 134) (S "path_names") 3 .none .none .none (s "gateloom.elabexpr" 1746) (r 1099) .none 0
noncomputable def o1103(P:R):Obj:=tp [s "scope" 1764,s "e" 1765,s "entry" 1766]
noncomputable def o1105(P:R):Obj:=fn .none (stAt 135) (S "entry_of") 0 .none .none .none .none .none .none 0
noncomputable def o1106(P:R):Obj:=c [s "entry_of" 1761,s "entry_of" 1762,u 1763,i 1027,i 2,i 0,i 0,i 3,r 1101,.bool true,i 181,r 1102,.none,r 1103,r 1104,r 1105,i 1767,i 1027,u 1768]
noncomputable def o1107(P:R):Obj:=fn (.type "function") (stAt 135) (S "entry_of") 3 .none .none .none (s "gateloom.elabexpr" 1746) (r 1106) .none 0
noncomputable def o1110(P:R):Obj:=tp [s "scope" 1773,s "e" 1774,s "entry" 1775,s "inner" 1776]
noncomputable def o1112(P:R):Obj:=fn .none (stAt 136) (S "base_entry") 0 .none .none .none .none .none .none 0
noncomputable def o1113(P:R):Obj:=c [s "base_entry" 1770,s "base_entry" 1771,u 1772,i 1034,i 2,i 0,i 0,i 3,r 1108,.bool true,i 181,r 1109,.none,r 1110,r 1111,r 1112,i 1777,i 1034,u 1778]
noncomputable def o1114(P:R):Obj:=fn (.type "function") (stAt 136) (S "base_entry") 3 .none .none .none (s "gateloom.elabexpr" 1746) (r 1113) .none 0
noncomputable def o1117(P:R):Obj:=tp [s "scope" 1783,s "e" 1784]
noncomputable def o1119(P:R):Obj:=fn .none (stAt 137) (S "select_width") 0 .none .none .none .none .none .none 0
noncomputable def o1120(P:R):Obj:=c [s "select_width" 1780,s "select_width" 1781,u 1782,i 1044,i 2,i 0,i 0,i 3,r 1115,.bool true,i 181,r 1116,.none,r 1117,r 1118,r 1119,i 1785,i 1044,u 1786]
noncomputable def o1121(P:R):Obj:=fn (.type "function") (stAt 137) (S "select_width") 3 .none .none .none (s "gateloom.elabexpr" 1746) (r 1120) .none 0
noncomputable def o1124(P:R):Obj:=tp [s "scope" 1791,s "e" 1792,s "form" 1793,s "msb" 1794,s "lsb" 1795,s "step" 1796,s "left" 1797,s "right" 1798,s "width" 1799,s "base" 1800,s "index" 1801,s "signed" 1802]
noncomputable def o1126(P:R):Obj:=fn .none (stAt 138) (S "select_where") 0 .none .none .none .none .none .none 0
noncomputable def o1127(P:R):Obj:=c [s "select_where" 1788,s "select_where" 1789,u 1790,i 1050,i 3,i 0,i 0,i 3,r 1122,.bool true,i 181,r 1123,.none,r 1124,r 1125,r 1126,i 1803,i 1050,u 1804]
noncomputable def o1128(P:R):Obj:=fn (.type "function") (stAt 138) (S "select_where") 3 .none .none .none (s "gateloom.elabexpr" 1746) (r 1127) .none 0
noncomputable def o1131(P:R):Obj:=tp [s "scope" 1809,s "e" 1810,s "entry" 1811,s "inner" 1812]
noncomputable def o1133(P:R):Obj:=fn .none (stAt 139) (S "named_type") 0 .none .none .none .none .none .none 0
noncomputable def o1134(P:R):Obj:=c [s "named_type" 1806,s "named_type" 1807,u 1808,i 1072,i 2,i 0,i 0,i 3,r 1129,.bool true,i 181,r 1130,.none,r 1131,r 1132,r 1133,i 1813,i 1072,u 1814]
noncomputable def o1135(P:R):Obj:=fn (.type "function") (stAt 139) (S "named_type") 3 .none .none .none (s "gateloom.elabexpr" 1746) (r 1134) .none 0
noncomputable def o1138(P:R):Obj:=tp [s "scope" 1819,s "e" 1820,s "entry" 1821,s "inner" 1822,s "form" 1823,s "word" 1824,s "where" 1825]
noncomputable def o1140(P:R):Obj:=fn .none (stAt 140) (S "named_value") 0 .none .none .none .none .none .none 0
noncomputable def o1141(P:R):Obj:=c [s "named_value" 1816,s "named_value" 1817,u 1818,i 1085,i 2,i 0,i 0,i 3,r 1136,.bool true,i 181,r 1137,.none,r 1138,r 1139,r 1140,i 1826,i 1085,u 1827]
noncomputable def o1142(P:R):Obj:=fn (.type "function") (stAt 140) (S "named_value") 3 .none .none .none (s "gateloom.elabexpr" 1746) (r 1141) .none 0
noncomputable def o1145(P:R):Obj:=tp [s "scope" 1832,s "e" 1833,s "entry" 1834,s "routine" 1835]
noncomputable def o1147(P:R):Obj:=fn .none (stAt 141) (S "function_of") 0 .none .none .none .none .none .none 0
noncomputable def o1148(P:R):Obj:=c [s "function_of" 1829,s "function_of" 1830,u 1831,i 1104,i 2,i 0,i 0,i 3,r 1143,.bool true,i 181,r 1144,.none,r 1145,r 1146,r 1147,i 1836,i 1104,u 1837]
noncomputable def o1149(P:R):Obj:=fn (.type "function") (stAt 141) (S "function_of") 3 .none .none .none (s "gateloom.elabexpr" 1746) (r 1148) .none 0
noncomputable def o1152(P:R):Obj:=tp [s "scope" 1842,s "e" 1843,s "routine" 1844,s "args" 1845,s "at" 1846,s "port" 1847]
noncomputable def o1154(P:R):Obj:=fn .none (stAt 142) (S "call_value") 0 .none .none .none .none .none .none 0
noncomputable def o1155(P:R):Obj:=c [s "call_value" 1839,s "call_value" 1840,u 1841,i 1116,i 2,i 0,i 0,i 3,r 1150,.bool true,i 181,r 1151,.none,r 1152,r 1153,r 1154,i 1848,i 1116,u 1849]
noncomputable def o1156(P:R):Obj:=fn (.type "function") (stAt 142) (S "call_value") 3 .none .none .none (s "gateloom.elabexpr" 1746) (r 1155) .none 0
noncomputable def o1159(P:R):Obj:=tp [s "scope" 1854,s "e" 1855,s "name" 1856,s "count" 1857]
noncomputable def o1161(P:R):Obj:=fn .none (stAt 143) (S "system_type") 0 .none .none .none .none .none .none 0
noncomputable def o1162(P:R):Obj:=c [s "system_type" 1851,s "system_type" 1852,u 1853,i 1124,i 2,i 0,i 0,i 3,r 1157,.bool true,i 181,r 1158,.none,r 1159,r 1160,r 1161,i 1858,i 1124,u 1859]
noncomputable def o1163(P:R):Obj:=fn (.type "function") (stAt 143) (S "system_type") 3 .none .none .none (s "gateloom.elabexpr" 1746) (r 1162) .none 0
noncomputable def o1166(P:R):Obj:=tp [s "scope" 1864,s "e" 1865,s "width" 1866,s "args" 1867,s "arg" 1868]
noncomputable def o1168(P:R):Obj:=fn .none (stAt 144) (S "system_value") 0 .none .none .none .none .none .none 0
noncomputable def o1169(P:R):Obj:=c [s "system_value" 1861,s "system_value" 1862,u 1863,i 1142,i 2,i 0,i 0,i 3,r 1164,.bool true,i 181,r 1165,.none,r 1166,r 1167,r 1168,i 1869,i 1142,u 1870]
noncomputable def o1170(P:R):Obj:=fn (.type "function") (stAt 144) (S "system_value") 3 .none .none .none (s "gateloom.elabexpr" 1746) (r 1169) .none 0
noncomputable def o1173(P:R):Obj:=tp [s "scope" 1876,s "e" 1877,s "parts" 1878,s "part" 1879]
noncomputable def o1175(P:R):Obj:=fn .none (stAt 146) (S "joined_parts") 0 .none .none .none .none .none .none 0
noncomputable def o1176(P:R):Obj:=c [s "joined_parts" 1873,s "joined_parts" 1874,u 1875,i 1151,i 2,i 0,i 0,i 3,r 1171,.bool true,i 181,r 1172,.none,r 1173,r 1174,r 1175,i 1880,i 1151,u 1881]
noncomputable def o1177(P:R):Obj:=fn (.type "function") (stAt 146) (S "joined_parts") 3 .none .none .none (s "gateloom.elabexpr" 1746) (r 1176) .none 0
noncomputable def o1180(P:R):Obj:=tp [s "scope" 1886,s "e" 1887,s "n" 1888]
noncomputable def o1182(P:R):Obj:=fn .none (stAt 147) (S "copies") 0 .none .none .none .none .none .none 0
noncomputable def o1183(P:R):Obj:=c [s "copies" 1883,s "copies" 1884,u 1885,i 1161,i 2,i 0,i 0,i 3,r 1178,.bool true,i 181,r 1179,.none,r 1180,r 1181,r 1182,i 1889,i 1161,u 1890]
noncomputable def o1184(P:R):Obj:=fn (.type "function") (stAt 147) (S "copies") 3 .none .none .none (s "gateloom.elabexpr" 1746) (r 1183) .none 0
noncomputable def o1187(P:R):Obj:=tp [s "scope" 1895,s "e" 1896,s "width" 1897,s "part" 1898]
noncomputable def o1189(P:R):Obj:=fn .none (stAt 148) (S "joined_width") 0 .none .none .none .none .none .none 0
noncomputable def o1190(P:R):Obj:=c [s "joined_width" 1892,s "joined_width" 1893,u 1894,i 1166,i 2,i 0,i 0,i 3,r 1185,.bool true,i 181,r 1186,.none,r 1187,r 1188,r 1189,i 1899,i 1166,u 1900]
noncomputable def o1191(P:R):Obj:=fn (.type "function") (stAt 148) (S "joined_width") 3 .none .none .none (s "gateloom.elabexpr" 1746) (r 1190) .none 0
noncomputable def o1194(P:R):Obj:=tp [s "scope" 1905,s "e" 1906,s "width" 1907,s "parts" 1908,s "part" 1909]
noncomputable def o1196(P:R):Obj:=fn .none (stAt 149) (S "joined_value") 0 .none .none .none .none .none .none 0
noncomputable def o1197(P:R):Obj:=c [s "joined_value" 1902,s "joined_value" 1903,u 1904,i 1173,i 2,i 0,i 0,i 3,r 1192,.bool true,i 181,r 1193,.none,r 1194,r 1195,r 1196,i 1910,i 1173,u 1911]
noncomputable def o1198(P:R):Obj:=fn (.type "function") (stAt 149) (S "joined_value") 3 .none .none .none (s "gateloom.elabexpr" 1746) (r 1197) .none 0
noncomputable def o1201(P:R):Obj:=tp [s "scope" 1916,s "left" 1917,s "right" 1918,s "one" 1919,s "other" 1920]
noncomputable def o1203(P:R):Obj:=fn .none (stAt 150) (S "both_types") 0 .none .none .none .none .none .none 0
noncomputable def o1204(P:R):Obj:=c [s "both_types" 1913,s "both_types" 1914,u 1915,i 1181,i 3,i 0,i 0,i 3,r 1199,.bool true,i 181,r 1200,.none,r 1201,r 1202,r 1203,i 1921,i 1181,u 1922]
noncomputable def o1205(P:R):Obj:=fn (.type "function") (stAt 150) (S "both_types") 3 .none .none .none (s "gateloom.elabexpr" 1746) (r 1204) .none 0
noncomputable def o1208(P:R):Obj:=tp [s "scope" 1927,s "e" 1928,s "tag" 1929,s "routine" 1930]
noncomputable def o1210(P:R):Obj:=fn .none (stAt 151) (S "expr_type") 0 .none .none .none .none .none .none 0
noncomputable def o1211(P:R):Obj:=c [s "expr_type" 1924,s "expr_type" 1925,u 1926,i 1185,i 2,i 0,i 0,i 3,r 1206,.bool true,i 181,r 1207,.none,r 1208,r 1209,r 1210,i 1931,i 1185,u 1932]
noncomputable def o1212(P:R):Obj:=fn (.type "function") (stAt 151) (S "expr_type") 3 .none .none .none (s "gateloom.elabexpr" 1746) (r 1211) .none 0
noncomputable def o1215(P:R):Obj:=tp [s "scope" 1937,s "e" 1938,s "w" 1939,s "signed" 1940,s "op" 1941]
noncomputable def o1217(P:R):Obj:=fn .none (stAt 152) (S "unary_value") 0 .none .none .none .none .none .none 0
noncomputable def o1218(P:R):Obj:=c [s "unary_value" 1934,s "unary_value" 1935,u 1936,i 1213,i 4,i 0,i 0,i 3,r 1213,.bool true,i 181,r 1214,.none,r 1215,r 1216,r 1217,i 1942,i 1213,u 1943]
noncomputable def o1219(P:R):Obj:=fn (.type "function") (stAt 152) (S "unary_value") 3 .none .none .none (s "gateloom.elabexpr" 1746) (r 1218) .none 0
noncomputable def o1222(P:R):Obj:=tp [s "scope" 1948,s "e" 1949,s "w" 1950,s "signed" 1951,s "op" 1952,s "left" 1953,s "right" 1954,s "right_signed" 1955,s "width" 1956,s "both" 1957]
noncomputable def o1224(P:R):Obj:=fn .none (stAt 153) (S "binary_value") 0 .none .none .none .none .none .none 0
noncomputable def o1225(P:R):Obj:=c [s "binary_value" 1945,s "binary_value" 1946,u 1947,i 1220,i 4,i 0,i 0,i 3,r 1220,.bool true,i 181,r 1221,.none,r 1222,r 1223,r 1224,i 1958,i 1220,u 1959]
noncomputable def o1226(P:R):Obj:=fn (.type "function") (stAt 153) (S "binary_value") 3 .none .none .none (s "gateloom.elabexpr" 1746) (r 1225) .none 0
noncomputable def o1229(P:R):Obj:=tp [s "scope" 1964,s "e" 1965,s "w" 1966,s "signed" 1967,s "tag" 1968,s "test" 1969,s "then" 1970,s "value" 1971]
noncomputable def o1231(P:R):Obj:=fn .none (stAt 154) (S "build") 0 .none .none .none .none .none .none 0
noncomputable def o1232(P:R):Obj:=c [s "build" 1961,s "build" 1962,u 1963,i 1239,i 4,i 0,i 0,i 3,r 1227,.bool true,i 181,r 1228,.none,r 1229,r 1230,r 1231,i 1972,i 1239,u 1973]
noncomputable def o1233(P:R):Obj:=fn (.type "function") (stAt 154) (S "build") 3 .none .none .none (s "gateloom.elabexpr" 1746) (r 1232) .none 0
noncomputable def o1236(P:R):Obj:=tp [s "scope" 1978,s "e" 1979,s "width" 1980,s "signed" 1981]
noncomputable def o1238(P:R):Obj:=fn .none (stAt 155) (S "self_determined") 0 .none .none .none .none .none .none 0
noncomputable def o1239(P:R):Obj:=c [s "self_determined" 1975,s "self_determined" 1976,u 1977,i 1262,i 2,i 0,i 0,i 3,r 1234,.bool true,i 181,r 1235,.none,r 1236,r 1237,r 1238,i 1982,i 1262,u 1983]
noncomputable def o1240(P:R):Obj:=fn (.type "function") (stAt 155) (S "self_determined") 3 .none .none .none (s "gateloom.elabexpr" 1746) (r 1239) .none 0
noncomputable def o1243(P:R):Obj:=tp [s "scope" 1988,s "e" 1989,s "w" 1990,s "width" 1991,s "signed" 1992]
noncomputable def o1245(P:R):Obj:=fn .none (stAt 156) (S "sized") 0 .none .none .none .none .none .none 0
noncomputable def o1246(P:R):Obj:=c [s "sized" 1985,s "sized" 1986,u 1987,i 1265,i 3,i 0,i 0,i 3,r 1241,.bool true,i 181,r 1242,.none,r 1243,r 1244,r 1245,i 1993,i 1265,u 1994]
noncomputable def o1247(P:R):Obj:=fn (.type "function") (stAt 156) (S "sized") 3 .none .none .none (s "gateloom.elabexpr" 1746) (r 1246) .none 0
noncomputable def o1250(P:R):Obj:=tp [s "scope" 1999,s "value" 2000,s "at" 2001,s "store" 2002]
noncomputable def o1252(P:R):Obj:=fn .none (stAt 157) (S "constant_vec") 0 .none .none .none .none .none .none 0
noncomputable def o1253(P:R):Obj:=c [s "constant_vec" 1996,s "constant_vec" 1997,u 1998,i 1268,i 3,i 0,i 0,i 3,r 1248,.bool true,i 181,r 1249,.none,r 1250,r 1251,r 1252,i 2003,i 1268,u 2004]
noncomputable def o1254(P:R):Obj:=fn (.type "function") (stAt 157) (S "constant_vec") 3 .none .none .none (s "gateloom.elabexpr" 1746) (r 1253) .none 0
noncomputable def T10:Tt:=(k boot_o_0 (k boot_o_1 (k o3v10 (k boot_o_7 (k o11 (k o31 (k o63 (k o127 (k o11 (m o11 (l o1023)) (l o767)) (k o16 (m o639 (l o16)) (l o11))) (k o191v3 (k o16 (m o575 (l o11)) (l o831)) (k o447 (m o703 (l o1215)) (l o959)))) (k o11 (k o159 (k o287 (m o11 (l o11)) (l o799)) (k o415 (m o671 (l o1183)) (l o927))) (k o223 (k o351 (m o16 (l o1119)) (l o11)) (k o479 (m o11 (l o1247)) (l o991))))) (k o47 (k o79 (k o143 (k o271 (m o527 (l o16)) (l o783)) (k o11 (m o11 (l o11)) (l o911))) (k o195 (k o11 (m o591 (l o1103)) (l o16)) (k o463 (m o16 (l o1231)) (l o11)))) (k o11 (k o30 (k o303 (m o559 (l o1071)) (l o11)) (k o11 (m o687 (l o11)) (l o16))) (k o239 (k o367 (m o11 (l o1135)) (l o879)) (k o16 (l o751) (l o1007)))))) (k o16 (k o11 (k o11 (k o11 (k o16 (m o519 (l o11)) (l o11)) (k o391 (m o647 (l o1159)) (l o16))) (k o16 (k o327 (m o583 (l o16)) (l o11)) (k o11 (m o11 (l o11)) (l o967)))) (k o103 (k o167 (k o295 (m o16 (l o1063)) (l o807)) (k o423 (m o11 (l o1191)) (l o11))) (k o231 (k o359 (m o615 (l o1127)) (l o871)) (k o11 (l o743) (l o11))))) (k o55 (k o87 (k o151 (k o11 (m o535 (l o1047)) (l o791)) (k o407 (m o16 (l o1175)) (l o11))) (k o215 (k o343 (m o11 (l o11)) (l o855)) (k o471 (m o727 (l o1239)) (l o16)))) (k o16 (k o16 (k o11 (m o11 (l o1079)) (l o11)) (k o16 (m o695 (l o16)) (l o951))) (k o247 (k o30 (m o631 (l o11)) (l o887)) (k o503 (l o759) (l o1015))))))) (k o11 (k o19 (k o35 (k o11 (k o131 (k o259 (m o11 (l o11)) (l o771)) (k o387 (m o643 (l o1155)) (l o899))) (k o195 (k o323 (m o16 (l o1091)) (l o835)) (k o451 (m o11 (l o1219)) (l o963)))) (k o11 (k o11 (k o16 (m o547 (l o11)) (l o803)) (k o419 (m o675 (l o1187)) (l o16))) (k o11 (k o355 (m o611 (l o16)) (l o11)) (k o11 (m o11 (l o11)) (l o995))))) (k o16 (k o83 (k o16 (k o275 (m o531 (l o1043)) (l o16)) (k o11 (m o659 (l o11)) (l o915))) (k o16 (k o11 (m o11 (l o1107)) (l o851)) (k o16 (m o723 (l o16)) (l o979)))) (k o115 (k o179 (k o11 (m o563 (l o1075)) (l o819)) (k o435 (m o16 (l o1203)) (l o11))) (k o243 (k o371 (m o11 (l o11)) (l o883)) (k o499 (l o755) (l o16)))))) (k o27 (k o11 (k o75 (k o11 (k o267 (m o16 (l o1035)) (l o11)) (k o395 (m o11 (l o1163)) (l o907))) (k o203 (k o331 (m o587 (l o1099)) (l o843)) (k o11 (m o715 (l o11)) (l o11)))) (k o107 (k o171 (k o299 (m o555 (l o16)) (l o11)) (k o11 (m o11 (l o11)) (l o939))) (k o16 (k o11 (m o619 (l o1131)) (l o16)) (k o491 (l o16) (l o11))))) (k o59 (k o91 (k o155 (k o11 (m o11 (l o1051)) (l o795)) (k o411 (m o667 (l o16)) (l o11))) (k o11 (k o16 (m o603 (l o11)) (l o859)) (k o475 (m o731 (l o1243)) (l o987)))) (k o123 (k o187 (k o315 (m o11 (l o11)) (l o11)) (k o443 (m o699 (l o1211)) (l o16))) (k o11 (k o379 (m o16 (l o1147)) (l o11)) (k o507 (l o763) (l o1019)))))))) (k boot_o_5 (k boot_o_9 (k o17 (k o33 (k o16 (k o129 (k o257 (m o513 (l o16)) (l o769)) (k o11 (m o11 (l o11)) (l o897))) (k o193 (k o11 (m o577 (l o1089)) (l o833)) (k o449 (m o16 (l o1217)) (l o11)))) (k o97 (k o16 (k o289 (m o545 (l o1057)) (l o11)) (k o11 (m o673 (l o11)) (l o929))) (k o225 (k o11 (m o11 (l o1121)) (l o865)) (k o16 (m o737 (l o16)) (l o993))))) (k o49 (k o81 (k o145 (k o273 (m o11 (l o11)) (l o785)) (k o401 (m o657 (l o1169)) (l o913))) (k o209 (k o337 (m o16 (l o1105)) (l o11)) (k o465 (m o11 (l o1233)) (l o977)))) (k o113 (k o11 (k o16 (m o561 (l o11)) (l o817)) (k o433 (m o689 (l o1201)) (l o945))) (k o11 (k o369 (m o625 (l o16)) (l o11)) (k o11 (l o11) (l o1009)))))) (k o11 (k o41 (k o73 (k o137 (k o11 (m o521 (l o1033)) (l o777)) (k o393 (m o16 (l o1161)) (l o11))) (k o201 (k o329 (m o11 (l o11)) (l o841)) (k o457 (m o713 (l o1225)) (l o16)))) (k o105 (k o169 (k o11 (m o11 (l o1065)) (l o16)) (k o16 (m o681 (l o16)) (l o937))) (k o233 (k o16 (m o617 (l o11)) (l o873)) (k o489 (l o745) (l o1001))))) (k o11 (k o89 (k o11 (k o281 (m o16 (l o1049)) (l o793)) (k o409 (m o11 (l o1177)) (l o921))) (k o217 (k o345 (m o601 (l o1113)) (l o857)) (k o11 (m o729 (l o11)) (l o11)))) (k o11 (k o11 (k o313 (m o569 (l o16)) (l o825)) (k o11 (m o11 (l o11)) (l o953))) (k o16 (k o11 (m o633 (l o1145)) (l o16)) (k o505 (l o16) (l o11))))))) (k o13 (k o21 (k o16 (k o69 (k o16 (k o261 (m o517 (l o1029)) (l o16)) (k o11 (m o645 (l o11)) (l o901))) (k o197 (k o11 (m o11 (l o1093)) (l o837)) (k o16 (m o709 (l o16)) (l o965)))) (k o101 (k o165 (k o11 (m o549 (l o1061)) (l o805)) (k o421 (m o16 (l o1189)) (l o933))) (k o229 (k o357 (m o11 (l o11)) (l o869)) (k o485 (m o741 (l o1253)) (l o16))))) (k o11 (k o11 (k o11 (k o16 (m o533 (l o11)) (l o11)) (k o405 (m o661 (l o1173)) (l o16))) (k o213 (k o341 (m o597 (l o16)) (l o11)) (k o11 (m o11 (l o11)) (l o981)))) (k o117 (k o181 (k o309 (m o16 (l o1077)) (l o16)) (k o437 (m o11 (l o1205)) (l o949))) (k o245 (k o373 (m o629 (l o1141)) (l o885)) (k o11 (l o757) (l o11)))))) (k o11 (k o45 (k o77 (k o141 (k o11 (m o11 (l o1037)) (l o781)) (k o16 (m o653 (l o16)) (l o11))) (k o205 (k o30 (m o589 (l o11)) (l o845)) (k o461 (m o717 (l o1229)) (l o973)))) (k o109 (k o173 (k o301 (m o11 (l o11)) (l o813)) (k o429 (m o685 (l o1197)) (l o941))) (k o11 (k o365 (m o16 (l o1133)) (l o11)) (k o493 (l o11) (l o1005))))) (k o61 (k o16 (k o157 (k o285 (m o541 (l o16)) (l o797)) (k o413 (m o11 (l o11)) (l o925))) (k o221 (k o11 (m o605 (l o1117)) (l o16)) (k o477 (m o16 (l o1245)) (l o11)))) (k o11 (k o189 (k o317 (m o573 (l o1085)) (l o829)) (k o11 (m o701 (l o11)) (l o11))) (k o253 (k o381 (m o11 (l o1149)) (l o893)) (k o16 (l o11) (l o1021))))))))) (k o2v2 (k boot_o_4 (k boot_o_8 (k o16 (k o11 (k o11 (k o11 (k o16 (m o512 (l o11)) (l o11)) (k o384 (m o640 (l o1152)) (l o16))) (k o192 (k o320 (m o576 (l o16)) (l o832)) (k o11 (m o11 (l o11)) (l o960)))) (k o96 (k o11 (k o288 (m o16 (l o1056)) (l o800)) (k o416 (m o11 (l o1184)) (l o928))) (k o224 (k o352 (m o608 (l o1120)) (l o864)) (k o11 (m o736 (l o11)) (l o11))))) (k o48 (k o80 (k o144 (k o11 (m o528 (l o1040)) (l o784)) (k o400 (m o16 (l o1168)) (l o11))) (k o30 (k o336 (m o11 (l o11)) (l o848)) (k o464 (m o720 (l o1232)) (l o16)))) (k o30 (k o176 (k o11 (m o11 (l o1072)) (l o16)) (k o16 (m o688 (l o16)) (l o944))) (k o240 (k o368 (m o624 (l o11)) (l o880)) (k o496 (l o752) (l o1008)))))) (k o11 (k o40 (k o16 (k o136 (k o264 (m o520 (l o16)) (l o776)) (k o11 (m o11 (l o11)) (l o904))) (k o200 (k o11 (m o584 (l o1096)) (l o16)) (k o456 (m o16 (l o1224)) (l o11)))) (k o104 (k o168 (k o296 (m o552 (l o1064)) (l o11)) (k o11 (m o680 (l o11)) (l o16))) (k o232 (k o11 (m o11 (l o1128)) (l o872)) (k o16 (l o744) (l o1000))))) (k o56 (k o11 (k o152 (k o280 (m o11 (l o11)) (l o792)) (k o408 (m o664 (l o1176)) (l o920))) (k o216 (k o344 (m o16 (l o1112)) (l o11)) (k o472 (m o11 (l o1240)) (l o984)))) (k o120 (k o184 (k o16 (m o568 (l o11)) (l o824)) (k o440 (m o696 (l o1208)) (l o952))) (k o11 (k o376 (m o632 (l o16)) (l o11)) (k o11 (l o11) (l o1016))))))) (k o12v10 (k o20 (k o11 (k o68 (k o11 (k o260 (m o16 (l o1028)) (l o11)) (k o388 (m o11 (l o1156)) (l o900))) (k o30 (k o324 (m o580 (l o1092)) (l o836)) (k o11 (m o708 (l o11)) (l o11)))) (k o16 (k o164 (k o292 (m o548 (l o16)) (l o11)) (k o11 (m o11 (l o11)) (l o932))) (k o16 (k o11 (m o612 (l o1124)) (l o16)) (k o484 (m o16 (l o1252)) (l o11))))) (k o52 (k o84 (k o148 (k o11 (m o11 (l o1044)) (l o788)) (k o16 (m o660 (l o16)) (l o11))) (k o212 (k o16 (m o596 (l o11)) (l o852)) (k o468 (m o724 (l o1236)) (l o980)))) (k o116 (k o180 (k o308 (m o11 (l o11)) (l o11)) (k o436 (m o692 (l o1204)) (l o16))) (k o11 (k o372 (m o16 (l o1140)) (l o11)) (k o500 (l o11) (l o1012)))))) (k o28 (k o16 (k o76 (k o16 (k o268 (m o524 (l o1036)) (l o16)) (k o11 (m o652 (l o11)) (l o908))) (k o204 (k o11 (m o11 (l o1100)) (l o844)) (k o16 (m o716 (l o16)) (l o972)))) (k o108 (k o172 (k o11 (m o556 (l o1068)) (l o812)) (k o428 (m o16 (l o1196)) (l o940))) (k o236 (k o364 (m o11 (l o11)) (l o876)) (k o492 (l o748) (l o16))))) (k o11 (k o11 (k o11 (k o16 (m o540 (l o11)) (l o11)) (k o412v8 (m o668 (l o1180)) (l o16))) (k o16 (k o348 (m o604 (l o16)) (l o11)) (k o11 (m o11 (l o11)) (l o988)))) (k o124 (k o188 (k o316 (m o16 (l o1084)) (l o16)) (k o444 (m o11 (l o1212)) (l o956))) (k o252 (k o380 (m o636 (l o1148)) (l o892)) (k o11 (l o764) (l o11)))))))) (k boot_o_6 (k boot_o_10 (k o11 (k o34 (k o66 (k o130 (k o11 (m o514 (l o1026)) (l o770)) (k o386 (m o16 (l o1154)) (l o11))) (k o194 (k o322 (m o11 (l o11)) (l o834)) (k o450 (m o706 (l o1218)) (l o16)))) (k o98 (k o162 (k o11 (m o11 (l o1058)) (l o16)) (k o16 (m o674 (l o16)) (l o11))) (k o226 (k o16 (m o610 (l o11)) (l o866)) (k o482 (m o738 (l o1250)) (l o994))))) (k o11 (k o82 (k o11 (k o274 (m o16 (l o1042)) (l o11)) (k o402 (m o11 (l o1170)) (l o914))) (k o11 (k o338 (m o594 (l o1106)) (l o850)) (k o11 (m o722 (l o11)) (l o11)))) (k o11 (k o178 (k o306 (m o562 (l o16)) (l o818)) (k o11 (m o11 (l o11)) (l o946))) (k o16 (k o370 (m o626 (l o1138)) (l o16)) (k o498 (l o16) (l o11)))))) (k o26 (k o42 (k o11 (k o138 (k o266 (m o11 (l o11)) (l o778)) (k o394 (m o650 (l o1162)) (l o906))) (k o11 (k o330 (m o16 (l o1098)) (l o11)) (k o458 (m o11 (l o1226)) (l o970)))) (k o106 (k o170 (k o16 (m o554 (l o11)) (l o810)) (k o426 (m o682 (l o1194)) (l o11))) (k o11 (k o362 (m o618 (l o16)) (l o11)) (k o11 (l o11) (l o1002))))) (k o16 (k o90 (k o16 (k o282 (m o538 (l o1050)) (l o30)) (k o410 (m o666 (l o11)) (l o922))) (k o218 (k o11 (m o11 (l o1114)) (l o858)) (k o16 (m o730 (l o16)) (l o986)))) (k o122 (k o186 (k o11 (m o570 (l o1082)) (l o826)) (k o442 (m o16 (l o1210)) (l o11))) (k o250 (k o378 (m o11 (l o11)) (l o890)) (k o506 (l o762) (l o16))))))) (k o14 (k o11 (k o38 (k o70 (k o134 (k o11 (m o11 (l o1030)) (l o774)) (k o16 (m o646 (l o16)) (l o11))) (k o11 (k o16 (m o582 (l o11)) (l o838)) (k o454 (m o710 (l o1222)) (l o966)))) (k o102 (k o166 (k o294 (m o11 (l o11)) (l o806)) (k o422 (m o678 (l o1190)) (l o934))) (k o11 (k o358 (m o16 (l o1126)) (l o11)) (k o486 (m o11 (l o1254)) (l o998))))) (k o54 (k o30 (k o150 (k o278 (m o534 (l o16)) (l o790)) (k o11 (m o11 (l o11)) (l o918))) (k o11 (k o11 (m o598 (l o1110)) (l o16)) (k o470 (m o16 (l o1238)) (l o11)))) (k o11 (k o11 (k o310 (m o566 (l o1078)) (l o822)) (k o11 (m o694 (l o11)) (l o11))) (k o246 (k o11 (m o11 (l o1142)) (l o886)) (k o16 (l o758) (l o1014)))))) (k o30 (k o11 (k o78 (k o11 (k o16 (m o526 (l o11)) (l o11)) (k o398 (m o654 (l o1166)) (l o16))) (k o206 (k o334 (m o590 (l o16)) (l o11)) (k o11 (m o11 (l o11)) (l o974)))) (k o110 (k o174 (k o302 (m o16 (l o1070)) (l o814)) (k o430 (m o11 (l o1198)) (l o11))) (k o238 (k o366 (m o622 (l o1134)) (l o878)) (k o11 (l o750) (l o11))))) (k o62 (k o94 (k o158 (k o11 (m o542 (l o1054)) (l o798)) (k o414 (m o16 (l o1182)) (l o11))) (k o11 (k o350 (m o11 (l o11)) (l o862)) (k o478 (m o734 (l o1246)) (l o16)))) (k o16 (k o190 (k o11 (m o11 (l o1086)) (l o11)) (k o16 (m o702 (l o16)) (l o958))) (k o254 (k o11 (m o638 (l o11)) (l o894)) (k o510 (l o16) (l o1022))))))))))
noncomputable def o3v11(P:R):Obj:=dc (.type "dict") (en P "__name__" 165 (s "gateloom.elabdecl" 2176) :: (E3 P).tail.take 164) 165
noncomputable def o12v11(P:R):Obj:=fl .none (L12.take 447)
noncomputable def o1257(P:R):Obj:=tp [s "scope" 2009,s "e" 2010,s "value" 2011,s "signed" 2012]
noncomputable def o1259(P:R):Obj:=fn .none (stAt 158) (S "constant") 0 .none .none .none .none .none .none 0
noncomputable def o1260(P:R):Obj:=c [s "constant" 2006,s "constant" 2007,u 2008,i 1275,i 2,i 0,i 0,i 3,r 1255,.bool true,i 181,r 1256,.none,r 1257,r 1258,r 1259,i 2013,i 1275,u 2014]
noncomputable def o1261(P:R):Obj:=fn (.type "function") (stAt 158) (S "constant") 3 .none .none .none (s "gateloom.elabexpr" 1746) (r 1260) .none 0
noncomputable def o1264(P:R):Obj:=tp [s "scope" 2019,s "e" 2020,s "w" 2021]
noncomputable def o1266(P:R):Obj:=fn .none (stAt 159) (S "constant_sized") 0 .none .none .none .none .none .none 0
noncomputable def o1267(P:R):Obj:=c [s "constant_sized" 2016,s "constant_sized" 2017,u 2018,i 1278,i 3,i 0,i 0,i 3,r 1262,.bool true,i 181,r 1263,.none,r 1264,r 1265,r 1266,i 2022,i 1278,u 2023]
noncomputable def o1268(P:R):Obj:=fn (.type "function") (stAt 159) (S "constant_sized") 3 .none .none .none (s "gateloom.elabexpr" 1746) (r 1267) .none 0
noncomputable def o1271(P:R):Obj:=tp [s "scope" 2028,s "e" 2029,s "design" 2030,s "value" 2031,s "signed" 2032,s "number" 2033]
noncomputable def o1273(P:R):Obj:=fn .none (stAt 160) (S "whole") 0 .none .none .none .none .none .none 0
noncomputable def o1274(P:R):Obj:=c [s "whole" 2025,s "whole" 2026,u 2027,i 1280,i 2,i 0,i 0,i 3,r 1269,.bool true,i 181,r 1270,.none,r 1271,r 1272,r 1273,i 2034,i 1280,u 2035]
noncomputable def o1275(P:R):Obj:=fn (.type "function") (stAt 160) (S "whole") 3 .none .none .none (s "gateloom.elabexpr" 1746) (r 1274) .none 0
noncomputable def o1278(P:R):Obj:=tp [s "scope" 2040,s "e" 2041,s "number" 2042]
noncomputable def o1280(P:R):Obj:=fn .none (stAt 161) (S "small_whole") 0 .none .none .none .none .none .none 0
noncomputable def o1281(P:R):Obj:=c [s "small_whole" 2037,s "small_whole" 2038,u 2039,i 1293,i 2,i 0,i 0,i 3,r 1276,.bool true,i 181,r 1277,.none,r 1278,r 1279,r 1280,i 2043,i 1293,u 2044]
noncomputable def o1282(P:R):Obj:=fn (.type "function") (stAt 161) (S "small_whole") 3 .none .none .none (s "gateloom.elabexpr" 1746) (r 1281) .none 0
noncomputable def o1285(P:R):Obj:=tp [s "scope" 2049,s "bounds" 2050,s "msb" 2051,s "lsb" 2052]
noncomputable def o1287(P:R):Obj:=fn .none (stAt 162) (S "range_of") 0 .none .none .none .none .none .none 0
noncomputable def o1288(P:R):Obj:=c [s "range_of" 2046,s "range_of" 2047,u 2048,i 1298,i 2,i 0,i 0,i 3,r 1283,.bool true,i 181,r 1284,.none,r 1285,r 1286,r 1287,i 2053,i 1298,u 2054]
noncomputable def o1289(P:R):Obj:=fn (.type "function") (stAt 162) (S "range_of") 3 .none .none .none (s "gateloom.elabexpr" 1746) (r 1288) .none 0
noncomputable def o1292(P:R):Obj:=dc (.type "dict") [en P "__module__" 2065 (s "gateloom.scopes" 2056),en P "__qualname__" 2067 (s "Scope" 2066),en P "__firstlineno__" 2069 (.int 1306 2068),en P "__init__" 2080 (r 1303),en P "child" 2091 (r 1310),en P "declare" 2101 (r 1317),en P "module_scope" 2108 (r 1324),en P "lookup" 2117 (r 1331),en P "lookup_routine" 2127 (r 1338),en P "descend" 2139 (r 1345),en P "resolve" 2150 (r 1352),en P "answers_to" 2158 (r 1359),en P "__static_attributes__" 2168 (r 1360)] 13
noncomputable def o1294(P:R):Obj:=fl .none [i 1308,i 4,r 1302,i 1322,i 4,r 1309,i 1327,i 4,r 1316,i 1332,i 4,r 1323,i 1335,i 4,r 1330,i 1345,i 4,r 1337,i 1356,i 4,r 1344,i 1375,i 4,r 1351,i 1386,i 4,r 1358]
noncomputable def o1295(P:R):Obj:=c [s "Scope" 2060,s "Scope" 2061,u 2062,i 1306,i 0,i 0,i 0,i 0,r 1293,.bool false,i 181,r 1294,.none,.none,.none,.none,i 2063,i 1306,u 2064]
noncomputable def o1296(P:R):Obj:=⟨.type "frame",none,.plain,#[some (r 1295),some (r 3),some (r 1292),none,some (s "gateloom.scopes" 2056),none,some (r 0)]⟩
noncomputable def o1299(P:R):Obj:=tp [s "self" 2073,s "design" 2074,s "name" 2075,s "parent" 2076,s "kind" 2077]
noncomputable def o1301(P:R):Obj:=fn .none (inC (stAt 164) 0) (S "Scope.__init__") 0 .none .none .none .none .none .none 0
noncomputable def o1302(P:R):Obj:=c [s "__init__" 2070,s "Scope.__init__" 2071,u 2072,i 1308,i 5,i 0,i 0,i 3,r 1297,.bool true,i 181,r 1298,.none,r 1299,r 1300,r 1301,i 2078,i 1308,u 2079]
noncomputable def o1303(P:R):Obj:=fn (.type "function") (inC (stAt 164) 0) (S "Scope.__init__") 3 .none .none .none (s "gateloom.scopes" 2056) (r 1302) .none 0
noncomputable def o1306(P:R):Obj:=tp [s "self" 2084,s "name" 2085,s "kind" 2086,s "at" 2087,s "inner" 2088]
noncomputable def o1308(P:R):Obj:=fn .none (inC (stAt 164) 1) (S "Scope.child") 0 .none .none .none .none .none .none 0
noncomputable def o1309(P:R):Obj:=c [s "child" 2081,s "Scope.child" 2082,u 2083,i 1322,i 4,i 0,i 0,i 3,r 1304,.bool true,i 181,r 1305,.none,r 1306,r 1307,r 1308,i 2089,i 1322,u 2090]
noncomputable def o1310(P:R):Obj:=fn (.type "function") (inC (stAt 164) 1) (S "Scope.child") 3 .none .none .none (s "gateloom.scopes" 2056) (r 1309) .none 0
noncomputable def o1313(P:R):Obj:=tp [s "self" 2095,s "name" 2096,s "entry" 2097,s "at" 2098]
noncomputable def o1315(P:R):Obj:=fn .none (inC (stAt 164) 2) (S "Scope.declare") 0 .none .none .none .none .none .none 0
noncomputable def o1316(P:R):Obj:=c [s "declare" 2092,s "Scope.declare" 2093,u 2094,i 1327,i 4,i 0,i 0,i 3,r 1311,.bool true,i 181,r 1312,.none,r 1313,r 1314,r 1315,i 2099,i 1327,u 2100]
noncomputable def o1317(P:R):Obj:=fn (.type "function") (inC (stAt 164) 2) (S "Scope.declare") 3 .none .none .none (s "gateloom.scopes" 2056) (r 1316) .none 0
noncomputable def o1320(P:R):Obj:=tp [s "self" 2105]
noncomputable def o1322(P:R):Obj:=fn .none (inC (stAt 164) 3) (S "Scope.module_scope") 0 .none .none .none .none .none .none 0
noncomputable def o1323(P:R):Obj:=c [s "module_scope" 2102,s "Scope.module_scope" 2103,u 2104,i 1332,i 1,i 0,i 0,i 3,r 1318,.bool true,i 181,r 1319,.none,r 1320,r 1321,r 1322,i 2106,i 1332,u 2107]
noncomputable def o1324(P:R):Obj:=fn (.type "function") (inC (stAt 164) 3) (S "Scope.module_scope") 3 .none .none .none (s "gateloom.scopes" 2056) (r 1323) .none 0
noncomputable def o1327(P:R):Obj:=tp [s "self" 2112,s "name" 2113,s "scope" 2114]
noncomputable def o1329(P:R):Obj:=fn .none (inC (stAt 164) 4) (S "Scope.lookup") 0 .none .none .none .none .none .none 0
noncomputable def o1330(P:R):Obj:=c [s "lookup" 2109,s "Scope.lookup" 2110,u 2111,i 1335,i 2,i 0,i 0,i 3,r 1325,.bool true,i 181,r 1326,.none,r 1327,r 1328,r 1329,i 2115,i 1335,u 2116]
noncomputable def o1331(P:R):Obj:=fn (.type "function") (inC (stAt 164) 4) (S "Scope.lookup") 3 .none .none .none (s "gateloom.scopes" 2056) (r 1330) .none 0
noncomputable def o1334(P:R):Obj:=tp [s "self" 2121,s "name" 2122,s "scope" 2123,s "entry" 2124]
noncomputable def o1336(P:R):Obj:=fn .none (inC (stAt 164) 5) (S "Scope.lookup_routine") 0 .none .none .none .none .none .none 0
noncomputable def o1337(P:R):Obj:=c [s "lookup_routine" 2118,s "Scope.lookup_routine" 2119,u 2120,i 1345,i 2,i 0,i 0,i 3,r 1332,.bool true,i 181,r 1333,.none,r 1334,r 1335,r 1336,i 2125,i 1345,u 2126]
noncomputable def o1338(P:R):Obj:=fn (.type "function") (inC (stAt 164) 5) (S "Scope.lookup_routine") 3 .none .none .none (s "gateloom.scopes" 2056) (r 1337) .none 0
noncomputable def o1341(P:R):Obj:=tp [s "self" 2131,s "parts" 2132,s "entry" 2133,s "within" 2134,s "name" 2135,s "scope" 2136]
noncomputable def o1343(P:R):Obj:=fn .none (inC (stAt 164) 6) (S "Scope.descend") 0 .none .none .none .none .none .none 0
noncomputable def o1344(P:R):Obj:=c [s "descend" 2128,s "Scope.descend" 2129,u 2130,i 1356,i 2,i 0,i 0,i 3,r 1339,.bool true,i 181,r 1340,.none,r 1341,r 1342,r 1343,i 2137,i 1356,u 2138]
noncomputable def o1345(P:R):Obj:=fn (.type "function") (inC (stAt 164) 6) (S "Scope.descend") 3 .none .none .none (s "gateloom.scopes" 2056) (r 1344) .none 0
noncomputable def o1348(P:R):Obj:=tp [s "self" 2143,s "parts" 2144,s "at" 2145,s "scope" 2146,s "entry" 2147]
noncomputable def o1350(P:R):Obj:=fn .none (inC (stAt 164) 7) (S "Scope.resolve") 0 .none .none .none .none .none .none 0
noncomputable def o1351(P:R):Obj:=c [s "resolve" 2140,s "Scope.resolve" 2141,u 2142,i 1375,i 3,i 0,i 0,i 3,r 1346,.bool true,i 181,r 1347,.none,r 1348,r 1349,r 1350,i 2148,i 1375,u 2149]
noncomputable def o1352(P:R):Obj:=fn (.type "function") (inC (stAt 164) 7) (S "Scope.resolve") 3 .none .none .none (s "gateloom.scopes" 2056) (r 1351) .none 0
noncomputable def o1355(P:R):Obj:=tp [s "self" 2154,s "name" 2155]
noncomputable def o1357(P:R):Obj:=fn .none (inC (stAt 164) 8) (S "Scope.answers_to") 0 .none .none .none .none .none .none 0
noncomputable def o1358(P:R):Obj:=c [s "answers_to" 2151,s "Scope.answers_to" 2152,u 2153,i 1386,i 2,i 0,i 0,i 3,r 1353,.bool true,i 181,r 1354,.none,r 1355,r 1356,r 1357,i 2156,i 1386,u 2157]
noncomputable def o1359(P:R):Obj:=fn (.type "function") (inC (stAt 164) 8) (S "Scope.answers_to") 3 .none .none .none (s "gateloom.scopes" 2056) (r 1358) .none 0
noncomputable def o1360(P:R):Obj:=tp [s "design" 2159,s "entries" 2160,s "kind" 2161,s "module_name" 2162,s "name" 2163,s "nettype" 2164,s "number" 2165,s "parent" 2166,s "path" 2167]
noncomputable def o1361(P:R):Obj:=dc (.type "dict") [en P "__module__" 2065 (s "gateloom.scopes" 2056),en P "__firstlineno__" 2069 (.int 1306 2068),en P "__init__" 2080 (r 1303),en P "child" 2091 (r 1310),en P "declare" 2101 (r 1317),en P "module_scope" 2108 (r 1324),en P "lookup" 2117 (r 1331),en P "lookup_routine" 2127 (r 1338),en P "descend" 2139 (r 1345),en P "resolve" 2150 (r 1352),en P "answers_to" 2158 (r 1359),en P "__static_attributes__" 2168 (r 1360),en P "__dict__" 2170 (r 1363),en P "__weakref__" 2172 (r 1364),en P "__doc__" 2173 .none] 4
noncomputable def o1362(P:R):Obj:=⟨.type "type",none,.cls { name:=(S "Scope"),bases:=[.type "object"],mro:=[r 1362,.type "object"],ns:=1361,qualname:=(S "Scope"),hasDict:=true,slotNames:=[],subclasses:=[],abstract:=false,collection:=none,hasDel:=false },#[none,none,some (s "Scope" 2058),some (s "Scope" 2066),some (.builtin "object.__new__"),some (.bool true)]⟩
noncomputable def o1363(P:R):Obj:=fl (.type "getset_descriptor") [s "__dict__" 2169,r 1362,.builtin "function.__dict__",.builtin "function.__dict__#set"]
noncomputable def o1364(P:R):Obj:=fl (.type "getset_descriptor") [s "__weakref__" 2171,r 1362,.builtin "ExceptionGroup.__weakref__",.none]
noncomputable def o1365(P:R):Obj:=fl (.type "super") [r 1362,r 1362,r 1362]
noncomputable def o1366(P:R):Obj:=fl (.type "builtin_function_or_method") [.builtin "object.__init_subclass__",r 1362]
noncomputable def o1369(P:R):Obj:=tp [s "msb" 2185,s "lsb" 2186,s "at" 2187,s "width" 2188]
noncomputable def o1371(P:R):Obj:=fn .none (stAt 168) (S "width_of") 0 .none .none .none .none .none .none 0
noncomputable def o1372(P:R):Obj:=c [s "width_of" 2182,s "width_of" 2183,u 2184,i 1391,i 3,i 0,i 0,i 3,r 1367,.bool true,i 181,r 1368,.none,r 1369,r 1370,r 1371,i 2189,i 1391,u 2190]
noncomputable def o1373(P:R):Obj:=fn (.type "function") (stAt 168) (S "width_of") 3 .none .none .none (s "gateloom.elabdecl" 2176) (r 1372) .none 0
noncomputable def o1376(P:R):Obj:=tp [s "scope" 2195,s "kind" 2196,s "signed" 2197,s "bounds" 2198,s "at" 2199,s "msb" 2200,s "lsb" 2201]
noncomputable def o1378(P:R):Obj:=fn .none (stAt 169) (S "shape") 0 .none .none .none .none .none .none 0
noncomputable def o1379(P:R):Obj:=c [s "shape" 2192,s "shape" 2193,u 2194,i 1396,i 5,i 0,i 0,i 3,r 1374,.bool true,i 181,r 1375,.none,r 1376,r 1377,r 1378,i 2202,i 1396,u 2203]
noncomputable def o1380(P:R):Obj:=fn (.type "function") (stAt 169) (S "shape") 3 .none .none .none (s "gateloom.elabdecl" 2176) (r 1379) .none 0
noncomputable def T11:Tt:=(k boot_o_0 (k boot_o_1 (k o3v11 (k boot_o_7 (k o11 (k o31 (k o63 (k o127 (k o11 (m o11 (l o1023)) (m o767 (l o11))) (k o16 (m o639 (l o16)) (l o11))) (k o191v3 (k o16 (m o575 (l o11)) (m o831 (l o1343))) (k o447 (m o703 (l o1215)) (l o959)))) (k o11 (k o159 (k o287 (m o11 (l o11)) (m o799 (l o11))) (k o415 (m o671 (l o1183)) (l o927))) (k o223 (k o351 (m o16 (l o1119)) (m o11 (l o16))) (k o479 (m o11 (l o1247)) (l o991))))) (k o47 (k o79 (k o143 (k o271 (m o527 (l o16)) (m o783 (l o1295))) (k o11 (m o11 (l o11)) (l o911))) (k o195 (k o11 (m o591 (l o1103)) (m o16 (l o1359))) (k o463 (m o16 (l o1231)) (l o11)))) (k o11 (k o30 (k o303 (m o559 (l o1071)) (m o11 (l o1327))) (k o11 (m o687 (l o11)) (l o16))) (k o239 (k o367 (m o11 (l o1135)) (l o879)) (k o16 (m o751 (l o16)) (l o1007)))))) (k o16 (k o11 (k o11 (k o11 (k o16 (m o519 (l o11)) (m o11 (l o1287))) (k o391 (m o647 (l o1159)) (l o16))) (k o16 (k o327 (m o583 (l o16)) (m o11 (l o1351))) (k o11 (m o11 (l o11)) (l o967)))) (k o103 (k o167 (k o295 (m o16 (l o1063)) (m o807 (l o16))) (k o423 (m o11 (l o1191)) (l o11))) (k o231 (k o359 (m o615 (l o1127)) (l o871)) (k o11 (m o743 (l o11)) (l o11))))) (k o55 (k o87 (k o151 (k o11 (m o535 (l o1047)) (m o791 (l o1303))) (k o407 (m o16 (l o1175)) (l o11))) (k o215 (k o343 (m o11 (l o11)) (m o855 (l o11))) (k o471 (m o727 (l o1239)) (l o16)))) (k o16 (k o16 (k o11 (m o11 (l o1079)) (m o11 (l o11))) (k o16 (m o695 (l o16)) (l o951))) (k o247 (k o30 (m o631 (l o11)) (l o887)) (k o503 (m o759 (l o1271)) (l o1015))))))) (k o11 (k o19 (k o35 (k o11 (k o131 (k o259 (m o11 (l o11)) (m o771 (l o11))) (k o387 (m o643 (l o1155)) (l o899))) (k o195 (k o323 (m o16 (l o1091)) (m o835 (l o16))) (k o451 (m o11 (l o1219)) (l o963)))) (k o11 (k o11 (k o16 (m o547 (l o11)) (m o803 (l o1315))) (k o419 (m o675 (l o1187)) (l o16))) (k o11 (k o355 (m o611 (l o16)) (m o11 (l o1379))) (k o11 (m o11 (l o11)) (l o995))))) (k o16 (k o83 (k o16 (k o275 (m o531 (l o1043)) (m o16 (l o1299))) (k o11 (m o659 (l o11)) (l o915))) (k o16 (k o11 (m o11 (l o1107)) (m o851 (l o1363))) (k o16 (m o723 (l o16)) (l o979)))) (k o115 (k o179 (k o11 (m o563 (l o1075)) (m o819 (l o1331))) (k o435 (m o16 (l o1203)) (l o11))) (k o243 (k o371 (m o11 (l o11)) (l o883)) (k o499 (m o755 (l o1267)) (l o16)))))) (k o27 (k o11 (k o75 (k o11 (k o267 (m o16 (l o1035)) (m o11 (l o30))) (k o395 (m o11 (l o1163)) (l o907))) (k o203 (k o331 (m o587 (l o1099)) (m o843 (l o1355))) (k o11 (m o715 (l o11)) (l o11)))) (k o107 (k o171 (k o299 (m o555 (l o16)) (m o11 (l o1323))) (k o11 (m o11 (l o11)) (l o939))) (k o16 (k o11 (m o619 (l o1131)) (l o16)) (k o491 (m o16 (l o1259)) (l o11))))) (k o59 (k o91 (k o155 (k o11 (m o11 (l o1051)) (m o795 (l o11))) (k o411 (m o667 (l o16)) (l o11))) (k o11 (k o16 (m o603 (l o11)) (m o859 (l o1371))) (k o475 (m o731 (l o1243)) (l o987)))) (k o123 (k o187 (k o315 (m o11 (l o11)) (m o11 (l o11))) (k o443 (m o699 (l o1211)) (l o16))) (k o11 (k o379 (m o16 (l o1147)) (l o11)) (k o507 (m o763 (l o1275)) (l o1019)))))))) (k boot_o_5 (k boot_o_9 (k o17 (k o33 (k o16 (k o129 (k o257 (m o513 (l o16)) (m o769 (l o1281))) (k o11 (m o11 (l o11)) (l o897))) (k o193 (k o11 (m o577 (l o1089)) (m o833 (l o1345))) (k o449 (m o16 (l o1217)) (l o11)))) (k o97 (k o16 (k o289 (m o545 (l o1057)) (m o11 (l o1313))) (k o11 (m o673 (l o11)) (l o929))) (k o225 (k o11 (m o11 (l o1121)) (m o865 (l o11))) (k o16 (m o737 (l o16)) (l o993))))) (k o49 (k o81 (k o145 (k o273 (m o11 (l o11)) (m o785 (l o11))) (k o401 (m o657 (l o1169)) (l o913))) (k o209 (k o337 (m o16 (l o1105)) (m o11 (l o1361))) (k o465 (m o11 (l o1233)) (l o977)))) (k o113 (k o11 (k o16 (m o561 (l o11)) (m o817 (l o1329))) (k o433 (m o689 (l o1201)) (l o945))) (k o11 (k o369 (m o625 (l o16)) (l o11)) (k o11 (m o11 (l o11)) (l o1009)))))) (k o11 (k o41 (k o73 (k o137 (k o11 (m o521 (l o1033)) (m o777 (l o1289))) (k o393 (m o16 (l o1161)) (l o11))) (k o201 (k o329 (m o11 (l o11)) (m o841 (l o11))) (k o457 (m o713 (l o1225)) (l o16)))) (k o105 (k o169 (k o11 (m o11 (l o1065)) (m o16 (l o11))) (k o16 (m o681 (l o16)) (l o937))) (k o233 (k o16 (m o617 (l o11)) (l o873)) (k o489 (m o745 (l o1257)) (l o1001))))) (k o11 (k o89 (k o11 (k o281 (m o16 (l o1049)) (m o793 (l o16))) (k o409 (m o11 (l o1177)) (l o921))) (k o217 (k o345 (m o601 (l o1113)) (m o857 (l o1369))) (k o11 (m o729 (l o11)) (l o11)))) (k o11 (k o11 (k o313 (m o569 (l o16)) (m o825 (l o1337))) (k o11 (m o11 (l o11)) (l o953))) (k o16 (k o11 (m o633 (l o1145)) (l o16)) (k o505 (m o16 (l o1273)) (l o11))))))) (k o13 (k o21 (k o16 (k o69 (k o16 (k o261 (m o517 (l o1029)) (m o16 (l o1285))) (k o11 (m o645 (l o11)) (l o901))) (k o197 (k o11 (m o11 (l o1093)) (m o837 (l o11))) (k o16 (m o709 (l o16)) (l o965)))) (k o101 (k o165 (k o11 (m o549 (l o1061)) (m o805 (l o1317))) (k o421 (m o16 (l o1189)) (l o933))) (k o229 (k o357 (m o11 (l o11)) (l o869)) (k o485 (m o741 (l o1253)) (l o16))))) (k o11 (k o11 (k o11 (k o16 (m o533 (l o11)) (m o11 (l o1301))) (k o405 (m o661 (l o1173)) (l o16))) (k o213 (k o341 (m o597 (l o16)) (m o11 (l o1365))) (k o11 (m o11 (l o11)) (l o981)))) (k o117 (k o181 (k o309 (m o16 (l o1077)) (m o16 (l o16))) (k o437 (m o11 (l o1205)) (l o949))) (k o245 (k o373 (m o629 (l o1141)) (l o885)) (k o11 (m o757 (l o11)) (l o11)))))) (k o11 (k o45 (k o77 (k o141 (k o11 (m o11 (l o1037)) (m o781 (l o11))) (k o16 (m o653 (l o16)) (l o11))) (k o205 (k o30 (m o589 (l o11)) (m o845 (l o1357))) (k o461 (m o717 (l o1229)) (l o973)))) (k o109 (k o173 (k o301 (m o11 (l o11)) (m o813 (l o11))) (k o429 (m o685 (l o1197)) (l o941))) (k o11 (k o365 (m o16 (l o1133)) (l o11)) (k o493 (m o11 (l o1261)) (l o1005))))) (k o61 (k o16 (k o157 (k o285 (m o541 (l o16)) (m o797 (l o1309))) (k o413 (m o11 (l o11)) (l o925))) (k o221 (k o11 (m o605 (l o1117)) (m o16 (l o1373))) (k o477 (m o16 (l o1245)) (l o11)))) (k o11 (k o189 (k o317 (m o573 (l o1085)) (m o829 (l o1341))) (k o11 (m o701 (l o11)) (l o11))) (k o253 (k o381 (m o11 (l o1149)) (l o893)) (k o16 (m o11 (l o16)) (l o1021))))))))) (k o2v2 (k boot_o_4 (k boot_o_8 (k o16 (k o11 (k o11 (k o11 (k o16 (m o512 (l o11)) (m o11 (l o1280))) (k o384 (m o640 (l o1152)) (l o16))) (k o192 (k o320 (m o576 (l o16)) (m o832 (l o1344))) (k o11 (m o11 (l o11)) (l o960)))) (k o96 (k o11 (k o288 (m o16 (l o1056)) (m o800 (l o16))) (k o416 (m o11 (l o1184)) (l o928))) (k o224 (k o352 (m o608 (l o1120)) (m o864 (l o1376))) (k o11 (m o736 (l o11)) (l o11))))) (k o48 (k o80 (k o144 (k o11 (m o528 (l o1040)) (m o784 (l o1296))) (k o400 (m o16 (l o1168)) (l o11))) (k o30 (k o336 (m o11 (l o11)) (m o848 (l o1360))) (k o464 (m o720 (l o1232)) (l o16)))) (k o30 (k o176 (k o11 (m o11 (l o1072)) (m o16 (l o11))) (k o16 (m o688 (l o16)) (l o944))) (k o240 (k o368 (m o624 (l o11)) (l o880)) (k o496 (m o752 (l o1264)) (l o1008)))))) (k o11 (k o40 (k o16 (k o136 (k o264 (m o520 (l o16)) (m o776 (l o1288))) (k o11 (m o11 (l o11)) (l o904))) (k o200 (k o11 (m o584 (l o1096)) (m o16 (l o1352))) (k o456 (m o16 (l o1224)) (l o11)))) (k o104 (k o168 (k o296 (m o552 (l o1064)) (m o11 (l o1320))) (k o11 (m o680 (l o11)) (l o16))) (k o232 (k o11 (m o11 (l o1128)) (l o872)) (k o16 (m o744 (l o16)) (l o1000))))) (k o56 (k o11 (k o152 (k o280 (m o11 (l o11)) (m o792 (l o11))) (k o408 (m o664 (l o1176)) (l o920))) (k o216 (k o344 (m o16 (l o1112)) (m o11 (l o16))) (k o472 (m o11 (l o1240)) (l o984)))) (k o120 (k o184 (k o16 (m o568 (l o11)) (m o824 (l o1336))) (k o440 (m o696 (l o1208)) (l o952))) (k o11 (k o376 (m o632 (l o16)) (l o11)) (k o11 (m o11 (l o11)) (l o1016))))))) (k o12v11 (k o20 (k o11 (k o68 (k o11 (k o260 (m o16 (l o1028)) (m o11 (l o16))) (k o388 (m o11 (l o1156)) (l o900))) (k o30 (k o324 (m o580 (l o1092)) (m o836 (l o1348))) (k o11 (m o708 (l o11)) (l o11)))) (k o16 (k o164 (k o292 (m o548 (l o16)) (m o11 (l o1316))) (k o11 (m o11 (l o11)) (l o932))) (k o16 (k o11 (m o612 (l o1124)) (m o16 (l o1380))) (k o484 (m o16 (l o1252)) (l o11))))) (k o52 (k o84 (k o148 (k o11 (m o11 (l o1044)) (m o788 (l o11))) (k o16 (m o660 (l o16)) (l o11))) (k o212 (k o16 (m o596 (l o11)) (m o852 (l o1364))) (k o468 (m o724 (l o1236)) (l o980)))) (k o116 (k o180 (k o308 (m o11 (l o11)) (m o11 (l o11))) (k o436 (m o692 (l o1204)) (l o16))) (k o11 (k o372 (m o16 (l o1140)) (l o11)) (k o500 (m o11 (l o1268)) (l o1012)))))) (k o28 (k o16 (k o76 (k o16 (k o268 (m o524 (l o1036)) (m o16 (l o1292))) (k o11 (m o652 (l o11)) (l o908))) (k o204 (k o11 (m o11 (l o1100)) (m o844 (l o11))) (k o16 (m o716 (l o16)) (l o972)))) (k o108 (k o172 (k o11 (m o556 (l o1068)) (m o812 (l o1324))) (k o428 (m o16 (l o1196)) (l o940))) (k o236 (k o364 (m o11 (l o11)) (l o876)) (k o492 (m o748 (l o1260)) (l o16))))) (k o11 (k o11 (k o11 (k o16 (m o540 (l o11)) (m o11 (l o1308))) (k o412v8 (m o668 (l o1180)) (l o16))) (k o16 (k o348 (m o604 (l o16)) (m o11 (l o1372))) (k o11 (m o11 (l o11)) (l o988)))) (k o124 (k o188 (k o316 (m o16 (l o1084)) (m o16 (l o16))) (k o444 (m o11 (l o1212)) (l o956))) (k o252 (k o380 (m o636 (l o1148)) (l o892)) (k o11 (m o764 (l o11)) (l o11)))))))) (k boot_o_6 (k boot_o_10 (k o11 (k o34 (k o66 (k o130 (k o11 (m o514 (l o1026)) (m o770 (l o1282))) (k o386 (m o16 (l o1154)) (l o11))) (k o194 (k o322 (m o11 (l o11)) (m o834 (l o11))) (k o450 (m o706 (l o1218)) (l o16)))) (k o98 (k o162 (k o11 (m o11 (l o1058)) (m o16 (l o11))) (k o16 (m o674 (l o16)) (l o11))) (k o226 (k o16 (m o610 (l o11)) (m o866 (l o1378))) (k o482 (m o738 (l o1250)) (l o994))))) (k o11 (k o82 (k o11 (k o274 (m o16 (l o1042)) (m o11 (l o16))) (k o402 (m o11 (l o1170)) (l o914))) (k o11 (k o338 (m o594 (l o1106)) (m o850 (l o1362))) (k o11 (m o722 (l o11)) (l o11)))) (k o11 (k o178 (k o306 (m o562 (l o16)) (m o818 (l o1330))) (k o11 (m o11 (l o11)) (l o946))) (k o16 (k o370 (m o626 (l o1138)) (l o16)) (k o498 (m o16 (l o1266)) (l o11)))))) (k o26 (k o42 (k o11 (k o138 (k o266 (m o11 (l o11)) (m o778 (l o11))) (k o394 (m o650 (l o1162)) (l o906))) (k o11 (k o330 (m o16 (l o1098)) (m o11 (l o16))) (k o458 (m o11 (l o1226)) (l o970)))) (k o106 (k o170 (k o16 (m o554 (l o11)) (m o810 (l o1322))) (k o426 (m o682 (l o1194)) (l o11))) (k o11 (k o362 (m o618 (l o16)) (l o11)) (k o11 (m o11 (l o11)) (l o1002))))) (k o16 (k o90 (k o16 (k o282 (m o538 (l o1050)) (m o30 (l o1306))) (k o410 (m o666 (l o11)) (l o922))) (k o218 (k o11 (m o11 (l o1114)) (m o858 (l o11))) (k o16 (m o730 (l o16)) (l o986)))) (k o122 (k o186 (k o11 (m o570 (l o1082)) (m o826 (l o1338))) (k o442 (m o16 (l o1210)) (l o11))) (k o250 (k o378 (m o11 (l o11)) (l o890)) (k o506 (m o762 (l o1274)) (l o16))))))) (k o14 (k o11 (k o38 (k o70 (k o134 (k o11 (m o11 (l o1030)) (m o774 (l o11))) (k o16 (m o646 (l o16)) (l o11))) (k o11 (k o16 (m o582 (l o11)) (m o838 (l o1350))) (k o454 (m o710 (l o1222)) (l o966)))) (k o102 (k o166 (k o294 (m o11 (l o11)) (m o806 (l o11))) (k o422 (m o678 (l o1190)) (l o934))) (k o11 (k o358 (m o16 (l o1126)) (l o11)) (k o486 (m o11 (l o1254)) (l o998))))) (k o54 (k o30 (k o150 (k o278 (m o534 (l o16)) (m o790 (l o1302))) (k o11 (m o11 (l o11)) (l o918))) (k o11 (k o11 (m o598 (l o1110)) (m o16 (l o1366))) (k o470 (m o16 (l o1238)) (l o11)))) (k o11 (k o11 (k o310 (m o566 (l o1078)) (m o822 (l o1334))) (k o11 (m o694 (l o11)) (l o11))) (k o246 (k o11 (m o11 (l o1142)) (l o886)) (k o16 (m o758 (l o16)) (l o1014)))))) (k o30 (k o11 (k o78 (k o11 (k o16 (m o526 (l o11)) (m o11 (l o1294))) (k o398 (m o654 (l o1166)) (l o16))) (k o206 (k o334 (m o590 (l o16)) (m o11 (l o1358))) (k o11 (m o11 (l o11)) (l o974)))) (k o110 (k o174 (k o302 (m o16 (l o1070)) (m o814 (l o16))) (k o430 (m o11 (l o1198)) (l o11))) (k o238 (k o366 (m o622 (l o1134)) (l o878)) (k o11 (m o750 (l o11)) (l o11))))) (k o62 (k o94 (k o158 (k o11 (m o542 (l o1054)) (m o798 (l o1310))) (k o414 (m o16 (l o1182)) (l o11))) (k o11 (k o350 (m o11 (l o11)) (m o862 (l o11))) (k o478 (m o734 (l o1246)) (l o16)))) (k o16 (k o190 (k o11 (m o11 (l o1086)) (m o11 (l o11))) (k o16 (m o702 (l o16)) (l o958))) (k o254 (k o11 (m o638 (l o11)) (l o894)) (k o510 (m o16 (l o1278)) (l o1022))))))))))
noncomputable def o3v12(P:R):Obj:=dc (.type "dict") (en P "__name__" 165 (s "gateloom.elabitems" 2403) :: (E3 P).tail.take 187) 188
noncomputable def o12v12(P:R):Obj:=fl .none (L12.take 516)
noncomputable def o1383(P:R):Obj:=tp [s "scope" 2209,s "bounds" 2210,s "name" 2211,s "at" 2212,s "first" 2213,s "last" 2214]
noncomputable def o1385(P:R):Obj:=fn .none (stAt 171) (S "array_bounds") 0 .none .none .none .none .none .none 0
noncomputable def o1386(P:R):Obj:=c [s "array_bounds" 2206,s "array_bounds" 2207,u 2208,i 1406,i 4,i 0,i 0,i 3,r 1381,.bool true,i 181,r 1382,.none,r 1383,r 1384,r 1385,i 2215,i 1406,u 2216]
noncomputable def o1387(P:R):Obj:=fn (.type "function") (stAt 171) (S "array_bounds") 3 .none .none .none (s "gateloom.elabdecl" 2176) (r 1386) .none 0
noncomputable def o1390(P:R):Obj:=tp [s "scope" 2221,s "kind" 2222,s "signed" 2223,s "bounds" 2224,s "name" 2225,s "arrays" 2226,s "at" 2227,s "width" 2228,s "is_signed" 2229,s "msb" 2230,s "lsb" 2231,s "extent" 2232,s "signal" 2233]
noncomputable def o1392(P:R):Obj:=fn .none (stAt 172) (S "declare_signal") 0 .none .none .none .none .none .none 0
noncomputable def o1393(P:R):Obj:=c [s "declare_signal" 2218,s "declare_signal" 2219,u 2220,i 1412,i 7,i 0,i 0,i 3,r 1388,.bool true,i 181,r 1389,.none,r 1390,r 1391,r 1392,i 2234,i 1412,u 2235]
noncomputable def o1394(P:R):Obj:=fn (.type "function") (stAt 172) (S "declare_signal") 3 .none .none .none (s "gateloom.elabdecl" 2176) (r 1393) .none 0
noncomputable def o1397(P:R):Obj:=tp [s "scope" 2240,s "name" 2241,s "at" 2242,s "signal" 2243]
noncomputable def o1399(P:R):Obj:=fn .none (stAt 173) (S "declare_event") 0 .none .none .none .none .none .none 0
noncomputable def o1400(P:R):Obj:=c [s "declare_event" 2237,s "declare_event" 2238,u 2239,i 1428,i 3,i 0,i 0,i 3,r 1395,.bool true,i 181,r 1396,.none,r 1397,r 1398,r 1399,i 2244,i 1428,u 2245]
noncomputable def o1401(P:R):Obj:=fn (.type "function") (stAt 173) (S "declare_event") 3 .none .none .none (s "gateloom.elabdecl" 2176) (r 1400) .none 0
noncomputable def o1404(P:R):Obj:=tp [s "scope" 2250,s "signal" 2251,s "value" 2252,s "at" 2253]
noncomputable def o1406(P:R):Obj:=fn .none (stAt 174) (S "set_initial") 0 .none .none .none .none .none .none 0
noncomputable def o1407(P:R):Obj:=c [s "set_initial" 2247,s "set_initial" 2248,u 2249,i 1433,i 4,i 0,i 0,i 3,r 1402,.bool true,i 181,r 1403,.none,r 1404,r 1405,r 1406,i 2254,i 1433,u 2255]
noncomputable def o1408(P:R):Obj:=fn (.type "function") (stAt 174) (S "set_initial") 3 .none .none .none (s "gateloom.elabdecl" 2176) (r 1407) .none 0
noncomputable def o1411(P:R):Obj:=tp [s "scope" 2260,s "item" 2261,s "given" 2262,s "at" 2263,s "signed" 2264,s "bounds" 2265,s "value" 2266,s "msb" 2267,s "lsb" 2268,s "width" 2269]
noncomputable def o1413(P:R):Obj:=fn .none (stAt 175) (S "parameter_value") 0 .none .none .none .none .none .none 0
noncomputable def o1414(P:R):Obj:=c [s "parameter_value" 2257,s "parameter_value" 2258,u 2259,i 1437,i 3,i 0,i 0,i 3,r 1409,.bool true,i 181,r 1410,.none,r 1411,r 1412,r 1413,i 2270,i 1437,u 2271]
noncomputable def o1415(P:R):Obj:=fn (.type "function") (stAt 175) (S "parameter_value") 3 .none .none .none (s "gateloom.elabdecl" 2176) (r 1414) .none 0
noncomputable def o1416(P:R):Obj:=tp [.none]
noncomputable def o1419(P:R):Obj:=tp [s "scope" 2276,s "item" 2277,s "given" 2278,s "vec" 2279,s "signed" 2280,s "entry" 2281]
noncomputable def o1421(P:R):Obj:=fn .none (stAt 176) (S "declare_parameter") 0 .none .none .none .none .none .none 0
noncomputable def o1422(P:R):Obj:=c [s "declare_parameter" 2273,s "declare_parameter" 2274,u 2275,i 1448,i 3,i 0,i 0,i 3,r 1417,.bool true,i 181,r 1418,.none,r 1419,r 1420,r 1421,i 2282,i 1448,u 2283]
noncomputable def o1423(P:R):Obj:=fn (.type "function") (stAt 176) (S "declare_parameter") 3 (r 1416) .none .none (s "gateloom.elabdecl" 2176) (r 1422) .none 0
noncomputable def o1426(P:R):Obj:=tp [s "routine" 2288]
noncomputable def o1428(P:R):Obj:=fn .none (stAt 177) (S "uses_frame") 0 .none .none .none .none .none .none 0
noncomputable def o1429(P:R):Obj:=c [s "uses_frame" 2285,s "uses_frame" 2286,u 2287,i 1454,i 1,i 0,i 0,i 3,r 1424,.bool true,i 181,r 1425,.none,r 1426,r 1427,r 1428,i 2289,i 1454,u 2290]
noncomputable def o1430(P:R):Obj:=fn (.type "function") (stAt 177) (S "uses_frame") 3 .none .none .none (s "gateloom.elabdecl" 2176) (r 1429) .none 0
noncomputable def o1433(P:R):Obj:=tp [s "scope" 2295,s "routine" 2296,s "kind" 2297,s "signed" 2298,s "bounds" 2299,s "name" 2300,s "at" 2301,s "width" 2302,s "is_signed" 2303,s "msb" 2304,s "lsb" 2305,s "slot" 2306,s "entry" 2307]
noncomputable def o1435(P:R):Obj:=fn .none (stAt 178) (S "declare_local") 0 .none .none .none .none .none .none 0
noncomputable def o1436(P:R):Obj:=c [s "declare_local" 2292,s "declare_local" 2293,u 2294,i 1456,i 7,i 0,i 0,i 3,r 1431,.bool true,i 181,r 1432,.none,r 1433,r 1434,r 1435,i 2308,i 1456,u 2309]
noncomputable def o1437(P:R):Obj:=fn (.type "function") (stAt 178) (S "declare_local") 3 .none .none .none (s "gateloom.elabdecl" 2176) (r 1436) .none 0
noncomputable def o1440(P:R):Obj:=tp [s "scope" 2314,s "routine" 2315,s "item" 2316,s "_" 2317,s "at" 2318,s "kind" 2319,s "signed" 2320,s "bounds" 2321,s "name" 2322,s "arrays" 2323,s "value" 2324,s "signal" 2325]
noncomputable def o1442(P:R):Obj:=fn .none (stAt 179) (S "declare_variable") 0 .none .none .none .none .none .none 0
noncomputable def o1443(P:R):Obj:=c [s "declare_variable" 2311,s "declare_variable" 2312,u 2313,i 1465,i 3,i 0,i 0,i 3,r 1438,.bool true,i 181,r 1439,.none,r 1440,r 1441,r 1442,i 2326,i 1465,u 2327]
noncomputable def o1444(P:R):Obj:=fn (.type "function") (stAt 179) (S "declare_variable") 3 .none .none .none (s "gateloom.elabdecl" 2176) (r 1443) .none 0
noncomputable def o1447(P:R):Obj:=tp [s "scope" 2332,s "routine" 2333,s "item" 2334]
noncomputable def o1449(P:R):Obj:=fn .none (stAt 180) (S "declare_inner") 0 .none .none .none .none .none .none 0
noncomputable def o1450(P:R):Obj:=c [s "declare_inner" 2329,s "declare_inner" 2330,u 2331,i 1477,i 3,i 0,i 0,i 3,r 1445,.bool true,i 181,r 1446,.none,r 1447,r 1448,r 1449,i 2335,i 1477,u 2336]
noncomputable def o1451(P:R):Obj:=fn (.type "function") (stAt 180) (S "declare_inner") 3 .none .none .none (s "gateloom.elabdecl" 2176) (r 1450) .none 0
noncomputable def o1454(P:R):Obj:=fn .none (stAt 181) (S "variables_by_name") 0 .none .none .none .none .none .none 0
noncomputable def o1455(P:R):Obj:=c [s "variables_by_name" 2338,s "variables_by_name" 2339,u 2340,i 1484,i 1,i 0,i 0,i 3,r 1452,.bool true,i 181,r 1453,.none,.none,.none,r 1454,i 2341,i 1484,u 2342]
noncomputable def o1456(P:R):Obj:=fn (.type "function") (stAt 181) (S "variables_by_name") 3 .none .none .none (s "gateloom.elabdecl" 2176) (r 1455) .none 0
noncomputable def o1459(P:R):Obj:=tp [s "scope" 2347,s "routine" 2348,s "item" 2349,s "variable" 2350,s "_" 2351,s "at" 2352,s "direction" 2353,s "signed" 2354,s "bounds" 2355,s "name" 2356,s "kind" 2357,s "slot" 2358,s "width" 2359,s "is_signed" 2360,s "signal" 2361]
noncomputable def o1461(P:R):Obj:=fn .none (stAt 182) (S "declare_port") 0 .none .none .none .none .none .none 0
noncomputable def o1462(P:R):Obj:=c [s "declare_port" 2344,s "declare_port" 2345,u 2346,i 1486,i 4,i 0,i 0,i 3,r 1457,.bool true,i 181,r 1458,.none,r 1459,r 1460,r 1461,i 2362,i 1486,u 2363]
noncomputable def o1463(P:R):Obj:=fn (.type "function") (stAt 182) (S "declare_port") 3 .none .none .none (s "gateloom.elabdecl" 2176) (r 1462) .none 0
noncomputable def o1466(P:R):Obj:=tp [s "scope" 2368,s "routine" 2369,s "item" 2370,s "_" 2371,s "width" 2372,s "is_signed" 2373]
noncomputable def o1468(P:R):Obj:=fn .none (stAt 183) (S "declare_result") 0 .none .none .none .none .none .none 0
noncomputable def o1469(P:R):Obj:=c [s "declare_result" 2365,s "declare_result" 2366,u 2367,i 1502,i 3,i 0,i 0,i 3,r 1464,.bool true,i 181,r 1465,.none,r 1466,r 1467,r 1468,i 2374,i 1502,u 2375]
noncomputable def o1470(P:R):Obj:=fn (.type "function") (stAt 183) (S "declare_result") 3 .none .none .none (s "gateloom.elabdecl" 2176) (r 1469) .none 0
noncomputable def o1473(P:R):Obj:=tp [s "scope" 2380,s "item" 2381,s "at" 2382,s "automatic" 2383,s "name" 2384,s "inner_items" 2385,s "is_function" 2386,s "routine" 2387,s "inner" 2388,s "variables" 2389,s "part" 2390]
noncomputable def o1475(P:R):Obj:=fn .none (stAt 184) (S "declare_routine") 0 .none .none .none .none .none .none 0
noncomputable def o1476(P:R):Obj:=c [s "declare_routine" 2377,s "declare_routine" 2378,u 2379,i 1506,i 2,i 0,i 0,i 3,r 1471,.bool true,i 181,r 1472,.none,r 1473,r 1474,r 1475,i 2391,i 1506,u 2392]
noncomputable def o1477(P:R):Obj:=fn (.type "function") (stAt 184) (S "declare_routine") 3 .none .none .none (s "gateloom.elabdecl" 2176) (r 1476) .none 0
noncomputable def o1480(P:R):Obj:=tp [s "items" 2397,s "name" 2398,s "item" 2399]
noncomputable def o1482(P:R):Obj:=fn .none (stAt 185) (S "is_port_name") 0 .none .none .none .none .none .none 0
noncomputable def o1483(P:R):Obj:=c [s "is_port_name" 2394,s "is_port_name" 2395,u 2396,i 1525,i 2,i 0,i 0,i 3,r 1478,.bool true,i 181,r 1479,.none,r 1480,r 1481,r 1482,i 2400,i 1525,u 2401]
noncomputable def o1484(P:R):Obj:=fn (.type "function") (stAt 185) (S "is_port_name") 3 .none .none .none (s "gateloom.elabdecl" 2176) (r 1483) .none 0
noncomputable def o1487(P:R):Obj:=tp [s "node" 2408,s "found" 2409,s "stack" 2410,s "part" 2411]
noncomputable def o1489(P:R):Obj:=fn .none (stAt 187) (S "called_names") 0 .none .none .none .none .none .none 0
noncomputable def o1490(P:R):Obj:=c [s "called_names" 2405,s "called_names" 2406,u 2407,i 1531,i 1,i 0,i 0,i 3,r 1485,.bool true,i 181,r 1486,.none,r 1487,r 1488,r 1489,i 2412,i 1531,u 2413]
noncomputable def o1491(P:R):Obj:=fn (.type "function") (stAt 187) (S "called_names") 3 .none .none .none (s "gateloom.elabitems" 2403) (r 1490) .none 0
noncomputable def o1494(P:R):Obj:=tp [s "scope" 2418,s "node" 2419,s "stack" 2420,s "part" 2421]
noncomputable def o1496(P:R):Obj:=fn .none (stAt 188) (S "are_names_known") 0 .none .none .none .none .none .none 0
noncomputable def o1497(P:R):Obj:=c [s "are_names_known" 2415,s "are_names_known" 2416,u 2417,i 1541,i 2,i 0,i 0,i 3,r 1492,.bool true,i 181,r 1493,.none,r 1494,r 1495,r 1496,i 2422,i 1541,u 2423]
noncomputable def o1498(P:R):Obj:=fn (.type "function") (stAt 188) (S "are_names_known") 3 .none .none .none (s "gateloom.elabitems" 2403) (r 1497) .none 0
noncomputable def o1501(P:R):Obj:=tp [s "item" 2428]
noncomputable def o1503(P:R):Obj:=fn .none (stAt 189) (S "declared_name") 0 .none .none .none .none .none .none 0
noncomputable def o1504(P:R):Obj:=c [s "declared_name" 2425,s "declared_name" 2426,u 2427,i 1550,i 1,i 0,i 0,i 3,r 1499,.bool true,i 181,r 1500,.none,r 1501,r 1502,r 1503,i 2429,i 1550,u 2430]
noncomputable def o1505(P:R):Obj:=fn (.type "function") (stAt 189) (S "declared_name") 3 .none .none .none (s "gateloom.elabitems" 2403) (r 1504) .none 0
noncomputable def o1508(P:R):Obj:=fn .none (stAt 190) (S "port_items") 0 .none .none .none .none .none .none 0
noncomputable def o1509(P:R):Obj:=c [s "port_items" 2432,s "port_items" 2433,u 2434,i 1554,i 1,i 0,i 0,i 3,r 1506,.bool true,i 181,r 1507,.none,.none,.none,r 1508,i 2435,i 1554,u 2436]
noncomputable def o1510(P:R):Obj:=fn (.type "function") (stAt 190) (S "port_items") 3 .none .none .none (s "gateloom.elabitems" 2403) (r 1509) .none 0
noncomputable def o1513(P:R):Obj:=tp [s "items" 2441,s "ports" 2442,s "places" 2443,s "place" 2444,s "item" 2445,s "name" 2446]
noncomputable def o1515(P:R):Obj:=fn .none (stAt 191) (S "partner_places") 0 .none .none .none .none .none .none 0
noncomputable def o1516(P:R):Obj:=c [s "partner_places" 2438,s "partner_places" 2439,u 2440,i 1556,i 2,i 0,i 0,i 3,r 1511,.bool true,i 181,r 1512,.none,r 1513,r 1514,r 1515,i 2447,i 1556,u 2448]
noncomputable def o1517(P:R):Obj:=fn (.type "function") (stAt 191) (S "partner_places") 3 .none .none .none (s "gateloom.elabitems" 2403) (r 1516) .none 0
noncomputable def o1520(P:R):Obj:=tp [s "scope" 2453]
noncomputable def o1522(P:R):Obj:=fn .none (stAt 192) (S "default_net") 0 .none .none .none .none .none .none 0
noncomputable def o1523(P:R):Obj:=c [s "default_net" 2450,s "default_net" 2451,u 2452,i 1565,i 1,i 0,i 0,i 3,r 1518,.bool true,i 181,r 1519,.none,r 1520,r 1521,r 1522,i 2454,i 1565,u 2455]
noncomputable def o1524(P:R):Obj:=fn (.type "function") (stAt 192) (S "default_net") 3 .none .none .none (s "gateloom.elabitems" 2403) (r 1523) .none 0
noncomputable def o1527(P:R):Obj:=tp [s "scope" 2460,s "port" 2461,s "partner" 2462,s "_" 2463,s "at" 2464,s "direction" 2465,s "signed" 2466,s "bounds" 2467,s "name" 2468,s "arrays" 2469]
noncomputable def o1529(P:R):Obj:=fn .none (stAt 193) (S "port_shape") 0 .none .none .none .none .none .none 0
noncomputable def o1530(P:R):Obj:=c [s "port_shape" 2457,s "port_shape" 2458,u 2459,i 1569,i 3,i 0,i 0,i 3,r 1525,.bool true,i 181,r 1526,.none,r 1527,r 1528,r 1529,i 2470,i 1569,u 2471]
noncomputable def o1531(P:R):Obj:=fn (.type "function") (stAt 193) (S "port_shape") 3 .none .none .none (s "gateloom.elabitems" 2403) (r 1530) .none 0
noncomputable def o1534(P:R):Obj:=tp [s "scope" 2476,s "port" 2477,s "partner" 2478,s "msb" 2479,s "lsb" 2480,s "fits" 2481]
noncomputable def o1536(P:R):Obj:=fn .none (stAt 194) (S "check_port_range") 0 .none .none .none .none .none .none 0
noncomputable def o1537(P:R):Obj:=c [s "check_port_range" 2473,s "check_port_range" 2474,u 2475,i 1585,i 3,i 0,i 0,i 3,r 1532,.bool true,i 181,r 1533,.none,r 1534,r 1535,r 1536,i 2482,i 1585,u 2483]
noncomputable def o1538(P:R):Obj:=fn (.type "function") (stAt 194) (S "check_port_range") 3 .none .none .none (s "gateloom.elabitems" 2403) (r 1537) .none 0
noncomputable def T12:Tt:=(k boot_o_0 (k boot_o_1 (k o3v12 (k boot_o_7 (k o11 (k o31 (k o63 (k o127 (k o11 (k o11 (l o1023) (l o11)) (m o767 (l o11))) (k o16 (m o639 (l o16)) (m o11 (l o1407)))) (k o191v3 (k o16 (m o575 (l o11)) (m o831 (l o1343))) (k o447 (m o703 (l o1215)) (m o959 (l o11))))) (k o11 (k o159 (k o287 (m o11 (l o11)) (m o799 (l o11))) (k o415 (m o671 (l o1183)) (m o927 (l o16)))) (k o223 (k o351 (m o16 (l o1119)) (m o11 (l o16))) (k o479 (m o11 (l o1247)) (m o991 (l o1503)))))) (k o47 (k o79 (k o143 (k o271 (m o527 (l o16)) (m o783 (l o1295))) (k o11 (m o11 (l o11)) (m o911 (l o1423)))) (k o195 (k o11 (m o591 (l o1103)) (m o16 (l o1359))) (k o463 (m o16 (l o1231)) (m o11 (l o1487))))) (k o11 (k o30 (k o303 (m o559 (l o1071)) (m o11 (l o1327))) (k o11 (m o687 (l o11)) (m o16 (l o1455)))) (k o239 (k o367 (m o11 (l o1135)) (m o879 (l o11))) (k o16 (m o751 (l o16)) (m o1007 (l o16))))))) (k o16 (k o11 (k o11 (k o11 (k o16 (m o519 (l o11)) (m o11 (l o1287))) (k o391 (m o647 (l o1159)) (m o16 (l o1415)))) (k o16 (k o327 (m o583 (l o16)) (m o11 (l o1351))) (k o11 (m o11 (l o11)) (m o967 (l o16))))) (k o103 (k o167 (k o295 (m o16 (l o1063)) (m o807 (l o16))) (k o423 (m o11 (l o1191)) (m o11 (l o1447)))) (k o231 (k o359 (m o615 (l o1127)) (m o871 (l o1383))) (k o11 (m o743 (l o11)) (m o11 (l o11)))))) (k o55 (k o87 (k o151 (k o11 (m o535 (l o1047)) (m o791 (l o1303))) (k o407 (m o16 (l o1175)) (m o11 (l o11)))) (k o215 (k o343 (m o11 (l o11)) (m o855 (l o11))) (k o471 (m o727 (l o1239)) (m o16 (l o11))))) (k o16 (k o16 (k o11 (m o11 (l o1079)) (m o11 (l o11))) (k o16 (m o695 (l o16)) (m o951 (l o1463)))) (k o247 (k o30 (m o631 (l o11)) (m o887 (l o1399))) (k o503 (m o759 (l o1271)) (m o1015 (l o1527)))))))) (k o11 (k o19 (k o35 (k o11 (k o131 (k o259 (m o11 (l o11)) (m o771 (l o11))) (k o387 (m o643 (l o1155)) (m o899 (l o1411)))) (k o195 (k o323 (m o16 (l o1091)) (m o835 (l o16))) (k o451 (m o11 (l o1219)) (m o963 (l o1475))))) (k o11 (k o11 (k o16 (m o547 (l o11)) (m o803 (l o1315))) (k o419 (m o675 (l o1187)) (m o16 (l o1443)))) (k o11 (k o355 (m o611 (l o16)) (m o11 (l o1379))) (k o11 (m o11 (l o11)) (m o995 (l o16)))))) (k o16 (k o83 (k o16 (k o275 (m o531 (l o1043)) (m o16 (l o1299))) (k o11 (m o659 (l o11)) (m o915 (l o11)))) (k o16 (k o11 (m o11 (l o1107)) (m o851 (l o1363))) (k o16 (m o723 (l o16)) (m o979 (l o1491))))) (k o115 (k o179 (k o11 (m o563 (l o1075)) (m o819 (l o1331))) (k o435 (m o16 (l o1203)) (m o11 (l o1459)))) (k o243 (k o371 (m o11 (l o11)) (m o883 (l o11))) (k o499 (m o755 (l o1267)) (m o16 (l o1523))))))) (k o27 (k o11 (k o75 (k o11 (k o267 (m o16 (l o1035)) (m o11 (l o30))) (k o395 (m o11 (l o1163)) (m o907 (l o1419)))) (k o203 (k o331 (m o587 (l o1099)) (m o843 (l o1355))) (k o11 (m o715 (l o11)) (m o11 (l o1483))))) (k o107 (k o171 (k o299 (m o555 (l o16)) (m o11 (l o1323))) (k o11 (m o11 (l o11)) (m o939 (l o1451)))) (k o16 (k o11 (m o619 (l o1131)) (m o16 (l o1387))) (k o491 (m o16 (l o1259)) (m o11 (l o1515)))))) (k o59 (k o91 (k o155 (k o11 (m o11 (l o1051)) (m o795 (l o11))) (k o411 (m o667 (l o16)) (m o11 (l o1435)))) (k o11 (k o16 (m o603 (l o11)) (m o859 (l o1371))) (k o475 (m o731 (l o1243)) (m o987 (l o11))))) (k o123 (k o187 (k o315 (m o11 (l o11)) (m o11 (l o11))) (k o443 (m o699 (l o1211)) (m o16 (l o11)))) (k o11 (k o379 (m o16 (l o1147)) (m o11 (l o16))) (k o507 (m o763 (l o1275)) (m o1019 (l o1531))))))))) (k boot_o_5 (k boot_o_9 (k o17 (k o33 (k o16 (k o129 (k o257 (k o513 (l o16) (l o1537)) (m o769 (l o1281))) (k o11 (m o11 (l o11)) (m o897 (l o11)))) (k o193 (k o11 (m o577 (l o1089)) (m o833 (l o1345))) (k o449 (m o16 (l o1217)) (m o11 (l o1473))))) (k o97 (k o16 (k o289 (m o545 (l o1057)) (m o11 (l o1313))) (k o11 (m o673 (l o11)) (m o929 (l o11)))) (k o225 (k o11 (m o11 (l o1121)) (m o865 (l o11))) (k o16 (m o737 (l o16)) (m o993 (l o1505)))))) (k o49 (k o81 (k o145 (k o273 (m o11 (l o11)) (m o785 (l o11))) (k o401 (m o657 (l o1169)) (m o913 (l o16)))) (k o209 (k o337 (m o16 (l o1105)) (m o11 (l o1361))) (k o465 (m o11 (l o1233)) (m o977 (l o1489))))) (k o113 (k o11 (k o16 (m o561 (l o11)) (m o817 (l o1329))) (k o433 (m o689 (l o1201)) (m o945 (l o11)))) (k o11 (k o369 (m o625 (l o16)) (m o11 (l o1393))) (k o11 (m o11 (l o11)) (m o1009 (l o11))))))) (k o11 (k o41 (k o73 (k o137 (k o11 (m o521 (l o1033)) (m o777 (l o1289))) (k o393 (m o16 (l o1161)) (m o11 (l o11)))) (k o201 (k o329 (m o11 (l o11)) (m o841 (l o11))) (k o457 (m o713 (l o1225)) (m o16 (l o11))))) (k o105 (k o169 (k o11 (m o11 (l o1065)) (m o16 (l o11))) (k o16 (m o681 (l o16)) (m o937 (l o1449)))) (k o233 (k o16 (m o617 (l o11)) (m o873 (l o1385))) (k o489 (m o745 (l o1257)) (m o1001 (l o1513)))))) (k o11 (k o89 (k o11 (k o281 (m o16 (l o1049)) (m o793 (l o16))) (k o409 (m o11 (l o1177)) (m o921 (l o1433)))) (k o217 (k o345 (m o601 (l o1113)) (m o857 (l o1369))) (k o11 (m o729 (l o11)) (m o11 (l o1497))))) (k o11 (k o11 (k o313 (m o569 (l o16)) (m o825 (l o1337))) (k o11 (m o11 (l o11)) (m o953 (l o16)))) (k o16 (k o11 (m o633 (l o1145)) (m o16 (l o1401))) (k o505 (m o16 (l o1273)) (m o11 (l o1529)))))))) (k o13 (k o21 (k o16 (k o69 (k o16 (k o261 (m o517 (l o1029)) (m o16 (l o1285))) (k o11 (m o645 (l o11)) (m o901 (l o1413)))) (k o197 (k o11 (m o11 (l o1093)) (m o837 (l o11))) (k o16 (m o709 (l o16)) (m o965 (l o1477))))) (k o101 (k o165 (k o11 (m o549 (l o1061)) (m o805 (l o1317))) (k o421 (m o16 (l o1189)) (m o933 (l o11)))) (k o229 (k o357 (m o11 (l o11)) (m o869 (l o11))) (k o485 (m o741 (l o1253)) (m o16 (l o1509)))))) (k o11 (k o11 (k o11 (k o16 (m o533 (l o11)) (m o11 (l o1301))) (k o405 (m o661 (l o1173)) (m o16 (l o1429)))) (k o213 (k o341 (m o597 (l o16)) (m o11 (l o1365))) (k o11 (m o11 (l o11)) (m o981 (l o16))))) (k o117 (k o181 (k o309 (m o16 (l o1077)) (m o16 (l o16))) (k o437 (m o11 (l o1205)) (m o949 (l o1461)))) (k o245 (k o373 (m o629 (l o1141)) (m o885 (l o1397))) (k o11 (m o757 (l o11)) (m o11 (l o11))))))) (k o11 (k o45 (k o77 (k o141 (k o11 (m o11 (l o1037)) (m o781 (l o11))) (k o16 (m o653 (l o16)) (m o11 (l o1421)))) (k o205 (k o30 (m o589 (l o11)) (m o845 (l o1357))) (k o461 (m o717 (l o1229)) (m o973 (l o11))))) (k o109 (k o173 (k o301 (m o11 (l o11)) (m o813 (l o11))) (k o429 (m o685 (l o1197)) (m o941 (l o16)))) (k o11 (k o365 (m o16 (l o1133)) (m o11 (l o16))) (k o493 (m o11 (l o1261)) (m o1005 (l o1517)))))) (k o61 (k o16 (k o157 (k o285 (m o541 (l o16)) (m o797 (l o1309))) (k o413 (m o11 (l o11)) (m o925 (l o1437)))) (k o221 (k o11 (m o605 (l o1117)) (m o16 (l o1373))) (k o477 (m o16 (l o1245)) (m o11 (l o1501))))) (k o11 (k o189 (k o317 (m o573 (l o1085)) (m o829 (l o1341))) (k o11 (m o701 (l o11)) (m o11 (l o1469)))) (k o253 (k o381 (m o11 (l o1149)) (m o893 (l o11))) (k o16 (m o11 (l o16)) (m o1021 (l o16)))))))))) (k o2v2 (k boot_o_4 (k boot_o_8 (k o16 (k o11 (k o11 (k o11 (k o16 (k o512 (l o11) (l o1536)) (m o11 (l o1280))) (k o384 (m o640 (l o1152)) (m o16 (l o1408)))) (k o192 (k o320 (m o576 (l o16)) (m o832 (l o1344))) (k o11 (m o11 (l o11)) (m o960 (l o16))))) (k o96 (k o11 (k o288 (m o16 (l o1056)) (m o800 (l o16))) (k o416 (m o11 (l o1184)) (m o928 (l o1440)))) (k o224 (k o352 (m o608 (l o1120)) (m o864 (l o1376))) (k o11 (m o736 (l o11)) (m o11 (l o1504)))))) (k o48 (k o80 (k o144 (k o11 (m o528 (l o1040)) (m o784 (l o1296))) (k o400 (m o16 (l o1168)) (m o11 (l o11)))) (k o30 (k o336 (m o11 (l o11)) (m o848 (l o1360))) (k o464 (m o720 (l o1232)) (m o16 (l o11))))) (k o30 (k o176 (k o11 (m o11 (l o1072)) (m o16 (l o11))) (k o16 (m o688 (l o16)) (m o944 (l o1456)))) (k o240 (k o368 (m o624 (l o11)) (m o880 (l o1392))) (k o496 (m o752 (l o1264)) (m o1008 (l o1520))))))) (k o11 (k o40 (k o16 (k o136 (k o264 (m o520 (l o16)) (m o776 (l o1288))) (k o11 (m o11 (l o11)) (m o904 (l o1416)))) (k o200 (k o11 (m o584 (l o1096)) (m o16 (l o1352))) (k o456 (m o16 (l o1224)) (m o11 (l o1480))))) (k o104 (k o168 (k o296 (m o552 (l o1064)) (m o11 (l o1320))) (k o11 (m o680 (l o11)) (m o16 (l o11)))) (k o232 (k o11 (m o11 (l o1128)) (m o872 (l o11))) (k o16 (m o744 (l o16)) (m o1000 (l o16)))))) (k o56 (k o11 (k o152 (k o280 (m o11 (l o11)) (m o792 (l o11))) (k o408 (m o664 (l o1176)) (m o920 (l o16)))) (k o216 (k o344 (m o16 (l o1112)) (m o11 (l o16))) (k o472 (m o11 (l o1240)) (m o984 (l o1496))))) (k o120 (k o184 (k o16 (m o568 (l o11)) (m o824 (l o1336))) (k o440 (m o696 (l o1208)) (m o952 (l o11)))) (k o11 (k o376 (m o632 (l o16)) (m o11 (l o1400))) (k o11 (m o11 (l o11)) (m o1016 (l o11)))))))) (k o12v12 (k o20 (k o11 (k o68 (k o11 (k o260 (m o16 (l o1028)) (m o11 (l o16))) (k o388 (m o11 (l o1156)) (m o900 (l o11)))) (k o30 (k o324 (m o580 (l o1092)) (m o836 (l o1348))) (k o11 (m o708 (l o11)) (m o11 (l o1476))))) (k o16 (k o164 (k o292 (m o548 (l o16)) (m o11 (l o1316))) (k o11 (m o11 (l o11)) (m o932 (l o1444)))) (k o16 (k o11 (m o612 (l o1124)) (m o16 (l o1380))) (k o484 (m o16 (l o1252)) (m o11 (l o1508)))))) (k o52 (k o84 (k o148 (k o11 (m o11 (l o1044)) (m o788 (l o11))) (k o16 (m o660 (l o16)) (m o11 (l o1428)))) (k o212 (k o16 (m o596 (l o11)) (m o852 (l o1364))) (k o468 (m o724 (l o1236)) (m o980 (l o11))))) (k o116 (k o180 (k o308 (m o11 (l o11)) (m o11 (l o11))) (k o436 (m o692 (l o1204)) (m o16 (l o11)))) (k o11 (k o372 (m o16 (l o1140)) (m o11 (l o16))) (k o500 (m o11 (l o1268)) (m o1012 (l o1524))))))) (k o28 (k o16 (k o76 (k o16 (k o268 (m o524 (l o1036)) (m o16 (l o1292))) (k o11 (m o652 (l o11)) (m o908 (l o11)))) (k o204 (k o11 (m o11 (l o1100)) (m o844 (l o11))) (k o16 (m o716 (l o16)) (m o972 (l o1484))))) (k o108 (k o172 (k o11 (m o556 (l o1068)) (m o812 (l o1324))) (k o428 (m o16 (l o1196)) (m o940 (l o11)))) (k o236 (k o364 (m o11 (l o11)) (m o876 (l o11))) (k o492 (m o748 (l o1260)) (m o16 (l o1516)))))) (k o11 (k o11 (k o11 (k o16 (m o540 (l o11)) (m o11 (l o1308))) (k o412v8 (m o668 (l o1180)) (m o16 (l o1436)))) (k o16 (k o348 (m o604 (l o16)) (m o11 (l o1372))) (k o11 (m o11 (l o11)) (m o988 (l o16))))) (k o124 (k o188 (k o316 (m o16 (l o1084)) (m o16 (l o16))) (k o444 (m o11 (l o1212)) (m o956 (l o1468)))) (k o252 (k o380 (m o636 (l o1148)) (m o892 (l o1404))) (k o11 (m o764 (l o11)) (m o11 (l o11))))))))) (k boot_o_6 (k boot_o_10 (k o11 (k o34 (k o66 (k o130 (k o11 (k o514 (l o1026) (l o1538)) (m o770 (l o1282))) (k o386 (m o16 (l o1154)) (m o11 (l o16)))) (k o194 (k o322 (m o11 (l o11)) (m o834 (l o11))) (k o450 (m o706 (l o1218)) (m o16 (l o11))))) (k o98 (k o162 (k o11 (m o11 (l o1058)) (m o16 (l o11))) (k o16 (m o674 (l o16)) (m o11 (l o1442)))) (k o226 (k o16 (m o610 (l o11)) (m o866 (l o1378))) (k o482 (m o738 (l o1250)) (m o994 (l o11)))))) (k o11 (k o82 (k o11 (k o274 (m o16 (l o1042)) (m o11 (l o16))) (k o402 (m o11 (l o1170)) (m o914 (l o1426)))) (k o11 (k o338 (m o594 (l o1106)) (m o850 (l o1362))) (k o11 (m o722 (l o11)) (m o11 (l o1490))))) (k o11 (k o178 (k o306 (m o562 (l o16)) (m o818 (l o1330))) (k o11 (m o11 (l o11)) (m o946 (l o16)))) (k o16 (k o370 (m o626 (l o1138)) (m o16 (l o1394))) (k o498 (m o16 (l o1266)) (m o11 (l o1522))))))) (k o26 (k o42 (k o11 (k o138 (k o266 (m o11 (l o11)) (m o778 (l o11))) (k o394 (m o650 (l o1162)) (m o906 (l o16)))) (k o11 (k o330 (m o16 (l o1098)) (m o11 (l o16))) (k o458 (m o11 (l o1226)) (m o970 (l o1482))))) (k o106 (k o170 (k o16 (m o554 (l o11)) (m o810 (l o1322))) (k o426 (m o682 (l o1194)) (m o11 (l o1450)))) (k o11 (k o362 (m o618 (l o16)) (m o11 (l o1386))) (k o11 (m o11 (l o11)) (m o1002 (l o11)))))) (k o16 (k o90 (k o16 (k o282 (m o538 (l o1050)) (m o30 (l o1306))) (k o410 (m o666 (l o11)) (m o922 (l o11)))) (k o218 (k o11 (m o11 (l o1114)) (m o858 (l o11))) (k o16 (m o730 (l o16)) (m o986 (l o1498))))) (k o122 (k o186 (k o11 (m o570 (l o1082)) (m o826 (l o1338))) (k o442 (m o16 (l o1210)) (m o11 (l o1466)))) (k o250 (k o378 (m o11 (l o11)) (m o890 (l o11))) (k o506 (m o762 (l o1274)) (m o16 (l o1530)))))))) (k o14 (k o11 (k o38 (k o70 (k o134 (k o11 (m o11 (l o1030)) (m o774 (l o11))) (k o16 (m o646 (l o16)) (m o11 (l o1414)))) (k o11 (k o16 (m o582 (l o11)) (m o838 (l o1350))) (k o454 (m o710 (l o1222)) (m o966 (l o11))))) (k o102 (k o166 (k o294 (m o11 (l o11)) (m o806 (l o11))) (k o422 (m o678 (l o1190)) (m o934 (l o16)))) (k o11 (k o358 (m o16 (l o1126)) (m o11 (l o16))) (k o486 (m o11 (l o1254)) (m o998 (l o1510)))))) (k o54 (k o30 (k o150 (k o278 (m o534 (l o16)) (m o790 (l o1302))) (k o11 (m o11 (l o11)) (m o918 (l o1430)))) (k o11 (k o11 (m o598 (l o1110)) (m o16 (l o1366))) (k o470 (m o16 (l o1238)) (m o11 (l o1494))))) (k o11 (k o11 (k o310 (m o566 (l o1078)) (m o822 (l o1334))) (k o11 (m o694 (l o11)) (m o11 (l o1462)))) (k o246 (k o11 (m o11 (l o1142)) (m o886 (l o11))) (k o16 (m o758 (l o16)) (m o1014 (l o16))))))) (k o30 (k o11 (k o78 (k o11 (k o16 (m o526 (l o11)) (m o11 (l o1294))) (k o398 (m o654 (l o1166)) (m o16 (l o1422)))) (k o206 (k o334 (m o590 (l o16)) (m o11 (l o1358))) (k o11 (m o11 (l o11)) (m o974 (l o16))))) (k o110 (k o174 (k o302 (m o16 (l o1070)) (m o814 (l o16))) (k o430 (m o11 (l o1198)) (m o11 (l o1454)))) (k o238 (k o366 (m o622 (l o1134)) (m o878 (l o1390))) (k o11 (m o750 (l o11)) (m o11 (l o11)))))) (k o62 (k o94 (k o158 (k o11 (m o542 (l o1054)) (m o798 (l o1310))) (k o414 (m o16 (l o1182)) (m o11 (l o11)))) (k o11 (k o350 (m o11 (l o11)) (m o862 (l o11))) (k o478 (m o734 (l o1246)) (m o16 (l o11))))) (k o16 (k o190 (k o11 (m o11 (l o1086)) (m o11 (l o11))) (k o16 (m o702 (l o16)) (m o958 (l o1470)))) (k o254 (k o11 (m o638 (l o11)) (m o894 (l o1406))) (k o510 (m o16 (l o1278)) (m o1022 (l o1534)))))))))))
noncomputable def o3v13(P:R):Obj:=dc (.type "dict") (en P "__name__" 165 (s "law_rg0151_01" 2633) :: (E3 P).tail.take 193) 194
noncomputable def o12v13(P:R):Obj:=fl .none (L12.take 534)
noncomputable def o1541(P:R):Obj:=tp [s "scope" 2488,s "key" 2489,s "kind" 2490,s "signed" 2491,s "bounds" 2492,s "port" 2493,s "width" 2494,s "is_signed" 2495,s "msb" 2496,s "lsb" 2497,s "outer" 2498,s "told" 2499]
noncomputable def o1543(P:R):Obj:=fn .none (stAt 195) (S "joined_entry") 0 .none .none .none .none .none .none 0
noncomputable def o1544(P:R):Obj:=c [s "joined_entry" 2485,s "joined_entry" 2486,u 2487,i 1594,i 6,i 0,i 0,i 3,r 1539,.bool true,i 181,r 1540,.none,r 1541,r 1542,r 1543,i 2500,i 1594,u 2501]
noncomputable def o1545(P:R):Obj:=fn (.type "function") (stAt 195) (S "joined_entry") 3 .none .none .none (s "gateloom.elabitems" 2403) (r 1544) .none 0
noncomputable def o1548(P:R):Obj:=tp [s "item" 2506]
noncomputable def o1550(P:R):Obj:=fn .none (stAt 196) (S "check_net_delay") 0 .none .none .none .none .none .none 0
noncomputable def o1551(P:R):Obj:=c [s "check_net_delay" 2503,s "check_net_delay" 2504,u 2505,i 1603,i 1,i 0,i 0,i 3,r 1546,.bool true,i 181,r 1547,.none,r 1548,r 1549,r 1550,i 2507,i 1603,u 2508]
noncomputable def o1552(P:R):Obj:=fn (.type "function") (stAt 196) (S "check_net_delay") 3 .none .none .none (s "gateloom.elabitems" 2403) (r 1551) .none 0
noncomputable def o1555(P:R):Obj:=dc (.type "dict") [en P "__module__" 2517 (s "gateloom.elabitems" 2403),en P "__qualname__" 2519 (s "Declarer" 2518),en P "__firstlineno__" 2521 (.int 1606 2520),en P "__init__" 2533 (r 1566),en P "run" 2541 (r 1573),en P "item" 2552 (r 1580),en P "called" 2562 (r 1587),en P "routine" 2571 (r 1594),en P "port" 2587 (r 1601),en P "signal" 2604 (r 1608),en P "value" 2613 (r 1615),en P "__static_attributes__" 2625 (r 1616)] 12
noncomputable def o1557(P:R):Obj:=fl .none [i 1608,i 4,r 1565,i 1624,i 4,r 1572,i 1629,i 4,r 1579,i 1647,i 4,r 1586,i 1656,i 4,r 1593,i 1665,i 4,r 1600,i 1688,i 4,r 1607,i 1710,i 4,r 1614]
noncomputable def o1558(P:R):Obj:=c [s "Declarer" 2512,s "Declarer" 2513,u 2514,i 1606,i 0,i 0,i 0,i 0,r 1556,.bool false,i 181,r 1557,.none,.none,.none,.none,i 2515,i 1606,u 2516]
noncomputable def o1559(P:R):Obj:=⟨.type "frame",none,.plain,#[some (r 1558),some (r 3),some (r 1555),none,some (s "gateloom.elabitems" 2403),none,some (r 0)]⟩
noncomputable def o1562(P:R):Obj:=tp [s "self" 2525,s "scope" 2526,s "items" 2527,s "given" 2528,s "links" 2529,s "place" 2530]
noncomputable def o1564(P:R):Obj:=fn .none (inC (stAt 197) 0) (S "Declarer.__init__") 0 .none .none .none .none .none .none 0
noncomputable def o1565(P:R):Obj:=c [s "__init__" 2522,s "Declarer.__init__" 2523,u 2524,i 1608,i 5,i 0,i 0,i 3,r 1560,.bool true,i 181,r 1561,.none,r 1562,r 1563,r 1564,i 2531,i 1608,u 2532]
noncomputable def o1566(P:R):Obj:=fn (.type "function") (inC (stAt 197) 0) (S "Declarer.__init__") 3 .none .none .none (s "gateloom.elabitems" 2403) (r 1565) .none 0
noncomputable def o1569(P:R):Obj:=tp [s "self" 2537,s "place" 2538]
noncomputable def o1571(P:R):Obj:=fn .none (inC (stAt 197) 1) (S "Declarer.run") 0 .none .none .none .none .none .none 0
noncomputable def o1572(P:R):Obj:=c [s "run" 2534,s "Declarer.run" 2535,u 2536,i 1624,i 1,i 0,i 0,i 3,r 1567,.bool true,i 181,r 1568,.none,r 1569,r 1570,r 1571,i 2539,i 1624,u 2540]
noncomputable def o1573(P:R):Obj:=fn (.type "function") (inC (stAt 197) 1) (S "Declarer.run") 3 .none .none .none (s "gateloom.elabitems" 2403) (r 1572) .none 0
noncomputable def o1576(P:R):Obj:=tp [s "self" 2545,s "place" 2546,s "item" 2547,s "tag" 2548,s "given" 2549]
noncomputable def o1578(P:R):Obj:=fn .none (inC (stAt 197) 2) (S "Declarer.item") 0 .none .none .none .none .none .none 0
noncomputable def o1579(P:R):Obj:=c [s "item" 2542,s "Declarer.item" 2543,u 2544,i 1629,i 2,i 0,i 0,i 3,r 1574,.bool true,i 181,r 1575,.none,r 1576,r 1577,r 1578,i 2550,i 1629,u 2551]
noncomputable def o1580(P:R):Obj:=fn (.type "function") (inC (stAt 197) 2) (S "Declarer.item") 3 .none .none .none (s "gateloom.elabitems" 2403) (r 1579) .none 0
noncomputable def o1583(P:R):Obj:=tp [s "self" 2556,s "node" 2557,s "name" 2558,s "place" 2559]
noncomputable def o1585(P:R):Obj:=fn .none (inC (stAt 197) 3) (S "Declarer.called") 0 .none .none .none .none .none .none 0
noncomputable def o1586(P:R):Obj:=c [s "called" 2553,s "Declarer.called" 2554,u 2555,i 1647,i 2,i 0,i 0,i 3,r 1581,.bool true,i 181,r 1582,.none,r 1583,r 1584,r 1585,i 2560,i 1647,u 2561]
noncomputable def o1587(P:R):Obj:=fn (.type "function") (inC (stAt 197) 3) (S "Declarer.called") 3 .none .none .none (s "gateloom.elabitems" 2403) (r 1586) .none 0
noncomputable def o1590(P:R):Obj:=tp [s "self" 2566,s "place" 2567,s "item" 2568]
noncomputable def o1592(P:R):Obj:=fn .none (inC (stAt 197) 4) (S "Declarer.routine") 0 .none .none .none .none .none .none 0
noncomputable def o1593(P:R):Obj:=c [s "routine" 2563,s "Declarer.routine" 2564,u 2565,i 1656,i 2,i 0,i 0,i 3,r 1588,.bool true,i 181,r 1589,.none,r 1590,r 1591,r 1592,i 2569,i 1656,u 2570]
noncomputable def o1594(P:R):Obj:=fn (.type "function") (inC (stAt 197) 4) (S "Declarer.routine") 3 .none .none .none (s "gateloom.elabitems" 2403) (r 1593) .none 0
noncomputable def o1597(P:R):Obj:=tp [s "self" 2575,s "place" 2576,s "port" 2577,s "name" 2578,s "partner" 2579,s "behind" 2580,s "kind" 2581,s "signed" 2582,s "bounds" 2583,s "entry" 2584]
noncomputable def o1599(P:R):Obj:=fn .none (inC (stAt 197) 5) (S "Declarer.port") 0 .none .none .none .none .none .none 0
noncomputable def o1600(P:R):Obj:=c [s "port" 2572,s "Declarer.port" 2573,u 2574,i 1665,i 2,i 0,i 0,i 3,r 1595,.bool true,i 181,r 1596,.none,r 1597,r 1598,r 1599,i 2585,i 1665,u 2586]
noncomputable def o1601(P:R):Obj:=fn (.type "function") (inC (stAt 197) 5) (S "Declarer.port") 3 .none .none .none (s "gateloom.elabitems" 2403) (r 1600) .none 0
noncomputable def o1604(P:R):Obj:=tp [s "self" 2591,s "place" 2592,s "item" 2593,s "name" 2594,s "_" 2595,s "at" 2596,s "kind" 2597,s "signed" 2598,s "bounds" 2599,s "arrays" 2600,s "value" 2601]
noncomputable def o1606(P:R):Obj:=fn .none (inC (stAt 197) 6) (S "Declarer.signal") 0 .none .none .none .none .none .none 0
noncomputable def o1607(P:R):Obj:=c [s "signal" 2588,s "Declarer.signal" 2589,u 2590,i 1688,i 2,i 0,i 0,i 3,r 1602,.bool true,i 181,r 1603,.none,r 1604,r 1605,r 1606,i 2602,i 1688,u 2603]
noncomputable def o1608(P:R):Obj:=fn (.type "function") (inC (stAt 197) 6) (S "Declarer.signal") 3 .none .none .none (s "gateloom.elabitems" 2403) (r 1607) .none 0
noncomputable def o1611(P:R):Obj:=tp [s "self" 2608,s "partner" 2609,s "key" 2610]
noncomputable def o1613(P:R):Obj:=fn .none (inC (stAt 197) 7) (S "Declarer.value") 0 .none .none .none .none .none .none 0
noncomputable def o1614(P:R):Obj:=c [s "value" 2605,s "Declarer.value" 2606,u 2607,i 1710,i 2,i 0,i 0,i 3,r 1609,.bool true,i 181,r 1610,.none,r 1611,r 1612,r 1613,i 2611,i 1710,u 2612]
noncomputable def o1615(P:R):Obj:=fn (.type "function") (inC (stAt 197) 7) (S "Declarer.value") 3 .none .none .none (s "gateloom.elabitems" 2403) (r 1614) .none 0
noncomputable def o1616(P:R):Obj:=tp [s "asked" 2614,s "done" 2615,s "given" 2616,s "items" 2617,s "links" 2618,s "net_values" 2619,s "partners" 2620,s "ports" 2621,s "routines" 2622,s "scope" 2623,s "unchecked" 2624]
noncomputable def o1617(P:R):Obj:=dc (.type "dict") [en P "__module__" 2517 (s "gateloom.elabitems" 2403),en P "__firstlineno__" 2521 (.int 1606 2520),en P "__init__" 2533 (r 1566),en P "run" 2541 (r 1573),en P "item" 2552 (r 1580),en P "called" 2562 (r 1587),en P "routine" 2571 (r 1594),en P "port" 2587 (r 1601),en P "signal" 2604 (r 1608),en P "value" 2613 (r 1615),en P "__static_attributes__" 2625 (r 1616),en P "__dict__" 2627 (r 1619),en P "__weakref__" 2629 (r 1620),en P "__doc__" 2630 .none] 4
noncomputable def o1618(P:R):Obj:=⟨.type "type",none,.cls { name:=(S "Declarer"),bases:=[.type "object"],mro:=[r 1618,.type "object"],ns:=1617,qualname:=(S "Declarer"),hasDict:=true,slotNames:=[],subclasses:=[],abstract:=false,collection:=none,hasDel:=false },#[none,none,some (s "Declarer" 2510),some (s "Declarer" 2518),some (.builtin "object.__new__"),some (.bool true)]⟩
noncomputable def o1619(P:R):Obj:=fl (.type "getset_descriptor") [s "__dict__" 2626,r 1618,.builtin "function.__dict__",.builtin "function.__dict__#set"]
noncomputable def o1620(P:R):Obj:=fl (.type "getset_descriptor") [s "__weakref__" 2628,r 1618,.builtin "ExceptionGroup.__weakref__",.none]
noncomputable def o1621(P:R):Obj:=fl (.type "super") [r 1618,r 1618,r 1618]
noncomputable def o1622(P:R):Obj:=fl (.type "builtin_function_or_method") [.builtin "object.__init_subclass__",r 1618]
noncomputable def o1625(P:R):Obj:=tp [s "state" 2638,s "most" 2639,s "row" 2640,s "at" 2641]
noncomputable def o1627(P:R):Obj:=fn .none (stAt 199) (S "_law_take") 0 .none .none .none .none .none .none 0
noncomputable def o1628(P:R):Obj:=c [s "_law_take" 2635,s "_law_take" 2636,u 2637,i 1722,i 2,i 0,i 0,i 3,r 1623,.bool true,i 181,r 1624,.none,r 1625,r 1626,r 1627,i 2642,i 1722,u 2643]
noncomputable def o1629(P:R):Obj:=fn (.type "function") (stAt 199) (S "_law_take") 3 .none .none .none (s "law_rg0151_01" 2633) (r 1628) .none 0
noncomputable def o1632(P:R):Obj:=tp [s "figure" 2648]
noncomputable def o1634(P:R):Obj:=fn .none (stAt 200) (S "_law_num") 0 .none .none .none .none .none .none 0
noncomputable def o1635(P:R):Obj:=c [s "_law_num" 2645,s "_law_num" 2646,u 2647,i 1728,i 1,i 0,i 0,i 3,r 1630,.bool true,i 181,r 1631,.none,r 1632,r 1633,r 1634,i 2649,i 1728,u 2650]
noncomputable def o1636(P:R):Obj:=fn (.type "function") (stAt 200) (S "_law_num") 3 .none .none .none (s "law_rg0151_01" 2633) (r 1635) .none 0
noncomputable def o1639(P:R):Obj:=tp [s "script" 2655,s "state" 2656,s "between" 2657,s "named" 2658,s "high" 2659,s "value" 2660,s "sort" 2661,s "design" 2662,s "scope" 2663,s "port" 2664,s "param" 2665,s "bounds" 2666,s "variable" 2667,s "items" 2668,s "ahead" 2669,s "extent" 2670,s "due" 2671,s "told" 2672,s "error" 2673,s "signal" 2674,s "other" 2675]
noncomputable def o1641(P:R):Obj:=fn .none (stAt 201) (S "law") 0 .none .none .none .none .none .none 0
noncomputable def o1642(P:R):Obj:=c [s "law" 2652,s "law" 2653,u 2654,i 1730,i 1,i 0,i 0,i 3,r 1637,.bool true,i 181,r 1638,.none,r 1639,r 1640,r 1641,i 2676,i 1730,u 2677]
noncomputable def o1643(P:R):Obj:=fn (.type "function") (stAt 201) (S "law") 3 .none .none .none (s "law_rg0151_01" 2633) (r 1642) .none 0
noncomputable def T13:Tt:=(k boot_o_0 (k boot_o_1 (k o3v13 (k boot_o_7 (k o11 (k o31 (k o63 (k o127 (k o11 (k o11 (l o1023) (l o11)) (m o767 (l o11))) (k o16 (m o639 (l o16)) (m o11 (l o1407)))) (k o191v3 (k o16 (k o575 (l o11) (l o1599)) (m o831 (l o1343))) (k o447 (m o703 (l o1215)) (m o959 (l o11))))) (k o11 (k o159 (k o287 (k o11 (l o11) (l o11)) (m o799 (l o11))) (k o415 (m o671 (l o1183)) (m o927 (l o16)))) (k o223 (k o351 (k o16 (l o1119) (l o16)) (m o11 (l o16))) (k o479 (m o11 (l o1247)) (m o991 (l o1503)))))) (k o47 (k o79 (k o143 (k o271 (k o527 (l o16) (l o1551)) (m o783 (l o1295))) (k o11 (m o11 (l o11)) (m o911 (l o1423)))) (k o195 (k o11 (k o591 (l o1103) (l o1615)) (m o16 (l o1359))) (k o463 (m o16 (l o1231)) (m o11 (l o1487))))) (k o11 (k o30 (k o303 (k o559 (l o1071) (l o1583)) (m o11 (l o1327))) (k o11 (m o687 (l o11)) (m o16 (l o1455)))) (k o239 (k o367 (m o11 (l o1135)) (m o879 (l o11))) (k o16 (m o751 (l o16)) (m o1007 (l o16))))))) (k o16 (k o11 (k o11 (k o11 (k o16 (k o519 (l o11) (l o1543)) (m o11 (l o1287))) (k o391 (m o647 (l o1159)) (m o16 (l o1415)))) (k o16 (k o327 (k o583 (l o16) (l o1607)) (m o11 (l o1351))) (k o11 (m o11 (l o11)) (m o967 (l o16))))) (k o103 (k o167 (k o295 (k o16 (l o1063) (l o16)) (m o807 (l o16))) (k o423 (m o11 (l o1191)) (m o11 (l o1447)))) (k o231 (k o359 (k o615 (l o1127) (l o1639)) (m o871 (l o1383))) (k o11 (m o743 (l o11)) (m o11 (l o11)))))) (k o55 (k o87 (k o151 (k o11 (k o535 (l o1047) (l o1559)) (m o791 (l o1303))) (k o407 (m o16 (l o1175)) (m o11 (l o11)))) (k o215 (k o343 (k o11 (l o11) (l o11)) (m o855 (l o11))) (k o471 (m o727 (l o1239)) (m o16 (l o11))))) (k o16 (k o16 (k o11 (k o11 (l o1079) (l o11)) (m o11 (l o11))) (k o16 (m o695 (l o16)) (m o951 (l o1463)))) (k o247 (k o30 (m o631 (l o11)) (m o887 (l o1399))) (k o503 (m o759 (l o1271)) (m o1015 (l o1527)))))))) (k o11 (k o19 (k o35 (k o11 (k o131 (k o259 (k o11 (l o11) (l o11)) (m o771 (l o11))) (k o387 (m o643 (l o1155)) (m o899 (l o1411)))) (k o195 (k o323 (k o16 (l o1091) (l o16)) (m o835 (l o16))) (k o451 (m o11 (l o1219)) (m o963 (l o1475))))) (k o11 (k o11 (k o16 (k o547 (l o11) (l o1571)) (m o803 (l o1315))) (k o419 (m o675 (l o1187)) (m o16 (l o1443)))) (k o11 (k o355 (k o611 (l o16) (l o1635)) (m o11 (l o1379))) (k o11 (m o11 (l o11)) (m o995 (l o16)))))) (k o16 (k o83 (k o16 (k o275 (k o531 (l o1043) (l o1555)) (m o16 (l o1299))) (k o11 (m o659 (l o11)) (m o915 (l o11)))) (k o16 (k o11 (k o11 (l o1107) (l o1619)) (m o851 (l o1363))) (k o16 (m o723 (l o16)) (m o979 (l o1491))))) (k o115 (k o179 (k o11 (k o563 (l o1075) (l o1587)) (m o819 (l o1331))) (k o435 (m o16 (l o1203)) (m o11 (l o1459)))) (k o243 (k o371 (m o11 (l o11)) (m o883 (l o11))) (k o499 (m o755 (l o1267)) (m o16 (l o1523))))))) (k o27 (k o11 (k o75 (k o11 (k o267 (k o16 (l o1035) (l o16)) (m o11 (l o30))) (k o395 (m o11 (l o1163)) (m o907 (l o1419)))) (k o203 (k o331 (k o587 (l o1099) (l o1611)) (m o843 (l o1355))) (k o11 (m o715 (l o11)) (m o11 (l o1483))))) (k o107 (k o171 (k o299 (k o555 (l o16) (l o1579)) (m o11 (l o1323))) (k o11 (m o11 (l o11)) (m o939 (l o1451)))) (k o16 (k o11 (k o619 (l o1131) (l o1643)) (m o16 (l o1387))) (k o491 (m o16 (l o1259)) (m o11 (l o1515)))))) (k o59 (k o91 (k o155 (k o11 (k o11 (l o1051) (l o11)) (m o795 (l o11))) (k o411 (m o667 (l o16)) (m o11 (l o1435)))) (k o11 (k o16 (k o603 (l o11) (l o1627)) (m o859 (l o1371))) (k o475 (m o731 (l o1243)) (m o987 (l o11))))) (k o123 (k o187 (k o315 (k o11 (l o11) (l o11)) (m o11 (l o11))) (k o443 (m o699 (l o1211)) (m o16 (l o11)))) (k o11 (k o379 (m o16 (l o1147)) (m o11 (l o16))) (k o507 (m o763 (l o1275)) (m o1019 (l o1531))))))))) (k boot_o_5 (k boot_o_9 (k o17 (k o33 (k o16 (k o129 (k o257 (k o513 (l o16) (l o1537)) (m o769 (l o1281))) (k o11 (m o11 (l o11)) (m o897 (l o11)))) (k o193 (k o11 (k o577 (l o1089) (l o1601)) (m o833 (l o1345))) (k o449 (m o16 (l o1217)) (m o11 (l o1473))))) (k o97 (k o16 (k o289 (k o545 (l o1057) (l o1569)) (m o11 (l o1313))) (k o11 (m o673 (l o11)) (m o929 (l o11)))) (k o225 (k o11 (k o11 (l o1121) (l o11)) (m o865 (l o11))) (k o16 (m o737 (l o16)) (m o993 (l o1505)))))) (k o49 (k o81 (k o145 (k o273 (k o11 (l o11) (l o11)) (m o785 (l o11))) (k o401 (m o657 (l o1169)) (m o913 (l o16)))) (k o209 (k o337 (k o16 (l o1105) (l o1617)) (m o11 (l o1361))) (k o465 (m o11 (l o1233)) (m o977 (l o1489))))) (k o113 (k o11 (k o16 (k o561 (l o11) (l o1585)) (m o817 (l o1329))) (k o433 (m o689 (l o1201)) (m o945 (l o11)))) (k o11 (k o369 (m o625 (l o16)) (m o11 (l o1393))) (k o11 (m o11 (l o11)) (m o1009 (l o11))))))) (k o11 (k o41 (k o73 (k o137 (k o11 (k o521 (l o1033) (l o1545)) (m o777 (l o1289))) (k o393 (m o16 (l o1161)) (m o11 (l o11)))) (k o201 (k o329 (k o11 (l o11) (l o11)) (m o841 (l o11))) (k o457 (m o713 (l o1225)) (m o16 (l o11))))) (k o105 (k o169 (k o11 (k o11 (l o1065) (l o11)) (m o16 (l o11))) (k o16 (m o681 (l o16)) (m o937 (l o1449)))) (k o233 (k o16 (k o617 (l o11) (l o1641)) (m o873 (l o1385))) (k o489 (m o745 (l o1257)) (m o1001 (l o1513)))))) (k o11 (k o89 (k o11 (k o281 (k o16 (l o1049) (l o16)) (m o793 (l o16))) (k o409 (m o11 (l o1177)) (m o921 (l o1433)))) (k o217 (k o345 (k o601 (l o1113) (l o1625)) (m o857 (l o1369))) (k o11 (m o729 (l o11)) (m o11 (l o1497))))) (k o11 (k o11 (k o313 (k o569 (l o16) (l o1593)) (m o825 (l o1337))) (k o11 (m o11 (l o11)) (m o953 (l o16)))) (k o16 (k o11 (m o633 (l o1145)) (m o16 (l o1401))) (k o505 (m o16 (l o1273)) (m o11 (l o1529)))))))) (k o13 (k o21 (k o16 (k o69 (k o16 (k o261 (k o517 (l o1029) (l o1541)) (m o16 (l o1285))) (k o11 (m o645 (l o11)) (m o901 (l o1413)))) (k o197 (k o11 (k o11 (l o1093) (l o11)) (m o837 (l o11))) (k o16 (m o709 (l o16)) (m o965 (l o1477))))) (k o101 (k o165 (k o11 (k o549 (l o1061) (l o1573)) (m o805 (l o1317))) (k o421 (m o16 (l o1189)) (m o933 (l o11)))) (k o229 (k o357 (k o11 (l o11) (l o11)) (m o869 (l o11))) (k o485 (m o741 (l o1253)) (m o16 (l o1509)))))) (k o11 (k o11 (k o11 (k o16 (k o533 (l o11) (l o1557)) (m o11 (l o1301))) (k o405 (m o661 (l o1173)) (m o16 (l o1429)))) (k o213 (k o341 (k o597 (l o16) (l o1621)) (m o11 (l o1365))) (k o11 (m o11 (l o11)) (m o981 (l o16))))) (k o117 (k o181 (k o309 (k o16 (l o1077) (l o16)) (m o16 (l o16))) (k o437 (m o11 (l o1205)) (m o949 (l o1461)))) (k o245 (k o373 (m o629 (l o1141)) (m o885 (l o1397))) (k o11 (m o757 (l o11)) (m o11 (l o11))))))) (k o11 (k o45 (k o77 (k o141 (k o11 (k o11 (l o1037) (l o11)) (m o781 (l o11))) (k o16 (m o653 (l o16)) (m o11 (l o1421)))) (k o205 (k o30 (k o589 (l o11) (l o1613)) (m o845 (l o1357))) (k o461 (m o717 (l o1229)) (m o973 (l o11))))) (k o109 (k o173 (k o301 (k o11 (l o11) (l o11)) (m o813 (l o11))) (k o429 (m o685 (l o1197)) (m o941 (l o16)))) (k o11 (k o365 (m o16 (l o1133)) (m o11 (l o16))) (k o493 (m o11 (l o1261)) (m o1005 (l o1517)))))) (k o61 (k o16 (k o157 (k o285 (k o541 (l o16) (l o1565)) (m o797 (l o1309))) (k o413 (m o11 (l o11)) (m o925 (l o1437)))) (k o221 (k o11 (k o605 (l o1117) (l o1629)) (m o16 (l o1373))) (k o477 (m o16 (l o1245)) (m o11 (l o1501))))) (k o11 (k o189 (k o317 (k o573 (l o1085) (l o1597)) (m o829 (l o1341))) (k o11 (m o701 (l o11)) (m o11 (l o1469)))) (k o253 (k o381 (m o11 (l o1149)) (m o893 (l o11))) (k o16 (m o11 (l o16)) (m o1021 (l o16)))))))))) (k o2v2 (k boot_o_4 (k boot_o_8 (k o16 (k o11 (k o11 (k o11 (k o16 (k o512 (l o11) (l o1536)) (m o11 (l o1280))) (k o384 (m o640 (l o1152)) (m o16 (l o1408)))) (k o192 (k o320 (k o576 (l o16) (l o1600)) (m o832 (l o1344))) (k o11 (m o11 (l o11)) (m o960 (l o16))))) (k o96 (k o11 (k o288 (k o16 (l o1056) (l o16)) (m o800 (l o16))) (k o416 (m o11 (l o1184)) (m o928 (l o1440)))) (k o224 (k o352 (k o608 (l o1120) (l o1632)) (m o864 (l o1376))) (k o11 (m o736 (l o11)) (m o11 (l o1504)))))) (k o48 (k o80 (k o144 (k o11 (k o528 (l o1040) (l o1552)) (m o784 (l o1296))) (k o400 (m o16 (l o1168)) (m o11 (l o11)))) (k o30 (k o336 (k o11 (l o11) (l o1616)) (m o848 (l o1360))) (k o464 (m o720 (l o1232)) (m o16 (l o11))))) (k o30 (k o176 (k o11 (k o11 (l o1072) (l o11)) (m o16 (l o11))) (k o16 (m o688 (l o16)) (m o944 (l o1456)))) (k o240 (k o368 (m o624 (l o11)) (m o880 (l o1392))) (k o496 (m o752 (l o1264)) (m o1008 (l o1520))))))) (k o11 (k o40 (k o16 (k o136 (k o264 (k o520 (l o16) (l o1544)) (m o776 (l o1288))) (k o11 (m o11 (l o11)) (m o904 (l o1416)))) (k o200 (k o11 (k o584 (l o1096) (l o1608)) (m o16 (l o1352))) (k o456 (m o16 (l o1224)) (m o11 (l o1480))))) (k o104 (k o168 (k o296 (k o552 (l o1064) (l o1576)) (m o11 (l o1320))) (k o11 (m o680 (l o11)) (m o16 (l o11)))) (k o232 (k o11 (k o11 (l o1128) (l o11)) (m o872 (l o11))) (k o16 (m o744 (l o16)) (m o1000 (l o16)))))) (k o56 (k o11 (k o152 (k o280 (k o11 (l o11) (l o11)) (m o792 (l o11))) (k o408 (m o664 (l o1176)) (m o920 (l o16)))) (k o216 (k o344 (k o16 (l o1112) (l o16)) (m o11 (l o16))) (k o472 (m o11 (l o1240)) (m o984 (l o1496))))) (k o120 (k o184 (k o16 (k o568 (l o11) (l o1592)) (m o824 (l o1336))) (k o440 (m o696 (l o1208)) (m o952 (l o11)))) (k o11 (k o376 (m o632 (l o16)) (m o11 (l o1400))) (k o11 (m o11 (l o11)) (m o1016 (l o11)))))))) (k o12v13 (k o20 (k o11 (k o68 (k o11 (k o260 (k o16 (l o1028) (l o16)) (m o11 (l o16))) (k o388 (m o11 (l o1156)) (m o900 (l o11)))) (k o30 (k o324 (k o580 (l o1092) (l o1604)) (m o836 (l o1348))) (k o11 (m o708 (l o11)) (m o11 (l o1476))))) (k o16 (k o164 (k o292 (k o548 (l o16) (l o1572)) (m o11 (l o1316))) (k o11 (m o11 (l o11)) (m o932 (l o1444)))) (k o16 (k o11 (k o612 (l o1124) (l o1636)) (m o16 (l o1380))) (k o484 (m o16 (l o1252)) (m o11 (l o1508)))))) (k o52 (k o84 (k o148 (k o11 (k o11 (l o1044) (l o11)) (m o788 (l o11))) (k o16 (m o660 (l o16)) (m o11 (l o1428)))) (k o212 (k o16 (k o596 (l o11) (l o1620)) (m o852 (l o1364))) (k o468 (m o724 (l o1236)) (m o980 (l o11))))) (k o116 (k o180 (k o308 (k o11 (l o11) (l o11)) (m o11 (l o11))) (k o436 (m o692 (l o1204)) (m o16 (l o11)))) (k o11 (k o372 (m o16 (l o1140)) (m o11 (l o16))) (k o500 (m o11 (l o1268)) (m o1012 (l o1524))))))) (k o28 (k o16 (k o76 (k o16 (k o268 (k o524 (l o1036) (l o1548)) (m o16 (l o1292))) (k o11 (m o652 (l o11)) (m o908 (l o11)))) (k o204 (k o11 (k o11 (l o1100) (l o11)) (m o844 (l o11))) (k o16 (m o716 (l o16)) (m o972 (l o1484))))) (k o108 (k o172 (k o11 (k o556 (l o1068) (l o1580)) (m o812 (l o1324))) (k o428 (m o16 (l o1196)) (m o940 (l o11)))) (k o236 (k o364 (m o11 (l o11)) (m o876 (l o11))) (k o492 (m o748 (l o1260)) (m o16 (l o1516)))))) (k o11 (k o11 (k o11 (k o16 (k o540 (l o11) (l o1564)) (m o11 (l o1308))) (k o412v8 (m o668 (l o1180)) (m o16 (l o1436)))) (k o16 (k o348 (k o604 (l o16) (l o1628)) (m o11 (l o1372))) (k o11 (m o11 (l o11)) (m o988 (l o16))))) (k o124 (k o188 (k o316 (k o16 (l o1084) (l o16)) (m o16 (l o16))) (k o444 (m o11 (l o1212)) (m o956 (l o1468)))) (k o252 (k o380 (m o636 (l o1148)) (m o892 (l o1404))) (k o11 (m o764 (l o11)) (m o11 (l o11))))))))) (k boot_o_6 (k boot_o_10 (k o11 (k o34 (k o66 (k o130 (k o11 (k o514 (l o1026) (l o1538)) (m o770 (l o1282))) (k o386 (m o16 (l o1154)) (m o11 (l o16)))) (k o194 (k o322 (k o11 (l o11) (l o11)) (m o834 (l o11))) (k o450 (m o706 (l o1218)) (m o16 (l o11))))) (k o98 (k o162 (k o11 (k o11 (l o1058) (l o11)) (m o16 (l o11))) (k o16 (m o674 (l o16)) (m o11 (l o1442)))) (k o226 (k o16 (k o610 (l o11) (l o1634)) (m o866 (l o1378))) (k o482 (m o738 (l o1250)) (m o994 (l o11)))))) (k o11 (k o82 (k o11 (k o274 (k o16 (l o1042) (l o30)) (m o11 (l o16))) (k o402 (m o11 (l o1170)) (m o914 (l o1426)))) (k o11 (k o338 (k o594 (l o1106) (l o1618)) (m o850 (l o1362))) (k o11 (m o722 (l o11)) (m o11 (l o1490))))) (k o11 (k o178 (k o306 (k o562 (l o16) (l o1586)) (m o818 (l o1330))) (k o11 (m o11 (l o11)) (m o946 (l o16)))) (k o16 (k o370 (m o626 (l o1138)) (m o16 (l o1394))) (k o498 (m o16 (l o1266)) (m o11 (l o1522))))))) (k o26 (k o42 (k o11 (k o138 (k o266 (k o11 (l o11) (l o11)) (m o778 (l o11))) (k o394 (m o650 (l o1162)) (m o906 (l o16)))) (k o11 (k o330 (k o16 (l o1098) (l o16)) (m o11 (l o16))) (k o458 (m o11 (l o1226)) (m o970 (l o1482))))) (k o106 (k o170 (k o16 (k o554 (l o11) (l o1578)) (m o810 (l o1322))) (k o426 (m o682 (l o1194)) (m o11 (l o1450)))) (k o11 (k o362 (k o618 (l o16) (l o1642)) (m o11 (l o1386))) (k o11 (m o11 (l o11)) (m o1002 (l o11)))))) (k o16 (k o90 (k o16 (k o282 (k o538 (l o1050) (l o1562)) (m o30 (l o1306))) (k o410 (m o666 (l o11)) (m o922 (l o11)))) (k o218 (k o11 (k o11 (l o1114) (l o11)) (m o858 (l o11))) (k o16 (m o730 (l o16)) (m o986 (l o1498))))) (k o122 (k o186 (k o11 (k o570 (l o1082) (l o1594)) (m o826 (l o1338))) (k o442 (m o16 (l o1210)) (m o11 (l o1466)))) (k o250 (k o378 (m o11 (l o11)) (m o890 (l o11))) (k o506 (m o762 (l o1274)) (m o16 (l o1530)))))))) (k o14 (k o11 (k o38 (k o70 (k o134 (k o11 (k o11 (l o1030) (l o11)) (m o774 (l o11))) (k o16 (m o646 (l o16)) (m o11 (l o1414)))) (k o11 (k o16 (k o582 (l o11) (l o1606)) (m o838 (l o1350))) (k o454 (m o710 (l o1222)) (m o966 (l o11))))) (k o102 (k o166 (k o294 (k o11 (l o11) (l o11)) (m o806 (l o11))) (k o422 (m o678 (l o1190)) (m o934 (l o16)))) (k o11 (k o358 (k o16 (l o1126) (l o16)) (m o11 (l o16))) (k o486 (m o11 (l o1254)) (m o998 (l o1510)))))) (k o54 (k o30 (k o150 (k o278 (k o534 (l o16) (l o1558)) (m o790 (l o1302))) (k o11 (m o11 (l o11)) (m o918 (l o1430)))) (k o11 (k o11 (k o598 (l o1110) (l o1622)) (m o16 (l o1366))) (k o470 (m o16 (l o1238)) (m o11 (l o1494))))) (k o11 (k o11 (k o310 (k o566 (l o1078) (l o1590)) (m o822 (l o1334))) (k o11 (m o694 (l o11)) (m o11 (l o1462)))) (k o246 (k o11 (m o11 (l o1142)) (m o886 (l o11))) (k o16 (m o758 (l o16)) (m o1014 (l o16))))))) (k o30 (k o11 (k o78 (k o11 (k o16 (k o526 (l o11) (l o1550)) (m o11 (l o1294))) (k o398 (m o654 (l o1166)) (m o16 (l o1422)))) (k o206 (k o334 (k o590 (l o16) (l o1614)) (m o11 (l o1358))) (k o11 (m o11 (l o11)) (m o974 (l o16))))) (k o110 (k o174 (k o302 (k o16 (l o1070) (l o16)) (m o814 (l o16))) (k o430 (m o11 (l o1198)) (m o11 (l o1454)))) (k o238 (k o366 (m o622 (l o1134)) (m o878 (l o1390))) (k o11 (m o750 (l o11)) (m o11 (l o11)))))) (k o62 (k o94 (k o158 (k o11 (k o542 (l o1054) (l o1566)) (m o798 (l o1310))) (k o414 (m o16 (l o1182)) (m o11 (l o11)))) (k o11 (k o350 (k o11 (l o11) (l o11)) (m o862 (l o11))) (k o478 (m o734 (l o1246)) (m o16 (l o11))))) (k o16 (k o190 (k o11 (k o11 (l o1086) (l o11)) (m o11 (l o11))) (k o16 (m o702 (l o16)) (m o958 (l o1470)))) (k o254 (k o11 (m o638 (l o11)) (m o894 (l o1406))) (k o510 (m o16 (l o1278)) (m o1022 (l o1534)))))))))))
end
noncomputable abbrev envT : Env := { scope := PW.main.scope, locals := mainNs, globals := mainNs, cells := [], code := .ref 13, frame := some 14 }
noncomputable abbrev cdT : Code := .body bd envT
noncomputable abbrev sRun := @PySem.W.Fast.tw10110043849684766642
noncomputable abbrev tB := PySem.W.Fast.tw14364793385576792824
noncomputable abbrev exs := @PySem.W.Fast.tw12563942051412417395
noncomputable def Piece (n : Nat) (T : BT) (sz tk : Nat) (l : List Stmt) (p : Pos) (T' : BT) (sz' tk' : Nat) (p' : Pos) (w : World) (os : OsState) : Prop :=
  sRun tB PW w 11 (some (.ref 6)) 1 n ⟨T, sz, {}, #[], {}, tk, os⟩ ⟨(exs l envT).wrap doneF deadEnd id id, cdT, p, [topFrame ⟨0, 0, 0, 0⟩]⟩ = some (.next, ⟨T', sz', {}, #[], {}, tk', os⟩, cdT, p')
end Mine
namespace Mine
open PySem PySem.W PySem.Calls PyProof.Rows
noncomputable def sts0 : List Stmt := (bd.drop 0).take 5
theorem pc0 (w : World) (os : OsState) : Piece 732 (T0 w.params) 15 187 sts0 ⟨0, 0, 0, 0⟩ (T1 w.params) 111 339 ⟨53, 0, 72, 67⟩ w os := by unfold Piece; kernel_rfl
noncomputable def sts1 : List Stmt := (bd.drop 5).take 3
theorem pc1 (w : World) (os : OsState) : Piece 689 (T1 w.params) 111 339 sts1 ⟨53, 0, 72, 67⟩ (T2 w.params) 195 479 ⟨119, 0, 124, 28⟩ w os := by unfold Piece; kernel_rfl
noncomputable def sts2 : List Stmt := (bd.drop 8).take 14
theorem pc2 (w : World) (os : OsState) : Piece 776 (T2 w.params) 195 479 sts2 ⟨119, 0, 124, 28⟩ (T3 w.params) 297 610 ⟨157, 0, 167, 40⟩ w os := by unfold Piece; kernel_rfl
noncomputable def sts3 : List Stmt := (bd.drop 22).take 7
theorem pc3 (w : World) (os : OsState) : Piece 506 (T3 w.params) 297 610 sts3 ⟨157, 0, 167, 40⟩ (T4 w.params) 374 733 ⟨207, 0, 256, 19⟩ w os := by unfold Piece; kernel_rfl
noncomputable def sts4 : List Stmt := (bd.drop 29).take 16
theorem pc4 (w : World) (os : OsState) : Piece 786 (T4 w.params) 374 733 sts4 ⟨207, 0, 256, 19⟩ (T5 w.params) 515 937 ⟨369, 0, 373, 39⟩ w os := by unfold Piece; kernel_rfl
noncomputable def sts5 : List Stmt := (bd.drop 45).take 27
theorem pc5 (w : World) (os : OsState) : Piece 795 (T5 w.params) 515 937 sts5 ⟨369, 0, 373, 39⟩ (T6 w.params) 690 1167 ⟨463, 0, 482, 49⟩ w os := by unfold Piece; kernel_rfl
noncomputable def sts6 : List Stmt := (bd.drop 72).take 18
theorem pc6 (w : World) (os : OsState) : Piece 514 (T6 w.params) 690 1167 sts6 ⟨463, 0, 482, 49⟩ (T7 w.params) 793 1329 ⟨657, 0, 657, 11⟩ w os := by unfold Piece; kernel_rfl
noncomputable def sts7 : List Stmt := (bd.drop 90).take 14
theorem pc7 (w : World) (os : OsState) : Piece 773 (T7 w.params) 793 1329 sts7 ⟨657, 0, 657, 11⟩ (T8 w.params) 923 1515 ⟨817, 0, 824, 16⟩ w os := by unfold Piece; kernel_rfl
noncomputable def sts8 : List Stmt := (bd.drop 104).take 28
theorem pc8 (w : World) (os : OsState) : Piece 801 (T8 w.params) 923 1515 sts8 ⟨817, 0, 824, 16⟩ (T9 w.params) 1094 1746 ⟨1001, 0, 1017, 15⟩ w os := by unfold Piece; kernel_rfl
noncomputable def sts9 : List Stmt := (bd.drop 132).take 26
theorem pc9 (w : World) (os : OsState) : Piece 790 (T9 w.params) 1094 1746 sts9 ⟨1001, 0, 1017, 15⟩ (T10 w.params) 1255 2006 ⟨1268, 0, 1274, 71⟩ w os := by unfold Piece; kernel_rfl
noncomputable def sts10 : List Stmt := (bd.drop 158).take 13
theorem pc10 (w : World) (os : OsState) : Piece 777 (T10 w.params) 1255 2006 sts10 ⟨1268, 0, 1274, 71⟩ (T11 w.params) 1381 2206 ⟨1405, 0, 1405, 14⟩ w os := by unfold Piece; kernel_rfl
noncomputable def sts11 : List Stmt := (bd.drop 171).take 24
theorem pc11 (w : World) (os : OsState) : Piece 790 (T11 w.params) 1381 2206 sts11 ⟨1405, 0, 1405, 14⟩ (T12 w.params) 1539 2485 ⟨1585, 0, 1593, 57⟩ w os := by unfold Piece; kernel_rfl
noncomputable def sts12 : List Stmt := (bd.drop 195).take 7
theorem pc12 (w : World) (os : OsState) : Piece 673 (T12 w.params) 1539 2485 sts12 ⟨1585, 0, 1593, 57⟩ (T13 w.params) 1644 2679 ⟨1730, 0, 1770, 104⟩ w os := by unfold Piece; kernel_rfl
end Mine
namespace Mine
open PySem PySem.W PySem.Calls PyProof.Rows
theorem sRun_eq : @segRunT = @sRun := PySem.W.Fast.te10110043849684766642
theorem tB_eq : treeTable = tB := PySem.W.Fast.te14364793385576792824
theorem exs_eq : @execs = @exs := PySem.W.Fast.te12563942051412417395
theorem Piece.run {n : Nat} {T : BT} {sz tk : Nat} {l : List Stmt} {p : Pos} {T' : BT} {sz' tk' : Nat} {p' : Pos} {w : World} {os : OsState} (h : Piece n T sz tk l p T' sz' tk' p' w os) :
    segRun treeTable PW w 11 (some (.ref 6)) 1 n (SharedT.abs ⟨T, sz, {}, #[], {}, tk, os⟩) (piecesOf l envT cdT p [topFrame ⟨0, 0, 0, 0⟩]) = some (.next, SharedT.abs ⟨T', sz', {}, #[], {}, tk', os⟩, cdT, p') := by
  refine segRun_of (tb := treeTable) ?_
  unfold Piece at h
  rw [sRun_eq, tB_eq]
  unfold piecesOf
  rw [exs_eq]
  exact h
noncomputable abbrev tGo := @PySem.W.Fast.tw15667345088766844465
theorem tGo_eq : @topGo = @tGo := PySem.W.Fast.te15667345088766844465
noncomputable abbrev dnt := @PySem.W.Fast.tw11892475500146522536
theorem dnt_eq : @denote = @dnt := PySem.W.Fast.te11892475500146522536
theorem pre0 (w : World) (os : OsState) : tGo tB PW w 11 (some (.ref 6)) 12 ⟨boot_heap w.params, #[], boot_drawn, boot_toks, os⟩ (topStub PW) =
    some (SharedT.abs ⟨T0 w.params, 15, {}, #[], {}, 187, os⟩, ⟨dnt tB cdT, cdT, ⟨0, 0, 0, 0⟩, [topFrame ⟨0, 0, 0, 0⟩]⟩) := by kernel_rfl
theorem pre1 (w : World) (os : OsState) : topGo treeTable PW w 11 (some (.ref 6)) 12 ⟨boot_heap w.params, #[], boot_drawn, boot_toks, os⟩ (topStub PW) =
    some (SharedT.abs ⟨T0 w.params, 15, {}, #[], {}, 187, os⟩, ⟨denote treeTable cdT, cdT, ⟨0, 0, 0, 0⟩, [topFrame ⟨0, 0, 0, 0⟩]⟩) := by
  rw [tGo_eq, dnt_eq, tB_eq]; exact pre0 w os
theorem blk0 (w : World) (os : OsState) (S : Shared) : segRun treeTable PW w 11 (some (.ref 6)) 1 1 S (blockOf bd envT cdT ⟨0, 0, 0, 0⟩ [topFrame ⟨0, 0, 0, 0⟩]) = some (.next, S, cdT, ⟨0, 0, 0, 0⟩) := by kernel_rfl
theorem split0 : bd = sts0 ++ (sts1 ++ (sts2 ++ (sts3 ++ (sts4 ++ (sts5 ++ (sts6 ++ (sts7 ++ (sts8 ++ (sts9 ++ (sts10 ++ (sts11 ++ (sts12 ++ [])))))))))))) := by kernel_rfl
theorem fin0 (w : World) (S : Shared) : topRun treeTable PW w 11 (some (.ref 6)) 2 S ⟨doneF .next, cdT, ⟨1730, 0, 1770, 104⟩, [topFrame ⟨0, 0, 0, 0⟩]⟩ = some S := by kernel_rfl
theorem run0 (w : World) (os : OsState) : topRun treeTable PW w 11 (some (.ref 6)) (12 + (1 + (732 + (689 + (776 + (506 + (786 + (795 + (514 + (773 + (801 + (790 + (777 + (790 + (673 + 2))))))))))))))) ⟨boot_heap w.params, #[], boot_drawn, boot_toks, os⟩ (topStub PW) =
    some (SharedT.abs ⟨T13 w.params, 1644, {}, #[], {}, 2679, os⟩) := by
  refine go_top (pre1 w os) ?_
  refine piece_block (blk0 w os _) ?_
  rw [split0]
  refine piece_app (pc0 w os).run ?_
  refine piece_app (pc1 w os).run ?_
  refine piece_app (pc2 w os).run ?_
  refine piece_app (pc3 w os).run ?_
  refine piece_app (pc4 w os).run ?_
  refine piece_app (pc5 w os).run ?_
  refine piece_app (pc6 w os).run ?_
  refine piece_app (pc7 w os).run ?_
  refine piece_app (pc8 w os).run ?_
  refine piece_app (pc9 w os).run ?_
  refine piece_app (pc10 w os).run ?_
  refine piece_app (pc11 w os).run ?_
  refine piece_app (pc12 w os).run ?_
  exact fin0 w _
theorem open0 : ∀ w : World, (fencedOpening treeTable PW w 20000).map (fun s => (s.heap, s.gens, s.drawn, s.toks)) = some (boot_heap w.params, Array.mk [], boot_drawn, boot_toks) :=
  boot_open (p := PW) (by kernel_rfl) (by decide) (fun s => by kernel_rfl)
theorem size0 (w : World) : ((boot_heap w.params).isNs mainGlobals && (Array.mk ([] : List GenState)).size == 0, (boot_heap w.params).objs.size, (boot_heap w.params).nsMap mainGlobals "__annotations__") = (true, 11, some (.ref 6)) := by kernel_rfl
end Mine
namespace Mine
open PySem PySem.W PySem.Calls PyProof.Rows
theorem bi_app : ∀ (a b : List Stmt), bearImports (a ++ b) = (bearImports a || bearImports b)
  | [], _ => rfl
  | s :: r, b => by
    show (bearsImport s || bearImports (r ++ b)) = ((bearsImport s || bearImports r) || bearImports b)
    rw [bi_app r b, Bool.or_assoc]
theorem bi0 : bearImports sts0 = false := by kernel_rfl
theorem bi1 : bearImports sts1 = false := by kernel_rfl
theorem bi2 : bearImports sts2 = false := by kernel_rfl
theorem bi3 : bearImports sts3 = false := by kernel_rfl
theorem bi4 : bearImports sts4 = false := by kernel_rfl
theorem bi5 : bearImports sts5 = false := by kernel_rfl
theorem bi6 : bearImports sts6 = false := by kernel_rfl
theorem bi7 : bearImports sts7 = false := by kernel_rfl
theorem bi8 : bearImports sts8 = false := by kernel_rfl
theorem bi9 : bearImports sts9 = false := by kernel_rfl
theorem bi10 : bearImports sts10 = false := by kernel_rfl
theorem bi11 : bearImports sts11 = false := by kernel_rfl
theorem bi12 : bearImports sts12 = false := by kernel_rfl
theorem bi_bd : bearImports bd = false := by
  rw [split0]
  simp only [bi_app, bi0, bi1, bi2, bi3, bi4, bi5, bi6, bi7, bi8, bi9, bi10, bi11, bi12]
  rfl
theorem tame0 : (opening PW).tameTopW = true := by kernel_rfl
theorem ow1 : opensWell (OpenLaw.row PySem.Challenge.rw_rg0151_01).prog = true := by
  show ((opening PW).tameTopW && !bearImports bd) = true
  rw [tame0, bi_bd]; rfl
end Mine
namespace Mine
open PySem PySem.W PySem.Calls PyProof.Rows
noncomputable def looseL : List Str := [(S "_wall"), (S "net_kinds"), (S "Signal"), (S "Routine"), (S "Design"), (S "GateloomError"), (S "DesignError"), (S "LimitReached"), (S "mask"), (S "vec"), (S "zeros"), (S "ones"), (S "all_x"), (S "all_z"), (S "from_int"), (S "is_known"), (S "to_int"), (S "code"), (S "slice_vec"), (S "put_slice"), (S "concat"), (S "extend"), (S "z_to_x"), (S "truth"), (S "Store"), (S "Context"), (S "add"), (S "sub"), (S "mul"), (S "neg"), (S "quotient"), (S "div"), (S "mod"), (S "raise_whole"), (S "power"), (S "shift_left"), (S "shift_right"), (S "shift_arith"), (S "ordered"), (S "less"), (S "less_equal"), (S "greater"), (S "greater_equal"), (S "one_bit"), (S "bit_not"), (S "bit_and"), (S "bit_or"), (S "bit_xor"), (S "bit_xnor"), (S "reduce_and"), (S "reduce_nand"), (S "reduce_or"), (S "reduce_nor"), (S "reduce_xor"), (S "reduce_xnor"), (S "logic_not"), (S "logic_and"), (S "logic_or"), (S "equal"), (S "not_equal"), (S "case_equal"), (S "case_not_equal"), (S "matches"), (S "choose"), (S "unary"), (S "arithmetic"), (S "comparison"), (S "bitwise"), (S "binary"), (S "whole_of"), (S "memory_word"), (S "picked"), (S "conditional"), (S "bits_needed"), (S "system_value"), (S "system_value_evaluate"), (S "evaluate"), (S "locate"), (S "holder_width"), (S "resolve_target"), (S "store_rows"), (S "DEPTH_LIMIT"), (S "FunctionContext"), (S "run_block"), (S "run_set"), (S "run_case"), (S "run_while"), (S "run_repeat"), (S "run_for"), (S "run_statement"), (S "children"), (S "subexpressions"), (S "expr_reads"), (S "expr_calls"), (S "target_indexes"), (S "target_writes"), (S "stmt_parts"), (S "substatements"), (S "stmt_targets"), (S "stmt_exprs"), (S "stmt_reads"), (S "stmt_writes"), (S "stmt_calls"), (S "MAX_WIDTH"), (S "last_select"), (S "is_memory"), (S "shape"), (S "shape_elabparts"), (S "read_entry"), (S "folds"), (S "folded"), (S "checked_width"), (S "selected"), (S "text_vec"), (S "inner_join"), (S "is_context_operator"), (S "is_shift"), (S "widen"), (S "number_value"), (S "is_changing"), (S "asks_system"), (S "is_constant"), (S "MOST_NESTING"), (S "path_names"), (S "entry_of"), (S "base_entry"), (S "select_width"), (S "select_where"), (S "named_type"), (S "named_value"), (S "function_of"), (S "call_value"), (S "system_type"), (S "system_value_elabexpr"), (S "joined_parts"), (S "copies"), (S "joined_width"), (S "joined_value"), (S "both_types"), (S "expr_type"), (S "unary_value"), (S "binary_value"), (S "build"), (S "self_determined"), (S "sized"), (S "constant_vec"), (S "constant"), (S "constant_sized"), (S "whole"), (S "small_whole"), (S "range_of"), (S "Scope"), (S "MOST_WIDTH"), (S "MOST_WORDS"), (S "width_of"), (S "shape_elabdecl"), (S "array_bounds"), (S "declare_signal"), (S "declare_event"), (S "set_initial"), (S "parameter_value"), (S "declare_parameter"), (S "uses_frame"), (S "declare_local"), (S "declare_variable"), (S "declare_inner"), (S "variables_by_name"), (S "declare_port"), (S "declare_result"), (S "declare_routine"), (S "is_port_name"), (S "called_names"), (S "are_names_known"), (S "declared_name"), (S "port_items"), (S "partner_places"), (S "default_net"), (S "port_shape"), (S "check_port_range"), (S "joined_entry"), (S "check_net_delay"), (S "Declarer"), (S "_law_take"), (S "_law_num")]
noncomputable def KF (P : Params) : Frag := [(0, boot_o_0 P), (2, o2v2 P), (3, o3v13 P), (41, o41 P), (42, o42 P), (55, o55 P), (56, o56 P), (79, o79 P), (80, o80 P), (105, o105 P), (106, o106 P), (123, o123 P), (124, o124 P), (130, o130 P), (131, o131 P), (137, o137 P), (138, o138 P), (168, o168 P), (169, o169 P), (181, o181 P), (187, o187 P), (188, o188 P), (190, o190 P), (191, o191v3 P), (203, o203 P), (204, o204 P), (215, o215 P), (216, o216 P), (224, o224 P), (225, o225 P), (226, o226 P), (232, o232 P), (233, o233 P), (281, o281 P), (282, o282 P), (288, o288 P), (289, o289 P), (316, o316 P), (317, o317 P), (344, o344 P), (345, o345 P), (368, o368 P), (369, o369 P), (381, o381 P), (387, o387 P), (388, o388 P), (411, o411 P), (412, o412v8 P), (763, o763 P), (764, o764 P), (835, o835 P), (836, o836 P), (893, o893 P), (894, o894 P), (980, o980 P), (981, o981 P), (987, o987 P), (988, o988 P), (994, o994 P), (995, o995 P), (1001, o1001 P), (1002, o1002 P), (1008, o1008 P), (1009, o1009 P), (1015, o1015 P), (1016, o1016 P), (1022, o1022 P), (1023, o1023 P), (1064, o1064 P), (1065, o1065 P), (1071, o1071 P), (1072, o1072 P), (1106, o1106 P), (1107, o1107 P), (1134, o1134 P), (1135, o1135 P), (1141, o1141 P), (1142, o1142 P), (1211, o1211 P), (1212, o1212 P), (1232, o1232 P), (1233, o1233 P), (1239, o1239 P), (1240, o1240 P), (1246, o1246 P), (1247, o1247 P), (1253, o1253 P), (1254, o1254 P), (1260, o1260 P), (1261, o1261 P), (1267, o1267 P), (1268, o1268 P), (1274, o1274 P), (1275, o1275 P), (1288, o1288 P), (1289, o1289 P), (1302, o1302 P), (1303, o1303 P), (1316, o1316 P), (1317, o1317 P), (1330, o1330 P), (1331, o1331 P), (1361, o1361 P), (1362, o1362 P), (1372, o1372 P), (1373, o1373 P), (1379, o1379 P), (1380, o1380 P), (1393, o1393 P), (1394, o1394 P), (1407, o1407 P), (1408, o1408 P), (1414, o1414 P), (1415, o1415 P), (1416, o1416 P), (1422, o1422 P), (1423, o1423 P), (1490, o1490 P), (1491, o1491 P), (1497, o1497 P), (1498, o1498 P), (1504, o1504 P), (1505, o1505 P), (1509, o1509 P), (1510, o1510 P), (1516, o1516 P), (1517, o1517 P), (1530, o1530 P), (1531, o1531 P), (1537, o1537 P), (1538, o1538 P), (1565, o1565 P), (1566, o1566 P), (1572, o1572 P), (1573, o1573 P), (1579, o1579 P), (1580, o1580 P), (1586, o1586 P), (1587, o1587 P), (1600, o1600 P), (1601, o1601 P), (1607, o1607 P), (1608, o1608 P), (1614, o1614 P), (1615, o1615 P), (1617, o1617 P), (1618, o1618 P), (1628, o1628 P), (1629, o1629 P), (1635, o1635 P), (1636, o1636 P), (1642, o1642 P), (1643, o1643 P)]
noncomputable def asL : List Addr := [0, 2, 3, 41, 42, 55, 56, 79, 80, 105, 106, 123, 124, 130, 131, 137, 138, 168, 169, 181, 187, 188, 190, 191, 203, 204, 215, 216, 224, 225, 226, 232, 233, 281, 282, 288, 289, 316, 317, 344, 345, 368, 369, 381, 387, 388, 411, 412, 763, 764, 835, 836, 893, 894, 980, 981, 987, 988, 994, 995, 1001, 1002, 1008, 1009, 1015, 1016, 1022, 1023, 1064, 1065, 1071, 1072, 1106, 1107, 1134, 1135, 1141, 1142, 1211, 1212, 1232, 1233, 1239, 1240, 1246, 1247, 1253, 1254, 1260, 1261, 1267, 1268, 1274, 1275, 1288, 1289, 1302, 1303, 1316, 1317, 1330, 1331, 1361, 1362, 1372, 1373, 1379, 1380, 1393, 1394, 1407, 1408, 1414, 1415, 1416, 1422, 1423, 1490, 1491, 1497, 1498, 1504, 1505, 1509, 1510, 1516, 1517, 1530, 1531, 1537, 1538, 1565, 1566, 1572, 1573, 1579, 1580, 1586, 1587, 1600, 1601, 1607, 1608, 1614, 1615, 1617, 1618, 1628, 1629, 1635, 1636, 1642, 1643]
noncomputable def qv : Program := { PW with main := { PW.main with body := bd.drop 201 } }
noncomputable def H1 (P : Params) : Heap := absHeap (T13 P) 1644 {}
noncomputable abbrev oSeen := @PySem.W.Fast.tw4187177175401517315
theorem oSeen_eq : @openSeen = @oSeen := PySem.W.Fast.te4187177175401517315
theorem look1 (w : World) (os : OsState) : staticsOk (importedModules PW.main.body) (boot_heap w.params) (H1 w.params) = true := by kernel_rfl
theorem look2 (w : World) (os : OsState) : namesBound PW (H1 w.params) = true := by kernel_rfl
theorem look3 (w : World) (os : OsState) : gensDone ⟨H1 w.params, #[], {}, 2679, os⟩ = true := by kernel_rfl
theorem look4 (w : World) (os : OsState) : laidKept (boot_heap w.params) (H1 w.params) = true := by kernel_rfl
theorem look6 (w : World) (os : OsState) : X.obsZ asL ⟨H1 w.params, #[], {}, 2679, os⟩ = X.valZ KF 1644 2679 w := by kernel_rfl
end Mine
namespace Mine
open PySem PySem.W PySem.Calls PyProof.Rows
theorem look5a (w : World) (os : OsState) : oSeen qv looseL (importedModules PW.main.body) (fun _ => true) true ⟨H1 w.params, #[], {}, 2679, os⟩ = openGood qv looseL := by kernel_rfl
theorem look5 (w : World) (os : OsState) : openSeen qv looseL (importedModules PW.main.body) (fun _ => true) true ⟨H1 w.params, #[], {}, 2679, os⟩ = openGood qv looseL := by
  rw [oSeen_eq]; exact look5a w os
theorem left0 : LeftO PW qv looseL (fun _ => true) (X.obsZ asL) (X.valZ KF 1644 2679) 20000 :=
  LeftO.of_pieces (H₀ := fun P => boot_heap P) (H₁ := H1) (open_ := open0) (size := size0) (run := fun w os => run0 w os) (le := by kernel_rfl)
    (looks := fun w => funext fun os => by rw [look1 w os, look2 w os, look3 w os, look4 w os, look5 w os, look6 w os]; rfl)
end Mine
namespace Mine
open PySem PySem.W PySem.Calls PyProof.Rows
inductive V where
  | none | bool (b : Bool) | int (i : Int) | str (k : Nat) | ref (n : Nat) | fn (a : Addr) | cl (a : Addr) | bi (k : Nat) | ty (k : Nat)
  deriving Inhabited
noncomputable abbrev En := List (Nat × V)
inductive O where
  | tup (l : List V) | list (l : List V) | rev (n k : Nat) | dict (l : En) | inst (c : Addr) (l : En) | range (n : Nat) | any | row | iter (k n i : Nat)
  deriving Inhabited
inductive Tr where
  | nil | node (v : O) (l r : Tr)
  deriving Inhabited
namespace Tr
noncomputable def get (t : Tr) : Nat → Option O := @Tr.rec (fun _ => Nat → Option O) (fun _ => Option.none)
  (fun v _ _ L R i => @Bool.rec (fun _ => Option O) (@Bool.rec (fun _ => Option O) (R (Nat.sub (Nat.div i 2) 1)) (L (Nat.div i 2)) (Nat.beq (Nat.mod i 2) 1)) (some v) (Nat.beq i 0)) t
noncomputable def set (t : Tr) (o : O) : Nat → Tr := @Tr.rec (fun _ => Nat → Tr) (fun _ => .nil)
  (fun v l r L R i => @Bool.rec (fun _ => Tr) (@Bool.rec (fun _ => Tr) (.node v l (R (Nat.sub (Nat.div i 2) 1))) (.node v (L (Nat.div i 2)) r) (Nat.beq (Nat.mod i 2) 1)) (.node o l r) (Nat.beq i 0)) t
noncomputable def ins (t : Tr) (o : O) : Nat → Tr := @Tr.rec (fun _ => Nat → Tr) (fun _ => .node o .nil .nil)
  (fun v l r L R i => @Bool.rec (fun _ => Tr) (@Bool.rec (fun _ => Tr) (.node v l (R (Nat.sub (Nat.div i 2) 1))) (.node v (L (Nat.div i 2)) r) (Nat.beq (Nat.mod i 2) 1)) (.node o l r) (Nat.beq i 0)) t
end Tr
structure St where
  env : En
  h : Tr
  n : Nat
  deriving Inhabited
inductive Res (α : Type) where
  | ok (a : α) (s : St)
  | exc (e : Nat) (s : St)
  | bad (why : Nat)
noncomputable def Res.bind {α β : Type} (x : Res α) (f : α → St → Res β) : Res β := @Res.rec α (fun _ => Res β) f (fun e s => .exc e s) (fun w => .bad w) x
inductive X where
  | nil | cons (a b : X)
  | nm (k : Nat) | cst (v : V) | neg (n : Nat) | bin (op : Operator) (a b : X) | not (a : X) | bop (op : BoolOp) (l : X) | ife (t a b : X)
  | list (l : X) | tup (l : X) | dict | cmp (op : CmpOp) (a b : X) | call (f : Nat) (l : X) | meth (o : X) (x : Nat) (l : X) | attr (o : X) (x : Nat)
  | item (o i : X) | cut (o : X) (lo : Nat) (hi : Option Nat)
  | sx (e : X) | ret (e : X) | ret0 | asg (t e : X) | aug (o : X) (x : Nat) (op : Operator) (e : X) | sif (t a b : X) | whl (t b : X) | for_ (x : Nat) (e b : X) | pass
  | rais (c : Nat) (l : X) | fin (b f : X) | ctc (c x : Nat) (b h : X)
  deriving Inhabited
noncomputable def look (l : En) (x : Nat) : Option V := @List.rec (Nat × V) (fun _ => Option V) Option.none (fun p _ r => @Bool.rec (fun _ => Option V) r (some p.2) (Nat.beq p.1 x)) l
noncomputable def put (l : En) (x : Nat) (v : V) : En := @List.rec (Nat × V) (fun _ => En) [(x, v)] (fun p l r => @Bool.rec (fun _ => En) (p :: r) ((p.1, v) :: l) (Nat.beq p.1 x)) l
noncomputable def del (l : En) (x : Nat) : En := @List.rec (Nat × V) (fun _ => En) [] (fun p _ r => @Bool.rec (fun _ => En) (p :: r) r (Nat.beq p.1 x)) l
noncomputable def memN (x : Nat) (l : List Nat) : Bool := @List.rec Nat (fun _ => Bool) false (fun y _ r => @Bool.rec (fun _ => Bool) r true (Nat.beq y x)) l
noncomputable def intE : Int → Int → Bool
  | .ofNat a, .ofNat b => Nat.beq a b
  | .negSucc a, .negSucc b => Nat.beq a b
  | _, _ => false
noncomputable def intLt : Int → Int → Bool
  | .ofNat a, .ofNat b => Nat.blt a b
  | .negSucc _, .ofNat _ => true
  | .ofNat _, .negSucc _ => false
  | .negSucc a, .negSucc b => Nat.blt b a
noncomputable def vEq (a b : V) : Option Bool := match a with
  | .none => match b with
    | .none => some true
    | .int _ => some false
    | .str _ => some false
    | _ => Option.none
  | .bool true => match b with
    | .bool b => some b
    | _ => Option.none
  | .bool false => match b with
    | .bool b => some (!b)
    | _ => Option.none
  | .int i => match b with
    | .int j => some (intE i j)
    | .none => some false
    | .str _ => some false
    | _ => Option.none
  | .str i => match b with
    | .str j => some (Nat.beq i j)
    | .none => some false
    | .int _ => some false
    | _ => Option.none
  | _ => Option.none
noncomputable def vsEq : List V → List V → Option Bool
  | [], [] => some true
  | a :: l, b :: r => match vEq a b with
    | some true => vsEq l r
    | x => x
  | [], _ :: _ => some false
  | _ :: _, [] => some false
noncomputable def St.get (s : St) (n : Nat) : Option O := s.h.get n
noncomputable def St.set (s : St) (n : Nat) (o : O) : St := { s with h := s.h.set o n }
noncomputable def pushK (n : Nat) (en : En) (t : Tr) (o : Option O) : Res V := match o with
  | some _ => .ok (.ref n) ⟨en, t, Nat.succ n⟩
  | Option.none => .bad 1
noncomputable def szL {α : Type} (l : List α) : Bool := Nat.ble l.length 1000
noncomputable def okO : O → Bool
  | .tup l => szL l
  | .list l => szL l
  | .rev _ k => Nat.ble k 1000
  | .dict l => szL l
  | .inst _ l => szL l
  | .range n => Nat.ble n 1000
  | .any => true
  | .row => true
  | .iter _ n _ => Nat.ble n 1000000
noncomputable def push (o : O) (s : St) : Res V := match okO o with
  | true => pushK s.n s.env (s.h.ins o s.n) ((s.h.ins o s.n).get s.n)
  | false => .bad 80
noncomputable def setR {α : Type} (a : α) (n : Nat) (o : O) (s : St) : Res α := match okO o with
  | true => .ok a (s.set n o)
  | false => .bad 81
noncomputable def tupAt (s : St) (v : V) : Option (List V) := match v with
  | .ref i => match s.get i with
    | some (.tup l) => some l
    | _ => Option.none
  | _ => Option.none
noncomputable def flatV : V → Bool
  | .none => true
  | .bool _ => true
  | .int _ => true
  | .str _ => true
  | _ => false
noncomputable def allFlat (l : List V) : Bool := @List.rec V (fun _ => Bool) true (fun v _ r => @Bool.rec (fun _ => Bool) false r (flatV v)) l
noncomputable def opEqL (l r : List V) : Option Bool := match allFlat l with
  | true => match allFlat r with
    | true => vsEq l r
    | false => Option.none
  | false => Option.none
noncomputable def opEqN (l : List V) : Option Bool := match allFlat l with
  | true => some false
  | false => Option.none
noncomputable def opEqT (a b : V) (s : St) : Option Bool := match tupAt s a with
  | some l => match tupAt s b with
    | some r => opEqL l r
    | Option.none => match b with
      | .none => opEqN l
      | _ => Option.none
  | Option.none => match a with
    | .none => match tupAt s b with
      | some r => opEqN r
      | _ => Option.none
    | _ => Option.none
noncomputable def opEq (a b : V) (s : St) : Option Bool := match vEq a b with
  | some r => some r
  | Option.none => opEqT a b s
noncomputable def strIn (x : Nat) : List V → Option Bool
  | [] => some false
  | .str y :: r => match Nat.beq y x with
    | true => some true
    | false => strIn x r
  | _ :: _ => Option.none
noncomputable def isSome {α : Type} (o : Option α) : Bool := match o with
  | some _ => true
  | Option.none => false
noncomputable def opIn (a b : V) (s : St) : Option Bool := match a with
  | .str x => match b with
    | .ref j => match s.get j with
      | some (.dict l) => some (isSome (look l x))
      | some (.tup l) => match allFlat l with
        | true => strIn x l
        | false => Option.none
      | _ => Option.none
    | _ => Option.none
  | _ => Option.none
noncomputable def isNone : V → Bool
  | .none => true
  | _ => false
noncomputable def okB (b : Option Bool) (neg : Bool) (s : St) : Res V := match b with
  | some x => .ok (.bool (match neg with | true => !x | false => x)) s
  | Option.none => .bad 2
noncomputable def cIs (a b : V) (neg : Bool) (s : St) : Res V := match b with
  | .none => .ok (.bool (match neg with | true => !isNone a | false => isNone a)) s
  | _ => .bad 3
noncomputable def cLt (a b : V) (neg : Bool) (s : St) : Res V := match a with
  | .int x => match b with
    | .int y => .ok (.bool (match neg with | true => !intLt x y | false => intLt x y)) s
    | _ => .bad 4
  | _ => .bad 4
noncomputable def cmp (op : CmpOp) (a b : V) (s : St) : Res V := match op with
  | .Eq => okB (opEq a b s) false s
  | .NotEq => okB (opEq a b s) true s
  | .In => okB (opIn a b s) false s
  | .NotIn => okB (opIn a b s) true s
  | .Is => cIs a b false s
  | .IsNot => cIs a b true s
  | .Lt => cLt a b false s
  | .Gt => cLt b a false s
  | .LtE => cLt b a true s
  | .GtE => cLt a b true s
noncomputable def addT (a b : V) (l r : List V) (s : St) : Res V := match l with
  | [] => .ok b s
  | _ => match r with
    | [] => .ok a s
    | _ => push (.tup (l ++ r)) s
noncomputable def bAdd (cat : List (Nat × Nat × Nat)) (a b : V) (s : St) : Res V := match a with
  | .int x => match b with
    | .int y => .ok (.int (x + y)) s
    | _ => .bad 7
  | .str x => match b with
    | .str y => match cat.find? (fun p => Nat.beq p.1 x && Nat.beq p.2.1 y) with
      | some p => .ok (.str p.2.2) s
      | Option.none => .bad 5
    | _ => .bad 7
  | a => match tupAt s a with
    | some l => match tupAt s b with
      | some r => addT a b l r s
      | _ => .bad 5
    | _ => .bad 5
noncomputable def bNat (f : Nat → Nat → Nat) (a b : V) (s : St) : Res V := match a with
  | .int (.ofNat x) => match b with
    | .int (.ofNat y) => match Nat.blt x 18446744073709551616 with
      | true => match Nat.blt y 64 with
        | true => .ok (.int (.ofNat (f x y))) s
        | false => .bad 6
      | false => .bad 6
    | _ => .bad 6
  | _ => .bad 6
noncomputable def bAnd (a b : V) (s : St) : Res V := match a with
  | .int (.ofNat x) => match b with
    | .int (.ofNat y) => .ok (.int (.ofNat (Nat.land x y))) s
    | _ => .bad 6
  | _ => .bad 6
noncomputable def bSub (a b : V) (s : St) : Res V := match a with
  | .int x => match b with
    | .int y => .ok (.int (x - y)) s
    | _ => .bad 7
  | _ => .bad 7
noncomputable def bin (cat : List (Nat × Nat × Nat)) (op : Operator) (a b : V) (s : St) : Res V := match op with
  | .Add => bAdd cat a b s
  | .Sub => bSub a b s
  | .LShift => bNat Nat.shiftLeft a b s
  | .RShift => bNat Nat.shiftRight a b s
  | .BitAnd => bAnd a b s
  | _ => .bad 7
noncomputable def lenZ {α : Type} : List α → Bool
  | [] => true
  | _ => false
noncomputable def truth (a : V) (s : St) : Option Bool := match a with
  | .none => some false
  | .bool b => some b
  | .int x => some (!intE x (.ofNat 0))
  | .ref i => match s.get i with
    | some (.tup l) => some (!lenZ l)
    | some (.list l) => some (!lenZ l)
    | _ => Option.none
  | _ => Option.none
structure Fn where
  addr : Addr
  ps : List Nat
  dfl : List V
  body : X
  locs : List Nat
  cel : List Nat
  gl : En
  bz : Bool
noncomputable def Fn.busy (F : Fn) : Fn := ⟨F.addr, F.ps, F.dfl, F.body, F.locs, F.cel, F.gl, true⟩
structure Cl where
  addr : Addr
  init : Addr
  attrs : List Nat
  meths : List (Nat × Addr)
inductive Ft where
  | nil | node (f : Fn) (l r : Ft)
structure Cfg where
  fns : Ft
  cls : List Cl
  cat : List (Nat × Nat × Nat)
  take : Addr
  items : Addr
  excInit : Addr
  law : Addr
  exc : Addr
  orc : List (Nat × Int)
noncomputable def findFn (t : Ft) (a : Addr) : Option Fn := @Ft.rec (fun _ => Option Fn) Option.none
  (fun f _ _ L R => @Bool.rec (fun _ => Option Fn) (@Bool.rec (fun _ => Option Fn) R L (Nat.blt a f.addr)) (some f) (Nat.beq f.addr a)) t
noncomputable def findCl (l : List Cl) (a : Addr) : Option Cl := @List.rec Cl (fun _ => Option Cl) Option.none (fun c _ r => @Bool.rec (fun _ => Option Cl) r (some c) (Nat.beq c.addr a)) l
noncomputable def lookA (l : List (Nat × Addr)) (x : Nat) : Option Addr := @List.rec (Nat × Addr) (fun _ => Option Addr) Option.none (fun p _ r => @Bool.rec (fun _ => Option Addr) r (some p.2) (Nat.beq p.1 x)) l
inductive Fl where
  | next | brk | cont | ret (v : V)
inductive MK where
  | fn (f : Addr) | lst (x : Nat) | dct (x : Nat)
structure Rc where
  ev : X → Fn → St → Res V
  ts : X → Fn → St → Res Bool
  ex : X → Fn → St → Res Fl
  wh : X → X → Fn → St → Res Fl
  fr : Nat → Nat → X → Fn → St → Res Fl
  cl : Addr → List V → St → Res V
noncomputable def isNil (x : X) : Bool := @X.rec (fun _ => Bool)
  (true)
  (fun _ _ _ _ => false)
  (fun _ => false)
  (fun _ => false)
  (fun _ => false)
  (fun _ _ _ _ _ => false)
  (fun _ _ => false)
  (fun _ _ _ => false)
  (fun _ _ _ _ _ _ => false)
  (fun _ _ => false)
  (fun _ _ => false)
  (false)
  (fun _ _ _ _ _ => false)
  (fun _ _ _ => false)
  (fun _ _ _ _ _ => false)
  (fun _ _ _ => false)
  (fun _ _ _ _ => false)
  (fun _ _ _ _ => false)
  (fun _ _ => false)
  (fun _ _ => false)
  (false)
  (fun _ _ _ _ => false)
  (fun _ _ _ _ _ _ => false)
  (fun _ _ _ _ _ _ => false)
  (fun _ _ _ _ => false)
  (fun _ _ _ _ _ => false)
  (false)
  (fun _ _ _ => false)
  (fun _ _ _ _ => false)
  (fun _ _ _ _ _ _ => false) x
noncomputable def isName (x : X) : Option Nat := @X.rec (fun _ => Option Nat)
  (Option.none)
  (fun _ _ _ _ => Option.none)
  (fun k => some k)
  (fun _ => Option.none)
  (fun _ => Option.none)
  (fun _ _ _ _ _ => Option.none)
  (fun _ _ => Option.none)
  (fun _ _ _ => Option.none)
  (fun _ _ _ _ _ _ => Option.none)
  (fun _ _ => Option.none)
  (fun _ _ => Option.none)
  (Option.none)
  (fun _ _ _ _ _ => Option.none)
  (fun _ _ _ => Option.none)
  (fun _ _ _ _ _ => Option.none)
  (fun _ _ _ => Option.none)
  (fun _ _ _ _ => Option.none)
  (fun _ _ _ _ => Option.none)
  (fun _ _ => Option.none)
  (fun _ _ => Option.none)
  (Option.none)
  (fun _ _ _ _ => Option.none)
  (fun _ _ _ _ _ _ => Option.none)
  (fun _ _ _ _ _ _ => Option.none)
  (fun _ _ _ _ => Option.none)
  (fun _ _ _ _ _ => Option.none)
  (Option.none)
  (fun _ _ _ => Option.none)
  (fun _ _ _ _ => Option.none)
  (fun _ _ _ _ _ _ => Option.none) x
noncomputable def isAnd : BoolOp → Bool := @BoolOp.rec (fun _ => Bool) true false
section
variable (G : Cfg) (r : Rc)
noncomputable def evs (F : Fn) (l : X) : St → Res (List V) := @X.rec (fun _ => St → Res (List V))
  (fun s => .ok [] s)
  (fun a _ _ i_b => fun s => (r.ev a F s).bind fun y s => (i_b s).bind fun ys s => .ok (y :: ys) s)
  (fun _ => fun _ => .bad 8)
  (fun _ => fun _ => .bad 8)
  (fun _ => fun _ => .bad 8)
  (fun _ _ _ _ _ => fun _ => .bad 8)
  (fun _ _ => fun _ => .bad 8)
  (fun _ _ _ => fun _ => .bad 8)
  (fun _ _ _ _ _ _ => fun _ => .bad 8)
  (fun _ _ => fun _ => .bad 8)
  (fun _ _ => fun _ => .bad 8)
  (fun _ => .bad 8)
  (fun _ _ _ _ _ => fun _ => .bad 8)
  (fun _ _ _ => fun _ => .bad 8)
  (fun _ _ _ _ _ => fun _ => .bad 8)
  (fun _ _ _ => fun _ => .bad 8)
  (fun _ _ _ _ => fun _ => .bad 8)
  (fun _ _ _ _ => fun _ => .bad 8)
  (fun _ _ => fun _ => .bad 8)
  (fun _ _ => fun _ => .bad 8)
  (fun _ => .bad 8)
  (fun _ _ _ _ => fun _ => .bad 8)
  (fun _ _ _ _ _ _ => fun _ => .bad 8)
  (fun _ _ _ _ _ _ => fun _ => .bad 8)
  (fun _ _ _ _ => fun _ => .bad 8)
  (fun _ _ _ _ _ => fun _ => .bad 8)
  (fun _ => .bad 8)
  (fun _ _ _ => fun _ => .bad 8)
  (fun _ _ _ _ => fun _ => .bad 8)
  (fun _ _ _ _ _ _ => fun _ => .bad 8) l
noncomputable def nameV (x : Nat) (F : Fn) (s : St) : Res V := match look s.env x with
  | some v => .ok v s
  | Option.none => match look F.gl x with
    | some v => .ok v s
    | Option.none => .bad 10
noncomputable def getA (a : V) (x : Nat) (s : St) : Res V := match a with
  | .ref n => match s.get n with
    | some (.inst _ l) => match look l x with
      | some v => .ok v s
      | Option.none => .bad 11
    | _ => .bad 14
  | _ => .bad 15
noncomputable def setA (a : V) (x : Nat) (v : V) (s : St) : Res Unit := match a with
  | .ref n => match s.get n with
    | some (.inst C l) => match findCl G.cls C with
      | some c => match memN x c.attrs with
        | true => setR () n (.inst C (put l x v)) s
        | false => .bad 16
      | Option.none => .bad 17
    | _ => .bad 18
  | _ => .bad 19
noncomputable def nth {α : Type} (l : List α) (k : Nat) : Option α := l[k]?
noncomputable def idx {α : Type} (l : List α) (i : Int) : Option α := match i with
  | .ofNat k => nth l k
  | .negSucc k => match Nat.blt k l.length with
    | true => nth l (Nat.sub l.length (Nat.succ k))
    | false => Option.none
noncomputable def itemI (l : List V) (b : V) (s : St) : Res V := match b with
  | .int i => match idx l i with
    | some v => .ok v s
    | Option.none => .bad 20
  | _ => .bad 21
noncomputable def itemS (l : En) (b : V) (s : St) : Res V := match b with
  | .str x => match look l x with
    | some v => .ok v s
    | Option.none => .bad 22
  | _ => .bad 23
noncomputable def item (a b : V) (s : St) : Res V := match a with
  | .ref n => match s.get n with
    | some (.tup l) => itemI l b s
    | some (.list l) => itemI l b s
    | some (.dict l) => itemS l b s
    | _ => .bad 24
  | _ => .bad 25
noncomputable def cutL (lo : Nat) (l : List V) (s : St) : Res V := match Nat.ble 1 lo with
  | true => match Nat.ble lo l.length with
    | true => push (.tup (l.drop lo)) s
    | false => .bad 28
  | false => .bad 28
noncomputable def cutR (lo j : Nat) (l : List V) (s : St) : Res V := match Nat.beq lo 0 with
  | true => match Nat.blt j l.length with
    | true => push (.tup (l.take j)) s
    | false => .bad 28
  | false => .bad 28
noncomputable def cut (lo : Nat) (hi : Option Nat) (a : V) (s : St) : Res V := match tupAt s a with
  | some l => match hi with
    | Option.none => cutL lo l s
    | some j => cutR lo j l s
  | _ => .bad 27
noncomputable def setI (a b v : V) (s : St) : Res Unit := match a with
  | .ref n => match b with
    | .str x => match s.get n with
      | some (.dict l) => setR () n (.dict (put l x v)) s
      | _ => .bad 29
    | _ => .bad 30
  | _ => .bad 30
noncomputable def zipE : List Nat → List V → Option En
  | [], [] => some []
  | x :: xs, v :: vs => match zipE xs vs with
    | some l => some ((x, v) :: l)
    | Option.none => Option.none
  | [], _ :: _ => Option.none
  | _ :: _, [] => Option.none
noncomputable def binds (F : Fn) (vs : List V) : Option En := match F.dfl with
  | [] => zipE F.ps vs
  | d => zipE F.ps (vs ++ d.drop (vs.length - (F.ps.length - d.length)))
noncomputable def mosts : List Int := [2, 2, 3, 2, 4, 3]
noncomputable def portKey (n : Nat) (l : List V) (d : En) : Option En := match nth l 4 with
  | some (.str k) => match look d k with
    | Option.none => some ((k, .ref n) :: d)
    | some _ => Option.none
  | _ => Option.none
noncomputable def portKeys (s : St) : List V → Option En
  | [] => some []
  | v :: r => match v with
    | .ref n => match s.get n with
      | some (.tup (.str tag :: l)) => match portKeys s r with
        | some d => match Nat.beq tag 0 with
          | true => portKey n l d
          | false => some d
        | Option.none => Option.none
      | _ => Option.none
    | _ => Option.none
noncomputable def takeK (n r at_ : Nat) (m : Int) (o : Option (Nat × Int)) (s : St) : Res V := match o with
  | some (m', v) => match intE m (.ofNat m') with
    | true => .ok (.int v) (s.set n (.list [.ref r, .int (.ofNat (Nat.succ at_))]))
    | false => .bad 31
  | Option.none => .bad 32
noncomputable def takeR (n r at_ : Nat) (m : Int) (o : Option O) (s : St) : Res V := match o with
  | some .row => takeK n r at_ m (nth G.orc at_) s
  | _ => .bad 33
noncomputable def doTake (vs : List V) (s : St) : Res V := match vs with
  | [.ref n, .int m] => match s.get n with
    | some (.list [.ref r, .int (.ofNat at_)]) => takeR G n r at_ m (s.get r) s
    | _ => .bad 33
  | _ => .bad 34
noncomputable def doItems (vs : List V) (s : St) : Res V := match vs with
  | [.ref n] => match s.get n with
    | some (.list l) => match portKeys s l with
      | some d => push (.dict d) s
      | Option.none => .bad 35
    | _ => .bad 36
  | _ => .bad 37
noncomputable def callFn (a : Addr) (vs : List V) (s : St) : Res V := @Bool.rec (fun _ => Res V) (@Bool.rec (fun _ => Res V) (r.cl a vs s) (doItems vs s) (Nat.beq a G.items)) (doTake G vs s) (Nat.beq a G.take)
noncomputable def cLen (vs : List V) (s : St) : Res V := match vs with
  | [.ref n] => match s.get n with
    | some (.tup l) => .ok (.int (.ofNat l.length)) s
    | some (.list l) => .ok (.int (.ofNat l.length)) s
    | _ => .bad 38
  | _ => .bad 38
noncomputable def cAbs (vs : List V) (s : St) : Res V := match vs with
  | [.int i] => .ok (.int (.ofNat i.natAbs)) s
  | _ => .bad 42
noncomputable def cMax (vs : List V) (s : St) : Res V := match vs with
  | [.int i, .int j] => .ok (.int (match intLt i j with | true => j | false => i)) s
  | _ => .bad 42
noncomputable def isTup (v : V) (s : St) : Res V := match v with
  | .ref n => match s.get n with
    | some (.tup _) => .ok (.bool true) s
    | _ => .bad 39
  | .none => .ok (.bool false) s
  | .bool _ => .ok (.bool false) s
  | .int _ => .ok (.bool false) s
  | .str _ => .ok (.bool false) s
  | _ => .bad 40
noncomputable def isStrV (v : V) (s : St) : Res V := match v with
  | .str _ => .ok (.bool true) s
  | _ => .bad 41
noncomputable def cIsi (vs : List V) (s : St) : Res V := match vs with
  | [v, .ty 0] => isTup v s
  | [v, .ty 1] => isStrV v s
  | _ => .bad 41
noncomputable def cBi (id : Nat) (vs : List V) (s : St) : Res V := match id with
  | 0 => cLen vs s
  | 1 => cIsi vs s
  | 2 => cAbs vs s
  | 3 => cMax vs s
  | _ => .bad 42
noncomputable def cRange (vs : List V) (s : St) : Res V := match vs with
  | [.int (.ofNat n)] => push (.range n) s
  | _ => .bad 45
noncomputable def cList (vs : List V) (s : St) : Res V := match vs with
  | [.ref n] => match s.get n with
    | some (.dict []) => push (.list []) s
    | _ => .bad 43
  | _ => .bad 43
noncomputable def cRev (vs : List V) (s : St) : Res V := match vs with
  | [.ref n] => match s.get n with
    | some (.tup l) => push (.rev n l.length) s
    | _ => .bad 44
  | _ => .bad 44
noncomputable def cTy (T : Nat) (vs : List V) (s : St) : Res V := match T with
  | 4 => cRev vs s
  | 3 => cList vs s
  | 2 => cRange vs s
  | _ => .bad 45
noncomputable def clsR (x v : V) (s : St) : Res V := match v with
  | .none => .ok x s
  | _ => .bad 83
noncomputable def cCls (a : Addr) (i : Addr) (vs : List V) (s : St) : Res V := (push (.inst a []) s).bind fun x s => (callFn G r i (x :: vs) s).bind fun v s => clsR x v s
noncomputable def cClsO (a : Addr) (c : Option Cl) (vs : List V) (s : St) : Res V := match c with
  | some c => cCls G r a c.init vs s
  | Option.none => .bad 46
noncomputable def doCall (f : V) (vs : List V) (s : St) : Res V := match f with
  | .fn a => callFn G r a vs s
  | .bi k => cBi k vs s
  | .ty k => cTy k vs s
  | .cl a => @Bool.rec (fun _ => Res V) (cClsO G r a (findCl G.cls a) vs s) (.bad 77) (Nat.beq a G.exc)
  | _ => .bad 46
noncomputable def mPush (n : Nat) (l : List V) (vs : List V) (s : St) : Res V := match vs with
  | [v] => setR .none n (.list (l ++ [v])) s
  | _ => .bad 51
noncomputable def mPop (n : Nat) (l : List V) (vs : List V) (s : St) : Res V := match vs with
  | [] => match l.reverse with
    | v :: l' => .ok v (s.set n (.list l'.reverse))
    | [] => .bad 49
  | _ => .bad 51
noncomputable def mExtR (n m i k : Nat) (l : List V) (s : St) : Res V := match s.get i with
  | some (.tup l') => match Nat.beq k l'.length with
    | true => setR .none n (.list (l ++ l'.reverse)) (s.set m .any)
    | false => .bad 50
  | _ => .bad 50
noncomputable def mExt (n : Nat) (l : List V) (vs : List V) (s : St) : Res V := match vs with
  | [.ref m] => match s.get m with
    | some (.tup l') => setR .none n (.list (l ++ l')) s
    | some (.rev i k) => mExtR n m i k l s
    | _ => .bad 50
  | _ => .bad 51
noncomputable def mList (n : Nat) (l : List V) (x : Nat) (vs : List V) (s : St) : Res V := match x with
  | 1 => mPop n l vs s
  | 2 => mPush n l vs s
  | 3 => mExt n l vs s
  | _ => .bad 51
noncomputable def orD (o : Option V) (d : V) : V := match o with
  | some v => v
  | Option.none => d
noncomputable def mGet (l : En) (vs : List V) (s : St) : Res V := match vs with
  | [.str k] => .ok (orD (look l k) .none) s
  | [.str k, d] => .ok (orD (look l k) d) s
  | _ => .bad 52
noncomputable def mDict (l : En) (x : Nat) (vs : List V) (s : St) : Res V := match x with
  | 4 => mGet l vs s
  | _ => .bad 52
noncomputable def mInst (C : Addr) (l : En) (x : Nat) : Option MK := match look l x with
  | some _ => Option.none
  | Option.none => match findCl G.cls C with
    | some c => match lookA c.meths x with
      | some f => some (.fn f)
      | Option.none => Option.none
    | Option.none => Option.none
noncomputable def isLM (x : Nat) : Option MK := match x with
  | 1 => some (.lst 1)
  | 2 => some (.lst 2)
  | 3 => some (.lst 3)
  | _ => Option.none
noncomputable def isDM (x : Nat) : Option MK := match x with
  | 4 => some (.dct 4)
  | _ => Option.none
noncomputable def mRes (o : V) (x : Nat) (s : St) : Option MK := match o with
  | .ref n => match s.get n with
    | some (.inst C l) => mInst G C l x
    | some (.list _) => isLM x
    | some (.dict _) => isDM x
    | _ => Option.none
  | _ => Option.none
noncomputable def mL (o : V) (x : Nat) (vs : List V) (s : St) : Res V := match o with
  | .ref n => match s.get n with
    | some (.list l) => mList n l x vs s
    | _ => .bad 53
  | _ => .bad 54
noncomputable def mD (o : V) (x : Nat) (vs : List V) (s : St) : Res V := match o with
  | .ref n => match s.get n with
    | some (.dict l) => mDict l x vs s
    | _ => .bad 53
  | _ => .bad 54
noncomputable def mApp (k : MK) (o : V) (vs : List V) (s : St) : Res V := match k with
  | .fn f => callFn G r f (o :: vs) s
  | .lst x => mL o x vs s
  | .dct x => mD o x vs s
noncomputable def eMeth (k : Option MK) (g : V) (F : Fn) (l : X) (s : St) : Res V := match k with
  | some k => (evs r F l s).bind fun as s => mApp G r k g as s
  | Option.none => .bad 53
noncomputable def boolGo (op : BoolOp) (t : Bool) : Bool := @BoolOp.rec (fun _ => Bool) t (!t) op
noncomputable def boolK (op : BoolOp) (y : V) (s : St) (k : Res V) : Res V := match truth y s with
  | some t => @Bool.rec (fun _ => Res V) (.ok y s) k (boolGo op t)
  | Option.none => .bad 56
noncomputable def boolTK (op : BoolOp) (t : Bool) (s : St) (k : Res Bool) : Res Bool := @Bool.rec (fun _ => Res Bool) (.ok t s) k (boolGo op t)
noncomputable def boolV (op : BoolOp) (F : Fn) (l : X) : St → Res V := @X.rec (fun _ => St → Res V)
  (fun _ => .bad 55)
  (fun a b _ i_b => fun s => (r.ev a F s).bind fun y s => @Bool.rec (fun _ => Res V) (boolK op y s (i_b s)) (.ok y s) (isNil b))
  (fun _ => fun _ => .bad 55)
  (fun _ => fun _ => .bad 55)
  (fun _ => fun _ => .bad 55)
  (fun _ _ _ _ _ => fun _ => .bad 55)
  (fun _ _ => fun _ => .bad 55)
  (fun _ _ _ => fun _ => .bad 55)
  (fun _ _ _ _ _ _ => fun _ => .bad 55)
  (fun _ _ => fun _ => .bad 55)
  (fun _ _ => fun _ => .bad 55)
  (fun _ => .bad 55)
  (fun _ _ _ _ _ => fun _ => .bad 55)
  (fun _ _ _ => fun _ => .bad 55)
  (fun _ _ _ _ _ => fun _ => .bad 55)
  (fun _ _ _ => fun _ => .bad 55)
  (fun _ _ _ _ => fun _ => .bad 55)
  (fun _ _ _ _ => fun _ => .bad 55)
  (fun _ _ => fun _ => .bad 55)
  (fun _ _ => fun _ => .bad 55)
  (fun _ => .bad 55)
  (fun _ _ _ _ => fun _ => .bad 55)
  (fun _ _ _ _ _ _ => fun _ => .bad 55)
  (fun _ _ _ _ _ _ => fun _ => .bad 55)
  (fun _ _ _ _ => fun _ => .bad 55)
  (fun _ _ _ _ _ => fun _ => .bad 55)
  (fun _ => .bad 55)
  (fun _ _ _ => fun _ => .bad 55)
  (fun _ _ _ _ => fun _ => .bad 55)
  (fun _ _ _ _ _ _ => fun _ => .bad 55) l
noncomputable def boolT (op : BoolOp) (F : Fn) (l : X) : St → Res Bool := @X.rec (fun _ => St → Res Bool)
  (fun s => .ok (isAnd op) s)
  (fun a _ _ i_b => fun s => (r.ts a F s).bind fun y s => boolTK op y s (i_b s))
  (fun _ => fun _ => .bad 55)
  (fun _ => fun _ => .bad 55)
  (fun _ => fun _ => .bad 55)
  (fun _ _ _ _ _ => fun _ => .bad 55)
  (fun _ _ => fun _ => .bad 55)
  (fun _ _ _ => fun _ => .bad 55)
  (fun _ _ _ _ _ _ => fun _ => .bad 55)
  (fun _ _ => fun _ => .bad 55)
  (fun _ _ => fun _ => .bad 55)
  (fun _ => .bad 55)
  (fun _ _ _ _ _ => fun _ => .bad 55)
  (fun _ _ _ => fun _ => .bad 55)
  (fun _ _ _ _ _ => fun _ => .bad 55)
  (fun _ _ _ => fun _ => .bad 55)
  (fun _ _ _ _ => fun _ => .bad 55)
  (fun _ _ _ _ => fun _ => .bad 55)
  (fun _ _ => fun _ => .bad 55)
  (fun _ _ => fun _ => .bad 55)
  (fun _ => .bad 55)
  (fun _ _ _ _ => fun _ => .bad 55)
  (fun _ _ _ _ _ _ => fun _ => .bad 55)
  (fun _ _ _ _ _ _ => fun _ => .bad 55)
  (fun _ _ _ _ => fun _ => .bad 55)
  (fun _ _ _ _ _ => fun _ => .bad 55)
  (fun _ => .bad 55)
  (fun _ _ _ => fun _ => .bad 55)
  (fun _ _ _ _ => fun _ => .bad 55)
  (fun _ _ _ _ _ _ => fun _ => .bad 55) l
noncomputable def notV (x : V) (s : St) : Res V := match truth x s with
  | some t => .ok (.bool (!t)) s
  | Option.none => .bad 58
noncomputable def eBin (op : Operator) (a b : X) (F : Fn) (s : St) : Res V := (r.ev a F s).bind fun x s => (r.ev b F s).bind fun y s => bin G.cat op x y s
noncomputable def eCmp (op : CmpOp) (a b : X) (F : Fn) (s : St) : Res V := (r.ev a F s).bind fun x s => (r.ev b F s).bind fun y s => cmp op x y s
noncomputable def evStep (x₀ : X) (F : Fn) (s : St) : Res V := @X.rec (fun _ => Res V)
  (.bad 59)
  (fun _ _ _ _ => .bad 59)
  (fun k => nameV k F s)
  (fun v => .ok v s)
  (fun n => .ok (.int (-(.ofNat n))) s)
  (fun op a b _ _ => eBin G r op a b F s)
  (fun a _ => (r.ev a F s).bind fun y s => notV y s)
  (fun op l _ => boolV r op F l s)
  (fun t a b _ _ _ => (r.ts t F s).bind fun y s => @Bool.rec (fun _ => Res V) (r.ev b F s) (r.ev a F s) y)
  (fun l _ => (evs r F l s).bind fun as s => push (.list as) s)
  (fun l _ => (evs r F l s).bind fun as s => push (.tup as) s)
  (push (.dict []) s)
  (fun op a b _ _ => eCmp r op a b F s)
  (fun f l _ => @Bool.rec (fun _ => Res V) ((nameV f F s).bind fun g s => (evs r F l s).bind fun as s => doCall G r g as s) (.bad 90) F.bz)
  (fun o x l _ _ => @Bool.rec (fun _ => Res V) ((r.ev o F s).bind fun g s => eMeth G r (mRes G g x s) g F l s) (.bad 90) F.bz)
  (fun o x _ => (r.ev o F s).bind fun y s => getA y x s)
  (fun o i _ _ => (r.ev o F s).bind fun y s => (r.ev i F s).bind fun z s => item y z s)
  (fun o lo hi _ => (r.ev o F s).bind fun y s => cut lo hi y s)
  (fun _ _ => .bad 59)
  (fun _ _ => .bad 59)
  (.bad 59)
  (fun _ _ _ _ => .bad 59)
  (fun _ _ _ _ _ _ => .bad 59)
  (fun _ _ _ _ _ _ => .bad 59)
  (fun _ _ _ _ => .bad 59)
  (fun _ _ _ _ _ => .bad 59)
  (.bad 59)
  (fun _ _ _ => .bad 59)
  (fun _ _ _ _ => .bad 59)
  (fun _ _ _ _ _ _ => .bad 59) x₀
noncomputable def truB (a : V) (s : St) : Res Bool := match truth a s with
  | some t => .ok t s
  | Option.none => .bad 61
noncomputable def tsStep (x₀ : X) (F : Fn) (s : St) : Res Bool := @X.rec (fun _ => Res Bool)
  ((r.ev x₀ F s).bind fun y s => truB y s)
  (fun _ _ _ _ => (r.ev x₀ F s).bind fun y s => truB y s)
  (fun _ => (r.ev x₀ F s).bind fun y s => truB y s)
  (fun _ => (r.ev x₀ F s).bind fun y s => truB y s)
  (fun _ => (r.ev x₀ F s).bind fun y s => truB y s)
  (fun _ _ _ _ _ => (r.ev x₀ F s).bind fun y s => truB y s)
  (fun a _ => (r.ts a F s).bind fun y s => .ok (!y) s)
  (fun op l _ => boolT r op F l s)
  (fun _ _ _ _ _ _ => .bad 60)
  (fun _ _ => (r.ev x₀ F s).bind fun y s => truB y s)
  (fun _ _ => (r.ev x₀ F s).bind fun y s => truB y s)
  ((r.ev x₀ F s).bind fun y s => truB y s)
  (fun op a b _ _ => (eCmp r op a b F s).bind fun y s => truB y s)
  (fun _ _ _ => (r.ev x₀ F s).bind fun y s => truB y s)
  (fun _ x _ _ _ => (r.ev x₀ F s).bind fun y s => truB y s)
  (fun _ x _ => (r.ev x₀ F s).bind fun y s => truB y s)
  (fun _ _ _ _ => (r.ev x₀ F s).bind fun y s => truB y s)
  (fun _ _ _ _ => (r.ev x₀ F s).bind fun y s => truB y s)
  (fun _ _ => (r.ev x₀ F s).bind fun y s => truB y s)
  (fun _ _ => (r.ev x₀ F s).bind fun y s => truB y s)
  ((r.ev x₀ F s).bind fun y s => truB y s)
  (fun _ _ _ _ => (r.ev x₀ F s).bind fun y s => truB y s)
  (fun _ x _ _ _ _ => (r.ev x₀ F s).bind fun y s => truB y s)
  (fun _ _ _ _ _ _ => (r.ev x₀ F s).bind fun y s => truB y s)
  (fun _ _ _ _ => (r.ev x₀ F s).bind fun y s => truB y s)
  (fun x _ _ _ _ => (r.ev x₀ F s).bind fun y s => truB y s)
  (.bad 60)
  (fun _ _ _ => (r.ev x₀ F s).bind fun y s => truB y s)
  (fun _ _ _ _ => (r.ev x₀ F s).bind fun y s => truB y s)
  (fun _ x _ _ _ _ => (r.ev x₀ F s).bind fun y s => truB y s) x₀
noncomputable def bindV (x : Nat) (F : Fn) (v : V) (s : St) : Res Unit := @Bool.rec (fun _ => Res Unit) (.bad 62) (.ok () { s with env := put s.env x v }) (memN x F.locs)
noncomputable def bindAll (F : Fn) (l : X) : List V → St → Res Unit := @X.rec (fun _ => List V → St → Res Unit)
  (fun vs s => @List.rec V (fun _ => Res Unit) (.ok () s) (fun _ _ _ => .bad 63) vs)
  (fun a _ _ i_b => fun vs s => @List.rec V (fun _ => Res Unit) (.bad 63) (fun v vs _ => @Option.rec Nat (fun _ => Res Unit) (.bad 63) (fun k => (bindV k F v s).bind fun _ s => i_b vs s) (isName a)) vs)
  (fun _ => fun _ _ => .bad 63)
  (fun _ => fun _ _ => .bad 63)
  (fun _ => fun _ _ => .bad 63)
  (fun _ _ _ _ _ => fun _ _ => .bad 63)
  (fun _ _ => fun _ _ => .bad 63)
  (fun _ _ _ => fun _ _ => .bad 63)
  (fun _ _ _ _ _ _ => fun _ _ => .bad 63)
  (fun _ _ => fun _ _ => .bad 63)
  (fun _ _ => fun _ _ => .bad 63)
  (fun _ _ => .bad 63)
  (fun _ _ _ _ _ => fun _ _ => .bad 63)
  (fun _ _ _ => fun _ _ => .bad 63)
  (fun _ _ _ _ _ => fun _ _ => .bad 63)
  (fun _ _ _ => fun _ _ => .bad 63)
  (fun _ _ _ _ => fun _ _ => .bad 63)
  (fun _ _ _ _ => fun _ _ => .bad 63)
  (fun _ _ => fun _ _ => .bad 63)
  (fun _ _ => fun _ _ => .bad 63)
  (fun _ _ => .bad 63)
  (fun _ _ _ _ => fun _ _ => .bad 63)
  (fun _ _ _ _ _ _ => fun _ _ => .bad 63)
  (fun _ _ _ _ _ _ => fun _ _ => .bad 63)
  (fun _ _ _ _ => fun _ _ => .bad 63)
  (fun _ _ _ _ _ => fun _ _ => .bad 63)
  (fun _ _ => .bad 63)
  (fun _ _ _ => fun _ _ => .bad 63)
  (fun _ _ _ _ => fun _ _ => .bad 63)
  (fun _ _ _ _ _ _ => fun _ _ => .bad 63) l
noncomputable def unpk (F : Fn) (l : X) (v : V) (s : St) : Res Unit := match tupAt s v with
  | some vs => bindAll F l vs s
  | _ => .bad 64
noncomputable def store (F : Fn) (v₀ : V) (x₀ : X) (s : St) : Res Unit := @X.rec (fun _ => Res Unit)
  (.bad 66)
  (fun _ _ _ _ => .bad 66)
  (fun k => bindV k F v₀ s)
  (fun _ => .bad 66)
  (fun _ => .bad 66)
  (fun _ _ _ _ _ => .bad 66)
  (fun _ _ => .bad 66)
  (fun _ _ _ => .bad 66)
  (fun _ _ _ _ _ _ => .bad 66)
  (fun _ _ => .bad 66)
  (fun l _ => @Bool.rec (fun _ => Res Unit) (unpk F l v₀ s) (.bad 90) F.bz)
  (.bad 66)
  (fun _ _ _ _ _ => .bad 66)
  (fun _ _ _ => .bad 66)
  (fun _ _ _ _ _ => .bad 66)
  (fun o x _ => (r.ev o F s).bind fun y s => setA G y x v₀ s)
  (fun o i _ _ => (r.ev o F s).bind fun y s => (r.ev i F s).bind fun z s => setI y z v₀ s)
  (fun _ _ _ _ => .bad 66)
  (fun _ _ => .bad 66)
  (fun _ _ => .bad 66)
  (.bad 66)
  (fun _ _ _ _ => .bad 66)
  (fun _ _ _ _ _ _ => .bad 66)
  (fun _ _ _ _ _ _ => .bad 66)
  (fun _ _ _ _ => .bad 66)
  (fun _ _ _ _ _ => .bad 66)
  (.bad 66)
  (fun _ _ _ => .bad 66)
  (fun _ _ _ _ => .bad 66)
  (fun _ _ _ _ _ _ => .bad 66) x₀
noncomputable def itOf (v : V) (s : St) : Option O := match v with
  | .ref n => match s.get n with
    | some (.tup _) => some (.iter 0 n 0)
    | some (.list []) => some (.iter 1 n 0)
    | some (.range k) => some (.iter 2 k 0)
    | _ => Option.none
  | _ => Option.none
noncomputable def addI (a b : V) (s : St) : Res V := match a with
  | .int x => match b with
    | .int y => .ok (.int (x + y)) s
    | _ => .bad 84
  | _ => .bad 84
noncomputable def binI (op : Operator) (a b : V) (s : St) : Res V := match op with
  | .Add => addI a b s
  | .Sub => bSub a b s
  | _ => .bad 84
noncomputable def xAug (o : X) (x : Nat) (op : Operator) (e : X) (F : Fn) (s : St) : Res Fl :=
  (r.ev o F s).bind fun ov s => (getA ov x s).bind fun a s => (r.ev e F s).bind fun b s => (binI op a b s).bind fun v s => (setA G ov x v s).bind fun _ s => .ok .next s
noncomputable def frGo (x : Nat) (b : X) (F : Fn) (v : V) (s : St) : Res Fl := match v with
  | .ref it => r.fr x it b F s
  | _ => .bad 68
noncomputable def xFor (x : Nat) (b : X) (F : Fn) (v : V) (s : St) : Res Fl := match itOf v s with
  | some o => (push o s).bind fun it s => frGo r x b F it s
  | Option.none => .bad 67
noncomputable def initL (self : Nat) (en : En) : X → En → Option En
  | .nil, l => some l
  | .cons a b, l => match a with
    | .asg (.attr (.nm k) x) (.nm y) => match Nat.beq k self with
      | true => match look en y with
        | some v => initL self en b (put l x v)
        | Option.none => Option.none
      | false => Option.none
    | _ => Option.none
  | _, _ => Option.none
noncomputable def mkExcL (L : En) (s : St) : Res Fl := (push (.inst G.exc []) s).bind fun _ s' => (setR () s.n (.inst G.exc L) s').bind fun _ s' => .exc s.n s'
noncomputable def attrsIn (L : En) (c : Option Cl) : Bool := match c with
  | some c => L.all (fun p => memN p.1 c.attrs)
  | Option.none => false
noncomputable def mkExcI (L : Option En) (s : St) : Res Fl := match L with
  | some L => match attrsIn L (findCl G.cls G.exc) with
    | true => mkExcL G L s
    | false => .bad 94
  | Option.none => .bad 93
noncomputable def mkExcB (F : Fn) (self : Nat) (en : Option En) (s : St) : Res Fl := match en with
  | some en => mkExcI G (initL self en F.body []) s
  | Option.none => .bad 95
noncomputable def mkExcF (F : Option Fn) (as : List V) (s : St) : Res Fl := match F with
  | some F => match F.ps with
    | self :: _ => mkExcB G F self (binds F (.ref s.n :: as)) s
    | [] => .bad 96
  | Option.none => .bad 97
noncomputable def mkExc (g : V) (as : List V) (s : St) : Res Fl := match g with
  | .cl a => match Nat.beq a G.exc with
    | true => match szL as with
      | true => mkExcF G (findFn G.fns G.excInit) as s
      | false => .bad 91
    | false => .bad 92
  | _ => .bad 69
noncomputable def finN (fl : Fl) (g : Fl) (s : St) : Res Fl := match g with
  | .next => .ok fl s
  | _ => .bad 70
noncomputable def finX (e : Nat) (g : Fl) (s : St) : Res Fl := match g with
  | .next => .exc e s
  | _ => .bad 71
noncomputable def plainV (v : V) (s : St) : Bool := match v with
  | .ref n => match s.get n with
    | some (.inst C _) => !(Nat.beq C G.exc)
    | _ => false
  | _ => false
noncomputable def plainR (x : Res V) (s : St) : Bool := match x with
  | .ok v _ => plainV G v s
  | _ => false
noncomputable def augK : (f : X) → Option {k : Nat // ∃ x op v, f = .cons (.aug (.nm k) x op (.cst v)) .nil}
  | .cons (.aug (.nm k) x op (.cst v)) .nil => some ⟨k, x, op, v, rfl⟩
  | _ => Option.none
noncomputable def isAug (F : Fn) (s : St) (f : X) : Bool := match augK f with
  | some k => plainR G (nameV k.1 F s) s
  | none => false
noncomputable def finE (f : X) (F : Fn) (e : Nat) (s : St) : Res Fl := match isAug G F s f with
  | true => (r.ex f F.busy s).bind fun g s => finX e g s
  | false => .bad 78
noncomputable def xFin (b f : X) (F : Fn) (s : St) : Res Fl := match r.ex b F s with
  | .ok fl s => (r.ex f F s).bind fun g s => finN fl g s
  | .exc e s => finE G r f F e s
  | .bad w => .bad w
noncomputable def hdlK (x : Nat) (y : Res Fl) : Res Fl := match y with
  | .ok fl s => .ok fl { s with env := del s.env x }
  | _ => .bad 85
noncomputable def isExc (y : Res V) : Bool := match y with
  | .ok (.cl a) _ => Nat.beq a G.exc
  | _ => false
noncomputable def xHdl (c x : Nat) (h : X) (F : Fn) (e : Nat) (s : St) : Res Fl := match isExc G (nameV c F s) with
  | true => (bindV x F (.ref e) s).bind fun _ s => hdlK x (r.ex h F.busy s)
  | false => .bad 86
noncomputable def xCatchL (c x : Nat) (b h : X) (F : Fn) (s : St) : Res Fl := match r.ex b F s with
  | .ok fl s => .ok fl s
  | .exc e s => xHdl G r c x h F e s
  | .bad w => .bad w
noncomputable def xCatch (c x : Nat) (b h : X) (F : Fn) (s : St) : Res Fl := match Nat.beq F.addr G.law with
  | true => xCatchL G r c x b h F s
  | false => .bad 79
noncomputable def exStep (x₀ : X) (F : Fn) (s : St) : Res Fl := @X.rec (fun _ => Res Fl)
  (.bad 72)
  (fun _ _ _ _ => .bad 72)
  (fun _ => .bad 72)
  (fun _ => .bad 72)
  (fun _ => .bad 72)
  (fun _ _ _ _ _ => .bad 72)
  (fun _ _ => .bad 72)
  (fun _ _ _ => .bad 72)
  (fun _ _ _ _ _ _ => .bad 72)
  (fun _ _ => .bad 72)
  (fun _ _ => .bad 72)
  (.bad 72)
  (fun _ _ _ _ _ => .bad 72)
  (fun _ _ _ => .bad 72)
  (fun _ _ _ _ _ => .bad 72)
  (fun _ _ _ => .bad 72)
  (fun _ _ _ _ => .bad 72)
  (fun _ _ _ _ => .bad 72)
  (fun e _ => (r.ev e F s).bind fun _ s => .ok .next s)
  (fun e _ => (r.ev e F s).bind fun y s => .ok (.ret y) s)
  (.ok (.ret .none) s)
  (fun t e _ _ => (r.ev e F s).bind fun y s => (store G r F y t s).bind fun _ s => .ok .next s)
  (fun o x op e _ _ => xAug G r o x op e F s)
  (fun t a b _ _ _ => (r.ts t F s).bind fun y s => @Bool.rec (fun _ => Res Fl) (r.ex b F s) (r.ex a F s) y)
  (fun t b _ _ => r.wh t b F s)
  (fun x e b _ _ => @Bool.rec (fun _ => Res Fl) ((r.ev e F s).bind fun y s => xFor r x b F y s) (.bad 90) F.bz)
  (.ok .next s)
  (fun c l _ => @Bool.rec (fun _ => Res Fl) ((nameV c F s).bind fun g s => (evs r F l s).bind fun as s => mkExc G g as s) (.bad 90) F.bz)
  (fun b f _ _ => @Bool.rec (fun _ => Res Fl) (xFin G r b f F s) (.bad 90) F.bz)
  (fun c x b h _ _ => @Bool.rec (fun _ => Res Fl) (xCatch G r c x b h F s) (.bad 90) F.bz) x₀
noncomputable def nxt (b : X) (F : Fn) (y : Fl) (s : St) : Res Fl := match y with
  | .next => r.ex b F s
  | y => .ok y s
noncomputable def exsStep (x₀ : X) (F : Fn) (s : St) : Res Fl := @X.rec (fun _ => Res Fl)
  (.ok .next s)
  (fun a b _ _ => (exStep G r a F s).bind fun y s => nxt r b F y s)
  (fun _ => .bad 72)
  (fun _ => .bad 72)
  (fun _ => .bad 72)
  (fun _ _ _ _ _ => .bad 72)
  (fun _ _ => .bad 72)
  (fun _ _ _ => .bad 72)
  (fun _ _ _ _ _ _ => .bad 72)
  (fun _ _ => .bad 72)
  (fun _ _ => .bad 72)
  (.bad 72)
  (fun _ _ _ _ _ => .bad 72)
  (fun _ _ _ => .bad 72)
  (fun _ _ _ _ _ => .bad 72)
  (fun _ _ _ => .bad 72)
  (fun _ _ _ _ => .bad 72)
  (fun _ _ _ _ => .bad 72)
  (fun _ _ => .bad 72)
  (fun _ _ => .bad 72)
  (.bad 72)
  (fun _ _ _ _ => .bad 72)
  (fun _ _ _ _ _ _ => .bad 72)
  (fun _ _ _ _ _ _ => .bad 72)
  (fun _ _ _ _ => .bad 72)
  (fun _ _ _ _ _ => .bad 72)
  (.bad 72)
  (fun _ _ _ => .bad 72)
  (fun _ _ _ _ => .bad 72)
  (fun _ _ _ _ _ _ => .bad 72) x₀
noncomputable def whK (t b : X) (F : Fn) (y : Fl) (s : St) : Res Fl := match y with
  | .next => r.wh t b F s
  | .cont => r.wh t b F s
  | .brk => .ok .next s
  | .ret v => .ok (.ret v) s
noncomputable def whStep (t b : X) (F : Fn) (s : St) : Res Fl := (r.ts t F s).bind fun x s => @Bool.rec (fun _ => Res Fl) (.ok .next s) ((r.ex b F s).bind fun y s => whK r t b F y s) x
noncomputable def frK (x it : Nat) (b : X) (F : Fn) (y : Fl) (s : St) : Res Fl := match y with
  | .next => r.fr x it b F s
  | .cont => r.fr x it b F s
  | .brk => .ok .next s
  | .ret v => .ok (.ret v) s
noncomputable def frTurn (x it : Nat) (b : X) (F : Fn) (v : V) (s : St) : Res Fl := (bindV x F v s).bind fun _ s => (r.ex b F s).bind fun y s => frK r x it b F y s
noncomputable def frTup (x it n i : Nat) (b : X) (F : Fn) (l : List V) (s : St) : Res Fl := match nth l i with
  | some v => frTurn r x it b F v (s.set it (.iter 0 n (Nat.succ i)))
  | Option.none => .ok .next (s.set it .any)
noncomputable def frRange (x it k i : Nat) (b : X) (F : Fn) (s : St) : Res Fl := match Nat.blt i k with
  | true => frTurn r x it b F (.int (.ofNat i)) (s.set it (.iter 2 k (Nat.succ i)))
  | false => .ok .next (s.set it .any)
noncomputable def frStep (x it : Nat) (b : X) (F : Fn) (s : St) : Res Fl := match s.get it with
  | some (.iter k n i) => match k with
    | 0 => match s.get n with
      | some (.tup l) => frTup r x it n i b F l s
      | _ => .bad 75
    | 1 => match s.get n with
      | some (.list []) => .ok .next (s.set it .any)
      | _ => .bad 75
    | _ => frRange r x it n i b F s
  | _ => .bad 76
noncomputable def valOf : Fl → V
  | .ret v => v
  | _ => .none
noncomputable def clK (en : En) (x : Res Fl) : Res V := match x with
  | .ok fl t => .ok (valOf fl) { t with env := en }
  | .exc e t => .exc e { t with env := en }
  | .bad w => .bad w
noncomputable def clStep (a : Addr) (vs : List V) (s : St) : Res V := match findFn G.fns a with
  | Option.none => .bad 73
  | some F => match binds F vs with
    | Option.none => .bad 74
    | some en => clK s.env (r.ex F.body F { s with env := en })
noncomputable def stepR : Rc := ⟨evStep G r, tsStep r, exsStep G r, whStep r, frStep r, clStep G r⟩
end
noncomputable def nilR : Rc := ⟨fun _ _ _ => .bad 0, fun _ _ _ => .bad 0, fun _ _ _ => .bad 0, fun _ _ _ _ => .bad 0, fun _ _ _ _ _ => .bad 0, fun _ _ _ => .bad 0⟩
noncomputable def runR (G : Cfg) (n : Nat) : Rc := @Nat.rec (fun _ => Rc) nilR (fun _ r => stepR G r) n
end Mine
namespace Mine
open PySem PySem.W PySem.Calls PyProof.Rows
/-! lists and trees of the executor -/
theorem look_nil (x : Nat) : look [] x = Option.none := rfl
theorem look_cons (p : Nat × V) (l : En) (x : Nat) : look (p :: l) x = if p.1 = x then some p.2 else look l x := by
  show @Bool.rec (fun _ => Option V) (look l x) (some p.2) (Nat.beq p.1 x) = _
  rw [BT.beq_eq]
  by_cases h : p.1 = x <;> simp [h]
theorem put_nil (x : Nat) (v : V) : put [] x v = [(x, v)] := rfl
theorem put_cons (p : Nat × V) (l : En) (x : Nat) (v : V) : put (p :: l) x v = if p.1 = x then (p.1, v) :: l else p :: put l x v := by
  show @Bool.rec (fun _ => En) (p :: put l x v) ((p.1, v) :: l) (Nat.beq p.1 x) = _
  rw [BT.beq_eq]
  by_cases h : p.1 = x <;> simp [h]
theorem look_put (l : En) (x : Nat) (v : V) (y : Nat) : look (put l x v) y = if x = y then some v else look l y := by
  induction l with
  | nil => rw [put_nil, look_cons, look_nil]
  | cons p l ih =>
    rw [put_cons]
    by_cases h : p.1 = x
    · rw [if_pos h, look_cons, look_cons]
      by_cases e : x = y
      · simp [h, e]
      · have : p.1 ≠ y := h ▸ e
        simp [e, this]
    · rw [if_neg h, look_cons, look_cons, ih]
      by_cases e : p.1 = y
      · have : x ≠ y := fun q => h (e.trans q.symm)
        simp [e, this]
      · simp [e]
theorem look_del (l : En) (x : Nat) (y : Nat) : look (del l x) y = if x = y then Option.none else look l y := by
  induction l with
  | nil => show look [] y = _; rw [look_nil]; by_cases h : x = y <;> simp [h]
  | cons p l ih =>
    have e : del (p :: l) x = @Bool.rec (fun _ => En) (p :: del l x) (del l x) (Nat.beq p.1 x) := rfl
    rw [e, BT.beq_eq, look_cons]
    by_cases h : p.1 = x
    · simp only [h, decide_true]
      rw [ih]
      by_cases q : x = y <;> simp [q]
    · simp only [h, decide_false]
      rw [look_cons, ih]
      by_cases q : p.1 = y
      · have : x ≠ y := fun z => h (q.trans z.symm)
        simp [q, this]
      · simp [q]
theorem memN_iff (x : Nat) (l : List Nat) : memN x l = true ↔ x ∈ l := by
  induction l with
  | nil => exact ⟨fun h => Bool.noConfusion (h : false = true), fun h => (nomatch h)⟩
  | cons y l ih =>
    have e : memN x (y :: l) = @Bool.rec (fun _ => Bool) (memN x l) true (Nat.beq y x) := rfl
    rw [e, BT.beq_eq]
    by_cases h : y = x
    · simp [h]
    · simp only [h, decide_false]
      rw [ih]
      simp [Ne.symm h]
namespace Tr
theorem get_nil (i : Nat) : Tr.nil.get i = Option.none := rfl
theorem get_node (v : O) (l r : Tr) (i : Nat) : (node v l r).get i = if i = 0 then some v else if i % 2 = 1 then l.get (i / 2) else r.get (i / 2 - 1) := by
  show @Bool.rec (fun _ => Option O) (@Bool.rec (fun _ => Option O) (r.get (i / 2 - 1)) (l.get (i / 2)) (Nat.beq (i % 2) 1)) (some v) (Nat.beq i 0) = _
  rw [BT.beq_eq, BT.beq_eq]
  by_cases h : i = 0
  · simp [h]
  · by_cases q : i % 2 = 1 <;> simp [h, q]
theorem set_node (v : O) (l r : Tr) (o : O) (i : Nat) : (node v l r).set o i = if i = 0 then node o l r else if i % 2 = 1 then node v (l.set o (i / 2)) r else node v l (r.set o (i / 2 - 1)) := by
  show @Bool.rec (fun _ => Tr) (@Bool.rec (fun _ => Tr) (.node v l (r.set o (i / 2 - 1))) (.node v (l.set o (i / 2)) r) (Nat.beq (i % 2) 1)) (.node o l r) (Nat.beq i 0) = _
  rw [BT.beq_eq, BT.beq_eq]
  by_cases h : i = 0
  · simp [h]
  · by_cases q : i % 2 = 1 <;> simp [h, q]
theorem ins_node (v : O) (l r : Tr) (o : O) (i : Nat) : (node v l r).ins o i = if i = 0 then node o l r else if i % 2 = 1 then node v (l.ins o (i / 2)) r else node v l (r.ins o (i / 2 - 1)) := by
  show @Bool.rec (fun _ => Tr) (@Bool.rec (fun _ => Tr) (.node v l (r.ins o (i / 2 - 1))) (.node v (l.ins o (i / 2)) r) (Nat.beq (i % 2) 1)) (.node o l r) (Nat.beq i 0) = _
  rw [BT.beq_eq, BT.beq_eq]
  by_cases h : i = 0
  · simp [h]
  · by_cases q : i % 2 = 1 <;> simp [h, q]
theorem get_set (o : O) : ∀ (t : Tr) (a i : Nat), (t.set o a).get i = if i = a ∧ (t.get a).isSome = true then some o else t.get i
  | .nil, a, i => by show Tr.nil.get i = _; simp [get_nil]
  | .node v l r, a, i => by
    have L := get_set o l (a / 2)
    have R := get_set o r (a / 2 - 1)
    rw [set_node, get_node v l r a, get_node v l r i]
    by_cases ha : a = 0
    · subst ha
      rw [if_pos rfl, get_node]
      by_cases hi : i = 0 <;> simp [hi]
    · rw [if_neg ha]
      by_cases pa : a % 2 = 1
      · rw [if_pos pa, get_node]
        by_cases hi : i = 0
        · have : i ≠ a := by omega
          simp [hi, Ne.symm ha]
        · by_cases pi : i % 2 = 1
          · simp only [hi, pi, ha, pa, if_true, if_false, L]
            by_cases e : i = a
            · simp [e]
            · have : i / 2 ≠ a / 2 := by omega
              simp [e, this]
          · have : i ≠ a := fun q => pi (q ▸ pa)
            simp [hi, pi, this]
      · rw [if_neg pa, get_node]
        by_cases hi : i = 0
        · simp [hi, Ne.symm ha]
        · by_cases pi : i % 2 = 1
          · have : i ≠ a := fun q => pa (q ▸ pi)
            simp [hi, pi, this]
          · simp only [hi, pi, ha, pa, if_false, R]
            by_cases e : i = a
            · simp [e]
            · have : i / 2 - 1 ≠ a / 2 - 1 := by omega
              simp [e, this]
theorem get_ins (o : O) : ∀ (t : Tr) (a : Nat), ((t.ins o a).get a).isSome = true → ∀ i, (t.ins o a).get i = if i = a then some o else t.get i
  | .nil, a, h, i => by
    have e : (Tr.nil.ins o a) = node o nil nil := rfl
    rw [e, get_node] at h
    have ha : a = 0 := by
      by_cases q : a = 0
      · exact q
      · exfalso; revert h; by_cases p : a % 2 = 1 <;> simp [q, p, get_nil]
    subst ha
    rw [e, get_node]
    by_cases hi : i = 0
    · simp [hi]
    · by_cases p : i % 2 = 1 <;> simp [hi, p, get_nil]
  | .node v l r, a, h, i => by
    rw [ins_node] at h ⊢
    rw [get_node v l r i]
    by_cases ha : a = 0
    · subst ha
      rw [if_pos rfl, get_node]
      by_cases hi : i = 0 <;> simp [hi]
    · rw [if_neg ha] at h ⊢
      by_cases pa : a % 2 = 1
      · rw [if_pos pa] at h ⊢
        rw [get_node, if_neg ha, if_pos pa] at h
        have L := get_ins o l _ h
        rw [get_node]
        by_cases hi : i = 0
        · simp [hi, Ne.symm ha]
        · by_cases pi : i % 2 = 1
          · simp only [hi, pi, if_true, if_false, L]
            by_cases e : i = a
            · simp [e]
            · have : i / 2 ≠ a / 2 := by omega
              simp [e, this]
          · have : i ≠ a := fun q => pi (q ▸ pa)
            simp [hi, pi, this]
      · rw [if_neg pa] at h ⊢
        rw [get_node, if_neg ha, if_neg pa] at h
        have R := get_ins o r _ h
        rw [get_node]
        by_cases hi : i = 0
        · simp [hi, Ne.symm ha]
        · by_cases pi : i % 2 = 1
          · have : i ≠ a := fun q => pa (q ▸ pi)
            simp [hi, pi, this]
          · simp only [hi, pi, if_false, R]
            by_cases e : i = a
            · simp [e]
            · have : i / 2 - 1 ≠ a / 2 - 1 := by omega
              simp [e, this]
end Tr
end Mine
namespace Mine
open PySem PySem.W PySem.Calls PyProof.Rows
structure Gx where
  prog : Program
  w : World
  K : Frag
  nm : Nat → Str
  base : Heap
  S₁ : Shared
  isX : Addr → Bool
  lawA : Addr
  row : List Int
structure FC where
  outer : List Env
  h₀ : Heap
  L : Addr
  F : Fn
  qual : Str
  scope : Scope
  a : Addr
  cd : Value
  cells : List (Str × Addr)
noncomputable def FC.env (c : FC) : Env := { scope := c.scope, locals := c.L, globals := mainGlobals, cells := c.cells, qual := c.qual ++ ".<locals>.", func := some c.a, code := c.cd, frame := some c.L, builtins := builtinsNs }
structure AOK (c : FC) (d : Nat) (A : Around) : Prop where
  frames : A.frames = some (c.env :: c.outer)
  depth : A.depth + 2 * d < 1000
  units : A.units + 8 * d + 300 < cLine
  hand : c.F.bz = false → A.handled = none
theorem AOK.le {c : FC} {d d' : Nat} {A : Around} (h : AOK c d A) (k : d' ≤ d) : AOK c d' A := ⟨h.frames, by have := h.depth; omega, by have := h.units; omega, h.hand⟩
noncomputable def biN : Nat → String
  | 0 => "len" | 1 => "isinstance" | 2 => "abs" | _ => "max"
noncomputable def tyN : Nat → String
  | 0 => "tuple" | 1 => "str" | 2 => "range" | 3 => "list" | _ => "reversed"
inductive F2 {α β : Type} (R : α → β → Prop) : List α → List β → Prop
  | nil : F2 R [] []
  | cons {a b l r} : R a b → F2 R l r → F2 R (a :: l) (b :: r)
namespace F2
variable {α β : Type} {R R' : α → β → Prop}
theorem mono (k : ∀ a b, R a b → R' a b) {l r} (h : F2 R l r) : F2 R' l r := by
  induction h with
  | nil => exact .nil
  | cons a _ ih => exact .cons (k _ _ a) ih
theorem length {l : List α} {r : List β} (h : F2 R l r) : l.length = r.length := by
  induction h with
  | nil => rfl
  | cons _ _ ih => simp [ih]
theorem append {l l' : List α} {r r' : List β} (h : F2 R l r) (h' : F2 R l' r') : F2 R (l ++ l') (r ++ r') := by
  induction h with
  | nil => exact h'
  | cons a _ ih => exact .cons a ih
theorem get {l : List α} {r : List β} (h : F2 R l r) : ∀ {i : Nat} {a : α}, l[i]? = some a → ∃ b, r[i]? = some b ∧ R a b := by
  induction h with
  | nil => intro i a e; simp at e
  | cons x _ ih =>
    intro i a e
    cases i with
    | zero => simp at e; subst e; exact ⟨_, by simp, x⟩
    | succ i => simp at e; obtain ⟨b, hb, r⟩ := ih e; exact ⟨b, by simpa using hb, r⟩
theorem take {l : List α} {r : List β} (h : F2 R l r) : ∀ n, F2 R (l.take n) (r.take n) := by
  induction h with
  | nil => intro n; simp; exact .nil
  | cons x _ ih =>
    intro n
    cases n with
    | zero => simp; exact .nil
    | succ n => simp; exact .cons x (ih n)
theorem drop {l : List α} {r : List β} (h : F2 R l r) : ∀ n, F2 R (l.drop n) (r.drop n) := by
  induction h with
  | nil => intro n; simp; exact .nil
  | cons x h ih =>
    intro n
    cases n with
    | zero => simp; exact .cons x h
    | succ n => simp; exact ih n
theorem reverse {l : List α} {r : List β} (h : F2 R l r) : F2 R l.reverse r.reverse := by
  induction h with
  | nil => exact .nil
  | cons x _ ih => simp; exact ih.append (.cons x .nil)
theorem map_right {γ : Type} {f : β → γ} {S : α → γ → Prop} (k : ∀ a b, R a b → S a (f b)) {l : List α} {r : List β} (h : F2 R l r) : F2 S l (r.map f) := by
  induction h with
  | nil => exact .nil
  | cons x _ ih => exact .cons (k _ _ x) ih
end F2
noncomputable def IntVals (l : List Int) (vs : List Value) : Prop := F2 (fun i v => ∃ t, v = .int i t) l vs
noncomputable abbrev Wd := List (Addr × Option Addr)
noncomputable def Le (W W' : Wd) : Prop := ∀ (n : Nat) (p : Addr × Option Addr), W[n]? = some p → ∃ q : Addr × Option Addr, W'[n]? = some q ∧ q.1 = p.1
theorem Le.refl (W : Wd) : Le W W := fun _ p h => ⟨p, h, rfl⟩
theorem Le.trans {W W' W'' : Wd} (a : Le W W') (b : Le W' W'') : Le W W'' := fun n p h => by
  obtain ⟨q, h1, e1⟩ := a n p h
  obtain ⟨r, h2, e2⟩ := b n q h1
  exact ⟨r, h2, e2.trans e1⟩
theorem Le.push (W : Wd) (p : Addr × Option Addr) : Le W (W ++ [p]) := fun n q h => ⟨q, by
  rw [List.getElem?_append_left]
  · exact h
  · obtain ⟨h, _⟩ := List.getElem?_eq_some_iff.mp h; exact h, rfl⟩
theorem Le.nil (W : Wd) : Le [] W := fun n p h => by simp at h
noncomputable def adr (W : Wd) : List Addr := W.flatMap fun p => p.1 :: p.2.toList
theorem mem_adr {W : Wd} {n : Nat} {p : Addr × Option Addr} (h : W[n]? = some p) : p.1 ∈ adr W := List.mem_flatMap.mpr ⟨p, List.mem_of_getElem? h, .head _⟩
theorem mem_adr2 {W : Wd} {n : Nat} {p : Addr × Option Addr} {d : Addr} (h : W[n]? = some p) (e : p.2 = some d) : d ∈ adr W := List.mem_flatMap.mpr ⟨p, List.mem_of_getElem? h, by rw [e]; exact .tail _ (.head _)⟩
theorem adr_push (W : Wd) (p : Addr × Option Addr) : adr (W ++ [p]) = adr W ++ (p.1 :: p.2.toList) := by simp [adr]
noncomputable def allA (c : FC) (W : Wd) : List Addr := c.cells.map (·.2) ++ adr W
variable (g : Gx)
noncomputable def VR (W : Wd) : V → Value → Prop
  | .none, v => v = .none
  | .bool b, v => v = .bool b
  | .int i, v => ∃ t, v = .int i t
  | .str k, v => ∃ t, v = .str (g.nm k) t
  | .ref n, v => ∃ p, W[n]? = some p ∧ v = .ref p.1
  | .fn a, v => v = .ref a
  | .cl a, v => v = .ref a
  | .bi k, v => v = .builtin (biN k)
  | .ty k, v => v = .type (tyN k)
noncomputable def VRs (W : Wd) (l : List V) (vs : List Value) : Prop := F2 (VR g W) l vs
noncomputable def ER (W : Wd) (p : Nat × V) (e : DictEntry) : Prop := ∃ t v, e = ⟨PyData.keyHash g.w.params (g.nm p.1), .str (g.nm p.1) t, v⟩ ∧ VR g W p.2 v
noncomputable def ERs (W : Wd) (l : En) (es : List DictEntry) : Prop := F2 (ER g W) l es
noncomputable def KR (W : Wd) (p : Nat × V) (e : Str × Value) : Prop := e.1 = g.nm p.1 ∧ VR g W p.2 e.2
noncomputable abbrev revO (t : Addr) (n : Nat) : Obj := ⟨.type "reversed", none, .fields #[.ref t, .int ((n : Int) - 1) 0], #[]⟩
noncomputable abbrev rangeO (n : Nat) (t u v : Tok) : Obj := ⟨.type "range", none, .fields #[.int 0 t, .int n u, .int 1 v], #[]⟩
noncomputable def GetOK (C : Addr) (x : Nat) : Prop := plainGet g.K C (g.nm x) = true ∧ hasDictIn g.K C = true ∧ ∃ attr, findIn g.K (.ref C) (g.nm x) = some attr ∧ noGet g.K attr = true
noncomputable def GetX (C : Addr) (x : Nat) : Prop := findIn g.K (.ref C) "__getattribute__" = some (some (.builtin "BaseException.__getattribute__")) ∧ findIn g.K (.ref C) "__getattr__" = some none ∧ subIn g.K (.ref C) (.type "BaseException") = some true ∧ hasDictIn g.K C = true ∧
  ∃ attr, findIn g.K (.ref C) (g.nm x) = some attr ∧ noGet g.K attr = true
noncomputable def OR (W : Wd) (p : Addr × Option Addr) (h : Heap) : O → Prop
  | .tup l => ∃ vs n, h.get? p.1 = some ⟨.type "tuple", none, .seq vs.toArray n, #[]⟩ ∧ VRs g W l vs
  | .list l => ∃ vs n, h.get? p.1 = some (listOf vs.toArray n) ∧ VRs g W l vs
  | .rev n k => ∃ q : Addr × Option Addr, W[n]? = some q ∧ h.get? p.1 = some (revO q.1 k)
  | .dict l => ∃ kvs, h.DictOf (strKind g.prog g.w) p.1 kvs ∧ F2 (KR g W) l kvs
  | .inst C l => (g.isX C = false ∧ ∃ d es n, p.2 = some d ∧ h.get? p.1 = some ⟨.ref C, some d, .plain, #[]⟩ ∧ h.get? d = some (dictOf es n) ∧ ERs g W l es ∧ ∀ x v, look l x = some v → GetOK g C x) ∨
    (g.isX C = true ∧ ∃ vs sl, h.get? p.1 = some ⟨.ref C, p.2, .fields vs, sl⟩ ∧ ((p.2 = none ∧ l = []) ∨ ∃ d es n, p.2 = some d ∧ h.get? d = some (dictOf es n) ∧ ERs g W l es) ∧ ∀ x v, look l x = some v → GetX g C x)
  | .range n => ∃ t u v, h.get? p.1 = some (rangeO n t u v)
  | .any => True
  | .row => ∃ vs n, h.get? p.1 = some (listOf vs.toArray n) ∧ IntVals g.row vs
  | .iter 0 n i => ∃ q : Addr × Option Addr, W[n]? = some q ∧ IsTupIter h p.1 q.1 i
  | .iter 1 n i => ∃ q : Addr × Option Addr, W[n]? = some q ∧ h.IsListIter p.1 q.1 i
  | .iter _ k i => IsRangeIter h p.1 i ((k : Int) - i) 1
noncomputable def EnvR (c : FC) (W : Wd) (en : En) (m : Str → Option Value) (h : Heap) : Prop := ∀ x v, look en x = some v →
  (x ∈ c.F.locs ∧ ∃ val, m (g.nm x) = some val ∧ VR g W v val) ∨
  (x ∈ c.F.cel ∧ ∃ a val, c.cells.lookup (g.nm x) = some a ∧ h.IsCell a (some val) ∧ VR g W v val)
structure Here (c : FC) (W : Wd) (s : St) (S : Shared) : Prop where
  fr : ∃ m, Fr c.h₀ c.L S.heap m ∧ EnvR g c W s.env m S.heap
  obj : ∀ n o, s.get n = some o → ∃ p, W[n]? = some p ∧ okO o = true ∧ OR g W p S.heap o
  len : s.n = W.length
  nodup : (allA c W).Nodup
  own : ∀ b ∈ allA c W, (b ≠ c.L ∧ c.h₀.get? b = none ∧ g.base.objs.size ≤ b) ∧ ∃ o, S.heap.get? b = some o
  gens : S.gens = g.S₁.gens
  drawn : S.drawn = g.S₁.drawn
  os : S.os = g.S₁.os
structure FnOK (F : Fn) (scope : Scope) : Prop where
  kind : scope.kind = .function
  locs : ∀ x ∈ F.locs, scope.names.lookup (g.nm x) = some .local
  cel : ∀ x ∈ F.cel, scope.names.lookup (g.nm x) = some .cell
  gl : ∀ x v, look F.gl x = some v → scope.names.lookup (g.nm x) = some .globalImplicit ∧
    ((∃ val, nsIn g.K mainGlobals (g.nm x) = some (some val) ∧ VR g [] v val) ∨ (∃ val, nsIn g.K mainGlobals (g.nm x) = some none ∧ bootBuiltins (g.nm x) = some val ∧ g.nm x ≠ "__name__" ∧ VR g [] v val))
  dbg : ∀ x, (g.nm x == ("__debug__" : Str)) = false
structure FOK (c : FC) : Prop where
  law : c.F.addr = g.lawA → c.outer = []
  big : g.base.objs.size ≤ c.L
  stays : g.base.StaysIn c.h₀
  frames : c.h₀.FunFrames g.base c.outer
  kin : g.K.In c.h₀
  top : ∃ p loose mg mb, TopRead p loose mg mb c.h₀
  fn : FnOK g c.F c.scope
structure ClOK (cl : Cl) : Prop where
  noM : g.isX cl.addr = true → cl.meths = []
  setattr : findIn g.K (.ref cl.addr) "__setattr__" = some (some (.builtin "object.__setattr__"))
  plain : g.isX cl.addr = false → plainOver g.K cl.addr = true ∧ hasDictIn g.K cl.addr = true
  attrs : g.isX cl.addr = false → ∀ x ∈ cl.attrs, takerIn g.K cl.addr (g.nm x) = some none ∧ GetOK g cl.addr x
  meths : g.isX cl.addr = false → ∀ p ∈ cl.meths, findIn g.K (.ref cl.addr) (g.nm p.1) = some (some (.ref p.2)) ∧ typeIn g.K (.ref p.2) = some (.type "function") ∧
    findIn g.K (.ref cl.addr) "__getattribute__" = some (some (.builtin "object.__getattribute__")) ∧ findIn g.K (.ref cl.addr) "__getattr__" = some none
structure GOK (G : Cfg) : Prop where
  inj : ∀ i j, g.nm i = g.nm j → i = j
  cps : ∀ i, PyData.strOk (g.nm i) = true
  cat : ∀ p ∈ G.cat, g.nm p.2.2 = g.nm p.1 ++ g.nm p.2.1 ∧ (g.nm p.1).length + (g.nm p.2.1).length ≤ sizeLine
  sys : sysModules < g.base.objs.size
  exc : ∀ C, g.isX C = Nat.beq C G.exc
  lawE : G.law = g.lawA
  kin : g.K.In g.base
  top : ∃ p loose mg mb, TopRead p loose mg mb g.base
  cls : ∀ C cl, findCl G.cls C = some cl → cl.addr = C ∧ ClOK g cl
noncomputable def FC.at (c : FC) (h : Heap) : FC := { c with h₀ := h }
noncomputable def TH (c : FC) (W : Wd) (S : Shared) (vs : Array Value) : Prop := ∃ T oT ts, vs[1]? = some (.ref T) ∧ T ∉ allA c W ∧ T ≠ c.L ∧ c.h₀.get? T = none ∧ g.base.objs.size ≤ T ∧ S.heap.get? T = some oT ∧ oT.data = .fields ts ∧ 3 < ts.size
noncomputable def TB (hs : Bool) (c : FC) (W : Wd) (n : Nat) (e : Value) (S : Shared) : Prop := ∃ p o vs, W[n]? = some p ∧ e = .ref p.1 ∧ S.heap.get? p.1 = some o ∧ o.data = .fields vs ∧ 1 < vs.size ∧ ((hs = false ∧ vs[1]? = some .none) ∨ TH g c W S vs)
noncomputable def Slt (l : List Env) (h h₂ : Heap) : Prop := h₂.objs.size = h.objs.size ∧ (∀ b o, h.get? b = some o → ∃ sl, h₂.get? b = some { o with slots := sl } ∧ ((∀ env ∈ l, env.frame ≠ some b) → h₂.get? b = some o)) ∧ ∀ b, h.get? b = none → h₂.get? b = none
noncomputable def FlyB (hs : Bool) (c : FC) (W : Wd) (s : St) (n : Nat) (e : Value) (S : Shared) : Prop :=
  ∃ h₂, Slt c.outer c.h₀ h₂ ∧ FOK g (c.at h₂) ∧ Here g (c.at h₂) W s S ∧ (∃ C l, s.get n = some (.inst C l) ∧ g.isX C = true) ∧ TB g hs (c.at h₂) W n e S
noncomputable abbrev Fly := FlyB g false
theorem FlyB.weak {g : Gx} {c : FC} {W : Wd} {s : St} {n : Nat} {e : Value} {S : Shared} (h : FlyB g true c W s n e S) : FlyB g false c W s n e S := by
  obtain ⟨h₂, a, b, d, x, p, o, vs, t⟩ := h
  obtain ⟨t1, t2, t3, t4, t5, t6⟩ := t
  exact ⟨h₂, a, b, d, x, p, o, vs, t1, t2, t3, t4, t5, t6.elim (fun q => by cases q.1) .inr⟩
noncomputable def Post {α β : Type} (c : FC) (R : Wd → β → α → Prop) (W : Wd) : Res β → (α → Shared → Prop) → (Value → Shared → Prop) → Prop
  | .ok b s', Q, _ => ∀ S' W' a, Le W W' → Here g c W' s' S' → R W' b a → Q a S'
  | .exc n s', _, Er => ∀ S' W' e, Le W W' → FlyB g false c W' s' n e S' → Er e S'
  | .bad _, _, _ => False
noncomputable def Snd {α β : Type} (c : FC) (d : Nat) (R : Wd → β → α → Prop) (t : Sem α) (W : Wd) (s : St) (res : Res β) : Prop :=
  ∀ A S Q Er, AOK c d A → Here g c W s S → Post g c R W res Q Er → wpAny (model g.prog g.w) A t Q Er S
variable {g}
theorem bind_ok {α β : Type} (b : α) (s : St) (f : α → St → Res β) : (Res.ok b s).bind f = f b s := rfl
theorem bind_exc {α β : Type} (n : Nat) (s : St) (f : α → St → Res β) : (Res.exc n s : Res α).bind f = .exc n s := rfl
theorem bind_bad {α β : Type} (n : Nat) (f : α → St → Res β) : (Res.bad n : Res α).bind f = .bad n := rfl
theorem Post.le {α β : Type} {c : FC} {R : Wd → β → α → Prop} {W W' : Wd} {res : Res β} {Q : α → Shared → Prop} {Er : Value → Shared → Prop} (h : Post g c R W res Q Er) (l : Le W W') : Post g c R W' res Q Er := by
  cases res with
  | ok b s => exact fun S' W'' a k => h S' W'' a (l.trans k)
  | exc n s => exact fun S' W'' a k => h S' W'' a (l.trans k)
  | bad n => exact h
theorem Post.bind {α β γ δ : Type} {c : FC} {R' : Wd → δ → γ → Prop} {R : Wd → β → α → Prop} {W : Wd} {res : Res β} {f : β → St → Res δ} {Q : γ → Shared → Prop} {Q1 : α → Shared → Prop} {Er : Value → Shared → Prop}
    (h : Post g c R' W (res.bind f) Q Er)
    (k : ∀ b s' W' a S', res = .ok b s' → Le W W' → Here g c W' s' S' → R W' b a → Post g c R' W' (f b s') Q Er → Q1 a S') : Post g c R W res Q1 Er := by
  cases res with
  | ok b s => exact fun S' W' a l H r => k b s W' a S' rfl l H r (h.le l)
  | exc n s => exact h
  | bad n => exact h
theorem Post.of_ok {α β : Type} {c : FC} {R : Wd → β → α → Prop} {W : Wd} {b : β} {s : St} {Q : α → Shared → Prop} {Er : Value → Shared → Prop} (h : Post g c R W (.ok b s) Q Er) {S : Shared} {a : α} (H : Here g c W s S) (r : R W b a) : Q a S := h S W a (Le.refl W) H r
theorem Snd.bind {α β γ δ : Type} {c : FC} {d : Nat} {R : Wd → β → α → Prop} {R' : Wd → δ → γ → Prop} {t : Sem α} {f : α → Sem γ} {W : Wd} {s : St} {res : Res β} {k : β → St → Res δ}
    (h : Snd g c d R t W s res) (n : ∀ b s' W' a, Le W W' → R W' b a → Snd g c d R' (f a) W' s' (k b s')) : Snd g c d R' (t >>= f) W s (res.bind k) :=
  fun A S Q Er O H hP => wpAny_bind (h A S _ Er O H (hP.bind fun b s' W' a S' _ l H' r hP' => n b s' W' a l r A S' Q Er O H' hP'))
theorem Snd.pure {α β : Type} {c : FC} {d : Nat} {R : Wd → β → α → Prop} {W : Wd} {s : St} {b : β} {a : α} (r : R W b a) : Snd g c d R (pure a) W s (.ok b s) := fun _ _ _ _ _ H hP => wpAny_pure (hP.of_ok H r)
theorem Here.toks {c : FC} {W : Wd} {s : St} {S : Shared} (H : Here g c W s S) (tk : Nat) : Here g c W s { S with toks := tk } := ⟨H.fr, H.obj, H.len, H.nodup, H.own, H.gens, H.drawn, H.os⟩
theorem VR.le {W W' : Wd} (l : Le W W') : ∀ {v : V} {val : Value}, VR g W v val → VR g W' v val
  | .none, _, h => h | .bool _, _, h => h | .int _, _, h => h | .str _, _, h => h | .fn _, _, h => h | .cl _, _, h => h | .bi _, _, h => h | .ty _, _, h => h
  | .ref _, _, ⟨p, h, e⟩ => let ⟨q, a, b⟩ := l _ p h; ⟨q, a, by rw [b]; exact e⟩
theorem VRs.le {W W' : Wd} (l : Le W W') {vs : List V} {vals : List Value} (h : VRs g W vs vals) : VRs g W' vs vals := F2.mono (fun _ _ => VR.le l) h
theorem ERs.le {W W' : Wd} (l : Le W W') {vs : En} {es : List DictEntry} (h : ERs g W vs es) : ERs g W' vs es := F2.mono (fun _ _ ⟨t, v, e, r⟩ => ⟨t, v, e, r.le l⟩) h
theorem OR.mono {W W' : Wd} (l : Le W W') {p : Addr × Option Addr} {h h' : Heap} (k : h'.get? p.1 = h.get? p.1) (k2 : ∀ d, p.2 = some d → h'.get? d = h.get? d) {o : O} (x : OR g W p h o) : OR g W' p h' o := by
  cases o with
  | tup _ => obtain ⟨vs, n, a, r⟩ := x; exact ⟨vs, n, k.trans a, r.le l⟩
  | list _ => obtain ⟨vs, n, a, r⟩ := x; exact ⟨vs, n, k.trans a, r.le l⟩
  | rev _ _ => obtain ⟨q, a, b⟩ := x; obtain ⟨q', a', e⟩ := l _ _ a; exact ⟨q', a', by rw [e]; exact k.trans b⟩
  | dict _ => obtain ⟨kvs, ⟨o, es, ep, a, b⟩, r⟩ := x; exact ⟨kvs, ⟨o, es, ep, k.trans a, b⟩, r.mono fun _ _ ⟨e, v⟩ => ⟨e, v.le l⟩⟩
  | inst _ _ =>
    rcases x with ⟨i, d, es, n, e, a, b, r, z⟩ | ⟨i, vs, sl, a, b, z⟩
    · exact .inl ⟨i, d, es, n, e, k.trans a, (k2 d e).trans b, r.le l, z⟩
    · refine .inr ⟨i, vs, sl, k.trans a, ?_, z⟩
      rcases b with b | ⟨d, es, n, e, b, r⟩
      · exact .inl b
      · exact .inr ⟨d, es, n, e, (k2 d e).trans b, r.le l⟩
  | range _ => obtain ⟨t, u, v, a⟩ := x; exact ⟨t, u, v, k.trans a⟩
  | any => trivial
  | row => obtain ⟨vs, n, a, r⟩ := x; exact ⟨vs, n, k.trans a, r⟩
  | iter kk n i =>
    match kk, x with
    | 0, ⟨q, a, ⟨o, b, r⟩⟩ => let ⟨q', a', e⟩ := l _ _ a; exact ⟨q', a', o, k.trans b, by rw [e]; exact r⟩
    | 1, ⟨q, a, ⟨o, b, r⟩⟩ => let ⟨q', a', e⟩ := l _ _ a; exact ⟨q', a', o, k.trans b, by rw [e]; exact r⟩
    | n + 2, x => exact k.trans x
theorem EnvR.mono {c : FC} {W W' : Wd} (l : Le W W') {en : En} {m : Str → Option Value} {h h' : Heap} (k : ∀ b ∈ c.cells.map (·.2), h'.get? b = h.get? b) (x : EnvR g c W en m h) : EnvR g c W' en m h' := fun y v e => by
  rcases x y v e with ⟨a, val, b, r⟩ | ⟨a, ad, val, b, ⟨o, n, d⟩, r⟩
  · exact .inl ⟨a, val, b, r.le l⟩
  · exact .inr ⟨a, ad, val, b, ⟨o, (k ad (List.mem_map.mpr ⟨_, mem_of_lookup b, rfl⟩)).trans n, d⟩, r.le l⟩
/-! the ledger that the library's rules want -/
noncomputable def led (h : Heap) (l : List Addr) : List (Addr × Obj) := l.filterMap fun b => (h.get? b).map fun o => (b, o)
theorem mem_led {h : Heap} {l : List Addr} {p : Addr × Obj} : p ∈ led h l ↔ p.1 ∈ l ∧ h.get? p.1 = some p.2 := by
  simp only [led, List.mem_filterMap, Option.map_eq_some_iff]
  constructor
  · rintro ⟨b, m, o, e, rfl⟩; exact ⟨m, e⟩
  · rintro ⟨m, e⟩; exact ⟨p.1, m, p.2, e, rfl⟩
theorem Here.news {c : FC} {W : Wd} {s : St} {S : Shared} (H : Here g c W s S) : News c.h₀ c.L S.heap (led S.heap (allA c W)) := fun p hp =>
  let ⟨m, e⟩ := mem_led.mp hp; ⟨e, (H.own _ m).1.1, (H.own _ m).1.2.1⟩
theorem led_same {c : FC} {W : Wd} {s : St} {S : Shared} (H : Here g c W s S) {h' : Heap} (N : News c.h₀ c.L h' (led S.heap (allA c W))) : ∀ b ∈ allA c W, h'.get? b = S.heap.get? b := fun b hb => by
  obtain ⟨_, o, e⟩ := H.own b hb
  rw [e]; exact (N (b, o) (mem_led.mpr ⟨hb, e⟩)).1
theorem mem_all {c : FC} {W : Wd} {b : Addr} (h : b ∈ adr W) : b ∈ allA c W := List.mem_append_right _ h
theorem Here.keep {c : FC} {W : Wd} {s : St} {S : Shared} (H : Here g c W s S) {h' : Heap} {m : Str → Option Value} {en : En} (F : Fr c.h₀ c.L h' m) (E : EnvR g c W en m h') (k : ∀ b ∈ allA c W, h'.get? b = S.heap.get? b) (tk : Nat) :
    Here g c W { s with env := en } { S with heap := h', toks := tk } :=
  ⟨⟨m, F, E⟩, fun n o e => let ⟨p, a, q, b⟩ := H.obj n o e; ⟨p, a, q, b.mono (Le.refl W) (k _ (mem_all (mem_adr a))) fun _ q => k _ (mem_all (mem_adr2 a q))⟩, H.len, H.nodup,
   fun b hb => let ⟨x, o, e⟩ := H.own b hb; ⟨x, o, (k b hb).trans e⟩, H.gens, H.drawn, H.os⟩
theorem Here.push {c : FC} {W : Wd} {s s' : St} {S : Shared} (H : Here g c W s S) {h' : Heap} {m : Str → Option Value} {p : Addr × Option Addr} {o : O} (F : Fr c.h₀ c.L h' m) (E : EnvR g c W s.env m S.heap)
    (k : ∀ b ∈ allA c W, h'.get? b = S.heap.get? b) (nd : (p.1 :: p.2.toList).Nodup) (fresh : ∀ b ∈ p.1 :: p.2.toList, b ∉ allA c W ∧ (b ≠ c.L ∧ c.h₀.get? b = none ∧ g.base.objs.size ≤ b) ∧ ∃ o, h'.get? b = some o)
    (ok : okO o = true) (r : OR g (W ++ [p]) p h' o) (en : s'.env = s.env) (n' : s'.n = s.n + 1) (gt : ∀ i, s'.get i = if i = s.n then some o else s.get i) (tk : Nat) :
    Here g c (W ++ [p]) s' { S with heap := h', toks := tk } := by
  have l : Le W (W ++ [p]) := Le.push W p
  have al : allA c (W ++ [p]) = allA c W ++ (p.1 :: p.2.toList) := by simp [allA, adr_push]
  refine ⟨⟨m, F, en ▸ E.mono l fun b hb => k b (List.mem_append_left _ hb)⟩, fun n q e => ?_, by rw [n', H.len]; simp, ?_, fun b hb => ?_, H.gens, H.drawn, H.os⟩
  · rw [gt] at e
    by_cases h : n = s.n
    · rw [if_pos h] at e
      cases e
      exact ⟨p, by rw [h, H.len]; simp, ok, r⟩
    · rw [if_neg h] at e
      obtain ⟨p', a, y, b⟩ := H.obj n q e
      refine ⟨p', ?_, y, b.mono l (k _ (mem_all (mem_adr a))) fun _ x => k _ (mem_all (mem_adr2 a x))⟩
      rw [List.getElem?_append_left]
      · exact a
      · exact (List.getElem?_eq_some_iff.mp a).1
  · rw [al, List.nodup_append]
    refine ⟨H.nodup, nd, fun a ha b hb e => ?_⟩
    subst e
    exact (fresh a hb).1 ha
  · rw [al] at hb
    rcases List.mem_append.mp hb with hb | hb
    · let ⟨x, o, e⟩ := H.own b hb; exact ⟨x, o, (k b hb).trans e⟩
    · exact (fresh b hb).2
theorem Here.updAt {h₃ : Heap} {c : FC} {W : Wd} {s s' : St} {S : Shared} (H : Here g c W s S) {h' : Heap} {m : Str → Option Value} {n : Nat} {p : Addr × Option Addr} {o : O} (d3 : ∀ b, c.h₀.get? b = none → h₃.get? b = none) (F : Fr h₃ c.L h' m) (E : EnvR g c W s.env m S.heap)
    (hp : W[n]? = some p) (k : ∀ b ∈ allA c W, b ∉ p.1 :: p.2.toList → h'.get? b = S.heap.get? b) (k2 : ∀ b ∈ p.1 :: p.2.toList, ∃ o, h'.get? b = some o)
    (ok : okO o = true) (r : OR g W p h' o) (en : s'.env = s.env) (n' : s'.n = s.n) (gt : ∀ i q, s'.get i = some q → (i = n ∧ q = o) ∨ (i ≠ n ∧ s.get i = some q)) (tk : Nat) :
    Here g (c.at h₃) W s' { S with heap := h', toks := tk } := by
  have nd : ∀ i q, W[i]? = some q → i ≠ n → ∀ b ∈ q.1 :: q.2.toList, b ∉ p.1 :: p.2.toList := by
    intro i q hi ne b hb hb'
    have nd := (List.nodup_append.mp H.nodup).2.1
    unfold adr at nd
    have pw := List.pairwise_iff_getElem.mp (List.pairwise_flatMap.mp nd).2
    obtain ⟨li, ei⟩ := List.getElem?_eq_some_iff.mp hi
    obtain ⟨ln, en⟩ := List.getElem?_eq_some_iff.mp hp
    rcases Nat.lt_or_gt_of_ne ne with lt | lt
    · have := pw i n li ln lt
      rw [ei, en] at this
      exact this b hb b hb' rfl
    · have := pw n i ln li lt
      rw [ei, en] at this
      exact this b hb' b hb rfl
  refine ⟨⟨m, F, en ▸ E.mono (Le.refl W) fun b hb => k b (List.mem_append_left _ hb) fun q => ?_⟩, fun i q e => ?_, n'.trans H.len, H.nodup, fun b hb => ?_, H.gens, H.drawn, H.os⟩
  · exact (List.nodup_append.mp H.nodup).2.2 b hb b (List.mem_flatMap.mpr ⟨p, List.mem_of_getElem? hp, q⟩) rfl
  · rcases gt i q e with ⟨e1, e2⟩ | ⟨ne, e⟩
    · subst e1 e2
      exact ⟨p, hp, ok, r⟩
    · obtain ⟨p', a, y, b⟩ := H.obj i q e
      refine ⟨p', a, y, b.mono (Le.refl W) (k _ (mem_all (mem_adr a)) (nd i p' a ne _ (.head _))) fun d x => k _ (mem_all (mem_adr2 a x)) (nd i p' a ne _ (by rw [x]; exact .tail _ (.head _)))⟩
  · obtain ⟨x, o, e⟩ := H.own b hb
    refine ⟨⟨x.1, d3 b x.2.1, x.2.2⟩, ?_⟩
    by_cases q : b ∈ p.1 :: p.2.toList
    · exact k2 b q
    · exact ⟨o, (k b hb q).trans e⟩
theorem Here.upd {c : FC} {W : Wd} {s s' : St} {S : Shared} (H : Here g c W s S) {h' : Heap} {m : Str → Option Value} {n : Nat} {p : Addr × Option Addr} {o : O} (F : Fr c.h₀ c.L h' m) (E : EnvR g c W s.env m S.heap)
    (hp : W[n]? = some p) (k : ∀ b ∈ allA c W, b ∉ p.1 :: p.2.toList → h'.get? b = S.heap.get? b) (k2 : ∀ b ∈ p.1 :: p.2.toList, ∃ o, h'.get? b = some o)
    (ok : okO o = true) (r : OR g W p h' o) (en : s'.env = s.env) (n' : s'.n = s.n) (gt : ∀ i q, s'.get i = some q → (i = n ∧ q = o) ∨ (i ≠ n ∧ s.get i = some q)) (tk : Nat) :
    Here g c W s' { S with heap := h', toks := tk } :=
  Here.updAt (h₃ := c.h₀) H (fun _ e => e) F E hp k k2 ok r en n' gt tk
end Mine
namespace Mine
open PySem PySem.W PySem.Calls PyProof.Rows
variable {g : Gx} {G : Cfg} {c : FC} {d : Nat} {W : Wd} {s : St} {S : Shared}
theorem Here.ofRef (H : Here g c W s S) {n : Nat} {o : O} {val : Value} (r : VR g W (.ref n) val) (e : s.get n = some o) : ∃ p, W[n]? = some p ∧ val = .ref p.1 ∧ OR g W p S.heap o := by
  obtain ⟨p, hp, rfl⟩ := r
  obtain ⟨q, hq, _, x⟩ := H.obj _ _ e
  rw [hp] at hq
  cases hq
  exact ⟨p, hp, rfl, x⟩
theorem tupAt_some {v : V} {l : List V} (e : tupAt s v = some l) : ∃ n, v = .ref n ∧ s.get n = some (.tup l) := by
  unfold tupAt at e
  split at e
  · split at e
    · cases e; exact ⟨_, rfl, by assumption⟩
    · cases e
  · cases e
theorem Here.okO (H : Here g c W s S) {n : Nat} {o : O} (e : s.get n = some o) : okO o = true := let ⟨_, _, a, _⟩ := H.obj _ _ e; a
theorem szL_le {α : Type} {l : List α} (h : szL l = true) : l.length ≤ 1000 := Nat.le_of_ble_eq_true h
theorem Here.tupLen (H : Here g c W s S) {v : V} {l : List V} (e : tupAt s v = some l) : l.length ≤ 1000 := by
  obtain ⟨n, _, e⟩ := tupAt_some e
  exact szL_le (H.okO e)
theorem tupAt_ref {i : Nat} {l : List V} (q : s.get i = some (.tup l)) : tupAt s (.ref i) = some l := by
  show (match s.get i with | some (.tup l) => some l | _ => Option.none) = _
  rw [q]
theorem Here.ofTup (H : Here g c W s S) {v : V} {l : List V} {val : Value} (r : VR g W v val) (e : tupAt s v = some l) : ∃ a vs, val = .ref a ∧ IsTup S.heap a vs.toArray ∧ VRs g W l vs ∧ a ∈ adr W := by
  obtain ⟨n, e1, e3⟩ := tupAt_some e
  subst e1
  obtain ⟨p, hp, e2, x⟩ := H.ofRef r e3
  obtain ⟨vs, n, t, y⟩ := x
  exact ⟨p.1, vs, e2, ⟨_, t, rfl, n, rfl⟩, y, mem_adr hp⟩
/-! flat values -/
noncomputable def flatX (g : Gx) : V → PyData
  | .bool b => .bool b
  | .int i => .int i
  | .str k => .str (g.nm k)
  | _ => .none
theorem flat_reads {v : V} {val : Value} (f : flatV v = true) (r : VR g W v val) (h : Heap) : Reads h val (flatX g v) [] := by
  cases v with
  | none => cases r; exact .none
  | bool b => cases r; exact .bool b
  | int i => obtain ⟨t, rfl⟩ := r; exact .int i t
  | str k => obtain ⟨t, rfl⟩ := r; exact .str _ t
  | _ => cases f
theorem flat_lay (GO : GOK g G) (v : V) : (flatX g v).canLay0 = true ∧ (flatX g v).depth = 0 := by
  cases v <;> simp [flatX, PyData.canLay0, PyData.depth, GO.cps]
theorem allFlat_cons (v : V) (l : List V) : allFlat (v :: l) = (flatV v && allFlat l) := by
  show @Bool.rec (fun _ => Bool) false (allFlat l) (flatV v) = _
  cases flatV v <;> rfl
theorem flats_reads {l : List V} {vs : List Value} (f : allFlat l = true) (r : VRs g W l vs) (h : Heap) : ReadsAll h vs (l.map (flatX g)) [] := by
  unfold VRs at r
  induction r with
  | nil => exact .nil
  | cons a _ ih =>
    rw [allFlat_cons, Bool.and_eq_true] at f
    exact .cons (flat_reads f.1 a h) (ih f.2)
theorem flats_lay (GO : GOK g G) (l : List V) : PyData.canLayAll0 (l.map (flatX g)) = true ∧ PyData.depthAll (l.map (flatX g)) ≤ 1 := by
  induction l with
  | nil => simp [PyData.canLayAll0, PyData.depthAll]
  | cons v l ih =>
    obtain ⟨a, b⟩ := flat_lay GO v
    simp [PyData.canLayAll0, PyData.depthAll, a, b, ih.1, ih.2]
theorem shaped_flat (GO : GOK g G) (v : V) : PySem.SeqAt.shaped (flatX g v) = true := by
  obtain ⟨a, b⟩ := flat_lay GO v
  simp [PySem.SeqAt.shaped, a, b]
theorem shaped_tup (GO : GOK g G) (l : List V) : PySem.SeqAt.shaped (.tuple (l.map (flatX g))) = true := by
  obtain ⟨a, b⟩ := flats_lay GO l
  simp [PySem.SeqAt.shaped, PyData.canLay0, PyData.depth, a]
  omega
theorem natbeq (a b : Nat) : Nat.beq a b = decide (a = b) := BT.beq_eq a b
theorem natblt (a b : Nat) : Nat.blt a b = decide (a < b) := by
  rw [Bool.eq_iff_iff, decide_eq_true_iff, Nat.blt_eq]
theorem intE_eq (i j : Int) : intE i j = (i == j) := by
  have k : (i == j) = decide (i = j) := by rw [Bool.eq_iff_iff, beq_iff_eq, decide_eq_true_iff]
  rw [k]
  cases i with
  | ofNat a => cases j with
    | ofNat b => exact (natbeq a b).trans (decide_eq_decide.mpr ⟨fun h => h ▸ rfl, fun h => Int.ofNat.inj h⟩)
    | negSucc b => rfl
  | negSucc a => cases j with
    | ofNat b => rfl
    | negSucc b => exact (natbeq a b).trans (decide_eq_decide.mpr ⟨fun h => h ▸ rfl, fun h => Int.negSucc.inj h⟩)
theorem intLt_eq (i j : Int) : intLt i j = decide (i < j) := by
  cases i with
  | ofNat a => cases j with
    | ofNat b => exact (natblt a b).trans (decide_eq_decide.mpr ⟨fun h => Int.ofNat_lt.mpr h, fun h => Int.ofNat_lt.mp h⟩)
    | negSucc b => exact (decide_eq_false (p := Int.ofNat a < Int.negSucc b) (show ¬ ((a : Int) < -((b : Int) + 1)) by omega)).symm
  | negSucc a => cases j with
    | ofNat b => exact (decide_eq_true (p := Int.negSucc a < Int.ofNat b) (show -((a : Int) + 1) < (b : Int) by omega)).symm
    | negSucc b => exact (natblt b a).trans (decide_eq_decide.mpr (by
        have : b < a ↔ -((a : Int) + 1) < -((b : Int) + 1) := by omega
        exact this))
theorem nm_beq (GO : GOK g G) (i j : Nat) : (g.nm i == g.nm j) = Nat.beq i j := by
  rw [BT.beq_eq]
  by_cases h : i = j
  · simp [h]
  · have : g.nm i ≠ g.nm j := fun q => h (GO.inj _ _ q)
    simp [h, this]
theorem vEq_ok (GO : GOK g G) {a b : V} {x : Bool} (e : vEq a b = some x) : flatV a = true ∧ flatV b = true ∧ PyData.eqv (flatX g a) (flatX g b) = x := by
  unfold vEq at e
  repeat' split at e
  all_goals (cases e)
  all_goals (refine ⟨rfl, rfl, ?_⟩)
  all_goals (simp [flatX, PyData.eqv, intE_eq, nm_beq GO])
theorem vsEq_ok (GO : GOK g G) : ∀ {a b : List V} {x : Bool}, vsEq a b = some x → PyData.eqvAll (a.map (flatX g)) (b.map (flatX g)) = x
  | [], [], x, e => by cases e; simp [PyData.eqvAll]
  | [], _ :: _, x, e => by cases e; simp [PyData.eqvAll]
  | _ :: _, [], x, e => by cases e; simp [PyData.eqvAll]
  | v :: a, w :: b, x, e => by
    unfold vsEq at e
    cases q : vEq v w with
    | none => rw [q] at e; cases e
    | some y =>
      obtain ⟨_, _, q'⟩ := vEq_ok GO q
      cases y with
      | true =>
        rw [q] at e
        simp [PyData.eqvAll, q', vsEq_ok GO e]
      | false =>
        rw [q] at e
        cases e
        simp [PyData.eqvAll, q']
theorem opEq_ok (GO : GOK g G) (H : Here g c W s S) {a b : V} {va vb : Value} (ra : VR g W a va) (rb : VR g W b vb) {x : Bool} (e : opEq a b s = some x) :
    ∃ da db, Reads S.heap va da [] ∧ Reads S.heap vb db [] ∧ PySem.SeqAt.shaped da = true ∧ PySem.SeqAt.shaped db = true ∧ PyData.eqv da db = x := by
  have tup : ∀ {l : List V} {v : V} {val : Value}, VR g W v val → tupAt s v = some l → allFlat l = true → Reads S.heap val (.tuple (l.map (flatX g))) [] := by
    intro l v val r e f
    obtain ⟨a, vs, rfl, ⟨o, h1, h2, n, h3⟩, r, _⟩ := H.ofTup r e
    exact .tuple h1 h2 h3 (flats_reads f r _)
  unfold opEq at e
  split at e
  · rename_i q
    cases e
    obtain ⟨f1, f2, q⟩ := vEq_ok GO q
    exact ⟨_, _, flat_reads f1 ra _, flat_reads f2 rb _, shaped_flat GO _, shaped_flat GO _, q⟩
  · unfold opEqT at e
    split at e
    · rename_i ta
      split at e
      · rename_i tb
        unfold opEqL at e
        split at e
        · split at e
          · rename_i f1 _ f2
            exact ⟨_, _, tup ra ta f1, tup rb tb f2, shaped_tup GO _, shaped_tup GO _, by simp [PyData.eqv, vsEq_ok GO e]⟩
          · cases e
        · cases e
      · split at e
        · unfold opEqN at e
          split at e
          · cases e
            rename_i f1
            exact ⟨_, _, tup ra ta f1, flat_reads (v := .none) rfl rb _, shaped_tup GO _, shaped_flat GO _, by simp [PyData.eqv, flatX]⟩
          · cases e
        · cases e
    · split at e
      · split at e
        · rename_i tb
          unfold opEqN at e
          split at e
          · cases e
            rename_i f1
            exact ⟨_, _, flat_reads (v := .none) rfl ra _, tup rb tb f1, shaped_flat GO _, shaped_tup GO _, by simp [PyData.eqv, flatX]⟩
          · cases e
        · cases e
      · cases e
theorem AOK.room {A : Around} (O : AOK c d A) : A.units + 64 < cLine := by have := O.units; omega
theorem isNone_eq {a : V} {va : Value} (r : VR g W a va) : (va == Value.none) = isNone a := by
  cases a with
  | none => cases r; rfl
  | bool b => cases r; rfl
  | int i => obtain ⟨t, rfl⟩ := r; rfl
  | str k => obtain ⟨t, rfl⟩ := r; rfl
  | ref n => obtain ⟨p, _, rfl⟩ := r; rfl
  | fn _ => cases r; rfl
  | cl _ => cases r; rfl
  | bi _ => cases r; rfl
  | ty _ => cases r; rfl
/-! dicts -/
theorem look_kvs (GO : GOK g G) {l : En} {kvs : List (Str × Value)} (r : F2 (KR g W) l kvs) (x : Nat) : (look l x = none ∧ valueAt kvs (g.nm x) = none) ∨ ∃ v val, look l x = some v ∧ valueAt kvs (g.nm x) = some val ∧ VR g W v val := by
  induction r with
  | nil => exact .inl ⟨look_nil x, rfl⟩
  | @cons p e l kvs a _ ih =>
    obtain ⟨k, v⟩ := p
    obtain ⟨k', val⟩ := e
    obtain ⟨e1, r1⟩ := a
    simp only at e1 r1
    subst e1
    rw [look_cons]
    simp only [valueAt, List.find?_cons] at ih ⊢
    by_cases h : k = x
    · subst h
      simp only [if_true, decide_true]
      exact .inr ⟨v, val, rfl, rfl, r1⟩
    · have : g.nm k ≠ g.nm x := fun q => h (GO.inj _ _ q)
      simp only [h, this, if_false, decide_false]
      exact ih
theorem Here.notMods (GO : GOK g G) (H : Here g c W s S) {a : Addr} (h : a ∈ adr W) : (a == sysModules) = false := by
  have h1 := (H.own a (mem_all h)).1.2.2
  have h2 := GO.sys
  exact beq_eq_false_iff_ne.mpr (Nat.ne_of_gt (Nat.lt_of_lt_of_le h2 h1))
theorem isSome_eq {α : Type} (o : Option α) : isSome o = o.isSome := by cases o <;> rfl
theorem strIn_ok (GO : GOK g G) (k : Nat) : ∀ {l : List V} {x : Bool}, strIn k l = some x → (l.map (flatX g)).any (fun y => PyData.eqv y (.str (g.nm k))) = x
  | [], x, e => by cases e; rfl
  | .str y :: r, x, e => by
    unfold strIn at e
    split at e
    · cases e
      rename_i q
      simp [flatX, PyData.eqv, nm_beq GO, q]
    · rename_i q
      have := strIn_ok GO k e
      simp only [List.map_cons, List.any_cons, flatX, PyData.eqv, nm_beq GO, q, Bool.false_or]
      exact this
theorem snd_cmp (GO : GOK g G) {op : CmpOp} {a b : V} {va vb : Value} (ra : VR g W a va) (rb : VR g W b vb) : Snd g c d (VR g) (compareOp op va vb) W s (cmp op a b s) := by
  intro A S Q Er O H hP
  have lt : ∀ {a b : V} {va vb : Value} {neg : Bool}, VR g W a va → VR g W b vb → Post g c (VR g) W (cLt a b neg s) Q Er → ∃ i t j u, va = .int i t ∧ vb = .int j u ∧ Q (.bool (match neg with | true => !decide (i < j) | false => decide (i < j))) S := by
    intro a b va vb neg ra rb hP
    unfold cLt at hP
    split at hP
    · split at hP
      · obtain ⟨t, rfl⟩ := ra
        obtain ⟨u, rfl⟩ := rb
        refine ⟨_, t, _, u, rfl, rfl, ?_⟩
        rw [intLt_eq] at hP
        exact hP.of_ok H rfl
      · exact hP.elim
    · exact hP.elim
  have is : ∀ {neg : Bool}, Post g c (VR g) W (cIs a b neg s) Q Er → vb = .none ∧ Q (.bool (match neg with | true => !(va == .none) | false => va == .none)) S := by
    intro neg hP
    unfold cIs at hP
    split at hP
    · cases rb
      refine ⟨rfl, ?_⟩
      rw [isNone_eq ra]
      exact hP.of_ok H rfl
    · exact hP.elim
  cases op with
  | Eq =>
    simp only [cmp] at hP
    cases e : opEq a b s with
    | none => rw [e] at hP; exact hP.elim
    | some x =>
      rw [e] at hP
      obtain ⟨da, db, r1, r2, s1, s2, q⟩ := opEq_ok GO H ra rb e
      exact eq_dataH r1 r2 s1 s2 O.room (by rw [q]; exact hP.of_ok H rfl)
  | NotEq =>
    simp only [cmp] at hP
    cases e : opEq a b s with
    | none => rw [e] at hP; exact hP.elim
    | some x =>
      rw [e] at hP
      obtain ⟨da, db, r1, r2, s1, s2, q⟩ := opEq_ok GO H ra rb e
      exact ne_dataH r1 r2 s1 s2 O.room (by rw [q]; exact hP.of_ok H rfl)
  | Lt =>
    obtain ⟨i, t, j, u, rfl, rfl, q⟩ := lt (neg := false) ra rb hP
    exact lt_int q
  | Gt =>
    obtain ⟨i, t, j, u, rfl, rfl, q⟩ := lt (neg := false) rb ra hP
    exact gt_int q
  | LtE =>
    obtain ⟨i, t, j, u, rfl, rfl, q⟩ := lt (neg := true) rb ra hP
    refine le_int ?_
    have : decide (j ≤ i) = !decide (i < j) := by by_cases h : i < j <;> simp [h] <;> omega
    rw [this]; exact q
  | GtE =>
    obtain ⟨i, t, j, u, rfl, rfl, q⟩ := lt (neg := true) ra rb hP
    refine ge_int ?_
    have : decide (j ≤ i) = !decide (i < j) := by by_cases h : i < j <;> simp [h] <;> omega
    rw [this]; exact q
  | Is =>
    obtain ⟨rfl, q⟩ := is (neg := false) hP
    exact is_none_gen q
  | IsNot =>
    obtain ⟨rfl, q⟩ := is (neg := true) hP
    exact isnot_none_gen q
  | In =>
    simp only [cmp] at hP
    cases e : opIn a b s with
    | none => rw [e] at hP; exact hP.elim
    | some x =>
      rw [e] at hP
      unfold opIn at e
      split at e
      · rename_i k
        obtain ⟨t, rfl⟩ := ra
        split at e
        · split at e
          · rename_i l q
            cases e
            obtain ⟨p, hp, rfl, kvs, D, r⟩ := H.ofRef rb q
            refine wpAny_in_of (strKind_is _ _ _ t) (H.notMods GO (mem_adr hp)) D.mapOf ?_
            have : (valueAt kvs (g.nm k)).isSome = isSome (look l k) := by
              rw [isSome_eq]
              rcases look_kvs GO r k with ⟨a, b⟩ | ⟨_, _, a, b, _⟩ <;> rw [a, b] <;> rfl
            rw [this]
            exact hP.of_ok (H.toks _) rfl
          · rename_i l q
            split at e
            · rename_i f
              obtain ⟨a, vs, rfl, ⟨o, h1, h2, n, h3⟩, r, _⟩ := H.ofTup rb (tupAt_ref q)
              obtain ⟨l1, l2⟩ := flats_lay GO l
              refine SeqAt.in_tuple_reads (.tuple h1 h2 h3 (flats_reads f r _)) (.str _ t) l1 (by simpa [PyData.canLay0] using GO.cps k) ?_ ?_
              · have := O.units
                have := Nat.min_le_right (PyData.depthAll (List.map (flatX g) l)) (PyData.depth (.str (g.nm k)))
                simp [PyData.depth] at this ⊢
                omega
              · rw [strIn_ok GO k e]
                exact hP.of_ok H rfl
            · cases e
          · cases e
        · cases e
      · cases e
  | NotIn =>
    simp only [cmp] at hP
    cases e : opIn a b s with
    | none => rw [e] at hP; exact hP.elim
    | some x =>
      rw [e] at hP
      unfold opIn at e
      split at e
      · rename_i k
        obtain ⟨t, rfl⟩ := ra
        split at e
        · split at e
          · rename_i l q
            cases e
            obtain ⟨p, hp, rfl, kvs, D, r⟩ := H.ofRef rb q
            refine wpAny_notIn_of (strKind_is _ _ _ t) (H.notMods GO (mem_adr hp)) D.mapOf ?_
            have : (valueAt kvs (g.nm k)).isSome = isSome (look l k) := by
              rw [isSome_eq]
              rcases look_kvs GO r k with ⟨a, b⟩ | ⟨_, _, a, b, _⟩ <;> rw [a, b] <;> rfl
            rw [this]
            exact hP.of_ok (H.toks _) rfl
          · rename_i l q
            split at e
            · rename_i f
              obtain ⟨a, vs, rfl, ⟨o, h1, h2, n, h3⟩, r, _⟩ := H.ofTup rb (tupAt_ref q)
              obtain ⟨l1, l2⟩ := flats_lay GO l
              refine SeqAt.notIn_tuple_reads (.tuple h1 h2 h3 (flats_reads f r _)) (.str _ t) l1 (by simpa [PyData.canLay0] using GO.cps k) ?_ ?_
              · have := O.units
                have := Nat.min_le_right (PyData.depthAll (List.map (flatX g) l)) (PyData.depth (.str (g.nm k)))
                simp [PyData.depth] at this ⊢
                omega
              · rw [strIn_ok GO k e]
                exact hP.of_ok H rfl
            · cases e
          · cases e
        · cases e
      · cases e
end Mine
namespace Mine
open PySem PySem.W PySem.Calls PyProof.Rows
variable {g : Gx} {G : Cfg} {c : FC} {d : Nat} {W : Wd} {s : St} {S : Shared}
noncomputable abbrev tupO (vs : List Value) : Obj := { cls := .type "tuple", data := .seq vs.toArray }
theorem push_bad {o : O} (h : okO o = false) : push o s = .bad 80 := by unfold push; rw [h]
theorem push_cases (o : O) (s : St) : (∃ w, push o s = .bad w) ∨ (okO o = true ∧ ∃ s', push o s = .ok (.ref s.n) s' ∧ s'.env = s.env ∧ s'.n = s.n + 1 ∧ ∀ i, s'.get i = if i = s.n then some o else s.get i) := by
  unfold push
  cases h : okO o with
  | false => exact .inl ⟨_, rfl⟩
  | true =>
    show (∃ w, pushK s.n s.env (s.h.ins o s.n) ((s.h.ins o s.n).get s.n) = .bad w) ∨ _
    cases e : (s.h.ins o s.n).get s.n with
    | none => exact .inl ⟨_, rfl⟩
    | some q => exact .inr ⟨rfl, _, rfl, rfl, rfl, fun i => Tr.get_ins o s.h s.n (by rw [e]; rfl) i⟩
theorem lt_of_get {h : Heap} {b : Addr} {o : Obj} (e : h.get? b = some o) : b < h.objs.size := Heap.lt_size e
theorem FOK.bigS (K : FOK g c) {h : Heap} {m : Str → Option Value} (F : Fr c.h₀ c.L h m) : g.base.objs.size ≤ h.objs.size := Nat.le_of_lt (Nat.lt_of_le_of_lt K.big F.ns.lt)
theorem Here.alloc1 (H : Here g c W s S) (K : FOK g c) {m : Str → Option Value} (F₀ : Fr c.h₀ c.L S.heap m) (E₀ : EnvR g c W s.env m S.heap) {o' : O} {Q : Value → Shared → Prop} {Er : Value → Shared → Prop} (hP : Post g c (VR g) W (Mine.push o' s) Q Er)
    {n : Addr} {ob : Obj} (ge : S.heap.objs.size ≤ n) (r : ∀ h', h'.get? n = some ob → OR g (W ++ [(n, none)]) (n, none) h' o') (h' : Heap) (tk : Nat) (F : Fr c.h₀ c.L h' m) (N : News c.h₀ c.L h' ((n, ob) :: led S.heap (allA c W))) :
    Q (.ref n) { S with heap := h', toks := tk } := by
  rcases push_cases o' s with ⟨w, e⟩ | ⟨ok, s', e, en, n', gt⟩
  · rw [e] at hP; exact hP.elim
  · rw [e] at hP
    obtain ⟨a1, a2, a3⟩ := N (n, ob) (.head _)
    have k := led_same H fun p hp => N p (.tail _ hp)
    have lt : ∀ b ∈ allA c W, b < S.heap.objs.size := fun b hb => let ⟨_, o, e⟩ := H.own b hb; lt_of_get e
    refine hP _ (W ++ [(n, none)]) _ (Le.push _ _) (H.push F E₀ k (by simp) (fun b hb => ?_) ok (r h' a1) en n' gt tk) ⟨(n, none), by rw [H.len]; simp, rfl⟩
    have hb' : b = n := by simpa using hb
    subst hb'
    exact ⟨fun q => Nat.lt_irrefl _ (Nat.lt_of_lt_of_le (lt b q) ge), ⟨a2, a3, Nat.le_trans (K.bigS F₀) ge⟩, _, a1⟩
theorem sizeLine_ok {n : Nat} (h : n ≤ 1000) : n ≤ sizeLine := by rw [sizeLine_eq]; omega
theorem OR.tupNew {W' : Wd} {n : Addr} {l : List V} {vs : List Value} (r : VRs g W' l vs) {h' : Heap} (e : h'.get? n = some (tupO vs)) : OR g W' (n, none) h' (.tup l) := ⟨vs, _, e, r⟩
/-! displays -/
theorem snd_newTuple (K : FOK g c) {l : List V} {vs : List Value} (r : VRs g W l vs) : Snd g c d (VR g) (newTuple vs) W s (push (.tup l) s) := by
  intro A S Q Er O H hP
  obtain ⟨m, F, E⟩ := H.fr
  rcases push_cases (.tup l) s with ⟨w, e⟩ | ⟨ok, _⟩
  · rw [e] at hP; exact hP.elim
  · exact newTuple_N F H.news (fun h' F' N' => H.alloc1 K F E hP (Nat.le_refl _) (fun h' e => OR.tupNew (r.le (Le.push _ _)) e) h' _ F' N') (by rw [← r.length]; exact sizeLine_ok (szL_le ok))
theorem snd_newList (K : FOK g c) {l : List V} {vs : List Value} (r : VRs g W l vs) : Snd g c d (VR g) (newList vs) W s (push (.list l) s) := by
  intro A S Q Er O H hP
  obtain ⟨m, F, E⟩ := H.fr
  rcases push_cases (.list l) s with ⟨w, e⟩ | ⟨ok, _⟩
  · rw [e] at hP; exact hP.elim
  · exact newList_N F H.news (fun h' F' N' => H.alloc1 K F E hP (Nat.le_refl _) (fun h' e => ⟨vs, _, e, r.le (Le.push _ _)⟩) h' _ F' N') (by rw [← r.length]; exact sizeLine_ok (szL_le ok))
theorem snd_dict0 (K : FOK g c) {env : Env} {pos : Pos} : Snd g c d (VR g) (eval (.Dict [] [] pos) env) W s (push (.dict []) s) := by
  intro A S Q Er O H hP
  obtain ⟨m, F, E⟩ := H.fr
  refine wpAny_Dict_empty ?_
  have N' := News.push F H.news { cls := .type "dict", data := .dict #[] }
  refine H.alloc1 (o' := .dict []) K F E hP (Nat.le_refl _) (fun h' e => ⟨[], ⟨_, #[], 0, e, ⟨rfl, rfl, rfl⟩, rfl, fun e he => by simp at he, .nil, by simp⟩, .nil⟩) _ S.toks (F.push _) N'
/-! operators -/
theorem find_cat (GO : GOK g G) {x y : Nat} {p : Nat × Nat × Nat} (e : G.cat.find? (fun p => Nat.beq p.1 x && Nat.beq p.2.1 y) = some p) : g.nm p.2.2 = g.nm x ++ g.nm y ∧ (g.nm x).length + (g.nm y).length ≤ sizeLine := by
  have h := List.find?_some e
  have m := List.mem_of_find?_eq_some e
  rw [Bool.and_eq_true, natbeq, natbeq, decide_eq_true_iff, decide_eq_true_iff] at h
  have := GO.cat p m
  rw [h.1, h.2] at this
  exact this
theorem intBits_le {x : Nat} (h : x < 18446744073709551616) : Builtin.Int.intBits (Int.ofNat x) ≤ 64 := by
  unfold Builtin.Int.intBits
  split
  · omega
  · rename_i q
    have h0 : x ≠ 0 := fun e => q (by subst e; rfl)
    show Nat.log2 x + 1 ≤ 64
    have := (Nat.log2_lt h0 (k := 64)).mpr (by simpa using h)
    omega
theorem snd_bin (GO : GOK g G) (K : FOK g c) {op : Operator} {a b : V} {va vb : Value} (ra : VR g W a va) (rb : VR g W b vb) : Snd g c d (VR g) (binaryOp op va vb) W s (bin G.cat op a b s) := by
  intro A S Q Er O H hP
  unfold bin at hP
  split at hP
  · -- Add
    unfold bAdd at hP
    split at hP
    · split at hP
      · obtain ⟨t, rfl⟩ := ra; obtain ⟨u, rfl⟩ := rb
        exact add_int (hP.of_ok (H.toks _) ⟨_, rfl⟩)
      · exact hP.elim
    · split at hP
      · split at hP
        · rename_i e
          obtain ⟨t, rfl⟩ := ra; obtain ⟨u, rfl⟩ := rb
          obtain ⟨q, z⟩ := find_cat GO e
          exact add_str (fun t' tk => hP.of_ok (H.toks _) ⟨t', by rw [q]⟩) z
        · exact hP.elim
      · exact hP.elim
    · split at hP
      · rename_i ta
        split at hP
        · rename_i tb
          obtain ⟨x, vs, rfl, tx, rx, mx⟩ := H.ofTup ra ta
          obtain ⟨y, ws, rfl, ty, ry, my⟩ := H.ofTup rb tb
          obtain ⟨m, F, E⟩ := H.fr
          have lx := H.tupLen ta
          have ly := H.tupLen tb
          have ex := rx.length
          have ey := ry.length
          refine add_tuples F H.news tx ty (fun e => ?_) (fun e1 e2 => ?_) (fun e1 e2 h' F' N' => ?_) (by rw [sizeLine_eq]; omega)
          · unfold addT at hP
            subst e
            split at hP
            · exact hP.of_ok H rb
            · rename_i q; exact (q (List.eq_nil_of_length_eq_zero ex)).elim
          · unfold addT at hP
            subst e2
            split at hP
            · exact (e1 (List.eq_nil_of_length_eq_zero ex.symm)).elim
            · split at hP
              · exact hP.of_ok H ra
              · rename_i q; exact (q (List.eq_nil_of_length_eq_zero ey)).elim
          · unfold addT at hP
            split at hP
            · exact (e1 (List.eq_nil_of_length_eq_zero ex.symm)).elim
            · split at hP
              · exact (e2 (List.eq_nil_of_length_eq_zero ey.symm)).elim
              · exact H.alloc1 K F E hP (Nat.le_refl _) (fun h' e => OR.tupNew (VRs.le (Le.push _ _) (F2.append rx ry)) e) h' _ F' N'
        · exact hP.elim
      · exact hP.elim
  · -- Sub
    unfold bSub at hP
    split at hP
    · split at hP
      · obtain ⟨t, rfl⟩ := ra; obtain ⟨u, rfl⟩ := rb
        exact sub_int (hP.of_ok (H.toks _) ⟨_, rfl⟩)
      · exact hP.elim
    · exact hP.elim
  · -- LShift
    unfold bNat at hP
    split at hP
    · split at hP
      · split at hP
        · split at hP
          · rename_i x _ y _ h1 _ h2
            obtain ⟨t, rfl⟩ := ra; obtain ⟨u, rfl⟩ := rb
            rw [natblt, decide_eq_true_iff] at h1 h2
            have := intBits_le h1
            refine lshift_int (Int.natCast_nonneg _) (by show ((Builtin.Int.intBits (Int.ofNat x) : Nat) : Int) + (y : Int) ≤ _; omega) (hP.of_ok (H.toks _) ⟨S.toks, ?_⟩)
            congr 1
            show (x : Int) * 2 ^ y = ((x <<< y : Nat) : Int)
            rw [Nat.shiftLeft_eq]
            simp
          · exact hP.elim
        · exact hP.elim
      · exact hP.elim
    · exact hP.elim
  · -- RShift
    unfold bNat at hP
    split at hP
    · split at hP
      · split at hP
        · split at hP
          · rename_i x _ y _ h1 _ h2
            obtain ⟨t, rfl⟩ := ra; obtain ⟨u, rfl⟩ := rb
            refine rshift_int (Int.natCast_nonneg _) (hP.of_ok (H.toks _) ⟨S.toks, ?_⟩)
            congr 1
            show Int.fdiv (x : Int) (2 ^ y) = ((x >>> y : Nat) : Int)
            rw [Nat.shiftRight_eq_div_pow, Int.fdiv_eq_ediv_of_nonneg _ (by exact_mod_cast Nat.zero_le (2 ^ y))]
            simp
          · exact hP.elim
        · exact hP.elim
      · exact hP.elim
    · exact hP.elim
  · -- BitAnd
    unfold bAnd at hP
    split at hP
    · split at hP
      · obtain ⟨t, rfl⟩ := ra; obtain ⟨u, rfl⟩ := rb
        exact and_int (hP.of_ok (H.toks _) ⟨_, rfl⟩)
      · exact hP.elim
    · exact hP.elim
  · exact hP.elim
/-! items -/
noncomputable def isSliceE : Expr → Bool
  | .Slice .. => true
  | _ => false
theorem subscripted_plain {slice : Expr} (h : isSliceE slice = false) (o i : Value) : subscripted slice false o i = operate [o, i] (getItem o i) := by
  cases slice <;> first | rfl | cases h
theorem idx_ok {l : List V} {i : Int} {v : V} (e : idx l i = some v) : ∃ j : Nat, seqIndex? i l.length = some j ∧ l[j]? = some v ∧ j < l.length ∧ ((0 ≤ i ∧ j = i.toNat) ∨ (i < 0 ∧ -(l.length : Int) ≤ i ∧ j = (i + l.length).toNat)) := by
  unfold idx at e
  split at e
  · rename_i k
    have lt : k < l.length := (List.getElem?_eq_some_iff.mp e).1
    refine ⟨k, ?_, e, lt, .inl ⟨Int.natCast_nonneg _, rfl⟩⟩
    unfold seqIndex?
    have h1 : ¬ ((k : Int) < 0) := by omega
    show (if (decide (0 ≤ if (k : Int) < 0 then (k : Int) + ↑l.length else (k : Int)) && decide ((if (k : Int) < 0 then (k : Int) + ↑l.length else (k : Int)) < ↑l.length)) = true then some (if (k : Int) < 0 then (k : Int) + ↑l.length else (k : Int)).toNat else none) = some k
    rw [if_neg h1, if_pos (by simp; omega)]
    simp
  · rename_i k
    split at e
    · rename_i q
      rw [natblt, decide_eq_true_iff] at q
      have e' : l[l.length - (k + 1)]? = some v := e
      have h1 : Int.negSucc k < 0 := Int.negSucc_lt_zero k
      have h2 : Int.negSucc k + (l.length : Int) = ((l.length - (k + 1) : Nat) : Int) := by
        show -((k : Int) + 1) + _ = _
        omega
      refine ⟨l.length - (k + 1), ?_, e', by omega, .inr ⟨h1, ?_, ?_⟩⟩
      · unfold seqIndex?
        simp only [h1, if_true, h2]
        rw [if_pos (by simp; omega)]
        rfl
      · show -(l.length : Int) ≤ -((k : Int) + 1)
        omega
      · rw [h2]; rfl
    · cases e
theorem F2.at {α β : Type} {R : α → β → Prop} {l : List α} {r : List β} (h : F2 R l r) {i : Nat} {a : α} (e : l[i]? = some a) : ∃ b, r.toArray[i]? = some b ∧ R a b := by
  obtain ⟨b, x, y⟩ := h.get e
  exact ⟨b, by simpa using x, y⟩
theorem snd_item (GO : GOK g G) {value slice : Expr} (hns : isSliceE slice = false) {a b : V} {va vb : Value} (ra : VR g W a va) (rb : VR g W b vb) : Snd g c d (VR g) (subscriptTail value slice va vb) W s (item a b s) := by
  intro A S Q Er O H hP
  unfold item at hP
  split at hP
  · split at hP
    · rename_i l q
      unfold itemI at hP
      split at hP
      · split at hP
        · rename_i e
          obtain ⟨x, vs, rfl, tx, rx, mx⟩ := H.ofTup ra (tupAt_ref q)
          obtain ⟨u, rfl⟩ := rb
          obtain ⟨j, h1, h2, h3, h4⟩ := idx_ok e
          obtain ⟨val, e2, r⟩ := F2.at rx h2
          have len := szL_le (H.okO q)
          have sz : vs.toArray.size = l.length := by rw [List.size_toArray]; exact rx.length.symm
          refine tail_any tx.typeIs slot_tuple_getitem.lookup (getItem_tuple tx ?_ ?_ (by rw [sz]; exact h1) e2 (hP.of_ok H r)) (subscripted_plain hns _ _)
          · rcases h4 with ⟨a, b⟩ | ⟨a, b, _⟩ <;> omega
          · rcases h4 with ⟨a, b⟩ | ⟨a, b, _⟩ <;> omega
        · exact hP.elim
      · exact hP.elim
    · rename_i l q
      unfold itemI at hP
      split at hP
      · split at hP
        · rename_i e
          obtain ⟨p, hp, rfl, vs, n, ho, rx⟩ := H.ofRef ra q
          obtain ⟨u, rfl⟩ := rb
          obtain ⟨j, h1, h2, h3, h4⟩ := idx_ok e
          obtain ⟨val, e2, r⟩ := F2.at rx h2
          have len := szL_le (H.okO q)
          have sz : vs.toArray.size = l.length := by rw [List.size_toArray]; exact rx.length.symm
          have il : S.heap.IsList p.1 vs.toArray := ⟨_, ho, rfl, n, rfl⟩
          refine tail_any (ops := _) il.typeIs slot_list_getitem.lookup ?_ (subscripted_plain hns _ _)
          rcases h4 with ⟨a, b⟩ | ⟨a, b, b'⟩
          · exact wpAny_getItem_list il a (by omega) (by rw [← b]; exact e2) (hP.of_ok H r)
          · exact wpAny_getItem_list_neg il a (by rw [sz]; exact b) (by omega) (by rw [sz, ← b']; exact e2) (hP.of_ok H r)
        · exact hP.elim
      · exact hP.elim
    · rename_i l q
      unfold itemS at hP
      split at hP
      · rename_i k
        split at hP
        · rename_i e
          obtain ⟨p, hp, rfl, kvs, D, r⟩ := H.ofRef ra q
          obtain ⟨t, rfl⟩ := rb
          rcases look_kvs GO r k with ⟨a, _⟩ | ⟨v, val, a, b, rv⟩
          · rw [a] at e; cases e
          · rw [a] at e; cases e
            exact tail_any (ops := _) D.mapOf.typeIs slot_dict_getitem.lookup (wpAny_getItem_of (strKind_is _ _ _ t) D.mapOf b (hP.of_ok (H.toks _) rv)) (subscripted_plain hns _ _)
        · exact hP.elim
      · exact hP.elim
    · exact hP.elim
  · exact hP.elim
end Mine
namespace Mine
open PySem PySem.W PySem.Calls PyProof.Rows
variable {g : Gx} {G : Cfg} {c : FC} {d : Nat} {W : Wd} {s : St} {S : Shared}
theorem handed {v : V} {val : Value} (r : VR g W v val) : handedIn val = true := by
  cases v with
  | none => cases r; rfl
  | bool b => cases r; rfl
  | int i => obtain ⟨t, rfl⟩ := r; rfl
  | str k => obtain ⟨t, rfl⟩ := r; rfl
  | ref n => obtain ⟨p, _, rfl⟩ := r; rfl
  | fn _ => cases r; rfl
  | cl _ => cases r; rfl
  | bi k =>
    cases r
    show (withoutEnding? (biN k) "#data").isNone = true
    unfold biN
    split <;> decide +kernel
  | ty _ => cases r; rfl
theorem isStr_nm (GO : GOK g G) (k x : Nat) (t : Tok) : (Value.str (g.nm k) t).isStr (g.nm x) = decide (k = x) := by
  show (g.nm k == g.nm x) = _
  rw [nm_beq GO, natbeq]
theorem getL_er (GO : GOK g G) {l : En} {es : List DictEntry} (r : ERs g W l es) (x : Nat) : (look l x = none ∧ getL (g.nm x) es = some none) ∨ ∃ v val, look l x = some v ∧ getL (g.nm x) es = some (some val) ∧ VR g W v val := by
  unfold ERs at r
  have nokey : (es.any fun e => e.refKey) = false := by
    induction r with
    | nil => rfl
    | cons a _ ih =>
      obtain ⟨t, v, rfl, _⟩ := a
      rw [List.any_cons, ih]
      rfl
  have : (look l x = none ∧ es.find? (fun e => e.key.isStr (g.nm x)) = none) ∨ ∃ v e, look l x = some v ∧ es.find? (fun e => e.key.isStr (g.nm x)) = some e ∧ VR g W v e.val := by
    clear nokey
    induction r with
    | nil => exact .inl ⟨look_nil x, rfl⟩
    | @cons p e l es a _ ih =>
      obtain ⟨k, v⟩ := p
      obtain ⟨t, val, e1, r1⟩ := a
      subst e1
      rw [look_cons, List.find?_cons]
      simp only [isStr_nm GO]
      by_cases h : k = x
      · simp only [h, if_true, decide_true]
        exact .inr ⟨_, _, rfl, rfl, r1⟩
      · simp only [h, if_false, decide_false]
        exact ih
  unfold getL
  rcases this with ⟨a, b⟩ | ⟨v, e, a, b, r⟩
  · rw [b]
    simp only
    rw [if_neg (by rw [nokey]; exact Bool.false_ne_true)]
    exact .inl ⟨a, rfl⟩
  · rw [b]
    exact .inr ⟨v, e.val, a, rfl, r⟩
theorem putL_er (GO : GOK g G) {l : En} {es : List DictEntry} (r : ERs g W l es) (x : Nat) {v : V} {val : Value} (rv : VR g W v val) (t : Tok) :
    ERs g W (put l x v) (putL (g.nm x) (PyData.keyHash g.w.params (g.nm x)) (.str (g.nm x) t) val es) := by
  unfold ERs at r ⊢
  induction r with
  | nil => exact .cons ⟨t, val, rfl, rv⟩ .nil
  | @cons p e l es a r ih =>
    obtain ⟨k, v'⟩ := p
    obtain ⟨t', val', e1, r1⟩ := a
    subst e1
    rw [put_cons]
    unfold putL
    simp only [isStr_nm GO]
    by_cases h : k = x
    · subst h
      simp only [if_true, decide_true]
      exact .cons ⟨t', val, rfl, rv⟩ r
    · simp only [h, if_false, decide_false]
      exact .cons ⟨t', val', rfl, r1⟩ ih
noncomputable abbrev UR : Wd → Unit → Unit → Prop := fun _ _ _ => True
theorem setR_cases {α : Type} (a : α) (n : Nat) (o : O) (s : St) : (∃ w, setR a n o s = .bad w) ∨ (okO o = true ∧ setR a n o s = .ok a (s.set n o)) := by
  unfold setR
  cases h : okO o with
  | false => exact .inl ⟨_, rfl⟩
  | true => exact .inr ⟨rfl, rfl⟩
theorem set_env (s : St) (n : Nat) (o : O) : (s.set n o).env = s.env := rfl
theorem set_n (s : St) (n : Nat) (o : O) : (s.set n o).n = s.n := rfl
theorem set_gets {s : St} {n : Nat} {o : O} (i : Nat) (q : O) (e : (s.set n o).get i = some q) : (i = n ∧ q = o) ∨ (i ≠ n ∧ s.get i = some q) := by
  have e' : (s.h.set o n).get i = some q := e
  rw [Tr.get_set] at e'
  by_cases h : i = n
  · subst h
    cases hs : s.h.get i with
    | none => rw [hs] at e'; simp at e'
    | some q' => rw [hs] at e'; simp at e'; exact .inl ⟨rfl, e'.symm⟩
  · rw [if_neg (fun q => h q.1)] at e'
    exact .inr ⟨h, e'⟩
theorem snd_getA (K : FOK g c) (GO : GOK g G) {a : V} {va : Value} (ra : VR g W a va) (x : Nat) {expr : Bool} (hX : ∀ n C l, a = .ref n → s.get n = some (.inst C l) → g.isX C = false) : Snd g c d (VR g) (getAttr va (g.nm x) expr) W s (getA a x s) := by
  intro A S Q Er O H hP
  unfold getA at hP
  split at hP
  · split at hP
    · rename_i C l q
      split at hP
      · rename_i v e
        obtain ⟨p, hp, rfl, r⟩ := H.ofRef ra q
        have hx := hX _ _ _ rfl q
        rcases r with ⟨_, dx, es, n, h1, h2, h3, h4, h5⟩ | ⟨h, _⟩
        · obtain ⟨m, F, E⟩ := H.fr
          obtain ⟨g1, g2, attr, g3, g4⟩ := h5 x v e
          rcases getL_er GO h4 x with ⟨a, _⟩ | ⟨v', val, a, b, rv⟩
          · rw [a] at e; cases e
          · rw [a] at e; cases e
            exact get_own (n := n) F K.kin ⟨h2, rfl, rfl, h3⟩ g1 g2 g3 g4 b (handed rv) (hP.of_ok (H.toks _) rv)
        · rw [hx] at h; cases h
      · exact hP.elim
    · exact hP.elim
  · exact hP.elim
theorem led_upd {c : FC} {W : Wd} {s : St} {S : Shared} (H : Here g c W s S) {D : Addr} (hD : D ∈ allA c W) {od : Obj} (ho : S.heap.get? D = some od) :
    News c.h₀ c.L S.heap ((D, od) :: led S.heap ((allA c W).filter (· ≠ D))) ∧ ∀ od', Upd D od od' ((D, od) :: led S.heap ((allA c W).filter (· ≠ D))) ((D, od') :: led S.heap ((allA c W).filter (· ≠ D))) := by
  refine ⟨fun p hp => ?_, fun od' => .head fun p hp => ?_⟩
  · rcases List.mem_cons.mp hp with rfl | hp
    · exact ⟨ho, (H.own _ hD).1.1, (H.own _ hD).1.2.1⟩
    · obtain ⟨a, b⟩ := mem_led.mp hp
      have := (List.mem_filter.mp a).1
      exact ⟨b, (H.own _ this).1.1, (H.own _ this).1.2.1⟩
  · obtain ⟨a, _⟩ := mem_led.mp hp
    simpa using (List.mem_filter.mp a).2
theorem led_upd_back {c : FC} {W : Wd} {s : St} {S : Shared} (H : Here g c W s S) {D : Addr} {od' : Obj} {h' : Heap} (N : News c.h₀ c.L h' ((D, od') :: led S.heap ((allA c W).filter (· ≠ D)))) :
    h'.get? D = some od' ∧ ∀ b ∈ allA c W, b ≠ D → h'.get? b = S.heap.get? b := by
  refine ⟨(N _ (.head _)).1, fun b hb ne => ?_⟩
  obtain ⟨_, o, e⟩ := H.own b hb
  rw [e]
  exact (N (b, o) (.tail _ (mem_led.mpr ⟨List.mem_filter.mpr ⟨hb, by simpa using ne⟩, e⟩))).1
theorem put_len (l : En) (x : Nat) (v : V) : l.length ≤ (put l x v).length := by
  induction l with
  | nil => exact Nat.zero_le _
  | cons p l ih =>
    rw [put_cons]
    split
    · exact Nat.le_refl _
    · exact Nat.succ_le_succ ih
theorem snd_setA (K : FOK g c) (GO : GOK g G) {a : V} {va : Value} (ra : VR g W a va) {v : V} {vv : Value} (rv : VR g W v vv) (x : Nat) (hX : ∀ n C l, a = .ref n → s.get n = some (.inst C l) → g.isX C = false) : Snd g c d UR (setAttr va (g.nm x) vv) W s (setA G a x v s) := by
  intro A S Q Er O H hP
  unfold setA at hP
  split at hP
  · rename_i n
    split at hP
    · rename_i C l q
      split at hP
      · rename_i cl ec
        split at hP
        · rename_i hm
          rcases setR_cases () n (.inst C (put l x v)) s with ⟨w, e⟩ | ⟨ok, e⟩
          · rw [e] at hP; exact hP.elim
          · rw [e] at hP
            obtain ⟨p, hp, rfl, r⟩ := H.ofRef ra q
            have hx := hX _ _ _ rfl q
            obtain ⟨rfl, CO⟩ := GO.cls _ _ ec
            rcases r with ⟨_, dx, es, nn, h1, h2, h3, h4, h5⟩ | ⟨h, _⟩
            · obtain ⟨m, F, E⟩ := H.fr
              have hd : dx ∈ allA c W := mem_all (mem_adr2 hp h1)
              obtain ⟨N, U⟩ := led_upd H hd h3
              have ga := CO.attrs hx x ((memN_iff _ _).mp hm)
              have r' := putL_er GO h4 x rv (S.toks + 1)
              have len : (putL (g.nm x) (PyData.keyHash g.w.params (g.nm x)) (.str (g.nm x) (S.toks + 1)) vv es).length ≤ 1000 := by
                rw [← F2.length r']
                exact szL_le ok
              have is : (getL (g.nm x) es).isSome = true := by
                rcases getL_er GO h4 x with ⟨_, b⟩ | ⟨_, _, _, b, _⟩ <;> rw [b] <;> rfl
              refine set_dict F K.kin N ⟨h2, rfl, rfl, h3⟩ rfl CO.setattr (CO.plain hx).1 ga.1 (CO.plain hx).2 is rfl (U _) len fun h' F' N' => ?_
              obtain ⟨b1, b2⟩ := led_upd_back H N'
              have ne1 : p.1 ≠ dx := by
                intro q
                rw [q, h3] at h2
                cases h2
              have e2 : p.1 :: p.2.toList = [p.1, dx] := by rw [h1]; rfl
              have h2' : h'.get? p.1 = _ := (b2 p.1 (mem_all (mem_adr hp)) ne1).trans h2
              refine hP _ W () (Le.refl W) (H.upd (s' := s.set n (.inst cl.addr (put l x v))) (o := .inst cl.addr (put l x v)) F' E hp (fun b hb nb => b2 b hb fun q => nb (by rw [e2, q]; simp)) (fun b hb => ?_) ok
                (.inl ⟨hx, dx, _, _, h1, h2', b1, r', fun y v' ey => ?_⟩) rfl rfl set_gets _) trivial
              · rw [e2] at hb
                rcases List.mem_cons.mp hb with rfl | hb
                · exact ⟨_, h2'⟩
                · rw [List.mem_singleton] at hb
                  subst hb
                  exact ⟨_, b1⟩
              · rw [look_put] at ey
                by_cases hxy : x = y
                · subst hxy; exact ga.2
                · rw [if_neg hxy] at ey; exact h5 y v' ey
            · rw [hx] at h; cases h
        · exact hP.elim
      · exact hP.elim
    · exact hP.elim
  · exact hP.elim
theorem stored_kvs (GO : GOK g G) {l : En} {kvs : List (Str × Value)} (r : F2 (KR g W) l kvs) (x : Nat) {v : V} {val : Value} (rv : VR g W v val) (nd : (kvs.map (·.1)).Nodup) : F2 (KR g W) (put l x v) (stored kvs (g.nm x) val) := by
  have noth : ∀ {kvs : List (Str × Value)}, (g.nm x) ∉ kvs.map (·.1) → kvs.map (fun kv => if kv.1 = g.nm x then (kv.1, val) else kv) = kvs := by
    intro kvs h
    induction kvs with
    | nil => rfl
    | cons e kvs ih =>
      simp only [List.map_cons, List.mem_cons, not_or] at h ⊢
      rw [if_neg (fun q => h.1 q.symm)]
      congr 1
      exact ih h.2
  induction r with
  | nil => exact .cons ⟨rfl, rv⟩ .nil
  | @cons p e l kvs a r ih =>
    obtain ⟨k, v'⟩ := p
    obtain ⟨k', val'⟩ := e
    obtain ⟨e1, r1⟩ := a
    simp only at e1 r1
    subst e1
    rw [List.map_cons, List.nodup_cons] at nd
    have ih := ih nd.2
    rw [put_cons]
    unfold stored at ih ⊢
    by_cases h : k = x
    · subst h
      simp only [if_true, List.any_cons, decide_true, Bool.true_or, List.map_cons]
      rw [noth nd.1]
      exact .cons ⟨rfl, rv⟩ r
    · have hn : g.nm k ≠ g.nm x := fun q => h (GO.inj _ _ q)
      simp only [h, if_false, List.any_cons, hn, decide_false, Bool.false_or, List.map_cons]
      by_cases ha : (kvs.any fun kv => decide (kv.1 = g.nm x)) = true
      · rw [if_pos ha] at ih ⊢
        exact .cons ⟨rfl, r1⟩ ih
      · rw [if_neg ha] at ih ⊢
        exact .cons ⟨rfl, r1⟩ ih
theorem snd_setI (K : FOK g c) (GO : GOK g G) {a b v : V} {va vb vv : Value} (ra : VR g W a va) (rb : VR g W b vb) (rv : VR g W v vv) : Snd g c d UR (setItem va vb vv) W s (setI a b v s) := by
  intro A S Q Er O H hP
  unfold setI at hP
  split at hP
  · rename_i n
    split at hP
    · rename_i x
      split at hP
      · rename_i l q
        rcases setR_cases () n (.dict (put l x v)) s with ⟨w, e⟩ | ⟨ok, e⟩
        · rw [e] at hP; exact hP.elim
        · rw [e] at hP
          obtain ⟨p, hp, rfl, kvs, D, r⟩ := H.ofRef ra q
          obtain ⟨t, rfl⟩ := rb
          obtain ⟨m, F, E⟩ := H.fr
          have nd : (kvs.map (·.1)).Nodup := by obtain ⟨_, _, _, _, _, _, _, _, nd⟩ := D; exact nd
          have lk := szL_le (H.okO q)
          have own := H.own _ (mem_all (mem_adr hp))
          refine wpAny_setItem_pairs (strKind_is _ _ _ t) D (fun h' D' sb => ?_) (by rw [← r.length]; exact sizeLine_ok lk)
          have D2 := D'
          obtain ⟨o', _, _, ho', _⟩ := D2
          have p2 : p.2 = none ∨ ∃ dd, p.2 = some dd := by cases p.2 <;> simp
          refine hP _ W () (Le.refl W) (H.upd (s' := s.set n (.dict (put l x v))) (o := .dict (put l x v)) (F.change sb own.1.1 own.1.2.1) E hp (fun b hb nb => sb.2 b fun q => nb (by rw [q]; simp)) (fun b hb => ?_) ok
            ⟨_, D', stored_kvs GO r x rv nd⟩ rfl rfl set_gets _) trivial
          rcases List.mem_cons.mp hb with rfl | hb
          · exact ⟨_, ho'⟩
          · by_cases q : b = p.1
            · rw [q]; exact ⟨_, ho'⟩
            · rw [sb.2 b q]
              have : b ∈ adr W := List.mem_flatMap.mpr ⟨p, List.mem_of_getElem? hp, .tail _ hb⟩
              exact (H.own b (mem_all this)).2
      · exact hP.elim
    · exact hP.elim
  · exact hP.elim
end Mine
namespace Mine
open PySem PySem.W PySem.Calls PyProof.Rows
variable {g : Gx} {G : Cfg} {c : FC} {d : Nat} {W : Wd} {s : St} {S : Shared}
/-! truth -/
theorem lenZ_eq {α : Type} (l : List α) : lenZ l = l.isEmpty := by cases l <;> rfl
noncomputable abbrev BR : Wd → Bool → Bool → Prop := fun _ b a => a = b
theorem snd_truth {a : V} {va : Value} (ra : VR g W a va) : Snd g c d BR (truthy va) W s (truB a s) := by
  intro A S Q Er O H hP
  unfold truB at hP
  split at hP
  · rename_i t e
    unfold truth at e
    split at e
    · cases e; cases ra; exact truthy_none (hP.of_ok H rfl)
    · cases e; cases ra; exact wpAny_truthy_bool (hP.of_ok H rfl)
    · cases e
      obtain ⟨u, rfl⟩ := ra
      refine PyProof.Rows.truthy_int ?_
      rw [intE_eq] at hP
      exact hP.of_ok H rfl
    · split at e
      · rename_i l q
        cases e
        obtain ⟨x, vs, rfl, tx, rx, mx⟩ := H.ofTup ra (tupAt_ref q)
        have len := szL_le (H.okO q)
        have ex := rx.length
        refine truthy_tuple tx (by rw [List.size_toArray]; omega) ?_
        have : (!vs.toArray.isEmpty) = !lenZ l := by
          rw [lenZ_eq]
          cases vs <;> cases l <;> simp_all
        rw [this]
        exact hP.of_ok (H.toks _) rfl
      · rename_i l q
        cases e
        obtain ⟨p, hp, rfl, vs, n, ho, rx⟩ := H.ofRef ra q
        have len := szL_le (H.okO q)
        have ex := F2.length rx
        refine wpAny_truthy_list (items := vs.toArray) ⟨_, ho, rfl, n, rfl⟩ (by rw [List.size_toArray]; omega) ?_
        have : (!vs.toArray.isEmpty) = !lenZ l := by
          rw [lenZ_eq]
          cases vs <;> cases l <;> simp_all
        first
          | (rw [this]; exact hP.of_ok (H.toks _) rfl)
          | exact hP.of_ok (H.toks _) this.symm
      · cases e
    · cases e
  · exact hP.elim
/-! names -/
theorem snd_name (K : FOK g c) (x : Nat) (pos : Pos) : Snd g c d (VR g) (eval (.Name (g.nm x) pos) c.env) W s (nameV x c.F s) := by
  intro A S Q Er O H hP
  obtain ⟨m, F, E⟩ := H.fr
  unfold nameV at hP
  split at hP
  · rename_i v e
    rcases E x v e with ⟨hl, val, hm, r⟩ | ⟨hc, a, val, ha, hi, r⟩
    · exact wpAny_Name (wpAny_loadName_local K.fn.kind (K.fn.locs x hl) F.ns hm (hP.of_ok H r)) (K.fn.dbg x)
    · exact wpAny_Name (wpAny_loadName_cell K.fn.kind (K.fn.cel x hc) ha hi (hP.of_ok H r)) (K.fn.dbg x)
  · split at hP
    · rename_i v e
      obtain ⟨hk, h⟩ := K.fn.gl x v e
      obtain ⟨p, loose, mg, mb, T⟩ := K.top
      rcases h with ⟨val, h1, r⟩ | ⟨val, h1, h2, h3, r⟩
      · exact Name_function_global K.fn.kind hk (loadGlobal_global (T.g.keeps F.keep) (mg_of K.kin T.g h1) (hP.of_ok H (r.le (Le.nil W)))) (K.fn.dbg x)
      · exact Name_function_global K.fn.kind hk (loadGlobal_builtin (T.g.keeps F.keep) (mg_none_of K.kin T.g h1) (T.b.keeps F.keep) ((T.builtins _ h3).trans h2) (hP.of_ok H (r.le (Le.nil W)))) (K.fn.dbg x)
    · exact hP.elim
theorem snd_store (K : FOK g c) (GO : GOK g G) (x : Nat) {v : V} {val : Value} (r : VR g W v val) : Snd g c d UR (storeName c.env (g.nm x) val) W s (bindV x c.F v s) := by
  intro A S Q Er O H hP
  obtain ⟨m, F, E⟩ := H.fr
  have e : bindV x c.F v s = @Bool.rec (fun _ => Res Unit) (.bad 62) (.ok () { s with env := put s.env x v }) (memN x c.F.locs) := rfl
  cases hm : memN x c.F.locs with
  | false => rw [e, hm] at hP; exact hP.elim
  | true =>
    rw [e, hm] at hP
    have hl := (memN_iff _ _).mp hm
    refine wpAny_storeName_local (K.fn.locs x hl) F.ns (fun h' hn sb => ?_) ?_
    · have F' := F.set hn sb
      have k : ∀ b ∈ allA c W, h'.get? b = S.heap.get? b := fun b hb => sb.2 b (H.own b hb).1.1
      have H' := H.keep (en := put s.env x v) F' (fun y w ey => ?_) k (S.toks + 1)
      · exact hP _ W () (Le.refl W) H' trivial
      · rw [look_put] at ey
        by_cases h : x = y
        · subst h
          rw [if_pos rfl] at ey
          cases ey
          exact .inl ⟨hl, val, by simp, r⟩
        · rw [if_neg h] at ey
          rcases E y w ey with ⟨a, val', b, r'⟩ | ⟨a, ad, val', b, hc, r'⟩
          · refine .inl ⟨a, val', ?_, r'⟩
            show (if g.nm y = g.nm x then some val else m (g.nm y)) = some val'
            rw [if_neg (fun q => h (GO.inj _ _ q).symm)]
            exact b
          · exact .inr ⟨a, ad, val', b, hc.sameBut sb (H.own ad (List.mem_append_left _ (List.mem_map.mpr ⟨_, mem_of_lookup b, rfl⟩))).1.1, r'⟩
    · show (c.scope.kind == .class || (c.scope.kind == .module && c.L != mainGlobals)) = false
      rw [K.fn.kind]; rfl
/-! the check that a tree of the executor is the program's -/
inductive AgC (nm : Nat → Str) : V → Const → Prop
  | none : AgC nm .none .none
  | bool (b : Bool) : AgC nm (.bool b) (.bool b)
  | int (i : Int) : AgC nm (.int i) (.int i)
  | str (k : Nat) : AgC nm (.str k) (.str (nm k))
noncomputable def agCD (nm : Nat → Str) : (v : V) → (c : Const) → {b : Bool // b = true → AgC nm v c}
  | .none, .none => ⟨true, fun _ => .none⟩
  | .bool b, .bool c => ⟨b == c, fun h => by cases beq_iff_eq.mp h; exact .bool b⟩
  | .int i, .int j => ⟨i == j, fun h => by cases beq_iff_eq.mp h; exact .int i⟩
  | .str k, .str s => ⟨nm k == s, fun h => by cases beq_iff_eq.mp h; exact .str k⟩
  | _, _ => ⟨false, fun h => nomatch h⟩
noncomputable def noStar : Expr → Bool
  | .Starred .. => false
  | _ => true
noncomputable def noSup : Expr → Bool
  | .Call (.Name _ _) [] [] _ => false
  | _ => true
noncomputable def isPart : Nat → Option Expr → Bool
  | n, some (.Constant (.int i) _ _) => i == Int.ofNat n
  | _, _ => false
noncomputable def isHi : Option Nat → Option Expr → Bool
  | .none, .none => true
  | some n, e => isPart n e
  | _, _ => false
mutual
inductive Ag (nm : Nat → Str) : X → Expr → Prop
  | name (k : Nat) (p : Pos) : Ag nm (.nm k) (.Name (nm k) p)
  | cst {v c k p} : AgC nm v c → Ag nm (.cst v) (.Constant c k p)
  | neg {n k p p'} : Ag nm (.neg n) (.UnaryOp .USub (.Constant (.int (Int.ofNat n)) k p) p')
  | bin {op a b l r p} : Ag nm a l → Ag nm b r → Ag nm (.bin op a b) (.BinOp l op r p)
  | not {a e p} : Ag nm a e → Ag nm (.not a) (.UnaryOp .Not e p)
  | bop {op l es p} : Ags nm l es → Ag nm (.bop op l) (.BoolOp op es p)
  | ife {t a b t' a' b' p} : Ag nm t t' → Ag nm a a' → Ag nm b b' → Ag nm (.ife t a b) (.IfExp t' a' b' p)
  | list {l es p} : Ags nm l es → Ag nm (.list l) (.List es p)
  | tup {l es k p} : Ags nm l es → Ag nm (.tup l) (.Tuple es k p)
  | dict {p} : Ag nm .dict (.Dict [] [] p)
  | cmp {op a b l r p} : behindInMarks op r = false → Ag nm a l → Ag nm b r → Ag nm (.cmp op a b) (.Compare l [op] [r] p)
  | call {f l np es p} : Ags nm l es → Ag nm (.call f l) (.Call (.Name (nm f) np) es [] p)
  | meth {o x l o' ap es p} : noSup o' = true → Ag nm o o' → Ags nm l es → Nat.blt es.length 29 = true → (ap.endLine == p.line) = true → Ag nm (.meth o x l) (.Call (.Attribute o' (nm x) ap) es [] p)
  | attr {o x o' p} : noSup o' = true → Ag nm o o' → Ag nm (.attr o x) (.Attribute o' (nm x) p)
  | item {o i o' i' p} : isSliceE i' = false → Ag nm o o' → Ag nm i i' → Ag nm (.item o i) (.Subscript o' i' p)
  | cut {o lo hi o' lo' hi' sp p} : isPart lo lo' = true → isHi hi hi' = true → Ag nm o o' → Ag nm (.cut o lo hi) (.Subscript o' (.Slice lo' hi' .none sp) p)
  | pass {e} : Ag nm .pass e
inductive Ags (nm : Nat → Str) : X → List Expr → Prop
  | nil : Ags nm .nil []
  | cons {a b e es} : noStar e = true → Ag nm a e → Ags nm b es → Ags nm (.cons a b) (e :: es)
end
theorem and2 {a b : Bool} (h : (a && b) = true) : a = true ∧ b = true := by rwa [Bool.and_eq_true] at h
theorem not2 {a : Bool} (h : (!a) = true) : a = false := by simpa using h
mutual
noncomputable def agD (nm : Nat → Str) : (x : X) → (e : Expr) → {b : Bool // b = true → Ag nm x e}
  | .nm k, .Name s p => ⟨nm k == s, fun h => by cases beq_iff_eq.mp h; exact .name k p⟩
  | .cst v, .Constant c _ _ => ⟨(agCD nm v c).1, fun h => .cst ((agCD nm v c).2 h)⟩
  | .neg n, .UnaryOp .USub (.Constant (.int i) _ _) _ => ⟨i == Int.ofNat n, fun h => by cases beq_iff_eq.mp h; exact .neg⟩
  | .bin op a b, .BinOp l op' r _ => ⟨op == op' && ((agD nm a l).1 && (agD nm b r).1), fun h => by
      obtain ⟨h, h1⟩ := and2 h; cases beq_iff_eq.mp h; exact .bin ((agD nm a l).2 (and2 h1).1) ((agD nm b r).2 (and2 h1).2)⟩
  | .not a, .UnaryOp .Not e _ => ⟨(agD nm a e).1, fun h => .not ((agD nm a e).2 h)⟩
  | .bop op l, .BoolOp op' es _ => ⟨op == op' && (agsD nm l es).1, fun h => by obtain ⟨h, h1⟩ := and2 h; cases beq_iff_eq.mp h; exact .bop ((agsD nm l es).2 h1)⟩
  | .ife t a b, .IfExp t' a' b' _ => ⟨(agD nm t t').1 && ((agD nm a a').1 && (agD nm b b').1), fun h => .ife ((agD nm t t').2 (and2 h).1) ((agD nm a a').2 (and2 (and2 h).2).1) ((agD nm b b').2 (and2 (and2 h).2).2)⟩
  | .list l, .List es _ => ⟨(agsD nm l es).1, fun h => .list ((agsD nm l es).2 h)⟩
  | .tup l, .Tuple es _ _ => ⟨(agsD nm l es).1, fun h => .tup ((agsD nm l es).2 h)⟩
  | .dict, .Dict [] [] _ => ⟨true, fun _ => .dict⟩
  | .cmp op a b, .Compare l [op'] [r] _ => ⟨op == op' && (!behindInMarks op' r && ((agD nm a l).1 && (agD nm b r).1)), fun h => by
      obtain ⟨h, h1⟩ := and2 h; cases beq_iff_eq.mp h; exact .cmp (not2 (and2 h1).1) ((agD nm a l).2 (and2 (and2 h1).2).1) ((agD nm b r).2 (and2 (and2 h1).2).2)⟩
  | .call f l, .Call (.Name s _) es [] _ => ⟨nm f == s && (agsD nm l es).1, fun h => by obtain ⟨h, h1⟩ := and2 h; cases beq_iff_eq.mp h; exact .call ((agsD nm l es).2 h1)⟩
  | .meth o x l, .Call (.Attribute o' s ap) es [] p => ⟨nm x == s && (noSup o' && ((agD nm o o').1 && ((agsD nm l es).1 && (Nat.blt es.length 29 && ap.endLine == p.line)))), fun h => by
      obtain ⟨h, h1⟩ := and2 h; obtain ⟨h1, h2⟩ := and2 h1; obtain ⟨h2, h3⟩ := and2 h2; obtain ⟨h3, h4⟩ := and2 h3; obtain ⟨h4, h5⟩ := and2 h4
      cases beq_iff_eq.mp h; exact .meth h1 ((agD nm o o').2 h2) ((agsD nm l es).2 h3) h4 h5⟩
  | .attr o x, .Attribute o' s _ => ⟨nm x == s && (noSup o' && (agD nm o o').1), fun h => by obtain ⟨h, h1⟩ := and2 h; cases beq_iff_eq.mp h; exact .attr (and2 h1).1 ((agD nm o o').2 (and2 h1).2)⟩
  | .cut o lo hi, .Subscript o' (.Slice lo' hi' .none _) _ => ⟨isPart lo lo' && (isHi hi hi' && (agD nm o o').1), fun h => .cut (and2 h).1 (and2 (and2 h).2).1 ((agD nm o o').2 (and2 (and2 h).2).2)⟩
  | .item o i, .Subscript o' i' _ => ⟨!isSliceE i' && ((agD nm o o').1 && (agD nm i i').1), fun h => .item (not2 (and2 h).1) ((agD nm o o').2 (and2 (and2 h).2).1) ((agD nm i i').2 (and2 (and2 h).2).2)⟩
  | .pass, _ => ⟨true, fun _ => .pass⟩
  | _, _ => ⟨false, fun h => nomatch h⟩
noncomputable def agsD (nm : Nat → Str) : (x : X) → (es : List Expr) → {b : Bool // b = true → Ags nm x es}
  | .nil, [] => ⟨true, fun _ => .nil⟩
  | .cons a b, e :: es => ⟨noStar e && ((agD nm a e).1 && (agsD nm b es).1), fun h => .cons (and2 h).1 ((agD nm a e).2 (and2 (and2 h).2).1) ((agsD nm b es).2 (and2 (and2 h).2).2)⟩
  | _, _ => ⟨false, fun h => nomatch h⟩
end
noncomputable def ag (nm : Nat → Str) (x : X) (e : Expr) : Bool := @decide (Ag nm x e) (Classical.propDecidable _)
noncomputable def ags (nm : Nat → Str) (x : X) (e : List Expr) : Bool := @decide (Ags nm x e) (Classical.propDecidable _)
theorem ag_inv {nm : Nat → Str} {x : X} {e : Expr} (h : ag nm x e = true) : Ag nm x e := @of_decide_eq_true _ (Classical.propDecidable _) h
theorem ags_inv {nm : Nat → Str} {x : X} {e : List Expr} (h : ags nm x e = true) : Ags nm x e := @of_decide_eq_true _ (Classical.propDecidable _) h
theorem Ag.to {nm : Nat → Str} {x : X} {e : Expr} (h : Ag nm x e) : ag nm x e = true := @decide_eq_true _ (Classical.propDecidable _) h
theorem Ags.to {nm : Nat → Str} {x : X} {e : List Expr} (h : Ags nm x e) : ags nm x e = true := @decide_eq_true _ (Classical.propDecidable _) h
theorem agD_ok {nm : Nat → Str} {x : X} {e : Expr} (h : (agD nm x e).1 = true) : ag nm x e = true := ((agD nm x e).2 h).to
theorem agsD_ok {nm : Nat → Str} {x : X} {e : List Expr} (h : (agsD nm x e).1 = true) : ags nm x e = true := ((agsD nm x e).2 h).to
theorem starEach_no {e : Expr} (h : noStar e = true) (rest : List Expr) (env : Env) : starEach (e :: rest) env = (false, eval e env) :: starEach rest env := by
  cases e <;> first | rfl | cases h
theorem any_star {nm : Nat → Str} {pos : Pos} {env : Env} : ∀ {es : List Expr} {l : X}, ags nm l es = true → (backTo pos (starEach es env)).any (·.1) = false
  | [], _, _ => rfl
  | e :: es, l, h => by
    cases ags_inv h with
    | cons h1 h2 h3 =>
      rw [starEach_no h1]
      exact any_star h3.to
end Mine
namespace Mine
open PySem PySem.W PySem.Calls PyProof.Rows
variable {g : Gx} {G : Cfg} {c : FC} {d : Nat} {W : Wd} {s : St} {S : Shared}
noncomputable def FR (g : Gx) (W : Wd) : Fl → Flow → Prop
  | .next, f => f = .next
  | .brk, f => f = .brk
  | .cont, f => f = .cont
  | .ret v, f => ∃ val, f = .ret val ∧ VR g W v val
structure GoodE (g : Gx) (G : Cfg) (r : Rc) (d : Nat) : Prop where
  ev : ∀ c W s x e, FOK g c → ag g.nm x e = true → Snd g c d (VR g) (eval e c.env) W s (r.ev x c.F s)
  ts : ∀ c W s x e, FOK g c → ag g.nm x e = true → Snd g c d BR (isTrue e c.env (eval e c.env)) W s (r.ts x c.F s)
theorem noGood (h : ags nm l es = true) : (∃ a b e es', l = .cons a b ∧ es = e :: es' ∧ noStar e = true ∧ ag nm a e = true ∧ ags nm b es' = true) ∨ (l = .nil ∧ es = []) := by
  cases ags_inv h with
  | nil => exact .inr ⟨rfl, rfl⟩
  | cons h1 h2 h3 => exact .inl ⟨_, _, _, _, rfl, rfl, h1, h2.to, h3.to⟩
theorem Snd.conv {α β : Type} {c : FC} {R : Wd → β → α → Prop} {t : Sem α} {res res' : Res β} (h : Snd g c d R t W s res) (e : res' = res) : Snd g c d R t W s res' := e ▸ h
theorem Post.step {α β γ δ : Type} {c : FC} {R : Wd → β → α → Prop} {R' : Wd → δ → γ → Prop} {t : Sem α} {res : Res β} {k : β → St → Res δ} {Q : γ → Shared → Prop} {Er : Value → Shared → Prop} {A : Around} {Q1 : α → Shared → Prop}
    (hP : Post g c R' W (res.bind k) Q Er) (h : Snd g c d R t W s res) (O : AOK c d A) (H : Here g c W s S)
    (n : ∀ b s' W' a S', Le W W' → R W' b a → Here g c W' s' S' → Post g c R' W' (k b s') Q Er → Q1 a S') : wpAny (model g.prog g.w) A t Q1 Er S :=
  h A S Q1 Er O H (hP.bind fun b s' W' a S' _ l H' r hP' => n b s' W' a S' l r H' hP')
theorem xl_ind {P : X → Prop} (nil : P .nil) (cons : ∀ a b, P b → P (.cons a b)) (other : ∀ x, x ≠ .nil → (∀ a b, x ≠ .cons a b) → P x) : ∀ l, P l := by
  intro l
  induction l with
  | nil => exact nil
  | cons a b _ ih => exact cons a b ih
  | _ => exact other _ (by intro q; cases q) (by intro _ _ q; cases q)
theorem snd_evs {r : Rc} (Gd : GoodE g G r d) (K : FOK g c) {pos : Pos} : ∀ (l : X) (es : List Expr) (W : Wd) (s : St), ags g.nm l es = true → Snd g c d (VRs g) (spliced (backTo pos (starEach es c.env))) W s (evs r c.F l s) := by
  intro l
  induction l using xl_ind with
  | nil =>
    intro es W s h
    rcases noGood h with ⟨_, _, _, _, e, _⟩ | ⟨_, rfl⟩
    · cases e
    · intro A S Q Er O H hP
      exact args_nil (hP.of_ok (a := []) H (.nil : VRs g W [] []))
  | cons a b ihb =>
    intro es W s h
    rcases noGood h with ⟨_, _, e, es', q, rfl, h1, h2, h3⟩ | ⟨e, _⟩
    · cases q
      intro A S Q Er O H hP
      have hP' : Post g c (VRs g) W ((r.ev a c.F s).bind fun y s => (evs r c.F b s).bind fun ys s => .ok (y :: ys) s) Q Er := hP
      refine args_cons ?_ (starEach_no h1 es' c.env)
      refine hP'.step (Gd.ev c W s a e K h2) O H fun v s1 W1 val S1 l1 r1 H1 hP1 => ?_
      refine hP1.step (ihb es' W1 s1 h3) O H1 fun vs s2 W2 vals S2 l2 r2 H2 hP2 => ?_
      exact hP2.of_ok H2 (F2.cons (r1.le l2) r2)
    · cases e
  | other x n1 n2 =>
    intro es W s h
    rcases noGood h with ⟨_, _, _, _, e, _⟩ | ⟨e, _⟩
    · exact (n2 _ _ e).elim
    · exact (n1 e).elim
end Mine
namespace Mine
open PySem PySem.W PySem.Calls PyProof.Rows
variable {g : Gx} {G : Cfg} {c : FC} {d : Nat} {W : Wd} {s : St} {S : Shared}
theorem Snd.le {α β : Type} {c : FC} {d d' : Nat} {R : Wd → β → α → Prop} {t : Sem α} {res : Res β} (h : Snd g c d R t W s res) (k : d ≤ d') : Snd g c d' R t W s res :=
  fun A S Q Er O H hP => h A S Q Er (O.le k) H hP
theorem GoodE.le {r : Rc} {d d' : Nat} (h : GoodE g G r d) (k : d ≤ d') : GoodE g G r d' := ⟨fun c W s x e K a => (h.ev c W s x e K a).le k, fun c W s x e K a => (h.ts c W s x e K a).le k⟩
theorem truB_some {v : V} {s : St} {t : Bool} (h : truth v s = some t) : truB v s = .ok t s := by unfold truB; rw [h]
theorem truB_none {v : V} {s : St} (h : truth v s = none) : truB v s = .bad 61 := by unfold truB; rw [h]
theorem notV_eq (v : V) (s : St) : (∃ w, notV v s = .bad w) ∨ (∃ t, truB v s = .ok t s ∧ notV v s = .ok (.bool (!t)) s) := by
  unfold notV
  cases h : truth v s with
  | none => exact .inl ⟨_, rfl⟩
  | some t => exact .inr ⟨t, truB_some h, rfl⟩
theorem attributeBase_no {o : Expr} (h : noSup o = true) (attr : Str) (env : Env) (whole : Sem Value) : attributeBase o attr env whole = whole := by
  unfold attributeBase
  split
  · cases h
  · rfl
theorem sliceFields_upto {A : Around} {E : Value → Shared → Prop} {sl : Addr} {j n : Nat} {t u : Tok} {Q : Int × Int × Nat → Shared → Prop} (hs : S.heap.IsSliceOf sl (.int (Int.ofNat 0) t) (.int (Int.ofNat j) u) .none) (ha : j ≤ n) (h : Q (0, 1, j) S) :
    wpAny (model g.prog g.w) A (Builtin.Slice.sliceApplied (.ref sl) (pure (n : Int))) Q E S := by
  obtain ⟨os, hos, hcs, hds⟩ := id hs
  unfold Builtin.Slice.sliceApplied Builtin.Slice.sliceFields
  refine wpAny_bind (wpAny_bind (wpAny_field hos hds (x := .int (Int.ofNat 0) t) rfl (wpAny_bind (wpAny_field hos hds (x := .int (Int.ofNat j) u) rfl (wpAny_bind (wpAny_field hos hds (x := .none) rfl (wpAny_pure ?_)))))))
  refine wpAny_bind (slicePart_none ?_)
  show wpAny _ _ (if ((1 : Int) == 0) = true then _ else _) _ _ S
  rw [if_neg (by decide)]
  refine wpAny_bind (slicePart_int (wpAny_bind (slicePart_int (wpAny_bind (wpAny_pure ?_)))))
  have e1 : Builtin.Slice.sliceAdjust (some (Int.ofNat 0)) (some (Int.ofNat j)) 1 (n : Int) = (0, (j : Int)) := by
    unfold Builtin.Slice.sliceAdjust
    have h1 : ¬ ((1 : Int) < 0) := by omega
    have h2 : ¬ ((Int.ofNat 0) < 0) := by decide
    have h3 : ¬ ((Int.ofNat j) < 0) := by simp
    simp only [h1, h2, h3, if_false]
    have h4 : Int.ofNat j = (j : Int) := rfl
    rw [h4]
    congr 1
    omega
  have e2 : Builtin.Slice.slicePlaces 0 (j : Int) 1 = j := by
    unfold Builtin.Slice.slicePlaces
    have h1 : (1 : Int) > 0 := by omega
    simp only [h1, if_true, Int.ediv_one]
    split <;> omega
  show wpAny _ _ (match Builtin.Slice.sliceAdjust (some (Int.ofNat 0)) (some (Int.ofNat j)) 1 (n : Int) with | (lo, hi) => pure (lo, (1 : Int), Builtin.Slice.slicePlaces lo hi 1)) _ _ S
  rw [e1]
  show wpAny _ _ (pure ((0 : Int), (1 : Int), Builtin.Slice.slicePlaces 0 (j : Int) 1)) _ _ S
  rw [e2]
  exact wpAny_pure h
theorem pick_upto (xs : Array Value) (j : Nat) : ((List.range j).filterMap fun (k : Nat) => xs[((0 : Int) + (k : Int) * 1).toNat]?).toArray = (xs.toList.take j).toArray := by
  have e : (fun (k : Nat) => xs[((0 : Int) + (k : Int) * 1).toNat]?) = fun k => xs[0 + k]? := by
    funext k
    have : ((0 : Int) + (k : Int) * 1).toNat = 0 + k := by omega
    rw [this]
  rw [e]
  have := pick_run xs 0 j
  rw [List.filterMap_map] at this
  have e2 : ((fun x => xs[x]?) ∘ fun x => 0 + x) = fun k => xs[0 + k]? := rfl
  rw [e2] at this
  rw [this]
  simp
theorem getItem_upto {A : Around} {E : Value → Shared → Prop} {t sl : Addr} {items : Array Value} {j : Nat} {t0 u : Tok} {Q : Value → Shared → Prop} (ht : IsTup S.heap t items) (hs : S.heap.IsSliceOf sl (.int (Int.ofNat 0) t0) (.int (Int.ofNat j) u) .none) (hj : j < items.size)
    (h : Q (.ref S.heap.objs.size) { S with heap := S.heap.push { cls := .type "tuple", data := .seq (items.toList.take j).toArray } }) (hsz : items.size ≤ sizeLine) : wpAny (model g.prog g.w) A (getItem (.ref t) (.ref sl)) Q E S := by
  have hok : sizeOk (.seq (items.toList.take j).toArray) := by
    show (items.toList.take j).toArray.size ≤ sizeLine
    rw [List.size_toArray, List.length_take]
    omega
  obtain ⟨os, hos, hcs, hds⟩ := id hs
  have hTs : S.TypeIs (.ref sl) "slice" := ⟨os, hos, hcs⟩
  unfold getItem
  try with_reducible refine wpAny_holding ?_
  first | refine wpAny_bind (wpAny_pure ?_) | skip
  refine wpAny_bind (wpAny_sequenceKey ht.typeIs (by decide) ?_)
  refine wpAny_bind (wpAny_callSpecial?_slot (name := Str.ofString "__getitem__") ht.typeIs slot_tuple_getitem
    (wpAny_call_entry slot_tuple_getitem ht.typeIs entry_tuple_getitem ?_ (args_tuple_getitem _ _)))
  show wpAny _ _ (Builtin.Tuple.tupleItemsOf (.ref t) >>= _) _ _ S
  refine wpAny_bind (tupleItemsOf_ ht ?_)
  refine wpAny_bind (wpAny_typeOf hTs ?_)
  rw [if_pos (by decide)]
  refine wpAny_bind (sliceFields_upto hs (Nat.le_of_lt hj) ?_)
  have hno : ¬ (((0 : Int) == 0 && (1 : Int) == 1 && j == items.size) = true) := by
    have : (j == items.size) = false := by rw [beq_eq_false_iff_ne]; omega
    rw [this]; simp
  show wpAny _ _ (if ((0 : Int) == 0 && (1 : Int) == 1 && j == items.size) = true then _ else _) _ _ S
  rw [if_neg hno, pick_upto items j]
  first
    | exact wpAny_bind (m := Builtin.Tuple.tupleExact _) (wpAny_newObj_type (wpAny_pure ⟨_, rfl, wpAny_pure h⟩) hok)
    | exact wpAny_bind (m := Builtin.Tuple.tupleExact _) (wpAny_newObj_type (wpAny_bind (wpAny_pure (wpAny_pure ⟨_, rfl, wpAny_pure h⟩))) hok)
    | exact wpAny_bind (wpAny_bind (m := Builtin.Tuple.tupleExact _) (wpAny_newObj_type (wpAny_pure (wpAny_pure ⟨_, rfl, wpAny_pure h⟩)) hok))
    | exact wpAny_bind (wpAny_bind (m := Builtin.Tuple.tupleExact _) (wpAny_newObj_type (wpAny_pure ⟨_, rfl, wpAny_pure h⟩) hok))
theorem snd_cut (K : FOK g c) {value : Expr} {lo : Nat} {hi : Option Nat} {lo' hi' : Option Expr} {pos : Pos} (h1 : isPart lo lo' = true) (h2 : isHi hi hi' = true) {a : V} {va : Value} (ra : VR g W a va) {A : Around} {Q : Value → Shared → Prop} {Er : Value → Shared → Prop}
    (_O : AOK c d A) (H : Here g c W s S) (hP : Post g c (VR g) W (cut lo hi a s) Q Er) :
    wpAny (model g.prog g.w) A (eval (.Slice lo' hi' .none pos) c.env) (fun i s₂ => wpAny (model g.prog g.w) A (subscriptTail value (.Slice lo' hi' .none pos) va i) Q Er s₂) Er S := by
  unfold cut at hP
  split at hP
  · rename_i l ta
    obtain ⟨x, vs, rfl, tx, rx, mx⟩ := H.ofTup ra ta
    have len := H.tupLen ta
    have ex := rx.length
    obtain ⟨m, F, E⟩ := H.fr
    unfold isPart at h1
    split at h1
    · rename_i i k p
      have h1 : i = Int.ofNat lo := beq_iff_eq.mp h1
      subst h1
      refine wpAny_Slice ?_
      rw [evalPart_some]
      refine wpAny_Constant_int ?_
      split at hP
      · -- to the end
        unfold isHi at h2
        split at h2
        · rw [evalPart_none]
          refine wpAny_pure ?_
          refine wpAny_pure ?_
          unfold cutL at hP
          split at hP
          · rename_i g1
            split at hP
            · rename_i g2
              have g1 : 1 ≤ lo := Nat.le_of_ble_eq_true g1
              have g2 : lo ≤ l.length := Nat.le_of_ble_eq_true g2
              have hsz : vs.toArray.size ≤ sizeLine := by rw [List.size_toArray, ← ex]; exact sizeLine_ok len
              let sl : Obj := { cls := .type "slice", data := .fields #[.int (lo : Int) S.toks, .none, .none] }
              have tx' : IsTup (S.heap.push sl) x vs.toArray := tx.keeps fun _ _ e => Heap.get?_push_of_some _ e
              refine tail_any (s := { S with heap := S.heap.push sl, toks := S.toks + 1 }) tx'.typeIs slot_tuple_getitem.lookup
                (getItem_tuple_from (a := lo) (u := S.toks) tx' (Heap.IsSliceOf.new ..) g1 (by rw [List.size_toArray]; omega) ?_ hsz) (ops := [.ref S.heap.objs.size, .ref x]) rfl
              have N1 := News.push (F.push sl) (H.news.grown fun _ _ e => Heap.get?_push_of_some _ e) (tupO (vs.drop lo))
              rw [Heap.size_push] at N1
              have := H.alloc1 K F E hP (n := S.heap.objs.size + 1) (ob := tupO (vs.drop lo)) (Nat.le_succ _) (fun h' e => OR.tupNew (VRs.le (Le.push _ _) (rx.drop lo)) e) _ (S.toks + 1) ((F.push sl).push _) N1
              show Q (.ref (S.heap.push sl).objs.size) _
              rw [Heap.size_push]
              exact this
            · exact hP.elim
          · exact hP.elim
        · rename_i q; cases q
        · cases h2
      · -- up to a place
        rename_i j
        have h2 : isPart j hi' = true := h2
        · unfold isPart at h2
          split at h2
          · rename_i i k p _
            have h2 : i = Int.ofNat j := beq_iff_eq.mp h2
            subst h2
            rw [evalPart_some]
            refine wpAny_Constant_int ?_
            refine wpAny_pure ?_
            unfold cutR at hP
            split at hP
            · rename_i g1
              split at hP
              · rename_i g2
                rw [natbeq, decide_eq_true_iff] at g1
                rw [natblt, decide_eq_true_iff] at g2
                subst g1
                have hsz : vs.toArray.size ≤ sizeLine := by rw [List.size_toArray, ← ex]; exact sizeLine_ok len
                let sl : Obj := { cls := .type "slice", data := .fields #[.int (Int.ofNat 0) S.toks, .int (Int.ofNat j) (S.toks + 1), .none] }
                have tx' : IsTup (S.heap.push sl) x vs.toArray := tx.keeps fun _ _ e => Heap.get?_push_of_some _ e
                refine tail_any (s := { S with heap := S.heap.push sl, toks := S.toks + 1 + 1 }) tx'.typeIs slot_tuple_getitem.lookup
                  (getItem_upto (j := j) (t0 := S.toks) (u := S.toks + 1) tx' (Heap.IsSliceOf.new ..) (by rw [List.size_toArray]; omega) ?_ hsz) (ops := [.ref S.heap.objs.size, .ref x]) rfl
                have N1 := News.push (F.push sl) (H.news.grown fun _ _ e => Heap.get?_push_of_some _ e) (tupO (vs.take j))
                rw [Heap.size_push] at N1
                have := H.alloc1 K F E hP (n := S.heap.objs.size + 1) (ob := tupO (vs.take j)) (Nat.le_succ _) (fun h' e => OR.tupNew (VRs.le (Le.push _ _) (rx.take j)) e) _ (S.toks + 1 + 1) ((F.push sl).push _) N1
                show Q (.ref (S.heap.push sl).objs.size) _
                rw [Heap.size_push]
                exact this
              · exact hP.elim
            · exact hP.elim
          · cases h2
    · cases h1
  · exact hP.elim
end Mine
namespace Mine
open PySem PySem.W PySem.Calls PyProof.Rows
variable {g : Gx} {G : Cfg} {c : FC} {d : Nat} {W : Wd} {s : St} {S : Shared}
noncomputable def lstId : Nat → String
  | 1 => "list.pop" | 2 => "list.append" | _ => "list.extend"
noncomputable def MRel (k : MK) (vo : Value) (fx : Value × List Value) : Prop := fx.2 = [vo] ∧ match k with
  | .fn f => fx.1 = .ref f
  | .lst x => fx.1 = .builtin (lstId x)
  | .dct _ => fx.1 = .builtin "dict.get"
noncomputable def Keeps (M : Model) (K : Frag) (vf : Value) : Prop := ∀ h, K.In h → ∃ k, (k = Keeper.frame ∨ k = Keeper.machine ∨ k = Keeper.boundFrame) ∧ Looks M h (keeperOf vf) k
structure CallsOK (g : Gx) (G : Cfg) (r : Rc) (d : Nat) : Prop where
  kp : ∀ W f vf l s, VR g W f vf → (∀ w, doCall G r f l s ≠ .bad w) → Keeps (model g.prog g.w) g.K vf
  dc : ∀ c W s f vf l vs, FOK g c → c.F.bz = false → VR g W f vf → VRs g W l vs → Snd g c d (VR g) (call vf vs) W s (doCall G r f l s)
  gm : ∀ c W s o vo x k A S Q Er pl, FOK g c → VR g W o vo → mRes G o x s = some k → Here g c W s S → (∀ fx, MRel k vo fx → Q fx S) → wpAny (model g.prog g.w) A (getMethod vo (g.nm x) pl) Q Er S
  km : ∀ k vo fx o l s, MRel k vo fx → (∀ w, mApp G r k o l s ≠ .bad w) → Keeps (model g.prog g.w) g.K fx.1
  ma : ∀ c W s k o vo fx l vs, FOK g c → c.F.bz = false → MRel k vo fx → VR g W o vo → VRs g W l vs → Snd g c d (VR g) (call fx.1 (fx.2 ++ vs)) W s (mApp G r k o l s)
theorem Post.ne_bad {α β : Type} {c : FC} {R : Wd → β → α → Prop} {res : Res β} {Q : α → Shared → Prop} {Er : Value → Shared → Prop} (h : Post g c R W res Q Er) : ∀ w, res ≠ .bad w := fun w e => by rw [e] at h; exact h
theorem Here.kin (H : Here g c W s S) (K : FOK g c) : g.K.In S.heap := let ⟨_, F, _⟩ := H.fr; K.kin.keeps F.keep
theorem evalArgs_sp {M : Model} {A : Around} {E : Value → Shared → Prop} {f : Value} {pos : Pos} {env : Env} {nm : Nat → Str} {Q : Args → Shared → Prop} : ∀ {l : X} {es : List Expr}, ags nm l es = true → wpAny M A (spliced (backTo pos (starEach es env))) (fun vs s' => Q ⟨vs, []⟩ s') E S → wpAny M A (evalArgs f true (backTo pos (starEach es env)) []) Q E S := by
  intro l es h w
  rcases noGood h with ⟨a, b, e, es', rfl, rfl, h1, _, _⟩ | ⟨rfl, rfl⟩
  · rw [starEach_no h1] at w ⊢
    exact evalArgs_plain w
  · exact fun Γ p hΓ => evalArgs_nil3 (show Q ⟨[], []⟩ S from w Γ p hΓ) Γ p hΓ
theorem snd_callWith {r : Rc} (Gd : GoodE g G r d) (K : FOK g c) {nm : Nat → Str} (hnm : nm = g.nm) {l : X} {es : List Expr} (h : ags nm l es = true) {vf : Value} {first : List Value} {pos : Pos} {k : List V → St → Res V} {A : Around} {Q : Value → Shared → Prop} {Er : Value → Shared → Prop}
    (O : AOK c d A) (H : Here g c W s S) (hP : Post g c (VR g) W ((evs r c.F l s).bind k) Q Er)
    (n : ∀ b s' W' a S', Le W W' → VRs g W' b a → Here g c W' s' S' → Post g c (VR g) W' (k b s') Q Er → Keeps (model g.prog g.w) g.K vf ∧ wpAny (model g.prog g.w) A (call vf (first ++ a)) Q Er S') :
    wpAny (model g.prog g.w) A (callWith pos vf first (backTo pos (starEach es c.env)) []) Q Er S := by
  subst hnm
  refine callWith_of (P := fun h => ∃ k, (k = Keeper.frame ∨ k = Keeper.machine ∨ k = Keeper.boundFrame) ∧ Looks (model g.prog g.w) h (keeperOf vf) k) ?_ (fun _ p => p) (evalArgs_sp h ?_)
  · rw [any_star h]; rfl
  · refine hP.step (snd_evs Gd K l es W s h) O H fun b s' W' a S' l' r' H' hP' => ?_
    obtain ⟨kp, w⟩ := n b s' W' a S' l' r' H' hP'
    exact ⟨kp _ (H'.kin K), w⟩
structure XOK (g : Gx) (G : Cfg) : Prop where
  get : ∀ {c : FC} {d : Nat} {W : Wd} {s : St} {n : Nat} {C : Addr} {l : En} {va : Value} {x : Nat} {expr : Bool}, FOK g c → VR g W (.ref n) va → s.get n = some (.inst C l) → g.isX C = true → Snd g c d (VR g) (getAttr va (g.nm x) expr) W s (getA (.ref n) x s)
  set : ∀ {c : FC} {d : Nat} {W : Wd} {s : St} {n : Nat} {C : Addr} {l : En} {va vv : Value} {v : V} {x : Nat}, FOK g c → VR g W (.ref n) va → VR g W v vv → s.get n = some (.inst C l) → g.isX C = true → Snd g c d UR (setAttr va (g.nm x) vv) W s (setA G (.ref n) x v s)
theorem snd_get (XO : XOK g G) (K : FOK g c) (GO : GOK g G) {a : V} {va : Value} (ra : VR g W a va) (x : Nat) {expr : Bool} : Snd g c d (VR g) (getAttr va (g.nm x) expr) W s (getA a x s) := by
  by_cases h : ∃ n C l, a = .ref n ∧ s.get n = some (.inst C l) ∧ g.isX C = true
  · obtain ⟨n, C, l, rfl, h1, h2⟩ := h
    exact XO.get K ra h1 h2
  · exact snd_getA K GO ra x fun n C l e1 e2 => by
      cases hx : g.isX C with
      | false => rfl
      | true => exact (h ⟨n, C, l, e1, e2, hx⟩).elim
theorem snd_set (XO : XOK g G) (K : FOK g c) (GO : GOK g G) {a : V} {va : Value} (ra : VR g W a va) {v : V} {vv : Value} (rv : VR g W v vv) (x : Nat) : Snd g c d UR (setAttr va (g.nm x) vv) W s (setA G a x v s) := by
  by_cases h : ∃ n C l, a = .ref n ∧ s.get n = some (.inst C l) ∧ g.isX C = true
  · obtain ⟨n, C, l, rfl, h1, h2⟩ := h
    exact XO.set K ra rv h1 h2
  · exact snd_setA K GO ra rv x fun n C l e1 e2 => by
      cases hx : g.isX C with
      | false => rfl
      | true => exact (h ⟨n, C, l, e1, e2, hx⟩).elim
theorem boolGo_eq (op : BoolOp) (t : Bool) : boolGo op t = match op with | .And => t | .Or => !t := by cases op <;> rfl
theorem snd_boolV {r : Rc} (Gd : GoodE g G r d) (K : FOK g c) {pos : Pos} {op : BoolOp} : ∀ (l : X) (es : List Expr) (W : Wd) (s : St), ags g.nm l es = true → Snd g c d (VR g) (boolOp pos op (evalEach es c.env)) W s (boolV r op c.F l s) := by
  intro l
  induction l using xl_ind with
  | cons a b ihb =>
    intro es W s h
    rcases noGood h with ⟨_, _, e, es', q, rfl, h1, h2, h3⟩ | ⟨e, _⟩
    · cases q
      intro A S Q Er O H hP
      have hP' : Post g c (VR g) W ((r.ev a c.F s).bind fun y s => @Bool.rec (fun _ => Res V) (boolK op y s (boolV r op c.F b s)) (.ok y s) (isNil b)) Q Er := hP
      rcases noGood h3 with ⟨b1, b2, e2, es2, q, q', _⟩ | ⟨q, q'⟩
      · rw [q] at hP' h3 ihb
        have hP'' : Post g c (VR g) W ((r.ev a c.F s).bind fun y s => boolK op y s (boolV r op c.F (.cons b1 b2) s)) Q Er := hP'
        subst q'
        show wpAny _ A (do
          let v ← eval e c.env
          standAt pos
          let t ← holding [v] (truthy v)
          match op, t with
          | .And, false | .Or, true => pure v
          | _, _ => boolOp pos op (evalEach (e2 :: es2) c.env)) Q Er S
        refine wpAny_bind (hP''.step (Gd.ev c W s a e K h2) O H fun v s1 W1 val S1 l1 r1 H1 hP1 => ?_)
        refine wpAny_bind (wpAny_standAt (wpAny_bind (wpAny_holding ?_)))
        unfold boolK at hP1
        split at hP1
        · rename_i t et
          refine snd_truth (d := d) r1 A S1 _ Er O H1 ?_
          rw [truB_some et]
          intro S2 W2 t2 l2 H2 e2'
          subst e2'
          rw [boolGo_eq] at hP1
          have hP2 := Post.le hP1 l2
          cases op <;> cases t2 <;> first | exact wpAny_pure (hP2.of_ok H2 (r1.le l2)) | exact ihb _ W2 s1 h3 A S2 Q Er O H2 hP2
        · exact hP1.elim
      · rw [q] at hP'
        have hP'' : Post g c (VR g) W ((r.ev a c.F s).bind fun y s => .ok y s) Q Er := hP'
        subst q'
        show wpAny _ A (eval e c.env) Q Er S
        exact hP''.step (Gd.ev c W s a e K h2) O H fun v s1 W1 val S1 l1 r1 H1 hP1 => hP1.of_ok H1 r1
    · cases e
  | nil =>
    intro es W s h A S Q Er O H hP
    exact hP.elim
  | other x n1 n2 =>
    intro es W s h
    rcases noGood h with ⟨_, _, _, _, e, _⟩ | ⟨e, _⟩
    · exact (n2 _ _ e).elim
    · exact (n1 e).elim
theorem snd_boolT {r : Rc} (Gd : GoodE g G r d) (K : FOK g c) {op : BoolOp} : ∀ (l : X) (es : List Expr) (W : Wd) (s : St), ags g.nm l es = true → Snd g c d BR (allTrue op es c.env) W s (boolT r op c.F l s) := by
  intro l
  induction l using xl_ind with
  | cons a b ihb =>
    intro es W s h
    rcases noGood h with ⟨_, _, e, es', q, rfl, h1, h2, h3⟩ | ⟨e, _⟩
    · cases q
      intro A S Q Er O H hP
      have hP' : Post g c BR W ((r.ts a c.F s).bind fun t s => boolTK op t s (boolT r op c.F b s)) Q Er := hP
      rw [arm_allTrue_cons]
      refine wpAny_bind (hP'.step (Gd.ts c W s a e K h2) O H fun t s1 W1 t' S1 l1 r1 H1 hP1 => ?_)
      have r1 : t' = t := r1
      subst r1
      unfold boolTK at hP1
      rw [boolGo_eq] at hP1
      cases op <;> cases t' <;> first | exact wpAny_pure (hP1.of_ok H1 rfl) | exact ihb _ W1 s1 h3 A S1 Q Er O H1 hP1
    · cases e
  | nil =>
    intro es W s h
    rcases noGood h with ⟨_, _, _, _, e, _⟩ | ⟨_, rfl⟩
    · cases e
    · intro A S Q Er O H hP
      rw [arm_allTrue_nil]
      refine wpAny_pure ?_
      have hP' : Post g c BR W (.ok (isAnd op) s) Q Er := hP
      have : (op == BoolOp.And) = isAnd op := by cases op <;> rfl
      rw [this]
      exact hP'.of_ok H rfl
  | other x n1 n2 =>
    intro es W s h
    rcases noGood h with ⟨_, _, _, _, e, _⟩ | ⟨e, _⟩
    · exact (n2 _ _ e).elim
    · exact (n1 e).elim
end Mine
namespace Mine
open PySem PySem.W PySem.Calls PyProof.Rows
variable {g : Gx} {G : Cfg} {c : FC} {d : Nat} {W : Wd} {s : St} {S : Shared}
theorem snd_const (h : AgC g.nm v k) {n : Nat} {pos : Pos} : Snd g c d (VR g) (eval (.Constant k n pos) c.env) W s (.ok v s) := by
  intro A S Q Er O H hP
  cases h with
  | none => exact wpAny_Constant_none (hP.of_ok H rfl)
  | bool => exact wpAny_Constant_bool (hP.of_ok H rfl)
  | int => exact wpAny_Constant_int (hP.of_ok (H.toks _) ⟨_, rfl⟩)
  | str => exact wpAny_Constant_str (hP.of_ok (H.toks _) ⟨_, rfl⟩)
theorem isTrue_other {e : Expr} (h1 : ∀ x p, e ≠ .UnaryOp .Not x p) (h2 : ∀ o v p, e ≠ .BoolOp o v p) (h3 : ∀ t a b p, e ≠ .IfExp t a b p) (h4 : ∀ l o r p, e ≠ .Compare l o r p) (env : Env) (whole : Sem Value) :
    isTrue e env whole = (do let v ← whole; standAt e.pos; holding [v] (truthy v)) := by
  cases e with
  | UnaryOp op x p =>
    cases op with
    | Not => exact (h1 _ _ rfl).elim
    | _ => rfl
  | BoolOp o v p => exact (h2 _ _ _ rfl).elim
  | IfExp t a b p => exact (h3 _ _ _ _ rfl).elim
  | Compare l o r p => exact (h4 _ _ _ _ rfl).elim
  | _ => rfl
theorem snd_eCmp (GO : GOK g G) {r : Rc} (Gd : GoodE g G r d) (K : FOK g c) {op : CmpOp} {a b : X} {l e : Expr} (h1 : ag g.nm a l = true) (h2 : ag g.nm b e = true) {A : Around} {Q : Value → Shared → Prop} {Er : Value → Shared → Prop} (O : AOK c d A) (H : Here g c W s S)
    (hP : Post g c (VR g) W (eCmp r op a b c.F s) Q Er) : wpAny (model g.prog g.w) A (eval l c.env) (fun x s₁ => wpAny (model g.prog g.w) A (eval e c.env) (fun y s₂ => wpAny (model g.prog g.w) A (compareOp op x y) Q Er s₂) Er s₁) Er S := by
  refine Post.step hP (Gd.ev c W s a l K h1) O H fun v s1 W1 val S1 l1 r1 H1 hP1 => ?_
  refine hP1.step (Gd.ev c W1 s1 b e K h2) O H1 fun v2 s2 W2 val2 S2 l2 r2 H2 hP2 => ?_
  exact snd_cmp GO (r1.le l2) r2 A S2 Q Er O H2 hP2
theorem good_ev (GO : GOK g G) (XO : XOK g G) {r : Rc} (Gd : GoodE g G r d) (HC : CallsOK g G r d) (K : FOK g c) {x : X} {e : Expr} (h : ag g.nm x e = true) : Snd g c d (VR g) (eval e c.env) W s (evStep G r x c.F s) := by
  have q := ag_inv h
  clear h
  cases q with
  | name k p =>
    exact snd_name K _ _
  | cst h => exact snd_const h
  | neg =>
    intro A S Q Er O H hP
    rw [arm_eval_UnaryOp]
    refine wpAny_bind (wpAny_Constant_int (wpAny_bind (wpAny_standAt (wpAny_holding (PyProof.Rows.neg_int ?_)))))
    exact hP.of_ok (H.toks _) ⟨_, rfl⟩
  | @bin op a b l rr p h1 h2 =>
    have h1 := h1.to
    have h2 := h2.to
    intro A S Q Er O H hP
    have hP' : Post g c (VR g) W ((r.ev a c.F s).bind fun x s => (r.ev b c.F s).bind fun y s => bin G.cat op x y s) Q Er := hP
    refine wpAny_BinOp ?_
    refine hP'.step (Gd.ev c W s a l K h1) O H fun v s1 W1 val S1 l1 r1 H1 hP1 => ?_
    refine hP1.step (Gd.ev c W1 s1 b rr K h2) O H1 fun v2 s2 W2 val2 S2 l2 r2 H2 hP2 => ?_
    exact snd_bin GO K (r1.le l2) r2 A S2 Q Er O H2 hP2
  | @not a e p h =>
    have h := h.to
    intro A S Q Er O H hP
    have hP' : Post g c (VR g) W ((r.ev a c.F s).bind fun y s => notV y s) Q Er := hP
    rw [arm_eval_UnaryOp]
    refine wpAny_bind (hP'.step (Gd.ev c W s a e K h) O H fun v s1 W1 val S1 l1 r1 H1 hP1 => ?_)
    refine wpAny_bind (wpAny_standAt (wpAny_holding ?_))
    rcases notV_eq v s1 with ⟨w, q⟩ | ⟨t, q1, q2⟩
    · rw [q] at hP1; exact hP1.elim
    · rw [q2] at hP1
      show wpAny _ A (unaryOp .Not val) Q Er S1
      show wpAny _ A (holding [val] (do return Value.bool (!(← truthy val)))) Q Er S1
      refine wpAny_holding (wpAny_bind ?_)
      refine snd_truth (d := d) r1 A S1 _ Er O H1 ?_
      rw [q1]
      intro S2 W2 t2 l2 H2 e2
      subst e2
      exact wpAny_pure ((hP1.le l2).of_ok H2 rfl)
  | @bop op l es p h1 =>
    have h1 := h1.to
    intro A S Q Er O H hP
    rw [arm_eval_BoolOp]
    exact snd_boolV Gd K l es W s h1 A S Q Er O H hP
  | @ife t a b t' a' b' p h0 h1 h2 =>
    have h0 := h0.to
    have h1 := h1.to
    have h2 := h2.to
    intro A S Q Er O H hP
    have hP' : Post g c (VR g) W ((r.ts t c.F s).bind fun y s => @Bool.rec (fun _ => Res V) (r.ev b c.F s) (r.ev a c.F s) y) Q Er := hP
    refine wpAny_IfExp ?_
    refine hP'.step (Gd.ts c W s t t' K h0) O H fun v s1 W1 val S1 l1 r1 H1 hP1 => ?_
    have r1 : val = v := r1
    subst r1
    cases val with
    | true => exact Gd.ev c W1 s1 a a' K h1 A S1 Q Er O H1 hP1
    | false => exact Gd.ev c W1 s1 b b' K h2 A S1 Q Er O H1 hP1
  | @list l es p h =>
    have h := h.to
    intro A S Q Er O H hP
    have hP' : Post g c (VR g) W ((evs r c.F l s).bind fun as s => push (.list as) s) Q Er := hP
    refine List_ ?_
    refine hP'.step (snd_evs Gd K l es W s h) O H fun v s1 W1 val S1 l1 r1 H1 hP1 => ?_
    exact snd_newList (d := d) K r1 A S1 Q Er O H1 hP1
  | @tup l es kk p h =>
    have h := h.to
    intro A S Q Er O H hP
    have hP' : Post g c (VR g) W ((evs r c.F l s).bind fun as s => push (.tup as) s) Q Er := hP
    refine Tuple_ ?_
    refine hP'.step (snd_evs Gd K l es W s h) O H fun v s1 W1 val S1 l1 r1 H1 hP1 => ?_
    exact snd_newTuple (d := d) K r1 A S1 Q Er O H1 hP1
  | dict => exact snd_dict0 K
  | @cmp op a b l rr p hb h1 h2 =>
    have h1 := h1.to
    have h2 := h2.to
    intro A S Q Er O H hP
    exact wpAny_Compare1 (snd_eCmp GO Gd K h1 h2 O H hP) (by simpa using hb)
  | @call f l np es p h1 =>
    have h1 := h1.to
    intro A S Q Er O H hP
    have hP' : Post g c (VR g) W (@Bool.rec (fun _ => Res V) ((nameV f c.F s).bind fun ff s => (evs r c.F l s).bind fun as s => doCall G r ff as s) (.bad 90) c.F.bz) Q Er := hP
    cases hb : c.F.bz with
    | true => rw [hb] at hP'; exact hP'.elim
    | false =>
      rw [hb] at hP'
      have hP' : Post g c (VR g) W ((nameV f c.F s).bind fun ff s => (evs r c.F l s).bind fun as s => doCall G r ff as s) Q Er := hP'
      refine Call_Name rfl ?_
      refine hP'.step (snd_name K f np) O H fun v s1 W1 val S1 l1 r1 H1 hP1 => ?_
      refine snd_callWith Gd K rfl h1 O H1 hP1 fun vs s2 W2 vals S2 l2 r2 H2 hP2 => ?_
      exact ⟨HC.kp W2 v val vs s2 (r1.le l2) hP2.ne_bad, HC.dc c W2 s2 v val vs vals K hb (r1.le l2) r2 A S2 Q Er O H2 hP2⟩
  | @meth o x l o' ap es p hs h1 h2 h3 h4 =>
    have h1 := h1.to
    have h2 := h2.to
    intro A S Q Er O H hP
    have hP' : Post g c (VR g) W (@Bool.rec (fun _ => Res V) ((r.ev o c.F s).bind fun ov s => eMeth G r (mRes G ov x s) ov c.F l s) (.bad 90) c.F.bz) Q Er := hP
    cases hb : c.F.bz with
    | true => rw [hb] at hP'; exact hP'.elim
    | false =>
      rw [hb] at hP'
      have hP' : Post g c (VR g) W ((r.ev o c.F s).bind fun ov s => eMeth G r (mRes G ov x s) ov c.F l s) Q Er := hP'
      rw [arm_eval_Call, attributeBase_no hs]
      unfold methodCall
      refine wpAny_bind (hP'.step (Gd.ev c W s o o' K h1) O H fun v s1 W1 val S1 l1 r1 H1 hP1 => ?_)
      refine wpAny_bind (wpAny_standAt ?_)
      have few : methodCallForm (es.length + ([] : List Keyword).length) (backTo p (starEach es c.env)) (backToKw p (keywordEach [] c.env)) = true := by
        unfold methodCallForm
        rw [natblt, decide_eq_true_iff] at h3
        have := any_star (pos := p) (env := c.env) h2
        have e : (backTo p (starEach es c.env)).all (fun x => !x.1) = true := by
          rw [List.all_eq_true]
          intro x hx
          have := List.any_eq_false.mp this x hx
          simpa using this
        rw [e]
        show (true && true && decide (es.length + 0 + 0 < 30)) = true
        simp
        omega
      have he : (!true || ap.endLine == p.line) = true := h4
      rw [few]
      show wpAny _ A (holding [val] (getMethod val (g.nm x) _) >>= fun z => methodCallPos true o' c.env ap p >>= fun cp => callWith cp z.1 z.2 (backTo p (starEach es c.env)) []) Q Er S1
      unfold methodCallPos
      unfold eMeth at hP1
      split at hP1
      · rename_i k ek
        refine wpAny_bind (wpAny_holding (HC.gm c W1 s1 v val x k A S1 _ Er _ K r1 ek H1 fun fx hfx => ?_))
        rw [if_pos he]
        refine wpAny_bind (wpAny_pure ?_)
        refine snd_callWith Gd K rfl h2 O H1 hP1 fun vs s2 W2 vals S2 l2 r2 H2 hP2 => ?_
        exact ⟨HC.km k val fx v vs s2 hfx hP2.ne_bad, HC.ma c W2 s2 k v val fx vs vals K hb hfx (r1.le l2) r2 A S2 Q Er O H2 hP2⟩
      · exact hP1.elim
  | @attr o x o' p hs h1 =>
    have h1 := h1.to
    intro A S Q Er O H hP
    have hP' : Post g c (VR g) W ((r.ev o c.F s).bind fun y s => getA y x s) Q Er := hP
    rw [arm_eval_Attribute, attributeBase_no hs]
    refine wpAny_bind (hP'.step (Gd.ev c W s o o' K h1) O H fun v s1 W1 val S1 l1 r1 H1 hP1 => ?_)
    refine wpAny_bind (wpAny_standAt (wpAny_bind (wpAny_holding ?_)))
    refine wpAny_mono (snd_get XO (d := d) K GO r1 x A S1 Q Er O H1 hP1) (fun _ _ q => wpAny_bind (wpAny_letTemporaryGo (wpAny_pure q))) fun _ _ q => q
  | @item o i o' i' p h0 h1 h2 =>
    have h1 := h1.to
    have h2 := h2.to
    intro A S Q Er O H hP
    have hP' : Post g c (VR g) W ((r.ev o c.F s).bind fun y s => (r.ev i c.F s).bind fun z s => item y z s) Q Er := hP
    refine Subscript_ ?_
    refine hP'.step (Gd.ev c W s o o' K h1) O H fun v s1 W1 val S1 l1 r1 H1 hP1 => ?_
    refine hP1.step (Gd.ev c W1 s1 i i' K h2) O H1 fun v2 s2 W2 val2 S2 l2 r2 H2 hP2 => ?_
    exact snd_item (d := d) GO (by simpa using h0) (r1.le l2) r2 A S2 Q Er O H2 hP2
  | @cut o lo hi o' lo' hi' sp p h0 h1 h2 =>
    have h2 := h2.to
    intro A S Q Er O H hP
    have hP' : Post g c (VR g) W ((r.ev o c.F s).bind fun y s => cut lo hi y s) Q Er := hP
    refine Subscript_ ?_
    refine hP'.step (Gd.ev c W s o o' K h2) O H fun v s1 W1 val S1 l1 r1 H1 hP1 => ?_
    exact snd_cut K h0 h1 r1 O H1 hP1
  | pass =>
    intro A S Q Er O H hP
    exact hP.elim
theorem good_ts (GO : GOK g G) (XO : XOK g G) {r : Rc} (Gd : GoodE g G r d) (K : FOK g c) {x : X} {e : Expr} (h : ag g.nm x e = true) : Snd g c d BR (isTrue e c.env (eval e c.env)) W s (tsStep r x c.F s) := by
  have other : ∀ {x : X} {e : Expr}, ag g.nm x e = true → (∀ x p, e ≠ .UnaryOp .Not x p) → (∀ o v p, e ≠ .BoolOp o v p) → (∀ t a b p, e ≠ .IfExp t a b p) → (∀ l o r p, e ≠ .Compare l o r p) →
      Snd g c d BR (isTrue e c.env (eval e c.env)) W s ((r.ev x c.F s).bind fun y s => truB y s) := by
    intro x e h h1 h2 h3 h4 A S Q Er O H hP
    rw [isTrue_other h1 h2 h3 h4]
    refine wpAny_bind (hP.step (Gd.ev c W s x e K h) O H fun v s1 W1 val S1 l1 r1 H1 hP1 => ?_)
    exact wpAny_bind (wpAny_standAt (wpAny_holding (snd_truth (d := d) r1 A S1 Q Er O H1 hP1)))
  have h0 := h
  have q := ag_inv h
  clear h
  cases q with
  | name => exact other h0 (by simp) (by simp) (by simp) (by simp)
  | cst => exact other h0 (by simp) (by simp) (by simp) (by simp)
  | neg => exact other h0 (by simp) (by simp) (by simp) (by simp)
  | bin => exact other h0 (by simp) (by simp) (by simp) (by simp)
  | @not a e p h =>
    have h := h.to
    intro A S Q Er O H hP
    have hP' : Post g c BR W ((r.ts a c.F s).bind fun y s => .ok (!y) s) Q Er := hP
    refine wpAny_isTrue_Not ?_
    refine hP'.step (Gd.ts c W s a e K h) O H fun v s1 W1 val S1 l1 r1 H1 hP1 => ?_
    have r1 : val = v := r1
    subst r1
    exact hP1.of_ok H1 rfl
  | @bop op l es p h1 =>
    have h1 := h1.to
    intro A S Q Er O H hP
    rw [arm_isTrue_BoolOp]
    exact snd_boolT Gd K l es W s h1 A S Q Er O H hP
  | ife =>
    intro A S Q Er O H hP
    exact hP.elim
  | list => exact other h0 (by simp) (by simp) (by simp) (by simp)
  | tup => exact other h0 (by simp) (by simp) (by simp) (by simp)
  | dict => exact other h0 (by simp) (by simp) (by simp) (by simp)
  | @cmp op a b l rr p hb h1 h2 =>
    have h1 := h1.to
    have h2 := h2.to
    intro A S Q Er O H hP
    have hP' : Post g c BR W ((eCmp r op a b c.F s).bind fun y s => truB y s) Q Er := hP
    refine wpAny_isTrue_Compare1 ?_ (by simpa using hb)
    refine snd_eCmp (Q := fun z s₃ => wpAny (model g.prog g.w) A (truthy z) Q Er s₃) GO Gd K h1 h2 O H (hP'.bind fun b s' W' a S' _ l' H' r' hP1 => ?_)
    exact snd_truth (d := d) r' A S' Q Er O H' hP1
  | call => exact other h0 (by simp) (by simp) (by simp) (by simp)
  | meth => exact other h0 (by simp) (by simp) (by simp) (by simp)
  | attr => exact other h0 (by simp) (by simp) (by simp) (by simp)
  | item => exact other h0 (by simp) (by simp) (by simp) (by simp)
  | cut => exact other h0 (by simp) (by simp) (by simp) (by simp)
  | pass =>
    intro A S Q Er O H hP
    exact hP.elim
theorem goodE_step (GO : GOK g G) (XO : XOK g G) {r : Rc} (Gd : GoodE g G r d) (HC : CallsOK g G r d) : GoodE g G (stepR G r) (d + 1) :=
  ⟨fun _ _ _ _ _ K h => (good_ev GO XO Gd HC K h).le (Nat.le_succ d), fun _ _ _ _ _ K h => (good_ts GO XO Gd K h).le (Nat.le_succ d)⟩
end Mine
namespace Mine
open PySem PySem.W PySem.Calls PyProof.Rows
variable {g : Gx} {G : Cfg} {c : FC} {d : Nat} {W : Wd} {s : St} {S : Shared}
theorem keeps_pure {M : Model} {K : Frag} {v : Value} (h : keeperOf v = pure .machine) : Keeps M K v := fun _ _ => ⟨.machine, .inr (.inl rfl), Looks.of_pure h⟩
theorem keeps_bi (M : Model) (K : Frag) (i : String) : Keeps M K (.builtin i) := keeps_pure rfl
theorem keeps_ty (M : Model) (K : Frag) (i : String) : Keeps M K (.type i) := keeps_pure rfl
/-! len, isinstance, abs, max -/
theorem snd_len {l : List V} {vs : List Value} (r : VRs g W l vs) : Snd g c d (VR g) (call (.builtin "len") vs) W s (cLen l s) := by
  intro A S Q Er O H hP
  unfold cLen at hP
  split at hP
  · rename_i n
    obtain ⟨va, vs', ra, r', rfl⟩ : ∃ va vs', VR g W (.ref n) va ∧ F2 (VR g W) [] vs' ∧ vs = va :: vs' := by
      cases r with | cons a b => exact ⟨_, _, a, b, rfl⟩
    cases r'
    split at hP
    · rename_i l q
      obtain ⟨x, vs, rfl, tx, rx, mx⟩ := H.ofTup ra (tupAt_ref q)
      have len := szL_le (H.okO q)
      have ex := rx.length
      refine len_tuple tx (by rw [List.size_toArray]; omega) (hP.of_ok (H.toks _) ⟨S.toks + 1, ?_⟩)
      rw [List.size_toArray, ← ex]; rfl
    · rename_i l q
      obtain ⟨p, hp, rfl, vs, n, ho, rx⟩ := H.ofRef ra q
      have len := szL_le (H.okO q)
      have ex := F2.length rx
      refine call_len_list (items := vs.toArray) ⟨_, ho, rfl, n, rfl⟩ (by rw [List.size_toArray]; omega) (hP.of_ok (H.toks _) ⟨S.toks + 1, ?_⟩)
      rw [List.size_toArray, ← ex]; rfl
    · exact hP.elim
  · exact hP.elim
theorem VRs.one {v : V} {vs : List Value} (r : VRs g W [v] vs) : ∃ va, vs = [va] ∧ VR g W v va := by
  cases r with
  | cons a b => cases b; exact ⟨_, rfl, a⟩
theorem VRs.two {v w : V} {vs : List Value} (r : VRs g W [v, w] vs) : ∃ va vb, vs = [va, vb] ∧ VR g W v va ∧ VR g W w vb := by
  cases r with
  | cons a b =>
    cases b with
    | cons b e => cases e; exact ⟨_, _, rfl, a, b⟩
theorem snd_isi {l : List V} {vs : List Value} (r : VRs g W l vs) : Snd g c d (VR g) (call (.builtin "isinstance") vs) W s (cIsi l s) := by
  intro A S Q Er O H hP
  unfold cIsi at hP
  split at hP
  · obtain ⟨va, vb, rfl, ra, rb⟩ := r.two
    cases rb
    show wpAny _ A (call (.builtin "isinstance") [va, .type "tuple"]) Q Er S
    unfold isTup at hP
    split at hP
    · split at hP
      · rename_i l q
        obtain ⟨x, vs, rfl, tx, rx, mx⟩ := H.ofTup ra (tupAt_ref q)
        exact call_isinstance_yes tx.typeIs F.isi_meta_tuple F.sub_tuple_tuple (hP.of_ok H rfl)
      · exact hP.elim
    · cases ra; exact IsiPair.NoneType_tuple (hP.of_ok (H.toks _) rfl)
    · cases ra; exact IsiPair.bool_tuple (hP.of_ok (H.toks _) rfl)
    · obtain ⟨t, rfl⟩ := ra; exact IsiPair.int_tuple (hP.of_ok (H.toks _) rfl)
    · obtain ⟨t, rfl⟩ := ra; exact IsiPair.str_tuple (hP.of_ok (H.toks _) rfl)
    · exact hP.elim
  · obtain ⟨va, vb, rfl, ra, rb⟩ := r.two
    cases rb
    show wpAny _ A (call (.builtin "isinstance") [va, .type "str"]) Q Er S
    unfold isStrV at hP
    split at hP
    · obtain ⟨t, rfl⟩ := ra; exact IsiPair.str_str (hP.of_ok H rfl)
    · exact hP.elim
  · exact hP.elim
theorem snd_abs {l : List V} {vs : List Value} (r : VRs g W l vs) : Snd g c d (VR g) (call (.builtin "abs") vs) W s (cAbs l s) := by
  intro A S Q Er O H hP
  unfold cAbs at hP
  split at hP
  · rename_i i
    obtain ⟨va, rfl, t, rfl⟩ := r.one
    refine call_abs_int fun u tk => hP.of_ok (H.toks _) ⟨u, ?_⟩
    congr 1
    show _ = ((i.natAbs : Nat) : Int)
    split <;> omega
  · exact hP.elim
theorem grown_keep {c : FC} {W : Wd} {s : St} {S : Shared} (H : Here g c W s S) {h' : Heap} (k : ∀ b o, S.heap.get? b = some o → h'.get? b = some o) (tk : Nat) : Here g c W s { S with heap := h', toks := tk } := by
  obtain ⟨m, F, E⟩ := H.fr
  have same : ∀ b ∈ allA c W, h'.get? b = S.heap.get? b := fun b hb => by obtain ⟨_, o, e⟩ := H.own b hb; rw [e]; exact k b o e
  obtain ⟨oL, es, ep, a1, a2⟩ := F.ns
  exact H.keep (en := s.env) ⟨⟨oL, es, ep, k _ _ a1, a2⟩, fun b o e => k _ _ (F.keep b o e), F.above⟩ (E.mono (Le.refl W) fun b hb => same b (List.mem_append_left _ hb)) same tk
theorem snd_max (hb : c.F.bz = false) {l : List V} {vs : List Value} (r : VRs g W l vs) : Snd g c d (VR g) (call (.builtin "max") vs) W s (cMax l s) := by
  intro A S Q Er O H hP
  unfold cMax at hP
  split at hP
  · rename_i i j
    obtain ⟨va, vb, rfl, ⟨t, rfl⟩, ⟨u, rfl⟩⟩ := r.two
    refine max_two_ints (O.hand hb) fun h' tk k => hP.of_ok (grown_keep H k tk) ?_
    rw [intLt_eq]
    by_cases h : i < j
    · rw [if_pos h]; simp only [h, decide_true]; exact ⟨u, rfl⟩
    · rw [if_neg h]; simp only [h, decide_false]; exact ⟨t, rfl⟩
  · exact hP.elim
theorem snd_range (K : FOK g c) {l : List V} {vs : List Value} (r : VRs g W l vs) : Snd g c d (VR g) (call (.type "range") vs) W s (cRange l s) := by
  intro A S Q Er O H hP
  unfold cRange at hP
  split at hP
  · rename_i n
    obtain ⟨va, rfl, t, rfl⟩ := r.one
    obtain ⟨m, F, E⟩ := H.fr
    refine call_range_1 ?_
    have N' := News.push F H.news (rangeO n S.toks t (S.toks + 1))
    exact H.alloc1 K F E hP (Nat.le_refl _) (fun h' e => ⟨_, _, _, e⟩) _ (S.toks + 1 + 1) (F.push _) N'
  · exact hP.elim
/-! list methods, dict.get -/
theorem upd_get {h : Heap} {D : Addr} {o : Obj} (e : h.get? D = some o) (f : Obj → Obj) (nf : (f o).isFreed = false) : (h.update D f).get? D = some (f o) := Heap.get?_update_self f e nf
theorem snd_listUpd (H : Here g c W s S) {n : Nat} {l' : List V} (ok : okO (.list l') = true) {vs' : List Value} {k : Nat} {h' : Heap} {p : Addr × Option Addr} (hp : W[n]? = some p) (e' : h'.get? p.1 = some (listOf vs'.toArray k))
    (sb : ∀ b, b ≠ p.1 → h'.get? b = S.heap.get? b) (r' : VRs g W l' vs') (tk : Nat) : Here g c W (s.set n (.list l')) { S with heap := h', toks := tk } := by
  have own := H.own _ (mem_all (mem_adr hp))
  obtain ⟨m, F, E⟩ := H.fr
  have F' : Fr c.h₀ c.L h' m := by
    obtain ⟨oL, es, ep, a1, a2⟩ := F.ns
    refine ⟨⟨oL, es, ep, (sb _ (Ne.symm own.1.1)).trans a1, a2⟩, fun b o e => (sb b fun z => ?_).trans (F.keep b o e), F.above⟩
    rw [z, own.1.2.1] at e; cases e
  refine H.upd (s' := s.set n (.list l')) (o := .list l') F' E hp (fun b hb nb => sb b fun z => nb (by rw [z]; simp)) (fun b hb => ?_) ok ⟨vs', k, e', r'⟩ rfl rfl set_gets _
  by_cases z : b = p.1
  · rw [z]; exact ⟨_, e'⟩
  · rw [sb b z]
    rcases List.mem_cons.mp hb with rfl | hb
    · exact own.2
    · exact (H.own b (mem_all (List.mem_flatMap.mpr ⟨p, List.mem_of_getElem? hp, .tail _ hb⟩))).2
theorem snd_append {n : Nat} {l : List V} {va : Value} {as : List V} {vs : List Value} (ra : VR g W (.ref n) va) (q : s.get n = some (.list l)) (r : VRs g W as vs) : Snd g c d (VR g) (call (.builtin "list.append") (va :: vs)) W s (mPush n l as s) := by
  intro A S Q Er O H hP
  unfold mPush at hP
  split at hP
  · rename_i v
    obtain ⟨vv, rfl, rv⟩ := r.one
    rcases setR_cases V.none n (.list (l ++ [v])) s with ⟨w, e⟩ | ⟨ok, e⟩
    · rw [e] at hP; exact hP.elim
    · rw [e] at hP
      obtain ⟨p, hp, e2, vs, k, ho, rx⟩ := H.ofRef ra q
      subst e2
      have len := szL_le (H.okO q)
      have ex := F2.length rx
      refine append_at ho (fun h' hs ho' => ?_) (by rw [List.size_toArray, ← ex]; exact sizeLine_ok len)
      have e3 : vs.toArray.push vv = (vs ++ [vv]).toArray := by simp
      rw [e3] at ho'
      exact hP.of_ok (snd_listUpd H ok hp ho' hs.2 (F2.append rx (.cons rv .nil)) S.toks) rfl
  · exact hP.elim
theorem snd_pop {n : Nat} {l : List V} {va : Value} {as : List V} {vs : List Value} (ra : VR g W (.ref n) va) (q : s.get n = some (.list l)) (r : VRs g W as vs) : Snd g c d (VR g) (call (.builtin "list.pop") (va :: vs)) W s (mPop n l as s) := by
  intro A S Q Er O H hP
  unfold mPop at hP
  split at hP
  · cases r
    split at hP
    · rename_i v l' el
      obtain ⟨p, hp, e2, vs, k, ho, rx⟩ := H.ofRef ra q
      subst e2
      have len := szL_le (H.okO q)
      have ex := F2.length rx
      have rr := F2.reverse rx
      rw [el] at rr
      obtain ⟨vv, vr, ev, rv, rl⟩ : ∃ vv vr, vs.reverse = vv :: vr ∧ VR g W v vv ∧ F2 (VR g W) l' vr := by
        generalize vs.reverse = z at rr
        cases rr with
        | cons a b => exact ⟨_, _, rfl, a, b⟩
      have evs : vs = vr.reverse ++ [vv] := by rw [← List.reverse_reverse vs, ev]; simp
      have hlast : vs.toArray[vs.toArray.size - 1]? = some vv := by rw [evs]; simp
      have hsz : vs.toArray.size ≤ sizeLine := by rw [List.size_toArray, ← ex]; exact sizeLine_ok len
      refine call_meets PySem.F.slot_list_pop ⟨_, ho, rfl⟩ PySem.F.entry_list_pop (PySem.F.args_list_pop_1 _) (MeetsSeq.list_pop_last p.1 vs.toArray k vv hlast hsz) ⟨ho, ?_⟩
      have e3 : (vs.toArray.eraseIdxIfInBounds (vs.toArray.size - 1)) = vr.reverse.toArray := by
        rw [evs]
        simp [Array.eraseIdxIfInBounds]
        rw [List.eraseIdx_append_of_length_le (by simp)]
        simp
      have ho' := upd_get ho (Obj.mapSeq fun xs => xs.eraseIdxIfInBounds (vs.toArray.size - 1)) rfl
      obtain ⟨k', e4⟩ : ∃ k', Obj.mapSeq (fun xs => xs.eraseIdxIfInBounds (vs.toArray.size - 1)) (listOf vs.toArray k) = listOf vr.reverse.toArray k' := by
        rw [← e3]; exact ⟨_, rfl⟩
      rw [e4] at ho'
      have ok : okO (.list l'.reverse) = true := by
        have : l'.reverse.length ≤ 1000 := by
          have := congrArg List.length el
          simp at this
          simp; omega
        exact Nat.ble_eq_true_of_le this
      exact hP.of_ok (snd_listUpd H ok hp ho' (fun b hb => Heap.get?_update_ne _ _ _ _ hb) (F2.reverse rl) S.toks) rv
    · exact hP.elim
  · exact hP.elim
end Mine
namespace Mine
open PySem PySem.W PySem.Calls PyProof.Rows
variable {g : Gx} {G : Cfg} {c : FC} {d : Nat} {W : Wd} {s : St} {S : Shared}
theorem orD_look (GO : GOK g G) {l : En} {kvs : List (Str × Value)} (r : F2 (KR g W) l kvs) (k : Nat) {v : V} {vd : Value} (rd : VR g W v vd) : VR g W (orD (look l k) v) ((valueAt kvs (g.nm k)).getD vd) := by
  rcases look_kvs GO r k with ⟨a, b⟩ | ⟨_, _, a, b, rv⟩
  · rw [a, b]; exact rd
  · rw [a, b]; exact rv
theorem VRs.cons2 {v w : V} {l : List V} {vs : List Value} (r : VRs g W (v :: l) vs) : ∃ va vr, vs = va :: vr ∧ VR g W v va ∧ VRs g W l vr := by
  cases r with
  | cons a b => exact ⟨_, _, rfl, a, b⟩
theorem snd_dget (GO : GOK g G) {n : Nat} {l : En} {va : Value} {as : List V} {vs : List Value} (ra : VR g W (.ref n) va) (q : s.get n = some (.dict l)) (r : VRs g W as vs) : Snd g c d (VR g) (call (.builtin "dict.get") (va :: vs)) W s (mGet l as s) := by
  intro A S Q Er O H hP
  unfold mGet at hP
  split at hP
  · rename_i k
    obtain ⟨vk, rfl, t, rfl⟩ := r.one
    obtain ⟨p, hp, rfl, kvs, D, rk⟩ := H.ofRef ra q
    exact call_meetsIn PySem.F.slot_dict_get D.mapOf.typeIs PySem.F.entry_dict_get (PySem.F.args_dict_get_2 _ _) (meets_dict_get _ p.1 (strKind_is _ _ (g.nm k) t) (H.notMods GO (mem_adr hp)))
      ⟨_, D.mapOf, hP.of_ok (H.toks _) (orD_look GO rk k (v := .none) rfl)⟩
  · rename_i k dv
    obtain ⟨vk, vd, rfl, ⟨t, rfl⟩, rd⟩ := r.two
    obtain ⟨p, hp, rfl, kvs, D, rk⟩ := H.ofRef ra q
    exact call_meetsIn PySem.F.slot_dict_get D.mapOf.typeIs PySem.F.entry_dict_get (PySem.F.args_dict_get_3 _ _ _) (meets_dict_get_default _ p.1 (strKind_is _ _ (g.nm k) t) (H.notMods GO (mem_adr hp)) vd)
      ⟨_, D.mapOf, hP.of_ok (H.toks _) (orD_look GO rk k rd)⟩
  · exact hP.elim
theorem snd_extT {n : Nat} {l l' : List V} {va vb : Value} {m : Nat} (ra : VR g W (.ref n) va) (q : s.get n = some (.list l)) (rb : VR g W (.ref m) vb) (q' : s.get m = some (.tup l')) :
    Snd g c d (VR g) (call (.builtin "list.extend") [va, vb]) W s (setR .none n (.list (l ++ l')) s) := by
  intro A S Q Er O H hP
  rcases setR_cases V.none n (.list (l ++ l')) s with ⟨w, e⟩ | ⟨ok, e⟩
  · rw [e] at hP; exact hP.elim
  · rw [e] at hP
    obtain ⟨p, hp, e2, vs, k, ho, rx⟩ := H.ofRef ra q
    subst e2
    obtain ⟨p', hp', e3, vs', k', ho', rx'⟩ := H.ofRef rb q'
    subst e3
    have len := szL_le (H.okO q)
    have len' := szL_le (H.okO q')
    have ex := F2.length rx
    have ex' := F2.length rx'
    have z1 : vs.toArray.size ≤ sizeLine := by rw [List.size_toArray, ← ex]; exact sizeLine_ok len
    have z2 : vs.toArray.size + vs'.toArray.size ≤ sizeLine + 1 := by
      rw [List.size_toArray, List.size_toArray, ← ex, ← ex']
      have := sizeLine_eq
      omega
    have z3 : ¬(!vs.toArray.isEmpty && Builtin.List.listTooLong (vs.toArray.size + vs'.toArray.size)) = true := by
      have : Builtin.List.listTooLong (vs.toArray.size + vs'.toArray.size) = false := by
        unfold Builtin.List.listTooLong
        rw [List.size_toArray, List.size_toArray, ← ex, ← ex', sizeLine_eq]
        rw [decide_eq_false_iff_not]
        omega
      rw [this]; simp
    refine call_meets PySem.F.slot_list_extend ⟨_, ho, rfl⟩ PySem.F.entry_list_extend (PySem.F.args_list_extend_2 _ _) (AutoSeq1.list_extend_list_tuple_0 p.1 vs.toArray k p'.1 vs'.toArray k' z3 z1 z2) ⟨ho, ho', ?_⟩
    have ho2 := upd_get ho (Obj.mapSeq fun x => x ++ vs'.toArray) rfl
    obtain ⟨k2, e4⟩ : ∃ k2, Obj.mapSeq (fun x => x ++ vs'.toArray) (listOf vs.toArray k) = listOf (vs ++ vs').toArray k2 := by
      have : (vs ++ vs').toArray = vs.toArray ++ vs'.toArray := by simp
      rw [this]; exact ⟨_, rfl⟩
    rw [e4] at ho2
    exact hP.of_ok (snd_listUpd H ok hp ho2 (fun b hb => Heap.get?_update_ne _ _ _ _ hb) (F2.append rx rx') S.toks) rfl
structure Holes (g : Gx) (G : Cfg) : Prop where
  rev : ∀ {c : FC} {d : Nat} {W : Wd} {s : St} {l : List V} {vs : List Value}, FOK g c → c.F.bz = false → VRs g W l vs → Snd g c d (VR g) (call (.type "reversed") vs) W s (cRev l s)
  lst : ∀ {c : FC} {d : Nat} {W : Wd} {s : St} {l : List V} {vs : List Value}, FOK g c → c.F.bz = false → VRs g W l vs → Snd g c d (VR g) (call (.type "list") vs) W s (cList l s)
  ext : ∀ {c : FC} {d : Nat} {W : Wd} {s : St} {n m i k : Nat} {l : List V} {va vb : Value}, FOK g c → c.F.bz = false → VR g W (.ref n) va → s.get n = some (.list l) → VR g W (.ref m) vb → s.get m = some (.rev i k) →
    Snd g c d (VR g) (call (.builtin "list.extend") [va, vb]) W s (mExtR n m i k l s)
structure GoodF (g : Gx) (G : Cfg) (r : Rc) (d : Nat) : Prop where
  keep : ∀ a l s, (∀ w, callFn G r a l s ≠ .bad w) → keepIn g.K (.ref a) = true
  cl : ∀ c W s a l vs A S R, FOK g c → c.F.bz = false → VRs g W l vs → AOK c d A → Here g c W s S → Post g c (VR g) W (callFn G r a l s) (fun v S' => R (.ok (.ret v)) S') (fun e S' => R (.error e) S') → codeAny (model g.prog g.w) A (.call (.ref a) ⟨vs, []⟩) R S
structure MkOK (g : Gx) (cl : Cl) : Prop where
  keep : keepIn g.K (.ref cl.addr) = true
  makes : makesIn g.K cl.addr = true
  init : findIn g.K (.ref cl.addr) "__init__" = some (some (.ref cl.init))
  fn : typeIn g.K (.ref cl.init) = some (.type "function")
  noX : g.isX cl.addr = false
theorem wpAny_of_code {A : Around} {f : Value} {vs : List Value} {Q : Value → Shared → Prop} {Er : Value → Shared → Prop} (h : codeAny (model g.prog g.w) A (.call f ⟨vs, []⟩) (fun r s' => match r with | .ok (.ret v) => Q v s' | .ok _ => False | .error e => Er e s') S) :
    wpAny (model g.prog g.w) A (call f vs) Q Er S := wpAny_call h
theorem under_ok {c : FC} {d : Nat} {A : Around} {C : Addr} {vals : List Value} (O : AOK c (d + 1) A) : AOK c d (A.under (.builtin "type.__call__" ⟨.ref C :: vals, []⟩)) := by
  refine ⟨?_, ?_, ?_, O.hand⟩
  · show pushEnvs (Code.builtin "type.__call__" ⟨.ref C :: vals, []⟩).envs A.frames = _
    have : (Code.builtin "type.__call__" ⟨.ref C :: vals, []⟩).envs = [] := rfl
    rw [this]
    exact O.frames
  · rw [depth_under_kw]; have := O.depth; omega
  · show A.units + (1 + 3 * 0) + 8 * d + 300 < cLine
    have := O.units; omega
theorem post_ret {W : Wd} {res : Res V} {Q : Value → Shared → Prop} {Er : Value → Shared → Prop} (h : Post g c (VR g) W res Q Er) :
    Post g c (VR g) W res (fun v S' => (fun (r : Result) s' => match r with | .ok (.ret v) => Q v s' | .ok _ => False | .error e => Er e s') (.ok (.ret v)) S') (fun e S' => (fun (r : Result) s' => match r with | .ok (.ret v) => Q v s' | .ok _ => False | .error e => Er e s') (.error e) S') := by
  cases res <;> exact h
theorem snd_cls (K : FOK g c) {r : Rc} (GF : GoodF g G r d) (hb : c.F.bz = false) {cl : Cl} (M : MkOK g cl) {l : List V} {vs : List Value} (rv : VRs g W l vs) : Snd g c (d + 1) (VR g) (call (.ref cl.addr) vs) W s (cCls G r cl.addr cl.init l s) := by
  intro A S Q Er O H hP
  refine wpAny_of_code ?_
  obtain ⟨m, F, E⟩ := H.fr
  unfold cCls at hP
  have X := H.kin K
  have ns := (H.news.push F emptyDict).push (F.push _) (instObj cl.addr S.heap.objs.size)
  rw [Heap.size_push] at ns
  have F' := (F.push emptyDict).push (instObj cl.addr S.heap.objs.size)
  obtain ⟨hh, gg, dd, tt, os⟩ := S
  refine make_core (makes_of X M.makes) (looks_findIn X M.init) (fun self => bind_fn X self M.fn) (.inl rfl) ?_
  rcases push_cases (.inst cl.addr []) s with ⟨w, e⟩ | ⟨ok, s', e, en, n', gt⟩
  · rw [e] at hP; exact hP.elim
  · rw [e, bind_ok] at hP
    have k := led_same H fun p hp => ns p (.tail _ (.tail _ hp))
    obtain ⟨x1, x2, x3⟩ := ns (hh.objs.size + 1, instObj cl.addr hh.objs.size) (.head _)
    obtain ⟨y1, y2, y3⟩ := ns (hh.objs.size, emptyDict) (.tail _ (.head _))
    have lt : ∀ b ∈ allA c W, b < hh.objs.size := fun b hb => let ⟨_, o, e⟩ := H.own b hb; lt_of_get e
    have bg := K.bigS F
    have bg : g.base.objs.size ≤ hh.objs.size := bg
    have H' := H.push (p := (hh.objs.size + 1, some hh.objs.size)) (o := .inst cl.addr []) F' E k (by simp) (fun b hb => by
      have hb' : b = hh.objs.size + 1 ∨ b = hh.objs.size := by simpa using hb
      rcases hb' with rfl | rfl
      · exact ⟨fun q => by have : hh.objs.size + 1 < hh.objs.size := lt _ q; omega, ⟨x2, x3, by omega⟩, _, x1⟩
      · exact ⟨fun q => by have : hh.objs.size < hh.objs.size := lt _ q; omega, ⟨y2, y3, bg⟩, _, y1⟩) ok (.inl ⟨M.noX, _, [], 0, rfl, x1, y1, .nil, fun x v q => by rw [look_nil] at q; cases q⟩) en n' gt tt
    have l1 : Le W (W ++ [(hh.objs.size + 1, some hh.objs.size)]) := Le.push _ _
    have rx : VR g (W ++ [(hh.objs.size + 1, some hh.objs.size)]) (.ref s.n) (.ref (hh.objs.size + 1)) := ⟨(hh.objs.size + 1, some hh.objs.size), by rw [H.len]; simp, rfl⟩
    refine GF.cl c _ s' cl.init (.ref s.n :: l) (.ref (hh.objs.size + 1) :: vs) _ _ _ K hb (.cons rx (rv.le l1)) (under_ok O) H' ?_
    refine Post.bind (k := ?_) (Post.le hP l1)
    intro v s2 W2 a S2 _ l2 H2 r2 hP2
    unfold clsR at hP2
    split at hP2
    · cases r2
      exact ⟨rfl, hP2.of_ok H2 (rx.le l2)⟩
    · exact hP2.elim
structure DoOK (g : Gx) (G : Cfg) : Prop where
  cls : ∀ a cl, findCl G.cls a = some cl → Nat.beq a G.exc = false → MkOK g cl
theorem snd_doCall (GO : GOK g G) (DO : DoOK g G) (HO : Holes g G) (K : FOK g c) {r : Rc} (GF : GoodF g G r d) (hb : c.F.bz = false) {f : V} {vf : Value} {l : List V} {vs : List Value} (rf : VR g W f vf) (rv : VRs g W l vs) : Snd g c (d + 1) (VR g) (call vf vs) W s (doCall G r f l s) := by
  intro A S Q Er O H hP
  unfold doCall at hP
  split at hP
  · cases rf
    exact wpAny_of_code (GF.cl c W s _ l vs A S _ K hb rv (O.le (Nat.le_succ d)) H (post_ret hP))
  · rename_i k
    cases rf
    unfold cBi at hP
    split at hP
    · exact snd_len rv A S Q Er O H hP
    · exact snd_isi rv A S Q Er O H hP
    · exact snd_abs rv A S Q Er O H hP
    · exact snd_max hb rv A S Q Er O H hP
    · exact hP.elim
  · rename_i k
    cases rf
    unfold cTy at hP
    split at hP
    · exact HO.rev K hb rv A S Q Er O H hP
    · exact HO.lst K hb rv A S Q Er O H hP
    · exact snd_range K rv A S Q Er O H hP
    · exact hP.elim
  · rename_i a
    cases rf
    cases hx : Nat.beq a G.exc with
    | true => rw [hx] at hP; exact hP.elim
    | false =>
      rw [hx] at hP
      simp only [] at hP
      unfold cClsO at hP
      split at hP
      · rename_i cl e
        obtain ⟨rfl, _⟩ := GO.cls _ _ e
        exact snd_cls K GF hb (DO.cls _ _ e hx) rv A S Q Er O H hP
      · exact hP.elim
  · exact hP.elim
theorem keeps_do (GO : GOK g G) (DO : DoOK g G) {r : Rc} (GF : GoodF g G r d) {f : V} {vf : Value} {l : List V} (rf : VR g W f vf) (h : ∀ w, doCall G r f l s ≠ .bad w) : Keeps (model g.prog g.w) g.K vf := by
  unfold doCall at h
  split at h
  · cases rf
    exact keeps_K (GF.keep _ _ _ h)
  · cases rf; exact keeps_bi _ _ _
  · cases rf; exact keeps_ty _ _ _
  · rename_i a
    cases rf
    cases hx : Nat.beq a G.exc with
    | true => rw [hx] at h; exact (h _ rfl).elim
    | false =>
      rw [hx] at h
      simp only [] at h
      unfold cClsO at h
      split at h
      · rename_i cl e
        obtain ⟨rfl, _⟩ := GO.cls _ _ e
        exact keeps_K (DO.cls _ _ e hx).keep
      · exact (h _ rfl).elim
  · exact (h _ rfl).elim
end Mine
namespace Mine
open PySem PySem.W PySem.Calls PyProof.Rows
variable {g : Gx} {G : Cfg} {c : FC} {d : Nat} {W : Wd} {s : St} {S : Shared}
structure NmOK (g : Gx) : Prop where
  pop : g.nm 1 = "pop"
  app : g.nm 2 = "append"
  ext : g.nm 3 = "extend"
  get : g.nm 4 = "get"
theorem lookA_mem {l : List (Nat × Addr)} {x : Nat} {f : Addr} (h : lookA l x = some f) : (x, f) ∈ l := by
  induction l with
  | nil => exact absurd h (by intro q; cases (show (none : Option Addr) = some f from q))
  | cons p l ih =>
    have e : lookA (p :: l) x = @Bool.rec (fun _ => Option Addr) (lookA l x) (some p.2) (Nat.beq p.1 x) := rfl
    rw [e, natbeq] at h
    by_cases q : p.1 = x
    · rw [decide_eq_true q] at h
      cases h
      rw [← q]; exact .head _
    · rw [decide_eq_false q] at h
      exact .tail _ (ih h)
theorem gm_ok (GO : GOK g G) (NO : NmOK g) (K : FOK g c) {o : V} {vo : Value} {x : Nat} {k : MK} {A : Around} {Q : Value × List Value → Shared → Prop} {Er : Value → Shared → Prop} {pl : Sem Bool}
    (r : VR g W o vo) (e : mRes G o x s = some k) (H : Here g c W s S) (h : ∀ fx, MRel k vo fx → Q fx S) : wpAny (model g.prog g.w) A (getMethod vo (g.nm x) pl) Q Er S := by
  unfold mRes at e
  split at e
  · split at e
    · rename_i C l q
      unfold mInst at e
      split at e
      · cases e
      · rename_i el
        split at e
        · rename_i cl ec
          split at e
          · rename_i f ef
            cases e
            obtain ⟨p, hp, rfl, hh⟩ := H.ofRef r q
            obtain ⟨rfl, CO⟩ := GO.cls _ _ ec
            rcases hh with ⟨hx, dx, es, n, h1, h2, h3, h4, h5⟩ | ⟨hx, vs, sl, h2, h3⟩
            · obtain ⟨m1, m2, m3, m4⟩ := CO.meths hx (x, f) (lookA_mem ef)
              refine method_fn (C := cl.addr) (od := some (dictOf es n)) (H.kin K) ⟨h2, rfl, rfl, h3⟩ m3 m4 m1 m2 ?_ (h _ ⟨rfl, rfl⟩)
              show (lookIn (g.nm x) (dictOf es n)).map (·.isSome) = some false
              rw [lookIn_dict]
              rcases getL_er GO h4 x with ⟨_, b⟩ | ⟨_, _, a, _, _⟩
              · rw [b]; rfl
              · rw [el] at a; cases a
            · rw [CO.noM hx] at ef
              exact absurd ef (by intro q; cases (show (none : Option Addr) = some f from q))
          · cases e
        · cases e
    · rename_i l q
      obtain ⟨p, hp, rfl, vs, n, ho, rx⟩ := H.ofRef r q
      have nd : ∀ a, Value.ref p.1 = .ref a → ∃ o, S.heap.get? a = some o ∧ o.dict = none := fun a e => by cases e; exact ⟨_, ho, rfl⟩
      unfold isLM at e
      split at e
      · cases e; rw [NO.pop]; exact getMethod_builtin (T := "list") ⟨_, ho, rfl⟩ PySem.F.plainAttrs_list PySem.F.slot_list_pop PySem.F.type_list_pop nd (h _ ⟨rfl, rfl⟩)
      · cases e; rw [NO.app]; exact getMethod_builtin (T := "list") ⟨_, ho, rfl⟩ PySem.F.plainAttrs_list PySem.F.slot_list_append PySem.F.type_list_append nd (h _ ⟨rfl, rfl⟩)
      · cases e; rw [NO.ext]; exact getMethod_builtin (T := "list") ⟨_, ho, rfl⟩ PySem.F.plainAttrs_list PySem.F.slot_list_extend PySem.F.type_list_extend nd (h _ ⟨rfl, rfl⟩)
      · cases e
    · rename_i l q
      obtain ⟨p, hp, rfl, kvs, D, rk⟩ := H.ofRef r q
      unfold isDM at e
      split at e
      · cases e
        rw [NO.get]
        exact getMethod_builtin D.mapOf.typeIs PySem.F.plainAttrs_dict PySem.F.slot_dict_get PySem.F.type_dict_get D.mapOf.noDict (h _ ⟨rfl, rfl⟩)
      · cases e
    · cases e
  · cases e
theorem ma_ok (GO : GOK g G) (HO : Holes g G) (K : FOK g c) {r : Rc} (GF : GoodF g G r d) (hb : c.F.bz = false) {k : MK} {o : V} {vo : Value} {fx : Value × List Value} {l : List V} {vs : List Value} (m : MRel k vo fx) (ro : VR g W o vo) (rv : VRs g W l vs) :
    Snd g c (d + 1) (VR g) (call fx.1 (fx.2 ++ vs)) W s (mApp G r k o l s) := by
  obtain ⟨f, first⟩ := fx
  obtain ⟨m1, m2⟩ := m
  simp only at m1 m2
  subst m1
  intro A S Q Er O H hP
  unfold mApp at hP
  split at hP
  · simp only at m2
    subst m2
    exact wpAny_of_code (GF.cl c W s _ (o :: l) (vo :: vs) A S _ K hb (.cons ro rv) (O.le (Nat.le_succ d)) H (post_ret hP))
  · rename_i x
    simp only at m2
    subst m2
    unfold mL at hP
    split at hP
    · split at hP
      · rename_i n l0 q
        unfold mList at hP
        split at hP
        · exact snd_pop ro q rv A S Q Er O H hP
        · exact snd_append ro q rv A S Q Er O H hP
        · unfold mExt at hP
          split at hP
          · obtain ⟨va, rfl, ra⟩ := rv.one
            split at hP
            · rename_i q'
              exact snd_extT ro q ra q' A S Q Er O H hP
            · rename_i q'
              exact HO.ext K hb ro q ra q' A S Q Er O H hP
            · exact hP.elim
          · exact hP.elim
        · exact hP.elim
      · exact hP.elim
    · exact hP.elim
  · rename_i x
    simp only at m2
    subst m2
    unfold mD at hP
    split at hP
    · split at hP
      · rename_i n l0 q
        unfold mDict at hP
        split at hP
        · exact snd_dget GO ro q rv A S Q Er O H hP
        · exact hP.elim
      · exact hP.elim
    · exact hP.elim
theorem km_ok {r : Rc} (GF : GoodF g G r d) {k : MK} {o : V} {vo : Value} {fx : Value × List Value} {l : List V} (m : MRel k vo fx) (h : ∀ w, mApp G r k o l s ≠ .bad w) : Keeps (model g.prog g.w) g.K fx.1 := by
  obtain ⟨f, first⟩ := fx
  obtain ⟨m1, m2⟩ := m
  simp only at m1 m2 ⊢
  unfold mApp at h
  split at h
  · simp only at m2; subst m2; exact keeps_K (GF.keep _ _ _ h)
  · simp only at m2; subst m2; exact keeps_bi _ _ _
  · simp only at m2; subst m2; exact keeps_bi _ _ _
theorem calls_ok (GO : GOK g G) (DO : DoOK g G) (NO : NmOK g) (HO : Holes g G) {r : Rc} (GF : GoodF g G r d) : CallsOK g G r (d + 1) where
  kp _ _ _ _ _ rf h := keeps_do GO DO GF rf h
  dc _ _ _ _ _ _ _ K hb rf rv := snd_doCall GO DO HO K GF hb rf rv
  gm _ _ _ _ _ _ _ _ _ _ _ _ K r e H h := gm_ok GO NO K r e H h
  km _ _ _ _ _ _ m h := km_ok GF m h
  ma _ _ _ _ _ _ _ _ _ K hb m ro rv := ma_ok GO HO K GF hb m ro rv
end Mine
namespace Mine
open PySem PySem.W PySem.Calls PyProof.Rows
theorem lookup_zip_none {ns : List Str} {vs : List Value} {n : Str} (h : n ∉ ns) : (ns.zip vs).lookup n = none := by
  induction ns generalizing vs with
  | nil => rfl
  | cons m ns ih =>
    cases vs with
    | nil => rfl
    | cons v vs =>
      simp only [List.mem_cons, not_or] at h
      rw [List.zip_cons_cons, List.lookup_cons]
      have : (n == m) = false := by simpa using h.1
      rw [this]
      exact ih h.2
theorem filterMap_same {α β : Type} {f f' : α → Option β} {l : List α} (h : ∀ x ∈ l, f x = f' x) : l.filterMap f = l.filterMap f' := by
  induction l with
  | nil => rfl
  | cons x l ih =>
    rw [List.filterMap_cons, List.filterMap_cons, h x (.head _), ih fun y hy => h y (.tail _ hy)]
theorem filterMap_zip {ns : List Str} (nd : ns.Nodup) : ∀ {vs : List Value}, vs.length = ns.length → (ns.filterMap fun n => ((ns.zip vs).lookup n).map (n, ·)) = ns.zip vs := by
  induction ns with
  | nil => intro vs _; rfl
  | cons m ns ih =>
    intro vs h
    cases vs with
    | nil => simp at h
    | cons v vs =>
      rw [List.nodup_cons] at nd
      rw [List.zip_cons_cons, List.filterMap_cons]
      have e : (((m, v) :: ns.zip vs).lookup m) = some v := by rw [List.lookup_cons]; simp
      rw [e]
      simp only [Option.map_some]
      congr 1
      rw [← ih nd.2 (by simpa using h)]
      refine filterMap_same fun n hn => ?_
      have : (n == m) = false := by
        have : n ≠ m := fun q => nd.1 (q ▸ hn)
        simpa using this
      rw [List.lookup_cons, this, ih nd.2 (by simpa using h)]
theorem lookup_zip_some {ns : List Str} : ∀ {vs : List Value}, vs.length = ns.length → ∀ n ∈ ns, ((ns.zip vs).lookup n).isNone = false := by
  induction ns with
  | nil => intro vs _ n hn; cases hn
  | cons m ns ih =>
    intro vs h n hn
    cases vs with
    | nil => simp at h
    | cons v vs =>
      rw [List.zip_cons_cons, List.lookup_cons]
      by_cases q : n = m
      · subst q; simp
      · have : (n == m) = false := by simpa using q
        rw [this]
        rcases List.mem_cons.mp hn with e | hn
        · exact (q e).elim
        · exact ih (by simpa using h) n hn
theorem bind_plain {fd : FuncData} {vals : List Value} (h1 : fd.params.posonlyargs = []) (h2 : fd.params.kwonlyargs = []) (h3 : fd.params.vararg = none) (h4 : fd.params.kwarg = none) (h5 : fd.defaults = .none)
    (nd : (fd.params.args.map (·.arg)).Nodup) (hl : vals.length = (fd.params.args.map (·.arg)).length) : bindArgs fd ⟨vals, []⟩ = pure ((fd.params.args.map (·.arg)).zip vals) := by
  unfold bindArgs
  simp only [h1, h2, h3, h4, h5, List.map_nil, List.nil_append, List.append_nil, List.forIn_nil, pure_bind]
  generalize fd.params.args.map (·.arg) = ns at nd hl ⊢
  have e0 : seqItems? (.none) = pure none := rfl
  rw [e0]
  simp only [pure_bind]
  have e1 : ¬ (decide (vals.length > ns.length) && (none : Option Arg).isNone) = true := by simp [hl]
  have e2 : (List.filter (fun n => ((ns.zip vals).lookup n).isNone) (ns.take (ns.length - 0))) = [] := by
    rw [List.filter_eq_nil_iff]
    intro n hn
    rw [lookup_zip_some hl n (List.mem_of_mem_take hn)]
    simp
  rw [if_neg e1]
  have e3 : ((none : Option (Array Value)).getD #[]).toList = [] := rfl
  simp only [e3, List.drop_nil, List.length_nil, Nat.sub_zero]
  have e4 : ¬ (!(List.filter (fun n => ((ns.zip vals).lookup n).isNone) (ns.take ns.length)).isEmpty) = true := by
    have : ns.take (ns.length - 0) = ns.take ns.length := rfl
    rw [← this, e2]; simp
  rw [if_neg e4]
  simp only [List.zip_nil_right, List.forIn_nil, pure_bind, List.isEmpty_nil, Bool.not_true, Bool.false_eq_true, if_false]
  rw [filterMap_zip nd hl]
end Mine
namespace Mine
open PySem PySem.W PySem.Calls PyProof.Rows
variable {g : Gx} {G : Cfg} {c : FC} {d : Nat} {W : Wd} {s : St} {S : Shared}
noncomputable def noComp : Expr → Bool
  | .ListComp .. => false
  | .SetComp .. => false
  | .DictComp .. => false
  | _ => true
noncomputable def noTup : Expr → Bool
  | .Tuple .. => false
  | .List .. => false
  | _ => true
noncomputable def noSwap (e t : Expr) : Bool := noTup e || noTup t || (match t, e with
  | .Tuple ts _ _, .Tuple .. => !(ts.length == 2 || ts.length == 3)
  | _, _ => false)
noncomputable def noSet : Expr → Bool
  | .Set .. => false
  | _ => true
inductive AgN (nm : Nat → Str) : X → List Expr → Prop
  | nil : AgN nm .nil []
  | cons {k b p es} : AgN nm b es → AgN nm (.cons (.nm k) b) (.Name (nm k) p :: es)
noncomputable def agND (nm : Nat → Str) : (x : X) → (es : List Expr) → {b : Bool // b = true → AgN nm x es}
  | .nil, [] => ⟨true, fun _ => .nil⟩
  | .cons (.nm k) b, .Name s _ :: es => ⟨nm k == s && (agND nm b es).1, fun h => by obtain ⟨h, h1⟩ := and2 h; cases beq_iff_eq.mp h; exact .cons ((agND nm b es).2 h1)⟩
  | _, _ => ⟨false, fun h => nomatch h⟩
noncomputable def agN (nm : Nat → Str) (x : X) (e : List Expr) : Bool := @decide (AgN nm x e) (Classical.propDecidable _)
theorem agN_of {nm : Nat → Str} {x : X} {e : List Expr} (h : agN nm x e = true) : AgN nm x e := @of_decide_eq_true _ (Classical.propDecidable _) h
theorem AgN.to {nm : Nat → Str} {x : X} {e : List Expr} (h : AgN nm x e) : agN nm x e = true := @decide_eq_true _ (Classical.propDecidable _) h
inductive AgT (nm : Nat → Str) : X → Expr → Prop
  | name (k : Nat) (p : Pos) : AgT nm (.nm k) (.Name (nm k) p)
  | attr {o x o' p} : ag nm o o' = true → AgT nm (.attr o x) (.Attribute o' (nm x) p)
  | item {o i o' i' p} : isSliceE i' = false → ag nm o o' = true → ag nm i i' = true → AgT nm (.item o i) (.Subscript o' i' p)
  | tup {l es k p} : agN nm l es = true → AgT nm (.tup l) (.Tuple es k p)
noncomputable def agTD (nm : Nat → Str) : (x : X) → (e : Expr) → {b : Bool // b = true → AgT nm x e}
  | .nm k, .Name s p => ⟨nm k == s, fun h => by cases beq_iff_eq.mp h; exact .name k p⟩
  | .attr o x, .Attribute o' s _ => ⟨nm x == s && (agD nm o o').1, fun h => by obtain ⟨h, h1⟩ := and2 h; cases beq_iff_eq.mp h; exact .attr (agD_ok h1)⟩
  | .item o i, .Subscript o' i' _ => ⟨!isSliceE i' && ((agD nm o o').1 && (agD nm i i').1), fun h => .item (not2 (and2 h).1) (agD_ok (and2 (and2 h).2).1) (agD_ok (and2 (and2 h).2).2)⟩
  | .tup l, .Tuple es _ _ => ⟨(agND nm l es).1, fun h => .tup ((agND nm l es).2 h).to⟩
  | _, _ => ⟨false, fun h => nomatch h⟩
noncomputable def agT (nm : Nat → Str) (x : X) (e : Expr) : Bool := @decide (AgT nm x e) (Classical.propDecidable _)
theorem agT_inv {nm : Nat → Str} {x : X} {e : Expr} (h : agT nm x e = true) : AgT nm x e := @of_decide_eq_true _ (Classical.propDecidable _) h
theorem AgT.to {nm : Nat → Str} {x : X} {e : Expr} (h : AgT nm x e) : agT nm x e = true := @decide_eq_true _ (Classical.propDecidable _) h
mutual
inductive AgS (nm : Nat → Str) : X → Stmt → Prop
  | sx {e e' p} : noComp e' = true → ag nm e e' = true → AgS nm (.sx e) (.Expr e' p)
  | ret {e e' p} : ag nm e e' = true → AgS nm (.ret e) (.Return (some e') p)
  | ret0 {p} : AgS nm .ret0 (.Return none p)
  | asg {t e t' e' p} : noComp e' = true → noSwap e' t' = true → agT nm t t' = true → ag nm e e' = true → AgS nm (.asg t e) (.Assign [t'] e' p)
  | aug {o x op e o' sp e' p} : ag nm o o' = true → ag nm e e' = true → AgS nm (.aug o x op e) (.AugAssign (.Attribute o' (nm x) sp) op e' p)
  | sif {t a b t' a' b' p} : ag nm t t' = true → AgSs nm a a' → AgSs nm b b' → AgS nm (.sif t a b) (.If t' a' b' p)
  | whl {t b t' b' p} : ag nm t t' = true → AgSs nm b b' → AgS nm (.whl t b) (.While t' b' [] p)
  | for_ {x e b sp e' b' p} : noSet e' = true → ag nm e e' = true → AgSs nm b b' → AgS nm (.for_ x e b) (.For (.Name (nm x) sp) e' b' [] p)
  | pass {p} : AgS nm .pass (.Pass p)
  | rais {c l sp es cp p} : ags nm l es = true → AgS nm (.rais c l) (.Raise (some (.Call (.Name (nm c) sp) es [] cp)) none p)
  | fin {b f b' f0 fs p} : AgSs nm b b' → AgSs nm f (f0 :: fs) → AgS nm (.fin b f) (.Try b' [] [] (f0 :: fs) p)
  | ctc {c x b h b' sp hb hbs hp p} : AgSs nm b b' → AgSs nm h (hb :: hbs) → AgS nm (.ctc c x b h) (.Try b' [.ExceptHandler (some (.Name (nm c) sp)) (some (nm x)) (hb :: hbs) hp] [] [] p)
  | nil {st} : AgS nm .nil st
inductive AgSs (nm : Nat → Str) : X → List Stmt → Prop
  | nil : AgSs nm .nil []
  | cons {a b e es} : AgS nm a e → AgSs nm b es → AgSs nm (.cons a b) (e :: es)
end
mutual
noncomputable def agSD (nm : Nat → Str) : (x : X) → (st : Stmt) → {b : Bool // b = true → AgS nm x st}
  | .sx e, .Expr e' _ => ⟨noComp e' && (agD nm e e').1, fun h => .sx (and2 h).1 (agD_ok (and2 h).2)⟩
  | .ret e, .Return (some e') _ => ⟨(agD nm e e').1, fun h => .ret (agD_ok h)⟩
  | .ret0, .Return none _ => ⟨true, fun _ => .ret0⟩
  | .asg t e, .Assign [t'] e' _ => ⟨noComp e' && (noSwap e' t' && ((agTD nm t t').1 && (agD nm e e').1)), fun h => .asg (and2 h).1 (and2 (and2 h).2).1 ((agTD nm t t').2 (and2 (and2 (and2 h).2).2).1).to (agD_ok (and2 (and2 (and2 h).2).2).2)⟩
  | .aug o x op e, .AugAssign (.Attribute o' s _) op' e' _ => ⟨nm x == s && (op == op' && ((agD nm o o').1 && (agD nm e e').1)), fun h => by
      obtain ⟨h, h1⟩ := and2 h; obtain ⟨h1, h2⟩ := and2 h1; cases beq_iff_eq.mp h; cases beq_iff_eq.mp h1; exact .aug (agD_ok (and2 h2).1) (agD_ok (and2 h2).2)⟩
  | .sif t a b, .If t' a' b' _ => ⟨(agD nm t t').1 && ((agSsD nm a a').1 && (agSsD nm b b').1), fun h => .sif (agD_ok (and2 h).1) ((agSsD nm a a').2 (and2 (and2 h).2).1) ((agSsD nm b b').2 (and2 (and2 h).2).2)⟩
  | .whl t b, .While t' b' [] _ => ⟨(agD nm t t').1 && (agSsD nm b b').1, fun h => .whl (agD_ok (and2 h).1) ((agSsD nm b b').2 (and2 h).2)⟩
  | .for_ x e b, .For (.Name s _) e' b' [] _ => ⟨nm x == s && (noSet e' && ((agD nm e e').1 && (agSsD nm b b').1)), fun h => by
      obtain ⟨h, h1⟩ := and2 h; cases beq_iff_eq.mp h; exact .for_ (and2 h1).1 (agD_ok (and2 (and2 h1).2).1) ((agSsD nm b b').2 (and2 (and2 h1).2).2)⟩
  | .pass, .Pass _ => ⟨true, fun _ => .pass⟩
  | .rais c l, .Raise (some (.Call (.Name s _) es [] _)) none _ => ⟨nm c == s && (agsD nm l es).1, fun h => by obtain ⟨h, h1⟩ := and2 h; cases beq_iff_eq.mp h; exact .rais (agsD_ok h1)⟩
  | .fin b f, .Try b' [] [] (f0 :: fs) _ => ⟨(agSsD nm b b').1 && (agSsD nm f (f0 :: fs)).1, fun h => .fin ((agSsD nm b b').2 (and2 h).1) ((agSsD nm f (f0 :: fs)).2 (and2 h).2)⟩
  | .ctc c x b h, .Try b' [.ExceptHandler (some (.Name s _)) (some n) (hb :: hbs) _] [] [] _ => ⟨nm c == s && (nm x == n && ((agSsD nm b b').1 && (agSsD nm h (hb :: hbs)).1)), fun q => by
      obtain ⟨q, q1⟩ := and2 q; obtain ⟨q1, q2⟩ := and2 q1; cases beq_iff_eq.mp q; cases beq_iff_eq.mp q1; exact .ctc ((agSsD nm b b').2 (and2 q2).1) ((agSsD nm h (hb :: hbs)).2 (and2 q2).2)⟩
  | .nil, _ => ⟨true, fun _ => .nil⟩
  | _, _ => ⟨false, fun h => nomatch h⟩
noncomputable def agSsD (nm : Nat → Str) : (x : X) → (ss : List Stmt) → {b : Bool // b = true → AgSs nm x ss}
  | .nil, [] => ⟨true, fun _ => .nil⟩
  | .cons a b, e :: es => ⟨(agSD nm a e).1 && (agSsD nm b es).1, fun h => .cons ((agSD nm a e).2 (and2 h).1) ((agSsD nm b es).2 (and2 h).2)⟩
  | _, _ => ⟨false, fun h => nomatch h⟩
end
noncomputable def agS (nm : Nat → Str) (x : X) (e : Stmt) : Bool := @decide (AgS nm x e) (Classical.propDecidable _)
noncomputable def agSs (nm : Nat → Str) (x : X) (e : List Stmt) : Bool := @decide (AgSs nm x e) (Classical.propDecidable _)
theorem agS_inv {nm : Nat → Str} {x : X} {e : Stmt} (h : agS nm x e = true) : AgS nm x e := @of_decide_eq_true _ (Classical.propDecidable _) h
theorem agSs_of {nm : Nat → Str} {x : X} {e : List Stmt} (h : agSs nm x e = true) : AgSs nm x e := @of_decide_eq_true _ (Classical.propDecidable _) h
theorem AgS.to {nm : Nat → Str} {x : X} {e : Stmt} (h : AgS nm x e) : agS nm x e = true := @decide_eq_true _ (Classical.propDecidable _) h
theorem AgSs.to {nm : Nat → Str} {x : X} {e : List Stmt} (h : AgSs nm x e) : agSs nm x e = true := @decide_eq_true _ (Classical.propDecidable _) h
theorem agSsD_ok {nm : Nat → Str} {x : X} {e : List Stmt} (h : (agSsD nm x e).1 = true) : agSs nm x e = true := ((agSsD nm x e).2 h).to
structure GoodS (g : Gx) (G : Cfg) (r : Rc) (d : Nat) : Prop where
  ex : ∀ c W s x ss, FOK g c → agSs g.nm x ss = true → Snd g c d (FR g) (execs ss c.env) W s (r.ex x c.F s)
theorem swaps_no {e : Expr} (h : noComp e = true) (t : Option Expr) (n : Nat) (env : Env) : swapsWith e t n env = pure false := by
  cases e <;> first | rfl | cases h
theorem swapsSole_no {e : Expr} (h : noComp e = true) (t : Expr) (n : Nat) (env : Env) : swapsWithSole [t] e n env = pure false := swaps_no h _ _ _
theorem swapped_no {e t : Expr} (h : noSwap e t = true) (env : Env) : swappedStores [t] e env = pure none := by
  cases t with
  | Tuple ts c p =>
    cases e with
    | Tuple vs c' p' =>
      have h : (!(ts.length == 2 || ts.length == 3)) = true := h
      unfold swappedStores
      simp only [h, Bool.true_or, if_true]
    | _ => rfl
  | List ts p =>
    cases e with
    | Tuple vs c' p' => cases h
    | _ => rfl
  | _ => rfl
theorem agN_inv {nm : Nat → Str} {l : X} {es : List Expr} (h : agN nm l es = true) : (l = .nil ∧ es = []) ∨ ∃ k b p es', l = .cons (.nm k) b ∧ es = .Name (nm k) p :: es' ∧ agN nm b es' = true := by
  have q := agN_of h
  clear h
  cases q with
  | nil => exact .inl ⟨rfl, rfl⟩
  | cons h => exact .inr ⟨_, _, _, _, rfl, rfl, h.to⟩
theorem agN_len {nm : Nat → Str} {env : Env} : ∀ {es : List Expr} {l : X}, agN nm l es = true → (assignEach es env).length = es.length ∧ (assignEach es env).findIdx? (·.1) = none
  | [], _, _ => ⟨rfl, rfl⟩
  | e :: es, l, h => by
    rcases agN_inv h with ⟨_, q⟩ | ⟨k, b, p, es', rfl, q, h2⟩
    · cases q
    · cases q
      obtain ⟨a, b⟩ := agN_len (env := env) h2
      have e : assignEach (.Name (nm k) p :: es) env = (false, assign (.Name (nm k) p) env) :: assignEach es env := rfl
      rw [e]
      refine ⟨by simp [a], ?_⟩
      rw [List.findIdx?_cons]
      simp [b]
theorem snd_bindAll (K : FOK g c) (GO : GOK g G) : ∀ (l : X) (es : List Expr) (vs : List V) (vals : List Value) (W : Wd) (s : St), agN g.nm l es = true → VRs g W vs vals → vals.length = es.length → Snd g c d UR (assignInOrder ((assignEach es c.env).map (·.2)) vals) W s (bindAll c.F l vs s) := by
  intro l
  induction l using xl_ind with
  | nil =>
    intro es vs vals W s h r hl
    rcases agN_inv h with ⟨_, rfl⟩ | ⟨_, _, _, _, q, _⟩
    · cases vals with
      | cons _ _ => simp at hl
      | nil =>
        cases r
        intro A S Q Er O H hP
        exact assignInOrder_nil (Post.of_ok (b := ()) (R := UR) hP H trivial)
    · cases q
  | cons a b ihb =>
    intro es vs vals W s h r hl
    rcases agN_inv h with ⟨q, _⟩ | ⟨k, b', p, es', q, rfl, h2⟩
    · cases q
    · cases q
      cases vals with
      | nil => simp at hl
      | cons val vals =>
        cases r with
        | cons rv rr =>
          rename_i v vs
          intro A S Q Er O H hP
          have hP' : Post g c UR W ((bindV k c.F v s).bind fun _ s => bindAll c.F b vs s) Q Er := hP
          have e : assignEach (.Name (g.nm k) p :: es') c.env = (false, assign (.Name (g.nm k) p) c.env) :: assignEach es' c.env := rfl
          rw [e, List.map_cons]
          refine assignInOrder_cons ?_
          refine PyProof.Rows.assign_Name ?_
          refine hP'.step (snd_store K GO k rv) O H fun _ s1 W1 _ S1 l1 _ H1 hP1 => ?_
          exact ihb es' vs vals W1 s1 h2 (VRs.le l1 rr) (by simpa using hl) A S1 Q Er O H1 hP1
  | other x n1 n2 =>
    intro es vs vals W s h
    rcases agN_inv h with ⟨e, _⟩ | ⟨_, _, _, _, e, _⟩
    · exact (n1 e).elim
    · exact (n2 _ _ e).elim
theorem snd_assign (GO : GOK g G) (XO : XOK g G) {r : Rc} (Gd : GoodE g G r d) (K : FOK g c) {t : X} {e : Expr} (h : agT g.nm t e = true) {v : V} {val : Value} (rv : VR g W v val) : Snd g c d UR (assign e c.env val) W s (store G r c.F v t s) := by
  have q := agT_inv h
  clear h
  cases q with
  | name k p =>
    intro A S Q Er O H hP
    exact PyProof.Rows.assign_Name (snd_store (d := d) K GO _ rv A S Q Er O H hP)
  | @attr o x o' p h1 =>
    intro A S Q Er O H hP
    have hP' : Post g c UR W ((r.ev o c.F s).bind fun y s => setA G y x v s) Q Er := hP
    rw [arm_assign_Attribute]
    refine wpAny_bind (wpAny_holding (hP'.step (Gd.ev c W s o o' K h1) O H fun ov s1 W1 val1 S1 l1 r1 H1 hP1 => ?_))
    refine wpAny_bind (wpAny_standAt (wpAny_bind (wpAny_holding ?_)))
    exact wpAny_mono (snd_set XO (d := d) K GO r1 (rv.le l1) x A S1 Q Er O H1 hP1) (fun _ _ q => wpAny_release q) fun _ _ q => q
  | @item o i o' i' p h0 h1 h2 =>
    intro A S Q Er O H hP
    have hP' : Post g c UR W ((r.ev o c.F s).bind fun y s => (r.ev i c.F s).bind fun z s => setI y z v s) Q Er := hP
    rw [arm_assign_Subscript]
    refine wpAny_bind (wpAny_holding (hP'.step (Gd.ev c W s o o' K h1) O H fun ov s1 W1 val1 S1 l1 r1 H1 hP1 => ?_))
    refine wpAny_bind (wpAny_holding (hP1.step (Gd.ev c W1 s1 i i' K h2) O H1 fun iv s2 W2 val2 S2 l2 r2 H2 hP2 => ?_))
    refine wpAny_bind (wpAny_standAt (wpAny_bind (wpAny_holding ?_)))
    exact wpAny_mono (snd_setI (d := d) K GO (r1.le l2) r2 ((rv.le l1).le l2) A S2 Q Er O H2 hP2) (fun _ _ q => wpAny_release q) fun _ _ q => q
  | @tup l es kk p h =>
    intro A S Q Er O H hP
    have hP' : Post g c UR W (@Bool.rec (fun _ => Res Unit) (unpk c.F l v s) (.bad 90) c.F.bz) Q Er := hP
    cases hb : c.F.bz with
    | true => rw [hb] at hP'; exact hP'.elim
    | false =>
      rw [hb] at hP'
      have hP' : Post g c UR W (unpk c.F l v s) Q Er := hP'
      unfold unpk at hP'
      split at hP'
      · rename_i vs tv
        obtain ⟨x, vals, rfl, tx, rx, mx⟩ := H.ofTup rv tv
        obtain ⟨m, F, E⟩ := H.fr
        obtain ⟨n1, n2⟩ := agN_len (env := c.env) h
        by_cases hlen : vals.length = es.length
        · refine PyProof.Rows.assign_Tuple_tuple (O.hand hb) tx (by rw [n1, List.size_toArray, hlen]) n2 fun h' he => ?_
          have k : ∀ b o, S.heap.get? b = some o → h'.get? b = some o := fun b o e => he b o (Nat.ne_of_lt (lt_of_get e)) e
          have := snd_bindAll (d := d) K GO l es vs vals W s h rx hlen A { S with heap := h' } Q Er O (grown_keep H k S.toks) hP'
          simpa using this
        · exfalso
          have : ∀ (l : X) (es : List Expr) (vs : List V) (s : St) (W : Wd), agN g.nm l es = true → vs.length ≠ es.length → Post g c UR W (bindAll c.F l vs s) Q Er → False := by
            intro l
            induction l using xl_ind with
            | nil =>
              intro es vs s W h hn hP
              rcases agN_inv h with ⟨_, rfl⟩ | ⟨_, _, _, _, q, _⟩
              · cases vs with
                | nil => exact hn rfl
                | cons _ _ => exact hP
              · cases q
            | cons a b ihb =>
              intro es vs s W h hn hP
              rcases agN_inv h with ⟨q, _⟩ | ⟨k, b', p, es', q, rfl, h2⟩
              · cases q
              · cases q
                cases vs with
                | nil => exact hP
                | cons v vs =>
                  have hP' : Post g c UR W ((bindV k c.F v s).bind fun _ s => bindAll c.F b vs s) Q Er := hP
                  have e : bindV k c.F v s = @Bool.rec (fun _ => Res Unit) (.bad 62) (.ok () { s with env := put s.env k v }) (memN k c.F.locs) := rfl
                  cases hm : memN k c.F.locs with
                  | false => rw [e, hm] at hP'; exact hP'
                  | true =>
                    rw [e, hm] at hP'
                    exact ihb es' vs _ W h2 (by simpa using hn) hP'
            | other x n1 n2 =>
              intro es vs s W h
              rcases agN_inv h with ⟨e, _⟩ | ⟨_, _, _, _, e, _⟩
              · exact (n1 e).elim
              · exact (n2 _ _ e).elim
          exact this l es vs s W h (by rw [rx.length]; exact hlen) hP'
      · exact hP'.elim
end Mine
namespace Mine
open PySem PySem.W PySem.Calls PyProof.Rows
variable {g : Gx} {G : Cfg} {c : FC} {d : Nat} {W : Wd} {s : St} {S : Shared}
structure XL (g : Gx) : Prop where
  note : ∀ {c : FC} {d : Nat} {W : Wd} {s : St} {n : Nat} {e : Value} {S : Shared} {A : Around} {Q : Unit → Shared → Prop} {E : Value → Shared → Prop}, AOK c d A → FlyB g false c W s n e S → (∀ S', FlyB g true c W s n e S' → Q () S') → wpAny (model g.prog g.w) A (noteFrame e c.env) Q E S
  leave : ∀ {c : FC} {d : Nat} {W : Wd} {s : St} {n : Nat} {e : Value} {S : Shared} {A : Around} {Q : Unit → Shared → Prop} {E : Value → Shared → Prop}, AOK c d A → FlyB g false c W s n e S → (∀ S', FlyB g true c W s n e S' → Q () S') → wpAny (model g.prog g.w) A («leaving» c.env e) Q E S
  came : ∀ {c : FC} {W : Wd} {s : St} {n : Nat} {e : Value} {S : Shared} {A : Around} {E : Value → Shared → Prop}, FlyB g true c W s n e S → (∀ S', FlyB g true c W s n e S' → E e S') → cameBackBy (model g.prog g.w) A c.env E e S
  flight : ∀ {c : FC} {W : Wd} {s : St} {n : Nat} {e : Value} {S : Shared} {A : Around} {Q : Unit → Shared → Prop} {E : Value → Shared → Prop} {f : Option Addr}, FlyB g true c W s n e S → (∀ S', FlyB g true c W s n e S' → Q () S') → wpAny (model g.prog g.w) A (setFlight e f) Q E S
theorem Snd.lift {α β γ δ : Type} {c : FC} {R : Wd → β → α → Prop} {R' : Wd → δ → γ → Prop} {t : Sem α} {res : Res β} {k : β → St → Res δ} {Q : γ → Shared → Prop} {Er : Value → Shared → Prop} {A : Around} {Q1 : α → Shared → Prop}
    (h : Snd g c d R t W s res) (O : AOK c d A) (H : Here g c W s S) (hP : Post g c R' W (res.bind k) Q Er)
    (n : ∀ b s' W' a S', Le W W' → R W' b a → Here g c W' s' S' → Post g c R' W' (k b s') Q Er → Q1 a S') : wpAny (model g.prog g.w) A t Q1 Er S := hP.step h O H n
theorem interactive_no (K : FOK g c) : interactive c.env = false := by
  show (c.scope.kind == .module && _) = false
  rw [K.fn.kind]; rfl
structure LoopsOK (g : Gx) (G : Cfg) (r : Rc) (d : Nat) : Prop where
  whl : ∀ c W s t b t' b' p, FOK g c → ag g.nm t t' = true → agSs g.nm b b' = true → Snd g c d (FR g) (exec (.While t' b' [] p) c.env) W s (r.wh t b c.F s)
  for_ : ∀ c W s x e b sp e' b' p, FOK g c → noSet e' = true → ag g.nm e e' = true → agSs g.nm b b' = true → Snd g c d (FR g) (exec (.For (.Name (g.nm x) sp) e' b' [] p) c.env) W s (exStep G r (.for_ x e b) c.F s)
  rais : ∀ c W s n l np es cp p, FOK g c → ags g.nm l es = true → Snd g c d (FR g) (exec (.Raise (some (.Call (.Name (g.nm n) np) es [] cp)) none p) c.env) W s (exStep G r (.rais n l) c.F s)
  fin : ∀ c W s b f b' f0 fs p, FOK g c → agSs g.nm b b' = true → agSs g.nm f (f0 :: fs) = true → Snd g c d (FR g) (exec (.Try b' [] [] (f0 :: fs) p) c.env) W s (exStep G r (.fin b f) c.F s)
  ctc : ∀ c W s n x b h b' np hb hbs hp p, FOK g c → agSs g.nm b b' = true → agSs g.nm h (hb :: hbs) = true → Snd g c d (FR g) (exec (.Try b' [.ExceptHandler (some (.Name (g.nm n) np)) (some (g.nm x)) (hb :: hbs) hp] [] [] p) c.env) W s (exStep G r (.ctc n x b h) c.F s)
theorem snd_inpl {op : Operator} {a b : V} {va vb : Value} (ra : VR g W a va) (rb : VR g W b vb) : Snd g c d (VR g) (inplaceOp op va vb) W s (binI op a b s) := by
  intro A S Q Er O H hP
  unfold binI at hP
  split at hP
  · unfold addI at hP
    split at hP
    · split at hP
      · obtain ⟨t, rfl⟩ := ra; obtain ⟨u, rfl⟩ := rb
        exact PyProof.Rows.iadd_int (hP.of_ok (H.toks _) ⟨_, rfl⟩)
      · exact hP.elim
    · exact hP.elim
  · unfold bSub at hP
    split at hP
    · split at hP
      · obtain ⟨t, rfl⟩ := ra; obtain ⟨u, rfl⟩ := rb
        exact PyProof.Rows.isub_int (hP.of_ok (H.toks _) ⟨_, rfl⟩)
      · exact hP.elim
    · exact hP.elim
  · exact hP.elim
theorem good_exS (GO : GOK g G) (XO : XOK g G) {r : Rc} (Gd : GoodE g G r d) (Gs : GoodS g G r d) (LO : LoopsOK g G r d) (K : FOK g c) {x : X} {st : Stmt} (h : agS g.nm x st = true) : Snd g c d (FR g) (exec st c.env) W s (exStep G r x c.F s) := by
  have q := agS_inv h
  clear h
  cases q with
  | @sx e e' p hc h =>
    intro A S Q Er O H hP
    have hP' : Post g c (FR g) W ((r.ev e c.F s).bind fun _ s => .ok .next s) Q Er := hP
    refine wpAny_Expr_any ?_ (interactive_no K) (swaps_no hc _ _ _)
    exact (Gd.ev c W s e e' K h).lift O H hP' fun v s1 W1 val S1 l1 r1 H1 hP1 => hP1.of_ok H1 rfl
  | @ret e e' p h =>
    intro A S Q Er O H hP
    have hP' : Post g c (FR g) W ((r.ev e c.F s).bind fun y s => .ok (.ret y) s) Q Er := hP
    refine wpAny_Return_some ?_
    exact (Gd.ev c W s e e' K h).lift O H hP' fun v s1 W1 val S1 l1 r1 H1 hP1 => hP1.of_ok H1 ⟨_, rfl, r1⟩
  | ret0 =>
    intro A S Q Er O H hP
    have hP' : Post g c (FR g) W (.ok (.ret .none) s) Q Er := hP
    exact wpAny_Return_none (hP'.of_ok H ⟨_, rfl, rfl⟩)
  | @asg t e t' e' p h0 h1 h2 h3 =>
    intro A S Q Er O H hP
    have hP' : Post g c (FR g) W ((r.ev e c.F s).bind fun y s => (store G r c.F y t s).bind fun _ s => .ok .next s) Q Er := hP
    refine wpAny_Assign_stores ?_ (swapsSole_no h0 _ _ _) (swapped_no h1 _)
    refine (Gd.ev c W s e e' K h3).lift O H hP' fun v s1 W1 val S1 l1 r1 H1 hP1 => ?_
    have e1 : (assignEach [t'] c.env).map (·.2) = [assign t' c.env] := by
      cases agT_inv h2 <;> rfl
    rw [e1]
    show wpAny _ A (assign t' c.env val) _ Er S1
    exact (snd_assign (d := d) GO XO Gd K h2 r1).lift O H1 hP1 fun _ s2 W2 _ S2 l2 _ H2 hP2 => hP2.of_ok H2 rfl
  | @aug o x op e o' ap e' p h2 h3 =>
    intro A S Q Er O H hP
    have hP' : Post g c (FR g) W ((r.ev o c.F s).bind fun ov s => (getA ov x s).bind fun a s => (r.ev e c.F s).bind fun b s => (binI op a b s).bind fun v s => (setA G ov x v s).bind fun _ s => .ok .next s) Q Er := hP
    refine wpAny_AugAssign_AttributeAny ?_
    refine (Gd.ev c W s o o' K h2).lift O H hP' fun ov s1 W1 vov S1 l1 r1 H1 hP1 => ?_
    refine (snd_get XO (d := d) K GO r1 x).lift O H1 hP1 fun a s2 W2 va S2 l2 r2 H2 hP2 => ?_
    refine (Gd.ev c W2 s2 e e' K h3).lift O H2 hP2 fun b s3 W3 vb S3 l3 r3 H3 hP3 => ?_
    refine (snd_inpl (d := d) (r2.le l3) r3).lift O H3 hP3 fun v s4 W4 vv S4 l4 r4 H4 hP4 => ?_
    exact (snd_set XO (d := d) K GO (((r1.le l2).le l3).le l4) r4 x).lift O H4 hP4 fun _ s5 W5 _ S5 l5 _ H5 hP5 => hP5.of_ok H5 rfl
  | @sif t a b t' a' b' p h0 h1 h2 =>
    have h1 := h1.to
    have h2 := h2.to
    intro A S Q Er O H hP
    have hP' : Post g c (FR g) W ((r.ts t c.F s).bind fun y s => @Bool.rec (fun _ => Res Fl) (r.ex b c.F s) (r.ex a c.F s) y) Q Er := hP
    refine wpAny_If ?_
    refine (Gd.ts c W s t t' K h0).lift O H hP' fun v s1 W1 val S1 l1 r1 H1 hP1 => ?_
    have r1 : val = v := r1
    subst r1
    cases val with
    | true => exact Gs.ex c W1 s1 a a' K h1 A S1 Q Er O H1 hP1
    | false => exact Gs.ex c W1 s1 b b' K h2 A S1 Q Er O H1 hP1
  | @whl t b t' b' p h h2 => exact LO.whl c W s t b t' b' p K h h2.to
  | @for_ x e b sp e' b' p h1 h2 h3 => exact LO.for_ c W s x e b sp e' b' p K h1 h2 h3.to
  | pass =>
    intro A S Q Er O H hP
    have hP' : Post g c (FR g) W (.ok .next s) Q Er := hP
    exact wpAny_Pass (hP'.of_ok H rfl)
  | @rais n l np es cp p h => exact LO.rais c W s n l np es cp p K h
  | @fin b f b' f0 fs p h h2 => exact LO.fin c W s b f b' f0 fs p K h.to h2.to
  | @ctc n x b h b' np hb hbs hp p h2 h3 => exact LO.ctc c W s n x b h b' np hb hbs hp p K h2.to h3.to
  | nil =>
    intro A S Q Er O H hP
    exact hP.elim
theorem agSs_inv {nm : Nat → Str} {l : X} {ss : List Stmt} (h : agSs nm l ss = true) : (l = .nil ∧ ss = []) ∨ ∃ a b st ss', l = .cons a b ∧ ss = st :: ss' ∧ agS nm a st = true ∧ agSs nm b ss' = true := by
  cases agSs_of h with
  | nil => exact .inl ⟨rfl, rfl⟩
  | cons h1 h2 => exact .inr ⟨_, _, _, _, rfl, rfl, h1.to, h2.to⟩
theorem good_exs (GO : GOK g G) (XO : XOK g G) {r : Rc} (Gd : GoodE g G r d) (Gs : GoodS g G r d) (LO : LoopsOK g G r d) (K : FOK g c) {x : X} {ss : List Stmt} (h : agSs g.nm x ss = true) : Snd g c d (FR g) (execs ss c.env) W s (exsStep G r x c.F s) := by
  rcases agSs_inv h with ⟨rfl, rfl⟩ | ⟨a, b, st, ss', rfl, rfl, h1, h2⟩
  · intro A S Q Er O H hP
    have hP' : Post g c (FR g) W (.ok .next s) Q Er := hP
    exact wpAny_execs_nil (hP'.of_ok H rfl)
  · intro A S Q Er O H hP
    have hP' : Post g c (FR g) W ((exStep G r a c.F s).bind fun y s => nxt r b c.F y s) Q Er := hP
    refine wpAny_execs_cons ?_
    refine (good_exS GO XO Gd Gs LO K h1).lift O H hP' fun fl s1 W1 f S1 l1 r1 H1 hP1 => ?_
    cases fl with
    | next =>
      have r1 : f = .next := r1
      subst r1
      exact Gs.ex c W1 s1 b ss' K h2 A S1 Q Er O H1 hP1
    | brk =>
      have r1 : f = .brk := r1
      subst r1
      exact Post.of_ok (b := Fl.brk) (R := FR g) hP1 H1 rfl
    | cont =>
      have r1 : f = .cont := r1
      subst r1
      exact Post.of_ok (b := Fl.cont) (R := FR g) hP1 H1 rfl
    | ret v =>
      obtain ⟨val, rfl, rv⟩ := r1
      exact Post.of_ok (b := Fl.ret v) (R := FR g) hP1 H1 ⟨val, rfl, rv⟩
end Mine
namespace Mine
open PySem PySem.W PySem.Calls PyProof.Rows
variable {g : Gx} {G : Cfg} {c : FC} {d : Nat} {W : Wd} {s : St} {S : Shared}
structure EntOK (g : Gx) (F : Fn) (fd : FuncData) (body : List Stmt) : Prop where
  bdy : fd.body = .stmts body
  gl : fd.globals = mainGlobals
  cl : fd.closure = []
  bi : fd.builtins = builtinsNs
  code : codeIn g.K fd.code fd.qualname = true
  co : fd.scope.isCoroutine = false
  gen : fd.scope.isGenerator = false
  fn : FnOK g F fd.scope
  ag : agSs g.nm F.body body = true
  bz : F.bz = false
  nl : F.addr ≠ g.lawA
  nd : F.ps.Nodup
  kind : (F.cel = [] ∧ (∀ x ∈ fd.scope.names, x.2 ≠ .cell) ∧ (∀ x ∈ F.ps, x ∈ F.locs) ∧
      ∀ W l en vals S, binds F l = some en → VRs g W l vals → g.K.In S.heap → ∃ bs, BindsTo S fd ⟨vals, []⟩ bs ∧ F2 (KR g W) en bs) ∨
    ((∀ x ∈ F.ps, x ∈ F.locs ∨ x ∈ F.cel) ∧ (∀ x ∈ F.cel, ∀ L, ((cellsFrom (L + 1) fd.scope.names []).lookup (g.nm x)).isSome = true) ∧ (∀ L, ((cellsFrom (L + 1) fd.scope.names []).map (·.1)).Nodup) ∧
      ∀ W l en vals, binds F l = some en → VRs g W l vals → ∃ bs, bindArgs fd ⟨vals, []⟩ = pure bs ∧ F2 (KR g W) en bs)
theorem zipE_keys : ∀ {ps : List Nat} {l : List V} {en : En}, zipE ps l = some en → en.map (·.1) = ps
  | [], [], en, h => by cases h; rfl
  | [], _ :: _, _, h => by cases h
  | _ :: _, [], _, h => by cases h
  | x :: xs, v :: vs, en, h => by
    unfold zipE at h
    split at h
    · rename_i l e
      cases h
      simp [zipE_keys e]
    · cases h
theorem binds_keys {F : Fn} {l : List V} {en : En} (h : binds F l = some en) : en.map (·.1) = F.ps := by
  unfold binds at h
  split at h
  · exact zipE_keys h
  · exact zipE_keys h
theorem kr_keys {W : Wd} {en : En} {bs : List (Str × Value)} (r : F2 (KR g W) en bs) : bs.map (·.1) = en.map fun p => g.nm p.1 := by
  induction r with
  | nil => rfl
  | cons a _ ih => rw [List.map_cons, List.map_cons, ih, a.1]
theorem kr_look {W : Wd} {en : En} {bs : List (Str × Value)} (r : F2 (KR g W) en bs) {x : Nat} {v : V} (h : look en x = some v) : ∃ val, (g.nm x, val) ∈ bs ∧ VR g W v val ∧ x ∈ en.map (·.1) := by
  induction r with
  | nil => rw [look_nil] at h; cases h
  | @cons p e l bs a _ ih =>
    obtain ⟨k, w⟩ := p
    obtain ⟨k', val⟩ := e
    obtain ⟨e1, r1⟩ := a
    simp only at e1 r1
    subst e1
    rw [look_cons] at h
    by_cases q : k = x
    · subst q
      simp only [if_true] at h
      cases h
      exact ⟨val, .head _, r1, .head _⟩
    · simp only [q, if_false] at h
      obtain ⟨val', m, r', m'⟩ := ih h
      exact ⟨val', .tail _ m, r', .tail _ m'⟩
theorem lookup_of_mem {α : Type} {l : List (Str × α)} (nd : (l.map (·.1)).Nodup) {n : Str} {v : α} (h : (n, v) ∈ l) : l.lookup n = some v := by
  induction l with
  | nil => cases h
  | cons p l ih =>
    rw [List.map_cons, List.nodup_cons] at nd
    rw [List.lookup_cons]
    rcases List.mem_cons.mp h with e | h
    · rw [← e]; simp
    · have : (n == p.1) = false := by
        have : n ≠ p.1 := fun q => nd.1 (q ▸ List.mem_map.mpr ⟨_, h, rfl⟩)
        simpa using this
      rw [this]
      exact ih nd.2 h
theorem nodup_map_nm (GO : GOK g G) {ps : List Nat} (nd : ps.Nodup) : (ps.map g.nm).Nodup := by
  induction ps with
  | nil => simp
  | cons x ps ih =>
    rw [List.nodup_cons] at nd
    rw [List.map_cons, List.nodup_cons]
    refine ⟨fun h => ?_, ih nd.2⟩
    obtain ⟨y, hy, e⟩ := List.mem_map.mp h
    exact nd.1 (GO.inj _ _ e ▸ hy)
noncomputable def callee (c : FC) (W : Wd) (S : Shared) (F : Fn) (fd : FuncData) (cells : List (Str × Addr)) : FC := ⟨c.env :: c.outer, hideAll S.heap (adr W), S.heap.objs.size, F, fd.qualname, fd.scope, F.addr, fd.code, cells⟩
theorem emb (H : Here g c W s S) {b : Addr} {o : Obj} (e : c.h₀.get? b = some o) : (hideAll S.heap (adr W)).get? b = some o := by
  obtain ⟨m, F, _⟩ := H.fr
  refine hideAll_get _ (F.keep b o e) fun q => ?_
  rw [(H.own b (mem_all q)).1.2.1] at e
  cases e
theorem locals_kept (H : Here g c W s S) : ∃ o, (hideAll S.heap (adr W)).get? c.L = some o ∧ S.heap.get? c.L = some o := by
  obtain ⟨m, F, _⟩ := H.fr
  obtain ⟨oL, es, ep, hL, _⟩ := F.ns
  exact ⟨oL, hideAll_get _ hL fun q => (H.own _ (mem_all q)).1.1 rfl, hL⟩
theorem callee_ok (GO : GOK g G) (K : FOK g c) (H : Here g c W s S) {F : Fn} {fd : FuncData} (fn : FnOK g F fd.scope) (nl : F.addr ≠ g.lawA) (cells : List (Str × Addr)) : FOK g (callee c W S F fd cells) := by
  obtain ⟨m, Fr₀, E⟩ := H.fr
  have stays : g.base.StaysIn (hideAll S.heap (adr W)) := fun b o e => emb H (K.stays b o e)
  have hnew : g.base.get? c.L = none := by
    cases hq : g.base.get? c.L with
    | none => rfl
    | some o => exact absurd (Nat.lt_of_lt_of_le (Heap.lt_size hq) K.big) (Nat.lt_irrefl _)
  have fr1 : S.heap.FunFrames g.base (c.env :: c.outer) := by
    obtain ⟨oL, es, ep, hL, hd, _⟩ := Fr₀.ns
    refine ⟨?_, ⟨c.L, oL, rfl, hnew, hL, fun vs q => by rw [hd] at q; cases q⟩, K.frames.of_keeps fun b o e _ => ⟨o, Fr₀.keep b o e, rfl⟩⟩
    show c.scope.kind ≠ .module
    rw [K.fn.kind]; decide
  refine ⟨fun e => (nl e).elim, K.bigS Fr₀, stays, ?_, GO.kin.keeps stays, ?_, fn⟩
  · obtain ⟨a, ⟨L, o, b1, b2, b3, b4⟩, b5⟩ := fr1
    have sub : ∀ {l : List Env}, S.heap.FunFrames g.base l → (∀ env ∈ l, ∀ L, env.frame = some L → L ∉ adr W) → (hideAll S.heap (adr W)).FunFrames g.base l := by
      intro l
      induction l with
      | nil => intro _ _; trivial
      | cons env l ih =>
        rintro ⟨hk, ⟨L, o, h1, h2, h3, h4⟩, hr⟩ hn
        exact ⟨hk, ⟨L, o, h1, h2, hideAll_get _ h3 (hn env (.head _) L h1), h4⟩, ih hr fun e he => hn e (.tail _ he)⟩
    refine sub ⟨a, ⟨L, o, b1, b2, b3, b4⟩, b5⟩ fun env he L' hL' q => ?_
    have own := H.own _ (mem_all q)
    rcases List.mem_cons.mp he with rfl | he
    · exact own.1.1 (Option.some.inj hL').symm
    · obtain ⟨L₁, o₁, e1, e2⟩ := PyProof.Rows.funFrames_in K.frames env he
      rw [hL'] at e1
      cases e1
      rw [own.1.2.1] at e2
      cases e2
  · obtain ⟨p, loose, mg, mb, T⟩ := GO.top
    exact ⟨p, loose, mg, mb, T.keeps stays⟩
noncomputable def restr (h h₂ : Heap) : Heap := { h with objs := Array.ofFn (n := h.objs.size) fun i => if (h.get? i).isSome then (h₂.get? i).getD { cls := .none, data := .freed } else { cls := .none, data := .freed } }
theorem get_not_freed {h : Heap} {b : Addr} {o : Obj} (e : h.get? b = some o) : o.data ≠ .freed := by
  intro q
  obtain ⟨c, d, dt, sl⟩ := o
  simp only at q
  subst q
  unfold Heap.get? at e
  split at e
  · cases e
  · rename_i o' hn
    exact hn c d sl e
theorem get_of_at {h : Heap} {b : Addr} {o : Obj} (e : h.objs[b]? = some o) (nf : o.data ≠ .freed) : h.get? b = some o := by
  unfold Heap.get?
  rw [e]
  obtain ⟨c, d, dt, sl⟩ := o
  cases dt <;> first | rfl | exact (nf rfl).elim
theorem get_of_freed {h : Heap} {b : Addr} {o : Obj} (e : h.objs[b]? = some o) (nf : o.data = .freed) : h.get? b = none := by
  unfold Heap.get?
  rw [e]
  obtain ⟨c, d, dt, sl⟩ := o
  simp only at nf
  subst nf
  rfl
theorem restr_size (h h₂ : Heap) : (restr h h₂).objs.size = h.objs.size := by simp [restr]
theorem restr_get (h h₂ : Heap) (b : Addr) : (restr h h₂).get? b = if (h.get? b).isSome then h₂.get? b else none := by
  by_cases lt : b < h.objs.size
  · have e : (restr h h₂).objs[b]? = some (if (h.get? b).isSome then (h₂.get? b).getD { cls := .none, data := .freed } else { cls := .none, data := .freed }) := by
      simp [restr, Array.getElem?_ofFn, lt]
    by_cases hs : (h.get? b).isSome = true
    · rw [if_pos hs] at e ⊢
      cases q : h₂.get? b with
      | none =>
        rw [q] at e
        exact get_of_freed e rfl
      | some o =>
        rw [q] at e
        exact get_of_at e (get_not_freed q)
    · rw [if_neg hs] at e ⊢
      exact get_of_freed e rfl
  · have n1 : (restr h h₂).get? b = none := Heap.get?_none_of_le (by rw [restr_size]; exact Nat.le_of_not_lt lt)
    have n2 : h.get? b = none := Heap.get?_none_of_le (Nat.le_of_not_lt lt)
    rw [n1, n2]
    rfl
theorem Here.back (H : Here g c W s S) (K : FOK g c) {F : Fn} {fd : FuncData} {cells : List (Str × Addr)} {W' : Wd} {s' : St} {S' : Shared} (l : Le W W') {h₂ h₃ : Heap} (sl : Slt (c.env :: c.outer) (hideAll S.heap (adr W)) h₂)
    (H' : Here g ((callee c W S F fd cells).at h₂) W' s' S') (sz : h₃.objs.size = c.h₀.objs.size) (k3 : ∀ b o, h₃.get? b = some o → h₂.get? b = some o) (d3 : ∀ b, c.h₀.get? b = none → h₃.get? b = none) : Here g (c.at h₃) W' { s' with env := s.env } S' := by
  obtain ⟨m, Fr₀, E⟩ := H.fr
  obtain ⟨m', Fr', E'⟩ := H'.fr
  obtain ⟨oL, hL1, hL2⟩ := locals_kept H
  obtain ⟨sL, hL3, _⟩ := sl.2.1 _ _ hL1
  have kL : S'.heap.get? c.L = some { oL with slots := sL } := Fr'.keep _ _ hL3
  have disj := List.nodup_append.mp H.nodup
  have disj' := List.nodup_append.mp H'.nodup
  have notFrame : ∀ b, b ∈ c.cells.map (·.2) → ∀ env ∈ c.env :: c.outer, env.frame ≠ some b := fun b hb env he q => by
    have own := H.own b (List.mem_append_left _ hb)
    rcases List.mem_cons.mp he with rfl | he
    · exact own.1.1 (Option.some.inj q).symm
    · obtain ⟨L₁, o₁, e1, e2⟩ := PyProof.Rows.funFrames_in K.frames env he
      rw [q] at e1
      cases e1
      rw [own.1.2.1] at e2
      cases e2
  have kc : ∀ b ∈ c.cells.map (·.2), ∃ o, h₂.get? b = some o ∧ S.heap.get? b = some o ∧ S'.heap.get? b = some o := fun b hb => by
    obtain ⟨_, o, e⟩ := H.own b (List.mem_append_left _ hb)
    have h1 := hideAll_get (adr W) e fun q => disj.2.2 b hb b q rfl
    obtain ⟨_, _, h2⟩ := sl.2.1 _ _ h1
    have h2 := h2 (notFrame b hb)
    exact ⟨o, h2, e, Fr'.keep _ _ h2⟩
  have own' : ∀ b ∈ adr W', h₂.get? b = none ∧ g.base.objs.size ≤ b ∧ ∃ o, S'.heap.get? b = some o := fun b hb => let ⟨x, o⟩ := H'.own b (mem_all hb); ⟨x.2.1, x.2.2, o⟩
  refine ⟨⟨m, ?_, ?_⟩, H'.obj, H'.len, ?_, fun b hb => ?_, H'.gens, H'.drawn, H'.os⟩
  · obtain ⟨oL', es, ep, a1, a2, a3⟩ := Fr₀.ns
    rw [hL2] at a1
    cases a1
    exact ⟨⟨_, es, ep, kL, a2, a3⟩, fun b o e => Fr'.keep _ _ (k3 b o e), by show h₃.objs.size ≤ c.L; rw [sz]; exact Fr₀.above⟩
  · exact E.mono l fun b hb => by obtain ⟨o, _, e1, e2⟩ := kc b hb; rw [e1, e2]
  · refine List.nodup_append.mpr ⟨disj.1, disj'.2.1, fun a ha b hb q => ?_⟩
    subst q
    obtain ⟨o, e, _⟩ := kc a ha
    rw [(own' a hb).1] at e
    cases e
  · rcases List.mem_append.mp hb with hb | hb
    · obtain ⟨x, _⟩ := H.own b (List.mem_append_left _ hb)
      obtain ⟨o, _, _, e⟩ := kc b hb
      exact ⟨⟨x.1, d3 b x.2.1, x.2.2⟩, o, e⟩
    · obtain ⟨e1, e2, o, e3⟩ := own' b hb
      refine ⟨⟨fun q => ?_, ?_, e2⟩, o, e3⟩
      · have q : b = c.L := q
        rw [q, hL3] at e1; cases e1
      · show h₃.get? b = none
        cases q : h₃.get? b with
        | none => rfl
        | some o' => rw [k3 b o' q] at e1; cases e1
theorem Slt.refl (l : List Env) (h : Heap) : Slt l h h := ⟨rfl, fun b o e => ⟨o.slots, e, fun _ => e⟩, fun _ e => e⟩
theorem FlyB.back (GO : GOK g G) (H : Here g c W s S) (K : FOK g c) {F : Fn} {fd : FuncData} {cells : List (Str × Addr)} {W' : Wd} {s' : St} {n : Nat} {e : Value} {S' : Shared} {hs : Bool} (l : Le W W') (X : FlyB g hs (callee c W S F fd cells) W' s' n e S') : FlyB g hs c W' { s' with env := s.env } n e S' := by
  obtain ⟨h₂, sl, K₂, H₂, ⟨C, ll, x1, x2⟩, tb⟩ := X
  have k3 : ∀ b o, (restr c.h₀ h₂).get? b = some o → h₂.get? b = some o := fun b o e => by
    rw [restr_get] at e
    split at e
    · exact e
    · cases e
  have d3 : ∀ b, c.h₀.get? b = none → (restr c.h₀ h₂).get? b = none := fun b e => by rw [restr_get, e]; rfl
  have dom : ∀ b o, c.h₀.get? b = some o → (restr c.h₀ h₂).get? b = h₂.get? b := fun b o e => by rw [restr_get, e]; rfl
  obtain ⟨m, Fr₀, E⟩ := H.fr
  have notL : ∀ b o, c.h₀.get? b = some o → c.L ≠ b := fun b o e q => by
    subst q
    exact absurd (Nat.lt_of_lt_of_le (lt_of_get e) Fr₀.above) (Nat.lt_irrefl _)
  have s3 : Slt c.outer c.h₀ (restr c.h₀ h₂) := by
    refine ⟨restr_size _ _, fun b o e => ?_, d3⟩
    rw [dom b o e]
    obtain ⟨q, h1, h2⟩ := sl.2.1 b o (emb H e)
    refine ⟨q, h1, fun hn => h2 fun env he => ?_⟩
    rcases List.mem_cons.mp he with rfl | he
    · exact fun q => notL b o e (Option.some.inj q)
    · exact hn env he
  have st : g.base.StaysIn (restr c.h₀ h₂) := fun b o e => by rw [dom b o (K.stays b o e)]; exact K₂.stays b o e
  refine ⟨restr c.h₀ h₂, s3, ⟨K.law, K.big, st, ?_, GO.kin.keeps st, ?_, K.fn⟩, Here.back H K l sl H₂ (restr_size _ _) k3 d3, ⟨C, ll, x1, x2⟩, ?_⟩
  · exact K.frames.of_keeps fun b o e _ => by obtain ⟨q, h1, _⟩ := s3.2.1 b o e; exact ⟨_, h1, rfl⟩
  · obtain ⟨p, loose, mg, mb, T⟩ := GO.top
    exact ⟨p, loose, mg, mb, T.keeps st⟩
  · obtain ⟨p, o, vs, t1, t2, t3, t4, t5, t6⟩ := tb
    refine ⟨p, o, vs, t1, t2, t3, t4, t5, t6.imp id ?_⟩
    rintro ⟨T, oT, ts, u1, u2, u3, u4, u5, u6⟩
    have u4 : h₂.get? T = none := u4
    refine ⟨T, oT, ts, u1, fun q => ?_, fun q => ?_, ?_, u5, u6⟩
    · rcases List.mem_append.mp q with q | q
      · obtain ⟨_, o, e⟩ := H.own T (List.mem_append_left _ q)
        have h1 := hideAll_get (adr W) e fun q' => (List.nodup_append.mp H.nodup).2.2 T q T q' rfl
        obtain ⟨_, h2, _⟩ := sl.2.1 _ _ h1
        rw [u4] at h2; cases h2
      · exact u2 (mem_all q)
    · have q : T = c.L := q
      obtain ⟨oL, h1, _⟩ := locals_kept H
      obtain ⟨_, h2, _⟩ := sl.2.1 _ _ h1
      rw [← q, u4] at h2; cases h2
    · show (restr c.h₀ h₂).get? T = none
      cases q : (restr c.h₀ h₂).get? T with
      | none => rfl
      | some o' => rw [k3 _ _ q] at u4; cases u4
end Mine
namespace Mine
open PySem PySem.W PySem.Calls PyProof.Rows
variable {g : Gx} {G : Cfg} {c : FC} {d : Nat} {W : Wd} {s : St} {S : Shared}
theorem bindL_ok {kindOf : Str → Option NameKind} : ∀ {bs : List (Str × Value)} {m : Str → Option Value} {n : Str} {v : Value}, (bs.map (·.1)).Nodup → (n, v) ∈ bs → kindOf n = some .local → bindL kindOf bs m n = some v
  | [], _, _, _, _, h, _ => nomatch h
  | (k, w) :: bs, m, n, v, nd, h, hk => by
    rw [List.map_cons, List.nodup_cons] at nd
    have keep : ∀ (n : Str) (bs : List (Str × Value)) (m : Str → Option Value), n ∉ bs.map (·.1) → bindL kindOf bs m n = m n := by
      intro n bs
      induction bs with
      | nil => intro m _; rfl
      | cons p bs ih =>
        intro m hn
        obtain ⟨k', w'⟩ := p
        simp only [List.map_cons, List.mem_cons, not_or] at hn
        unfold bindL
        rw [ih _ hn.2]
        split
        · simp [hn.1]
        · rfl
    unfold bindL
    rcases List.mem_cons.mp h with e | h
    · obtain ⟨e1, e2⟩ := Prod.mk.inj e
      subst e1 e2
      rw [keep _ bs _ nd.1, if_pos hk]
      simp
    · exact bindL_ok nd.2 h hk
theorem bindC_ok {kindOf : Str → Option NameKind} : ∀ {bs : List (Str × Value)} {m : Str → Option Value} {n : Str} {v : Value}, (bs.map (·.1)).Nodup → (n, v) ∈ bs → kindOf n ≠ some .local → bindC kindOf bs m n = some v
  | [], _, _, _, _, h, _ => nomatch h
  | (k, w) :: bs, m, n, v, nd, h, hk => by
    rw [List.map_cons, List.nodup_cons] at nd
    have keep : ∀ (n : Str) (bs : List (Str × Value)) (m : Str → Option Value), n ∉ bs.map (·.1) → bindC kindOf bs m n = m n := by
      intro n bs
      induction bs with
      | nil => intro m _; rfl
      | cons p bs ih =>
        intro m hn
        obtain ⟨k', w'⟩ := p
        simp only [List.map_cons, List.mem_cons, not_or] at hn
        unfold bindC
        rw [ih _ hn.2]
        split
        · rfl
        · simp [hn.1]
    unfold bindC
    rcases List.mem_cons.mp h with e | h
    · obtain ⟨e1, e2⟩ := Prod.mk.inj e
      subst e1 e2
      rw [keep _ bs _ nd.1, if_neg hk]
      simp
    · exact bindC_ok nd.2 h hk
theorem callEnv_eq {F : Fn} {fd : FuncData} {body : List Stmt} (E : EntOK g F fd body) (c : FC) (W : Wd) (S : Shared) : callEnv fd S.heap.objs.size F.addr = (callee c W S F fd []).env := by
  show newEnv fd.scope S.heap.objs.size fd.globals fd.closure _ _ fd.code none fd.builtins = _
  rw [E.gl, E.cl, E.bi]
  rfl
theorem callEnvC_eq {F : Fn} {fd : FuncData} {body : List Stmt} (E : EntOK g F fd body) (c : FC) (W : Wd) (S : Shared) : callEnvC fd S.heap.objs.size F.addr = (callee c W S F fd (cellsFrom (S.heap.objs.size + 1) fd.scope.names [])).env := by
  show newEnv fd.scope S.heap.objs.size fd.globals _ _ _ fd.code none fd.builtins = _
  rw [E.gl, E.bi]
  rfl
theorem callee_here (H : Here g c W s S) (K : FOK g c) {F : Fn} {fd : FuncData} {cells : List (Str × Addr)} {h₁ : Heap} {m : Str → Option Value} {en : En} (tk : Nat) (ns : h₁.Ns S.heap.objs.size m) (k : ∀ b o, S.heap.get? b = some o → h₁.get? b = some o)
    (E : EnvR g (callee c W S F fd cells) W en m h₁) (cl : ∀ b ∈ cells.map (·.2), S.heap.objs.size < b ∧ ∃ o, h₁.get? b = some o) (nd : (cells.map (·.2)).Nodup) : Here g (callee c W S F fd cells) W { s with env := en } { S with heap := h₁, toks := tk } := by
  obtain ⟨m₀, Fr₀, E₀⟩ := H.fr
  have kA : ∀ b ∈ adr W, h₁.get? b = S.heap.get? b := fun b hb => by
    obtain ⟨_, o, e⟩ := H.own b (mem_all hb)
    rw [e]; exact k b o e
  refine ⟨⟨m, ⟨ns, fun b o e => k b o (of_hideAll _ e), Nat.le_of_eq (hideAll_size _ _)⟩, E⟩, fun n o e => ?_, H.len, ?_, fun b hb => ?_, H.gens, H.drawn, H.os⟩
  · obtain ⟨p, a, q, r⟩ := H.obj n o e
    exact ⟨p, a, q, r.mono (Le.refl W) (kA _ (mem_adr a)) fun d e => kA _ (mem_adr2 a e)⟩
  · refine List.nodup_append.mpr ⟨nd, (List.nodup_append.mp H.nodup).2.1, fun a ha b hb q => ?_⟩
    subst q
    obtain ⟨_, o, e⟩ := H.own a (mem_all hb)
    have := (cl a ha).1
    have := lt_of_get e
    exact Nat.lt_irrefl _ (Nat.lt_trans (cl a ha).1 (lt_of_get e))
  · rcases List.mem_append.mp hb with hb | hb
    · obtain ⟨h1, h2⟩ := cl b hb
      refine ⟨⟨Nat.ne_of_gt h1, Heap.get?_none_of_le (by show (hideAll S.heap (adr W)).objs.size ≤ b; rw [hideAll_size]; exact Nat.le_of_lt h1), ?_⟩, h2⟩
      exact Nat.le_trans (K.bigS Fr₀) (Nat.le_of_lt h1)
    · obtain ⟨x, o, e⟩ := H.own b (mem_all hb)
      exact ⟨⟨Nat.ne_of_lt (lt_of_get e), hideAll_none _ hb, x.2.2⟩, o, k b o e⟩
theorem deeper_ok {c : FC} {d : Nat} {A : Around} (O : AOK c (d + 1) A) (hb : c.F.bz = false) (W : Wd) (S : Shared) (F : Fn) (fd : FuncData) (cells : List (Str × Addr)) : AOK (callee c W S F fd cells) d (A.deeper (callee c W S F fd cells).env) := by
  refine ⟨?_, ?_, ?_, fun _ => O.hand hb⟩
  · show A.frames.map _ = _
    rw [O.frames]; rfl
  · show A.depth + 1 + 2 * d < 1000
    have := O.depth; omega
  · show A.units + 3 + 8 * d + 300 < cLine
    have := O.units; omega
theorem flow_val {W : Wd} {fl : Fl} (f : Flow) : VR g W (valOf fl) (match f with | .ret v => v | _ => .none) ∨ ¬ FR g W fl f := by
  by_cases rf : FR g W fl f
  rotate_left
  · exact .inr rf
  refine .inl ?_
  cases fl with
  | next => have rf : f = .next := rf; subst rf; rfl
  | brk => have rf : f = .brk := rf; subst rf; rfl
  | cont => have rf : f = .cont := rf; subst rf; rfl
  | ret v => obtain ⟨val, rfl, rv⟩ := rf; exact rv
theorem snd_call (GO : GOK g G) (XX : XL g) (K : FOK g c) (hb : c.F.bz = false) {r : Rc} (Gs : GoodS g G r d) {F : Fn} {oc : Value} {od : Option Addr} {osl : Array (Option Value)} {fd : FuncData} {body : List Stmt} (ho : g.K.lookup F.addr = some ⟨oc, od, .func fd, osl⟩) (E : EntOK g F fd body)
    {l : List V} {vs : List Value} {en : En} (rv : VRs g W l vs) (hbi : binds F l = some en) {A : Around} {R : Result → Shared → Prop} (O : AOK c (d + 1) A) (H : Here g c W s S)
    (hP : Post g c (VR g) W (clK s.env (r.ex F.body F { s with env := en })) (fun v S' => R (.ok (.ret v)) S') (fun e S' => R (.error e) S')) :
    codeAny (model g.prog g.w) A (.call (.ref F.addr) ⟨vs, []⟩) R S := by
  have X := H.kin K
  obtain ⟨p, loose, mg, mb, T⟩ := K.top
  obtain ⟨m₀, Fr₀, E₀⟩ := H.fr
  have hlim : S.heap.NoLimit := T.nolimit.keeps Fr₀.keep
  have room : A.depth < recursionLimit := by
    have := O.depth
    show A.depth < 1000
    omega
  have go : ∀ (cells : List (Str × Addr)) (h₁ : Heap) (tk : Nat), Here g (callee c W S F fd cells) W { s with env := en } { S with heap := h₁, toks := tk } →
      wpAny (model g.prog g.w) (A.deeper (callee c W S F fd cells).env) (execs body (callee c W S F fd cells).env) (fun f s' => R (.ok (.ret (match f with | .ret v => v | _ => .none))) s')
        (fun e s' => wpAny (model g.prog g.w) (A.deeper (callee c W S F fd cells).env) («leaving» (callee c W S F fd cells).env e) (fun _ s'' => R (.error e) s'') (fun e' s'' => R (.error e') s'') s') { S with heap := h₁, toks := tk } := by
    intro cells h₁ tk Hc
    have Kc := callee_ok GO K H E.fn E.nl cells
    refine Gs.ex _ W _ F.body body Kc E.ag _ _ _ _ (deeper_ok O hb W S F fd cells) Hc ?_
    show Post g _ (FR g) W (r.ex F.body F { s with env := en }) _ _
    cases q : r.ex F.body F { s with env := en } with
    | bad w => rw [q] at hP; exact hP
    | ok fl s' =>
      rw [q] at hP
      intro S' W' f l' H' rf
      have H2 := Here.back H K l' (Slt.refl _ _) (h₃ := c.h₀) H' rfl (fun b o e => emb H e) (fun b e => e)
      exact hP S' W' _ l' H2 ((flow_val (g := g) (W := W') (fl := fl) f).resolve_right (fun q => q rf))
    | exc n s' =>
      rw [q] at hP
      intro S' W' e l' X'
      refine XX.leave (deeper_ok O hb W S F fd cells) X' fun S'' X'' => ?_
      exact hP S'' W' e l' (FlyB.back GO H K l' X'').weak
  have nd : (en.map fun p => g.nm p.1).Nodup := by
    have := nodup_map_nm GO E.nd
    rw [← binds_keys hbi, List.map_map] at this
    exact this
  rcases E.kind with ⟨k1, k2, k3, k4⟩ | ⟨k1, k2, k5, k3⟩
  · obtain ⟨bs, hB, rb⟩ := k4 W l en vs S hbi rv X
    have nb : (bs.map (·.1)).Nodup := by rw [kr_keys rb]; exact nd
    refine codeAny_call_def (fd := fd) (body := body) room (X _ _ ho) rfl hlim (codeRec_of X E.code) E.bdy hB k2 (fun y hy => ?_) (fun h₁ hns hk₁ => ?_) E.co E.gen E.fn.kind
    · have : y.1 ∈ en.map fun p => g.nm p.1 := by rw [← kr_keys rb]; exact List.mem_map.mpr ⟨y, hy, rfl⟩
      obtain ⟨p, hp, e⟩ := List.mem_map.mp this
      rw [← e]
      refine E.fn.locs _ (k3 _ ?_)
      rw [← binds_keys hbi]
      exact List.mem_map.mpr ⟨p, hp, rfl⟩
    · rw [callEnv_eq E c W S]
      refine go [] h₁ _ (callee_here H K _ hns hk₁ (fun x v e => ?_) (fun b hb => nomatch hb) List.nodup_nil)
      obtain ⟨val, m1, m2, m3⟩ := kr_look rb e
      refine .inl ⟨k3 x (by rw [← binds_keys hbi]; exact m3), val, ?_, m2⟩
      exact lookup_of_mem (by rw [List.map_reverse]; exact List.pairwise_reverse.mpr (nb.imp Ne.symm)) (List.mem_reverse.mpr m1)
  · obtain ⟨bs, hB, rb⟩ := k3 W l en vs hbi rv
    have nb : (bs.map (·.1)).Nodup := by rw [kr_keys rb]; exact nd
    have keyIn : ∀ y ∈ bs, ∃ x ∈ F.ps, g.nm x = y.1 := fun y hy => by
      have : y.1 ∈ en.map fun p => g.nm p.1 := by rw [← kr_keys rb]; exact List.mem_map.mpr ⟨y, hy, rfl⟩
      obtain ⟨p, hp, e⟩ := List.mem_map.mp this
      exact ⟨p.1, by rw [← binds_keys hbi]; exact List.mem_map.mpr ⟨p, hp, rfl⟩, e⟩
    refine codeAny_call_cells (fd := fd) (body := body) room (X _ _ ho) rfl hlim (codeRec_of X E.code) E.bdy hB E.cl (fun y hy => ?_) (fun s₁ Y => ?_) E.co E.gen E.fn.kind
    · obtain ⟨x, hx, e⟩ := keyIn y hy
      rw [← e]
      rcases k1 x hx with q | q
      · exact .inl (E.fn.locs x q)
      · exact .inr ⟨E.fn.cel x q, k2 x q _⟩
    · rw [callEnvC_eq E c W S] at Y ⊢
      obtain ⟨h₁, tk, rfl, _⟩ := Y.done
      refine go _ h₁ tk (callee_here H K tk Y.toInCall.ns Y.toInCall.keep (fun x v e => ?_) (fun b hb => ?_) ?_)
      · obtain ⟨val, m1, m2, m3⟩ := kr_look rb e
        rw [binds_keys hbi] at m3
        rcases k1 x m3 with q | q
        · exact .inl ⟨q, val, bindL_ok nb m1 (E.fn.locs x q), m2⟩
        · obtain ⟨ad, had⟩ := Option.isSome_iff_exists.mp (k2 x q S.heap.objs.size)
          refine .inr ⟨q, ad, val, had, ?_, m2⟩
          have := Y.cell (g.nm x) ad had
          rw [bindC_ok nb m1 (by show fd.scope.names.lookup (g.nm x) ≠ _; rw [E.fn.cel x q]; decide)] at this
          exact this
      · obtain ⟨p, hp, e⟩ := List.mem_map.mp hb
        subst e
        have h1 := Y.above p.1 p.2 hp
        obtain ⟨o, ho, _⟩ := Y.cell p.1 p.2 (lookup_of_mem (k5 _) hp)
        exact ⟨h1, o, ho⟩
      · exact (List.pairwise_map.mpr Y.apart)
end Mine
namespace Mine
open PySem PySem.W PySem.Calls PyProof.Rows
variable {g : Gx} {G : Cfg} {c : FC} {d : Nat} {W : Wd} {s : St} {S : Shared}
noncomputable abbrev frs (c : FC) : List Addr := (c.env :: c.outer).filterMap (·.frame)
theorem mem_frs {c : FC} {b : Addr} : b ∈ frs c ↔ b = c.L ∨ ∃ env ∈ c.outer, env.frame = some b := by
  show b ∈ (c.env :: c.outer).filterMap (·.frame) ↔ _
  rw [List.mem_filterMap]
  constructor
  · rintro ⟨env, he, q⟩
    rcases List.mem_cons.mp he with rfl | he
    · exact .inl (Option.some.inj q).symm
    · exact .inr ⟨env, he, q⟩
  · rintro (rfl | ⟨env, he, q⟩)
    · exact ⟨c.env, .head _, rfl⟩
    · exact ⟨env, .tail _ he, q⟩
theorem own_not_frame (K : FOK g c) (H : Here g c W s S) {b : Addr} (hb : b ∈ allA c W) : b ∉ frs c := fun q => by
  obtain ⟨x, _⟩ := H.own b hb
  rcases mem_frs.mp q with rfl | ⟨env, he, q⟩
  · exact x.1 rfl
  · obtain ⟨L₁, o₁, e1, e2⟩ := PyProof.Rows.funFrames_in K.frames env he
    rw [q] at e1; cases e1
    rw [x.2.1] at e2; cases e2
theorem fly_move (GO : GOK g G) {h₂ : Heap} (sl : Slt c.outer c.h₀ h₂) (K₂ : FOK g (c.at h₂)) (H₂ : Here g (c.at h₂) W s S) {n : Nat} {C : Addr} {l : En} (x1 : s.get n = some (.inst C l)) (x2 : g.isX C = true) {p : Addr × Option Addr} (hp : W[n]? = some p) {h' : Heap}
    (k1 : ∀ b o, (b ∈ allA c W ∨ (h₂.get? b).isSome = true) → b ∉ frs c → b ≠ p.1 → S.heap.get? b = some o → h'.get? b = some o) (k2 : ∀ b o, b ∈ frs c → S.heap.get? b = some o → ∃ sl, h'.get? b = some { o with slots := sl })
    {vs' : Array Value} {sl' : Array (Option Value)} (k3 : h'.get? p.1 = some ⟨.ref C, p.2, .fields vs', sl'⟩) (k4 : 1 < vs'.size) {T : Addr} {oT : Obj} {ts : Array Value} (t1 : vs'[1]? = some (.ref T)) (t2 : T ∉ allA c W) (t3 : T ≠ c.L) (t4 : h₂.get? T = none) (t5 : g.base.objs.size ≤ T) (t6 : h'.get? T = some oT) (t7 : oT.data = .fields ts) (t8 : 3 < ts.size) (tk : Nat) :
    FlyB g true c W s n (.ref p.1) { S with heap := h', toks := tk } := by
  obtain ⟨m, Fr₂, E₂⟩ := H₂.fr
  have k3' : ∀ b o, (restr h₂ h').get? b = some o → h'.get? b = some o := fun b o e => by
    rw [restr_get] at e
    split at e
    · exact e
    · cases e
  have d3 : ∀ b, h₂.get? b = none → (restr h₂ h').get? b = none := fun b e => by rw [restr_get, e]; rfl
  have dom : ∀ b o, h₂.get? b = some o → (restr h₂ h').get? b = h'.get? b := fun b o e => by rw [restr_get, e]; rfl
  have pe : h₂.get? p.1 = none := (H₂.own _ (mem_all (mem_adr hp))).1.2.1
  have npe : ∀ b o, h₂.get? b = some o → b ≠ p.1 := fun b o e q => by rw [q, pe] at e; cases e
  have fin : ∀ b o, h₂.get? b = some o → ∃ q, h'.get? b = some { o with slots := q } ∧ (b ∉ frs c → h'.get? b = some o) := fun b o e => by
    have eS := Fr₂.keep b o e
    by_cases hb : b ∈ frs c
    · obtain ⟨q, h⟩ := k2 b o hb eS
      exact ⟨q, h, fun h => (h hb).elim⟩
    · have := k1 b o (.inr (by rw [e]; rfl)) hb (npe b o e) eS
      exact ⟨o.slots, this, fun _ => this⟩
  have notL : ∀ b o, h₂.get? b = some o → b ≠ c.L := fun b o e q => by
    subst q
    exact absurd (Nat.lt_of_lt_of_le (lt_of_get e) Fr₂.above) (Nat.lt_irrefl _)
  have s3 : Slt c.outer c.h₀ (restr h₂ h') := by
    refine ⟨(restr_size _ _).trans sl.1, fun b o e => ?_, fun b e => d3 b (sl.2.2 b e)⟩
    obtain ⟨q, e1, e2⟩ := sl.2.1 b o e
    obtain ⟨q', f1, f2⟩ := fin b _ e1
    rw [dom b _ e1]
    refine ⟨q', f1, fun hn => ?_⟩
    have e3 := e2 hn
    refine (fin b o e3).choose_spec.2 fun hb => ?_
    rcases mem_frs.mp hb with q | ⟨env, he, q⟩
    · exact notL b o e3 q
    · exact hn env he q
  have st : g.base.StaysIn (restr h₂ h') := fun b o e => by
    have e2 := K₂.stays b o e
    rw [dom b o e2]
    refine (fin b o e2).choose_spec.2 fun hb => ?_
    rcases mem_frs.mp hb with q | ⟨env, he, q⟩
    · exact notL b o e2 q
    · have : ∀ {l : List Env}, h₂.FunFrames g.base l → ∀ env ∈ l, ∀ L, env.frame = some L → g.base.get? L = none := by
        intro l
        induction l with
        | nil => intro _ env he; cases he
        | cons env' l ih =>
          rintro ⟨_, ⟨L, o, h1, h2, _⟩, hr⟩ env he L' hL'
          rcases List.mem_cons.mp he with rfl | he
          · rw [hL'] at h1; cases h1; exact h2
          · exact ih hr env he L' hL'
      rw [this K₂.frames env he b q] at e; cases e
  have kOwn : ∀ b ∈ allA c W, b ≠ p.1 → h'.get? b = S.heap.get? b := fun b hb ne => by
    obtain ⟨_, o, e⟩ := H₂.own b hb
    rw [e]
    exact k1 b o (.inl hb) (own_not_frame K₂ H₂ hb) ne e
  have F3 : Fr (restr h₂ h') c.L h' m := by
    obtain ⟨oL, es, ep, a1, a2, a3⟩ := Fr₂.ns
    obtain ⟨q, e⟩ := k2 c.L oL (mem_frs.mpr (.inl rfl)) a1
    exact ⟨⟨_, es, ep, e, a2, a3⟩, k3', by rw [restr_size]; exact Fr₂.above⟩
  obtain ⟨p', hp', _, r⟩ := H₂.obj n _ x1
  rw [hp] at hp'
  cases hp'
  have ndp : ∀ dd, p.2 = some dd → dd ≠ p.1 := fun dd e q => by
    have nd := (List.nodup_append.mp H₂.nodup).2.1
    have := (List.pairwise_flatMap.mp nd).1 p (List.mem_of_getElem? hp)
    rw [e, q] at this
    simp at this
  have pk : ∀ dd, p.2 = some dd → h'.get? dd = S.heap.get? dd := fun dd e => kOwn dd (mem_all (mem_adr2 hp e)) (ndp dd e)
  have r' : OR g W p h' (.inst C l) := by
    rcases r with ⟨q, _⟩ | ⟨_, vs, sl, a, b, z⟩
    · rw [x2] at q; cases q
    · refine .inr ⟨x2, vs', sl', k3, ?_, z⟩
      rcases b with b | ⟨dd, es, nn, e, b, r⟩
      · exact .inl b
      · exact .inr ⟨dd, es, nn, e, (pk dd e).trans b, r⟩
  have H3 := Here.updAt (h₃ := restr h₂ h') (s' := s) H₂ d3 F3 E₂ hp (fun b hb nb => kOwn b hb fun q => nb (by rw [q]; exact .head _)) (fun b hb => ?_) (H₂.okO x1) r' rfl rfl (fun i q e => ?_) tk
  · refine ⟨restr h₂ h', s3, ⟨K₂.law, K₂.big, st, ?_, GO.kin.keeps st, ?_, K₂.fn⟩, H3, ⟨C, l, x1, x2⟩, p, _, vs', hp, rfl, k3, rfl, k4, .inr ⟨T, oT, ts, t1, t2, t3, d3 T t4, t5, t6, t7, t8⟩⟩
    · exact K₂.frames.of_keeps fun b o e _ => by obtain ⟨q, h1, _⟩ := fin b o e; exact ⟨_, (dom b o e).trans h1, rfl⟩
    · obtain ⟨pp, loose, mg, mb, T⟩ := GO.top
      exact ⟨pp, loose, mg, mb, T.keeps st⟩
  · rcases List.mem_cons.mp hb with rfl | hb
    · exact ⟨_, k3⟩
    · have e : p.2 = some b := by
        cases q : p.2 with
        | none => rw [q] at hb; cases hb
        | some dd => rw [q] at hb; simp at hb; rw [hb]
      rw [pk b e]
      exact (H₂.own b (mem_all (mem_adr2 hp e))).2
  · by_cases q2 : i = n
    · subst q2
      rw [x1] at e
      cases e
      exact .inl ⟨rfl, rfl⟩
    · exact .inr ⟨q2, e⟩
theorem frames_here (K : FOK g c) (H : Here g c W s S) : S.heap.FunFrames g.base (c.env :: c.outer) := by
  obtain ⟨m, Fr₀, E⟩ := H.fr
  have hnew : g.base.get? c.L = none := by
    cases hq : g.base.get? c.L with
    | none => rfl
    | some o => exact absurd (Nat.lt_of_lt_of_le (Heap.lt_size hq) K.big) (Nat.lt_irrefl _)
  obtain ⟨oL, es, ep, hL, hd, _⟩ := Fr₀.ns
  refine ⟨?_, ⟨c.L, oL, rfl, hnew, hL, fun vs q => by rw [hd] at q; cases q⟩, K.frames.of_keeps fun b o e _ => ⟨o, Fr₀.keep b o e, rfl⟩⟩
  show c.scope.kind ≠ .module
  rw [K.fn.kind]; decide
theorem flight_ok (GO : GOK g G) {n : Nat} {e : Value} {A : Around} {Q : Unit → Shared → Prop} {E : Value → Shared → Prop} {f : Option Addr} (X : FlyB g true c W s n e S) (h : ∀ S', FlyB g true c W s n e S' → Q () S') : wpAny (model g.prog g.w) A (setFlight e f) Q E S := by
  obtain ⟨h₂, sl, K₂, H₂, ⟨C, l, x1, x2⟩, p, o, vs, b1, b2, b3, b4, b5, b6⟩ := X
  rcases b6 with ⟨q, _⟩ | ⟨T, oT, ts, u1, u2, u3, u4, u5, u6, u7, u8⟩
  · cases q
  subst b2
  obtain ⟨p', hp', _, r⟩ := H₂.obj n _ x1
  rw [b1] at hp'
  cases hp'
  rcases r with ⟨q, _⟩ | ⟨_, vs2, sl2, r1, r2⟩
  · rw [x2] at q; cases q
  rw [b3] at r1
  cases r1
  cases b4
  have hTp : T ≠ p.1 := fun q => u2 (q ▸ mem_all (mem_adr b1))
  have ft : T ∉ frs c := fun q => by
    rcases mem_frs.mp q with q | ⟨env, he, q⟩
    · exact u3 q
    · obtain ⟨L₁, o₁, e1, e2⟩ := PyProof.Rows.funFrames_in K₂.frames env he
      rw [q] at e1; cases e1
      have u4 : h₂.get? T = none := u4
      have e2 : h₂.get? T = some o₁ := e2
      rw [u4] at e2; cases e2
  unfold setFlight
  refine wpAny_bind (wpAny_field b3 rfl u1 ?_)
  rw [if_pos (show (Value.ref T != Value.none) = true from by simp)]
  refine wpAny_setField u6 u7 u8 (h _ ?_)
  have dT := Obj.data_mapFields u7 (·.setIfInBounds 3 (f.elim Value.none fun f => rawInt f))
  have eT := Heap.get?_update_self (Obj.mapFields (·.setIfInBounds 3 (f.elim Value.none fun f => rawInt f))) u6 (Obj.isFreed_of_fields dT)
  have oth : ∀ b, b ≠ T → (S.heap.update T (Obj.mapFields (·.setIfInBounds 3 (f.elim Value.none fun f => rawInt f)))).get? b = S.heap.get? b := fun b hb => Heap.get?_update_other _ _ (Ne.symm hb)
  refine fly_move GO sl K₂ H₂ x1 x2 b1 (fun b o hd hf ne e => ?_) (fun b o hf e => ?_) (vs' := vs) (sl' := sl2) ((oth _ (Ne.symm hTp)).trans b3) b5 u1 u2 u3 u4 u5 eT dT (by simpa using u8) S.toks
  · refine (oth b fun q => ?_).trans e
    rcases hd with hd | hd
    · exact u2 (q ▸ hd)
    · have u4 : h₂.get? T = none := u4
      rw [q, u4] at hd; cases hd
  · exact ⟨o.slots, (oth b fun q => ft (q ▸ hf)).trans e⟩
theorem entry_ok (GO : GOK g G) {h₂ : Heap} (sl : Slt c.outer c.h₀ h₂) (K₂ : FOK g (c.at h₂)) (H₂ : Here g (c.at h₂) W s S) {n : Nat} {C : Addr} {l : En} (x1 : s.get n = some (.inst C l)) (x2 : g.isX C = true) {p : Addr × Option Addr} (hp : W[n]? = some p) {vs : Array Value} {sl2 : Array (Option Value)}
    (b3 : S.heap.get? p.1 = some ⟨.ref C, p.2, .fields vs, sl2⟩) (b5 : 1 < vs.size) {A : Around} {Q : Unit → Shared → Prop} {E : Value → Shared → Prop} {head : Value} {hadNext : Bool} (hfr : A.frames = some (c.env :: c.outer)) {hh : Heap} (sz : hh.objs.size = S.heap.objs.size)
    (q1 : ∀ b o, (b ∈ allA c W ∨ (h₂.get? b).isSome = true ∨ b ∈ frs c) → S.heap.get? b = some o → hh.get? b = some o) (h : ∀ S', FlyB g true c W s n (.ref p.1) S' → Q () S') :
    wpAny (model g.prog g.w) A (do let a ← frameOf c.env; let pl ← entryPlaceOf c.L hadNext; let b ← EntryCells.newEntry head a .none (rawInt c.L) .none pl; setField (.ref p.1) 1 b) Q E { S with heap := hh } := by
  have fS := frames_here K₂ H₂
  have fh : hh.FunFrames g.base (c.env :: c.outer) := by
    have : ∀ {l : List Env}, (∀ env ∈ l, env ∈ c.env :: c.outer) → S.heap.FunFrames g.base l → hh.FunFrames g.base l := by
      intro l
      induction l with
      | nil => intro _ _; trivial
      | cons env l ih =>
        rintro hs ⟨hk, ⟨L, o, e1, e2, e3, e4⟩, hr⟩
        exact ⟨hk, ⟨L, o, e1, e2, q1 L o (.inr (.inr (List.mem_filterMap.mpr ⟨env, hs env (.head _), e1⟩))) e3, e4⟩, ih (fun env he => hs env (.tail _ he)) hr⟩
    exact this (fun _ h => h) fS
  have pA : p.1 ∈ allA c W := mem_all (mem_adr hp)
  have pf : p.1 ∉ frs c := own_not_frame K₂ H₂ pA
  have e0 := q1 p.1 _ (.inl pA) b3
  obtain ⟨m, Fr₂, E₂⟩ := H₂.fr
  refine wpAny_bind (wpAny_frameOf_fun hfr fh rfl fun h₁ hs₁ => ?_)
  refine wpAny_bind (wpAny_entryPlaceOf fun pl hpl => ?_)
  unfold EntryCells.newEntry newFields
  refine wpAny_bind (wpAny_newObj_type ?_ (hpl.sizeOk5 _ _ _ _ _))
  have he₁ : h₁.get? p.1 = some ⟨.ref C, p.2, .fields vs, sl2⟩ := (hs₁.2.1 p.1 pf).trans e0
  have he₂ := Heap.get?_push_of_some (h := h₁) { cls := .type "traceback", dict := none, data := .fields ([head, .ref c.L, .none, rawInt c.L, .none] ++ (if pl.isEmpty then List.replicate 6 Value.none else pl)).toArray } he₁
  refine wpAny_setField he₂ rfl b5 (h _ ?_)
  have hsz : h₁.objs.size = S.heap.objs.size := hs₁.1.trans sz
  have lt : ∀ b ∈ allA c W, b < h₁.objs.size := fun b hb => by obtain ⟨_, o, e⟩ := H₂.own b hb; rw [hsz]; exact lt_of_get e
  have hTp : h₁.objs.size ≠ p.1 := Nat.ne_of_gt (lt _ pA)
  have he₃ := Heap.get?_update_self (Obj.mapFields (·.setIfInBounds 1 (Value.ref h₁.objs.size))) he₂ rfl
  have keep : ∀ b o, b ≠ p.1 → h₁.get? b = some o → ((h₁.push { cls := .type "traceback", dict := none, data := .fields ([head, .ref c.L, .none, rawInt c.L, .none] ++ (if pl.isEmpty then List.replicate 6 Value.none else pl)).toArray }).update p.1 (Obj.mapFields (·.setIfInBounds 1 (Value.ref h₁.objs.size)))).get? b = some o := fun b o ne e => by
    rw [Heap.get?_update_other _ _ (Ne.symm ne)]
    exact Heap.get?_push_of_some _ e
  have hT₃ := (Heap.get?_update_other (h₁.push { cls := .type "traceback", dict := none, data := .fields ([head, .ref c.L, .none, rawInt c.L, .none] ++ (if pl.isEmpty then List.replicate 6 Value.none else pl)).toArray }) (Obj.mapFields (·.setIfInBounds 1 (Value.ref h₁.objs.size))) (Ne.symm hTp)).trans (Heap.get?_push_size h₁ rfl)
  refine fly_move GO sl K₂ H₂ x1 x2 hp (fun b o hd hf ne e => keep b o ne ((hs₁.2.1 b hf).trans (q1 b o (hd.imp id .inl) e))) (fun b o hf e => ?_) (vs' := vs.setIfInBounds 1 (Value.ref h₁.objs.size)) (sl' := sl2) he₃ (by simpa using b5) (by simp [b5]) (fun q => Nat.lt_irrefl _ (lt _ q)) ?_ ?_ ?_ hT₃ rfl
    (by simp only [List.size_toArray, List.length_append, List.length_cons, List.length_nil]; omega) S.toks
  · obtain ⟨q, e2⟩ := hs₁.2.2 b o (q1 b o (.inr (.inr hf)) e)
    exact ⟨q, keep b _ (fun z => pf (z ▸ hf)) e2⟩
  · have := Fr₂.ns.lt
    have : c.L < S.heap.objs.size := this
    rw [hsz]; exact Nat.ne_of_gt this
  · cases q : h₂.get? h₁.objs.size with
    | none => rfl
    | some o =>
      have := lt_of_get (Fr₂.keep _ _ q)
      rw [hsz] at this
      exact absurd this (Nat.lt_irrefl _)
  · rw [hsz]; exact K₂.bigS Fr₂
theorem note_ok (GO : GOK g G) {n : Nat} {e : Value} {A : Around} {Q : Unit → Shared → Prop} {E : Value → Shared → Prop} (O : AOK c d A) (X : FlyB g false c W s n e S) (h : ∀ S', FlyB g true c W s n e S' → Q () S') : wpAny (model g.prog g.w) A (noteFrame e c.env) Q E S := by
  obtain ⟨h₂, sl, K₂, H₂, ⟨C, l, x1, x2⟩, p, o, vs, b1, b2, b3, b4, b5, b6⟩ := X
  subst b2
  obtain ⟨p', hp', _, r⟩ := H₂.obj n _ x1
  rw [b1] at hp'
  cases hp'
  rcases r with ⟨q, _⟩ | ⟨_, vs2, sl2, r1, r2⟩
  · rw [x2] at q; cases q
  rw [b3] at r1
  cases r1
  cases b4
  unfold noteFrame
  show wpAny _ A (do
    let head ← field (.ref p.1) 1
    if head != .none then
      if (← field head 3) == rawInt c.L then return
      setField head 3 .none
    setField (.ref p.1) 1 (← EntryCells.newEntry head (← frameOf c.env) .none (rawInt c.L) .none (← entryPlaceOf c.L (head != .none)))) Q E S
  rcases b6 with ⟨_, b6⟩ | ⟨T, oT, ts, u1, u2, u3, u4, u5, u6, u7, u8⟩
  · refine wpAny_bind (wpAny_field b3 rfl b6 ?_)
    rw [if_neg (by decide)]
    exact entry_ok GO sl K₂ H₂ x1 x2 b1 b3 b5 O.frames rfl (fun b o _ e => e) h
  · have hTp : T ≠ p.1 := fun q => u2 (q ▸ mem_all (mem_adr b1))
    have u4' : h₂.get? T = none := u4
    have ft : T ∉ frs c := fun q => by
      rcases mem_frs.mp q with q | ⟨env, he, q⟩
      · exact u3 q
      · obtain ⟨L₁, o₁, e1, e2⟩ := PyProof.Rows.funFrames_in K₂.frames env he
        rw [q] at e1; cases e1
        have e2 : h₂.get? T = some o₁ := e2
        rw [u4'] at e2; cases e2
    refine wpAny_bind (wpAny_field b3 rfl u1 ?_)
    rw [if_pos (show (Value.ref T != Value.none) = true from by simp)]
    obtain ⟨x3, h3⟩ : ∃ x, ts[3]? = some x := ⟨ts[3], by simp [u8]⟩
    refine wpAny_bind (wpAny_field u6 u7 h3 ?_)
    by_cases q : (x3 == rawInt c.L) = true
    · rw [if_pos q]
      exact wpAny_pure (h S ⟨h₂, sl, K₂, H₂, ⟨C, l, x1, x2⟩, p, _, vs, b1, rfl, b3, rfl, b5, .inr ⟨T, oT, ts, u1, u2, u3, u4, u5, u6, u7, u8⟩⟩)
    · rw [if_neg q]
      refine wpAny_bind (wpAny_setField u6 u7 u8 ?_)
      have oth : ∀ b, b ≠ T → (S.heap.update T (Obj.mapFields (·.setIfInBounds 3 Value.none))).get? b = S.heap.get? b := fun b hb => Heap.get?_update_other _ _ (Ne.symm hb)
      refine entry_ok GO sl K₂ H₂ x1 x2 b1 b3 b5 O.frames (by simp [Heap.update]) (fun b o hd e => (oth b fun z => ?_).trans e) h
      rcases hd with hd | hd | hd
      · exact u2 (z ▸ hd)
      · rw [z, u4'] at hd; cases hd
      · exact ft (z ▸ hd)
theorem xl_ok (GO : GOK g G) : XL g where
  note O X h := note_ok GO O X h
  leave O X h := by
    unfold «leaving»
    exact wpAny_bind (note_ok GO O X fun S' X' => flight_ok GO X' h)
  came X h := by
    have X₀ := X
    obtain ⟨h₂, sl, K₂, H₂, ⟨C, l, x1, x2⟩, p, o, vs, b1, b2, b3, b4, b5, b6⟩ := X
    rcases b6 with ⟨q, _⟩ | ⟨T, oT, ts, u1, u2⟩
    · cases q
    subst b2
    unfold cameBackBy
    refine wpAny_bind (wpAny_field b3 b4 u1 ?_)
    rw [if_neg (show ¬ (Value.ref T == Value.none) = true from by simp)]
    exact flight_ok GO X₀ h
  flight X h := flight_ok GO X h
end Mine
namespace Mine
open PySem PySem.W PySem.Calls PyProof.Rows
section
variable {prog : Program} {w : World} {A : Around} {E : Value → Shared → Prop} {s : Shared}
theorem end_range {it : Addr} {x left step : Int} {Q : Option Value → Shared → Prop} (hh : A.handled = none) (hit : IsRangeIter s.heap it x left step) (hleft : left ≤ 0)
    (hQ : ∀ h', (∃ o, h'.get? it = some o) → (∀ b o, b ≠ it → s.heap.get? b = some o → h'.get? b = some o) → Q none { s with heap := h' }) : wpAny (model prog w) A (pyNext (.ref it)) Q E s := by
  have hT : s.TypeIs (.ref it) "range_iterator" := ⟨_, hit, rfl⟩
  unfold pyNext
  refine wpAny_bind (wpAny_attempt (wpAny_callSpecial?_slot (name := Str.ofString "__next__") hT F.slot_range_iterator_next
    (wpAny_call_entry F.slot_range_iterator_next hT F.entry_range_iterator_next ?_ (F.args_range_iterator_next_1 _))))
  show wpAny _ _ (field (.ref it) 0 >>= _) _ _ s
  refine wpAny_bind (wpAny_field hit rfl (x := rawInt x) rfl ?_)
  show wpAny _ _ (field (.ref it) 1 >>= _) _ _ s
  refine wpAny_bind (wpAny_field hit rfl (x := rawInt left) rfl ?_)
  show wpAny _ _ (field (.ref it) 2 >>= _) _ _ s
  refine wpAny_bind (wpAny_field hit rfl (x := rawInt step) rfl ?_)
  show wpAny _ _ (if left ≤ 0 then _ else _) _ _ s
  rw [if_pos hleft]
  refine wpAny_bind (wpAny_rule ?_)
  refine wpAny_bind ?_
  show wpAny _ _ (newExc (.type "StopIteration") [] >>= _) _ _ _
  refine wpAny_bind ?_
  simp only [newExc, newTuple]
  refine wpAny_bind (wpAny_newObj_type ?_ (by size_fits))
  refine wpAny_bind (m := firstArgMember _ _) (wpAny_of_eq (a := Value.none) (by first | rfl | (simp only [firstArgMember]; rfl)) ?_)
  refine wpAny_newObj_type ?_ (by size_fits)
  simp only [raiseNew]
  refine wpAny_bind (wpAny_handled ?_)
  rw [show A.in1.handled = none from hh]
  refine wpAny_bind (wpAny_pure (wpAny_throw ?_))
  refine wpAny_bind (wpAny_isInstance (T := "StopIteration") (b := true) ⟨_, Heap.get?_push_size _ rfl, rfl⟩ isSubtype_stop ?_)
  exact wpAny_pure (hQ _ ⟨_, Heap.get?_push_of_some _ (Heap.get?_push_of_some _ (hit))⟩ fun b o ne e => Heap.get?_push_of_some _ (Heap.get?_push_of_some _ (e)))
theorem end_tup {it t : Addr} {i : Nat} {items : Array Value} {Q : Option Value → Shared → Prop} (hh : A.handled = none) (hit : IsTupIter s.heap it t i) (ht : IsTup s.heap t items) (hx : items[i]? = none)
    (hQ : ∀ h', (∃ o, h'.get? it = some o) → (∀ b o, b ≠ it → s.heap.get? b = some o → h'.get? b = some o) → Q none { s with heap := h' }) : wpAny (model prog w) A (pyNext (.ref it)) Q E s := by
  obtain ⟨o, ho, hc, hd⟩ := id hit
  obtain ⟨ol, hol, _, nl, hdl⟩ := ht
  unfold pyNext
  refine wpAny_bind (wpAny_attempt (wpAny_callSpecial?_slot (name := Str.ofString "__next__") hit.typeIs slot_tupleiter_next
    (wpAny_call_entry slot_tupleiter_next hit.typeIs entry_tupleiter_next ?_ (args_tupleiter_next _))))
  show wpAny _ _ (field (.ref it) 0 >>= _) _ _ s
  refine wpAny_bind (wpAny_field ho hd (x := .ref t) rfl ?_)
  show wpAny _ _ (if (Value.ref t == Value.none) = true then _ else _) _ _ s
  rw [if_neg (show ¬ ((Value.ref t == Value.none) = true) from Bool.false_ne_true)]
  show wpAny _ _ (field (.ref it) 1 >>= _) _ _ s
  refine wpAny_bind (wpAny_field ho hd (x := .int i 0) rfl ?_)
  show wpAny _ _ (seqItems? (.ref t) >>= _) _ _ s
  refine wpAny_bind (wpAny_seqItems hol hdl ?_)
  simp only [Int.toNat_natCast, hx]
  refine wpAny_bind (wpAny_rule (wpAny_bind (wpAny_setField ho hd (by simp) ?_)))
  show wpAny _ _ (newExc (.type "StopIteration") [] >>= _) _ _ _
  refine wpAny_bind ?_
  simp only [newExc, newTuple]
  refine wpAny_bind (wpAny_newObj_type ?_ (by size_fits))
  refine wpAny_bind (m := firstArgMember _ _) (wpAny_of_eq (a := Value.none) (by first | rfl | (simp only [firstArgMember]; rfl)) ?_)
  refine wpAny_newObj_type ?_ (by size_fits)
  simp only [raiseNew]
  refine wpAny_bind (wpAny_handled ?_)
  rw [show A.in1.handled = none from hh]
  refine wpAny_bind (wpAny_pure (wpAny_throw ?_))
  refine wpAny_bind (wpAny_isInstance (T := "StopIteration") (b := true) ⟨_, Heap.get?_push_size _ rfl, rfl⟩ isSubtype_stop ?_)
  exact wpAny_pure (hQ _ ⟨_, Heap.get?_push_of_some _ (Heap.get?_push_of_some _ (Heap.get?_update_self _ ho (Obj.isFreed_of_fields (Obj.data_mapFields hd _))))⟩ fun b o ne e => Heap.get?_push_of_some _ (Heap.get?_push_of_some _ ((Heap.get?_update_other _ _ (Ne.symm ne)).trans e)))
theorem end_list {it l : Addr} {i : Nat} {items : Array Value} {Q : Option Value → Shared → Prop} (hh : A.handled = none) (hit : s.heap.IsListIter it l i) (hl : s.heap.IsList l items) (hx : items[i]? = none)
    (hQ : ∀ h', (∃ o, h'.get? it = some o) → (∀ b o, b ≠ it → s.heap.get? b = some o → h'.get? b = some o) → Q none { s with heap := h' }) : wpAny (model prog w) A (pyNext (.ref it)) Q E s := by
  obtain ⟨o, ho, hc, hd⟩ := id hit
  obtain ⟨ol, hol, _, nl, hdl⟩ := hl
  unfold pyNext
  refine wpAny_bind (wpAny_attempt (wpAny_callSpecial?_slot (name := Str.ofString "__next__") hit.typeIs slot_listiter_next
    (wpAny_call_entry slot_listiter_next hit.typeIs entry_listiter_next ?_ (args_listiter_next _))))
  show wpAny _ _ (field (.ref it) 0 >>= _) _ _ s
  refine wpAny_bind (wpAny_field ho hd (x := .ref l) rfl ?_)
  show wpAny _ _ (if (Value.ref l == Value.none) = true then _ else _) _ _ s
  rw [if_neg (show ¬ ((Value.ref l == Value.none) = true) from Bool.false_ne_true)]
  show wpAny _ _ (field (.ref it) 1 >>= _) _ _ s
  refine wpAny_bind (wpAny_field ho hd (x := .int i 0) rfl ?_)
  show wpAny _ _ (seqItems? (.ref l) >>= _) _ _ s
  refine wpAny_bind (wpAny_seqItems hol hdl ?_)
  simp only [Int.toNat_natCast, hx]
  refine wpAny_bind (wpAny_rule (wpAny_bind (wpAny_setField ho hd (by simp) ?_)))
  show wpAny _ _ (newExc (.type "StopIteration") [] >>= _) _ _ _
  refine wpAny_bind ?_
  simp only [newExc, newTuple]
  refine wpAny_bind (wpAny_newObj_type ?_ (by size_fits))
  refine wpAny_bind (m := firstArgMember _ _) (wpAny_of_eq (a := Value.none) (by first | rfl | (simp only [firstArgMember]; rfl)) ?_)
  refine wpAny_newObj_type ?_ (by size_fits)
  simp only [raiseNew]
  refine wpAny_bind (wpAny_handled ?_)
  rw [show A.in1.handled = none from hh]
  refine wpAny_bind (wpAny_pure (wpAny_throw ?_))
  refine wpAny_bind (wpAny_isInstance (T := "StopIteration") (b := true) ⟨_, Heap.get?_push_size _ rfl, rfl⟩ isSubtype_stop ?_)
  exact wpAny_pure (hQ _ ⟨_, Heap.get?_push_of_some _ (Heap.get?_push_of_some _ (Heap.get?_update_self _ ho (Obj.isFreed_of_fields (Obj.data_mapFields hd _))))⟩ fun b o ne e => Heap.get?_push_of_some _ (Heap.get?_push_of_some _ ((Heap.get?_update_other _ _ (Ne.symm ne)).trans e)))
end
variable {g : Gx} {G : Cfg} {c : FC} {d : Nat} {W : Wd} {s : St} {S : Shared}
theorem snd_while (XX : XL g) {n : Nat} (Gds : ∀ k, k < n → GoodE g G (runR G k) d) (Gss : ∀ k, k < n → GoodS g G (runR G k) d) (K : FOK g c) {t b : X} {t' : Expr} {b' : List Stmt} {p : Pos} (h1 : ag g.nm t t' = true) (h2 : agSs g.nm b b' = true) :
    Snd g c d (FR g) (exec (.While t' b' [] p) c.env) W s ((runR G n).wh t b c.F s) := by
  intro A S Q Er O H hP
  refine wpAny_While ?_
  refine codeAny_whileLoop (fun k S => k ≤ n ∧ ∃ W' s', Le W W' ∧ Here g c W' s' S ∧ Post g c (FR g) W' ((runR G k).wh t b c.F s') Q Er) ?_ n ⟨Nat.le_refl n, W, s, Le.refl W, H, hP⟩
  rintro k S ⟨hk, W1, s1, l1, H1, hP1⟩
  cases k with
  | zero => exact hP1.elim
  | succ k =>
    have lt : k < n := hk
    have hP1' : Post g c (FR g) W1 (((runR G k).ts t c.F s1).bind fun x s => @Bool.rec (fun _ => Res Fl) (.ok .next s) (((runR G k).ex b c.F s).bind fun y s => whK (runR G k) t b c.F y s) x) Q Er := hP1
    have er : ∀ {W2 : Wd} {s2 : St} {m : Nat} {S' : Shared} {e : Value}, Le W1 W2 → FlyB g false c W2 s2 m e S' → (∀ S'', FlyB g false c W2 s2 m e S'' → Er e S'') →
        notedBy (model g.prog g.w) A c.env (fun e s' => cameBackBy (model g.prog g.w) A c.env Er e s') e S' := fun _ X hE => XX.note O X fun S'' X' => XX.came X' fun S''' X'' => hE S''' X''.weak
    refine (Gds k lt).ts c W1 s1 t t' K h1 A S _ _ O H1 ?_
    cases q : (runR G k).ts t c.F s1 with
    | bad w => rw [q] at hP1'; exact hP1'.elim
    | exc m s2 =>
      rw [q] at hP1'
      intro S' W' e l' X
      exact er l' X fun S'' X' => hP1' S'' W' e l' X'
    | ok x s2 =>
      rw [q, bind_ok] at hP1'
      intro S' W' x' l' H' rx
      have rx : x' = x := rx
      subst rx
      have hP2 := Post.le hP1' l'
      cases x' with
      | false =>
        show wpAny _ A (execs [] c.env) _ _ S'
        exact wpAny_execs_nil (Post.of_ok (b := Fl.next) (R := FR g) hP2 H' rfl)
      | true =>
        have hP2 : Post g c (FR g) W' (((runR G k).ex b c.F s2).bind fun y s => whK (runR G k) t b c.F y s) Q Er := hP2
        show wpAny _ A (execs b' c.env) _ _ S'
        refine (Gss k lt).ex c W' s2 b b' K h2 A S' _ _ O H' ?_
        cases q2 : (runR G k).ex b c.F s2 with
        | bad w => rw [q2] at hP2; exact hP2.elim
        | exc m s3 =>
          rw [q2] at hP2
          intro S2 W2 e l2 X
          exact er (l'.trans l2) X fun S'' X' => hP2 S'' W2 e l2 X'
        | ok fl s3 =>
          rw [q2, bind_ok] at hP2
          intro S2 W2 f l2 H2 rf
          have hP3 := Post.le hP2 l2
          cases fl with
          | next =>
            have rf : f = .next := rf
            subst rf
            exact ⟨k, Nat.lt_succ_self k, Nat.le_of_lt lt, W2, s3, l1.trans (l'.trans l2), H2, hP3⟩
          | cont =>
            have rf : f = .cont := rf
            subst rf
            exact ⟨k, Nat.lt_succ_self k, Nat.le_of_lt lt, W2, s3, l1.trans (l'.trans l2), H2, hP3⟩
          | brk =>
            have rf : f = .brk := rf
            subst rf
            exact Post.of_ok (b := Fl.next) (R := FR g) hP3 H2 rfl
          | ret v =>
            obtain ⟨val, rfl, rv⟩ := rf
            exact Post.of_ok (b := Fl.ret v) (R := FR g) hP3 H2 ⟨val, rfl, rv⟩
end Mine
namespace Mine
open PySem PySem.W PySem.Calls PyProof.Rows
variable {g : Gx} {G : Cfg} {c : FC} {d : Nat} {W : Wd} {s : St} {S : Shared}
theorem Here.upd1 (H : Here g c W s S) {n : Nat} {p : Addr × Option Addr} (hp : W[n]? = some p) {h' : Heap} {o : O} (ex : ∃ o, h'.get? p.1 = some o) (k : ∀ b o, b ≠ p.1 → S.heap.get? b = some o → h'.get? b = some o) (ok : Mine.okO o = true) (r : OR g W p h' o) (tk : Nat) :
    Here g c W (s.set n o) { S with heap := h', toks := tk } := by
  have own := H.own _ (mem_all (mem_adr hp))
  obtain ⟨m, F, E⟩ := H.fr
  have same : ∀ b ∈ allA c W, b ≠ p.1 → h'.get? b = S.heap.get? b := fun b hb ne => by obtain ⟨_, o, e⟩ := H.own b hb; rw [e]; exact k b o ne e
  have F' : Fr c.h₀ c.L h' m := by
    obtain ⟨oL, es, ep, a1, a2⟩ := F.ns
    refine ⟨⟨oL, es, ep, k _ _ (Ne.symm own.1.1) a1, a2⟩, fun b o e => k b o (fun z => ?_) (F.keep b o e), F.above⟩
    rw [z, own.1.2.1] at e; cases e
  refine H.upd (s' := s.set n o) (o := o) F' E hp (fun b hb nb => same b hb fun z => nb (by rw [z]; exact .head _)) (fun b hb => ?_) ok r rfl rfl set_gets tk
  by_cases z : b = p.1
  · rw [z]; exact ex
  · rcases List.mem_cons.mp hb with e | hb
    · exact (z e).elim
    · have ha : b ∈ allA c W := mem_all (List.mem_flatMap.mpr ⟨p, List.mem_of_getElem? hp, .tail _ hb⟩)
      rw [same b ha z]
      exact (H.own b ha).2
theorem folded_no {e : Expr} (h : noSet e = true) (env : Env) (x : Value) : foldedSetIterable e env x = pure x := by
  cases e <;> first | rfl | cases h
theorem snd_iter (K : FOK g c) {v : V} {vv : Value} (rv : VR g W v vv) {o : O} (ho : itOf v s = some o) : Snd g c d (VR g) (pyIter vv) W s (push o s) := by
  intro A S Q Er O H hP
  obtain ⟨m, F, E⟩ := H.fr
  unfold itOf at ho
  split at ho
  · rename_i n
    split at ho
    · rename_i l q
      cases ho
      obtain ⟨p, hp, rfl, vs, k, h1, rx⟩ := H.ofRef rv q
      have tx : IsTup S.heap p.1 vs.toArray := ⟨_, h1, rfl, k, rfl⟩
      refine iter_tuple tx ?_
      refine H.alloc1 K F E hP (Nat.le_refl _) (fun h' e => ⟨p, ?_, _, e, rfl, rfl⟩) _ S.toks (F.push _) (News.push F H.news _)
      rw [List.getElem?_append_left (List.getElem?_eq_some_iff.mp hp).1]; exact hp
    · rename_i q
      cases ho
      obtain ⟨p, hp, rfl, vs, k, h1, rx⟩ := H.ofRef rv q
      refine wpAny_pyIter_list (items := vs.toArray) ⟨_, h1, rfl, k, rfl⟩ ?_
      refine H.alloc1 K F E hP (Nat.le_refl _) (fun h' e => ⟨p, ?_, _, e, rfl, rfl⟩) _ S.toks (F.push _) (News.push F H.news _)
      rw [List.getElem?_append_left (List.getElem?_eq_some_iff.mp hp).1]; exact hp
    · rename_i k q
      cases ho
      obtain ⟨p, hp, rfl, t, u, w, h1⟩ := H.ofRef rv q
      have hk : k ≤ 1000 := Nat.le_of_ble_eq_true (H.okO q)
      have hs : Builtin.Range.small 0 k 1 = true := small_one (by omega) (by omega) (by omega) (by omega)
      refine wpAny_pyIter_range (a := 0) (b := k) (c := 1) h1 hs ?_
      have e : Builtin.Range.rangeSize 0 (k : Int) 1 = (k : Int) := by
        rw [rangeSize_one]
        split <;> omega
      rw [e]
      refine H.alloc1 K F E hP (Nat.le_refl _) (fun h' e => ?_) _ S.toks (F.push _) (News.push F H.news _)
      show IsRangeIter h' _ ((0 : Nat) : Int) ((k : Int) - ((0 : Nat) : Int)) 1
      have e2 : (k : Int) - ((0 : Nat) : Int) = k := by omega
      rw [e2]
      exact e
    · cases ho
  · cases ho
theorem snd_for (GO : GOK g G) (XX : XL g) {n : Nat} (Gd : GoodE g G (runR G n) d) (Gss : ∀ k, k < n → GoodS g G (runR G k) d) (K : FOK g c) {x : Nat} {e b : X} {sp : Pos} {e' : Expr} {b' : List Stmt} {p : Pos} (h0 : noSet e' = true) (h1 : ag g.nm e e' = true) (h2 : agSs g.nm b b' = true) :
    Snd g c d (FR g) (exec (.For (.Name (g.nm x) sp) e' b' [] p) c.env) W s (exStep G (runR G n) (.for_ x e b) c.F s) := by
  intro A S Q Er O H hP
  have hP' : Post g c (FR g) W (@Bool.rec (fun _ => Res Fl) (((runR G n).ev e c.F s).bind fun y s => xFor (runR G n) x b c.F y s) (.bad 90) c.F.bz) Q Er := hP
  cases hb : c.F.bz with
  | true => rw [hb] at hP'; exact hP'.elim
  | false =>
  rw [hb] at hP'
  have hP' : Post g c (FR g) W (((runR G n).ev e c.F s).bind fun y s => xFor (runR G n) x b c.F y s) Q Er := hP'
  have hh : A.handled = none := O.hand hb
  refine wpAny_For ?_ (folded_no h0 _)
  refine (Gd.ev c W s e e' K h1).lift O H hP' fun v s0 W0 vv S0 l0 r0 H0 hP0 => ?_
  unfold xFor at hP0
  split at hP0
  rotate_left
  · exact hP0.elim
  rename_i o ho
  refine (snd_iter (d := d) K r0 ho).lift O H0 hP0 fun itv s1 W1 itval S1 l1 r1 H1 hP1 => ?_
  unfold frGo at hP1
  split at hP1
  rotate_left
  · exact hP1.elim
  rename_i it
  obtain ⟨pit, hpit, rfl⟩ := r1
  have er : ∀ {W2 : Wd} {s2 : St} {m : Nat} {S' : Shared} {e : Value}, FlyB g false c W2 s2 m e S' → (∀ S'', FlyB g false c W2 s2 m e S'' → Er e S'') →
      notedBy (model g.prog g.w) A c.env (fun e s' => cameBackBy (model g.prog g.w) A c.env Er e s') e S' := fun X hE => XX.note O X fun S'' X' => XX.came X' fun S''' X'' => hE S''' X''.weak
  refine codeAny_forLoop (fun k S => k ≤ n ∧ ∃ W' s', Le W1 W' ∧ Here g c W' s' S ∧ Post g c (FR g) W' ((runR G k).fr x it b c.F s') Q Er) ?_ n ⟨Nat.le_refl n, W1, s1, Le.refl W1, H1, hP1⟩
  rintro k S ⟨hk, W2, s2, l2, H2, hP2⟩
  cases k with
  | zero => exact hP2.elim
  | succ k =>
    have lt : k < n := hk
    have hP2 : Post g c (FR g) W2 (frStep (runR G k) x it b c.F s2) Q Er := hP2
    obtain ⟨p2, hp2, ep2⟩ := l2 it pit hpit
    rw [← ep2]
    have turn : ∀ {v : V} {val : Value} {s3 : St} {S3 : Shared}, VR g W2 v val → Here g c W2 s3 S3 → Post g c (FR g) W2 (frTurn (runR G k) x it b c.F v s3) Q Er →
        wpAny (model g.prog g.w) A (assign (.Name (g.nm x) sp) c.env val) (fun _ s₂ => wpAny (model g.prog g.w) A (execs b' c.env) (fun f s₃ => match f with
          | .next | .cont => ∃ m, m < k + 1 ∧ (m ≤ n ∧ ∃ W' s', Le W1 W' ∧ Here g c W' s' s₃ ∧ Post g c (FR g) W' ((runR G m).fr x it b c.F s') Q Er)
          | .brk => Q .next s₃
          | .ret v => Q (.ret v) s₃) (notedBy (model g.prog g.w) A c.env fun e s' => cameBackBy (model g.prog g.w) A c.env Er e s') s₂) (notedBy (model g.prog g.w) A c.env fun e s' => cameBackBy (model g.prog g.w) A c.env Er e s') S3 := by
      intro v val s3 S3 rv H3 hP3
      have hP3' : Post g c (FR g) W2 ((bindV x c.F v s3).bind fun _ s => ((runR G k).ex b c.F s).bind fun y s => frK (runR G k) x it b c.F y s) Q Er := hP3
      refine PyProof.Rows.assign_Name ?_
      refine snd_store (d := d) K GO x rv A S3 _ _ O H3 ?_
      have eb : bindV x c.F v s3 = @Bool.rec (fun _ => Res Unit) (.bad 62) (.ok () { s3 with env := put s3.env x v }) (memN x c.F.locs) := rfl
      cases hm : memN x c.F.locs with
      | false => rw [eb, hm] at hP3'; exact hP3'.elim
      | true =>
        rw [eb, hm] at hP3' ⊢
        have hP3' : Post g c (FR g) W2 (((runR G k).ex b c.F { s3 with env := put s3.env x v }).bind fun y s => frK (runR G k) x it b c.F y s) Q Er := hP3'
        intro S4 W4 _ l4 H4 _
        refine (Gss k lt).ex c W4 _ b b' K h2 A S4 _ _ O H4 ?_
        have hP4 := Post.le hP3' l4
        cases q2 : (runR G k).ex b c.F { s3 with env := put s3.env x v } with
        | bad w => rw [q2] at hP4; exact hP4.elim
        | exc m s5 =>
          rw [q2] at hP4
          intro S5 W5 e l5 X
          exact er X fun S'' X' => hP4 S'' W5 e l5 X'
        | ok fl s5 =>
          rw [q2, bind_ok] at hP4
          intro S5 W5 f l5 H5 rf
          have hP5 := Post.le hP4 l5
          cases fl with
          | next =>
            have rf : f = .next := rf
            subst rf
            exact ⟨k, Nat.lt_succ_self k, Nat.le_of_lt lt, W5, s5, l2.trans (l4.trans l5), H5, hP5⟩
          | cont =>
            have rf : f = .cont := rf
            subst rf
            exact ⟨k, Nat.lt_succ_self k, Nat.le_of_lt lt, W5, s5, l2.trans (l4.trans l5), H5, hP5⟩
          | brk =>
            have rf : f = .brk := rf
            subst rf
            exact Post.of_ok (b := Fl.next) (R := FR g) hP5 H5 rfl
          | ret v =>
            obtain ⟨val, rfl, rv⟩ := rf
            exact Post.of_ok (b := Fl.ret v) (R := FR g) hP5 H5 ⟨val, rfl, rv⟩
    unfold frStep at hP2
    split at hP2
    rotate_left
    · exact hP2.elim
    rename_i kk nn i qit
    obtain ⟨p3, hp3, okit, rit⟩ := H2.obj it _ qit
    rw [hp2] at hp3
    cases hp3
    split at hP2
    · -- over a tuple
      split at hP2
      rotate_left
      · exact hP2.elim
      rename_i l ql
      obtain ⟨q, hq, hit⟩ := rit
      obtain ⟨q', hq', okt, vs, kv, ht, rx⟩ := H2.obj nn _ ql
      rw [hq] at hq'
      cases hq'
      have tx : IsTup S.heap q.1 vs.toArray := ⟨_, ht, rfl, kv, rfl⟩
      unfold frTup at hP2
      split at hP2
      · rename_i v ev
        have ev : l[i]? = some v := ev
        obtain ⟨val, e2, rv⟩ := F2.at rx ev
        refine next_tuple_item hit tx e2 fun h' hit' sb => ?_
        have ex : ∃ o, h'.get? p2.1 = some o := let ⟨o, a, _⟩ := hit'; ⟨o, a⟩
        exact turn rv (Here.upd1 (o := .iter 0 nn (i + 1)) H2 hp2 ex (fun b o ne e => (sb.2 b ne).trans e) okit ⟨q, hq, hit'⟩ S.toks) hP2
      · rename_i ev
        have ev : l[i]? = none := ev
        have e2 : vs.toArray[i]? = none := by
          have := List.getElem?_eq_none_iff.mp ev
          rw [F2.length rx] at this
          simp
          exact this
        refine end_tup hh hit tx e2 fun h' ex k' => wpAny_execs_nil ?_
        exact Post.of_ok (b := Fl.next) (R := FR g) hP2 (Here.upd1 (o := .any) H2 hp2 ex k' rfl trivial S.toks) rfl
    · -- over an empty list
      split at hP2
      rotate_left
      · exact hP2.elim
      rename_i ql
      obtain ⟨q, hq, hit⟩ := rit
      obtain ⟨q', hq', okt, vs, kv, ht, rx⟩ := H2.obj nn _ ql
      rw [hq] at hq'
      cases hq'
      cases rx
      refine end_list (items := #[]) hh hit ⟨_, ht, rfl, kv, rfl⟩ (by simp) fun h' ex k' => wpAny_execs_nil ?_
      exact Post.of_ok (b := Fl.next) (R := FR g) hP2 (Here.upd1 (o := .any) H2 hp2 ex k' rfl trivial S.toks) rfl
    · -- over a range
      rename_i kk' z1 z2
      have hit : IsRangeIter S.heap p2.1 (i : Int) ((nn : Int) - i) 1 := by
        match kk, rit, z1, z2 with
        | 0, _, z1, _ => exact (z1 rfl).elim
        | 1, _, _, z2 => exact (z2 rfl).elim
        | m + 2, rit, _, _ => exact rit
      unfold frRange at hP2
      split at hP2
      · rename_i lk
        rw [natblt, decide_eq_true_iff] at lk
        refine wpAny_pyNext_range_item hit (by omega) fun h' hit' sb => ?_
        have e1 : (i : Int) + 1 = ((i + 1 : Nat) : Int) := by omega
        have e2 : (nn : Int) - (i : Int) - 1 = (nn : Int) - ((i + 1 : Nat) : Int) := by omega
        rw [e1, e2] at hit'
        exact turn (v := .int (Int.ofNat i)) ⟨S.toks, rfl⟩ (Here.upd1 (o := .iter 2 nn (i + 1)) H2 hp2 ⟨_, hit'⟩ (fun b o ne e => (sb.2 b ne).trans e) okit hit' (S.toks + 1)) hP2
      · rename_i lk
        have lk : ¬ i < nn := by
          intro z
          rw [natblt, decide_eq_true z] at lk
          cases lk
        refine end_range hh hit (by omega) fun h' ex k' => wpAny_execs_nil ?_
        exact Post.of_ok (b := Fl.next) (R := FR g) hP2 (Here.upd1 (o := .any) H2 hp2 ex k' rfl trivial S.toks) rfl
end Mine
namespace Mine
open PySem PySem.W PySem.Calls PyProof.Rows
variable {g : Gx} {G : Cfg} {c : FC} {d : Nat} {W : Wd} {s : St} {S : Shared}
theorem passOn_ok (GO : GOK g G) {n : Nat} {e : Value} {A : Around} {Q : Flow → Shared → Prop} {E : Value → Shared → Prop} {what : String} (X : FlyB g true c W s n e S) (h : ∀ S', FlyB g true c W s n e S' → E e S') : wpAny (model g.prog g.w) A (PySem.passOn what e c.env) Q E S := by
  have X₀ := X
  obtain ⟨h₂, sl, K₂, H₂, ⟨C, l, x1, x2⟩, p, o, vs, b1, b2, b3, b4, b5, b6⟩ := X
  rcases b6 with ⟨q, _⟩ | ⟨T, oT, ts, u1, u2⟩
  · cases q
  subst b2
  unfold PySem.passOn
  refine wpAny_bind (wpAny_field b3 b4 u1 ?_)
  rw [if_neg (show ¬ (Value.ref T == Value.none) = true from by simp)]
  exact wpAny_bind (flight_ok GO X₀ fun S' X' => wpAny_throw (h S' X'))
theorem fly_ref {hs : Bool} {n : Nat} {e : Value} (X : FlyB g hs c W s n e S) : ∃ a, e = .ref a := by
  obtain ⟨_, _, _, _, _, p, _, _, _, b2, _⟩ := X
  exact ⟨p.1, b2⟩
theorem isAug_inv {F : Fn} {f : X} (h : isAug G F s f = true) : ∃ k x op v, f = .cons (.aug (.nm k) x op (.cst v)) .nil ∧ ∃ n s' C l, nameV k F s = .ok (.ref n) s' ∧ s.get n = some (.inst C l) ∧ Nat.beq C G.exc = false := by
  unfold isAug at h
  split at h
  · rename_i q _
    obtain ⟨k, x, op, v, rfl⟩ := q
    unfold plainR at h
    split at h
    · rename_i w s' e
      unfold plainV at h
      split at h
      · split at h
        · rename_i C l q
          exact ⟨_, _, _, _, rfl, _, _, C, l, e, q, by simpa using h⟩
        · cases h
      · cases h
    · cases h
  · cases h
theorem runs_aug {k x : Nat} {op : Operator} {v : V} {n : Nat} {F : Fn} (s : St) : (∃ w, (runR G n).ex (.cons (.aug (.nm k) x op (.cst v)) .nil) F s = .bad w) ∨
    (runR G n).ex (.cons (.aug (.nm k) x op (.cst v)) .nil) F s = (nameV k F s).bind fun ov s => (getA ov x s).bind fun a s => (binI op a v s).bind fun w s => (setA G ov x w s).bind fun _ s => .ok .next s := by
  match n with
  | 0 => exact .inl ⟨_, rfl⟩
  | 1 => exact .inl ⟨_, rfl⟩
  | n + 2 =>
    refine .inr ?_
    show ((nameV k F s).bind fun ov s => (getA ov x s).bind fun a s => (binI op a v s).bind fun w s => (setA G ov x w s).bind fun _ s => Res.ok Fl.next s).bind (fun y s => nxt (runR G (n + 1)) .nil F y s) = _
    cases nameV k F s with
    | bad w => rfl
    | exc e s => rfl
    | ok ov s =>
      simp only [bind_ok]
      cases getA ov x s with
      | bad w => rfl
      | exc e s => rfl
      | ok a s =>
        simp only [bind_ok]
        cases binI op a v s with
        | bad w => rfl
        | exc e s => rfl
        | ok w s =>
          simp only [bind_ok]
          cases setA G ov x w s with
          | bad w => rfl
          | exc e s => rfl
          | ok u s => rfl
theorem name_same (K : FOK g c) (H : Here g c W s S) (x : Nat) (pos : Pos) {A : Around} {Q : Value → Shared → Prop} {E : Value → Shared → Prop} {v : V} {s' : St} (hn : nameV x c.F s = .ok v s') (h : ∀ val, VR g W v val → Q val S) : wpAny (model g.prog g.w) A (eval (.Name (g.nm x) pos) c.env) Q E S := by
  obtain ⟨m, F, E'⟩ := H.fr
  unfold nameV at hn
  split at hn
  · rename_i v' e
    cases hn
    rcases E' x _ e with ⟨hl, val, hm, r⟩ | ⟨hc, a, val, ha, hi, r⟩
    · exact wpAny_Name (wpAny_loadName_local K.fn.kind (K.fn.locs x hl) F.ns hm (h _ r)) (K.fn.dbg x)
    · exact wpAny_Name (wpAny_loadName_cell K.fn.kind (K.fn.cel x hc) ha hi (h _ r)) (K.fn.dbg x)
  · split at hn
    · rename_i v' e
      cases hn
      obtain ⟨hk, h'⟩ := K.fn.gl x _ e
      obtain ⟨p, loose, mg, mb, T⟩ := K.top
      rcases h' with ⟨val, h1, r⟩ | ⟨val, h1, h2, h3, r⟩
      · exact Name_function_global K.fn.kind hk (loadGlobal_global (T.g.keeps F.keep) (mg_of K.kin T.g h1) (h _ (r.le (Le.nil W)))) (K.fn.dbg x)
      · exact Name_function_global K.fn.kind hk (loadGlobal_builtin (T.g.keeps F.keep) (mg_none_of K.kin T.g h1) (T.b.keeps F.keep) ((T.builtins _ h3).trans h2) (h _ (r.le (Le.nil W)))) (K.fn.dbg x)
    · cases hn
theorem nameV_state {x : Nat} {F : Fn} {v : V} {s' : St} (h : nameV x F s = .ok v s') : s' = s := by
  unfold nameV at h
  split at h
  · cases h; rfl
  · split at h
    · cases h; rfl
    · cases h
theorem getA_inv {a v : V} {x : Nat} {s' : St} (h : getA a x s = .ok v s') : s' = s ∧ ∃ n C l, a = .ref n ∧ s.get n = some (.inst C l) ∧ look l x = some v := by
  unfold getA at h
  split at h
  · split at h
    · split at h
      · cases h
        exact ⟨rfl, _, _, _, rfl, by assumption, by assumption⟩
      · cases h
    · cases h
  · cases h
theorem binI_inv {op : Operator} {a b v : V} {s' : St} (h : binI op a b s = .ok v s') : s' = s ∧ ∃ i j, a = .int i ∧ b = .int j ∧ ((op = .Add ∧ v = .int (i + j)) ∨ (op = .Sub ∧ v = .int (i - j))) := by
  unfold binI at h
  split at h
  · unfold addI at h
    split at h
    · split at h
      · cases h; exact ⟨rfl, _, _, rfl, rfl, .inl ⟨rfl, rfl⟩⟩
      · cases h
    · cases h
  · unfold bSub at h
    split at h
    · split at h
      · cases h; exact ⟨rfl, _, _, rfl, rfl, .inr ⟨rfl, rfl⟩⟩
      · cases h
    · cases h
  · cases h
theorem setA_inv {n : Nat} {v : V} {x : Nat} {u : Unit} {s' : St} {C : Addr} {l : En} (q : s.get n = some (.inst C l)) (h : setA G (.ref n) x v s = .ok u s') : s' = s.set n (.inst C (put l x v)) ∧ okO (.inst C (put l x v)) = true ∧ ∃ cl, findCl G.cls C = some cl ∧ x ∈ cl.attrs := by
  unfold setA at h
  simp only [q] at h
  split at h
  · rename_i cl ec
    split at h
    · rename_i hm
      rcases setR_cases () n (.inst C (put l x v)) s with ⟨w, e⟩ | ⟨ok, e⟩
      · rw [e] at h; cases h
      · rw [e] at h; cases h
        exact ⟨rfl, ok, cl, ec, (memN_iff _ _).mp hm⟩
    · cases h
  · cases h
theorem getA_noexc {a : V} {x : Nat} {e : Nat} {s' : St} : getA a x s ≠ .exc e s' := by
  intro h
  unfold getA at h
  repeat' split at h
  all_goals cases h
theorem binI_noexc {op : Operator} {a b : V} {e : Nat} {s' : St} : binI op a b s ≠ .exc e s' := by
  intro h
  unfold binI addI bSub at h
  repeat' split at h
  all_goals cases h
theorem setA_noexc {a v : V} {x : Nat} {e : Nat} {s' : St} : setA G a x v s ≠ .exc e s' := by
  intro h
  unfold setA setR at h
  repeat' split at h
  all_goals cases h
theorem ag_nm {nm : Nat → Str} {k : Nat} {e : Expr} (h : ag nm (.nm k) e = true) : ∃ p, e = .Name (nm k) p := by
  cases ag_inv h; exact ⟨_, rfl⟩
theorem ag_cst {nm : Nat → Str} {v : V} {e : Expr} (h : ag nm (.cst v) e = true) : ∃ c k p, e = .Constant c k p ∧ AgC nm v c := by
  have q := ag_inv h
  clear h
  cases q with
  | cst h => exact ⟨_, _, _, rfl, h⟩
theorem aug_inv {nm : Nat → Str} {o e : X} {x : Nat} {op : Operator} {st : Stmt} (h : agS nm (.aug o x op e) st = true) : ∃ o' ap e' p, st = .AugAssign (.Attribute o' (nm x) ap) op e' p ∧ ag nm o o' = true ∧ ag nm e e' = true := by
  have q := agS_inv h
  clear h
  cases q with
  | aug h1 h2 => exact ⟨_, _, _, _, rfl, h1, h2⟩
theorem final_held (GO : GOK g G) {k x : Nat} {op : Operator} {v : V} {ss : List Stmt} (hag : agSs g.nm (.cons (.aug (.nm k) x op (.cst v)) .nil) ss = true) {n m : Nat} {e : Value} {A : Around} {Q Q1 : Flow → Shared → Prop} {E Er : Value → Shared → Prop} (X : FlyB g true c W s m e S)
    {nd : Nat} {sd : St} {Cd : Addr} {ld : En} (hn : nameV k c.F s = .ok (.ref nd) sd) (hd : s.get nd = some (.inst Cd ld)) (hx : Nat.beq Cd G.exc = false)
    (hP : Post g c (FR g) W (((runR G n).ex (.cons (.aug (.nm k) x op (.cst v)) .nil) c.F.busy s).bind fun g s => finX m g s) Q Er)
    (h : ∀ s' S', FlyB g true c W s' m e S' → Post g c (FR g) W (.exc m s') Q Er → Q1 .next S') : wpAny (model g.prog g.w) A (execs ss c.env) Q1 E S := by
  rcases agSs_inv hag with ⟨q, _⟩ | ⟨a, b, st, ss', q, rfl, h1, h2⟩
  · cases q
  cases q
  rcases agSs_inv h2 with ⟨_, rfl⟩ | ⟨_, _, _, _, q, _⟩
  rotate_left
  · cases q
  obtain ⟨o', ap, e', p, rfl, e3, e4⟩ := aug_inv h1
  obtain ⟨np, rfl⟩ := ag_nm e3
  obtain ⟨cc, ck, cp, rfl, e5⟩ := ag_cst e4
  obtain ⟨h₂, sl, K₂, H₂, ⟨C, l, x1, x2⟩, pe, oe, vs, b1, b2, b3, b4, b5, b6⟩ := X
  rcases b6 with ⟨q, _⟩ | ⟨T, oT, ts, u1, u2, u3, u4, u5, u6, u7, u8⟩
  · cases q
  subst b2
  have hnb : nameV k c.F.busy s = .ok (.ref nd) sd := hn
  rcases runs_aug (G := G) (k := k) (x := x) (op := op) (v := v) (n := n) (F := c.F.busy) s with ⟨w, q⟩ | q
  · rw [q] at hP; exact hP.elim
  rw [q, hnb] at hP
  have := nameV_state hn
  subst this
  simp only [bind_ok] at hP
  cases q1 : getA (.ref nd) x sd with
  | bad w => rw [q1] at hP; exact hP.elim
  | exc a b => exact (getA_noexc q1).elim
  | ok va s1 =>
  rw [q1] at hP
  obtain ⟨r1, n', C', l', r2, r3, r4⟩ := getA_inv q1
  cases r2
  rw [hd] at r3
  cases r3
  subst r1
  simp only [bind_ok] at hP
  cases q2 : binI op va v s1 with
  | bad w => rw [q2] at hP; exact hP.elim
  | exc a b => exact (binI_noexc q2).elim
  | ok vw s2 =>
  rw [q2] at hP
  obtain ⟨r5, i, j, r6, r7, r8⟩ := binI_inv q2
  subst r5
  subst r6 r7
  simp only [bind_ok] at hP
  cases q3 : setA G (.ref nd) x vw s2 with
  | bad w => rw [q3] at hP; exact hP.elim
  | exc a b => exact (setA_noexc q3).elim
  | ok u s3 =>
  rw [q3] at hP
  obtain ⟨r9, ok, cl, ec, ma⟩ := setA_inv hd q3
  subst r9
  simp only [bind_ok] at hP
  have hPe : Post g c (FR g) W (.exc m (s2.set nd (.inst Cd (put ld x vw)))) Q Er := hP
  obtain ⟨ecl, CO⟩ := GO.cls _ _ ec
  subst ecl
  have hx' : g.isX cl.addr = false := by rw [GO.exc]; exact hx
  obtain ⟨pd, hpd, okd, rd⟩ := H₂.obj nd _ hd
  rcases rd with ⟨_, dx, es, nn, d1, d2, d3, d4, d5⟩ | ⟨q, _⟩
  rotate_left
  · rw [hx'] at q; cases q
  obtain ⟨g1, g2, attr, g3, g4⟩ := d5 x _ r4
  rcases getL_er GO d4 x with ⟨q, _⟩ | ⟨v', val, q, gl, rval⟩
  · rw [r4] at q; cases q
  rw [r4] at q
  cases q
  obtain ⟨ti, rfl⟩ := rval
  refine wpAny_execs_cons (wpAny_AugAssign_AttributeAny ?_)
  refine name_same K₂ H₂ k np hn fun vo rvo => ?_
  obtain ⟨pd', hpd', rfl⟩ := rvo
  rw [hpd] at hpd'
  cases hpd'
  obtain ⟨m₀, F, E'⟩ := H₂.fr
  refine get_own (n := nn) F K₂.kin ⟨d2, rfl, rfl, d3⟩ g1 g2 g3 g4 gl rfl ?_
  have hc : cc = .int j := by
    cases e5; rfl
  subst hc
  refine wpAny_Constant_int ?_
  have hdx : dx ∈ allA c W := mem_all (mem_adr2 hpd d1)
  have fin : ∀ (w : Int) (t : Tok) (tk : Nat), vw = .int w → wpAny (model g.prog g.w) A (setAttr (.ref pd.1) (g.nm x) (.int w t)) (fun _ => fun s' => wpAny (model g.prog g.w) A (execs [] c.env) Q1 E s') E { S with toks := tk } := by
    intro w t tk hw
    subst hw
    have N : News h₂ c.L S.heap ((dx, dictOf es nn) :: (T, oT) :: led S.heap ((allA c W).filter (· ≠ dx))) := by
      intro q hq
      rcases List.mem_cons.mp hq with rfl | hq
      · exact ⟨d3, (H₂.own _ hdx).1.1, (H₂.own _ hdx).1.2.1⟩
      · rcases List.mem_cons.mp hq with rfl | hq
        · exact ⟨u6, u3, u4⟩
        · obtain ⟨a, b⟩ := mem_led.mp hq
          have := (List.mem_filter.mp a).1
          exact ⟨b, (H₂.own _ this).1.1, (H₂.own _ this).1.2.1⟩
    have U : ∀ od', Upd dx (dictOf es nn) od' ((dx, dictOf es nn) :: (T, oT) :: led S.heap ((allA c W).filter (· ≠ dx))) ((dx, od') :: (T, oT) :: led S.heap ((allA c W).filter (· ≠ dx))) := fun od' => .head fun q hq => by
      rcases List.mem_cons.mp hq with rfl | hq
      · exact fun z => u2 (by have z : T = dx := z; rw [z]; exact hdx)
      · obtain ⟨a, _⟩ := mem_led.mp hq
        simpa using (List.mem_filter.mp a).2
    have r' := putL_er GO d4 x (v := .int w) (val := .int w t) ⟨t, rfl⟩ (tk + 1)
    have len : (putL (g.nm x) (PyData.keyHash g.w.params (g.nm x)) (.str (g.nm x) (tk + 1)) (.int w t) es).length ≤ 1000 := by
      rw [← F2.length r']
      exact szL_le ok
    have is : (getL (g.nm x) es).isSome = true := by rw [gl]; rfl
    have ga := CO.attrs hx' x ma
    refine set_dict (s := { S with toks := tk }) F K₂.kin N ⟨d2, rfl, rfl, d3⟩ rfl CO.setattr (CO.plain hx').1 ga.1 (CO.plain hx').2 is rfl (U _) len fun h' F' N' => wpAny_execs_nil ?_
    have bT := (N' (T, oT) (.tail _ (.head _))).1
    have bd := (N' _ (.head _)).1
    have bo : ∀ b ∈ allA c W, b ≠ dx → h'.get? b = S.heap.get? b := fun b hb ne => by
      obtain ⟨_, o, e⟩ := H₂.own b hb
      rw [e]
      exact (N' (b, o) (.tail _ (.tail _ (mem_led.mpr ⟨List.mem_filter.mpr ⟨hb, by simpa using ne⟩, e⟩)))).1
    have ne1 : pd.1 ≠ dx := by
      intro q
      rw [q, d3] at d2
      cases d2
    have e2 : pd.1 :: pd.2.toList = [pd.1, dx] := by rw [d1]; rfl
    have d2' : h'.get? pd.1 = _ := (bo pd.1 (mem_all (mem_adr hpd)) ne1).trans d2
    have H' := H₂.upd (s' := s2.set nd (.inst cl.addr (put ld x (.int w)))) (o := .inst cl.addr (put ld x (.int w))) F' E' hpd (fun b hb nb => bo b hb fun q => nb (by rw [e2, q]; simp)) (fun b hb => by
        rw [e2] at hb
        rcases List.mem_cons.mp hb with rfl | hb
        · exact ⟨_, d2'⟩
        · rw [List.mem_singleton] at hb
          subst hb
          exact ⟨_, bd⟩) ok
      (.inl ⟨hx', dx, _, _, d1, d2', bd, r', fun y v' ey => by
        rw [look_put] at ey
        by_cases hxy : x = y
        · subst hxy; exact ga.2
        · rw [if_neg hxy] at ey; exact d5 y v' ey⟩) rfl rfl set_gets (tk + 2)
    have nm1 : nd ≠ m := fun q => by
      subst q
      rw [hd] at x1
      cases x1
      rw [hx'] at x2
      cases x2
    have x1' : (s2.set nd (.inst cl.addr (put ld x (.int w)))).get m = some (.inst C l) := by
      show (s2.h.set _ nd).get m = _
      rw [Tr.get_set, if_neg (fun q => nm1 q.1.symm)]
      exact x1
    have pe1 : pe.1 ≠ dx := fun q => by rw [q, d3] at b3; cases b3; cases b4
    exact h _ _ ⟨h₂, sl, K₂, H', ⟨C, l, x1', x2⟩, pe, oe, vs, b1, rfl, (bo _ (mem_all (mem_adr b1)) pe1).trans b3, b4, b5, .inr ⟨T, oT, ts, u1, u2, u3, u4, u5, bT, u7, u8⟩⟩ hPe
  rcases r8 with ⟨r9, r10⟩ | ⟨r9, r10⟩
  · subst r9
    exact PyProof.Rows.iadd_int (fin _ _ _ r10)
  · subst r9
    exact PyProof.Rows.isub_int (fin _ _ _ r10)
theorem snd_fin (GO : GOK g G) (XX : XL g) {n : Nat} (Gs : GoodS g G (runR G n) d) (K : FOK g c) {b f : X} {b' : List Stmt} {f0 : Stmt} {fs : List Stmt} {p : Pos} (h1 : agSs g.nm b b' = true) (h2 : agSs g.nm f (f0 :: fs) = true) :
    Snd g c d (FR g) (exec (.Try b' [] [] (f0 :: fs) p) c.env) W s (exStep G (runR G n) (.fin b f) c.F s) := by
  intro A S Q Er O H hP
  have hP' : Post g c (FR g) W (@Bool.rec (fun _ => Res Fl) (xFin G (runR G n) b f c.F s) (.bad 90) c.F.bz) Q Er := hP
  cases hb : c.F.bz with
  | true => rw [hb] at hP'; exact hP'.elim
  | false =>
  rw [hb] at hP'
  have hP' : Post g c (FR g) W (xFin G (runR G n) b f c.F s) Q Er := hP'
  have er : ∀ {W2 : Wd} {s2 : St} {m : Nat} {S' : Shared} {e : Value}, FlyB g false c W2 s2 m e S' → (∀ S'', FlyB g false c W2 s2 m e S'' → Er e S'') →
      notedBy (model g.prog g.w) A c.env (fun e s' => cameBackBy (model g.prog g.w) A c.env Er e s') e S' := fun X hE => XX.note O X fun S'' X' => XX.came X' fun S''' X'' => hE S''' X''.weak
  refine wpAny_Try_finally ?_
  refine Gs.ex c W s b b' K h1 A S _ _ O H ?_
  unfold xFin at hP'
  cases q : (runR G n).ex b c.F s with
  | bad w => rw [q] at hP'; exact hP'.elim
  | ok fl s1 =>
    rw [q] at hP'
    have hP1 : Post g c (FR g) W (((runR G n).ex f c.F s1).bind fun gg s => finN fl gg s) Q Er := hP'
    intro S1 W1 flow l1 H1 rf
    have plain : wpAny (model g.prog g.w) A (execs (f0 :: fs) c.env) (fun gg s' => match gg with | .next => Q flow s' | gg => Q gg s') (notedBy (model g.prog g.w) A c.env (cameBackBy (model g.prog g.w) A c.env Er)) S1 := by
      refine Gs.ex c W1 s1 f (f0 :: fs) K h2 A S1 _ _ O H1 ?_
      have hP2 := Post.le hP1 l1
      cases q2 : (runR G n).ex f c.F s1 with
      | bad w => rw [q2] at hP2; exact hP2.elim
      | exc m s2 =>
        rw [q2] at hP2
        intro S2 W2 e l2 X
        exact er X fun S'' X' => hP2 S'' W2 e l2 X'
      | ok gg s2 =>
        rw [q2, bind_ok] at hP2
        intro S2 W2 gf l2 H2 rg
        cases gg with
        | next =>
          have rg : gf = .next := rg
          subst rg
          have hP3 : Post g c (FR g) W1 (.ok fl s2) Q Er := hP2
          refine hP3 S2 W2 flow l2 H2 ?_
          cases fl with
          | ret v => obtain ⟨val, e, rv⟩ := rf; exact ⟨val, e, rv.le l2⟩
          | _ => exact rf
        | _ => exact hP2.elim
    cases flow with
    | next => exact wpAny_execs_nil plain
    | _ => exact plain
  | exc m s1 =>
    rw [q] at hP'
    have hP1 : Post g c (FR g) W (finE G (runR G n) f c.F m s1) Q Er := hP'
    intro S1 W1 e l1 X
    have hP2 := Post.le hP1 l1
    unfold finE at hP2
    split at hP2
    rotate_left
    · exact hP2.elim
    rename_i ia
    obtain ⟨k, x, op, v, rfl, nd, sd, Cd, ld, hn, hd, hx⟩ := isAug_inv ia
    obtain ⟨ea, rfl⟩ := fly_ref X
    refine XX.note O X fun S2 X2 => And.intro (fun q => Value.noConfusion q) (XX.note O X2.weak fun S3 X3 => XX.flight X3 fun S4 X4 => ?_)
    refine final_held (GO := GO) (n := n) h2 X4 hn hd hx hP2 fun s' S' X' hPe => ?_
    exact passOn_ok GO X' fun S'' X'' => hPe S'' W1 _ (Le.refl W1) X''.weak
end Mine
namespace Mine
open PySem PySem.W PySem.Calls PyProof.Rows
variable {g : Gx} {G : Cfg} {c : FC} {d : Nat} {W : Wd} {s : St} {S : Shared}
structure CatOK (g : Gx) (G : Cfg) : Prop where
  cls : (clsIn g.K G.exc).isSome = true
  tup : instIn g.K (.ref G.exc) (.type "tuple") = some false
  bas : subIn g.K (.ref G.exc) (.type "BaseException") = some true
  slf : subIn g.K (.ref G.exc) (.ref G.exc) = some true
theorem here_law (sl : Slt c.outer c.h₀ h₂) (ho : c.outer = []) (H : Here g (c.at h₂) W s S) : Here g c W s S := by
  have eq : ∀ b, h₂.get? b = c.h₀.get? b := fun b => by
    cases e : c.h₀.get? b with
    | none => exact sl.2.2 b e
    | some o =>
      obtain ⟨q, _, h⟩ := sl.2.1 b o e
      exact h (by rw [ho]; intro env he; cases he)
  obtain ⟨m, F, E⟩ := H.fr
  refine ⟨⟨m, ⟨F.ns, fun b o e => F.keep b o ((eq b).trans e), ?_⟩, E⟩, H.obj, H.len, H.nodup, fun b hb => ?_, H.gens, H.drawn, H.os⟩
  · have := F.above
    show c.h₀.objs.size ≤ c.L
    have h2 : h₂.objs.size ≤ c.L := this
    rw [sl.1] at h2
    exact h2
  · obtain ⟨x, o⟩ := H.own b hb
    exact ⟨⟨x.1, (eq b).symm.trans x.2.1, x.2.2⟩, o⟩
noncomputable def busyC (c : FC) : FC := { c with F := c.F.busy }
theorem busy_here (H : Here g c W s S) : Here g (busyC c) W s S := ⟨H.fr, H.obj, H.len, H.nodup, H.own, H.gens, H.drawn, H.os⟩
theorem busy_back (H : Here g (busyC c) W s S) : Here g c W s S := ⟨H.fr, H.obj, H.len, H.nodup, H.own, H.gens, H.drawn, H.os⟩
theorem busy_ok (K : FOK g c) : FOK g (busyC c) := ⟨K.law, K.big, K.stays, K.frames, K.kin, K.top, ⟨K.fn.kind, K.fn.locs, K.fn.cel, K.fn.gl, K.fn.dbg⟩⟩
theorem busy_aok {A : Around} (O : AOK c d A) (e : Value) : AOK (busyC c) d (A.mark (some e)) := ⟨O.frames, O.depth, O.units, fun q => Bool.noConfusion (q : true = false)⟩
theorem match_ok (CO : CatOK g G) {a : Addr} {o : Obj} {A : Around} {Q : Bool → Shared → Prop} {E : Value → Shared → Prop} (X : g.K.In S.heap) (ho : S.heap.get? a = some o) (hc : o.cls = .ref G.exc) (h : Q true S) : wpAny (model g.prog g.w) A (excMatches (.ref a) (.ref G.exc)) Q E S := by
  obtain ⟨cd, hcd⟩ := Option.isSome_iff_exists.mp CO.cls
  have isT : Looks (model g.prog g.w) S.heap (isType (.ref G.exc)) true := by
    unfold clsIn at hcd
    split at hcd
    · rename_i q
      exact (Looks.ld (X _ _ q)).andThen .now
    · cases hcd
  unfold excMatches
  refine wpAny_bind ((looks_instIn X CO.tup).here ?_)
  rw [if_neg (by decide)]
  refine wpAny_bind (wpAny_pure ?_)
  simp only [List.forIn_cons, List.forIn_nil]
  refine wpAny_bind (wpAny_bind (wpAny_bind ?_))
  unfold isExcClass
  refine wpAny_bind (isT.here ?_)
  rw [if_pos rfl]
  refine (looks_subIn X CO.bas).here ?_
  simp only [Bool.not_true, Bool.false_eq_true, if_false]
  refine wpAny_pure (wpAny_pure ?_)
  have tt : Looks (model g.prog g.w) S.heap (typeOf (.ref a)) (.ref G.exc) := hc ▸ (Looks.ld ho).andThen .now
  refine wpAny_bind (tt.here ?_)
  refine wpAny_bind (wpAny_bind (wpAny_bind ((looks_subIn X CO.slf).here ?_)))
  rw [if_pos rfl]
  exact wpAny_pure (wpAny_pure (wpAny_pure h))
theorem unbind_ok (K : FOK g c) (GO : GOK g G) (H : Here g c W s S) {x : Nat} (hx : x ∈ c.F.locs) {pos : Pos} {A : Around} {Q : Unit → Shared → Prop} {E : Value → Shared → Prop} (h : ∀ S', Here g c W { s with env := del s.env x } S' → Q () S') :
    wpAny (model g.prog g.w) A (do bindName c.env (g.nm x) .none; unbindBehindTheSuite c.env (g.nm x) pos) Q E S := by
  obtain ⟨m, F, E'⟩ := H.fr
  have hl : c.env.kindOf (g.nm x) = some .local := K.fn.locs x hx
  have hp : (c.env.scope.kind == .class || (c.env.scope.kind == .module && c.env.locals != c.env.globals)) = false := by
    show (c.scope.kind == .class || (c.scope.kind == .module && c.L != mainGlobals)) = false
    rw [K.fn.kind]; rfl
  refine wpAny_bind (wpAny_bindName (wpAny_storeName_local hl F.ns (fun h₁ hn sb => ?_) hp))
  unfold unbindBehindTheSuite
  refine wpAny_onRaise ?_
  refine wpAny_unbindName_local (v := .none) hl hn (by simp) hp fun h₂ u hn2 sb2 => ?_
  have sb3 : Heap.SameBut c.L S.heap h₂ := sb.trans sb2
  have F' := F.set hn2 sb3
  have k : ∀ b ∈ allA c W, h₂.get? b = S.heap.get? b := fun b hb => sb3.2 b (H.own b hb).1.1
  refine h _ (H.keep (en := del s.env x) F' (fun y w ey => ?_) k (S.toks + 1))
  rw [look_del] at ey
  by_cases q : x = y
  · rw [if_pos q] at ey; cases ey
  · rw [if_neg q] at ey
    have ne : g.nm y ≠ g.nm x := fun z => q (GO.inj _ _ z).symm
    rcases E' y w ey with ⟨a, val', b, r'⟩ | ⟨a, ad, val', b, hc, r'⟩
    · refine .inl ⟨a, val', ?_, r'⟩
      show (if g.nm y = g.nm x then u else if g.nm y = g.nm x then some Value.none else m (g.nm y)) = some val'
      rw [if_neg ne, if_neg ne]
      exact b
    · exact .inr ⟨a, ad, val', b, hc.sameBut sb3 (H.own ad (List.mem_append_left _ (List.mem_map.mpr ⟨_, mem_of_lookup b, rfl⟩))).1.1, r'⟩
theorem snd_ctc (GO : GOK g G) (XX : XL g) (CO : CatOK g G) {n : Nat} (Gs : GoodS g G (runR G n) d) (K : FOK g c) {k x : Nat} {b h : X} {b' : List Stmt} {np : Pos} {hb : Stmt} {hbs : List Stmt} {hp p : Pos} (h1 : agSs g.nm b b' = true) (h2 : agSs g.nm h (hb :: hbs) = true) :
    Snd g c d (FR g) (exec (.Try b' [.ExceptHandler (some (.Name (g.nm k) np)) (some (g.nm x)) (hb :: hbs) hp] [] [] p) c.env) W s (exStep G (runR G n) (.ctc k x b h) c.F s) := by
  intro A S Q Er O H hP
  have hP' : Post g c (FR g) W (@Bool.rec (fun _ => Res Fl) (xCatch G (runR G n) k x b h c.F s) (.bad 90) c.F.bz) Q Er := hP
  cases hbz : c.F.bz with
  | true => rw [hbz] at hP'; exact hP'.elim
  | false =>
  rw [hbz] at hP'
  have hP' : Post g c (FR g) W (xCatch G (runR G n) k x b h c.F s) Q Er := hP'
  unfold xCatch at hP'
  split at hP'
  rotate_left
  · exact hP'.elim
  rename_i isl
  rw [natbeq, decide_eq_true_iff] at isl
  have ho : c.outer = [] := K.law (isl.trans GO.lawE)
  refine wpAny_Try_except ?_
  refine Gs.ex c W s b b' K h1 A S _ _ O H ?_
  unfold xCatchL at hP'
  cases q : (runR G n).ex b c.F s with
  | bad w => rw [q] at hP'; exact hP'.elim
  | ok fl s1 =>
    rw [q] at hP'
    have hP1 : Post g c (FR g) W (.ok fl s1) Q Er := hP'
    intro S1 W1 flow l1 H1 rf
    have := hP1 S1 W1 flow l1 H1 rf
    cases flow with
    | next => exact wpAny_execs_nil this
    | _ => exact this
  | exc m s1 =>
    rw [q] at hP'
    have hP1 : Post g c (FR g) W (xHdl G (runR G n) k x h c.F m s1) Q Er := hP'
    intro S1 W1 e l1 X
    have hP2 := Post.le hP1 l1
    unfold xHdl at hP2
    split at hP2
    rotate_left
    · exact hP2.elim
    rename_i ie
    have bl : ∃ s', nameV k c.F s1 = .ok (.cl G.exc) s' := by
      unfold isExc at ie
      split at ie
      · rename_i a s' e
        rw [natbeq, decide_eq_true_iff] at ie
        subst ie
        exact ⟨s', e⟩
      · cases ie
    obtain ⟨sn, hn⟩ := bl
    have eb : bindV x c.F (.ref m) s1 = @Bool.rec (fun _ => Res Unit) (.bad 62) (.ok () { s1 with env := put s1.env x (.ref m) }) (memN x c.F.locs) := rfl
    cases hm : memN x c.F.locs with
    | false => rw [eb, hm] at hP2; exact hP2.elim
    | true =>
    have hx := (memN_iff _ _).mp hm
    rw [eb, hm] at hP2
    have hP2 : Post g c (FR g) W1 (hdlK x ((runR G n).ex h c.F.busy { s1 with env := put s1.env x (.ref m) })) Q Er := hP2
    refine XX.note O X fun S2 X2 => XX.flight X2 fun S3 X3 => ?_
    have X3' := X3
    obtain ⟨h₂, sl, K₂, H₂, ⟨C, l, x1, x2⟩, pe, oe, vs, b1, b2, b3, b4, b5, b6⟩ := X3'
    subst b2
    have H3 := here_law sl ho H₂
    obtain ⟨pe', hpe', _, re⟩ := H₂.obj m _ x1
    rw [b1] at hpe'
    cases hpe'
    have hC : oe.cls = .ref G.exc := by
      have : C = G.exc := by
        rw [GO.exc, natbeq, decide_eq_true_iff] at x2
        exact x2
      rcases re with ⟨q, _⟩ | ⟨_, vs2, sl2, r1, _⟩
      · rw [x2] at q; cases q
      · rw [b3] at r1
        cases r1
        show Value.ref C = _
        rw [this]
    refine wpAny_handleBy_cons (codeAny_handlers_test ?_) (by intro z; cases z)
    refine name_same K H3 k np hn fun val rv => ?_
    cases rv
    refine match_ok CO (H3.kin K) b3 hC ?_
    show codeAny _ (A.mark (some (.ref pe.1))) (.handlers (.ref pe.1) [.ExceptHandler none (some (g.nm x)) (hb :: hbs) hp] c.env) _ S3
    refine codeAny_handlers_suite_as (XX.flight X3 fun S4 X4 => ?_)
    obtain ⟨h₃, sl3, K₃, H₄, _, pe4, oe4, vs4, c1, c2, _⟩ := X4
    rw [b1] at c1
    cases c1
    have H4 := here_law sl3 ho H₄
    have Kb := busy_ok K
    have Ob := busy_aok O (.ref pe.1)
    refine snd_store (c := busyC c) (d := d) Kb GO x (v := .ref m) ⟨pe, b1, rfl⟩ (A.mark (some (.ref pe.1))) S4 _ _ Ob (busy_here H4) ?_
    have eb2 : bindV x (busyC c).F (.ref m) s1 = @Bool.rec (fun _ => Res Unit) (.bad 62) (.ok () { s1 with env := put s1.env x (.ref m) }) (memN x c.F.locs) := rfl
    rw [eb2, hm]
    intro S5 W5 _ l5 H5 _
    refine Gs.ex (busyC c) W5 _ h (hb :: hbs) Kb h2 (A.mark (some (.ref pe.1))) S5 _ _ Ob H5 ?_
    have hP5 := Post.le hP2 l5
    show Post g (busyC c) (FR g) W5 ((runR G n).ex h c.F.busy { s1 with env := put s1.env x (.ref m) }) _ _
    cases q6 : (runR G n).ex h c.F.busy { s1 with env := put s1.env x (.ref m) } with
    | bad w => rw [q6] at hP5; exact hP5.elim
    | exc a b => rw [q6] at hP5; exact hP5.elim
    | ok fl s6 =>
      rw [q6] at hP5
      have hP5 : Post g c (FR g) W5 (.ok fl { s6 with env := del s6.env x }) Q Er := hP5
      intro S6 W6 flow l6 H6 rf
      show wpAny _ A (do bindName c.env (g.nm x) .none; unbindBehindTheSuite c.env (g.nm x) hp) (fun _ s₃ => Q flow s₃) Er S6
      exact unbind_ok K GO (busy_back H6) hx fun S7 H7 => hP5 S7 W6 flow l6 H7 rf
end Mine
namespace Mine
open PySem PySem.W PySem.Calls PyProof.Rows
variable {g : Gx} {G : Cfg} {c : FC} {d : Nat} {W : Wd} {s : St} {S : Shared}
structure TabOK (g : Gx) (G : Cfg) : Prop where
  ent : ∀ a F, findFn G.fns a = some F → F.addr = a ∧ keepIn g.K (.ref a) = true ∧ ∃ oc od osl fd body, g.K.lookup F.addr = some ⟨oc, od, .func fd, osl⟩ ∧ EntOK g F fd body
structure ConOK (g : Gx) (G : Cfg) : Prop where
  keepT : keepIn g.K (.ref G.take) = true
  keepI : keepIn g.K (.ref G.items) = true
  take : ∀ {c : FC} {W : Wd} {s : St} {l : List V} {vs : List Value} {A : Around} {S : Shared} {R : Result → Shared → Prop}, FOK g c → c.F.bz = false → VRs g W l vs → AOK c 2 A → Here g c W s S →
    Post g c (VR g) W (doTake G l s) (fun v S' => R (.ok (.ret v)) S') (fun e S' => R (.error e) S') → codeAny (model g.prog g.w) A (.call (.ref G.take) ⟨vs, []⟩) R S
  items : ∀ {c : FC} {W : Wd} {s : St} {l : List V} {vs : List Value} {A : Around} {S : Shared} {R : Result → Shared → Prop}, FOK g c → c.F.bz = false → VRs g W l vs → AOK c 2 A → Here g c W s S →
    Post g c (VR g) W (doItems l s) (fun v S' => R (.ok (.ret v)) S') (fun e S' => R (.error e) S') → codeAny (model g.prog g.w) A (.call (.ref G.items) ⟨vs, []⟩) R S
structure RaisOK (g : Gx) (G : Cfg) : Prop where
  rais : ∀ {r : Rc} {d : Nat}, GoodE g G r d → GoodF g G r d → ∀ c W s n l np es cp p, FOK g c → ags g.nm l es = true → Snd g c (d + 1) (FR g) (exec (.Raise (some (.Call (.Name (g.nm n) np) es [] cp)) none p) c.env) W s (exStep G r (.rais n l) c.F s)
structure Good (g : Gx) (G : Cfg) (n : Nat) : Prop where
  e : GoodE g G (runR G n) (n + 2)
  s : GoodS g G (runR G n) (n + 2)
  f : GoodF g G (runR G n) (n + 2)
theorem GoodS.le {r : Rc} {d d' : Nat} (h : GoodS g G r d) (k : d ≤ d') : GoodS g G r d' := ⟨fun c W s x ss K a => (h.ex c W s x ss K a).le k⟩
theorem GoodF.le {r : Rc} {d d' : Nat} (h : GoodF g G r d) (k : d ≤ d') : GoodF g G r d' := ⟨h.keep, fun c W s a l vs A S R K hb rv O => h.cl c W s a l vs A S R K hb rv (O.le k)⟩
theorem callFn_eq {r : Rc} (a : Addr) (l : List V) (s : St) : callFn G r a l s = if a = G.take then doTake G l s else if a = G.items then doItems l s else r.cl a l s := by
  show @Bool.rec (fun _ => Res V) (@Bool.rec (fun _ => Res V) (r.cl a l s) (doItems l s) (Nat.beq a G.items)) (doTake G l s) (Nat.beq a G.take) = _
  rw [natbeq, natbeq]
  by_cases h1 : a = G.take
  · rw [decide_eq_true h1, if_pos h1]
  · rw [decide_eq_false h1, if_neg h1]
    by_cases h2 : a = G.items
    · rw [decide_eq_true h2, if_pos h2]
    · rw [decide_eq_false h2, if_neg h2]
theorem goodF_of (CN : ConOK g G) {r : Rc} {d : Nat} (h2 : 2 ≤ d) (hk : ∀ a l s, (∀ w, r.cl a l s ≠ .bad w) → keepIn g.K (.ref a) = true)
    (hc : ∀ c W s a l vs A S R, FOK g c → c.F.bz = false → VRs g W l vs → AOK c d A → Here g c W s S → Post g c (VR g) W (r.cl a l s) (fun v S' => R (.ok (.ret v)) S') (fun e S' => R (.error e) S') → codeAny (model g.prog g.w) A (.call (.ref a) ⟨vs, []⟩) R S) : GoodF g G r d where
  keep a l s h := by
    rw [callFn_eq] at h
    split at h
    · rename_i q; subst q; exact CN.keepT
    · split at h
      · rename_i q; subst q; exact CN.keepI
      · exact hk a l s h
  cl c W s a l vs A S R K hb rv O H hP := by
    rw [callFn_eq] at hP
    split at hP
    · rename_i q; subst q; exact CN.take K hb rv (O.le h2) H hP
    · split at hP
      · rename_i q; subst q; exact CN.items K hb rv (O.le h2) H hP
      · exact hc c W s a l vs A S R K hb rv O H hP
theorem good_all (GO : GOK g G) (XO : XOK g G) (DO : DoOK g G) (NO : NmOK g) (HO : Holes g G) (CT : CatOK g G) (TA : TabOK g G) (CN : ConOK g G) (RA : RaisOK g G) : ∀ n, Good g G n := by
  intro n
  induction n using Nat.strongRecOn with
  | ind n ih =>
    have XX := xl_ok GO
    cases n with
    | zero =>
      refine ⟨⟨fun c W s x e K h A S Q Er O H hP => hP.elim, fun c W s x e K h A S Q Er O H hP => hP.elim⟩, ⟨fun c W s x ss K h A S Q Er O H hP => hP.elim⟩, ?_⟩
      exact goodF_of CN (Nat.le_refl 2) (fun a l s h => (h 0 rfl).elim) fun c W s a l vs A S R K hb rv O H hP => hP.elim
    | succ n =>
      have G0 := ih n (Nat.lt_succ_self n)
      have d1 : n + 2 ≤ n + 1 + 2 := by omega
      have HC : CallsOK g G (runR G n) (n + 1 + 2) := calls_ok GO DO NO HO G0.f
      have Gd := G0.e.le d1
      have Gs := G0.s.le d1
      have below : ∀ k, k < n → GoodE g G (runR G k) (n + 1 + 2) ∧ GoodS g G (runR G k) (n + 1 + 2) := fun k hk =>
        ⟨(ih k (Nat.lt_succ_of_lt hk)).e.le (by omega), (ih k (Nat.lt_succ_of_lt hk)).s.le (by omega)⟩
      have LO : LoopsOK g G (runR G n) (n + 1 + 2) := by
        refine ⟨fun c W s t b t' b' p K h1 h2 => ?_, fun c W s x e b sp e' b' p K h0 h1 h2 => ?_, fun c W s m l np es cp p K h => ?_, fun c W s b f b' f0 fs p K h1 h2 => ?_, fun c W s m x b h b' np hb hbs hp p K h1 h2 => ?_⟩
        · exact snd_while XX (fun k hk => (below k hk).1) (fun k hk => (below k hk).2) K h1 h2
        · exact snd_for GO XX Gd (fun k hk => (below k hk).2) K h0 h1 h2
        · exact RA.rais G0.e G0.f c W s m l np es cp p K h
        · exact snd_fin GO XX Gs K h1 h2
        · exact snd_ctc GO XX CT Gs K h1 h2
      refine ⟨⟨fun c W s x e K h => good_ev GO XO Gd HC K h, fun c W s x e K h => good_ts GO XO Gd K h⟩, ⟨fun c W s x ss K h => good_exs GO XO Gd Gs LO K h⟩, ?_⟩
      refine goodF_of CN (by omega) (fun a l s h => ?_) fun c W s a l vs A S R K hb rv O H hP => ?_
      · have h' : ∀ w, clStep G (runR G n) a l s ≠ .bad w := h
        unfold clStep at h'
        split at h'
        · exact (h' _ rfl).elim
        · rename_i F e
          exact (TA.ent a F e).2.1
      · have hP' : Post g c (VR g) W (clStep G (runR G n) a l s) (fun v S' => R (.ok (.ret v)) S') (fun e S' => R (.error e) S') := hP
        unfold clStep at hP'
        split at hP'
        · exact hP'.elim
        · rename_i F e
          obtain ⟨rfl, _, oc, od, osl, fd, body, hl, E⟩ := TA.ent a F e
          split at hP'
          · exact hP'.elim
          · rename_i en hbi
            exact snd_call GO XX K hb G0.s hl E rv hbi O H hP'
end Mine
namespace Mine
open PySem PySem.W PySem.Calls PyProof.Rows Builtin Builtin.ObjectAttr
section
variable {prog : Program} {w : World} {A : Around} {E : Value → Shared → Prop} {s : Shared} {K : Frag} {x C : Addr} {ox : Obj} {od : Option Obj} {name : Str} {expr : Bool} {Q : Value → Shared → Prop}
theorem exc_get_check {M : Model} {nameV : Value} {Q : Unit → Shared → Prop} (X : K.In s.heap) (I : InstAt s.heap x ox C od) (hs : subIn K (.ref C) (.type "BaseException") = some true) (hq : Q () s) :
    wpAny M A (checkBuiltinCall "BaseException.__getattribute__" ⟨[.ref x, nameV], []⟩) Q E s := by
  have hk : builtinKind "BaseException.__getattribute__" = some .slot := by decide +kernel
  have hsplit : splitId "BaseException.__getattribute__" = some ("BaseException", "__getattribute__") := by decide +kernel
  have L1 := looks_subIn (M := M) X hs
  have hi : Looks M s.heap (isInstance (.ref x) (.type "BaseException")) true := I.type.andThen L1
  exact @check_slot M _ _ s "BaseException.__getattribute__" "BaseException" "__getattribute__" (.ref x) [nameV] [] _ hk hsplit hi (F.args_bexc_ga (.ref x) nameV) hq
theorem exc_get {v : Value} (X : K.In s.heap) (I : InstAt s.heap x ox C od) (hga : findIn K (.ref C) "__getattribute__" = some (some (.builtin "BaseException.__getattribute__")))
    (hgt : findIn K (.ref C) "__getattr__" = some none) (hs : subIn K (.ref C) (.type "BaseException") = some true)
    (hf : findObj K C od name = some (.value v)) (hh : handedIn v = true) (h : Q v { s with toks := s.toks + 1 }) : wpAny (model prog w) A (getAttr (.ref x) name expr) Q E s := by
  obtain ⟨hp, g, d, t, os⟩ := s
  have L0 := I.type (M := model prog w)
  have L1 := looks_findIn (M := model prog w) X hga
  have L2 := looks_findIn (M := model prog w) X hgt
  have L3 := looks_find (M := model prog w) X I hf
  have f3 := F.attr_Exception.ga.bind (.ref x)
  have hx0 : (expr && onTheHeap (Value.builtin "BaseException.__getattribute__")) = false := by cases expr <;> rfl
  have hx2 : (onTheHeap (Value.ref C) && Value.builtin "BaseException.__getattribute__" == Value.builtin "object.__getattribute__") = false := by
    have : (Value.builtin "BaseException.__getattribute__" == Value.builtin "object.__getattribute__") = false := by decide +kernel
    rw [this]; rfl
  unfold getAttr getAttrBy
  refine wpAny_bind (wpAny_mkText (wpAny_holding (wpAny_bind (L0.at (wpAny_bind (L1.at ?_))))))
  dsimp only
  rw [if_neg (by rw [hx2]; decide)]
  unfold getAttrByItsOwn
  refine wpAny_bind (L2.at ?_)
  refine wpAny_bind (wpAny_attempt (wpAny_holding ?_))
  unfold callGetattribute
  rw [if_neg (by rw [hx0]; decide)]
  unfold boundAndCalled
  rw [f3]
  refine wpAny_bind (wpAny_pure ?_)
  refine wpAny_call (codeAny_call_builtin F.attr_Exception.ga.plain F.entry_bexc_ga (exc_get_check X I hs ?_))
  show wpAny _ _ (Builtin.«object.__getattribute__» ⟨[.ref x, .str name t], []⟩) _ _ _
  unfold Builtin.«object.__getattribute__» slotArgs
  repeat lk
  show wpAny _ _ (handedOut v) _ _ _
  rw [handedOut_of hh]
  exact wpAny_pure h
end
noncomputable def excMro : List Value := [.type "Exception", .type "BaseException", .type "object"]
noncomputable def excTail : List Value → Bool
  | .ref _ :: r => excTail r
  | l => l == excMro
theorem refuse_exc (self : Value) : ∀ {l : List Value}, excTail l = true → refuseLoop self "__setattr__" l = pure () := by
  intro l
  induction l with
  | nil => intro e; cases e
  | cons v r ih =>
    intro e
    cases v
    case ref c => rw [refuseLoop_ref]; exact ih (by unfold excTail at e; exact e)
    all_goals
      rw [show _ = excMro from beq_iff_eq.mp e]; exact PySem.F.store_Exception.passes self
theorem excTail_has : ∀ {l : List Value}, excTail l = true → l.contains (.type "object") = true := by
  intro l
  induction l with
  | nil => intro e; cases e
  | cons v r ih =>
    intro e
    cases v
    case ref c => rw [List.contains_cons, ih (by unfold excTail at e; exact e), Bool.or_true]
    all_goals
      rw [show _ = excMro from beq_iff_eq.mp e]; decide +kernel
noncomputable def plainOverX (K : Frag) (C : Addr) : Bool := (clsIn K C).any fun cd => excTail cd.mro
section
variable {prog : Program} {w : World} {A : Around} {E : Value → Shared → Prop} {s : Shared} {K : Frag} {x C : Addr} {name : Str} {v : Value} {R : Result → Shared → Prop}
theorem osa_openX {ox : Obj} {od : Option Obj} {tk : Tok} (X : K.In s.heap) (I : InstAt s.heap x ox C od) (hp : plainOverX K C = true) (ht : takerIn K C name = some none)
    (h : ∀ b, wpAny (model prog w) A.in1 (storeInOwnDict (.ref x) (.ref C) (.str name tk) name v b)
      (fun fin s' => match fin with | .done f => R (.ok f) s' | .again c' => c'.quiet = true ∧ codeAny (model prog w) A c' R s') (fun e s' => R (.error e) s') s) :
    codeAny (model prog w) A (.call (.builtin "object.__setattr__") ⟨[.ref x, .str name tk, v], []⟩) R s := by
  have SF := PySem.F.store_object
  obtain ⟨cd, hc, ho⟩ := any_some hp
  have ne : cd.mro.isEmpty = false := by cases q : cd.mro with | nil => rw [q] at ho; cases ho | cons _ _ => rfl
  have sub : Looks (model prog w) s.heap (isInstance (.ref x) (.type "object")) true := I.type.andThen (looks_mroIn X (by unfold mroIn; rw [hc, Option.bind_some, if_neg (by rw [ne]; decide), excTail_has ho]))
  refine codeAny_call_builtin SF.slot.plain SF.entry (@check_slot (model prog w) _ _ s "object.__setattr__" "object" "__setattr__" (.ref x) [.str name tk, v] [] _ SF.kind SF.split sub (SF.args (.ref x) (.str name tk) v) ?_)
  obtain ⟨attr, ha, hr⟩ := Option.bind_eq_some_iff.mp ht
  have hm : Looks (model prog w) s.heap (mroOf (.ref C)) cd.mro := (looks_clsIn X hc).andThen .now
  have L3 : Looks (model prog w) s.heap (storeTaker? attr) none := by
    cases attr with
    | none => exact .now
    | some a =>
      obtain ⟨b, hb, e⟩ := Option.map_eq_some_iff.mp hr
      refine (looks_takesIn X hb).andThen ?_
      cases b
      · exact .now
      · cases e
  rw [osa_eq, refuse_eq]
  refine wpAny_bind (wpAny_bind (I.type.here (wpAny_bind (hm.here ?_))))
  rw [refuse_exc _ ho]
  refine wpAny_pure (wpAny_bind (I.type.here (wpAny_bind ((looks_findIn X ha).here (wpAny_bind (L3.here ?_))))))
  exact h _
theorem store_in {D : Addr} {es : List DictEntry} {n : Nat} {tk : Tok} {Q : PySem.Fin → Shared → Prop} (hD : s.heap.get? D = some (dictOf es n)) (hl : (getL name es).isSome = true)
    (hz : (putL name (PyData.keyHash w.params name) (.str name s.toks) v es).length ≤ 1000)
    (h : Q (.done (.ret .none)) { s with heap := s.heap.update D (Obj.putName name (PyData.keyHash w.params name) (.str name s.toks) v), toks := s.toks + 1 }) :
    wpAny (model prog w) A (storeInDict D (.str name tk) name v) Q E s := by
  unfold storeInDict newKeyGuard
  refine wpAny_bind (wpAny_pure (wpAny_bind ?_))
  unfold nsSet
  refine wpAny_bind (wpAny_bind (wpAny_askSetting (wpAny_pure (wpAny_bind (wpAny_mkText (wpAny_bind (wpAny_loadPart hD ?_)))))))
  dsimp only
  have c : (!es.toArray.any (·.key.isStr name) && es.toArray.any (·.refKey)) = false := by
    rw [← Array.any_toList, ← Array.any_toList]
    show (!es.any (·.key.isStr name) && es.any (·.refKey)) = false
    unfold getL at hl
    split at hl
    · rename_i en he
      rw [List.any_eq_true.mpr ⟨en, List.mem_of_find?_eq_some he, List.find?_some he⟩]; rfl
    · split at hl
      · cases hl
      · rename_i z; rw [Bool.not_eq_true] at z; rw [z, Bool.and_false]
  rw [aRefKeyMayBeTheName_at, c]
  refine wpAny_updatePart hD ?_
  have e := putName_dict name (PyData.keyHash w.params name) (.str name s.toks) v es n
  have hD' : (s.heap.update D (Obj.putName name (PyData.keyHash w.params name) (.str name s.toks) v)).get? D = some (dictOf (putL name (PyData.keyHash w.params name) (.str name s.toks) v es) (putN name es n)) := by
    rw [← e]
    exact Heap.get?_update_self _ hD (by rw [e]; rfl)
  refine wpAny_bind (wpAny_lookBehind hD' (pastItsLine_dict (by rw [List.size_toArray, sizeLine_eq]; omega)) ?_)
  exact wpAny_pure h
theorem exc_set_some {dx : Addr} {vs : Array Value} {sl : Array (Option Value)} {es : List DictEntry} {n : Nat} {Q : Unit → Shared → Prop} (X : K.In s.heap) (hx : s.heap.get? x = some ⟨.ref C, some dx, .fields vs, sl⟩) (hD : s.heap.get? dx = some (dictOf es n))
    (hs : findIn K (.ref C) "__setattr__" = some (some (.builtin "object.__setattr__"))) (hp : plainOverX K C = true) (hh : hasDictIn K C = true) (ht : takerIn K C name = some none) (hl : (getL name es).isSome = true)
    (hz : (putL name (PyData.keyHash w.params name) (.str name (s.toks + 1)) v es).length ≤ 1000)
    (h : Q () { s with heap := s.heap.update dx (Obj.putName name (PyData.keyHash w.params name) (.str name (s.toks + 1)) v), toks := s.toks + 2 }) :
    wpAny (model prog w) A (setAttr (.ref x) name v) Q E s := by
  have I : InstAt s.heap x ⟨.ref C, some dx, .fields vs, sl⟩ C (some (dictOf es n)) := ⟨hx, rfl, rfl, hD⟩
  refine set_plain X I hs (osa_openX (s := { s with toks := s.toks + 1 }) X I hp ht fun b => ?_)
  obtain ⟨cd, hc, hd'⟩ := any_some hh
  refine wpAny_bind (wpAny_pure (wpAny_bind (wpAny_bind (wpAny_loadPart hx (wpAny_bind ((looks_clsIn X hc (M := model prog w)).here (s := { s with toks := s.toks + 1 }) ?_))))))
  rw [hd']
  refine wpAny_pure (a := some dx) ?_
  exact store_in (s := { s with toks := s.toks + 1 }) hD hl hz h
theorem exc_set_none {vs : Array Value} {sl : Array (Option Value)} {Q : Unit → Shared → Prop} (X : K.In s.heap) (hx : s.heap.get? x = some ⟨.ref C, none, .fields vs, sl⟩)
    (hs : findIn K (.ref C) "__setattr__" = some (some (.builtin "object.__setattr__"))) (hp : plainOverX K C = true) (hh : hasDictIn K C = true) (ht : takerIn K C name = some none)
    (h : Q () { s with heap := ((s.heap.push emptyDict).update x (fun o => { o with dict := some s.heap.objs.size })).update s.heap.objs.size (Obj.putName name (PyData.keyHash w.params name) (.str name (s.toks + 1)) v), toks := s.toks + 2 }) :
    wpAny (model prog w) A (setAttr (.ref x) name v) Q E s := by
  have I : InstAt s.heap x ⟨.ref C, none, .fields vs, sl⟩ C none := ⟨hx, rfl, rfl, trivial⟩
  refine set_plain X I hs (osa_openX (s := { s with toks := s.toks + 1 }) X I hp ht fun b => ?_)
  obtain ⟨cd, hc, hd'⟩ := any_some hh
  have hx₁ : (s.heap.push emptyDict).get? x = some ⟨.ref C, none, .fields vs, sl⟩ := Heap.get?_push_of_some _ hx
  have hxs : x ≠ s.heap.objs.size := Nat.ne_of_lt (Heap.lt_size hx)
  refine wpAny_bind (wpAny_pure (wpAny_bind (wpAny_bind (wpAny_loadPart hx ?_))))
  dsimp only
  refine wpAny_bind ((looks_clsIn X hc (M := model prog w)).here (s := { s with toks := s.toks + 1 }) ?_)
  rw [hd']
  simp only [Bool.not_true, Bool.false_eq_true, if_false, typeHasDict, Bool.or_self]
  refine wpAny_bind (wpAny_alloc' ?_)
  refine wpAny_bind (wpAny_update' hx₁ ?_)
  refine wpAny_pure ?_
  have hD : ((s.heap.push emptyDict).update x (fun o => { o with dict := some s.heap.objs.size })).get? s.heap.objs.size = some (dictOf [] 0) :=
    (Heap.get?_update_ne _ _ _ _ hxs.symm).trans (Heap.get?_push_at rfl rfl)
  exact store_in (s := { s with heap := (s.heap.push emptyDict).update x (fun o => { o with dict := some s.heap.objs.size }), toks := s.toks + 1 }) hD rfl (by unfold putL; simp) h
end
end Mine
namespace Mine
open PySem PySem.W PySem.Calls PyProof.Rows
variable {g : Gx} {G : Cfg} {c : FC} {d : Nat} {W : Wd} {s : St} {S : Shared}
structure XcOK (g : Gx) (cl : Cl) : Prop where
  mro : plainOverX g.K cl.addr = true
  dict : hasDictIn g.K cl.addr = true
  attrs : ∀ x ∈ cl.attrs, takerIn g.K cl.addr (g.nm x) = some none ∧ GetX g cl.addr x
theorem set_split {W : Wd} {n : Nat} {p : Addr × Option Addr} (hp : W[n]? = some p) : ∃ pre post, W = pre ++ p :: post ∧ ∀ q, W.set n q = pre ++ q :: post := by
  obtain ⟨h, e⟩ := List.getElem?_eq_some_iff.mp hp
  refine ⟨W.take n, W.drop (n + 1), ?_, fun q => ?_⟩
  · rw [← e, List.getElem_cons_drop]; simp
  · rw [List.set_eq_take_append_cons_drop, if_pos h]
theorem adr_set {W : Wd} {n : Nat} {a D : Addr} (hp : W[n]? = some (a, none)) : (adr (W.set n (a, some D))).Perm (D :: adr W) := by
  obtain ⟨pre, post, e1, e2⟩ := set_split hp
  rw [e2, e1]
  simp only [adr, List.flatMap_append, List.flatMap_cons, Option.toList_some, Option.toList_none, List.cons_append, List.nil_append, List.append_assoc]
  have h1 : (List.flatMap (fun p : Addr × Option Addr => p.1 :: p.2.toList) pre ++ a :: D :: List.flatMap (fun p : Addr × Option Addr => p.1 :: p.2.toList) post).Perm
    (List.flatMap (fun p : Addr × Option Addr => p.1 :: p.2.toList) pre ++ D :: a :: List.flatMap (fun p : Addr × Option Addr => p.1 :: p.2.toList) post) := List.Perm.append_left _ (List.Perm.swap _ _ _)
  exact h1.trans List.perm_middle
theorem Le.set {W : Wd} {n : Nat} {a D : Addr} (hp : W[n]? = some (a, none)) : Le W (W.set n (a, some D)) := fun i q h => by
  by_cases e : i = n
  · subst e
    rw [hp] at h
    cases h
    exact ⟨(a, some D), by rw [List.getElem?_set_self (List.getElem?_eq_some_iff.mp hp).1], rfl⟩
  · exact ⟨q, by rw [List.getElem?_set_ne (Ne.symm e)]; exact h, rfl⟩
theorem Here.dict {c : FC} {W : Wd} {s s' : St} {S : Shared} (H : Here g c W s S) {h' : Heap} {m : Str → Option Value} {n : Nat} {a D : Addr} {o : O} (F : Fr c.h₀ c.L h' m) (E : EnvR g c W s.env m S.heap)
    (hp : W[n]? = some (a, none)) (k : ∀ b ∈ allA c W, b ≠ a → h'.get? b = S.heap.get? b) (ka : ∃ o, h'.get? a = some o) (kD : ∃ o, h'.get? D = some o) (D1 : D ∉ allA c W) (D2 : D ≠ c.L ∧ c.h₀.get? D = none ∧ g.base.objs.size ≤ D)
    (ok : Mine.okO o = true) (r : OR g (W.set n (a, some D)) (a, some D) h' o) (en : s'.env = s.env) (n' : s'.n = s.n) (gt : ∀ i q, s'.get i = some q → (i = n ∧ q = o) ∨ (i ≠ n ∧ s.get i = some q)) (tk : Nat) :
    Here g c (W.set n (a, some D)) s' { S with heap := h', toks := tk } := by
  have l := Le.set (D := D) hp
  have al : (allA c (W.set n (a, some D))).Perm (D :: allA c W) := by
    unfold allA
    exact (List.Perm.append_left _ (adr_set hp)).trans List.perm_middle
  have nd : ∀ i q, W[i]? = some q → i ≠ n → ∀ b ∈ q.1 :: q.2.toList, b ≠ a := by
    intro i q hi ne b hb hb'
    subst hb'
    have nd := (List.nodup_append.mp H.nodup).2.1
    unfold adr at nd
    have pw := List.pairwise_iff_getElem.mp (List.pairwise_flatMap.mp nd).2
    obtain ⟨li, ei⟩ := List.getElem?_eq_some_iff.mp hi
    obtain ⟨ln, en⟩ := List.getElem?_eq_some_iff.mp hp
    rcases Nat.lt_or_gt_of_ne ne with lt | lt
    · have := pw i n li ln lt
      rw [ei, en] at this
      exact this b hb b (.head _) rfl
    · have := pw n i ln li lt
      rw [ei, en] at this
      exact this b (.head _) b hb rfl
  refine ⟨⟨m, F, en ▸ E.mono l fun b hb => k b (List.mem_append_left _ hb) fun q => ?_⟩, fun i q e => ?_, by rw [n', H.len]; simp, al.nodup_iff.mpr (List.nodup_cons.mpr ⟨D1, H.nodup⟩), fun b hb => ?_, H.gens, H.drawn, H.os⟩
  · subst q
    exact (List.nodup_append.mp H.nodup).2.2 b hb b (mem_adr hp) rfl
  · rcases gt i q e with ⟨e1, e2⟩ | ⟨ne, e⟩
    · subst e1 e2
      exact ⟨(a, some D), by rw [List.getElem?_set_self (List.getElem?_eq_some_iff.mp hp).1], ok, r⟩
    · obtain ⟨p', ha, y, b⟩ := H.obj i q e
      refine ⟨p', by rw [List.getElem?_set_ne (Ne.symm ne)]; exact ha, y, b.mono l (k _ (mem_all (mem_adr ha)) (nd i p' ha ne _ (.head _))) fun d x => k _ (mem_all (mem_adr2 ha x)) (nd i p' ha ne _ (by rw [x]; exact .tail _ (.head _)))⟩
  · rcases List.mem_cons.mp (al.mem_iff.mp hb) with rfl | hb
    · exact ⟨D2, kD⟩
    · obtain ⟨x, o, e⟩ := H.own b hb
      refine ⟨x, ?_⟩
      by_cases q : b = a
      · rw [q]; exact ka
      · exact ⟨o, (k b hb q).trans e⟩
theorem xget (K : FOK g c) (GO : GOK g G) {n : Nat} {C : Addr} {l : En} {va : Value} {x : Nat} {expr : Bool} (ra : VR g W (.ref n) va) (q : s.get n = some (.inst C l)) (hx : g.isX C = true) : Snd g c d (VR g) (getAttr va (g.nm x) expr) W s (getA (.ref n) x s) := by
  intro A S Q Er O H hP
  unfold getA at hP
  simp only [q] at hP
  split at hP
  · rename_i v e
    obtain ⟨p, hp, rfl, r⟩ := H.ofRef ra q
    rcases r with ⟨h, _⟩ | ⟨_, vs, sl, h2, h3, h4⟩
    · rw [hx] at h; cases h
    · obtain ⟨g1, g2, g3, g4, attr, g5, g6⟩ := h4 x v e
      rcases h3 with ⟨_, rfl⟩ | ⟨dx, es, nn, e1, e2, e3⟩
      · rw [look_nil] at e; cases e
      · rcases getL_er GO e3 x with ⟨a, _⟩ | ⟨v', val, a, b, rv⟩
        · rw [a] at e; cases e
        · rw [a] at e; cases e
          rw [e1] at h2
          exact exc_get (H.kin K) ⟨h2, rfl, rfl, e2⟩ g1 g2 g3 (findObj_own (od := dictOf es nn) g4 g5 g6 b) (handed rv) (hP.of_ok (H.toks _) rv)
  · exact hP.elim
theorem xset_raw (K : FOK g c) (GO : GOK g G) (XC : ∀ C cl, findCl G.cls C = some cl → g.isX C = true → XcOK g cl) {n : Nat} {C : Addr} {l : En} {vv : Value} {v : V} {x : Nat} {p : Addr × Option Addr} {cl : Cl} (ec : findCl G.cls C = some cl) (hm : memN x cl.attrs = true)
    (ok : Mine.okO (.inst C (put l x v)) = true) (hp : W[n]? = some p) (rv : VR g W v vv) (q : s.get n = some (.inst C l)) (hx : g.isX C = true) {A : Around} {Q : Unit → Shared → Prop} {Er : Value → Shared → Prop} (H : Here g c W s S)
    (hP : ∀ S' W' dd', Le W W' → Here g c W' (s.set n (.inst C (put l x v))) S' → W'[n]? = some (p.1, dd') → (∀ vs sl, S.heap.get? p.1 = some ⟨.ref C, p.2, .fields vs, sl⟩ → S'.heap.get? p.1 = some ⟨.ref C, dd', .fields vs, sl⟩) → Q () S') :
    wpAny (model g.prog g.w) A (setAttr (.ref p.1) (g.nm x) vv) Q Er S := by
        obtain ⟨p', hp', _, r⟩ := H.obj n _ q
        rw [hp] at hp'
        cases hp'
        have XO := XC _ _ ec hx
        obtain ⟨rfl, CO⟩ := GO.cls _ _ ec
        have ga := XO.attrs x ((memN_iff _ _).mp hm)
        rcases r with ⟨h, _⟩ | ⟨_, vs, sl, h2, h3, h4⟩
        · rw [hx] at h; cases h
        have gx : ∀ y w, look (put l x v) y = some w → GetX g cl.addr y := fun y w ey => by
          rw [look_put] at ey
          by_cases hxy : x = y
          · subst hxy; exact ga.2
          · rw [if_neg hxy] at ey; exact h4 y w ey
        obtain ⟨m, F, E⟩ := H.fr
        have own := H.own _ (mem_all (mem_adr hp))
        rcases h3 with ⟨pn, rfl⟩ | ⟨dx, es, nn, e1, e2, e3⟩
        · obtain ⟨a, p2⟩ := p
          dsimp only at pn h2 own
          subst pn
          refine exc_set_none (H.kin K) h2 CO.setattr XO.mro XO.dict ga.1 ?_
          have hx₁ : (S.heap.push emptyDict).get? a = some ⟨.ref cl.addr, none, .fields vs, sl⟩ := Heap.get?_push_of_some _ h2
          have ne : a ≠ S.heap.objs.size := Nat.ne_of_lt (Heap.lt_size h2)
          have hD : ((S.heap.push emptyDict).update a (fun o => { o with dict := some S.heap.objs.size })).get? S.heap.objs.size = some (dictOf [] 0) := (Heap.get?_update_ne _ _ _ _ ne.symm).trans (Heap.get?_push_at rfl rfl)
          have ep := putName_dict (g.nm x) (PyData.keyHash g.w.params (g.nm x)) (.str (g.nm x) (S.toks + 1)) vv [] 0
          have hD2 := Heap.get?_update_self (Obj.putName (g.nm x) (PyData.keyHash g.w.params (g.nm x)) (.str (g.nm x) (S.toks + 1)) vv) hD (by rw [ep]; rfl)
          rw [ep] at hD2
          have ha2 : (((S.heap.push emptyDict).update a (fun o => { o with dict := some S.heap.objs.size })).update S.heap.objs.size (Obj.putName (g.nm x) (PyData.keyHash g.w.params (g.nm x)) (.str (g.nm x) (S.toks + 1)) vv)).get? a = some ⟨.ref cl.addr, some S.heap.objs.size, .fields vs, sl⟩ :=
            (Heap.get?_update_ne _ _ _ _ ne).trans (Heap.get?_update_self _ hx₁ rfl)
          have oth : ∀ b o, b ≠ a → S.heap.get? b = some o → (((S.heap.push emptyDict).update a (fun o => { o with dict := some S.heap.objs.size })).update S.heap.objs.size (Obj.putName (g.nm x) (PyData.keyHash g.w.params (g.nm x)) (.str (g.nm x) (S.toks + 1)) vv)).get? b = some o := fun b o hb e =>
            (Heap.get?_update_ne _ _ _ _ (Nat.ne_of_lt (Heap.lt_size e))).trans ((Heap.get?_update_ne _ _ _ _ hb).trans (Heap.get?_push_of_some _ e))
          have F' : Fr c.h₀ c.L (((S.heap.push emptyDict).update a (fun o => { o with dict := some S.heap.objs.size })).update S.heap.objs.size (Obj.putName (g.nm x) (PyData.keyHash g.w.params (g.nm x)) (.str (g.nm x) (S.toks + 1)) vv)) m := by
            obtain ⟨oL, es, ep, a1, a2⟩ := F.ns
            exact ⟨⟨oL, es, ep, oth _ _ (Ne.symm own.1.1) a1, a2⟩, fun b o e => oth b o (fun z => by rw [z, own.1.2.1] at e; cases e) (F.keep b o e), F.above⟩
          have r' := putL_er GO (l := []) (es := []) (W := W) .nil x rv (S.toks + 1)
          have l1 := Le.set (D := S.heap.objs.size) hp
          refine hP _ (W.set n (a, some S.heap.objs.size)) (some S.heap.objs.size) l1 (H.dict (s' := s.set n (.inst cl.addr (put [] x v))) (o := .inst cl.addr (put [] x v)) F' E hp (fun b hb nb => ?_) ⟨_, ha2⟩ ⟨_, hD2⟩ (fun q => ?_) ⟨fun q => ?_, ?_, K.bigS F⟩ ok
            (.inr ⟨hx, vs, sl, ha2, .inr ⟨_, _, _, rfl, hD2, r'.le l1⟩, gx⟩) rfl rfl set_gets _) (by rw [List.getElem?_set_self (List.getElem?_eq_some_iff.mp hp).1]) (fun vs2 sl2 e => by
              rw [h2] at e; cases e; exact ha2)
          · obtain ⟨_, o, e⟩ := H.own b hb
            rw [e]; exact oth b o nb e
          · obtain ⟨_, o, e⟩ := H.own _ q
            exact absurd (lt_of_get e) (Nat.lt_irrefl _)
          · have := F.ns.lt
            rw [← q] at this
            exact Nat.lt_irrefl _ this
          · cases q : c.h₀.get? S.heap.objs.size with
            | none => rfl
            | some o => exact absurd (lt_of_get (F.keep _ _ q)) (Nat.lt_irrefl _)
        · rw [e1] at h2
          have hd : dx ∈ allA c W := mem_all (mem_adr2 hp e1)
          have ownd := H.own _ hd
          have r' := putL_er GO e3 x rv (S.toks + 1)
          have len : (putL (g.nm x) (PyData.keyHash g.w.params (g.nm x)) (.str (g.nm x) (S.toks + 1)) vv es).length ≤ 1000 := by
            rw [← F2.length r']
            exact szL_le ok
          have is : (getL (g.nm x) es).isSome = true := by
            rcases getL_er GO e3 x with ⟨_, b⟩ | ⟨_, _, _, b, _⟩ <;> rw [b] <;> rfl
          refine exc_set_some (H.kin K) h2 e2 CO.setattr XO.mro XO.dict ga.1 is len ?_
          have ep := putName_dict (g.nm x) (PyData.keyHash g.w.params (g.nm x)) (.str (g.nm x) (S.toks + 1)) vv es nn
          have hD2 := Heap.get?_update_self (Obj.putName (g.nm x) (PyData.keyHash g.w.params (g.nm x)) (.str (g.nm x) (S.toks + 1)) vv) e2 (by rw [ep]; rfl)
          rw [ep] at hD2
          have sb := Heap.SameBut.update S.heap dx (Obj.putName (g.nm x) (PyData.keyHash g.w.params (g.nm x)) (.str (g.nm x) (S.toks + 1)) vv)
          have ne1 : p.1 ≠ dx := by
            intro q
            rw [q, e2] at h2
            cases h2
          have h2' := (sb.2 p.1 ne1).trans h2
          have e2' : p.1 :: p.2.toList = [p.1, dx] := by rw [e1]; rfl
          refine hP _ W p.2 (Le.refl W) (H.upd (s' := s.set n (.inst cl.addr (put l x v))) (o := .inst cl.addr (put l x v)) (F.change sb ownd.1.1 ownd.1.2.1) E hp (fun b hb nb => sb.2 b fun q => nb (by rw [e2', q]; simp)) (fun b hb => ?_) ok
            (.inr ⟨hx, vs, sl, by rw [e1]; exact h2', .inr ⟨dx, _, _, e1, hD2, r'⟩, gx⟩) rfl rfl set_gets _) hp (fun vs2 sl2 e => by
              rw [e1, h2] at e; cases e; rw [e1]; exact h2')
          rw [e2'] at hb
          rcases List.mem_cons.mp hb with rfl | hb
          · exact ⟨_, h2'⟩
          · rw [List.mem_singleton] at hb
            subst hb
            exact ⟨_, hD2⟩
theorem xset (K : FOK g c) (GO : GOK g G) (XC : ∀ C cl, findCl G.cls C = some cl → g.isX C = true → XcOK g cl) {n : Nat} {C : Addr} {l : En} {va vv : Value} {v : V} {x : Nat} (ra : VR g W (.ref n) va) (rv : VR g W v vv) (q : s.get n = some (.inst C l)) (hx : g.isX C = true) :
    Snd g c d UR (setAttr va (g.nm x) vv) W s (setA G (.ref n) x v s) := by
  intro A S Q Er O H hP
  unfold setA at hP
  simp only [q] at hP
  split at hP
  · rename_i cl ec
    split at hP
    · rename_i hm
      rcases setR_cases () n (.inst C (put l x v)) s with ⟨w, e⟩ | ⟨ok, e⟩
      · rw [e] at hP; exact hP.elim
      · rw [e] at hP
        obtain ⟨p, hp, rfl, r⟩ := H.ofRef ra q
        exact xset_raw K GO XC ec hm ok hp rv q hx H fun S' W' dd' l' H' _ _ => hP S' W' () l' H' trivial
    · exact hP.elim
  · exact hP.elim
theorem xok (GO : GOK g G) (XC : ∀ C cl, findCl G.cls C = some cl → g.isX C = true → XcOK g cl) : XOK g G where
  get K ra q hx := xget K GO ra q hx
  set K ra rv q hx := xset K GO XC ra rv q hx
end Mine
namespace Mine
open PySem PySem.W PySem.Calls PyProof.Rows Builtin
noncomputable def makesXIn (K : Frag) (C : Addr) : Bool := match K.lookup C with
  | some ⟨oc, _, .cls cd, sl⟩ => oc == .type "type" && !cd.hasDel && (sl.toList[4]?).join == some (.builtin "Exception.__new__") && !cd.mro.isEmpty && cd.mro.contains (.ref C) && cd.mro.contains (.type "Exception") && cd.mro.contains (.type "BaseException") && !cd.mro.contains (.type "AttributeError") && !cd.mro.contains (.type "NameError") &&
      specialIn K (.ref C) "__call__" == some (some (.builtin "type.__call__")) && instIn K (.ref C) (.type "type") == some true
  | _ => false
structure MakesX (M : Model) (h : Heap) (C : Addr) : Prop where
  obj : ∃ od cd sl, h.get? C = some ⟨.type "type", od, .cls cd, sl⟩ ∧ cd.hasDel = false ∧ cd.mro.isEmpty = false
  made : Looks M h (Bind.madeBy (.ref C)) (some "Exception.__new__")
  base : Looks M h (Bind.staticBase (.ref C)) (.ref C)
  self : Looks M h (isSubtype (.ref C) (.ref C)) true
  exc : Looks M h (isSubtype (.ref C) (.type "Exception")) true
  bexc : Looks M h (isSubtype (.ref C) (.type "BaseException")) true
  attr : Looks M h (isSubtype (.ref C) (.type "AttributeError")) false
  name : Looks M h (isSubtype (.ref C) (.type "NameError")) false
  call : Looks M h (specialOf (.ref C) "__call__") (some (.builtin "type.__call__"))
  typ : Looks M h (isInstance (.ref C) (.type "type")) true
theorem makesX_of {K : Frag} {M : Model} {h : Heap} (X : K.In h) {C : Addr} (e : makesXIn K C = true) : MakesX M h C := by
  unfold makesXIn at e
  split at e
  · rename_i oc od cd sl ho
    simp only [Bool.and_eq_true, Bool.not_eq_true', beq_iff_eq] at e
    obtain ⟨⟨⟨⟨⟨⟨⟨⟨⟨⟨e0, e1⟩, e3⟩, e4⟩, e5⟩, e6⟩, e7⟩, e8⟩, e9⟩, e10⟩, e11⟩ := e
    subst e0
    have hc : clsIn K C = some cd := by unfold clsIn; rw [ho]
    have hm : Looks M h (mroOf (.ref C)) cd.mro := (looks_clsIn X hc).andThen .now
    obtain ⟨c, l, hl⟩ : ∃ c l, cd.mro = c :: l := by cases q : cd.mro with | nil => rw [q] at e4; cases e4 | cons c l => exact ⟨c, l, rfl⟩
    have made : Looks M h (Bind.madeBy (.ref C)) (some "Exception.__new__") := by
      intro A Q E s k q
      unfold Bind.madeBy
      refine wpAny_bind (hm A _ E s k ?_)
      rw [hl, List.forIn_cons]
      refine wpAny_bind (wpAny_bind (wpAny_bind (wpAny_bind (wpAny_loadPart (k _ _ (X _ _ ho)) (wpAny_pure ?_)))))
      dsimp only
      rw [← Array.getElem?_toList, e3]
      exact wpAny_pure (wpAny_pure (wpAny_pure q))
    have sub : ∀ {b : Value} {r : Bool}, cd.mro.contains b = r → mroIn K C b = some r := fun q => by unfold mroIn; rw [hc, Option.bind_some, if_neg (by rw [e4]; decide), q]
    refine ⟨⟨od, cd, sl, X _ _ ho, e1, e4⟩, made, ?_, looks_mroIn X (sub e5), looks_mroIn X (sub e6), looks_mroIn X (sub e7), looks_mroIn X (sub e8), looks_mroIn X (sub e9), looks_specialIn X e10, looks_instIn X e11⟩
    intro A Q E s k q
    unfold Bind.staticBase
    refine wpAny_bind (hm A _ E s k ?_)
    rw [hl, List.forIn_cons]
    exact wpAny_bind (wpAny_bind (wpAny_bind (made A _ E s k (wpAny_pure (wpAny_pure (wpAny_pure q))))))
  · cases e
noncomputable abbrev tupObj (rest : List Value) : Obj := { cls := .type "tuple", data := .seq rest.toArray }
noncomputable abbrev excObj (C t : Addr) : Obj := { cls := .ref C, data := .fields #[.ref t, .none, .none, .none, .bool false, .none] }
section
variable {prog : Program} {w : World} {A : Around} {K : Frag} {C : Addr} {R : Result → Shared → Prop} {h : Heap} {g : Array GenState} {d : Drawn} {t : Nat} {os : OsState}
theorem new_X {rest : List Value} (Y : MakesX (model prog w) h C) (hrest : rest.length ≤ sizeLine)
    (hq : R (.ok (.ret (.ref (h.objs.size + 1)))) ⟨(h.push (tupObj rest)).push (excObj C h.objs.size), g, d, t, os⟩) :
    codeAny (model prog w) A (.call (.builtin "Exception.__new__") ⟨.ref C :: rest, []⟩) R ⟨h, g, d, t, os⟩ := by
  have F := F.excBase_Exception
  obtain ⟨⟨od, cd, sl, hC, e2, e4⟩, made, base, self, exc, bexc, attr, name, call, typ⟩ := Y
  have hstar := F.noStar
  have here : Looks (model prog w) h (Bind.madeHere "BaseException.__new__" (.ref C)) () := base.andThen (made.andThen (Looks.of_pure (by simp only [Option.map_some, F.canon, bne_self_eq_false, Bool.false_eq_true, if_false])))
  refine codeAny_call_builtin_code (Code.quiet_builtin _ F.quiet) ?_
  simp only [checkBuiltinCall, F.newKind, F.newSplit, F.newRow]
  have args : Bind.checkArgs "Exception.__new__" ⟨.any, "Exception", "Exception", .cls, [⟨"args", .varPos, false⟩, ⟨"kwargs", .varKw, false⟩]⟩ ⟨.ref C :: rest, []⟩ = pure () := by kernel_rfl
  rw [args]
  repeat (first | simp only [bne_self_eq_false, Bool.false_eq_true, if_false] | lk)
  refine codeAny_builtinAt F.entry ?_
  unfold Builtin.«BaseException.__new__»
  refine PySem.wpAt_bind ?_
  show PySem.wpAt _ _ _ (stack >>= _) _ _ _
  refine PySem.wpAt_bind (PySem.wpAt_stack fun p below => PySem.wpAt_of_wpAny ?_)
  have hends := F.ends
  wp_walk
  refine PySem.wpAt_of_wpAny ?_
  rw [F.owner]
  repeat (first | simp only [bne_self_eq_false, Bool.false_eq_true, if_false] | lk)
  rw [if_neg (by rw [List.size_toArray]; exact Nat.not_lt.mpr hrest)]
  refine wpAny_newObjAsIs_type (wpAny_bind ?_)
  have e6 : (#[Value.ref h.objs.size, Value.none, Value.none, Value.none, Value.bool false, Value.none] ++ (List.replicate 0 (rawInt 0)).toArray : Array Value) = #[Value.ref h.objs.size, Value.none, Value.none, Value.none, Value.bool false, Value.none] := by simp
  rw [e6]
  unfold newObj
  dsimp only
  rw [if_neg (by rw [sizeLine_eq]; simp)]
  unfold newObjAsIs classHasDel
  dsimp only
  have hC₁ := Heap.get?_push_of_some (excObj C h.objs.size) (Heap.get?_push_of_some (tupObj rest) hC)
  refine wpAny_bind (wpAny_alloc (wpAny_bind (wpAny_bind (wpAny_load hC₁ (wpAny_pure ?_)))))
  dsimp only
  rw [e2]
  refine wpAny_pure (wpAny_pure ?_)
  show R _ _
  rw [Heap.size_push]
  exact hq
theorem make_X {rest : List Value} {init : Value} (Y : MakesX (model prog w) h C) (hi : Looks (model prog w) h (typeLookup (.ref C) "__init__") (some init))
    (hb : ∀ self, Looks (model prog w) h (bindSpecial init self) (init, [self])) (hrest : rest.length ≤ sizeLine)
    (hq : codeAny (model prog w) (A.under (.builtin "type.__call__" ⟨.ref C :: rest, []⟩)) (.call init ⟨.ref (h.objs.size + 1) :: rest, []⟩) (InitBack (h.objs.size + 1) R) ⟨(h.push (tupObj rest)).push (excObj C h.objs.size), g, d, t, os⟩) :
    codeAny (model prog w) A (.call (.ref C) ⟨rest, []⟩) R ⟨h, g, d, t, os⟩ := by
  have Y' := Y
  obtain ⟨⟨od, cd, sl, hC, e2, e4⟩, made, base, self, exc, bexc, attr, name, call, typ⟩ := Y
  refine codeAny_of_tree ?_
  show wpAny _ _ (callAny (.ref C) _) _ _ _
  refine nd_load hC ?_
  show wpAny _ _ (callAny.viaDunder (.ref C) _) _ _ _
  unfold callAny.viaDunder
  refine wpAny_bind (call.at ?_)
  dsimp only
  rw [tc_bind]
  refine wpAny_bind (wpAny_pure (wpAny_bind (wpAny_pure ?_)))
  refine wpAny_pure (a := Fin.again (.call (.builtin "type.__call__") ⟨.ref C :: rest, []⟩)) (And.intro rfl ?_)
  refine codeAny_call_builtin_at (Code.quiet_builtin _ (by decide +kernel)) entry_typeCall (check_slot tc_kind tc_split typ (tc_args _ _ _) ?_)
  unfold Builtin.«type.__call__»
  have hm : Looks (model prog w) h (mroOf (.ref C)) cd.mro := ((Looks.ld (part := none) hC).andThen .now).andThen .now
  repeat (first | simp only [e4, Bool.false_eq_true, if_false] | with_reducible refine wpAny_call ?_ | lk)
  refine new_X Y' hrest ?_
  have k : ∀ b o, h.get? b = some o → ((h.push (tupObj rest)).push (excObj C h.objs.size)).get? b = some o := fun b o e => Heap.get?_push_of_some _ (Heap.get?_push_of_some _ e)
  have hx : ((h.push (tupObj rest)).push (excObj C h.objs.size)).get? (h.objs.size + 1) = some (excObj C h.objs.size) := by heap_get
  have t1 : Looks (model prog w) ((h.push (tupObj rest)).push (excObj C h.objs.size)) (typeOf (.ref (h.objs.size + 1))) (.ref C) := (Looks.ld hx).andThen .now
  have s1 := self.keeps k
  have i1 := hi.keeps k
  have b1 := (hb (.ref (h.objs.size + 1))).keeps k
  unfold isInstance callSpecial? specialOf
  repeat (first | with_reducible refine wpAny_call ?_ | lk)
  refine codeAny_mono hq fun r s' z => ?_
  rcases r with e | (v | _ | _ | _) <;> first | exact z | exact z.elim | skip
  obtain ⟨rfl, z⟩ := z
  exact wpAny_pure (wpAny_pure z)
end
end Mine
namespace Mine
open PySem PySem.W PySem.Calls PyProof.Rows Builtin
section
variable {prog : Program} {w : World} {A : Around} {K : Frag} {C : Addr}
theorem raise_tail {s : Shared} {E : Value → Shared → Prop} {env : Env} {x : Sem Value} {Q : Flow → Shared → Prop} (hh : A.handled = none)
    (h : wpAny (model prog w) A x (fun v s₁ => ∃ e dd vs sl, v = .ref e ∧ MakesX (model prog w) s₁.heap C ∧ s₁.heap.get? e = some ⟨.ref C, dd, .fields vs, sl⟩ ∧ vs[1]? = some .none ∧ E (.ref e) s₁) E s) : wpAny (model prog w) A (raiseStmt env (some x) none) Q E s := by
  unfold raiseStmt
  refine wpAny_bind (wpAny_mono h (fun v s₁ h₁ => ?_) fun _ _ x => x)
  obtain ⟨e, dd, vs, sl, rfl, Y, he, hv, hE⟩ := h₁
  obtain ⟨hp, g, d, tk, os⟩ := s₁
  obtain ⟨⟨od, cd, sl, hC, e2, e4⟩, made, base, self, exc, bexc, attr, name, call, typ⟩ := Y
  dsimp only at he hC bexc
  repeat (first | simp only [Bool.false_eq_true, if_false] | lk)
  rw [hv]
  refine wpAny_pure ?_
  rw [if_neg (by decide)]
  exact wpAny_pure (wpAny_raiseNew_none hh hE)
end
end Mine
namespace Mine
open PySem PySem.W PySem.Calls PyProof.Rows
variable {g : Gx} {G : Cfg} {c : FC} {d : Nat} {W : Wd} {s : St} {S : Shared}
theorem Here.congr {s s' : St} (H : Here g c W s S) (e1 : s'.env = s.env) (e2 : s'.n = s.n) (e3 : ∀ i q, s'.get i = some q → s.get i = some q) : Here g c W s' S :=
  ⟨by rw [e1]; exact H.fr, fun n o h => H.obj n o (e3 n o h), by rw [e2]; exact H.len, H.nodup, H.own, H.gens, H.drawn, H.os⟩
theorem asg_inv {nm : Nat → Str} {k x y : Nat} {st : Stmt} (h : agS nm (.asg (.attr (.nm k) x) (.nm y)) st = true) : ∃ p1 p2 p3 t' p, st = .Assign [t'] (.Name (nm y) p3) p ∧ t' = .Attribute (.Name (nm k) p1) (nm x) p2 ∧ noComp (.Name (nm y) p3) = true ∧ noSwap (.Name (nm y) p3) t' = true := by
  have q := agS_inv h
  clear h
  cases q with
  | @asg t e t' e' p h0 h1 h2 h3 =>
  obtain ⟨p3, rfl⟩ := ag_nm h3
  cases agT_inv h2 with
  | @attr o x' o' p' h5 =>
  obtain ⟨p1, rfl⟩ := ag_nm h5
  exact ⟨p1, p', p3, _, p, rfl, rfl, h0, h1⟩
theorem initL_nil {self : Nat} {en l : En} : initL self en .nil l = some l := rfl
theorem initL_inv {self : Nat} {en : En} {b : X} {l L : En} (h : initL self en b l = some L) : (b = .nil ∧ l = L) ∨ ∃ x y b' v, b = .cons (.asg (.attr (.nm self) x) (.nm y)) b' ∧ look en y = some v ∧ initL self en b' (put l x v) = some L := by
  cases b with
  | nil => cases h; exact .inl ⟨rfl, rfl⟩
  | cons a b =>
    unfold initL at h
    split at h
    · rename_i k x y
      split at h
      · rename_i hk
        rw [natbeq, decide_eq_true_iff] at hk
        subst hk
        split at h
        · rename_i v e
          exact .inr ⟨x, y, b, v, rfl, e, h⟩
        · cases h
      · cases h
    · cases h
  | _ => cases h
theorem put_sub (l : En) (x : Nat) (v : V) : ∀ p ∈ l, ∃ q ∈ put l x v, q.1 = p.1 := by
  induction l with
  | nil => intro p h; cases h
  | cons a l ih =>
    intro p h
    rw [put_cons]
    by_cases e : a.1 = x
    · rw [if_pos e]
      rcases List.mem_cons.mp h with rfl | h
      · exact ⟨_, .head _, rfl⟩
      · exact ⟨p, .tail _ h, rfl⟩
    · rw [if_neg e]
      rcases List.mem_cons.mp h with rfl | h
      · exact ⟨_, .head _, rfl⟩
      · obtain ⟨q, a, b⟩ := ih p h
        exact ⟨q, .tail _ a, b⟩
theorem put_has (l : En) (x : Nat) (v : V) : ∃ q ∈ put l x v, q.1 = x := by
  induction l with
  | nil => exact ⟨_, .head _, rfl⟩
  | cons a l ih =>
    rw [put_cons]
    by_cases e : a.1 = x
    · rw [if_pos e]; exact ⟨_, .head _, e⟩
    · rw [if_neg e]; obtain ⟨q, a, b⟩ := ih; exact ⟨q, .tail _ a, b⟩
theorem initL_sub {self : Nat} {en : En} : ∀ {b : X} {l L : En}, initL self en b l = some L → l.length ≤ L.length ∧ ∀ p ∈ l, ∃ q ∈ L, q.1 = p.1 := by
  intro b
  induction b with
  | cons a b _ ihb =>
    intro l L h
    rcases initL_inv h with ⟨q, _⟩ | ⟨x, y, b', v, q, e, h2⟩
    · cases q
    · cases q
      obtain ⟨h3, h4⟩ := ihb h2
      refine ⟨Nat.le_trans (put_len l x v) h3, fun p hp => ?_⟩
      obtain ⟨q, h5, h6⟩ := put_sub l x v p hp
      obtain ⟨r, h7, h8⟩ := h4 q h5
      exact ⟨r, h7, h8.trans h6⟩
  | nil =>
    intro l L h
    cases h
    exact ⟨Nat.le_refl _, fun p hp => ⟨p, hp, rfl⟩⟩
  | _ => intro l L h; cases h
theorem init_body (K : FOK g c) (GO : GOK g G) (XC : ∀ C cl, findCl G.cls C = some cl → g.isX C = true → XcOK g cl) {n self : Nat} {C : Addr} {cl : Cl} (ec : findCl G.cls C = some cl) (hx : g.isX C = true) {A : Around} {Q : Flow → Shared → Prop} {Er : Value → Shared → Prop} {vs : Array Value} {sl : Array (Option Value)} {L : En}
    (okL : Mine.okO (.inst C L) = true) (atL : ∀ p ∈ L, memN p.1 cl.attrs = true) {a : Addr} : ∀ (b : X) (ss : List Stmt) (l : En) (W : Wd) (s : St) (S : Shared) (dd : Option Addr), agSs g.nm b ss = true → initL self s.env b l = some L → look s.env self = some (.ref n) → s.get n = some (.inst C l) →
      W[n]? = some (a, dd) → S.heap.get? a = some ⟨.ref C, dd, .fields vs, sl⟩ → Here g c W s S →
      (∀ s' S' W' dd', s'.env = s.env → s'.n = s.n → (∀ i, s'.get i = if i = n then some (.inst C L) else s.get i) → Le W W' → Here g c W' s' S' → W'[n]? = some (a, dd') → S'.heap.get? a = some ⟨.ref C, dd', .fields vs, sl⟩ → Q .next S') →
      wpAny (model g.prog g.w) A (execs ss c.env) Q Er S := by
  intro b
  induction b with
  | cons b1 b2 _ ihb =>
    intro ss l W s S dd hag hin hse hg hw ho H hQ
    rcases initL_inv hin with ⟨q, _⟩ | ⟨x, y, b', v, q, ey, h2⟩
    · cases q
    cases q
    rcases agSs_inv hag with ⟨q, _⟩ | ⟨_, _, st, ss', q, rfl, h3, h4⟩
    · cases q
    cases q
    obtain ⟨p1, p2, p3, t', p, rfl, rfl, h5, h6⟩ := asg_inv h3
    have nmS : nameV self c.F s = .ok (.ref n) s := by unfold nameV; rw [hse]
    have nmY : nameV y c.F s = .ok v s := by unfold nameV; rw [ey]
    obtain ⟨len, sub⟩ := initL_sub h2
    have ok : Mine.okO (.inst C (put l x v)) = true := Nat.ble_eq_true_of_le (Nat.le_trans len (szL_le okL))
    have hm : memN x cl.attrs = true := by
      obtain ⟨q, a1, a2⟩ := put_has l x v
      obtain ⟨r, b1, b2⟩ := sub q a1
      have := atL r b1
      rw [b2, a2] at this
      exact this
    refine wpAny_execs_cons (wpAny_Assign_stores ?_ (swapsSole_no h5 _ _ _) (swapped_no h6 _))
    refine name_same K H y p3 nmY fun vv rv => ?_
    show wpAny _ A (assign (.Attribute (.Name (g.nm self) p1) (g.nm x) p2) c.env vv) _ Er S
    rw [arm_assign_Attribute]
    refine wpAny_bind (wpAny_holding (name_same K H self p1 nmS fun ov ro => ?_))
    obtain ⟨pp, hpp, rfl⟩ := ro
    rw [hw] at hpp
    cases hpp
    refine wpAny_bind (wpAny_standAt (wpAny_bind (wpAny_holding ?_)))
    refine xset_raw K GO XC ec hm ok hw rv hg hx H fun S1 W1 dd1 l1 H1 w1 k1 => ?_
    refine wpAny_release ?_
    have g1 : ∀ i, (s.set n (.inst C (put l x v))).get i = if i = n then some (.inst C (put l x v)) else s.get i := fun i => by
      show (s.h.set _ n).get i = _
      have hg' : s.h.get n = some (.inst C l) := hg
      rw [Tr.get_set]
      by_cases e : i = n
      · subst e; simp [hg']
      · rw [if_neg (fun q => e q.1), if_neg e]; rfl
    refine ihb ss' (put l x v) W1 (s.set n (.inst C (put l x v))) S1 dd1 h4 h2 hse (by rw [g1, if_pos rfl]) w1 (k1 _ _ ho) H1 fun s' S' W' dd' e1 e2 e3 l' H' w' o' => ?_
    refine hQ s' S' W' dd' e1 e2 (fun i => ?_) (l1.trans l') H' w' o'
    rw [e3]
    by_cases e : i = n
    · rw [if_pos e, if_pos e]
    · rw [if_neg e, if_neg e, g1, if_neg e]
  | nil =>
    intro ss l W s S dd hag hin hse hg hw ho H hQ
    cases hin
    rcases agSs_inv hag with ⟨_, rfl⟩ | ⟨_, _, _, _, q, _⟩
    · refine wpAny_execs_nil (hQ s S W dd rfl rfl (fun i => ?_) (Le.refl W) H hw ho)
      by_cases e : i = n
      · rw [if_pos e, e]; exact hg
      · rw [if_neg e]
    · cases q
  | _ => intro ss l W s S dd hag hin; cases hin
end Mine
namespace Mine
open PySem PySem.W PySem.Calls PyProof.Rows
variable {g : Gx} {G : Cfg} {c : FC} {d : Nat} {W : Wd} {s : St} {S : Shared}
theorem def_call (GO : GOK g G) (K : FOK g c) {F : Fn} {oc : Value} {od : Option Addr} {osl : Array (Option Value)} {fd : FuncData} {body : List Stmt} (ho : g.K.lookup F.addr = some ⟨oc, od, .func fd, osl⟩) (E : EntOK g F fd body)
    {l : List V} {vs : List Value} {en : En} (rv : VRs g W l vs) (hbi : binds F l = some en) {A : Around} {R : Result → Shared → Prop} (room : A.depth < recursionLimit) (H : Here g c W s S)
    (go : ∀ (cells : List (Str × Addr)) (h₁ : Heap) (tk : Nat), Here g (callee c W S F fd cells) W { s with env := en } { S with heap := h₁, toks := tk } → (∀ b o, S.heap.get? b = some o → h₁.get? b = some o) →
      wpAny (model g.prog g.w) (A.deeper (callee c W S F fd cells).env) (execs body (callee c W S F fd cells).env) (fun f s' => R (.ok (.ret (match f with | .ret v => v | _ => .none))) s')
        (fun e s' => wpAny (model g.prog g.w) (A.deeper (callee c W S F fd cells).env) («leaving» (callee c W S F fd cells).env e) (fun _ s'' => R (.error e) s'') (fun e' s'' => R (.error e') s'') s') { S with heap := h₁, toks := tk }) :
    codeAny (model g.prog g.w) A (.call (.ref F.addr) ⟨vs, []⟩) R S := by
  have X := H.kin K
  obtain ⟨p, loose, mg, mb, T⟩ := K.top
  obtain ⟨m₀, Fr₀, E₀⟩ := H.fr
  have hlim : S.heap.NoLimit := T.nolimit.keeps Fr₀.keep
  have nd : (en.map fun p => g.nm p.1).Nodup := by
    have := nodup_map_nm GO E.nd
    rw [← binds_keys hbi, List.map_map] at this
    exact this
  rcases E.kind with ⟨k1, k2, k3, k4⟩ | ⟨k1, k2, k5, k3⟩
  · obtain ⟨bs, hB, rb⟩ := k4 W l en vs S hbi rv X
    have nb : (bs.map (·.1)).Nodup := by rw [kr_keys rb]; exact nd
    refine codeAny_call_def (fd := fd) (body := body) room (X _ _ ho) rfl hlim (codeRec_of X E.code) E.bdy hB k2 (fun y hy => ?_) (fun h₁ hns hk₁ => ?_) E.co E.gen E.fn.kind
    · have : y.1 ∈ en.map fun p => g.nm p.1 := by rw [← kr_keys rb]; exact List.mem_map.mpr ⟨y, hy, rfl⟩
      obtain ⟨p, hp, e⟩ := List.mem_map.mp this
      rw [← e]
      refine E.fn.locs _ (k3 _ ?_)
      rw [← binds_keys hbi]
      exact List.mem_map.mpr ⟨p, hp, rfl⟩
    · rw [callEnv_eq E c W S]
      refine go [] h₁ _ (callee_here H K _ hns hk₁ (fun x v e => ?_) (fun b hb => nomatch hb) List.nodup_nil) hk₁
      obtain ⟨val, m1, m2, m3⟩ := kr_look rb e
      refine .inl ⟨k3 x (by rw [← binds_keys hbi]; exact m3), val, ?_, m2⟩
      exact lookup_of_mem (by rw [List.map_reverse]; exact List.pairwise_reverse.mpr (nb.imp Ne.symm)) (List.mem_reverse.mpr m1)
  · obtain ⟨bs, hB, rb⟩ := k3 W l en vs hbi rv
    have nb : (bs.map (·.1)).Nodup := by rw [kr_keys rb]; exact nd
    have keyIn : ∀ y ∈ bs, ∃ x ∈ F.ps, g.nm x = y.1 := fun y hy => by
      have : y.1 ∈ en.map fun p => g.nm p.1 := by rw [← kr_keys rb]; exact List.mem_map.mpr ⟨y, hy, rfl⟩
      obtain ⟨p, hp, e⟩ := List.mem_map.mp this
      exact ⟨p.1, by rw [← binds_keys hbi]; exact List.mem_map.mpr ⟨p, hp, rfl⟩, e⟩
    refine codeAny_call_cells (fd := fd) (body := body) room (X _ _ ho) rfl hlim (codeRec_of X E.code) E.bdy hB E.cl (fun y hy => ?_) (fun s₁ Y => ?_) E.co E.gen E.fn.kind
    · obtain ⟨x, hx, e⟩ := keyIn y hy
      rw [← e]
      rcases k1 x hx with q | q
      · exact .inl (E.fn.locs x q)
      · exact .inr ⟨E.fn.cel x q, k2 x q _⟩
    · rw [callEnvC_eq E c W S] at Y ⊢
      obtain ⟨h₁, tk, rfl, _⟩ := Y.done
      refine go _ h₁ tk (callee_here H K tk Y.toInCall.ns Y.toInCall.keep (fun x v e => ?_) (fun b hb => ?_) ?_) Y.toInCall.keep
      · obtain ⟨val, m1, m2, m3⟩ := kr_look rb e
        rw [binds_keys hbi] at m3
        rcases k1 x m3 with q | q
        · exact .inl ⟨q, val, bindL_ok nb m1 (E.fn.locs x q), m2⟩
        · obtain ⟨ad, had⟩ := Option.isSome_iff_exists.mp (k2 x q S.heap.objs.size)
          refine .inr ⟨q, ad, val, had, ?_, m2⟩
          have := Y.cell (g.nm x) ad had
          rw [bindC_ok nb m1 (by show fd.scope.names.lookup (g.nm x) ≠ _; rw [E.fn.cel x q]; decide)] at this
          exact this
      · obtain ⟨p, hp, e⟩ := List.mem_map.mp hb
        subst e
        have h1 := Y.above p.1 p.2 hp
        obtain ⟨o, ho, _⟩ := Y.cell p.1 p.2 (lookup_of_mem (k5 _) hp)
        exact ⟨h1, o, ho⟩
      · exact (List.pairwise_map.mpr Y.apart)
theorem zipE_head {x : Nat} {xs : List Nat} {v : V} {vs : List V} {en : En} (h : zipE (x :: xs) (v :: vs) = some en) : look en x = some v := by
  unfold zipE at h
  split at h
  · cases h
    rw [look_cons, if_pos rfl]
  · cases h
theorem binds_head {F : Fn} {x : Nat} {xs : List Nat} {v : V} {vs : List V} {en : En} (e : F.ps = x :: xs) (h : binds F (v :: vs) = some en) : look en x = some v := by
  unfold binds at h
  rw [e] at h
  split at h
  · exact zipE_head h
  · exact zipE_head (vs := _) h
theorem init_call (GO : GOK g G) (K : FOK g c) (XC : ∀ C cl, findCl G.cls C = some cl → g.isX C = true → XcOK g cl) {F : Fn} {oc : Value} {od : Option Addr} {osl : Array (Option Value)} {fd : FuncData} {body : List Stmt} (hl : g.K.lookup F.addr = some ⟨oc, od, .func fd, osl⟩) (E : EntOK g F fd body)
    {n self : Nat} {ps : List Nat} {C : Addr} {cl : Cl} (ec : findCl G.cls C = some cl) (hx : g.isX C = true) {l : List V} {vals : List Value} {en L : En} (rv : VRs g W (.ref n :: l) vals) (hbi : binds F (.ref n :: l) = some en) (hps : F.ps = self :: ps) (hin : initL self en F.body [] = some L)
    (okL : Mine.okO (.inst C L) = true) (atL : ∀ p ∈ L, memN p.1 cl.attrs = true) {a : Addr} {vs : Array Value} {sl : Array (Option Value)} (hw : W[n]? = some (a, none)) (hg : s.get n = some (.inst C [])) (ha : S.heap.get? a = some ⟨.ref C, none, .fields vs, sl⟩)
    {A : Around} {R : Result → Shared → Prop} (room : A.depth < recursionLimit) (H : Here g c W s S)
    (hQ : ∀ s' S' W' dd', s'.env = s.env → s'.n = s.n → (∀ i, s'.get i = if i = n then some (.inst C L) else s.get i) → Le W W' → Here g c W' s' S' → W'[n]? = some (a, dd') → S'.heap.get? a = some ⟨.ref C, dd', .fields vs, sl⟩ → R (.ok (.ret .none)) S') :
    codeAny (model g.prog g.w) A (.call (.ref F.addr) ⟨vals, []⟩) R S := by
  refine def_call GO K hl E rv hbi room H fun cells h₁ tk Hc hk => ?_
  have Kc := callee_ok GO K H E.fn E.nl cells
  refine init_body Kc GO XC ec hx okL atL F.body body [] W { s with env := en } _ none E.ag hin (binds_head hps hbi) hg hw (hk _ _ ha) Hc fun s' S' W' dd' e1 e2 e3 l' H' w' o' => ?_
  have H2 := Here.back H K l' (Slt.refl _ _) (h₃ := c.h₀) H' rfl (fun b o e => emb H e) (fun b e => e)
  exact hQ { s' with env := s.env } S' W' dd' rfl e2 e3 l' H2 w' o'
theorem snd_callWith' {β δ : Type} {R' : Wd → δ → β → Prop} {r : Rc} (Gd : GoodE g G r d) (K : FOK g c) {l : X} {es : List Expr} (h : ags g.nm l es = true) {vf : Value} {first : List Value} {pos : Pos} {k : List V → St → Res δ} {A : Around} {Q : β → Shared → Prop} {Q1 : Value → Shared → Prop} {Er : Value → Shared → Prop}
    (O : AOK c d A) (H : Here g c W s S) (hP : Post g c R' W ((evs r c.F l s).bind k) Q Er)
    (n : ∀ b s' W' a S', Le W W' → VRs g W' b a → Here g c W' s' S' → Post g c R' W' (k b s') Q Er → Keeps (model g.prog g.w) g.K vf ∧ wpAny (model g.prog g.w) A (call vf (first ++ a)) Q1 Er S') :
    wpAny (model g.prog g.w) A (callWith pos vf first (backTo pos (starEach es c.env)) []) Q1 Er S := by
  refine callWith_of (P := fun h => ∃ k, (k = Keeper.frame ∨ k = Keeper.machine ∨ k = Keeper.boundFrame) ∧ Looks (model g.prog g.w) h (keeperOf vf) k) ?_ (fun _ p => p) (evalArgs_sp h ?_)
  · rw [any_star h]; rfl
  · refine hP.step (snd_evs Gd K l es W s h) O H fun b s' W' a S' l' r' H' hP' => ?_
    obtain ⟨kp, w⟩ := n b s' W' a S' l' r' H' hP'
    exact ⟨kp _ (H'.kin K), w⟩
structure RxOK (g : Gx) (G : Cfg) : Prop where
  makes : makesXIn g.K G.exc = true
  keep : keepIn g.K (.ref G.exc) = true
  init : findIn g.K (.ref G.exc) "__init__" = some (some (.ref G.excInit))
  fn : typeIn g.K (.ref G.excInit) = some (.type "function")
  XC : ∀ C cl, findCl G.cls C = some cl → g.isX C = true → XcOK g cl
theorem mkExc_inv {gv : V} {as : List V} (h : ∀ w, mkExc G gv as s ≠ .bad w) : gv = .cl G.exc ∧ szL as = true ∧ ∃ F self ps en L cl s1, findFn G.fns G.excInit = some F ∧ F.ps = self :: ps ∧ binds F (.ref s.n :: as) = some en ∧ initL self en F.body [] = some L ∧ findCl G.cls G.exc = some cl ∧ (∀ p ∈ L, memN p.1 cl.attrs = true) ∧
    push (.inst G.exc []) s = .ok (.ref s.n) s1 ∧ Mine.okO (.inst G.exc L) = true ∧ mkExc G gv as s = .exc s.n (s1.set s.n (.inst G.exc L)) := by
  unfold mkExc at h
  split at h
  rotate_left
  · exact (h _ rfl).elim
  rename_i a
  split at h
  rotate_left
  · exact (h _ rfl).elim
  rename_i ha
  have ha' := ha
  rw [natbeq, decide_eq_true_iff] at ha
  subst ha
  split at h
  rotate_left
  · exact (h _ rfl).elim
  rename_i hs
  unfold mkExcF at h
  split at h
  rotate_left
  · exact (h _ rfl).elim
  rename_i F hF
  split at h
  rotate_left
  · exact (h _ rfl).elim
  rename_i self ps hps
  unfold mkExcB at h
  split at h
  rotate_left
  · exact (h _ rfl).elim
  rename_i en hen
  unfold mkExcI at h
  split at h
  rotate_left
  · exact (h _ rfl).elim
  rename_i L hL
  split at h
  rotate_left
  · exact (h _ rfl).elim
  rename_i hat
  have hcl : ∃ cl, findCl G.cls G.exc = some cl ∧ ∀ p ∈ L, memN p.1 cl.attrs = true := by
    unfold attrsIn at hat
    split at hat
    · rename_i cl hc
      exact ⟨cl, hc, fun p hp => List.all_eq_true.mp hat p hp⟩
    · cases hat
  obtain ⟨cl, hc, hat'⟩ := hcl
  unfold mkExcL at h
  rcases push_cases (.inst G.exc []) s with ⟨w, e⟩ | ⟨ok, s', e, en', n', gt⟩
  · rw [e] at h; exact (h _ rfl).elim
  · rw [e, bind_ok] at h
    rcases setR_cases () s.n (.inst G.exc L) s' with ⟨w, e2⟩ | ⟨ok2, e2⟩
    · rw [e2] at h; exact (h _ rfl).elim
    · refine ⟨rfl, hs, F, self, ps, en, L, cl, s', hF, hps, hen, hL, hc, hat', e, ok2, ?_⟩
      unfold mkExc
      simp only [ha', hs]
      unfold mkExcF
      rw [hF]
      simp only [hps]
      unfold mkExcB
      rw [hen]
      simp only
      unfold mkExcI
      rw [hL]
      simp only [hat]
      unfold mkExcL
      rw [e, bind_ok, e2, bind_ok]
theorem rais_ok (GO : GOK g G) (TA : TabOK g G) (RX : RxOK g G) : RaisOK g G where
  rais {r d} Gd GF c W s n l np es cp p K hag := by
    intro A S Q Er O H hP
    have hP' : Post g c (FR g) W (@Bool.rec (fun _ => Res Fl) ((nameV n c.F s).bind fun gv s => (evs r c.F l s).bind fun as s => mkExc G gv as s) (.bad 90) c.F.bz) Q Er := hP
    cases hb : c.F.bz with
    | true => rw [hb] at hP'; exact hP'.elim
    | false =>
    rw [hb] at hP'
    have hP' : Post g c (FR g) W ((nameV n c.F s).bind fun gv s => (evs r c.F l s).bind fun as s => mkExc G gv as s) Q Er := hP'
    have hx : g.isX G.exc = true := by rw [GO.exc]; exact Nat.beq_refl _
    rw [arm_exec_Raise]
    refine wpAny_bind (wpAny_standAt (raise_tail (C := G.exc) (O.hand hb) (wpAny_bind (wpAny_mono (wpAny_Call_ofName ?_) (fun v s₃ h₃ => wpAny_bind (wpAny_standAt (wpAny_pure h₃))) fun _ _ x => x))))
    refine hP'.step (snd_name K n np) O H fun gv s1 W1 val S1 l1 r1 H1 hP1 => ?_
    have nb : ∀ vs s2, (∀ w, mkExc G gv vs s2 ≠ .bad w) → val = .ref G.exc := fun vs s2 h => by
      obtain ⟨e, _⟩ := mkExc_inv h
      subst e
      exact r1
    refine snd_callWith' (Gd.le (Nat.le_succ d)) K hag O H1 hP1 fun vs s2 W2 vals S2 l2 r2 H2 hP2 => ?_
    obtain ⟨rfl, hs, F, self, ps, en, L, cl, s3, hF, hps, hen, hL, hc, hat, hpu, okL, e⟩ := mkExc_inv hP2.ne_bad
    rw [e] at hP2
    have r1 : val = .ref G.exc := r1
    subst r1
    refine ⟨keeps_K RX.keep, ?_⟩
    refine wpAny_of_code ?_
    have X2 := H2.kin K
    obtain ⟨m, Fr2, E2⟩ := H2.fr
    have len : vals.length ≤ sizeLine := by rw [← F2.length r2]; exact sizeLine_ok (szL_le hs)
    obtain ⟨eF, _, oc, od, osl, fd, body, hl, EO⟩ := TA.ent _ F hF
    have room : (A.under (.builtin "type.__call__" ⟨.ref G.exc :: vals, []⟩)).depth < recursionLimit := by
      have h := (under_ok (C := G.exc) (vals := vals) O).depth
      show (A.under (.builtin "type.__call__" ⟨.ref G.exc :: vals, []⟩)).depth < 1000
      omega
    have ns := (H2.news.push Fr2 (tupObj vals)).push (Fr2.push _) (excObj G.exc S2.heap.objs.size)
    rw [Heap.size_push] at ns
    have F' := (Fr2.push (tupObj vals)).push (excObj G.exc S2.heap.objs.size)
    have bg := K.bigS Fr2
    obtain ⟨hh, gg, dd, tt, os⟩ := S2
    refine make_X (makesX_of X2 RX.makes) (looks_findIn X2 RX.init) (fun self => bind_fn X2 self RX.fn) len ?_
    rcases push_cases (.inst G.exc []) s2 with ⟨w, e'⟩ | ⟨ok, s', e', en', n', gt⟩
    · rw [e'] at hpu; cases hpu
    rw [e'] at hpu
    cases hpu
    have k := led_same H2 fun p hp => ns p (.tail _ (.tail _ hp))
    obtain ⟨x1, x2, x3⟩ := ns (hh.objs.size + 1, excObj G.exc hh.objs.size) (.head _)
    have lt : ∀ b ∈ allA c W2, b < hh.objs.size := fun b hb => let ⟨_, o, e⟩ := H2.own b hb; lt_of_get e
    have bg : g.base.objs.size ≤ hh.objs.size := bg
    have H' := H2.push (p := (hh.objs.size + 1, none)) (o := .inst G.exc []) F' E2 k (by simp) (fun b hb => by
      have hb' : b = hh.objs.size + 1 := by simpa using hb
      subst hb'
      exact ⟨fun q => by have : hh.objs.size + 1 < hh.objs.size := lt _ q; omega, ⟨x2, x3, by omega⟩, _, x1⟩) ok (.inr ⟨hx, _, _, x1, .inl ⟨rfl, rfl⟩, fun x v q => by rw [look_nil] at q; cases q⟩) en' n' gt tt
    have l3 : Le W2 (W2 ++ [(hh.objs.size + 1, none)]) := Le.push _ _
    have hw : (W2 ++ [(hh.objs.size + 1, none)])[s2.n]? = some (hh.objs.size + 1, none) := by rw [H2.len]; simp
    have rx : VR g (W2 ++ [(hh.objs.size + 1, none)]) (.ref s2.n) (.ref (hh.objs.size + 1)) := ⟨_, hw, rfl⟩
    rw [← eF]
    refine init_call GO K RX.XC hl EO hc hx (.cons rx (r2.le l3)) hen hps hL okL hat hw (by rw [gt, if_pos rfl]) x1 room H' fun s' S' W' dd' e1 e2 e3 l' H3 w' o' => ?_
    refine ⟨rfl, hh.objs.size + 1, dd', _, _, rfl, makesX_of (H3.kin K) RX.makes, o', rfl, ?_⟩
    have g3 : ∀ i q, (s3.set s2.n (.inst G.exc L)).get i = some q → s'.get i = some q := fun i q hq => by
      rw [e3]
      rcases set_gets i q hq with ⟨h1, h2⟩ | ⟨h1, h2⟩
      · rw [if_pos h1, h2]
      · rw [if_neg h1]; exact h2
    have H4 : Here g c W' (s3.set s2.n (.inst G.exc L)) S' := H3.congr e1.symm e2.symm g3
    refine hP2 S' W' _ (l3.trans l') ⟨c.h₀, Slt.refl _ _, K, H4, ⟨G.exc, L, ?_, hx⟩, (hh.objs.size + 1, dd'), _, _, w', rfl, o', rfl, Nat.lt_of_sub_pos (by simp), .inl ⟨rfl, rfl⟩⟩
    show (s3.h.set _ s2.n).get s2.n = _
    have gx : s3.h.get s2.n = some (.inst G.exc []) := by have := gt s2.n; rw [if_pos rfl] at this; exact this
    rw [Tr.get_set, gx]
    simp
end Mine
namespace Mine
open PySem PySem.W PySem.Calls PyProof.Rows Builtin
variable {g : Gx} {G : Cfg} {c : FC} {d : Nat} {W : Wd} {s : St} {S : Shared}
theorem snd_lst (GO : GOK g G) (K : FOK g c) (hb : c.F.bz = false) {l : List V} {vs : List Value} (r : VRs g W l vs) : Snd g c d (VR g) (call (.type "list") vs) W s (cList l s) := by
  intro A S Q Er O H hP
  unfold cList at hP
  split at hP
  · rename_i n
    obtain ⟨va, rfl, ra⟩ := r.one
    split at hP
    · rename_i q
      obtain ⟨p, hp, rfl, kvs, D, rk⟩ := H.ofRef ra q
      cases rk
      obtain ⟨ep, D2⟩ := D.dictAt
      obtain ⟨m, F, E⟩ := H.fr
      refine kdl_call (kdl_dict (H.notMods GO (mem_adr hp))) (O.hand hb) D2 (Nat.zero_le _) fun h' tk acc' c' hk hS' hacc => ?_
      have e0 : acc' = ([] : List Value).toArray := by
        have := hacc.1
        exact Array.eq_empty_of_size_eq_zero this
      subst e0
      exact H.alloc1 K F E hP (Nat.le_refl _) (fun h' e => ⟨[], c', e, .nil⟩) h' tk (F.keeps hk) (news_pushed F H.news hk hS' rfl)
    · exact hP.elim
  · exact hP.elim
namespace F
theorem no_tuple_reversed : typeLookup (.type "tuple") "__reversed__" = pure none := by rw [typeLookup_type, builtinLookup_eq_fast]; kernel_rfl
theorem sub_tuple_dict : isSubtype (.type "tuple") (.type "dict") = pure false := by rw [isSubtype_type]; kernel_rfl
theorem lk_tuple_getitem : typeLookup (.type "tuple") "__getitem__" = pure (some (.builtin "tuple.__getitem__")) := by rw [typeLookup_type, builtinLookup_eq_fast]; kernel_rfl
theorem slot_reversed_init : Slot "reversed" "__init__" "object.__init__" :=
  .of (owner := "object") (n := "__init__") (by rw [typeLookup_type, builtinLookup_eq_fast]; kernel_rfl) (by decide +kernel) (by decide +kernel) (by decide +kernel)
    (by first | exact .inl (by decide +kernel) | exact .inr (by decide +kernel)) (by rw [isSubtype_type]; kernel_rfl)
theorem called_reversed : TypeCalled "reversed" "reversed.__new__" "object.__init__" :=
  ⟨by decide +kernel, by decide +kernel, ⟨_, _, PySem.F.mro_reversed⟩, PySem.F.made_reversed, by decide +kernel, PySem.F.sub_reversed_self, slot_reversed_init⟩
end F
theorem meets_reversed_tup (a : Addr) (vs : List Value) (hl : vs.length ≤ 1000) :
    Meets (Builtin.«reversed.__new__» ⟨[.type "reversed", .ref a], []⟩) (fun _ R s => IsTup s.heap a vs.toArray ∧ R (.ok (.ret (.ref s.heap.objs.size))) { s with heap := s.heap.push (revO a vs.length), toks := s.toks + 1 + 1 }) := by
  refine Meets.of_wp fun prog w A R s hs => ?_
  obtain ⟨ha, h⟩ := hs
  have hT : s.TypeIs (.ref a) "tuple" := ha.typeIs
  unfold Builtin.«reversed.__new__»
  refine wpAny_bind (wpAny_of_eq (newClass_reversed _) ?_)
  try dsimp only
  refine wpAny_bind (wpAny_of_eq (a := ()) (by first | rfl | kernel_rfl) ?_)
  refine wpAny_bind (wpAny_of_eq (a := ()) (by first | rfl | kernel_rfl) ?_)
  try dsimp only
  refine wpAny_bind (wpAny_specialOf hT F.no_tuple_reversed ?_)
  dsimp only
  refine wpAny_bind (wpAny_bind (wpAny_isInstance hT F.sub_tuple_dict ?_))
  rw [if_neg (by decide)]
  refine wpAny_bind (wpAny_specialOf hT F.lk_tuple_getitem ?_)
  dsimp only
  rw [if_pos (by decide +kernel)]
  refine wpAny_pure ?_
  rw [if_neg (by decide)]
  refine wpAny_bind (len_tuple ha (by rw [List.size_toArray]; omega) ?_)
  refine wpAny_bind (m := asInt? _) (wpAny_pure ?_)
  dsimp only
  have e1 : (vs.toArray.size : Int) - 1 = (vs.length : Int) - 1 := by simp
  rw [e1]
  refine wpAny_bind (m := SmallTypes.newRecord (.type "reversed") [.ref a, rawInt ((vs.length : Int) - 1)]) ?_
  unfold SmallTypes.newRecord
  dsimp only
  refine wpAny_newObj_type (wpAny_pure ⟨_, rfl, h⟩) ?_
  show (#[Value.ref a, rawInt ((vs.length : Int) - 1)] : Array Value).size ≤ _
  rw [sizeLine_eq]; simp
theorem snd_rev (K : FOK g c) {l : List V} {vs : List Value} (r : VRs g W l vs) : Snd g c d (VR g) (call (.type "reversed") vs) W s (cRev l s) := by
  intro A S Q Er O H hP
  unfold cRev at hP
  split at hP
  · rename_i n
    obtain ⟨va, rfl, ra⟩ := r.one
    split at hP
    · rename_i l q
      obtain ⟨a, vs, rfl, tx, rx, mx⟩ := H.ofTup ra (tupAt_ref q)
      have len := szL_le (H.okO q)
      have ex := F2.length rx
      obtain ⟨m, F, E⟩ := H.fr
      obtain ⟨p, hp, e2⟩ := ra
      cases e2
      refine callType_new Mine.F.called_reversed (by decide) (PySem.F.typeCall_reversed_1 _) (PySem.F.newCall_reversed_1 _) (fun obj => PySem.F.args_object_init_2 obj _) PySem.F.entry_reversed_new (meets_reversed_tup p.1 vs (by rw [← ex]; exact len)) ⟨tx, ⟨_, Heap.get?_push_size _ rfl, rfl⟩, ?_⟩
      refine H.alloc1 K F E hP (Nat.le_refl _) (fun h' e => ⟨p, ?_, ?_⟩) _ _ (F.push _) (News.push F H.news _)
      · obtain ⟨lt, e⟩ := List.getElem?_eq_some_iff.mp hp
        rw [List.getElem?_append_left lt]; exact hp
      · rw [ex]; exact e
    · exact hP.elim
  · exact hP.elim
end Mine
namespace Mine
open PySem PySem.W PySem.Calls PyProof.Rows Builtin
namespace F
theorem owner_rev : Manifest.owners.lookup (String.ofList ['d', 'e', 's', 'r', 'e', 'v', 'e', 'r'].reverse) = some Manifest.sig_reversed := by kernel_rfl
theorem slot_rev_next : Slot "reversed" "__next__" "reversed.__next__" :=
  .of (owner := "reversed") (n := "__next__") (by rw [typeLookup_type, builtinLookup_eq_fast]; kernel_rfl) (by decide +kernel) (by decide +kernel) (by decide +kernel)
    (by first | exact .inl (by decide +kernel) | exact .inr (by decide +kernel)) (by rw [isSubtype_type]; kernel_rfl)
theorem entry_rev_next : entryFor table "reversed.__next__" = some Builtin.«reversed.__next__» := entryFor_of_tree (by kernel_rfl)
theorem args_rev_next (a : Value) : argsOk "reversed.__next__" ⟨[a], []⟩ := by
  unfold argsOk; rw [signature?_of (id := "reversed.__next__") (n := ['_', '_', 't', 'x', 'e', 'n', '_', '_']) (o := ['d', 'e', 's', 'r', 'e', 'v', 'e', 'r']) (by kernel_rfl) owner_rev]; kernel_rfl
theorem slot_rev_iter : Slot "reversed" "__iter__" "reversed.__iter__" :=
  .of (owner := "reversed") (n := "__iter__") (by rw [typeLookup_type, builtinLookup_eq_fast]; kernel_rfl) (by decide +kernel) (by decide +kernel) (by decide +kernel)
    (by first | exact .inl (by decide +kernel) | exact .inr (by decide +kernel)) (by rw [isSubtype_type]; kernel_rfl)
theorem args_rev_iter (a : Value) : argsOk "reversed.__iter__" ⟨[a], []⟩ := by
  unfold argsOk; rw [signature?_of (id := "reversed.__iter__") (n := ['_', '_', 'r', 'e', 't', 'i', '_', '_']) (o := ['d', 'e', 's', 'r', 'e', 'v', 'e', 'r']) (by kernel_rfl) owner_rev]; kernel_rfl
theorem entry_rev_iter : entryFor table "reversed.__iter__" = some Builtin.«dict_keyiterator.__iter__» :=
  entryFor_alias (id' := "dict_keyiterator.__iter__") (by kernel_rfl) (by first | rfl | decide +kernel | (unfold String.splitOn; simp +decide [String.splitOnAux])) (by decide +kernel) (by kernel_rfl)
theorem no_rev_len : typeLookup (.type "reversed") "__len__" = pure none := by rw [typeLookup_type, builtinLookup_eq_fast]; kernel_rfl
theorem slot_rev_hint : Slot "reversed" "__length_hint__" "reversed.__length_hint__" :=
  .of (owner := "reversed") (n := "__length_hint__") (by rw [typeLookup_type, builtinLookup_eq_fast]; kernel_rfl) (by decide +kernel) (by decide +kernel) (by decide +kernel)
    (by first | exact .inl (by decide +kernel) | exact .inr (by decide +kernel)) (by rw [isSubtype_type]; kernel_rfl)
theorem entry_rev_hint : entryFor table "reversed.__length_hint__" = some Builtin.«reversed.__length_hint__» := entryFor_of_tree (by kernel_rfl)
theorem args_rev_hint (a : Value) : argsOk "reversed.__length_hint__" ⟨[a], []⟩ := by
  unfold argsOk; rw [signature?_of (id := "reversed.__length_hint__") (n := ['_', '_', 't', 'n', 'i', 'h', '_', 'h', 't', 'g', 'n', 'e', 'l', '_', '_']) (o := ['d', 'e', 's', 'r', 'e', 'v', 'e', 'r']) (by kernel_rfl) owner_rev]; kernel_rfl
theorem lk_tuple_gi : typeLookup (.type "tuple") "__getitem__" = pure (some (.builtin "tuple.__getitem__")) := by rw [typeLookup_type, builtinLookup_eq_fast]; kernel_rfl
end F
noncomputable def IsRevT (h : Heap) (a t : Addr) (i : Int) : Prop := ∃ o, h.get? a = some o ∧ o.cls = .type "reversed" ∧ o.data = .fields #[.ref t, rawInt i]
theorem IsRevT.typeIs {s : Shared} {a l : Addr} {i : Int} (x : IsRevT s.heap a l i) : s.TypeIs (.ref a) "reversed" := let ⟨o, ho, hc, _⟩ := x; ⟨o, ho, hc⟩
section
variable {prog : Program} {w : World} {A : Around} {E : Value → Shared → Prop} {s : Shared}
theorem rev_item {it t : Addr} {i : Nat} {items : Array Value} {x : Value} {Q : Option Value → Shared → Prop} (hit : IsRevT s.heap it t (i : Int)) (ht : IsTup s.heap t items) (hx : items[i]? = some x) (hz : items.size ≤ 1000)
    (hQ : ∀ h' tk, IsRevT h' it t ((i : Int) - 1) → Heap.SameBut it s.heap h' → Q (some x) { s with heap := h', toks := tk }) : wpAny (model prog w) A (pyNext (.ref it)) Q E s := by
  obtain ⟨o, ho, hc, hd⟩ := id hit
  have hi : i < items.size := by
    rcases Nat.lt_or_ge i items.size with h | h
    · exact h
    · rw [Array.getElem?_eq_none h] at hx; cases hx
  unfold pyNext
  refine wpAny_bind (wpAny_attempt (wpAny_callSpecial?_slot (name := Str.ofString "__next__") hit.typeIs F.slot_rev_next
    (wpAny_call_entry F.slot_rev_next hit.typeIs F.entry_rev_next ?_ (F.args_rev_next _))))
  unfold Builtin.«reversed.__next__»
  refine wpAny_bind (wpAny_of_eq (a := (Value.ref it, [])) rfl ?_)
  try dsimp only
  refine wpAny_bind (wpAny_field ho hd (x := .ref t) rfl ?_)
  refine wpAny_bind (wpAny_field ho hd (x := rawInt (i : Int)) rfl ?_)
  show wpAny _ _ (if (i : Int) < 0 then _ else _) _ _ s
  rw [if_neg (by omega)]
  refine wpAny_bind (wpAny_specialOf ht.typeIs F.lk_tuple_gi ?_)
  rw [if_neg (by decide)]
  refine wpAny_bind (wpAny_mkInt ?_)
  have hj : seqIndex? (i : Int) items.size = some i := by
    have h1 : ¬ ((i : Int) < 0) := by omega
    have h2 : (i : Int) < (items.size : Int) := by omega
    simp only [seqIndex?, h1, if_false]
    simp [hi]
  refine wpAny_bind (wpAny_attempt (getItem_tuple (s := { s with toks := s.toks + 1 }) ht (by omega) (by omega) hj hx ?_))
  dsimp only
  refine wpAny_bind (wpAny_field ho hd (x := rawInt (i : Int)) rfl ?_)
  show wpAny _ _ (setField (.ref it) 1 (rawInt ((i : Int) - 1)) >>= _) _ _ _
  refine wpAny_bind (wpAny_setField ho hd (by simp) ?_)
  refine wpAny_pure ⟨x, rfl, wpAny_pure (hQ _ _ ?_ (Heap.SameBut.update ..))⟩
  exact ⟨_, Heap.get?_update_self _ ho (Obj.isFreed_of_fields (Obj.data_mapFields hd _)), (Obj.cls_mapFields ..).trans hc, by
    rw [Obj.data_mapFields hd]; simp⟩
theorem rev_end {it t : Addr} {Q : Option Value → Shared → Prop} (hh : A.handled = none) (hit : IsRevT s.heap it t (-1))
    (hQ : ∀ h', Heap.ExtBut it s.heap h' → (∃ o, h'.get? it = some o) → Q none { s with heap := h' }) : wpAny (model prog w) A (pyNext (.ref it)) Q E s := by
  obtain ⟨o, ho, hc, hd⟩ := id hit
  unfold pyNext
  refine wpAny_bind (wpAny_attempt (wpAny_callSpecial?_slot (name := Str.ofString "__next__") hit.typeIs F.slot_rev_next
    (wpAny_call_entry F.slot_rev_next hit.typeIs F.entry_rev_next ?_ (F.args_rev_next _))))
  unfold Builtin.«reversed.__next__»
  refine wpAny_bind (wpAny_of_eq (a := (Value.ref it, [])) rfl ?_)
  try dsimp only
  refine wpAny_bind (wpAny_field ho hd (x := .ref t) rfl ?_)
  refine wpAny_bind (wpAny_field ho hd (x := rawInt (-1)) rfl ?_)
  show wpAny _ _ (if (-1 : Int) < 0 then _ else _) _ _ s
  rw [if_pos (by decide)]
  refine wpAny_bind (wpAny_rule ?_)
  refine wpAny_bind (show wpAny _ _ (setField (.ref it) 1 (rawInt (-1)) >>= fun _ => setField (.ref it) 0 .none) _ _ _ from wpAny_bind (wpAny_setField ho hd (by simp) ?_))
  have d1 := Obj.data_mapFields hd (·.setIfInBounds 1 (rawInt (-1)))
  have h1 := Heap.get?_update_self (Obj.mapFields (·.setIfInBounds 1 (rawInt (-1)))) ho (Obj.isFreed_of_fields d1)
  refine wpAny_setField h1 d1 (by simp) ?_
  have d2 := Obj.data_mapFields d1 (·.setIfInBounds 0 Value.none)
  have h2 := Heap.get?_update_self (Obj.mapFields (·.setIfInBounds 0 Value.none)) h1 (Obj.isFreed_of_fields d2)
  refine wpAny_bind ?_
  unfold SmallTypes.stopIteration
  first
  | show wpAny _ _ (newExc (.type "StopIteration") [] >>= _) _ _ _
  | (refine wpAny_bind ?_; show wpAny _ _ (newExc (.type "StopIteration") [] >>= _) _ _ _)
  refine wpAny_bind ?_
  simp only [newExc, newTuple]
  refine wpAny_bind (wpAny_newObj_type ?_ (by size_fits))
  refine wpAny_bind (m := firstArgMember _ _) (wpAny_of_eq (a := Value.none) (by first | rfl | (simp only [firstArgMember]; rfl)) ?_)
  refine wpAny_newObj_type ?_ (by size_fits)
  simp only [raiseNew]
  refine wpAny_bind (wpAny_handled ?_)
  first | rw [show A.in1.handled = none from hh] | rw [hh]
  refine wpAny_bind (wpAny_pure (wpAny_throw ?_))
  refine wpAny_bind (wpAny_isInstance (T := "StopIteration") (b := true) ⟨_, Heap.get?_push_size _ rfl, rfl⟩ isSubtype_stop ?_)
  refine wpAny_pure (hQ _ (((((Heap.ExtBut.refl it s.heap).trans (Heap.SameBut.update s.heap it _).extBut).trans (Heap.SameBut.update _ it _).extBut).push _).push _) ⟨_, Heap.get?_push_of_some _ (Heap.get?_push_of_some _ h2)⟩)
theorem rev_loop {R : Result → Shared → Prop} {it t L : Addr} {items : Array Value} {res : Value} (hh : A.handled = none) (hz : items.size ≤ 1000) (hLi : L ≠ it) (hLt : L ≠ t) (hti : t ≠ it) : ∀ (k : Nat) (s : Shared) (acc : Array Value) (c : Nat), k ≤ items.size → acc.size + k ≤ 2000 →
    s.heap.get? L = some (listOf acc c) → IsRevT s.heap it t ((k : Int) - 1) → IsTup s.heap t items →
    (∀ h' tk c', h'.get? L = some (listOf (acc ++ (items.toList.take k).reverse.toArray) c') → (∃ o, h'.get? it = some o) → (∀ b o, b ≠ L → b ≠ it → s.heap.get? b = some o → h'.get? b = some o) → R (.ok (.ret res)) { s with heap := h', toks := tk }) →
    codeAny (model prog w) A (.builtin "list.extend.loop" ⟨[.ref L, .ref it, res], []⟩) R s := by
  intro k
  induction k with
  | zero =>
    intro s acc c hk hs hL hit ht hR
    refine codeAny_builtin PySem.F.entry_extend_loop ?_
    rw [Around.under_plainId PySem.F.plain_extend_loop _]
    show wpAny _ A.in1 (pyNext (.ref it) >>= _) _ _ s
    refine wpAny_bind (rev_end hh (by simpa using hit) fun h' eb hi => ?_)
    refine wpAny_pure (hR h' s.toks c ?_ hi fun b o hb hbi e => eb b o hbi e)
    simpa using eb L _ hLi hL
  | succ k ih =>
    intro s acc c hk hs hL hit ht hR
    refine codeAny_builtin PySem.F.entry_extend_loop ?_
    rw [Around.under_plainId PySem.F.plain_extend_loop _]
    show wpAny _ A.in1 (pyNext (.ref it) >>= _) _ _ s
    have hit' : IsRevT s.heap it t (k : Int) := by
      have e : ((k + 1 : Nat) : Int) - 1 = (k : Int) := by omega
      rw [e] at hit; exact hit
    have hx : items[k]? = some items[k] := Array.getElem?_eq_getElem (by omega)
    refine wpAny_bind (rev_item hit' ht hx hz fun h' tk hit2 sb => ?_)
    have hL' := (sb.2 L hLi).trans hL
    show wpAny _ A.in1 (updateSeq L (·.push items[k]) >>= _) _ _ _
    have hL2 := Heap.get?_update_self (Obj.mapSeq (·.push items[k])) hL' rfl
    obtain ⟨c2, e2⟩ : ∃ c2, Obj.mapSeq (·.push items[k]) (listOf acc c) = listOf (acc.push items[k]) c2 := ⟨_, rfl⟩
    rw [e2] at hL2
    have oth : ∀ b, b ≠ L → (h'.update L (Obj.mapSeq (·.push items[k]))).get? b = h'.get? b := fun b hb => Heap.get?_update_other _ _ (Ne.symm hb)
    refine wpAny_bind (wpAny_updateSeq hL' rfl (wpAny_pure ⟨plainId_quiet PySem.F.plain_extend_loop _, ih _ (acc.push items[k]) c2 (by omega) (by rw [Array.size_push]; omega) hL2 ?_ ?_ fun h'' tk' c' a1 a2 a3 => ?_⟩) (by rw [sizeLine_eq]; omega) (by show (acc.push items[k]).size ≤ sizeLine + 1; rw [Array.size_push, sizeLine_eq]; omega))
    · obtain ⟨o, h1, h2⟩ := hit2
      exact ⟨o, (oth it (Ne.symm hLi)).trans h1, h2⟩
    · obtain ⟨o, h1, h2⟩ := ht
      exact ⟨o, (oth t (Ne.symm hLt)).trans ((sb.2 t hti).trans h1), h2⟩
    · refine hR h'' tk' c' ?_ a2 fun b o hb hbi e => a3 b o hb hbi ((oth b hb).trans ((sb.2 b hbi).trans e))
      have e3 : (items.toList.take (k + 1)).reverse.toArray = #[items[k]] ++ (items.toList.take k).reverse.toArray := by
        rw [List.take_add_one]
        have : items.toList[k]? = some items[k] := by rw [Array.getElem?_toList]; exact hx
        rw [this]
        simp
      rw [e3]
      rw [← Array.append_assoc]
      simpa using a1
theorem rev_hint {r t : Addr} {n : Nat} {items : Array Value} {Q : Bool → Shared → Prop} (hr : IsRevT s.heap r t ((n : Int) - 1)) (ht : IsTup s.heap t items) (hn : items.size = n) (hz : n ≤ 1000)
    (h : ∀ tk, Q ((n : Int) != 0) { s with toks := tk }) : wpAny (model prog w) A (Builtin.List.listLengthHint (.ref r)) Q E s := by
  unfold Builtin.List.listLengthHint
  refine wpAny_bind (wpAny_specialOf hr.typeIs F.no_rev_len ?_)
  dsimp only
  refine wpAny_bind (wpAny_specialOf hr.typeIs F.slot_rev_hint.lookup ?_)
  generalize hid : ("reversed.__length_hint__" : String) = id0
  wp_delta
  rw [show splitId id0 = some ("reversed", "__length_hint__") from by subst hid; decide +kernel]
  subst hid
  refine wpAny_bind (wpAny_isInstance (T := "reversed") (b := true) hr.typeIs (by rw [isSubtype_type]; kernel_rfl) ?_)
  refine wpAny_ite_split (fun hab => absurd hab (by decide)) (fun _ => ?_)
  refine wpAny_ite_split (fun hab => absurd hab (by decide +kernel)) (fun _ => ?_)
  refine wpAny_bind (wpAny_rule ?_)
  refine wpAny_bind (wpAny_of_eq (F.slot_rev_hint.bind _) ?_)
  dsimp only
  obtain ⟨o, ho, hc, hd⟩ := id hr
  refine wpAny_bind (wpAny_attempt (wpAny_call_entry F.slot_rev_hint hr.typeIs F.entry_rev_hint ?_ (F.args_rev_hint _)))
  unfold Builtin.«reversed.__length_hint__»
  refine wpAny_bind (wpAny_of_eq (a := Value.ref r) rfl ?_)
  refine wpAny_bind (wpAny_field ho hd (x := .ref t) rfl ?_)
  show wpAny _ _ (if (Value.ref t == Value.none) = true then _ else _) _ _ s
  rw [if_neg (show ¬ (Value.ref t == Value.none) = true by simp)]
  refine wpAny_bind (len_tuple ht (by omega) ?_)
  refine wpAny_bind (m := asInt? _) (wpAny_pure ?_)
  dsimp only
  refine wpAny_bind (wpAny_field (s := { s with toks := s.toks + 1 + 1 }) ho hd (x := rawInt ((n : Int) - 1)) rfl ?_)
  show wpAny _ _ (if (items.size : Int) < ((n : Int) - 1) + 1 then _ else _) _ _ _
  rw [if_neg (by omega)]
  refine wpAny_bind (wpAny_mkInt (wpAny_pure ⟨_, rfl, ?_⟩))
  dsimp only
  refine wpAny_bind (m := asInt? _) (wpAny_pure ?_)
  dsimp only
  have e1 : (n : Int) - 1 + 1 = (n : Int) := by omega
  rw [e1]
  rw [if_neg (show ¬ (!List.listFitsIndex (n : Int)) = true by unfold List.listFitsIndex; simp; omega)]
  rw [if_neg (by omega)]
  rw [if_neg (show ¬ (List.listTooLong (n : Int).toNat) = true by unfold List.listTooLong; rw [sizeLine_eq]; simp; omega)]
  exact wpAny_pure (h _)
end
end Mine
namespace Mine
open PySem PySem.W PySem.Calls PyProof.Rows Builtin
section
variable {prog : Program} {w : World} {A : Around} {E : Value → Shared → Prop} {s : Shared}
theorem rev_iter {it t : Addr} {i : Int} {Q : Value → Shared → Prop} (hit : IsRevT s.heap it t i) (h : Q (.ref it) s) : wpAny (model prog w) A (pyIter (.ref it)) Q E s := by
  refine wpAny_pyIter_slot hit.typeIs F.slot_rev_iter (wpAny_call_entry F.slot_rev_iter hit.typeIs F.entry_rev_iter ?_ (F.args_rev_iter _))
  show wpAny _ _ (ret (.ref it)) _ _ s
  exact wpAny_pure ⟨_, rfl, "reversed", _, hit.typeIs, F.slot_rev_next.lookup, h⟩
theorem extend_rev {L r t : Addr} {acc items : Array Value} {c : Nat} {Q : Value → Shared → Prop} (hh : A.handled = none) (hL : s.heap.get? L = some (listOf acc c)) (hr : IsRevT s.heap r t ((items.size : Int) - 1)) (ht : IsTup s.heap t items)
    (hz : items.size ≤ 1000) (ha : acc.size ≤ 1000) (hLr : L ≠ r) (hLt : L ≠ t) (htr : t ≠ r)
    (hQ : ∀ h' tk c', h'.get? L = some (listOf (acc ++ items.toList.reverse.toArray) c') → (∃ o, h'.get? r = some o) → (∀ b o, b ≠ L → b ≠ r → s.heap.get? b = some o → h'.get? b = some o) → Q .none { s with heap := h', toks := tk }) :
    wpAny (model prog w) A (call (.builtin "list.extend") [.ref L, .ref r]) Q E s := by
  have hT : s.TypeIs (.ref L) "list" := ⟨_, hL, rfl⟩
  refine wpAny_call (codeAny_call_builtin PySem.F.slot_list_extend.plain PySem.F.entry_list_extend (PySem.F.slot_list_extend.check _ _ _ _ _ _ _ _ hT (PySem.F.args_list_extend_2 _ _) ?_))
  unfold Builtin.«list.extend»
  refine wpAny_bind (wpAny_of_eq (a := (Value.ref L, Value.ref r)) rfl ?_)
  dsimp only
  unfold Builtin.List.listExtendWith
  refine wpAny_bind (wpAny_typeOf (T := "reversed") hr.typeIs ?_)
  have h1 : Builtin.List.listSameRef (.ref L) (.ref r) = false := by simp [Builtin.List.listSameRef, hLr]
  have h2 : (Value.type "reversed" == Value.type "list") = false := by decide
  have h3 : (Value.type "reversed" == Value.type "tuple") = false := by decide
  simp only [h1, h2, h3, Bool.or_false, Bool.false_eq_true, if_false]
  refine wpAny_bind (rev_iter hr ?_)
  refine wpAny_bind (wpAny_holding (rev_hint hr ht rfl hz fun tk => ?_))
  have fin : ∀ (h : Heap) (c₁ tk : Nat), h.get? L = some (listOf acc c₁) → (∀ b, b ≠ L → h.get? b = s.heap.get? b) → ∀ R : Result → Shared → Prop, (∀ s', Q .none s' → R (.ok (.ret .none)) s') → codeAny (model prog w) A (.builtin "list.extend.loop" ⟨[.ref L, .ref r, .none], []⟩) R { s with heap := h, toks := tk } := by
    intro h c₁ tk e k R hR
    obtain ⟨o, hr1, hr2⟩ := hr
    obtain ⟨o2, ht1, ht2⟩ := ht
    refine rev_loop hh hz hLr hLt htr items.size _ acc c₁ (Nat.le_refl _) (by omega) e ⟨o, (k r (Ne.symm hLr)).trans hr1, hr2⟩ ⟨o2, (k t (Ne.symm hLt)).trans ht1, ht2⟩ fun h' tk' c' a1 a2 a3 => hR _ ?_
    have e2 : items.toList.take items.size = items.toList := by rw [List.take_of_length_le (by simp)]
    rw [e2] at a1
    exact hQ h' tk' c' a1 a2 fun b o hb hbr e => a3 b o hb hbr ((k b hb).trans e)
  refine wpAny_ite_split (fun _ => ?_) (fun _ => wpAny_pure ⟨plainId_quiet PySem.F.plain_extend_loop _, fin _ c _ hL (fun _ _ => rfl) _ fun _ q => q⟩)
  refine wpAny_bind (wpAny_rule ?_)
  refine wpAny_bind ?_
  show wpAny _ _ (updateSeq L (·.push .none) >>= fun _ => updateSeq L (·.pop)) _ _ _
  refine wpAny_bind (wpAny_updateSeq hL rfl ?_ (by rw [sizeLine_eq]; omega) (by show (acc.push Value.none).size ≤ sizeLine + 1; rw [Array.size_push, sizeLine_eq]; omega))
  have hS₂ := Heap.get?_update_self (Obj.mapSeq (·.push Value.none)) hL rfl
  refine wpAny_updateSeq hS₂ rfl ?_ (by show (acc.push Value.none).size ≤ _; rw [Array.size_push, sizeLine_eq]; omega) (by show ((acc.push Value.none).pop).size ≤ _; rw [Array.pop_push, sizeLine_eq]; omega)
  have hS₃ := Heap.get?_update_self (Obj.mapSeq (·.pop)) hS₂ rfl
  obtain ⟨c3, e3⟩ : ∃ c3, Obj.mapSeq (·.pop) (Obj.mapSeq (·.push Value.none) (listOf acc c)) = listOf ((acc.push Value.none).pop) c3 := ⟨_, rfl⟩
  rw [Array.pop_push] at e3
  rw [e3] at hS₃
  refine wpAny_pure ⟨plainId_quiet PySem.F.plain_extend_loop _, fin _ c3 _ hS₃ (fun b hb => ?_) _ fun _ q => q⟩
  exact (Heap.get?_update_other _ _ (Ne.symm hb)).trans (Heap.get?_update_other _ _ (Ne.symm hb))
end
variable {g : Gx} {G : Cfg} {c : FC} {d : Nat} {W : Wd} {s : St} {S : Shared}
theorem Here.apart {c : FC} {W : Wd} {s : St} {S : Shared} (H : Here g c W s S) {i j : Nat} {p q : Addr × Option Addr} (hi : W[i]? = some p) (hj : W[j]? = some q) (ne : i ≠ j) : p.1 ≠ q.1 := fun e => by
  have nd := (List.nodup_append.mp H.nodup).2.1
  unfold adr at nd
  have pw := List.pairwise_iff_getElem.mp (List.pairwise_flatMap.mp nd).2
  obtain ⟨li, ei⟩ := List.getElem?_eq_some_iff.mp hi
  obtain ⟨lj, ej⟩ := List.getElem?_eq_some_iff.mp hj
  rcases Nat.lt_or_gt_of_ne ne with lt | lt
  · have := pw i j li lj lt
    rw [ei, ej] at this
    exact this p.1 (.head _) q.1 (.head _) e
  · have := pw j i lj li lt
    rw [ei, ej] at this
    exact this q.1 (.head _) p.1 (.head _) e.symm
theorem snd_ext (hb : c.F.bz = false) {n m i k : Nat} {l : List V} {va vb : Value} (ra : VR g W (.ref n) va) (q : s.get n = some (.list l)) (rb : VR g W (.ref m) vb) (q' : s.get m = some (.rev i k)) :
    Snd g c d (VR g) (call (.builtin "list.extend") [va, vb]) W s (mExtR n m i k l s) := by
  intro A S Q Er O H hP
  unfold mExtR at hP
  split at hP
  · rename_i l' qi
    split at hP
    rotate_left
    · exact hP.elim
    rename_i hk
    rw [natbeq, decide_eq_true_iff] at hk
    rcases setR_cases V.none n (.list (l ++ l'.reverse)) (s.set m .any) with ⟨w, e⟩ | ⟨ok, e⟩
    · rw [e] at hP; exact hP.elim
    rw [e] at hP
    obtain ⟨p, hp, e1, vs, c1, ho, rx⟩ := H.ofRef ra q
    subst e1
    obtain ⟨p', hp', e1, q2, hq2, ho'⟩ := H.ofRef rb q'
    subst e1
    obtain ⟨p2, hp2, _, vs', c2, ho2, rx'⟩ := H.obj i _ qi
    rw [hq2] at hp2
    cases hp2
    have nm : n ≠ m := fun z => by subst z; rw [q] at q'; cases q'
    have ni : n ≠ i := fun z => by subst z; rw [q] at qi; cases qi
    have im : i ≠ m := fun z => by subst z; rw [qi] at q'; cases q'
    have len := szL_le (H.okO q)
    have len' := szL_le (H.okO qi)
    have ex := F2.length rx
    have ex' := F2.length rx'
    obtain ⟨m₀, F, E⟩ := H.fr
    have ownp := H.own _ (mem_all (mem_adr hp))
    have ownm := H.own _ (mem_all (mem_adr hp'))
    have hr : IsRevT S.heap p'.1 q2.1 ((vs'.toArray.size : Int) - 1) := ⟨_, ho', rfl, by rw [List.size_toArray, ← ex', ← hk]; rfl⟩
    refine extend_rev (O.hand hb) ho hr ⟨_, ho2, rfl, c2, rfl⟩ (by rw [List.size_toArray, ← ex']; exact len') (by rw [List.size_toArray, ← ex]; exact len) (H.apart hp hp' nm) (H.apart hp hq2 ni) (H.apart hq2 hp' im) fun h' tk c' a1 a2 a3 => ?_
    obtain ⟨o', a2⟩ := a2
    have nf : o'.isFreed = false := by
      have := get_not_freed a2
      obtain ⟨_, _, dt, _⟩ := o'
      cases dt <;> first | rfl | exact (this rfl).elim
    have sb := Heap.SameBut.update S.heap p'.1 (fun _ => o')
    have hm1 := Heap.get?_update_self (fun _ => o') ho' nf
    have pne := H.apart hp hp' nm
    have H1 := H.upd (s' := s.set m .any) (o := .any) (F.change sb ownm.1.1 ownm.1.2.1) E hp' (fun b _ nb => sb.2 b fun z => nb (by rw [z]; exact .head _)) (fun b hb => by
      by_cases z : b = p'.1
      · rw [z]; exact ⟨_, hm1⟩
      · rw [sb.2 b z]; exact (H.own b (mem_all (List.mem_flatMap.mpr ⟨p', List.mem_of_getElem? hp', hb⟩))).2) rfl trivial rfl rfl set_gets S.toks
    obtain ⟨m₁, F₁, E₁⟩ := H1.fr
    have k1 : ∀ b o, b ≠ p.1 → (S.heap.update p'.1 (fun _ => o')).get? b = some o → h'.get? b = some o := fun b o hb e => by
      by_cases z : b = p'.1
      · subst z; rw [hm1] at e; cases e; exact a2
      · rw [sb.2 b z] at e; exact a3 b o hb z e
    have F' : Fr c.h₀ c.L h' m₁ := by
      obtain ⟨oL, es, ep, b1, b2⟩ := F₁.ns
      exact ⟨⟨oL, es, ep, k1 _ _ (Ne.symm ownp.1.1) b1, b2⟩, fun b o e => k1 b o (fun z => by rw [z, ownp.1.2.1] at e; cases e) (F₁.keep b o e), F₁.above⟩
    have e2 : vs.toArray ++ vs'.toArray.toList.reverse.toArray = (vs ++ vs'.reverse).toArray := by simp
    rw [e2] at a1
    have r' : VRs g W (l ++ l'.reverse) (vs ++ vs'.reverse) := F2.append rx (F2.reverse rx')
    refine hP _ W _ (Le.refl W) (H1.upd (s' := (s.set m .any).set n (.list (l ++ l'.reverse))) (o := .list (l ++ l'.reverse)) F' E₁ hp (fun b hb nb => ?_) (fun b hb => ?_) ok ⟨_, c', a1, r'⟩ rfl rfl set_gets tk) rfl
    · obtain ⟨_, o, e⟩ := H1.own b hb
      exact (k1 b o (fun z => nb (by rw [z]; exact .head _)) e).trans e.symm
    · by_cases z : b = p.1
      · rw [z]; exact ⟨_, a1⟩
      · obtain ⟨_, o, e⟩ := H1.own b (mem_all (List.mem_flatMap.mpr ⟨p, List.mem_of_getElem? hp, hb⟩))
        exact ⟨o, k1 b o z e⟩
  · exact hP.elim
theorem holes_ok (GO : GOK g G) : Holes g G where
  rev K _ r := snd_rev K r
  lst K hb r := snd_lst GO K hb r
  ext _ hb ra q rb q' := snd_ext hb ra q rb q'
end Mine
namespace Mine
open PySem PySem.W PySem.Calls PyProof.Rows
variable {nm : Nat → Str}
theorem asg_inv0 {t e : X} {st : Stmt} (h : agS nm (.asg t e) st = true) : ∃ t' e' p, st = .Assign [t'] e' p ∧ noComp e' = true ∧ noSwap e' t' = true ∧ agT nm t t' = true ∧ ag nm e e' = true := by
  have q := agS_inv h
  clear h
  cases q with
  | asg h0 h1 h2 h3 => exact ⟨_, _, _, rfl, h0, h1, h2, h3⟩
theorem sif_inv {t a b : X} {st : Stmt} (h : agS nm (.sif t a b) st = true) : ∃ t' a' b' p, st = .If t' a' b' p ∧ ag nm t t' = true ∧ agSs nm a a' = true ∧ agSs nm b b' = true := by
  have q := agS_inv h
  clear h
  cases q with
  | sif h0 h1 h2 => exact ⟨_, _, _, _, rfl, h0, h1.to, h2.to⟩
theorem ret_inv {e : X} {st : Stmt} (h : agS nm (.ret e) st = true) : ∃ e' p, st = .Return (some e') p ∧ ag nm e e' = true := by
  have q := agS_inv h
  clear h
  cases q with
  | ret h => exact ⟨_, _, rfl, h⟩
theorem tupT_inv {l : X} {t : Expr} (h : agT nm (.tup l) t = true) : ∃ es k p, t = .Tuple es k p ∧ agN nm l es = true := by
  have q := agT_inv h
  clear h
  cases q with
  | tup h => exact ⟨_, _, _, rfl, h⟩
theorem itemT_inv {o i : X} {t : Expr} (h : agT nm (.item o i) t = true) : ∃ o' i' k p, t = .Subscript o' i' p ∧ k = p ∧ isSliceE i' = false ∧ ag nm o o' = true ∧ ag nm i i' = true := by
  have q := agT_inv h
  clear h
  cases q with
  | item h0 h1 h2 => exact ⟨_, _, _, _, rfl, rfl, h0, h1, h2⟩
theorem ag_bin {op : Operator} {a b : X} {e : Expr} (h : ag nm (.bin op a b) e = true) : ∃ l r p, e = .BinOp l op r p ∧ ag nm a l = true ∧ ag nm b r = true := by
  have q := ag_inv h
  clear h
  cases q with
  | bin h1 h2 => exact ⟨_, _, _, rfl, h1.to, h2.to⟩
theorem ag_cmp {op : CmpOp} {a b : X} {e : Expr} (h : ag nm (.cmp op a b) e = true) : ∃ l r p, e = .Compare l [op] [r] p ∧ behindInMarks op r = false ∧ ag nm a l = true ∧ ag nm b r = true := by
  have q := ag_inv h
  clear h
  cases q with
  | cmp h0 h1 h2 => exact ⟨_, _, _, rfl, h0, h1.to, h2.to⟩
theorem ag_list {l : X} {e : Expr} (h : ag nm (.list l) e = true) : ∃ es p, e = .List es p ∧ ags nm l es = true := by
  have q := ag_inv h
  clear h
  cases q with
  | list h1 => exact ⟨_, _, rfl, h1.to⟩
theorem ag_item {o i : X} {e : Expr} (h : ag nm (.item o i) e = true) : ∃ o' i' p, e = .Subscript o' i' p ∧ isSliceE i' = false ∧ ag nm o o' = true ∧ ag nm i i' = true := by
  have q := ag_inv h
  clear h
  cases q with
  | item h0 h1 h2 => exact ⟨_, _, _, rfl, h0, h1.to, h2.to⟩
theorem ag_call {f : Nat} {l : X} {e : Expr} (h : ag nm (.call f l) e = true) : ∃ np es p, e = .Call (.Name (nm f) np) es [] p ∧ ags nm l es = true := by
  have q := ag_inv h
  clear h
  cases q with
  | call h1 => exact ⟨_, _, _, rfl, h1.to⟩
theorem ags_one {a : X} {es : List Expr} (h : ags nm (.cons a .nil) es = true) : ∃ e, es = [e] ∧ noStar e = true ∧ ag nm a e = true := by
  rcases noGood h with ⟨_, _, e, es', q, rfl, h1, h2, h3⟩ | ⟨q, _⟩
  · cases q
    rcases noGood h3 with ⟨_, _, _, _, q, _⟩ | ⟨_, rfl⟩
    · cases q
    · exact ⟨e, rfl, h1, h2⟩
  · cases q
theorem ags_none {es : List Expr} (h : ags nm .nil es = true) : es = [] := by
  rcases noGood h with ⟨_, _, _, _, q, _⟩ | ⟨_, rfl⟩
  · cases q
  · rfl
section
variable {g : Gx} {G : Cfg} {c : FC} {d : Nat} {W : Wd} {s : St} {S : Shared}
theorem call_one (K : FOK g c) (H : Here g c W s S) {f : Nat} {k : Nat} {es : List Expr} {np p : Pos} {a : X} {A : Around} {Q : Value → Shared → Prop} {E : Value → Shared → Prop} (hl : nameV f c.F s = .ok (.bi k) s) (h : ags g.nm (.cons a .nil) es = true)
    (hQ : ∀ e, ag g.nm a e = true → wpAny (model g.prog g.w) A (eval e c.env) (fun va s' => wpAny (model g.prog g.w) A (call (.builtin (biN k)) [va]) Q E s') E S) : wpAny (model g.prog g.w) A (eval (.Call (.Name (g.nm f) np) es [] p) c.env) Q E S := by
  obtain ⟨e, rfl, h1, h2⟩ := ags_one h
  refine Call_Name rfl (name_same K H f np hl fun vf rf => ?_)
  cases rf
  refine callWith_of (P := fun _ => True) (by rw [any_star h]; rfl) (fun h _ => ⟨.machine, .inr (.inl rfl), Looks.of_pure rfl⟩) (evalArgs_sp h ?_)
  refine args_cons ?_ (starEach_no h1 [] c.env)
  refine wpAny_mono (hQ e h2) (fun va s' q => ?_) fun _ _ q => q
  exact args_nil ⟨trivial, q⟩
end
end Mine
namespace Mine
open PySem PySem.W PySem.Calls PyProof.Rows
noncomputable def drawV (row : List Int) (at_ m : Nat) : Int := match row[at_ % row.length]? with
  | some x => (((x.natAbs / 7 ^ (at_ / row.length)) % m : Nat) : Int)
  | none => 0
structure DrawOK (g : Gx) (G : Cfg) : Prop where
  orc : ∀ at_ m v, nth G.orc at_ = some (m, v) → at_ < 6 ∧ 0 < m ∧ v = drawV g.row at_ m
  len : g.row.length ≤ 1000
noncomputable def bT : X := .cons (.asg (.tup (.cons (.nm 265) (.cons (.nm 16) .nil))) (.nm 246))
  (.cons (.asg (.item (.nm 246) (.cst (.int 1))) (.bin .Add (.nm 16) (.cst (.int 1))))
  (.cons (.sif (.cmp .Eq (.nm 265) (.list .nil)) (.cons (.ret (.cst (.int 0))) .nil) .nil)
  (.cons (.ret (.bin .Mod (.bin .FloorDiv (.call 165 (.cons (.item (.nm 265) (.bin .Mod (.nm 16) (.call 32 (.cons (.nm 265) .nil)))) .nil)) (.bin .Pow (.cst (.int 7)) (.bin .FloorDiv (.nm 16) (.call 32 (.cons (.nm 265) .nil))))) (.nm 266))) .nil)))
noncomputable def fT : Fn := ⟨1629, [246, 266], [], bT, [246, 266, 265, 16], [], [(165, .bi 2), (32, .bi 0)], false⟩
section
variable {g : Gx} {G : Cfg} {c : FC} {d : Nat} {W : Wd} {s : St} {S : Shared}
theorem cst_int {nm : Nat → Str} {i : Int} {e : Expr} (h : ag nm (.cst (.int i)) e = true) : ∃ k p, e = .Constant (.int i) k p := by
  obtain ⟨c, k, p, rfl, h'⟩ := ag_cst h
  clear h
  cases h'
  exact ⟨_, _, rfl⟩
theorem take_inv {l : List V} (h : ∀ w, doTake G l s ≠ .bad w) : ∃ n r at_ m' v, l = [.ref n, .int (.ofNat m')] ∧ s.get n = some (.list [.ref r, .int (.ofNat at_)]) ∧ s.get r = some .row ∧ nth G.orc at_ = some (m', v) ∧ doTake G l s = .ok (.int v) (s.set n (.list [.ref r, .int (.ofNat (Nat.succ at_))])) := by
  unfold doTake at h
  split at h
  rotate_left
  · exact (h _ rfl).elim
  rename_i n m
  split at h
  rotate_left
  · exact (h _ rfl).elim
  rename_i r at_ hn
  unfold takeR at h
  split at h
  rotate_left
  · exact (h _ rfl).elim
  rename_i hr
  unfold takeK at h
  split at h
  rotate_left
  · exact (h _ rfl).elim
  rename_i m' v ho
  split at h
  rotate_left
  · exact (h _ rfl).elim
  rename_i hm
  have hm2 := hm
  rw [intE_eq, beq_iff_eq] at hm
  subst hm
  refine ⟨n, r, at_, m', v, rfl, hn, hr, ho, ?_⟩
  unfold doTake
  simp only [hn]
  unfold takeR
  simp only [hr]
  unfold takeK
  simp only [ho, hm2]
noncomputable def xT : X := .bin .Mod (.bin .FloorDiv (.call 165 (.cons (.item (.nm 265) (.bin .Mod (.nm 16) (.call 32 (.cons (.nm 265) .nil)))) .nil)) (.bin .Pow (.cst (.int 7)) (.bin .FloorDiv (.nm 16) (.call 32 (.cons (.nm 265) .nil))))) (.nm 266)
theorem abs_nat (x : Int) : (if x < 0 then -x else x) = (x.natAbs : Int) := by split <;> omega
theorem draw_eq {row : List Int} {at_ m : Nat} {x : Int} (h : row[at_ % row.length]? = some x) : ((x.natAbs : Int).fdiv (7 ^ (((at_ : Int).fdiv (row.length : Int)).toNat))).fmod (m : Int) = drawV row at_ m := by
  unfold drawV
  rw [h]
  dsimp only
  have e1 : (at_ : Int).fdiv (row.length : Int) = ((at_ / row.length : Nat) : Int) := by rw [Int.fdiv_eq_ediv_of_nonneg _ (by omega)]; norm_cast
  rw [e1, Int.toNat_natCast]
  have p7 : (7 : Int) ^ (at_ / row.length) = ((7 ^ (at_ / row.length) : Nat) : Int) := by norm_cast
  have e2 : (x.natAbs : Int).fdiv (7 ^ (at_ / row.length)) = ((x.natAbs / 7 ^ (at_ / row.length) : Nat) : Int) := by
    rw [p7, Int.fdiv_eq_ediv_of_nonneg _ (Int.natCast_nonneg _)]; norm_cast
  rw [e2, Int.fmod_eq_emod_of_nonneg _ (by omega)]
  norm_cast
theorem take_tail (K : FOK g c) {n r at_ m : Nat} (hF : c.F = fT) {W : Wd} {s : St} {S : Shared} (H : Here g c W s S) (en : s.env = [(246, .ref n), (266, .int (.ofNat m)), (265, .ref r), (16, .int (.ofNat at_))]) {pr : Addr × Option Addr} {vsr : List Value} (hpr : W[r]? = some pr) (hr : S.heap.IsList pr.1 vsr.toArray) (rxr : IntVals g.row vsr)
    (hl : g.row.length ≤ 1000) (h0 : g.row ≠ []) (a6 : at_ < 6) (m0 : 0 < m) {eR : Expr} (h : ag g.nm xT eR = true) {A : Around} {Q : Value → Shared → Prop} {E : Value → Shared → Prop} (hQ : ∀ t tk, Q (.int (drawV g.row at_ m) t) { S with toks := tk }) : wpAny (model g.prog g.w) A (eval eR c.env) Q E S := by
  have lenr : g.row.length = vsr.length := F2.length rxr
  have lp : 0 < g.row.length := List.length_pos_iff.mpr h0
  have look1 : ∀ x v, look s.env x = some v → nameV x c.F s = .ok v s := fun x v e => by unfold nameV; rw [e]
  have lk1 : nameV 265 c.F s = .ok (.ref r) s := look1 _ _ (by rw [en]; rfl)
  have lk2 : nameV 16 c.F s = .ok (.int (.ofNat at_)) s := look1 _ _ (by rw [en]; rfl)
  have lk3 : nameV 266 c.F s = .ok (.int (.ofNat m)) s := look1 _ _ (by rw [en]; rfl)
  have lk4 : nameV 165 c.F s = .ok (.bi 2) s := by unfold nameV; rw [en, hF]; rfl
  have lk5 : nameV 32 c.F s = .ok (.bi 0) s := by unfold nameV; rw [en, hF]; rfl
  obtain ⟨l1, r1, _, rfl, d2, d3⟩ := ag_bin h
  obtain ⟨l2, r2, _, rfl, d4, d5⟩ := ag_bin d2
  obtain ⟨np1, es1, _, rfl, d6⟩ := ag_call d4
  obtain ⟨l3, r3, _, rfl, d7, d8⟩ := ag_bin d5
  obtain ⟨_, _, rfl⟩ := cst_int d7
  obtain ⟨l4, r4, _, rfl, d9, d10⟩ := ag_bin d8
  obtain ⟨_, rfl⟩ := ag_nm d9
  obtain ⟨np2, es2, _, rfl, d11⟩ := ag_call d10
  obtain ⟨_, rfl⟩ := ag_nm d3
  have lenE : ∀ (tk : Nat) (e : Expr) (Q' : Value → Shared → Prop), ag g.nm (.nm 265) e = true → (∀ t tk', Q' (.int (g.row.length : Int) t) { S with toks := tk' }) → wpAny (model g.prog g.w) A (eval e c.env) (fun va s' => wpAny (model g.prog g.w) A (call (.builtin (biN 0)) [va]) Q' E s') E { S with toks := tk } := by
    intro tk e Q' he hQ'
    obtain ⟨_, rfl⟩ := ag_nm he
    refine name_same K (H.toks _) 265 _ (v := .ref r) lk1 fun val rv => ?_
    obtain ⟨pr', hpr', rfl⟩ := rv
    rw [hpr] at hpr'
    cases hpr'
    refine call_len_list (s := { S with toks := tk }) hr (by rw [List.size_toArray]; omega) ?_
    have := hQ' (tk + 1) (tk + 1 + 1)
    rw [lenr] at this
    simpa using this
  have hx : ∃ x v, g.row[at_ % g.row.length]? = some x ∧ vsr[at_ % g.row.length]? = some v ∧ ∃ t, v = .int x t := by
    have lt : at_ % g.row.length < g.row.length := Nat.mod_lt _ lp
    obtain ⟨v, h1, h2⟩ := F2.get rxr (List.getElem?_eq_getElem lt)
    exact ⟨_, v, List.getElem?_eq_getElem lt, h1, h2⟩
  obtain ⟨x, v, hx1, hx2, tx, rfl⟩ := hx
  refine wpAny_BinOp (wpAny_BinOp (call_one K H (k := 2) lk4 d6 fun e he => ?_))
  obtain ⟨o1, i1, _, rfl, hs, f1, f2⟩ := ag_item he
  obtain ⟨_, rfl⟩ := ag_nm f1
  obtain ⟨l5, r5, _, rfl, f3, f4⟩ := ag_bin f2
  obtain ⟨_, rfl⟩ := ag_nm f3
  obtain ⟨np3, es3, _, rfl, f5⟩ := ag_call f4
  refine Subscript_ (name_same K H 265 _ (v := .ref r) lk1 fun val rv => ?_)
  obtain ⟨pr', hpr', rfl⟩ := rv
  rw [hpr] at hpr'
  cases hpr'
  refine wpAny_BinOp (name_same K H 16 _ (v := .int (.ofNat at_)) lk2 fun val rv => ?_)
  obtain ⟨t1, rfl⟩ := rv
  refine call_one K H (k := 0) lk5 f5 fun e he => lenE S.toks e _ he fun t2 tk2 => ?_
  refine mod_int' (by omega) ?_
  have em : (Int.ofNat at_).fmod (g.row.length : Int) = ((at_ % g.row.length : Nat) : Int) := by
    rw [Int.fmod_eq_emod_of_nonneg _ (by omega)]; norm_cast
  rw [em]
  refine tail_any (s := { S with toks := tk2 + 1 }) (show Shared.TypeIs { S with toks := tk2 + 1 } (.ref pr.1) "list" from (let ⟨o, ho, hc, _⟩ := hr; ⟨o, ho, hc⟩)) slot_list_getitem.lookup (wpAny_getItem_list (x := .int x tx) hr (by omega) (by have : at_ % g.row.length < g.row.length := Nat.mod_lt _ lp; omega) (by rw [Int.toNat_natCast]; simpa using hx2) ?_) (subscripted_plain hs _ _)
  refine call_abs_int fun t3 tk3 => ?_
  rw [abs_nat]
  refine wpAny_BinOp (wpAny_Constant_int ?_)
  refine wpAny_BinOp (name_same K (H.toks _) 16 _ (v := .int (.ofNat at_)) lk2 fun val rv => ?_)
  obtain ⟨t4, rfl⟩ := rv
  refine call_one K (H.toks _) (k := 0) lk5 d11 fun e he => lenE _ e _ he fun t5 tk5 => ?_
  refine floordiv_int (by omega) ?_ (.inl (PyProof.noPylong_small (by omega)))
  have ed : (Int.ofNat at_).fdiv (g.row.length : Int) = ((at_ / g.row.length : Nat) : Int) := by
    rw [Int.fdiv_eq_ediv_of_nonneg _ (by omega)]; norm_cast
  have le5 : at_ / g.row.length ≤ 5 := Nat.le_trans (Nat.div_le_self _ _) (by omega)
  refine pow_int_small (by rw [ed]; exact Int.natCast_nonneg _) (by rw [ed]; exact Int.ofNat_le.mpr (Nat.le_trans le5 (by decide))) (by decide) ?_
  have p7 : (7 : Int) ^ (((Int.ofNat at_).fdiv (g.row.length : Int)).toNat) = ((7 ^ (at_ / g.row.length) : Nat) : Int) := by rw [ed, Int.toNat_natCast]; norm_cast
  have p8 : 7 ^ (at_ / g.row.length) ≤ 16807 := Nat.le_trans (Nat.pow_le_pow_right (by decide) le5) (by decide)
  have p9 : 0 < 7 ^ (at_ / g.row.length) := Nat.pow_pos (by decide)
  refine floordiv_int (by rw [p7]; omega) ?_ (.inl (PyProof.noPylong_small (by rw [p7]; omega)))
  refine name_same K (H.toks _) 266 _ (v := .int (.ofNat m)) lk3 fun val rv => ?_
  obtain ⟨t6, rfl⟩ := rv
  refine mod_int' (by show ((m : Nat) : Int) ≠ 0; omega) ?_
  have := draw_eq (m := m) hx1
  show Q (.int ((((x.natAbs : Nat) : Int).fdiv (7 ^ (((at_ : Int).fdiv (g.row.length : Int)).toNat))).fmod (m : Int)) _) _
  rw [this]
  exact hQ _ _
theorem take_b (K : FOK g c) {n r at_ m : Nat} (hF : c.F = fT) {s5 : St} {S5 : Shared} (H : Here g c W s5 S5) (en : s5.env = [(246, .ref n), (266, .int (.ofNat m)), (265, .ref r), (16, .int (.ofNat at_))]) (hr : s5.get r = some .row) (hl : g.row.length ≤ 1000) (a6 : at_ < 6) (m0 : 0 < m)
    {st3 st4 : Stmt} {ss4 : List Stmt} (g3 : agS g.nm (.sif (.cmp .Eq (.nm 265) (.list .nil)) (.cons (.ret (.cst (.int 0))) .nil) .nil) st3 = true) (g4 : agS g.nm (.ret xT) st4 = true) {A : Around} (hun : A.units < cLine) {Q : Flow → Shared → Prop} {E : Value → Shared → Prop}
    (hQ : ∀ t S', Here g c W s5 S' → Q (.ret (.int (drawV g.row at_ m) t)) S') : wpAny (model g.prog g.w) A (execs (st3 :: st4 :: ss4) c.env) Q E S5 := by
  obtain ⟨tE, aS, bS, q8, rfl, c1, c2, c3⟩ := sif_inv g3
  obtain ⟨lE, rE, q9, rfl, cb, c4, c5⟩ := ag_cmp c1
  obtain ⟨q10, rfl⟩ := ag_nm c4
  obtain ⟨es0, q11, rfl, c6⟩ := ag_list c5
  obtain rfl := ags_none c6
  refine wpAny_execs_cons (wpAny_If (wpAny_isTrue_Compare1 ?_ cb))
  refine name_same K H 265 q10 (v := .ref r) (by unfold nameV; rw [en]; rfl) fun val rv => ?_
  obtain ⟨pr, hpr, rfl⟩ := rv
  refine List_ (args_nil (wpAny_newObj_type ?_))
  have H5 := fun (o : Obj) tk => grown_keep H (h' := S5.heap.push o) (fun b _ e => Heap.get?_push_of_some _ e) tk
  obtain ⟨pr2, hpr2, _, vsr, n5, hor, rxr⟩ := H.obj r _ hr
  rw [hpr] at hpr2
  cases hpr2
  have lenr := F2.length rxr
  have hl1 : ∀ o, (S5.heap.push o).IsList pr.1 vsr.toArray := fun o => ⟨_, Heap.get?_push_of_some _ hor, rfl, n5, rfl⟩
  by_cases he : g.row = []
  · have e0 : vsr = [] := by
      rw [he] at lenr
      exact List.length_eq_zero_iff.mp lenr.symm
    subst e0
    refine PySem.SeqAt.eq_listAt (e := fun _ => true) (hl1 _) ⟨_, Heap.get?_push_size _ rfl, rfl, 0, rfl⟩ rfl hun (fun j h1 => absurd h1 (by simp)) ?_
    refine wpAny_truthy_bool ?_
    show wpAny _ A (execs aS _) _ _ _
    rcases agSs_inv c2 with ⟨q, _⟩ | ⟨_, _, st5, ss5, q, rfl, g5, h5⟩
    · cases q
    cases q
    obtain ⟨eR, q12, rfl, d1⟩ := ret_inv g5
    obtain ⟨_, q13, rfl⟩ := cst_int d1
    have e : drawV g.row at_ m = 0 := by unfold drawV; rw [he]; simp
    rw [e] at hQ
    exact wpAny_execs_cons (wpAny_Return_some (wpAny_Constant_int (hQ _ _ (H5 _ _))))
  · have sz1 : (vsr.toArray.size != (([] : List Value).toArray).size) = true := by
      have : vsr.length ≠ 0 := fun z => he (List.length_eq_zero_iff.mp (lenr.trans z))
      simpa using this
    refine PySem.SeqAt.eq_list_lengthsAt (hl1 _) ⟨_, Heap.get?_push_size _ rfl, rfl, 0, rfl⟩ sz1 hun ?_
    refine wpAny_truthy_bool ?_
    show wpAny _ A (execs bS _) _ _ _
    rcases agSs_inv c3 with ⟨_, rfl⟩ | ⟨_, _, _, _, q, _⟩
    rotate_left
    · cases q
    refine wpAny_execs_nil ?_
    show wpAny _ A (execs (st4 :: ss4) _) _ _ _
    obtain ⟨eR, q12, rfl, d1⟩ := ret_inv g4
    refine wpAny_execs_cons (wpAny_Return_some ?_)
    exact take_tail K hF (H5 _ _) en hpr (hl1 _) rxr hl he a6 m0 d1 fun t tk => hQ t _ (H5 _ tk)
theorem take_a (K : FOK g c) {n r at_ m : Nat} (hF : c.F = fT) {s5 : St} {S3 : Shared} (H3 : Here g c W s5 S3) (en : s5.env = [(246, .ref n), (266, .int (.ofNat m)), (265, .ref r), (16, .int (.ofNat at_))]) (hn : s5.get n = some (.list [.ref r, .int (.ofNat at_)]))
    {st2 : Stmt} {ss2 : List Stmt} (g2 : agS g.nm (.asg (.item (.nm 246) (.cst (.int 1))) (.bin .Add (.nm 16) (.cst (.int 1)))) st2 = true) {A : Around} {Q : Flow → Shared → Prop} {E : Value → Shared → Prop}
    (hQ : ∀ S', Here g c W (s5.set n (.list [.ref r, .int (.ofNat (Nat.succ at_))])) S' → wpAny (model g.prog g.w) A (execs ss2 c.env) Q E S') : wpAny (model g.prog g.w) A (execs (st2 :: ss2) c.env) Q E S3 := by
  obtain ⟨t2, e2, q1, rfl, b0, b1, b2, b3⟩ := asg_inv0 g2
  obtain ⟨o', i', _, q2, rfl, _, b4, b5, b6⟩ := itemT_inv b2
  obtain ⟨q3, rfl⟩ := ag_nm b5
  obtain ⟨_, q4, rfl⟩ := cst_int b6
  obtain ⟨lE, rE, q5, rfl, b7, b8⟩ := ag_bin b3
  obtain ⟨q6, rfl⟩ := ag_nm b7
  obtain ⟨_, q7, rfl⟩ := cst_int b8
  have lk1 : nameV 246 c.F s5 = .ok (.ref n) s5 := by unfold nameV; rw [en]; rfl
  refine wpAny_execs_cons (wpAny_Assign_stores ?_ (swapsSole_no b0 _ _ _) (swapped_no b1 _))
  refine wpAny_BinOp (name_same K H3 16 q6 (v := .int (.ofNat at_)) (by unfold nameV; rw [en]; rfl) fun val rv => ?_)
  obtain ⟨t1, rfl⟩ := rv
  refine wpAny_Constant_int (PyProof.Rows.add_int ?_)
  show wpAny _ A (assign (.Subscript _ _ _) _ _) _ _ _
  rw [arm_assign_Subscript]
  refine wpAny_bind (wpAny_holding (name_same K (H3.toks _) 246 q3 (v := .ref n) lk1 fun val rv => ?_))
  obtain ⟨pn3, hpn3, rfl⟩ := rv
  refine wpAny_bind (wpAny_holding (wpAny_Constant_int ?_))
  refine wpAny_bind (wpAny_standAt (wpAny_bind (wpAny_holding ?_)))
  obtain ⟨pn4, hpn4, _, vs1, n1, ho2, rx1⟩ := H3.obj n _ hn
  rw [hpn3] at hpn4
  cases hpn4
  obtain ⟨vr, va2, rfl, rr, ra2⟩ := VRs.two rx1
  refine ki_setAt (n := n1) ho2 (by decide) (by decide) (by simp) (wpAny_release ?_)
  have hu := upd_get ho2 (Obj.mapSeq (·.setIfInBounds (1 : Int).toNat (.int (Int.ofNat at_ + 1) (S3.toks + 1)))) rfl
  obtain ⟨k2, e4⟩ : ∃ k2, Obj.mapSeq (·.setIfInBounds (1 : Int).toNat (.int (Int.ofNat at_ + 1) (S3.toks + 1))) (listOf [vr, va2].toArray n1) = listOf [vr, .int (Int.ofNat at_ + 1) (S3.toks + 1)].toArray k2 := ⟨_, rfl⟩
  rw [e4] at hu
  exact hQ _ (snd_listUpd H3 (l' := [.ref r, .int (.ofNat (Nat.succ at_))]) rfl hpn3 hu (fun b hb => Heap.get?_update_ne _ _ _ _ hb) (.cons rr (.cons ⟨_, rfl⟩ .nil)) _)
theorem take_ok (GO : GOK g G) (DW : DrawOK g G) {oc : Value} {od : Option Addr} {osl : Array (Option Value)} {fd : FuncData} {body : List Stmt} (hl : g.K.lookup fT.addr = some ⟨oc, od, .func fd, osl⟩) (E : EntOK g fT fd body)
    {l : List V} {vs : List Value} {A : Around} {R : Result → Shared → Prop} (K : FOK g c) (hb : c.F.bz = false) (rv : VRs g W l vs) (O : AOK c 2 A) (H : Here g c W s S)
    (hP : Post g c (VR g) W (doTake G l s) (fun v S' => R (.ok (.ret v)) S') (fun e S' => R (.error e) S')) : codeAny (model g.prog g.w) A (.call (.ref fT.addr) ⟨vs, []⟩) R S := by
  obtain ⟨n, r, at_, m, v, rfl, hn, hr, ho, e⟩ := take_inv hP.ne_bad
  rw [e] at hP
  obtain ⟨a6, m0, hv⟩ := DW.orc _ _ _ ho
  obtain ⟨va, vb, rfl, ra, t0, rfl⟩ := rv.two
  have room : A.depth < recursionLimit := by
    have := O.depth
    show A.depth < 1000
    omega
  refine def_call GO K hl E rv (en := [(246, .ref n), (266, .int (.ofNat m))]) rfl room H fun cells h₁ tk Hc hk => ?_
  have Kc := callee_ok GO K H E.fn E.nl cells
  have Oc := deeper_ok (d := 1) O hb W S fT fd cells
  have hh : (A.deeper (callee c W S fT fd cells).env).handled = none := O.hand hb
  generalize hA : A.deeper (callee c W S fT fd cells).env = A' at Oc hh ⊢
  suffices key : ∀ (Q : Flow → Shared → Prop) (E' : Value → Shared → Prop), (∀ v s', R (.ok (.ret v)) s' → Q (.ret v) s') → wpAny (model g.prog g.w) A' (execs body (callee c W S fT fd cells).env) Q E' { S with heap := h₁, toks := tk } from
    key _ _ fun v s' h => h
  intro Q E' hQ
  rcases agSs_inv E.ag with ⟨q, _⟩ | ⟨_, _, st1, ss1, q, rfl, g1, h1⟩
  · cases q
  cases q
  rcases agSs_inv h1 with ⟨q, _⟩ | ⟨_, _, st2, ss2, q, rfl, g2, h2⟩
  · cases q
  cases q
  rcases agSs_inv h2 with ⟨q, _⟩ | ⟨_, _, st3, ss3, q, rfl, g3, h3⟩
  · cases q
  cases q
  rcases agSs_inv h3 with ⟨q, _⟩ | ⟨_, _, st4, ss4, q, rfl, g4, h4⟩
  · cases q
  cases q
  obtain ⟨t', e', p, rfl, f0, f1, f2, f3⟩ := asg_inv0 g1
  obtain ⟨es, kk, p', rfl, f4⟩ := tupT_inv f2
  obtain ⟨p3, rfl⟩ := ag_nm f3
  refine wpAny_execs_cons (wpAny_Assign_stores ?_ (swapsSole_no f0 _ _ _) (swapped_no f1 _))
  refine name_same Kc Hc 246 p3 (v := .ref n) rfl fun val rv => ?_
  obtain ⟨pn, hpn, rfl⟩ := rv
  show wpAny _ A' (assign (.Tuple es kk p') _ (.ref pn.1)) _ _ _
  obtain ⟨pn2, hpn2, _, vs0, n0, ho1, rx⟩ := Hc.obj n _ hn
  rw [hpn] at hpn2
  cases hpn2
  have el : es.length = 2 := by
    rcases agN_inv f4 with ⟨q, _⟩ | ⟨_, _, _, _, q, rfl, f5⟩
    · cases q
    cases q
    rcases agN_inv f5 with ⟨q, _⟩ | ⟨_, _, _, _, q, rfl, f6⟩
    · cases q
    cases q
    rcases agN_inv f6 with ⟨_, rfl⟩ | ⟨_, _, _, _, q, _⟩
    · rfl
    · cases q
  obtain ⟨l1, l2⟩ := agN_len (env := (callee c W S fT fd cells).env) f4
  have sz : vs0.toArray.size = 2 := by rw [List.size_toArray, ← F2.length rx]; rfl
  rw [assign_Tuple]
  refine wpAny_bind (wpAny_standAt ?_)
  unfold unpack
  rw [l2, l1, el, ← sz]
  refine wpAny_bind (wpAny_holding (kun_itemsOf hh ⟨_, ho1, rfl, n0, rfl⟩ fun h2' eb => ?_))
  have H2 := grown_keep Hc (h' := h2') (fun b o e => eb b o (Nat.ne_of_lt (lt_of_get e)) e) tk
  refine snd_bindAll (d := 1) Kc GO _ es [.ref r, .int (.ofNat at_)] vs0 W _ f4 rx (by rw [el, ← sz, List.size_toArray]) A' _ _ _ Oc H2 ?_
  show Post g _ UR W (.ok () (⟨[(246, .ref n), (266, .int (.ofNat m)), (265, .ref r), (16, .int (.ofNat at_))], s.h, s.n⟩ : St)) _ _
  intro S3 W3 _ l3 H3 _
  refine take_a (s5 := ⟨[(246, .ref n), (266, .int (.ofNat m)), (265, .ref r), (16, .int (.ofNat at_))], s.h, s.n⟩) Kc rfl H3 rfl hn g2 fun S4 H4 => ?_
  have nr : r ≠ n := fun z => by subst z; rw [hn] at hr; cases hr
  refine take_b (s5 := (⟨[(246, .ref n), (266, .int (.ofNat m)), (265, .ref r), (16, .int (.ofNat at_))], s.h, s.n⟩ : St).set n (.list [.ref r, .int (.ofNat (Nat.succ at_))])) Kc rfl H4 rfl ?_ DW.len a6 m0 g3 g4 (by have := Oc.units; omega) fun t S5 H' => hQ _ _ ?_
  · show (s.h.set _ n).get r = _
    rw [Tr.get_set, if_neg (fun q => nr q.1)]
    exact hr
  have HB := Here.back H K l3 (Slt.refl _ _) (h₃ := c.h₀) H' rfl (fun b o e => emb H e) (fun b e => e)
  rw [← hv]
  exact hP S5 W3 (.int v t) l3 HB ⟨t, rfl⟩
end
end Mine
namespace Mine
open PySem PySem.W PySem.Calls PyProof.Rows
noncomputable def fI : Fn := ⟨1510, [204], [], .cons (.ret .pass) .nil, [204], [], [], false⟩
noncomputable def DcP (nm : Nat → Str) (e : Expr) : Prop := ∃ kx vx px iter c1 scope pos, e = .DictComp kx vx [⟨.Name (nm 189) px, iter, [c1], 0⟩] scope pos ∧ ag nm (.item (.nm 189) (.cst (.int 5))) kx = true ∧ ag nm (.nm 189) vx = true ∧ ag nm (.nm 204) iter = true ∧
    ag nm (.cmp .Eq (.item (.nm 189) (.cst (.int 0))) (.cst (.str 0))) c1 = true ∧ scope.kind = .function ∧ (∀ y ∈ scope.names, y.2 = .local) ∧ scope.names.lookup (nm 189) = some .local
noncomputable def isFnK : (k : ScopeKind) → {b : Bool // b = true → k = .function}
  | .function => ⟨true, fun _ => rfl⟩
  | _ => ⟨false, fun h => nomatch h⟩
noncomputable def isLoc : (k : NameKind) → {b : Bool // b = true → k = .local}
  | .local => ⟨true, fun _ => rfl⟩
  | _ => ⟨false, fun h => nomatch h⟩
noncomputable def isLocO : (k : Option NameKind) → {b : Bool // b = true → k = some .local}
  | some k => ⟨(isLoc k).1, fun h => by rw [(isLoc k).2 h]⟩
  | none => ⟨false, fun h => nomatch h⟩
noncomputable def dcD (nm : Nat → Str) : (e : Expr) → {b : Bool // b = true → DcP nm e}
  | .DictComp kx vx [⟨.Name x _, iter, [c1], 0⟩] scope _ => ⟨nm 189 == x && ((agD nm (.item (.nm 189) (.cst (.int 5))) kx).1 && ((agD nm (.nm 189) vx).1 && ((agD nm (.nm 204) iter).1 && ((agD nm (.cmp .Eq (.item (.nm 189) (.cst (.int 0))) (.cst (.str 0))) c1).1 &&
    ((isFnK scope.kind).1 && (scope.names.all (fun y => (isLoc y.2).1) && (isLocO (scope.names.lookup x)).1)))))), fun h => by
      obtain ⟨h0, q1⟩ := and2 h; obtain ⟨h1, q2⟩ := and2 q1; obtain ⟨h2, q3⟩ := and2 q2; obtain ⟨h3, q4⟩ := and2 q3; obtain ⟨h4, q5⟩ := and2 q4; obtain ⟨h5, q6⟩ := and2 q5; obtain ⟨h6, h7⟩ := and2 q6
      have e := beq_iff_eq.mp h0
      clear h q1 q2 q3 q4 q5 q6 h0
      subst e
      exact ⟨_, _, _, _, _, _, _, rfl, agD_ok h1, agD_ok h2, agD_ok h3, agD_ok h4, (isFnK _).2 h5, fun y hy => (isLoc _).2 (List.all_eq_true.mp h6 y hy), (isLocO _).2 h7⟩⟩
  | _ => ⟨false, fun h => nomatch h⟩
noncomputable def dcB (nm : Nat → Str) (e : Expr) : Bool := (dcD nm e).1
theorem dcB_inv {nm : Nat → Str} {e : Expr} (h : dcB nm e = true) : DcP nm e := (dcD nm e).2 h
theorem lookup_all {l : List (Str × NameKind)} (h : ∀ y ∈ l, y.2 = .local) : ∀ y ∈ l, l.lookup y.1 = some .local := by
  induction l with
  | nil => intro y hy; cases hy
  | cons p l ih =>
    intro y hy
    rw [List.lookup_cons]
    cases hq : y.1 == p.1 with
    | true => simp only; rw [h p (.head _)]
    | false =>
      simp only
      rcases List.mem_cons.mp hy with rfl | hy
      · simp at hq
      · exact ih (fun y hy => h y (.tail _ hy)) y hy
theorem closure_none {scope : Scope} {env : Env} (h : ∀ y ∈ scope.names, y.2 = .local) : closureFor scope env = pure [] := by
  unfold closureFor
  have : ∀ (l : List (Str × NameKind)) (cs : List (Str × Addr)), (∀ y ∈ l, y.2 = .local) → (forIn l cs fun (x : Str × NameKind) (r : List (Str × Addr)) =>
      (match x with | (name, kind) => if (kind == NameKind.free) = true then do let a ← cellOf env name; pure (ForInStep.yield ((name, a) :: r)) else pure (ForInStep.yield r) : Sem (ForInStep (List (Str × Addr))))) = pure cs := by
    intro l
    induction l with
    | nil => intro cs _; rfl
    | cons p l ih =>
      intro cs hl
      rw [List.forIn_cons]
      obtain ⟨n, k⟩ := p
      have hk : k = .local := hl (n, k) (.head _)
      subst hk
      exact ih cs fun y hy => hl y (.tail _ hy)
  have h2 := this scope.names [] h
  exact congrArg (fun t : Sem (List (Str × Addr)) => t >>= fun cs => pure cs) h2
section
variable {g : Gx} {G : Cfg} {c : FC} {d : Nat} {W : Wd} {s : St} {S : Shared}
noncomputable def itemOf (h : Heap) (v : Value) (i : Nat) : Option Value := match v with
  | .ref a => match h.get? a with
    | some o => match o.data with
      | .seq xs _ => xs[i]?
      | _ => none
    | none => none
  | _ => none
noncomputable def isPort (g : Gx) (h : Heap) (v : Value) : Bool := match itemOf h v 0 with
  | some (.str x _) => x == g.nm 0
  | _ => false
noncomputable def ItemOK (g : Gx) (h : Heap) (v : Value) : Prop := ∃ a vs n, v = .ref a ∧ h.get? a = some ⟨.type "tuple", none, .seq (vs : List Value).toArray n, #[]⟩ ∧ vs.length ≤ 1000 ∧ (∃ tag t, vs[0]? = some (.str tag t)) ∧ (isPort g h v = true → ∃ k t, vs[5]? = some (.str k t))
theorem nat_beq_eq {a b : Nat} : Nat.beq a b = decide (a = b) := natbeq a b
theorem port_list (GO : GOK g G) (H : Here g c W s S) : ∀ {l : List V} {vs : List Value} {d : En}, portKeys s l = some d → VRs g W l vs →
    (∀ v ∈ vs, ItemOK g S.heap v) ∧ (d.map (·.1)).Nodup ∧ F2 (fun v k => ∃ t, itemOf S.heap v 5 = some (.str k t)) (vs.filter (isPort g S.heap)) (d.map fun p => g.nm p.1) ∧ F2 (KR g W) d ((d.map fun p => g.nm p.1).zip (vs.filter (isPort g S.heap)))
  | [], vs, d, h, r => by
    cases r
    cases h
    exact ⟨fun v hv => (by cases hv), List.nodup_nil, F2.nil, F2.nil⟩
  | v :: l, vs, d, h, r => by
    cases r with
    | @cons _ val _ vals rv r =>
    unfold portKeys at h
    split at h <;> try (cases h; done)
    rename_i n
    split at h <;> try (cases h; done)
    rename_i tag l' hn
    split at h <;> try (cases h; done)
    rename_i d' hd
    obtain ⟨i1, i2, i3, i4⟩ := port_list GO H hd r
    obtain ⟨p, hp, rfl, ws, k, ho, rx⟩ := H.ofRef rv hn
    have len := szL_le (H.okO hn)
    have lx := F2.length rx
    obtain ⟨w0, ws, rfl, ⟨t0, rfl⟩, rx2⟩ : ∃ w0 ws', ws = w0 :: ws' ∧ VR g W (.str tag) w0 ∧ VRs g W l' ws' := by
      cases rx with | cons a b => exact ⟨_, _, rfl, a, b⟩
    have it0 : itemOf S.heap (.ref p.1) 0 = some (.str (g.nm tag) t0) := by unfold itemOf; simp only [ho]; rfl
    have it5 : itemOf S.heap (.ref p.1) 5 = ws[4]? := by unfold itemOf; simp only [ho]; simp
    have ip : isPort g S.heap (.ref p.1) = decide (tag = 0) := by
      unfold isPort
      rw [it0]
      simp only
      rw [nm_beq GO, natbeq]
    cases ht : Nat.beq tag 0 with
    | true =>
      rw [ht] at h
      rw [natbeq] at ht
      have ht' := decide_eq_true_iff.mp ht
      have h : portKey n l' d' = some d := h
      unfold portKey at h
      split at h <;> try (cases h; done)
      rename_i kk hk
      split at h <;> try (cases h; done)
      rename_i hlook
      cases h
      obtain ⟨w5, h5, tk5, rfl⟩ := F2.get rx2 hk
      have f1 : (Value.ref p.1 :: vals).filter (isPort g S.heap) = Value.ref p.1 :: vals.filter (isPort g S.heap) := by
        rw [List.filter_cons, ip, ht]; simp
      refine ⟨fun v hv => ?_, ?_, ?_, ?_⟩
      · rcases List.mem_cons.mp hv with rfl | hv
        · exact ⟨p.1, _, k, rfl, ho, by rw [← lx]; exact len, ⟨_, _, rfl⟩, fun _ => ⟨g.nm kk, tk5, by simp only [List.getElem?_cons_succ]; exact h5⟩⟩
        · exact i1 v hv
      · rw [List.map_cons, List.nodup_cons]
        refine ⟨fun q => ?_, i2⟩
        obtain ⟨e, he, e2⟩ := List.mem_map.mp q
        have : ∀ {l : En} {x : Nat}, look l x = none → ∀ e ∈ l, e.1 ≠ x := by
          intro l
          induction l with
          | nil => intro x _ e he; cases he
          | cons q l ih =>
            intro x hl e he
            rw [look_cons] at hl
            by_cases z : q.1 = x
            · rw [if_pos z] at hl; cases hl
            · rw [if_neg z] at hl
              rcases List.mem_cons.mp he with rfl | he
              · exact z
              · exact ih hl e he
        exact this hlook e he e2
      · rw [f1, List.map_cons]
        exact .cons ⟨tk5, it5.trans h5⟩ i3
      · rw [f1, List.map_cons, List.zip_cons_cons]
        exact .cons ⟨rfl, p, hp, rfl⟩ i4
    | false =>
      rw [ht] at h
      rw [natbeq] at ht
      have h : some d' = some d := h
      cases h
      have f1 : (Value.ref p.1 :: vals).filter (isPort g S.heap) = vals.filter (isPort g S.heap) := by
        rw [List.filter_cons, ip, ht]; simp
      refine ⟨fun v hv => ?_, i2, by rw [f1]; exact i3, by rw [f1]; exact i4⟩
      rcases List.mem_cons.mp hv with rfl | hv
      · refine ⟨p.1, _, k, rfl, ho, by rw [← lx]; exact len, ⟨_, _, rfl⟩, fun q => ?_⟩
        rw [ip, ht] at q
        cases q
      · exact i1 v hv
theorem f2_snoc {α β : Type} {R : α → β → Prop} : ∀ {l : List α} {a : α} {r : List β}, F2 R (l ++ [a]) r → ∃ r' b, r = r' ++ [b] ∧ F2 R l r' ∧ R a b
  | [], a, _, .cons h .nil => ⟨[], _, rfl, .nil, h⟩
  | _ :: l, a, _, .cons h t => by
    obtain ⟨r', b, rfl, h1, h2⟩ := f2_snoc t
    exact ⟨_ :: r', b, rfl, .cons h h1, h2⟩
theorem stored_zip {FK : Value → Str → Prop} {FV : Value → Value → Prop} (hV : ∀ v y, FV v y → y = v) {L : List Value} {kvs : List (Str × Value)} (x : StoredAll FK FV L kvs) : ∀ ks, F2 (fun v k => ∀ k', FK v k' → k' = k) L ks → ks.Nodup → kvs = ks.zip L := by
  induction x with
  | nil => intro ks h _; cases h; rfl
  | @snoc l kvs v k y _ hk hy ih =>
    intro ks h nd
    obtain ⟨ks', k', rfl, h1, h2⟩ := f2_snoc h
    have nd' := List.nodup_append.mp nd
    have e1 := ih ks' h1 nd'.1
    have e2 := h2 _ hk
    have e3 := hV _ _ hy
    subst e2 e3
    have lz : ks'.length = l.length := (F2.length h1).symm
    have hn : k ∉ ks' := fun q => nd'.2.2 k q k (.head _) rfl
    rw [e1]
    unfold stored
    have ha : ((ks'.zip l).any fun kv => decide (kv.1 = k)) = false := by
      rw [List.any_eq_false]
      intro kv hkv q
      have : kv.1 ∈ ks' := by obtain ⟨a, b⟩ := kv; exact (List.of_mem_zip hkv).1
      rw [of_decide_eq_true q] at this
      exact hn this
    rw [if_neg (by rw [ha]; exact Bool.false_ne_true)]
    rw [List.zip_append lz]
    rfl
theorem portKeys_env {s s' : St} (e : ∀ i, s'.get i = s.get i) : ∀ l, portKeys s' l = portKeys s l
  | [] => rfl
  | v :: l => by
    have ih := portKeys_env e l
    unfold portKeys
    cases v <;> try rfl
    rename_i n
    simp only [e, ih]
theorem item_at {h : Heap} {v : Value} {a : Addr} {vs : List Value} {n : Nat} (e : v = .ref a) (ho : h.get? a = some ⟨.type "tuple", none, .seq vs.toArray n, #[]⟩) (i : Nat) : itemOf h v i = vs[i]? := by
  subst e
  unfold itemOf
  simp only [ho]
  simp
theorem comp_item {M : Program} {w : World} {A : Around} {E : Value → Shared → Prop} {s : Shared} {nm : Nat → Str} (db : ∀ x, (nm x == ("__debug__" : Str)) = false) {env : Env} {C : Addr} {m : Str → Option Value} {v : Value} (hL : env.locals = C) (hk : env.scope.kind = .function) (hl : env.kindOf (nm 189) = some .local) (hn : s.heap.Ns C m) (hm : m (nm 189) = some v)
    {i : Nat} {e : Expr} (h : ag nm (.item (.nm 189) (.cst (.int (.ofNat i)))) e = true) {a : Addr} {vs : List Value} {n : Nat} (ev : v = .ref a) (ho : s.heap.get? a = some ⟨.type "tuple", none, .seq vs.toArray n, #[]⟩) (len : vs.length ≤ 1000) {x : Value} (hx : vs[i]? = some x) {Q : Value → Shared → Prop} (hQ : Q x { s with toks := s.toks + 1 }) :
    wpAny (model M w) A (eval e env) Q E s := by
  obtain ⟨o', i', _, rfl, hs, h1, h2⟩ := ag_item h
  obtain ⟨_, rfl⟩ := ag_nm h1
  obtain ⟨_, _, rfl⟩ := cst_int h2
  subst ev
  subst hL
  have lt : i < vs.length := (List.getElem?_eq_some_iff.mp hx).1
  refine Subscript_ (wpAny_Name (wpAny_loadName_local hk hl hn hm ?_) (db 189))
  refine wpAny_Constant_int ?_
  have tx : IsTup s.heap a vs.toArray := ⟨_, ho, rfl, n, rfl⟩
  have hj : seqIndex? (i : Int) vs.toArray.size = some i := by
    have h1 : ¬ ((i : Int) < 0) := by omega
    simp only [seqIndex?, h1, if_false]
    simp [lt]
  exact tail_any (s := { s with toks := s.toks + 1 }) (show Shared.TypeIs { s with toks := s.toks + 1 } (.ref a) "tuple" from ⟨_, ho, rfl⟩) slot_tuple_getitem.lookup (getItem_tuple (s := { s with toks := s.toks + 1 }) tx (by show -(2 ^ 63) ≤ (i : Int); omega) (by show (i : Int) < 2 ^ 63; omega) hj (by simpa using hx) hQ) (subscripted_plain hs _ _)
theorem dict_comp {prog : Program} {w : World} {A : Around} {E : Value → Shared → Prop} {s : Shared} {env : Env} {ax : Addr} {vs : List Value} {kx vx iter : Expr} {x : Str} {px : Pos} {ifs : List Expr} {scope : Scope} {pos : Pos} {Q : Value → Shared → Prop} (hh : A.handled = none) (p : Value → Bool) (FK : Value → Str → Prop) (FV : Value → Value → Prop)
    (a5 : scope.kind = .function) (a6 : ∀ y ∈ scope.names, y.2 = .local) (a7 : scope.names.lookup x = some .local) (hl : s.heap.IsList ax vs.toArray) (len : vs.length ≤ sizeLine)
    (hi : wpAny (model prog w) A (eval iter env) (fun v s₁ => v = .ref ax ∧ s₁ = s) E s) (hs : ∀ x, foldedSetIterable iter env x = pure x)
    (ht : ∀ C v (s₃ : Shared) m₃ E', v ∈ vs → s₃.heap.Ns C m₃ → m₃ x = some v → (∀ b o, s.heap.get? b = some o → s₃.heap.get? b = some o) →
      wpAny (model prog w) A (forIn ifs true fun c r => if r = true then do let ok ← isTrue c (compEnvC scope [] C env) (eval c (compEnvC scope [] C env)); pure (ForInStep.yield ok) else pure (ForInStep.yield r)) (fun ok s₄ => ok = p v ∧ PySem.Keeps s₃ s₄) E' s₃)
    (hk : ∀ C v (s₃ : Shared) m₃ E', v ∈ vs → p v = true → s₃.heap.Ns C m₃ → m₃ x = some v → (∀ b o, s.heap.get? b = some o → s₃.heap.get? b = some o) →
      wpAny (model prog w) A (eval kx (compEnvC scope [] C env)) (fun key s₄ => (∃ k, (strKind prog w).is k key = true ∧ FK v k) ∧ PySem.Keeps s₃ s₄) E' s₃)
    (hv : ∀ C v (s₃ : Shared) m₃ E', v ∈ vs → p v = true → s₃.heap.Ns C m₃ → m₃ x = some v → (∀ b o, s.heap.get? b = some o → s₃.heap.get? b = some o) →
      wpAny (model prog w) A (eval vx (compEnvC scope [] C env)) (fun y s₄ => FV v y ∧ PySem.Keeps s₃ s₄) E' s₃)
    (hQ : ∀ D h' tk kvs, s.heap.objs.size ≤ D → h'.DictOf (strKind prog w) D kvs → StoredAll FK FV (vs.filter p) kvs → (∀ b o, s.heap.get? b = some o → h'.get? b = some o) → Q (.ref D) { s with heap := h', toks := tk }) :
    wpAny (model prog w) A (eval (.DictComp kx vx [⟨.Name x px, iter, ifs, 0⟩] scope pos) env) Q E s := by
  rw [arm_eval_DictComp]
  refine wpAny_comprehension_free (use := none) rfl hs (closure_none a6) a5 (fun y hy _ => lookup_all a6 y hy) (wpAny_mono hi (fun v s₁ q => ?_) fun _ _ e => e)
  obtain ⟨rfl, rfl⟩ := q
  have la : ax < s₁.heap.objs.size := by obtain ⟨_, e, _⟩ := hl; exact lt_of_get e
  refine wpAny_pyIter_list hl (wpAny_newObj_type ?_)
  generalize eI : s₁.heap.push { cls := .type "list_iterator", data := .fields #[.ref ax, .int 0 0] } = hI
  have sI : hI.objs.size = s₁.heap.objs.size + 1 := by rw [← eI, Heap.size_push]
  have kI : ∀ b o, s₁.heap.get? b = some o → hI.get? b = some o := fun b o e => by rw [← eI]; exact Heap.get?_push_of_some _ e
  have oI : hI.get? s₁.heap.objs.size = some { cls := .type "list_iterator", data := .fields #[.ref ax, .int 0 0] } := by rw [← eI]; exact Heap.get?_push_size _ rfl
  have dI : (hI.push { cls := .type "dict", dict := none, data := .dict #[] }).DictOf (strKind prog w) hI.objs.size [] := Heap.DictOf.new hI
  generalize eD : hI.push { cls := .type "dict", dict := none, data := .dict #[] } = hD at dI
  have sD : hD.objs.size = s₁.heap.objs.size + 2 := by rw [← eD, Heap.size_push, sI]
  have kD : ∀ b o, hI.get? b = some o → hD.get? b = some o := fun b o e => by rw [← eD]; exact Heap.get?_push_of_some _ e
  refine wpAny_newFunctionEnv (fun y hy q => by rw [a6 y hy] at q; cases q) (fun y hy => by cases hy) (fun h₁ ns sb => ?_) a5
  have ns : h₁.Ns hD.objs.size (fun x => ([] : List (Str × Value)).reverse.lookup x) := ns
  have kC : ∀ b o, hD.get? b = some o → h₁.get? b = some o := fun b o e => (sb.2 b (Nat.ne_of_lt (lt_of_get e))).trans (Heap.get?_push_of_some _ e)
  have kS : ∀ b o, s₁.heap.get? b = some o → h₁.get? b = some o := fun b o e => kC b o (kD b o (kI b o e))
  have nD : hI.objs.size ≠ hD.objs.size := by rw [sI, sD]; omega
  have notW : ∀ b o, s₁.heap.get? b = some o → b ≠ hD.objs.size ∧ b ∉ [s₁.heap.objs.size] ∧ b ≠ hI.objs.size := fun b o e => by
    have := lt_of_get e
    refine ⟨by rw [sD]; exact Nat.ne_of_lt (Nat.lt_of_lt_of_le this (Nat.le_add_right _ _)), fun q => ?_, by rw [sI]; exact Nat.ne_of_lt (Nat.lt_of_lt_of_le this (Nat.le_add_right _ _))⟩
    rw [List.mem_singleton.mp q] at this
    exact Nat.lt_irrefl _ this
  have st : (fun (i : Nat) (h : Heap) => h.IsListIter s₁.heap.objs.size ax i ∧ h.IsList ax vs.toArray) 0 h₁ :=
    ⟨⟨_, kC _ _ (kD _ _ oI), rfl, rfl⟩, let ⟨o, ho, r⟩ := hl; ⟨o, kS _ _ ho, r⟩⟩
  have fpD : hI.objs.size ∉ [s₁.heap.objs.size, ax] := fun q => by
    rcases List.mem_cons.mp q with q | q
    · rw [sI] at q; omega
    · have := List.mem_singleton.mp q; rw [sI] at this; rw [← this] at la; exact Nat.lt_irrefl _ (Nat.lt_of_succ_lt la)
  have fpC : hD.objs.size ∉ [s₁.heap.objs.size, ax] := fun q => by
    rcases List.mem_cons.mp q with q | q
    · rw [sD] at q; omega
    · have := List.mem_singleton.mp q; rw [sD] at this; rw [← this] at la; exact Nat.lt_irrefl _ (Nat.lt_of_succ_lt (Nat.lt_of_succ_lt la))
  have W := Walks.list (prog := prog) (w := w) hh s₁.heap.objs.size ax (Nat.ne_of_lt la) vs.toArray
  have mem : ∀ (i : Nat) v, vs.toArray[i]? = some v → v ∈ vs := fun i v e => by simpa using Array.mem_of_getElem? e
  have loop : ∀ s₃ : Shared, s₃ = { s₁ with heap := h₁, toks := s₁.toks + ([] : List (Str × Value)).length } →
      codeAny (model prog w) A (.compLoop (.DictComp kx vx [⟨.Name x px, iter, ifs, 0⟩] scope pos) 0 (.ref s₁.heap.objs.size) (.ref hI.objs.size) (compEnvC scope [] hD.objs.size env))
        (compPost (model prog w) A E none Q (.ref hI.objs.size) hD.objs.size) s₃ := by
    rintro s₃ rfl
    refine codeAny_compLoop_walkD (hsz := by rw [List.size_toArray]; exact len) (knd := strKind prog w) (cenv := compEnvC scope [] hD.objs.size env) W p FK FV (lookup_relabel_local a7) (by simp [compEnvC, relabel, a5]) nD fpD fpC st
      (dI.at fun o e => kC _ _ e) ns
      (fun i v s₃ m₃ hp hn hm k => ht _ v s₃ m₃ _ (mem i v hp) hn hm fun b o e => let ⟨n1, n2, n3⟩ := notW b o e; k b o n1 n2 n3 (kS b o e))
      (fun i v s₃ m₃ hp hpv hn hm k => hk _ v s₃ m₃ _ (mem i v hp) hpv hn hm fun b o e => let ⟨n1, n2, n3⟩ := notW b o e; k b o n1 n2 n3 (kS b o e))
      (fun i v s₃ m₃ hp hpv hn hm k => hv _ v s₃ m₃ _ (mem i v hp) hpv hn hm fun b o e => let ⟨n1, n2, n3⟩ := notW b o e; k b o n1 n2 n3 (kS b o e)) fun h' tk m' kvs vs' hn ha hlen hP hF k => ?_
    have e : vs' = vs := by simpa using list_of_places hlen hP
    subst e
    refine ⟨m', hn, fun h'' sb'' => ?_⟩
    exact hQ hI.objs.size h'' tk kvs (by rw [sI]; omega) (ha.extBut sb''.extBut nD) hF fun b o e => let ⟨n1, n2, n3⟩ := notW b o e; sb''.extBut b o n1 (k b o n1 n2 n3 (kS b o e))
  exact codeAny_compStart_dict (loop _ rfl) (W.self 0 _ _ _ st (loop _ rfl))
theorem items_ok (GO : GOK g G) {oc : Value} {od : Option Addr} {osl : Array (Option Value)} {fd : FuncData} {body : List Stmt} (hl : g.K.lookup fI.addr = some ⟨oc, od, .func fd, osl⟩) (E : EntOK g fI fd body) (hdc : ∀ e p, body = [.Return (some e) p] → dcB g.nm e = true)
    {l : List V} {vs : List Value} {A : Around} {R : Result → Shared → Prop} (K : FOK g c) (hb : c.F.bz = false) (rv : VRs g W l vs) (O : AOK c 2 A) (H : Here g c W s S)
    (hP : Post g c (VR g) W (doItems l s) (fun v S' => R (.ok (.ret v)) S') (fun e S' => R (.error e) S')) : codeAny (model g.prog g.w) A (.call (.ref fI.addr) ⟨vs, []⟩) R S := by
  unfold doItems at hP
  split at hP
  rotate_left
  · exact hP.elim
  rename_i n
  obtain ⟨va, rfl, ra⟩ := rv.one
  split at hP
  rotate_left
  · exact hP.elim
  rename_i l hn
  split at hP
  rotate_left
  · exact hP.elim
  rename_i d hd
  have room : A.depth < recursionLimit := by
    have := O.depth
    show A.depth < 1000
    omega
  refine def_call GO K hl E rv (en := [(204, .ref n)]) rfl room H fun cells h₁ tk Hc hk => ?_
  have Kc := callee_ok GO K H E.fn E.nl cells
  have hh : (A.deeper (callee c W S fI fd cells).env).handled = none := O.hand hb
  generalize A.deeper (callee c W S fI fd cells).env = A' at hh ⊢
  suffices key : ∀ (Q : Flow → Shared → Prop) (E' : Value → Shared → Prop), (∀ v s', R (.ok (.ret v)) s' → Q (.ret v) s') → wpAny (model g.prog g.w) A' (execs body (callee c W S fI fd cells).env) Q E' { S with heap := h₁, toks := tk } from
    key _ _ fun v s' h => h
  intro Q E'' hQ
  rcases agSs_inv E.ag with ⟨q, _⟩ | ⟨_, _, st1, ss1, q, rfl, g1, h1⟩
  · cases q
  cases q
  rcases agSs_inv h1 with ⟨_, rfl⟩ | ⟨_, _, _, _, q, _⟩
  rotate_left
  · cases q
  obtain ⟨e', p', rfl, _⟩ := ret_inv g1
  obtain ⟨kx, vx, px, iter, c1, scope, pos, rfl, a1, a2, a3, a4, a5, a6, a7⟩ := dcB_inv (hdc _ _ rfl)
  obtain ⟨_, rfl⟩ := ag_nm a3
  obtain ⟨_, rfl⟩ := ag_nm a2
  obtain ⟨lE, rE, _, rfl, cb, c2, c3⟩ := ag_cmp a4
  obtain ⟨cc, _, _, rfl, c4⟩ := ag_cst c3
  have db := Kc.fn.dbg
  obtain ⟨pn, hpn, _, vs0, n0, ho1, rx⟩ := Hc.obj n _ hn
  have len := szL_le (Hc.okO (n := n) hn)
  have lx := F2.length rx
  obtain ⟨i1, i2, i3, i4⟩ := port_list GO Hc ((portKeys_env (s := s) (s' := { s with env := [(204, .ref n)] }) (fun _ => rfl) l).trans hd) rx
  refine wpAny_execs_cons (wpAny_Return_some ?_)
  have hlst : h₁.IsList pn.1 vs0.toArray := ⟨_, ho1, rfl, n0, rfl⟩
  have lookL : ∀ C : Addr, (compEnvC scope [] C (callee c W S fI fd cells).env).kindOf (g.nm 189) = some .local := fun C => lookup_relabel_local a7
  refine dict_comp hh (isPort g h₁) (fun v k => ∃ t, itemOf h₁ v 5 = some (.str k t)) (fun v y => y = v) a5 a6 a7 hlst (by rw [← lx]; exact sizeLine_ok len) (name_same Kc Hc 204 _ (v := .ref n) rfl fun val rv => ?_) (fun _ => rfl) ?_ ?_ ?_ ?_
  · obtain ⟨pn', hpn', rfl⟩ := rv
    rw [hpn] at hpn'
    cases hpn'
    exact ⟨rfl, rfl⟩
  · intro C v s₃ m₃ E' hv hns hm hk'
    obtain ⟨a, ws, k, ev, ho, lw, ⟨tag, t, h0⟩, _⟩ := i1 v hv
    have ho3 := hk' _ _ ho
    rw [List.forIn_cons]
    simp only [if_true]
    refine wpAny_bind (wpAny_bind (wpAny_isTrue_Compare1 ?_ cb))
    refine comp_item db rfl a5 (lookL C) hns hm c2 ev ho3 lw h0 ?_
    have hc : cc = .str (g.nm 0) := by cases c4; rfl
    subst hc
    refine wpAny_Constant_str (eq_str (wpAny_truthy_bool ?_))
    refine wpAny_pure ?_
    show wpAny _ _ (pure (tag == g.nm 0)) _ _ _
    refine wpAny_pure ⟨?_, s₃.heap, _, rfl, fun b o e => e⟩
    unfold isPort
    rw [item_at ev ho 0, h0]
  · intro C v s₃ m₃ E' hv hp' hns hm hk'
    obtain ⟨a, ws, k, ev, ho, lw, _, h5⟩ := i1 v hv
    obtain ⟨kk, t, h5⟩ := h5 hp'
    refine comp_item db rfl a5 (lookL C) hns hm a1 ev (hk' _ _ ho) lw h5 ?_
    exact ⟨⟨kk, strKind_is _ _ kk t, t, (item_at ev ho 5).trans h5⟩, s₃.heap, _, rfl, fun b o e => e⟩
  · intro C v s₃ m₃ E' hv hp' hns hm hk'
    exact wpAny_Name (wpAny_loadName_local a5 (lookL C) hns hm ⟨rfl, s₃.heap, s₃.toks, rfl, fun b o e => e⟩) (db 189)
  · intro D h' tk' kvs hD hDict hF hk'
    have ek := stored_zip (fun v y q => q) hF (d.map fun p => g.nm p.1) (F2.mono (fun v k q => by
      obtain ⟨t, q⟩ := q
      rintro k' ⟨t', q'⟩
      rw [q] at q'
      cases q'
      rfl) i3) (by have := nodup_map_nm GO i2; rw [List.map_map] at this; exact this)
    have Hg := grown_keep Hc (h' := h') hk' tk'
    have HB := Here.back H K (Le.refl W) (Slt.refl _ _) (h₃ := c.h₀) Hg rfl (fun b o e => emb H e) (fun b e => e)
    have HB : Here g c W s { S with heap := h', toks := tk' } := HB
    obtain ⟨m₀, F, E₀⟩ := HB.fr
    rcases push_cases (.dict d) s with ⟨w, e⟩ | ⟨ok, s', e, en', n', gt⟩
    · rw [e] at hP; exact hP.elim
    · rw [e] at hP
      have hD2 := hDict
      obtain ⟨oD, _, _, hoD, _⟩ := hD2
      have big : ∀ b o, S.heap.get? b = some o → b ≠ D := fun b o e q => by
        have := lt_of_get (hk b o e)
        rw [q] at this
        exact Nat.lt_irrefl _ (Nat.lt_of_lt_of_le this hD)
      obtain ⟨m₂, F₂, _⟩ := H.fr
      have HN := HB.push (s' := s') (S := { S with heap := h', toks := tk' }) (p := (D, none)) (o := .dict d) (h' := h') F E₀ (fun b _ => rfl) (by simp) (fun b hb => by
        have hb' : b = D := by simpa using hb
        subst hb'
        refine ⟨fun q => ?_, ⟨fun q => ?_, ?_, ?_⟩, _, hoD⟩
        · obtain ⟨_, o, e⟩ := H.own _ q; exact big _ _ e rfl
        · obtain ⟨o, _, _, e, _⟩ := F₂.ns; exact big _ _ e q.symm
        · cases q : c.h₀.get? b with
          | none => rfl
          | some o => exact (big _ _ (F₂.keep _ _ q) rfl).elim
        · obtain ⟨m₃, F₃, _⟩ := Hc.fr
          exact Nat.le_trans (K.bigS F₂) (Nat.le_trans (Nat.le_of_lt F₃.ns.lt) hD)) ok ⟨kvs, hDict, by rw [ek]; exact i4.mono fun _ _ q => ⟨q.1, q.2.le (Le.push W _)⟩⟩ en' n' gt tk'
      refine hQ _ _ (hP _ (W ++ [(D, none)]) (.ref D) (Le.push _ _) HN ⟨(D, none), ?_, rfl⟩)
      rw [H.len]
      simp
end
end Mine
namespace Mine
open PySem PySem.W PySem.Calls PyProof.Rows
noncomputable def Sx (x : String) : Str := Str.ofString x
noncomputable def nmT : List Str := [Sx "port", Sx "pop", Sx "append", Sx "extend", Sx "get", Sx "self", Sx "key", Sx "path", Sx "kind", Sx "width", Sx "signed", Sx "msb", Sx "lsb", Sx "first", Sx "last", Sx "init", Sx "at", Sx "scalar", Sx "is_memory", Sx "signals", Sx "assigns", Sx "gates", Sx "udps", Sx "processes", Sx "routines", Sx "scopes", Sx "tops", Sx "ports", Sx "maker", Sx "nesting", Sx "by_path", Sx "Signal", Sx "len", Sx "signal", Sx "add_signal", Sx "add_scope", Sx "detail", Sx "", Sx "w", Sx "mask", Sx "full", Sx "a", Sx "b", Sx "v", Sx "i", Sx "vec", Sx "code", Sx "fill", Sx "top", Sx "values", Sx "memories", Sx "random_seed", Sx "store", Sx "frame", Sx "now", Sx "binary", Sx "evaluate", Sx "unary", Sx "slice_vec", Sx "picked", Sx "memory_word", Sx "conditional", Sx "concat", Sx "power", Sx "system_value_evaluate", Sx "DesignError", Sx "tag", Sx "e", Sx "const", Sx "sig", Sx "ctx", Sx "local", Sx "bin", Sx "un", Sx "ext", Sx "slice", Sx "pick", Sx "word", Sx "cond", Sx "cat", Sx "pow", Sx "call", Sx "sys", Sx "unknown_expression", Sx "name", Sx "index", Sx "entry", Sx "scope", Sx "design", Sx "param", Sx "genvar", Sx "not_a_value", Sx "from_int", Sx "$clog2", Sx "folds", Sx "children", Sx "Context", Sx "Store", Sx "part", Sx "MAX_WIDTH", Sx "bad_range", Sx "too_wide", Sx "folded", Sx "value", Sx "number", Sx "path_names", Sx "resolve", Sx "lookup", Sx "undeclared", Sx "last_select", Sx "entry_of", Sx "shape_elabparts", Sx "base_entry", Sx "select_width", Sx "id", Sx "memory_whole", Sx "inner", Sx "read_entry", Sx "self_determined", Sx "select_where", Sx "selected", Sx "form", Sx "where", Sx "max", Sx "named_type", Sx "expr_type", Sx "is_context_operator", Sx "both_types", Sx "is_shift", Sx "joined_width", Sx "function_of", Sx "system_type", Sx "num", Sx "str", Sx "up", Sx "down", Sx "+", Sx "-", Sx "~", Sx "rep", Sx "routine", Sx "number_value", Sx "binary_value", Sx "unary_value", Sx "build", Sx "text_vec", Sx "joined_value", Sx "call_value", Sx "system_value_elabexpr", Sx "named_value", Sx "widen", Sx "test", Sx "then", Sx "is_constant", Sx "FunctionContext", Sx "not_constant", Sx "constant_vec", Sx "sized", Sx "MOST_NESTING", Sx "constant", Sx "to_int", Sx "bounds_nested", Sx "unknown_constant", Sx "whole", Sx "checked_width", Sx "abs", Sx "bounds", Sx "parent", Sx "nettype", Sx "wire", Sx "module_name", Sx "entries", Sx ".", Sx "duplicate", Sx "module", Sx "declare", Sx "MOST_WIDTH", Sx "range_of", Sx "width_of", Sx "integer", Sx "time", Sx "shape_elabdecl", Sx "array_bounds", Sx "is_signed", Sx "arrays", Sx "array_dimensions", Sx "extent", Sx "constant_sized", Sx "memory_initial_value", Sx "item", Sx "given", Sx "parameter_value", Sx "isinstance", Sx "tuple", Sx "reversed", Sx "list", Sx "found", Sx "stack", Sx "node", Sx "net", Sx "range", Sx "declared_name", Sx "places", Sx "place", Sx "items", Sx "var", Sx "default_net", Sx "are_names_known", Sx "check_port_range", Sx "_", Sx "direction", Sx "partner", Sx "output", Sx "variable_port_input", Sx "array_port", Sx "fits", Sx "port_range", Sx "port_items", Sx "partner_places", Sx "links", Sx "partners", Sx "done", Sx "asked", Sx "unchecked", Sx "net_values", Sx "declare_parameter", Sx "declare_event", Sx "called", Sx "parameter", Sx "event", Sx "called_names", Sx "port_shape", Sx "joined_entry", Sx "declare_signal", Sx "behind", Sx "declare_variable", Sx "check_net_delay", Sx "set_initial", Sx "run", Sx "figure", Sx "_law_take", Sx "_law_num", Sx "Design", Sx "Scope", Sx "Declarer", Sx "between", Sx "state", Sx "named", Sx "high", Sx "sort", Sx "m", Sx "q", Sx "W", Sx "variable", Sx "reg", Sx "ahead", Sx "n", Sx "due", Sx "told", Sx "error", Sx "other", Sx "script", Sx "m.", Sx "m.q", Sx "m.n", Sx "row", Sx "most"]
noncomputable def b42 : X := .cons (.asg (.attr (.nm 5) 6) (.nm 6)) (.cons (.asg (.attr (.nm 5) 7) (.nm 7)) (.cons (.asg (.attr (.nm 5) 8) (.nm 8)) (.cons (.asg (.attr (.nm 5) 9) (.nm 9)) (.cons (.asg (.attr (.nm 5) 10) (.nm 10)) (.cons (.asg (.attr (.nm 5) 11) (.nm 11)) (.cons (.asg (.attr (.nm 5) 12) (.nm 12)) (.cons (.asg (.attr (.nm 5) 13) (.cst .none)) (.cons (.asg (.attr (.nm 5) 14) (.cst .none)) (.cons (.asg (.attr (.nm 5) 15) (.cst .none)) (.cons (.asg (.attr (.nm 5) 16) (.neg 1)) (.cons (.asg (.attr (.nm 5) 17) (.cst (.bool false))) (.nil))))))))))))
noncomputable def f42 : Fn := ⟨42, [5, 6, 7, 8, 9, 10, 11, 12], [], b42, [5, 6, 7, 8, 9, 10, 11, 12], [], [], false⟩ -- Signal.__init__ (inC (stAt 3) 0)
noncomputable def b56 : X := .cons (.ret (.cmp .IsNot (.attr (.nm 5) 13) (.cst .none))) (.nil)
noncomputable def f56 : Fn := ⟨56, [5], [], b56, [5], [], [], false⟩ -- Signal.is_memory (inC (stAt 3) 2)
noncomputable def c80 : Cl := ⟨80, 42, [16, 13, 15, 6, 8, 14, 12, 11, 7, 17, 10, 9], [(18, 56)]⟩ -- Signal
noncomputable def b124 : X := .cons (.asg (.attr (.nm 5) 19) (.list (.nil))) (.cons (.asg (.attr (.nm 5) 20) (.list (.nil))) (.cons (.asg (.attr (.nm 5) 21) (.list (.nil))) (.cons (.asg (.attr (.nm 5) 22) (.list (.nil))) (.cons (.asg (.attr (.nm 5) 23) (.list (.nil))) (.cons (.asg (.attr (.nm 5) 24) (.list (.nil))) (.cons (.asg (.attr (.nm 5) 25) (.list (.nil))) (.cons (.asg (.attr (.nm 5) 26) (.list (.nil))) (.cons (.asg (.attr (.nm 5) 27) (.list (.nil))) (.cons (.asg (.attr (.nm 5) 28) (.cst .none)) (.cons (.asg (.attr (.nm 5) 29) (.cst (.int 0))) (.cons (.asg (.attr (.nm 5) 30) (.dict)) (.nil))))))))))))
noncomputable def f124 : Fn := ⟨124, [5], [], b124, [5], [], [], false⟩ -- Design.__init__ (inC (stAt 5) 0)
noncomputable def b131 : X := .cons (.asg (.nm 33) (.call 31 (.cons (.call 32 (.cons (.attr (.nm 5) 19) (.nil))) (.cons (.nm 7) (.cons (.nm 8) (.cons (.nm 9) (.cons (.nm 10) (.cons (.nm 11) (.cons (.nm 12) (.nil)))))))))) (.cons (.asg (.attr (.nm 33) 16) (.nm 16)) (.cons (.sx (.meth (.attr (.nm 5) 19) 2 (.cons (.nm 33) (.nil)))) (.cons (.asg (.item (.attr (.nm 5) 30) (.nm 7)) (.attr (.nm 33) 6)) (.cons (.ret (.nm 33)) (.nil)))))
noncomputable def f131 : Fn := ⟨131, [5, 7, 8, 9, 10, 11, 12, 16], [], b131, [5, 7, 8, 9, 10, 11, 12, 16, 33], [], [(31, .cl 80), (32, .bi 0)], false⟩ -- Design.add_signal (inC (stAt 5) 1)
noncomputable def b138 : X := .cons (.sx (.meth (.attr (.nm 5) 25) 2 (.cons (.nm 7) (.nil)))) (.cons (.ret (.bin .Sub (.call 32 (.cons (.attr (.nm 5) 25) (.nil))) (.cst (.int 1)))) (.nil))
noncomputable def f138 : Fn := ⟨138, [5, 7], [], b138, [5, 7], [], [(32, .bi 0)], false⟩ -- Design.add_scope (inC (stAt 5) 2)
noncomputable def c169 : Cl := ⟨169, 124, [20, 30, 21, 28, 29, 27, 23, 24, 25, 19, 26, 22], [(34, 131), (35, 138)]⟩ -- Design
noncomputable def b188 : X := .cons (.asg (.attr (.nm 5) 8) (.nm 8)) (.cons (.asg (.attr (.nm 5) 16) (.nm 16)) (.cons (.asg (.attr (.nm 5) 36) (.nm 36)) (.nil)))
noncomputable def f188 : Fn := ⟨188, [5, 8, 16, 36], [.int (-1), .str 37], b188, [5, 8, 16, 36], [], [], false⟩ -- GateloomError.__init__ (inC (stAt 7) 0)
noncomputable def c204 : Cl := ⟨204, 188, [8, 16, 36], []⟩ -- DesignError
noncomputable def b225 : X := .cons (.ret (.bin .Sub (.bin .LShift (.cst (.int 1)) (.nm 38)) (.cst (.int 1)))) (.nil)
noncomputable def f225 : Fn := ⟨225, [38], [], b225, [38], [], [], false⟩ -- mask (stAt 11)
noncomputable def b233 : X := .cons (.asg (.nm 40) (.call 39 (.cons (.nm 38) (.nil)))) (.cons (.ret (.tup (.cons (.nm 38) (.cons (.bin .BitAnd (.nm 41) (.nm 40)) (.cons (.bin .BitAnd (.nm 42) (.nm 40)) (.nil)))))) (.nil))
noncomputable def f233 : Fn := ⟨233, [38, 41, 42], [.int 0], b233, [38, 41, 42, 40], [], [(39, .fn 225)], false⟩ -- vec (stAt 12)
noncomputable def b282 : X := .cons (.asg (.tup (.cons (.nm 38) (.cons (.nm 41) (.cons (.nm 42) (.nil))))) (.nm 43)) (.cons (.sif (.cmp .NotEq (.nm 42) (.cst (.int 0))) (.cons (.ret (.cst .none)) (.nil)) (.nil)) (.cons (.sif (.bop .And (.cons (.nm 10) (.cons (.cmp .Eq (.bin .RShift (.nm 41) (.bin .Sub (.nm 38) (.cst (.int 1)))) (.cst (.int 1))) (.nil)))) (.cons (.ret (.bin .Sub (.nm 41) (.bin .LShift (.cst (.int 1)) (.nm 38)))) (.nil)) (.nil)) (.cons (.ret (.nm 41)) (.nil))))
noncomputable def f282 : Fn := ⟨282, [43, 10], [], b282, [43, 10, 38, 41, 42], [], [], false⟩ -- to_int (stAt 19)
noncomputable def b289 : X := .cons (.ret (.bin .Add (.bin .BitAnd (.bin .RShift (.item (.nm 43) (.cst (.int 1))) (.nm 44)) (.cst (.int 1))) (.pass))) (.nil)
noncomputable def f289 : Fn := ⟨289, [43, 44], [], b289, [43, 44], [], [], false⟩ -- code (stAt 20)
noncomputable def b317 : X := .cons (.sif (.cmp .LtE (.nm 38) (.item (.nm 43) (.cst (.int 0)))) (.cons (.ret (.call 45 (.cons (.nm 38) (.cons (.item (.nm 43) (.cst (.int 1))) (.cons (.item (.nm 43) (.cst (.int 2))) (.nil)))))) (.nil)) (.nil)) (.cons (.sif (.not (.nm 10)) (.cons (.ret (.tup (.cons (.nm 38) (.cons (.item (.nm 43) (.cst (.int 1))) (.cons (.item (.nm 43) (.cst (.int 2))) (.nil)))))) (.nil)) (.nil)) (.cons (.asg (.nm 47) (.pass)) (.cons (.asg (.nm 48) (.call 46 (.cons (.nm 43) (.cons (.bin .Sub (.item (.nm 43) (.cst (.int 0))) (.cst (.int 1))) (.nil))))) (.cons (.asg (.nm 41) (.pass)) (.cons (.asg (.nm 42) (.pass)) (.cons (.ret (.tup (.cons (.nm 38) (.cons (.nm 41) (.cons (.nm 42) (.nil)))))) (.nil)))))))
noncomputable def f317 : Fn := ⟨317, [43, 38, 10], [], b317, [43, 38, 10, 47, 48, 41, 42], [], [(45, .fn 233), (39, .fn 225), (46, .fn 289)], false⟩ -- extend (stAt 24)
noncomputable def b345 : X := .cons (.asg (.attr (.nm 5) 19) (.nm 19)) (.cons (.asg (.attr (.nm 5) 49) (.dict)) (.cons (.asg (.attr (.nm 5) 50) (.dict)) (.cons (.asg (.attr (.nm 5) 51) (.cst (.int 1))) (.nil))))
noncomputable def f345 : Fn := ⟨345, [5, 19], [], b345, [5, 19], [], [], false⟩ -- Store.__init__ (inC (stAt 28) 0)
noncomputable def c369 : Cl := ⟨369, 345, [50, 51, 19, 49], []⟩ -- Store
noncomputable def b388 : X := .cons (.asg (.attr (.nm 5) 52) (.nm 52)) (.cons (.asg (.attr (.nm 5) 53) (.nm 53)) (.cons (.asg (.attr (.nm 5) 54) (.nm 54)) (.nil)))
noncomputable def f388 : Fn := ⟨388, [5, 52, 53, 54], [.int 0], b388, [5, 52, 53, 54], [], [], false⟩ -- Context.__init__ (inC (stAt 29) 0)
noncomputable def c412 : Cl := ⟨412, 388, [53, 54, 52], []⟩ -- Context
noncomputable def b764 : X := .cons (.asg (.nm 66) (.item (.nm 67) (.cst (.int 0)))) (.cons (.sif (.cmp .Eq (.nm 66) (.cst (.str 68))) (.cons (.ret (.tup (.cons (.item (.nm 67) (.cst (.int 1))) (.cons (.item (.nm 67) (.cst (.int 2))) (.cons (.item (.nm 67) (.cst (.int 3))) (.nil)))))) (.nil)) (.nil)) (.cons (.sif (.cmp .Eq (.nm 66) (.cst (.str 69))) (.cons (.ret (.meth (.attr (.nm 70) 52) 4 (.cons (.item (.nm 67) (.cst (.int 2))) (.nil)))) (.nil)) (.nil)) (.cons (.sif (.cmp .Eq (.nm 66) (.cst (.str 71))) (.cons (.ret (.item (.attr (.nm 70) 53) (.item (.nm 67) (.cst (.int 2))))) (.nil)) (.nil)) (.cons (.sif (.cmp .Eq (.nm 66) (.cst (.str 72))) (.cons (.ret (.call 55 (.cons (.item (.nm 67) (.cst (.int 2))) (.cons (.call 56 (.cons (.item (.nm 67) (.cst (.int 3))) (.cons (.nm 70) (.nil)))) (.cons (.call 56 (.cons (.item (.nm 67) (.cst (.int 4))) (.cons (.nm 70) (.nil)))) (.cons (.item (.nm 67) (.cst (.int 5))) (.nil))))))) (.nil)) (.nil)) (.cons (.sif (.cmp .Eq (.nm 66) (.cst (.str 73))) (.cons (.ret (.call 57 (.cons (.item (.nm 67) (.cst (.int 2))) (.cons (.call 56 (.cons (.item (.nm 67) (.cst (.int 3))) (.cons (.nm 70) (.nil)))) (.nil))))) (.nil)) (.nil)) (.cons (.sif (.cmp .Eq (.nm 66) (.cst (.str 74))) (.cons (.ret (.call 3 (.cons (.call 56 (.cons (.item (.nm 67) (.cst (.int 2))) (.cons (.nm 70) (.nil)))) (.cons (.item (.nm 67) (.cst (.int 1))) (.cons (.item (.nm 67) (.cst (.int 3))) (.nil)))))) (.nil)) (.nil)) (.cons (.sif (.cmp .Eq (.nm 66) (.cst (.str 75))) (.cons (.ret (.call 58 (.cons (.call 56 (.cons (.item (.nm 67) (.cst (.int 2))) (.cons (.nm 70) (.nil)))) (.cons (.item (.nm 67) (.cst (.int 3))) (.cons (.item (.nm 67) (.cst (.int 1))) (.nil)))))) (.nil)) (.nil)) (.cons (.sif (.cmp .Eq (.nm 66) (.cst (.str 76))) (.cons (.ret (.call 59 (.cons (.nm 67) (.cons (.nm 70) (.nil))))) (.nil)) (.nil)) (.cons (.sif (.cmp .Eq (.nm 66) (.cst (.str 77))) (.cons (.ret (.call 60 (.cons (.nm 67) (.cons (.nm 70) (.nil))))) (.nil)) (.nil)) (.cons (.sif (.cmp .Eq (.nm 66) (.cst (.str 78))) (.cons (.ret (.call 61 (.cons (.nm 67) (.cons (.nm 70) (.nil))))) (.nil)) (.nil)) (.cons (.sif (.cmp .Eq (.nm 66) (.cst (.str 79))) (.cons (.ret (.call 62 (.cons (.pass) (.nil)))) (.nil)) (.nil)) (.cons (.sif (.cmp .Eq (.nm 66) (.cst (.str 80))) (.cons (.ret (.call 63 (.cons (.call 56 (.cons (.item (.nm 67) (.cst (.int 2))) (.cons (.nm 70) (.nil)))) (.cons (.call 56 (.cons (.item (.nm 67) (.cst (.int 3))) (.cons (.nm 70) (.nil)))) (.cons (.item (.nm 67) (.cst (.int 4))) (.cons (.item (.nm 67) (.cst (.int 5))) (.nil))))))) (.nil)) (.nil)) (.cons (.sif (.cmp .Eq (.nm 66) (.cst (.str 81))) (.cons (.ret (.meth (.nm 70) 81 (.cons (.item (.nm 67) (.cst (.int 2))) (.cons (.pass) (.nil))))) (.nil)) (.nil)) (.cons (.sif (.cmp .Eq (.nm 66) (.cst (.str 82))) (.cons (.ret (.call 64 (.cons (.nm 67) (.cons (.nm 70) (.nil))))) (.nil)) (.nil)) (.cons (.rais 65 (.cons (.cst (.str 83)) (.cons (.neg 1) (.cons (.nm 66) (.nil))))) (.nil))))))))))))))))
noncomputable def f764 : Fn := ⟨764, [67, 70], [], b764, [67, 66], [70], [(55, .fn 717), (56, .fn 764), (57, .fn 689), (3, .fn 317), (58, .fn 296), (59, .fn 738), (60, .fn 731), (61, .fn 745), (62, .fn 310), (63, .fn 479), (64, .fn 759), (65, .cl 204)], false⟩ -- evaluate (stAt 83)
noncomputable def b894 : X := .cons (.asg (.nm 66) (.item (.nm 67) (.cst (.int 0)))) (.cons (.sif (.cmp .Eq (.nm 66) (.cst (.str 77))) (.cons (.ret (.tup (.cons (.item (.nm 67) (.cst (.int 3))) (.nil)))) (.nil)) (.nil)) (.cons (.sif (.bop .Or (.cons (.cmp .Eq (.nm 66) (.cst (.str 75))) (.cons (.cmp .Eq (.nm 66) (.cst (.str 74))) (.nil)))) (.cons (.ret (.tup (.cons (.item (.nm 67) (.cst (.int 2))) (.nil)))) (.nil)) (.nil)) (.cons (.sif (.bop .Or (.cons (.cmp .Eq (.nm 66) (.cst (.str 76))) (.cons (.cmp .Eq (.nm 66) (.cst (.str 80))) (.nil)))) (.cons (.ret (.tup (.cons (.item (.nm 67) (.cst (.int 2))) (.cons (.item (.nm 67) (.cst (.int 3))) (.nil))))) (.nil)) (.nil)) (.cons (.sif (.cmp .Eq (.nm 66) (.cst (.str 73))) (.cons (.ret (.tup (.cons (.item (.nm 67) (.cst (.int 3))) (.nil)))) (.nil)) (.nil)) (.cons (.sif (.cmp .Eq (.nm 66) (.cst (.str 72))) (.cons (.ret (.tup (.cons (.item (.nm 67) (.cst (.int 3))) (.cons (.item (.nm 67) (.cst (.int 4))) (.nil))))) (.nil)) (.nil)) (.cons (.sif (.cmp .Eq (.nm 66) (.cst (.str 78))) (.cons (.ret (.tup (.cons (.item (.nm 67) (.cst (.int 2))) (.cons (.item (.nm 67) (.cst (.int 3))) (.cons (.item (.nm 67) (.cst (.int 4))) (.nil)))))) (.nil)) (.nil)) (.cons (.sif (.cmp .Eq (.nm 66) (.cst (.str 79))) (.cons (.ret (.item (.nm 67) (.cst (.int 2)))) (.nil)) (.nil)) (.cons (.sif (.bop .Or (.cons (.cmp .Eq (.nm 66) (.cst (.str 81))) (.cons (.cmp .Eq (.nm 66) (.cst (.str 82))) (.nil)))) (.cons (.ret (.item (.nm 67) (.cst (.int 3)))) (.nil)) (.nil)) (.cons (.ret (.tup (.nil))) (.nil))))))))))
noncomputable def f894 : Fn := ⟨894, [67], [], b894, [67, 66], [], [], false⟩ -- children (stAt 99)
noncomputable def b981 : X := .cons (.sif (.bop .And (.cons (.cmp .Eq (.item (.nm 67) (.cst (.int 0))) (.cst (.str 7))) (.cons (.cmp .IsNot (.item (.item (.item (.nm 67) (.cst (.int 2))) (.neg 1)) (.cst (.int 1))) (.cst .none)) (.nil)))) (.cons (.asg (.tup (.cons (.nm 84) (.cons (.nm 85) (.nil)))) (.item (.item (.nm 67) (.cst (.int 2))) (.neg 1))) (.cons (.ret (.tup (.cons (.cst (.str 85)) (.cons (.item (.nm 67) (.cst (.int 1))) (.cons (.tup (.cons (.cst (.str 7)) (.cons (.item (.nm 67) (.cst (.int 1))) (.cons (.bin .Add (.pass) (.tup (.cons (.tup (.cons (.nm 84) (.cons (.cst .none) (.nil)))) (.nil)))) (.nil))))) (.cons (.nm 85) (.nil))))))) (.nil))) (.nil)) (.cons (.ret (.nm 67)) (.nil))
noncomputable def f981 : Fn := ⟨981, [67], [], b981, [67, 84, 85], [], [], false⟩ -- last_select (stAt 114)
noncomputable def b988 : X := .cons (.ret (.bop .And (.cons (.cmp .Eq (.item (.nm 86) (.cst (.int 0))) (.cst (.str 69))) (.cons (.meth (.item (.attr (.attr (.nm 87) 88) 19) (.item (.nm 86) (.cst (.int 1)))) 18 (.nil)) (.nil))))) (.nil)
noncomputable def f988 : Fn := ⟨988, [87, 86], [], b988, [87, 86], [], [], false⟩ -- is_memory (stAt 115)
noncomputable def b995 : X := .cons (.sif (.cmp .Eq (.item (.nm 86) (.cst (.int 0))) (.cst (.str 69))) (.cons (.asg (.nm 33) (.item (.attr (.attr (.nm 87) 88) 19) (.item (.nm 86) (.cst (.int 1))))) (.cons (.sif (.cmp .Gt (.call 32 (.cons (.nm 86) (.nil))) (.cst (.int 2))) (.cons (.ret (.bin .Add (.tup (.cons (.attr (.nm 33) 9) (.nil))) (.cut (.nm 86) 2 none))) (.nil)) (.nil)) (.cons (.ret (.tup (.cons (.attr (.nm 33) 9) (.cons (.attr (.nm 33) 10) (.cons (.attr (.nm 33) 11) (.cons (.attr (.nm 33) 12) (.cons (.attr (.nm 33) 17) (.nil)))))))) (.nil)))) (.nil)) (.cons (.sif (.cmp .Eq (.item (.nm 86) (.cst (.int 0))) (.cst (.str 71))) (.cons (.sif (.cmp .Gt (.call 32 (.cons (.nm 86) (.nil))) (.cst (.int 4))) (.cons (.ret (.tup (.cons (.item (.nm 86) (.cst (.int 2))) (.cons (.item (.nm 86) (.cst (.int 3))) (.cons (.item (.nm 86) (.cst (.int 4))) (.cons (.item (.nm 86) (.cst (.int 5))) (.cons (.cst (.bool false)) (.nil)))))))) (.nil)) (.nil)) (.cons (.ret (.tup (.cons (.item (.nm 86) (.cst (.int 2))) (.cons (.item (.nm 86) (.cst (.int 3))) (.cons (.bin .Sub (.item (.nm 86) (.cst (.int 2))) (.cst (.int 1))) (.cons (.cst (.int 0)) (.cons (.cst (.bool false)) (.nil)))))))) (.nil))) (.nil)) (.cons (.sif (.cmp .Eq (.item (.nm 86) (.cst (.int 0))) (.cst (.str 89))) (.cons (.sif (.cmp .Gt (.call 32 (.cons (.nm 86) (.nil))) (.cst (.int 3))) (.cons (.ret (.tup (.cons (.item (.item (.nm 86) (.cst (.int 1))) (.cst (.int 0))) (.cons (.item (.nm 86) (.cst (.int 2))) (.cons (.item (.nm 86) (.cst (.int 3))) (.cons (.item (.nm 86) (.cst (.int 4))) (.cons (.cst (.bool false)) (.nil)))))))) (.nil)) (.nil)) (.cons (.ret (.tup (.cons (.item (.item (.nm 86) (.cst (.int 1))) (.cst (.int 0))) (.cons (.item (.nm 86) (.cst (.int 2))) (.cons (.bin .Sub (.item (.item (.nm 86) (.cst (.int 1))) (.cst (.int 0))) (.cst (.int 1))) (.cons (.cst (.int 0)) (.cons (.cst (.bool false)) (.nil)))))))) (.nil))) (.nil)) (.cons (.sif (.cmp .Eq (.item (.nm 86) (.cst (.int 0))) (.cst (.str 90))) (.cons (.ret (.tup (.cons (.cst (.int 32)) (.cons (.cst (.bool true)) (.cons (.cst (.int 31)) (.cons (.cst (.int 0)) (.cons (.cst (.bool false)) (.nil)))))))) (.nil)) (.nil)) (.cons (.rais 65 (.cons (.cst (.str 91)) (.cons (.nm 16) (.nil)))) (.nil)))))
noncomputable def f995 : Fn := ⟨995, [87, 86, 16], [], b995, [87, 86, 16, 33], [], [(32, .bi 0), (65, .cl 204)], false⟩ -- shape (stAt 116)
noncomputable def b1002 : X := .cons (.sif (.cmp .Eq (.item (.nm 86) (.cst (.int 0))) (.cst (.str 69))) (.cons (.asg (.nm 9) (.attr (.item (.attr (.attr (.nm 87) 88) 19) (.item (.nm 86) (.cst (.int 1)))) 9)) (.cons (.sif (.cmp .Is (.nm 77) (.cst .none)) (.cons (.ret (.tup (.cons (.cst (.str 69)) (.cons (.nm 9) (.cons (.item (.nm 86) (.cst (.int 1))) (.nil)))))) (.nil)) (.nil)) (.cons (.ret (.tup (.cons (.cst (.str 77)) (.cons (.nm 9) (.cons (.item (.nm 86) (.cst (.int 1))) (.cons (.item (.nm 77) (.cst (.int 0))) (.cons (.item (.nm 77) (.cst (.int 1))) (.nil)))))))) (.nil)))) (.nil)) (.cons (.sif (.cmp .Eq (.item (.nm 86) (.cst (.int 0))) (.cst (.str 71))) (.cons (.ret (.tup (.cons (.cst (.str 71)) (.cons (.item (.nm 86) (.cst (.int 2))) (.cons (.item (.nm 86) (.cst (.int 1))) (.nil)))))) (.nil)) (.nil)) (.cons (.sif (.cmp .Eq (.item (.nm 86) (.cst (.int 0))) (.cst (.str 89))) (.cons (.ret (.bin .Add (.tup (.cons (.cst (.str 68)) (.nil))) (.item (.nm 86) (.cst (.int 1))))) (.nil)) (.nil)) (.cons (.ret (.bin .Add (.tup (.cons (.cst (.str 68)) (.nil))) (.call 92 (.cons (.cst (.int 32)) (.cons (.item (.nm 86) (.cst (.int 1))) (.nil)))))) (.nil))))
noncomputable def f1002 : Fn := ⟨1002, [87, 86, 77], [], b1002, [87, 86, 77, 9], [], [(92, .fn 268)], false⟩ -- read_entry (stAt 118)
noncomputable def b1009 : X := .cons (.sif (.cmp .Eq (.item (.nm 67) (.cst (.int 0))) (.cst (.str 82))) (.cons (.ret (.cmp .Eq (.item (.nm 67) (.cst (.int 2))) (.cst (.str 93)))) (.nil)) (.nil)) (.cons (.ret (.cmp .In (.item (.nm 67) (.cst (.int 0))) (.tup (.cons (.cst (.str 73)) (.cons (.cst (.str 72)) (.cons (.cst (.str 80)) (.cons (.cst (.str 78)) (.cons (.cst (.str 79)) (.cons (.cst (.str 75)) (.cons (.cst (.str 76)) (.cons (.cst (.str 74)) (.nil)))))))))))) (.nil))
noncomputable def f1009 : Fn := ⟨1009, [67], [], b1009, [67], [], [], false⟩ -- folds (stAt 119)
noncomputable def b1016 : X := .cons (.sif (.not (.call 94 (.cons (.nm 67) (.nil)))) (.cons (.ret (.nm 67)) (.nil)) (.nil)) (.cons (.for_ 98 (.call 95 (.cons (.nm 67) (.nil))) (.cons (.sif (.cmp .NotEq (.item (.nm 98) (.cst (.int 0))) (.cst (.str 68))) (.cons (.ret (.nm 67)) (.nil)) (.nil)) (.nil))) (.cons (.ret (.bin .Add (.tup (.cons (.cst (.str 68)) (.nil))) (.call 56 (.cons (.nm 67) (.cons (.call 96 (.cons (.call 97 (.cons (.list (.nil)) (.nil))) (.cons (.list (.nil)) (.nil)))) (.nil)))))) (.nil)))
noncomputable def f1016 : Fn := ⟨1016, [67], [], b1016, [67, 98], [], [(94, .fn 1009), (95, .fn 894), (56, .fn 764), (96, .cl 412), (97, .cl 369)], false⟩ -- folded (stAt 120)
noncomputable def b1023 : X := .cons (.sif (.cmp .Lt (.nm 9) (.cst (.int 1))) (.cons (.rais 65 (.cons (.cst (.str 100)) (.cons (.nm 16) (.nil)))) (.nil)) (.nil)) (.cons (.sif (.cmp .Gt (.nm 9) (.nm 99)) (.cons (.rais 65 (.cons (.cst (.str 101)) (.cons (.nm 16) (.nil)))) (.nil)) (.nil)) (.cons (.ret (.nm 9)) (.nil)))
noncomputable def f1023 : Fn := ⟨1023, [9, 16], [], b1023, [9, 16], [], [(65, .cl 204), (99, .int 65536)], false⟩ -- checked_width (stAt 121)
noncomputable def b1065 : X := .cons (.sif (.cmp .Eq (.item (.nm 103) (.cst (.int 1))) (.nm 38)) (.cons (.ret (.nm 103)) (.nil)) (.nil)) (.cons (.ret (.call 102 (.cons (.tup (.cons (.cst (.str 74)) (.cons (.nm 38) (.cons (.nm 103) (.cons (.nm 10) (.nil)))))) (.nil)))) (.nil))
noncomputable def f1065 : Fn := ⟨1065, [103, 38, 10], [], b1065, [103, 38, 10], [], [(102, .fn 1016)], false⟩ -- widen (stAt 127)
noncomputable def b1072 : X := .cons (.asg (.nm 104) (.item (.nm 67) (.cst (.int 2)))) (.cons (.asg (.nm 47) (.bop .Or (.cons (.nm 10) (.cons (.bop .And (.cons (.not (.item (.nm 67) (.cst (.int 4)))) (.cons (.cmp .GtE (.call 46 (.cons (.nm 104) (.cons (.bin .Sub (.item (.nm 104) (.cst (.int 0))) (.cst (.int 1))) (.nil)))) (.cst (.int 2))) (.nil)))) (.nil))))) (.cons (.ret (.bin .Add (.tup (.cons (.cst (.str 68)) (.nil))) (.call 3 (.cons (.nm 104) (.cons (.nm 38) (.cons (.nm 47) (.nil))))))) (.nil)))
noncomputable def f1072 : Fn := ⟨1072, [67, 38, 10], [], b1072, [67, 38, 10, 104, 47], [], [(46, .fn 289), (3, .fn 317)], false⟩ -- number_value (stAt 128)
noncomputable def b1107 : X := .cons (.sif (.cmp .Eq (.item (.nm 67) (.cst (.int 0))) (.cst (.str 7))) (.cons (.ret (.meth (.nm 87) 106 (.cons (.call 105 (.cons (.nm 87) (.cons (.nm 67) (.nil)))) (.cons (.item (.nm 67) (.cst (.int 1))) (.nil))))) (.nil)) (.nil)) (.cons (.asg (.nm 86) (.meth (.nm 87) 107 (.cons (.item (.nm 67) (.cst (.int 2))) (.nil)))) (.cons (.sif (.cmp .Is (.nm 86) (.cst .none)) (.cons (.rais 65 (.cons (.cst (.str 108)) (.cons (.item (.nm 67) (.cst (.int 1))) (.cons (.item (.nm 67) (.cst (.int 2))) (.nil))))) (.nil)) (.nil)) (.cons (.ret (.nm 86)) (.nil))))
noncomputable def f1107 : Fn := ⟨1107, [87, 67], [], b1107, [87, 67, 86], [], [(105, .fn 1100), (65, .cl 204)], false⟩ -- entry_of (stAt 135)
noncomputable def b1135 : X := .cons (.asg (.nm 67) (.call 109 (.cons (.nm 67) (.nil)))) (.cons (.sif (.bop .Or (.cons (.cmp .Eq (.item (.nm 67) (.cst (.int 0))) (.cst (.str 114))) (.cons (.cmp .Eq (.item (.nm 67) (.cst (.int 0))) (.cst (.str 7))) (.nil)))) (.cons (.asg (.nm 86) (.call 110 (.cons (.nm 87) (.cons (.nm 67) (.nil))))) (.cons (.sif (.call 18 (.cons (.nm 87) (.cons (.nm 86) (.nil)))) (.cons (.rais 65 (.cons (.cst (.str 115)) (.cons (.item (.nm 67) (.cst (.int 1))) (.nil)))) (.nil)) (.nil)) (.cons (.ret (.cut (.call 111 (.cons (.nm 87) (.cons (.nm 86) (.cons (.item (.nm 67) (.cst (.int 1))) (.nil))))) 0 (some 2))) (.nil)))) (.nil)) (.cons (.asg (.tup (.cons (.nm 86) (.cons (.nm 116) (.nil)))) (.call 112 (.cons (.nm 87) (.cons (.item (.nm 67) (.cst (.int 2))) (.nil))))) (.cons (.sif (.bop .And (.cons (.cmp .Is (.nm 116) (.cst .none)) (.cons (.call 18 (.cons (.nm 87) (.cons (.nm 86) (.nil)))) (.nil)))) (.cons (.sif (.cmp .Eq (.item (.nm 67) (.cst (.int 0))) (.cst (.str 85))) (.cons (.ret (.cut (.call 111 (.cons (.nm 87) (.cons (.nm 86) (.cons (.item (.nm 67) (.cst (.int 1))) (.nil))))) 0 (some 2))) (.nil)) (.nil)) (.cons (.rais 65 (.cons (.cst (.str 115)) (.cons (.item (.nm 67) (.cst (.int 1))) (.nil)))) (.nil))) (.nil)) (.cons (.ret (.tup (.cons (.call 113 (.cons (.nm 87) (.cons (.nm 67) (.nil)))) (.cons (.cst (.bool false)) (.nil))))) (.nil)))))
noncomputable def f1135 : Fn := ⟨1135, [87, 67], [], b1135, [87, 67, 86, 116], [], [(109, .fn 981), (110, .fn 1107), (18, .fn 988), (65, .cl 204), (111, .fn 995), (112, .fn 1114), (113, .fn 1121)], false⟩ -- named_type (stAt 139)
noncomputable def b1142 : X := .cons (.asg (.nm 67) (.call 109 (.cons (.nm 67) (.nil)))) (.cons (.sif (.bop .Or (.cons (.cmp .Eq (.item (.nm 67) (.cst (.int 0))) (.cst (.str 114))) (.cons (.cmp .Eq (.item (.nm 67) (.cst (.int 0))) (.cst (.str 7))) (.nil)))) (.cons (.asg (.nm 86) (.call 110 (.cons (.nm 87) (.cons (.nm 67) (.nil))))) (.cons (.sif (.call 18 (.cons (.nm 87) (.cons (.nm 86) (.nil)))) (.cons (.rais 65 (.cons (.cst (.str 115)) (.cons (.item (.nm 67) (.cst (.int 1))) (.nil)))) (.nil)) (.nil)) (.cons (.sx (.call 111 (.cons (.nm 87) (.cons (.nm 86) (.cons (.item (.nm 67) (.cst (.int 1))) (.nil)))))) (.cons (.ret (.call 117 (.cons (.nm 87) (.cons (.nm 86) (.cons (.cst .none) (.nil)))))) (.nil))))) (.nil)) (.cons (.asg (.tup (.cons (.nm 86) (.cons (.nm 116) (.nil)))) (.call 112 (.cons (.nm 87) (.cons (.item (.nm 67) (.cst (.int 2))) (.nil))))) (.cons (.asg (.nm 121) (.call 111 (.cons (.nm 87) (.cons (.nm 86) (.cons (.item (.nm 67) (.cst (.int 1))) (.nil)))))) (.cons (.asg (.nm 77) (.cst .none)) (.cons (.sif (.cmp .IsNot (.nm 116) (.cst .none)) (.cons (.asg (.nm 77) (.call 118 (.cons (.nm 87) (.cons (.nm 116) (.nil))))) (.nil)) (.cons (.sif (.call 18 (.cons (.nm 87) (.cons (.nm 86) (.nil)))) (.cons (.sif (.cmp .NotEq (.item (.nm 67) (.cst (.int 0))) (.cst (.str 85))) (.cons (.rais 65 (.cons (.cst (.str 115)) (.cons (.item (.nm 67) (.cst (.int 1))) (.nil)))) (.nil)) (.nil)) (.cons (.ret (.call 117 (.cons (.nm 87) (.cons (.nm 86) (.cons (.call 118 (.cons (.nm 87) (.cons (.item (.nm 67) (.cst (.int 3))) (.nil)))) (.nil)))))) (.nil))) (.nil)) (.nil))) (.cons (.asg (.nm 122) (.call 119 (.cons (.nm 87) (.cons (.nm 67) (.cons (.nm 121) (.nil)))))) (.cons (.ret (.call 120 (.cons (.call 117 (.cons (.nm 87) (.cons (.nm 86) (.cons (.nm 77) (.nil))))) (.cons (.call 113 (.cons (.nm 87) (.cons (.nm 67) (.nil)))) (.cons (.nm 122) (.nil)))))) (.nil))))))))
noncomputable def f1142 : Fn := ⟨1142, [87, 67], [], b1142, [87, 67, 86, 116, 121, 77, 122], [], [(109, .fn 981), (110, .fn 1107), (18, .fn 988), (65, .cl 204), (111, .fn 995), (117, .fn 1002), (112, .fn 1114), (118, .fn 1240), (119, .fn 1128), (120, .fn 1030), (113, .fn 1121)], false⟩ -- named_value (stAt 140)
noncomputable def b1212 : X := .cons (.asg (.nm 66) (.item (.nm 67) (.cst (.int 0)))) (.cons (.sif (.cmp .Eq (.nm 66) (.cst (.str 132))) (.cons (.ret (.tup (.cons (.item (.item (.nm 67) (.cst (.int 2))) (.cst (.int 0))) (.cons (.item (.nm 67) (.cst (.int 3))) (.nil))))) (.nil)) (.nil)) (.cons (.sif (.cmp .Eq (.nm 66) (.cst (.str 133))) (.cons (.ret (.tup (.cons (.pass) (.cons (.cst (.bool false)) (.nil))))) (.nil)) (.nil)) (.cons (.sif (.cmp .In (.nm 66) (.tup (.cons (.cst (.str 114)) (.cons (.cst (.str 7)) (.cons (.cst (.str 85)) (.cons (.cst (.str 98)) (.cons (.cst (.str 134)) (.cons (.cst (.str 135)) (.nil))))))))) (.cons (.ret (.call 124 (.cons (.nm 87) (.cons (.nm 67) (.nil))))) (.nil)) (.nil)) (.cons (.sif (.cmp .Eq (.nm 66) (.cst (.str 73))) (.cons (.sif (.cmp .In (.item (.nm 67) (.cst (.int 2))) (.tup (.cons (.cst (.str 136)) (.cons (.cst (.str 137)) (.cons (.cst (.str 138)) (.nil)))))) (.cons (.ret (.call 125 (.cons (.nm 87) (.cons (.item (.nm 67) (.cst (.int 3))) (.nil))))) (.nil)) (.nil)) (.cons (.ret (.tup (.cons (.cst (.int 1)) (.cons (.cst (.bool false)) (.nil))))) (.nil))) (.nil)) (.cons (.sif (.cmp .Eq (.nm 66) (.cst (.str 72))) (.cons (.sif (.call 126 (.cons (.item (.nm 67) (.cst (.int 2))) (.nil))) (.cons (.ret (.call 127 (.cons (.nm 87) (.cons (.item (.nm 67) (.cst (.int 3))) (.cons (.item (.nm 67) (.cst (.int 4))) (.nil)))))) (.nil)) (.nil)) (.cons (.sif (.call 128 (.cons (.item (.nm 67) (.cst (.int 2))) (.nil))) (.cons (.ret (.call 125 (.cons (.nm 87) (.cons (.item (.nm 67) (.cst (.int 3))) (.nil))))) (.nil)) (.nil)) (.cons (.ret (.tup (.cons (.cst (.int 1)) (.cons (.cst (.bool false)) (.nil))))) (.nil)))) (.nil)) (.cons (.sif (.cmp .Eq (.nm 66) (.cst (.str 78))) (.cons (.ret (.call 127 (.cons (.nm 87) (.cons (.item (.nm 67) (.cst (.int 3))) (.cons (.item (.nm 67) (.cst (.int 4))) (.nil)))))) (.nil)) (.nil)) (.cons (.sif (.bop .Or (.cons (.cmp .Eq (.nm 66) (.cst (.str 79))) (.cons (.cmp .Eq (.nm 66) (.cst (.str 139))) (.nil)))) (.cons (.ret (.tup (.cons (.call 129 (.cons (.nm 87) (.cons (.nm 67) (.nil)))) (.cons (.cst (.bool false)) (.nil))))) (.nil)) (.nil)) (.cons (.sif (.cmp .Eq (.nm 66) (.cst (.str 81))) (.cons (.asg (.nm 140) (.call 130 (.cons (.nm 87) (.cons (.nm 67) (.nil))))) (.cons (.ret (.tup (.cons (.attr (.nm 140) 9) (.cons (.attr (.nm 140) 10) (.nil))))) (.nil))) (.nil)) (.cons (.sif (.cmp .Eq (.nm 66) (.cst (.str 82))) (.cons (.ret (.call 131 (.cons (.nm 87) (.cons (.nm 67) (.nil))))) (.nil)) (.nil)) (.cons (.rais 65 (.cons (.cst (.str 91)) (.cons (.item (.nm 67) (.cst (.int 1))) (.nil)))) (.nil)))))))))))
noncomputable def f1212 : Fn := ⟨1212, [87, 67], [], b1212, [87, 67, 66, 140], [], [(123, .bi 3), (32, .bi 0), (124, .fn 1135), (125, .fn 1212), (126, .fn 1051), (127, .fn 1205), (128, .fn 1058), (129, .fn 1191), (130, .fn 1149), (131, .fn 1163), (65, .cl 204)], false⟩ -- expr_type (stAt 151)
noncomputable def b1233 : X := .cons (.asg (.nm 66) (.item (.nm 67) (.cst (.int 0)))) (.cons (.sif (.cmp .Eq (.nm 66) (.cst (.str 132))) (.cons (.ret (.call 141 (.cons (.nm 67) (.cons (.nm 38) (.cons (.nm 10) (.nil)))))) (.nil)) (.nil)) (.cons (.sif (.cmp .Eq (.nm 66) (.cst (.str 72))) (.cons (.ret (.call 142 (.cons (.nm 87) (.cons (.nm 67) (.cons (.nm 38) (.cons (.nm 10) (.nil))))))) (.nil)) (.nil)) (.cons (.sif (.cmp .Eq (.nm 66) (.cst (.str 73))) (.cons (.ret (.call 143 (.cons (.nm 87) (.cons (.nm 67) (.cons (.nm 38) (.cons (.nm 10) (.nil))))))) (.nil)) (.nil)) (.cons (.sif (.cmp .Eq (.nm 66) (.cst (.str 78))) (.cons (.asg (.nm 151) (.item (.call 118 (.cons (.nm 87) (.cons (.item (.nm 67) (.cst (.int 2))) (.nil)))) (.cst (.int 0)))) (.cons (.asg (.nm 152) (.call 144 (.cons (.nm 87) (.cons (.item (.nm 67) (.cst (.int 3))) (.cons (.nm 38) (.cons (.nm 10) (.nil))))))) (.cons (.ret (.call 102 (.cons (.tup (.cons (.cst (.str 78)) (.cons (.nm 38) (.cons (.nm 151) (.cons (.nm 152) (.cons (.call 144 (.cons (.nm 87) (.cons (.item (.nm 67) (.cst (.int 4))) (.cons (.nm 38) (.cons (.nm 10) (.nil)))))) (.nil))))))) (.nil)))) (.nil)))) (.nil)) (.cons (.sif (.cmp .Eq (.nm 66) (.cst (.str 133))) (.cons (.asg (.nm 103) (.bin .Add (.tup (.cons (.cst (.str 68)) (.nil))) (.call 145 (.cons (.item (.nm 67) (.cst (.int 2))) (.nil))))) (.nil)) (.cons (.sif (.bop .Or (.cons (.cmp .Eq (.nm 66) (.cst (.str 79))) (.cons (.cmp .Eq (.nm 66) (.cst (.str 139))) (.nil)))) (.cons (.asg (.nm 103) (.call 146 (.cons (.nm 87) (.cons (.nm 67) (.nil))))) (.nil)) (.cons (.sif (.cmp .Eq (.nm 66) (.cst (.str 81))) (.cons (.asg (.nm 103) (.call 147 (.cons (.nm 87) (.cons (.nm 67) (.nil))))) (.nil)) (.cons (.sif (.cmp .Eq (.nm 66) (.cst (.str 82))) (.cons (.asg (.nm 103) (.call 148 (.cons (.nm 87) (.cons (.nm 67) (.nil))))) (.nil)) (.cons (.asg (.nm 103) (.call 149 (.cons (.nm 87) (.cons (.nm 67) (.nil))))) (.nil))) (.nil))) (.nil))) (.nil))) (.cons (.ret (.call 150 (.cons (.nm 103) (.cons (.nm 38) (.cons (.nm 10) (.nil)))))) (.nil)))))))
noncomputable def f1233 : Fn := ⟨1233, [87, 67, 38, 10], [], b1233, [87, 67, 38, 10, 66, 151, 152, 103], [], [(141, .fn 1072), (142, .fn 1226), (143, .fn 1219), (118, .fn 1240), (144, .fn 1233), (102, .fn 1016), (145, .fn 1037), (146, .fn 1198), (147, .fn 1156), (148, .fn 1170), (149, .fn 1142), (150, .fn 1065)], false⟩ -- build (stAt 154)
noncomputable def b1240 : X := .cons (.asg (.tup (.cons (.nm 9) (.cons (.nm 10) (.nil)))) (.call 125 (.cons (.nm 87) (.cons (.nm 67) (.nil))))) (.cons (.ret (.tup (.cons (.call 144 (.cons (.nm 87) (.cons (.nm 67) (.cons (.nm 9) (.cons (.nm 10) (.nil)))))) (.cons (.nm 10) (.nil))))) (.nil))
noncomputable def f1240 : Fn := ⟨1240, [87, 67], [], b1240, [87, 67, 9, 10], [], [(125, .fn 1212), (144, .fn 1233)], false⟩ -- self_determined (stAt 155)
noncomputable def b1247 : X := .cons (.asg (.tup (.cons (.nm 9) (.cons (.nm 10) (.nil)))) (.call 125 (.cons (.nm 87) (.cons (.nm 67) (.nil))))) (.cons (.ret (.call 150 (.cons (.call 144 (.cons (.nm 87) (.cons (.nm 67) (.cons (.call 123 (.cons (.nm 38) (.cons (.nm 9) (.nil)))) (.cons (.nm 10) (.nil)))))) (.cons (.nm 38) (.cons (.nm 10) (.nil)))))) (.nil))
noncomputable def f1247 : Fn := ⟨1247, [87, 67, 38], [], b1247, [87, 67, 38, 9, 10], [], [(125, .fn 1212), (150, .fn 1065), (144, .fn 1233), (123, .bi 3)], false⟩ -- sized (stAt 156)
noncomputable def b1254 : X := .cons (.sif (.cmp .Eq (.item (.nm 103) (.cst (.int 0))) (.cst (.str 68))) (.cons (.ret (.cut (.nm 103) 1 none)) (.nil)) (.nil)) (.cons (.sif (.not (.call 153 (.cons (.attr (.nm 87) 88) (.cons (.nm 103) (.nil))))) (.cons (.rais 65 (.cons (.cst (.str 155)) (.cons (.nm 16) (.nil)))) (.nil)) (.nil)) (.cons (.asg (.nm 52) (.call 97 (.cons (.attr (.attr (.nm 87) 88) 19) (.nil)))) (.cons (.ret (.call 56 (.cons (.nm 103) (.cons (.call 154 (.cons (.attr (.nm 87) 88) (.cons (.nm 52) (.cons (.list (.nil)) (.cons (.cst (.int 0)) (.nil)))))) (.nil))))) (.nil))))
noncomputable def f1254 : Fn := ⟨1254, [87, 103, 16], [], b1254, [87, 103, 16, 52], [], [(153, .fn 1093), (65, .cl 204), (97, .cl 369), (56, .fn 764), (154, .cl 836)], false⟩ -- constant_vec (stAt 157)
noncomputable def b1261 : X := .cons (.asg (.tup (.cons (.nm 103) (.cons (.nm 10) (.nil)))) (.call 118 (.cons (.nm 87) (.cons (.nm 67) (.nil))))) (.cons (.ret (.tup (.cons (.call 156 (.cons (.nm 87) (.cons (.nm 103) (.cons (.item (.nm 67) (.cst (.int 1))) (.nil))))) (.cons (.nm 10) (.nil))))) (.nil))
noncomputable def f1261 : Fn := ⟨1261, [87, 67], [], b1261, [87, 67, 103, 10], [], [(118, .fn 1240), (156, .fn 1254)], false⟩ -- constant (stAt 158)
noncomputable def b1268 : X := .cons (.ret (.call 156 (.cons (.nm 87) (.cons (.call 157 (.cons (.nm 87) (.cons (.nm 67) (.cons (.nm 38) (.nil))))) (.cons (.item (.nm 67) (.cst (.int 1))) (.nil)))))) (.nil)
noncomputable def f1268 : Fn := ⟨1268, [87, 67, 38], [], b1268, [87, 67, 38], [], [(156, .fn 1254), (157, .fn 1247)], false⟩ -- constant_sized (stAt 159)
noncomputable def b1275 : X := .cons (.asg (.nm 88) (.attr (.nm 87) 88)) (.cons (.sif (.cmp .GtE (.attr (.nm 88) 29) (.nm 158)) (.cons (.rais 65 (.cons (.cst (.str 161)) (.cons (.item (.nm 67) (.cst (.int 1))) (.nil)))) (.nil)) (.nil)) (.cons (.aug (.nm 88) 29 .Add (.cst (.int 1))) (.cons (.fin (.cons (.asg (.tup (.cons (.nm 103) (.cons (.nm 10) (.nil)))) (.call 159 (.cons (.nm 87) (.cons (.nm 67) (.nil))))) (.nil)) (.cons (.aug (.nm 88) 29 .Sub (.cst (.int 1))) (.nil))) (.cons (.asg (.nm 104) (.call 160 (.cons (.nm 103) (.cons (.nm 10) (.nil))))) (.cons (.sif (.cmp .Is (.nm 104) (.cst .none)) (.cons (.rais 65 (.cons (.cst (.str 162)) (.cons (.item (.nm 67) (.cst (.int 1))) (.nil)))) (.nil)) (.nil)) (.cons (.ret (.nm 104)) (.nil)))))))
noncomputable def f1275 : Fn := ⟨1275, [87, 67], [], b1275, [87, 67, 88, 103, 10, 104], [], [(158, .int 8), (65, .cl 204), (159, .fn 1261), (160, .fn 282)], false⟩ -- whole (stAt 160)
noncomputable def b1289 : X := .cons (.sif (.cmp .Is (.nm 166) (.cst .none)) (.cons (.ret (.tup (.cons (.cst (.int 0)) (.cons (.cst (.int 0)) (.nil))))) (.nil)) (.nil)) (.cons (.asg (.nm 11) (.call 163 (.cons (.nm 87) (.cons (.item (.nm 166) (.cst (.int 0))) (.nil))))) (.cons (.asg (.nm 12) (.call 163 (.cons (.nm 87) (.cons (.item (.nm 166) (.cst (.int 1))) (.nil))))) (.cons (.sx (.call 164 (.cons (.bin .Add (.call 165 (.cons (.bin .Sub (.nm 11) (.nm 12)) (.nil))) (.cst (.int 1))) (.cons (.item (.item (.nm 166) (.cst (.int 0))) (.cst (.int 1))) (.nil))))) (.cons (.ret (.tup (.cons (.nm 11) (.cons (.nm 12) (.nil))))) (.nil)))))
noncomputable def f1289 : Fn := ⟨1289, [87, 166], [], b1289, [87, 166, 11, 12], [], [(163, .fn 1275), (164, .fn 1023), (165, .bi 2)], false⟩ -- range_of (stAt 162)
noncomputable def b1303 : X := .cons (.asg (.attr (.nm 5) 88) (.nm 88)) (.cons (.asg (.attr (.nm 5) 84) (.nm 84)) (.cons (.asg (.attr (.nm 5) 167) (.nm 167)) (.cons (.asg (.attr (.nm 5) 8) (.nm 8)) (.cons (.asg (.attr (.nm 5) 7) (.nm 84)) (.cons (.asg (.attr (.nm 5) 168) (.cst (.str 169))) (.cons (.asg (.attr (.nm 5) 170) (.cst .none)) (.cons (.asg (.attr (.nm 5) 171) (.dict)) (.cons (.sif (.cmp .IsNot (.nm 167) (.cst .none)) (.cons (.asg (.attr (.nm 5) 7) (.bin .Add (.bin .Add (.attr (.nm 167) 7) (.cst (.str 172))) (.nm 84))) (.cons (.asg (.attr (.nm 5) 168) (.attr (.nm 167) 168)) (.nil))) (.nil)) (.cons (.asg (.attr (.nm 5) 104) (.meth (.nm 88) 35 (.cons (.attr (.nm 5) 7) (.nil)))) (.nil))))))))))
noncomputable def f1303 : Fn := ⟨1303, [5, 88, 84, 167, 8], [], b1303, [5, 88, 84, 167, 8], [], [], false⟩ -- Scope.__init__ (inC (stAt 164) 0)
noncomputable def b1317 : X := .cons (.sif (.cmp .In (.nm 84) (.attr (.nm 5) 171)) (.cons (.rais 65 (.cons (.cst (.str 173)) (.cons (.nm 16) (.cons (.nm 84) (.nil))))) (.nil)) (.nil)) (.cons (.asg (.item (.attr (.nm 5) 171) (.nm 84)) (.nm 86)) (.nil))
noncomputable def f1317 : Fn := ⟨1317, [5, 84, 86, 16], [], b1317, [5, 84, 86, 16], [], [(65, .cl 204)], false⟩ -- Scope.declare (inC (stAt 164) 2)
noncomputable def b1331 : X := .cons (.asg (.nm 87) (.nm 5)) (.cons (.whl (.cmp .IsNot (.nm 87) (.cst .none)) (.cons (.sif (.cmp .In (.nm 84) (.attr (.nm 87) 171)) (.cons (.ret (.item (.attr (.nm 87) 171) (.nm 84))) (.nil)) (.nil)) (.cons (.sif (.cmp .Eq (.attr (.nm 87) 8) (.cst (.str 174))) (.cons (.ret (.cst .none)) (.nil)) (.nil)) (.cons (.asg (.nm 87) (.attr (.nm 87) 167)) (.nil))))) (.cons (.ret (.cst .none)) (.nil)))
noncomputable def f1331 : Fn := ⟨1331, [5, 84], [], b1331, [5, 84, 87], [], [], false⟩ -- Scope.lookup (inC (stAt 164) 4)
noncomputable def c1362 : Cl := ⟨1362, 1303, [88, 171, 8, 170, 84, 168, 104, 167, 7], [(175, 1317), (107, 1331)]⟩ -- Scope
noncomputable def b1373 : X := .cons (.asg (.nm 9) (.bin .Add (.call 165 (.cons (.bin .Sub (.nm 11) (.nm 12)) (.nil))) (.cst (.int 1)))) (.cons (.sif (.cmp .Gt (.nm 9) (.nm 176)) (.cons (.rais 65 (.cons (.cst (.str 101)) (.cons (.nm 16) (.nil)))) (.nil)) (.nil)) (.cons (.ret (.nm 9)) (.nil)))
noncomputable def f1373 : Fn := ⟨1373, [11, 12, 16], [], b1373, [11, 12, 16, 9], [], [(165, .bi 2), (176, .int 4096), (65, .cl 204)], false⟩ -- width_of (stAt 168)
noncomputable def b1380 : X := .cons (.sif (.cmp .Eq (.nm 8) (.cst (.str 179))) (.cons (.ret (.tup (.cons (.cst (.int 32)) (.cons (.cst (.bool true)) (.cons (.cst (.int 31)) (.cons (.cst (.int 0)) (.nil))))))) (.nil)) (.nil)) (.cons (.sif (.cmp .Eq (.nm 8) (.cst (.str 180))) (.cons (.ret (.tup (.cons (.cst (.int 64)) (.cons (.cst (.bool false)) (.cons (.cst (.int 63)) (.cons (.cst (.int 0)) (.nil))))))) (.nil)) (.nil)) (.cons (.sif (.cmp .Is (.nm 166) (.cst .none)) (.cons (.ret (.tup (.cons (.cst (.int 1)) (.cons (.nm 10) (.cons (.cst (.int 0)) (.cons (.cst (.int 0)) (.nil))))))) (.nil)) (.nil)) (.cons (.asg (.tup (.cons (.nm 11) (.cons (.nm 12) (.nil)))) (.call 177 (.cons (.nm 87) (.cons (.nm 166) (.nil))))) (.cons (.ret (.tup (.cons (.call 178 (.cons (.nm 11) (.cons (.nm 12) (.cons (.nm 16) (.nil))))) (.cons (.nm 10) (.cons (.nm 11) (.cons (.nm 12) (.nil))))))) (.nil)))))
noncomputable def f1380 : Fn := ⟨1380, [87, 8, 10, 166, 16], [], b1380, [87, 8, 10, 166, 16, 11, 12], [], [(177, .fn 1289), (178, .fn 1373)], false⟩ -- shape (stAt 169)
noncomputable def b1394 : X := .cons (.asg (.tup (.cons (.nm 9) (.cons (.nm 183) (.cons (.nm 11) (.cons (.nm 12) (.nil)))))) (.call 181 (.cons (.nm 87) (.cons (.nm 8) (.cons (.nm 10) (.cons (.nm 166) (.cons (.nm 16) (.nil)))))))) (.cons (.sif (.cmp .In (.nm 84) (.attr (.nm 87) 171)) (.cons (.rais 65 (.cons (.cst (.str 173)) (.cons (.nm 16) (.cons (.nm 84) (.nil))))) (.nil)) (.nil)) (.cons (.sif (.cmp .Gt (.call 32 (.cons (.nm 184) (.nil))) (.cst (.int 1))) (.cons (.rais 65 (.cons (.cst (.str 185)) (.cons (.nm 16) (.cons (.nm 84) (.nil))))) (.nil)) (.nil)) (.cons (.asg (.nm 186) (.cst .none)) (.cons (.sif (.cmp .Eq (.call 32 (.cons (.nm 184) (.nil))) (.cst (.int 1))) (.cons (.asg (.nm 186) (.call 182 (.cons (.nm 87) (.cons (.item (.nm 184) (.cst (.int 0))) (.cons (.nm 84) (.cons (.nm 16) (.nil))))))) (.nil)) (.nil)) (.cons (.asg (.nm 33) (.meth (.attr (.nm 87) 88) 34 (.cons (.bin .Add (.bin .Add (.attr (.nm 87) 7) (.cst (.str 172))) (.nm 84)) (.cons (.nm 8) (.cons (.nm 9) (.cons (.nm 183) (.cons (.nm 11) (.cons (.nm 12) (.cons (.nm 16) (.nil)))))))))) (.cons (.asg (.attr (.nm 33) 17) (.bop .And (.cons (.cmp .Is (.nm 166) (.cst .none)) (.cons (.cmp .NotEq (.nm 8) (.cst (.str 179))) (.cons (.cmp .NotEq (.nm 8) (.cst (.str 180))) (.nil)))))) (.cons (.sif (.cmp .Eq (.call 32 (.cons (.nm 184) (.nil))) (.cst (.int 1))) (.cons (.asg (.attr (.nm 33) 13) (.item (.nm 186) (.cst (.int 0)))) (.cons (.asg (.attr (.nm 33) 14) (.item (.nm 186) (.cst (.int 1)))) (.nil))) (.nil)) (.cons (.sx (.meth (.nm 87) 175 (.cons (.nm 84) (.cons (.tup (.cons (.cst (.str 69)) (.cons (.attr (.nm 33) 6) (.nil)))) (.cons (.nm 16) (.nil)))))) (.cons (.ret (.nm 33)) (.nil))))))))))
noncomputable def f1394 : Fn := ⟨1394, [87, 8, 10, 166, 84, 184, 16], [], b1394, [87, 8, 10, 166, 84, 184, 16, 9, 183, 11, 12, 186, 33], [], [(181, .fn 1380), (65, .cl 204), (32, .bi 0), (182, .fn 1387)], false⟩ -- declare_signal (stAt 172)
noncomputable def b1408 : X := .cons (.sif (.meth (.nm 33) 18 (.nil)) (.cons (.rais 65 (.cons (.cst (.str 188)) (.cons (.nm 16) (.nil)))) (.nil)) (.nil)) (.cons (.asg (.attr (.nm 33) 15) (.call 187 (.cons (.nm 87) (.cons (.nm 103) (.cons (.attr (.nm 33) 9) (.nil)))))) (.nil))
noncomputable def f1408 : Fn := ⟨1408, [87, 33, 103, 16], [], b1408, [87, 33, 103, 16], [], [(65, .cl 204), (187, .fn 1268)], false⟩ -- set_initial (stAt 174)
noncomputable def b1415 : X := .cons (.asg (.tup (.cons (.nm 16) (.cons (.nm 10) (.cons (.nm 166) (.cons (.nm 103) (.nil)))))) (.tup (.cons (.item (.nm 189) (.cst (.int 1))) (.cons (.item (.nm 189) (.cst (.int 3))) (.cons (.item (.nm 189) (.cst (.int 4))) (.cons (.item (.nm 189) (.cst (.int 6))) (.nil))))))) (.cons (.sif (.cmp .Is (.nm 166) (.cst .none)) (.cons (.sif (.cmp .Is (.nm 190) (.cst .none)) (.cons (.asg (.nm 190) (.call 159 (.cons (.nm 87) (.cons (.nm 103) (.nil))))) (.nil)) (.nil)) (.cons (.ret (.tup (.cons (.item (.nm 190) (.cst (.int 0))) (.cons (.bop .Or (.cons (.nm 10) (.cons (.item (.nm 190) (.cst (.int 1))) (.nil)))) (.nil))))) (.nil))) (.nil)) (.cons (.asg (.tup (.cons (.nm 11) (.cons (.nm 12) (.nil)))) (.call 177 (.cons (.nm 87) (.cons (.nm 166) (.nil))))) (.cons (.asg (.nm 9) (.call 178 (.cons (.nm 11) (.cons (.nm 12) (.cons (.nm 16) (.nil)))))) (.cons (.sif (.cmp .IsNot (.nm 190) (.cst .none)) (.cons (.ret (.tup (.cons (.call 3 (.cons (.item (.nm 190) (.cst (.int 0))) (.cons (.nm 9) (.cons (.item (.nm 190) (.cst (.int 1))) (.nil))))) (.cons (.nm 10) (.nil))))) (.nil)) (.nil)) (.cons (.ret (.tup (.cons (.call 187 (.cons (.nm 87) (.cons (.nm 103) (.cons (.nm 9) (.nil))))) (.cons (.nm 10) (.nil))))) (.nil))))))
noncomputable def f1415 : Fn := ⟨1415, [87, 189, 190], [], b1415, [87, 189, 190, 16, 10, 166, 103, 11, 12, 9], [], [(159, .fn 1261), (177, .fn 1289), (178, .fn 1373), (3, .fn 317), (187, .fn 1268)], false⟩ -- parameter_value (stAt 175)
noncomputable def b1423 : X := .cons (.asg (.tup (.cons (.nm 45) (.cons (.nm 10) (.nil)))) (.call 191 (.cons (.nm 87) (.cons (.nm 189) (.cons (.nm 190) (.nil)))))) (.cons (.asg (.nm 86) (.tup (.cons (.cst (.str 89)) (.cons (.nm 45) (.cons (.nm 10) (.nil)))))) (.cons (.sif (.cmp .IsNot (.item (.nm 189) (.cst (.int 4))) (.cst .none)) (.cons (.asg (.nm 86) (.bin .Add (.nm 86) (.call 177 (.cons (.nm 87) (.cons (.item (.nm 189) (.cst (.int 4))) (.nil)))))) (.nil)) (.nil)) (.cons (.sx (.meth (.nm 87) 175 (.cons (.item (.nm 189) (.cst (.int 5))) (.cons (.nm 86) (.cons (.item (.nm 189) (.cst (.int 1))) (.nil)))))) (.nil))))
noncomputable def f1423 : Fn := ⟨1423, [87, 189, 190], [.none], b1423, [87, 189, 190, 45, 10, 86], [], [(191, .fn 1415), (177, .fn 1289)], false⟩ -- declare_parameter (stAt 176)
noncomputable def b1491 : X := .cons (.asg (.nm 196) (.dict)) (.cons (.asg (.nm 197) (.list (.cons (.nm 198) (.nil)))) (.cons (.whl (.cmp .Gt (.call 32 (.cons (.nm 197) (.nil))) (.cst (.int 0))) (.cons (.asg (.nm 98) (.meth (.nm 197) 1 (.nil))) (.cons (.sif (.call 192 (.cons (.nm 98) (.cons (.nm 193) (.nil)))) (.cons (.sif (.bop .And (.cons (.cmp .Eq (.call 32 (.cons (.nm 98) (.nil))) (.cst (.int 4))) (.cons (.cmp .Eq (.item (.nm 98) (.cst (.int 0))) (.cst (.str 81))) (.cons (.call 192 (.cons (.item (.nm 98) (.cst (.int 2))) (.cons (.nm 133) (.nil)))) (.nil))))) (.cons (.asg (.item (.nm 196) (.item (.nm 98) (.cst (.int 2)))) (.cst (.bool true))) (.nil)) (.nil)) (.cons (.sx (.meth (.nm 197) 3 (.cons (.call 194 (.cons (.nm 98) (.nil))) (.nil)))) (.nil))) (.nil)) (.nil)))) (.cons (.ret (.call 195 (.cons (.nm 196) (.nil)))) (.nil))))
noncomputable def f1491 : Fn := ⟨1491, [198], [], b1491, [198, 196, 197, 98], [], [(32, .bi 0), (192, .bi 1), (193, .ty 0), (133, .ty 1), (194, .ty 4), (195, .ty 3)], false⟩ -- called_names (stAt 187)
noncomputable def b1498 : X := .cons (.asg (.nm 197) (.list (.cons (.nm 198) (.nil)))) (.cons (.whl (.cmp .Gt (.call 32 (.cons (.nm 197) (.nil))) (.cst (.int 0))) (.cons (.asg (.nm 98) (.meth (.nm 197) 1 (.nil))) (.cons (.sif (.call 192 (.cons (.nm 98) (.cons (.nm 193) (.nil)))) (.cons (.sif (.bop .And (.cons (.cmp .Eq (.call 32 (.cons (.nm 98) (.nil))) (.cst (.int 3))) (.cons (.cmp .Eq (.item (.nm 98) (.cst (.int 0))) (.cst (.str 114))) (.cons (.cmp .Is (.meth (.nm 87) 107 (.cons (.item (.nm 98) (.cst (.int 2))) (.nil))) (.cst .none)) (.nil))))) (.cons (.ret (.cst (.bool false))) (.nil)) (.nil)) (.cons (.sx (.meth (.nm 197) 3 (.cons (.nm 98) (.nil)))) (.nil))) (.nil)) (.nil)))) (.cons (.ret (.cst (.bool true))) (.nil)))
noncomputable def f1498 : Fn := ⟨1498, [87, 198], [], b1498, [87, 198, 197, 98], [], [(32, .bi 0), (192, .bi 1), (193, .ty 0)], false⟩ -- are_names_known (stAt 188)
noncomputable def b1505 : X := .cons (.sif (.bop .Or (.cons (.cmp .Eq (.item (.nm 189) (.cst (.int 0))) (.cst (.str 199))) (.cons (.cmp .Eq (.item (.nm 189) (.cst (.int 0))) (.cst (.str 140))) (.nil)))) (.cons (.ret (.item (.nm 189) (.cst (.int 6)))) (.nil)) (.nil)) (.cons (.ret (.item (.nm 189) (.cst (.int 5)))) (.nil))
noncomputable def f1505 : Fn := ⟨1505, [189], [], b1505, [189], [], [], false⟩ -- declared_name (stAt 189)
noncomputable def b1517 : X := .cons (.asg (.nm 202) (.dict)) (.cons (.for_ 203 (.call 200 (.cons (.call 32 (.cons (.nm 204) (.nil))) (.nil))) (.cons (.asg (.nm 189) (.item (.nm 204) (.nm 203))) (.cons (.sif (.bop .Or (.cons (.cmp .Eq (.item (.nm 189) (.cst (.int 0))) (.cst (.str 199))) (.cons (.cmp .Eq (.item (.nm 189) (.cst (.int 0))) (.cst (.str 205))) (.nil)))) (.cons (.asg (.nm 84) (.call 201 (.cons (.nm 189) (.nil)))) (.cons (.sif (.bop .And (.cons (.cmp .In (.nm 84) (.nm 27)) (.cons (.cmp .NotIn (.nm 84) (.nm 202)) (.nil)))) (.cons (.asg (.item (.nm 202) (.nm 84)) (.nm 203)) (.nil)) (.nil)) (.nil))) (.nil)) (.nil)))) (.cons (.ret (.nm 202)) (.nil)))
noncomputable def f1517 : Fn := ⟨1517, [204, 27], [], b1517, [204, 27, 202, 203, 189, 84], [], [(200, .ty 2), (32, .bi 0), (201, .fn 1505)], false⟩ -- partner_places (stAt 191)
noncomputable def b1531 : X := .cons (.asg (.tup (.cons (.nm 209) (.cons (.nm 16) (.cons (.nm 210) (.cons (.nm 10) (.cons (.nm 166) (.cons (.nm 84) (.nil)))))))) (.nm 0)) (.cons (.sif (.cmp .Is (.nm 211) (.cst .none)) (.cons (.ret (.tup (.cons (.call 206 (.cons (.nm 87) (.nil))) (.cons (.nm 10) (.cons (.nm 166) (.nil)))))) (.nil)) (.nil)) (.cons (.sif (.bop .And (.cons (.cmp .Eq (.item (.nm 211) (.cst (.int 0))) (.cst (.str 205))) (.cons (.cmp .NotEq (.nm 210) (.cst (.str 212))) (.nil)))) (.cons (.rais 65 (.cons (.cst (.str 213)) (.cons (.nm 16) (.cons (.nm 84) (.nil))))) (.nil)) (.nil)) (.cons (.asg (.nm 184) (.item (.nm 211) (.cst (.int 6)))) (.cons (.sif (.cmp .Eq (.item (.nm 211) (.cst (.int 0))) (.cst (.str 199))) (.cons (.asg (.nm 184) (.item (.nm 211) (.cst (.int 7)))) (.nil)) (.nil)) (.cons (.sif (.cmp .Gt (.call 32 (.cons (.nm 184) (.nil))) (.cst (.int 0))) (.cons (.rais 65 (.cons (.cst (.str 214)) (.cons (.nm 16) (.cons (.nm 84) (.nil))))) (.nil)) (.nil)) (.cons (.sif (.cmp .Is (.nm 166) (.cst .none)) (.cons (.asg (.nm 166) (.item (.nm 211) (.cst (.int 4)))) (.nil)) (.cons (.sif (.call 207 (.cons (.nm 87) (.cons (.item (.nm 211) (.cst (.int 4))) (.nil)))) (.cons (.sx (.call 208 (.cons (.nm 87) (.cons (.nm 0) (.cons (.nm 211) (.nil)))))) (.nil)) (.nil)) (.nil))) (.cons (.ret (.tup (.cons (.item (.nm 211) (.cst (.int 2))) (.cons (.bop .Or (.cons (.nm 10) (.cons (.item (.nm 211) (.cst (.int 3))) (.nil)))) (.cons (.nm 166) (.nil)))))) (.nil))))))))
noncomputable def f1531 : Fn := ⟨1531, [87, 0, 211], [], b1531, [87, 0, 211, 209, 16, 210, 10, 166, 84, 184], [], [(206, .fn 1524), (65, .cl 204), (32, .bi 0), (207, .fn 1498), (208, .fn 1538)], false⟩ -- port_shape (stAt 193)
noncomputable def b1538 : X := .cons (.asg (.tup (.cons (.nm 11) (.cons (.nm 12) (.nil)))) (.call 177 (.cons (.nm 87) (.cons (.item (.nm 0) (.cst (.int 4))) (.nil))))) (.cons (.asg (.nm 215) (.cst (.bool true))) (.cons (.sif (.bop .Or (.cons (.cmp .Eq (.item (.nm 211) (.cst (.int 2))) (.cst (.str 179))) (.cons (.cmp .Eq (.item (.nm 211) (.cst (.int 2))) (.cst (.str 180))) (.nil)))) (.cons (.asg (.nm 215) (.cmp .Eq (.item (.call 181 (.cons (.nm 87) (.cons (.item (.nm 211) (.cst (.int 2))) (.cons (.cst (.bool false)) (.cons (.cst .none) (.cons (.item (.nm 0) (.cst (.int 1))) (.nil))))))) (.cst (.int 0))) (.bin .Add (.call 165 (.cons (.bin .Sub (.nm 11) (.nm 12)) (.nil))) (.cst (.int 1))))) (.nil)) (.cons (.sif (.cmp .IsNot (.item (.nm 211) (.cst (.int 4))) (.cst .none)) (.cons (.asg (.nm 215) (.cmp .Eq (.call 177 (.cons (.nm 87) (.cons (.item (.nm 211) (.cst (.int 4))) (.nil)))) (.tup (.cons (.nm 11) (.cons (.nm 12) (.nil)))))) (.nil)) (.nil)) (.nil))) (.cons (.sif (.not (.nm 215)) (.cons (.rais 65 (.cons (.cst (.str 216)) (.cons (.item (.nm 0) (.cst (.int 1))) (.cons (.item (.nm 0) (.cst (.int 5))) (.nil))))) (.nil)) (.nil)) (.nil))))
noncomputable def f1538 : Fn := ⟨1538, [87, 0, 211], [], b1538, [87, 0, 211, 11, 12, 215], [], [(177, .fn 1289), (181, .fn 1380), (165, .bi 2), (65, .cl 204)], false⟩ -- check_port_range (stAt 194)
noncomputable def b1566 : X := .cons (.asg (.attr (.nm 5) 87) (.nm 87)) (.cons (.asg (.attr (.nm 5) 204) (.nm 204)) (.cons (.asg (.attr (.nm 5) 190) (.nm 190)) (.cons (.asg (.attr (.nm 5) 219) (.nm 219)) (.cons (.asg (.attr (.nm 5) 27) (.call 217 (.cons (.nm 204) (.nil)))) (.cons (.asg (.attr (.nm 5) 220) (.call 218 (.cons (.nm 204) (.cons (.attr (.nm 5) 27) (.nil))))) (.cons (.asg (.attr (.nm 5) 24) (.dict)) (.cons (.asg (.attr (.nm 5) 221) (.dict)) (.cons (.asg (.attr (.nm 5) 222) (.dict)) (.cons (.asg (.attr (.nm 5) 223) (.dict)) (.cons (.asg (.attr (.nm 5) 224) (.list (.nil))) (.cons (.for_ 203 (.call 200 (.cons (.call 32 (.cons (.nm 204) (.nil))) (.nil))) (.cons (.sif (.bop .And (.cons (.cmp .Eq (.item (.item (.nm 204) (.nm 203)) (.cst (.int 0))) (.cst (.str 140))) (.cons (.cmp .NotIn (.item (.item (.nm 204) (.nm 203)) (.cst (.int 6))) (.attr (.nm 5) 24)) (.nil)))) (.cons (.asg (.item (.attr (.nm 5) 24) (.item (.item (.nm 204) (.nm 203)) (.cst (.int 6)))) (.nm 203)) (.nil)) (.nil)) (.nil))) (.nil))))))))))))
noncomputable def f1566 : Fn := ⟨1566, [5, 87, 204, 190, 219], [], b1566, [5, 87, 204, 190, 219, 203], [], [(217, .fn 1510), (218, .fn 1517), (200, .ty 2), (32, .bi 0)], false⟩ -- Declarer.__init__ (inC (stAt 197) 0)
noncomputable def b1573 : X := .cons (.for_ 203 (.call 200 (.cons (.call 32 (.cons (.attr (.nm 5) 204) (.nil))) (.nil))) (.cons (.sx (.meth (.nm 5) 189 (.cons (.nm 203) (.nil)))) (.nil))) (.cons (.ret (.attr (.nm 5) 224)) (.nil))
noncomputable def f1573 : Fn := ⟨1573, [5], [], b1573, [5, 203], [], [(200, .ty 2), (32, .bi 0)], false⟩ -- Declarer.run (inC (stAt 197) 1)
noncomputable def b1580 : X := .cons (.asg (.nm 189) (.item (.attr (.nm 5) 204) (.nm 203))) (.cons (.asg (.nm 66) (.item (.nm 189) (.cst (.int 0)))) (.cons (.sif (.cmp .Eq (.nm 66) (.cst (.str 140))) (.cons (.sx (.meth (.nm 5) 140 (.cons (.nm 203) (.nil)))) (.nil)) (.cons (.sif (.cmp .Eq (.nm 66) (.cst (.str 89))) (.cons (.sx (.meth (.nm 5) 227 (.cons (.nm 189) (.nil)))) (.cons (.asg (.nm 190) (.cst .none)) (.cons (.sif (.cmp .Eq (.item (.nm 189) (.cst (.int 2))) (.cst (.str 228))) (.cons (.asg (.nm 190) (.meth (.attr (.nm 5) 190) 4 (.cons (.item (.nm 189) (.cst (.int 5))) (.nil)))) (.nil)) (.nil)) (.cons (.sx (.call 225 (.cons (.attr (.nm 5) 87) (.cons (.nm 189) (.cons (.nm 190) (.nil)))))) (.nil))))) (.cons (.sif (.cmp .Eq (.nm 66) (.cst (.str 0))) (.cons (.sx (.meth (.nm 5) 0 (.cons (.nm 203) (.nil)))) (.nil)) (.cons (.sif (.bop .Or (.cons (.cmp .Eq (.nm 66) (.cst (.str 199))) (.cons (.cmp .Eq (.nm 66) (.cst (.str 205))) (.nil)))) (.cons (.sx (.meth (.nm 5) 33 (.cons (.nm 203) (.nil)))) (.nil)) (.cons (.sif (.cmp .Eq (.nm 66) (.cst (.str 229))) (.cons (.sx (.call 226 (.cons (.attr (.nm 5) 87) (.cons (.item (.nm 189) (.cst (.int 2))) (.cons (.item (.nm 189) (.cst (.int 1))) (.nil)))))) (.nil)) (.nil)) (.nil))) (.nil))) (.nil))) (.nil))) (.nil)))
noncomputable def f1580 : Fn := ⟨1580, [5, 203], [], b1580, [5, 203, 189, 66, 190], [], [(225, .fn 1423), (226, .fn 1401)], false⟩ -- Declarer.item (inC (stAt 197) 2)
noncomputable def b1587 : X := .cons (.for_ 84 (.call 230 (.cons (.nm 198) (.nil))) (.cons (.sif (.cmp .In (.nm 84) (.attr (.nm 5) 24)) (.cons (.asg (.nm 203) (.item (.attr (.nm 5) 24) (.nm 84))) (.cons (.sx (.meth (.nm 5) 140 (.cons (.nm 203) (.nil)))) (.cons (.sif (.cmp .NotIn (.nm 203) (.attr (.nm 5) 222)) (.cons (.asg (.item (.attr (.nm 5) 222) (.nm 203)) (.cst (.bool true))) (.cons (.sx (.meth (.nm 5) 227 (.cons (.item (.item (.attr (.nm 5) 204) (.nm 203)) (.cst (.int 8))) (.nil)))) (.nil))) (.nil)) (.nil)))) (.nil)) (.nil))) (.nil)
noncomputable def f1587 : Fn := ⟨1587, [5, 198], [], b1587, [5, 198, 84, 203], [], [(230, .fn 1491)], false⟩ -- Declarer.called (inC (stAt 197) 3)
noncomputable def b1601 : X := .cons (.asg (.nm 0) (.item (.attr (.nm 5) 204) (.nm 203))) (.cons (.asg (.nm 84) (.item (.nm 0) (.cst (.int 5)))) (.cons (.asg (.nm 211) (.cst .none)) (.cons (.sif (.cmp .In (.nm 84) (.attr (.nm 5) 220)) (.cons (.asg (.nm 211) (.item (.attr (.nm 5) 204) (.item (.attr (.nm 5) 220) (.nm 84)))) (.cons (.asg (.nm 234) (.cmp .Gt (.item (.attr (.nm 5) 220) (.nm 84)) (.nm 203))) (.cons (.sif (.bop .And (.cons (.nm 234) (.cons (.cmp .IsNot (.item (.nm 0) (.cst (.int 4))) (.cst .none)) (.cons (.not (.call 207 (.cons (.attr (.nm 5) 87) (.cons (.item (.nm 211) (.cst (.int 4))) (.nil))))) (.nil))))) (.cons (.asg (.item (.attr (.nm 5) 223) (.nm 84)) (.nm 0)) (.nil)) (.cons (.sx (.meth (.nm 5) 227 (.cons (.item (.nm 211) (.cst (.int 4))) (.nil)))) (.nil))) (.nil)))) (.nil)) (.cons (.sx (.meth (.nm 5) 227 (.cons (.item (.nm 0) (.cst (.int 4))) (.nil)))) (.cons (.asg (.tup (.cons (.nm 8) (.cons (.nm 10) (.cons (.nm 166) (.nil))))) (.call 231 (.cons (.attr (.nm 5) 87) (.cons (.nm 0) (.cons (.nm 211) (.nil)))))) (.cons (.sif (.bop .And (.cons (.cmp .IsNot (.nm 211) (.cst .none)) (.cons (.cmp .IsNot (.item (.nm 0) (.cst (.int 4))) (.cst .none)) (.cons (.cmp .NotIn (.nm 84) (.attr (.nm 5) 223)) (.nil))))) (.cons (.sx (.call 208 (.cons (.attr (.nm 5) 87) (.cons (.nm 0) (.cons (.nm 211) (.nil)))))) (.nil)) (.nil)) (.cons (.sif (.cmp .In (.nm 84) (.attr (.nm 5) 219)) (.cons (.asg (.nm 86) (.call 232 (.cons (.attr (.nm 5) 87) (.cons (.item (.attr (.nm 5) 219) (.nm 84)) (.cons (.nm 8) (.cons (.nm 10) (.cons (.nm 166) (.cons (.nm 0) (.nil))))))))) (.cons (.sx (.meth (.attr (.nm 5) 87) 175 (.cons (.nm 84) (.cons (.nm 86) (.cons (.item (.nm 0) (.cst (.int 1))) (.nil)))))) (.nil))) (.cons (.sx (.call 233 (.cons (.attr (.nm 5) 87) (.cons (.nm 8) (.cons (.nm 10) (.cons (.nm 166) (.cons (.nm 84) (.cons (.tup (.nil)) (.cons (.item (.nm 0) (.cst (.int 1))) (.nil)))))))))) (.nil))) (.cons (.sif (.bop .And (.cons (.cmp .IsNot (.nm 211) (.cst .none)) (.cons (.cmp .Lt (.item (.attr (.nm 5) 220) (.nm 84)) (.nm 203)) (.nil)))) (.cons (.sx (.meth (.nm 5) 103 (.cons (.nm 211) (.nil)))) (.nil)) (.nil)) (.nil)))))))))
noncomputable def f1601 : Fn := ⟨1601, [5, 203], [], b1601, [5, 203, 0, 84, 211, 234, 8, 10, 166, 86], [], [(207, .fn 1498), (231, .fn 1531), (208, .fn 1538), (232, .fn 1545), (233, .fn 1394)], false⟩ -- Declarer.port (inC (stAt 197) 5)
noncomputable def b1608 : X := .cons (.asg (.nm 189) (.item (.attr (.nm 5) 204) (.nm 203))) (.cons (.asg (.nm 84) (.call 201 (.cons (.nm 189) (.nil)))) (.cons (.sif (.cmp .Eq (.meth (.attr (.nm 5) 220) 4 (.cons (.nm 84) (.cons (.neg 1) (.nil)))) (.nm 203)) (.cons (.sif (.bop .And (.cons (.cmp .In (.nm 84) (.attr (.attr (.nm 5) 87) 171)) (.cons (.cmp .Eq (.item (.item (.attr (.attr (.nm 5) 87) 171) (.nm 84)) (.cst (.int 0))) (.cst (.str 69))) (.nil)))) (.cons (.sif (.cmp .In (.nm 84) (.attr (.nm 5) 223)) (.cons (.sx (.meth (.nm 5) 227 (.cons (.item (.nm 189) (.cst (.int 4))) (.nil)))) (.cons (.sx (.call 208 (.cons (.attr (.nm 5) 87) (.cons (.item (.attr (.nm 5) 223) (.nm 84)) (.cons (.nm 189) (.nil)))))) (.nil))) (.nil)) (.cons (.sx (.meth (.nm 5) 103 (.cons (.nm 189) (.nil)))) (.nil))) (.nil)) (.cons (.ret0) (.nil))) (.nil)) (.cons (.sif (.cmp .Eq (.item (.nm 189) (.cst (.int 0))) (.cst (.str 205))) (.cons (.sx (.meth (.nm 5) 227 (.cons (.nm 189) (.nil)))) (.cons (.sx (.call 235 (.cons (.attr (.nm 5) 87) (.cons (.cst .none) (.cons (.nm 189) (.nil)))))) (.cons (.ret0) (.nil)))) (.nil)) (.cons (.sx (.call 236 (.cons (.nm 189) (.nil)))) (.cons (.asg (.tup (.cons (.nm 209) (.cons (.nm 16) (.cons (.nm 8) (.cons (.nm 10) (.cons (.nm 166) (.cons (.nm 209) (.cons (.nm 209) (.cons (.nm 184) (.cons (.nm 209) (.cons (.nm 103) (.nil)))))))))))) (.nm 189)) (.cons (.sx (.meth (.nm 5) 227 (.cons (.nm 166) (.nil)))) (.cons (.sx (.meth (.nm 5) 227 (.cons (.nm 184) (.nil)))) (.cons (.sx (.call 233 (.cons (.attr (.nm 5) 87) (.cons (.nm 8) (.cons (.nm 10) (.cons (.nm 166) (.cons (.nm 84) (.cons (.nm 184) (.cons (.nm 16) (.nil)))))))))) (.cons (.sif (.cmp .IsNot (.nm 103) (.cst .none)) (.cons (.sx (.meth (.attr (.nm 5) 224) 2 (.cons (.nm 189) (.nil)))) (.nil)) (.nil)) (.nil))))))))))
noncomputable def f1608 : Fn := ⟨1608, [5, 203], [], b1608, [5, 203, 189, 84, 209, 16, 8, 10, 166, 184, 103], [], [(201, .fn 1505), (208, .fn 1538), (235, .fn 1444), (236, .fn 1552), (233, .fn 1394)], false⟩ -- Declarer.signal (inC (stAt 197) 6)
noncomputable def b1615 : X := .cons (.sif (.cmp .Eq (.item (.nm 211) (.cst (.int 0))) (.cst (.str 199))) (.cons (.sx (.call 236 (.cons (.nm 211) (.nil)))) (.nil)) (.nil)) (.cons (.sif (.cmp .Is (.item (.nm 211) (.neg 1)) (.cst .none)) (.cons (.ret0) (.nil)) (.nil)) (.cons (.sif (.cmp .Eq (.item (.nm 211) (.cst (.int 0))) (.cst (.str 199))) (.cons (.sx (.meth (.attr (.nm 5) 224) 2 (.cons (.nm 211) (.nil)))) (.cons (.ret0) (.nil))) (.nil)) (.cons (.sx (.meth (.nm 5) 227 (.cons (.item (.nm 211) (.neg 1)) (.nil)))) (.cons (.asg (.nm 6) (.item (.item (.attr (.attr (.nm 5) 87) 171) (.item (.nm 211) (.cst (.int 5)))) (.cst (.int 1)))) (.cons (.sx (.call 237 (.cons (.attr (.nm 5) 87) (.cons (.item (.attr (.attr (.attr (.nm 5) 87) 88) 19) (.nm 6)) (.cons (.item (.nm 211) (.neg 1)) (.cons (.item (.nm 211) (.cst (.int 1))) (.nil))))))) (.nil))))))
noncomputable def f1615 : Fn := ⟨1615, [5, 211], [], b1615, [5, 211, 6], [], [(236, .fn 1552), (237, .fn 1408)], false⟩ -- Declarer.value (inC (stAt 197) 7)
noncomputable def c1618 : Cl := ⟨1618, 1566, [222, 221, 190, 204, 219, 224, 220, 27, 24, 87, 223], [(238, 1573), (189, 1580), (227, 1587), (0, 1601), (33, 1608), (103, 1615)]⟩ -- Declarer
noncomputable def b1636 : X := .cons (.ret (.tup (.cons (.cst (.str 132)) (.cons (.cst (.int 5)) (.cons (.tup (.cons (.cst (.int 32)) (.cons (.nm 239) (.cons (.cst (.int 0)) (.nil))))) (.cons (.cst (.bool true)) (.cons (.cst (.bool false)) (.nil)))))))) (.nil)
noncomputable def f1636 : Fn := ⟨1636, [239], [], b1636, [239], [], [], false⟩ -- _law_num (stAt 200)
noncomputable def b1643 : X := .cons (.asg (.nm 245) (.cmp .Eq (.call 240 (.cons (.nm 246) (.cons (.cst (.int 2)) (.nil)))) (.cst (.int 1)))) (.cons (.asg (.nm 247) (.cmp .Eq (.call 240 (.cons (.nm 246) (.cons (.cst (.int 2)) (.nil)))) (.cst (.int 0)))) (.cons (.asg (.nm 248) (.bin .Add (.cst (.int 3)) (.call 240 (.cons (.nm 246) (.cons (.cst (.int 3)) (.nil)))))) (.cons (.asg (.nm 103) (.item (.list (.cons (.cst .none) (.cons (.call 241 (.cons (.cst (.int 9)) (.nil))) (.nil)))) (.call 240 (.cons (.nm 246) (.cons (.cst (.int 2)) (.nil)))))) (.cons (.asg (.nm 249) (.call 240 (.cons (.nm 246) (.cons (.cst (.int 4)) (.nil))))) (.cons (.asg (.nm 88) (.call 242 (.nil))) (.cons (.asg (.nm 87) (.call 243 (.cons (.nm 88) (.cons (.cst (.str 250)) (.cons (.cst .none) (.cons (.cst (.str 174)) (.nil))))))) (.cons (.asg (.nm 0) (.tup (.cons (.cst (.str 0)) (.cons (.cst (.int 10)) (.cons (.cst (.str 212)) (.cons (.cst (.bool false)) (.cons (.tup (.cons (.call 241 (.cons (.cst (.int 3)) (.nil))) (.cons (.call 241 (.cons (.cst (.int 0)) (.nil))) (.nil)))) (.cons (.cst (.str 251)) (.nil))))))))) (.cons (.asg (.nm 89) (.tup (.cons (.cst (.str 89)) (.cons (.cst (.int 11)) (.cons (.cst (.str 228)) (.cons (.cst (.bool false)) (.cons (.cst .none) (.cons (.cst (.str 252)) (.cons (.call 241 (.cons (.nm 248) (.nil))) (.nil)))))))))) (.cons (.asg (.nm 166) (.tup (.cons (.ife (.nm 247) (.tup (.cons (.cst (.str 114)) (.cons (.cst (.int 13)) (.cons (.cst (.str 252)) (.nil))))) (.call 241 (.cons (.nm 248) (.nil)))) (.cons (.call 241 (.cons (.cst (.int 0)) (.nil))) (.nil))))) (.cons (.asg (.nm 253) (.tup (.cons (.cst (.str 205)) (.cons (.cst (.int 12)) (.cons (.cst (.str 254)) (.cons (.cst (.bool false)) (.cons (.nm 166) (.cons (.cst (.str 251)) (.cons (.tup (.nil)) (.cons (.nm 103) (.nil))))))))))) (.cons (.asg (.nm 204) (.ife (.nm 245) (.list (.cons (.nm 0) (.cons (.nm 89) (.cons (.nm 253) (.nil))))) (.list (.cons (.nm 89) (.cons (.nm 0) (.cons (.nm 253) (.nil))))))) (.cons (.asg (.nm 255) (.cmp .Eq (.call 240 (.cons (.nm 246) (.cons (.cst (.int 3)) (.nil)))) (.cst (.int 2)))) (.cons (.sif (.nm 255) (.cons (.asg (.nm 204) (.ife (.nm 245) (.list (.cons (.nm 253) (.cons (.nm 0) (.cons (.nm 89) (.nil))))) (.list (.cons (.nm 89) (.cons (.nm 253) (.cons (.nm 0) (.nil))))))) (.nil)) (.nil)) (.cons (.asg (.nm 186) (.item (.list (.cons (.cst .none) (.cons (.tup (.cons (.call 241 (.cons (.cst (.int 31)) (.nil))) (.cons (.call 241 (.cons (.cst (.int 0)) (.nil))) (.nil)))) (.cons (.tup (.cons (.call 241 (.cons (.cst (.int 0)) (.nil))) (.cons (.call 241 (.cons (.cst (.int 31)) (.nil))) (.nil)))) (.cons (.tup (.cons (.call 241 (.cons (.cst (.int 7)) (.nil))) (.cons (.call 241 (.cons (.cst (.int 0)) (.nil))) (.nil)))) (.nil)))))) (.nm 249))) (.cons (.sx (.meth (.nm 204) 2 (.cons (.tup (.cons (.cst (.str 0)) (.cons (.cst (.int 20)) (.cons (.cst (.str 212)) (.cons (.cst (.bool false)) (.cons (.nm 186) (.cons (.cst (.str 256)) (.nil)))))))) (.nil)))) (.cons (.sx (.meth (.nm 204) 2 (.cons (.tup (.cons (.cst (.str 205)) (.cons (.cst (.int 21)) (.cons (.cst (.str 179)) (.cons (.cst (.bool true)) (.cons (.cst .none) (.cons (.cst (.str 256)) (.cons (.tup (.nil)) (.cons (.cst .none) (.nil)))))))))) (.nil)))) (.cons (.asg (.nm 257) (.cst .none)) (.cons (.sif (.bop .And (.cons (.nm 255) (.cons (.nm 245) (.cons (.nm 247) (.nil))))) (.cons (.asg (.nm 257) (.tup (.cons (.cst (.str 108)) (.cons (.cst (.int 13)) (.nil))))) (.nil)) (.cons (.sif (.cmp .NotEq (.nm 248) (.cst (.int 3))) (.cons (.asg (.nm 257) (.tup (.cons (.cst (.str 216)) (.cons (.cst (.int 10)) (.nil))))) (.nil)) (.cons (.sif (.cmp .Eq (.nm 249) (.cst (.int 3))) (.cons (.asg (.nm 257) (.tup (.cons (.cst (.str 216)) (.cons (.cst (.int 20)) (.nil))))) (.nil)) (.nil)) (.nil))) (.nil))) (.cons (.asg (.nm 258) (.cst .none)) (.cons (.ctc 65 259 (.cons (.sx (.meth (.call 244 (.cons (.nm 87) (.cons (.nm 204) (.cons (.dict) (.cons (.dict) (.nil)))))) 238 (.nil))) (.nil)) (.cons (.asg (.nm 258) (.tup (.cons (.attr (.nm 259) 8) (.cons (.attr (.nm 259) 16) (.nil))))) (.nil))) (.cons (.sif (.bop .Or (.cons (.cmp .NotEq (.nm 258) (.nm 257)) (.cons (.cmp .IsNot (.nm 257) (.cst .none)) (.nil)))) (.cons (.ret (.cmp .Eq (.nm 258) (.nm 257))) (.nil)) (.nil)) (.cons (.asg (.nm 33) (.item (.attr (.nm 88) 19) (.item (.item (.attr (.nm 87) 171) (.cst (.str 251))) (.cst (.int 1))))) (.cons (.sif (.cmp .NotEq (.tup (.cons (.attr (.nm 33) 9) (.cons (.attr (.nm 33) 11) (.cons (.attr (.nm 33) 12) (.cons (.attr (.nm 33) 8) (.nil)))))) (.tup (.cons (.cst (.int 4)) (.cons (.cst (.int 3)) (.cons (.cst (.int 0)) (.cons (.cst (.str 254)) (.nil))))))) (.cons (.ret (.cst (.bool false))) (.nil)) (.nil)) (.cons (.sif (.cmp .NotEq (.attr (.nm 33) 15) (.ife (.cmp .Is (.nm 103) (.cst .none)) (.cst .none) (.tup (.cons (.cst (.int 4)) (.cons (.cst (.int 9)) (.cons (.cst (.int 0)) (.nil))))))) (.cons (.ret (.cst (.bool false))) (.nil)) (.nil)) (.cons (.asg (.nm 260) (.item (.attr (.nm 88) 19) (.item (.item (.attr (.nm 87) 171) (.cst (.str 256))) (.cst (.int 1))))) (.cons (.ret (.bop .And (.cons (.cmp .Eq (.tup (.cons (.attr (.nm 260) 9) (.cons (.attr (.nm 260) 8) (.cons (.attr (.nm 260) 10) (.nil))))) (.tup (.cons (.cst (.int 32)) (.cons (.cst (.str 179)) (.cons (.cst (.bool true)) (.nil)))))) (.cons (.cmp .Eq (.call 32 (.cons (.attr (.nm 88) 19) (.nil))) (.cst (.int 2))) (.nil))))) (.nil)))))))))))))))))))))))))))
noncomputable def f1643 : Fn := ⟨1643, [261], [], b1643, [261, 246, 245, 247, 248, 103, 249, 88, 87, 0, 89, 166, 253, 204, 255, 186, 257, 258, 259, 33, 260], [], [(240, .fn 1629), (241, .fn 1636), (242, .cl 169), (243, .cl 1362), (244, .cl 1618), (65, .cl 204), (32, .bi 0)], false⟩ -- law (stAt 201)
noncomputable def fnsT : Ft := (.node f1247 (.node f981 (.node f233 (.node f131 (.node f56 (.node f42 .nil .nil) (.node f124 .nil .nil)) (.node f188 (.node f138 .nil .nil) (.node f225 .nil .nil))) (.node f345 (.node f289 (.node f282 .nil .nil) (.node f317 .nil .nil)) (.node f764 (.node f388 .nil .nil) (.node f894 .nil .nil)))) (.node f1072 (.node f1009 (.node f995 (.node f988 .nil .nil) (.node f1002 .nil .nil)) (.node f1023 (.node f1016 .nil .nil) (.node f1065 .nil .nil))) (.node f1212 (.node f1135 (.node f1107 .nil .nil) (.node f1142 .nil .nil)) (.node f1240 (.node f1233 .nil .nil) .nil)))) (.node f1491 (.node f1331 (.node f1275 (.node f1261 (.node f1254 .nil .nil) (.node f1268 .nil .nil)) (.node f1303 (.node f1289 .nil .nil) (.node f1317 .nil .nil))) (.node f1408 (.node f1380 (.node f1373 .nil .nil) (.node f1394 .nil .nil)) (.node f1423 (.node f1415 .nil .nil) .nil))) (.node f1580 (.node f1531 (.node f1505 (.node f1498 .nil .nil) (.node f1517 .nil .nil)) (.node f1566 (.node f1538 .nil .nil) (.node f1573 .nil .nil))) (.node f1615 (.node f1601 (.node f1587 .nil .nil) (.node f1608 .nil .nil)) (.node f1636 .nil .nil)))))
noncomputable def clsT : List Cl := [c80, c169, c204, c369, c412, c1362, c1618]
noncomputable def catT : List (Nat × Nat × Nat) := [(250, 172, 262), (262, 251, 263), (262, 256, 264)]
noncomputable def nm (k : Nat) : Str := match nmT[k]? with
  | some x => x
  | none => ⟨(List.replicate (k + 100) 120).toArray⟩
end Mine
namespace Mine
open PySem PySem.W PySem.Calls PyProof.Rows
inductive VrP (nm : Nat → Str) : V → Value → Prop
  | none : VrP nm .none .none
  | fn (a) : VrP nm (.fn a) (.ref a)
  | cl (a) : VrP nm (.cl a) (.ref a)
  | bi (k) : VrP nm (.bi k) (.builtin (biN k))
  | ty (k) : VrP nm (.ty k) (.type (tyN k))
  | int (i t) : VrP nm (.int i) (.int i t)
  | str (k t) : VrP nm (.str k) (.str (nm k) t)
noncomputable def vrD (nm : Nat → Str) : (v : V) → (val : Value) → {b : Bool // b = true → VrP nm v val}
  | .none, .none => ⟨true, fun _ => .none⟩
  | .fn a, .ref b => ⟨Nat.beq a b, fun h => by cases Nat.eq_of_beq_eq_true h; exact .fn a⟩
  | .cl a, .ref b => ⟨Nat.beq a b, fun h => by cases Nat.eq_of_beq_eq_true h; exact .cl a⟩
  | .bi k, .builtin s => ⟨s == biN k, fun h => by cases eq_of_beq h; exact .bi k⟩
  | .ty k, .type s => ⟨s == tyN k, fun h => by cases eq_of_beq h; exact .ty k⟩
  | .int i, .int j t => ⟨i == j, fun h => by cases eq_of_beq h; exact .int i t⟩
  | .str k, .str s t => ⟨s == nm k, fun h => by cases eq_of_beq h; exact .str k t⟩
  | _, _ => ⟨false, fun h => nomatch h⟩
noncomputable def vrB (nm : Nat → Str) (v : V) (val : Value) : Bool := (vrD nm v val).1
noncomputable def glB (K : Frag) (nm : Nat → Str) (sc : Scope) (p : Nat × V) : Bool :=
  (match sc.names.lookup (nm p.1) with | some .globalImplicit => true | _ => false) &&
  (match nsIn K mainGlobals (nm p.1) with
    | some (some val) => vrB nm p.2 val
    | some none => (match bootBuiltins (nm p.1) with | some val => !(nm p.1 == ("__name__" : Str)) && vrB nm p.2 val | none => false)
    | none => false)
noncomputable def fnB (K : Frag) (nm : Nat → Str) (F : Fn) (sc : Scope) : Bool :=
  (match sc.kind with | .function => true | _ => false) &&
  (F.locs.all fun x => match sc.names.lookup (nm x) with | some .local => true | _ => false) &&
  (F.cel.all fun x => match sc.names.lookup (nm x) with | some .cell => true | _ => false) &&
  F.gl.all (glB K nm sc)
noncomputable def entB (K : Frag) (F : Fn) : Bool := match K.lookup F.addr with
  | some ⟨_, _, .func fd, _⟩ => fnB K nm F fd.scope
  | _ => false
noncomputable def entB2 (K : Frag) (F : Fn) : Bool := match K.lookup F.addr with
  | some ⟨_, _, .func fd, _⟩ => Nat.beq fd.globals mainGlobals && fd.closure.isEmpty && Nat.beq fd.builtins builtinsNs && !fd.scope.isCoroutine && !fd.scope.isGenerator && !F.bz && decide F.ps.Nodup && F.ps.all (fun x => F.locs.contains x || F.cel.contains x)
  | _ => false
noncomputable def entB3 (K : Frag) (F : Fn) : Bool := match K.lookup F.addr with
  | some ⟨_, _, .func fd, _⟩ => fd.params.posonlyargs.isEmpty && fd.params.kwonlyargs.isEmpty && fd.params.vararg.isNone && fd.params.kwarg.isNone && (match fd.defaults with | .none => true | _ => false) &&
     decide (fd.params.args.map (·.arg) = F.ps.map nm) && (fd.scope.names.all fun x => match x.2 with | .cell => false | _ => true)
  | _ => false
noncomputable def ftl : Ft → List Fn
  | .nil => []
  | .node f l r => ftl l ++ [f] ++ ftl r
end Mine
namespace Mine
open PySem PySem.W PySem.Calls PyProof.Rows
variable {g : Gx}
theorem vr_of {v : V} {val : Value} (h : vrB g.nm v val = true) : VR g [] v val := by
  cases (vrD g.nm v val).2 h with
  | none => rfl
  | fn => rfl
  | cl => rfl
  | bi => rfl
  | ty => rfl
  | int => exact ⟨_, rfl⟩
  | str => exact ⟨_, rfl⟩
theorem look_mem {l : En} {x : Nat} {v : V} (h : look l x = some v) : (x, v) ∈ l := by
  induction l with
  | nil => rw [look_nil] at h; cases h
  | cons p l ih =>
    obtain ⟨k, w⟩ := p
    rw [look_cons] at h
    by_cases q : k = x
    · subst q; simp only [if_true] at h; cases h; exact .head _
    · simp only [q, if_false] at h; exact .tail _ (ih h)
theorem fn_of {F : Fn} {sc : Scope} (db : ∀ x, (g.nm x == ("__debug__" : Str)) = false) (h : fnB g.K g.nm F sc = true) : FnOK g F sc := by
  unfold fnB at h
  simp only [Bool.and_eq_true, List.all_eq_true] at h
  obtain ⟨⟨⟨h1, h2⟩, h3⟩, h4⟩ := h
  refine ⟨?_, fun x hx => ?_, fun x hx => ?_, fun x v e => ?_, db⟩
  · split at h1
    · rename_i e; exact e
    · cases h1
  · have := h2 x hx
    split at this
    · rename_i e; exact e
    · cases this
  · have := h3 x hx
    split at this
    · rename_i e; exact e
    · cases this
  · have := h4 _ (look_mem e)
    unfold glB at this
    simp only [Bool.and_eq_true] at this
    obtain ⟨a, b⟩ := this
    refine ⟨?_, ?_⟩
    · split at a
      · rename_i e; exact e
      · cases a
    · split at b
      · rename_i val e
        exact .inl ⟨val, e, vr_of b⟩
      · rename_i e
        split at b
        · rename_i val e'
          simp only [Bool.and_eq_true, Bool.not_eq_true'] at b
          exact .inr ⟨val, e, e', by simpa using b.1, vr_of b.2⟩
        · cases b
      · cases b
end Mine
namespace Mine
open PySem PySem.W PySem.Calls PyProof.Rows
noncomputable def encS (s : Str) : Nat := s.cps.toList.foldl (fun a c => a * 1114112 + c + 1) 0
noncomputable def hasN (x : Nat) (l : List Nat) : Bool := l.any (Nat.beq x)
noncomputable def nodupN : List Nat → Bool
  | [] => true
  | x :: l => !(hasN x l) && nodupN l
theorem nodupN_of : ∀ {l : List Nat}, nodupN l = true → l.Nodup
  | [], _ => .nil
  | x :: l, h => by
    unfold nodupN at h
    simp only [Bool.and_eq_true, Bool.not_eq_true'] at h
    refine List.nodup_cons.mpr ⟨fun m => ?_, nodupN_of h.2⟩
    have : hasN x l = true := List.any_eq_true.mpr ⟨x, m, Nat.beq_refl x⟩
    rw [this] at h; cases h.1
noncomputable def nmB : Bool := nodupN (nmT.map encS) && nmT.all (fun s => Nat.blt s.cps.size 100 && s.cps.all (fun c => Nat.blt c 1114112) && !(s == ("__debug__" : Str)))
theorem nmB_ok : nmB = true := by kernel_rfl
theorem nm_in {k : Nat} {x : Str} (h : nmT[k]? = some x) : nm k = x := by unfold nm; rw [h]
theorem nm_out {k : Nat} (h : nmT[k]? = none) : nm k = ⟨(List.replicate (k + 100) 120).toArray⟩ := by unfold nm; rw [h]
theorem nm_facts : (nmT.map encS).Nodup ∧ ∀ s ∈ nmT, s.cps.size < 100 ∧ PyData.strOk s = true ∧ (s == ("__debug__" : Str)) = false := by
  have h := nmB_ok
  unfold nmB at h
  rw [Bool.and_eq_true] at h
  refine ⟨nodupN_of h.1, fun s hs => ?_⟩
  have := List.all_eq_true.mp h.2 s hs
  simp only [Bool.and_eq_true, Bool.not_eq_true'] at this
  refine ⟨Nat.lt_of_lt_of_le (by simpa [Nat.blt_eq] using this.1.1) (Nat.le_refl _), ?_, this.2⟩
  have h2 := this.1.2
  unfold PyData.strOk
  simpa [Nat.blt_eq] using h2
theorem nm_inj (i j : Nat) (h : nm i = nm j) : i = j := by
  cases ei : nmT[i]? with
  | none =>
    cases ej : nmT[j]? with
    | none =>
      rw [nm_out ei, nm_out ej] at h
      have := congrArg (fun s : Str => s.cps.size) h
      simp at this
      exact this
    | some y =>
      rw [nm_out ei, nm_in ej] at h
      have := (nm_facts.2 y (List.mem_of_getElem? ej)).1
      rw [← h] at this
      simp at this
      omega
  | some x =>
    cases ej : nmT[j]? with
    | none =>
      rw [nm_in ei, nm_out ej] at h
      have := (nm_facts.2 x (List.mem_of_getElem? ei)).1
      rw [h] at this
      simp at this
      omega
    | some y =>
      rw [nm_in ei, nm_in ej] at h
      subst h
      obtain ⟨li, ei'⟩ := List.getElem?_eq_some_iff.mp ei
      obtain ⟨lj, ej'⟩ := List.getElem?_eq_some_iff.mp ej
      have nd := nm_facts.1
      have li' : i < (nmT.map encS).length := by simpa using li
      have lj' : j < (nmT.map encS).length := by simpa using lj
      have pw := List.pairwise_iff_getElem.mp nd
      rcases Nat.lt_trichotomy i j with lt | e | lt
      · exact (pw i j li' lj' lt (by simp [ei', ej'])).elim
      · exact e
      · exact (pw j i lj' li' lt (by simp [ei', ej'])).elim
theorem nm_cps (i : Nat) : PyData.strOk (nm i) = true := by
  cases ei : nmT[i]? with
  | none =>
    rw [nm_out ei]
    unfold PyData.strOk
    rw [Array.all_eq_true]
    intro k hk
    simp
  | some x => rw [nm_in ei]; exact (nm_facts.2 x (List.mem_of_getElem? ei)).2.1
theorem nm_dbg (i : Nat) : (nm i == ("__debug__" : Str)) = false := by
  cases ei : nmT[i]? with
  | none =>
    rw [nm_out ei]
    have : (⟨(List.replicate (i + 100) 120).toArray⟩ : Str) ≠ ("__debug__" : Str) := by
      intro h
      have := congrArg (fun s : Str => s.cps.size) h
      have e : ("__debug__" : Str).cps.size = 9 := by kernel_rfl
      rw [e] at this
      simp at this
    simpa using this
  | some x => rw [nm_in ei]; exact (nm_facts.2 x (List.mem_of_getElem? ei)).2.2
end Mine
namespace Mine
open PySem PySem.W PySem.Calls PyProof.Rows
variable {g : Gx}
theorem zip_kr {W : Wd} : ∀ {ps : List Nat} {l : List V} {en : En} {vals : List Value}, zipE ps l = some en → VRs g W l vals → vals.length = ps.length ∧ F2 (KR g W) en ((ps.map g.nm).zip vals)
  | [], [], en, vals, h, r => by
    cases h
    cases r
    exact ⟨rfl, .nil⟩
  | [], _ :: _, en, vals, h, r => by cases h
  | _ :: _, [], en, vals, h, r => by cases h
  | x :: xs, v :: vs, en, vals, h, r => by
    unfold zipE at h
    cases r with
    | @cons _ val _ vals a r =>
      split at h
      · rename_i l e
        cases h
        obtain ⟨h1, h2⟩ := zip_kr e r
        exact ⟨by simp [h1], .cons ⟨rfl, a⟩ h2⟩
      · cases h
noncomputable def agFB (F : Fn) (fd : FuncData) : Bool := match fd.body with
    | .stmts b => (agSsD nm F.body b).1
    | _ => false
noncomputable def parB (F : Fn) (fd : FuncData) : Bool := fd.params.posonlyargs.isEmpty && fd.params.kwonlyargs.isEmpty && fd.params.vararg.isNone && fd.params.kwarg.isNone && (match fd.defaults with | .none => true | _ => false) &&
     decide (fd.params.args.map (·.arg) = F.ps.map nm) && F.dfl.isEmpty
noncomputable def cellB (F : Fn) (fd : FuncData) : Bool := (fd.scope.names.all fun x => match x.2 with | .cell => false | _ => true) && F.cel.isEmpty && F.ps.all (fun x => hasN x F.locs)
noncomputable def sysB (K : Frag) (F : Fn) (fd : FuncData) : Bool := Nat.beq fd.globals mainGlobals && fd.closure.isEmpty && Nat.beq fd.builtins builtinsNs && codeIn K fd.code fd.qualname && !fd.scope.isCoroutine && !fd.scope.isGenerator && !F.bz && nodupN F.ps && !Nat.beq F.addr 1643 && keepIn K (.ref F.addr)
noncomputable def entA (K : Frag) (F : Fn) : Bool := match K.lookup F.addr with
  | some ⟨_, _, .func fd, _⟩ => agFB F fd && fnB K nm F fd.scope && sysB K F fd
  | _ => false
noncomputable def entP (K : Frag) (F : Fn) : Bool := match K.lookup F.addr with
  | some ⟨_, _, .func fd, _⟩ => parB F fd && cellB F fd
  | _ => false
theorem hasN_of {x : Nat} {l : List Nat} (h : hasN x l = true) : x ∈ l := by
  obtain ⟨y, m, e⟩ := List.any_eq_true.mp h
  rw [Nat.eq_of_beq_eq_true e]; exact m
noncomputable def Kind (g : Gx) (F : Fn) (fd : FuncData) : Prop := (F.cel = [] ∧ (∀ x ∈ fd.scope.names, x.2 ≠ .cell) ∧ (∀ x ∈ F.ps, x ∈ F.locs) ∧
      ∀ W l en vals S, binds F l = some en → VRs g W l vals → g.K.In S.heap → ∃ bs, BindsTo S fd ⟨vals, []⟩ bs ∧ F2 (KR g W) en bs) ∨
    ((∀ x ∈ F.ps, x ∈ F.locs ∨ x ∈ F.cel) ∧ (∀ x ∈ F.cel, ∀ L, ((cellsFrom (L + 1) fd.scope.names []).lookup (g.nm x)).isSome = true) ∧ (∀ L, ((cellsFrom (L + 1) fd.scope.names []).map (·.1)).Nodup) ∧
      ∀ W l en vals, binds F l = some en → VRs g W l vals → ∃ bs, bindArgs fd ⟨vals, []⟩ = pure bs ∧ F2 (KR g W) en bs)
theorem ent_A (hn : g.nm = nm) (hl : g.lawA = 1643) {F : Fn} (h : entA g.K F = true) : keepIn g.K (.ref F.addr) = true ∧
    ∃ oc od osl fd body, g.K.lookup F.addr = some ⟨oc, od, .func fd, osl⟩ ∧ (Kind g F fd → EntOK g F fd body) := by
  unfold entA at h
  split at h
  · rename_i oc od fd osl e
    simp only [Bool.and_eq_true] at h
    obtain ⟨⟨h1, h2⟩, h3⟩ := h
    unfold sysB at h3
    simp only [Bool.and_eq_true, Bool.not_eq_true'] at h3
    obtain ⟨⟨⟨⟨⟨⟨⟨⟨⟨a1, a2⟩, a3⟩, a4⟩, a5⟩, a6⟩, a7⟩, a8⟩, a9⟩, a10⟩ := h3
    unfold agFB at h1
    split at h1
    · rename_i b eb
      refine ⟨a10, oc, od, osl, fd, b, e, fun kd => ?_⟩
      refine ⟨eb, Nat.eq_of_beq_eq_true a1, List.isEmpty_iff.mp a2, Nat.eq_of_beq_eq_true a3, a4, a5, a6, fn_of (by rw [hn]; exact nm_dbg) (by rw [hn]; exact h2), by rw [hn]; exact agSsD_ok h1, a7, ?_, nodupN_of a8, kd⟩
      intro q
      rw [hl] at q
      rw [q] at a9
      cases a9
    · cases h1
  · cases h
theorem kind_P (hn : g.nm = nm) {F : Fn} {fd : FuncData} {oc od osl} (e : g.K.lookup F.addr = some ⟨oc, od, .func fd, osl⟩) (hA : entA g.K F = true) (h : entP g.K F = true) : Kind g F fd := by
  unfold entP at h
  rw [e] at h
  unfold entA at hA
  rw [e] at hA
  simp only [Bool.and_eq_true] at h hA
  obtain ⟨h1, h2⟩ := h
  unfold cellB at h2
  simp only [Bool.and_eq_true, List.all_eq_true] at h2
  obtain ⟨⟨c1, c2⟩, c3⟩ := h2
  unfold parB at h1
  simp only [Bool.and_eq_true] at h1
  obtain ⟨⟨⟨⟨⟨⟨p1, p2⟩, p3⟩, p4⟩, p5⟩, p6⟩, p7⟩ := h1
  have p6 := of_decide_eq_true p6
  have nd : F.ps.Nodup := by
    have := hA.2
    unfold sysB at this
    simp only [Bool.and_eq_true] at this
    exact nodupN_of this.1.1.2
  refine .inl ⟨List.isEmpty_iff.mp c2, fun x hx q => ?_, fun x hx => hasN_of (c3 x hx), fun W l en vals S hb rv X => ?_⟩
  · have := c1 x hx
    rw [q] at this
    cases this
  · unfold binds at hb
    rw [List.isEmpty_iff.mp p7] at hb
    obtain ⟨hlen, hk⟩ := zip_kr hb rv
    have d0 : fd.defaults = .none := by
      split at p5
      · rename_i q; exact q
      · cases p5
    refine ⟨_, BindsTo.of_eq (bind_plain (List.isEmpty_iff.mp p1) (List.isEmpty_iff.mp p2) (Option.isNone_iff_eq_none.mp p3) (Option.isNone_iff_eq_none.mp p4) d0 ?_ ?_), ?_⟩
    · rw [p6, ← hn]
      have inj : ∀ i j, g.nm i = g.nm j → i = j := by rw [hn]; exact nm_inj
      exact List.Pairwise.map _ (fun a b ne q => ne (inj _ _ q)) nd
    · rw [p6]; simpa using hlen
    · rw [p6, ← hn]; exact hk
theorem findFn_mem {t : Ft} {a : Addr} {F : Fn} (h : findFn t a = some F) : F ∈ ftl t ∧ F.addr = a := by
  induction t with
  | nil => cases h
  | node f l r ihl ihr =>
    have e : findFn (.node f l r) a = @Bool.rec (fun _ => Option Fn) (@Bool.rec (fun _ => Option Fn) (findFn r a) (findFn l a) (Nat.blt a f.addr)) (some f) (Nat.beq f.addr a) := rfl
    rw [e] at h
    unfold ftl
    cases hx : Nat.beq f.addr a with
    | true => rw [hx] at h; cases h; exact ⟨by simp, Nat.eq_of_beq_eq_true hx⟩
    | false =>
      rw [hx] at h
      cases hy : Nat.blt a f.addr with
      | true => rw [hy] at h; obtain ⟨m, q⟩ := ihl h; exact ⟨by simp [m], q⟩
      | false => rw [hy] at h; obtain ⟨m, q⟩ := ihr h; exact ⟨by simp [m], q⟩
theorem all_A (w : World) : (ftl fnsT).all (fun F => entA (KF w.params) F) = true := by kernel_rfl
theorem all_P (w : World) : (ftl fnsT).all (fun F => hasN F.addr [188, 233, 388, 764, 1423] || entP (KF w.params) F) = true := by kernel_rfl
end Mine
namespace Mine
open PySem PySem.W PySem.Calls PyProof.Rows
noncomputable def fdAt (K : Frag) (a : Addr) : FuncData := match K.lookup a with
  | some ⟨_, _, .func fd, _⟩ => fd
  | _ => default
theorem bnd_188_2 (w : World) (S' : Setting) (v0 v1 : Value) : peek (KF w.params) S' (bindArgs (fdAt (KF w.params) 188) ⟨[v0, v1], []⟩) = some [(nm 5, v0), (nm 8, v1), (nm 16, .int (-1) 456), (nm 36, .str (S "") 457)] := by kernel_rfl
theorem bnd_188_3 (w : World) (S' : Setting) (v0 v1 v2 : Value) : peek (KF w.params) S' (bindArgs (fdAt (KF w.params) 188) ⟨[v0, v1, v2], []⟩) = some [(nm 5, v0), (nm 8, v1), (nm 16, v2), (nm 36, .str (S "") 457)] := by kernel_rfl
theorem bnd_188_4 (w : World) (S' : Setting) (v0 v1 v2 v3 : Value) : peek (KF w.params) S' (bindArgs (fdAt (KF w.params) 188) ⟨[v0, v1, v2, v3], []⟩) = some [(nm 5, v0), (nm 8, v1), (nm 16, v2), (nm 36, v3)] := by kernel_rfl
theorem bnd_233_2 (w : World) (S' : Setting) (v0 v1 : Value) : peek (KF w.params) S' (bindArgs (fdAt (KF w.params) 233) ⟨[v0, v1], []⟩) = some [(nm 38, v0), (nm 41, v1), (nm 42, .int 0 520)] := by kernel_rfl
theorem bnd_233_3 (w : World) (S' : Setting) (v0 v1 v2 : Value) : peek (KF w.params) S' (bindArgs (fdAt (KF w.params) 233) ⟨[v0, v1, v2], []⟩) = some [(nm 38, v0), (nm 41, v1), (nm 42, v2)] := by kernel_rfl
theorem bnd_388_3 (w : World) (S' : Setting) (v0 v1 v2 : Value) : peek (KF w.params) S' (bindArgs (fdAt (KF w.params) 388) ⟨[v0, v1, v2], []⟩) = some [(nm 5, v0), (nm 52, v1), (nm 53, v2), (nm 54, .int 0 745)] := by kernel_rfl
theorem bnd_388_4 (w : World) (S' : Setting) (v0 v1 v2 v3 : Value) : peek (KF w.params) S' (bindArgs (fdAt (KF w.params) 388) ⟨[v0, v1, v2, v3], []⟩) = some [(nm 5, v0), (nm 52, v1), (nm 53, v2), (nm 54, v3)] := by kernel_rfl
theorem bnd_1423_2 (w : World) (S' : Setting) (v0 v1 : Value) : peek (KF w.params) S' (bindArgs (fdAt (KF w.params) 1423) ⟨[v0, v1], []⟩) = some [(nm 87, v0), (nm 189, v1), (nm 190, .none)] := by kernel_rfl
theorem bnd_1423_3 (w : World) (S' : Setting) (v0 v1 v2 : Value) : peek (KF w.params) S' (bindArgs (fdAt (KF w.params) 1423) ⟨[v0, v1, v2], []⟩) = some [(nm 87, v0), (nm 189, v1), (nm 190, v2)] := by kernel_rfl
end Mine
namespace Mine
open PySem PySem.W PySem.Calls PyProof.Rows
noncomputable def cellsP (F : Fn) (fd : FuncData) : Bool := cellB F fd
noncomputable def entC (K : Frag) (F : Fn) : Bool := match K.lookup F.addr with
  | some ⟨_, _, .func fd, _⟩ => cellB F fd
  | _ => false
theorem c188 (w : World) : entC (KF w.params) f188 = true := by kernel_rfl
theorem c233 (w : World) : entC (KF w.params) f233 = true := by kernel_rfl
theorem c388 (w : World) : entC (KF w.params) f388 = true := by kernel_rfl
theorem c1423 (w : World) : entC (KF w.params) f1423 = true := by kernel_rfl
noncomputable def cel764 (K : Frag) : Bool := match K.lookup 764 with
  | some ⟨_, _, .func fd, _⟩ => decide (fd.scope.names.filterMap (fun x => match x.2 with | .cell => some x.1 | _ => none) = [nm 70]) && decide (fd.params.args.map (·.arg) = [nm 67, nm 70]) && fd.params.posonlyargs.isEmpty && fd.params.kwonlyargs.isEmpty && fd.params.vararg.isNone && fd.params.kwarg.isNone && (match fd.defaults with | .none => true | _ => false)
  | _ => false
theorem c764 (w : World) : cel764 (KF w.params) = true := by kernel_rfl
end Mine
namespace Mine
open PySem PySem.W PySem.Calls PyProof.Rows
variable {g : Gx}
theorem fdAt_of {K : Frag} {a : Addr} {fd : FuncData} {oc od osl} (e : K.lookup a = some ⟨oc, od, .func fd, osl⟩) : fdAt K a = fd := by unfold fdAt; rw [e]
theorem kind_C {F : Fn} {fd : FuncData} {oc od osl} (e : g.K.lookup F.addr = some ⟨oc, od, .func fd, osl⟩) (h : entC g.K F = true)
    (hB : ∀ W l en vals S, binds F l = some en → VRs g W l vals → g.K.In S.heap → ∃ bs, BindsTo S fd ⟨vals, []⟩ bs ∧ F2 (KR g W) en bs) : Kind g F fd := by
  unfold entC at h
  rw [e] at h
  have h2 : cellB F fd = true := h
  unfold cellB at h2
  simp only [Bool.and_eq_true, List.all_eq_true] at h2
  obtain ⟨⟨c1, c2⟩, c3⟩ := h2
  refine .inl ⟨List.isEmpty_iff.mp c2, fun x hx q => ?_, fun x hx => hasN_of (c3 x hx), hB⟩
  have := c1 x hx
  rw [q] at this
  cases this
theorem bd_188 (hn : g.nm = nm) (hK : g.K = KF g.w.params) : ∀ W l en vals S, binds f188 l = some en → VRs g W l vals → g.K.In S.heap → ∃ bs, BindsTo S (fdAt g.K 188) ⟨vals, []⟩ bs ∧ F2 (KR g W) en bs := by
  intro W l en vals S hb rv X
  rw [hK] at X ⊢
  change F2 (VR g W) l vals at rv
  cases rv with
  | nil => cases hb
  | cons r0 rv =>
  cases rv with
  | nil => cases hb
  | cons r1 rv =>
  cases rv with
  | nil => cases hb; exact ⟨_, kp_binds X fun _ => bnd_188_2 _ _ _ _, .cons ⟨by rw [hn], r0⟩ (.cons ⟨by rw [hn], r1⟩ (.cons ⟨by rw [hn], ⟨_, rfl⟩⟩ (.cons ⟨by rw [hn], ⟨_, by rw [hn]; rfl⟩⟩ (.nil))))⟩
  | cons r2 rv =>
  cases rv with
  | nil => cases hb; exact ⟨_, kp_binds X fun _ => bnd_188_3 _ _ _ _ _, .cons ⟨by rw [hn], r0⟩ (.cons ⟨by rw [hn], r1⟩ (.cons ⟨by rw [hn], r2⟩ (.cons ⟨by rw [hn], ⟨_, by rw [hn]; rfl⟩⟩ (.nil))))⟩
  | cons r3 rv =>
  cases rv with
  | nil => cases hb; exact ⟨_, kp_binds X fun _ => bnd_188_4 _ _ _ _ _ _, .cons ⟨by rw [hn], r0⟩ (.cons ⟨by rw [hn], r1⟩ (.cons ⟨by rw [hn], r2⟩ (.cons ⟨by rw [hn], r3⟩ (.nil))))⟩
  | cons r4 rv =>
  cases hb
theorem bd_233 (hn : g.nm = nm) (hK : g.K = KF g.w.params) : ∀ W l en vals S, binds f233 l = some en → VRs g W l vals → g.K.In S.heap → ∃ bs, BindsTo S (fdAt g.K 233) ⟨vals, []⟩ bs ∧ F2 (KR g W) en bs := by
  intro W l en vals S hb rv X
  rw [hK] at X ⊢
  change F2 (VR g W) l vals at rv
  cases rv with
  | nil => cases hb
  | cons r0 rv =>
  cases rv with
  | nil => cases hb
  | cons r1 rv =>
  cases rv with
  | nil => cases hb; exact ⟨_, kp_binds X fun _ => bnd_233_2 _ _ _ _, .cons ⟨by rw [hn], r0⟩ (.cons ⟨by rw [hn], r1⟩ (.cons ⟨by rw [hn], ⟨_, rfl⟩⟩ (.nil)))⟩
  | cons r2 rv =>
  cases rv with
  | nil => cases hb; exact ⟨_, kp_binds X fun _ => bnd_233_3 _ _ _ _ _, .cons ⟨by rw [hn], r0⟩ (.cons ⟨by rw [hn], r1⟩ (.cons ⟨by rw [hn], r2⟩ (.nil)))⟩
  | cons r3 rv =>
  cases hb
theorem bd_388 (hn : g.nm = nm) (hK : g.K = KF g.w.params) : ∀ W l en vals S, binds f388 l = some en → VRs g W l vals → g.K.In S.heap → ∃ bs, BindsTo S (fdAt g.K 388) ⟨vals, []⟩ bs ∧ F2 (KR g W) en bs := by
  intro W l en vals S hb rv X
  rw [hK] at X ⊢
  change F2 (VR g W) l vals at rv
  cases rv with
  | nil => cases hb
  | cons r0 rv =>
  cases rv with
  | nil => cases hb
  | cons r1 rv =>
  cases rv with
  | nil => cases hb
  | cons r2 rv =>
  cases rv with
  | nil => cases hb; exact ⟨_, kp_binds X fun _ => bnd_388_3 _ _ _ _ _, .cons ⟨by rw [hn], r0⟩ (.cons ⟨by rw [hn], r1⟩ (.cons ⟨by rw [hn], r2⟩ (.cons ⟨by rw [hn], ⟨_, rfl⟩⟩ (.nil))))⟩
  | cons r3 rv =>
  cases rv with
  | nil => cases hb; exact ⟨_, kp_binds X fun _ => bnd_388_4 _ _ _ _ _ _, .cons ⟨by rw [hn], r0⟩ (.cons ⟨by rw [hn], r1⟩ (.cons ⟨by rw [hn], r2⟩ (.cons ⟨by rw [hn], r3⟩ (.nil))))⟩
  | cons r4 rv =>
  cases hb
theorem bd_1423 (hn : g.nm = nm) (hK : g.K = KF g.w.params) : ∀ W l en vals S, binds f1423 l = some en → VRs g W l vals → g.K.In S.heap → ∃ bs, BindsTo S (fdAt g.K 1423) ⟨vals, []⟩ bs ∧ F2 (KR g W) en bs := by
  intro W l en vals S hb rv X
  rw [hK] at X ⊢
  change F2 (VR g W) l vals at rv
  cases rv with
  | nil => cases hb
  | cons r0 rv =>
  cases rv with
  | nil => cases hb
  | cons r1 rv =>
  cases rv with
  | nil => cases hb; exact ⟨_, kp_binds X fun _ => bnd_1423_2 _ _ _ _, .cons ⟨by rw [hn], r0⟩ (.cons ⟨by rw [hn], r1⟩ (.cons ⟨by rw [hn], rfl⟩ (.nil)))⟩
  | cons r2 rv =>
  cases rv with
  | nil => cases hb; exact ⟨_, kp_binds X fun _ => bnd_1423_3 _ _ _ _ _, .cons ⟨by rw [hn], r0⟩ (.cons ⟨by rw [hn], r1⟩ (.cons ⟨by rw [hn], r2⟩ (.nil)))⟩
  | cons r3 rv =>
  cases hb
end Mine
namespace Mine
open PySem PySem.W PySem.Calls PyProof.Rows
variable {g : Gx}
theorem tab_ent (hn : g.nm = nm) (hl : g.lawA = 1643) (hK : g.K = KF g.w.params) (k764 : ∀ fd oc od osl, g.K.lookup 764 = some ⟨oc, od, .func fd, osl⟩ → Kind g f764 fd) (a : Addr) (F : Fn) (h : findFn fnsT a = some F) :
    F.addr = a ∧ keepIn g.K (.ref a) = true ∧ ∃ oc od osl fd body, g.K.lookup F.addr = some ⟨oc, od, .func fd, osl⟩ ∧ EntOK g F fd body := by
  obtain ⟨m, e⟩ := findFn_mem h
  have hA : entA g.K F = true := by rw [hK]; exact List.all_eq_true.mp (all_A g.w) F m
  have hP := List.all_eq_true.mp (all_P g.w) F m
  rw [← hK] at hP
  obtain ⟨kp, oc, od, osl, fd, body, el, mk⟩ := ent_A hn hl hA
  refine ⟨e, e ▸ kp, oc, od, osl, fd, body, el, mk ?_⟩
  rcases Bool.or_eq_true _ _ |>.mp hP with q | q
  · have q := hasN_of q
    rw [e] at q
    have f1 : findFn fnsT 188 = some f188 := by kernel_rfl
    have f2 : findFn fnsT 233 = some f233 := by kernel_rfl
    have f3 : findFn fnsT 388 = some f388 := by kernel_rfl
    have f4 : findFn fnsT 764 = some f764 := by kernel_rfl
    have f5 : findFn fnsT 1423 = some f1423 := by kernel_rfl
    simp only [List.mem_cons, List.not_mem_nil, or_false] at q
    rcases q with q | q | q | q | q
    · subst q; rw [f1] at h; cases h
      exact kind_C el (by rw [hK]; exact c188 g.w) (fdAt_of el ▸ bd_188 hn hK)
    · subst q; rw [f2] at h; cases h
      exact kind_C el (by rw [hK]; exact c233 g.w) (fdAt_of el ▸ bd_233 hn hK)
    · subst q; rw [f3] at h; cases h
      exact kind_C el (by rw [hK]; exact c388 g.w) (fdAt_of el ▸ bd_388 hn hK)
    · subst q; rw [f4] at h; cases h
      exact k764 _ _ _ _ el
    · subst q; rw [f5] at h; cases h
      exact kind_C el (by rw [hK]; exact c1423 g.w) (fdAt_of el ▸ bd_1423 hn hK)
  · exact kind_P hn el hA q
end Mine
namespace Mine
open PySem PySem.W PySem.Calls PyProof.Rows
theorem nmok : nm 1 = "pop" ∧ nm 2 = "append" ∧ nm 3 = "extend" ∧ nm 4 = "get" := ⟨by kernel_rfl, by kernel_rfl, by kernel_rfl, by kernel_rfl⟩
noncomputable def mkB (K : Frag) (cl : Cl) : Bool := keepIn K (.ref cl.addr) && makesIn K cl.addr && findIn K (.ref cl.addr) "__init__" == some (some (.ref cl.init)) && typeIn K (.ref cl.init) == some (.type "function")
theorem mk_all (w : World) : clsT.all (fun cl => Nat.beq cl.addr 204 || mkB (KF w.params) cl) = true := by kernel_rfl
theorem cat_a (w : World) : (clsIn (KF w.params) 204).isSome = true := by kernel_rfl
theorem cat_b (w : World) : instIn (KF w.params) (.ref 204) (.type "tuple") = some false := by kernel_rfl
theorem cat_c (w : World) : subIn (KF w.params) (.ref 204) (.type "BaseException") = some true := by kernel_rfl
theorem cat_d (w : World) : subIn (KF w.params) (.ref 204) (.ref 204) = some true := by kernel_rfl
end Mine
namespace Mine
open PySem PySem.W PySem.Calls PyProof.Rows
noncomputable def getB (K : Frag) (C : Addr) (x : Nat) : Bool := plainGet K C (nm x) && hasDictIn K C && (match findIn K (.ref C) (nm x) with | some attr => noGet K attr | none => false)
noncomputable def atB (K : Frag) (C : Addr) (x : Nat) : Bool := (match takerIn K C (nm x) with | some none => true | _ => false) && getB K C x
noncomputable def meB (K : Frag) (C : Addr) (p : Nat × Addr) : Bool := findIn K (.ref C) (nm p.1) == some (some (.ref p.2)) && typeIn K (.ref p.2) == some (.type "function") && findIn K (.ref C) "__getattribute__" == some (some (.builtin "object.__getattribute__")) && findIn K (.ref C) "__getattr__" == some none
noncomputable def clB (K : Frag) (cl : Cl) : Bool := findIn K (.ref cl.addr) "__setattr__" == some (some (.builtin "object.__setattr__")) &&
  (if Nat.beq cl.addr 204 then cl.meths.isEmpty else plainOver K cl.addr && hasDictIn K cl.addr && cl.attrs.all (atB K cl.addr) && cl.meths.all (meB K cl.addr))
theorem cl_all (w : World) : clsT.all (fun cl => clB (KF w.params) cl) = true := by kernel_rfl
end Mine
namespace Mine
open PySem PySem.W PySem.Calls PyProof.Rows
variable {g : Gx} {G : Cfg}
theorem findCl_mem {l : List Cl} {a : Addr} {c : Cl} (h : findCl l a = some c) : c ∈ l ∧ c.addr = a := by
  induction l with
  | nil => cases h
  | cons x l ih =>
    have e : findCl (x :: l) a = @Bool.rec (fun _ => Option Cl) (findCl l a) (some x) (Nat.beq x.addr a) := rfl
    rw [e] at h
    cases hx : Nat.beq x.addr a with
    | true => rw [hx] at h; cases h; exact ⟨.head _, Nat.eq_of_beq_eq_true hx⟩
    | false => rw [hx] at h; obtain ⟨m, q⟩ := ih h; exact ⟨.tail _ m, q⟩
theorem cl_ok (hn : g.nm = nm) (hx : ∀ C, g.isX C = Nat.beq C 204) {cl : Cl} (h : clB g.K cl = true) : ClOK g cl := by
  unfold clB at h
  rw [Bool.and_eq_true] at h
  obtain ⟨h1, h2⟩ := h
  refine ⟨fun q => ?_, by simpa using h1, fun q => ?_, fun q x hxx => ?_, fun q p hp => ?_⟩
  · rw [hx] at q; rw [if_pos q] at h2; exact List.isEmpty_iff.mp h2
  all_goals
    rw [hx] at q
    rw [if_neg (by rw [q]; decide)] at h2
    simp only [Bool.and_eq_true, List.all_eq_true] at h2
    obtain ⟨⟨⟨a1, a2⟩, a3⟩, a4⟩ := h2
  · exact ⟨a1, a2⟩
  · have := a3 x hxx
    unfold atB getB at this
    simp only [Bool.and_eq_true] at this
    obtain ⟨b1, ⟨b2, b3⟩, b4⟩ := this
    have gk : GetOK g cl.addr x := by
      unfold GetOK
      rw [hn]
      refine ⟨b2, b3, ?_⟩
      split at b4
      · rename_i at' e; exact ⟨at', e, b4⟩
      · cases b4
    refine ⟨?_, gk⟩
    rw [hn]
    split at b1
    · rename_i e; exact e
    · cases b1
  · have := a4 p hp
    unfold meB at this
    simp only [Bool.and_eq_true, beq_iff_eq] at this
    obtain ⟨⟨⟨b1, b2⟩, b3⟩, b4⟩ := this
    rw [hn]
    exact ⟨b1, b2, b3, b4⟩
end Mine
namespace Mine
open PySem PySem.W PySem.Calls PyProof.Rows
variable {g : Gx} {G : Cfg}
theorem cls_ok (hn : g.nm = nm) (hK : g.K = KF g.w.params) (hx : ∀ C, g.isX C = Nat.beq C 204) (hc : G.cls = clsT) : ∀ C cl, findCl G.cls C = some cl → cl.addr = C ∧ ClOK g cl := by
  intro C cl h
  rw [hc] at h
  obtain ⟨m, e⟩ := findCl_mem h
  exact ⟨e, cl_ok hn hx (by rw [hK]; exact List.all_eq_true.mp (cl_all g.w) cl m)⟩
theorem do_ok (hK : g.K = KF g.w.params) (hx : ∀ C, g.isX C = Nat.beq C 204) (hc : G.cls = clsT) (he : G.exc = 204) : DoOK g G := by
  refine ⟨fun a cl h n => ?_⟩
  rw [hc] at h
  rw [he] at n
  obtain ⟨m, e⟩ := findCl_mem h
  have q := List.all_eq_true.mp (mk_all g.w) cl m
  rw [← hK, e, n, Bool.false_or] at q
  unfold mkB at q
  simp only [Bool.and_eq_true, beq_iff_eq] at q
  obtain ⟨⟨⟨b1, b2⟩, b3⟩, b4⟩ := q
  exact ⟨b1, b2, b3, b4, by rw [hx, e]; exact n⟩
theorem nm_ok (hn : g.nm = nm) : NmOK g := ⟨by rw [hn]; exact nmok.1, by rw [hn]; exact nmok.2.1, by rw [hn]; exact nmok.2.2.1, by rw [hn]; exact nmok.2.2.2⟩
theorem cat_ok (hK : g.K = KF g.w.params) (he : G.exc = 204) : CatOK g G := ⟨by rw [hK, he]; exact cat_a _, by rw [hK, he]; exact cat_b _, by rw [hK, he]; exact cat_c _, by rw [hK, he]; exact cat_d _⟩
end Mine
namespace Mine
open PySem PySem.W PySem.Calls PyProof.Rows
variable {g : Gx} {G : Cfg}
theorem cf764 (w : World) (L : Nat) : (cellsFrom (L + 1) (fdAt (KF w.params) 764).scope.names []).map (·.1) = [nm 70] := by kernel_rfl
theorem cg764 (w : World) (L : Nat) : ((cellsFrom (L + 1) (fdAt (KF w.params) 764).scope.names []).lookup (nm 70)).isSome = true := by kernel_rfl
theorem k764 (hn : g.nm = nm) (hK : g.K = KF g.w.params) : ∀ fd oc od osl, g.K.lookup 764 = some ⟨oc, od, .func fd, osl⟩ → Kind g f764 fd := by
  intro fd oc od osl e
  have h := c764 g.w
  rw [← hK] at h
  unfold cel764 at h
  rw [e] at h
  have h : (decide (fd.scope.names.filterMap (fun x => match x.2 with | .cell => some x.1 | _ => none) = [nm 70]) && decide (fd.params.args.map (·.arg) = [nm 67, nm 70]) && fd.params.posonlyargs.isEmpty && fd.params.kwonlyargs.isEmpty && fd.params.vararg.isNone && fd.params.kwarg.isNone && (match fd.defaults with | .none => true | _ => false)) = true := h
  simp only [Bool.and_eq_true] at h
  obtain ⟨⟨⟨⟨⟨⟨h0, p6⟩, p1⟩, p2⟩, p3⟩, p4⟩, p5⟩ := h
  have p6 := of_decide_eq_true p6
  have ef : fdAt (KF g.w.params) 764 = fd := by rw [← hK]; exact fdAt_of e
  have d0 : fd.defaults = .none := by
    split at p5
    · rename_i q; exact q
    · cases p5
  refine .inr ⟨fun x hx => ?_, fun x hx L => ?_, fun L => ?_, fun W l en vals hb rv => ?_⟩
  · have : x = 67 ∨ x = 70 := by simpa [f764] using hx
    rcases this with rfl | rfl
    · exact .inl (by simp [f764])
    · exact .inr (by simp [f764])
  · have : x = 70 := by simpa [f764] using hx
    subst this
    have := cg764 g.w L
    rw [ef] at this
    rw [hn]; exact this
  · have := cf764 g.w L
    rw [ef] at this
    rw [this]; simp
  · have hb : zipE [67, 70] l = some en := hb
    obtain ⟨hlen, hk⟩ := zip_kr hb rv
    refine ⟨_, bind_plain (List.isEmpty_iff.mp p1) (List.isEmpty_iff.mp p2) (Option.isNone_iff_eq_none.mp p3) (Option.isNone_iff_eq_none.mp p4) d0 ?_ ?_, ?_⟩
    · rw [p6]
      have : nm 67 ≠ nm 70 := fun q => absurd (nm_inj _ _ q) (by decide)
      simp [this]
    · rw [p6]; simpa using hlen
    · rw [p6]; rw [hn] at hk; exact hk
end Mine
namespace Mine
open PySem PySem.W PySem.Calls PyProof.Rows
noncomputable def lawB (K : Frag) : Bool := match K.lookup 1643 with
  | some ⟨_, _, .func fd, _⟩ => (match fd.body with | .stmts b => (agSsD nm b1643 (b.drop 1)).1 | _ => false) && fnB K nm f1643 fd.scope
  | _ => false
theorem law_B (w : World) : lawB (KF w.params) = true := by kernel_rfl
end Mine
namespace Mine
open PySem PySem.W PySem.Calls PyProof.Rows
variable {g : Gx} {G : Cfg}
noncomputable def xaB (K : Frag) (C : Addr) (x : Nat) : Bool := (match takerIn K C (nm x) with | some none => true | _ => false) && (match findIn K (.ref C) (nm x) with | some attr => noGet K attr | none => false)
noncomputable def xcB (K : Frag) (cl : Cl) : Bool := plainOverX K cl.addr && hasDictIn K cl.addr && findIn K (.ref cl.addr) "__getattribute__" == some (some (.builtin "BaseException.__getattribute__")) && findIn K (.ref cl.addr) "__getattr__" == some none && subIn K (.ref cl.addr) (.type "BaseException") == some true && cl.attrs.all (xaB K cl.addr)
theorem xc_all (w : World) : clsT.all (fun cl => !Nat.beq cl.addr 204 || xcB (KF w.params) cl) = true := by kernel_rfl
theorem rx_a (w : World) : makesXIn (KF w.params) 204 = true := by kernel_rfl
theorem rx_b (w : World) : keepIn (KF w.params) (.ref 204) = true := by kernel_rfl
theorem rx_c (w : World) : findIn (KF w.params) (.ref 204) "__init__" = some (some (.ref 188)) := by kernel_rfl
theorem rx_d (w : World) : typeIn (KF w.params) (.ref 188) = some (.type "function") := by kernel_rfl
theorem xc_of (hn : g.nm = nm) {cl : Cl} (h : xcB g.K cl = true) : XcOK g cl := by
  unfold xcB at h
  simp only [Bool.and_eq_true, List.all_eq_true, beq_iff_eq] at h
  obtain ⟨⟨⟨⟨⟨h1, h2⟩, h3⟩, h4⟩, h5⟩, h6⟩ := h
  refine ⟨h1, h2, fun x hx => ?_⟩
  have := h6 x hx
  unfold xaB at this
  simp only [Bool.and_eq_true] at this
  obtain ⟨a, b⟩ := this
  refine ⟨?_, h3, h4, h5, h2, ?_⟩
  · rw [hn]
    split at a
    · assumption
    · cases a
  · rw [hn]
    split at b
    · rename_i at' e; exact ⟨at', e, b⟩
    · cases b
theorem rx_ok (hn : g.nm = nm) (hK : g.K = KF g.w.params) (hx : ∀ C, g.isX C = Nat.beq C 204) (hc : G.cls = clsT) (he : G.exc = 204) (hi : G.excInit = 188) : RxOK g G := by
  refine ⟨by rw [hK, he]; exact rx_a _, by rw [hK, he]; exact rx_b _, by rw [hK, he, hi]; exact rx_c _, by rw [hK, hi]; exact rx_d _, fun C cl h q => ?_⟩
  rw [hc] at h
  obtain ⟨m, e⟩ := findCl_mem h
  rw [hx] at q
  have := List.all_eq_true.mp (xc_all g.w) cl m
  rw [e, q, Bool.not_true, Bool.false_or, ← hK] at this
  exact xc_of hn this
theorem ent_T (w : World) : entA (KF w.params) fT = true := by kernel_rfl
theorem ent_Tp (w : World) : entP (KF w.params) fT = true := by kernel_rfl
theorem ent_I (w : World) : entA (KF w.params) fI = true := by kernel_rfl
theorem ent_Ip (w : World) : entP (KF w.params) fI = true := by kernel_rfl
noncomputable def dcF (K : Frag) : Bool := match K.lookup 1510 with
  | some ⟨_, _, .func fd, _⟩ => (match fd.body with
    | .stmts [.Return (some e) _] => dcB nm e
    | _ => false)
  | _ => false
theorem dc_I (w : World) : dcF (KF w.params) = true := by kernel_rfl
theorem con_ok (GO : GOK g G) (DW : DrawOK g G) (hn : g.nm = nm) (hl : g.lawA = 1643) (hK : g.K = KF g.w.params) (ht : G.take = 1629) (hi : G.items = 1510) : ConOK g G := by
  have aT : entA g.K fT = true := by rw [hK]; exact ent_T _
  have aI : entA g.K fI = true := by rw [hK]; exact ent_I _
  obtain ⟨kT, oc, od, osl, fd, body, lT, mT⟩ := ent_A hn hl aT
  obtain ⟨kI, oc2, od2, osl2, fd2, body2, lI, mI⟩ := ent_A hn hl aI
  have eT := mT (kind_P hn lT aT (by rw [hK]; exact ent_Tp _))
  have eI := mI (kind_P hn lI aI (by rw [hK]; exact ent_Ip _))
  refine ⟨by rw [ht]; exact kT, by rw [hi]; exact kI, fun K hb rv O H hP => ?_, fun K hb rv O H hP => ?_⟩
  · rw [ht]
    exact take_ok GO DW lT eT K hb rv O H hP
  · rw [hi]
    refine items_ok GO lI eI (fun e p hbody => ?_) K hb rv O H hP
    have := dc_I g.w
    rw [← hK] at this
    unfold dcF at this
    have lI' : g.K.lookup 1510 = some ⟨oc2, od2, .func fd2, osl2⟩ := lI
    rw [lI'] at this
    simp only [eI.bdy, hbody] at this
    rw [hn]
    exact this
end Mine
namespace Mine
open PySem PySem.W PySem.Calls PyProof.Rows
noncomputable def cfgOf (o : List (Nat × Int)) : Cfg := ⟨fnsT, clsT, catT, 1629, 1510, 188, 1643, 204, o⟩
noncomputable def st0 : St := ⟨[(246, .ref 1)], .node .row (.node (.list [.ref 0, .int 0]) .nil .nil) .nil, 2⟩
noncomputable def isT : Res Fl → Bool
  | .ok (.ret (.bool true)) _ => true
  | _ => false
noncomputable def tryIt (a b c d e f : Nat) : Bool := isT ((runR (cfgOf [(2, .ofNat a), (2, .ofNat b), (3, .ofNat c), (2, .ofNat d), (4, .ofNat e), (3, .ofNat f)]) 340).ex b1643 f1643 st0)
end Mine
namespace Mine
open PySem PySem.W PySem.Calls PyProof.Rows
noncomputable def st0D (nm : Nat → Str) : (st : Stmt) → {b : Bool // b = true → ∃ p1 p2 p3 p4 p5 p6 p7 p8 k1 k2, st = .Assign [.Name (nm 246) p1] (.List [.Subscript (.Name (nm 261) p2) (.Slice .none (some (.Constant (.int 40) k1 p3)) .none p4) p5, .Constant (.int 0) k2 p6] p7) p8}
  | .Assign [.Name s _] (.List [.Subscript (.Name sc _) (.Slice none (some (.Constant (.int i) _ _)) none _) _, .Constant (.int j) _ _] _) _ => ⟨nm 246 == s && (nm 261 == sc && (i == 40 && j == 0)), fun h => by
      obtain ⟨h, h1⟩ := and2 h; obtain ⟨h1, h2⟩ := and2 h1; obtain ⟨h2, h3⟩ := and2 h2
      cases beq_iff_eq.mp h; cases beq_iff_eq.mp h1; cases beq_iff_eq.mp h2; cases beq_iff_eq.mp h3
      exact ⟨_, _, _, _, _, _, _, _, _, _, rfl⟩⟩
  | _ => ⟨false, fun h => nomatch h⟩
noncomputable def st0B (nm : Nat → Str) (st : Stmt) : Bool := (st0D nm st).1
theorem st0B_inv {nm : Nat → Str} {st : Stmt} (h : st0B nm st = true) : ∃ p1 p2 p3 p4 p5 p6 p7 p8 k1 k2, st = .Assign [.Name (nm 246) p1] (.List [.Subscript (.Name (nm 261) p2) (.Slice .none (some (.Constant (.int 40) k1 p3)) .none p4) p5, .Constant (.int 0) k2 p6] p7) p8 := (st0D nm st).2 h
theorem ints_vals {vs : List Value} {ns : List Int} (h : IntsAre vs ns) : IntVals ns vs := by
  induction h with
  | nil => exact .nil
  | cons n t _ ih => exact .cons ⟨t, rfl⟩ ih
theorem st0_get (n : Nat) (o : O) (h : st0.get n = some o) : (n = 0 ∧ o = .row) ∨ (n = 1 ∧ o = .list [.ref 0, .int 0]) := by
  have h : (Tr.node .row (Tr.node (.list [.ref 0, .int 0]) .nil .nil) .nil).get n = some o := h
  rw [Tr.get_node] at h
  by_cases h0 : n = 0
  · rw [if_pos h0] at h; cases h; exact .inl ⟨h0, rfl⟩
  · rw [if_neg h0] at h
    by_cases h1 : n % 2 = 1
    · rw [if_pos h1, Tr.get_node] at h
      by_cases h2 : n / 2 = 0
      · rw [if_pos h2] at h; cases h
        exact .inr ⟨by omega, rfl⟩
      · rw [if_neg h2, Tr.get_nil, Tr.get_nil] at h
        split at h <;> cases h
    · rw [if_neg h1, Tr.get_nil] at h
      cases h
section
variable {g : Gx} {G : Cfg} {c : FC} {S : Shared}
theorem law_first (GO : GOK g G) (K : FOK g c) {a : Addr} {vs : List Value} {ns : List Int} {m : Str → Option Value} (F : Fr c.h₀ c.L S.heap m) (hm : m (g.nm 261) = some (.ref a)) (hl : S.heap.IsList a vs.toArray) (hi : IntsAre vs ns) (hn : ns.length ≤ 63) (hrow : g.row = ns.take 40) (hc : c.cells = [])
    (l1 : 246 ∈ c.F.locs) (l2 : 261 ∈ c.F.locs) (e1 : S.gens = g.S₁.gens) (e2 : S.drawn = g.S₁.drawn) (e3 : S.os = g.S₁.os) {st : Stmt} (h : st0B g.nm st = true) {A : Around} {Q : Flow → Shared → Prop} {E : Value → Shared → Prop} (hQ : ∀ S' W, Here g c W st0 S' → Q .next S') :
    wpAny (model g.prog g.w) A (exec st c.env) Q E S := by
  obtain ⟨p1, p2, p3, p4, p5, p6, p7, p8, k1, k2, rfl⟩ := st0B_inv h
  have lv : vs.length = ns.length := hi.length
  have pu : IsPart (.int 40 S.toks) (some 40) := .int _ _
  refine wpAny_Assign_stores ?_ (swapsSole_no rfl _ _ _) (swapped_no rfl _)
  refine List_ (args_cons (Subscript_ (wpAny_Name (wpAny_loadName_local K.fn.kind (K.fn.locs 261 l2) F.ns hm (wpAny_Slice ?_)) (K.fn.dbg 261))) rfl)
  rw [evalPart_none]
  refine wpAny_pure ?_
  rw [evalPart_some]
  refine wpAny_Constant_int ?_
  refine wpAny_pure ?_
  refine slice_list (s := { S with toks := S.toks + 1 }) F (news := []) (fun p hp => by cases hp) hl .none pu (fun h' F' N' => ?_) rfl (fun _ => rfl) (by rw [List.size_toArray, lv, sizeLine_eq]; omega)
  have rowI : IntsAre (slicePick vs.toArray none (some 40) none).toList (ns.take 40) := kmk_upto hi (by decide)
  generalize eR : slicePick vs.toArray none (some 40) none = row at N' rowI ⊢
  obtain ⟨n1, n2, n3⟩ := N' (S.heap.objs.size + 1, { cls := .type "list", data := .seq row }) (.head _)
  refine args_cons (wpAny_Constant_int (args_nil ?_)) rfl
  refine wpAny_newObj_type ?_ (by show (_ : List Value).toArray.size ≤ sizeLine; rw [sizeLine_eq]; simp)
  show wpAny _ A (assign (.Name (g.nm 246) p1) c.env (.ref h'.objs.size)) _ _ _
  have F2' := F'.push { cls := .type "list", data := .seq [Value.ref (S.heap.objs.size + 1), .int 0 (S.toks + 1)].toArray }
  have hnew : (h'.push { cls := .type "list", data := .seq [Value.ref (S.heap.objs.size + 1), .int 0 (S.toks + 1)].toArray }).get? h'.objs.size = some (listOf [Value.ref (S.heap.objs.size + 1), .int 0 (S.toks + 1)].toArray 0) := Heap.get?_push_size _ rfl
  have hrowo : (h'.push { cls := .type "list", data := .seq [Value.ref (S.heap.objs.size + 1), .int 0 (S.toks + 1)].toArray }).get? (S.heap.objs.size + 1) = some (listOf row 0) := Heap.get?_push_of_some _ n1
  have big : S.heap.objs.size + 1 < h'.objs.size := lt_of_get n1
  have bgS := K.bigS F
  have ltL := F.ns.lt
  refine PyProof.Rows.assign_Name (wpAny_storeName_local (K.fn.locs 246 l1) F2'.ns (fun h2 hn2 sb => ?_) ?_)
  rotate_left 1
  · show (c.scope.kind == .class || (c.scope.kind == .module && c.L != mainGlobals)) = false
    rw [K.fn.kind]; rfl
  have F3 := F2'.set hn2 sb
  have r1 : S.heap.objs.size + 1 ≠ c.L := n2
  have r2 : h'.objs.size ≠ c.L := fun q => by rw [q] at big; exact Nat.lt_irrefl _ (Nat.lt_of_lt_of_le (Nat.lt_trans ltL (Nat.lt_succ_self _)) (Nat.le_of_lt big))
  have none2 : c.h₀.get? h'.objs.size = none := by
    cases q : c.h₀.get? h'.objs.size with
    | none => rfl
    | some o => exact absurd (lt_of_get (F'.keep _ _ q)) (Nat.lt_irrefl _)
  refine hQ _ [(S.heap.objs.size + 1, none), (h'.objs.size, none)] ⟨⟨_, F3, fun x v e => ?_⟩, fun n o e => ?_, rfl, ?_, fun b hb => ?_, e1, e2, e3⟩
  · have e : look [(246, V.ref 1)] x = some v := e
    rw [look_cons] at e
    by_cases q : (246 : Nat) = x
    · rw [if_pos q] at e
      cases e
      subst q
      exact .inl ⟨l1, .ref h'.objs.size, by simp, _, rfl, rfl⟩
    · rw [if_neg q, look_nil] at e
      cases e
  · rcases st0_get n o e with ⟨rfl, rfl⟩ | ⟨rfl, rfl⟩
    · refine ⟨_, rfl, rfl, row.toList, 0, ?_, ?_⟩
      · rw [Array.toArray_toList]
        exact (sb.2 _ r1).trans hrowo
      · rw [hrow]; exact ints_vals rowI
    · exact ⟨_, rfl, rfl, [.ref (S.heap.objs.size + 1), .int 0 (S.toks + 1)], 0, (sb.2 _ r2).trans hnew, .cons ⟨_, rfl, rfl⟩ (.cons ⟨_, rfl⟩ .nil)⟩
  · have : allA c [(S.heap.objs.size + 1, none), (h'.objs.size, none)] = [S.heap.objs.size + 1, h'.objs.size] := by
      unfold allA
      rw [hc]
      rfl
    rw [this]
    refine List.nodup_cons.mpr ⟨fun q => ?_, List.nodup_cons.mpr ⟨fun q => (by cases q), List.nodup_nil⟩⟩
    rw [List.mem_singleton.mp q] at big
    exact Nat.lt_irrefl _ big
  · have : allA c [(S.heap.objs.size + 1, none), (h'.objs.size, none)] = [S.heap.objs.size + 1, h'.objs.size] := by
      unfold allA
      rw [hc]
      rfl
    rw [this] at hb
    rcases List.mem_cons.mp hb with rfl | hb
    · exact ⟨⟨r1, n3, Nat.le_trans bgS (Nat.le_succ _)⟩, _, (sb.2 _ r1).trans hrowo⟩
    · rw [List.mem_singleton.mp hb]
      exact ⟨⟨r2, none2, Nat.le_trans bgS (Nat.le_trans (Nat.le_succ _) (Nat.le_of_lt big))⟩, _, (sb.2 _ r2).trans hnew⟩
end
end Mine
namespace Mine
open PySem PySem.W PySem.Calls PyProof.Rows
variable {g : Gx} {G : Cfg}
noncomputable def lawC (K : Frag) : Bool := match K.lookup 1643 with
  | some ⟨_, _, .func fd, _⟩ => (match fd.body with | .stmts (st :: _) => st0B nm st | _ => false) && parB f1643 fd && cellB f1643 fd && (Nat.beq fd.globals mainGlobals && fd.closure.isEmpty && Nat.beq fd.builtins builtinsNs && codeIn K fd.code fd.qualname && !fd.scope.isCoroutine && !fd.scope.isGenerator)
  | _ => false
theorem law_C (w : World) : lawC (KF w.params) = true := by kernel_rfl
theorem isT_inv {r : Res Fl} (h : isT r = true) : ∃ s, r = .ok (.ret (.bool true)) s := by
  unfold isT at h
  split at h
  · exact ⟨_, rfl⟩
  · cases h
theorem law_call (hn : g.nm = nm) (hla : g.lawA = 1643) (hK : g.K = KF g.w.params) (GO : GOK g G) (GS : GoodS g G (runR G 340) 342) {S : Shared} (hS : g.S₁ = S) (hbs : g.base = S.heap) {a : Addr} {vs : List Value} {ns : List Int}
    (hl : S.heap.IsList a vs.toArray) (hi : IntsAre vs ns) (hlen : ns.length ≤ 63) (hrow : g.row = ns.take 40) (run : isT ((runR G 340).ex b1643 f1643 st0) = true) {Q : Value → Shared → Prop} {E : Value → Shared → Prop}
    (hQ : ∀ S' L m, Fr S.heap L S'.heap m → S'.gens = S.gens → S'.os = S.os → Q (.bool true) S') : wpAny (model g.prog g.w) callerA (call (.ref 1643) [.ref a]) Q E S := by
  obtain ⟨s', run⟩ := isT_inv run
  have hB := law_B g.w
  have hC := law_C g.w
  rw [← hK] at hB hC
  unfold lawB at hB
  unfold lawC at hC
  split at hB
  rotate_left
  · cases hB
  rename_i oc od fd osl hlk
  rw [hlk] at hC
  simp only [Bool.and_eq_true, Bool.not_eq_true'] at hB hC
  obtain ⟨hB1, hB2⟩ := hB
  obtain ⟨⟨⟨hC1, hC2⟩, hC3⟩, hC4⟩ := hC
  obtain ⟨⟨⟨⟨⟨a1, a2⟩, a3⟩, a4⟩, a5⟩, a6⟩ := hC4
  split at hC1
  rotate_left
  · cases hC1
  rename_i st rest hbody
  rw [hbody] at hB1
  have hB1 : agSs nm b1643 rest = true := agSsD_ok hB1
  unfold cellB at hC3
  simp only [Bool.and_eq_true, List.all_eq_true] at hC3
  obtain ⟨⟨c1, c2⟩, c3⟩ := hC3
  unfold parB at hC2
  simp only [Bool.and_eq_true] at hC2
  obtain ⟨⟨⟨⟨⟨⟨p1, p2⟩, p3⟩, p4⟩, p5⟩, p6⟩, p7⟩ := hC2
  have p6 := of_decide_eq_true p6
  have p6 : fd.params.args.map (·.arg) = [nm 261] := p6
  have d0 : fd.defaults = .none := by
    split at p5
    · rename_i q; exact q
    · cases p5
  have fn : FnOK g f1643 fd.scope := fn_of (by rw [hn]; exact nm_dbg) (by rw [hn]; exact hB2)
  have X : g.K.In S.heap := hbs ▸ GO.kin
  obtain ⟨p, loose, mg, mb, T⟩ := GO.top
  have T' := T
  rw [hbs] at T'
  have hbind : bindArgs fd ⟨[Value.ref a], []⟩ = pure ((fd.params.args.map (·.arg)).zip [Value.ref a]) :=
    bind_plain (List.isEmpty_iff.mp p1) (List.isEmpty_iff.mp p2) (Option.isNone_iff_eq_none.mp p3) (Option.isNone_iff_eq_none.mp p4) d0 (by rw [p6]; exact List.nodup_cons.mpr ⟨by simp, List.nodup_nil⟩) (by rw [p6]; rfl)
  rw [p6] at hbind
  refine wpAny_of_code ?_
  refine codeAny_call_def (fd := fd) (body := st :: rest) (by show (1 + claimMargin : Nat) < 1000; decide) (X _ _ hlk) rfl T'.nolimit (codeRec_of X a4) hbody (BindsTo.of_eq hbind) (fun x hx q => ?_) (fun y hy => ?_) (fun h₁ hns hk₁ => ?_) a5 a6 fn.kind
  · have := c1 x hx
    rw [q] at this
    cases this
  · have : y = (nm 261, Value.ref a) := by simpa using hy
    subst this
    rw [← hn]
    exact fn.locs 261 (by simp [f1643])
  have hce : callEnv fd S.heap.objs.size 1643 = FC.env ⟨[], S.heap, S.heap.objs.size, f1643, fd.qualname, fd.scope, 1643, fd.code, []⟩ := by
    show newEnv fd.scope S.heap.objs.size fd.globals fd.closure _ _ fd.code none fd.builtins = _
    rw [Nat.eq_of_beq_eq_true a1, List.isEmpty_iff.mp a2, Nat.eq_of_beq_eq_true a3]
    rfl
  rw [hce]
  have K : FOK g ⟨[], S.heap, S.heap.objs.size, f1643, fd.qualname, fd.scope, 1643, fd.code, []⟩ := by
    refine ⟨fun _ => rfl, by rw [hbs]; exact Nat.le_refl _, by rw [hbs]; exact fun b o e => e, trivial, X, ⟨p, loose, mg, mb, T'⟩, fn⟩
  generalize hc : (⟨[], S.heap, S.heap.objs.size, f1643, fd.qualname, fd.scope, 1643, fd.code, []⟩ : FC) = c at K
  have c1 : c.h₀ = S.heap := by rw [← hc]
  have c2 : c.F = f1643 := by rw [← hc]
  have c3 : c.cells = [] := by rw [← hc]
  have c4 : c.outer = [] := by rw [← hc]
  have c5 : c.L = S.heap.objs.size := by rw [← hc]
  have O : AOK c 342 (callerA.deeper c.env) := by
    refine ⟨?_, ?_, ?_, fun _ => rfl⟩
    · rw [c4]; rfl
    · show 1 + claimMargin + 1 + 2 * 342 < 1000
      decide
    · show 4 + 3 + 8 * 342 + 300 < cLine
      decide
  have Fr0 : Fr c.h₀ c.L h₁ (fun x => List.lookup x [(nm 261, Value.ref a)]) := by
    rw [c1, c5]
    exact ⟨hns, hk₁, Nat.le_refl _⟩
  refine wpAny_execs_cons ?_
  refine law_first (S := { S with heap := h₁, toks := _ }) (a := a) (vs := vs) GO K Fr0 (by rw [hn]; simp) ?_ hi hlen hrow c3 (by rw [c2]; simp [f1643]) (by rw [c2]; simp [f1643]) (by rw [hS]) (by rw [hS]) (by rw [hS]) (by rw [hn]; exact hC1) fun S' W H => ?_
  · obtain ⟨o, ho, r⟩ := hl
    exact ⟨o, hk₁ _ _ ho, r⟩
  show wpAny _ _ (execs rest c.env) _ _ S'
  refine GS.ex c W st0 b1643 rest K (by rw [hn]; exact hB1) _ S' _ _ O H ?_
  rw [c2, run]
  intro S2 W2 f l2 H2 rf
  obtain ⟨val, rfl, rv⟩ := rf
  have rv : val = .bool true := rv
  subst rv
  obtain ⟨m, F2, _⟩ := H2.fr
  rw [c1] at F2
  exact hQ S2 c.L m F2 (by rw [H2.gens, hS]) (by rw [H2.os, hS])
end Mine
namespace Mine
open PySem PySem.W PySem.Calls PyProof.Rows
variable {g : Gx}
noncomputable def drawN (row : List Int) (at_ m : Nat) : Nat := match row[at_ % row.length]? with
  | some x => (x.natAbs / 7 ^ (at_ / row.length)) % m
  | none => 0
theorem drawV_N (row : List Int) (at_ m : Nat) : drawV row at_ m = .ofNat (drawN row at_ m) := by
  unfold drawV drawN
  cases row[at_ % row.length]? <;> rfl
theorem drawN_lt (row : List Int) (at_ m : Nat) (h : 0 < m) : drawN row at_ m < m := by
  unfold drawN
  split
  · exact Nat.mod_lt _ h
  · exact h
noncomputable def orcOf (row : List Int) : List (Nat × Int) := [(2, .ofNat (drawN row 0 2)), (2, .ofNat (drawN row 1 2)), (3, .ofNat (drawN row 2 3)), (2, .ofNat (drawN row 3 2)), (4, .ofNat (drawN row 4 4)), (3, .ofNat (drawN row 5 3))]
theorem draw_ok (hl : g.row.length ≤ 1000) : DrawOK g (cfgOf (orcOf g.row)) := by
  refine ⟨fun at_ m v h => ?_, hl⟩
  have h : (orcOf g.row)[at_]? = some (m, v) := h
  unfold orcOf at h
  have e : at_ = 0 ∨ at_ = 1 ∨ at_ = 2 ∨ at_ = 3 ∨ at_ = 4 ∨ at_ = 5 ∨ 6 ≤ at_ := by omega
  rcases e with rfl | rfl | rfl | rfl | rfl | rfl | e
  · cases h; exact ⟨by decide, by decide, (drawV_N _ _ _).symm⟩
  · cases h; exact ⟨by decide, by decide, (drawV_N _ _ _).symm⟩
  · cases h; exact ⟨by decide, by decide, (drawV_N _ _ _).symm⟩
  · cases h; exact ⟨by decide, by decide, (drawV_N _ _ _).symm⟩
  · cases h; exact ⟨by decide, by decide, (drawV_N _ _ _).symm⟩
  · cases h; exact ⟨by decide, by decide, (drawV_N _ _ _).symm⟩
  · rw [List.getElem?_eq_none (by simpa using e)] at h
    cases h
noncomputable def catB : Bool := catT.all fun p => nm p.2.2 == nm p.1 ++ nm p.2.1 && Nat.ble ((nm p.1).length + (nm p.2.1).length) 1000
theorem catB_ok : catB = true := by kernel_rfl
theorem good_law (hn : g.nm = nm) (hla : g.lawA = 1643) (hK : g.K = KF g.w.params) (hx : ∀ C, g.isX C = Nat.beq C 204) (kin : g.K.In g.base) (top : ∃ p loose mg mb, TopRead p loose mg mb g.base) (sys : sysModules < g.base.objs.size) (hl : g.row.length ≤ 1000) :
    GOK g (cfgOf (orcOf g.row)) ∧ ∀ n, Good g (cfgOf (orcOf g.row)) n := by
  have GO : GOK g (cfgOf (orcOf g.row)) := by
    refine ⟨by rw [hn]; exact nm_inj, by rw [hn]; exact nm_cps, fun p hp => ?_, sys, hx, hla.symm, kin, top, cls_ok hn hK hx rfl⟩
    have := List.all_eq_true.mp catB_ok p hp
    simp only [Bool.and_eq_true, beq_iff_eq] at this
    rw [hn]
    exact ⟨this.1, sizeLine_ok (Nat.le_of_ble_eq_true this.2)⟩
  have RX : RxOK g (cfgOf (orcOf g.row)) := rx_ok hn hK hx rfl rfl rfl
  have TA : TabOK g (cfgOf (orcOf g.row)) := ⟨fun a F h => tab_ent hn hla hK (k764 hn hK) a F h⟩
  exact ⟨GO, good_all GO (xok GO RX.XC) (do_ok hK hx rfl rfl) (nm_ok hn) (holes_ok GO) (cat_ok hK rfl) TA (con_ok GO (draw_ok hl) hn hla hK rfl rfl) (rais_ok GO TA RX)⟩
noncomputable def AllRuns : Prop := ∀ a b c d e f, a < 2 → b < 2 → c < 3 → d < 2 → e < 4 → f < 3 → tryIt a b c d e f = true
theorem law_true (runs : AllRuns) (prog : Program) (w : World) {S : Shared} (kin : (KF w.params).In S.heap) (top : ∃ p loose mg mb, TopRead p loose mg mb S.heap) (sys : sysModules < S.heap.objs.size) {a : Addr} {vs : List Value} {ns : List Int}
    (hl : S.heap.IsList a vs.toArray) (hi : IntsAre vs ns) (hlen : ns.length ≤ 63) {Q : Value → Shared → Prop} {E : Value → Shared → Prop}
    (hQ : ∀ S' L m, Fr S.heap L S'.heap m → S'.gens = S.gens → S'.os = S.os → Q (.bool true) S') : wpAny (model prog w) callerA (call (.ref 1643) [.ref a]) Q E S := by
  obtain ⟨GO, GA⟩ := good_law (g := ⟨prog, w, KF w.params, nm, S.heap, S, fun C => Nat.beq C 204, 1643, ns.take 40⟩) rfl rfl rfl (fun _ => rfl) kin top sys (by show (ns.take 40).length ≤ 1000; rw [List.length_take]; omega)
  refine law_call (g := ⟨prog, w, KF w.params, nm, S.heap, S, fun C => Nat.beq C 204, 1643, ns.take 40⟩) rfl rfl rfl GO (GA 340).s rfl rfl hl hi hlen rfl ?_ hQ
  exact runs _ _ _ _ _ _ (drawN_lt _ _ _ (by decide)) (drawN_lt _ _ _ (by decide)) (drawN_lt _ _ _ (by decide)) (drawN_lt _ _ _ (by decide)) (drawN_lt _ _ _ (by decide)) (drawN_lt _ _ _ (by decide))
end Mine
namespace Mine
open PySem PySem.W PySem.Calls PyProof.Rows
noncomputable def fdA (s : Stmt) : Arguments := match s with | .FunctionDef _ a _ _ _ _ _ _ _ _ => a | _ => default
noncomputable def fdB (s : Stmt) : List Stmt := match s with | .FunctionDef _ _ b _ _ _ _ _ _ _ => b | _ => default
noncomputable def fdS (s : Stmt) : Scope := match s with | .FunctionDef _ _ _ _ _ _ sc _ _ _ => sc | _ => default
noncomputable def fdP (s : Stmt) : Pos := match s with | .FunctionDef _ _ _ _ _ _ _ _ _ p => p | _ => default
noncomputable def lawD : DefRec := ⟨S "law", fdA (stAt 201), fdB (stAt 201), fdS (stAt 201), fdP (stAt 201)⟩
theorem law_ns (w : World) : nsIn (KF w.params) mainGlobals (S "law") = some (some (.ref 1643)) := by kernel_rfl
theorem asL_eq (P : Params) : asL = (KF P).map (·.1) := by kernel_rfl
theorem law_walk (runs : AllRuns) : WalkX qv looseL (fun _ _ => True) (X.obsZ asL) (X.valZ KF 1644 2679) (OpenRow.toRowW (OpenLaw.row PySem.Challenge.rw_rg0151_01)) lawD [] fun f vs => PySem.call f vs := by
  intro w s₀ s₁ mg mb G Y fa o pm cd doc dV kV ho hd hcd hD hmg hg args vals as L hpre hlay hrd hwl hlo
  refine Ground.open G ?_
  intro T B D TE TW
  wrow_args hpre hlay hrd hwl hlo
  obtain ⟨hat, hsz⟩ := X.script_at L
  obtain ⟨_, KX, hs0, _⟩ := X.z_facts asL_eq Y
  have kin : (KF w.params).In s₁.heap := InK.keeps w _ _ KX L.keeps
  have e : mg (S "law") = some (.ref 1643) := mg_of kin T.g (law_ns w)
  have e2 : mg (S "law") = some (.ref fa) := hmg
  rw [e] at e2
  cases e2
  rename_i hL r1 r2 r3 hI r5 hcond r6 r7 r8
  refine law_true runs _ w kin ⟨_, _, _, _, topRead_of T⟩ (by rw [hsz, hs0]; decide) hL hI (by omega) fun S' L' m F' hg' hos' => ?_
  refine GoodW.toG (goodW_bool F' (hg'.trans hg) ?_ ?_ hos')
  · refine raisesW_false ?_
    wrow_none_raised
  · wrow_post
end Mine
namespace Mine
open PySem PySem.W PySem.Calls PyProof.Rows
noncomputable def tryF (a b c d e : Nat) : Bool := tryIt a b c d e 0 && tryIt a b c d e 1 && tryIt a b c d e 2
theorem r_00000 : tryF 0 0 0 0 0 = true := by kernel_rfl
theorem r_00001 : tryF 0 0 0 0 1 = true := by kernel_rfl
theorem r_00002 : tryF 0 0 0 0 2 = true := by kernel_rfl
theorem r_00003 : tryF 0 0 0 0 3 = true := by kernel_rfl
theorem r_00010 : tryF 0 0 0 1 0 = true := by kernel_rfl
theorem r_00011 : tryF 0 0 0 1 1 = true := by kernel_rfl
theorem r_00012 : tryF 0 0 0 1 2 = true := by kernel_rfl
theorem r_00013 : tryF 0 0 0 1 3 = true := by kernel_rfl
theorem r_00100 : tryF 0 0 1 0 0 = true := by kernel_rfl
theorem r_00101 : tryF 0 0 1 0 1 = true := by kernel_rfl
theorem r_00102 : tryF 0 0 1 0 2 = true := by kernel_rfl
theorem r_00103 : tryF 0 0 1 0 3 = true := by kernel_rfl
theorem r_00110 : tryF 0 0 1 1 0 = true := by kernel_rfl
theorem r_00111 : tryF 0 0 1 1 1 = true := by kernel_rfl
theorem r_00112 : tryF 0 0 1 1 2 = true := by kernel_rfl
theorem r_00113 : tryF 0 0 1 1 3 = true := by kernel_rfl
theorem r_00200 : tryF 0 0 2 0 0 = true := by kernel_rfl
theorem r_00201 : tryF 0 0 2 0 1 = true := by kernel_rfl
theorem r_00202 : tryF 0 0 2 0 2 = true := by kernel_rfl
theorem r_00203 : tryF 0 0 2 0 3 = true := by kernel_rfl
theorem r_00210 : tryF 0 0 2 1 0 = true := by kernel_rfl
theorem r_00211 : tryF 0 0 2 1 1 = true := by kernel_rfl
theorem r_00212 : tryF 0 0 2 1 2 = true := by kernel_rfl
theorem r_00213 : tryF 0 0 2 1 3 = true := by kernel_rfl
theorem r_01000 : tryF 0 1 0 0 0 = true := by kernel_rfl
theorem r_01001 : tryF 0 1 0 0 1 = true := by kernel_rfl
theorem r_01002 : tryF 0 1 0 0 2 = true := by kernel_rfl
theorem r_01003 : tryF 0 1 0 0 3 = true := by kernel_rfl
theorem r_01010 : tryF 0 1 0 1 0 = true := by kernel_rfl
theorem r_01011 : tryF 0 1 0 1 1 = true := by kernel_rfl
theorem r_01012 : tryF 0 1 0 1 2 = true := by kernel_rfl
theorem r_01013 : tryF 0 1 0 1 3 = true := by kernel_rfl
theorem r_01100 : tryF 0 1 1 0 0 = true := by kernel_rfl
theorem r_01101 : tryF 0 1 1 0 1 = true := by kernel_rfl
theorem r_01102 : tryF 0 1 1 0 2 = true := by kernel_rfl
theorem r_01103 : tryF 0 1 1 0 3 = true := by kernel_rfl
theorem r_01110 : tryF 0 1 1 1 0 = true := by kernel_rfl
theorem r_01111 : tryF 0 1 1 1 1 = true := by kernel_rfl
theorem r_01112 : tryF 0 1 1 1 2 = true := by kernel_rfl
theorem r_01113 : tryF 0 1 1 1 3 = true := by kernel_rfl
theorem r_01200 : tryF 0 1 2 0 0 = true := by kernel_rfl
theorem r_01201 : tryF 0 1 2 0 1 = true := by kernel_rfl
theorem r_01202 : tryF 0 1 2 0 2 = true := by kernel_rfl
theorem r_01203 : tryF 0 1 2 0 3 = true := by kernel_rfl
theorem r_01210 : tryF 0 1 2 1 0 = true := by kernel_rfl
theorem r_01211 : tryF 0 1 2 1 1 = true := by kernel_rfl
theorem r_01212 : tryF 0 1 2 1 2 = true := by kernel_rfl
theorem r_01213 : tryF 0 1 2 1 3 = true := by kernel_rfl
theorem r_10000 : tryF 1 0 0 0 0 = true := by kernel_rfl
theorem r_10001 : tryF 1 0 0 0 1 = true := by kernel_rfl
theorem r_10002 : tryF 1 0 0 0 2 = true := by kernel_rfl
theorem r_10003 : tryF 1 0 0 0 3 = true := by kernel_rfl
theorem r_10010 : tryF 1 0 0 1 0 = true := by kernel_rfl
theorem r_10011 : tryF 1 0 0 1 1 = true := by kernel_rfl
theorem r_10012 : tryF 1 0 0 1 2 = true := by kernel_rfl
theorem r_10013 : tryF 1 0 0 1 3 = true := by kernel_rfl
theorem r_10100 : tryF 1 0 1 0 0 = true := by kernel_rfl
theorem r_10101 : tryF 1 0 1 0 1 = true := by kernel_rfl
theorem r_10102 : tryF 1 0 1 0 2 = true := by kernel_rfl
theorem r_10103 : tryF 1 0 1 0 3 = true := by kernel_rfl
theorem r_10110 : tryF 1 0 1 1 0 = true := by kernel_rfl
theorem r_10111 : tryF 1 0 1 1 1 = true := by kernel_rfl
theorem r_10112 : tryF 1 0 1 1 2 = true := by kernel_rfl
theorem r_10113 : tryF 1 0 1 1 3 = true := by kernel_rfl
theorem r_10200 : tryF 1 0 2 0 0 = true := by kernel_rfl
theorem r_10201 : tryF 1 0 2 0 1 = true := by kernel_rfl
theorem r_10202 : tryF 1 0 2 0 2 = true := by kernel_rfl
theorem r_10203 : tryF 1 0 2 0 3 = true := by kernel_rfl
theorem r_10210 : tryF 1 0 2 1 0 = true := by kernel_rfl
theorem r_10211 : tryF 1 0 2 1 1 = true := by kernel_rfl
theorem r_10212 : tryF 1 0 2 1 2 = true := by kernel_rfl
theorem r_10213 : tryF 1 0 2 1 3 = true := by kernel_rfl
theorem r_11000 : tryF 1 1 0 0 0 = true := by kernel_rfl
theorem r_11001 : tryF 1 1 0 0 1 = true := by kernel_rfl
theorem r_11002 : tryF 1 1 0 0 2 = true := by kernel_rfl
theorem r_11003 : tryF 1 1 0 0 3 = true := by kernel_rfl
theorem r_11010 : tryF 1 1 0 1 0 = true := by kernel_rfl
theorem r_11011 : tryF 1 1 0 1 1 = true := by kernel_rfl
theorem r_11012 : tryF 1 1 0 1 2 = true := by kernel_rfl
theorem r_11013 : tryF 1 1 0 1 3 = true := by kernel_rfl
theorem r_11100 : tryF 1 1 1 0 0 = true := by kernel_rfl
theorem r_11101 : tryF 1 1 1 0 1 = true := by kernel_rfl
theorem r_11102 : tryF 1 1 1 0 2 = true := by kernel_rfl
theorem r_11103 : tryF 1 1 1 0 3 = true := by kernel_rfl
theorem r_11110 : tryF 1 1 1 1 0 = true := by kernel_rfl
theorem r_11111 : tryF 1 1 1 1 1 = true := by kernel_rfl
theorem r_11112 : tryF 1 1 1 1 2 = true := by kernel_rfl
theorem r_11113 : tryF 1 1 1 1 3 = true := by kernel_rfl
theorem r_11200 : tryF 1 1 2 0 0 = true := by kernel_rfl
theorem r_11201 : tryF 1 1 2 0 1 = true := by kernel_rfl
theorem r_11202 : tryF 1 1 2 0 2 = true := by kernel_rfl
theorem r_11203 : tryF 1 1 2 0 3 = true := by kernel_rfl
theorem r_11210 : tryF 1 1 2 1 0 = true := by kernel_rfl
theorem r_11211 : tryF 1 1 2 1 1 = true := by kernel_rfl
theorem r_11212 : tryF 1 1 2 1 2 = true := by kernel_rfl
theorem r_11213 : tryF 1 1 2 1 3 = true := by kernel_rfl
theorem lt2 {P : Nat → Prop} (h0 : P 0) (h1 : P 1) : ∀ n, n < 2 → P n
  | 0, _ => h0
  | 1, _ => h1
theorem lt3 {P : Nat → Prop} (h0 : P 0) (h1 : P 1) (h2 : P 2) : ∀ n, n < 3 → P n
  | 0, _ => h0
  | 1, _ => h1
  | 2, _ => h2
theorem lt4 {P : Nat → Prop} (h0 : P 0) (h1 : P 1) (h2 : P 2) (h3 : P 3) : ∀ n, n < 4 → P n
  | 0, _ => h0
  | 1, _ => h1
  | 2, _ => h2
  | 3, _ => h3
theorem tryF_all : ∀ a, a < 2 → ∀ b, b < 2 → ∀ c, c < 3 → ∀ d, d < 2 → ∀ e, e < 4 → tryF a b c d e = true :=
  (lt2 (lt2 (lt3 (lt2 (lt4 r_00000 r_00001 r_00002 r_00003) (lt4 r_00010 r_00011 r_00012 r_00013)) (lt2 (lt4 r_00100 r_00101 r_00102 r_00103) (lt4 r_00110 r_00111 r_00112 r_00113)) (lt2 (lt4 r_00200 r_00201 r_00202 r_00203) (lt4 r_00210 r_00211 r_00212 r_00213))) (lt3 (lt2 (lt4 r_01000 r_01001 r_01002 r_01003) (lt4 r_01010 r_01011 r_01012 r_01013)) (lt2 (lt4 r_01100 r_01101 r_01102 r_01103) (lt4 r_01110 r_01111 r_01112 r_01113)) (lt2 (lt4 r_01200 r_01201 r_01202 r_01203) (lt4 r_01210 r_01211 r_01212 r_01213)))) (lt2 (lt3 (lt2 (lt4 r_10000 r_10001 r_10002 r_10003) (lt4 r_10010 r_10011 r_10012 r_10013)) (lt2 (lt4 r_10100 r_10101 r_10102 r_10103) (lt4 r_10110 r_10111 r_10112 r_10113)) (lt2 (lt4 r_10200 r_10201 r_10202 r_10203) (lt4 r_10210 r_10211 r_10212 r_10213))) (lt3 (lt2 (lt4 r_11000 r_11001 r_11002 r_11003) (lt4 r_11010 r_11011 r_11012 r_11013)) (lt2 (lt4 r_11100 r_11101 r_11102 r_11103) (lt4 r_11110 r_11111 r_11112 r_11113)) (lt2 (lt4 r_11200 r_11201 r_11202 r_11203) (lt4 r_11210 r_11211 r_11212 r_11213)))))
theorem all_runs : AllRuns := by
  intro a b c d e f ha hb hc hd he hf
  have h := tryF_all a ha b hb c hc d hd e he
  unfold tryF at h
  obtain ⟨h, h2⟩ := and2 h
  obtain ⟨h0, h1⟩ := and2 h
  exact lt3 (P := fun f => tryIt a b c d e f = true) h0 h1 h2 f hf
end Mine
namespace Mine
open PySem PySem.W PySem.Calls PyProof.Rows
theorem law_all : PySem.Challenge.rw_rg0151_01.Holds := by
  refine holds_law said0 fun said => ?_
  refine holds_openX (q := qv) (loose := looseL) (Xt := fun _ => true) (XP := fun _ _ => True) (Yf := X.obsZ asL) (Ya := X.valZ KF 1644 2679) (N := 20000) (d := lawD) (kwd := []) left0 (fun _ _ => trivial) (fun _ _ _ _ _ => trivial)
    (by kernel_rfl) (by kernel_rfl) (by kernel_rfl) (fun s e => recFacts_nil rfl) (by kernel_rfl) said (look_both (look_both (by kernel_rfl) ow1) (by kernel_rfl)) ⟨rfl, rfl, rfl, rfl, rfl, by decide +kernel⟩ ?hw ?hc
  case hw => w_witness2
  case hc => exact law_walk all_runs
end Mine
theorem PySem.Challenge.cw_rg0151_01_holds : PySem.Challenge.rw_rg0151_01.Holds := by
  exact Mine.law_all
