import PyProof.Rows.All
import Wide.All
import OpenK.AllK
import Wide.FinOn
import Open.Tops
import KE.KRevIter
import KE.KDeep
import KE.KListMore
import PyProof.CompFree
import PyProof.CompUse
import KE.KRevSl
import KE.KSorted
import KE.KEqDat
import PyProof.Rows.ListCopyD
import PyProof.RulesDelMore
import PyProof.RulesDel
import PyProof.DelItemList
import PyProof.StrLawsIdx
import KE.KAnyBase
import PySem.Challenge.RW_pb0398_01
set_option maxRecDepth 1000000
set_option maxHeartbeats 2000000
set_option Elab.async false
set_option compiler.extract_closed false
set_option compiler.reuse false
set_option tactic.hygienic false
set_option genSizeOf false
set_option genInjectivity false
set_option bootstrap.genMatcherCode false
set_option linter.unusedVariables false
set_option linter.unusedSimpArgs false
namespace Mine
open PySem PySem.Calls PySem.Spec PyProof.Rows PySem.W
theorem cw0 (h:PySem.Challenge.rw_pb0398_01.row.wellSaid = true → PySem.Challenge.rw_pb0398_01.row.Holds):PySem.Challenge.rw_pb0398_01.Holds:=by
 refine holds_law ?_ h
 unfold OpenLaw.wellSaid OpenRow.wellSaid OpenRow.partSaid looksOpen
 repeat' with_reducible refine look_both ?_ ?_
 all_goals decide +kernel
set_option backward.match.sparseCases false
noncomputable abbrev pP:Program:=PySem.Challenge.pw_pb0398_01
noncomputable def topSt (i:Nat):Stmt:=pP.main.body.getD i (.Pass ⟨0,0,0,0⟩)
noncomputable def inSt (i j:Nat):Stmt:=match topSt i with
 | .ClassDef _ _ _ b _ _ _ _ _ _ _=>b.getD j (.Pass ⟨0,0,0,0⟩)
 | s=>s
noncomputable def moX (k:Nat):Value:=[.str "moduleyard.typerel" 265,.str "moduleyard.trees" 194,.str "moduleyard.desigparse" 479,.str "moduleyard.exprparse" 1071,.str "moduleyard.layout" 1190,.str "moduleyard.typeparse" 1409,.str "moduleyard.declparse" 1613,.str "moduleyard.scanner" 1693,.str "moduleyard.universe" 2050,.str "law_pb0398_01" 2173,.str "moduleyard.types" 1261,.str "moduleyard.errors" 1639,.str "moduleyard.scopes" 1927,.str "moduleyard.reader" 2073].getD k .none
noncomputable def fO (n q:Str) (ps:Arguments) (b:List Stmt) (sc:Scope) (c k:Nat) (df:Value):Obj:={ cls:=.type "function",data:=.func { name:=n,qualname:=q,params:=ps,body:=.stmts b,scope:=sc,globals:=3,closure:=[],defaults:=df,kwdefaults:=.none,pyModule:=moX k,code:=.ref c } }
noncomputable def cO (n q:Str) (na ln:Int) (c o t u:Nat):Obj:={ cls:=.type "code",data:=.fields #[.str n t,.str q (t + 1),.str "/claim/cut.py" (t + 2),.int ln 0,.int na 0,.int 0 0,.int 0 0,.int 3 0,.ref (c - o),.bool true,.int 181 0,.ref (c - o + 1),.none,if o == 5 then .ref (c - 3) else .none,if o == 5 then .ref (c - 2) else .none,.ref (c - 1),.int (u - 1) 0,.int ln 0,.str "/claim/cut.py" u] }
noncomputable def fnX (c:Nat) (s:Stmt) (k:Nat):Obj:=match s with
 | .FunctionDef n ps b _ _ _ sc _ _ _=>fO n n ps b sc c k .none
 | _=>default
noncomputable def fmX (c:Nat) (s:Stmt) (k:Nat) (df:Value) (q:Str):Obj:=match s with
 | .FunctionDef n ps b _ _ _ sc _ _ _=>fO n q ps b sc c k df
 | _=>default
noncomputable def cdX (c:Nat) (s:Stmt) (o t u:Nat):Obj:=match s with
 | .FunctionDef n ps _ _ _ _ _ _ _ p=>cO n n ps.args.length p.line c o t u
 | _=>default
noncomputable def cmX (c:Nat) (s:Stmt) (o t u:Nat) (q:Str):Obj:=match s with
 | .FunctionDef n ps _ _ _ _ _ _ _ p=>cO n q ps.args.length p.line c o t u
 | _=>default
noncomputable def dcO (P:Params) (l:List (Str × Nat × Value)) (e:Nat):Obj:={ cls:=.type "dict",data:=.dict (l.map fun x=>⟨PyData.keyHash P x.1,.str x.1 x.2.1,x.2.2⟩).toArray e }
noncomputable def tyX (a:Nat) (n:Str) (t:Nat):Obj:={ cls:=.type "type",data:=.cls { name:=n,bases:=[.type "object"],mro:=[.ref a,.type "object"],ns:=a - 1,qualname:=n },slots:=#[none,none,some (.str n t),some (.str n (t + 8)),some (.builtin "object.__new__"),some (.bool true)] }
noncomputable def geX (s:String) (t:Nat) (v:Value):Str × Nat × Value:=(s,t,v)
noncomputable def grX (s:String) (t a:Nat):Str × Nat × Value:=(s,t,.ref a)
noncomputable def gL:List (Str × Nat × Value):=[geX "__name__" 165 (.str "law_pb0398_01" 2173),geX "__doc__" 166 (.none),geX "__package__" 167 (.none),geX "__loader__" 168 (.builtin "__main__.__loader__#opaque"),geX "__spec__" 169 (.none), 
 grX "__annotations__" 170 6,grX "__builtins__" 171 4,geX "__file__" 173 (.str "/claim/cut.py" 172),geX "__cached__" 174 (.none),grX "_wall" 193 21,grX "Node" 233 39,grX "const" 242 50, 
 grX "is_designator" 249 57,grX "root_var" 256 64,grX "is_readonly" 264 71,grX "same_type" 274 78,grX "is_integer" 281 85,grX "is_scalar" 288 92,grX "is_text" 295 99,grX "is_open" 302 106, 
 grX "record_of" 309 113,grX "extends" 319 120,grX "equal_types" 327 127,grX "equal_procs" 338 134,grX "equal_arrays" 346 141,grX "assignable_string" 354 148,grX "assignable_proc" 362 155, 
 grX "assignable" 371 162,grX "passable_variable" 381 169,grX "passable_structure" 391 176]
 ++ [grX "passable" 399 183,grX "index_of" 413 190,grX "field_named" 422 197,grX "field_of" 434 204,grX "deref_of" 444 211,grX "guard_code" 454 218,grX "guard_of" 466 225,grX "is_test" 478 232, 
 grX "qualident" 491 239,grX "object_node" 500 246,grX "variable_node" 509 253,grX "designator" 520 260,grX "selectors" 531 267,grX "guarded" 542 274,grX "convert" 556 281, 
 grX "argument" 567 288,grX "use_code" 575 533,grX "use_code_checkassign" 576 295,grX "call_node" 592 302,geX "FULL" 596 (.int 4294967295 595),grX "wrap" 604 309,grX "fits" 611 316, 
 grX "checked" 618 323,grX "fold_unary" 626 330,grX "fold_division" 635 337,grX "fold_binary" 644 344,grX "up_to_end" 652 351,grX "order_of" 661 358,grX "fold_relation" 674 365, 
 grX "mask_range" 682 372]
 ++ [grX "fold_shift" 692 379,grX "is_const" 701 498,grX "is_const_checkops" 702 386,grX "wrong" 712 393,grX "unary" 724 400,grX "unary_node" 737 407,grX "binary" 749 414,grX "binary_node" 763 421, 
 grX "element_code" 770 428,grX "constant_mask" 778 435,grX "setnode" 794 442,grX "is_letter" 803 1097,grX "is_letter_checkrel" 804 449,grX "as_char" 812 456,grX "compared" 824 463, 
 grX "referred" 837 470,grX "relation" 850 477,grX "folded" 864 608,grX "folded_checkrel" 865 484,grX "member" 876 491,grX "is_const_checkstd" 886 498,grX "wanted_count" 893 505, 
 grX "is_function" 900 512,grX "result_type" 909 519,grX "std_call" 922 526,grX "use_code_checkstd" 934 533,grX "marked" 943 540,grX "integer_code" 950 547,grX "variable_code" 957 554, 
 grX "range_code" 965 561]
 ++ [grX "function_code" 976 568,grX "is_letter_checkstd" 984 575,grX "ord_code" 991 582,grX "is_plain" 998 589,grX "val_code" 1006 596,grX "function_node" 1012 601,grX "folded_checkstd" 1022 608, 
 grX "val_node" 1032 615,grX "val_value" 1040 622,grX "statement_code" 1051 629,grX "target_code" 1059 636,grX "statement_node" 1070 643,grX "expression" 1081 650,grX "type_test" 1092 657, 
 grX "simple_expression" 1101 664,grX "term" 1110 671,grX "factor" 1120 678,grX "named_factor" 1129 685,grX "std_factor" 1138 692,grX "arguments" 1147 699,grX "type_arguments" 1155 706, 
 grX "type_argument" 1164 713,grX "set_constructor" 1173 720,grX "set_element" 1181 727,grX "const_expression" 1189 734,grX "alignment" 1198 741,grX "align" 1207 748,grX "whole_words" 1214 755, 
 grX "place_fields" 1223 762,grX "param_words" 1230 769]
 ++ [grX "pointer_offsets" 1241 776,grX "record_pointers" 1251 783,grX "distinct" 1260 790,grX "Type" 1304 807,grX "Obj" 1349 828,grX "Types" 1408 864,geX "MOST_BYTES" 1412 (.int 16384 1411), 
 geX "MOST_WORDS" 1414 (.int 60 1413),geX "MOST_LEVEL" 1416 (.int 3 1415),grX "export_mark" 1423 875,grX "marked_names" 1433 882,grX "plain_names" 1443 889,grX "type_name" 1452 896, 
 grX "type_of" 1460 903,grX "length_of" 1469 910,grX "array_type" 1483 917,grX "base_type" 1493 924,grX "has_field" 1502 931,grX "field_list" 1517 938,grX "record_type" 1528 945, 
 grX "is_undeclared" 1537 952,grX "pointer_type" 1548 959,grX "resolve_forwards" 1559 966,grX "proc_type" 1568 973,grX "formal_type" 1578 980,grX "words_of" 1587 987,grX "section" 1593 992, 
 grX "result_of" 1602 999,grX "parameters" 1612 1006,grX "entered" 1626 1013]
 ++ [grX "type_declarations" 1638 1020,grX "ErrorList" 1692 1058,geX "MOST_INTEGER" 1696 (.int 2147483647 1695),geX "MOST_WORD" 1698 (.int 4294967295 1697),grX "Token" 1731 1079, 
 grX "keywords" 1737 1090,grX "is_letter_scanner" 1745 1097,grX "is_digit" 1752 1104,grX "is_hex_digit" 1759 1111,grX "digits_value" 1770 1118,grX "Scanner" 1926 1227,grX "Scope" 1962 1248, 
 grX "Scopes" 2049 1311,grX "std_functions" 2057 1322,grX "std_procedures" 2063 1329,grX "fill" 2072 1336,grX "Reader" 2172 1403,grX "_law_pool" 2187 1414,grX "_law_pick" 2196 1421, 
 grX "_law_field" 2202 1426,grX "law" 2208 1431]
noncomputable def K4 (P:Params):Frag:=[(1245,fmX 1244 (inSt 174 0) 12 (.none) "Scope.__init__"),(1244,cmX 1244 (inSt 174 0) 5 1941 1948 "Scope.__init__"),(1266,fmX 1265 (inSt 175 0) 12 (.none) "Scopes.__init__"), 
 (1265,cmX 1265 (inSt 175 0) 5 1975 1982 "Scopes.__init__"),(1273,fmX 1272 (inSt 175 1) 12 (.none) "Scopes.open"),(1272,cmX 1272 (inSt 175 1) 5 1984 1991 "Scopes.open"), 
 (1294,fmX 1293 (inSt 175 4) 12 (.none) "Scopes.add"),(1293,cmX 1293 (inSt 175 4) 5 2008 2015 "Scopes.add"),(1301,fmX 1300 (inSt 175 5) 12 (.none) "Scopes.insert"), 
 (1300,cmX 1300 (inSt 175 5) 5 2017 2027 "Scopes.insert"),(1308,fmX 1307 (inSt 175 6) 12 (.none) "Scopes.find"),(1307,cmX 1307 (inSt 175 6) 5 2029 2036 "Scopes.find"), 
 (1322,fnX 1321 (topSt 177) 8),(1321,cdX 1321 (topSt 177) 5 2052 2056),(1329,fnX 1328 (topSt 178) 8),(1328,cdX 1328 (topSt 178) 5 2058 2062),(1336,fnX 1335 (topSt 179) 8), 
 (1335,cdX 1335 (topSt 179) 5 2064 2071),(1351,fmX 1350 (inSt 181 0) 13 (.ref 1344) "Reader.__init__"),(1350,cmX 1350 (inSt 181 0) 5 2087 2096 "Reader.__init__"), 
 (1344,{ cls:=.type "tuple",data:=.seq #[.none] }),(1358,fmX 1357 (inSt 181 1) 13 (.none) "Reader.step"),(1357,cmX 1357 (inSt 181 1) 5 2098 2104 "Reader.step"), 
 (1365,fmX 1364 (inSt 181 2) 13 (.none) "Reader.at"),(1364,cmX 1364 (inSt 181 2) 5 2106 2112 "Reader.at"),(1372,fmX 1371 (inSt 181 3) 13 (.none) "Reader.skip"), 
 (1371,cmX 1371 (inSt 181 3) 5 2114 2120 "Reader.skip"),(1379,fmX 1378 (inSt 181 4) 13 (.none) "Reader.expect"),(1378,cmX 1378 (inSt 181 4) 5 2122 2129 "Reader.expect"), 
 (1393,fmX 1392 (inSt 181 6) 13 (.none) "Reader.name"),(1392,cmX 1392 (inSt 181 6) 5 2139 2144 "Reader.name"),(1414,fnX 1413 (topSt 183) 9),(1413,cdX 1413 (topSt 183) 5 2175 2186), 
 (1421,fnX 1420 (topSt 184) 9),(1420,cdX 1420 (topSt 184) 5 2188 2195),(1426,fnX 1425 (topSt 185) 9),(1425,cdX 1425 (topSt 185) 3 2197 2201),(1431,fnX 1430 (topSt 186) 9), 
 (1430,cdX 1430 (topSt 186) 3 2203 2207),(1428,{ cls:=.none,data:=.fields #[] })]
noncomputable def K3 (P:Params):Frag:=(1096,cdX 1096 (topSt 167) 5 1738 1743) :: (1104,fnX 1103 (topSt 169) 7) :: (1103,cdX 1103 (topSt 169) 5 1746 1751) :: (1111,fnX 1110 (topSt 170) 7) :: (1110,cdX 1110 (topSt 170) 5 1753 1758) :: 
 (1118,fnX 1117 (topSt 171) 7) :: (1117,cdX 1117 (topSt 171) 5 1760 1769) :: (1132,fmX 1131 (inSt 172 0) 7 (.none) "Scanner.__init__") :: 
 (1131,cmX 1131 (inSt 172 0) 5 1783 1790 "Scanner.__init__") :: (1140,fmX 1139 (inSt 172 1) 7 (.ref 1133) "Scanner.char") :: (1139,cmX 1139 (inSt 172 1) 5 1793 1799 "Scanner.char") :: 
 (1133,{ cls:=.type "tuple",data:=.seq #[.int 0 1792] }) :: (1147,fmX 1146 (inSt 172 2) 7 (.none) "Scanner.take") :: (1146,cmX 1146 (inSt 172 2) 5 1801 1809 "Scanner.take") :: 
 (1154,fmX 1153 (inSt 172 3) 7 (.none) "Scanner.skip") :: (1153,cmX 1153 (inSt 172 3) 5 1811 1817 "Scanner.skip") :: (1168,fmX 1167 (inSt 172 5) 7 (.none) "Scanner.word") :: 
 (1167,cmX 1167 (inSt 172 5) 5 1829 1837 "Scanner.word") :: (1175,fmX 1174 (inSt 172 6) 7 (.none) "Scanner.numeral") :: (1174,cmX 1174 (inSt 172 6) 5 1839 1849 "Scanner.numeral") :: 
 (1182,fmX 1181 (inSt 172 7) 7 (.none) "Scanner.whole") :: (1181,cmX 1181 (inSt 172 7) 5 1851 1859 "Scanner.whole") :: (1224,fmX 1223 (inSt 172 13) 7 (.none) "Scanner.symbol") :: 
 (1223,cmX 1223 (inSt 172 13) 5 1907 1913 "Scanner.symbol") :: (1076,fmX 1075 (inSt 165 0) 7 (.none) "Token.__init__") :: (1075,cmX 1075 (inSt 165 0) 5 1711 1719 "Token.__init__") :: 
 (36,fmX 35 (inSt 2 0) 1 (.ref 29) "Node.__init__") :: (35,cmX 35 (inSt 2 0) 5 208 218 "Node.__init__") :: (29,{ cls:=.type "tuple",data:=.seq #[.none] }) :: 
 (804,fmX 803 (inSt 130 0) 10 (.none) "Type.__init__") :: (803,cmX 803 (inSt 130 0) 5 1275 1283 "Type.__init__") :: (825,fmX 824 (inSt 131 0) 10 (.none) "Obj.__init__") :: 
 (824,cmX 824 (inSt 131 0) 5 1317 1326 "Obj.__init__") :: (846,fmX 845 (inSt 132 0) 10 (.none) "Types.__init__") :: (845,cmX 845 (inSt 132 0) 5 1362 1367 "Types.__init__") :: 
 (854,fmX 853 (inSt 132 1) 10 (.ref 847) "Types.new") :: (853,cmX 853 (inSt 132 1) 5 1371 1381 "Types.new") :: (847,{ cls:=.type "tuple",data:=.seq #[.str "" 1369,.str "" 1370] }) :: 
 (1034,fmX 1033 (inSt 161 0) 11 (.none) "ErrorList.__init__") :: (1033,cmX 1033 (inSt 161 0) 5 1653 1658 "ErrorList.__init__") :: (1055,fmX 1054 (inSt 161 3) 11 (.none) "ErrorList.ok") :: 
 (1054,cmX 1054 (inSt 161 3) 5 1676 1681 "ErrorList.ok") :: K4 P
noncomputable def K2 (P:Params):Frag:=(754,cdX 754 (topSt 123) 5 1208 1213) :: (762,fnX 761 (topSt 124) 4) :: (761,cdX 761 (topSt 124) 5 1215 1222) :: (776,fnX 775 (topSt 126) 4) :: (775,cdX 775 (topSt 126) 5 1231 1240) :: 
 (783,fnX 782 (topSt 127) 4) :: (782,cdX 782 (topSt 127) 5 1242 1250) :: (790,fnX 789 (topSt 128) 4) :: (789,cdX 789 (topSt 128) 5 1252 1259) :: (875,fnX 874 (topSt 137) 5) :: 
 (874,cdX 874 (topSt 137) 5 1417 1422) :: (882,fnX 881 (topSt 138) 5) :: (881,cdX 881 (topSt 138) 5 1424 1432) :: (896,fnX 895 (topSt 140) 5) :: (895,cdX 895 (topSt 140) 5 1444 1451) :: 
 (903,fnX 902 (topSt 141) 5) :: (902,cdX 902 (topSt 141) 5 1453 1459) :: (910,fnX 909 (topSt 142) 5) :: (909,cdX 909 (topSt 142) 5 1461 1468) :: (917,fnX 916 (topSt 143) 5) :: 
 (916,cdX 916 (topSt 143) 5 1470 1482) :: (924,fnX 923 (topSt 144) 5) :: (923,cdX 923 (topSt 144) 5 1484 1492) :: (931,fnX 930 (topSt 145) 5) :: (930,cdX 930 (topSt 145) 5 1494 1501) :: 
 (938,fnX 937 (topSt 146) 5) :: (937,cdX 937 (topSt 146) 5 1503 1516) :: (945,fnX 944 (topSt 147) 5) :: (944,cdX 944 (topSt 147) 5 1518 1527) :: (952,fnX 951 (topSt 148) 5) :: 
 (951,cdX 951 (topSt 148) 5 1529 1536) :: (959,fnX 958 (topSt 149) 5) :: (958,cdX 958 (topSt 149) 5 1538 1547) :: (966,fnX 965 (topSt 150) 5) :: (965,cdX 965 (topSt 150) 5 1549 1558) :: 
 (1013,fnX 1012 (topSt 158) 6) :: (1012,cdX 1012 (topSt 158) 5 1615 1625) :: (1020,fnX 1019 (topSt 159) 6) :: (1019,cdX 1019 (topSt 159) 5 1627 1637) :: (1090,fnX 1089 (topSt 166) 7) :: 
 (1089,cdX 1089 (topSt 166) 5 1732 1736) :: (1097,fnX 1096 (topSt 167) 7) :: K3 P
noncomputable def KK (P:Params):Frag:=(3,dcO P gL 171) :: (1227,tyX 1227 "Scanner" 1771) :: 
 (1226,dcO P [geX "__module__" 1778 (.str "moduleyard.scanner" 1693),geX "__firstlineno__" 1782 (.int 1247 1781),grX "__init__" 1791 1132,grX "char" 1800 1140,grX "take" 1810 1147,grX "skip" 1818 1154,grX "remark" 1828 1161,grX "word" 1838 1168,grX "numeral" 1850 1175,grX "whole" 1860 1182,grX "hexadecimal" 1870 1189,grX "character" 1880 1196,grX "real" 1889 1203,grX "skip_digits" 1896 1210,grX "string" 1906 1217,grX "symbol" 1914 1224,grX "__static_attributes__" 1919 1225,grX "__dict__" 1921 1228,grX "__weakref__" 1923 1229,geX "__doc__" 1924 (.none)] 4) :: 
 (1079,tyX 1079 "Token" 1699) :: 
 (1078,dcO P [geX "__module__" 1706 (.str "moduleyard.scanner" 1693),geX "__firstlineno__" 1710 (.int 1225 1709),grX "__init__" 1720 1076,grX "__static_attributes__" 1724 1077,grX "__dict__" 1726 1080,grX "__weakref__" 1728 1081,geX "__doc__" 1729 (.none)] 4) :: 
 (1403,tyX 1403 "Reader" 2075) :: 
 (1402,dcO P [geX "__module__" 2082 (.str "moduleyard.reader" 2073),geX "__firstlineno__" 2086 (.int 1468 2085),grX "__init__" 2097 1351,grX "step" 2105 1358,grX "at" 2113 1365,grX "skip" 2121 1372,grX "expect" 2130 1379,grX "mark" 2138 1386,grX "name" 2145 1393,grX "skip_to" 2153 1400,grX "__static_attributes__" 2165 1401,grX "__dict__" 2167 1404,grX "__weakref__" 2169 1405,geX "__doc__" 2170 (.none)] 4) :: 
 (807,tyX 807 "Type" 1263) :: 
 (806,dcO P [geX "__module__" 1270 (.str "moduleyard.types" 1261),geX "__firstlineno__" 1274 (.int 895 1273),grX "__init__" 1284 804,grX "__static_attributes__" 1297 805,grX "__dict__" 1299 808,grX "__weakref__" 1301 809,geX "__doc__" 1302 (.none)] 4) :: 
 (864,tyX 864 "Types" 1350) :: 
 (863,dcO P [geX "__module__" 1357 (.str "moduleyard.types" 1261),geX "__firstlineno__" 1361 (.int 927 1360),grX "__init__" 1368 846,grX "new" 1382 854,grX "string" 1391 861,grX "__static_attributes__" 1401 862,grX "__dict__" 1403 865,grX "__weakref__" 1405 866,geX "__doc__" 1406 (.none)] 4) :: 
 (828,tyX 828 "Obj" 1305) :: 
 (827,dcO P [geX "__module__" 1312 (.str "moduleyard.types" 1261),geX "__firstlineno__" 1316 (.int 910 1315),grX "__init__" 1327 825,grX "__static_attributes__" 1342 826,grX "__dict__" 1344 829,grX "__weakref__" 1346 830,geX "__doc__" 1347 (.none)] 4) :: 
 (1311,tyX 1311 "Scopes" 1963) :: 
 (1310,dcO P [geX "__module__" 1970 (.str "moduleyard.scopes" 1927),geX "__firstlineno__" 1974 (.int 1404 1973),grX "__init__" 1983 1266,grX "open" 1992 1273,grX "close" 2000 1280,grX "current" 2007 1287,grX "add" 2016 1294,grX "insert" 2028 1301,grX "find" 2037 1308,grX "__static_attributes__" 2042 1309,grX "__dict__" 2044 1312,grX "__weakref__" 2046 1313,geX "__doc__" 2047 (.none)] 4) :: 
 (1248,tyX 1248 "Scope" 1929) :: 
 (1247,dcO P [geX "__module__" 1936 (.str "moduleyard.scopes" 1927),geX "__firstlineno__" 1940 (.int 1396 1939),grX "__init__" 1949 1245,grX "__static_attributes__" 1955 1246,grX "__dict__" 1957 1249,grX "__weakref__" 1959 1250,geX "__doc__" 1960 (.none)] 4) :: 
 (1058,tyX 1058 "ErrorList" 1641) :: 
 (1057,dcO P [geX "__module__" 1648 (.str "moduleyard.errors" 1639),geX "__firstlineno__" 1652 (.int 1204 1651),grX "__init__" 1659 1034,grX "mark" 1668 1041,grX "first" 1675 1048,grX "ok" 1682 1055,grX "__static_attributes__" 1685 1056,grX "__dict__" 1687 1059,grX "__weakref__" 1689 1060,geX "__doc__" 1690 (.none)] 4) :: 
 (39,tyX 39 "Node" 196) :: 
 (38,dcO P [geX "__module__" 203 (.str "moduleyard.trees" 194),geX "__firstlineno__" 207 (.int 5 206),grX "__init__" 219 36,grX "__static_attributes__" 226 37,grX "__dict__" 228 40,grX "__weakref__" 230 41,geX "__doc__" 231 (.none)] 4) :: 
 (85,fnX 84 (topSt 9) 0) :: (84,cdX 84 (topSt 9) 5 275 280) :: (50,fnX 49 (topSt 3) 1) :: (49,cdX 49 (topSt 3) 5 234 241) :: (239,fnX 238 (topSt 33) 2) :: (238,cdX 238 (topSt 33) 5 481 490) :: 
 (650,fnX 649 (topSt 107) 3) :: (649,cdX 649 (topSt 107) 5 1073 1080) :: (664,fnX 663 (topSt 109) 3) :: (663,cdX 663 (topSt 109) 5 1093 1100) :: (671,fnX 670 (topSt 110) 3) :: 
 (670,cdX 670 (topSt 110) 5 1102 1109) :: (678,fnX 677 (topSt 111) 3) :: (677,cdX 677 (topSt 111) 5 1111 1119) :: (734,fnX 733 (topSt 119) 3) :: (733,cdX 733 (topSt 119) 5 1182 1188) :: 
 (741,fnX 740 (topSt 121) 4) :: (740,cdX 740 (topSt 121) 5 1192 1197) :: (748,fnX 747 (topSt 122) 4) :: (747,cdX 747 (topSt 122) 5 1199 1206) :: (755,fnX 754 (topSt 123) 4) :: K2 P
noncomputable def gCut (m:Nat) (o:List (Nat × Value)):List (Str × Nat × Value):=(gL.take m).zipIdx.map fun x=>match o.lookup x.2 with
 | some v=>(x.1.1,x.1.2.1,v)
 | none=>x.1
noncomputable def cdL:List (Nat × Nat):=[(1,20),(5,27),(14,49),(16,56),(20,63),(26,70),(30,77),(32,84),(34,91),(36,98),(38,105),(40,112),(46,119),(58,126),(66,133),(77,140),(83,147),(91,154),(95,161), 
 (110,168),(123,175),(134,182),(141,189),(152,196),(159,203),(170,210),(175,217),(190,224),(196,231),(203,238),(222,245),(235,252),(242,259),(250,266),(268,273), 
 (280,280),(285,287),(291,294),(298,301),(320,308)]
 ++ [(323,315),(325,322),(329,329),(335,336),(339,343),(355,350),(358,357),(365,364),(380,371),(384,378),(394,385),(397,392),(400,399),(413,406),(420,413),(434,420), 
 (441,427),(447,434),(452,441),(470,448),(473,455),(477,462),(494,469),(510,476),(526,483),(532,490),(544,497),(547,504),(553,511),(555,518),(563,525),(578,532), 
 (588,539),(592,546),(596,553),(602,560),(606,567),(624,574),(627,581),(631,588)]
 ++ [(633,595),(637,600),(658,607),(674,614),(680,621),(688,628),(700,635),(706,642),(712,649),(722,656),(730,663),(741,670),(747,677),(773,684),(784,691),(793,698), 
 (802,705),(809,712),(817,719),(827,726),(832,733),(839,740),(843,747),(846,754),(848,761),(859,768),(864,775),(879,782),(888,789),(895,796),(910,817),(927,838), 
 (958,874),(965,881),(975,888),(985,895),(1000,902),(1010,909),(1020,916),(1038,923)]
 ++ [(1050,930),(1057,937),(1072,944),(1086,951),(1091,958),(1106,965),(1118,972),(1123,979),(1136,986),(1141,991),(1163,998),(1170,1005),(1185,1012),(1192,1019),(1204,1026), 
 (1225,1068),(1231,1089),(1233,1096),(1236,1103),(1238,1110),(1240,1117),(1247,1124),(1396,1237),(1404,1258),(1452,1321),(1454,1328),(1456,1335),(1468,1342),(1519,1413), 
 (1534,1420),(1544,1425),(1558,1430)]
noncomputable def cdO (m:Nat):Obj:={ cls:=.none,data:=.fields ((cdL.take m).flatMap fun x=>[Value.int x.1 0,.int 0 0,.ref x.2]).toArray }
set_option backward.match.sparseCases true
noncomputable def sts:List Stmt:=behindTheImports pP
noncomputable def e1:Env:={ scope:=pP.main.scope,locals:=mainNs,globals:=mainNs,cells:=[],code:=.ref 13,frame:=some 14 }
noncomputable def bld (f:Nat → Obj) (n:Nat):Nat → Nat → Nat → BT
 | 0,_,_=>.nil
 | k + 1,s,b=>match Nat.blt b n with
  | true=>.node (f b) (bld f n k (2 * s) (b + s)) (bld f n k (2 * s) (b + 2 * s))
  | false=>.nil
noncomputable def lowO (P:Params) (g3 g12:Obj):List Obj:=[boot_o_0 P,boot_o_1 P,boot_o_2 P,g3,boot_o_4 P,boot_o_5 P,boot_o_6 P,boot_o_7 P,boot_o_8 P,boot_o_9 P,boot_o_10 P,
 { cls:=.type "tuple",data:=.seq #[] },g12,
 { cls:=.type "code",data:=.fields #[.str "<module>" 182,.str "<module>" 183,.str "/claim/cut.py" 184,.int 1 0,.int 0 0,.int 0 0,.int 0 0,.int 0 0,.ref 11,.bool false,.int 181 0,.ref 12,.none,.none,.none,.none,.int 185 0,.int 1 0,.str "/claim/cut.py" 186] },
 { cls:=.type "frame",slots:=#[some (.ref 13),some (.ref 3),some (.ref 3),none,some (.str "__main__" 164),none,some (.ref 0)] }]
noncomputable def low (l:List Obj) (f:Nat → Obj) (i:Nat):Obj:=match Nat.blt i 15 with
 | true=>l.getD i default
 | false=>f i
noncomputable def sT (l:List Obj) (n k:Nat) (os:OsState) (f:Nat → Obj):SharedT:={ tree:=bld (low l f) n 11 1 0,n:=n,life:={ },gens:=Array.mk [],drawn:={ },toks:=k,os:=os }
noncomputable def seg (w:World) (s:SharedT) (l:List Stmt) (p:Pos):Option (Flow × SharedT × Code × Pos):=PySem.W.Fast.tw10110043849684766642 treeTable pP w 11 (some (.ref 6)) 1 2300 s (piecesOf l e1 (Code.body sts e1) p [topFrame ⟨0,0,0,0⟩])
noncomputable def outF (r:Option (Flow × SharedT × Code × Pos)) (i:Nat):Obj:=match r with
 | some x=>(x.2.1.tree.get i).getD default
 | none=>default
noncomputable def lw0 (P:Params):List Obj:=lowO P (boot_o_3 P) { cls:=.none,data:=.fields #[] }
noncomputable def lw1 (P:Params):List Obj:=lowO P (dcO P (gCut 65 [(0,.str "moduleyard.checkops" 693),(46,.ref 295),(61,.ref 386)]) 65) (cdO 53)
noncomputable def lw2 (P:Params):List Obj:=lowO P (dcO P (gCut 123 [(0,.str "moduleyard.types" 1261),(71,.ref 575)]) 123) (cdO 109)
noncomputable def lw3 (P:Params):List Obj:=lowO P (dcO P (gCut 160 [(0,.str "moduleyard.scanner" 1693)]) 160) (cdO 141)
noncomputable def lw4 (P:Params):List Obj:=lowO P (dcO P gL 171) (cdO 152)
noncomputable def kR (P:Params) (a b:Nat):Frag:=(KK P).filter fun x=>Nat.ble a x.1 && Nat.blt x.1 b
noncomputable abbrev r1 (w:World) (os:OsState) (f:Nat → Obj):=seg w (sT (lw0 w.params) 15 187 os f) (sts.take 63) ⟨0,0,0,0⟩
noncomputable abbrev r2 (w:World) (os:OsState) (f:Nat → Obj):=seg w (sT (lw1 w.params) 401 725 os f) ((sts.drop 63).take 67) ⟨400,0,412,15⟩
noncomputable abbrev r3 (w:World) (os:OsState) (f:Nat → Obj):=seg w (sT (lw2 w.params) 791 1263 os f) ((sts.drop 130).take 42) ⟨894,0,894,8⟩
noncomputable abbrev r4 (w:World) (os:OsState) (f:Nat → Obj):=seg w (sT (lw3 w.params) 1119 1771 os f) (sts.drop 172) ⟨1240,0,1246,16⟩
noncomputable def okR (P:Params) (r r' : Option (Flow × SharedT × Code × Pos)) (a b:Nat) (f:Nat → Obj):Prop:=
 (r,(kR P 15 a).map (fun x=>outF r x.1),(kR P a b).map fun x=>outF r x.1) = (r',(kR P 15 a).map (fun x=>f x.1),(kR P a b).map (·.2))
noncomputable def endR (s:SharedT) (p:Pos):Option (Flow × SharedT × Code × Pos):=some (.next,s,Code.body sts e1,p)
theorem seg1 (w:World) (os:OsState) (f:Nat → Obj):okR w.params (r1 w os f) (endR (sT (lw1 w.params) 401 725 os (outF (r1 w os f))) ⟨400,0,412,15⟩) 15 401 f:=by unfold okR;kernel_rfl
theorem seg2 (w:World) (os:OsState) (f:Nat → Obj):okR w.params (r2 w os f) (endR (sT (lw2 w.params) 791 1263 os (outF (r2 w os f))) ⟨894,0,894,8⟩) 401 791 f:=by unfold okR;kernel_rfl
theorem seg3 (w:World) (os:OsState) (f:Nat → Obj):okR w.params (r3 w os f) (endR (sT (lw3 w.params) 1119 1771 os (outF (r3 w os f))) ⟨1240,0,1246,16⟩) 791 1119 f:=by unfold okR;kernel_rfl
theorem seg4 (w:World) (os:OsState) (f:Nat → Obj):okR w.params (r4 w os f) (endR (sT (lw4 w.params) 1432 2209 os (outF (r4 w os f))) ⟨1558,0,1617,83⟩) 1119 1432 f:=by unfold okR;kernel_rfl
noncomputable def S0 (w:World) (os:OsState):Shared:=⟨boot_heap w.params,Array.mk [],boot_drawn,boot_toks,os⟩
noncomputable def fD (_:Nat):Obj:=default
noncomputable def Sa (w:World) (os:OsState):Shared:=(sT (lw0 w.params) 15 187 os fD).abs
noncomputable def thA:Thread:=⟨denote treeTable (Code.body sts e1),Code.body sts e1,⟨0,0,0,0⟩,[topFrame ⟨0,0,0,0⟩]⟩
theorem pre_b (w:World) (os:OsState):topGo treeTable pP w 11 (some (.ref 6)) 12 (S0 w os) (topStub pP) = some (Sa w os,thA):=by kernel_rfl
theorem blk (w:World) (os:OsState):segRun treeTable pP w 11 (some (.ref 6)) 1 1 (Sa w os) (blockOf sts e1 (Code.body sts e1) ⟨0,0,0,0⟩ [topFrame ⟨0,0,0,0⟩]) = some (Flow.next,Sa w os,Code.body sts e1,⟨0,0,0,0⟩):=by kernel_rfl
theorem fin_b (w:World) (Z:Shared):topRun treeTable pP w 11 (some (.ref 6)) 2 Z ⟨doneF .next,Code.body sts e1,⟨1558,0,1617,83⟩,[topFrame ⟨0,0,0,0⟩]⟩ = some Z:=by kernel_rfl
theorem sts_cut (l:List Stmt):l = l.take 63 ++ ((l.drop 63).take 67 ++ ((l.drop 130).take 42 ++ (l.drop 172 ++ []))):=by
 have a:=List.take_append_drop 63 l
 have b:=List.take_append_drop 67 (l.drop 63)
 have c:=List.take_append_drop 42 (l.drop 130)
 rw [List.drop_drop] at b c
 rw [List.append_nil,c,b,a]
theorem seg_to {w:World} {s s' : SharedT} {l:List Stmt} {p p' : Pos} (h:seg w s l p = endR s' p') :
  segRun treeTable pP w 11 (some (.ref 6)) 1 2300 s.abs (piecesOf l e1 (Code.body sts e1) p [topFrame ⟨0,0,0,0⟩]) = some (.next,s'.abs,Code.body sts e1,p'):=by
 refine segRun_of ?_
 rw [PySem.W.Fast.te10110043849684766642]
 exact h
theorem seg_ok {w:World} {P:Params} {s s' : SharedT} {l:List Stmt} {p p' : Pos} {a b:Nat} {f:Nat → Obj} (h:okR P (seg w s l p) (endR s' p') a b f) (h1:∀ x ∈ KK P,15 ≤ x.1 → x.1 < a → f x.1 = x.2) :
  segRun treeTable pP w 11 (some (.ref 6)) 1 2300 s.abs (piecesOf l e1 (Code.body sts e1) p [topFrame ⟨0,0,0,0⟩]) = some (.next,s'.abs,Code.body sts e1,p') ∧ ∀ x ∈ KK P,15 ≤ x.1 → x.1 < b → outF (seg w s l p) x.1 = x.2:=by
 obtain ⟨b1,c1⟩:=Prod.mk.inj h
 refine ⟨seg_to b1,fun x hx h15 hb=>?_⟩
 by_cases q:x.1 < a
 ·rw [← h1 x hx h15 q]
  exact List.map_inj_left.mp (Prod.mk.inj c1).1 x (List.mem_filter.mpr ⟨hx,by rw [Nat.ble_eq_true_of_le h15,Bool.true_and];exact Nat.ble_eq_true_of_le q⟩)
 ·exact List.map_inj_left.mp (Prod.mk.inj c1).2 x (List.mem_filter.mpr ⟨hx,by rw [Nat.ble_eq_true_of_le (Nat.le_of_not_lt q),Bool.true_and];exact Nat.ble_eq_true_of_le hb⟩)
theorem kk_under (P:Params):(KK P).all (fun x=>Nat.blt x.1 1432) = true:=by kernel_rfl
theorem run_four {w:World} {s0 a b c d:SharedT} {p1 p2 p3:Pos} {N1:Nat} {s:Shared}
  (k0:topGo treeTable pP w 11 (some (.ref 6)) N1 s (topStub pP) = some (s0.abs,thA)) (kb:segRun treeTable pP w 11 (some (.ref 6)) 1 1 s0.abs (blockOf sts e1 (Code.body sts e1) ⟨0,0,0,0⟩ [topFrame ⟨0,0,0,0⟩]) = some (Flow.next,s0.abs,Code.body sts e1,⟨0,0,0,0⟩))
  (k1:segRun treeTable pP w 11 (some (.ref 6)) 1 2300 s0.abs (piecesOf (sts.take 63) e1 (Code.body sts e1) ⟨0,0,0,0⟩ [topFrame ⟨0,0,0,0⟩]) = some (.next,a.abs,Code.body sts e1,p1))
  (k2:segRun treeTable pP w 11 (some (.ref 6)) 1 2300 a.abs (piecesOf ((sts.drop 63).take 67) e1 (Code.body sts e1) p1 [topFrame ⟨0,0,0,0⟩]) = some (.next,b.abs,Code.body sts e1,p2))
  (k3:segRun treeTable pP w 11 (some (.ref 6)) 1 2300 b.abs (piecesOf ((sts.drop 130).take 42) e1 (Code.body sts e1) p2 [topFrame ⟨0,0,0,0⟩]) = some (.next,c.abs,Code.body sts e1,p3))
  (k4:segRun treeTable pP w 11 (some (.ref 6)) 1 2300 c.abs (piecesOf (sts.drop 172) e1 (Code.body sts e1) p3 [topFrame ⟨0,0,0,0⟩]) = some (.next,d.abs,Code.body sts e1,⟨1558,0,1617,83⟩)) :
  topRun treeTable pP w 11 (some (.ref 6)) (N1 + (1 + (2300 + (2300 + (2300 + (2300 + 2)))))) s (topStub pP) = some d.abs:=by
 have j:=piece_app k1 (piece_app k2 (piece_app k3 (piece_app (rest:=[]) k4 (fin_b w d.abs))))
 rw [← sts_cut] at j
 exact go_top k0 (piece_block kb j)
theorem run_ex (w:World) (os:OsState):∃ f:Nat → Obj,topRun treeTable pP w 11 (some (.ref 6)) (12 + (1 + (2300 + (2300 + (2300 + (2300 + 2)))))) (S0 w os) (topStub pP) = some (sT (lw4 w.params) 1432 2209 os f).abs ∧ ∀ x ∈ KK w.params,15 ≤ x.1 → f x.1 = x.2:=by
 obtain ⟨k1,d1⟩:=seg_ok (seg1 w os fD) fun x _ h q=>absurd q (Nat.not_lt.mpr h)
 obtain ⟨k2,d2⟩:=seg_ok (seg2 w os _) d1
 obtain ⟨k3,d3⟩:=seg_ok (seg3 w os _) d2
 obtain ⟨k4,d4⟩:=seg_ok (seg4 w os _) d3
 exact ⟨_,run_four (pre_b w os) (blk w os) k1 k2 k3 k4,fun x hx h=>d4 x hx h (Nat.le_of_ble_eq_true (List.all_eq_true.mp (kk_under w.params) x hx))⟩
noncomputable def kf (P:Params) (f:Nat → Obj) (i:Nat):Obj:=match (KK P).lookup i with
 | some o=>o
 | none=>f i
noncomputable def H1 (P:Params) (f:Nat → Obj):Heap:=absHeap (bld (low (lw4 P) (kf P f)) 1432 11 1 0) 1432 { }
noncomputable abbrev Sz (w:World) (os:OsState) (f:Nat → Obj):Shared:=⟨H1 w.params f,Array.mk [],{ },2209,os⟩
theorem lk_mem0 {a:Nat} {o:Obj}:∀ {l:Frag},l.lookup a = some o → (a,o) ∈ l
 | [],h=>by cases h
 | (x,y) :: r,h=>by
  rw [List.lookup_cons] at h
  cases q:a == x with
  | true=>
   rw [q] at h
   cases h
   rw [eq_of_beq q]
   exact .head _
  | false=>rw [q] at h;exact .tail _ (lk_mem0 h)
theorem low_kf {P:Params} {l:List Obj} {f:Nat → Obj} (h:∀ x ∈ KK P,15 ≤ x.1 → f x.1 = x.2):low l f = low l (kf P f):=by
 funext i
 unfold low
 cases q:Nat.blt i 15 with
 | true=>rfl
 | false=>
  show f i = kf P f i
  unfold kf
  cases e:(KK P).lookup i with
  | none=>rfl
  | some o=>exact h (i,o) (lk_mem0 e) (Nat.le_of_not_lt fun r=>by rw [show Nat.blt i 15 = true from Nat.ble_eq_true_of_le r] at q;cases q)
theorem run_H (w:World) (os:OsState):∃ f:Nat → Obj,topRun treeTable pP w 11 (some (.ref 6)) (12 + (1 + (2300 + (2300 + (2300 + (2300 + 2)))))) (S0 w os) (topStub pP) = some (Sz w os f):=by
 obtain ⟨f,e,h⟩:=run_ex w os
 refine ⟨f,e.trans ?_⟩
 unfold sT Sz H1
 rw [low_kf h];rfl
noncomputable def lawDef:Stmt:=pP.main.body.getLast?.getD (.Pass ⟨0,0,0,0⟩)
noncomputable def qq:Program:={ pP with main:={ pP.main with body:=[lawDef] } }
noncomputable def looseL:List Str:=(pP.main.scope.names.map (·.1)).filter fun x=>!(x == ("law" : Str))
theorem isNs_of {h:Heap} {a:Addr} {o:Obj} {es:Array DictEntry} {n:Nat} (ho:h.get? a = some o) (hd:o.data = .dict es n) (he:(es.toList.all fun e=>match e.key with | .str _ _=>true | _=>false) = true):h.isNs a = true:=by
 unfold Heap.isNs
 rw [ho]
 show (match o.data with | .dict es _=>es.all (fun e=>match e.key with | .str _ _=>true | _=>false) | _=>false) = true
 rw [hd]
 show es.all _ = true
 rw [← Array.all_toList];exact he
theorem lk_a (P:Params):(boot_heap P).isNs mainGlobals = true:=isNs_of (o:=boot_o_3 P) (by kernel_rfl) rfl (by kernel_rfl)
theorem lk_d (P:Params) (f:Nat → Obj):(H1 P f).isNs mainGlobals = true:=isNs_of (o:=dcO P gL 171) (by kernel_rfl) rfl (by kernel_rfl)
def P0:Params:={ strHash:=fun _=>0,shareClass:=fun _=>0,mergeTok:=fun t=>t,idOf:=fun _=>0,idOfShared:=fun _ _=>0,followText:=fun _=>false,idOfImm:=fun _=>0 }
noncomputable def keysL:List Str:=(H1 P0 fD).nsKeys mainGlobals
theorem keys_eq (P:Params) (f:Nat → Obj):(H1 P f).nsKeys mainGlobals = keysL:=by kernel_rfl
theorem nb:(keysL.all fun k=>startupNames.contains k || pP.boundNames.contains k) = true:=by decide +kernel
theorem lk_bound (P:Params) (f:Nat → Obj):namesBound pP (H1 P f) = true:=by
 unfold namesBound
 rw [lk_d,keys_eq,nb];rfl
theorem lk_f (P:Params) (f:Nat → Obj):(laidNames.all fun x=>decide ((H1 P f).nsMap mainGlobals x = (boot_heap P).nsMap mainGlobals x)) = true:=by
 have e:∀ x ∈ laidNames,(H1 P f).nsMap mainGlobals x = (boot_heap P).nsMap mainGlobals x:=by
  intro x hx
  simp only [laidNames,List.mem_cons,List.not_mem_nil,or_false] at hx
  rcases hx with rfl | rfl | rfl | rfl | rfl <;> kernel_rfl
 exact List.all_eq_true.mpr fun x hx=>decide_eq_true (e x hx)
theorem lk_kept (P:Params) (f:Nat → Obj):laidKept (boot_heap P) (H1 P f) = true:=by
 unfold laidKept
 rw [lk_a,lk_d,lk_f];rfl
theorem lk_ns0 (P:Params):(boot_heap P).isNs cStatics = true:=isNs_of (o:=boot_o_2 P) (by kernel_rfl) rfl (by kernel_rfl)
theorem lk_ns1 (P:Params) (f:Nat → Obj):(H1 P f).isNs cStatics = true:=isNs_of (o:=boot_o_2 P) (by kernel_rfl) rfl (by kernel_rfl)
theorem lk_nsb (P:Params) (f:Nat → Obj):(H1 P f).isNs builtinsNs = true:=isNs_of (o:=boot_o_0 P) (by kernel_rfl) rfl (by kernel_rfl)
theorem k_st0 (P:Params):(boot_heap P).nsKeys cStatics = []:=by kernel_rfl
noncomputable def st1:List Str:=(H1 P0 fD).nsKeys cStatics
theorem k_st1 (P:Params) (f:Nat → Obj):(H1 P f).nsKeys cStatics = st1:=by kernel_rfl
theorem k_st1b:(st1.all fun k=>k.opensWith "type.__subclasses__." || k.opensWith "type.first-doc.") = true:=by decide +kernel
theorem lk_bv (P:Params) (f:Nat → Obj):(H1 P f).bltView = bltViewBooted:=by kernel_rfl
theorem lk_statics (P:Params) (f:Nat → Obj):staticsOk [] (boot_heap P) (H1 P f) = true:=by
 unfold staticsOk
 rw [lk_ns0,lk_ns1,k_st0,k_st1]
 rw [Bool.and_true,Bool.true_and]
 refine List.all_eq_true.mpr fun k hk=>?_
 have h:=List.all_eq_true.mp k_st1b k hk
 rw [h];rfl
theorem nb2:(keysL.all fun k=>startupNames.contains k || (looseW qq looseL).contains k || ((recsOf qq).map (·.name)).contains k || ((litsOf qq).map (·.1)).contains k || ((clssOf qq (looseW qq looseL)).map (·.name)).contains k) = true:=by decide +kernel
theorem lk_keys (P:Params) (f:Nat → Obj):(H1 P f).keysOk (looseW qq looseL) ((recsOf qq).map (·.name)) ((litsOf qq).map (·.1)) ((clssOf qq (looseW qq looseL)).map (·.name)) = true:=by
 unfold Heap.keysOk
 rw [keys_eq];exact nb2
theorem s5 (w:World) (os:OsState) (f:Nat → Obj):pinSeenD qq (drecsOf qq) (Sz w os f) = pinGoodD (drecsOf qq):=by kernel_rfl
theorem s6 (w:World) (os:OsState) (f:Nat → Obj):plainSeenE qq (looseW qq looseL) (Sz w os f) = plainGoodE qq (looseW qq looseL):=by kernel_rfl
theorem s7 (w:World) (os:OsState) (f:Nat → Obj):plainSeenD qq looseL (Sz w os f) = plainGoodD qq looseL:=by kernel_rfl
theorem s8 (w:World) (os:OsState) (f:Nat → Obj):wideSeen qq (Sz w os f) = wideGood qq:=by kernel_rfl
theorem s9 (w:World) (os:OsState) (f:Nat → Obj):clsSeenW qq looseL (Sz w os f) = clsGoodW qq looseL:=by kernel_rfl
theorem s3 (P:Params) (f:Nat → Obj):tablesOk qq (H1 P f) = true:=by kernel_rfl
theorem k_st1c:(st1.all fun k=>firstUseKey k || runKey k) = true:=by decide +kernel
theorem s3b (P:Params) (f:Nat → Obj):(H1 P f).accountedOkI [] = true:=by
 unfold Heap.accountedOkI
 rw [lk_ns1,k_st1,Bool.true_and]
 refine List.all_eq_true.mpr fun k hk=>?_
 have h:=List.all_eq_true.mp k_st1c k hk
 rw [h];rfl
theorem t_owns:ownsOf qq = []:=by kernel_rfl
theorem t_names:(recsOf qq).map (·.name) = [("law" : Str)]:=by kernel_rfl
theorem t_noLimit (P:Params) (f:Nat → Obj):(H1 P f).noLimitOk = true:=by
 unfold Heap.noLimitOk
 rw [lk_ns1,show (H1 P f).nsMap cStatics "sys.recursionlimit" = none from by kernel_rfl];rfl
theorem t_noDigits (P:Params) (f:Nat → Obj):(H1 P f).noDigitsOk = true:=by
 unfold Heap.noDigitsOk
 rw [lk_ns1,show (H1 P f).nsMap cStatics "sys.int_max_str_digits" = none from by kernel_rfl];rfl
theorem t_bmain (P:Params) (f:Nat → Obj):(H1 P f).bmainOk = true:=by kernel_rfl
theorem t_vals (P:Params) (f:Nat → Obj):valsOk qq (H1 P f) = true:=by kernel_rfl
theorem t_seer (P:Params) (f:Nat → Obj):(H1 P f).noSeerOk = true:=by
 unfold Heap.noSeerOk
 rw [lk_ns1,isNs_of (h:=H1 P f) (a:=sysModules) rfl rfl rfl,show (H1 P f).nsMap cStatics "sys.audit-hooks" = none from by kernel_rfl,show (H1 P f).nsMap cStatics "sys.dict" = none from by kernel_rfl,show (H1 P f).nsMap sysModules "_pylong" = none from by kernel_rfl];rfl
theorem t_shape (P:Params) (f:Nat → Obj):[("law" : Str)].map ((H1 P f).shapeAt mainGlobals) = (recsOf qq).map fun d=>some d.shape:=by kernel_rfl
theorem t_tab (P:Params) (f:Nat → Obj):((recsOf qq).all fun d=>(H1 P f).tab0Ok d.name) = true:=by kernel_rfl
theorem s1 (w:World) (os:OsState) (f:Nat → Obj):seen ((recsOf qq).map (·.name)) (ownsOf qq) [] { Sz w os f with gens:=#[] } = expectedOf qq:=by
 unfold seen expectedOf
 rw [t_owns,t_names]
 show (⟨[("law" : Str)].map ((H1 w.params f).shapeAt mainGlobals),true,[],(H1 w.params f).isNs mainGlobals,(H1 w.params f).isNs builtinsNs,(H1 w.params f).noLimitOk && (H1 w.params f).noDigitsOk,0⟩ : Seen) = _
 rw [t_shape,lk_d,lk_nsb,t_noLimit,t_noDigits];rfl
theorem s4 (w:World) (os:OsState) (f:Nat → Obj):tabsOk qq (Sz w os f) = true:=by
 show (((recsOf qq).all fun d=>(H1 w.params f).tab0Ok d.name) && (H1 w.params f).bmainOk && valsOk qq (H1 w.params f) && (!importsNone qq || (H1 w.params f).noSeerOk)) = true
 rw [t_tab,t_bmain,t_vals,t_seer,Bool.or_true];rfl
theorem lk_mods:importedModules pP.main.body = []:=by kernel_rfl
theorem lk_gens (w:World) (os:OsState) (f:Nat → Obj):gensDone (Sz w os f) = true:=by kernel_rfl
noncomputable def kAd:List Nat:=(KK P0).map (·.1)
noncomputable def obK (s:Shared):List (Option Obj):=kAd.map s.heap.get?
noncomputable def vaK (w:World):List (Option Obj):=kAd.map fun a=>(KK w.params).lookup a
theorem kAd_eq (P:Params):(KK P).map (·.1) = kAd:=by kernel_rfl
theorem obK_eq (P:Params) (f:Nat → Obj):kAd.map (H1 P f).get? = kAd.map fun a=>(KK P).lookup a:=by kernel_rfl
theorem obK_in {w:World} {s:Shared} (e:obK s = vaK w):(KK w.params).In s.heap:=fun a o h=>by
 have ha:a ∈ kAd:=by rw [← kAd_eq w.params];exact List.mem_map.mpr ⟨(a,o),lk_mem0 h,rfl⟩
 exact (List.map_inj_left.mp e a ha).trans h
theorem lk_size (w:World):((boot_heap w.params).isNs mainGlobals && (Array.mk []:Array GenState).size == 0,(boot_heap w.params).objs.size,(boot_heap w.params).nsMap mainGlobals "__annotations__") = (true,11,some (.ref 6)):=by
 rw [lk_a];kernel_rfl
theorem left_ex {p q:Program} {loose:List Str} {Xt:Shared → Bool} {α:Type} {Yf:Shared → α} {Ya:World → α} {N M K:Nat} {g0:Bool} {H₀:Params → Heap} {d₀:Drawn} {k₀ m₀:Nat} {ann:Option Value}
  (open_:∀ w:World,(fencedOpening treeTable p w N).map (fun s=>(s.heap,s.gens,s.drawn,s.toks)) = some (H₀ w.params,Array.mk [],d₀,k₀)) (hN:M + K = N)
  (size:∀ w:World,((H₀ w.params).isNs mainGlobals && (Array.mk []:Array GenState).size == 0,(H₀ w.params).objs.size,(H₀ w.params).nsMap mainGlobals "__annotations__") = (true,m₀,ann))
  (run:∀ (w:World) (os:OsState),∃ s:Shared,topRun treeTable p w m₀ ann M ⟨H₀ w.params,Array.mk [],d₀,k₀,os⟩ (topStub p) = some s ∧
   (staticsOk (importedModules p.main.body) (H₀ w.params) s.heap && namesBound p s.heap && gensDone s && laidKept (H₀ w.params) s.heap) = true ∧ openSeen q loose (importedModules p.main.body) Xt g0 s = openGood q loose ∧ Yf s = Ya w):LeftO p q loose Xt Yf Ya N g0:=fun w=>by
 obtain ⟨⟨h,gs,d,k,os⟩,e,e'⟩:=Option.map_eq_some_iff.mp (open_ w)
 obtain ⟨rfl,rfl,rfl,rfl⟩ : h = H₀ w.params ∧ gs = Array.mk [] ∧ d = d₀ ∧ k = k₀:=by simpa using e'
 obtain ⟨s,r,l1,l2,l3⟩:=run w os
 have r:=topRun_mono K _ _ _ _ r
 rw [hN] at r
 obtain ⟨z1,z2,z3⟩ : _ ∧ _ ∧ _:=by simpa only [Prod.mk.injEq] using size w
 unfold openEnds
 rw [e]
 show (topFrom treeTable p w N _).map _ = _
 unfold topFrom
 dsimp only
 rw [z1,z2,z3,r]
 show (match staticsOk (importedModules p.main.body) (H₀ w.params) s.heap && namesBound p s.heap && gensDone s && laidKept (H₀ w.params) s.heap with | true=>some s | false=>none).map _ = _
 rw [l1]
 exact congrArg some (Prod.ext l2 l3)
theorem seen_of {q:Program} {loose:List Str} {h:Heap} {k:Nat} {os:OsState} (e1:seen ((recsOf q).map (·.name)) (ownsOf q) [] { (⟨h,Array.mk [],{ },k,os⟩ : Shared) with gens:=#[] } = expectedOf q) (e2:h.bltView = bltViewBooted)
  (a1:h.keysOk (looseW q loose) ((recsOf q).map (·.name)) ((litsOf q).map (·.1)) ((clssOf q (looseW q loose)).map (·.name)) = true) (a2:h.accountedOkI [] = true) (a3:h.isNs mainGlobals = true) (a4:h.isNs builtinsNs = true) (a5:tablesOk q h = true)
  (e4:tabsOk q ⟨h,Array.mk [],{ },k,os⟩ = true) (e5:pinSeenD q (drecsOf q) ⟨h,Array.mk [],{ },k,os⟩ = pinGoodD (drecsOf q)) (e6:plainSeenE q (looseW q loose) ⟨h,Array.mk [],{ },k,os⟩ = plainGoodE q (looseW q loose))
  (e7:plainSeenD q loose ⟨h,Array.mk [],{ },k,os⟩ = plainGoodD q loose) (e8:wideSeen q ⟨h,Array.mk [],{ },k,os⟩ = wideGood q) (e9:clsSeenW q loose ⟨h,Array.mk [],{ },k,os⟩ = clsGoodW q loose) :
  openSeen q loose [] (fun _=>true) true ⟨h,Array.mk [],{ },k,os⟩ = openGood q loose:=by
 unfold openSeen openGood
 refine Prod.ext e1 (Prod.ext e2 (Prod.ext ?_ (Prod.ext e4 (Prod.ext e5 (Prod.ext e6 (Prod.ext e7 (Prod.ext e8 e9)))))))
 show (h.keysOk (looseW q loose) ((recsOf q).map (·.name)) ((litsOf q).map (·.1)) ((clssOf q (looseW q loose)).map (·.name)) && h.accountedOkI [] && h.isNs mainGlobals && h.isNs builtinsNs && tablesOk q h && true && true) = true
 rw [a1,a2,a3,a4,a5];rfl
theorem and4 {a b c d:Bool} (h1:a = true) (h2:b = true) (h3:c = true) (h4:d = true):(a && b && c && d) = true:=by rw [h1,h2,h3,h4];rfl
theorem left:LeftO pP qq looseL (fun _=>true) obK vaK 20000 true:=by
 refine left_ex (K:=10785) (boot_open rfl rfl fun s=>rfl) (by rfl) lk_size fun w os=>?_
 obtain ⟨f,r⟩:=run_H w os
 rw [lk_mods]
 exact ⟨_,r,and4 (lk_statics w.params f) (lk_bound w.params f) (lk_gens w os f) (lk_kept w.params f),
  seen_of (s1 w os f) (lk_bv w.params f) (lk_keys w.params f) (s3b w.params f) (lk_d w.params f) (lk_nsb w.params f) (s3 w.params f) (s4 w os f) (s5 w os f) (s6 w os f) (s7 w os f) (s8 w os f) (s9 w os f),obK_eq w.params f⟩
theorem pre_h (said:PySem.Challenge.rw_pb0398_01.row.wellSaid = true) {d:DefRec} {kwd:List (Str × Expr)} (hdef:defOf qq PySem.Challenge.rw_pb0398_01.row.name = some (d,kwd)) (hp:PySem.Challenge.rw_pb0398_01.row.prog.theDef PySem.Challenge.rw_pb0398_01.row.name = some (d.params,d.body,d.scope)) (hk:kwWritten? d.params.kwonlyargs d.params.kw_defaults = some kwd)
  (call:WalkO qq looseL (fun _ _=>True) (fun w h=>(KK w.params).In h) PySem.Challenge.rw_pb0398_01.row.toRowW d kwd fun f vs=>PySem.call f vs):PySem.Challenge.rw_pb0398_01.row.Holds:=by
 refine holds_open (q:=qq) (loose:=looseL) (Xt:=fun _=>true) (XP:=fun _ _=>True) (Yf:=obK) (Ya:=vaK) (YP:=fun w h=>(KK w.params).In h) (N:=20000) left (fun w s e=>obK_in e) (fun w h h' y k b o e=>k b o (y b o e)) (fun _ _=>trivial) (fun _ _ _ _ _=>trivial) hdef hp hk (fun s _=>recFacts_of (R:=[]) (s:=s) rfl) (by rfl) said (by decide +kernel) ⟨rfl,rfl,rfl,rfl,rfl,by decide +kernel⟩ ⟨[.list [.int 3,.int 1]],by decide +kernel,by decide +kernel⟩ call
open Lean Parser.Tactic in
def aR:Syntax:=Unhygienic.run `(tacticSeq| rfl)
open Lean Parser.Tactic in
def aD:Syntax:=Unhygienic.run `(tacticSeq| decide)
open Lean Parser.Tactic in
def aW:Syntax:=Unhygienic.run `(tacticSeq| with_unfolding_all rfl)
open Lean Parser.Tactic in
def aI:Syntax:=Unhygienic.run `(tacticSeq| (intro _;rfl))
open Lean Parser.Tactic in
def aJ:Syntax:=Unhygienic.run `(tacticSeq| (intros;rfl))
open Lean Parser.Tactic in
def aK:Syntax:=Unhygienic.run `(tacticSeq| (intros;with_unfolding_all rfl))
open Lean Parser.Tactic in
def aS:Syntax:=Unhygienic.run `(tacticSeq| simp +arith only)
open Lean Parser.Tactic in
def aN:Syntax:=Unhygienic.run `(tacticSeq| exact Nat.le_of_ble_eq_true rfl)
open Lean Parser.Tactic in
def aZ:Syntax:=Unhygienic.run `(tacticSeq| exact Nat.succ_ne_zero _)
open Lean Parser.Tactic in
def aP:Syntax:=Unhygienic.run `(tacticSeq| exact ⟨rfl,rfl⟩)
theorem bl1 {a b k:Nat} (h:a ≤ b) (h2:autoParam (Nat.ble b k = true) aD):a ≤ k:=Nat.le_trans h (Nat.le_of_ble_eq_true h2)
theorem bl2 {a b k:Nat} (h:a < b) (h2:autoParam (Nat.ble b k = true) aD):a < k:=Nat.lt_of_lt_of_le h (Nat.le_of_ble_eq_true h2)
theorem bl3 {a b k:Nat} (h:a ≤ b) (h2:autoParam (Nat.ble (b + 1) k = true) aD):a < k:=Nat.lt_of_le_of_lt h (Nat.le_of_ble_eq_true h2)
theorem bl4 {a b k:Nat} (h:a < b) (h2:autoParam (Nat.ble b k = true) aD):a ≤ k:=Nat.le_of_lt (bl2 h h2)
theorem om_a {a b k:Nat} (h:autoParam (Nat.ble a b = true) aD):k + a ≤ k + b:=Nat.add_le_add_left (Nat.le_of_ble_eq_true h) k
theorem om_b {a b k:Nat} (h:autoParam (Nat.ble (a + 1) b = true) aD):k + a < k + b:=Nat.add_lt_add_left (Nat.le_of_ble_eq_true h) k
theorem om_c {a k:Nat} (h:autoParam (Nat.ble 1 a = true) aD):k < k + a:=Nat.lt_add_of_pos_right (Nat.le_of_ble_eq_true h)
theorem om_d {a b c:Nat} (h:a + c ≤ b):a ≤ b:=Nat.le_trans (Nat.le_add_right _ _) h
theorem om_f {a b c d:Nat} (h:a + c ≤ b):a ≤ b + d:=Nat.le_trans (om_d h) (Nat.le_add_right _ _)
theorem om_g {a b d:Nat} (h:a ≤ b):a ≤ b + d:=Nat.le_trans h (Nat.le_add_right _ _)
theorem om_h {a b c:Nat} (h:a + (c + 1) ≤ b):a < b:=Nat.lt_of_lt_of_le (Nat.lt_add_of_pos_right (Nat.succ_pos c)) h
theorem om_i {a b c d:Nat} (h:a + c ≤ b) (h2:b ≤ d):a ≤ d:=Nat.le_trans (om_d h) h2
theorem lp1 {a k v:Nat} (h:a + k = v) (h2:a < v):a + 1 + (k - 1) = v:=by omega
theorem lp2 {a k v:Nat} (h:a + k = v) (h2:a < v):k - 1 < k:=by omega
theorem ca1 {n:Nat} {k:Int} (h:autoParam (decide (k ≤ 0) = true) aD):k ≤ (n:Int):=Int.le_trans (of_decide_eq_true h) (Int.natCast_nonneg n)
theorem ca2 {n:Nat} {k:Int} (h:autoParam (decide (k < 0) = true) aD):k < (n:Int):=Int.lt_of_lt_of_le (of_decide_eq_true h) (Int.natCast_nonneg n)
theorem ca3 {n m:Nat} {k:Int} (h:n ≤ m) (d:autoParam (decide ((m:Int) < k) = true) aD):(n:Int) < k:=Int.lt_of_le_of_lt (Int.ofNat_le.mpr h) (of_decide_eq_true d)
theorem ca4 {n m:Nat} {k:Int} (h:n < m) (d:autoParam (decide ((m:Int) ≤ k) = true) aD):(n:Int) < k:=Int.lt_of_lt_of_le (Int.ofNat_lt.mpr h) (of_decide_eq_true d)
theorem ca5 {n m:Nat} {k:Int} (h:n ≤ m) (d:autoParam (decide ((m:Int) ≤ k) = true) aD):(n:Int) ≤ k:=Int.le_trans (Int.ofNat_le.mpr h) (of_decide_eq_true d)
theorem ca6 {n k l:Int} (h:n ≤ k) (d:autoParam (decide (k < l) = true) aD):n < l:=Int.lt_of_le_of_lt h (of_decide_eq_true d)
theorem ca7 {n k l:Int} (h:n < k) (d:autoParam (decide (k ≤ l) = true) aD):n < l:=Int.lt_of_lt_of_le h (of_decide_eq_true d)
theorem ca8 {n k l:Int} (h:k ≤ n) (d:autoParam (decide (l < k) = true) aD):l < n:=Int.lt_of_lt_of_le (of_decide_eq_true d) h
theorem ca9 {n k l:Int} (h:n ≤ k) (d:autoParam (decide (k ≤ l) = true) aD):n ≤ l:=Int.le_trans h (of_decide_eq_true d)
theorem fa1 {t:Nat} (h:t + 1 ≤ t):False:=Nat.not_succ_le_self _ h
theorem fa2 {a b:Nat} (h:a + 1 ≤ b) (h2:b ≤ a):False:=fa1 (Nat.le_trans h h2)
theorem fa3 {a b c:Nat} (h:a + 1 ≤ b) (h2:b + c ≤ a):False:=fa2 h (om_d h2)
theorem fa4 {a c d:Nat} (h:a + c ≤ a + d) (q:autoParam (Nat.ble (d + 1) c = true) aD):False:=absurd (Nat.le_of_add_le_add_left h) (Nat.not_le_of_lt (Nat.le_of_ble_eq_true q))
theorem fa5 {t:Nat} {c:Nat} (h:t + (c + 1) ≤ t):False:=Nat.not_succ_le_self _ (Nat.le_trans (Nat.succ_le_succ (Nat.le_add_right t c)) h)
theorem fa6 {t:Nat} {c:Nat} (h:t + c < t):False:=Nat.not_le_of_lt h (Nat.le_add_right t c)
theorem fa7 {x a b:Nat} (h1:a ≤ x) (h2:x = b) (q:autoParam (Nat.ble a b = false) aD):False:=by subst h2;rw [Nat.ble_eq_true_of_le h1] at q;cases q
theorem fa8 {x a b:Nat} (h1:x ≤ a) (h2:x = b) (q:autoParam (Nat.ble b a = false) aD):False:=by subst h2;rw [Nat.ble_eq_true_of_le h1] at q;cases q
theorem fa9 {x a b:Nat} (h1:x < a) (h2:x = b) (q:autoParam (Nat.ble (b + 1) a = false) aD):False:=fa8 (x:=x + 1) h1 (congrArg (· + 1) h2) q
theorem om_j {a b c d:Nat} (h:a + c ≤ b) (h2:b + d ≤ e):a ≤ e:=Nat.le_trans (om_d h) (om_d h2)
theorem om_k {a b c:Nat} (h:a + (c + 1) ≤ b) (h2:b ≤ d):a < d:=Nat.lt_of_lt_of_le (om_h h) h2
theorem om_l {a b c d e:Nat} (h:a + (c + 1) ≤ b) (h2:b + d ≤ e):a < e:=Nat.lt_of_lt_of_le (om_h h) (om_d h2)
theorem om_m {a b c d:Nat} (h:a + c ≤ b) (h2:b < d):a < d:=Nat.lt_of_le_of_lt (om_d h) h2
theorem om_n {a b c k:Nat} (h:a + c ≤ b) (q:autoParam (Nat.ble k c = true) aD):a + k ≤ b:=Nat.le_trans (Nat.add_le_add_left (Nat.le_of_ble_eq_true q) a) h
theorem om_o {a b c k:Nat} (h:a + c ≤ b) (q:autoParam (Nat.ble (k + 1) c = true) aD):a + k < b:=Nat.lt_of_lt_of_le (Nat.add_lt_add_left (Nat.le_of_ble_eq_true q) a) h
theorem om_p {a b:Nat} (h:a < b):a + 1 ≤ b:=h
theorem om_q {a:Nat}:0 + a = a:=Nat.zero_add a
theorem om_r {a b c d:Nat} (h:a ≤ b) (h2:b ≤ c):a ≤ c + d:=om_g (Nat.le_trans h h2)
theorem om_s {a b c d e:Nat} (h:a + c ≤ b) (h2:b ≤ d):a ≤ d + e:=om_g (om_i h h2)
theorem om_t {a b c d e f:Nat} (h:a + c ≤ b) (h2:b + d ≤ e):a ≤ e + f:=om_g (om_j h h2)
theorem om_u {a b c k:Nat} (h:a < b) (h2:b ≤ c) (d:autoParam (Nat.ble c k = true) aD):a < k:=bl2 (Nat.lt_of_lt_of_le h h2) d
theorem om_v {a b c k:Nat} (h:a ≤ b) (h2:b ≤ c) (d:autoParam (Nat.ble c k = true) aD):a ≤ k:=bl1 (Nat.le_trans h h2) d
theorem om_w {a b c:Nat} {k:Int} (h:a < b) (h2:b ≤ c) (d:autoParam (decide ((c:Int) ≤ k) = true) aD):(a:Int) < k:=ca4 (Nat.lt_of_lt_of_le h h2) d
theorem om_x {a b c k:Nat} (h:a = b) (h2:b ≤ c) (d:autoParam (Nat.ble c k = true) aD):a ≤ k:=bl1 (h ▸ h2) d
theorem om_y {a b c k:Nat} (h:a = b) (h2:b < c) (d:autoParam (Nat.ble c k = true) aD):a < k:=bl2 (h ▸ h2) d
theorem om_z {a b k:Nat}:a ≤ a + b + k:=Nat.le_trans (Nat.le_add_right _ _) (Nat.le_add_right _ _)
theorem om_0z {a:Nat}:0 ≤ a:=Nat.zero_le a
theorem om_l0 {a b:Nat}:a ≤ a + b:=Nat.le_add_right a b
open Lean in
def btH:Syntax:=mkNode ``Parser.Term.hole #[mkAtom "_"]
open Lean in
def btA (a:Array Syntax):Syntax:=if a.size == 1 then a[0]! else mkNode ``Parser.Term.app #[a[0]!,mkNullNode (a.extract 1 a.size)]
open Lean in
def bt (q:Syntax) (ts:List String):Syntax:=
 btA (ts.foldl (fun (k:List (Array Syntax)) t=>if t == "(" then #[] :: k else
  if t == ")" then (k.tail.head!.push (btA k.head!)) :: k.tail.tail else
  k.head!.push (if t == "!" then q else if t == "_" then btH else if t == "?" then mkNode ``Parser.Term.syntheticHole #[mkAtom t,btH] else mkIdent t.toName) :: k.tail) [#[]]).head!
open Lean in
def btt (q:Syntax) (s:String):TSyntax `term:=⟨bt q (s.splitOn " ")⟩
open Lean in
def bor (ts:List (TSyntax `tactic)):MacroM (TSyntax `tactic):=ts.foldrM (fun a b=>`(tactic| first | $a:tactic | $b:tactic)) ⟨mkNode ``Parser.Tactic.fail #[mkAtom "fail",mkNullNode]⟩
open Lean in
def exs (q:Syntax) (s:String):List (TSyntax `tactic):=(s.splitOn ";").map fun x=>⟨mkNode ``Parser.Tactic.exact #[mkAtom "exact",btt q x]⟩
set_option hygiene false in
open Lean in
local macro_rules | `(tactic| omega)=>do
 let q ← `((by assumption))
 let t ← bor (exs q "om_u ! !;om_v ! !;om_w ! !;om_x ! !;om_y ! !;Nat.lt_of_le_of_lt ! !;Nat.lt_of_lt_of_le ! !;om_t ! !;om_s ! !;om_r ! !;Nat.le_trans ! !;om_m ! !;om_l ! !;om_k ! !;om_j ! !;om_i ! !;ca9 !;ca8 !;ca7 !;ca6 !;ca5 !;ca4 !;ca3 !;fa9 ! !;fa8 ! !;fa7 ! !;fa3 ! !;fa2 ! !;fa6 !;fa4 !;fa5 !;fa1 !;lp2 ! !;lp1 ! !;om_p !;om_o !;om_n !;om_g !;om_f !;Nat.le_of_lt !;om_h !;om_d !;bl4 !;bl3 !;bl2 !;bl1 !;ca2;ca1;om_0z;om_q;om_z;om_c;om_b;om_a;om_l0;Nat.le.refl")
 `(tactic| with_reducible first | assumption | $t:tactic)
universe u v w z
@[elab_as_elim] theorem rwl {α:Sort u} {a b:α} {p:α → Prop} (h:a = b) (q:p b):p a:=h ▸ q
@[elab_as_elim] theorem rwr {α:Sort u} {a b:α} {p:α → Prop} (h:b = a) (q:p b):p a:=h ▸ q
theorem ex1 {α:Sort u} {p:α → Prop} {G:Prop} (h:∃ x,p x) (k:∀ x,p x → G):G:=h.elim k
theorem ex2 {α:Sort u} {β:α → Sort v} {p:(a:α) → β a → Prop} {G:Prop} (h:∃ x y,p x y) (k:∀ x y,p x y → G):G:=h.elim fun x h=>h.elim (k x)
theorem ex3 {α:Sort u} {β:α → Sort v} {γ:(a:α) → β a → Sort w} {p:(a:α) → (b:β a) → γ a b → Prop} {G:Prop} (h:∃ x y z,p x y z) (k:∀ x y z,p x y z → G):G:=h.elim fun x h=>ex2 h (k x)
theorem an2 {A B G:Prop} (h:A ∧ B) (k:A → B → G):G:=k h.1 h.2
theorem an3 {A1 A2 A3 G:Prop} (h:A1 ∧ A2 ∧ A3) (k:A1 → A2 → A3 → G):G:=an2 h.2 (k h.1)
theorem an4 {A1 A2 A3 A4 G:Prop} (h:A1 ∧ A2 ∧ A3 ∧ A4) (k:A1 → A2 → A3 → A4 → G):G:=an3 h.2 (k h.1)
theorem an5 {A1 A2 A3 A4 A5 G:Prop} (h:A1 ∧ A2 ∧ A3 ∧ A4 ∧ A5) (k:A1 → A2 → A3 → A4 → A5 → G):G:=an4 h.2 (k h.1)
theorem an6 {A1 A2 A3 A4 A5 A6 G:Prop} (h:A1 ∧ A2 ∧ A3 ∧ A4 ∧ A5 ∧ A6) (k:A1 → A2 → A3 → A4 → A5 → A6 → G):G:=an5 h.2 (k h.1)
theorem an7 {A1 A2 A3 A4 A5 A6 A7 G:Prop} (h:A1 ∧ A2 ∧ A3 ∧ A4 ∧ A5 ∧ A6 ∧ A7) (k:A1 → A2 → A3 → A4 → A5 → A6 → A7 → G):G:=an6 h.2 (k h.1)
theorem an8 {A1 A2 A3 A4 A5 A6 A7 A8 G:Prop} (h:A1 ∧ A2 ∧ A3 ∧ A4 ∧ A5 ∧ A6 ∧ A7 ∧ A8) (k:A1 → A2 → A3 → A4 → A5 → A6 → A7 → A8 → G):G:=an7 h.2 (k h.1)
theorem an9 {A1 A2 A3 A4 A5 A6 A7 A8 A9 G:Prop} (h:A1 ∧ A2 ∧ A3 ∧ A4 ∧ A5 ∧ A6 ∧ A7 ∧ A8 ∧ A9) (k:A1 → A2 → A3 → A4 → A5 → A6 → A7 → A8 → A9 → G):G:=an8 h.2 (k h.1)
theorem an10 {A1 A2 A3 A4 A5 A6 A7 A8 A9 A10 G:Prop} (h:A1 ∧ A2 ∧ A3 ∧ A4 ∧ A5 ∧ A6 ∧ A7 ∧ A8 ∧ A9 ∧ A10) (k:A1 → A2 → A3 → A4 → A5 → A6 → A7 → A8 → A9 → A10 → G):G:=an9 h.2 (k h.1)
theorem an11 {A1 A2 A3 A4 A5 A6 A7 A8 A9 A10 A11 G:Prop} (h:A1 ∧ A2 ∧ A3 ∧ A4 ∧ A5 ∧ A6 ∧ A7 ∧ A8 ∧ A9 ∧ A10 ∧ A11) (k:A1 → A2 → A3 → A4 → A5 → A6 → A7 → A8 → A9 → A10 → A11 → G):G:=an10 h.2 (k h.1)
theorem an12 {A1 A2 A3 A4 A5 A6 A7 A8 A9 A10 A11 A12 G:Prop} (h:A1 ∧ A2 ∧ A3 ∧ A4 ∧ A5 ∧ A6 ∧ A7 ∧ A8 ∧ A9 ∧ A10 ∧ A11 ∧ A12) (k:A1 → A2 → A3 → A4 → A5 → A6 → A7 → A8 → A9 → A10 → A11 → A12 → G):G:=an11 h.2 (k h.1)
open Lean in
def zi (i:Nat):Syntax:=mkIdent (.mkSimple s!"z{i}'")
open Lean Parser.Tactic in
def tTk (k:SyntaxNodeKind) (w:String) (xs:Array Syntax):Syntax:=mkNode k #[mkAtom w,mkNullNode xs]
open Lean Parser.Tactic in
def tQk (ts:List Syntax):Syntax:=mkNode ``tacticSeq #[mkNode ``tacticSeq1Indented #[mkNullNode (mkSepArray ts.toArray (mkAtom ";"))]]
open Lean Parser.Tactic in
def tPk (ts:List Syntax):TSyntax `tactic:=⟨mkNode ``paren #[mkAtom "(",tQk ts,mkAtom ")"]⟩
open Lean Parser.Tactic in
def tCk (x:Syntax):Syntax:=mkNode ``tacticTry_ #[mkAtom "try",tQk [tTk ``clear "clear" #[x]]]
open Lean Parser.Tactic in
def tRk (h:Syntax) (s:String) (xs:List Syntax):List Syntax:=[mkNode ``refine #[mkAtom "refine",btt h s],tTk ``intro "intro" xs.toArray]
set_option hygiene false in
open Lean Parser.Tactic in
local macro_rules | `(tactic| rw [$rs,*])=>do
 let ts ← rs.getElems.toList.mapM fun r=>do
  let x:=r.raw[1]
  let f:=if x.isIdent then x else x[0]
  let l:=if r.raw[0].isNone then (if [`H.set_ne,`H.set_self,`if_pos,`if_neg,`newTy_ne].contains f.getId then ["Eq.trans ! ?"] else []) ++ ["rwl ! ?"] else ["rwr ! ?"]
  bor (l.map (fun s=>⟨mkNode ``refine #[mkAtom "refine",btt x s]⟩) ++ [← `(tactic| rewrite [$r])])
 return tPk ((ts ++ [← `(tactic| try (with_reducible rfl))]).map (·.raw))
open Lean Parser.Tactic in
def prt (i:Nat) (lo:Syntax):MacroM (Syntax × List Syntax):=do
 let a:=lo[0][0].getSepArgs
 let x:=a[0]!
 let z:=zi i
 if !lo[1].isNone then Macro.throwUnsupported
 else if a.size == 1 && x.isOfKind ``rcasesPat.one then
  return if x[0].getId == `rfl then (z,[tTk ``subst "subst" #[z]]) else (x[0],[])
 else if a.size == 1 && x.isOfKind ``rcasesPat.ignore then return (z,[tCk z])
 else return (z,[← `(tactic| rcases $(⟨z⟩):ident with $(⟨lo[0]⟩):rcasesPatMed)])
set_option hygiene false in
open Lean Parser.Tactic in
def alt (h:Syntax) (keep:Bool) (ps:List Syntax) (xs:List (Syntax × List Syntax)) (j mm:Nat):MacroM (TSyntax `tactic):=do
 let whole:=j + mm == xs.length
 let k:=if whole then xs.length else j + mm - 1
 let ids:=(xs.take k).map Prod.fst
 let r:=mkIdent (if h.getId == `r'1 then `r'2 else `r'1)
 let h1:=mkIdent `h'1
 let parts:=ids.drop j ++ (if whole then [] else [r.raw])
 let a:=if j == 0 then [] else tRk h s!"ex{j} ! ?" (ids.take j ++ (if mm == 1 then parts else [h1.raw]))
 let b:=if mm == 1 then [] else tRk (if j == 0 then h else h1) s!"an{mm} ! ?" parts ++ [tCk h1]
 let c:=if keep then [] else [tCk h]
 let d ← if whole then pure [] else do
  let rest:Array (TSyntax ``rcasesPatLo):=((ps.drop k).map fun x=>⟨x⟩).toArray
  pure [(← `(tactic| obtain ⟨$rest,*⟩:=$r)).raw]
 return tPk (a ++ b ++ c ++ (xs.take k).flatMap Prod.snd ++ d)
open Lean Parser.Tactic in
def obt (h:Syntax) (isId:Bool) (ps:List Syntax):MacroM (TSyntax `tactic):=do
 let n:=ps.length
 let ys ← (ps.zip (List.range n)).mapM fun (p,i)=>prt i p
 if n < 2 then Macro.throwUnsupported
 let keep:=isId && ys.any fun x=>x.1.getId == h.getId
 let ts ← (List.range (4 * n)).mapM fun i=>do
  let mm:=n - i / 4
  let j:=3 - i % 4
  if j + mm ≤ n && mm ≤ 12 && 2 ≤ mm + j && (j + mm == n || n - (j + mm - 1) > 1) then return [← alt h keep ps ys j mm] else return []
 bor ts.flatten
set_option hygiene false in
open Lean Parser.Tactic in
local macro_rules
 | `(tactic| obtain $p:rcasesPatMed:=$e:term)=>do
  let alts:=p.raw[0].getSepArgs
  unless alts.size == 1 && alts[0]!.isOfKind ``rcasesPat.tuple do Macro.throwUnsupported
  let ps:=alts[0]![1].getSepArgs.toList
  if e.raw.isIdent then obt e true ps
  else
   let t ← obt (mkIdent `h0') false ps
   `(tactic| (have h0':=$e;$t:tactic))
set_option hygiene false in
open Lean Parser.Tactic in
local macro_rules
 | `(tactic| rintro $ps:rintroPat*)=>do
  if ps.all fun p=>!p.raw.isOfKind ``rintroPat.one then Macro.throwUnsupported
  let w:=mkIdent `w'
  let ts ← ps.toList.mapM fun p=>do
   let x:=p.raw[0]
   let t:=tTk ``intro "intro" #[w]
   if x.isOfKind ``rcasesPat.one then
    return if x[0].getId == `rfl then [t,tTk ``subst "subst" #[w]] else [tTk ``intro "intro" #[x[0]]]
   else if x.isOfKind ``rcasesPat.ignore then return [t,tCk w]
   else if x.isOfKind ``rcasesPat.tuple then return [t,(← `(tactic| obtain $(⟨x⟩):rcasesPat:=w')).raw]
   else Macro.throwUnsupported
  return tPk ts.flatten
theorem xi2 {α:Sort u} {β:α → Sort v} {p:(a:α) → β a → Prop} (a:α) (b:β a) (h:p a b):∃ x y,p x y:=⟨a,b,h⟩
theorem xi3 {α:Sort u} {β:α → Sort v} {γ:(a:α) → β a → Sort w} {p:(a:α) → (b:β a) → γ a b → Prop} (a:α) (b:β a) (c:γ a b) (h:p a b c):∃ x y z,p x y z:=⟨a,b,c,h⟩
theorem xi4 {α:Sort u} {β:α → Sort v} {γ:(a:α) → β a → Sort w} {δ:(a:α) → (b:β a) → γ a b → Sort z} {p:(a:α) → (b:β a) → (c:γ a b) → δ a b c → Prop} (a:α) (b:β a) (c:γ a b) (d:δ a b c) (h:p a b c d):∃ x y z w,p x y z w:=⟨a,b,c,d,h⟩
open Lean in
def xis (a:Array (TSyntax `term)):MacroM (List (TSyntax `term)):=[4,3,2].filterMapM fun j=>do
 if j < a.size then
  let r ← if a.size == j + 1 then pure a[j]! else `(⟨$(a.extract j a.size),*⟩)
  return some (Syntax.mkApp (mkIdent (.mkSimple s!"xi{j}")) ((a.extract 0 j).push r))
 else return none
set_option hygiene false in
open Lean in
local macro_rules
 | `(tactic| exact ⟨$xs,*⟩)=>do bor (← (← xis xs.getElems).mapM fun t=>`(tactic| exact $t))
 | `(tactic| refine ⟨$xs,*⟩)=>do bor (← (← xis xs.getElems).mapM fun t=>`(tactic| refine $t))
theorem nf1 {a b:Nat} {α:Type} {p q:α} (h:autoParam (Nat.beq a b = false) aD):(a,p) ≠ (b,q):=fun e=>by
 have:=(Prod.mk.inj e).1
 subst this
 rw [Nat.beq_refl] at h;cases h
theorem nf2 {a b x y:Nat} {α:Type} {p q:α} (h:autoParam (Nat.beq a b = false) aD):(x,a,p) ≠ (y,b,q):=fun e=>nf1 h (Prod.mk.inj e).2
theorem nf3 {a b x y z w:Nat} (h:autoParam (Nat.beq a b = false) aD):(x,y,a) ≠ (z,w,b):=fun e=>by
 have:=(Prod.mk.inj (Prod.mk.inj e).2).2
 subst this
 rw [Nat.beq_refl] at h;cases h
theorem nfl {a b:Nat} {α β:Type} {x y:β} {p q:α} (h:a < b):(x,a,p) ≠ (y,b,q):=fun e=>Nat.ne_of_lt h (Prod.mk.inj (Prod.mk.inj e).2).1
theorem nfg {a b:Nat} {α β:Type} {x y:β} {p q:α} (h:b < a):(x,a,p) ≠ (y,b,q):=fun e=>Nat.ne_of_gt h (Prod.mk.inj (Prod.mk.inj e).2).1
theorem nff {a b:Nat} {α:Type} {p q:α} (h:a ≠ b):(a,p) ≠ (b,q):=fun e=>h (Prod.mk.inj e).1
open Lean in
local macro_rules | `(tactic| walk_at "ne")=>do bor (exs (← `((by omega))) "nf1;nf3;nf2;nfl !;nfg !" ++ [← `(tactic| (intro q;cases q <;> omega))])
noncomputable abbrev Nm:=Nat × Nat × Nat
inductive V where
 | none
 | bool (b:Bool)
 | int (i:Int)
 | str (s:Str)
 | ref (n:Nm)
 | glob (v:Value)
set_option genInjectivity true in
inductive FV where
 | v (v:V)
 | ri (i:Int)
set_option genInjectivity true in
inductive O where
 | inst (C:Addr) (fs:List (Str × V))
 | list (xs:List V)
 | tup (xs:List V)
 | dict (es:List (Str × V))
 | known (ks:List (Nm × Str × Str))
 | raw (T:String) (fs:List FV)
 | rawX (T:String) (fs:List FV)
 | dead
noncomputable abbrev H:=Nm → Option O
noncomputable def H.set (h:H) (n:Nm) (o:O):H:=fun x=>if x = n then some o else h x
structure St where
 vars:Str → Option V
 hp:H
noncomputable def St.put (σ:St) (n:Nm) (o:O):St:=⟨σ.vars,σ.hp.set n o⟩
noncomputable def St.var (σ:St) (x:Str) (v:V):St:=⟨fun y=>if y = x then some v else σ.vars y,σ.hp⟩
theorem H.set_self (h:H) (n:Nm) (o:O):h.set n o n = some o:=if_pos rfl
theorem H.set_ne (h:H) {n x:Nm} (o:O) (e:x ≠ n):h.set n o x = h x:=if_neg e
noncomputable def Val (ρ:Nm → Addr) (h:H):V → Value → Prop
 | .none,x=>x = .none
 | .bool b,x=>x = .bool b
 | .int i,x=>∃ t,x = .int i t
 | .str s,x=>∃ t,x = .str s t
 | .ref n,x=>x = .ref (ρ n) ∧ h n ≠ none
 | .glob g,x=>x = g
noncomputable def Ext (ρ δ:Nm → Addr) (h:H) (ρ' δ' : Nm → Addr) (h' : H):Prop:=∀ n,h n ≠ none → h' n ≠ none ∧ ρ' n = ρ n ∧ δ' n = δ n
theorem Ext.refl (ρ δ:Nm → Addr) (h:H):Ext ρ δ h ρ δ h:=fun _ q=>⟨q,rfl,rfl⟩
theorem Ext.trans {ρ δ ρ' δ' ρ'' δ'' : Nm → Addr} {h h' h'' : H} (a:Ext ρ δ h ρ' δ' h') (b:Ext ρ' δ' h' ρ'' δ'' h''):Ext ρ δ h ρ'' δ'' h'':=fun n q=>
 let ⟨x,y,z⟩:=a n q
 let ⟨x',y',z'⟩:=b n x
 ⟨x',y'.trans y,z'.trans z⟩
theorem Val.ext {ρ δ ρ' δ' : Nm → Addr} {h h' : H} {v:V} {x:Value} (X:Ext ρ δ h ρ' δ' h') (q:Val ρ h v x):Val ρ' h' v x:=by
 cases v with
 | ref n=>obtain ⟨a,b⟩:=q;obtain ⟨c,d,e⟩:=X n b;exact ⟨by rw [d];exact a,c⟩
 | _=>exact q
inductive Vals (ρ:Nm → Addr) (h:H):List V → List Value → Prop
 | nil:Vals ρ h [] []
 | cons {v x vs xs}:Val ρ h v x → Vals ρ h vs xs → Vals ρ h (v :: vs) (x :: xs)
theorem Vals.ext {ρ δ ρ' δ' : Nm → Addr} {h h' : H} {vs:List V} {xs:List Value} (X:Ext ρ δ h ρ' δ' h') (q:Vals ρ h vs xs):Vals ρ' h' vs xs:=by
 induction q with
 | nil=>exact .nil
 | cons a _ ih=>exact .cons (a.ext X) ih
theorem Vals.length {ρ:Nm → Addr} {h:H} {vs:List V} {xs:List Value} (q:Vals ρ h vs xs):xs.length = vs.length:=by
 induction q with
 | nil=>rfl
 | cons _ _ ih=>rw [List.length_cons,List.length_cons,ih]
theorem Vals.append {ρ:Nm → Addr} {h:H} {vs vs' : List V} {xs xs' : List Value} (q:Vals ρ h vs xs) (q' : Vals ρ h vs' xs'):Vals ρ h (vs ++ vs') (xs ++ xs'):=by
 induction q with
 | nil=>exact q'
 | cons a _ ih=>exact .cons a ih
theorem Vals.get {ρ:Nm → Addr} {h:H} {vs:List V} {xs:List Value} (q:Vals ρ h vs xs) {i:Nat} {v:V} (e:vs[i]? = some v):∃ x,xs[i]? = some x ∧ Val ρ h v x:=by
 induction q generalizing i with
 | nil=>cases e
 | cons a _ ih=>
  cases i with
  | zero=>cases e;exact ⟨_,rfl,a⟩
  | succ i=>exact ih e
theorem Vals.set {ρ:Nm → Addr} {h:H} {vs:List V} {xs:List Value} (q:Vals ρ h vs xs) {v:V} {x:Value} (a:Val ρ h v x) (i:Nat):Vals ρ h (vs.set i v) (xs.set i x):=by
 induction q generalizing i with
 | nil=>exact .nil
 | cons b q ih=>
  cases i with
  | zero=>exact .cons a q
  | succ i=>exact .cons b (ih i)
theorem Vals.take {ρ:Nm → Addr} {h:H} {vs:List V} {xs:List Value} (q:Vals ρ h vs xs) (n:Nat):Vals ρ h (vs.take n) (xs.take n):=by
 induction q generalizing n with
 | nil=>simp;exact .nil
 | cons a _ ih=>
  cases n with
  | zero=>exact .nil
  | succ n=>exact .cons a (ih n)
theorem Vals.reverse {ρ:Nm → Addr} {h:H} {vs:List V} {xs:List Value} (q:Vals ρ h vs xs):Vals ρ h vs.reverse xs.reverse:=by
 induction q with
 | nil=>exact .nil
 | cons a _ ih=>rw [List.reverse_cons,List.reverse_cons];exact ih.append (.cons a .nil)
inductive Flds (P:Params) (ρ:Nm → Addr) (h:H):List (Str × V) → List DictEntry → Prop
 | nil:Flds P ρ h [] []
 | cons {x v t val fs es}:Val ρ h v val → Flds P ρ h fs es → Flds P ρ h ((x,v) :: fs) (⟨PyData.keyHash P x,.str x t,val⟩ :: es)
theorem Flds.ext {P:Params} {ρ δ ρ' δ' : Nm → Addr} {h h' : H} {fs:List (Str × V)} {es:List DictEntry} (X:Ext ρ δ h ρ' δ' h') (q:Flds P ρ h fs es):Flds P ρ' h' fs es:=by
 induction q with
 | nil=>exact .nil
 | cons a _ ih=>exact .cons (a.ext X) ih
theorem Flds.length {P:Params} {ρ:Nm → Addr} {h:H} {fs:List (Str × V)} {es:List DictEntry} (q:Flds P ρ h fs es):es.length = fs.length:=by
 induction q with
 | nil=>rfl
 | cons _ _ ih=>rw [List.length_cons,List.length_cons,ih]
theorem Flds.noRef {P:Params} {ρ:Nm → Addr} {h:H} {fs:List (Str × V)} {es:List DictEntry} (q:Flds P ρ h fs es):es.any (·.refKey) = false:=by
 induction q with
 | nil=>rfl
 | cons _ _ ih=>rw [List.any_cons,ih];rfl
noncomputable def FVal (ρ:Nm → Addr) (h:H):FV → Value → Prop
 | .v u,x=>Val ρ h u x
 | .ri i,x=>x = .int i 0
inductive FVals (ρ:Nm → Addr) (h:H):List FV → List Value → Prop
 | nil:FVals ρ h [] []
 | cons {v x vs xs}:FVal ρ h v x → FVals ρ h vs xs → FVals ρ h (v :: vs) (x :: xs)
theorem FVals.ext {ρ δ ρ' δ' : Nm → Addr} {h h' : H} {vs:List FV} {xs:List Value} (X:Ext ρ δ h ρ' δ' h') (q:FVals ρ h vs xs):FVals ρ' h' vs xs:=by
 induction q with
 | nil=>exact .nil
 | @cons v x _ _ a _ ih=>
  refine .cons ?_ ih
  cases v with
  | v u=>exact Val.ext X a
  | ri i=>exact a
noncomputable def getF (x:Str):List (Str × V) → Option V
 | []=>none
 | (y,v) :: r=>if y = x then some v else getF x r
noncomputable def putF (x:Str) (v:V):List (Str × V) → List (Str × V)
 | []=>[(x,v)]
 | (y,u) :: r=>if y = x then (y,v) :: r else (y,u) :: putF x v r
theorem isStr_iff (y x:Str) (t:Tok):(Value.str y t).isStr x = decide (y = x):=by
 show (y == x) = decide (y = x)
 by_cases h:y = x
 ·subst h;simp
 ·simp [h]
theorem Flds.getL {P:Params} {ρ:Nm → Addr} {h:H} {fs:List (Str × V)} {es:List DictEntry} (q:Flds P ρ h fs es) (x:Str) :
  match getF x fs with
  | some v=>∃ val,PySem.W.getL x es = some (some val) ∧ Val ρ h v val
  | none=>PySem.W.getL x es = some none:=by
 have nr:=q.noRef
 have key:match getF x fs with
  | some v=>∃ e,es.find? (·.key.isStr x) = some e ∧ Val ρ h v e.val
  | none=>es.find? (·.key.isStr x) = none:=by
  clear nr
  induction q with
  | nil=>rfl
  | @cons y v t val fs es a _ ih=>
   unfold getF
   rw [List.find?_cons]
   simp only [isStr_iff]
   by_cases e:y = x
   ·simp only [e,if_true,decide_true];exact ⟨_,rfl,a⟩
   ·simp only [e,if_false,decide_false];exact ih
 unfold PySem.W.getL
 cases g:getF x fs with
 | some v=>
  rw [g] at key
  obtain ⟨e,he,hv⟩:=key
  simp only [he]
  exact ⟨_,rfl,hv⟩
 | none=>
  rw [g] at key
  simp only [key,nr]
  rfl
theorem Flds.putL {P:Params} {ρ:Nm → Addr} {h:H} {fs:List (Str × V)} {es:List DictEntry} (q:Flds P ρ h fs es) (x:Str) {v:V} {val:Value} (a:Val ρ h v val) (t:Tok) :
  Flds P ρ h (putF x v fs) (PySem.W.putL x (PyData.keyHash P x) (.str x t) val es):=by
 induction q with
 | nil=>exact .cons a .nil
 | @cons y u t' u' fs es b q ih=>
  unfold putF PySem.W.putL
  simp only [isStr_iff]
  by_cases e:y = x
  ·simp only [e,if_true,decide_true];exact .cons a q
  ·simp only [e,if_false,decide_false];exact .cons b ih
theorem putF_length (x:Str) (v:V):∀ fs:List (Str × V),(putF x v fs).length ≤ fs.length + 1
 | []=>Nat.le_refl _
 | (y,u) :: r=>by
  unfold putF
  split
  ·simp
  ·have:=putF_length x v r;simp;omega
noncomputable abbrev tupOf (its:Array Value) (n:Nat):Obj:={ cls:=.type "tuple",data:=.seq its n }
inductive KVs (ρ:Nm → Addr) (h:H):List (Str × V) → List (Str × Value) → Prop
 | nil:KVs ρ h [] []
 | cons {x v val fs es}:Val ρ h v val → KVs ρ h fs es → KVs ρ h ((x,v) :: fs) ((x,val) :: es)
theorem KVs.ext {ρ δ ρ' δ' : Nm → Addr} {h h' : H} {fs:List (Str × V)} {es:List (Str × Value)} (X:Ext ρ δ h ρ' δ' h') (q:KVs ρ h fs es):KVs ρ' h' fs es:=by
 induction q with
 | nil=>exact .nil
 | cons a _ ih=>exact .cons (a.ext X) ih
theorem KVs.length {ρ:Nm → Addr} {h:H} {fs:List (Str × V)} {es:List (Str × Value)} (q:KVs ρ h fs es):es.length = fs.length:=by
 induction q with
 | nil=>rfl
 | cons _ _ ih=>rw [List.length_cons,List.length_cons,ih]
theorem KVs.at {ρ:Nm → Addr} {h:H} {fs:List (Str × V)} {es:List (Str × Value)} (q:KVs ρ h fs es) (x:Str) :
  match getF x fs with
  | some v=>∃ val,valueAt es x = some val ∧ Val ρ h v val
  | none=>valueAt es x = none:=by
 induction q with
 | nil=>rfl
 | @cons y v val fs es a _ ih=>
  unfold getF
  unfold valueAt at ih ⊢
  rw [List.find?_cons]
  by_cases e:y = x
  ·simp only [e,if_true,decide_true,Option.map_some];exact ⟨_,rfl,a⟩
  ·simp only [e,if_false,decide_false];exact ih
theorem KVs.any {ρ:Nm → Addr} {h:H} {fs:List (Str × V)} {es:List (Str × Value)} (q:KVs ρ h fs es) (x:Str):(es.any fun kv=>decide (kv.1 = x)) = (getF x fs).isSome:=by
 induction q with
 | nil=>rfl
 | @cons y v val fs es a _ ih=>
  rw [List.any_cons,ih]
  show _ = (if y = x then some v else getF x fs).isSome
  by_cases e:y = x <;> simp [e]
theorem KVs.snoc {ρ:Nm → Addr} {h:H} {fs:List (Str × V)} {es:List (Str × Value)} (q:KVs ρ h fs es) {x:Str} {v:V} {val:Value} (a:Val ρ h v val):KVs ρ h (fs ++ [(x,v)]) (es ++ [(x,val)]):=by
 induction q with
 | nil=>exact .cons a .nil
 | cons b _ ih=>exact .cons b ih
noncomputable def KnownOf (prog:Program) (w:World) (ρ:Nm → Addr) (h:H) (ks:List (Nm × Str × Str)) (o:Obj):Prop:=
 ∃ (es:Array DictEntry) (ep:Nat) (xs:List (List Str × Addr × Value)),o.ExactDict ∧ o.data = .dict es ep ∧ es.toList = xs.map (entryOfKey (tupleKind (strKind prog w))) ∧ (xs.map (·.1)).Nodup ∧
  xs.map (fun x=>(x.1,x.2.1)) = ks.map (fun k=>([k.2.1,k.2.2],ρ k.1)) ∧ ∀ k ∈ ks,h k.1 ≠ none
theorem KnownOf.ext {prog:Program} {w:World} {ρ δ ρ' δ' : Nm → Addr} {h h' : H} {ks:List (Nm × Str × Str)} {o:Obj} (X:Ext ρ δ h ρ' δ' h') (q:KnownOf prog w ρ h ks o):KnownOf prog w ρ' h' ks o:=by
 obtain ⟨es,ep,xs,a,b,c,d,e,f⟩:=q
 refine ⟨es,ep,xs,a,b,c,d,e.trans (List.map_congr_left fun k hk=>?_),fun k hk=>(X _ (f k hk)).1⟩
 rw [(X _ (f k hk)).2.1]
noncomputable def foot (ρ δ:Nm → Addr) (n:Nm):O → List Addr
 | .inst _ _=>[ρ n,δ n]
 | .dead=>[]
 | _=>[ρ n]
noncomputable def OAt (prog:Program) (w:World) (ρ δ:Nm → Addr) (h:H) (news:List (Addr × Obj)) (n:Nm):O → Prop
 | .inst C fs=>∃ es k,(ρ n,instObj C (δ n)) ∈ news ∧ (δ n,dictOf es k) ∈ news ∧ Flds w.params ρ h fs es
 | .list xs=>∃ vs k,(ρ n,listOf vs.toArray k) ∈ news ∧ Vals ρ h xs vs
 | .tup xs=>∃ vs k,(ρ n,tupOf vs.toArray k) ∈ news ∧ Vals ρ h xs vs
 | .dict fs=>(ρ n == sysModules) = false ∧ ∃ o kvs,(ρ n,o) ∈ news ∧ o.IsDictOf (strKind prog w) kvs ∧ KVs ρ h fs kvs
 | .known ks=>∃ o,(ρ n,o) ∈ news ∧ KnownOf prog w ρ h ks o
 | .raw T fs=>∃ o xs,(ρ n,o) ∈ news ∧ o.cls = .type T ∧ o.data = .fields (List.toArray xs) ∧ FVals ρ h fs xs
 | .rawX T fs=>∃ xs,(ρ n,({ cls:=.type T,data:=.fields (List.toArray xs) }:Obj)) ∈ news ∧ FVals ρ h fs xs
 | .dead=>True
structure Cx where
 prog:Program
 w:World
 K:Frag
 p:Program
 loose:List Str
 mg:Str → Option Value
 mb:Str → Option Value
 A:Around
 B:Heap
 L:Addr
 env:Env
 gs:Array GenState
 os0:OsState
structure Cx.Ok (c:Cx):Prop where
 X:c.K.In c.B
 T:TopRead c.p c.loose c.mg c.mb c.B
 fk:c.env.scope.kind = .function
 loc:c.env.locals = c.L
 glo:c.env.globals = mainGlobals
 blt:c.env.builtins = builtinsNs
 cells:(c.env.cells.map (·.2)).Nodup
 hh:c.A.handled = none
noncomputable def Cx.Room (c:Cx) (k:Nat):Prop:=c.A.depth + 2 * k < recursionLimit ∧ c.A.units + 4 * k < cLine
noncomputable def VarAt (c:Cx) (ρ:Nm → Addr) (h:H) (m:Str → Option Value) (news:List (Addr × Obj)) (x:Str) (v:V):Prop:=
 match c.env.kindOf x with
 | some .local=>∃ val,m x = some val ∧ Val ρ h v val
 | some .cell=>∃ a o val,c.env.cells.lookup x = some a ∧ (a,o) ∈ news ∧ o.data = .cell (some val) ∧ Val ρ h v val
 | _=>True
structure Rel (c:Cx) (σ:St) (ρ δ:Nm → Addr) (news:List (Addr × Obj)) (m:Str → Option Value) (s:Shared):Prop where
 fr:Fr c.B c.L s.heap m
 nw:News c.B c.L s.heap news
 nd:(news.map (·.1)).Nodup
 own:∀ n o,σ.hp n = some o → OAt c.prog c.w ρ δ σ.hp news n o
 dj:∀ a b oa ob,a ≠ b → σ.hp a = some oa → σ.hp b = some ob → ∀ x ∈ foot ρ δ a oa,x ∉ foot ρ δ b ob
 vars:∀ x v,σ.vars x = some v → VarAt c ρ σ.hp m news x v
 cel:∀ x a,c.env.cells.lookup x = some a → ∃ o v,(a,o) ∈ news ∧ o.data = .cell v
 ext:s.gens = c.gs ∧ s.os = c.os0
inductive Post {α β:Type} (c:Cx) (RV:H → (Nm → Addr) → α → β → Prop) (Q:β → St → Prop) (σ:St) (ρ δ:Nm → Addr) (a:α) (s' : Shared):Prop
 | mk (b:β) (σ' : St) (ρ' δ' : Nm → Addr) (news' : List (Addr × Obj)) (m' : Str → Option Value) (X:Ext ρ δ σ.hp ρ' δ' σ'.hp) (R:Rel c σ' ρ' δ' news' m' s') (V:RV σ'.hp ρ' a b) (q:Q b σ')
theorem Post.el {α β:Type} {c:Cx} {RV:H → (Nm → Addr) → α → β → Prop} {Q:β → St → Prop} {σ:St} {ρ δ:Nm → Addr} {a:α} {s' : Shared} {G:Prop} (p:Post c RV Q σ ρ δ a s')
  (k:∀ b σ' ρ' δ' news' m',Ext ρ δ σ.hp ρ' δ' σ'.hp → Rel c σ' ρ' δ' news' m' s' → RV σ'.hp ρ' a b → Q b σ' → G):G:=p.casesOn k
inductive Reach (c:Cx) (h:H) (ρ δ:Nm → Addr) (P:St → Prop) (s' : Shared):Prop
 | mk (σ' : St) (ρ' δ' : Nm → Addr) (news' : List (Addr × Obj)) (m' : Str → Option Value) (X:Ext ρ δ h ρ' δ' σ'.hp) (R:Rel c σ' ρ' δ' news' m' s') (i:P σ')
theorem Reach.el {c:Cx} {h:H} {ρ δ:Nm → Addr} {P:St → Prop} {s' : Shared} {G:Prop} (p:Reach c h ρ δ P s')
  (k:∀ σ' ρ' δ' news' m',Ext ρ δ h ρ' δ' σ'.hp → Rel c σ' ρ' δ' news' m' s' → P σ' → G):G:=p.casesOn k
inductive ReachC (c:Cx) (vs:Str → Option V) (h:H) (ρ δ:Nm → Addr) (P:H → Prop) (s' : Shared):Prop
 | mk (h' : H) (ρ' δ' : Nm → Addr) (news' : List (Addr × Obj)) (m' : Str → Option Value) (X:Ext ρ δ h ρ' δ' h') (R:Rel c ⟨vs,h'⟩ ρ' δ' news' m' s') (i:P h')
theorem ReachC.el {c:Cx} {vs:Str → Option V} {h:H} {ρ δ:Nm → Addr} {P:H → Prop} {s' : Shared} {G:Prop} (p:ReachC c vs h ρ δ P s')
  (k:∀ h' ρ' δ' news' m',Ext ρ δ h ρ' δ' h' → Rel c ⟨vs,h'⟩ ρ' δ' news' m' s' → P h' → G):G:=p.casesOn k
noncomputable abbrev NoE:Value → Shared → Prop:=fun _ _=>False
noncomputable def MW {α β:Type} (c:Cx) (RV:H → (Nm → Addr) → α → β → Prop) (t:Sem α) (Q:β → St → Prop) (σ:St):Prop:=
 ∀ ρ δ news m s,Rel c σ ρ δ news m s →
  wpAny (model c.prog c.w) c.A t (Post c RV Q σ ρ δ) NoE s
noncomputable abbrev RVal (h:H) (ρ:Nm → Addr) (a:Value) (b:V):Prop:=Val ρ h b a
noncomputable abbrev REq {α:Type} (_:H) (_:Nm → Addr) (a:α) (b:α):Prop:=a = b
inductive Fl where
 | next | brk | cont
 | ret (v:V)
noncomputable def RFl (h:H) (ρ:Nm → Addr):Flow → Fl → Prop
 | .next,.next=>True
 | .brk,.brk=>True
 | .cont,.cont=>True
 | .ret x,.ret v=>Val ρ h v x
 | _,_=>False
noncomputable abbrev RVals (h:H) (ρ:Nm → Addr) (a:List Value) (b:List V):Prop:=Vals ρ h b a
noncomputable abbrev mE (c:Cx) (e:Expr) (Q:V → St → Prop) (σ:St):Prop:=MW c RVal (eval e c.env) Q σ
noncomputable abbrev mT (c:Cx) (e:Expr) (Q:Bool → St → Prop) (σ:St):Prop:=MW c (REq (α:=Bool)) (isTrue e c.env (eval e c.env)) Q σ
noncomputable abbrev mS (c:Cx) (st:Stmt) (Q:Fl → St → Prop) (σ:St):Prop:=MW c RFl (exec st c.env) Q σ
noncomputable abbrev mB (c:Cx) (b:List Stmt) (Q:Fl → St → Prop) (σ:St):Prop:=MW c RFl (execs b c.env) Q σ
section
variable {α α' β β' : Type} {c:Cx} {RV:H → (Nm → Addr) → α → β → Prop} {RV' : H → (Nm → Addr) → α' → β' → Prop} {σ:St}
theorem Post.mono {Q Q' : β → St → Prop} {ρ δ:Nm → Addr} {a:α} {s' : Shared} (p:Post c RV Q σ ρ δ a s') (k:∀ b σ',Q b σ' → Q' b σ'):Post c RV Q' σ ρ δ a s':=p.el fun b σ' ρ' δ' news' m' X R V q=>⟨b,σ',ρ',δ',news',m',X,R,V,k _ _ q⟩
theorem MW.mono {t:Sem α} {Q Q' : β → St → Prop} (h:MW c RV t Q σ) (k:∀ b σ',Q b σ' → Q' b σ'):MW c RV t Q' σ:=fun ρ δ news m s R=>
 wpAny_mono (h ρ δ news m s R) (fun _ _ p=>p.mono k) fun _ _ x=>x
end
theorem eL {a b:Nat} (h:a = b):a ≤ b:=Nat.le_of_eq h
theorem eR {a b:Nat} (h:a = b):b ≤ a:=Nat.le_of_eq h.symm
theorem cb1 {a b e f:Nat} (h1:a ≤ b) (h:autoParam (e + b ≤ f + a) aS):e ≤ f:=Nat.le_of_add_le_add_right (Nat.le_trans h (Nat.add_le_add_left h1 f))
theorem cb2 {a b c d e f:Nat} (h1:a ≤ b) (h2:c ≤ d) (h:autoParam (e + (b + d) ≤ f + (a + c)) aS):e ≤ f:=Nat.le_of_add_le_add_right (Nat.le_trans h (Nat.add_le_add_left (Nat.add_le_add h1 h2) f))
theorem cb3 {a b c d e f m n:Nat} (h1:a ≤ b) (h2:c ≤ d) (h3:m ≤ n) (h:autoParam (e + (b + d + n) ≤ f + (a + c + m)) aS):e ≤ f:=Nat.le_of_add_le_add_right (Nat.le_trans h (Nat.add_le_add_left (Nat.add_le_add (Nat.add_le_add h1 h2) h3) f))
theorem cb4 {a b c d e f m n p q:Nat} (h1:a ≤ b) (h2:c ≤ d) (h3:m ≤ n) (h4:p ≤ q) (h:autoParam (e + (b + d + n + q) ≤ f + (a + c + m + p)) aS):e ≤ f:=Nat.le_of_add_le_add_right (Nat.le_trans h (Nat.add_le_add_left (Nat.add_le_add (Nat.add_le_add (Nat.add_le_add h1 h2) h3) h4) f))
theorem cb5 {a b c d e f m n p q r s:Nat} (h1:a ≤ b) (h2:c ≤ d) (h3:m ≤ n) (h4:p ≤ q) (h5:r ≤ s) (h:autoParam (e + (b + d + n + q + s) ≤ f + (a + c + m + p + r)) aS):e ≤ f:=Nat.le_of_add_le_add_right (Nat.le_trans h (Nat.add_le_add_left (Nat.add_le_add (Nat.add_le_add (Nat.add_le_add (Nat.add_le_add h1 h2) h3) h4) h5) f))
theorem cf1 {a b:Nat} (h1:a ≤ b) (h:autoParam (b + 1 ≤ a) aS):False:=Nat.not_succ_le_self _ (Nat.le_trans h h1)
theorem cf2 {a b c d:Nat} (h1:a ≤ b) (h2:c ≤ d) (h:autoParam (b + d + 1 ≤ a + c) aS):False:=Nat.not_succ_le_self _ (Nat.le_trans h (Nat.add_le_add h1 h2))
theorem cf3 {a b c d m n:Nat} (h1:a ≤ b) (h2:c ≤ d) (h3:m ≤ n) (h:autoParam (b + d + n + 1 ≤ a + c + m) aS):False:=Nat.not_succ_le_self _ (Nat.le_trans h (Nat.add_le_add (Nat.add_le_add h1 h2) h3))
theorem ce0 {e f:Nat} (h:autoParam (e = f) aS):e = f:=h
theorem cl0 {e f:Nat} (h:autoParam (e ≤ f) aS):e ≤ f:=h
theorem ce1 {a b e f:Nat} (h1:a = b) (h:autoParam (e + b = f + a) aS):e = f:=Nat.add_right_cancel (h.trans (h1 ▸ rfl))
theorem ce2 {a b c d e f:Nat} (h1:a = b) (h2:c = d) (h:autoParam (e + (b + d) = f + (a + c)) aS):e = f:=by subst h1;subst h2;exact Nat.add_right_cancel h
theorem lq1 {a k v:Nat} (h:a + k = v) (h2:a + 1 ≤ v):a + 1 + (k - 1) = v:=by omega
theorem lq2 {a k v:Nat} (h:a + k = v) (h2:a + 1 ≤ v):k - 1 < k:=by omega
theorem lq4 {a k v:Nat} (h:a + k = v + 1) (h2:a ≤ v):a + 1 + (k - 1) = v + 1:=by omega
theorem lq5 {a k v:Nat} (h:a + k = v + 1) (h2:a ≤ v):k - 1 < k:=by omega
theorem lq8 {a b:Nat} (h:a ≤ b) (h2:¬ b = a):a + 1 ≤ b:=Nat.lt_of_le_of_ne h fun e=>h2 e.symm
theorem lq9 {k:Nat} (h:0 < k):k = k - 1 + 1:=by omega
theorem mi1 {a b:Nat} (h:a < b):min a b = a:=Nat.min_eq_left (Nat.le_of_lt h)
theorem lr1 {k a v:Nat} (h:k + a = v) (h2:a < v):k - 1 + (a + 1) = v:=by omega
theorem lr2 {k a v:Nat} (h:k + a = v) (h2:a < v):k - 1 < k:=by omega
theorem tn1 {k l:Int} {n m:Nat} (h:k.toNat < n) (h2:n ≤ m) (d:autoParam ((m:Int) ≤ l) aD):k < l:=by omega
theorem mi4 {a b c k:Nat} (h:a + b ≤ k):a + min b c ≤ k:=Nat.le_trans (Nat.add_le_add_left (Nat.min_le_left _ _) _) h
theorem mi5 {a b k:Nat} (h:b ≤ k):min a b ≤ k:=Nat.le_trans (Nat.min_le_right _ _) h
theorem ic1 {n:Nat}:(n:Int) + 1 = (n + 1:Nat):=rfl
theorem sx2 {i j:Nat} (h:i ≤ j):i + (j - i) = j:=Nat.add_sub_cancel' h
theorem sx4 {i j:Nat}:i + j - i = j:=Nat.add_sub_cancel_left ..
theorem sx5 {i j:Nat}:i + j + 1 - (i + j) = 1:=by omega
noncomputable def MW1 {α β:Type} (c:Cx) (RV:H → (Nm → Addr) → α → β → Prop) (v:V) (t:Value → Sem α) (Q:β → St → Prop) (σ:St):Prop:=
 ∀ ρ δ news m s x,Rel c σ ρ δ news m s → Val ρ σ.hp v x → wpAny (model c.prog c.w) c.A (t x) (Post c RV Q σ ρ δ) NoE s
noncomputable def MW2 {α β:Type} (c:Cx) (RV:H → (Nm → Addr) → α → β → Prop) (v u:V) (t:Value → Value → Sem α) (Q:β → St → Prop) (σ:St):Prop:=
 ∀ ρ δ news m s x y,Rel c σ ρ δ news m s → Val ρ σ.hp v x → Val ρ σ.hp u y → wpAny (model c.prog c.w) c.A (t x y) (Post c RV Q σ ρ δ) NoE s
noncomputable def MW3 {α β:Type} (c:Cx) (RV:H → (Nm → Addr) → α → β → Prop) (v u z:V) (t:Value → Value → Value → Sem α) (Q:β → St → Prop) (σ:St):Prop:=
 ∀ ρ δ news m s x y w,Rel c σ ρ δ news m s → Val ρ σ.hp v x → Val ρ σ.hp u y → Val ρ σ.hp z w → wpAny (model c.prog c.w) c.A (t x y w) (Post c RV Q σ ρ δ) NoE s
noncomputable def MWs {α β:Type} (c:Cx) (RV:H → (Nm → Addr) → α → β → Prop) (vs:List V) (t:List Value → Sem α) (Q:β → St → Prop) (σ:St):Prop:=
 ∀ ρ δ news m s xs,Rel c σ ρ δ news m s → Vals ρ σ.hp vs xs → wpAny (model c.prog c.w) c.A (t xs) (Post c RV Q σ ρ δ) NoE s
noncomputable abbrev RUnit (_:H) (_:Nm → Addr) (_:Unit) (_:Unit):Prop:=True
section
variable {α α' β β' : Type} {c:Cx} {RV:H → (Nm → Addr) → α → β → Prop} {RV' : H → (Nm → Addr) → α' → β' → Prop} {σ σ₁:St} {ρ δ ρ₁ δ₁:Nm → Addr} {news:List (Addr × Obj)} {m:Str → Option Value} {s:Shared}
theorem Post.ext {Q:β → St → Prop} {a:α} (X:Ext ρ δ σ.hp ρ₁ δ₁ σ₁.hp) (h:Post c RV Q σ₁ ρ₁ δ₁ a s):Post c RV Q σ ρ δ a s:=
 h.el fun b σ' ρ' δ' news' m' X' R V q=>⟨b,σ',ρ',δ',news',m',X.trans X',R,V,q⟩
theorem Post.now {Q:β → St → Prop} {a:α} {b:β} (R:Rel c σ ρ δ news m s) (V:RV σ.hp ρ a b) (q:Q b σ):Post c RV Q σ ρ δ a s:=⟨b,σ,ρ,δ,news,m,Ext.refl _ _ _,R,V,q⟩
theorem nest {t:Sem α} {Q:β → St → Prop} {P:α → Shared → Prop} (h:MW c RV t Q σ) (R:Rel c σ ρ δ news m s)
  (k:∀ a s₁ b σ₁ ρ₁ δ₁ news₁ m₁,Ext ρ δ σ.hp ρ₁ δ₁ σ₁.hp → Rel c σ₁ ρ₁ δ₁ news₁ m₁ s₁ → RV σ₁.hp ρ₁ a b → Q b σ₁ → P a s₁):wpAny (model c.prog c.w) c.A t P NoE s:=
 wpAny_mono (h ρ δ news m s R) (fun a s₁ p=>p.el (k a s₁)) fun _ _ x=>x
theorem nestP {t:Sem α} {Q:β → St → Prop} {P:α → Shared → Prop} (h:wpAny (model c.prog c.w) c.A t (Post c RV Q σ ρ δ) NoE s)
  (k:∀ a s₁ b σ₁ ρ₁ δ₁ news₁ m₁,Ext ρ δ σ.hp ρ₁ δ₁ σ₁.hp → Rel c σ₁ ρ₁ δ₁ news₁ m₁ s₁ → RV σ₁.hp ρ₁ a b → Q b σ₁ → P a s₁) {E:Value → Shared → Prop}:wpAny (model c.prog c.w) c.A t P E s:=
 wpAny_mono h (fun a s₁ p=>p.el (k a s₁)) fun _ _ x=>x.elim
theorem done {t:Sem α} {Q:β → St → Prop} (h:MW c RV t Q σ₁) (X:Ext ρ δ σ.hp ρ₁ δ₁ σ₁.hp) (R:Rel c σ₁ ρ₁ δ₁ news m s):wpAny (model c.prog c.w) c.A t (Post c RV Q σ ρ δ) NoE s:=
 wpAny_mono (h ρ₁ δ₁ news m s R) (fun _ _ p=>Post.ext X p) fun _ _ x=>x
theorem doneP {t:Sem α} {Q:β → St → Prop} (h:wpAny (model c.prog c.w) c.A t (Post c RV Q σ₁ ρ₁ δ₁) NoE s) (X:Ext ρ δ σ.hp ρ₁ δ₁ σ₁.hp):wpAny (model c.prog c.w) c.A t (Post c RV Q σ ρ δ) NoE s:=
 wpAny_mono h (fun _ _ p=>Post.ext X p) fun _ _ x=>x
end
section
variable {α β:Type}
noncomputable abbrev kW1 (c:Cx) (RV:H → (Nm → Addr) → α → β → Prop) (t:Value → Sem α) (Q:β → St → Prop) (v:V) (σ:St):Prop:=MW1 c RV v t Q σ
noncomputable abbrev kW2 (c:Cx) (RV:H → (Nm → Addr) → α → β → Prop) (a:V) (t:Value → Value → Sem α) (Q:β → St → Prop) (b:V) (σ:St):Prop:=MW2 c RV a b t Q σ
noncomputable abbrev kWs (c:Cx) (RV:H → (Nm → Addr) → α → β → Prop) (t:List Value → Sem α) (Q:β → St → Prop) (vs:List V) (σ:St):Prop:=MWs c RV vs t Q σ
noncomputable abbrev kB (c:Cx) (r:Expr) (t:Value → Value → Sem Value) (Q:V → St → Prop) (a:V) (σ:St):Prop:=mE c r (kW2 c RVal a t Q) σ
noncomputable abbrev kN (Q:Fl → St → Prop) (_:β) (σ:St):Prop:=Q .next σ
noncomputable abbrev kRet (Q:Fl → St → Prop) (v:V) (σ:St):Prop:=Q (.ret v) σ
noncomputable abbrev kSto (c:Cx) (x:Str) (Q:Fl → St → Prop):V → St → Prop:=kW1 c RUnit (storeName c.env x) (kN Q)
noncomputable abbrev kS2 (c:Cx) (attr:Str) (v:V) (Q:Fl → St → Prop) (u:V) (σ:St):Prop:=MW2 c RUnit u v (fun x y=>setAttr x attr y) (kN Q) σ
noncomputable abbrev kS (c:Cx) (o:Expr) (attr:Str) (Q:Fl → St → Prop) (v:V) (σ:St):Prop:=mE c o (kS2 c attr v Q) σ
noncomputable abbrev kI3 (c:Cx) (u v:V) (Q:Fl → St → Prop) (j:V) (σ:St):Prop:=MW3 c RUnit u j v (fun x y z=>setItem x y z) (kN Q) σ
noncomputable abbrev kI2 (c:Cx) (i:Expr) (v:V) (Q:Fl → St → Prop) (u:V) (σ:St):Prop:=mE c i (kI3 c u v Q) σ
noncomputable abbrev kI (c:Cx) (o i:Expr) (Q:Fl → St → Prop) (v:V) (σ:St):Prop:=mE c o (kI2 c i v Q) σ
noncomputable abbrev kAA (c:Cx) (e:Expr) (op:Operator) (attr:Str) (Q:Fl → St → Prop) (u:V) (σ:St):Prop:=MW1 c RVal u (fun x=>getAttr x attr true) (kB c e (inplaceOp op) (kW2 c RUnit u (fun x y=>setAttr x attr y) (kN Q))) σ
noncomputable abbrev kIf (c:Cx) (body orelse:List Stmt) (Q:Fl → St → Prop) (b:Bool) (σ:St):Prop:=if b then mB c body Q σ else mB c orelse Q σ
noncomputable abbrev kNot (Q:Bool → St → Prop) (b:Bool) (σ:St):Prop:=Q (!b) σ
noncomputable abbrev kTand (c:Cx) (rest:List Expr) (pos:Pos) (Q:Bool → St → Prop) (b:Bool) (σ:St):Prop:=if b then mT c (.BoolOp .And rest pos) Q σ else Q false σ
noncomputable abbrev kTor (c:Cx) (rest:List Expr) (pos:Pos) (Q:Bool → St → Prop) (b:Bool) (σ:St):Prop:=if b then Q true σ else mT c (.BoolOp .Or rest pos) Q σ
noncomputable abbrev kA2 (v:V) (Q:List V → St → Prop) (vs:List V) (σ:St):Prop:=Q (v :: vs) σ
end
section
variable {c:Cx} {σ:St}
theorem mB_nil {Q:Fl → St → Prop} (h:Q .next σ):mB c [] Q σ:=fun _ _ _ _ _ R=>wpAny_execs_nil (Post.now (RV:=RFl) (b:=.next) R trivial h)
noncomputable def Then (c:Cx) (rest:List Stmt) (Q:Fl → St → Prop) (f:Fl) (σ:St):Prop:=match f with
 | .next=>mB c rest Q σ
 | f=>Q f σ
theorem mB_cons {st:Stmt} {rest:List Stmt} {Q:Fl → St → Prop} (h:mS c st (Then c rest Q) σ):mB c (st :: rest) Q σ:=fun ρ δ news m s R=>by
 refine wpAny_execs_cons (nest h R fun f s₁ b σ₁ ρ₁ δ₁ news₁ m₁ X R₁ V q=>?_)
 cases f <;> cases b <;> first | exact V.elim | exact done q X R₁ | exact ⟨_,σ₁,ρ₁,δ₁,news₁,m₁,X,R₁,V,q⟩
theorem mS_ret {e:Expr} {pos:Pos} {Q:Fl → St → Prop} (h:mE c e (kRet Q) σ):mS c (.Return (some e) pos) Q σ:=fun ρ δ news m s R=>
 wpAny_Return_some (nest h R fun a s₁ b σ₁ ρ₁ δ₁ news₁ m₁ X R₁ V q=>⟨.ret b,σ₁,ρ₁,δ₁,news₁,m₁,X,R₁,V,q⟩)
theorem mS_ret0 {pos:Pos} {Q:Fl → St → Prop} (h:Q (.ret .none) σ):mS c (.Return none pos) Q σ:=fun ρ δ news m s R=>
 wpAny_Return_none (Post.now (RV:=RFl) (b:=.ret .none) R (show Val ρ σ.hp .none Value.none from rfl) h)
theorem mS_expr {e:Expr} {pos:Pos} {Q:Fl → St → Prop} (h:mE c e (kN Q) σ) (hi:autoParam (interactive c.env = false) aR) (hs:autoParam (swapsWith e none pos.line c.env = pure false) aR):mS c (.Expr e pos) Q σ:=fun ρ δ news m s R=>
 wpAny_Expr_any (nest h R fun a s₁ b σ₁ ρ₁ δ₁ news₁ m₁ X R₁ V q=>⟨.next,σ₁,ρ₁,δ₁,news₁,m₁,X,R₁,trivial,q⟩) hi hs
theorem mS_pass {pos:Pos} {Q:Fl → St → Prop} (h:Q .next σ):mS c (.Pass pos) Q σ:=fun ρ δ news m s R=>wpAny_Pass (Post.now (RV:=RFl) (b:=.next) R trivial h)
theorem mS_break {pos:Pos} {Q:Fl → St → Prop} (h:Q .brk σ):mS c (.Break pos) Q σ:=fun ρ δ news m s R=>wpAny_Break (Post.now (RV:=RFl) (b:=.brk) R trivial h)
theorem mS_continue {pos:Pos} {Q:Fl → St → Prop} (h:Q .cont σ):mS c (.Continue pos) Q σ:=fun ρ δ news m s R=>wpAny_Continue (Post.now (RV:=RFl) (b:=.cont) R trivial h)
theorem mS_if {test:Expr} {body orelse:List Stmt} {pos:Pos} {Q:Fl → St → Prop} (h:mT c test (kIf c body orelse Q) σ):mS c (.If test body orelse pos) Q σ:=fun ρ δ news m s R=>
 wpAny_If (nest h R fun a s₁ b σ₁ ρ₁ δ₁ news₁ m₁ X R₁ V q=>by
  cases V
  cases a
  ·exact done q X R₁
  ·exact done q X R₁)
noncomputable def stN (c:Cx) (x:Str) (v:V) (Q:Fl → St → Prop) (σ:St):Prop:=MW1 c RFl v (fun y=>do storeName c.env x y;pure .next) Q σ
theorem mS_assign {x:Str} {p' pos:Pos} {e:Expr} {Q:Fl → St → Prop} (h:mE c e (kSto c x Q) σ)
  (hs:autoParam (swapsWith e (some (.Name x p')) pos.line c.env = pure false) aR):mS c (.Assign [.Name x p'] e pos) Q σ:=fun ρ δ news m s R=>
 wpAny_Assign_Name (nest h R fun a s₁ b σ₁ ρ₁ δ₁ news₁ m₁ X R₁ V q=>
  nestP (q ρ₁ δ₁ news₁ m₁ s₁ a R₁ V) fun _ s₂ _ σ₂ ρ₂ δ₂ news₂ m₂ X₂ R₂ _ q₂=>⟨.next,σ₂,ρ₂,δ₂,news₂,m₂,X.trans X₂,R₂,trivial,q₂⟩) hs
theorem mS_aug {x:Str} {p' pos:Pos} {op:Operator} {e:Expr} {Q:Fl → St → Prop}
  (h:MW c RVal (loadName c.env x) (kB c e (inplaceOp op) (kSto c x Q)) σ) :
  mS c (.AugAssign (.Name x p') op e pos) Q σ:=fun ρ δ news m s R=>
 wpAny_AugAssign_Name (nest h R fun a s₁ b σ₁ ρ₁ δ₁ news₁ m₁ X R₁ V q=>nest q R₁ fun a₂ s₂ b₂ σ₂ ρ₂ δ₂ news₂ m₂ X₂ R₂ V₂ q₂=>
  nestP (q₂ ρ₂ δ₂ news₂ m₂ s₂ a a₂ R₂ (V.ext X₂) V₂) fun a₃ s₃ b₃ σ₃ ρ₃ δ₃ news₃ m₃ X₃ R₃ V₃ q₃=>
   nestP (q₃ ρ₃ δ₃ news₃ m₃ s₃ a₃ R₃ V₃) fun _ s₄ _ σ₄ ρ₄ δ₄ news₄ m₄ X₄ R₄ _ q₄=>⟨.next,σ₄,ρ₄,δ₄,news₄,m₄,((X.trans X₂).trans X₃).trans X₄,R₄,trivial,q₄⟩)
theorem mS_attr {o e:Expr} {attr:Str} {p' pos:Pos} {Q:Fl → St → Prop}
  (h:mE c e (kS c o attr Q) σ)
  (hs:autoParam (swapsWith e (some (.Attribute o attr p')) pos.line c.env = pure false) aR):mS c (.Assign [.Attribute o attr p'] e pos) Q σ:=fun ρ δ news m s R=>
 plainObj_wpAny_Assign_Attribute (nest h R fun a s₁ b σ₁ ρ₁ δ₁ news₁ m₁ X R₁ V q=>nest q R₁ fun a₂ s₂ b₂ σ₂ ρ₂ δ₂ news₂ m₂ X₂ R₂ V₂ q₂=>
  nestP (q₂ ρ₂ δ₂ news₂ m₂ s₂ a₂ a R₂ V₂ (V.ext X₂)) fun a₃ s₃ b₃ σ₃ ρ₃ δ₃ news₃ m₃ X₃ R₃ V₃ q₃=>⟨.next,σ₃,ρ₃,δ₃,news₃,m₃,(X.trans X₂).trans X₃,R₃,trivial,q₃⟩) hs
theorem mS_sub {o i e:Expr} {p' pos:Pos} {Q:Fl → St → Prop}
  (h:mE c e (kI c o i Q) σ)
  (hs:autoParam (swapsWith e (some (.Subscript o i p')) pos.line c.env = pure false) aR):mS c (.Assign [.Subscript o i p'] e pos) Q σ:=fun ρ δ news m s R=>
 wpAny_Assign_Subscript (nest h R fun a s₁ b σ₁ ρ₁ δ₁ news₁ m₁ X R₁ V q=>nest q R₁ fun a₂ s₂ b₂ σ₂ ρ₂ δ₂ news₂ m₂ X₂ R₂ V₂ q₂=>nest q₂ R₂ fun a₃ s₃ b₃ σ₃ ρ₃ δ₃ news₃ m₃ X₃ R₃ V₃ q₃=>
  nestP (q₃ ρ₃ δ₃ news₃ m₃ s₃ a₂ a₃ a R₃ (V₂.ext X₃) V₃ (V.ext (X₂.trans X₃))) fun a₄ s₄ b₄ σ₄ ρ₄ δ₄ news₄ m₄ X₄ R₄ V₄ q₄=>⟨.next,σ₄,ρ₄,δ₄,news₄,m₄,((X.trans X₂).trans X₃).trans X₄,R₄,trivial,q₄⟩) hs
theorem mS_augAttr {o e:Expr} {attr:Str} {tpos pos:Pos} {op:Operator} {Q:Fl → St → Prop}
  (h:mE c o (kAA c e op attr Q) σ) :
  mS c (.AugAssign (.Attribute o attr tpos) op e pos) Q σ:=fun ρ δ news m s R=>
 wpAny_AugAssign_AttributeAny (nest h R fun a s₁ b σ₁ ρ₁ δ₁ news₁ m₁ X R₁ V q=>nestP (q ρ₁ δ₁ news₁ m₁ s₁ a R₁ V) fun a₂ s₂ b₂ σ₂ ρ₂ δ₂ news₂ m₂ X₂ R₂ V₂ q₂=>nest q₂ R₂ fun a₃ s₃ b₃ σ₃ ρ₃ δ₃ news₃ m₃ X₃ R₃ V₃ q₃=>
  nestP (q₃ ρ₃ δ₃ news₃ m₃ s₃ a₂ a₃ R₃ (V₂.ext X₃) V₃) fun a₄ s₄ b₄ σ₄ ρ₄ δ₄ news₄ m₄ X₄ R₄ V₄ q₄=>
   nestP (q₄ ρ₄ δ₄ news₄ m₄ s₄ a a₄ R₄ (V.ext ((X₂.trans X₃).trans X₄)) V₄) fun a₅ s₅ b₅ σ₅ ρ₅ δ₅ news₅ m₅ X₅ R₅ V₅ q₅=>
    ⟨.next,σ₅,ρ₅,δ₅,news₅,m₅,(((X.trans X₂).trans X₃).trans X₄).trans X₅,R₅,trivial,q₅⟩)
theorem mE_int {i:Int} {k:Nat} {pos:Pos} {Q:V → St → Prop} (h:Q (.int i) σ):mE c (.Constant (.int i) k pos) Q σ:=fun ρ δ news m s R=>
 wpAny_Constant_int (Post.now (RV:=RVal) (b:=.int i) (s:={ s with toks:=s.toks + 1 }) ⟨R.fr,R.nw,R.nd,R.own,R.dj,R.vars,R.cel,R.ext⟩ ⟨_,rfl⟩ h)
theorem mE_str {x:Str} {k:Nat} {pos:Pos} {Q:V → St → Prop} (h:Q (.str x) σ):mE c (.Constant (.str x) k pos) Q σ:=fun ρ δ news m s R=>
 wpAny_Constant_str (Post.now (RV:=RVal) (b:=.str x) (s:={ s with toks:=s.toks + 1 }) ⟨R.fr,R.nw,R.nd,R.own,R.dj,R.vars,R.cel,R.ext⟩ ⟨_,rfl⟩ h)
theorem mE_bool {b:Bool} {k:Nat} {pos:Pos} {Q:V → St → Prop} (h:Q (.bool b) σ):mE c (.Constant (.bool b) k pos) Q σ:=fun ρ δ news m s R=>
 Constant_bool (Post.now (RV:=RVal) (b:=.bool b) R (show Val ρ σ.hp (.bool b) (.bool b) from rfl) h)
theorem mE_none {k:Nat} {pos:Pos} {Q:V → St → Prop} (h:Q .none σ):mE c (.Constant .none k pos) Q σ:=fun ρ δ news m s R=>
 Constant_none (Post.now (RV:=RVal) (b:=.none) R (show Val ρ σ.hp .none .none from rfl) h)
theorem mE_bin {l r:Expr} {op:Operator} {pos:Pos} {Q:V → St → Prop} (h:mE c l (kB c r (binaryOp op) Q) σ):mE c (.BinOp l op r pos) Q σ:=fun ρ δ news m s R=>
 wpAny_BinOp (nest h R fun a s₁ b σ₁ ρ₁ δ₁ news₁ m₁ X R₁ V q=>nest q R₁ fun a₂ s₂ b₂ σ₂ ρ₂ δ₂ news₂ m₂ X₂ R₂ V₂ q₂=>
  doneP (q₂ ρ₂ δ₂ news₂ m₂ s₂ a a₂ R₂ (V.ext X₂) V₂) (X.trans X₂))
theorem mE_cmp {l r:Expr} {op:CmpOp} {pos:Pos} {Q:V → St → Prop} (h:mE c l (kB c r (compareOp op) Q) σ) (hm:autoParam (behindInMarks op r = false) aW) :
  mE c (.Compare l [op] [r] pos) Q σ:=fun ρ δ news m s R=>
 wpAny_Compare1 (nest h R fun a s₁ b σ₁ ρ₁ δ₁ news₁ m₁ X R₁ V q=>nest q R₁ fun a₂ s₂ b₂ σ₂ ρ₂ δ₂ news₂ m₂ X₂ R₂ V₂ q₂=>
  doneP (q₂ ρ₂ δ₂ news₂ m₂ s₂ a a₂ R₂ (V.ext X₂) V₂) (X.trans X₂)) hm
theorem mE_ifexp {test body orelse:Expr} {pos:Pos} {Q:V → St → Prop} (h:mT c test (fun b σ=>if b then mE c body Q σ else mE c orelse Q σ) σ):mE c (.IfExp test body orelse pos) Q σ:=fun ρ δ news m s R=>
 wpAny_IfExp (nest h R fun a s₁ b σ₁ ρ₁ δ₁ news₁ m₁ X R₁ V q=>by
  cases V
  cases a
  ·exact done q X R₁
  ·exact done q X R₁)
theorem mE_neg {x:Expr} {op:UnaryOp} {pos:Pos} {Q:V → St → Prop} (h:mE c x (kW1 c RVal (unaryOp op) Q) σ):mE c (.UnaryOp op x pos) Q σ:=fun ρ δ news m s R=>
 wpAny_UnaryOp (nest h R fun a s₁ b σ₁ ρ₁ δ₁ news₁ m₁ X R₁ V q=>doneP (q ρ₁ δ₁ news₁ m₁ s₁ a R₁ V) X)
theorem mE_and1 {op:BoolOp} {e:Expr} {pos:Pos} {Q:V → St → Prop} (h:mE c e Q σ):mE c (.BoolOp op [e] pos) Q σ:=fun ρ δ news m s R=>BoolOp_one (h ρ δ news m s R)
theorem mE_and {e₁ e₂:Expr} {rest:List Expr} {pos:Pos} {Q:V → St → Prop}
  (h:mE c e₁ (fun v σ₁=>MW1 c (REq (α:=Bool)) v truthy (fun b σ₂=>if b then mE c (.BoolOp .And (e₂ :: rest) pos) Q σ₂ else Q v σ₂) σ₁) σ):mE c (.BoolOp .And (e₁ :: e₂ :: rest) pos) Q σ:=fun ρ δ news m s R=>
 BoolOp_and (nest h R fun a s₁ b σ₁ ρ₁ δ₁ news₁ m₁ X R₁ V q=>nestP (q ρ₁ δ₁ news₁ m₁ s₁ a R₁ V) fun a₂ s₂ b₂ σ₂ ρ₂ δ₂ news₂ m₂ X₂ R₂ V₂ q₂=>by
  cases V₂
  cases a₂
  ·exact ⟨b,σ₂,ρ₂,δ₂,news₂,m₂,X.trans X₂,R₂,V.ext X₂,q₂⟩
  ·exact done q₂ (X.trans X₂) R₂)
theorem mE_or {e₁ e₂:Expr} {rest:List Expr} {pos:Pos} {Q:V → St → Prop}
  (h:mE c e₁ (fun v σ₁=>MW1 c (REq (α:=Bool)) v truthy (fun b σ₂=>if b then Q v σ₂ else mE c (.BoolOp .Or (e₂ :: rest) pos) Q σ₂) σ₁) σ):mE c (.BoolOp .Or (e₁ :: e₂ :: rest) pos) Q σ:=fun ρ δ news m s R=>
 BoolOp_or (nest h R fun a s₁ b σ₁ ρ₁ δ₁ news₁ m₁ X R₁ V q=>nestP (q ρ₁ δ₁ news₁ m₁ s₁ a R₁ V) fun a₂ s₂ b₂ σ₂ ρ₂ δ₂ news₂ m₂ X₂ R₂ V₂ q₂=>by
  cases V₂
  cases a₂
  ·exact done q₂ (X.trans X₂) R₂
  ·exact ⟨b,σ₂,ρ₂,δ₂,news₂,m₂,X.trans X₂,R₂,V.ext X₂,q₂⟩)
theorem mE_attr {o:Expr} {attr:Str} {pos:Pos} {Q:V → St → Prop} (h:mE c o (kW1 c RVal (fun x=>getAttr x attr true) Q) σ)
  (he:autoParam (eval (.Attribute o attr pos) c.env = (do
   let x ← eval o c.env
   standAt pos.atName
   let r ← holding [x] (getAttr x attr true)
   letTemporaryGo o x r
   pure r)) aW):mE c (.Attribute o attr pos) Q σ:=fun ρ δ news m s R=>
 Attribute_any_ (nest h R fun a s₁ b σ₁ ρ₁ δ₁ news₁ m₁ X R₁ V q=>doneP (q ρ₁ δ₁ news₁ m₁ s₁ a R₁ V) X) he
theorem mE_sub {o i:Expr} {pos:Pos} {Q:V → St → Prop} (h:mE c o (kB c i (subscriptTail o i) Q) σ):mE c (.Subscript o i pos) Q σ:=fun ρ δ news m s R=>
 Subscript_ (nest h R fun a s₁ b σ₁ ρ₁ δ₁ news₁ m₁ X R₁ V q=>nest q R₁ fun a₂ s₂ b₂ σ₂ ρ₂ δ₂ news₂ m₂ X₂ R₂ V₂ q₂=>doneP (q₂ ρ₂ δ₂ news₂ m₂ s₂ a a₂ R₂ (V.ext X₂) V₂) (X.trans X₂))
noncomputable abbrev mL (c:Cx) (pos:Pos) (es:List Expr) (Q:List V → St → Prop) (σ:St):Prop:=MW c RVals (spliced (backTo pos (starEach es c.env))) Q σ
noncomputable abbrev kA (c:Cx) (pos:Pos) (rest:List Expr) (Q:List V → St → Prop) (v:V) (σ:St):Prop:=mL c pos rest (kA2 v Q) σ
theorem mL_nil {pos:Pos} {Q:List V → St → Prop} (h:Q [] σ):mL c pos [] Q σ:=fun ρ δ news m s R=>args_nil (Post.now (RV:=RVals) R Vals.nil h)
theorem mL_cons {pos:Pos} {e:Expr} {rest:List Expr} {Q:List V → St → Prop} (h:mE c e (kA c pos rest Q) σ)
  (he:autoParam (starEach (e :: rest) c.env = (false,eval e c.env) :: starEach rest c.env) aR):mL c pos (e :: rest) Q σ:=fun ρ δ news m s R=>
 args_cons (nest h R fun a s₁ b σ₁ ρ₁ δ₁ news₁ m₁ X R₁ V q=>nest q R₁ fun a₂ s₂ b₂ σ₂ ρ₂ δ₂ news₂ m₂ X₂ R₂ V₂ q₂=>
  ⟨_,σ₂,ρ₂,δ₂,news₂,m₂,X.trans X₂,R₂,Vals.cons (V.ext X₂) V₂,q₂⟩) he
theorem mE_list {es:List Expr} {pos:Pos} {Q:V → St → Prop} (h:mL c pos es (kWs c RVal newList Q) σ):mE c (.List es pos) Q σ:=fun ρ δ news m s R=>
 List_ (nest h R fun a s₁ b σ₁ ρ₁ δ₁ news₁ m₁ X R₁ V q=>doneP (q ρ₁ δ₁ news₁ m₁ s₁ a R₁ V) X)
theorem mE_tup {es:List Expr} {k:Nat} {pos:Pos} {Q:V → St → Prop} (h:mL c pos es (kWs c RVal newTuple Q) σ):mE c (.Tuple es k pos) Q σ:=fun ρ δ news m s R=>
 Tuple_ (nest h R fun a s₁ b σ₁ ρ₁ δ₁ news₁ m₁ X R₁ V q=>doneP (q ρ₁ δ₁ news₁ m₁ s₁ a R₁ V) X)
theorem mT_cmp {l r:Expr} {op:CmpOp} {pos:Pos} {Q:Bool → St → Prop} (h:mE c l (kB c r (compareOp op) (kW1 c (REq (α:=Bool)) truthy Q)) σ)
  (hm:autoParam (behindInMarks op r = false) aW):mT c (.Compare l [op] [r] pos) Q σ:=fun ρ δ news m s R=>
 wpAny_isTrue_Compare1 (nest h R fun a s₁ b σ₁ ρ₁ δ₁ news₁ m₁ X R₁ V q=>nest q R₁ fun a₂ s₂ b₂ σ₂ ρ₂ δ₂ news₂ m₂ X₂ R₂ V₂ q₂=>
  nestP (q₂ ρ₂ δ₂ news₂ m₂ s₂ a a₂ R₂ (V.ext X₂) V₂) fun a₃ s₃ b₃ σ₃ ρ₃ δ₃ news₃ m₃ X₃ R₃ V₃ q₃=>doneP (q₃ ρ₃ δ₃ news₃ m₃ s₃ a₃ R₃ V₃) ((X.trans X₂).trans X₃)) hm
theorem mT_not {x:Expr} {pos:Pos} {Q:Bool → St → Prop} (h:mT c x (kNot Q) σ):mT c (.UnaryOp .Not x pos) Q σ:=fun ρ δ news m s R=>
 isTrue_not (nest h R fun a s₁ b σ₁ ρ₁ δ₁ news₁ m₁ X R₁ V q=>by cases V;exact ⟨_,σ₁,ρ₁,δ₁,news₁,m₁,X,R₁,rfl,q⟩)
theorem mT_and0 {pos:Pos} {Q:Bool → St → Prop} (h:Q true σ):mT c (.BoolOp .And [] pos) Q σ:=fun ρ δ news m s R=>isTrue_and_nil (Post.now (RV:=REq) R rfl h)
theorem mT_or0 {pos:Pos} {Q:Bool → St → Prop} (h:Q false σ):mT c (.BoolOp .Or [] pos) Q σ:=fun ρ δ news m s R=>isTrue_or_nil (Post.now (RV:=REq) R rfl h)
theorem isTrue_and_any {e:Expr} {M:Model} {A:Around} {E:Value → Shared → Prop} {s:Shared} {env:Env} {rest:List Expr} {op:BoolOp} {pos:Pos} {w w' : Sem Value} {Q:Bool → Shared → Prop} (h:wpAny M A (isTrue (.BoolOp op rest pos) env w) Q E s):wpAny M A (isTrue (.BoolOp op rest pos) env w') Q E s:=h
theorem mT_and {x:Expr} {rest:List Expr} {pos:Pos} {Q:Bool → St → Prop} (h:mT c x (kTand c rest pos Q) σ):mT c (.BoolOp .And (x :: rest) pos) Q σ:=fun ρ δ news m s R=>
 isTrue_and (nest h R fun a s₁ b σ₁ ρ₁ δ₁ news₁ m₁ X R₁ V q=>by
  cases V
  cases a
  ·exact ⟨_,σ₁,ρ₁,δ₁,news₁,m₁,X,R₁,rfl,q⟩
  ·exact isTrue_and_any (e:=x) (done q X R₁))
theorem mT_or {x:Expr} {rest:List Expr} {pos:Pos} {Q:Bool → St → Prop} (h:mT c x (kTor c rest pos Q) σ):mT c (.BoolOp .Or (x :: rest) pos) Q σ:=fun ρ δ news m s R=>
 isTrue_or (nest h R fun a s₁ b σ₁ ρ₁ δ₁ news₁ m₁ X R₁ V q=>by
  cases V
  cases a
  ·exact isTrue_and_any (e:=x) (done q X R₁)
  ·exact ⟨_,σ₁,ρ₁,δ₁,news₁,m₁,X,R₁,rfl,q⟩)
theorem mT_plain {e:Expr} {Q:Bool → St → Prop} (h:mE c e (kW1 c (REq (α:=Bool)) truthy Q) σ)
  (he:autoParam (isTrue e c.env (eval e c.env) = (do let v ← eval e c.env;standAt e.pos;holding [v] (truthy v))) aR):mT c e Q σ:=fun ρ δ news m s R=>
 isTrue_plain (nest h R fun a s₁ b σ₁ ρ₁ δ₁ news₁ m₁ X R₁ V q=>doneP (q ρ₁ δ₁ news₁ m₁ s₁ a R₁ V) X) he
end
theorem one_at:∀ {l:List (Addr × Obj)},(l.map (·.1)).Nodup → ∀ {a:Addr} {o o' : Obj},(a,o) ∈ l → (a,o') ∈ l → o = o'
 | [],_,_,_,_,h,_=>nomatch h
 | p :: r,hn,a,o,o',h,h'=>by
  rw [List.map_cons,List.nodup_cons] at hn
  rcases List.mem_cons.mp h with e | h
  ·rcases List.mem_cons.mp h' with e' | h'
   ·exact congrArg Prod.snd (e.trans e'.symm)
   ·exact absurd (by rw [← e];exact List.mem_map.mpr ⟨_,h',rfl⟩) hn.1
  ·rcases List.mem_cons.mp h' with e' | h'
   ·exact absurd (by rw [← e'];exact List.mem_map.mpr ⟨_,h,rfl⟩) hn.1
   ·exact one_at hn.2 h h'
theorem upd_of:∀ {l:List (Addr × Obj)},(l.map (·.1)).Nodup → ∀ {d:Addr} {o:Obj} (o' : Obj),(d,o) ∈ l → ∃ l',Upd d o o' l l' ∧ (d,o') ∈ l' ∧ (∀ p ∈ l,p.1 ≠ d → p ∈ l') ∧ l'.map (·.1) = l.map (·.1)
 | [],_,_,_,_,h=>nomatch h
 | p :: r,hn,d,o,o',h=>by
  have hn':=hn
  rw [List.map_cons,List.nodup_cons] at hn
  rcases List.mem_cons.mp h with e | h
  ·subst e
   refine ⟨(d,o') :: r,.head fun q hq e=>hn.1 (List.mem_map.mpr ⟨_,hq,e⟩),.head _,fun q hq ne=>?_,rfl⟩
   rcases List.mem_cons.mp hq with rfl | hq
   ·exact absurd rfl ne
   ·exact .tail _ hq
  ·obtain ⟨l',U,m,k,e⟩:=upd_of hn.2 o' h
   have ne:p.1 ≠ d:=fun e=>hn.1 (by rw [e];exact List.mem_map.mpr ⟨_,h,rfl⟩)
   refine ⟨p :: l',.tail ne U,.tail _ m,fun q hq neq=>?_,by rw [List.map_cons,List.map_cons,e]⟩
   rcases List.mem_cons.mp hq with rfl | hq
   ·exact .head _
   ·exact .tail _ (k q hq neq)
section
variable {c:Cx} {σ:St} {ρ δ:Nm → Addr} {news:List (Addr × Obj)} {m:Str → Option Value} {s s' : Shared}
theorem Rel.same (R:Rel c σ ρ δ news m s) (e:s'.heap = s.heap) (ex:autoParam (s'.gens = s.gens ∧ s'.os = s.os) aP):Rel c σ ρ δ news m s':=⟨e ▸ R.fr,e ▸ R.nw,R.nd,R.own,R.dj,R.vars,R.cel,ex.1.trans R.ext.1,ex.2.trans R.ext.2⟩
theorem Rel.K (ok:c.Ok) (R:Rel c σ ρ δ news m s):c.K.In s.heap:=ok.X.keeps R.fr.keep
theorem set_dom {h:H} {n:Nm} {o:O} {a:Nm} (q:h a ≠ none):h.set n o a ≠ none:=by
 unfold H.set
 split
 ·simp
 ·exact q
theorem ext_set {h:H} {n:Nm} {o:O}:Ext ρ δ h ρ δ (h.set n o):=fun a q=>⟨set_dom q,rfl,rfl⟩
theorem OAt.ext {prog:Program} {w:World} {h h' : H} {ρ' δ' : Nm → Addr} {news' : List (Addr × Obj)} {n:Nm} {o:O} (X:Ext ρ δ h ρ' δ' h') (hn:h n ≠ none) (k:∀ p ∈ news,p.1 ∈ foot ρ δ n o → p ∈ news') (q:OAt prog w ρ δ h news n o):OAt prog w ρ' δ' h' news' n o:=by
 obtain ⟨-,e1,e2⟩:=X n hn
 cases o with
 | inst C fs=>
  obtain ⟨es,i,a,b,f⟩:=q
  refine ⟨es,i,?_,?_,f.ext X⟩
  ·rw [e1,e2];exact k _ a (.head _)
  ·rw [e2];exact k _ b (.tail _ (.head _))
 | list xs=>obtain ⟨vs,i,a,f⟩:=q;exact ⟨vs,i,by rw [e1];exact k _ a (.head _),f.ext X⟩
 | tup xs=>obtain ⟨vs,i,a,f⟩:=q;exact ⟨vs,i,by rw [e1];exact k _ a (.head _),f.ext X⟩
 | dict xs=>obtain ⟨l,o,i,a,d,f⟩:=q;exact ⟨by rw [e1];exact l,o,i,by rw [e1];exact k _ a (.head _),d,f.ext X⟩
 | known xs=>obtain ⟨vs,a,f⟩:=q;exact ⟨vs,by rw [e1];exact k _ a (.head _),f.ext X⟩
 | raw T fs=>obtain ⟨o,vs,a,t,d,f⟩:=q;exact ⟨o,vs,by rw [e1];exact k _ a (.head _),t,d,f.ext X⟩
 | rawX T fs=>obtain ⟨vs,a,f⟩:=q;exact ⟨vs,by rw [e1];exact k _ a (.head _),f.ext X⟩
 | dead=>trivial
theorem foot_ext {h h' : H} {ρ' δ' : Nm → Addr} {n:Nm} (X:Ext ρ δ h ρ' δ' h') (hn:h n ≠ none) (o:O):foot ρ' δ' n o = foot ρ δ n o:=by
 obtain ⟨-,e1,e2⟩:=X n hn
 cases o <;> simp only [foot,e1,e2]
theorem OAt.mem {prog:Program} {w:World} {h:H} {n:Nm} {o:O} (q:OAt prog w ρ δ h news n o):∀ x ∈ foot ρ δ n o,∃ ob,(x,ob) ∈ news ∧ ∀ v,ob.data ≠ .cell v:=by
 cases o with
 | inst C fs=>
  obtain ⟨es,i,a,b,f⟩:=q
  intro x hx
  rcases List.mem_cons.mp hx with rfl | hx
  ·exact ⟨_,a,fun v e=>by cases e⟩
  ·rw [List.mem_singleton.mp hx];exact ⟨_,b,fun v e=>by cases e⟩
 | list xs=>obtain ⟨vs,i,a,f⟩:=q;intro x hx;rw [List.mem_singleton.mp hx];exact ⟨_,a,fun v e=>by cases e⟩
 | tup xs=>obtain ⟨vs,i,a,f⟩:=q;intro x hx;rw [List.mem_singleton.mp hx];exact ⟨_,a,fun v e=>by cases e⟩
 | dict xs=>
  obtain ⟨_,o,i,a,⟨es,ep,_,hd,_⟩,f⟩:=q;intro x hx;rw [List.mem_singleton.mp hx];exact ⟨_,a,fun v e=>by rw [hd] at e;cases e⟩
 | known xs=>
  obtain ⟨o,a,es,ep,k,_,hd,f⟩:=q;intro x hx;rw [List.mem_singleton.mp hx];exact ⟨_,a,fun v q=>by rw [hd] at q;cases q⟩
 | raw T fs=>obtain ⟨o,vs,a,t,d,f⟩:=q;intro x hx;rw [List.mem_singleton.mp hx];exact ⟨_,a,fun v e=>by rw [d] at e;cases e⟩
 | rawX T fs=>obtain ⟨vs,a,f⟩:=q;intro x hx;rw [List.mem_singleton.mp hx];exact ⟨_,a,fun v e=>by cases e⟩
 | dead=>intro x hx;cases hx
theorem VarAt.ext {h h' : H} {ρ' δ' : Nm → Addr} {m' : Str → Option Value} {news' : List (Addr × Obj)} {x:Str} {v:V} (X:Ext ρ δ h ρ' δ' h') (hm:c.env.kindOf x = some .local → m' x = m x)
  (hc:∀ a o w,c.env.cells.lookup x = some a → (a,o) ∈ news → o.data = .cell w → (a,o) ∈ news') (q:VarAt c ρ h m news x v):VarAt c ρ' h' m' news' x v:=by
 unfold VarAt at q ⊢
 cases k:c.env.kindOf x with
 | none=>trivial
 | some kd=>
  rw [k] at q
  cases kd <;> first
   | exact trivial
   | (obtain ⟨val,e,V⟩:=q;exact ⟨val,(hm k).trans e,V.ext X⟩)
   | (obtain ⟨a,o,val,e,hm',hd,V⟩:=q;exact ⟨a,o,val,e,hc _ _ _ e hm' hd,hd,V.ext X⟩)
theorem Rel.upd {n:Nm} {o o' : O} {d:Addr} {ob:Obj} {news' : List (Addr × Obj)} (R:Rel c σ ρ δ news m s) (hn:σ.hp n = some o) (hd:d ∈ foot ρ δ n o) (hm:(d,ob) ∈ news)
  (k:∀ p ∈ news,p.1 ≠ d → p ∈ news') (e:news'.map (·.1) = news.map (·.1)) (F:Fr c.B c.L s'.heap m) (N:News c.B c.L s'.heap news')
  (hf:foot ρ δ n o' = foot ρ δ n o) (own:OAt c.prog c.w ρ δ (σ.hp.set n o') news' n o') (ex:autoParam (s'.gens = s.gens ∧ s'.os = s.os) aP):Rel c (σ.put n o') ρ δ news' m s':=by
 have X:Ext ρ δ σ.hp ρ δ (σ.put n o').hp:=ext_set
 have nocell:∀ v,ob.data ≠ .cell v:=by
  obtain ⟨ob₂,h2,h3⟩:=(R.own n o hn).mem d hd
  rw [one_at R.nd hm h2];exact h3
 have hcells:∀ x a oc w,c.env.cells.lookup x = some a → (a,oc) ∈ news → oc.data = .cell w → (a,oc) ∈ news':=fun x a oc w _ h hw=>k _ h fun (e:a = d)=>by
  subst e
  rw [one_at R.nd h hm] at hw
  exact nocell _ hw
 refine ⟨F,N,by rw [e];exact R.nd,fun b ob₂ hb=>?_,fun a b oa ob₂ ab ha hb x hx=>?_,fun x v hv=>(R.vars x v hv).ext X (fun _=>rfl) fun a oc w=>hcells x a oc w,fun x a hx=>?_,ex.1.trans R.ext.1,ex.2.trans R.ext.2⟩
 ·by_cases q:b = n
  ·subst q
   have:ob₂ = o':=by
    have z:(σ.hp.set b o') b = some ob₂:=hb
    rw [H.set_self] at z;exact (Option.some.inj z).symm
   subst this
   exact own
  ·have z:(σ.hp.set n o') b = some ob₂:=hb
   rw [H.set_ne _ _ q] at z
   refine (R.own b ob₂ z).ext X (by rw [z];simp) fun p hp hpf=>k p hp fun e=>?_
   rw [e] at hpf
   exact R.dj n b o ob₂ (Ne.symm q) hn z d hd hpf
 ·have fo:∀ a oa,(σ.put n o').hp a = some oa → ∃ oa',σ.hp a = some oa' ∧ foot ρ δ a oa = foot ρ δ a oa':=by
   intro a oa ha
   by_cases q:a = n
   ·subst q
    have z:(σ.hp.set a o') a = some oa:=ha
    rw [H.set_self] at z
    cases z
    exact ⟨o,hn,hf⟩
   ·have z:(σ.hp.set n o') a = some oa:=ha
    rw [H.set_ne _ _ q] at z
    exact ⟨oa,z,rfl⟩
  obtain ⟨oa',ha',ea⟩:=fo a oa ha
  obtain ⟨ob',hb',eb⟩:=fo b ob₂ hb
  rw [ea] at hx
  rw [eb]
  exact R.dj a b oa' ob' ab ha' hb' x hx
 ·obtain ⟨oc,w,h1,h2⟩:=R.cel x a hx
  exact ⟨oc,w,hcells x a oc _ hx h1 h2,h2⟩
theorem Rel.kill {n:Nm} {o:O} (R:Rel c σ ρ δ news m s) (hn:σ.hp n = some o) (hf:foot ρ δ n o = [ρ n]) {h' : Heap} {tk:Nat} (hx:Heap.ExtBut (ρ n) s.heap h') :
  Rel c (σ.put n .dead) ρ δ (news.filter fun p=>decide (p.1 ≠ ρ n)) m { s with heap:=h',toks:=tk }:=by
 have X:Ext ρ δ σ.hp ρ δ (σ.put n .dead).hp:=ext_set
 obtain ⟨ob,hob,nocell⟩:=(R.own n o hn).mem (ρ n) (by rw [hf];exact .head _)
 have hm:∀ p,p ∈ (news.filter fun p=>decide (p.1 ≠ ρ n)) ↔ p ∈ news ∧ p.1 ≠ ρ n:=fun p=>by simp [List.mem_filter]
 have old:∀ b ob,(σ.put n .dead).hp b = some ob → b ≠ n → σ.hp b = some ob:=fun b ob hb q=>by
  have z:(σ.hp.set n .dead) b = some ob:=hb
  rw [H.set_ne _ _ q] at z
  exact z
 have self:∀ ob,(σ.put n .dead).hp n = some ob → ob = .dead:=fun ob hb=>by
  have z:(σ.hp.set n .dead) n = some ob:=hb
  rw [H.set_self] at z;exact (Option.some.inj z).symm
 have hB:∀ b o,c.B.get? b = some o → b ≠ ρ n:=fun b o e q=>by
  have:=(R.nw _ hob).2.2
  rw [← q,e] at this;cases this
 have hcells:∀ x a oc w,c.env.cells.lookup x = some a → (a,oc) ∈ news → oc.data = .cell w → (a,oc) ∈ news.filter fun p=>decide (p.1 ≠ ρ n):=fun x a oc w _ h hw=>(hm _).mpr ⟨h,fun (e:a = ρ n)=>by
  rw [e] at h
  rw [one_at R.nd h hob] at hw
  exact nocell _ hw⟩
 refine ⟨⟨?_,fun b o e=>hx b o (hB b o e) (R.fr.keep b o e),R.fr.above⟩,fun p hp=>?_,(List.filter_sublist.map _).nodup R.nd,fun b ob₂ hb=>?_,fun a b oa ob₂ ab ha hb x hx'=>?_,fun x v hv=>(R.vars x v hv).ext X (fun _=>rfl) fun a oc w=>hcells x a oc w,fun x a hx'=>?_,R.ext⟩
 ·obtain ⟨oL,es,ep,hL,hLr⟩:=R.fr.ns
  exact ⟨oL,es,ep,hx _ _ (fun e=>(R.nw _ hob).2.1 e.symm) hL,hLr⟩
 ·obtain ⟨h1,h2⟩:=(hm p).mp hp
  have N:=R.nw p h1
  exact ⟨hx _ _ h2 N.1,N.2⟩
 ·by_cases q:b = n
  ·subst q;rw [self ob₂ hb];trivial
  ·have z:=old b ob₂ hb q
   refine (R.own b ob₂ z).ext X (by rw [z];simp) fun p hp hpf=>(hm p).mpr ⟨hp,fun e=>?_⟩
   rw [e] at hpf
   exact R.dj n b o ob₂ (Ne.symm q) hn z (ρ n) (by rw [hf];exact .head _) hpf
 ·by_cases q:a = n
  ·subst q;rw [self oa ha] at hx';cases hx'
  ·by_cases q' : b = n
   ·subst q';rw [self ob₂ hb];exact fun h=>nomatch h
   ·exact R.dj a b oa ob₂ ab (old a oa ha q) (old b ob₂ hb q') x hx'
 ·obtain ⟨oc,w,h1,h2⟩:=R.cel x a hx'
  exact ⟨oc,w,hcells x a oc _ hx' h1 h2,h2⟩
theorem Rel.turn {n:Nm} {o o' : O} {ob ob' : Obj} (R:Rel c σ ρ δ news m s) (hn:σ.hp n = some o) (hf:foot ρ δ n o = [ρ n]) (hf' : foot ρ δ n o' = [ρ n]) (hob:(ρ n,ob) ∈ news) {h' : Heap} {tk:Nat} (hs:Heap.SameBut (ρ n) s.heap h') (ho:h'.get? (ρ n) = some ob')
  (own:∀ news',(ρ n,ob') ∈ news' → OAt c.prog c.w ρ δ (σ.hp.set n o') news' n o'):∃ news',Rel c (σ.put n o') ρ δ news' m { s with heap:=h',toks:=tk }:=by
 obtain ⟨news',U,mem,kp,em⟩:=upd_of R.nd ob' hob
 have N:=R.nw _ hob
 obtain ⟨pre,post,e1,e2,a,b⟩:=U.split
 refine ⟨news',R.upd hn (by rw [hf];exact .head _) hob kp em (R.fr.change hs N.2.1 N.2.2) ?_ (by rw [hf,hf']) (own news' mem)⟩
 rw [e2]
 exact news_set (o:=ob) (by rw [← e1];exact R.nw) a b hs ho
noncomputable def setA (f:Nm → Addr) (n:Nm) (a:Addr):Nm → Addr:=fun x=>if x = n then a else f x
theorem setA_self (f:Nm → Addr) (n:Nm) (a:Addr):setA f n a n = a:=if_pos rfl
theorem setA_ne (f:Nm → Addr) {n x:Nm} (a:Addr) (e:x ≠ n):setA f n a x = f x:=if_neg e
theorem ext_new {n:Nm} {o:O} {a d:Addr} {h:H} (hn:h n = none):Ext ρ δ h (setA ρ n a) (setA δ n d) (h.set n o):=fun b q=>by
 have ne:b ≠ n:=by rintro rfl;exact q hn
 exact ⟨set_dom q,setA_ne _ _ ne,setA_ne _ _ ne⟩
theorem Rel.new {n:Nm} {o:O} {a d:Addr} {more:List (Addr × Obj)} (R:Rel c σ ρ δ news m s) (hn:σ.hp n = none) (F:Fr c.B c.L s'.heap m) (N:News c.B c.L s'.heap (more ++ news))
  (nd:(more.map (·.1)).Nodup) (lo:∀ p ∈ more,∀ q ∈ news,q.1 < p.1) (hf:∀ x ∈ foot (setA ρ n a) (setA δ n d) n o,∃ ob,(x,ob) ∈ more)
  (own:OAt c.prog c.w (setA ρ n a) (setA δ n d) (σ.hp.set n o) (more ++ news) n o) (ex:autoParam (s'.gens = s.gens ∧ s'.os = s.os) aP):Rel c (σ.put n o) (setA ρ n a) (setA δ n d) (more ++ news) m s':=by
 have X:Ext ρ δ σ.hp (setA ρ n a) (setA δ n d) (σ.put n o).hp:=ext_new hn
 have old:∀ b ob,(σ.put n o).hp b = some ob → b ≠ n → σ.hp b = some ob:=fun b ob hb q=>by
  have z:(σ.hp.set n o) b = some ob:=hb
  rw [H.set_ne _ _ q] at z
  exact z
 have news_of:∀ b ob,σ.hp b = some ob → ∀ x ∈ foot ρ δ b ob,∃ q ∈ news,q.1 = x:=fun b ob hb x hx=>by
  obtain ⟨o₂,h,_⟩:=(R.own b ob hb).mem x hx
  exact ⟨_,h,rfl⟩
 have apart:∀ b ob,σ.hp b = some ob → ∀ x ∈ foot (setA ρ n a) (setA δ n d) n o,x ∉ foot ρ δ b ob:=fun b ob hb x hx hx'=>by
  obtain ⟨o₁,h₁⟩:=hf x hx
  obtain ⟨q,hq,e⟩:=news_of b ob hb x hx'
  have:=lo _ h₁ q hq
  rw [e] at this
  exact Nat.lt_irrefl _ this
 refine ⟨F,N,?_,fun b ob hb=>?_,fun x y ox oy xy hx hy z hz=>?_,fun x v hv=>(R.vars x v hv).ext X (fun _=>rfl) fun a oc w _ h _=>List.mem_append_right _ h,fun x a hx=>?_,ex.1.trans R.ext.1,ex.2.trans R.ext.2⟩
 ·rw [List.map_append,List.nodup_append]
  refine ⟨nd,R.nd,fun x hx y hy e=>?_⟩
  obtain ⟨p,hp,rfl⟩:=List.mem_map.mp hx
  obtain ⟨q,hq,rfl⟩:=List.mem_map.mp hy
  have:=lo p hp q hq
  rw [e] at this
  exact Nat.lt_irrefl _ this
 ·by_cases q:b = n
  ·subst q
   have z:(σ.hp.set b o) b = some ob:=hb
   rw [H.set_self] at z
   cases z
   exact own
  ·have z:=old b ob hb q
   exact (R.own b ob z).ext X (by rw [z];simp) fun p hp _=>List.mem_append_right _ hp
 ·by_cases q:x = n
  ·subst q
   have e:(σ.hp.set x o) x = some ox:=hx
   rw [H.set_self] at e
   cases e
   have z':=old y oy hy (Ne.symm xy)
   rw [foot_ext X (by rw [z'];simp)]
   exact apart y oy z' z hz
  ·have zx:=old x ox hx q
   rw [foot_ext X (by rw [zx];simp)] at hz
   by_cases q' : y = n
   ·subst q'
    have e:(σ.hp.set y o) y = some oy:=hy
    rw [H.set_self] at e
    cases e
    exact fun hz'=>apart x ox zx z hz' hz
   ·have zy:=old y oy hy q'
    rw [foot_ext X (by rw [zy];simp)]
    exact R.dj x y ox oy xy zx zy z hz
 ·obtain ⟨oc,w,h1,h2⟩:=R.cel x a hx
  exact ⟨oc,w,List.mem_append_right _ h1,h2⟩
end
section
variable {c:Cx} {σ:St}
theorem mN_local {x:Str} {v:V} {Q:V → St → Prop} (ok:c.Ok) (e:σ.vars x = some v) (h:Q v σ) (hk:autoParam (c.env.kindOf x = some .local) aR):MW c RVal (loadName c.env x) Q σ:=fun ρ δ news m s R=>by
 have:=R.vars x v e
 unfold VarAt at this
 rw [hk] at this
 obtain ⟨val,hm,V⟩:=this
 exact wpAny_loadName_local ok.fk hk (by rw [ok.loc];exact R.fr.ns) hm (Post.now (RV:=RVal) R V h)
theorem mN_cell {x:Str} {v:V} {Q:V → St → Prop} (ok:c.Ok) (e:σ.vars x = some v) (h:Q v σ) (hk:autoParam (c.env.kindOf x = some .cell) aR):MW c RVal (loadName c.env x) Q σ:=fun ρ δ news m s R=>by
 have:=R.vars x v e
 unfold VarAt at this
 rw [hk] at this
 obtain ⟨a,o,val,hc,hm,hd,V⟩:=this
 exact wpAny_loadName_cell ok.fk hk hc ⟨o,(R.nw _ hm).1,hd⟩ (Post.now (RV:=RVal) R V h)
theorem mE_name {x:Str} {pos:Pos} {Q:V → St → Prop} (h:MW c RVal (loadName c.env x) Q σ) (hd:autoParam ((x == ("__debug__" : Str)) = false) aD):mE c (.Name x pos) Q σ:=fun ρ δ news m s R=>wpAny_Name (h ρ δ news m s R) hd
theorem mE_local {x:Str} {pos:Pos} {v:V} {Q:V → St → Prop} (ok:c.Ok) (e:σ.vars x = some v) (h:Q v σ) (hk:autoParam (c.env.kindOf x = some .local) aR) (hd:autoParam ((x == ("__debug__" : Str)) = false) aD):mE c (.Name x pos) Q σ:=
 mE_name (mN_local ok e h hk) hd
theorem mE_cell {x:Str} {pos:Pos} {v:V} {Q:V → St → Prop} (ok:c.Ok) (e:σ.vars x = some v) (h:Q v σ) (hk:autoParam (c.env.kindOf x = some .cell) aR) (hd:autoParam ((x == ("__debug__" : Str)) = false) aD):mE c (.Name x pos) Q σ:=
 mE_name (mN_cell ok e h hk) hd
noncomputable def topV:Value → V
 | .int i _=>.int i
 | .str s _=>.str s
 | .bool b=>.bool b
 | .none=>.none
 | v=>.glob v
theorem Val.top (ρ:Nm → Addr) (h:H) (v:Value):Val ρ h (topV v) v:=by cases v <;> first | rfl | exact ⟨_,rfl⟩
theorem mE_global {x:Str} {pos:Pos} {v:Value} {Q:V → St → Prop} (ok:c.Ok) (e:nsIn c.K mainGlobals x = some (some v)) (h:Q (topV v) σ) (hk:autoParam (c.env.kindOf x = some .globalImplicit) aR) (hd:autoParam ((x == ("__debug__" : Str)) = false) aD):mE c (.Name x pos) Q σ:=fun ρ δ news m s R=>
 Name_function_global ok.fk hk (loadGlobal_global (env:=c.env) (by rw [ok.glo];exact ok.T.g.keeps R.fr.keep) (mg_of ok.X ok.T.g e) (Post.now (RV:=RVal) R (Val.top ρ σ.hp v) h)) hd
theorem mE_builtin {x:Str} {pos:Pos} {v:Value} {Q:V → St → Prop} (ok:c.Ok) (e:nsIn c.K mainGlobals x = some none) (hv:bootBuiltins x = some v) (h:Q (topV v) σ) (hn:autoParam (x ≠ "__name__") aD) (hk:autoParam (c.env.kindOf x = some .globalImplicit) aR) (hd:autoParam ((x == ("__debug__" : Str)) = false) aD):mE c (.Name x pos) Q σ:=fun ρ δ news m s R=>
 Name_function_global ok.fk hk (loadGlobal_builtin (env:=c.env) (by rw [ok.glo];exact ok.T.g.keeps R.fr.keep) (mg_none_of ok.X ok.T.g e) (by rw [ok.blt];exact ok.T.b.keeps R.fr.keep) ((ok.T.builtins x hn).trans hv) (Post.now (RV:=RVal) R (Val.top ρ σ.hp v) h)) hd
theorem m_store {x:Str} {v:V} {Q:Unit → St → Prop} (ok:c.Ok) (h:Q () (σ.var x v)) (hk:autoParam (c.env.kindOf x = some .local) aR):MW1 c RUnit v (storeName c.env x) Q σ:=fun ρ δ news m s val R V=>by
 have hp:(c.env.scope.kind == .class || (c.env.scope.kind == .module && c.env.locals != c.env.globals)) = false:=by rw [ok.fk];rfl
 refine wpAny_storeName_local hk (by rw [ok.loc];exact R.fr.ns) (fun h' hn hs=>?_) hp
 rw [ok.loc] at hn hs
 refine ⟨(),σ.var x v,ρ,δ,news,_,Ext.refl _ _ _,⟨R.fr.set hn hs,R.nw.set hs,R.nd,R.own,R.dj,fun y u hy=>?_,R.cel,R.ext⟩,trivial,h⟩
 by_cases q:y = x
 ·subst q
  have:(if y = y then some v else σ.vars y) = some u:=hy
  rw [if_pos rfl] at this
  cases this
  unfold VarAt
  rw [hk]
  exact ⟨val,if_pos rfl,V⟩
 ·have:(if y = x then some v else σ.vars y) = some u:=hy
  rw [if_neg q] at this
  exact (R.vars y u this).ext (Ext.refl ρ δ _) (fun _=>if_neg q) fun _ _ _ _ z _=>z
noncomputable def V.okV:V → Bool
 | .glob g=>handedIn g
 | _=>true
theorem Val.handed {ρ:Nm → Addr} {h:H} {v:V} {x:Value} (V:Val ρ h v x) (o:v.okV = true):handedIn x = true:=by
 cases v with
 | none=>rw [show x = .none from V];rfl
 | bool b=>rw [show x = .bool b from V];rfl
 | int i=>obtain ⟨t,rfl⟩:=V;rfl
 | str s=>obtain ⟨t,rfl⟩:=V;rfl
 | ref n=>rw [V.1];rfl
 | glob g=>rw [show x = g from V];exact o
noncomputable def fieldOk (K:Frag) (C:Addr) (a:Str):Bool:=plainGet K C a && hasDictIn K C && (match findIn K (.ref C) a with | some r=>noGet K r | none=>false)
noncomputable def setOk (K:Frag) (C:Addr) (a:Str):Bool:=findIn K (.ref C) "__setattr__" == some (some (.builtin "object.__setattr__")) && plainOver K C && takerIn K C a == some none && hasDictIn K C
theorem inst_at {n:Nm} {C:Addr} {fs:List (Str × V)} {ρ δ:Nm → Addr} {news:List (Addr × Obj)} {m:Str → Option Value} {s:Shared} (R:Rel c σ ρ δ news m s) (e:σ.hp n = some (.inst C fs)) :
  ∃ es k,InstAt s.heap (ρ n) (instObj C (δ n)) C (some (dictOf es k)) ∧ Flds c.w.params ρ σ.hp fs es ∧ (ρ n,instObj C (δ n)) ∈ news ∧ (δ n,dictOf es k) ∈ news:=by
 obtain ⟨es,k,a,b,f⟩:=R.own n _ e
 exact ⟨es,k,InstAt.of_news R.nw a b,f,a,b⟩
theorem m_get {n:Nm} {C:Addr} {fs:List (Str × V)} {a:Str} {v:V} {ex:Bool} {Q:V → St → Prop} (ok:c.Ok) (e:σ.hp n = some (.inst C fs)) (f:fieldOk c.K C a = true) (g:getF a fs = some v) (h:Q v σ) (o:autoParam (v.okV = true) aR) :
  MW1 c RVal (.ref n) (fun x=>getAttr x a ex) Q σ:=fun ρ δ news m s x R V=>by
 rw [V.1]
 obtain ⟨es,k,I,F,_,_⟩:=inst_at R e
 have z:=F.getL a
 rw [g] at z
 obtain ⟨val,hl,hv⟩:=z
 unfold fieldOk at f
 obtain ⟨f1,f3⟩:=Bool.and_eq_true_iff.mp f
 obtain ⟨f1,f2⟩:=Bool.and_eq_true_iff.mp f1
 cases q:findIn c.K (.ref C) a with
 | none=>rw [q] at f3;cases f3
 | some r=>
  rw [q] at f3
  exact get_own R.fr ok.X I f1 f2 q f3 hl (hv.handed o) (Post.now (RV:=RVal) (s:={ s with toks:=s.toks + 1 }) (R.same rfl) hv h)
theorem m_set {n:Nm} {C:Addr} {fs:List (Str × V)} {a:Str} {v:V} {Q:Unit → St → Prop} (ok:c.Ok) (e:σ.hp n = some (.inst C fs)) (f:setOk c.K C a = true) (h:Q () (σ.put n (.inst C (putF a v fs)))) (hz:autoParam (fs.length ≤ 500) aD) :
  MW2 c RUnit (.ref n) v (fun x y=>setAttr x a y) Q σ:=fun ρ δ news m s x y R V U=>by
 rw [V.1]
 obtain ⟨es,k,I,F,hx,hd⟩:=inst_at R e
 have z:=F.getL a
 have z' : (PySem.W.getL a es).isSome = true:=by
  cases q:getF a fs with
  | none=>rw [q] at z;simp only at z;rw [z];rfl
  | some w=>rw [q] at z;obtain ⟨val,hl,_⟩:=z;rw [hl];rfl
 unfold setOk at f
 obtain ⟨f,f4⟩:=Bool.and_eq_true_iff.mp f
 obtain ⟨f,f3⟩:=Bool.and_eq_true_iff.mp f
 obtain ⟨f1,f2⟩:=Bool.and_eq_true_iff.mp f
 obtain ⟨news',U',mem,kp,em⟩:=upd_of R.nd (dictOf (putL a (PyData.keyHash c.w.params a) (.str a (s.toks + 1)) y es) (putN a es k)) hd
 have F':=F.putL a (v:=v) (val:=y) U (s.toks + 1)
 refine set_dict R.fr ok.X R.nw I rfl (beq_iff_eq.mp f1) f2 (beq_iff_eq.mp f3) f4 z' rfl U' (by rw [F'.length];have:=putF_length a v fs;exact cb2 hz this) fun h' Fr' N'=>?_
 refine ⟨(),_,ρ,δ,news',m,ext_set,R.upd (o':=.inst C (putF a v fs)) (s':={ s with heap:=h',toks:=s.toks + 2 }) e (.tail _ (.head _)) hd kp em Fr' N' rfl ⟨_,_,kp _ hx ?_,mem,F'.ext (ext_set (δ:=δ))⟩,trivial,h⟩
 intro q
 have q' : ρ n = δ n:=q
 have hx' : (δ n,instObj C (δ n)) ∈ news:=by rw [q'] at hx;exact hx
 cases one_at R.nd hx' hd
noncomputable def methOk (K:Frag) (C:Addr) (a:Str) (f:Addr):Bool:=plainGet K C a && findIn K (.ref C) a == some (some (.ref f)) && isFn K (.ref f) && keepIn K (.ref f)
noncomputable def CB (P:Value → Shared → Prop) (r:Result) (s' : Shared):Prop:=match r with
 | .ok (.ret v)=>P v s'
 | _=>False
noncomputable def mCall (c:Cx) (f:Addr) (vs:List V) (Q:V → St → Prop) (σ:St):Prop:=
 ∀ ρ δ news m s xs,Rel c σ ρ δ news m s → Vals ρ σ.hp vs xs → codeAny (model c.prog c.w) c.A (.call (.ref f) ⟨xs,[]⟩) (CB (Post c RVal Q σ ρ δ)) s
theorem mCall.use {f:Addr} {vs:List V} {Q:V → St → Prop} (h:mCall c f vs Q σ):MWs c RVal vs (fun xs=>call (.ref f) xs) Q σ:=fun ρ δ news m s xs R W=>
 wpAny_call (codeAny_mono (h ρ δ news m s xs R W) fun r s' z=>by
  rcases r with e | (_ | _ | _ | v) <;> first | exact z | exact z.elim)
theorem mCall.mono {f:Addr} {vs:List V} {Q Q' : V → St → Prop} (h:mCall c f vs Q σ) (k:∀ v σ',Q v σ' → Q' v σ'):mCall c f vs Q' σ:=fun ρ δ news m s xs R W=>
 codeAny_mono (h ρ δ news m s xs R W) fun r s' z=>by
  rcases r with e | (_ | _ | _ | v) <;> first | exact z.elim | exact z.mono k
noncomputable abbrev kC (c:Cx) (f:Addr) (Q:V → St → Prop) (vs:List V) (σ:St):Prop:=mCall c f vs Q σ
noncomputable abbrev kCm (c:Cx) (f:Addr) (n:Nm) (Q:V → St → Prop) (vs:List V) (σ:St):Prop:=mCall c f (.ref n :: vs) Q σ
theorem mE_meth {o:Expr} {e₁:Expr} {rest:List Expr} {a:Str} {apos pos:Pos} {pl:Sem Bool} {Q:V → St → Prop} (ok:c.Ok)
  (h:mE c o (fun v σ₁=>∃ n C fs f,v = .ref n ∧ σ₁.hp n = some (.inst C fs) ∧ methOk c.K C a f = true ∧ getF a fs = none ∧ mL c pos (e₁ :: rest) (kCm c f n Q) σ₁) σ)
  (he:autoParam (eval (.Call (.Attribute o a apos) (e₁ :: rest) [] pos) c.env = (do
   let ov ← eval o c.env
   standAt apos.atName
   let (f,first) ← holding [ov] (getMethod ov a pl)
   callWith pos f first (backTo pos (starEach (e₁ :: rest) c.env)) [])) aR)
  (h1:autoParam (starEach (e₁ :: rest) c.env = (false,eval e₁ c.env) :: starEach rest c.env) aR) (h2:autoParam ((backTo pos (starEach rest c.env)).any (·.1) = false) aR) :
  mE c (.Call (.Attribute o a apos) (e₁ :: rest) [] pos) Q σ:=fun ρ δ news m s R=>by
 refine MethodCall_ (pl:=pl) (nest h R fun ov s₁ b σ₁ ρ₁ δ₁ news₁ m₁ X R₁ V q=>?_) he
 obtain ⟨n,C,fs,f,rfl,e,mo,g,hl⟩:=q
 rw [V.1]
 obtain ⟨es,k,I,F,_,_⟩:=inst_at R₁ e
 have z:=F.getL a
 rw [g] at z
 unfold methOk at mo
 obtain ⟨mo,m4⟩:=Bool.and_eq_true_iff.mp mo
 obtain ⟨mo,m3⟩:=Bool.and_eq_true_iff.mp mo
 obtain ⟨m1,m2⟩:=Bool.and_eq_true_iff.mp mo
 refine method_inst R₁.fr ok.X I m1 (beq_iff_eq.mp m2) m3 z ?_
 dsimp only
 refine callWith_K (K:=c.K) (h₀:=c.B) ok.X m4 ?_ h1 h2
 refine nest hl R₁ fun vs' s₂ vs σ₂ ρ₂ δ₂ news₂ m₂ X₂ R₂ V₂ q₂=>⟨R₂.K ok,?_⟩
 have hn:=X₂ n V.2
 have:=q₂.use ρ₂ δ₂ news₂ m₂ s₂ (.ref (ρ₂ n) :: vs') R₂ (.cons ⟨rfl,hn.1⟩ V₂)
 rw [hn.2.1] at this
 exact doneP this (X.trans X₂)
theorem mE_meth0 {o:Expr} {a:Str} {apos pos:Pos} {pl:Sem Bool} {Q:V → St → Prop} (ok:c.Ok)
  (h:mE c o (fun v σ₁=>∃ n C fs f,v = .ref n ∧ σ₁.hp n = some (.inst C fs) ∧ methOk c.K C a f = true ∧ getF a fs = none ∧ mCall c f [.ref n] Q σ₁) σ)
  (he:autoParam (eval (.Call (.Attribute o a apos) [] [] pos) c.env = (do
   let ov ← eval o c.env
   standAt apos.atName
   let (f,first) ← holding [ov] (getMethod ov a pl)
   callWith pos f first (backTo pos (starEach [] c.env)) [])) aR) :
  mE c (.Call (.Attribute o a apos) [] [] pos) Q σ:=fun ρ δ news m s R=>by
 refine MethodCall_ (pl:=pl) (nest h R fun ov s₁ b σ₁ ρ₁ δ₁ news₁ m₁ X R₁ V q=>?_) he
 obtain ⟨n,C,fs,f,rfl,e,mo,g,hl⟩:=q
 rw [V.1]
 obtain ⟨es,k,I,F,_,_⟩:=inst_at R₁ e
 have z:=F.getL a
 rw [g] at z
 unfold methOk at mo
 obtain ⟨mo,m4⟩:=Bool.and_eq_true_iff.mp mo
 obtain ⟨mo,m3⟩:=Bool.and_eq_true_iff.mp mo
 obtain ⟨m1,m2⟩:=Bool.and_eq_true_iff.mp mo
 refine method_inst R₁.fr ok.X I m1 (beq_iff_eq.mp m2) m3 z ?_
 dsimp only
 exact callWith_K0 (K:=c.K) (R₁.K ok) m4 (doneP (hl.use ρ₁ δ₁ news₁ m₁ s₁ [.ref (ρ₁ n)] R₁ (.cons ⟨rfl,V.2⟩ .nil)) X)
theorem mE_call {func:Expr} {e₁:Expr} {rest:List Expr} {pos:Pos} {Q:V → St → Prop} (ok:c.Ok)
  (h:mE c func (fun v σ₁=>∃ f,v = .glob (.ref f) ∧ keepIn c.K (.ref f) = true ∧ mL c pos (e₁ :: rest) (kC c f Q) σ₁) σ)
  (he:autoParam (eval (.Call func (e₁ :: rest) [] pos) c.env = (do callWith pos (← eval func c.env) [] (backTo pos (starEach (e₁ :: rest) c.env)) (backToKw pos (keywordEach [] c.env)))) aR)
  (h1:autoParam (starEach (e₁ :: rest) c.env = (false,eval e₁ c.env) :: starEach rest c.env) aR) (h2:autoParam ((backTo pos (starEach rest c.env)).any (·.1) = false) aR):mE c (.Call func (e₁ :: rest) [] pos) Q σ:=fun ρ δ news m s R=>by
 refine Call_ (nest h R fun ov s₁ b σ₁ ρ₁ δ₁ news₁ m₁ X R₁ V q=>?_) he
 obtain ⟨f,rfl,kf,hl⟩:=q
 rw [show ov = .ref f from V]
 refine callWith_K (K:=c.K) (h₀:=c.B) ok.X kf ?_ h1 h2
 exact nest hl R₁ fun vs' s₂ vs σ₂ ρ₂ δ₂ news₂ m₂ X₂ R₂ V₂ q₂=>⟨R₂.K ok,doneP (q₂.use ρ₂ δ₂ news₂ m₂ s₂ vs' R₂ V₂) (X.trans X₂)⟩
theorem mE_call0 {func:Expr} {pos:Pos} {Q:V → St → Prop} (ok:c.Ok)
  (h:mE c func (fun v σ₁=>∃ f,v = .glob (.ref f) ∧ keepIn c.K (.ref f) = true ∧ mCall c f [] Q σ₁) σ)
  (he:autoParam (eval (.Call func [] [] pos) c.env = (do callWith pos (← eval func c.env) [] (backTo pos (starEach [] c.env)) (backToKw pos (keywordEach [] c.env)))) aR):mE c (.Call func [] [] pos) Q σ:=fun ρ δ news m s R=>by
 refine Call_ (nest h R fun ov s₁ b σ₁ ρ₁ δ₁ news₁ m₁ X R₁ V q=>?_) he
 obtain ⟨f,rfl,kf,hl⟩:=q
 rw [show ov = .ref f from V]
 exact callWith_K0 (K:=c.K) (R₁.K ok) kf (doneP (hl.use ρ₁ δ₁ news₁ m₁ s₁ [] R₁ .nil) X)
noncomputable def Cx.sub (c:Cx) (B:Heap) (L:Addr) (qual:Str) (scope:Scope) (f:Addr) (cd:Value):Cx:=
 { c with A:=c.A.deeper (envOf qual scope L f cd),B:=B,L:=L,env:=envOf qual scope L f cd }
inductive FnAt (K:Frag) (f:Addr) (fd:FuncData) (body:List Stmt) (qual:Str) (scope:Scope) (cd:Value):Prop
 | mk (name:Str) (params:Arguments) (dV kV doc:Value) (pm:Value) (an:Option Addr) (ct:Value) (oc:Value) (od:Option Addr) (osl:Array (Option Value)) (e:fd = fnOf name qual params body scope dV kV doc pm an cd ct) (l:K.lookup f = some ⟨oc,od,.func fd,osl⟩)
structure defOk (K:Frag) (f:Addr) (fd:FuncData) (body:List Stmt) (qual:Str) (scope:Scope) (cd:Value) (ps:List Str):Prop where
 fn:FnAt K f fd body qual scope cd
 code:codeIn K cd qual = true
 co:scope.isCoroutine = false
 gen:scope.isGenerator = false
 kind:scope.kind = .function
 cell:(scope.names.all fun x=>x.2 != .cell) = true
 loc:(ps.all fun x=>scope.names.lookup x == some .local) = true
 nd:decide ps.Nodup = true
noncomputable def dkB (K:Frag) (cd:Value) (qual:Str) (scope:Scope) (ps:List Str):Bool:=codeIn K cd qual && (!scope.isCoroutine && (!scope.isGenerator && ((match scope.kind with | .function=>true | _=>false) && ((scope.names.all fun x=>x.2 != .cell) && ((ps.all fun x=>scope.names.lookup x == some .local) && decide ps.Nodup)))))
theorem ba {a b:Bool} {G:Prop} (h:(a && b) = true) (k:a = true → b = true → G):G:=by cases a <;> cases b <;> first | exact k rfl rfl | cases h
theorem bn {a:Bool} (h:(!a) = true):a = false:=by cases a <;> first | rfl | cases h
theorem bk {k:ScopeKind} (h:(match k with | .function=>true | _=>false) = true):k = .function:=by cases k <;> first | rfl | cases h
theorem dk1 {K:Frag} {f:Addr} {name qual:Str} {params:Arguments} {body:List Stmt} {scope:Scope} {dV kV doc pm cd ct oc:Value} {an od:Option Addr} {osl:Array (Option Value)} {ps:List Str}
  (l:K.lookup f = some ⟨oc,od,.func (fnOf name qual params body scope dV kV doc pm an cd ct),osl⟩) (b:dkB K cd qual scope ps = true):defOk K f (fnOf name qual params body scope dV kV doc pm an cd ct) body qual scope cd ps:=
 ba b fun h1 b=>ba b fun h2 b=>ba b fun h3 b=>ba b fun h4 b=>ba b fun h5 b=>ba b fun h6 h7=>⟨⟨_,_,_,_,_,_,_,_,_,_,_,rfl,l⟩,h1,bn h2,bn h3,bk h4,h5,h6,h7⟩
noncomputable def Fl.val:Fl → V
 | .ret v=>v
 | _=>.none
theorem Vals.zipLookup {ρ:Nm → Addr} {h:H} {ps:List Str} {vs:List V} {xs:List Value} (q:Vals ρ h vs xs) (x:Str):∀ {v:V},(ps.zip vs).lookup x = some v → ∃ val,(ps.zip xs).lookup x = some val ∧ Val ρ h v val:=by
 induction q generalizing ps with
 | nil=>intro v e;simp at e
 | cons a _ ih=>
  intro v e
  cases ps with
  | nil=>simp at e
  | cons p ps=>
   simp only [List.zip_cons_cons,List.lookup_cons] at e ⊢
   cases q:x == p with
   | true=>rw [q] at e;cases e;exact ⟨_,rfl,a⟩
   | false=>rw [q] at e;exact ih e
theorem mem_of_lk {α:Type}:∀ {l:List (Str × α)} {x:Str} {v:α},l.lookup x = some v → (x,v) ∈ l
 | [],_,_,h=>by cases h
 | (y,u) :: r,x,v,h=>by
  rw [List.lookup_cons] at h
  cases q:x == y with
  | true=>rw [q] at h;cases h;rw [eq_of_beq q];exact .head _
  | false=>rw [q] at h;exact .tail _ (mem_of_lk h)
theorem lk_of_mem {α:Type}:∀ {l:List (Str × α)},(l.map (·.1)).Nodup → ∀ {x:Str} {v:α},(x,v) ∈ l → l.lookup x = some v
 | [],_,_,_,h=>nomatch h
 | (y,u) :: r,hn,x,v,h=>by
  rw [List.map_cons,List.nodup_cons] at hn
  rw [List.lookup_cons]
  rcases List.mem_cons.mp h with e | h
  ·cases e;simp
  ·have ne:(x == y) = false:=by
    cases q:x == y with
    | false=>rfl
    | true=>exact absurd (List.mem_map.mpr ⟨_,h,eq_of_beq q⟩) hn.1
   rw [ne]
   exact lk_of_mem hn.2 h
theorem lk_rev {α:Type} {l:List (Str × α)} (hn:(l.map (·.1)).Nodup) (x:Str):l.reverse.lookup x = l.lookup x:=by
 have hn' : (l.reverse.map (·.1)).Nodup:=by rw [List.map_reverse];exact (List.reverse_perm _).nodup_iff.mpr hn
 cases q:l.lookup x with
 | some v=>exact lk_of_mem hn' (List.mem_reverse.mpr (mem_of_lk q))
 | none=>
  cases q' : l.reverse.lookup x with
  | none=>rfl
  | some v=>have:=lk_of_mem hn (List.mem_reverse.mp (mem_of_lk q'));rw [q] at this;cases this
theorem zip_fst {α:Type}:∀ {ps:List Str} {xs:List α},xs.length = ps.length → (ps.zip xs).map (·.1) = ps
 | [],[],_=>rfl
 | p :: ps,x :: xs,h=>by
  simp only [List.zip_cons_cons,List.map_cons]
  rw [zip_fst (by simpa using h)]
 | [],_ :: _,h=>by simp at h
 | _ :: _,[],h=>by simp at h
open Classical in
noncomputable def ownedP (σ:St) (ρ δ:Nm → Addr) (p:Addr × Obj):Bool:=decide (∃ n o,σ.hp n = some o ∧ p.1 ∈ foot ρ δ n o)
theorem ownedP_iff {σ:St} {ρ δ:Nm → Addr} {p:Addr × Obj}:ownedP σ ρ δ p = true ↔ ∃ n o,σ.hp n = some o ∧ p.1 ∈ foot ρ δ n o:=by
 unfold ownedP;simp
theorem m_defB {f:Addr} {fd:FuncData} {body:List Stmt} {qual:Str} {scope:Scope} {cd:Value} {ps:List Str} {vs us:List V} {Q:V → St → Prop} (ok:c.Ok) (room:c.A.depth < recursionLimit) (dk:defOk c.K f fd body qual scope cd ps)
  (hb:∀ ρ s xs,c.K.In s.heap → Vals ρ σ.hp vs xs → ∃ ys,BindsTo s fd ⟨xs,[]⟩ (ps.zip ys) ∧ Vals ρ σ.hp us ys) (hl:us.length = ps.length)
  (h:∀ B L,(∀ b o,c.B.get? b = some o → B.get? b = some o) → (c.sub B L qual scope f cd).Ok → mB (c.sub B L qual scope f cd) body (fun fl σ'=>Q fl.val ⟨σ.vars,σ'.hp⟩) ⟨fun x=>(ps.zip us).lookup x,σ.hp⟩):mCall c f vs Q σ:=fun ρ δ news m s xs R W=>by
 obtain ⟨⟨name,params,dV,kV,doc,pm,an,ct,oc,od,osl,hfd,ho⟩,hcd,hco,hgen,hk,hcell,hloc,hnd⟩:=dk
 obtain ⟨ys,hbind,U⟩:=hb ρ s xs (R.K ok) W
 have X:=R.K ok
 have hly:ys.length = ps.length:=by rw [U.length];exact hl
 have hnd' : ps.Nodup:=of_decide_eq_true hnd
 have hloc' : ∀ x ∈ ps.zip ys,scope.names.lookup x.1 = some .local:=fun x hx=>by
  have:=List.all_eq_true.mp hloc x.1 (by rw [← zip_fst hly];exact List.mem_map.mpr ⟨x,hx,rfl⟩)
  simpa using this
 have hcell' : ∀ x ∈ scope.names,x.2 ≠ .cell:=fun x hx=>by simpa using List.all_eq_true.mp hcell x hx
 have eS:fd.scope = scope:=by rw [hfd]
 have eB:fd.body = .stmts body:=by rw [hfd]
 have eC:fd.code = cd:=by rw [hfd]
 have eQ:fd.qualname = qual:=by rw [hfd]
 refine codeAny_call_def (fd:=fd) (body:=body) (binds:=ps.zip ys) room (X _ _ ho) rfl (ok.T.nolimit.keeps R.fr.keep) (by rw [eC,eQ];exact codeRec_of X hcd) eB hbind (by rw [eS];exact hcell') (by rw [eS];exact hloc') (fun h₁ hns hk₁=>?_) (by rw [eS];exact hco) (by rw [eS];exact hgen) (by rw [eS];exact hk)
 have eE:callEnv fd s.heap.objs.size f = envOf qual scope s.heap.objs.size f cd:=by rw [hfd];rfl
 rw [eE]
 let own:=news.filter (ownedP σ ρ δ)
 let rest:=news.filter fun p=>!ownedP σ ρ δ p
 let B:=hideAll s.heap (own.map (·.1))
 have hown:∀ p,p ∈ own ↔ p ∈ news ∧ ownedP σ ρ δ p = true:=fun p=>by simp only [own,List.mem_filter]
 have hrest:∀ p,p ∈ rest ↔ p ∈ news ∧ ownedP σ ρ δ p = false:=fun p=>by simp only [rest,List.mem_filter,Bool.not_eq_true']
 have nB:∀ b o,c.B.get? b = some o → b ∉ own.map (·.1):=fun b o e q=>by
  obtain ⟨p,hp,rfl⟩:=List.mem_map.mp q
  have:=(R.nw p ((hown p).mp hp).1).2.2
  rw [e] at this;cases this
 have kB:∀ b o,c.B.get? b = some o → B.get? b = some o:=fun b o e=>hideAll_get _ (R.fr.keep b o e) (nB b o e)
 obtain ⟨oL,es,ep,hL,hLr⟩:=R.fr.ns
 have nL:c.L ∉ own.map (·.1):=fun q=>by
  obtain ⟨p,hp,e⟩:=List.mem_map.mp q
  exact (R.nw p ((hown p).mp hp).1).2.1 e
 have hLB:B.get? c.L = some oL:=hideAll_get _ hL nL
 have okS:(c.sub B s.heap.objs.size qual scope f cd).Ok:=⟨fun b o e=>kB b o (ok.X b o e),ok.T.keeps kB,hk,rfl,rfl,rfl,List.nodup_nil,ok.hh⟩
 have RS:Rel (c.sub B s.heap.objs.size qual scope f cd) ⟨fun x=>(ps.zip us).lookup x,σ.hp⟩ ρ δ own (fun x=>(ps.zip ys).reverse.lookup x) { s with heap:=h₁,toks:=s.toks + (ps.zip ys).length }:=by
  refine ⟨⟨hns,fun b o e=>hk₁ b o (of_hideAll _ e),Nat.le_of_eq (hideAll_size _ _)⟩,fun p hp=>?_,?_,fun n o hn=>?_,R.dj,fun x v hx=>?_,fun x a e=>(by cases e),R.ext⟩
  ·have N:=R.nw p ((hown p).mp hp).1
   exact ⟨hk₁ _ _ N.1,Nat.ne_of_lt (Heap.lt_size N.1),hideAll_none _ (List.mem_map_of_mem hp)⟩
  ·exact (List.filter_sublist.map _).nodup R.nd
  ·exact (R.own n o hn).ext (Ext.refl ρ δ σ.hp) (by rw [hn];simp) fun p hp hf=>(hown p).mpr ⟨hp,ownedP_iff.mpr ⟨n,o,hn,hf⟩⟩
  ·obtain ⟨val,e,V⟩:=U.zipLookup x hx
   unfold VarAt
   have kx:(c.sub B s.heap.objs.size qual scope f cd).env.kindOf x = some .local:=by
    have:=hloc' _ (mem_of_lk e)
    exact this
   rw [kx]
   exact ⟨val,(lk_rev (by rw [zip_fst hly];exact hnd') x).trans e,V⟩
 have main:=h B s.heap.objs.size kB okS ρ δ own _ _ RS
 refine wpAny_mono main (fun fl s' p=>?_) fun _ _ x=>x.elim
 obtain ⟨b,σ',ρ',δ',news',m',X',R',V,q⟩:=p
 have keep' : ∀ b o,B.get? b = some o → s'.heap.get? b = some o:=R'.fr.keep
 refine ⟨b.val,⟨σ.vars,σ'.hp⟩,ρ',δ',news' ++ rest,m,X',?_,?_,q⟩
 ·have restB:∀ p ∈ rest,B.get? p.1 = some p.2:=fun p hp=>by
   obtain ⟨h1,h2⟩:=(hrest p).mp hp
   refine hideAll_get _ (R.nw p h1).1 fun q=>?_
   obtain ⟨p',hp',e⟩:=List.mem_map.mp q
   obtain ⟨h1',h2'⟩:=(hown p').mp hp'
   rw [ownedP_iff] at h2'
   rw [e] at h2'
   have:ownedP σ ρ δ p = true:=ownedP_iff.mpr h2'
   rw [h2] at this;cases this
  refine ⟨⟨⟨oL,es,ep,keep' _ _ hLB,hLr⟩,fun b o e=>keep' b o (kB b o e),R.fr.above⟩,fun p hp=>?_,?_,fun n o hn=>?_,R'.dj,fun x v hx=>?_,fun x a e=>?_,R'.ext⟩
  ·rcases List.mem_append.mp hp with hp | hp
   ·have N:=R'.nw p hp
    refine ⟨N.1,fun e=>?_,?_⟩
    ·have:=N.2.2
     rw [e] at this
     rw [show (c.sub B s.heap.objs.size qual scope f cd).B = B from rfl,hLB] at this;cases this
    ·cases q:c.B.get? p.1 with
     | none=>rfl
     | some o=>have:=N.2.2;rw [show (c.sub B s.heap.objs.size qual scope f cd).B = B from rfl,kB _ _ q] at this;cases this
   ·exact ⟨keep' _ _ (restB p hp),(R.nw p ((hrest p).mp hp).1).2⟩
  ·rw [List.map_append,List.nodup_append]
   refine ⟨R'.nd,(List.filter_sublist.map _).nodup R.nd,fun x hx y hy e=>?_⟩
   obtain ⟨p,hp,rfl⟩:=List.mem_map.mp hx
   obtain ⟨q,hq,rfl⟩:=List.mem_map.mp hy
   have:=(R'.nw p hp).2.2
   rw [e,show (c.sub B s.heap.objs.size qual scope f cd).B = B from rfl,restB q hq] at this
   cases this
  ·exact (R'.own n o hn).ext (Ext.refl ρ' δ' σ'.hp) (by rw [hn];simp) fun p hp _=>List.mem_append_left _ hp
  ·exact (R.vars x v hx).ext X' (fun _=>rfl) fun a o w hc hm hd=>List.mem_append_right _ ((hrest _).mpr ⟨hm,by
    cases q:ownedP σ ρ δ (a,o) with
    | false=>rfl
    | true=>
     obtain ⟨n,on,hn,hf⟩:=ownedP_iff.mp q
     obtain ⟨ob,h1,h2⟩:=(R.own n on hn).mem a hf
     rw [one_at R.nd hm h1] at hd
     exact absurd hd (h2 _)⟩)
  ·obtain ⟨o,w,h1,h2⟩:=R.cel x a e
   refine ⟨o,w,List.mem_append_right _ ((hrest _).mpr ⟨h1,?_⟩),h2⟩
   cases q:ownedP σ ρ δ (a,o) with
   | false=>rfl
   | true=>
    obtain ⟨n,on,hn,hf⟩:=ownedP_iff.mp q
    obtain ⟨ob,h3,h4⟩:=(R.own n on hn).mem a hf
    rw [one_at R.nd h1 h3] at h2
    exact absurd h2 (h4 _)
 ·cases fl <;> cases b <;> first | exact V.elim | exact V | rfl
theorem m_def {f:Addr} {fd:FuncData} {body:List Stmt} {qual:Str} {scope:Scope} {cd:Value} {ps:List Str} {vs us:List V} {Q:V → St → Prop} (ok:c.Ok) (room:c.A.depth < recursionLimit) (dk:defOk c.K f fd body qual scope cd ps)
  (hb:∀ ρ s xs,c.K.In s.heap → Vals ρ σ.hp vs xs → ∃ ys,BindsTo s fd ⟨xs,[]⟩ (ps.zip ys) ∧ Vals ρ σ.hp us ys) (hl:us.length = ps.length)
  (h:∀ B L,(c.sub B L qual scope f cd).Ok → mB (c.sub B L qual scope f cd) body (fun fl σ'=>Q fl.val ⟨σ.vars,σ'.hp⟩) ⟨fun x=>(ps.zip us).lookup x,σ.hp⟩):mCall c f vs Q σ:=
 m_defB ok room dk hb hl fun B L _=>h B L
theorem mCall.around {f:Addr} {vs:List V} {Q:V → St → Prop} {A:Around} (h:mCall { c with A:=A } f vs Q σ) {ρ δ:Nm → Addr} {news:List (Addr × Obj)} {m:Str → Option Value} {s:Shared} {xs:List Value} (R:Rel c σ ρ δ news m s) (W:Vals ρ σ.hp vs xs) :
  codeAny (model c.prog c.w) A (.call (.ref f) ⟨xs,[]⟩) (CB (Post c RVal Q σ ρ δ)) s:=by
 refine codeAny_mono (h ρ δ news m s xs ⟨R.fr,R.nw,R.nd,R.own,R.dj,R.vars,R.cel,R.ext⟩ W) fun r s' z=>?_
 rcases r with e | (_ | _ | _ | v) <;> first | exact z.elim | skip
 obtain ⟨b,σ',ρ',δ',news',m',X,R',V,q⟩:=z
 exact ⟨b,σ',ρ',δ',news',m',X,⟨R'.fr,R'.nw,R'.nd,R'.own,R'.dj,R'.vars,R'.cel,R'.ext⟩,V,q⟩
theorem m_new (n:Nm) {C fI:Addr} {vs:List V} {Q:V → St → Prop} (ok:c.Ok) (hn:σ.hp n = none) (hm:makesIn c.K C = true) (hi:findIn c.K (.ref C) "__init__" = some (some (.ref fI))) (hf:isFn c.K (.ref fI) = true)
  (h:∀ A',A'.depth = c.A.depth + 1 → A'.units = c.A.units + 1 → A'.handled = c.A.handled → mCall { c with A:=A' } fI (.ref n :: vs) (fun v σ'=>v = .none ∧ Q (.ref n) σ') (σ.put n (.inst C []))):mCall c C vs Q σ:=fun ρ δ news m s xs R W=>by
 refine make_K R.fr R.nw (R.K ok) hm hi (beq_iff_eq.mp hf) fun x dx h' F' N' lo lt=>?_
 have R' : Rel c (σ.put n (.inst C [])) (setA ρ n x) (setA δ n dx) ([(x,instObj C dx),(dx,emptyDict)] ++ news) m { s with heap:=h' }:=by
  refine R.new hn F' N' ?_ (fun p hp q hq=>?_) (fun y hy=>?_) ⟨[],0,?_,?_,.nil⟩
  ·exact List.nodup_cons.mpr ⟨fun e=>by rw [List.map_cons,List.map_nil,List.mem_singleton] at e;exact absurd e (Nat.ne_of_gt lt),List.nodup_cons.mpr ⟨fun e=>(nomatch e),List.nodup_nil⟩⟩
  ·rcases List.mem_cons.mp hp with rfl | hp
   ·exact Nat.lt_trans (lo q hq) lt
   ·rw [List.mem_singleton.mp hp];exact lo q hq
  ·simp only [foot,setA_self,List.mem_cons,List.not_mem_nil,or_false] at hy
   rcases hy with rfl | rfl
   ·exact ⟨_,.head _⟩
   ·exact ⟨_,.tail _ (.head _)⟩
  ·rw [setA_self,setA_self];exact .head _
  ·rw [setA_self];exact .tail _ (.head _)
 have X:Ext ρ δ σ.hp (setA ρ n x) (setA δ n dx) (σ.put n (.inst C [])).hp:=ext_new hn
 have dom:(σ.put n (.inst C [])).hp n ≠ none:=by
  show (σ.hp.set n _) n ≠ none
  rw [H.set_self];simp
 have W' : Vals (setA ρ n x) (σ.put n (.inst C [])).hp (.ref n :: vs) (.ref x :: xs):=.cons ⟨by rw [setA_self],dom⟩ (W.ext X)
 have z:=(h _ (depth_under_make c.A C xs) (units_under_make c.A C xs) rfl).around (c:=c) R' W'
 refine codeAny_mono z fun r s' z=>?_
 rcases r with e | (_ | _ | _ | v) <;> first | exact z.elim | skip
 obtain ⟨b,σ',ρ',δ',news',m',X',R₂,V,rfl,q⟩:=z
 refine ⟨V,.ref n,σ',ρ',δ',news',m',X.trans X',R₂,?_,q⟩
 obtain ⟨d1,d2,-⟩:=X' n dom
 exact ⟨by rw [d2,setA_self],d1⟩
end
section
variable {c:Cx} {σ:St}
section
variable {i j:Int} {Q:V → St → Prop}
theorem b_add (h:Q (.int (i + j)) σ):MW2 c RVal (.int i) (.int j) (binaryOp .Add) Q σ:=fun ρ δ news m s x y R ⟨t,ex⟩ ⟨u,ey⟩=>by
 subst ex ey;exact add_int (Post.now (RV:=RVal) (b:=.int (i + j)) (R.same rfl) ⟨_,rfl⟩ h)
theorem b_sub (h:Q (.int (i - j)) σ):MW2 c RVal (.int i) (.int j) (binaryOp .Sub) Q σ:=fun ρ δ news m s x y R ⟨t,ex⟩ ⟨u,ey⟩=>by
 subst ex ey;exact sub_int (Post.now (RV:=RVal) (b:=.int (i - j)) (R.same rfl) ⟨_,rfl⟩ h)
theorem bits_small {a:Int} (h1 : -18446744073709551616 < a) (h2:a < 18446744073709551616):Builtin.Int.intBits a ≤ 64:=intBits_le_64 (by simpa using h1) (by simpa using h2)
theorem b_mul (h:Q (.int (i * j)) σ) (h1 : -18446744073709551616 < i) (h2:i < 18446744073709551616):MW2 c RVal (.int i) (.int j) (binaryOp .Mult) Q σ:=fun ρ δ news m s x y R ⟨t,ex⟩ ⟨u,ey⟩=>by
 subst ex ey;exact mul_int (Post.now (RV:=RVal) (b:=.int (i * j)) (R.same rfl) ⟨_,rfl⟩ h) (IntMulOk.of_left (bits_small h1 h2))
theorem b_mod (h:Q (.int (i.fmod j)) σ) (hj:j ≠ 0):MW2 c RVal (.int i) (.int j) (binaryOp .Mod) Q σ:=fun ρ δ news m s x y R ⟨t,ex⟩ ⟨u,ey⟩=>by
 subst ex ey;exact mod_int' hj (Post.now (RV:=RVal) (b:=.int (i.fmod j)) (R.same rfl) ⟨_,rfl⟩ h)
theorem b_div (h:Q (.int (i.fdiv j)) σ) (hj:j ≠ 0) (hs:j.natAbs < 1073741824):MW2 c RVal (.int i) (.int j) (binaryOp .FloorDiv) Q σ:=fun ρ δ news m s x y R ⟨t,ex⟩ ⟨u,ey⟩=>by
 subst ex ey;exact floordiv_int hj (Post.now (RV:=RVal) (b:=.int (i.fdiv j)) (R.same rfl) ⟨_,rfl⟩ h) (.inl (PyProof.noPylong_small hs))
theorem i_add (h:Q (.int (i + j)) σ):MW2 c RVal (.int i) (.int j) (inplaceOp .Add) Q σ:=fun ρ δ news m s x y R ⟨t,ex⟩ ⟨u,ey⟩=>by
 subst ex ey;exact iadd_int (Post.now (RV:=RVal) (b:=.int (i + j)) (R.same rfl) ⟨_,rfl⟩ h)
theorem i_div (h:Q (.int (i.fdiv j)) σ) (hj:j ≠ 0) (hs:j.natAbs < 1073741824):MW2 c RVal (.int i) (.int j) (inplaceOp .FloorDiv) Q σ:=fun ρ δ news m s x y R ⟨t,ex⟩ ⟨u,ey⟩=>by
 subst ex ey;exact ifloordiv_int hj (Post.now (RV:=RVal) (b:=.int (i.fdiv j)) (R.same rfl) ⟨_,rfl⟩ h) (.inl (PyProof.noPylong_small hs))
theorem u_neg (h:Q (.int (-i)) σ):MW1 c RVal (.int i) (unaryOp .USub) Q σ:=fun ρ δ news m s x R ⟨t,ex⟩=>by
 subst ex;exact neg_int (Post.now (RV:=RVal) (b:=.int (-i)) (R.same rfl) ⟨_,rfl⟩ h)
theorem c_lt (h:Q (.bool (decide (i < j))) σ):MW2 c RVal (.int i) (.int j) (compareOp .Lt) Q σ:=fun ρ δ news m s x y R ⟨t,ex⟩ ⟨u,ey⟩=>by
 subst ex ey;exact lt_int (Post.now (RV:=RVal) (b:=.bool _) R rfl h)
theorem c_gt (h:Q (.bool (decide (j < i))) σ):MW2 c RVal (.int i) (.int j) (compareOp .Gt) Q σ:=fun ρ δ news m s x y R ⟨t,ex⟩ ⟨u,ey⟩=>by
 subst ex ey;exact gt_int (Post.now (RV:=RVal) (b:=.bool _) R rfl h)
theorem c_le (h:Q (.bool (decide (i ≤ j))) σ):MW2 c RVal (.int i) (.int j) (compareOp .LtE) Q σ:=fun ρ δ news m s x y R ⟨t,ex⟩ ⟨u,ey⟩=>by
 subst ex ey;exact le_int (Post.now (RV:=RVal) (b:=.bool _) R rfl h)
theorem c_ge (h:Q (.bool (decide (j ≤ i))) σ):MW2 c RVal (.int i) (.int j) (compareOp .GtE) Q σ:=fun ρ δ news m s x y R ⟨t,ex⟩ ⟨u,ey⟩=>by
 subst ex ey;exact ge_int (Post.now (RV:=RVal) (b:=.bool _) R rfl h)
theorem c_eq (h:Q (.bool (decide (i = j))) σ):MW2 c RVal (.int i) (.int j) (compareOp .Eq) Q σ:=fun ρ δ news m s x y R ⟨t,ex⟩ ⟨u,ey⟩=>by
 subst ex ey;exact eq_int (Post.now (RV:=RVal) (b:=.bool (decide (i = j))) R rfl h)
theorem c_ne (h:Q (.bool (!decide (i = j))) σ):MW2 c RVal (.int i) (.int j) (compareOp .NotEq) Q σ:=fun ρ δ news m s x y R ⟨t,ex⟩ ⟨u,ey⟩=>by
 subst ex ey;exact ne_int (Post.now (RV:=RVal) (b:=.bool (!decide (i = j))) R rfl h)
end
section
variable {b d:Bool} {Q:V → St → Prop} {QB:Bool → St → Prop}
theorem t_bool (h:QB b σ):MW1 c (REq (α:=Bool)) (.bool b) truthy QB σ:=fun ρ δ news m s x R ex=>by
 rw [show x = .bool b from ex];exact wpAny_truthy_bool (Post.now (RV:=REq) R rfl h)
theorem c_neB (h:Q (.bool (b != d)) σ):MW2 c RVal (.bool b) (.bool d) (compareOp .NotEq) Q σ:=fun ρ δ news m s x y R ex ey=>by
 rw [show x = .bool b from ex,show y = .bool d from ey];exact ne_bool (Post.now (RV:=RVal) (b:=.bool _) R rfl h)
theorem c_isN (h:Q (.bool true) σ):MW2 c RVal .none .none (compareOp .Is) Q σ:=fun ρ δ news m s x y R ex ey=>by
 rw [show x = .none from ex,show y = .none from ey];exact is_none_none (Post.now (RV:=RVal) (b:=.bool _) R rfl h)
theorem c_isR {n:Nm} (h:Q (.bool false) σ):MW2 c RVal (.ref n) .none (compareOp .Is) Q σ:=fun ρ δ news m s x y R ex ey=>by
 rw [ex.1,show y = .none from ey];exact is_ref_none (Post.now (RV:=RVal) (b:=.bool _) R rfl h)
theorem c_isntN (h:Q (.bool false) σ):MW2 c RVal .none .none (compareOp .IsNot) Q σ:=fun ρ δ news m s x y R ex ey=>by
 rw [show x = .none from ex,show y = .none from ey];exact isnot_none_none (Post.now (RV:=RVal) (b:=.bool _) R rfl h)
theorem c_isntR {n:Nm} (h:Q (.bool true) σ):MW2 c RVal (.ref n) .none (compareOp .IsNot) Q σ:=fun ρ δ news m s x y R ex ey=>by
 rw [ex.1,show y = .none from ey];exact isnot_ref_none (Post.now (RV:=RVal) (b:=.bool _) R rfl h)
end
section
variable {a b:Str} {Q:V → St → Prop} {QB:Bool → St → Prop}
theorem b_cat (h:Q (.str (a ++ b)) σ) (hz:a.length + b.length ≤ 1000000):MW2 c RVal (.str a) (.str b) (binaryOp .Add) Q σ:=fun ρ δ news m s x y R ⟨t,ex⟩ ⟨u,ey⟩=>by
 subst ex ey;exact PyProof.Rows.add_str (fun t' tk=>Post.now (RV:=RVal) (b:=.str (a ++ b)) (R.same rfl) ⟨_,rfl⟩ h) (by rw [sizeLine_eq];omega)
theorem i_cat (h:Q (.str (a ++ b)) σ) (hz:a.length + b.length ≤ 1000000):MW2 c RVal (.str a) (.str b) (inplaceOp .Add) Q σ:=fun ρ δ news m s x y R ⟨t,ex⟩ ⟨u,ey⟩=>by
 subst ex ey;exact PyProof.Rows.iadd_str (fun t' tk=>Post.now (RV:=RVal) (b:=.str (a ++ b)) (R.same rfl) ⟨_,rfl⟩ h) (by rw [sizeLine_eq];omega)
theorem c_eqS (h:Q (.bool (a == b)) σ):MW2 c RVal (.str a) (.str b) (compareOp .Eq) Q σ:=fun ρ δ news m s x y R ⟨t,ex⟩ ⟨u,ey⟩=>by
 subst ex ey;exact PyProof.Rows.eq_str (Post.now (RV:=RVal) (b:=.bool _) R rfl h)
theorem c_neS (h:Q (.bool (a != b)) σ):MW2 c RVal (.str a) (.str b) (compareOp .NotEq) Q σ:=fun ρ δ news m s x y R ⟨t,ex⟩ ⟨u,ey⟩=>by
 subst ex ey;exact PyProof.Rows.ne_str (Post.now (RV:=RVal) (b:=.bool _) R rfl h)
theorem c_leS (h:Q (.bool !decide (b.cps.toList < a.cps.toList)) σ):MW2 c RVal (.str a) (.str b) (compareOp .LtE) Q σ:=fun ρ δ news m s x y R ⟨t,ex⟩ ⟨u,ey⟩=>by
 subst ex ey;exact P.le_str (Post.now (RV:=RVal) (b:=.bool _) R rfl h)
theorem c_inS (h:Q (.bool !(Builtin.Str.occurrences b a 0 b.length 1).isEmpty) σ):MW2 c RVal (.str a) (.str b) (compareOp .In) Q σ:=fun ρ δ news m s x y R ⟨t,ex⟩ ⟨u,ey⟩=>by
 subst ex ey;exact PyProof.Rows.in_str (Post.now (RV:=RVal) (b:=.bool _) R rfl h)
theorem f_lenS (h:Q (.int a.length) σ) (hz:a.length ≤ 1000000):MW1 c RVal (.str a) (fun x=>call (.builtin "len") [x]) Q σ:=fun ρ δ news m s x R ⟨t,ex⟩=>by
 subst ex;exact SBL.len (by omega) (Post.now (RV:=RVal) (b:=.int a.length) (R.same rfl) ⟨_,rfl⟩ h)
theorem f_ord {k:Nat} (h:Q (.int k) σ):MW1 c RVal (.str ⟨#[k]⟩) (fun x=>call (.builtin "ord") [x]) Q σ:=fun ρ δ news m s x R ⟨t,ex⟩=>by
 subst ex;exact P.ord_of_char (Post.now (RV:=RVal) (b:=.int k) (R.same rfl) ⟨_,rfl⟩ h)
theorem f_find (h:Q (.int (Txt.find a b)) σ):MW2 c RVal (.str a) (.str b) (fun x y=>call (.builtin "str.find") [x,y]) Q σ:=fun ρ δ news m s x y R ⟨t,ex⟩ ⟨u,ey⟩=>by
 subst ex ey;exact SC.find (Post.now (RV:=RVal) (b:=.int _) (R.same rfl) ⟨_,rfl⟩ h)
theorem f_str {i:Int} (h:Q (.str (Str.ofString (toString i))) σ) (h1 : -1000000 < i) (h2:i < 1000000):MW1 c RVal (.int i) (fun x=>call (.type "str") [x]) Q σ:=fun ρ δ news m s x R ⟨t,ex⟩=>by
 subst ex;exact P.str_of_int (shown (N:=1000000) h1 h2 (by decide +kernel)) (Post.now (RV:=RVal) (b:=.str _) (R.same rfl) ⟨_,rfl⟩ h)
theorem f_int {i:Int} (h:Q (.int i) σ):MW1 c RVal (.int i) (fun x=>call (.type "int") [x]) Q σ:=fun ρ δ news m s x R ⟨t,ex⟩=>by
 subst ex;exact call_int_int (Post.now (RV:=RVal) (b:=.int i) R ⟨_,rfl⟩ h)
theorem f_abs {i:Int} (h:Q (.int (if i < 0 then -i else i)) σ):MW1 c RVal (.int i) (fun x=>call (.builtin "abs") [x]) Q σ:=fun ρ δ news m s x R ⟨t,ex⟩=>by
 subst ex;exact call_abs_int fun u tk=>Post.now (RV:=RVal) (b:=.int _) (R.same rfl) ⟨_,rfl⟩ h
theorem f_max {i j:Int} (ok:c.Ok) (h:Q (.int (if j > i then j else i)) σ):MW2 c RVal (.int i) (.int j) (fun x y=>call (.builtin "max") [x,y]) Q σ:=fun ρ δ news m s x y R ⟨t,ex⟩ ⟨u,ey⟩=>by
 subst ex ey
 exact max_two_N ok.hh R.fr R.nw fun h' tk F N=>⟨.int (if j > i then j else i),σ,ρ,δ,news,m,Ext.refl _ _ _,⟨F,N,R.nd,R.own,R.dj,R.vars,R.cel,R.ext⟩,by
  split
  ·exact ⟨_,rfl⟩
  ·exact ⟨_,rfl⟩,h⟩
end
end
section
variable {α β:Type} {c:Cx} {RV:H → (Nm → Addr) → α → β → Prop} {σ:St}
theorem MW1.toS {v:V} {t:List Value → Sem α} {Q:β → St → Prop} (h:MW1 c RV v (fun x=>t [x]) Q σ):MWs c RV [v] t Q σ:=fun ρ δ news m s xs R W=>by
 cases W with | cons a b=>cases b;exact h ρ δ news m s _ R a
theorem MW2.toS {v u:V} {t:List Value → Sem α} {Q:β → St → Prop} (h:MW2 c RV v u (fun x y=>t [x,y]) Q σ):MWs c RV [v,u] t Q σ:=fun ρ δ news m s xs R W=>by
 cases W with | cons a b=>cases b with | cons d e=>cases e;exact h ρ δ news m s _ _ R a d
theorem MW3.toS {v u z:V} {t:List Value → Sem α} {Q:β → St → Prop} (h:MW3 c RV v u z (fun x y w=>t [x,y,w]) Q σ):MWs c RV [v,u,z] t Q σ:=fun ρ δ news m s xs R W=>by
 cases W with | cons a b=>cases b with | cons d e=>cases e with | cons f g=>cases g;exact h ρ δ news m s _ _ _ R a d f
end
section
variable {c:Cx} {σ:St} {ρ δ:Nm → Addr} {news:List (Addr × Obj)} {m:Str → Option Value} {s:Shared}
theorem Rel.push1 {n:Nm} {o:O} {ob:Obj} {tk:Nat} (R:Rel c σ ρ δ news m s) (hn:σ.hp n = none) (hf:∀ ρ δ,foot ρ δ n o = [ρ n]) (hfree:ob.isFreed = false)
  (own:∀ δ',OAt c.prog c.w (setA ρ n s.heap.objs.size) δ' (σ.hp.set n o) ((s.heap.objs.size,ob) :: news) n o) :
  Rel c (σ.put n o) (setA ρ n s.heap.objs.size) (setA δ n 0) ((s.heap.objs.size,ob) :: news) m { s with heap:=s.heap.push ob,toks:=tk }:=by
 refine R.new (more:=[(s.heap.objs.size,ob)]) hn (R.fr.push ob) (R.nw.push R.fr ob hfree) ?_ (fun p hp q hq=>?_) (fun x hx=>?_) (own _)
 ·exact List.nodup_cons.mpr ⟨fun e=>(nomatch e),List.nodup_nil⟩
 ·rw [List.mem_singleton.mp hp];exact Heap.lt_size (R.nw q hq).1
 ·rw [hf,setA_self] at hx
  rw [List.mem_singleton.mp hx];exact ⟨_,.head _⟩
theorem seq_at {n:Nm} {xs:List V} (R:Rel c σ ρ δ news m s) (e:σ.hp n = some (.list xs)):∃ vs k,(ρ n,listOf vs.toArray k) ∈ news ∧ Vals ρ σ.hp xs vs ∧ s.heap.IsList (ρ n) vs.toArray:=by
 obtain ⟨vs,k,a,b⟩:=R.own n _ e
 exact ⟨vs,k,a,b,_,(R.nw _ a).1,rfl,_,rfl⟩
theorem tup_at {n:Nm} {xs:List V} (R:Rel c σ ρ δ news m s) (e:σ.hp n = some (.tup xs)):∃ vs k,(ρ n,tupOf vs.toArray k) ∈ news ∧ Vals ρ σ.hp xs vs ∧ IsTup s.heap (ρ n) vs.toArray:=by
 obtain ⟨vs,k,a,b⟩:=R.own n _ e
 exact ⟨vs,k,a,b,_,(R.nw _ a).1,rfl,_,rfl⟩
end
section
variable {c:Cx} {σ:St}
theorem mE_bi {func e₁:Expr} {rest:List Expr} {pos:Pos} {Q:V → St → Prop} 
  (h:mE c func (fun v σ₁=>∃ id,v = .glob (.builtin id) ∧ mL c pos (e₁ :: rest) (kWs c RVal (fun xs=>call (.builtin id) xs) Q) σ₁) σ)
  (he:autoParam (eval (.Call func (e₁ :: rest) [] pos) c.env = (do callWith pos (← eval func c.env) [] (backTo pos (starEach (e₁ :: rest) c.env)) (backToKw pos (keywordEach [] c.env)))) aR)
  (h1:autoParam (starEach (e₁ :: rest) c.env = (false,eval e₁ c.env) :: starEach rest c.env) aR) (h2:autoParam ((backTo pos (starEach rest c.env)).any (·.1) = false) aR):mE c (.Call func (e₁ :: rest) [] pos) Q σ:=fun ρ δ news m s R=>by
 refine Call_ (nest h R fun ov s₁ b σ₁ ρ₁ δ₁ news₁ m₁ X R₁ V q=>?_) he
 obtain ⟨id,rfl,hl⟩:=q
 rw [show ov = .builtin id from V]
 exact PyProof.Rows.callWith_builtin1 (nest hl R₁ fun vs' s₂ vs σ₂ ρ₂ δ₂ news₂ m₂ X₂ R₂ V₂ q₂=>doneP (q₂ ρ₂ δ₂ news₂ m₂ s₂ vs' R₂ V₂) (X.trans X₂)) h1 h2
theorem mE_ty {func e₁:Expr} {rest:List Expr} {pos:Pos} {Q:V → St → Prop} 
  (h:mE c func (fun v σ₁=>∃ id,v = .glob (.type id) ∧ mL c pos (e₁ :: rest) (kWs c RVal (fun xs=>call (.type id) xs) Q) σ₁) σ)
  (he:autoParam (eval (.Call func (e₁ :: rest) [] pos) c.env = (do callWith pos (← eval func c.env) [] (backTo pos (starEach (e₁ :: rest) c.env)) (backToKw pos (keywordEach [] c.env)))) aR)
  (h1:autoParam (starEach (e₁ :: rest) c.env = (false,eval e₁ c.env) :: starEach rest c.env) aR) (h2:autoParam ((backTo pos (starEach rest c.env)).any (·.1) = false) aR):mE c (.Call func (e₁ :: rest) [] pos) Q σ:=fun ρ δ news m s R=>by
 refine Call_ (nest h R fun ov s₁ b σ₁ ρ₁ δ₁ news₁ m₁ X R₁ V q=>?_) he
 obtain ⟨id,rfl,hl⟩:=q
 rw [show ov = .type id from V]
 exact PyProof.Rows.callWith_type1 (nest hl R₁ fun vs' s₂ vs σ₂ ρ₂ δ₂ news₂ m₂ X₂ R₂ V₂ q₂=>doneP (q₂ ρ₂ δ₂ news₂ m₂ s₂ vs' R₂ V₂) (X.trans X₂)) h1 h2
noncomputable def MethAt (c:Cx) (v:V) (a:Str) (pl:Sem Bool) (id:String) (σ:St):Prop:=
 ∀ ρ δ news m s x (Q:Value × List Value → Shared → Prop) (E:Value → Shared → Prop),Rel c σ ρ δ news m s → Val ρ σ.hp v x → Q (.builtin id,[x]) s → wpAny (model c.prog c.w) c.A (getMethod x a pl) Q E s
noncomputable abbrev kWv (c:Cx) (t:List Value → Sem Value) (v:V) (Q:V → St → Prop) (vs:List V) (σ:St):Prop:=MWs c RVal (v :: vs) t Q σ
noncomputable abbrev kBm (c:Cx) (a:Str) (pl:Sem Bool) (pos:Pos) (es:List Expr) (Q:V → St → Prop) (v:V) (σ:St):Prop:=∃ id,MethAt c v a pl id σ ∧ mL c pos es (kWv c (fun xs=>call (.builtin id) xs) v Q) σ
theorem meth_append {n:Nm} {xs:List V} {pl:Sem Bool} (e:σ.hp n = some (.list xs)):MethAt c (.ref n) "append" pl "list.append" σ:=fun ρ δ news m s x Q E R V q=>by
 obtain ⟨vs,k,a,b,d⟩:=seq_at R e
 rw [V.1] at q ⊢
 exact getMethod_append_N R.nw a q
theorem meth_find {a:Str} {pl:Sem Bool}:MethAt c (.str a) "find" pl "str.find" σ:=fun ρ δ news m s x Q E R ⟨t,ex⟩ q=>by
 subst ex;exact GM.find q
theorem mE_bm {o e₁:Expr} {rest:List Expr} {a:Str} {apos pos:Pos} {pl:Sem Bool} {Q:V → St → Prop}
  (h:mE c o (kBm c a pl pos (e₁ :: rest) Q) σ)
  (he:autoParam (eval (.Call (.Attribute o a apos) (e₁ :: rest) [] pos) c.env = (do
   let ov ← eval o c.env
   standAt apos.atName
   let (f,first) ← holding [ov] (getMethod ov a pl)
   callWith pos f first (backTo pos (starEach (e₁ :: rest) c.env)) [])) aR)
  (h1:autoParam (starEach (e₁ :: rest) c.env = (false,eval e₁ c.env) :: starEach rest c.env) aR) (h2:autoParam ((backTo pos (starEach rest c.env)).any (·.1) = false) aR) :
  mE c (.Call (.Attribute o a apos) (e₁ :: rest) [] pos) Q σ:=fun ρ δ news m s R=>by
 refine MethodCall_ (pl:=pl) (nest h R fun ov s₁ b σ₁ ρ₁ δ₁ news₁ m₁ X R₁ V q=>?_) he
 obtain ⟨id,hm,hl⟩:=q
 refine hm ρ₁ δ₁ news₁ m₁ s₁ ov _ _ R₁ V ?_
 dsimp only
 exact PyProof.Rows.callWith_method1 (nest hl R₁ fun vs' s₂ vs σ₂ ρ₂ δ₂ news₂ m₂ X₂ R₂ V₂ q₂=>doneP (q₂ ρ₂ δ₂ news₂ m₂ s₂ (ov :: vs') R₂ (.cons (V.ext X₂) V₂)) (X.trans X₂)) h1 h2
theorem l_new (n:Nm) {vs:List V} {Q:V → St → Prop} (hn:σ.hp n = none) (h:Q (.ref n) (σ.put n (.list vs))) (hz:autoParam (vs.length ≤ 1000000) aD):MWs c RVal vs newList Q σ:=fun ρ δ news m s xs R W=>by
 have hz' : xs.length ≤ sizeLine:=by rw [W.length,sizeLine_eq];omega
 refine wpAny_newObj_type (T := "list") (data:=.seq xs.toArray 0) ?_ (by show xs.toArray.size ≤ sizeLine;rw [List.size_toArray];exact hz')
 refine ⟨.ref n,σ.put n (.list vs),_,_,_,m,ext_new hn,R.push1 hn (fun _ _=>rfl) rfl fun δ'=>⟨xs,0,?_,W.ext (ext_new (δ:=δ) (d:=0) hn)⟩,⟨?_,?_⟩,h⟩
 ·rw [setA_self];exact .head _
 ·rw [setA_self]
 ·show (σ.hp.set n _) n ≠ none
  rw [H.set_self];simp
theorem t_new (n:Nm) {vs:List V} {Q:V → St → Prop} (hn:σ.hp n = none) (h:Q (.ref n) (σ.put n (.tup vs))) (hz:autoParam (vs.length ≤ 1000000) aD):MWs c RVal vs newTuple Q σ:=fun ρ δ news m s xs R W=>by
 have hz' : xs.length ≤ sizeLine:=by rw [W.length,sizeLine_eq];omega
 refine wpAny_newObj_type (T := "tuple") (data:=.seq xs.toArray 0) ?_ (by show xs.toArray.size ≤ sizeLine;rw [List.size_toArray];exact hz')
 refine ⟨.ref n,σ.put n (.tup vs),_,_,_,m,ext_new hn,R.push1 hn (fun _ _=>rfl) rfl fun δ'=>⟨xs,0,?_,W.ext (ext_new (δ:=δ) (d:=0) hn)⟩,⟨?_,?_⟩,h⟩
 ·rw [setA_self];exact .head _
 ·rw [setA_self]
 ·show (σ.hp.set n _) n ≠ none
  rw [H.set_self];simp
theorem l_append {n:Nm} {xs:List V} {v:V} {Q:V → St → Prop} (e:σ.hp n = some (.list xs)) (h:Q .none (σ.put n (.list (xs ++ [v])))) (hz:xs.length ≤ 1000000):MW2 c RVal (.ref n) v (fun x y=>call (.builtin "list.append") [x,y]) Q σ:=fun ρ δ news m s x y R V U=>by
 obtain ⟨vs,k,a,b,d⟩:=seq_at R e
 rw [V.1]
 have N:=R.nw _ a
 refine append_at (its:=vs.toArray) (n:=k) N.1 (fun h' hs ho=>?_) (by rw [List.size_toArray,b.length,sizeLine_eq];omega)
 obtain ⟨news',R'⟩:=R.turn (tk:=s.toks) e rfl rfl a (o':=.list (xs ++ [v])) hs ho fun news' hm=>⟨vs ++ [y],k + 1,by rw [show (vs ++ [y]).toArray = vs.toArray.push y by simp];exact hm,(b.append (.cons U .nil)).ext (ext_set (δ:=δ))⟩
 exact ⟨.none,_,ρ,δ,news',m,ext_set,R',rfl,h⟩
theorem f_lenL {n:Nm} {xs:List V} {Q:V → St → Prop} (e:σ.hp n = some (.list xs)) (h:Q (.int xs.length) σ) (hz:xs.length ≤ 1000000):MW1 c RVal (.ref n) (fun x=>call (.builtin "len") [x]) Q σ:=fun ρ δ news m s x R V=>by
 obtain ⟨vs,k,a,b,d⟩:=seq_at R e
 rw [V.1]
 exact len_list d (by rw [List.size_toArray,b.length];omega) (Post.now (RV:=RVal) (b:=.int xs.length) (R.same rfl) ⟨_,by rw [List.size_toArray,b.length]⟩ h)
theorem s_list {o i:Expr} {n:Nm} {xs:List V} {k:Int} {v:V} {Q:V → St → Prop} (e:σ.hp n = some (.list xs)) (h0:0 ≤ k) (hv:xs[k.toNat]? = some v) (h:Q v σ) (hz:xs.length ≤ 1000000)
  (hs:autoParam (∀ x t,subscripted i false (.ref x) (.int k t) = operate [.ref x,.int k t] (getItem (.ref x) (.int k t))) aK) (ht:autoParam (∀ a r,letTemporaryGo o (.ref a) r = pure ()) aK) :
  MW2 c RVal (.ref n) (.int k) (subscriptTail o i) Q σ:=fun ρ δ news m s x y R V ⟨t,ey⟩=>by
 obtain ⟨vs,kk,a,b,d⟩:=seq_at R e
 rw [V.1];subst ey
 obtain ⟨x',hx',hV⟩:=b.get hv
 have hlt:k.toNat < xs.length:=by
  rcases Nat.lt_or_ge k.toNat xs.length with q | q
  ·exact q
  ·rw [List.getElem?_eq_none q] at hv;cases hv
 refine tail_any (ops:=[.ref (ρ n),.int k t]) (T := "list") (id := "list.__getitem__") d.typeIs slot_list_getitem.lookup ?_ (hs _ _)
 refine wpAny_getItem_list d h0 (by exact tn1 hlt hz) (x:=x') (by simpa using hx') ?_
 exact Post.now (RV:=RVal) R hV h
end
noncomputable def ROpt (h:H) (ρ:Nm → Addr):Option Value → Option V → Prop
 | none,none=>True
 | some a,some b=>Val ρ h b a
 | _,_=>False
noncomputable abbrev mNext (c:Cx) (n:Nm) (Q:Option V → St → Prop) (σ:St):Prop:=MW1 c ROpt (.ref n) pyNext Q σ
section
variable {c:Cx} {σ:St} {ρ δ:Nm → Addr} {news:List (Addr × Obj)} {m:Str → Option Value} {s:Shared}
theorem raw_at {n:Nm} {T:String} {fs:List FV} (R:Rel c σ ρ δ news m s) (e:σ.hp n = some (.raw T fs)):∃ o xs,(ρ n,o) ∈ news ∧ o.cls = .type T ∧ o.data = .fields (List.toArray xs) ∧ FVals ρ σ.hp fs xs:=R.own n _ e
theorem raw2_at {n:Nm} {T:String} {u:V} {i:Int} (R:Rel c σ ρ δ news m s) (e:σ.hp n = some (.raw T [.v u,.ri i])):∃ o x,(ρ n,o) ∈ news ∧ s.heap.get? (ρ n) = some o ∧ o.cls = .type T ∧ o.data = .fields #[x,.int i 0] ∧ Val ρ σ.hp u x:=by
 obtain ⟨o,xs,a,b,d,f⟩:=raw_at R e
 cases f with
 | cons f1 f2=>cases f2 with
  | cons f3 f4=>cases f4;rw [show _ = Value.int i 0 from f3] at d;exact ⟨o,_,a,(R.nw _ a).1,b,d,f1⟩
theorem own2 {n:Nm} {T:String} {u:V} {i:Int} {o:Obj} {x:Value} {news' : List (Addr × Obj)} {h:H} (hm:(ρ n,o) ∈ news') (hc:o.cls = .type T) (hd:o.data = .fields #[x,.int i 0]) (V:Val ρ h u x):OAt c.prog c.w ρ δ h news' n (.raw T [.v u,.ri i]):=
 ⟨o,[x,.int i 0],hm,hc,hd,.cons V (.cons rfl .nil)⟩
end
section
variable {c:Cx} {σ:St}
theorem put_self {n:Nm} {o:O}:(σ.put n o).hp n ≠ none:=by
 show (σ.hp.set n _) n ≠ none
 rw [H.set_self];simp
theorem it_push (n:Nm) {T:String} {u:V} {i:Int} {t:Sem Value} {Q:V → St → Prop} (hn:σ.hp n = none) (h:Q (.ref n) (σ.put n (.raw T [.v u,.ri i]))) {ρ δ:Nm → Addr} {news:List (Addr × Obj)} {m:Str → Option Value} {s:Shared} {x:Value}
  (R:Rel c σ ρ δ news m s) (V:Val ρ σ.hp u x):Post c RVal Q σ ρ δ (.ref s.heap.objs.size) { s with heap:=s.heap.push { cls:=.type T,data:=.fields #[x,.int i 0] } }:=by
 have X:Ext ρ δ σ.hp (setA ρ n s.heap.objs.size) (setA δ n 0) (σ.put n (.raw T [.v u,.ri i])).hp:=ext_new hn
 refine ⟨.ref n,σ.put n (.raw T [.v u,.ri i]),_,_,_,m,X,R.push1 (tk:=s.toks) hn (fun _ _=>rfl) rfl fun δ'=>own2 (by rw [setA_self];exact .head _) rfl rfl (V.ext X),⟨?_,put_self⟩,h⟩
 rw [setA_self]
theorem it_list (n:Nm) {l:Nm} {xs:List V} {Q:V → St → Prop} (e:σ.hp l = some (.list xs)) (hn:σ.hp n = none) (h:Q (.ref n) (σ.put n (.raw "list_iterator" [.v (.ref l),.ri 0]))):MW1 c RVal (.ref l) pyIter Q σ:=fun ρ δ news m s x R V=>by
 obtain ⟨vs,kk,a,b,d⟩:=seq_at R e
 rw [V.1]
 exact wpAny_pyIter_list d (it_push n (t:=pure x) hn h R ⟨rfl,V.2⟩)
theorem it_tup (n:Nm) {l:Nm} {xs:List V} {Q:V → St → Prop} (e:σ.hp l = some (.tup xs)) (hn:σ.hp n = none) (h:Q (.ref n) (σ.put n (.raw "tuple_iterator" [.v (.ref l),.ri 0]))):MW1 c RVal (.ref l) pyIter Q σ:=fun ρ δ news m s x R V=>by
 obtain ⟨vs,kk,a,b,d⟩:=tup_at R e
 rw [V.1]
 exact wpAny_pyIter_tuple d (it_push n (t:=pure x) hn h R ⟨rfl,V.2⟩)
theorem it_str (n:Nm) {a:Str} {Q:V → St → Prop} (ha:a.cps.all (· < 128) = true) (hn:σ.hp n = none) (h:Q (.ref n) (σ.put n (.raw "str_ascii_iterator" [.v (.str a),.ri 0]))):MW1 c RVal (.str a) pyIter Q σ:=fun ρ δ news m s x R V=>by
 obtain ⟨t,rfl⟩:=V
 exact wpAny_pyIter_ascii ha (it_push n (t:=pure (.int 0 0)) hn h R ⟨t,rfl⟩)
theorem it_rev (n:Nm) {l:Nm} {xs:List V} {Q:V → St → Prop} (e:σ.hp l = some (.list xs)) (hn:σ.hp n = none) (h:Q (.ref n) (σ.put n (.raw "list_reverseiterator" [.v (.ref l),.ri ((xs.length:Int) - 1)]))):MW1 c RVal (.ref l) (fun x=>call (.type "reversed") [x]) Q σ:=fun ρ δ news m s x R V=>by
 obtain ⟨vs,kk,a,b,d⟩:=seq_at R e
 rw [V.1]
 refine call_reversed_list d ?_
 rw [show ((vs.toArray.size:Int) - 1) = (xs.length:Int) - 1 by rw [List.size_toArray,b.length]]
 exact it_push n (t:=pure x) hn h R ⟨rfl,V.2⟩
theorem nx_turn {n:Nm} {T:String} {u:V} {i j:Int} {v:V} {Q:Option V → St → Prop} (e:σ.hp n = some (.raw T [.v u,.ri i])) (h:Q (some v) (σ.put n (.raw T [.v u,.ri j]))) {ρ δ:Nm → Addr} {news:List (Addr × Obj)} {m:Str → Option Value} {s:Shared} {x y:Value} {o o' : Obj} {h' : Heap} {tk:Nat}
  (R:Rel c σ ρ δ news m s) (hm:(ρ n,o) ∈ news) (hs:Heap.SameBut (ρ n) s.heap h') (ho:h'.get? (ρ n) = some o') (hc:o'.cls = .type T) (hd:o'.data = .fields #[x,.int j 0]) (U:Val ρ σ.hp u x) (V:Val ρ σ.hp v y):Post c ROpt Q σ ρ δ (some y) { s with heap:=h',toks:=tk }:=by
 obtain ⟨news',R'⟩:=R.turn (tk:=tk) e rfl rfl hm (o':=.raw T [.v u,.ri j]) hs ho fun news' hm=>own2 hm hc hd (U.ext (ext_set (δ:=δ)))
 exact ⟨some v,_,ρ,δ,news',m,ext_set,R',V.ext (ext_set (δ:=δ)),h⟩
theorem nx_end {n:Nm} {T:String} {fs:List FV} {Q:Option V → St → Prop} (e:σ.hp n = some (.raw T fs)) (h:Q none (σ.put n .dead)) {ρ δ:Nm → Addr} {news:List (Addr × Obj)} {m:Str → Option Value} {s:Shared} {h' : Heap} {tk:Nat}
  (R:Rel c σ ρ δ news m s) (hs:Heap.ExtBut (ρ n) s.heap h'):Post c ROpt Q σ ρ δ none { s with heap:=h',toks:=tk }:=
 ⟨none,_,ρ,δ,_,m,ext_set,R.kill (tk:=tk) e rfl hs,trivial,h⟩
theorem nx_list {n l:Nm} {xs:List V} {i:Nat} {v:V} {Q:Option V → St → Prop} (e:σ.hp n = some (.raw "list_iterator" [.v (.ref l),.ri i])) (el:σ.hp l = some (.list xs)) (hv:xs[i]? = some v) (h:Q (some v) (σ.put n (.raw "list_iterator" [.v (.ref l),.ri (i + 1:Nat)]))):mNext c n Q σ:=fun ρ δ news m s x R V=>by
 obtain ⟨o,y,hm,hg,hc,hd,U⟩:=raw2_at R e
 obtain ⟨vs,kk,a,b,d⟩:=seq_at R el
 obtain ⟨x',hx',hV⟩:=b.get hv
 rw [V.1]
 have U1:=U.1
 refine wpAny_pyNext_list_item (i:=i) ⟨o,hg,hc,by rw [hd,U1]⟩ d (x:=x') (by simpa using hx') fun h' ⟨o',ho',hc',hd'⟩ hs=>?_
 exact nx_turn (tk:=s.toks) e h R hm hs ho' hc' hd' ⟨rfl,U.2⟩ hV
theorem nx_listE {n l:Nm} {xs:List V} {i:Nat} {Q:Option V → St → Prop} (ok:c.Ok) (e:σ.hp n = some (.raw "list_iterator" [.v (.ref l),.ri i])) (el:σ.hp l = some (.list xs)) (hv:xs.length ≤ i) (h:Q none (σ.put n .dead)):mNext c n Q σ:=fun ρ δ news m s x R V=>by
 obtain ⟨o,y,hm,hg,hc,hd,U⟩:=raw2_at R e
 obtain ⟨vs,kk,a,b,d⟩:=seq_at R el
 rw [V.1]
 have U1:=U.1
 exact wpAny_pyNext_list_end (i:=i) ok.hh ⟨o,hg,hc,by rw [hd,U1]⟩ d (by simp [b.length,hv]) fun h' hs=>nx_end (tk:=s.toks) e h R hs
theorem nx_tup {n l:Nm} {xs:List V} {i:Nat} {v:V} {Q:Option V → St → Prop} (e:σ.hp n = some (.raw "tuple_iterator" [.v (.ref l),.ri i])) (el:σ.hp l = some (.tup xs)) (hv:xs[i]? = some v) (h:Q (some v) (σ.put n (.raw "tuple_iterator" [.v (.ref l),.ri (i + 1:Nat)]))):mNext c n Q σ:=fun ρ δ news m s x R V=>by
 obtain ⟨o,y,hm,hg,hc,hd,U⟩:=raw2_at R e
 obtain ⟨vs,kk,a,b,d⟩:=tup_at R el
 obtain ⟨x',hx',hV⟩:=b.get hv
 rw [V.1]
 have U1:=U.1
 refine PySem.wpAny_pyNext_tuple_item (i:=i) ⟨o,hg,hc,by rw [hd,U1]⟩ d (x:=x') (by simpa using hx') fun h' ⟨o',ho',hc',hd'⟩ hs=>?_
 exact nx_turn (tk:=s.toks) e h R hm hs ho' hc' hd' ⟨rfl,U.2⟩ hV
theorem nx_tupE {n l:Nm} {xs:List V} {i:Nat} {Q:Option V → St → Prop} (ok:c.Ok) (e:σ.hp n = some (.raw "tuple_iterator" [.v (.ref l),.ri i])) (el:σ.hp l = some (.tup xs)) (hv:xs.length ≤ i) (h:Q none (σ.put n .dead)):mNext c n Q σ:=fun ρ δ news m s x R V=>by
 obtain ⟨o,y,hm,hg,hc,hd,U⟩:=raw2_at R e
 obtain ⟨vs,kk,a,b,d⟩:=tup_at R el
 rw [V.1]
 have U1:=U.1
 exact PySem.wpAny_pyNext_tuple_end (i:=i) ok.hh ⟨o,hg,hc,by rw [hd,U1]⟩ d (by simp [b.length,hv]) fun h' hs=>nx_end (tk:=s.toks) e h R hs
theorem nx_str {n:Nm} {a:Str} {i k:Nat} {Q:Option V → St → Prop} (e:σ.hp n = some (.raw "str_ascii_iterator" [.v (.str a),.ri i])) (hv:a.cps[i]? = some k) (h:Q (some (.str ⟨#[k]⟩)) (σ.put n (.raw "str_ascii_iterator" [.v (.str a),.ri (i + 1:Nat)]))):mNext c n Q σ:=fun ρ δ news m s x R V=>by
 obtain ⟨o,y,hm,hg,hc,hd,⟨t,rfl⟩⟩:=raw2_at R e
 rw [V.1]
 refine wpAny_pyNext_ascii_item (i:=i) ⟨o,hg,hc,hd⟩ hv fun h' ⟨o',ho',hc',hd'⟩ hs=>?_
 exact nx_turn e h R hm hs ho' hc' hd' ⟨t,rfl⟩ ⟨_,rfl⟩
theorem nx_strE {n:Nm} {a:Str} {i:Nat} {Q:Option V → St → Prop} (ok:c.Ok) (e:σ.hp n = some (.raw "str_ascii_iterator" [.v (.str a),.ri i])) (hv:a.cps.size ≤ i) (h:Q none (σ.put n .dead)):mNext c n Q σ:=fun ρ δ news m s x R V=>by
 obtain ⟨o,y,hm,hg,hc,hd,⟨t,rfl⟩⟩:=raw2_at R e
 rw [V.1]
 exact wpAny_pyNext_ascii_end (i:=i) ok.hh ⟨o,hg,hc,hd⟩ (by simp [hv]) fun h' hs=>nx_end (tk:=s.toks) e h R hs
theorem nx_rev {n l:Nm} {xs:List V} {i:Nat} {v:V} {Q:Option V → St → Prop} (e:σ.hp n = some (.raw "list_reverseiterator" [.v (.ref l),.ri i])) (el:σ.hp l = some (.list xs)) (hv:xs[i]? = some v) (h:Q (some v) (σ.put n (.raw "list_reverseiterator" [.v (.ref l),.ri ((i:Int) - 1)]))):mNext c n Q σ:=fun ρ δ news m s x R V=>by
 obtain ⟨o,y,hm,hg,hc,hd,U⟩:=raw2_at R e
 obtain ⟨vs,kk,a,b,d⟩:=seq_at R el
 obtain ⟨x',hx',hV⟩:=b.get hv
 rw [V.1]
 have U1:=U.1
 refine wpAny_pyNext_rev_item (i:=i) ⟨o,hg,hc,by rw [hd,U1];rfl⟩ d (x:=x') (by simpa using hx') fun h' ⟨o',ho',hc',hd'⟩ hs=>?_
 exact nx_turn (tk:=s.toks) e h R hm hs ho' hc' hd' ⟨rfl,U.2⟩ hV
theorem nx_revE {n l:Nm} {xs:List V} {Q:Option V → St → Prop} (ok:c.Ok) (e:σ.hp n = some (.raw "list_reverseiterator" [.v (.ref l),.ri (-1)])) (h:Q none (σ.put n .dead)):mNext c n Q σ:=fun ρ δ news m s x R V=>by
 obtain ⟨o,y,hm,hg,hc,hd,U⟩:=raw2_at R e
 rw [V.1]
 have U1:=U.1
 exact wpAny_pyNext_rev_end (l:=ρ l) ok.hh ⟨o,hg,hc,by rw [hd,U1];rfl⟩ fun h' hs=>nx_end (tk:=s.toks) e h R hs
theorem rg_new1 (n:Nm) {b:Int} {Q:V → St → Prop} (hn:σ.hp n = none) (h:Q (.ref n) (σ.put n (.rawX "range" [.v (.int 0),.v (.int b),.v (.int 1)]))):MW1 c RVal (.int b) (fun y=>call (.type "range") [y]) Q σ:=fun ρ δ news m s y R ⟨u,ey⟩=>by
 subst ey
 refine call_range_1 ?_
 have X:Ext ρ δ σ.hp (setA ρ n s.heap.objs.size) (setA δ n 0) (σ.put n (.rawX "range" [.v (.int 0),.v (.int b),.v (.int 1)])).hp:=ext_new hn
 refine ⟨.ref n,σ.put n (.rawX "range" [.v (.int 0),.v (.int b),.v (.int 1)]),_,_,_,m,X,R.push1 hn (fun _ _=>rfl) rfl fun δ'=>⟨[_,_,_],by rw [setA_self];exact .head _,.cons ⟨_,rfl⟩ (.cons ⟨_,rfl⟩ (.cons ⟨_,rfl⟩ .nil))⟩,⟨?_,put_self⟩,h⟩
 rw [setA_self]
theorem rg_new3 (n:Nm) {a b d:Int} {Q:V → St → Prop} (hd:d ≠ 0) (hs:d.natAbs < 1073741824) (hn:σ.hp n = none) (h:Q (.ref n) (σ.put n (.rawX "range" [.v (.int a),.v (.int b),.v (.int d)]))):MW3 c RVal (.int a) (.int b) (.int d) (fun x y z=>call (.type "range") [x,y,z]) Q σ:=fun ρ δ news m s x y z R ⟨t,ex⟩ ⟨u,ey⟩ ⟨v,ez⟩=>by
 subst ex ey ez
 refine call_range_3 hd ?_ (.inl (PyProof.noPylong_small hs))
 have X:Ext ρ δ σ.hp (setA ρ n s.heap.objs.size) (setA δ n 0) (σ.put n (.rawX "range" [.v (.int a),.v (.int b),.v (.int d)])).hp:=ext_new hn
 refine ⟨.ref n,σ.put n (.rawX "range" [.v (.int a),.v (.int b),.v (.int d)]),_,_,_,m,X,R.push1 hn (fun _ _=>rfl) rfl fun δ'=>⟨[_,_,_],by rw [setA_self];exact .head _,.cons ⟨_,rfl⟩ (.cons ⟨_,rfl⟩ (.cons ⟨_,rfl⟩ .nil))⟩,⟨?_,put_self⟩,h⟩
 rw [setA_self]
theorem rawX_at {n:Nm} {T:String} {fs:List FV} {ρ δ:Nm → Addr} {news:List (Addr × Obj)} {m:Str → Option Value} {s:Shared} (R:Rel c σ ρ δ news m s) (e:σ.hp n = some (.rawX T fs)):∃ xs,(ρ n,({ cls:=.type T,data:=.fields (List.toArray xs) }:Obj)) ∈ news ∧ FVals ρ σ.hp fs xs:=R.own n _ e
theorem it_range (n:Nm) {r:Nm} {a b d:Int} {Q:V → St → Prop} (e:σ.hp r = some (.rawX "range" [.v (.int a),.v (.int b),.v (.int d)])) (hsm:Builtin.Range.small a b d = true) (hn:σ.hp n = none) (h:Q (.ref n) (σ.put n (.rawX "range_iterator" [.ri a,.ri (Builtin.Range.rangeSize a b d),.ri d]))):MW1 c RVal (.ref r) pyIter Q σ:=fun ρ δ news m s x R V=>by
 obtain ⟨xs,hm,F⟩:=rawX_at R e
 cases F with
 | cons f1 F=>cases F with
  | cons f2 F=>cases F with
   | cons f3 F=>
    cases F
    obtain ⟨t,rfl⟩:=f1
    obtain ⟨u,rfl⟩:=f2
    obtain ⟨v,rfl⟩:=f3
    rw [V.1]
    refine wpAny_pyIter_range (a:=a) (b:=b) (c:=d) (R.nw _ hm).1 hsm ?_
    have X:Ext ρ δ σ.hp (setA ρ n s.heap.objs.size) (setA δ n 0) (σ.put n (.rawX "range_iterator" [.ri a,.ri (Builtin.Range.rangeSize a b d),.ri d])).hp:=ext_new hn
    refine ⟨.ref n,σ.put n (.rawX "range_iterator" [.ri a,.ri (Builtin.Range.rangeSize a b d),.ri d]),_,_,_,m,X,R.push1 (tk:=s.toks) hn (fun _ _=>rfl) rfl fun δ'=>⟨[_,_,_],by rw [setA_self];exact .head _,.cons rfl (.cons rfl (.cons rfl .nil))⟩,⟨?_,put_self⟩,h⟩
    rw [setA_self]
theorem nx_range {n:Nm} {x left step:Int} {Q:Option V → St → Prop} (e:σ.hp n = some (.rawX "range_iterator" [.ri x,.ri left,.ri step])) (hl:0 < left) (h:Q (some (.int x)) (σ.put n (.rawX "range_iterator" [.ri (x + step),.ri (left - 1),.ri step]))):mNext c n Q σ:=fun ρ δ news m s y R V=>by
 obtain ⟨xs,hm,F⟩:=rawX_at R e
 cases F with
 | cons f1 F=>cases F with
  | cons f2 F=>cases F with
   | cons f3 F=>
    cases F;cases f1;cases f2;cases f3
    rw [V.1]
    refine wpAny_pyNext_range_item (x:=x) (left:=left) (step:=step) (R.nw _ hm).1 hl fun h' ho hs=>?_
    obtain ⟨news',R'⟩:=R.turn (tk:=s.toks + 1) e rfl rfl hm (o':=.rawX "range_iterator" [.ri (x + step),.ri (left - 1),.ri step]) hs ho fun news' hm=>⟨[_,_,_],hm,.cons rfl (.cons rfl (.cons rfl .nil))⟩
    exact ⟨some (.int x),_,ρ,δ,news',m,ext_set,R',⟨_,rfl⟩,h⟩
theorem nx_rangeE {n:Nm} {x left step:Int} {Q:Option V → St → Prop} (ok:c.Ok) (e:σ.hp n = some (.rawX "range_iterator" [.ri x,.ri left,.ri step])) (hl:left ≤ 0) (h:Q none (σ.put n .dead)):mNext c n Q σ:=fun ρ δ news m s y R V=>by
 obtain ⟨xs,hm,F⟩:=rawX_at R e
 cases F with
 | cons f1 F=>cases F with
  | cons f2 F=>cases F with
   | cons f3 F=>
    cases F;cases f1;cases f2;cases f3
    rw [V.1]
    exact wpAny_pyNext_range_end (x:=x) (left:=left) (step:=step) ok.hh (R.nw _ hm).1 hl fun h' hs=>⟨none,_,ρ,δ,_,m,ext_set,R.kill (tk:=s.toks) e rfl hs,trivial,h⟩
noncomputable def Turn (I:Nat → St → Prop) (k:Nat) (Q:Fl → St → Prop) (f:Fl) (σ:St):Prop:=match f with
 | .next=>∃ k',k' < k ∧ I k' σ
 | .cont=>∃ k',k' < k ∧ I k' σ
 | .brk=>Q .next σ
 | .ret v=>Q (.ret v) σ
noncomputable abbrev mAs (c:Cx) (t:Expr) (v:V) (Q:St → Prop) (σ:St):Prop:=MW1 c RUnit v (fun x=>assign t c.env x) (fun _=>Q) σ
theorem as_name {x:Str} {p:Pos} {v:V} {Q:St → Prop} (ok:c.Ok) (h:Q (σ.var x v)) (hk:autoParam (c.env.kindOf x = some .local) aR):mAs c (.Name x p) v Q σ:=fun ρ δ news m s val R V=>
 wpAny_assign_Name (m_store (Q:=fun _=>Q) ok h hk ρ δ news m s val R V)
noncomputable abbrev kWh (c:Cx) (body:List Stmt) (I:Nat → St → Prop) (k:Nat) (Q:Fl → St → Prop) (b:Bool) (σ:St):Prop:=if b then mB c body (Turn I k Q) σ else Q .next σ
noncomputable abbrev kIt (n:Nm) (I:Nat → St → Prop) (u:V) (σ:St):Prop:=u = .ref n ∧ ∃ k,I k σ
theorem mS_while {test:Expr} {body:List Stmt} {pos:Pos} {Q:Fl → St → Prop} (I:Nat → St → Prop) (k:Nat) (h0:I k σ)
  (h:let J:=I;∀ k σ,I k σ → mT c test (kWh c body J k Q) σ):mS c (.While test body [] pos) Q σ:=fun ρ δ news m s R=>by
 refine wpAny_While ?_
 refine codeAny_whileLoop (fun k s'=>Reach c σ.hp ρ δ (I k) s') (fun k s' pp=>pp.el fun σ' ρ' δ' news' m' X R' i=>?_) k ⟨σ,ρ,δ,news,m,Ext.refl _ _ _,R,h0⟩
 refine wpAny_mono (h k σ' i ρ' δ' news' m' s' R') (fun b s₁ pp=>pp.el fun b' σ₁ ρ₁ δ₁ news₁ m₁ X₁ R₁ e q=>?_) fun _ _ x=>x.elim
 cases e
 cases b
 ·exact wpAny_execs_nil ⟨.next,σ₁,ρ₁,δ₁,news₁,m₁,X.trans X₁,R₁,trivial,q⟩
 ·refine wpAny_mono (q ρ₁ δ₁ news₁ m₁ s₁ R₁) (fun f s₂ pp=>pp.el fun f' σ₂ ρ₂ δ₂ news₂ m₂ X₂ R₂ V q₂=>?_) fun _ _ x=>x.elim
  have X':=(X.trans X₁).trans X₂
  cases f <;> cases f' <;> first | exact V.elim | skip
  ·obtain ⟨k',lt,i'⟩:=q₂;exact ⟨k',lt,σ₂,ρ₂,δ₂,news₂,m₂,X',R₂,i'⟩
  ·exact ⟨.next,σ₂,ρ₂,δ₂,news₂,m₂,X',R₂,trivial,q₂⟩
  ·obtain ⟨k',lt,i'⟩:=q₂;exact ⟨k',lt,σ₂,ρ₂,δ₂,news₂,m₂,X',R₂,i'⟩
  ·exact ⟨.ret _,σ₂,ρ₂,δ₂,news₂,m₂,X',R₂,V,q₂⟩
theorem mS_for {target iter:Expr} {body:List Stmt} {pos:Pos} {Q:Fl → St → Prop} (n:Nm) (I:Nat → St → Prop)
  (h0:mE c iter (kW1 c RVal pyIter (kIt n I)) σ) (hI:∀ k σ,I k σ → σ.hp n ≠ none)
  (h:let J:=I;∀ k σ,I k σ → mNext c n (fun r σ₁=>match r with | none=>Q .next σ₁ | some v=>mAs c target v (fun σ₂=>mB c body (Turn J k Q) σ₂) σ₁) σ)
  (hs:autoParam (∀ x,foldedSetIterable iter c.env x = pure x) aI) (ht:autoParam (∀ a v,letOwnedTupleGo target (.ref a) v = pure ()) aJ):mS c (.For target iter body [] pos) Q σ:=fun ρ δ news m s R=>by
 refine wpAny_For (nest h0 R fun x s₁ b σ₁ ρ₁ δ₁ news₁ m₁ X R₁ V q=>nestP (q ρ₁ δ₁ news₁ m₁ s₁ x R₁ V) fun it s₂ b₂ σ₂ ρ₂ δ₂ news₂ m₂ X₂ R₂ V₂ q₂=>?_) hs
 obtain ⟨rfl,k,i⟩:=q₂
 rw [V₂.1]
 refine codeAny_forLoop (fun k s'=>Reach c σ₂.hp ρ₂ δ₂ (I k) s') (fun k s' pp=>pp.el fun σ' ρ' δ' news' m' X' R' i=>?_) k ⟨σ₂,ρ₂,δ₂,news₂,m₂,Ext.refl _ _ _,R₂,i⟩ (ht _)
 have hp:ρ₂ n = ρ' n:=((X' n V₂.2).2.1).symm
 refine wpAny_mono (h k σ' i ρ' δ' news' m' s' (.ref (ρ₂ n)) R' ⟨by rw [hp],hI _ _ i⟩) (fun r s₃ pp=>pp.el fun b' σ₃ ρ₃ δ₃ news₃ m₃ X₃ R₃ e q=>?_) fun _ _ x=>x.elim
 have X03:=(X.trans X₂).trans (X'.trans X₃)
 cases r with
 | none=>
  cases b' with
  | some v=>exact e.elim
  | none=>exact wpAny_execs_nil ⟨.next,σ₃,ρ₃,δ₃,news₃,m₃,X03,R₃,trivial,q⟩
 | some y=>
  cases b' with
  | none=>exact e.elim
  | some v=>
   refine wpAny_mono (q ρ₃ δ₃ news₃ m₃ s₃ y R₃ e) (fun _ s₄ pp=>pp.el fun _ σ₄ ρ₄ δ₄ news₄ m₄ X₄ R₄ _ q=>?_) fun _ _ x=>x.elim
   refine wpAny_mono (q ρ₄ δ₄ news₄ m₄ s₄ R₄) (fun f s₅ pp=>pp.el fun f' σ₅ ρ₅ δ₅ news₅ m₅ X₅ R₅ V q₂=>?_) fun _ _ x=>x.elim
   have X05:=(X03.trans X₄).trans X₅
   have X25:=((X'.trans X₃).trans X₄).trans X₅
   cases f <;> cases f' <;> first | exact V.elim | skip
   ·obtain ⟨k',lt,i'⟩:=q₂;exact ⟨k',lt,σ₅,ρ₅,δ₅,news₅,m₅,X25,R₅,i'⟩
   ·exact ⟨.next,σ₅,ρ₅,δ₅,news₅,m₅,X05,R₅,trivial,q₂⟩
   ·obtain ⟨k',lt,i'⟩:=q₂;exact ⟨k',lt,σ₅,ρ₅,δ₅,news₅,m₅,X25,R₅,i'⟩
   ·exact ⟨.ret _,σ₅,ρ₅,δ₅,news₅,m₅,X05,R₅,V,q₂⟩
end
section
variable {c:Cx} {σ:St}
theorem mE_slice {o i j:Expr} {p pos:Pos} {Q:V → St → Prop}
  (h:mE c o (fun v σ₁=>mE c i (fun a σ₂=>mE c j (fun b σ₃=>∃ x k l,v = .str x ∧ a = .int k ∧ b = .int l ∧ x.length ≤ 1000000 ∧ Q (.str (Txt.slice x (some k) (some l))) σ₃) σ₂) σ₁) σ)
  (hs:autoParam (∀ x t r,subscripted (.Slice (some i) (some j) none p) false (.str x t) (.ref r) = operate [.ref r,.str x t] (getItem (.str x t) (.ref r))) aK)
  (ht:autoParam (∀ x t r,letTemporaryGo o (.str x t) r = pure ()) aK):mE c (.Subscript o (.Slice (some i) (some j) none p) pos) Q σ:=fun ρ δ news m s R=>by
 refine Subscript_ (nest h R fun a s₁ b σ₁ ρ₁ δ₁ news₁ m₁ X R₁ V q=>wpAny_Slice (evalPart_some_step (nest q R₁ fun a₂ s₂ b₂ σ₂ ρ₂ δ₂ news₂ m₂ X₂ R₂ V₂ q₂=>evalPart_some_step (nest q₂ R₂ fun a₃ s₃ b₃ σ₃ ρ₃ δ₃ news₃ m₃ X₃ R₃ V₃ q₃=>evalPart_none_step ?_))))
 obtain ⟨x,k,l,rfl,rfl,rfl,hz,hQ⟩:=q₃
 obtain ⟨t,rfl⟩:=V
 obtain ⟨u,rfl⟩:=V₂
 obtain ⟨w,rfl⟩:=V₃
 refine slice_strN_ss R₃.fr R₃.nw (fun h' t' tk F N=>?_) (hs _ _ _) (ht _ _) (by rw [sizeLine_eq];omega)
 exact ⟨.str (Txt.slice x (some k) (some l)),σ₃,ρ₃,δ₃,news₃,m₃,(X.trans X₂).trans X₃,⟨F,N,R₃.nd,R₃.own,R₃.dj,R₃.vars,R₃.cel,R₃.ext⟩,⟨_,rfl⟩,hQ⟩
theorem strs_of {ρ:Nm → Addr} {h:H}:∀ {ys:List Str} {vs:List Value},Vals ρ h (ys.map V.str) vs → StrsAre vs ys
 | [],vs,q=>by cases q;exact .nil
 | y :: ys,vs,q=>by
  cases q with
  | cons a b=>obtain ⟨t,rfl⟩:=a;exact .cons _ _ (strs_of b)
theorem c_inT {n:Nm} {ys:List Str} {x:Str} {Q:V → St → Prop} (e:σ.hp n = some (.tup (ys.map V.str))) (h:Q (.bool (ys.any fun y=>y == x)) σ):MW2 c RVal (.str x) (.ref n) (compareOp .In) Q σ:=fun ρ δ news m s a b R ⟨t,ea⟩ V=>by
 obtain ⟨vs,kk,hm,hv,d⟩:=tup_at R e
 subst ea
 rw [V.1]
 exact in_tuple_strs d (by simpa using strs_of hv) (Post.now (RV:=RVal) (b:=.bool _) R rfl h)
theorem s_tup {o i:Expr} {n:Nm} {xs:List V} {k:Int} {j:Nat} {v:V} {Q:V → St → Prop} (e:σ.hp n = some (.tup xs)) (hk:seqIndex? k xs.length = some j) (hv:xs[j]? = some v) (h:Q v σ) (h1:autoParam (-9223372036854775808 ≤ k) aD) (h2:autoParam (k < 9223372036854775808) aD)
  (hs:autoParam (∀ x t,subscripted i false (.ref x) (.int k t) = operate [.ref x,.int k t] (getItem (.ref x) (.int k t))) aK) :
  MW2 c RVal (.ref n) (.int k) (subscriptTail o i) Q σ:=fun ρ δ news m s x y R V ⟨t,ey⟩=>by
 obtain ⟨vs,kk,a,b,d⟩:=tup_at R e
 rw [V.1];subst ey
 obtain ⟨x',hx',hV⟩:=b.get hv
 exact item_tupleT d h1 h2 (by rw [b.length];exact hk) hx' (Post.now (RV:=RVal) R hV h) (hs _ _)
theorem s_listN {o i:Expr} {n:Nm} {xs:List V} {k:Int} {v:V} {Q:V → St → Prop} (e:σ.hp n = some (.list xs)) (h0:k < 0) (h1 : -(xs.length:Int) ≤ k) (hv:xs[(k + xs.length).toNat]? = some v) (h:Q v σ) (hz:xs.length ≤ 1000000)
  (hs:autoParam (∀ x t,subscripted i false (.ref x) (.int k t) = operate [.ref x,.int k t] (getItem (.ref x) (.int k t))) aK) :
  MW2 c RVal (.ref n) (.int k) (subscriptTail o i) Q σ:=fun ρ δ news m s x y R V ⟨t,ey⟩=>by
 obtain ⟨vs,kk,a,b,d⟩:=seq_at R e
 rw [V.1];subst ey
 obtain ⟨x',hx',hV⟩:=b.get hv
 refine tail_any (ops:=[.ref (ρ n),.int k t]) (T := "list") (id := "list.__getitem__") d.typeIs slot_list_getitem.lookup ?_ (hs _ _)
 refine wpAny_getItem_list_neg d h0 (by rw [List.size_toArray,b.length];exact h1) (by omega) (x:=x') (by rw [List.size_toArray,b.length];simpa using hx') ?_
 exact Post.now (RV:=RVal) R hV h
theorem b_cats {a b:Nm} (n:Nm) {xs ys:List V} {Q:V → St → Prop} (ea:σ.hp a = some (.list xs)) (eb:σ.hp b = some (.list ys)) (hn:σ.hp n = none) (h:Q (.ref n) (σ.put n (.list (xs ++ ys)))) (hz:xs.length + ys.length ≤ 1000000):MW2 c RVal (.ref a) (.ref b) (binaryOp .Add) Q σ:=fun ρ δ news m s x y R V U=>by
 obtain ⟨vs,kk,ha,va,da⟩:=seq_at R ea
 obtain ⟨us,ll,hb,vb,db⟩:=seq_at R eb
 rw [V.1,U.1]
 have e:vs.toArray ++ us.toArray = (vs ++ us).toArray:=by simp
 have X:Ext ρ δ σ.hp (setA ρ n s.heap.objs.size) (setA δ n 0) (σ.put n (.list (xs ++ ys))).hp:=ext_new hn
 refine concat_meets ⟨_,(R.nw _ ha).1,rfl⟩ ⟨_,(R.nw _ hb).1,rfl⟩ noFill_list_add seq_list_add PySem.F.slot_list_add PySem.F.entry_list_add (PySem.F.args_list_add_2 _ _) (list_addW (ρ a) (ρ b) vs.toArray us.toArray kk ll none none #[] #[] (by rw [sizeLine_eq];simp only [List.size_toArray,va.length,vb.length];omega)) ⟨(R.nw _ ha).1,(R.nw _ hb).1,?_⟩
 rw [e]
 refine ⟨.ref n,σ.put n (.list (xs ++ ys)),_,_,_,m,X,R.push1 (tk:=s.toks) hn (fun _ _=>rfl) rfl fun δ'=>⟨vs ++ us,0,by rw [setA_self];exact .head _,(va.append vb).ext X⟩,⟨?_,put_self⟩,h⟩
 rw [setA_self]
theorem b_catT {a b:Nm} (n:Nm) {xs ys:List V} {Q:V → St → Prop} (ea:σ.hp a = some (.tup xs)) (eb:σ.hp b = some (.tup ys)) (hn:σ.hp n = none) (h:Q (.ref n) (σ.put n (.tup (xs ++ ys)))) (hx:xs ≠ []) (hy:ys ≠ []) (hz:xs.length + ys.length ≤ 16384):MW2 c RVal (.ref a) (.ref b) (binaryOp .Add) Q σ:=fun ρ δ news m s x y R V U=>by
 obtain ⟨vs,kk,ha,va,da⟩:=tup_at R ea
 obtain ⟨us,ll,hb,vb,db⟩:=tup_at R eb
 rw [V.1,U.1]
 have X:∀ D,Ext ρ δ σ.hp (setA ρ n D) (setA δ n 0) (σ.put n (.tup (xs ++ ys))).hp:=fun D=>ext_new hn
 refine kde_addT R.fr R.nw da db (fun e=>hx ?_) (fun e=>hy ?_) (by simp only [va.length,vb.length];omega) (zs:=vs ++ us) (by simp) fun D h' F' N' lo=>?_
 ·have:=va.length;rw [show vs = [] by simpa using e] at this;exact List.length_eq_zero_iff.mp this.symm
 ·have:=vb.length;rw [show us = [] by simpa using e] at this;exact List.length_eq_zero_iff.mp this.symm
 refine ⟨.ref n,σ.put n (.tup (xs ++ ys)),_,_,_,m,X D,R.new (s':={ s with heap:=h' }) (more:=[(D,_)]) hn F' N' ?_ (fun p hp q hq=>?_) (fun x hx=>?_) ⟨vs ++ us,0,by rw [setA_self];exact .head _,(va.append vb).ext (X D)⟩,⟨by rw [setA_self],put_self⟩,h⟩
 ·exact List.nodup_cons.mpr ⟨fun e=>(nomatch e),List.nodup_nil⟩
 ·rw [List.mem_singleton.mp hp];exact lo q hq
 ·rw [List.mem_singleton.mp hx,setA_self];exact ⟨_,.head _⟩
theorem l_set {n:Nm} {xs:List V} {k:Int} {v:V} {Q:Unit → St → Prop} (e:σ.hp n = some (.list xs)) (h0:0 ≤ k) (h1:k.toNat < xs.length) (h:Q () (σ.put n (.list (xs.set k.toNat v)))) (hz:xs.length ≤ 1000000):MW3 c RUnit (.ref n) (.int k) v (fun x y z=>setItem x y z) Q σ:=fun ρ δ news m s x y z R V ⟨t,ey⟩ U=>by
 obtain ⟨vs,kk,a,b,d⟩:=seq_at R e
 subst ey
 rw [V.1]
 have N:=R.nw _ a
 have hsz:k.toNat < vs.length:=by rw [b.length];exact h1
 refine ki_setAt N.1 h0 (by exact tn1 h1 hz) (by rw [List.size_toArray];omega) ?_
 have q:=PySem.IsL.update N.1 (·.setIfInBounds k.toNat z)
 rw [if_pos (by simp)] at q
 obtain ⟨news',R'⟩:=R.turn (tk:=s.toks) e rfl rfl a (o':=.list (xs.set k.toNat v)) (Heap.SameBut.update ..) q fun news' hm=>⟨vs.set k.toNat z,kk,by rw [show (vs.set k.toNat z).toArray = vs.toArray.setIfInBounds k.toNat z by simp];exact hm,(b.set U k.toNat).ext (ext_set (δ:=δ))⟩
 exact ⟨(),_,ρ,δ,news',m,ext_set,R',trivial,h⟩
theorem meth_extend {n:Nm} {xs:List V} {pl:Sem Bool} (e:σ.hp n = some (.list xs)):MethAt c (.ref n) "extend" pl "list.extend" σ:=fun ρ δ news m s x Q E R V q=>by
 obtain ⟨vs,k,a,b,d⟩:=seq_at R e
 rw [V.1] at q ⊢
 exact getMethod_list_of PySem.F.slot_list_extend PySem.F.type_list_extend d ⟨_,(R.nw _ a).1,rfl⟩ q
theorem l_extend {n b:Nm} {xs ys:List V} {Q:V → St → Prop} (e:σ.hp n = some (.list xs)) (eb:σ.hp b = some (.list ys)) (h:Q .none (σ.put n (.list (xs ++ ys)))) (hz:xs.length + ys.length ≤ 1000000):MW2 c RVal (.ref n) (.ref b) (fun x y=>call (.builtin "list.extend") [x,y]) Q σ:=fun ρ δ news m s x y R V U=>by
 obtain ⟨vs,k,a,w,d⟩:=seq_at R e
 obtain ⟨us,k',a',w',d'⟩:=seq_at R eb
 rw [V.1,U.1]
 have N:=R.nw _ a
 have N':=R.nw _ a'
 have hd:¬(!vs.toArray.isEmpty && Builtin.List.listTooLong (vs.toArray.size + us.toArray.size)) = true:=by
  have:Builtin.List.listTooLong (vs.toArray.size + us.toArray.size) = false:=by
   unfold Builtin.List.listTooLong
   simp only [List.size_toArray,w.length,w'.length,sizeLine_eq,decide_eq_false_iff_not];exact fun q=>cf2 q hz
  rw [this,Bool.and_false];exact Bool.false_ne_true
 refine call_meets PySem.F.slot_list_extend ⟨_,N.1,rfl⟩ PySem.F.entry_list_extend (PySem.F.args_list_extend_2 _ _) (PySem.AutoSeq1.list_extend_list_list_0 (ρ n) vs.toArray k (ρ b) us.toArray k' hd (by simp only [List.size_toArray,w.length,sizeLine_eq];exact cb1 hz) (by simp only [List.size_toArray,w.length,w'.length,sizeLine_eq];omega)) ⟨N.1,N'.1,?_⟩
 have q:=PySem.IsL.update N.1 (· ++ us.toArray)
 obtain ⟨news',R'⟩:=R.turn (tk:=s.toks) e rfl rfl a (o':=.list (xs ++ ys)) (Heap.SameBut.update ..) q fun news' hm=>⟨vs ++ us,_,by rw [show (vs ++ us).toArray = vs.toArray ++ us.toArray by simp];exact hm,(w.append w').ext (ext_set (δ:=δ))⟩
 exact ⟨.none,_,ρ,δ,news',m,ext_set,R',rfl,h⟩
theorem dict_at {n:Nm} {fs:List (Str × V)} {ρ δ:Nm → Addr} {news:List (Addr × Obj)} {m:Str → Option Value} {s:Shared} (R:Rel c σ ρ δ news m s) (e:σ.hp n = some (.dict fs)):(ρ n == sysModules) = false ∧ ∃ o kvs,(ρ n,o) ∈ news ∧ o.IsDictOf (PySem.strKind c.prog c.w) kvs ∧ KVs ρ σ.hp fs kvs:=R.own n _ e
theorem strKind_is (prog:Program) (w:World) (x:Str) (t:Tok):(PySem.strKind prog w).is x (.str x t) = true:=by
 show Value.isStrOf x (.str x t) = true
 simp [Value.isStrOf]
theorem d_new (n:Nm) {pos:Pos} {Q:V → St → Prop} (ok:c.Ok) (hn:σ.hp n = none) (h:Q (.ref n) (σ.put n (.dict []))):mE c (.Dict [] [] pos) Q σ:=fun ρ δ news m s R=>by
 refine newDict_K R.fr R.nw ok.T.nolimit fun d h' o F' N' lo low hd _ _ _=>?_
 have X:Ext ρ δ σ.hp (setA ρ n d) (setA δ n 0) (σ.put n (.dict [])).hp:=ext_new hn
 refine ⟨.ref n,σ.put n (.dict []),_,_,_,m,X,R.new (s':={ s with heap:=h' }) (more:=[(d,o)]) hn F' N' ?_ (fun p hp q hq=>?_) (fun x hx=>?_) ⟨by rw [setA_self];exact low,o,[],by rw [setA_self];exact .head _,hd,.nil⟩,⟨by rw [setA_self],put_self⟩,h⟩
 ·exact List.nodup_cons.mpr ⟨fun e=>(nomatch e),List.nodup_nil⟩
 ·rw [List.mem_singleton.mp hp];exact lo q hq
 ·rw [List.mem_singleton.mp hx,setA_self];exact ⟨_,.head _⟩
theorem c_inD {n:Nm} {fs:List (Str × V)} {x:Str} {Q:V → St → Prop} (e:σ.hp n = some (.dict fs)) (h:Q (.bool (getF x fs).isSome) σ):MW2 c RVal (.str x) (.ref n) (compareOp .In) Q σ:=fun ρ δ news m s a b R ⟨t,ea⟩ V=>by
 obtain ⟨low,o,kvs,hm,hd,hk⟩:=dict_at R e
 subst ea
 rw [V.1]
 refine kda_in R.nw hm hd low (strKind_is _ _ x t) (getF x fs).isSome ?_ (Post.now (RV:=RVal) (b:=.bool _) (R.same rfl) rfl h)
 have:=hk.at x
 cases q:getF x fs with
 | some v=>rw [q] at this;obtain ⟨val,hv,_⟩:=this;rw [hv];rfl
 | none=>rw [q] at this;rw [this];rfl
theorem updF_of:∀ {l:List (Addr × Obj)},(l.map (·.1)).Nodup → ∀ {d:Addr} {o:Obj},(d,o) ∈ l → ∃ g:Obj → List (Addr × Obj),UpdF d o l g ∧ ∀ o',(d,o') ∈ g o' ∧ (∀ p ∈ l,p.1 ≠ d → p ∈ g o') ∧ (g o').map (·.1) = l.map (·.1)
 | [],_,_,_,h=>nomatch h
 | p :: r,hn,d,o,h=>by
  rw [List.map_cons,List.nodup_cons] at hn
  rcases List.mem_cons.mp h with e | h
  ·subst e
   refine ⟨fun o'=>(d,o') :: r,.head fun q hq e=>hn.1 (List.mem_map.mpr ⟨_,hq,e⟩),fun o'=>⟨.head _,fun q hq ne=>?_,rfl⟩⟩
   rcases List.mem_cons.mp hq with rfl | hq
   ·exact absurd rfl ne
   ·exact .tail _ hq
  ·obtain ⟨g,U,k⟩:=updF_of hn.2 h
   have ne:p.1 ≠ d:=fun e=>hn.1 (by rw [e];exact List.mem_map.mpr ⟨_,h,rfl⟩)
   refine ⟨fun o'=>p :: g o',.tail ne U,fun o'=>?_⟩
   obtain ⟨m,k,e⟩:=k o'
   refine ⟨.tail _ m,fun q hq neq=>?_,by rw [List.map_cons,List.map_cons,e]⟩
   rcases List.mem_cons.mp hq with rfl | hq
   ·exact .head _
   ·exact .tail _ (k q hq neq)
theorem KVs.stored {ρ:Nm → Addr} {h:H} {fs:List (Str × V)} {es:List (Str × Value)} (q:KVs ρ h fs es) {x:Str} {v:V} {val:Value} (hx:getF x fs = none) (a:Val ρ h v val):KVs ρ h (fs ++ [(x,v)]) (PySem.stored es x val):=by
 unfold PySem.stored
 have:=q.any x
 rw [hx] at this
 rw [show (es.any fun kv=>decide (kv.1 = x)) = false from this]
 exact q.snoc a
theorem d_set {n:Nm} {fs:List (Str × V)} {x:Str} {v:V} {Q:Unit → St → Prop} (e:σ.hp n = some (.dict fs)) (hx:getF x fs = none) (h:Q () (σ.put n (.dict (fs ++ [(x,v)])))) (hz:fs.length ≤ 1000000):MW3 c RUnit (.ref n) (.str x) v (fun a b y=>setItem a b y) Q σ:=fun ρ δ news m s a b y R V ⟨t,eb⟩ U=>by
 obtain ⟨low,ob,kvs,hm,hd,hk⟩:=dict_at R e
 subst eb
 rw [V.1]
 obtain ⟨g,UF,hg⟩:=updF_of R.nd hm
 refine kda_set R.fr R.nw UF hd (strKind_is _ _ x t) (by rw [hk.length,sizeLine_eq];omega) fun h' o' F' N' hd'=>?_
 obtain ⟨h1,h2,h3⟩:=hg o'
 exact ⟨(),_,ρ,δ,_,m,ext_set,R.upd (s':={ s with heap:=h',toks:=s.toks + 1 }) (o':=.dict (fs ++ [(x,v)])) e (.head _) hm h2 h3 F' N' rfl ⟨low,o',_,h1,hd',(hk.stored hx U).ext (ext_set (δ:=δ))⟩,trivial,h⟩
theorem k_new (n:Nm) {pos:Pos} {Q:V → St → Prop} (ok:c.Ok) (hn:σ.hp n = none) (h:Q (.ref n) (σ.put n (.known []))):mE c (.Dict [] [] pos) Q σ:=fun ρ δ news m s R=>by
 refine newDict_K R.fr R.nw ok.T.nolimit fun d h' o F' N' lo low hd _ _ _=>?_
 have X:Ext ρ δ σ.hp (setA ρ n d) (setA δ n 0) (σ.put n (.known [])).hp:=ext_new hn
 obtain ⟨es,ep,e1,e2,e3,e4,e5⟩:=hd
 refine ⟨.ref n,σ.put n (.known []),_,_,_,m,X,R.new (s':={ s with heap:=h' }) (more:=[(d,o)]) hn F' N' ?_ (fun p hp q hq=>?_) (fun x hx=>?_) ⟨o,by rw [setA_self];exact .head _,es,ep,[],e1,e2,?_,List.nodup_nil,rfl,fun k hk=>nomatch hk⟩,⟨by rw [setA_self],put_self⟩,h⟩
 ·exact List.nodup_cons.mpr ⟨fun e=>(nomatch e),List.nodup_nil⟩
 ·rw [List.mem_singleton.mp hp];exact lo q hq
 ·rw [List.mem_singleton.mp hx,setA_self];exact ⟨_,.head _⟩
 ·cases q:es.toList with
  | nil=>rfl
  | cons a b=>rw [q] at e4;cases e4
theorem tup_key {n:Nm} {a b:Str} {ρ δ:Nm → Addr} {news:List (Addr × Obj)} {m:Str → Option Value} {s:Shared} (R:Rel c σ ρ δ news m s) (e:σ.hp n = some (.tup [.str a,.str b])):(tupleKind (PySem.strKind c.prog c.w)).is s.heap [a,b] (ρ n):=by
 obtain ⟨vs,kk,hm,hv,d⟩:=tup_at R e
 cases hv with
 | cons h1 h2=>cases h2 with
  | cons h3 h4=>
   cases h4
   obtain ⟨t,rfl⟩:=h1
   obtain ⟨u,rfl⟩:=h3
   exact ⟨_,_,_,(R.nw _ hm).1,rfl,rfl,.cons (strKind_is _ _ a t) (.cons (strKind_is _ _ b u) .nil)⟩
theorem k_set {d n:Nm} {ks:List (Nm × Str × Str)} {a b:Str} {v:V} {Q:Unit → St → Prop} (e:σ.hp d = some (.known ks)) (en:σ.hp n = some (.tup [.str a,.str b])) (hks:∀ k ∈ ks,σ.hp k.1 = some (.tup [.str k.2.1,.str k.2.2])) (room:c.A.units + 1 < cLine) (hz:ks.length ≤ 1000000)
  (h:∀ ks',(∀ k ∈ ks',k ∈ ks ∨ k = (n,a,b)) → ks'.length ≤ ks.length + 1 → Q () (σ.put d (.known ks'))):MW3 c RUnit (.ref d) (.ref n) v (fun x y z=>setItem x y z) Q σ:=fun ρ δ news m s x y z R V W U=>by
 obtain ⟨o,hm,es,ep,xs,e1,e2,e3,e4,e5,e6⟩:=R.own d _ e
 rw [V.1,W.1]
 have hx:∀ x ∈ xs,(tupleKind (PySem.strKind c.prog c.w)).is s.heap x.1 x.2.1:=fun x hx=>by
  have:(x.1,x.2.1) ∈ xs.map (fun x=>(x.1,x.2.1)):=List.mem_map_of_mem hx
  rw [e5] at this
  obtain ⟨k,hk,ek⟩:=List.mem_map.mp this
  obtain ⟨ek1,ek2⟩:=Prod.mk.inj ek
  rw [← ek1,← ek2]
  exact tup_key R (hks k hk)
 have hlen:xs.length = ks.length:=by have:=congrArg List.length e5;simpa using this
 refine wpAny_setItem_heap (knd:=tupleKind (PySem.strKind c.prog c.w)) (k:=[a,b]) (xs:=xs) (tupleKind_room_in1 room) (tup_key R en) ⟨o,es,ep,(R.nw _ hm).1,e1,e2,e3,hx,e4⟩ (fun h' hd' hs=>?_) (by rw [hlen,sizeLine_eq];omega)
 obtain ⟨o',es',ep',ho',f1,f2,f3,f4,f5⟩:=hd'
 have key:∃ ks' : List (Nm × Str × Str),(∀ k ∈ ks',k ∈ ks ∨ k = (n,a,b)) ∧ ks'.length ≤ ks.length + 1 ∧ (storedH xs [a,b] (ρ n) z).map (fun x=>(x.1,x.2.1)) = ks'.map (fun k=>([k.2.1,k.2.2],ρ k.1)):=by
  unfold storedH
  split
  ·refine ⟨ks,fun k hk=>.inl hk,Nat.le_succ _,?_⟩
   rw [← e5,List.map_map]
   refine List.map_congr_left fun x _=>?_
   unfold putAt
   simp only [Function.comp]
   split
   ·rfl
   ·rfl
  ·refine ⟨ks ++ [(n,a,b)],fun k hk=>?_,by simp,?_⟩
   ·rcases List.mem_append.mp hk with hk | hk
    ·exact .inl hk
    ·exact .inr (List.mem_singleton.mp hk)
   ·rw [List.map_append,List.map_append,e5];rfl
 obtain ⟨ks',k1,k2,k3⟩:=key
 have dom:∀ k ∈ ks',(σ.hp.set d (.known ks')) k.1 ≠ none:=fun k hk=>set_dom (by
  rcases k1 k hk with hk | rfl
  ·exact e6 k hk
  ·exact W.2)
 obtain ⟨news',R'⟩:=R.turn (tk:=s.toks + (tupleKind (PySem.strKind c.prog c.w)).draws [a,b]) e rfl rfl hm (o':=.known ks') hs ho' fun news' hm=>⟨o',hm,es',ep',_,f1,f2,f3,f5,k3,dom⟩
 exact ⟨(),_,ρ,δ,news',m,ext_set,R',trivial,h ks' k1 k2⟩
theorem as_tup {elts:List Expr} {k:Nat} {p:Pos} {n:Nm} {vs:List V} {Q:St → Prop} (ok:c.Ok) (e:σ.hp n = some (.tup vs)) (hl:(assignEach elts c.env).length = vs.length)
  (h:MWs c RUnit vs (fun xs=>assignInOrder ((assignEach elts c.env).map (·.2)) xs) (fun _=>Q) σ) (hst:autoParam ((assignEach elts c.env).findIdx? (·.1) = none) aR):mAs c (.Tuple elts k p) (.ref n) Q σ:=fun ρ δ news m s x R V=>by
 obtain ⟨us,kk,hm,hv,d⟩:=tup_at R e
 rw [V.1]
 refine unpackN_ R.fr R.nw d ok.hh (by rw [hl,List.size_toArray,hv.length]) hst fun h' F' N'=>?_
 exact h ρ δ news m { s with heap:=h' } us ⟨F',N',R.nd,R.own,R.dj,R.vars,R.cel,R.ext⟩ (by simpa using hv)
theorem ao_nil {Q:St → Prop} {xs:List V} (h:Q σ):MWs c RUnit xs (fun ys=>assignInOrder [] ys) (fun _=>Q) σ:=fun ρ δ news m s ys R V=>assignInOrder_nil ⟨(),σ,ρ,δ,news,m,Ext.refl _ _ _,R,trivial,h⟩
theorem ao_cons {v:V} {vs:List V} {t:Value → Sem Unit} {ts:List (Value → Sem Unit)} {Q:St → Prop} (h:MW1 c RUnit v t (fun _ σ₁=>MWs c RUnit vs (fun ys=>assignInOrder ts ys) (fun _=>Q) σ₁) σ):MWs c RUnit (v :: vs) (fun ys=>assignInOrder (t :: ts) ys) (fun _=>Q) σ:=fun ρ δ news m s ys R V=>by
 cases V with
 | cons a b=>exact assignInOrder_cons (nestP (h ρ δ news m s _ R a) fun _ s₁ _ σ₁ ρ₁ δ₁ news₁ m₁ X R₁ _ q=>doneP (q ρ₁ δ₁ news₁ m₁ s₁ _ R₁ (b.ext X)) X)
theorem mS_augSub {o i e:Expr} {tpos pos:Pos} {op:Operator} {Q:Fl → St → Prop}
  (h:mE c o (fun u σ₁=>mE c i (fun j σ₂=>MW2 c RVal u j (fun x y=>getItem x y) (fun old σ₃=>mE c e (fun v σ₄=>MW2 c RVal old v (inplaceOp op) (fun r σ₅=>MW3 c RUnit u j r (fun x y z=>setItem x y z) (fun _=>Q .next) σ₅) σ₄) σ₃) σ₂) σ₁) σ)
  (ha:autoParam (∀ (ov iv new:Value),augStore i ov iv new = (do holding [new,ov,iv] (setItem ov iv new);release [new,ov,iv] [];pure Flow.next)) aJ) :
  mS c (.AugAssign (.Subscript o i tpos) op e pos) Q σ:=fun ρ δ news m s R=>
 wpAny_AugAssign_SubscriptAny (nest h R fun a s₁ b σ₁ ρ₁ δ₁ news₁ m₁ X R₁ V q=>nest q R₁ fun a₂ s₂ b₂ σ₂ ρ₂ δ₂ news₂ m₂ X₂ R₂ V₂ q₂=>nestP (q₂ ρ₂ δ₂ news₂ m₂ s₂ a a₂ R₂ (V.ext X₂) V₂) fun a₃ s₃ b₃ σ₃ ρ₃ δ₃ news₃ m₃ X₃ R₃ V₃ q₃=>nest q₃ R₃ fun a₄ s₄ b₄ σ₄ ρ₄ δ₄ news₄ m₄ X₄ R₄ V₄ q₄=>
  nestP (q₄ ρ₄ δ₄ news₄ m₄ s₄ a₃ a₄ R₄ (V₃.ext X₄) V₄) fun a₅ s₅ b₅ σ₅ ρ₅ δ₅ news₅ m₅ X₅ R₅ V₅ q₅=>
   nestP (q₅ ρ₅ δ₅ news₅ m₅ s₅ a a₂ a₅ R₅ (V.ext (((X₂.trans X₃).trans X₄).trans X₅)) (V₂.ext ((X₃.trans X₄).trans X₅)) V₅) fun a₆ s₆ b₆ σ₆ ρ₆ δ₆ news₆ m₆ X₆ R₆ V₆ q₆=>
    ⟨.next,σ₆,ρ₆,δ₆,news₆,m₆,((((X.trans X₂).trans X₃).trans X₄).trans X₅).trans X₆,R₆,trivial,q₆⟩) ha
theorem g_list {n:Nm} {xs:List V} {k:Int} {v:V} {Q:V → St → Prop} (e:σ.hp n = some (.list xs)) (h0:0 ≤ k) (hv:xs[k.toNat]? = some v) (h:Q v σ) (hz:xs.length ≤ 1000000):MW2 c RVal (.ref n) (.int k) (fun x y=>getItem x y) Q σ:=fun ρ δ news m s x y R V ⟨t,ey⟩=>by
 obtain ⟨vs,kk,a,b,d⟩:=seq_at R e
 rw [V.1];subst ey
 obtain ⟨x',hx',hV⟩:=b.get hv
 have hlt:k.toNat < xs.length:=by
  rcases Nat.lt_or_ge k.toNat xs.length with q | q
  ·exact q
  ·rw [List.getElem?_eq_none q] at hv;cases hv
 exact wpAny_getItem_list d h0 (by exact tn1 hlt hz) (x:=x') (by simpa using hx') (Post.now (RV:=RVal) R hV h)
end
noncomputable def Cx.comp (c:Cx) (B:Heap) (C:Addr) (scope:Scope) (cl:List (Str × Addr)):Cx:={ c with B:=B,L:=C,env:=compEnvC scope cl C c.env }
noncomputable def cvars (fr:List Str) (σ:St):Str → Option V:=fun y=>if y ∈ fr then σ.vars y else none
noncomputable def mTs (c:Cx):List Expr → (Bool → St → Prop) → St → Prop
 | [],Q,σ=>Q true σ
 | e :: _,Q,σ=>mT c e Q σ
section
variable {c:Cx} {σ:St}
theorem mTs_of {ifs:List Expr} {Q:Bool → St → Prop} (hif:ifs.length ≤ 1) (h:mTs c ifs Q σ):MW c (REq (α:=Bool)) (forIn ifs true fun e r=>if r = true then do let ok ← isTrue e c.env (eval e c.env);pure (ForInStep.yield ok) else pure (ForInStep.yield r)) Q σ:=fun ρ δ news m s R=>by
 match ifs,hif,h with
 | [],_,h=>exact wpAny_tests_nil (Post.now (RV:=REq (α:=Bool)) R rfl h)
 | [e],_,h=>exact wpAny_tests_one (h ρ δ news m s R)
open Classical in
noncomputable def ownedC (c:Cx) (fr:List Str) (σ:St) (ρ δ:Nm → Addr) (p:Addr × Obj):Bool:=decide ((∃ n o,σ.hp n = some o ∧ p.1 ∈ foot ρ δ n o) ∨ ∃ y ∈ fr,c.env.cells.lookup y = some p.1)
theorem ownedC_iff {fr:List Str} {ρ δ:Nm → Addr} {p:Addr × Obj}:ownedC c fr σ ρ δ p = true ↔ (∃ n o,σ.hp n = some o ∧ p.1 ∈ foot ρ δ n o) ∨ ∃ y ∈ fr,c.env.cells.lookup y = some p.1:=by
 unfold ownedC;simp
theorem cells_inj:∀ {l:List (Str × Addr)},(l.map (·.2)).Nodup → ∀ {x y:Str} {a:Addr},l.lookup x = some a → l.lookup y = some a → x = y
 | [],_,_,_,_,h,_=>by cases h
 | (z,b) :: r,hn,x,y,a,h1,h2=>by
  rw [List.map_cons,List.nodup_cons] at hn
  rw [List.lookup_cons] at h1 h2
  have mem:∀ {u:Str},r.lookup u = some a → a ∈ r.map (·.2):=fun h=>List.mem_map.mpr ⟨_,mem_of_lk h,rfl⟩
  cases q1:x == z with
  | true=>
   cases q2:y == z with
   | true=>rw [eq_of_beq q1,eq_of_beq q2]
   | false=>
    rw [q1] at h1;rw [q2] at h2
    cases h1
    exact absurd (mem h2) hn.1
  | false=>
   cases q2:y == z with
   | true=>
    rw [q1] at h1;rw [q2] at h2
    cases h2
    exact absurd (mem h1) hn.1
   | false=>
    rw [q1] at h1;rw [q2] at h2
    exact cells_inj hn.2 h1 h2
theorem it_selfL {n l:Nm} {i:Nat} {Q:V → St → Prop} (e:σ.hp n = some (.raw "list_iterator" [.v (.ref l),.ri i])) (h:Q (.ref n) σ):MW1 c RVal (.ref n) pyIter Q σ:=fun ρ δ news m s x R V=>by
 obtain ⟨o,y,hm,hg,hc,hd,U⟩:=raw2_at R e
 have U1:=U.1
 have V1:=V
 rw [V.1]
 exact wpAny_pyIter_listiter (l:=ρ l) (i:=i) ⟨o,hg,hc,by rw [hd,U1]⟩ (Post.now (RV:=RVal) (b:=.ref n) R ⟨rfl,V1.2⟩ h)
theorem it_selfR {n:Nm} {fs:List FV} {Q:V → St → Prop} (e:σ.hp n = some (.rawX "range_iterator" fs)) (h:Q (.ref n) σ):MW1 c RVal (.ref n) pyIter Q σ:=fun ρ δ news m s x R V=>by
 obtain ⟨xs,hm,F0⟩:=rawX_at R e
 have V1:=V
 rw [V.1]
 have hT:s.TypeIs (.ref (ρ n)) "range_iterator" := ⟨_,(R.nw _ hm).1,rfl⟩
 refine wpAny_pyIter_slot hT F.slot_range_iterator_iter (wpAny_call_entry F.slot_range_iterator_iter hT F.entry_range_iterator_iter ?_ (F.args_range_iterator_iter_1 _))
 show wpAny _ _ (ret (.ref (ρ n))) _ _ s
 exact wpAny_pure ⟨_,rfl, "range_iterator",_,hT,F.slot_range_iterator_next.lookup,Post.now (RV:=RVal) (b:=.ref n) R ⟨rfl,V1.2⟩ h⟩
theorem Rel.side {ρ δ:Nm → Addr} {news:List (Addr × Obj)} {m:Str → Option Value} {s:Shared} {C:Addr} {h' : Heap} (R:Rel c σ ρ δ news m s) (hL:C ≠ c.L) (hN:∀ p ∈ news,p.1 ≠ C) (hB:c.B.get? C = none) (hs:Heap.SameBut C s.heap h'):Rel c σ ρ δ news m { s with heap:=h' }:=by
 obtain ⟨oL,es,ep,hL',hLr⟩:=R.fr.ns
 exact ⟨⟨⟨oL,es,ep,hs.extBut _ _ (Ne.symm hL) hL',hLr⟩,fun b o e=>hs.extBut b o (by rintro rfl;rw [hB] at e;cases e) (R.fr.keep b o e),R.fr.above⟩,fun p hp=>⟨hs.extBut _ _ (hN p hp) (R.nw p hp).1,(R.nw p hp).2⟩,R.nd,R.own,R.dj,R.vars,R.cel,R.ext⟩
theorem comp_core {elt iter:Expr} {x:Str} {px pos:Pos} {ifs:List Expr} {scope:Scope} {QQ:H → Prop} {use:Option (Value → Sem Unit)} {P:Value → Shared → Prop} (n it:Nm) (cl:List (Str × Addr)) (fr:List Str) (I:Nat → H → Prop) (ok:c.Ok)
  (hclos:closureFor scope c.env = pure cl) (hif:ifs.length ≤ 1)
  (hfr:∀ y,(cl.lookup y).isSome = true → y ∈ fr) (hfc:∀ y ∈ fr,cl.lookup y = c.env.cells.lookup y ∧ c.env.kindOf y = some .cell ∧ (relabel scope c.env).names.lookup y = some .cell)
  (hcl:(cl.map (·.2)).Nodup) (hxf:x ∉ fr)
  (hcell:∀ y ∈ scope.names,y.2 ≠ .cell) (hkind:scope.kind = .function) (hnames:∀ y ∈ scope.names,y.2 = .local → scope.names.lookup y.1 = some .local) (hx:scope.names.lookup x = some .local)
  (h0:mE c iter (fun v σ₁=>MW1 c RVal v pyIter (fun u σ₂=>u = .ref it ∧ σ₂.vars = σ.vars ∧ σ₂.hp n = none ∧ ∃ k,I k (σ₂.hp.set n (.list []))) σ₁) σ)
  (hI:∀ k h,I k h → h it ≠ none ∧ h n ≠ none)
  (hself:∀ B C,(c.comp B C scope cl).Ok → ∀ k h,I k h → MW1 (c.comp B C scope cl) RVal (.ref it) pyIter (fun u σ₁=>u = .ref it ∧ σ₁ = ⟨cvars fr σ,h⟩) ⟨cvars fr σ,h⟩)
  (turn:∀ B C,(c.comp B C scope cl).Ok → ∀ k h,I k h → mNext (c.comp B C scope cl) it (fun r σ₁=>σ₁.vars = cvars fr σ ∧ match r with
   | none=>QQ σ₁.hp
   | some v=>mTs (c.comp B C scope cl) ifs (fun b σ₂=>if b then mE (c.comp B C scope cl) elt (fun w σ₃=>(∀ y ∈ fr,σ₃.vars y = σ.vars y) ∧ ∃ ys,σ₃.hp n = some (.list ys) ∧ ys.length ≤ 1000 ∧ ∃ k',k' < k ∧ I k' (σ₃.hp.set n (.list (ys ++ [w])))) σ₂
     else (∀ y ∈ fr,σ₂.vars y = σ.vars y) ∧ ∃ k',k' < k ∧ I k' σ₂.hp) ⟨fun y=>if y = x then some v else cvars fr σ y,σ₁.hp⟩) ⟨cvars fr σ,h⟩)
  (hs:∀ x,foldedSetIterable iter c.env x = pure x) {ρ₀ δ₀:Nm → Addr} {news₀:List (Addr × Obj)} {m₀:Str → Option Value} {s₀:Shared} {ipos:Pos} (R₀:Rel c σ ρ₀ δ₀ news₀ m₀ s₀)
  (hend:∀ h ρ' δ' news' m' mC s' C,Rel c ⟨σ.vars,h⟩ ρ' δ' news' m' s' → Ext ρ₀ δ₀ σ.hp ρ' δ' h → s'.heap.Ns C mC → C ≠ c.L → (∀ p ∈ news',p.1 ≠ C) → c.B.get? C = none → h n ≠ none → QQ h → compPost (model c.prog c.w) c.A (fun _ _=>False) use P (.ref (ρ' n)) C (.ok .next) s') :
  wpAny (model c.prog c.w) c.A (comprehension (.ListComp elt [⟨.Name x px,iter,ifs,0⟩] scope pos) scope c.env ipos (newList []) false (eval iter c.env) use) P (fun _ _=>False) s₀:=by
 refine wpAny_comprehension_free (use:=use) rfl hs hclos hkind hnames (nest h0 R₀ fun xv s₁ b₁ σ₁ ρ₁ δ₁ news₁ m₁ X₁ R₁ V₁ q₁=>nestP (q₁ ρ₁ δ₁ news₁ m₁ s₁ xv R₁ V₁) fun itv s₂ b₂ σ₂ ρ₂ δ₂ news₂ m₂ X₂ R₂ V₂ q₂=>?_)
 obtain ⟨rfl,hvars,hnn,k0,i0⟩:=q₂
 refine nestP (l_new n (vs:=[]) (Q:=fun v σ₃=>v = .ref n ∧ σ₃ = σ₂.put n (.list [])) hnn ⟨rfl,rfl⟩ (by decide) ρ₂ δ₂ news₂ m₂ s₂ [] R₂ .nil) fun accv s b₃ σ₃ ρ δ news m X₃ R V₃ q₃=>?_
 obtain ⟨rfl,rfl⟩:=q₃
 have V2:=V₂.ext X₃
 have X02:=(X₁.trans X₂).trans X₃
 rw [V2.1,V₃.1]
 have below:∀ a o,s.heap.get? a = some o → a ≠ s.heap.objs.size:=fun a o e=>Nat.ne_of_lt (Heap.lt_size e)
 refine wpAny_newFunctionEnv hcell (by intro y hy;simp at hy) (fun h₁ hns hsb=>?_) hkind
 have hk₁:∀ b o,s.heap.get? b = some o → h₁.get? b = some o:=fun b o e=>hsb.extBut b o (below b o e) (Heap.get?_push_of_some _ e)
 let own:=news.filter (ownedC c fr (σ₂.put n (.list [])) ρ δ)
 let rest:=news.filter fun p=>!ownedC c fr (σ₂.put n (.list [])) ρ δ p
 let B:=hideAll s.heap (own.map (·.1))
 have hown:∀ p,p ∈ own ↔ p ∈ news ∧ ownedC c fr (σ₂.put n (.list [])) ρ δ p = true:=fun p=>by simp only [own,List.mem_filter]
 have hrest:∀ p,p ∈ rest ↔ p ∈ news ∧ ownedC c fr (σ₂.put n (.list [])) ρ δ p = false:=fun p=>by simp only [rest,List.mem_filter,Bool.not_eq_true']
 have nB:∀ b o,c.B.get? b = some o → b ∉ own.map (·.1):=fun b o e q=>by
  obtain ⟨p,hp,rfl⟩:=List.mem_map.mp q
  have:=(R.nw p ((hown p).mp hp).1).2.2
  rw [e] at this;cases this
 have kB:∀ b o,c.B.get? b = some o → B.get? b = some o:=fun b o e=>hideAll_get _ (R.fr.keep b o e) (nB b o e)
 obtain ⟨oL,es,ep,hL,hLr⟩:=R.fr.ns
 have nL:c.L ∉ own.map (·.1):=fun q=>by
  obtain ⟨p,hp,e⟩:=List.mem_map.mp q
  exact (R.nw p ((hown p).mp hp).1).2.1 e
 have hLB:B.get? c.L = some oL:=hideAll_get _ hL nL
 let c':=c.comp B s.heap.objs.size scope cl
 have okS:c'.Ok:=⟨fun b o e=>kB b o (ok.X b o e),ok.T.keeps kB,hkind,rfl,ok.glo,ok.blt,hcl,ok.hh⟩
 have restB:∀ p ∈ rest,B.get? p.1 = some p.2:=fun p hp=>by
  obtain ⟨h1,h2⟩:=(hrest p).mp hp
  refine hideAll_get _ (R.nw p h1).1 fun q=>?_
  obtain ⟨p',hp',e⟩:=List.mem_map.mp q
  obtain ⟨h1',h2'⟩:=(hown p').mp hp'
  rw [ownedC_iff] at h2'
  rw [e] at h2'
  have:ownedC c fr (σ₂.put n (.list [])) ρ δ p = true:=ownedC_iff.mpr h2'
  rw [h2] at this;cases this
 have celSub:∀ y a,cl.lookup y = some a → y ∈ fr ∧ c.env.cells.lookup y = some a:=fun y a e=>by
  have:=hfr y (by rw [e];rfl)
  exact ⟨this,by rw [← (hfc y this).1];exact e⟩
 have RS:Rel c' ⟨cvars fr σ,(σ₂.put n (.list [])).hp⟩ ρ δ own (fun x=>([]:List (Str × Value)).reverse.lookup x) { s with heap:=h₁,toks:=s.toks + ([]:List (Str × Value)).length }:=by
  refine ⟨⟨hns,fun b o e=>hk₁ b o (of_hideAll _ e),Nat.le_of_eq (hideAll_size _ _)⟩,fun p hp=>?_,?_,fun n' o hn=>?_,R.dj,fun y v hy=>?_,fun y a e=>?_,R.ext⟩
  ·have N:=R.nw p ((hown p).mp hp).1
   exact ⟨hk₁ _ _ N.1,Nat.ne_of_lt (Heap.lt_size N.1),hideAll_none _ (List.mem_map_of_mem hp)⟩
  ·exact (List.filter_sublist.map _).nodup R.nd
  ·exact (R.own n' o hn).ext (Ext.refl ρ δ _) (by rw [hn];simp) fun p hp hf=>(hown p).mpr ⟨hp,ownedC_iff.mpr (.inl ⟨n',o,hn,hf⟩)⟩
  ·unfold cvars at hy
   by_cases q:y ∈ fr
   ·have e:σ.vars y = some v:=by simpa [q] using hy
    have:=R.vars y v (by show σ₂.vars y = _;rw [hvars];exact e)
    unfold VarAt at this ⊢
    rw [(hfc y q).2.1] at this
    rw [show c'.env.kindOf y = some .cell from (hfc y q).2.2]
    obtain ⟨a,o,val,e1,e2,e3,e4⟩:=this
    exact ⟨a,o,val,(hfc y q).1.trans e1,(hown _).mpr ⟨e2,ownedC_iff.mpr (.inr ⟨y,q,e1⟩)⟩,e3,e4⟩
   ·simp [q] at hy
  ·obtain ⟨q,e'⟩:=celSub y a e
   obtain ⟨o,v,h1,h2⟩:=R.cel y a e'
   exact ⟨o,v,(hown _).mpr ⟨h1,ownedC_iff.mpr (.inr ⟨y,q,e'⟩)⟩,h2⟩
 have iS:I k0 (σ₂.put n (.list [])).hp:=i0
 have key:∀ s₃ ρ₁ δ₁ news₁ m₁,Ext ρ δ (σ₂.put n (.list [])).hp ρ₁ δ₁ (σ₂.put n (.list [])).hp → Rel c' ⟨cvars fr σ,(σ₂.put n (.list [])).hp⟩ ρ₁ δ₁ news₁ m₁ s₃ →
   codeAny (model c.prog c.w) c.A (.compLoop (.ListComp elt [⟨.Name x px,iter,ifs,0⟩] scope pos) 0 (.ref (ρ it)) (.ref (ρ n)) c'.env) (compPost (model c.prog c.w) c.A (fun _ _=>False) use P (.ref (ρ n)) s.heap.objs.size) s₃:=by
  intro s₃ ρ₁ δ₁ news₁ m₁ X₁ RS₁
  refine codeAny_compLoop_tests (fun k s'=>ReachC c' (cvars fr σ) (σ₂.put n (.list [])).hp ρ δ (I k) s') (fun k s' pp=>pp.el fun h ρ' δ' news' m' X' R' i=>?_) k0 ⟨_,ρ₁,δ₁,news₁,_,X₁,RS₁,iS⟩ (fun _=>rfl)
  have hp:ρ it = ρ' it:=((X' it (hI _ _ iS).1).2.1).symm
  refine wpAny_mono (turn B s.heap.objs.size okS k h i ρ' δ' news' m' s' (.ref (ρ it)) R' ⟨by rw [hp],(hI _ _ i).1⟩) (fun r s₃ pp=>pp.el fun b' σ₃ ρ₃ δ₃ news₃ m₃ X₃' R₃ e qq=>an2 qq fun hv q=>?_) fun _ _ x=>x.elim
  have X03:=X'.trans X₃'
  cases r with
  | none=>
   cases b' with
   | some v=>exact e.elim
   | none=>
    have keep3:∀ b o,B.get? b = some o → s₃.heap.get? b = some o:=R₃.fr.keep
    have keepN:∀ p ∈ news₃,s₃.heap.get? p.1 = some p.2:=fun p hp=>(R₃.nw p hp).1
    have XX:=X02.trans X03
    have Cn:∀ p ∈ news₃ ++ rest,p.1 ≠ s.heap.objs.size:=fun p hp=>by
     rcases List.mem_append.mp hp with hp | hp
     ·exact (R₃.nw p hp).2.1
     ·exact below _ _ (R.nw p ((hrest p).mp hp).1).1
    have CB:c.B.get? s.heap.objs.size = none:=by
     cases q:c.B.get? s.heap.objs.size with
     | none=>rfl
     | some o=>exact absurd (R.fr.keep _ _ q) (fun e=>below _ _ e rfl)
    have en:ρ n = ρ₃ n:=((X03 n (hI _ _ iS).2).2.1).symm
    rw [en]
    refine hend σ₃.hp ρ₃ δ₃ (news₃ ++ rest) m m₃ s₃ _ ?_ XX R₃.fr.ns (Ne.symm (below _ _ hL)) Cn CB (X03 n (hI _ _ iS).2).1 q
    ·refine ⟨⟨⟨oL,es,ep,keep3 _ _ hLB,hLr⟩,fun b o e=>keep3 b o (kB b o e),R.fr.above⟩,fun p hp=>?_,?_,fun n' o hn=>?_,R₃.dj,fun y v hy=>?_,fun y a e=>?_,R₃.ext⟩
     ·rcases List.mem_append.mp hp with hp | hp
      ·have N:=R₃.nw p hp
       refine ⟨keepN p hp,fun e=>?_,?_⟩
       ·have:=N.2.2
        rw [e] at this
        rw [show c'.B = B from rfl,hLB] at this;cases this
       ·cases q:c.B.get? p.1 with
        | none=>rfl
        | some o=>have:=N.2.2;rw [show c'.B = B from rfl,kB _ _ q] at this;cases this
      ·exact ⟨keep3 _ _ (restB p hp),(R.nw p ((hrest p).mp hp).1).2⟩
     ·rw [List.map_append,List.nodup_append]
      refine ⟨R₃.nd,(List.filter_sublist.map _).nodup R.nd,fun x hx y hy e=>?_⟩
      obtain ⟨p,hp,rfl⟩:=List.mem_map.mp hx
      obtain ⟨q,hq,rfl⟩:=List.mem_map.mp hy
      have:=(R₃.nw p hp).2.2
      rw [e,show c'.B = B from rfl,restB q hq] at this
      cases this
     ·exact (R₃.own n' o hn).ext (Ext.refl ρ₃ δ₃ σ₃.hp) (by rw [hn];simp) fun p hp _=>List.mem_append_left _ hp
     ·have hy' : σ.vars y = some v:=hy
      have old:=R.vars y v (by show σ₂.vars y = _;rw [hvars];exact hy')
      by_cases yf:y ∈ fr
      ·have:=R₃.vars y v (by rw [hv];unfold cvars;rw [if_pos yf];exact hy')
       unfold VarAt at this ⊢
       rw [(hfc y yf).2.1]
       rw [show c'.env.kindOf y = some .cell from (hfc y yf).2.2] at this
       obtain ⟨a,o,val,e1,e2,e3,e4⟩:=this
       exact ⟨a,o,val,(hfc y yf).1.symm.trans e1,List.mem_append_left _ e2,e3,e4⟩
      ·refine old.ext X03 (fun _=>rfl) fun a o w hc hm hd=>List.mem_append_right _ ((hrest _).mpr ⟨hm,?_⟩)
       cases q:ownedC c fr (σ₂.put n (.list [])) ρ δ (a,o) with
       | false=>rfl
       | true=>
        rcases ownedC_iff.mp q with ⟨n',on,hn,hf⟩ | ⟨y',hy',e'⟩
        ·obtain ⟨ob,h1,h2⟩:=(R.own n' on hn).mem a hf
         rw [one_at R.nd hm h1] at hd
         exact absurd hd (h2 _)
        ·exact absurd (cells_inj ok.cells hc e' ▸ hy') yf
     ·by_cases yf:y ∈ fr
      ·obtain ⟨o,v,h1,h2⟩:=R₃.cel y a ((hfc y yf).1.trans e)
       exact ⟨o,v,List.mem_append_left _ h1,h2⟩
      ·obtain ⟨o,w,h1,h2⟩:=R.cel y a e
       refine ⟨o,w,List.mem_append_right _ ((hrest _).mpr ⟨h1,?_⟩),h2⟩
       cases q:ownedC c fr (σ₂.put n (.list [])) ρ δ (a,o) with
       | false=>rfl
       | true=>
        rcases ownedC_iff.mp q with ⟨n',on,hn,hf⟩ | ⟨y',hy',e'⟩
        ·obtain ⟨ob,h3,h4⟩:=(R.own n' on hn).mem a hf
         rw [one_at R.nd h1 h3] at h2
         exact absurd h2 (h4 _)
        ·exact absurd (cells_inj ok.cells e e' ▸ hy') yf
  | some y=>
   cases b' with
   | none=>exact e.elim
   | some v=>
    have kx:c'.env.kindOf x = some .local:=lookup_relabel_local hx
    have E3:σ₃ = ⟨cvars fr σ,σ₃.hp⟩:=by cases σ₃;cases hv;rfl
    refine wpAny_mono (as_name (c:=c') (x:=x) (p:=px) (v:=v) (Q:=fun σ'=>σ' = σ₃.var x v) okS rfl kx ρ₃ δ₃ news₃ m₃ s₃ y R₃ e) (fun _ s₄ pp=>pp.el fun _ σ₄ ρ₄ δ₄ news₄ m₄ X₄ R₄ _ q₄=>?_) fun _ _ x=>x.elim
    have E4:σ₄ = ⟨fun y=>if y = x then some v else cvars fr σ y,σ₃.hp⟩:=by rw [q₄,E3];rfl
    have q':=mTs_of hif q
    rw [← E4] at q'
    refine wpAny_mono (q' ρ₄ δ₄ news₄ m₄ s₄ R₄) (fun b s₅ pp=>pp.el fun b5 σ₅ ρ₅ δ₅ news₅ m₅ X₅ R₅ e5 q₅=>?_) fun _ _ x=>x.elim
    cases e5
    have X05:=(X03.trans X₄).trans X₅
    have back:∀ {σ' : St} {ρ' δ' news' m' s'},Rel c' σ' ρ' δ' news' m' s' → (∀ y ∈ fr,σ'.vars y = σ.vars y) → Rel c' ⟨cvars fr σ,σ'.hp⟩ ρ' δ' news' m' s':=fun R' hv=>⟨R'.fr,R'.nw,R'.nd,R'.own,R'.dj,fun y u hy=>by
     unfold cvars at hy
     by_cases yf:y ∈ fr
     ·simp only [yf,if_true] at hy
      exact R'.vars y u ((hv y yf).trans hy)
     ·simp [yf] at hy,R'.cel,R'.ext⟩
    cases b with
    | false=>
     simp only [Bool.false_eq_true,if_false] at q₅ ⊢
     obtain ⟨hv5,k',lt,i'⟩:=q₅
     exact ⟨k',lt,σ₅.hp,ρ₅,δ₅,news₅,m₅,X05,back R₅ hv5,i'⟩
    | true=>
     simp only [if_true] at q₅ ⊢
     refine wpAny_mono (q₅ ρ₅ δ₅ news₅ m₅ s₅ R₅) (fun w s₆ pp=>pp.el fun w' σ₆ ρ₆ δ₆ news₆ m₆ X₆ R₆ e6 qq=>an2 qq fun hv6 qq=>ex1 qq fun ys qq=>an3 qq fun hn6 hl6 qq=>ex1 qq fun k' qq=>an2 qq fun lt i'=>?_) fun _ _ x=>x.elim
     have X06:=X05.trans X₆
     have en:ρ n = ρ₆ n:=((X06 n (hI _ _ iS).2).2.1).symm
     rw [en]
     refine wpAny_mono (l_append (c:=c') (v:=w') (Q:=fun _ σ'=>σ' = σ₆.put n (.list (ys ++ [w']))) hn6 rfl (by omega) ρ₆ δ₆ news₆ m₆ s₆ (.ref (ρ₆ n)) w R₆ ⟨rfl,by rw [hn6];simp⟩ e6) (fun _ s₇ pp=>pp.el fun _ σ₇ ρ₇ δ₇ news₇ m₇ X₇ R₇ _ q₇=>?_) fun _ _ x=>x.elim
     subst q₇
     exact ⟨k',lt,_,ρ₇,δ₇,news₇,m₇,X06.trans X₇,back R₇ hv6,i'⟩
 refine codeAny_compStart_list (key _ ρ δ own _ (Ext.refl _ _ _) RS) (wpAny_mono (hself B s.heap.objs.size okS k0 _ iS ρ δ own _ _ (.ref (ρ it)) RS ⟨rfl,(hI _ _ iS).1⟩) (fun it' s' pp=>pp.el fun b' σ' ρ' δ' news' m' X' R' V' qq=>an2 qq fun e1 e2=>?_) fun _ _ x=>x.elim)
 subst e2
 rw [e1] at V'
 have hp:ρ' it = ρ it:=(X' it (hI _ _ iS).1).2.1
 rw [V'.1,hp]
 exact key _ ρ' δ' news' m' X' R'
theorem mE_comp {elt iter:Expr} {x:Str} {px pos:Pos} {ifs:List Expr} {scope:Scope} {Q:V → St → Prop} (n it:Nm) (cl:List (Str × Addr)) (fr:List Str) (I:Nat → H → Prop) (ok:c.Ok)
  (hclos:closureFor scope c.env = pure cl) (hif:ifs.length ≤ 1)
  (hfr:∀ y,(cl.lookup y).isSome = true → y ∈ fr) (hfc:∀ y ∈ fr,cl.lookup y = c.env.cells.lookup y ∧ c.env.kindOf y = some .cell ∧ (relabel scope c.env).names.lookup y = some .cell)
  (hcl:(cl.map (·.2)).Nodup) (hxf:x ∉ fr)
  (hcell:∀ y ∈ scope.names,y.2 ≠ .cell) (hkind:scope.kind = .function) (hnames:∀ y ∈ scope.names,y.2 = .local → scope.names.lookup y.1 = some .local) (hx:scope.names.lookup x = some .local)
  (h0:mE c iter (fun v σ₁=>MW1 c RVal v pyIter (fun u σ₂=>u = .ref it ∧ σ₂.vars = σ.vars ∧ σ₂.hp n = none ∧ ∃ k,I k (σ₂.hp.set n (.list []))) σ₁) σ)
  (hI:∀ k h,I k h → h it ≠ none ∧ h n ≠ none)
  (hself:∀ B C,(c.comp B C scope cl).Ok → ∀ k h,I k h → MW1 (c.comp B C scope cl) RVal (.ref it) pyIter (fun u σ₁=>u = .ref it ∧ σ₁ = ⟨cvars fr σ,h⟩) ⟨cvars fr σ,h⟩)
  (turn:∀ B C,(c.comp B C scope cl).Ok → ∀ k h,I k h → mNext (c.comp B C scope cl) it (fun r σ₁=>σ₁.vars = cvars fr σ ∧ match r with
   | none=>Q (.ref n) ⟨σ.vars,σ₁.hp⟩
   | some v=>mTs (c.comp B C scope cl) ifs (fun b σ₂=>if b then mE (c.comp B C scope cl) elt (fun w σ₃=>(∀ y ∈ fr,σ₃.vars y = σ.vars y) ∧ ∃ ys,σ₃.hp n = some (.list ys) ∧ ys.length ≤ 1000 ∧ ∃ k',k' < k ∧ I k' (σ₃.hp.set n (.list (ys ++ [w])))) σ₂
     else (∀ y ∈ fr,σ₂.vars y = σ.vars y) ∧ ∃ k',k' < k ∧ I k' σ₂.hp) ⟨fun y=>if y = x then some v else cvars fr σ y,σ₁.hp⟩) ⟨cvars fr σ,h⟩)
  (hs:autoParam (∀ x,foldedSetIterable iter c.env x = pure x) aI):mE c (.ListComp elt [⟨.Name x px,iter,ifs,0⟩] scope pos) Q σ:=fun ρ₀ δ₀ news₀ m₀ s₀ R₀=>by
 show wpAny _ _ (eval _ _) _ _ _
 rw [eval_ListComp]
 refine comp_core (use:=none) (QQ:=fun h=>Q (.ref n) ⟨σ.vars,h⟩) n it cl fr I ok hclos hif hfr hfc hcl hxf hcell hkind hnames hx h0 hI hself turn hs R₀ fun h ρ' δ' news' m' mC s' C R X hC hL hN hB hn q=>?_
 exact ⟨mC,hC,fun h' hs'=>⟨.ref n,_,ρ',δ',news',m',X,R.side hL hN hB hs',⟨rfl,hn⟩,q⟩⟩
theorem store_any {x:Str} {p:Pos} {v:V} {val:Value} {ρ δ:Nm → Addr} {news:List (Addr × Obj)} {m:Str → Option Value} {s:Shared} {P:Unit → Shared → Prop} (ok:c.Ok) (R:Rel c σ ρ δ news m s) (V:Val ρ σ.hp v val)
  (hk:c.env.kindOf x = some .local ∨ (c.env.kindOf x = some .cell ∧ (c.env.cells.lookup x).isSome = true))
  (h:∀ D s' news' m',Heap.SameBut D s.heap s'.heap → (D = c.L ∨ ∃ o,(D,o) ∈ news) → news'.map (·.1) = news.map (·.1) → Rel c (σ.var x v) ρ δ news' m' s' → P () s'):wpAny (model c.prog c.w) c.A (storeName c.env x val) P NoE s:=by
 rcases hk with hk | ⟨hk,hsm⟩
 ·have hp:(c.env.scope.kind == .class || (c.env.scope.kind == .module && c.env.locals != c.env.globals)) = false:=by rw [ok.fk];rfl
  refine wpAny_storeName_local hk (by rw [ok.loc];exact R.fr.ns) (fun h' hn hs=>?_) hp
  rw [ok.loc] at hn hs
  refine h c.L _ news _ hs (.inl rfl) rfl ⟨R.fr.set hn hs,R.nw.set hs,R.nd,R.own,R.dj,fun y u hy=>?_,R.cel,R.ext⟩
  by_cases q:y = x
  ·subst q
   have:(if y = y then some v else σ.vars y) = some u:=hy
   rw [if_pos rfl] at this
   cases this
   unfold VarAt
   rw [hk]
   exact ⟨val,if_pos rfl,V⟩
  ·have:(if y = x then some v else σ.vars y) = some u:=hy
   rw [if_neg q] at this
   exact (R.vars y u this).ext (Ext.refl ρ δ _) (fun _=>if_neg q) fun _ _ _ _ z _=>z
 ·cases hl:c.env.cells.lookup x with
  | none=>rw [hl] at hsm;cases hsm
  | some a=>
   obtain ⟨o,v0,hm,hd⟩:=R.cel x a hl
   have N:=R.nw _ hm
   refine wpAny_storeName_cell ok.fk hk hl ⟨o,N.1,hd⟩ fun h' ⟨o',ho',hd'⟩ hs=>?_
   obtain ⟨news',U,mem,kp,em⟩:=upd_of R.nd o' hm
   obtain ⟨pre,post,e1,e2,ha,hb⟩:=U.split
   have nofoot:∀ n on,σ.hp n = some on → a ∉ foot ρ δ n on:=fun n on hn hf=>by
    obtain ⟨ob,h1,h2⟩:=(R.own n on hn).mem a hf
    rw [one_at R.nd hm h1] at hd
    exact h2 _ hd
   refine h a { s with heap:=h' } news' m hs (.inr ⟨o,hm⟩) em ⟨R.fr.change hs N.2.1 N.2.2,?_,by rw [em];exact R.nd,fun n on hn=>?_,R.dj,fun y u hy=>?_,fun y b e=>?_,R.ext⟩
   ·rw [e2]
    exact news_set (o:=o) (by rw [← e1];exact R.nw) ha hb hs ho'
   ·exact (R.own n on hn).ext (Ext.refl ρ δ _) (by rw [hn];simp) fun p hp hf=>kp p hp fun e=>nofoot n on hn (e ▸ hf)
   ·by_cases q:y = x
    ·subst q
     have:(if y = y then some v else σ.vars y) = some u:=hy
     rw [if_pos rfl] at this
     cases this
     unfold VarAt
     rw [hk]
     exact ⟨a,o',val,hl,mem,hd',V⟩
    ·have:(if y = x then some v else σ.vars y) = some u:=hy
     rw [if_neg q] at this
     exact (R.vars y u this).ext (Ext.refl ρ δ _) (fun _=>rfl) fun b ob w hc hm' hd''=>kp _ hm' fun (e:b = a)=>q (cells_inj ok.cells (e ▸ hc) hl)
   ·by_cases q:b = a
    ·subst q;exact ⟨o',_,mem,hd'⟩
    ·obtain ⟨ob,w,h1,h2⟩:=R.cel y b e
     exact ⟨ob,w,kp _ h1 q,h2⟩
theorem m_storeC {x:Str} {v:V} {Q:Unit → St → Prop} (ok:c.Ok) (h:Q () (σ.var x v)) (hk:autoParam (c.env.kindOf x = some .cell ∧ (c.env.cells.lookup x).isSome = true) aP):MW1 c RUnit v (storeName c.env x) Q σ:=fun ρ δ news m s val R V=>
 store_any (p:=default) ok R V (.inr hk) fun D s' news' m' _ _ _ R'=>⟨(),σ.var x v,ρ,δ,news',m',Ext.refl _ _ _,R',trivial,h⟩
theorem as_nameC {x:Str} {p:Pos} {v:V} {Q:St → Prop} (ok:c.Ok) (h:Q (σ.var x v)) (hk:autoParam (c.env.kindOf x = some .cell ∧ (c.env.cells.lookup x).isSome = true) aP):mAs c (.Name x p) v Q σ:=fun ρ δ news m s val R V=>
 wpAny_assign_Name (m_storeC (Q:=fun _=>Q) ok h hk ρ δ news m s val R V)
theorem mS_comp {elt iter:Expr} {x y:Str} {px py pos spos:Pos} {ifs:List Expr} {scope:Scope} {Q:Fl → St → Prop} (n it:Nm) (cl:List (Str × Addr)) (fr:List Str) (I:Nat → H → Prop) (ok:c.Ok)
  (hsw:swapsWith (.ListComp elt [⟨.Name x px,iter,ifs,0⟩] scope pos) (some (.Name y py)) spos.line c.env = pure true)
  (hclos:closureFor scope c.env = pure cl) (hif:ifs.length ≤ 1)
  (hfr:∀ y,(cl.lookup y).isSome = true → y ∈ fr) (hfc:∀ y ∈ fr,cl.lookup y = c.env.cells.lookup y ∧ c.env.kindOf y = some .cell ∧ (relabel scope c.env).names.lookup y = some .cell)
  (hcl:(cl.map (·.2)).Nodup) (hxf:x ∉ fr)
  (hcell:∀ y ∈ scope.names,y.2 ≠ .cell) (hkind:scope.kind = .function) (hnames:∀ y ∈ scope.names,y.2 = .local → scope.names.lookup y.1 = some .local) (hx:scope.names.lookup x = some .local)
  (hk:c.env.kindOf y = some .local ∨ (c.env.kindOf y = some .cell ∧ (c.env.cells.lookup y).isSome = true))
  (h0:mE c iter (fun v σ₁=>MW1 c RVal v pyIter (fun u σ₂=>u = .ref it ∧ σ₂.vars = σ.vars ∧ σ₂.hp n = none ∧ ∃ k,I k (σ₂.hp.set n (.list []))) σ₁) σ)
  (hI:∀ k h,I k h → h it ≠ none ∧ h n ≠ none)
  (hself:∀ B C,(c.comp B C scope cl).Ok → ∀ k h,I k h → MW1 (c.comp B C scope cl) RVal (.ref it) pyIter (fun u σ₁=>u = .ref it ∧ σ₁ = ⟨cvars fr σ,h⟩) ⟨cvars fr σ,h⟩)
  (turn:∀ B C,(c.comp B C scope cl).Ok → ∀ k h,I k h → mNext (c.comp B C scope cl) it (fun r σ₁=>σ₁.vars = cvars fr σ ∧ match r with
   | none=>Q .next ((⟨σ.vars,σ₁.hp⟩ : St).var y (.ref n))
   | some v=>mTs (c.comp B C scope cl) ifs (fun b σ₂=>if b then mE (c.comp B C scope cl) elt (fun w σ₃=>(∀ y ∈ fr,σ₃.vars y = σ.vars y) ∧ ∃ ys,σ₃.hp n = some (.list ys) ∧ ys.length ≤ 1000 ∧ ∃ k',k' < k ∧ I k' (σ₃.hp.set n (.list (ys ++ [w])))) σ₂
     else (∀ y ∈ fr,σ₂.vars y = σ.vars y) ∧ ∃ k',k' < k ∧ I k' σ₂.hp) ⟨fun y=>if y = x then some v else cvars fr σ y,σ₁.hp⟩) ⟨cvars fr σ,h⟩)
  (hs:autoParam (∀ x,foldedSetIterable iter c.env x = pure x) aI):mS c (.Assign [.Name y py] (.ListComp elt [⟨.Name x px,iter,ifs,0⟩] scope pos) spos) Q σ:=fun ρ₀ δ₀ news₀ m₀ s₀ R₀=>by
 show wpAny _ _ (exec _ _) _ _ _
 rw [exec_Assign_Name_used _ _ _ _ hsw]
 refine wpAny_bind (wpAny_standAt (wpAny_bind ?_))
 show wpAny _ _ (do let _ ← comprehension (.ListComp elt [⟨.Name x px,iter,ifs,0⟩] scope pos) scope c.env _ (newList []) false (eval iter c.env) (some (assign (.Name y py) c.env))) _ _ _
 refine wpAny_bind (wpAny_mono (comp_core (use:=some (assign (.Name y py) c.env)) (P:=fun _ s'=>Post c RFl Q σ ρ₀ δ₀ .next s') (QQ:=fun h=>Q .next ((⟨σ.vars,h⟩ : St).var y (.ref n))) n it cl fr I ok hclos hif hfr hfc hcl hxf hcell hkind hnames hx h0 hI hself turn hs ⟨R₀.fr,R₀.nw,R₀.nd,R₀.own,R₀.dj,R₀.vars,R₀.cel,R₀.ext⟩ fun h ρ' δ' news' m' mC s' C R X hC hL hN hB hn q=>?_) (fun _ s' hq=>wpAny_pure (wpAny_pure hq)) fun _ _ e=>e.elim)
 refine wpAny_assign_Name (store_any (p:=py) (v:=.ref n) ok R ⟨rfl,hn⟩ hk fun D s'' news'' m'' hs' hD em R'=>?_)
 have hDC:C ≠ D:=by
  rcases hD with rfl | ⟨o,ho⟩
  ·exact hL
  ·exact Ne.symm (hN _ ho)
 refine ⟨mC,hC.sameBut hs' hDC,fun h' hs''=>⟨.next,_,ρ',δ',news'',m'',X,R'.side hL (fun p hp=>?_) hB hs'',trivial,q⟩⟩
 have:p.1 ∈ news''.map (·.1):=List.mem_map_of_mem hp
 rw [em] at this
 obtain ⟨p',hp',e⟩:=List.mem_map.mp this
 rw [← e];exact hN _ hp'
end
section
variable {c:Cx} {σ:St} {ρ δ:Nm → Addr} {news:List (Addr × Obj)} {m:Str → Option Value} {s:Shared}
theorem post_new {n:Nm} {o:O} {ob:Obj} {D:Addr} {h' : Heap} {Q:V → St → Prop} (R:Rel c σ ρ δ news m s) (hn:σ.hp n = none) (F' : Fr c.B c.L h' m) (N' : News c.B c.L h' ((D,ob) :: news)) (lo:∀ p ∈ news,p.1 < D)
  (hf:∀ ρ δ,foot ρ δ n o = [ρ n]) (own:OAt c.prog c.w (setA ρ n D) (setA δ n 0) (σ.hp.set n o) ((D,ob) :: news) n o) (h:Q (.ref n) (σ.put n o)):Post c RVal Q σ ρ δ (.ref D) { s with heap:=h' }:=by
 have X:Ext ρ δ σ.hp (setA ρ n D) (setA δ n 0) (σ.put n o).hp:=ext_new hn
 refine ⟨.ref n,σ.put n o,_,_,_,m,X,R.new (s':={ s with heap:=h' }) (more:=[(D,_)]) hn F' N' ?_ (fun p hp q hq=>?_) (fun x hx=>?_) own,⟨by rw [setA_self],put_self⟩,h⟩
 ·exact List.nodup_cons.mpr ⟨fun e=>(nomatch e),List.nodup_nil⟩
 ·rw [List.mem_singleton.mp hp];exact lo q hq
 ·rw [hf,setA_self] at hx;rw [List.mem_singleton.mp hx];exact ⟨_,.head _⟩
theorem int_vals {ρ:Nm → Addr} {h:H} {ys:List Int} {vs:List Value} (q:IntsAre vs ys):Vals ρ h (ys.map V.int) vs:=by
 induction q with
 | nil=>exact .nil
 | cons _ t _ ih=>exact .cons ⟨t,rfl⟩ ih
theorem mE_upto {o j:Expr} {p pos:Pos} {l:Addr} {vs:List Value} {ns:List Int} {Q:V → St → Prop} (n:Nm) (hb:c.B.IsList l vs.toArray) (hi:IntsAre vs ns) (hz:ns.length ≤ 1000)
  (h:mE c o (fun v σ₁=>mE c j (fun b σ₂=>v = .glob (.ref l) ∧ ∃ k:Nat,b = .int k ∧ σ₂.hp n = none ∧ Q (.ref n) (σ₂.put n (.list ((ns.take k).map V.int)))) σ₁) σ)
  (hs:autoParam (∀ a r,subscripted (.Slice none (some j) none p) false (.ref a) (.ref r) = operate [.ref r,.ref a] (getItem (.ref a) (.ref r))) aK)
  (ht:autoParam (∀ a r,letTemporaryGo o (.ref a) r = pure ()) aK):mE c (.Subscript o (.Slice none (some j) none p) pos) Q σ:=fun ρ δ news m s R=>by
 refine Subscript_ (nest h R fun a s₁ b σ₁ ρ₁ δ₁ news₁ m₁ X R₁ V q=>wpAny_Slice (evalPart_none_step (evalPart_some_step (nest q R₁ fun a₂ s₂ b₂ σ₂ ρ₂ δ₂ news₂ m₂ X₂ R₂ V₂ q₂=>evalPart_none_step ?_))))
 obtain ⟨rfl,k,rfl,hn,hQ⟩:=q₂
 rw [show a = .ref l from V]
 obtain ⟨t,rfl⟩:=V₂
 obtain ⟨ol,h1,h2,h3⟩:=hb
 refine kmk_slice_ints (ms:=ns.take k) (c:=(ns.take k).length) R₂.fr R₂.nw ⟨ol,R₂.fr.keep _ _ h1,h2,h3⟩ .none (.int _ t) hi (by simpa using kmk_upto hi (y:=(k:Int)) (by omega)) rfl (fun D ws h' F' N' lo hw _ _=>?_) (hs _ _) (fun _=>ht _ _) (by rw [List.size_toArray,hi.length,sizeLine_eq];omega)
 exact Post.ext (X.trans X₂) (post_new (o:=.list _) R₂ hn F' N' lo (fun _ _=>rfl) ⟨ws,_,by rw [setA_self];exact .head _,int_vals hw⟩ hQ)
theorem mE_revsl {o k:Expr} {p pos:Pos} {Q:V → St → Prop} (n:Nm)
  (h:mE c o (fun v σ₁=>mE c k (fun b σ₂=>∃ l xs,v = .ref l ∧ b = .int (-1) ∧ σ₂.hp l = some (.list xs) ∧ xs.length ≤ 1000 ∧ σ₂.hp n = none ∧ Q (.ref n) (σ₂.put n (.list xs.reverse))) σ₁) σ)
  (hs:autoParam (∀ a r,subscripted (.Slice none none (some k) p) false (.ref a) (.ref r) = operate [.ref a,.ref r] (getItem (.ref a) (.ref r))) aK)
  (ht:autoParam (∀ a r,letTemporaryGo o (.ref a) r = pure ()) aK):mE c (.Subscript o (.Slice none none (some k) p) pos) Q σ:=fun ρ δ news m s R=>by
 refine Subscript_ (nest h R fun a s₁ b σ₁ ρ₁ δ₁ news₁ m₁ X R₁ V q=>wpAny_Slice (evalPart_none_step (evalPart_none_step (evalPart_some_step (nest q R₁ fun a₂ s₂ b₂ σ₂ ρ₂ δ₂ news₂ m₂ X₂ R₂ V₂ q₂=>?_)))))
 obtain ⟨l,xs,rfl,rfl,e,hz,hn,hQ⟩:=q₂
 have V1:=V.ext X₂
 rw [V1.1]
 obtain ⟨t,rfl⟩:=V₂
 obtain ⟨vs,kk,hm,hv,d⟩:=seq_at R₂ e
 refine krv_lit (its:=vs.toArray) (zs:=vs.reverse) R₂.fr R₂.nw d (.int _ t) (by simp) (fun D h' F' N' lo=>?_) (hs _ _) (fun _=>ht _ _) (by rw [List.size_toArray,hv.length,sizeLine_eq];omega)
 exact Post.ext (X.trans X₂) (post_new (o:=.list _) R₂ hn F' N' lo (fun _ _=>rfl) ⟨vs.reverse,_,by rw [setA_self];exact .head _,hv.reverse.ext (ext_new (δ:=δ₂) (d:=0) hn)⟩ hQ)
theorem f_list (n:Nm) {l:Nm} {xs:List V} {Q:V → St → Prop} (e:σ.hp l = some (.list xs)) (hz:xs.length ≤ 1000) (hn:σ.hp n = none) (h:Q (.ref n) (σ.put n (.list xs))):MW1 c RVal (.ref l) (fun x=>call (.type "list") [x]) Q σ:=fun ρ δ news m s x R U=>by
 obtain ⟨vs,kk,hm,hv,d⟩:=seq_at R e
 rw [U.1]
 obtain ⟨o,ho,hc,k,hd⟩:=d
 refine call_list_seq (hsz:=by rw [List.size_toArray,hv.length,sizeLine_eq];omega) _ (.inl rfl) ho hc hd fun h' c' hk hD=>?_
 refine post_new (o:=.list xs) R hn (R.fr.keeps hk) (fun p hp=>?_) (fun p hp=>Heap.lt_size (R.nw p hp).1) (fun _ _=>rfl) ⟨vs,c',by rw [setA_self];exact .head _,hv.ext (ext_new (δ:=δ) (d:=0) hn)⟩ h
 rcases List.mem_cons.mp hp with rfl | hp
 ·exact ⟨hD,fun q=>by
   obtain ⟨oL,_,_,hL,_⟩:=R.fr.ns
   rw [← q] at hL
   exact absurd (Heap.lt_size hL) (Nat.lt_irrefl _),none_at_size R.fr⟩
 ·exact ⟨hk _ _ (R.nw p hp).1,(R.nw p hp).2⟩
mutual
inductive DV (h:H):V → Dat → Prop
 | none:DV h .none .none
 | int (i:Int):DV h (.int i) (.int i)
 | str (x:Str):DV h (.str x) (.str x)
 | tup {n:Nm} {xs:List V} {ds:List Dat}:h n = some (.tup xs) → DVs h xs ds → DV h (.ref n) (.tuple ds)
 | list {n:Nm} {xs:List V} {ds:List Dat}:h n = some (.list xs) → DVs h xs ds → DV h (.ref n) (.list ds)
inductive DVs (h:H):List V → List Dat → Prop
 | nil:DVs h [] []
 | cons {v:V} {vs:List V} {d:Dat} {ds:List Dat}:DV h v d → DVs h vs ds → DVs h (v :: vs) (d :: ds)
end
theorem DV.at (R:Rel c σ ρ δ news m s) {v:V} {d:Dat} {x:Value} (p:DV σ.hp v d) (q:Val ρ σ.hp v x):DatIn news x d:=by
 refine DV.rec (motive_1:=fun v d _=>∀ x,Val ρ σ.hp v x → DatIn news x d) (motive_2:=fun v d _=>∀ x,Vals ρ σ.hp v x → DatAll news x d) (fun x q=>?_) (fun i x q=>?_) (fun i x q=>?_) (fun e r ih x q=>?_) (fun e r ih x q=>?_) (fun x q=>?_) (fun a r ih ih' x q=>?_) p x q
 ·rw [show x = Value.none from q];exact .none
 ·obtain ⟨t,rfl⟩:=q;exact .int i t
 ·obtain ⟨t,rfl⟩:=q;exact .str i t
 ·obtain ⟨vs,kk,hm,hv,d⟩:=tup_at R e
  rw [q.1]
  exact .tuple hm (ih _ hv)
 ·obtain ⟨vs,kk,hm,hv,d⟩:=seq_at R e
  rw [q.1]
  exact .list hm (ih _ hv)
 ·cases q;exact .nil
 ·cases q with
  | cons b q=>exact .cons (ih _ b) (ih' _ q)
open Classical in
theorem c_eqD {a b:V} {d e:Dat} {Q:V → St → Prop} (room:c.A.units + 64 < cLine) (da:DV σ.hp a d) (db:DV σ.hp b e) (oa:kqdOk 8 d = true) (ob:kqdOk 8 e = true) (h:Q (.bool (decide (d = e))) σ):MW2 c RVal a b (compareOp .Eq) Q σ:=fun ρ δ news m s x y R U W=>by
 obtain ⟨as,ra⟩:=kqd_in R.nw 8 (da.at R U) oa
 obtain ⟨bs,rb⟩:=kqd_in R.nw 8 (db.at R W) ob
 have la:=kqd_lay 8 d oa
 have lb:=kqd_lay 8 e ob
 have q:PyData.eqv (kqdP d) (kqdP e) = decide (d = e):=by
  have q:=kqd_eqv 8 d e 8 oa ob
  by_cases hq:d = e
  ·rw [decide_eq_true hq];exact q.mpr hq
  ·rw [decide_eq_false hq];exact Bool.eq_false_iff.mpr fun x=>hq (q.mp x)
 refine eq_dataH ra rb ?_ ?_ room (by rw [q];exact Post.now (RV:=RVal) (b:=.bool _) R rfl h)
 ·unfold SeqAt.shaped;rw [la.1,Bool.true_and];exact decide_eq_true (Nat.le_trans la.2 (by decide))
 ·unfold SeqAt.shaped;rw [lb.1,Bool.true_and];exact decide_eq_true (Nat.le_trans lb.2 (by decide))
open Classical in
theorem c_neD {a b:V} {d e:Dat} {Q:V → St → Prop} (room:c.A.units + 64 < cLine) (da:DV σ.hp a d) (db:DV σ.hp b e) (oa:kqdOk 8 d = true) (ob:kqdOk 8 e = true) (h:Q (.bool (!decide (d = e))) σ):MW2 c RVal a b (compareOp .NotEq) Q σ:=fun ρ δ news m s x y R U W=>by
 obtain ⟨as,ra⟩:=kqd_in R.nw 8 (da.at R U) oa
 obtain ⟨bs,rb⟩:=kqd_in R.nw 8 (db.at R W) ob
 have la:=kqd_lay 8 d oa
 have lb:=kqd_lay 8 e ob
 have q:PyData.eqv (kqdP d) (kqdP e) = decide (d = e):=by
  have q:=kqd_eqv 8 d e 8 oa ob
  by_cases hq:d = e
  ·rw [decide_eq_true hq];exact q.mpr hq
  ·rw [decide_eq_false hq];exact Bool.eq_false_iff.mpr fun x=>hq (q.mp x)
 refine ne_dataH ra rb ?_ ?_ room (by rw [q];exact Post.now (RV:=RVal) (b:=.bool _) R rfl h)
 ·unfold SeqAt.shaped;rw [la.1,Bool.true_and];exact decide_eq_true (Nat.le_trans la.2 (by decide))
 ·unfold SeqAt.shaped;rw [lb.1,Bool.true_and];exact decide_eq_true (Nat.le_trans lb.2 (by decide))
theorem dv_ints (h:H):∀ l:List Int,DVs h (l.map V.int) (l.map Dat.int)
 | []=>.nil
 | i :: l=>.cons (.int i) (dv_ints h l)
theorem dv_strs (h:H):∀ l:List Str,DVs h (l.map V.str) (l.map Dat.str)
 | []=>.nil
 | i :: l=>.cons (.str i) (dv_strs h l)
end
theorem filt_none {α:Type} {g:α × Nat → Option α}:∀ (l:List (α × Nat)),(∀ p ∈ l,g p = none) → l.filterMap g = []
 | [],_=>rfl
 | p :: l,h=>by
  rw [List.filterMap_cons,h p (.head _)]
  exact filt_none l fun q hq=>h q (.tail _ hq)
section
variable {prog:Program} {w:World} {A:Around} {E:Value → Shared → Prop} {s:Shared}
theorem wpAny_delAll {l sl:Addr} {items:Array Value} {n:Nat} {Q:Unit → Shared → Prop} (hl:s.heap.get? l = some (listOf items n)) (hs:s.heap.IsSliceOf sl .none .none .none)
  (h:∀ h' k,h'.get? l = some (listOf #[] k) → Heap.SameBut l s.heap h' → Q () { s with heap:=h' })
  (hsz:items.size ≤ sizeLine):wpAny (model prog w) A (delItem (.ref l) (.ref sl)) Q E s:=by
 have hL:s.heap.IsList l items:=⟨_,hl,rfl,n,rfl⟩
 obtain ⟨os,hos,hcs,hds⟩:=id hs
 have hTs:s.TypeIs (.ref sl) "slice" := ⟨os,hos,hcs⟩
 refine wpAny_delItem_slot hL.typeIs (by decide) F.slot_list_delitem (wpAny_call_entry F.slot_list_delitem hL.typeIs F.entry_list_delitem ?_ (F.args_list_delitem_2 _ _))
 show wpAny _ _ (Builtin.List.listSubscript? (.ref sl) >>= _) _ _ s
 refine wpAny_bind ?_
 unfold Builtin.List.listSubscript?
 refine wpAny_bind (wpAny_specialOf hTs slice_no_index ?_)
 simp only [Option.isNone_none,if_true]
 refine wpAny_pure ?_
 show wpAny _ _ (typeOf (.ref sl) >>= _) _ _ s
 refine wpAny_bind (wpAny_typeOf hTs ?_)
 rw [if_neg (by decide)]
 rw [listSliceParts_eq]
 refine wpAny_bind (wpAny_bind (wpAny_field hos hds (x:=.none) rfl (wpAny_bind (wpAny_listPart .none ?_))))
 rw [if_neg (show ¬ ((rawPart none == rawInt 0) = true) from Bool.false_ne_true)]
 refine wpAny_bind (wpAny_field hos hds (x:=.none) rfl (wpAny_bind (wpAny_listPart .none ?_)))
 refine wpAny_bind (wpAny_field hos hds (x:=.none) rfl (wpAny_bind (wpAny_listPart .none (wpAny_pure ?_))))
 refine wpAny_bind (m:=Builtin.List.listItems (.ref l)) ?_
 unfold Builtin.List.listItems
 refine wpAny_bind (wpAny_seqItems hl rfl (wpAny_pure ?_))
 refine wpAny_bind (wpAny_of_eq (sliceIndices_raw none none none items.size (by simp)) ?_)
 refine wpAny_bind (wpAny_rule ?_)
 have ef:∀ (A:Around) (E:Value → Shared → Prop) (f:Array Value → Array Value),f items = #[] → wpAny (model prog w) A (Builtin.List.listUpdate (.ref l) f) (fun _ s'=>∃ h' k,h'.get? l = some (listOf #[] k) ∧ Heap.SameBut l s.heap h' ∧ s' = { s with heap:=h' }) E s:=fun A E f hf=>by
  refine wpAny_updateSeq hl rfl ?_ hsz (by rw [hf];exact Nat.zero_le _)
  have q:=PySem.IsL.update hl f
  rw [hf] at q
  exact ⟨_,_,q,Heap.SameBut.update ..,rfl⟩
 refine wpAny_bind (wpAny_mono (ef _ _ _ ?_) (fun _ s' hs'=>?_) fun _ _ x=>x)
 ·refine congrArg List.toArray (filt_none _ fun p hp=>?_)
  have hk:p.2 < items.size:=by
   have:=List.mem_zipIdx hp
   simp at this
   exact Nat.succ_le_of_lt this.1
  refine if_pos ?_
  show (if (1:Int) > 0 then decide ((0:Int) ≤ (p.2:Int)) && decide ((p.2:Int) < (items.size:Int)) && (((p.2:Int) - 0) % 1 == 0) else _) = true
  simp
  omega
 ·obtain ⟨h',k,h1,h2,h3⟩:=hs'
  refine wpAny_bind (wpAny_letGo ?_)
  rw [h3]
  exact wpAny_pure ⟨_,rfl,h _ _ h1 h2⟩
end
section
variable {c:Cx} {σ:St}
theorem mS_delAll {e:Expr} {p p1 pos:Pos} {Q:Fl → St → Prop} (h:mE c e (fun v σ₁=>∃ l xs,v = .ref l ∧ σ₁.hp l = some (.list xs) ∧ xs.length ≤ 1000 ∧ Q .next (σ₁.put l (.list []))) σ) :
  mS c (.Delete [.Subscript e (.Slice none none none p) p1] pos) Q σ:=fun ρ δ news m s R=>by
 refine wpAny_Delete (wpAny_deleteEach_cons (wpAny_delete_Subscript (nest h R fun x s₁ b σ₁ ρ₁ δ₁ news₁ m₁ X R₁ V q=>wpAny_Slice (evalPart_none_step (evalPart_none_step (evalPart_none_step ?_))))))
 obtain ⟨l,xs,rfl,el,hz,hQ⟩:=q
 rw [V.1]
 obtain ⟨vs,kk,hm,hv,d⟩:=seq_at R₁ el
 have N:=R₁.nw _ hm
 have lo:∀ b o,s₁.heap.get? b = some o → b ≠ s₁.heap.objs.size:=fun b o e=>Nat.ne_of_lt (Heap.lt_size e)
 have F':=R₁.fr.push ({ cls:=.type "slice",data:=.fields #[.none,.none,.none] }:Obj)
 have N' : News c.B c.L (s₁.heap.push { cls:=.type "slice",data:=.fields #[.none,.none,.none] }) news₁:=fun p hp=>(R₁.nw.push R₁.fr _) p (.tail _ hp)
 have R₁' : Rel c σ₁ ρ₁ δ₁ news₁ m₁ { s₁ with heap:=s₁.heap.push { cls:=.type "slice",data:=.fields #[.none,.none,.none] } }:=⟨F',N',R₁.nd,R₁.own,R₁.dj,R₁.vars,R₁.cel,R₁.ext⟩
 refine wpAny_delAll (Heap.get?_push_of_some _ N.1) (Heap.IsSliceOf.new ..) (fun h' k ho hs=>?_) (by rw [List.size_toArray,hv.length,sizeLine_eq];omega)
 obtain ⟨news',R'⟩:=R₁'.turn (tk:=s₁.toks) el rfl rfl hm (o':=.list []) hs ho fun news' hm=>⟨[],k,hm,.nil⟩
 exact wpAny_deleteEach_nil ⟨.next,_,ρ₁,δ₁,news',m₁,X.trans ext_set,R',trivial,hQ⟩
end
section
variable {c:Cx} {σ:St}
end
theorem wpAny_iaddL {M:Model} {A:Around} {E:Value → Shared → Prop} {s:Shared} {a b:Value} {Q:Value → Shared → Prop} (ha:s.TypeIs a "list") (hb:s.TypeIs b "list")
  (hc:wpAny M A (call (.builtin "list.__iadd__") [a,b]) Q E s):wpAny M A (inplaceOp .Add a b) Q E s:=by
 unfold inplaceOp
 refine wpAny_holding ?_
 have hl:typeLookup (.type "list") (dunderI "add") = pure (some (.builtin "list.__iadd__")):=F.slot_list_iadd.lookup
 have hs:isSeqSlot (some (.builtin "list.__iadd__")) = true:=by decide +kernel
 have hfi:fillsInplaceSlot (.type "list") "add" (Operator.Add == .Add) = pure false:=by
  unfold fillsInplaceSlot
  show (typeLookup (.type "list") (dunderI "add") >>= fun fi=>pure (fi.isSome && !isSeqSlot fi)) = pure false
  rw [hl]
  show (pure ((some (Value.builtin "list.__iadd__")).isSome && !isSeqSlot (some (Value.builtin "list.__iadd__"))):Sem Bool) = _
  rw [hs];rfl
 have hsi:seqSlot? (.type "list") (dunderI "add") = pure (some (.builtin "list.__iadd__")):=PySem.seqSlot_of hl hs
 refine wpAny_bind (wpAny_typeOf ha (wpAny_bind (wpAny_of_eq hfi ?_)))
 show wpAny M A (if false = true then _ else _) Q E s
 rw [if_neg Bool.false_ne_true]
 refine wpAny_bind (wpAny_binaryOp1_none (nm := "add") ha hb noFill_list_add ?_)
 refine wpAny_bind (wpAny_of_eq hsi ?_)
 exact wpAny_bind (wpAny_rule hc)
section
variable {c:Cx} {σ:St}
theorem i_extend {n b:Nm} {xs ys:List V} {Q:V → St → Prop} (e:σ.hp n = some (.list xs)) (eb:σ.hp b = some (.list ys)) (h:Q (.ref n) (σ.put n (.list (xs ++ ys)))) (hz:xs.length + ys.length ≤ 1000000):MW2 c RVal (.ref n) (.ref b) (inplaceOp .Add) Q σ:=fun ρ δ news m s x y R V U=>by
 obtain ⟨vs,k,a,w,d⟩:=seq_at R e
 obtain ⟨us,k',a',w',d'⟩:=seq_at R eb
 have V1:=V
 rw [V.1,U.1]
 have N:=R.nw _ a
 have N':=R.nw _ a'
 have hd:¬(!vs.toArray.isEmpty && Builtin.List.listTooLong (vs.toArray.size + us.toArray.size)) = true:=by
  have:Builtin.List.listTooLong (vs.toArray.size + us.toArray.size) = false:=by
   unfold Builtin.List.listTooLong
   simp only [List.size_toArray,w.length,w'.length,sizeLine_eq,decide_eq_false_iff_not];exact fun q=>cf2 q hz
  rw [this,Bool.and_false];exact Bool.false_ne_true
 refine wpAny_iaddL d.typeIs d'.typeIs (call_meets PySem.F.slot_list_iadd ⟨_,N.1,rfl⟩ PySem.F.entry_list_iadd (PySem.F.args_list_iadd_2 _ _) (PySem.AutoSeq1.list___iadd___list_list_0 (ρ n) vs.toArray k (ρ b) us.toArray k' hd (by simp only [List.size_toArray,w.length,sizeLine_eq];exact cb1 hz) (by simp only [List.size_toArray,w.length,w'.length,sizeLine_eq];omega)) ⟨N.1,N'.1,?_⟩)
 have q:=PySem.IsL.update N.1 (· ++ us.toArray)
 obtain ⟨news',R'⟩:=R.turn (tk:=s.toks) e rfl rfl a (o':=.list (xs ++ ys)) (Heap.SameBut.update ..) q fun news' hm=>⟨vs ++ us,_,by rw [show (vs ++ us).toArray = vs.toArray ++ us.toArray by simp];exact hm,(w.append w').ext (ext_set (δ:=δ))⟩
 exact ⟨.ref n,_,ρ,δ,news',m,ext_set,R',⟨rfl,set_dom V1.2⟩,h⟩
end
structure Good (c:Cx):Prop where
 ok:c.Ok
 hK:c.K = KK c.w.params
noncomputable def Rm (c:Cx) (k:Nat):Prop:=c.A.depth + k < recursionLimit ∧ c.A.units + 3 * k + 64 < cLine
theorem Rm.down {c:Cx} {k k' : Nat} {B:Heap} {L:Addr} {q:Str} {sc:Scope} {f:Addr} {cd:Value} (r:Rm c k) (h:k' + 1 ≤ k):Rm (c.sub B L q sc f cd) k':=by
 obtain ⟨a,b⟩:=r
 refine ⟨?_,?_⟩
 ·show c.A.depth + 1 + k' < _;exact cb2 h a
 ·show c.A.units + 3 + 3 * k' + 64 < _;exact cb4 h h h b
theorem Rm.less {c:Cx} {k k' : Nat} (r:Rm c k) (h:k' ≤ k):Rm c k':=⟨by have:=r.1;exact cb2 h this,by have:=r.2;exact cb4 h h h this⟩
section
variable {c:Cx} {σ:St}
theorem q_get {n:Nm} {C:Addr} {fs:List (Str × V)} {a:Str} {v:V} {ex:Bool} {Q:V → St → Prop} (g:Good c) (e:σ.hp n = some (.inst C fs)) (f:fieldOk (KK c.w.params) C a = true) (gg:getF a fs = some v) (h:Q v σ) (o:autoParam (v.okV = true) aR) :
  MW1 c RVal (.ref n) (fun x=>getAttr x a ex) Q σ:=m_get g.ok e (by rw [g.hK];exact f) gg h o
theorem q_set {n:Nm} {C:Addr} {fs:List (Str × V)} {a:Str} {v:V} {Q:Unit → St → Prop} (g:Good c) (e:σ.hp n = some (.inst C fs)) (f:setOk (KK c.w.params) C a = true) (h:Q () (σ.put n (.inst C (putF a v fs)))) (hz:autoParam (fs.length ≤ 500) aD) :
  MW2 c RUnit (.ref n) v (fun x y=>setAttr x a y) Q σ:=m_set g.ok e (by rw [g.hK];exact f) h hz
theorem q_fun {f:Addr} {fd:FuncData} {body:List Stmt} {qual:Str} {scope:Scope} {cd:Value} (ps:List Str) {vs:List V} (us:List V) {Q:V → St → Prop} {k:Nat} (g:Good c) (room:Rm c (k + 1)) (dk:∀ P,defOk (KK P) f fd body qual scope cd ps)
  (hb:∀ ρ s xs,c.K.In s.heap → Vals ρ σ.hp vs xs → ∃ ys,BindsTo s fd ⟨xs,[]⟩ (ps.zip ys) ∧ Vals ρ σ.hp us ys) (hl:us.length = ps.length)
  (h:∀ B L,let c':=c.sub B L qual scope f cd;let QQ:Fl → St → Prop:=fun fl σ'=>Q fl.val ⟨σ.vars,σ'.hp⟩;Good c' → Rm c' k → mB c' body QQ ⟨fun x=>(ps.zip us).lookup x,σ.hp⟩):mCall c f vs Q σ:=
 m_def g.ok (by have:=room.1;exact cb1 this) (by rw [g.hK];exact dk _) hb hl fun B L ok=>h B L ⟨ok,g.hK⟩ (room.down (Nat.le_refl _))
theorem Vals.nil_inv {ρ:Nm → Addr} {h:H} {xs:List Value} (W:Vals ρ h [] xs):xs = []:=by cases W;rfl
theorem Vals.cons_inv {ρ:Nm → Addr} {h:H} {v:V} {vs:List V} {xs:List Value} (W:Vals ρ h (v :: vs) xs):∃ y ys,xs = y :: ys ∧ Val ρ h v y ∧ Vals ρ h vs ys:=by cases W with | cons a b=>exact ⟨_,_,rfl,a,b⟩
theorem hb0 {σ:St} {fd:FuncData} {K:Frag} (h:bindArgs fd ⟨[],[]⟩ = pure ([].zip [])):∀ (ρ:Nm → Addr) (s:Shared) xs,K.In s.heap → Vals ρ σ.hp [] xs → ∃ ys,BindsTo s fd ⟨xs,[]⟩ (([]:List Str).zip ys) ∧ Vals ρ σ.hp [] ys:=fun ρ s xs _ W=>by
 cases W;exact ⟨[],.of_eq h,.nil⟩
theorem hb1 {σ:St} {fd:FuncData} {K:Frag} {a:Str} {v:V} (h:∀ x,bindArgs fd ⟨[x],[]⟩ = pure [(a,x)]):∀ (ρ:Nm → Addr) (s:Shared) xs,K.In s.heap → Vals ρ σ.hp [v] xs → ∃ ys,BindsTo s fd ⟨xs,[]⟩ ([a].zip ys) ∧ Vals ρ σ.hp [v] ys:=fun ρ s xs _ W=>by
 obtain ⟨x,_,rfl,_,W1⟩:=W.cons_inv;cases W1.nil_inv;exact ⟨_,.of_eq (h _),W⟩
theorem hb2 {σ:St} {fd:FuncData} {K:Frag} {a b:Str} {v u:V} (h:∀ x y,bindArgs fd ⟨[x,y],[]⟩ = pure [(a,x),(b,y)]):∀ (ρ:Nm → Addr) (s:Shared) xs,K.In s.heap → Vals ρ σ.hp [v,u] xs → ∃ ys,BindsTo s fd ⟨xs,[]⟩ ([a,b].zip ys) ∧ Vals ρ σ.hp [v,u] ys:=fun ρ s xs _ W=>by
 obtain ⟨x,_,rfl,_,W1⟩:=W.cons_inv;obtain ⟨y,_,rfl,_,W2⟩:=W1.cons_inv;cases W2.nil_inv;exact ⟨_,.of_eq (h _ _),W⟩
theorem hb3 {σ:St} {fd:FuncData} {K:Frag} {a b d:Str} {v u z:V} (h:∀ x y w,bindArgs fd ⟨[x,y,w],[]⟩ = pure [(a,x),(b,y),(d,w)]):∀ (ρ:Nm → Addr) (s:Shared) xs,K.In s.heap → Vals ρ σ.hp [v,u,z] xs → ∃ ys,BindsTo s fd ⟨xs,[]⟩ ([a,b,d].zip ys) ∧ Vals ρ σ.hp [v,u,z] ys:=fun ρ s xs _ W=>by
 obtain ⟨x,_,rfl,_,W1⟩:=W.cons_inv;obtain ⟨y,_,rfl,_,W2⟩:=W1.cons_inv;obtain ⟨w,_,rfl,_,W3⟩:=W2.cons_inv;cases W3.nil_inv;exact ⟨_,.of_eq (h _ _ _),W⟩
theorem hb4 {σ:St} {fd:FuncData} {K:Frag} {a b d e:Str} {v u z i:V} (h:∀ x y w j,bindArgs fd ⟨[x,y,w,j],[]⟩ = pure [(a,x),(b,y),(d,w),(e,j)]):∀ (ρ:Nm → Addr) (s:Shared) xs,K.In s.heap → Vals ρ σ.hp [v,u,z,i] xs → ∃ ys,BindsTo s fd ⟨xs,[]⟩ ([a,b,d,e].zip ys) ∧ Vals ρ σ.hp [v,u,z,i] ys:=fun ρ s xs _ W=>by
 obtain ⟨x,_,rfl,_,W1⟩:=W.cons_inv;obtain ⟨y,_,rfl,_,W2⟩:=W1.cons_inv;obtain ⟨w,_,rfl,_,W3⟩:=W2.cons_inv;obtain ⟨j,_,rfl,_,W4⟩:=W3.cons_inv;cases W4.nil_inv;exact ⟨_,.of_eq (h _ _ _ _),W⟩
theorem hb5 {σ:St} {fd:FuncData} {K:Frag} {a b d e f:Str} {v u z i o:V} (h:∀ x y w j l,bindArgs fd ⟨[x,y,w,j,l],[]⟩ = pure [(a,x),(b,y),(d,w),(e,j),(f,l)]):∀ (ρ:Nm → Addr) (s:Shared) xs,K.In s.heap → Vals ρ σ.hp [v,u,z,i,o] xs → ∃ ys,BindsTo s fd ⟨xs,[]⟩ ([a,b,d,e,f].zip ys) ∧ Vals ρ σ.hp [v,u,z,i,o] ys:=fun ρ s xs _ W=>by
 obtain ⟨x,_,rfl,_,W1⟩:=W.cons_inv;obtain ⟨y,_,rfl,_,W2⟩:=W1.cons_inv;obtain ⟨w,_,rfl,_,W3⟩:=W2.cons_inv;obtain ⟨j,_,rfl,_,W4⟩:=W3.cons_inv;obtain ⟨l,_,rfl,_,W5⟩:=W4.cons_inv;cases W5.nil_inv;exact ⟨_,.of_eq (h _ _ _ _ _),W⟩
noncomputable abbrev kM (c:Cx) (C f:Addr) (a:Str) (pos:Pos) (es:List Expr) (Q:V → St → Prop) (v:V) (σ:St):Prop:=∃ n fs,v = .ref n ∧ σ.hp n = some (.inst C fs) ∧ getF a fs = none ∧ mL c pos es (kCm c f n Q) σ
noncomputable abbrev kM0 (c:Cx) (C f:Addr) (a:Str) (Q:V → St → Prop) (v:V) (σ:St):Prop:=∃ n fs,v = .ref n ∧ σ.hp n = some (.inst C fs) ∧ getF a fs = none ∧ mCall c f [.ref n] Q σ
noncomputable def nkB (K:Frag) (x:Str) (f:Addr):Bool:=match nsIn K mainGlobals x with
 | some (some (.ref a))=>Nat.beq a f && keepIn K (.ref f)
 | _=>false
set_option tactic.hygienic true in
theorem nk1 {K:Frag} {x:Str} {f:Addr} (h:nkB K x f = true):nsIn K mainGlobals x = some (some (.ref f)) ∧ keepIn K (.ref f) = true:=by
 unfold nkB at h
 split at h
 ·next a e=>exact ba h fun h1 h2=>⟨e.trans (by rw [Nat.eq_of_beq_eq_true h1]),h2⟩
 ·cases h
theorem q_call {x:Str} {p:Pos} {f:Addr} {e₁:Expr} {rest:List Expr} {pos:Pos} {Q:V → St → Prop} (g:Good c) (nk:∀ P,nkB (KK P) x f = true)
  (h:mL c pos (e₁ :: rest) (kC c f Q) σ) (hk:autoParam (c.env.kindOf x = some .globalImplicit) aR) (hd:autoParam ((x == ("__debug__" : Str)) = false) aD)
  (he:autoParam (eval (.Call (.Name x p) (e₁ :: rest) [] pos) c.env = (do callWith pos (← eval (.Name x p) c.env) [] (backTo pos (starEach (e₁ :: rest) c.env)) (backToKw pos (keywordEach [] c.env)))) aR)
  (h1:autoParam (starEach (e₁ :: rest) c.env = (false,eval e₁ c.env) :: starEach rest c.env) aR) (h2:autoParam ((backTo pos (starEach rest c.env)).any (·.1) = false) aR):mE c (.Call (.Name x p) (e₁ :: rest) [] pos) Q σ:=
 mE_call g.ok (mE_global g.ok (by rw [g.hK];exact (nk1 (nk _)).1) ⟨f,rfl,by rw [g.hK];exact (nk1 (nk _)).2,h⟩ hk hd) he h1 h2
theorem q_call0 {x:Str} {p:Pos} {f:Addr} {pos:Pos} {Q:V → St → Prop} (g:Good c) (nk:∀ P,nkB (KK P) x f = true)
  (h:mCall c f [] Q σ) (hk:autoParam (c.env.kindOf x = some .globalImplicit) aR) (hd:autoParam ((x == ("__debug__" : Str)) = false) aD)
  (he:autoParam (eval (.Call (.Name x p) [] [] pos) c.env = (do callWith pos (← eval (.Name x p) c.env) [] (backTo pos (starEach [] c.env)) (backToKw pos (keywordEach [] c.env)))) aR):mE c (.Call (.Name x p) [] [] pos) Q σ:=
 mE_call0 g.ok (mE_global g.ok (by rw [g.hK];exact (nk1 (nk _)).1) ⟨f,rfl,by rw [g.hK];exact (nk1 (nk _)).2,h⟩ hk hd) he
theorem q_meth {o e₁:Expr} {rest:List Expr} {a:Str} {apos pos:Pos} {pl:Sem Bool} {Q:V → St → Prop} (C f:Addr) (g:Good c) (mo:methOk (KK c.w.params) C a f = true)
  (h:mE c o (kM c C f a pos (e₁ :: rest) Q) σ)
  (he:autoParam (eval (.Call (.Attribute o a apos) (e₁ :: rest) [] pos) c.env = (do
   let ov ← eval o c.env
   standAt apos.atName
   let (f,first) ← holding [ov] (getMethod ov a pl)
   callWith pos f first (backTo pos (starEach (e₁ :: rest) c.env)) [])) aR)
  (h1:autoParam (starEach (e₁ :: rest) c.env = (false,eval e₁ c.env) :: starEach rest c.env) aR) (h2:autoParam ((backTo pos (starEach rest c.env)).any (·.1) = false) aR) :
  mE c (.Call (.Attribute o a apos) (e₁ :: rest) [] pos) Q σ:=mE_meth g.ok (h.mono fun v σ' ⟨n,fs,a,b,d,e⟩=>⟨n,C,fs,f,a,b,by rw [g.hK];exact mo,d,e⟩) he h1 h2
theorem q_meth0 {o:Expr} {a:Str} {apos pos:Pos} {pl:Sem Bool} {Q:V → St → Prop} (C f:Addr) (g:Good c) (mo:methOk (KK c.w.params) C a f = true)
  (h:mE c o (kM0 c C f a Q) σ)
  (he:autoParam (eval (.Call (.Attribute o a apos) [] [] pos) c.env = (do
   let ov ← eval o c.env
   standAt apos.atName
   let (f,first) ← holding [ov] (getMethod ov a pl)
   callWith pos f first (backTo pos (starEach [] c.env)) [])) aR) :
  mE c (.Call (.Attribute o a apos) [] [] pos) Q σ:=mE_meth0 g.ok (h.mono fun v σ' ⟨n,fs,a,b,d,e⟩=>⟨n,C,fs,f,a,b,by rw [g.hK];exact mo,d,e⟩) he
theorem q_new (n:Nm) {C fI:Addr} {vs:List V} {Q:V → St → Prop} {k:Nat} (g:Good c) (room:Rm c (k + 1)) (hn:σ.hp n = none) (hm:makesIn (KK c.w.params) C = true) (hi:findIn (KK c.w.params) (.ref C) "__init__" = some (some (.ref fI))) (hf:isFn (KK c.w.params) (.ref fI) = true)
  (h:∀ c',Good c' → Rm c' k → c'.w = c.w → mCall c' fI (.ref n :: vs) (fun v σ'=>v = .none ∧ Q (.ref n) σ') (σ.put n (.inst C []))):mCall c C vs Q σ:=
 m_new n g.ok hn (by rw [g.hK];exact hm) (by rw [g.hK];exact hi) (by rw [g.hK];exact hf) fun A' h1 h2 h3=>h _ ⟨⟨g.ok.X,g.ok.T,g.ok.fk,g.ok.loc,g.ok.glo,g.ok.blt,g.ok.cells,h3.trans g.ok.hh⟩,g.hK⟩ ⟨by show A'.depth + k < _;have:=room.1;exact cb2 (eL h1) this,by show A'.units + 3 * k + 64 < _;have:=room.2;exact cb2 (eL h2) this⟩ rfl
end
section
variable (P:Params)
@[simp] theorem fq1:fieldOk (KK P) 1079 "kind" := by kernel_rfl
@[simp] theorem fq2:setOk (KK P) 1079 "kind" := by kernel_rfl
@[simp] theorem fq3:fieldOk (KK P) 1079 "value" := by kernel_rfl
@[simp] theorem fq4:setOk (KK P) 1079 "value" := by kernel_rfl
@[simp] theorem fq5:fieldOk (KK P) 1079 "place" := by kernel_rfl
@[simp] theorem fq6:setOk (KK P) 1079 "place" := by kernel_rfl
@[simp] theorem mk_Token:makesIn (KK P) 1079:=by kernel_rfl
@[simp] theorem in_Token:findIn (KK P) (.ref 1079) "__init__" = some (some (.ref 1076)):=by kernel_rfl
@[simp] theorem if_Token:isFn (KK P) (.ref 1076):=by kernel_rfl
@[simp] theorem fq7:fieldOk (KK P) 1227 "source" := by kernel_rfl
@[simp] theorem fq8:setOk (KK P) 1227 "source" := by kernel_rfl
@[simp] theorem fq9:fieldOk (KK P) 1227 "errors" := by kernel_rfl
@[simp] theorem fq10:setOk (KK P) 1227 "errors" := by kernel_rfl
@[simp] theorem fq11:fieldOk (KK P) 1227 "place" := by kernel_rfl
@[simp] theorem fq12:setOk (KK P) 1227 "place" := by kernel_rfl
@[simp] theorem fq13:fieldOk (KK P) 1227 "words" := by kernel_rfl
@[simp] theorem fq14:setOk (KK P) 1227 "words" := by kernel_rfl
@[simp] theorem mk_Scanner:makesIn (KK P) 1227:=by kernel_rfl
@[simp] theorem in_Scanner:findIn (KK P) (.ref 1227) "__init__" = some (some (.ref 1132)):=by kernel_rfl
@[simp] theorem if_Scanner:isFn (KK P) (.ref 1132):=by kernel_rfl
@[simp] theorem me_Scanner_char:methOk (KK P) 1227 "char" 1140:=by kernel_rfl
@[simp] theorem me_Scanner_take:methOk (KK P) 1227 "take" 1147:=by kernel_rfl
@[simp] theorem me_Scanner_skip:methOk (KK P) 1227 "skip" 1154:=by kernel_rfl
@[simp] theorem me_Scanner_word:methOk (KK P) 1227 "word" 1168:=by kernel_rfl
@[simp] theorem me_Scanner_numeral:methOk (KK P) 1227 "numeral" 1175:=by kernel_rfl
@[simp] theorem me_Scanner_whole:methOk (KK P) 1227 "whole" 1182:=by kernel_rfl
@[simp] theorem me_Scanner_symbol:methOk (KK P) 1227 "symbol" 1224:=by kernel_rfl
@[simp] theorem fq15:fieldOk (KK P) 1403 "scanner" := by kernel_rfl
@[simp] theorem fq16:setOk (KK P) 1403 "scanner" := by kernel_rfl
@[simp] theorem fq17:fieldOk (KK P) 1403 "types" := by kernel_rfl
@[simp] theorem fq18:setOk (KK P) 1403 "types" := by kernel_rfl
@[simp] theorem fq19:fieldOk (KK P) 1403 "errors" := by kernel_rfl
@[simp] theorem fq20:setOk (KK P) 1403 "errors" := by kernel_rfl
@[simp] theorem fq21:setOk (KK P) 1403 "importer" := by kernel_rfl
@[simp] theorem fq22:fieldOk (KK P) 1403 "scopes" := by kernel_rfl
@[simp] theorem fq23:setOk (KK P) 1403 "scopes" := by kernel_rfl
@[simp] theorem fq24:fieldOk (KK P) 1403 "module" := by kernel_rfl
@[simp] theorem fq25:setOk (KK P) 1403 "module" := by kernel_rfl
@[simp] theorem fq26:setOk (KK P) 1403 "procs" := by kernel_rfl
@[simp] theorem fq27:fieldOk (KK P) 1403 "records" := by kernel_rfl
@[simp] theorem fq28:setOk (KK P) 1403 "records" := by kernel_rfl
@[simp] theorem fq29:fieldOk (KK P) 1403 "forwards" := by kernel_rfl
@[simp] theorem fq30:setOk (KK P) 1403 "forwards" := by kernel_rfl
@[simp] theorem fq31:setOk (KK P) 1403 "level" := by kernel_rfl
@[simp] theorem fq32:fieldOk (KK P) 1403 "token" := by kernel_rfl
@[simp] theorem fq33:setOk (KK P) 1403 "token" := by kernel_rfl
@[simp] theorem mk_Reader:makesIn (KK P) 1403:=by kernel_rfl
@[simp] theorem in_Reader:findIn (KK P) (.ref 1403) "__init__" = some (some (.ref 1351)):=by kernel_rfl
@[simp] theorem if_Reader:isFn (KK P) (.ref 1351):=by kernel_rfl
@[simp] theorem me_Reader_step:methOk (KK P) 1403 "step" 1358:=by kernel_rfl
@[simp] theorem me_Reader_at:methOk (KK P) 1403 "at" 1365:=by kernel_rfl
@[simp] theorem me_Reader_skip:methOk (KK P) 1403 "skip" 1372:=by kernel_rfl
@[simp] theorem me_Reader_expect:methOk (KK P) 1403 "expect" 1379:=by kernel_rfl
@[simp] theorem me_Reader_name:methOk (KK P) 1403 "name" 1393:=by kernel_rfl
@[simp] theorem fq34:fieldOk (KK P) 864 "counter" := by kernel_rfl
@[simp] theorem fq35:setOk (KK P) 864 "counter" := by kernel_rfl
@[simp] theorem fq36:fieldOk (KK P) 864 "known" := by kernel_rfl
@[simp] theorem fq37:setOk (KK P) 864 "known" := by kernel_rfl
@[simp] theorem fq38:fieldOk (KK P) 864 "boolean" := by kernel_rfl
@[simp] theorem fq39:setOk (KK P) 864 "boolean" := by kernel_rfl
@[simp] theorem fq40:fieldOk (KK P) 864 "char" := by kernel_rfl
@[simp] theorem fq41:setOk (KK P) 864 "char" := by kernel_rfl
@[simp] theorem fq42:fieldOk (KK P) 864 "byte" := by kernel_rfl
@[simp] theorem fq43:setOk (KK P) 864 "byte" := by kernel_rfl
@[simp] theorem fq44:fieldOk (KK P) 864 "integer" := by kernel_rfl
@[simp] theorem fq45:setOk (KK P) 864 "integer" := by kernel_rfl
@[simp] theorem fq46:fieldOk (KK P) 864 "mask" := by kernel_rfl
@[simp] theorem fq47:setOk (KK P) 864 "mask" := by kernel_rfl
@[simp] theorem fq48:fieldOk (KK P) 864 "nil" := by kernel_rfl
@[simp] theorem fq49:setOk (KK P) 864 "nil" := by kernel_rfl
@[simp] theorem fq50:fieldOk (KK P) 864 "none" := by kernel_rfl
@[simp] theorem fq51:setOk (KK P) 864 "none" := by kernel_rfl
@[simp] theorem mk_Types:makesIn (KK P) 864:=by kernel_rfl
@[simp] theorem in_Types:findIn (KK P) (.ref 864) "__init__" = some (some (.ref 846)):=by kernel_rfl
@[simp] theorem if_Types:isFn (KK P) (.ref 846):=by kernel_rfl
@[simp] theorem me_Types_new:methOk (KK P) 864 "new" 854:=by kernel_rfl
@[simp] theorem fq52:fieldOk (KK P) 807 "number" := by kernel_rfl
@[simp] theorem fq53:setOk (KK P) 807 "number" := by kernel_rfl
@[simp] theorem fq54:fieldOk (KK P) 807 "form" := by kernel_rfl
@[simp] theorem fq55:setOk (KK P) 807 "form" := by kernel_rfl
@[simp] theorem fq56:fieldOk (KK P) 807 "size" := by kernel_rfl
@[simp] theorem fq57:setOk (KK P) 807 "size" := by kernel_rfl
@[simp] theorem fq58:fieldOk (KK P) 807 "base" := by kernel_rfl
@[simp] theorem fq59:setOk (KK P) 807 "base" := by kernel_rfl
@[simp] theorem fq60:fieldOk (KK P) 807 "length" := by kernel_rfl
@[simp] theorem fq61:setOk (KK P) 807 "length" := by kernel_rfl
@[simp] theorem fq62:fieldOk (KK P) 807 "fields" := by kernel_rfl
@[simp] theorem fq63:setOk (KK P) 807 "fields" := by kernel_rfl
@[simp] theorem fq64:fieldOk (KK P) 807 "level" := by kernel_rfl
@[simp] theorem fq65:setOk (KK P) 807 "level" := by kernel_rfl
@[simp] theorem fq66:setOk (KK P) 807 "params" := by kernel_rfl
@[simp] theorem fq67:setOk (KK P) 807 "module" := by kernel_rfl
@[simp] theorem fq68:fieldOk (KK P) 807 "label" := by kernel_rfl
@[simp] theorem fq69:setOk (KK P) 807 "label" := by kernel_rfl
@[simp] theorem fq70:fieldOk (KK P) 807 "hidden" := by kernel_rfl
@[simp] theorem fq71:setOk (KK P) 807 "hidden" := by kernel_rfl
@[simp] theorem fq72:setOk (KK P) 807 "exno" := by kernel_rfl
@[simp] theorem mk_Type:makesIn (KK P) 807:=by kernel_rfl
@[simp] theorem in_Type:findIn (KK P) (.ref 807) "__init__" = some (some (.ref 804)):=by kernel_rfl
@[simp] theorem if_Type:isFn (KK P) (.ref 804):=by kernel_rfl
@[simp] theorem fq73:fieldOk (KK P) 828 "name" := by kernel_rfl
@[simp] theorem fq74:setOk (KK P) 828 "name" := by kernel_rfl
@[simp] theorem fq75:fieldOk (KK P) 828 "kind" := by kernel_rfl
@[simp] theorem fq76:setOk (KK P) 828 "kind" := by kernel_rfl
@[simp] theorem fq77:fieldOk (KK P) 828 "type" := by kernel_rfl
@[simp] theorem fq78:setOk (KK P) 828 "type" := by kernel_rfl
@[simp] theorem fq79:setOk (KK P) 828 "place" := by kernel_rfl
@[simp] theorem fq80:fieldOk (KK P) 828 "exported" := by kernel_rfl
@[simp] theorem fq81:setOk (KK P) 828 "exported" := by kernel_rfl
@[simp] theorem fq82:setOk (KK P) 828 "readonly" := by kernel_rfl
@[simp] theorem fq83:setOk (KK P) 828 "level" := by kernel_rfl
@[simp] theorem fq84:setOk (KK P) 828 "module" := by kernel_rfl
@[simp] theorem fq85:fieldOk (KK P) 828 "value" := by kernel_rfl
@[simp] theorem fq86:setOk (KK P) 828 "value" := by kernel_rfl
@[simp] theorem fq87:setOk (KK P) 828 "slot" := by kernel_rfl
@[simp] theorem fq88:fieldOk (KK P) 828 "offset" := by kernel_rfl
@[simp] theorem fq89:setOk (KK P) 828 "offset" := by kernel_rfl
@[simp] theorem fq90:fieldOk (KK P) 828 "number" := by kernel_rfl
@[simp] theorem fq91:setOk (KK P) 828 "number" := by kernel_rfl
@[simp] theorem fq92:setOk (KK P) 828 "isparam" := by kernel_rfl
@[simp] theorem fq93:setOk (KK P) 828 "narrowed" := by kernel_rfl
@[simp] theorem mk_Obj:makesIn (KK P) 828:=by kernel_rfl
@[simp] theorem in_Obj:findIn (KK P) (.ref 828) "__init__" = some (some (.ref 825)):=by kernel_rfl
@[simp] theorem if_Obj:isFn (KK P) (.ref 825):=by kernel_rfl
@[simp] theorem fq94:fieldOk (KK P) 1311 "types" := by kernel_rfl
@[simp] theorem fq95:setOk (KK P) 1311 "types" := by kernel_rfl
@[simp] theorem fq96:fieldOk (KK P) 1311 "module" := by kernel_rfl
@[simp] theorem fq97:setOk (KK P) 1311 "module" := by kernel_rfl
@[simp] theorem fq98:fieldOk (KK P) 1311 "stack" := by kernel_rfl
@[simp] theorem fq99:setOk (KK P) 1311 "stack" := by kernel_rfl
@[simp] theorem fq100:fieldOk (KK P) 1311 "level" := by kernel_rfl
@[simp] theorem fq101:setOk (KK P) 1311 "level" := by kernel_rfl
@[simp] theorem mk_Scopes:makesIn (KK P) 1311:=by kernel_rfl
@[simp] theorem in_Scopes:findIn (KK P) (.ref 1311) "__init__" = some (some (.ref 1266)):=by kernel_rfl
@[simp] theorem if_Scopes:isFn (KK P) (.ref 1266):=by kernel_rfl
@[simp] theorem me_Scopes_open:methOk (KK P) 1311 "open" 1273:=by kernel_rfl
@[simp] theorem me_Scopes_add:methOk (KK P) 1311 "add" 1294:=by kernel_rfl
@[simp] theorem me_Scopes_insert:methOk (KK P) 1311 "insert" 1301:=by kernel_rfl
@[simp] theorem me_Scopes_find:methOk (KK P) 1311 "find" 1308:=by kernel_rfl
@[simp] theorem fq102:fieldOk (KK P) 1248 "level" := by kernel_rfl
@[simp] theorem fq103:setOk (KK P) 1248 "level" := by kernel_rfl
@[simp] theorem fq104:fieldOk (KK P) 1248 "label" := by kernel_rfl
@[simp] theorem fq105:setOk (KK P) 1248 "label" := by kernel_rfl
@[simp] theorem fq106:fieldOk (KK P) 1248 "names" := by kernel_rfl
@[simp] theorem fq107:setOk (KK P) 1248 "names" := by kernel_rfl
@[simp] theorem fq108:fieldOk (KK P) 1248 "order" := by kernel_rfl
@[simp] theorem fq109:setOk (KK P) 1248 "order" := by kernel_rfl
@[simp] theorem fq110:fieldOk (KK P) 1248 "slots" := by kernel_rfl
@[simp] theorem fq111:setOk (KK P) 1248 "slots" := by kernel_rfl
@[simp] theorem mk_Scope:makesIn (KK P) 1248:=by kernel_rfl
@[simp] theorem in_Scope:findIn (KK P) (.ref 1248) "__init__" = some (some (.ref 1245)):=by kernel_rfl
@[simp] theorem if_Scope:isFn (KK P) (.ref 1245):=by kernel_rfl
@[simp] theorem fq112:fieldOk (KK P) 1058 "rows" := by kernel_rfl
@[simp] theorem fq113:setOk (KK P) 1058 "rows" := by kernel_rfl
@[simp] theorem fq114:fieldOk (KK P) 1058 "places" := by kernel_rfl
@[simp] theorem fq115:setOk (KK P) 1058 "places" := by kernel_rfl
@[simp] theorem mk_ErrorList:makesIn (KK P) 1058:=by kernel_rfl
@[simp] theorem in_ErrorList:findIn (KK P) (.ref 1058) "__init__" = some (some (.ref 1034)):=by kernel_rfl
@[simp] theorem if_ErrorList:isFn (KK P) (.ref 1034):=by kernel_rfl
@[simp] theorem me_ErrorList_ok:methOk (KK P) 1058 "ok" 1055:=by kernel_rfl
@[simp] theorem fq116:fieldOk (KK P) 39 "op" := by kernel_rfl
@[simp] theorem fq117:setOk (KK P) 39 "op" := by kernel_rfl
@[simp] theorem fq118:fieldOk (KK P) 39 "place" := by kernel_rfl
@[simp] theorem fq119:setOk (KK P) 39 "place" := by kernel_rfl
@[simp] theorem fq120:fieldOk (KK P) 39 "type" := by kernel_rfl
@[simp] theorem fq121:setOk (KK P) 39 "type" := by kernel_rfl
@[simp] theorem fq122:setOk (KK P) 39 "kids" := by kernel_rfl
@[simp] theorem fq123:fieldOk (KK P) 39 "value" := by kernel_rfl
@[simp] theorem fq124:setOk (KK P) 39 "value" := by kernel_rfl
@[simp] theorem fq125:setOk (KK P) 39 "sure" := by kernel_rfl
@[simp] theorem mk_Node:makesIn (KK P) 39:=by kernel_rfl
@[simp] theorem in_Node:findIn (KK P) (.ref 39) "__init__" = some (some (.ref 36)):=by kernel_rfl
@[simp] theorem if_Node:isFn (KK P) (.ref 36):=by kernel_rfl
end
section
open PySem.Builtin PySem.Builtin.Str
noncomputable abbrev tx (l:List Nat):Str:=⟨l.toArray⟩
theorem tx_length (l:List Nat):(tx l).length = l.length:=by simp [tx,Str.length]
theorem tx_append (a b:List Nat):tx a ++ tx b = tx (a ++ b):=by
 show Str.append (tx a) (tx b) = _
 simp [Str.append,tx]
theorem clmp (i n:Nat):max (0:Int) (min (i:Int) (n:Int)) = max 0 (min ((min i n:Nat):Int) (n:Int)):=by
 rcases Nat.le_total i n with h | h
 ·rw [Nat.min_eq_left h]
 ·rw [Nat.min_eq_right h,Int.min_eq_right (Int.ofNat_le.mpr h),Int.min_self]
theorem slice_clamp (i j:Nat) (n:Nat):strSliceIndices (some (i:Int)) (some (j:Int)) 1 n = strSliceIndices (some ((min i n:Nat):Int)) (some ((min j n:Nat):Int)) 1 n:=by
 have nn:∀ k:Nat,¬ ((k:Int) < 0):=fun k=>Int.not_lt.mpr (Int.natCast_nonneg k)
 unfold strSliceIndices
 simp only [nn,if_false,show (1:Int) > 0 by decide,if_true]
 rw [clmp i,clmp j]
theorem slice_tx (l:List Nat) {i j:Nat} (h:i ≤ j):Txt.slice (tx l) (some (i:Int)) (some (j:Int)) = tx ((l.drop i).take (j - i)):=by
 have e:Txt.slice (tx l) (some (i:Int)) (some (j:Int)) = PySem.StrLaws.sliceText (tx l) (some ((min i l.length:Nat):Int)) (some ((min j l.length:Nat):Int)):=by
  unfold Txt.slice PySem.StrLaws.sliceText
  rw [slice_clamp i j,tx_length]
 rw [e,PySem.StrLaws.sliceText_nat (tx l) (by omega) (by rw [tx_length];exact mi5 Nat.le.refl)]
 show tx _ = tx _
 congr 1
 show (l.drop _).take _ = _
 rcases Nat.lt_or_ge i l.length with q | q
 ·rw [show min i l.length = i by exact mi1 q]
  rcases Nat.lt_or_ge j l.length with q' | q'
  ·rw [show min j l.length = j by exact mi1 q']
  ·rw [show min j l.length = l.length by exact Nat.min_eq_right q',List.take_of_length_le (by rw [List.length_drop];exact cl0),List.take_of_length_le (by rw [List.length_drop];omega)]
 ·rw [show min i l.length = l.length by exact Nat.min_eq_right q,List.drop_length,List.drop_eq_nil_of_le q]
  simp
theorem slice_tx' (l:List Nat) {i j:Int} {a b:Nat} (hi:i = a) (hj:j = b) (h:a ≤ b):Txt.slice (tx l) (some i) (some j) = tx ((l.drop a).take (b - a)):=by
 subst hi hj;exact slice_tx l h
theorem tx_inj {a b:List Nat}:(tx a == tx b) = (a == b):=by
 cases q:(a == b) with
 | true=>rw [eq_of_beq q];exact beq_self_eq_true _
 | false=>
  refine Bool.eq_false_iff.mpr fun h=>?_
  have:tx a = tx b:=eq_of_beq h
  have:a.toArray = b.toArray:=congrArg Str.cps this
  rw [List.toArray_inj this] at q
  simp at q
noncomputable def leS (a b:Str):Bool:=!decide (b.cps.toList < a.cps.toList)
noncomputable def isD (c:Nat):Bool:=decide (48 ≤ c) && decide (c ≤ 57)
noncomputable def isL (c:Nat):Bool:=(decide (97 ≤ c) && decide (c ≤ 122)) || (decide (65 ≤ c) && decide (c ≤ 90))
noncomputable def isH (c:Nat):Bool:=isD c || (decide (65 ≤ c) && decide (c ≤ 70))
noncomputable def one (p:Nat → Bool):List Nat → Bool
 | []=>false
 | c :: _=>p c
theorem leS_lit {a:Str} {k c:Nat} (e:a.cps.toList = [k]):leS a (tx [c]) = decide (k ≤ c):=by
 unfold leS
 rw [e]
 show (!decide ([c] < [k])) = _
 have:([c] < [k]) ↔ c < k:=⟨fun h=>(by cases h with | rel h=>exact h | cons h=>cases h),fun h=>.rel h⟩
 by_cases h:k ≤ c
 ·rw [decide_eq_true h,decide_eq_false (fun q=>by have:=this.mp q;exact cf2 h this)];rfl
 ·rw [decide_eq_false h,decide_eq_true (this.mpr (by exact cb1 (Nat.not_le.mp h)))];rfl
theorem leS_lit' {a:Str} {k c:Nat} (e:a.cps.toList = [k]):leS (tx [c]) a = decide (c ≤ k):=by
 unfold leS
 rw [e]
 show (!decide ([k] < [c])) = _
 have:([k] < [c]) ↔ k < c:=⟨fun h=>(by cases h with | rel h=>exact h | cons h=>cases h),fun h=>.rel h⟩
 by_cases h:c ≤ k
 ·rw [decide_eq_true h,decide_eq_false (fun q=>by have:=this.mp q;exact cf2 h this)];rfl
 ·rw [decide_eq_false h,decide_eq_true (this.mpr (by exact cb1 (Nat.not_le.mp h)))];rfl
theorem leS_nil {a:Str} {k:Nat} (e:a.cps.toList = [k]):leS a (tx []) = false:=by
 unfold leS
 rw [e]
 show (!decide ([] < [k])) = _
 simp
section
variable {c:Cx} {σ:St} {a b:Bool} {pos:Pos}
theorem and2 {e₁ e₂:Expr} {Q:V → St → Prop} (h1:∀ Q:V → St → Prop,Q (.bool a) σ → mE c e₁ Q σ) (h2:a = true → ∀ Q:V → St → Prop,Q (.bool b) σ → mE c e₂ Q σ) (h:Q (.bool (a && b)) σ):mE c (.BoolOp .And [e₁,e₂] pos) Q σ:=by
 refine mE_and (h1 _ (t_bool ?_))
 cases a with
 | false=>exact h
 | true=>exact mE_and1 (h2 rfl _ h)
theorem or2 {e₁ e₂:Expr} {Q:V → St → Prop} (h1:∀ Q:V → St → Prop,Q (.bool a) σ → mE c e₁ Q σ) (h2:a = false → ∀ Q:V → St → Prop,Q (.bool b) σ → mE c e₂ Q σ) (h:Q (.bool (a || b)) σ):mE c (.BoolOp .Or [e₁,e₂] pos) Q σ:=by
 refine mE_or (h1 _ (t_bool ?_))
 cases a with
 | true=>exact h
 | false=>exact mE_and1 (h2 rfl _ h)
theorem tand2 {e₁ e₂:Expr} {Q:Bool → St → Prop} (h1:∀ Q:Bool → St → Prop,Q a σ → mT c e₁ Q σ) (h2:a = true → ∀ Q:Bool → St → Prop,Q b σ → mT c e₂ Q σ) (h:Q (a && b) σ):mT c (.BoolOp .And [e₁,e₂] pos) Q σ:=by
 refine mT_and (h1 _ ?_)
 cases a with
 | false=>exact h
 | true=>
  refine mT_and (h2 rfl _ ?_)
  cases b with
  | false=>exact h
  | true=>exact mT_and0 h
theorem tor2 {e₁ e₂:Expr} {Q:Bool → St → Prop} (h1:∀ Q:Bool → St → Prop,Q a σ → mT c e₁ Q σ) (h2:a = false → ∀ Q:Bool → St → Prop,Q b σ → mT c e₂ Q σ) (h:Q (a || b) σ):mT c (.BoolOp .Or [e₁,e₂] pos) Q σ:=by
 refine mT_or (h1 _ ?_)
 cases a with
 | true=>exact h
 | false=>
  refine mT_or (h2 rfl _ ?_)
  cases b with
  | true=>exact h
  | false=>exact mT_or0 h
theorem c_leS' {x y:Str} {Q:V → St → Prop} (h:Q (.bool (leS x y)) σ):MW2 c RVal (.str x) (.str y) (compareOp .LtE) Q σ:=c_leS h
end
section
variable {c:Cx} {σ:St}
theorem q_bi {x:Str} {id:String} {p pos:Pos} {e₁:Expr} {rest:List Expr} {Q:V → St → Prop} (g:Good c) (hn:∀ P,nsIn (KK P) mainGlobals x = some none) (hv:bootBuiltins x = some (.builtin id))
  (h:mL c pos (e₁ :: rest) (kWs c RVal (fun xs=>call (.builtin id) xs) Q) σ) (hk:autoParam (c.env.kindOf x = some .globalImplicit) aR) (hne:autoParam (x ≠ "__name__") aD) (hd:autoParam ((x == ("__debug__" : Str)) = false) aD)
  (he:autoParam (eval (.Call (.Name x p) (e₁ :: rest) [] pos) c.env = (do callWith pos (← eval (.Name x p) c.env) [] (backTo pos (starEach (e₁ :: rest) c.env)) (backToKw pos (keywordEach [] c.env)))) aR)
  (h1:autoParam (starEach (e₁ :: rest) c.env = (false,eval e₁ c.env) :: starEach rest c.env) aR) (h2:autoParam ((backTo pos (starEach rest c.env)).any (·.1) = false) aR):mE c (.Call (.Name x p) (e₁ :: rest) [] pos) Q σ:=
 mE_bi (mE_builtin g.ok (by rw [g.hK];exact hn _) hv ⟨id,rfl,h⟩ hne hk hd) he h1 h2
theorem q_ty {x:Str} {id:String} {p pos:Pos} {e₁:Expr} {rest:List Expr} {Q:V → St → Prop} (g:Good c) (hn:∀ P,nsIn (KK P) mainGlobals x = some none) (hv:bootBuiltins x = some (.type id))
  (h:mL c pos (e₁ :: rest) (kWs c RVal (fun xs=>call (.type id) xs) Q) σ) (hk:autoParam (c.env.kindOf x = some .globalImplicit) aR) (hne:autoParam (x ≠ "__name__") aD) (hd:autoParam ((x == ("__debug__" : Str)) = false) aD)
  (he:autoParam (eval (.Call (.Name x p) (e₁ :: rest) [] pos) c.env = (do callWith pos (← eval (.Name x p) c.env) [] (backTo pos (starEach (e₁ :: rest) c.env)) (backToKw pos (keywordEach [] c.env)))) aR)
  (h1:autoParam (starEach (e₁ :: rest) c.env = (false,eval e₁ c.env) :: starEach rest c.env) aR) (h2:autoParam ((backTo pos (starEach rest c.env)).any (·.1) = false) aR):mE c (.Call (.Name x p) (e₁ :: rest) [] pos) Q σ:=
 mE_ty (mE_builtin g.ok (by rw [g.hK];exact hn _) hv ⟨id,rfl,h⟩ hne hk hd) he h1 h2
end
theorem nb_ord (P:Params):nsIn (KK P) mainGlobals "ord" = some none:=by kernel_rfl
theorem nb_len (P:Params):nsIn (KK P) mainGlobals "len" = some none:=by kernel_rfl
theorem nb_max (P:Params):nsIn (KK P) mainGlobals "max" = some none:=by kernel_rfl
theorem nb_abs (P:Params):nsIn (KK P) mainGlobals "abs" = some none:=by kernel_rfl
theorem nb_sorted (P:Params):nsIn (KK P) mainGlobals "sorted" = some none:=by kernel_rfl
theorem nb_int (P:Params):nsIn (KK P) mainGlobals "int" = some none:=by kernel_rfl
theorem nb_str (P:Params):nsIn (KK P) mainGlobals "str" = some none:=by kernel_rfl
theorem nb_list (P:Params):nsIn (KK P) mainGlobals "list" = some none:=by kernel_rfl
theorem nb_range (P:Params):nsIn (KK P) mainGlobals "range" = some none:=by kernel_rfl
theorem nb_reversed (P:Params):nsIn (KK P) mainGlobals "reversed" = some none:=by kernel_rfl
theorem bb_ord:bootBuiltins "ord" = some (.builtin "ord"):=rfl
theorem bb_len:bootBuiltins "len" = some (.builtin "len"):=rfl
theorem bb_max:bootBuiltins "max" = some (.builtin "max"):=rfl
theorem bb_abs:bootBuiltins "abs" = some (.builtin "abs"):=rfl
theorem bb_sorted:bootBuiltins "sorted" = some (.builtin "sorted"):=rfl
theorem bb_int:bootBuiltins "int" = some (.type "int"):=rfl
theorem bb_str:bootBuiltins "str" = some (.type "str"):=rfl
theorem bb_list:bootBuiltins "list" = some (.type "list"):=rfl
theorem bb_range:bootBuiltins "range" = some (.type "range"):=rfl
theorem bb_reversed:bootBuiltins "reversed" = some (.type "reversed"):=rfl
end
set_option hygiene false in
open Lean in
local macro_rules
 | `(tactic| walk_at "e")=>do
  let q ← `((by assumption))
  let ts ← ("mE _ ( Expr.Name _ _ ) _ _;mE_local ( Good.ok ! ) rfl ?;mE_local ( Good.ok ! ) ! ?;mE_cell ( Good.ok ! ) rfl ?;mE_cell ( Good.ok ! ) ! ?\nmE _ ( Expr.Constant ( Const.str _ ) _ _ ) _ _;mE_str ?\nmE _ ( Expr.Constant ( Const.int _ ) _ _ ) _ _;mE_int ?\nmE _ ( Expr.Constant Const.none _ _ ) _ _;mE_none ?\nmE _ ( Expr.Constant ( Const.bool _ ) _ _ ) _ _;mE_bool ?\nmE _ ( Expr.Attribute _ _ _ ) _ _;mE_attr ?\nmE _ ( Expr.Compare _ ( List.cons _ List.nil ) ( List.cons _ List.nil ) _ ) _ _;mE_cmp ?\nmE _ ( Expr.BinOp _ _ _ _ ) _ _;mE_bin ?\nmE _ ( Expr.UnaryOp _ _ _ ) _ _;mE_neg ?\nmE _ ( Expr.List _ _ ) _ _;mE_list ?\nmE _ ( Expr.Tuple _ _ _ ) _ _;mE_tup ?\nmE _ ( Expr.Subscript _ ( Expr.Slice ( Option.some _ ) ( Option.some _ ) Option.none _ ) _ ) _ _;mE_slice ?\nmE _ ( Expr.Subscript _ _ _ ) _ _;mE_sub ?\nmL _ _ ( List.cons _ _ ) _ _;mL_cons ?\nmL _ _ List.nil _ _;mL_nil ?\nmT _ ( Expr.Compare _ ( List.cons _ List.nil ) ( List.cons _ List.nil ) _ ) _ _;mT_cmp ?\nmT _ ( Expr.UnaryOp UnaryOp.Not _ _ ) _ _;mT_not ?\nmT _ _ _ _;mT_plain ?\nmB _ ( List.cons _ _ ) _ _;mB_cons ?\nmB _ List.nil _ _;mB_nil ?\nmS _ ( Stmt.Return ( Option.some _ ) _ ) _ _;mS_ret ?\nmS _ ( Stmt.Return Option.none _ ) _ _;mS_ret0 ?\nmS _ ( Stmt.Assign ( List.cons ( Expr.Name _ _ ) List.nil ) _ _ ) _ _;mS_assign ?\nmS _ ( Stmt.Assign ( List.cons ( Expr.Attribute _ _ _ ) List.nil ) _ _ ) _ _;mS_attr ?\nmS _ ( Stmt.Assign ( List.cons ( Expr.Subscript _ _ _ ) List.nil ) _ _ ) _ _;mS_sub ?\nmS _ ( Stmt.AugAssign ( Expr.Name _ _ ) _ _ _ ) _ _;mS_aug ?\nmS _ ( Stmt.AugAssign ( Expr.Attribute _ _ _ ) _ _ _ ) _ _;mS_augAttr ?\nmS _ ( Stmt.AugAssign ( Expr.Subscript _ _ _ ) _ _ _ ) _ _;mS_augSub ?\nmS _ ( Stmt.Expr _ _ ) _ _;mS_expr ?\nmS _ ( Stmt.Pass _ ) _ _;mS_pass ?\nmS _ ( Stmt.Break _ ) _ _;mS_break ?\nmS _ ( Stmt.Continue _ ) _ _;mS_continue ?\nMW1 _ _ _ ( storeName _ _ ) _ _;m_store ( Good.ok ! ) ?\nMW _ _ ( loadName _ _ ) _ _;mN_local ( Good.ok ! ) rfl ?;mN_local ( Good.ok ! ) ! ?".splitOn "\n").mapM fun x=>do
   let l:=(x.splitOn ";").map (btt q)
   let u ← bor (← l.tail.mapM fun b=>`(tactic| refine $b))
   `(tactic| ((with_reducible show $(l.head!));$u:tactic))
  bor (ts ++ [← `(tactic| ((with_reducible show Then _ _ _ .next _);show mB _ _ _ _))])
 | `(tactic| walk_at "es")=>`(tactic| repeat (walk_at "e"))
theorem q_put {c:Cx} {σ:St} {n:Nm} {C:Addr} {fs:List (Str × V)} {a:Str} {v:V} {Q:Unit → St → Prop} (g:Good c) (e:σ.hp n = some (.inst C fs)) (f:setOk (KK c.w.params) C a = true) (h:Q () (σ.put n (.inst C (putF a v fs)))) (hz:autoParam (fs.length ≤ 500) aN) :
  MW2 c RUnit (.ref n) v (fun x y=>setAttr x a y) Q σ:=q_set g e f h hz
noncomputable def Cx.top (prog:Program) (w:World) (K:Frag) (p:Program) (loose:List Str) (mg mb:Str → Option Value) (s:Shared) (qual:Str) (scope:Scope) (f:Addr) (cd:Value) (L:Addr):Cx:=
 { prog:=prog,w:=w,K:=K,p:=p,loose:=loose,mg:=mg,mb:=mb,A:=callerA.deeper (envOfC qual scope L f cd),B:=s.heap,L:=L,env:=envOfC qual scope L f cd,gs:=s.gens,os0:=s.os }
structure defOkC (K:Frag) (f:Addr) (fd:FuncData) (body:List Stmt) (qual:Str) (scope:Scope) (cd:Value) (x:Str):Prop where
 fn:FnAt K f fd body qual scope cd
 code:codeIn K cd qual = true
 co:scope.isCoroutine = false
 gen:scope.isGenerator = false
 kind:scope.kind = .function
 loc:scope.names.lookup x = some .local
theorem mem_lookup {l:List (Str × Addr)} {x:Str} {a:Addr} (h:l.lookup x = some a):(x,a) ∈ l:=mem_of_lk h
theorem m_entry {prog:Program} {w:World} {K:Frag} {p:Program} {loose:List Str} {mg mb:Str → Option Value} {s:Shared} {f:Addr} {fd:FuncData} {body:List Stmt} {qual:Str} {scope:Scope} {cd:Value} {x:Str} {val:Value} {u:V} {R:V → Prop}
  (X:K.In s.heap) (T:TopRead p loose mg mb s.heap) (dk:defOkC K f fd body qual scope cd x) (hb:bindArgs fd ⟨[val],[]⟩ = pure [(x,val)]) (hu:∀ ρ h,Val ρ h u val)
  (h:∀ L,(Cx.top prog w K p loose mg mb s qual scope f cd L).Ok → mB (Cx.top prog w K p loose mg mb s qual scope f cd L) body (fun fl σ'=>R fl.val) ⟨fun y=>if y = x then some u else none,fun _=>none⟩) :
  wpAny (model prog w) callerA (call (.ref f) [val]) (fun v s'=>(∃ b ρ h,R b ∧ Val ρ h b v) ∧ (∀ b o,s.heap.get? b = some o → s'.heap.get? b = some o) ∧ s'.gens = s.gens ∧ s'.os = s.os) (fun _ _=>False) s:=by
 obtain ⟨⟨name,params,dV,kV,doc,pm,an,ct,oc,od,osl,hfd,ho⟩,hcd,hco,hgen,hk,hx⟩:=dk
 have eS:fd.scope = scope:=by rw [hfd]
 have eB:fd.body = .stmts body:=by rw [hfd]
 have eC:fd.code = cd:=by rw [hfd]
 have eQ:fd.qualname = qual:=by rw [hfd]
 refine wpAny_call ?_
 refine codeAny_call_cells (fd:=fd) (body:=body) (binds:=[(x,val)]) (by decide +kernel) (X _ _ ho) rfl T.nolimit (by rw [eC,eQ];exact codeRec_of X hcd) eB hb (by rw [hfd]) (fun y hy=>by rw [List.mem_singleton.mp hy,eS];exact .inl hx) (fun s₁ hc=>?_) (by rw [eS];exact hco) (by rw [eS];exact hgen) (by rw [eS];exact hk)
 have eE:callEnvC fd s.heap.objs.size f = envOfC qual scope s.heap.objs.size f cd:=by rw [hfd];rfl
 rw [eE] at hc ⊢
 obtain ⟨hin,hcell,hap,hab⟩:=hc
 obtain ⟨⟨hq,tk,rfl⟩,hns,hkeep,hfresh⟩:=hin
 obtain ⟨cs,hcs⟩ : ∃ cs,cs = cellsFrom (s.heap.objs.size + 1) scope.names []:=⟨_,rfl⟩
 have hcell' : ∀ n c,cs.lookup n = some c → ∃ o v,hq.get? c = some o ∧ o.data = .cell v:=fun n c h=>by
  rw [hcs] at h
  obtain ⟨o,ho,hd⟩:=hcell n c h
  exact ⟨o,_,ho,hd⟩
 have hap' : cs.Pairwise fun x y=>x.2 ≠ y.2:=by rw [hcs];exact hap
 have hab' : ∀ n c,(n,c) ∈ cs → s.heap.objs.size < c:=by rw [hcs];exact hab
 let news:List (Addr × Obj):=(cs.filter fun x=>decide (cs.lookup x.1 = some x.2)).map fun x=>(x.2,(hq.get? x.2).getD default)
 have hnews:∀ q ∈ news,∃ n v,cs.lookup n = some q.1 ∧ (n,q.1) ∈ cs ∧ hq.get? q.1 = some q.2 ∧ q.2.data = .cell v:=fun q hq'=>by
  obtain ⟨y,hy,rfl⟩:=List.mem_map.mp hq'
  obtain ⟨h1,h2⟩:=List.mem_filter.mp hy
  have h2':=of_decide_eq_true h2
  obtain ⟨o,v,h3,h4⟩:=hcell' _ _ h2'
  exact ⟨y.1,v,h2',h1,by show hq.get? y.2 = some ((hq.get? y.2).getD default);rw [h3];rfl,by show ((hq.get? y.2).getD default).data = _;rw [h3];exact h4⟩
 have hnd:(news.map (·.1)).Nodup:=by
  have e:news.map (·.1) = (cs.filter fun x=>decide (cs.lookup x.1 = some x.2)).map (fun x:Str × Addr=>x.2):=by
   show List.map _ (List.map _ _) = _
   rw [List.map_map];rfl
  rw [e]
  exact List.Pairwise.map _ (fun a b h=>h) (hap'.sublist (List.filter_sublist))
 have okL:(Cx.top prog w K p loose mg mb s qual scope f cd (s.heap.objs.size)).Ok:=by
  refine ⟨X,T,hk,rfl,rfl,rfl,?_,rfl⟩
  show (List.map (·.2) (cellsFrom (s.heap.objs.size + 1) scope.names [])).Nodup
  rw [← hcs]
  exact List.Pairwise.map _ (fun a b h=>h) hap'
 have kx:(Cx.top prog w K p loose mg mb s qual scope f cd (s.heap.objs.size)).env.kindOf x = some .local:=hx
 have RL:Rel (Cx.top prog w K p loose mg mb s qual scope f cd (s.heap.objs.size)) ⟨fun y=>if y = x then some u else none,fun _=>none⟩ (fun _=>0) (fun _=>0) news (bindL (envOfC qual scope s.heap.objs.size f cd).kindOf [(x,val)] fun _=>none) { s with heap:=hq,toks:=tk }:=by
  refine ⟨⟨hns,hkeep,Nat.le_refl _⟩,fun q hq'=>?_,hnd,(fun n o e=>by cases e),(fun a b oa ob _ e=>by cases e),fun y v hy=>?_,fun y a e=>?_,rfl,rfl⟩
  ·obtain ⟨n,v,h1,h2,h3,h4⟩:=hnews q hq'
   have:=hab' _ _ h2
   refine ⟨h3,Nat.ne_of_gt this,?_⟩
   show s.heap.get? q.1 = none
   cases e:s.heap.get? q.1 with
   | none=>rfl
   | some o=>have h9:=Heap.lt_size e;exact absurd h9 (Nat.not_lt.mpr (Nat.le_of_lt this))
  ·have hy' : (if y = x then some u else none) = some v:=hy
   by_cases q:y = x
   ·subst q
    rw [if_pos rfl] at hy'
    cases hy'
    unfold VarAt
    rw [kx]
    refine ⟨val,?_,hu _ _⟩
    show (if (envOfC qual scope s.heap.objs.size f cd).kindOf y = some .local then fun z=>if z = y then some val else none else fun _=>none) y = some val
    rw [if_pos (show (envOfC qual scope s.heap.objs.size f cd).kindOf y = some .local from kx)]
    simp
   ·rw [if_neg q] at hy';cases hy'
  ·have e' : cs.lookup y = some a:=by rw [hcs];exact e
   obtain ⟨o,v,h1,h2⟩:=hcell' _ _ e'
   refine ⟨o,v,?_,h2⟩
   refine List.mem_map.mpr ⟨(y,a),List.mem_filter.mpr ⟨mem_lookup e',decide_eq_true e'⟩,?_⟩
   show (a,(hq.get? a).getD default) = (a,o)
   rw [h1];rfl
 refine wpAny_mono (h (s.heap.objs.size) okL _ _ _ _ _ RL) (fun fl s' p=>?_) fun _ _ x=>x.elim
 obtain ⟨b,σ',ρ',δ',news',m',X',R',V,q⟩:=p
 have fin:∀ v,Val ρ' σ'.hp b.val v → (∃ b ρ h,R b ∧ Val ρ h b v) ∧ (∀ b o,s.heap.get? b = some o → s'.heap.get? b = some o) ∧ s'.gens = s.gens ∧ s'.os = s.os:=fun v hv=>⟨⟨_,_,_,q,hv⟩,R'.fr.keep,R'.ext.1,R'.ext.2⟩
 cases fl <;> cases b <;> first | exact V.elim | exact fin _ rfl | exact fin _ V
theorem one_dgt (R:List Nat):(leS "0" (tx (R.take 1)) && leS (tx (R.take 1)) "9") = one isD R:=by
 cases R with
 | nil=>show (leS "0" (tx []) && _) = false;rw [leS_nil (k:=48) rfl];rfl
 | cons c r=>show (leS "0" (tx [c]) && leS (tx [c]) "9") = isD c;rw [leS_lit (k:=48) rfl,leS_lit' (k:=57) rfl];rfl
theorem one_ltr (R:List Nat):((leS "a" (tx (R.take 1)) && leS (tx (R.take 1)) "z") || (leS "A" (tx (R.take 1)) && leS (tx (R.take 1)) "Z")) = one isL R:=by
 cases R with
 | nil=>show ((leS "a" (tx []) && _) || (leS "A" (tx []) && _)) = false;rw [leS_nil (k:=97) rfl,leS_nil (k:=65) rfl];rfl
 | cons c r=>show ((leS "a" (tx [c]) && leS (tx [c]) "z") || (leS "A" (tx [c]) && leS (tx [c]) "Z")) = isL c;rw [leS_lit (k:=97) rfl,leS_lit' (k:=122) rfl,leS_lit (k:=65) rfl,leS_lit' (k:=90) rfl];rfl
theorem one_hex (R:List Nat):(one isD R || (leS "A" (tx (R.take 1)) && leS (tx (R.take 1)) "F")) = one isH R:=by
 cases R with
 | nil=>show (_ || (leS "A" (tx []) && _)) = false;rw [leS_nil (k:=65) rfl];rfl
 | cons c r=>show (isD c || (leS "A" (tx [c]) && leS (tx [c]) "F")) = isH c;rw [leS_lit (k:=65) rfl,leS_lit' (k:=70) rfl];rfl
section
variable {c:Cx} {σ:St}
theorem sp_is_digit {R:List Nat} {Q:V → St → Prop} {k:Nat} (g:Good c) (rm:Rm c (k + 1)) (h:Q (.bool (one isD R)) σ):mCall c 1104 [.str (tx (R.take 1))] Q σ:=by
 rw [← one_dgt] at h
 refine q_fun ["char"] [_] g rm (fun _=>dk1 rfl rfl) (hb1 fun _=>rfl) rfl fun B L=>?_
 intro c' QQ g' rm'
 refine mB_cons (mS_ret (and2 (fun Q h=>?_) (fun _ Q h=>?_) h)) <;> (walk_at "es";exact c_leS' h)
theorem sp_is_letter {R:List Nat} {Q:V → St → Prop} {k:Nat} (g:Good c) (rm:Rm c (k + 1)) (h:Q (.bool (one isL R)) σ):mCall c 1097 [.str (tx (R.take 1))] Q σ:=by
 rw [← one_ltr] at h
 refine q_fun ["char"] [_] g rm (fun _=>dk1 rfl rfl) (hb1 fun _=>rfl) rfl fun B L=>?_
 intro c' QQ g' rm'
 refine mB_cons (mS_ret (or2 (fun Q h=>and2 (fun Q h=>?_) (fun _ Q h=>?_) h) (fun _ Q h=>and2 (fun Q h=>?_) (fun _ Q h=>?_) h) h)) <;> (walk_at "es";exact c_leS' h)
theorem nk_is_digit (P:Params):nkB (KK P) "is_digit" 1104 = true:=by kernel_rfl
theorem nk_is_letter_scanner (P:Params):nkB (KK P) "is_letter_scanner" 1097 = true:=by kernel_rfl
theorem nk_is_hex_digit (P:Params):nkB (KK P) "is_hex_digit" 1111 = true:=by kernel_rfl
theorem sp_is_hex_digit {R:List Nat} {Q:V → St → Prop} {k:Nat} (g:Good c) (rm:Rm c (k + 2)) (h:Q (.bool (one isH R)) σ):mCall c 1111 [.str (tx (R.take 1))] Q σ:=by
 rw [← one_hex] at h
 refine q_fun ["char"] [_] g rm (fun _=>dk1 rfl rfl) (hb1 fun _=>rfl) rfl fun B L=>?_
 intro c' QQ g' rm'
 refine mB_cons (mS_ret (or2 (fun Q h=>?_) (fun _ Q h=>and2 (fun Q h=>?_) (fun _ Q h=>?_) h) h))
 ·refine q_call g' nk_is_digit ?_
  walk_at "es"
  exact sp_is_digit g' rm' h
 ·walk_at "es";exact c_leS' h
 ·walk_at "es";exact c_leS' h
noncomputable def scO (src:List Nat) (er:V) (p:Int) (wd:V):O:=.inst 1227 [("source",.str (tx src)),("errors",er),("place",.int p),("words",wd)]
theorem sp_char {sc:Nm} {src:List Nat} {er wd:V} {p:Nat} {Q:V → St → Prop} {k:Nat} (g:Good c) (rm:Rm c (k + 1)) (e:σ.hp sc = some (scO src er p wd)) (hz:src.length ≤ 1000000) (h:Q (.str (tx ((src.drop p).take 1))) σ):mCall c 1140 [.ref sc] Q σ:=by
 refine q_fun ["self", "ahead"] [.ref sc,.int 0] g rm (fun _=>dk1 rfl rfl) (fun ρ s xs X W=>?_) rfl fun B L=>?_
 ·obtain ⟨x,_,rfl,V,W1⟩:=W.cons_inv
  cases W1.nil_inv
  rw [g.hK] at X
  exact ⟨[x,.int 0 _],BindsTo.of_defaults rfl (X 1133 _ rfl) rfl rfl rfl,.cons V (.cons ⟨_,rfl⟩ .nil)⟩
 ·intro c' QQ g' rm'
  walk_at "es"
  refine q_get g' e (by simp) rfl ?_
  walk_at "es"
  refine q_get g' e (by simp) rfl ?_
  walk_at "es"
  refine b_add ?_
  walk_at "es"
  refine q_get g' e (by simp) rfl ?_
  walk_at "es"
  refine b_add ?_
  walk_at "es"
  refine b_add ⟨_,_,_,rfl,rfl,rfl,by rw [tx_length];exact hz,?_⟩
  rw [slice_tx' src (a:=p) (b:=p + 1) (by omega) (ic1) (by omega),show p + 1 - p = 1 by exact sx4]
  exact h
theorem sp_char1 {sc:Nm} {src:List Nat} {er wd:V} {p:Nat} {Q:V → St → Prop} {k:Nat} (g:Good c) (rm:Rm c (k + 1)) (e:σ.hp sc = some (scO src er p wd)) (hz:src.length ≤ 1000000) (h:Q (.str (tx ((src.drop (p + 1)).take 1))) σ):mCall c 1140 [.ref sc,.int 1] Q σ:=by
 refine q_fun ["self", "ahead"] [.ref sc,.int 1] g rm (fun _=>dk1 rfl rfl) (fun ρ s xs X W=>by
  obtain ⟨x,_,rfl,V,W1⟩:=W.cons_inv
  obtain ⟨y,_,rfl,U,W2⟩:=W1.cons_inv
  cases W2.nil_inv
  rw [g.hK] at X
  exact ⟨[x,y],BindsTo.of_defaults rfl (X 1133 _ rfl) rfl rfl rfl,W⟩) rfl fun B L=>?_
 intro c' QQ g' rm'
 walk_at "es"
 refine q_get g' e (by simp) rfl ?_
 walk_at "es"
 refine q_get g' e (by simp) rfl ?_
 walk_at "es"
 refine b_add ?_
 walk_at "es"
 refine q_get g' e (by simp) rfl ?_
 walk_at "es"
 refine b_add ?_
 walk_at "es"
 refine b_add ⟨_,_,_,rfl,rfl,rfl,by rw [tx_length];exact hz,?_⟩
 rw [slice_tx' src (a:=p + 1) (b:=p + 2) (ic1) (ic1) (by omega),show p + 2 - (p + 1) = 1 by exact sx5]
 exact h
theorem H.set_same {h:H} {n:Nm} {o:O} (e:h n = some o):h.set n o = h:=by
 funext x
 by_cases q:x = n
 ·rw [q,H.set_self,e]
 ·rw [H.set_ne _ _ q]
theorem H.set_set {h:H} {n:Nm} {o o' : O}:(h.set n o).set n o' = h.set n o':=by
 funext x
 by_cases q:x = n
 ·rw [q,H.set_self,H.set_self]
 ·rw [H.set_ne _ _ q,H.set_ne _ _ q,H.set_ne _ _ q]
end
section
variable {c:Cx} {σ:St}
theorem sp_skip {sc:Nm} {src r:List Nat} {er wd:V} {p j:Nat} {Q:V → St → Prop} {k:Nat} (g:Good c) (rm:Rm c (k + 2)) (e:σ.hp sc = some (scO src er p wd)) (hz:src.length ≤ 1000000)
  (hd:src.drop p = List.replicate j 32 ++ r) (hr:∀ c r',r = c :: r' → 32 < c ∧ (c = 40 → r'.take 1 ≠ [42]))
  (h:Q .none (σ.put sc (scO src er (p + j:Nat) wd))):mCall c 1154 [.ref sc] Q σ:=by
 refine q_fun ["self"] [_] g rm (fun _=>dk1 rfl rfl) (hb1 fun _=>rfl) rfl fun B L=>?_
 intro c' QQ g' rm'
 refine mB_cons (mS_while (fun k τ=>∃ i,i + k = j + 1 ∧ i ≤ j ∧ τ.vars "self" = some (.ref sc) ∧ τ.hp = σ.hp.set sc (scO src er (p + i:Nat) wd)) (j + 1) ⟨0,by omega,by omega,rfl,(H.set_same e).symm⟩ ?_)
 intro J';rintro k' ⟨vs,hp⟩ ⟨i,hk,hi,hself,rfl⟩
 have ei:(σ.hp.set sc (scO src er (p + i:Nat) wd)) sc = some (scO src er (p + i:Nat) wd):=H.set_self _ _ _
 have hdi:src.drop (p + i) = List.replicate (j - i) 32 ++ r:=by
  rw [← List.drop_drop,hd,List.drop_append_of_le_length (by simp;exact hi),List.drop_replicate]
 refine mT_plain (mE_bool (t_bool (show mB _ _ _ _ from ?_)))
 walk_at "es"
 refine q_meth0 1227 1140 g' (me_Scanner_char _) (mE_local g'.ok hself ⟨sc,_,rfl,ei,rfl,?_⟩)
 refine sp_char (k:=k) g' rm' ei hz ?_
 walk_at "es"
 rw [hdi]
 rcases Nat.lt_or_ge i j with lt | ge
 ·obtain ⟨d,hdj⟩ : ∃ d,j - i = d + 1:=⟨j - i - 1,(Nat.sub_add_cancel (Nat.sub_pos_of_lt lt)).symm⟩
  rw [hdj]
  show mS _ _ _ ((⟨vs,_⟩ : St).var "char" (.str (tx [32])))
  refine mS_if (tand2 (a:=false) (b:=true) (fun Q h=>?_) (fun q=>by cases q) ?_)
  ·walk_at "es"
   exact c_eqS (t_bool h)
  ·show mB _ _ _ _
   refine mB_cons (mS_if (tand2 (a:=true) (b:=true) (fun Q h=>?_) (fun _ Q h=>?_) ?_))
   ·walk_at "es"
    exact c_neS (t_bool h)
   ·refine mT_cmp (q_bi g' nb_ord bb_ord ?_)
    walk_at "es"
    refine MW1.toS (f_ord ?_)
    walk_at "es"
    exact c_le (t_bool h)
   ·show mB _ _ _ _
    refine mB_cons (mS_attr (mE_bin (mE_attr (mE_local g'.ok hself ?_))))
    refine q_get g' ei (by simp) rfl ?_
    walk_at "es"
    refine b_add (mE_local g'.ok hself ?_)
    refine q_put g' ei (by simp) ?_
    walk_at "es"
    refine ⟨k' - 1,by exact lq5 hk (Nat.le_of_lt lt),i + 1,by exact lq4 hk (Nat.le_of_lt lt),by omega,hself,?_⟩
    show (σ.hp.set sc _).set sc _ = _
    rw [H.set_set]
    rw [show ((p + (i + 1):Nat):Int) = ((p + i:Nat):Int) + 1 by exact ic1]
    rfl
 ·have eij:i = j:=by exact Nat.le_antisymm hi ge
  subst eij
  rw [Nat.sub_self,List.replicate_zero,List.nil_append] at hdi ⊢
  refine mS_if (tand2 (a:=r.take 1 == [40]) (b:=false) (fun Q h=>?_) (fun q Q h=>?_) ?_)
  ·walk_at "es"
   refine c_eqS (t_bool ?_)
   rw [show (Str.ofString "(") = tx [40] from rfl,tx_inj]
   exact h
  ·refine mT_cmp ?_
   refine q_meth 1227 1140 g' (me_Scanner_char _) (mE_local g'.ok hself ⟨sc,_,rfl,ei,rfl,?_⟩)
   walk_at "es"
   refine sp_char1 (k:=k) g' rm' ei hz ?_
   walk_at "es"
   refine c_eqS (t_bool ?_)
   have:((src.drop (p + i + 1)).take 1 == [42]) = false:=by
    rw [← List.drop_drop,hdi]
    cases r with
    | nil=>cases q
    | cons a r'=>
     have:=(hr a r' rfl).2 (by simpa using q)
     simpa using this
   rw [show (Str.ofString "*") = tx [42] from rfl,tx_inj,this]
   exact h
  ·rw [Bool.and_false]
   show mB _ _ _ _
   refine mB_cons (mS_if (tand2 (a:=r.take 1 != []) (b:=false) (fun Q h=>?_) (fun q Q h=>?_) ?_))
   ·walk_at "es"
    refine c_neS (t_bool ?_)
    rw [show (Str.ofString "") = tx [] from rfl,bne,tx_inj]
    exact h
   ·refine mT_cmp (q_bi g' nb_ord bb_ord ?_)
    walk_at "es"
    cases r with
    | nil=>cases q
    | cons a r'=>
     refine MW1.toS (f_ord (k:=a) ?_)
     walk_at "es"
     have:=(hr a r' rfl).1
     refine c_le (t_bool ?_)
     rw [decide_eq_false (by omega)]
     exact h
   ·rw [Bool.and_false]
    show mB _ _ _ _
    walk_at "es"
    exact h
end
noncomputable def tokO (k v p:V):O:=.inst 1079 [("kind",k),("value",v),("place",p)]
theorem nk_Token (P:Params):nkB (KK P) "Token" 1079 = true:=by kernel_rfl
section
variable {c:Cx} {σ:St}
theorem sp_Token {k v p:V} (n:Nm) {Q:V → St → Prop} {d:Nat} (g:Good c) (rm:Rm c (d + 2)) (hn:σ.hp n = none) (h:Q (.ref n) (σ.put n (tokO k v p))):mCall c 1079 [k,v,p] Q σ:=by
 refine q_new n g rm hn (mk_Token _) (in_Token _) (if_Token _) fun c' g₁ rm₁ _=>?_
 refine q_fun ["self", "kind", "value", "place"] [_,_,_,_] g₁ rm₁ (fun _=>dk1 rfl rfl) (hb4 fun _ _ _ _=>rfl) rfl fun B L=>?_
 intro c' QQ g' rm'
 walk_at "es"
 refine q_put g' (H.set_self _ _ _) (by simp) ?_
 walk_at "es"
 refine q_put g' (H.set_self _ _ _) (by simp) ?_
 walk_at "es"
 refine q_put g' (H.set_self _ _ _) (by simp) ?_
 walk_at "es"
 refine ⟨rfl,?_⟩
 simp only [St.put,H.set_set]
 exact h
theorem slice_one (src:List Nat) {i:Int} {a:Nat} (hi:i = a):Txt.slice (tx src) (some i) (some (i + 1)) = tx ((src.drop a).take 1):=by
 rw [slice_tx' src (a:=a) (b:=a + 1) hi (by omega) (by omega),show a + 1 - a = 1 by exact sx4]
theorem sp_word {sc wn:Nm} {src w r:List Nat} {er:V} {kws:List Str} {p:Nat} {q:Int} (n:Nm) {Q:V → St → Prop} {k:Nat} (g:Good c) (rm:Rm c (k + 3)) (e:σ.hp sc = some (scO src er q (.ref wn))) (ew:σ.hp wn = some (.tup (kws.map V.str))) (hz:src.length ≤ 1000000)
  (hd:src.drop p = w ++ r) (hw:∀ c ∈ w,(isL c || isD c) = true) (hr:(one isL r || one isD r) = false) (hn:σ.hp n = none) (hns:n ≠ sc) (hws:wn ≠ sc)
  (h:Q (.ref n) ((σ.put sc (scO src er (p + w.length:Nat) (.ref wn))).put n (if kws.any (fun y=>y == tx w) then tokO (.str (tx w)) (.str "") (.int p) else tokO (.str "ident") (.str (tx w)) (.int p)))):mCall c 1168 [.ref sc,.int p] Q σ:=by
 refine q_fun ["self", "begun"] [_,_] g rm (fun _=>dk1 rfl rfl) (hb2 fun _ _=>rfl) rfl fun B L=>?_
 intro c' QQ g' rm'
 walk_at "es"
 refine mS_while (fun k τ=>∃ i,i + k = w.length + 1 ∧ i ≤ w.length ∧ τ.vars "self" = some (.ref sc) ∧ τ.vars "begun" = some (.int p) ∧ τ.vars "end" = some (.int (p + i:Nat)) ∧ τ.hp = σ.hp) (w.length + 1) ⟨0,by omega,by omega,rfl,rfl,rfl,rfl⟩ ?_
 intro J';rintro k' ⟨vs,hp⟩ ⟨i,hk,hi,hself,hbeg,hend,rfl⟩
 have hdi:src.drop (p + i) = w.drop i ++ r:=by rw [← List.drop_drop,hd,List.drop_append_of_le_length hi]
 have sl:Txt.slice (tx src) (some ((p + i:Nat):Int)) (some (((p + i:Nat):Int) + 1)) = tx ((w.drop i ++ r).take 1):=by rw [slice_one src (a:=p + i) rfl,hdi]
 refine tor2 (a:=one isL (w.drop i ++ r)) (b:=one isD (w.drop i ++ r)) (fun Q h=>mT_plain ?_) (fun _ Q h=>mT_plain ?_) ?_
 ·refine q_call g' nk_is_letter_scanner ?_
  walk_at "es"
  refine q_get (by assumption) (by assumption) (by simp) rfl ?_
  walk_at "es"
  refine b_add ⟨_,_,_,rfl,rfl,rfl,by rw [tx_length];exact hz,?_⟩
  rw [sl]
  walk_at "es"
  exact sp_is_letter (k:=k) g' (rm'.less (by omega)) (t_bool h)
 ·refine q_call g' nk_is_digit ?_
  walk_at "es"
  refine q_get (by assumption) (by assumption) (by simp) rfl ?_
  walk_at "es"
  refine b_add ⟨_,_,_,rfl,rfl,rfl,by rw [tx_length];exact hz,?_⟩
  rw [sl]
  walk_at "es"
  exact sp_is_digit (k:=k) g' (rm'.less (by omega)) (t_bool h)
 ·rcases Nat.lt_or_ge i w.length with lt | ge
  ·rw [List.drop_eq_getElem_cons lt]
   show if (isL w[i] || isD w[i]) = true then _ else _
   rw [hw _ (List.getElem_mem lt)]
   show mB _ _ _ _
   walk_at "es"
   refine b_add ?_
   walk_at "es"
   exact ⟨k' - 1,by exact lq5 hk (Nat.le_of_lt lt),i + 1,by exact lq4 hk (Nat.le_of_lt lt),by omega,hself,hbeg,by show some (V.int _) = some (V.int _);congr 2,rfl⟩
  ·have ei:i = w.length:=by exact Nat.le_antisymm hi ge
   subst ei
   rw [List.drop_length,List.nil_append,hr]
   show mB _ _ _ _
   walk_at "es"
   refine q_put g' e (by simp) ?_
   walk_at "es"
   refine q_get g' (H.set_self _ _ _) (by simp) rfl ?_
   walk_at "es"
   refine ⟨_,_,_,rfl,rfl,rfl,by rw [tx_length];exact hz,?_⟩
   rw [slice_tx' src (a:=p) (b:=p + w.length) rfl rfl (by omega),show p + w.length - p = w.length by exact sx4,hd,List.take_left]
   walk_at "es"
   refine mS_if ?_
   walk_at "es"
   refine q_get g' (H.set_self _ _ _) (by simp) rfl ?_
   walk_at "es"
   refine c_inT (ys:=kws) ((H.set_ne _ _ hws).trans ew) (t_bool ?_)
   have hn' : (σ.hp.set sc (scO src er (p + w.length:Nat) (.ref wn))) n = none:=(H.set_ne _ _ hns).trans hn
   cases q:kws.any (fun y=>y == tx w) with
   | true=>
    rw [q] at h
    show mB _ _ _ _
    refine mB_cons (mS_ret (q_call g' nk_Token ?_))
    walk_at "es"
    exact sp_Token n (d:=k) g' rm' hn' h
   | false=>
    rw [q] at h
    show mB _ _ _ _
    walk_at "es"
    refine q_call g' nk_Token ?_
    walk_at "es"
    exact sp_Token n (d:=k) g' rm' hn' h
theorem ns_MOST_INTEGER (P:Params):∃ t,nsIn (KK P) mainGlobals "MOST_INTEGER" = some (some (.int 2147483647 t)):=⟨_,rfl⟩
theorem sp_whole {sc:Nm} {p v:Int} (n:Nm) {Q:V → St → Prop} {k:Nat} (g:Good c) (rm:Rm c (k + 3)) (hv:v ≤ 2147483647) (hn:σ.hp n = none)
  (h:Q (.ref n) (σ.put n (tokO (.str "int") (.int v) (.int p)))):mCall c 1182 [.ref sc,.int p,.int v,.int 2147483647] Q σ:=by
 refine q_fun ["self", "begun", "value", "most"] [_,_,_,_] g rm (fun _=>dk1 rfl rfl) (hb4 fun _ _ _ _=>rfl) rfl fun B L=>?_
 intro c' QQ g' rm'
 walk_at "es"
 refine mS_if ?_
 walk_at "es"
 refine c_gt (t_bool ?_)
 rw [decide_eq_false (by omega)]
 show mB _ _ _ _
 walk_at "es"
 refine q_call g' nk_Token ?_
 walk_at "es"
 exact sp_Token n (d:=k) g' rm' hn h
end
noncomputable def decV:Int → List Nat → Int
 | a,[]=>a
 | a,c :: r=>decV (a * 10 + ((c:Int) - 48)) r
theorem decV_app:∀ (l r:List Nat) (a:Int),decV a (l ++ r) = decV (decV a l) r
 | [],r,a=>rfl
 | c :: l,r,a=>decV_app l r _
theorem decV_bd:∀ (l:List Nat) (a:Int) (n:Nat),(∀ c ∈ l,isD c = true) → 0 ≤ a → a < 10 ^ n → 0 ≤ decV a l ∧ decV a l < 10 ^ (n + l.length)
 | [],a,n,h,h0,h1=>⟨h0,by show a < _;simpa using h1⟩
 | c :: l,a,n,h,h0,h1=>by
  have hc:=h c (.head _)
  unfold isD at hc
  simp only [Bool.and_eq_true,decide_eq_true_eq] at hc
  have:=decV_bd l (a * 10 + ((c:Int) - 48)) (n + 1) (fun d hd=>h d (.tail _ hd)) (by omega) (by rw [Int.pow_succ];omega)
  rw [List.length_cons,show n + (l.length + 1) = n + 1 + l.length by exact ce0]
  exact this
theorem find_dig {c:Nat} (h:isD c = true):Txt.find "0123456789ABCDEF" (tx [c]) = (c:Int) - 48:=by
 have hc:c < 58:=by
  unfold isD at h
  simp only [Bool.and_eq_true,decide_eq_true_eq] at h
  exact Nat.lt_succ_of_le h.2
 exact (by decide +kernel:∀ c ∈ List.range 58,isD c = true → Txt.find "0123456789ABCDEF" (tx [c]) = (c:Int) - 48) c (List.mem_range.mpr hc) h
theorem isD_ascii {w:List Nat} (h:∀ c ∈ w,isD c = true):(tx w).cps.all (· < 128) = true:=by
 rw [Array.all_eq_true']
 intro c hc
 have:=h c (by simpa using hc)
 unfold isD at this
 simp only [Bool.and_eq_true,decide_eq_true_eq] at this
 simp;exact cb1 this.2
section
variable {c:Cx} {σ:St}
theorem sp_digits_value {w:List Nat} (it:Nm) {Q:V → St → Prop} {k:Nat} (g:Good c) (rm:Rm c (k + 1)) (hw:∀ c ∈ w,isD c = true) (hl:w.length ≤ 9) (hit:σ.hp it = none)
  (h:Q (.int (decV 0 w)) (σ.put it .dead)):mCall c 1118 [.str (tx w),.int 10,.int 2147483647] Q σ:=by
 refine q_fun ["digits", "base", "most"] [_,_,_] g rm (fun _=>dk1 rfl rfl) (hb3 fun _ _ _=>rfl) rfl fun B L=>?_
 intro c' QQ g' rm'
 walk_at "es"
 refine mS_for it (fun k τ=>∃ i,i + k = w.length ∧ τ.vars "base" = some (.int 10) ∧ τ.vars "most" = some (.int 2147483647) ∧ τ.vars "value" = some (.int (decV 0 (w.take i))) ∧ τ.hp = σ.hp.set it (.raw "str_ascii_iterator" [.v (.str (tx w)),.ri (i:Nat)])) ?_ ?_ ?_
 ·walk_at "es"
  exact it_str it (isD_ascii hw) hit ⟨rfl,w.length,0,by omega,rfl,rfl,rfl,rfl⟩
 ·rintro k' ⟨vs,hp⟩ ⟨i,_,_,_,_,rfl⟩
  show (σ.hp.set it _) it ≠ none
  rw [H.set_self];simp
 ·intro J';rintro k' ⟨vs,hp⟩ ⟨i,hk,hbase,hmost,hval,rfl⟩
  rcases Nat.eq_zero_or_pos k' with rfl | pos
  ·refine nx_strE g'.ok (H.set_self _ _ _) (by simp;exact cb1 (eR hk)) ?_
   have ei:i = w.length:=by exact ce1 hk
   subst ei
   walk_at "es"
   simp only [St.put,H.set_set]
   rw [List.take_length] 
   exact h
  ·have lt:i < w.length:=by exact cb2 (eL hk) pos
   refine nx_str (k:=w[i]) (H.set_self _ _ _) (by simp [lt]) ?_
   refine as_name g'.ok ?_
   refine mB_cons (mS_assign (mE_bin (mE_bin ?_)))
   walk_at "es"
   have hd:=hw _ (List.getElem_mem lt)
   have hb:=decV_bd (w.take (i + 1)) 0 0 (fun c hc=>hw c (List.mem_of_mem_take hc)) (by omega) (by omega)
   have hb2:(10:Int) ^ (0 + (w.take (i + 1)).length) ≤ 10 ^ 9:=by
    have:(10:Nat) ^ (0 + (w.take (i + 1)).length) ≤ 10 ^ 9:=Nat.pow_le_pow_right (by exact cl0) (by rw [List.length_take];omega)
    exact_mod_cast this
   have ha:=decV_bd (w.take i) 0 0 (fun c hc=>hw c (List.mem_of_mem_take hc)) (by omega) (by omega)
   have ha2:(10:Int) ^ (0 + (w.take i).length) ≤ 10 ^ 9:=by
    have:(10:Nat) ^ (0 + (w.take i).length) ≤ 10 ^ 9:=Nat.pow_le_pow_right (by exact cl0) (by rw [List.length_take];omega)
    exact_mod_cast this
   have hnext:decV 0 (w.take (i + 1)) = decV 0 (w.take i) * 10 + ((w[i]:Int) - 48):=by
    rw [List.take_succ_eq_append_getElem lt,decV_app];rfl
   refine b_mul ?_ (by omega) (by omega)
   refine mE_bm (mE_str ⟨_,meth_find,?_⟩)
   walk_at "es"
   refine MW2.toS (f_find ?_)
   rw [find_dig hd]
   refine b_add ?_
   rw [← hnext]
   walk_at "es"
   refine mS_if ?_
   walk_at "es"
   refine c_gt (t_bool ?_)
   rw [decide_eq_false (by omega)]
   show mB _ _ _ _
   walk_at "es"
   exact ⟨k' - 1,by omega,i + 1,by omega,hbase,hmost,rfl,by simp only [St.put,St.var,H.set_set]⟩
theorem q_gint {x:Str} {pos:Pos} {i:Int} {Q:V → St → Prop} (g:Good c) (e:∀ P,∃ t,nsIn (KK P) mainGlobals x = some (some (.int i t))) (h:Q (.int i) σ) (hk:autoParam (c.env.kindOf x = some .globalImplicit) aR) (hd:autoParam ((x == ("__debug__" : Str)) = false) aD):mE c (.Name x pos) Q σ:=by
 obtain ⟨t,ht⟩:=e c.w.params
 exact mE_global g.ok (v:=.int i t) (by rw [g.hK];exact ht) h hk hd
theorem nk_digits_value (P:Params):nkB (KK P) "digits_value" 1118 = true:=by kernel_rfl
theorem sp_numeral {sc it:Nm} {src w r:List Nat} {er wd:V} {p:Nat} {q:Int} (n:Nm) {Q:V → St → Prop} {k:Nat} (g:Good c) (rm:Rm c (k + 4)) (e:σ.hp sc = some (scO src er q wd)) (hz:src.length ≤ 1000000)
  (hd:src.drop p = w ++ 32 :: r) (hw:∀ c ∈ w,isD c = true) (hl:w.length ≤ 9) (hn:σ.hp n = none) (hns:n ≠ sc) (hit:σ.hp it = none) (his:it ≠ sc) (hni:n ≠ it)
  (h:Q (.ref n) (((σ.put sc (scO src er (p + w.length:Nat) wd)).put it .dead).put n (tokO (.str "int") (.int (decV 0 w)) (.int p)))):mCall c 1175 [.ref sc,.int p] Q σ:=by
 refine q_fun ["self", "begun"] [_,_] g rm (fun _=>dk1 rfl rfl) (hb2 fun _ _=>rfl) rfl fun B L=>?_
 intro c' QQ g' rm'
 walk_at "es"
 refine mS_while (fun k τ=>∃ i,i + k = w.length + 1 ∧ i ≤ w.length ∧ τ.vars "self" = some (.ref sc) ∧ τ.vars "begun" = some (.int p) ∧ τ.vars "end" = some (.int (p + i:Nat)) ∧ τ.hp = σ.hp) (w.length + 1) ⟨0,by omega,by omega,rfl,rfl,rfl,rfl⟩ ?_
 intro J';rintro k' ⟨vs,hp⟩ ⟨i,hk,hi,hself,hbeg,hend,rfl⟩
 have hdi:src.drop (p + i) = w.drop i ++ 32 :: r:=by rw [← List.drop_drop,hd,List.drop_append_of_le_length hi]
 have sl:Txt.slice (tx src) (some ((p + i:Nat):Int)) (some (((p + i:Nat):Int) + 1)) = tx ((w.drop i ++ 32 :: r).take 1):=by rw [slice_one src (a:=p + i) rfl,hdi]
 refine mT_plain (q_call g' nk_is_hex_digit ?_)
 walk_at "es"
 refine q_get (by assumption) (by assumption) (by simp) rfl ?_
 walk_at "es"
 refine b_add ⟨_,_,_,rfl,rfl,rfl,by rw [tx_length];exact hz,?_⟩
 rw [sl]
 walk_at "es"
 refine sp_is_hex_digit (k:=k) g' (rm'.less (by omega)) (t_bool ?_)
 rcases Nat.lt_or_ge i w.length with lt | ge
 ·rw [List.drop_eq_getElem_cons lt]
  have:one isH (w[i] :: w.drop (i + 1) ++ 32 :: r) = true:=by
   show (isD w[i] || _) = true
   rw [hw _ (List.getElem_mem lt)];rfl
  rw [this]
  show mB _ _ _ _
  walk_at "es"
  refine b_add ?_
  walk_at "es"
  exact ⟨k' - 1,by exact lq5 hk (Nat.le_of_lt lt),i + 1,by exact lq4 hk (Nat.le_of_lt lt),by omega,hself,hbeg,by show some (V.int _) = some (V.int _);congr 2,rfl⟩
 ·have ei:i = w.length:=by exact Nat.le_antisymm hi ge
  subst ei
  rw [List.drop_length,List.nil_append]
  show mB _ _ _ _
  walk_at "es"
  refine q_get (by assumption) (by assumption) (by simp) rfl ?_
  walk_at "es"
  refine ⟨_,_,_,rfl,rfl,rfl,by rw [tx_length];exact hz,?_⟩
  rw [slice_tx' src (a:=p) (b:=p + w.length) rfl rfl (by omega),show p + w.length - p = w.length by exact sx4,hd,List.take_left]
  walk_at "es"
  refine q_get (by assumption) (by assumption) (by simp) rfl ?_
  walk_at "es"
  refine b_add ⟨_,_,_,rfl,rfl,rfl,by rw [tx_length];exact hz,?_⟩
  rw [sl,List.drop_length,List.nil_append]
  walk_at "es"
  refine mS_if (tor2 (a:=false) (b:=false) (fun Q h=>?_) (fun _ Q h=>?_) ?_)
  ·walk_at "es"
   exact c_eqS (t_bool h)
  ·walk_at "es"
   exact c_eqS (t_bool h)
  ·show mB _ _ _ _
   walk_at "es"
   refine mS_while (fun k τ=>∃ i,i + k = w.length + 1 ∧ i ≤ w.length ∧ τ.vars "self" = some (.ref sc) ∧ τ.vars "begun" = some (.int p) ∧ τ.vars "end" = some (.int (p + i:Nat)) ∧ τ.hp = σ.hp) (w.length + 1) ⟨0,by omega,by omega,hself,hbeg,rfl,rfl⟩ ?_
   clear hself hbeg hend hk hi
   intro J';rintro k' ⟨vs,hp⟩ ⟨i,hk,hi,hself,hbeg,hend,rfl⟩
   have hdi:src.drop (p + i) = w.drop i ++ 32 :: r:=by rw [← List.drop_drop,hd,List.drop_append_of_le_length hi]
   have sl:Txt.slice (tx src) (some ((p + i:Nat):Int)) (some (((p + i:Nat):Int) + 1)) = tx ((w.drop i ++ 32 :: r).take 1):=by rw [slice_one src (a:=p + i) rfl,hdi]
   refine mT_plain (q_call g' nk_is_digit ?_)
   walk_at "es"
   refine q_get (by assumption) (by assumption) (by simp) rfl ?_
   walk_at "es"
   refine b_add ⟨_,_,_,rfl,rfl,rfl,by rw [tx_length];exact hz,?_⟩
   rw [sl]
   walk_at "es"
   refine sp_is_digit (k:=k) g' (rm'.less (by omega)) (t_bool ?_)
   rcases Nat.lt_or_ge i w.length with lt | ge
   ·rw [List.drop_eq_getElem_cons lt]
    show if isD w[i] = true then _ else _
    rw [hw _ (List.getElem_mem lt)]
    show mB _ _ _ _
    walk_at "es"
    refine b_add ?_
    walk_at "es"
    exact ⟨k' - 1,by exact lq5 hk (Nat.le_of_lt lt),i + 1,by exact lq4 hk (Nat.le_of_lt lt),by omega,hself,hbeg,by show some (V.int _) = some (V.int _);congr 2,rfl⟩
   ·have ei:i = w.length:=by exact Nat.le_antisymm hi ge
    subst ei
    rw [List.drop_length,List.nil_append]
    show mB _ _ _ _
    walk_at "es"
    refine q_put g' e (by simp) ?_
    walk_at "es"
    have e2:(σ.hp.set sc (scO src er (p + w.length:Nat) wd)) sc = some (scO src er (p + w.length:Nat) wd):=H.set_self _ _ _
    have hd2:src.drop (p + w.length) = 32 :: r:=by rw [hdi,List.drop_length,List.nil_append]
    refine mS_if (tand2 (a:=false) (b:=true) (fun Q h=>?_) (fun q=>by cases q) ?_)
    ·refine mT_cmp ?_
     refine q_meth0 1227 1140 g' (me_Scanner_char _) (mE_local g'.ok hself ⟨sc,_,rfl,e2,rfl,?_⟩)
     refine sp_char (k:=k) g' (rm'.less (by omega)) e2 hz ?_
     rw [hd2]
     walk_at "es"
     exact c_eqS (t_bool h)
    ·show mB _ _ _ _
     walk_at "es"
     refine q_call g' nk_digits_value ?_
     walk_at "es"
     refine q_get g' e2 (by simp) rfl ?_
     walk_at "es"
     refine ⟨_,_,_,rfl,rfl,rfl,by rw [tx_length];exact hz,?_⟩
     rw [slice_tx' src (a:=p) (b:=p + w.length) rfl rfl (by omega),show p + w.length - p = w.length by exact sx4,hd,List.take_left]
     walk_at "es"
     refine q_gint g' ns_MOST_INTEGER ?_
     walk_at "es"
     have hit2:(σ.hp.set sc (scO src er (p + w.length:Nat) wd)) it = none:=(H.set_ne _ _ his).trans hit
     refine sp_digits_value it (k:=k) g' (rm'.less (by omega)) hw hl hit2 ?_
     walk_at "es"
     have e3:((σ.hp.set sc (scO src er (p + w.length:Nat) wd)).set it .dead) sc = some (scO src er (p + w.length:Nat) wd):=(H.set_ne _ _ (Ne.symm his)).trans e2
     refine q_meth 1227 1182 g' (me_Scanner_whole _) (mE_local g'.ok hself ⟨sc,_,rfl,e3,rfl,?_⟩)
     walk_at "es"
     refine q_gint g' ns_MOST_INTEGER ?_
     walk_at "es"
     have hb:=decV_bd w 0 0 hw (by omega) (by omega)
     have hb2:(10:Int) ^ (0 + w.length) ≤ 10 ^ 9:=by
      have:(10:Nat) ^ (0 + w.length) ≤ 10 ^ 9:=Nat.pow_le_pow_right (by exact cl0) (cb1 hl)
      exact_mod_cast this
     refine sp_whole n (k:=k) g' rm' (by omega) ?_ h
     show ((σ.hp.set sc _).set it _) n = none
     rw [H.set_ne _ _ hni,H.set_ne _ _ hns];exact hn
noncomputable def syms:Str := "+-*/~&.,;|([{^=#<>:)]}"
theorem sp_symbol {sc tn:Nm} {src r:List Nat} {er wd:V} {p a:Nat} {Q:V → St → Prop} {k:Nat} (g:Good c) (rm:Rm c (k + 2)) (e:σ.hp sc = some (scO src er p wd)) (hz:src.length ≤ 1000000)
  (hd:src.drop p = a :: r) (hs:(!(Builtin.Str.occurrences syms (tx [a]) 0 syms.length 1).isEmpty) = true)
  (h4:([(":=" : Str), "<=", ">=", ".."].any fun y=>y == tx (a :: r.take 1)) = false) (ht:σ.hp tn = none) (hts:tn ≠ sc)
  (h:Q (.str (tx [a])) (σ.put tn (.tup [.str ":=",.str "<=",.str ">=",.str ".."]))):mCall c 1224 [.ref sc] Q σ:=by
 refine q_fun ["self"] [_] g rm (fun _=>dk1 rfl rfl) (hb1 fun _=>rfl) rfl fun B L=>?_
 intro c' QQ g' rm'
 walk_at "es"
 refine q_meth0 1227 1140 g' (me_Scanner_char _) (mE_local g'.ok rfl ⟨sc,_,rfl,e,rfl,?_⟩)
 refine sp_char (k:=k) g' (rm'.less (by omega)) e hz ?_
 rw [hd]
 refine q_meth 1227 1140 g' (me_Scanner_char _) (mE_local g'.ok rfl ⟨sc,_,rfl,e,rfl,?_⟩)
 walk_at "es"
 refine sp_char1 (k:=k) g' (rm'.less (by omega)) e hz ?_
 rw [← List.drop_drop,hd]
 refine b_cat ?_ (by simp [tx_length];exact mi4 cl0)
 rw [tx_append]
 walk_at "es"
 refine mS_if ?_
 walk_at "es"
 refine t_new tn ht ?_
 refine c_inT (ys:=[":=", "<=", ">=", ".."]) (H.set_self _ _ _) (t_bool ?_)
 rw [show (List.take 1 (a :: r) ++ List.take 1 (List.drop 1 (a :: r))) = a :: r.take 1 from rfl,h4]
 show mB _ _ _ _
 have e2:(σ.hp.set tn (.tup [.str ":=",.str "<=",.str ">=",.str ".."])) sc = some (scO src er p wd):=(H.set_ne _ _ (Ne.symm hts)).trans e
 walk_at "es"
 refine mS_if (mT_cmp ?_)
 refine q_meth0 1227 1140 g' (me_Scanner_char _) (mE_local g'.ok rfl ⟨sc,_,rfl,e2,rfl,?_⟩)
 refine sp_char (k:=k) g' (rm'.less (by omega)) e2 hz ?_
 rw [hd]
 walk_at "es"
 refine c_inS (t_bool ?_)
 rewrite [show (!(Builtin.Str.occurrences (Str.ofString "+-*/~&.,;|([{^=#<>:)]}") (tx (List.take 1 (a :: r))) 0 (Str.ofString "+-*/~&.,;|([{^=#<>:)]}").length 1).isEmpty) = true from hs]
 show mB _ _ _ _
 walk_at "es"
 refine q_meth0 1227 1140 g' (me_Scanner_char _) (mE_local g'.ok rfl ⟨sc,_,rfl,e2,rfl,?_⟩)
 refine sp_char (k:=k) g' (rm'.less (by omega)) e2 hz ?_
 rw [hd]
 exact h
end
noncomputable def Free (t:Nat) (h:H):Prop:=∀ u k,t ≤ u → h (0,u,k) = none
noncomputable def Gb (t t' : Nat) (A h:H):Prop:=(∀ n:Nm,(n.1 ≠ 0 ∨ n.2.1 < t) → h n = A n) ∧ Free t' h
noncomputable def kwS:List Str:=["ARRAY", "BEGIN", "BY", "CASE", "CONST", "DIV", "DO", "ELSE", "ELSIF", "END", "FOR", "IF", "IMPORT", "IN", "IS", "MOD", "MODULE", "NIL", "OF", "OR", "POINTER", "PROCEDURE", "RECORD", "REPEAT", "RETURN", "THEN", "TO", "TYPE", "UNTIL", "VAR", "WHILE"]
inductive Lx:List Nat → V → V → Nat → Prop
 | word (a:Nat) (w r:List Nat):isL a = true → (∀ c ∈ w,(isL c || isD c) = true) → (one isL r || one isD r) = false →
   Lx (a :: w ++ r) (.str (if kwS.any (fun y=>y == tx (a :: w)) then tx (a :: w) else "ident")) (.str (if kwS.any (fun y=>y == tx (a :: w)) then "" else tx (a :: w))) (a :: w).length
 | num (a:Nat) (w r:List Nat):(∀ c ∈ a :: w,isD c = true) → (a :: w).length ≤ 9 → Lx (a :: w ++ 32 :: r) (.str "int") (.int (decV 0 (a :: w))) (a :: w).length
 | sym (a:Nat) (r:List Nat):32 < a → isL a = false → isD a = false → (a = 40 → r.take 1 ≠ [42]) → a ≠ 34 → (!(Builtin.Str.occurrences syms (tx [a]) 0 syms.length 1).isEmpty) = true →
   ([(":=" : Str), "<=", ">=", ".."].any fun y=>y == tx (a :: r.take 1)) = false → Lx (a :: r) (.str (tx [a])) (.str "") 1
theorem isL_lo {a:Nat} (h:isL a = true):57 < a:=by
 unfold isL at h
 simp only [Bool.or_eq_true,Bool.and_eq_true,decide_eq_true_eq] at h
 omega
theorem isD_lo {a:Nat} (h:isD a = true):48 ≤ a ∧ a ≤ 57:=by
 unfold isD at h
 simpa only [Bool.and_eq_true,decide_eq_true_eq] using h
theorem Lx.head {R:List Nat} {k v:V} {m:Nat} (h:Lx R k v m):∀ c r',R = c :: r' → 32 < c ∧ (c = 40 → r'.take 1 ≠ [42]):=by
 intro c r' e
 cases h with
 | word a w r ha hw hr=>obtain ⟨rfl,rfl⟩:=List.cons.inj e;exact ⟨by have:=isL_lo ha;exact cb1 this,fun q=>by have:=isL_lo ha;omega⟩
 | num a w r ha hl=>obtain ⟨rfl,rfl⟩:=List.cons.inj e;have:=isD_lo (ha a (.head _));exact ⟨by exact cb1 this.1,fun q=>by omega⟩
 | sym a r h1 h2 h3 h4 h5 h6 h7=>obtain ⟨rfl,rfl⟩:=List.cons.inj e;exact ⟨h1,h4⟩
section
variable {c:Cx} {σ:St}
theorem sp_take {sc wn:Nm} {src R:List Nat} {er kk vv:V} {p j m t:Nat} (n:Nm) {Q:V → St → Prop} {k:Nat} (g:Good c) (rm:Rm c (k + 5)) (e:σ.hp sc = some (scO src er p (.ref wn))) (ew:σ.hp wn = some (.tup (kwS.map V.str))) (hz:src.length ≤ 1000000)
  (hd:src.drop p = List.replicate j 32 ++ R) (hx:Lx R kk vv m) (hn:σ.hp n = none) (hsc:sc.1 ≠ 0) (hwn:wn.1 ≠ 0) (hn0:n.1 ≠ 0) (hns:n ≠ sc) (hws:wn ≠ sc) (hf:Free t σ.hp)
  (h:∀ h',Gb t (t + 1) ((σ.hp.set sc (scO src er (p + j + m:Nat) (.ref wn))).set n (tokO kk vv (.int (p + j:Nat)))) h' → Q (.ref n) ⟨σ.vars,h'⟩):mCall c 1147 [.ref sc] Q σ:=by
 refine q_fun ["self"] [_] g rm (fun _=>dk1 rfl rfl) (hb1 fun _=>rfl) rfl fun B L=>?_
 intro c' QQ g' rm'
 walk_at "es"
 refine mS_while (fun k τ=>τ = ⟨fun x=>(([("self" : Str)].zip [V.ref sc]).lookup x),σ.hp⟩) 0 rfl ?_
 intro J';rintro _ _ rfl
 refine mT_plain (mE_bool (t_bool (show mB _ _ _ _ from ?_)))
 walk_at "es"
 refine q_meth0 1227 1154 g' (me_Scanner_skip _) (mE_local g'.ok rfl ⟨sc,_,rfl,e,rfl,?_⟩)
 refine sp_skip (k:=k) g' (rm'.less (by omega)) e hz hd hx.head ?_
 have e1:(σ.hp.set sc (scO src er (p + j:Nat) (.ref wn))) sc = some (scO src er (p + j:Nat) (.ref wn)):=H.set_self _ _ _
 have ew1:(σ.hp.set sc (scO src er (p + j:Nat) (.ref wn))) wn = some (.tup (kwS.map V.str)):=(H.set_ne _ _ hws).trans ew
 have hn1:(σ.hp.set sc (scO src er (p + j:Nat) (.ref wn))) n = none:=(H.set_ne _ _ hns).trans hn
 have hf1:∀ u k,t ≤ u → (σ.hp.set sc (scO src er (p + j:Nat) (.ref wn))) (0,u,k) = none:=fun u k hu=>(H.set_ne _ _ (fun q=>hsc (by rw [← q]))).trans (hf u k hu)
 have hd1:src.drop (p + j) = R:=by rw [← List.drop_drop,hd];simp
 walk_at "es"
 refine q_get g' e1 (by simp) rfl ?_
 walk_at "es"
 refine q_meth0 1227 1140 g' (me_Scanner_char _) (mE_local g'.ok rfl ⟨sc,_,rfl,e1,rfl,?_⟩)
 refine sp_char (k:=k) g' (rm'.less (by omega)) e1 hz ?_
 rw [hd1]
 walk_at "es"
 refine mS_if ?_
 walk_at "es"
 refine c_eqS (t_bool ?_)
 have hne:(tx (R.take 1) == Str.ofString "") = false:=by
  rw [show (Str.ofString "") = tx [] from rfl,tx_inj]
  cases hx <;> rfl
 rw [hne]
 show mB _ _ _ _
 walk_at "es"
 refine mS_if (mT_plain (q_call g' nk_is_letter_scanner ?_))
 walk_at "es"
 refine sp_is_letter (k:=k) g' (rm'.less (by omega)) (t_bool ?_)
 have gb:∀ A' : H,(∀ x:Nm,x.1 ≠ 0 ∨ x.2.1 < t → x ≠ sc → x ≠ n → A' x = σ.hp x) → A' sc = some (scO src er (p + j + m:Nat) (.ref wn)) → A' n = some (tokO kk vv (.int (p + j:Nat))) → Free (t + 1) A' → Q (.ref n) ⟨σ.vars,A'⟩:=fun A' h1 h2 h3 h4=>h A' ⟨fun x hx=>by
  by_cases q:x = n
  ·rw [q,h3,H.set_self]
  ·rw [H.set_ne _ _ q]
   by_cases q' : x = sc
   ·rw [q',h2,H.set_self]
   ·rw [H.set_ne _ _ q'];exact h1 x hx q' q,h4⟩
 have tne:∀ (u i:Nat) (x:Nm),x.1 ≠ 0 → ((0,u,i):Nm) ≠ x:=fun u i x hx q=>hx (by rw [← q])
 cases hx with
 | word a w r ha hw hr=>
  rw [show one isL (a :: w ++ r) = true from ha]
  show mB _ _ _ _
  refine mB_cons (mS_ret ?_)
  refine q_meth 1227 1168 g' (me_Scanner_word _) (mE_local g'.ok rfl ⟨sc,_,rfl,e1,rfl,?_⟩)
  walk_at "es"
  refine sp_word (w:=a :: w) n (k:=k) g' (rm'.less (by omega)) e1 ew1 hz hd1 (fun c hc=>?_) hr hn1 hns hws ?_
  ·rcases List.mem_cons.mp hc with rfl | hc
   ·rw [ha];rfl
   ·exact hw c hc
  ·refine gb _ (fun x hx q q'=>?_) ?_ ?_ (fun u i hu=>?_)
   ·show ((σ.hp.set sc _).set sc _).set n _ x = _
    rw [H.set_ne _ _ q',H.set_ne _ _ q,H.set_ne _ _ q]
   ·show ((σ.hp.set sc _).set sc _).set n _ sc = _
    rw [H.set_ne _ _ (Ne.symm hns),H.set_self]
   ·show ((σ.hp.set sc _).set sc _).set n _ n = _
    rw [H.set_self]
    cases kwS.any (fun y=>y == tx (a :: w)) <;> rfl
   ·show ((σ.hp.set sc _).set sc _).set n _ _ = _
    rw [H.set_ne _ _ (tne _ _ _ hn0),H.set_ne _ _ (tne _ _ _ hsc),H.set_ne _ _ (tne _ _ _ hsc)]
    exact hf u i (by omega)
 | num a w r ha hl=>
  have hda:=ha a (.head _)
  have:isL a = false:=by
   have:=isD_lo hda
   unfold isL;simp;omega
  rw [show one isL (a :: w ++ 32 :: r) = false from this]
  show mB _ _ _ _
  walk_at "es"
  refine mS_if (mT_plain (q_call g' nk_is_digit ?_))
  walk_at "es"
  refine sp_is_digit (k:=k) g' (rm'.less (by omega)) (t_bool ?_)
  rw [show one isD (a :: w ++ 32 :: r) = true from hda]
  show mB _ _ _ _
  refine mB_cons (mS_ret ?_)
  refine q_meth 1227 1175 g' (me_Scanner_numeral _) (mE_local g'.ok rfl ⟨sc,_,rfl,e1,rfl,?_⟩)
  walk_at "es"
  have hts:((0,t,0):Nm) ≠ sc:=tne _ _ _ hsc
  have htn:n ≠ ((0,t,0):Nm):=Ne.symm (tne _ _ _ hn0)
  refine sp_numeral (w:=a :: w) (it:=(0,t,0)) n (k:=k) g' rm' e1 hz hd1 ha hl hn1 hns (hf1 t 0 (by exact cl0)) hts htn ?_
  refine gb _ (fun x hx q q'=>?_) ?_ ?_ (fun u i hu=>?_)
  ·have:x ≠ (0,t,0):=by rintro rfl;rcases hx with hx | hx <;> simp at hx
   show (((σ.hp.set sc _).set sc _).set _ _).set n _ x = _
   rw [H.set_ne _ _ q',H.set_ne _ _ this,H.set_ne _ _ q,H.set_ne _ _ q]
  ·show (((σ.hp.set sc _).set sc _).set _ _).set n _ sc = _
   rw [H.set_ne _ _ (Ne.symm hns),H.set_ne _ _ (Ne.symm hts),H.set_self]
  ·show (((σ.hp.set sc _).set sc _).set _ _).set n _ n = _
   rw [H.set_self]
  ·show (((σ.hp.set sc _).set sc _).set _ _).set n _ _ = _
   rw [H.set_ne _ _ (tne _ _ _ hn0),H.set_ne _ _ (by rintro h;cases h;omega),H.set_ne _ _ (tne _ _ _ hsc),H.set_ne _ _ (tne _ _ _ hsc)]
   exact hf u i (by omega)
 | sym a r h1 h2 h3 h4 h5 h6 h7=>
  rw [show one isL (a :: r) = false from h2]
  show mB _ _ _ _
  walk_at "es"
  refine mS_if (mT_plain (q_call g' nk_is_digit ?_))
  walk_at "es"
  refine sp_is_digit (k:=k) g' (rm'.less (by omega)) (t_bool ?_)
  rw [show one isD (a :: r) = false from h3]
  show mB _ _ _ _
  walk_at "es"
  refine mS_if ?_
  walk_at "es"
  refine c_eqS (t_bool ?_)
  have:(tx (List.take 1 (a :: r)) == Str.ofString "\"") = false:=by
   rw [show (Str.ofString "\"") = tx [34] from rfl,tx_inj]
   show ([a] == [34]) = false
   simpa using h5
  rw [this]
  show mB _ _ _ _
  walk_at "es"
  have hts:((0,t,0):Nm) ≠ sc:=tne _ _ _ hsc
  have htn:n ≠ ((0,t,0):Nm):=Ne.symm (tne _ _ _ hn0)
  refine q_meth0 1227 1224 g' (me_Scanner_symbol _) (mE_local g'.ok rfl ⟨sc,_,rfl,e1,rfl,?_⟩)
  refine sp_symbol (tn:=(0,t,0)) (k:=k) g' (rm'.less (by omega)) e1 hz hd1 h6 h7 (hf1 t 0 (by exact cl0)) hts ?_
  walk_at "es"
  refine mS_if ?_
  walk_at "es"
  refine c_neS (t_bool ?_)
  have:(tx [a] != Str.ofString "") = true:=by
   rw [show (Str.ofString "") = tx [] from rfl,bne,tx_inj]
   rfl
  rw [this]
  show mB _ _ _ _
  walk_at "es"
  refine q_bi g' nb_len bb_len ?_
  walk_at "es"
  refine MW1.toS (f_lenS ?_ (by rw [tx_length];simp))
  refine b_add ?_
  walk_at "es"
  refine q_put g' ((H.set_ne _ _ (Ne.symm hts)).trans e1) (by simp) ?_
  walk_at "es"
  refine q_call g' nk_Token ?_
  walk_at "es"
  refine sp_Token n (d:=k) g' (rm'.less (by omega)) ?_ ?_
  ·show (((σ.hp.set sc _).set _ _).set sc _) n = none
   rw [H.set_ne _ _ hns,H.set_ne _ _ htn];exact hn1
  ·refine gb _ (fun x hx q q'=>?_) ?_ ?_ (fun u i hu=>?_)
   ·have:x ≠ (0,t,0):=by rintro rfl;rcases hx with hx | hx <;> simp at hx
    show (((σ.hp.set sc _).set _ _).set sc _).set n _ x = _
    rw [H.set_ne _ _ q',H.set_ne _ _ q,H.set_ne _ _ this,H.set_ne _ _ q]
   ·show (((σ.hp.set sc _).set _ _).set sc _).set n _ sc = _
    rw [H.set_ne _ _ (Ne.symm hns),H.set_self]
    rw [tx_length];rfl
   ·show (((σ.hp.set sc _).set _ _).set sc _).set n _ n = _
    rw [H.set_self]
   ·show (((σ.hp.set sc _).set _ _).set sc _).set n _ _ = _
    rw [H.set_ne _ _ (tne _ _ _ hn0),H.set_ne _ _ (tne _ _ _ hsc),H.set_ne _ _ (by rintro h;cases h;omega),H.set_ne _ _ (tne _ _ _ hsc)]
    exact hf u i (by omega)
end
structure TyR where
 form:Str
 size:Int
 base:V
 length:Int
 fields:List V
 level:Int
 label:Str
structure ObR where
 name:Str
 kind:Str
 type:V
 place:Int
 exported:Bool
 level:Int
 value:V
 offset:Int
structure ScR where
 level:Int
 names:List (Str × Nat)
structure TokR where
 k:Str
 v:V
 p:Int
set_option genInjectivity true in
structure PS where
 src:List Nat
 place:Nat
 toks:List TokR
 cur:Nat
 types:List TyR
 keys:List (Str × Str)
 ks:List (Nm × Str × Str)
 objs:List ObR
 scs:List ScR
 lvl:Int
 recs:List V
 fwd:List (V × Str × Int)
 nf:List (V × Str × Int)
 L:H
noncomputable abbrev TY:Nm:=(1,0,0)
noncomputable abbrev KN:Nm:=(1,1,0)
noncomputable abbrev tyN (i:Nat):Nm:=(2,i,0)
noncomputable abbrev obN (i:Nat):Nm:=(3,i,0)
noncomputable abbrev SP:Nm:=(5,0,0)
noncomputable abbrev ER:Nm:=(6,0,0)
noncomputable abbrev SN:Nm:=(7,0,0)
noncomputable abbrev WD:Nm:=(7,1,0)
noncomputable abbrev RD:Nm:=(8,0,0)
noncomputable abbrev tkN (i:Nat):Nm:=(9,i,0)
noncomputable def tysO (n:Nat):O:=.inst 864 [("counter",.int n),("known",.ref KN),("boolean",.ref (tyN 0)),("char",.ref (tyN 1)),("byte",.ref (tyN 2)),("integer",.ref (tyN 3)),("mask",.ref (tyN 4)),("nil",.ref (tyN 5)),("none",.ref (tyN 6))]
noncomputable def tyO (i:Nat) (r:TyR):O:=.inst 807 [("number",.int (i + 1:Nat)),("form",.str r.form),("size",.int r.size),("base",r.base),("length",.int r.length),("fields",.ref (2,i,1)),("level",.int r.level),("params",.ref (2,i,2)),("module",.str ""),("label",.str r.label),("hidden",.ref (2,i,3)),("exno",.int 0)]
noncomputable def obO (r:ObR):O:=.inst 828 [("name",.str r.name),("kind",.str r.kind),("type",r.type),("place",.int r.place),("exported",.bool r.exported),("readonly",.bool false),("level",.int r.level),("module",.str ""),("value",r.value),("slot",.int 0),("offset",.int r.offset),("number",.int 0),("isparam",.bool false),("narrowed",.none)]
noncomputable def scpO (i:Nat) (r:ScR):O:=.inst 1248 [("level",.int r.level),("label",.str ""),("names",.ref (4,i,1)),("order",.ref (4,i,2)),("slots",.int 0)]
noncomputable def spO (lvl:Int):O:=.inst 1311 [("types",.ref TY),("module",.str ""),("stack",.ref (5,1,0)),("level",.int lvl)]
noncomputable def erO:O:=.inst 1058 [("rows",.ref (6,1,0)),("places",.ref (6,2,0))]
noncomputable def rdO (cur:Nat):O:=.inst 1403 [("scanner",.ref SN),("types",.ref TY),("errors",.ref ER),("importer",.none),("scopes",.ref SP),("module",.str ""),("procs",.ref (8,1,0)),("records",.ref (8,2,0)),("forwards",.ref (8,3,0)),("level",.int 0),("token",.ref (tkN cur))]
noncomputable def pick {α:Type}:List α → (Nat → α) → Nat → α
 | [],d,n=>d n
 | x :: _,_,0=>x
 | _ :: r,d,n + 1=>pick r d n
noncomputable abbrev n1:Nat → Option O:=fun _=>none
noncomputable def only (o:O):Nat → Option O:=pick [some o] n1
noncomputable def row {α:Type} (f:α → O) (l:List α) (c:Nat):Option O:=l[c]?.map f
noncomputable def col {α:Type} (fs:List (Nat → α → O)) (l:List α) (b c:Nat):Option O:=pick (fs.map fun f=>l[b]?.map (f b)) n1 c
noncomputable def c1 (n:Nat) (ks:List (Nm × Str × Str)) (keys:List (Str × Str)):Nat → Nat → Option O:=pick [only (tysO n),only (.known ks),row (fun k=>.tup [.str k.1,.str k.2]) keys] fun _=>n1
noncomputable def fs2:List (Nat → TyR → O):=[tyO,fun _ r=>.list r.fields,fun _ _=>.list [],fun _ _=>.list []]
noncomputable def c2 (l:List TyR):Nat → Nat → Option O:=col fs2 l
noncomputable def c3 (l:List ObR):Nat → Nat → Option O:=col [fun _=>obO] l
noncomputable def fs4:List (Nat → ScR → O):=[scpO,fun _ r=>.dict (r.names.map fun x=>(x.1,.ref (obN x.2))),fun _ r=>.list (r.names.map fun x=>.ref (obN x.2))]
noncomputable def c4 (l:List ScR):Nat → Nat → Option O:=col fs4 l
noncomputable def c5 (lvl:Int) (n:Nat):Nat → Nat → Option O:=pick [only (spO lvl),only (.list ((List.range n).map fun i=>.ref (4,i,0)))] fun _=>n1
noncomputable def c6:Nat → Nat → Option O:=pick [only erO,only (.list []),only (.dict [])] fun _=>n1
noncomputable def c7 (src:List Nat) (place:Nat):Nat → Nat → Option O:=pick [only (scO src (.ref ER) place (.ref WD)),only (.tup (kwS.map V.str))] fun _=>n1
noncomputable def c8 (cur:Nat) (recs:List V) (n:Nat) (nf:List (V × Str × Int)):Nat → Nat → Option O:=
 pick [only (rdO cur),only (.list []),only (.list recs),only (.list ((List.range n).map fun i=>.ref (8,4,i))),row (fun x=>.tup [x.1,.str x.2.1,.int x.2.2]) nf] fun _=>n1
noncomputable def c9 (l:List TokR):Nat → Nat → Option O:=col [fun _ r=>tokO (.str r.k) r.v (.int r.p)] l
noncomputable def n2:Nat → Nat → Option O:=fun _=>n1
noncomputable def arms (ps:PS):List (Nat → Nat → Option O):=[n2,c1 ps.types.length ps.ks ps.keys,c2 ps.types,c3 ps.objs,c4 ps.scs,c5 ps.lvl ps.scs.length,c6,c7 ps.src ps.place,c8 ps.cur ps.recs ps.fwd.length ps.nf,c9 ps.toks,n2,n2,n2,n2,n2,n2,n2,n2,n2,n2]
noncomputable def dfl (L:H) (a b c:Nat):Option O:=L (a + 20,b,c)
noncomputable def comp (ps:PS):Nat → Nat → Nat → Option O:=pick (arms ps) (dfl ps.L)
noncomputable def hpA (A:List (Nat → Nat → Option O)) (d:Nat → Nat → Nat → Option O):H:=fun n=>pick A d n.1 n.2.1 n.2.2
noncomputable def spec (ps:PS):H:=hpA (arms ps) (dfl ps.L)
noncomputable def ups (f:Nat → Nat → Option O) (b c:Nat) (o:O):Nat → Nat → Option O:=fun y z=>if y = b ∧ z = c then some o else f y z
theorem pick_get {α:Type}:∀ {l:List α} {d:Nat → α} {i:Nat} {f:α},l[i]? = some f → pick l d i = f
 | [],_,_,_,h=>nomatch h
 | _ :: _,_,0,_,h=>Option.some.inj h
 | _ :: r,d,i + 1,_,h=>pick_get (l:=r) (d:=d) h
theorem pick_set {α:Type}:∀ {l:List α} {d:Nat → α} {i:Nat} {f:α},l[i]? = some f → ∀ (y:α) (x:Nat),pick (l.set i y) d x = if x = i then y else pick l d x
 | [],_,_,_,h,_,_=>nomatch h
 | _ :: _,_,0,_,_,_,0=>rfl
 | _ :: _,_,0,_,_,_,_ + 1=>rfl
 | _ :: _,_,_ + 1,_,_,_,0=>rfl
 | _ :: r,d,i + 1,_,h,y,x + 1=>(pick_set (l:=r) (d:=d) h y x).trans (ite_congr (propext ⟨congrArg _,Nat.succ.inj⟩) (fun _=>rfl) fun _=>rfl)
theorem hp_set {A:List (Nat → Nat → Option O)} {d:Nat → Nat → Nat → Option O} {a b c:Nat} {o:O} {f:Nat → Nat → Option O} (h:A[a]? = some f):(hpA A d).set (a,b,c) o = hpA (A.set a (ups f b c o)) d:=by
 funext ⟨x,y,z⟩
 show (if (x,y,z) = (a,b,c) then some o else pick A d x y z) = pick (A.set a _) d x y z
 rw [pick_set h]
 by_cases q:x = a
 ·subst q
  rw [if_pos rfl,pick_get h]
  exact ite_congr (propext ⟨fun e=>by cases e;exact ⟨rfl,rfl⟩,fun e=>by rw [e.1,e.2]⟩) (fun _=>rfl) fun _=>rfl
 ·rw [if_neg q,if_neg fun e=>q (by cases e;rfl)]
theorem pick_up {A:List (Nat → Option O)} {d:Nat → Nat → Option O} {b c:Nat} {o:O} {g:Nat → Option O} (h:A[b]? = some g):ups (pick A d) b c o = pick (A.set b fun z=>if z = c then some o else g z) d:=by
 funext y z
 rw [pick_set h]
 show (if y = b ∧ z = c then some o else pick A d y z) = _
 by_cases q:y = b
 ·subst q
  rw [if_pos rfl,pick_get h]
  exact ite_congr (propext ⟨fun e=>e.2,fun e=>⟨rfl,e⟩⟩) (fun _=>rfl) fun _=>rfl
 ·rw [if_neg q,if_neg fun e=>q e.1]
theorem only_up {A:List (Nat → Option O)} {d:Nat → Nat → Option O} {b:Nat} {o o' : O} (h:A[b]? = some (only o)):ups (pick A d) b 0 o' = pick (A.set b (only o')) d:=by
 rw [pick_up h]
 congr
 funext z
 cases z <;> rfl
theorem snoc_get {α:Type} (S:List α) (a:α) (b:Nat):(S ++ [a])[b]? = if b = S.length then some a else S[b]?:=by
 by_cases q:b = S.length
 ·rw [if_pos q,q];simp
 ·rw [if_neg q]
  rcases Nat.lt_or_ge b S.length with q' | q'
  ·rw [List.getElem?_append_left q']
  ·rw [List.getElem?_eq_none (by simp;exact lq8 q' q),List.getElem?_eq_none q']
theorem set_get {α:Type} (S:List α) (a:α) (i b:Nat) (hi:i < S.length):(S.set i a)[b]? = if b = i then some a else S[b]?:=by
 rw [List.getElem?_set]
 by_cases q:b = i
 ·subst q;simp [hi]
 ·rw [if_neg (Ne.symm q),if_neg q]
theorem row_up {α:Type} {f:α → O} {l:List α} {x:α} {o:O} {A:List (Nat → Option O)} {d:Nat → Nat → Option O} {b:Nat} (h:A[b]? = some (row f l)) (e:f x = o):ups (pick A d) b l.length o = pick (A.set b (row f (l ++ [x]))) d:=by
 subst e
 rw [pick_up h]
 congr
 funext z
 show (if z = l.length then some (f x) else l[z]?.map f) = ((l ++ [x])[z]?).map f
 rw [snoc_get]
 split <;> rfl
theorem col_at {α:Type} {fs:List (Nat → α → O)} {l l' : List α} {n:Nat} {x:α} (h:∀ b,l'[b]? = if b = n then some x else l[b]?) (y z:Nat):col fs l' y z = if y = n then pick (fs.map fun f=>some (f y x)) n1 z else col fs l y z:=by
 unfold col
 rw [h y]
 split <;> rfl
theorem col1_up {α:Type} {f:Nat → α → O} {l l' : List α} {n:Nat} {x:α} {o:O} (h:∀ b,l'[b]? = if b = n then some x else l[b]?) (e:f n x = o):ups (col [f] l) n 0 o = col [f] l':=by
 funext y z
 rw [col_at h]
 subst e
 show (if y = n ∧ z = 0 then _ else _) = _
 by_cases q:y = n
 ·subst q
  rw [if_pos rfl]
  cases z with
  | zero=>exact if_pos ⟨rfl,rfl⟩
  | succ z=>exact if_neg fun e=>Nat.noConfusion e.2
 ·rw [if_neg fun e=>q e.1,if_neg q]
structure Is (h:H) (ps:PS) (t:Nat):Prop where
 eq:∀ n:Nm,n.1 ≠ 0 → h n = spec ps n
 free:Free t h
noncomputable def Fw (t:Nat) (h h' : H):Prop:=∀ u k,u < t → h' (0,u,k) = h (0,u,k)
theorem tne {u i:Nat} {x:Nm} (hx:autoParam (x.1 ≠ 0) aZ):((0,u,i):Nm) ≠ x:=fun q=>hx (by rw [← q])
theorem Fw.trans {t t' : Nat} {h h' h'' : H} (a:Fw t h h') (b:Fw t' h' h'') (l:t ≤ t'):Fw t h h'':=fun u k hu=>(b u k (by omega)).trans (a u k hu)
theorem Is.at {h:H} {ps:PS} {t:Nat} (I:Is h ps t) {n:Nm} {o:O} (e:spec ps n = some o) (hn:autoParam (n.1 ≠ 0) aZ):h n = some o:=(I.eq n hn).trans e
theorem Is.no {h:H} {ps:PS} {t:Nat} (I:Is h ps t) {n:Nm} (e:spec ps n = none) (hn:autoParam (n.1 ≠ 0) aZ):h n = none:=(I.eq n hn).trans e
theorem Is.put {h:H} {ps ps' : PS} {t:Nat} {n:Nm} {o:O} (I:Is h ps t) (hn:n.1 ≠ 0) (e:spec ps' = (spec ps).set n o):Is (h.set n o) ps' t:=⟨fun x hx=>by
 rw [e]
 show (if x = n then some o else h x) = if x = n then some o else spec ps x
 rw [I.eq x hx],fun u k hu=>(H.set_ne _ _ (fun q=>hn (by rw [← q]))).trans (I.free u k hu)⟩
theorem Is.tmp {h:H} {ps:PS} {t i:Nat} {o:O} (I:Is h ps t):Is (h.set (0,t,i) o) ps (t + 1):=⟨fun x hx=>by rw [H.set_ne _ _ (by rintro rfl;exact hx rfl)];exact I.eq x hx,fun u k hu=>by rw [H.set_ne _ _ (by walk_at "ne")];exact I.free u k (by omega)⟩
theorem Is.less {h:H} {ps:PS} {t t' : Nat} (I:Is h ps t) (l:t ≤ t'):Is h ps t':=⟨I.eq,fun u k hu=>I.free u k (by omega)⟩
inductive Sc:List Nat → List (Str × V) → Prop
 | nil (R:List Nat):Sc R []
 | cons {R R₁:List Nat} {j m:Nat} {k:Str} {v:V} {ts:List (Str × V)}:R = List.replicate j 32 ++ R₁ → Lx R₁ (.str k) v m → Sc (R₁.drop m) ts → Sc R ((k,v) :: ts)
structure PS.Ok (ps:PS):Prop where
 small:ps.src.length ≤ 1000000
 cur:ps.cur < ps.toks.length
noncomputable def PS.tok (ps:PS) (k:Str) (v:V):Prop:=∃ r,ps.toks[ps.cur]? = some r ∧ r.k = k ∧ r.v = v
noncomputable def PS.adv (ps:PS) (k:Str) (v:V) (p:Int) (pl:Nat):PS:={ ps with place:=pl,toks:=ps.toks ++ [⟨k,v,p⟩],cur:=ps.toks.length }
theorem c7_up {src:List Nat} {p p' : Nat}:ups (c7 src p) 0 0 (scO src (.ref ER) p' (.ref WD)) = c7 src p':=only_up (A:=[_,_]) (b:=0) rfl
theorem c8_cur {u u' : Nat} {recs:List V} {n:Nat} {nf:List (V × Str × Int)}:ups (c8 u recs n nf) 0 0 (rdO u') = c8 u' recs n nf:=only_up (A:=[_,_,_,_,_]) (b:=0) rfl
theorem c9_up {l:List TokR} {k:Str} {v:V} {p:Int}:ups (c9 l) l.length 0 (tokO (.str k) v (.int p)) = c9 (l ++ [⟨k,v,p⟩]):=col1_up (snoc_get _ _) rfl
theorem spec_adv (ps:PS) (k:Str) (v:V) (p:Int) (pl:Nat):spec (ps.adv k v p pl) = (((spec ps).set SN (scO ps.src (.ref ER) pl (.ref WD))).set (tkN ps.toks.length) (tokO (.str k) v (.int p))).set RD (rdO ps.toks.length):=by
 rw [show spec ps = hpA (arms ps) (dfl ps.L) from rfl,hp_set (f:=c7 ps.src ps.place) rfl,hp_set (f:=c9 ps.toks) rfl,hp_set (f:=c8 ps.cur ps.recs ps.fwd.length ps.nf) rfl,
  c9_up,c7_up,c8_cur]
 rfl
noncomputable def PS.Next (ps:PS) (k:Str) (v:V) (ps' : PS):Prop:=∃ j m R,ps.src.drop ps.place = List.replicate j 32 ++ R ∧ Lx R (.str k) v m ∧ ps' = ps.adv k v (ps.place + j:Nat) (ps.place + j + m)
section
variable {c:Cx} {σ:St}
theorem sp_step {ps ps' : PS} {t:Nat} {kk:Str} {vv:V} {Q:V → St → Prop} {k:Nat} (g:Good c) (rm:Rm c (k + 6)) (I:Is σ.hp ps t) (ok:ps.Ok) (nx:ps.Next kk vv ps')
  (h:∀ h',Is h' ps' (t + 1) → Fw t σ.hp h' → Q (.ref (tkN ps.cur)) ⟨σ.vars,h'⟩):mCall c 1358 [.ref RD] Q σ:=by
 obtain ⟨j,m,R,hd,hx,rfl⟩:=nx
 refine q_fun ["self"] [_] g rm (fun _=>dk1 rfl rfl) (hb1 fun _=>rfl) rfl fun B L=>?_
 intro c' QQ g' rm'
 have eRD:σ.hp RD = some (rdO ps.cur):=I.at rfl
 walk_at "es"
 refine q_get g' eRD (by simp) rfl ?_
 walk_at "es"
 refine q_meth0 1227 1147 g' (me_Scanner_take _) ?_
 walk_at "es"
 refine q_get g' eRD (by simp) rfl ?_
 refine ⟨SN,_,rfl,I.at rfl,rfl,?_⟩
 have hn:σ.hp (tkN ps.toks.length) = none:=I.no (by show Option.map _ (ps.toks[ps.toks.length]?) = none;simp)
 refine sp_take (tkN ps.toks.length) (k:=k) (t:=t) g' rm' (I.at rfl) (I.at rfl) ok.small hd hx hn (Nat.succ_ne_zero _) (Nat.succ_ne_zero _) (Nat.succ_ne_zero _) (fun q=>absurd (congrArg Prod.fst q) (by show ¬ (9 = 7);decide)) (by decide) I.free fun h₁ hg=>?_
 walk_at "es"
 have e1:h₁ RD = some (rdO ps.cur):=(hg.1 RD (.inl (by decide))).trans eRD
 refine q_put g' e1 (by simp) ?_
 walk_at "es"
 refine h _ ⟨fun x hx=>?_,fun u i hu=>?_⟩ fun u i hu=>?_
 ·rw [spec_adv]
  show (if x = RD then some _ else h₁ x) = if x = RD then some _ else (((spec ps).set SN _).set (tkN ps.toks.length) _) x
  by_cases q:x = RD
  ·rw [if_pos q,if_pos q];rfl
  ·rw [if_neg q,if_neg q,hg.1 x (.inl hx)]
   show (if x = tkN ps.toks.length then some _ else if x = SN then some _ else σ.hp x) = (if x = tkN ps.toks.length then some _ else if x = SN then some _ else spec ps x)
   rw [I.eq x hx]
 ·show (h₁.set RD (rdO ps.toks.length)) (0,u,i) = none
  rw [H.set_ne _ _ tne];exact hg.2 u i hu
 ·show (h₁.set RD (rdO ps.toks.length)) (0,u,i) = _
  rw [H.set_ne _ _ tne,hg.1 (0,u,i) (.inr hu)]
  show ((σ.hp.set SN (scO ps.src (V.ref ER) (ps.place + j + m:Nat) (V.ref WD))).set (tkN ps.toks.length) (tokO (.str kk) vv (.int (ps.place + j:Nat)))) (0,u,i) = _
  rw [H.set_ne _ _ tne,H.set_ne _ _ tne]
theorem sp_at {ps:PS} {t:Nat} {kk x:Str} {vv:V} {Q:V → St → Prop} {k:Nat} (g:Good c) (rm:Rm c (k + 1)) (I:Is σ.hp ps t) (ht:ps.tok kk vv) (h:Q (.bool (kk == x)) σ):mCall c 1365 [.ref RD,.str x] Q σ:=by
 obtain ⟨r,hr,rfl,rfl⟩:=ht
 refine q_fun ["self", "kind"] [_,_] g rm (fun _=>dk1 rfl rfl) (hb2 fun _ _=>rfl) rfl fun B L=>?_
 intro c' QQ g' rm'
 have eT:σ.hp (tkN ps.cur) = some (tokO (.str r.k) r.v (.int r.p)):=I.at (by show Option.map _ _ = _;rw [hr];rfl)
 walk_at "es"
 refine q_get g' (I.at (n:=RD) rfl) (by simp) rfl ?_
 refine q_get g' eT (by simp) rfl ?_
 walk_at "es"
 exact c_eqS h
theorem sp_rskip {ps ps' : PS} {t:Nat} {kk x k2:Str} {vv v2:V} {Q:V → St → Prop} {k:Nat} (g:Good c) (rm:Rm c (k + 7)) (I:Is σ.hp ps t) (ok:ps.Ok) (ht:ps.tok kk vv) (nx:kk = x → ps.Next k2 v2 ps')
  (h0:kk ≠ x → Q (.bool false) σ) (h1:kk = x → ∀ h',Is h' ps' (t + 1) → Fw t σ.hp h' → Q (.bool true) ⟨σ.vars,h'⟩):mCall c 1372 [.ref RD,.str x] Q σ:=by
 obtain ⟨r,hr,rfl,rfl⟩:=ht
 refine q_fun ["self", "kind"] [_,_] g rm (fun _=>dk1 rfl rfl) (hb2 fun _ _=>rfl) rfl fun B L=>?_
 intro c' QQ g' rm'
 have eT:σ.hp (tkN ps.cur) = some (tokO (.str r.k) r.v (.int r.p)):=I.at (by show Option.map _ _ = _;rw [hr];rfl)
 walk_at "es"
 refine mS_if ?_
 walk_at "es"
 refine q_get g' (I.at (n:=RD) rfl) (by simp) rfl ?_
 refine q_get g' eT (by simp) rfl ?_
 walk_at "es"
 refine c_neS (t_bool ?_)
 by_cases q:r.k = x
 ·rw [show (r.k != x) = false by simp [q]]
  show mB _ _ _ _
  walk_at "es"
  refine q_meth0 1403 1358 g' (me_Reader_step _) (mE_local g'.ok rfl ⟨RD,_,rfl,I.at rfl,rfl,?_⟩)
  refine sp_step (k:=k) g' rm' I ok (nx q) fun h' I' F'=>?_
  walk_at "es"
  exact h1 q h' I' F'
 ·rw [show (r.k != x) = true by simp [q]]
  show mB _ _ _ _
  walk_at "es"
  exact h0 q
theorem sp_expect {ps ps' : PS} {t:Nat} {kk k2:Str} {vv v2:V} {Q:V → St → Prop} {k:Nat} (g:Good c) (rm:Rm c (k + 8)) (I:Is σ.hp ps t) (ok:ps.Ok) (ht:ps.tok kk vv) (nx:ps.Next k2 v2 ps')
  (h:∀ h',Is h' ps' (t + 1) → Fw t σ.hp h' → Q (.bool true) ⟨σ.vars,h'⟩):mCall c 1379 [.ref RD,.str kk] Q σ:=by
 refine q_fun ["self", "kind"] [_,_] g rm (fun _=>dk1 rfl rfl) (hb2 fun _ _=>rfl) rfl fun B L=>?_
 intro c' QQ g' rm'
 walk_at "es"
 refine mS_if (mT_plain ?_)
 refine q_meth 1403 1372 g' (me_Reader_skip _) (mE_local g'.ok rfl ⟨RD,_,rfl,I.at rfl,rfl,?_⟩)
 walk_at "es"
 refine sp_rskip (k:=k) g' rm' I ok ht (fun _=>nx) (fun q=>absurd rfl q) fun _ h' I' F'=>?_
 refine t_bool (show mB _ _ _ _ from ?_)
 walk_at "es"
 exact h h' I' F'
theorem sp_name {ps ps' : PS} {t:Nat} {k2:Str} {vv v2:V} {Q:V → St → Prop} {k:Nat} (g:Good c) (rm:Rm c (k + 7)) (I:Is σ.hp ps t) (ok:ps.Ok) (ht:ps.tok "ident" vv) (nx:ps.Next k2 v2 ps')
  (h:∀ h',Is h' ps' (t + 1) → Fw t σ.hp h' → Q (.ref (tkN ps.cur)) ⟨σ.vars,h'⟩):mCall c 1393 [.ref RD] Q σ:=by
 refine q_fun ["self"] [_] g rm (fun _=>dk1 rfl rfl) (hb1 fun _=>rfl) rfl fun B L=>?_
 intro c' QQ g' rm'
 walk_at "es"
 refine mS_if (mT_plain ?_)
 refine q_meth 1403 1365 g' (me_Reader_at _) (mE_local g'.ok rfl ⟨RD,_,rfl,I.at rfl,rfl,?_⟩)
 walk_at "es"
 refine sp_at (k:=k) g' (rm'.less (by omega)) I ht ?_
 refine t_bool (show mB _ _ _ _ from ?_)
 walk_at "es"
 refine q_meth0 1403 1358 g' (me_Reader_step _) (mE_local g'.ok rfl ⟨RD,_,rfl,I.at rfl,rfl,?_⟩)
 exact sp_step (k:=k) g' rm' I ok nx h
end
theorem nk_Node (P:Params):nkB (KK P) "Node" 39 = true:=by kernel_rfl
theorem nk_const (P:Params):nkB (KK P) "const" 50 = true:=by kernel_rfl
theorem nk_factor (P:Params):nkB (KK P) "factor" 678 = true:=by kernel_rfl
theorem nk_term (P:Params):nkB (KK P) "term" 671 = true:=by kernel_rfl
theorem nk_simple_expression (P:Params):nkB (KK P) "simple_expression" 664 = true:=by kernel_rfl
theorem nk_expression (P:Params):nkB (KK P) "expression" 650 = true:=by kernel_rfl
theorem nk_const_expression (P:Params):nkB (KK P) "const_expression" 734 = true:=by kernel_rfl
theorem nk_is_integer (P:Params):nkB (KK P) "is_integer" 85 = true:=by kernel_rfl
theorem ns_MOST_BYTES (P:Params):∃ t,nsIn (KK P) mainGlobals "MOST_BYTES" = some (some (.int 16384 t)):=⟨_,rfl⟩
noncomputable def nodeO (t:V) (v:V) (p:Int) (kids:V):O:=.inst 39 [("op",.str "const"),("place",.int p),("type",t),("kids",kids),("value",v),("sure",.bool false)]
theorem hb6D {g:Addr} {σ:St} {fd:FuncData} {K:Frag} {a b d e f i:Str} {v1 v2 v3 v4 v5 v6:V} (h:∀ (s:Shared) x1 x2 x3 x4 x5 x6,K.In s.heap → BindsTo s fd ⟨[x1,x2,x3,x4,x5,x6],[]⟩ [(a,x1),(b,x2),(d,x3),(e,x4),(f,x5),(i,x6)]):∀ (ρ:Nm → Addr) (s:Shared) xs,K.In s.heap → Vals ρ σ.hp [v1,v2,v3,v4,v5,v6] xs → ∃ ys,BindsTo s fd ⟨xs,[]⟩ ([a,b,d,e,f,i].zip ys) ∧ Vals ρ σ.hp [v1,v2,v3,v4,v5,v6] ys:=fun ρ s xs X W=>by
 obtain ⟨x,_,rfl,_,W1⟩:=W.cons_inv;obtain ⟨y,_,rfl,_,W2⟩:=W1.cons_inv;obtain ⟨w,_,rfl,_,W3⟩:=W2.cons_inv;obtain ⟨j,_,rfl,_,W4⟩:=W3.cons_inv;obtain ⟨l,_,rfl,_,W5⟩:=W4.cons_inv;obtain ⟨m,_,rfl,_,W6⟩:=W5.cons_inv;cases W6.nil_inv;exact ⟨_,h s _ _ _ _ _ _ X,W⟩
section
variable {c:Cx} {σ:St}
theorem sp_const {ty v:V} {p:Int} (n kd:Nm) {Q:V → St → Prop} {k:Nat} (g:Good c) (rm:Rm c (k + 3)) (hn:σ.hp n = none) (hk:σ.hp kd = none) (hnk:n ≠ kd) (h:Q (.ref n) ((σ.put kd (.list [])).put n (nodeO ty v p (.ref kd)))):mCall c 50 [ty,v,.int p] Q σ:=by
 refine q_fun ["t", "value", "place"] [_,_,_] g rm (fun _=>dk1 rfl rfl) (hb3 fun _ _ _=>rfl) rfl fun B L=>?_
 intro c' QQ g' rm'
 walk_at "es"
 refine q_call g' nk_Node ?_
 walk_at "es"
 refine l_new kd hk ?_
 walk_at "es"
 refine q_new n g' rm' ((H.set_ne _ _ hnk).trans hn) (mk_Node _) (in_Node _) (if_Node _) fun c' g₁ rm₁ _=>?_
 refine q_fun ["self", "op", "place", "type_of", "kids", "value"] [_,_,_,_,_,_] g₁ rm₁ (fun _=>dk1 rfl rfl) (hb6D (g:=0) fun s _ _ _ _ _ _ X=>by
  rw [g₁.hK] at X
  exact BindsTo.of_defaults rfl (X 29 _ rfl) rfl rfl rfl) rfl fun B₂ L₂ g₂ rm₂=>?_
 walk_at "es"
 refine q_put g₂ (H.set_self _ _ _) (by simp) ?_
 walk_at "es"
 refine q_put g₂ (H.set_self _ _ _) (by simp) ?_
 walk_at "es"
 refine q_put g₂ (H.set_self _ _ _) (by simp) ?_
 walk_at "es"
 refine q_put g₂ (H.set_self _ _ _) (by simp) ?_
 walk_at "es"
 refine q_put g₂ (H.set_self _ _ _) (by simp) ?_
 walk_at "es"
 refine q_put g₂ (H.set_self _ _ _) (by simp) ?_
 walk_at "es"
 refine ⟨rfl,?_⟩
 simp only [St.put,H.set_set]
 exact h
theorem sp_is_integer {t:Nm} {fs:List (Str × V)} {form:Str} {Q:V → St → Prop} {k:Nat} (g:Good c) (rm:Rm c (k + 1)) (e:σ.hp t = some (.inst 807 fs)) (hf:getF "form" fs = some (.str form)) 
  (h:Q (.bool (form == "integer" || form == "byte")) σ):mCall c 85 [.ref t] Q σ:=by
 refine q_fun ["t"] [_] g rm (fun _=>dk1 rfl rfl) (hb1 fun _=>rfl) rfl fun B L=>?_
 intro c' QQ g' rm'
 refine mB_cons (mS_ret (or2 (fun Q h=>?_) (fun _ Q h=>?_) h)) <;> (walk_at "es";refine q_get g' e (by simp) hf ?_;walk_at "es";exact c_eqS h)
theorem sp_export_mark {ps:PS} {t:Nat} {kk:Str} {vv:V} {Q:V → St → Prop} {k:Nat} (g:Good c) (rm:Rm c (k + 2)) (I:Is σ.hp ps t) (ht:ps.tok kk vv) (hk:(kk == "*") = false) (h:Q (.bool false) σ):mCall c 875 [.ref RD] Q σ:=by
 refine q_fun ["rd"] [_] g rm (fun _=>dk1 rfl rfl) (hb1 fun _=>rfl) rfl fun B L=>?_
 intro c' QQ g' rm'
 walk_at "es"
 refine mS_if (mT_not (mT_plain ?_))
 refine q_meth 1403 1365 g' (me_Reader_at _) (mE_local g'.ok rfl ⟨RD,_,rfl,I.at rfl,rfl,?_⟩)
 walk_at "es"
 refine sp_at (k:=k) g' rm' I ht ?_
 rw [hk]
 refine t_bool (show mB _ _ _ _ from ?_)
 walk_at "es"
 exact h
structure NodeAt (h:H) (n:Nm) (v:Int) (t:Nat):Prop where
 tmp:n.1 = 0
 old:n.2.1 < t
 is:∃ p kd,h n = some (nodeO (.ref (tyN 3)) (.int v) p kd)
theorem NodeAt.fw {h h' : H} {n:Nm} {v:Int} {t t' : Nat} (N:NodeAt h n v t) (F:Fw t h h') (l:t ≤ t'):NodeAt h' n v t':=⟨N.tmp,Nat.lt_of_lt_of_le N.old l,by
 obtain ⟨p,kd,e⟩:=N.is
 obtain ⟨a,b,d⟩:=n
 have ha:a = 0:=N.tmp
 subst ha
 exact ⟨p,kd,(F b d N.old).trans e⟩⟩
theorem Fw.refl (t:Nat) (h:H):Fw t h h:=fun _ _ _=>rfl
theorem Fw.tmp {t i:Nat} {h:H} {o:O}:Fw t h (h.set (0,t,i) o):=fun u k hu=>H.set_ne _ _ (by walk_at "ne")
theorem sp_factor {ps ps' : PS} {t:Nat} {v:Int} {k2:Str} {v2:V} {Q:V → St → Prop} {k:Nat} (g:Good c) (rm:Rm c (k + 7)) (I:Is σ.hp ps t) (ok:ps.Ok) (ht:ps.tok "int" (.int v)) (nx:ps.Next k2 v2 ps') (h3:∃ r,ps.types[3]? = some r)
  (h:∀ h' n t',t ≤ t' → Is h' ps' t' → Fw t σ.hp h' → NodeAt h' n v t' → Q (.ref n) ⟨σ.vars,h'⟩):mCall c 678 [.ref RD] Q σ:=by
 obtain ⟨r,hr,hrk,hrv⟩:=ht
 have eT:σ.hp (tkN ps.cur) = some (tokO (.str r.k) r.v (.int r.p)):=I.at (by show Option.map _ _ = _;rw [hr];rfl)
 refine q_fun ["rd"] [_] g rm (fun _=>dk1 rfl rfl) (hb1 fun _=>rfl) rfl fun B L=>?_
 intro c' QQ g' rm'
 walk_at "es"
 refine q_get g' (I.at (n:=RD) rfl) (by simp) rfl ?_
 walk_at "es"
 refine q_get g' eT (by simp) rfl ?_
 rw [hrk]
 walk_at "es"
 refine mS_if ?_
 walk_at "es"
 refine c_eqS (t_bool (show mB _ _ _ _ from ?_))
 walk_at "es"
 refine mS_if ?_
 walk_at "es"
 refine c_eqS (t_bool (show mB _ _ _ _ from ?_))
 walk_at "es"
 refine q_meth0 1403 1358 g' (me_Reader_step _) (mE_local g'.ok rfl ⟨RD,_,rfl,I.at rfl,rfl,?_⟩)
 refine sp_step (k:=k) g' rm' I ok nx fun h₁ I₁ F₁=>?_
 have eT1:h₁ (tkN ps.cur) = some (tokO (.str r.k) r.v (.int r.p)):=by
  obtain ⟨j,m,R,_,_,rfl⟩:=nx
  refine I₁.at ?_
  show Option.map _ ((ps.toks ++ [_])[ps.cur]?) = _
  rw [List.getElem?_append_left ok.cur,hr];rfl
 have eTY:h₁ TY = some (tysO ps'.types.length):=I₁.at rfl
 walk_at "es"
 refine q_call g' nk_const ?_
 walk_at "es"
 refine q_get g' (I₁.at (n:=RD) rfl) (by simp) rfl ?_
 refine q_get g' eTY (by simp) rfl ?_
 walk_at "es"
 refine q_get g' eT1 (by simp) rfl ?_ (by rw [hrv];rfl)
 walk_at "es"
 refine q_get g' eT1 (by simp) rfl ?_
 walk_at "es"
 rw [hrv]
 refine sp_const (0,t + 1,1) (0,t + 1,0) (k:=k) g' (rm'.less (by omega)) (I₁.free _ _ (Nat.le_refl _)) (I₁.free _ _ (Nat.le_refl _)) (by walk_at "ne") ?_
 refine h _ _ (t + 2) (by omega) ?_ ?_ ⟨rfl,by show t + 1 < t + 2;omega,r.p,.ref (0,t + 1,0),H.set_self _ _ _⟩
 ·have:=(I₁.tmp (i:=0) (o:=.list []))
  refine ⟨fun x hx=>?_,fun u i hu=>?_⟩
  ·show (h₁.set _ _).set _ _ x = _
   rw [H.set_ne _ _ (by rintro rfl;exact hx rfl)];exact this.eq x hx
  ·show (h₁.set _ _).set _ _ _ = _
   rw [H.set_ne _ _ (by walk_at "ne")];exact this.free u i (by omega)
 ·refine F₁.trans (t':=t + 1) (fun u i hu=>?_) (by omega)
  show (h₁.set _ _).set _ _ _ = _
  rw [H.set_ne _ _ (by walk_at "ne"),H.set_ne _ _ (by walk_at "ne")]
end
theorem Is.tok {h:H} {ps:PS} {t:Nat} {kk:Str} {vv:V} (I:Is h ps t) (ht:ps.tok kk vv):∃ p:Int,h (tkN ps.cur) = some (tokO (.str kk) vv (.int p)):=by
 obtain ⟨r,hr,rfl,rfl⟩:=ht
 exact ⟨r.p,I.at (by show Option.map _ _ = _;rw [hr];rfl)⟩
theorem PS.Next.tok {ps ps' : PS} {k:Str} {v:V} (nx:ps.Next k v ps'):ps'.tok k v:=by
 obtain ⟨j,m,R,_,_,rfl⟩:=nx
 exact ⟨⟨k,v,(ps.place + j:Nat)⟩,by show (ps.toks ++ [_])[ps.toks.length]? = _;rw [List.getElem?_concat_length],rfl,rfl⟩
theorem PS.Next.ok {ps ps' : PS} {k:Str} {v:V} (nx:ps.Next k v ps') (ok:ps.Ok):ps'.Ok:=by
 obtain ⟨j,m,R,_,_,rfl⟩:=nx
 exact ⟨ok.small,by show ps.toks.length < (ps.toks ++ [_]).length;simp⟩
theorem PS.Next.types {ps ps' : PS} {k:Str} {v:V} (nx:ps.Next k v ps'):ps'.types = ps.types:=by
 obtain ⟨j,m,R,_,_,rfl⟩:=nx;rfl
section
variable {c:Cx} {σ:St}
theorem sp_term {ps ps' : PS} {t:Nat} {v:Int} {v2:V} {Q:V → St → Prop} {k:Nat} (g:Good c) (rm:Rm c (k + 8)) (I:Is σ.hp ps t) (ok:ps.Ok) (ht:ps.tok "int" (.int v)) (nx:ps.Next "OF" v2 ps') (h3:∃ r,ps.types[3]? = some r)
  (h:∀ h' n t',t ≤ t' → Is h' ps' t' → Fw t σ.hp h' → NodeAt h' n v t' → Q (.ref n) ⟨σ.vars,h'⟩):mCall c 671 [.ref RD] Q σ:=by
 refine q_fun ["rd"] [_] g rm (fun _=>dk1 rfl rfl) (hb1 fun _=>rfl) rfl fun B L=>?_
 intro c' QQ g' rm'
 walk_at "es"
 refine q_call g' nk_factor ?_
 walk_at "es"
 refine sp_factor (k:=k) g' rm' I ok ht nx h3 fun h₁ n t₁ l₁ I₁ F₁ N₁=>?_
 walk_at "es"
 obtain ⟨p,eT⟩:=I₁.tok nx.tok
 refine mS_while (fun k τ=>τ = ((⟨fun x=>(([("rd" : Str)].zip [V.ref RD]).lookup x),h₁⟩ : St).var "left" (.ref n))) 0 rfl ?_
 intro J';rintro _ _ rfl
 walk_at "es"
 refine q_get g' (I₁.at (n:=RD) rfl) (by simp) rfl ?_
 refine q_get g' eT (by simp) rfl ?_
 walk_at "es"
 refine t_new (0,t₁,0) (I₁.free _ _ (Nat.le_refl _)) ?_
 refine c_inT (ys:=["*", "/", "DIV", "MOD", "&"]) (H.set_self _ _ _) (t_bool (show mB _ _ _ _ from ?_))
 walk_at "es"
 exact h _ n (t₁ + 1) (by omega) I₁.tmp (F₁.trans Fw.tmp l₁) (N₁.fw Fw.tmp (by omega))
theorem sp_simple {ps ps' : PS} {t:Nat} {v:Int} {v2:V} {Q:V → St → Prop} {k:Nat} (g:Good c) (rm:Rm c (k + 9)) (I:Is σ.hp ps t) (ok:ps.Ok) (ht:ps.tok "int" (.int v)) (nx:ps.Next "OF" v2 ps') (h3:∃ r,ps.types[3]? = some r)
  (h:∀ h' n t',t ≤ t' → Is h' ps' t' → Fw t σ.hp h' → NodeAt h' n v t' → Q (.ref n) ⟨σ.vars,h'⟩):mCall c 664 [.ref RD] Q σ:=by
 obtain ⟨p₀,eT₀⟩:=I.tok ht
 refine q_fun ["rd"] [_] g rm (fun _=>dk1 rfl rfl) (hb1 fun _=>rfl) rfl fun B L=>?_
 intro c' QQ g' rm'
 walk_at "es"
 refine q_get g' (I.at (n:=RD) rfl) (by simp) rfl ?_
 walk_at "es"
 refine mS_if (tor2 (a:=false) (b:=false) (fun Q h=>?_) (fun _ Q h=>?_) (show mB _ _ _ _ from ?_))
 ·walk_at "es"
  refine q_get g' eT₀ (by simp) rfl ?_
  walk_at "es"
  exact c_eqS (t_bool h)
 ·walk_at "es"
  refine q_get g' eT₀ (by simp) rfl ?_
  walk_at "es"
  exact c_eqS (t_bool h)
 walk_at "es"
 refine q_call g' nk_term ?_
 walk_at "es"
 refine sp_term (k:=k) g' rm' I ok ht nx h3 fun h₁ n t₁ l₁ I₁ F₁ N₁=>?_
 walk_at "es"
 obtain ⟨p,eT⟩:=I₁.tok nx.tok
 refine mS_while (fun k τ=>τ.vars "rd" = some (.ref RD) ∧ τ.vars "left" = some (.ref n) ∧ τ.hp = h₁) 0 ⟨rfl,rfl,rfl⟩ ?_
 intro J';rintro _ ⟨vs,_⟩ ⟨hrd,hleft,rfl⟩
 walk_at "es"
 refine q_get g' (I₁.at (n:=RD) rfl) (by simp) rfl ?_
 refine q_get g' eT (by simp) rfl ?_
 walk_at "es"
 refine t_new (0,t₁,0) (I₁.free _ _ (Nat.le_refl _)) ?_
 refine c_inT (ys:=["+", "-", "OR"]) (H.set_self _ _ _) (t_bool (show mB _ _ _ _ from ?_))
 walk_at "es"
 exact h _ n (t₁ + 1) (by omega) I₁.tmp (F₁.trans Fw.tmp l₁) (N₁.fw Fw.tmp (by omega))
theorem sp_expression {ps ps' : PS} {t:Nat} {v:Int} {v2:V} {Q:V → St → Prop} {k:Nat} (g:Good c) (rm:Rm c (k + 10)) (I:Is σ.hp ps t) (ok:ps.Ok) (ht:ps.tok "int" (.int v)) (nx:ps.Next "OF" v2 ps') (h3:∃ r,ps.types[3]? = some r)
  (h:∀ h' n t',t ≤ t' → Is h' ps' t' → Fw t σ.hp h' → NodeAt h' n v t' → Q (.ref n) ⟨σ.vars,h'⟩):mCall c 650 [.ref RD] Q σ:=by
 refine q_fun ["rd"] [_] g rm (fun _=>dk1 rfl rfl) (hb1 fun _=>rfl) rfl fun B L=>?_
 intro c' QQ g' rm'
 walk_at "es"
 refine q_call g' nk_simple_expression ?_
 walk_at "es"
 refine sp_simple (k:=k) g' rm' I ok ht nx h3 fun h₁ n t₁ l₁ I₁ F₁ N₁=>?_
 walk_at "es"
 obtain ⟨p,eT⟩:=I₁.tok nx.tok
 refine q_get g' (I₁.at (n:=RD) rfl) (by simp) rfl ?_
 walk_at "es"
 refine mS_if ?_
 walk_at "es"
 refine q_get g' eT (by simp) rfl ?_
 walk_at "es"
 refine c_eqS (t_bool (show mB _ _ _ _ from ?_))
 walk_at "es"
 refine mS_if ?_
 walk_at "es"
 refine q_get g' eT (by simp) rfl ?_
 walk_at "es"
 refine t_new (0,t₁,0) (I₁.free _ _ (Nat.le_refl _)) ?_
 refine c_inT (ys:=["=", "#", "<", "<=", ">", ">=", "IN"]) (H.set_self _ _ _) (t_bool (show mB _ _ _ _ from ?_))
 walk_at "es"
 exact h _ n (t₁ + 1) (by omega) I₁.tmp (F₁.trans Fw.tmp l₁) (N₁.fw Fw.tmp (by omega))
theorem sp_const_expression {ps ps' : PS} {t:Nat} {v:Int} {v2:V} {Q:V → St → Prop} {k:Nat} (g:Good c) (rm:Rm c (k + 11)) (I:Is σ.hp ps t) (ok:ps.Ok) (ht:ps.tok "int" (.int v)) (nx:ps.Next "OF" v2 ps') (h3:∃ r,ps.types[3]? = some r)
  (h:∀ h' n t',t ≤ t' → Is h' ps' t' → Fw t σ.hp h' → NodeAt h' n v t' → Q (.ref n) ⟨σ.vars,h'⟩):mCall c 734 [.ref RD] Q σ:=by
 refine q_fun ["rd"] [_] g rm (fun _=>dk1 rfl rfl) (hb1 fun _=>rfl) rfl fun B L=>?_
 intro c' QQ g' rm'
 walk_at "es"
 refine q_call g' nk_expression ?_
 walk_at "es"
 refine sp_expression (k:=k) g' rm' I ok ht nx h3 fun h₁ n t₁ l₁ I₁ F₁ N₁=>?_
 obtain ⟨p,kd,eN⟩:=N₁.is
 walk_at "es"
 refine mS_if ?_
 walk_at "es"
 refine q_get g' eN (by simp) rfl ?_
 walk_at "es"
 refine c_eqS (t_bool (show mB _ _ _ _ from ?_))
 walk_at "es"
 exact h _ n t₁ l₁ I₁ F₁ N₁
theorem sp_length_of {ps ps' : PS} {t:Nat} {v:Int} {v2:V} {r:TyR} {Q:V → St → Prop} {k:Nat} (g:Good c) (rm:Rm c (k + 12)) (I:Is σ.hp ps t) (ok:ps.Ok) (ht:ps.tok "int" (.int v)) (nx:ps.Next "OF" v2 ps') (h3:ps.types[3]? = some r) (hr:r.form = "integer") (hv:1 ≤ v) (hv' : v ≤ 16384)
  (h:∀ h' t',t ≤ t' → Is h' ps' t' → Fw t σ.hp h' → Q (.int v) ⟨σ.vars,h'⟩):mCall c 910 [.ref RD] Q σ:=by
 obtain ⟨p₀,eT₀⟩:=I.tok ht
 refine q_fun ["rd"] [_] g rm (fun _=>dk1 rfl rfl) (hb1 fun _=>rfl) rfl fun B L=>?_
 intro c' QQ g' rm'
 walk_at "es"
 refine q_get g' (I.at (n:=RD) rfl) (by simp) rfl ?_
 refine q_get g' eT₀ (by simp) rfl ?_
 walk_at "es"
 refine q_call g' nk_const_expression ?_
 walk_at "es"
 refine sp_const_expression (k:=k) g' rm' I ok ht nx ⟨r,h3⟩ fun h₁ n t₁ l₁ I₁ F₁ N₁=>?_
 obtain ⟨p,kd,eN⟩:=N₁.is
 have e3:h₁ (tyN 3) = some (tyO 3 r):=I₁.at (by show Option.map _ (ps'.types[3]?) = _;rw [nx.types,h3];rfl)
 walk_at "es"
 refine mS_if (tor2 (a:=false) (b:=false) (fun Q h=>?_) (fun _ Q h=>mT_not (mT_plain ?_)) (show mB _ _ _ _ from ?_))
 ·walk_at "es"
  refine q_get g' eN (by simp) rfl ?_
  walk_at "es"
  exact c_neS (t_bool h)
 ·refine q_call g' nk_is_integer ?_
  walk_at "es"
  refine q_get g' eN (by simp) rfl ?_
  walk_at "es"
  refine sp_is_integer (k:=k) g' (rm'.less (by omega)) e3 rfl ?_
  rw [hr]
  exact t_bool h
 walk_at "es"
 refine mS_if (tor2 (a:=false) (b:=false) (fun Q h=>?_) (fun _ Q h=>?_) (show mB _ _ _ _ from ?_))
 ·walk_at "es"
  refine q_get g' eN (by simp) rfl ?_
  walk_at "es"
  refine c_lt (t_bool ?_)
  rw [decide_eq_false (by omega)];exact h
 ·walk_at "es"
  refine q_get g' eN (by simp) rfl ?_
  refine q_gint g' ns_MOST_BYTES ?_
  refine c_gt (t_bool ?_)
  rw [decide_eq_false (by omega)];exact h
 walk_at "es"
 refine q_get g' eN (by simp) rfl ?_
 exact h _ t₁ l₁ I₁ F₁
end
noncomputable def lookN (x:Str):List (Str × Nat) → Option Nat
 | []=>none
 | (y,k) :: r=>if y = x then some k else lookN x r
theorem getF_names (x:Str):∀ l:List (Str × Nat),getF x (l.map fun y=>(y.1,V.ref (obN y.2))) = (lookN x l).map fun k=>V.ref (obN k)
 | []=>rfl
 | (y,k) :: r=>by
  show (if y = x then some (V.ref (obN k)) else getF x (r.map _)) = (if y = x then some k else lookN x r).map _
  by_cases q:y = x
  ·rw [if_pos q,if_pos q];rfl
  ·rw [if_neg q,if_neg q];exact getF_names x r
noncomputable def findS (x:Str):List ScR → Option Nat
 | []=>none
 | r :: rs=>match lookN x r.names with
  | some k=>some k
  | none=>findS x rs
noncomputable def PS.find (ps:PS) (x:Str):Option Nat:=findS x ps.scs.reverse
noncomputable def obV:Option Nat → V
 | some k=>.ref (obN k)
 | none=>.none
section
variable {c:Cx} {σ:St}
theorem it_self {n l:Nm} {i:Int} {Q:V → St → Prop} (e:σ.hp n = some (.raw "list_reverseiterator" [.v (.ref l),.ri i])) (h:Q (.ref n) σ):MW1 c RVal (.ref n) pyIter Q σ:=fun ρ δ news m s x R V=>by
 obtain ⟨o,y,hm,hg,hc,hd,U⟩:=raw2_at R e
 have U1:=U.1
 have VV:=V
 rw [V.1]
 exact wpAny_pyIter_revIter (l:=ρ l) (i:=i) ⟨o,hg,hc,by rw [hd,U1];rfl⟩ (Post.now (RV:=RVal) (b:=.ref n) R (show Val ρ σ.hp (.ref n) _ from ⟨rfl,VV.2⟩) h)
theorem s_dictA {o i:Expr} {n:Nm} {fs:List (Str × V)} {x:Str} {v:V} {Q:V → St → Prop} (e:σ.hp n = some (.dict fs)) (hv:getF x fs = some v) (h:Q v σ)
  (hs:autoParam (∀ a t,subscripted i false (.ref a) (.str x t) = operate [.ref a,.str x t] (getItem (.ref a) (.str x t))) aK) :
  MW2 c RVal (.ref n) (.str x) (subscriptTail o i) Q σ:=fun ρ δ news m s a b R V ⟨t,eb⟩=>by
 obtain ⟨low,ob,kvs,hm,hd,hk⟩:=dict_at R e
 subst eb
 rw [V.1]
 have:=hk.at x
 rw [hv] at this
 obtain ⟨val,hval,hV⟩:=this
 exact kdt_tail R.nw hm hd (kdt_getItem R.nw hm hd (strKind_is _ _ x t) hval (Post.now (RV:=RVal) (s:={ s with toks:=s.toks + 1 }) (R.same rfl) hV h)) (hs _ _)
theorem sp_find {ps:PS} {t:Nat} {x:Str} {Q:V → St → Prop} {k:Nat} (g:Good c) (rm:Rm c (k + 1)) (I:Is σ.hp ps t)
  (h:∀ h',Is h' ps (t + 1) → Fw t σ.hp h' → Q (obV (ps.find x)) ⟨σ.vars,h'⟩):mCall c 1308 [.ref SP,.str x] Q σ:=by
 refine q_fun ["self", "name"] [_,_] g rm (fun _=>dk1 rfl rfl) (hb2 fun _ _=>rfl) rfl fun B L=>?_
 intro c' QQ g' rm'
 refine mB_cons ?_
 refine mS_for (0,t,0) (fun k τ=>k ≤ ps.scs.length ∧ ps.find x = findS x (ps.scs.take k).reverse ∧ τ.vars "name" = some (.str x) ∧ τ.hp = σ.hp.set (0,t,0) (.raw "list_reverseiterator" [.v (.ref (5,1,0)),.ri ((k:Int) - 1)])) ?_ ?_ ?_
 ·refine q_ty g' nb_reversed bb_reversed ?_
  walk_at "es"
  refine q_get g' (I.at (n:=SP) rfl) (by simp) rfl ?_
  walk_at "es"
  refine MW1.toS (it_rev (0,t,0) (I.at (n:=(5,1,0)) rfl) (I.free _ _ (Nat.le_refl _)) ?_)
  refine it_self (H.set_self _ _ _) ⟨rfl,ps.scs.length,Nat.le_refl _,by rw [List.take_length];rfl,rfl,?_⟩
  simp only [St.put,List.length_map,List.length_range]
 ·rintro k' ⟨vs,hp⟩ ⟨_,_,_,rfl⟩
  show (σ.hp.set _ _) (0,t,0) ≠ none
  rw [H.set_self];simp
 ·intro J';rintro k' ⟨vs,hp⟩ ⟨hk,hfd,hnm,rfl⟩
  rcases Nat.eq_zero_or_pos k' with rfl | pos
  ·refine nx_revE g'.ok (l:=(5,1,0)) (xs:=[]) (H.set_self _ _ _) ?_
   walk_at "es"
   have:=h (σ.hp.set (0,t,0) .dead) I.tmp Fw.tmp
   rw [hfd] at this
   simp only [St.put,H.set_set]
   exact this
  ·obtain ⟨i,rfl⟩ : ∃ i,k' = i + 1:=⟨k' - 1,by exact lq9 pos⟩
   have lt:i < ps.scs.length:=by omega
   obtain ⟨r,hr⟩ : ∃ r,ps.scs[i]? = some r:=⟨_,List.getElem?_eq_getElem lt⟩
   have I₁:∀ o,Is (σ.hp.set (0,t,0) o) ps (t + 1):=fun o=>I.tmp
   rw [List.take_add_one,hr,List.reverse_append] at hfd
   replace hfd:ps.find x = match lookN x r.names with | some k=>some k | none=>findS x (ps.scs.take i).reverse:=hfd
   refine nx_rev (i:=i) (l:=(5,1,0)) (v:=.ref (4,i,0)) ?_ ((I₁ (.raw "list_reverseiterator" [.v (.ref (5,1,0)),.ri (((i + 1:Nat):Int) - 1)])).at (n:=(5,1,0)) rfl) ?_ ?_
   ·rw [show ((i:Nat):Int) = ((i + 1:Nat):Int) - 1 by omega];exact H.set_self _ _ _
   ·rw [List.getElem?_map,List.getElem?_range lt];rfl
   ·refine as_name g'.ok ?_
    simp only [St.put,H.set_set]
    have e0:(σ.hp.set (0,t,0) (.raw "list_reverseiterator" [.v (.ref (5,1,0)),.ri ((i:Int) - 1)])) (4,i,0) = some (scpO i r):=(I₁ _).at (by show Option.map _ (ps.scs[i]?) = _;rw [hr];rfl)
    have e1:(σ.hp.set (0,t,0) (.raw "list_reverseiterator" [.v (.ref (5,1,0)),.ri ((i:Int) - 1)])) (4,i,1) = some (.dict (r.names.map fun x=>(x.1,.ref (obN x.2)))):=(I₁ _).at (by show Option.map _ (ps.scs[i]?) = _;rw [hr];rfl)
    refine mB_cons (mS_if ?_)
    walk_at "es"
    refine q_get g' e0 (by simp) rfl ?_
    refine c_inD e1 (t_bool ?_)
    rw [getF_names]
    cases q:lookN x r.names with
    | some kk=>
     rw [q] at hfd
     show mB _ _ _ _
     walk_at "es"
     refine q_get g' e0 (by simp) rfl ?_
     walk_at "es"
     refine s_dictA e1 (v:=.ref (obN kk)) (by rw [getF_names,q];rfl) ?_
     have:=h (σ.hp.set (0,t,0) (.raw "list_reverseiterator" [.v (.ref (5,1,0)),.ri ((i:Int) - 1)])) I.tmp Fw.tmp
     rw [hfd] at this
     exact this
    | none=>
     rw [q] at hfd
     show mB _ _ _ _
     walk_at "es"
     exact ⟨i,by omega,by omega,hfd,hnm,rfl⟩
end
theorem nk_qualident (P:Params):nkB (KK P) "qualident" 239 = true:=by kernel_rfl
theorem PS.Next.find {ps ps' : PS} {k:Str} {v:V} (nx:ps.Next k v ps') (x:Str):ps'.find x = ps.find x:=by
 obtain ⟨j,m,R,_,_,rfl⟩:=nx;rfl
theorem PS.Next.objs {ps ps' : PS} {k:Str} {v:V} (nx:ps.Next k v ps'):ps'.objs = ps.objs:=by
 obtain ⟨j,m,R,_,_,rfl⟩:=nx;rfl
theorem PS.Next.old {ps ps' : PS} {k:Str} {v:V} {h:H} {t:Nat} {kk:Str} {vv:V} (nx:ps.Next k v ps') (ok:ps.Ok) (ht:ps.tok kk vv) (I:Is h ps' t):∃ p:Int,h (tkN ps.cur) = some (tokO (.str kk) vv (.int p)):=by
 obtain ⟨r,hr,rfl,rfl⟩:=ht
 obtain ⟨j,m,R,_,_,rfl⟩:=nx
 refine ⟨r.p,I.at ?_⟩
 show Option.map _ ((ps.toks ++ [_])[ps.cur]?) = _
 rw [List.getElem?_append_left ok.cur,hr];rfl
theorem Is.ob {h:H} {ps:PS} {t i:Nat} {r:ObR} (I:Is h ps t) (e:ps.objs[i]? = some r):h (obN i) = some (obO r):=I.at (by show (if 0 = 0 then Option.map _ _ else none) = _;rw [if_pos rfl,e];rfl)
theorem Is.ty {h:H} {ps:PS} {t i:Nat} {r:TyR} (I:Is h ps t) (e:ps.types[i]? = some r):h (tyN i) = some (tyO i r):=I.at (by show Option.map _ _ = _;rw [e];rfl)
section
variable {c:Cx} {σ:St}
theorem sp_qualident {ps ps' : PS} {t kk:Nat} {x k2:Str} {v2:V} {r:ObR} {Q:V → St → Prop} {k:Nat} (g:Good c) (rm:Rm c (k + 8)) (I:Is σ.hp ps t) (ok:ps.Ok) (ht:ps.tok "ident" (.str x)) (nx:ps.Next k2 v2 ps') (hf:ps.find x = some kk) (ho:ps.objs[kk]? = some r) (hk:(r.kind != "module") = true)
  (h:∀ h',Is h' ps' (t + 2) → Fw t σ.hp h' → Q (.ref (obN kk)) ⟨σ.vars,h'⟩):mCall c 239 [.ref RD] Q σ:=by
 refine q_fun ["rd"] [_] g rm (fun _=>dk1 rfl rfl) (hb1 fun _=>rfl) rfl fun B L=>?_
 intro c' QQ g' rm'
 walk_at "es"
 refine q_meth0 1403 1393 g' (me_Reader_name _) (mE_local g'.ok rfl ⟨RD,_,rfl,I.at rfl,rfl,?_⟩)
 refine sp_name (k:=k) g' rm' I ok ht nx fun h₁ I₁ F₁=>?_
 obtain ⟨p,eT⟩:=nx.old ok ht I₁
 walk_at "es"
 refine mS_if ?_
 walk_at "es"
 refine c_isR (t_bool (show mB _ _ _ _ from ?_))
 walk_at "es"
 refine q_meth 1311 1308 g' (me_Scopes_find _) (mE_attr (mE_local g'.ok rfl (q_get g' (I₁.at (n:=RD) rfl) (by simp) rfl ⟨SP,_,rfl,I₁.at rfl,rfl,?_⟩)))
 walk_at "es"
 refine q_get g' eT (by simp) rfl ?_
 walk_at "es"
 refine sp_find (k:=k) g' (rm'.less (by omega)) I₁ fun h₂ I₂ F₂=>?_
 rw [nx.find,hf]
 walk_at "es"
 refine mS_if ?_
 walk_at "es"
 refine c_isR (t_bool (show mB _ _ _ _ from ?_))
 walk_at "es"
 refine mS_if ?_
 walk_at "es"
 refine q_get g' (I₂.ob (nx.objs ▸ ho)) (by simp) rfl ?_
 walk_at "es"
 refine c_neS (t_bool ?_)
 rw [hk]
 show mB _ _ _ _
 walk_at "es"
 exact h h₂ I₂ (F₁.trans F₂ (by omega))
theorem sp_type_name {ps ps' : PS} {t kk i:Nat} {x k2:Str} {v2:V} {r:ObR} {tr:TyR} {Q:V → St → Prop} {k:Nat} (g:Good c) (rm:Rm c (k + 9)) (I:Is σ.hp ps t) (ok:ps.Ok) (ht:ps.tok "ident" (.str x)) (nx:ps.Next k2 v2 ps') (hf:ps.find x = some kk) (ho:ps.objs[kk]? = some r) (hk:r.kind = "type") (hty:r.type = .ref (tyN i)) (htr:ps.types[i]? = some tr) (hn:(tr.form == "none") = false)
  (h:∀ h',Is h' ps' (t + 2) → Fw t σ.hp h' → Q (.ref (tyN i)) ⟨σ.vars,h'⟩):mCall c 896 [.ref RD] Q σ:=by
 obtain ⟨p₀,eT₀⟩:=I.tok ht
 refine q_fun ["rd"] [_] g rm (fun _=>dk1 rfl rfl) (hb1 fun _=>rfl) rfl fun B L=>?_
 intro c' QQ g' rm'
 walk_at "es"
 refine q_get g' (I.at (n:=RD) rfl) (by simp) rfl ?_
 refine q_get g' eT₀ (by simp) rfl ?_
 walk_at "es"
 refine mS_if (mT_not (mT_plain ?_))
 refine q_meth 1403 1365 g' (me_Reader_at _) (mE_local g'.ok rfl ⟨RD,_,rfl,I.at rfl,rfl,?_⟩)
 walk_at "es"
 refine sp_at (k:=k) g' (rm'.less (by omega)) I ht (t_bool (show mB _ _ _ _ from ?_))
 walk_at "es"
 refine q_call g' nk_qualident ?_
 walk_at "es"
 refine sp_qualident (k:=k) g' rm' I ok ht nx hf ho (by rw [hk];rfl) fun h₁ I₁ F₁=>?_
 have eO:=I₁.ob (nx.objs ▸ ho)
 have eY:=I₁.ty (nx.types ▸ htr)
 walk_at "es"
 refine mS_if ?_
 walk_at "es"
 refine c_isR (t_bool (show mB _ _ _ _ from ?_))
 walk_at "es"
 refine mS_if ?_
 walk_at "es"
 refine q_get g' eO (by simp) rfl ?_
 walk_at "es"
 refine c_neS (t_bool ?_)
 rw [hk]
 show mB _ _ _ _
 walk_at "es"
 refine mS_if ?_
 walk_at "es"
 refine q_get g' eO (by simp) rfl ?_ (by rw [hty];rfl)
 rw [hty]
 refine q_get g' eY (by simp) rfl ?_
 walk_at "es"
 refine c_eqS (t_bool ?_)
 rw [hn]
 show mB _ _ _ _
 walk_at "es"
 refine q_get g' eO (by simp) rfl ?_ (by rw [hty];rfl)
 rw [hty]
 exact h h₁ I₁ F₁
theorem sp_is_undeclared0 {ps:PS} {t:Nat} {x:Str} {Q:V → St → Prop} {k:Nat} (g:Good c) (rm:Rm c (k + 2)) (I:Is σ.hp ps t) (hf:ps.find x = none)
  (h:∀ h',Is h' ps (t + 1) → Fw t σ.hp h' → Q (.bool true) ⟨σ.vars,h'⟩):mCall c 952 [.ref RD,.str x] Q σ:=by
 refine q_fun ["rd", "name"] [_,_] g rm (fun _=>dk1 rfl rfl) (hb2 fun _ _=>rfl) rfl fun B L=>?_
 intro c' QQ g' rm'
 walk_at "es"
 refine q_meth 1311 1308 g' (me_Scopes_find _) (mE_attr (mE_local g'.ok rfl (q_get g' (I.at (n:=RD) rfl) (by simp) rfl ⟨SP,_,rfl,I.at rfl,rfl,?_⟩)))
 walk_at "es"
 refine sp_find (k:=k) g' rm' I fun h₁ I₁ F₁=>?_
 rw [hf]
 walk_at "es"
 refine mS_if ?_
 walk_at "es"
 refine c_isN (t_bool (show mB _ _ _ _ from ?_))
 walk_at "es"
 exact h h₁ I₁ F₁
theorem sp_is_undeclared1 {ps:PS} {t kk i:Nat} {x:Str} {r:ObR} {tr:TyR} {Q:V → St → Prop} {k:Nat} (g:Good c) (rm:Rm c (k + 2)) (I:Is σ.hp ps t) (hf:ps.find x = some kk) (ho:ps.objs[kk]? = some r) (hk:r.kind = "type") (hty:r.type = .ref (tyN i)) (htr:ps.types[i]? = some tr)
  (h:∀ h',Is h' ps (t + 1) → Fw t σ.hp h' → Q (.bool (tr.form == "none")) ⟨σ.vars,h'⟩):mCall c 952 [.ref RD,.str x] Q σ:=by
 refine q_fun ["rd", "name"] [_,_] g rm (fun _=>dk1 rfl rfl) (hb2 fun _ _=>rfl) rfl fun B L=>?_
 intro c' QQ g' rm'
 walk_at "es"
 refine q_meth 1311 1308 g' (me_Scopes_find _) (mE_attr (mE_local g'.ok rfl (q_get g' (I.at (n:=RD) rfl) (by simp) rfl ⟨SP,_,rfl,I.at rfl,rfl,?_⟩)))
 walk_at "es"
 refine sp_find (k:=k) g' rm' I fun h₁ I₁ F₁=>?_
 rw [hf]
 walk_at "es"
 refine mS_if ?_
 walk_at "es"
 refine c_isR (t_bool (show mB _ _ _ _ from ?_))
 walk_at "es"
 refine and2 (a:=true) (b:=tr.form == "none") (fun Q h=>?_) (fun _ Q h=>?_) (h h₁ I₁ F₁)
 ·walk_at "es"
  refine q_get g' (I₁.ob ho) (by simp) rfl ?_
  walk_at "es"
  refine c_eqS ?_
  rw [hk];exact h
 ·walk_at "es"
  refine q_get g' (I₁.ob ho) (by simp) rfl ?_ (by rw [hty];rfl)
  rw [hty]
  refine q_get g' (I₁.ty htr) (by simp) rfl ?_
  walk_at "es"
  exact c_eqS h
end
theorem nk_Type (P:Params):nkB (KK P) "Type" 807 = true:=by kernel_rfl
theorem nk_Obj (P:Params):nkB (KK P) "Obj" 828 = true:=by kernel_rfl
theorem H.set_comm {h:H} {n n' : Nm} {o o' : O} (q:n ≠ n'):(h.set n o).set n' o' = (h.set n' o').set n o:=by
 funext x
 by_cases q1:x = n
 ·subst q1;rw [H.set_ne _ _ q,H.set_self,H.set_self]
 ·by_cases q2:x = n'
  ·subst q2;rw [H.set_self,H.set_ne _ _ q1,H.set_self]
  ·rw [H.set_ne _ _ q2,H.set_ne _ _ q1,H.set_ne _ _ q1,H.set_ne _ _ q2]
noncomputable def newTy (h:H) (m:Nat) (r:TyR):H:=(((h.set (2,m,1) (.list r.fields)).set (2,m,2) (.list [])).set (2,m,3) (.list [])).set (2,m,0) (tyO m r)
theorem newTy_ne {h:H} {m:Nat} {r:TyR} {x:Nm} (q:x.1 ≠ 2 ∨ x.2.1 ≠ m):newTy h m r x = h x:=by
 unfold newTy
 rw [H.set_ne _ _ (by rintro rfl;simp at q),H.set_ne _ _ (by rintro rfl;simp at q),H.set_ne _ _ (by rintro rfl;simp at q),H.set_ne _ _ (by rintro rfl;simp at q)]
section
variable {c:Cx} {σ:St}
theorem sp_Type {m:Nat} {form:Str} {size:Int} {Q:V → St → Prop} {k:Nat} (g:Good c) (rm:Rm c (k + 2)) (h0:∀ i,σ.hp (2,m,i) = none)
  (h:Q (.ref (2,m,0)) ⟨σ.vars,newTy σ.hp m ⟨form,size,.none,0,[],0, ""⟩⟩):mCall c 807 [.int (m + 1:Nat),.str form,.int size] Q σ:=by
 refine q_new (2,m,0) g rm (h0 0) (mk_Type _) (in_Type _) (if_Type _) fun c' g₁ rm₁ _=>?_
 refine q_fun ["self", "number", "form", "size"] [_,_,_,_] g₁ rm₁ (fun _=>dk1 rfl rfl) (hb4 fun _ _ _ _=>rfl) rfl fun B L=>?_
 intro c' QQ g' rm'
 have n01:((2,m,0):Nm) ≠ (2,m,1):=by simp
 have n02:((2,m,0):Nm) ≠ (2,m,2):=by simp
 have n03:((2,m,0):Nm) ≠ (2,m,3):=by simp
 walk_at "es"
 refine q_put g' (H.set_self _ _ _) (by simp) ?_
 walk_at "es"
 refine q_put g' (H.set_self _ _ _) (by simp) ?_
 walk_at "es"
 refine q_put g' (H.set_self _ _ _) (by simp) ?_
 walk_at "es"
 refine q_put g' (H.set_self _ _ _) (by simp) ?_
 walk_at "es"
 refine q_put g' (H.set_self _ _ _) (by simp) ?_
 simp only [St.put,H.set_set]
 walk_at "es"
 refine l_new (2,m,1) ?_ ?_
 ·exact (H.set_ne _ _ (Ne.symm n01)).trans (h0 1)
 simp only [St.put,H.set_set]
 rw [H.set_comm n01]
 walk_at "es"
 refine q_put g' (H.set_self _ _ _) (by simp) ?_
 walk_at "es"
 refine q_put g' (H.set_self _ _ _) (by simp) ?_
 simp only [St.put,H.set_set]
 walk_at "es"
 refine l_new (2,m,2) ?_ ?_
 ·show ((σ.hp.set (2,m,1) _).set (2,m,0) _) (2,m,2) = none
  rw [H.set_ne _ _ (Ne.symm n02),H.set_ne _ _ (by simp)];exact h0 2
 simp only [St.put,H.set_set]
 rw [H.set_comm n02]
 walk_at "es"
 refine q_put g' (H.set_self _ _ _) (by simp) ?_
 walk_at "es"
 refine q_put g' (H.set_self _ _ _) (by simp) ?_
 walk_at "es"
 refine q_put g' (H.set_self _ _ _) (by simp) ?_
 simp only [St.put,H.set_set]
 walk_at "es"
 refine l_new (2,m,3) ?_ ?_
 ·show (((σ.hp.set (2,m,1) _).set (2,m,2) _).set (2,m,0) _) (2,m,3) = none
  rw [H.set_ne _ _ (Ne.symm n03),H.set_ne _ _ (by simp),H.set_ne _ _ (by simp)];exact h0 3
 simp only [St.put,H.set_set]
 rw [H.set_comm n03]
 walk_at "es"
 refine q_put g' (H.set_self _ _ _) (by simp) ?_
 walk_at "es"
 refine q_put g' (H.set_self _ _ _) (by simp) ?_
 simp only [St.put,H.set_set]
 walk_at "es"
 exact ⟨rfl,h⟩
theorem sp_Obj {n:Nm} {name kind:Str} {ty:V} {p:Int} {Q:V → St → Prop} {k:Nat} (g:Good c) (rm:Rm c (k + 2)) (h0:σ.hp n = none)
  (h:Q (.ref n) (σ.put n (obO ⟨name,kind,ty,p,false,0,.none,0⟩))):mCall c 828 [.str name,.str kind,ty,.int p] Q σ:=by
 refine q_new n g rm h0 (mk_Obj _) (in_Obj _) (if_Obj _) fun c' g₁ rm₁ _=>?_
 refine q_fun ["self", "name", "kind", "type_of", "place"] [_,_,_,_,_] g₁ rm₁ (fun _=>dk1 rfl rfl) (hb5 fun _ _ _ _ _=>rfl) rfl fun B L=>?_
 intro c' QQ g' rm'
 walk_at "es"
 refine q_put g' (H.set_self _ _ _) (by simp) ?_
 walk_at "es"
 refine q_put g' (H.set_self _ _ _) (by simp) ?_
 walk_at "es"
 refine q_put g' (H.set_self _ _ _) (by simp) ?_
 walk_at "es"
 refine q_put g' (H.set_self _ _ _) (by simp) ?_
 walk_at "es"
 refine q_put g' (H.set_self _ _ _) (by simp) ?_
 simp only [St.put,H.set_set]
 walk_at "es"
 refine q_put g' (H.set_self _ _ _) (by simp) ?_
 walk_at "es"
 refine q_put g' (H.set_self _ _ _) (by simp) ?_
 walk_at "es"
 refine q_put g' (H.set_self _ _ _) (by simp) ?_
 walk_at "es"
 refine q_put g' (H.set_self _ _ _) (by simp) ?_
 walk_at "es"
 refine q_put g' (H.set_self _ _ _) (by simp) ?_
 simp only [St.put,H.set_set]
 walk_at "es"
 refine q_put g' (H.set_self _ _ _) (by simp) ?_
 walk_at "es"
 refine q_put g' (H.set_self _ _ _) (by simp) ?_
 walk_at "es"
 refine q_put g' (H.set_self _ _ _) (by simp) ?_
 walk_at "es"
 refine q_put g' (H.set_self _ _ _) (by simp) ?_
 simp only [St.put,H.set_set]
 walk_at "es"
 exact ⟨rfl,h⟩
end
theorem H.skip {h:H} {n x:Nm} {o:O} {y:Option O} (q:x ≠ n) (e:h x = y):(h.set n o) x = y:=(H.set_ne _ _ q).trans e
theorem newTy_self {h:H} {m:Nat} {r:TyR}:newTy h m r (2,m,0) = some (tyO m r):=H.set_self _ _ _
theorem newTy_set {h:H} {m:Nat} {r r' : TyR} (e:r'.fields = r.fields):(newTy h m r).set (2,m,0) (tyO m r') = newTy h m r':=by
 unfold newTy
 rw [H.set_set,e]
section
variable {c:Cx} {σ:St}
theorem q_putTy {h:H} {m:Nat} {r:TyR} (r' : TyR) {a:Str} {v:V} {Q:Unit → St → Prop} (g:Good c) (e:σ.hp = newTy h m r) (f:setOk (KK c.w.params) 807 a = true) (hp:O.inst 807 (putF a v [("number",.int (m + 1:Nat)),("form",.str r.form),("size",.int r.size),("base",r.base),("length",.int r.length),("fields",.ref (2,m,1)),("level",.int r.level),("params",.ref (2,m,2)),("module",.str ""),("label",.str r.label),("hidden",.ref (2,m,3)),("exno",.int 0)]) = tyO m r') (hf:r'.fields = r.fields)
  (hQ:Q () ⟨σ.vars,newTy h m r'⟩):MW2 c RUnit (.ref (2,m,0)) v (fun x y=>setAttr x a y) Q σ:=by
 refine q_put g (n:=(2,m,0)) (by rw [e];exact newTy_self) f ?_
 rw [hp]
 unfold St.put
 rw [e,newTy_set hf]
 exact hQ
theorem sp_new4 {fs:List (Str × V)} {m j:Nat} {form label:Str} {size:Int} {ks:List (Nm × Str × Str)} {Q:V → St → Prop} {k:Nat} (g:Good c) (rm:Rm c (k + 3))
  (e:σ.hp TY = some (.inst 864 fs)) (hfl:fs.length ≤ 500) (hc:getF "counter" fs = some (.int m)) (hkn:getF "known" (putF "counter" (.int (m + 1:Nat)) fs) = some (.ref KN)) (eK:σ.hp KN = some (.known ks))
  (hks:∀ k ∈ ks,σ.hp k.1 = some (.tup [.str k.2.1,.str k.2.2]) ∧ k.1.1 = 1 ∧ k.1.2.1 = 2) (hkl:ks.length ≤ 1000000) (h2:∀ i,σ.hp (2,m,i) = none) (hj:σ.hp (1,2,j) = none) (hl:(label != "") = true)
  (h:∀ ks',(∀ k ∈ ks',k ∈ ks ∨ k = (((1,2,j),("" : Str),label):Nm × Str × Str)) → ks'.length ≤ ks.length + 1 →
   Q (.ref (2,m,0)) ⟨σ.vars,((newTy (σ.hp.set TY (.inst 864 (putF "counter" (.int (m + 1:Nat)) fs))) m ⟨form,size,.none,0,[],0,label⟩).set (1,2,j) (.tup [.str "",.str label])).set KN (.known ks')⟩) :
  mCall c 854 [.ref TY,.str form,.int size,.str "",.str label] Q σ:=by
 refine q_fun ["self", "form", "size", "module", "label"] [_,_,_,_,_] g rm (fun _=>dk1 rfl rfl) (fun ρ s xs X W=>by
  obtain ⟨x,_,rfl,_,W1⟩:=W.cons_inv;obtain ⟨y,_,rfl,_,W2⟩:=W1.cons_inv;obtain ⟨w,_,rfl,_,W3⟩:=W2.cons_inv;obtain ⟨j,_,rfl,_,W4⟩:=W3.cons_inv;obtain ⟨l,_,rfl,_,W5⟩:=W4.cons_inv;cases W5.nil_inv
  rw [g.hK] at X
  exact ⟨_,BindsTo.of_defaults rfl (X 847 _ rfl) rfl rfl rfl,W⟩) rfl fun B L=>?_
 intro c' QQ g' rm'
 walk_at "es"
 refine q_get g' e (by simp) hc ?_
 walk_at "es"
 refine i_add ?_
 refine q_put g' e (by simp) ?_ hfl
 rw [show (m:Int) + 1 = (m + 1:Nat) by exact ic1]
 simp only [St.put]
 have e1:∀ o,(σ.hp.set TY o) TY = some o:=fun o=>H.set_self _ _ _
 walk_at "es"
 refine q_call g' nk_Type ?_
 walk_at "es"
 refine q_get g' (e1 _) (by simp) (v:=.int (m + 1:Nat)) ?_ ?_
 ·clear h hkn e hfl rm g' rm' g eK hks h2 hj hl e1
  induction fs with
  | nil=>rfl
  | cons a r ih=>
   obtain ⟨y,u⟩:=a
   unfold getF at hc
   unfold putF
   by_cases q:y = "counter"
   ·rw [if_pos q];unfold getF;rw [if_pos q]
   ·rw [if_neg q];rw [if_neg q] at hc;unfold getF;rw [if_neg q];exact ih hc
 walk_at "es"
 have hnT:∀ i:Nat,((2,m,i):Nm) ≠ TY:=fun i q=>by cases q
 have h2' : ∀ i,(σ.hp.set TY (.inst 864 (putF "counter" (.int (m + 1:Nat)) fs))) (2,m,i) = none:=fun i=>H.skip (h:=σ.hp) (hnT i) (h2 i)
 refine sp_Type (k:=k) g' rm' h2' ?_
 walk_at "es"
 refine q_putTy ⟨form,size,.none,0,[],0, ""⟩ g' rfl (by simp) rfl rfl ?_
 walk_at "es"
 refine q_putTy ⟨form,size,.none,0,[],0,label⟩ g' rfl (by simp) rfl rfl ?_
 walk_at "es"
 refine mS_if ?_
 walk_at "es"
 refine c_neS (t_bool ?_)
 rw [hl]
 show mB _ _ _ _
 have e2:(newTy (σ.hp.set TY (.inst 864 (putF "counter" (.int (m + 1:Nat)) fs))) m ⟨form,size,.none,0,[],0,label⟩) TY = some (.inst 864 (putF "counter" (.int (m + 1:Nat)) fs)):=(newTy_ne (.inl (by decide))).trans (e1 _)
 walk_at "es"
 refine q_get g' e2 (by simp) hkn ?_
 walk_at "es"
 have nk:∀ (x:Nm),x.1 = 1 → x ≠ TY → (newTy (σ.hp.set TY (.inst 864 (putF "counter" (.int (m + 1:Nat)) fs))) m ⟨form,size,.none,0,[],0,label⟩) x = σ.hp x:=fun x hx q=>(newTy_ne (.inl (by rw [hx];decide))).trans (H.set_ne σ.hp _ q)
 refine t_new (1,2,j) ((nk (1,2,j) rfl (by walk_at "ne")).trans hj) ?_ (by simp)
 refine k_set (ks:=ks) (n:=(1,2,j)) ?_ (H.set_self _ _ _) (fun k hk=>?_) (by have:=rm'.2;exact cb1 this) hkl fun ks' h1 h2=>?_
 ·show ((newTy (σ.hp.set TY (.inst 864 (putF "counter" (.int (m + 1:Nat)) fs))) m ⟨form,size,.none,0,[],0,label⟩).set (1,2,j) (.tup [.str "",.str label])) KN = _
  rw [H.set_ne _ _ (by walk_at "ne")]
  exact (nk KN rfl (by decide)).trans eK
 ·obtain ⟨a1,a2,a3⟩:=hks k hk
  by_cases q:k.1 = (1,2,j)
  ·rw [q,hj] at a1;cases a1
  ·show ((newTy (σ.hp.set TY (.inst 864 (putF "counter" (.int (m + 1:Nat)) fs))) m ⟨form,size,.none,0,[],0,label⟩).set (1,2,j) (.tup [.str "",.str label])) k.1 = _
   rw [H.set_ne _ _ q]
   exact ((nk k.1 a2 (by intro q';rw [q'] at a3;cases a3)).trans a1)
 ·walk_at "es"
  exact h ks' h1 h2
end
noncomputable def PS.newT (ps:PS) (r:TyR) (ks' : List (Nm × Str × Str)):PS:={ ps with types:=ps.types ++ [r],keys:=ps.keys ++ [(("" : Str),r.label)],ks:=ks' }
noncomputable def PS.newU (ps:PS) (r:TyR):PS:={ ps with types:=ps.types ++ [r] }
theorem col_none {α:Type} (l:List α):∀ (fs:List (Nat → α → O)) (z:Nat),col fs l l.length z = none:=fun fs z=>by
 unfold col
 rw [List.getElem?_eq_none (Nat.le_refl _)]
 induction fs generalizing z with
 | nil=>rfl
 | cons f r ih=>cases z with
  | zero=>rfl
  | succ z=>exact ih z
theorem c2_snoc {l:List TyR} {r:TyR}:ups (ups (ups (ups (c2 l) l.length 1 (.list r.fields)) l.length 2 (.list [])) l.length 3 (.list [])) l.length 0 (tyO l.length r) = c2 (l ++ [r]):=by
 have e:∀ y z,c2 (l ++ [r]) y z = _:=col_at (fs:=fs2) (snoc_get l r)
 funext y z
 rw [e]
 show (if y = l.length ∧ z = 0 then _ else if y = l.length ∧ z = 3 then _ else if y = l.length ∧ z = 2 then _ else if y = l.length ∧ z = 1 then _ else c2 l y z) = _
 by_cases q:y = l.length
 ·rw [if_pos q,q,show c2 l l.length z = none from col_none l fs2 z]
  match z with
  | 0=>exact if_pos ⟨rfl,rfl⟩
  | 1 | 2 | 3=>simp;rfl
  | z + 4=>simp;rfl
 ·rw [if_neg fun e=>q e.1,if_neg fun e=>q e.1,if_neg fun e=>q e.1,if_neg fun e=>q e.1,if_neg q];rfl
theorem c1_new {n:Nat} {ks ks' : List (Nm × Str × Str)} {keys:List (Str × Str)} {lb:Str}:ups (ups (ups (c1 n ks keys) 0 0 (tysO (n + 1))) 2 keys.length (.tup [.str "",.str lb])) 1 0 (.known ks') = c1 (n + 1) ks' (keys ++ [(("" : Str),lb)]):=by
 rw [show ups (c1 n ks keys) 0 0 (tysO (n + 1)) = c1 (n + 1) ks keys from only_up (A:=[_,_,_]) (b:=0) rfl,
  show ups (c1 (n + 1) ks keys) 2 keys.length (.tup [.str "",.str lb]) = c1 (n + 1) ks (keys ++ [(("" : Str),lb)]) from row_up (A:=[_,_,_]) (b:=2) (l:=keys) (x:=(("" : Str),lb)) rfl rfl]
 exact only_up (A:=[_,_,_]) (b:=1) rfl
theorem c1_ty {n:Nat} {ks:List (Nm × Str × Str)} {keys:List (Str × Str)}:ups (c1 n ks keys) 0 0 (tysO (n + 1)) = c1 (n + 1) ks keys:=only_up (A:=[_,_,_]) (b:=0) rfl
theorem spec_newT (ps:PS) (r:TyR) (ks' : List (Nm × Str × Str)):spec (ps.newT r ks') = ((newTy ((spec ps).set TY (tysO (ps.types.length + 1))) ps.types.length r).set (1,2,ps.keys.length) (.tup [.str "",.str r.label])).set KN (.known ks'):=by
 unfold newTy
 rw [show spec ps = hpA (arms ps) (dfl ps.L) from rfl,hp_set (a:=1) rfl,hp_set (a:=2) rfl,hp_set (a:=2) rfl,hp_set (a:=2) rfl,hp_set (a:=2) rfl,hp_set (a:=1) rfl,hp_set (a:=1) rfl,c2_snoc,c1_new]
 show hpA [n2,c1 (ps.types ++ [r]).length _ _,_,_,_,_,_,_,_,_,_,_,_,_,_,_,_,_,_,_] _ = _
 rw [List.length_append]
 rfl
theorem spec_newU (ps:PS) (r:TyR):spec (ps.newU r) = newTy ((spec ps).set TY (tysO (ps.types.length + 1))) ps.types.length r:=by
 unfold newTy
 rw [show spec ps = hpA (arms ps) (dfl ps.L) from rfl,hp_set (a:=1) rfl,hp_set (a:=2) rfl,hp_set (a:=2) rfl,hp_set (a:=2) rfl,hp_set (a:=2) rfl,c2_snoc,c1_ty]
 show hpA [n2,c1 (ps.types ++ [r]).length _ _,_,_,_,_,_,_,_,_,_,_,_,_,_,_,_,_,_,_] _ = _
 rw [List.length_append]
 rfl
structure PS.Kn (ps:PS):Prop where
 kn:∀ k ∈ ps.ks,∃ j,k.1 = (1,2,j) ∧ ps.keys[j]? = some (k.2.1,k.2.2)
 le:ps.ks.length ≤ ps.keys.length
section
variable {c:Cx} {σ:St}
theorem Is.via {h:H} {ps ps' : PS} {t:Nat} (I:Is h ps t) (f:H → H) (e:spec ps' = f (spec ps)) (hf:∀ h h' : H,(∀ n:Nm,n.1 ≠ 0 → h n = h' n) → ∀ n:Nm,n.1 ≠ 0 → f h n = f h' n) (h0:∀ h:H,∀ n:Nm,n.1 = 0 → f h n = h n):Is (f h) ps' t ∧ Fw t h (f h):=
 ⟨⟨fun n hn=>by rw [e];exact hf _ _ I.eq n hn,fun u k hu=>(h0 _ _ rfl).trans (I.free u k hu)⟩,fun u k _=>h0 _ _ rfl⟩
theorem set_hf {n:Nm} {o:O}:∀ h h' : H,(∀ n:Nm,n.1 ≠ 0 → h n = h' n) → ∀ x:Nm,x.1 ≠ 0 → (h.set n o) x = (h'.set n o) x:=fun h h' q x hx=>by
 show (if x = n then some o else h x) = (if x = n then some o else h' x)
 rw [q x hx]
theorem sp_newT {ps:PS} {t:Nat} {form label:Str} {size:Int} {Q:V → St → Prop} {k:Nat} (g:Good c) (rm:Rm c (k + 3)) (I:Is σ.hp ps t) (kn:ps.Kn) (hkl:ps.keys.length ≤ 1000) (hl:(label != "") = true)
  (h:∀ h' ks',Is h' (ps.newT ⟨form,size,.none,0,[],0,label⟩ ks') t → (ps.newT ⟨form,size,.none,0,[],0,label⟩ ks').Kn → Fw t σ.hp h' → Q (.ref (tyN ps.types.length)) ⟨σ.vars,h'⟩):mCall c 854 [.ref TY,.str form,.int size,.str "",.str label] Q σ:=by
 have h2:∀ i,σ.hp (2,ps.types.length,i) = none:=fun i=>I.no (col_none ps.types fs2 i)
 have hj:σ.hp (1,2,ps.keys.length) = none:=I.no (by
  show Option.map _ (ps.keys[ps.keys.length]?) = none
  rw [List.getElem?_eq_none (Nat.le_refl _)];rfl)
 refine sp_new4 (ks:=ps.ks) (j:=ps.keys.length) (m:=ps.types.length) g rm (I.at (n:=TY) rfl) (by simp) rfl rfl (I.at (n:=KN) rfl) (fun k hk=>?_) (by have:=kn.le;omega) h2 hj hl fun ks' h3 h4=>?_
 ·obtain ⟨j,e1,e2⟩:=kn.kn k hk
  rw [e1]
  refine ⟨I.at ?_,rfl,rfl⟩
  show Option.map _ (ps.keys[j]?) = _
  rw [e2];rfl
 ·have key:=I.via (ps':=ps.newT ⟨form,size,.none,0,[],0,label⟩ ks') (fun H=>((newTy (H.set TY (tysO (ps.types.length + 1))) ps.types.length ⟨form,size,.none,0,[],0,label⟩).set (1,2,ps.keys.length) (.tup [.str "",.str label])).set KN (.known ks')) (spec_newT _ _ _)
   (fun a b q=>set_hf _ _ (set_hf _ _ (set_hf _ _ (set_hf _ _ (set_hf _ _ (set_hf _ _ (set_hf _ _ q)))))))
   (fun a n hn=>by
    obtain ⟨x,y,z⟩:=n
    cases (show x = 0 from hn)
    show ((newTy (a.set TY (tysO (ps.types.length + 1))) ps.types.length ⟨form,size,.none,0,[],0,label⟩).set (1,2,ps.keys.length) (.tup [.str "",.str label])).set KN (.known ks') (0,y,z) = _
    rw [H.set_ne _ _ tne,H.set_ne _ _ tne,newTy_ne (.inl (by first | (show (1:Nat) ≠ 2;decide) | (show (0:Nat) ≠ 2;decide))),H.set_ne _ _ tne])
  refine h _ ks' key.1 ⟨fun k hk=>?_,?_⟩ key.2
  ·rcases h3 k hk with hk | rfl
   ·obtain ⟨j,e1,e2⟩:=kn.kn k hk
    refine ⟨j,e1,?_⟩
    show (ps.keys ++ [_])[j]? = _
    rw [List.getElem?_append_left (by rcases Nat.lt_or_ge j ps.keys.length with q | q;exact q;rw [List.getElem?_eq_none q] at e2;cases e2)]
    exact e2
   ·exact ⟨ps.keys.length,rfl,by show (ps.keys ++ [_])[_]? = _;rw [List.getElem?_concat_length]⟩
  ·show ks'.length ≤ (ps.keys ++ [_]).length
   rw [List.length_append];have:=kn.le;simp;exact cb2 h4 this
end
section
variable {c:Cx} {σ:St}
theorem getF_putF {x:Str} {v:V}:∀ fs:List (Str × V),getF x (putF x v fs) = some v
 | []=>by show (if x = x then some v else none) = _;rw [if_pos rfl]
 | (y,u) :: r=>by
  unfold putF
  by_cases q:y = x
  ·rw [if_pos q];unfold getF;rw [if_pos q]
  ·rw [if_neg q];unfold getF;rw [if_neg q];exact getF_putF r
theorem sp_new2 {fs:List (Str × V)} {m:Nat} {form:Str} {size:Int} {Q:V → St → Prop} {k:Nat} (g:Good c) (rm:Rm c (k + 3))
  (e:σ.hp TY = some (.inst 864 fs)) (hfl:fs.length ≤ 500) (hc:getF "counter" fs = some (.int m)) (h2:∀ i,σ.hp (2,m,i) = none)
  (h:Q (.ref (2,m,0)) ⟨σ.vars,newTy (σ.hp.set TY (.inst 864 (putF "counter" (.int (m + 1:Nat)) fs))) m ⟨form,size,.none,0,[],0, ""⟩⟩) :
  mCall c 854 [.ref TY,.str form,.int size] Q σ:=by
 refine q_fun ["self", "form", "size", "module", "label"] [_,_,_,.str "",.str ""] g rm (fun _=>dk1 rfl rfl) (fun ρ s xs X W=>by
  obtain ⟨x,_,rfl,V1,W1⟩:=W.cons_inv;obtain ⟨y,_,rfl,V2,W2⟩:=W1.cons_inv;obtain ⟨w,_,rfl,V3,W3⟩:=W2.cons_inv;cases W3.nil_inv
  rw [g.hK] at X
  exact ⟨[x,y,w,.str "" _,.str "" _],BindsTo.of_defaults rfl (X 847 _ rfl) rfl rfl rfl,.cons V1 (.cons V2 (.cons V3 (.cons ⟨_,rfl⟩ (.cons ⟨_,rfl⟩ .nil))))⟩) rfl fun B L=>?_
 intro c' QQ g' rm'
 walk_at "es"
 refine q_get g' e (by simp) hc ?_
 walk_at "es"
 refine i_add ?_
 refine q_put g' e (by simp) ?_ hfl
 rw [show (m:Int) + 1 = (m + 1:Nat) by exact ic1]
 simp only [St.put]
 walk_at "es"
 refine q_call g' nk_Type ?_
 walk_at "es"
 have e1:(σ.hp.set TY (.inst 864 (putF "counter" (.int (m + 1:Nat)) fs))) TY = some (.inst 864 (putF "counter" (.int (m + 1:Nat)) fs)):=H.set_self _ _ _
 refine q_get g' e1 (by simp) (v:=.int (m + 1:Nat)) (getF_putF _) ?_
 walk_at "es"
 have hnT:∀ i:Nat,((2,m,i):Nm) ≠ TY:=fun i q=>by cases q
 have h2' : ∀ i,(σ.hp.set TY (.inst 864 (putF "counter" (.int (m + 1:Nat)) fs))) (2,m,i) = none:=fun i=>H.skip (h:=σ.hp) (hnT i) (h2 i)
 refine sp_Type (k:=k) g' rm' h2' ?_
 walk_at "es"
 refine q_putTy ⟨form,size,.none,0,[],0, ""⟩ g' rfl (by simp) rfl rfl ?_
 walk_at "es"
 refine q_putTy ⟨form,size,.none,0,[],0, ""⟩ g' rfl (by simp) rfl rfl ?_
 walk_at "es"
 refine mS_if ?_
 walk_at "es"
 refine c_neS (t_bool (show mB _ _ _ _ from ?_))
 walk_at "es"
 exact h
theorem Is.noT {h:H} {ps:PS} {t:Nat} (I:Is h ps t) (i:Nat):h (2,ps.types.length,i) = none:=I.no (col_none ps.types fs2 i)
theorem sp_newU {ps:PS} {t:Nat} {form:Str} {size:Int} {Q:V → St → Prop} {k:Nat} (g:Good c) (rm:Rm c (k + 3)) (I:Is σ.hp ps t)
  (h:∀ h',Is h' (ps.newU ⟨form,size,.none,0,[],0, ""⟩) t → Fw t σ.hp h' → Q (.ref (tyN ps.types.length)) ⟨σ.vars,h'⟩):mCall c 854 [.ref TY,.str form,.int size] Q σ:=by
 refine sp_new2 (m:=ps.types.length) g rm (I.at (n:=TY) rfl) (by simp) rfl I.noT ?_
 have key:=I.via (ps':=ps.newU ⟨form,size,.none,0,[],0, ""⟩) (fun H=>newTy (H.set TY (tysO (ps.types.length + 1))) ps.types.length ⟨form,size,.none,0,[],0, ""⟩) (spec_newU _ _)
   (fun a b q=>set_hf _ _ (set_hf _ _ (set_hf _ _ (set_hf _ _ (set_hf _ _ q)))))
   (fun a n hn=>by
    obtain ⟨x,y,z⟩:=n
    cases (show x = 0 from hn)
    show (newTy (a.set TY (tysO (ps.types.length + 1))) ps.types.length ⟨form,size,.none,0,[],0, ""⟩) (0,y,z) = _
    rw [newTy_ne (.inl (by show (0:Nat) ≠ 2;decide)),H.set_ne _ _ tne])
 exact h _ key.1 key.2
theorem sp_add {o:Nm} {r:ObR} {si:Nat} {st nm od:Nm} {S:List V} {sfs:List (Str × V)} {ns:List (Str × V)} {os:List V} {Q:V → St → Prop} {k:Nat} (g:Good c) (rm:Rm c (k + 1)) (spf:List (Str × V))
  (eo:σ.hp o = some (obO r)) (eSP:σ.hp SP = some (.inst 1311 spf)) (hst:getF "stack" spf = some (.ref st)) (eS:σ.hp st = some (.list (S ++ [.ref (4,si,0)]))) (hSl:S.length ≤ 1000)
  (ec:σ.hp (4,si,0) = some (.inst 1248 sfs)) (hn1:getF "names" sfs = some (.ref nm)) (hn2:getF "order" sfs = some (.ref od)) (en:σ.hp nm = some (.dict ns)) (eod:σ.hp od = some (.list os))
  (hnew:getF r.name ns = none) (hnl:ns.length ≤ 1000) (hol:os.length ≤ 1000) (hk:(r.kind == "var") = false) (hk2:(r.kind == "par") = false) (d1:nm ≠ o) (d2:nm ≠ SP) (d3:nm ≠ st) (d4:(4,si,0) ≠ nm) (d5:od ≠ nm) (d6:od ≠ o)
  (h:Q (.bool true) ⟨σ.vars,(σ.hp.set nm (.dict (ns ++ [(r.name,.ref o)]))).set od (.list (os ++ [.ref o]))⟩):mCall c 1294 [.ref SP,.ref o] Q σ:=by
 refine q_fun ["self", "obj"] [_,_] g rm (fun _=>dk1 rfl rfl) (hb2 fun _ _=>rfl) rfl fun B L=>?_
 intro c' QQ g' rm'
 walk_at "es"
 refine q_get g' eSP (by simp) hst ?_
 walk_at "es"
 refine u_neg ?_
 refine s_listN eS (by omega) (by simp;omega) (v:=.ref (4,si,0)) ?_ ?_ (by simp;omega)
 ·rw [show ((-1:Int) + ((S ++ [V.ref (4,si,0)]).length:Int)).toNat = S.length by simp;omega,List.getElem?_concat_length]
 walk_at "es"
 refine mS_if ?_
 walk_at "es"
 refine q_get g' eo (by simp) rfl ?_
 walk_at "es"
 refine q_get g' ec (by simp) hn1 ?_
 refine c_inD en (t_bool ?_)
 rw [hnew]
 show mB _ _ _ _
 walk_at "es"
 refine q_get g' ec (by simp) hn1 ?_
 walk_at "es"
 refine q_get g' eo (by simp) rfl ?_
 refine d_set en hnew ?_ (by omega)
 walk_at "es"
 have eod' : (σ.hp.set nm (.dict (ns ++ [(r.name,.ref o)]))) od = some (.list os):=H.skip (h:=σ.hp) d5 eod
 have ec' : (σ.hp.set nm (.dict (ns ++ [(r.name,.ref o)]))) (4,si,0) = some (.inst 1248 sfs):=H.skip (h:=σ.hp) d4 ec
 refine mE_bm (mE_attr (mE_local g'.ok rfl (q_get g' ec' (by simp) hn2 ⟨_,meth_append eod',?_⟩)))
 walk_at "es"
 refine MW2.toS (l_append eod' ?_ (by omega))
 walk_at "es"
 have eo' : ((σ.hp.set nm (.dict (ns ++ [(r.name,.ref o)]))).set od (.list (os ++ [.ref o]))) o = some (obO r):=H.skip (h:=σ.hp.set nm _) (Ne.symm d6) (H.skip (h:=σ.hp) (Ne.symm d1) eo)
 refine mS_if (tor2 (a:=false) (b:=false) (fun Q h=>?_) (fun _ Q h=>?_) (show mB _ _ _ _ from ?_))
 ·walk_at "es"
  refine q_get g' eo' (by simp) rfl ?_
  walk_at "es"
  refine c_eqS (t_bool ?_)
  rw [hk];exact h
 ·walk_at "es"
  refine q_get g' eo' (by simp) rfl ?_
  walk_at "es"
  refine c_eqS (t_bool ?_)
  rw [hk2];exact h
 walk_at "es"
 exact h
end
section
variable {c:Cx} {σ:St}
noncomputable def lvl0 (l:Int):Int:=if 0 > l then 0 else l
theorem sp_insert {i si:Nat} {name kind:Str} {ty:V} {p lvl:Int} {S:List V} {spf sfs:List (Str × V)} {ns:List (Str × V)} {os:List V} {Q:V → St → Prop} {k:Nat} (g:Good c) (rm:Rm c (k + 3))
  (h3:σ.hp (3,i,0) = none) (eSP:σ.hp SP = some (.inst 1311 spf)) (hst:getF "stack" spf = some (.ref (5,1,0))) (hlv:getF "level" spf = some (.int lvl)) (hmd:getF "module" spf = some (.str "")) (hno:getF "add" spf = none) (eS:σ.hp (5,1,0) = some (.list (S ++ [.ref (4,si,0)]))) (hSl:S.length ≤ 1000)
  (ec:σ.hp (4,si,0) = some (.inst 1248 sfs)) (hn1:getF "names" sfs = some (.ref (4,si,1))) (hn2:getF "order" sfs = some (.ref (4,si,2))) (en:σ.hp (4,si,1) = some (.dict ns)) (eod:σ.hp (4,si,2) = some (.list os))
  (hnew:getF name ns = none) (hnl:ns.length ≤ 1000) (hol:os.length ≤ 1000) (hk:(kind == "var") = false) (hk2:(kind == "par") = false)
  (h:Q (.ref (3,i,0)) ⟨σ.vars,((σ.hp.set (3,i,0) (obO ⟨name,kind,ty,p,false,lvl0 lvl,.none,0⟩)).set (4,si,1) (.dict (ns ++ [(name,.ref (3,i,0))]))).set (4,si,2) (.list (os ++ [.ref (3,i,0)]))⟩):mCall c 1301 [.ref SP,.str name,.str kind,ty,.int p] Q σ:=by
 refine q_fun ["self", "name", "kind", "t", "place"] [_,_,_,_,_] g rm (fun _=>dk1 rfl rfl) (hb5 fun _ _ _ _ _=>rfl) rfl fun B L=>?_
 intro c' QQ g' rm'
 have nSP:SP ≠ ((3,i,0):Nm):=by intro q;cases q
 walk_at "es"
 refine q_call g' nk_Obj ?_
 walk_at "es"
 refine sp_Obj (n:=(3,i,0)) (k:=k) g' rm' h3 ?_
 walk_at "es"
 have e1:∀ o,(σ.hp.set (3,i,0) o) SP = some (.inst 1311 spf):=fun o=>H.skip (h:=σ.hp) nSP eSP
 refine q_bi g' nb_max bb_max ?_
 walk_at "es"
 refine q_get g' (e1 (obO ⟨name,kind,ty,p,false,0,.none,0⟩)) (by simp) hlv ?_
 walk_at "es"
 refine MW2.toS (f_max g'.ok ?_)
 walk_at "es"
 refine q_put g' (H.set_self _ _ _) (by simp) ?_
 simp only [St.put,St.var,H.set_set]
 walk_at "es"
 have e2:(σ.hp.set (3,i,0) (obO ⟨name,kind,ty,p,false,lvl0 lvl,.none,0⟩)) SP = some (.inst 1311 spf):=e1 _
 have eo:(σ.hp.set (3,i,0) (obO ⟨name,kind,ty,p,false,lvl0 lvl,.none,0⟩)) (3,i,0) = some (obO ⟨name,kind,ty,p,false,lvl0 lvl,.none,0⟩):=H.set_self _ _ _
 have eS' : (σ.hp.set (3,i,0) (obO ⟨name,kind,ty,p,false,lvl0 lvl,.none,0⟩)) (5,1,0) = some (.list (S ++ [.ref (4,si,0)])):=H.skip (h:=σ.hp) (by walk_at "ne") eS
 have ec' : (σ.hp.set (3,i,0) (obO ⟨name,kind,ty,p,false,lvl0 lvl,.none,0⟩)) (4,si,0) = some (.inst 1248 sfs):=H.skip (h:=σ.hp) (by walk_at "ne") ec
 have en' : (σ.hp.set (3,i,0) (obO ⟨name,kind,ty,p,false,lvl0 lvl,.none,0⟩)) (4,si,1) = some (.dict ns):=H.skip (h:=σ.hp) (by walk_at "ne") en
 have eod' : (σ.hp.set (3,i,0) (obO ⟨name,kind,ty,p,false,lvl0 lvl,.none,0⟩)) (4,si,2) = some (.list os):=H.skip (h:=σ.hp) (by walk_at "ne") eod
 refine mS_if ?_
 walk_at "es"
 refine q_get g' e2 (by simp) hlv ?_
 walk_at "es"
 refine c_ge (t_bool ?_)
 by_cases q:0 ≤ lvl
 ·rw [decide_eq_true q]
  show mB _ _ _ _
  walk_at "es"
  refine q_get g' e2 (by simp) hmd ?_
  walk_at "es"
  refine q_put g' (H.set_self _ _ _) (by simp) ?_
  simp only [St.put,St.var,H.set_set]
  walk_at "es"
  refine mS_if (mT_not (mT_plain ?_))
  refine q_meth 1311 1294 g' (me_Scopes_add _) (mE_local g'.ok rfl ⟨SP,_,rfl,e2,hno,?_⟩)
  walk_at "es"
  refine sp_add (k:=k) (o:=(3,i,0)) (nm:=(4,si,1)) (od:=(4,si,2)) (st:=(5,1,0)) g' (rm'.less (by omega)) spf eo e2 hst eS' hSl ec' hn1 hn2 en' eod' hnew hnl hol hk hk2 (by walk_at "ne") (by walk_at "ne") (by walk_at "ne") (by walk_at "ne") (by walk_at "ne") (by walk_at "ne") (t_bool (show mB _ _ _ _ from ?_))
  walk_at "es"
  exact h
 ·rw [decide_eq_false q]
  show mB _ _ _ _
  walk_at "es"
  refine mS_if (mT_not (mT_plain ?_))
  refine q_meth 1311 1294 g' (me_Scopes_add _) (mE_local g'.ok rfl ⟨SP,_,rfl,e2,hno,?_⟩)
  walk_at "es"
  refine sp_add (k:=k) (o:=(3,i,0)) (nm:=(4,si,1)) (od:=(4,si,2)) (st:=(5,1,0)) g' (rm'.less (by omega)) spf eo e2 hst eS' hSl ec' hn1 hn2 en' eod' hnew hnl hol hk hk2 (by walk_at "ne") (by walk_at "ne") (by walk_at "ne") (by walk_at "ne") (by walk_at "ne") (by walk_at "ne") (t_bool (show mB _ _ _ _ from ?_))
  walk_at "es"
  exact h
end
noncomputable def PS.ent (ps:PS) (S:List ScR) (r:ScR) (ob:ObR):PS:={ ps with objs:=ps.objs ++ [ob],scs:=S ++ [⟨r.level,r.names ++ [(ob.name,ps.objs.length)]⟩] }
noncomputable def entV (i:Nat):Str × Nat → Str × V:=fun x=>(x.1,.ref (obN x.2))
theorem c4_ent {S:List ScR} {r:ScR} {x:Str × Nat}:ups (ups (c4 (S ++ [r])) S.length 1 (.dict ((r.names.map fun x=>(x.1,.ref (obN x.2))) ++ [(x.1,.ref (obN x.2))]))) S.length 2 (.list ((r.names.map fun x=>.ref (obN x.2)) ++ [.ref (obN x.2)])) = c4 (S ++ [⟨r.level,r.names ++ [x]⟩]):=by
 have e:∀ r y z,c4 (S ++ [r]) y z = _:=fun r=>col_at (fs:=fs4) (snoc_get S r)
 funext y z
 rw [e]
 show (if y = S.length ∧ z = 2 then _ else if y = S.length ∧ z = 1 then _ else c4 (S ++ [r]) y z) = _
 rw [e]
 by_cases q:y = S.length
 ·rw [if_pos q,if_pos q,q]
  match z with
  | 0=>simp;rfl
  | 1=>simp [pick,fs4]
  | 2=>simp [pick,fs4]
  | z + 3=>simp;rfl
 ·rw [if_neg q,if_neg q,if_neg fun e=>q e.1,if_neg fun e=>q e.1]
theorem spec_ent (ps:PS) (S:List ScR) (r:ScR) (ob:ObR) (hS:ps.scs = S ++ [r]):spec (ps.ent S r ob) =
  (((spec ps).set (3,ps.objs.length,0) (obO ob)).set (4,S.length,1) (.dict ((r.names.map fun x=>(x.1,.ref (obN x.2))) ++ [(ob.name,.ref (obN ps.objs.length))]))).set (4,S.length,2) (.list ((r.names.map fun x=>.ref (obN x.2)) ++ [.ref (obN ps.objs.length)])):=by
 rw [show spec ps = hpA (arms ps) (dfl ps.L) from rfl,hp_set (a:=3) (f:=c3 ps.objs) rfl,hp_set (a:=4) (f:=c4 ps.scs) rfl,hp_set (a:=4) rfl,show ups (c3 ps.objs) _ _ _ = c3 (ps.objs ++ [ob]) from col1_up (snoc_get _ _) rfl,hS,c4_ent (x:=(ob.name,ps.objs.length))]
 show hpA [n2,_,_,_,c4 (S ++ [_]),c5 _ (S ++ [_]).length,_,_,_,_,_,_,_,_,_,_,_,_,_,_] _ = hpA [n2,_,_,_,_,c5 _ ps.scs.length,_,_,_,_,_,_,_,_,_,_,_,_,_,_] _
 rw [hS,List.length_append,List.length_append]
 rfl
theorem nk_entered (P:Params):nkB (KK P) "entered" 1013 = true:=by kernel_rfl
section
variable {c:Cx} {σ:St}
theorem sp_insertP {ps:PS} {t:Nat} {S:List ScR} {r:ScR} {name kind:Str} {ty:V} {p:Int} {Q:V → St → Prop} {k:Nat} (g:Good c) (rm:Rm c (k + 3)) (I:Is σ.hp ps t) (hS:ps.scs = S ++ [r]) (hSl:S.length ≤ 1000)
  (hnew:lookN name r.names = none) (hnl:r.names.length ≤ 1000) (hk:(kind == "var") = false) (hk2:(kind == "par") = false)
  (h:∀ h',Is h' (ps.ent S r ⟨name,kind,ty,p,false,lvl0 ps.lvl,.none,0⟩) t → Fw t σ.hp h' → Q (.ref (obN ps.objs.length)) ⟨σ.vars,h'⟩):mCall c 1301 [.ref SP,.str name,.str kind,ty,.int p] Q σ:=by
 have hr:ps.scs[S.length]? = some r:=by rw [hS,List.getElem?_concat_length]
 refine sp_insert (i:=ps.objs.length) (si:=S.length) (S:=(List.range S.length).map fun i=>.ref (4,i,0)) (ns:=r.names.map fun x=>(x.1,.ref (obN x.2))) (os:=r.names.map fun x=>.ref (obN x.2)) g rm ?_ (I.at (n:=SP) rfl) rfl rfl rfl rfl ?_ (by simpa using hSl) (I.at (o:=scpO S.length r) ?_) rfl rfl (I.at ?_) (I.at ?_) ?_ (by simpa using hnl) (by simpa using hnl) hk hk2 ?_
 ·refine I.no ?_
  show (if 0 = 0 then Option.map _ (ps.objs[ps.objs.length]?) else none) = none
  rw [List.getElem?_eq_none (Nat.le_refl _)];rfl
 ·refine I.at ?_
  show some (O.list ((List.range ps.scs.length).map fun i=>V.ref (4,i,0))) = _
  rw [hS,List.length_append,List.length_singleton,List.range_succ,List.map_append];rfl
 ·show Option.map _ _ = _;rw [hr];rfl
 ·show Option.map _ _ = _;rw [hr];rfl
 ·show Option.map _ _ = _;rw [hr];rfl
 ·rw [getF_names,hnew];rfl
 ·have key:=I.via (ps':=ps.ent S r ⟨name,kind,ty,p,false,lvl0 ps.lvl,.none,0⟩) (fun H=>((H.set (3,ps.objs.length,0) (obO ⟨name,kind,ty,p,false,lvl0 ps.lvl,.none,0⟩)).set (4,S.length,1) (.dict ((r.names.map fun x=>(x.1,.ref (obN x.2))) ++ [(name,.ref (obN ps.objs.length))]))).set (4,S.length,2) (.list ((r.names.map fun x=>.ref (obN x.2)) ++ [.ref (obN ps.objs.length)]))) (spec_ent _ _ _ _ hS)
   (fun a b q=>set_hf _ _ (set_hf _ _ (set_hf _ _ q)))
   (fun a n hn=>by
    obtain ⟨x,y,z⟩:=n
    cases (show x = 0 from hn)
    show ((a.set (3,ps.objs.length,0) (obO ⟨name,kind,ty,p,false,lvl0 ps.lvl,.none,0⟩)).set (4,S.length,1) (.dict ((r.names.map fun x=>(x.1,.ref (obN x.2))) ++ [(name,.ref (obN ps.objs.length))]))).set (4,S.length,2) (.list ((r.names.map fun x=>.ref (obN x.2)) ++ [.ref (obN ps.objs.length)])) (0,y,z) = _
    rw [H.set_ne _ _ tne,H.set_ne _ _ tne,H.set_ne _ _ tne])
  exact h _ key.1 key.2
theorem Is.same {h h' : H} {ps:PS} {t:Nat} (I:Is h ps t) (e:h' = h):Is h' ps t:=e ▸ I
theorem sp_entered {ps:PS} {t ti:Nat} {S:List ScR} {r:ScR} {kind x tkk:Str} {ty:V} {p:Int} {Q:V → St → Prop} {k:Nat} (g:Good c) (rm:Rm c (k + 4)) (I:Is σ.hp ps t) (hS:ps.scs = S ++ [r]) (hSl:S.length ≤ 1000)
  (hti:σ.hp (tkN ti) = some (tokO (.str tkk) (.str x) (.int p))) (hnew:lookN x r.names = none) (hnl:r.names.length ≤ 1000) (hk:(kind == "var") = false) (hk2:(kind == "par") = false)
  (h:∀ h',Is h' (ps.ent S r ⟨x,kind,ty,p,false,lvl0 ps.lvl,.none,0⟩) t → Fw t σ.hp h' → Q (.ref (obN ps.objs.length)) ⟨σ.vars,h'⟩):mCall c 1013 [.ref RD,.ref (tkN ti),.str kind,ty,.bool false] Q σ:=by
 refine q_fun ["rd", "token", "kind", "t", "exported"] [_,_,_,_,_] g rm (fun _=>dk1 rfl rfl) (hb5 fun _ _ _ _ _=>rfl) rfl fun B L=>?_
 intro c' QQ g' rm'
 walk_at "es"
 refine q_meth 1311 1301 g' (me_Scopes_insert _) (mE_attr (mE_local g'.ok rfl (q_get g' (I.at (n:=RD) rfl) (by simp) rfl ⟨SP,_,rfl,I.at rfl,rfl,?_⟩)))
 walk_at "es"
 refine q_get g' hti (by simp) rfl ?_
 walk_at "es"
 refine q_get g' hti (by simp) rfl ?_
 walk_at "es"
 refine sp_insertP (k:=k) g' rm' I hS hSl hnew hnl hk hk2 fun h₁ I₁ F₁=>?_
 walk_at "es"
 refine mS_if ?_
 walk_at "es"
 refine c_isR (t_bool (show mB _ _ _ _ from ?_))
 have eO:h₁ (obN ps.objs.length) = some (obO ⟨x,kind,ty,p,false,lvl0 ps.lvl,.none,0⟩):=I₁.ob (by show (ps.objs ++ [_])[ps.objs.length]? = _;rw [List.getElem?_concat_length])
 walk_at "es"
 refine q_put g' eO (by simp) ?_
 walk_at "es"
 have e:h₁.set (obN ps.objs.length) (obO ⟨x,kind,ty,p,false,lvl0 ps.lvl,.none,0⟩) = h₁:=H.set_same eO
 have:=h h₁ I₁ F₁
 rw [← e] at this
 exact this
end
noncomputable def PS.setT (ps:PS) (i:Nat) (r:TyR):PS:={ ps with types:=ps.types.set i r }
noncomputable def PS.setO (ps:PS) (i:Nat) (r:ObR):PS:={ ps with objs:=ps.objs.set i r }
noncomputable def PS.recd (ps:PS) (v:V):PS:={ ps with recs:=ps.recs ++ [v] }
noncomputable def PS.forw (ps:PS) (x:V × Str × Int):PS:={ ps with fwd:=ps.fwd ++ [x],nf:=ps.nf ++ [x] }
theorem c2_setl {l:List TyR} {i:Nat} {r:TyR} (hi:i < l.length):ups (ups (c2 l) i 1 (.list r.fields)) i 0 (tyO i r) = c2 (l.set i r):=by
 have e:∀ y z,c2 (l.set i r) y z = _:=col_at (fs:=fs2) (fun b=>set_get l r i b hi)
 funext y z
 rw [e]
 show (if y = i ∧ z = 0 then _ else if y = i ∧ z = 1 then _ else c2 l y z) = _
 by_cases q:y = i
 ·rw [if_pos q,q]
  match z with
  | 0=>exact if_pos ⟨rfl,rfl⟩
  | 1=>simp;rfl
  | 2 | 3=>
   simp only [Nat.reduceEqDiff,and_false,if_false]
   show Option.map _ (l[i]?) = _
   rw [List.getElem?_eq_getElem hi];rfl
  | z + 4=>simp;rfl
 ·rw [if_neg fun e=>q e.1,if_neg fun e=>q e.1,if_neg q];rfl
theorem spec_setT (ps:PS) (i:Nat) (r:TyR) (hi:i < ps.types.length):spec (ps.setT i r) = ((spec ps).set (2,i,1) (.list r.fields)).set (2,i,0) (tyO i r):=by
 rw [show spec ps = hpA (arms ps) (dfl ps.L) from rfl,hp_set (a:=2) (f:=c2 ps.types) rfl,hp_set (a:=2) rfl,c2_setl hi]
 show hpA [n2,c1 (ps.types.set i r).length _ _,_,_,_,_,_,_,_,_,_,_,_,_,_,_,_,_,_,_] _ = _
 rw [List.length_set]
 rfl
theorem spec_setO (ps:PS) (i:Nat) (r:ObR) (hi:i < ps.objs.length):spec (ps.setO i r) = (spec ps).set (3,i,0) (obO r):=by
 rw [show spec ps = hpA (arms ps) (dfl ps.L) from rfl,hp_set (a:=3) (f:=c3 ps.objs) rfl,show ups (c3 ps.objs) _ _ _ = c3 (ps.objs.set i r) from col1_up (fun b=>set_get ps.objs r i b hi) rfl]
 rfl
theorem c8_rec {u:Nat} {recs recs' : List V} {n:Nat} {nf:List (V × Str × Int)}:ups (c8 u recs n nf) 2 0 (.list recs') = c8 u recs' n nf:=only_up (A:=[_,_,_,_,_]) (b:=2) rfl
theorem spec_rec (ps:PS) (v:V):spec (ps.recd v) = (spec ps).set (8,2,0) (.list (ps.recs ++ [v])):=by
 rw [show spec ps = hpA (arms ps) (dfl ps.L) from rfl,hp_set (a:=8) (f:=c8 ps.cur ps.recs ps.fwd.length ps.nf) rfl,c8_rec]
 rfl
section
variable {c:Cx} {σ:St}
theorem Is.set1 {h:H} {ps ps' : PS} {t:Nat} {n:Nm} {o:O} (I:Is h ps t) (hn:n.1 ≠ 0) (e:spec ps' = (spec ps).set n o):Is (h.set n o) ps' t ∧ Fw t h (h.set n o):=
 ⟨I.put hn e,fun u k _=>H.set_ne _ _ (tne hn)⟩
theorem q_tyS {ps:PS} {t i:Nat} {r:TyR} (r' : TyR) {a:Str} {v:V} {Q:Unit → St → Prop} (g:Good c) (I:Is σ.hp ps t) (hr:ps.types[i]? = some r) (f:setOk (KK c.w.params) 807 a = true) (hp:O.inst 807 (putF a v [("number",.int (i + 1:Nat)),("form",.str r.form),("size",.int r.size),("base",r.base),("length",.int r.length),("fields",.ref (2,i,1)),("level",.int r.level),("params",.ref (2,i,2)),("module",.str ""),("label",.str r.label),("hidden",.ref (2,i,3)),("exno",.int 0)]) = tyO i r') (hf:r'.fields = r.fields)
  (hQ:∀ h',Is h' (ps.setT i r') t → Fw t σ.hp h' → Q () ⟨σ.vars,h'⟩):MW2 c RUnit (.ref (tyN i)) v (fun x y=>setAttr x a y) Q σ:=by
 have hi:i < ps.types.length:=by
  rcases Nat.lt_or_ge i ps.types.length with q | q
  ·exact q
  ·rw [List.getElem?_eq_none q] at hr;cases hr
 refine q_put g (I.ty hr) f ?_
 rw [hp]
 have e2:spec (ps.setT i r') = (spec ps).set (tyN i) (tyO i r'):=by
  rw [spec_setT ps i r' hi,hf]
  rw [show (spec ps).set (2,i,1) (.list r.fields) = spec ps from H.set_same (by show Option.map _ _ = _;rw [hr];rfl)]
 have key:=I.set1 (Nat.succ_ne_zero _) e2
 exact hQ _ key.1 key.2
theorem q_ob {ps:PS} {t i:Nat} {r:ObR} (r' : ObR) {a:Str} {v:V} {Q:Unit → St → Prop} (g:Good c) (I:Is σ.hp ps t) (hr:ps.objs[i]? = some r) (f:setOk (KK c.w.params) 828 a = true) (hp:O.inst 828 (putF a v [("name",.str r.name),("kind",.str r.kind),("type",r.type),("place",.int r.place),("exported",.bool r.exported),("readonly",.bool false),("level",.int r.level),("module",.str ""),("value",r.value),("slot",.int 0),("offset",.int r.offset),("number",.int 0),("isparam",.bool false),("narrowed",.none)]) = obO r')
  (hQ:∀ h',Is h' (ps.setO i r') t → Fw t σ.hp h' → Q () ⟨σ.vars,h'⟩):MW2 c RUnit (.ref (obN i)) v (fun x y=>setAttr x a y) Q σ:=by
 have hi:i < ps.objs.length:=by
  rcases Nat.lt_or_ge i ps.objs.length with q | q
  ·exact q
  ·rw [List.getElem?_eq_none q] at hr;cases hr
 refine q_put g (I.ob hr) f ?_
 rw [hp]
 have key:=I.set1 (Nat.succ_ne_zero _) (spec_setO ps i r' hi)
 exact hQ _ key.1 key.2
theorem q_fld {ps:PS} {t i:Nat} {r:TyR} {v:V} {Q:V → St → Prop} (I:Is σ.hp ps t) (hr:ps.types[i]? = some r) (hz:r.fields.length ≤ 1000) (hQ:∀ h',Is h' (ps.setT i { r with fields:=r.fields ++ [v] }) t → Fw t σ.hp h' → Q .none ⟨σ.vars,h'⟩) :
  MW2 c RVal (.ref (2,i,1)) v (fun x y=>call (.builtin "list.append") [x,y]) Q σ:=by
 have hi:i < ps.types.length:=by
  rcases Nat.lt_or_ge i ps.types.length with q | q
  ·exact q
  ·rw [List.getElem?_eq_none q] at hr;cases hr
 have e1:σ.hp (2,i,1) = some (.list r.fields):=I.at (by show Option.map _ _ = _;rw [hr];rfl)
 refine l_append e1 ?_ (by omega)
 have e2:spec (ps.setT i { r with fields:=r.fields ++ [v] }) = (spec ps).set (2,i,1) (.list (r.fields ++ [v])):=by
  rw [spec_setT ps i _ hi]
  exact H.set_same (by
   rw [H.set_ne _ _ (by walk_at "ne")]
   show Option.map _ _ = _;rw [hr];rfl)
 have key:=I.set1 (Nat.succ_ne_zero _) e2
 exact hQ _ key.1 key.2
theorem q_rec {ps:PS} {t:Nat} {v:V} {Q:V → St → Prop} (I:Is σ.hp ps t) (hz:ps.recs.length ≤ 1000) (hQ:∀ h',Is h' (ps.recd v) t → Fw t σ.hp h' → Q .none ⟨σ.vars,h'⟩) :
  MW2 c RVal (.ref (8,2,0)) v (fun x y=>call (.builtin "list.append") [x,y]) Q σ:=by
 refine l_append (I.at (n:=(8,2,0)) rfl) ?_ (by omega)
 have key:=I.set1 (Nat.succ_ne_zero _) (spec_rec ps v)
 exact hQ _ key.1 key.2
theorem b_mulS {a:Str} {n:Nat} {Q:V → St → Prop} (hn:n ≤ 1) (h:Q (.str (Txt.mul a n)) σ):MW2 c RVal (.str a) (.int n) (binaryOp .Mult) Q σ:=fun ρ δ news m s x y R ⟨t,ex⟩ ⟨u,ey⟩=>by
 subst ex ey
 refine SB.mul ⟨?_,?_,?_⟩ fun t' k=>Post.now (RV:=RVal) (b:=.str (Txt.mul a n)) (R.same rfl) ⟨_,rfl⟩ h
 ·have:¬ ((n:Int) < -(2 ^ 63:Int)):=by omega
  have h2:¬ ((n:Int) ≥ 2 ^ 63):=by omega
  rw [decide_eq_false this,decide_eq_false h2];rfl
 ·intro h1 h2
  have:n = 1:=by omega
  subst this
  simp at h2
 ·intro h1 h2
  have:n = 1:=by omega
  subst this
  simp at h2
end
theorem nk_type_of (P:Params):nkB (KK P) "type_of" 903 = true:=by kernel_rfl
theorem nk_type_name (P:Params):nkB (KK P) "type_name" 896 = true:=by kernel_rfl
theorem nk_array_type (P:Params):nkB (KK P) "array_type" 917 = true:=by kernel_rfl
theorem nk_length_of (P:Params):nkB (KK P) "length_of" 910 = true:=by kernel_rfl
theorem Is.old {h:H} {ps:PS} {t u i:Nat} {o:O} (I:Is h ps t) (l:u < t):Is (h.set (0,u,i) o) ps t:=⟨fun x hx=>by rw [H.set_ne _ _ (by rintro rfl;exact hx rfl)];exact I.eq x hx,fun v k hv=>by rw [H.set_ne _ _ (by walk_at "ne")];exact I.free v k hv⟩
theorem Fw.set {t u i:Nat} {h h' : H} {o:O} (F:Fw t h h') (l:t ≤ u):Fw t h (h'.set (0,u,i) o):=fun v k hv=>by rw [H.set_ne _ _ (by walk_at "ne")];exact F v k hv
theorem setT_newT (ps:PS) (r r' : TyR) (ks' : List (Nm × Str × Str)) (hl:r'.label = r.label):(ps.newT r ks').setT ps.types.length r' = ps.newT r' ks':=by
 unfold PS.setT PS.newT
 simp only [hl,PS.mk.injEq,and_true,true_and]
 rw [List.set_append_right _ _ (Nat.le_refl _)];simp
theorem newT_last (ps:PS) (r:TyR) (ks' : List (Nm × Str × Str)):(ps.newT r ks').types[ps.types.length]? = some r:=by
 show (ps.types ++ [r])[_]? = _;rw [List.getElem?_concat_length]
theorem newT_get {ps:PS} {r r0:TyR} {ks' : List (Nm × Str × Str)} {i:Nat} (h:ps.types[i]? = some r0):(ps.newT r ks').types[i]? = some r0:=by
 show (ps.types ++ [r])[_]? = _
 rw [List.getElem?_append_left (by rcases Nat.lt_or_ge i ps.types.length with q | q;exact q;rw [List.getElem?_eq_none q] at h;cases h)];exact h
section
variable {c:Cx} {σ:St}
theorem sp_type_of_name {ps ps' : PS} {t kk i:Nat} {x k2 lb:Str} {v2:V} {r:ObR} {tr:TyR} {Q:V → St → Prop} {k:Nat} (g:Good c) (rm:Rm c (k + 10)) (I:Is σ.hp ps t) (ok:ps.Ok) (ht:ps.tok "ident" (.str x)) (nx:ps.Next k2 v2 ps') (hf:ps.find x = some kk) (ho:ps.objs[kk]? = some r) (hk:r.kind = "type") (hty:r.type = .ref (tyN i)) (htr:ps.types[i]? = some tr) (hn:(tr.form == "none") = false)
  (h:∀ h',Is h' ps' (t + 2) → Fw t σ.hp h' → Q (.ref (tyN i)) ⟨σ.vars,h'⟩):mCall c 903 [.ref RD,.str lb] Q σ:=by
 refine q_fun ["rd", "label"] [_,_] g rm (fun _=>dk1 rfl rfl) (hb2 fun _ _=>rfl) rfl fun B L=>?_
 intro c' QQ g' rm'
 walk_at "es"
 refine mS_if (mT_plain (q_meth 1403 1365 g' (me_Reader_at _) (mE_local g'.ok rfl ⟨RD,_,rfl,I.at rfl,rfl,?_⟩)))
 walk_at "es"
 refine sp_at (k:=k) g' (rm'.less (by omega)) I ht (t_bool (show mB _ _ _ _ from ?_))
 walk_at "es"
 refine mS_if (mT_plain (q_meth 1403 1365 g' (me_Reader_at _) (mE_local g'.ok rfl ⟨RD,_,rfl,I.at rfl,rfl,?_⟩)))
 walk_at "es"
 refine sp_at (k:=k) g' (rm'.less (by omega)) I ht (t_bool (show mB _ _ _ _ from ?_))
 walk_at "es"
 refine mS_if (mT_plain (q_meth 1403 1365 g' (me_Reader_at _) (mE_local g'.ok rfl ⟨RD,_,rfl,I.at rfl,rfl,?_⟩)))
 walk_at "es"
 refine sp_at (k:=k) g' (rm'.less (by omega)) I ht (t_bool (show mB _ _ _ _ from ?_))
 walk_at "es"
 refine mS_if (mT_plain (q_meth 1403 1365 g' (me_Reader_at _) (mE_local g'.ok rfl ⟨RD,_,rfl,I.at rfl,rfl,?_⟩)))
 walk_at "es"
 refine sp_at (k:=k) g' (rm'.less (by omega)) I ht (t_bool (show mB _ _ _ _ from ?_))
 walk_at "es"
 refine q_call g' nk_type_name ?_
 walk_at "es"
 exact sp_type_name (k:=k) g' rm' I ok ht nx hf ho hk hty htr hn h
theorem sp_array_type {ps ps1 ps2 ps3 ps4:PS} {t kk i:Nat} {x k4 lb:Str} {v:Int} {va v2 v4:V} {r:ObR} {tr r3:TyR} {Q:V → St → Prop} {k:Nat} (g:Good c) (rm:Rm c (k + 13)) (I:Is σ.hp ps t) (ok:ps.Ok) (kn:ps4.Kn) (hkl:ps4.keys.length ≤ 1000)
  (ht:ps.tok "ARRAY" va) (n1:ps.Next "int" (.int v) ps1) (n2:ps1.Next "OF" v2 ps2) (n3:ps2.Next "ident" (.str x) ps3) (n4:ps3.Next k4 v4 ps4) (h3:ps.types[3]? = some r3) (hr3:r3.form = "integer") (hv:1 ≤ v) (hv' : v ≤ 1000)
  (hf:ps.find x = some kk) (ho:ps.objs[kk]? = some r) (hk:r.kind = "type") (hty:r.type = .ref (tyN i)) (htr:ps.types[i]? = some tr) (hn:(tr.form == "none") = false) (hlb:(lb != "") = true) (hll:lb.length ≤ 1000) (hs0:0 ≤ tr.size) (hsz:tr.size ≤ 16)
  (h:∀ h' t' ks',t ≤ t' → Is h' (ps4.newT ⟨"array",v * tr.size,.ref (tyN i),v,[],0,lb⟩ ks') t' → (ps4.newT ⟨"array",v * tr.size,.ref (tyN i),v,[],0,lb⟩ ks').Kn → Fw t σ.hp h' → Q (.ref (tyN ps4.types.length)) ⟨σ.vars,h'⟩):mCall c 917 [.ref RD,.str lb] Q σ:=by
 obtain ⟨p₀,eT₀⟩:=I.tok ht
 refine q_fun ["rd", "label"] [_,_] g rm (fun _=>dk1 rfl rfl) (hb2 fun _ _=>rfl) rfl fun B L=>?_
 intro c' QQ g' rm'
 walk_at "es"
 refine q_get g' (I.at (n:=RD) rfl) (by simp) rfl ?_
 refine q_get g' eT₀ (by simp) rfl ?_
 walk_at "es"
 refine q_meth0 1403 1358 g' (me_Reader_step _) (mE_local g'.ok rfl ⟨RD,_,rfl,I.at rfl,rfl,?_⟩)
 refine sp_step (k:=k) g' (rm'.less (by omega)) I ok n1 fun h₁ I₁ F₁=>?_
 have ok1:=n1.ok ok
 walk_at "es"
 refine q_call g' nk_length_of ?_
 walk_at "es"
 refine sp_length_of (r:=r3) (k:=k) g' rm' I₁ ok1 n1.tok n2 (n1.types ▸ h3) hr3 hv (by omega) fun h₂ t₂ l₂ I₂ F₂=>?_
 have ok2:=n2.ok ok1
 walk_at "es"
 refine l_new (0,t₂,0) (I₂.free _ _ (Nat.le_refl _)) ?_ (by simp)
 walk_at "es"
 have I₃:Is (h₂.set (0,t₂,0) (.list [.int v])) ps2 (t₂ + 1):=I₂.tmp
 have eL:(h₂.set (0,t₂,0) (.list [.int v])) (0,t₂,0) = some (.list [.int v]):=H.set_self _ _ _
 refine mS_while (fun k τ=>τ.vars "rd" = some (.ref RD) ∧ τ.vars "label" = some (.str lb) ∧ τ.vars "lengths" = some (.ref (0,t₂,0)) ∧ τ.hp = h₂.set (0,t₂,0) (.list [.int v])) 0 ⟨rfl,rfl,rfl,rfl⟩ ?_
 intro J';rintro _ ⟨vs,_⟩ ⟨hrd,hlab,hlen,rfl⟩
 refine mT_plain (q_meth 1403 1372 g' (me_Reader_skip _) (mE_local g'.ok hrd ⟨RD,_,rfl,I₃.at (n:=RD) rfl,rfl,?_⟩))
 walk_at "es"
 refine sp_rskip (k:=k) (k2 := "") (v2:=.none) (ps':=ps2) g' (rm'.less (by omega)) I₃ ok2 n2.tok (fun q=>absurd q (by decide)) (fun _=>t_bool (show mB _ _ _ _ from ?_)) (fun q=>absurd q (by decide))
 walk_at "es"
 refine q_meth 1403 1379 g' (me_Reader_expect _) (mE_local g'.ok hrd ⟨RD,_,rfl,I₃.at (n:=RD) rfl,rfl,?_⟩)
 walk_at "es"
 refine sp_expect (k:=k) g' (rm'.less (by omega)) I₃ ok2 n2.tok n3 fun h₄ I₄ F₄=>?_
 have ok3:=n3.ok ok2
 have eL4:h₄ (0,t₂,0) = some (.list [.int v]):=(F₄ t₂ 0 (by omega)).trans eL
 walk_at "es"
 refine q_call g' nk_type_of ?_
 walk_at "es"
 refine q_bi g' nb_len bb_len ?_
 walk_at "es"
 refine MW1.toS (f_lenL eL4 ?_ (by simp))
 refine b_mulS (n:=1) (cl0) ?_
 refine b_cat ?_ (by show lb.length + 2 ≤ _;exact cb1 hll)
 walk_at "es"
 refine sp_type_of_name (k:=k) (kk:=kk) (r:=r) (tr:=tr) (i:=i) (x:=x) g' (rm'.less (by omega)) I₄ ok3 n3.tok n4 (by rw [n3.find,n2.find,n1.find];exact hf) (by rw [n3.objs,n2.objs,n1.objs];exact ho) hk hty (by rw [n3.types,n2.types,n1.types];exact htr) hn fun h₅ I₅ F₅=>?_
 have htr4:ps4.types[i]? = some tr:=by rw [n4.types,n3.types,n2.types,n1.types];exact htr
 have eL5:h₅ (0,t₂,0) = some (.list [.int v]):=(F₅ t₂ 0 (by exact cl0)).trans eL4
 have F05:Fw t σ.hp h₅:=((((F₁.trans F₂ (by omega)).trans (t':=t₂) Fw.tmp (by omega)).trans F₄ (by omega)).trans F₅ (by exact cb1 l₂))
 obtain ⟨T,hT⟩ : ∃ T,T = t₂ + 1 + 1 + 2:=⟨_,rfl⟩
 rw [← hT] at I₅
 walk_at "es"
 have I₆:Is ((h₅.set (0,T,0) (.rawX "range" [.v (.int 0),.v (.int (-1)),.v (.int (-1))])).set (0,T,1) (.rawX "range_iterator" [.ri 0,.ri 1,.ri (-1)])) ps4 (T + 1):=I₅.tmp.old (by omega)
 have F₆:Fw T h₅ ((h₅.set (0,T,0) (.rawX "range" [.v (.int 0),.v (.int (-1)),.v (.int (-1))])).set (0,T,1) (.rawX "range_iterator" [.ri 0,.ri 1,.ri (-1)])):=Fw.tmp.set (by exact cl0)
 refine mS_for (0,T,1) (fun k τ=>(k = 1 ∧ τ.vars "rd" = some (.ref RD) ∧ τ.vars "label" = some (.str lb) ∧ τ.vars "lengths" = some (.ref (0,t₂,0)) ∧ τ.vars "element" = some (.ref (tyN i)) ∧ τ.hp = (h₅.set (0,T,0) (.rawX "range" [.v (.int 0),.v (.int (-1)),.v (.int (-1))])).set (0,T,1) (.rawX "range_iterator" [.ri 0,.ri 1,.ri (-1)])) ∨
  (k = 0 ∧ ∃ ks',Is τ.hp (ps4.newT ⟨"array",v * tr.size,.ref (tyN i),v,[],0,lb⟩ ks') (T + 1) ∧ (ps4.newT ⟨"array",v * tr.size,.ref (tyN i),v,[],0,lb⟩ ks').Kn ∧ Fw T h₅ τ.hp ∧ τ.hp (0,T,1) = some (.rawX "range_iterator" [.ri (-1),.ri 0,.ri (-1)]) ∧ τ.vars "element" = some (.ref (tyN ps4.types.length)))) ?_ ?_ ?_
 ·refine q_ty g' nb_range bb_range ?_
  refine mL_cons (mE_bin (q_bi g' nb_len bb_len ?_))
  walk_at "es"
  refine MW1.toS (f_lenL eL5 ?_ (by simp))
  walk_at "es"
  refine b_sub ?_
  walk_at "es"
  refine u_neg ?_
  walk_at "es"
  refine u_neg ?_
  walk_at "es"
  refine MW3.toS (rg_new3 (0,T,0) (by decide) (by decide) (I₅.free _ _ (Nat.le_refl _)) ?_)
  refine it_range (a:=0) (b:=-1) (d:=-1) (0,T,1) (H.set_self _ _ _) (by decide) ?_ ⟨rfl,1,.inl ⟨rfl,hrd,hlab,hlen,rfl,rfl⟩⟩
  exact H.skip (h:=h₅) (by walk_at "ne") (I₅.free _ _ (Nat.le_refl _))
 ·rintro k' ⟨vs',hp⟩ (⟨_,_,_,_,_,rfl⟩ | ⟨_,ks',_,_,_,e,_⟩)
  ·show (H.set _ _ _) (0,T,1) ≠ none
   rw [H.set_self];simp
  ·show hp (0,T,1) ≠ none
   rw [show hp (0,T,1) = _ from e];simp
 ·intro J';rintro k' ⟨vs',hp⟩ (⟨rfl,hrd',hlab',hlen',hel,rfl⟩ | ⟨rfl,ks',I',kn',F',e,hel⟩)
  ·refine nx_range (H.set_self _ _ _) (by decide) ?_
   refine as_name g'.ok ?_
   have I₇:Is (((h₅.set (0,T,0) (.rawX "range" [.v (.int 0),.v (.int (-1)),.v (.int (-1))])).set (0,T,1) (.rawX "range_iterator" [.ri 0,.ri 1,.ri (-1)])).set (0,T,1) (.rawX "range_iterator" [.ri (0 + -1),.ri (1 - 1),.ri (-1)])) ps4 (T + 1):=I₆.old (by omega)
   have F₇:=F₆.set (i:=1) (u:=T) (o:=.rawX "range_iterator" [.ri (0 + -1),.ri (1 - 1),.ri (-1)]) (cl0)
   obtain ⟨h₇,hh⟩ : ∃ h₇,h₇ = (((h₅.set (0,T,0) (.rawX "range" [.v (.int 0),.v (.int (-1)),.v (.int (-1))])).set (0,T,1) (.rawX "range_iterator" [.ri 0,.ri 1,.ri (-1)])).set (0,T,1) (.rawX "range_iterator" [.ri (0 + -1),.ri (1 - 1),.ri (-1)])):=⟨_,rfl⟩
   have e7:h₇ (0,T,1) = some (.rawX "range_iterator" [.ri (-1),.ri 0,.ri (-1)]):=by rw [hh];exact H.set_self _ _ _
   simp only [St.put]
   rw [← hh] at I₇ F₇ ⊢
   have eL7:h₇ (0,t₂,0) = some (.list [.int v]):=(F₇ t₂ 0 (by exact cb1 (eR hT))).trans eL5
   have eY7:h₇ (tyN i) = some (tyO i tr):=I₇.ty htr4
   clear hh
   walk_at "es"
   refine s_list eL7 (by decide) (v:=.int v) rfl ?_ (by simp)
   walk_at "es"
   refine mS_if ?_
   walk_at "es"
   refine q_get g' eY7 (by simp) rfl ?_
   refine b_mul ?_ (by omega) (by omega)
   refine q_gint g' ns_MOST_BYTES ?_
   refine c_gt (t_bool ?_)
   have hm:v * tr.size ≤ 1000 * 16:=Int.mul_le_mul hv' hsz hs0 (by omega)
   rw [decide_eq_false (by omega)]
   show mB _ _ _ _
   walk_at "es"
   refine q_meth 864 854 g' (me_Types_new _) (mE_attr (mE_local g'.ok hrd' (q_get g' (I₇.at (n:=RD) rfl) (by simp) rfl ⟨TY,_,rfl,I₇.at (n:=TY) rfl,rfl,?_⟩)))
   walk_at "es"
   refine q_get g' eY7 (by simp) rfl ?_
   refine b_mul ?_ (by omega) (by omega)
   walk_at "es"
   refine q_get g' (I₇.at (n:=RD) rfl) (by simp) rfl ?_
   walk_at "es"
   refine b_mulS (n:=0) (by omega) ?_
   refine b_cat ?_ (by show lb.length + 0 ≤ _;exact cb1 hll)
   rw [show lb ++ Txt.mul "[]" ((0:Nat):Int) = lb from by
    show Str.append lb Str.empty = lb
    unfold Str.append
    show (⟨lb.cps ++ #[]⟩ : Str) = lb
    rw [Array.append_empty]]
   walk_at "es"
   refine sp_newT (k:=k) g' (rm'.less (by omega)) I₇ kn hkl hlb fun h₈ ks' I₈ kn₈ F₈=>?_
   walk_at "es"
   refine q_tyS ⟨"array",v * tr.size,.ref (tyN i),0,[],0,lb⟩ g' I₈ (newT_last _ _ _) (by simp) rfl rfl fun h₉ I₉ F₉=>?_
   rw [show (ps4.newT ⟨"array",v * tr.size,.none,0,[],0,lb⟩ ks').setT ps4.types.length ⟨"array",v * tr.size,.ref (tyN i),0,[],0,lb⟩ = ps4.newT ⟨"array",v * tr.size,.ref (tyN i),0,[],0,lb⟩ ks' from setT_newT _ _ _ _ rfl] at I₉
   walk_at "es"
   refine q_tyS ⟨"array",v * tr.size,.ref (tyN i),v,[],0,lb⟩ g' I₉ (newT_last _ _ _) (by simp) rfl rfl fun h₁₀ I₁₀ F₁₀=>?_
   rw [show (ps4.newT ⟨"array",v * tr.size,.ref (tyN i),0,[],0,lb⟩ ks').setT ps4.types.length ⟨"array",v * tr.size,.ref (tyN i),v,[],0,lb⟩ = ps4.newT ⟨"array",v * tr.size,.ref (tyN i),v,[],0,lb⟩ ks' from setT_newT _ _ _ _ rfl] at I₁₀
   walk_at "es"
   have F810:Fw (T + 1) h₇ h₁₀:=(F₈.trans F₉ (Nat.le_refl _)).trans F₁₀ (Nat.le_refl _)
   exact ⟨0,by exact cl0,.inr ⟨rfl,ks',I₁₀,⟨kn₈.kn,kn₈.le⟩,F₇.trans F810 (by omega),(F810 T 1 (by omega)).trans e7,rfl⟩⟩
  ·refine nx_rangeE g'.ok e (by decide) ?_
   walk_at "es"
   refine h _ (T + 1) ks' (by exact cb2 l₂ (eR hT)) (I'.old (by omega)) kn' ?_
   exact (F05.trans F' (by exact cb2 l₂ (eR hT))).set (by exact cb2 l₂ (eR hT))
end
theorem nk_alignment (P:Params):nkB (KK P) "alignment" 741 = true:=by kernel_rfl
theorem nk_align (P:Params):nkB (KK P) "align" 748 = true:=by kernel_rfl
theorem nk_whole_words (P:Params):nkB (KK P) "whole_words" 755 = true:=by kernel_rfl
noncomputable def al1 (f:Str):Int:=if ([("boolean" : Str), "char", "byte"].any fun y=>y == f) then 1 else 4
theorem al1_pos (f:Str):al1 f = 1 ∨ al1 f = 4:=by unfold al1;split <;> simp
section
variable {c:Cx} {σ:St}
noncomputable def Un (ps:PS) (i j:Nat) (tr tr2:TyR):Prop:=ps.types[i]? = some tr ∧ ps.types[j]? = some tr2 ∧ (tr2.form == "array") = false ∧ ((i = j ∧ tr = tr2) ∨ (tr.form = "array" ∧ tr.base = .ref (tyN j)))
theorem sp_alignment {ps:PS} {t i j:Nat} {tr tr2:TyR} {Q:V → St → Prop} {k:Nat} (g:Good c) (rm:Rm c (k + 1)) (I:Is σ.hp ps t) (u:Un ps i j tr tr2)
  (h:∀ h',Is h' ps (t + 1) → Fw t σ.hp h' → Q (.int (al1 tr2.form)) ⟨σ.vars,h'⟩):mCall c 741 [.ref (tyN i)] Q σ:=by
 obtain ⟨h1,h2,hna,hc⟩:=u
 refine q_fun ["t"] [_] g rm (fun _=>dk1 rfl rfl) (hb1 fun _=>rfl) rfl fun B L=>?_
 intro c' QQ g' rm'
 refine mB_cons ?_
 refine mS_while (fun k τ=>τ.hp = σ.hp ∧ ((k = 1 ∧ τ.vars "t" = some (.ref (tyN i)) ∧ tr.form = "array" ∧ tr.base = .ref (tyN j)) ∨ (k = 0 ∧ τ.vars "t" = some (.ref (tyN j))))) (if tr.form = "array" then 1 else 0) ?_ ?_
 ·refine ⟨rfl,?_⟩
  rcases hc with ⟨rfl,rfl⟩ | ⟨ha,hb⟩
  ·rw [if_neg (by intro q;rw [q] at hna;exact absurd hna (by decide))]
   exact .inr ⟨rfl,rfl⟩
  ·rw [if_pos ha];exact .inl ⟨rfl,rfl,ha,hb⟩
 ·intro J';rintro k' ⟨vs,_⟩ ⟨rfl,⟨rfl,ht,ha,hb⟩ | ⟨rfl,ht⟩⟩
  ·walk_at "es"
   refine q_get g' (I.ty h1) (by simp) rfl ?_
   walk_at "es"
   refine c_eqS (t_bool ?_)
   rw [ha]
   show mB _ _ _ _
   walk_at "es"
   refine q_get g' (I.ty h1) (by simp) rfl ?_ (by rw [hb];rfl)
   rw [hb]
   walk_at "es"
   exact ⟨0,by exact cl0,rfl,.inr ⟨rfl,rfl⟩⟩
  ·walk_at "es"
   refine q_get g' (I.ty h2) (by simp) rfl ?_
   walk_at "es"
   refine c_eqS (t_bool ?_)
   rw [hna]
   show mB _ _ _ _
   walk_at "es"
   refine mE_ifexp ?_
   walk_at "es"
   refine q_get g' (I.ty h2) (by simp) rfl ?_
   walk_at "es"
   refine t_new (0,t,0) (I.free _ _ (Nat.le_refl _)) ?_
   refine c_inT (ys:=["boolean", "char", "byte"]) (H.set_self _ _ _) (t_bool ?_)
   have key:=h (σ.hp.set (0,t,0) (.tup [.str "boolean",.str "char",.str "byte"])) I.tmp Fw.tmp
   unfold al1 at key
   cases q:([("boolean" : Str), "char", "byte"].any fun y=>y == tr2.form) with
   | true=>rw [q] at key;exact mE_int key
   | false=>rw [q] at key;exact mE_int key
noncomputable def rup (off al:Int):Int:=(off + al - 1).fdiv al * al
theorem sp_align {ps:PS} {t i j:Nat} {tr tr2:TyR} {off:Int} {Q:V → St → Prop} {k:Nat} (g:Good c) (rm:Rm c (k + 2)) (I:Is σ.hp ps t) (u:Un ps i j tr tr2) (ho:0 ≤ off) (ho' : off ≤ 1000000)
  (h:∀ h',Is h' ps (t + 1) → Fw t σ.hp h' → Q (.int (rup off (al1 tr2.form))) ⟨σ.vars,h'⟩):mCall c 748 [.int off,.ref (tyN i)] Q σ:=by
 refine q_fun ["offset", "t"] [_,_] g rm (fun _=>dk1 rfl rfl) (hb2 fun _ _=>rfl) rfl fun B L=>?_
 intro c' QQ g' rm'
 walk_at "es"
 refine q_call g' nk_alignment ?_
 walk_at "es"
 refine sp_alignment (k:=k) g' rm' I u fun h₁ I₁ F₁=>?_
 have ha:=al1_pos tr2.form
 walk_at "es"
 refine b_add ?_
 walk_at "es"
 refine b_sub ?_
 walk_at "es"
 refine b_div ?_ (by rcases ha with q | q <;> rw [q] <;> decide) (by rcases ha with q | q <;> rw [q] <;> decide)
 have hb : -18446744073709551616 < (off + al1 tr2.form - 1).fdiv (al1 tr2.form) ∧ (off + al1 tr2.form - 1).fdiv (al1 tr2.form) < 18446744073709551616:=by
  rcases ha with q | q <;> rw [q]
  ·rw [Int.fdiv_one];omega
  ·rw [Int.fdiv_eq_ediv_of_nonneg _ (by decide)];omega
 walk_at "es"
 exact b_mul (h h₁ I₁ F₁) hb.1 hb.2
theorem sp_whole_words {s:Int} {Q:V → St → Prop} {k:Nat} (g:Good c) (rm:Rm c (k + 1)) (ho:0 ≤ s) (ho' : s ≤ 1000000) (h:Q (.int ((s + 3).fdiv 4 * 4)) σ):mCall c 755 [.int s] Q σ:=by
 refine q_fun ["size"] [_] g rm (fun _=>dk1 rfl rfl) (hb1 fun _=>rfl) rfl fun B L=>?_
 intro c' QQ g' rm'
 walk_at "es"
 refine b_add ?_
 walk_at "es"
 refine b_div ?_ (by decide) (by decide)
 have hb : -18446744073709551616 < (s + 3).fdiv 4 ∧ (s + 3).fdiv 4 < 18446744073709551616:=by
  rw [Int.fdiv_eq_ediv_of_nonneg _ (by decide)];omega
 walk_at "es"
 exact b_mul h hb.1 hb.2
theorem sp_type_of_array {ps ps1 ps2 ps3 ps4:PS} {t kk i:Nat} {x k4 lb:Str} {v:Int} {va v2 v4:V} {r:ObR} {tr r3:TyR} {Q:V → St → Prop} {k:Nat} (g:Good c) (rm:Rm c (k + 14)) (I:Is σ.hp ps t) (ok:ps.Ok) (kn:ps4.Kn) (hkl:ps4.keys.length ≤ 1000)
  (ht:ps.tok "ARRAY" va) (n1:ps.Next "int" (.int v) ps1) (n2:ps1.Next "OF" v2 ps2) (n3:ps2.Next "ident" (.str x) ps3) (n4:ps3.Next k4 v4 ps4) (h3:ps.types[3]? = some r3) (hr3:r3.form = "integer") (hv:1 ≤ v) (hv' : v ≤ 1000)
  (hf:ps.find x = some kk) (ho:ps.objs[kk]? = some r) (hk:r.kind = "type") (hty:r.type = .ref (tyN i)) (htr:ps.types[i]? = some tr) (hn:(tr.form == "none") = false) (hlb:(lb != "") = true) (hll:lb.length ≤ 1000) (hs0:0 ≤ tr.size) (hsz:tr.size ≤ 16)
  (h:∀ h' t' ks',t ≤ t' → Is h' (ps4.newT ⟨"array",v * tr.size,.ref (tyN i),v,[],0,lb⟩ ks') t' → (ps4.newT ⟨"array",v * tr.size,.ref (tyN i),v,[],0,lb⟩ ks').Kn → Fw t σ.hp h' → Q (.ref (tyN ps4.types.length)) ⟨σ.vars,h'⟩):mCall c 903 [.ref RD,.str lb] Q σ:=by
 refine q_fun ["rd", "label"] [_,_] g rm (fun _=>dk1 rfl rfl) (hb2 fun _ _=>rfl) rfl fun B L=>?_
 intro c' QQ g' rm'
 walk_at "es"
 refine mS_if (mT_plain (q_meth 1403 1365 g' (me_Reader_at _) (mE_local g'.ok rfl ⟨RD,_,rfl,I.at rfl,rfl,?_⟩)))
 walk_at "es"
 refine sp_at (k:=k) g' (rm'.less (by omega)) I ht (t_bool (show mB _ _ _ _ from ?_))
 walk_at "es"
 refine q_call g' nk_array_type ?_
 walk_at "es"
 exact sp_array_type (k:=k) g' rm' I ok kn hkl ht n1 n2 n3 n4 h3 hr3 hv hv' hf ho hk hty htr hn hlb hll hs0 hsz h
end
theorem nk_has_field (P:Params):nkB (KK P) "has_field" 931 = true:=by kernel_rfl
theorem nk_marked_names (P:Params):nkB (KK P) "marked_names" 882 = true:=by kernel_rfl
theorem nk_export_mark (P:Params):nkB (KK P) "export_mark" 875 = true:=by kernel_rfl
inductive NoF (ps:PS) (x:Str):V → Nat → Prop
 | none:NoF ps x .none 0
 | ty {i n:Nat} {tr:TyR}:ps.types[i]? = some tr → tr.fields.length ≤ 1000 → (∀ v ∈ tr.fields,∃ k ob,v = V.ref (obN k) ∧ ps.objs[k]? = some ob ∧ (ob.name == x) = false) → NoF ps x tr.base n → NoF ps x (.ref (tyN i)) (n + 1)
theorem NoF.okV {ps:PS} {x:Str} {v:V} {n:Nat} (h:NoF ps x v n):v.okV = true:=by cases h <;> rfl
theorem Is.fld {h:H} {ps:PS} {t i:Nat} {r:TyR} (I:Is h ps t) (e:ps.types[i]? = some r):h (2,i,1) = some (.list r.fields):=I.at (by show Option.map _ _ = _;rw [e];rfl)
section
variable {c:Cx} {σ:St}
theorem sp_has_field {ps:PS} {t n:Nat} {x:Str} {v:V} {Q:V → St → Prop} {k:Nat} (g:Good c) (rm:Rm c (k + 1)) (I:Is σ.hp ps t) (u:NoF ps x v n)
  (h:∀ h' t',t ≤ t' → Is h' ps t' → Fw t σ.hp h' → Q (.bool false) ⟨σ.vars,h'⟩):mCall c 931 [v,.str x] Q σ:=by
 refine q_fun ["record", "name"] [_,_] g rm (fun _=>dk1 rfl rfl) (hb2 fun _ _=>rfl) rfl fun B L=>?_
 intro c' QQ g' rm'
 refine mB_cons ?_
 refine mS_while (fun k τ=>∃ t' w,t ≤ t' ∧ Is τ.hp ps t' ∧ Fw t σ.hp τ.hp ∧ τ.vars "record" = some w ∧ τ.vars "name" = some (.str x) ∧ NoF ps x w k) n ⟨t,v,Nat.le_refl _,I,Fw.refl _ _,rfl,rfl,u⟩ ?_
 intro J';rintro k' ⟨vs,h₁⟩ ⟨t',w,l₁,I₁,F₁,hrec,hnm,u'⟩
 cases u' with
 | none=>
  refine mT_cmp (mE_local g'.ok hrec ?_)
  walk_at "es"
  refine c_isntN (t_bool (show mB _ _ _ _ from ?_))
  walk_at "es"
  exact h h₁ t' l₁ I₁ F₁
 | @ty i n tr htr hl hfs hb=>
  refine mT_cmp (mE_local g'.ok hrec ?_)
  walk_at "es"
  refine c_isntR (t_bool (show mB _ _ _ _ from ?_))
  refine mB_cons ?_
  refine mS_for (0,t',0) (fun k τ=>∃ a,a + k = tr.fields.length ∧ τ.vars "record" = some (.ref (tyN i)) ∧ τ.vars "name" = some (.str x) ∧ τ.hp = h₁.set (0,t',0) (.raw "list_iterator" [.v (.ref (2,i,1)),.ri (a:Nat)])) ?_ ?_ ?_
  ·refine mE_attr (mE_local g'.ok hrec ?_)
   refine q_get g' (I₁.ty htr) (by simp) rfl ?_
   exact it_list (0,t',0) (I₁.fld htr) (I₁.free _ _ (Nat.le_refl _)) ⟨rfl,tr.fields.length,0,by omega,hrec,hnm,rfl⟩
  ·rintro k₂ ⟨vs₂,hp⟩ ⟨a,_,_,_,rfl⟩
   show (H.set _ _ _) (0,t',0) ≠ none
   rw [H.set_self];simp
  ·intro J';rintro k₂ ⟨vs₂,hp⟩ ⟨a,ha,hrec₂,hnm₂,rfl⟩
   have I₂:∀ o,Is (h₁.set (0,t',0) o) ps (t' + 1):=fun o=>I₁.tmp
   rcases Nat.eq_zero_or_pos k₂ with rfl | pos
   ·refine nx_listE g'.ok (xs:=tr.fields) (l:=(2,i,1)) (i:=a) (H.set_self _ _ _) ((I₂ (.raw "list_iterator" [.v (.ref (2,i,1)),.ri (a:Nat)])).fld htr) (cb1 (eR ha)) ?_
    simp only [St.put,H.set_set]
    walk_at "es"
    refine q_get g' ((I₂ .dead).ty htr) (by simp) rfl ?_ hb.okV
    walk_at "es"
    exact ⟨n,by omega,t' + 1,tr.base,by omega,I₂ .dead,F₁.set (by omega),rfl,hnm₂,hb⟩
   ·have lt:a < tr.fields.length:=by exact cb2 (eL ha) pos
    obtain ⟨kk,ob,ev,hob,hne⟩:=hfs _ (List.getElem_mem lt)
    refine nx_list (v:=tr.fields[a]) (xs:=tr.fields) (l:=(2,i,1)) (i:=a) (H.set_self _ _ _) ((I₂ (.raw "list_iterator" [.v (.ref (2,i,1)),.ri (a:Nat)])).fld htr) (List.getElem?_eq_getElem lt) ?_
    refine as_name g'.ok ?_
    simp only [St.put,H.set_set]
    rw [ev]
    have eO:=(I₂ (.raw "list_iterator" [.v (.ref (2,i,1)),.ri (a + 1:Nat)])).ob hob
    walk_at "es"
    refine mS_if ?_
    walk_at "es"
    refine q_get g' eO (by simp) rfl ?_
    walk_at "es"
    refine c_eqS (t_bool ?_)
    rw [hne]
    show mB _ _ _ _
    walk_at "es"
    exact ⟨k₂ - 1,by omega,a + 1,by omega,hrec₂,hnm₂,rfl⟩
theorem sp_marked_names {ps ps1:PS} {t:Nat} {x:Str} {v1:V} {Q:V → St → Prop} {k:Nat} (g:Good c) (rm:Rm c (k + 8)) (I:Is σ.hp ps t) (ok:ps.Ok) (ht:ps.tok "ident" (.str x)) (nx:ps.Next ":" v1 ps1)
  (h:∀ h' t' a b,t ≤ t' → Is h' ps1 t' → Fw t σ.hp h' → t ≤ a → a < t' → t ≤ b → b < t' → h' (0,a,0) = some (.list [.ref (0,b,0)]) → h' (0,b,0) = some (.tup [.ref (tkN ps.cur),.bool false]) → Q (.ref (0,a,0)) ⟨σ.vars,h'⟩):mCall c 882 [.ref RD] Q σ:=by
 refine q_fun ["rd"] [_] g rm (fun _=>dk1 rfl rfl) (hb1 fun _=>rfl) rfl fun B L=>?_
 intro c' QQ g' rm'
 walk_at "es"
 refine l_new (0,t,0) (I.free _ _ (Nat.le_refl _)) ?_
 walk_at "es"
 have I₀:Is (σ.hp.set (0,t,0) (.list [])) ps (t + 1):=I.tmp
 refine mS_while (fun k τ=>(k = 1 ∧ τ.vars "rd" = some (.ref RD) ∧ τ.vars "found" = some (.ref (0,t,0)) ∧ τ.vars "going" = some (.bool true) ∧ τ.hp = σ.hp.set (0,t,0) (.list [])) ∨
  (k = 0 ∧ τ.vars "found" = some (.ref (0,t,0)) ∧ τ.vars "going" = some (.bool false) ∧ Is τ.hp ps1 (t + 3) ∧ Fw t σ.hp τ.hp ∧ τ.hp (0,t,0) = some (.list [.ref (0,t + 2,0)]) ∧ τ.hp (0,t + 2,0) = some (.tup [.ref (tkN ps.cur),.bool false]))) 1 (.inl ⟨rfl,rfl,rfl,rfl,rfl⟩) ?_
 intro J';rintro k' ⟨vs,h₁⟩ (⟨rfl,hrd,hfo,hgo,rfl⟩ | ⟨rfl,hfo,hgo,I₁,F₁,e1,e2⟩)
 ·refine mT_plain (mE_local g'.ok hgo (t_bool (show mB _ _ _ _ from ?_)))
  walk_at "es"
  refine q_meth0 1403 1393 g' (me_Reader_name _) (mE_local g'.ok hrd ⟨RD,_,rfl,I₀.at (n:=RD) rfl,rfl,?_⟩)
  refine sp_name (k:=k) g' rm' I₀ ok ht nx fun h₂ I₂ F₂=>?_
  have eF:h₂ (0,t,0) = some (.list []):=(F₂ t 0 (by omega)).trans (H.set_self σ.hp _ _)
  walk_at "es"
  refine mS_if ?_
  walk_at "es"
  refine c_isR (t_bool (show mB _ _ _ _ from ?_))
  walk_at "es"
  refine mE_bm (mE_local g'.ok hfo ⟨_,meth_append eF,?_⟩)
  walk_at "es"
  refine q_call g' nk_export_mark ?_
  walk_at "es"
  refine sp_export_mark (k:=k) g' (rm'.less (by omega)) I₂ nx.tok (by decide) ?_
  walk_at "es"
  refine t_new (0,t + 2,0) (I₂.free _ _ (by exact cl0)) ?_ (by simp)
  walk_at "es"
  have eF3:(h₂.set (0,t + 2,0) (.tup [.ref (tkN ps.cur),.bool false])) (0,t,0) = some (.list []):=H.skip (h:=h₂) (by walk_at "ne") eF
  refine MW2.toS (l_append eF3 ?_ (by simp))
  have I₃:Is ((h₂.set (0,t + 2,0) (.tup [.ref (tkN ps.cur),.bool false])).set (0,t,0) (.list ([] ++ [.ref (0,t + 2,0)]))) ps1 (t + 3):=(I₂.tmp (i:=0)).old (by exact cl0)
  simp only [St.put]
  walk_at "es"
  refine q_meth 1403 1372 g' (me_Reader_skip _) (mE_local g'.ok hrd ⟨RD,_,rfl,I₃.at (n:=RD) rfl,rfl,?_⟩)
  walk_at "es"
  refine sp_rskip (k:=k) (k2 := "") (v2:=.none) (ps':=ps1) g' (rm'.less (by omega)) I₃ (nx.ok ok) nx.tok (fun q=>absurd q (by decide)) (fun _=>?_) (fun q=>absurd q (by decide))
  walk_at "es"
  refine ⟨0,by exact cl0,.inr ⟨rfl,hfo,rfl,I₃,?_,H.set_self _ _ _,?_⟩⟩
  ·exact ((Fw.tmp.trans F₂ (by omega)).set (by omega)).set (by exact cl0)
  ·exact H.skip (h:=h₂.set _ _) (by walk_at "ne") (H.set_self _ _ _)
 ·refine mT_plain (mE_local g'.ok hgo (t_bool (show mB _ _ _ _ from ?_)))
  walk_at "es"
  exact h h₁ (t + 3) t (t + 2) (by omega) I₁ F₁ (by exact cl0) (by omega) (by omega) (by omega) e1 e2
end
theorem nk_field_list (P:Params):nkB (KK P) "field_list" 938 = true:=by kernel_rfl
noncomputable def PS.newO (ps:PS) (ob:ObR):PS:={ ps with objs:=ps.objs ++ [ob] }
theorem spec_newO (ps:PS) (ob:ObR):spec (ps.newO ob) = (spec ps).set (3,ps.objs.length,0) (obO ob):=by
 rw [show spec ps = hpA (arms ps) (dfl ps.L) from rfl,hp_set (a:=3) (f:=c3 ps.objs) rfl,show ups (c3 ps.objs) _ _ _ = c3 (ps.objs ++ [ob]) from col1_up (snoc_get _ _) rfl]
 rfl
theorem newO_last (ps:PS) (ob:ObR):(ps.newO ob).objs[ps.objs.length]? = some ob:=by
 show (ps.objs ++ [ob])[_]? = _;rw [List.getElem?_concat_length]
theorem setO_newO (ps:PS) (r r' : ObR):(ps.newO r).setO ps.objs.length r' = ps.newO r':=by
 unfold PS.setO PS.newO
 simp only [PS.mk.injEq,and_true,true_and]
 rw [List.set_append_right _ _ (Nat.le_refl _)];simp
noncomputable def TypeOf (k:Nat) (ps:PS) (lb:Str) (PT:PS → Nat → Prop):Prop:=
 ∀ (c:Cx) (σ:St) (t:Nat) (Q:V → St → Prop),Good c → Rm c (k + 14) → Is σ.hp ps t → (∀ h' t' psT ti,t ≤ t' → PT psT ti → Is h' psT t' → Fw t σ.hp h' → Q (.ref (tyN ti)) ⟨σ.vars,h'⟩) → mCall c 903 [.ref RD,.str lb] Q σ
section
variable {c:Cx} {σ:St}
theorem mS_forT {elts:List Expr} {tk:Nat} {tp:Pos} {iter:Expr} {body:List Stmt} {pos:Pos} {Q:Fl → St → Prop} (n:Nm) (I:Nat → St → Prop)
  (h0:mE c iter (fun v σ₁=>MW1 c RVal v pyIter (fun u σ₂=>u = .ref n ∧ ∃ k,I k σ₂) σ₁) σ) (hI:∀ k σ,I k σ → σ.hp n ≠ none)
  (h:let J:=I;∀ k σ,I k σ → mNext c n (fun r σ₁=>match r with | none=>Q .next σ₁ | some v=>(∃ b l j,v = .ref b ∧ σ₁.hp n = some (.raw "list_iterator" [.v (.ref l),.ri (j:Nat)])) ∧ mAs c (.Tuple elts tk tp) v (fun σ₂=>mB c body (Turn J k Q) σ₂) σ₁) σ)
  (hs:autoParam (∀ x,foldedSetIterable iter c.env x = pure x) aI):mS c (.For (.Tuple elts tk tp) iter body [] pos) Q σ:=fun ρ δ news m s R=>by
 refine wpAny_For (nest h0 R fun x s₁ b σ₁ ρ₁ δ₁ news₁ m₁ X R₁ V q=>nestP (q ρ₁ δ₁ news₁ m₁ s₁ x R₁ V) fun it s₂ b₂ σ₂ ρ₂ δ₂ news₂ m₂ X₂ R₂ V₂ q₂=>?_) hs
 obtain ⟨rfl,k,i⟩:=q₂
 rw [V₂.1]
 refine codeAny_forLoop_any (fun k s'=>Reach c σ₂.hp ρ₂ δ₂ (I k) s') (fun k s' pp=>pp.el fun σ' ρ' δ' news' m' X' R' i=>?_) k ⟨σ₂,ρ₂,δ₂,news₂,m₂,Ext.refl _ _ _,R₂,i⟩
 have hp:ρ₂ n = ρ' n:=((X' n V₂.2).2.1).symm
 refine wpAny_mono (h k σ' i ρ' δ' news' m' s' (.ref (ρ₂ n)) R' ⟨by rw [hp],hI _ _ i⟩) (fun r s₃ pp=>pp.el fun b' σ₃ ρ₃ δ₃ news₃ m₃ X₃ R₃ e q=>?_) fun _ _ x=>x.elim
 have X03:=(X.trans X₂).trans (X'.trans X₃)
 cases r with
 | none=>
  cases b' with
  | some v=>exact e.elim
  | none=>exact wpAny_execs_nil ⟨.next,σ₃,ρ₃,δ₃,news₃,m₃,X03,R₃,trivial,q⟩
 | some y=>
  cases b' with
  | none=>exact e.elim
  | some v=>
   obtain ⟨⟨bb,l,j,rfl,hraw⟩,q⟩:=q
   obtain ⟨o,yy,hm,hg,hc,hd,U⟩:=raw2_at R₃ hraw
   have U1:=U.1
   have en:ρ₂ n = ρ₃ n:=((X'.trans X₃) n V₂.2).2.1.symm
   have ey:y = .ref (ρ₃ bb):=e.1
   rw [ey,en]
   refine wpAny_letOwnedTupleGo_listiter (l:=ρ₃ l) (i:=j) ⟨o,hg,hc,by rw [hd,U1]⟩ ?_
   rw [← ey]
   refine wpAny_mono (q ρ₃ δ₃ news₃ m₃ s₃ y R₃ e) (fun _ s₄ pp=>pp.el fun _ σ₄ ρ₄ δ₄ news₄ m₄ X₄ R₄ _ q=>?_) fun _ _ x=>x.elim
   refine wpAny_mono (q ρ₄ δ₄ news₄ m₄ s₄ R₄) (fun f s₅ pp=>pp.el fun f' σ₅ ρ₅ δ₅ news₅ m₅ X₅ R₅ V q₂=>?_) fun _ _ x=>x.elim
   have X05:=(X03.trans X₄).trans X₅
   have X25:=((X'.trans X₃).trans X₄).trans X₅
   cases f <;> cases f' <;> first | exact V.elim | skip
   ·obtain ⟨k',lt,i'⟩:=q₂;exact ⟨k',lt,σ₅,ρ₅,δ₅,news₅,m₅,X25,R₅,i'⟩
   ·exact ⟨.next,σ₅,ρ₅,δ₅,news₅,m₅,X05,R₅,trivial,q₂⟩
   ·obtain ⟨k',lt,i'⟩:=q₂;exact ⟨k',lt,σ₅,ρ₅,δ₅,news₅,m₅,X25,R₅,i'⟩
   ·exact ⟨.ret _,σ₅,ρ₅,δ₅,news₅,m₅,X05,R₅,V,q₂⟩
theorem sp_field_list {ps ps1 ps2:PS} {t R n:Nat} {x lb:Str} {v1:V} {k2:Str} {v2:V} {r:TyR} {PT:PS → Nat → Prop} {Q:V → St → Prop} {k:Nat} (g:Good c) (rm:Rm c (k + 15)) (I:Is σ.hp ps t) (ok:ps.Ok) (ht:ps.tok "ident" (.str x)) (n1:ps.Next ":" v1 ps1) (n2:ps1.Next k2 v2 ps2)
  (hT:TypeOf k ps2 (lb ++ "." ++ x) PT) (hlb:lb.length + 1 + x.length ≤ 1000)
  (hP:∀ psT ti,PT psT ti → psT.types[R]? = some r ∧ NoF psT x (.ref (tyN R)) n ∧ (∃ p,spec psT (tkN ps.cur) = some (tokO (.str "ident") (.str x) (.int p))) ∧ r.fields.length ≤ 1000)
  (h:∀ h' t' psT ti p,t ≤ t' → PT psT ti → Is h' ((psT.newO ⟨x, "field",.ref (tyN ti),p,false,0,.none,0⟩).setT R { r with fields:=r.fields ++ [.ref (obN psT.objs.length)] }) t' → Fw t σ.hp h' → Q .none ⟨σ.vars,h'⟩):mCall c 938 [.ref RD,.ref (tyN R),.str lb] Q σ:=by
 refine q_fun ["rd", "made", "label"] [_,_,_] g rm (fun _=>dk1 rfl rfl) (hb3 fun _ _ _=>rfl) rfl fun B L=>?_
 intro c' QQ g' rm'
 walk_at "es"
 refine q_call g' nk_marked_names ?_
 walk_at "es"
 refine sp_marked_names (k:=k) g' (rm'.less (by omega)) I ok ht n1 fun h₁ t₁ a b l₁ I₁ F₁ la la' lb₁ lb' ea eb=>?_
 obtain ⟨p,eT⟩:=n1.old ok ht I₁
 have ok1:=n1.ok ok
 walk_at "es"
 refine q_meth 1403 1379 g' (me_Reader_expect _) (mE_local g'.ok rfl ⟨RD,_,rfl,I₁.at rfl,rfl,?_⟩)
 walk_at "es"
 refine sp_expect (k:=k) g' (rm'.less (by omega)) I₁ ok1 n1.tok n2 fun h₂ I₂ F₂=>?_
 have ea2:h₂ (0,a,0) = some (.list [.ref (0,b,0)]):=(F₂ a 0 (by omega)).trans ea
 have eb2:h₂ (0,b,0) = some (.tup [.ref (tkN ps.cur),.bool false]):=(F₂ b 0 (by omega)).trans eb
 obtain ⟨p2,eT2⟩ : ∃ p:Int,h₂ (tkN ps.cur) = some (tokO (.str "ident") (.str x) (.int p)):=by
  obtain ⟨r0,hr0,hk0,hv0⟩:=ht
  obtain ⟨j1,m1,R1,_,_,e1⟩:=n1
  obtain ⟨j2,m2,R2,_,_,e2⟩:=n2
  refine ⟨r0.p,I₂.at ?_⟩
  subst e1 e2
  show Option.map _ (((ps.toks ++ [_]) ++ [_])[ps.cur]?) = _
  rw [List.getElem?_append_left (by rw [List.length_append];have:=ok.cur;exact cb1 this),List.getElem?_append_left ok.cur,hr0,← hk0,← hv0];rfl
 walk_at "es"
 refine mS_if ?_
 refine mT_cmp (q_bi g' nb_len bb_len ?_)
 walk_at "es"
 refine MW1.toS (f_lenL ea2 ?_ (by simp))
 walk_at "es"
 refine c_gt (t_bool (show mB _ _ _ _ from ?_))
 walk_at "es"
 refine s_list ea2 (by decide) (v:=.ref (0,b,0)) rfl ?_ (by simp)
 walk_at "es"
 refine s_tup eb2 (j:=0) (by rfl) rfl ?_
 refine q_get g' eT2 (by simp) rfl ?_
 walk_at "es"
 refine q_call g' nk_type_of ?_
 walk_at "es"
 refine b_cat ?_ (by show lb.length + 1 ≤ _;exact cb1 hlb)
 walk_at "es"
 refine b_cat ?_ (by
  show (lb.cps ++ #[46]).size + x.length ≤ _
  rw [Array.size_append]
  show lb.length + 1 + x.length ≤ _;omega)
 walk_at "es"
 refine hT _ _ _ _ g' rm' I₂ fun h₃ t₃ psT ti l₃ hpt I₃ F₃=>?_
 obtain ⟨q1,q2,⟨p3,q3⟩,q4⟩:=hP psT ti hpt
 have ea3:h₃ (0,a,0) = some (.list [.ref (0,b,0)]):=(F₃ a 0 (by exact cb1 la')).trans ea2
 have eb3:h₃ (0,b,0) = some (.tup [.ref (tkN ps.cur),.bool false]):=(F₃ b 0 (by exact cb1 lb')).trans eb2
 have F03:Fw t σ.hp h₃:=(F₁.trans F₂ (by omega)).trans F₃ (by omega)
 walk_at "es"
 refine mS_forT (0,t₃,0) (fun k τ=>(k = 1 ∧ τ.vars "rd" = some (.ref RD) ∧ τ.vars "made" = some (.ref (tyN R)) ∧ τ.vars "t" = some (.ref (tyN ti)) ∧ τ.hp = h₃.set (0,t₃,0) (.raw "list_iterator" [.v (.ref (0,a,0)),.ri 0])) ∨
  (k = 0 ∧ ∃ t',t₃ + 1 ≤ t' ∧ Is τ.hp ((psT.newO ⟨x, "field",.ref (tyN ti),p3,false,0,.none,0⟩).setT R { r with fields:=r.fields ++ [.ref (obN psT.objs.length)] }) t' ∧ Fw t₃ h₃ τ.hp ∧ τ.hp (0,t₃,0) = some (.raw "list_iterator" [.v (.ref (0,a,0)),.ri 1]))) ?_ ?_ ?_
 ·walk_at "es"
  exact it_list (0,t₃,0) ea3 (I₃.free _ _ (Nat.le_refl _)) ⟨rfl,1,.inl ⟨rfl,rfl,rfl,rfl,rfl⟩⟩
 ·rintro k' ⟨vs',hp⟩ (⟨_,_,_,_,rfl⟩ | ⟨_,t',_,_,_,e⟩)
  ·show (H.set _ _ _) (0,t₃,0) ≠ none
   rw [H.set_self];simp
  ·show hp (0,t₃,0) ≠ none
   rw [show hp (0,t₃,0) = _ from e];simp
 ·intro J';rintro k' ⟨vs',hp⟩ (⟨rfl,hrd',hmd',ht',rfl⟩ | ⟨rfl,t',l',I',F',e⟩)
  ·have ea4:(h₃.set (0,t₃,0) (.raw "list_iterator" [.v (.ref (0,a,0)),.ri 0])) (0,a,0) = some (.list [.ref (0,b,0)]):=H.skip (h:=h₃) (by walk_at "ne") ea3
   refine nx_list (i:=0) (v:=.ref (0,b,0)) (xs:=[.ref (0,b,0)]) (l:=(0,a,0)) (H.set_self _ _ _) ea4 rfl ⟨⟨_,_,_,rfl,H.set_self _ _ _⟩,?_⟩
   simp only [St.put,H.set_set]
   obtain ⟨h₄,hh⟩ : ∃ h₄,h₄ = h₃.set (0,t₃,0) (.raw "list_iterator" [.v (.ref (0,a,0)),.ri (0 + 1:Nat)]):=⟨_,rfl⟩
   have I₄:Is h₄ psT (t₃ + 1):=hh ▸ I₃.tmp
   have F₄:Fw t₃ h₃ h₄:=hh ▸ Fw.tmp
   have e4:h₄ (0,t₃,0) = some (.raw "list_iterator" [.v (.ref (0,a,0)),.ri 1]):=by rw [hh];exact H.set_self _ _ _
   rw [← hh]
   clear hh
   have eb4:h₄ (0,b,0) = some (.tup [.ref (tkN ps.cur),.bool false]):=(F₄ b 0 (by exact cb2 lb' l₃)).trans eb3
   have eT4:h₄ (tkN ps.cur) = some (tokO (.str "ident") (.str x) (.int p3)):=I₄.at q3
   refine as_tup g'.ok eb4 rfl ?_
   refine ao_cons (as_name g'.ok ?_)
   refine ao_cons (as_name g'.ok ?_)
   refine ao_nil ?_
   refine mB_cons (mS_if (mT_plain (q_call g' nk_has_field ?_)))
   walk_at "es"
   refine q_get g' eT4 (by simp) rfl ?_
   walk_at "es"
   refine sp_has_field (k:=k) g' (rm'.less (by omega)) I₄ q2 fun h₅ t₅ l₅ I₅ F₅=>?_
   have eT5:h₅ (tkN ps.cur) = some (tokO (.str "ident") (.str x) (.int p3)):=I₅.at q3
   refine t_bool (show mB _ _ _ _ from ?_)
   walk_at "es"
   refine q_call g' nk_Obj ?_
   walk_at "es"
   refine q_get g' eT5 (by simp) rfl ?_
   walk_at "es"
   refine q_get g' eT5 (by simp) rfl ?_
   walk_at "es"
   have hno:h₅ (obN psT.objs.length) = none:=I₅.no (by
    show (if 0 = 0 then Option.map _ (psT.objs[psT.objs.length]?) else none) = none
    rw [List.getElem?_eq_none (Nat.le_refl _)];rfl)
   refine sp_Obj (n:=obN psT.objs.length) (k:=k) g' (rm'.less (by omega)) hno ?_
   have key:=I₅.set1 (Nat.succ_ne_zero _) (spec_newO psT ⟨x, "field",.ref (tyN ti),p3,false,0,.none,0⟩)
   obtain ⟨h₆,hh⟩ : ∃ h₆,h₆ = h₅.set (3,psT.objs.length,0) (obO ⟨x, "field",.ref (tyN ti),p3,false,0,.none,0⟩):=⟨_,rfl⟩
   simp only [St.put]
   rw [← hh] at key ⊢
   clear hh
   obtain ⟨I₆,F₆⟩:=key
   walk_at "es"
   refine q_ob ⟨x, "field",.ref (tyN ti),p3,false,0,.none,0⟩ g' I₆ (newO_last _ _) (by simp) rfl fun h₇ I₇ F₇=>?_
   rw [show (psT.newO ⟨x, "field",.ref (tyN ti),p3,false,0,.none,0⟩).setO psT.objs.length ⟨x, "field",.ref (tyN ti),p3,false,0,.none,0⟩ = psT.newO ⟨x, "field",.ref (tyN ti),p3,false,0,.none,0⟩ from setO_newO _ _ _] at I₇
   walk_at "es"
   refine q_get g' (I₇.at (n:=RD) rfl) (by simp) rfl ?_
   walk_at "es"
   refine q_ob ⟨x, "field",.ref (tyN ti),p3,false,0,.none,0⟩ g' I₇ (newO_last _ _) (by simp) rfl fun h₈ I₈ F₈=>?_
   rw [show (psT.newO ⟨x, "field",.ref (tyN ti),p3,false,0,.none,0⟩).setO psT.objs.length ⟨x, "field",.ref (tyN ti),p3,false,0,.none,0⟩ = psT.newO ⟨x, "field",.ref (tyN ti),p3,false,0,.none,0⟩ from setO_newO _ _ _] at I₈
   walk_at "es"
   have eR:(psT.newO ⟨x, "field",.ref (tyN ti),p3,false,0,.none,0⟩).types[R]? = some r:=q1
   refine mE_bm (mE_attr (mE_local g'.ok hmd' (q_get g' (I₈.ty eR) (by simp) rfl ⟨_,meth_append (I₈.fld eR),?_⟩)))
   walk_at "es"
   refine MW2.toS (q_fld I₈ eR q4 fun h₉ I₉ F₉=>?_)
   walk_at "es"
   have F49:Fw (t₃ + 1) h₄ h₉:=((((F₅.trans F₆ (by omega)).trans F₇ (by omega)).trans F₈ (by omega)).trans F₉ (by omega))
   exact ⟨0,by exact cl0,.inr ⟨rfl,t₅,by omega,I₉,F₄.trans F49 (by omega),(F49 t₃ 0 (by omega)).trans e4⟩⟩
  ·have ea4:hp (0,a,0) = some (.list [.ref (0,b,0)]):=(F' a 0 (by exact cb2 la' l₃)).trans ea3
   refine nx_listE g'.ok (i:=1) (xs:=[.ref (0,b,0)]) (l:=(0,a,0)) e ea4 (by simp) ?_
   walk_at "es"
   refine h _ t' psT ti p3 (by exact cb4 lb₁ lb' l₃ l') hpt (I'.old (by omega)) ?_
   exact (F03.trans F' (by exact cb3 lb₁ lb' l₃)).set (by exact cb3 lb₁ lb' l₃)
end
theorem nk_place_fields (P:Params):nkB (KK P) "place_fields" 762 = true:=by kernel_rfl
theorem setT_get {ps:PS} {i:Nat} {r r0:TyR} (h:ps.types[i]? = some r0):(ps.setT i r).types[i]? = some r:=by
 have hi:i < ps.types.length:=by
  rcases Nat.lt_or_ge i ps.types.length with q | q
  ·exact q
  ·rw [List.getElem?_eq_none q] at h;cases h
 show (ps.types.set i r)[i]? = _
 rw [set_get _ _ _ _ hi,if_pos rfl]
theorem setT_ne {ps:PS} {i j:Nat} {r:TyR} (q:j ≠ i):(ps.setT i r).types[j]? = ps.types[j]?:=by
 show (ps.types.set i r)[j]? = _
 rw [List.getElem?_set_ne (Ne.symm q)]
inductive Pl:PS → Int → List V → PS → Int → Prop
 | nil {ps:PS} {off:Int}:0 ≤ off → off ≤ 1000000 → Pl ps off [] ps off
 | cons {ps ps' : PS} {off off' : Int} {vs:List V} {k i j:Nat} {ob:ObR} {tr tr2:TyR}:0 ≤ off → off ≤ 1000000 → ps.objs[k]? = some ob → ob.type = .ref (tyN i) → Un ps i j tr tr2 →
   Pl (ps.setO k { ob with offset:=rup off (al1 tr2.form) }) (rup off (al1 tr2.form) + tr.size) vs ps' off' → Pl ps off (.ref (obN k) :: vs) ps' off'
theorem Pl.end {ps ps' : PS} {off off' : Int} {vs:List V} (h:Pl ps off vs ps' off'):0 ≤ off' ∧ off' ≤ 1000000 ∧ ps'.types = ps.types:=by
 induction h with
 | nil a b=>exact ⟨a,b,rfl⟩
 | cons _ _ _ _ _ _ ih=>exact ⟨ih.1,ih.2.1,ih.2.2⟩
section
variable {c:Cx} {σ:St}
theorem sp_place_fields {ps psB ps' : PS} {t R:Nat} {r r1:TyR} {off0 off' : Int} {Q:V → St → Prop} {k:Nat} (g:Good c) (rm:Rm c (k + 3)) (I:Is σ.hp ps t) (hr:ps.types[R]? = some r)
  (hB:(r.base = .none ∧ r1 = { r with level:=0 } ∧ psB = ps.setT R r1 ∧ off0 = 0) ∨ (∃ bI br,r.base = .ref (tyN bI) ∧ bI ≠ R ∧ ps.types[bI]? = some br ∧ r1 = { r with level:=br.level + 1 } ∧ psB = (ps.setT R { r with level:=0 }).setT R r1 ∧ off0 = br.size))
  (hpl:Pl psB off0 r.fields ps' off')
  (h:∀ h' t',t ≤ t' → Is h' (ps'.setT R { r1 with size:=(if (off' + 3).fdiv 4 * 4 > 4 then (off' + 3).fdiv 4 * 4 else 4) }) t' → Fw t σ.hp h' → Q .none ⟨σ.vars,h'⟩):mCall c 762 [.ref (tyN R)] Q σ:=by
 refine q_fun ["record"] [_] g rm (fun _=>dk1 rfl rfl) (hb1 fun _=>rfl) rfl fun B L=>?_
 intro c' QQ g' rm'
 walk_at "es"
 refine q_tyS { r with level:=0 } g' I hr (by simp) rfl rfl fun h₁ I₁ F₁=>?_
 have hr1:=setT_get (r:={ r with level:=0 }) hr
 walk_at "es"
 refine MW.mono (Q:=fun f σ'=>f = .next ∧ Is σ'.hp psB t ∧ Fw t σ.hp σ'.hp ∧ psB.types[R]? = some r1 ∧ r1.fields = r.fields ∧ σ'.vars "record" = some (.ref (tyN R)) ∧ σ'.vars "offset" = some (.int off0)) ?_ ?_
 rotate_left
 ·rintro _ ⟨vs,h₂⟩ ⟨rfl,I₂,F₂,hR,hfl,hrec,hoff⟩
  show mB _ _ _ _
  refine mB_cons ?_
  refine mS_for (0,t,0) (fun k τ=>∃ a psA offA t',a + k = r.fields.length ∧ t + 1 ≤ t' ∧ Is τ.hp psA t' ∧ Fw t σ.hp τ.hp ∧ τ.hp (0,t,0) = some (.raw "list_iterator" [.v (.ref (2,R,1)),.ri (a:Nat)]) ∧ τ.vars "record" = some (.ref (tyN R)) ∧ τ.vars "offset" = some (.int offA) ∧ Pl psA offA (r.fields.drop a) ps' off' ∧ psA.types = psB.types) ?_ ?_ ?_
  ·refine mE_attr (mE_local g'.ok hrec ?_)
   refine q_get g' (I₂.ty hR) (by simp) rfl ?_
   exact it_list (0,t,0) (I₂.fld hR) (I₂.free _ _ (Nat.le_refl _)) ⟨rfl,r.fields.length,0,psB,off0,t + 1,by omega,by omega,I₂.tmp,F₂.set (by exact cl0),H.set_self _ _ _,hrec,hoff,hpl,rfl⟩
  ·rintro k' ⟨vs',hp⟩ ⟨a,psA,offA,t',_,_,_,_,e,_⟩
   show hp (0,t,0) ≠ none
   rw [show hp (0,t,0) = _ from e];simp
  ·intro J';rintro k' ⟨vs',hp⟩ ⟨a,psA,offA,t',ha,l',I',F',e,hrec',hoff',pl,ety⟩
   have hRA:psA.types[R]? = some r1:=by rw [ety];exact hR
   have eF:hp (2,R,1) = some (.list r.fields):=by rw [← hfl];exact I'.fld hRA
   rcases Nat.eq_zero_or_pos k' with rfl | pos
   ·refine nx_listE g'.ok (i:=a) e eF (by exact cb1 (eR ha)) ?_
    have ea:a = r.fields.length:=by exact ce1 ha
    subst ea
    rw [List.drop_length] at pl
    cases pl with
    | nil b1 b2=>
    have I₃:Is (hp.set (0,t,0) .dead) ps' t':=I'.old (by omega)
    have F₃:Fw t σ.hp (hp.set (0,t,0) .dead):=F'.set (by exact cl0)
    simp only [St.put]
    walk_at "es"
    refine q_bi g' nb_max bb_max ?_
    walk_at "es"
    refine q_call g' nk_whole_words ?_
    walk_at "es"
    refine sp_whole_words (k:=k) g' (rm'.less (by omega)) b1 b2 ?_
    walk_at "es"
    refine MW2.toS (f_max g'.ok ?_)
    walk_at "es"
    refine q_tyS { r1 with size:=(if (off' + 3).fdiv 4 * 4 > 4 then (off' + 3).fdiv 4 * 4 else 4) } g' I₃ hRA (by simp) rfl rfl fun h₄ I₄ F₄=>?_
    walk_at "es"
    exact h h₄ t' (by omega) I₄ (F₃.trans F₄ (by omega))
   ·have lt:a < r.fields.length:=by exact cb2 (eL ha) pos
    rw [List.drop_eq_getElem_cons lt] at pl
    obtain ⟨v,hv⟩ : ∃ v,v = r.fields[a]:=⟨_,rfl⟩
    have hg:r.fields[a]? = some v:=by rw [hv];exact List.getElem?_eq_getElem lt
    rw [← hv] at pl
    cases pl with
    | @cons _ _ _ _ _ kk i j ob tr tr2 b1 b2 hob hty un rest=>
    refine nx_list (i:=a) (v:=.ref (obN kk)) (xs:=r.fields) e eF hg ?_
    refine as_name g'.ok ?_
    simp only [St.put]
    obtain ⟨h₃,hh⟩ : ∃ h₃,h₃ = hp.set (0,t,0) (.raw "list_iterator" [.v (.ref (2,R,1)),.ri (a + 1:Nat)]):=⟨_,rfl⟩
    have I₃:Is h₃ psA t':=hh ▸ I'.old (by omega)
    have F₃:Fw t σ.hp h₃:=hh ▸ F'.set (by exact cl0)
    have e3:h₃ (0,t,0) = some (.raw "list_iterator" [.v (.ref (2,R,1)),.ri (a + 1:Nat)]):=by rw [hh];exact H.set_self _ _ _
    rw [← hh]
    clear hh
    refine mB_cons (mS_assign (q_call g' nk_align ?_))
    walk_at "es"
    refine q_get g' (I₃.ob hob) (by simp) rfl ?_ (by rw [hty];rfl)
    rw [hty]
    walk_at "es"
    refine sp_align (k:=k) g' rm' I₃ un b1 b2 fun h₄ I₄ F₄=>?_
    walk_at "es"
    refine q_ob { ob with offset:=rup offA (al1 tr2.form) } g' I₄ hob (by simp) rfl fun h₅ I₅ F₅=>?_
    have hob5:(psA.setO kk { ob with offset:=rup offA (al1 tr2.form) }).objs[kk]? = some { ob with offset:=rup offA (al1 tr2.form) }:=by
     have hi:kk < psA.objs.length:=by
      rcases Nat.lt_or_ge kk psA.objs.length with q | q
      ·exact q
      ·rw [List.getElem?_eq_none q] at hob;cases hob
     show (psA.objs.set kk _)[kk]? = _
     rw [set_get _ _ _ _ hi,if_pos rfl]
    have hty5:(psA.setO kk { ob with offset:=rup offA (al1 tr2.form) }).types[i]? = some tr:=un.1
    walk_at "es"
    refine q_get g' (I₅.ob hob5) (by simp) rfl ?_ (by show V.okV ob.type = true;rw [hty];rfl)
    rw [show ({ ob with offset:=rup offA (al1 tr2.form) }:ObR).type = .ref (tyN i) from hty]
    refine q_get g' (I₅.ty hty5) (by simp) rfl ?_
    refine i_add ?_
    walk_at "es"
    exact ⟨k' - 1,by omega,a + 1,_,_,t' + 1,by omega,by omega,I₅.less (by omega),(F₃.trans F₄ (by omega)).trans F₅ (by omega),(F₅ t 0 (by exact cb1 l')).trans ((F₄ t 0 (by omega)).trans e3),hrec',rfl,rest,ety⟩
 refine mS_if ?_
 walk_at "es"
 rcases hB with ⟨hb,e1,e2,e3⟩ | ⟨bI,br,hb,hne,hbr,e1,e2,e3⟩
 ·refine q_get g' (I₁.ty hr1) (by simp) rfl ?_ (by show V.okV r.base = true;rw [hb];rfl)
  rw [show ({ r with level:=0 }:TyR).base = .none from hb]
  walk_at "es"
  refine c_isntN (t_bool (show mB _ _ _ _ from ?_))
  refine mB_nil ?_
  subst e1 e2 e3
  exact ⟨rfl,I₁,F₁,hr1,rfl,rfl,rfl⟩
 ·refine q_get g' (I₁.ty hr1) (by simp) rfl ?_ (by show V.okV r.base = true;rw [hb];rfl)
  rw [show ({ r with level:=0 }:TyR).base = .ref (tyN bI) from hb]
  walk_at "es"
  refine c_isntR (t_bool (show mB _ _ _ _ from ?_))
  have hbr1:(ps.setT R { r with level:=0 }).types[bI]? = some br:=(setT_ne hne).trans hbr
  walk_at "es"
  refine q_get g' (I₁.ty hr1) (by simp) rfl ?_ (by show V.okV r.base = true;rw [hb];rfl)
  rw [show ({ r with level:=0 }:TyR).base = .ref (tyN bI) from hb]
  refine q_get g' (I₁.ty hbr1) (by simp) rfl ?_
  walk_at "es"
  refine q_get g' (I₁.ty hr1) (by simp) rfl ?_ (by show V.okV r.base = true;rw [hb];rfl)
  rw [show ({ r with level:=0 }:TyR).base = .ref (tyN bI) from hb]
  refine q_get g' (I₁.ty hbr1) (by simp) rfl ?_
  walk_at "es"
  refine b_add ?_
  walk_at "es"
  refine q_tyS { r with level:=br.level + 1 } g' I₁ hr1 (by simp) rfl rfl fun h₂ I₂ F₂=>?_
  refine mB_nil ?_
  subst e1 e2 e3
  exact ⟨rfl,I₂,F₁.trans F₂ (by exact cl0),setT_get hr1,rfl,rfl,rfl⟩
end
theorem nk_base_type (P:Params):nkB (KK P) "base_type" 924 = true:=by kernel_rfl
theorem nk_is_undeclared (P:Params):nkB (KK P) "is_undeclared" 952 = true:=by kernel_rfl
theorem nk_pointer_type (P:Params):nkB (KK P) "pointer_type" 959 = true:=by kernel_rfl
theorem ns_MOST_LEVEL (P:Params):∃ t,nsIn (KK P) mainGlobals "MOST_LEVEL" = some (some (.int 3 t)):=⟨_,rfl⟩
section
variable {c:Cx} {σ:St}
theorem sp_base_type0 {ps:PS} {t R:Nat} {kk:Str} {vv:V} {Q:V → St → Prop} {k:Nat} (g:Good c) (rm:Rm c (k + 8)) (I:Is σ.hp ps t) (ok:ps.Ok) (ht:ps.tok kk vv) (hk:kk ≠ "(") (h:Q .none σ):mCall c 924 [.ref RD,.ref (tyN R)] Q σ:=by
 refine q_fun ["rd", "made"] [_,_] g rm (fun _=>dk1 rfl rfl) (hb2 fun _ _=>rfl) rfl fun B L=>?_
 intro c' QQ g' rm'
 walk_at "es"
 refine mS_if (mT_not (mT_plain (q_meth 1403 1372 g' (me_Reader_skip _) (mE_local g'.ok rfl ⟨RD,_,rfl,I.at rfl,rfl,?_⟩))))
 walk_at "es"
 refine sp_rskip (k:=k) (k2 := "") (v2:=.none) (ps':=ps) g' (rm'.less (by omega)) I ok ht (fun q=>absurd q hk) (fun _=>t_bool (show mB _ _ _ _ from ?_)) (fun q=>absurd q hk)
 walk_at "es"
 exact h
theorem sp_base_type1 {ps ps1 ps2 ps3:PS} {t R kk bI:Nat} {x k3:Str} {va v2 v3:V} {ob:ObR} {br tr:TyR} {Q:V → St → Prop} {k:Nat} (g:Good c) (rm:Rm c (k + 10)) (I:Is σ.hp ps t) (ok:ps.Ok) (ht:ps.tok "(" va)
  (n1:ps.Next "ident" (.str x) ps1) (n2:ps1.Next ")" v2 ps2) (n3:(ps2.setT R { tr with base:=.ref (tyN bI) }).Next k3 v3 ps3)
  (hf:ps.find x = some kk) (ho:ps.objs[kk]? = some ob) (hk:ob.kind = "type") (hty:ob.type = .ref (tyN bI)) (hbr:ps.types[bI]? = some br) (hform:br.form = "record") (hlev:br.level < 3) (htr:ps.types[R]? = some tr)
  (h:∀ h' t',t ≤ t' → Is h' ps3 t' → Fw t σ.hp h' → Q .none ⟨σ.vars,h'⟩):mCall c 924 [.ref RD,.ref (tyN R)] Q σ:=by
 refine q_fun ["rd", "made"] [_,_] g rm (fun _=>dk1 rfl rfl) (hb2 fun _ _=>rfl) rfl fun B L=>?_
 intro c' QQ g' rm'
 walk_at "es"
 refine mS_if (mT_not (mT_plain (q_meth 1403 1372 g' (me_Reader_skip _) (mE_local g'.ok rfl ⟨RD,_,rfl,I.at rfl,rfl,?_⟩))))
 walk_at "es"
 refine sp_rskip (k:=k) g' (rm'.less (by omega)) I ok ht (fun _=>n1) (fun q=>absurd rfl q) (fun _ h₁ I₁ F₁=>t_bool (show mB _ _ _ _ from ?_))
 have ok1:=n1.ok ok
 obtain ⟨p,eT⟩:=I₁.tok n1.tok
 walk_at "es"
 refine q_get g' (I₁.at (n:=RD) rfl) (by simp) rfl ?_
 refine q_get g' eT (by simp) rfl ?_
 walk_at "es"
 refine q_call g' nk_type_name ?_
 walk_at "es"
 refine sp_type_name (k:=k) (i:=bI) (tr:=br) g' rm' I₁ ok1 n1.tok n2 (by rw [n1.find];exact hf) (by rw [n1.objs];exact ho) hk hty (by rw [n1.types];exact hbr) (by rw [hform];rfl) fun h₂ I₂ F₂=>?_
 have ok2:=n2.ok ok1
 have hbr2:ps2.types[bI]? = some br:=by rw [n2.types,n1.types];exact hbr
 have htr2:ps2.types[R]? = some tr:=by rw [n2.types,n1.types];exact htr
 walk_at "es"
 refine mS_if ?_
 walk_at "es"
 refine q_get g' (I₂.ty hbr2) (by simp) rfl ?_
 walk_at "es"
 refine c_neS (t_bool ?_)
 rw [hform]
 show mB _ _ _ _
 refine mB_cons (mS_if ?_)
 walk_at "es"
 refine q_get g' (I₂.ty hbr2) (by simp) rfl ?_
 refine q_gint g' ns_MOST_LEVEL ?_
 refine c_ge (t_bool ?_)
 rw [decide_eq_false (by omega)]
 show mB _ _ _ _
 walk_at "es"
 refine q_tyS { tr with base:=.ref (tyN bI) } g' I₂ htr2 (by simp) rfl rfl fun h₃ I₃ F₃=>?_
 have ok3:(ps2.setT R { tr with base:=.ref (tyN bI) }).Ok:=⟨ok2.small,ok2.cur⟩
 have ht3:(ps2.setT R { tr with base:=.ref (tyN bI) }).tok ")" v2:=n2.tok
 walk_at "es"
 refine q_meth 1403 1379 g' (me_Reader_expect _) (mE_local g'.ok rfl ⟨RD,_,rfl,I₃.at rfl,rfl,?_⟩)
 walk_at "es"
 refine sp_expect (k:=k) g' (rm'.less (by omega)) I₃ ok3 ht3 n3 fun h₄ I₄ F₄=>?_
 walk_at "es"
 exact h h₄ _ (by exact cl0) I₄ (((F₁.trans F₂ (by omega)).trans F₃ (by omega)).trans F₄ (by omega))
theorem sp_pointer_type1 {ps ps1 ps2:PS} {t kk i:Nat} {x k5 lb:Str} {va v1 v5:V} {ob:ObR} {tr:TyR} {Q:V → St → Prop} {k:Nat} (g:Good c) (rm:Rm c (k + 12)) (I:Is σ.hp ps t) (ok:ps.Ok) (ht:ps.tok "POINTER" va)
  (n1:ps.Next "TO" v1 ps1) (n2:ps1.Next "ident" (.str x) ps2) (kn:ps2.Kn) (hkl:ps2.keys.length ≤ 1000) (n3:∀ ks',(ps2.newT ⟨"pointer",4,.none,0,[],0,lb⟩ ks').Kn → ∃ ps',(ps2.newT ⟨"pointer",4,.none,0,[],0,lb⟩ ks').Next k5 v5 ps')
  (hf:ps.find x = some kk) (ho:ps.objs[kk]? = some ob) (hk:ob.kind = "type") (hty:ob.type = .ref (tyN i)) (htr:ps.types[i]? = some tr) (hform:tr.form = "record") (hlb:(lb != "") = true) (hll:lb.length ≤ 1000)
  (h:∀ h' t' ks' ps3,t ≤ t' → (ps2.newT ⟨"pointer",4,.none,0,[],0,lb⟩ ks').Kn → (ps2.newT ⟨"pointer",4,.none,0,[],0,lb⟩ ks').Next k5 v5 ps3 → Is h' (ps3.setT ps2.types.length ⟨"pointer",4,.ref (tyN i),0,[],0,lb⟩) t' → Fw t σ.hp h' → Q (.ref (tyN ps2.types.length)) ⟨σ.vars,h'⟩):mCall c 959 [.ref RD,.str lb] Q σ:=by
 refine q_fun ["rd", "label"] [_,_] g rm (fun _=>dk1 rfl rfl) (hb2 fun _ _=>rfl) rfl fun B L=>?_
 intro c' QQ g' rm'
 walk_at "es"
 refine q_meth0 1403 1358 g' (me_Reader_step _) (mE_local g'.ok rfl ⟨RD,_,rfl,I.at rfl,rfl,?_⟩)
 refine sp_step (k:=k) g' (rm'.less (by omega)) I ok n1 fun h₁ I₁ F₁=>?_
 have ok1:=n1.ok ok
 walk_at "es"
 refine q_meth 1403 1379 g' (me_Reader_expect _) (mE_local g'.ok rfl ⟨RD,_,rfl,I₁.at rfl,rfl,?_⟩)
 walk_at "es"
 refine sp_expect (k:=k) g' (rm'.less (by omega)) I₁ ok1 n1.tok n2 fun h₂ I₂ F₂=>?_
 have ok2:=n2.ok ok1
 walk_at "es"
 refine q_meth 864 854 g' (me_Types_new _) (mE_attr (mE_local g'.ok rfl (q_get g' (I₂.at (n:=RD) rfl) (by simp) rfl ⟨TY,_,rfl,I₂.at (n:=TY) rfl,rfl,?_⟩)))
 walk_at "es"
 refine q_get g' (I₂.at (n:=RD) rfl) (by simp) rfl ?_
 walk_at "es"
 refine sp_newT (k:=k) g' (rm'.less (by omega)) I₂ kn hkl hlb fun h₃ ks' I₃ kn₃ F₃=>?_
 obtain ⟨ps3,n3⟩:=n3 ks' kn₃
 have ok3:(ps2.newT ⟨"pointer",4,.none,0,[],0,lb⟩ ks').Ok:=⟨ok2.small,ok2.cur⟩
 have ht3:(ps2.newT ⟨"pointer",4,.none,0,[],0,lb⟩ ks').tok "ident" (.str x):=n2.tok
 obtain ⟨p,eT⟩:=I₃.tok ht3
 have hf3:(ps2.newT ⟨"pointer",4,.none,0,[],0,lb⟩ ks').find x = some kk:=by
  show ps2.find x = _;rw [n2.find,n1.find];exact hf
 have ho3:(ps2.newT ⟨"pointer",4,.none,0,[],0,lb⟩ ks').objs[kk]? = some ob:=by
  show ps2.objs[kk]? = _;rw [n2.objs,n1.objs];exact ho
 have htr3:(ps2.newT ⟨"pointer",4,.none,0,[],0,lb⟩ ks').types[i]? = some tr:=newT_get (by rw [n2.types,n1.types];exact htr)
 walk_at "es"
 refine q_get g' (I₃.at (n:=RD) rfl) (by simp) rfl ?_
 refine q_get g' eT (by simp) rfl ?_
 walk_at "es"
 obtain ⟨P3,hP3⟩ : ∃ P3,P3 = ps2.newT ⟨"pointer",4,.none,0,[],0,lb⟩ ks':=⟨_,rfl⟩
 have hlast:P3.types[ps2.types.length]? = some ⟨"pointer",4,.none,0,[],0,lb⟩:=hP3 ▸ newT_last _ _ _
 rw [← hP3] at I₃ ok3 ht3 hf3 ho3 htr3 eT
 refine MW.mono (Q:=fun f σ'=>f = .next ∧ ∃ t',t + 2 ≤ t' ∧ Is σ'.hp P3 t' ∧ Fw t σ.hp σ'.hp ∧ σ'.vars "rd" = some (.ref RD) ∧ σ'.vars "label" = some (.str lb) ∧ σ'.vars "made" = some (.ref (tyN ps2.types.length))) ?_ ?_
 ·refine mS_if ?_
  refine mT_and (mT_plain (q_meth 1403 1365 g' (me_Reader_at _) (mE_local g'.ok rfl ⟨RD,_,rfl,I₃.at rfl,rfl,?_⟩)))
  walk_at "es"
  refine sp_at (k:=k) g' (rm'.less (by omega)) I₃ ht3 (t_bool (show mT _ _ _ _ from ?_))
  refine mT_and (mT_plain (q_call g' nk_is_undeclared ?_))
  walk_at "es"
  refine q_get g' (I₃.at (n:=RD) rfl) (by simp) rfl ?_
  refine q_get g' eT (by simp) rfl ?_
  walk_at "es"
  refine sp_is_undeclared1 (k:=k) g' (rm'.less (by omega)) I₃ hf3 ho3 hk hty htr3 fun h₄ I₄ F₄=>t_bool ?_
  rw [hform]
  show mB _ _ _ _
  refine mB_nil ⟨rfl,t + 2 + 1,by omega,I₄,((F₁.trans F₂ (by omega)).trans F₃ (by omega)).trans F₄ (by omega),rfl,rfl,rfl⟩
 ·rintro _ ⟨vs,h₄⟩ ⟨rfl,t',l',I₄,F₄,hrd,hlab,hmd⟩
  show mB _ _ _ _
  refine mB_cons (mS_assign (q_call g' nk_type_of ?_))
  walk_at "es"
  refine b_cat ?_ (by show lb.length + 1 ≤ _;exact cb1 hll)
  walk_at "es"
  refine sp_type_of_name (k:=k) (i:=i) (tr:=tr) g' (rm'.less (by omega)) I₄ ok3 ht3 (hP3 ▸ n3) hf3 ho3 hk hty htr3 (by rw [hform];rfl) fun h₅ I₅ F₅=>?_
  have n3' : P3.Next k5 v5 ps3:=hP3 ▸ n3
  walk_at "es"
  refine mS_if ?_
  walk_at "es"
  refine q_get g' (I₅.ty (by rw [n3'.types];exact htr3)) (by simp) rfl ?_
  walk_at "es"
  refine c_neS (t_bool ?_)
  rw [hform]
  show mB _ _ _ _
  walk_at "es"
  refine q_tyS (r:=⟨"pointer",4,.none,0,[],0,lb⟩) ⟨"pointer",4,.ref (tyN i),0,[],0,lb⟩ g' I₅ (by rw [n3'.types];exact hlast) (by simp) rfl rfl fun h₆ I₆ F₆=>?_
  walk_at "es"
  exact h h₆ _ ks' ps3 (by omega) kn₃ n3 I₆ ((F₄.trans F₅ (by omega)).trans F₆ (by omega))
end
theorem spec_forw (ps:PS) (x:V × Str × Int) (hf:ps.fwd.length = ps.nf.length):spec (ps.forw x) = ((spec ps).set (8,4,ps.nf.length) (.tup [x.1,.str x.2.1,.int x.2.2])).set (8,3,0) (.list (((List.range ps.fwd.length).map fun i=>.ref (8,4,i)) ++ [.ref (8,4,ps.nf.length)])):=by
 rw [show spec ps = hpA (arms ps) (dfl ps.L) from rfl,hp_set (a:=8) (f:=c8 ps.cur ps.recs ps.fwd.length ps.nf) rfl,hp_set (a:=8) rfl,
  show ups (c8 ps.cur ps.recs ps.fwd.length ps.nf) _ _ _ = c8 ps.cur ps.recs ps.fwd.length (ps.nf ++ [x]) from row_up (A:=[_,_,_,_,_]) (b:=4) rfl rfl,
  show ups (c8 ps.cur ps.recs ps.fwd.length (ps.nf ++ [x])) 3 0 (.list (((List.range ps.fwd.length).map fun i=>.ref (8,4,i)) ++ [.ref (8,4,ps.nf.length)])) = c8 ps.cur ps.recs (ps.fwd ++ [x]).length (ps.nf ++ [x]) from by
   rw [List.length_append,show ps.fwd.length + [x].length = ps.fwd.length + 1 from rfl]
   unfold c8
   rw [only_up (A:=[_,_,_,_,_]) (b:=3) rfl,List.range_succ,List.map_append,← hf]
   rfl]
 rfl
section
variable {c:Cx} {σ:St}
theorem sp_pointer_type2 {ps ps1 ps2:PS} {t:Nat} {x k5 lb:Str} {va v1 v5:V} {Q:V → St → Prop} {k:Nat} (g:Good c) (rm:Rm c (k + 12)) (I:Is σ.hp ps t) (ok:ps.Ok) (ht:ps.tok "POINTER" va)
  (n1:ps.Next "TO" v1 ps1) (n2:ps1.Next "ident" (.str x) ps2) (kn:ps2.Kn) (hkl:ps2.keys.length ≤ 1000) (hfn:ps2.fwd.length = ps2.nf.length) (hfl:ps2.fwd.length ≤ 1000)
  (n3:∀ ks',(ps2.newT ⟨"pointer",4,.none,0,[],0,lb⟩ ks').Kn → ∃ ps',(((ps2.newT ⟨"pointer",4,.none,0,[],0,lb⟩ ks').newU ⟨"record",0,.none,0,[],0, ""⟩).setT ps2.types.length ⟨"pointer",4,.ref (tyN (ps2.types.length + 1)),0,[],0,lb⟩).Next k5 v5 ps')
  (hu:ps.find x = none ∨ (∃ kk ob i tr,ps.find x = some kk ∧ ps.objs[kk]? = some ob ∧ ob.kind = "type" ∧ ob.type = .ref (tyN i) ∧ ps.types[i]? = some tr ∧ tr.form = "none")) (hlb:(lb != "") = true) (hll:lb.length ≤ 1000)
  (h:∀ h' t' ks' ps3 p,t ≤ t' → (ps2.newT ⟨"pointer",4,.none,0,[],0,lb⟩ ks').Kn → (((ps2.newT ⟨"pointer",4,.none,0,[],0,lb⟩ ks').newU ⟨"record",0,.none,0,[],0, ""⟩).setT ps2.types.length ⟨"pointer",4,.ref (tyN (ps2.types.length + 1)),0,[],0,lb⟩).Next k5 v5 ps3 →
   Is h' (ps3.forw (.ref (tyN ps2.types.length),x,p)) t' → Fw t σ.hp h' → Q (.ref (tyN ps2.types.length)) ⟨σ.vars,h'⟩):mCall c 959 [.ref RD,.str lb] Q σ:=by
 refine q_fun ["rd", "label"] [_,_] g rm (fun _=>dk1 rfl rfl) (hb2 fun _ _=>rfl) rfl fun B L=>?_
 intro c' QQ g' rm'
 walk_at "es"
 refine q_meth0 1403 1358 g' (me_Reader_step _) (mE_local g'.ok rfl ⟨RD,_,rfl,I.at rfl,rfl,?_⟩)
 refine sp_step (k:=k) g' (rm'.less (by omega)) I ok n1 fun h₁ I₁ F₁=>?_
 have ok1:=n1.ok ok
 walk_at "es"
 refine q_meth 1403 1379 g' (me_Reader_expect _) (mE_local g'.ok rfl ⟨RD,_,rfl,I₁.at rfl,rfl,?_⟩)
 walk_at "es"
 refine sp_expect (k:=k) g' (rm'.less (by omega)) I₁ ok1 n1.tok n2 fun h₂ I₂ F₂=>?_
 have ok2:=n2.ok ok1
 walk_at "es"
 refine q_meth 864 854 g' (me_Types_new _) (mE_attr (mE_local g'.ok rfl (q_get g' (I₂.at (n:=RD) rfl) (by simp) rfl ⟨TY,_,rfl,I₂.at (n:=TY) rfl,rfl,?_⟩)))
 walk_at "es"
 refine q_get g' (I₂.at (n:=RD) rfl) (by simp) rfl ?_
 walk_at "es"
 refine sp_newT (k:=k) g' (rm'.less (by omega)) I₂ kn hkl hlb fun h₃ ks' I₃ kn₃ F₃=>?_
 obtain ⟨ps3,n3⟩:=n3 ks' kn₃
 have hh:=h (ks':=ks') (ps3:=ps3)
 obtain ⟨P3,hP3⟩ : ∃ P3,P3 = ps2.newT ⟨"pointer",4,.none,0,[],0,lb⟩ ks':=⟨_,rfl⟩
 have ok3:P3.Ok:=hP3 ▸ ⟨ok2.small,ok2.cur⟩
 have ht3:P3.tok "ident" (.str x):=by rw [hP3];exact n2.tok
 have hlast:P3.types[ps2.types.length]? = some ⟨"pointer",4,.none,0,[],0,lb⟩:=hP3 ▸ newT_last _ _ _
 have hlen:P3.types.length = ps2.types.length + 1:=by rw [hP3];show (ps2.types ++ [_]).length = _;simp
 have hu3:P3.find x = none ∨ (∃ kk ob i tr,P3.find x = some kk ∧ P3.objs[kk]? = some ob ∧ ob.kind = "type" ∧ ob.type = .ref (tyN i) ∧ P3.types[i]? = some tr ∧ tr.form = "none"):=by
  rcases hu with hu | ⟨kk,ob,i,tr,a1,a2,a3,a4,a5,a6⟩
  ·left;rw [hP3];show ps2.find x = _;rw [n2.find,n1.find];exact hu
  ·right
   refine ⟨kk,ob,i,tr,?_,?_,a3,a4,?_,a6⟩
   ·rw [hP3];show ps2.find x = _;rw [n2.find,n1.find];exact a1
   ·rw [hP3];show ps2.objs[kk]? = _;rw [n2.objs,n1.objs];exact a2
   ·rw [hP3];exact newT_get (by rw [n2.types,n1.types];exact a5)
 have hfw:P3.fwd = ps2.fwd ∧ P3.nf = ps2.nf:=by rw [hP3];exact ⟨rfl,rfl⟩
 rw [← hP3] at I₃ n3 hh kn₃
 obtain ⟨p,eT⟩:=I₃.tok ht3
 walk_at "es"
 refine q_get g' (I₃.at (n:=RD) rfl) (by simp) rfl ?_
 refine q_get g' eT (by simp) rfl ?_
 walk_at "es"
 refine mS_if ?_
 refine mT_and (mT_plain (q_meth 1403 1365 g' (me_Reader_at _) (mE_local g'.ok rfl ⟨RD,_,rfl,I₃.at rfl,rfl,?_⟩)))
 walk_at "es"
 refine sp_at (k:=k) g' (rm'.less (by omega)) I₃ ht3 (t_bool (show mT _ _ _ _ from ?_))
 refine mT_and (mT_plain (q_call g' nk_is_undeclared ?_))
 walk_at "es"
 refine q_get g' (I₃.at (n:=RD) rfl) (by simp) rfl ?_
 refine q_get g' eT (by simp) rfl ?_
 walk_at "es"
 refine mCall.mono (Q:=fun v σ'=>v = .bool true ∧ Is σ'.hp P3 (t + 3) ∧ Fw (t + 2) h₃ σ'.hp ∧ σ'.vars "rd" = some (.ref RD) ∧ σ'.vars "made" = some (.ref (tyN ps2.types.length)) ∧ σ'.vars "place" = some (.int p)) ?_ ?_
 ·rcases hu3 with hu3 | ⟨kk,ob,i,tr,a1,a2,a3,a4,a5,a6⟩
  ·exact sp_is_undeclared0 (k:=k) g' (rm'.less (by omega)) I₃ hu3 fun h₄ I₄ F₄=>⟨rfl,I₄,F₄,rfl,rfl,rfl⟩
  ·refine sp_is_undeclared1 (k:=k) g' (rm'.less (by omega)) I₃ a1 a2 a3 a4 a5 fun h₄ I₄ F₄=>⟨by rw [a6];rfl,I₄,F₄,rfl,rfl,rfl⟩
 ·rintro _ ⟨vs,h₄⟩ ⟨rfl,I₄,F₄,hrd,hmd,hpl⟩
  refine t_bool (show mT _ _ _ _ from ?_)
  refine mT_and0 (show mB _ _ _ _ from ?_)
  walk_at "es"
  refine q_meth 864 854 g' (me_Types_new _) (mE_attr (mE_local g'.ok hrd (q_get g' (I₄.at (n:=RD) rfl) (by simp) rfl ⟨TY,_,rfl,I₄.at (n:=TY) rfl,rfl,?_⟩)))
  walk_at "es"
  refine sp_newU (k:=k) g' (rm'.less (by omega)) I₄ fun h₅ I₅ F₅=>?_
  rw [hlen]
  have hl5:(P3.newU ⟨"record",0,.none,0,[],0, ""⟩).types[ps2.types.length]? = some ⟨"pointer",4,.none,0,[],0,lb⟩:=by
   show (P3.types ++ [_])[_]? = _
   rw [List.getElem?_append_left (by exact cb1 (eR hlen))];exact hlast
  walk_at "es"
  refine q_tyS (r:=⟨"pointer",4,.none,0,[],0,lb⟩) ⟨"pointer",4,.ref (tyN (ps2.types.length + 1)),0,[],0,lb⟩ g' I₅ hl5 (by simp) rfl rfl fun h₆ I₆ F₆=>?_
  obtain ⟨P6,hP6⟩ : ∃ P6,P6 = (P3.newU ⟨"record",0,.none,0,[],0, ""⟩).setT ps2.types.length ⟨"pointer",4,.ref (tyN (ps2.types.length + 1)),0,[],0,lb⟩:=⟨_,rfl⟩
  have ok6:P6.Ok:=hP6 ▸ ⟨ok3.small,ok3.cur⟩
  have ht6:P6.tok "ident" (.str x):=by rw [hP6];exact ht3
  have hf6:P6.fwd = ps2.fwd ∧ P6.nf = ps2.nf:=by rw [hP6];exact hfw
  rw [← hP6] at I₆
  have n6:P6.Next k5 v5 ps3:=hP6 ▸ n3
  walk_at "es"
  have eFw:h₆ (8,3,0) = some (.list ((List.range P6.fwd.length).map fun i=>.ref (8,4,i))):=I₆.at rfl
  refine mE_bm (mE_attr (mE_local g'.ok hrd (q_get g' (I₆.at (n:=RD) rfl) (by simp) rfl ⟨_,meth_append eFw,?_⟩)))
  walk_at "es"
  refine q_meth0 1403 1358 g' (me_Reader_step _) (mE_local g'.ok hrd ⟨RD,_,rfl,I₆.at rfl,rfl,?_⟩)
  refine sp_step (k:=k) g' (rm'.less (by omega)) I₆ ok6 n6 fun h₇ I₇ F₇=>?_
  obtain ⟨p7,eT7⟩:=n6.old ok6 ht6 I₇
  refine q_get g' eT7 (by simp) rfl ?_
  walk_at "es"
  have hf7:ps3.fwd = ps2.fwd ∧ ps3.nf = ps2.nf:=by
   obtain ⟨j,m,R,_,_,e⟩:=n6
   rw [e];exact hf6
  have hn7:h₇ (8,4,ps3.nf.length) = none:=I₇.no (by
   show Option.map _ (ps3.nf[ps3.nf.length]?) = none
   rw [List.getElem?_eq_none (Nat.le_refl _)];rfl)
  refine t_new (8,4,ps3.nf.length) hn7 ?_ (by simp)
  walk_at "es"
  have eFw7:(h₇.set (8,4,ps3.nf.length) (.tup [.ref (tyN ps2.types.length),.str x,.int p])) (8,3,0) = some (.list ((List.range ps3.fwd.length).map fun i=>.ref (8,4,i))):=H.skip (h:=h₇) (by walk_at "ne") (I₇.at rfl)
  refine MW2.toS (l_append eFw7 ?_ (by simp;rw [hf7.1];omega))
  have key:=I₇.via (ps':=ps3.forw (.ref (tyN ps2.types.length),x,p)) (fun H=>(H.set (8,4,ps3.nf.length) (.tup [.ref (tyN ps2.types.length),.str x,.int p])).set (8,3,0) (.list (((List.range ps3.fwd.length).map fun i=>.ref (8,4,i)) ++ [.ref (8,4,ps3.nf.length)]))) (spec_forw _ _ (by rw [hf7.1,hf7.2];exact hfn))
   (fun a b q=>set_hf _ _ (set_hf _ _ q))
   (fun a n hn=>by
    obtain ⟨x',y,z⟩:=n
    cases (show x' = 0 from hn)
    show ((a.set (8,4,ps3.nf.length) (.tup [.ref (tyN ps2.types.length),.str x,.int p])).set (8,3,0) (.list (((List.range ps3.fwd.length).map fun i=>.ref (8,4,i)) ++ [.ref (8,4,ps3.nf.length)]))) (0,y,z) = _
    rw [H.set_ne _ _ tne,H.set_ne _ _ tne])
  walk_at "es"
  have F03:Fw t σ.hp h₃:=(F₁.trans F₂ (by omega)).trans F₃ (by omega)
  exact hh _ (t + 3 + 1) p (by omega) kn₃ n3 key.1 (((((F03.trans F₄ (by omega)).trans F₅ (by omega)).trans F₆ (by omega)).trans F₇ (by omega)).trans key.2 (by omega))
end
theorem nk_distinct (P:Params):nkB (KK P) "distinct" 790 = true:=by kernel_rfl
noncomputable def ddA:List Int → List Int → List Int
 | acc,[]=>acc
 | acc,x :: r=>if acc.getLast? = some x then ddA acc r else ddA (acc ++ [x]) r
section
variable {c:Cx} {σ:St}
theorem sp_distinct {ps:PS} {t:Nat} {rn:Nm} {xs:List Int} {Q:V → St → Prop} {k:Nat} (g:Good c) (rm:Rm c (k + 1)) (I:Is σ.hp ps t) (hr1:rn.1 = 0) (hr2:rn.2.1 < t) (er:σ.hp rn = some (.list (xs.map V.int))) (hz:xs.length ≤ 1000)
  (h:∀ h',Is h' ps (t + 1) → Fw t σ.hp h' → h' (0,t,0) = some (.list ((ddA [] xs).map V.int)) → Q (.ref (0,t,0)) ⟨σ.vars,h'⟩):mCall c 790 [.ref rn] Q σ:=by
 refine q_fun ["row"] [_] g rm (fun _=>dk1 rfl rfl) (hb1 fun _=>rfl) rfl fun B L=>?_
 intro c' QQ g' rm'
 obtain ⟨r1,r2,r3⟩:=rn
 have:r1 = 0:=hr1
 subst this
 have hr2' : r2 < t:=hr2
 walk_at "es"
 refine l_new (0,t,0) (I.free _ _ (Nat.le_refl _)) ?_
 walk_at "es"
 refine mS_for (0,t,1) (fun k τ=>∃ a acc,a + k = xs.length ∧ acc.length ≤ a ∧ ddA acc (xs.drop a) = ddA [] xs ∧ τ.vars "found" = some (.ref (0,t,0)) ∧ Is τ.hp ps (t + 1) ∧ Fw t σ.hp τ.hp ∧ τ.hp (0,t,0) = some (.list (acc.map V.int)) ∧ τ.hp (0,t,1) = some (.raw "list_iterator" [.v (.ref (0,r2,r3)),.ri (a:Nat)])) ?_ ?_ ?_
 ·walk_at "es"
  have er' : (σ.hp.set (0,t,0) (.list [])) (0,r2,r3) = some (.list (xs.map V.int)):=H.skip (h:=σ.hp) (by walk_at "ne") er
  refine it_list (0,t,1) er' (H.skip (h:=σ.hp) (by walk_at "ne") (I.free _ _ (Nat.le_refl _))) ⟨rfl,xs.length,0,[],by omega,by simp,rfl,rfl,(I.tmp (i:=0)).old (by omega),(Fw.tmp).set (by exact cl0),H.skip (h:=σ.hp.set _ _) (by walk_at "ne") (H.set_self _ _ _),H.set_self _ _ _⟩
 ·rintro k' ⟨vs,hp⟩ ⟨a,acc,_,_,_,_,_,_,_,e⟩
  show hp (0,t,1) ≠ none
  rw [show hp (0,t,1) = _ from e];simp
 ·intro J';rintro k' ⟨vs,hp⟩ ⟨a,acc,ha,hal,hdd,hfo,I',F',eF,e⟩
  have er' : hp (0,r2,r3) = some (.list (xs.map V.int)):=(F' r2 r3 hr2').trans er
  rcases Nat.eq_zero_or_pos k' with rfl | pos
  ·refine nx_listE g'.ok (i:=a) e er' (by simp;exact cb1 (eR ha)) ?_
   have ea:a = xs.length:=by exact ce1 ha
   subst ea
   rw [List.drop_length] at hdd
   walk_at "es"
   refine h _ (I'.old (by omega)) (F'.set (by exact cl0)) ?_
   rw [← hdd]
   exact H.skip (h:=hp) (by walk_at "ne") eF
  ·have lt:a < xs.length:=by exact cb2 (eL ha) pos
   refine nx_list (i:=a) (v:=.int xs[a]) (xs:=xs.map V.int) e er' (by simp [lt]) ?_
   refine as_name g'.ok ?_
   simp only [St.put]
   obtain ⟨h₃,hh⟩ : ∃ h₃,h₃ = hp.set (0,t,1) (.raw "list_iterator" [.v (.ref (0,r2,r3)),.ri (a + 1:Nat)]):=⟨_,rfl⟩
   have I₃:Is h₃ ps (t + 1):=hh ▸ I'.old (by omega)
   have F₃:Fw t σ.hp h₃:=hh ▸ F'.set (by exact cl0)
   have e3:h₃ (0,t,1) = some (.raw "list_iterator" [.v (.ref (0,r2,r3)),.ri (a + 1:Nat)]):=by rw [hh];exact H.set_self _ _ _
   have eF3:h₃ (0,t,0) = some (.list (acc.map V.int)):=by rw [hh];exact H.skip (h:=hp) (by walk_at "ne") eF
   rw [← hh]
   clear hh
   rw [List.drop_eq_getElem_cons lt] at hdd
   refine mB_cons (mS_if (tor2 (a:=decide (acc.length = 0)) (b:=decide (acc.getLast? ≠ some xs[a])) (fun Q h=>?_) (fun q Q h=>?_) ?_))
   ·refine mT_cmp (q_bi g' nb_len bb_len ?_)
    walk_at "es"
    refine MW1.toS (f_lenL eF3 ?_ (by simp;exact cb3 hz (eL ha) hal))
    walk_at "es"
    refine c_eq (t_bool ?_)
    rw [List.length_map]
    rw [show decide ((acc.length:Int) = 0) = decide (acc.length = 0) from by congr 1;exact propext (by omega)]
    exact h
   ·have hne:acc ≠ []:=by rintro rfl;simp at q
    have hl:0 < acc.length:=List.length_pos_iff.mpr hne
    refine mT_cmp ?_
    walk_at "es"
    refine u_neg ?_
    refine s_listN eF3 (by decide) (by simp;omega) (v:=.int (acc.getLast hne)) ?_ ?_ (by simp;exact cb3 hz (eL ha) hal)
    ·rw [List.length_map,show ((-1:Int) + (acc.length:Int)).toNat = acc.length - 1 from (congrArg Int.toNat (Int.add_comm _ _)).trans (Int.toNat_sub acc.length 1),List.getElem?_map,← List.getLast?_eq_getElem?,List.getLast?_eq_some_getLast hne];rfl
    walk_at "es"
    refine c_ne (t_bool ?_)
    rw [show (!decide (acc.getLast hne = xs[a])) = decide (acc.getLast? ≠ some xs[a]) from by
     rw [List.getLast?_eq_some_getLast hne]
     by_cases q:acc.getLast hne = xs[a] <;> simp [q]]
    exact h
   ·by_cases q:acc.getLast? = some xs[a]
    ·have hne:¬ acc.length = 0:=by
      intro hz
      have:acc = []:=List.length_eq_zero_iff.mp hz
      subst this;cases q
     rw [decide_eq_false hne,decide_eq_false (by simp [q])]
     show mB _ _ _ _
     refine mB_nil ?_
     walk_at "es"
     refine ⟨k' - 1,by omega,a + 1,acc,by omega,by omega,?_,hfo,I₃,F₃,eF3,e3⟩
     rw [← hdd]
     show _ = if acc.getLast? = some xs[a] then _ else _
     rw [if_pos q]
    ·rw [show decide (acc.getLast? ≠ some xs[a]) = true from decide_eq_true q,Bool.or_true]
     show mB _ _ _ _
     walk_at "es"
     refine mE_bm (mE_local g'.ok hfo ⟨_,meth_append eF3,?_⟩)
     walk_at "es"
     refine MW2.toS (l_append eF3 ?_ (by simp;exact cb3 hz (eL ha) hal))
     walk_at "es"
     refine ⟨k' - 1,by omega,a + 1,acc ++ [xs[a]],by omega,by simp;omega,?_,hfo,I₃.old (by omega),F₃.set (by exact cl0),?_,H.skip (h:=h₃) (by walk_at "ne") e3⟩
     ·rw [← hdd]
      show _ = if acc.getLast? = some xs[a] then _ else _
      rw [if_neg q]
     ·rw [List.map_append];exact H.set_self _ _ _
end
theorem nk_keywords (P:Params):nkB (KK P) "keywords" 1090 = true:=by kernel_rfl
section
variable {c:Cx} {σ:St}
theorem sp_ErrorList {Q:V → St → Prop} {k:Nat} (g:Good c) (rm:Rm c (k + 2)) (h0:σ.hp ER = none) (h1:σ.hp (6,1,0) = none) (h2:σ.hp (6,2,0) = none)
  (h:Q (.ref ER) ⟨σ.vars,((σ.hp.set (6,1,0) (.list [])).set (6,2,0) (.dict [])).set ER erO⟩):mCall c 1058 [] Q σ:=by
 refine q_new ER g rm h0 (mk_ErrorList _) (in_ErrorList _) (if_ErrorList _) fun c' g₁ rm₁ _=>?_
 refine q_fun ["self"] [_] g₁ rm₁ (fun _=>dk1 rfl rfl) (hb1 fun _=>rfl) rfl fun B L=>?_
 intro c' QQ g' rm'
 have n1:ER ≠ ((6,1,0):Nm):=by decide
 have n2:ER ≠ ((6,2,0):Nm):=by decide
 walk_at "es"
 refine l_new (6,1,0) h1 ?_
 simp only [St.put,H.set_set]
 rw [H.set_comm n1]
 walk_at "es"
 refine q_put g' rfl (by simp) ?_
 simp only [St.put,H.set_set]
 walk_at "es"
 have e2:((σ.hp.set (6,1,0) (.list [])).set ER (.inst 1058 (putF "rows" (.ref (6,1,0)) []))) (6,2,0) = none:=h2
 refine d_new (6,2,0) g'.ok e2 ?_
 simp only [St.put,H.set_set]
 rw [H.set_comm n2]
 walk_at "es"
 refine q_put g' rfl (by simp) ?_
 simp only [St.put,H.set_set]
 walk_at "es"
 exact ⟨rfl,h⟩
theorem sp_keywords {Q:V → St → Prop} {k:Nat} (g:Good c) (rm:Rm c (k + 1)) (h0:σ.hp WD = none) (h:Q (.ref WD) (σ.put WD (.tup (kwS.map V.str)))):mCall c 1090 [] Q σ:=by
 refine q_fun [] [] g rm (fun _=>dk1 rfl rfl) (hb0 rfl) rfl fun B L=>?_
 intro c' QQ g' rm'
 walk_at "es"
 refine t_new WD h0 ?_
 exact h
theorem sp_Scanner {src:List Nat} {er:V} {Q:V → St → Prop} {k:Nat} (g:Good c) (rm:Rm c (k + 3)) (h0:σ.hp SN = none) (h1:σ.hp WD = none)
  (h:Q (.ref SN) ⟨σ.vars,(σ.hp.set WD (.tup (kwS.map V.str))).set SN (scO src er 0 (.ref WD))⟩):mCall c 1227 [.str (tx src),er] Q σ:=by
 refine q_new SN g rm h0 (mk_Scanner _) (in_Scanner _) (if_Scanner _) fun c' g₁ rm₁ _=>?_
 refine q_fun ["self", "source", "errors"] [_,_,_] g₁ rm₁ (fun _=>dk1 rfl rfl) (hb3 fun _ _ _=>rfl) rfl fun B L=>?_
 intro c' QQ g' rm'
 have n1:SN ≠ WD:=by decide
 walk_at "es"
 refine q_put g' rfl (by simp) ?_
 walk_at "es"
 refine q_put g' rfl (by simp) ?_
 walk_at "es"
 refine q_put g' rfl (by simp) ?_
 simp only [St.put,H.set_set]
 walk_at "es"
 refine q_call0 g' nk_keywords ?_
 refine sp_keywords (k:=k) g' (rm'.less (by omega)) h1 ?_
 simp only [St.put,H.set_set]
 rw [H.set_comm n1]
 walk_at "es"
 refine q_put g' rfl (by simp) ?_
 simp only [St.put,H.set_set]
 walk_at "es"
 exact ⟨rfl,h⟩
theorem sp_Scope {i:Nat} {lv:Int} {Q:V → St → Prop} {k:Nat} (g:Good c) (rm:Rm c (k + 2)) (h0:∀ j,σ.hp (4,i,j) = none)
  (h:Q (.ref (4,i,0)) ⟨σ.vars,((σ.hp.set (4,i,1) (.dict [])).set (4,i,2) (.list [])).set (4,i,0) (scpO i ⟨lv,[]⟩)⟩):mCall c 1248 [.int lv,.str ""] Q σ:=by
 refine q_new (4,i,0) g rm (h0 0) (mk_Scope _) (in_Scope _) (if_Scope _) fun c' g₁ rm₁ _=>?_
 refine q_fun ["self", "level", "label"] [_,_,_] g₁ rm₁ (fun _=>dk1 rfl rfl) (hb3 fun _ _ _=>rfl) rfl fun B L=>?_
 intro c' QQ g' rm'
 have n1:((4,i,0):Nm) ≠ (4,i,1):=by simp
 have n2:((4,i,0):Nm) ≠ (4,i,2):=by simp
 walk_at "es"
 refine q_put g' (H.set_self _ _ _) (by simp) ?_
 walk_at "es"
 refine q_put g' (H.set_self _ _ _) (by simp) ?_
 simp only [St.put,H.set_set]
 walk_at "es"
 refine d_new (4,i,1) g'.ok (H.skip (h:=σ.hp) (Ne.symm n1) (h0 1)) ?_
 simp only [St.put,H.set_set]
 rw [H.set_comm n1]
 walk_at "es"
 refine q_put g' (H.set_self _ _ _) (by simp) ?_
 simp only [St.put,H.set_set]
 walk_at "es"
 refine l_new (4,i,2) (H.skip (h:=σ.hp.set _ _) (Ne.symm n2) (H.skip (h:=σ.hp) (by simp) (h0 2))) ?_
 simp only [St.put,H.set_set]
 rw [H.set_comm n2]
 walk_at "es"
 refine q_put g' (H.set_self _ _ _) (by simp) ?_
 walk_at "es"
 refine q_put g' (H.set_self _ _ _) (by simp) ?_
 simp only [St.put,H.set_set]
 walk_at "es"
 exact ⟨rfl,h⟩
end
theorem newTy_comm {h:H} {m:Nat} {r:TyR} {o:O}:newTy (h.set TY o) m r = (newTy h m r).set TY o:=by
 have n:∀ i:Nat,TY ≠ ((2,m,i):Nm):=fun i q=>by cases q
 unfold newTy
 rw [H.set_comm (n 1),H.set_comm (n 2),H.set_comm (n 3),H.set_comm (n 0)]
noncomputable def baseT:List TyR:=[⟨"boolean",1,.none,0,[],0, ""⟩,⟨"char",1,.none,0,[],0, ""⟩,⟨"byte",1,.none,0,[],0, ""⟩,⟨"integer",4,.none,0,[],0, ""⟩,⟨"set",4,.none,0,[],0, ""⟩,⟨"nil",4,.none,0,[],0, ""⟩,⟨"none",0,.none,0,[],0, ""⟩]
section
variable {c:Cx} {σ:St}
theorem sp_newB {Hm:H} {fs:List (Str × V)} {m:Nat} {form:Str} {size:Int} {vs:Str → Option V} {Q:V → St → Prop} {k:Nat} (g:Good c) (rm:Rm c (k + 3)) (hl:fs.length ≤ 500) (hc:getF "counter" fs = some (.int m)) (hn:∀ i,Hm (2,m,i) = none)
  (h:Q (.ref (tyN m)) ⟨vs,(newTy Hm m ⟨form,size,.none,0,[],0, ""⟩).set TY (.inst 864 (putF "counter" (.int (m + 1:Nat)) fs))⟩):mCall c 854 [.ref TY,.str form,.int size] Q ⟨vs,Hm.set TY (.inst 864 fs)⟩:=by
 refine sp_new2 (k:=k) (fs:=fs) (m:=m) g rm (H.set_self Hm TY _) hl hc (fun i=>?_) ?_
 ·show (Hm.set TY (.inst 864 fs)) (2,m,i) = none
  rw [H.set_ne _ _ (by walk_at "ne")];exact hn i
 ·simp only [H.set_set,newTy_comm]
  exact h
theorem sp_Types {Q:V → St → Prop} {k:Nat} (g:Good c) (rm:Rm c (k + 5)) (h0:σ.hp TY = none) (h1:σ.hp KN = none) (h2:∀ m i,σ.hp (2,m,i) = none)
  (h:Q (.ref TY) ⟨σ.vars,(newTy (newTy (newTy (newTy (newTy (newTy (newTy (σ.hp.set KN (.known [])) 0 ⟨"boolean",1,.none,0,[],0, ""⟩) 1 ⟨"char",1,.none,0,[],0, ""⟩) 2 ⟨"byte",1,.none,0,[],0, ""⟩) 3 ⟨"integer",4,.none,0,[],0, ""⟩) 4 ⟨"set",4,.none,0,[],0, ""⟩) 5 ⟨"nil",4,.none,0,[],0, ""⟩) 6 ⟨"none",0,.none,0,[],0, ""⟩).set TY (tysO 7)⟩):mCall c 864 [] Q σ:=by
 refine q_new TY g rm h0 (mk_Types _) (in_Types _) (if_Types _) fun c' g₁ rm₁ _=>?_
 refine q_fun ["self"] [_] g₁ rm₁ (fun _=>dk1 rfl rfl) (hb1 fun _=>rfl) rfl fun B L=>?_
 intro c' QQ g' rm'
 have n1:TY ≠ KN:=by decide
 have nk:∀ m i:Nat,((2,m,i):Nm) ≠ KN:=fun m i q=>by cases q
 walk_at "es"
 refine q_put g' rfl (by simp) ?_
 simp only [St.put,H.set_set]
 walk_at "es"
 refine k_new KN g'.ok h1 ?_
 simp only [St.put,H.set_set]
 rw [H.set_comm n1]
 walk_at "es"
 refine q_put g' rfl (by simp) ?_
 simp only [St.put,H.set_set]
 have fresh:∀ (Hm:H) (m i:Nat) (r:TyR) (m' : Nat),m' ≠ m → newTy Hm m r (2,m',i) = Hm (2,m',i):=fun Hm m i r m' q=>newTy_ne (.inr q)
 have f0:∀ m i:Nat,(σ.hp.set KN (.known [])) (2,m,i) = none:=fun m i=>H.skip (h:=σ.hp) (nk m i) (h2 m i)
 walk_at "es"
 refine q_meth 864 854 g' (me_Types_new _) (mE_local g'.ok rfl ⟨TY,_,rfl,rfl,rfl,?_⟩)
 walk_at "es"
 refine sp_newB (k:=k) (m:=0) g' (rm'.less (by omega)) (by exact Nat.le_of_ble_eq_true rfl) rfl (f0 0) ?_
 walk_at "es"
 refine q_put g' rfl (by simp) ?_
 simp only [St.put,H.set_set]
 walk_at "es"
 refine q_meth 864 854 g' (me_Types_new _) (mE_local g'.ok rfl ⟨TY,_,rfl,rfl,rfl,?_⟩)
 walk_at "es"
 refine sp_newB (k:=k) (m:=1) g' (rm'.less (by omega)) (by exact Nat.le_of_ble_eq_true rfl) rfl (fun i=>by rw [fresh _ 0 i _ 1 (by decide)];exact f0 1 i) ?_
 walk_at "es"
 refine q_put g' rfl (by simp) ?_
 simp only [St.put,H.set_set]
 walk_at "es"
 refine q_meth 864 854 g' (me_Types_new _) (mE_local g'.ok rfl ⟨TY,_,rfl,rfl,rfl,?_⟩)
 walk_at "es"
 refine sp_newB (k:=k) (m:=2) g' (rm'.less (by omega)) (by exact Nat.le_of_ble_eq_true rfl) rfl (fun i=>by rw [fresh _ 1 i _ 2 (by decide)];rw [fresh _ 0 i _ 2 (by decide)];exact f0 2 i) ?_
 walk_at "es"
 refine q_put g' rfl (by simp) ?_
 simp only [St.put,H.set_set]
 walk_at "es"
 refine q_meth 864 854 g' (me_Types_new _) (mE_local g'.ok rfl ⟨TY,_,rfl,rfl,rfl,?_⟩)
 walk_at "es"
 refine sp_newB (k:=k) (m:=3) g' (rm'.less (by omega)) (by exact Nat.le_of_ble_eq_true rfl) rfl (fun i=>by rw [fresh _ 2 i _ 3 (by decide)];rw [fresh _ 1 i _ 3 (by decide)];rw [fresh _ 0 i _ 3 (by decide)];exact f0 3 i) ?_
 walk_at "es"
 refine q_put g' rfl (by simp) ?_
 simp only [St.put,H.set_set]
 walk_at "es"
 refine q_meth 864 854 g' (me_Types_new _) (mE_local g'.ok rfl ⟨TY,_,rfl,rfl,rfl,?_⟩)
 walk_at "es"
 refine sp_newB (k:=k) (m:=4) g' (rm'.less (by omega)) (by exact Nat.le_of_ble_eq_true rfl) rfl (fun i=>by rw [fresh _ 3 i _ 4 (by decide)];rw [fresh _ 2 i _ 4 (by decide)];rw [fresh _ 1 i _ 4 (by decide)];rw [fresh _ 0 i _ 4 (by decide)];exact f0 4 i) ?_
 walk_at "es"
 refine q_put g' rfl (by simp) ?_
 simp only [St.put,H.set_set]
 walk_at "es"
 refine q_meth 864 854 g' (me_Types_new _) (mE_local g'.ok rfl ⟨TY,_,rfl,rfl,rfl,?_⟩)
 walk_at "es"
 refine sp_newB (k:=k) (m:=5) g' (rm'.less (by omega)) (by exact Nat.le_of_ble_eq_true rfl) rfl (fun i=>by rw [fresh _ 4 i _ 5 (by decide)];rw [fresh _ 3 i _ 5 (by decide)];rw [fresh _ 2 i _ 5 (by decide)];rw [fresh _ 1 i _ 5 (by decide)];rw [fresh _ 0 i _ 5 (by decide)];exact f0 5 i) ?_
 walk_at "es"
 refine q_put g' rfl (by simp) ?_
 simp only [St.put,H.set_set]
 walk_at "es"
 refine q_meth 864 854 g' (me_Types_new _) (mE_local g'.ok rfl ⟨TY,_,rfl,rfl,rfl,?_⟩)
 walk_at "es"
 refine sp_newB (k:=k) (m:=6) g' (rm'.less (by omega)) (by exact Nat.le_of_ble_eq_true rfl) rfl (fun i=>by rw [fresh _ 5 i _ 6 (by decide)];rw [fresh _ 4 i _ 6 (by decide)];rw [fresh _ 3 i _ 6 (by decide)];rw [fresh _ 2 i _ 6 (by decide)];rw [fresh _ 1 i _ 6 (by decide)];rw [fresh _ 0 i _ 6 (by decide)];exact f0 6 i) ?_
 walk_at "es"
 refine q_put g' rfl (by simp) ?_
 simp only [St.put,H.set_set]
 walk_at "es"
 exact ⟨rfl,h⟩
end
theorem nk_Scope (P:Params):nkB (KK P) "Scope" 1248 = true:=by kernel_rfl
section
variable {c:Cx} {σ:St}
theorem sp_Scopes {Q:V → St → Prop} {k:Nat} (g:Good c) (rm:Rm c (k + 4)) (h0:σ.hp SP = none) (h1:σ.hp (5,1,0) = none) (h4:∀ j,σ.hp (4,0,j) = none)
  (h:Q (.ref SP) ⟨σ.vars,((((σ.hp.set (4,0,1) (.dict [])).set (4,0,2) (.list [])).set (4,0,0) (scpO 0 ⟨-1,[]⟩)).set (5,1,0) (.list [.ref (4,0,0)])).set SP (spO (-1))⟩):mCall c 1311 [.ref TY,.str ""] Q σ:=by
 refine q_new SP g rm h0 (mk_Scopes _) (in_Scopes _) (if_Scopes _) fun c' g₁ rm₁ _=>?_
 refine q_fun ["self", "types", "module"] [_,_,_] g₁ rm₁ (fun _=>dk1 rfl rfl) (hb3 fun _ _ _=>rfl) rfl fun B L=>?_
 intro c' QQ g' rm'
 walk_at "es"
 refine q_put g' rfl (by simp) ?_
 simp only [St.put,H.set_set]
 walk_at "es"
 refine q_put g' rfl (by simp) ?_
 simp only [St.put,H.set_set]
 walk_at "es"
 refine q_call g' nk_Scope ?_
 walk_at "es"
 refine u_neg ?_
 walk_at "es"
 refine sp_Scope (i:=0) (k:=k) g' (rm'.less (by omega)) (fun j=>?_) ?_
 ·show (σ.hp.set SP (.inst 1311 (putF "module" (.str "") (putF "types" (.ref TY) [])))) (4,0,j) = none
  rw [H.set_ne _ _ (by walk_at "ne")];exact h4 j
 simp only [St.put,H.set_set]
 rw [H.set_comm (n:=SP) (n':=(4,0,1)) (by decide),H.set_comm (n:=SP) (n':=(4,0,2)) (by decide),H.set_comm (n:=SP) (n':=(4,0,0)) (by decide)]
 walk_at "es"
 refine l_new (5,1,0) h1 ?_ (by simp)
 simp only [St.put,H.set_set]
 rw [H.set_comm (n:=SP) (n':=(5,1,0)) (by decide)]
 walk_at "es"
 refine q_put g' rfl (by simp) ?_
 simp only [St.put,H.set_set]
 walk_at "es"
 refine u_neg ?_
 walk_at "es"
 refine q_put g' rfl (by simp) ?_
 simp only [St.put,H.set_set]
 walk_at "es"
 exact ⟨rfl,h⟩
end
theorem nk_record_type (P:Params):nkB (KK P) "record_type" 945 = true:=by kernel_rfl
theorem nk_std_functions (P:Params):nkB (KK P) "std_functions" 1322 = true:=by kernel_rfl
theorem nk_std_procedures (P:Params):nkB (KK P) "std_procedures" 1329 = true:=by kernel_rfl
noncomputable def stdF:List Str:=["ABS", "ODD", "LEN", "LSL", "ASR", "ROR", "ORD", "CHR"]
noncomputable def stdP:List Str:=["INC", "DEC", "INCL", "EXCL", "NEW", "ASSERT"]
section
variable {c:Cx} {σ:St}
theorem sp_type_of_ptr {ps:PS} {t:Nat} {lb:Str} {va:V} {Q:V → St → Prop} {k:Nat} (g:Good c) (rm:Rm c (k + 13)) (I:Is σ.hp ps t) (ht:ps.tok "POINTER" va)
  (h:∀ (c' : Cx) (vs:Str → Option V),Good c' → Rm c' (k + 12) → mCall c' 959 [.ref RD,.str lb] (fun v σ'=>Q v ⟨σ.vars,σ'.hp⟩) ⟨vs,σ.hp⟩):mCall c 903 [.ref RD,.str lb] Q σ:=by
 refine q_fun ["rd", "label"] [_,_] g rm (fun _=>dk1 rfl rfl) (hb2 fun _ _=>rfl) rfl fun B L=>?_
 intro c' QQ g' rm'
 walk_at "es"
 refine mS_if (mT_plain (q_meth 1403 1365 g' (me_Reader_at _) (mE_local g'.ok rfl ⟨RD,_,rfl,I.at rfl,rfl,?_⟩)))
 walk_at "es"
 refine sp_at (k:=k) g' (rm'.less (by omega)) I ht (t_bool (show mB _ _ _ _ from ?_))
 walk_at "es"
 refine mS_if (mT_plain (q_meth 1403 1365 g' (me_Reader_at _) (mE_local g'.ok rfl ⟨RD,_,rfl,I.at rfl,rfl,?_⟩)))
 walk_at "es"
 refine sp_at (k:=k) g' (rm'.less (by omega)) I ht (t_bool (show mB _ _ _ _ from ?_))
 walk_at "es"
 refine mS_if (mT_plain (q_meth 1403 1365 g' (me_Reader_at _) (mE_local g'.ok rfl ⟨RD,_,rfl,I.at rfl,rfl,?_⟩)))
 walk_at "es"
 refine sp_at (k:=k) g' (rm'.less (by omega)) I ht (t_bool (show mB _ _ _ _ from ?_))
 walk_at "es"
 refine q_call g' nk_pointer_type ?_
 walk_at "es"
 exact h _ _ g' rm'
theorem sp_type_of_rec {ps:PS} {t:Nat} {lb:Str} {va:V} {Q:V → St → Prop} {k:Nat} (g:Good c) (rm:Rm c (k + 13)) (I:Is σ.hp ps t) (ht:ps.tok "RECORD" va)
  (h:∀ (c' : Cx) (vs:Str → Option V),Good c' → Rm c' (k + 12) → mCall c' 945 [.ref RD,.str lb] (fun v σ'=>Q v ⟨σ.vars,σ'.hp⟩) ⟨vs,σ.hp⟩):mCall c 903 [.ref RD,.str lb] Q σ:=by
 refine q_fun ["rd", "label"] [_,_] g rm (fun _=>dk1 rfl rfl) (hb2 fun _ _=>rfl) rfl fun B L=>?_
 intro c' QQ g' rm'
 walk_at "es"
 refine mS_if (mT_plain (q_meth 1403 1365 g' (me_Reader_at _) (mE_local g'.ok rfl ⟨RD,_,rfl,I.at rfl,rfl,?_⟩)))
 walk_at "es"
 refine sp_at (k:=k) g' (rm'.less (by omega)) I ht (t_bool (show mB _ _ _ _ from ?_))
 walk_at "es"
 refine mS_if (mT_plain (q_meth 1403 1365 g' (me_Reader_at _) (mE_local g'.ok rfl ⟨RD,_,rfl,I.at rfl,rfl,?_⟩)))
 walk_at "es"
 refine sp_at (k:=k) g' (rm'.less (by omega)) I ht (t_bool (show mB _ _ _ _ from ?_))
 walk_at "es"
 refine q_call g' nk_record_type ?_
 walk_at "es"
 exact h _ _ g' rm'
theorem sp_std_functions {Q:V → St → Prop} {k:Nat} (n:Nm) (g:Good c) (rm:Rm c (k + 1)) (h0:σ.hp n = none) (h:Q (.ref n) (σ.put n (.tup (stdF.map V.str)))):mCall c 1322 [] Q σ:=by
 refine q_fun [] [] g rm (fun _=>dk1 rfl rfl) (hb0 rfl) rfl fun B L=>?_
 intro c' QQ g' rm'
 walk_at "es"
 refine t_new n h0 ?_
 exact h
theorem sp_std_procedures {Q:V → St → Prop} {k:Nat} (n:Nm) (g:Good c) (rm:Rm c (k + 1)) (h0:σ.hp n = none) (h:Q (.ref n) (σ.put n (.tup (stdP.map V.str)))):mCall c 1329 [] Q σ:=by
 refine q_fun [] [] g rm (fun _=>dk1 rfl rfl) (hb0 rfl) rfl fun B L=>?_
 intro c' QQ g' rm'
 walk_at "es"
 refine t_new n h0 ?_
 exact h
end
noncomputable def PS.opened (ps:PS):PS:={ ps with scs:=ps.scs ++ [⟨ps.lvl + 1,[]⟩],lvl:=ps.lvl + 1 }
theorem c4_open {l:List ScR} {v:Int}:ups (ups (ups (c4 l) l.length 1 (.dict [])) l.length 2 (.list [])) l.length 0 (scpO l.length ⟨v,[]⟩) = c4 (l ++ [⟨v,[]⟩]):=by
 have e:∀ y z,c4 (l ++ [⟨v,[]⟩]) y z = _:=col_at (fs:=fs4) (snoc_get l _)
 funext y z
 rw [e]
 show (if y = l.length ∧ z = 0 then _ else if y = l.length ∧ z = 2 then _ else if y = l.length ∧ z = 1 then _ else c4 l y z) = _
 by_cases q:y = l.length
 ·rw [if_pos q,q,show c4 l l.length z = none from col_none l fs4 z]
  match z with
  | 0=>exact if_pos ⟨rfl,rfl⟩
  | 1 | 2=>simp;rfl
  | z + 3=>simp;rfl
 ·rw [if_neg fun e=>q e.1,if_neg fun e=>q e.1,if_neg fun e=>q e.1,if_neg q];rfl
theorem spec_opened (ps:PS):spec ps.opened = (((((spec ps).set (4,ps.scs.length,1) (.dict [])).set (4,ps.scs.length,2) (.list [])).set (4,ps.scs.length,0) (scpO ps.scs.length ⟨ps.lvl + 1,[]⟩)).set (5,1,0) (.list (((List.range ps.scs.length).map fun i=>.ref (4,i,0)) ++ [.ref (4,ps.scs.length,0)]))).set SP (spO (ps.lvl + 1)):=by
 rw [show spec ps = hpA (arms ps) (dfl ps.L) from rfl,hp_set (a:=4) (f:=c4 ps.scs) rfl,hp_set (a:=4) rfl,hp_set (a:=4) rfl,hp_set (a:=5) (f:=c5 ps.lvl ps.scs.length) rfl,hp_set (a:=5) rfl,c4_open,
  show ups (ups (c5 ps.lvl ps.scs.length) 1 0 (.list (((List.range ps.scs.length).map fun i=>.ref (4,i,0)) ++ [.ref (4,ps.scs.length,0)]))) 0 0 (spO (ps.lvl + 1)) = c5 (ps.lvl + 1) (ps.scs ++ [(⟨ps.lvl + 1,[]⟩ : ScR)]).length from by
   rw [List.length_append,show ps.scs.length + [(⟨ps.lvl + 1,[]⟩ : ScR)].length = ps.scs.length + 1 from rfl]
   unfold c5
   rw [only_up (A:=[_,_]) (b:=1) rfl,List.range_succ,List.map_append]
   exact only_up (A:=[_,_]) (b:=0) rfl]
 rfl
section
variable {c:Cx} {σ:St}
theorem sp_open {ps:PS} {t:Nat} {Q:V → St → Prop} {k:Nat} (g:Good c) (rm:Rm c (k + 3)) (I:Is σ.hp ps t) (hl:ps.scs.length ≤ 1000)
  (h:∀ h',Is h' ps.opened t → Fw t σ.hp h' → Q (.ref (4,ps.scs.length,0)) ⟨σ.vars,h'⟩):mCall c 1273 [.ref SP,.str ""] Q σ:=by
 refine q_fun ["self", "label"] [_,_] g rm (fun _=>dk1 rfl rfl) (hb2 fun _ _=>rfl) rfl fun B L=>?_
 intro c' QQ g' rm'
 have h4:∀ j,σ.hp (4,ps.scs.length,j) = none:=fun j=>I.no (col_none ps.scs fs4 j)
 walk_at "es"
 refine q_call g' nk_Scope ?_
 walk_at "es"
 refine q_get g' (I.at (n:=SP) rfl) (by simp) rfl ?_
 walk_at "es"
 refine b_add ?_
 walk_at "es"
 refine sp_Scope (i:=ps.scs.length) (k:=k) g' (rm'.less (by omega)) h4 ?_
 obtain ⟨h₁,hh⟩ : ∃ h₁,h₁ = ((σ.hp.set (4,ps.scs.length,1) (.dict [])).set (4,ps.scs.length,2) (.list [])).set (4,ps.scs.length,0) (scpO ps.scs.length ⟨ps.lvl + 1,[]⟩):=⟨_,rfl⟩
 have e0:h₁ (4,ps.scs.length,0) = some (scpO ps.scs.length ⟨ps.lvl + 1,[]⟩):=by rw [hh];exact H.set_self _ _ _
 have e1:∀ x:Nm,x.1 ≠ 4 → h₁ x = σ.hp x:=fun x hx=>by
  rw [hh,H.set_ne _ _ (by rintro rfl;exact hx rfl),H.set_ne _ _ (by rintro rfl;exact hx rfl),H.set_ne _ _ (by rintro rfl;exact hx rfl)]
 have eS:h₁ (5,1,0) = some (.list ((List.range ps.scs.length).map fun i=>.ref (4,i,0))):=(e1 _ (by decide)).trans (I.at rfl)
 have eSP:h₁ SP = some (spO ps.lvl):=(e1 _ (by decide)).trans (I.at rfl)
 have key:=I.via (ps':=ps.opened) (fun H=>((((H.set (4,ps.scs.length,1) (.dict [])).set (4,ps.scs.length,2) (.list [])).set (4,ps.scs.length,0) (scpO ps.scs.length ⟨ps.lvl + 1,[]⟩)).set (5,1,0) (.list (((List.range ps.scs.length).map fun i=>.ref (4,i,0)) ++ [.ref (4,ps.scs.length,0)]))).set SP (spO (ps.lvl + 1))) (spec_opened ps)
   (fun a b q=>set_hf _ _ (set_hf _ _ (set_hf _ _ (set_hf _ _ (set_hf _ _ q)))))
   (fun a n hn=>by
    obtain ⟨x',y,z⟩:=n
    cases (show x' = 0 from hn)
    show (((((a.set (4,ps.scs.length,1) (.dict [])).set (4,ps.scs.length,2) (.list [])).set (4,ps.scs.length,0) (scpO ps.scs.length ⟨ps.lvl + 1,[]⟩)).set (5,1,0) (.list (((List.range ps.scs.length).map fun i=>.ref (4,i,0)) ++ [.ref (4,ps.scs.length,0)]))).set SP (spO (ps.lvl + 1))) (0,y,z) = _
    rw [H.set_ne _ _ tne,H.set_ne _ _ tne,H.set_ne _ _ tne,H.set_ne _ _ tne,H.set_ne _ _ tne])
 rw [← hh] at key ⊢
 walk_at "es"
 refine mE_bm (mE_attr (mE_local g'.ok rfl (q_get g' eSP (by simp) rfl ⟨_,meth_append eS,?_⟩)))
 walk_at "es"
 refine MW2.toS (l_append eS ?_ (by simp;omega))
 simp only [St.put]
 walk_at "es"
 refine q_get g' (n:=(4,ps.scs.length,0)) e0 (by simp) rfl ?_
 walk_at "es"
 refine q_put g' eSP (by simp) ?_
 walk_at "es"
 exact h _ key.1 key.2
end
theorem nk_pointer_offsets (P:Params):nkB (KK P) "pointer_offsets" 776 = true:=by kernel_rfl
section
variable {c:Cx} {σ:St}
theorem sp_po_flat {ps:PS} {t i:Nat} {tr:TyR} {Q:V → St → Prop} {k:Nat} (g:Good c) (rm:Rm c (k + 1)) (I:Is σ.hp ps t) (htr:ps.types[i]? = some tr) (hna:(tr.form == "array") = false) (hnr:(tr.form == "record") = false)
  (h:∀ h',Is h' ps (t + 1) → Fw t σ.hp h' → h' (0,t,0) = some (.list (if tr.form == "pointer" then [.int 0] else [])) → Q (.ref (0,t,0)) ⟨σ.vars,h'⟩):mCall c 776 [.ref (tyN i)] Q σ:=by
 refine q_fun ["t"] [_] g rm (fun _=>dk1 rfl rfl) (hb1 fun _=>rfl) rfl fun B L=>?_
 intro c' QQ g' rm'
 walk_at "es"
 refine mS_if ?_
 walk_at "es"
 refine q_get g' (I.ty htr) (by simp) rfl ?_
 walk_at "es"
 refine c_eqS (t_bool ?_)
 cases q:(tr.form == "pointer") with
 | true=>
  rw [q] at h
  show mB _ _ _ _
  walk_at "es"
  refine l_new (0,t,0) (I.free _ _ (Nat.le_refl _)) ?_ (by simp)
  exact h _ I.tmp Fw.tmp (H.set_self _ _ _)
 | false=>
  rw [q] at h
  show mB _ _ _ _
  walk_at "es"
  refine mS_if ?_
  walk_at "es"
  refine q_get g' (I.ty htr) (by simp) rfl ?_
  walk_at "es"
  refine c_eqS (t_bool ?_)
  rw [hna]
  show mB _ _ _ _
  walk_at "es"
  refine mS_if ?_
  walk_at "es"
  refine q_get g' (I.ty htr) (by simp) rfl ?_
  walk_at "es"
  refine c_eqS (t_bool ?_)
  rw [hnr]
  show mB _ _ _ _
  walk_at "es"
  refine l_new (0,t,0) (I.free _ _ (Nat.le_refl _)) ?_
  exact h _ I.tmp Fw.tmp (H.set_self _ _ _)
end
section
variable {c:Cx} {σ:St}
theorem ints_of {ρ:Nm → Addr} {h:H}:∀ {ys:List Int} {vs:List Value},Vals ρ h (ys.map V.int) vs → IntsAre vs ys
 | [],vs,q=>by cases q;exact .nil
 | y :: ys,vs,q=>by
  cases q with
  | cons a b=>obtain ⟨t,rfl⟩:=a;exact .cons _ _ (ints_of b)
theorem f_sorted (n:Nm) {l:Nm} {xs:List Int} {Q:V → St → Prop} (e:σ.hp l = some (.list (xs.map V.int))) (hl:xs.length < 64) (hn:σ.hp n = none)
  (h:∀ ys:List Int,ys.length = xs.length → ys.Perm xs → List.Pairwise (· ≤ ·) ys → Q (.ref n) (σ.put n (.list (ys.map V.int)))):MW1 c RVal (.ref l) (fun x=>call (.builtin "sorted") [x]) Q σ:=fun ρ δ news m s x R U=>by
 obtain ⟨vs,kk,a,b,d⟩:=seq_at R e
 rw [U.1]
 refine kso_sorted R.fr R.nw d (ints_of b) hl fun D vs' ns' cnt h' F' N' lo hi e1 e2 e3 _=>?_
 have X:Ext ρ δ σ.hp (setA ρ n D) (setA δ n 0) (σ.put n (.list (ns'.map V.int))).hp:=ext_new hn
 refine ⟨.ref n,σ.put n (.list (ns'.map V.int)),_,_,_,m,X,R.new (s':={ s with heap:=h' }) (more:=[(D,_)]) hn F' N' ?_ (fun p hp q hq=>?_) (fun x hx=>?_) ⟨vs',cnt,by rw [setA_self];exact .head _,int_vals hi⟩,⟨by rw [setA_self],put_self⟩,h ns' e1 e2 e3⟩
 ·exact List.nodup_cons.mpr ⟨fun e=>(nomatch e),List.nodup_nil⟩
 ·rw [List.mem_singleton.mp hp];exact lo q hq
 ·rw [List.mem_singleton.mp hx,setA_self];exact ⟨_,.head _⟩
theorem c_neL {a b:Nm} {xs ys:List Int} {Q:V → St → Prop} (room:c.A.units + 64 < cLine) (ea:σ.hp a = some (.list (xs.map V.int))) (eb:σ.hp b = some (.list (ys.map V.int))) (h:Q (.bool (!decide (xs = ys))) σ):MW2 c RVal (.ref a) (.ref b) (compareOp .NotEq) Q σ:=fun ρ δ news m s x y R U W=>by
 obtain ⟨vs,kk,ha,va,da⟩:=seq_at R ea
 obtain ⟨us,ll,hb,vb,db⟩:=seq_at R eb
 rw [U.1,W.1]
 exact ne_intsK da (ints_of va) db (ints_of vb) room (Post.now (RV:=RVal) (b:=.bool _) R rfl h)
end
theorem nk_resolve_forwards (P:Params):nkB (KK P) "resolve_forwards" 966 = true:=by kernel_rfl
inductive RF:PS → List (V × Str × Int) → PS → Prop
 | nil {ps:PS}:RF ps [] ps
 | cons {ps ps' : PS} {i j kk:Nat} {x:Str} {p:Int} {r tr:TyR} {ob:ObR} {l:List (V × Str × Int)}:ps.find x = some kk → ps.objs[kk]? = some ob → ob.kind = "type" → ob.type = .ref (tyN j) → ps.types[j]? = some tr → tr.form = "record" →
   ps.types[i]? = some r → RF (ps.setT i { r with base:=.ref (tyN j) }) l ps' → RF ps ((.ref (tyN i),x,p) :: l) ps'
theorem spec_fwd0 (ps:PS):spec { ps with fwd:=[] } = (spec ps).set (8,3,0) (.list []):=by
 rw [show spec ps = hpA (arms ps) (dfl ps.L) from rfl,hp_set (a:=8) (f:=c8 ps.cur ps.recs ps.fwd.length ps.nf) rfl,show ups (c8 ps.cur ps.recs ps.fwd.length ps.nf) _ _ _ = c8 ps.cur ps.recs 0 ps.nf from only_up (A:=[_,_,_,_,_]) (b:=3) rfl]
 rfl
section
variable {c:Cx} {σ:St}
theorem sp_resolve_forwards {ps ps' : PS} {t:Nat} {Q:V → St → Prop} {k:Nat} (g:Good c) (rm:Rm c (k + 3)) (I:Is σ.hp ps t) (hfn:ps.fwd = ps.nf) (hl:ps.fwd.length ≤ 1000) (rf:RF ps ps.fwd ps')
  (h:∀ h' t',t ≤ t' → Is h' { ps' with fwd:=[] } t' → Fw t σ.hp h' → Q .none ⟨σ.vars,h'⟩):mCall c 966 [.ref RD] Q σ:=by
 refine q_fun ["rd"] [_] g rm (fun _=>dk1 rfl rfl) (hb1 fun _=>rfl) rfl fun B L=>?_
 intro c' QQ g' rm'
 walk_at "es"
 refine mS_forT (0,t,0) (fun k' τ=>∃ j ps1 t1,k' + j = ps.fwd.length ∧ RF ps1 (ps.fwd.drop j) ps' ∧ t + 1 ≤ t1 ∧ Is τ.hp ps1 t1 ∧ Fw t σ.hp τ.hp ∧ ps1.fwd = ps.fwd ∧ ps1.nf = ps.nf ∧ τ.vars "rd" = some (.ref RD) ∧ τ.hp (0,t,0) = some (.raw "list_iterator" [.v (.ref (8,3,0)),.ri (j:Nat)])) ?_ ?_ ?_
 ·walk_at "es"
  refine q_get g' (I.at (n:=RD) rfl) (by simp) rfl ?_
  refine it_list (0,t,0) (I.at (n:=(8,3,0)) rfl) (I.free _ _ (Nat.le_refl _)) ⟨rfl,ps.fwd.length,0,ps,t + 1,rfl,rf,Nat.le_refl _,I.tmp,Fw.tmp,rfl,rfl,rfl,H.set_self _ _ _⟩
 ·rintro k' ⟨vs,hp⟩ ⟨j,ps1,t1,_,_,_,_,_,_,_,_,e⟩
  rw [show (⟨vs,hp⟩ : St).hp (0,t,0) = _ from e];simp
 ·intro J';rintro k' ⟨vs,hp⟩ ⟨j,ps1,t1,hk,hrf,hlt,I1,F1,ef,en,hrd,e⟩
  have el:hp (8,3,0) = some (.list ((List.range ps1.fwd.length).map fun i=>.ref (8,4,i))):=I1.at rfl
  rcases Nat.lt_or_ge j ps.fwd.length with hj | hj
  ·refine nx_list (i:=j) (v:=.ref (8,4,j)) (l:=(8,3,0)) e el (by simp [ef,hj]) ⟨⟨_,_,_,rfl,H.set_self _ _ _⟩,?_⟩
   have edrop:ps.fwd.drop j = ps.fwd[j] :: ps.fwd.drop (j + 1):=List.drop_eq_getElem_cons hj
   rw [edrop] at hrf
   obtain ⟨fj,hfj⟩ : ∃ fj,fj = ps.fwd[j]:=⟨_,rfl⟩
   rw [← hfj] at hrf
   cases hrf with
   | @cons _ _ i j' kk x p r tr ob _ h1 h2 h3 h4 h5 h6 h7 h8=>
   have etup:hp (8,4,j) = some (.tup [.ref (tyN i),.str x,.int p]):=I1.at (by
    show Option.map _ (ps1.nf[j]?) = _
    rw [en,← hfn,List.getElem?_eq_getElem hj,← hfj];rfl)
   simp only [St.put]
   obtain ⟨h₂,hh⟩ : ∃ h₂,h₂ = hp.set (0,t,0) (.raw "list_iterator" [.v (.ref (8,3,0)),.ri (j + 1:Nat)]):=⟨_,rfl⟩
   have I2:Is h₂ ps1 t1:=hh ▸ I1.old (by omega)
   have F2:Fw t hp h₂:=hh ▸ (fun u k hu=>H.set_ne _ _ (by walk_at "ne"))
   have e2:h₂ (0,t,0) = some (.raw "list_iterator" [.v (.ref (8,3,0)),.ri (j + 1:Nat)]):=hh ▸ H.set_self _ _ _
   have etup2:h₂ (8,4,j) = some (.tup [.ref (tyN i),.str x,.int p]):=by rw [hh];exact H.skip (h:=hp) (by walk_at "ne") etup
   rw [← hh]
   clear hh
   refine as_tup g'.ok etup2 rfl ?_
   refine ao_cons (as_name g'.ok ?_)
   refine ao_cons (as_name g'.ok ?_)
   refine ao_cons (as_name g'.ok ?_)
   refine ao_nil ?_
   walk_at "es"
   refine q_meth 1311 1308 g' (me_Scopes_find _) (mE_attr (mE_local g'.ok hrd (q_get g' (I2.at (n:=RD) rfl) (by simp) rfl ⟨SP,_,rfl,I2.at rfl,rfl,?_⟩)))
   walk_at "es"
   refine sp_find (k:=k) g' (rm'.less (by omega)) I2 fun h₃ I3 F3=>?_
   rw [h1]
   walk_at "es"
   refine mS_if ?_
   walk_at "es"
   refine c_isR (t_bool (show mB _ _ _ _ from ?_))
   walk_at "es"
   refine mS_if ?_
   walk_at "es"
   refine q_get g' (I3.ob h2) (by simp) rfl ?_
   walk_at "es"
   refine c_neS (t_bool ?_)
   rw [h3]
   show mB _ _ _ _
   walk_at "es"
   refine mS_if ?_
   walk_at "es"
   refine q_get g' (I3.ob h2) (by simp) rfl ?_ (by rw [h4];rfl)
   rw [h4]
   refine q_get g' (I3.ty h5) (by simp) rfl ?_
   walk_at "es"
   refine c_neS (t_bool ?_)
   rw [h6]
   show mB _ _ _ _
   walk_at "es"
   refine q_get g' (I3.ob h2) (by simp) rfl ?_ (by rw [h4];rfl)
   rw [h4]
   walk_at "es"
   refine q_tyS { r with base:=.ref (tyN j') } g' I3 h7 (by simp) rfl rfl fun h₄ I4 F4=>?_
   walk_at "es"
   refine ⟨k' - 1,by exact lr2 hk hj,j + 1,_,_,by exact lr1 hk hj,h8,?_,I4,?_,ef,en,hrd,?_⟩
   ·omega
   ·exact ((F1.trans F2 (by exact cl0)).trans F3 (by omega)).trans F4 (by omega)
   ·exact (F4 t 0 (by exact cb1 hlt)).trans ((F3 t 0 (by omega)).trans e2)
  ·refine nx_listE g'.ok (i:=j) (l:=(8,3,0)) e el (by simp [ef];omega) ?_
   have edrop:ps.fwd.drop j = []:=List.drop_eq_nil_of_le hj
   rw [edrop] at hrf
   cases hrf
   walk_at "es"
   simp only [St.put]
   have I2:Is (hp.set (0,t,0) .dead) ps' t1:=I1.old (by omega)
   have F2:Fw t hp (hp.set (0,t,0) .dead):=fun u k hu=>H.set_ne _ _ (by walk_at "ne")
   refine mS_delAll (mE_attr (mE_local g'.ok hrd (q_get g' (I2.at (n:=RD) rfl) (by simp) rfl ⟨(8,3,0),(List.range ps'.fwd.length).map fun i=>.ref (8,4,i),rfl,I2.at (n:=(8,3,0)) rfl,by rw [List.length_map,List.length_range,ef];exact hl,?_⟩)))
   walk_at "es"
   have key:=I2.set1 (Nat.succ_ne_zero _) (spec_fwd0 ps')
   exact h _ t1 (by omega) key.1 ((F1.trans F2 (by exact cl0)).trans key.2 (by omega))
end
noncomputable def BaseOf (k:Nat) (ps:PS) (R:Nat) (PB:PS → Prop):Prop:=
 ∀ (c:Cx) (σ:St) (t:Nat) (Q:V → St → Prop),Good c → Rm c (k + 14) → Is σ.hp ps t → (∀ h' t' psb,t ≤ t' → PB psb → Is h' psb t' → Fw t σ.hp h' → Q .none ⟨σ.vars,h'⟩) → mCall c 924 [.ref RD,.ref (tyN R)] Q σ
noncomputable abbrev fldO (x:Str) (ti:Nat) (p:Int):ObR:=⟨x, "field",.ref (tyN ti),p,false,0,.none,0⟩
noncomputable def FL (k R:Nat) (lb:Str) (P:PS → TyR → Prop):List Str → PS → TyR → Prop
 | [],ps,r=>(∃ v,ps.tok "END" v) ∧ P ps r
 | x :: l,ps,r=>∃ ps1 ps2 v1 k2 v2 PT n,ps.tok "ident" (.str x) ∧ ps.Next ":" v1 ps1 ∧ ps1.Next k2 v2 ps2 ∧ TypeOf k ps2 (lb ++ "." ++ x) PT ∧ lb.length + 1 + x.length ≤ 1000 ∧
   (∀ psT ti,PT psT ti → psT.Ok ∧ psT.types[R]? = some r ∧ NoF psT x (.ref (tyN R)) n ∧ (∃ p,spec psT (tkN ps.cur) = some (tokO (.str "ident") (.str x) (.int p))) ∧ r.fields.length ≤ 1000) ∧
   ∀ psT ti p,PT psT ti → (∃ v,((psT.newO (fldO x ti p)).setT R { r with fields:=r.fields ++ [.ref (obN psT.objs.length)] }).tok ";" v) ∧
    ∃ k3 v3 ps3,((psT.newO (fldO x ti p)).setT R { r with fields:=r.fields ++ [.ref (obN psT.objs.length)] }).Next k3 v3 ps3 ∧ FL k R lb P l ps3 { r with fields:=r.fields ++ [.ref (obN psT.objs.length)] }
theorem FL.tok {k R:Nat} {lb:Str} {P:PS → TyR → Prop} {l:List Str} {ps:PS} {r:TyR} (h:FL k R lb P l ps r):∃ kk v,ps.tok kk v ∧ (kk == "ident") = !l.isEmpty:=by
 cases l with
 | nil=>obtain ⟨⟨v,h⟩,_⟩:=h;exact ⟨_,_,h,rfl⟩
 | cons x l=>obtain ⟨ps1,ps2,v1,k2,v2,PT,n,h,_⟩:=h;exact ⟨_,_,h,rfl⟩
section
variable {c:Cx} {σ:St}
theorem sp_record_type {ps ps0:PS} {t:Nat} {k0 lb:Str} {va v0:V} {PF:PS → Prop} {P' : PS → TyR → Prop} {Q:V → St → Prop} {k:Nat} (g:Good c) (rm:Rm c (k + 16)) (I:Is σ.hp ps t) (ok:ps.Ok) (ht:ps.tok "RECORD" va) (n0:ps.Next k0 v0 ps0)
  (kn:ps0.Kn) (hkl:ps0.keys.length ≤ 1000) (hlb:(lb != "") = true) (hrl:ps0.recs.length ≤ 1000)
  (hbase:∀ ks',(ps0.newT ⟨"record",0,.none,0,[],0,lb⟩ ks').Kn → ∃ PB,BaseOf k ((ps0.newT ⟨"record",0,.none,0,[],0,lb⟩ ks').recd (.ref (tyN ps0.types.length))) ps0.types.length PB ∧
   ∀ psb,PB psb → ∃ rb l,psb.Ok ∧ psb.types[ps0.types.length]? = some rb ∧ FL k ps0.types.length lb P' l psb rb)
  (hP:∀ ps3 r,P' ps3 r → ps3.types[ps0.types.length]? = some r ∧ ∃ k5 v5 ps5 psB ps6 off0 off' r1,ps3.Next k5 v5 ps5 ∧
   ((r.base = .none ∧ r1 = { r with level:=0 } ∧ psB = ps5.setT ps0.types.length r1 ∧ off0 = 0) ∨ (∃ bI br,r.base = .ref (tyN bI) ∧ bI ≠ ps0.types.length ∧ ps5.types[bI]? = some br ∧ r1 = { r with level:=br.level + 1 } ∧ psB = (ps5.setT ps0.types.length { r with level:=0 }).setT ps0.types.length r1 ∧ off0 = br.size)) ∧
   Pl psB off0 r.fields ps6 off' ∧ off' ≤ 16000 ∧ ps6.types[ps0.types.length]? ≠ none ∧ PF (ps6.setT ps0.types.length { r1 with size:=(if (off' + 3).fdiv 4 * 4 > 4 then (off' + 3).fdiv 4 * 4 else 4) }))
  (h:∀ h' t' psF,t ≤ t' → PF psF → Is h' psF t' → Fw t σ.hp h' → Q (.ref (tyN ps0.types.length)) ⟨σ.vars,h'⟩):mCall c 945 [.ref RD,.str lb] Q σ:=by
 refine q_fun ["rd", "label"] [_,_] g rm (fun _=>dk1 rfl rfl) (hb2 fun _ _=>rfl) rfl fun B L=>?_
 intro c' QQ g' rm'
 walk_at "es"
 refine q_meth0 1403 1358 g' (me_Reader_step _) (mE_local g'.ok rfl ⟨RD,_,rfl,I.at rfl,rfl,?_⟩)
 refine sp_step (k:=k) g' (rm'.less (by omega)) I ok n0 fun h₁ I₁ F₁=>?_
 have ok1:=n0.ok ok
 obtain ⟨p,eT⟩:=n0.old ok ht I₁
 refine q_get g' eT (by simp) rfl ?_
 walk_at "es"
 refine q_meth 864 854 g' (me_Types_new _) (mE_attr (mE_local g'.ok rfl (q_get g' (I₁.at (n:=RD) rfl) (by simp) rfl ⟨TY,_,rfl,I₁.at (n:=TY) rfl,rfl,?_⟩)))
 walk_at "es"
 refine q_get g' (I₁.at (n:=RD) rfl) (by simp) rfl ?_
 walk_at "es"
 refine sp_newT (k:=k) g' (rm'.less (by omega)) I₁ kn hkl hlb fun h₂ ks' I₂ kn₂ F₂=>?_
 obtain ⟨PB,hB,hPB⟩:=hbase ks' kn₂
 obtain ⟨R,hR⟩ : ∃ R,R = ps0.types.length:=⟨_,rfl⟩
 rw [← hR] at hB hPB hP h ⊢
 walk_at "es"
 refine mE_bm (mE_attr (mE_local g'.ok rfl (q_get g' (I₂.at (n:=RD) rfl) (by simp) rfl ⟨_,meth_append (I₂.at (n:=(8,2,0)) rfl),?_⟩)))
 walk_at "es"
 refine MW2.toS (q_rec I₂ hrl fun h₃ I₃ F₃=>?_)
 walk_at "es"
 refine q_call g' nk_base_type ?_
 walk_at "es"
 refine hB _ _ _ _ g' (rm'.less (by omega)) I₃ fun h₄ t₄ psb l₄ hpb I₄ F₄=>?_
 obtain ⟨rb,l,okb,hrb,fl⟩:=hPB psb hpb
 have F04:Fw t σ.hp h₄:=((F₁.trans F₂ (by omega)).trans F₃ (by omega)).trans F₄ (by omega)
 walk_at "es"
 refine q_meth 1403 1365 g' (me_Reader_at _) (mE_local g'.ok rfl ⟨RD,_,rfl,I₄.at rfl,rfl,?_⟩)
 walk_at "es"
 obtain ⟨kk,v,htk,hkk⟩:=fl.tok
 refine sp_at (k:=k) g' (rm'.less (by omega)) I₄ htk ?_
 rw [hkk]
 walk_at "es"
 refine mS_while (fun n τ=>∃ l psb rb t₄,n = l.length ∧ t ≤ t₄ ∧ psb.Ok ∧ psb.types[R]? = some rb ∧ FL k R lb P' l psb rb ∧ Is τ.hp psb t₄ ∧ Fw t σ.hp τ.hp ∧ τ.vars "rd" = some (.ref RD) ∧ τ.vars "label" = some (.str lb) ∧ τ.vars "made" = some (.ref (tyN R)) ∧ τ.vars "going" = some (.bool (!l.isEmpty))) l.length ⟨l,psb,rb,t₄,rfl,by omega,okb,hrb,fl,I₄,F04,rfl,rfl,rfl,rfl⟩ ?_
 intro J';rintro n ⟨vs,hp⟩ ⟨l,psb,rb,t₄,rfl,lt,okb,hrb,fl,I₄,F04,hrd,hlb',hmd,hgo⟩
 refine mT_plain (mE_local g'.ok hgo (t_bool ?_))
 cases l with
 | nil=>
  obtain ⟨⟨v,ht⟩,hp3⟩:=fl
  obtain ⟨hr3,k5,v5,ps5,psB,ps6,off0,off',r1,n5,hB5,hpl,hoff,hex,hpf⟩:=hP _ _ hp3
  show mB _ _ _ _
  walk_at "es"
  refine q_meth 1403 1379 g' (me_Reader_expect _) (mE_local g'.ok hrd ⟨RD,_,rfl,I₄.at rfl,rfl,?_⟩)
  walk_at "es"
  refine sp_expect (k:=k) g' (rm'.less (by omega)) I₄ okb ht n5 fun h₅ I₅ F₅=>?_
  have hr5:ps5.types[R]? = some rb:=by
   rw [n5.types];exact hrb
  rw [hr3] at hrb
  cases hrb
  walk_at "es"
  refine q_call g' nk_place_fields ?_
  walk_at "es"
  refine sp_place_fields (k:=k) g' (rm'.less (by omega)) I₅ hr5 hB5 hpl fun h₆ t₆ l₆ I₆ F₆=>?_
  obtain ⟨rz,hrz⟩ : ∃ rz,ps6.types[R]? = some rz:=by
   cases q:ps6.types[R]? with
   | none=>exact absurd q hex
   | some r=>exact ⟨r,rfl⟩
  have e6:=setT_get (r:={ r1 with size:=(if (off' + 3).fdiv 4 * 4 > 4 then (off' + 3).fdiv 4 * 4 else 4) }) hrz
  walk_at "es"
  refine mS_if ?_
  walk_at "es"
  refine q_get g' (I₆.ty e6) (by simp) rfl ?_
  walk_at "es"
  refine q_gint g' ns_MOST_BYTES ?_
  refine c_gt (t_bool ?_)
  rw [decide_eq_false (by
   have a1:(off' + 3).fdiv 4 * 4 ≤ off' + 3:=by rw [Int.fdiv_eq_ediv_of_nonneg _ (by omega)];omega
   simp only
   split <;> omega)]
  show mB _ _ _ _
  walk_at "es"
  exact h _ t₆ _ (by exact cb2 lt l₆) hpf I₆ ((F04.trans F₅ (by omega)).trans F₆ (by omega))
 | cons x l=>
  obtain ⟨ps1,ps2,v1,k2,v2,PT,nn,ht,n1,n2,hT,hll,hPT,hnext⟩:=fl
  show mB _ _ _ _
  walk_at "es"
  refine q_call g' nk_field_list ?_
  walk_at "es"
  refine sp_field_list (k:=k) g' (rm'.less (by omega)) I₄ okb ht n1 n2 hT hll (fun psT ti hpt=>(hPT psT ti hpt).2) fun h₅ t₅ psT ti p l₅ hpt I₅ F₅=>?_
  obtain ⟨okT,hRT,_⟩:=hPT psT ti hpt
  obtain ⟨⟨v,htk⟩,k3,v3,ps3,n3,fl'⟩:=hnext psT ti p hpt
  have ok5:((psT.newO (fldO x ti p)).setT R { rb with fields:=rb.fields ++ [.ref (obN psT.objs.length)] }).Ok:=⟨okT.small,okT.cur⟩
  have ok3:=n3.ok ok5
  have hr3:ps3.types[R]? = some { rb with fields:=rb.fields ++ [.ref (obN psT.objs.length)] }:=by
   rw [n3.types]
   exact setT_get (ps:=psT.newO (fldO x ti p)) hRT
  obtain ⟨kk',v',htk',hkk'⟩:=fl'.tok
  walk_at "es"
  refine mE_and (q_meth 1403 1372 g' (me_Reader_skip _) (mE_local g'.ok hrd ⟨RD,_,rfl,I₅.at rfl,rfl,?_⟩))
  walk_at "es"
  refine sp_rskip (k:=k) g' (rm'.less (by omega)) I₅ ok5 htk (fun _=>n3) (fun e=>absurd rfl e) fun _ h₆ I₆ F₆=>?_
  refine t_bool ?_
  refine mE_and1 (q_meth 1403 1365 g' (me_Reader_at _) (mE_local g'.ok hrd ⟨RD,_,rfl,I₆.at rfl,rfl,?_⟩))
  walk_at "es"
  refine sp_at (k:=k) g' (rm'.less (by omega)) I₆ htk' ?_
  rw [hkk']
  walk_at "es"
  exact ⟨l.length,Nat.lt_succ_self _,l,ps3,_,t₅ + 1,rfl,by omega,ok3,hr3,fl',I₆,(F04.trans F₅ (by omega)).trans F₆ (by omega),hrd,hlb',hmd,rfl⟩
end
noncomputable abbrev decO (ps:PS) (x:Str) (p:Int):ObR:=⟨x, "type",.ref (tyN 6),p,false,lvl0 ps.lvl,.none,0⟩
noncomputable def TD (k:Nat) (lb:Str) (P:PS → Prop):List Str → PS → Prop
 | [],ps=>(∃ kk v,ps.tok kk v ∧ (kk == "ident") = false) ∧ P ps
 | x :: l,ps=>ps.tok "ident" (.str x) ∧ ∃ v1 ps1 S r,ps.Next "=" v1 ps1 ∧ ps1.scs = S ++ [r] ∧ S.length ≤ 1000 ∧ lookN x r.names = none ∧ r.names.length ≤ 1000 ∧ lb.length + x.length ≤ 1000 ∧
   ∀ p,∃ k2 v2 ps2 PT,(ps1.ent S r (decO ps1 x p)).Next k2 v2 ps2 ∧ TypeOf k ps2 (lb ++ x) PT ∧
    ∀ psT ti,PT psT ti → psT.Ok ∧ psT.objs[ps1.objs.length]? = some (decO ps1 x p) ∧ (∃ v,(psT.setO ps1.objs.length { decO ps1 x p with type:=.ref (tyN ti) }).tok ";" v) ∧
     ∃ k3 v3 ps3,(psT.setO ps1.objs.length { decO ps1 x p with type:=.ref (tyN ti) }).Next k3 v3 ps3 ∧ TD k lb P l ps3
theorem TD.tok {k:Nat} {lb:Str} {P:PS → Prop} {l:List Str} {ps:PS} (h:TD k lb P l ps):∃ kk v,ps.tok kk v ∧ (kk == "ident") = !l.isEmpty:=by
 cases l with
 | nil=>obtain ⟨⟨kk,v,h,e⟩,_⟩:=h;exact ⟨_,_,h,e⟩
 | cons x l=>exact ⟨_,_,h.1,rfl⟩
section
variable {c:Cx} {σ:St}
theorem sp_type_declarations {ps ps0:PS} {t:Nat} {lb:Str} {l:List Str} {P PF:PS → Prop} {Q:V → St → Prop} {k:Nat} (g:Good c) (rm:Rm c (k + 16)) (I:Is σ.hp ps t) (ok:ps.Ok) (td:TD k lb P l ps)
  (hP:∀ ps,P ps → ps.fwd = ps.nf ∧ ps.fwd.length ≤ 1000 ∧ ∃ ps',RF ps ps.fwd ps' ∧ PF { ps' with fwd:=[] })
  (h:∀ h' t' psF,t ≤ t' → PF psF → Is h' psF t' → Fw t σ.hp h' → Q .none ⟨σ.vars,h'⟩):mCall c 1020 [.ref RD,.str lb] Q σ:=by
 refine q_fun ["rd", "label"] [_,_] g rm (fun _=>dk1 rfl rfl) (hb2 fun _ _=>rfl) rfl fun B L=>?_
 intro c' QQ g' rm'
 walk_at "es"
 refine mS_while (fun n τ=>∃ l ps t₁,n = l.length ∧ t ≤ t₁ ∧ ps.Ok ∧ TD k lb P l ps ∧ Is τ.hp ps t₁ ∧ Fw t σ.hp τ.hp ∧ τ.vars "rd" = some (.ref RD) ∧ τ.vars "label" = some (.str lb)) l.length ⟨l,ps,t,rfl,Nat.le_refl _,ok,td,I,Fw.refl _ _,rfl,rfl⟩ ?_
 intro J';rintro n ⟨vs,hp⟩ ⟨l,ps,t₁,rfl,lt,ok,td,I₁,F₁,hrd,hlb⟩
 obtain ⟨kk,v,htk,hkk⟩:=td.tok
 refine mT_plain (q_meth 1403 1365 g' (me_Reader_at _) (mE_local g'.ok hrd ⟨RD,_,rfl,I₁.at rfl,rfl,?_⟩))
 walk_at "es"
 refine sp_at (k:=k) g' (rm'.less (by omega)) I₁ htk (t_bool ?_)
 rw [hkk]
 cases l with
 | nil=>
  obtain ⟨_,hp⟩:=td
  obtain ⟨hf,hl,ps',rf,pf⟩:=hP _ hp
  show mB _ _ _ _
  walk_at "es"
  refine q_call g' nk_resolve_forwards ?_
  walk_at "es"
  refine sp_resolve_forwards (k:=k) g' (rm'.less (by omega)) I₁ hf hl rf fun h₂ t₂ l₂ I₂ F₂=>?_
  walk_at "es"
  exact h _ t₂ _ (by omega) pf I₂ (F₁.trans F₂ (by omega))
 | cons x l=>
  obtain ⟨ht,v1,ps1,S,r,n1,hS,hSl,hnew,hnl,hll,hty⟩:=td
  show mB _ _ _ _
  walk_at "es"
  refine q_meth0 1403 1358 g' (me_Reader_step _) (mE_local g'.ok hrd ⟨RD,_,rfl,I₁.at rfl,rfl,?_⟩)
  refine sp_step (k:=k) g' (rm'.less (by omega)) I₁ ok n1 fun h₂ I₂ F₂=>?_
  have ok1:=n1.ok ok
  obtain ⟨p,eT⟩:=n1.old ok ht I₂
  walk_at "es"
  refine q_call g' nk_export_mark ?_
  walk_at "es"
  refine sp_export_mark (k:=k) g' (rm'.less (by omega)) I₂ n1.tok rfl ?_
  walk_at "es"
  refine q_call g' nk_entered ?_
  walk_at "es"
  refine q_get g' (I₂.at (n:=RD) rfl) (by simp) rfl ?_
  refine q_get g' (I₂.at (n:=TY) rfl) (by simp) rfl ?_
  walk_at "es"
  refine sp_entered (k:=k) g' (rm'.less (by omega)) I₂ hS hSl eT hnew hnl rfl rfl fun h₃ I₃ F₃=>?_
  have eT3:spec (ps1.ent S r (decO ps1 x p)) (tkN ps.cur) = some (tokO (.str "ident") (.str x) (.int p)):=by
   have:=I₂.eq (tkN ps.cur) (Nat.succ_ne_zero _)
   rw [eT] at this
   exact this.symm
  obtain ⟨k2,v2,ps2,PT,n2,hT,hPT⟩:=hty p
  have oke:(ps1.ent S r (decO ps1 x p)).Ok:=⟨ok1.small,ok1.cur⟩
  walk_at "es"
  refine q_meth 1403 1379 g' (me_Reader_expect _) (mE_local g'.ok hrd ⟨RD,_,rfl,I₃.at rfl,rfl,?_⟩)
  walk_at "es"
  refine sp_expect (k:=k) (ps:=ps1.ent S r (decO ps1 x p)) g' (rm'.less (by omega)) I₃ oke n1.tok n2 fun h₄ I₄ F₄=>?_
  have ok2:=n2.ok oke
  obtain ⟨p4,eT4⟩ : ∃ p:Int,h₄ (tkN ps.cur) = some (tokO (.str "ident") (.str x) (.int p)):=by
   obtain ⟨r0,hr0,hk0,hv0⟩:=ht
   obtain ⟨j1,m1,R1,_,_,e1⟩:=n1
   obtain ⟨j2,m2,R2,_,_,e2⟩:=n2
   refine ⟨r0.p,I₄.at ?_⟩
   subst e1 e2
   show Option.map _ (((ps.toks ++ [_]) ++ [_])[ps.cur]?) = _
   rw [List.getElem?_append_left (by rw [List.length_append];have:=ok.cur;exact cb1 this),List.getElem?_append_left ok.cur,hr0,← hk0,← hv0];rfl
  walk_at "es"
  refine q_call g' nk_type_of ?_
  walk_at "es"
  refine q_get g' eT4 (by simp) rfl ?_
  walk_at "es"
  refine b_cat ?_ (by omega)
  walk_at "es"
  refine hT _ _ _ _ g' (rm'.less (by omega)) I₄ fun h₅ t₅ psT ti l₅ hpt I₅ F₅=>?_
  obtain ⟨okT,ho,⟨v3,htk3⟩,k3,v3',ps3,n3,td'⟩:=hPT psT ti hpt
  walk_at "es"
  refine mS_if ?_
  walk_at "es"
  refine c_isntR (t_bool (show mB _ _ _ _ from ?_))
  walk_at "es"
  refine q_ob { decO ps1 x p with type:=.ref (tyN ti) } g' I₅ ho (by simp) rfl fun h₆ I₆ F₆=>?_
  walk_at "es"
  refine q_meth 1403 1379 g' (me_Reader_expect _) (mE_local g'.ok hrd ⟨RD,_,rfl,I₆.at rfl,rfl,?_⟩)
  walk_at "es"
  refine sp_expect (k:=k) g' (rm'.less (by omega)) I₆ ⟨okT.small,okT.cur⟩ htk3 n3 fun h₇ I₇ F₇=>?_
  walk_at "es"
  exact ⟨l.length,Nat.lt_succ_self _,l,ps3,_,rfl,by exact cb2 lt l₅,n3.ok ⟨okT.small,okT.cur⟩,td',I₇,(((((F₁.trans F₂ (by omega)).trans F₃ (by omega)).trans F₄ (by omega)).trans F₅ (by exact cb1 lt)).trans F₆ (by exact cb2 lt l₅)).trans F₇ (by exact cb2 lt l₅),hrd,hlb⟩
end
noncomputable def rgI (a v:Nat):O:=.rawX "range_iterator" [.ri (a:Int),.ri ((v:Int) - a),.ri 1]
noncomputable def rgO (v:Nat):O:=.rawX "range" [.v (.int 0),.v (.int (v:Int)),.v (.int 1)]
theorem range_sz (v:Nat):Builtin.Range.rangeSize 0 (v:Int) 1 = (v:Int):=by
 unfold Builtin.Range.rangeSize
 simp only [show ((1:Int) > 0) by decide,if_true]
 split <;> omega
theorem range_sm (v:Nat) (h:v ≤ 1000000):Builtin.Range.small 0 (v:Int) 1 = true:=by
 unfold Builtin.Range.small
 simp [range_sz,Builtin.Range.rangeFitsLong]
 omega
section
variable {c:Cx} {σ:St}
theorem rg_newN (n:Nm) {v:Nat} {Q:V → St → Prop} (hn:σ.hp n = none) (h:Q (.ref n) (σ.put n (rgO v))):MW1 c RVal (.int (v:Int)) (fun y=>call (.type "range") [y]) Q σ:=rg_new1 n hn h
theorem it_rangeN (n:Nm) {r:Nm} {v:Nat} {Q:V → St → Prop} (e:σ.hp r = some (rgO v)) (hv:v ≤ 1000000) (hn:σ.hp n = none) (h:Q (.ref n) (σ.put n (rgI 0 v))):MW1 c RVal (.ref r) pyIter Q σ:=by
 refine it_range n e (range_sm v hv) hn ?_
 rw [range_sz]
 have:rgI 0 v = .rawX "range_iterator" [.ri 0,.ri (v:Int),.ri 1]:=by unfold rgI;simp
 rw [← this];exact h
theorem nx_rangeN {n:Nm} {a v:Nat} {Q:Option V → St → Prop} (e:σ.hp n = some (rgI a v)) (hl:a < v) (h:Q (some (.int (a:Int))) (σ.put n (rgI (a + 1) v))):mNext c n Q σ:=by
 refine nx_range e (by omega) ?_
 have:rgI (a + 1) v = .rawX "range_iterator" [.ri ((a:Int) + 1),.ri ((v:Int) - a - 1),.ri 1]:=by unfold rgI;simp;omega
 rw [← this];exact h
theorem nx_rangeNE {n:Nm} {a v:Nat} {Q:Option V → St → Prop} (ok:c.Ok) (e:σ.hp n = some (rgI a v)) (hl:v ≤ a) (h:Q none (σ.put n .dead)):mNext c n Q σ:=nx_rangeE ok e (by omega) h
end
inductive PO (ps:PS):Nat → List Int → Prop
 | flat {i:Nat} {tr:TyR}:ps.types[i]? = some tr → (tr.form == "array") = false → (tr.form == "record") = false → PO ps i (if tr.form == "pointer" then [0] else [])
 | arr {i j v:Nat} {tr tr2:TyR}:ps.types[i]? = some tr → tr.form = "array" → tr.base = .ref (tyN j) → tr.length = (v:Int) → v ≤ 100 → ps.types[j]? = some tr2 → (tr2.form == "array") = false → (tr2.form == "record") = false →
   PO ps i (if tr2.form == "pointer" then (List.range v).map (fun q:Nat=>((q:Int) * tr2.size + 0)) else [])
section
variable {c:Cx} {σ:St}
theorem sp_po {ps:PS} {t i:Nat} {l:List Int} {Q:V → St → Prop} {k:Nat} (g:Good c) (rm:Rm c (k + 2)) (I:Is σ.hp ps t) (po:PO ps i l)
  (h:∀ h' t' u,t ≤ u → u < t' → Is h' ps t' → Fw t σ.hp h' → h' (0,u,0) = some (.list (l.map V.int)) → Q (.ref (0,u,0)) ⟨σ.vars,h'⟩):mCall c 776 [.ref (tyN i)] Q σ:=by
 cases po with
 | @flat tr h1 h2 h3=>
  refine sp_po_flat (k:=k) g (rm.less (by omega)) I h1 h2 h3 fun h' I' F' e=>h h' (t + 1) t (Nat.le_refl _) (Nat.lt_succ_self _) I' F' ?_
  rw [e]
  split <;> rfl
 | @arr j v tr tr2 h1 h2 h3 h4 hv h5 h6 h7=>
  refine q_fun ["t"] [_] g rm (fun _=>dk1 rfl rfl) (hb1 fun _=>rfl) rfl fun B L=>?_
  intro c' QQ g' rm'
  walk_at "es"
  refine mS_if ?_
  walk_at "es"
  refine q_get g' (I.ty h1) (by simp) rfl ?_
  walk_at "es"
  refine c_eqS (t_bool ?_)
  rw [h2]
  show mB _ _ _ _
  walk_at "es"
  refine mS_if ?_
  walk_at "es"
  refine q_get g' (I.ty h1) (by simp) rfl ?_
  walk_at "es"
  refine c_eqS (t_bool ?_)
  rw [h2]
  show mB _ _ _ _
  walk_at "es"
  refine q_call g' nk_pointer_offsets ?_
  walk_at "es"
  refine q_get g' (I.ty h1) (by simp) rfl ?_ (by rw [h3];rfl)
  rw [h3]
  walk_at "es"
  refine sp_po_flat (k:=k) g' (rm'.less (by omega)) I h5 h6 h7 fun h₁ I₁ F₁ e₁=>?_
  walk_at "es"
  refine l_new (0,t + 1,0) (I₁.free _ _ (Nat.le_refl _)) ?_ (by simp)
  walk_at "es"
  obtain ⟨pl,hpl⟩ : ∃ pl,pl = (tr2.form == "pointer"):=⟨_,rfl⟩
  rw [← hpl] at e₁ h
  have e₁' : ∀ o,(h₁.set (0,t + 1,0) o) (0,t,0) = some (.list (if pl then [.int 0] else [])):=fun o=>H.skip (h:=h₁) (by walk_at "ne") e₁
  refine mS_for (0,t + 1,2) (fun k' τ=>∃ a t₁,t + 2 ≤ t₁ ∧ a + k' = v ∧ Is τ.hp ps t₁ ∧ Fw (t + 1) h₁ τ.hp ∧ τ.hp (0,t + 1,2) = some (rgI a v) ∧ τ.hp (0,t + 1,0) = some (.list ((if pl then (List.range a).map (fun q:Nat=>((q:Int) * tr2.size + 0)) else []).map V.int)) ∧
   τ.vars "t" = some (.ref (tyN i)) ∧ τ.vars "inner" = some (.ref (0,t,0)) ∧ τ.vars "found" = some (.ref (0,t + 1,0))) ?_ ?_ ?_
  ·refine q_ty g' nb_range bb_range ?_
   refine mL_cons (q_bi g' nb_max bb_max ?_)
   walk_at "es"
   refine q_get g' ((I₁.tmp (i:=0) (o:=.list [])).ty h1) (by simp) rfl ?_
   walk_at "es"
   refine MW2.toS (f_max g'.ok ?_)
   rw [h4,show (if (0:Int) > (v:Int) then 0 else (v:Int)) = (v:Int) by split <;> omega]
   walk_at "es"
   refine MW1.toS (rg_newN (0,t + 1,1) (H.skip (h:=h₁) (by walk_at "ne") (I₁.free _ _ (Nat.le_refl _))) ?_)
   refine it_rangeN (0,t + 1,2) (H.set_self _ _ _) (by omega) (H.skip (h:=H.set _ _ _) (by walk_at "ne") (H.skip (h:=h₁) (by walk_at "ne") (I₁.free _ _ (Nat.le_refl _)))) ⟨rfl,v,0,t + 2,Nat.le_refl _,by omega,?_,?_,H.set_self _ _ _,?_,rfl,rfl,rfl⟩
   ·exact (I₁.tmp.old (by omega)).old (by omega)
   ·exact (Fw.tmp.set (by omega)).set (by omega)
   ·refine H.skip (h:=H.set _ _ _) (by walk_at "ne") (H.skip (h:=H.set _ _ _) (by walk_at "ne") ?_)
    rw [H.set_self];cases pl <;> rfl
  ·rintro k' ⟨vs,hp⟩ ⟨a,t₁,_,_,_,_,e,_⟩
   rw [show (⟨vs,hp⟩ : St).hp (0,t + 1,2) = _ from e];simp
  ·intro J';rintro k' ⟨vs,hp⟩ ⟨a,t₁,lt₁,ha,I2,F2,e2,ef2,ht',hin,hfo⟩
   rcases Nat.lt_or_ge a v with lt | ge
   ·refine nx_rangeN e2 lt ?_
    refine as_name g'.ok ?_
    simp only [St.put]
    obtain ⟨h₃,hh⟩ : ∃ h₃,h₃ = hp.set (0,t + 1,2) (rgI (a + 1) v):=⟨_,rfl⟩
    have I3:Is h₃ ps t₁:=hh ▸ I2.old (by omega)
    have F3:Fw (t + 1) h₁ h₃:=hh ▸ F2.set (by omega)
    have e3:h₃ (0,t + 1,2) = some (rgI (a + 1) v):=hh ▸ H.set_self _ _ _
    have ef3:h₃ (0,t + 1,0) = some (.list ((if pl then (List.range a).map (fun q:Nat=>((q:Int) * tr2.size + 0)) else []).map V.int)):=by rw [hh];exact H.skip (h:=hp) (by walk_at "ne") ef2
    have ei3:h₃ (0,t,0) = some (.list (if pl then [.int 0] else [])):=(F3 t 0 (by omega)).trans e₁
    rw [← hh]
    clear hh
    walk_at "es"
    refine mS_if ?_
    refine mT_cmp (q_bi g' nb_len bb_len ?_)
    walk_at "es"
    refine MW1.toS (f_lenL ei3 ?_ (by cases pl <;> simp))
    walk_at "es"
    refine c_eq (t_bool ?_)
    cases pl with
    | false=>
     show mB _ _ _ _
     walk_at "es"
     show mB _ _ _ _
     walk_at "es"
     exact h h₃ t₁ (t + 1) (by omega) (by omega) I3 (F₁.trans F3 (by omega)) ef3
    | true=>
     show mB _ _ _ _
     walk_at "es"
     refine mS_for (0,t₁,0) (fun k' τ=>(k' = 1 ∧ τ = ⟨fun y=>if y = "place" then some (.int (a:Int)) else vs y,h₃.set (0,t₁,0) (.raw "list_iterator" [.v (.ref (0,t,0)),.ri 0])⟩) ∨ (k' = 0 ∧ Is τ.hp ps (t₁ + 1) ∧ Fw (t + 1) h₁ τ.hp ∧ τ.hp (0,t + 1,2) = some (rgI (a + 1) v) ∧
      τ.hp (0,t₁,0) = some (.raw "list_iterator" [.v (.ref (0,t,0)),.ri 1]) ∧
      τ.hp (0,t + 1,0) = some (.list (((List.range (a + 1)).map (fun q:Nat=>((q:Int) * tr2.size + 0))).map V.int)) ∧ τ.vars "t" = some (.ref (tyN i)) ∧ τ.vars "inner" = some (.ref (0,t,0)) ∧ τ.vars "found" = some (.ref (0,t + 1,0)))) ?_ ?_ ?_
     ·walk_at "es"
      exact it_list (0,t₁,0) ei3 (I3.free _ _ (Nat.le_refl _)) ⟨rfl,1,.inl ⟨rfl,rfl⟩⟩
     ·rintro k' ⟨vs',hp'⟩ (⟨_,e⟩ | ⟨_,_,_,_,e,_⟩)
      ·cases e
       rw [show St.hp _ (0,t₁,0) = _ from H.set_self _ _ _];simp
      ·rw [show (⟨vs',hp'⟩ : St).hp (0,t₁,0) = _ from e];simp
     ·intro J';rintro k' ⟨vs',hp'⟩ (⟨rfl,e⟩ | ⟨rfl,I4,F4,e4,ei4,ef4,ht4,hin4,hfo4⟩)
      ·cases e
       have ei3' : (h₃.set (0,t₁,0) (.raw "list_iterator" [.v (.ref (0,t,0)),.ri 0])) (0,t,0) = some (.list [.int 0]):=H.skip (h:=h₃) (by intro q;cases q <;> omega) ei3
       refine nx_list (i:=0) (v:=.int 0) (xs:=[.int 0]) (l:=(0,t,0)) (H.set_self _ _ _) ei3' rfl ?_
       refine as_name g'.ok ?_
       simp only [St.put,H.set_set]
       obtain ⟨h₄,hh⟩ : ∃ h₄,h₄ = h₃.set (0,t₁,0) (.raw "list_iterator" [.v (.ref (0,t,0)),.ri (0 + 1:Nat)]):=⟨_,rfl⟩
       have I4:Is h₄ ps (t₁ + 1):=hh ▸ I3.tmp
       have F4:Fw (t + 1) h₁ h₄:=hh ▸ F3.trans (t':=t₁) Fw.tmp (by omega)
       have e4:h₄ (0,t₁,0) = some (.raw "list_iterator" [.v (.ref (0,t,0)),.ri 1]):=hh ▸ H.set_self _ _ _
       have ef4:h₄ (0,t + 1,0) = some (.list (((List.range a).map (fun q:Nat=>((q:Int) * tr2.size + 0))).map V.int)):=by rw [hh];exact H.skip (h:=h₃) (by intro q;cases q <;> omega) ef3
       have er4:h₄ (0,t + 1,2) = some (rgI (a + 1) v):=by rw [hh];exact H.skip (h:=h₃) (by intro q;cases q <;> omega) e3
       rw [← hh]
       clear hh
       walk_at "es"
       refine mE_bm (mE_local g'.ok hfo ⟨_,meth_append ef4,?_⟩)
       walk_at "es"
       refine q_get g' (I4.ty h1) (by simp) rfl ?_ (by rw [h3];rfl)
       rw [h3]
       refine q_get g' (I4.ty h5) (by simp) rfl ?_
       refine b_mul ?_ (by omega) (by omega)
       walk_at "es"
       refine b_add ?_
       walk_at "es"
       refine MW2.toS (l_append ef4 ?_ (by simp;exact cb2 hv (eL ha)))
       walk_at "es"
       refine ⟨0,by exact cl0,.inr ⟨rfl,I4.old (by exact cb1 lt₁),F4.set (by omega),H.skip (h:=h₄) (by intro q;cases q <;> omega) er4,H.skip (h:=h₄) (by intro q;cases q <;> omega) e4,?_,ht',hin,hfo⟩⟩
       rw [List.range_succ,List.map_append,List.map_append]
       exact H.set_self _ _ _
      ·have ei4' : hp' (0,t,0) = some (.list [.int 0]):=(F4 t 0 (by omega)).trans e₁
       refine nx_listE g'.ok (i:=1) (xs:=[.int 0]) (l:=(0,t,0)) ei4 ei4' (by simp) ?_
       walk_at "es"
       exact ⟨k' - 1,by omega,a + 1,t₁ + 1,by omega,by omega,I4.old (by omega),F4.set (by omega),H.skip (h:=hp') (by intro q;cases q <;> omega) e4,H.skip (h:=hp') (by intro q;cases q <;> omega) ef4,ht4,hin4,hfo4⟩
   ·refine nx_rangeNE g'.ok e2 ge ?_
    have:a = v:=by exact Nat.le_antisymm (cb1 (eL ha)) ge
    subst this
    walk_at "es"
    exact h _ t₁ (t + 1) (by omega) (by omega) (I2.old (by omega)) (F₁.trans (F2.set (by omega)) (by omega)) (H.skip (h:=hp) (by walk_at "ne") ef2)
end
theorem nk_record_pointers (P:Params):nkB (KK P) "record_pointers" 783 = true:=by kernel_rfl
inductive FP (ps:PS):List V → List Int → Prop
 | nil:FP ps [] []
 | cons {kk i:Nat} {ob:ObR} {li l:List Int} {fs:List V}:ps.objs[kk]? = some ob → ob.type = .ref (tyN i) → PO ps i li → FP ps fs l → FP ps (.ref (obN kk) :: fs) (li.map (fun o=>ob.offset + o) ++ l)
inductive RP (ps:PS):Nat → V → List Int → Prop
 | none:RP ps 0 .none []
 | some {n i:Nat} {tr:TyR} {l1 l2:List Int}:ps.types[i]? = some tr → FP ps tr.fields l1 → RP ps n tr.base l2 → RP ps (n + 1) (.ref (tyN i)) (l1 ++ l2)
theorem RP.okv {ps:PS} {n:Nat} {v:V} {l:List Int} (h:RP ps n v l):v.okV = true:=by cases h <;> rfl
section
variable {c:Cx} {σ:St}
theorem sp_record_pointers {ps:PS} {t i n:Nat} {l:List Int} {Q:V → St → Prop} {k:Nat} (g:Good c) (rm:Rm c (k + 4)) (I:Is σ.hp ps t) (rp:RP ps n (.ref (tyN i)) l) (hl:l.length < 64)
  (h:∀ h' t' u ys,ys.Perm l → List.Pairwise (· ≤ ·) ys → t ≤ u → u < t' → Is h' ps t' → Fw t σ.hp h' → h' (0,u,0) = some (.list ((ddA [] ys).map V.int)) → Q (.ref (0,u,0)) ⟨σ.vars,h'⟩):mCall c 783 [.ref (tyN i)] Q σ:=by
 refine q_fun ["t"] [_] g rm (fun _=>dk1 rfl rfl) (hb1 fun _=>rfl) rfl fun B L=>?_
 intro c' QQ g' rm'
 walk_at "es"
 refine l_new (0,t,0) (I.free _ _ (Nat.le_refl _)) ?_ (by simp)
 walk_at "es"
 refine mS_while (fun n τ=>∃ tv lr acc t₁,RP ps n tv lr ∧ acc ++ lr = l ∧ Is τ.hp ps t₁ ∧ t + 1 ≤ t₁ ∧ Fw t σ.hp τ.hp ∧ τ.hp (0,t,0) = some (.list (acc.map V.int)) ∧ τ.vars "t" = some tv ∧ τ.vars "found" = some (.ref (0,t,0))) n ⟨_,l,[],t + 1,rp,rfl,I.tmp,Nat.le_refl _,Fw.tmp,H.set_self _ _ _,rfl,rfl⟩ ?_
 intro J';rintro n ⟨vs,hp⟩ ⟨tv,lr,acc,t₁,rp,hacc,I₁,lt₁,F₁,eF,htv,hfo⟩
 cases rp with
 | none=>
  refine mT_cmp (mE_local g'.ok htv ?_)
  walk_at "es"
  refine c_isntN (t_bool (show mB _ _ _ _ from ?_))
  rw [List.append_nil] at hacc
  subst hacc
  walk_at "es"
  refine q_call g' nk_distinct ?_
  refine mL_cons (q_bi g' nb_sorted bb_sorted ?_)
  walk_at "es"
  refine MW1.toS (f_sorted (0,t₁,0) eF hl (I₁.free _ _ (Nat.le_refl _)) fun ys e1 e2 e3=>?_)
  walk_at "es"
  refine sp_distinct (ps:=ps) (t:=t₁ + 1) (k:=k) g' (rm'.less (by omega)) I₁.tmp rfl (Nat.lt_succ_self _) (H.set_self _ _ _) (cb2 hl (eL e1)) fun h₂ I₂ F₂ e=>?_
  walk_at "es"
  exact h h₂ (t₁ + 2) (t₁ + 1) ys e2 e3 (by omega) (by omega) I₂ ((F₁.trans (t':=t₁) Fw.tmp (by omega)).trans F₂ (by omega)) e
 | @some n i tr l1 l2 htr fp rp=>
  refine mT_cmp (mE_local g'.ok htv ?_)
  walk_at "es"
  refine c_isntR (t_bool (show mB _ _ _ _ from ?_))
  refine mB_cons ?_
  refine mS_for (0,t₁,0) (fun k' τ=>∃ b lf acc t₂,b + k' = tr.fields.length ∧ FP ps (tr.fields.drop b) lf ∧ acc ++ (lf ++ l2) = l ∧ Is τ.hp ps t₂ ∧ t₁ + 1 ≤ t₂ ∧ Fw t σ.hp τ.hp ∧ τ.hp (0,t₁,0) = some (.raw "list_iterator" [.v (.ref (2,i,1)),.ri (b:Nat)]) ∧ τ.hp (0,t,0) = some (.list (acc.map V.int)) ∧
   τ.vars "t" = some (.ref (tyN i)) ∧ τ.vars "found" = some (.ref (0,t,0))) ?_ ?_ ?_
  ·refine mE_attr (mE_local g'.ok htv (q_get g' (I₁.ty htr) (by simp) rfl ?_))
   refine it_list (0,t₁,0) (I₁.fld htr) (I₁.free _ _ (Nat.le_refl _)) ⟨rfl,tr.fields.length,0,l1,acc,t₁ + 1,by omega,fp,hacc,I₁.tmp,Nat.le_refl _,F₁.trans (t':=t₁) Fw.tmp (by omega),H.set_self _ _ _,H.skip (h:=hp) (by walk_at "ne") eF,htv,hfo⟩
  ·rintro k' ⟨vs',hp'⟩ ⟨b,_,_,_,_,_,_,_,_,_,e,_⟩
   rw [show (⟨vs',hp'⟩ : St).hp (0,t₁,0) = _ from e];simp
  ·intro J';rintro k' ⟨vs',hp'⟩ ⟨b,lf,acc,t₂,hb,fp,hacc,I₂,lt₂,F₂,e₂,eF₂,htv₂,hfo₂⟩
   rcases Nat.lt_or_ge b tr.fields.length with lt | ge
   ·rw [List.drop_eq_getElem_cons lt] at fp
    obtain ⟨fv,hfv⟩ : ∃ fv,fv = tr.fields[b]:=⟨_,rfl⟩
    rw [← hfv] at fp
    cases fp with
    | @cons kk j ob li lf fs hob hty po fp=>
    refine nx_list (i:=b) (v:=.ref (obN kk)) (l:=(2,i,1)) e₂ (I₂.fld htr) (by rw [List.getElem?_eq_getElem lt,← hfv]) ?_
    refine as_name g'.ok ?_
    simp only [St.put]
    obtain ⟨h₃,hh⟩ : ∃ h₃,h₃ = hp'.set (0,t₁,0) (.raw "list_iterator" [.v (.ref (2,i,1)),.ri (b + 1:Nat)]):=⟨_,rfl⟩
    have I₃:Is h₃ ps t₂:=hh ▸ I₂.old (by omega)
    have F₃:Fw t σ.hp h₃:=hh ▸ F₂.set (by omega)
    have e₃:h₃ (0,t₁,0) = some (.raw "list_iterator" [.v (.ref (2,i,1)),.ri (b + 1:Nat)]):=hh ▸ H.set_self _ _ _
    have eF₃:h₃ (0,t,0) = some (.list (acc.map V.int)):=by rw [hh];exact H.skip (h:=hp') (by walk_at "ne") eF₂
    rw [← hh]
    clear hh
    refine mB_cons ?_
    refine mS_for (0,t₂,0) (fun k' τ=>∃ d u t₃,d + k' = li.length ∧ t₂ + 1 ≤ u ∧ u < t₃ ∧ Is τ.hp ps t₃ ∧ Fw t σ.hp τ.hp ∧ τ.hp (0,t₁,0) = some (.raw "list_iterator" [.v (.ref (2,i,1)),.ri (b + 1:Nat)]) ∧ τ.hp (0,u,0) = some (.list (li.map V.int)) ∧ τ.hp (0,t₂,0) = some (.raw "list_iterator" [.v (.ref (0,u,0)),.ri (d:Nat)]) ∧
     τ.hp (0,t,0) = some (.list ((acc ++ (li.take d).map (fun o=>ob.offset + o)).map V.int)) ∧ τ.vars "t" = some (.ref (tyN i)) ∧ τ.vars "found" = some (.ref (0,t,0)) ∧ τ.vars "field" = some (.ref (obN kk))) ?_ ?_ ?_
    ·refine q_call g' nk_pointer_offsets ?_
     walk_at "es"
     refine q_get g' (I₃.ob hob) (by simp) rfl ?_ (by rw [hty];rfl)
     rw [hty]
     walk_at "es"
     refine sp_po (k:=k) (t:=t₂ + 1) g' (rm'.less (by omega)) (I₃.less (by omega)) po fun h₄ t₄ u lu ut I₄ F₄ e₄=>?_
     have ff:h₄ (0,t₂,0) = none:=(F₄ t₂ 0 (by omega)).trans (I₃.free _ _ (Nat.le_refl _))
     refine it_list (0,t₂,0) e₄ ff ⟨rfl,li.length,0,u,t₄,by omega,lu,ut,I₄.old (by omega),?_,H.skip (h:=h₄) (by walk_at "ne") ((F₄ t₁ 0 (by exact cb1 lt₂)).trans e₃),H.skip (h:=h₄) (by walk_at "ne") e₄,H.set_self _ _ _,H.skip (h:=h₄) (by walk_at "ne") ?_,htv₂,hfo₂,rfl⟩
     ·intro u' k' hu'
      rw [show (St.put ⟨_,h₄⟩ (0,t₂,0) _).hp (0,u',k') = h₄ (0,u',k') from H.set_ne _ _ (by walk_at "ne")]
      exact (F₄ u' k' (by exact cb3 lt₁ lt₂ hu')).trans (F₃ u' k' (by omega))
     ·rw [F₄ t 0 (by exact cb2 lt₁ lt₂)]
      show h₃ (0,t,0) = _
      rw [eF₃];simp
    ·rintro k' ⟨vs',hp'⟩ ⟨d,u,t₃,_,_,_,_,_,_,_,e,_⟩
     rw [show (⟨vs',hp'⟩ : St).hp (0,t₂,0) = _ from e];simp
    ·intro J';rintro k'' ⟨vs'',hq⟩ ⟨d,u,t₃,hd,lu,ut,I₄,F₄,eo₄,eu,e₄,eF₄,htv₄,hfo₄,hfi⟩
     rcases Nat.lt_or_ge d li.length with ltd | ged
     ·refine nx_list (i:=d) (v:=.int li[d]) (xs:=li.map V.int) (l:=(0,u,0)) e₄ eu (by simp [ltd]) ?_
      refine as_name g'.ok ?_
      simp only [St.put]
      obtain ⟨h₅,hh⟩ : ∃ h₅,h₅ = hq.set (0,t₂,0) (.raw "list_iterator" [.v (.ref (0,u,0)),.ri (d + 1:Nat)]):=⟨_,rfl⟩
      have I₅:Is h₅ ps t₃:=hh ▸ I₄.old (by omega)
      have F₅:Fw t σ.hp h₅:=hh ▸ F₄.set (by omega)
      have eo₅:h₅ (0,t₁,0) = some (.raw "list_iterator" [.v (.ref (2,i,1)),.ri (b + 1:Nat)]):=by rw [hh];exact H.skip (h:=hq) (by walk_at "ne") eo₄
      have e₅:h₅ (0,t₂,0) = some (.raw "list_iterator" [.v (.ref (0,u,0)),.ri (d + 1:Nat)]):=hh ▸ H.set_self _ _ _
      have eu₅:h₅ (0,u,0) = some (.list (li.map V.int)):=by rw [hh];exact H.skip (h:=hq) (by walk_at "ne") eu
      have eF₅:h₅ (0,t,0) = some (.list ((acc ++ (li.take d).map (fun o=>ob.offset + o)).map V.int)):=by rw [hh];exact H.skip (h:=hq) (by walk_at "ne") eF₄
      rw [← hh]
      clear hh
      walk_at "es"
      refine mE_bm (mE_local g'.ok hfo₄ ⟨_,meth_append eF₅,?_⟩)
      walk_at "es"
      refine q_get g' (I₅.ob hob) (by simp) rfl ?_
      walk_at "es"
      refine b_add ?_
      walk_at "es"
      have hlen:acc.length + li.length ≤ l.length:=by
       rw [← hacc];simp
      refine MW2.toS (l_append eF₅ ?_ (by simp;omega))
      walk_at "es"
      refine ⟨k'' - 1,by omega,d + 1,u,t₃,by omega,lu,ut,I₅.old (by exact cb4 lt₁ lt₂ lu ut),F₅.set (by exact cl0),H.skip (h:=h₅) (by walk_at "ne") eo₅,H.skip (h:=h₅) (by walk_at "ne") eu₅,H.skip (h:=h₅) (by walk_at "ne") e₅,?_,htv₄,hfo₄,hfi⟩
      show (H.set _ _ _) (0,t,0) = _
      rw [H.set_self,List.take_succ_eq_append_getElem ltd]
      simp only [List.map_append,List.append_assoc,List.map_cons,List.map_nil]
     ·refine nx_listE g'.ok (i:=d) (xs:=li.map V.int) (l:=(0,u,0)) e₄ eu (by simp [ged]) ?_
      walk_at "es"
      rw [List.take_of_length_le ged] at eF₄
      refine ⟨k' - 1,by omega,b + 1,lf,acc ++ li.map (fun o=>ob.offset + o),t₃,by omega,fp,?_,I₄.old (by omega),by exact cb3 lt₂ lu ut,?_,?_,H.skip (h:=hq) (by walk_at "ne") eF₄,htv₄,hfo₄⟩
      ·rw [← hacc];simp
      ·exact F₄.set (by omega)
      ·exact H.skip (h:=hq) (by walk_at "ne") eo₄
   ·refine nx_listE g'.ok (i:=b) (l:=(2,i,1)) e₂ (I₂.fld htr) ge ?_
    rw [List.drop_eq_nil_of_le ge] at fp
    cases fp
    walk_at "es"
    simp only [St.put]
    have I₃:Is (hp'.set (0,t₁,0) .dead) ps t₂:=I₂.old (by omega)
    have eF₃:(hp'.set (0,t₁,0) .dead) (0,t,0) = some (.list (acc.map V.int)):=H.skip (h:=hp') (by walk_at "ne") eF₂
    refine mE_bm (mE_local g'.ok hfo₂ ⟨_,meth_extend eF₃,?_⟩)
    walk_at "es"
    refine q_get g' (I₃.ty htr) (by simp) rfl ?_
    have eh:(hp'.set (0,t₁,0) .dead) (2,i,3) = some (.list []):=I₃.at (by show Option.map _ _ = _;rw [htr];rfl)
    walk_at "es"
    have hlen:acc.length ≤ l.length:=by
     rw [← hacc];simp
    refine MW2.toS (l_extend eF₃ eh ?_ (by simp;exact cb2 hl hlen))
    walk_at "es"
    have I₄:Is ((hp'.set (0,t₁,0) .dead).set (0,t,0) (.list (acc.map V.int ++ []))) ps t₂:=I₃.old (by omega)
    have hb2:tr.base.okV = true:=rp.okv
    refine q_get g' (I₄.ty htr) (by simp) rfl ?_ hb2
    walk_at "es"
    refine ⟨n,Nat.lt_succ_self _,tr.base,l2,acc,t₂,rp,by simpa using hacc,I₄,by exact cb2 lt₁ lt₂,(F₂.set (by omega)).set (by exact cl0),?_,rfl,hfo₂⟩
    show (H.set _ _ _) (0,t,0) = _
    rw [H.set_self,List.append_nil]
theorem sp_po_rec {ps:PS} {t i n:Nat} {tr:TyR} {l:List Int} {Q:V → St → Prop} {k:Nat} (g:Good c) (rm:Rm c (k + 5)) (I:Is σ.hp ps t) (htr:ps.types[i]? = some tr) (hf:tr.form = "record") (rp:RP ps n (.ref (tyN i)) l) (hl:l.length < 64)
  (h:∀ h' t' u ys,ys.Perm l → List.Pairwise (· ≤ ·) ys → t ≤ u → u < t' → Is h' ps t' → Fw t σ.hp h' → h' (0,u,0) = some (.list ((ddA [] ys).map V.int)) → Q (.ref (0,u,0)) ⟨σ.vars,h'⟩):mCall c 776 [.ref (tyN i)] Q σ:=by
 refine q_fun ["t"] [_] g rm (fun _=>dk1 rfl rfl) (hb1 fun _=>rfl) rfl fun B L=>?_
 intro c' QQ g' rm'
 walk_at "es"
 refine mS_if ?_
 walk_at "es"
 refine q_get g' (I.ty htr) (by simp) rfl ?_
 walk_at "es"
 refine c_eqS (t_bool ?_)
 rw [hf]
 show mB _ _ _ _
 walk_at "es"
 refine mS_if ?_
 walk_at "es"
 refine q_get g' (I.ty htr) (by simp) rfl ?_
 walk_at "es"
 refine c_eqS (t_bool ?_)
 rw [hf]
 show mB _ _ _ _
 walk_at "es"
 refine mS_if ?_
 walk_at "es"
 refine q_get g' (I.ty htr) (by simp) rfl ?_
 walk_at "es"
 refine c_eqS (t_bool ?_)
 rw [hf]
 show mB _ _ _ _
 walk_at "es"
 refine q_call g' nk_record_pointers ?_
 walk_at "es"
 refine sp_record_pointers (k:=k) g' rm' I rp hl fun h' t' u ys a b d e I' F' eu=>?_
 walk_at "es"
 exact h h' t' u ys a b d e I' F' eu
end
theorem nk_fill (P:Params):nkB (KK P) "fill" 1336 = true:=by kernel_rfl
noncomputable def Ag (h:H) (ps:PS):Prop:=∀ n:Nm,1 ≤ n.1 → n.1 ≤ 6 → h n = spec ps n
noncomputable def Rs (h h' : H):Prop:=∀ n:Nm,¬ (1 ≤ n.1 ∧ n.1 ≤ 6) → h' n = h n
theorem Ag.at {h:H} {ps:PS} (I:Ag h ps) {n:Nm} {o:O} (e:spec ps n = some o) (h1:autoParam (1 ≤ n.1) aN) (h2:autoParam (n.1 ≤ 6) aN):h n = some o:=(I n h1 h2).trans e
theorem Ag.no {h:H} {ps:PS} (I:Ag h ps) {n:Nm} (e:spec ps n = none) (h1:autoParam (1 ≤ n.1) aN) (h2:autoParam (n.1 ≤ 6) aN):h n = none:=(I n h1 h2).trans e
theorem Ag.put {h:H} {ps ps' : PS} {n:Nm} {o:O} (I:Ag h ps) (e:spec ps' = (spec ps).set n o):Ag (h.set n o) ps':=fun x a b=>by
 rw [e]
 show (if x = n then some o else h x) = if x = n then some o else spec ps x
 rw [I x a b]
theorem Rs.put {h h' : H} {n:Nm} {o:O} (R:Rs h h') (h1:autoParam (1 ≤ n.1) aN) (h2:autoParam (n.1 ≤ 6) aN):Rs h (h'.set n o):=fun x a=>by
 rw [H.set_ne _ _ (by rintro rfl;exact a ⟨h1,h2⟩)];exact R x a
theorem Rs.refl (h:H):Rs h h:=fun _ _=>rfl
theorem Rs.trans {a b d:H} (x:Rs a b) (y:Rs b d):Rs a d:=fun n q=>(y n q).trans (x n q)
noncomputable def PS.ins (ps:PS) (name kind:Str) (ty v:V):PS:={ ps with objs:=ps.objs ++ [⟨name,kind,ty,0,false,0,v,0⟩],scs:=[⟨-1,(match ps.scs with | r :: _=>r.names | []=>[]) ++ [(name,ps.objs.length)]⟩] }
section
variable {c:Cx} {σ:St}
theorem sp_insertA {ps:PS} {r:ScR} {name kind:Str} {ty:V} {Q:V → St → Prop} {k:Nat} (g:Good c) (rm:Rm c (k + 3)) (I:Ag σ.hp ps) (hS:ps.scs = [⟨-1,r.names⟩]) (hlv:ps.lvl = -1)
  (hnew:lookN name r.names = none) (hnl:r.names.length ≤ 1000) (hk:(kind == "var") = false) (hk2:(kind == "par") = false)
  (h:∀ h',Ag h' (ps.ins name kind ty .none) → Rs σ.hp h' → Q (.ref (obN ps.objs.length)) ⟨σ.vars,h'⟩):mCall c 1301 [.ref SP,.str name,.str kind,ty,.int 0] Q σ:=by
 have hr:ps.scs[0]? = some ⟨-1,r.names⟩:=by rw [hS];rfl
 have e:ps.ins name kind ty .none = ps.ent [] ⟨-1,r.names⟩ ⟨name,kind,ty,0,false,lvl0 ps.lvl,.none,0⟩:=by
  unfold PS.ins PS.ent;rw [hS,hlv];rfl
 refine sp_insert (i:=ps.objs.length) (si:=0) (S:=[]) (lvl:=-1) (ns:=r.names.map fun x=>(x.1,.ref (obN x.2))) (os:=r.names.map fun x=>.ref (obN x.2)) g rm ?_ (I.at (n:=SP) rfl) rfl (by rw [hlv];rfl) rfl rfl ?_ (by decide) (I.at (o:=scpO 0 ⟨-1,r.names⟩) ?_) rfl rfl (I.at ?_) (I.at ?_) ?_ (by simpa using hnl) (by simpa using hnl) hk hk2 ?_
 ·refine I.no ?_
  show (if 0 = 0 then Option.map _ (ps.objs[ps.objs.length]?) else none) = none
  rw [List.getElem?_eq_none (Nat.le_refl _)];rfl
 ·refine I.at ?_
  show some (O.list ((List.range ps.scs.length).map fun i=>V.ref (4,i,0))) = _
  rw [hS];rfl
 ·show Option.map _ _ = _;rw [hr];rfl
 ·show Option.map _ _ = _;rw [hr];rfl
 ·show Option.map _ _ = _;rw [hr];rfl
 ·rw [getF_names,hnew];rfl
 ·have q:=spec_ent ps [] ⟨-1,r.names⟩ ⟨name,kind,ty,0,false,lvl0 ps.lvl,.none,0⟩ (by rw [hS];rfl)
  rw [← e] at q
  refine h _ (fun x a b=>?_) (((Rs.refl _).put.put).put)
  rw [q]
  unfold H.set
  rw [I x a b,hlv]
  rfl
theorem q_obA {ps:PS} {i:Nat} {r:ObR} (r' : ObR) {a:Str} {v:V} {Q:Unit → St → Prop} (g:Good c) (I:Ag σ.hp ps) (hr:ps.objs[i]? = some r) (f:setOk (KK c.w.params) 828 a = true) (hp:obO r = .inst 828 fs ∧ O.inst 828 (putF a v fs) = obO r' ∧ fs.length ≤ 500)
  (hQ:∀ h',Ag h' (ps.setO i r') → Rs σ.hp h' → Q () ⟨σ.vars,h'⟩):MW2 c RUnit (.ref (obN i)) v (fun x y=>setAttr x a y) Q σ:=by
 have hi:i < ps.objs.length:=by
  rcases Nat.lt_or_ge i ps.objs.length with q | q
  ·exact q
  ·rw [List.getElem?_eq_none q] at hr;cases hr
 refine q_put g ((I.at (n:=obN i) (by show (if 0 = 0 then Option.map _ _ else none) = _;rw [if_pos rfl,hr];rfl)).trans (congrArg some hp.1)) f ?_ hp.2.2
 rw [hp.2.1]
 exact hQ _ (I.put (spec_setO ps i r' hi)) (Rs.refl _).put
theorem ins_setO (ps:PS) (name kind:Str) (ty v:V):(ps.ins name kind ty .none).setO ps.objs.length ⟨name,kind,ty,0,false,0,v,0⟩ = ps.ins name kind ty v:=by
 unfold PS.setO PS.ins
 simp only [PS.mk.injEq,and_true,true_and]
 rw [List.set_append_right _ _ (Nat.le_refl _)];simp
theorem ins_last (ps:PS) (name kind:Str) (ty v:V):(ps.ins name kind ty v).objs[ps.objs.length]? = some ⟨name,kind,ty,0,false,0,v,0⟩:=by
 show (ps.objs ++ [_])[_]? = _;rw [List.getElem?_concat_length]
noncomputable def stdA:List Str:=stdF ++ stdP
noncomputable def fill0 (ps:PS):PS:=((((((ps.ins "BOOLEAN" "type" (.ref (tyN 0)) .none).ins "CHAR" "type" (.ref (tyN 1)) .none).ins "BYTE" "type" (.ref (tyN 2)) .none).ins "INTEGER" "type" (.ref (tyN 3)) .none).ins "SET" "type" (.ref (tyN 4)) .none).ins "FALSE" "const" (.ref (tyN 0)) (.int 0)).ins "TRUE" "const" (.ref (tyN 0)) (.int 1)
noncomputable def fillJ (ps:PS) (l:List Str):PS:=l.foldl (fun p nm=>p.ins nm "std" (.ref (tyN 6)) (.str nm)) (fill0 ps)
theorem fillJ_snoc (ps:PS) (l:List Str) (nm:Str):fillJ ps (l ++ [nm]) = (fillJ ps l).ins nm "std" (.ref (tyN 6)) (.str nm):=by unfold fillJ;rw [List.foldl_append];rfl
theorem lookN_zip (nm:Str):∀ (l:List Str) (i:Nat),nm ∉ l → lookN nm (l.zipIdx i) = none
 | [],_,_=>rfl
 | y :: l,i,h=>by
  rw [List.zipIdx_cons]
  unfold lookN
  rw [if_neg (fun e:y = nm=>h (by rw [e];exact .head _))]
  exact lookN_zip nm l (i + 1) fun q=>h (.tail _ q)
structure Nmd (ps:PS) (l:List Str):Prop where
 scs:ps.scs = [⟨-1,l.zipIdx⟩]
 len:ps.objs.length = l.length
 lvl:ps.lvl = -1
theorem Nmd.ins {ps:PS} {l:List Str} (N:Nmd ps l) (nm kind:Str) (ty v:V):Nmd (ps.ins nm kind ty v) (l ++ [nm]):=by
 refine ⟨?_,?_,N.lvl⟩
 ·show [(⟨-1,(match ps.scs with | r :: _=>r.names | []=>[]) ++ [(nm,ps.objs.length)]⟩ : ScR)] = _
  rw [N.scs,N.len,List.zipIdx_append]
  simp
 ·show (ps.objs ++ [_]).length = _
  simp [N.len]
theorem sp_insertN {ps:PS} {l:List Str} {name kind:Str} {ty:V} {Q:V → St → Prop} {k:Nat} (g:Good c) (rm:Rm c (k + 3)) (I:Ag σ.hp ps) (N:Nmd ps l) (hnew:(l.contains name) = false) (hnl:l.length ≤ 1000) (hk:(kind == "var") = false) (hk2:(kind == "par") = false)
  (h:∀ h',Ag h' (ps.ins name kind ty .none) → Rs σ.hp h' → Q (.ref (obN ps.objs.length)) ⟨σ.vars,h'⟩):mCall c 1301 [.ref SP,.str name,.str kind,ty,.int 0] Q σ:=
 sp_insertA (r:=⟨-1,l.zipIdx⟩) g rm I N.scs N.lvl (lookN_zip _ _ _ (by simpa using hnew)) (by simpa using hnl) hk hk2 h
noncomputable def nm7:List Str:=["BOOLEAN", "CHAR", "BYTE", "INTEGER", "SET", "FALSE", "TRUE"]
theorem Nmd.fill0 {ps:PS} (N:Nmd ps []):Nmd (fill0 ps) nm7:=((((((N.ins _ _ _ _).ins _ _ _ _).ins _ _ _ _).ins _ _ _ _).ins _ _ _ _).ins _ _ _ _).ins _ _ _ _
theorem Nmd.fillJ {ps:PS} (N:Nmd ps []) (l:List Str):Nmd (fillJ ps l) (nm7 ++ l):=by
 have:∀ (l:List Str) (p:PS) (l0:List Str),Nmd p l0 → Nmd (l.foldl (fun p nm=>p.ins nm "std" (.ref (tyN 6)) (.str nm)) p) (l0 ++ l):=by
  intro l
  induction l with
  | nil=>intro p l0 h;simpa using h
  | cons x l ih=>
   intro p l0 h
   have:=ih _ _ (h.ins x "std" (.ref (tyN 6)) (.str x))
   simpa using this
 exact this l _ _ N.fill0
theorem std_new:∀ j,j < 14 → ∃ nm,stdA[j]? = some nm ∧ ((nm7 ++ stdA.take j).contains nm) = false:=by
 intro j hj
 have:=(by decide +kernel:∀ j ∈ List.range 14,stdA[j]? = some (stdA.getD j "") ∧ ((nm7 ++ stdA.take j).contains (stdA.getD j "")) = false) j (List.mem_range.mpr hj)
 exact ⟨_,this⟩
theorem sp_fill {ps:PS} {t:Nat} {Q:V → St → Prop} {k:Nat} (g:Good c) (rm:Rm c (k + 4)) (I:Ag σ.hp ps) (Fr:Free t σ.hp) (N:Nmd ps [])
  (h:∀ h',Ag h' (fillJ ps stdA) → (∀ n:Nm,7 ≤ n.1 → h' n = σ.hp n) → Free (t + 1) h' → Fw t σ.hp h' → Q .none ⟨σ.vars,h'⟩):mCall c 1336 [.ref SP] Q σ:=by
 refine q_fun ["scopes"] [_] g rm (fun _=>dk1 rfl rfl) (hb1 fun _=>rfl) rfl fun B L=>?_
 intro c' QQ g' rm'
 walk_at "es"
 refine q_get g' (I.at (n:=SP) rfl) (by simp) rfl ?_
 walk_at "es"
 refine q_meth 1311 1301 g' (me_Scopes_insert _) (mE_local g'.ok rfl ⟨SP,_,rfl,I.at (n:=SP) rfl,rfl,?_⟩)
 walk_at "es"
 refine q_get g' (I.at (n:=TY) rfl) (by simp) rfl ?_
 walk_at "es"
 refine sp_insertN (k:=k) g' (rm'.less (by omega)) I N rfl (Nat.le_of_ble_eq_true rfl) rfl rfl fun h_1 I_1 R_1=>?_
 have N_1:=N.ins "BOOLEAN" "type" (.ref (tyN 0)) .none
 walk_at "es"
 refine q_meth 1311 1301 g' (me_Scopes_insert _) (mE_local g'.ok rfl ⟨SP,_,rfl,I_1.at (n:=SP) rfl,rfl,?_⟩)
 walk_at "es"
 refine q_get g' (I_1.at (n:=TY) rfl) (by simp) rfl ?_
 walk_at "es"
 refine sp_insertN (k:=k) g' (rm'.less (by omega)) I_1 N_1 rfl (Nat.le_of_ble_eq_true rfl) rfl rfl fun h_2 I_2 R_2=>?_
 have N_2:=N_1.ins "CHAR" "type" (.ref (tyN 1)) .none
 walk_at "es"
 refine q_meth 1311 1301 g' (me_Scopes_insert _) (mE_local g'.ok rfl ⟨SP,_,rfl,I_2.at (n:=SP) rfl,rfl,?_⟩)
 walk_at "es"
 refine q_get g' (I_2.at (n:=TY) rfl) (by simp) rfl ?_
 walk_at "es"
 refine sp_insertN (k:=k) g' (rm'.less (by omega)) I_2 N_2 rfl (Nat.le_of_ble_eq_true rfl) rfl rfl fun h_3 I_3 R_3=>?_
 have N_3:=N_2.ins "BYTE" "type" (.ref (tyN 2)) .none
 walk_at "es"
 refine q_meth 1311 1301 g' (me_Scopes_insert _) (mE_local g'.ok rfl ⟨SP,_,rfl,I_3.at (n:=SP) rfl,rfl,?_⟩)
 walk_at "es"
 refine q_get g' (I_3.at (n:=TY) rfl) (by simp) rfl ?_
 walk_at "es"
 refine sp_insertN (k:=k) g' (rm'.less (by omega)) I_3 N_3 rfl (Nat.le_of_ble_eq_true rfl) rfl rfl fun h_4 I_4 R_4=>?_
 have N_4:=N_3.ins "INTEGER" "type" (.ref (tyN 3)) .none
 walk_at "es"
 refine q_meth 1311 1301 g' (me_Scopes_insert _) (mE_local g'.ok rfl ⟨SP,_,rfl,I_4.at (n:=SP) rfl,rfl,?_⟩)
 walk_at "es"
 refine q_get g' (I_4.at (n:=TY) rfl) (by simp) rfl ?_
 walk_at "es"
 refine sp_insertN (k:=k) g' (rm'.less (by omega)) I_4 N_4 rfl (Nat.le_of_ble_eq_true rfl) rfl rfl fun h_5 I_5 R_5=>?_
 have N_5:=N_4.ins "SET" "type" (.ref (tyN 4)) .none
 walk_at "es"
 refine q_meth 1311 1301 g' (me_Scopes_insert _) (mE_local g'.ok rfl ⟨SP,_,rfl,I_5.at (n:=SP) rfl,rfl,?_⟩)
 walk_at "es"
 refine q_get g' (I_5.at (n:=TY) rfl) (by simp) rfl ?_
 walk_at "es"
 refine sp_insertN (k:=k) g' (rm'.less (by omega)) I_5 N_5 rfl (Nat.le_of_ble_eq_true rfl) rfl rfl fun h_6a I_6a R_6a=>?_
 refine q_obA ⟨"FALSE", "const",.ref (tyN 0),0,false,0,.int 0,0⟩ g' I_6a (ins_last _ _ _ _ _) (by simp) ⟨rfl,rfl,Nat.le_of_ble_eq_true rfl⟩ fun h_6 I_6 R_6=>?_
 rw [ins_setO] at I_6
 have N_6:=N_5.ins "FALSE" "const" (.ref (tyN 0)) (.int 0)
 walk_at "es"
 refine q_meth 1311 1301 g' (me_Scopes_insert _) (mE_local g'.ok rfl ⟨SP,_,rfl,I_6.at (n:=SP) rfl,rfl,?_⟩)
 walk_at "es"
 refine q_get g' (I_6.at (n:=TY) rfl) (by simp) rfl ?_
 walk_at "es"
 refine sp_insertN (k:=k) g' (rm'.less (by omega)) I_6 N_6 rfl (Nat.le_of_ble_eq_true rfl) rfl rfl fun h_7a I_7a R_7a=>?_
 refine q_obA ⟨"TRUE", "const",.ref (tyN 0),0,false,0,.int 1,0⟩ g' I_7a (ins_last _ _ _ _ _) (by simp) ⟨rfl,rfl,Nat.le_of_ble_eq_true rfl⟩ fun h_7 I_7 R_7=>?_
 rw [ins_setO] at I_7
 have R07:Rs σ.hp h_7:=((((((R_1.trans R_2).trans R_3).trans R_4).trans R_5).trans (R_6a.trans R_6)).trans (R_7a.trans R_7))
 have I7:Ag h_7 (fill0 ps):=I_7
 clear I_1 I_2 I_3 I_4 I_5 I_6a I_6 I_7a I_7 N_1 N_2 N_3 N_4 N_5 N_6 R_1 R_2 R_3 R_4 R_5 R_6a R_6 R_7a R_7
 have hz:∀ (k:Nat),t ≤ k → ∀ u,h_7 (0,k,u) = none:=fun k hk u=>(R07 (0,k,u) (fun q=>absurd q.1 (Nat.not_succ_le_zero 0))).trans (Fr k u hk)
 walk_at "es"
 refine mS_for (0,t,3) (fun k' τ=>∃ j,j + k' = 14 ∧ Ag τ.hp (fillJ ps (stdA.take j)) ∧ (∀ n:Nm,7 ≤ n.1 → τ.hp n = σ.hp n) ∧ Free (t + 1) τ.hp ∧ Fw t σ.hp τ.hp ∧ τ.hp (0,t,3) = some (.raw "tuple_iterator" [.v (.ref (0,t,2)),.ri (j:Nat)]) ∧ τ.hp (0,t,2) = some (.tup (stdA.map V.str)) ∧
  τ.vars "scopes" = some (.ref SP) ∧ τ.vars "types" = some (.ref TY)) ?_ ?_ ?_
 ·refine mE_bin (q_call0 g' nk_std_functions ?_)
  refine sp_std_functions (k:=k) (0,t,0) g' (rm'.less (by omega)) (hz t (Nat.le_refl _) 0) ?_
  refine q_call0 g' nk_std_procedures ?_
  refine sp_std_procedures (k:=k) (0,t,1) g' (rm'.less (by omega)) (H.skip (h:=h_7) (by walk_at "ne") (hz t (Nat.le_refl _) 1)) ?_
  refine b_catT (0,t,2) (xs:=stdF.map V.str) (ys:=stdP.map V.str) (H.skip (h:=H.set _ _ _) (by walk_at "ne") (H.set_self _ _ _)) (H.set_self _ _ _) (H.skip (h:=H.set _ _ _) (by walk_at "ne") (H.skip (h:=h_7) (by walk_at "ne") (hz t (Nat.le_refl _) 2))) ?_ (by decide) (by decide) (by decide)
  refine it_tup (0,t,3) (H.set_self _ _ _) (H.skip (h:=H.set _ _ _) (by walk_at "ne") (H.skip (h:=H.set _ _ _) (by walk_at "ne") (H.skip (h:=h_7) (by walk_at "ne") (hz t (Nat.le_refl _) 3)))) ⟨rfl,14,0,rfl,?_,?_,?_,?_,H.set_self _ _ _,H.skip (h:=H.set _ _ _) (by walk_at "ne") (H.set_self _ _ _),rfl,rfl⟩
  ·intro n a b
   have q:∀ u k:Nat,n ≠ (0,u,k):=fun u k e=>by subst e;exact absurd a (Nat.not_succ_le_zero 0)
   simp only [St.put]
   rw [H.set_ne _ _ (q _ _),H.set_ne _ _ (q _ _),H.set_ne _ _ (q _ _),H.set_ne _ _ (q _ _)]
   exact I7 n a b
  ·intro n a
   have q:∀ u k:Nat,n ≠ (0,u,k):=fun u k e=>by subst e;exact absurd a (by show ¬ 7 ≤ 0;exact fun q=>cf1 q)
   simp only [St.put]
   rw [H.set_ne _ _ (q _ _),H.set_ne _ _ (q _ _),H.set_ne _ _ (q _ _),H.set_ne _ _ (q _ _)]
   exact R07 n (by omega)
  ·intro u k hu
   have q:∀ k' : Nat,((0,u,k):Nm) ≠ (0,t,k'):=fun k' e=>by cases e;omega
   simp only [St.put]
   rw [H.set_ne _ _ (q _),H.set_ne _ _ (q _),H.set_ne _ _ (q _),H.set_ne _ _ (q _)]
   exact hz u (by omega) k
  ·intro u k hu
   have q:∀ k' : Nat,((0,u,k):Nm) ≠ (0,t,k'):=fun k' e=>by cases e;exact cf1 hu
   simp only [St.put]
   rw [H.set_ne _ _ (q _),H.set_ne _ _ (q _),H.set_ne _ _ (q _),H.set_ne _ _ (q _)]
   exact R07 _ (fun q=>absurd q.1 (Nat.not_succ_le_zero 0))
 ·rintro k' ⟨vs,hp⟩ ⟨j,_,_,_,_,_,e,_⟩
  rw [show (⟨vs,hp⟩ : St).hp (0,t,3) = _ from e];simp
 ·intro J';rintro k' ⟨vs,hp⟩ ⟨j,hj,I8,R8,Fr8,F8,e8,et8,hsc,hty⟩
  rcases Nat.lt_or_ge j 14 with lt | ge
  ·obtain ⟨nm,hnm,hnew⟩:=std_new j lt
   have Nj:=N.fillJ (stdA.take j)
   refine nx_tup (i:=j) (v:=.str nm) (xs:=stdA.map V.str) e8 et8 (by rw [List.getElem?_map,hnm];rfl) ?_
   refine as_name g'.ok ?_
   simp only [St.put]
   obtain ⟨h₃,hh⟩ : ∃ h₃,h₃ = hp.set (0,t,3) (.raw "tuple_iterator" [.v (.ref (0,t,2)),.ri (j + 1:Nat)]):=⟨_,rfl⟩
   have I9:Ag h₃ (fillJ ps (stdA.take j)):=fun n a b=>by rw [hh,H.set_ne _ _ (by rintro rfl;exact absurd a (Nat.not_succ_le_zero 0))];exact I8 n a b
   have R9:∀ n:Nm,7 ≤ n.1 → h₃ n = σ.hp n:=fun n a=>by rw [hh,H.set_ne _ _ (by rintro rfl;exact absurd a (by show ¬ 7 ≤ 0;exact fun q=>cf1 q))];exact R8 n a
   have Fr9:Free (t + 1) h₃:=fun u k hu=>by rw [hh,H.set_ne _ _ (by walk_at "ne")];exact Fr8 u k hu
   have F9:Fw t σ.hp h₃:=hh ▸ F8.set (by exact cl0)
   have e9:h₃ (0,t,3) = some (.raw "tuple_iterator" [.v (.ref (0,t,2)),.ri (j + 1:Nat)]):=hh ▸ H.set_self _ _ _
   have et9:h₃ (0,t,2) = some (.tup (stdA.map V.str)):=by rw [hh];exact H.skip (h:=hp) (by walk_at "ne") et8
   rw [← hh]
   clear hh
   walk_at "es"
   refine q_meth 1311 1301 g' (me_Scopes_insert _) (mE_local g'.ok hsc ⟨SP,_,rfl,I9.at (n:=SP) rfl,rfl,?_⟩)
   walk_at "es"
   refine q_get g' (I9.at (n:=TY) rfl) (by simp) rfl ?_
   walk_at "es"
   refine sp_insertN (k:=k) g' (rm'.less (by omega)) I9 Nj hnew (by simp [nm7,stdA,stdF,stdP];omega) rfl rfl fun h₄ I10 R10=>?_
   refine q_obA ⟨nm, "std",.ref (tyN 6),0,false,0,.str nm,0⟩ g' I10 (ins_last _ _ _ _ _) (by simp) ⟨rfl,rfl,Nat.le_of_ble_eq_true rfl⟩ fun h₅ I11 R11=>?_
   rw [ins_setO] at I11
   have R12:=R10.trans R11
   walk_at "es"
   have n0:∀ u k:Nat,¬ (1 ≤ ((0,u,k):Nm).1 ∧ ((0,u,k):Nm).1 ≤ 6):=fun u k q=>absurd q.1 (Nat.not_succ_le_zero 0)
   have etk:stdA.take (j + 1) = stdA.take j ++ [nm]:=by
    rw [List.take_add_one,hnm];rfl
   refine ⟨k' - 1,by omega,j + 1,by omega,?_,fun n a=>(R12 n (by omega)).trans (R9 n a),fun u k hu=>(R12 _ (n0 u k)).trans (Fr9 u k hu),fun u k hu=>(R12 _ (n0 u k)).trans (F9 u k hu),(R12 _ (n0 _ _)).trans e9,(R12 _ (n0 _ _)).trans et9,hsc,hty⟩
   rw [etk,fillJ_snoc]
   exact I11
  ·refine nx_tupE g'.ok (i:=j) (xs:=stdA.map V.str) e8 et8 (by simp [stdA,stdF,stdP];omega) ?_
   walk_at "es"
   have e14:stdA.take j = stdA:=List.take_of_length_le (by simp [stdA,stdF,stdP];omega)
   rw [e14] at I8
   simp only [St.put]
   refine h (hp.set (0,t,3) O.dead) (fun n a b=>?_) (fun n a=>?_) (fun u k hu=>?_) (F8.set (by exact cl0))
   ·rw [H.set_ne _ _ (by rintro rfl;exact absurd a (Nat.not_succ_le_zero 0))];exact I8 n a b
   ·rw [H.set_ne _ _ (by rintro rfl;exact absurd a (by show ¬ 7 ≤ 0;exact fun q=>cf1 q))];exact R8 n a
   ·rw [H.set_ne _ _ (by walk_at "ne")];exact Fr8 u k hu
end
theorem nk_Scanner (P:Params):nkB (KK P) "Scanner" 1227 = true:=by kernel_rfl
theorem nk_Scopes (P:Params):nkB (KK P) "Scopes" 1311 = true:=by kernel_rfl
noncomputable def ty7:List TyR:=[⟨"boolean",1,.none,0,[],0, ""⟩,⟨"char",1,.none,0,[],0, ""⟩,⟨"byte",1,.none,0,[],0, ""⟩,⟨"integer",4,.none,0,[],0, ""⟩,⟨"set",4,.none,0,[],0, ""⟩,⟨"nil",4,.none,0,[],0, ""⟩,⟨"none",0,.none,0,[],0, ""⟩]
noncomputable def psA (src:List Nat) (L:H):PS:=⟨src,0,[],0,ty7,[],[],[],[⟨-1,[]⟩],-1,[],[],[],L⟩
structure Pre (h:H) (src:List Nat) (L:H) (t:Nat):Prop where
 in1:∀ n:Nm,n.1 = 1 ∨ n.1 = 2 ∨ n.1 = 6 ∨ 10 ≤ n.1 → h n = spec (psA src L) n
 out:∀ n:Nm,n.1 = 3 ∨ n.1 = 4 ∨ n.1 = 5 ∨ n.1 = 7 ∨ n.1 = 8 ∨ n.1 = 9 → h n = none
 free:Free t h
noncomputable def ps0 (src:List Nat) (L:H) (k:Str) (v:V) (p:Int) (pl:Nat):PS:=(fillJ (psA src L) stdA).adv k v p pl
theorem spec_mid (P:PS) {a b d:Nat} (q1:10 ≤ a) (q2:a < 20):spec P (a,b,d) = none:=by
 obtain ⟨a,rfl⟩ : ∃ a',a = a' + 10:=⟨a - 10,by exact (Nat.sub_add_cancel q1).symm⟩
 have q:a < 10:=by exact cb1 q2
 have e:(arms P)[a + 10]? = some n2:=by
  show (List.replicate 10 n2)[a]? = some n2
  exact List.getElem?_replicate_of_lt q
 show pick (arms P) _ (a + 10) b d = none
 rw [pick_get e];rfl
theorem spec_own (P:PS) {a b d:Nat} (q1:20 ≤ a):spec P (a,b,d) = P.L (a,b,d):=by
 obtain ⟨a,rfl⟩ : ∃ a',a = a' + 20:=⟨a - 20,by exact (Nat.sub_add_cancel q1).symm⟩
 rfl
theorem init_eq {h5:H} {P:PS} {src:List Nat} {L:H} {kk:Str} {vv:V} {j m:Nat} (hsrc:P.src = src) (htk:P.toks = []) (hrec:P.recs = []) (hfw:P.fwd = []) (hnf:P.nf = []) (hL:P.L = L) (A:Ag h5 P)
  (s5:h5 SN = some (scO src (.ref ER) (0 + j + m:Nat) (.ref WD))) (w5:h5 WD = some (.tup (kwS.map V.str))) (z7:∀ n:Nm,n.1 = 7 → n ≠ SN → n ≠ WD → h5 n = none)
  (l1:h5 (8,1,0) = some (.list [])) (l2:h5 (8,2,0) = some (.list [])) (l3:h5 (8,3,0) = some (.list [])) (z8:∀ n:Nm,n.1 = 8 → n ≠ RD → n ≠ (8,1,0) → n ≠ (8,2,0) → n ≠ (8,3,0) → h5 n = none)
  (t5:h5 (tkN 0) = some (tokO (.str kk) vv (.int (0 + j:Nat)))) (z9:∀ n:Nm,n.1 = 9 → n ≠ tkN 0 → h5 n = none) (z10:∀ n:Nm,10 ≤ n.1 → n.1 < 20 → h5 n = none) (z20:∀ n:Nm,20 ≤ n.1 → h5 n = L n) :
  ∀ n:Nm,n.1 ≠ 0 → (h5.set RD (rdO 0)) n = spec (P.adv kk vv (j:Nat) (j + m)) n:=by
 rintro ⟨a,b,d⟩ ha
 show (h5.set RD (rdO 0)) (a,b,d) = comp _ a b d
 by_cases q8:a = 8
 ·subst q8
  show _ = c8 P.toks.length P.recs P.fwd.length P.nf b d
  rw [hrec,hfw,hnf,htk]
  rcases b with _ | _ | _ | _ | _ | b <;> rcases d with _ | d <;> first
   | rfl
   | (rw [H.set_ne _ _ (by walk_at "ne")];first | exact l1 | exact l2 | exact l3 | exact z8 _ rfl (by walk_at "ne") (by walk_at "ne") (by walk_at "ne") (by walk_at "ne"))
 ·rw [H.set_ne _ _ (by intro q;cases q;exact q8 rfl)]
  have hA:1 ≤ a → a ≤ 6 → h5 (a,b,d) = comp P a b d:=fun x y=>A _ x y
  rcases a with _ | _ | _ | _ | _ | _ | _ | _ | _ | _ | a
  ·exact absurd rfl ha
  iterate 6 exact hA (by decide) (by decide)
  ·show _ = c7 P.src (j + m) b d
   rw [hsrc]
   rw [Nat.zero_add] at s5
   rcases b with _ | _ | b <;> rcases d with _ | d <;> first | exact s5 | exact w5 | exact z7 _ rfl (by walk_at "ne") (by walk_at "ne")
  ·exact absurd rfl q8
  ·show _ = c9 (P.toks ++ [_]) b d
   rw [htk]
   rw [Nat.zero_add] at t5
   rcases b with _ | b <;> rcases d with _ | d <;> first | exact t5 | exact z9 _ rfl (by walk_at "ne")
  ·by_cases q:a < 10
   ·rw [z10 _ (by show 10 ≤ a + 10;exact cl0) (by show a + 10 < 20;exact cb1 q)]
    exact (spec_mid _ (by exact Nat.le_add_left 10 a) (by show a + 10 < 20;omega)).symm
   ·rw [z20 _ (by show 20 ≤ a + 10;exact cb1 (Nat.not_lt.mp q)),← hL]
    obtain ⟨a',rfl⟩ : ∃ a',a = a' + 10:=⟨a - 10,by exact (Nat.sub_add_cancel (Nat.not_lt.mp q)).symm⟩
    rfl
structure Kp (p q:PS):Prop where
 src:q.src = p.src
 toks:q.toks = p.toks
 recs:q.recs = p.recs
 fwd:q.fwd = p.fwd
 nf:q.nf = p.nf
 L:q.L = p.L
 types:q.types = p.types
 keys:q.keys = p.keys
 ks:q.ks = p.ks
theorem Kp.trans {p q r:PS} (a:Kp p q) (b:Kp q r):Kp p r:=⟨b.1.trans a.1,b.2.trans a.2,b.3.trans a.3,b.4.trans a.4,b.5.trans a.5,b.6.trans a.6,b.7.trans a.7,b.8.trans a.8,b.9.trans a.9⟩
theorem ins_keep (p:PS) (n k:Str) (t v:V):Kp p (p.ins n k t v):=⟨rfl,rfl,rfl,rfl,rfl,rfl,rfl,rfl,rfl⟩
theorem fill0_keep (p:PS):Kp p (fill0 p):=by
 unfold fill0
 exact ((((((ins_keep _ _ _ _ _).trans (ins_keep _ _ _ _ _)).trans (ins_keep _ _ _ _ _)).trans (ins_keep _ _ _ _ _)).trans (ins_keep _ _ _ _ _)).trans (ins_keep _ _ _ _ _)).trans (ins_keep _ _ _ _ _)
theorem fillJ_keep (P:PS) (l:List Str):Kp P (fillJ P l):=by
 have:∀ (l:List Str) (p:PS),Kp p (l.foldl (fun p nm=>p.ins nm "std" (.ref (tyN 6)) (.str nm)) p):=by
  intro l
  induction l with
  | nil=>intro p;exact ⟨rfl,rfl,rfl,rfl,rfl,rfl,rfl,rfl,rfl⟩
  | cons x l ih=>intro p;exact (ins_keep _ _ _ _ _).trans (ih _)
 exact (fill0_keep P).trans (this l (fill0 P))
section
variable {c:Cx} {σ:St}
theorem sp_Reader {src R:List Nat} {L:H} {t j m:Nat} {kk:Str} {vv:V} {Q:V → St → Prop} {k:Nat} (g:Good c) (rm:Rm c (k + 8)) (I:Pre σ.hp src L t) (hz:src.length ≤ 1000000) (hd:src = List.replicate j 32 ++ R) (hx:Lx R (.str kk) vv m)
  (h:∀ h' t',t ≤ t' → Is h' (ps0 src L kk vv (j:Nat) (j + m)) t' → Fw t σ.hp h' → Q (.ref RD) ⟨σ.vars,h'⟩):mCall c 1403 [.str (tx src),.ref TY,.ref ER] Q σ:=by
 refine q_new RD g rm (I.out _ (by decide)) (mk_Reader _) (in_Reader _) (if_Reader _) fun c' g₁ rm₁ _=>?_
 refine q_fun ["self", "source", "types", "errors", "importer"] [_,_,_,_,.none] g₁ rm₁ (fun _=>dk1 rfl rfl) (fun ρ s xs X W=>by
  obtain ⟨x,_,rfl,V1,W1⟩:=W.cons_inv;obtain ⟨y,_,rfl,V2,W2⟩:=W1.cons_inv;obtain ⟨w,_,rfl,V3,W3⟩:=W2.cons_inv;obtain ⟨u,_,rfl,V4,W4⟩:=W3.cons_inv;cases W4.nil_inv
  rw [g₁.hK] at X
  exact ⟨[x,y,w,u,.none],BindsTo.of_defaults rfl (X 1344 _ rfl) rfl rfl rfl,.cons V1 (.cons V2 (.cons V3 (.cons V4 (.cons rfl .nil))))⟩) rfl fun B L' g' rm'=>?_
 simp only [St.put]
 walk_at "es"
 refine q_call g' nk_Scanner ?_
 walk_at "es"
 refine sp_Scanner (k:=k) g' (rm'.less (by omega)) (by show (σ.hp.set RD (.inst 1403 [])) SN = none;rw [H.set_ne _ _ (by decide)];exact I.out SN (by decide)) (by show (σ.hp.set RD (.inst 1403 [])) WD = none;rw [H.set_ne _ _ (by decide)];exact I.out WD (by decide)) ?_
 simp only [H.set_set]
 rw [H.set_comm (n:=RD) (n':=WD) (by decide),H.set_comm (n:=RD) (n':=SN) (by decide)]
 obtain ⟨h1,hh1⟩ : ∃ h1,h1 = (σ.hp.set WD (.tup (kwS.map V.str))).set SN (scO src (.ref ER) 0 (.ref WD)):=⟨_,rfl⟩
 have o1:∀ n:Nm,n.1 ≠ 7 → h1 n = σ.hp n:=fun n hn=>by rw [hh1,H.set_ne _ _ (by rintro rfl;exact hn rfl),H.set_ne _ _ (by rintro rfl;exact hn rfl)]
 have s1:h1 SN = some (scO src (.ref ER) 0 (.ref WD)):=hh1 ▸ H.set_self _ _ _
 have w1:h1 WD = some (.tup (kwS.map V.str)):=by rw [hh1];exact H.skip (h:=H.set _ _ _) (by decide) (H.set_self _ _ _)
 have z1:∀ n:Nm,n.1 = 7 → n ≠ SN → n ≠ WD → h1 n = none:=fun n hn a b=>by rw [hh1,H.set_ne _ _ a,H.set_ne _ _ b];exact I.out n (by omega)
 rw [← hh1]
 clear hh1
 walk_at "es"
 refine q_put g' rfl (by simp) ?_
 simp only [St.put,H.set_set]
 walk_at "es"
 refine q_put g' rfl (by simp) ?_
 simp only [St.put,H.set_set]
 walk_at "es"
 refine q_put g' rfl (by simp) ?_
 simp only [St.put,H.set_set]
 walk_at "es"
 refine q_put g' rfl (by simp) ?_
 simp only [St.put,H.set_set]
 walk_at "es"
 refine q_call g' nk_Scopes ?_
 walk_at "es"
 have o1' : ∀ n:Nm,n ≠ RD → n.1 ≠ 7 → ∀ o,(h1.set RD o) n = σ.hp n:=fun n a b o=>by rw [H.set_ne _ _ a];exact o1 n b
 refine sp_Scopes (k:=k) g' (rm'.less (by omega)) ((o1' SP (by decide) (by decide) .dead).trans (I.out SP (by decide))) ((o1' (5,1,0) (by decide) (by decide) .dead).trans (I.out (5,1,0) (by decide))) (fun i=>by exact (o1' (4,0,i) (by walk_at "ne") (by walk_at "ne") .dead).trans (I.out (4,0,i) (.inr (.inl rfl)))) ?_
 rw [H.set_comm (n:=RD) (n':=(4,0,1)) (by decide),H.set_comm (n:=RD) (n':=(4,0,2)) (by decide),H.set_comm (n:=RD) (n':=(4,0,0)) (by decide),H.set_comm (n:=RD) (n':=(5,1,0)) (by decide),H.set_comm (n:=RD) (n':=SP) (by decide)]
 obtain ⟨h2,hh2⟩ : ∃ h2,h2 = ((((h1.set (4,0,1) (.dict [])).set (4,0,2) (.list [])).set (4,0,0) (scpO 0 ⟨-1,[]⟩)).set (5,1,0) (.list [.ref (4,0,0)])).set SP (spO (-1)):=⟨_,rfl⟩
 have o2:∀ n:Nm,n.1 ≠ 4 → n.1 ≠ 5 → h2 n = h1 n:=fun n a b=>by
  rw [hh2,H.set_ne _ _ (by rintro rfl;exact b rfl),H.set_ne _ _ (by rintro rfl;exact b rfl),H.set_ne _ _ (by rintro rfl;exact a rfl),H.set_ne _ _ (by rintro rfl;exact a rfl),H.set_ne _ _ (by rintro rfl;exact a rfl)]
 have A2:Ag h2 (psA src L):=by
  rintro ⟨a,b,d⟩ ha hb
  have hin:a ≠ 4 → a ≠ 5 → h2 (a,b,d) = σ.hp (a,b,d):=fun q q'=>(o2 _ q q').trans (o1 _ (by show a ≠ 7;have:a ≤ 6:=hb;exact fun q=>cf2 (eR q) hb))
  rcases a with _ | _ | _ | _ | _ | _ | _ | a
  ·exact absurd ha (by show ¬ 1 ≤ 0;decide)
  ·exact (hin (by decide) (by decide)).trans (I.in1 _ (.inl rfl))
  ·exact (hin (by decide) (by decide)).trans (I.in1 _ (.inr (.inl rfl)))
  ·rw [hin (by decide) (by decide),I.out _ (by simp)]
   show none = c3 [] b d
   cases d <;> rfl
  ·have e5:h2 (4,b,d) = ((h1.set (4,0,1) (.dict [])).set (4,0,2) (.list [])).set (4,0,0) (scpO 0 ⟨-1,[]⟩) (4,b,d):=by
    rw [hh2,H.set_ne _ _ (by walk_at "ne"),H.set_ne _ _ (by walk_at "ne")]
   rw [e5]
   rcases b with _ | b <;> rcases d with _ | _ | _ | d <;> first
    | rfl
    | (rw [H.set_ne _ _ (by walk_at "ne"),H.set_ne _ _ (by walk_at "ne"),H.set_ne _ _ (by walk_at "ne"),o1 _ (by decide:(4:Nat) ≠ 7),I.out _ (by simp)];rfl)
  ·rw [hh2]
   rcases b with _ | _ | b <;> rcases d with _ | d <;> first
    | rfl
    | (rw [H.set_ne _ _ (by walk_at "ne"),H.set_ne _ _ (by walk_at "ne"),H.set_ne _ _ (by walk_at "ne"),H.set_ne _ _ (by walk_at "ne"),H.set_ne _ _ (by walk_at "ne"),o1 _ (by decide:(5:Nat) ≠ 7),I.out _ (by simp)];rfl)
  ·exact (hin (by decide) (by decide)).trans (I.in1 _ (.inr (.inr (.inl rfl))))
  ·exact absurd hb (by show ¬ a + 7 ≤ 6;omega)
 have F2:∀ u k:Nat,h2 (0,u,k) = σ.hp (0,u,k):=fun u k=>(o2 _ (by decide:(0:Nat) ≠ 4) (by decide:(0:Nat) ≠ 5)).trans (o1 _ (by decide:(0:Nat) ≠ 7))
 have o2' : ∀ n:Nm,n.1 ≠ 4 → n.1 ≠ 5 → n.1 ≠ 7 → h2 n = σ.hp n:=fun n a b d=>(o2 n a b).trans (o1 n d)
 have s2:h2 SN = some (scO src (.ref ER) 0 (.ref WD)):=(o2 _ (by decide) (by decide)).trans s1
 have w2:h2 WD = some (.tup (kwS.map V.str)):=(o2 _ (by decide) (by decide)).trans w1
 have z2:∀ n:Nm,n.1 = 7 → n ≠ SN → n ≠ WD → h2 n = none:=fun n hn a b=>(o2 _ (by exact fun q=>cf2 (eL q) (eR hn)) (fun q=>cf2 (eL q) (eR hn))).trans (z1 n hn a b)
 rw [← hh2]
 clear hh2
 walk_at "es"
 refine q_put g' rfl (by simp) ?_
 simp only [St.put,H.set_set]
 walk_at "es"
 refine q_call g' nk_fill ?_
 walk_at "es"
 refine q_get g' (n:=RD) rfl (by simp) rfl ?_
 walk_at "es"
 have A3:∀ o,Ag (h2.set RD o) (psA src L):=fun o n a b=>by
  rw [H.set_ne _ _ (by rintro rfl;exact absurd b (by decide))];exact A2 n a b
 have Fr3:∀ o,Free t (h2.set RD o):=fun o u k hu=>by rw [H.set_ne _ _ (by walk_at "ne"),F2];exact I.free u k hu
 refine sp_fill (ps:=psA src L) (t:=t) (k:=k) g' (rm'.less (by omega)) (A3 _) (Fr3 _) ⟨rfl,rfl,rfl⟩ fun h3 A4 R4 Fr4 F4=>?_
 walk_at "es"
 have R4' : ∀ n:Nm,7 ≤ n.1 → n ≠ RD → h3 n = h2 n:=fun n a b=>(R4 n a).trans (H.set_ne _ _ b)
 have F4' : ∀ u k:Nat,u < t → h3 (0,u,k) = σ.hp (0,u,k):=fun u k hu=>(show h3 (0,u,k) = h2 (0,u,k) from F4 u k hu).trans (F2 u k)
 have e3:=R4 RD (by decide)
 have e3' : h3 RD = some (.inst 1403 (putF "scopes" (.ref SP) (putF "importer" .none (putF "errors" (.ref ER) (putF "types" (.ref TY) (putF "scanner" (.ref SN) [])))))):=e3
 have z3:∀ n:Nm,n.1 = 8 → n ≠ RD → h3 n = none:=fun n hn a=>(R4' n (by exact cb1 (eR hn)) a).trans ((o2' n (by exact fun q=>cf2 (eL q) (eR hn)) (fun q=>cf2 (eL q) (eR hn)) (fun q=>cf2 (eL q) (eR hn))).trans (I.out n (by omega)))
 have z9:∀ n:Nm,n.1 = 9 → h3 n = none:=fun n hn=>(R4' n (by exact cb1 (eR hn)) (by rintro rfl;exact absurd hn (by decide))).trans ((o2' n (by exact fun q=>cf2 (eL q) (eR hn)) (fun q=>cf2 (eL q) (eR hn)) (fun q=>cf2 (eL q) (eR hn))).trans (I.out n (by omega)))
 have z10:∀ n:Nm,10 ≤ n.1 → h3 n = σ.hp n:=fun n hn=>(R4' n (by exact cb1 hn) (by rintro rfl;exact absurd hn (by decide))).trans (o2' n (by exact fun q=>cf2 (eL q) hn) (fun q=>cf2 (eL q) hn) (fun q=>cf2 (eL q) hn))
 have s3:h3 SN = some (scO src (.ref ER) 0 (.ref WD)):=(R4' _ (by decide) (by decide)).trans s2
 have w3:h3 WD = some (.tup (kwS.map V.str)):=(R4' _ (by decide) (by decide)).trans w2
 have z7:∀ n:Nm,n.1 = 7 → n ≠ SN → n ≠ WD → h3 n = none:=fun n hn a b=>(R4' _ (by exact cb1 (eR hn)) (by rintro rfl;exact absurd hn (by decide))).trans (z2 n hn a b)
 clear e3 R4 F4 Fr3 A3 z2 w2 s2 A2 o2' F2 o2 z1 w1 s1 o1' o1
 refine q_put g' e3' (by simp) ?_
 simp only [St.put,H.set_set]
 walk_at "es"
 refine l_new (8,1,0) (z3 (8,1,0) rfl (by decide)) ?_
 simp only [St.put,H.set_set]
 rw [H.set_comm (n:=RD) (n':=(8,1,0)) (by decide)]
 walk_at "es"
 refine q_put g' rfl (by simp) ?_
 simp only [St.put,H.set_set]
 walk_at "es"
 refine l_new (8,2,0) (z3 (8,2,0) rfl (by decide)) ?_
 simp only [St.put,H.set_set]
 rw [H.set_comm (n:=RD) (n':=(8,2,0)) (by decide)]
 walk_at "es"
 refine q_put g' rfl (by simp) ?_
 simp only [St.put,H.set_set]
 walk_at "es"
 refine l_new (8,3,0) (z3 (8,3,0) rfl (by decide)) ?_
 simp only [St.put,H.set_set]
 rw [H.set_comm (n:=RD) (n':=(8,3,0)) (by decide)]
 walk_at "es"
 refine q_put g' rfl (by simp) ?_
 simp only [St.put,H.set_set]
 walk_at "es"
 refine q_put g' rfl (by simp) ?_
 simp only [St.put,H.set_set]
 walk_at "es"
 have hsv:∀ n:Nm,n ≠ RD → n ≠ (8,1,0) → n ≠ (8,2,0) → n ≠ (8,3,0) → ∀ o,((((h3.set (8,1,0) (.list [])).set (8,2,0) (.list [])).set (8,3,0) (.list [])).set RD o) n = h3 n:=fun n a b d e o=>by
  rw [H.set_ne _ _ a,H.set_ne _ _ e,H.set_ne _ _ d,H.set_ne _ _ b]
 obtain ⟨oR,hoR⟩ : ∃ oR,oR = (O.inst 1403 (putF "level" (.int 0) (putF "forwards" (.ref (8,3,0)) (putF "records" (.ref (8,2,0)) (putF "procs" (.ref (8,1,0)) (putF "module" (.str "") (putF "scopes" (.ref SP) (putF "importer" .none (putF "errors" (.ref ER) (putF "types" (.ref TY) (putF "scanner" (.ref SN) []))))))))))):=⟨_,rfl⟩
 obtain ⟨h4,hh4⟩ : ∃ h4,h4 = (((h3.set (8,1,0) (.list [])).set (8,2,0) (.list [])).set (8,3,0) (.list [])).set RD oR:=⟨_,rfl⟩
 have e4:h4 RD = some (.inst 1403 (putF "level" (.int 0) (putF "forwards" (.ref (8,3,0)) (putF "records" (.ref (8,2,0)) (putF "procs" (.ref (8,1,0)) (putF "module" (.str "") (putF "scopes" (.ref SP) (putF "importer" .none (putF "errors" (.ref ER) (putF "types" (.ref TY) (putF "scanner" (.ref SN) []))))))))))):=by rw [hh4,← hoR];exact H.set_self _ _ _
 have l1:h4 (8,1,0) = some (.list []):=by rw [hh4];rfl
 have l2:h4 (8,2,0) = some (.list []):=by rw [hh4];rfl
 have l3:h4 (8,3,0) = some (.list []):=by rw [hh4];rfl
 have o4:∀ n:Nm,n.1 ≠ 8 → h4 n = h3 n:=fun n hn=>by rw [hh4];exact hsv n (by rintro rfl;exact hn rfl) (by rintro rfl;exact hn rfl) (by rintro rfl;exact hn rfl) (by rintro rfl;exact hn rfl) _
 have z4:∀ n:Nm,n.1 = 8 → n ≠ RD → n ≠ (8,1,0) → n ≠ (8,2,0) → n ≠ (8,3,0) → h4 n = none:=fun n hn a b d e=>by rw [hh4];exact (hsv n a b d e _).trans (z3 n hn a)
 subst hoR
 rw [← hh4]
 clear hh4 hsv z3
 have s4:h4 SN = some (scO src (.ref ER) 0 (.ref WD)):=(o4 _ (by decide)).trans s3
 have w4:h4 WD = some (.tup (kwS.map V.str)):=(o4 _ (by decide)).trans w3
 refine q_meth0 1227 1147 g' (me_Scanner_take _) (mE_attr (mE_local g'.ok rfl (q_get g' e4 (by simp) rfl ⟨SN,_,rfl,s4,rfl,?_⟩)))
 refine sp_take (k:=k) (t:=t + 1) (R:=R) (tkN 0) g' (rm'.less (by omega)) s4 w4 hz (by rw [List.drop_zero];exact hd) hx ((o4 _ (by decide)).trans (z9 _ rfl)) (by decide) (by decide) (by decide) (by decide) (by decide) (fun u k hu=>(o4 _ (by walk_at "ne")).trans (Fr4 u k hu)) fun h5 G5=>?_
 have o5:∀ n:Nm,(n.1 ≠ 0 ∨ n.2.1 < t + 1) → n ≠ SN → n ≠ tkN 0 → h5 n = h4 n:=fun n a b d=>(G5.1 n a).trans (by rw [H.set_ne _ _ d,H.set_ne _ _ b])
 have s5:h5 SN = some (scO src (.ref ER) (0 + j + m:Nat) (.ref WD)):=G5.1 SN (.inl (by decide))
 have t5:h5 (tkN 0) = some (tokO (.str kk) vv (.int (0 + j:Nat))):=G5.1 (tkN 0) (.inl (by decide))
 walk_at "es"
 refine q_put g' ((o5 RD (.inl (by decide)) (by decide) (by decide)).trans e4) (by simp) ?_
 walk_at "es"
 refine ⟨rfl,h _ (t + 1 + 1) (by omega) ⟨?_,?_⟩ ?_⟩
 ·obtain ⟨k1,k2,k3,k4,k5,k6,_,_,_⟩:=fillJ_keep (psA src L) stdA
  have far:∀ x:Nm,x.1 ≠ 0 → x ≠ SN → x ≠ tkN 0 → x.1 ≠ 8 → h5 x = h3 x:=fun x q1 q3 q4 q5=>(o5 x (.inl q1) q3 q4).trans (o4 x q5)
  refine init_eq k1 k2 k3 k4 k5 k6 (fun n q1 q2=>(far n (by exact fun q=>cf2 (eL q) q1) (by rintro rfl;exact absurd q2 (by decide)) (by rintro rfl;exact absurd q2 (by decide)) (fun q=>cf2 (eR q) q2)).trans (A4 n q1 q2)) s5 ((far WD (by decide) (by decide) (by decide) (by decide)).trans w3) (fun n q1 q2 q3=>(far n (by exact fun q=>cf2 (eL q) (eR q1)) q2 (by rintro rfl;exact absurd q1 (by decide)) (fun q=>cf2 (eR q) (eL q1))).trans (z7 n q1 q2 q3))
   ((o5 _ (.inl (by decide)) (by decide) (by decide)).trans l1) ((o5 _ (.inl (by decide)) (by decide) (by decide)).trans l2) ((o5 _ (.inl (by decide)) (by decide) (by decide)).trans l3) (fun n q1 q2 q3 q4 q5=>(o5 _ (.inl (by exact fun q=>cf2 (eL q) (eR q1))) (by rintro rfl;exact absurd q1 (by decide)) (by rintro rfl;exact absurd q1 (by decide))).trans (z4 n q1 q2 q3 q4 q5)) t5
   (fun n q1 q2=>(far n (by exact fun q=>cf2 (eL q) (eR q1)) (by rintro rfl;exact absurd q1 (by decide)) q2 (by exact fun q=>cf2 (eL q) (eR q1))).trans (z9 n q1)) (fun n q1 q2=>?_) (fun n q1=>?_)
  ·refine (far n (by exact fun q=>cf2 (eL q) q1) (by rintro rfl;exact absurd q1 (by decide)) (by rintro rfl;exact absurd q1 (by decide)) (fun q=>cf2 (eL q) q1)).trans ((z10 n q1).trans ((I.in1 n (by omega)).trans ?_))
   obtain ⟨a,b,d⟩:=n
   exact spec_mid _ q1 q2
  ·refine (far n (by exact fun q=>cf2 (eL q) q1) (by rintro rfl;exact absurd q1 (by decide)) (by rintro rfl;exact absurd q1 (by decide)) (fun q=>cf2 (eL q) q1)).trans ((z10 n (by exact cb1 q1)).trans ((I.in1 n (by omega)).trans ?_))
   obtain ⟨a,b,d⟩:=n
   exact spec_own _ q1
 ·intro u k hu
  exact G5.2 u k hu
 ·intro u k hu
  exact (show _ = h5 (0,u,k) from rfl).trans ((o5 _ (.inr (by show u < t + 1;exact cb1 hu)) (by walk_at "ne") (by walk_at "ne")).trans ((o4 _ (by walk_at "ne")).trans (F4' u k hu)))
end
theorem pre_inits {h0 L:H} {src:List Nat} {t:Nat} (hz:∀ n:Nm,1 ≤ n.1 → n.1 < 20 → h0 n = none) (hL:∀ n:Nm,20 ≤ n.1 → h0 n = L n) (hf:Free t h0) :
  Pre ((((((newTy (newTy (newTy (newTy (newTy (newTy (newTy (h0.set KN (.known [])) 0 ⟨"boolean",1,.none,0,[],0, ""⟩) 1 ⟨"char",1,.none,0,[],0, ""⟩) 2 ⟨"byte",1,.none,0,[],0, ""⟩) 3 ⟨"integer",4,.none,0,[],0, ""⟩) 4 ⟨"set",4,.none,0,[],0, ""⟩) 5 ⟨"nil",4,.none,0,[],0, ""⟩) 6 ⟨"none",0,.none,0,[],0, ""⟩).set TY (tysO 7)).set (6,1,0) (.list [])).set (6,2,0) (.dict [])).set ER erO)) src L t:=by
 obtain ⟨h1,hh1⟩ : ∃ h1,h1 = (newTy (newTy (newTy (newTy (newTy (newTy (newTy (h0.set KN (.known [])) 0 ⟨"boolean",1,.none,0,[],0, ""⟩) 1 ⟨"char",1,.none,0,[],0, ""⟩) 2 ⟨"byte",1,.none,0,[],0, ""⟩) 3 ⟨"integer",4,.none,0,[],0, ""⟩) 4 ⟨"set",4,.none,0,[],0, ""⟩) 5 ⟨"nil",4,.none,0,[],0, ""⟩) 6 ⟨"none",0,.none,0,[],0, ""⟩):=⟨_,rfl⟩
 rw [← hh1]
 have f1:∀ x:Nm,x.1 ≠ 2 → h1 x = (h0.set KN (.known [])) x:=fun x q=>by
  rw [hh1]
  rw [newTy_ne (.inl q),newTy_ne (.inl q),newTy_ne (.inl q),newTy_ne (.inl q),newTy_ne (.inl q),newTy_ne (.inl q),newTy_ne (.inl q)]
 have f0:∀ x:Nm,x.1 ≠ 2 → x ≠ KN → h1 x = h0 x:=fun x q q'=>(f1 x q).trans (H.set_ne _ _ q')
 have f2:∀ b d:Nat,h1 (2,b,d) = spec (psA src L) (2,b,d):=by
  intro b d
  rw [hh1]
  have hn:∀ d,¬ (d = 0 ∨ d = 1 ∨ d = 2 ∨ d = 3) → ∀ (h:H) (m:Nat) (r:TyR),newTy h m r (2,b,d) = h (2,b,d):=fun d q h m r=>by
   unfold newTy
   rw [H.set_ne _ _ (by intro e;cases e;exact q (.inl rfl)),H.set_ne _ _ (by intro e;cases e;exact q (.inr (.inr (.inr rfl)))),H.set_ne _ _ (by intro e;cases e;exact q (.inr (.inr (.inl rfl)))),H.set_ne _ _ (by intro e;cases e;exact q (.inr (.inl rfl)))]
  match d with
  | d + 4=>
   have hd:¬ (d + 4 = 0 ∨ d + 4 = 1 ∨ d + 4 = 2 ∨ d + 4 = 3):=by omega
   rw [hn _ hd,hn _ hd,hn _ hd,hn _ hd,hn _ hd,hn _ hd,hn _ hd,H.set_ne _ _ (by walk_at "ne"),hz _ (by decide:1 ≤ 2) (by decide:2 < 20)]
   rfl
  | 0 | 1 | 2 | 3=>
   match b with
   | 0 | 1 | 2 | 3 | 4 | 5 | 6=>rfl
   | b + 7=>
    have q:∀ m,m < 7 → ∀ x:Nm,x = (2,b + 7,x.2.2) → x.1 ≠ 2 ∨ x.2.1 ≠ m:=fun m hm x e=>.inr (by rw [e];show b + 7 ≠ m;exact fun q=>cf2 (eL q) hm)
    rw [newTy_ne (q 6 (by decide) _ rfl),newTy_ne (q 5 (by decide) _ rfl),newTy_ne (q 4 (by decide) _ rfl),newTy_ne (q 3 (by decide) _ rfl),newTy_ne (q 2 (by decide) _ rfl),newTy_ne (q 1 (by decide) _ rfl),newTy_ne (q 0 (by decide) _ rfl),H.set_ne _ _ (by walk_at "ne"),hz _ (by decide:1 ≤ 2) (by decide:2 < 20)]
    have e7:ty7[b + 7]? = none:=List.getElem?_eq_none (by show 7 ≤ b + 7;exact cl0)
    first
     | (show none = Option.map (tyO (b + 7)) (ty7[b + 7]?);rw [e7];rfl)
     | (show none = Option.map (fun r:TyR=>O.list r.fields) (ty7[b + 7]?);rw [e7];rfl)
     | (show none = Option.map (fun _:TyR=>O.list []) (ty7[b + 7]?);rw [e7];rfl)
 clear hh1
 obtain ⟨h2,hh2⟩ : ∃ h2,h2 = (((h1.set TY (tysO 7)).set (6,1,0) (.list [])).set (6,2,0) (.dict [])).set ER erO:=⟨_,rfl⟩
 rw [← hh2]
 have g:∀ x:Nm,x ≠ TY → x.1 ≠ 6 → h2 x = h1 x:=fun x a b=>by
  rw [hh2,H.set_ne _ _ (by rintro rfl;exact b rfl),H.set_ne _ _ (by rintro rfl;exact b rfl),H.set_ne _ _ (by rintro rfl;exact b rfl),H.set_ne _ _ a]
 refine ⟨?_,?_,?_⟩
 ·rintro ⟨a,b,d⟩ ha
  by_cases a1:a = 1
  ·subst a1
   by_cases e:((1,b,d):Nm) = TY
   ·cases e;rw [hh2];rfl
   ·rw [g _ e (by walk_at "ne")]
    by_cases e' : ((1,b,d):Nm) = KN
    ·cases e';exact (f1 KN (by decide)).trans rfl
    ·rw [f0 _ (by walk_at "ne") e',hz _ (by decide:1 ≤ 1) (by decide:1 < 20)]
     show none = comp (psA src L) 1 b d
     match b,d,e,e' with
     | 0,0,e,_=>exact absurd rfl e
     | 0,d + 1,_,_=>rfl
     | 1,0,_,e'=>exact absurd rfl e'
     | 1,d + 1,_,_=>rfl
     | 2,d,_,_=>rfl
     | b + 3,d,_,_=>rfl
  ·by_cases a2:a = 2
   ·subst a2
    rw [g _ (by walk_at "ne") (by walk_at "ne")];exact f2 b d
   ·by_cases a6:a = 6
    ·subst a6
     have z6:∀ x:Nm,x.1 = 6 → x ≠ ER → x ≠ (6,1,0) → x ≠ (6,2,0) → h2 x = none:=fun x q e1 e2 e3=>by
      rw [hh2,H.set_ne _ _ e1,H.set_ne _ _ e3,H.set_ne _ _ e2,H.set_ne _ _ (by rintro rfl;cases q),f0 _ (by omega) (by rintro rfl;cases q)]
      exact hz _ (by exact cb1 (eR q)) (by exact cb1 (eL q))
     match b,d with
     | 0,0=>rw [hh2];rfl
     | 1,0=>rw [hh2];rfl
     | 2,0=>rw [hh2];rfl
     | b + 3,0 | 0,d + 1 | 1,d + 1 | 2,d + 1 | b + 3,d + 1=>rw [z6 _ rfl (by walk_at "ne") (by walk_at "ne") (by walk_at "ne")];rfl
    ·have h10:10 ≤ a:=by
      rcases ha with h | h | h | h
      ·exact absurd h a1
      ·exact absurd h a2
      ·exact absurd h a6
      ·exact h
     rw [g _ (by rintro q;cases q;exact a1 rfl) a6,f0 _ a2 (by rintro q;cases q;exact a1 rfl)]
     by_cases q:a < 20
     ·rw [hz _ (by show 1 ≤ a;exact cb1 h10) q,spec_mid _ h10 q]
     ·rw [hL _ (by show 20 ≤ a;exact cb1 (Nat.not_lt.mp q)),spec_own _ (by exact cb1 (Nat.not_lt.mp q))]
      rfl
 ·rintro ⟨a,b,d⟩ ha
  have ha' : a = 3 ∨ a = 4 ∨ a = 5 ∨ a = 7 ∨ a = 8 ∨ a = 9:=ha
  obtain ⟨n1,n2,n6,l1,l20⟩ : a ≠ 1 ∧ a ≠ 2 ∧ a ≠ 6 ∧ 1 ≤ a ∧ a < 20:=by rcases ha' with rfl | rfl | rfl | rfl | rfl | rfl <;> decide
  rw [g _ (nff n1) n6,f0 _ n2 (nff n1)]
  exact hz _ l1 l20
 ·intro u k hu
  rw [g _ (by walk_at "ne") (by walk_at "ne"),f0 _ (by walk_at "ne") (by walk_at "ne")]
  exact hf u k hu
section
variable {c:Cx} {σ:St}
theorem sp_errors_ok {ps:PS} {t:Nat} {Q:V → St → Prop} {k:Nat} (g:Good c) (rm:Rm c (k + 1)) (I:Is σ.hp ps t) (h:Q (.bool true) σ):mCall c 1055 [.ref ER] Q σ:=by
 refine q_fun ["self"] [_] g rm (fun _=>dk1 rfl rfl) (hb1 fun _=>rfl) rfl fun B L=>?_
 intro c' QQ g' rm'
 walk_at "es"
 refine q_bi g' nb_len bb_len ?_
 walk_at "es"
 refine q_get g' (I.at (n:=ER) rfl) (by simp) rfl ?_
 walk_at "es"
 refine MW1.toS (f_lenL (I.at (n:=(6,1,0)) rfl) ?_ (by simp))
 walk_at "es"
 exact c_eq h
end
theorem nk_law_pool (P:Params):nkB (KK P) "_law_pool" 1414 = true:=by kernel_rfl
theorem nk_law_pick (P:Params):nkB (KK P) "_law_pick" 1421 = true:=by kernel_rfl
theorem nk_law_field (P:Params):nkB (KK P) "_law_field" 1426 = true:=by kernel_rfl
noncomputable abbrev PL:Nm:=(20,0,0)
noncomputable abbrev FG:Nm:=(20,0,1)
structure PoolOk (h:H):Prop where
 ex:∃ (fs:List Int) (a b:Int),h PL = some (.list [.ref FG,.int a,.int b]) ∧ h FG = some (.list (fs.map V.int)) ∧ 0 ≤ a ∧ 0 ≤ b ∧ b < 1009 ∧ (∀ x ∈ fs,0 ≤ x) ∧ fs.length ≤ 1000
section
variable {c:Cx} {σ:St}
theorem s_any {o i:Expr} {a b:V} {Q:V → St → Prop} (h:MW2 c RVal a b (subscriptTail (.Name "_" ⟨0,0,0,0⟩) i) Q σ):MW2 c RVal a b (subscriptTail o i) Q σ:=fun ρ δ news m s x y R V U=>kba_turn (fun _=>rfl) (h ρ δ news m s x y R V U)
theorem sp_pick {lim:Nat} {Q:V → St → Prop} {k:Nat} (g:Good c) (rm:Rm c (k + 1)) (P:PoolOk σ.hp) (hl:1 ≤ lim) (hl2:lim ≤ 1000)
  (h:∀ h' (v:Nat),v < lim → PoolOk h' → (∀ n,n ≠ PL → h' n = σ.hp n) → Q (.int (v:Int)) ⟨σ.vars,h'⟩):mCall c 1421 [.ref PL,.int (lim:Int)] Q σ:=by
 obtain ⟨fs,a,b,eP,eF,ha,hb,hbu,hfs,hfl⟩:=P.ex
 refine q_fun ["pool", "limit_x"] [_,_] g rm (fun _=>dk1 rfl rfl) (hb2 fun _ _=>rfl) rfl fun B L=>?_
 intro c' QQ g' rm'
 have res:∀ x:Int,0 ≤ x → ∃ v:Nat,v < lim ∧ x.fmod (lim:Int) = (v:Int):=fun x hx=>by
  refine ⟨(x.fmod lim).toNat,?_,?_⟩
  ·have h1:=Int.fmod_nonneg_of_pos x (show (0:Int) < lim by omega)
   have h2:=Int.fmod_lt_of_pos x (show (0:Int) < lim by omega)
   omega
  ·have h1:=Int.fmod_nonneg_of_pos x (show (0:Int) < lim by omega)
   omega
 have hd:∀ x ∈ fs.map V.int,True:=fun _ _=>trivial
 refine mB_cons ?_
 refine MW.mono (Q:=fun f σ'=>f = .next ∧ ∃ x:Int,0 ≤ x ∧ σ'.vars "figure" = some (.int x) ∧ σ'.vars "limit_x" = some (.int (lim:Int)) ∧ PoolOk σ'.hp ∧ ∀ n,n ≠ PL → σ'.hp n = σ.hp n) ?_ ?_
 ·refine mS_if ?_
  walk_at "es"
  refine s_list eP (by decide) (v:=.int a) rfl ?_ (by simp)
  refine q_bi g' nb_len bb_len ?_
  walk_at "es"
  refine s_list eP (by decide) (v:=.ref FG) rfl ?_ (by simp)
  walk_at "es"
  refine MW1.toS (f_lenL eF ?_ (by simp;omega))
  walk_at "es"
  refine c_lt (t_bool ?_)
  by_cases q:a < ((fs.map V.int).length:Int)
  ·rw [decide_eq_true q]
   show mB _ _ _ _
   have q' : a.toNat < fs.length:=by rw [List.length_map] at q;omega
   walk_at "es"
   refine s_list eP (by decide) (v:=.ref FG) rfl ?_ (by simp)
   walk_at "es"
   refine s_list eP (by decide) (v:=.int a) rfl ?_ (by simp)
   refine s_any (s_list eF ha (v:=.int fs[a.toNat]) (by rw [List.getElem?_map,List.getElem?_eq_getElem q'];rfl) ?_ (by simp;omega))
   walk_at "es"
   refine g_list eP (by decide) (v:=.int a) rfl ?_ (by simp)
   walk_at "es"
   refine i_add ?_
   walk_at "es"
   refine l_set eP (by decide) (by simp) ?_ (by simp)
   walk_at "es"
   refine ⟨rfl,fs[a.toNat],hfs _ (List.getElem_mem q'),rfl,rfl,⟨fs,a + 1,b,?_,?_,by omega,hb,hbu,hfs,hfl⟩,fun n hn=>H.set_ne _ _ hn⟩
   ·exact H.set_self σ.hp PL _
   ·exact (H.set_ne σ.hp (x:=FG) (n:=PL) (.list [.ref FG,.int (a + 1),.int b]) (by decide)).trans eF
  ·rw [decide_eq_false q]
   show mB _ _ _ _
   walk_at "es"
   refine mS_if ?_
   refine mT_cmp (q_bi g' nb_len bb_len ?_)
   walk_at "es"
   refine s_list eP (by decide) (v:=.ref FG) rfl ?_ (by simp)
   walk_at "es"
   refine MW1.toS (f_lenL eF ?_ (by simp;omega))
   walk_at "es"
   refine c_lt (t_bool ?_)
   by_cases q2:((fs.map V.int).length:Int) < 3
   ·rw [decide_eq_true q2]
    show mB _ _ _ _
    walk_at "es"
    exact ⟨rfl,0,by decide,rfl,rfl,P,fun _ _=>rfl⟩
   ·rw [decide_eq_false q2]
    show mB _ _ _ _
    walk_at "es"
    refine s_list eP (by decide) (v:=.int b) rfl ?_ (by simp)
    walk_at "es"
    refine b_mul ?_ (by omega) (by omega)
    walk_at "es"
    refine b_add ?_
    walk_at "es"
    refine b_mod ?_ (by decide)
    walk_at "es"
    refine l_set eP (by decide) (by simp) ?_ (by simp)
    walk_at "es"
    have h1:=Int.fmod_nonneg_of_pos (b * 37 + 11) (show (0:Int) < 1009 by decide)
    have h2:=Int.fmod_lt_of_pos (b * 37 + 11) (show (0:Int) < 1009 by decide)
    refine s_list (xs:=[.ref FG,.int a,.int ((b * 37 + 11).fmod 1009)]) (H.set_self σ.hp PL _) (by decide) (v:=.int ((b * 37 + 11).fmod 1009)) rfl ?_ (by simp)
    walk_at "es"
    refine ⟨rfl,_,h1,rfl,rfl,⟨fs,a,(b * 37 + 11).fmod 1009,?_,?_,ha,h1,h2,hfs,hfl⟩,fun n hn=>H.set_ne _ _ hn⟩
    ·exact H.set_self σ.hp PL _
    ·exact (H.set_ne σ.hp (x:=FG) (n:=PL) (.list [.ref FG,.int a,.int ((b * 37 + 11).fmod 1009)]) (by decide)).trans eF
 ·rintro f ⟨vs,hp⟩ ⟨rfl,x,hx,hf,hlm,P',o⟩
  obtain ⟨v,hv,ev⟩:=res x hx
  walk_at "es"
  refine b_mod ?_ (by omega)
  rw [ev]
  exact h hp v hv P' o
end
structure Lw (t t' : Nat) (h h' : H) (X:Nm → Prop):Prop where
 le:t ≤ t'
 free:Free t' h'
 fw:Fw t h h'
 same:∀ n:Nm,n.1 ≠ 0 → ¬ X n → h' n = h n
section
variable {c:Cx} {σ:St}
theorem q_funB {f:Addr} {fd:FuncData} {body:List Stmt} {qual:Str} {scope:Scope} {cd:Value} (ps:List Str) {vs:List V} (us:List V) {Q:V → St → Prop} {k:Nat} (g:Good c) (room:Rm c (k + 1)) (dk:∀ P,defOk (KK P) f fd body qual scope cd ps)
  (hb:∀ ρ s xs,c.K.In s.heap → Vals ρ σ.hp vs xs → ∃ ys,BindsTo s fd ⟨xs,[]⟩ (ps.zip ys) ∧ Vals ρ σ.hp us ys) (hl:us.length = ps.length)
  (h:∀ B L,(∀ b o,c.B.get? b = some o → B.get? b = some o) → Good (c.sub B L qual scope f cd) → Rm (c.sub B L qual scope f cd) k → mB (c.sub B L qual scope f cd) body (fun fl σ'=>Q fl.val ⟨σ.vars,σ'.hp⟩) ⟨fun x=>(ps.zip us).lookup x,σ.hp⟩):mCall c f vs Q σ:=
 m_defB g.ok (by have:=room.1;exact cb1 this) (by rw [g.hK];exact dk _) hb hl fun B L kB ok=>h B L kB ⟨ok,g.hK⟩ (room.down (Nat.le_refl _))
theorem sp_pool {l:Addr} {vs:List Value} {ns:List Int} {t:Nat} {Q:V → St → Prop} {k:Nat} (g:Good c) (rm:Rm c (k + 1)) (hb:c.B.IsList l vs.toArray) (hi:IntsAre vs ns) (hz:ns.length ≤ 63) (hP:σ.hp PL = none) (hF:σ.hp FG = none) (Fr:Free t σ.hp)
  (h:∀ h' t',PoolOk h' → Lw t t' σ.hp h' (fun n=>n = PL ∨ n = FG) → Q (.ref PL) ⟨σ.vars,h'⟩):mCall c 1414 [.glob (.ref l)] Q σ:=by
 refine q_funB ["script"] [_] g rm (fun _=>dk1 rfl rfl) (hb1 fun _=>rfl) rfl fun B L kB g' rm'=>?_
 have hb' : B.IsList l vs.toArray:=by
  obtain ⟨o,h1,h2,h3⟩:=hb
  exact ⟨o,kB _ _ h1,h2,h3⟩
 walk_at "es"
 refine l_new FG hF ?_ (by simp)
 walk_at "es"
 simp only [St.put,St.var]
 obtain ⟨h₁,hh⟩ : ∃ h₁,h₁ = σ.hp.set FG (.list []):=⟨_,rfl⟩
 have Fr0:Free t h₁:=fun u k hu=>by rw [hh,H.set_ne _ _ (by walk_at "ne")];exact Fr u k hu
 have F0:Fw t σ.hp h₁:=fun u k hu=>by rw [hh,H.set_ne _ _ (by walk_at "ne")]
 have S0:∀ n:Nm,n.1 ≠ 0 → n ≠ FG → h₁ n = σ.hp n:=fun n a b=>by rw [hh,H.set_ne _ _ b]
 have eF0:h₁ FG = some (.list []):=hh ▸ H.set_self _ _ _
 rw [← hh]
 clear hh
 refine MW.mono (Q:=fun f σ'=>f = .next ∧ ∃ (t₁:Nat) (fs3:List Int) (mx:Int),t + 1 ≤ t₁ ∧ Free t₁ σ'.hp ∧ Fw t σ.hp σ'.hp ∧ (∀ n:Nm,n.1 ≠ 0 → n ≠ FG → σ'.hp n = σ.hp n) ∧ σ'.hp FG = some (.list (fs3.map V.int)) ∧ (∀ x ∈ fs3,0 ≤ x) ∧ fs3.length ≤ 460 ∧ 0 ≤ mx ∧ mx < 1009 ∧
  σ'.vars "figures" = some (.ref FG) ∧ σ'.vars "mix" = some (.int mx)) ?_ ?_
 ·refine mS_for (0,t,1) (fun k' τ=>∃ (j t₁:Nat) (fs:List Int) (mx:Int),j + k' = (ns.take 40).length ∧ t + 1 ≤ t₁ ∧ Free t₁ τ.hp ∧ Fw t σ.hp τ.hp ∧ (∀ n:Nm,n.1 ≠ 0 → n ≠ FG → τ.hp n = σ.hp n) ∧ τ.hp FG = some (.list (fs.map V.int)) ∧ (∀ x ∈ fs,0 ≤ x) ∧ fs.length ≤ 400 ∧ 0 ≤ mx ∧ mx < 1009 ∧
   τ.hp (0,t,1) = some (.raw "list_iterator" [.v (.ref (0,t,0)),.ri (j:Nat)]) ∧ τ.hp (0,t,0) = some (.list ((ns.take 40).map V.int)) ∧ τ.vars "figures" = some (.ref FG) ∧ τ.vars "mix" = some (.int mx)) ?_ ?_ ?_
  ·refine mE_upto (0,t,0) hb' hi (by omega) ?_
   walk_at "es"
   refine ⟨rfl,40,rfl,Fr0 _ _ (Nat.le_refl _),?_⟩
   refine it_list (0,t,1) (xs:=(ns.take 40).map V.int) (H.set_self h₁ (0,t,0) _) (H.skip (h:=h₁) (by walk_at "ne") (Fr0 _ _ (Nat.le_refl _))) ⟨rfl,(ns.take 40).length,0,t + 1,[],5,by omega,Nat.le_refl _,?_,?_,?_,?_,by simp,by simp,by decide,by decide,H.set_self _ _ _,?_,rfl,rfl⟩
   ·intro u k hu
    have q1:∀ k',((0,u,k):Nm) ≠ (0,t,k'):=fun k' e=>by cases e;omega
    exact (H.set_ne _ _ (q1 _)).trans ((H.set_ne h₁ _ (q1 _)).trans (Fr0 u k (by omega)))
   ·intro u k hu
    have q1:∀ k',((0,u,k):Nm) ≠ (0,t,k'):=fun k' e=>by cases e;exact cf1 hu
    exact (H.set_ne _ _ (q1 _)).trans ((H.set_ne h₁ _ (q1 _)).trans (F0 u k hu))
   ·intro n hn hf
    have q1:∀ k',n ≠ (0,t,k'):=fun k' e=>by subst e;exact hn rfl
    exact (H.set_ne _ _ (q1 _)).trans ((H.set_ne h₁ _ (q1 _)).trans (S0 n hn hf))
   ·exact eF0
   ·exact H.skip (h:=H.set _ _ _) (by walk_at "ne") (H.set_self h₁ (0,t,0) _)
  ·rintro k' ⟨vs',hp⟩ ⟨j,t₁,fs,mx,_,_,_,_,_,_,_,_,_,_,e,_⟩
   rw [show (⟨vs',hp⟩ : St).hp (0,t,1) = _ from e];simp
  ·intro J';rintro k' ⟨vs',hp⟩ ⟨j,t₁,fs,mx,hj,lt₁,Fr₁,F₁,S₁,eF,hfs,hfl,hm0,hm1,e,el,hfg,hmx⟩
   rcases Nat.lt_or_ge j (ns.take 40).length with lt | ge
   ·refine nx_list (i:=j) (v:=.int (ns.take 40)[j]) (xs:=(ns.take 40).map V.int) (l:=(0,t,0)) e el (by rw [List.getElem?_map,List.getElem?_eq_getElem lt];rfl) ?_
    refine as_name g'.ok ?_
    obtain ⟨big,hbig⟩ : ∃ b,b = (ns.take 40)[j]:=⟨_,rfl⟩
    rw [← hbig]
    simp only [St.put]
    obtain ⟨h₂,hh⟩ : ∃ h₂,h₂ = hp.set (0,t,1) (.raw "list_iterator" [.v (.ref (0,t,0)),.ri (j + 1:Nat)]):=⟨_,rfl⟩
    have Fr₂:Free t₁ h₂:=fun u k hu=>by rw [hh,H.set_ne _ _ (by walk_at "ne")];exact Fr₁ u k hu
    have F₂:Fw t σ.hp h₂:=hh ▸ F₁.set (by exact cl0)
    have S₂:∀ n:Nm,n.1 ≠ 0 → n ≠ FG → h₂ n = σ.hp n:=fun n a b=>by rw [hh,H.set_ne _ _ (by rintro rfl;exact a rfl)];exact S₁ n a b
    have eF₂:h₂ FG = some (.list (fs.map V.int)):=by rw [hh];exact H.skip (h:=hp) (by walk_at "ne") eF
    have e₂:h₂ (0,t,1) = some (.raw "list_iterator" [.v (.ref (0,t,0)),.ri (j + 1:Nat)]):=hh ▸ H.set_self _ _ _
    have el₂:h₂ (0,t,0) = some (.list ((ns.take 40).map V.int)):=by rw [hh];exact H.skip (h:=hp) (by walk_at "ne") el
    rw [← hh]
    clear hh
    walk_at "es"
    refine q_ty g' nb_int bb_int ?_
    walk_at "es"
    refine MW1.toS (f_int ?_)
    walk_at "es"
    refine b_mul ?_ (by omega) (by omega)
    walk_at "es"
    refine b_add ?_
    walk_at "es"
    refine b_mod ?_ (by decide)
    walk_at "es"
    refine q_bi g' nb_abs bb_abs ?_
    walk_at "es"
    refine MW1.toS (f_abs ?_)
    walk_at "es"
    obtain ⟨mx2,hmx2⟩ : ∃ m2,m2 = (mx * 31 + big).fmod 1009:=⟨_,rfl⟩
    have hm2:0 ≤ mx2 ∧ mx2 < 1009:=by
     rw [hmx2]
     exact ⟨Int.fmod_nonneg_of_pos _ (by decide),Int.fmod_lt_of_pos _ (by decide)⟩
    obtain ⟨ab,hab⟩ : ∃ a,a = (if big < 0 then -big else big):=⟨_,rfl⟩
    have hab0:0 ≤ ab:=by rw [hab];split <;> omega
    rw [← hmx2,← hab]
    refine MW.mono (Q:=fun f σ'=>f = .next ∧ ∃ (fs3:List Int),Free (t₁ + 1) σ'.hp ∧ Fw t σ.hp σ'.hp ∧ (∀ n:Nm,n.1 ≠ 0 → n ≠ FG → σ'.hp n = σ.hp n) ∧ σ'.hp FG = some (.list (fs3.map V.int)) ∧ (∀ x ∈ fs3,0 ≤ x) ∧ fs3.length ≤ 460 ∧
     σ'.hp (0,t,1) = some (.raw "list_iterator" [.v (.ref (0,t,0)),.ri (j + 1:Nat)]) ∧ σ'.hp (0,t,0) = some (.list ((ns.take 40).map V.int)) ∧ σ'.vars "figures" = some (.ref FG) ∧ σ'.vars "mix" = some (.int mx2)) ?_ ?_
    ·refine mS_for (0,t₁,1) (fun k'' τ=>∃ (a:Nat) (fs2:List Int) (rs:Int),a + k'' = 60 ∧ Free (t₁ + 1) τ.hp ∧ Fw t σ.hp τ.hp ∧ (∀ n:Nm,n.1 ≠ 0 → n ≠ FG → τ.hp n = σ.hp n) ∧ τ.hp FG = some (.list (fs2.map V.int)) ∧ (∀ x ∈ fs2,0 ≤ x) ∧ fs2.length ≤ 400 + a ∧ 0 ≤ rs ∧
      τ.hp (0,t₁,1) = some (rgI a 60) ∧ τ.hp (0,t,1) = some (.raw "list_iterator" [.v (.ref (0,t,0)),.ri (j + 1:Nat)]) ∧ τ.hp (0,t,0) = some (.list ((ns.take 40).map V.int)) ∧ τ.vars "figures" = some (.ref FG) ∧ τ.vars "mix" = some (.int mx2) ∧ τ.vars "rest" = some (.int rs)) ?_ ?_ ?_
     ·refine q_ty g' nb_range bb_range ?_
      walk_at "es"
      refine MW1.toS (rg_newN (v:=60) (0,t₁,0) (Fr₂ _ _ (Nat.le_refl _)) ?_)
      refine it_rangeN (0,t₁,1) (H.set_self _ _ _) (by decide) (H.skip (h:=h₂) (by walk_at "ne") (Fr₂ _ _ (Nat.le_refl _))) ⟨rfl,60,0,fs,ab,by omega,?_,?_,?_,?_,hfs,by omega,hab0,H.set_self _ _ _,?_,?_,hfg,rfl,rfl⟩
      ·intro u k hu
       have q1:∀ k',((0,u,k):Nm) ≠ (0,t₁,k'):=fun k' e=>by cases e;omega
       exact (H.set_ne _ _ (q1 _)).trans ((H.set_ne h₂ _ (q1 _)).trans (Fr₂ u k (by omega)))
      ·intro u k hu
       have q1:∀ k',((0,u,k):Nm) ≠ (0,t₁,k'):=fun k' e=>by cases e;exact cf2 lt₁ hu
       exact (H.set_ne _ _ (q1 _)).trans ((H.set_ne h₂ _ (q1 _)).trans (F₂ u k hu))
      ·intro n hn hf
       have q1:∀ k',n ≠ (0,t₁,k'):=fun k' e=>by subst e;exact hn rfl
       exact (H.set_ne _ _ (q1 _)).trans ((H.set_ne h₂ _ (q1 _)).trans (S₂ n hn hf))
      ·exact eF₂
      ·exact H.skip (h:=H.set _ _ _) (by walk_at "ne") (H.skip (h:=h₂) (by walk_at "ne") e₂)
      ·exact H.skip (h:=H.set _ _ _) (by walk_at "ne") (H.skip (h:=h₂) (by walk_at "ne") el₂)
     ·rintro k'' ⟨vs'',hp'⟩ ⟨a,fs2,rs,_,_,_,_,_,_,_,_,e,_⟩
      rw [show (⟨vs'',hp'⟩ : St).hp (0,t₁,1) = _ from e];simp
     ·intro J';rintro k'' ⟨vs'',hp'⟩ ⟨a,fs2,rs,ha,Fr₃,F₃,S₃,eF₃,hfs2,hfl2,hrs,e₃,ei₃,el₃,hfg₃,hmx₃,hrs₃⟩
      have fin0:∀ (hq:H) (vq:Str → Option V) (fs3:List Int),Free (t₁ + 1) hq → Fw t σ.hp hq → (∀ n:Nm,n.1 ≠ 0 → n ≠ FG → hq n = σ.hp n) → hq FG = some (.list (fs3.map V.int)) → (∀ x ∈ fs3,0 ≤ x) → fs3.length ≤ 460 →
        hq (0,t,1) = some (.raw "list_iterator" [.v (.ref (0,t,0)),.ri (j + 1:Nat)]) → hq (0,t,0) = some (.list ((ns.take 40).map V.int)) → vq "figures" = some (.ref FG) → vq "mix" = some (.int mx2) → True:=fun _ _ _ _ _ _ _ _ _ _ _ _ _=>trivial
      rcases Nat.lt_or_ge a 60 with lt60 | ge60
      ·refine nx_rangeN e₃ lt60 ?_
       refine as_name g'.ok ?_
       simp only [St.put]
       obtain ⟨h₄,hh⟩ : ∃ h₄,h₄ = hp'.set (0,t₁,1) (rgI (a + 1) 60):=⟨_,rfl⟩
       have Fr₄:Free (t₁ + 1) h₄:=fun u k hu=>by rw [hh,H.set_ne _ _ (by walk_at "ne")];exact Fr₃ u k hu
       have F₄:Fw t σ.hp h₄:=hh ▸ F₃.set (by omega)
       have S₄:∀ n:Nm,n.1 ≠ 0 → n ≠ FG → h₄ n = σ.hp n:=fun n a b=>by rw [hh,H.set_ne _ _ (by rintro rfl;exact a rfl)];exact S₃ n a b
       have eF₄:h₄ FG = some (.list (fs2.map V.int)):=by rw [hh];exact H.skip (h:=hp') (by walk_at "ne") eF₃
       have e₄:h₄ (0,t₁,1) = some (rgI (a + 1) 60):=hh ▸ H.set_self _ _ _
       have ei₄:h₄ (0,t,1) = some (.raw "list_iterator" [.v (.ref (0,t,0)),.ri (j + 1:Nat)]):=by rw [hh];exact H.skip (h:=hp') (by walk_at "ne") ei₃
       have el₄:h₄ (0,t,0) = some (.list ((ns.take 40).map V.int)):=by rw [hh];exact H.skip (h:=hp') (by walk_at "ne") el₃
       rw [← hh]
       clear hh
       walk_at "es"
       refine mE_bm (mE_local g'.ok hfg₃ ⟨_,meth_append eF₄,?_⟩)
       walk_at "es"
       refine b_mod ?_ (by decide)
       walk_at "es"
       refine MW2.toS (l_append eF₄ ?_ (by simp;exact cb2 (eL ha) hfl2))
       walk_at "es"
       refine i_div ?_ (by decide) (by decide)
       walk_at "es"
       refine mS_if ?_
       walk_at "es"
       refine c_eq (t_bool ?_)
       have hr1:0 ≤ rs.fmod 840:=Int.fmod_nonneg_of_pos _ (by decide)
       have hr2:0 ≤ rs.fdiv 840:=by rw [Int.fdiv_eq_ediv_of_nonneg _ (by decide)];omega
       have hfs3:∀ x ∈ fs2 ++ [rs.fmod 840],0 ≤ x:=fun x hx=>by
        rcases List.mem_append.mp hx with q | q
        ·exact hfs2 x q
        ·rw [List.mem_singleton.mp q];exact hr1
       have hl3:(fs2 ++ [rs.fmod 840]).length ≤ 400 + (a + 1):=by simp;exact cb1 hfl2
       obtain ⟨h₅,hh⟩ : ∃ h₅,h₅ = h₄.set FG (.list (fs2.map V.int ++ [.int (rs.fmod 840)])):=⟨_,rfl⟩
       have Fr₅:Free (t₁ + 1) h₅:=fun u k hu=>by rw [hh,H.set_ne _ _ (by walk_at "ne")];exact Fr₄ u k hu
       have F₅:Fw t σ.hp h₅:=fun u k hu=>by rw [hh,H.set_ne _ _ (by walk_at "ne")];exact F₄ u k hu
       have S₅:∀ n:Nm,n.1 ≠ 0 → n ≠ FG → h₅ n = σ.hp n:=fun n a b=>by rw [hh,H.set_ne _ _ b];exact S₄ n a b
       have eF₅:h₅ FG = some (.list ((fs2 ++ [rs.fmod 840]).map V.int)):=by rw [hh,List.map_append];exact H.set_self _ _ _
       have e₅:h₅ (0,t₁,1) = some (rgI (a + 1) 60):=by rw [hh];exact H.skip (h:=h₄) (by walk_at "ne") e₄
       have ei₅:h₅ (0,t,1) = some (.raw "list_iterator" [.v (.ref (0,t,0)),.ri (j + 1:Nat)]):=by rw [hh];exact H.skip (h:=h₄) (by walk_at "ne") ei₄
       have el₅:h₅ (0,t,0) = some (.list ((ns.take 40).map V.int)):=by rw [hh];exact H.skip (h:=h₄) (by walk_at "ne") el₄
       simp only [St.put,St.var]
       rw [← hh]
       clear hh
       by_cases q0:rs.fdiv 840 = 0
       ·rw [decide_eq_true q0]
        show mB _ _ _ _
        walk_at "es"
        exact ⟨rfl,_,Fr₅,F₅,S₅,eF₅,hfs3,by exact cb2 lt60 hl3,ei₅,el₅,hfg₃,hmx₃⟩
       ·rw [decide_eq_false q0]
        show mB _ _ _ _
        walk_at "es"
        exact ⟨k'' - 1,by omega,a + 1,_,_,by omega,Fr₅,F₅,S₅,eF₅,hfs3,hl3,hr2,e₅,ei₅,el₅,hfg₃,hmx₃,rfl⟩
      ·refine nx_rangeNE g'.ok e₃ ge60 ?_
       walk_at "es"
       refine ⟨rfl,fs2,(fun u k hu=>(H.set_ne hp' _ (by walk_at "ne")).trans (Fr₃ u k hu)),(F₃.set (by omega)),(fun n a b=>(H.set_ne hp' _ (by rintro rfl;exact a rfl)).trans (S₃ n a b)),eF₃,hfs2,by exact cb2 (eL ha) hfl2,H.skip (h:=hp') (by walk_at "ne") ei₃,H.skip (h:=hp') (by walk_at "ne") el₃,hfg₃,hmx₃⟩
    ·rintro f ⟨vq,hq⟩ ⟨rfl,fs3,Fr₃,F₃,S₃,eF₃,hfs3,hfl3,ei₃,el₃,hfg₃,hmx₃⟩
     walk_at "es"
     refine mS_if ?_
     refine mT_cmp (q_bi g' nb_len bb_len ?_)
     walk_at "es"
     refine MW1.toS (f_lenL eF₃ ?_ (by simp;omega))
     walk_at "es"
     refine c_gt (t_bool ?_)
     by_cases q:400 < ((fs3.map V.int).length:Int)
     ·rw [decide_eq_true q]
      show mB _ _ _ _
      walk_at "es"
      exact ⟨rfl,t₁ + 1,fs3,mx2,by omega,Fr₃,F₃,S₃,eF₃,hfs3,hfl3,hm2.1,hm2.2,hfg₃,hmx₃⟩
     ·rw [decide_eq_false q]
      show mB _ _ _ _
      walk_at "es"
      rw [List.length_map] at q
      exact ⟨k' - 1,by omega,j + 1,t₁ + 1,fs3,mx2,by omega,by omega,Fr₃,F₃,S₃,eF₃,hfs3,by omega,hm2.1,hm2.2,ei₃,el₃,hfg₃,hmx₃⟩
   ·refine nx_listE g'.ok (i:=j) (xs:=(ns.take 40).map V.int) (l:=(0,t,0)) e el (by rw [List.length_map];exact ge) ?_
    exact ⟨rfl,t₁,fs,mx,lt₁,fun u k hu=>(H.set_ne hp _ (by walk_at "ne")).trans (Fr₁ u k hu),F₁.set (by exact cl0),fun n a b=>(H.set_ne hp _ (by rintro rfl;exact a rfl)).trans (S₁ n a b),eF,hfs,by omega,hm0,hm1,hfg,hmx⟩
 ·rintro f ⟨vq,hq⟩ ⟨rfl,t₁,fs3,mx,lt₁,Fr₃,F₃,S₃,eF₃,hfs3,hfl3,hm0,hm1,hfg₃,hmx₃⟩
  have ePL:hq PL = none:=(S₃ PL (by decide) (by decide)).trans hP
  walk_at "es"
  refine l_new PL ePL ?_ (by simp)
  refine h _ t₁ ⟨fs3,0,mx,H.set_self hq PL _,?_,by decide,hm0,hm1,hfs3,by omega⟩ ⟨by omega,?_,?_,?_⟩
  ·exact eF₃
  ·intro u k hu
   exact Fr₃ u k hu
  ·intro u k hu
   exact F₃ u k hu
  ·intro n hn hx
   exact (H.set_ne hq _ (fun q=>hx (.inl q))).trans (S₃ n hn (fun q=>hx (.inr q)))
end
theorem strOk_of (s:String):PyData.strOk (Str.ofString s) = true:=by
 unfold PyData.strOk
 rw [Str.ofString_eq_toList]
 rw [Array.all_eq_true']
 intro x hx
 simp only [List.mem_toArray,List.mem_map] at hx
 obtain ⟨ch,_,rfl⟩:=hx
 have:=ch.valid
 simp only [decide_eq_true_eq]
 have h2:ch.toNat < 0x110000:=by
  rcases this with h | ⟨_,h⟩
  ·have:ch.val.toNat < 0xd800:=h
   show ch.val.toNat < _
   omega
  ·exact h
 exact h2
theorem strOk_cat (a b:Str) (ha:PyData.strOk a = true) (hb:PyData.strOk b = true):PyData.strOk (a ++ b) = true:=by
 show PyData.strOk (Str.append a b) = true
 unfold PyData.strOk Str.append at *
 rw [Array.all_eq_true'] at *
 intro x hx
 rcases Array.mem_append.mp hx with h | h
 ·exact ha x h
 ·exact hb x h
noncomputable def dgS (n:Nat):Str:=Str.ofString (toString (n:Int))
noncomputable def tnm (k:Nat):Str := "T" ++ dgS k
theorem strOk_tnm (k:Nat):PyData.strOk (tnm k) = true:=strOk_cat _ _ (strOk_of _) (strOk_of _)
theorem kqd_strs:∀ l:List Str,(∀ x ∈ l,PyData.strOk x = true) → kqdOk 8 (.list (l.map Dat.str)) = true:=by
 intro l h
 show (l.map Dat.str).all (kqdOk 7) = true
 rw [List.all_eq_true]
 intro d hd
 obtain ⟨x,hx,rfl⟩:=List.mem_map.mp hd
 exact h x hx
theorem dv_names {h:H} {n:Nm} {pts:List Nat} (e:h n = some (.list (pts.map fun k=>.str (tnm k)))):DV h (.ref n) (.list ((pts.map tnm).map Dat.str)):=by
 refine .list e ?_
 have:=dv_strs h (pts.map tnm)
 rw [List.map_map] at this
 exact this
inductive FK where
 | ptr (k:Nat)
 | int
 | chr
 | achr (m:Nat)
 | aptr (m k:Nat)
noncomputable def FK.sp:FK → Str
 | .ptr k=>tnm k
 | .int => "INTEGER"
 | .chr => "CHAR"
 | .achr m => "ARRAY " ++ dgS m ++ " OF CHAR"
 | .aptr m k => "ARRAY " ++ dgS m ++ " OF " ++ tnm k
noncomputable def FK.size:FK → Nat
 | .ptr _=>4
 | .int=>4
 | .chr=>1
 | .achr m=>m
 | .aptr m _=>4 * m
noncomputable def FK.unit:FK → Nat
 | .ptr _=>4
 | .int=>4
 | .chr=>1
 | .achr _=>1
 | .aptr _ _=>4
noncomputable def FK.inner:FK → List Int
 | .ptr _=>[0]
 | .aptr m _=>(List.range m).map fun q:Nat=>4 * (q:Int)
 | _=>[]
noncomputable def FK.ok (pts:List Nat):FK → Prop
 | .ptr k=>k ∈ pts
 | .int=>True
 | .chr=>True
 | .achr m=>1 ≤ m ∧ m ≤ 3
 | .aptr m k=>1 ≤ m ∧ m ≤ 3 ∧ k ∈ pts
theorem PoolOk.put {h:H} {n:Nm} {o:O} (P:PoolOk h) (h1:n ≠ PL) (h2:n ≠ FG):PoolOk (h.set n o):=by
 obtain ⟨fs,a,b,e1,e2,r⟩:=P.ex
 exact ⟨fs,a,b,(H.set_ne _ _ (Ne.symm h1)).trans e1,(H.set_ne _ _ (Ne.symm h2)).trans e2,r⟩
theorem PoolOk.same {h h' : H} (P:PoolOk h) (h1:h' PL = h PL) (h2:h' FG = h FG):PoolOk h':=by
 obtain ⟨fs,a,b,e1,e2,r⟩:=P.ex
 exact ⟨fs,a,b,h1.trans e1,h2.trans e2,r⟩
section
variable {c:Cx} {σ:St}
theorem c_neE {a b:V} {d e:Dat} {x:Bool} {Q:V → St → Prop} (room:c.A.units + 64 < cLine) (da:DV σ.hp a d) (db:DV σ.hp b e) (oa:kqdOk 8 d = true) (ob:kqdOk 8 e = true) (hx:x = true ↔ d = e) (h:Q (.bool (!x)) σ):MW2 c RVal a b (compareOp .NotEq) Q σ:=by
 refine c_neD room da db oa ob ?_
 have:(@decide (d = e) (Classical.propDecidable _)) = x:=by
  cases x with
  | true=>exact @decide_eq_true _ (Classical.propDecidable _) (hx.mp rfl)
  | false=>exact @decide_eq_false _ (Classical.propDecidable _) fun q=>by have:=hx.mpr q;cases this
 rw [this];exact h
theorem c_eqE {a b:V} {d e:Dat} {x:Bool} {Q:V → St → Prop} (room:c.A.units + 64 < cLine) (da:DV σ.hp a d) (db:DV σ.hp b e) (oa:kqdOk 8 d = true) (ob:kqdOk 8 e = true) (hx:x = true ↔ d = e) (h:Q (.bool x) σ):MW2 c RVal a b (compareOp .Eq) Q σ:=by
 refine c_eqD room da db oa ob ?_
 have:(@decide (d = e) (Classical.propDecidable _)) = x:=by
  cases x with
  | true=>exact @decide_eq_true _ (Classical.propDecidable _) (hx.mp rfl)
  | false=>exact @decide_eq_false _ (Classical.propDecidable _) fun q=>by have:=hx.mpr q;cases this
 rw [this];exact h
theorem sp_field {pn:Nm} {pts:List Nat} {w:V} {t:Nat} {Q:V → St → Prop} {k:Nat} (g:Good c) (rm:Rm c (k + 2)) (P:PoolOk σ.hp) (hp1:pn.1 ≠ 0) (hp2:pn ≠ PL) (ep:σ.hp pn = some (.list (pts.map fun k=>.str (tnm k)))) (hpl:pts.length ≤ 100) (hp3:∀ k ∈ pts,k < 60) (Fr:Free t σ.hp) (hw:w.okV = true)
  (h:∀ h' (fk:FK),fk.ok pts → PoolOk h' → (∀ n:Nm,n.1 ≠ 0 → n ≠ PL → h' n = σ.hp n) → Free (t + 2) h' → Fw t σ.hp h' → h' (0,t + 1,0) = some (.tup [.str fk.sp,.int fk.size,.int fk.unit,.ref (0,t + 1,1)]) → h' (0,t + 1,1) = some (.list (fk.inner.map V.int)) → Q (.ref (0,t + 1,0)) ⟨σ.vars,h'⟩) :
  mCall c 1426 [.ref PL,w,.ref pn] Q σ:=by
 refine q_fun ["pool", "world", "pointers"] [_,_,_] g rm (fun _=>dk1 rfl rfl) (hb3 fun _ _ _=>rfl) rfl fun B L=>?_
 intro c' QQ g' rm'
 have tz:∀ u k:Nat,((0,u,k):Nm) ≠ PL:=fun u k q=>by cases q
 walk_at "es"
 refine q_call g' nk_law_pick ?_
 walk_at "es"
 refine sp_pick (lim:=6) (k:=k) g' rm' P (by decide) (by decide) fun h₁ kd hkd P₁ S₁=>?_
 have ep₁:h₁ pn = some (.list (pts.map fun k=>.str (tnm k))):=(S₁ pn hp2).trans ep
 have Fr₁:Free t h₁:=fun u k hu=>(S₁ _ (tz u k)).trans (Fr u k hu)
 have F₁:Fw t σ.hp h₁:=fun u k hu=>S₁ _ (tz u k)
 have fin:∀ (h₂:H) (fk:FK),fk.ok pts → PoolOk h₂ → (∀ n:Nm,n.1 ≠ 0 → n ≠ PL → h₂ n = σ.hp n) → (∀ u k,t + 1 ≤ u → h₂ (0,u,k) = none) → (∀ u k,u < t → h₂ (0,u,k) = σ.hp (0,u,k)) → ∀ (vs:Str → Option V),
   Q (.ref (0,t + 1,0)) ⟨σ.vars,(h₂.set (0,t + 1,1) (.list (fk.inner.map V.int))).set (0,t + 1,0) (.tup [.str fk.sp,.int fk.size,.int fk.unit,.ref (0,t + 1,1)])⟩:=fun h₂ fk hok P₂ S₂ Z₂ W₂ vs=>by
  refine h _ fk hok ((P₂.put (by walk_at "ne") (by walk_at "ne")).put (by walk_at "ne") (by walk_at "ne")) (fun n hn hx=>?_) (fun u k hu=>?_) (fun u k hu=>?_) (H.set_self _ _ _) ?_
  ·rw [H.set_ne _ _ (by rintro rfl;exact hn rfl),H.set_ne _ _ (by rintro rfl;exact hn rfl)];exact S₂ n hn hx
  ·rw [H.set_ne _ _ (by walk_at "ne"),H.set_ne _ _ (by walk_at "ne")];exact Z₂ u k (by omega)
  ·rw [H.set_ne _ _ (by walk_at "ne"),H.set_ne _ _ (by walk_at "ne")];exact W₂ u k hu
  ·exact H.skip (h:=h₂.set _ _) (by walk_at "ne") (H.set_self _ _ _)
 have room:∀ {c' : Cx} {k' : Nat},Rm c' k' → c'.A.units + 64 < cLine:=fun r=>by have:=r.2;exact cb1 this
 have emp:(pts.isEmpty = true ↔ Dat.list ((pts.map tnm).map Dat.str) = Dat.list []):=by
  cases pts <;> simp
 have okN:kqdOk 8 (.list ((pts.map tnm).map Dat.str)) = true:=kqd_strs _ fun x hx=>by
  obtain ⟨k,_,rfl⟩:=List.mem_map.mp hx;exact strOk_tnm k
 have n0:∀ u k:Nat,pn ≠ ((0,u,k):Nm):=fun u k q=>by subst q;exact hp1 rfl
 walk_at "es"
 refine MW.mono (Q:=fun f σ'=>(∃ x,f = .ret x ∧ Q x ⟨σ.vars,σ'.hp⟩) ∨ (f = .next ∧ (kd < 2 → pts.isEmpty = true) ∧ PoolOk σ'.hp ∧ (∀ n:Nm,n.1 ≠ 0 → n ≠ PL → σ'.hp n = σ.hp n) ∧ (∀ u k,t + 1 ≤ u ∨ (u = t ∧ 1 ≤ k) → σ'.hp (0,u,k) = none) ∧ (∀ u k,u < t → σ'.hp (0,u,k) = σ.hp (0,u,k)) ∧
  σ'.vars "pool" = some (.ref PL) ∧ σ'.vars "pointers" = some (.ref pn) ∧ σ'.vars "kind" = some (.int kd))) ?_ ?_
 ·refine mS_if (mT_and ?_)
  refine mT_cmp (mE_local g'.ok rfl ?_)
  walk_at "es"
  refine c_lt (t_bool ?_)
  by_cases q:(kd:Int) < 2
  ·rw [decide_eq_true q]
   refine mT_and ?_
   refine mT_cmp (mE_local g'.ok rfl ?_)
   walk_at "es"
   refine l_new (0,t,0) (Fr₁ _ _ (Nat.le_refl _)) ?_ (by simp)
   refine c_neE (room rm') (dv_names ((H.set_ne h₁ _ (n0 t 0)).trans ep₁)) (.list (H.set_self h₁ (0,t,0) _) .nil) okN rfl emp (t_bool ?_)
   have Z₂:∀ o,∀ u k,t + 1 ≤ u ∨ (u = t ∧ 1 ≤ k) → (h₁.set (0,t,0) o) (0,u,k) = none:=fun o u k hu=>by
    rw [H.set_ne _ _ (by walk_at "ne")];exact Fr₁ u k (by omega)
   have W₂:∀ o,∀ u k,u < t → (h₁.set (0,t,0) o) (0,u,k) = σ.hp (0,u,k):=fun o u k hu=>by
    rw [H.set_ne _ _ (by walk_at "ne")];exact F₁ u k hu
   have S₂:∀ o,∀ n:Nm,n.1 ≠ 0 → n ≠ PL → (h₁.set (0,t,0) o) n = σ.hp n:=fun o n a b=>by
    rw [H.set_ne _ _ (by rintro rfl;exact a rfl)];exact S₁ n b
   have P₂:∀ o,PoolOk (h₁.set (0,t,0) o):=fun o=>P₁.put (by walk_at "ne") (by walk_at "ne")
   obtain ⟨h₂,hh⟩ : ∃ h₂,h₂ = h₁.set (0,t,0) (.list []):=⟨_,rfl⟩
   have ep₂:h₂ pn = some (.list (pts.map fun k=>.str (tnm k))):=hh ▸ (H.set_ne h₁ _ (n0 t 0)).trans ep₁
   replace Z₂:=hh ▸ Z₂ (.list [])
   replace W₂:=hh ▸ W₂ (.list [])
   replace S₂:=hh ▸ S₂ (.list [])
   replace P₂:=hh ▸ P₂ (.list [])
   simp only [St.put,St.var]
   rw [← hh]
   clear hh
   cases hpe:pts.isEmpty with
   | true=>
    show mB _ _ _ _
    walk_at "es"
    exact .inr ⟨rfl,fun _=>rfl,P₂,S₂,Z₂,W₂,rfl,rfl,rfl⟩
   | false=>
    show mT _ _ _ _
    refine mT_and0 (show mB _ _ _ _ from ?_)
    have hne:1 ≤ pts.length:=by cases pts with | nil=>simp at hpe | cons x l=>simp
    walk_at "es"
    refine q_call g' nk_law_pick ?_
    walk_at "es"
    refine q_bi g' nb_len bb_len ?_
    walk_at "es"
    refine MW1.toS (f_lenL ep₂ ?_ (by simp;omega))
    rw [List.length_map]
    walk_at "es"
    refine sp_pick (lim:=pts.length) (k:=k) g' rm' P₂ hne (by omega) fun h₃ v hv P₃ S₃=>?_
    have ep₃:h₃ pn = some (.list (pts.map fun k=>.str (tnm k))):=(S₃ pn hp2).trans ep₂
    refine s_list ep₃ (by omega) (v:=.str (tnm pts[v])) (by rw [Int.toNat_natCast,List.getElem?_map,List.getElem?_eq_getElem hv];rfl) ?_ (by simp;omega)
    walk_at "es"
    refine l_new (0,t + 1,1) ((S₃ _ (tz _ _)).trans (Z₂ _ _ (.inl (Nat.le_refl _)))) ?_ (by simp)
    walk_at "es"
    refine t_new (0,t + 1,0) ((H.set_ne h₃ _ (by walk_at "ne")).trans ((S₃ _ (tz _ _)).trans (Z₂ _ _ (.inl (Nat.le_refl _))))) ?_ (by simp)
    exact .inl ⟨_,rfl,fin h₃ (.ptr pts[v]) (List.getElem_mem hv) P₃ (fun n a b=>(S₃ n b).trans (S₂ n a b)) (fun u k hu=>(S₃ _ (tz _ _)).trans (Z₂ u k (.inl hu))) (fun u k hu=>(S₃ _ (tz _ _)).trans (W₂ u k hu)) (fun _=>none)⟩
  ·rw [decide_eq_false q]
   show mB _ _ _ _
   walk_at "es"
   exact .inr ⟨rfl,fun hq=>absurd hq (by omega),P₁,fun n a b=>S₁ n b,fun u k hu=>Fr₁ u k (by omega),F₁,rfl,rfl,rfl⟩
 ·rintro f ⟨vs,hp⟩ (⟨x,rfl,hq⟩ | ⟨rfl,hkp,P₂,S₂,Z₂,W₂,hpo,hpt,hkd'⟩)
  ·exact hq
  ·have ep₂:hp pn = some (.list (pts.map fun k=>.str (tnm k))):=(S₂ pn hp1 hp2).trans ep
   walk_at "es"
   refine mS_if ?_
   refine mT_cmp (mE_local g'.ok hkd' ?_)
   walk_at "es"
   refine c_lt (t_bool ?_)
   by_cases q3:(kd:Int) < 3
   ·rw [decide_eq_true q3]
    show mB _ _ _ _
    walk_at "es"
    refine l_new (0,t + 1,1) (Z₂ _ _ (.inl (Nat.le_refl _))) ?_ (by simp)
    walk_at "es"
    refine t_new (0,t + 1,0) ((H.set_ne hp _ (by walk_at "ne")).trans (Z₂ _ _ (.inl (Nat.le_refl _)))) ?_ (by simp)
    exact fin hp .int trivial P₂ S₂ (fun u k hu=>Z₂ u k (.inl hu)) W₂ (fun _=>none)
   ·rw [decide_eq_false q3]
    show mB _ _ _ _
    walk_at "es"
    refine mS_if ?_
    refine mT_cmp (mE_local g'.ok hkd' ?_)
    walk_at "es"
    refine c_eq (t_bool ?_)
    by_cases q4:(kd:Int) = 3
    ·rw [decide_eq_true q4]
     show mB _ _ _ _
     walk_at "es"
     refine l_new (0,t + 1,1) (Z₂ _ _ (.inl (Nat.le_refl _))) ?_ (by simp)
     walk_at "es"
     refine t_new (0,t + 1,0) ((H.set_ne hp _ (by walk_at "ne")).trans (Z₂ _ _ (.inl (Nat.le_refl _)))) ?_ (by simp)
     exact fin hp .chr trivial P₂ S₂ (fun u k hu=>Z₂ u k (.inl hu)) W₂ (fun _=>none)
    ·rw [decide_eq_false q4]
     show mB _ _ _ _
     walk_at "es"
     refine q_call g' nk_law_pick ?_
     walk_at "es"
     refine sp_pick (lim:=3) (k:=k) g' rm' P₂ (by decide) (by decide) fun h₃ v hv P₃ S₃=>?_
     refine b_add ?_
     have ev:(1:Int) + (v:Int) = ((1 + v:Nat):Int):=by omega
     rw [ev]
     obtain ⟨mn,hmn⟩ : ∃ mn,mn = 1 + v:=⟨_,rfl⟩
     rw [← hmn]
     have hm1:1 ≤ mn ∧ mn ≤ 3:=by omega
     have ep₃:h₃ pn = some (.list (pts.map fun k=>.str (tnm k))):=(S₃ pn hp2).trans ep₂
     replace Z₂:∀ u k,t + 1 ≤ u ∨ (u = t ∧ 1 ≤ k) → h₃ (0,u,k) = none:=fun u k hu=>(S₃ _ (tz _ _)).trans (Z₂ u k hu)
     replace W₂:∀ u k,u < t → h₃ (0,u,k) = σ.hp (0,u,k):=fun u k hu=>(S₃ _ (tz _ _)).trans (W₂ u k hu)
     replace S₂:∀ n:Nm,n.1 ≠ 0 → n ≠ PL → h₃ n = σ.hp n:=fun n a b=>(S₃ n b).trans (S₂ n a b)
     clear S₃ hmn ev hv
     walk_at "es"
     have achr:∀ (h₄:H) (vs' : Str → Option V),PoolOk h₄ → (∀ u k,t + 1 ≤ u → h₄ (0,u,k) = none) → (∀ u k,u < t → h₄ (0,u,k) = σ.hp (0,u,k)) → (∀ n:Nm,n.1 ≠ 0 → n ≠ PL → h₄ n = σ.hp n) →
       Q (.ref (0,t + 1,0)) ⟨σ.vars,(h₄.set (0,t + 1,1) (.list [])).set (0,t + 1,0) (.tup [.str ("ARRAY " ++ dgS mn ++ " OF CHAR"),.int (mn:Int),.int 1,.ref (0,t + 1,1)])⟩:=fun h₄ vs' P₄ Z₄ W₄ S₄=>fin h₄ (.achr mn) hm1 P₄ S₄ Z₄ W₄ (fun _=>none)
     have dgl:(dgS mn).length ≤ 10:=by
      have:∀ n,n < 60 → (dgS n).length ≤ 10:=by decide +kernel
      exact this mn (by exact cb1 hm1.2)
     have spl:("ARRAY " ++ dgS mn:Str).length = 6 + (dgS mn).length:=by
      show (("ARRAY " : Str).cps ++ (dgS mn).cps).size = _
      rw [Array.size_append];rfl
     refine mS_if (mT_or ?_)
     refine mT_cmp (mE_local g'.ok (show _ = some (V.int (kd:Int)) from hkd') ?_)
     walk_at "es"
     refine c_eq (t_bool ?_)
     by_cases q5:(kd:Int) = 4
     ·rw [decide_eq_true q5]
      show mB _ _ _ _
      walk_at "es"
      refine q_ty g' nb_str bb_str ?_
      walk_at "es"
      refine MW1.toS (f_str ?_ (by omega) (by omega))
      refine b_cat ?_ (by show 6 + (dgS mn).length ≤ _;exact cb1 dgl)
      walk_at "es"
      refine b_cat ?_ (by show ("ARRAY " ++ dgS mn:Str).length + 8 ≤ _;exact cb2 dgl (eL spl))
      walk_at "es"
      refine l_new (0,t + 1,1) (Z₂ _ _ (.inl (Nat.le_refl _))) ?_ (by simp)
      walk_at "es"
      refine t_new (0,t + 1,0) ((H.set_ne h₃ _ (by walk_at "ne")).trans (Z₂ _ _ (.inl (Nat.le_refl _)))) ?_ (by simp)
      exact achr h₃ (fun _=>none) P₃ (fun u k hu=>Z₂ u k (.inl hu)) W₂ S₂
     ·rw [decide_eq_false q5]
      show mT _ _ _ _
      refine mT_or ?_
      refine mT_cmp (mE_local g'.ok (show _ = some (V.ref pn) from hpt) ?_)
      walk_at "es"
      refine l_new (0,t,1) (Z₂ _ _ (.inr ⟨rfl,Nat.le_refl _⟩)) ?_ (by simp)
      refine c_eqE (room rm') (dv_names ((H.set_ne h₃ _ (n0 t 1)).trans ep₃)) (.list (H.set_self h₃ (0,t,1) _) .nil) okN rfl emp (t_bool ?_)
      obtain ⟨h₄,hh⟩ : ∃ h₄,h₄ = h₃.set (0,t,1) (.list []):=⟨_,rfl⟩
      have ep₄:h₄ pn = some (.list (pts.map fun k=>.str (tnm k))):=hh ▸ (H.set_ne h₃ _ (n0 t 1)).trans ep₃
      have Z₄:∀ u k,t + 1 ≤ u ∨ (u = t ∧ 2 ≤ k) → h₄ (0,u,k) = none:=fun u k hu=>by rw [hh,H.set_ne _ _ (by walk_at "ne")];exact Z₂ u k (by omega)
      have W₄:∀ u k,u < t → h₄ (0,u,k) = σ.hp (0,u,k):=fun u k hu=>by rw [hh,H.set_ne _ _ (by walk_at "ne")];exact W₂ u k hu
      have S₄:∀ n:Nm,n.1 ≠ 0 → n ≠ PL → h₄ n = σ.hp n:=fun n a b=>by rw [hh,H.set_ne _ _ (by rintro rfl;exact a rfl)];exact S₂ n a b
      have P₄:PoolOk h₄:=hh ▸ P₃.put (by walk_at "ne") (by walk_at "ne")
      simp only [St.put,St.var]
      rw [← hh]
      clear hh
      cases hpe:pts.isEmpty with
      | true=>
       show mB _ _ _ _
       walk_at "es"
       refine q_ty g' nb_str bb_str ?_
       walk_at "es"
       refine MW1.toS (f_str ?_ (by omega) (by omega))
       refine b_cat ?_ (by show 6 + (dgS mn).length ≤ _;exact cb1 dgl)
       walk_at "es"
       refine b_cat ?_ (by show ("ARRAY " ++ dgS mn:Str).length + 8 ≤ _;exact cb2 dgl (eL spl))
       walk_at "es"
       refine l_new (0,t + 1,1) (Z₄ _ _ (.inl (Nat.le_refl _))) ?_ (by simp)
       walk_at "es"
       refine t_new (0,t + 1,0) ((H.set_ne h₄ _ (by walk_at "ne")).trans (Z₄ _ _ (.inl (Nat.le_refl _)))) ?_ (by simp)
       exact achr h₄ (fun _=>none) P₄ (fun u k hu=>Z₄ u k (.inl hu)) W₄ S₄
      | false=>
       show mT _ _ _ _
       refine mT_or0 (show mB _ _ _ _ from ?_)
       have hne:1 ≤ pts.length:=by cases pts with | nil=>simp at hpe | cons x l=>simp
       walk_at "es"
       refine q_call g' nk_law_pick ?_
       walk_at "es"
       refine q_bi g' nb_len bb_len ?_
       walk_at "es"
       refine MW1.toS (f_lenL ep₄ ?_ (by simp;omega))
       rw [List.length_map]
       walk_at "es"
       refine sp_pick (lim:=pts.length) (k:=k) g' rm' P₄ hne (by omega) fun h₅ v hv P₅ S₅=>?_
       have ep₅:h₅ pn = some (.list (pts.map fun k=>.str (tnm k))):=(S₅ pn hp2).trans ep₄
       refine s_list ep₅ (by omega) (v:=.str (tnm pts[v])) (by rw [Int.toNat_natCast,List.getElem?_map,List.getElem?_eq_getElem hv];rfl) ?_ (by simp;omega)
       have Z₅:∀ u k,t + 1 ≤ u ∨ (u = t ∧ 2 ≤ k) → h₅ (0,u,k) = none:=fun u k hu=>(S₅ _ (tz _ _)).trans (Z₄ u k hu)
       walk_at "es"
       have tl:(tnm pts[v]).length ≤ 11:=by
        have:∀ n,n < 60 → (tnm n).length ≤ 11:=by decide +kernel
        exact this _ (hp3 _ (List.getElem_mem hv))
       refine q_ty g' nb_str bb_str ?_
       walk_at "es"
       refine MW1.toS (f_str ?_ (by omega) (by omega))
       refine b_cat ?_ (by show 6 + (dgS mn).length ≤ _;exact cb1 dgl)
       walk_at "es"
       refine b_cat ?_ (by show ("ARRAY " ++ dgS mn:Str).length + 4 ≤ _;exact cb2 dgl (eL spl))
       walk_at "es"
       have spl2:("ARRAY " ++ dgS mn ++ " OF " : Str).length = ("ARRAY " ++ dgS mn:Str).length + 4:=by
        show (("ARRAY " ++ dgS mn:Str).cps ++ (" OF " : Str).cps).size = _
        rw [Array.size_append];rfl
       refine b_cat ?_ (by show ("ARRAY " ++ dgS mn ++ " OF " : Str).length + (tnm pts[v]).length ≤ _;omega)
       walk_at "es"
       refine b_mul ?_ (by decide) (by decide)
       walk_at "es"
       refine mE_comp (0,t + 1,1) (0,t,3) [] [] (fun k' h=>∃ a,a + k' = mn ∧ h = ((h₅.set (0,t,2) (rgO mn)).set (0,t,3) (rgI a mn)).set (0,t + 1,1) (.list (((List.range a).map fun q:Nat=>4 * (q:Int)).map V.int))) g'.ok rfl (by decide) (fun y hy=>by cases hy) (fun y hy=>by cases hy) List.nodup_nil (by decide) (by decide) rfl (by decide) rfl ?_ ?_ ?_ ?_
       ·refine q_ty g' nb_range bb_range ?_
        walk_at "es"
        refine MW1.toS (rg_newN (0,t,2) (Z₅ _ _ (.inr ⟨rfl,by decide⟩)) ?_)
        refine it_rangeN (0,t,3) (H.set_self _ _ _) (by exact cb1 hm1.2) (H.skip (h:=h₅) (by walk_at "ne") (Z₅ _ _ (.inr ⟨rfl,by decide⟩))) ⟨rfl,rfl,?_,mn,0,by omega,rfl⟩
        exact H.skip (h:=H.set _ _ _) (by walk_at "ne") (H.skip (h:=h₅) (by walk_at "ne") (Z₅ _ _ (.inl (Nat.le_refl _))))
       ·rintro k' h ⟨a,_,rfl⟩
        refine ⟨?_,?_⟩
        ·rw [H.set_ne _ _ (by walk_at "ne"),H.set_self];simp
        ·rw [H.set_self];simp
       ·rintro B' C' ok' k' h ⟨a,_,rfl⟩
        refine it_selfR ((H.set_ne _ _ (by walk_at "ne")).trans (H.set_self _ _ _)) ⟨rfl,rfl⟩
       ·rintro B' C' ok' k' h ⟨a,ha,rfl⟩
        have gc:Good ((c.sub B L _ _ 1426 (.ref 1425)).comp B' C' _ []):=⟨ok',g'.hK⟩
        have eI:∀ o,(((h₅.set (0,t,2) (rgO mn)).set (0,t,3) (rgI a mn)).set (0,t + 1,1) o) (0,t,3) = some (rgI a mn):=fun o=>(H.set_ne _ _ (by walk_at "ne")).trans (H.set_self _ _ _)
        rcases Nat.lt_or_ge a mn with lt | ge
        ·refine nx_rangeN (eI _) lt ⟨rfl,?_⟩
         show mE _ _ _ _
         walk_at "es"
         refine b_mul ?_ (by decide) (by decide)
         have hne:((0,t,3):Nm) ≠ (0,t + 1,1):=by intro q;cases q
         refine ⟨(fun y hy=>by cases hy),((List.range a).map fun q:Nat=>4 * (q:Int)).map V.int,(H.set_ne _ _ (Ne.symm hne)).trans (H.set_self _ _ _),by simp;exact cb2 hm1.2 (eL ha),k' - 1,by omega,a + 1,by omega,?_⟩
         simp only [St.put]
         rw [H.set_comm (n:=(0,t + 1,1)) (n':=(0,t,3)) (Ne.symm hne),H.set_set,H.set_set,List.range_succ,List.map_append,List.map_append]
         rfl
        ·refine nx_rangeNE ok' (eI _) ge ⟨rfl,?_⟩
         have hne:((0,t,3):Nm) ≠ (0,t + 1,1):=by intro q;cases q
         have ea:a = mn:=by exact Nat.le_antisymm (cb1 (eL ha)) ge
         subst ea
         simp only [St.put]
         rw [H.set_comm (n:=(0,t + 1,1)) (n':=(0,t,3)) (Ne.symm hne),H.set_set]
         walk_at "es"
         obtain ⟨h₆,hh⟩ : ∃ h₆,h₆ = (h₅.set (0,t,2) (rgO a)).set (0,t,3) .dead:=⟨_,rfl⟩
         have Z₆:∀ u k,t + 1 ≤ u → h₆ (0,u,k) = none:=fun u k hu=>by rw [hh,H.set_ne _ _ (by walk_at "ne"),H.set_ne _ _ (by walk_at "ne")];exact Z₅ u k (.inl hu)
         have W₆:∀ u k,u < t → h₆ (0,u,k) = σ.hp (0,u,k):=fun u k hu=>by rw [hh,H.set_ne _ _ (by walk_at "ne"),H.set_ne _ _ (by walk_at "ne")];exact (S₅ _ (tz _ _)).trans (W₄ u k hu)
         have S₆:∀ n:Nm,n.1 ≠ 0 → n ≠ PL → h₆ n = σ.hp n:=fun n a b=>by rw [hh,H.set_ne _ _ (by rintro rfl;exact a rfl),H.set_ne _ _ (by rintro rfl;exact a rfl)];exact (S₅ n b).trans (S₄ n a b)
         have P₆:PoolOk h₆:=hh ▸ ((P₅.put (by walk_at "ne") (by walk_at "ne")).put (by walk_at "ne") (by walk_at "ne"))
         rw [← hh]
         clear hh
         refine t_new (0,t + 1,0) ((H.set_ne h₆ _ (by walk_at "ne")).trans (Z₆ _ _ (Nat.le_refl _))) ?_ (by simp)
         exact fin h₆ (.aptr a pts[v]) ⟨hm1.1,hm1.2,List.getElem_mem hv⟩ P₆ S₆ Z₆ W₆ (fun _=>none)
end
noncomputable def dg (n:Nat):List Nat:=if n < 10 then [48 + n] else [48 + n / 10,48 + n % 10]
set_option genInjectivity true in
inductive At where
 | w (a:Nat) (l:List Nat)
 | n (m:Nat)
 | s (c:Nat)
noncomputable def At.txt:At → List Nat
 | .w a l=>a :: l
 | .n m=>dg m
 | .s c=>[c]
noncomputable def At.k:At → Str
 | .w a l=>if kwS.any (fun y=>y == tx (a :: l)) then tx (a :: l) else "ident"
 | .n _ => "int"
 | .s c=>tx [c]
noncomputable def At.v:At → V
 | .w a l=>.str (if kwS.any (fun y=>y == tx (a :: l)) then "" else tx (a :: l))
 | .n m=>.int (decV 0 (dg m))
 | .s _=>.str ""
noncomputable def okA:At → Nat → Bool
 | .w a l,c=>isL a && l.all (fun c=>isL c || isD c) && !(isL c || isD c)
 | .n m,c=>(dg m).all isD && decide (c = 32)
 | .s a,c=>decide (32 < a) && !isL a && !isD a && !(decide (a = 40) && decide (c = 42)) && decide (a ≠ 34) && !(Builtin.Str.occurrences syms (tx [a]) 0 syms.length 1).isEmpty && !([(":=" : Str), "<=", ">=", ".."].any fun y=>y == tx [a,c])
noncomputable abbrev Ats:=List (Bool × At)
noncomputable def T:Ats → List Nat → List Nat
 | [],R=>R
 | (b,a) :: l,R=>(if b then [32] else []) ++ (a.txt ++ T l R)
noncomputable def hdc:Ats → Nat → Nat
 | [],c=>c
 | (b,a) :: _,c=>if b then 32 else (a.txt.headD c)
noncomputable def okL:Ats → Nat → Bool
 | [],_=>true
 | (_,a) :: l,c=>okA a (hdc l c) && okL l c
theorem txt_ne (a:At):a.txt ≠ []:=by
 cases a with
 | w a l=>exact List.cons_ne_nil _ _
 | n m=>
  show dg m ≠ []
  unfold dg;split <;> exact List.cons_ne_nil _ _
 | s c=>exact List.cons_ne_nil _ _
theorem T_head (l:Ats) (c:Nat) (R:List Nat):∃ r,T l (c :: R) = hdc l c :: r:=by
 cases l with
 | nil=>exact ⟨R,rfl⟩
 | cons x l=>
  obtain ⟨b,a⟩:=x
  cases b with
  | true=>exact ⟨_,rfl⟩
  | false=>
   show ∃ r,a.txt ++ T l (c :: R) = a.txt.headD c :: r
   cases h:a.txt with
   | nil=>exact absurd h (txt_ne a)
   | cons y ys=>exact ⟨_,rfl⟩
theorem T_app (l1 l2:Ats) (R:List Nat):T (l1 ++ l2) R = T l1 (T l2 R):=by
 induction l1 with
 | nil=>rfl
 | cons x l ih=>obtain ⟨b,a⟩:=x;show _ ++ (_ ++ T (l ++ l2) R) = _ ++ (_ ++ T l (T l2 R));rw [ih]
theorem hdc_app (l1 l2:Ats) (c:Nat):hdc (l1 ++ l2) c = hdc l1 (hdc l2 c):=by
 cases l1 with
 | nil=>rfl
 | cons x l=>
  obtain ⟨b,a⟩:=x
  cases b with
  | true=>rfl
  | false=>
   show a.txt.headD c = a.txt.headD _
   cases h:a.txt with
   | nil=>exact absurd h (txt_ne a)
   | cons y ys=>rfl
theorem okL_app (l1 l2:Ats) (c:Nat):okL (l1 ++ l2) c = (okL l1 (hdc l2 c) && okL l2 c):=by
 induction l1 with
 | nil=>rfl
 | cons x l ih=>
  obtain ⟨b,a⟩:=x
  show (okA a (hdc (l ++ l2) c) && okL (l ++ l2) c) = ((okA a (hdc l (hdc l2 c)) && okL l (hdc l2 c)) && okL l2 c)
  rw [ih,hdc_app,Bool.and_assoc]
theorem lx_at {a:At} {c:Nat} {r:List Nat} (h:okA a c = true):Lx (a.txt ++ c :: r) (.str a.k) a.v a.txt.length:=by
 cases a with
 | w a l=>
  simp only [okA,Bool.and_eq_true,Bool.not_eq_true'] at h
  exact .word a l (c :: r) h.1.1 (fun x hx=>List.all_eq_true.mp h.1.2 x hx) h.2
 | n m=>
  simp only [okA,Bool.and_eq_true,decide_eq_true_eq] at h
  obtain ⟨h1,rfl⟩:=h
  have h2:=List.all_eq_true.mp h1
  show Lx (dg m ++ 32 :: r) (.str "int") (.int (decV 0 (dg m))) (dg m).length
  have:(dg m).length ≤ 9:=by unfold dg;split <;> simp
  cases e:dg m with
  | nil=>exact absurd e (txt_ne (.n m))
  | cons x xs=>
   rw [e] at h2 this
   exact .num x xs r h2 this
 | s a=>
  simp only [okA,Bool.and_eq_true,Bool.not_eq_true',decide_eq_true_eq] at h
  obtain ⟨⟨⟨⟨⟨⟨h1,h2⟩,h3⟩,h4⟩,h5⟩,h6⟩,h7⟩:=h
  refine .sym a (c :: r) h1 h2 h3 (fun q e=>?_) h5 (by rw [h6];rfl) h7
  have:c = 42:=by simpa using e
  simp [q,this] at h4
structure Cur (ps:PS) (l:Ats) (R:List Nat):Prop where
 ex:∃ b a l',l = (b,a) :: l' ∧ ps.tok a.k a.v ∧ ps.src.drop ps.place = T l' (32 :: R) ∧ okL l' 32 = true
theorem Cur.tok {ps:PS} {b:Bool} {a:At} {l:Ats} {R:List Nat} (C:Cur ps ((b,a) :: l) R):ps.tok a.k a.v:=by
 obtain ⟨_,_,_,e,h,_⟩:=C.ex
 cases e;exact h
theorem Cur.next {ps:PS} {x:Bool × At} {b:Bool} {a:At} {l:Ats} {R:List Nat} (C:Cur ps (x :: (b,a) :: l) R):∃ ps' p pl,ps.Next a.k a.v ps' ∧ Cur ps' ((b,a) :: l) R ∧ ps' = ps.adv a.k a.v p pl:=by
 obtain ⟨_,_,l',e,h1,h2,h3⟩:=C.ex
 cases e
 have h4:okA a (hdc l 32) = true ∧ okL l 32 = true:=by
  have:(okA a (hdc l 32) && okL l 32) = true:=h3
  simpa using this
 obtain ⟨r,hr⟩:=T_head l 32 R
 have h5:ps.src.drop ps.place = List.replicate (if b then 1 else 0) 32 ++ (a.txt ++ hdc l 32 :: r):=by
  rw [h2,← hr]
  show (if b then [32] else []) ++ _ = _
  cases b <;> rfl
 have nx:ps.Next a.k a.v (ps.adv a.k a.v (ps.place + (if b then 1 else 0):Nat) (ps.place + (if b then 1 else 0) + a.txt.length)):=⟨(if b then 1 else 0),a.txt.length,_,h5,lx_at h4.1,rfl⟩
 refine ⟨_,_,_,nx,⟨b,a,l,rfl,nx.tok,?_,h4.2⟩,rfl⟩
 ·show ps.src.drop (ps.place + (if b then 1 else 0) + a.txt.length) = _
  rw [← List.drop_drop,← List.drop_drop,h5,hr]
  cases b <;> simp
theorem Cur.last {ps:PS} {x:Bool × At} {a:Nat} {w:List Nat} (C:Cur ps [x] (a :: w)) (h1:isL a = true) (h2:w.all (fun c=>isL c || isD c) = true) :
  ∃ ps' p pl,ps.Next (At.w a w).k (At.w a w).v ps' ∧ ps'.tok (At.w a w).k (At.w a w).v ∧ ps' = ps.adv (At.w a w).k (At.w a w).v p pl:=by
 obtain ⟨_,_,l',e,h3,h4,h5⟩:=C.ex
 cases e
 have nx:ps.Next (At.w a w).k (At.w a w).v (ps.adv (At.w a w).k (At.w a w).v (ps.place + 1:Nat) (ps.place + 1 + (a :: w).length)):=⟨1,(a :: w).length,(a :: w) ++ [],by rw [h4];simp [T],.word a w [] h1 (fun x hx=>List.all_eq_true.mp h2 x hx) rfl,rfl⟩
 exact ⟨_,_,_,nx,nx.tok,rfl⟩
noncomputable def fnm (i j:Nat):Str := "f" ++ dgS (10 * i + j)
noncomputable abbrev tW (i:Nat):At:=.w 84 (dg i)
noncomputable abbrev fW (i j:Nat):At:=.w 102 (dg (10 * i + j))
noncomputable def cw (s:Str):At:=match s.cps.toList with
 | a :: l=>.w a l
 | []=>.s 0
set_option genInjectivity true in
inductive Dc where
 | ptr (tg:Nat)
 | rcd (base:Option Nat) (fs:List FK)
noncomputable def atK:FK → Ats
 | .ptr k=>[(true,tW k)]
 | .int=>[(true,cw "INTEGER")]
 | .chr=>[(true,cw "CHAR")]
 | .achr m=>[(true,cw "ARRAY"),(true,.n m),(true,cw "OF"),(true,cw "CHAR")]
 | .aptr m k=>[(true,cw "ARRAY"),(true,.n m),(true,cw "OF"),(true,tW k)]
noncomputable def atF (i j:Nat) (f:FK):Ats:=(true,fW i j) :: (false,.s 58) :: (atK f ++ [(false,.s 59)])
noncomputable def atFs (i:Nat):Nat → List FK → Ats
 | _,[]=>[]
 | j,f :: r=>atF i j f ++ atFs i (j + 1) r
noncomputable def atB:Option Nat → Ats
 | none=>[]
 | some b=>[(true,.s 40),(false,tW b),(false,.s 41)]
noncomputable def atD (i:Nat):Dc → Ats
 | .ptr tg=>[(true,tW i),(true,.s 61),(true,cw "POINTER"),(true,cw "TO"),(true,tW tg),(false,.s 59)]
 | .rcd b fs=>(true,tW i) :: (true,.s 61) :: (true,cw "RECORD") :: (atB b ++ (atFs i 0 fs ++ [(true,cw "END"),(false,.s 59)]))
noncomputable def atDs:Nat → List Dc → Ats
 | _,[]=>[]
 | i,d :: r=>atD i d ++ atDs (i + 1) r
inductive Rw where
 | ptr (tg:Nat)
 | rcd (lev:Nat) (base:Option Nat) (size:Nat) (marks:List Int) (flds:List (Str × Nat))
noncomputable def up (s u:Nat):Nat:=(s + u - 1) / u * u
noncomputable def layF (i:Nat):Nat → Nat → List FK → List Int × List (Str × Nat) × Nat
 | _,s,[]=>([],[],s)
 | j,s,f :: r=>((f.inner.map fun x=>((up s f.unit:Nat):Int) + x) ++ (layF i (j + 1) (up s f.unit + f.size) r).1,(fnm i j,up s f.unit) :: (layF i (j + 1) (up s f.unit + f.size) r).2.1,(layF i (j + 1) (up s f.unit + f.size) r).2.2)
noncomputable def rowR (i lev:Nat) (b:Option Nat) (s:Nat) (m:List Int) (fs:List FK):Rw:=
 .rcd lev b (max 4 (up (layF i 0 s fs).2.2 4)) (m ++ (layF i 0 s fs).1) (layF i 0 s fs).2.1
noncomputable def pts (K:List Bool) (i:Nat):List Nat:=(List.range i).filter fun k=>!(K.getD k false)
inductive WF (K:List Bool):List Dc → List Rw → Prop
 | nil:WF K [] []
 | ptr {ds:List Dc} {rs:List Rw} {tg:Nat}:WF K ds rs → K[ds.length]? = some false → K[tg]? = some true → WF K (ds ++ [.ptr tg]) (rs ++ [.ptr tg])
 | rec0 {ds:List Dc} {rs:List Rw} {fs:List FK}:WF K ds rs → K[ds.length]? = some true → fs.length ≤ 3 → (∀ f ∈ fs,f.ok (pts K ds.length)) → WF K (ds ++ [.rcd none fs]) (rs ++ [rowR ds.length 0 none 0 [] fs])
 | rec1 {ds:List Dc} {rs:List Rw} {fs:List FK} {b lev s:Nat} {bb:Option Nat} {m:List Int} {fl:List (Str × Nat)}:WF K ds rs → K[ds.length]? = some true → fs.length ≤ 3 → (∀ f ∈ fs,f.ok (pts K ds.length)) → rs[b]? = some (.rcd lev bb s m fl) → lev < 3 →
   WF K (ds ++ [.rcd (some b) fs]) (rs ++ [rowR ds.length (lev + 1) (some b) s m fs])
theorem WF.len {K:List Bool} {ds:List Dc} {rs:List Rw} (h:WF K ds rs):ds.length = rs.length:=by
 induction h <;> simp_all
theorem WF.le {K:List Bool} {ds:List Dc} {rs:List Rw} (h:WF K ds rs):ds.length ≤ K.length:=by
 have lt:∀ {i:Nat} {b:Bool},K[i]? = some b → i < K.length:=fun {i b} h=>by
  rcases Nat.lt_or_ge i K.length with q | q
  ·exact q
  ·rw [List.getElem?_eq_none q] at h;cases h
 cases h with
 | nil=>exact Nat.zero_le _
 | ptr _ h _=>have:=lt h;simp;omega
 | rec0 _ h _ _=>have:=lt h;simp;omega
 | rec1 _ h _ _ _ _=>have:=lt h;simp;omega
theorem tW_k:∀ i,i < 60 → (tW i).k = "ident" := by decide +kernel
theorem tW_s:∀ i,i < 60 → (if kwS.any (fun y=>y == tx (84 :: dg i)) then ("" : Str) else tx (84 :: dg i)) = tnm i:=by decide +kernel
theorem tW_v (i:Nat) (h:i < 60):(tW i).v = .str (tnm i):=congrArg V.str (tW_s i h)
theorem fW_k:∀ n,n < 60 → (At.w 102 (dg n)).k = "ident" := by decide +kernel
theorem fW_s:∀ n,n < 60 → (if kwS.any (fun y=>y == tx (102 :: dg n)) then ("" : Str) else tx (102 :: dg n)) = ("f" ++ dgS n:Str):=by decide +kernel
theorem fW_v (i j:Nat) (h:10 * i + j < 60):(fW i j).v = .str (fnm i j):=congrArg V.str (fW_s _ h)
theorem ok_t:∀ i,i < 60 → okA (tW i) 32 = true ∧ okA (tW i) 59 = true ∧ okA (tW i) 41 = true:=by decide +kernel
theorem ok_f:∀ n,n < 60 → okA (At.w 102 (dg n)) 58 = true:=by decide +kernel
theorem ok_n:∀ n,n < 60 → okA (.n n) 32 = true:=by decide +kernel
theorem dec_n:∀ n,n < 60 → decV 0 (dg n) = (n:Int):=by decide +kernel
theorem ok_par:∀ i,i < 60 → okA (.s 40) ((tW i).txt.headD 41) = true:=by decide +kernel
noncomputable def FK.sm:FK → Prop
 | .ptr k=>k < 60
 | .int=>True
 | .chr=>True
 | .achr m=>1 ≤ m ∧ m ≤ 3
 | .aptr m k=>1 ≤ m ∧ m ≤ 3 ∧ k < 60
theorem ok_K (f:FK) (h:f.sm):okL (atK f) 59 = true ∧ hdc (atK f) 59 = 32:=by
 cases f with
 | ptr k=>
  refine ⟨?_,rfl⟩
  show (okA (tW k) 59 && true) = true
  rw [(ok_t k h).2.1];rfl
 | int=>exact ⟨by decide +kernel,rfl⟩
 | chr=>exact ⟨by decide +kernel,rfl⟩
 | achr m=>
  refine ⟨?_,rfl⟩
  show (okA (cw "ARRAY") 32 && (okA (.n m) 32 && (okA (cw "OF") 32 && (okA (cw "CHAR") 59 && true)))) = true
  rw [ok_n m (by have:=h.2;omega)]
  decide +kernel
 | aptr m k=>
  refine ⟨?_,rfl⟩
  show (okA (cw "ARRAY") 32 && (okA (.n m) 32 && (okA (cw "OF") 32 && (okA (tW k) 59 && true)))) = true
  rw [ok_n m (by have:=h.2.1;omega),(ok_t k h.2.2).2.1]
  decide +kernel
theorem ok_F (i j:Nat) (f:FK) (h:f.sm) (hij:10 * i + j < 60):okL (atF i j f) 32 = true ∧ hdc (atF i j f) 32 = 32:=by
 refine ⟨?_,rfl⟩
 obtain ⟨a,b⟩:=ok_K f h
 have c:okL (atK f ++ [(false,.s 59)]) 32 = true:=by
  rw [okL_app]
  show (okL (atK f) 59 && (okA (.s 59) 32 && true)) = true
  rw [a];decide +kernel
 have d:hdc (atK f ++ [(false,.s 59)]) 32 = 32:=by
  rw [hdc_app];exact b
 show (okA (fW i j) 58 && (okA (.s 58) (hdc (atK f ++ [(false,.s 59)]) 32) && okL (atK f ++ [(false,.s 59)]) 32)) = true
 rw [c,d,ok_f _ hij]
 decide +kernel
theorem ok_Fs (i:Nat):∀ (fs:List FK) (j:Nat),(∀ f ∈ fs,f.sm) → 10 * i + j + fs.length ≤ 60 → okL (atFs i j fs) 32 = true ∧ hdc (atFs i j fs) 32 = 32
 | [],_,_,_=>⟨rfl,rfl⟩
 | f :: r,j,h,hl=>by
  obtain ⟨a,b⟩:=ok_Fs i r (j + 1) (fun x hx=>h x (.tail _ hx)) (by simp at hl;exact cb1 hl)
  obtain ⟨c,d⟩:=ok_F i j f (h f (.head _)) (by simp at hl;omega)
  show okL (atF i j f ++ atFs i (j + 1) r) 32 = true ∧ hdc (atF i j f ++ atFs i (j + 1) r) 32 = 32
  rw [okL_app,hdc_app,b]
  exact ⟨by rw [c,a];rfl,d⟩
theorem ok_D (i:Nat) (d:Dc) (hi:i < 6) (h:match d with | .ptr tg=>tg < 60 | .rcd b fs=>(∀ x,b = some x → x < 60) ∧ fs.length ≤ 3 ∧ ∀ f ∈ fs,f.sm):okL (atD i d) 32 = true ∧ hdc (atD i d) 32 = 32:=by
 refine ⟨?_,by cases d <;> rfl⟩
 cases d with
 | ptr tg=>
  show (okA (tW i) 32 && (okA (.s 61) 32 && (okA (cw "POINTER") 32 && (okA (cw "TO") 32 && (okA (tW tg) 59 && (okA (.s 59) 32 && true)))))) = true
  rw [(ok_t i (by omega)).1,(ok_t tg h).2.1]
  decide +kernel
 | rcd b fs=>
  obtain ⟨h1,h2,h3⟩:=h
  obtain ⟨a,c⟩:=ok_Fs i fs 0 h3 (by omega)
  have e1:okL [(true,cw "END"),(false,.s 59)] 32 = true:=by decide +kernel
  have e2:okL (atFs i 0 fs ++ [(true,cw "END"),(false,.s 59)]) 32 = true ∧ hdc (atFs i 0 fs ++ [(true,cw "END"),(false,.s 59)]) 32 = 32:=by
   rw [okL_app,hdc_app]
   show (okL (atFs i 0 fs) 32 && _) = true ∧ hdc (atFs i 0 fs) 32 = 32
   rw [a,e1];exact ⟨rfl,c⟩
  have e3:okL (atB b ++ (atFs i 0 fs ++ [(true,cw "END"),(false,.s 59)])) 32 = true ∧ hdc (atB b ++ (atFs i 0 fs ++ [(true,cw "END"),(false,.s 59)])) 32 = 32:=by
   obtain ⟨X,hX⟩ : ∃ X,X = atFs i 0 fs ++ [(true,cw "END"),(false,.s 59)]:=⟨_,rfl⟩
   rw [← hX] at e2 ⊢
   rw [okL_app,hdc_app,e2.1,e2.2]
   cases b with
   | none=>exact ⟨rfl,rfl⟩
   | some x=>
    refine ⟨?_,rfl⟩
    show ((okA (.s 40) ((tW x).txt.headD 41) && (okA (tW x) 41 && (okA (.s 41) 32 && true))) && true) = true
    rw [ok_par x (h1 x rfl),(ok_t x (h1 x rfl)).2.2]
    decide +kernel
  show (okA (tW i) 32 && (okA (.s 61) 32 && (okA (cw "RECORD") (hdc (atB b ++ (atFs i 0 fs ++ [(true,cw "END"),(false,.s 59)])) 32) && okL (atB b ++ (atFs i 0 fs ++ [(true,cw "END"),(false,.s 59)])) 32))) = true
  rw [e3.1,e3.2,(ok_t i (by omega)).1]
  decide +kernel
noncomputable def NameOk (ps:PS) (x form:Str) (size:Int):Prop:=∃ kk r i tr,ps.find x = some kk ∧ ps.objs[kk]? = some r ∧ r.kind = "type" ∧ r.type = .ref (tyN i) ∧ ps.types[i]? = some tr ∧ tr.form = form ∧ tr.size = size
noncomputable def NmF (ps:PS):FK → Prop
 | .ptr k=>NameOk ps (tnm k) "pointer" 4
 | .int=>NameOk ps "INTEGER" "integer" 4
 | .chr=>NameOk ps "CHAR" "char" 1
 | .achr _=>NameOk ps "CHAR" "char" 1
 | .aptr _ k=>NameOk ps (tnm k) "pointer" 4
noncomputable def FT (ps:PS) (ti:Nat):FK → Prop
 | .ptr _=>∃ tr,ps.types[ti]? = some tr ∧ tr.form = "pointer" ∧ tr.size = 4
 | .int=>∃ tr,ps.types[ti]? = some tr ∧ tr.form = "integer" ∧ tr.size = 4
 | .chr=>∃ tr,ps.types[ti]? = some tr ∧ tr.form = "char" ∧ tr.size = 1
 | .achr m=>∃ tr j tr2,ps.types[ti]? = some tr ∧ tr.form = "array" ∧ tr.size = (m:Int) * 1 ∧ tr.base = .ref (tyN j) ∧ tr.length = (m:Int) ∧ ps.types[j]? = some tr2 ∧ tr2.form = "char" ∧ tr2.size = 1
 | .aptr m _=>∃ tr j tr2,ps.types[ti]? = some tr ∧ tr.form = "array" ∧ tr.size = (m:Int) * 4 ∧ tr.base = .ref (tyN j) ∧ tr.length = (m:Int) ∧ ps.types[j]? = some tr2 ∧ tr2.form = "pointer" ∧ tr2.size = 4
structure Gf (ps psT:PS):Prop where
 types:∃ l,psT.types = ps.types ++ l
 objs:psT.objs = ps.objs
 scs:psT.scs = ps.scs
 recs:psT.recs = ps.recs
 fwd:psT.fwd = ps.fwd
 nf:psT.nf = ps.nf
 lvl:psT.lvl = ps.lvl
 L:psT.L = ps.L
 toks:∀ (i:Nat) (r:TokR),ps.toks[i]? = some r → psT.toks[i]? = some r
 keys:psT.keys.length ≤ ps.keys.length + 1
theorem Gf.adv (ps:PS) (k:Str) (v:V) (p:Int) (pl:Nat):Gf ps (ps.adv k v p pl):=⟨⟨[],(List.append_nil _).symm⟩,rfl,rfl,rfl,rfl,rfl,rfl,rfl,(fun i r h=>by
 show (ps.toks ++ [_])[i]? = _
 rcases Nat.lt_or_ge i ps.toks.length with q | q
 ·rw [List.getElem?_append_left q];exact h
 ·rw [List.getElem?_eq_none q] at h;cases h),Nat.le_succ _⟩
theorem Gf.step {ps ps' psT:PS} {k:Str} {v:V} {p:Int} {pl:Nat} (e:ps' = ps.adv k v p pl) (G:Gf ps' psT):Gf ps psT:=by
 subst e
 have A:=Gf.adv ps k v p pl
 exact ⟨G.types,G.objs,G.scs,G.recs,G.fwd,G.nf,G.lvl,G.L,fun i r h=>G.toks i r (A.toks i r h),G.keys⟩
theorem Gf.get {ps psT:PS} (G:Gf ps psT) {i:Nat} {r:TyR} (h:ps.types[i]? = some r):psT.types[i]? = some r:=by
 obtain ⟨l,e⟩:=G.types
 rw [e]
 rcases Nat.lt_or_ge i ps.types.length with q | q
 ·rw [List.getElem?_append_left q];exact h
 ·rw [List.getElem?_eq_none q] at h;cases h
theorem Gf.len {ps psT:PS} (G:Gf ps psT):ps.types.length ≤ psT.types.length:=by
 obtain ⟨l,e⟩:=G.types
 rw [e,List.length_append];omega
noncomputable def PTf (ps:PS) (f:FK) (rest:Ats) (R:List Nat) (psT:PS) (ti:Nat):Prop:=FT psT ti f ∧ Gf ps psT ∧ Cur psT ((false,.s 59) :: rest) R ∧ psT.Ok ∧ psT.Kn
theorem typeOf_name {k:Nat} {ps:PS} {x lb form:Str} {size:Int} {rest:Ats} {R:List Nat} {b:Bool} {a:At} (C:Cur ps ((b,a) :: (false,.s 59) :: rest) R) (ha:a.k = "ident") (hv:a.v = .str x) (ok:ps.Ok) (kn:ps.Kn) (hN:NameOk ps x form size) (hf:(form == "none") = false)
  (P:PS → Nat → Prop) (hP:∀ (psT:PS) (ti:Nat) (tr:TyR),psT.types[ti]? = some tr → tr.form = form → tr.size = size → Gf ps psT → Cur psT ((false,.s 59) :: rest) R → psT.Ok → psT.Kn → P psT ti):TypeOf k ps lb P:=by
 intro c σ t Q g rm I h
 obtain ⟨kk,r,i,tr,h1,h2,h3,h4,h5,h6,h7⟩:=hN
 obtain ⟨ps',p,pl,n1,C',e⟩:=C.next
 have ht:ps.tok "ident" (.str x):=by
  have:=C.tok
  rw [ha,hv] at this
  exact this
 refine sp_type_of_name (k:=k) g (rm.less (by omega)) I ok ht n1 h1 h2 h3 h4 h5 (by rw [h6];exact hf) fun h' I' F'=>h h' _ ps' i (by omega) ?_ I' F'
 refine hP ps' i tr (by rw [e];exact h5) h6 h7 (e ▸ Gf.adv _ _ _ _ _) C' (n1.ok ok) ?_
 rw [e];exact ⟨kn.kn,kn.le⟩
theorem typeOf_array {k m:Nat} {ps:PS} {x lb form:Str} {size:Int} {rest:Ats} {R:List Nat} {a:At} (C:Cur ps ((true,cw "ARRAY") :: (true,.n m) :: (true,cw "OF") :: (true,a) :: (false,.s 59) :: rest) R) (ha:a.k = "ident") (hv:a.v = .str x) (ok:ps.Ok) (kn:ps.Kn) (hkl:ps.keys.length ≤ 1000) (hm:1 ≤ m ∧ m ≤ 3) (hN:NameOk ps x form size) (hf:(form == "none") = false)
  (h3:∃ r3,ps.types[3]? = some r3 ∧ r3.form = ("integer" : Str)) (hlb:(lb != "") = true) (hll:lb.length ≤ 1000) (hs0:0 ≤ size) (hs1:size ≤ 16)
  (P:PS → Nat → Prop) (hP:∀ (psT:PS) (ti:Nat) (tr:TyR) (j:Nat) (tr2:TyR),psT.types[ti]? = some tr → tr.form = ("array" : Str) → tr.size = (m:Int) * size → tr.base = .ref (tyN j) → tr.length = (m:Int) → psT.types[j]? = some tr2 → tr2.form = form → tr2.size = size → Gf ps psT → Cur psT ((false,.s 59) :: rest) R → psT.Ok → psT.Kn → P psT ti):TypeOf k ps lb P:=by
 intro c σ t Q g rm I h
 obtain ⟨kk,r,i,tr,h1,h2,h3',h4,h5,h6,h7⟩:=hN
 obtain ⟨r3,hr3,hr3f⟩:=h3
 have ht:ps.tok "ARRAY" (cw "ARRAY").v:=C.tok
 obtain ⟨ps1,p1,pl1,n1,C1,e1⟩:=C.next
 obtain ⟨ps2,p2,pl2,n2,C2,e2⟩:=C1.next
 obtain ⟨ps3,p3,pl3,n3,C3,e3⟩:=C2.next
 obtain ⟨ps4,p4,pl4,n4,C4,e4⟩:=C3.next
 have n1' : ps.Next "int" (.int (m:Int)) ps1:=by
  have:(At.n m).v = V.int (m:Int):=congrArg V.int (dec_n m (by exact cb1 hm.2))
  rw [← this];exact n1
 have n3' : ps2.Next "ident" (.str x) ps3:=by rw [← ha,← hv];exact n3
 have kn4:ps4.Kn:=by rw [e4,e3,e2,e1];exact ⟨kn.kn,kn.le⟩
 have G4:Gf ps ps4:=Gf.step e1 (Gf.step e2 (Gf.step e3 (e4 ▸ Gf.adv _ _ _ _ _)))
 have ek:ps4.keys = ps.keys:=by rw [e4,e3,e2,e1];rfl
 have et:ps4.types = ps.types:=by rw [e4,e3,e2,e1];rfl
 have ok4:=n4.ok (n3.ok (n2.ok (n1.ok ok)))
 refine sp_type_of_array (k:=k) (lb:=lb) g (rm.less (by omega)) I ok kn4 (by rw [ek];exact hkl) ht n1' n2 n3' n4 hr3 hr3f (by omega) (by omega) h1 h2 h3' h4 h5 (by rw [h6];exact hf) hlb hll (by rw [h7];exact hs0) (by rw [h7];exact hs1) fun h' t' ks' lt I' kn' F'=>h h' t' _ _ lt ?_ I' F'
 have G:Gf ps (ps4.newT ⟨"array",(m:Int) * tr.size,.ref (tyN i),(m:Int),[],0,lb⟩ ks'):=⟨⟨[_],by show ps4.types ++ [_] = _;rw [et]⟩,G4.objs,G4.scs,G4.recs,G4.fwd,G4.nf,G4.lvl,G4.L,G4.toks,by show (ps4.keys ++ [_]).length ≤ _;rw [ek];simp⟩
 refine hP _ _ ⟨"array",(m:Int) * tr.size,.ref (tyN i),(m:Int),[],0,lb⟩ i tr (newT_last _ _ _) rfl (by rw [h7]) rfl rfl (G.get h5) h6 h7 G ⟨C4.ex⟩ ⟨ok4.small,ok4.cur⟩ kn'
theorem typeOf_fk {k:Nat} {ps:PS} {f:FK} {lb:Str} {rest:Ats} {R:List Nat} (hs:f.sm) (C:Cur ps (atK f ++ (false,.s 59) :: rest) R) (ok:ps.Ok) (kn:ps.Kn) (hkl:ps.keys.length ≤ 1000) (hN:NmF ps f) (h3:∃ r3,ps.types[3]? = some r3 ∧ r3.form = ("integer" : Str)) (hlb:(lb != "") = true) (hll:lb.length ≤ 1000) :
  TypeOf k ps lb (PTf ps f rest R):=by
 cases f with
 | ptr j=>exact typeOf_name C (tW_k j hs) (tW_v j hs) ok kn hN rfl _ fun psT ti tr a b c d e f g=>⟨⟨tr,a,b,c⟩,d,e,f,g⟩
 | int=>exact typeOf_name (x := "INTEGER") C (by decide +kernel) (congrArg V.str (by decide +kernel:(if kwS.any (fun y=>y == tx (73 :: [78,84,69,71,69,82])) then ("" : Str) else tx (73 :: [78,84,69,71,69,82])) = ("INTEGER" : Str))) ok kn hN rfl _ fun psT ti tr a b c d e f g=>⟨⟨tr,a,b,c⟩,d,e,f,g⟩
 | chr=>exact typeOf_name (x := "CHAR") C (by decide +kernel) (congrArg V.str (by decide +kernel:(if kwS.any (fun y=>y == tx (67 :: [72,65,82])) then ("" : Str) else tx (67 :: [72,65,82])) = ("CHAR" : Str))) ok kn hN rfl _ fun psT ti tr a b c d e f g=>⟨⟨tr,a,b,c⟩,d,e,f,g⟩
 | achr m=>exact typeOf_array (x := "CHAR") C (by decide +kernel) (congrArg V.str (by decide +kernel:(if kwS.any (fun y=>y == tx (67 :: [72,65,82])) then ("" : Str) else tx (67 :: [72,65,82])) = ("CHAR" : Str))) ok kn hkl hs hN rfl h3 hlb hll (by decide) (by decide) _ fun psT ti tr j tr2 a b c d e f g i' j' k' l' m'=>⟨⟨tr,j,tr2,a,b,c,d,e,f,g,i'⟩,j',k',l',m'⟩
 | aptr m j=>exact typeOf_array C (tW_k j hs.2.2) (tW_v j hs.2.2) ok kn hkl ⟨hs.1,hs.2.1⟩ hN rfl h3 hlb hll (by decide) (by decide) _ fun psT ti tr j tr2 a b c d e f g i' j' k' l' m'=>⟨⟨tr,j,tr2,a,b,c,d,e,f,g,i'⟩,j',k',l',m'⟩
theorem FT.same {ps ps' : PS} {ti:Nat} {f:FK} (h:FT ps ti f) (e:∀ (i:Nat) (r:TyR),ps.types[i]? = some r → r.form ≠ ("record" : Str) → ∃ r' : TyR,ps'.types[i]? = some r' ∧ r'.form = r.form ∧ r'.size = r.size ∧ r'.length = r.length ∧ (r.form = ("array" : Str) → r'.base = r.base)):FT ps' ti f:=by
 have s1:∀ {a b:Str},(a == b) = false → a ≠ b:=fun h e=>by rw [e] at h;simp at h
 cases f with
 | ptr k=>obtain ⟨tr,a,b,c⟩:=h;obtain ⟨r',a',b',c',d',e'⟩:=e _ _ a (by rw [b];exact s1 rfl);exact ⟨r',a',b'.trans b,c'.trans c⟩
 | int=>obtain ⟨tr,a,b,c⟩:=h;obtain ⟨r',a',b',c',d',e'⟩:=e _ _ a (by rw [b];exact s1 rfl);exact ⟨r',a',b'.trans b,c'.trans c⟩
 | chr=>obtain ⟨tr,a,b,c⟩:=h;obtain ⟨r',a',b',c',d',e'⟩:=e _ _ a (by rw [b];exact s1 rfl);exact ⟨r',a',b'.trans b,c'.trans c⟩
 | achr m=>
  obtain ⟨tr,j,tr2,a,b,c,d,f,g,h1,h2⟩:=h
  obtain ⟨r',a',b',c',d',e'⟩:=e _ _ a (by rw [b];exact s1 rfl)
  obtain ⟨r2,a2,b2,c2,d2,e2⟩:=e _ _ g (by rw [h1];exact s1 rfl)
  exact ⟨r',j,r2,a',b'.trans b,c'.trans c,(e' b).trans d,d'.trans f,a2,b2.trans h1,c2.trans h2⟩
 | aptr m k=>
  obtain ⟨tr,j,tr2,a,b,c,d,f,g,h1,h2⟩:=h
  obtain ⟨r',a',b',c',d',e'⟩:=e _ _ a (by rw [b];exact s1 rfl)
  obtain ⟨r2,a2,b2,c2,d2,e2⟩:=e _ _ g (by rw [h1];exact s1 rfl)
  exact ⟨r',j,r2,a',b'.trans b,c'.trans c,(e' b).trans d,d'.trans f,a2,b2.trans h1,c2.trans h2⟩
inductive FDo (ps:PS):Nat → Nat → List V → List Str → List FK → Prop
 | nil {lo hi:Nat}:lo ≤ hi → FDo ps lo hi [] [] []
 | cons {lo hi k ti:Nat} {p:Int} {x:Str} {f:FK} {fv:List V} {xs:List Str} {fs:List FK}:lo ≤ k → ps.objs[k]? = some (fldO x ti p) → FT ps ti f → FDo ps (k + 1) hi fv xs fs → FDo ps lo hi (.ref (obN k) :: fv) (x :: xs) (f :: fs)
inductive FD (ps:PS):List V → List (Str × Nat) → List FK → Prop
 | nil:FD ps [] [] []
 | cons {k ti o:Nat} {p:Int} {x:Str} {f:FK} {fv:List V} {xs:List (Str × Nat)} {fs:List FK}:ps.objs[k]? = some { fldO x ti p with offset:=(o:Int) } → FT ps ti f → FD ps fv xs fs → FD ps (.ref (obN k) :: fv) ((x,o) :: xs) (f :: fs)
theorem FDo.le {ps:PS} {lo hi:Nat} {fv:List V} {xs:List Str} {fs:List FK} (h:FDo ps lo hi fv xs fs):lo ≤ hi:=by
 induction h with
 | nil h=>exact h
 | cons a _ _ _ ih=>exact cb2 a ih
theorem FDo.mono {ps ps' : PS} {lo hi:Nat} {fv:List V} {xs:List Str} {fs:List FK} (h:FDo ps lo hi fv xs fs) (ho:∀ (i:Nat) (r:ObR),lo ≤ i → ps.objs[i]? = some r → ps'.objs[i]? = some r) (ht:∀ ti f,FT ps ti f → FT ps' ti f):FDo ps' lo hi fv xs fs:=by
 induction h with
 | nil h=>exact .nil h
 | cons a b c _ ih=>exact .cons a (ho _ _ a b) (ht _ _ c) (ih fun i r h=>ho i r (by exact cb2 a h))
theorem FDo.snoc {ps:PS} {lo hi:Nat} {fv:List V} {xs:List Str} {fs:List FK} {ti:Nat} {p:Int} {x:Str} {f:FK} (h:FDo ps lo hi fv xs fs) (ho:ps.objs[hi]? = some (fldO x ti p)) (ht:FT ps ti f):FDo ps lo (hi + 1) (fv ++ [.ref (obN hi)]) (xs ++ [x]) (fs ++ [f]):=by
 induction h with
 | nil h=>exact .cons h ho ht (.nil (Nat.le_refl _))
 | cons a b c _ ih=>exact .cons a b c (ih ho)
theorem FDo.length {ps:PS} {lo hi:Nat} {fv:List V} {xs:List Str} {fs:List FK} (h:FDo ps lo hi fv xs fs):fv.length = fs.length:=by
 induction h <;> simp_all
theorem FD.mono {ps ps' : PS} {fv:List V} {xs:List (Str × Nat)} {fs:List FK} (h:FD ps fv xs fs) (ho:∀ (i:Nat) (r:ObR),ps.objs[i]? = some r → ps'.objs[i]? = some r) (ht:∀ ti f,FT ps ti f → FT ps' ti f):FD ps' fv xs fs:=by
 induction h with
 | nil=>exact .nil
 | cons b c _ ih=>exact .cons (ho _ _ b) (ht _ _ c) ih
noncomputable def nmsF (i:Nat):Nat → List FK → List Str
 | _,[]=>[]
 | j,_ :: r=>fnm i j :: nmsF i (j + 1) r
theorem nmsF_snoc (i:Nat):∀ (fs:List FK) (j:Nat) (f:FK),nmsF i j (fs ++ [f]) = nmsF i j fs ++ [fnm i (j + fs.length)]
 | [],_,_=>rfl
 | _ :: r,j,f=>by
  show fnm i j :: nmsF i (j + 1) (r ++ [f]) = fnm i j :: (nmsF i (j + 1) r ++ _)
  rw [nmsF_snoc i r (j + 1) f]
  congr 4
  simp;exact ce0
theorem FK.size_le (f:FK) (h:f.sm):1 ≤ f.size ∧ f.size ≤ 12 ∧ (f.unit = 1 ∨ f.unit = 4):=by
 cases f with
 | ptr k=>exact ⟨by show 1 ≤ 4;decide,by show 4 ≤ 12;decide,.inr rfl⟩
 | int=>exact ⟨by decide,by decide,.inr rfl⟩
 | chr=>exact ⟨by decide,by decide,.inl rfl⟩
 | achr m=>exact ⟨h.1,by show m ≤ 12;have:=h.2;omega,.inl rfl⟩
 | aptr m k=>exact ⟨by show 1 ≤ 4 * m;have:=h.1;exact cb1 this,by show 4 * m ≤ 12;have:=h.2.1;exact cb4 this this this this,.inr rfl⟩
theorem up_le (s u:Nat) (h:u = 1 ∨ u = 4):s ≤ up s u ∧ up s u ≤ s + 3 ∧ up s u % u = 0:=by
 have hu:1 ≤ u ∧ u ≤ 4:=by rcases h with rfl | rfl <;> decide
 have e:=Nat.div_add_mod' (s + u - 1) u
 have r:=Nat.mod_lt (s + u - 1) hu.1
 have m:up s u % u = 0:=Nat.mul_mod_left _ _
 have e2:s + u - 1 + 1 = s + u:=Nat.sub_add_cancel (Nat.le_trans hu.1 (Nat.le_add_left _ _))
 refine ⟨?_,?_,m⟩
 ·show s ≤ (s + u - 1) / u * u
  exact cb3 (eR e) r (eR e2)
 ·show (s + u - 1) / u * u ≤ s + 3
  exact cb3 (eL e) (eL e2) hu.2
theorem up1 (s:Nat):up s 1 = s:=by unfold up;rw [Nat.add_sub_cancel,Nat.div_one,Nat.mul_one]
theorem rup4 (s:Nat):((s:Int) + 3).fdiv 4 * 4 = ((up s 4:Nat):Int):=rfl
theorem FT.un {ps:PS} {ti:Nat} {f:FK} (h:FT ps ti f) (s:Nat):∃ tr j tr2,Un ps ti j tr tr2 ∧ rup (s:Int) (al1 tr2.form) = ((up s f.unit:Nat):Int) ∧ tr.size = (f.size:Int):=by
 have r1:rup (s:Int) 1 = ((up s 1:Nat):Int):=by
  unfold rup
  rw [up1,Int.add_sub_cancel,Int.fdiv_one,Int.mul_one]
 have r4:rup (s:Int) 4 = ((up s 4:Nat):Int):=by
  unfold rup
  rw [show (s:Int) + 4 - 1 = s + 3 from Int.add_sub_assoc _ _ _,rup4]
 cases f with
 | ptr k=>obtain ⟨tr,a,b,c⟩:=h;exact ⟨tr,ti,tr,⟨a,a,by rw [b];rfl,.inl ⟨rfl,rfl⟩⟩,by rw [b];exact r4,c⟩
 | int=>obtain ⟨tr,a,b,c⟩:=h;exact ⟨tr,ti,tr,⟨a,a,by rw [b];rfl,.inl ⟨rfl,rfl⟩⟩,by rw [b];exact r4,c⟩
 | chr=>obtain ⟨tr,a,b,c⟩:=h;exact ⟨tr,ti,tr,⟨a,a,by rw [b];rfl,.inl ⟨rfl,rfl⟩⟩,by rw [b];exact r1,c⟩
 | achr m=>obtain ⟨tr,j,tr2,a,b,c,d,f,g,h1,h2⟩:=h;exact ⟨tr,j,tr2,⟨a,g,by rw [h1];rfl,.inr ⟨b,d⟩⟩,by rw [h1];exact r1,by rw [c];exact Int.mul_one _⟩
 | aptr m k=>obtain ⟨tr,j,tr2,a,b,c,d,f,g,h1,h2⟩:=h;exact ⟨tr,j,tr2,⟨a,g,by rw [h1];rfl,.inr ⟨b,d⟩⟩,by rw [h1];exact r4,by rw [c];exact Int.mul_comm _ _⟩
theorem FDo.place {i hi:Nat}:∀ {fs:List FK} {ps:PS} {lo j s:Nat} {fv:List V} {xs:List Str},FDo ps lo hi fv xs fs → xs = nmsF i j fs → (∀ f ∈ fs,f.sm) → s + 15 * fs.length ≤ 1000000 →
  ∃ os:List ObR,Pl ps (s:Int) fv { ps with objs:=os } ((layF i j s fs).2.2:Nat) ∧ FD { ps with objs:=os } fv (layF i j s fs).2.1 fs ∧ os.length = ps.objs.length ∧ (∀ i,i < lo → os[i]? = ps.objs[i]?) ∧ (layF i j s fs).2.2 ≤ s + 15 * fs.length
 | [],ps,lo,j,s,fv,xs,h,hx,hs,hb=>by
  cases h with
  | nil h=>exact ⟨ps.objs,.nil (by omega) (by simp at hb;omega),.nil,rfl,fun _ _=>rfl,by simp [layF]⟩
 | f :: r,ps,lo,j,s,fv,xs,h,hx,hs,hb=>by
  cases h with
  | @cons _ _ k ti p x _ fv xs _ h1 h2 h3 h4=>
  obtain ⟨rfl,hx'⟩:=List.cons.inj hx
  obtain ⟨tr,jj,tr2,hu,hr,hsz⟩:=h3.un s
  obtain ⟨z1,z2,z3⟩:=f.size_le (hs f (.head _))
  obtain ⟨u1,u2,u3⟩:=up_le s f.unit z3
  have hb' : up s f.unit + f.size + 15 * r.length ≤ 1000000:=by simp at hb;exact cb3 hb z2 u2
  have hk:k < ps.objs.length:=by
   rcases Nat.lt_or_ge k ps.objs.length with q | q
   ·exact q
   ·rw [List.getElem?_eq_none q] at h2;cases h2
  have so:∀ b,(ps.setO k { fldO (fnm i j) ti p with offset:=((up s f.unit:Nat):Int) }).objs[b]? = if b = k then some { fldO (fnm i j) ti p with offset:=((up s f.unit:Nat):Int) } else ps.objs[b]?:=fun b=>set_get _ _ _ _ hk
  have h4' : FDo (ps.setO k { fldO (fnm i j) ti p with offset:=((up s f.unit:Nat):Int) }) (k + 1) hi fv xs r:=h4.mono (fun i r hi e=>by rw [so,if_neg (by exact fun q=>cf2 (eL q) hi)];exact e) (fun ti f h=>h.same fun i r e _=>⟨r,e,rfl,rfl,rfl,fun _=>rfl⟩)
  obtain ⟨os,p1,p2,p3,p4,p5⟩:=FDo.place (j:=j + 1) (s:=up s f.unit + f.size) h4' hx' (fun f hf=>hs f (.tail _ hf)) hb'
  refine ⟨os,?_,?_,?_,?_,?_⟩
  ·refine .cons (by omega) (by simp at hb;omega) h2 rfl hu ?_
   rw [hr,hsz]
   have:((up s f.unit:Nat):Int) + (f.size:Int) = ((up s f.unit + f.size:Nat):Int):=by omega
   rw [this]
   exact p1
  ·refine .cons (p:=p) ?_ (h3.same fun i r e _=>⟨r,e,rfl,rfl,rfl,fun _=>rfl⟩) p2
   show os[k]? = _
   rw [p4 k (Nat.lt_succ_self _),so,if_pos rfl]
  ·rw [p3];show (ps.objs.set _ _).length = _;simp
  ·intro i hi
   rw [p4 i (by exact cb2 h1 hi),so,if_neg (by exact fun q=>cf3 (eR q) h1 hi)]
  ·show (layF i (j + 1) (up s f.unit + f.size) r).2.2 ≤ _
   simp only [List.length_cons]
   exact cb3 z2 u2 p5
theorem FDo.noF {ps:PS} {lo hi:Nat} {fv:List V} {xs:List Str} {fs:List FK} {y:Str} (h:FDo ps lo hi fv xs fs) (hy:∀ x ∈ xs,(x == y) = false):∀ v ∈ fv,∃ k ob,v = V.ref (obN k) ∧ ps.objs[k]? = some ob ∧ (ob.name == y) = false:=by
 induction h with
 | nil _=>intro v hv;cases hv
 | cons a b c _ ih=>
  intro v hv
  rcases List.mem_cons.mp hv with rfl | hv
  ·exact ⟨_,_,rfl,b,hy _ (.head _)⟩
  ·exact ih (fun x hx=>hy x (.tail _ hx)) v hv
theorem FD.noF {ps:PS} {fv:List V} {xs:List (Str × Nat)} {fs:List FK} {y:Str} (h:FD ps fv xs fs) (hy:∀ x ∈ xs,(x.1 == y) = false):∀ v ∈ fv,∃ k ob,v = V.ref (obN k) ∧ ps.objs[k]? = some ob ∧ (ob.name == y) = false:=by
 induction h with
 | nil=>intro v hv;cases hv
 | cons b c _ ih=>
  intro v hv
  rcases List.mem_cons.mp hv with rfl | hv
  ·exact ⟨_,_,rfl,b,hy _ (.head _)⟩
  ·exact ih (fun x hx=>hy x (.tail _ hx)) v hv
theorem FT.po {ps:PS} {ti:Nat} {f:FK} (h:FT ps ti f) (hs:f.sm):PO ps ti f.inner:=by
 cases f with
 | ptr k=>obtain ⟨tr,a,b,c⟩:=h;have:=PO.flat a (by rw [b];rfl) (by rw [b];rfl);rw [b] at this;exact this
 | int=>obtain ⟨tr,a,b,c⟩:=h;have:=PO.flat a (by rw [b];rfl) (by rw [b];rfl);rw [b] at this;exact this
 | chr=>obtain ⟨tr,a,b,c⟩:=h;have:=PO.flat a (by rw [b];rfl) (by rw [b];rfl);rw [b] at this;exact this
 | achr m=>
  obtain ⟨tr,j,tr2,a,b,c,d,f,g,h1,h2⟩:=h
  have:=PO.arr a b d f (by have:=hs.2;omega) g (by rw [h1];rfl) (by rw [h1];rfl)
  rw [h1] at this;exact this
 | aptr m k=>
  obtain ⟨tr,j,tr2,a,b,c,d,f,g,h1,h2⟩:=h
  have:=PO.arr a b d f (by have:=hs.2.1;omega) g (by rw [h1];rfl) (by rw [h1];rfl)
  rw [h1,h2] at this
  rw [show (FK.aptr m k).inner = (List.range m).map (fun q:Nat=>((q:Int) * 4 + 0)) from List.map_congr_left fun q _=>by show 4 * (q:Int) = (q:Int) * 4 + 0;omega]
  exact this
theorem FD.fp {i:Nat}:∀ {fs:List FK} {ps:PS} {j s:Nat} {fv:List V},FD ps fv (layF i j s fs).2.1 fs → (∀ f ∈ fs,f.sm) → FP ps fv (layF i j s fs).1
 | [],ps,j,s,fv,h,_=>by cases h;exact .nil
 | f :: r,ps,j,s,fv,h,hs=>by
  cases h with
  | cons b c d=>exact .cons b rfl (c.po (hs f (.head _))) (FD.fp d fun x hx=>hs x (.tail _ hx))
structure Rg (psQ ps:PS) (n:Nat):Prop where
 types:∀ (i:Nat) (r:TyR),psQ.types[i]? = some r → ps.types[i]? = some r
 objs:∀ (i:Nat) (r:ObR),psQ.objs[i]? = some r → ps.objs[i]? = some r
 scs:ps.scs = psQ.scs
 fwd:ps.fwd = psQ.fwd
 nf:ps.nf = psQ.nf
 lvl:ps.lvl = psQ.lvl
 L:ps.L = psQ.L
 keys:ps.keys.length ≤ psQ.keys.length + n
theorem NoF.mono {ps ps' : PS} {x:Str} {v:V} {n:Nat} (h:NoF ps x v n) (ht:∀ (i:Nat) (r:TyR),ps.types[i]? = some r → ps'.types[i]? = some r) (ho:∀ (i:Nat) (r:ObR),ps.objs[i]? = some r → ps'.objs[i]? = some r):NoF ps' x v n:=by
 induction h with
 | none=>exact .none
 | ty a b c _ ih=>exact .ty (ht _ _ a) b (fun v hv=>by obtain ⟨k,ob,d,e,f⟩:=c v hv;exact ⟨k,ob,d,ho _ _ e,f⟩) ih
theorem NameOk.mono {ps ps' : PS} {x form:Str} {size:Int} (h:NameOk ps x form size) (ht:∀ (i:Nat) (r:TyR),ps.types[i]? = some r → ps'.types[i]? = some r) (ho:∀ (i:Nat) (r:ObR),ps.objs[i]? = some r → ps'.objs[i]? = some r) (hs:ps'.scs = ps.scs):NameOk ps' x form size:=by
 obtain ⟨kk,r,i,tr,h1,h2,h3,h4,h5,h6,h7⟩:=h
 exact ⟨kk,r,i,tr,by unfold PS.find at *;rw [hs];exact h1,ho _ _ h2,h3,h4,ht _ _ h5,h6,h7⟩
theorem NmF.mono {ps ps' : PS} {f:FK} (h:NmF ps f) (ht:∀ (i:Nat) (r:TyR),ps.types[i]? = some r → ps'.types[i]? = some r) (ho:∀ (i:Nat) (r:ObR),ps.objs[i]? = some r → ps'.objs[i]? = some r) (hs:ps'.scs = ps.scs):NmF ps' f:=by
 cases f <;> exact NameOk.mono h ht ho hs
theorem FT.mono {ps ps' : PS} {ti:Nat} {f:FK} (h:FT ps ti f) (ht:∀ (i:Nat) (r:TyR),ps.types[i]? = some r → r.form ≠ ("record" : Str) → ps'.types[i]? = some r):FT ps' ti f:=
 h.same fun i r e q=>⟨r,ht i r e q,rfl,rfl,rfl,fun _=>rfl⟩
theorem lbl_ok:∀ i,i < 6 → ∀ j,j < 4 → ((tnm i ++ "." ++ fnm i j:Str) != "") = true ∧ (tnm i ++ "." ++ fnm i j:Str).length ≤ 1000 ∧ (tnm i).length + 1 + (fnm i j).length ≤ 1000 ∧ ((tnm i:Str) != "") = true ∧ (tnm i).length ≤ 1000 ∧ (fnm i j).length ≤ 1000:=by decide +kernel
theorem fn_ne:∀ n,n < 54 → ∀ m,m < 54 → m ≠ n → (("f" ++ dgS m:Str) == "f" ++ dgS n) = false:=by decide +kernel
theorem fnm_ne (i:Nat) (hi:i < 6) (j:Nat) (hj:j < 4) (i' : Nat) (hi' : i' < 6) (j' : Nat) (hj' : j' < 4) (h:(i',j') ≠ (i,j)):(fnm i' j' == fnm i j) = false:=
 fn_ne _ (by omega) _ (by omega) (fun q=>h (by rw [show i' = i by omega,show j' = j by omega]))
theorem nmsF_mem (i:Nat):∀ (fs:List FK) (j:Nat) (x:Str),x ∈ nmsF i j fs → ∃ j',j ≤ j' ∧ j' < j + fs.length ∧ x = fnm i j'
 | [],_,_,h=>by cases h
 | f :: r,j,x,h=>by
  rcases List.mem_cons.mp h with rfl | h
  ·exact ⟨j,Nat.le_refl _,by simp,rfl⟩
  ·obtain ⟨j',a,b,c⟩:=nmsF_mem i r (j + 1) x h
   exact ⟨j',by omega,by simp;exact cb1 b,c⟩
theorem atK_ne (f:FK):∃ b a tl,atK f = (b,a) :: tl:=by cases f <;> exact ⟨_,_,_,rfl⟩
structure Rc (ps:PS) (R i lo:Nat) (bv:V) (fv:List V) (fs:List FK):Prop where
 ok:ps.Ok
 kn:ps.Kn
 rt:ps.types[R]? = some ⟨"record",0,bv,0,fv,0,tnm i⟩
 fd:FDo ps lo ps.objs.length fv (nmsF i 0 fs) fs
noncomputable def Pfl (psQ:PS) (rc:List V) (R i lo n:Nat) (bv:V) (fs:List FK) (rest:Ats) (R' : List Nat) (ps:PS) (r:TyR):Prop:=
 ∃ fv,r = ⟨"record",0,bv,0,fv,0,tnm i⟩ ∧ Rc ps R i lo bv fv fs ∧ Rg psQ ps n ∧ ps.recs = rc ∧ Cur ps ((true,cw "END") :: (false,.s 59) :: rest) R'
theorem fl_of {k:Nat} {psQ:PS} {rc:List V} {R i lo nb:Nat} {bv:V} {all:List FK} {rest:Ats} {R' : List Nat} (hi:i < 6) (hR:R = psQ.types.length) (h3:∃ r3,psQ.types[3]? = some r3 ∧ r3.form = ("integer" : Str)) (hkl:psQ.keys.length ≤ 900)
  (hno:∀ j,j < 4 → NoF psQ (fnm i j) bv nb) (hall:all.length ≤ 3) (hsm:∀ f ∈ all,f.sm) (hnm:∀ f ∈ all,NmF psQ f) (nk:Nat) (hnk:nk ≤ 50) :
  ∀ (fr fd:List FK) (ps:PS) (fv:List V),all = fd ++ fr → Rc ps R i lo bv fv fd → Rg psQ ps (nk + fd.length) → ps.recs = rc → Cur ps (atFs i fd.length fr ++ (true,cw "END") :: (false,.s 59) :: rest) R' →
   FL k R (tnm i) (Pfl psQ rc R i lo (nk + all.length) bv all rest R') (nmsF i fd.length fr) ps ⟨"record",0,bv,0,fv,0,tnm i⟩
 | [],fd,ps,fv,ha,rcd,rg,hrc,C=>by
  rw [List.append_nil] at ha
  subst ha
  exact ⟨⟨(cw "END").v,C.tok⟩,fv,rfl,rcd,rg,hrc,C⟩
 | f :: fr,fd,ps,fv,ha,rcd,rg,hrc,C=>by
  have hj:fd.length < 3:=by rw [ha] at hall;simp at hall;omega
  have hfm:f ∈ all:=by rw [ha];simp
  obtain ⟨lb1,lb2,lb3,lb4,lb5,lb6⟩:=lbl_ok i hi fd.length (by omega)
  obtain ⟨b,a,tl,hat⟩:=atK_ne f
  obtain ⟨rest2,hr2⟩ : ∃ rest2,rest2 = atFs i (fd.length + 1) fr ++ (true,cw "END") :: (false,.s 59) :: rest:=⟨_,rfl⟩
  have C0:Cur ps ((true,fW i fd.length) :: (false,.s 58) :: (b,a) :: (tl ++ (false,.s 59) :: rest2)) R':=by
   have e:atFs i fd.length (f :: fr) ++ (true,cw "END") :: (false,.s 59) :: rest = (true,fW i fd.length) :: (false,.s 58) :: (b,a) :: (tl ++ (false,.s 59) :: rest2):=by
    show (atF i fd.length f ++ atFs i (fd.length + 1) fr) ++ _ = _
    unfold atF
    rw [hat,hr2]
    simp
   rw [e] at C;exact C
  obtain ⟨ps1,p1,pl1,n1,C1,e1⟩:=C0.next
  obtain ⟨ps2,p2,pl2,n2,C2,e2⟩:=C1.next
  have G2:Gf ps ps2:=Gf.step e1 (e2 ▸ Gf.adv _ _ _ _ _)
  have ht:ps.tok "ident" (.str (fnm i fd.length)):=by
   have:=C0.tok
   rw [fW_k _ (by omega),fW_v i _ (by omega)] at this
   exact this
  have ok2:=n2.ok (n1.ok rcd.ok)
  have kn2:ps2.Kn:=by rw [e2,e1];exact ⟨rcd.kn.kn,rcd.kn.le⟩
  have ek2:ps2.keys = ps.keys:=by rw [e2,e1];rfl
  have hkps:ps.keys.length ≤ 960:=by have:=rg.keys;exact cb4 hkl hnk hj this
  have up2:∀ (i:Nat) (r:TyR),psQ.types[i]? = some r → ps2.types[i]? = some r:=fun i r h=>G2.get (rg.types i r h)
  have uo2:∀ (i:Nat) (r:ObR),psQ.objs[i]? = some r → ps2.objs[i]? = some r:=fun i r h=>by rw [G2.objs];exact rg.objs i r h
  have C2' : Cur ps2 (atK f ++ (false,.s 59) :: rest2) R':=by rw [hat];exact C2
  have hT:=typeOf_fk (k:=k) (lb:=tnm i ++ "." ++ fnm i fd.length) (hsm f hfm) C2' ok2 kn2 (by rw [ek2];omega) ((hnm f hfm).mono up2 uo2 (G2.scs.trans rg.scs)) (by obtain ⟨r3,x,y⟩:=h3;exact ⟨r3,up2 _ _ x,y⟩) lb1 lb2
  refine ⟨ps1,ps2,_,_,_,_,nb + 1,ht,n1,n2,hT,lb3,?_,?_⟩
  ·rintro psT ti ⟨hft,Gt,Ct,okT,knT⟩
   have G:=Gf.step e1 (Gf.step e2 Gt)
   refine ⟨okT,G.get rcd.rt,?_,?_,?_⟩
   ·refine .ty (G.get rcd.rt) (by rw [show (TyR.fields ⟨"record",0,bv,0,fv,0,tnm i⟩) = fv from rfl,rcd.fd.length];omega) ?_ ((hno _ (by omega)).mono (fun i r h=>Gt.get (up2 i r h)) (fun i r h=>by rw [Gt.objs];exact uo2 i r h))
    intro v hv
    obtain ⟨kk,ob,x1,x2,x3⟩:=rcd.fd.noF (y:=fnm i fd.length) (fun x hx=>by
     obtain ⟨j',a1,a2,rfl⟩:=nmsF_mem i fd 0 x hx
     exact fnm_ne i hi fd.length (by omega) i hi j' (by exact cb2 hj a2) (by walk_at "ne")) v hv
    exact ⟨kk,ob,x1,by rw [G.objs];exact x2,x3⟩
   ·obtain ⟨r0,hr0,hk0,hv0⟩:=ht
    refine ⟨r0.p,?_⟩
    show (if 0 = 0 then Option.map _ (psT.toks[ps.cur]?) else none) = _
    rw [if_pos rfl,G.toks _ _ hr0,← hk0,← hv0];rfl
   ·rw [show (TyR.fields ⟨"record",0,bv,0,fv,0,tnm i⟩) = fv from rfl,rcd.fd.length];omega
  ·rintro psT ti p ⟨hft,Gt,Ct,okT,knT⟩
   have G:=Gf.step e1 (Gf.step e2 Gt)
   refine ⟨⟨_,Ct.tok⟩,?_⟩
   obtain ⟨psN,hN⟩ : ∃ psN,psN = (psT.newO (fldO (fnm i fd.length) ti p)).setT R ⟨"record",0,bv,0,fv ++ [.ref (obN psT.objs.length)],0,tnm i⟩:=⟨_,rfl⟩
   have CN:Cur psN ((false,.s 59) :: rest2) R':=by rw [hN];exact ⟨Ct.ex⟩
   have okN:psN.Ok:=by rw [hN];exact ⟨okT.small,okT.cur⟩
   have hRT:psT.types[R]? = some ⟨"record",0,bv,0,fv,0,tnm i⟩:=G.get rcd.rt
   have tN:∀ (q:Nat) (r:TyR),q ≠ R → psT.types[q]? = some r → psN.types[q]? = some r:=fun q r hq h=>by
    rw [hN]
    exact (setT_ne (ps:=psT.newO _) hq).trans h
   have oN:∀ (q:Nat) (r:ObR),psT.objs[q]? = some r → psN.objs[q]? = some r:=fun q r h=>by
    rw [hN]
    show (psT.objs ++ [_])[q]? = _
    rcases Nat.lt_or_ge q psT.objs.length with x | x
    ·rw [List.getElem?_append_left x];exact h
    ·rw [List.getElem?_eq_none x] at h;cases h
   have ftN:∀ ti f,FT psT ti f → FT psN ti f:=fun ti f h=>h.mono fun q r e x=>tN q r (by rintro rfl;rw [hRT] at e;cases e;exact x rfl) e
   have elen:psT.objs.length = ps.objs.length:=by rw [G.objs]
   obtain ⟨x3,rest3,hr3⟩ : ∃ x3 rest3,rest2 = x3 :: rest3:=by
    rw [hr2]
    cases fr with
    | nil=>exact ⟨_,_,rfl⟩
    | cons f' fr'=>exact ⟨_,_,rfl⟩
   obtain ⟨b3,a3⟩:=x3
   rw [hr3] at CN
   obtain ⟨ps3,p3,pl3,n3,C3,e3⟩:=CN.next
   refine ⟨_,_,ps3,hN ▸ n3,?_⟩
   have et3:ps3.types = psN.types:=by rw [e3];rfl
   have eo3:ps3.objs = psN.objs:=by rw [e3];rfl
   have eN:psN.objs.length = ps.objs.length + 1:=by rw [hN];show (psT.objs ++ [_]).length = _;rw [List.length_append,elen];rfl
   have key:=fl_of (k:=k) (rc:=rc) (lo:=lo) (rest:=rest) (R':=R') hi hR h3 hkl hno hall hsm hnm nk hnk fr (fd ++ [f]) ps3 (fv ++ [.ref (obN psT.objs.length)]) (by rw [ha];simp) ?_ ?_ ?_ ?_
   ·rw [show (fd ++ [f]).length = fd.length + 1 by simp] at key
    exact key
   ·refine ⟨n3.ok okN,?_,?_,?_⟩
    ·rw [e3,hN];exact ⟨knT.kn,knT.le⟩
    ·rw [et3,hN];exact setT_get (ps:=psT.newO _) hRT
    ·rw [eo3,eN,nmsF_snoc,Nat.zero_add,elen]
     have base:FDo ps3 lo ps.objs.length fv (nmsF i 0 fd) fd:=rcd.fd.mono (fun q r _ h=>by rw [eo3];exact oN q r (by rw [G.objs];exact h)) fun ti f h=>by
      have h1:FT psT ti f:=h.mono fun q r e _=>G.get e
      exact (ftN ti f h1).mono fun q r e _=>by rw [et3];exact e
     refine base.snoc (p:=p) ?_ ((ftN ti f hft).mono fun q r e _=>by rw [et3];exact e)
     rw [eo3,hN]
     show (psT.objs ++ [_])[_]? = _
     rw [← elen,List.getElem?_concat_length]
   ·refine ⟨fun q r h=>?_,fun q r h=>?_,?_,?_,?_,?_,?_,?_⟩
    ·rw [et3]
     have hq:q < psQ.types.length:=by
      rcases Nat.lt_or_ge q psQ.types.length with x | x
      ·exact x
      ·rw [List.getElem?_eq_none x] at h;cases h
     exact tN q r (by exact fun q=>cf3 (eR q) (eR hR) hq) (Gt.get (up2 q r h))
    ·rw [eo3];exact oN q r (by rw [Gt.objs];exact uo2 q r h)
    ·rw [e3,hN];exact G.scs.trans rg.scs
    ·rw [e3,hN];exact G.fwd.trans rg.fwd
    ·rw [e3,hN];exact G.nf.trans rg.nf
    ·rw [e3,hN];exact G.lvl.trans rg.lvl
    ·rw [e3,hN];exact G.L.trans rg.L
    ·rw [e3,hN]
     show psT.keys.length ≤ _
     have q1:=Gt.keys
     have q2:=rg.keys
     rw [ek2] at q1
     simp only [List.length_append,List.length_cons,List.length_nil]
     exact cb2 q1 q2
   ·rw [e3,hN];exact G.recs.trans hrc
   ·rw [show (fd ++ [f]).length = fd.length + 1 by simp,← hr2,hr3]
    exact C3
structure Rk (psQ ps:PS):Prop where
 types:∀ (i:Nat) (r:TyR),psQ.types[i]? = some r → ps.types[i]? = some r
 objs:∀ (i:Nat) (r:ObR),psQ.objs[i]? = some r → ps.objs[i]? = some r
 scs:ps.scs = psQ.scs
 lvl:ps.lvl = psQ.lvl
 L:ps.L = psQ.L
 keys:ps.keys.length ≤ psQ.keys.length + 4
structure PTr (psQ:PS) (i:Nat) (bv:V) (lev sz:Int) (flds:List (Str × Nat)) (fs:List FK) (rest:Ats) (R' : List Nat) (psT:PS) (ti:Nat):Prop where
 idx:ti = psQ.types.length
 ok:psT.Ok
 kn:psT.Kn
 kept:Rk psQ psT
 recs:psT.recs = psQ.recs ++ [.ref (tyN ti)]
 fwd:psT.fwd = psQ.fwd
 nf:psT.nf = psQ.nf
 cur:Cur psT ((false,.s 59) :: rest) R'
 row:∃ fv,psT.types[ti]? = some ⟨"record",sz,bv,0,fv,lev,tnm i⟩ ∧ FD psT fv flds fs
theorem getl {α:Type} {l:List α} {i:Nat} {r:α} (h:l[i]? = some r):i < l.length:=by
 rcases Nat.lt_or_ge i l.length with x | x
 ·exact x
 ·rw [List.getElem?_eq_none x] at h;cases h
theorem app_get {α:Type} {l m:List α} {i:Nat} {r:α} (h:l[i]? = some r):(l ++ m)[i]? = some r:=by
 rw [List.getElem?_append_left (getl h)];exact h
noncomputable def BaseIs (ps:PS) (b:Option Nat) (bv:V) (lev s:Nat):Prop:=match b with
 | none=>bv = .none ∧ lev = 0 ∧ s = 0
 | some x=>∃ kk ob bI br,bv = .ref (tyN bI) ∧ ps.find (tnm x) = some kk ∧ ps.objs[kk]? = some ob ∧ ob.kind = "type" ∧ ob.type = .ref (tyN bI) ∧ ps.types[bI]? = some br ∧ br.form = "record" ∧ br.level < 3 ∧ (lev:Int) = br.level + 1 ∧ br.size = (s:Int)
set_option tactic.hygienic true in
theorem size_eq (e:Nat):(if ((e:Int) + 3).fdiv 4 * 4 > 4 then ((e:Int) + 3).fdiv 4 * 4 else 4) = ((max 4 (up e 4):Nat):Int):=by
 rw [rup4]
 split
 ·next h=>exact congrArg Nat.cast (Nat.max_eq_right (Nat.le_of_lt (Int.ofNat_lt.mp h))).symm
 ·next h=>exact congrArg Nat.cast (Nat.max_eq_left (Int.ofNat_le.mp (Int.not_lt.mp h))).symm
theorem typeOf_rec {k:Nat} {psQ:PS} {i nb lev s:Nat} {b:Option Nat} {bv:V} {fs:List FK} {rest:Ats} {R' : List Nat} (hi:i < 6) (C:Cur psQ ((true,cw "RECORD") :: (atB b ++ (atFs i 0 fs ++ (true,cw "END") :: (false,.s 59) :: rest))) R')
  (ok:psQ.Ok) (kn:psQ.Kn) (hkl:psQ.keys.length ≤ 900) (hrl:psQ.recs.length ≤ 900) (h3:∃ r3,psQ.types[3]? = some r3 ∧ r3.form = ("integer" : Str)) (hfl:fs.length ≤ 3) (hsm:∀ f ∈ fs,f.sm) (hnm:∀ f ∈ fs,NmF psQ f)
  (hb:BaseIs psQ b bv lev s) (hbx:∀ x,b = some x → x < 60) (hs:s ≤ 1000) (hno:∀ j,j < 4 → NoF psQ (fnm i j) bv nb) :
  TypeOf (k + 3) psQ (tnm i) (PTr psQ i bv lev ((max 4 (up (layF i 0 s fs).2.2 4):Nat):Int) (layF i 0 s fs).2.1 fs rest R'):=by
 intro c σ t Q g rm I h
 obtain ⟨lb1,lb2,lb3,lb4,lb5,lb6⟩:=lbl_ok i hi 0 (by decide)
 refine sp_type_of_rec (k:=k + 4) g (rm.less (by exact cl0)) I C.tok fun c' vs g' rm'=>?_
 obtain ⟨x1,rest1,hr1⟩ : ∃ x1 rest1,atB b ++ (atFs i 0 fs ++ (true,cw "END") :: (false,.s 59) :: rest) = x1 :: rest1:=by
  cases b with
  | some x=>exact ⟨_,_,rfl⟩
  | none=>
   cases fs with
   | nil=>exact ⟨_,_,rfl⟩
   | cons f r=>exact ⟨_,_,rfl⟩
 obtain ⟨b1,a1⟩:=x1
 have C':=C
 rw [hr1] at C'
 obtain ⟨ps0,p0,pl0,n0,C0,e0⟩:=C'.next
 rw [← hr1] at C0
 have ok0:=n0.ok ok
 have kn0:ps0.Kn:=by rw [e0];exact ⟨kn.kn,kn.le⟩
 have et0:ps0.types = psQ.types:=by rw [e0];rfl
 have eo0:ps0.objs = psQ.objs:=by rw [e0];rfl
 have ek0:ps0.keys = psQ.keys:=by rw [e0];rfl
 have er0:ps0.recs = psQ.recs:=by rw [e0];rfl
 have hRlen:ps0.types.length = psQ.types.length:=by rw [et0]
 refine sp_record_type (k:=k) (P':=Pfl psQ (psQ.recs ++ [.ref (tyN psQ.types.length)]) psQ.types.length i psQ.objs.length (1 + fs.length) bv fs rest R') (PF:=fun psF=>PTr psQ i bv lev ((max 4 (up (layF i 0 s fs).2.2 4):Nat):Int) (layF i 0 s fs).2.1 fs rest R' psF psQ.types.length) g' (rm'.less (by exact cl0)) (show Is σ.hp psQ t from I) ok C.tok n0 kn0 (by rw [ek0];omega) lb4 (by rw [er0];omega) ?_ ?_ ?_
 ·intro ks' kn'
  rw [hRlen]
  obtain ⟨psR,hpsR⟩ : ∃ psR,psR = (ps0.newT ⟨"record",0,.none,0,[],0,tnm i⟩ ks').recd (.ref (tyN psQ.types.length)):=⟨_,rfl⟩
  rw [← hpsR]
  have etR:psR.types = psQ.types ++ [⟨"record",0,.none,0,[],0,tnm i⟩]:=by rw [hpsR];show ps0.types ++ [_] = _;rw [et0]
  have eoR:psR.objs = psQ.objs:=by rw [hpsR];exact eo0
  have CR:Cur psR (atB b ++ (atFs i 0 fs ++ (true,cw "END") :: (false,.s 59) :: rest)) R':=by rw [hpsR];exact ⟨C0.ex⟩
  have okR:psR.Ok:=by rw [hpsR];exact ⟨ok0.small,ok0.cur⟩
  have knR:psR.Kn:=by rw [hpsR];exact ⟨kn'.kn,kn'.le⟩
  have rtR:psR.types[psQ.types.length]? = some ⟨"record",0,.none,0,[],0,tnm i⟩:=by rw [etR,List.getElem?_concat_length]
  have ekR:psR.keys.length = psQ.keys.length + 1:=by rw [hpsR];show (ps0.keys ++ [_]).length = _;rw [ek0];simp
  cases b with
  | none=>
   obtain ⟨rfl,rfl,rfl⟩:=hb
   refine ⟨fun psb=>psb = psR,?_,?_⟩
   ·intro c₁ σ₁ t₁ Q₁ g₁ rm₁ I₁ h₁
    have hat:∃ b2 a2 l2,atB none ++ (atFs i 0 fs ++ (true,cw "END") :: (false,.s 59) :: rest) = (b2,a2) :: l2 ∧ a2.k ≠ "(" := by
     cases fs with
     | nil=>exact ⟨_,_,_,rfl,by decide +kernel⟩
     | cons f r=>exact ⟨_,_,_,rfl,by rw [fW_k _ (by omega)];decide⟩
    obtain ⟨b2,a2,l2,hl2,hk2⟩:=hat
    rw [hl2] at CR
    exact sp_base_type0 (k:=k) g₁ (rm₁.less (by omega)) I₁ okR CR.tok hk2 (h₁ _ _ _ (Nat.le_refl _) rfl I₁ (Fw.refl _ _))
   ·rintro psb rfl
    refine ⟨_,_,okR,rtR,fl_of (k:=k) (psQ:=psQ) (bv:=.none) hi rfl h3 hkl hno hfl hsm hnm 1 (by decide) fs [] _ [] rfl ⟨okR,knR,rtR,.nil (Nat.le_of_eq (by rw [eoR]))⟩ ?_ ?_ CR⟩
    ·refine ⟨fun q r h=>by rw [etR];exact app_get h,fun q r h=>by rw [eoR];exact h,?_,?_,?_,?_,?_,by simp;exact cb1 (eL ekR)⟩
     ·rw [hpsR,e0];rfl
     ·rw [hpsR,e0];rfl
     ·rw [hpsR,e0];rfl
     ·rw [hpsR,e0];rfl
     ·rw [hpsR,e0];rfl
    ·rw [hpsR,e0];rfl
  | some x=>
   obtain ⟨kk,ob,bI,br,hbv,h1,h2,h3',h4,h5,h6,h7,h8,h9⟩:=hb
   have hx:=hbx x rfl
   obtain ⟨pa,pA,plA,na,Ca,ea⟩:=(show Cur psR ((true,.s 40) :: (false,tW x) :: (false,.s 41) :: (atFs i 0 fs ++ (true,cw "END") :: (false,.s 59) :: rest)) R' from CR).next
   obtain ⟨pb,pB,plB,nb',Cb,eb⟩:=Ca.next
   have htr:psR.types[psQ.types.length]? = some ⟨"record",0,.none,0,[],0,tnm i⟩:=rtR
   have Cs:Cur (pb.setT psQ.types.length ⟨"record",0,.ref (tyN bI),0,[],0,tnm i⟩) ((false,.s 41) :: (atFs i 0 fs ++ (true,cw "END") :: (false,.s 59) :: rest)) R':=⟨Cb.ex⟩
   obtain ⟨x4,rest4,hr4⟩ : ∃ x4 rest4,atFs i 0 fs ++ (true,cw "END") :: (false,.s 59) :: rest = x4 :: rest4:=by
    cases fs with
    | nil=>exact ⟨_,_,rfl⟩
    | cons f r=>exact ⟨_,_,rfl⟩
   obtain ⟨b4,a4⟩:=x4
   rw [hr4] at Cs
   obtain ⟨pc,pC,plC,nc,Cc,ec⟩:=Cs.next
   rw [← hr4] at Cc
   have etb:pb.types = psR.types:=by rw [eb,ea];rfl
   have etc' : pc.types = psR.types.set psQ.types.length ⟨"record",0,.ref (tyN bI),0,[],0,tnm i⟩:=by rw [ec];show pb.types.set _ _ = _;rw [etb]
   have na' : psR.Next "ident" (.str (tnm x)) pa:=by
    have:=na
    rw [tW_k x hx,tW_v x hx] at this;exact this
   have okc:pc.Ok:=nc.ok (by have:=nb'.ok (na.ok okR);exact ⟨this.small,this.cur⟩)
   have rtc:pc.types[psQ.types.length]? = some ⟨"record",0,bv,0,[],0,tnm i⟩:=by
    rw [etc',set_get _ _ _ _ (getl rtR),if_pos rfl,hbv]
   refine ⟨fun psb=>psb = pc,?_,?_⟩
   ·intro c₁ σ₁ t₁ Q₁ g₁ rm₁ I₁ h₁
    refine sp_base_type1 (k:=k) (x:=tnm x) (tr:=⟨"record",0,.none,0,[],0,tnm i⟩) (bI:=bI) (br:=br) (ob:=ob) (kk:=kk) g₁ (rm₁.less (by omega)) I₁ okR CR.tok na' nb' nc ?_ (by rw [eoR];exact h2) h3' h4 (by rw [etR];exact app_get h5) h6 h7 htr fun h' t' lt I' F'=>h₁ h' t' _ lt rfl I' F'
    rw [hpsR,e0];exact h1
   ·rintro psb rfl
    refine ⟨_,_,okc,rtc,fl_of (k:=k) (psQ:=psQ) (bv:=bv) hi rfl h3 hkl hno hfl hsm hnm 1 (by decide) fs [] _ [] rfl ⟨okc,?_,rtc,.nil ?_⟩ ?_ ?_ Cc⟩
    ·rw [ec,eb,ea];exact ⟨knR.kn,knR.le⟩
    ·rw [ec,eb,ea];exact Nat.le_of_eq (congrArg List.length eoR.symm)
    ·refine ⟨fun q r h=>?_,fun q r h=>?_,?_,?_,?_,?_,?_,?_⟩
     ·rw [etc',set_get _ _ _ _ (getl rtR),if_neg (by have:=getl h;exact fun q=>cf2 (eR q) this),etR];exact app_get h
     ·rw [ec,eb,ea];show psR.objs[q]? = _;rw [eoR];exact h
     ·rw [ec,eb,ea,hpsR,e0];rfl
     ·rw [ec,eb,ea,hpsR,e0];rfl
     ·rw [ec,eb,ea,hpsR,e0];rfl
     ·rw [ec,eb,ea,hpsR,e0];rfl
     ·rw [ec,eb,ea,hpsR,e0];rfl
     ·rw [ec,eb,ea];show psR.keys.length ≤ _;simp;exact cb1 (eL ekR)
    ·rw [ec,eb,ea,hpsR,e0];rfl
 ·rintro ps3 r ⟨fv,rfl,rcd,rg,hrc,C3⟩
  rw [hRlen]
  obtain ⟨ps5,p5,pl5,n5,C5,e5⟩:=C3.next
  have et5:ps5.types = ps3.types:=by rw [e5];rfl
  have eo5:ps5.objs = ps3.objs:=by rw [e5];rfl
  have ok5:=n5.ok rcd.ok
  have fin:∃ ps6 off',Pl (ps5.setT psQ.types.length ⟨"record",0,bv,0,fv,lev,tnm i⟩) (s:Int) fv ps6 off' ∧ off' ≤ 16000 ∧ ps6.types[psQ.types.length]? ≠ none ∧
    PTr psQ i bv lev ((max 4 (up (layF i 0 s fs).2.2 4):Nat):Int) (layF i 0 s fs).2.1 fs rest R' (ps6.setT psQ.types.length { (⟨"record",0,bv,0,fv,lev,tnm i⟩ : TyR) with size:=(if (off' + 3).fdiv 4 * 4 > 4 then (off' + 3).fdiv 4 * 4 else 4) }) psQ.types.length:=by
   obtain ⟨psB,hB⟩ : ∃ psB,psB = ps5.setT psQ.types.length ⟨"record",0,bv,0,fv,lev,tnm i⟩:=⟨_,rfl⟩
   rw [← hB]
   have tB:∀ q,q ≠ psQ.types.length → psB.types[q]? = ps3.types[q]?:=fun q hq=>by rw [hB,← et5];exact setT_ne hq
   have tB' : psB.types[psQ.types.length]? = some ⟨"record",0,bv,0,fv,lev,tnm i⟩:=by rw [hB];exact setT_get (r0:=⟨"record",0,bv,0,fv,0,tnm i⟩) (by rw [et5];exact rcd.rt)
   have oB:psB.objs = ps3.objs:=by rw [hB];exact eo5
   have ftB:∀ ti f,FT ps3 ti f → FT psB ti f:=fun ti f h=>h.mono fun q r e x=>by
    by_cases hq:q = psQ.types.length
    ·subst hq;rw [rcd.rt] at e;cases e;exact absurd rfl x
    ·rw [tB q hq];exact e
   have fdB:FDo psB psQ.objs.length ps3.objs.length fv (nmsF i 0 fs) fs:=rcd.fd.mono (fun q r _ h=>by rw [oB];exact h) ftB
   obtain ⟨os,q1,q2,q3,q4,q5⟩:=fdB.place (s:=s) rfl hsm (by omega)
   have ft6:∀ (r' : TyR),r'.form = ("record" : Str) → ∀ ti f,FT { psB with objs:=os } ti f → FT (({ psB with objs:=os }:PS).setT psQ.types.length r') ti f:=fun r' hr' ti f h=>h.mono fun q r e x=>by
    by_cases hq:q = psQ.types.length
    ·subst hq
     have e' : psB.types[psQ.types.length]? = some r:=e
     rw [tB'] at e';cases e';exact absurd rfl x
    ·exact (setT_ne (ps:={ psB with objs:=os }) hq).trans e
   refine ⟨_,_,q1,by omega,by rw [show ({ psB with objs:=os }:PS).types = psB.types from rfl,tB'];simp,?_⟩
   rw [size_eq]
   refine ⟨rfl,?_,?_,⟨fun q r h=>?_,fun q r h=>?_,?_,?_,?_,?_⟩,?_,?_,?_,?_,fv,?_,?_⟩
   ·rw [hB];exact ⟨ok5.small,ok5.cur⟩
   ·rw [hB,e5];exact ⟨rcd.kn.kn,rcd.kn.le⟩
   ·refine (setT_ne (ps:={ psB with objs:=os }) (by have:=getl h;exact fun q=>cf2 (eR q) this)).trans ?_
    show psB.types[q]? = _
    rw [tB q (by have:=getl h;exact fun q=>cf2 (eR q) this)];exact rg.types q r h
   ·show os[q]? = _
    rw [q4 q (getl h),oB];exact rg.objs q r h
   ·rw [hB,e5];exact rg.scs
   ·rw [hB,e5];exact rg.lvl
   ·rw [hB,e5];exact rg.L
   ·rw [hB,e5]
    show ps3.keys.length ≤ _
    have:=rg.keys;exact cb2 hfl this
   ·rw [hB,e5];exact hrc
   ·rw [hB,e5];exact rg.fwd
   ·rw [hB,e5];exact rg.nf
   ·rw [hB];exact ⟨C5.ex⟩
   ·exact setT_get (ps:={ psB with objs:=os }) tB'
   ·exact q2.mono (fun q r h=>h) (ft6 _ rfl)
  obtain ⟨ps6,off',f1,f2,f3,f4⟩:=fin
  have ss:∀ a b,(ps5.setT psQ.types.length a).setT psQ.types.length b = ps5.setT psQ.types.length b:=fun a b=>by
   unfold PS.setT;simp
  refine ⟨rcd.rt,_,_,ps5,_,ps6,(s:Int),off',⟨"record",0,bv,0,fv,lev,tnm i⟩,n5,?_,f1,f2,f3,f4⟩
  cases b with
  | none=>
   obtain ⟨rfl,rfl,rfl⟩:=hb
   exact .inl ⟨rfl,rfl,rfl,rfl⟩
  | some x=>
   obtain ⟨kk,ob,bI,br,hbv,h1,h2,h3',h4,h5,h6,h7,h8,h9⟩:=hb
   refine .inr ⟨bI,br,hbv,by have:=getl h5;exact fun q=>cf2 (eR q) this,by rw [et5];exact rg.types _ _ h5,by rw [h8],(ss _ _).symm,h9.symm⟩
 ·intro h' t' psF lt pf I' F'
  rw [hRlen]
  exact h h' t' psF _ lt pf I' F'
theorem split_uniq {p:Nat → Bool}:∀ {l1 l2 r1 r2:List Nat},l1 ++ r1 = l2 ++ r2 → (∀ c ∈ l1,p c = true) → (∀ c ∈ l2,p c = true) → one p r1 = false → one p r2 = false → l1.length = l2.length
 | [],[],_,_,_,_,_,_,_=>rfl
 | [],c :: l2,r1,r2,e,_,h2,h3,_=>by
  have e' : r1 = c :: (l2 ++ r2):=e
  rw [e'] at h3
  have:=h2 c (.head _)
  rw [show one p (c :: (l2 ++ r2)) = p c from rfl,this] at h3;cases h3
 | c :: l1,[],r1,r2,e,h1,_,_,h4=>by
  have e' : r2 = c :: (l1 ++ r1):=e.symm
  rw [e'] at h4
  have:=h1 c (.head _)
  rw [show one p (c :: (l1 ++ r1)) = p c from rfl,this] at h4;cases h4
 | c :: l1,d :: l2,r1,r2,e,h1,h2,h3,h4=>by
  have:=split_uniq (List.cons.inj e).2 (fun x hx=>h1 x (.tail _ hx)) (fun x hx=>h2 x (.tail _ hx)) h3 h4
  simp [this]
theorem Lx.uniq {R:List Nat} {k v k' v' : V} {m m' : Nat} (h:Lx R k v m) (h' : Lx R k' v' m'):m = m':=by
 have dl:∀ a,isL a = true → isD a = true → False:=fun a h1 h2=>by
  have:=isL_lo h1;have:=isD_lo h2;omega
 generalize hR:R = R1 at h'
 cases h with
 | word a w r h1 h2 h3=>
  cases h' with
  | word a' w' r' h1' h2' h3'=>
   refine split_uniq (p:=fun c=>isL c || isD c) hR ?_ ?_ ?_ ?_
   ·intro c hc;rcases List.mem_cons.mp hc with rfl | hc
    ·rw [h1];rfl
    ·exact h2 c hc
   ·intro c hc;rcases List.mem_cons.mp hc with rfl | hc
    ·rw [h1'];rfl
    ·exact h2' c hc
   ·cases r with
    | nil=>rfl
    | cons x y=>exact h3
   ·cases r' with
    | nil=>rfl
    | cons x y=>exact h3'
  | num a' w' r' h1' h2'=>
   exfalso
   obtain ⟨rfl,_⟩:=List.cons.inj hR
   exact dl _ h1 (h1' _ (.head _))
  | sym a' r' h1' h2'=>
   exfalso
   obtain ⟨rfl,_⟩:=List.cons.inj hR
   rw [h1] at h2';cases h2'
 | num a w r h1 h2=>
  cases h' with
  | word a' w' r' h1' h2' h3'=>
   exfalso
   obtain ⟨rfl,_⟩:=List.cons.inj hR
   exact dl _ h1' (h1 _ (.head _))
  | num a' w' r' h1' h2'=>exact split_uniq (p:=isD) hR h1 h1' rfl rfl
  | sym a' r' h1' h2' h3'=>
   exfalso
   obtain ⟨rfl,_⟩:=List.cons.inj hR
   have:=h1 _ (.head _)
   rw [this] at h3';cases h3'
 | sym a r h1 h2 h3=>
  cases h' with
  | word a' w' r' h1' h2' h3'=>
   exfalso
   obtain ⟨rfl,_⟩:=List.cons.inj hR
   rw [h1'] at h2;cases h2
  | num a' w' r' h1' h2'=>
   exfalso
   obtain ⟨rfl,_⟩:=List.cons.inj hR
   have:=h1' _ (.head _)
   rw [this] at h3;cases h3
  | sym a' r' h1' h2' h3'=>rfl
theorem Lx.lo {R:List Nat} {k v:V} {m:Nat} (h:Lx R k v m):one (fun c=>c == 32) R = false:=by
 cases h with
 | word a w r h1=>have:=isL_lo h1;show (a == 32) = false;simp;exact fun q=>cf2 (eL q) this
 | num a w r h1=>have:=isD_lo (h1 a (.head _));show (a == 32) = false;simp;exact fun q=>cf2 (eL q) this.1
 | sym a r h1=>show (a == 32) = false;simp;exact fun q=>cf2 (eL q) h1
theorem next_uniq {ps ps' ps'' : PS} {k:Str} {v:V} (h:ps.Next k v ps') (h' : ps.Next k v ps''):ps' = ps'':=by
 obtain ⟨j,m,R,e1,e2,e3⟩:=h
 obtain ⟨j',m',R',e1',e2',e3'⟩:=h'
 have ej:j = j':=by
  have:=split_uniq (p:=fun c=>c == 32) (e1.symm.trans e1') (fun c hc=>by rw [(List.mem_replicate.mp hc).2];rfl) (fun c hc=>by rw [(List.mem_replicate.mp hc).2];rfl) e2.lo e2'.lo
  simpa using this
 subst ej
 have eR:R = R':=List.append_cancel_left (e1.symm.trans e1')
 subst eR
 have em:=e2.uniq e2'
 subst em
 rw [e3,e3']
structure PTp (psQ:PS) (i bI:Nat) (nfw:List (V × Str × Int)) (rest:Ats) (R' : List Nat) (psT:PS) (ti:Nat):Prop where
 idx:ti = psQ.types.length
 ok:psT.Ok
 kn:psT.Kn
 kept:Rk psQ psT
 recs:psT.recs = psQ.recs
 fwd:psT.fwd = psQ.fwd ++ nfw
 nf:psT.nf = psQ.nf ++ nfw
 cur:Cur psT ((false,.s 59) :: rest) R'
 row:psT.types[ti]? = some ⟨"pointer",4,.ref (tyN bI),0,[],0,tnm i⟩
theorem typeOf_ptr1 {k:Nat} {psQ:PS} {i tg kk bI:Nat} {ob:ObR} {tr:TyR} {rest:Ats} {R' : List Nat} (hi:i < 6) (ht:tg < 60) (C:Cur psQ ((true,cw "POINTER") :: (true,cw "TO") :: (true,tW tg) :: (false,.s 59) :: rest) R')
  (ok:psQ.Ok) (kn:psQ.Kn) (hkl:psQ.keys.length ≤ 900) (hf:psQ.find (tnm tg) = some kk) (ho:psQ.objs[kk]? = some ob) (hk:ob.kind = "type") (hty:ob.type = .ref (tyN bI)) (htr:psQ.types[bI]? = some tr) (hform:tr.form = "record") :
  TypeOf (k + 3) psQ (tnm i) (PTp psQ i bI [] rest R'):=by
 intro c σ t Q g rm I h
 obtain ⟨lb1,lb2,lb3,lb4,lb5,lb6⟩:=lbl_ok i hi 0 (by decide)
 refine sp_type_of_ptr (k:=k + 4) g (rm.less (by exact cl0)) I C.tok fun c' vs g' rm'=>?_
 obtain ⟨ps1,p1,pl1,n1,C1,e1⟩:=C.next
 obtain ⟨ps2,p2,pl2,n2,C2,e2⟩:=C1.next
 have et2:ps2.types = psQ.types:=by rw [e2,e1];rfl
 have n2' : ps1.Next "ident" (.str (tnm tg)) ps2:=by
  have:=n2
  rw [tW_k tg ht,tW_v tg ht] at this;exact this
 have kn2:ps2.Kn:=by rw [e2,e1];exact ⟨kn.kn,kn.le⟩
 have ek2:ps2.keys = psQ.keys:=by rw [e2,e1];rfl
 have ok2:=n2.ok (n1.ok ok)
 have nx:∀ ks',∃ ps',(ps2.newT ⟨"pointer",4,.none,0,[],0,tnm i⟩ ks').Next (At.s 59).k (At.s 59).v ps':=fun ks'=>by
  have C2' : Cur (ps2.newT ⟨"pointer",4,.none,0,[],0,tnm i⟩ ks') ((true,tW tg) :: (false,.s 59) :: rest) R':=⟨C2.ex⟩
  obtain ⟨ps',_,_,n3,_,_⟩:=C2'.next
  exact ⟨ps',n3⟩
 refine sp_pointer_type1 (k:=k) (x:=tnm tg) g' (rm'.less (by exact cl0)) (show Is σ.hp psQ t from I) ok C.tok n1 n2' kn2 (by rw [ek2];omega) (fun ks' _=>nx ks') hf ho hk hty htr hform lb4 lb5 fun h' t' ks' ps3 lt kn' n3 I' F'=>?_
 rw [et2] at I' ⊢
 refine h h' t' _ _ lt ?_ I' F'
 have C2' : Cur (ps2.newT ⟨"pointer",4,.none,0,[],0,tnm i⟩ ks') ((true,tW tg) :: (false,.s 59) :: rest) R':=⟨C2.ex⟩
 obtain ⟨ps4,p4,pl4,n4,C4,e4⟩:=C2'.next
 have e34:ps3 = ps4:=next_uniq n3 n4
 subst e34
 have et4:ps3.types = psQ.types ++ [⟨"pointer",4,.none,0,[],0,tnm i⟩]:=by rw [e4];show ps2.types ++ [_] = _;rw [et2]
 have rt4:ps3.types[psQ.types.length]? = some ⟨"pointer",4,.none,0,[],0,tnm i⟩:=by rw [et4,List.getElem?_concat_length]
 have ok3:=n3.ok (show (ps2.newT ⟨"pointer",4,.none,0,[],0,tnm i⟩ ks').Ok from ⟨ok2.small,ok2.cur⟩)
 refine ⟨rfl,⟨ok3.small,ok3.cur⟩,?_,⟨fun q r hq=>?_,fun q r hq=>?_,?_,?_,?_,?_⟩,?_,?_,?_,⟨C4.ex⟩,setT_get rt4⟩
 ·have:ps3.Kn:=by rw [e4];exact ⟨kn'.kn,kn'.le⟩
  exact ⟨this.kn,this.le⟩
 ·rw [setT_ne (by have:=getl hq;exact fun q=>cf2 (eR q) this),et4];exact app_get hq
 ·show ps3.objs[q]? = _;rw [e4,];show ps2.objs[q]? = _;rw [e2,e1];exact hq
 ·show ps3.scs = _;rw [e4];show ps2.scs = _;rw [e2,e1];rfl
 ·show ps3.lvl = _;rw [e4];show ps2.lvl = _;rw [e2,e1];rfl
 ·show ps3.L = _;rw [e4];show ps2.L = _;rw [e2,e1];rfl
 ·show ps3.keys.length ≤ _;rw [e4];show (ps2.keys ++ [_]).length ≤ _;rw [ek2];simp
 ·show ps3.recs = _;rw [e4];show ps2.recs = _;rw [e2,e1];rfl
 ·show ps3.fwd = _;rw [e4,List.append_nil];show ps2.fwd = _;rw [e2,e1];rfl
 ·show ps3.nf = _;rw [e4,List.append_nil];show ps2.nf = _;rw [e2,e1];rfl
theorem typeOf_ptr2 {k:Nat} {psQ:PS} {i tg:Nat} {rest:Ats} {R' : List Nat} (hi:i < 6) (ht:tg < 60) (C:Cur psQ ((true,cw "POINTER") :: (true,cw "TO") :: (true,tW tg) :: (false,.s 59) :: rest) R')
  (ok:psQ.Ok) (kn:psQ.Kn) (hkl:psQ.keys.length ≤ 900) (hf:psQ.find (tnm tg) = none) (hfn:psQ.fwd = psQ.nf) (hfl:psQ.fwd.length ≤ 900) :
  TypeOf (k + 3) psQ (tnm i) (fun psT ti=>∃ p,PTp psQ i (psQ.types.length + 1) [(.ref (tyN psQ.types.length),tnm tg,p)] rest R' psT ti):=by
 intro c σ t Q g rm I h
 obtain ⟨lb1,lb2,lb3,lb4,lb5,lb6⟩:=lbl_ok i hi 0 (by decide)
 refine sp_type_of_ptr (k:=k + 4) g (rm.less (by exact cl0)) I C.tok fun c' vs g' rm'=>?_
 obtain ⟨ps1,p1,pl1,n1,C1,e1⟩:=C.next
 obtain ⟨ps2,p2,pl2,n2,C2,e2⟩:=C1.next
 have et2:ps2.types = psQ.types:=by rw [e2,e1];rfl
 have ef2:ps2.fwd = psQ.fwd:=by rw [e2,e1];rfl
 have en2:ps2.nf = psQ.nf:=by rw [e2,e1];rfl
 have n2' : ps1.Next "ident" (.str (tnm tg)) ps2:=by
  have:=n2
  rw [tW_k tg ht,tW_v tg ht] at this;exact this
 have kn2:ps2.Kn:=by rw [e2,e1];exact ⟨kn.kn,kn.le⟩
 have ek2:ps2.keys = psQ.keys:=by rw [e2,e1];rfl
 have ok2:=n2.ok (n1.ok ok)
 obtain ⟨X,hX⟩ : ∃ X:List (Nm × Str × Str) → PS,X = fun ks'=>((ps2.newT ⟨"pointer",4,.none,0,[],0,tnm i⟩ ks').newU ⟨"record",0,.none,0,[],0, ""⟩).setT ps2.types.length ⟨"pointer",4,.ref (tyN (ps2.types.length + 1)),0,[],0,tnm i⟩:=⟨_,rfl⟩
 have CX:∀ ks',Cur (X ks') ((true,tW tg) :: (false,.s 59) :: rest) R':=fun ks'=>by rw [hX];exact ⟨C2.ex⟩
 refine sp_pointer_type2 (k:=k) (x:=tnm tg) (k5:=(At.s 59).k) (v5:=(At.s 59).v) g' (rm'.less (by exact cl0)) (show Is σ.hp psQ t from I) ok C.tok n1 n2' kn2 (by rw [ek2];omega) (by rw [ef2,en2,hfn]) (by rw [ef2];omega) (fun ks' _=>?_) (.inl hf) lb4 lb5 fun h' t' ks' ps3 p lt kn' n3 I' F'=>?_
 ·obtain ⟨ps',_,_,n3,_,_⟩:=(CX ks').next
  rw [hX] at n3
  exact ⟨ps',n3⟩
 ·have hX' : X ks' = ((ps2.newT ⟨"pointer",4,.none,0,[],0,tnm i⟩ ks').newU ⟨"record",0,.none,0,[],0, ""⟩).setT ps2.types.length ⟨"pointer",4,.ref (tyN (ps2.types.length + 1)),0,[],0,tnm i⟩:=by rw [hX]
  rw [← hX'] at n3
  rw [et2] at I' ⊢
  refine h h' t' _ _ lt ⟨p,?_⟩ I' F'
  obtain ⟨ps4,p4,pl4,n4,C4,e4⟩:=(CX ks').next
  have e34:ps3 = ps4:=next_uniq n3 n4
  subst e34
  have et4:ps3.types = ((psQ.types ++ [(⟨"pointer",4,.none,0,[],0,tnm i⟩ : TyR)]) ++ [(⟨"record",0,.none,0,[],0, ""⟩ : TyR)]).set psQ.types.length ⟨"pointer",4,.ref (tyN (psQ.types.length + 1)),0,[],0,tnm i⟩:=by rw [e4,hX'];show ((ps2.types ++ [_]) ++ [_]).set ps2.types.length _ = _;rw [et2]
  have hlen:psQ.types.length < ((psQ.types ++ [(⟨"pointer",4,.none,0,[],0,tnm i⟩ : TyR)]) ++ [(⟨"record",0,.none,0,[],0, ""⟩ : TyR)]).length:=by simp
  have ok3:=n3.ok (show (X ks').Ok from by rw [hX'];exact ⟨ok2.small,ok2.cur⟩)
  refine ⟨rfl,⟨ok3.small,ok3.cur⟩,?_,⟨fun q r hq=>?_,fun q r hq=>?_,?_,?_,?_,?_⟩,?_,?_,?_,⟨C4.ex⟩,?_⟩
  ·have:ps3.Kn:=by rw [e4,hX'];exact ⟨kn'.kn,kn'.le⟩
   exact ⟨this.kn,this.le⟩
  ·show ps3.types[q]? = _
   rw [et4,set_get _ _ _ _ hlen,if_neg (by have:=getl hq;exact fun q=>cf2 (eR q) this)];exact app_get (app_get hq)
  ·show ps3.objs[q]? = _;rw [e4,hX'];show ps2.objs[q]? = _;rw [e2,e1];exact hq
  ·show ps3.scs = _;rw [e4,hX'];show ps2.scs = _;rw [e2,e1];rfl
  ·show ps3.lvl = _;rw [e4,hX'];show ps2.lvl = _;rw [e2,e1];rfl
  ·show ps3.L = _;rw [e4,hX'];show ps2.L = _;rw [e2,e1];rfl
  ·show ps3.keys.length ≤ _;rw [e4,hX'];show (ps2.keys ++ [_]).length ≤ _;rw [ek2];simp
  ·show ps3.recs = _;rw [e4,hX'];show ps2.recs = _;rw [e2,e1];rfl
  ·show ps3.fwd ++ _ = _
   have:ps3.fwd = psQ.fwd:=by rw [e4,hX'];exact ef2
   rw [this]
  ·show ps3.nf ++ _ = _
   have:ps3.nf = psQ.nf:=by rw [e4,hX'];exact en2
   rw [this]
  ·show ps3.types[psQ.types.length]? = _
   rw [et4,set_get _ _ _ _ hlen,if_pos rfl]
theorem tnm_ne' : ∀ a,a < 60 → ∀ b,b < 60 → a ≠ b → (tnm a == tnm b) = false:=by decide +kernel
theorem tnm_ne {a b:Nat} (ha:a < 60) (hb:b < 60) (h:a ≠ b):tnm a ≠ tnm b:=fun e=>by
 have:=tnm_ne' a ha b hb h
 rw [e] at this;simp at this
theorem tnm_std:∀ a,a < 60 → (lookN (tnm a) ((nm7 ++ stdA).zipIdx) = none) ∧ tnm a ≠ "CHAR" ∧ tnm a ≠ "INTEGER" := by decide +kernel
theorem look_std:lookN "CHAR" ((nm7 ++ stdA).zipIdx) = some 1 ∧ lookN "INTEGER" ((nm7 ++ stdA).zipIdx) = some 3:=by decide +kernel
noncomputable def inN (n:Nat) (f:Nat → Nat):List (Str × Nat):=(List.range n).map fun i=>(tnm i,f i)
theorem lookN_app (x:Str):∀ (l m:List (Str × Nat)),lookN x (l ++ m) = (lookN x l).or (lookN x m)
 | [],_=>by simp [lookN]
 | (y,k) :: l,m=>by
  show (if y = x then some k else lookN x (l ++ m)) = Option.or (if y = x then some k else lookN x l) _
  by_cases h:y = x
  ·simp [h]
  ·simp only [h,if_false];exact lookN_app x l m
theorem look_in {n:Nat} (hn:n ≤ 60) (f:Nat → Nat) {a:Nat} (ha:a < 60):lookN (tnm a) (inN n f) = if a < n then some (f a) else none:=by
 induction n with
 | zero=>rfl
 | succ n ih=>
  have e:inN (n + 1) f = inN n f ++ [(tnm n,f n)]:=by unfold inN;rw [List.range_succ,List.map_append];rfl
  rw [e,lookN_app,ih (by omega)]
  show Option.or _ (if tnm n = tnm a then some (f n) else none) = _
  by_cases q:a < n
  ·simp [q,show a < n + 1 by exact cb1 q]
  ·by_cases q2:a = n
   ·subst q2;simp
   ·rw [if_neg q,if_neg (tnm_ne (by omega) ha (Ne.symm q2)),if_neg (by omega)]
theorem look_other {n:Nat} (hn:n ≤ 60) (f:Nat → Nat) {x:Str} (hx:∀ a,a < 60 → tnm a ≠ x):lookN x (inN n f) = none:=by
 induction n with
 | zero=>rfl
 | succ n ih=>
  have e:inN (n + 1) f = inN n f ++ [(tnm n,f n)]:=by unfold inN;rw [List.range_succ,List.map_append];rfl
  rw [e,lookN_app,ih (by omega)]
  show Option.or none (if tnm n = x then some (f n) else none) = none
  rw [if_neg (hx n (by omega))]
noncomputable def scsP (n:Nat) (f:Nat → Nat):List ScR:=[⟨-1,(nm7 ++ stdA).zipIdx⟩,⟨0,inN n f⟩]
theorem find_t {ps:PS} {n:Nat} {f:Nat → Nat} (h:ps.scs = scsP n f) (hn:n ≤ 60) {a:Nat} (ha:a < 60):ps.find (tnm a) = if a < n then some (f a) else none:=by
 unfold PS.find
 rw [h]
 show (match lookN (tnm a) (inN n f) with | some k=>some k | none=>(match lookN (tnm a) ((nm7 ++ stdA).zipIdx) with | some k=>some k | none=>none)) = _
 rw [look_in hn f ha,(tnm_std a ha).1]
 by_cases q:a < n <;> simp [q]
theorem find_char {ps:PS} {n:Nat} {f:Nat → Nat} (h:ps.scs = scsP n f) (hn:n ≤ 60):ps.find "CHAR" = some 1 ∧ ps.find "INTEGER" = some 3:=by
 unfold PS.find
 rw [h]
 constructor
 ·show (match lookN "CHAR" (inN n f) with | some k=>some k | none=>(match lookN "CHAR" ((nm7 ++ stdA).zipIdx) with | some k=>some k | none=>none)) = _
  rw [look_other hn f (fun a ha=>(tnm_std a ha).2.1),look_std.1]
 ·show (match lookN "INTEGER" (inN n f) with | some k=>some k | none=>(match lookN "INTEGER" ((nm7 ++ stdA).zipIdx) with | some k=>some k | none=>none)) = _
  rw [look_other hn f (fun a ha=>(tnm_std a ha).2.2),look_std.2]
noncomputable def RowOk (K:List Bool) (rs:List Rw) (i:Nat):Dc → Rw → Prop
 | .ptr tg,r=>r = .ptr tg ∧ K[i]? = some false ∧ K[tg]? = some true
 | .rcd b fs,r=>K[i]? = some true ∧ fs.length ≤ 3 ∧ (∀ f ∈ fs,f.ok (pts K i)) ∧ ∃ lev s m,r = rowR i lev b s m fs ∧ (b = none → lev = 0 ∧ s = 0 ∧ m = []) ∧ (∀ x,b = some x → x < i ∧ ∃ lev' bb fl',rs[x]? = some (.rcd lev' bb s m fl') ∧ lev = lev' + 1 ∧ lev' < 3)
theorem RowOk.app {K:List Bool} {rs rs' : List Rw} {i:Nat} {d:Dc} {r:Rw} (h:RowOk K rs i d r):RowOk K (rs ++ rs') i d r:=by
 cases d with
 | ptr tg=>exact h
 | rcd b fs=>
  obtain ⟨h1,h2,h3,lev,s,m,h4,h5,h6⟩:=h
  exact ⟨h1,h2,h3,lev,s,m,h4,h5,fun x hx=>by obtain ⟨a,lev',bb,fl',b,c,d⟩:=h6 x hx;exact ⟨a,lev',bb,fl',app_get b,c,d⟩⟩
theorem WF.row {K:List Bool} {ds:List Dc} {rs:List Rw} (h:WF K ds rs):∀ {i:Nat} {d:Dc} {r:Rw},ds[i]? = some d → rs[i]? = some r → RowOk K rs i d r:=by
 have last:∀ {α:Type} {l:List α} {a:α} {i:Nat} {d:α},(l ++ [a])[i]? = some d → (l[i]? = some d) ∨ (i = l.length ∧ d = a):=fun {α l a i d} h=>by
  rcases Nat.lt_or_ge i l.length with q | q
  ·rw [List.getElem?_append_left q] at h;exact .inl h
  ·right
   have:i < (l ++ [a]).length:=getl h
   simp at this
   have e:i = l.length:=by exact Nat.le_antisymm (cb1 this) q
   subst e
   rw [List.getElem?_concat_length] at h
   exact ⟨rfl,(Option.some.inj h).symm⟩
 induction h with
 | nil=>intro i d r h;simp at h
 | @ptr ds rs tg w h1 h2 ih=>
  intro i d r hd hr
  have hl:=w.len
  rcases last hd with hd | ⟨rfl,rfl⟩
  ·rcases last hr with hr | ⟨e,rfl⟩
   ·exact (ih hd hr).app
   ·have:=getl hd;omega
  ·rcases last hr with hr | ⟨e,rfl⟩
   ·have:=getl hr;omega
   ·exact ⟨rfl,h1,h2⟩
 | @rec0 ds rs fs w h1 h2 h3 ih=>
  intro i d r hd hr
  have hl:=w.len
  rcases last hd with hd | ⟨rfl,rfl⟩
  ·rcases last hr with hr | ⟨e,rfl⟩
   ·exact (ih hd hr).app
   ·have:=getl hd;omega
  ·rcases last hr with hr | ⟨e,rfl⟩
   ·have:=getl hr;omega
   ·exact ⟨h1,h2,h3,0,0,[],rfl,fun _=>⟨rfl,rfl,rfl⟩,fun x hx=>by cases hx⟩
 | @rec1 ds rs fs b lev s bb m fl w h1 h2 h3 h4 h5 ih=>
  intro i d r hd hr
  have hl:=w.len
  rcases last hd with hd | ⟨rfl,rfl⟩
  ·rcases last hr with hr | ⟨e,rfl⟩
   ·exact (ih hd hr).app
   ·have:=getl hd;omega
  ·rcases last hr with hr | ⟨e,rfl⟩
   ·have:=getl hr;omega
   ·exact ⟨h1,h2,h3,lev + 1,s,m,rfl,(fun q=>by cases q),fun x hx=>by
     cases hx
     have:=getl h4
     exact ⟨by exact cb2 (eR hl) this,lev,bb,fl,app_get h4,rfl,h5⟩⟩
theorem mem_pts {K:List Bool} {i k:Nat} (h:k ∈ pts K i):k < i ∧ K.getD k false = false:=by
 unfold pts at h
 rw [List.mem_filter,List.mem_range] at h
 exact ⟨h.1,by simpa using h.2⟩
theorem FK.ok_sm {K:List Bool} {i:Nat} {f:FK} (h:f.ok (pts K i)) (hi:i ≤ 60):f.sm:=by
 cases f with
 | ptr k=>have:=(mem_pts h).1;show k < 60;omega
 | int=>trivial
 | chr=>trivial
 | achr m=>exact h
 | aptr m k=>exact ⟨h.1,h.2.1,by have:=(mem_pts h.2.2).1;omega⟩
theorem layF_names (i:Nat):∀ (fs:List FK) (j s:Nat) (y:Str × Nat),y ∈ (layF i j s fs).2.1 → ∃ j',j ≤ j' ∧ j' < j + fs.length ∧ y.1 = fnm i j'
 | [],_,_,_,h=>by cases h
 | f :: r,j,s,y,h=>by
  rcases List.mem_cons.mp h with rfl | h
  ·exact ⟨j,Nat.le_refl _,by simp,rfl⟩
  ·obtain ⟨j',a,b,c⟩:=layF_names i r (j + 1) _ y h
   exact ⟨j',by omega,by simp;exact cb1 b,c⟩
theorem layF_le (i:Nat):∀ (fs:List FK) (j s:Nat),(∀ f ∈ fs,f.sm) → s ≤ (layF i j s fs).2.2 ∧ (layF i j s fs).2.2 ≤ s + 15 * fs.length
 | [],_,_,_=>⟨Nat.le_refl _,by simp [layF]⟩
 | f :: r,j,s,h=>by
  obtain ⟨z1,z2,z3⟩:=f.size_le (h f (.head _))
  obtain ⟨u1,u2,u3⟩:=up_le s f.unit z3
  have ih:=layF_le i r (j + 1) (up s f.unit + f.size) fun x hx=>h x (.tail _ hx)
  show s ≤ (layF i (j + 1) (up s f.unit + f.size) r).2.2 ∧ (layF i (j + 1) (up s f.unit + f.size) r).2.2 ≤ _
  simp only [List.length_cons]
  exact ⟨cb2 u1 ih.1,cb3 ih.2 u2 z2⟩
theorem WF.small {K:List Bool} {ds:List Dc} {rs:List Rw} (h:WF K ds rs) (hK:K.length ≤ 60):∀ {i lev sz:Nat} {b:Option Nat} {m:List Int} {fl:List (Str × Nat)},rs[i]? = some (.rcd lev b sz m fl) → lev ≤ 3 ∧ sz ≤ 50 * (lev + 1):=by
 intro i
 induction i using Nat.strongRecOn with
 | _ i ih=>
  intro lev sz b m fl hr
  have hl:=h.len
  have hle:=h.le
  have hi:=getl hr
  obtain ⟨d,hd⟩ : ∃ d,ds[i]? = some d:=⟨ds[i],List.getElem?_eq_getElem (by exact cb2 (eR hl) hi)⟩
  have ro:=h.row hd hr
  cases d with
  | ptr tg=>obtain ⟨e,_⟩:=ro;cases e
  | rcd b' fs=>
   obtain ⟨h1,h2,h3,lev',s,m',h4,h5,h6⟩:=ro
   have hsm:∀ f ∈ fs,f.sm:=fun f hf=>FK.ok_sm (h3 f hf) (by exact cb4 hK (eR hl) hle hi)
   have lle:=layF_le i fs 0 s hsm
   have uu:=up_le (layF i 0 s fs).2.2 4 (.inr rfl)
   unfold rowR at h4
   cases h4
   cases b with
   | none=>
    obtain ⟨rfl,rfl,rfl⟩:=h5 rfl
    refine ⟨by omega,?_⟩
    exact Nat.max_le.mpr ⟨by decide,cb3 uu.2.1 lle.2 (Nat.mul_le_mul_left 15 h2)⟩
   | some x=>
    obtain ⟨hx,lev2,bb,fl',g1,rfl,g2⟩:=h6 x rfl
    obtain ⟨g3,g4⟩:=ih x hx g1
    refine ⟨by omega,?_⟩
    exact Nat.max_le.mpr ⟨cl0,cb4 uu.2.1 lle.2 (Nat.mul_le_mul_left 15 h2) g4⟩
noncomputable def RowAt (ps:PS) (tix:List Nat) (i:Nat):Dc → Rw → Prop
 | .ptr tg,_=>∃ b,ps.types[tix.getD i 0]? = some ⟨"pointer",4,.ref (tyN b),0,[],0,tnm i⟩ ∧ ((tg < tix.length ∧ b = tix.getD tg 0) ∨ ∃ p,(V.ref (tyN (tix.getD i 0)),tnm tg,p) ∈ ps.fwd)
 | .rcd b fs,.rcd lev _ sz _ fl=>∃ fv,ps.types[tix.getD i 0]? = some ⟨"record",(sz:Int),(match b with | none=>V.none | some x=>.ref (tyN (tix.getD x 0))),0,fv,(lev:Int),tnm i⟩ ∧ FD ps fv fl fs
 | .rcd _ _,.ptr _=>False
structure Sim (K:List Bool) (ps:PS) (ds:List Dc) (rs:List Rw) (tix oix:List Nat):Prop where
 wf:WF K ds rs
 ok:ps.Ok
 kn:ps.Kn
 tl:tix.length = ds.length
 ol:oix.length = ds.length
 keys:ps.keys.length ≤ 4 * ds.length
 recs:ps.recs = ((List.range ds.length).filter (fun i=>K.getD i false)).map (fun i=>V.ref (tyN (tix.getD i 0)))
 fwd:ps.fwd = ps.nf
 fl:ps.fwd.length ≤ ds.length
 fr:∀ x ∈ ps.fwd,∃ i tg p,x = (V.ref (tyN (tix.getD i 0)),tnm tg,p) ∧ ds[i]? = some (.ptr tg)
 lvl:ps.lvl = 0
 scs:ps.scs = scsP ds.length (fun i=>oix.getD i 0)
 t3:∃ r,ps.types[3]? = some r ∧ r.form = ("integer" : Str) ∧ r.size = 4
 t1:∃ r,ps.types[1]? = some r ∧ r.form = ("char" : Str) ∧ r.size = 1
 o1:∃ ob,ps.objs[1]? = some ob ∧ ob.kind = ("type" : Str) ∧ ob.type = .ref (tyN 1)
 o3:∃ ob,ps.objs[3]? = some ob ∧ ob.kind = ("type" : Str) ∧ ob.type = .ref (tyN 3)
 obj:∀ i,i < ds.length → ∃ p,ps.objs[oix.getD i 0]? = some ⟨tnm i, "type",.ref (tyN (tix.getD i 0)),p,false,0,.none,0⟩
 row:∀ (i:Nat) (d:Dc) (r:Rw),ds[i]? = some d → rs[i]? = some r → RowAt ps tix i d r
theorem fn_far:∀ j,j < 4 → ∀ x,x < 6 → ∀ j',j' < 3 → (fnm x j' == fnm 6 j) = false:=by decide +kernel
theorem getD_app {α:Type} {l m:List α} {i:Nat} {x:α} (h:i < l.length):(l ++ m).getD i x = l.getD i x:=by
 rw [List.getD_eq_getElem?_getD,List.getD_eq_getElem?_getD,List.getElem?_append_left h]
theorem getD_last {α:Type} {l:List α} {a x:α}:(l ++ [a]).getD l.length x = a:=by
 rw [List.getD_eq_getElem?_getD,List.getElem?_concat_length];rfl
theorem FD.length {ps:PS} {fv:List V} {xs:List (Str × Nat)} {fs:List FK} (h:FD ps fv xs fs):fv.length = fs.length ∧ xs.length = fs.length:=by
 induction h with
 | nil=>exact ⟨rfl,rfl⟩
 | cons _ _ _ ih=>exact ⟨by simp [ih.1],by simp [ih.2]⟩
theorem RowAt.mono {ps ps' : PS} {tix:List Nat} {m:List Nat} {i:Nat} {d:Dc} {r:Rw} (h:RowAt ps tix i d r) (hi:i < tix.length) (hb:∀ b fs x,d = .rcd b fs → b = some x → x < tix.length)
  (ht:∀ (i:Nat) (r:TyR),ps.types[i]? = some r → ps'.types[i]? = some r) (ho:∀ (i:Nat) (r:ObR),ps.objs[i]? = some r → (r.kind = ("field" : Str)) → ps'.objs[i]? = some r) (hf:∀ x ∈ ps.fwd,x ∈ ps'.fwd):RowAt ps' (tix ++ m) i d r:=by
 cases d with
 | ptr tg=>
  obtain ⟨b,h1,h2⟩:=h
  refine ⟨b,by rw [getD_app hi];exact ht _ _ h1,?_⟩
  rcases h2 with ⟨h2,h3⟩ | ⟨p,h2⟩
  ·exact .inl ⟨by rw [List.length_append];exact cb1 h2,by rw [getD_app h2];exact h3⟩
  ·exact .inr ⟨p,by rw [getD_app hi];exact hf _ h2⟩
 | rcd b fs=>
  cases r with
  | ptr _=>exact h
  | rcd lev bb sz mk fl=>
   obtain ⟨fv,h1,h2⟩:=h
   refine ⟨fv,?_,?_⟩
   ·rw [getD_app hi]
    cases b with
    | none=>exact ht _ _ h1
    | some x=>
     show ps'.types[_]? = some (⟨"record",(sz:Int),.ref (tyN ((tix ++ m).getD x 0)),0,fv,(lev:Int),tnm i⟩ : TyR)
     rw [getD_app (hb _ _ _ rfl rfl)]
     exact ht _ _ h1
   ·have:∀ {fv fl fs},FD ps fv fl fs → FD ps' fv fl fs:=fun {fv fl fs} h=>by
     induction h with
     | nil=>exact .nil
     | cons a b _ ih=>exact .cons (ho _ _ a rfl) (b.mono fun i r e _=>ht i r e) ih
    exact this h2
theorem str_nil (x:Str):("" : Str) ++ x = x:=by
 show Str.append "" x = x
 unfold Str.append
 have:("" : Str).cps = #[]:=by decide +kernel
 rw [this]
 cases x;simp
theorem Sim.noF {K:List Bool} {ps:PS} {ds:List Dc} {rs:List Rw} {tix oix:List Nat} (S:Sim K ps ds rs tix oix) (hK:K.length ≤ 6) {j:Nat} (hj:j < 4):∀ x b fs,ds[x]? = some (.rcd b fs) → ∃ n,NoF ps (fnm ds.length j) (.ref (tyN (tix.getD x 0))) n:=by
 intro x
 have hle:=S.wf.le
 induction x using Nat.strongRecOn with
 | _ x ih=>
  intro b fs hd
  have hx:=getl hd
  have hl:=S.wf.len
  obtain ⟨r,hr⟩ : ∃ r,rs[x]? = some r:=⟨rs[x],List.getElem?_eq_getElem (by exact cb2 hx (eL hl))⟩
  have ro:=S.wf.row hd hr
  obtain ⟨h1,h2,h3,lev,s,m,h4,h5,h6⟩:=ro
  have ra:=S.row x _ _ hd hr
  unfold rowR at h4
  subst h4
  obtain ⟨fv,g1,g2⟩:=ra
  have hfl:∀ v ∈ fv,∃ k ob,v = V.ref (obN k) ∧ ps.objs[k]? = some ob ∧ (ob.name == fnm ds.length j) = false:=g2.noF fun y hy=>by
   obtain ⟨j',a,b,c⟩:=layF_names x fs 0 s y hy
   rw [c]
   by_cases q:ds.length < 6
   ·exact fnm_ne _ q j hj x (by exact cb2 hx q) j' (by exact cb2 h2 b) (by intro e;cases e;exact cf1 hx)
   ·have e6:ds.length = 6:=by omega
    rw [e6]
    exact fn_far j hj x (by exact cb2 hx (eL e6)) j' (by exact cb2 h2 b)
  have hfv:fv.length ≤ 1000:=by
   have:=g2.length
   exact cb2 h2 (eL this.1)
  cases b with
  | none=>exact ⟨1,.ty g1 hfv hfl .none⟩
  | some y=>
   obtain ⟨hy,lev',bb,fl',g3,g4,g5⟩:=h6 y rfl
   obtain ⟨d',hd'⟩ : ∃ d',ds[y]? = some d':=⟨ds[y],List.getElem?_eq_getElem (by exact cb2 hx hy)⟩
   cases d' with
   | ptr tg=>
    have:=S.wf.row hd' g3
    obtain ⟨e,_⟩:=this;cases e
   | rcd b' fs'=>
    obtain ⟨n,hn⟩:=ih y hy b' fs' hd'
    exact ⟨n + 1,.ty g1 hfv hfl hn⟩
theorem WF.take {K:List Bool} {ds:List Dc} {rs:List Rw} (h:WF K ds rs):∀ n,WF K (ds.take n) (rs.take n):=by
 have key:∀ {ds:List Dc} {rs:List Rw} {d:Dc} {r:Rw},WF K ds rs → (∀ n,WF K (ds.take n) (rs.take n)) → WF K (ds ++ [d]) (rs ++ [r]) → ∀ n,WF K ((ds ++ [d]).take n) ((rs ++ [r]).take n):=fun {ds rs d r} w ih w' n=>by
  have hl:=w.len
  rcases Nat.lt_or_ge ds.length n with q | q
  ·rw [List.take_of_length_le (by simp;omega),List.take_of_length_le (by simp;exact cb2 (eR hl) q)];exact w'
  ·rw [List.take_append_of_le_length q,List.take_append_of_le_length (by exact cb2 (eL hl) q)];exact ih n
 induction h with
 | nil=>intro n;simp;exact .nil
 | ptr w h1 h2 ih=>exact key w ih (.ptr w h1 h2)
 | rec0 w h1 h2 h3 ih=>exact key w ih (.rec0 w h1 h2 h3)
 | rec1 w h1 h2 h3 h4 h5 ih=>exact key w ih (.rec1 w h1 h2 h3 h4 h5)
noncomputable def nmsD:Nat → List Dc → List Str
 | _,[]=>[]
 | i,_ :: r=>tnm i :: nmsD (i + 1) r
noncomputable def varT:List Nat:=[86,65,82]
noncomputable def AtD (ps:PS) (i:Nat):List Dc → Prop
 | []=>∃ v,ps.tok "VAR" v
 | d :: r=>Cur ps (atDs i (d :: r)) varT
noncomputable def PAll (K:List Bool) (all:List Dc) (rows:List Rw) (ps:PS):Prop:=(∃ tix oix,Sim K ps all rows tix oix) ∧ ∃ v,ps.tok "VAR" v
structure DecT (psQ:PS) (i:Nat) (d:Dc) (r:Rw) (tix:List Nat) (rest:Ats) (psT:PS) (ti:Nat):Prop where
 ok:psT.Ok
 kn:psT.Kn
 kept:Rk psQ psT
 cur:Cur psT ((false,.s 59) :: rest) varT
 recs:psT.recs = psQ.recs ++ (match d with | .ptr _=>[] | .rcd _ _=>[.ref (tyN ti)])
 fwd:∃ nfw:List (V × Str × Int),psT.fwd = psQ.fwd ++ nfw ∧ psT.nf = psQ.nf ++ nfw ∧ nfw.length ≤ 1 ∧ (∀ x ∈ nfw,∃ tg p,x = (V.ref (tyN ti),tnm tg,p) ∧ d = .ptr tg)
 row:RowAt psT (tix ++ [ti]) i d r
structure DecQ (K:List Bool) (ps psQ:PS) (i:Nat) (tix oix:List Nat) (p:Int):Prop where
 ok:psQ.Ok
 kn:psQ.Kn
 types:psQ.types = ps.types
 objs:psQ.objs = ps.objs ++ [decO ps (tnm i) p]
 scs:psQ.scs = scsP (i + 1) (fun q=>(oix ++ [ps.objs.length]).getD q 0)
 keys:psQ.keys = ps.keys
 recs:psQ.recs = ps.recs
 fwd:psQ.fwd = ps.fwd
 nf:psQ.nf = ps.nf
 lvl:psQ.lvl = ps.lvl
theorem Sim.nameRec {K:List Bool} {ps psQ:PS} {i:Nat} {all:List Dc} {rows:List Rw} {tix oix:List Nat} {p:Int} (S:Sim K ps (all.take i) (rows.take i) tix oix) (E:DecQ K ps psQ i tix oix p) (hi:i ≤ all.length) (hi6:i < 6) {x:Nat} {d:Dc} (hx:x < i) (hd:all[x]? = some d) :
  ∃ r,rows[x]? = some r ∧ RowOk K (rows.take i) x d r ∧ psQ.find (tnm x) = some (oix.getD x 0) ∧ (∃ q,psQ.objs[oix.getD x 0]? = some ⟨tnm x, "type",.ref (tyN (tix.getD x 0)),q,false,0,.none,0⟩) ∧ RowAt ps tix x d r:=by
 have hl:(all.take i).length = i:=by rw [List.length_take];exact Nat.min_eq_left hi
 have hd' : (all.take i)[x]? = some d:=by rw [List.getElem?_take,if_pos hx];exact hd
 have hlr:=S.wf.len
 obtain ⟨r,hr⟩ : ∃ r,(rows.take i)[x]? = some r:=⟨(rows.take i)[x]'(by exact cb3 hx (eR hl) (eL hlr)),List.getElem?_eq_getElem (by exact cb3 hx (eR hl) (eL hlr))⟩
 refine ⟨r,?_,S.wf.row hd' hr,?_,?_,S.row _ _ _ hd' hr⟩
 ·rw [List.getElem?_take,if_pos hx] at hr;exact hr
 ·rw [find_t E.scs (by exact cb1 hi6) (by exact cb2 hi6 hx),if_pos (by exact cb1 hx),getD_app (by rw [S.ol];exact cb2 hx (eR hl))]
 ·obtain ⟨q,hq⟩:=S.obj x (by exact cb2 hx (eR hl))
  exact ⟨q,by rw [E.objs];exact app_get hq⟩
theorem NoF.uniq {ps:PS} {x y:Str} {v:V} {n m:Nat} (h:NoF ps x v n) (h' : NoF ps y v m):n = m:=by
 induction h generalizing m with
 | none=>cases h';rfl
 | ty a _ _ _ ih=>
  cases h' with
  | ty a' _ _ d'=>
   rw [a] at a'
   cases a'
   rw [ih d']
theorem noF_same {ps:PS} {f:Nat → Str} {v:V} (h:∀ j,j < 4 → ∃ n,NoF ps (f j) v n):∃ n,∀ j,j < 4 → NoF ps (f j) v n:=by
 obtain ⟨n,hn⟩:=h 0 (by decide)
 refine ⟨n,fun j hj=>?_⟩
 obtain ⟨m,hm⟩:=h j hj
 rw [hn.uniq hm];exact hm
theorem dec_type {k:Nat} {K:List Bool} {ps psQ:PS} {i:Nat} {all:List Dc} {rows:List Rw} {tix oix:List Nat} {p:Int} {d:Dc} {r:Rw} {rest X:Ats} (hK:K.length ≤ 6) (w:WF K all rows) (hd:all[i]? = some d) (hr:rows[i]? = some r)
  (S:Sim K ps (all.take i) (rows.take i) tix oix) (E:DecQ K ps psQ i tix oix p) (C:Cur psQ X varT) (hX:atD i d ++ rest = (true,tW i) :: (true,.s 61) :: X):TypeOf (k + 3) psQ (tnm i) (DecT psQ i d r tix rest):=by
 have hle:=w.le
 have hil:=getl hd
 have hi:i < 6:=by exact cb3 hK hle hil
 have hl:(all.take i).length = i:=by rw [List.length_take];exact mi1 hil
 have ro:=w.row hd hr
 have hk4:psQ.keys.length ≤ 24:=by rw [E.keys];have:=S.keys;omega
 have hrl:psQ.recs.length ≤ 10:=by
  rw [E.recs,S.recs,List.length_map]
  have:=List.length_filter_le (fun i=>K.getD i false) (List.range (all.take i).length)
  rw [List.length_range] at this;exact cb3 hi (eL hl) this
 have tix0:∀ x,x < i → (tix ++ [psQ.types.length]).getD x 0 = tix.getD x 0:=fun x hx=>getD_app (by rw [S.tl];exact cb2 (eR hl) hx)
 have tixi:∀ ti,(tix ++ [ti]).getD i 0 = ti:=fun ti=>by
  have:i = tix.length:=by rw [S.tl,hl]
  rw [this];exact getD_last
 cases d with
 | ptr tg=>
  obtain ⟨rfl,h1,h2⟩:=ro
  have htg:=getl h2
  have hX' : X = (true,cw "POINTER") :: (true,cw "TO") :: (true,tW tg) :: (false,.s 59) :: rest:=by
   have:(true,tW i) :: (true,.s 61) :: X = (true,tW i) :: (true,.s 61) :: (true,cw "POINTER") :: (true,cw "TO") :: (true,tW tg) :: (false,.s 59) :: rest:=hX.symm
   simpa using this
  subst hX'
  rcases Nat.lt_or_ge tg i with q | q
  ·-- a record that stands
   obtain ⟨d',hd'⟩ : ∃ d',all[tg]? = some d':=⟨all[tg]'(by exact cb2 hil q),List.getElem?_eq_getElem (by exact cb2 hil q)⟩
   obtain ⟨r',g1,g2,g3,⟨p',g4⟩,g5⟩:=S.nameRec E (by omega) hi q hd'
   cases d' with
   | ptr tg'=>
    obtain ⟨_,e,_⟩:=g2
    rw [h2] at e;cases e
   | rcd b' fs'=>
    cases r' with
    | ptr _=>exact g5.elim
    | rcd lev bb sz mk fl=>
    obtain ⟨fv,e1,e2⟩:=g5
    intro c σ t Q g rm I h
    refine typeOf_ptr1 (k:=k) hi (by exact cb2 hK htg) C E.ok E.kn (by omega) g3 g4 rfl rfl (by rw [E.types];exact e1) rfl c σ t Q g rm I fun h' t' psT ti lt P I' F'=>h h' t' psT ti lt ?_ I' F'
    refine ⟨P.ok,P.kn,P.kept,P.cur,by rw [P.recs,List.append_nil],⟨[],P.fwd,P.nf,by simp,by simp⟩,?_⟩
    refine ⟨tix.getD tg 0,by rw [tixi];exact P.row,.inl ⟨by rw [List.length_append,S.tl];exact cb2 (eR hl) q,(getD_app (by rw [S.tl];exact cb2 (eR hl) q)).symm⟩⟩
  ·-- a record to come
   have hne:tg ≠ i:=fun e=>by subst e;rw [h1] at h2;cases h2
   have hf:psQ.find (tnm tg) = none:=by
    rw [find_t E.scs (by exact cb1 hi) (by omega),if_neg (by omega)]
   intro c σ t Q g rm I h
   refine typeOf_ptr2 (k:=k) hi (by omega) C E.ok E.kn (by omega) hf (by rw [E.fwd,E.nf,S.fwd]) (by rw [E.fwd];have:=S.fl;omega) c σ t Q g rm I fun h' t' psT ti lt P I' F'=>h h' t' psT ti lt ?_ I' F'
   obtain ⟨pp,P⟩:=P
   have hti:=P.idx
   refine ⟨P.ok,P.kn,P.kept,P.cur,by rw [P.recs,List.append_nil],⟨_,P.fwd,P.nf,by simp,?_⟩,?_⟩
   ·intro x hx
    rw [List.mem_singleton.mp hx]
    exact ⟨tg,pp,by rw [hti],rfl⟩
   ·refine ⟨_,by rw [tixi];exact P.row,.inr ⟨pp,?_⟩⟩
    rw [P.fwd,tixi,hti]
    exact List.mem_append_right _ (.head _)
 | rcd b fs=>
  obtain ⟨h1,h2,h3,lev,s,m,h4,h5,h6⟩:=ro
  have hsm:∀ f ∈ fs,f.sm:=fun f hf=>FK.ok_sm (h3 f hf) (by omega)
  have hX' : X = (true,cw "RECORD") :: (atB b ++ (atFs i 0 fs ++ (true,cw "END") :: (false,.s 59) :: rest)):=by
   have:(true,tW i) :: (true,.s 61) :: X = (true,tW i) :: (true,.s 61) :: (true,cw "RECORD") :: (atB b ++ (atFs i 0 fs ++ (true,cw "END") :: (false,.s 59) :: rest)):=by
    rw [← hX]
    show (true,tW i) :: (true,.s 61) :: (true,cw "RECORD") :: ((atB b ++ (atFs i 0 fs ++ [(true,cw "END"),(false,.s 59)])) ++ rest) = _
    simp
   simpa using this
  subst hX'
  have charN:NameOk psQ "CHAR" "char" 1 ∧ NameOk psQ "INTEGER" "integer" 4:=by
   obtain ⟨f1,f3⟩:=find_char E.scs (by exact cb1 hi)
   obtain ⟨o1,a1,a2,a3⟩:=S.o1
   obtain ⟨o3,b1,b2,b3⟩:=S.o3
   obtain ⟨r1,c1,c2,c3⟩:=S.t1
   obtain ⟨r3,d1,d2,d3⟩:=S.t3
   exact ⟨⟨1,o1,1,r1,f1,by rw [E.objs];exact app_get a1,a2,a3,by rw [E.types];exact c1,c2,c3⟩,⟨3,o3,3,r3,f3,by rw [E.objs];exact app_get b1,b2,b3,by rw [E.types];exact d1,d2,d3⟩⟩
  have ptrN:∀ x ∈ pts K i,NameOk psQ (tnm x) "pointer" 4:=fun x hx=>by
   obtain ⟨hxi,hxk⟩:=mem_pts hx
   obtain ⟨d',hd'⟩ : ∃ d',all[x]? = some d':=⟨all[x]'(by exact cb2 hil hxi),List.getElem?_eq_getElem (by exact cb2 hil hxi)⟩
   obtain ⟨r',g1,g2,g3,⟨p',g4⟩,g5⟩:=S.nameRec E (by omega) hi hxi hd'
   cases d' with
   | rcd b' fs'=>
    have:=g2.1
    rw [List.getD_eq_getElem?_getD,this] at hxk;cases hxk
   | ptr tg'=>
    obtain ⟨bb,e1,e2⟩:=g5
    exact ⟨_,_,_,_,g3,g4,rfl,rfl,by rw [E.types];exact e1,rfl,rfl⟩
  have hnm:∀ f ∈ fs,NmF psQ f:=fun f hf=>by
   have:=h3 f hf
   cases f with
   | ptr k=>exact ptrN k this
   | int=>exact charN.2
   | chr=>exact charN.1
   | achr m=>exact charN.1
   | aptr m k=>exact ptrN k this.2.2
  have hs:s ≤ 1000:=by
   cases b with
   | none=>obtain ⟨_,e,_⟩:=h5 rfl;exact cb1 (eL e)
   | some x=>
    obtain ⟨hx,lev',bb,fl',g1,g2,g3⟩:=h6 x rfl
    have:=(w.small (by omega) g1).2
    omega
  obtain ⟨bv,hbv⟩ : ∃ bv:V,bv = (match b with | none=>V.none | some x=>.ref (tyN (tix.getD x 0))):=⟨_,rfl⟩
  have hno:∀ j,j < 4 → ∃ n,NoF psQ (fnm i j) bv n:=fun j hj=>by
   cases b with
   | none=>exact ⟨0,by rw [hbv];exact .none⟩
   | some x=>
    obtain ⟨hx,lev',bb,fl',g1,g2,g3⟩:=h6 x rfl
    obtain ⟨d',hd'⟩ : ∃ d',all[x]? = some d':=⟨all[x]'(by exact cb2 hil hx),List.getElem?_eq_getElem (by exact cb2 hil hx)⟩
    cases d' with
    | ptr tg=>obtain ⟨e,_⟩:=w.row hd' g1;cases e
    | rcd b' fs'=>
     obtain ⟨n,hn⟩:=S.noF hK hj x b' fs' (by rw [List.getElem?_take,if_pos hx];exact hd')
     rw [hl] at hn
     exact ⟨n,by rw [hbv];exact hn.mono (fun q r e=>by rw [E.types];exact e) (fun q r e=>by rw [E.objs];exact app_get e)⟩
  obtain ⟨nb,hno⟩:=noF_same hno
  have hb:BaseIs psQ b bv lev s:=by
   cases b with
   | none=>obtain ⟨e1,e2,e3⟩:=h5 rfl;exact ⟨hbv,e1,e2⟩
   | some x=>
    obtain ⟨hx,lev',bb,fl',g1,g2,g3⟩:=h6 x rfl
    obtain ⟨d',hd'⟩ : ∃ d',all[x]? = some d':=⟨all[x]'(by exact cb2 hil hx),List.getElem?_eq_getElem (by exact cb2 hil hx)⟩
    obtain ⟨r',e1,e2,e3,⟨p',e4⟩,e5⟩:=S.nameRec E (by omega) hi hx hd'
    rw [g1] at e1
    cases e1
    cases d' with
    | ptr tg=>obtain ⟨e,_⟩:=w.row hd' g1;cases e
    | rcd b' fs'=>
     obtain ⟨fv,f1,f2⟩:=e5
     exact ⟨_,_,_,_,hbv,e3,e4,rfl,rfl,by rw [E.types];exact f1,rfl,by show (lev' : Int) < 3;omega,by show (lev:Int) = (lev' : Int) + 1;omega,rfl⟩
  intro c σ t Q g rm I h
  refine typeOf_rec (k:=k) (nb:=nb) (lev:=lev) (s:=s) (bv:=bv) hi C E.ok E.kn (by omega) (by omega) ?_ h2 hsm hnm hb ?_ hs hno c σ t Q g rm I fun h' t' psT ti lt P I' F'=>h h' t' psT ti lt ?_ I' F'
  ·obtain ⟨r3,d1,d2,d3⟩:=S.t3
   exact ⟨r3,by rw [E.types];exact d1,d2⟩
  ·intro x hx
   have:=(h6 x hx).1
   exact cb2 hi this
  ·refine ⟨P.ok,P.kn,P.kept,P.cur,P.recs,⟨[],by rw [P.fwd,List.append_nil],by rw [P.nf,List.append_nil],by simp,by simp⟩,?_⟩
   obtain ⟨fv,q1,q2⟩:=P.row
   rw [h4]
   refine ⟨fv,?_,q2⟩
   rw [tixi,q1,hbv]
   cases b with
   | none=>rfl
   | some x=>
    have hx:=(h6 x rfl).1
    show some (⟨_,_,.ref (tyN (tix.getD x 0)),_,_,_,_⟩ : TyR) = some ⟨_,_,.ref (tyN ((tix ++ [ti]).getD x 0)),_,_,_,_⟩
    rw [getD_app (show x < tix.length by rw [S.tl];exact cb2 (eR hl) hx)]
theorem inN_snoc (n:Nat) (f g:Nat → Nat) (o:Nat) (h1:∀ q,q < n → g q = f q) (h2:g n = o):inN n f ++ [(tnm n,o)] = inN (n + 1) g:=by
 unfold inN
 rw [List.range_succ,List.map_append]
 congr 1
 ·exact List.map_congr_left fun q hq=>by rw [h1 q (List.mem_range.mp hq)]
 ·show _ = [(tnm n,g n)];rw [h2]
theorem FD.keep {ps ps' : PS} {fv:List V} {xs:List (Str × Nat)} {fs:List FK} (h:FD ps fv xs fs) (ht:∀ (i:Nat) (r:TyR),ps.types[i]? = some r → ps'.types[i]? = some r) (ho:∀ (i:Nat) (r:ObR),ps.objs[i]? = some r → (r.kind = ("field" : Str)) → ps'.objs[i]? = some r):FD ps' fv xs fs:=by
 induction h with
 | nil=>exact .nil
 | cons a b _ ih=>exact .cons (ho _ _ a rfl) (b.mono fun i r e _=>ht i r e) ih
theorem RowAt.keep {ps ps' : PS} {tix:List Nat} {i:Nat} {d:Dc} {r:Rw} (h:RowAt ps tix i d r) (ht:∀ (i:Nat) (r:TyR),ps.types[i]? = some r → ps'.types[i]? = some r) (ho:∀ (i:Nat) (r:ObR),ps.objs[i]? = some r → (r.kind = ("field" : Str)) → ps'.objs[i]? = some r) (hf:∀ x ∈ ps.fwd,x ∈ ps'.fwd):RowAt ps' tix i d r:=by
 cases d with
 | ptr tg=>
  obtain ⟨b,h1,h2⟩:=h
  exact ⟨b,ht _ _ h1,h2.imp id fun ⟨p,h⟩=>⟨p,hf _ h⟩⟩
 | rcd b fs=>
  cases r with
  | ptr _=>exact h
  | rcd lev bb sz mk fl=>
   obtain ⟨fv,h1,h2⟩:=h
   exact ⟨fv,ht _ _ h1,h2.keep ht ho⟩
theorem td_of {L:H} {k:Nat} {K:List Bool} {all:List Dc} {rows:List Rw} (hK:K.length ≤ 6) (w:WF K all rows):∀ (n i:Nat) (ps:PS) (tix oix:List Nat),i + n = all.length → Sim K ps (all.take i) (rows.take i) tix oix → ps.L = L → AtD ps i (all.drop i) →
  TD (k + 3) "" (fun q=>PAll K all rows q ∧ q.L = L) (nmsD i (all.drop i)) ps
 | 0,i,ps,tix,oix,hn,S,hLL,A=>by
  have hd:all.drop i = []:=List.drop_of_length_le (by exact cb1 (eR hn))
  rw [hd] at A ⊢
  obtain ⟨v,hv⟩:=A
  have hlr:=w.len
  rw [List.take_of_length_le (by exact cb1 (eR hn)),List.take_of_length_le (by exact cb2 (eR hn) (eR hlr))] at S
  exact ⟨⟨_,v,hv,by decide +kernel⟩,⟨⟨tix,oix,S⟩,v,hv⟩,hLL⟩
 | n + 1,i,ps,tix,oix,hn,S,hLL,A=>by
  have hle:=w.le
  have hlr:=w.len
  have hil:i < all.length:=by exact cb1 (eL hn)
  have hi:i < 6:=by exact cb3 hK (eL hn) hle
  obtain ⟨d,hd⟩ : ∃ d,all[i]? = some d:=⟨all[i],List.getElem?_eq_getElem hil⟩
  obtain ⟨r,hr⟩ : ∃ r,rows[i]? = some r:=⟨rows[i]'(by exact cb2 (eL hn) (eL hlr)),List.getElem?_eq_getElem (by exact cb2 (eL hn) (eL hlr))⟩
  have edrop:all.drop i = d :: all.drop (i + 1):=by
   rw [List.drop_eq_getElem_cons hil]
   congr 1
   rw [List.getElem?_eq_getElem hil] at hd
   exact Option.some.inj hd
  have etake:all.take (i + 1) = all.take i ++ [d]:=by rw [List.take_add_one,hd];rfl
  have etake' : rows.take (i + 1) = rows.take i ++ [r]:=by rw [List.take_add_one,hr];rfl
  have hl:(all.take i).length = i:=by rw [List.length_take];exact mi1 hil
  obtain ⟨rest,hrest⟩ : ∃ rest,rest = atDs (i + 1) (all.drop (i + 1)):=⟨_,rfl⟩
  rw [edrop] at A ⊢
  have A' : Cur ps (atD i d ++ rest) varT:=by rw [hrest];exact A
  obtain ⟨X,hX⟩ : ∃ X,atD i d ++ rest = (true,tW i) :: (true,.s 61) :: X:=by cases d <;> exact ⟨_,rfl⟩
  obtain ⟨b2,a2,X',hX'⟩ : ∃ b2 a2 X',X = (b2,a2) :: X':=by
   cases d with
   | ptr tg=>injection hX with _ h;injection h with _ h;exact ⟨_,_,_,h.symm⟩
   | rcd b fs=>injection hX with _ h;injection h with _ h;exact ⟨_,_,_,h.symm⟩
  rw [hX] at A'
  obtain ⟨ps1,p1,pl1,n1,C1,e1⟩:=A'.next
  have ht:ps.tok "ident" (.str (tnm i)):=by
   have:=A'.tok
   rw [tW_k i (by omega),tW_v i (by omega)] at this;exact this
  have ok1:=n1.ok S.ok
  have es1:ps1.scs = [⟨-1,(nm7 ++ stdA).zipIdx⟩] ++ [⟨0,inN i fun q=>oix.getD q 0⟩]:=by
   rw [e1];show ps.scs = _;rw [S.scs,hl];rfl
  have eo1:ps1.objs = ps.objs:=by rw [e1];rfl
  have et1:ps1.types = ps.types:=by rw [e1];rfl
  have el1:ps1.lvl = ps.lvl:=by rw [e1];rfl
  obtain ⟨lb1,lb2,lb3,lb4,lb5,lb6⟩:=lbl_ok i hi 0 (by decide)
  refine ⟨ht,_,ps1,_,_,n1,es1,by decide,?_,?_,?_,fun p=>?_⟩
  ·show lookN (tnm i) (inN i _) = none
   rw [look_in (by omega) _ (by omega),if_neg (by exact fun q=>cf1 q)]
  ·show (inN i _).length ≤ 1000
   unfold inN;simp;omega
  ·have:("" : Str).length = 0:=by decide +kernel
   rw [this];exact cb1 lb5
  ·obtain ⟨pse,hpse⟩ : ∃ pse,pse = ps1.ent [⟨-1,(nm7 ++ stdA).zipIdx⟩] ⟨0,inN i fun q=>oix.getD q 0⟩ (decO ps1 (tnm i) p):=⟨_,rfl⟩
   rw [← hpse]
   have Ce:Cur pse ((true,.s 61) :: (b2,a2) :: X') varT:=by rw [hpse,← hX'];exact ⟨C1.ex⟩
   have oke:pse.Ok:=by rw [hpse];exact ⟨ok1.small,ok1.cur⟩
   obtain ⟨ps2,p2,pl2,n2,C2,e2⟩:=Ce.next
   rw [← hX'] at C2
   have E:DecQ K ps ps2 i tix oix p:=by
    refine ⟨n2.ok oke,?_,?_,?_,?_,?_,?_,?_,?_,?_⟩
    ·have:ps1.Kn:=by rw [e1];exact ⟨S.kn.kn,S.kn.le⟩
     rw [e2,hpse];exact ⟨this.kn,this.le⟩
    ·rw [e2,hpse];exact et1
    ·rw [e2,hpse];show ps1.objs ++ [decO ps1 (tnm i) p] = _;rw [eo1];show _ ++ [(⟨_,_,_,_,_,lvl0 ps1.lvl,_,_⟩ : ObR)] = _;rw [el1]
    ·rw [e2,hpse]
     show [_] ++ [(⟨0,(inN i fun q=>oix.getD q 0) ++ [(tnm i,ps1.objs.length)]⟩ : ScR)] = _
     have hoi:(oix ++ [ps.objs.length]).getD i 0 = ps1.objs.length:=by
      have:i = oix.length:=by rw [S.ol,hl]
      rw [eo1,this];exact getD_last
     rw [inN_snoc i _ (fun q=>(oix ++ [ps.objs.length]).getD q 0) _ (fun q hq=>getD_app (by rw [S.ol];exact cb2 (eR hl) hq)) hoi]
     rfl
    ·rw [e2,hpse,e1];rfl
    ·rw [e2,hpse,e1];rfl
    ·rw [e2,hpse,e1];rfl
    ·rw [e2,hpse,e1];rfl
    ·rw [e2,hpse,e1];rfl
   refine ⟨_,_,ps2,DecT ps2 i d r tix rest,n2,?_,?_⟩
   ·rw [str_nil]
    exact dec_type hK w hd hr S E C2 hX
   ·rintro psT ti D
    have eo2:ps2.objs[ps1.objs.length]? = some (decO ps1 (tnm i) p):=by
     rw [E.objs,eo1,List.getElem?_concat_length];show some (⟨_,_,_,_,_,lvl0 ps.lvl,_,_⟩ : ObR) = some ⟨_,_,_,_,_,lvl0 ps1.lvl,_,_⟩;rw [el1]
    have eoT:psT.objs[ps1.objs.length]? = some (decO ps1 (tnm i) p):=D.kept.objs _ _ eo2
    obtain ⟨psS,hpsS⟩ : ∃ psS,psS = psT.setO ps1.objs.length { decO ps1 (tnm i) p with type:=.ref (tyN ti) }:=⟨_,rfl⟩
    rw [← hpsS]
    have CS:Cur psS ((false,.s 59) :: rest) varT:=by rw [hpsS];exact ⟨D.cur.ex⟩
    have okS:psS.Ok:=by rw [hpsS];exact ⟨D.ok.small,D.ok.cur⟩
    refine ⟨D.ok,eoT,⟨_,CS.tok⟩,?_⟩
    have nxt:∃ k3 v3 ps3 p3 pl3,psS.Next k3 v3 ps3 ∧ AtD ps3 (i + 1) (all.drop (i + 1)) ∧ ps3 = psS.adv k3 v3 p3 pl3:=by
     cases hdr:all.drop (i + 1) with
     | nil=>
      rw [hdr] at hrest
      have hr0:rest = []:=hrest
      rw [hr0] at CS
      obtain ⟨ps3,p3,pl3,n3,t3,e3⟩:=CS.last (a:=86) (w:=[65,82]) (by decide +kernel) (by decide +kernel)
      refine ⟨_,_,ps3,p3,pl3,n3,⟨_,t3⟩,e3⟩
     | cons d' r'=>
      rw [hdr] at hrest
      obtain ⟨b3,a3,X3,hX3⟩ : ∃ b3 a3 X3,rest = (b3,a3) :: X3:=by
       rw [hrest];cases d' <;> exact ⟨_,_,_,rfl⟩
      rw [hX3] at CS
      obtain ⟨ps3,p3,pl3,n3,C3,e3⟩:=CS.next
      rw [← hX3,hrest] at C3
      exact ⟨_,_,ps3,p3,pl3,n3,C3,e3⟩
    obtain ⟨k3,v3,ps3,p3,pl3,n3,A3,e3⟩:=nxt
    refine ⟨k3,v3,ps3,n3,?_⟩
    have et3:ps3.types = psT.types:=by rw [e3,hpsS];rfl
    have eo3:∀ q,ps3.objs[q]? = if q = ps1.objs.length then some { decO ps1 (tnm i) p with type:=.ref (tyN ti) } else psT.objs[q]?:=fun q=>by
     rw [e3,hpsS];exact set_get _ _ _ _ (getl eoT)
    have ktp:∀ (q:Nat) (r:TyR),ps.types[q]? = some r → ps3.types[q]? = some r:=fun q r h=>by rw [et3];exact D.kept.types _ _ (by rw [E.types];exact h)
    have kob:∀ (q:Nat) (r:ObR),ps.objs[q]? = some r → ps3.objs[q]? = some r:=fun q r h=>by
     rw [eo3,if_neg (by have:=getl h;rw [eo1];exact fun q=>cf2 (eR q) this)]
     exact D.kept.objs _ _ (by rw [E.objs];exact app_get h)
    have ef3:ps3.fwd = psT.fwd:=by rw [e3,hpsS];rfl
    obtain ⟨nfw,w1,w2,w3,w4⟩:=D.fwd
    have tixg:∀ x,x < i → (tix ++ [ti]).getD x 0 = tix.getD x 0:=fun x hx=>getD_app (by rw [S.tl];exact cb2 (eR hl) hx)
    have tixi:(tix ++ [ti]).getD i 0 = ti:=by
     have:i = tix.length:=by rw [S.tl,hl]
     rw [this];exact getD_last
    have oixi:(oix ++ [ps1.objs.length]).getD i 0 = ps1.objs.length:=by
     have:i = oix.length:=by rw [S.ol,hl]
     rw [this];exact getD_last
    have hlt:(all.take (i + 1)).length = i + 1:=by rw [List.length_take];exact Nat.min_eq_left (cb1 (eL hn))
    have S3:Sim K ps3 (all.take (i + 1)) (rows.take (i + 1)) (tix ++ [ti]) (oix ++ [ps1.objs.length]):=by
     refine ⟨w.take _,n3.ok okS,?_,by rw [List.length_append,S.tl,hl,hlt];rfl,by rw [List.length_append,S.ol,hl,hlt];rfl,?_,?_,?_,?_,?_,?_,?_,?_,?_,?_,?_,?_,?_⟩
     ·rw [e3,hpsS];exact ⟨D.kn.kn,D.kn.le⟩
     ·rw [e3,hpsS,hlt]
      show psT.keys.length ≤ _
      have q1:=D.kept.keys
      have q2:=S.keys
      rw [E.keys] at q1
      rw [hl] at q2
      exact cb2 q1 q2
     ·rw [hlt]
      have:ps3.recs = psT.recs:=by rw [e3,hpsS];rfl
      rw [this,D.recs,E.recs,S.recs,hl,List.range_succ,List.filter_append,List.map_append]
      congr 1
      ·exact List.map_congr_left fun q hq=>by
        rw [tixg q (List.mem_range.mp (List.mem_filter.mp hq).1)]
      ·have ro:=w.row hd hr
       cases d with
       | ptr tg=>
        obtain ⟨_,g1,_⟩:=ro
        simp [List.getD_eq_getElem?_getD,g1]
       | rcd b fs=>
        have g1:=ro.1
        have:K.getD i false = true:=by rw [List.getD_eq_getElem?_getD,g1];rfl
        have e1:List.filter (fun i=>K.getD i false) [i] = [i]:=by rw [List.filter_cons_of_pos (by exact this),List.filter_nil]
        rw [e1]
        show _ = [V.ref (tyN ((tix ++ [ti]).getD i 0))]
        rw [tixi]
     ·rw [ef3,e3,hpsS]
      show psT.fwd = psT.nf
      rw [w1,w2,E.fwd,E.nf,S.fwd]
     ·rw [ef3,w1,E.fwd,List.length_append,hlt]
      have:=S.fl
      rw [hl] at this
      exact cb2 w3 this
     ·intro x hx
      rw [ef3,w1,E.fwd] at hx
      rcases List.mem_append.mp hx with hx | hx
      ·obtain ⟨i',tg,p',hx1,hx2⟩:=S.fr x hx
       have hi':=getl hx2
       refine ⟨i',tg,p',by rw [tixg i' (by exact cb2 (eL hl) hi')];exact hx1,by rw [etake];exact app_get hx2⟩
      ·obtain ⟨tg,p',hx1,hx2⟩:=w4 x hx
       refine ⟨i,tg,p',by rw [tixi];exact hx1,?_⟩
       rw [etake]
       have:(all.take i ++ [d])[(all.take i).length]? = some d:=List.getElem?_concat_length
       rw [hl] at this
       rw [this,hx2]
     ·have:ps3.lvl = psT.lvl:=by rw [e3,hpsS];rfl
      rw [this,D.kept.lvl,E.lvl,S.lvl]
     ·have:ps3.scs = psT.scs:=by rw [e3,hpsS];rfl
      rw [this,D.kept.scs,E.scs,hlt,eo1]
     ·obtain ⟨r,a,b,c⟩:=S.t3;exact ⟨r,ktp _ _ a,b,c⟩
     ·obtain ⟨r,a,b,c⟩:=S.t1;exact ⟨r,ktp _ _ a,b,c⟩
     ·obtain ⟨r,a,b,c⟩:=S.o1;exact ⟨r,kob _ _ a,b,c⟩
     ·obtain ⟨r,a,b,c⟩:=S.o3;exact ⟨r,kob _ _ a,b,c⟩
     ·intro q hq
      rw [hlt] at hq
      by_cases h:q < i
      ·obtain ⟨p',hp'⟩:=S.obj q (by exact cb2 (eR hl) h)
       exact ⟨p',by rw [tixg q h,getD_app (show q < oix.length by rw [S.ol];exact cb2 (eR hl) h)];exact kob _ _ hp'⟩
      ·have:q = i:=Nat.le_antisymm (Nat.le_of_lt_succ hq) (Nat.not_lt.mp h)
       subst this
       refine ⟨p,?_⟩
       rw [tixi,oixi,eo3,if_pos rfl]
       show some (⟨_,_,_,_,_,lvl0 ps1.lvl,_,_⟩ : ObR) = _
       rw [el1,S.lvl];rfl
     ·intro q dq rq hdq hrq
      have hq:=getl hdq
      rw [hlt] at hq
      by_cases h:q < i
      ·rw [etake,List.getElem?_append_left (by exact cb2 (eR hl) h)] at hdq
       rw [etake',List.getElem?_append_left (by rw [List.length_take];exact Nat.lt_min.mpr ⟨h,cb3 h (eL hn) (eL hlr)⟩)] at hrq
       refine (S.row q dq rq hdq hrq).mono (by rw [S.tl];exact cb2 (eR hl) h) ?_ ktp (fun q r h _=>kob q r h) (fun x hx=>by rw [ef3,w1,E.fwd];exact List.mem_append_left _ hx)
       intro b fs x e1' e2'
       subst e1' e2'
       have ro:=S.wf.row hdq hrq
       obtain ⟨_,_,_,_,_,_,_,_,h6⟩:=ro
       have:=(h6 x rfl).1
       rw [S.tl];exact cb3 this h (eR hl)
      ·have eqi:q = i:=Nat.le_antisymm (Nat.le_of_lt_succ hq) (Nat.not_lt.mp h)
       subst eqi
       have e1' : dq = d:=by
        have:(all.take (q + 1))[q]? = some d:=by rw [List.getElem?_take,if_pos (by omega)];exact hd
        rw [this] at hdq;exact (Option.some.inj hdq).symm
       have e2' : rq = r:=by
        have:(rows.take (q + 1))[q]? = some r:=by rw [List.getElem?_take,if_pos (by omega)];exact hr
        rw [this] at hrq;exact (Option.some.inj hrq).symm
       subst e1' e2'
       refine D.row.keep (fun q r h=>by rw [et3];exact h) (fun q r h hk=>?_) (fun x hx=>by rw [ef3];exact hx)
       rw [eo3]
       by_cases hq:q = ps1.objs.length
       ·subst hq
        rw [eoT] at h
        cases h
        exact absurd (show ("type" : Str) = "field" from hk) (by decide +kernel)
       ·rw [if_neg hq];exact h
    exact td_of hK w n (i + 1) ps3 _ _ (by exact ce1 hn) S3 (by rw [e3,hpsS];show psT.L = L;rw [D.kept.L,e2,hpse,e1];exact hLL) A3
structure Fin (K:List Bool) (ps:PS) (all:List Dc) (rows:List Rw) (tix oix:List Nat):Prop where
 tl:tix.length = all.length
 ol:oix.length = all.length
 recs:ps.recs = ((List.range all.length).filter (fun i=>K.getD i false)).map (fun i=>V.ref (tyN (tix.getD i 0)))
 scs:ps.scs = scsP all.length (fun i=>oix.getD i 0)
 fwd:ps.fwd = []
 tok:∃ v,ps.tok "VAR" v
 obj:∀ i,i < all.length → ∃ p,ps.objs[oix.getD i 0]? = some ⟨tnm i, "type",.ref (tyN (tix.getD i 0)),p,false,0,.none,0⟩
 row:∀ (i:Nat) (d:Dc) (r:Rw),all[i]? = some d → rows[i]? = some r → RowAt ps tix i d r
theorem rf_of {K:List Bool} {all:List Dc} {rows:List Rw} {tix oix:List Nat} (hK:K.length ≤ 6) (w:WF K all rows) (tl:tix.length = all.length) :
  ∀ (l:List (V × Str × Int)) (ps:PS),ps.scs = scsP all.length (fun i=>oix.getD i 0) → (∀ i,i < all.length → ∃ p,ps.objs[oix.getD i 0]? = some ⟨tnm i, "type",.ref (tyN (tix.getD i 0)),p,false,0,.none,0⟩) →
   (∀ x ∈ l,∃ i tg p,x = (V.ref (tyN (tix.getD i 0)),tnm tg,p) ∧ all[i]? = some (.ptr tg)) → (∀ (i:Nat) (d:Dc) (r:Rw),all[i]? = some d → rows[i]? = some r → RowAt { ps with fwd:=l } tix i d r) → (hnp:all.length = K.length) →
   ∃ ps',RF ps l ps' ∧ ps'.objs = ps.objs ∧ ps'.scs = ps.scs ∧ ps'.recs = ps.recs ∧ ps'.toks = ps.toks ∧ ps'.cur = ps.cur ∧ (∀ (i:Nat) (d:Dc) (r:Rw),all[i]? = some d → rows[i]? = some r → RowAt { ps' with fwd:=[] } tix i d r)
 | [],ps,hs,ho,hl,hr,hnp=>⟨ps,.nil,rfl,rfl,rfl,rfl,rfl,hr⟩
 | x :: l,ps,hs,ho,hl,hr,hnp=>by
  have hle:=w.le
  have hlr:=w.len
  obtain ⟨i,tg,p,rfl,hi⟩:=hl _ (.head _)
  have hil:=getl hi
  obtain ⟨r,hri⟩ : ∃ r,rows[i]? = some r:=⟨rows[i]'(by exact cb2 (eL hlr) hil),List.getElem?_eq_getElem (by exact cb2 (eL hlr) hil)⟩
  obtain ⟨e1,e2,e3⟩:=w.row hi hri
  have htg:=getl e3
  obtain ⟨b,hb,_⟩:=hr i _ _ hi hri
  have hb' : ps.types[tix.getD i 0]? = some ⟨"pointer",4,.ref (tyN b),0,[],0,tnm i⟩:=hb
  obtain ⟨d2,hd2⟩ : ∃ d2,all[tg]? = some d2:=⟨all[tg]'(by exact cb2 (eR hnp) htg),List.getElem?_eq_getElem (by exact cb2 (eR hnp) htg)⟩
  obtain ⟨r2,hr2⟩ : ∃ r2,rows[tg]? = some r2:=⟨rows[tg]'(by exact cb3 (eR hnp) (eL hlr) htg),List.getElem?_eq_getElem (by exact cb3 (eR hnp) (eL hlr) htg)⟩
  obtain ⟨q,hq⟩:=ho tg (by exact cb2 (eR hnp) htg)
  have hf:ps.find (tnm tg) = some (oix.getD tg 0):=by rw [find_t hs (by omega) (by omega),if_pos (by exact cb2 (eR hnp) htg)]
  have hrec:∃ tr,ps.types[tix.getD tg 0]? = some tr ∧ tr.form = ("record" : Str):=by
   have ra:=hr tg d2 r2 hd2 hr2
   cases d2 with
   | ptr t'=>obtain ⟨_,e,_⟩:=w.row hd2 hr2;rw [e3] at e;cases e
   | rcd bb fs=>
    cases r2 with
    | ptr _=>exact ra.elim
    | rcd lev bb' sz mk fl=>obtain ⟨fv,g1,_⟩:=ra;exact ⟨_,g1,rfl⟩
  obtain ⟨tr,htr,hform⟩:=hrec
  have inj:∀ (i' : Nat) (d' : Dc) (r' : Rw),all[i']? = some d' → rows[i']? = some r' → tix.getD i' 0 = tix.getD i 0 → i' = i:=fun i' d' r' h1 h2 e=>by
   have hi':=getl h1
   have lab:∃ r0,ps.types[tix.getD i' 0]? = some r0 ∧ r0.label = tnm i':=by
    have ra:=hr i' d' r' h1 h2
    cases d' with
    | ptr t'=>obtain ⟨b',g,_⟩:=ra;exact ⟨_,g,rfl⟩
    | rcd bb fs=>
     cases r' with
     | ptr _=>exact ra.elim
     | rcd lev bb' sz mk fl=>obtain ⟨fv,g1,_⟩:=ra;exact ⟨_,g1,rfl⟩
   obtain ⟨r0,g1,g2⟩:=lab
   rw [e,hb'] at g1
   cases g1
   by_cases h:i' = i
   ·exact h
   ·exact absurd g2 (tnm_ne (by exact cb3 hK (eL hnp) hil) (by exact cb3 hK (eL hnp) hi') (Ne.symm h))
  have tset:∀ q,(ps.setT (tix.getD i 0) ⟨"pointer",4,.ref (tyN (tix.getD tg 0)),0,[],0,tnm i⟩).types[q]? = if q = tix.getD i 0 then some ⟨"pointer",4,.ref (tyN (tix.getD tg 0)),0,[],0,tnm i⟩ else ps.types[q]?:=fun q=>set_get _ _ _ _ (getl hb')
  obtain ⟨ps',c1,c2,c3,c4,c5,c6,c7⟩:=rf_of hK w tl l (ps.setT (tix.getD i 0) ⟨"pointer",4,.ref (tyN (tix.getD tg 0)),0,[],0,tnm i⟩) hs ho (fun x hx=>hl x (.tail _ hx)) (fun i' d' r' h1 h2=>by
   by_cases e:i' = i
   ·subst e
    rw [hi] at h1;cases h1
    refine ⟨tix.getD tg 0,?_,.inl ⟨by rw [tl];exact cb2 (eR hnp) htg,rfl⟩⟩
    show (ps.setT _ _).types[_]? = _
    rw [tset,if_pos rfl]
   ·have ne:tix.getD i' 0 ≠ tix.getD i 0:=fun q=>e (inj i' d' r' h1 h2 q)
    have ra:=hr i' d' r' h1 h2
    cases d' with
    | ptr t'=>
     obtain ⟨b',g1,g2⟩:=ra
     refine ⟨b',?_,?_⟩
     ·show (ps.setT _ _).types[_]? = _
      rw [tset,if_neg ne];exact g1
     ·rcases g2 with g2 | ⟨p',g2⟩
      ·exact .inl g2
      ·refine .inr ⟨p',?_⟩
       rcases List.mem_cons.mp g2 with g | g
       ·exfalso
        injection g with g _
        injection g with g
        injection g with _ g
        injection g with g _
        exact ne g
       ·exact g
    | rcd bb fs=>
     cases r' with
     | ptr _=>exact ra
     | rcd lev bb' sz mk fl=>
      obtain ⟨fv,g1,g2⟩:=ra
      refine ⟨fv,?_,?_⟩
      ·show (ps.setT _ _).types[_]? = _
       rw [tset,if_neg ne];exact g1
      ·have:∀ {fv fl fs},FD { ps with fwd:=(V.ref (tyN (tix.getD i 0)),tnm tg,p) :: l } fv fl fs → FD { (ps.setT (tix.getD i 0) ⟨"pointer",4,.ref (tyN (tix.getD tg 0)),0,[],0,tnm i⟩) with fwd:=l } fv fl fs:=fun {fv fl fs} h=>by
        induction h with
        | nil=>exact .nil
        | cons a b _ ih=>
         refine .cons a (b.same fun q r e _=>?_) ih
         by_cases hq:q = tix.getD i 0
         ·subst hq
          have e' : ps.types[tix.getD i 0]? = some r:=e
          rw [hb'] at e'
          cases e'
          exact ⟨⟨"pointer",4,.ref (tyN (tix.getD tg 0)),0,[],0,tnm i⟩,by show (ps.setT _ _).types[_]? = _;rw [tset,if_pos rfl],rfl,rfl,rfl,fun q=>absurd (show ("pointer" : Str) = "array" from q) (by decide +kernel)⟩
         ·exact ⟨r,by show (ps.setT _ _).types[_]? = _;rw [tset,if_neg hq];exact e,rfl,rfl,rfl,fun _=>rfl⟩
       exact this g2) hnp
  exact ⟨ps',.cons hf hq rfl rfl htr hform hb' c1,c2,c3,c4,c5,c6,c7⟩
theorem RF.L_eq {ps ps' : PS} {l:List (V × Str × Int)} (h:RF ps l ps'):ps'.L = ps.L:=by
 induction h with
 | nil=>rfl
 | cons _ _ _ _ _ _ _ _ ih=>exact ih
theorem fin_of {K:List Bool} {all:List Dc} {rows:List Rw} {ps:PS} (hK:K.length ≤ 6) (hn:all.length = K.length) (h:PAll K all rows ps):ps.fwd = ps.nf ∧ ps.fwd.length ≤ 1000 ∧ ∃ ps',RF ps ps.fwd ps' ∧ ∃ tix oix,Fin K { ps' with fwd:=[] } all rows tix oix:=by
 obtain ⟨⟨tix,oix,S⟩,v,hv⟩:=h
 have hle:=S.wf.le
 obtain ⟨ps',c1,c2,c3,c4,c5,c6,c7⟩:=rf_of hK S.wf S.tl ps.fwd ps S.scs S.obj S.fr S.row hn
 refine ⟨S.fwd,by have:=S.fl;exact cb3 hK (eL hn) this,ps',c1,tix,oix,S.tl,S.ol,c4.trans S.recs,c3.trans S.scs,rfl,⟨v,?_⟩,?_,c7⟩
 ·obtain ⟨r,h1,h2,h3⟩:=hv
  refine ⟨r,?_,h2,h3⟩
  show ps'.toks[ps'.cur]? = _
  rw [c5,c6];exact h1
 ·intro i hi
  obtain ⟨p,hp⟩:=S.obj i hi
  exact ⟨p,by show ps'.objs[_]? = _;rw [c2];exact hp⟩
noncomputable def Asc (l:List Int) (lo hi:Int):Prop:=l.Pairwise (· < ·) ∧ ∀ x ∈ l,lo ≤ x ∧ x < hi
theorem Asc.app {l m:List Int} {a b c:Int} (h:Asc l a b) (h' : Asc m b c) (h1:a ≤ b) (h2:b ≤ c):Asc (l ++ m) a c:=by
 refine ⟨List.pairwise_append.mpr ⟨h.1,h'.1,fun x hx y hy=>?_⟩,fun x hx=>?_⟩
 ·have:=(h.2 x hx).2;have:=(h'.2 y hy).1;omega
 ·rcases List.mem_append.mp hx with q | q
  ·have:=h.2 x q;omega
  ·have:=h'.2 x q;omega
theorem Asc.shift {l:List Int} {a b:Int} (h:Asc l a b) (k:Int):Asc (l.map fun x=>k + x) (k + a) (k + b):=by
 refine ⟨List.pairwise_map.mpr (h.1.imp fun q=>by omega),fun x hx=>?_⟩
 obtain ⟨y,hy,rfl⟩:=List.mem_map.mp hx
 have:=h.2 y hy
 omega
theorem FK.asc (f:FK) (h:f.sm):Asc f.inner 0 f.size ∧ f.inner.length ≤ 3:=by
 cases f with
 | ptr k=>exact ⟨⟨by simp [FK.inner],by intro x hx;rw [List.mem_singleton.mp hx];show (0:Int) ≤ 0 ∧ (0:Int) < 4;decide⟩,by simp [FK.inner]⟩
 | int=>exact ⟨⟨List.Pairwise.nil,by simp [FK.inner]⟩,by simp [FK.inner]⟩
 | chr=>exact ⟨⟨List.Pairwise.nil,by simp [FK.inner]⟩,by simp [FK.inner]⟩
 | achr m=>exact ⟨⟨List.Pairwise.nil,by simp [FK.inner]⟩,by simp [FK.inner]⟩
 | aptr m k=>
  refine ⟨⟨?_,fun x hx=>?_⟩,?_⟩
  ·exact List.pairwise_map.mpr (List.pairwise_lt_range.imp fun q=>by omega)
  ·obtain ⟨q,hq,rfl⟩:=List.mem_map.mp hx
   rw [List.mem_range] at hq
   show (0:Int) ≤ 4 * (q:Int) ∧ 4 * (q:Int) < ((4 * m:Nat):Int)
   omega
  ·show ((List.range m).map _).length ≤ 3
   rw [List.length_map,List.length_range];exact h.2.1
theorem layF_asc (i:Nat):∀ (fs:List FK) (j s:Nat),(∀ f ∈ fs,f.sm) → Asc (layF i j s fs).1 s (layF i j s fs).2.2 ∧ (layF i j s fs).1.length ≤ 3 * fs.length
 | [],_,_,_=>⟨⟨List.Pairwise.nil,by intro x hx;cases hx⟩,by simp [layF]⟩
 | f :: r,j,s,h=>by
  obtain ⟨z1,z2,z3⟩:=f.size_le (h f (.head _))
  obtain ⟨u1,u2,u3⟩:=up_le s f.unit z3
  obtain ⟨a,al⟩:=f.asc (h f (.head _))
  obtain ⟨ih,il⟩:=layF_asc i r (j + 1) (up s f.unit + f.size) fun x hx=>h x (.tail _ hx)
  have le:=layF_le i r (j + 1) (up s f.unit + f.size) fun x hx=>h x (.tail _ hx)
  have a':=a.shift ((up s f.unit:Nat):Int)
  refine ⟨?_,?_⟩
  ·show Asc ((f.inner.map fun x=>((up s f.unit:Nat):Int) + x) ++ (layF i (j + 1) (up s f.unit + f.size) r).1) s (layF i (j + 1) (up s f.unit + f.size) r).2.2
   have a2:Asc (f.inner.map fun x=>((up s f.unit:Nat):Int) + x) s ((up s f.unit + f.size:Nat):Int):=⟨a'.1,fun x hx=>⟨Int.le_trans (Int.ofNat_le.mpr u1) (Int.le_trans (Int.le_of_eq (Int.add_zero _).symm) (a'.2 x hx).1),(a'.2 x hx).2⟩⟩
   exact a2.app ih (Int.ofNat_le.mpr (Nat.le_trans u1 (Nat.le_add_right _ _))) (Int.ofNat_le.mpr le.1)
  ·show ((f.inner.map _) ++ _).length ≤ _
   rw [List.length_append,List.length_map]
   simp only [List.length_cons]
   exact cb2 al il
theorem WF.marks {K:List Bool} {ds:List Dc} {rs:List Rw} (h:WF K ds rs) (hK:K.length ≤ 60):∀ {i lev sz:Nat} {b:Option Nat} {m:List Int} {fl:List (Str × Nat)},rs[i]? = some (.rcd lev b sz m fl) → Asc m 0 sz ∧ m.length ≤ 9 * (lev + 1):=by
 intro i
 induction i using Nat.strongRecOn with
 | _ i ih=>
  intro lev sz b m fl hr
  have hl:=h.len
  have hle:=h.le
  have hi:=getl hr
  obtain ⟨d,hd⟩ : ∃ d,ds[i]? = some d:=⟨ds[i],List.getElem?_eq_getElem (by exact cb2 (eR hl) hi)⟩
  have ro:=h.row hd hr
  cases d with
  | ptr tg=>obtain ⟨e,_⟩:=ro;cases e
  | rcd b' fs=>
   obtain ⟨h1,h2,h3,lev',s,m',h4,h5,h6⟩:=ro
   have hsm:∀ f ∈ fs,f.sm:=fun f hf=>FK.ok_sm (h3 f hf) (by exact cb4 hK (eR hl) hle hi)
   have lle:=layF_le i fs 0 s hsm
   have uu:=up_le (layF i 0 s fs).2.2 4 (.inr rfl)
   obtain ⟨la,ll⟩:=layF_asc i fs 0 s hsm
   unfold rowR at h4
   cases h4
   have bas:Asc m' 0 s ∧ m'.length ≤ 9 * lev:=by
    cases b with
    | none=>
     obtain ⟨rfl,rfl,rfl⟩:=h5 rfl
     exact ⟨⟨List.Pairwise.nil,by intro x hx;cases hx⟩,by simp⟩
    | some x=>
     obtain ⟨hx,lev2,bb,fl',g1,rfl,g2⟩:=h6 x rfl
     exact ih x hx g1
   have e:=bas.1.app la (by omega) (by omega)
   refine ⟨⟨e.1,fun x hx=>⟨(e.2 x hx).1,Int.lt_of_lt_of_le (e.2 x hx).2 (Int.ofNat_le.mpr (Nat.le_trans uu.1 (Nat.le_max_right _ _)))⟩⟩,?_⟩
   rw [List.length_append]
   exact cb5 h2 h2 h2 ll bas.2
theorem ddA_asc:∀ (l acc:List Int),(acc ++ l).Pairwise (· < ·) → ddA acc l = acc ++ l
 | [],acc,_=>by simp [ddA]
 | x :: r,acc,h=>by
  unfold ddA
  rw [if_neg]
  ·rw [ddA_asc r (acc ++ [x]) (by simpa using h)];simp
  ·intro q
   have hm:x ∈ acc:=List.mem_of_getLast? q
   have:=(List.pairwise_append.mp h).2.2 x hm x (.head _)
   omega
theorem dd_eq {ys mk:List Int} (hp:ys.Perm mk) (hs:ys.Pairwise (· ≤ ·)) (hm:mk.Pairwise (· < ·)):ddA [] ys = mk:=by
 have e:ys = mk:=List.Perm.eq_of_pairwise (fun a b _ _ h1 h2=>Int.le_antisymm h1 h2) hs (hm.imp fun h=>Int.le_of_lt h) hp
 rw [e];exact ddA_asc mk [] hm
theorem rp_of {K:List Bool} {ps:PS} {all:List Dc} {rows:List Rw} {tix oix:List Nat} (w:WF K all rows) (hK:K.length ≤ 6) (F:Fin K ps all rows tix oix):∀ {i lev sz:Nat} {b:Option Nat} {m:List Int} {fl:List (Str × Nat)},rows[i]? = some (.rcd lev b sz m fl) → ∃ n l,RP ps n (.ref (tyN (tix.getD i 0))) l ∧ l.Perm m:=by
 intro i
 induction i using Nat.strongRecOn with
 | _ i ih=>
  intro lev sz b m fl hr
  have hl:=w.len
  have hle:=w.le
  have hi:=getl hr
  obtain ⟨d,hd⟩ : ∃ d,all[i]? = some d:=⟨all[i],List.getElem?_eq_getElem (by exact cb2 (eR hl) hi)⟩
  have ro:=w.row hd hr
  have ra:=F.row i d _ hd hr
  cases d with
  | ptr tg=>obtain ⟨e,_⟩:=ro;cases e
  | rcd b' fs=>
   obtain ⟨h1,h2,h3,lev',s,m',h4,h5,h6⟩:=ro
   have hsm:∀ f ∈ fs,f.sm:=fun f hf=>FK.ok_sm (h3 f hf) (by exact cb4 hK (eR hl) hle hi)
   unfold rowR at h4
   cases h4
   obtain ⟨fv,g1,g2⟩:=ra
   have fp:=g2.fp hsm
   cases b with
   | none=>
    obtain ⟨rfl,rfl,rfl⟩:=h5 rfl
    refine ⟨1,_,.some g1 fp .none,?_⟩
    simp
   | some x=>
    obtain ⟨hx,lev2,bb,fl',q1,rfl,q2⟩:=h6 x rfl
    obtain ⟨n,l,r1,r2⟩:=ih x hx q1
    exact ⟨n + 1,_,.some g1 fp r1,(List.perm_append_comm).trans (r2.append_right _)⟩
structure Src (hs:Nat → H) (n it:Nm) (N:Nat) (val:Nat → V) (src:Nat → O):Prop where
 ne:n ≠ it
 nx:∀ (c' : Cx),c'.Ok → ∀ (vs:Str → Option V) (a:Nat) (o:O) (Q:Option V → St → Prop),(a < N → Q (some (val a)) ⟨vs,((hs a).set it (src (a + 1))).set n o⟩) → (N ≤ a → Q none ⟨vs,((hs a).set it .dead).set n o⟩) → mNext c' it Q ⟨vs,((hs a).set it (src a)).set n o⟩
 self:∀ (c' : Cx),c'.Ok → ∀ (vs:Str → Option V) (a:Nat) (o:O) (Q:V → St → Prop),Q (.ref it) ⟨vs,((hs a).set it (src a)).set n o⟩ → MW1 c' RVal (.ref it) pyIter Q ⟨vs,((hs a).set it (src a)).set n o⟩
theorem Src.list {hs:Nat → H} {n it l:Nm} {xs:List V} (ne:n ≠ it) (hl:∀ a,hs a l = some (.list xs)) (h1:l ≠ n) (h2:l ≠ it):Src hs n it xs.length (fun a=>xs.getD a .none) (fun a=>.raw "list_iterator" [.v (.ref l),.ri (a:Nat)]):=by
 have eI:∀ a o (x:O),(((hs a).set it x).set n o) it = some x:=fun a o x=>(H.set_ne _ _ (Ne.symm ne)).trans (H.set_self _ _ _)
 have eL:∀ a o (x:O),(((hs a).set it x).set n o) l = some (.list xs):=fun a o x=>(H.set_ne _ _ h1).trans ((H.set_ne _ _ h2).trans (hl a))
 refine ⟨ne,fun c' ok vs a o Q q1 q2=>?_,fun c' ok vs a o Q q=>it_selfL (eI a o _) q⟩
 rcases Nat.lt_or_ge a xs.length with lt | ge
 ·refine nx_list (eI a o _) (eL a o _) (v:=xs.getD a .none) (by rw [List.getD_eq_getElem?_getD,List.getElem?_eq_getElem lt];rfl) ?_
  show Q _ ⟨vs,H.set _ it _⟩
  rw [H.set_comm (n:=n) (n':=it) ne,H.set_set]
  exact q1 lt
 ·refine nx_listE ok (eI a o _) (eL a o _) ge ?_
  show Q _ ⟨vs,H.set _ it _⟩
  rw [H.set_comm (n:=n) (n':=it) ne,H.set_set]
  exact q2 ge
theorem Src.range {hs:Nat → H} {n it:Nm} {N:Nat} (ne:n ≠ it):Src hs n it N (fun a=>.int (a:Int)) (fun a=>rgI a N):=by
 have eI:∀ a o (x:O),(((hs a).set it x).set n o) it = some x:=fun a o x=>(H.set_ne _ _ (Ne.symm ne)).trans (H.set_self _ _ _)
 refine ⟨ne,fun c' ok vs a o Q q1 q2=>?_,fun c' ok vs a o Q q=>it_selfR (eI a o _) q⟩
 rcases Nat.lt_or_ge a N with lt | ge
 ·refine nx_rangeN (eI a o _) lt ?_
  show Q _ ⟨vs,H.set _ it _⟩
  rw [H.set_comm (n:=n) (n':=it) ne,H.set_set]
  exact q1 lt
 ·refine nx_rangeNE ok (eI a o _) ge ?_
  show Q _ ⟨vs,H.set _ it _⟩
  rw [H.set_comm (n:=n) (n':=it) ne,H.set_set]
  exact q2 ge
noncomputable def fm (f:Nat → Option V) (a:Nat):List V:=(List.range a).filterMap f
theorem fm_len (f:Nat → Option V) (a:Nat):(fm f a).length ≤ a:=by
 unfold fm
 have:=List.length_filterMap_le f (List.range a)
 rw [List.length_range] at this;exact this
theorem fm_some {f:Nat → Option V} {a:Nat} {w:V} (h:f a = some w):fm f (a + 1) = fm f a ++ [w]:=by
 unfold fm;rw [List.range_succ,List.filterMap_append,List.filterMap_cons,h];rfl
theorem fm_none {f:Nat → Option V} {a:Nat} (h:f a = none):fm f (a + 1) = fm f a:=by
 unfold fm;rw [List.range_succ,List.filterMap_append,List.filterMap_cons,h];simp
section
variable {c:Cx} {σ:St}
theorem mS_assignAs {t e:Expr} {pos:Pos} {Q:Fl → St → Prop} (ht:∃ es k p,t = .Tuple es k p) (h:mE c e (fun v σ₁=>mAs c t v (Q .next) σ₁) σ) (hs:autoParam (swapsWith e (some t) pos.line c.env = pure false) aR) (hw:autoParam (swappedStores [t] e c.env = pure none) aR):mS c (.Assign [t] e pos) Q σ:=fun ρ δ news m s R=>by
 obtain ⟨es,k,p,rfl⟩:=ht
 refine wpAny_Assign_stores (nest h R fun a s₁ b σ₁ ρ₁ δ₁ news₁ m₁ X R₁ V q=>?_) hs hw
 show wpAny _ _ (assign (.Tuple es k p) c.env a) _ _ _
 refine wpAny_mono (q ρ₁ δ₁ news₁ m₁ s₁ a R₁ V) (fun _ s₂ pp=>pp.el fun _ σ₂ ρ₂ δ₂ news₂ m₂ X₂ R₂ _ q₂=>⟨.next,σ₂,ρ₂,δ₂,news₂,m₂,X.trans X₂,R₂,trivial,q₂⟩) fun _ _ e=>e
theorem MW1.mono {α β:Type} {RV:H → (Nm → Addr) → α → β → Prop} {v:V} {t:Value → Sem α} {Q Q' : β → St → Prop} (h:MW1 c RV v t Q σ) (k:∀ b σ',Q b σ' → Q' b σ'):MW1 c RV v t Q' σ:=fun ρ δ news m s x R V=>
 wpAny_mono (h ρ δ news m s x R V) (fun _ _ pp=>pp.mono k) fun _ _ x=>x
theorem mTs_mono {ifs:List Expr} {Q Q' : Bool → St → Prop} (h:mTs c ifs Q σ) (k:∀ b σ',Q b σ' → Q' b σ'):mTs c ifs Q' σ:=by
 cases ifs with
 | nil=>exact k _ _ h
 | cons e r=>exact MW.mono h k
theorem mE_pc {elt iter:Expr} {x:Str} {px pos:Pos} {ifs:List Expr} {scope:Scope} {Q:V → St → Prop} (n it:Nm) (cl:List (Str × Addr)) (fr:List Str) {hs:Nat → H} {N:Nat} {val:Nat → V} {src:Nat → O} (f:Nat → Option V) (S:Src hs n it N val src) (hn:hs 0 n = none) (hN:N ≤ 900) (ok:c.Ok)
  (hclos:closureFor scope c.env = pure cl) (hif:ifs.length ≤ 1)
  (hfr:∀ y,(cl.lookup y).isSome = true → y ∈ fr) (hfc:∀ y ∈ fr,cl.lookup y = c.env.cells.lookup y ∧ c.env.kindOf y = some .cell ∧ (relabel scope c.env).names.lookup y = some .cell)
  (hcl:(cl.map (·.2)).Nodup) (hxf:x ∉ fr)
  (hcell:∀ y ∈ scope.names,y.2 ≠ .cell) (hkind:scope.kind = .function) (hnames:∀ y ∈ scope.names,y.2 = .local → scope.names.lookup y.1 = some .local) (hx:scope.names.lookup x = some .local)
  (h0:mE c iter (fun v σ₁=>MW1 c RVal v pyIter (fun u σ₂=>u = .ref it ∧ σ₂ = ⟨σ.vars,(hs 0).set it (src 0)⟩) σ₁) σ)
  (turn:∀ B C,(c.comp B C scope cl).Ok → ∀ a,a < N → ∀ pre h,h = ((hs a).set it (src (a + 1))).set n (.list pre) → mTs (c.comp B C scope cl) ifs (fun b σ₂=>if b then mE (c.comp B C scope cl) elt (fun w σ₃=>(∀ y ∈ fr,σ₃.vars y = σ.vars y) ∧ σ₃.hp = ((hs (a + 1)).set it (src (a + 1))).set n (.list pre) ∧ f a = some w) σ₂
     else (∀ y ∈ fr,σ₂.vars y = σ.vars y) ∧ σ₂.hp = ((hs (a + 1)).set it (src (a + 1))).set n (.list pre) ∧ f a = none) ⟨fun y=>if y = x then some (val a) else cvars fr σ y,h⟩)
  (hQ:Q (.ref n) ⟨σ.vars,((hs N).set it .dead).set n (.list (fm f N))⟩)
  (hss:autoParam (∀ x,foldedSetIterable iter c.env x = pure x) aI):mE c (.ListComp elt [⟨.Name x px,iter,ifs,0⟩] scope pos) Q σ:=by
 refine mE_comp n it cl fr (fun k h=>∃ a,a + k = N ∧ h = ((hs a).set it (src a)).set n (.list (fm f a))) ok hclos hif hfr hfc hcl hxf hcell hkind hnames hx ?_ ?_ ?_ ?_ hss
 ·refine h0.mono fun v σ₁ q=>MW1.mono q fun u σ₂=>?_
  rintro ⟨rfl,rfl⟩
  exact ⟨rfl,rfl,(H.set_ne _ _ S.ne).trans hn,N,0,by omega,rfl⟩
 ·rintro k h ⟨a,_,rfl⟩
  exact ⟨by rw [H.set_ne _ _ (Ne.symm S.ne),H.set_self];simp,by rw [H.set_self];simp⟩
 ·rintro B C ok' k h ⟨a,_,rfl⟩
  exact S.self _ ok' _ _ _ _ ⟨rfl,rfl⟩
 ·rintro B C ok' k h ⟨a,ha,rfl⟩
  refine S.nx _ ok' _ _ _ _ (fun lt=>⟨rfl,?_⟩) fun ge=>⟨rfl,?_⟩
  ·refine mTs_mono (turn B C ok' a lt (fm f a) _ rfl) fun b σ₂=>?_
   cases b with
   | true=>
    refine fun q=>MW.mono q fun w σ₃=>?_
    rintro ⟨q1,q2,q3⟩
    have:=fm_len f a
    refine ⟨q1,fm f a,by rw [q2];exact H.set_self _ _ _,by omega,k - 1,by omega,a + 1,by omega,?_⟩
    rw [q2,H.set_set,fm_some q3]
   | false=>
    rintro ⟨q1,q2,q3⟩
    exact ⟨q1,k - 1,by omega,a + 1,by omega,by rw [q2,fm_none q3]⟩
  ·have ea:a = N:=by exact Nat.le_antisymm (cb1 (eL ha)) ge
   subst ea;exact hQ
theorem mS_pc {elt iter:Expr} {x y:Str} {px py pos spos:Pos} {ifs:List Expr} {scope:Scope} {Q:Fl → St → Prop} (n it:Nm) (cl:List (Str × Addr)) (fr:List Str) {hs:Nat → H} {N:Nat} {val:Nat → V} {src:Nat → O} (f:Nat → Option V) (S:Src hs n it N val src) (hn:hs 0 n = none) (hN:N ≤ 900) (ok:c.Ok)
  (hsw:swapsWith (.ListComp elt [⟨.Name x px,iter,ifs,0⟩] scope pos) (some (.Name y py)) spos.line c.env = pure true)
  (hclos:closureFor scope c.env = pure cl) (hif:ifs.length ≤ 1)
  (hfr:∀ y,(cl.lookup y).isSome = true → y ∈ fr) (hfc:∀ y ∈ fr,cl.lookup y = c.env.cells.lookup y ∧ c.env.kindOf y = some .cell ∧ (relabel scope c.env).names.lookup y = some .cell)
  (hcl:(cl.map (·.2)).Nodup) (hxf:x ∉ fr)
  (hcell:∀ y ∈ scope.names,y.2 ≠ .cell) (hkind:scope.kind = .function) (hnames:∀ y ∈ scope.names,y.2 = .local → scope.names.lookup y.1 = some .local) (hx:scope.names.lookup x = some .local)
  (hk:c.env.kindOf y = some .local ∨ (c.env.kindOf y = some .cell ∧ (c.env.cells.lookup y).isSome = true))
  (h0:mE c iter (fun v σ₁=>MW1 c RVal v pyIter (fun u σ₂=>u = .ref it ∧ σ₂ = ⟨σ.vars,(hs 0).set it (src 0)⟩) σ₁) σ)
  (turn:∀ B C,(c.comp B C scope cl).Ok → ∀ a,a < N → ∀ pre h,h = ((hs a).set it (src (a + 1))).set n (.list pre) → mTs (c.comp B C scope cl) ifs (fun b σ₂=>if b then mE (c.comp B C scope cl) elt (fun w σ₃=>(∀ y ∈ fr,σ₃.vars y = σ.vars y) ∧ σ₃.hp = ((hs (a + 1)).set it (src (a + 1))).set n (.list pre) ∧ f a = some w) σ₂
     else (∀ y ∈ fr,σ₂.vars y = σ.vars y) ∧ σ₂.hp = ((hs (a + 1)).set it (src (a + 1))).set n (.list pre) ∧ f a = none) ⟨fun y=>if y = x then some (val a) else cvars fr σ y,h⟩)
  (hQ:Q .next ((⟨σ.vars,((hs N).set it .dead).set n (.list (fm f N))⟩ : St).var y (.ref n)))
  (hss:autoParam (∀ x,foldedSetIterable iter c.env x = pure x) aI):mS c (.Assign [.Name y py] (.ListComp elt [⟨.Name x px,iter,ifs,0⟩] scope pos) spos) Q σ:=by
 refine mS_comp n it cl fr (fun k h=>∃ a,a + k = N ∧ h = ((hs a).set it (src a)).set n (.list (fm f a))) ok hsw hclos hif hfr hfc hcl hxf hcell hkind hnames hx hk ?_ ?_ ?_ ?_ hss
 ·refine h0.mono fun v σ₁ q=>MW1.mono q fun u σ₂=>?_
  rintro ⟨rfl,rfl⟩
  exact ⟨rfl,rfl,(H.set_ne _ _ S.ne).trans hn,N,0,by omega,rfl⟩
 ·rintro k h ⟨a,_,rfl⟩
  exact ⟨by rw [H.set_ne _ _ (Ne.symm S.ne),H.set_self];simp,by rw [H.set_self];simp⟩
 ·rintro B C ok' k h ⟨a,_,rfl⟩
  exact S.self _ ok' _ _ _ _ ⟨rfl,rfl⟩
 ·rintro B C ok' k h ⟨a,ha,rfl⟩
  refine S.nx _ ok' _ _ _ _ (fun lt=>⟨rfl,?_⟩) fun ge=>⟨rfl,?_⟩
  ·refine mTs_mono (turn B C ok' a lt (fm f a) _ rfl) fun b σ₂=>?_
   cases b with
   | true=>
    refine fun q=>MW.mono q fun w σ₃=>?_
    rintro ⟨q1,q2,q3⟩
    have:=fm_len f a
    refine ⟨q1,fm f a,by rw [q2];exact H.set_self _ _ _,by omega,k - 1,by omega,a + 1,by omega,?_⟩
    rw [q2,H.set_set,fm_some q3]
   | false=>
    rintro ⟨q1,q2,q3⟩
    exact ⟨q1,k - 1,by omega,a + 1,by omega,by rw [q2,fm_none q3]⟩
  ·have ea:a = N:=by exact Nat.le_antisymm (cb1 (eL ha)) ge
   subst ea;exact hQ
end
set_option backward.match.sparseCases false
noncomputable def fnParts:Option Stmt → List Stmt × Scope
 | some (.FunctionDef _ _ b _ _ _ s _ _ _)=>(b,s)
 | _=>([],⟨.function,[],false,false,[]⟩)
noncomputable def lawB:List Stmt:=(fnParts PySem.Challenge.pw_pb0398_01.main.body.getLast?).1
noncomputable def lawSc:Scope:=(fnParts PySem.Challenge.pw_pb0398_01.main.body.getLast?).2
noncomputable def lawSt (i:Nat):Stmt:=lawB.getD i (.Pass ⟨0,0,0,0⟩)
theorem lawB_eq:lawB = [lawSt 0,lawSt 1,lawSt 2,lawSt 3,lawSt 4,lawSt 5,lawSt 6,lawSt 7,lawSt 8,lawSt 9,lawSt 10,lawSt 11,lawSt 12,lawSt 13,lawSt 14,lawSt 15,lawSt 16]:=rfl
noncomputable def lw (b:Cx) (L:Addr):Cx:={ b with L:=L,env:=envOfC "law" lawSc L 1431 (.ref 1430) }
noncomputable def kdV (b:Bool):V:=.str (if b then "record" else "pointer")
structure Kept (t:Nat) (h h' : H) (X:Nm → Prop):Prop where
 free:Free t h'
 same:∀ n:Nm,n.1 ≠ 0 → ¬ X n → h' n = h n
theorem Kept.set {t:Nat} {h h' : H} {X:Nm → Prop} {n:Nm} {o:O} (k:Kept t h h' X) (hn:n.1 = 0 → n.2.1 < t) (hx:n.1 ≠ 0 → X n):Kept t h (h'.set n o) X:=
 ⟨fun u q hu=>by rw [H.set_ne _ _ (by rintro rfl;have:=hn rfl;simp at this;exact cf2 hu this)];exact k.free u q hu,fun m hm hX=>by rw [H.set_ne _ _ (by rintro rfl;exact hX (hx hm))];exact k.same m hm hX⟩
theorem Kept.less {t t' : Nat} {h h' : H} {X:Nm → Prop} (k:Kept t h h' X) (l:t ≤ t'):Kept t' h h' X:=⟨fun u q hu=>k.free u q (by omega),k.same⟩
theorem Kept.trans {t t' : Nat} {h h' h'' : H} {X Y:Nm → Prop} (a:Kept t h h' X) (b:Kept t' h' h'' Y):Kept t' h h'' (fun n=>X n ∨ Y n):=⟨b.free,fun n hn q=>(b.same n hn fun y=>q (.inr y)).trans (a.same n hn fun x=>q (.inl x))⟩
theorem Kept.sub {t:Nat} {h h' : H} {X Y:Nm → Prop} (a:Kept t h h' X) (i:∀ n,X n → Y n):Kept t h h' Y:=⟨a.free,fun n hn q=>a.same n hn fun x=>q (i n x)⟩
theorem Kept.refl {t:Nat} {h:H} {X:Nm → Prop} (f:Free t h):Kept t h h X:=⟨f,fun _ _ _=>rfl⟩
theorem PoolOk.put' {h:H} {n:Nm} {o:O} (P:PoolOk h) (h1:n ≠ PL) (h2:n ≠ FG):PoolOk (h.set n o):=by
 obtain ⟨fs,a,b,e1,e2,r⟩:=P.ex
 exact ⟨fs,a,b,by rw [H.set_ne _ _ (Ne.symm h1)];exact e1,by rw [H.set_ne _ _ (Ne.symm h2)];exact e2,r⟩
theorem PoolOk.tmp {h:H} {t i:Nat} {o:O} (P:PoolOk h):PoolOk (h.set (0,t,i) o):=P.put' (by walk_at "ne") (by walk_at "ne")
theorem lk_mem {y:Str}:∀ {l:List (Str × Addr)},(l.lookup y).isSome = true → y ∈ l.map (·.1)
 | [],h=>by cases h
 | (x,a) :: r,h=>by
  rw [List.lookup_cons] at h
  cases q:y == x with
  | true=>exact List.mem_cons.mpr (.inl (eq_of_beq q))
  | false=>rw [q] at h;exact List.mem_cons_of_mem _ (lk_mem h)
section
variable {b:Cx} {L:Addr} {σ:St}
theorem law_kinds {t n:Nat} {Q:Fl → St → Prop} {k:Nat} (g:Good (lw b L)) (rm:Rm (lw b L) (k + 1)) (P:PoolOk σ.hp) (Fr:Free t σ.hp) (hn1:1 ≤ n) (hn:n ≤ 6) (z:∀ i,σ.hp (20,1,i) = none) (vp:σ.vars "pool" = some (.ref PL)) (vt:σ.vars "total" = some (.int (n:Int)))
  (h:∀ (K:List Bool) h',K.length = n → true ∈ K → PoolOk h' → h' (20,1,2) = some (.list (K.map kdV)) → Kept (t + 1) σ.hp h' (fun m=>m = PL ∨ (m.1 = 20 ∧ m.2.1 = 1 ∧ m.2.2 ≤ 2)) → Q .next ((⟨σ.vars,h'⟩ : St).var "kinds" (.ref (20,1,2)))):mS (lw b L) (lawSt 2) Q σ:=by
 rw [show lawSt 2 = .Assign [.Name "kinds" _] _ _ from rfl]
 refine mS_assign ?_
 walk_at "es"
 refine l_new (20,1,0) (z 0) ?_ (by simp)
 walk_at "es"
 refine mE_comp (20,1,1) (0,t,1) _ ["pool"] (fun k' h'=>∃ (a:Nat) (acc:List Bool),a + k' = n - 1 ∧ acc.length = a ∧ PoolOk h' ∧ h' (0,t,1) = some (rgI a (n - 1)) ∧ h' (20,1,0) = some (.list [.str "record"]) ∧ h' (20,1,1) = some (.list (acc.map kdV)) ∧ Kept (t + 1) σ.hp h' (fun m=>m = PL ∨ (m.1 = 20 ∧ m.2.1 = 1 ∧ m.2.2 ≤ 2)) ∧ h' (20,1,2) = none) g.ok rfl (by decide) ?_ ?_ ?_ (by decide) (by decide) rfl (by decide) rfl ?_ ?_ ?_ ?_
 ·exact fun y hy=>lk_mem hy
 ·rintro y hy
  cases List.mem_singleton.mp hy
  exact ⟨rfl,rfl,rfl⟩
 ·exact List.pairwise_singleton _ _
 ·walk_at "es"
  refine q_ty g nb_range bb_range ?_
  walk_at "es"
  refine b_sub ?_
  have en:(n:Int) - 1 = ((n - 1:Nat):Int):=(Int.ofNat_sub hn1).symm
  rw [en]
  walk_at "es"
  simp only [St.put]
  have zt:∀ i,(σ.hp.set (20,1,0) (.list [.str "record"])) (0,t,i) = none:=fun i=>H.skip (h:=σ.hp) (by walk_at "ne") (Fr _ _ (Nat.le_refl _))
  refine MW1.toS (rg_newN (0,t,0) (zt 0) ?_)
  refine it_rangeN (0,t,1) (H.set_self _ _ _) (by omega) (H.skip (h:=H.set _ _ _) (by walk_at "ne") (zt 1)) ⟨rfl,rfl,?_,n - 1,0,[],by omega,rfl,?_,?_,?_,H.set_self _ _ _,?_,?_⟩
  ·exact z 1
  ·exact (((P.put' (by walk_at "ne") (by walk_at "ne")).put' (by walk_at "ne") (by walk_at "ne")).put' (by walk_at "ne") (by walk_at "ne")).put' (by walk_at "ne") (by walk_at "ne")
  ·exact H.skip (h:=H.set _ _ _) (by walk_at "ne") (H.set_self _ _ _)
  ·rfl
  ·exact (((((Kept.refl Fr).less (Nat.le_succ t)).set (fun q=>by cases q) (fun _=>.inr ⟨rfl,rfl,by decide⟩)).set (fun _=>Nat.lt_succ_self t) (fun q=>absurd rfl q)).set (fun _=>Nat.lt_succ_self t) (fun q=>absurd rfl q)).set (fun q=>by cases q) (fun _=>.inr ⟨rfl,rfl,by decide⟩)
  ·exact z 2
 ·rintro k' h' ⟨a,acc,_,_,_,e1,_,e2,_⟩
  exact ⟨by rw [e1];simp,by rw [e2];simp⟩
 ·rintro B C ok' k' h' ⟨a,acc,_,_,_,e1,_,e2,_⟩
  exact it_selfR e1 ⟨rfl,rfl⟩
 ·rintro B C ok' k' h' ⟨a,acc,ha,hacc,P',e1,e0,e2,Kp,z2⟩
  have gc:Good ((lw b L).comp B C _ [(_,_)]):=⟨ok',g.hK⟩
  rcases Nat.lt_or_ge a (n - 1) with lt | ge
  ·refine nx_rangeN e1 lt ⟨rfl,?_⟩
   show mE _ _ _ _
   refine mE_ifexp ?_
   simp only [St.put]
   walk_at "es"
   refine q_call gc nk_law_pick ?_
   walk_at "es"
   have tz:∀ i,(0,t,i) ≠ PL:=fun i q=>by cases q
   refine sp_pick (lim:=3) (k:=k) gc (rm.less (Nat.le_refl _)) (P'.put' (tz 1) (by walk_at "ne")) (by decide) (by decide) fun h₃ v hv P₃ S₃=>?_
   walk_at "es"
   refine c_lt (t_bool ?_)
   have fin:∀ bb:Bool,∃ ys,h₃ (20,1,1) = some (.list ys) ∧ ys.length ≤ 1000 ∧ ∃ k'',k'' < k' ∧ ∃ (a:Nat) (acc:List Bool),a + k'' = n - 1 ∧ acc.length = a ∧ PoolOk (h₃.set (20,1,1) (.list (ys ++ [kdV bb]))) ∧ (h₃.set (20,1,1) (.list (ys ++ [kdV bb]))) (0,t,1) = some (rgI a (n - 1)) ∧ (h₃.set (20,1,1) (.list (ys ++ [kdV bb]))) (20,1,0) = some (.list [.str "record"]) ∧ (h₃.set (20,1,1) (.list (ys ++ [kdV bb]))) (20,1,1) = some (.list (acc.map kdV)) ∧ Kept (t + 1) σ.hp (h₃.set (20,1,1) (.list (ys ++ [kdV bb]))) (fun m=>m = PL ∨ (m.1 = 20 ∧ m.2.1 = 1 ∧ m.2.2 ≤ 2)) ∧ (h₃.set (20,1,1) (.list (ys ++ [kdV bb]))) (20,1,2) = none:=fun bb=>by
    refine ⟨acc.map kdV,(S₃ (20,1,1) (by decide)).trans e2,by rw [List.length_map];exact cb4 (eL hacc) lt (Nat.sub_le n 1) hn,k' - 1,by omega,a + 1,acc ++ [bb],by omega,by simp;omega,P₃.put' (by decide) (by decide),?_,?_,?_,?_,?_⟩
    ·exact (S₃ (0,t,1) (tz 1)).trans (H.set_self _ _ _)
    ·exact (S₃ (20,1,0) (by decide)).trans e0
    ·rw [List.map_append];exact H.set_self _ _ _
    ·refine Kept.set ⟨fun u q hu=>(S₃ _ (by walk_at "ne")).trans ((H.set_ne h' _ (by walk_at "ne")).trans (Kp.free u q hu)),fun m hm hX=>(S₃ _ (fun q=>hX (.inl q))).trans ((H.set_ne h' _ (by rintro rfl;exact hm rfl)).trans (Kp.same m hm hX))⟩ (fun q=>by cases q) (fun _=>.inr ⟨rfl,rfl,by decide⟩)
    ·exact (S₃ (20,1,2) (by decide)).trans z2
   by_cases q:(v:Int) < 2
   ·rw [decide_eq_true q]
    show mE _ _ _ _
    walk_at "es"
    exact ⟨fun y hy=>by cases List.mem_singleton.mp hy;rfl,fin true⟩
   ·rw [decide_eq_false q]
    show mE _ _ _ _
    walk_at "es"
    exact ⟨fun y hy=>by cases List.mem_singleton.mp hy;rfl,fin false⟩
  ·refine nx_rangeNE ok' e1 ge ⟨rfl,?_⟩
   simp only [St.put]
   have ea:a = n - 1:=Nat.le_antisymm (cb1 (eL ha)) ge
   refine b_cats (20,1,2) (xs:=[.str "record"]) (ys:=acc.map kdV) e0 e2 z2 ?_ (by simp;exact cb4 (eL hacc) (eL ha) (Nat.sub_le n 1) hn)
   refine m_storeC g.ok ?_
   refine h (true :: acc) ((h'.set (0,t,1) .dead).set (20,1,2) (.list (.str "record" :: acc.map kdV))) (by simp;exact (congrArg (· + 1) (hacc.trans ea)).trans (Nat.sub_add_cancel hn1)) (.head _) (P'.tmp.put' (by decide) (by decide)) (H.set_self _ _ _) ?_
   exact (Kp.set (fun _=>Nat.lt_succ_self t) (fun q=>absurd rfl q)).set (fun q=>by cases q) (fun _=>.inr ⟨rfl,rfl,by decide⟩)
end
set_option backward.match.sparseCases true
noncomputable def trues (K:List Bool):List Nat:=(List.range K.length).filter fun i=>K.getD i false
section
variable {b:Cx} {L:Addr} {σ:St}
theorem law_rev {t:Nat} {K:List Bool} {Q:Fl → St → Prop} {k:Nat} (g:Good (lw b L)) (rm:Rm (lw b L) (k + 1)) (P:PoolOk σ.hp) (Fr:Free t σ.hp) (hK:K.length ≤ 6) (hT:true ∈ K) (z:σ.hp (20,1,3) = none) (vp:σ.vars "pool" = some (.ref PL)) (vk:σ.vars "kinds" = some (.ref (20,1,2))) (ek:σ.hp (20,1,2) = some (.list (K.map kdV)))
  (h:∀ (K' : List Bool) σ' kn,(kn = (20,1,2) ∨ kn = (20,1,3)) → K'.length = K.length → true ∈ K' → PoolOk σ'.hp → σ'.hp kn = some (.list (K'.map kdV)) → Kept t σ.hp σ'.hp (fun m=>m = PL ∨ m = (20,1,3)) → σ'.vars "kinds" = some (.ref kn) → (∀ y:Str,y ≠ "kinds" → σ'.vars y = σ.vars y) → Q .next σ'):mS (lw b L) (lawSt 3) Q σ:=by
 rw [show lawSt 3 = .If _ _ _ _ from rfl]
 refine mS_if (mT_cmp ?_)
 refine q_call g nk_law_pick ?_
 walk_at "es"
 refine sp_pick (lim:=2) (k:=k) g rm P (by decide) (by decide) fun h₁ v hv P₁ S₁=>?_
 walk_at "es"
 refine c_eq (t_bool ?_)
 have ek₁:=(S₁ (20,1,2) (by decide)).trans ek
 have Kp:Kept t σ.hp h₁ (fun m=>m = PL ∨ m = (20,1,3)):=⟨fun u q hu=>(S₁ _ (by walk_at "ne")).trans (Fr u q hu),fun m _ hX=>S₁ m fun q=>hX (.inl q)⟩
 by_cases q:(v:Int) = 1
 ·rw [decide_eq_true q]
  show mB _ _ _ _
  refine mB_cons (mS_assign (mE_revsl (20,1,3) (mE_cell g.ok (show σ.vars "kinds" = _ from vk) ?_)))
  walk_at "es"
  refine u_neg ⟨(20,1,2),_,rfl,rfl,ek₁,by simp;omega,(S₁ (20,1,3) (by decide)).trans z,?_⟩
  refine m_storeC g.ok ?_
  show mB _ _ _ _
  walk_at "es"
  refine h K.reverse _ (20,1,3) (.inr rfl) (by simp) (by simpa using hT) (P₁.put' (by decide) (by decide)) ?_ ?_ rfl fun y hy=>if_neg hy
  ·rw [List.map_reverse];exact H.set_self h₁ (20,1,3) _
  ·exact Kp.set (fun q=>by cases q) (fun _=>.inr rfl)
 ·rw [decide_eq_false q]
  show mB _ _ _ _
  walk_at "es"
  exact h K ⟨σ.vars,h₁⟩ (20,1,2) (.inl rfl) rfl hT P₁ ek₁ Kp vk fun _ _=>rfl
theorem law_homes {t:Nat} {K:List Bool} {kn:Nm} {Q:Fl → St → Prop} (g:Good (lw b L)) (Fr:Free t σ.hp) (hK:K.length ≤ 6) (hk:kn.1 = 20 ∧ kn.2.1 = 1) (z:σ.hp (20,2,0) = none) (vk:σ.vars "kinds" = some (.ref kn)) (vt:σ.vars "total" = some (.int (K.length:Int))) (ek:σ.hp kn = some (.list (K.map kdV)))
  (h:Q .next ((⟨σ.vars,((σ.hp.set (0,t,0) (rgO K.length)).set (0,t,1) .dead).set (20,2,0) (.list ((trues K).map fun i:Nat=>.int (i:Int)))⟩ : St).var "homes" (.ref (20,2,0)))):mS (lw b L) (lawSt 4) Q σ:=by
 rw [show lawSt 4 = .Assign [.Name "homes" _] (.ListComp _ _ _ _) _ from rfl]
 refine mS_pc (20,2,0) (0,t,1) _ ["kinds"] (hs:=fun _=>σ.hp.set (0,t,0) (rgO K.length)) (N:=K.length) (fun a=>if K.getD a false then some (.int (a:Int)) else none) (Src.range (by walk_at "ne")) z (by omega) g.ok rfl rfl (by decide) (fun y hy=>lk_mem hy) (by rintro y hy;cases List.mem_singleton.mp hy;exact ⟨rfl,rfl,rfl⟩) (List.pairwise_singleton _ _) (by decide) (by decide) rfl (by decide) rfl (.inl rfl) ?_ ?_ ?_
 ·walk_at "es"
  refine q_ty g nb_range bb_range ?_
  walk_at "es"
  refine MW1.toS (rg_newN (0,t,0) (Fr _ _ (Nat.le_refl _)) ?_)
  exact it_rangeN (0,t,1) (H.set_self _ _ _) (by omega) (H.skip (h:=σ.hp) (by walk_at "ne") (Fr _ _ (Nat.le_refl _))) ⟨rfl,rfl⟩
 ·rintro B C ok' a ha pre h' rfl
  have gc:Good ((lw b L).comp B C _ [(_,_)]):=⟨ok',g.hK⟩
  show mT _ _ _ _
  refine mT_cmp ?_
  walk_at "es"
  refine s_list (xs:=K.map kdV) (v:=kdV (K.getD a false)) ?_ (by omega) ?_ ?_ (by simp;omega)
  ·have q0:∀ i,kn ≠ (0,t,i):=fun i q=>by rw [q] at hk;exact absurd hk.1 (by show (0:Nat) ≠ 20;decide)
   have q1:kn ≠ (20,2,0):=fun q=>by rw [q] at hk;exact absurd hk.2 (by decide)
   exact (H.set_ne _ _ q1).trans ((H.set_ne _ _ (q0 1)).trans ((H.set_ne σ.hp _ (q0 0)).trans ek))
  ·rw [Int.toNat_natCast,List.getElem?_map,List.getD_eq_getElem?_getD,List.getElem?_eq_getElem ha];rfl
  ·walk_at "es"
   refine c_eqS (t_bool ?_)
   cases hb:K.getD a false with
   | true=>
    show mE _ _ _ _
    walk_at "es"
    exact ⟨fun y hy=>by cases List.mem_singleton.mp hy;rfl,rfl,rfl⟩
   | false=>exact ⟨fun y hy=>by cases List.mem_singleton.mp hy;rfl,rfl,rfl⟩
 ·have e:fm (fun a=>if K.getD a false then some (V.int (a:Int)) else none) K.length = (trues K).map fun i:Nat=>.int (i:Int):=by
   unfold fm trues
   generalize List.range K.length = l
   induction l with
   | nil=>rfl
   | cons x r ih=>
    rw [List.filterMap_cons,List.filter_cons]
    cases hb:K.getD x false <;> simp only [hb,if_true,if_false,Bool.false_eq_true,List.map_cons,ih]
  rw [e];exact h
end
theorem tx_app (a b:List Nat):tx (a ++ b) = tx a ++ tx b:=by
 show (⟨(a ++ b).toArray⟩ : Str) = ⟨a.toArray ++ b.toArray⟩
 simp
theorem T_nil (l:Ats) (R:List Nat):T l R = T l [] ++ R:=by
 induction l with
 | nil=>rfl
 | cons x l ih=>
  obtain ⟨b,a⟩:=x
  show _ ++ (_ ++ T l R) = (_ ++ (_ ++ T l [])) ++ R
  rw [ih,List.append_assoc,List.append_assoc]
noncomputable def tT (l:Ats):Str:=tx (T l [])
theorem tT_app (l m:Ats):tT (l ++ m) = tT l ++ tT m:=by
 unfold tT
 rw [T_app,T_nil l (T m []),tx_app]
theorem tx_T (l:Ats) (R:List Nat):tx (T l R) = tT l ++ tx R:=by
 unfold tT
 rw [T_nil,tx_app]
theorem sapp (a b d:Str):a ++ b ++ d = a ++ (b ++ d):=by
 show (⟨(a.cps ++ b.cps) ++ d.cps⟩ : Str) = ⟨a.cps ++ (b.cps ++ d.cps)⟩
 rw [Array.append_assoc]
theorem slen (a b:Str):(a ++ b).length = a.length + b.length:=by
 show (a.cps ++ b.cps).size = _
 rw [Array.size_append];rfl
theorem atDs_snoc:∀ (ds:List Dc) (i:Nat) (d:Dc),atDs i (ds ++ [d]) = atDs i ds ++ atD (i + ds.length) d
 | [],i,d=>by simp [atDs]
 | x :: r,i,d=>by
  show atD i x ++ atDs (i + 1) (r ++ [d]) = (atD i x ++ atDs (i + 1) r) ++ _
  rw [atDs_snoc r,List.append_assoc]
  simp only [List.length_cons]
  rw [show i + 1 + r.length = i + (r.length + 1) by exact ce0]
theorem atFs_snoc (i:Nat):∀ (fs:List FK) (j:Nat) (f:FK),atFs i j (fs ++ [f]) = atFs i j fs ++ atF i (j + fs.length) f
 | [],j,f=>by simp [atFs]
 | x :: r,j,f=>by
  show atF i j x ++ atFs i (j + 1) (r ++ [f]) = (atF i j x ++ atFs i (j + 1) r) ++ _
  rw [atFs_snoc i r,List.append_assoc]
  simp only [List.length_cons]
  rw [show j + 1 + r.length = j + (r.length + 1) by exact ce0]
theorem layF_snoc (i:Nat):∀ (fs:List FK) (j s:Nat) (f:FK),layF i j s (fs ++ [f]) = ((layF i j s fs).1 ++ (f.inner.map fun x=>((up (layF i j s fs).2.2 f.unit:Nat):Int) + x),(layF i j s fs).2.1 ++ [(fnm i (j + fs.length),up (layF i j s fs).2.2 f.unit)],up (layF i j s fs).2.2 f.unit + f.size)
 | [],j,s,f=>by simp [layF]
 | x :: r,j,s,f=>by
  show layF i j s (x :: (r ++ [f])) = _
  unfold layF
  rw [layF_snoc i r]
  simp only [List.length_cons,List.append_assoc,List.cons_append]
  rw [show j + 1 + r.length = j + (r.length + 1) by exact ce0]
theorem tT_name:∀ i,i < 60 → " " ++ tnm i ++ " =" = tT [(true,tW i),(true,.s 61)]:=by decide +kernel
theorem tT_to:∀ i,i < 60 → " POINTER TO T" ++ dgS i ++ ";" = tT [(true,cw "POINTER"),(true,cw "TO"),(true,tW i),(false,.s 59)]:=by decide +kernel
theorem tT_rec : " RECORD" ++ "" = tT [(true,cw "RECORD")]:=by decide +kernel
theorem tT_recB:∀ i,i < 60 → " RECORD" ++ (" (T" ++ dgS i ++ ")") = tT ((true,cw "RECORD") :: atB (some i)):=by decide +kernel
theorem tT_end : " END;" = tT [(true,cw "END"),(false,.s 59)]:=by decide +kernel
theorem tT_f:∀ n,n < 60 → " f" ++ dgS n ++ ": " = tT [(true,fW 0 n),(false,.s 58)] ++ " " := by decide +kernel
theorem tT_K0 : " " ++ FK.sp .int = tT (atK .int) ∧ " " ++ FK.sp .chr = tT (atK .chr):=by decide +kernel
theorem tT_K1:∀ i,i < 60 → " " ++ FK.sp (.ptr i) = tT (atK (.ptr i)):=by decide +kernel
theorem tT_K2:∀ i,i < 4 → " " ++ FK.sp (.achr i) = tT (atK (.achr i)):=by decide +kernel
theorem tT_K3:∀ m,m < 4 → ∀ i,i < 60 → " " ++ FK.sp (.aptr m i) = tT (atK (.aptr m i)):=by decide +kernel
theorem tT_semi:(";" : Str) = tT [(false,.s 59)]:=by decide +kernel
theorem tT_K {f:FK} (h:f.sm) : " " ++ f.sp = tT (atK f):=by
 cases f with
 | ptr k=>exact tT_K1 _ h
 | int=>exact tT_K0.1
 | chr=>exact tT_K0.2
 | achr m=>exact tT_K2 _ (by have:=h.2;omega)
 | aptr m k=>exact tT_K3 _ (by have:=h.2.1;omega) _ h.2.2
theorem tT_F {i j:Nat} {f:FK} (h:f.sm) (hij:10 * i + j < 60) : " f" ++ dgS (10 * i + j) ++ ": " ++ f.sp ++ ";" = tT (atF i j f):=by
 rw [tT_f _ hij,sapp (tT _) " " f.sp,tT_K h,tT_semi,← tT_app,← tT_app]
 congr 1
 show _ = (true,fW i j) :: (false,.s 58) :: (atK f ++ [(false,.s 59)])
 simp
theorem ln_name:∀ i,i < 60 → (tnm i).length ≤ 4 ∧ (dgS i).length ≤ 4:=by decide +kernel
theorem ln_K {f:FK} (h:f.sm):f.sp.length ≤ 30:=by
 have h1:∀ i,i < 60 → (FK.sp (.ptr i)).length ≤ 30:=by decide +kernel
 have h2:∀ i,i < 4 → (FK.sp (.achr i)).length ≤ 30:=by decide +kernel
 have h3:∀ m,m < 4 → ∀ i,i < 60 → (FK.sp (.aptr m i)).length ≤ 30:=by decide +kernel
 cases f with
 | ptr k=>exact h1 _ h
 | int=>decide +kernel
 | chr=>decide +kernel
 | achr m=>exact h2 _ (by have:=h.2;omega)
 | aptr m k=>exact h3 _ (by have:=h.2.1;omega) _ h.2.2
theorem up_at {s u v:Nat} (hu:u = 1 ∨ u = 4) (h1:s ≤ v) (h2:v ≤ up s u) (h3:v % u = 0):v = up s u:=by
 rcases hu with rfl | rfl
 ·rw [up1] at h2 ⊢;exact Nat.le_antisymm h2 h1
 ·obtain ⟨a,b,c⟩:=up_le s 4 (.inr rfl)
  omega
theorem up_lt {s u v:Nat} (hu:u = 1 ∨ u = 4) (h1:s ≤ v) (h2:v ≤ up s u) (h3:v % u ≠ 0):v + 1 ≤ up s u:=
 Nat.lt_of_le_of_ne h2 fun e=>h3 (by rw [e];exact (up_le s u hu).2.2)
set_option backward.match.sparseCases false
noncomputable def forB:Stmt → List Stmt
 | .For _ _ b _ _=>b
 | _=>[]
noncomputable def ifB:Stmt → List Stmt
 | .If _ b _ _=>b
 | _=>[]
noncomputable def loopB:List Stmt:=forB (lawSt 7)
noncomputable def loopSt (i:Nat):Stmt:=loopB.getD i (.Pass ⟨0,0,0,0⟩)
theorem loopB_eq:loopB = [loopSt 0,loopSt 1,loopSt 2,loopSt 3,loopSt 4,loopSt 5,loopSt 6,loopSt 7,loopSt 8,loopSt 9,loopSt 10,loopSt 11,loopSt 12,loopSt 13]:=rfl
noncomputable def innB:List Stmt:=forB (loopSt 10)
noncomputable def innSt (i:Nat):Stmt:=innB.getD i (.Pass ⟨0,0,0,0⟩)
theorem innB_eq:innB = [innSt 0,innSt 1,innSt 2,innSt 3,innSt 4,innSt 5]:=rfl
section
variable {b:Cx} {L:Addr} {σ:St}
theorem law_pad4 {s:Nat} {Q:Fl → St → Prop} (g:Good (lw b L)) (vs:σ.vars "spot" = some (.int (s:Int))) (h:∀ σ',σ'.hp = σ.hp → σ'.vars "spot" = some (.int ((up s 4:Nat):Int)) → (∀ y:Str,y ≠ "spot" → σ'.vars y = σ.vars y) → Q .next σ'):mS (lw b L) (loopSt 11) Q σ:=by
 rw [show loopSt 11 = .While _ _ _ _ from rfl]
 refine mS_while (fun k τ=>∃ v:Nat,v + k = up s 4 ∧ s ≤ v ∧ τ.hp = σ.hp ∧ τ.vars "spot" = some (.int (v:Int)) ∧ ∀ y:Str,y ≠ "spot" → τ.vars y = σ.vars y) (up s 4 - s) ⟨s,by have:=up_le s 4 (.inr rfl);exact sx2 this.1,Nat.le_refl _,rfl,vs,fun _ _=>rfl⟩ ?_
 intro J';rintro k ⟨vv,hp⟩ ⟨v,hk,hs,rfl,vS,vo⟩
 refine mT_cmp ?_
 refine mE_bin (mE_cell g.ok vS ?_)
 walk_at "es"
 refine b_mod ?_ (by decide)
 rw [show (v:Int).fmod 4 = ((v % 4:Nat):Int) by rw [Int.fmod_eq_emod_of_nonneg _ (by decide)];omega]
 walk_at "es"
 refine c_ne (t_bool ?_)
 by_cases q:((v % 4:Nat):Int) = 0
 ·rw [decide_eq_true q]
  have e:=up_at (.inr rfl) hs (by exact cb1 (eL hk)) (by omega:v % 4 = 0)
  refine h _ rfl ?_ vo
  rw [← e];exact vS
 ·rw [decide_eq_false q]
  show mB _ _ _ _
  have e:=up_lt (.inr rfl) hs (by exact cb1 (eL hk)) (by omega:v % 4 ≠ 0)
  refine mB_cons (mS_aug (mN_cell g.ok vS ?_))
  walk_at "es"
  refine i_add (m_storeC g.ok ?_)
  show mB _ _ _ _
  walk_at "es"
  exact ⟨k - 1,by exact lq2 hk e,v + 1,by exact lq1 hk e,by omega,rfl,rfl,fun y hy=>(if_neg hy).trans (vo y hy)⟩
theorem law_padU {s:Nat} {Q:Fl → St → Prop} (g:Good (lw b L)) {u:Nat} (hu:u = 1 ∨ u = 4) (vu:σ.vars "unit" = some (.int (u:Int))) (vs:σ.vars "spot" = some (.int (s:Int))) (h:∀ σ',σ'.hp = σ.hp → σ'.vars "spot" = some (.int ((up s u:Nat):Int)) → (∀ y:Str,y ≠ "spot" → σ'.vars y = σ.vars y) → Q .next σ'):mS (lw b L) (innSt 1) Q σ:=by
 rw [show innSt 1 = .While _ _ _ _ from rfl]
 refine mS_while (fun k τ=>∃ v:Nat,v + k = up s u ∧ s ≤ v ∧ τ.hp = σ.hp ∧ τ.vars "spot" = some (.int (v:Int)) ∧ ∀ y:Str,y ≠ "spot" → τ.vars y = σ.vars y) (up s u - s) ⟨s,by have:=up_le s u hu;exact sx2 this.1,Nat.le_refl _,rfl,vs,fun _ _=>rfl⟩ ?_
 intro J';rintro k ⟨vv,hp⟩ ⟨v,hk,hs,rfl,vS,vo⟩
 refine mT_cmp ?_
 refine mE_bin (mE_cell g.ok vS ?_)
 refine mE_local g.ok ((vo "unit" (by decide)).trans vu) ?_
 refine b_mod ?_ (by omega)
 rw [show (v:Int).fmod (u:Int) = ((v % u:Nat):Int) by rw [Int.fmod_eq_emod_of_nonneg _ (by omega)];omega]
 walk_at "es"
 refine c_ne (t_bool ?_)
 by_cases q:((v % u:Nat):Int) = 0
 ·rw [decide_eq_true q]
  have e:=up_at hu hs (by exact cb1 (eL hk)) (by omega:v % u = 0)
  refine h _ rfl ?_ vo
  rw [← e];exact vS
 ·rw [decide_eq_false q]
  show mB _ _ _ _
  have e:=up_lt hu hs (by exact cb1 (eL hk)) (by omega:v % u ≠ 0)
  refine mB_cons (mS_aug (mN_cell g.ok vS ?_))
  walk_at "es"
  refine i_add (m_storeC g.ok ?_)
  show mB _ _ _ _
  walk_at "es"
  exact ⟨k - 1,by exact lq2 hk e,v + 1,by exact lq1 hk e,by omega,rfl,rfl,fun y hy=>(if_neg hy).trans (vo y hy)⟩
end
set_option backward.match.sparseCases true
noncomputable def bV (b:Option Nat):Int:=match b with | none=>-1 | some x=>(x:Int)
noncomputable def RowH (h:H) (i:Nat):Rw → Prop
 | .ptr tg=>h (21,i,0) = some (.tup [.str "pointer",.int (tg:Int)])
 | .rcd lev b sz m fl=>h (21,i,0) = some (.tup [.str "record",.int (lev:Int),.int (bV b),.int (sz:Int),.ref (21,i,1),.ref (21,i,2)]) ∧ h (21,i,1) = some (.list (m.map V.int)) ∧ h (21,i,2) = some (.list ((List.range fl.length).map fun j=>.ref (22,i,j))) ∧
   ∀ (j:Nat) (x:Str × Nat),fl[j]? = some x → h (22,i,j) = some (.tup [.str x.1,.int (x.2:Int)])
theorem RowH.keep {h h' : H} {i:Nat} {r:Rw} (R:RowH h i r) (e:∀ n:Nm,21 ≤ n.1 → n.2.1 = i → h' n = h n):RowH h' i r:=by
 cases r with
 | ptr tg=>exact (e _ (by show 21 ≤ 21;decide) rfl).trans R
 | rcd lev b sz m fl=>
  obtain ⟨h1,h2,h3,h4⟩:=R
  exact ⟨(e _ (by show 21 ≤ 21;decide) rfl).trans h1,(e _ (by show 21 ≤ 21;decide) rfl).trans h2,(e _ (by show 21 ≤ 21;decide) rfl).trans h3,fun j x hx=>(e _ (by show 21 ≤ 22;decide) rfl).trans (h4 j x hx)⟩
noncomputable abbrev kdsN (kn:Nm):Prop:=kn = (20,1,2) ∨ kn = (20,1,3)
structure LH (T0 itv:Nat) (K:List Bool) (kn:Nm) (rs:List Rw) (t:Nat) (h:H):Prop where
 pool:PoolOk h
 free:Free t h
 lt:T0 < t
 it:h (0,T0,1) = some (rgI itv K.length)
 kno:kdsN kn
 kinds:h kn = some (.list (K.map kdV))
 homes:h (20,2,0) = some (.list ((trues K).map fun i:Nat=>.int (i:Int)))
 rows:h (20,3,0) = some (.list ((List.range rs.length).map fun i=>.ref (21,i,0)))
 row:∀ (q:Nat) (r:Rw),rs[q]? = some r → RowH h q r
 low:∀ n:Nm,1 ≤ n.1 → n.1 < 20 → h n = none
noncomputable def Old (T0:Nat) (len:Nat) (n:Nm):Prop:=n = (0,T0,1) ∨ (1 ≤ n.1 ∧ n.1 ≤ 20 ∧ n ≠ PL) ∨ (21 ≤ n.1 ∧ n.2.1 < len)
theorem LH.via {T0 itv:Nat} {K:List Bool} {kn:Nm} {rs:List Rw} {t t' : Nat} {h h' : H} (l:LH T0 itv K kn rs t h) (P:PoolOk h') (F:Free t' h') (ht:t ≤ t') (e:∀ n,Old T0 rs.length n → h' n = h n):LH T0 itv K kn rs t' h':=by
 have q2:∀ n:Nm,n.1 = 20 → n ≠ PL → h' n = h n:=fun n a b=>e n (.inr (.inl ⟨by exact cb1 (eR a),by exact cb1 (eL a),b⟩))
 refine ⟨P,F,by have:=l.lt;omega,(e _ (.inl rfl)).trans l.it,l.kno,?_,(q2 _ rfl (by decide)).trans l.homes,(q2 _ rfl (by decide)).trans l.rows,fun q r hr=>(l.row q r hr).keep fun n a b=>e n (.inr (.inr ⟨a,by rw [b];exact getl hr⟩)),fun n a b=>(e n (.inr (.inl ⟨a,by omega,by rintro rfl;revert b;decide⟩))).trans (l.low n a b)⟩
 rcases l.kno with q | q
 ·rw [q];exact (q2 _ rfl (by decide)).trans (q ▸ l.kinds)
 ·rw [q];exact (q2 _ rfl (by decide)).trans (q ▸ l.kinds)
theorem LH.put {T0 itv:Nat} {K:List Bool} {kn:Nm} {rs:List Rw} {t t' : Nat} {h:H} {n:Nm} {o:O} (l:LH T0 itv K kn rs t h) (ht:t ≤ t') (hn:(n.1 = 0 ∧ T0 < n.2.1 ∧ n.2.1 < t') ∨ (21 ≤ n.1 ∧ rs.length ≤ n.2.1)):LH T0 itv K kn rs t' (h.set n o):=by
 refine l.via (l.pool.put' (by rintro rfl;revert hn;simp) (by rintro rfl;revert hn;simp)) (fun u k hu=>?_) ht fun m hm=>H.set_ne _ _ ?_
 ·rw [H.set_ne _ _ (by rintro rfl;rcases hn with ⟨_,_,a⟩ | ⟨a,_⟩ <;> simp at a;exact cf2 hu a)];exact l.free u k (by omega)
 ·rintro rfl
  rcases hm with rfl | ⟨a,b,d⟩ | ⟨a,b⟩
  ·rcases hn with ⟨_,a,_⟩ | ⟨a,_⟩ <;> simp at a
  ·omega
  ·omega
theorem LH.pick {T0 itv:Nat} {K:List Bool} {kn:Nm} {rs:List Rw} {t:Nat} {h h' : H} (l:LH T0 itv K kn rs t h) (P:PoolOk h') (S:∀ n,n ≠ PL → h' n = h n):LH T0 itv K kn rs t h':=by
 refine l.via P (fun u k hu=>(S _ (by walk_at "ne")).trans (l.free u k hu)) (Nat.le_refl _) fun n hn=>S n ?_
 rintro rfl
 rcases hn with q | ⟨_,_,q⟩ | ⟨q,_⟩
 ·cases q
 ·exact q rfl
 ·exact absurd q (by decide)
noncomputable def New (i:Nat) (h:H):Prop:=∀ n:Nm,21 ≤ n.1 → i ≤ n.2.1 → h n = none
theorem New.tmp {i u k:Nat} {h:H} {o:O} (N:New i h):New i (h.set (0,u,k) o):=fun n a b=>(H.set_ne _ _ (by rintro rfl;exact absurd a (by show ¬ 21 ≤ 0;decide))).trans (N n a b)
theorem New.pick {i:Nat} {h h' : H} (N:New i h) (S:∀ n,n ≠ PL → h' n = h n):New i h':=fun n a b=>(S n (by rintro rfl;exact absurd a (by decide))).trans (N n a b)
noncomputable def Rw.isR:Rw → Bool
 | .ptr _=>false
 | .rcd _ _ _ _ _=>true
theorem snoc_inv {α:Type} {l:List α} {a x:α} {q:Nat} (h:(l ++ [a])[q]? = some x):l[q]? = some x ∨ (q = l.length ∧ x = a):=by
 rcases Nat.lt_or_ge q l.length with lt | ge
 ·rw [List.getElem?_append_left lt] at h;exact .inl h
 ·rw [List.getElem?_append_right ge] at h
  have:q - l.length = 0:=by
   rcases Nat.eq_zero_or_pos (q - l.length) with e | e
   ·exact e
   ·rw [List.getElem?_eq_none (by simp;omega)] at h;cases h
  rw [this] at h
  cases h
  exact .inr ⟨by omega,rfl⟩
theorem WF.kind {K:List Bool} {ds:List Dc} {rs:List Rw} (h:WF K ds rs):∀ {q:Nat} {r:Rw},rs[q]? = some r → K[q]? = some r.isR:=by
 induction h with
 | nil=>intro q r h;simp at h
 | ptr w h1 h2 ih=>
  intro q r h
  rcases snoc_inv h with h | ⟨rfl,rfl⟩
  ·exact ih h
  ·rw [← w.len];exact h1
 | rec0 w h1 h2 h3 ih=>
  intro q r h
  rcases snoc_inv h with h | ⟨rfl,rfl⟩
  ·exact ih h
  ·rw [← w.len];exact h1
 | rec1 w h1 h2 h3 h4 h5 ih=>
  intro q r h
  rcases snoc_inv h with h | ⟨rfl,rfl⟩
  ·exact ih h
  ·rw [← w.len];exact h1
noncomputable def abv (rs:List Rw) (q:Nat):Bool:=match rs[q]? with
 | some (.rcd lev _ _ _ _)=>decide (lev < 3)
 | _=>false
theorem trues_mem {K:List Bool} {q:Nat} (h:q ∈ trues K):q < K.length ∧ K.getD q false = true:=by
 unfold trues at h
 rw [List.mem_filter,List.mem_range] at h;exact h
theorem trues_len (K:List Bool):(trues K).length ≤ K.length:=by
 unfold trues
 have:=List.length_filter_le (fun i=>K.getD i false) (List.range K.length)
 rw [List.length_range] at this;exact this
noncomputable def pickF {α:Type} (l:List α) (p:α → Bool) (g:α → V) (a:Nat):Option V:=(l[a]?).bind fun q=>if p q then some (g q) else none
theorem pickF_some {α:Type} {l:List α} {p:α → Bool} {g:α → V} {a:Nat} {q:α} (h:l[a]? = some q):pickF l p g a = if p q then some (g q) else none:=by
 unfold pickF;rw [h];rfl
theorem fm_filter {α:Type} (l:List α) (p:α → Bool) (g:α → V):fm (pickF l p g) l.length = (l.filter p).map g:=by
 have key:∀ (m:List α),fm (fun a=>pickF (m ++ l) p g (m.length + a)) l.length = (l.filter p).map g:=by
  induction l with
  | nil=>intro m;rfl
  | cons x r ih=>
   intro m
   have e:=ih (m ++ [x])
   unfold fm at e ⊢
   rw [List.length_cons,List.range_succ_eq_map,List.filterMap_cons,List.filterMap_map]
   have h0:pickF (m ++ x :: r) p g (m.length + 0) = if p x then some (g x) else none:=pickF_some (by rw [List.getElem?_append_right (by omega)];simp)
   have h1:((fun a=>pickF (m ++ x :: r) p g (m.length + a)) ∘ Nat.succ) = fun a=>pickF (m ++ [x] ++ r) p g ((m ++ [x]).length + a):=by
    funext a
    show pickF (m ++ x :: r) p g (m.length + (a + 1)) = _
    rw [show m ++ [x] ++ r = m ++ x :: r by simp,show (m ++ [x]).length + a = m.length + (a + 1) by simp;exact ce0]
   rw [h1,e,List.filter_cons,h0]
   cases hp:p x <;> simp
 have:=key []
 simpa using this
section
variable {b:Cx} {L:Addr} {σ:St}
theorem law_above {T0 itv i t:Nat} {K:List Bool} {kn:Nm} {ds:List Dc} {rs:List Rw} {Q:Fl → St → Prop} (g:Good (lw b L)) (w:WF K ds rs) (l:LH T0 itv K kn rs t σ.hp) (hi:rs.length = i) (hK:K.length ≤ 6) (N:New i σ.hp)
  (vr:σ.vars "rows" = some (.ref (20,3,0))) (vs:σ.vars "step" = some (.int (i:Int))) (vh:σ.vars "homes" = some (.ref (20,2,0)))
  (h:Q .next ((⟨σ.vars,(σ.hp.set (0,t,1) .dead).set (23,i,1) (.list (((trues K).filter (abv rs)).map fun q:Nat=>.int (q:Int)))⟩ : St).var "above" (.ref (23,i,1)))):mS (lw b L) (loopSt 3) Q σ:=by
 rw [show loopSt 3 = .Assign [.Name "above" _] (.ListComp _ _ _ _) _ from rfl]
 have hl:=trues_len K
 have wl:=w.len
 have wle:=w.le
 have eH:=l.homes
 have eN:((trues K).map fun q:Nat=>V.int (q:Int)).length = (trues K).length:=by simp
 refine mS_pc (23,i,1) (0,t,1) _ ["step", "rows"] (hs:=fun _=>σ.hp) (pickF (trues K) (abv rs) fun q:Nat=>V.int (q:Int)) (Src.list (l:=(20,2,0)) (xs:=(trues K).map fun q:Nat=>.int (q:Int)) (by walk_at "ne") (fun _=>eH) (by walk_at "ne") (by walk_at "ne")) (N (23,i,1) (by show 21 ≤ 23;decide) (Nat.le_refl _)) (by exact cb3 hK hl (eL eN)) g.ok rfl rfl (by decide) (fun y hy=>lk_mem hy) (fun y hy=>by simp only [List.mem_cons,List.not_mem_nil,or_false] at hy;rcases hy with rfl | rfl <;> exact ⟨rfl,rfl,rfl⟩) (by show List.Nodup [_,_];simp) (by decide) (by decide) rfl (by decide) rfl (.inl rfl) ?_ ?_ ?_
 ·refine mE_local g.ok vh ?_
  exact it_list (0,t,1) eH (l.free _ _ (Nat.le_refl _)) ⟨rfl,rfl⟩
 ·rintro B C ok' a ha pre h' rfl
  have gc:Good ((lw b L).comp B C _ [(_,_),(_,_)]):=⟨ok',g.hK⟩
  rw [eN] at ha
  obtain ⟨q,hq⟩ : ∃ q,(trues K)[a]? = some q:=⟨_,List.getElem?_eq_getElem ha⟩
  obtain ⟨hq1,hq2⟩:=trues_mem (List.mem_of_getElem? hq)
  have ev:((trues K).map fun q:Nat=>V.int (q:Int)).getD a .none = .int (q:Int):=by rw [List.getD_eq_getElem?_getD,List.getElem?_map,hq];rfl
  simp only [ev,pickF_some hq]
  obtain ⟨h₂,hh⟩ : ∃ h₂,h₂ = ((σ.hp.set (0,t,1) (.raw "list_iterator" [.v (.ref (20,2,0)),.ri (a + 1:Nat)])).set (23,i,1) (.list pre)):=⟨_,rfl⟩
  have eR:h₂ (20,3,0) = some (.list ((List.range rs.length).map fun i=>.ref (21,i,0))):=by rw [hh];exact l.rows
  have e21:∀ q,h₂ (21,q,0) = σ.hp (21,q,0):=fun q=>by rw [hh,H.set_ne _ _ (by walk_at "ne"),H.set_ne _ _ (by walk_at "ne")]
  rw [← hh]
  have hkeep:∀ y ∈ [("step" : Str), "rows"],(fun y=>if y = ("home" : Str) then some (V.int (q:Int)) else cvars ["step", "rows"] σ y) y = σ.vars y:=fun y hy=>by
   simp only [List.mem_cons,List.not_mem_nil,or_false] at hy
   rcases hy with rfl | rfl <;> rfl
  clear hh
  show mT _ _ _ _
  refine mT_and (mT_cmp (mE_local gc.ok rfl (mE_cell gc.ok vs (c_lt (t_bool ?_)))))
  by_cases qi:(q:Int) < (i:Int)
  ·rw [decide_eq_true qi]
   show mT _ _ _ _
   obtain ⟨r,hr⟩ : ∃ r,rs[q]? = some r:=⟨_,List.getElem?_eq_getElem (by omega)⟩
   have hk:=w.kind hr
   rw [List.getD_eq_getElem?_getD,hk] at hq2
   cases r with
   | ptr tg=>cases hq2
   | rcd lev bb sz m fl=>
    obtain ⟨r1,r2,r3,r4⟩:=l.row _ _ hr
    refine mT_and ?_
    refine mT_cmp (mE_sub (mE_sub (mE_cell gc.ok vr (mE_local gc.ok rfl ?_))))
    refine s_list (v:=.ref (21,q,0)) eR (by omega) (by rw [Int.toNat_natCast,List.getElem?_map,List.getElem?_range (by omega)];rfl) ?_ (by simp;omega)
    walk_at "es"
    refine s_any (s_tup ((e21 q).trans r1) (j:=1) rfl rfl ?_)
    walk_at "es"
    refine c_lt (t_bool ?_)
    by_cases ql:(lev:Int) < 3
    ·rw [decide_eq_true ql]
     show mT _ _ _ _
     refine mT_and0 ?_
     show mE _ _ _ _
     have ea:abv rs q = true:=by unfold abv;rw [hr];exact decide_eq_true (by omega)
     walk_at "es"
     exact ⟨hkeep,rfl,by rw [ea];rfl⟩
    ·rw [decide_eq_false ql]
     have ea:abv rs q = false:=by unfold abv;rw [hr];exact decide_eq_false (by omega)
     exact ⟨hkeep,rfl,by rw [ea];rfl⟩
  ·rw [decide_eq_false qi]
   have ea:abv rs q = false:=by
    unfold abv
    rw [List.getElem?_eq_none (by omega)]
   exact ⟨hkeep,rfl,by rw [ea];rfl⟩
 ·simp only [eN,fm_filter]
  exact h
end
noncomputable def BaseR (rs:List Rw) (bo:Option Nat) (lev0 s0:Nat) (m0:List Int):Prop:=match bo with
 | none=>lev0 = 0 ∧ s0 = 0 ∧ m0 = []
 | some x=>∃ lev bb fl,rs[x]? = some (.rcd lev bb s0 m0 fl) ∧ lev < 3 ∧ lev0 = lev + 1
set_option tactic.hygienic true in
theorem BaseR.of {rs:List Rw} {bo:Option Nat} {K:List Bool} (h:∀ x,bo = some x → x ∈ (trues K).filter (abv rs)):∃ lev0 s0 m0,BaseR rs bo lev0 s0 m0:=by
 cases bo with
 | none=>exact ⟨0,0,[],rfl,rfl,rfl⟩
 | some x=>
  have h1:=(List.mem_filter.mp (h x rfl)).2
  unfold abv at h1
  split at h1
  ·rename_i lev bb sz m fl e
   exact ⟨lev + 1,sz,m,lev,bb,fl,e,of_decide_eq_true h1,rfl⟩
  ·cases h1
section
variable {b:Cx} {L:Addr} {σ:St}
theorem law_base {T0 itv i t:Nat} {K:List Bool} {kn:Nm} {rs:List Rw} {A:List Nat} {Q:Fl → St → Prop} {k:Nat} (g:Good (lw b L)) (rm:Rm (lw b L) (k + 1)) (l:LH T0 itv K kn rs t σ.hp) (hA:A.length ≤ 6)
  (va:σ.vars "above" = some (.ref (23,i,1))) (vp:σ.vars "pool" = some (.ref PL)) (ea:σ.hp (23,i,1) = some (.list (A.map fun q:Nat=>.int (q:Int))))
  (h:∀ (bo:Option Nat) h',(∀ x,bo = some x → x ∈ A) → LH T0 itv K kn rs (t + 1) h' → (∀ n:Nm,n.1 ≠ 0 → n ≠ PL → h' n = σ.hp n) → Q .next ((⟨σ.vars,h'⟩ : St).var "base" (.int (bV bo)))):mS (lw b L) (loopSt 4) Q σ:=by
 rw [show loopSt 4 = .Assign [.Name "base" _] _ _ from rfl]
 refine mS_assign ?_
 refine mE_ifexp ?_
 refine mT_and (mT_cmp (mE_local g.ok va ?_))
 walk_at "es"
 refine l_new (0,t,0) (l.free _ _ (Nat.le_refl _)) ?_ (by simp)
 have l₁:LH T0 itv K kn rs (t + 1) (σ.hp.set (0,t,0) (.list [])):=l.put (Nat.le_succ t) (.inl ⟨rfl,l.lt,Nat.lt_succ_self t⟩)
 have k₁:∀ n:Nm,n.1 ≠ 0 → (σ.hp.set (0,t,0) (.list [])) n = σ.hp n:=fun n hn=>H.set_ne _ _ (by rintro rfl;exact hn rfl)
 have ea₁:(σ.hp.set (0,t,0) (.list [])) (23,i,1) = some (.list ((A.map fun q:Nat=>(q:Int)).map V.int)):=by
  rw [List.map_map];exact (k₁ _ (by show 23 ≠ 0;decide)).trans ea
 refine c_neL (xs:=A.map fun q:Nat=>(q:Int)) (ys:=[]) (by have:=rm.2;exact cb1 this) ea₁ (H.set_self σ.hp (0,t,0) _) (t_bool ?_)
 obtain ⟨h₁,hh⟩ : ∃ h₁,h₁ = σ.hp.set (0,t,0) (.list []):=⟨_,rfl⟩
 simp only [St.put]
 rw [← hh] at l₁ k₁ ea₁ ⊢
 clear hh
 cases A with
 | nil=>
  show mE _ _ _ _
  walk_at "es"
  refine u_neg ?_
  walk_at "es"
  exact h none h₁ (fun x hx=>by cases hx) l₁ fun n a _=>k₁ n a
 | cons x r=>
  show mT _ _ _ _
  obtain ⟨A,hAA⟩ : ∃ A,A = x :: r:=⟨_,rfl⟩
  rw [← hAA] at hA ea₁ h
  have hne:1 ≤ A.length:=by rw [hAA];simp
  clear hAA ea
  refine mT_and (mT_cmp ?_)
  refine q_call g nk_law_pick ?_
  refine mL_cons (mE_cell g.ok vp ?_)
  walk_at "es"
  refine sp_pick (lim:=2) (k:=k) g rm l₁.pool (by decide) (by decide) fun h₂ v hv P₂ S₂=>?_
  have l₂:=l₁.pick P₂ S₂
  walk_at "es"
  refine c_eq (t_bool ?_)
  by_cases q:(v:Int) = 1
  ·rw [decide_eq_true q]
   show mT _ _ _ _
   refine mT_and0 ?_
   show mE _ _ _ _
   refine mE_sub (mE_local g.ok va ?_)
   refine q_call g nk_law_pick ?_
   refine mL_cons (mE_cell g.ok vp ?_)
   refine mL_cons (q_bi g nb_len bb_len ?_)
   refine mL_cons (mE_local g.ok va ?_)
   walk_at "es"
   have ea₂:=(S₂ (23,i,1) (by walk_at "ne")).trans ea₁
   refine MW1.toS (f_lenL ea₂ ?_ (by simp;omega))
   rw [List.length_map,List.length_map]
   walk_at "es"
   refine sp_pick (lim:=A.length) (k:=k) g rm P₂ hne (by omega) fun h₃ v₃ hv₃ P₃ S₃=>?_
   refine s_list (v:=.int (A[v₃]:Int)) ((S₃ (23,i,1) (by walk_at "ne")).trans ea₂) (by omega) (by rw [Int.toNat_natCast,List.getElem?_map,List.getElem?_map,List.getElem?_eq_getElem hv₃];rfl) ?_ (by simp;omega)
   walk_at "es"
   exact h (some A[v₃]) h₃ (fun x hx=>by cases hx;exact List.getElem_mem hv₃) (l₂.pick P₃ S₃) fun n a d=>(S₃ n d).trans ((S₂ n d).trans (k₁ n a))
  ·rw [decide_eq_false q]
   show mE _ _ _ _
   walk_at "es"
   refine u_neg ?_
   walk_at "es"
   exact h none h₂ (fun x hx=>by cases hx) l₂ fun n a d=>(S₂ n d).trans (k₁ n a)
theorem ge_base (bo:Option Nat):decide ((0:Int) ≤ bV bo) = bo.isSome:=by
 cases bo with
 | none=>rfl
 | some x=>exact decide_eq_true (Int.natCast_nonneg x)
theorem law_5 {bo:Option Nat} {W:Str} {Q:Fl → St → Prop} (g:Good (lw b L)) (vb:σ.vars "base" = some (.int (bV bo))) (vw:σ.vars "wide" = some (.str W)) (hb:∀ x,bo = some x → x < 60) (hW:W.length ≤ 10000)
  (h:Q .next (σ.var "wide" (.str (W ++ tT ((true,cw "RECORD") :: atB bo))))):mS (lw b L) (loopSt 5) Q σ:=by
 rw [show loopSt 5 = .AugAssign (.Name "wide" _) _ _ _ from rfl]
 refine mS_aug (mN_local g.ok vw ?_)
 walk_at "es"
 refine mE_ifexp (mT_cmp (mE_local g.ok vb ?_))
 walk_at "es"
 refine c_ge (t_bool ?_)
 rw [ge_base]
 cases bo with
 | none=>
  show mE _ _ _ _
  walk_at "es"
  refine b_cat ?_ (by decide)
  refine i_cat ?_ (by show W.length + 7 ≤ _;exact cb1 hW)
  walk_at "es"
  rewrite [tT_rec]
  exact h
 | some x=>
  have hx:=hb x rfl
  have ln:=ln_name x hx
  show mE _ _ _ _
  walk_at "es"
  refine q_ty g nb_str bb_str ?_
  refine mL_cons (mE_local g.ok vb ?_)
  walk_at "es"
  refine MW1.toS (f_str ?_ (by show _ < (x:Int);omega) (by show (x:Int) < _;omega))
  refine b_cat ?_ (by show 3 + (dgS x).length ≤ _;exact cb1 ln.2)
  walk_at "es"
  have l1:(" (T" ++ dgS x:Str).length = 3 + (dgS x).length:=slen _ _
  refine b_cat ?_ (by show (" (T" ++ dgS x:Str).length + 1 ≤ _;exact cb2 ln.2 (eL l1))
  have l2:(" (T" ++ dgS x ++ ")" : Str).length = (" (T" ++ dgS x:Str).length + 1:=slen _ _
  refine b_cat ?_ (by show 7 + (" (T" ++ dgS x ++ ")" : Str).length ≤ _;exact cb3 ln.2 (eL l1) (eL l2))
  have l3:(" RECORD" ++ (" (T" ++ dgS x ++ ")"):Str).length = 7 + (" (T" ++ dgS x ++ ")" : Str).length:=slen _ _
  refine i_cat ?_ (by show W.length + (" RECORD" ++ (" (T" ++ dgS x ++ ")"):Str).length ≤ _;omega)
  walk_at "es"
  rewrite [show (" RECORD" ++ (" (T" ++ Str.ofString (toString (bV (some x))) ++ ")"):Str) = _ from tT_recB x hx]
  exact h
end
section
variable {b:Cx} {L:Addr} {σ:St}
theorem law_6 {T0 itv t:Nat} {K:List Bool} {kn:Nm} {rs:List Rw} {bo:Option Nat} {lev0 s0:Nat} {m0:List Int} {Q:Fl → St → Prop} (g:Good (lw b L)) (l:LH T0 itv K kn rs t σ.hp) (hz:rs.length ≤ 6) (B:BaseR rs bo lev0 s0 m0) (vb:σ.vars "base" = some (.int (bV bo))) (vr:σ.vars "rows" = some (.ref (20,3,0)))
  (h:Q .next (σ.var "spot" (.int (s0:Int)))):mS (lw b L) (loopSt 6) Q σ:=by
 rw [show loopSt 6 = .Assign [.Name "spot" _] _ _ from rfl]
 refine mS_assign (mE_ifexp (mT_cmp (mE_local g.ok vb ?_)))
 walk_at "es"
 refine c_ge (t_bool ?_)
 rw [ge_base]
 cases bo with
 | none=>
  obtain ⟨rfl,rfl,rfl⟩:=B
  show mE _ _ _ _
  walk_at "es"
  exact m_storeC g.ok h
 | some x=>
  obtain ⟨lev,bb,fl,hr,_,_⟩:=B
  show mE _ _ _ _
  refine mE_sub (mE_sub (mE_cell g.ok vr (mE_local g.ok vb ?_)))
  have hx:=getl hr
  refine s_list (v:=.ref (21,x,0)) l.rows (by show (0:Int) ≤ (x:Int);omega) (by show (List.map _ _)[((x:Nat):Int).toNat]? = _;rw [Int.toNat_natCast,List.getElem?_map,List.getElem?_range hx];rfl) ?_ (by simp;omega)
  walk_at "es"
  refine s_any (s_tup (l.row _ _ hr).1 (j:=3) rfl rfl ?_)
  exact m_storeC g.ok h
theorem law_7 {T0 itv t i:Nat} {K:List Bool} {kn:Nm} {rs:List Rw} {bo:Option Nat} {lev0 s0:Nat} {m0:List Int} {Q:Fl → St → Prop} (g:Good (lw b L)) (l:LH T0 itv K kn rs t σ.hp) (hz:rs.length ≤ 6) (B:BaseR rs bo lev0 s0 m0) (hm:m0.length ≤ 900) (vb:σ.vars "base" = some (.int (bV bo))) (vr:σ.vars "rows" = some (.ref (20,3,0)))
  (hn:σ.hp (21,i,1) = none) (h:Q .next ((σ.put (21,i,1) (.list (m0.map V.int))).var "marks" (.ref (21,i,1)))):mS (lw b L) (loopSt 7) Q σ:=by
 rw [show loopSt 7 = .Assign [.Name "marks" _] _ _ from rfl]
 refine mS_assign (mE_ifexp (mT_cmp (mE_local g.ok vb ?_)))
 walk_at "es"
 refine c_ge (t_bool ?_)
 rw [ge_base]
 cases bo with
 | none=>
  obtain ⟨rfl,rfl,rfl⟩:=B
  show mE _ _ _ _
  walk_at "es"
  refine l_new (21,i,1) hn ?_ (by simp)
  walk_at "es"
  exact h
 | some x=>
  obtain ⟨lev,bb,fl,hr,_,_⟩:=B
  show mE _ _ _ _
  refine q_ty g nb_list bb_list ?_
  refine mL_cons (mE_sub (mE_sub (mE_cell g.ok vr (mE_local g.ok vb ?_))))
  have hx:=getl hr
  refine s_list (v:=.ref (21,x,0)) l.rows (by show (0:Int) ≤ (x:Int);omega) (by show (List.map _ _)[((x:Nat):Int).toNat]? = _;rw [Int.toNat_natCast,List.getElem?_map,List.getElem?_range hx];rfl) ?_ (by simp;omega)
  walk_at "es"
  refine s_any (s_tup (l.row _ _ hr).1 (j:=4) rfl rfl ?_)
  walk_at "es"
  refine MW1.toS (f_list (21,i,1) (l.row _ _ hr).2.1 (by simp;omega) hn ?_)
  walk_at "es"
  exact h
theorem law_8 {T0 itv t i:Nat} {K:List Bool} {kn:Nm} {rs:List Rw} {Q:Fl → St → Prop} (g:Good (lw b L)) (l:LH T0 itv K kn rs t σ.hp) (hi:i ≤ 6) (hiK:i ≤ K.length) (hK:K.length ≤ 6) (hn:σ.hp (23,i,0) = none) (vs:σ.vars "step" = some (.int (i:Int))) (vk:σ.vars "kinds" = some (.ref kn))
  (h:Q .next ((⟨σ.vars,((σ.hp.set (0,t,0) (rgO i)).set (0,t,1) .dead).set (23,i,0) (.list ((pts K i).map fun k=>.str (tnm k)))⟩ : St).var "pointers" (.ref (23,i,0)))):mS (lw b L) (loopSt 8) Q σ:=by
 rw [show loopSt 8 = .Assign [.Name "pointers" _] (.ListComp _ _ _ _) _ from rfl]
 refine mS_pc (23,i,0) (0,t,1) _ ["kinds"] (hs:=fun _=>σ.hp.set (0,t,0) (rgO i)) (N:=i) (fun a=>if !(K.getD a false) then some (.str (tnm a)) else none) (Src.range (by walk_at "ne")) ((H.set_ne σ.hp _ (by walk_at "ne")).trans hn) (by omega) g.ok rfl rfl (by decide) (fun y hy=>lk_mem hy) (by rintro y hy;cases List.mem_singleton.mp hy;exact ⟨rfl,rfl,rfl⟩) (List.pairwise_singleton _ _) (by decide) (by decide) rfl (by decide) rfl (.inl rfl) ?_ ?_ ?_
 ·refine q_ty g nb_range bb_range ?_
  refine mL_cons (mE_cell g.ok vs ?_)
  walk_at "es"
  refine MW1.toS (rg_newN (0,t,0) (l.free _ _ (Nat.le_refl _)) ?_)
  exact it_rangeN (0,t,1) (H.set_self _ _ _) (by omega) (H.skip (h:=σ.hp) (by walk_at "ne") (l.free _ _ (Nat.le_refl _))) ⟨rfl,rfl⟩
 ·rintro B C ok' a ha pre h' rfl
  have gc:Good ((lw b L).comp B C _ [(_,_)]):=⟨ok',g.hK⟩
  show mT _ _ _ _
  refine mT_cmp (mE_sub (mE_cell gc.ok vk (mE_local gc.ok rfl ?_)))
  have ek:(((σ.hp.set (0,t,0) (rgO i)).set (0,t,1) (rgI (a + 1) i)).set (23,i,0) (.list pre)) kn = some (.list (K.map kdV)):=by
   rcases l.kno with q | q
   ·have:=l.kinds;rw [q] at this ⊢;exact this
   ·have:=l.kinds;rw [q] at this ⊢;exact this
  refine s_list (v:=kdV (K.getD a false)) ek (by omega) (by rw [Int.toNat_natCast,List.getElem?_map,List.getD_eq_getElem?_getD,List.getElem?_eq_getElem (by omega)];rfl) ?_ (by simp;omega)
  walk_at "es"
  refine c_eqS (t_bool ?_)
  cases hb:K.getD a false with
  | true=>exact ⟨fun y hy=>by cases List.mem_singleton.mp hy;rfl,rfl,rfl⟩
  | false=>
   show mE _ _ _ _
   walk_at "es"
   refine q_ty gc nb_str bb_str ?_
   walk_at "es"
   refine MW1.toS (f_str ?_ (by omega) (by omega))
   have ln:=ln_name a (by exact cb3 hiK hK ha)
   refine b_cat ?_ (by show 1 + (dgS a).length ≤ _;exact cb1 ln.2)
   exact ⟨fun y hy=>by cases List.mem_singleton.mp hy;rfl,rfl,rfl⟩
 ·have e:fm (fun a=>if !(K.getD a false) then some (V.str (tnm a)) else none) i = (pts K i).map fun k=>.str (tnm k):=by
   unfold fm pts
   generalize List.range i = l
   induction l with
   | nil=>rfl
   | cons x r ih=>
    rw [List.filterMap_cons,List.filter_cons]
    cases hb:K.getD x false <;> simp only [hb,if_true,if_false,Bool.false_eq_true,List.map_cons,ih,Bool.not_true,Bool.not_false]
  rw [e];exact h
end
structure FS (T0 itv:Nat) (K:List Bool) (kn:Nm) (rs:List Rw) (i s0:Nat) (m0:List Int) (fs:List FK) (t:Nat) (h:H):Prop where
 lh:LH T0 itv K kn rs t h
 marks:h (21,i,1) = some (.list ((m0 ++ (layF i 0 s0 fs).1).map V.int))
 flds:h (21,i,2) = some (.list ((List.range fs.length).map fun j=>.ref (22,i,j)))
 fld:∀ (j:Nat) (x:Str × Nat),(layF i 0 s0 fs).2.1[j]? = some x → h (22,i,j) = some (.tup [.str x.1,.int (x.2:Int)])
 pts:h (23,i,0) = some (.list ((pts K i).map fun k=>.str (tnm k)))
 row0:h (21,i,0) = none
 new:New (i + 1) h
 free22:∀ j,fs.length ≤ j → h (22,i,j) = none
theorem layF_len (i:Nat):∀ (fs:List FK) (j s:Nat),(layF i j s fs).2.1.length = fs.length
 | [],_,_=>rfl
 | f :: r,j,s=>by
  show ((_:Str × Nat) :: (layF i (j + 1) _ r).2.1).length = r.length + 1
  rw [List.length_cons,layF_len i r]
theorem FS.same {T0 itv:Nat} {K:List Bool} {kn:Nm} {rs:List Rw} {i s0:Nat} {m0:List Int} {fs:List FK} {t t' : Nat} {h h' : H} (F:FS T0 itv K kn rs i s0 m0 fs t h) (l:LH T0 itv K kn rs t' h') (S:∀ n:Nm,n.1 ≠ 0 → n ≠ PL → h' n = h n):FS T0 itv K kn rs i s0 m0 fs t' h':=by
 have q:∀ n:Nm,21 ≤ n.1 → h' n = h n:=fun n a=>S n (by exact fun q=>cf2 (eL q) a) (by rintro rfl;exact absurd a (by decide))
 exact ⟨l,(q _ (by show 21 ≤ 21;decide)).trans F.marks,(q _ (by show 21 ≤ 21;decide)).trans F.flds,fun j x hx=>(q _ (by show 21 ≤ 22;decide)).trans (F.fld j x hx),(q _ (by show 21 ≤ 23;decide)).trans F.pts,(q _ (by show 21 ≤ 21;decide)).trans F.row0,fun n a b=>(q n a).trans (F.new n a b),fun j hj=>(q _ (by show 21 ≤ 22;decide)).trans (F.free22 j hj)⟩
section
variable {b:Cx} {L:Addr} {σ:St}
theorem law_turn {T0 itv t i a s0:Nat} {K:List Bool} {kn:Nm} {rs:List Rw} {m0:List Int} {fs:List FK} {W:Str} {Q:Fl → St → Prop} {k:Nat} (g:Good (lw b L)) (rm:Rm (lw b L) (k + 2)) (F:FS T0 itv K kn rs i s0 m0 fs t σ.hp) (hi:rs.length = i) (hiK:i < 6) (ha:fs.length = a) (ha3:a < 3) (hok:∀ f ∈ fs,f.ok (pts K i)) (hm0:m0.length ≤ 900)
  (vp:σ.vars "pool" = some (.ref PL)) (vr:σ.vars "rows" = some (.ref (20,3,0))) (vpt:σ.vars "pointers" = some (.ref (23,i,0))) (vst:σ.vars "step" = some (.int (i:Int))) (vag:σ.vars "again" = some (.int (a:Int))) (vm:σ.vars "marks" = some (.ref (21,i,1))) (vf:σ.vars "fields" = some (.ref (21,i,2)))
  (vs:σ.vars "spot" = some (.int (((layF i 0 s0 fs).2.2:Nat):Int))) (vw:σ.vars "wide" = some (.str W)) (hW:W.length ≤ 10000)
  (h:∀ (f:FK) σ',f.ok (Mine.pts K i) → FS T0 itv K kn rs i s0 m0 (fs ++ [f]) (t + 4) σ'.hp → Fw t σ.hp σ'.hp → σ'.vars "spot" = some (.int (((layF i 0 s0 (fs ++ [f])).2.2:Nat):Int)) → σ'.vars "wide" = some (.str (W ++ tT (atF i a f))) → (tT (atF i a f)).length ≤ 60 → (∀ y:Str,y ∉ [("spelled" : Str), "size", "unit", "inner", "spot", "wide", "marks"] → σ'.vars y = σ.vars y) → σ'.vars "marks" = some (.ref (21,i,1)) → Q .next σ'):mB (lw b L) innB Q σ:=by
 rw [innB_eq]
 have hij:10 * i + a < 60:=by omega
 refine mB_cons ?_
 rw [show innSt 0 = .Assign [.Tuple _ _ _] _ _ from rfl]
 refine mS_assignAs ⟨_,_,_,rfl⟩ ?_
 refine q_call g nk_law_field ?_
 refine mL_cons (mE_cell g.ok vp (mL_cons (mE_cell g.ok vr (mL_cons (mE_local g.ok vpt (mL_nil ?_))))))
 have hpl:(pts K i).length ≤ 100:=by
  unfold Mine.pts
  have:=List.length_filter_le (fun k=>!(K.getD k false)) (List.range i)
  rw [List.length_range] at this;exact cb2 hij this
 refine sp_field (pn:=(23,i,0)) (pts:=pts K i) (t:=t) (k:=k) g rm F.lh.pool (by show 23 ≠ 0;decide) (by walk_at "ne") F.pts hpl (fun k hk=>by have:=(mem_pts hk).1;exact cb2 hij this) F.lh.free rfl fun h₁ f hf P₁ S₁ Fr₁ Fw₁ e0 e1=>?_
 have hsm:=FK.ok_sm hf (by omega)
 have l₁:LH T0 itv K kn rs (t + 2) h₁:=F.lh.via P₁ Fr₁ (by omega) fun n hn=>by
  rcases hn with rfl | ⟨x,y,z⟩ | ⟨x,y⟩
  ·exact Fw₁ _ _ F.lh.lt
  ·exact S₁ n (by exact fun q=>cf2 (eL q) x) z
  ·exact S₁ n (by exact fun q=>cf2 (eL q) x) (by rintro rfl;exact absurd x (by decide))
 have F₁:=F.same l₁ S₁
 refine as_tup g.ok e0 rfl ?_
 refine ao_cons (as_name g.ok ?_)
 refine ao_cons (as_name g.ok ?_)
 refine ao_cons (as_name g.ok ?_)
 refine ao_cons (as_name g.ok ?_)
 refine ao_nil ?_
 show mB _ _ _ _
 obtain ⟨z1,z2,z3⟩:=f.size_le hsm
 refine mB_cons (law_padU (s:=(layF i 0 s0 fs).2.2) (u:=f.unit) g z3 rfl vs fun σ₂ q1 q2 q3=>?_)
 obtain ⟨sp,hsp⟩ : ∃ sp,sp = up (layF i 0 s0 fs).2.2 f.unit:=⟨_,rfl⟩
 rw [← hsp] at q2
 have y0:∀ y:Str,y ∉ [("spelled" : Str), "size", "unit", "inner", "spot", "wide", "marks"] → σ₂.vars y = σ.vars y:=fun y hy=>by
  simp only [List.mem_cons,List.not_mem_nil,or_false,not_or] at hy
  obtain ⟨a1,a2,a3,a4,a5,a6,a7⟩:=hy
  refine (q3 y a5).trans ((if_neg a4).trans ((if_neg a3).trans ((if_neg a2).trans (if_neg a1))))
 have y1:σ₂.vars "spelled" = some (.str f.sp):=q3 _ (by decide)
 have y2:σ₂.vars "size" = some (.int (f.size:Int)):=q3 _ (by decide)
 have y3:σ₂.vars "inner" = some (.ref (0,t + 1,1)):=q3 _ (by decide)
 have y4:σ₂.vars "wide" = some (.str W):=(q3 _ (by decide)).trans vw
 have y5:σ₂.vars "marks" = some (.ref (21,i,1)):=(q3 _ (by decide)).trans vm
 have q1' : σ₂.hp = h₁:=q1
 obtain ⟨v₂,hp₂⟩:=σ₂
 cases q1'
 have x1:=(y0 "step" (by decide)).trans vst
 have x2:=(y0 "again" (by decide)).trans vag
 have x3:=(y0 "fields" (by decide)).trans vf
 clear q3 q1
 show mB _ _ _ _
 refine mB_cons ?_
 rw [show innSt 2 = .AugAssign (.Name "wide" _) _ _ _ from rfl]
 refine mS_aug (mN_local g.ok y4 ?_)
 have ln:=ln_name (10 * i + a) hij
 have lk:=ln_K hsm
 have estr:((10:Int) * (i:Int) + (a:Int)) = ((10 * i + a:Nat):Int):=by omega
 have lf:(tT (atF i a f)).length ≤ 60:=by
  rw [← tT_F hsm hij,slen,slen,slen,slen]
  show 2 + (dgS (10 * i + a)).length + 2 + f.sp.length + 1 ≤ 60
  exact cb2 ln.2 lk
 refine mE_bin (mE_bin (mE_bin (mE_bin (mE_str ?_))))
 refine q_ty g nb_str bb_str ?_
 refine mL_cons (mE_bin (mE_bin (mE_int (mE_cell g.ok x1 (b_mul ?_ (by decide) (by decide))))))
 refine mE_local g.ok x2 (b_add ?_)
 rw [estr]
 walk_at "es"
 refine MW1.toS (f_str ?_ (by omega) (by omega))
 refine b_cat ?_ (by show 2 + (dgS (10 * i + a)).length ≤ _;exact cb1 ln.2)
 walk_at "es"
 have w1:(" f" ++ dgS (10 * i + a):Str).length = 2 + (dgS (10 * i + a)).length:=slen _ _
 refine b_cat ?_ (by show (" f" ++ dgS (10 * i + a):Str).length + 2 ≤ _;exact cb2 ln.2 (eL w1))
 have w2:(" f" ++ dgS (10 * i + a) ++ ": " : Str).length = (" f" ++ dgS (10 * i + a):Str).length + 2:=slen _ _
 refine mE_local g.ok y1 ?_
 refine b_cat ?_ (by show (" f" ++ dgS (10 * i + a) ++ ": " : Str).length + f.sp.length ≤ _;omega)
 have w3:(" f" ++ dgS (10 * i + a) ++ ": " ++ f.sp:Str).length = (" f" ++ dgS (10 * i + a) ++ ": " : Str).length + f.sp.length:=slen _ _
 walk_at "es"
 refine b_cat ?_ (by show (" f" ++ dgS (10 * i + a) ++ ": " ++ f.sp:Str).length + 1 ≤ _;omega)
 rw [show (" f" ++ Str.ofString (toString ((10 * i + a:Nat):Int)) ++ ": " ++ f.sp ++ ";" : Str) = _ from tT_F hsm hij]
 refine i_cat ?_ (by exact cb2 hW lf)
 refine m_store g.ok ?_
 show mB _ _ _ _
 refine mB_cons ?_
 rw [show innSt 3 = .Expr (.Call (.Attribute _ _ _) _ _ _) _ from rfl]
 refine mS_expr ?_
 refine mE_bm (mE_local g.ok x3 ⟨_,meth_append F₁.flds,?_⟩)
 refine mL_cons (mE_tup (mL_cons (mE_bin (mE_str ?_))))
 refine q_ty g nb_str bb_str ?_
 refine mL_cons (mE_bin (mE_bin (mE_int (mE_cell g.ok x1 (b_mul ?_ (by decide) (by decide))))))
 refine mE_local g.ok x2 (b_add ?_)
 rw [estr]
 walk_at "es"
 refine MW1.toS (f_str ?_ (by omega) (by omega))
 refine b_cat ?_ (by show 1 + (dgS (10 * i + a)).length ≤ _;exact cb1 ln.2)
 refine mL_cons (mE_cell g.ok q2 (mL_nil ?_))
 refine t_new (22,i,a) (F₁.free22 a (by exact cb1 (eL ha))) ?_ (by simp)
 refine mL_nil ?_
 refine MW2.toS (l_append (xs:=(List.range fs.length).map fun j=>.ref (22,i,j)) F₁.flds ?_ (by simp;exact cb2 (eL ha) ha3))
 show mB _ _ _ _
 have hne:((22,i,a):Nm) ≠ (21,i,2):=by intro q;cases q
 obtain ⟨h₃,hh⟩ : ∃ h₃,h₃ = (hp₂.set (22,i,a) (.tup [.str (fnm i a),.int (sp:Int)])).set (21,i,2) (.list (((List.range fs.length).map fun j=>V.ref (22,i,j)) ++ [.ref (22,i,a)])):=⟨_,rfl⟩
 have l₃:LH T0 itv K kn rs (t + 2) h₃:=hh ▸ (l₁.put (Nat.le_refl _) (.inr ⟨by show 21 ≤ 22;decide,by show rs.length ≤ i;exact cb1 (eL hi)⟩)).put (Nat.le_refl _) (.inr ⟨by show 21 ≤ 21;decide,by show rs.length ≤ i;exact cb1 (eL hi)⟩)
 have same₃:∀ n:Nm,n ≠ (22,i,a) → n ≠ (21,i,2) → h₃ n = hp₂ n:=fun n a1 a2=>by rw [hh,H.set_ne _ _ a2,H.set_ne _ _ a1]
 have em₃:h₃ (21,i,1) = some (.list ((m0 ++ (layF i 0 s0 fs).1).map V.int)):=(same₃ _ (by walk_at "ne") (by walk_at "ne")).trans F₁.marks
 have ef₃:h₃ (21,i,2) = some (.list ((List.range (fs ++ [f]).length).map fun j=>.ref (22,i,j))):=by
  rw [hh,H.set_self,List.length_append,List.length_singleton,List.range_succ,List.map_append,ha];rfl
 have et₃:h₃ (22,i,a) = some (.tup [.str (fnm i a),.int (sp:Int)]):=by rw [hh,H.set_ne _ _ hne,H.set_self]
 have e1₃:h₃ (0,t + 1,1) = some (.list (f.inner.map V.int)):=(same₃ _ (by walk_at "ne") (by walk_at "ne")).trans e1
 simp only [St.put,St.var]
 rw [show (({ vars:=v₂,hp:=hp₂ }:St).hp.set (22,i,a) (.tup [.str ("f" ++ Str.ofString (toString ((10 * i + a:Nat):Int))),.int (sp:Int)])).set (21,i,2) (.list (((List.range fs.length).map fun j=>V.ref (22,i,j)) ++ [.ref (22,i,a)])) = h₃ from hh.symm]
 clear hh
 obtain ⟨ip,il⟩:=f.asc hsm
 refine mB_cons ?_
 rw [show innSt 4 = .AugAssign (.Name "marks" _) _ (.ListComp _ _ _ _) _ from rfl]
 refine mS_aug (mN_local g.ok y5 ?_)
 refine mE_pc (0,t + 2,0) (0,t + 2,1) _ ["spot"] (hs:=fun _=>h₃) (N:=(f.inner.map V.int).length) (pickF f.inner (fun _=>true) fun x=>V.int ((sp:Int) + x)) (Src.list (l:=(0,t + 1,1)) (xs:=f.inner.map V.int) (by walk_at "ne") (fun _=>e1₃) (by walk_at "ne") (by walk_at "ne")) (l₃.free _ _ (Nat.le_refl _)) (by simp;omega) g.ok rfl (by decide) (fun y hy=>lk_mem hy) (by rintro y hy;cases List.mem_singleton.mp hy;exact ⟨rfl,rfl,rfl⟩) (List.pairwise_singleton _ _) (by decide) (by decide) rfl (by decide) rfl ?_ ?_ ?_
 ·refine mE_local g.ok y3 ?_
  exact it_list (0,t + 2,1) e1₃ (l₃.free _ _ (Nat.le_refl _)) ⟨rfl,rfl⟩
 ·rintro B C ok' q hq pre h' rfl
  have gc:Good ((lw b L).comp B C _ [(_,_)]):=⟨ok',g.hK⟩
  rw [List.length_map] at hq
  have ev:(f.inner.map V.int).getD q .none = .int f.inner[q]:=by rw [List.getD_eq_getElem?_getD,List.getElem?_map,List.getElem?_eq_getElem hq];rfl
  simp only [ev,pickF_some (List.getElem?_eq_getElem hq),if_true]
  show mE _ _ _ _
  refine mE_bin (mE_cell gc.ok q2 (mE_local gc.ok rfl (b_add ?_)))
  exact ⟨fun y hy=>by cases List.mem_singleton.mp hy;rfl,rfl,rfl⟩
 ·rw [List.length_map,fm_filter]
  have efl:f.inner.filter (fun _=>true) = f.inner:=List.filter_eq_self.mpr fun _ _=>rfl
  rw [efl]
  obtain ⟨_,ll⟩:=layF_asc i fs 0 s0 fun f hf=>FK.ok_sm (hok f hf) (by omega)
  refine i_extend (xs:=(m0 ++ (layF i 0 s0 fs).1).map V.int) (ys:=f.inner.map fun x=>V.int ((sp:Int) + x)) em₃ (H.set_self _ _ _) ?_ (by simp;omega)
  refine m_store g.ok ?_
  show mB _ _ _ _
  simp only [St.put,St.var]
  have sn:=layF_snoc i fs 0 s0 f
  have em:((m0 ++ (layF i 0 s0 fs).1).map V.int) ++ (f.inner.map fun x=>V.int ((sp:Int) + x)) = (m0 ++ (layF i 0 s0 (fs ++ [f])).1).map V.int:=by
   rw [sn,hsp,← List.append_assoc,List.map_append (l₁:=m0 ++ _),List.map_map];rfl
  rw [em]
  obtain ⟨h₅,hh⟩ : ∃ h₅,h₅ = ((h₃.set (0,t + 2,1) .dead).set (0,t + 2,0) (.list (f.inner.map fun x=>V.int ((sp:Int) + x)))).set (21,i,1) (.list ((m0 ++ (layF i 0 s0 (fs ++ [f])).1).map V.int)):=⟨_,rfl⟩
  have l₅:LH T0 itv K kn rs (t + 4) h₅:=by
   have lt:=l₃.lt
   rw [hh]
   exact ((l₃.put (t':=t + 4) (by omega) (.inl ⟨rfl,by show T0 < t + 2;omega,by show t + 2 < t + 4;omega⟩)).put (Nat.le_refl _) (.inl ⟨rfl,by show T0 < t + 2;omega,by show t + 2 < t + 4;omega⟩)).put (Nat.le_refl _) (.inr ⟨by show 21 ≤ 21;decide,by show rs.length ≤ i;exact cb1 (eL hi)⟩)
  have same₅:∀ n:Nm,n.1 ≠ 0 → n ≠ (21,i,1) → h₅ n = h₃ n:=fun n a1 a2=>by rw [hh,H.set_ne _ _ a2,H.set_ne _ _ (by rintro rfl;exact a1 rfl),H.set_ne _ _ (by rintro rfl;exact a1 rfl)]
  have em₅:h₅ (21,i,1) = some (.list ((m0 ++ (layF i 0 s0 (fs ++ [f])).1).map V.int)):=hh ▸ H.set_self _ _ _
  have Fw₅:Fw t σ.hp h₅:=fun u k hu=>by
   rw [hh,H.set_ne _ _ (by walk_at "ne"),H.set_ne _ _ (by walk_at "ne"),H.set_ne _ _ (by walk_at "ne")]
   exact (same₃ _ (by walk_at "ne") (by walk_at "ne")).trans (Fw₁ u k hu)
  rw [← hh]
  clear hh
  refine mB_cons ?_
  rw [show innSt 5 = .AugAssign (.Name "spot" _) _ _ _ from rfl]
  refine mS_aug (mN_cell g.ok q2 (mE_local g.ok y2 (i_add (m_storeC g.ok ?_))))
  show mB _ _ _ _
  walk_at "es"
  simp only [St.var]
  refine h f _ hf ⟨l₅,em₅,(same₅ _ (by show 21 ≠ 0;decide) (by walk_at "ne")).trans ef₃,fun j x hx=>?_,(same₅ _ (by show 23 ≠ 0;decide) (by walk_at "ne")).trans ((same₃ _ (by walk_at "ne") (by walk_at "ne")).trans F₁.pts),(same₅ _ (by show 21 ≠ 0;decide) (by walk_at "ne")).trans ((same₃ _ (by walk_at "ne") (by walk_at "ne")).trans F₁.row0),fun n a1 a2=>?_,fun j hj=>?_⟩ Fw₅ ?_ rfl lf (fun y hy=>?_) rfl
  ·refine (same₅ _ (by show 22 ≠ 0;decide) (by walk_at "ne")).trans ?_
   rw [sn] at hx
   have hl:=layF_len i fs 0 s0
   rcases snoc_inv hx with hx | ⟨rfl,rfl⟩
   ·have:=getl hx
    exact (same₃ _ (by walk_at "ne") (by walk_at "ne")).trans (F₁.fld j x hx)
   ·rw [hl,ha,Nat.zero_add,← hsp];exact et₃
  ·refine (same₅ _ (by exact fun q=>cf2 (eL q) a1) (by rintro rfl;exact absurd a2 (by show ¬ i + 1 ≤ i;exact fun q=>cf1 q))).trans ((same₃ _ (by rintro rfl;exact absurd a2 (by show ¬ i + 1 ≤ i;exact fun q=>cf1 q)) (by rintro rfl;exact absurd a2 (by show ¬ i + 1 ≤ i;exact fun q=>cf1 q))).trans (F₁.new n a1 a2))
  ·rw [List.length_append,List.length_singleton] at hj
   exact (same₅ _ (by show 22 ≠ 0;decide) (by walk_at "ne")).trans ((same₃ _ (by walk_at "ne") (by walk_at "ne")).trans (F₁.free22 j (by omega)))
  ·rw [sn,← hsp]
   show some (V.int ((sp:Int) + (f.size:Int))) = some (.int ((sp + f.size:Nat):Int))
   rw [Int.natCast_add]
  ·have hy':=hy
   simp only [List.mem_cons,List.not_mem_nil,or_false,not_or] at hy
   obtain ⟨a1,a2,a3,a4,a5,a6,a7⟩:=hy
   exact (if_neg a5).trans ((if_neg a7).trans ((if_neg a6).trans (y0 y hy')))
end
noncomputable abbrev inVars:List Str:=[("again" : Str), "spelled", "size", "unit", "inner", "spot", "wide", "marks"]
section
variable {b:Cx} {L:Addr} {σ:St}
theorem law_fields {T0 itv t i s0:Nat} {K:List Bool} {kn:Nm} {rs:List Rw} {m0:List Int} {W:Str} {Q:Fl → St → Prop} {k:Nat} (g:Good (lw b L)) (rm:Rm (lw b L) (k + 2)) (F:FS T0 itv K kn rs i s0 m0 [] t σ.hp) (hi:rs.length = i) (hiK:i < 6) (hm0:m0.length ≤ 900)
  (vp:σ.vars "pool" = some (.ref PL)) (vr:σ.vars "rows" = some (.ref (20,3,0))) (vpt:σ.vars "pointers" = some (.ref (23,i,0))) (vst:σ.vars "step" = some (.int (i:Int))) (vm:σ.vars "marks" = some (.ref (21,i,1))) (vf:σ.vars "fields" = some (.ref (21,i,2)))
  (vs:σ.vars "spot" = some (.int (s0:Int))) (vw:σ.vars "wide" = some (.str W)) (hW:W.length ≤ 9000)
  (h:∀ (fs:List FK) σ' t',fs.length ≤ 3 → (∀ f ∈ fs,f.ok (Mine.pts K i)) → t ≤ t' → FS T0 itv K kn rs i s0 m0 fs t' σ'.hp → Fw t σ.hp σ'.hp → σ'.vars "spot" = some (.int (((layF i 0 s0 fs).2.2:Nat):Int)) → σ'.vars "wide" = some (.str (W ++ tT (atFs i 0 fs))) → (tT (atFs i 0 fs)).length ≤ 180 → (∀ y:Str,y ∉ inVars → σ'.vars y = σ.vars y) → σ'.vars "marks" = some (.ref (21,i,1)) → Q .next σ'):mS (lw b L) (loopSt 10) Q σ:=by
 rw [show loopSt 10 = .For (.Name "again" _) _ innB _ _ from rfl]
 refine mS_for (0,t,1) (fun k' τ=>∃ (v a t' : Nat) (fs:List FK),a + k' = v ∧ v ≤ 3 ∧ fs.length = a ∧ (∀ f ∈ fs,f.ok (Mine.pts K i)) ∧ t + 1 ≤ t' ∧ FS T0 itv K kn rs i s0 m0 fs t' τ.hp ∧ Fw t σ.hp τ.hp ∧ τ.hp (0,t,1) = some (rgI a v) ∧ τ.vars "spot" = some (.int (((layF i 0 s0 fs).2.2:Nat):Int)) ∧ τ.vars "wide" = some (.str (W ++ tT (atFs i 0 fs))) ∧ (tT (atFs i 0 fs)).length ≤ 60 * a ∧ (∀ y:Str,y ∉ inVars → τ.vars y = σ.vars y) ∧ τ.vars "marks" = some (.ref (21,i,1))) ?_ ?_ ?_
 ·refine q_ty g nb_range bb_range ?_
  refine mL_cons (q_call g nk_law_pick ?_)
  refine mL_cons (mE_cell g.ok vp ?_)
  walk_at "es"
  refine sp_pick (lim:=4) (k:=k + 1) g rm F.lh.pool (by decide) (by decide) fun h₁ v hv P₁ S₁=>?_
  have l₁:=F.lh.pick P₁ S₁
  have F₁:=F.same l₁ fun n _ d=>S₁ n d
  walk_at "es"
  refine MW1.toS (rg_newN (0,t,0) (l₁.free _ _ (Nat.le_refl _)) ?_)
  refine it_rangeN (0,t,1) (H.set_self _ _ _) (by omega) (H.skip (h:=h₁) (by walk_at "ne") (l₁.free _ _ (Nat.le_refl _))) ⟨rfl,v,v,0,t + 1,[],by omega,by exact cb1 hv,rfl,(fun f hf=>by cases hf),Nat.le_refl _,F₁.same ((l₁.put (t':=t + 1) (by omega) (.inl ⟨rfl,l₁.lt,by show t < t + 1;omega⟩)).put (Nat.le_refl _) (.inl ⟨rfl,l₁.lt,by show t < t + 1;omega⟩)) (fun n a d=>?_),(fun u k hu=>?_),H.set_self _ _ _,vs,?_,(show (tT []).length ≤ 60 * 0 by decide),(fun y hy=>rfl),vm⟩
  ·exact (H.set_ne _ _ (by rintro rfl;exact a rfl)).trans (H.set_ne h₁ _ (by rintro rfl;exact a rfl))
  ·exact (H.set_ne _ _ (by walk_at "ne")).trans ((H.set_ne h₁ _ (by walk_at "ne")).trans (S₁ _ (by walk_at "ne")))
  ·show σ.vars "wide" = some (.str (W ++ tT []))
   rw [vw]
   show some (V.str W) = some (.str (⟨W.cps ++ #[]⟩ : Str))
   rw [Array.append_empty]
 ·rintro k' τ ⟨v,a,t',fs,_,_,_,_,_,_,_,e,_⟩
  rw [e];simp
 ·intro J';rintro k' ⟨vv,hp⟩ ⟨v,a,t',fs,hk,hv,hf,hok,lt,FF,Fw',e,vs',vw',lw',vo,vm'⟩
  rcases Nat.lt_or_ge a v with lta | gea
  ·refine nx_rangeN e lta ?_
   refine as_name g.ok ?_
   simp only [St.put,St.var]
   have l₂:LH T0 itv K kn rs t' (hp.set (0,t,1) (rgI (a + 1) v)):=FF.lh.put (Nat.le_refl _) (.inl ⟨rfl,F.lh.lt,by show t < t';omega⟩)
   have F₂:=FF.same l₂ fun n a d=>H.set_ne hp _ (by rintro rfl;exact a rfl)
   refine law_turn (k:=k) (fs:=fs) (a:=a) g rm F₂ hi hiK hf (by omega) hok hm0 ((vo "pool" (by decide)).trans vp) ((vo "rows" (by decide)).trans vr) ((vo "pointers" (by decide)).trans vpt) ((vo "step" (by decide)).trans vst) rfl vm' ((vo "fields" (by decide)).trans vf) vs' vw' (by rw [slen];omega) ?_
   intro f σ₃ g1 g2 g3 g4 g5 g6 g7 g8
   have ea:atFs i 0 (fs ++ [f]) = atFs i 0 fs ++ atF i a f:=by rw [atFs_snoc,hf,Nat.zero_add]
   refine ⟨k' - 1,by omega,v,a + 1,t' + 4,fs ++ [f],by omega,hv,by simp;omega,(fun x hx=>?_),by omega,g2,(fun u k hu=>?_),?_,g4,?_,?_,(fun y hy=>?_),g8⟩
   ·rcases List.mem_append.mp hx with hx | hx
    ·exact hok x hx
    ·rw [List.mem_singleton.mp hx];exact g1
   ·exact (g3 u k (by exact cb2 lt hu)).trans ((H.set_ne hp _ (by walk_at "ne")).trans (Fw' u k hu))
   ·exact (g3 t 1 (by omega)).trans (H.set_self hp _ _)
   ·rw [g5,ea,tT_app,sapp]
   ·rw [ea,tT_app,slen];exact cb2 lw' g6
   ·refine (g7 y fun q=>hy (List.mem_cons_of_mem _ q)).trans ((if_neg ?_).trans (vo y hy))
    rintro rfl;exact hy (.head _)
  ·refine nx_rangeNE g.ok e gea ?_
   have l₂:LH T0 itv K kn rs t' (hp.set (0,t,1) .dead):=FF.lh.put (Nat.le_refl _) (.inl ⟨rfl,F.lh.lt,by show t < t';omega⟩)
   exact h fs ⟨vv,hp.set (0,t,1) .dead⟩ t' (by exact cb3 (eL hk) hv (eL hf)) hok (by omega) (FF.same l₂ fun n a d=>H.set_ne hp _ (by rintro rfl;exact a rfl)) (fun u k hu=>(H.set_ne hp _ (by walk_at "ne")).trans (Fw' u k hu)) vs' vw' (by omega) vo vm'
end
noncomputable abbrev keepL:List Str:=[("pool" : Str), "total", "kinds", "homes", "rows", "step"]
theorem New.tmp0 {i:Nat} {n:Nm} {h:H} {o:O} (N:New i h) (hn:n.1 = 0):New i (h.set n o):=fun m a b=>(H.set_ne _ _ (by rintro rfl;exact cf2 a (eL hn))).trans (N m a b)
theorem LH.snoc {T0 itv:Nat} {K:List Bool} {kn:Nm} {rs:List Rw} {t i:Nat} {h:H} {o:O} {r:Rw} (l:LH T0 itv K kn rs t h) (hi:rs.length = i) (R:RowH (h.set (21,i,0) o) i r):LH T0 itv K kn (rs ++ [r]) t ((h.set (21,i,0) o).set (20,3,0) (.list (((List.range rs.length).map fun j=>V.ref (21,j,0)) ++ [.ref (21,i,0)]))):=by
 have same:∀ n:Nm,n ≠ (21,i,0) → n ≠ (20,3,0) → ((h.set (21,i,0) o).set (20,3,0) (.list (((List.range rs.length).map fun j=>V.ref (21,j,0)) ++ [.ref (21,i,0)]))) n = h n:=fun n a b=>by rw [H.set_ne _ _ b,H.set_ne _ _ a]
 refine ⟨(l.pool.put' (by walk_at "ne") (by walk_at "ne")).put' (by decide) (by decide),fun u k hu=>(same _ (by walk_at "ne") (by walk_at "ne")).trans (l.free u k hu),l.lt,(same _ (by walk_at "ne") (by walk_at "ne")).trans l.it,l.kno,?_,(same _ (by walk_at "ne") (by decide)).trans l.homes,?_,fun q r' hr=>?_,fun n a b=>(same n (by rintro rfl;exact absurd b (by show ¬ 21 < 20;decide)) (by rintro rfl;exact absurd b (by decide))).trans (l.low n a b)⟩
 ·rcases l.kno with q | q
  ·exact (same kn (by rw [q];intro q;cases q) (by rw [q];decide)).trans l.kinds
  ·exact (same kn (by rw [q];intro q;cases q) (by rw [q];decide)).trans l.kinds
 ·rw [H.set_self,List.length_append,List.length_singleton,List.range_succ,List.map_append,hi];rfl
 ·rcases snoc_inv hr with hr | ⟨rfl,rfl⟩
  ·have:=getl hr
   exact (l.row q r' hr).keep fun n a b=>same n (by rintro rfl;exact absurd b (by show ¬ i = q;exact fun q=>cf3 (eL hi) this (eL b))) (by rintro rfl;exact absurd a (by decide))
  ·rw [hi] at *
   exact R.keep fun n a b=>H.set_ne _ _ (by rintro rfl;exact absurd a (by decide))
section
variable {b:Cx} {L:Addr} {σ:St}
theorem law_12 {T0 itv t i lev0 s0:Nat} {K:List Bool} {kn:Nm} {rs:List Rw} {bo:Option Nat} {m0:List Int} {fs:List FK} {Q:Fl → St → Prop} (g:Good (lw b L)) (F:FS T0 itv K kn rs i s0 m0 fs t σ.hp) (hi:rs.length = i) (hiK:i < 6) (B:BaseR rs bo lev0 s0 m0)
  (vr:σ.vars "rows" = some (.ref (20,3,0))) (vb:σ.vars "base" = some (.int (bV bo))) (vm:σ.vars "marks" = some (.ref (21,i,1))) (vf:σ.vars "fields" = some (.ref (21,i,2))) (vs:σ.vars "spot" = some (.int ((up (layF i 0 s0 fs).2.2 4:Nat):Int)))
  (h:∀ h',LH T0 itv K kn (rs ++ [rowR i lev0 bo s0 m0 fs]) t h' → New (i + 1) h' → Fw t σ.hp h' → Q .next ⟨σ.vars,h'⟩):mS (lw b L) (loopSt 12) Q σ:=by
 rw [show loopSt 12 = .Expr (.Call (.Attribute _ _ _) _ _ _) _ from rfl]
 refine mS_expr ?_
 refine mE_bm (mE_cell g.ok vr ⟨_,meth_append F.lh.rows,?_⟩)
 refine mL_cons (mE_tup (mL_cons (mE_str (mL_cons (MW.mono (Q:=fun v σ'=>v = .int (lev0:Int) ∧ σ' = σ) ?_ ?_)))))
 ·refine mE_ifexp (mT_cmp (mE_local g.ok vb ?_))
  walk_at "es"
  refine c_ge (t_bool ?_)
  rw [ge_base]
  cases bo with
  | none=>
   obtain ⟨rfl,rfl,rfl⟩:=B
   show mE _ _ _ _
   walk_at "es"
   exact ⟨rfl,rfl⟩
  | some x=>
   obtain ⟨lev,bb,fl,hr,_,rfl⟩:=B
   have hx:=getl hr
   show mE _ _ _ _
   refine mE_bin (mE_sub (mE_sub (mE_cell g.ok vr (mE_local g.ok vb ?_))))
   refine s_list (v:=.ref (21,x,0)) F.lh.rows (by show (0:Int) ≤ (x:Int);omega) (by show (List.map _ _)[((x:Nat):Int).toNat]? = _;rw [Int.toNat_natCast,List.getElem?_map,List.getElem?_range hx];rfl) ?_ (by simp;exact cb2 (eL hi) hiK)
   walk_at "es"
   refine s_any (s_tup (F.lh.row _ _ hr).1 (j:=1) rfl rfl ?_)
   walk_at "es"
   exact b_add ⟨by rw [Int.natCast_add];rfl,rfl⟩
 ·rintro v σ' ⟨rfl,rfl⟩
  refine mL_cons (mE_local g.ok vb ?_)
  refine mL_cons (q_bi g nb_max bb_max ?_)
  refine mL_cons (mE_int (mL_cons (mE_cell g.ok vs (mL_nil ?_))))
  refine MW2.toS (f_max g.ok ?_)
  have emax:(if (4:Int) < ((up (layF i 0 s0 fs).2.2 4:Nat):Int) then ((up (layF i 0 s0 fs).2.2 4:Nat):Int) else 4) = ((max 4 (up (layF i 0 s0 fs).2.2 4):Nat):Int):=by
   split <;> omega
  rw [show (if ((up (layF i 0 s0 fs).2.2 4:Nat):Int) > 4 then ((up (layF i 0 s0 fs).2.2 4:Nat):Int) else 4) = _ from emax]
  refine mL_cons (mE_local g.ok vm (mL_cons (mE_local g.ok vf (mL_nil ?_))))
  refine t_new (21,i,0) F.row0 ?_ (by simp)
  refine mL_nil ?_
  refine MW2.toS (l_append (xs:=(List.range rs.length).map fun j=>.ref (21,j,0)) F.lh.rows ?_ (by simp;exact cb2 (eL hi) hiK))
  have hl:=layF_len i fs 0 s0
  refine h _ (F.lh.snoc hi ?_) (fun n a1 a2=>?_) fun u k hu=>?_
  ·refine ⟨H.set_self _ _ _,?_,?_,fun j x hx=>?_⟩
   ·exact (H.set_ne _ _ (by walk_at "ne")).trans F.marks
   ·rw [H.set_ne _ _ (by walk_at "ne"),hl];exact F.flds
   ·exact (H.set_ne _ _ (by walk_at "ne")).trans (F.fld j x hx)
  ·exact (H.set_ne _ _ (by rintro rfl;exact absurd a1 (by decide))).trans ((H.set_ne σ'.hp _ (by rintro rfl;exact absurd a2 (by show ¬ i + 1 ≤ i;exact fun q=>cf1 q))).trans (F.new n a1 a2))
  ·rfl
theorem law_13 {W:Str} {Q:Fl → St → Prop} (g:Good (lw b L)) (vw:σ.vars "wide" = some (.str W)) (hW:W.length ≤ 20000) (h:Q .next (σ.var "wide" (.str (W ++ tT [(true,cw "END"),(false,.s 59)])))):mS (lw b L) (loopSt 13) Q σ:=by
 rw [show loopSt 13 = .AugAssign (.Name "wide" _) _ _ _ from rfl]
 refine mS_aug (mN_local g.ok vw (mE_str (i_cat ?_ (by show W.length + 5 ≤ _;exact cb1 hW))))
 refine m_store g.ok ?_
 rw [tT_end]
 exact h
end
theorem BaseR.lt {rs:List Rw} {bo:Option Nat} {lev0 s0:Nat} {m0:List Int} (B:BaseR rs bo lev0 s0 m0):∀ x,bo = some x → x < rs.length:=by
 rintro x rfl
 obtain ⟨lev,bb,fl,hr,_⟩:=B
 exact getl hr
theorem BaseR.marks {K:List Bool} {ds:List Dc} {rs:List Rw} {bo:Option Nat} {lev0 s0:Nat} {m0:List Int} (w:WF K ds rs) (hK:K.length ≤ 6) (B:BaseR rs bo lev0 s0 m0):m0.length ≤ 900:=by
 cases bo with
 | none=>obtain ⟨_,_,rfl⟩:=B;decide
 | some x=>
  obtain ⟨lev,bb,fl,hr,h3,_⟩:=B
  have:=(w.marks (by omega) hr).2
  omega
theorem WF.recB {K:List Bool} {ds:List Dc} {rs:List Rw} {bo:Option Nat} {lev0 s0 i:Nat} {m0:List Int} {fs:List FK} (w:WF K ds rs) (hi:ds.length = i) (hk:K[i]? = some true) (B:BaseR rs bo lev0 s0 m0) (hf:fs.length ≤ 3) (hok:∀ f ∈ fs,f.ok (pts K i)):WF K (ds ++ [.rcd bo fs]) (rs ++ [rowR i lev0 bo s0 m0 fs]):=by
 subst hi
 cases bo with
 | none=>obtain ⟨rfl,rfl,rfl⟩:=B;exact .rec0 w hk hf hok
 | some x=>
  obtain ⟨lev,bb,fl,hr,h3,rfl⟩:=B
  exact .rec1 w hk hf hok hr h3
section
variable {b:Cx} {L:Addr} {σ:St}
theorem law_rec {T0 itv t i:Nat} {K:List Bool} {kn:Nm} {ds:List Dc} {rs:List Rw} {W:Str} {Q:Fl → St → Prop} {k:Nat} (g:Good (lw b L)) (rm:Rm (lw b L) (k + 2)) (w:WF K ds rs) (l:LH T0 itv K kn rs t σ.hp) (N:New i σ.hp) (hi:rs.length = i) (hiK:i < K.length) (hK:K.length ≤ 6) (hk:K[i]? = some true)
  (vp:σ.vars "pool" = some (.ref PL)) (vk:σ.vars "kinds" = some (.ref kn)) (vh:σ.vars "homes" = some (.ref (20,2,0))) (vr:σ.vars "rows" = some (.ref (20,3,0))) (vst:σ.vars "step" = some (.int (i:Int))) (vw:σ.vars "wide" = some (.str W)) (hW:W.length ≤ 8000)
  (h:∀ (bo:Option Nat) (fs:List FK) (r:Rw) σ' t',WF K (ds ++ [.rcd bo fs]) (rs ++ [r]) → t ≤ t' → LH T0 itv K kn (rs ++ [r]) t' σ'.hp → New (i + 1) σ'.hp → σ'.vars "wide" = some (.str (W ++ tT ((true,cw "RECORD") :: (atB bo ++ (atFs i 0 fs ++ [(true,cw "END"),(false,.s 59)]))))) → (tT ((true,cw "RECORD") :: (atB bo ++ (atFs i 0 fs ++ [(true,cw "END"),(false,.s 59)])))).length ≤ 300 → (∀ y ∈ keepL,σ'.vars y = σ.vars y) → Q .next σ'):mB (lw b L) [loopSt 3,loopSt 4,loopSt 5,loopSt 6,loopSt 7,loopSt 8,loopSt 9,loopSt 10,loopSt 11,loopSt 12,loopSt 13] Q σ:=by
 have wl:=w.len
 refine mB_cons (law_above (t:=t) g w l hi hK N vr vst vh ?_)
 show mB _ _ _ _
 simp only [St.put,St.var]
 obtain ⟨A,hA⟩ : ∃ A,A = (trues K).filter (abv rs):=⟨_,rfl⟩
 have hAl:A.length ≤ 6:=by
  rw [hA]
  have:=List.length_filter_le (abv rs) (trues K)
  have:=trues_len K
  omega
 rw [← hA]
 obtain ⟨h₁,hh⟩ : ∃ h₁,h₁ = (σ.hp.set (0,t,1) .dead).set (23,i,1) (.list (A.map fun q:Nat=>.int (q:Int))):=⟨_,rfl⟩
 have l₁:LH T0 itv K kn rs (t + 1) h₁:=hh ▸ (l.put (Nat.le_succ t) (.inl ⟨rfl,l.lt,Nat.lt_succ_self t⟩)).put (Nat.le_refl _) (.inr ⟨by show 21 ≤ 23;decide,by show rs.length ≤ i;exact cb1 (eL hi)⟩)
 have N₁:∀ n:Nm,21 ≤ n.1 → i ≤ n.2.1 → n ≠ (23,i,1) → h₁ n = none:=fun n a1 a2 a3=>by rw [hh,H.set_ne _ _ a3,H.set_ne _ _ (by rintro rfl;exact absurd a1 (by show ¬ 21 ≤ 0;decide))];exact N n a1 a2
 have eA:h₁ (23,i,1) = some (.list (A.map fun q:Nat=>.int (q:Int))):=hh ▸ H.set_self _ _ _
 rw [← hh]
 clear hh
 refine mB_cons (law_base (k:=k + 1) (A:=A) (i:=i) g rm l₁ hAl rfl vp eA fun bo h₂ hbo l₂ S₂=>?_)
 show mB _ _ _ _
 simp only [St.var]
 obtain ⟨lev0,s0,m0,B⟩:=BaseR.of (K:=K) (bo:=bo) fun x hx=>hA ▸ hbo x hx
 have N₂:∀ n:Nm,21 ≤ n.1 → i ≤ n.2.1 → n ≠ (23,i,1) → h₂ n = none:=fun n a1 a2 a3=>(S₂ n (by exact fun q=>cf2 (eL q) a1) (by rintro rfl;exact absurd a1 (by decide))).trans (N₁ n a1 a2 a3)
 clear S₂ N₁ l₁ eA hbo hA
 refine mB_cons (law_5 (bo:=bo) g rfl vw (fun x hx=>by have:=B.lt x hx;omega) (by omega) ?_)
 show mB _ _ _ _
 refine mB_cons (law_6 g l₂ (by exact cb3 (eL hi) hiK hK) B rfl vr ?_)
 show mB _ _ _ _
 refine mB_cons (law_7 (i:=i) g l₂ (by exact cb3 (eL hi) hiK hK) B (B.marks w hK) rfl vr (N₂ (21,i,1) (by show 21 ≤ 21;decide) (Nat.le_refl i) (by walk_at "ne")) ?_)
 show mB _ _ _ _
 simp only [St.put,St.var]
 have l₃:LH T0 itv K kn rs (t + 2) (h₂.set (21,i,1) (.list (m0.map V.int))):=l₂.put (by exact cl0) (.inr ⟨by show 21 ≤ 21;decide,by show rs.length ≤ i;exact cb1 (eL hi)⟩)
 refine mB_cons (law_8 (t:=t + 2) (i:=i) g l₃ (by exact cb2 hiK hK) (by omega) hK (N₂ (23,i,0) (by show 21 ≤ 23;decide) (Nat.le_refl i) (by walk_at "ne")) vst vk ?_)
 show mB _ _ _ _
 simp only [St.var]
 obtain ⟨h₄,hh⟩ : ∃ h₄,h₄ = (((h₂.set (21,i,1) (.list (m0.map V.int))).set (0,t + 2,0) (rgO i)).set (0,t + 2,1) .dead).set (23,i,0) (.list ((pts K i).map fun k=>.str (tnm k))):=⟨_,rfl⟩
 have ltt:=l.lt
 have l₄:LH T0 itv K kn rs (t + 3) h₄:=hh ▸ ((l₃.put (t':=t + 3) (by omega) (.inl ⟨rfl,by show T0 < t + 2;exact cb1 ltt,by show t + 2 < t + 3;omega⟩)).put (Nat.le_refl _) (.inl ⟨rfl,by show T0 < t + 2;exact cb1 ltt,by show t + 2 < t + 3;omega⟩)).put (Nat.le_refl _) (.inr ⟨by show 21 ≤ 23;decide,by show rs.length ≤ i;exact cb1 (eL hi)⟩)
 have em₄:h₄ (21,i,1) = some (.list (m0.map V.int)):=by rw [hh,H.set_ne _ _ (by walk_at "ne"),H.set_ne _ _ (by walk_at "ne"),H.set_ne _ _ (by walk_at "ne"),H.set_self]
 have ep₄:h₄ (23,i,0) = some (.list ((pts K i).map fun k=>.str (tnm k))):=hh ▸ H.set_self _ _ _
 have N₄:∀ n:Nm,21 ≤ n.1 → i ≤ n.2.1 → n ≠ (23,i,1) → n ≠ (21,i,1) → n ≠ (23,i,0) → h₄ n = none:=fun n a1 a2 a3 a4 a5=>by
  rw [hh,H.set_ne _ _ a5,H.set_ne _ _ (by rintro rfl;exact absurd a1 (by show ¬ 21 ≤ 0;decide)),H.set_ne _ _ (by rintro rfl;exact absurd a1 (by show ¬ 21 ≤ 0;decide)),H.set_ne _ _ a4]
  exact N₂ n a1 a2 a3
 rw [← hh]
 clear hh l₃ N₂ l₂
 refine mB_cons ?_
 rw [show loopSt 9 = .Assign [.Name "fields" _] (.List [] _) _ from rfl]
 refine mS_assign (mE_list (mL_nil ?_))
 refine l_new (21,i,2) (N₄ _ (by show 21 ≤ 21;decide) (Nat.le_refl i) (by walk_at "ne") (by walk_at "ne") (by walk_at "ne")) ?_ (by simp)
 refine m_store g.ok ?_
 show mB _ _ _ _
 simp only [St.put,St.var]
 have l₅:LH T0 itv K kn rs (t + 3) (h₄.set (21,i,2) (.list [])):=l₄.put (Nat.le_refl _) (.inr ⟨by show 21 ≤ 21;decide,by show rs.length ≤ i;exact cb1 (eL hi)⟩)
 have F₅:FS T0 itv K kn rs i s0 m0 [] (t + 3) (h₄.set (21,i,2) (.list [])):=by
  refine ⟨l₅,?_,H.set_self _ _ _,fun j x hx=>by simp [layF] at hx,(H.set_ne _ _ (by walk_at "ne")).trans ep₄,(H.set_ne _ _ (by walk_at "ne")).trans (N₄ _ (by show 21 ≤ 21;decide) (Nat.le_refl i) (by walk_at "ne") (by walk_at "ne") (by walk_at "ne")),fun n a1 a2=>?_,fun j hj=>(H.set_ne _ _ (by walk_at "ne")).trans (N₄ _ (by show 21 ≤ 22;decide) (Nat.le_refl i) (by walk_at "ne") (by walk_at "ne") (by walk_at "ne"))⟩
  ·rw [H.set_ne _ _ (by walk_at "ne")]
   show h₄ (21,i,1) = some (.list ((m0 ++ []).map V.int))
   rw [List.append_nil];exact em₄
  ·have nn:∀ j k,n ≠ (j,i,k):=fun j k q=>by rw [q] at a2;exact absurd a2 (by show ¬ i + 1 ≤ i;exact fun q=>cf1 q)
   exact (H.set_ne _ _ (nn _ _)).trans (N₄ n a1 (by omega) (nn _ _) (nn _ _) (nn _ _))
 have hbl:∀ x,bo = some x → x < 60:=fun x hx=>by have:=B.lt x hx;omega
 have lb:(tT ((true,cw "RECORD") :: atB bo)).length ≤ 20:=by
  cases bo with
  | none=>show (tT [(true,cw "RECORD")]).length ≤ 20;decide +kernel
  | some x=>
   have:∀ x,x < 60 → (tT ((true,cw "RECORD") :: atB (some x))).length ≤ 20:=by decide +kernel
   exact this x (hbl x rfl)
 refine mB_cons (law_fields (t:=t + 3) (i:=i) (s0:=s0) (m0:=m0) (W:=W ++ tT ((true,cw "RECORD") :: atB bo)) g rm F₅ hi (by omega) (B.marks w hK) vp vr rfl vst rfl rfl rfl rfl (by rw [slen];exact cb2 hW lb) fun fs σ₆ t₆ q1 q2 q3 q4 q5 q6 q7 q8 q9 q10=>?_)
 show mB _ _ _ _
 refine mB_cons (law_pad4 g q6 fun σ₇ p1 p2 p3=>?_)
 show mB _ _ _ _
 have v7:∀ y:Str,y ∉ inVars → σ₇.vars y = σ₆.vars y:=fun y hy=>p3 y (by rintro rfl;exact hy (by decide))
 refine mB_cons (law_12 (lev0:=lev0) (bo:=bo) g (p1 ▸ q4) hi (by omega) B ((v7 _ (by decide)).trans ((q9 _ (by decide)).trans vr)) ((v7 _ (by decide)).trans ((q9 _ (by decide)).trans rfl)) ((p3 _ (by decide)).trans q10) ((v7 _ (by decide)).trans ((q9 _ (by decide)).trans rfl)) p2 fun h₈ l₈ N₈ F₈=>?_)
 show mB _ _ _ _
 refine mB_cons (law_13 (W:=W ++ tT ((true,cw "RECORD") :: atB bo) ++ tT (atFs i 0 fs)) g ((p3 _ (by decide)).trans q7) (by rw [slen,slen];exact cb3 hW lb q8) ?_)
 show mB _ _ _ _
 walk_at "es"
 have et:W ++ tT ((true,cw "RECORD") :: atB bo) ++ tT (atFs i 0 fs) ++ tT [(true,cw "END"),(false,.s 59)] = W ++ tT ((true,cw "RECORD") :: (atB bo ++ (atFs i 0 fs ++ [(true,cw "END"),(false,.s 59)]))):=by
  rw [sapp,sapp,← tT_app,← tT_app];rfl
 have le:(tT [(true,cw "END"),(false,.s 59)]).length = 5:=by decide +kernel
 refine h bo fs _ _ t₆ (w.recB (by exact ce2 hi wl) hk B q1 q2) (by omega) l₈ N₈ (by rw [← et];rfl) ?_ fun y hy=>?_
 ·rw [show (true,cw "RECORD") :: (atB bo ++ (atFs i 0 fs ++ [(true,cw "END"),(false,.s 59)])) = ((true,cw "RECORD") :: atB bo) ++ (atFs i 0 fs ++ [(true,cw "END"),(false,.s 59)]) from rfl,tT_app,tT_app,slen,slen,le]
  exact cb2 lb q8
 ·have hk:∀ y ∈ keepL,y ∉ inVars ∧ y ≠ "wide" ∧ y ≠ "fields" ∧ y ≠ "pointers" ∧ y ≠ "marks" ∧ y ≠ "spot" ∧ y ≠ "base" ∧ y ≠ "above" := by decide
  obtain ⟨k1,k2,k3,k4,k5,k6,k7,k8⟩:=hk y hy
  refine (if_neg k2).trans ((v7 y k1).trans ((q9 y k1).trans ?_))
  exact (if_neg k3).trans ((if_neg k4).trans ((if_neg k5).trans ((if_neg k6).trans ((if_neg k2).trans ((if_neg k7).trans (if_neg k8))))))
end
theorem trues_pos {K:List Bool} (h:true ∈ K):1 ≤ (trues K).length:=by
 obtain ⟨i,hi,e⟩:=List.mem_iff_getElem.mp h
 have:i ∈ trues K:=by
  unfold trues
  rw [List.mem_filter,List.mem_range]
  exact ⟨hi,by rw [List.getD_eq_getElem?_getD,List.getElem?_eq_getElem hi];exact e⟩
 exact List.length_pos_of_mem this
theorem getD_some {K:List Bool} {i:Nat} {x:Bool} (hi:i < K.length) (h:K.getD i false = x):K[i]? = some x:=by
 rw [List.getD_eq_getElem?_getD,List.getElem?_eq_getElem hi] at h
 rw [List.getElem?_eq_getElem hi];exact congrArg some h
section
variable {b:Cx} {L:Addr} {σ:St}
theorem law_body {T0 itv t i:Nat} {K:List Bool} {kn:Nm} {ds:List Dc} {rs:List Rw} {W:Str} {Q:Fl → St → Prop} {k:Nat} (g:Good (lw b L)) (rm:Rm (lw b L) (k + 2)) (w:WF K ds rs) (l:LH T0 itv K kn rs t σ.hp) (N:New i σ.hp) (hi:rs.length = i) (hiK:i < K.length) (hK:K.length ≤ 6) (hT:true ∈ K)
  (vp:σ.vars "pool" = some (.ref PL)) (vk:σ.vars "kinds" = some (.ref kn)) (vh:σ.vars "homes" = some (.ref (20,2,0))) (vr:σ.vars "rows" = some (.ref (20,3,0))) (vst:σ.vars "step" = some (.int (i:Int))) (vw:σ.vars "wide" = some (.str W)) (hW:W.length ≤ 4000)
  (h:∀ (fl:Fl) (d:Dc) (r:Rw) σ' t',(fl = .next ∨ fl = .cont) → WF K (ds ++ [d]) (rs ++ [r]) → t ≤ t' → LH T0 itv K kn (rs ++ [r]) t' σ'.hp → New (i + 1) σ'.hp → σ'.vars "wide" = some (.str (W ++ tT (atD i d))) → (tT (atD i d)).length ≤ 400 → (∀ y ∈ keepL,σ'.vars y = σ.vars y) → Q fl σ'):mB (lw b L) loopB Q σ:=by
 have wl:=w.len
 have i60:i < 60:=by omega
 have ln:=ln_name i i60
 rw [loopB_eq]
 refine mB_cons ?_
 rw [show loopSt 0 = .Assign [.Name "name" _] _ _ from rfl]
 refine mS_assign (mE_bin (mE_str ?_))
 refine q_ty g nb_str bb_str ?_
 refine mL_cons (mE_cell g.ok vst (mL_nil ?_))
 refine MW1.toS (f_str ?_ (by omega) (by omega))
 refine b_cat ?_ (by show 1 + (dgS i).length ≤ _;exact cb1 ln.2)
 refine m_store g.ok ?_
 show mB _ _ _ _
 refine mB_cons ?_
 rw [show loopSt 1 = .AugAssign (.Name "wide" _) _ _ _ from rfl]
 refine mS_aug (mN_local g.ok vw (mE_bin (mE_bin (mE_str (mE_local g.ok rfl ?_)))))
 refine b_cat ?_ (by show 1 + (tnm i).length ≤ _;exact cb1 ln.1)
 have l1:(" " ++ tnm i:Str).length = 1 + (tnm i).length:=slen _ _
 refine mE_str (b_cat ?_ (by show (" " ++ tnm i:Str).length + 2 ≤ _;exact cb2 ln.1 (eL l1)))
 rw [show (" " ++ ("T" ++ Str.ofString (toString (i:Int))) ++ " =" : Str) = _ from tT_name i i60]
 have ls:(tT [(true,tW i),(true,.s 61)]).length ≤ 10:=by
  have:∀ i,i < 60 → (tT [(true,tW i),(true,.s 61)]).length ≤ 10:=by decide +kernel
  exact this i i60
 refine i_cat ?_ (by exact cb2 hW ls)
 refine m_store g.ok ?_
 show mB _ _ _ _
 simp only [St.var]
 refine mB_cons ?_
 rw [show loopSt 2 = .If _ _ _ _ from rfl]
 refine mS_if (mT_cmp (mE_sub (mE_cell g.ok vk (mE_cell g.ok vst ?_))))
 refine s_list (xs:=K.map kdV) (v:=kdV (K.getD i false)) l.kinds (by omega) (by rw [Int.toNat_natCast,List.getElem?_map,List.getD_eq_getElem?_getD,List.getElem?_eq_getElem hiK];rfl) ?_ (by simp;omega)
 refine mE_str (c_eqS (t_bool ?_))
 cases hb:K.getD i false with
 | true=>
  show mB _ _ _ _
  refine mB_nil ?_
  show mB _ _ _ _
  refine law_rec (k:=k) (W:=W ++ tT [(true,tW i),(true,.s 61)]) g rm w l N hi hiK hK (getD_some hiK hb) vp vk vh vr vst rfl (by rw [slen];exact cb2 hW ls) fun bo fs r σ' t' q1 q2 q3 q4 q5 q6 q7=>?_
  refine h .next (.rcd bo fs) r σ' t' (.inl rfl) q1 q2 q3 q4 ?_ ?_ fun y hy=>?_
  ·rw [q5,sapp,← tT_app];rfl
  ·rw [show atD i (.rcd bo fs) = [(true,tW i),(true,.s 61)] ++ ((true,cw "RECORD") :: (atB bo ++ (atFs i 0 fs ++ [(true,cw "END"),(false,.s 59)]))) from rfl,tT_app,slen]
   exact cb2 ls q6
  ·have hk:∀ y ∈ keepL,y ≠ "wide" ∧ y ≠ "name" := by decide
   exact (q7 y hy).trans ((if_neg (hk y hy).1).trans (if_neg (hk y hy).2))
 | false=>
  show mB _ _ _ _
  refine mB_cons (mS_assign (mE_sub (mE_local g.ok vh ?_)))
  refine q_call g nk_law_pick ?_
  refine mL_cons (mE_cell g.ok vp (mL_cons ?_))
  refine q_bi g nb_len bb_len ?_
  refine mL_cons (mE_local g.ok vh (mL_nil ?_))
  have hl:=trues_len K
  refine MW1.toS (f_lenL l.homes ?_ (by simp;omega))
  rw [List.length_map]
  refine mL_nil ?_
  refine sp_pick (lim:=(trues K).length) (k:=k + 1) g rm l.pool (trues_pos hT) (by omega) fun h₁ v hv P₁ S₁=>?_
  have l₁:=l.pick P₁ S₁
  have N₁:=N.pick S₁
  obtain ⟨tg,htg⟩ : ∃ tg,tg = (trues K)[v]:=⟨_,rfl⟩
  obtain ⟨m1,m2⟩:=trues_mem (show tg ∈ trues K from htg ▸ List.getElem_mem hv)
  refine s_list (v:=.int (tg:Int)) l₁.homes (by omega) (by rw [Int.toNat_natCast,List.getElem?_map,List.getElem?_eq_getElem hv,htg];rfl) ?_ (by simp;omega)
  refine m_store g.ok ?_
  show mB _ _ _ _
  refine mB_cons (mS_aug (mN_local g.ok rfl (mE_bin (mE_bin (mE_str ?_)))))
  refine q_ty g nb_str bb_str ?_
  refine mL_cons (mE_local g.ok rfl (mL_nil ?_))
  refine MW1.toS (f_str ?_ (by omega) (by omega))
  have ln2:=ln_name tg (by omega)
  refine b_cat ?_ (by show 13 + (dgS tg).length ≤ _;exact cb1 ln2.2)
  have l2:(" POINTER TO T" ++ dgS tg:Str).length = 13 + (dgS tg).length:=slen _ _
  refine mE_str (b_cat ?_ (by show (" POINTER TO T" ++ dgS tg:Str).length + 1 ≤ _;exact cb2 ln2.2 (eL l2)))
  rw [show (" POINTER TO T" ++ Str.ofString (toString (tg:Int)) ++ ";" : Str) = _ from tT_to tg (by omega)]
  have ls2:(tT [(true,cw "POINTER"),(true,cw "TO"),(true,tW tg),(false,.s 59)]).length ≤ 30:=by
   have:∀ i,i < 60 → (tT [(true,cw "POINTER"),(true,cw "TO"),(true,tW i),(false,.s 59)]).length ≤ 30:=by decide +kernel
   exact this tg (by omega)
  refine i_cat ?_ (by rw [slen];exact cb3 hW ls ls2)
  refine m_store g.ok ?_
  show mB _ _ _ _
  refine mB_cons (mS_expr ?_)
  refine mE_bm (mE_cell g.ok vr ⟨_,meth_append l₁.rows,?_⟩)
  refine mL_cons (mE_tup (mL_cons (mE_str (mL_cons (mE_local g.ok rfl (mL_nil ?_))))))
  refine t_new (21,i,0) (N₁ _ (by show 21 ≤ 21;decide) (Nat.le_refl i)) ?_ (by simp)
  refine mL_nil ?_
  refine MW2.toS (l_append (xs:=(List.range rs.length).map fun j=>.ref (21,j,0)) l₁.rows ?_ (by simp;exact cb2 (eL hi) i60))
  show mB _ _ _ _
  refine mB_cons (mS_continue ?_)
  show Q .cont _
  refine h .cont (.ptr tg) (.ptr tg) _ t (.inr rfl) (.ptr w (by rw [wl,hi];exact getD_some hiK hb) (getD_some m1 m2)) (Nat.le_refl _) (l₁.snoc hi (H.set_self _ _ _)) (fun n a1 a2=>?_) ?_ ?_ fun y hy=>?_
  ·exact (H.set_ne _ _ (by rintro rfl;exact absurd a1 (by decide))).trans ((H.set_ne h₁ _ (by rintro rfl;exact absurd a2 (by show ¬ i + 1 ≤ i;exact fun q=>cf1 q))).trans (N₁ n a1 (by omega)))
  ·show some (V.str (W ++ tT [(true,tW i),(true,.s 61)] ++ tT [(true,cw "POINTER"),(true,cw "TO"),(true,tW tg),(false,.s 59)])) = _
   rw [sapp,← tT_app];rfl
  ·rw [show atD i (.ptr tg) = [(true,tW i),(true,.s 61)] ++ [(true,cw "POINTER"),(true,cw "TO"),(true,tW tg),(false,.s 59)] from rfl,tT_app,slen]
   exact cb2 ls ls2
  ·have hk:∀ y ∈ keepL,y ≠ "wide" ∧ y ≠ "name" ∧ y ≠ "target" := by decide
   obtain ⟨k1,k2,k3⟩:=hk y hy
   exact (if_neg k1).trans ((if_neg k3).trans ((if_neg k1).trans (if_neg k2)))
end
structure Tab (K:List Bool) (rs:List Rw) (h:H):Prop where
 homes:h (20,2,0) = some (.list ((trues K).map fun i:Nat=>.int (i:Int)))
 rows:h (20,3,0) = some (.list ((List.range rs.length).map fun i=>.ref (21,i,0)))
 row:∀ (q:Nat) (r:Rw),rs[q]? = some r → RowH h q r
noncomputable abbrev keepM:List Str:=[("pool" : Str), "total", "kinds", "homes", "rows"]
section
variable {b:Cx} {L:Addr} {σ:St}
theorem law_loop {t:Nat} {K:List Bool} {kn:Nm} {Q:Fl → St → Prop} {k:Nat} (g:Good (lw b L)) (rm:Rm (lw b L) (k + 2)) (hK:K.length ≤ 6) (hT:true ∈ K) (P:PoolOk σ.hp) (Fr:Free t σ.hp) (kno:kdsN kn) (ek:σ.hp kn = some (.list (K.map kdV))) (eh:σ.hp (20,2,0) = some (.list ((trues K).map fun i:Nat=>.int (i:Int)))) (er:σ.hp (20,3,0) = some (.list [])) (low:∀ n:Nm,1 ≤ n.1 → n.1 < 20 → σ.hp n = none) (N:New 0 σ.hp)
  (vp:σ.vars "pool" = some (.ref PL)) (vt:σ.vars "total" = some (.int (K.length:Int))) (vk:σ.vars "kinds" = some (.ref kn)) (vh:σ.vars "homes" = some (.ref (20,2,0))) (vr:σ.vars "rows" = some (.ref (20,3,0))) (vw:σ.vars "wide" = some (.str ""))
  (h:∀ (ds:List Dc) (rs:List Rw) σ' t',WF K ds rs → ds.length = K.length → Free t' σ'.hp → Tab K rs σ'.hp → (∀ n:Nm,1 ≤ n.1 → n.1 < 20 → σ'.hp n = none) → σ'.vars "wide" = some (.str (tT (atDs 0 ds))) → (tT (atDs 0 ds)).length ≤ 2400 → (∀ y ∈ keepM,σ'.vars y = σ.vars y) → Q .next σ'):mS (lw b L) (lawSt 7) Q σ:=by
 rw [show lawSt 7 = .For (.Name "step" _) _ loopB _ _ from rfl]
 refine mS_for (0,t,1) (fun k' τ=>∃ (i t' : Nat) (ds:List Dc) (rs:List Rw),i + k' = K.length ∧ WF K ds rs ∧ rs.length = i ∧ LH t i K kn rs t' τ.hp ∧ New i τ.hp ∧ τ.vars "wide" = some (.str (tT (atDs 0 ds))) ∧ (tT (atDs 0 ds)).length ≤ 400 * i ∧ (∀ y ∈ keepM,τ.vars y = σ.vars y)) ?_ ?_ ?_
 ·refine q_ty g nb_range bb_range ?_
  refine mL_cons (mE_local g.ok vt (mL_nil ?_))
  refine MW1.toS (rg_newN (0,t,0) (Fr _ _ (Nat.le_refl _)) ?_)
  refine it_rangeN (0,t,1) (H.set_self _ _ _) (by omega) (H.skip (h:=σ.hp) (by walk_at "ne") (Fr _ _ (Nat.le_refl _))) ⟨rfl,K.length,0,t + 1,[],[],by omega,.nil,rfl,⟨?_,?_,Nat.lt_succ_self t,H.set_self _ _ _,kno,?_,eh,er,fun q r hr=>by simp at hr,fun n a1 a2=>?_⟩,fun n a1 a2=>?_,vw,(show (tT []).length ≤ 400 * 0 by decide),fun y hy=>rfl⟩
  ·exact P.tmp.tmp
  ·intro u q hu
   exact (H.set_ne _ _ (by intro e;cases e;omega)).trans ((H.set_ne σ.hp _ (by intro e;cases e;omega)).trans (Fr u q (by omega)))
  ·rcases kno with rfl | rfl
   ·exact ek
   ·exact ek
  ·exact (H.set_ne _ _ (by rintro rfl;exact absurd a1 (by show ¬ 1 ≤ 0;decide))).trans ((H.set_ne σ.hp _ (by rintro rfl;exact absurd a1 (by show ¬ 1 ≤ 0;decide))).trans (low n a1 a2))
  ·exact (H.set_ne _ _ (by rintro rfl;exact absurd a1 (by show ¬ 21 ≤ 0;decide))).trans ((H.set_ne σ.hp _ (by rintro rfl;exact absurd a1 (by show ¬ 21 ≤ 0;decide))).trans (N n a1 a2))
 ·rintro k' τ ⟨i,t',ds,rs,_,_,_,l,_⟩
  rw [l.it];simp
 ·intro J';rintro k' ⟨vv,hp⟩ ⟨i,t',ds,rs,hk,w,hi,l,Nw,vw',lw',vo⟩
  have wl:=w.len
  rcases Nat.lt_or_ge i K.length with lt | ge
  ·refine nx_rangeN l.it lt ?_
   refine as_nameC g.ok ?_
   simp only [St.put,St.var]
   have l₂:LH t (i + 1) K kn rs t' (hp.set (0,t,1) (rgI (i + 1) K.length)):=by
    have same:∀ n:Nm,n.1 ≠ 0 → (hp.set (0,t,1) (rgI (i + 1) K.length)) n = hp n:=fun n a=>H.set_ne hp _ (by rintro rfl;exact a rfl)
    refine ⟨l.pool.tmp,fun u q hu=>(H.set_ne hp _ (by intro e;cases e;have:=l.lt;exact cf2 hu this)).trans (l.free u q hu),l.lt,H.set_self hp _ _,l.kno,(same _ (by rcases l.kno with q | q <;> rw [q] <;> decide)).trans l.kinds,(same _ (by decide)).trans l.homes,(same _ (by decide)).trans l.rows,fun q r hr=>(l.row q r hr).keep fun n a _=>same n (by exact fun q=>cf2 (eL q) a),fun n a1 a2=>(same n (by exact fun q=>cf2 (eL q) a1)).trans (l.low n a1 a2)⟩
   refine law_body (k:=k) g rm w l₂ (Nw.tmp0 rfl) hi lt hK hT ((vo "pool" (by decide)).trans vp) ((vo "kinds" (by decide)).trans vk) ((vo "homes" (by decide)).trans vh) ((vo "rows" (by decide)).trans vr) rfl vw' (by omega) ?_
   intro fl d r σ' t₂ q1 q2 q3 q4 q5 q6 q7 q8
   have ea:atDs 0 (ds ++ [d]) = atDs 0 ds ++ atD i d:=by rw [atDs_snoc,Nat.zero_add,wl,hi]
   have fin:∃ k'',k'' < k' ∧ ∃ (i t' : Nat) (ds:List Dc) (rs:List Rw),i + k'' = K.length ∧ WF K ds rs ∧ rs.length = i ∧ LH t i K kn rs t' σ'.hp ∧ New i σ'.hp ∧ σ'.vars "wide" = some (.str (tT (atDs 0 ds))) ∧ (tT (atDs 0 ds)).length ≤ 400 * i ∧ (∀ y ∈ keepM,σ'.vars y = σ.vars y):=by
    refine ⟨k' - 1,by omega,i + 1,t₂,ds ++ [d],rs ++ [r],by omega,q2,by simp;omega,q4,q5,?_,?_,fun y hy=>?_⟩
    ·rw [q6,ea,tT_app]
    ·rw [ea,tT_app,slen];exact cb2 lw' q7
    ·have hk:∀ y ∈ keepM,y ∈ keepL ∧ y ≠ "step" := by decide
     exact (q8 y (hk y hy).1).trans ((if_neg (hk y hy).2).trans (vo y hy))
   rcases q1 with rfl | rfl
   ·exact fin
   ·exact fin
  ·refine nx_rangeNE g.ok l.it ge ?_
   have hle:=w.le
   refine h ds rs ⟨vv,hp.set (0,t,1) .dead⟩ t' w (by omega) (fun u q hu=>(H.set_ne hp _ (by intro e;cases e;have:=l.lt;exact cf2 hu this)).trans (l.free u q hu)) ⟨l.homes,l.rows,fun q r hr=>(l.row q r hr).keep fun n a _=>H.set_ne hp _ (by rintro rfl;exact absurd a (by show ¬ 21 ≤ 0;decide))⟩ (fun n a1 a2=>(H.set_ne hp _ (by rintro rfl;exact absurd a1 (by show ¬ 1 ≤ 0;decide))).trans (l.low n a1 a2)) vw' (by omega) vo
end
theorem nk_Types (P:Params):nkB (KK P) "Types" 864 = true:=by kernel_rfl
theorem nk_ErrorList (P:Params):nkB (KK P) "ErrorList" 1058 = true:=by kernel_rfl
theorem nk_Reader (P:Params):nkB (KK P) "Reader" 1403 = true:=by kernel_rfl
theorem nk_type_declarations (P:Params):nkB (KK P) "type_declarations" 1020 = true:=by kernel_rfl
noncomputable def DcOk (d:Dc):Prop:=match d with | .ptr tg=>tg < 60 | .rcd b fs=>(∀ x,b = some x → x < 60) ∧ fs.length ≤ 3 ∧ ∀ f ∈ fs,f.sm
theorem ok_Ds:∀ (ds:List Dc) (i:Nat),i + ds.length ≤ 6 → (∀ d ∈ ds,DcOk d) → okL (atDs i ds) 32 = true ∧ hdc (atDs i ds) 32 = 32
 | [],_,_,_=>⟨rfl,rfl⟩
 | d :: r,i,hi,h=>by
  rw [List.length_cons] at hi
  obtain ⟨a1,a2⟩:=ok_Ds r (i + 1) (by exact cb1 hi) fun x hx=>h x (.tail _ hx)
  obtain ⟨b1,b2⟩:=ok_D i d (by omega) (h d (.head _))
  show okL (atD i d ++ atDs (i + 1) r) 32 = true ∧ hdc (atD i d ++ atDs (i + 1) r) 32 = 32
  rw [okL_app,hdc_app,a2,a1,b1,b2]
  exact ⟨rfl,rfl⟩
theorem WF.dcok {K:List Bool} {ds:List Dc} {rs:List Rw} (w:WF K ds rs) (hK:K.length ≤ 6):∀ d ∈ ds,DcOk d:=by
 intro d hd
 obtain ⟨i,hi,e⟩:=List.mem_iff_getElem.mp hd
 have wl:=w.len
 have hle:=w.le
 have ro:=w.row (i:=i) (d:=d) (r:=rs[i]'(by exact cb2 hi (eL wl))) (by rw [List.getElem?_eq_getElem hi,e]) (List.getElem?_eq_getElem (by exact cb2 hi (eL wl)))
 cases d with
 | ptr tg=>
  have:K[tg]? = some true:=by
   first | exact ro.2.2 | exact ro.2.1 | exact ro.2
  have:=getl this
  show tg < 60;omega
 | rcd b fs=>
  obtain ⟨h1,h2,h3,lev,s,m,h4,h5,h6⟩:=ro
  exact ⟨fun x hx=>by have:=(h6 x hx).1;exact cb4 hK hi hle this,h2,fun f hf=>FK.ok_sm (h3 f hf) (by exact cb3 hK hi hle)⟩
theorem fillJ_objs (P:PS) (l:List Str):∃ m,(fillJ P l).objs = (fill0 P).objs ++ m:=by
 have:∀ (l:List Str) (p:PS),∃ m,(l.foldl (fun p nm=>p.ins nm "std" (.ref (tyN 6)) (.str nm)) p).objs = p.objs ++ m:=by
  intro l
  induction l with
  | nil=>intro p;exact ⟨[],(List.append_nil _).symm⟩
  | cons x l ih=>
   intro p
   obtain ⟨m,hm⟩:=ih (p.ins x "std" (.ref (tyN 6)) (.str x))
   exact ⟨_ :: m,hm.trans (by show (p.objs ++ [_]) ++ m = _;rw [List.append_assoc];rfl)⟩
 exact this l (fill0 P)
structure Fil (P:PS) (src:List Nat) (L:H):Prop where
 src:P.src = src
 toks:P.toks = []
 recs:P.recs = []
 fwd:P.fwd = []
 nf:P.nf = []
 L:P.L = L
 types:P.types = ty7
 keys:P.keys = []
 ks:P.ks = []
 scs:P.scs = [⟨-1,(nm7 ++ stdA).zipIdx⟩]
 lvl:P.lvl = -1
 o1:∃ ob,P.objs[1]? = some ob ∧ ob.kind = ("type" : Str) ∧ ob.type = .ref (tyN 1)
 o3:∃ ob,P.objs[3]? = some ob ∧ ob.kind = ("type" : Str) ∧ ob.type = .ref (tyN 3)
theorem fil_of (src:List Nat) (L:H):Fil (fillJ (psA src L) stdA) src L:=by
 obtain ⟨k1,k2,k3,k4,k5,k6,k7,k8,k9⟩:=fillJ_keep (psA src L) stdA
 have N:=Nmd.fillJ (ps:=psA src L) ⟨rfl,rfl,rfl⟩ stdA
 obtain ⟨m,hm⟩:=fillJ_objs (psA src L) stdA
 have e0:(fill0 (psA src L)).objs = [⟨"BOOLEAN", "type",.ref (tyN 0),0,false,0,.none,0⟩,⟨"CHAR", "type",.ref (tyN 1),0,false,0,.none,0⟩,⟨"BYTE", "type",.ref (tyN 2),0,false,0,.none,0⟩,⟨"INTEGER", "type",.ref (tyN 3),0,false,0,.none,0⟩,⟨"SET", "type",.ref (tyN 4),0,false,0,.none,0⟩,⟨"FALSE", "const",.ref (tyN 0),0,false,0,.int 0,0⟩,⟨"TRUE", "const",.ref (tyN 0),0,false,0,.int 1,0⟩]:=rfl
 exact ⟨k1,k2,k3,k4,k5,k6,k7,k8,k9,N.scs,N.lvl,by rw [hm,e0];exact ⟨_,rfl,rfl,rfl⟩,by rw [hm,e0];exact ⟨_,rfl,rfl,rfl⟩⟩
theorem sim0 {K:List Bool} {P:PS} {src:List Nat} {L:H} {kk:Str} {vv:V} {p:Int} {pl:Nat} (F:Fil P src L) (hz:src.length ≤ 1000000):Sim K (P.adv kk vv p pl).opened [] [] [] []:=by
 refine ⟨.nil,⟨?_,?_⟩,⟨?_,?_⟩,rfl,rfl,?_,?_,?_,?_,?_,?_,?_,?_,?_,?_,?_,?_,?_⟩
 ·show P.src.length ≤ _;rw [F.src];exact hz
 ·show P.toks.length < (P.toks ++ [_]).length
  rw [List.length_append];exact Nat.lt_succ_self _
 ·show ∀ k ∈ P.ks,_
  rw [F.ks];intro k hk;cases hk
 ·show P.ks.length ≤ P.keys.length
  rw [F.ks];exact Nat.zero_le _
 ·show P.keys.length ≤ _
  rw [F.keys];exact Nat.zero_le _
 ·show P.recs = _
  rw [F.recs];rfl
 ·show P.fwd = P.nf
  rw [F.fwd,F.nf]
 ·show P.fwd.length ≤ _
  rw [F.fwd];exact Nat.zero_le _
 ·show ∀ x ∈ P.fwd,_
  rw [F.fwd];intro k hk;cases hk
 ·show P.lvl + 1 = 0
  rw [F.lvl];rfl
 ·show P.scs ++ [⟨P.lvl + 1,[]⟩] = _
  rw [F.scs,F.lvl];rfl
 ·show ∃ r,P.types[3]? = some r ∧ _
  rw [F.types];exact ⟨_,rfl,rfl,rfl⟩
 ·show ∃ r,P.types[1]? = some r ∧ _
  rw [F.types];exact ⟨_,rfl,rfl,rfl⟩
 ·exact F.o1
 ·exact F.o3
 ·intro i hi;cases hi
 ·intro i d r h;simp at h
section
variable {b:Cx} {L:Addr} {σ:St}
theorem law_parse {t:Nat} {K:List Bool} {ds:List Dc} {rs:List Rw} {rest:List Stmt} {Q:Fl → St → Prop} {k:Nat} (g:Good (lw b L)) (rm:Rm (lw b L) (k + 20)) (w:WF K ds rs) (hn:ds.length = K.length) (h1:1 ≤ K.length) (hK:K.length ≤ 6) (Fr:Free t σ.hp) (low:∀ n:Nm,1 ≤ n.1 → n.1 < 20 → σ.hp n = none)
  (vw:σ.vars "wide" = some (.str (tT (atDs 0 ds)))) (lw' : (tT (atDs 0 ds)).length ≤ 2400)
  (h:∀ σ' t' ps tix oix,Fin K ps ds rs tix oix → Is σ'.hp ps t' → (∀ n:Nm,20 ≤ n.1 → σ'.hp n = σ.hp n) → σ'.vars "errors" = some (.ref ER) → σ'.vars "rd" = some (.ref RD) → σ'.vars "scope_x" = some (.ref (4,1,0)) → (∀ y ∈ keepM,σ'.vars y = σ.vars y) → mB (lw b L) rest Q σ'):mB (lw b L) (lawSt 8 :: lawSt 9 :: lawSt 10 :: lawSt 11 :: lawSt 12 :: rest) Q σ:=by
 refine mB_cons ?_
 rw [show lawSt 8 = .Assign [.Name "types" _] _ _ from rfl]
 refine mS_assign (q_call0 g nk_Types ?_)
 refine sp_Types (k:=k + 15) g rm (low TY (by decide) (by decide)) (low KN (by decide) (by decide)) (fun m i=>low (2,m,i) (by show 1 ≤ 2;decide) (by show 2 < 20;decide)) ?_
 refine m_store g.ok ?_
 show mB _ _ _ _
 simp only [St.var]
 refine mB_cons ?_
 rw [show lawSt 9 = .Assign [.Name "errors" _] _ _ from rfl]
 refine mS_assign (q_call0 g nk_ErrorList ?_)
 refine sp_ErrorList (k:=k + 18) g rm (low ER (by decide) (by decide)) (low (6,1,0) (by decide) (by decide)) (low (6,2,0) (by decide) (by decide)) ?_
 refine m_store g.ok ?_
 show mB _ _ _ _
 simp only [St.var]
 obtain ⟨src,hsrc⟩ : ∃ src,src = T (atDs 0 ds) (32 :: varT):=⟨_,rfl⟩
 have pre:=pre_inits (h0:=σ.hp) (L:=σ.hp) (src:=src) (t:=t) low (fun n _=>rfl) Fr
 obtain ⟨h₁,hh⟩ : ∃ h₁,h₁ = ((((newTy (newTy (newTy (newTy (newTy (newTy (newTy (σ.hp.set KN (.known [])) 0 ⟨"boolean",1,.none,0,[],0, ""⟩) 1 ⟨"char",1,.none,0,[],0, ""⟩) 2 ⟨"byte",1,.none,0,[],0, ""⟩) 3 ⟨"integer",4,.none,0,[],0, ""⟩) 4 ⟨"set",4,.none,0,[],0, ""⟩) 5 ⟨"nil",4,.none,0,[],0, ""⟩) 6 ⟨"none",0,.none,0,[],0, ""⟩).set TY (tysO 7)).set (6,1,0) (.list [])).set (6,2,0) (.dict [])).set ER erO:=⟨_,rfl⟩
 rw [← hh] at pre ⊢
 clear hh
 obtain ⟨d0,dr,hds⟩ : ∃ d0 dr,ds = d0 :: dr:=by
  cases ds with
  | nil=>simp at hn;omega
  | cons a l=>exact ⟨a,l,rfl⟩
 obtain ⟨okA1,okA2⟩:=ok_Ds ds 0 (by exact cb2 (eL hn) hK) (w.dcok hK)
 obtain ⟨X,hX⟩ : ∃ X,atDs 0 ds = (true,tW 0) :: X:=by
  rw [hds]
  cases d0 <;> exact ⟨_,rfl⟩
 rw [hX] at okA1
 have ok0:okA (tW 0) (hdc X 32) = true ∧ okL X 32 = true:=by
  have:(okA (tW 0) (hdc X 32) && okL X 32) = true:=okA1
  simpa using this
 obtain ⟨r0,hr0⟩:=T_head X 32 varT
 have esrc:src = List.replicate 1 32 ++ ((tW 0).txt ++ hdc X 32 :: r0):=by
  rw [hsrc,hX,← hr0];rfl
 have hsl:src.length ≤ 1000000:=by
  have e1:tx src = tT (atDs 0 ds) ++ tx (32 :: varT):=by rw [hsrc,tx_T]
  have e2:(tx src).length = src.length:=by show (src.toArray).size = _;simp
  have e3:(tx (32 :: varT)).length = 4:=rfl
  have:=slen (tT (atDs 0 ds)) (tx (32 :: varT))
  rw [← e1] at this
  omega
 refine mB_cons ?_
 rw [show lawSt 10 = .Assign [.Name "rd" _] _ _ from rfl]
 refine mS_assign (q_call g nk_Reader ?_)
 refine mL_cons (mE_bin (mE_local g.ok vw (mE_str (b_cat ?_ (by show _ + 4 ≤ _;exact cb1 lw')))))
 rw [show (tT (atDs 0 ds) ++ " VAR" : Str) = tx src by rw [hsrc,tx_T];rfl]
 refine mL_cons (mE_local g.ok rfl (mL_cons (mE_local g.ok rfl (mL_nil ?_))))
 refine sp_Reader (k:=k + 12) (L:=σ.hp) (src:=src) (j:=1) g rm pre hsl esrc (lx_at ok0.1) fun h₂ t₂ lt₂ I₂ F₂=>?_
 refine m_store g.ok ?_
 show mB _ _ _ _
 simp only [St.var]
 have F0:=fil_of src σ.hp
 have I₂' : Is h₂ ((fillJ (psA src σ.hp) stdA).adv (tW 0).k (tW 0).v ((1:Nat):Int) (1 + (tW 0).txt.length)) t₂:=I₂
 clear I₂
 obtain ⟨PP,hPP⟩ : ∃ p,p = fillJ (psA src σ.hp) stdA:=⟨_,rfl⟩
 rw [← hPP] at F0 I₂'
 clear hPP
 obtain ⟨ps0',hps0⟩ : ∃ p,p = PP.adv (tW 0).k (tW 0).v ((1:Nat):Int) (1 + (tW 0).txt.length):=⟨_,rfl⟩
 have S0:Sim K ps0'.opened [] [] [] []:=hps0 ▸ sim0 F0 hsl
 have eL:ps0'.opened.L = σ.hp:=by
  rw [hps0]
  exact F0.L
 have C0:Cur ps0'.opened (atDs 0 ds) varT:=by
  refine ⟨true,tW 0,X,hX,?_,?_,ok0.2⟩
  ·rw [hps0]
   exact ⟨⟨(tW 0).k,(tW 0).v,((1:Nat):Int)⟩,by show (PP.toks ++ [_])[PP.toks.length]? = _;rw [List.getElem?_concat_length],rfl,rfl⟩
  ·rw [hps0]
   show PP.src.drop (1 + (tW 0).txt.length) = _
   rw [F0.src,hr0,← List.drop_drop,esrc]
   simp
 have escs:ps0'.scs.length = 1:=by rw [hps0];show PP.scs.length = 1;rw [F0.scs];rfl
 have I₂:=I₂'
 rw [← hps0] at I₂
 clear hps0 I₂'
 refine mB_cons ?_
 rw [show lawSt 11 = .Assign [.Name "scope_x" _] _ _ from rfl]
 refine mS_assign ?_
 refine q_meth 1311 1273 g (me_Scopes_open _) (mE_attr (mE_local g.ok rfl (q_get g (I₂.at (n:=RD) rfl) (by simp) rfl ⟨SP,_,rfl,I₂.at rfl,rfl,?_⟩)))
 refine mL_cons (mE_str (mL_nil ?_))
 refine sp_open (k:=k + 17) g rm I₂ (by omega) fun h₃ I₃ F₃=>?_
 rw [escs]
 refine m_store g.ok ?_
 show mB _ _ _ _
 simp only [St.var]
 refine mB_cons ?_
 rw [show lawSt 12 = .Expr _ _ from rfl]
 refine mS_expr ?_
 refine q_call g nk_type_declarations ?_
 refine mL_cons (mE_local g.ok rfl (mL_cons (mE_str (mL_nil ?_))))
 have A0:AtD ps0'.opened 0 ds:=by rw [hds] at C0 ⊢;exact C0
 have td:=td_of (L:=σ.hp) (k:=k + 1) hK w ds.length 0 ps0'.opened [] [] (by omega) S0 eL A0
 refine sp_type_declarations (ps0:=ps0'.opened) (k:=k + 4) (P:=fun q=>PAll K ds rs q ∧ q.L = σ.hp) (PF:=fun q=>(∃ tix oix,Fin K q ds rs tix oix) ∧ q.L = σ.hp) g rm I₃ S0.ok td (fun ps hp=>?_) fun h₄ t₄ psF lt₄ PF I₄ F₄=>?_
 ·obtain ⟨e1,e2,ps',rf,fin⟩:=fin_of hK hn hp.1
  exact ⟨e1,e2,ps',rf,fin,(rf.L_eq).trans hp.2⟩
 ·obtain ⟨⟨tix,oix,fin⟩,eLF⟩:=PF
  show mB _ _ _ _
  refine h _ t₄ psF tix oix fin I₄ (fun n hn'=>?_) rfl rfl rfl fun y hy=>?_
  ·obtain ⟨a,b,d⟩:=n
   have ha:20 ≤ a:=hn'
   exact (I₄.eq (a,b,d) (by show a ≠ 0;omega)).trans (by rw [spec_own _ ha,eLF])
  ·have hk:∀ y ∈ keepM,y ≠ "types" ∧ y ≠ "errors" ∧ y ≠ "rd" ∧ y ≠ "scope_x" := by decide
   obtain ⟨k1,k2,k3,k4⟩:=hk y hy
   exact (if_neg k4).trans ((if_neg k3).trans ((if_neg k2).trans (if_neg k1)))
end
theorem fm_all {α:Type} (l:List α) (g:α → V):fm (pickF l (fun _=>true) g) l.length = l.map g:=by
 rw [fm_filter]
 have:l.filter (fun _=>true) = l:=List.filter_eq_self.mpr fun _ _=>rfl
 rw [this]
theorem Fin.scope {K:List Bool} {ps:PS} {ds:List Dc} {rs:List Rw} {tix oix:List Nat} (F:Fin K ps ds rs tix oix):spec ps (4,1,0) = some (scpO 1 ⟨0,inN ds.length fun i=>oix.getD i 0⟩) ∧ spec ps (4,1,2) = some (.list ((List.range ds.length).map fun i=>.ref (obN (oix.getD i 0)))):=by
 constructor
 ·show Option.map (scpO 1) (ps.scs[1]?) = _
  rw [F.scs];rfl
 ·show Option.map _ (ps.scs[1]?) = _
  rw [F.scs]
  show some (O.list ((inN ds.length fun i=>oix.getD i 0).map fun x=>V.ref (obN x.2))) = _
  unfold inN
  rw [List.map_map];rfl
section
variable {b:Cx} {L:Addr} {σ:St}
theorem law_if13 {t n:Nat} {K:List Bool} {ps:PS} {ds:List Dc} {rs:List Rw} {tix oix:List Nat} {Q:Fl → St → Prop} {k:Nat} (g:Good (lw b L)) (rm:Rm (lw b L) (k + 2)) (F:Fin K ps ds rs tix oix) (I:Is σ.hp ps t) (hn:ds.length = n) (hz:n ≤ 6)
  (ve:σ.vars "errors" = some (.ref ER)) (vd:σ.vars "rd" = some (.ref RD)) (vx:σ.vars "scope_x" = some (.ref (4,1,0))) (vt:σ.vars "total" = some (.int (n:Int))) (h:Q .next σ):mS (lw b L) (lawSt 13) Q σ:=by
 rw [show lawSt 13 = .If _ _ _ _ from rfl]
 obtain ⟨v,htok⟩:=F.tok
 obtain ⟨e1,e2⟩:=F.scope
 refine mS_if ?_
 refine mT_or (mT_not (mT_plain ?_))
 refine q_meth0 1058 1055 g (me_ErrorList_ok _) (mE_local g.ok ve ⟨ER,_,rfl,I.at rfl,rfl,?_⟩)
 refine sp_errors_ok (k:=k + 1) g rm I (t_bool ?_)
 show mT _ _ _ _
 refine mT_or (mT_not (mT_plain ?_))
 refine q_meth 1403 1365 g (me_Reader_at _) (mE_local g.ok vd ⟨RD,_,rfl,I.at rfl,rfl,?_⟩)
 refine mL_cons (mE_str (mL_nil ?_))
 refine sp_at (k:=k + 1) g rm I htok (t_bool ?_)
 show mT _ _ _ _
 refine mT_or (mT_cmp ?_)
 refine q_bi g nb_len bb_len ?_
 refine mL_cons (mE_attr (mE_local g.ok vx (q_get g (I.at (n:=(4,1,0)) e1) (by simp) rfl (mL_nil ?_))))
 refine MW1.toS (f_lenL (I.at (n:=(4,1,2)) e2) ?_ (by simp;omega))
 rw [List.length_map,List.length_range,hn]
 refine mE_local g.ok vt (c_ne (t_bool ?_))
 rw [decide_eq_true (rfl:(n:Int) = (n:Int))]
 show mT _ _ _ _
 refine mT_or0 ?_
 show mB _ _ _ _
 exact mB_nil h
theorem law_made {t n:Nat} {K:List Bool} {ps:PS} {ds:List Dc} {rs:List Rw} {tix oix:List Nat} {Q:Fl → St → Prop} (g:Good (lw b L)) (F:Fin K ps ds rs tix oix) (I:Is σ.hp ps t) (hn:ds.length = n) (hz:n ≤ 6)
  (vx:σ.vars "scope_x" = some (.ref (4,1,0)))
  (h:∀ h',Is h' ps (t + 1) → h' (0,t,0) = some (.list ((List.range n).map fun i=>.ref (tyN (tix.getD i 0)))) → (∀ m:Nm,m.1 ≠ 0 → h' m = σ.hp m) → Q .next ((⟨σ.vars,h'⟩ : St).var "made" (.ref (0,t,0)))):mS (lw b L) (lawSt 14) Q σ:=by
 rw [show lawSt 14 = .Assign [.Name "made" _] (.ListComp _ _ _ _) _ from rfl]
 obtain ⟨e1,e2⟩:=F.scope
 rw [hn] at e1 e2
 have eo:=I.at (n:=(4,1,2)) e2
 refine mS_pc (0,t,0) (0,t,1) [] [] (hs:=fun _=>σ.hp) (N:=((List.range n).map fun i=>V.ref (obN (oix.getD i 0))).length) (pickF (List.range n) (fun _=>true) fun i=>V.ref (tyN (tix.getD i 0))) (Src.list (l:=(4,1,2)) (xs:=(List.range n).map fun i=>.ref (obN (oix.getD i 0))) (by walk_at "ne") (fun _=>eo) (by walk_at "ne") (by walk_at "ne")) (I.free _ _ (Nat.le_refl _)) (by simp;omega) g.ok rfl rfl (by decide) (fun y hy=>by cases hy) (fun y hy=>by cases hy) List.nodup_nil (by decide) (by decide) rfl (by decide) rfl (.inl rfl) ?_ ?_ ?_
 ·refine mE_attr (mE_local g.ok vx (q_get g (I.at (n:=(4,1,0)) e1) (by simp) rfl ?_))
  exact it_list (0,t,1) eo (I.free _ _ (Nat.le_refl _)) ⟨rfl,rfl⟩
 ·rintro B C ok' a ha pre h' rfl
  have gc:Good ((lw b L).comp B C _ []):=⟨ok',g.hK⟩
  rw [List.length_map,List.length_range] at ha
  have ev:((List.range n).map fun i=>V.ref (obN (oix.getD i 0))).getD a .none = .ref (obN (oix.getD a 0)):=by rw [List.getD_eq_getElem?_getD,List.getElem?_map,List.getElem?_range ha];rfl
  obtain ⟨p,hp⟩:=F.obj a (by exact cb2 (eR hn) ha)
  have I' : Is (((σ.hp.set (0,t,1) (.raw "list_iterator" [.v (.ref (4,1,2)),.ri (a + 1:Nat)])).set (0,t,0) (.list pre))) ps (t + 1):=I.tmp.old (Nat.lt_succ_self t)
  simp only [ev,pickF_some (List.getElem?_range ha),if_true]
  show mE _ _ _ _
  refine mE_attr (mE_local gc.ok rfl (q_get gc (I'.ob hp) (by simp) rfl ?_))
  refine ⟨fun y hy=>absurd hy (List.not_mem_nil),rfl,rfl⟩
 ·rw [List.length_map]
  rw [fm_all]
  exact h _ (I.tmp.old (Nat.lt_succ_self t)) (H.set_self _ _ _) fun m hm=>(H.set_ne _ _ (by rintro rfl;exact hm rfl)).trans (H.set_ne σ.hp _ (by rintro rfl;exact hm rfl))
end
theorem FD.get {ps:PS} {fv:List V} {xs:List (Str × Nat)} {fs:List FK} (h:FD ps fv xs fs):∀ {a:Nat} {x:Str × Nat},xs[a]? = some x → ∃ k ob,fv[a]? = some (.ref (obN k)) ∧ ps.objs[k]? = some ob ∧ ob.name = x.1 ∧ ob.offset = (x.2:Int):=by
 induction h with
 | nil=>intro a x h;simp at h
 | cons h1 h2 h3 ih=>
  intro a x hx
  cases a with
  | zero=>cases hx;exact ⟨_,_,rfl,h1,rfl,rfl⟩
  | succ a=>exact ih hx
noncomputable def tpH (h:H) (u:Nat) (xs:List (Str × Nat)):Nat → H
 | 0=>h
 | a + 1=>(tpH h u xs a).set (0,u,a + 2) (.tup [.str (xs.getD a ("",0)).1,.int ((xs.getD a ("",0)).2:Int)])
theorem tpH_ne {h:H} {u:Nat} {xs:List (Str × Nat)} {m:Nm}:∀ a,(∀ j,j < a → m ≠ (0,u,j + 2)) → tpH h u xs a m = h m
 | 0,_=>rfl
 | a + 1,hm=>(H.set_ne _ _ (hm a (Nat.lt_succ_self a))).trans (tpH_ne a fun j hj=>hm j (by exact cb1 hj))
theorem tpH_at {h:H} {u:Nat} {xs:List (Str × Nat)}:∀ a j,j < a → tpH h u xs a (0,u,j + 2) = some (.tup [.str (xs.getD j ("",0)).1,.int ((xs.getD j ("",0)).2:Int)])
 | a + 1,j,hj=>by
  by_cases e:j = a
  ·subst e;exact H.set_self _ _ _
  ·exact (H.set_ne _ _ (by intro q;cases q;exact e rfl)).trans (tpH_at a j (by omega))
theorem tpH_is {h:H} {ps:PS} {t u:Nat} {xs:List (Str × Nat)} (I:Is h ps t) (hu:u < t):∀ a,Is (tpH h u xs a) ps t
 | 0=>I
 | a + 1=>(tpH_is I hu a).old hu
noncomputable def tpD (xs:List (Str × Nat)):Dat:=.list (xs.map fun x=>.tuple [.str x.1,.int (x.2:Int)])
theorem dv_tuples {h:H}:∀ {ns:List Nm} {xs:List (Str × Nat)},ns.length = xs.length → (∀ (j:Nat) (x:Str × Nat) (n:Nm),xs[j]? = some x → ns[j]? = some n → h n = some (.tup [.str x.1,.int (x.2:Int)])) → DVs h (ns.map V.ref) (xs.map fun x=>.tuple [.str x.1,.int (x.2:Int)])
 | [],[],_,_=>.nil
 | n :: ns,x :: xs,hl,h'=>.cons (.tup (h' 0 x n rfl rfl) (.cons (.str _) (.cons (.int _) .nil))) (dv_tuples (by simpa using hl) fun j x n h1 h2=>h' (j + 1) x n h1 h2)
theorem kqd_tuples {xs:List (Str × Nat)} (h:∀ x ∈ xs,PyData.strOk x.1 = true):kqdOk 8 (tpD xs) = true:=by
 show (xs.map fun x=>Dat.tuple [.str x.1,.int (x.2:Int)]).all (kqdOk 7) = true
 rw [List.all_map,List.all_eq_true]
 intro x hx
 show ([Dat.str x.1,.int (x.2:Int)].all (kqdOk 6)) = true
 have:=h x hx
 simp [kqdOk,this]
theorem layF_strs (i:Nat):∀ (fs:List FK) (j s:Nat),∀ x ∈ (layF i j s fs).2.1,PyData.strOk x.1 = true
 | [],_,_,x,h=>by cases h
 | f :: r,j,s,x,h=>by
  rcases List.mem_cons.mp h with rfl | h
  ·exact strOk_cat _ _ (strOk_of _) (strOk_of _)
  ·exact layF_strs i r _ _ x h
noncomputable def chkB:List Stmt:=forB (lawSt 15)
noncomputable def chkSt (i:Nat):Stmt:=chkB.getD i (.Pass ⟨0,0,0,0⟩)
theorem chkB_eq:chkB = [chkSt 0,chkSt 1,chkSt 2,chkSt 3,chkSt 4,chkSt 5,chkSt 6]:=rfl
structure CS (ps:PS) (m n:Nat) (tix:List Nat) (K:List Bool) (rs:List Rw) (t:Nat) (h:H):Prop where
 is:Is h ps t
 lt:m < t
 made:h (0,m,0) = some (.list ((List.range n).map fun i=>.ref (tyN (tix.getD i 0))))
 tab:Tab K rs h
theorem CS.via {ps:PS} {m n:Nat} {tix:List Nat} {K:List Bool} {rs:List Rw} {t t' : Nat} {h h' : H} (C:CS ps m n tix K rs t h) (I:Is h' ps t') (ht:t ≤ t') (F:Fw t h h'):CS ps m n tix K rs t' h':=by
 have e:∀ x:Nm,x.1 ≠ 0 → h' x = h x:=fun x hx=>(I.eq x hx).trans (C.is.eq x hx).symm
 exact ⟨I,Nat.lt_of_lt_of_le C.lt ht,(F _ _ C.lt).trans C.made,(e _ (by decide)).trans C.tab.homes,(e _ (by decide)).trans C.tab.rows,fun q r hr=>(C.tab.row q r hr).keep fun x a _=>e x (by exact fun q=>cf2 (eL q) a)⟩
section
variable {b:Cx} {L:Addr} {σ:St}
theorem law_c2 {ps:PS} {m n t i ti:Nat} {tix:List Nat} {K:List Bool} {rs:List Rw} {tr:TyR} {r:Rw} {Q:Fl → St → Prop} (g:Good (lw b L)) (C:CS ps m n tix K rs t σ.hp) (hi:i < 6) (htr:ps.types[ti]? = some tr) (hr:rs[i]? = some r) (hf:tr.form = (if r.isR then ("record" : Str) else "pointer")) (hlb:tr.label = tnm i)
  (vt:σ.vars "t" = some (.ref (tyN ti))) (vr:σ.vars "row" = some (.ref (21,i,0))) (vs:σ.vars "step" = some (.int (i:Int))) (h:Q .next σ):mS (lw b L) (chkSt 2) Q σ:=by
 rw [show chkSt 2 = .If _ _ _ _ from rfl]
 have er:∃ vs,σ.hp (21,i,0) = some (.tup (.str (if r.isR then ("record" : Str) else "pointer") :: vs)) ∧ vs.length ≤ 5:=by
  have:=C.tab.row i r hr
  cases r with
  | ptr tg=>exact ⟨_,this,(by show 1 ≤ 5;decide)⟩
  | rcd lev bb sz mm fl=>exact ⟨_,this.1,Nat.le_refl 5⟩
 obtain ⟨vs',er,hv⟩:=er
 refine mS_if (mT_or (mT_cmp ?_))
 refine mE_attr (mE_local g.ok vt (q_get g (C.is.ty htr) (by simp) rfl ?_))
 refine mE_sub (mE_local g.ok vr (mE_int (s_tup er (j:=0) ?_ rfl ?_)))
 ·simp [seqIndex?]
 rw [hf]
 refine c_neS (t_bool ?_)
 rw [show ((if r.isR then ("record" : Str) else "pointer") != (if r.isR then ("record" : Str) else "pointer")) = false from bne_self_eq_false _]
 show mT _ _ _ _
 refine mT_or (mT_cmp ?_)
 refine mE_attr (mE_local g.ok vt (q_get g (C.is.ty htr) (by simp) rfl ?_))
 refine mE_bin (mE_str ?_)
 refine q_ty g nb_str bb_str ?_
 refine mL_cons (mE_cell g.ok vs (mL_nil ?_))
 refine MW1.toS (f_str ?_ (by omega) (by omega))
 have ln:=ln_name i (by omega)
 refine b_cat ?_ (by show 1 + (dgS i).length ≤ _;exact cb1 ln.2)
 rw [hlb]
 refine c_neS (t_bool ?_)
 rw [show (tnm i != ("T" ++ Str.ofString (toString (i:Int)))) = false from bne_self_eq_false _]
 show mT _ _ _ _
 refine mT_or0 ?_
 show mB _ _ _ _
 exact mB_nil h
end
noncomputable def bsV (tix:List Nat):Option Nat → V
 | none=>.none
 | some x=>.ref (tyN (tix.getD x 0))
section
variable {b:Cx} {L:Addr} {σ:St}
theorem CS.made_at {ps:PS} {m n t i:Nat} {tix:List Nat} {K:List Bool} {rs:List Rw} {h:H} (C:CS ps m n tix K rs t h) (hi:i < n):((List.range n).map fun i=>V.ref (tyN (tix.getD i 0)))[((i:Nat):Int).toNat]? = some (.ref (tyN (tix.getD i 0))):=by
 rw [Int.toNat_natCast,List.getElem?_map,List.getElem?_range hi];rfl
theorem law_c3p {ps:PS} {m n t i tg:Nat} {tix:List Nat} {K:List Bool} {rs:List Rw} {tr tr2:TyR} {Q:Fl → St → Prop} {k:Nat} (g:Good (lw b L)) (rm:Rm (lw b L) (k + 2)) (C:CS ps m n tix K rs t σ.hp) (hz:n ≤ 6) (htg:tg < n) (htr:ps.types[tix.getD i 0]? = some tr) (hf:tr.form = "pointer") (hb:tr.base = .ref (tyN (tix.getD tg 0))) (htr2:ps.types[tix.getD tg 0]? = some tr2) (hr:rs[i]? = some (.ptr tg))
  (vt:σ.vars "t" = some (.ref (tyN (tix.getD i 0)))) (vr:σ.vars "row" = some (.ref (21,i,0))) (vm:σ.vars "made" = some (.ref (0,m,0)))
  (h:∀ h' t',t ≤ t' → CS ps m n tix K rs t' h' → Fw t σ.hp h' → Q .cont ⟨σ.vars,h'⟩):mS (lw b L) (chkSt 3) Q σ:=by
 rw [show chkSt 3 = .If _ _ _ _ from rfl]
 have er:σ.hp (21,i,0) = some (.tup [.str "pointer",.int (tg:Int)]):=C.tab.row i _ hr
 refine mS_if (mT_cmp ?_)
 refine mE_sub (mE_local g.ok vr (mE_int (s_tup er (j:=0) rfl rfl ?_)))
 refine mE_str (c_eqS (t_bool ?_))
 show mB _ _ _ _
 refine mB_cons (mS_if (mT_or (mT_cmp ?_)))
 refine mE_attr (mE_attr (mE_local g.ok vt (q_get g (C.is.ty htr) (by simp) rfl ?_ (by rw [hb];rfl))))
 rw [hb]
 refine q_get g (C.is.ty htr2) (by simp) rfl ?_
 refine mE_attr (mE_sub (mE_local g.ok vm (mE_sub (mE_local g.ok vr (mE_int (s_tup er (j:=1) rfl rfl ?_))))))
 refine s_any (s_list C.made (by omega) (C.made_at htg) ?_ (by simp;omega))
 refine q_get g (C.is.ty htr2) (by simp) rfl ?_
 refine c_ne (t_bool ?_)
 rw [decide_eq_true (rfl:((tix.getD tg 0 + 1:Nat):Int) = _)]
 show mT _ _ _ _
 refine mT_or (mT_cmp ?_)
 refine q_call g nk_pointer_offsets ?_
 refine mL_cons (mE_local g.ok vt (mL_nil ?_))
 have po:PO ps (tix.getD i 0) [0]:=by
  have:=PO.flat htr (by rw [hf];rfl) (by rw [hf];rfl)
  rw [hf] at this;exact this
 refine sp_po (k:=k) g rm C.is po fun h' t' u hu1 hu2 I' F' e=>?_
 refine mE_list (mL_cons (mE_int (mL_nil ?_)))
 refine l_new (0,t',0) (I'.free _ _ (Nat.le_refl _)) ?_ (by simp)
 have C':=C.via (I'.tmp (i:=0) (o:=.list [.int 0])) (by exact cb2 hu1 hu2:t ≤ t' + 1) (F'.set (by exact cb2 hu1 hu2))
 refine c_neL (xs:=[0]) (ys:=[0]) (by have:=rm.2;exact cb1 this) ((H.set_ne _ _ (by walk_at "ne")).trans e) (H.set_self _ _ _) (t_bool ?_)
 show mT _ _ _ _
 refine mT_or0 ?_
 show mB _ _ _ _
 refine mB_nil ?_
 show mB _ _ _ _
 refine mB_cons (mS_continue ?_)
 exact h _ (t' + 1) (by exact cb2 hu1 hu2) C' (F'.set (by exact cb2 hu1 hu2))
theorem law_c3r {ps:PS} {m n t i lev sz:Nat} {bb:Option Nat} {mk:List Int} {fl:List (Str × Nat)} {tix:List Nat} {K:List Bool} {rs:List Rw} {Q:Fl → St → Prop} (g:Good (lw b L)) (C:CS ps m n tix K rs t σ.hp) (hr:rs[i]? = some (.rcd lev bb sz mk fl))
  (vr:σ.vars "row" = some (.ref (21,i,0))) (h:Q .next σ):mS (lw b L) (chkSt 3) Q σ:=by
 rw [show chkSt 3 = .If _ _ _ _ from rfl]
 have er:=(C.tab.row i _ hr).1
 refine mS_if (mT_cmp ?_)
 refine mE_sub (mE_local g.ok vr (mE_int (s_tup er (j:=0) rfl rfl ?_)))
 refine mE_str (c_eqS (t_bool ?_))
 show mB _ _ _ _
 exact mB_nil h
theorem law_c4 {ps:PS} {m n t i lev sz:Nat} {bb:Option Nat} {mk:List Int} {fl:List (Str × Nat)} {fs:List FK} {tix:List Nat} {K:List Bool} {rs:List Rw} {tr:TyR} {Q:Fl → St → Prop} {k:Nat} (g:Good (lw b L)) (rm:Rm (lw b L) k) (C:CS ps m n tix K rs t σ.hp) (hr:rs[i]? = some (.rcd lev bb sz mk fl)) (htr:ps.types[tix.getD i 0]? = some tr) (hlev:tr.level = (lev:Int)) (hsz:tr.size = (sz:Int)) (fd:FD ps tr.fields fl fs) (hfl:fs.length ≤ 3) (hst:∀ x ∈ fl,PyData.strOk x.1 = true)
  (vt:σ.vars "t" = some (.ref (tyN (tix.getD i 0)))) (vr:σ.vars "row" = some (.ref (21,i,0)))
  (h:∀ h' t',t ≤ t' → CS ps m n tix K rs t' h' → Fw t σ.hp h' → Q .next ⟨σ.vars,h'⟩):mS (lw b L) (chkSt 4) Q σ:=by
 rw [show chkSt 4 = .If _ _ _ _ from rfl]
 have er:=(C.tab.row i _ hr).1
 have room:(lw b L).A.units + 64 < cLine:=by have:=rm.2;exact cb1 this
 refine mS_if (mT_or (mT_cmp ?_))
 refine mE_tup (mL_cons (mE_attr (mE_local g.ok vt (q_get g (C.is.ty htr) (by simp) rfl ?_))))
 refine mL_cons (mE_attr (mE_local g.ok vt (q_get g (C.is.ty htr) (by simp) rfl (mL_nil ?_))))
 rw [hlev,hsz]
 refine t_new (0,t,0) (C.is.free _ _ (Nat.le_refl _)) ?_ (by simp)
 refine mE_tup (mL_cons (mE_sub (mE_local g.ok vr (mE_int (s_tup er (j:=1) rfl rfl ?_)))))
 refine mL_cons (mE_sub (mE_local g.ok vr (mE_int (s_tup er (j:=3) rfl rfl (mL_nil ?_)))))
 refine t_new (0,t,1) ((H.set_ne σ.hp _ (by walk_at "ne")).trans (C.is.free _ _ (Nat.le_refl _))) ?_ (by simp)
 refine c_neE (x:=true) (d:=.tuple [.int (lev:Int),.int (sz:Int)]) (e:=.tuple [.int (lev:Int),.int (sz:Int)]) room (.tup ((H.set_ne _ _ (by walk_at "ne")).trans (H.set_self σ.hp (0,t,0) _)) (.cons (.int _) (.cons (.int _) .nil))) (.tup (H.set_self _ _ _) (.cons (.int _) (.cons (.int _) .nil))) rfl rfl ⟨fun _=>rfl,fun _=>rfl⟩ (t_bool ?_)
 show mT _ _ _ _
 obtain ⟨h₁,hh⟩ : ∃ h₁,h₁ = (σ.hp.set (0,t,0) (.tup [.int (lev:Int),.int (sz:Int)])).set (0,t,1) (.tup [.int (lev:Int),.int (sz:Int)]):=⟨_,rfl⟩
 have I₁:Is h₁ ps (t + 1):=hh ▸ (C.is.tmp).old (Nat.lt_succ_self t)
 have F₁:Fw t σ.hp h₁:=hh ▸ ((Fw.refl _ _:Fw t σ.hp σ.hp).set (Nat.le_refl t)).set (Nat.le_refl t)
 simp only [St.put]
 rw [← hh]
 clear hh
 obtain ⟨fl1,fl2⟩:=fd.length
 refine mT_or (mT_cmp ?_)
 have eF:∀ a,tpH h₁ (t + 1) fl a (2,tix.getD i 0,1) = some (.list tr.fields):=fun a=>(tpH_ne a fun j _ q=>by cases q).trans (I₁.fld htr)
 have IT:∀ a,Is (tpH h₁ (t + 1) fl a) ps (t + 2):=fun a=>tpH_is (I₁.less (Nat.le_succ _)) (Nat.lt_succ_self _) a
 refine mE_pc (0,t + 1,0) (0,t + 1,1) [] [] (hs:=tpH h₁ (t + 1) fl) (N:=tr.fields.length) (pickF (List.range fl.length) (fun _=>true) fun a=>V.ref (0,t + 1,a + 2)) (Src.list (l:=(2,tix.getD i 0,1)) (xs:=tr.fields) (by walk_at "ne") eF (by walk_at "ne") (by walk_at "ne")) (I₁.free _ _ (Nat.le_refl _)) (by omega) g.ok rfl (by decide) (fun y hy=>by cases hy) (fun y hy=>by cases hy) List.nodup_nil (by decide) (by decide) rfl (by decide) rfl ?_ ?_ ?_
 ·refine mE_attr (mE_local g.ok vt (q_get g (I₁.ty htr) (by simp) rfl ?_))
  exact it_list (0,t + 1,1) (I₁.fld htr) (I₁.free _ _ (Nat.le_refl _)) ⟨rfl,rfl⟩
 ·rintro B C' ok' a ha pre h' rfl
  have gc:Good ((lw b L).comp B C' _ []):=⟨ok',g.hK⟩
  have haf:a < fl.length:=by exact cb3 (eL fl1) (eR fl2) ha
  obtain ⟨x,hx⟩ : ∃ x,fl[a]? = some x:=⟨_,List.getElem?_eq_getElem haf⟩
  obtain ⟨kk,ob,f1,f2,f3,f4⟩:=fd.get hx
  have ev:tr.fields.getD a .none = .ref (obN kk):=by rw [List.getD_eq_getElem?_getD,f1];rfl
  have ex:fl.getD a ("",0) = x:=by rw [List.getD_eq_getElem?_getD,hx];rfl
  have I' : Is ((((tpH h₁ (t + 1) fl a).set (0,t + 1,1) (.raw "list_iterator" [.v (.ref (2,tix.getD i 0,1)),.ri (a + 1:Nat)])).set (0,t + 1,0) (.list pre))) ps (t + 2):=((IT a).old (Nat.lt_succ_self _)).old (Nat.lt_succ_self _)
  simp only [ev,pickF_some (List.getElem?_range haf),if_true]
  show mE _ _ _ _
  refine mE_tup (mL_cons (mE_attr (mE_local gc.ok rfl (q_get gc (I'.ob f2) (by simp) rfl ?_))))
  refine mL_cons (mE_attr (mE_local gc.ok rfl (q_get gc (I'.ob f2) (by simp) rfl (mL_nil ?_))))
  rw [f3,f4]
  have n1:((0,t + 1,0):Nm) ≠ (0,t + 1,a + 2):=by intro q;cases q
  have n2:((0,t + 1,1):Nm) ≠ (0,t + 1,a + 2):=by intro q;cases q
  refine t_new (0,t + 1,a + 2) ((H.set_ne _ _ (Ne.symm n1)).trans ((H.set_ne _ _ (Ne.symm n2)).trans ((tpH_ne a fun j hj q=>by cases q;exact cf1 hj).trans (I₁.free _ _ (Nat.le_refl _))))) ?_ (by simp)
  refine ⟨fun y hy=>absurd hy (List.not_mem_nil),?_,rfl⟩
  show H.set _ _ _ = H.set (H.set (H.set (tpH h₁ (t + 1) fl a) _ _) _ _) _ _
  rw [H.set_comm (n:=(0,t + 1,0)) (n':=(0,t + 1,a + 2)) n1,H.set_comm (n:=(0,t + 1,1)) (n':=(0,t + 1,a + 2)) n2,ex]
 ·have eN:tr.fields.length = (List.range fl.length).length:=by rw [List.length_range];exact ce2 fl1 fl2.symm
  rw [eN,fm_all]
  rw [List.length_range]
  obtain ⟨h₂,hh⟩ : ∃ h₂,h₂ = ((tpH h₁ (t + 1) fl fl.length).set (0,t + 1,1) .dead).set (0,t + 1,0) (.list ((List.range fl.length).map fun a=>V.ref (0,t + 1,a + 2))):=⟨_,rfl⟩
  have I₂:Is h₂ ps (t + 2):=hh ▸ ((IT _).old (Nat.lt_succ_self _)).old (Nat.lt_succ_self _)
  have F₂:Fw t σ.hp h₂:=fun u k hu=>by
   rw [hh,H.set_ne _ _ (by walk_at "ne"),H.set_ne _ _ (by walk_at "ne"),tpH_ne _ (fun j _ q=>by cases q;omega)]
   exact F₁ u k hu
  have C₂:=C.via I₂ (by omega) F₂
  have el:h₂ (0,t + 1,0) = some (.list (((List.range fl.length).map fun a=>((0,t + 1,a + 2):Nm)).map V.ref)):=by
   rw [hh,List.map_map];exact H.set_self _ _ _
  have et:∀ j,j < fl.length → h₂ (0,t + 1,j + 2) = some (.tup [.str (fl.getD j ("",0)).1,.int ((fl.getD j ("",0)).2:Int)]):=fun j hj=>by
   rw [hh,H.set_ne _ _ (by walk_at "ne"),H.set_ne _ _ (by walk_at "ne")]
   exact tpH_at _ j hj
  rw [← hh]
  clear hh
  obtain ⟨r1,r2,r3,r4⟩:=C₂.tab.row i _ hr
  refine mE_sub (mE_local g.ok vr (mE_int (s_tup r1 (j:=5) rfl rfl ?_)))
  have er3:h₂ (21,i,2) = some (.list (((List.range fl.length).map fun j=>((22,i,j):Nm)).map V.ref)):=by rw [r3,List.map_map];rfl
  refine c_neE (x:=true) (d:=tpD fl) (e:=tpD fl) room (.list el (dv_tuples (by simp) fun j x n hx hn=>?_)) (.list er3 (dv_tuples (by simp) fun j x n hx hn=>?_)) (kqd_tuples hst) (kqd_tuples hst) ⟨fun _=>rfl,fun _=>rfl⟩ (t_bool ?_)
  ·have hj:=getl hx
   rw [List.getElem?_map,List.getElem?_range hj] at hn
   cases hn
   have:=et j hj
   rw [List.getD_eq_getElem?_getD,hx] at this
   exact this
  ·have hj:=getl hx
   rw [List.getElem?_map,List.getElem?_range hj] at hn
   cases hn
   exact r4 j x hx
  ·show mT _ _ _ _
   refine mT_or0 ?_
   show mB _ _ _ _
   exact mB_nil (h h₂ (t + 2) (by omega) C₂ F₂)
theorem law_c5 {ps:PS} {m n t i lev sz:Nat} {bb:Option Nat} {mk:List Int} {fl:List (Str × Nat)} {tix:List Nat} {K:List Bool} {rs:List Rw} {tr:TyR} {Q:Fl → St → Prop} (g:Good (lw b L)) (C:CS ps m n tix K rs t σ.hp) (hz:n ≤ 6) (hr:rs[i]? = some (.rcd lev bb sz mk fl)) (htr:ps.types[tix.getD i 0]? = some tr) (hb:tr.base = bsV tix bb) (hbx:∀ x,bb = some x → x < n ∧ ∃ tr2,ps.types[tix.getD x 0]? = some tr2)
  (vt:σ.vars "t" = some (.ref (tyN (tix.getD i 0)))) (vr:σ.vars "row" = some (.ref (21,i,0))) (vm:σ.vars "made" = some (.ref (0,m,0)))
  (h:Q .next σ):mS (lw b L) (chkSt 5) Q σ:=by
 rw [show chkSt 5 = .If _ _ _ _ from rfl]
 have er:=(C.tab.row i _ hr).1
 refine mS_if (mT_or (mT_cmp ?_))
 refine mE_cmp (mE_attr (mE_local g.ok vt (q_get g (C.is.ty htr) (by simp) rfl ?_ (by rw [hb];cases bb <;> rfl))))
 rw [hb]
 cases bb with
 | none=>
  refine mE_none (c_isN ?_)
  refine mE_cmp (mE_sub (mE_local g.ok vr (mE_int (s_tup er (j:=2) rfl rfl (mE_int (c_lt ?_))))))
  refine c_neB (t_bool ?_)
  show mT _ _ _ _
  refine mT_or (mT_and (mT_cmp ?_))
  refine mE_sub (mE_local g.ok vr (mE_int (s_tup er (j:=2) rfl rfl (mE_int (c_ge (t_bool ?_))))))
  show mT _ _ _ _
  refine mT_or0 ?_
  show mB _ _ _ _
  exact mB_nil h
 | some x=>
  obtain ⟨hx,tr2,htr2⟩:=hbx x rfl
  refine mE_none (c_isR ?_)
  refine mE_cmp (mE_sub (mE_local g.ok vr (mE_int (s_tup er (j:=2) rfl rfl (mE_int (c_lt ?_))))))
  rw [decide_eq_false (show ¬ bV (some x) < 0 by show ¬ (x:Int) < 0;omega)]
  refine c_neB (t_bool ?_)
  show mT _ _ _ _
  refine mT_or (mT_and (mT_cmp ?_))
  refine mE_sub (mE_local g.ok vr (mE_int (s_tup er (j:=2) rfl rfl (mE_int (c_ge (t_bool ?_))))))
  rw [decide_eq_true (show (0:Int) ≤ bV (some x) by show (0:Int) ≤ (x:Int);omega)]
  show mT _ _ _ _
  refine mT_and (mT_cmp ?_)
  refine mE_attr (mE_attr (mE_local g.ok vt (q_get g (C.is.ty htr) (by simp) rfl ?_ (by rw [hb];rfl))))
  rw [hb]
  refine q_get g (C.is.ty htr2) (by simp) rfl ?_
  refine mE_attr (mE_sub (mE_local g.ok vm (mE_sub (mE_local g.ok vr (mE_int (s_tup er (j:=2) rfl rfl ?_))))))
  refine s_any (s_list C.made (by show (0:Int) ≤ (x:Int);omega) (C.made_at hx) ?_ (by simp;omega))
  refine q_get g (C.is.ty htr2) (by simp) rfl ?_
  refine c_ne (t_bool ?_)
  rw [decide_eq_true (rfl:((tix.getD x 0 + 1:Nat):Int) = _)]
  show mT _ _ _ _
  refine mT_or0 ?_
  show mB _ _ _ _
  exact mB_nil h
theorem law_c6 {ps:PS} {m n t i lev sz nn:Nat} {bb:Option Nat} {mk l:List Int} {fl:List (Str × Nat)} {tix:List Nat} {K:List Bool} {rs:List Rw} {tr:TyR} {Q:Fl → St → Prop} {k:Nat} (g:Good (lw b L)) (rm:Rm (lw b L) (k + 5)) (C:CS ps m n tix K rs t σ.hp) (hr:rs[i]? = some (.rcd lev bb sz mk fl)) (htr:ps.types[tix.getD i 0]? = some tr) (hf:tr.form = "record") (rp:RP ps nn (.ref (tyN (tix.getD i 0))) l) (hp:l.Perm mk) (hl:mk.length < 64) (hm:mk.Pairwise (· < ·))
  (vt:σ.vars "t" = some (.ref (tyN (tix.getD i 0)))) (vr:σ.vars "row" = some (.ref (21,i,0)))
  (h:∀ h' t',t ≤ t' → CS ps m n tix K rs t' h' → Fw t σ.hp h' → Q .next ⟨σ.vars,h'⟩):mS (lw b L) (chkSt 6) Q σ:=by
 rw [show chkSt 6 = .If _ _ _ _ from rfl]
 refine mS_if (mT_cmp ?_)
 refine q_call g nk_pointer_offsets ?_
 refine mL_cons (mE_local g.ok vt (mL_nil ?_))
 refine sp_po_rec (k:=k) g rm C.is htr hf rp (by rw [hp.length_eq];exact hl) fun h' t' u ys hy hs hu1 hu2 I' F' e=>?_
 rw [dd_eq (hy.trans hp) hs hm] at e
 have C':=C.via I' (by exact cb2 hu1 hu2:t ≤ t') F'
 obtain ⟨r1,r2,r3,r4⟩:=C'.tab.row i _ hr
 refine mE_sub (mE_local g.ok vr (mE_int (s_tup r1 (j:=4) rfl rfl ?_)))
 refine c_neL (xs:=mk) (ys:=mk) (by have:=rm.2;exact cb1 this) e r2 (t_bool ?_)
 rw [decide_eq_true (rfl:mk = mk)]
 show mB _ _ _ _
 exact mB_nil (h h' t' (by exact cb2 hu1 hu2) C' F')
end
noncomputable abbrev keepC:List Str:=[("made" : Str), "rows", "step", "total", "homes", "rd"]
theorem Fin.ty {K:List Bool} {ps:PS} {ds:List Dc} {rs:List Rw} {tix oix:List Nat} (w:WF K ds rs) (F:Fin K ps ds rs tix oix) {x:Nat} (hx:x < ds.length):∃ tr,ps.types[tix.getD x 0]? = some tr:=by
 have wl:=w.len
 obtain ⟨r,hr⟩ : ∃ r,rs[x]? = some r:=⟨_,List.getElem?_eq_getElem (by exact cb2 hx (eL wl))⟩
 have ra:=F.row x ds[x] r (List.getElem?_eq_getElem hx) hr
 cases hd:ds[x] with
 | ptr tg=>
  rw [hd] at ra
  obtain ⟨b,h,_⟩:=ra
  exact ⟨_,h⟩
 | rcd b fs=>
  rw [hd] at ra
  cases r with
  | ptr tg=>exact ra.elim
  | rcd lev bb sz mk fl=>
   obtain ⟨fv,h,_⟩:=ra
   exact ⟨_,h⟩
section
variable {b:Cx} {L:Addr} {σ:St}
theorem law_chk {t m i:Nat} {K:List Bool} {ps:PS} {ds:List Dc} {rs:List Rw} {tix oix:List Nat} {Q:Fl → St → Prop} {k:Nat} (g:Good (lw b L)) (rm:Rm (lw b L) (k + 5)) (w:WF K ds rs) (hn:ds.length = K.length) (hK:K.length ≤ 6) (F:Fin K ps ds rs tix oix) (C:CS ps m K.length tix K rs t σ.hp) (hi:i < K.length)
  (vm:σ.vars "made" = some (.ref (0,m,0))) (vr:σ.vars "rows" = some (.ref (20,3,0))) (vs:σ.vars "step" = some (.int (i:Int)))
  (h:∀ fl σ' t',(fl = .next ∨ fl = .cont) → t ≤ t' → CS ps m K.length tix K rs t' σ'.hp → Fw t σ.hp σ'.hp → (∀ y ∈ keepC,σ'.vars y = σ.vars y) → Q fl σ'):mB (lw b L) chkB Q σ:=by
 have wl:=w.len
 obtain ⟨r,hr⟩ : ∃ r,rs[i]? = some r:=⟨_,List.getElem?_eq_getElem (by exact cb3 (eR hn) hi (eL wl))⟩
 obtain ⟨d,hd⟩ : ∃ d,ds[i]? = some d:=⟨_,List.getElem?_eq_getElem (by exact cb2 (eR hn) hi)⟩
 have ra:=F.row i d r hd hr
 have ro:=w.row hd hr
 rw [chkB_eq]
 refine mB_cons ?_
 rw [show chkSt 0 = .Assign [.Name "t" _] _ _ from rfl]
 refine mS_assign (mE_sub (mE_local g.ok vm (mE_cell g.ok vs ?_)))
 refine s_list C.made (by omega) (C.made_at hi) ?_ (by simp;omega)
 refine m_store g.ok ?_
 show mB _ _ _ _
 refine mB_cons ?_
 rw [show chkSt 1 = .Assign [.Name "row" _] _ _ from rfl]
 refine mS_assign (mE_sub (mE_cell g.ok vr (mE_cell g.ok vs ?_)))
 refine s_list (v:=.ref (21,i,0)) C.tab.rows (by omega) (by rw [Int.toNat_natCast,List.getElem?_map,List.getElem?_range (by exact cb3 (eR hn) hi (eL wl))];rfl) ?_ (by simp;exact cb3 (eL hn) hK (eR wl))
 refine m_store g.ok ?_
 show mB _ _ _ _
 simp only [St.var]
 have hk:∀ y ∈ keepC,y ≠ "row" ∧ y ≠ "t" := by decide
 have kept:∀ y ∈ keepC,(if y = ("row" : Str) then some (V.ref (21,i,0)) else if y = ("t" : Str) then some (V.ref (tyN (tix.getD i 0))) else σ.vars y) = σ.vars y:=fun y hy=>(if_neg (hk y hy).1).trans (if_neg (hk y hy).2)
 cases d with
 | ptr tg=>
  obtain ⟨rfl,h1,h2⟩:=ro
  obtain ⟨bb,q1,q2⟩:=ra
  have hb:bb = tix.getD tg 0:=by
   rcases q2 with q2 | ⟨p,q2⟩
   ·exact q2.2
   ·rw [F.fwd] at q2;cases q2
  subst hb
  have htg:=getl h2
  obtain ⟨tr2,htr2⟩:=F.ty w (x:=tg) (by exact cb2 (eR hn) htg)
  refine mB_cons (law_c2 (i:=i) (ti:=tix.getD i 0) (r:=.ptr tg) g C (by omega) q1 hr rfl rfl rfl rfl vs ?_)
  show mB _ _ _ _
  refine mB_cons (law_c3p (k:=k + 3) (i:=i) (tg:=tg) g rm C hK htg q1 rfl rfl htr2 hr rfl rfl vm fun h' t' lt C' F'=>?_)
  show Q .cont _
  exact h .cont _ t' (.inr rfl) lt C' F' kept
 | rcd bo fs=>
  cases r with
  | ptr tg=>exact ra.elim
  | rcd lev bb sz mk fl=>
   obtain ⟨h1,h2,h3,lev',s,m',h4,h5,h6⟩:=ro
   have hbo:bo = bb:=by unfold rowR at h4;cases h4;rfl
   subst hbo
   have hfl:fl = (layF i 0 s fs).2.1:=by unfold rowR at h4;cases h4;rfl
   obtain ⟨fv,q1,q2⟩:=ra
   have hbx:∀ x,bo = some x → x < K.length ∧ ∃ tr2,ps.types[tix.getD x 0]? = some tr2:=fun x hx=>by
    have:=(h6 x hx).1
    exact ⟨by exact cb2 hi this,F.ty w (by exact cb3 (eR hn) hi this)⟩
   obtain ⟨nn,l,rp,hp⟩:=rp_of w hK F hr
   obtain ⟨asc,ml⟩:=w.marks (by omega) hr
   have hlev:lev ≤ 3:=by
    have e:lev = lev':=by unfold rowR at h4;cases h4;rfl
    cases bo with
    | none=>have:=(h5 rfl).1;exact cb2 (eL e) (eL this)
    | some x=>obtain ⟨_,l2,_,_,_,e2,e3⟩:=h6 x rfl;exact cb3 (eL e) (eL e2) e3
   refine mB_cons (law_c2 (i:=i) (ti:=tix.getD i 0) (r:=.rcd lev bo sz mk fl) g C (by omega) q1 hr rfl rfl rfl rfl vs ?_)
   show mB _ _ _ _
   refine mB_cons (law_c3r (i:=i) g C hr rfl ?_)
   show mB _ _ _ _
   refine mB_cons (law_c4 (i:=i) (fs:=fs) g rm C hr q1 rfl rfl q2 h2 (fun x hx=>layF_strs i fs 0 s x (hfl ▸ hx)) rfl rfl fun h₁ t₁ lt₁ C₁ F₁=>?_)
   show mB _ _ _ _
   refine mB_cons (law_c5 (i:=i) g C₁ hK hr q1 (by cases bo <;> rfl) hbx rfl rfl vm ?_)
   show mB _ _ _ _
   refine mB_cons (law_c6 (k:=k) (i:=i) g rm C₁ hr q1 rfl rp hp (by omega) asc.1 rfl rfl fun h₂ t₂ lt₂ C₂ F₂=>?_)
   show mB _ _ _ _
   exact mB_nil (h .next _ t₂ (.inl rfl) (by omega) C₂ (F₁.trans F₂ lt₁) kept)
theorem law_if15 {t m:Nat} {K:List Bool} {ps:PS} {ds:List Dc} {rs:List Rw} {tix oix:List Nat} {Q:Fl → St → Prop} {k:Nat} (g:Good (lw b L)) (rm:Rm (lw b L) (k + 5)) (w:WF K ds rs) (hn:ds.length = K.length) (hK:K.length ≤ 6) (F:Fin K ps ds rs tix oix) (C:CS ps m K.length tix K rs t σ.hp)
  (vm:σ.vars "made" = some (.ref (0,m,0))) (vr:σ.vars "rows" = some (.ref (20,3,0))) (vt:σ.vars "total" = some (.int (K.length:Int)))
  (h:∀ σ' t',t ≤ t' → CS ps m K.length tix K rs t' σ'.hp → (∀ y ∈ keepC,y ≠ "step" → σ'.vars y = σ.vars y) → Q .next σ'):mS (lw b L) (lawSt 15) Q σ:=by
 rw [show lawSt 15 = .For (.Name "step" _) _ chkB _ _ from rfl]
 refine mS_for (0,t,1) (fun k' τ=>∃ i t',i + k' = K.length ∧ t + 1 ≤ t' ∧ CS ps m K.length tix K rs t' τ.hp ∧ τ.hp (0,t,1) = some (rgI i K.length) ∧ ∀ y ∈ keepC,y ≠ "step" → τ.vars y = σ.vars y) ?_ ?_ ?_
 ·refine q_ty g nb_range bb_range ?_
  refine mL_cons (mE_local g.ok vt (mL_nil ?_))
  refine MW1.toS (rg_newN (0,t,0) (C.is.free _ _ (Nat.le_refl _)) ?_)
  refine it_rangeN (0,t,1) (H.set_self _ _ _) (by omega) (H.skip (h:=σ.hp) (by walk_at "ne") (C.is.free _ _ (Nat.le_refl _))) ⟨rfl,K.length,0,t + 1,by omega,Nat.le_refl _,C.via ((C.is.tmp).old (Nat.lt_succ_self t)) (by omega) (((Fw.refl _ _:Fw t σ.hp σ.hp).set (Nat.le_refl t)).set (Nat.le_refl t)),H.set_self _ _ _,fun y _ _=>rfl⟩
 ·rintro k' τ ⟨i,t',_,_,_,e,_⟩
  rw [e];simp
 ·intro J';rintro k' ⟨vv,hp⟩ ⟨i,t',hk,lt,C',e,vo⟩
  rcases Nat.lt_or_ge i K.length with lti | ge
  ·refine nx_rangeN e lti ?_
   refine as_nameC g.ok ?_
   simp only [St.put,St.var]
   have C₂:CS ps m K.length tix K rs t' (hp.set (0,t,1) (rgI (i + 1) K.length)):=by
    have e' : ∀ x:Nm,x.1 ≠ 0 → (hp.set (0,t,1) (rgI (i + 1) K.length)) x = hp x:=fun x hx=>H.set_ne hp _ (by rintro rfl;exact hx rfl)
    refine ⟨C'.is.old (by omega),C'.lt,(H.set_ne hp _ (by walk_at "ne")).trans C'.made,(e' _ (by decide)).trans C'.tab.homes,(e' _ (by decide)).trans C'.tab.rows,fun q r hr=>(C'.tab.row q r hr).keep fun x a _=>e' x (by exact fun q=>cf2 (eL q) a)⟩
   refine law_chk (k:=k) (i:=i) g rm w hn hK F C₂ lti ((vo "made" (by decide) (by decide)).trans vm) ((vo "rows" (by decide) (by decide)).trans vr) rfl ?_
   intro fl σ' t₃ q1 q2 q3 q4 q5
   have fin:∃ k'',k'' < k' ∧ ∃ i t',i + k'' = K.length ∧ t + 1 ≤ t' ∧ CS ps m K.length tix K rs t' σ'.hp ∧ σ'.hp (0,t,1) = some (rgI i K.length) ∧ ∀ y ∈ keepC,y ≠ "step" → σ'.vars y = σ.vars y:=⟨k' - 1,by omega,i + 1,t₃,by omega,by omega,q3,(q4 t 1 (by omega)).trans (H.set_self hp _ _),fun y hy hs=>(q5 y hy).trans ((if_neg hs).trans (vo y hy hs))⟩
   rcases q1 with rfl | rfl
   ·exact fin
   ·exact fin
  ·refine nx_rangeNE g.ok e ge ?_
   have C₂:CS ps m K.length tix K rs t' (hp.set (0,t,1) .dead):=by
    have e' : ∀ x:Nm,x.1 ≠ 0 → (hp.set (0,t,1) .dead) x = hp x:=fun x hx=>H.set_ne hp _ (by rintro rfl;exact hx rfl)
    refine ⟨C'.is.old (by omega),C'.lt,(H.set_ne hp _ (by walk_at "ne")).trans C'.made,(e' _ (by decide)).trans C'.tab.homes,(e' _ (by decide)).trans C'.tab.rows,fun q r hr=>(C'.tab.row q r hr).keep fun x a _=>e' x (by exact fun q=>cf2 (eL q) a)⟩
   exact h ⟨vv,hp.set (0,t,1) .dead⟩ t' (by omega) C₂ vo
end
section
variable {b:Cx} {L:Addr} {σ:St}
theorem law_ret {t:Nat} {K:List Bool} {ps:PS} {ds:List Dc} {rs:List Rw} {tix oix:List Nat} {Q:Fl → St → Prop} {k:Nat} (g:Good (lw b L)) (rm:Rm (lw b L) k) (w:WF K ds rs) (hn:ds.length = K.length) (hK:K.length ≤ 6) (F:Fin K ps ds rs tix oix) (I:Is σ.hp ps t) (T:Tab K rs σ.hp)
  (vd:σ.vars "rd" = some (.ref RD)) (vh:σ.vars "homes" = some (.ref (20,2,0))) (h:∀ σ',Q (.ret (.bool true)) σ'):mS (lw b L) (lawSt 16) Q σ:=by
 rw [show lawSt 16 = .Return (some (.Compare _ [_] [_] _)) _ from rfl]
 have room:(lw b L).A.units + 64 < cLine:=by have:=rm.2;omega
 have hl:=trues_len K
 have er:ps.recs = (trues K).map fun i=>V.ref (tyN (tix.getD i 0)):=by
  rw [F.recs,hn];rfl
 have e8:σ.hp (8,2,0) = some (.list ((trues K).map fun i=>V.ref (tyN (tix.getD i 0)))):=by rw [← er];exact I.at (n:=(8,2,0)) rfl
 refine mS_ret (mE_cmp ?_)
 refine mE_pc (0,t,0) (0,t,1) [] [] (hs:=fun _=>σ.hp) (N:=((trues K).map fun i=>V.ref (tyN (tix.getD i 0))).length) (pickF (trues K) (fun _=>true) fun i=>V.str (tnm i)) (Src.list (l:=(8,2,0)) (xs:=(trues K).map fun i=>V.ref (tyN (tix.getD i 0))) (by walk_at "ne") (fun _=>e8) (by walk_at "ne") (by walk_at "ne")) (I.free _ _ (Nat.le_refl _)) (by simp;omega) g.ok rfl (by decide) (fun y hy=>by cases hy) (fun y hy=>by cases hy) List.nodup_nil (by decide) (by decide) rfl (by decide) rfl ?_ ?_ ?_
 ·refine mE_attr (mE_local g.ok vd (q_get g (I.at (n:=RD) rfl) (by simp) rfl ?_))
  exact it_list (0,t,1) e8 (I.free _ _ (Nat.le_refl _)) ⟨rfl,rfl⟩
 ·rintro B C' ok' a ha pre h' rfl
  have gc:Good ((lw b L).comp B C' _ []):=⟨ok',g.hK⟩
  rw [List.length_map] at ha
  obtain ⟨q,hq⟩ : ∃ q,(trues K)[a]? = some q:=⟨_,List.getElem?_eq_getElem ha⟩
  obtain ⟨m1,m2⟩:=trues_mem (List.mem_of_getElem? hq)
  have ev:((trues K).map fun i=>V.ref (tyN (tix.getD i 0))).getD a .none = .ref (tyN (tix.getD q 0)):=by rw [List.getD_eq_getElem?_getD,List.getElem?_map,hq];rfl
  have I' : Is (((σ.hp.set (0,t,1) (.raw "list_iterator" [.v (.ref (8,2,0)),.ri (a + 1:Nat)])).set (0,t,0) (.list pre))) ps (t + 1):=I.tmp.old (Nat.lt_succ_self t)
  have wl:=w.len
  obtain ⟨r,hr⟩ : ∃ r,rs[q]? = some r:=⟨_,List.getElem?_eq_getElem (by omega)⟩
  obtain ⟨d,hd⟩ : ∃ d,ds[q]? = some d:=⟨_,List.getElem?_eq_getElem (by omega)⟩
  have ra:=F.row q d r hd hr
  obtain ⟨tr,htr,hlb⟩ : ∃ tr,ps.types[tix.getD q 0]? = some tr ∧ tr.label = tnm q:=by
   cases d with
   | ptr tg=>obtain ⟨b,h,_⟩:=ra;exact ⟨_,h,rfl⟩
   | rcd bo fs=>
    cases r with
    | ptr tg=>exact ra.elim
    | rcd lev bb sz mk fl=>obtain ⟨fv,h,_⟩:=ra;exact ⟨_,h,rfl⟩
  simp only [ev,pickF_some hq,if_true]
  show mE _ _ _ _
  refine mE_attr (mE_local gc.ok rfl (q_get gc (I'.ty htr) (by simp) rfl ?_))
  rw [hlb]
  exact ⟨fun y hy=>absurd hy (List.not_mem_nil),rfl,rfl⟩
 ·rw [List.length_map,fm_all]
  obtain ⟨h₁,hh⟩ : ∃ h₁,h₁ = (σ.hp.set (0,t,1) .dead).set (0,t,0) (.list ((trues K).map fun i=>V.str (tnm i))):=⟨_,rfl⟩
  have I₁:Is h₁ ps (t + 1):=hh ▸ (I.tmp).old (Nat.lt_succ_self t)
  have e1:h₁ (0,t,0) = some (.list ((trues K).map fun i=>V.str (tnm i))):=hh ▸ H.set_self _ _ _
  have eh:h₁ (20,2,0) = some (.list ((trues K).map fun i:Nat=>.int (i:Int))):=by rw [hh];exact T.homes
  rw [← hh]
  clear hh
  refine mE_pc (0,t + 1,0) (0,t + 1,1) [] [] (hs:=fun _=>h₁) (N:=((trues K).map fun i:Nat=>V.int (i:Int)).length) (pickF (trues K) (fun _=>true) fun i=>V.str (tnm i)) (Src.list (l:=(20,2,0)) (xs:=(trues K).map fun i:Nat=>V.int (i:Int)) (by walk_at "ne") (fun _=>eh) (by walk_at "ne") (by walk_at "ne")) (I₁.free _ _ (Nat.le_refl _)) (by simp;omega) g.ok rfl (by decide) (fun y hy=>by cases hy) (fun y hy=>by cases hy) List.nodup_nil (by decide) (by decide) rfl (by decide) rfl ?_ ?_ ?_
  ·refine mE_local g.ok vh ?_
   exact it_list (0,t + 1,1) eh (I₁.free _ _ (Nat.le_refl _)) ⟨rfl,rfl⟩
  ·rintro B C' ok' a ha pre h' rfl
   have gc:Good ((lw b L).comp B C' _ []):=⟨ok',g.hK⟩
   rw [List.length_map] at ha
   obtain ⟨q,hq⟩ : ∃ q,(trues K)[a]? = some q:=⟨_,List.getElem?_eq_getElem ha⟩
   obtain ⟨m1,m2⟩:=trues_mem (List.mem_of_getElem? hq)
   have ln:=ln_name q (by omega)
   have ev:((trues K).map fun i:Nat=>V.int (i:Int)).getD a .none = .int (q:Int):=by rw [List.getD_eq_getElem?_getD,List.getElem?_map,hq];rfl
   simp only [ev,pickF_some hq,if_true]
   show mE _ _ _ _
   refine mE_bin (mE_str ?_)
   refine q_ty gc nb_str bb_str ?_
   refine mL_cons (mE_local gc.ok rfl (mL_nil ?_))
   refine MW1.toS (f_str ?_ (by omega) (by omega))
   refine b_cat ?_ (by show 1 + (dgS q).length ≤ _;omega)
   exact ⟨fun y hy=>absurd hy (List.not_mem_nil),rfl,rfl⟩
  ·rw [List.length_map,fm_all]
   have okd:kqdOk 8 (.list (((trues K).map tnm).map Dat.str)) = true:=kqd_strs _ fun x hx=>by
    obtain ⟨q,_,rfl⟩:=List.mem_map.mp hx
    exact strOk_tnm q
   refine c_eqE (x:=true) (d:=.list (((trues K).map tnm).map Dat.str)) (e:=.list (((trues K).map tnm).map Dat.str)) room (dv_names (n:=(0,t,0)) (pts:=trues K) ?_) (dv_names (n:=(0,t + 1,0)) (pts:=trues K) (H.set_self _ _ _)) okd okd ⟨fun _=>rfl,fun _=>rfl⟩ (h _)
   exact (H.set_ne _ _ (by walk_at "ne")).trans ((H.set_ne h₁ _ (by walk_at "ne")).trans e1)
theorem law_walk {l:Addr} {vs:List Value} {ns:List Int} {k:Nat} (g:Good (lw b L)) (rm:Rm (lw b L) (k + 20)) (hb:(lw b L).B.IsList l vs.toArray) (hi:IntsAre vs ns) (hz:ns.length ≤ 63) :
  mB (lw b L) lawB (fun fl _=>fl.val = .bool true) ⟨fun y=>if y = ("script" : Str) then some (.glob (.ref l)) else none,fun _=>none⟩:=by
 rw [lawB_eq]
 refine mB_cons ?_
 rw [show lawSt 0 = .Assign [.Name "pool" _] _ _ from rfl]
 refine mS_assign (q_call g nk_law_pool ?_)
 refine mL_cons (mE_local g.ok rfl (mL_nil ?_))
 refine sp_pool (t:=0) (k:=k + 19) g rm hb hi hz rfl rfl (fun _ _ _=>rfl) fun h₁ t₁ P₁ W₁=>?_
 refine m_storeC g.ok ?_
 show mB _ _ _ _
 simp only [St.var]
 have z₁:∀ n:Nm,n.1 ≠ 0 → n ≠ PL → n ≠ FG → h₁ n = none:=fun n a1 a2 a3=>W₁.same n a1 fun q=>q.elim a2 a3
 refine mB_cons ?_
 rw [show lawSt 1 = .Assign [.Name "total" _] _ _ from rfl]
 refine mS_assign (mE_bin (mE_int (q_call g nk_law_pick ?_)))
 refine mL_cons (mE_cell g.ok rfl (mL_cons (mE_int (mL_nil ?_))))
 refine sp_pick (lim:=6) (k:=k + 19) g rm P₁ (by decide) (by decide) fun h₂ v hv P₂ S₂=>?_
 refine b_add ?_
 rw [show (1:Int) + (v:Int) = ((v + 1:Nat):Int) by omega]
 refine m_store g.ok ?_
 show mB _ _ _ _
 simp only [St.var]
 have z₂:∀ n:Nm,n.1 ≠ 0 → n ≠ PL → n ≠ FG → h₂ n = none:=fun n a1 a2 a3=>(S₂ n a2).trans (z₁ n a1 a2 a3)
 have fr₂:Free t₁ h₂:=fun u q hu=>(S₂ _ (by intro e;cases e)).trans (W₁.free u q hu)
 refine mB_cons (law_kinds (t:=t₁) (n:=v + 1) (k:=k + 19) g rm P₂ fr₂ (by omega) (by omega) (fun i=>z₂ _ (by show 20 ≠ 0;decide) (by walk_at "ne") (by walk_at "ne")) rfl rfl fun K₀ h₃ hK₀ hT₀ P₃ e₃ Kp₃=>?_)
 show mB _ _ _ _
 simp only [St.var]
 have z₃:∀ n:Nm,n.1 ≠ 0 → (n.1 = 20 → n.2.1 = 1 → 3 ≤ n.2.2) → n ≠ PL → n ≠ FG → h₃ n = none:=fun n a1 a2 a3 a4=>(Kp₃.same n a1 fun q=>q.elim a3 fun ⟨q1,q2,q3⟩=>(by have:=a2 q1 q2;omega)).trans (z₂ n a1 a3 a4)
 refine mB_cons (law_rev (t:=t₁ + 1) (K:=K₀) (k:=k + 19) g rm P₃ Kp₃.free (by omega) hT₀ (z₃ (20,1,3) (by decide) (fun _ _=>Nat.le_refl 3) (by decide) (by decide)) rfl rfl e₃ fun K σ₄ kn kno hKl hT P₄ e₄ Kp₄ v₄ vo₄=>?_)
 show mB _ _ _ _
 have z₄:∀ n:Nm,n.1 ≠ 0 → (n.1 = 20 → n.2.1 = 1 → 4 ≤ n.2.2) → n ≠ PL → n ≠ FG → σ₄.hp n = none:=fun n a1 a2 a3 a4=>(Kp₄.same n a1 fun q=>q.elim a3 fun q=>(by subst q;have:=a2 rfl rfl;exact absurd this (by decide))).trans (z₃ n a1 (fun x y=>by have:=a2 x y;omega) a3 a4)
 have hKK:K.length = v + 1:=by omega
 have kn1:kn.1 = 20 ∧ kn.2.1 = 1:=by rcases kno with rfl | rfl <;> exact ⟨rfl,rfl⟩
 have vt₄:σ₄.vars "total" = some (.int (K.length:Int)):=by rw [hKK];exact (vo₄ "total" (by decide)).trans rfl
 have vp₄:σ₄.vars "pool" = some (.ref PL):=(vo₄ "pool" (by decide)).trans rfl
 refine mB_cons (law_homes (t:=t₁ + 1) (kn:=kn) (K:=K) g Kp₄.free (by omega) kn1 (z₄ (20,2,0) (by decide) (fun _ q=>by cases q) (by decide) (by decide)) v₄ vt₄ e₄ ?_)
 show mB _ _ _ _
 simp only [St.var]
 obtain ⟨h₅,hh⟩ : ∃ h₅,h₅ = ((σ₄.hp.set (0,t₁ + 1,0) (rgO K.length)).set (0,t₁ + 1,1) .dead).set (20,2,0) (.list ((trues K).map fun i:Nat=>.int (i:Int))):=⟨_,rfl⟩
 have P₅:PoolOk h₅:=hh ▸ (P₄.tmp.tmp).put' (by decide) (by decide)
 have fr₅:Free (t₁ + 2) h₅:=fun u q hu=>by
  rw [hh,H.set_ne _ _ (by intro e;cases e),H.set_ne _ _ (by intro e;cases e;omega),H.set_ne _ _ (by intro e;cases e;omega)]
  exact Kp₄.free u q (by omega)
 have same₅:∀ n:Nm,n.1 ≠ 0 → n ≠ (20,2,0) → h₅ n = σ₄.hp n:=fun n a1 a2=>by rw [hh,H.set_ne _ _ a2,H.set_ne _ _ (by rintro rfl;exact a1 rfl),H.set_ne _ _ (by rintro rfl;exact a1 rfl)]
 have eh₅:h₅ (20,2,0) = some (.list ((trues K).map fun i:Nat=>.int (i:Int))):=hh ▸ H.set_self _ _ _
 rw [← hh]
 clear hh
 refine mB_cons ?_
 rw [show lawSt 5 = .Assign [.Name "rows" _] (.List [] _) _ from rfl]
 refine mS_assign (mE_list (mL_nil (l_new (20,3,0) ((same₅ _ (by decide) (by decide)).trans (z₄ (20,3,0) (by decide) (fun _ q=>by cases q) (by decide) (by decide))) ?_ (by simp))))
 refine m_storeC g.ok ?_
 show mB _ _ _ _
 simp only [St.put,St.var]
 refine mB_cons ?_
 rw [show lawSt 6 = .Assign [.Name "wide" _] _ _ from rfl]
 refine mS_assign (mE_str (m_store g.ok ?_))
 show mB _ _ _ _
 simp only [St.var]
 have ek₅:h₅ kn = some (.list (K.map kdV)):=(same₅ kn (by rw [kn1.1];decide) (by rintro rfl;exact absurd kn1.2 (by decide))).trans e₄
 have kn3:kn ≠ (20,3,0):=by rintro rfl;exact absurd kn1.2 (by decide)
 have low₅:∀ n:Nm,n.1 ≠ 0 → n.1 ≠ 20 → (h₅.set (20,3,0) (.list [])) n = none:=fun n a1 a2=>(H.set_ne _ _ (by rintro rfl;exact a2 rfl)).trans ((same₅ n a1 (by rintro rfl;exact a2 rfl)).trans (z₄ n a1 (fun q=>absurd q a2) (by rintro rfl;exact a2 rfl) (by rintro rfl;exact a2 rfl)))
 refine mB_cons (law_loop (t:=t₁ + 2) (K:=K) (kn:=kn) (k:=k + 18) g rm (by omega) hT (P₅.put' (by decide) (by decide)) (fun u q hu=>fr₅ u q hu) kno (show (h₅.set (20,3,0) (.list [])) kn = _ from (H.set_ne h₅ _ kn3).trans ek₅) eh₅ (H.set_self h₅ (20,3,0) _) (fun n a1 a2=>low₅ n (by omega) (by omega)) (fun n a1 _=>low₅ n (by omega) (by omega)) vp₄ vt₄ v₄ rfl rfl rfl fun ds rs σ₆ t₆ w hds fr₆ T₆ low₆ vw₆ lw₆ vo₆=>?_)
 show mB _ _ _ _
 refine law_parse (t:=t₆) (K:=K) (k:=k) g rm w hds (by omega) (by omega) fr₆ low₆ vw₆ lw₆ fun σ₇ t₇ ps tix oix F I₇ S₇ ve vd vx vo₇=>?_
 have vt₇:σ₇.vars "total" = some (.int (K.length:Int)):=(vo₇ _ (by decide)).trans ((vo₆ _ (by decide)).trans vt₄)
 have vr₇:σ₇.vars "rows" = some (.ref (20,3,0)):=(vo₇ _ (by decide)).trans ((vo₆ _ (by decide)).trans rfl)
 have vh₇:σ₇.vars "homes" = some (.ref (20,2,0)):=(vo₇ _ (by decide)).trans ((vo₆ _ (by decide)).trans rfl)
 have T₇:Tab K rs σ₇.hp:=⟨(S₇ _ (by decide)).trans T₆.homes,(S₇ _ (by decide)).trans T₆.rows,fun q r hr=>(T₆.row q r hr).keep fun n a _=>S₇ n (by omega)⟩
 refine mB_cons (law_if13 (n:=K.length) (k:=k + 18) g rm F I₇ hds (by omega) ve vd vx vt₇ ?_)
 show mB _ _ _ _
 refine mB_cons (law_made (n:=K.length) (t:=t₇) g F I₇ hds (by omega) vx fun h₈ I₈ e₈ S₈=>?_)
 show mB _ _ _ _
 simp only [St.var]
 refine mB_cons (law_if15 (t:=t₇ + 1) (m:=t₇) (K:=K) (k:=k + 15) g rm w hds (by omega) F ⟨I₈,Nat.lt_succ_self _,e₈,⟨(S₈ _ (by decide)).trans T₇.homes,(S₈ _ (by decide)).trans T₇.rows,fun q r hr=>(T₇.row q r hr).keep fun n a _=>S₈ n (by omega)⟩⟩ rfl vr₇ vt₇ fun σ₉ t₉ _ C₉ vo₉=>?_)
 show mB _ _ _ _
 refine mB_cons (law_ret (t:=t₉) (K:=K) g (rm.less (Nat.le_refl _)) w hds (by omega) F C₉.is C₉.tab ((vo₉ "rd" (by decide) (by decide)).trans vd) ((vo₉ "homes" (by decide) (by decide)).trans vh₇) fun σ'=>?_)
 rfl
end
theorem law_dk2 (P:Params):∃ fd,defOkC (KK P) 1431 fd lawB "law" lawSc (.ref 1430) "script" ∧ ∀ x,bindArgs fd ⟨[x],[]⟩ = pure [(("script" : Str),x)]:=⟨_,⟨⟨_,_,_,_,_,_,_,_,_,_,_,rfl,rfl⟩,rfl,rfl,rfl,rfl,rfl⟩,fun _=>rfl⟩
theorem law_wp {prog:Program} {w:World} {p:Program} {loose:List Str} {mg mb:Str → Option Value} {s:Shared} {l:Addr} {vs:List Value} {ns:List Int}
  (X:(KK w.params).In s.heap) (T:TopRead p loose mg mb s.heap) (hb:s.heap.IsList l vs.toArray) (hi:IntsAre vs ns) (hz:ns.length ≤ 63) :
  wpAny (model prog w) callerA (call (.ref 1431) [.ref l]) (fun v s'=>v = .bool true ∧ (∀ b o,s.heap.get? b = some o → s'.heap.get? b = some o) ∧ s'.gens = s.gens ∧ s'.os = s.os) (fun _ _=>False) s:=by
 obtain ⟨fd,dk,hbd⟩:=law_dk2 w.params
 refine wpAny_mono (m_entry (R:=fun b=>b = .bool true) (u:=.glob (.ref l)) X T dk (hbd _) (fun ρ h=>rfl) fun L ok=>?_) (fun v s'=>?_) fun _ _ e=>e
 ·exact law_walk (b:=Cx.top prog w (KK w.params) p loose mg mb s "law" lawSc 1431 (.ref 1430) L) (L:=L) (k:=0) ⟨ok,rfl⟩ ⟨Nat.le_of_ble_eq_true rfl,Nat.le_of_ble_eq_true rfl⟩ hb hi hz
 ·rintro ⟨⟨b,ρ,h,rfl,hv⟩,h2,h3,h4⟩
  exact ⟨hv,h2,h3,h4⟩
set_option tactic.hygienic true in
theorem holds_it (said:PySem.Challenge.rw_pb0398_01.row.wellSaid = true):PySem.Challenge.rw_pb0398_01.row.Holds:=by
 refine pre_h said (by rfl) (by rfl) (by rfl) ?walk
 intro w s₀ s₁ mg mb G Y fa o pm cd doc dV kV ho hd hcd hD hmg hg args vals as hpre hlay hrd hwl hlo
 clear ho hd hcd hD
 have hm:mg "law" = some (.ref fa):=hmg
 clear hmg
 have T:=topRead_of G.T
 clear G
 wrow_args hpre hlay hrd hwl hlo
 rename_i ns hs hlay0 hL1 hr1 hl2 as1 as2 hL ra w1 r0 hI hr hc1 hc2
 have X:(KK w.params).In s₁.heap:=Y
 have hfa:fa = 1431:=by
  have e:=mg_of X T.g (show nsIn (KK w.params) mainGlobals "law" = some (some (.ref 1431)) from rfl)
  exact Value.ref.inj (Option.some.inj (hm.symm.trans e))
 subst hfa
 refine wpAny_mono (law_wp X T hL hI (by omega)) (fun v s' h=>?_) fun _ _ e=>e.elim
 obtain ⟨rfl,h2,h3,h4⟩:=h
 refine ⟨.inl ⟨_,.bool true,[],rfl,fun cls=>rfl,ReadsW.bool _,?_,fun _=>⟨List.nodup_nil,fun a ha=>by cases ha⟩⟩,.of_keep h2,h4,.of_eq (h3.trans hg)⟩
 first | rfl | wrow_post
end Mine
open PySem PySem.W PyProof.Rows
theorem PySem.Challenge.cw_pb0398_01_holds : PySem.Challenge.rw_pb0398_01.Holds := by
  exact Mine.cw0 Mine.holds_it
