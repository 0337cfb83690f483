import PyProof.Rows.All
import Wide.All
import OpenK.AllK
import Wide.FinOn
import PySem.Challenge.RW_pc0102_01
set_option Elab.async false
set_option maxRecDepth 100000
set_option maxHeartbeats 4000000
set_option linter.all false
set_option bootstrap.genMatcherCode false
set_option compiler.extract_closed false
namespace Mine
abbrev J1O:=@Nat.le_of_ble_eq_true
abbrev g61:=@Nat.le_refl
abbrev Y1l:=@Option.some.inj
abbrev z2n:=@Nat.le_trans
abbrev B8Q:=@List.getElem?_eq_getElem
abbrev Z4B:=@Nat.succ_le_succ
abbrev S28:=@Nat.le_max_right
abbrev r72:=@Nat.le_of_eq
abbrev K7i:=@Nat.lt_succ_self
abbrev V7h:=@Nat.zero_le
abbrev w8W:=@Nat.le_max_left
abbrev B99:=@Nat.le_add_right
abbrev C3D:=@List.mem_of_getElem?
abbrev R6T:=@congrArg
end Mine
namespace Mine.Hd
open PySem PySem.W
section
noncomputable section
@[reducible]noncomputable def pw:Program:=PySem.Challenge.pw_pc0102_01
@[reducible]noncomputable def s(x:Str)(t:Nat):Value:=.str x t
@[reducible]noncomputable def i(k:Int)(t:Nat):Value:=.int k t
@[reducible]noncomputable def r(a:Nat):Value:=.ref a
@[reducible]noncomputable def N:Value:=.none
@[reducible]noncomputable def e(P:Params)(x:Str)(t:Nat)(v:Value):DictEntry:=⟨PyData.keyHash P x,.str x t,v⟩
@[reducible]noncomputable def tp(l:List Value):Obj:={cls:=.type "tuple",data:=.seq l.toArray}
@[reducible]noncomputable def tb(l:List Value):Obj:={cls:=.none,data:=.fields l.toArray}
noncomputable def body:List Stmt:=pw.main.body
noncomputable def st(k:Nat):Stmt:=match body[k]? with|some x=>x|none=>.Pass default
noncomputable def mt(k j:Nat):Stmt:=match st k with
 | .ClassDef _ _ _ b _ _ _ _ _ _ _=>(match b[j]? with|some x=>x|none=>.Pass default)
 |_=>.Pass default
structure FP where
 name:Str
 args:Arguments
 body:List Stmt
 scope:Scope
 pos:Pos
noncomputable def fp:Stmt→FP
 | .FunctionDef name args body _ _ _ scope _ _ pos=>⟨name,args,body,scope,pos⟩
 |_=>⟨Str.empty,⟨[],[],none,[],[],none,[]⟩,[],default,default⟩
@[reducible]noncomputable def ft(x:Stmt)(q:Str):Obj:={cls:=.none,data:=.func {name:=(fp x).name,qualname:=q,params:=(fp x).args,body:=.stmts (fp x).body,scope:=(fp x).scope,globals:=builtinsNs,closure:=[],defaults:=.none,kwdefaults:=.none}}
@[reducible]noncomputable def ff(x:Stmt)(q:Str)(m c:Value):Obj:={cls:=.type "function",data:=.func {name:=(fp x).name,qualname:=q,params:=(fp x).args,body:=.stmts (fp x).body,scope:=(fp x).scope,globals:=mainGlobals,closure:=[],defaults:=.none,kwdefaults:=.none,pyModule:=m,code:=c}}
structure R where
 T:BT
 n:Nat
 t:Nat
noncomputable def R.nw(z:R)(o:Obj):R:=⟨z.T.ins z.n o,z.n+1,z.t⟩
noncomputable def R.upd(z:R)(a:Nat)(o:Obj):R:=⟨z.T.set a fun _=>o,z.n,z.t⟩
noncomputable def R.tk(z:R)(t:Nat):R:=⟨z.T,z.n,t⟩
noncomputable def R.put(z:R)(P:Params)(a:Nat)(x:Str)(t:Nat)(v:Value):R:=⟨z.T.set a (Obj.putName x (PyData.keyHash P x) (.str x t) v),z.n,z.t⟩
noncomputable def R.app(z:R)(a:Nat)(l:List Value):R:=⟨z.T.set a (Obj.mapFields fun vs=>vs++l.toArray),z.n,z.t⟩
noncomputable def toks(t:Nat):List Str→List Value
 | []=>[]
 |x::l=>.str x t::toks (t+1) l
noncomputable def R.fnIn(z:R)(x:Stmt)(q:Str)(m:Value)(l:Option (List Str×List Str)):R×Nat×Nat:=match l with
 |some (l1,l2)=>(z |>.nw (tp []) |>.nw (tb []) |>.nw (tp (toks (z.t+3) l1)) |>.nw (tp (toks (z.t+3+l1.length) l2)) |>.nw (ft x q)
   |>.nw {cls:=.type "code",data:=.fields #[s (fp x).name z.t,s q (z.t+1),s "/claim/cut.py" (z.t+2),i (fp x).pos.line 0,i (fp x).args.args.length 0,i 0 0,i 0 0,i 3 0,r z.n,.bool true,i 181 0,r (z.n+1),N,r (z.n+2),r (z.n+3),r (z.n+4),i ((z.t+3+(l1.length+l2.length):Nat):Int) 0,i (fp x).pos.line 0,s "/claim/cut.py" (z.t+4+(l1.length+l2.length))]}
   |>.nw (ff x q m (r (z.n+5))) |>.tk (z.t+5+(l1.length+l2.length)),z.n+5,z.n+6)
 |none=>(z |>.nw (tp []) |>.nw (tb []) |>.nw (ft x q)
   |>.nw {cls:=.type "code",data:=.fields #[s (fp x).name z.t,s q (z.t+1),s "/claim/cut.py" (z.t+2),i (fp x).pos.line 0,i (fp x).args.args.length 0,i 0 0,i 0 0,i 3 0,r z.n,.bool true,i 181 0,r (z.n+1),N,N,N,r (z.n+2),i ((z.t+3:Nat):Int) 0,i (fp x).pos.line 0,s "/claim/cut.py" (z.t+4)]}
   |>.nw (ff x q m (r (z.n+3))) |>.tk (z.t+5),z.n+3,z.n+4)
noncomputable def cz(k:Nat)(m:Value):Nat→List Str→R→R
 |_,[],z=>z
 |j,q::l,z=>cz k m (j+1) l (match z.fnIn (mt k j) q m (localNames (fp (mt k j)).args (fp (mt k j)).scope (.stmts (fp (mt k j)).body))with|(y,_,_)=>y.tk (y.t+1))
noncomputable def R.fn(z:R)(P:Params)(x:Stmt)(m:Value):R:=match z.fnIn x (fp x).name m (localNames (fp x).args (fp x).scope (.stmts (fp x).body))with
 |(y,c,f)=>((y.app 12 [i (fp x).pos.line 0,i (fp x).pos.col 0,r c]).put P 3 (fp x).name y.t (r f)).tk (y.t+1)
noncomputable def fns(P:Params)(m:Value):Nat→Nat→R→R
 |_,0,z=>z
 |a,n+1,z=>fns P m (a+1) n (z.fn P (st a) m)
noncomputable def oR:Obj:=⟨(.type "list"),none,.seq #[(i 9 196),(i 11 197),(i 12 198),(i 32 199),(i 160 200),(i 5760 201),(i 6158 202),(i 8239 203),(i 8287 204),(i 12288 205),(i 65279 206)] 0, #[]⟩
noncomputable def Bx:Obj:=⟨(.type "list"),none,.seq #[(i 10 208),(i 13 209),(i 8232 210),(i 8233 211)] 0, #[]⟩
noncomputable def wr:Obj:=⟨(.type "list"),none,.seq #[(r 24),(r 25),(r 26),(r 27),(r 28),(r 29),(r 30),(r 31),(r 32),(r 33),(r 34),(r 35),(r 36),(r 37),(r 38),(r 39),(r 40),(r 41),(r 42),(r 43),(r 44),(r 45),(r 46),(r 47),(r 48),(r 49),(r 50),(r 51),(r 52),(r 53),(r 54),(r 55)] 0, #[]⟩
noncomputable def Kb:Obj:=⟨(.type "list"),none,.seq #[(r 57),(r 58),(r 59),(r 60),(r 61),(r 62)] 0, #[]⟩
noncomputable def Rc:Obj:=⟨(.type "dict"),none,.dict #[⟨8,(i 8 610),(s "\\b" 611)⟩,⟨9,(i 9 612),(s "\\t" 613)⟩,⟨10,(i 10 614),(s "\\n" 615)⟩,⟨11,(i 11 616),(s "\\v" 617)⟩,⟨12,(i 12 618),(s "\\f" 619)⟩,⟨13,(i 13 620),(s "\\r" 621)⟩,⟨34,(i 34 622),(s "\\\"" 623)⟩,⟨92,(i 92 624),(s "\\\\" 625)⟩] 8, #[]⟩
noncomputable def YG(P:Params):Obj:=⟨(.type "dict"),none,.dict #[e P "||" 637 (i 3 638),e P "&&" 640 (i 4 641),e P "|" 643 (i 5 644),e P "^" 646 (i 6 647),e P "&" 649 (i 7 650),e P "==" 652 (i 8 653),e P "!=" 655 (i 8 656),e P "===" 658 (i 8 659),e P "!==" 661 (i 8 662),e P "<" 664 (i 9 665),e P ">" 667 (i 9 668),e P "<=" 670 (i 9 671),e P ">=" 673 (i 9 674),e P "in" 676 (i 9 677),e P "instanceof" 679 (i 9 680),e P "<<" 682 (i 10 683),e P ">>" 685 (i 10 686),e P ">>>" 688 (i 10 689),e P "+" 690 (i 11 691),e P "-" 692 (i 11 693),e P "*" 694 (i 12 695),e P "/" 696 (i 12 697),e P "%" 698 (i 12 699)] 23, #[]⟩
noncomputable def P9(P:Params):Obj:=⟨(.type "dict"),none,.dict #[e P "Comma" 721 (i 0 707),e P "Assign" 722 (i 1 708),e P "Cond" 723 (i 2 709),e P "Unary" 724 (i 13 710),e P "Call" 725 (i 15 712)] 5, #[]⟩
noncomputable def F2(P:Params):Obj:=⟨(.type "dict"),none,.dict #[e P "Null" 795 (s "null" 796),e P "This" 797 (s "this" 798)] 2, #[]⟩
noncomputable def kU(P:Params):Obj:=⟨(.type "dict"),none,.dict #[e P "__module__" 965 (s "js.nodes" 956),e P "__firstlineno__" 969 (i 385 968),e P "__init__" 979 (r 474),e P "__static_attributes__" 984 (r 475),e P "__dict__" 986 (r 478),e P "__weakref__" 988 (r 479),e P "__doc__" 989 N] 4, #[]⟩
noncomputable def kH:Obj:=⟨(.type "type"),none,.cls ⟨"Node",[(.type "object")],[(r 477),(.type "object")],476,"Node",true,[],[],false,none,false⟩, #[none,none,(some (s "Node" 958)),(some (s "Node" 966)),(some (.builtin "object.__new__")),(some (.bool true))]⟩
noncomputable def qU:Obj:=⟨(.type "list"),none,.seq #[(s "break" 1101),(s "case" 1102),(s "catch" 1103),(s "continue" 1104),(s "debugger" 1105),(s "default" 1106),(s "delete" 1107),(s "do" 1108),(s "else" 1109),(s "finally" 1110),(s "for" 1111),(s "function" 1112),(s "if" 1113),(s "in" 1114),(s "instanceof" 1115),(s "new" 1116),(s "return" 1117),(s "switch" 1118),(s "this" 1119),(s "throw" 1120),(s "try" 1121),(s "typeof" 1122),(s "var" 1123),(s "void" 1124),(s "while" 1125),(s "with" 1126),(s "class" 1127),(s "const" 1128),(s "enum" 1129),(s "export" 1130),(s "extends" 1131),(s "imp\x6frt" 1132),(s "super" 1133),(s "null" 1134),(s "true" 1135),(s "false" 1136)] 0, #[]⟩
noncomputable def fD(P:Params):Obj:=⟨(.type "dict"),none,.dict #[e P ">>>=" 1138 (.bool true),e P "===" 1139 (.bool true),e P "!==" 1140 (.bool true),e P ">>>" 1141 (.bool true),e P "<<=" 1142 (.bool true),e P ">>=" 1143 (.bool true),e P "<=" 1144 (.bool true),e P ">=" 1145 (.bool true),e P "==" 1146 (.bool true),e P "!=" 1147 (.bool true),e P "++" 1148 (.bool true),e P "--" 1149 (.bool true),e P "<<" 1150 (.bool true),e P ">>" 1151 (.bool true),e P "&&" 1152 (.bool true),e P "||" 1153 (.bool true),e P "+=" 1154 (.bool true),e P "-=" 1155 (.bool true),e P "*=" 1156 (.bool true),e P "%=" 1157 (.bool true),e P "&=" 1158 (.bool true),e P "|=" 1159 (.bool true),e P "^=" 1160 (.bool true),e P "/=" 1161 (.bool true),e P "{" 1162 (.bool true),e P "}" 1163 (.bool true),e P "(" 1164 (.bool true),e P ")" 1165 (.bool true),e P "[" 1166 (.bool true),e P "]" 1167 (.bool true),e P "." 1168 (.bool true),e P ";" 1169 (.bool true),e P "," 1170 (.bool true),e P "<" 1171 (.bool true),e P ">" 1172 (.bool true),e P "+" 1173 (.bool true),e P "-" 1174 (.bool true),e P "*" 1175 (.bool true),e P "%" 1176 (.bool true),e P "&" 1177 (.bool true),e P "|" 1178 (.bool true),e P "^" 1179 (.bool true),e P "!" 1180 (.bool true),e P "~" 1181 (.bool true),e P "?" 1182 (.bool true),e P ":" 1183 (.bool true),e P "=" 1184 (.bool true),e P "/" 1185 (.bool true)] 48, #[]⟩
noncomputable def zI(P:Params):Obj:=⟨(.type "dict"),none,.dict #[e P "__module__" 1294 (s "js.tokens" 1099),e P "__firstlineno__" 1298 (i 462 1297),e P "__init__" 1311 (r 613),e P "__static_attributes__" 1320 (r 614),e P "__dict__" 1322 (r 617),e P "__weakref__" 1324 (r 618),e P "__doc__" 1325 N] 4, #[]⟩
noncomputable def pG:Obj:=⟨(.type "type"),none,.cls ⟨"Token",[(.type "object")],[(r 616),(.type "object")],615,"Token",true,[],[],false,none,false⟩, #[none,none,(some (s "Token" 1287)),(some (s "Token" 1295)),(some (.builtin "object.__new__")),(some (.bool true))]⟩
noncomputable def xJ(P:Params):Obj:=⟨(.type "dict"),none,.dict #[e P "__module__" 1354 (s "js.values" 1345),e P "__firstlineno__" 1358 (i 482 1357),e P "__init__" 1367 (r 648),e P "__static_attributes__" 1370 (r 649),e P "__weakref__" 1372 (r 652),e P "__doc__" 1373 N] 3, #[]⟩
noncomputable def XD:Obj:=⟨(.type "type"),none,.cls ⟨"SyntaxFail",[(.type "Exception")],[(r 651),(.type "Exception"),(.type "BaseException"),(.type "object")],650,"SyntaxFail",true,[],[],false,none,false⟩, #[(some (r 635)),none,(some (s "SyntaxFail" 1347)),(some (s "SyntaxFail" 1355)),(some (.builtin "Exception.__new__")),(some (.bool true))]⟩
noncomputable def Mc(P:Params):Obj:=⟨(.type "dict"),none,.dict #[e P "__module__" 1387 (s "js.lexer" 1378),e P "__firstlineno__" 1391 (i 488 1390),e P "__init__" 1399 (r 668),e P "next" 1410 (r 675),e P "fail" 1418 (r 682),e P "end_line" 1425 (r 689),e P "skip_blanks" 1434 (r 696),e P "skip_comment" 1441 (r 703),e P "name_sign" 1453 (r 710),e P "read_name" 1463 (r 717),e P "skip_digits" 1471 (r 724),e P "read_number" 1482 (r 731),e P "read_hex" 1491 (r 738),e P "read_octal" 1499 (r 745),e P "read_decimal" 1508 (r 752),e P "read_exponent" 1519 (r 759),e P "regex" 1530 (r 766),e P "regex_body" 1540 (r 773),e P "read_text" 1551 (r 780),e P "escaped" 1560 (r 787),e P "read_punct" 1569 (r 794),e P "__static_attributes__" 1573 (r 795),e P "__dict__" 1575 (r 798),e P "__weakref__" 1577 (r 799),e P "__doc__" 1578 N] 4, #[]⟩
noncomputable def gx:Obj:=⟨(.type "type"),none,.cls ⟨"Lexer",[(.type "object")],[(r 797),(.type "object")],796,"Lexer",true,[],[],false,none,false⟩, #[none,none,(some (s "Lexer" 1380)),(some (s "Lexer" 1388)),(some (.builtin "object.__new__")),(some (.bool true))]⟩
noncomputable def zF:Obj:=(tp [(s "implements" 1583),(s "interface" 1584),(s "let" 1585),(s "package" 1586),(s "private" 1587),(s "protected" 1588),(s "public" 1589),(s "static" 1590),(s "yield" 1591)])
noncomputable def bY(P:Params):Obj:=⟨(.type "dict"),none,.dict #[e P "__module__" 1648 (s "js.strictness" 1581),e P "__firstlineno__" 1652 (i 713 1651),e P "__init__" 1659 (r 853),e P "label_fault" 1667 (r 860),e P "break_fault" 1675 (r 867),e P "continue_fault" 1683 (r 874),e P "__static_attributes__" 1687 (r 875),e P "__dict__" 1689 (r 878),e P "__weakref__" 1691 (r 879),e P "__doc__" 1692 N] 4, #[]⟩
noncomputable def nV:Obj:=⟨(.type "type"),none,.cls ⟨"Jumps",[(.type "object")],[(r 877),(.type "object")],876,"Jumps",true,[],[],false,none,false⟩, #[none,none,(some (s "Jumps" 1641)),(some (s "Jumps" 1649)),(some (.builtin "object.__new__")),(some (.bool true))]⟩
noncomputable def br(P:Params):Obj:=⟨(.type "dict"),none,.dict #[e P "__module__" 1706 (s "js.parse_base" 1695),e P "__firstlineno__" 1710 (i 730 1709),e P "__init__" 1718 (r 895),e P "take" 1726 (r 902),e P "peek" 1733 (r 909),e P "is_sign" 1741 (r 916),e P "is_word" 1749 (r 923),e P "eat" 1757 (r 930),e P "need" 1765 (r 937),e P "need_word" 1773 (r 944),e P "fail" 1781 (r 951),e P "fail_for" 1789 (r 958),e P "unexpected" 1796 (r 965),e P "go_in" 1803 (r 972),e P "go_out" 1810 (r 979),e P "need_name" 1817 (r 986),e P "need_binding" 1824 (r 993),e P "property_name" 1831 (r 1000),e P "can_end" 1838 (r 1007),e P "end_statement" 1845 (r 1014),e P "__static_attributes__" 1854 (r 1015),e P "__dict__" 1856 (r 1018),e P "__weakref__" 1858 (r 1019),e P "__doc__" 1859 N] 4, #[]⟩
noncomputable def ME(P:Params):Obj:=⟨(.type "dict"),none,.dict #[e P "||" 1864 (i 1 1865),e P "&&" 1867 (i 2 1868),e P "|" 1870 (i 3 1871),e P "^" 1873 (i 4 1874),e P "&" 1876 (i 5 1877),e P "==" 1879 (i 6 1880),e P "!=" 1882 (i 6 1883),e P "===" 1885 (i 6 1886),e P "!==" 1888 (i 6 1889),e P "<" 1891 (i 7 1892),e P ">" 1894 (i 7 1895),e P "<=" 1897 (i 7 1898),e P ">=" 1900 (i 7 1901),e P "instanceof" 1903 (i 7 1904),e P "in" 1906 (i 7 1907),e P "<<" 1909 (i 8 1910),e P ">>" 1912 (i 8 1913),e P ">>>" 1915 (i 8 1916),e P "+" 1917 (i 9 1918),e P "-" 1919 (i 9 1920),e P "*" 1921 (i 10 1922),e P "/" 1923 (i 10 1924),e P "%" 1925 (i 10 1926)] 23, #[]⟩
noncomputable def yi:Obj:=(tp [(s "=" 1934),(s "+=" 1935),(s "-=" 1936),(s "*=" 1937),(s "/=" 1938),(s "%=" 1939),(s "<<=" 1940),(s ">>=" 1941),(s ">>>=" 1942),(s "&=" 1943),(s "^=" 1944),(s "|=" 1945)])
noncomputable def ky:Obj:=⟨(.type "type"),none,.cls ⟨"TokenTaker",[(.type "object")],[(r 1017),(.type "object")],1016,"TokenTaker",true,[],[(r 1163)],false,none,false⟩, #[none,none,(some (s "TokenTaker" 1699)),(some (s "TokenTaker" 1707)),(some (.builtin "object.__new__")),(some (.bool true))]⟩
noncomputable def D9(P:Params):Obj:=⟨(.type "dict"),none,.dict #[e P "__module__" 1966 (s "js.parse_expr" 1862),e P "__firstlineno__" 1970 (i 816 1969),e P "function" 1978 (r 1041),e P "expression" 1988 (r 1048),e P "assignment" 1998 (r 1055),e P "need_target" 2006 (r 1062),e P "conditional" 2016 (r 1069),e P "priority" 2024 (r 1076),e P "binary" 2037 (r 1083),e P "unary" 2049 (r 1090),e P "operand_behind" 2057 (r 1097),e P "postfix" 2065 (r 1104),e P "left_hand" 2073 (r 1111),e P "with_members" 2082 (r 1118),e P "creation" 2091 (r 1125),e P "arguments" 2099 (r 1132),e P "primary" 2108 (r 1139),e P "word_operand" 2116 (r 1146),e P "array" 2125 (r 1153),e P "object" 2132 (r 1160),e P "__static_attributes__" 2134 (r 1161),e P "__doc__" 2135 N] 2, #[]⟩
noncomputable def OT:Obj:=⟨(.type "type"),none,.cls ⟨"ExprParser",[(r 1017)],[(r 1163),(r 1017),(.type "object")],1162,"ExprParser",true,[],[],false,none,false⟩, #[(some (r 1028)),none,(some (s "ExprParser" 1959)),(some (s "ExprParser" 1967)),(some (.builtin "object.__new__")),(some (.bool true))]⟩
noncomputable def pr(a b:Int)(t:Nat):Obj:=tp [i a t,i b (t+1)]
noncomputable def T0(P:Params):BT:=BT.nil |>.ins 0 (boot_o_0 P) |>.ins 1 (boot_o_1 P) |>.ins 2 (boot_o_2 P) |>.ins 3 (boot_o_3 P) |>.ins 4 (boot_o_4 P) |>.ins 5 (boot_o_5 P) |>.ins 6 (boot_o_6 P) |>.ins 7 (boot_o_7 P) |>.ins 8 (boot_o_8 P) |>.ins 9 (boot_o_9 P) |>.ins 10 (boot_o_10 P)
 |>.ins 11 (tp []) |>.ins 12 (tb [])
 |>.ins 13 {cls:=.type "code",data:=.fields #[s "<module>" 182,s "<module>" 183,s "/claim/cut.py" 184,i 1 0,i 0 0,i 0 0,i 0 0,i 0 0,r 11,.bool false,i 181 0,r 12,N,N,N,N,i 185 0,i 1 0,s "/claim/cut.py" 186]}
 |>.ins 14 {cls:=.type "frame",slots:= #[some (r 13),some (r 3),some (r 3),none,some (s "__main__" 164),none,some (r 0)]}
noncomputable def z0(P:Params):R:=⟨T0 P,15,187⟩
noncomputable def env:Env:={scope:=pw.main.scope,locals:=mainNs,globals:=mainNs,cells:=[],code:=.ref 13,frame:=some 14}
noncomputable def cd:Code:=.body (behindTheImports pw) env
noncomputable def B:List Frame:=[topFrame ⟨0,0,0,0⟩]
noncomputable def p0:Pos:=⟨0,0,0,0⟩
noncomputable def seg(a b:Nat):List Stmt:=(body.drop a).take (b-a)
@[reducible]noncomputable def S(z:R)(os:OsState):SharedT:=⟨z.T,z.n,{}, #[],{},z.t,os⟩
theorem fast{w:World}{n:Nat}{S S':SharedT}{T:Thread}{c:Code}{q:Pos}(h:PySem.W.Fast.tw10110043849684766642 PySem.W.Fast.tw14364793385576792824 pw w 11 (some (.ref 6)) 1 n S T=some (.next,S',c,q)):
  segRunT treeTable pw w 11 (some (.ref 6)) 1 n S T=some (.next,S',c,q):=by
 rw[PySem.W.Fast.te10110043849684766642,PySem.W.Fast.te14364793385576792824];exact h
@[reducible]noncomputable def Gp(k:Nat)(z z':Params→R)(a b:Nat)(p q:Pos)(w:World):Prop:=∀os:OsState,segRunT treeTable pw w 11 (some (.ref 6)) 1 k (S (z w.params) os) (piecesOf (seg a b) env cd p B)=some (.next,S (z' w.params) os,cd,q)
noncomputable def Fp(P:Params):R:=z0 P
 |> fns P (s "__main__" 164) 0 1
 |>.put P 3 "__name__" 0 (s "js.chars" 194)
 |>.tk 196
 |>.put P 3 "BLANKS" 207 (r 22)
 |>.nw oR
 |>.tk 208
 |>.put P 3 "LINE_ENDS" 212 (r 23)
 |>.nw Bx
 |>.tk 213
 |>.put P 3 "LETTERS" 277 (r 56)
 |>.nw (pr 170 170 213)
 |>.nw (pr 181 181 215)
 |>.nw (pr 186 186 217)
 |>.nw (pr 192 214 219)
 |>.nw (pr 216 246 221)
 |>.nw (pr 248 705 223)
 |>.nw (pr 880 883 225)
 |>.nw (pr 886 887 227)
 |>.nw (pr 891 893 229)
 |>.nw (pr 902 902 231)
 |>.nw (pr 904 906 233)
 |>.nw (pr 908 908 235)
 |>.nw (pr 910 929 237)
 |>.nw (pr 931 1013 239)
 |>.nw (pr 1015 1153 241)
 |>.nw (pr 1162 1315 243)
 |>.nw (pr 1329 1366 245)
 |>.nw (pr 1377 1415 247)
 |>.nw (pr 1488 1514 249)
 |>.nw (pr 1569 1594 251)
 |>.nw (pr 1601 1610 253)
 |>.nw (pr 2308 2361 255)
 |>.nw (pr 4256 4293 257)
 |>.nw (pr 4304 4346 259)
 |>.nw (pr 7680 7835 261)
 |>.nw (pr 7840 7929 263)
 |>.nw (pr 8544 8578 265)
 |>.nw (pr 12353 12438 267)
 |>.nw (pr 12449 12538 269)
 |>.nw (pr 12549 12588 271)
 |>.nw (pr 19968 40891 273)
 |>.nw (pr 44032 55203 275)
 |>.nw wr
 |>.tk 278
 |>.put P 3 "PARTS" 290 (r 63)
 |>.nw (pr 768 879 278)
 |>.nw (pr 1632 1641 280)
 |>.nw (pr 2406 2415 282)
 |>.nw (pr 8204 8205 284)
 |>.nw (pr 8255 8256 286)
 |>.nw (pr 8276 8276 288)
 |>.nw Kb
 |>.tk 291
 |> fns P (s "js.chars" 194) 6 9
 |>.put P 3 "__name__" 0 (s "js.dbits" 358)
 |>.tk 360
 |>.put P 3 "SIGN_BIT" 363 (i 9223372036854775808 362)
 |>.tk 364
 |>.put P 3 "FRACTION_BITS" 365 (i 52 364)
 |>.tk 366
 |>.put P 3 "FRACTION_MASK" 371 (i 4503599627370495 370)
 |>.tk 372
 |>.put P 3 "HIDDEN_BIT_dbits" 375 (i 4503599627370496 374)
 |>.tk 376
 |>.put P 3 "EXPONENT_MASK" 377 (i 2047 376)
 |>.tk 378
 |>.put P 3 "EXPONENT_SHIFT" 379 (i 1075 378)
 |>.tk 380
 |>.put P 3 "LEAST_POWER_dbits" 382 (i (-1074) 381)
 |>.tk 383
 |>.put P 3 "ZERO" 384 (i 0 383)
 |>.tk 385
 |>.put P 3 "INF" 388 (i 9218868437227405312 387)
 |>.tk 389
 |> fns P (s "js.dbits" 358) 25 12
 |>.put P 3 "__name__" 0 (s "js.numshow" 492)
 |>.tk 494
 |>.put P 3 "LEAST_POWER_numshow" 496 (i (-1074) 495)
 |>.tk 497
 |>.put P 3 "HIDDEN_BIT_numshow" 500 (i 4503599627370496 499)
 |>.tk 501
 |> fns P (s "js.numshow" 492) 40 10
 |>.put P 3 "__name__" 0 (s "js.printwords" 608)
 |>.tk 610
theorem g51(w:World)(os:OsState):segRunT treeTable pw w 11 (some (.ref 6)) 1 1377 (S (z0 w.params) os) (piecesOf (seg 0 51) env cd p0 B)=some (.next,S (Fp w.params) os,cd,⟨184,0,184,8⟩):=
 fast (by kernel_rfl)
noncomputable def Zg(P:Params):R:=Fp P
 |>.put P 3 "ESCAPED" 634 (r 281)
 |>.nw Rc
 |>.tk 635
theorem g52:∀w:World,Gp 135 Fp Zg 51 52 ⟨184,0,184,8⟩ ⟨185,0,185,7⟩ w:=@byRow2 "special-get-raises" (Gp 135 Fp Zg 51 52 ⟨184,0,184,8⟩ ⟨185,0,185,7⟩) (fun w os=>fast (by kernel_rfl)) (fun w os=>fast (by kernel_rfl))
noncomputable def cT(P:Params):R:=Zg P
 |>.put P 3 "FIGURES" 636 (s "0123456789abcdef" 635)
 |>.tk 637
theorem g53(w:World):Gp 10 Zg cT 52 53 ⟨185,0,185,7⟩ ⟨186,0,186,7⟩ w:=fun os=>fast (by kernel_rfl)
noncomputable def SQ(P:Params):R:=cT P
 |>.put P 3 "STRENGTHS" 706 (r 282)
 |>.nw (YG P)
 |>.nw ⟨(.type "dict"),none,.dict #[e P ">>>" 688 (i 10 689),e P "+" 690 (i 11 691),e P "-" 692 (i 11 693),e P "*" 694 (i 12 695),e P "/" 696 (i 12 697),e P "%" 698 (i 12 699)] 6, #[]⟩
 |>.tk 707
 |>.put P 3 "COMMA" 714 (i 0 707)
 |>.put P 3 "ASSIGN" 715 (i 1 708)
 |>.put P 3 "COND" 716 (i 2 709)
 |>.put P 3 "UNARY" 717 (i 13 710)
 |>.put P 3 "POSTFIX" 718 (i 14 711)
 |>.put P 3 "CALL" 719 (i 15 712)
 |>.put P 3 "MEMBER" 720 (i 16 713)
 |>.nw (tp [(i 0 707),(i 1 708),(i 2 709),(i 13 710),(i 14 711),(i 15 712),(i 16 713)])
 |>.nw ⟨(.type "tuple_iterator"),none,.fields #[N,(i 7 0)], #[]⟩
 |>.nw (tp [])
 |>.nw ⟨(.type "StopIteration"),none,.fields #[(r 286),N,N,N,(.bool false),N], #[]⟩
 |>.tk 721
 |>.put P 3 "OTHERS" 731 (r 288)
 |>.nw (P9 P)
 |>.tk 732
theorem g56:∀w:World,Gp 704 cT SQ 53 56 ⟨186,0,186,7⟩ ⟨189,0,189,6⟩ w:=@byRow2 "special-get-raises" (Gp 704 cT SQ 53 56 ⟨186,0,186,7⟩ ⟨189,0,189,6⟩) (fun w os=>fast (by kernel_rfl)) (fun w os=>fast (by kernel_rfl))
noncomputable def Xo(P:Params):R:=SQ P
 |> fns P (s "js.printwords" 608) 56 8
 |>.put P 3 "__name__" 0 (s "js.printer" 793)
 |>.tk 795
theorem g65(w:World):Gp 245 SQ Xo 56 65 ⟨189,0,189,6⟩ ⟨225,0,225,8⟩ w:=fun os=>fast (by kernel_rfl)
noncomputable def CA(P:Params):R:=Xo P
 |>.put P 3 "PLAIN" 801 (r 343)
 |>.nw (F2 P)
 |>.tk 802
theorem g66:∀w:World,Gp 61 Xo CA 65 66 ⟨225,0,225,8⟩ ⟨226,0,226,5⟩ w:=@byRow2 "special-get-raises" (Gp 61 Xo CA 65 66 ⟨225,0,225,8⟩ ⟨226,0,226,5⟩) (fun w os=>fast (by kernel_rfl)) (fun w os=>fast (by kernel_rfl))
noncomputable def q9(P:Params):R:=CA P
 |> fns P (s "js.printer" 793) 66 19
 |>.put P 3 "__name__" 0 (s "js.nodes" 956)
 |>.tk 958
 |>.put P 3 "Node" 991 (r 477)
 |>.app 12 [(i 385 0),(i 0 0),(r 466)]
 |>.nw (tp [])
 |>.nw ⟨(.type "builtin_function_or_method"),none,.fields #[(.builtin "type.__prepare__"),(.type "type")], #[]⟩
 |>.nw ⟨(.type "dict"),none,.dict #[e P "__module__" 965 (s "js.nodes" 956),e P "__qualname__" 967 (s "Node" 966),e P "__firstlineno__" 969 (i 385 968),e P "__init__" 979 (r 474),e P "__static_attributes__" 984 (r 475)] 5, #[]⟩
 |>.nw (tp [])
 |>.nw (tb [(i 387 0),(i 4 0),(r 473)])
 |>.nw ⟨(.type "code"),none,.fields #[(s "Node" 960),(s "Node" 961),(s "/claim/cut.py" 962),(i 385 0),(i 0 0),(i 0 0),(i 0 0),(i 0 0),(r 464),(.bool false),(i 181 0),(r 465),N,N,N,N,(i 963 0),(i 385 0),(s "/claim/cut.py" 964)], #[]⟩
 |>.nw ⟨(.type "frame"),none,.plain, #[(some (r 466)),(some (r 3)),(some (r 463)),none,(some (s "js.nodes" 956)),none,(some (r 0))]⟩
 |>.tk 970 |> cz 86 (s "js.nodes" 956) 0 ["Node.__init__"]
 |>.nw (tp [(s "kind" 980),(s "line" 981),(s "parts" 982),(s "scope" 983)])
 |>.nw (kU P)
 |>.nw kH
 |>.nw ⟨(.type "getset_descriptor"),none,.fields #[(s "__dict__" 985),(r 477),(.builtin "function.__dict__"),(.builtin "function.__dict__#set")], #[]⟩
 |>.nw ⟨(.type "getset_descriptor"),none,.fields #[(s "__weakref__" 987),(r 477),(.builtin "ExceptionGroup.__weakref__"),N], #[]⟩
 |>.nw ⟨(.type "super"),none,.fields #[(r 477),(r 477),(r 477)], #[]⟩
 |>.nw ⟨(.type "builtin_function_or_method"),none,.fields #[(.builtin "object.__init_subclass__"),(r 477)], #[]⟩
 |>.tk 992
 |>.put P 3 "__name__" 0 (s "js.escapes" 992)
 |>.tk 994
theorem g88(w:World):Gp 802 CA q9 66 88 ⟨226,0,226,5⟩ ⟨392,0,392,8⟩ w:=fun os=>fast (by kernel_rfl)
noncomputable def Lp(P:Params):R:=q9 P
 |>.put P 3 "SINGLE" 1012 (r 482)
 |>.nw ⟨(.type "dict"),none,.dict #[e P "b" 994 (i 8 995),e P "t" 996 (i 9 997),e P "n" 998 (i 10 999),e P "v" 1000 (i 11 1001),e P "f" 1002 (i 12 1003),e P "r" 1004 (i 13 1005)] 6, #[]⟩
 |>.tk 1013
theorem g89:∀w:World,Gp 121 q9 Lp 88 89 ⟨392,0,392,8⟩ ⟨393,0,393,6⟩ w:=@byRow2 "special-get-raises" (Gp 121 q9 Lp 88 89 ⟨392,0,392,8⟩ ⟨393,0,393,6⟩) (fun w os=>fast (by kernel_rfl)) (fun w os=>fast (by kernel_rfl))
noncomputable def uA(P:Params):R:=Lp P
 |> fns P (s "js.escapes" 992) 89 5
 |>.put P 3 "__name__" 0 (s "js.numparse" 1065)
 |>.tk 1067
 |>.put P 3 "FARTHEST" 1068 (i 400 1067)
 |>.tk 1069
 |> fns P (s "js.numparse" 1065) 96 3
 |>.put P 3 "__name__" 0 (s "js.tokens" 1099)
 |>.tk 1101
 |>.put P 3 "KEYWORDS" 1137 (r 539)
 |>.nw qU
 |>.tk 1138
 |>.put P 3 "PUNCTS" 1186 (r 540)
 |>.nw ⟨(.type "list"),none,.seq #[(s ">>>=" 1138),(s "===" 1139),(s "!==" 1140),(s ">>>" 1141),(s "<<=" 1142),(s ">>=" 1143),(s "<=" 1144),(s ">=" 1145),(s "==" 1146),(s "!=" 1147),(s "++" 1148),(s "--" 1149),(s "<<" 1150),(s ">>" 1151),(s "&&" 1152),(s "||" 1153),(s "+=" 1154),(s "-=" 1155),(s "*=" 1156),(s "%=" 1157),(s "&=" 1158),(s "|=" 1159),(s "^=" 1160),(s "/=" 1161),(s "{" 1162),(s "}" 1163),(s "(" 1164),(s ")" 1165),(s "[" 1166),(s "]" 1167),(s "." 1168),(s ";" 1169),(s "," 1170),(s "<" 1171),(s ">" 1172),(s "+" 1173),(s "-" 1174),(s "*" 1175),(s "%" 1176),(s "&" 1177),(s "|" 1178),(s "^" 1179),(s "!" 1180),(s "~" 1181),(s "?" 1182),(s ":" 1183),(s "=" 1184),(s "/" 1185)] 0, #[]⟩
 |>.tk 1187
theorem gh(w:World):Gp 390 Lp uA 89 102 ⟨393,0,393,6⟩ ⟨460,0,460,6⟩ w:=fun os=>fast (by kernel_rfl)
noncomputable def AU(P:Params):R:=uA P
 |>.put P 3 "PUNCT_TABLE" 1286 (r 594)
 |>.nw ⟨(.type "list_iterator"),none,.fields #[N,(i 48 0)], #[]⟩
 |>.nw ⟨(.type "list"),none,.seq #[(r 544),(r 545),(r 546),(r 547),(r 548),(r 549),(r 550),(r 551),(r 552),(r 553),(r 554),(r 555),(r 556),(r 557),(r 558),(r 559),(r 560),(r 561),(r 562),(r 563),(r 564),(r 565),(r 566),(r 567),(r 568),(r 569),(r 570),(r 571),(r 572),(r 573),(r 574),(r 575),(r 576),(r 577),(r 578),(r 579),(r 580),(r 581),(r 582),(r 583),(r 584),(r 585),(r 586),(r 587),(r 588),(r 589),(r 590),(r 591)] 48, #[]⟩
 |>.nw ⟨(.type "dict"),none,.dict #[] 2, #[]⟩
 |>.nw (tp [(s ">>>=" 1138),(.bool true)])
 |>.nw (tp [(s "===" 1139),(.bool true)])
 |>.nw (tp [(s "!==" 1140),(.bool true)])
 |>.nw (tp [(s ">>>" 1141),(.bool true)])
 |>.nw (tp [(s "<<=" 1142),(.bool true)])
 |>.nw (tp [(s ">>=" 1143),(.bool true)])
 |>.nw (tp [(s "<=" 1144),(.bool true)])
 |>.nw (tp [(s ">=" 1145),(.bool true)])
 |>.nw (tp [(s "==" 1146),(.bool true)])
 |>.nw (tp [(s "!=" 1147),(.bool true)])
 |>.nw (tp [(s "++" 1148),(.bool true)])
 |>.nw (tp [(s "--" 1149),(.bool true)])
 |>.nw (tp [(s "<<" 1150),(.bool true)])
 |>.nw (tp [(s ">>" 1151),(.bool true)])
 |>.nw (tp [(s "&&" 1152),(.bool true)])
 |>.nw (tp [(s "||" 1153),(.bool true)])
 |>.nw (tp [(s "+=" 1154),(.bool true)])
 |>.nw (tp [(s "-=" 1155),(.bool true)])
 |>.nw (tp [(s "*=" 1156),(.bool true)])
 |>.nw (tp [(s "%=" 1157),(.bool true)])
 |>.nw (tp [(s "&=" 1158),(.bool true)])
 |>.nw (tp [(s "|=" 1159),(.bool true)])
 |>.nw (tp [(s "^=" 1160),(.bool true)])
 |>.nw (tp [(s "/=" 1161),(.bool true)])
 |>.nw (tp [(s "{" 1162),(.bool true)])
 |>.nw (tp [(s "}" 1163),(.bool true)])
 |>.nw (tp [(s "(" 1164),(.bool true)])
 |>.nw (tp [(s ")" 1165),(.bool true)])
 |>.nw (tp [(s "[" 1166),(.bool true)])
 |>.nw (tp [(s "]" 1167),(.bool true)])
 |>.nw (tp [(s "." 1168),(.bool true)])
 |>.nw (tp [(s ";" 1169),(.bool true)])
 |>.nw (tp [(s "," 1170),(.bool true)])
 |>.nw (tp [(s "<" 1171),(.bool true)])
 |>.nw (tp [(s ">" 1172),(.bool true)])
 |>.nw (tp [(s "+" 1173),(.bool true)])
 |>.nw (tp [(s "-" 1174),(.bool true)])
 |>.nw (tp [(s "*" 1175),(.bool true)])
 |>.nw (tp [(s "%" 1176),(.bool true)])
 |>.nw (tp [(s "&" 1177),(.bool true)])
 |>.nw (tp [(s "|" 1178),(.bool true)])
 |>.nw (tp [(s "^" 1179),(.bool true)])
 |>.nw (tp [(s "!" 1180),(.bool true)])
 |>.nw (tp [(s "~" 1181),(.bool true)])
 |>.nw (tp [(s "?" 1182),(.bool true)])
 |>.nw (tp [(s ":" 1183),(.bool true)])
 |>.nw (tp [(s "=" 1184),(.bool true)])
 |>.nw (tp [(s "/" 1185),(.bool true)])
 |>.nw (tp [])
 |>.nw ⟨(.type "StopIteration"),none,.fields #[(r 592),N,N,N,(.bool false),N], #[]⟩
 |>.nw (fD P)
 |>.nw (tp [(s "'list' object has no attribute 'keys'" 1236)])
 |>.nw ⟨(.type "AttributeError"),none,.fields #[(r 595),N,N,N,(.bool false),N,(s "keys" 1237),(r 542)], #[]⟩
 |>.nw ⟨(.type "list_iterator"),none,.fields #[N,(i 48 0)], #[]⟩
 |>.nw (tp [])
 |>.nw ⟨(.type "StopIteration"),none,.fields #[(r 598),N,N,N,(.bool false),N], #[]⟩
 |>.tk 1287
theorem u0:∀w:World,Gp 2778 uA AU 102 103 ⟨460,0,460,6⟩ ⟨461,0,461,11⟩ w:=@byRow2 "comprehension-iter-twice" (Gp 2778 uA AU 102 103 ⟨460,0,460,6⟩ ⟨461,0,461,11⟩)
 (@byRow2 "special-get-raises" (fun w=>Gp 2778 uA AU 102 103 ⟨460,0,460,6⟩ ⟨461,0,461,11⟩ (World.withFollow w "comprehension-iter-twice" false)) (fun w os=>fast (by kernel_rfl)) (fun w os=>fast (by kernel_rfl)))
 (@byRow2 "special-get-raises" (fun w=>Gp 2778 uA AU 102 103 ⟨460,0,460,6⟩ ⟨461,0,461,11⟩ (World.withFollow w "comprehension-iter-twice" true)) (fun w os=>fast (by kernel_rfl)) (fun w os=>fast (by kernel_rfl)))
noncomputable def R6(P:Params):R:=AU P
 |>.put P 3 "Token" 1327 (r 616)
 |>.app 12 [(i 462 0),(i 0 0),(r 605)]
 |>.nw (tp [])
 |>.nw ⟨(.type "builtin_function_or_method"),none,.fields #[(.builtin "type.__prepare__"),(.type "type")], #[]⟩
 |>.nw ⟨(.type "dict"),none,.dict #[e P "__module__" 1294 (s "js.tokens" 1099),e P "__qualname__" 1296 (s "Token" 1295),e P "__firstlineno__" 1298 (i 462 1297),e P "__init__" 1311 (r 613),e P "__static_attributes__" 1320 (r 614)] 5, #[]⟩
 |>.nw (tp [])
 |>.nw (tb [(i 464 0),(i 4 0),(r 612)])
 |>.nw ⟨(.type "code"),none,.fields #[(s "Token" 1289),(s "Token" 1290),(s "/claim/cut.py" 1291),(i 462 0),(i 0 0),(i 0 0),(i 0 0),(i 0 0),(r 603),(.bool false),(i 181 0),(r 604),N,N,N,N,(i 1292 0),(i 462 0),(s "/claim/cut.py" 1293)], #[]⟩
 |>.nw ⟨(.type "frame"),none,.plain, #[(some (r 605)),(some (r 3)),(some (r 602)),none,(some (s "js.tokens" 1099)),none,(some (r 0))]⟩
 |>.tk 1299 |> cz 103 (s "js.tokens" 1099) 0 ["Token.__init__"]
 |>.nw (tp [(s "end" 1312),(s "is_behind_line" 1313),(s "is_octal" 1314),(s "is_plain" 1315),(s "kind" 1316),(s "line" 1317),(s "start" 1318),(s "value" 1319)])
 |>.nw (zI P)
 |>.nw pG
 |>.nw ⟨(.type "getset_descriptor"),none,.fields #[(s "__dict__" 1321),(r 616),(.builtin "function.__dict__"),(.builtin "function.__dict__#set")], #[]⟩
 |>.nw ⟨(.type "getset_descriptor"),none,.fields #[(s "__weakref__" 1323),(r 616),(.builtin "ExceptionGroup.__weakref__"),N], #[]⟩
 |>.nw ⟨(.type "super"),none,.fields #[(r 616),(r 616),(r 616)], #[]⟩
 |>.nw ⟨(.type "builtin_function_or_method"),none,.fields #[(.builtin "object.__init_subclass__"),(r 616)], #[]⟩
 |>.tk 1328
 |> fns P (s "js.tokens" 1099) 104 2
 |>.put P 3 "__name__" 0 (s "js.values" 1345)
 |>.tk 1347
 |>.put P 2 "type.__subclasses__.Exception.0" 1374 (i 651 0)
 |>.put P 2 "type.__subclasses__.Exception.n" 1375 (i 1 0)
 |>.put P 3 "SyntaxFail" 1377 (r 651)
 |>.app 12 [(i 482 0),(i 0 0),(r 640)]
 |>.nw (tp [(.type "Exception")])
 |>.nw ⟨(.type "builtin_function_or_method"),none,.fields #[(.builtin "type.__prepare__"),(.type "type")], #[]⟩
 |>.nw ⟨(.type "dict"),none,.dict #[e P "__module__" 1354 (s "js.values" 1345),e P "__qualname__" 1356 (s "SyntaxFail" 1355),e P "__firstlineno__" 1358 (i 482 1357),e P "__init__" 1367 (r 648),e P "__static_attributes__" 1370 (r 649)] 5, #[]⟩
 |>.nw (tp [])
 |>.nw (tb [(i 484 0),(i 4 0),(r 647)])
 |>.nw ⟨(.type "code"),none,.fields #[(s "SyntaxFail" 1349),(s "SyntaxFail" 1350),(s "/claim/cut.py" 1351),(i 482 0),(i 0 0),(i 0 0),(i 0 0),(i 0 0),(r 638),(.bool false),(i 181 0),(r 639),N,N,N,N,(i 1352 0),(i 482 0),(s "/claim/cut.py" 1353)], #[]⟩
 |>.nw ⟨(.type "frame"),none,.plain, #[(some (r 640)),(some (r 3)),(some (r 637)),none,(some (s "js.values" 1345)),none,(some (r 0))]⟩
 |>.tk 1359 |> cz 107 (s "js.values" 1345) 0 ["SyntaxFail.__init__"]
 |>.nw (tp [(s "line" 1368),(s "text" 1369)])
 |>.nw (xJ P)
 |>.nw XD
 |>.nw ⟨(.type "getset_descriptor"),none,.fields #[(s "__weakref__" 1371),(r 651),(.builtin "ExceptionGroup.__weakref__"),N], #[]⟩
 |>.nw ⟨(.type "super"),none,.fields #[(r 651),(r 651),(r 651)], #[]⟩
 |>.nw ⟨(.type "builtin_function_or_method"),none,.fields #[(.builtin "object.__init_subclass__"),(r 651)], #[]⟩
 |>.tk 1378
 |>.put P 3 "__name__" 0 (s "js.lexer" 1378)
 |>.tk 1380
theorem ED(w:World):Gp 544 AU R6 103 109 ⟨461,0,461,11⟩ ⟨487,0,487,8⟩ w:=fun os=>fast (by kernel_rfl)
noncomputable def Z9(P:Params):R:=R6 P
 |>.put P 3 "Lexer" 1580 (r 797)
 |>.app 12 [(i 488 0),(i 0 0),(r 660)]
 |>.nw (tp [])
 |>.nw ⟨(.type "builtin_function_or_method"),none,.fields #[(.builtin "type.__prepare__"),(.type "type")], #[]⟩
 |>.nw ⟨(.type "dict"),none,.dict #[e P "__module__" 1387 (s "js.lexer" 1378),e P "__qualname__" 1389 (s "Lexer" 1388),e P "__firstlineno__" 1391 (i 488 1390),e P "__init__" 1399 (r 668),e P "next" 1410 (r 675),e P "fail" 1418 (r 682),e P "end_line" 1425 (r 689),e P "skip_blanks" 1434 (r 696),e P "skip_comment" 1441 (r 703),e P "name_sign" 1453 (r 710),e P "read_name" 1463 (r 717),e P "skip_digits" 1471 (r 724),e P "read_number" 1482 (r 731),e P "read_hex" 1491 (r 738),e P "read_octal" 1499 (r 745),e P "read_decimal" 1508 (r 752),e P "read_exponent" 1519 (r 759),e P "regex" 1530 (r 766),e P "regex_body" 1540 (r 773),e P "read_text" 1551 (r 780),e P "escaped" 1560 (r 787),e P "read_punct" 1569 (r 794),e P "__static_attributes__" 1573 (r 795)] 23, #[]⟩
 |>.nw (tp [])
 |>.nw (tb [(i 490 0),(i 4 0),(r 667),(i 495 0),(i 4 0),(r 674),(i 512 0),(i 4 0),(r 681),(i 515 0),(i 4 0),(r 688),(i 519 0),(i 4 0),(r 695),(i 535 0),(i 4 0),(r 702),(i 546 0),(i 4 0),(r 709),(i 557 0),(i 4 0),(r 716),(i 568 0),(i 4 0),(r 723),(i 574 0),(i 4 0),(r 730),(i 588 0),(i 4 0),(r 737),(i 599 0),(i 4 0),(r 744),(i 606 0),(i 4 0),(r 751),(i 618 0),(i 4 0),(r 758),(i 632 0),(i 4 0),(r 765),(i 643 0),(i 4 0),(r 772),(i 659 0),(i 4 0),(r 779),(i 675 0),(i 4 0),(r 786),(i 686 0),(i 4 0),(r 793)])
 |>.nw ⟨(.type "code"),none,.fields #[(s "Lexer" 1382),(s "Lexer" 1383),(s "/claim/cut.py" 1384),(i 488 0),(i 0 0),(i 0 0),(i 0 0),(i 0 0),(r 658),(.bool false),(i 181 0),(r 659),N,N,N,N,(i 1385 0),(i 488 0),(s "/claim/cut.py" 1386)], #[]⟩
 |>.nw ⟨(.type "frame"),none,.plain, #[(some (r 660)),(some (r 3)),(some (r 657)),none,(some (s "js.lexer" 1378)),none,(some (r 0))]⟩
 |>.tk 1392 |> cz 109 (s "js.lexer" 1378) 0 ["Lexer.__init__","Lexer.next","Lexer.fail","Lexer.end_line","Lexer.skip_blanks","Lexer.skip_comment","Lexer.name_sign","Lexer.read_name","Lexer.skip_digits","Lexer.read_number","Lexer.read_hex","Lexer.read_octal","Lexer.read_decimal","Lexer.read_exponent","Lexer.regex","Lexer.regex_body","Lexer.read_text","Lexer.escaped","Lexer.read_punct"]
 |>.nw (tp [(s "at" 1570),(s "line" 1571),(s "text" 1572)])
 |>.nw (Mc P)
 |>.nw gx
 |>.nw ⟨(.type "getset_descriptor"),none,.fields #[(s "__dict__" 1574),(r 797),(.builtin "function.__dict__"),(.builtin "function.__dict__#set")], #[]⟩
 |>.nw ⟨(.type "getset_descriptor"),none,.fields #[(s "__weakref__" 1576),(r 797),(.builtin "ExceptionGroup.__weakref__"),N], #[]⟩
 |>.nw ⟨(.type "super"),none,.fields #[(r 797),(r 797),(r 797)], #[]⟩
 |>.nw ⟨(.type "builtin_function_or_method"),none,.fields #[(.builtin "object.__init_subclass__"),(r 797)], #[]⟩
 |>.tk 1581
 |>.put P 3 "__name__" 0 (s "js.strictness" 1581)
 |>.tk 1583
 |>.put P 3 "STRICT_WORDS" 1592 (r 802)
 |>.nw zF
 |>.tk 1593
 |>.put P 3 "RESTRICTED" 1595 (r 803)
 |>.nw (tp [(s "arguments" 1593),(s "eval" 1594)])
 |>.tk 1596
 |>.put P 3 "TARGETS" 1599 (r 804)
 |>.nw (tp [(s "Name" 1596),(s "Member" 1597),(s "Index" 1598)])
 |>.tk 1600
 |> fns P (s "js.strictness" 1581) 114 5
theorem zV(w:World):Gp 1031 R6 Z9 109 119 ⟨487,0,487,8⟩ ⟨711,0,712,77⟩ w:=fun os=>fast (by kernel_rfl)
noncomputable def JX(P:Params):R:=Z9 P
 |>.put P 3 "Jumps" 1694 (r 877)
 |>.app 12 [(i 713 0),(i 0 0),(r 845)]
 |>.nw (tp [])
 |>.nw ⟨(.type "builtin_function_or_method"),none,.fields #[(.builtin "type.__prepare__"),(.type "type")], #[]⟩
 |>.nw ⟨(.type "dict"),none,.dict #[e P "__module__" 1648 (s "js.strictness" 1581),e P "__qualname__" 1650 (s "Jumps" 1649),e P "__firstlineno__" 1652 (i 713 1651),e P "__init__" 1659 (r 853),e P "label_fault" 1667 (r 860),e P "break_fault" 1675 (r 867),e P "continue_fault" 1683 (r 874),e P "__static_attributes__" 1687 (r 875)] 8, #[]⟩
 |>.nw (tp [])
 |>.nw (tb [(i 715 0),(i 4 0),(r 852),(i 720 0),(i 4 0),(r 859),(i 723 0),(i 4 0),(r 866),(i 726 0),(i 4 0),(r 873)])
 |>.nw ⟨(.type "code"),none,.fields #[(s "Jumps" 1643),(s "Jumps" 1644),(s "/claim/cut.py" 1645),(i 713 0),(i 0 0),(i 0 0),(i 0 0),(i 0 0),(r 843),(.bool false),(i 181 0),(r 844),N,N,N,N,(i 1646 0),(i 713 0),(s "/claim/cut.py" 1647)], #[]⟩
 |>.nw ⟨(.type "frame"),none,.plain, #[(some (r 845)),(some (r 3)),(some (r 842)),none,(some (s "js.strictness" 1581)),none,(some (r 0))]⟩
 |>.tk 1653 |> cz 119 (s "js.strictness" 1581) 0 ["Jumps.__init__","Jumps.label_fault","Jumps.break_fault","Jumps.continue_fault"]
 |>.nw (tp [(s "labels" 1684),(s "loops" 1685),(s "switches" 1686)])
 |>.nw (bY P)
 |>.nw nV
 |>.nw ⟨(.type "getset_descriptor"),none,.fields #[(s "__dict__" 1688),(r 877),(.builtin "function.__dict__"),(.builtin "function.__dict__#set")], #[]⟩
 |>.nw ⟨(.type "getset_descriptor"),none,.fields #[(s "__weakref__" 1690),(r 877),(.builtin "ExceptionGroup.__weakref__"),N], #[]⟩
 |>.nw ⟨(.type "super"),none,.fields #[(r 877),(r 877),(r 877)], #[]⟩
 |>.nw ⟨(.type "builtin_function_or_method"),none,.fields #[(.builtin "object.__init_subclass__"),(r 877)], #[]⟩
 |>.tk 1695
 |>.put P 3 "__name__" 0 (s "js.parse_base" 1695)
 |>.tk 1697
 |>.put P 3 "MOST_NESTED" 1698 (i 40 1697)
 |>.tk 1699
 |>.put P 3 "TokenTaker" 1861 (r 1017)
 |>.app 12 [(i 730 0),(i 0 0),(r 887)]
 |>.nw (tp [])
 |>.nw ⟨(.type "builtin_function_or_method"),none,.fields #[(.builtin "type.__prepare__"),(.type "type")], #[]⟩
 |>.nw ⟨(.type "dict"),none,.dict #[e P "__module__" 1706 (s "js.parse_base" 1695),e P "__qualname__" 1708 (s "TokenTaker" 1707),e P "__firstlineno__" 1710 (i 730 1709),e P "__init__" 1718 (r 895),e P "take" 1726 (r 902),e P "peek" 1733 (r 909),e P "is_sign" 1741 (r 916),e P "is_word" 1749 (r 923),e P "eat" 1757 (r 930),e P "need" 1765 (r 937),e P "need_word" 1773 (r 944),e P "fail" 1781 (r 951),e P "fail_for" 1789 (r 958),e P "unexpected" 1796 (r 965),e P "go_in" 1803 (r 972),e P "go_out" 1810 (r 979),e P "need_name" 1817 (r 986),e P "need_binding" 1824 (r 993),e P "property_name" 1831 (r 1000),e P "can_end" 1838 (r 1007),e P "end_statement" 1845 (r 1014),e P "__static_attributes__" 1854 (r 1015)] 22, #[]⟩
 |>.nw (tp [])
 |>.nw (tb [(i 732 0),(i 4 0),(r 894),(i 742 0),(i 4 0),(r 901),(i 751 0),(i 4 0),(r 908),(i 754 0),(i 4 0),(r 915),(i 757 0),(i 4 0),(r 922),(i 760 0),(i 4 0),(r 929),(i 766 0),(i 4 0),(r 936),(i 770 0),(i 4 0),(r 943),(i 773 0),(i 4 0),(r 950),(i 776 0),(i 4 0),(r 957),(i 780 0),(i 4 0),(r 964),(i 783 0),(i 4 0),(r 971),(i 788 0),(i 4 0),(r 978),(i 791 0),(i 4 0),(r 985),(i 797 0),(i 4 0),(r 992),(i 800 0),(i 4 0),(r 999),(i 805 0),(i 4 0),(r 1006),(i 808 0),(i 4 0),(r 1013)])
 |>.nw ⟨(.type "code"),none,.fields #[(s "TokenTaker" 1701),(s "TokenTaker" 1702),(s "/claim/cut.py" 1703),(i 730 0),(i 0 0),(i 0 0),(i 0 0),(i 0 0),(r 885),(.bool false),(i 181 0),(r 886),N,N,N,N,(i 1704 0),(i 730 0),(s "/claim/cut.py" 1705)], #[]⟩
 |>.nw ⟨(.type "frame"),none,.plain, #[(some (r 887)),(some (r 3)),(some (r 884)),none,(some (s "js.parse_base" 1695)),none,(some (r 0))]⟩
 |>.tk 1711 |> cz 122 (s "js.parse_base" 1695) 0 ["TokenTaker.__init__","TokenTaker.take","TokenTaker.peek","TokenTaker.is_sign","TokenTaker.is_word","TokenTaker.eat","TokenTaker.need","TokenTaker.need_word","TokenTaker.fail","TokenTaker.fail_for","TokenTaker.unexpected","TokenTaker.go_in","TokenTaker.go_out","TokenTaker.need_name","TokenTaker.need_binding","TokenTaker.property_name","TokenTaker.can_end","TokenTaker.end_statement"]
 |>.nw (tp [(s "depth" 1846),(s "is_strict" 1847),(s "jumps" 1848),(s "later" 1849),(s "lexer" 1850),(s "nested" 1851),(s "pending" 1852),(s "token" 1853)])
 |>.nw (br P)
 |>.nw ⟨(.type "type"),none,.cls ⟨"TokenTaker",[(.type "object")],[(r 1017),(.type "object")],1016,"TokenTaker",true,[],[],false,none,false⟩, #[none,none,(some (s "TokenTaker" 1699)),(some (s "TokenTaker" 1707)),(some (.builtin "object.__new__")),(some (.bool true))]⟩
 |>.nw ⟨(.type "getset_descriptor"),none,.fields #[(s "__dict__" 1855),(r 1017),(.builtin "function.__dict__"),(.builtin "function.__dict__#set")], #[]⟩
 |>.nw ⟨(.type "getset_descriptor"),none,.fields #[(s "__weakref__" 1857),(r 1017),(.builtin "ExceptionGroup.__weakref__"),N], #[]⟩
 |>.nw ⟨(.type "super"),none,.fields #[(r 1017),(r 1017),(r 1017)], #[]⟩
 |>.nw ⟨(.type "builtin_function_or_method"),none,.fields #[(.builtin "object.__init_subclass__"),(r 1017)], #[]⟩
 |>.tk 1862
 |>.put P 3 "__name__" 0 (s "js.parse_expr" 1862)
 |>.tk 1864
theorem sX(w:World):Gp 1111 Z9 JX 119 124 ⟨711,0,712,77⟩ ⟨810,0,810,8⟩ w:=fun os=>fast (by kernel_rfl)
noncomputable def jL(P:Params):R:=JX P
 |>.put P 3 "PRIORITY" 1933 (r 1022)
 |>.nw (ME P)
 |>.nw ⟨(.type "dict"),none,.dict #[e P ">>>" 1915 (i 8 1916),e P "+" 1917 (i 9 1918),e P "-" 1919 (i 9 1920),e P "*" 1921 (i 10 1922),e P "/" 1923 (i 10 1924),e P "%" 1925 (i 10 1926)] 6, #[]⟩
 |>.tk 1934
theorem xl:∀w:World,Gp 419 JX jL 124 125 ⟨810,0,810,8⟩ ⟨811,0,811,8⟩ w:=@byRow2 "special-get-raises" (Gp 419 JX jL 124 125 ⟨810,0,810,8⟩ ⟨811,0,811,8⟩) (fun w os=>fast (by kernel_rfl)) (fun w os=>fast (by kernel_rfl))
noncomputable def kY(P:Params):R:=jL P
 |>.put P 3 "ASSIGNING" 1946 (r 1024)
 |>.nw yi
 |>.tk 1947
 |>.put P 3 "UNARY_SIGNS" 1951 (r 1025)
 |>.nw (tp [(s "-" 1947),(s "+" 1948),(s "!" 1949),(s "~" 1950)])
 |>.tk 1952
 |>.put P 3 "UNARY_WORDS" 1955 (r 1026)
 |>.nw (tp [(s "typeof" 1952),(s "void" 1953),(s "delete" 1954)])
 |>.tk 1956
 |>.put P 3 "STEPS" 1958 (r 1027)
 |>.nw (tp [(s "++" 1956),(s "--" 1957)])
 |>.tk 1959
 |>.put P 3 "ExprParser" 2137 (r 1163)
 |>.app 12 [(i 816 0),(i 0 0),(r 1033)]
 |>.upd 1017 ky
 |>.nw (tp [(r 1017)])
 |>.nw ⟨(.type "builtin_function_or_method"),none,.fields #[(.builtin "type.__prepare__"),(.type "type")], #[]⟩
 |>.nw ⟨(.type "dict"),none,.dict #[e P "__module__" 1966 (s "js.parse_expr" 1862),e P "__qualname__" 1968 (s "ExprParser" 1967),e P "__firstlineno__" 1970 (i 816 1969),e P "function" 1978 (r 1041),e P "expression" 1988 (r 1048),e P "assignment" 1998 (r 1055),e P "need_target" 2006 (r 1062),e P "conditional" 2016 (r 1069),e P "priority" 2024 (r 1076),e P "binary" 2037 (r 1083),e P "unary" 2049 (r 1090),e P "operand_behind" 2057 (r 1097),e P "postfix" 2065 (r 1104),e P "left_hand" 2073 (r 1111),e P "with_members" 2082 (r 1118),e P "creation" 2091 (r 1125),e P "arguments" 2099 (r 1132),e P "primary" 2108 (r 1139),e P "word_operand" 2116 (r 1146),e P "array" 2125 (r 1153),e P "object" 2132 (r 1160),e P "__static_attributes__" 2134 (r 1161)] 22, #[]⟩
 |>.nw (tp [])
 |>.nw (tb [(i 818 0),(i 4 0),(r 1040),(i 821 0),(i 4 0),(r 1047),(i 830 0),(i 4 0),(r 1054),(i 840 0),(i 4 0),(r 1061),(i 843 0),(i 4 0),(r 1068),(i 851 0),(i 4 0),(r 1075),(i 858 0),(i 4 0),(r 1082),(i 867 0),(i 4 0),(r 1089),(i 882 0),(i 4 0),(r 1096),(i 889 0),(i 4 0),(r 1103),(i 896 0),(i 4 0),(r 1110),(i 902 0),(i 4 0),(r 1117),(i 912 0),(i 4 0),(r 1124),(i 919 0),(i 4 0),(r 1131),(i 931 0),(i 4 0),(r 1138),(i 954 0),(i 4 0),(r 1145),(i 968 0),(i 4 0),(r 1152),(i 981 0),(i 4 0),(r 1159)])
 |>.nw ⟨(.type "code"),none,.fields #[(s "ExprParser" 1961),(s "ExprParser" 1962),(s "/claim/cut.py" 1963),(i 816 0),(i 0 0),(i 0 0),(i 0 0),(i 0 0),(r 1031),(.bool false),(i 181 0),(r 1032),N,N,N,N,(i 1964 0),(i 816 0),(s "/claim/cut.py" 1965)], #[]⟩
 |>.nw ⟨(.type "frame"),none,.plain, #[(some (r 1033)),(some (r 3)),(some (r 1030)),none,(some (s "js.parse_expr" 1862)),none,(some (r 0))]⟩
 |>.tk 1971 |> cz 129 (s "js.parse_expr" 1862) 0 ["ExprParser.function","ExprParser.expression","ExprParser.assignment","ExprParser.need_target","ExprParser.conditional","ExprParser.priority","ExprParser.binary","ExprParser.unary","ExprParser.operand_behind","ExprParser.postfix","ExprParser.left_hand","ExprParser.with_members","ExprParser.creation","ExprParser.arguments","ExprParser.primary","ExprParser.word_operand","ExprParser.array","ExprParser.object"]
 |>.nw (tp [(s "token" 2133)])
 |>.nw (D9 P)
 |>.nw OT
 |>.nw ⟨(.type "super"),none,.fields #[(r 1163),(r 1163),(r 1163)], #[]⟩
 |>.nw ⟨(.type "builtin_function_or_method"),none,.fields #[(.builtin "object.__init_subclass__"),(r 1163)], #[]⟩
 |>.tk 2138
 |>.put P 3 "__name__" 0 (s "law_pc0102_01" 2138)
 |>.tk 2140
 |> fns P (s "law_pc0102_01" 2138) 131 8
theorem Ah(w:World):Gp 1125 jL kY 125 139 ⟨811,0,811,8⟩ ⟨1042,0,1057,15⟩ w:=fun os=>fast (by kernel_rfl)
end
end
section
noncomputable section
theorem t5(w:World):importEnds treeTable (opening pw) w 1000 (start (opening pw)).1 (start (opening pw)).2=some ⟨boot_heap w.params, #[],{},boot_toks,(start (opening pw)).1.os⟩:=by
 have h:PySem.W.Fast.tw10274390034422433532 PySem.W.Fast.tw14364793385576792824 (opening pw) w 1000 (start (opening pw)).1 (start (opening pw)).2=some ⟨boot_heap w.params, #[],{},boot_toks,(start (opening pw)).1.os⟩:=by kernel_rfl
 rw[PySem.W.Fast.te10274390034422433532,PySem.W.Fast.te14364793385576792824];exact h
theorem J6(w:World):(fun os=>(fenceModules? pw ⟨boot_heap w.params, #[],{},boot_toks,os⟩).map (fun s=>(s.heap,s.gens,s.drawn,s.toks)))=fun _=>some (boot_heap w.params, #[],{},boot_toks):=by kernel_rfl
theorem op(Nn:Nat)(hN:Nat.ble 1000 Nn=true):∀w:World,(fencedOpening treeTable pw w Nn).map (fun s=>(s.heap,s.gens,s.drawn,s.toks))=some (boot_heap w.params, #[],{},boot_toks):=open_cut t5 hN J6
theorem tm(w:World):((boot_heap w.params).isNs mainGlobals&&(#[]:Array GenState).size==0,(boot_heap w.params).objs.size,(boot_heap w.params).nsMap mainGlobals "__annotations__")=(true,11,some (.ref 6)):=by kernel_rfl
theorem pre(w:World)(os:OsState):topGo treeTable pw w 11 (some (.ref 6)) 12 ⟨boot_heap w.params, #[],{},boot_toks,os⟩ (topStub pw)=some ((S (z0 w.params) os).abs,⟨denote treeTable cd,cd,p0,B⟩):=by
 have h:PySem.W.Fast.tw15667345088766844465 PySem.W.Fast.tw14364793385576792824 pw w 11 (some (.ref 6)) 12 ⟨boot_heap w.params, #[],{},boot_toks,os⟩ (topStub pw)=some ((S (z0 w.params) os).abs,⟨PySem.W.Fast.tw11892475500146522536 PySem.W.Fast.tw14364793385576792824 cd,cd,p0,B⟩):=by kernel_rfl
 rw[PySem.W.Fast.te15667345088766844465,PySem.W.Fast.te14364793385576792824,PySem.W.Fast.te11892475500146522536];exact h
theorem blk(w:World)(os:OsState):segRunT treeTable pw w 11 (some (.ref 6)) 1 1 (S (z0 w.params) os) (blockOf (behindTheImports pw) env cd p0 B)=some (.next,S (z0 w.params) os,cd,p0):=fast (by kernel_rfl)
noncomputable def H1(P:Params):Heap:=absHeap (kY P).T 1218 {}
theorem fin(w:World)(os:OsState):topRun treeTable pw w 11 (some (.ref 6)) 2 (S (kY w.params) os).abs ⟨doneF .next,cd,⟨1042,0,1057,15⟩,B⟩=some ⟨H1 w.params, #[],{},2215,os⟩:=by
 have h:PySem.W.Fast.tw14082659384304107361 PySem.W.Fast.tw14364793385576792824 pw w 11 (some (.ref 6)) 2 (S (kY w.params) os).abs ⟨doneF .next,cd,⟨1042,0,1057,15⟩,B⟩=some ⟨H1 w.params, #[],{},2215,os⟩:=by kernel_rfl
 rw[PySem.W.Fast.te14082659384304107361,PySem.W.Fast.te14364793385576792824];exact h
theorem wO(w:World)(os:OsState):topRun treeTable pw w 11 (some (.ref 6)) 2 (S (kY w.params) os).abs (restOf [] env cd ⟨1042,0,1057,15⟩ B)=some ⟨H1 w.params, #[],{},2215,os⟩:=piece_nil (fin w os)
noncomputable def bC:List Stmt:=seg 125 139++[]
theorem gA(w:World)(os:OsState):topRun treeTable pw w 11 (some (.ref 6)) (1125+2) (S (jL w.params) os).abs (restOf bC env cd ⟨811,0,811,8⟩ B)=some ⟨H1 w.params, #[],{},2215,os⟩:=
 @piece_app treeTable pw w 11 (some (.ref 6)) env ⟨0,0,0,0⟩ 1125 (2) (S (jL w.params) os).abs (S (kY w.params) os).abs ⟨H1 w.params, #[],{},2215,os⟩ (seg 125 139) [] cd ⟨811,0,811,8⟩ ⟨1042,0,1057,15⟩ (segRun_of (Ah w os)) (wO w os)
noncomputable def su:List Stmt:=seg 124 125++bC
theorem HL(w:World)(os:OsState):topRun treeTable pw w 11 (some (.ref 6)) (419+(1125+2)) (S (JX w.params) os).abs (restOf su env cd ⟨810,0,810,8⟩ B)=some ⟨H1 w.params, #[],{},2215,os⟩:=
 @piece_app treeTable pw w 11 (some (.ref 6)) env ⟨0,0,0,0⟩ 419 ((1125+2)) (S (JX w.params) os).abs (S (jL w.params) os).abs ⟨H1 w.params, #[],{},2215,os⟩ (seg 124 125) bC cd ⟨810,0,810,8⟩ ⟨811,0,811,8⟩ (segRun_of (xl w os)) (gA w os)
noncomputable def Gl:List Stmt:=seg 119 124++su
theorem sC(w:World)(os:OsState):topRun treeTable pw w 11 (some (.ref 6)) (1111+(419+(1125+2))) (S (Z9 w.params) os).abs (restOf Gl env cd ⟨711,0,712,77⟩ B)=some ⟨H1 w.params, #[],{},2215,os⟩:=
 @piece_app treeTable pw w 11 (some (.ref 6)) env ⟨0,0,0,0⟩ 1111 ((419+(1125+2))) (S (Z9 w.params) os).abs (S (JX w.params) os).abs ⟨H1 w.params, #[],{},2215,os⟩ (seg 119 124) su cd ⟨711,0,712,77⟩ ⟨810,0,810,8⟩ (segRun_of (sX w os)) (HL w os)
noncomputable def Ih:List Stmt:=seg 109 119++Gl
theorem Ml(w:World)(os:OsState):topRun treeTable pw w 11 (some (.ref 6)) (1031+(1111+(419+(1125+2)))) (S (R6 w.params) os).abs (restOf Ih env cd ⟨487,0,487,8⟩ B)=some ⟨H1 w.params, #[],{},2215,os⟩:=
 @piece_app treeTable pw w 11 (some (.ref 6)) env ⟨0,0,0,0⟩ 1031 ((1111+(419+(1125+2)))) (S (R6 w.params) os).abs (S (Z9 w.params) os).abs ⟨H1 w.params, #[],{},2215,os⟩ (seg 109 119) Gl cd ⟨487,0,487,8⟩ ⟨711,0,712,77⟩ (segRun_of (zV w os)) (sC w os)
noncomputable def tj:List Stmt:=seg 103 109++Ih
theorem cZ(w:World)(os:OsState):topRun treeTable pw w 11 (some (.ref 6)) (544+(1031+(1111+(419+(1125+2))))) (S (AU w.params) os).abs (restOf tj env cd ⟨461,0,461,11⟩ B)=some ⟨H1 w.params, #[],{},2215,os⟩:=
 @piece_app treeTable pw w 11 (some (.ref 6)) env ⟨0,0,0,0⟩ 544 ((1031+(1111+(419+(1125+2))))) (S (AU w.params) os).abs (S (R6 w.params) os).abs ⟨H1 w.params, #[],{},2215,os⟩ (seg 103 109) Ih cd ⟨461,0,461,11⟩ ⟨487,0,487,8⟩ (segRun_of (ED w os)) (Ml w os)
noncomputable def GF:List Stmt:=seg 102 103++tj
theorem lA(w:World)(os:OsState):topRun treeTable pw w 11 (some (.ref 6)) (2778+(544+(1031+(1111+(419+(1125+2)))))) (S (uA w.params) os).abs (restOf GF env cd ⟨460,0,460,6⟩ B)=some ⟨H1 w.params, #[],{},2215,os⟩:=
 @piece_app treeTable pw w 11 (some (.ref 6)) env ⟨0,0,0,0⟩ 2778 ((544+(1031+(1111+(419+(1125+2)))))) (S (uA w.params) os).abs (S (AU w.params) os).abs ⟨H1 w.params, #[],{},2215,os⟩ (seg 102 103) tj cd ⟨460,0,460,6⟩ ⟨461,0,461,11⟩ (segRun_of (u0 w os)) (cZ w os)
noncomputable def kl:List Stmt:=seg 89 102++GF
theorem JA(w:World)(os:OsState):topRun treeTable pw w 11 (some (.ref 6)) (390+(2778+(544+(1031+(1111+(419+(1125+2))))))) (S (Lp w.params) os).abs (restOf kl env cd ⟨393,0,393,6⟩ B)=some ⟨H1 w.params, #[],{},2215,os⟩:=
 @piece_app treeTable pw w 11 (some (.ref 6)) env ⟨0,0,0,0⟩ 390 ((2778+(544+(1031+(1111+(419+(1125+2))))))) (S (Lp w.params) os).abs (S (uA w.params) os).abs ⟨H1 w.params, #[],{},2215,os⟩ (seg 89 102) GF cd ⟨393,0,393,6⟩ ⟨460,0,460,6⟩ (segRun_of (gh w os)) (lA w os)
noncomputable def Lw:List Stmt:=seg 88 89++kl
theorem Jz(w:World)(os:OsState):topRun treeTable pw w 11 (some (.ref 6)) (121+(390+(2778+(544+(1031+(1111+(419+(1125+2)))))))) (S (q9 w.params) os).abs (restOf Lw env cd ⟨392,0,392,8⟩ B)=some ⟨H1 w.params, #[],{},2215,os⟩:=
 @piece_app treeTable pw w 11 (some (.ref 6)) env ⟨0,0,0,0⟩ 121 ((390+(2778+(544+(1031+(1111+(419+(1125+2)))))))) (S (q9 w.params) os).abs (S (Lp w.params) os).abs ⟨H1 w.params, #[],{},2215,os⟩ (seg 88 89) kl cd ⟨392,0,392,8⟩ ⟨393,0,393,6⟩ (segRun_of (g89 w os)) (JA w os)
noncomputable def NO:List Stmt:=seg 66 88++Lw
theorem DH(w:World)(os:OsState):topRun treeTable pw w 11 (some (.ref 6)) (802+(121+(390+(2778+(544+(1031+(1111+(419+(1125+2))))))))) (S (CA w.params) os).abs (restOf NO env cd ⟨226,0,226,5⟩ B)=some ⟨H1 w.params, #[],{},2215,os⟩:=
 @piece_app treeTable pw w 11 (some (.ref 6)) env ⟨0,0,0,0⟩ 802 ((121+(390+(2778+(544+(1031+(1111+(419+(1125+2))))))))) (S (CA w.params) os).abs (S (q9 w.params) os).abs ⟨H1 w.params, #[],{},2215,os⟩ (seg 66 88) Lw cd ⟨226,0,226,5⟩ ⟨392,0,392,8⟩ (segRun_of (g88 w os)) (Jz w os)
noncomputable def oq:List Stmt:=seg 65 66++NO
theorem tV(w:World)(os:OsState):topRun treeTable pw w 11 (some (.ref 6)) (61+(802+(121+(390+(2778+(544+(1031+(1111+(419+(1125+2)))))))))) (S (Xo w.params) os).abs (restOf oq env cd ⟨225,0,225,8⟩ B)=some ⟨H1 w.params, #[],{},2215,os⟩:=
 @piece_app treeTable pw w 11 (some (.ref 6)) env ⟨0,0,0,0⟩ 61 ((802+(121+(390+(2778+(544+(1031+(1111+(419+(1125+2)))))))))) (S (Xo w.params) os).abs (S (CA w.params) os).abs ⟨H1 w.params, #[],{},2215,os⟩ (seg 65 66) NO cd ⟨225,0,225,8⟩ ⟨226,0,226,5⟩ (segRun_of (g66 w os)) (DH w os)
noncomputable def Aa:List Stmt:=seg 56 65++oq
theorem y0(w:World)(os:OsState):topRun treeTable pw w 11 (some (.ref 6)) (245+(61+(802+(121+(390+(2778+(544+(1031+(1111+(419+(1125+2))))))))))) (S (SQ w.params) os).abs (restOf Aa env cd ⟨189,0,189,6⟩ B)=some ⟨H1 w.params, #[],{},2215,os⟩:=
 @piece_app treeTable pw w 11 (some (.ref 6)) env ⟨0,0,0,0⟩ 245 ((61+(802+(121+(390+(2778+(544+(1031+(1111+(419+(1125+2))))))))))) (S (SQ w.params) os).abs (S (Xo w.params) os).abs ⟨H1 w.params, #[],{},2215,os⟩ (seg 56 65) oq cd ⟨189,0,189,6⟩ ⟨225,0,225,8⟩ (segRun_of (g65 w os)) (tV w os)
noncomputable def qc:List Stmt:=seg 53 56++Aa
theorem Xw(w:World)(os:OsState):topRun treeTable pw w 11 (some (.ref 6)) (704+(245+(61+(802+(121+(390+(2778+(544+(1031+(1111+(419+(1125+2)))))))))))) (S (cT w.params) os).abs (restOf qc env cd ⟨186,0,186,7⟩ B)=some ⟨H1 w.params, #[],{},2215,os⟩:=
 @piece_app treeTable pw w 11 (some (.ref 6)) env ⟨0,0,0,0⟩ 704 ((245+(61+(802+(121+(390+(2778+(544+(1031+(1111+(419+(1125+2)))))))))))) (S (cT w.params) os).abs (S (SQ w.params) os).abs ⟨H1 w.params, #[],{},2215,os⟩ (seg 53 56) Aa cd ⟨186,0,186,7⟩ ⟨189,0,189,6⟩ (segRun_of (g56 w os)) (y0 w os)
noncomputable def Ar:List Stmt:=seg 52 53++qc
theorem Gc(w:World)(os:OsState):topRun treeTable pw w 11 (some (.ref 6)) (10+(704+(245+(61+(802+(121+(390+(2778+(544+(1031+(1111+(419+(1125+2))))))))))))) (S (Zg w.params) os).abs (restOf Ar env cd ⟨185,0,185,7⟩ B)=some ⟨H1 w.params, #[],{},2215,os⟩:=
 @piece_app treeTable pw w 11 (some (.ref 6)) env ⟨0,0,0,0⟩ 10 ((704+(245+(61+(802+(121+(390+(2778+(544+(1031+(1111+(419+(1125+2))))))))))))) (S (Zg w.params) os).abs (S (cT w.params) os).abs ⟨H1 w.params, #[],{},2215,os⟩ (seg 52 53) qc cd ⟨185,0,185,7⟩ ⟨186,0,186,7⟩ (segRun_of (g53 w os)) (Xw w os)
noncomputable def GX:List Stmt:=seg 51 52++Ar
theorem HP(w:World)(os:OsState):topRun treeTable pw w 11 (some (.ref 6)) (135+(10+(704+(245+(61+(802+(121+(390+(2778+(544+(1031+(1111+(419+(1125+2)))))))))))))) (S (Fp w.params) os).abs (restOf GX env cd ⟨184,0,184,8⟩ B)=some ⟨H1 w.params, #[],{},2215,os⟩:=
 @piece_app treeTable pw w 11 (some (.ref 6)) env ⟨0,0,0,0⟩ 135 ((10+(704+(245+(61+(802+(121+(390+(2778+(544+(1031+(1111+(419+(1125+2)))))))))))))) (S (Fp w.params) os).abs (S (Zg w.params) os).abs ⟨H1 w.params, #[],{},2215,os⟩ (seg 51 52) Ar cd ⟨184,0,184,8⟩ ⟨185,0,185,7⟩ (segRun_of (g52 w os)) (Gc w os)
noncomputable def L0:List Stmt:=seg 0 51++GX
theorem r0(w:World)(os:OsState):topRun treeTable pw w 11 (some (.ref 6)) (1377+(135+(10+(704+(245+(61+(802+(121+(390+(2778+(544+(1031+(1111+(419+(1125+2))))))))))))))) (S (z0 w.params) os).abs (restOf L0 env cd p0 B)=some ⟨H1 w.params, #[],{},2215,os⟩:=
 @piece_app treeTable pw w 11 (some (.ref 6)) env ⟨0,0,0,0⟩ 1377 ((135+(10+(704+(245+(61+(802+(121+(390+(2778+(544+(1031+(1111+(419+(1125+2))))))))))))))) (S (z0 w.params) os).abs (S (Fp w.params) os).abs ⟨H1 w.params, #[],{},2215,os⟩ (seg 0 51) GX cd p0 ⟨184,0,184,8⟩ (segRun_of (g51 w os)) (HP w os)
theorem q8:behindTheImports pw=L0:=by kernel_rfl
theorem runs(w:World)(os:OsState):topRun treeTable pw w 11 (some (.ref 6)) (12+(1+(1377+(135+(10+(704+(245+(61+(802+(121+(390+(2778+(544+(1031+(1111+(419+(1125+2))))))))))))))))) ⟨boot_heap w.params, #[],{},boot_toks,os⟩ (topStub pw)=some ⟨H1 w.params, #[],{},2215,os⟩:=
 @go_top treeTable pw w 11 (some (.ref 6)) 12 (1+(1377+(135+(10+(704+(245+(61+(802+(121+(390+(2778+(544+(1031+(1111+(419+(1125+2)))))))))))))))) _ _ _ _ _ (pre w os) (@piece_block treeTable pw w 11 (some (.ref 6)) env ⟨0,0,0,0⟩ 1 (1377+(135+(10+(704+(245+(61+(802+(121+(390+(2778+(544+(1031+(1111+(419+(1125+2))))))))))))))) _ _ _ (behindTheImports pw) cd p0 p0 (segRun_of (blk w os)) (by rw[q8];exact r0 w os))
end
end
section
noncomputable section
noncomputable def cr(x q:Str)(t l a n m:Nat):Nat×Obj:=(n+5,⟨.type "code",none,.fields #[s x t,s q (t+1),s "/claim/cut.py" (t+2),i l 0,i a 0,i 0 0,i 0 0,i 3 0,r n,.bool true,i 181 0,r (n+1),N,r (n+2),r (n+3),r (n+4),i m 0,i l 0,s "/claim/cut.py" (m+1)], #[]⟩)
noncomputable def ui:Nat:=22
noncomputable def mV:Nat:=23
noncomputable def OD:Nat:=56
noncomputable def zg:Nat:=63
noncomputable def HT:Nat:=70
noncomputable def ki:Nat:=77
noncomputable def wF:Nat:=84
noncomputable def wM:Nat:=91
noncomputable def DF:Nat:=112
noncomputable def dq:Nat:=119
noncomputable def j6:Nat:=281
noncomputable def um:Nat:=282
noncomputable def Il:Nat:=288
noncomputable def jR:Nat:=302
noncomputable def Mf:Nat:=307
noncomputable def cH:Nat:=328
noncomputable def Ki:Nat:=335
noncomputable def Qh:Nat:=343
noncomputable def ze:Nat:=350
noncomputable def gc:Nat:=355
noncomputable def U1:Nat:=360
noncomputable def Ob:Nat:=372
noncomputable def JE:Nat:=379
noncomputable def tY:Nat:=384
noncomputable def fJ:Nat:=391
noncomputable def Vk:Nat:=477
noncomputable def iI:Nat:=474
noncomputable def gb:Nat:=489
noncomputable def yr:Nat:=539
noncomputable def ZS:Nat:=594
noncomputable def VE:Nat:=616
noncomputable def Lx:Nat:=613
noncomputable def NU:Nat:=627
noncomputable def rJ:Nat:=634
noncomputable def s5:Nat:=651
noncomputable def Qd:Nat:=648
noncomputable def ic:Nat:=797
noncomputable def Ui:Nat:=668
noncomputable def C0:Nat:=675
noncomputable def Dd:Nat:=682
noncomputable def gT:Nat:=696
noncomputable def yH:Nat:=710
noncomputable def NB:Nat:=717
noncomputable def Xb:Nat:=780
noncomputable def VL:Nat:=794
noncomputable def vD:Nat:=802
noncomputable def ZG:Nat:=803
noncomputable def Tq:Nat:=804
noncomputable def Bh:Nat:=811
noncomputable def bd:Nat:=818
noncomputable def uF:Nat:=825
noncomputable def qB:Nat:=832
noncomputable def CF:Nat:=839
noncomputable def y7:Nat:=877
noncomputable def W7:Nat:=853
noncomputable def Dj:Nat:=1017
noncomputable def Hg:Nat:=895
noncomputable def DV:Nat:=902
noncomputable def n3:Nat:=916
noncomputable def ZZ:Nat:=923
noncomputable def UH:Nat:=930
noncomputable def zZ:Nat:=937
noncomputable def Ac:Nat:=951
noncomputable def ud:Nat:=958
noncomputable def pV:Nat:=965
noncomputable def tx:Nat:=972
noncomputable def Gi:Nat:=979
noncomputable def Oi:Nat:=986
noncomputable def gl:Nat:=1000
noncomputable def qg:Nat:=1022
noncomputable def lm:Nat:=1024
noncomputable def j8:Nat:=1025
noncomputable def zf:Nat:=1026
noncomputable def Y9:Nat:=1027
noncomputable def Mg:Nat:=1163
noncomputable def bt:Nat:=1041
noncomputable def VK:Nat:=1048
noncomputable def Gv:Nat:=1055
noncomputable def sj:Nat:=1062
noncomputable def MZ:Nat:=1069
noncomputable def RO:Nat:=1076
noncomputable def oQ:Nat:=1083
noncomputable def Ud:Nat:=1090
noncomputable def LW:Nat:=1097
noncomputable def FS:Nat:=1104
noncomputable def Ov:Nat:=1111
noncomputable def dc:Nat:=1118
noncomputable def oM:Nat:=1125
noncomputable def ND:Nat:=1132
noncomputable def Dv:Nat:=1139
noncomputable def A3:Nat:=1146
noncomputable def OJ:Nat:=1153
noncomputable def qA:Nat:=1160
noncomputable def nj:Nat:=1172
noncomputable def Nu:Nat:=1179
noncomputable def Ww:Nat:=1186
noncomputable def xM:Nat:=1191
noncomputable def ry:Nat:=1196
noncomputable def Xc:Nat:=1203
noncomputable def BA:Nat:=1210
noncomputable def aB:Nat:=1217
noncomputable def KA:List Nat:=[2,3,22,23,24,25,26,27,28,29,30,31,32,33,34,35,36,37,38,39,40,41,42,43,44,45,46,47,48,49,50,51,52,53,54,55,56,57,58,59,60,61,62,63,69,70,76,77,83,84,90,91,111,112,118,119,281,282,288,301,302,306,307,327,328,334,335,343,349,350,354,355,359,360,371,372,378,379,383,384,390,391,473,474,476,477,488,489,539,594,612,613,615,616,626,627,633,634,647,648,650,651,667,668,674,675,681,682,695,696,709,710,716,717,779,780,793,794,796,797,802,803,804,810,811,817,818,824,825,831,832,838,839,852,853,876,877,894,895,901,902,915,916,922,923,929,930,936,937,950,951,957,958,964,965,971,972,978,979,985,986,999,1000,1016,1017,1022,1024,1025,1026,1027,1040,1041,1047,1048,1054,1055,1061,1062,1068,1069,1075,1076,1082,1083,1089,1090,1096,1097,1103,1104,1110,1111,1117,1118,1124,1125,1131,1132,1138,1139,1145,1146,1152,1153,1159,1160,1162,1163,1171,1172,1178,1179,1185,1186,1190,1191,1195,1196,1202,1203,1209,1210,1216,1217]
noncomputable def KF(P:Params):Frag:=[
 (2,⟨N,none,.dict #[e P "type.__subclasses__.Exception.0" 1374 (i 651 0),e P "type.__subclasses__.Exception.n" 1375 (i 1 0)] 2, #[]⟩),
 (3,⟨(.type "dict"),none,.dict #[e P "__name__" 165 (s "law_pc0102_01" 2138),e P "__doc__" 166 N,e P "__package__" 167 N,e P "__loader__" 168 (.builtin "__main__.__loader__#opaque"),e P "__spec__" 169 N,e P "__annotations__" 170 (r 6),e P "__builtins__" 171 (r 4),e P "__file__" 173 (s "/claim/cut.py" 172),e P "__cached__" 174 N,e P "_wall" 193 (r 21),e P "BLANKS" 207 (r 22),e P "LINE_ENDS" 212 (r 23),e P "LETTERS" 277 (r 56),e P "PARTS" 290 (r 63),e P "is_among" 300 (r 70),e P "is_white" 307 (r 77),e P "is_line_end" 314 (r 84),e P "is_digit" 321 (r 91),e P "is_octal_digit" 328 (r 98),e P "hex_value" 335 (r 105),e P "is_id_start" 342 (r 112),e P "is_id_part" 349 (r 119),e P "is_name" 357 (r 126),e P "SIGN_BIT" 363 (i 9223372036854775808 362),e P "FRACTION_BITS" 365 (i 52 364),e P "FRACTION_MASK" 371 (i 4503599627370495 370),e P "HIDDEN_BIT_dbits" 375 (i 4503599627370496 374),e P "EXPONENT_MASK" 377 (i 2047 376),e P "EXPONENT_SHIFT" 379 (i 1075 378),e P "LEAST_POWER_dbits" 382 (i (-1074) 381),e P "ZERO" 384 (i 0 383),e P "INF" 388 (i 9218868437227405312 387),e P "width" 397 (r 133),e P "pack" 406 (r 140),e P "is_negative" 413 (r 147),e P "is_nan" 420 (r 154),e P "is_inf" 427 (r 161),e P "is_zero" 434 (r 168),e P "signed" 442 (r 175),e P "parts" 452 (r 182),e P "quotient" 461 (r 189),e P "round_ratio" 474 (r 196),e P "assembled" 484 (r 203),e P "from_int" 491 (r 210),e P "LEAST_POWER_numshow" 496 (i (-1074) 495),e P "HIDDEN_BIT_numshow" 500 (i 4503599627370496 499),e P "scaled" 511 (r 217),e P "decimal_place" 520 (r 224),e P "first_place" 533 (r 231),e P "shortest" 554 (r 238),e P "last_figure" 565 (r 245),e P "signed_exponent" 572 (r 252),e P "with_exponent" 581 (r 259),e P "laid_out" 590 (r 266),e P "without_figures" 597 (r 273),e P "show" 607 (r 280),e P "ESCAPED" 634 (r 281),e P "FIGURES" 636 (s "0123456789abcdef" 635),e P "STRENGTHS" 706 (r 282),e P "COMMA" 714 (i 0 707),e P "ASSIGN" 715 (i 1 708),e P "COND" 716 (i 2 709),e P "UNARY" 717 (i 13 710),e P "POSTFIX" 718 (i 14 711),e P "CALL" 719 (i 15 712),e P "MEMBER" 720 (i 16 713),e P "OTHERS" 731 (r 288),e P "hex_figures" 741 (r 295),e P "show_text" 751 (r 302),e P "show_name" 757 (r 307),e P "show_key" 764 (r 314),e P "show_bits" 771 (r 321),e P "strength" 778 (r 328),e P "has_call" 785 (r 335),e P "begins_badly" 792 (r 342),e P "PLAIN" 801 (r 343),e P "show_expression" 811 (r 350),e P "show_bare" 817 (r 355),e P "show_array" 823 (r 360),e P "show_property" 833 (r 367),e P "show_list" 839 (r 372),e P "show_access" 851 (r 379),e P "show_operation" 857 (r 384),e P "show_unary" 866 (r 391),e P "show_function" 874 (r 398),e P "show_body" 880 (r 403),e P "show_code" 891 (r 410),e P "show_statements" 897 (r 415),e P "show_vars" 909 (r 422),e P "show_free" 916 (r 429),e P "show_statement" 926 (r 436),e P "show_leave" 935 (r 443),e P "show_loop" 941 (r 448),e P "show_switch" 947 (r 453),e P "show_try" 955 (r 460),e P "Node" 991 (r 477),e P "SINGLE" 1012 (r 482),e P "code_at" 1020 (r 489),e P "hex_at" 1032 (r 496),e P "line_end_size" 1040 (r 503),e P "octal_escape" 1051 (r 510),e P "read_escape" 1064 (r 517),e P "FARTHEST" 1068 (i 400 1067),e P "figure_of" 1075 (r 524),e P "worth" 1087 (r 531),e P "from_decimal" 1098 (r 538),e P "KEYWORDS" 1137 (r 539),e P "PUNCTS" 1186 (r 540),e P "PUNCT_TABLE" 1286 (r 594),e P "Token" 1327 (r 616),e P "is_keyword" 1334 (r 627),e P "punct_at" 1344 (r 634),e P "SyntaxFail" 1377 (r 651),e P "Lexer" 1580 (r 797),e P "STRICT_WORDS" 1592 (r 802),e P "RESTRICTED" 1595 (r 803),e P "TARGETS" 1599 (r 804),e P "name_fault" 1607 (r 811),e P "binding_fault" 1615 (r 818),e P "target_fault" 1624 (r 825),e P "delete_fault" 1632 (r 832),e P "octal_fault" 1640 (r 839),e P "Jumps" 1694 (r 877),e P "MOST_NESTED" 1698 (i 40 1697),e P "TokenTaker" 1861 (r 1017),e P "PRIORITY" 1933 (r 1022),e P "ASSIGNING" 1946 (r 1024),e P "UNARY_SIGNS" 1951 (r 1025),e P "UNARY_WORDS" 1955 (r 1026),e P "STEPS" 1958 (r 1027),e P "ExprParser" 2137 (r 1163),e P "_law_signs" 2145 (r 1172),e P "_law_pick" 2153 (r 1179),e P "_law_place" 2163 (r 1186),e P "_law_drawn" 2169 (r 1191),e P "_law_rows" 2175 (r 1196),e P "_law_back" 2184 (r 1203),e P "_law_pairs" 2197 (r 1210),e P "law" 2214 (r 1217)] 139, #[]⟩),
 (22,oR),
 (23,Bx),
 (24,(pr 170 170 213)),
 (25,(pr 181 181 215)),
 (26,(pr 186 186 217)),
 (27,(pr 192 214 219)),
 (28,(pr 216 246 221)),
 (29,(pr 248 705 223)),
 (30,(pr 880 883 225)),
 (31,(pr 886 887 227)),
 (32,(pr 891 893 229)),
 (33,(pr 902 902 231)),
 (34,(pr 904 906 233)),
 (35,(pr 908 908 235)),
 (36,(pr 910 929 237)),
 (37,(pr 931 1013 239)),
 (38,(pr 1015 1153 241)),
 (39,(pr 1162 1315 243)),
 (40,(pr 1329 1366 245)),
 (41,(pr 1377 1415 247)),
 (42,(pr 1488 1514 249)),
 (43,(pr 1569 1594 251)),
 (44,(pr 1601 1610 253)),
 (45,(pr 2308 2361 255)),
 (46,(pr 4256 4293 257)),
 (47,(pr 4304 4346 259)),
 (48,(pr 7680 7835 261)),
 (49,(pr 7840 7929 263)),
 (50,(pr 8544 8578 265)),
 (51,(pr 12353 12438 267)),
 (52,(pr 12449 12538 269)),
 (53,(pr 12549 12588 271)),
 (54,(pr 19968 40891 273)),
 (55,(pr 44032 55203 275)),
 (56,wr),
 (57,(pr 768 879 278)),
 (58,(pr 1632 1641 280)),
 (59,(pr 2406 2415 282)),
 (60,(pr 8204 8205 284)),
 (61,(pr 8255 8256 286)),
 (62,(pr 8276 8276 288)),
 (63,Kb),
 cr "is_among" "is_among" 291 9 2 64 298,
 (70,(ff (st 6) "is_among" (s "js.chars" 194) (r 69))),
 cr "is_white" "is_white" 301 14 1 71 305,
 (77,(ff (st 7) "is_white" (s "js.chars" 194) (r 76))),
 cr "is_line_end" "is_line_end" 308 16 1 78 312,
 (84,(ff (st 8) "is_line_end" (s "js.chars" 194) (r 83))),
 cr "is_digit" "is_digit" 315 18 1 85 319,
 (91,(ff (st 9) "is_digit" (s "js.chars" 194) (r 90))),
 cr "is_id_start" "is_id_start" 336 28 1 106 340,
 (112,(ff (st 12) "is_id_start" (s "js.chars" 194) (r 111))),
 cr "is_id_part" "is_id_part" 343 32 1 113 347,
 (119,(ff (st 13) "is_id_part" (s "js.chars" 194) (r 118))),
 (281,Rc),
 (282,(YG P)),
 (288,(P9 P)),
 cr "show_text" "show_text" 742 196 1 296 749,
 (302,(ff (st 57) "show_text" (s "js.printwords" 608) (r 301))),
 (306,⟨(.type "code"),none,.fields #[(s "show_name" 752),(s "show_name" 753),(s "/claim/cut.py" 754),(i 207 0),(i 1 0),(i 0 0),(i 0 0),(i 3 0),(r 303),(.bool true),(i 181 0),(r 304),N,N,N,(r 305),(i 755 0),(i 207 0),(s "/claim/cut.py" 756)], #[]⟩),
 (307,(ff (st 58) "show_name" (s "js.printwords" 608) (r 306))),
 cr "strength" "strength" 772 213 1 322 776,
 (328,(ff (st 61) "strength" (s "js.printwords" 608) (r 327))),
 cr "has_call" "has_call" 779 219 1 329 783,
 (335,(ff (st 62) "has_call" (s "js.printwords" 608) (r 334))),
 (343,(F2 P)),
 cr "show_expression" "show_expression" 802 227 3 344 809,
 (350,(ff (st 66) "show_expression" (s "js.printer" 793) (r 349))),
 (354,⟨(.type "code"),none,.fields #[(s "show_bare" 812),(s "show_bare" 813),(s "/claim/cut.py" 814),(i 232 0),(i 2 0),(i 0 0),(i 0 0),(i 3 0),(r 351),(.bool true),(i 181 0),(r 352),N,N,N,(r 353),(i 815 0),(i 232 0),(s "/claim/cut.py" 816)], #[]⟩),
 (355,(ff (st 67) "show_bare" (s "js.printer" 793) (r 354))),
 (359,⟨(.type "code"),none,.fields #[(s "show_array" 818),(s "show_array" 819),(s "/claim/cut.py" 820),(i 255 0),(i 1 0),(i 0 0),(i 0 0),(i 3 0),(r 356),(.bool true),(i 181 0),(r 357),N,N,N,(r 358),(i 821 0),(i 255 0),(s "/claim/cut.py" 822)], #[]⟩),
 (360,(ff (st 68) "show_array" (s "js.printer" 793) (r 359))),
 (371,⟨(.type "code"),none,.fields #[(s "show_list" 834),(s "show_list" 835),(s "/claim/cut.py" 836),(i 264 0),(i 1 0),(i 0 0),(i 0 0),(i 3 0),(r 368),(.bool true),(i 181 0),(r 369),N,N,N,(r 370),(i 837 0),(i 264 0),(s "/claim/cut.py" 838)], #[]⟩),
 (372,(ff (st 70) "show_list" (s "js.printer" 793) (r 371))),
 cr "show_access" "show_access" 840 266 2 373 849,
 (379,(ff (st 71) "show_access" (s "js.printer" 793) (r 378))),
 (383,⟨(.type "code"),none,.fields #[(s "show_operation" 852),(s "show_operation" 853),(s "/claim/cut.py" 854),(i 279 0),(i 2 0),(i 0 0),(i 0 0),(i 3 0),(r 380),(.bool true),(i 181 0),(r 381),N,N,N,(r 382),(i 855 0),(i 279 0),(s "/claim/cut.py" 856)], #[]⟩),
 (384,(ff (st 72) "show_operation" (s "js.printer" 793) (r 383))),
 cr "show_unary" "show_unary" 858 299 2 385 864,
 (391,(ff (st 73) "show_unary" (s "js.printer" 793) (r 390))),
 cr "__init__" "Node.__init__" 970 387 4 468 977,
 (474,(ff (mt 86 0) "Node.__init__" (s "js.nodes" 956) (r 473))),
 (476,(kU P)),
 (477,kH),
 cr "code_at" "code_at" 1013 394 2 483 1018,
 (489,(ff (st 89) "code_at" (s "js.escapes" 992) (r 488))),
 (539,qU),
 (594,(fD P)),
 cr "__init__" "Token.__init__" 1299 464 7 607 1309,
 (613,(ff (mt 103 0) "Token.__init__" (s "js.tokens" 1099) (r 612))),
 (615,(zI P)),
 (616,pG),
 cr "is_keyword" "is_keyword" 1328 473 1 621 1332,
 (627,(ff (st 104) "is_keyword" (s "js.tokens" 1099) (r 626))),
 cr "punct_at" "punct_at" 1335 475 2 628 1342,
 (634,(ff (st 105) "punct_at" (s "js.tokens" 1099) (r 633))),
 cr "__init__" "SyntaxFail.__init__" 1359 484 3 642 1365,
 (648,(ff (mt 107 0) "SyntaxFail.__init__" (s "js.values" 1345) (r 647))),
 (650,(xJ P)),
 (651,XD),
 cr "__init__" "Lexer.__init__" 1392 490 2 662 1397,
 (668,(ff (mt 109 0) "Lexer.__init__" (s "js.lexer" 1378) (r 667))),
 cr "next" "Lexer.next" 1400 495 1 669 1408,
 (675,(ff (mt 109 1) "Lexer.next" (s "js.lexer" 1378) (r 674))),
 cr "fail" "Lexer.fail" 1411 512 2 676 1416,
 (682,(ff (mt 109 2) "Lexer.fail" (s "js.lexer" 1378) (r 681))),
 cr "skip_blanks" "Lexer.skip_blanks" 1426 519 1 690 1432,
 (696,(ff (mt 109 4) "Lexer.skip_blanks" (s "js.lexer" 1378) (r 695))),
 cr "name_sign" "Lexer.name_sign" 1442 546 2 704 1451,
 (710,(ff (mt 109 6) "Lexer.name_sign" (s "js.lexer" 1378) (r 709))),
 cr "read_name" "Lexer.read_name" 1454 557 2 711 1461,
 (717,(ff (mt 109 7) "Lexer.read_name" (s "js.lexer" 1378) (r 716))),
 cr "read_text" "Lexer.read_text" 1541 659 3 774 1549,
 (780,(ff (mt 109 16) "Lexer.read_text" (s "js.lexer" 1378) (r 779))),
 cr "read_punct" "Lexer.read_punct" 1561 686 2 788 1567,
 (794,(ff (mt 109 18) "Lexer.read_punct" (s "js.lexer" 1378) (r 793))),
 (796,(Mc P)),
 (797,gx),
 (802,zF),
 (803,(tp [(s "arguments" 1593),(s "eval" 1594)])),
 (804,(tp [(s "Name" 1596),(s "Member" 1597),(s "Index" 1598)])),
 cr "name_fault" "name_fault" 1600 697 2 805 1605,
 (811,(ff (st 114) "name_fault" (s "js.strictness" 1581) (r 810))),
 cr "binding_fault" "binding_fault" 1608 701 2 812 1613,
 (818,(ff (st 115) "binding_fault" (s "js.strictness" 1581) (r 817))),
 cr "target_fault" "target_fault" 1616 705 3 819 1622,
 (825,(ff (st 116) "target_fault" (s "js.strictness" 1581) (r 824))),
 cr "delete_fault" "delete_fault" 1625 709 2 826 1630,
 (832,(ff (st 117) "delete_fault" (s "js.strictness" 1581) (r 831))),
 cr "octal_fault" "octal_fault" 1633 711 2 833 1638,
 (839,(ff (st 118) "octal_fault" (s "js.strictness" 1581) (r 838))),
 cr "__init__" "Jumps.__init__" 1653 715 1 847 1657,
 (853,(ff (mt 119 0) "Jumps.__init__" (s "js.strictness" 1581) (r 852))),
 (876,(bY P)),
 (877,nV),
 cr "__init__" "TokenTaker.__init__" 1711 732 2 889 1716,
 (895,(ff (mt 122 0) "TokenTaker.__init__" (s "js.parse_base" 1695) (r 894))),
 cr "take" "TokenTaker.take" 1719 742 1 896 1724,
 (902,(ff (mt 122 1) "TokenTaker.take" (s "js.parse_base" 1695) (r 901))),
 cr "is_sign" "TokenTaker.is_sign" 1734 754 2 910 1739,
 (916,(ff (mt 122 3) "TokenTaker.is_sign" (s "js.parse_base" 1695) (r 915))),
 cr "is_word" "TokenTaker.is_word" 1742 757 2 917 1747,
 (923,(ff (mt 122 4) "TokenTaker.is_word" (s "js.parse_base" 1695) (r 922))),
 cr "eat" "TokenTaker.eat" 1750 760 2 924 1755,
 (930,(ff (mt 122 5) "TokenTaker.eat" (s "js.parse_base" 1695) (r 929))),
 cr "need" "TokenTaker.need" 1758 766 2 931 1763,
 (937,(ff (mt 122 6) "TokenTaker.need" (s "js.parse_base" 1695) (r 936))),
 cr "fail" "TokenTaker.fail" 1774 773 2 945 1779,
 (951,(ff (mt 122 8) "TokenTaker.fail" (s "js.parse_base" 1695) (r 950))),
 cr "fail_for" "TokenTaker.fail_for" 1782 776 2 952 1787,
 (958,(ff (mt 122 9) "TokenTaker.fail_for" (s "js.parse_base" 1695) (r 957))),
 cr "unexpected" "TokenTaker.unexpected" 1790 780 1 959 1794,
 (965,(ff (mt 122 10) "TokenTaker.unexpected" (s "js.parse_base" 1695) (r 964))),
 cr "go_in" "TokenTaker.go_in" 1797 783 1 966 1801,
 (972,(ff (mt 122 11) "TokenTaker.go_in" (s "js.parse_base" 1695) (r 971))),
 cr "go_out" "TokenTaker.go_out" 1804 788 1 973 1808,
 (979,(ff (mt 122 12) "TokenTaker.go_out" (s "js.parse_base" 1695) (r 978))),
 cr "need_name" "TokenTaker.need_name" 1811 791 1 980 1815,
 (986,(ff (mt 122 13) "TokenTaker.need_name" (s "js.parse_base" 1695) (r 985))),
 cr "property_name" "TokenTaker.property_name" 1825 800 1 994 1829,
 (1000,(ff (mt 122 15) "TokenTaker.property_name" (s "js.parse_base" 1695) (r 999))),
 (1016,(br P)),
 (1017,ky),
 (1022,(ME P)),
 (1024,yi),
 (1025,(tp [(s "-" 1947),(s "+" 1948),(s "!" 1949),(s "~" 1950)])),
 (1026,(tp [(s "typeof" 1952),(s "void" 1953),(s "delete" 1954)])),
 (1027,(tp [(s "++" 1956),(s "--" 1957)])),
 cr "function" "ExprParser.function" 1971 818 2 1035 1976,
 (1041,(ff (mt 129 0) "ExprParser.function" (s "js.parse_expr" 1862) (r 1040))),
 cr "expression" "ExprParser.expression" 1979 821 2 1042 1986,
 (1048,(ff (mt 129 1) "ExprParser.expression" (s "js.parse_expr" 1862) (r 1047))),
 cr "assignment" "ExprParser.assignment" 1989 830 2 1049 1996,
 (1055,(ff (mt 129 2) "ExprParser.assignment" (s "js.parse_expr" 1862) (r 1054))),
 cr "need_target" "ExprParser.need_target" 1999 840 2 1056 2004,
 (1062,(ff (mt 129 3) "ExprParser.need_target" (s "js.parse_expr" 1862) (r 1061))),
 cr "conditional" "ExprParser.conditional" 2007 843 2 1063 2014,
 (1069,(ff (mt 129 4) "ExprParser.conditional" (s "js.parse_expr" 1862) (r 1068))),
 cr "priority" "ExprParser.priority" 2017 851 2 1070 2022,
 (1076,(ff (mt 129 5) "ExprParser.priority" (s "js.parse_expr" 1862) (r 1075))),
 cr "binary" "ExprParser.binary" 2025 858 3 1077 2035,
 (1083,(ff (mt 129 6) "ExprParser.binary" (s "js.parse_expr" 1862) (r 1082))),
 cr "unary" "ExprParser.unary" 2038 867 1 1084 2047,
 (1090,(ff (mt 129 7) "ExprParser.unary" (s "js.parse_expr" 1862) (r 1089))),
 cr "operand_behind" "ExprParser.operand_behind" 2050 882 1 1091 2055,
 (1097,(ff (mt 129 8) "ExprParser.operand_behind" (s "js.parse_expr" 1862) (r 1096))),
 cr "postfix" "ExprParser.postfix" 2058 889 1 1098 2063,
 (1104,(ff (mt 129 9) "ExprParser.postfix" (s "js.parse_expr" 1862) (r 1103))),
 cr "left_hand" "ExprParser.left_hand" 2066 896 1 1105 2071,
 (1111,(ff (mt 129 10) "ExprParser.left_hand" (s "js.parse_expr" 1862) (r 1110))),
 cr "with_members" "ExprParser.with_members" 2074 902 2 1112 2080,
 (1118,(ff (mt 129 11) "ExprParser.with_members" (s "js.parse_expr" 1862) (r 1117))),
 cr "creation" "ExprParser.creation" 2083 912 1 1119 2089,
 (1125,(ff (mt 129 12) "ExprParser.creation" (s "js.parse_expr" 1862) (r 1124))),
 cr "arguments" "ExprParser.arguments" 2092 919 1 1126 2097,
 (1132,(ff (mt 129 13) "ExprParser.arguments" (s "js.parse_expr" 1862) (r 1131))),
 cr "primary" "ExprParser.primary" 2100 931 1 1133 2106,
 (1139,(ff (mt 129 14) "ExprParser.primary" (s "js.parse_expr" 1862) (r 1138))),
 cr "word_operand" "ExprParser.word_operand" 2109 954 1 1140 2114,
 (1146,(ff (mt 129 15) "ExprParser.word_operand" (s "js.parse_expr" 1862) (r 1145))),
 cr "array" "ExprParser.array" 2117 968 1 1147 2123,
 (1153,(ff (mt 129 16) "ExprParser.array" (s "js.parse_expr" 1862) (r 1152))),
 cr "object" "ExprParser.object" 2126 981 1 1154 2130,
 (1160,(ff (mt 129 17) "ExprParser.object" (s "js.parse_expr" 1862) (r 1159))),
 (1162,(D9 P)),
 (1163,OT),
 cr "_law_signs" "_law_signs" 2140 984 0 1166 2143,
 (1172,(ff (st 131) "_law_signs" (s "law_pc0102_01" 2138) (r 1171))),
 cr "_law_pick" "_law_pick" 2146 986 2 1173 2151,
 (1179,(ff (st 132) "_law_pick" (s "law_pc0102_01" 2138) (r 1178))),
 cr "_law_place" "_law_place" 2154 991 2 1180 2161,
 (1186,(ff (st 133) "_law_place" (s "law_pc0102_01" 2138) (r 1185))),
 (1190,⟨(.type "code"),none,.fields #[(s "_law_drawn" 2164),(s "_law_drawn" 2165),(s "/claim/cut.py" 2166),(i 997 0),(i 2 0),(i 0 0),(i 0 0),(i 3 0),(r 1187),(.bool true),(i 181 0),(r 1188),N,N,N,(r 1189),(i 2167 0),(i 997 0),(s "/claim/cut.py" 2168)], #[]⟩),
 (1191,(ff (st 134) "_law_drawn" (s "law_pc0102_01" 2138) (r 1190))),
 (1195,⟨(.type "code"),none,.fields #[(s "_law_rows" 2170),(s "_law_rows" 2171),(s "/claim/cut.py" 2172),(i 1020 0),(i 1 0),(i 0 0),(i 0 0),(i 3 0),(r 1192),(.bool true),(i 181 0),(r 1193),N,N,N,(r 1194),(i 2173 0),(i 1020 0),(s "/claim/cut.py" 2174)], #[]⟩),
 (1196,(ff (st 135) "_law_rows" (s "law_pc0102_01" 2138) (r 1195))),
 cr "_law_back" "_law_back" 2176 1026 1 1197 2182,
 (1203,(ff (st 136) "_law_back" (s "law_pc0102_01" 2138) (r 1202))),
 cr "_law_pairs" "_law_pairs" 2185 1033 1 1204 2195,
 (1210,(ff (st 137) "_law_pairs" (s "law_pc0102_01" 2138) (r 1209))),
 cr "law" "law" 2198 1042 1 1211 2212,
 (1217,(ff (st 138) "law" (s "law_pc0102_01" 2138) (r 1216)))]
noncomputable def loose:List Str:=(["_wall","BLANKS","LINE_ENDS","LETTERS","PARTS","is_among","is_white","is_line_end","is_digit","is_octal_digit","hex_value","is_id_start","is_id_part","is_name","SIGN_BIT","FRACTION_BITS","FRACTION_MASK","HIDDEN_BIT_dbits","EXPONENT_MASK","EXPONENT_SHIFT","LEAST_POWER_dbits","ZERO","INF","width","pack","is_negative","is_nan","is_inf","is_zero","signed","parts","quotient","round_ratio","assembled","from_int","LEAST_POWER_numshow","HIDDEN_BIT_numshow","scaled","decimal_place","first_place","shortest","last_figure","signed_exponent","with_exponent","laid_out","without_figures","show","ESCAPED","FIGURES","STRENGTHS","COMMA","ASSIGN","COND","UNARY","POSTFIX","CALL","MEMBER","OTHERS","hex_figures","show_text","show_name","show_key","show_bits","strength","has_call","begins_badly","PLAIN","show_expression","show_bare","show_array","show_property","show_list","show_access","show_operation","show_unary","show_function","show_body","show_code","show_statements","show_vars","show_free","show_statement","show_leave","show_loop","show_switch","show_try","Node","SINGLE","code_at","hex_at","line_end_size","octal_escape","read_escape","FARTHEST","figure_of","worth","from_decimal","KEYWORDS","PUNCTS","PUNCT_TABLE","Token","is_keyword","punct_at","SyntaxFail","Lexer","STRICT_WORDS","RESTRICTED","TARGETS","name_fault","binding_fault","target_fault","delete_fault","octal_fault","Jumps","MOST_NESTED","TokenTaker","PRIORITY","ASSIGNING","UNARY_SIGNS","UNARY_WORDS","STEPS","ExprParser","_law_signs","_law_pick","_law_place","_law_drawn","_law_rows","_law_back","_law_pairs"]:List String).map Str.ofString
noncomputable def qv:Program:={pw with main:={pw.main with body:=[st 138]}}
theorem GL:∀P,KA=(KF P).map (·.1):=fun _=>by kernel_rfl
noncomputable def hk:Hook:=kHook KF KA GL
theorem UV(w:World):KA.map (H1 w.params).get? =(KF w.params).map fun p=>some p.2:=by kernel_rfl
end
end
end Mine.Hd
namespace Mine
open PySem PySem.W PySem.Calls PyProof.Rows PySem.Spec
section
noncomputable def er(v:Value):Value:=@Value.casesOn (fun zz=>Value) v .none .ellipsis .notImplemented .bool (fun i zz=>.int i 0) (fun x zz=>.float x 0) (fun x zz=>.str x 0) (fun b zz=>.bytes b 0) .type .builtin .ref
theorem GK(v:Value):(er v).ctorIdx=v.ctorIdx:=by cases v<;>rfl
set_option genSizeOf false in
set_option genInjectivity false in
inductive Fn where
 |kind|line|parts|scope|value|behind|start|stop|uO|plain|text|at|So|token|later|strict|depth|nested|nl|pending|we|loops|kF
 deriving DecidableEq
noncomputable def nm:Fn→Str
 | .kind=>"kind" | .line=>"line" | .parts=>"parts" | .scope=>"scope" | .value=>"value" | .behind=>"is_behind_line" | .start=>"start" | .stop=>"end" | .uO=>"is_octal"
 | .plain=>"is_plain" | .text=>"text" | .at=>"at" | .So=>"lexer" | .token=>"token" | .later=>"later" | .strict=>"is_strict" | .depth=>"depth" | .nested=>"nested"
 | .nl=>"jumps" | .pending=>"pending" | .we=>"labels" | .loops=>"loops" | .kF=>"switches"
noncomputable def xz:List Fn:=[.kind,.line,.parts,.scope,.value,.behind,.start,.stop,.uO,.plain,.text,.at,.So,.token,.later,.strict,.depth,.nested,.nl,.pending,.we,.loops,.kF]
theorem CI{i j:Fn}(h:nm i=nm j):i=j:=by
 have key:∀i:Fn,xz.find? (fun k=>nm k==nm i)=some i:=by intro i;cases i<;>decide +kernel
 have:=key i;rw[h,key j]at this;cases this;rfl
set_option genSizeOf false in
inductive AO where
 |bare (C:Addr)
 |inst (C d:Addr) (fs:List (Fn×Value))
 |lst (vs:List Value)
 |tup (vs:List Value)
 |OS (vs:List Value)
 |Ab (vs:List Value)
noncomputable abbrev AH:=Addr→Option AO
noncomputable def AO.owned:AO→Bool
 |_=>true
noncomputable def FD:List DictEntry→List (Fn×Value)→Prop
 | [],[]=>True
 |e::es,f::fs=>(∃t,e.key= .str (nm f.1) t)∧er e.val=f.2∧FD es fs
 |_,_=>False
noncomputable def ee(n:Fn):List (Fn×Value)→Option Value
 | []=>none
 |f::fs=>if f.1=n then some f.2 else ee n fs
noncomputable def D7(n:Fn)(v:Value):List (Fn×Value)→List (Fn×Value)
 | []=>[(n,v)]
 |f::fs=>if f.1=n then(n,v)::fs else f::D7 n v fs
theorem FD.ind{P:List DictEntry→List (Fn×Value)→Prop}(h0:P [] [])(hc:∀e es f fs t,e.key= .str (nm f.1) t→er e.val=f.2→FD es fs→P es fs→P (e::es) (f::fs)){es fs}(h:FD es fs):P es fs:=by
 induction es generalizing fs with
 |nil=>
  cases fs with
  |nil=>exact h0
  |cons f fs=>exact h.elim
 |cons e es ih=>
  cases fs with
  |nil=>exact h.elim
  |cons f fs=>exact h.1.elim fun t k=>hc e es f fs t k h.2.1 h.2.2 (ih h.2.2)
theorem FD.length{es fs}(h:FD es fs):es.length=fs.length:=
 h.ind (P:=fun es fs=>es.length=fs.length) rfl fun zz zz zz zz zz zz zz zz ih=>R6T (· + 1) ih
theorem mC{L i:Nat}(h:i<L):L+1-(i+1)<L+1-i:=Nat.sub_lt_sub_left (Nat.lt_succ_of_lt h) (K7i i)
theorem cps{G:Prop}(h:∀F:Prop,(G→F)→F):G:=h G id
theorem XU{v:Value}{x n:Fn}{t:Tok}(h:v= .str (nm x) t):v.isStr (nm n)=decide (x=n):=by
 subst h
 by_cases q:x=n
 ·subst q;simp[Value.isStr]
 ·have:nm x≠nm n:=fun e=>q (CI e);simp[Value.isStr,q,this]
theorem FD.get{n:Fn}{v:Value}{es fs}(h:FD es fs):ee n fs=some v→∃v',getL (nm n) es=some (some v')∧er v'=v:=by
 refine h.ind (P:=fun es fs=>ee n fs=some v→∃v',getL (nm n) es=some (some v')∧er v'=v) (fun h=>by cases h) fun e es f fs t k hv zz ih g=>?_;unfold ee at g
 by_cases q:f.1=n
 ·rw[if_pos q]at g;cases g;refine⟨e.val,?_,hv⟩;unfold getL;rw[List.find?_cons_of_pos (by rw[XU k];exact decide_eq_true q)]
 ·rw[if_neg q]at g;refine(ih g).imp fun v' z=>⟨?_,z.2⟩;have a:=z.1;unfold getL at a⊢;rw[List.find?_cons_of_neg (by rw[XU k];simp[q])]
  split at a
  ·exact a
  ·split at a<;>cases a
theorem FD.yp{es fs}(h:FD es fs):es.any (·.refKey)=false:=
 h.ind (P:=fun es zz=>es.any (·.refKey)=false) rfl fun e es f fs t k zz zz ih=>by rw[List.any_cons,ih,Bool.or_false];unfold DictEntry.refKey;rw[k]
theorem FD.QO{x:Str}{es fs}(h:FD es fs):(∀f∈fs,nm f.1≠x)→getL x es=some none:=by
 refine h.ind (P:=fun es fs=>(∀f∈fs,nm f.1≠x)→getL x es=some none) (fun zz=>rfl) fun e es f fs t k hv h ih g=>?_;have hn:=FD.yp (es:=e::es) (fs:=f::fs) ⟨⟨t,k⟩,hv,h⟩;have a:=ih fun f hf=>g f (.tail _ hf);unfold getL at a⊢;rw[List.find?_cons_of_neg (by rw[k];simp[Value.isStr,g f (.head _)])]
 split at a
 ·cases a
 ·rw[if_neg (by rw[hn];decide)]
theorem FD.put{n:Fn}{v:Value}{hs:Int}{t:Tok}{es fs}(h:FD es fs):FD (putL (nm n) hs (.str (nm n) t) v es) (D7 n (er v) fs):=by
 refine h.ind (P:=fun es fs=>FD (putL (nm n) hs (.str (nm n) t) v es) (D7 n (er v) fs)) ⟨⟨t,rfl⟩,rfl,trivial⟩ fun e es f fs t' k hv h ih=>?_;unfold putL D7
 by_cases q:f.1=n
 ·rw[if_pos q,if_pos (by rw[XU k];exact decide_eq_true q)];exact⟨⟨t',by rw[←q];exact k⟩,rfl,h⟩
 ·rw[if_neg q,if_neg (by rw[XU k];simp[q])];exact⟨⟨t',k⟩,hv,ih⟩
noncomputable def i9(h:Heap)(a:Addr):AO→Prop
 | .bare C=>∃sl,h.get? a=some ⟨.ref C,none,.plain,sl⟩
 | .inst C d fs=>(∃sl,h.get? a=some ⟨.ref C,some d,.plain,sl⟩)∧∃es n sl,h.get? d=some ⟨.type "dict",none,.dict es.toArray n,sl⟩∧FD es fs∧fs.length≤30
 | .lst vs=>∃xs n sl,h.get? a=some ⟨.type "list",none,.seq xs n,sl⟩∧xs.toList.map er=vs
 | .tup vs=>∃xs n sl,h.get? a=some ⟨.type "tuple",none,.seq xs n,sl⟩∧xs.toList.map er=vs
 | .OS vs=>∃xs n sl,h.get? a=some ⟨.type "list",none,.seq xs n,sl⟩∧xs.toList.map er=vs
 | .Ab vs=>∃xs,h.IsList a xs∧xs.toList.map er=vs
def og(H:AH)(a:Addr):Prop:=(∃o,H a=some o∧o.owned=true)∨∃b C fs,H b=some (.inst C a fs)
noncomputable def Hn(h:Heap)(p:Addr→Prop):Heap:=open Classical in
 ⟨h.objs.mapIdx fun i o=>if p i then{o with data:=.freed}else o,h.life⟩
theorem CY{h:Heap}{p:Addr→Prop}{a:Addr}(q:p a):(Hn h p).get? a=none:=by
 cases e:(Hn h p).get? a with
 |none=>rfl
 |some o=>
  obtain⟨e1,e2⟩:=Heap.get?_some_iff.mp e;simp only[Hn,Array.getElem?_mapIdx,Option.map_eq_some_iff]at e1;obtain⟨o',_,e3⟩:=e1;rw[if_pos q]at e3;subst e3;cases e2
theorem Dx{h:Heap}{p:Addr→Prop}{a:Addr}(q:¬p a):(Hn h p).get? a=h.get? a:=by
 have:(Hn h p).objs[a]? =h.objs[a]? :=by
  simp only[Hn,Array.getElem?_mapIdx];cases h.objs[a]? with
  |none=>rfl
  |some o=>simp[q]
 unfold Heap.get?;rw[this]
theorem k7{h:Heap}{p:Addr→Prop}{a:Addr}{o:Obj}(e:(Hn h p).get? a=some o):¬p a∧h.get? a=some o:=by
 by_cases q:p a
 ·rw[CY q]at e;cases e
 ·exact⟨q,(Dx q).symm.trans e⟩
def isFrame(outer:List Env)(L:Addr):Prop:=∃env∈outer,env.frame=some L
def FJ(outer:List Env)(h h':Heap):Prop:=∀L,isFrame outer L→∀o,h.get? L=some o→∃sl,h'.get? L=some {o with slots:=sl}
theorem FJ.refl{outer:List Env}{h:Heap}:FJ outer h h:=fun zz zz o e=>⟨o.slots,e⟩
theorem isFrame.up{env:Env}{l:List Env}{L:Addr}(h:isFrame l L):isFrame (env::l) L:=h.imp fun zz h=>⟨.tail _ h.1,h.2⟩
theorem isFrame.mem{l:List Env}{base h:Heap}{L:Addr}(f:isFrame l L)(hf:h.FunFrames base l):base.get? L=none∧∃o,h.get? L=some o∧∀vs,o.data≠ .fields vs:=hf.mem (List.mem_filterMap.mpr f)
theorem FJ.trans{outer:List Env}{h wi dz:Heap}(x:FJ outer h wi)(y:FJ outer wi dz):FJ outer h dz:=fun L f o e=>(x L f o e).elim fun zz e=>(y L f _ e).imp fun zz e=>e
theorem FJ.tail{env:Env}{outer:List Env}{h h':Heap}(x:FJ (env::outer) h h'):FJ outer h h':=fun L f=>x L f.up
theorem FJ.of_slots{outer:List Env}{base h h':Heap}(hf:h.FunFrames base outer)(u:h.UpToSlots h'):FJ outer h h':=fun L f o e=>
 (f.mem hf).2.elim fun o' q=>u L o e (Y1l (e.symm.trans q.1)▸q.2)
theorem FJ.of_keeps{outer:List Env}{h h':Heap}(k:∀b o,h.get? b=some o→h'.get? b=some o):FJ outer h h':=fun L zz o e=>⟨o.slots,k L o e⟩
variable(cY:Heap)(uK:OsState)(w:World)
structure Inv(Rk:Heap)(outer:List Env)(s:Shared)(H:AH):Prop where
 stays:Rk.StaysIn s.heap
 base:cY.StaysIn Rk
 rep:∀a o,H a=some o→i9 s.heap a o
 own:∀a,og H a→Rk.get? a=none
 sep:∀a b C C' d fs A6,H a=some (.inst C d fs)→H b=some (.inst C' d A6)→a=b
 lY:s.heap.FunFrames Rk outer
 dY:∀L,isFrame outer L→¬og H L
 gens:s.gens= #[]
 os:s.os=uK
structure AG:Prop where
 X:(Hd.KF w.params).In cY
 T:∃mg mb,TopRead Hd.qv Hd.loose mg mb cY
def gv(A:Around)(n:Nat):Prop:=A.depth+n≤recursionLimit∧A.units+12*n+300≤cLine
def yB(Rk:Heap)(l:List Env)(e:Value)(h:Heap):Prop:=∃a a0,e= .ref a∧Heap.FlyingW Rk l a (.ref Hd.s5) a0 h
def T2(n:Nat)(f:Value)(args:List Value)(H:AH)(Q:Value→AH→Prop)(X:AH→Prop):Prop:=
 ∀(A:Around)(s:Shared)(outer:List Env)(Rk:Heap),gv A n→A.frames=some outer→A.handled=none→Inv cY uK Rk outer s H→
  ∀vs:List Value,vs.map er=args→codeAny (model Hd.pw w) A (.call f ⟨vs,[]⟩) (fun r s'=>match r with
   | .ok (.ret v)=>∃H',Inv cY uK Rk outer s' H'∧FJ outer s.heap s'.heap∧Q (er v) H'
   | .ok _=>False
   | .error e=>∃H',Inv cY uK Rk outer s' H'∧FJ outer s.heap s'.heap∧yB Rk outer e s'.heap∧X H') s
theorem T2.mono{n m:Nat}{f:Value}{args:List Value}{H:AH}{Q Q':Value→AH→Prop}{X X':AH→Prop}(h:T2 cY uK w n f args H Q X)(hn:n≤m)(hQ:∀v H,Q v H→Q' v H)(hX:∀H,X H→X' H):
  T2 cY uK w m f args H Q' X':=fun A s outer Rk hr hf hh hi vs hv=>
 codeAny_mono (h A s outer Rk ⟨by have:=hr.1;lia,by have:=hr.2;lia⟩ hf hh hi vs hv) fun r s' z=>by
  rcases r with e|(v|_|_|_)
  ·exact z.imp fun H' z=>⟨z.1,z.2.1,z.2.2.1,hX _ z.2.2.2⟩
  all_goals first|exact z|skip
  exact z.imp fun H' z=>⟨z.1,z.2.1,hQ _ _ z.2.2⟩
end
section
noncomputable abbrev dD:=List (Option Value)
noncomputable def Wo(sc:Scope):Bool:=decide ((sc.names.map (·.1)).Nodup)&&decide (sc.kind= .function)
structure CL(env:Env):Prop where
 ok:Wo env.scope=true
 globals:env.globals=mainGlobals
 builtins:env.builtins=builtinsNs
theorem CL.kind{env:Env}(h:CL env):env.scope.kind= .function:=of_decide_eq_true (Bool.and_eq_true_iff.mp h.ok).2
theorem SV{x:Str}{k:NameKind}{l:List (Str×NameKind)}:∀{i:Nat},(l.map (·.1)).Nodup→l[i]? =some (x,k)→l.lookup x=some k:=by
 induction l with
 |nil=>exact fun zz h=>nomatch h
 |cons p l ih=>
  intro i hn h;have hn:=List.nodup_cons.mp hn;cases i with
  |zero=>cases h;exact List.lookup_cons_self
  |succ i=>
   have h:l[i]? =some (x,k):=h;unfold List.lookup;rw[show(x==p.1)=false from beq_false_of_ne fun e=>hn.1 (e▸List.mem_map_of_mem (List.mem_of_getElem? h):p.1∈l.map (·.1))];exact ih hn.2 h
theorem Rt{x:Str}{k k':NameKind}{l:List (Str×NameKind)}{i j:Nat}(hn:(l.map (·.1)).Nodup)(hi:l[i]? =some (x,k))(hj:l[j]? =some (x,k')):i=j:=by
 have a {i:Nat} {k:NameKind} (h:l[i]? =some (x,k)):(l.map (·.1))[i]? =some x:=by rw[List.getElem?_map,h];rfl
 exact(List.getElem?_inj (List.getElem?_eq_some_iff.mp (a hi)).1 hn).mp ((a hi).trans (a hj).symm)
theorem CL.nodup{env:Env}(h:CL env):(env.scope.names.map (·.1)).Nodup:=of_decide_eq_true (Bool.and_eq_true_iff.mp h.ok).1
theorem CL.kindOf{env:Env}(h:CL env){i:Nat}{x:Str}{k:NameKind}(e:env.scope.names[i]? =some (x,k)):env.kindOf x=some k:=SV h.nodup e
def JD(env:Env)(h:Heap)(m:Str→Option Value)(i:Nat)(v:Value):Prop:=∃x:Str,
 (env.scope.names[i]? =some (x,.local)∧∃v',m x=some v'∧er v'=v)∨
 (env.scope.names[i]? =some (x,.cell)∧∃c v',env.cells.lookup x=some c∧h.IsCell c (some v')∧er v'=v∧c≠env.locals)
def Locals(env:Env)(h:Heap)(fr:dD):Prop:=∃m,h.Ns env.locals m∧∀(i:Nat)(v:Value),fr[i]? =some (some v)→JD env h m i v
theorem JD.lift{env:Env}{h h':Heap}{m:Str→Option Value}{i:Nat}{v:Value}(x:JD env h m i v)(k:∀c u,h.IsCell c u→c≠env.locals→h'.IsCell c u):JD env h' m i v:=
 x.imp fun zz z=>z.imp_right fun z=>⟨z.1,z.2.imp fun c z=>z.imp fun zz z=>⟨z.1,k c _ z.2.1 z.2.2.2,z.2.2⟩⟩
theorem Locals.lift{env:Env}{h h':Heap}{fr:dD}(x:Locals env h fr)(hn:∀m,h.Ns env.locals m→h'.Ns env.locals m)(k:∀c u,h.IsCell c u→c≠env.locals→h'.IsCell c u):Locals env h' fr:=
 x.imp fun m z=>⟨hn m z.1,fun i v e=>(z.2 i v e).lift k⟩
section
variable{cY:Heap}{uK:OsState}{w:World}
noncomputable def vf(env:Env):Env:={env with frame:=some env.locals}
theorem iy{env:Env}(h:env.frame=some env.locals):vf env=env:=by unfold vf;rw[←h]
def vm(env:Env)(outer ow:List Env):Prop:=(ow=env::outer∧env.frame=some env.locals)∨ow=outer
structure Here(cY:Heap)(uK:OsState)(n:Nat)(A:Around)(env:Env)(outer ow:List Env)(Rk:Heap)(s:Shared)(fr:dD)(H:AH):Prop where
 lY:A.frames=some ow
 hd:A.handled=none
 room:gv A n
 inv:Inv cY uK Rk (vf env::outer) s H
 loc:Locals env s.heap fr
 ow:vm env outer ow
 apart:¬isFrame outer env.locals
structure After(cY:Heap)(uK:OsState)(env:Env)(outer:List Env)(Rk:Heap)(s s':Shared)(fr:dD)(H:AH):Prop where
 inv:Inv cY uK Rk (vf env::outer) s' H
 loc:Locals env s'.heap fr
 keep:FJ outer s.heap s'.heap
structure J3(h h':Heap)(e:Addr)(cls:Value):Prop where
 keeps:∀b o,h.get? b=some o→h'.get? b=some o
 new:h.get? e=none
 there:∃oe vs a0,h'.get? e=some oe∧oe.cls=cls∧oe.data= .fields vs∧vs[1]? =some .none∧vs[0]? =some a0
def Wk(Rk:Heap)(env:Env)(ow:List Env)(e:Value)(h':Heap):Prop:=
 (∃a h,e= .ref a∧J3 h h' a (.ref Hd.s5)∧Rk.StaysIn h∧h.FunFrames Rk ow)∨
 yB Rk ow e h'∨
 ∃a a0,e= .ref a∧Heap.HeldW Rk ow a (.ref Hd.s5) a0 env.locals h'
structure xe(cY:Heap)(uK:OsState)(env:Env)(outer ow:List Env)(Rk:Heap)(s s':Shared)(e:Value)(H:AH):Prop where
 inv:Inv cY uK Rk (vf env::outer) s' H
 keep:FJ outer s.heap s'.heap
 exc:Wk Rk env ow e s'.heap
 ns:∃m,s'.heap.Ns env.locals m
@[reducible]noncomputable def Po{α:Type}(cY:Heap)(uK:OsState)(env:Env)(outer:List Env)(Rk:Heap)(P:α→dD→AH→Prop)(s:Shared)(a:α)(s':Shared):Prop:=∃ve H',After cY uK env outer Rk s s' ve H'∧P a ve H'
@[reducible]noncomputable def Px(cY:Heap)(uK:OsState)(env:Env)(outer ow:List Env)(Rk:Heap)(X:AH→Prop)(s:Shared)(e:Value)(s':Shared):Prop:=∃H',xe cY uK env outer ow Rk s s' e H'∧X H'
def Run{α:Type}(cY:Heap)(uK:OsState)(w:World)(n:Nat)(env:Env)(outer ow:List Env)(fr:dD)(H:AH)(t:Sem α)(P:α→dD→AH→Prop)(X:AH→Prop):Prop:=
 ∀A Rk s,Here cY uK n A env outer ow Rk s fr H→wpAny (model Hd.pw w) A t (Po cY uK env outer Rk P s) (Px cY uK env outer ow Rk X s) s
variable{α β:Type}{n:Nat}{env:Env}{outer ow:List Env}{fr:dD}{H:AH}{A:Around}{Rk:Heap}{s:Shared}{t:Sem α}{P:α→dD→AH→Prop}{X:AH→Prop}
theorem After.refl(h:Here cY uK n A env outer ow Rk s fr H):After cY uK env outer Rk s s fr H:=⟨h.inv,h.loc,.refl⟩
theorem After.here{s':Shared}{ve:dD}{H':AH}(h:Here cY uK n A env outer ow Rk s fr H)(x:After cY uK env outer Rk s s' ve H'):Here cY uK n A env outer ow Rk s' ve H':=⟨h.lY,h.hd,h.room,x.inv,x.loc,h.ow,h.apart⟩
theorem After.trans{s₁ UI:Shared}{gu dh:dD}{Dw XZ:AH}(x:After cY uK env outer Rk s s₁ gu Dw)(y:After cY uK env outer Rk s₁ UI dh XZ):After cY uK env outer Rk s UI dh XZ:=⟨y.inv,y.loc,x.keep.trans y.keep⟩
theorem xe.after{s₁ UI:Shared}{gu:dD}{Dw XZ:AH}{e:Value}(x:After cY uK env outer Rk s s₁ gu Dw)(y:xe cY uK env outer ow Rk s₁ UI e XZ):xe cY uK env outer ow Rk s UI e XZ:=⟨y.inv,x.keep.trans y.keep,y.exc,y.ns⟩
theorem Run.mono{P':α→dD→AH→Prop}{X':AH→Prop}(h:Run cY uK w n env outer ow fr H t P X)(hP:∀a fr H,P a fr H→P' a fr H)(hX:∀H,X H→X' H):Run cY uK w n env outer ow fr H t P' X':=
 fun A Rk s hs=>wpAny_mono (h A Rk s hs) (fun zz zz z=>z.imp fun zz z=>z.imp fun zz z=>⟨z.1,hP _ _ _ z.2⟩) fun zz zz z=>z.imp fun zz z=>⟨z.1,hX _ z.2⟩
theorem Run.im{P':α→dD→AH→Prop}(h:Run cY uK w n env outer ow fr H t P X)(hP:∀a fr H,P a fr H→P' a fr H):Run cY uK w n env outer ow fr H t P' X:=h.mono hP fun zz z=>z
theorem Run.Gh{Wy:Shared}(BK:After cY uK env outer Rk Wy s fr H)(hs:Here cY uK n A env outer ow Rk s fr H)(h:Run cY uK w n env outer ow fr H t P X){C:α→Shared→Prop}{E:Value→Shared→Prop}(hE:∀e s',Px cY uK env outer ow Rk X Wy e s'→E e s')
  (k:∀a s₁ gu Dw,After cY uK env outer Rk Wy s₁ gu Dw→Here cY uK n A env outer ow Rk s₁ gu Dw→P a gu Dw→C a s₁):wpAny (model Hd.pw w) A t C E s:=
 wpAny_mono (h A Rk s hs) (fun v s₁ h=>h.elim fun gu h=>h.elim fun Dw h=>k v s₁ gu Dw (BK.trans h.1) (h.1.here hs) h.2) fun e s' h=>hE e s' (h.imp fun zz h=>⟨.after BK h.1,h.2⟩)
theorem Run.go{Wy:Shared}(BK:After cY uK env outer Rk Wy s fr H)(hs:Here cY uK n A env outer ow Rk s fr H)(h:Run cY uK w n env outer ow fr H t P X){C:α→Shared→Prop}(k:∀a s₁ gu Dw,After cY uK env outer Rk Wy s₁ gu Dw→Here cY uK n A env outer ow Rk s₁ gu Dw→P a gu Dw→C a s₁):
  wpAny (model Hd.pw w) A t C (Px cY uK env outer ow Rk X Wy) s:=h.Gh BK hs (fun zz zz z=>z) k
theorem Run.end{Wy:Shared}(BK:After cY uK env outer Rk Wy s fr H)(hs:Here cY uK n A env outer ow Rk s fr H)(h:Run cY uK w n env outer ow fr H t P X):
  wpAny (model Hd.pw w) A t (Po cY uK env outer Rk P Wy) (Px cY uK env outer ow Rk X Wy) s:=h.go BK hs fun zz zz gu Dw Wp zz k=>⟨gu,Dw,Wp,k⟩
theorem Run.pure{a:α}(h:P a fr H):Run cY uK w n env outer ow fr H (pure a) P X:=fun zz zz zz hs=>wpAny_pure ⟨fr,H,.refl hs,h⟩
theorem Run.bind{f:α→Sem β}{Q:β→dD→AH→Prop}(h:Run cY uK w n env outer ow fr H t (fun a ve H'=>Run cY uK w n env outer ow ve H' (f a) Q X) X):Run cY uK w n env outer ow fr H (t >>= f) Q X:=
 fun zz zz zz hs=>wpAny_bind (h.go (.refl hs) hs fun zz zz zz zz Wp wi k=>k.end Wp wi)
theorem Run.at{pos:Pos}{P:Unit→dD→AH→Prop}(h:P () fr H):Run cY uK w n env outer ow fr H (standAt pos) P X:=fun zz zz zz hs=>wpAny_standAt ⟨fr,H,.refl hs,h⟩
theorem Run.point{P:Unit→dD→AH→Prop}(h:P () fr H):Run cY uK w n env outer ow fr H point P X:=fun zz zz zz hs=>wpAny_point ⟨fr,H,.refl hs,h⟩
theorem Run.rule{tag:String}{P:Unit→dD→AH→Prop}(h:P () fr H):Run cY uK w n env outer ow fr H (rule tag) P X:=fun zz zz zz hs=>wpAny_rule ⟨fr,H,.refl hs,h⟩
theorem Run.holding{vs:List Value}(h:Run cY uK w n env outer ow fr H t P X):Run cY uK w n env outer ow fr H (holding vs t) P X:=fun A Rk s hs=>wpAny_holding (h A Rk s hs)
theorem Run.operate{vs:List Value}{t:Sem Value}{P:Value→dD→AH→Prop}(h:Run cY uK w n env outer ow fr H t P X):Run cY uK w n env outer ow fr H (operate vs t) P X:=fun A Rk s hs Γ p hΓ=>by rw[Sem.wp_operate];exact h A Rk s hs Γ p hΓ
theorem Run.ite{c:Prop} [Decidable c]{a b:Sem α}(h:if c then Run cY uK w n env outer ow fr H a P X else Run cY uK w n env outer ow fr H b P X):Run cY uK w n env outer ow fr H (if c then a else b) P X:=by
 by_cases q:c
 ·rw[if_pos q]at h⊢;exact h
 ·rw[if_neg q]at h⊢;exact h
@[reducible]noncomputable def PE(d:Data):Prop:=d.ctorIdx<3
theorem PE.ne{d d':Data}(h:PE d)(h':3≤d'.ctorIdx):d≠d':=fun e=>Nat.not_lt.mpr h' (e▸h)
theorem PE.nf{d:Data}{vs:Array Value}(h:PE d):d≠ .fields vs:=h.ne (J1O rfl)
theorem PE.nc{d:Data}{v:Option Value}(h:PE d):d≠ .cell v:=h.ne (J1O rfl)
theorem PE.nd{d:Data}{es:Array DictEntry}{n:Nat}(h:PE d):d≠ .dict es n:=h.ne (J1O rfl)
theorem Bn:0<3:=Nat.zero_lt_succ 2
theorem Bo:2<3:=K7i 2
theorem PE.seq{d:Data}{xs:Array Value}(r:∃n,d= .seq xs n):PE d:=r.elim fun zz e=>e▸Bo
theorem i9.obj{h:Heap}{a:Addr}{o:AO}(r:i9 h a o):∃ob,h.get? a=some ob∧PE ob.data:=by
 have q {T:Value} {vs:List Value} (r:∃xs n sl,h.get? a=some ⟨T,none,.seq xs n,sl⟩∧xs.toList.map er=vs):∃ob,h.get? a=some ob∧PE ob.data:=
  r.elim fun xs r=>r.elim fun n r=>r.elim fun zz r=>⟨_,r.1,Bo⟩
 cases o with
 |bare C=>exact r.elim fun zz r=>⟨_,r,Bn⟩
 |inst C d fs=>exact r.1.elim fun zz r=>⟨_,r,Bn⟩
 |Ab vs=>exact r.elim fun xs r=>r.1.imp fun o r=>⟨r.1,.seq r.2.2⟩
 |lst vs|tup vs|OS vs=>exact q r
theorem i9.lift{h h':Heap}{a:Addr}{o:AO}(r:i9 h a o)(ka:∀ob,h.get? a=some ob→PE ob.data→∃sl,h'.get? a=some {ob with slots:=sl})
  (kd:∀C d fs,o= .inst C d fs→∀ob,h.get? d=some ob→(∀vs,ob.data≠ .fields vs)→∃sl,h'.get? d=some {ob with slots:=sl}):i9 h' a o:=by
 have q {T:Value} {vs:List Value} (r:∃xs n sl,h.get? a=some ⟨T,none,.seq xs n,sl⟩∧xs.toList.map er=vs):∃xs n sl,h'.get? a=some ⟨T,none,.seq xs n,sl⟩∧xs.toList.map er=vs:=
  r.imp fun xs r=>r.imp fun n r=>r.elim fun zz r=>(ka _ r.1 (Bo)).imp fun zz k=>⟨k,r.2⟩
 cases o with
 |bare C=>exact r.elim fun zz r=>ka _ r Bn
 |inst C d fs=>exact⟨r.1.elim fun zz r=>ka _ r Bn,r.2.imp fun es r=>r.imp fun n r=>r.elim fun zz r=>(kd _ _ _ rfl _ r.1 fun zz q=>nomatch q).imp fun zz k=>⟨k,r.2⟩⟩
 |Ab vs=>exact r.imp fun xs r=>⟨r.1.elim fun o r=>(ka o r.1 (.seq r.2.2)).elim fun zz k=>⟨_,k,r.2⟩,r.2⟩
 |lst vs|tup vs|OS vs=>exact q r
theorem i9.keeps{h h':Heap}(k:∀b o,h.get? b=some o→h'.get? b=some o){a:Addr}{o:AO}(r:i9 h a o):i9 h' a o:=
 r.lift (fun ob e zz=>⟨ob.slots,k _ _ e⟩) fun zz zz zz zz ob e zz=>⟨ob.slots,k _ _ e⟩
theorem Inv.keeps{l:List Env}{s':Shared}(x:Inv cY uK Rk l s H)(k:∀b o,s.heap.get? b=some o→s'.heap.get? b=some o)(hg:s'.gens=s.gens)(ho:s'.os=s.os):Inv cY uK Rk l s' H:=
 ⟨fun b o e=>k b o (x.stays b o e),x.base,fun a o e=>(x.rep a o e).keeps k,x.own,x.sep,x.lY.of_keeps fun b o e zz=>⟨o,k b o e,rfl⟩,x.dY,hg.trans x.gens,ho.trans x.os⟩
theorem Locals.keeps{h h':Heap}(x:Locals env h fr)(k:∀b o,h.get? b=some o→h'.get? b=some o):Locals env h' fr:=x.lift (fun zz a=>a.keeps k) fun zz zz d zz=>d.keeps k
theorem After.keeps{s':Shared}(hs:Here cY uK n A env outer ow Rk s fr H)(k:∀b o,s.heap.get? b=some o→s'.heap.get? b=some o)(hg:s'.gens=s.gens)(ho:s'.os=s.os):After cY uK env outer Rk s s' fr H:=
 ⟨hs.inv.keeps k hg ho,hs.loc.keeps k,.of_keeps k⟩
theorem After.tok(hs:Here cY uK n A env outer ow Rk s fr H)(tk:Nat):After cY uK env outer Rk s {s with toks:=tk} fr H:=.keeps hs (fun zz zz e=>e) rfl rfl
theorem rX{P:Value→dD→AH→Prop}(ok:CL env){i:Nat}{v:Value}{x:Str}{pos:Pos}{k:NameKind}(hx:env.scope.names[i]? =some (x,k))(hv:fr[i]? =some (some v))(hd:(x==("__debug__":Str))=false)
  (h:∀v',er v'=v→P v' fr H):Run cY uK w n env outer ow fr H (eval (.Name x pos) env) P X:=fun A Rk s hs=>by
 refine wpAny_Name (hs.loc.elim fun m l=>(l.2 i v hv).elim fun y z=>z.elim (fun z=>?_) fun z=>?_) hd
 ·cases hx.symm.trans z.1;exact z.2.elim fun v' z=>wpAny_loadName_local ok.kind (ok.kindOf hx) l.1 z.1 ⟨fr,H,.refl hs,h _ z.2⟩
 ·cases hx.symm.trans z.1;exact z.2.elim fun c z=>z.elim fun v' z=>wpAny_loadName_cell ok.kind (ok.kindOf hx) z.1 z.2.1 ⟨fr,H,.refl hs,h _ z.2.2.1⟩
end
end
section
section
variable{cY:Heap}{uK:OsState}{w:World}
variable{α β:Type}{n:Nat}{env:Env}{outer:List Env}{fr:dD}{H:AH}{A:Around}{Rk:Heap}{s:Shared}
theorem i9.slots{h h':Heap}(k:h.UpToSlots h'){a:Addr}{o:AO}(r:i9 h a o):i9 h' a o:=r.lift (fun zz e d=>k _ _ e fun zz=>d.nf) fun zz zz zz zz zz e d=>k _ _ e d
theorem Inv.slots{l l':List Env}{h':Heap}(x:Inv cY uK Rk l s H)(u:s.heap.UpToSlots h')(st:Rk.StaysIn h')(f:h'.FunFrames Rk l')(fo:∀L,isFrame l' L→¬og H L):Inv cY uK Rk l' {s with heap:=h'} H:=
 ⟨st,x.base,fun a o e=>(x.rep a o e).slots u,x.own,x.sep,f,fo,x.gens,x.os⟩
theorem K9{l:List Env}(x:Inv cY uK Rk l s H){a:Addr}(h:og H a):∃o,s.heap.get? a=some o∧(∀v,o.data≠ .cell v):=
 h.elim (fun h=>h.elim fun o h=>(x.rep a o h.1).obj.imp fun zz z=>⟨z.1,fun zz=>z.2.nc⟩) fun h=>h.elim fun b h=>h.elim fun zz h=>h.elim fun zz h=>(x.rep b _ h).2.elim fun zz r=>r.elim fun zz r=>r.elim fun zz r=>⟨_,r.1,fun zz q=>nomatch q⟩
theorem MI{α:Type}{o:α}{G:Prop}(h:some o=none):G:=nomatch h
theorem Inv.tail{l:List Env}(x:Inv cY uK Rk (env::l) s H):Inv cY uK Rk l s H:=
 ⟨x.stays,x.base,x.rep,x.own,x.sep,x.lY.2.2,fun L f=>x.dY L f.up,x.gens,x.os⟩
noncomputable def vE(h:Heap)(H:AH)(l:List Env):Heap:=Hn h fun a=>og H a∨isFrame l a
theorem Yp{l:List Env}{L:Addr}(x:Inv cY uK Rk l s H)(f:isFrame l L):Rk.get? L=none:=(f.mem x.lY).1
theorem lZ{l:List Env}{b:Addr}{o:Obj}(e:s.heap.get? b=some o)(h:¬(og H b∨isFrame l b)):(vE s.heap H l).get? b=some o:=(Dx h).trans e
theorem Rf{l:List Env}(x:Inv cY uK Rk l s H):Rk.StaysIn (vE s.heap H l):=fun b o e=>lZ (x.stays b o e) fun q=>MI (e.symm.trans (q.elim (x.own b) (Yp x)))
theorem vg{P P' h:Heap}{l:List Env}:h.FunFrames P l→(∀L,isFrame l L→P'.get? L=none)→h.FunFrames P' l:=by
 induction l with
 |nil=>exact fun zz zz=>trivial
 |cons env l ih=>exact fun x q=>⟨x.1,x.2.1.imp fun L z=>z.imp fun o z=>⟨z.1,q L ⟨env,.head _,z.1⟩,z.2.2⟩,ih x.2.2 fun L f=>q L f.up⟩
theorem OH{l:List Env}(x:Inv cY uK Rk l s H):Inv cY uK (vE s.heap H l) l s H:=
 ⟨fun zz zz e=>(k7 e).2,fun b o e=>Rf x b o (x.base b o e),x.rep,fun zz q=>CY (.inl q),x.sep,vg x.lY fun zz f=>CY (.inr f),x.dY,x.gens,x.os⟩
theorem AI{P:Heap}{l l':List Env}{s':Shared}{H':AH}(x:Inv cY uK Rk l' s H)(sub:Rk.StaysIn P)(y:Inv cY uK P l s' H'):Inv cY uK Rk l s' H':=
 have low:∀a,P.get? a=none→Rk.get? a=none:=fun a q=>by
  cases e:Rk.get? a with
  |none=>rfl
  |some o=>exact MI ((sub a o e).symm.trans q)
 ⟨fun b o e=>y.stays b o (sub b o e),x.base,y.rep,fun a q=>low a (y.own a q),y.sep,vg y.lY fun L f=>low L (Yp y f),y.dY,y.gens,y.os⟩
theorem yd{l:List Env}{s':Shared}{H':AH}(x:Inv cY uK Rk l s H)(y:Inv cY uK (vE s.heap H l) l s' H'):Inv cY uK Rk l s' H':=AI x (Rf x) y
theorem bQ{env:Env}{outer:List Env}:isFrame (vf env::outer) env.locals:=⟨_,.head _,rfl⟩
theorem gY{ow:List Env}(hk:vm env outer ow)(x:Inv cY uK Rk (vf env::outer) s H):Inv cY uK Rk ow s H:=
 hk.elim (fun z=>z.1▸iy z.2▸x) fun z=>z▸x.tail
theorem I1{ow:List Env}{h h':Heap}(hk:vm env outer ow)(k:FJ ow h h'):FJ outer h h':=
 hk.elim (fun z=>FJ.tail (env:=env) (z.1▸k)) fun z=>z▸k
structure Kept(cY:Heap)(uK:OsState)(G7:Heap)(ow:List Env)(Z:Addr→Prop)(s s':Shared)(H H':AH):Prop where
 inv:Inv cY uK G7 ow s' H'
 IR:FJ ow s.heap s'.heap
 xj:∀b o,s.heap.get? b=some o→¬og H b→¬isFrame ow b→Z b→G7.get? b=some o
section
variable{G7:Heap}{ow:List Env}{Z:Addr→Prop}{s':Shared}{H':AH}
theorem Kept.up(K:Kept cY uK G7 ow Z s s' H H'){b:Addr}{o:Obj}(e:s.heap.get? b=some o)(h:¬og H b)(z:Z b):∃sl,s'.heap.get? b=some {o with slots:=sl}:=by
 by_cases f:isFrame ow b
 ·exact K.IR b f o e
 ·exact⟨o.slots,K.inv.stays _ _ (K.xj b o e h f z)⟩
theorem Locals.O2(x:Inv cY uK Rk (vf env::outer) s H)(K:Kept cY uK G7 ow Z s s' H H')(hZ:Z env.locals)(hc:∀c u,s.heap.IsCell c u→Z c)(z:Locals env s.heap fr):Locals env s'.heap fr:=
 z.lift (fun m z=>z.elim fun o z=>z.elim fun es z=>z.elim fun ep z=>(K.up z.1 (x.dY _ bQ) hZ).elim fun zz e=>⟨_,es,ep,e,z.2⟩)
  fun c u q zz=>q.elim fun o z=>(K.up z.1 (fun q=>(K9 x q).elim fun o' r=>r.2 _ (Y1l (r.1.symm.trans z.1)▸z.2)) (hc c u q)).elim fun zz e=>⟨_,e,z.2⟩
theorem KH(hk:vm env outer ow)(ap:¬isFrame outer env.locals)(x:Inv cY uK Rk (vf env::outer) s H)(sub:Rk.StaysIn G7)(K:Kept cY uK G7 ow Z s s' H H')(hZ:Z env.locals):Inv cY uK Rk (vf env::outer) s' H':=by
 have z:=AI x sub K.inv;refine hk.elim (fun k=>(iy k.2).symm▸k.1▸z) fun k=>?_;subst k;have st {L:Addr} {o:Obj} (f:(vf env).frame=some L) (e:s.heap.get? L=some o):G7.get? L=some o:=K.xj L o e (x.dY L ⟨_,.head _,f⟩) (Y1l f▸ap) (Y1l f▸hZ);exact⟨z.stays,z.base,z.rep,z.own,z.sep,⟨x.lY.1,x.lY.2.1.imp fun L f=>f.imp fun o f=>⟨f.1,f.2.1,K.inv.stays _ _ (st f.1 f.2.2.1),f.2.2.2⟩,z.lY⟩,fun L f q=>f.elim fun e f=>(List.mem_cons.mp f.1).elim
  (fun r=>x.lY.2.1.elim fun L' g=>g.elim fun o g=>MI ((st g.1 g.2.2.1).symm.trans (Y1l ((r▸f.2).symm.trans g.1)▸K.inv.own L q))) fun he=>z.dY L ⟨e,he,f.2⟩ q,z.gens,z.os⟩
variable(hk:vm env outer ow)(ap:¬isFrame outer env.locals)(x:Inv cY uK Rk (vf env::outer) s H)(y:Inv cY uK (vE s.heap H ow) ow s' H')(k:FJ ow s.heap s'.heap)
include y k in
theorem KP:Kept cY uK (vE s.heap H ow) ow (fun zz=>True) s s' H H':=⟨y,k,fun zz zz e h f zz=>lZ e fun q=>q.elim h f⟩
include x y k in
theorem Locals.back(z:Locals env s.heap fr):Locals env s'.heap fr:=z.O2 x (KP y k) trivial fun zz zz zz=>trivial
include hk ap x y k in
theorem Rz:Inv cY uK Rk (vf env::outer) s' H':=KH hk ap x (Rf (gY hk x)) (KP y k) trivial
end
theorem nA{ow:List Env}{f:Value}{vs args:List Value}{Q:Value→AH→Prop}{X:AH→Prop}(h:T2 cY uK w n f args H Q X)(hv:vs.map er=args):
  Run cY uK w n env outer ow fr H (call f vs) (fun v ve H'=>ve=fr∧Q (er v) H') X:=fun A Rk s hs=>by
 refine wpAny_call (codeAny_mono (h A s ow _ hs.room hs.lY hs.hd (OH (gY hs.ow hs.inv)) vs hv) fun r s' z=>?_);rcases r with e|(v|_|_|_)<;>first|exact z.elim|skip
 ·exact z.imp fun H' z=>⟨⟨Rz hs.ow hs.apart hs.inv z.1 z.2.1,I1 hs.ow z.2.1,.inr (.inl (z.2.2.1.imp fun x c=>c.imp fun a0 c=>⟨c.1,flyingW_base (Rf (gY hs.ow hs.inv)) c.2⟩)),
   (Locals.back hs.inv z.1 z.2.1 hs.loc).imp fun zz m=>m.1⟩,z.2.2.2⟩
 ·exact z.elim fun H' z=>⟨fr,H',⟨Rz hs.ow hs.apart hs.inv z.1 z.2.1,Locals.back hs.inv z.1 z.2.1 hs.loc,I1 hs.ow z.2.1⟩,rfl,z.2.2⟩
noncomputable def Zv:Flow→Value
 | .ret v=>v
 |_=>.none
noncomputable def Qp(a:Arguments):Bool:=a.posonlyargs.isEmpty&&a.vararg.isNone&&a.kwonlyargs.isEmpty&&a.kw_defaults.isEmpty&&a.kwarg.isNone&&a.defaults.isEmpty&&decide ((a.args.map (·.arg)).Nodup)
theorem Iv{n:Str}:∀{ns:List Str}{vs:List Value},ns.length=vs.length→n∈ns→((ns.zip vs).lookup n).isSome=true
 | [],_,_,h=>by cases h
 |x::ns,[],h,_=>by cases h
 |x::ns,v::vs,h,hm=>by
  rw[List.zip_cons_cons,List.lookup_cons]
  by_cases q:n=x
  ·subst q;simp
  ·rw[show(n==x)=false from beq_false_of_ne q];exact Iv (by simpa using h) ((List.mem_cons.mp hm).resolve_left q)
theorem Yn:∀{ns:List Str}{vs:List Value}(pre:List (Str×Value)),ns.length=vs.length→ns.Nodup→(∀n∈ns,pre.lookup n=none)→ns.filterMap (fun n=>((pre++ns.zip vs).lookup n).map (n, ·))=ns.zip vs
 | [],_,_,_,_,_=>by simp
 |x::ns,[],_,h,_,_=>by cases h
 |x::ns,v::vs,pre,h,hn,hp=>by
  have hx:(pre++(x::ns).zip (v::vs)).lookup x=some v:=by rw[List.zip_cons_cons,List.lookup_append,hp x (.head _)];simp
  have YF:=List.nodup_cons.mp hn;rw[List.filterMap_cons,hx];show(x,v)::_=_;rw[List.zip_cons_cons]
  congr 1
  have e:pre++(x,v)::ns.zip vs=(pre++[(x,v)])++ns.zip vs:=by simp
  rw[e];refine Yn _ (by simpa using h) YF.2 fun m hm=>?_;rw[List.lookup_append,hp m (.tail _ hm)];have:m≠x:=fun q=>YF.1 (q▸hm);simp[List.lookup_cons,beq_false_of_ne this]
theorem WT{α β γ:Type}{l:List α}{b:β}{f:α→β→Sem (ForInStep β)}{k:β→Sem γ}{r:Sem γ}(h:l= [])(g:k b=r):(forIn l b f >>= k)=r:=by subst h;exact g
theorem oJ{fd:FuncData}{vs:List Value}(hp:Qp fd.params=true)(hd:fd.defaults= .none)(hl:vs.length=fd.params.args.length):
  bindArgs fd ⟨vs,[]⟩=pure ((fd.params.args.map (·.arg)).zip vs):=by
 cases fd with|mk b1 b2 pr b4 b5 b6 b7 df b9=>?_
 cases pr with|mk po as va ko kd kw dl=>?_
 simp only[Qp,Bool.and_eq_true,List.isEmpty_iff,Option.isNone_iff_eq_none,decide_eq_true_eq]at hp;obtain⟨⟨⟨⟨⟨⟨rfl,rfl⟩,rfl⟩,rfl⟩,rfl⟩,rfl⟩,hn⟩:=hp;cases(hd:df= .none);have jC:(as.map (·.arg)).length=vs.length:=(List.length_map _).trans hl.symm;have e1:¬(decide (vs.length>(as.map (·.arg)).length)&&true)=true:=by rw[decide_eq_false (Nat.not_lt.mpr (Nat.le_of_eq jC.symm))];decide
 have e2:¬(!(List.filter (fun n=>(List.lookup n ((as.map (·.arg)).zip vs)).isNone) (List.take ((as.map (·.arg)).length-(List.drop (([]:List Value).length-(as.map (·.arg)).length) ([]:List Value)).length) (as.map (·.arg)))).isEmpty)=true:=by
  rw[show(List.filter _ _).isEmpty=true from List.isEmpty_iff.mpr (List.filter_eq_nil_iff.mpr fun n hm h=>by have:=Iv jC (List.mem_of_mem_take hm);rw[Option.isNone_iff_eq_none.mp h]at this;cases this)]
  decide
 refine(if_neg e1).trans ((if_neg e2).trans (WT ((R6T (List.zip _) List.drop_nil).trans List.zip_nil_right) ?_));have e3:=Yn [] jC hn (fun zz zz=>rfl);refine Eq.trans (b:=pure (List.filterMap (fun n=>Option.map (fun x=>(n,x)) (List.lookup n ((as.map (·.arg)).zip vs))) (as.map (·.arg)++[]))) rfl ?_;rw[List.append_nil];exact R6T pure e3
theorem Inv.get{l:List Env}(x:Inv cY uK Rk l s H){a:Addr}{o:Obj}(e:cY.get? a=some o):s.heap.get? a=some o:=x.stays a o (x.base a o e)
theorem Inv.K{l:List Env}(x:Inv cY uK Rk l s H)(b:AG cY w):(Hd.KF w.params).In s.heap:=fun a o e=>x.get (b.X a o e)
theorem Inv.top{l:List Env}(x:Inv cY uK Rk l s H)(b:AG cY w):∃mg mb,TopRead Hd.qv Hd.loose mg mb s.heap:=let⟨mg,mb,T⟩:=b.T;⟨mg,mb,T.keeps fun zz zz e=>x.get e⟩
noncomputable def By(fd:FuncData):Bool:=Qp fd.params&&decide (fd.defaults= .none)&&Wo fd.scope&& !fd.scope.isCoroutine&& !fd.scope.isGenerator&&fd.closure.isEmpty&&decide (fd.globals=mainGlobals)&&decide (fd.builtins=builtinsNs)&&
 decide ((fd.scope.names.take fd.params.args.length).map (·.1)=fd.params.args.map (·.arg))&&(fd.scope.names.take fd.params.args.length).all (fun x=>decide (x.2= .local) || decide (x.2= .cell))
noncomputable def CQ(sc:Scope)(args:List Value):dD:=args.map some++List.replicate (sc.names.length-args.length) none
theorem Hk{x:Str}:∀{l:List (Str×NameKind)}{n:Nat}{acc:List (Str×Addr)},(x,NameKind.cell)∈l∨(acc.lookup x).isSome=true→((cellsFrom n l acc).lookup x).isSome=true
 | [],_,_,h=>by rcases h with h|h;cases h;exact h
 |(y,k)::l,n,acc,h=>by
  unfold cellsFrom
  by_cases q:(k== .cell)=true
  ·rw[if_pos q];refine Hk ?_
   by_cases e:x=y
   ·right;rw[List.lookup_cons,show(x==y)=true from beq_iff_eq.mpr e];rfl
   ·rcases h with h|h
    ·rcases List.mem_cons.mp h with h|h
     ·cases h;exact absurd rfl e
     ·exact .inl h
    ·right;rw[List.lookup_cons,show(x==y)=false from beq_false_of_ne e];exact h
  ·rw[if_neg q];refine Hk ?_;rcases h with h|h
   ·rcases List.mem_cons.mp h with h|h
    ·cases h;exact absurd rfl q
    ·exact .inl h
   ·exact .inr h
theorem mA{ko:Str→Option NameKind}{x:Str}{v:Value}:∀{binds:List (Str×Value)}{m:Str→Option Value},(binds.map (·.1)).Nodup→(x,v)∈binds→ko x=some .local→bindL ko binds m x=some v:=by
 have away:∀{binds:List (Str×Value)}{m:Str→Option Value},x∉binds.map (·.1)→bindL ko binds m x=m x:=by
  intro binds
  induction binds with
  |nil=>intro m _;rfl
  |cons p r ih=>
   obtain⟨y,u⟩:=p;intro m h;have h':x≠y∧x∉r.map (·.1):=by have q:x∉y::r.map (·.1):=h;simpa[not_or]using q
   unfold bindL;rw[ih h'.2]
   split
   ·exact if_neg h'.1
   ·rfl
 intro binds
 induction binds with
 |nil=>intro m _ h;cases h
 |cons p r ih=>
  obtain⟨y,u⟩:=p;intro m hn h hk;have YF:=List.nodup_cons.mp (show(y::r.map (·.1)).Nodup from hn);unfold bindL;rcases List.mem_cons.mp h with e|h
  ·cases e;rw[away YF.1,if_pos hk];exact if_pos rfl
  ·exact ih YF.2 h hk
theorem Kq{ko:Str→Option NameKind}{x:Str}{v:Value}:∀{binds:List (Str×Value)}{m:Str→Option Value},(binds.map (·.1)).Nodup→(x,v)∈binds→ko x≠some .local→bindC ko binds m x=some v:=by
 have away:∀{binds:List (Str×Value)}{m:Str→Option Value},x∉binds.map (·.1)→bindC ko binds m x=m x:=by
  intro binds
  induction binds with
  |nil=>intro m _;rfl
  |cons p r ih=>
   obtain⟨y,u⟩:=p;intro m h;have h':x≠y∧x∉r.map (·.1):=by have q:x∉y::r.map (·.1):=h;simpa[not_or]using q
   unfold bindC;rw[ih h'.2]
   split
   ·rfl
   ·exact if_neg h'.1
 intro binds
 induction binds with
 |nil=>intro m _ h;cases h
 |cons p r ih=>
  obtain⟨y,u⟩:=p;intro m hn h hk;have YF:=List.nodup_cons.mp (show(y::r.map (·.1)).Nodup from hn);unfold bindC;rcases List.mem_cons.mp h with e|h
  ·cases e;rw[away YF.1,if_neg hk];exact if_pos rfl
  ·exact ih YF.2 h hk
theorem Cm{env:Env}{outer:List Env}{e:Value}{Wy s':Shared}{H:AH}{R:Result→Shared→Prop}(tZ:env.frame=some env.locals)(N3:A.frames=some (env::outer))(x:xe cY uK env outer (env::outer) Rk Wy s' e H)
  (k:∀h',Inv cY uK Rk outer {s' with heap:=h'} H→FJ outer Wy.heap h'→yB Rk outer e h'→R (.error e) {s' with heap:=h'}):
  wpAny (model Hd.pw w) A (leaving env e) (fun zz MF=>R (.error e) MF) (fun e' MF=>R (.error e') MF) s':=by
 have fo:∀L,isFrame outer L→¬og H L:=x.inv.tail.dY;have fin:∀a a0 h',e= .ref a→Heap.FlyingW Rk outer a (.ref Hd.s5) a0 h'→s'.heap.UpToSlots h'→R (.error e) {s' with heap:=h'}:=fun a a0 h' he fl u=>
  k h' (x.inv.slots u fl.1 fl.2.2.1 fo) (x.keep.trans (.of_slots x.inv.tail.lY u)) ⟨a,a0,he,fl⟩
 rcases x.exc with⟨a,h,rfl,m,st,ff⟩|⟨a,a0,rfl,fl⟩|⟨a,a0,rfl,hd⟩
 ·obtain⟨oe,vs,a0,he,hc,hd,h1,h0⟩:=m.there;have ON:Rk.get? a=none:=by
   cases hq:Rk.get? a with
   |none=>rfl
   |some o'=>have:=st a o' hq;rw[m.new]at this;cases this
  refine wpAny_leaving_firstW N3 (ff.of_keeps fun b o hb zz=>⟨o,m.keeps b o hb,rfl⟩) tZ he (fun b o hb=>m.keeps b o (st b o hb)) ON hd h1 h0 fun h' hL=>?_;rw[hc]at hL;obtain⟨k1,⟨_,_,k2⟩,k3,k4⟩:=hL;exact fin a a0 h' rfl ⟨k1,ON,k2,k3⟩ k4
 ·exact wpAny_leaves_onW N3 tZ fl fun h' fl u=>fin a a0 h' rfl fl u
 ·unfold leaving;refine wpAny_bind (wpAny_noteFrame_againW tZ hd.2.2.2 ?_);refine wpAny_landsW hd fun h' fl u=>?_;obtain⟨k1,k2,⟨_,_,k3⟩,k4⟩:=fl;exact fin a a0 h' rfl ⟨k1,k2,k3,k4⟩ u
theorem X7{f:Addr}{fd:FuncData}{oc:Value}{od:Option Addr}{sl:Array (Option Value)}{body:List Stmt}{args:List Value}{Q:Value→AH→Prop}{X:AH→Prop}
  (hK:(Hd.KF w.params).lookup f=some ⟨oc,od,.func fd,sl⟩) (hc:codeIn (Hd.KF w.params) fd.code fd.qualname=true) (ok:By fd=true) (hb:fd.body= .stmts body) (base:AG cY w)
  (hl:args.length=fd.params.args.length)
  (h:∀env outer,CL env→env.scope=fd.scope→env.frame=some env.locals→Run cY uK w n env outer (env::outer) (CQ fd.scope args) H (execs body env) (fun fl zz H'=>Q (er (Zv fl)) H') X):T2 cY uK w (n+1) (.ref f) args H Q X:=by
 simp only[By,Bool.and_eq_true,decide_eq_true_eq,Bool.not_eq_true',List.isEmpty_iff]at ok;obtain⟨⟨⟨⟨⟨⟨⟨⟨⟨p1,p2⟩,p3⟩,p4⟩,p5⟩,p6⟩,p7⟩,p8⟩,p9⟩,m7⟩:=ok;intro A s outer Rk hr hf hh hi vs hv;have kG:vs.length=fd.params.args.length:=by rw[←hl, ←hv,List.length_map]
 obtain⟨mg,mb,T⟩:=hi.top base;have FA:∀x∈(fd.params.args.map (·.arg)).zip vs,∃k,(x.1,k)∈fd.scope.names∧(k= .local∨k= .cell):=fun x hx=>by have:x.1∈fd.params.args.map (·.arg):=(List.of_mem_zip (a:=x.1) (b:=x.2) hx).1;rw[←p9]at this;obtain⟨⟨y,k⟩,hm,rfl⟩:=List.mem_map.mp this;have q:=List.all_eq_true.mp m7 _ hm;simp only[Bool.or_eq_true,decide_eq_true_eq]at q;exact⟨k,List.mem_of_mem_take hm,q⟩
 have MW:CL (callEnvC fd s.heap.objs.size f):=⟨p3,p7,p8⟩;have lk:∀{x:Str}{k:NameKind},(x,k)∈fd.scope.names→fd.scope.names.lookup x=some k:=fun hm=>by obtain⟨i,kK,e⟩:=List.getElem_of_mem hm;exact SV (i:=i) MW.nodup (by rw[←e];exact B8Q kK)
 refine codeAny_call_cells (fd:=fd) (body:=body) (by have:=hr.1;lia) (hi.K base _ _ hK) rfl T.nolimit (codeRec_of (hi.K base) hc) hb (oJ p1 p2 kG) p6 (fun x hx=>?_) (fun s₁ x=>?_) p4 p5 MW.kind
 ·obtain⟨k,hm,q⟩:=FA x hx;rcases q with rfl|rfl
  ·exact .inl (lk hm)
  ·exact .inr ⟨lk hm,Hk (.inl hm)⟩
 ·obtain⟨wi,tk,rfl⟩:=x.toInCall.same;have kp:=x.toInCall.keep;obtain⟨oL,es,ep,hL,hLd,_⟩:=x.toInCall.ns;have st:s.heap.objs.size=(callEnvC fd s.heap.objs.size f).locals:=rfl;have lo:∀a o,s.heap.get? a=some o→a≠s.heap.objs.size:=fun a o e=>Nat.ne_of_lt (Heap.lt_size e);have iv:Inv cY uK Rk outer {s with heap:=wi,toks:=tk} H:=hi.keeps kp rfl rfl;have hPL:Rk.get? s.heap.objs.size=none:=hi.stays.fresh;have iv':Inv cY uK Rk (callEnvC fd s.heap.objs.size f::outer) {s with heap:=wi,toks:=tk} H:=by
   refine⟨iv.stays,iv.base,iv.rep,iv.own,iv.sep,⟨by rw[show(callEnvC fd s.heap.objs.size f).scope.kind= .function from MW.kind];decide,⟨_,oL,rfl,hPL,hL,fun ws q=>by rw[hLd]at q;cases q⟩,iv.lY⟩,?_,iv.gens,iv.os⟩;rintro L ⟨env,he,fl⟩ q;rcases List.mem_cons.mp he with rfl|he
   ·cases fl;obtain⟨o,e,_⟩:=K9 hi q;exact lo _ _ e rfl
   ·exact iv.dY L ⟨env,he,fl⟩ q
  have loc:Locals (callEnvC fd s.heap.objs.size f) wi (CQ fd.scope args):=by
   refine⟨_,x.toInCall.ns,fun i v e=>?_⟩;have kK:i<args.length∧args[i]? =some v:=by
    unfold CQ at e
    by_cases q:i<args.length
    ·rw[List.getElem?_append_left (by simpa using q)]at e;simpa[q]using e
    ·rw[List.getElem?_append_right (by simpa using q)]at e;simp[List.getElem?_replicate]at e
   obtain⟨hi1,hi2⟩:=kK;have QW:i<vs.length:=by rw[kG, ←hl];exact hi1
   have ai:(fd.params.args.map (·.arg))[i]? =some ((fd.params.args.map (·.arg))[i]'(by simp;lia)):=B8Q _;obtain⟨xn,Ky⟩:∃xn,(fd.params.args.map (·.arg))[i]? =some xn:=⟨_,ai⟩;have hz:(xn,vs[i])∈(fd.params.args.map (·.arg)).zip vs:=by refine C3D (i:=i) ?_;rw[List.getElem?_zip_eq_some];exact⟨Ky,B8Q QW⟩
   have XF:er vs[i]=v:=by
    have:(vs.map er)[i]? =some v:=by rw[hv];exact hi2
    simpa[QW]using this
   have zM:∃k,fd.scope.names[i]? =some (xn,k)∧(k= .local∨k= .cell):=by
    rw[←p9]at Ky;rw[List.getElem?_map,Option.map_eq_some_iff]at Ky;obtain⟨⟨y,k⟩,e1,rfl⟩:=Ky;have q:=List.all_eq_true.mp m7 _ (C3D e1);simp only[Bool.or_eq_true,decide_eq_true_eq]at q;rw[List.getElem?_take]at e1
    split at e1
    ·exact⟨k,e1,q⟩
    ·cases e1
   obtain⟨k,hk,q⟩:=zM;have nd:(((fd.params.args.map (·.arg)).zip vs).map (·.1)).Nodup:=by rw[List.map_fst_zip (by simp;lia)];simp only[Qp,Bool.and_eq_true,decide_eq_true_eq]at p1;exact p1.2
   refine⟨xn,?_⟩;rcases q with rfl|rfl
   ·exact .inl ⟨hk,vs[i],mA nd hz (MW.kindOf hk),XF⟩
   ·have cs:((cellsFrom (s.heap.objs.size+1) fd.scope.names []).lookup xn).isSome=true:=Hk (.inl (C3D hk));obtain⟨c,Yb⟩:=Option.isSome_iff_exists.mp cs;refine .inr ⟨hk,c,vs[i],Yb,?_,XF,fun q=>?_⟩
    ·have:=x.cell xn c Yb;rw[Kq nd hz (by rw[MW.kindOf hk];decide)]at this;exact this
    ·have:=x.above xn c (mem_of_lookup Yb);rw[q]at this;exact Nat.lt_irrefl _ this
  have here:Here cY uK n (A.deeper (callEnvC fd s.heap.objs.size f)) (callEnvC fd s.heap.objs.size f) outer (callEnvC fd s.heap.objs.size f::outer) Rk {s with heap:=wi,toks:=tk} (CQ fd.scope args) H:=
   by
   refine⟨Around.frames_deeper hf,hh,⟨by have:=hr.1;simp only[Around.deeper];lia,by have:=hr.2;simp only[Around.deeper];lia⟩,iv',loc,.inl ⟨rfl,rfl⟩,?_⟩;rintro⟨e,he,fl⟩;obtain⟨_,o',ho',_⟩:=hi.lY.mem (b:=s.heap.objs.size) (List.mem_filterMap.mpr ⟨e,he,fl⟩);exact lo _ _ ho' rfl
  refine wpAny_mono (h _ outer MW rfl rfl _ Rk _ here) (fun fl s'⟨ve,H',a,q⟩=>?_) fun e s'⟨H',a,q⟩=>?_
  ·cases fl<;>exact⟨H',a.inv.tail,(FJ.of_keeps kp).trans a.keep,q⟩
  ·exact Cm (R:=fun r s'=>match r with
    | .ok (.ret v)=>∃H',Inv cY uK Rk outer s' H'∧FJ outer s.heap s'.heap∧Q (er v) H'
    | .ok _=>False
    | .error e=>∃H',Inv cY uK Rk outer s' H'∧FJ outer s.heap s'.heap∧yB Rk outer e s'.heap∧X H') rfl (Around.frames_deeper hf) a fun h' i k f=>⟨H',i,(FJ.of_keeps kp).trans k,f,q⟩
end
end
section
noncomputable def upd(H:AH)(a:Addr)(o:AO):AH:=fun b=>if b=a then some o else H b
theorem Hu{H:AH}{a:Addr}{o:AO}:upd H a o a=some o:=if_pos rfl
theorem CH{H:AH}{a b:Addr}{o:AO}(h:b≠a):upd H a o b=H b:=if_neg h
theorem yK{H:AH}{a b:Addr}{o r:AO}{G:Prop}(h:upd H a o b=some r)(h1:b=a→o=r→G)(h2:H b=some r→G):G:=by
 by_cases q:b=a
 ·exact h1 q (Y1l ((if_pos q).symm.trans h))
 ·exact h2 ((if_neg q).symm.trans h)
theorem og.at{H:AH}{a:Addr}{o:AO}(h:H a=some o):og H a:=.inl ⟨o,h,rfl⟩
theorem QA{H:AH}{a b:Addr}{o:AO}{P:Addr→Prop}(h:og (upd H a o) b)(h1:P a)(h2:∀C d fs,o= .inst C d fs→P d)(h3:og H b→P b):P b:=
 h.elim (fun h=>h.elim fun zz h=>yK h.1 (fun q zz=>q▸h1) fun e=>h3 (.at e)) fun h=>h.elim fun c h=>h.elim fun C h=>h.elim fun fs h=>yK h (fun zz q=>h2 C b fs q) fun e=>h3 (.inr ⟨c,C,fs,e⟩)
structure fX(H:AH)(Rk:Heap)(l:List Env)(a:Addr):Prop where
 new:Rk.get? a=none
 own:¬og H a
 IR:¬isFrame l a
theorem fX.none{H:AH}{Rk:Heap}{l:List Env}{a:Addr}(f:fX H Rk l a):H a= .none:=Option.eq_none_iff_forall_ne_some.mpr fun zz e=>f.own (.at e)
section
variable{cY:Heap}{uK:OsState}{w:World}
variable{α β:Type}{n:Nat}{env:Env}{outer ow:List Env}{fr:dD}{H:AH}{A:Around}{Rk:Heap}{s:Shared}{X:AH→Prop}
theorem Eo{h:Heap}{a:Addr}(q:h.objs.size≤a):h.get? a=none:=Option.eq_none_iff_forall_ne_some.mpr fun zz e=>Nat.not_lt.mpr q (Heap.lt_size e)
theorem u7(h:Heap):h.get? h.objs.size=none:=Eo (g61 _)
theorem Inv.W2{l:List Env}(x:Inv cY uK Rk l s H){a:Addr}(h:s.heap.get? a=none):fX H Rk l a:=
 ⟨Option.eq_none_iff_forall_ne_some.mpr fun o e=>MI ((x.stays a o e).symm.trans h),fun q=>(K9 x q).elim fun zz e=>MI (e.1.symm.trans h),fun f=>(f.mem x.lY).2.elim fun zz e=>MI (e.1.symm.trans h)⟩
theorem Inv.IZ{l:List Env}(x:Inv cY uK Rk l s H):H s.heap.objs.size=none:=(x.W2 (u7 _)).none
theorem Zb{P h h':Heap}{l:List Env}:h.FunFrames P l→(∀L,isFrame l L→∀o,h.get? L=some o→(∀vs,o.data≠ .fields vs)→∃o',h'.get? L=some o'∧∀vs,o'.data≠ .fields vs)→h'.FunFrames P l:=by
 induction l with
 |nil=>exact fun zz zz=>trivial
 |cons env l ih=>exact fun x q=>⟨x.1,x.2.1.imp fun L z=>z.elim fun o z=>(q L ⟨env,.head _,z.1⟩ o z.2.2.1 z.2.2.2).imp fun zz r=>⟨z.1,z.2.1,r⟩,ih x.2.2 fun L f=>q L f.up⟩
theorem Inv.alter{l:List Env}{h':Heap}{tk:Nat}{S:Addr→Prop}(x:Inv cY uK Rk l s H)(hp:∀a,S a→Rk.get? a=none∧¬og H a)(k:∀b o,¬S b→s.heap.get? b=some o→h'.get? b=some o)(ff:h'.FunFrames Rk l):
  Inv cY uK Rk l {s with heap:=h',toks:=tk} H:=
 ⟨fun b o e=>k b o (fun q=>MI (e.symm.trans (hp b q).1)) (x.stays b o e),x.base,fun a o e=>(x.rep a o e).lift (fun ob eb zz=>⟨ob.slots,k a ob (fun q=>(hp a q).2 (.at e)) eb⟩) fun C d fs z ob eb zz=>⟨ob.slots,k d ob (fun q=>(hp d q).2 (.inr ⟨a,C,fs,z▸e⟩)) eb⟩,
  x.own,x.sep,ff,x.dY,x.gens,x.os⟩
theorem Inv.off{l:List Env}{h':Heap}{tk:Nat}{S:Addr→Prop}(x:Inv cY uK Rk l s H)(f:∀a,S a→fX H Rk l a)(k:∀b o,¬S b→s.heap.get? b=some o→h'.get? b=some o):Inv cY uK Rk l {s with heap:=h',toks:=tk} H:=
 x.alter (fun a q=>⟨(f a q).new,(f a q).own⟩) k (Zb x.lY fun L hl o e nf=>⟨o,k L o (fun q=>(f L q).IR hl) e,nf⟩)
theorem After.off{Wy:Shared}{h':Heap}{tk:Nat}{S:Addr→Prop}(x:After cY uK env outer Rk Wy s fr H)(f:∀a,S a→fX H Rk (vf env::outer) a)(nc:∀a,S a→∀v,¬s.heap.IsCell a v)(k:∀b o,¬S b→s.heap.get? b=some o→h'.get? b=some o):
  After cY uK env outer Rk Wy {s with heap:=h',toks:=tk} fr H:=
 ⟨x.inv.off f k,x.loc.lift (fun m z=>z.at' fun o e=>k _ o (fun q=>(f _ q).IR bQ) e) fun c u z zz=>z.imp fun o e=>⟨k c o (fun q=>nc c q u z) e.1,e.2⟩,x.keep.trans fun L hl o e=>⟨o.slots,k L o (fun q=>(f L q).IR hl.up) e⟩⟩
theorem Inv.yZ{l:List Env}{D:Addr}{ao:AO}(x:Inv cY uK Rk l s H)(f:fX H Rk l D)(r:i9 s.heap D ao)(fd:∀C d fs,ao= .inst C d fs→fX H Rk l d):Inv cY uK Rk l s (upd H D ao):=
 ⟨x.stays,x.base,fun a o e=>yK e (fun q e=>q▸e▸r) (x.rep a o),fun a q=>QA (P:=fun a=>Rk.get? a=none) q f.new (fun C d fs e=>(fd C d fs e).new) (x.own a),
  fun a b C C' d fs A6 e e'=>yK e (fun q z=>yK e' (fun q' zz=>q.trans q'.symm) fun e'=>absurd (.inr ⟨b,C',A6,e'⟩) (fd _ _ _ z).own) fun e=>yK e' (fun zz z=>absurd (.inr ⟨a,C,fs,e⟩) (fd _ _ _ z).own) (x.sep a b C C' d fs A6 e),
  x.lY,fun L hl q=>QA (P:=fun a=>¬isFrame l a) q f.IR (fun C d fs e=>(fd C d fs e).IR) (fun q hl=>x.dY L hl q) hl,x.gens,x.os⟩
theorem Inv.adopt{l:List Env}{D:Addr}{ao:AO}(x:Inv cY uK Rk l s H)(f:fX H Rk l D)(r:i9 s.heap D ao)(hd:∀C d fs,ao≠ .inst C d fs):Inv cY uK Rk l s (upd H D ao):=x.yZ f r fun C d fs q=>absurd q (hd C d fs)
theorem Inv.Hi{l:List Env}{L:Addr}{m':Str→Option Value}{h':Heap}{tk:Nat}(x:Inv cY uK Rk l s H)(hl:isFrame l L)(YF:h'.Ns L m')(sb:Heap.SameBut L s.heap h'):Inv cY uK Rk l {s with heap:=h',toks:=tk} H:=
 x.alter (S:=(· =L)) (fun a q=>q▸⟨Yp x hl,x.dY L hl⟩) (fun b o q e=>(sb.2 b q).trans e) (Zb x.lY fun L' zz o e nf=>by
  by_cases q:L'=L
  ·exact q▸YF.elim fun o z=>z.elim fun es z=>z.elim fun ep z=>⟨o,z.1,fun vs q=>nomatch z.2.1.symm.trans q⟩
  ·exact⟨o,(sb.2 L' q).trans e,nf⟩)
theorem qi{L:Addr}{h h':Heap}(sb:Heap.SameBut L h h')(ap:¬isFrame outer L):FJ outer h h':=fun L' f o e=>
 ⟨o.slots,(sb.2 L' fun q=>ap (q▸f)).trans e⟩
theorem VA{α:Type}{l:List α}{i:Nat}{a b:α}(e:(l.set i a)[i]? =some b):some a=some b:=by
 rw[←e,List.getElem?_set_self (by have:=(List.getElem?_eq_some_iff.mp e).1;rwa[List.length_set]at this)]
theorem run_bind{P:Unit→dD→AH→Prop}(ok:CL env){i:Nat}{x:Str}{v:Value}(hx:env.scope.names[i]? =some (x,.local))(h:P () (fr.set i (some (er v))) H):
  Run cY uK w n env outer ow fr H (bindName env x v) P X:=fun A Rk s hs=>by
 refine hs.loc.elim fun m l=>wpAny_bindName (wpAny_storeName_local (ok.kindOf hx) l.1 (fun h' YF sb=>⟨_,H,⟨hs.inv.Hi bQ YF sb,⟨_,YF,fun j u e=>?_⟩,qi sb hs.apart⟩,h⟩) (by rw[ok.kind];rfl))
 by_cases q:j=i
 ·subst q;exact⟨x,.inl ⟨hx,v,if_pos rfl,Y1l (Y1l (VA e))⟩⟩
 ·rw[List.getElem?_set_ne (Ne.symm q)]at e;exact(l.2 j u e).imp fun y z=>z.imp (fun z=>⟨z.1,z.2.imp fun u' b=>⟨(if_neg fun r=>q (Rt ok.nodup (r▸z.1) hx)).trans b.1,b.2⟩⟩) fun z=>⟨z.1,z.2.imp fun c z=>z.imp fun u' z=>⟨z.1,z.2.1.sameBut sb z.2.2.2,z.2.2⟩⟩
theorem Inv.push{l:List Env}(x:Inv cY uK Rk l s H){o:Obj}{ao:AO}(r:i9 (s.heap.push o) s.heap.objs.size ao)(hd:∀C d fs,ao≠ .inst C d fs){tk:Nat}:
  Inv cY uK Rk l {s with heap:=s.heap.push o,toks:=tk} (upd H s.heap.objs.size ao):=(x.keeps (s':={s with heap:=s.heap.push o,toks:=tk}) (fun zz zz e=>Heap.get?_push_of_some _ e) rfl rfl).adopt (x.W2 (u7 _)) r hd
theorem After.push(hs:Here cY uK n A env outer ow Rk s fr H){o:Obj}{ao:AO}(r:i9 (s.heap.push o) s.heap.objs.size ao)(hd:∀C d fs,ao≠ .inst C d fs){tk:Nat}:
  After cY uK env outer Rk s {s with heap:=s.heap.push o,toks:=tk} fr (upd H s.heap.objs.size ao):=
 have k:∀b o',s.heap.get? b=some o'→(s.heap.push o).get? b=some o':=fun b o' e=>Heap.get?_push_of_some _ e
 ⟨hs.inv.push r hd,hs.loc.keeps k,.of_keeps k⟩
theorem G3{P:Value→dD→AH→Prop}{vs:List Value}(hz:vs.length≤sizeLine)(h:∀a,H a=none→P (.ref a) fr (upd H a (.lst (vs.map er)))):Run cY uK w n env outer ow fr H (newList vs) P X:=fun A Rk s hs=>
 wpAny_newList ⟨fr,_,.push (ao:=.lst (vs.map er)) hs ⟨vs.toArray,0, #[],Heap.get?_push_size _ rfl,by simp⟩ (fun zz zz zz q=>by cases q),h _ hs.inv.IZ⟩ hz
theorem M3{P:Value→dD→AH→Prop}{vs:List Value}(hz:vs.length≤sizeLine)(h:∀a,H a=none→P (.ref a) fr (upd H a (.tup (vs.map er)))):Run cY uK w n env outer ow fr H (newTuple vs) P X:=fun A Rk s hs=>
 wpAny_newTuple ⟨fr,_,.push (ao:=.tup (vs.map er)) hs ⟨vs.toArray,0, #[],Heap.get?_push_size _ rfl,by simp⟩ (fun zz zz zz q=>by cases q),h _ hs.inv.IZ⟩ hz
end
end
section
theorem Qi{α:Type}{c:Prop}{_:Decidable c}{x y:Option α}{u:α}{G:Prop}(h:(if c then x else y)=some u)(f:c→x=some u→G)(g:y=some u→G):G:=by
 by_cases q:c
 ·exact f q ((if_pos q).symm.trans h)
 ·exact g ((if_neg q).symm.trans h)
theorem tc{α:Type}{c:Prop}{_:Decidable c}{x:Option α}{u:α}{G:Prop}(h:(if c then x else none)=some u)(f:c→x=some u→G):G:=Qi h f fun h=>MI h.symm
theorem iX{α:Type}{x y:Option α}{u:α}{G:Prop}(h:x.or y=some u)(f:x=some u→G)(g:y=some u→G):G:=by
 cases x with
 |none=>exact g h
 |some v=>exact f h
theorem HH{α β:Type}{x:Option α}{f:α→Option β}{u:β}{G:Prop}(h:x.bind f=some u)(g:∀a,x=some a→f a=some u→G):G:=by
 cases x with
 |none=>cases h
 |some a=>exact g a rfl h
theorem YX{α β:Type}{x:Option α}{f:α→β}{u:β}{G:Prop}(h:x.map f=some u)(g:∀a,x=some a→f a=u→G):G:=by
 cases x with
 |none=>cases h
 |some a=>exact g a rfl (Y1l h)
theorem EQ{α:Type}{c:Prop}{_:Decidable c}{f:c→Option α}{u:α}{G:Prop}(h:(if q:c then f q else none)=some u)(g:∀q,f q=some u→G):G:=by
 by_cases q:c
 ·exact g q ((dif_pos q).symm.trans h)
 ·exact MI (h.symm.trans (dif_neg q))
theorem BQ{α:Type}{x:Option α}{p:α→Bool}{G:Prop}(h:x.any p=true)(g:∀a,x=some a→p a=true→G):G:=by
 cases x with
 |none=>cases h
 |some a=>exact g a rfl h
theorem aI{a b:Bool}{G:Prop}(h:(a&&b)=true)(g:a=true→b=true→G):G:=(Bool.and_eq_true_iff.mp h).elim g
noncomputable def hY(K:Frag)(C:Addr)(n:Str):Bool:=((((plainGet K C n&&hasDictIn K C)&&(findIn K (.ref C) n).any (noGet K))&&(findIn K (.ref C) "__setattr__"==some (some (.builtin "object.__setattr__"))))&&plainOver K C)&&(takerIn K C n).any Option.isNone
noncomputable def Ly:List Addr:=[Hd.Vk,Hd.VE,Hd.ic,Hd.Mg,Hd.y7]
noncomputable def tQ(C:Addr):Bool:=Ly.elem C
theorem qO(P:Params):(Ly.all fun C=>xz.all fun n=>hY (Hd.KF P) C (nm n))=true:=by kernel_rfl
theorem MJ(n:Fn):n∈xz:=by cases n<;>decide
theorem Ii{P:Params}{C:Addr}(n:Fn)(h:tQ C=true):hY (Hd.KF P) C (nm n)=true:=List.all_eq_true.mp (List.all_eq_true.mp (qO P) C (List.mem_of_elem_eq_true h)) n (MJ n)
noncomputable def rv(v:Value):Option Addr:=if h:v.ctorIdx=10 then some (Value.ref.elim (motive:=fun zz=>Addr) v h fun x=>x)else none
theorem TE{v:Value}{x:Addr}(h:rv v=some x):v= .ref x:=
 EQ h fun q e=>Value.ref.elim (motive:=fun v=>∀q:v.ctorIdx=10,some (Value.ref.elim (motive:=fun zz=>Addr) v q fun x=>x)=some x→v= .ref x) v q (fun zz zz e=>R6T Value.ref (Y1l e)) q e
theorem t7{v:Value}{a:Addr}(h:er v= .ref a):v= .ref a:=
 Value.ref.elim (motive:=fun v=>er v= .ref a→v= .ref a) v ((GK v).symm.trans (R6T Value.ctorIdx h)) (fun zz h=>h) h
theorem ub{v:Value}{x:Addr}(h:rv (er v)=some x):v= .ref x:=t7 (TE h)
theorem Fs{a:Value}{β:Type}{f:Addr→Option β}{u:β}{C:Value→Prop}(h:(rv (er a)).bind f=some u)(g:∀x,f x=some u→C (.ref x)):C a:=HH h fun x e h=>(ub e).symm▸g x h
noncomputable def iO{β:Type}(o:Option AO)(k:Addr→Addr→List (Fn×Value)→Option β):Option β:=o.bind fun o=>if h:o.ctorIdx=1 then AO.inst.elim (motive:=fun zz=>Option β) o h k else none
theorem EU{β:Type}{o:Option AO}{k:Addr→Addr→List (Fn×Value)→Option β}{u:β}{G:Prop}(h:iO o k=some u)(g:∀C d fs,o=some (.inst C d fs)→k C d fs=some u→G):G:=
 HH h fun a e h=>EQ h fun q h=>AO.inst.elim (motive:=fun a=>o=some a→∀q:a.ctorIdx=1,AO.inst.elim (motive:=fun zz=>Option β) a q k=some u→G) a q (fun C d fs e zz h=>g C d fs e h) e q h
theorem WZ{u:Value}(h:∀i,u≠ .builtin i):u.ctorIdx≠9:=fun q=>Value.builtin.elim (motive:=fun u=>(∀i,u≠ .builtin i)→False) u q (fun i h=>h i rfl) h
section
variable{cY:Heap}{uK:OsState}{w:World}
variable{α β:Type}{n:Nat}{env:Env}{outer ow:List Env}{fr:dD}{H:AH}{A:Around}{Rk:Heap}{s:Shared}{X:AH→Prop}
noncomputable def Ij(H:AH)(v:Value)(f:Fn):Option Value:=(rv v).bind fun a=>iO (H a) fun C zz fs=>if tQ C=true then(ee f fs).bind fun u=>if u.ctorIdx≠9 then some u else none else none
theorem Fq{P:Value→dD→AH→Prop}(base:AG cY w){ov u:Value}{f:Fn}{b:Bool}(hv:Ij H (er ov) f=some u)(h:∀v',er v'=u→P v' fr H):
  Run cY uK w n env outer ow fr H (getAttr ov (nm f) b) P X:=fun A Rk s hs=>by
 refine Fs (C:=fun ov=>wpAny (model Hd.pw w) A (getAttr ov (nm f) b) _ _ s) hv fun a hv=>EU hv fun C d fs hH hv=>tc hv fun hc hv=>HH hv fun u' hl hv=>tc hv fun nb e=>(hs.inv.rep a _ hH).elim fun r1 r2=>r1.elim fun sl a1=>r2.elim fun es r2=>r2.elim fun k r2=>r2.elim fun F9 r2=>
  aI (Ii (P:=w.params) f hc) fun ok zz=>aI ok fun ok zz=>aI ok fun ok zz=>aI ok fun ok o3=>aI ok fun o1 o2=>BQ o3 fun attr ha o3=>(r2.2.1.get hl).elim fun v' g=>?_
 have K:=hs.inv.K base;exact get_value K (I:=(⟨a1,rfl,rfl,r2.1⟩:InstAt s.heap a _ C (some ⟨.type "dict",none,.dict es.toArray k,F9⟩))) (plainGet_of o1).1 (findObj_own o2 ha o3 g.1) (by cases v'<;>first|rfl|exact absurd (R6T Value.ctorIdx g.2).symm nb) ⟨fr,H,.tok hs _,h _ (g.2.trans (Y1l e))⟩
noncomputable def AV(H:AH)(v:Value)(f:Fn)(u:Value):Option AH:=(rv v).bind fun a=>iO (H a) fun C d fs=>if tQ C=true∧(D7 f u fs).length≤30 then some (upd H a (.inst C d (D7 f u fs)))else none
theorem og.R9{a x:Addr}{S0 o₁:AO}(ha:H a=some S0)(h2:∀C d fs,o₁= .inst C d fs→∃C' A6,S0= .inst C' d A6)(q:og (upd H a o₁) x):og H x:=
 q.elim (fun h=>h.elim fun zz h=>yK h.1 (fun q zz=>q▸ .at ha) fun e=>.at e) fun h=>h.elim fun b h=>h.elim fun C h=>h.elim fun fs h=>yK h (fun zz e=>(h2 C x fs e).elim fun C' k=>k.elim fun A6 k=>.inr ⟨a,C',A6,ha.trans (R6T some k)⟩) fun e=>.inr ⟨b,C,fs,e⟩
section
variable{a d:Addr}{S0 o₁:AO}{h':Heap}{tk:Nat}(sb:Heap.SameBut d s.heap h')(od:og H d)(ha:H a=some S0)(r:i9 h' a o₁)(h2:∀C d fs,o₁= .inst C d fs→∃C' A6,S0= .inst C' d A6)(hb:∀b o,b≠a→H b=some o→b≠d∧∀C d' fs,o= .inst C d' fs→d'≠d)
include sb od ha r h2 hb
theorem Inv.write{l:List Env}(x:Inv cY uK Rk l s H):Inv cY uK Rk l {s with heap:=h',toks:=tk} (upd H a o₁):=
 have key:∀{b C d' fs},upd H a o₁ b=some (.inst C d' fs)→∃C' A6,H b=some (.inst C' d' A6):=fun e=>yK e (fun q e=>(h2 _ _ _ e).imp fun C' k=>k.imp fun A6 k=>q▸ha.trans (R6T some k)) fun e=>⟨_,_,e⟩
 ⟨fun b o e=>(sb.2 b fun q=>MI (e.symm.trans (q▸x.own d od))).trans (x.stays b o e),x.base,fun b o e=>by
  by_cases q:b=a
  ·subst q;exact Y1l (Hu.symm.trans e)▸r
  ·have e:=(CH q).symm.trans e;have z:=hb b o q e;exact(x.rep b o e).lift (fun ob k zz=>⟨ob.slots,(sb.2 b z.1).trans k⟩) fun C d' fs w ob k zz=>⟨ob.slots,(sb.2 d' (z.2 C d' fs w)).trans k⟩,
  fun b q=>x.own b (q.R9 ha h2),fun b c C C' d' fs A6 e e'=>(key e).elim fun zz k=>k.elim fun zz k=>(key e').elim fun zz k'=>k'.elim fun zz k'=>x.sep b c _ _ d' _ _ k k',
  Zb x.lY fun L f o e nf=>⟨o,(sb.2 L fun q=>x.dY L f (q▸od)).trans e,nf⟩,fun L f q=>x.dY L f (q.R9 ha h2),x.gens,x.os⟩
theorem After.write(hs:Here cY uK n A env outer ow Rk s fr H):After cY uK env outer Rk s {s with heap:=h',toks:=tk} fr (upd H a o₁):=
 ⟨hs.inv.write sb od ha r h2 hb,hs.loc.lift (fun m hn=>hn.sameBut sb fun q=>hs.inv.dY _ bQ (q▸od)) (fun c u z zz=>z.sameBut sb fun q=>(K9 hs.inv od).elim fun o k=>z.elim fun oc z=>k.2 _ (Y1l (k.1.symm.trans (q▸z.1))▸z.2)),
  fun L f o e=>⟨o.slots,(sb.2 L fun q=>hs.inv.dY L f.up (q▸od)).trans e⟩⟩
end
theorem UP(name:Str)(nR:Int)(key v:Value)(es:List DictEntry)(n:Nat)(sl:Array (Option Value)):Obj.putName name nR key v ⟨.type "dict",none,.dict es.toArray n,sl⟩=⟨.type "dict",none,.dict (putL name nR key v es).toArray (putN name es n),sl⟩:=by
 rw[Obj.putName_eq];unfold Obj.putNameByArray putN;have h1:=putL_find name nR key v es;have h2:=any_of_findIdx name es;simp only[List.findIdx?_toArray];cases h:List.findIdx? (fun x=>x.key.isStr name) es with
 |none=>rw[h]at h1 h2;rw[←h2, ←h1];simp
 |some i=>rw[h]at h1 h2;rw[←h2, ←h1];simp
theorem run_set{P:Unit→dD→AH→Prop}(base:AG cY w){ov v:Value}{f:Fn}{H':AH}(hv:AV H (er ov) f (er v)=some H')(h:P () fr H'):
  Run cY uK w n env outer ow fr H (setAttr ov (nm f) v) P X:=fun A Rk s hs=>by
 refine Fs (C:=fun ov=>wpAny (model Hd.pw w) A (setAttr ov (nm f) v) _ _ s) hv fun a hv=>EU hv fun C d fs hH hv=>tc hv fun hc e=>(hs.inv.rep a _ hH).elim fun r1 r2=>r1.elim fun sl a1=>r2.elim fun es r2=>r2.elim fun k r2=>r2.elim fun F9 r2=>
  aI (Ii (P:=w.params) f hc.1) fun ok o6=>aI ok fun ok o5=>aI ok fun ok o4=>aI ok fun ok zz=>aI ok fun zz o2=>BQ o6 fun tk ht o6=>?_
 cases e;have K:=hs.inv.K base;have D:s.heap.get? d=some ⟨.type "dict",none,.dict es.toArray k,F9⟩:=r2.1;have I:InstAt s.heap a ⟨.ref C,some d,.plain,sl⟩ C (some ⟨.type "dict",none,.dict es.toArray k,F9⟩):=⟨a1,rfl,rfl,D⟩;refine set_plain K I (beq_iff_eq.mp o4) (osa_open (s:={s with toks:=s.toks+1}) K I o5 (ht.trans (R6T some (Option.isNone_iff_eq_none.mp o6))) fun b=>(any_some o2).elim fun cd Qo=>?_);have D':(s.heap.update d (Obj.putName (nm f) (PyData.keyHash w.params (nm f)) (.str (nm f) (s.toks+1)) v)).get? d=some ⟨.type "dict",none,.dict (putL (nm f) (PyData.keyHash w.params (nm f)) (.str (nm f) (s.toks+1)) v es).toArray (putN (nm f) es k),F9⟩:=by rw[←UP];exact Heap.get?_update_self _ D (by rw[UP];rfl)
 have fl:=r2.2.1.put (n:=f) (v:=v) (hs:=PyData.keyHash w.params (nm f)) (t:=s.toks+1);have sb:=Heap.SameBut.update s.heap d (Obj.putName (nm f) (PyData.keyHash w.params (nm f)) (.str (nm f) (s.toks+1)) v);have ad {b:Addr} {o:AO} (hb:H b=some o):b≠d:=fun q=>(hs.inv.rep b o hb).obj.elim fun ob z=>z.2.nd (R6T Obj.data (Y1l (z.1.symm.trans (q▸D))));refine wpAny_bind (wpAny_pure (wpAny_bind (wpAny_bind (wpAny_loadPart a1 (wpAny_bind ((looks_clsIn (M:=model Hd.pw w) K Qo.1).at ?_))))));rw[Qo.2];refine wpAny_pure (a:=some d) (wpAny_bind (wpAny_pure (wpAny_bind ?_)));unfold nsSet;refine wpAny_bind (wpAny_bind (wpAny_askSetting (wpAny_pure (wpAny_bind (wpAny_mkText (wpAny_bind (wpAny_loadPart D ?_)))))));dsimp only;rw[aRefKeyMayBeTheName_at,show(!es.toArray.any (·.key.isStr (nm f))&&es.toArray.any (·.refKey))=false from(congrArg (_&& ·) ((Array.any_toList ..).symm.trans r2.2.1.yp)).trans (Bool.and_false _)];exact wpAny_updatePart D (wpAny_bind (wpAny_lookBehind D' (pastItsLine_dict (by rw[List.size_toArray,sizeLine_eq,fl.length];exact z2n hc.2 (by decide)))
  (wpAny_pure ⟨fr,_,After.write (o₁:=.inst C d (D7 f (er v) fs)) sb (.inr ⟨a,C,fs,hH⟩) hH ⟨⟨sl,(sb.2 a (ad hH)).trans a1⟩,_,_,F9,D',fl,hc.2⟩ (fun zz zz zz q=>by cases q;exact⟨_,_,rfl⟩)
   (fun b o ne hb=>⟨ad hb,fun C' d' A6 q q'=>ne (hs.inv.sep _ _ _ _ _ _ _ (hb.trans (R6T some q)) (q'▸hH))⟩) hs,h⟩)))
end
end
section
theorem E1{v:Value}{i:Int}{t:Tok}(h:er v= .int i t):∃t',v= .int i t':=
 Value.int.elim (motive:=fun v=>er v= .int i t→∃t',v= .int i t') v ((GK v).symm.trans (R6T Value.ctorIdx h)) (fun zz t' h=>⟨t',(Value.int.inj h).1▸rfl⟩) h
theorem ml{v:Value}{x:Str}{t:Tok}(h:er v= .str x t):∃t',v= .str x t':=
 Value.str.elim (motive:=fun v=>er v= .str x t→∃t',v= .str x t') v ((GK v).symm.trans (R6T Value.ctorIdx h)) (fun zz t' h=>⟨t',(Value.str.inj h).1▸rfl⟩) h
theorem Xq{v:Value}{b:Bool}(h:er v= .bool b):v= .bool b:=
 Value.bool.elim (motive:=fun v=>er v= .bool b→v= .bool b) v ((GK v).symm.trans (R6T Value.ctorIdx h)) (fun zz h=>h) h
theorem Py{v:Value}(h:er v= .none):v= .none:=
 Value.none.elim (motive:=fun v=>v= .none) v ((GK v).symm.trans (R6T Value.ctorIdx h)) rfl
noncomputable def sv(v:Value):Option Str:=if h:v.ctorIdx=6 then some (Value.str.elim (motive:=fun zz=>Str) v h fun x zz=>x)else none
noncomputable def iv(v:Value):Option Int:=if h:v.ctorIdx=4 then some (Value.int.elim (motive:=fun zz=>Int) v h fun x zz=>x)else none
noncomputable def i2{α:Type}(a b:Value)(f:Int→Int→Option α):Option α:=(iv a).bind fun x=>(iv b).bind fun y=>f x y
noncomputable def s2{α:Type}(a b:Value)(f:Str→Str→Option α):Option α:=(sv a).bind fun x=>(sv b).bind fun y=>f x y
noncomputable def Fy(f:Int→Int→Bool)(a b:Value):Option Bool:=i2 a b fun x y=>some (f x y)
noncomputable def Jx(a b:Value):Option Bool:=(s2 a b fun x y=>some (x==y)).or (i2 a b fun x y=>some (x==y))
noncomputable def YO(a b:Value):Option Bool:=if b.ctorIdx=0 then(if a.ctorIdx=9 then none else some (a== .none))else none
noncomputable def bH(a b:Value):Option Bool:=s2 a b fun y x=>some !(Builtin.Str.occurrences x y 0 x.length 1).isEmpty
noncomputable def RM(op:CmpOp)(a b:Value):Option Bool:=match op with
 | .Eq=>Jx a b
 | .NotEq=>(Jx a b).map (!·)
 | .Lt=>Fy (fun x y=>decide (x<y)) a b
 | .LtE=>Fy (fun x y=>decide (x≤y)) a b
 | .Gt=>Fy (fun x y=>decide (x>y)) a b
 | .GtE=>Fy (fun x y=>decide (x≥y)) a b
 | .Is=>YO a b
 | .IsNot=>(YO a b).map (!·)
 | .In=>bH a b
 | .NotIn=>(bH a b).map (!·)
noncomputable def WK(op:Operator)(a b:Value):Option Value:=if op= .Add then(i2 a b fun x y=>some (.int (x+y) 0)).or (s2 a b fun x y=>if x.length+y.length≤sizeLine then some (.str (x++y) 0)else none)
 else if op= .Sub then i2 a b fun x y=>some (.int (x-y) 0)
 else if op= .Mult then i2 a b fun x y=>if x.natAbs<2 ^ 31∧y.natAbs<2 ^ 31 then some (.int (x*y) 0)else none
 else if op= .Mod then i2 a b fun x y=>if 0<y then some (.int (x.fmod y) 0)else none
 else if op= .FloorDiv then i2 a b fun x y=>if 0<y∧y<1000000 then some (.int (x.fdiv y) 0)else none
 else none
section
variable{cY:Heap}{uK:OsState}{w:World}
variable{α β:Type}{n:Nat}{env:Env}{outer ow:List Env}{fr:dD}{H:AH}{A:Around}{Rk:Heap}{s:Shared}{X:AH→Prop}
theorem ZV{v:Value}:(er v==Value.none)=(v==Value.none):=by cases v<;>rfl
theorem SY{v:Value}(h:∀i,v≠ .builtin i):plainIs v .none=true:=by cases v<;>first|rfl|exact absurd rfl (h _)
theorem tU{P:Value→dD→AH→Prop}{t:Sem Value}{u:Value}
  (h:∀(s:Shared)(Q:Value→Shared→Prop)(E:Value→Shared→Prop),(∀v tk,er v=u→Q v {s with toks:=tk})→wpAny (model Hd.pw w) A t Q E s) (hP:∀v,er v=u→P v fr H) (hs:Here cY uK n A env outer ow Rk s fr H):
  wpAny (model Hd.pw w) A t (Po cY uK env outer Rk P s) (Px cY uK env outer ow Rk X s) s:=
 h s _ _ fun v tk e=>⟨fr,H,.tok hs tk,hP v e⟩
theorem LL{v:Value}{x:Str}(h:sv (er v)=some x):∃t,v= .str x t:=
 EQ h fun q e=>Value.str.elim (motive:=fun v=>∀q:(er v).ctorIdx=6,some (Value.str.elim (motive:=fun zz=>Str) (er v) q (fun x zz=>x))=some x→∃t,v= .str x t) v ((GK v).symm.trans q) (fun zz t zz e=>⟨t,Y1l e▸rfl⟩) q e
theorem ye{v:Value}{x:Int}(h:iv (er v)=some x):∃t,v= .int x t:=
 EQ h fun q e=>Value.int.elim (motive:=fun v=>∀q:(er v).ctorIdx=4,some (Value.int.elim (motive:=fun zz=>Int) (er v) q (fun x zz=>x))=some x→∃t,v= .int x t) v ((GK v).symm.trans q) (fun zz t zz e=>⟨t,Y1l e▸rfl⟩) q e
theorem EN{a:Value}{β:Type}{f:Str→Option β}{u:β}{C:Value→Prop}(h:(sv (er a)).bind f=some u)(g:∀x t,f x=some u→C (.str x t)):C a:=HH h fun x e h=>(LL e).elim fun t e=>e▸g x t h
theorem rT{a:Value}{β:Type}{f:Int→Option β}{u:β}{C:Value→Prop}(h:(iv (er a)).bind f=some u)(g:∀x t,f x=some u→C (.int x t)):C a:=HH h fun x e h=>(ye e).elim fun t e=>e▸g x t h
theorem jI{a b:Value}{β:Type}{f:Int→Int→Option β}{u:β}{C:Value→Value→Prop}(h:i2 (er a) (er b) f=some u)(g:∀x s y t,f x y=some u→C (.int x s) (.int y t)):C a b:=
 rT (C:=fun a=>C a b) h fun x s h=>rT (C:=C _) h fun y t h=>g x s y t h
theorem sG{a b:Value}{β:Type}{f:Str→Str→Option β}{u:β}{C:Value→Value→Prop}(h:s2 (er a) (er b) f=some u)(g:∀x s y t,f x y=some u→C (.str x s) (.str y t)):C a b:=
 EN (C:=fun a=>C a b) h fun x s h=>EN (C:=C _) h fun y t h=>g x s y t h
theorem Q0{a b:Value}{r:Bool}{C:Value→Prop}(h:YO (er a) (er b)=some r)(g:(∀i,a≠ .builtin i)→(a==Value.none)=r→C .none):C b:=
 tc h fun q h=>Value.none.elim (motive:=C) b ((GK b).symm.trans q) (Qi h (fun zz h=>by cases h) fun h2=>g (fun i e=>by subst e;cases h) (ZV.symm.trans (Y1l h2)))
theorem cR{P:Value→dD→AH→Prop}{op:CmpOp}{a b:Value}{r:Bool}(hv:RM op (er a) (er b)=some r)(h:P (.bool r) fr H):
  Run cY uK w n env outer ow fr H (compareOp op a b) P X:=fun A Rk s hs=>by
 refine tU (u:=.bool r) (fun s Q E hQ=>?_) (fun v e=>Xq e▸h) hs;have done:∀{r':Bool}{tk:Nat},some r'=some r→Q (.bool r') {s with toks:=tk}:=fun e=>hQ _ _ (R6T Value.bool (Y1l e))
 let C (op:CmpOp) (a b:Value):Prop:=wpAny (model Hd.pw w) A (compareOp op a b) Q E s
 have Bv:∀{b b':Bool}{tk:Nat},some b'=some b→(!b)=r→Q (.bool !b') {s with toks:=tk}:=fun e e2=>hQ _ _ (R6T Value.bool ((R6T (!·) (Y1l e)).trans e2));show C op a b;cases op with
 |Eq=>exact iX hv (fun hv=>sG hv fun zz zz zz zz h=>PyProof.Rows.eq_str (done h)) fun hv=>jI hv fun zz zz zz zz h=>PySem.P.eq_int (done h)
 |NotEq=>exact YX hv fun b' hv e=>iX hv (fun hv=>sG hv fun zz zz zz zz h=>PyProof.Rows.ne_str (Bv h e)) fun hv=>jI hv fun zz zz zz zz h=>PySem.P.ne_int (Bv h e)
 |Lt=>exact jI hv fun zz zz zz zz h=>PySem.P.lt_int (done h)
 |LtE=>exact jI hv fun zz zz zz zz h=>PySem.P.le_int (done h)
 |Gt=>exact jI hv fun zz zz zz zz h=>PySem.P.gt_int (done h)
 |GtE=>exact jI hv fun zz zz zz zz h=>PySem.P.ge_int (done h)
 |Is=>exact Q0 (C:=C .Is a) hv fun nb e=>wpAny_is_plain (SY nb) (done (R6T some e))
 |IsNot=>exact YX hv fun b' hv e2=>Q0 (C:=C .IsNot a) hv fun nb e=>wpAny_isNot_plain (SY nb) (Bv (R6T some e) e2)
 |In=>exact sG hv fun zz zz zz zz h=>PyProof.Rows.in_str (done h)
 |NotIn=>exact YX hv fun b' hv e2=>sG hv fun zz zz zz zz h=>PyProof.Rows.notIn_str (Bv h e2)
theorem P8{x y:Int}(hx:x.natAbs<2 ^ 31):IntMulOk x y:=IntMulOk.of_left (intBits_le_64 (by lia) (by lia))
theorem xm{P:Value→dD→AH→Prop}{op:Operator}{a b u:Value}(hv:WK op (er a) (er b)=some u)(h:∀v,er v=u→P v fr H):
  Run cY uK w n env outer ow fr H (binaryOp op a b) P X:=fun A Rk s hs=>by
 refine tU (u:=u) (fun s Q E hQ=>?_) h hs;have done:∀{v:Value}{tk:Nat},some (er v)=some u→Q v {s with toks:=tk}:=fun e=>hQ _ _ (Y1l e)
 let C (op:Operator) (a b:Value):Prop:=wpAny (model Hd.pw w) A (binaryOp op a b) Q E s
 show C op a b;refine Qi hv (fun e hv=>e▸iX hv (fun hv=>jI hv fun zz zz zz zz h=>PySem.P.add_int (done h)) fun hv=>sG hv fun zz zz zz zz h=>tc h fun c h=>PyProof.Rows.add_str (fun zz zz=>done h) c) fun hv=>?_;refine Qi hv (fun e hv=>e▸jI hv fun zz zz zz zz h=>PySem.P.sub_int (done h)) fun hv=>?_;refine Qi hv (fun e hv=>e▸jI hv fun zz zz zz zz h=>tc h fun c h=>PySem.P.mul_int (done h) (P8 c.1)) fun hv=>?_;refine Qi hv (fun e hv=>e▸jI hv fun zz zz zz zz h=>tc h fun c h=>PyProof.Rows.mod_int (Int.ne_of_gt c) (done h)) fun hv=>?_;exact tc hv fun e hv=>e▸jI hv fun zz zz zz zz h=>tc h fun c h=>PyProof.Rows.floordiv_int (Int.ne_of_gt c.1) (done h) (.inl (PyProof.noPylong_small (by lia)))
end
end
noncomputable def tv(v:Value):Option String:=if h:v.ctorIdx=8 then some (Value.type.elim (motive:=fun zz=>String) v h fun x=>x)else none
theorem s6{v:Value}{x:String}(h:tv v=some x):v= .type x:=
 EQ h fun q e=>Value.type.elim (motive:=fun v=>∀q:v.ctorIdx=8,some (Value.type.elim (motive:=fun zz=>String) v q fun x=>x)=some x→v= .type x) v q (fun zz zz e=>R6T Value.type (Y1l e)) q e
theorem xc{v:Value}{t:String}(h:er v= .type t):v= .type t:=
 Value.type.elim (motive:=fun v=>er v= .type t→v= .type t) v ((GK v).symm.trans (R6T Value.ctorIdx h)) (fun zz h=>h) h
noncomputable def hW(d:Data):Option (Array Value):=if h:d.ctorIdx=2 then some (Data.seq.elim (motive:=fun zz=>Array Value) d h fun xs zz=>xs)else none
theorem rG{d:Data}{x:Array Value}(h:hW d=some x):∃n,d= .seq x n:=
 EQ h fun q e=>Data.seq.elim (motive:=fun v=>∀q:v.ctorIdx=2,some (Data.seq.elim (motive:=fun zz=>Array Value) v q fun x zz=>x)=some x→∃n,v= .seq x n) d q (fun zz n zz e=>⟨n,R6T (Data.seq · n) (Y1l e)⟩) q e
noncomputable def bx(o:Obj):Option (Bool×List Value):=(tv o.cls).bind fun t=>(hW o.data).bind fun xs=>if t="list" then some (true,xs.toList.map er)else if t="tuple" then some (false,xs.toList.map er)else none
noncomputable def Oz(K:Frag)(a:Addr):Option (Bool×List Value):=(K.lookup a).bind bx
noncomputable def lG:List Value:=[.int 9 0,.int 11 0,.int 12 0,.int 32 0,.int 160 0,.int 5760 0,.int 6158 0,.int 8239 0,.int 8287 0,.int 12288 0,.int 65279 0]
noncomputable def G4:List Value:=[.int 10 0,.int 13 0,.int 8232 0,.int 8233 0]
noncomputable def Ng:List Value:=[.str ("break":Str) 0,.str ("case":Str) 0,.str ("catch":Str) 0,.str ("continue":Str) 0,.str ("debugger":Str) 0,.str ("default":Str) 0,.str ("delete":Str) 0,.str ("do":Str) 0,.str ("else":Str) 0,.str ("finally":Str) 0,.str ("for":Str) 0,.str ("function":Str) 0,.str ("if":Str) 0,.str ("in":Str) 0,.str ("instanceof":Str) 0,.str ("new":Str) 0,.str ("return":Str) 0,.str ("switch":Str) 0,.str ("this":Str) 0,.str ("throw":Str) 0,.str ("try":Str) 0,.str ("typeof":Str) 0,.str ("var":Str) 0,.str ("void":Str) 0,.str ("while":Str) 0,.str ("with":Str) 0,.str ("class":Str) 0,.str ("const":Str) 0,.str ("enum":Str) 0,.str ("export":Str) 0,.str ("extends":Str) 0,.str ("imp\x6frt":Str) 0,.str ("super":Str) 0,.str ("null":Str) 0,.str ("true":Str) 0,.str ("false":Str) 0]
noncomputable def Jb:List Value:=[.str ("implements":Str) 0,.str ("interface":Str) 0,.str ("let":Str) 0,.str ("package":Str) 0,.str ("private":Str) 0,.str ("protected":Str) 0,.str ("public":Str) 0,.str ("static":Str) 0,.str ("yield":Str) 0]
noncomputable def Ul:List Value:=[.str ("arguments":Str) 0,.str ("eval":Str) 0]
noncomputable def CT:List Value:=[.str ("Name":Str) 0,.str ("Member":Str) 0,.str ("Index":Str) 0]
noncomputable def Ft:List Value:=[.str ("=":Str) 0,.str ("+=":Str) 0,.str ("-=":Str) 0,.str ("*=":Str) 0,.str ("/=":Str) 0,.str ("%=":Str) 0,.str ("<<=":Str) 0,.str (">>=":Str) 0,.str (">>>=":Str) 0,.str ("&=":Str) 0,.str ("^=":Str) 0,.str ("|=":Str) 0]
noncomputable def TG:List Value:=[.str ("-":Str) 0,.str ("+":Str) 0,.str ("!":Str) 0,.str ("~":Str) 0]
noncomputable def wy:List Value:=[.str ("typeof":Str) 0,.str ("void":Str) 0,.str ("delete":Str) 0]
noncomputable def eU:List Value:=[.str ("++":Str) 0,.str ("--":Str) 0]
noncomputable def UF:List (Addr×Bool×List Value):=[(Hd.ui,true,lG),(Hd.mV,true,G4),(Hd.yr,true,Ng),(Hd.vD,false,Jb),(Hd.ZG,false,Ul),(Hd.Tq,false,CT),(Hd.lm,false,Ft),(Hd.j8,false,TG),(Hd.zf,false,wy),(Hd.Y9,false,eU)]
noncomputable def B8(a:Addr):Option (Bool×List Value):=UF.lookup a
theorem hO:B8 Hd.ui=some (true,lG):=by kernel_rfl
theorem Gq:B8 Hd.mV=some (true,G4):=by kernel_rfl
theorem NL:B8 Hd.yr=some (true,Ng):=by kernel_rfl
theorem Zp:B8 Hd.Tq=some (false,CT):=by kernel_rfl
theorem Xj:B8 Hd.lm=some (false,Ft):=by kernel_rfl
theorem PV:B8 Hd.j8=some (false,TG):=by kernel_rfl
theorem MA:B8 Hd.zf=some (false,wy):=by kernel_rfl
theorem NE:B8 Hd.Y9=some (false,eU):=by kernel_rfl
theorem lookup_all{α β γ:Type} [BEq α] [LawfulBEq α]{l:List (α×β)}{f g:α×β→γ}(h:l.map f=l.map g){a:α}{b:β}(e:l.lookup a=some b):f (a,b)=g (a,b):=by
 induction l with
 |nil=>cases e
 |cons p l ih=>
  unfold List.lookup at e
  split at e
  ·rename_i q;cases e;cases eq_of_beq q;exact(List.cons.inj h).1
  ·exact ih (List.cons.inj h).2 e
theorem U7(P:Params):UF.map (fun p=>Oz (Hd.KF P) p.1)=UF.map fun p=>some p.2:=by kernel_rfl
theorem Zw(P:Params){a:Addr}{r:Bool×List Value}(h:B8 a=some r):Oz (Hd.KF P) a=some r:=lookup_all (U7 P) h
section
noncomputable def X6(o:AO):Option (Bool×List Value):=@AO.casesOn (fun zz=>Option (Bool×List Value)) o (fun zz=>none) (fun zz zz zz=>none) (fun vs=>some (true,vs)) (fun vs=>some (false,vs)) (fun vs=>some (true,vs)) fun vs=>some (true,vs)
noncomputable def tq(H:AH)(v:Value):Option (Bool×List Value):=(rv v).bind fun a=>(H a).elim (B8 a) X6
theorem WF{H:AH}{a:Addr}{o:AO}(h:H a=some o):tq H (.ref a)=X6 o:=R6T (Option.elim · (B8 a) X6) h
theorem Ra{H:AH}{a:Addr}(h:H a=none):tq H (.ref a)=B8 a:=R6T (Option.elim · (B8 a) X6) h
def TC(h:Heap)(a:Addr)(b:Bool)(vs:List Value):Prop:=∃xs:Array Value,xs.toList.map er=vs∧if b then h.IsList a xs else IsTup h a xs
noncomputable def strsOf(l:List Value):Option (List Str):=List.rec (some []) (fun v zz r=>(sv v).bind fun x=>r.map (x:: ·)) l
noncomputable def intsOf(l:List Value):Option (List Int):=List.rec (some []) (fun v zz r=>(iv v).bind fun x=>r.map (x:: ·)) l
theorem Ji{vs:List Value}{xs:List Str}(h:strsOf (vs.map er)=some xs):StrsAre vs xs:=by
 induction vs generalizing xs with
 |nil=>cases h;exact .nil
 |cons v r ih=>exact EN (C:=fun v=>StrsAre (v::r) xs) h fun x t h=>YX h fun ys hy e=>e▸ .cons _ _ (ih hy)
theorem Kn{vs:List Value}{xs:List Int}(h:intsOf (vs.map er)=some xs):IntsAre vs xs:=by
 induction vs generalizing xs with
 |nil=>cases h;exact .nil
 |cons v r ih=>exact rT (C:=fun v=>IntsAre (v::r) xs) h fun x t h=>YX h fun ys hy e=>e▸ .cons _ _ (ih hy)
section
variable{cY:Heap}{uK:OsState}{w:World}
variable{α β:Type}{n:Nat}{env:Env}{outer ow:List Env}{fr:dD}{H:AH}{A:Around}{Rk:Heap}{s:Shared}{X:AH→Prop}
theorem dB{h:Heap}{a:Addr}{o:Obj}(k:h.get? a=some o){p:Bool×List Value}(e:bx o=some p):TC h a p.1 p.2:=
 HH e fun t ht e=>HH e fun xs hx e=>Qi e (fun q e=>Y1l e▸⟨xs,rfl,o,k,q▸s6 ht,rG hx⟩) fun e=>tc e fun q e=>Y1l e▸⟨xs,rfl,o,k,q▸s6 ht,rG hx⟩
theorem uI{h:Heap}{a:Addr}{o:AO}(r:i9 h a o){p:Bool×List Value}(e:X6 o=some p):TC h a p.1 p.2:=by
 cases o with
 |bare|inst=>exact MI e.symm
 |Ab=>exact Y1l e▸r.imp fun xs r=>⟨r.2,r.1⟩
 |lst|tup|OS=>exact Y1l e▸r.imp fun xs r=>r.elim fun n r=>r.elim fun zz r=>⟨r.2,_,r.1,rfl,n,rfl⟩
theorem N6{l:List Env}(base:AG cY w)(x:Inv cY uK Rk l s H){a:Addr}{b:Bool}{vs:List Value}(e:tq H (.ref a)=some (b,vs)):TC s.heap a b vs:=by
 cases q:H a with
 |some o=>exact uI (x.rep a o q) ((WF q).symm.trans e)
 |none=>exact HH (Zw w.params ((Ra q).symm.trans e)) fun o k e=>dB (x.K base _ _ k) e
theorem NM{v:Value}{r:Bool×List Value}(e:tq H (er v)=some r):∃a,v= .ref a:=HH e fun a k zz=>⟨a,ub k⟩
noncomputable def V1(H:AH)(a b:Value):Option Bool:=(tq H b).bind fun p=>((sv a).bind fun x=>(strsOf p.2).map fun ys=>ys.any (· ==x)).or ((iv a).bind fun i=>(intsOf p.2).map fun ys=>ys.any (· ==i))
theorem xd{l:List Env}(base:AG cY w)(x:Inv cY uK Rk l s H){v:Value}{β:Type}{f:Bool×List Value→Option β}{u:β}{C:Value→Prop}(h:(tq H (er v)).bind f=some u)
  (g:∀a(xs:Array Value),s.heap.IsList a xs→f (true,xs.toList.map er)=some u→C (.ref a)) (g':∀a(xs:Array Value),IsTup s.heap a xs→f (false,xs.toList.map er)=some u→C (.ref a)):C v:=HH h fun p e h=>(NM e).elim fun a q=>by
 subst q;refine(N6 (b:=p.1) (vs:=p.2) base x e).elim fun xs r=>?_;cases p with
 |mk c vs=>cases c with
  |true=>exact g a xs r.2 (r.1▸h)
  |false=>exact g' a xs r.2 (r.1▸h)
theorem fY{l:List Env}(base:AG cY w)(x:Inv cY uK Rk l s H){a b:Value}{r:Bool}{C:Value→Value→Prop}(hv:V1 H (er a) (er b)=some r)
  (g1:∀l(xs:Array Value)x t ys,s.heap.IsList l xs→StrsAre xs.toList ys→ys.any (· ==x)=r→C (.str x t) (.ref l)) (g2:∀l(xs:Array Value)x t ys,s.heap.IsList l xs→IntsAre xs.toList ys→ys.any (· ==x)=r→C (.int x t) (.ref l))
  (g3:∀l(xs:Array Value)x t ys,IsTup s.heap l xs→StrsAre xs.toList ys→ys.any (· ==x)=r→C (.str x t) (.ref l)) (g4:∀l(xs:Array Value)x t ys,IsTup s.heap l xs→IntsAre xs.toList ys→ys.any (· ==x)=r→C (.int x t) (.ref l)):C a b:=
 xd (C:=C a) base x hv (fun l xs is h=>iX h (fun h=>EN (C:=fun a=>C a _) h fun x t h=>YX h fun ys hy=>g1 l xs x t ys is (Ji hy)) fun h=>rT (C:=fun a=>C a _) h fun x t h=>YX h fun ys hy=>g2 l xs x t ys is (Kn hy))
  fun l xs is h=>iX h (fun h=>EN (C:=fun a=>C a _) h fun x t h=>YX h fun ys hy=>g3 l xs x t ys is (Ji hy)) fun h=>rT (C:=fun a=>C a _) h fun x t h=>YX h fun ys hy=>g4 l xs x t ys is (Kn hy)
theorem yb{P:Value→dD→AH→Prop}(base:AG cY w){a b:Value}{r:Bool}(hv:V1 H (er a) (er b)=some r)(h:P (.bool r) fr H):
  Run cY uK w n env outer ow fr H (compareOp .In a b) P X:=fun A Rk s hs=>
 have done:∀{r':Bool},r'=r→Po cY uK env outer Rk P s (.bool r') s:=fun e=>⟨fr,H,.refl hs,e▸h⟩
 fY (C:=fun a b=>wpAny (model Hd.pw w) A (compareOp .In a b) _ _ s) base hs.inv hv (fun zz xs zz zz zz is k e=>in_list_strs (vs:=xs.toList) is k (done e)) (fun zz xs zz zz zz is k e=>in_list_ints (vs:=xs.toList) is k (done e)) (fun zz zz zz zz zz is k e=>in_tuple_strs is k (done e)) fun zz zz zz zz zz is k e=>in_tuple_ints is k (done e)
theorem Ju{P:Value→dD→AH→Prop}(base:AG cY w){a b:Value}{r:Bool}(hv:V1 H (er a) (er b)=some r)(h:P (.bool (!r)) fr H):
  Run cY uK w n env outer ow fr H (compareOp .NotIn a b) P X:=fun A Rk s hs=>
 have done:∀{r':Bool},r'=r→Po cY uK env outer Rk P s (.bool !r') s:=fun e=>⟨fr,H,.refl hs,e▸h⟩
 fY (C:=fun a b=>wpAny (model Hd.pw w) A (compareOp .NotIn a b) _ _ s) base hs.inv hv (fun zz xs zz zz zz is k e=>notin_list_strs (vs:=xs.toList) is k (done e)) (fun zz xs zz zz zz is k e=>notin_list_ints (vs:=xs.toList) is k (done e)) (fun zz zz zz zz zz is k e=>notin_tuple_strs is k (done e)) fun zz zz zz zz zz is k e=>notin_tuple_ints is k (done e)
def IK(k:Int):Prop:= -(2 ^ 62)<k∧k<2 ^ 62
noncomputable def Co(H:AH)(a i:Value):Option Value:=(iv i).bind fun k=>open Classical in if IK k then((sv a).bind fun x=>((seqIndex? k x.length).bind (x.cps[·]?)).map fun c=>.str ⟨#[c]⟩ 0).or ((tq H a).bind fun p=>(seqIndex? k p.2.length).bind (p.2[·]?))else none
theorem get_map{xs:Array Value}{vs:List Value}{j:Nat}{u:Value}(hx:xs.toList.map er=vs)(e:vs[j]? =some u):∃v,xs[j]? =some v∧er v=u:=by rw[←hx,List.getElem?_map]at e;exact(Option.map_eq_some_iff.mp e).imp fun v z=>⟨(Array.getElem?_toList ..).symm.trans z.1,z.2⟩
theorem item_list{h:Heap}{a:Addr}{xs:Array Value}{k:Int}{t:Tok}{j:Nat}{v:Value}{Q:Value→Shared→Prop}{E:Value→Shared→Prop}(is:s.heap.IsList a xs)(h1: -(2 ^ 62)<k)(h2:k<2 ^ 62)(hj:seqIndex? k xs.size=some j)(hv:xs[j]? =some v)(fin:Q v s):wpAny (model Hd.pw w) A (getItem (.ref a) (.int k t)) Q E s:=by
 unfold seqIndex? at hj
 by_cases k0:k<0
 ·rw[if_pos k0]at hj;exact tc hj fun q e=>by cases e;simp only[Bool.and_eq_true,decide_eq_true_eq]at q;exact wpAny_getItem_list_neg is k0 (by lia) (by lia) hv fin
 ·rw[if_neg k0]at hj;exact tc hj fun q e=>by cases e;exact wpAny_getItem_list is (Int.not_lt.mp k0) (by lia) hv fin
theorem U2{P:Value→dD→AH→Prop}(base:AG cY w){a i u:Value}(hv:Co H (er a) (er i)=some u)(h:∀v,er v=u→P v fr H):
  Run cY uK w n env outer ow fr H (getItem a i) P X:=fun A Rk s hs=>by
 have done:∀{v},er v=u→Po cY uK env outer Rk P s v s:=fun e=>⟨fr,H,.refl hs,h _ e⟩
 let C (a i:Value):Prop:=wpAny (model Hd.pw w) A (getItem a i) (Po cY uK env outer Rk P s) (Px cY uK env outer ow Rk X s) s
 show C a i;refine rT (C:=C a) hv fun k t hv=>tc hv fun z hv=>iX hv (fun hv=>EN (C:=fun a=>C a _) hv fun x t hv=>YX hv fun c hc e=>?_) fun hv=>xd (C:=fun a=>C a _) base hs.inv hv (fun l xs is hv=>?_) fun l xs is hv=>?_
 ·obtain⟨z1,z2⟩:=z;exact PySem.P.getItem_str (by simp only[Bool.or_eq_false_iff,decide_eq_false_iff_not];lia) hc ⟨fr,H,.tok hs _,h _ e⟩
 ·exact HH hv fun j hj hv=>(get_map rfl hv).elim fun v hv=>item_list (h:=s.heap) is z.1 z.2 (by rw[←hj];simp) hv.1 (done hv.2)
 ·exact HH hv fun j hj hv=>(get_map rfl hv).elim fun v hv=>getItem_tuple is (by have:=z.1;lia) (by have:=z.2;lia) (by rw[←hj];simp) hv.1 (done hv.2)
theorem sr{l:List Env}(x:Inv cY uK Rk l s H){a:Addr}{S0:AO}(h:H a=some S0):∀b o,b≠a→H b=some o→b≠a∧∀C d' fs,o= .inst C d' fs→d'≠a:=
 fun b o ne hb=>⟨ne,fun C d fs q q'=>(x.rep a _ h).obj.elim fun ob z=>(x.rep b _ (hb.trans (R6T some q))).2.elim fun es r=>r.elim fun n r=>r.elim fun zz r=>z.2.nd (R6T Obj.data (Y1l (z.1.symm.trans (q'▸r.1))))⟩
theorem After.Xl{a:Addr}{S0 o₁:AO}{h':Heap}{tk:Nat}(hs:Here cY uK n A env outer ow Rk s fr H)(sb:Heap.SameBut a s.heap h')(hv:H a=some S0)(r:i9 h' a o₁)(hd:∀C d fs,o₁≠ .inst C d fs):
  After cY uK env outer Rk s {s with heap:=h',toks:=tk} fr (upd H a o₁):=.write sb (.at hv) hv r (fun C d fs q=>absurd q (hd C d fs)) (sr hs.inv hv) hs
theorem Ms{P:Value→dD→AH→Prop}{a:Addr}{v:Value}{vs:List Value}(hv:H a=some (.lst vs))(hz:vs.length<10000)(h:P .none fr (upd H a (.lst (vs++[er v])))):
  Run cY uK w n env outer ow fr H (call (.builtin "list.append") [.ref a,v]) P X:=fun A Rk s hs=>
 (hs.inv.rep a _ hv).elim fun xs r=>r.elim fun k r=>r.elim fun sl r=>list_append_plainL (its:=xs) ⟨_,k,r.1,rfl,rfl,rfl⟩ (fun h' p sb=>⟨fr,_,.Xl (tk:=s.toks) (o₁:=.lst (vs++[er v])) hs sb hv (p.elim fun o p=>p.elim fun n' p=>by
   obtain⟨c,d,dt,F9⟩:=o;obtain⟨e,rfl,rfl,rfl⟩:=p;exact⟨_,n',F9,e,by rw[Array.toList_push,List.map_append,r.2];rfl⟩) (fun zz zz zz q=>by cases q),h⟩) (by
  have hl:xs.size=vs.length:=(List.length_map er).symm.trans (R6T List.length r.2);rw[sizeLine_eq];exact hl▸Nat.le_of_lt (Nat.lt_trans hz (by decide:10000<16777216)))
theorem IX{P:Unit→dD→AH→Prop}{a:Addr}{v i:Value}{vs:List Value}{k:Int}(hi:er i= .int k 0)(hv:H a=some (.lst vs)∨H a=some (.Ab vs))(h0:0≤k)(hk:k<vs.length)(hz:vs.length<10000)(h:P () fr (upd H a (.Ab (vs.set k.toNat (er v))))):
  Run cY uK w n env outer ow fr H (setItem (.ref a) i v) P X:=fun A Rk s hs=>
 have z:∃xs,s.heap.IsList a xs∧xs.toList.map er=vs:=hv.elim (fun hv=>(hs.inv.rep a _ hv).imp fun xs r=>r.elim fun k r=>r.elim fun zz r=>⟨⟨_,r.1,rfl,k,rfl⟩,r.2⟩) fun hv=>hs.inv.rep a _ hv;have o:∃o,H a=some o:=hv.elim (fun h=>⟨_,h⟩) fun h=>⟨_,h⟩
 (E1 hi).elim fun t e=>e▸z.elim fun xs z=>o.elim fun S0 o=>by have hl:xs.size=vs.length:=(List.length_map er).symm.trans (R6T List.length z.2);exact wpAny_setItem_list z.1 h0 (by lia) (by lia) fun h' p sb=>⟨fr,_,.Xl (tk:=s.toks) (o₁:=.Ab (vs.set k.toNat (er v))) hs sb o ⟨_,p,by rw[Array.toList_setIfInBounds,List.map_set,z.2]⟩ (fun zz zz zz q=>by cases q),h⟩
end
end
section
open Hd in
section
noncomputable abbrev Tb:=List (Str×Nat×Value)
noncomputable def Qk(P:Params)(l:Tb):List DictEntry:=l.map fun p=>Hd.e P p.1 p.2.1 p.2.2
noncomputable def JH:Tb:=[(("||":Str),637,.int 3 638),(("&&":Str),640,.int 4 641),(("|":Str),643,.int 5 644),(("^":Str),646,.int 6 647),(("&":Str),649,.int 7 650),(("==":Str),652,.int 8 653),(("!=":Str),655,.int 8 656),(("===":Str),658,.int 8 659),(("!==":Str),661,.int 8 662),(("<":Str),664,.int 9 665),((">":Str),667,.int 9 668),(("<=":Str),670,.int 9 671),((">=":Str),673,.int 9 674),(("in":Str),676,.int 9 677),(("instanceof":Str),679,.int 9 680),(("<<":Str),682,.int 10 683),((">>":Str),685,.int 10 686),((">>>":Str),688,.int 10 689),(("+":Str),690,.int 11 691),(("-":Str),692,.int 11 693),(("*":Str),694,.int 12 695),(("/":Str),696,.int 12 697),(("%":Str),698,.int 12 699)]
noncomputable def qe:Tb:=[(("Comma":Str),721,.int 0 707),(("Assign":Str),722,.int 1 708),(("Cond":Str),723,.int 2 709),(("Unary":Str),724,.int 13 710),(("Call":Str),725,.int 15 712)]
noncomputable def QF:Tb:=[(("Null":Str),795,.str ("null":Str) 796),(("This":Str),797,.str ("this":Str) 798)]
noncomputable def G8:Tb:=[((">>>=":Str),1138,.bool true),(("===":Str),1139,.bool true),(("!==":Str),1140,.bool true),((">>>":Str),1141,.bool true),(("<<=":Str),1142,.bool true),((">>=":Str),1143,.bool true),(("<=":Str),1144,.bool true),((">=":Str),1145,.bool true),(("==":Str),1146,.bool true),(("!=":Str),1147,.bool true),(("++":Str),1148,.bool true),(("--":Str),1149,.bool true),(("<<":Str),1150,.bool true),((">>":Str),1151,.bool true),(("&&":Str),1152,.bool true),(("||":Str),1153,.bool true),(("+=":Str),1154,.bool true),(("-=":Str),1155,.bool true),(("*=":Str),1156,.bool true),(("%=":Str),1157,.bool true),(("&=":Str),1158,.bool true),(("|=":Str),1159,.bool true),(("^=":Str),1160,.bool true),(("/=":Str),1161,.bool true),(("{":Str),1162,.bool true),(("}":Str),1163,.bool true),(("(":Str),1164,.bool true),((")":Str),1165,.bool true),(("[":Str),1166,.bool true),(("]":Str),1167,.bool true),((".":Str),1168,.bool true),((";":Str),1169,.bool true),((",":Str),1170,.bool true),(("<":Str),1171,.bool true),((">":Str),1172,.bool true),(("+":Str),1173,.bool true),(("-":Str),1174,.bool true),(("*":Str),1175,.bool true),(("%":Str),1176,.bool true),(("&":Str),1177,.bool true),(("|":Str),1178,.bool true),(("^":Str),1179,.bool true),(("!":Str),1180,.bool true),(("~":Str),1181,.bool true),(("?":Str),1182,.bool true),((":":Str),1183,.bool true),(("=":Str),1184,.bool true),(("/":Str),1185,.bool true)]
noncomputable def bD:Tb:=[(("||":Str),1864,.int 1 1865),(("&&":Str),1867,.int 2 1868),(("|":Str),1870,.int 3 1871),(("^":Str),1873,.int 4 1874),(("&":Str),1876,.int 5 1877),(("==":Str),1879,.int 6 1880),(("!=":Str),1882,.int 6 1883),(("===":Str),1885,.int 6 1886),(("!==":Str),1888,.int 6 1889),(("<":Str),1891,.int 7 1892),((">":Str),1894,.int 7 1895),(("<=":Str),1897,.int 7 1898),((">=":Str),1900,.int 7 1901),(("instanceof":Str),1903,.int 7 1904),(("in":Str),1906,.int 7 1907),(("<<":Str),1909,.int 8 1910),((">>":Str),1912,.int 8 1913),((">>>":Str),1915,.int 8 1916),(("+":Str),1917,.int 9 1918),(("-":Str),1919,.int 9 1920),(("*":Str),1921,.int 10 1922),(("/":Str),1923,.int 10 1924),(("%":Str),1925,.int 10 1926)]
end
end
end Mine
namespace Mine
open PySem PySem.W PySem.Calls PyProof.Rows PySem.Spec PyProof.V
section
noncomputable def PD(v:Value):PyData:=@Value.casesOn (fun zz=>PyData) v .none .none .none (fun b=>.bool b) (fun i zz=>.int i) (fun zz zz=>.none) (fun x zz=>.str x) (fun zz zz=>.none) (fun zz=>.none) (fun zz=>.none) fun zz=>.none
noncomputable def jo(v:Value):Bool:=@Value.casesOn (fun zz=>Bool) v false false false (fun zz=>true) (fun zz zz=>true) (fun zz zz=>false) (fun zz zz=>true) (fun zz zz=>false) (fun zz=>false) (fun zz=>false) fun zz=>false
theorem Q3{C:Value→Prop}{v:Value}(h:jo v=true)(b:∀b,C (.bool b))(i:∀i t,C (.int i t))(s:∀x t,C (.str x t)):C v:=by
 cases v with
 |bool=>exact b _
 |int=>exact i _ _
 |str=>exact s _ _
 |_=>exact absurd h Bool.false_ne_true
theorem oE{v:Value}(h:jo v=true):Flat v (PD v):=Q3 (C:=fun v=>Flat v (PD v)) h Flat.bool Flat.int Flat.str
theorem bw{v u:Value}(h:jo u=true)(f:Flat v (PD u)):er v=er u:=
 Q3 (C:=fun u=>Flat v (PD u)→er v=er u) h (fun zz f=>R6T er (Flat.bool_inv f)) (fun zz zz f=>(Flat.int_inv f).elim fun zz e=>e▸rfl) (fun zz zz f=>(Flat.str_inv f).elim fun zz e=>e▸rfl) f
noncomputable def Tb.ok(l:Tb):Bool:=decide ((l.map (·.1)).Nodup)&&l.all fun p=>jo p.2.2
noncomputable def Tb.get(l:Tb)(x:Str):Option Value:=(l.find? fun p=>p.1==x).map fun p=>er p.2.2
noncomputable def Tb.pd(l:Tb):List (PyData×PyData):=l.map fun p=>(.str p.1,PD p.2.2)
theorem Tb.lookup(l:Tb)(x:Str):Spec.lookup (.str x) l.pd=(l.find? fun p=>p.1==x).map fun p=>PD p.2.2:=by
 induction l with
 |nil=>rfl
 |cons p r ih=>
  unfold Tb.pd at ih⊢;rw[List.map_cons,Spec.lookup,List.find?_cons];rw[show same (PyData.str p.1) (PyData.str x)=(p.1==x)from rfl,ih];cases p.1==x<;>rfl
theorem tab_of{w:World}{h:Heap}{a:Addr}{l:Tb}{n:Nat}(hl:l.ok=true)(ha:(a==sysModules)=false)(e:h.get? a=some ⟨.type "dict",none,.dict (Qk w.params l).toArray n, #[]⟩):StrTab Hd.pw w h a l.pd:=
 aI hl fun nd fl=>by
  refine⟨ha,l.map fun p=>(p.1,p.2.2),⟨_,_,_,e,⟨rfl,rfl,rfl⟩,rfl,fun en ON=>(List.mem_map.mp (List.mem_toArray.mp ON)).elim fun p z=>⟨p.1,z.2▸decide_eq_true rfl,z.2▸rfl⟩,?_,?_⟩,?_⟩
  ·show Pairs _ (Qk w.params l) _;clear nd e fl hl
   induction l with
   |nil=>exact .nil
   |cons p r ih=>exact .cons (decide_eq_true rfl) rfl ih
  ·rw[List.map_map];exact of_decide_eq_true nd
  ·clear nd e hl
   induction l with
   |nil=>exact .nil
   |cons p r ih=>exact aI (List.all_cons.symm.trans fl) fun f g=>.cons (oE f) (ih g)
noncomputable def vI:List (Addr×Tb):=[(Hd.um,JH),(Hd.Il,qe),(Hd.Qh,QF),(Hd.ZS,G8),(Hd.qg,bD)]
noncomputable def Er(a:Addr):Option Tb:=vI.lookup a
theorem fw:Er Hd.um=some JH:=by kernel_rfl
theorem di:Er Hd.Il=some qe:=by kernel_rfl
theorem ig:Er Hd.Qh=some QF:=by kernel_rfl
theorem J9:Er Hd.ZS=some G8:=by kernel_rfl
theorem Qq:Er Hd.qg=some bD:=by kernel_rfl
theorem yD(P:Params):vI.map (fun p=>(Hd.KF P).lookup p.1)=vI.map fun p=>some ⟨.type "dict",none,.dict (Qk P p.2).toArray p.2.length, #[]⟩:=by kernel_rfl
theorem Kh:vI.map (fun p=>p.2.ok&& !(p.1==sysModules))=vI.map fun zz=>true:=by kernel_rfl
section
variable{cY:Heap}{uK:OsState}{w:World}
variable{α β:Type}{n:Nat}{env:Env}{outer ow:List Env}{fr:dD}{H:AH}{A:Around}{Rk:Heap}{s:Shared}{X:AH→Prop}
theorem Bt{l:List Env}(base:AG cY w)(x:Inv cY uK Rk l s H){a:Addr}{tb:Tb}(h:Er a=some tb):tb.ok=true∧StrTab Hd.pw w s.heap a tb.pd:=
 aI (lookup_all Kh h) fun ok ne=>⟨ok,tab_of ok ((Bool.not_eq_true' _).mp ne) (x.K base _ _ (lookup_all (yD w.params) h))⟩
theorem Tb.T5{l:Tb}(h:l.ok=true){p}{x:Str}(e:(l.find? fun p=>p.1==x)=some p):jo p.2.2=true:=aI h fun zz h=>List.all_eq_true.mp h _ (List.mem_of_find?_eq_some e)
theorem YU{P:Value→dD→AH→Prop}(base:AG cY w){v:Value}{a:Addr}{x:Str}{tb:Tb}(ht:Er a=some tb)(hv:er v= .str x 0)(h:P (.bool (tb.get x).isSome) fr H):
  Run cY uK w n env outer ow fr H (compareOp .In v (.ref a)) P X:=fun A Rk s hs=>by
 refine(ml hv).elim fun zz e=>e▸in_strTab (Bt base hs.inv ht).2 ⟨fr,H,.tok hs _,?_⟩;rw[Tb.lookup,Option.isSome_map];unfold Tb.get at h;rwa[Option.isSome_map]at h
theorem WU{P:Value→dD→AH→Prop}(base:AG cY w){v d:Value}{a:Addr}{x:Str}{tb:Tb}(ht:Er a=some tb)(hv:er v= .str x 0)(hd:jo d=true)(h:∀r,er r=(tb.get x).getD (er d)→P r fr H):
  Run cY uK w n env outer ow fr H (call (.builtin "dict.get") [.ref a,v,d]) P X:=fun A Rk s hs=>by
 obtain⟨_,rfl⟩:=ml hv;obtain⟨ok,T⟩:=Bt base hs.inv ht;refine call_get2_strTab T (oE hd) fun r ve=>⟨fr,H,.tok hs _,h r ?_⟩;rw[Tb.lookup]at ve;unfold Tb.get;cases e:tb.find? fun p=>p.1==x with
 |none=>rw[e]at ve;exact bw hd ve
 |some p=>rw[e]at ve;exact bw (Tb.T5 ok e) ve
theorem ua{P:Value→dD→AH→Prop}(base:AG cY w){value slice:Expr}{v:Value}{a:Addr}{x:Str}{tb:Tb}{u:Value}(ht:Er a=some tb)(hv:er v= .str x 0)(hu:tb.get x=some u)
  (FN:∀o i,subscripted slice false o i=operate [o,i] (getItem o i)) (h:∀r,er r=u→P r fr H):
  Run cY uK w n env outer ow fr H (subscriptTail value slice (.ref a) v) P X:=fun A Rk s hs=>by
 obtain⟨_,rfl⟩:=ml hv;obtain⟨ok,T⟩:=Bt base hs.inv ht;refine kba_turn (value':=.Name (Str.ofString "x") default) (fun r=>rfl) ?_;unfold Tb.get at hu;obtain⟨p,e,rfl⟩:=Option.map_eq_some_iff.mp hu;refine item_strTab T (dv:=PD p.2.2) (by rw[Tb.lookup,e];rfl) (fun r ve=>⟨fr,H,.tok hs _,h r (bw (Tb.T5 ok e) ve)⟩) (FN _ _) (fun zz=>rfl)
noncomputable def Sm:List (Int×Nat×Str×Nat):=[(8,610,"\\b",611),(9,612,"\\t",613),(10,614,"\\n",615),(11,616,"\\v",617),(12,618,"\\f",619),(13,620,"\\r",621),(34,622,"\\\"",623),(92,624,"\\\\",625)]
noncomputable def NJ(l:List (Int×Nat×Str×Nat)):List DictEntry:=l.map fun p=>⟨hashInt p.1,.int p.1 p.2.1,.str p.2.2.1 p.2.2.2⟩
theorem sM(P:Params):(Hd.KF P).lookup Hd.j6=some ⟨.type "dict",none,.dict (NJ Sm).toArray 8, #[]⟩:=by kernel_rfl
noncomputable def tr(l:List (Int×Nat×Str×Nat)):List (PyData×PyData):=l.map fun p=>(.int p.1,.str p.2.2.1)
theorem NX(l:List (Int×Nat×Str×Nat))(i:Int):(Spec.lookup (.int i) (tr l)).isSome=l.any fun p=>p.1==i:=by
 induction l with
 |nil=>rfl
 |cons p r ih=>
  unfold tr at ih⊢;rw[List.map_cons,Spec.lookup,List.any_cons];rw[show same (PyData.int p.1) (PyData.int i)=(p.1==i)from rfl];cases p.1==i
  ·simpa using ih
  ·rfl
theorem Sy{l:List Env}(base:AG cY w)(x:Inv cY uK Rk l s H):IntTab Hd.pw w s.heap Hd.j6 (tr Sm):=by
 have e:=x.K base _ _ (sM w.params);have nd:(Sm.map (·.1)).Nodup:=by decide +kernel
 refine⟨by kernel_rfl,Sm.map fun p=>(p.1,.str p.2.2.1 p.2.2.2),⟨_,_,_,e,⟨rfl,rfl,rfl⟩,rfl,?_,?_,?_⟩,?_⟩
 ·exact fun en ON=>(List.mem_map.mp (List.mem_toArray.mp ON)).elim fun p z=>⟨p.1,z.2▸decide_eq_true rfl,z.2▸rfl⟩
 ·show Pairs _ (NJ Sm) _;generalize Sm=l
  induction l with
  |nil=>exact .nil
  |cons p r ih=>exact .cons (decide_eq_true rfl) rfl ih
 ·rw[List.map_map];exact nd
 ·generalize Sm=l
  induction l with
  |nil=>exact .nil
  |cons p r ih=>exact .cons (Flat.str _ _) ih
theorem qk{P:Value→dD→AH→Prop}(base:AG cY w){v:Value}{i:Int}(hv:er v= .int i 0)(h:P (.bool (Sm.any fun p=>p.1==i)) fr H):
  Run cY uK w n env outer ow fr H (compareOp .In v (.ref Hd.j6)) P X:=fun A Rk s hs=>by
 obtain⟨_,rfl⟩:=E1 hv;refine in_intTab (Sy base hs.inv) ⟨fr,H,.tok hs _,?_⟩;rwa[NX]
end
end
section
noncomputable def Bc{α β:Type}(l:List α)(k:α→List α→Option β):Option β:=@List.casesOn α (fun zz=>Option β) l none k
noncomputable def NK{α β:Type}(l:List α)(k:Option β):Option β:=@List.casesOn α (fun zz=>Option β) l k fun zz zz=>none
noncomputable def l1{α β:Type}(l:List α)(k:α→Option β):Option β:=Bc l fun a t=>NK t (k a)
noncomputable def l2{α β:Type}(l:List α)(k:α→α→Option β):Option β:=Bc l fun a t=>l1 t (k a)
noncomputable def l3{α β:Type}(l:List α)(k:α→α→α→Option β):Option β:=Bc l fun a t=>l2 t (k a)
section
variable{α β γ:Type}{f:γ→α}{u:β}{vs:List γ}{C:List γ→Prop}
theorem AF{k}(h:Bc (vs.map f) k=some u)(g:∀v t,k (f v) (t.map f)=some u→C (v::t)):C vs:=by
 cases vs with
 |nil=>cases h
 |cons v t=>exact g v t h
theorem Gz{k}(h:NK (vs.map f) k=some u)(g:k=some u→C []):C vs:=by
 cases vs with
 |nil=>exact g h
 |cons v t=>cases h
theorem Vr{k}(h:l1 (vs.map f) k=some u)(g:∀v,k (f v)=some u→C [v]):C vs:=AF h fun v zz h=>Gz (C:=fun t=>C (v::t)) h (g v)
theorem mE{k}(h:l2 (vs.map f) k=some u)(g:∀v v',k (f v) (f v')=some u→C [v,v']):C vs:=AF h fun v zz h=>Vr (C:=fun t=>C (v::t)) h (g v)
theorem EZ{k}(h:l3 (vs.map f) k=some u)(g:∀v v' Iw,k (f v) (f v') (f Iw)=some u→C [v,v',Iw]):C vs:=AF h fun v zz h=>mE (C:=fun t=>C (v::t)) h (g v)
end
noncomputable def O3(H:AH)(v:Value):Option String:=if v.ctorIdx=6 then some "str" else if v.ctorIdx=3 then some "bool" else if v.ctorIdx=0 then some "NoneType" else(rv v).bind fun a=>(H a).bind fun o=>if o.ctorIdx=2 then some "list" else none
theorem dk{H:AH}{v:Value}{T:String}{C:Value→String→Prop}(hv:O3 H v=some T)(h1:∀x t,C (.str x t) "str")(h2:∀b,C (.bool b) "bool")(h3:C .none "NoneType")(h4:∀a us,H a=some (.lst us)→C (.ref a) "list"):C v T:=
 Qi hv (fun q e=>Y1l e▸Value.str.elim (motive:=(C · "str")) v q h1) fun hv=>Qi hv (fun q e=>Y1l e▸Value.bool.elim (motive:=(C · "bool")) v q h2) fun hv=>Qi hv (fun q e=>Y1l e▸Value.none.elim (motive:=(C · "NoneType")) v q h3)
  fun hv=>HH hv fun a k hv=>HH hv fun o ho hv=>tc hv fun q e=>Y1l e▸TE k▸AO.lst.elim (motive:=fun o=>H a=some o→C (.ref a) "list") o q (h4 a) ho
theorem Bq{H:AH}{v:Value}{T:String}{C:Value→String→Prop}(hv:O3 H (er v)=some T)(h1:∀x t,C (.str x t) "str")(h2:∀b,C (.bool b) "bool")(h3:C .none "NoneType")(h4:∀a us,H a=some (.lst us)→C (.ref a) "list"):C v T:=
 dk (C:=fun u T=>∀v,er v=u→C v T) hv (fun x zz v e=>(ml e).elim fun t e=>e▸h1 x t) (fun b v e=>Xq e▸h2 b) (fun v e=>Py e▸h3) (fun a us q v e=>t7 e▸h4 a us q) v rfl
theorem zc{H:AH}{v:Value}{T:String}{C:String→Prop}(hv:O3 H v=some T)(h:C "str"∧C "bool"∧C "NoneType"∧C "list"):C T:=dk (C:=fun zz=>C) hv (fun zz zz=>h.1) (fun zz=>h.2.1) h.2.2.1 fun zz zz zz=>h.2.2.2
noncomputable def Hf(H:AH)(v:Value):Option Bool:=((rv v).bind fun a=>iO (H a) fun C zz zz=>if C=Hd.Vk then some true else none).or ((O3 H v).map fun zz=>false)
noncomputable def tO{β:Type}(o:Option AO)(k:List Value→Option β):Option β:=o.bind fun o=>if h:o.ctorIdx=3 then AO.tup.elim (motive:=fun zz=>Option β) o h k else none
theorem wS{β:Type}{o:Option AO}{k:List Value→Option β}{u:β}{G:Prop}(h:tO o k=some u)(g:∀vs,o=some (.tup vs)→k vs=some u→G):G:=
 HH h fun a e h=>EQ h fun q h=>AO.tup.elim (motive:=fun a=>o=some a→∀q:a.ctorIdx=3,AO.tup.elim (motive:=fun zz=>Option β) a q k=some u→G) a q (fun vs e zz h=>g vs e h) e q h
noncomputable def vP(H:AH)(v:Value)(o:Option AO):Option Bool:=tO o fun us=>if us= [.type "list",.type "tuple"]then(O3 H v).map (· =="list")else none
noncomputable def Ds(H:AH)(v c:Value):Option Bool:=((tv c).bind fun t=>if t="bool" then(O3 H v).map (· =="bool")else none).or ((rv c).bind fun a=>if a=Hd.Vk then Hf H v else vP H v (H a))
noncomputable def aT(H:AH)(args:List Value):Option Value:=l1 args fun v=>((sv v).bind fun x=>if x.length<10000000 then some (.int x.length 0)else none).or ((tq H v).bind fun p=>if p.2.length<10000000 then some (.int p.2.length 0)else none)
noncomputable def Ux(args:List Value):Option Value:=l1 args fun v=>(sv v).bind fun x=>if x.length=1 then some (.int (x.cps.getD 0 0:Nat) 0)else none
noncomputable def Ee(args:List Value):Option Value:=l1 args fun v=>(iv v).bind fun i=>if 0≤i∧i≤1114111 then some (.str ⟨#[i.toNat]⟩ 0)else none
noncomputable def WR(args:List Value):Option Value:=l3 args fun a b c=>(sv a).bind fun x=>(sv b).bind fun y=>(iv c).bind fun i=>some (.bool (Txt.startswith3 x y i))
noncomputable def X3(H:AH)(args:List Value):Option Value:=l2 args fun a v=>(sv a).bind fun x=>(tq H v).bind fun p=>if p.1=true then(strsOf p.2).bind fun ys=>if(ys.map (·.length)).sum+ys.length*x.length≤16777216 then some (.str (Txt.join x ys) 0)else none else none
noncomputable def J1(H:AH)(args:List Value):Option Value:=l2 args fun v c=>(Ds H v c).map Value.bool
noncomputable def yx(H:AH)(args:List Value):Option Value:=l1 args fun v=>(tq H v).bind fun p=>if p.1=true then(intsOf p.2).map fun ns=>.int ns.sum 0 else none
noncomputable def MG(H:AH)(f:String)(args:List Value):Option Value:=
 if f="len" then aT H args else if f="ord" then Ux args else if f="chr" then Ee args else if f="str.startswith" then WR args else if f="str.join" then X3 H args else if f="isinstance" then J1 H args else if f="sum" then yx H args else none
section
variable{cY:Heap}{uK:OsState}{w:World}
variable{α β:Type}{n:Nat}{env:Env}{outer ow:List Env}{fr:dD}{H:AH}{A:Around}{Rk:Heap}{s:Shared}{X:AH→Prop}
theorem Em{vs r:List Value}{v:Value}(h:vs.map er=v::r):∃u us,vs=u::us∧er u=v∧us.map er=r:=List.map_eq_cons_iff.mp h
theorem tM{vs:List Value}{v:Value}(h:vs.map er= [v]):∃u,vs= [u]∧er u=v:=(Em h).imp fun u z=>z.elim fun us z=>⟨z.1.trans (R6T _ (List.map_eq_nil_iff.mp z.2.2)),z.2.1⟩
theorem zx{l:List Env}{K:Frag}(x:Inv cY uK Rk l s H)(hK:K.In s.heap){v:Value}{T:String}(hv:O3 H (er v)=some T){c:Value}{b:Bool}(e:kitOne K (.type T) c=some b){Q:Value→Shared→Prop}{E:Value→Shared→Prop}
  (h:∀tk,Q (.bool b) {s with toks:=tk}):wpAny (model Hd.pw w) A (call (.builtin "isinstance") [v,c]) Q E s:=
 Bq (C:=fun v T=>kitOne K (.type T) c=some b→wpAny (model Hd.pw w) A (call (.builtin "isinstance") [v,c]) Q E s) hv (fun zz zz e=>kia_one kitx_str hK trivial e (fun q=>nomatch q) h) (fun zz e=>kia_one kitx_bool hK trivial e (fun q=>nomatch q) h)
  (fun e=>kia_one kitx_none hK trivial e (fun q=>nomatch q) h) (fun zz zz q e=>(x.rep _ _ q).elim fun xs r=>r.elim fun n r=>r.elim fun zz r=>kia_one kitx_list hK ⟨_,r.1,rfl⟩ e (fun q=>nomatch q) h) e
theorem xq{l:List Env}{K:Frag}(x:Inv cY uK Rk l s H)(hK:K.In s.heap){v:Value}{T:String}(hv:O3 H (er v)=some T){tp:Addr}{its:List Value}{n:Nat}{sl:Array (Option Value)}(Yz:s.heap.get? tp=some ⟨.type "tuple",none,.seq its.toArray n,sl⟩){b:Bool}(e:kitAny K (.type T) its=some b)
  {Q:Value→Shared→Prop} {E:Value→Shared→Prop} (h:∀tk,Q (.bool b) {s with toks:=tk}):wpAny (model Hd.pw w) A (call (.builtin "isinstance") [v,.ref tp]) Q E s:=
 Bq (C:=fun v T=>kitAny K (.type T) its=some b→wpAny (model Hd.pw w) A (call (.builtin "isinstance") [v,.ref tp]) Q E s) hv (fun zz zz e=>kia_tup kitx_str hK trivial Yz e (fun q=>nomatch q) h) (fun zz e=>kia_tup kitx_bool hK trivial Yz e (fun q=>nomatch q) h)
  (fun e=>kia_tup kitx_none hK trivial Yz e (fun q=>nomatch q) h) (fun zz zz q e=>(x.rep _ _ q).elim fun xs r=>r.elim fun n r=>r.elim fun zz r=>kia_tup kitx_list hK ⟨_,r.1,rfl⟩ Yz e (fun q=>nomatch q) h) e
theorem s4(P:Params):kitOne (Hd.KF P) (.type "str") (.type "bool")=some false∧kitOne (Hd.KF P) (.type "bool") (.type "bool")=some true∧kitOne (Hd.KF P) (.type "NoneType") (.type "bool")=some false∧kitOne (Hd.KF P) (.type "list") (.type "bool")=some false:=
 ⟨by kernel_rfl,by kernel_rfl,by kernel_rfl,by kernel_rfl⟩
theorem ri(P:Params):kitOne (Hd.KF P) (.type "str") (.ref Hd.Vk)=some false∧kitOne (Hd.KF P) (.type "bool") (.ref Hd.Vk)=some false∧kitOne (Hd.KF P) (.type "NoneType") (.ref Hd.Vk)=some false∧kitOne (Hd.KF P) (.type "list") (.ref Hd.Vk)=some false:=
 ⟨by kernel_rfl,by kernel_rfl,by kernel_rfl,by kernel_rfl⟩
theorem Nf(P:Params):kitAny (Hd.KF P) (.type "str") [.type "list",.type "tuple"]=some false∧kitAny (Hd.KF P) (.type "bool") [.type "list",.type "tuple"]=some false∧kitAny (Hd.KF P) (.type "NoneType") [.type "list",.type "tuple"]=some false∧kitAny (Hd.KF P) (.type "list") [.type "list",.type "tuple"]=some true:=
 ⟨by kernel_rfl,by kernel_rfl,by kernel_rfl,by kernel_rfl⟩
theorem Ci(P:Params):isIn (Hd.KF P) (.ref Hd.Vk) Hd.Vk=true:=by kernel_rfl
theorem tK{vs:List Value}(h:vs.map er= [.type "list",.type "tuple"]):vs= [.type "list",.type "tuple"]:=
 (Em h).elim fun u z=>z.elim fun us z=>(tM z.2.2).elim fun u' y=>z.1.trans (y.1▸xc z.2.1▸xc y.2▸rfl)
theorem KW{l:List Env}{K:Frag}(x:Inv cY uK Rk l s H)(hK:K.In s.heap){v c:Value}{b:Bool}{g:String→Bool}(hv:(O3 H (er v)).map g=some b){Q:Value→Shared→Prop}{E:Value→Shared→Prop}
  (f:∀T,O3 H (er v)=some T→kitOne K (.type T) c=some (g T)) (h:∀tk,Q (.bool b) {s with toks:=tk}):wpAny (model Hd.pw w) A (call (.builtin "isinstance") [v,c]) Q E s:=YX hv fun T hT e=>zx x hK hT ((f T hT).trans (R6T some e)) h
theorem EP(base:AG cY w)(iv:Inv cY uK Rk (vf env::outer) s H){v:Value}{b:Bool}(hv:Hf H (er v)=some b){Q:Value→Shared→Prop}{E:Value→Shared→Prop}
  (h:∀tk,Q (.bool b) {s with toks:=tk}):wpAny (model Hd.pw w) A (call (.builtin "isinstance") [v,.ref Hd.Vk]) Q E s:=
 have K:=iv.K base
 iX hv (fun hv=>HH hv fun x k hv=>EU hv fun C d fs hx hv=>tc hv fun q e=>(iv.rep _ _ hx).1.elim fun sl a1=>
  ub k▸isi_call (t:=.ref Hd.Vk) K (fun M=>(Looks.ld (q▸a1)).andThen .now) (Ci w.params) (fun q=>nomatch q) (Y1l e▸h s.toks))
  fun hv=>KW iv K hv (fun T hT=>zc (C:=fun T=>kitOne (Hd.KF w.params) (.type T) (.ref Hd.Vk)=some false) hT (ri w.params)) h
theorem gN(base:AG cY w)(hs:Here cY uK n A env outer ow Rk s fr H){v c:Value}{b:Bool}(hv:Ds H (er v) (er c)=some b){Q:Value→Shared→Prop}{E:Value→Shared→Prop}
  (h:∀tk,Q (.bool b) {s with toks:=tk}):wpAny (model Hd.pw w) A (call (.builtin "isinstance") [v,c]) Q E s:=
 have K:=hs.inv.K base
 iX hv (fun hv=>HH hv fun t k hv=>tc hv fun q hv=>xc (q▸s6 k)▸KW hs.inv K hv (fun T hT=>zc (C:=fun T=>kitOne (Hd.KF w.params) (.type T) (.type "bool")=some (T=="bool")) hT (s4 w.params)) h)
  fun hv=>HH hv fun a k hv=>ub k▸Qi (c:=a=Hd.Vk) hv (fun q hv=>q▸EP base hs.inv hv h) fun hv=>wS hv fun us hq hv=>tc hv fun hu hv=>YX hv fun T hT e=>
   (hs.inv.rep _ _ hq).elim fun xs r=>r.elim fun m r=>r.elim fun sl r=>xq hs.inv K hT (its:=xs.toList) r.1 (tK (r.2.trans hu)▸(zc (C:=fun T=>kitAny (Hd.KF w.params) (.type T) [.type "list",.type "tuple"]=some (T=="list")) hT (Nf w.params)).trans (R6T some e)) h
theorem zH{P:Value→dD→AH→Prop}(base:AG cY w){f:String}{vs:List Value}{u:Value}(hv:MG H f (vs.map er)=some u)(h:∀v,er v=u→P v fr H):
  Run cY uK w n env outer ow fr H (call (.builtin f) vs) P X:=fun A Rk s hs=>by
 have done:∀{v:Value}{tk:Nat},some (er v)=some u→Po cY uK env outer Rk P s v {s with toks:=tk}:=fun e=>⟨fr,H,.tok hs _,h _ (Y1l e)⟩
 let C (f:String) (vs:List Value):Prop:=wpAny (model Hd.pw w) A (call (.builtin f) vs) (Po cY uK env outer Rk P s) (Px cY uK env outer ow Rk X s) s
 show C f vs;refine Qi hv (fun q hv=>q▸Vr hv fun v hv=>iX hv (fun hv=>EN (C:=fun v=>C _ [v]) hv fun x t hv=>tc hv fun z e=>PyProof.Rows.len_str (by lia) (done e)) fun hv=>
  xd (C:=fun v=>C _ [v]) base hs.inv hv (fun l xs is hv=>tc hv fun z e=>PyProof.Rows.len_list is (by simp at z;lia) (done (by rw[←e];simp;rfl))) fun l xs is hv=>tc hv fun z e=>PyProof.Rows.len_tuple is (by simp at z;lia) (done (by rw[←e];simp;rfl))) fun hv=>?_
 refine Qi hv (fun q hv=>q▸Vr hv fun v hv=>EN (C:=fun v=>C _ [v]) hv fun x t hv=>tc hv fun z e=>ord_of_one z (done e)) fun hv=>?_;refine Qi hv (fun q hv=>q▸Vr hv fun v hv=>rT (C:=fun v=>C _ [v]) hv fun x t hv=>tc hv fun z e=>chr_of_range z.1 z.2 (done e)) fun hv=>?_;refine Qi hv (fun q hv=>q▸EZ hv fun a b c hv=>EN (C:=fun a=>C _ [a,b,c]) hv fun x t hv=>EN (C:=fun b=>C _ [_,b,c]) hv fun y t hv=>rT (C:=fun c=>C _ [_,_,c]) hv fun i t e=>SC.startswith3 (done e)) fun hv=>?_;refine Qi hv (fun q hv=>q▸mE hv fun a v hv=>EN (C:=fun a=>C _ [a,v]) hv fun x t hv=>xd (C:=fun v=>C _ [_,v]) base hs.inv hv (fun l xs is hv=>tc hv fun zz hv=>HH hv fun ys hy hv=>tc hv fun z e=>join_list is (Ji hy) z fun zz zz=>done e) fun l xs is hv=>tc hv fun z=>nomatch z) fun hv=>?_;refine Qi hv (fun q hv=>q▸mE hv fun v c hv=>YX hv fun b hb e=>gN base hs hb fun tk=>done (R6T some e)) fun hv=>?_;refine tc hv fun q hv=>q▸Vr hv fun v hv=>xd (C:=fun v=>C _ [v]) base hs.inv hv (fun l xs is hv=>tc hv fun zz hv=>YX hv fun ns hn hu=>?_) fun l xs is hv=>tc hv fun z=>nomatch z;have hi:=Kn hn;obtain⟨ys,hy⟩:=hi.allInts.items;have e:xs=intItems ys:=by rw[←hy]
 subst e;refine sum_intListG hs.hd is fun h' tk t' hk=>⟨fr,H,.keeps hs hk rfl rfl,h _ ?_⟩;have e1:ns=ys.toList.map (·.1):=by rw[←nums_intItems, ←hy];exact(show numsOf _=ns from hi.numsOf).symm
 rw[preSum_eq,List.take_of_length_le (by simp), ←e1];exact hu
noncomputable def mQ:List Addr:=[Hd.ui,Hd.mV,Hd.yr,Hd.vD,Hd.ZG,Hd.Tq,Hd.lm,Hd.j8,Hd.zf,Hd.Y9,Hd.um,Hd.Il,Hd.Qh,Hd.ZS,Hd.qg,Hd.j6,Hd.Vk]
def zQ(H:AH):Prop:=∀T∈mQ,H T=none
theorem Vw(P:Params):(mQ.all fun a=>((Hd.KF P).lookup a).isSome)=true:=by kernel_rfl
theorem Inv.cst{l:List Env}(base:AG cY w)(x:Inv cY uK Rk l s H):zQ H:=fun T hT=>(Option.isSome_iff_exists.mp (List.all_eq_true.mp (Vw w.params) T hT)).elim fun o e=>
 Option.eq_none_iff_forall_ne_some.mpr fun zz q=>MI ((x.base T o (base.X T o e)).symm.trans (x.own T (.at q)))
theorem Run.cst(base:AG cY w){t:Sem α}{P:α→dD→AH→Prop}(h:Run cY uK w n env outer ow fr H t (fun a fr H=>zQ H→P a fr H) X):Run cY uK w n env outer ow fr H t P X:=fun A Rk s hs=>
 wpAny_mono (h A Rk s hs) (fun zz zz z=>z.imp fun zz z=>z.imp fun zz z=>⟨z.1,z.2 (z.1.inv.cst base)⟩) fun zz zz z=>z
theorem Run.Rh(base:AG cY w){t:Sem α}{P:α→dD→AH→Prop}(h:zQ H→Run cY uK w n env outer ow fr H t P X):Run cY uK w n env outer ow fr H t P X:=fun A Rk s hs=>h (hs.inv.cst base) A Rk s hs
theorem Inv.make{l:List Env}(x:Inv cY uK Rk l s H)(C:Addr):Inv cY uK Rk l {s with heap:=(s.heap.push emptyDict).push (instObj C s.heap.objs.size)} (upd H (s.heap.objs.size+1) (.inst C s.heap.objs.size [])):=
 (x.keeps (s':={s with heap:=(s.heap.push emptyDict).push (instObj C s.heap.objs.size)}) (fun b o' e=>Heap.get?_push_of_some _ (Heap.get?_push_of_some _ e)) rfl rfl).yZ (x.W2 (Eo (Nat.le_succ _)))
  ⟨⟨#[],Heap.size_push s.heap emptyDict▸Heap.get?_push_size _ rfl⟩,[],0, #[],Heap.get?_push_of_some _ (Heap.get?_push_size _ rfl),trivial,V7h _⟩ fun C d fs q=>by cases q;exact x.W2 (u7 _)
theorem xh{C fI:Addr}{args:List Value}{Q:Value→AH→Prop}(base:AG cY w)(hm:∀P,makesIn (Hd.KF P) C=true)(hi:∀P,findIn (Hd.KF P) (.ref C) "__init__"=some (some (.ref fI)))
  (ht:∀P,typeIn (Hd.KF P) (.ref fI)=some (.type "function"))
  (h:∀x d,H x=none→T2 cY uK w n (.ref fI) (.ref x::args) (upd H x (.inst C d [])) (fun v H'=>v= .none∧Q (.ref x) H') X):T2 cY uK w (n+1) (.ref C) args H Q X:=by
 intro A s outer Rk hr hf hh kK vs hv;cases s with
 |mk hp g d t os=>
 have K:=kK.K base;refine make_core (makes_of K (hm _)) (looks_findIn K (hi _)) (fun self=>bind_fn K self (ht _)) (.inl rfl) (codeAny_mono (h (hp.objs.size+1) hp.objs.size (kK.W2 (Eo (Nat.le_succ _))).none (A.under (.builtin "type.__call__" ⟨.ref C::vs,[]⟩)) ⟨(hp.push emptyDict).push (instObj C hp.objs.size),g,d,t,os⟩ outer Rk
  ⟨by have:=hr.1;rw[depth_under_make];lia,by have:=hr.2;rw[units_under_make];lia⟩ hf hh (kK.make C) (.ref (hp.objs.size+1)::vs) (R6T (_:: ·) hv)) fun r s' z=>?_)
 have kp:FJ outer hp ((hp.push emptyDict).push (instObj C hp.objs.size)):=.of_keeps fun b o e=>Heap.get?_push_of_some _ (Heap.get?_push_of_some _ e);rcases r with e|(v|_|_|_)<;>first|exact z.elim|skip
 ·exact z.imp fun H' z=>⟨z.1,kp.trans z.2.1,z.2.2⟩
 ·exact z.elim fun H' z=>⟨Py z.2.2.1,H',z.1,kp.trans z.2.1,z.2.2.2⟩
end
end
section
noncomputable def cz:List (Addr×Str×Addr):=[(Hd.ic,("next":Str),Hd.C0),(Hd.ic,("fail":Str),Hd.Dd),(Hd.ic,("skip_blanks":Str),Hd.gT),(Hd.ic,("name_sign":Str),Hd.yH),(Hd.ic,("read_name":Str),Hd.NB),(Hd.ic,("read_text":Str),Hd.Xb),(Hd.ic,("read_punct":Str),Hd.VL),(Hd.Mg,("take":Str),Hd.DV),(Hd.Mg,("is_sign":Str),Hd.n3),(Hd.Mg,("is_word":Str),Hd.ZZ),(Hd.Mg,("eat":Str),Hd.UH),(Hd.Mg,("need":Str),Hd.zZ),(Hd.Mg,("fail":Str),Hd.Ac),(Hd.Mg,("fail_for":Str),Hd.ud),(Hd.Mg,("unexpected":Str),Hd.pV),(Hd.Mg,("go_in":Str),Hd.tx),(Hd.Mg,("go_out":Str),Hd.Gi),(Hd.Mg,("need_name":Str),Hd.Oi),(Hd.Mg,("property_name":Str),Hd.gl),(Hd.Mg,("expression":Str),Hd.VK),(Hd.Mg,("assignment":Str),Hd.Gv),(Hd.Mg,("need_target":Str),Hd.sj),(Hd.Mg,("conditional":Str),Hd.MZ),(Hd.Mg,("priority":Str),Hd.RO),(Hd.Mg,("binary":Str),Hd.oQ),(Hd.Mg,("unary":Str),Hd.Ud),(Hd.Mg,("operand_behind":Str),Hd.LW),(Hd.Mg,("postfix":Str),Hd.FS),(Hd.Mg,("left_hand":Str),Hd.Ov),(Hd.Mg,("with_members":Str),Hd.dc),(Hd.Mg,("creation":Str),Hd.oM),(Hd.Mg,("arguments":Str),Hd.ND),(Hd.Mg,("primary":Str),Hd.Dv),(Hd.Mg,("word_operand":Str),Hd.A3),(Hd.Mg,("array":Str),Hd.OJ)]
noncomputable def bl(K:Frag)(p:Addr×Str×Addr):Bool:=(((findIn K (.ref p.1) p.2.1==some (some (.ref p.2.2)))&&(typeIn K (.ref p.2.2)==some (.type "function")))&&plainGet K p.1 p.2.1)&&xz.all (fun n=> !(nm n==p.2.1))
theorem Jj(P:Params):(cz.all fun p=>bl (Hd.KF P) p)=true:=by kernel_rfl
noncomputable def F6:List Addr:=[Hd.HT,Hd.ki,Hd.wF,Hd.wM,Hd.DF,Hd.dq,Hd.jR,Hd.Mf,Hd.cH,Hd.Ki,Hd.ze,Hd.gc,Hd.U1,Hd.Ob,Hd.JE,Hd.tY,Hd.fJ,Hd.Vk,Hd.iI,Hd.gb,Hd.VE,Hd.Lx,Hd.NU,Hd.rJ,Hd.Qd,Hd.ic,Hd.Ui,Hd.C0,Hd.Dd,Hd.gT,Hd.yH,Hd.NB,Hd.Xb,Hd.VL,Hd.Bh,Hd.bd,Hd.uF,Hd.qB,Hd.CF,Hd.y7,Hd.W7,Hd.Hg,Hd.DV,Hd.n3,Hd.ZZ,Hd.UH,Hd.zZ,Hd.Ac,Hd.ud,Hd.pV,Hd.tx,Hd.Gi,Hd.Oi,Hd.gl,Hd.Mg,Hd.bt,Hd.VK,Hd.Gv,Hd.sj,Hd.MZ,Hd.RO,Hd.oQ,Hd.Ud,Hd.LW,Hd.FS,Hd.Ov,Hd.dc,Hd.oM,Hd.ND,Hd.Dv,Hd.A3,Hd.OJ,Hd.qA,Hd.nj,Hd.Nu,Hd.Ww,Hd.xM,Hd.ry,Hd.Xc,Hd.BA,Hd.aB]
theorem Mx(P:Params):(F6.all fun a=>keepIn (Hd.KF P) (.ref a))=true:=by kernel_rfl
theorem U5(P:Params){a:Addr}(h:F6.contains a=true):keepIn (Hd.KF P) (.ref a)=true:=List.all_eq_true.mp (Mx P) a (List.contains_iff_mem.mp h)
section
variable{cY:Heap}{uK:OsState}{w:World}
variable{α β:Type}{n:Nat}{env:Env}{outer ow:List Env}{fr:dD}{H:AH}{A:Around}{Rk:Heap}{s:Shared}{X:AH→Prop}
def SU(H:AH)(v:Value)(C:Addr):Prop:=∃a d fs,v= .ref a∧H a=some (.inst C d fs)
theorem VN{P:Value×List Value→dD→AH→Prop}(base:AG cY w){ov:Value}{C f:Addr}{m:Str}{pl:Sem Bool}(hm:(C,m,f)∈cz)(hi:SU H (er ov) C)(h:P (.ref f,[ov]) fr H):
  Run cY uK w n env outer ow fr H (getMethod ov m pl) P X:=fun A Rk s hs=>
 hi.elim fun a z=>z.elim fun d z=>z.elim fun fs z=>(hs.inv.rep a _ z.2).elim fun r1 r2=>r1.elim fun sl a1=>r2.elim fun es r2=>r2.elim fun k r2=>r2.elim fun F9 r2=>
  aI (List.all_eq_true.mp (Jj w.params) _ hm) fun ok o4=>aI ok fun ok o3=>aI ok fun o1 o2=>by
   refine(t7 z.1).symm▸method_fn (hs.inv.K base) (I:=(⟨a1,rfl,rfl,r2.1⟩:InstAt s.heap a _ C (some ⟨.type "dict",none,.dict es.toArray k,F9⟩))) (plainGet_of o3).1 (plainGet_of o3).2 (beq_iff_eq.mp o1) (beq_iff_eq.mp o2) ?_ ⟨fr,H,.refl hs,t7 z.1▸h⟩;show(getL m es).map (·.isSome)=some false;rw[r2.2.1.QO (x:=m) fun f zz q=>absurd (List.all_eq_true.mp o4 _ (MJ f.1)) (by rw[q,beq_self_eq_true];exact Bool.false_ne_true)]
   rfl
theorem nn{P:Value×List Value→dD→AH→Prop}{ov:Value}{a:Addr}{vs:List Value}{pl:Sem Bool}(hi:er ov= .ref a)(hH:H a=some (.lst vs))(h:P (.builtin "list.append",[ov]) fr H):
  Run cY uK w n env outer ow fr H (getMethod ov "append" pl) P X:=fun A Rk s hs=>
 (hs.inv.rep a _ hH).elim fun xs r=>r.elim fun k r=>r.elim fun sl r=>(t7 hi).symm▸Calls.getMethod_list_append r.1 rfl rfl ⟨fr,H,.refl hs,t7 hi▸h⟩
theorem l6{P:Value×List Value→dD→AH→Prop}{ov:Value}{x:Str}{pl:Sem Bool}(hi:er ov= .str x 0)(h:P (.builtin "str.join",[ov]) fr H):
  Run cY uK w n env outer ow fr H (getMethod ov "join" pl) P X:=fun A Rk s hs=>(ml hi).elim fun zz e=>e.symm▸GM.join ⟨fr,H,.refl hs,e▸h⟩
theorem uo{P:Value×List Value→dD→AH→Prop}{ov:Value}{x:Str}{pl:Sem Bool}(hi:er ov= .str x 0)(h:P (.builtin "str.startswith",[ov]) fr H):
  Run cY uK w n env outer ow fr H (getMethod ov "startswith" pl) P X:=fun A Rk s hs=>(ml hi).elim fun zz e=>e.symm▸GM.startswith ⟨fr,H,.refl hs,e▸h⟩
theorem BI{P:Value×List Value→dD→AH→Prop}(base:AG cY w){ov:Value}{a:Addr}{tb:Tb}{pl:Sem Bool}(hi:er ov= .ref a)(ht:Er a=some tb)(h:P (.builtin "dict.get",[ov]) fr H):
  Run cY uK w n env outer ow fr H (getMethod ov "get" pl) P X:=fun A Rk s hs=>(t7 hi).symm▸getMethod_strTab_get (Bt base hs.inv ht).2 ⟨fr,H,.refl hs,t7 hi▸h⟩
noncomputable def keptOk(f:Value):Bool:=(decide (f.ctorIdx=9) || decide (f.ctorIdx=8)) || (rv f).any F6.contains
theorem aL{A:Around}{s:Shared}{E:Value→Shared→Prop}{pos:Pos}{f:Value}{first:List Value}{trees:List (Bool×Sem Value)}{Q:Value→Shared→Prop}(ht:trees.any (·.1)=false)
  (hk:∀h',(Hd.KF w.params).In h'→∃k,(k=Keeper.frame∨k=Keeper.machine∨k=Keeper.boundFrame)∧Looks (model Hd.pw w) h' (keeperOf f) k)
  (g:wpAny (model Hd.pw w) A (spliced trees) (fun vs s₁=>(Hd.KF w.params).In s₁.heap∧wpAny (model Hd.pw w) A (call f (first++vs)) Q E s₁) E s):
  wpAny (model Hd.pw w) A (callWith pos f first trees []) Q E s:=by
 refine callWith_of (P:=fun h=>(Hd.KF w.params).In h) (by rw[ht];rfl) hk ?_;cases trees with
 |nil=>
  unfold evalArgs;show wpAny _ _ (spliced [] >>= _) _ _ _;exact wpAny_bind (wpAny_mono g (fun vs s' h'=>wpAny_bind (wpAny_pure (wpAny_holding (wpAny_bind (wpAny_pure (wpAny_bind (wpAny_pure (wpAny_pure h')))))))) fun zz zz z=>z)
 |cons p r=>
  cases p with
  |mk b x=>cases b with
   |true=>exact absurd ht Bool.noConfusion
   |false=>exact evalArgs_plain g
theorem Fz{f:Value}(hf:keptOk (er f)=true)(h':Heap)(k:(Hd.KF w.params).In h'):∃k,(k=Keeper.frame∨k=Keeper.machine∨k=Keeper.boundFrame)∧Looks (model Hd.pw w) h' (keeperOf f) k:=
 (Bool.or_eq_true_iff.mp hf).elim (fun hf=>(Bool.or_eq_true_iff.mp hf).elim (fun q=>Value.builtin.elim (motive:=fun f=>∃k,(k=Keeper.frame∨k=Keeper.machine∨k=Keeper.boundFrame)∧Looks (model Hd.pw w) h' (keeperOf f) k) f ((GK f).symm.trans (of_decide_eq_true q)) fun zz=>⟨.machine,.inr (.inl rfl),Looks.now⟩)
  fun q=>Value.type.elim (motive:=fun f=>∃k,(k=Keeper.frame∨k=Keeper.machine∨k=Keeper.boundFrame)∧Looks (model Hd.pw w) h' (keeperOf f) k) f ((GK f).symm.trans (of_decide_eq_true q)) fun zz=>⟨.machine,.inr (.inl rfl),Looks.now⟩)
  fun q=>BQ q fun a e q=>ub e▸keeps_K (U5 w.params q) h' k
theorem gJ{A:Around}{s:Shared}{pos:Pos}{f:Value}{first:List Value}{trees:List (Bool×Sem Value)}{Q:Value→Shared→Prop}{E:Value→Shared→Prop}(hf:keptOk (er f)=true)(ht:trees.any (·.1)=false)
  (g:wpAny (model Hd.pw w) A (spliced trees) (fun vs s₁=>(Hd.KF w.params).In s₁.heap∧wpAny (model Hd.pw w) A (call f (first++vs)) Q E s₁) E s):
  wpAny (model Hd.pw w) A (callWith pos f first trees []) Q E s:=aL ht (Fz hf) g
theorem RF{P:Value→dD→AH→Prop}(base:AG cY w){pos:Pos}{f:Value}{first:List Value}{trees:List (Bool×Sem Value)}(hf:keptOk (er f)=true)(ht:trees.any (·.1)=false)
  (h:Run cY uK w n env outer ow fr H (spliced trees) (fun vs ve H'=>Run cY uK w n env outer ow ve H' (call f (first++vs)) P X) X):
  Run cY uK w n env outer ow fr H (callWith pos f first trees []) P X:=fun A Rk s hs=>
 gJ hf ht (h.go (.refl hs) hs fun vs s₁ gu Dw Wp wi k=>⟨Wp.inv.K base,k.end Wp wi⟩)
end
end
section
set_option genInjectivity false in
set_option genSizeOf false in
inductive Mk where
 |own (C f:Addr)
 |app|join|starts|get|pop|ext
set_option genInjectivity false in
set_option genSizeOf false in
mutual
inductive E where
 |loc (i:Nat)
 |Vt (v:Value)
 |cst (v:Value)
 |gZ (o:E) (f:Fn)
 |call (f:Value) (as:Es)
 |Df (o:E) (k:Mk) (as:Es)
 |bin (op:Operator) (a b:E)
 |neg (k:Nat)
 |not (a:E)
 |cmp (op:CmpOp) (a b:E)
 |V8 (a:E) (op:CmpOp) (b:E) (XY:CmpOp) (c:E)
 |bool (FY:Bool) (es:Es)
 |wJ (c a b:E)
 |sub (a i:E)
 |jk (i:Nat) (lo hi:E)
 |lst (es:Es)
 |tup (es:Es)
 |comp (elt it:E) (t:Nat) (fv:List (Option Nat))
 |qD (elt hi:E) (t:Nat) (fv:List (Option Nat))
 |iU (i k:Nat)
 |dead
inductive Es where
 |nil
 |cons (e:E) (es:Es)
end
set_option genInjectivity false in
set_option genSizeOf false in
inductive S where
 |nil
 |ret (e:E)
 |fK
 |brk
 |cont
 |Tw (i:Nat) (e:E) (r:S)
 |ol (sw:Bool) (is:List Nat) (e:E) (r:S)
 |RY (o:E) (f:Fn) (e:E) (r:S)
 |V5 (o:E) (f:Fn) (op:Operator) (e:E) (r:S)
 |qs (o i e:E) (r:S)
 |expr (e:E) (r:S)
 |ite (c:E) (t e r:S)
 |Wl (c:E) (b r:S)
 |zl (i:Nat) (it:E) (b r:S)
 |XM (is:List Nat) (it:E) (b r:S)
 |GD (i:Nat) (hi:E) (b r:S)
 |gM (i:Nat) (lo hi:E) (b r:S)
 |zX (is:List Nat) (it:E) (b r:S)
 |AR (i:Nat) (e:E) (j:Nat) (e':E) (r:S)
 |dead
noncomputable def cv(Q:Value→dD→AH→Prop)(fr:dD)(H:AH):Option Value→Prop
 |some u=>Q u fr H
 |none=>False
noncomputable def Qr(H:AH)(op:Operator)(x y:Value):Option (List Value):=if op= .Add then(tq H x).bind fun p=>(tq H y).bind fun q=>if p.1=true∧q.1=true∧p.2.length+q.2.length≤10000 then some (p.2++q.2)else none else none
def Ku(Q:Value→dD→AH→Prop)(op:Operator)(x y:Value)(fr:dD)(H:AH):Prop:=match WK op x y with
 |some u=>Q u fr H
 |none=>match Qr H op x y with
  |some l=>∀a,H a=none→zQ (upd H a (.lst l))→Q (.ref a) fr (upd H a (.lst l))
  |none=>False
mutual
inductive Ru(H:AH):Value→PyData→Prop
 |none:Ru H .none .none
 |str (x:Str):Ru H (.str x 0) (.str x)
 |list {a:Addr} {vs:List Value} {ds:List PyData}:H a=some (.lst vs)→WD H vs ds→Ru H (.ref a) (.list ds)
inductive WD(H:AH):List Value→List PyData→Prop
 |nil:WD H [] []
 |cons {v:Value} {vs:List Value} {d:PyData} {ds:List PyData}:Ru H v d→WD H vs ds→WD H (v::vs) (d::ds)
end
inductive OB(H:AH):Value→Value→Bool→Prop
 |data {x y:Value} {d e:PyData}:Ru H x d→Ru H y e→d.canLay0=true→e.canLay0=true→min d.depth e.depth≤200→OB H x y (PyData.eqv d e)
 |some {x y:Value} {u:Value} {us:List Value}:tq H x=some (true,u::us)→tq H y=some (true,[])→OB H x y false
theorem Ru.det{H:AH}{x:Value}{d e:PyData}(h:Ru H x d):Ru H x e→d=e:=by
 induction h using Ru.rec (motive_2:=fun vs ds zz=>∀es,WD H vs es→ds=es) generalizing e with
 |none=>intro h;cases h;rfl
 |str x=>intro h;cases h;rfl
 |list h1 _ ih=>
  intro h;cases h with
  |list h2 h3=>exact R6T PyData.list (ih _ (AO.lst.inj (Y1l (h1.symm.trans h2))▸h3))
 |nil=>rename_i es h;cases h;rfl
 |cons _ _ UK jH=>rename_i es h;cases h with|cons h1 h2=>rw[UK h1,jH _ h2]
theorem Ru.seq{H:AH}{x:Value}{d:PyData}{us:List Value}(h:Ru H x d)(hs:tq H x=some (true,us)):∃ds,d= .list ds∧WD H us ds:=by
 cases h with
 |none|str=>cases hs
 |list h1 h2=>exact⟨_,rfl,(Prod.mk.inj (Y1l ((WF h1).symm.trans hs))).2▸h2⟩
theorem Ru.nil{H:AH}{y:Value}{e:PyData}(h:Ru H y e)(hs:tq H y=some (true,[])):e= .list []:=(h.seq hs).elim fun ds z=>by cases z.2;exact z.1
theorem Ru.cons{H:AH}{x u:Value}{us:List Value}{d:PyData}(h:Ru H x d)(hs:tq H x=some (true,u::us)):∃a as,d= .list (a::as):=(h.seq hs).elim fun ds z=>by cases z.2;exact⟨_,_,z.1⟩
theorem OB.det{H:AH}{x y:Value}{b c:Bool}(h:OB H x y b)(k:OB H x y c):b=c:=by
 cases h with
 |data a1 a2 _ _ _=>cases k with
  |data b1 b2 _ _ _=>rw[a1.det b1,a2.det b2]
  |some s1 s2=>obtain⟨_,_,rfl⟩:=a1.cons s1;rw[a2.nil s2];simp[PyData.eqv,PyData.eqvAll]
 |some s1 s2=>cases k with
  |data b1 b2 _ _ _=>obtain⟨_,_,rfl⟩:=b1.cons s1;rw[b2.nil s2];simp[PyData.eqv,PyData.eqvAll]
  |some _ _=>rfl
noncomputable def wT(H:AH)(x y:Value):Option Bool:=open Classical in if h:∃b,OB H x y b then some h.choose else none
theorem UW{H:AH}{x y:Value}{b:Bool}(h:OB H x y b):wT H x y=some b:=by unfold wT;rw[dif_pos ⟨b,h⟩,(Exists.choose_spec ⟨b,h⟩:OB H x y _).det h]
theorem DN{H:AH}{x y:Value}{b:Bool}(h:wT H x y=some b):OB H x y b:=EQ h fun q e=>Y1l e▸q.choose_spec
noncomputable def Ox(H:AH)(t:String)(vs:List Value):Option (List Value):=if t="list" then l1 vs fun v=>(tq H v).bind fun p=>if p.1=true∧p.2.length≤10000 then some p.2 else none else none
noncomputable def bv(v:Value):Option Bool:=if h:v.ctorIdx=3 then some (Value.bool.elim (motive:=fun zz=>Bool) v h fun x=>x)else none
noncomputable def Jl(t:String)(vs:List Value):Option Value:=if t="str" then l1 vs fun v=>((sv v).bind fun x=>some (.str x 0)).or ((bv v).bind fun b=>some (.str (if b then "True" else "False":Str) 0))else none
noncomputable def tabIn(x y:Value):Option Bool:=(rv y).bind fun a=>((sv x).bind fun x=>(Er a).map fun tb=>(tb.get x).isSome).or ((iv x).bind fun i=>if a=Hd.j6 then some (Sm.any fun p=>p.1==i)else none)
noncomputable def NN(H:AH)(op:CmpOp)(x y:Value):Option Bool:=match op with
 | .In=>(V1 H x y).or (tabIn x y)
 | .NotIn=>(V1 H x y).map (!·)
 | .Eq=>wT H x y
 | .NotEq=>(wT H x y).map (!·)
 |_=>none
noncomputable def Et(H:AH)(op:CmpOp)(x y:Value):Option Bool:=(RM op x y).or (NN H op x y)
noncomputable def ro(H:AH)(x y:Value):Option Value:=(Co H x y).or ((rv x).bind fun a=>(sv y).bind fun k=>(Er a).bind fun tb=>tb.get k)
noncomputable def mv(v:Value):Option (Option Int):=if v.ctorIdx=0 then some none else(iv v).map some
noncomputable def Cb(x lo hi:Value):Option Value:=(sv x).bind fun x=>(mv lo).bind fun l=>(mv hi).bind fun r=>if x.length≤10000000 then some (.str (Txt.slice x l r) 0)else none
noncomputable def uL(H:AH)(v:Value):Option (Nat×List Value):=((sv v).bind fun x=>some (0,x.cps.toList.map fun c=>.str ⟨#[c]⟩ 0)).or ((tq H v).map fun p=>(if p.1 then 1 else 2,p.2))
theorem QY{H:AH}{a:Addr}{b:Bool}{vs:List Value}(h:tq H (.ref a)=some (b,vs)):uL H (.ref a)=some (if b then 1 else 2,vs):=R6T (Option.map fun p:Bool×List Value=>(if p.1 then 1 else 2,p.2)) h
noncomputable def DX(o:Value)(vs:List Value):Option Value:=(rv o).bind fun a=>l2 vs fun v d=>(sv v).bind fun x=>(Er a).bind fun tb=>if jo d=true then some ((tb.get x).getD d)else none
noncomputable def zk(e:Expr):Bool:= !decide (e.ctorIdx=7)
noncomputable def XN(ns names:List (Str×NameKind)):List (Str×NameKind):=names.map fun p=>if(p.2==NameKind.free&&ns.lookup p.1==some NameKind.cell)then(p.1,NameKind.cell)else p
noncomputable def G6(ns names:List (Str×NameKind))(fv:List (Option Nat)):Bool:=fv.length==names.length&&(names.zip fv).all fun p=>p.2.elim (p.1.2 != NameKind.free) fun j=>p.1.2==NameKind.free&&ns[j]? ==some (p.1.1,NameKind.cell)
noncomputable def Vx(ns:List (Str×NameKind))(scope:Scope)(x:Str)(t:Nat)(fv:List (Option Nat)):Bool:=
 decide (scope.kind= .function)&&decide ((scope.names.map (·.1)).Nodup)&&scope.names.all (fun p=>p.2 != .cell)&&(scope.names[t]? ==some (x,.local))&&G6 ns scope.names fv
noncomputable def uh(fr:dD)(fv:List (Option Nat))(t:Nat)(x:Value):dD:=(fv.map fun o=>o.bind fun j=>(fr[j]?).join).set t (some x)
noncomputable def ik(fr:dD)(fv:List (Option Nat)):Bool:=fv.all fun o=>o.elim true fun j=>((fr[j]?).join:Option Value).isSome
noncomputable def W5(k:Nat):List Value:=(List.range k).map fun(i:Nat)=>.int (0+i*1) 0
def Rj(cY:Heap)(H:AH)(u:Value)(us:List Value):Prop:=tq H u=some (true,us)∨∃(a:Addr)(xs:Array Value),u= .ref a∧cY.IsList a xs∧xs.toList.map er=us
set_option genInjectivity false in
set_option genSizeOf false in
inductive Fl where
 |next|brk|cont
 |ret (v:Value)
noncomputable def dj(is:List Nat)(vs:List Value)(fr:dD):dD:=(is.zip vs).foldl (fun fr p=>fr.set p.1 (some p.2)) fr
noncomputable abbrev KQ:=Value→dD→AH→Prop
noncomputable abbrev KL:=List Value→dD→AH→Prop
noncomputable abbrev KF:=Fl→dD→AH→Prop
noncomputable abbrev KT:=KQ→dD→AH→Prop
noncomputable abbrev wU:=KL→dD→AH→Prop
noncomputable abbrev Mo:=KF→dD→AH→Prop
section
variable(cY:Heap)(uK:OsState)(w:World)(n:Nat)(X:AH→Prop)
def sH(Q:Value→dD→AH→Prop)(t:String)(vs:List Value)(fr:dD)(H:AH):Prop:=match Jl t vs with
 |some u=>Q u fr H
 |none=>match Ox H t vs with
  |some l=>∀a,H a=none→zQ (upd H a (.lst l))→Q (.ref a) fr (upd H a (.lst l))
  |none=>False
def vW(Q:Value→dD→AH→Prop)(f:Value)(vs:List Value)(fr:dD)(H:AH):Prop:=match f with
 | .builtin id=>cv Q fr H (MG H id vs)
 | .type t=>sH Q t vs fr H
 | .ref a=>T2 cY uK w n (.ref a) vs H (fun v H'=>zQ H'→Q v fr H') X
 |_=>False
def g9(k:Mk)(o:Value)(H:AH):Prop:=match k with
 | .own C _=>SU H o C
 | .app| .pop| .ext=>∃a vs,o= .ref a∧H a=some (.lst vs)
 | .join| .starts=>∃x,o= .str x 0
 | .get=>∃a tb,o= .ref a∧Er a=some tb
def Z5(Q:Value→dD→AH→Prop)(k:Mk)(o:Value)(vs:List Value)(fr:dD)(H:AH):Prop:=match k with
 | .own _ f=>T2 cY uK w n (.ref f) (o::vs) H (fun v H'=>zQ H'→Q v fr H') X
 | .app=>∃a us u,o= .ref a∧H a=some (.lst us)∧us.length<10000∧vs= [u]∧Q .none fr (upd H a (.lst (us++[u])))
 | .pop=>∃a us u,o= .ref a∧H a=some (.lst (us++[u]))∧us.length<10000∧vs= []∧Q u fr (upd H a (.lst us))
 | .ext=>∃a us b ws,o= .ref a∧H a=some (.lst us)∧vs= [.ref b]∧b≠a∧H b=some (.lst ws)∧us.length+ws.length<10000∧Q .none fr (upd H a (.lst (us++ws)))
 | .join=>cv Q fr H (MG H "str.join" (o::vs))
 | .starts=>cv Q fr H (MG H "str.startswith" (o::vs))
 | .get=>cv Q fr H (DX o vs)
noncomputable def NG(Q:KQ)(fr:dD):Value→AH→Prop:=fun v H=>zQ H→Q v fr H
def Fg(f:Fn)(Q:KQ)(v:Value)(fr:dD)(H:AH):Prop:=cv Q fr H (Ij H v f)
def WM(f:Value)(Q:KQ)(vs:List Value)(fr:dD)(H:AH):Prop:=vW cY uK w n X Q f vs fr H
def qf(k:Mk)(o:Value)(Q:KQ)(vs:List Value)(fr:dD)(H:AH):Prop:=Z5 cY uK w n X Q k o vs fr H
def w7(k:Mk)(as:wU)(Q:KQ)(o:Value)(fr:dD)(H:AH):Prop:=g9 k o H∧as (qf cY uK w n X k o Q) fr H
def Ie(op:Operator)(x:Value)(Q:KQ)(y:Value)(fr:dD)(H:AH):Prop:=Ku Q op x y fr H
def mI(op:Operator)(b:KT)(Q:KQ)(x:Value)(fr:dD)(H:AH):Prop:=b (Ie op x Q) fr H
def bF(Q:KQ)(v:Value)(fr:dD)(H:AH):Prop:=match v with| .bool b=>Q (.bool !b) fr H|_=>False
def dU(op:CmpOp)(x:Value)(Q:KQ)(y:Value)(fr:dD)(H:AH):Prop:=(Et H op x y).elim False fun r=>Q (.bool r) fr H
def Cg(op:CmpOp)(b:KT)(Q:KQ)(x:Value)(fr:dD)(H:AH):Prop:=b (dU op x Q) fr H
def Ig(op XY:CmpOp)(c:KT)(x:Value)(Q:KQ)(y:Value)(fr:dD)(H:AH):Prop:=match Et H op x y with
  |some true=>c (dU XY y Q) fr H
  |some false=>Q (.bool false) fr H
  |none=>False
def dg(op:CmpOp)(b:KT)(XY:CmpOp)(c:KT)(Q:KQ)(x:Value)(fr:dD)(H:AH):Prop:=b (Ig op XY c x Q) fr H
def Av(a b:KT)(Q:KQ)(v:Value)(fr:dD)(H:AH):Prop:=match v with| .bool true=>a Q fr H| .bool false=>b Q fr H|_=>False
def eT(x:Value)(Q:KQ)(y:Value)(fr:dD)(H:AH):Prop:=cv Q fr H (ro H x y)
def dQ(i:KT)(Q:KQ)(x:Value)(fr:dD)(H:AH):Prop:=i (eT x Q) fr H
def J7(v x:Value)(Q:KQ)(y:Value)(fr:dD)(H:AH):Prop:=cv Q fr H (Cb v x y)
def Am(v:Value)(hi:KT)(Q:KQ)(x:Value)(fr:dD)(H:AH):Prop:=hi (J7 v x Q) fr H
def HW(lo hi:KT)(Q:KQ)(v:Value)(fr:dD)(H:AH):Prop:=lo (Am v hi Q) fr H
def d5(Q:KQ)(vs:List Value)(fr:dD)(H:AH):Prop:=∀a,H a=none→zQ (upd H a (.lst vs))→Q (.ref a) fr (upd H a (.lst vs))
def JW(Q:KQ)(vs:List Value)(fr:dD)(H:AH):Prop:=∀a,H a=none→zQ (upd H a (.tup vs))→Q (.ref a) fr (upd H a (.tup vs))
def c9(v:Value)(Q:KL)(vs:List Value)(fr:dD)(H:AH):Prop:=Q (v::vs) fr H
def sk(es:wU)(Q:KL)(v:Value)(fr:dD)(H:AH):Prop:=es (c9 v Q) fr H
def DQ(FY:Bool)(es:KT)(Q:KQ)(v:Value)(fr:dD)(H:AH):Prop:=match v with
   | .bool b=>if b=FY then es Q fr H else Q (.bool b) fr H
   |_=>False
def iu(Q:KF)(v:Value)(fr:dD)(H:AH):Prop:=Q (.ret v) fr H
def bT(i:Nat)(r:Mo)(Q:KF)(v:Value)(fr:dD)(H:AH):Prop:=r Q (fr.set i (some v)) H
def WL(sw:Bool)(is:List Nat)(r:Mo)(Q:KF)(v:Value)(fr:dD)(H:AH):Prop:=match tq H v with|some (false,vs)=>vs.length=is.length∧r Q (if sw then dj is.reverse vs.reverse fr else dj is vs fr) H|_=>False
def U0(f:Fn)(v:Value)(r:Mo)(Q:KF)(ov:Value)(fr:dD)(H:AH):Prop:=(AV H ov f v).elim False fun H'=>r Q fr H'
def lX(o:KT)(f:Fn)(r:Mo)(Q:KF)(v:Value)(fr:dD)(H:AH):Prop:=o (U0 f v r Q) fr H
noncomputable def cU(op:Operator)(x y:Value):Option Value:=if op= .Add then i2 x y fun a b=>some (.int (a+b) 0)else if op= .Sub then i2 x y fun a b=>some (.int (a-b) 0)else none
def E0(ov old:Value)(f:Fn)(op:Operator)(r:Mo)(Q:KF)(v:Value)(fr:dD)(H:AH):Prop:=(cU op old v).elim False fun u=>U0 f u r Q ov fr H
theorem T4{ov:Value}{a b:Int}{s t:Tok}{f:Fn}{r:Mo}{Q:KF}{fr:dD}{H:AH}:E0 ov (.int a s) f .Add r Q (.int b t) fr H=U0 f (.int (a+b) 0) r Q ov fr H:=rfl
theorem Xx{ov:Value}{a b:Int}{s t:Tok}{f:Fn}{r:Mo}{Q:KF}{fr:dD}{H:AH}:E0 ov (.int a s) f .Sub r Q (.int b t) fr H=U0 f (.int (a-b) 0) r Q ov fr H:=rfl
def kz(f:Fn)(op:Operator)(e:KT)(r:Mo)(Q:KF)(ov:Value)(fr:dD)(H:AH):Prop:=cv (fun old=>e (E0 ov old f op r Q)) fr H (Ij H ov f)
def kEx(r:Mo)(Q:KF)(_:Value)(fr:dD)(H:AH):Prop:=r Q fr H
def HI(r:Mo)(Q:KF)(fl:Fl)(fr:dD)(H:AH):Prop:=match fl with| .next=>r Q fr H|fl=>Q fl fr H
def BB(t e r:Mo)(Q:KF)(v:Value)(fr:dD)(H:AH):Prop:=match v with
  | .bool true=>t (HI r Q) fr H
  | .bool false=>e (HI r Q) fr H
  |_=>False
def Qw(I:Nat→dD→AH→Prop)(k:Nat)(r:Mo)(Q:KF)(fl:Fl)(fr:dD)(H:AH):Prop:=match fl with
    | .next| .cont=>I (k+1) fr H
    | .brk=>r Q fr H
    | .ret v=>Q (.ret v) fr H
def Oq(I:Nat→dD→AH→Prop)(k:Nat)(r:Mo)(Q:KF)(fl:Fl)(fr:dD)(H:AH):Prop:=match fl with
    | .next| .cont=>∃m,m<k∧I m fr H
    | .brk=>r Q fr H
    | .ret v=>Q (.ret v) fr H
def OK(I:Nat→dD→AH→Prop)(k:Nat)(b r:Mo)(Q:KF)(v:Value)(fr:dD)(H:AH):Prop:=match v with
  | .bool true=>b (Oq I k r Q) fr H
  | .bool false=>r Q fr H
  |_=>False
def oY(I:Nat→dD→AH→Prop)(m:Nat)(r:Mo)(Q:KF):Prop:=∀fr H,I m fr H→r Q fr H
def gn(j:Nat)(r:Mo)(Q:KF)(u:Value)(fr:dD)(H:AH):Prop:=r Q (fr.set j (some u)) H
def OE(i:Nat)(j:Nat)(e':KT)(r:Mo)(Q:KF)(v:Value)(fr:dD)(H:AH):Prop:=e' (gn j r Q) (fr.set i (some v)) H
def SD(v ov:Value)(r:Mo)(Q:KF)(iv:Value)(fr:dD)(H:AH):Prop:=∃a vs k,ov= .ref a∧(H a=some (.lst vs)∨H a=some (.Ab vs))∧iv= .int k 0∧0≤k∧k<vs.length∧vs.length<10000∧r Q fr (upd H a (.Ab (vs.set k.toNat v)))
def cM(v:Value)(i:KT)(r:Mo)(Q:KF)(ov:Value)(fr:dD)(H:AH):Prop:=i (SD v ov r Q) fr H
def Fk(o i:KT)(r:Mo)(Q:KF)(v:Value)(fr:dD)(H:AH):Prop:=o (cM v i r Q) fr H
def Uk(i:Nat)(b r:Mo)(Q:KF)(v:Value)(fr:dD)(H:AH):Prop:=∃kd items,uL H v=some (kd,items)∧∃I:Nat→dD→AH→Prop,I 0 fr H∧(∀k fr H,I k fr H→uL H v=some (kd,items))∧
   (∀k x fr H,items[k]? =some x→I k fr H→b (Qw I k r Q) (fr.set i (some x)) H)∧oY I items.length r Q
def GZ(is:List Nat)(b r:Mo)(Q:KF)(v:Value)(fr:dD)(H:AH):Prop:=∃items,uL H v=some (1,items)∧∃I:Nat→dD→AH→Prop,I 0 fr H∧(∀k fr H,I k fr H→uL H v=some (1,items))∧
   (∀k x fr H,items[k]? =some x→I k fr H→∃vs,tq H x=some (false,vs)∧vs.length=is.length∧b (Qw I k r Q) (dj is vs fr) H)∧oY I items.length r Q
def kFor(i:Nat)(b r:Mo)(Q:KF)(v:Value)(fr:dD)(H:AH):Prop:=∃m:Nat,v= .int m 0∧m≤10000∧∃I:Nat→dD→AH→Prop,I 0 fr H∧
   (∀k x fr H,(W5 m)[k]? =some x→I k fr H→b (Qw I k r Q) (fr.set i (some x)) H)∧oY I m r Q
def Hr(i:Nat)(u:Value)(b r:Mo)(Q:KF)(v:Value)(fr:dD)(H:AH):Prop:=∃a c:Int,u= .int a 0∧v= .int c 0∧a.natAbs≤10000∧c.natAbs≤10000∧∃I:Nat→dD→AH→Prop,I 0 fr H∧
   (∀k fr H,k<(c-a).toNat→I k fr H→b (Qw I k r Q) (fr.set i (some (.int (a+k) 0))) H)∧oY I (c-a).toNat r Q
def PU(i:Nat)(hi:KT)(b r:Mo)(Q:KF)(u:Value)(fr:dD)(H:AH):Prop:=hi (Hr i u b r Q) fr H
def CB(is:List Nat)(b r:Mo)(Q:KF)(v:Value)(fr:dD)(H:AH):Prop:=∃x:Str,v= .str x 0∧∃I:Nat→dD→AH→Prop,I 0 fr H∧
   (∀k c fr H,x.cps[k]? =some c→I k fr H→b (Qw I k r Q) (dj is [.int k 0,.str ⟨#[c]⟩ 0] fr) H)∧oY I x.cps.size r Q
def Xe(I:Nat→List Value→AH→Prop)(k:Nat)(acc:List Value)(u:Value)(_:dD)(H:AH):Prop:=I (k+1) (acc++[u]) H
def IT(I:Nat→List Value→AH→Prop)(m:Nat)(Q:KQ)(fr:dD):Prop:=∀acc Dw,I m acc Dw→∀a,Dw a=none→zQ (upd Dw a (.lst acc))→Q (.ref a) fr (upd Dw a (.lst acc))
def wN(elt:KT)(t:Nat)(fv:List (Option Nat))(Q:KQ)(v:Value)(fr:dD)(H:AH):Prop:=∃kd items,uL H v=some (kd,items)∧items.length≤10000∧∃I:Nat→List Value→AH→Prop,I 0 [] H∧
   (∀k acc H,I k acc H→uL H v=some (kd,items)∧acc.length=k)∧
   (∀k x acc Dw,items[k]? =some x→I k acc Dw→elt (Xe I k acc) (uh fr fv t x) Dw)∧IT I items.length Q fr
def oU(elt:KT)(t:Nat)(fv:List (Option Nat))(Q:KQ)(v:Value)(fr:dD)(H:AH):Prop:=∃m:Nat,v= .int m 0∧m≤10000∧∃I:Nat→List Value→AH→Prop,I 0 [] H∧
   (∀k acc H,I k acc H→acc.length=k)∧
   (∀k x acc Dw,(W5 m)[k]? =some x→I k acc Dw→elt (Xe I k acc) (uh fr fv t x) Dw)∧IT I m Q fr
mutual
noncomputable def jd:E→KT
 | .loc i=>fun Q fr H=>cv Q fr H (fr[i]?).join
 | .Vt v=>fun Q fr H=>Q v fr H
 | .cst v=>fun Q fr H=>Q v fr H
 | .gZ o f=>fun Q fr H=>jd o (Fg f Q) fr H
 | .call f as=>fun Q fr H=>bU as (WM cY uK w n X f Q) fr H
 | .Df o k as=>fun Q fr H=>jd o (w7 cY uK w n X k (bU as) Q) fr H
 | .bin op a b=>fun Q fr H=>jd a (mI op (jd b) Q) fr H
 | .neg k=>fun Q fr H=>Q (.int (-k) 0) fr H
 | .not a=>fun Q fr H=>jd a (bF Q) fr H
 | .cmp op a b=>fun Q fr H=>jd a (Cg op (jd b) Q) fr H
 | .V8 a op b XY c=>fun Q fr H=>jd a (dg op (jd b) XY (jd c) Q) fr H
 | .bool FY es=>fun Q fr H=>Kc FY es Q fr H
 | .wJ c a b=>fun Q fr H=>jd c (Av (jd a) (jd b) Q) fr H
 | .sub a i=>fun Q fr H=>jd a (dQ (jd i) Q) fr H
 | .jk i lo hi=>fun Q fr H=>cv (HW (jd lo) (jd hi) Q) fr H (fr[i]?).join
 | .lst es=>fun Q fr H=>bU es (d5 Q) fr H
 | .tup es=>fun Q fr H=>bU es (JW Q) fr H
 | .comp elt it t fv=>fun Q fr H=>ik fr fv=true∧(∀H,¬X H)∧jd it (wN (jd elt) t fv Q) fr H
 | .qD elt hi t fv=>fun Q fr H=>ik fr fv=true∧(∀H,¬X H)∧jd hi (oU (jd elt) t fv Q) fr H
 | .iU i k=>fun Q fr H=>∃u us,(fr[i]?).join=some u∧Rj cY H u us∧us.length≤10000∧∀a,H a=none→zQ (upd H a (.lst (us.take k)))→Q (.ref a) fr (upd H a (.lst (us.take k)))
 | .dead=>fun zz zz zz=>False
noncomputable def bU:Es→wU
 | .nil=>fun Q fr H=>Q [] fr H
 | .cons e es=>fun Q fr H=>jd e (sk (bU es) Q) fr H
noncomputable def Kc:Bool→Es→KT
 |_,.nil=>fun zz zz zz=>False
 |FY,.cons e es=>match es with
  | .nil=>jd e
  | .cons _ _=>fun Q fr H=>jd e (DQ FY (Kc FY es) Q) fr H
end
noncomputable def wpS:S→Mo
 | .nil=>fun Q fr H=>Q .next fr H
 | .ret e=>fun Q fr H=>jd cY uK w n X e (iu Q) fr H
 | .fK=>fun Q fr H=>Q (.ret .none) fr H
 | .brk=>fun Q fr H=>Q .brk fr H
 | .cont=>fun Q fr H=>Q .cont fr H
 | .Tw i e r=>fun Q fr H=>jd cY uK w n X e (bT i (wpS r) Q) fr H
 | .ol sw is e r=>fun Q fr H=>jd cY uK w n X e (WL sw is (wpS r) Q) fr H
 | .RY o f e r=>fun Q fr H=>jd cY uK w n X e (lX (jd cY uK w n X o) f (wpS r) Q) fr H
 | .V5 o f op e r=>fun Q fr H=>jd cY uK w n X o (kz f op (jd cY uK w n X e) (wpS r) Q) fr H
 | .qs o i e r=>fun Q fr H=>jd cY uK w n X e (Fk (jd cY uK w n X o) (jd cY uK w n X i) (wpS r) Q) fr H
 | .expr e r=>fun Q fr H=>jd cY uK w n X e (kEx (wpS r) Q) fr H
 | .ite c t e r=>fun Q fr H=>jd cY uK w n X c (BB (wpS t) (wpS e) (wpS r) Q) fr H
 | .Wl c b r=>fun Q fr H=>∃I:Nat→dD→AH→Prop,(∃k,I k fr H)∧∀k fr H,I k fr H→jd cY uK w n X c (OK I k (wpS b) (wpS r) Q) fr H
 | .zl i it b r=>fun Q fr H=>jd cY uK w n X it (Uk i (wpS b) (wpS r) Q) fr H
 | .XM is it b r=>fun Q fr H=>jd cY uK w n X it (GZ is (wpS b) (wpS r) Q) fr H
 | .GD i hi b r=>fun Q fr H=>jd cY uK w n X hi (kFor i (wpS b) (wpS r) Q) fr H
 | .gM i lo hi b r=>fun Q fr H=>jd cY uK w n X lo (PU i (jd cY uK w n X hi) (wpS b) (wpS r) Q) fr H
 | .zX is it b r=>fun Q fr H=>jd cY uK w n X it (CB is (wpS b) (wpS r) Q) fr H
 | .AR i e j e' r=>fun Q fr H=>jd cY uK w n (fun H=>Q (.ret .none) [] H) e (OE i j (jd cY uK w n (fun H=>Q (.ret .none) [] H) e') (wpS r) Q) fr H
 | .dead=>fun zz zz zz=>False
end
end
section
section
variable{cY:Heap}{uK:OsState}{w:World}{n:Nat}{X:AH→Prop}
section
variable{Q:KF}{fr:dD}{H:AH}
theorem Rv{c b r}:wpS cY uK w n X (.Wl c b r) Q fr H= ∃I:Nat→dD→AH→Prop,(∃k,I k fr H)∧∀k fr H,I k fr H→jd cY uK w n X c (OK I k (wpS cY uK w n X b) (wpS cY uK w n X r) Q) fr H:=rfl
theorem Gn{i it b r}:wpS cY uK w n X (.zl i it b r) Q fr H=jd cY uK w n X it (Uk i (wpS cY uK w n X b) (wpS cY uK w n X r) Q) fr H:=rfl
theorem JC{is it b r}:wpS cY uK w n X (.XM is it b r) Q fr H=jd cY uK w n X it (GZ is (wpS cY uK w n X b) (wpS cY uK w n X r) Q) fr H:=rfl
theorem KY{i hi b r}:wpS cY uK w n X (.GD i hi b r) Q fr H=jd cY uK w n X hi (kFor i (wpS cY uK w n X b) (wpS cY uK w n X r) Q) fr H:=rfl
theorem xi{i lo hi b r}:wpS cY uK w n X (.gM i lo hi b r) Q fr H=jd cY uK w n X lo (PU i (jd cY uK w n X hi) (wpS cY uK w n X b) (wpS cY uK w n X r) Q) fr H:=rfl
theorem Cz{is it b r}:wpS cY uK w n X (.zX is it b r) Q fr H=jd cY uK w n X it (CB is (wpS cY uK w n X b) (wpS cY uK w n X r) Q) fr H:=rfl
theorem Lk{i e j e' r}:wpS cY uK w n X (.AR i e j e' r) Q fr H=jd cY uK w n (fun H=>Q (.ret .none) [] H) e (OE i j (jd cY uK w n (fun H=>Q (.ret .none) [] H) e') (wpS cY uK w n X r) Q) fr H:=rfl
theorem BU{o i e r}:wpS cY uK w n X (.qs o i e r) Q fr H=jd cY uK w n X e (Fk (jd cY uK w n X o) (jd cY uK w n X i) (wpS cY uK w n X r) Q) fr H:=rfl
theorem to{Q:KQ}{elt it t fv}:jd cY uK w n X (.comp elt it t fv) Q fr H=(ik fr fv=true∧(∀H,¬X H)∧jd cY uK w n X it (wN (jd cY uK w n X elt) t fv Q) fr H):=rfl
theorem R2{Q:KQ}{elt hi t fv}:jd cY uK w n X (.qD elt hi t fv) Q fr H=(ik fr fv=true∧(∀H,¬X H)∧jd cY uK w n X hi (oU (jd cY uK w n X elt) t fv Q) fr H):=rfl
theorem mf{Q:KQ}{i k}:jd cY uK w n X (.iU i k) Q fr H= ∃u us,(fr[i]?).join=some u∧Rj cY H u us∧us.length≤10000∧∀a,H a=none→zQ (upd H a (.lst (us.take k)))→Q (.ref a) fr (upd H a (.lst (us.take k))):=rfl
theorem nZ{t e r:Mo}{b}(h:b=true)(g:t (HI r Q) fr H):BB t e r Q (.bool b) fr H:=h▸g
theorem wG{t e r:Mo}{b}(h:b=false)(g:e (HI r Q) fr H):BB t e r Q (.bool b) fr H:=h▸g
theorem gX{i j:Nat}{r:Mo}{a:Addr}{u v:Value}(h:H a=some (.tup [u,v]))(g:r Q ((fr.set j (some v)).set i (some u)) H):WL true [i,j] r Q (.ref a) fr H:=by unfold WL;rw[WF h];exact⟨rfl,g⟩
theorem YB{i j k:Nat}{r:Mo}{a:Addr}{u v x:Value}(h:H a=some (.tup [u,v,x]))(g:r Q (((fr.set k (some x)).set j (some v)).set i (some u)) H):WL true [i,j,k] r Q (.ref a) fr H:=by unfold WL;rw[WF h];exact⟨rfl,g⟩
theorem f2T{I k}{b r:Mo}:OK I k b r Q (.bool true) fr H=b (Oq I k r Q) fr H:=rfl
theorem K58{I k}{b r:Mo}:OK I k b r Q (.bool false) fr H=r Q fr H:=rfl
end
section
variable{Q:KQ}{fr:dD}{H:AH}
theorem TX{i}:jd cY uK w n X (.loc i) Q fr H=cv Q fr H (fr[i]?).join:=rfl
theorem F3{v}:jd cY uK w n X (.Vt v) Q fr H=Q v fr H:=rfl
theorem Db{v}:jd cY uK w n X (.cst v) Q fr H=Q v fr H:=rfl
theorem Rx{o f}:jd cY uK w n X (.gZ o f) Q fr H=jd cY uK w n X o (Fg f Q) fr H:=rfl
theorem x_call{f as}:jd cY uK w n X (.call f as) Q fr H=bU cY uK w n X as (WM cY uK w n X f Q) fr H:=rfl
theorem dA{o k as}:jd cY uK w n X (.Df o k as) Q fr H=jd cY uK w n X o (w7 cY uK w n X k (bU cY uK w n X as) Q) fr H:=rfl
theorem Wi{op a b}:jd cY uK w n X (.bin op a b) Q fr H=jd cY uK w n X a (mI op (jd cY uK w n X b) Q) fr H:=rfl
theorem JJ{k}:jd cY uK w n X (.neg k) Q fr H=Q (.int (-k) 0) fr H:=rfl
theorem nG{a}:jd cY uK w n X (.not a) Q fr H=jd cY uK w n X a (bF Q) fr H:=rfl
theorem MH{op a b}:jd cY uK w n X (.cmp op a b) Q fr H=jd cY uK w n X a (Cg op (jd cY uK w n X b) Q) fr H:=rfl
theorem OX{a op b XY c}:jd cY uK w n X (.V8 a op b XY c) Q fr H=jd cY uK w n X a (dg op (jd cY uK w n X b) XY (jd cY uK w n X c) Q) fr H:=rfl
theorem Uw{b es}:jd cY uK w n X (.bool b es) Q fr H=Kc cY uK w n X b es Q fr H:=rfl
theorem pt{c a b}:jd cY uK w n X (.wJ c a b) Q fr H=jd cY uK w n X c (Av (jd cY uK w n X a) (jd cY uK w n X b) Q) fr H:=rfl
theorem uQ{a i}:jd cY uK w n X (.sub a i) Q fr H=jd cY uK w n X a (dQ (jd cY uK w n X i) Q) fr H:=rfl
theorem yW{i lo hi}:jd cY uK w n X (.jk i lo hi) Q fr H=cv (HW (jd cY uK w n X lo) (jd cY uK w n X hi) Q) fr H (fr[i]?).join:=rfl
theorem yh{es}:jd cY uK w n X (.lst es) Q fr H=bU cY uK w n X es (d5 Q) fr H:=rfl
theorem C7{es}:jd cY uK w n X (.tup es) Q fr H=bU cY uK w n X es (JW Q) fr H:=rfl
theorem md{Q:KL}:bU cY uK w n X .nil Q fr H=Q [] fr H:=rfl
theorem LY{e es}{Q:KL}:bU cY uK w n X (.cons e es) Q fr H=jd cY uK w n X e (sk (bU cY uK w n X es) Q) fr H:=rfl
theorem re{b e}:Kc cY uK w n X b (.cons e .nil) Q fr H=jd cY uK w n X e Q fr H:=rfl
theorem rD{b e e' es}:Kc cY uK w n X b (.cons e (.cons e' es)) Q fr H=jd cY uK w n X e (DQ b (Kc cY uK w n X b (.cons e' es)) Q) fr H:=rfl
theorem Ub{a vs}:WM cY uK w n X (.ref a) Q vs fr H=T2 cY uK w n (.ref a) vs H (NG Q fr) X:=rfl
theorem L1l{f vs}:WM cY uK w n X (.builtin f) Q vs fr H=cv Q fr H (MG H f vs):=rfl
theorem g29{f vs}:WM cY uK w n X (.type f) Q vs fr H=sH Q f vs fr H:=rfl
theorem sT{C f o vs}:qf cY uK w n X (.own C f) o Q vs fr H=T2 cY uK w n (.ref f) (o::vs) H (NG Q fr) X:=rfl
theorem gE{o vs}:qf cY uK w n X .app o Q vs fr H= ∃a us u,o= .ref a∧H a=some (.lst us)∧us.length<10000∧vs= [u]∧Q .none fr (upd H a (.lst (us++[u]))):=rfl
theorem FK{o vs}:qf cY uK w n X .pop o Q vs fr H= ∃a us u,o= .ref a∧H a=some (.lst (us++[u]))∧us.length<10000∧vs= []∧Q u fr (upd H a (.lst us)):=rfl
theorem oh{o vs}:qf cY uK w n X .ext o Q vs fr H= ∃a us b ws,o= .ref a∧H a=some (.lst us)∧vs= [.ref b]∧b≠a∧H b=some (.lst ws)∧us.length+ws.length<10000∧Q .none fr (upd H a (.lst (us++ws))):=rfl
theorem Pl{o vs}:qf cY uK w n X .join o Q vs fr H=cv Q fr H (MG H "str.join" (o::vs)):=rfl
theorem Pj{o vs}:qf cY uK w n X .starts o Q vs fr H=cv Q fr H (MG H "str.startswith" (o::vs)):=rfl
theorem zo{o vs}:qf cY uK w n X .get o Q vs fr H=cv Q fr H (DX o vs):=rfl
theorem EO{x y:KT}{b}(h:b=true)(g:x Q fr H):Av x y Q (.bool b) fr H:=h▸g
theorem Pp{x y:KT}{b}(h:b=false)(g:y Q fr H):Av x y Q (.bool b) fr H:=h▸g
theorem zi{x:KT}{b}(h:b=true)(g:x Q fr H):DQ true x Q (.bool b) fr H:=by subst h;exact g
theorem UU{x:KT}{b}(h:b=false)(g:Q (.bool false) fr H):DQ true x Q (.bool b) fr H:=by subst h;exact g
theorem HR{x:KT}{b}(h:b=true)(g:Q (.bool true) fr H):DQ false x Q (.bool b) fr H:=by subst h;exact g
theorem Oe{x:KT}{b}(h:b=false)(g:x Q fr H):DQ false x Q (.bool b) fr H:=by subst h;exact g
theorem Dr{o:Option Bool}{b:Bool}{F:Bool→Prop}(h:o=some b)(g:F b):o.elim False F:=by subst h;exact g
theorem Ni{o:Option AH}{b:AH}{F:AH→Prop}(h:o=some b)(g:F b):o.elim False F:=by subst h;exact g
theorem II{b}:bF Q (.bool b) fr H=Q (.bool !b) fr H:=rfl
theorem wA{a b:KT}:Av a b Q (.bool true) fr H=a Q fr H:=rfl
theorem v7{a b:KT}:Av a b Q (.bool false) fr H=b Q fr H:=rfl
theorem G9{es:KT}:DQ true es Q (.bool true) fr H=es Q fr H:=rfl
theorem iS{es:KT}:DQ true es Q (.bool false) fr H=Q (.bool false) fr H:=rfl
theorem eF{es:KT}:DQ false es Q (.bool true) fr H=Q (.bool true) fr H:=rfl
theorem oS{es:KT}:DQ false es Q (.bool false) fr H=es Q fr H:=rfl
end
section
variable{Q:KF}{fr:dD}{H:AH}
theorem kv:wpS cY uK w n X .nil Q fr H=Q .next fr H:=rfl
theorem y_ret{e}:wpS cY uK w n X (.ret e) Q fr H=jd cY uK w n X e (iu Q) fr H:=rfl
theorem tP:wpS cY uK w n X .fK Q fr H=Q (.ret .none) fr H:=rfl
theorem Z7:wpS cY uK w n X .brk Q fr H=Q .brk fr H:=rfl
theorem ZM:wpS cY uK w n X .cont Q fr H=Q .cont fr H:=rfl
theorem Q9{i e r}:wpS cY uK w n X (.Tw i e r) Q fr H=jd cY uK w n X e (bT i (wpS cY uK w n X r) Q) fr H:=rfl
theorem Ek{sw is e r}:wpS cY uK w n X (.ol sw is e r) Q fr H=jd cY uK w n X e (WL sw is (wpS cY uK w n X r) Q) fr H:=rfl
theorem I2{o f e r}:wpS cY uK w n X (.RY o f e r) Q fr H=jd cY uK w n X e (lX (jd cY uK w n X o) f (wpS cY uK w n X r) Q) fr H:=rfl
theorem FV{o f op e r}:wpS cY uK w n X (.V5 o f op e r) Q fr H=jd cY uK w n X o (kz f op (jd cY uK w n X e) (wpS cY uK w n X r) Q) fr H:=rfl
theorem dC{e r}:wpS cY uK w n X (.expr e r) Q fr H=jd cY uK w n X e (kEx (wpS cY uK w n X r) Q) fr H:=rfl
theorem AT{c t e r}:wpS cY uK w n X (.ite c t e r) Q fr H=jd cY uK w n X c (BB (wpS cY uK w n X t) (wpS cY uK w n X e) (wpS cY uK w n X r) Q) fr H:=rfl
theorem k_t{t e r:Mo}:BB t e r Q (.bool true) fr H=t (HI r Q) fr H:=rfl
theorem k_f{t e r:Mo}:BB t e r Q (.bool false) fr H=e (HI r Q) fr H:=rfl
theorem rV{r:Mo}:HI r Q .next fr H=r Q fr H:=rfl
theorem P2Q{r:Mo}{v}:HI r Q (.ret v) fr H=Q (.ret v) fr H:=rfl
theorem M7t{r:Mo}:HI r Q .brk fr H=Q .brk fr H:=rfl
theorem r50{r:Mo}:HI r Q .cont fr H=Q .cont fr H:=rfl
end
end
end
noncomputable def Zi:List (Str×Value):=[(("is_among":Str),.ref Hd.HT),(("is_white":Str),.ref Hd.ki),(("is_line_end":Str),.ref Hd.wF),(("is_digit":Str),.ref Hd.wM),(("is_id_start":Str),.ref Hd.DF),(("is_id_part":Str),.ref Hd.dq),(("show_text":Str),.ref Hd.jR),(("show_name":Str),.ref Hd.Mf),(("strength":Str),.ref Hd.cH),(("has_call":Str),.ref Hd.Ki),(("show_expression":Str),.ref Hd.ze),(("show_bare":Str),.ref Hd.gc),(("show_array":Str),.ref Hd.U1),(("show_list":Str),.ref Hd.Ob),(("show_access":Str),.ref Hd.JE),(("show_operation":Str),.ref Hd.tY),(("show_unary":Str),.ref Hd.fJ),(("code_at":Str),.ref Hd.gb),(("is_keyword":Str),.ref Hd.NU),(("punct_at":Str),.ref Hd.rJ),(("name_fault":Str),.ref Hd.Bh),(("binding_fault":Str),.ref Hd.bd),(("target_fault":Str),.ref Hd.uF),(("delete_fault":Str),.ref Hd.qB),(("octal_fault":Str),.ref Hd.CF),(("_law_signs":Str),.ref Hd.nj),(("_law_pick":Str),.ref Hd.Nu),(("_law_place":Str),.ref Hd.Ww),(("_law_drawn":Str),.ref Hd.xM),(("_law_rows":Str),.ref Hd.ry),(("_law_back":Str),.ref Hd.Xc),(("_law_pairs":Str),.ref Hd.BA),(("law":Str),.ref Hd.aB),(("Node":Str),.ref Hd.Vk),(("Token":Str),.ref Hd.VE),(("SyntaxFail":Str),.ref Hd.s5),(("Lexer":Str),.ref Hd.ic),(("Jumps":Str),.ref Hd.y7),(("TokenTaker":Str),.ref Hd.Dj),(("ExprParser":Str),.ref Hd.Mg),(("BLANKS":Str),.ref Hd.ui),(("LINE_ENDS":Str),.ref Hd.mV),(("LETTERS":Str),.ref Hd.OD),(("PARTS":Str),.ref Hd.zg),(("ESCAPED":Str),.ref Hd.j6),(("STRENGTHS":Str),.ref Hd.um),(("OTHERS":Str),.ref Hd.Il),(("PLAIN":Str),.ref Hd.Qh),(("KEYWORDS":Str),.ref Hd.yr),(("PUNCT_TABLE":Str),.ref Hd.ZS),(("STRICT_WORDS":Str),.ref Hd.vD),(("RESTRICTED":Str),.ref Hd.ZG),(("TARGETS":Str),.ref Hd.Tq),(("PRIORITY":Str),.ref Hd.qg),(("ASSIGNING":Str),.ref Hd.lm),(("UNARY_SIGNS":Str),.ref Hd.j8),(("UNARY_WORDS":Str),.ref Hd.zf),(("STEPS":Str),.ref Hd.Y9),(("COMMA":Str),.int 0 0),(("ASSIGN":Str),.int 1 0),(("COND":Str),.int 2 0),(("UNARY":Str),.int 13 0),(("POSTFIX":Str),.int 14 0),(("CALL":Str),.int 15 0),(("MEMBER":Str),.int 16 0),(("MOST_NESTED":Str),.int 40 0),(("FIGURES":Str),.str ("0123456789abcdef":Str) 0),(("len":Str),.builtin "len"),(("ord":Str),.builtin "ord"),(("chr":Str),.builtin "chr"),(("isinstance":Str),.builtin "isinstance"),(("sum":Str),.builtin "sum"),(("str":Str),.type "str"),(("list":Str),.type "list"),(("tuple":Str),.type "tuple"),(("bool":Str),.type "bool"),(("enumerate":Str),.type "enumerate"),(("range":Str),.type "range")]
noncomputable def Tp(K:Frag)(p:Str×Value):Bool:=(nsIn K mainGlobals p.1).elim false fun o=>o.elim (((bootBuiltins p.1).map er==some p.2)&& !(p.1==("__name__":Str))) fun u=>er u==p.2
theorem Pb(P:Params):(Zi.all fun p=>Tp (Hd.KF P) p)=true:=by kernel_rfl
section
noncomputable def gV(x:Str):Option Value:=Zi.lookup x
noncomputable abbrev Ns1:=List (Str×NameKind)
noncomputable def m9(o:Expr):Bool:=if h:o.ctorIdx=16 then @Expr.Call.elim (fun zz=>Bool) o h fun f zz zz zz=> !decide (f.ctorIdx=23)else true
theorem I7{o:Expr}{a:Str}{env:Env}{t:Sem Value}(h:m9 o=true):attributeBase o a env t=t:=by
 cases o with
 |Call f=>
  cases f with
  |Name=>exact absurd h Bool.false_ne_true
  |_=>rfl
 |_=>rfl
noncomputable def notStar(e:Expr):Bool:= !decide (e.ctorIdx=22)
noncomputable def Jw(e:Expr):Bool:= !decide (e.ctorIdx=26)
theorem dN{e:Expr}{r:List Expr}{env:Env}(h:notStar e=true):starEach (e::r) env=(false,eval e env)::starEach r env:=by
 cases e with
 |Starred=>exact absurd h Bool.false_ne_true
 |_=>rfl
theorem Kx{e:Expr}(h:Jw e=true)(o i:Value):subscripted e false o i=operate [o,i] (getItem o i):=by
 cases e with
 |Slice=>exact absurd h Bool.false_ne_true
 |_=>rfl
noncomputable def yN(c:Const):Option Value:=@Const.casesOn (fun zz=>Option Value) c (some .none) (fun b=>some (.bool b)) (fun i=>some (.int i 0)) (fun zz=>none) (fun zz zz=>none) (fun x=>some (.str x 0)) (fun zz=>none) none
theorem Hv{K:Frag}{p:Str×Value}{G:Prop}(h:Tp K p=true)(g1:∀u,nsIn K mainGlobals p.1=some (some u)→er u=p.2→G)(g2:nsIn K mainGlobals p.1=some none→(bootBuiltins p.1).map er=some p.2→(p.1==("__name__":Str))=false→G):G:=by
 unfold Tp at h;cases e:nsIn K mainGlobals p.1 with
 |none=>rw[e]at h;exact absurd h Bool.false_ne_true
 |some o=>
  rw[e]at h;cases o with
  |none=>exact aI h fun a b=>g2 e (beq_iff_eq.mp a) ((Bool.not_eq_true' _).mp b)
  |some u=>exact g1 u e (beq_iff_eq.mp h)
section
variable{cY:Heap}{uK:OsState}{w:World}
variable{α β:Type}{n:Nat}{env:Env}{outer ow:List Env}{fr:dD}{H:AH}{A:Around}{Rk:Heap}{s:Shared}{X:AH→Prop}
theorem d6{P:Value→dD→AH→Prop}{c:Const}{k:Nat}{pos:Pos}{v:Value}(hv:yN c=some v)(h:∀u,er u=v→P u fr H):Run cY uK w n env outer ow fr H (eval (.Constant c k pos) env) P X:=fun A Rk s hs=>by
 cases c with
 |none=>exact wpAny_Constant_none ⟨fr,H,.refl hs,h _ (Y1l hv)⟩
 |bool=>exact wpAny_Constant_bool ⟨fr,H,.refl hs,h _ (Y1l hv)⟩
 |int=>exact wpAny_Constant_int ⟨fr,H,.tok hs _,h _ (Y1l hv)⟩
 |str=>exact PySem.wpAny_Constant_str ⟨fr,H,.tok hs _,h _ (Y1l hv)⟩
 |_=>exact MI hv.symm
theorem LD{P:Value→dD→AH→Prop}(base:AG cY w)(ok:CL env){x:Str}{pos:Pos}{v:Value}(hx:env.kindOf x=some .globalImplicit)(hv:gV x=some v)(hd:(x==("__debug__":Str))=false)(h:∀u,er u=v→P u fr H):
  Run cY uK w n env outer ow fr H (eval (.Name x pos) env) P X:=fun A Rk s hs=>by
 refine(hs.inv.top base).elim fun mg T=>T.elim fun mb T=>Hv (List.all_eq_true.mp (Pb w.params) _ (mem_of_lookup hv)) (fun u hu g=>?_) fun hu g g'=>YX g fun u hu' e=>?_
 ·exact Calls.Name_function_global ok.kind hx (Calls.loadGlobal_global (ok.globals▸T.g) (mg_of (hs.inv.K base) T.g hu) ⟨fr,H,.refl hs,h _ g⟩) hd
 ·exact Calls.Name_function_global ok.kind hx (Calls.loadGlobal_builtin (ok.globals▸T.g) (mg_none_of (hs.inv.K base) T.g hu) (ok.builtins▸T.b) ((T.builtins x (ne_of_beq_false g')).trans hu') ⟨fr,H,.refl hs,h _ e⟩) hd
theorem Run.attr{P:Value→dD→AH→Prop}{o:Expr}{a:Str}{pos:Pos}(hs:m9 o=true)(h:Run cY uK w n env outer ow fr H (eval o env) (fun v fr H=>Run cY uK w n env outer ow fr H (getAttr v a true) P X) X):
  Run cY uK w n env outer ow fr H (eval (.Attribute o a pos) env) P X:=fun A Rk s FN=>by
 rw[arm_eval_Attribute];refine(Run.bind ?_:Run cY uK w n env outer ow fr H _ P X) A Rk s FN;rw[I7 hs];exact h.im fun v fr H h=>.bind (.at (.bind (.holding (h.im fun r fr H h=>.bind fun A Rk s hs=>wpAny_letTemporaryGo ⟨fr,H,.refl hs,.pure h⟩))))
theorem Run.binop{P:Value→dD→AH→Prop}{l r:Expr}{op:Operator}{pos:Pos}(h:Run cY uK w n env outer ow fr H (eval l env) (fun a fr H=>Run cY uK w n env outer ow fr H (eval r env) (fun b fr H=>Run cY uK w n env outer ow fr H (binaryOp op a b) P X) X) X):
  Run cY uK w n env outer ow fr H (eval (.BinOp l op r pos) env) P X:=by
 rw[eval_BinOp];exact .bind (h.im (fun a fr H h=>.bind (.holding (h.im (fun b fr H h=>.bind (.at (.operate h)))))))
theorem Run.R3{P:Value→dD→AH→Prop}{x:Expr}{op:UnaryOp}{pos:Pos}(h:Run cY uK w n env outer ow fr H (eval x env) (fun a fr H=>Run cY uK w n env outer ow fr H (unaryOp op a) P X) X):
  Run cY uK w n env outer ow fr H (eval (.UnaryOp op x pos) env) P X:=by
 rw[arm_eval_UnaryOp];exact .bind (h.im (fun a fr H h=>.bind (.at (.holding h))))
theorem Run.lN{P:Value→dD→AH→Prop}{l r:Expr}{op:CmpOp}{pos:Pos}(hm:behindInMarks op r=false)(h:Run cY uK w n env outer ow fr H (eval l env) (fun a fr H=>Run cY uK w n env outer ow fr H (eval r env) (fun b fr H=>Run cY uK w n env outer ow fr H (compareOp op a b) P X) X) X):
  Run cY uK w n env outer ow fr H (eval (.Compare l [op] [r] pos) env) P X:=by
 simp only[eval_Compare1,markedBehindIn_of_false hm];exact .bind (h.im (fun a fr H h=>.bind (.holding (h.im (fun b fr H h=>.bind (.at (.operate h)))))))
theorem Run.Jf{P:Bool→dD→AH→Prop}{l r:Expr}{op:CmpOp}{pos:Pos}{whole:Sem Value}(hm:behindInMarks op r=false)(h:Run cY uK w n env outer ow fr H (eval l env) (fun a fr H=>Run cY uK w n env outer ow fr H (eval r env) (fun b fr H=>Run cY uK w n env outer ow fr H (compareOp op a b) (fun c fr H=>∃b,c= .bool b∧P b fr H) X) X) X):
  Run cY uK w n env outer ow fr H (isTrue (.Compare l [op] [r] pos) env whole) P X:=by
 simp only[isTrue_Compare1,markedBehindIn_of_false hm];exact .bind (h.im (fun a fr H h=>.bind (.holding (h.im (fun b fr H h=>.bind (.at (.bind (.operate (h.im (fun c fr H h=>h.elim fun b h=>h.1.symm▸ .holding fun A Rk s hs=>wpAny_truthy_bool ⟨fr,H,.refl hs,h.2⟩))))))))))
theorem Run.GA{P:Value→dD→AH→Prop}{c a b:Expr}{pos:Pos}(h:Run cY uK w n env outer ow fr H (isTrue c env (eval c env)) (fun t fr H=>if t then Run cY uK w n env outer ow fr H (eval a env) P X else Run cY uK w n env outer ow fr H (eval b env) P X) X):
  Run cY uK w n env outer ow fr H (eval (.IfExp c a b pos) env) P X:=by
 rw[arm_eval_IfExp];exact .bind (h.im (fun t fr H h=>.ite h))
theorem vq{vs keep:List Value}{P:Unit→dD→AH→Prop}(h:P () fr H):Run cY uK w n env outer ow fr H (release vs keep) P X:=fun A Rk s hs=>by
 unfold release;have(l:List Value):∀(Q:Unit→Shared→Prop)(E:Value→Shared→Prop),Q () s→wpAny (model Hd.pw w) A (release.go keep l) Q E s:=by
  induction l with
  |nil=>exact fun Q E=>wpAny_pure
  |cons a r ih=>cases r with
   |nil=>exact fun Q E=>wpAny_pure
   |cons b r=>exact fun Q E q=>wpAny_bind (wpAny_holding (wpAny_point (ih _ _ q)))
 exact this _ _ _ ⟨fr,H,.refl hs,h⟩
theorem Run.truthy{P:Bool→dD→AH→Prop}{b:Bool}(h:P b fr H):Run cY uK w n env outer ow fr H (truthy (.bool b)) P X:=fun A Rk s hs=>wpAny_truthy_bool ⟨fr,H,.refl hs,h⟩
theorem Run.V8{P:Value→dD→AH→Prop}{l r q:Expr}{op XY:CmpOp}{pos:Pos}(N0:behindInMarks XY q=false)
  (h:Run cY uK w n env outer ow fr H (eval l env) (fun a fr H=>Run cY uK w n env outer ow fr H (eval r env) (fun b fr H=>Run cY uK w n env outer ow fr H (compareOp op a b) (fun c fr H=>∃t,c= .bool t∧
   if t then Run cY uK w n env outer ow fr H (eval q env) (fun c fr H=>Run cY uK w n env outer ow fr H (compareOp XY b c) P X) X else P (.bool false) fr H) X) X) X):
  Run cY uK w n env outer ow fr H (eval (.Compare l [op,XY] [r,q] pos) env) P X:=by
 rw[arm_eval_Compare];have e:markedEach [op,XY] [r,q] (evalEach [r,q] env)= [eval r env,markedBehindIn XY q (eval q env)]:=rfl;rw[e,markedBehindIn_of_false N0];refine .bind (h.im (fun a fr H h=>?_));show Run cY uK w n env outer ow fr H (do
  let rv←PySem.holding [a] (eval r env)
  standAt pos
  let c←PySem.holding [a,rv] (compareOp op a rv)
  release [a,rv] [c]
  if←PySem.holding [c,rv] (PySem.truthy c)then compareChain pos rv [XY] [eval q env]else Pure.pure c) P X
 refine .bind (.holding (h.im fun b fr H h=>.bind (.at (.bind (.holding (h.im fun c fr H h=>h.elim fun t h=>h.1.symm▸ .bind (vq (.bind (.holding (.truthy ?_))))))))));have h:=h.2;cases t
 ·exact .pure h
 ·show Run cY uK w n env outer ow fr H (do
   let rv←PySem.holding [b] (eval q env)
   standAt pos
   PySem.operate [b,rv] (compareOp XY b rv)) P X
  exact .bind (.holding (h.im (fun c fr H h=>.bind (.at (.operate h)))))
theorem Run.YM{P:Value→dD→AH→Prop}{x:Expr}{op:BoolOp}{pos:Pos}(h:Run cY uK w n env outer ow fr H (eval x env) P X):
  Run cY uK w n env outer ow fr H (boolOp pos op (evalEach [x] env)) P X:=h
theorem Run.K4{P:Value→dD→AH→Prop}{x y:Expr}{r:List Expr}{op:BoolOp}{pos:Pos}
  (h:Run cY uK w n env outer ow fr H (eval x env) (fun a fr H=>∃b,a= .bool b∧if b=decide (op= .And)then Run cY uK w n env outer ow fr H (boolOp pos op (evalEach (y::r) env)) P X else P (.bool b) fr H) X):
  Run cY uK w n env outer ow fr H (boolOp pos op (evalEach (x::y::r) env)) P X:=by
 show Run cY uK w n env outer ow fr H (do
  let v←eval x env
  standAt pos
  let t←PySem.holding [v] (PySem.truthy v)
  match op,t with
  | .And,false| .Or,true=>Pure.pure v
  |_,_=>boolOp pos op (evalEach (y::r) env)) P X
 refine .bind (h.im fun a fr H h=>h.elim fun b h=>h.1.symm▸ .bind (.at (.bind (.holding (.truthy ?_)))));have h:=h.2;cases op<;>cases b<;>first|exact h|exact .pure h
theorem Run.pX{pos:Pos}{P:List Value→dD→AH→Prop}(h:P [] fr H):Run cY uK w n env outer ow fr H (spliced (backTo pos (starEach [] env))) P X:=.pure h
theorem Run.Rg{pos:Pos}{e:Expr}{r:List Expr}{P:List Value→dD→AH→Prop}(he:notStar e=true)(h:Run cY uK w n env outer ow fr H (eval e env) (fun v fr H=>Run cY uK w n env outer ow fr H (spliced (backTo pos (starEach r env))) (fun vs=>P (v::vs)) X) X):
  Run cY uK w n env outer ow fr H (spliced (backTo pos (starEach (e::r) env))) P X:=fun A Rk s hs=>
 wpAny_items_cons (h.go (.refl hs) hs fun zz zz zz zz Wp wi k=>k.end Wp wi) (dN he)
theorem wE{args:List Expr}{pos:Pos}:args.all notStar=true→(backTo pos (starEach args env)).any (·.1)=false:=by
 induction args with
 |nil=>exact fun zz=>rfl
 |cons e r ih=>exact fun h=>aI (List.all_cons.symm.trans h) fun a b=>dN a▸ih b
theorem Run.lst{P:Value→dD→AH→Prop}{es:List Expr}{pos:Pos}(h:Run cY uK w n env outer ow fr H (spliced (backTo pos (starEach es env))) (fun vs fr H=>vs.length≤sizeLine∧∀a,H a=none→P (.ref a) fr (upd H a (.lst (vs.map er)))) X):
  Run cY uK w n env outer ow fr H (eval (.List es pos) env) P X:=by
 rw[arm_eval_List];exact .bind (.at (.bind (h.im (fun vs fr H h=>G3 h.1 h.2))))
theorem Run.tup{P:Value→dD→AH→Prop}{es:List Expr}{k:Nat}{pos:Pos}(h:Run cY uK w n env outer ow fr H (spliced (backTo pos (starEach es env))) (fun vs fr H=>vs.length≤sizeLine∧∀a,H a=none→P (.ref a) fr (upd H a (.tup (vs.map er)))) X):
  Run cY uK w n env outer ow fr H (eval (.Tuple es k pos) env) P X:=by
 rw[arm_eval_Tuple];exact .bind (.at (.bind (h.im (fun vs fr H h=>M3 h.1 h.2))))
theorem Run.M7{P:Value→dD→AH→Prop}(base:AG cY w){x:Str}{p pos:Pos}{args:List Expr}{f:Value}(hp:args.all notStar=true)(hf:keptOk f=true)
  (h:Run cY uK w n env outer ow fr H (eval (.Name x p) env) (fun g fr H=>er g=f∧Run cY uK w n env outer ow fr H (spliced (backTo pos (starEach args env))) (fun vs fr H=>Run cY uK w n env outer ow fr H (call g vs) P X) X) X):
  Run cY uK w n env outer ow fr H (eval (.Call (.Name x p) args [] pos) env) P X:=by
 rw[arm_eval_Call_Name'];exact .bind (h.im (fun g fr H h=>RF base (by rw[h.1];exact hf) (wE hp) (by simpa using h.2)))
theorem Run.TU{P:Value→dD→AH→Prop}(base:AG cY w){o:Expr}{m:Str}{apos pos:Pos}{args:List Expr}(hn:m9 o=true)(hp:args.all notStar=true)(hl:args.length<30)(nN:(apos.endLine==pos.line)=true)
  (h:Run cY uK w n env outer ow fr H (eval o env) (fun ov fr H=>∀pl,Run cY uK w n env outer ow fr H (getMethod ov m pl) (fun p fr H=>keptOk (er p.1)=true∧Run cY uK w n env outer ow fr H (spliced (backTo pos (starEach args env))) (fun vs fr H=>Run cY uK w n env outer ow fr H (call p.1 (p.2++vs)) P X) X) X) X):
  Run cY uK w n env outer ow fr H (eval (.Call (.Attribute o m apos) args [] pos) env) P X:=by
 rw[arm_eval_Call,I7 hn];refine .bind (h.im (fun ov fr H h=>.bind (.at ?_)));have few:methodCallForm (args.length+([]:List Keyword).length) (backTo pos (starEach args env)) (backToKw pos (keywordEach [] env))=true:=by have t:=wE (env:=env) (pos:=pos) hp;unfold methodCallForm;refine Bool.and_eq_true_iff.mpr ⟨Bool.and_eq_true_iff.mpr ⟨List.all_eq_true.mpr fun x hx=>(Bool.not_eq_true' _).mpr (Bool.eq_false_iff.mpr (List.any_eq_false.mp t x hx)),rfl⟩,decide_eq_true hl⟩
 unfold methodCall;rw[few];refine .bind (.holding ?_);unfold calleeOf;rw[if_pos rfl];refine(h _).im (fun p fr H h=>?_);unfold methodCallPos;rw[nN];refine .bind (.pure ?_);exact RF base h.1 (wE hp) h.2
theorem w6{P:Value→dD→AH→Prop}(base:AG cY w){value slice:Expr}{x y u:Value}(hn:Jw slice=true)(hv:ro H (er x) (er y)=some u)(h:∀r,er r=u→P r fr H):
  Run cY uK w n env outer ow fr H (subscriptTail value slice x y) P X:=by
 let C (x y:Value):Prop:=Run cY uK w n env outer ow fr H (subscriptTail value slice x y) P X
 show C x y;refine iX hv (fun hu A Rk s hs=>?_) fun hv=>Fs (C:=fun x=>C x y) hv fun a hv=>EN (C:=fun y=>C _ y) hv fun k t hv=>HH hv fun tb ht hg=>ua base ht rfl hg (Kx hn) h
 let K (x:Value):Prop:=∃T id,s.TypeIs x T∧typeLookup (.type T) "__getitem__"=Pure.pure (some (.builtin id))
 have key:K x:=
  rT (C:=fun zz=>K x) hu fun k zz hu=>tc hu fun zz hu=>iX hu (fun hv=>EN (C:=K) hv fun zz zz zz=>⟨"str",_,typeIs_str _ _ _,F.slot_str_getitem.lookup⟩) fun hv=>
   xd (C:=K) base hs.inv hv (fun l xs is zz=>is.elim fun o is=>⟨"list",_,⟨o,is.1,is.2.1⟩,F.slot_list_getitem.lookup⟩) fun l xs is zz=>is.elim fun o is=>⟨"tuple",_,⟨o,is.1,is.2.1⟩,F.slot_tuple_getitem.lookup⟩
 exact key.elim fun T z=>z.elim fun id z=>kba_turn (value':=.Name (Str.ofString "x") default) (fun r=>rfl) (subscriptTail_builtin z.1 z.2 (U2 base hu h A Rk s hs) (Kx hn _ _) (fun zz=>rfl))
theorem Aq{x:Value}{l:Option Int}(h:mv (er x)=some l):∃p:Option (Int×Tok),x=partValue p∧p.map (·.1)=l:=
 Qi h (fun q e=>⟨none,Value.none.elim (motive:=fun x=>x=partValue none) x ((GK x).symm.trans q) rfl,Y1l e⟩) fun h=>YX h fun i hi e=>(ye hi).elim fun t q=>⟨some (i,t),q,e⟩
theorem Run.jk{P:Value→dD→AH→Prop}{x:Str}{p q pos:Pos}{lo hi:Option Expr}
  (h:Run cY uK w n env outer ow fr H (eval (.Name x p) env) (fun o fr H=>Run cY uK w n env outer ow fr H (evalPart lo env) (fun a fr H=>Run cY uK w n env outer ow fr H (evalPart hi env) (fun b fr H=>∃u,Cb (er o) (er a) (er b)=some u∧∀v,er v=u→P v fr H) X) X) X):
  Run cY uK w n env outer ow fr H (eval (.Subscript (.Name x p) (.Slice lo hi none q) pos) env) P X:=fun A Rk s hs=>by
 refine wpAny_Subscript_str_slice (h.go (.refl hs) hs fun o s₁ gu Dw Wp uz k=>k.go Wp uz fun a UI dh XZ Zz MS k=>k.go Zz MS fun b ay Q5 iB l8 eX k=>?_) (fun zz zz=>rfl);exact k.elim fun u k=>HH k.1 fun x ex h=>HH h fun l hl h=>HH h fun r hr h=>tc h fun hz e=>(LL ex).elim fun t et=>(Aq hl).elim fun pl el=>(Aq hr).elim fun pr er=>⟨x,t,pl,pr,et,el.1,er.1,by rw[←el.2, ←er.2]at e;exact post_val_or_str ⟨z2n (Txt.slice_le x _ _) (by rw[sizeLine_eq];lia),fun t' h'=>⟨Q5,iB,l8.trans (.keeps eX (fun b o e=>Heap.get?_push_of_some _ e) rfl rfl),k.2 _ (Y1l e)⟩⟩⟩
theorem Run.yU{P:Bool→dD→AH→Prop}{x:Expr}{pos:Pos}{t:Sem Value}(h:Run cY uK w n env outer ow fr H (isTrue x env (eval x env)) (fun b fr H=>P (!b) fr H) X):Run cY uK w n env outer ow fr H (isTrue (.UnaryOp .Not x pos) env t) P X:=by rw[arm_isTrue_UnaryOp];exact .bind (h.im (fun b fr H h=>.pure h))
theorem Run.u8{P:Bool→dD→AH→Prop}{c a b:Expr}{pos:Pos}{t:Sem Value}(h:Run cY uK w n env outer ow fr H (isTrue c env (eval c env)) (fun t fr H=>if t then Run cY uK w n env outer ow fr H (isTrue a env (eval a env)) P X else Run cY uK w n env outer ow fr H (isTrue b env (eval b env)) P X) X):
  Run cY uK w n env outer ow fr H (isTrue (.IfExp c a b pos) env t) P X:=by
 rw[arm_isTrue_IfExp];exact .bind (h.im (fun t fr H h=>.ite h))
theorem Run.iW{P:Bool→dD→AH→Prop}{e:Expr}{t:Sem Value}(he:isTrue e env t=(do let v←t;standAt e.pos;PySem.holding [v] (PySem.truthy v)))(h:Run cY uK w n env outer ow fr H t (fun v fr H=>∃b,er v= .bool b∧P b fr H) X):Run cY uK w n env outer ow fr H (isTrue e env t) P X:=by rw[he];exact .bind (h.im fun v fr H h=>.bind (.at (.holding (h.elim fun b h=>(Xq h.1).symm▸ .truthy h.2))))
theorem Run.gq{P:Bool→dD→AH→Prop}{l r q:Expr}{op XY:CmpOp}{pos:Pos}{t:Sem Value}(N0:behindInMarks XY q=false)
  (h:Run cY uK w n env outer ow fr H (eval l env) (fun a fr H=>Run cY uK w n env outer ow fr H (eval r env) (fun b fr H=>Run cY uK w n env outer ow fr H (compareOp op a b) (fun c fr H=>∃t,c= .bool t∧
   if t then Run cY uK w n env outer ow fr H (eval q env) (fun c fr H=>Run cY uK w n env outer ow fr H (compareOp XY b c) (fun v fr H=>∃b,v= .bool b∧P b fr H) X) X else P false fr H) X) X) X):
  Run cY uK w n env outer ow fr H (isTrue (.Compare l [op,XY] [r,q] pos) env t) P X:=by
 rw[arm_isTrue_Compare];have e:markedEach [op,XY] [r,q] (evalEach [r,q] env)= [eval r env,markedBehindIn XY q (eval q env)]:=rfl;rw[e,markedBehindIn_of_false N0];refine .bind (h.im (fun a fr H h=>?_));show Run cY uK w n env outer ow fr H (do
  let rv←PySem.holding [a] (eval r env)
  standAt pos
  let c←PySem.holding [a,rv] (compareOp op a rv)
  release [a,rv] [c]
  if←PySem.holding [c,rv] (PySem.truthy c)then testChain pos rv [XY] [eval q env]else Pure.pure false) P X
 refine .bind (.holding (h.im fun b fr H h=>.bind (.at (.bind (.holding (h.im fun c fr H h=>h.elim fun t h=>h.1.symm▸ .bind (vq (.bind (.holding (.truthy ?_))))))))));have h:=h.2;cases t
 ·exact .pure h
 ·show Run cY uK w n env outer ow fr H (do
   let rv←PySem.holding [b] (eval q env)
   standAt pos
   let c←PySem.operate [b,rv] (compareOp XY b rv)
   PySem.holding [c] (PySem.truthy c)) P X
  exact .bind (.holding (h.im fun c fr H h=>.bind (.at (.bind (.operate (h.im fun v fr H h=>h.elim fun b h=>h.1.symm▸ .holding (.truthy h.2)))))))
theorem Run.jZ{P:Bool→dD→AH→Prop}{op:BoolOp}(h:P (op== .And) fr H):Run cY uK w n env outer ow fr H (allTrue op [] env) P X:=by rw[arm_allTrue_nil];exact .pure h
theorem Run.KE{P:Bool→dD→AH→Prop}{op:BoolOp}{x:Expr}{r:List Expr}(h:Run cY uK w n env outer ow fr H (isTrue x env (eval x env)) (fun b fr H=>if b=decide (op= .And)then Run cY uK w n env outer ow fr H (allTrue op r env) P X else P b fr H) X):
  Run cY uK w n env outer ow fr H (allTrue op (x::r) env) P X:=by
 show Run cY uK w n env outer ow fr H (do
  match op, ←isTrue x env (eval x env)with
  | .And,false=>Pure.pure false
  | .Or,true=>Pure.pure true
  |_,_=>allTrue op r env) P X
 refine .bind (h.im (fun b fr H h=>?_));cases op<;>cases b<;>first|exact h|exact .pure h
end
end
section
theorem ES(l:Addr)(items:Array Value)(n:Nat)(sl:Array (Option Value))(y:Value)(hy:items[items.size-1]? =some y)(hs1:items.size≤sizeLine):
  Meets (Builtin.«list.pop» ⟨[.ref l],[]⟩)
   (fun zz R s=>s.heap.get? l=some {cls:=.type "list",dict:=none,data:=.seq items n,slots:=sl}∧R (.ok (.ret y)) {s with heap:=s.heap.update l (Obj.mapSeq fun xs=>xs.eraseIdxIfInBounds (items.size-1))}):=
 .of_wp fun prog w A R s h=>by
  obtain⟨hp,g,d,tk,os⟩:=s;obtain⟨hl,h⟩:=h;have nN:0<items.size:=(Array.getElem?_eq_some_iff.mp hy).elim fun q zz=>Nat.lt_of_le_of_lt (V7h _) q;have Vl:¬items.isEmpty=true:=fun he=>absurd (Array.isEmpty_iff_size_eq_zero.mp he) (Nat.ne_of_gt nN);have hk:seqIndex? (-1) items.size=some (items.size-1):=by
   unfold seqIndex?;simp only[show((-1:Int)<0)from by decide,if_true];rw[if_pos (by simp;lia)]
   congr 1;lia
  wp_walk using AutoSeq1.wpAny_loadPart' hl
  simp only[hk,hy,Option.bind_some,Option.map_some];have PS:(items.eraseIdxIfInBounds (items.size-1)).size≤sizeLine+1:=by have:=MeetsSeq.size_erased items (items.size-1);lia
  wp_walk using(wpAny_updateSeq hl rfl (hz:=hs1) (_hz':=PS)),AutoSeq1.wpAny_loadPart' hl
  exact⟨_,rfl,h⟩
theorem lC(l:Addr)(items:Array Value)(n:Nat)(sl:Array (Option Value))(b:Addr)(rK:Array Value)(n2:Nat)(tw:Array (Option Value))(hs:items.size+rK.size≤100000):
  Meets (Builtin.«list.extend» ⟨[.ref l,.ref b],[]⟩) (fun zz R s=>s.heap.get? l=some {cls:=.type "list",dict:=none,data:=.seq items n,slots:=sl}∧s.heap.get? b=some {cls:=.type "list",dict:=none,data:=.seq rK n2,slots:=tw}∧
   R (.ok (.ret Value.none)) {s with heap:=s.heap.update l (Obj.mapSeq fun x=>x++rK),toks:=s.toks}):=
 .of_wp fun prog w A R s h=>by
  obtain⟨hp,g,d,tk,os⟩:=s;obtain⟨hl,hb,h⟩:=h;have f1:=AutoSeq1.idx_int;have f2:=AutoSeq1.sub_tuple_tuple;have f3:=AutoSeq1.sub_list_list;have f4:=AutoSeq1.sub_tuple_list;have f5:=AutoSeq1.sub_list_tuple
  have M4:items.size≤sizeLine:=by rw[sizeLine_eq];lia
  have PS:(items++rK).size≤sizeLine+1:=by rw[Array.size_append,sizeLine_eq];lia
  have Qm:¬(!items.isEmpty&&Builtin.List.listTooLong (items.size+rK.size))=true:=by
   have:Builtin.List.listTooLong (items.size+rK.size)=false:=by unfold Builtin.List.listTooLong;simp[sizeLine_eq];lia
   rw[this];simp
  wp_walk using(wpAny_updateSeq hl rfl (hz:=M4) (_hz':=PS)),AutoSeq1.wpAny_loadPart' hl,AutoSeq1.wpAny_loadPart' hb;exact⟨_,rfl,h⟩
section
variable{cY:Heap}{uK:OsState}{w:World}
variable{α β:Type}{n:Nat}{env:Env}{outer ow:List Env}{fr:dD}{H:AH}{A:Around}{Rk:Heap}{s:Shared}{X:AH→Prop}
theorem QP{P:Value×List Value→dD→AH→Prop}{ov:Value}{a:Addr}{vs:List Value}{pl:Sem Bool}{name:Str}{id:String}(slot:Slot "list" name id)(hty:typeOf (.builtin id)=Pure.pure (.type "method_descriptor"))(hi:er ov= .ref a)(hH:H a=some (.lst vs))(h:P (.builtin id,[ov]) fr H):
  Run cY uK w n env outer ow fr H (getMethod ov name pl) P X:=fun A Rk s hs=>
 (hs.inv.rep a _ hH).elim fun xs r=>r.elim fun k r=>r.elim fun sl r=>(t7 hi).symm▸getMethod_builtin (T:="list") ⟨_,r.1,rfl⟩ PySem.F.plainAttrs_list slot hty (fun b e=>by cases e;exact⟨_,r.1,rfl⟩) ⟨fr,H,.refl hs,t7 hi▸h⟩
theorem I3{P:Value→dD→AH→Prop}{a:Addr}{u:Value}{us:List Value}(hv:H a=some (.lst (us++[u])))(hz:us.length<10000)(h:∀v,er v=u→P v fr (upd H a (.lst us))):
  Run cY uK w n env outer ow fr H (call (.builtin "list.pop") [.ref a]) P X:=fun A Rk s hs=>by
 refine(hs.inv.rep a _ hv).elim fun xs r=>r.elim fun k r=>r.elim fun sl r=>(List.map_eq_append_iff.mp r.2).elim fun ys z=>z.elim fun l z=>(tM z.2.2).elim fun v y=>?_;have e:xs=(ys++[v]).toArray:=by rw[←y.1, ←z.1]
 have PS:(ys++[v]).toArray.size-1=ys.length:=R6T (· - 1) List.length_append;have hy:(ys++[v]).toArray[(ys++[v]).toArray.size-1]? =some v:=by rw[PS,List.getElem?_toArray,List.getElem?_append_right (Nat.le_refl _),Nat.sub_self];rfl
 subst e;have hl:ys.length=us.length:=(List.length_map er).symm.trans (R6T List.length z.2.1);exact call_meets PySem.F.slot_list_pop ⟨_,r.1,rfl⟩ PySem.F.entry_list_pop (PySem.F.args_list_pop_1 _) (ES a _ k sl v hy (by rw[sizeLine_eq,List.size_toArray,List.length_append,hl];exact Nat.le_of_lt (Nat.lt_trans (Nat.succ_lt_succ hz) (by decide))))
  ⟨r.1,fr,_,.Xl (tk:=s.toks) (o₁:=.lst us) hs (Heap.SameBut.update ..) hv ⟨_,_,sl,Heap.get?_update_self _ r.1 rfl,by rw[Array.toList_eraseIdxIfInBounds,PS,List.toList_toArray,List.eraseIdx_append_of_length_le (Nat.le_refl _),Nat.sub_self];exact(R6T (List.map er) (List.append_nil ys)).trans z.2.1⟩ (fun zz zz zz q=>by cases q),h v y.2⟩
theorem NI{P:Value→dD→AH→Prop}{a b:Addr}{us ws:List Value}(hv:H a=some (.lst us))(hb:H b=some (.lst ws))(hz:us.length+ws.length<10000)(h:P .none fr (upd H a (.lst (us++ws)))):
  Run cY uK w n env outer ow fr H (call (.builtin "list.extend") [.ref a,.ref b]) P X:=fun A Rk s hs=>
 (hs.inv.rep a _ hv).elim fun xs r=>r.elim fun k r=>r.elim fun sl r=>(hs.inv.rep b _ hb).elim fun ys q=>q.elim fun k2 q=>q.elim fun tw q=>
  have hl:xs.size=us.length:=(List.length_map er).symm.trans (R6T List.length r.2);have EC:ys.size=ws.length:=(List.length_map er).symm.trans (R6T List.length q.2)
  call_meets PySem.F.slot_list_extend ⟨_,r.1,rfl⟩ PySem.F.entry_list_extend (PySem.F.args_list_extend_2 _ _) (lC a xs k sl b ys k2 tw (hl▸EC▸Nat.le_of_lt (Nat.lt_trans hz (by decide:10000<100000))))
   ⟨r.1,q.1,fr,_,.Xl (tk:=s.toks) (o₁:=.lst (us++ws)) hs (Heap.SameBut.update ..) hv ⟨_,_,sl,Heap.get?_update_self _ r.1 rfl,by rw[Array.toList_append,List.map_append,r.2,q.2]⟩ (fun zz zz zz q=>by cases q),h⟩
theorem Sl{P:Value→dD→AH→Prop}(base:AG cY w){v:Value}{us:List Value}(hv:tq H (er v)=some (true,us))(hz:us.length≤10000)(h:∀a,H a=none→P (.ref a) fr (upd H a (.lst us))):
  Run cY uK w n env outer ow fr H (call (.type "list") [v]) P X:=fun A Rk s hs=>
 (NM hv).elim fun l q=>by
  subst q;exact(N6 base hs.inv hv).elim fun xs r=>r.2.elim fun o z=>z.2.2.elim fun k hd=>call_list_seq l (.inl rfl) z.1 z.2.1 hd (fun h' c' hk hD=>⟨fr,_,⟨(hs.inv.keeps (s':={s with heap:=h'}) hk rfl rfl).adopt (ao:=.lst us) (hs.inv.W2 (u7 _)) ⟨xs,c', #[],hD,r.1⟩ (fun zz zz zz q=>by cases q),hs.loc.keeps hk,.of_keeps hk⟩,h s.heap.objs.size hs.inv.IZ⟩) (by have hl:xs.size=us.length:=(List.length_map er).symm.trans (R6T List.length r.1);rw[sizeLine_eq];lia)
theorem Pq(base:AG cY w){l:List Env}(x:Inv cY uK Rk l s H){v:Value}{us:List Value}(h:Rj cY H (er v) us):∃a xs,v= .ref a∧xs.toList.map er=us∧s.heap.IsList a xs:=
 h.elim (fun h=>(NM h).elim fun a q=>⟨a,(N6 (b:=true) (vs:=us) base x (show tq H (er (.ref a))=_ from q▸h)).imp fun xs r=>⟨q,r⟩⟩)
  fun h=>h.imp fun a h=>h.imp fun xs h=>⟨t7 h.1,h.2.2,h.2.1.imp fun o z=>⟨x.stays _ _ (x.base _ _ z.1),z.2⟩⟩
theorem Run.iU{P:Value→dD→AH→Prop}(base:AG cY w){x:Str}{p p1 q pos:Pos}{k m:Nat}
  (h:Run cY uK w n env outer ow fr H (eval (.Name x p) env) (fun v fr H=>∃us,Rj cY H (er v) us∧us.length≤10000∧∀a,H a=none→P (.ref a) fr (upd H a (.lst (us.take k)))) X):
  Run cY uK w n env outer ow fr H (eval (.Subscript (.Name x p) (.Slice none (some (.Constant (.int (k:Int)) m p1)) none q) pos) env) P X:=fun A Rk s hs=>by
 refine wpAny_Subscript_list_slice (h.go (.refl hs) hs fun o s₁ gu Dw Wp uz kk=>kk.elim fun us e=>?_) (fun zz zz=>rfl);rw[evalPart_none];refine wpAny_pure ?_;show wpAny _ _ (eval (.Constant (.int (k:Int)) m p1) env) _ _ _;refine wpAny_Constant_int ((Pq base uz.inv e.1).elim fun l r=>r.elim fun xs r=>⟨l,xs,none,some (k:Int),r.1,r.2.2,?_,.none,.int _ _,?_⟩)
 ·have hl:xs.size=us.length:=(List.length_map er).symm.trans (R6T List.length r.2.1);rw[sizeLine_eq];have:=e.2.1;lia
 have MS:After cY uK env outer Rk s₁ {s₁ with heap:=s₁.heap.push {cls:=.type "slice",data:=.fields #[.none,.int (k:Int) s₁.toks,.none]},toks:=s₁.toks+1} gu Dw:=.keeps uz (fun b o e=>Heap.get?_push_of_some _ e) rfl rfl;have hh:=MS.here uz;have z:(s₁.heap.push {cls:=.type "slice",data:=.fields #[.none,.int (k:Int) s₁.toks,.none]}).objs.size=s₁.heap.objs.size+1:=Heap.size_push ..;have e':((slicePick xs none (some (k:Int)) none).toList).map er=us.take k:=by rw[kms_pick_eq];unfold kms_pick kms_lo kms_hi;simp only[List.drop_zero,Nat.sub_zero];rw[if_neg (by lia),List.map_take,r.2.1, ←List.length_map er (as:=xs.toList),r.2.1];exact List.take_eq_take_min.symm
 exact⟨gu,_,(Wp.trans MS).trans (.push (ao:=.lst (us.take k)) hh ⟨slicePick xs none (some (k:Int)) none,0, #[],Heap.get?_push_size _ rfl,e'⟩ (fun zz zz zz q=>by cases q)),z▸e.2.2 _ hh.inv.IZ⟩
theorem Ru.reads{l:List Env}(x:Inv cY uK Rk l s H){v:Value}{d:PyData}(h:Ru H (er v) d):∃as,Reads s.heap v d as:=by
 generalize hu:er v=u at h
 induction h using Ru.rec (motive_2:=fun vs ds zz=>∀xs:List Value,xs.map er=vs→∃as,ReadsAll s.heap xs ds as) generalizing v with
 |none=>cases Py hu;exact⟨_,.none⟩
 |str y=>exact(ml hu).elim fun t e=>by subst e;exact⟨_,.str y t⟩
 |list h1 _ ih=>cases t7 hu;exact(x.rep _ _ h1).elim fun xs r=>r.elim fun k r=>r.elim fun sl r=>(ih _ r.2).elim fun as q=>⟨_,.list r.1 rfl rfl q⟩
 |nil=>rename_i xs e;cases List.map_eq_nil_iff.mp e;exact⟨_,.nil⟩
 |cons _ _ UK jH=>
  rename_i xs e;exact(Em e).elim fun y z=>z.elim fun ys z=>(UK z.2.1).elim fun as r1=>(jH _ z.2.2).elim fun bs r2=>by rw[z.1];exact⟨_,.cons r1 r2⟩
theorem wf(base:AG cY w){l:List Env}(iv:Inv cY uK Rk l s H){x y:Value}{b:Bool}{C:Value→Value→Bool→Prop}(hv:OB H (er x) (er y) b)
  (g1:∀d e as bs,Reads s.heap x d as→Reads s.heap y e bs→d.canLay0=true→e.canLay0=true→min d.depth e.depth≤200→C x y (PyData.eqv d e)) (g2:∀l m xs ys,s.heap.IsList l xs→s.heap.IsList m ys→(xs.size != ys.size)=true→C (.ref l) (.ref m) false):C x y b:=by
 generalize e1:er x=x' at hv;generalize e2:er y=y' at hv;cases hv with
 |data r1 r2 c1 c2 hm=>subst e1 e2;exact(r1.reads iv).elim fun as r1=>(r2.reads iv).elim fun bs r2=>g1 _ _ as bs r1 r2 c1 c2 hm
 |some s1 s2=>
  subst e1 e2;refine(NM s1).elim fun l q=>(NM s2).elim fun m q'=>?_;subst q q';exact(N6 base iv s1).elim fun xs r=>(N6 base iv s2).elim fun ys r'=>g2 l m xs ys r.2 r'.2 (bne_iff_ne.mpr fun z=>
   Nat.succ_ne_zero _ ((R6T List.length r.1).symm.trans ((List.length_map er).trans (z.trans ((List.length_map er).symm.trans (R6T List.length r'.1))))))
theorem Here.units(hs:Here cY uK n A env outer ow Rk s fr H):A.units+250<cLine:=by have:=hs.room.2;unfold cLine at this⊢;lia
theorem YZ{P:Value→dD→AH→Prop}(base:AG cY w){x y:Value}{b:Bool}(hv:OB H (er x) (er y) b)(h:P (.bool b) fr H):
  Run cY uK w n env outer ow fr H (compareOp .Eq x y) P X:=fun A Rk s hs=>
 wf (C:=fun x y b=>P (.bool b) fr H→wpAny (model Hd.pw w) A (compareOp .Eq x y) _ _ s) base hs.inv hv (fun zz zz zz zz r1 r2 c1 c2 hm h=>PySem.SeqAt.compareEq_reads r1 r2 c1 c2 (by have:=hs.units;lia) ⟨fr,H,.refl hs,h⟩)
  (fun zz zz zz zz is js z h=>PySem.SeqAt.eq_list_lengthsAt is js z (by have:=hs.units;lia) ⟨fr,H,.refl hs,h⟩) h
theorem IY{P:Value→dD→AH→Prop}(base:AG cY w){x y:Value}{b:Bool}(hv:OB H (er x) (er y) b)(h:P (.bool !b) fr H):
  Run cY uK w n env outer ow fr H (compareOp .NotEq x y) P X:=fun A Rk s hs=>
 wf (C:=fun x y b=>P (.bool !b) fr H→wpAny (model Hd.pw w) A (compareOp .NotEq x y) _ _ s) base hs.inv hv (fun zz zz zz zz r1 r2 c1 c2 hm h=>PySem.SeqAt.compareNe_reads r1 r2 c1 c2 (by have:=hs.units;lia) ⟨fr,H,.refl hs,h⟩)
  (fun zz zz zz zz is js z h=>PySem.SeqAt.RcNeAt.lists_lengths is js z (by have:=hs.units;lia) _ _ _ _ ⟨fr,H,.refl hs,h⟩) h
end
end
section
noncomputable def UN(k:Mk)(m:Str):Bool:=match k with
 | .own C f=>cz.contains (C,m,f)
 | .app=>m==("append":Str)
 | .join=>m==("join":Str)
 | .starts=>m==("startswith":Str)
 | .get=>m==("get":Str)
 | .pop=>m==("pop":Str)
 | .ext=>m==("extend":Str)
noncomputable def glob(ns:Ns1)(x:Str)(v:Value):Bool:=ns.lookup x==some .globalImplicit&&gV x==some v&& !(x==("__debug__":Str))
noncomputable def MM(ns:Ns1)(i:Nat)(x:Str):Bool:=((ns[i]?).any fun p=>p.1==x&&(p.2== .local || p.2== .cell))&& !(x==("__debug__":Str))
theorem a2{a b:Bool}{G:Prop}(h:(a&&b)=true)(f:a=true→b=true→G):G:=aI h f
theorem a3{a b c:Bool}{G:Prop}(h:(a&&(b&&c))=true)(f:a=true→b=true→c=true→G):G:=a2 h fun x h=>a2 h (f x)
theorem a4{a b c d:Bool}{G:Prop}(h:(a&&(b&&(c&&d)))=true)(f:a=true→b=true→c=true→d=true→G):G:=a2 h fun x h=>a3 h (f x)
theorem a5{a b c d e:Bool}{G:Prop}(h:(a&&(b&&(c&&(d&&e))))=true)(f:a=true→b=true→c=true→d=true→e=true→G):G:=a2 h fun x h=>a4 h (f x)
theorem a6{a b c d e i:Bool}{G:Prop}(h:(a&&(b&&(c&&(d&&(e&&i)))))=true)(f:a=true→b=true→c=true→d=true→e=true→i=true→G):G:=a2 h fun x h=>a5 h (f x)
theorem a7{a b c d e i j:Bool}{G:Prop}(h:(a&&(b&&(c&&(d&&(e&&(i&&j))))))=true)(f:a=true→b=true→c=true→d=true→e=true→i=true→j=true→G):G:=a2 h fun x h=>a6 h (f x)
theorem a8{a b c d e i j k:Bool}{G:Prop}(h:(a&&(b&&(c&&(d&&(e&&(i&&(j&&k)))))))=true)(f:a=true→b=true→c=true→d=true→e=true→i=true→j=true→k=true→G):G:=a2 h fun x h=>a7 h (f x)
@[elab_as_elim]theorem yJ{α:Type} [BEq α] [LawfulBEq α]{C:α→Prop}{x y:α}(h:(x==y)=true)(k:C y):C x:=eq_of_beq h▸k
@[elab_as_elim]theorem YE{α:Type}{C:α→Prop}{x y:α} [Decidable (x=y)](h:decide (x=y)=true)(k:C x):C y:=of_decide_eq_true h▸k
noncomputable def gd(c:Prop) [Decidable c](f:c→Bool):Bool:=if h:c then f h else false
theorem yj{c:Prop} [Decidable c]{f:c→Bool}{G:Prop}(h:gd c f=true)(k:∀q:c,f q=true→G):G:=by
 unfold gd at h
 split at h
 ·exact k _ h
 ·cases h
noncomputable def isNone(e:E):Bool:=gd (e.ctorIdx=2) fun q=>E.cst.elim (motive_1:=fun zz=>Bool) e q fun v=>decide (v.ctorIdx=0)
@[elab_as_elim]theorem cG{C:E→Prop}{e:E}(h:isNone e=true)(f:C (.cst .none)):C e:=
 yj h fun q h=>E.cst.elim (motive_1:=fun e=>∀q,E.cst.elim (motive_1:=fun zz=>Bool) e q (fun v=>decide (v.ctorIdx=0))=true→C e) e q (fun v zz h=>Value.none.elim (motive:=fun v=>C (.cst v)) v (of_decide_eq_true h) f) q h
noncomputable def aName(x:Expr)(k:Str→Bool):Bool:=gd (x.ctorIdx=23) fun q=>Expr.Name.elim (motive_1:=fun zz=>Bool) x q fun y zz=>k y
@[elab_as_elim]theorem Vi{C:Expr→Prop}{x k}(h:aName x k=true)(f:∀y p,k y=true→C (.Name y p)):C x:=
 yj h fun q h=>Expr.Name.elim (motive_1:=fun x=>∀q,Expr.Name.elim (motive_1:=fun zz=>Bool) x q (fun y zz=>k y)=true→C x) x q (fun y p zz h=>f y p h) q h
noncomputable def Ym(x:Expr)(k:Const→Bool):Bool:=gd (x.ctorIdx=19) fun q=>Expr.Constant.elim (motive_1:=fun zz=>Bool) x q fun c zz zz=>k c
@[elab_as_elim]theorem ZP{C:Expr→Prop}{x k}(h:Ym x k=true)(f:∀c m p,k c=true→C (.Constant c m p)):C x:=
 yj h fun q h=>Expr.Constant.elim (motive_1:=fun x=>∀q,Expr.Constant.elim (motive_1:=fun zz=>Bool) x q (fun y zz zz=>k y)=true→C x) x q (fun y m p zz h=>f y m p h) q h
noncomputable def pY(x:Expr)(k:Expr→Str→Pos→Bool):Bool:=gd (x.ctorIdx=20) fun q=>Expr.Attribute.elim (motive_1:=fun zz=>Bool) x q k
@[elab_as_elim]theorem GU{C:Expr→Prop}{x k}(h:pY x k=true)(f:∀e a p,k e a p=true→C (.Attribute e a p)):C x:=
 yj h fun q h=>Expr.Attribute.elim (motive_1:=fun x=>∀q,Expr.Attribute.elim (motive_1:=fun zz=>Bool) x q k=true→C x) x q (fun e a p zz h=>f e a p h) q h
noncomputable def ZX{α:Type}(l:List α)(k:α→List α→Bool):Bool:=@List.casesOn α (fun zz=>Bool) l false k
@[elab_as_elim]theorem Vu{α:Type}{C:List α→Prop}{l k}(h:ZX l k=true)(f:∀a t,k a t=true→C (a::t)):C l:=by
 cases l with
 |nil=>cases h
 |cons a t=>exact f a t h
noncomputable def PW{α:Type}(l:List α)(k:Bool):Bool:=@List.casesOn α (fun zz=>Bool) l k fun zz zz=>false
@[elab_as_elim]theorem vp{α:Type}{C:List α→Prop}{l k}(h:PW l k=true)(f:k=true→C []):C l:=by
 cases l with
 |nil=>exact f h
 |cons a t=>cases h
noncomputable def MR{α:Type}(l:List α)(k:α→Bool):Bool:=ZX l fun a t=>PW t (k a)
@[elab_as_elim]theorem V2{α:Type}{C:List α→Prop}{l:List α}{k}(h:MR l k=true)(f:∀a,k a=true→C [a]):C l:=Vu h fun a zz h=>vp (C:=fun t=>C (a::t)) h (f a)
noncomputable def ZE{α:Type}(l:List α)(k:α→α→Bool):Bool:=ZX l fun a t=>MR t (k a)
@[elab_as_elim]theorem SR{α:Type}{C:List α→Prop}{l:List α}{k}(h:ZE l k=true)(f:∀a b,k a b=true→C [a,b]):C l:=Vu h fun a zz h=>V2 (C:=fun t=>C (a::t)) h (f a)
noncomputable def Yv{α:Type}(o:Option α)(k:α→Bool):Bool:=@Option.casesOn α (fun zz=>Bool) o false k
@[elab_as_elim]theorem Q6{α:Type}{C:Option α→Prop}{o k}(h:Yv o k=true)(f:∀a,k a=true→C (some a)):C o:=by
 cases o with
 |none=>cases h
 |some a=>exact f a h
noncomputable def zY{α:Type}(o:Option α)(k:Bool):Bool:=@Option.casesOn α (fun zz=>Bool) o k fun zz=>false
@[elab_as_elim]theorem kR{α:Type}{C:Option α→Prop}{o k}(h:zY o k=true)(f:k=true→C none):C o:=by
 cases o with
 |none=>exact f h
 |some a=>cases h
noncomputable def aCall(x:Expr)(k:Expr→List Expr→Pos→Bool):Bool:=gd (x.ctorIdx=16) fun q=>Expr.Call.elim (motive_1:=fun zz=>Bool) x q fun g as ks p=>PW ks (k g as p)
@[elab_as_elim]theorem gL{C:Expr→Prop}{x k}(h:aCall x k=true)(f:∀g as p,k g as p=true→C (.Call g as [] p)):C x:=
 yj h fun q h=>Expr.Call.elim (motive_1:=fun x=>∀q,Expr.Call.elim (motive_1:=fun zz=>Bool) x q (fun g as ks p=>PW ks (k g as p))=true→C x) x q (fun g as ks p zz h=>vp (C:=fun ks=>C (.Call g as ks p)) h (f g as p)) q h
noncomputable def UB(x:Expr)(k:Expr→Operator→Expr→Bool):Bool:=gd (x.ctorIdx=2) fun q=>Expr.BinOp.elim (motive_1:=fun zz=>Bool) x q fun a o b zz=>k a o b
@[elab_as_elim]theorem ym{C:Expr→Prop}{x k}(h:UB x k=true)(f:∀a o b p,k a o b=true→C (.BinOp a o b p)):C x:=
 yj h fun q h=>Expr.BinOp.elim (motive_1:=fun x=>∀q,Expr.BinOp.elim (motive_1:=fun zz=>Bool) x q (fun a o b zz=>k a o b)=true→C x) x q (fun a o b p zz h=>f a o b p h) q h
noncomputable def B2(x:Expr)(k:UnaryOp→Expr→Bool):Bool:=gd (x.ctorIdx=3) fun q=>Expr.UnaryOp.elim (motive_1:=fun zz=>Bool) x q fun o a zz=>k o a
@[elab_as_elim]theorem E6{C:Expr→Prop}{x k}(h:B2 x k=true)(f:∀o a p,k o a=true→C (.UnaryOp o a p)):C x:=
 yj h fun q h=>Expr.UnaryOp.elim (motive_1:=fun x=>∀q,Expr.UnaryOp.elim (motive_1:=fun zz=>Bool) x q (fun o a zz=>k o a)=true→C x) x q (fun o a p zz h=>f o a p h) q h
noncomputable def RT(x:Expr)(k:Expr→List CmpOp→List Expr→Bool):Bool:=gd (x.ctorIdx=15) fun q=>Expr.Compare.elim (motive_1:=fun zz=>Bool) x q fun a o b zz=>k a o b
@[elab_as_elim]theorem iA{C:Expr→Prop}{x k}(h:RT x k=true)(f:∀a o b p,k a o b=true→C (.Compare a o b p)):C x:=
 yj h fun q h=>Expr.Compare.elim (motive_1:=fun x=>∀q,Expr.Compare.elim (motive_1:=fun zz=>Bool) x q (fun a o b zz=>k a o b)=true→C x) x q (fun a o b p zz h=>f a o b p h) q h
noncomputable def BR(x:Expr)(k:BoolOp→List Expr→Bool):Bool:=gd (x.ctorIdx=0) fun q=>Expr.BoolOp.elim (motive_1:=fun zz=>Bool) x q fun o a zz=>k o a
@[elab_as_elim]theorem zj{C:Expr→Prop}{x k}(h:BR x k=true)(f:∀o a p,k o a=true→C (.BoolOp o a p)):C x:=
 yj h fun q h=>Expr.BoolOp.elim (motive_1:=fun x=>∀q,Expr.BoolOp.elim (motive_1:=fun zz=>Bool) x q (fun o a zz=>k o a)=true→C x) x q (fun o a p zz h=>f o a p h) q h
noncomputable def Hj(x:Expr)(k:Expr→Expr→Expr→Bool):Bool:=gd (x.ctorIdx=5) fun q=>Expr.IfExp.elim (motive_1:=fun zz=>Bool) x q fun a b c zz=>k a b c
@[elab_as_elim]theorem Lv{C:Expr→Prop}{x k}(h:Hj x k=true)(f:∀a b c p,k a b c=true→C (.IfExp a b c p)):C x:=
 yj h fun q h=>Expr.IfExp.elim (motive_1:=fun x=>∀q,Expr.IfExp.elim (motive_1:=fun zz=>Bool) x q (fun a b c zz=>k a b c)=true→C x) x q (fun a b c p zz h=>f a b c p h) q h
noncomputable def aSub(x:Expr)(k:Expr→Expr→Bool):Bool:=gd (x.ctorIdx=21) fun q=>Expr.Subscript.elim (motive_1:=fun zz=>Bool) x q fun a b zz=>k a b
@[elab_as_elim]theorem rZ{C:Expr→Prop}{x k}(h:aSub x k=true)(f:∀a b p,k a b=true→C (.Subscript a b p)):C x:=
 yj h fun q h=>Expr.Subscript.elim (motive_1:=fun x=>∀q,Expr.Subscript.elim (motive_1:=fun zz=>Bool) x q (fun a b zz=>k a b)=true→C x) x q (fun a b p zz h=>f a b p h) q h
noncomputable def Gw(x:Expr)(k:Option Expr→Option Expr→Bool):Bool:=gd (x.ctorIdx=26) fun q=>Expr.Slice.elim (motive_1:=fun zz=>Bool) x q fun l u s zz=>zY s (k l u)
@[elab_as_elim]theorem R0{C:Expr→Prop}{x k}(h:Gw x k=true)(f:∀l u p,k l u=true→C (.Slice l u none p)):C x:=
 yj h fun q h=>Expr.Slice.elim (motive_1:=fun x=>∀q,Expr.Slice.elim (motive_1:=fun zz=>Bool) x q (fun l u s zz=>zY s (k l u))=true→C x) x q (fun l u s p zz h=>kR (C:=fun s=>C (.Slice l u s p)) h (f l u p)) q h
noncomputable def zO(x:Expr)(k:List Expr→Bool):Bool:=gd (x.ctorIdx=24) fun q=>Expr.List.elim (motive_1:=fun zz=>Bool) x q fun a zz=>k a
@[elab_as_elim]theorem jz{C:Expr→Prop}{x k}(h:zO x k=true)(f:∀a p,k a=true→C (.List a p)):C x:=
 yj h fun q h=>Expr.List.elim (motive_1:=fun x=>∀q,Expr.List.elim (motive_1:=fun zz=>Bool) x q (fun a zz=>k a)=true→C x) x q (fun a p zz h=>f a p h) q h
noncomputable def Cu(x:Expr)(k:List Expr→Bool):Bool:=gd (x.ctorIdx=25) fun q=>Expr.Tuple.elim (motive_1:=fun zz=>Bool) x q fun a zz zz=>k a
@[elab_as_elim]theorem UL{C:Expr→Prop}{x k}(h:Cu x k=true)(f:∀a m p,k a=true→C (.Tuple a m p)):C x:=
 yj h fun q h=>Expr.Tuple.elim (motive_1:=fun x=>∀q,Expr.Tuple.elim (motive_1:=fun zz=>Bool) x q (fun a zz zz=>k a)=true→C x) x q (fun a m p zz h=>f a m p h) q h
noncomputable def FT(g:Comprehension)(k:Str→Expr→Bool):Bool:=aName g.target fun y=>PW g.ifs ((g.is_async==0)&&k y g.iter)
@[elab_as_elim]theorem y8{C:Comprehension→Prop}{g k}(h:FT g k=true)(f:∀y p i,k y i=true→C ⟨.Name y p,i,[],0⟩):C g:=by obtain⟨t,i,l,z⟩:=g;exact Vi (C:=fun t=>C ⟨t,i,l,z⟩) h fun y p h=>vp (C:=fun l=>C ⟨.Name y p,i,l,z⟩) h fun h=>a2 h fun h1 h2=>yJ (C:=fun z=>C ⟨.Name y p,i,[],z⟩) h1 (f y p _ h2)
noncomputable def E3(x:Expr)(k:Expr→Str→Expr→Scope→Bool):Bool:=gd (x.ctorIdx=8) fun q=>Expr.ListComp.elim (motive_1:=fun zz=>Bool) x q fun e gs sc zz=>MR gs fun g=>FT g fun y i=>k e y i sc
@[elab_as_elim]theorem HD{C:Expr→Prop}{x k}(h:E3 x k=true)(f:∀e y py i sc p,k e y i sc=true→C (.ListComp e [⟨.Name y py,i,[],0⟩] sc p)):C x:=
 yj h fun q h=>Expr.ListComp.elim (motive_1:=fun x=>∀q,Expr.ListComp.elim (motive_1:=fun zz=>Bool) x q (fun e gs sc zz=>MR gs fun g=>FT g fun y i=>k e y i sc)=true→C x) x q (fun e gs sc p zz h=>V2 (C:=fun gs=>C (.ListComp e gs sc p)) h fun g h=>y8 (C:=fun g=>C (.ListComp e [g] sc p)) h fun y py i h=>f e y py i sc p h) q h
noncomputable def Nr(x:Expr)(k:Str→List Expr→Bool):Bool:=aCall x fun g as zz=>aName g fun y=>k y as
@[elab_as_elim]theorem eA{C:Expr→Prop}{x k}(h:Nr x k=true)(f:∀y q as p,k y as=true→C (.Call (.Name y q) as [] p)):C x:=
 gL h fun g as p h=>Vi (C:=fun g=>C (.Call g as [] p)) h fun y q h=>f y q as p h
noncomputable def iV(f:Expr→Bool)(lo:E)(o:Option Expr):Bool:=@Option.casesOn Expr (fun zz=>Bool) o (isNone lo) f
mutual
noncomputable def Mt(ns:Ns1):E→Expr→Bool
 | .loc i,x=>aName x (MM ns i)
 | .Vt v,x=>aName x fun y=>glob ns y v
 | .cst v,x=>Ym x fun c=>yN c==some v
 | .gZ o f,x=>pY x fun e a zz=>a==nm f&&(m9 e&&Mt ns o e)
 | .call f as,x=>Nr x fun y args=>glob ns y f&&(keptOk f&&(args.all notStar&&Ou ns as args))
 | .Df o k as,x=>aCall x fun g args p=>pY g fun e m q=>UN k m&&(m9 e&&(decide (args.length<30)&&((q.endLine==p.line)&&(args.all notStar&&(Mt ns o e&&Ou ns as args)))))
 | .bin op a b,x=>UB x fun l o r=>decide (op=o)&&(Mt ns a l&&Mt ns b r)
 | .neg k,x=>B2 x fun o a=>decide (o= .USub)&&Ym a fun c=>c== .int (k:Int)
 | .not a,x=>B2 x fun o y=>decide (o= .Not)&&Mt ns a y
 | .cmp op a b,x=>RT x fun l os rs=>MR os fun o=>MR rs fun r=>decide (op=o)&&(!behindInMarks op r&&(Mt ns a l&&Mt ns b r))
 | .V8 a op b XY c,x=>RT x fun l os rs=>ZE os fun o o'=>ZE rs fun r r'=>decide (op=o)&&(decide (XY=o')&&(!behindInMarks XY r'&&(Mt ns a l&&(Mt ns b r&&Mt ns c r'))))
 | .bool FY es,x=>BR x fun o xs=>(FY==decide (o= .And))&&Ou ns es xs
 | .wJ c a b,x=>Hj x fun y u v=>Mt ns c y&&(Mt ns a u&&Mt ns b v)
 | .sub a i,x=>aSub x fun y z=>Jw z&&(Mt ns a y&&Mt ns i z)
 | .jk i lo hi,x=>aSub x fun y z=>aName y fun y=>Gw z fun l u=>MM ns i y&&(iV (Mt ns lo) lo l&&iV (Mt ns hi) hi u)
 | .lst es,x=>zO x fun xs=>Ou ns es xs&&(decide (xs.length≤1000)&&xs.all notStar)
 | .tup es,x=>Cu x fun xs=>Ou ns es xs&&(decide (xs.length≤1000)&&xs.all notStar)
 | .comp elt it t fv,x=>E3 x fun e y i sc=>Vx ns sc y t fv&&(zk i&&(Mt ns it i&&Mt (XN ns sc.names) elt e))
 | .qD elt hi t fv,x=>E3 x fun e y i sc=>Nr i fun z as=>MR as fun h=>Vx ns sc y t fv&&(glob ns z (.type "range")&&(notStar h&&(Mt ns hi h&&Mt (XN ns sc.names) elt e)))
 | .iU i k,x=>aSub x fun y z=>aName y fun y=>Gw z fun l u=>zY l (Yv u fun e=>MM ns i y&&Ym e fun c=>c== .int (k:Int))
 | .dead,_=>true
noncomputable def Ou(ns:Ns1):Es→List Expr→Bool
 | .nil,xs=>xs.isEmpty
 | .cons e es,xs=>ZX xs fun x xs=>Mt ns e x&&Ou ns es xs
end
section
variable{C:Expr→Prop}{ns:Ns1}{x:Expr}
@[elab_as_elim]theorem HY{o f}(h:Mt ns (.gZ o f) x=true)(g:∀e p,m9 e=true→Mt ns o e=true→C (.Attribute e (nm f) p)):C x:=
 GU h fun e zz p h=>a3 h fun h1 h2 h3=>yJ (C:=fun a=>C (.Attribute e a p)) h1 (g e p h2 h3)
@[elab_as_elim]theorem TO{f as}(h:Mt ns (.call f as) x=true)(g:∀y p args q,glob ns y f=true→keptOk f=true→args.all notStar=true→Ou ns as args=true→C (.Call (.Name y p) args [] q)):C x:=
 eA h fun y p args q h=>a4 h (g y p args q)
@[elab_as_elim]theorem tB{o k as}(h:Mt ns (.Df o k as) x=true)(g:∀e m q args p,UN k m=true→m9 e=true→args.length<30→(q.endLine==p.line)=true→args.all notStar=true→Mt ns o e=true→Ou ns as args=true→C (.Call (.Attribute e m q) args [] p)):C x:=
 gL h fun c args p h=>GU (C:=fun c=>C (.Call c args [] p)) h fun e m q h=>a7 h fun h1 h2 h3=>g e m q args p h1 h2 (of_decide_eq_true h3)
@[elab_as_elim]theorem FU{op a b}(h:Mt ns (.bin op a b) x=true)(g:∀l r p,Mt ns a l=true→Mt ns b r=true→C (.BinOp l op r p)):C x:=
 ym h fun l zz r p h=>a3 h fun h1 h2 h3=>YE (C:=fun o=>C (.BinOp l o r p)) h1 (g l r p h2 h3)
@[elab_as_elim]theorem SW{k}(h:Mt ns (.neg k) x=true)(g:∀m p q,C (.UnaryOp .USub (.Constant (.int (k:Int)) m p) q)):C x:=
 E6 h fun o a q h=>a2 h fun h1 h=>(of_decide_eq_true h1:o= .USub)▸ZP (C:=fun a=>C (.UnaryOp .USub a q)) h fun c m p h=>yJ (C:=fun c=>C (.UnaryOp .USub (.Constant c m p) q)) h (g m p q)
@[elab_as_elim]theorem Lq{a}(h:Mt ns (.not a) x=true)(g:∀y p,Mt ns a y=true→C (.UnaryOp .Not y p)):C x:=
 E6 h fun o a q h=>a2 h fun h1 h=>(of_decide_eq_true h1:o= .Not)▸g a q h
@[elab_as_elim]theorem Af{op a b}(h:Mt ns (.cmp op a b) x=true)(g:∀l r p,behindInMarks op r=false→Mt ns a l=true→Mt ns b r=true→C (.Compare l [op] [r] p)):C x:=
 iA h fun l os rs p h=>V2 (C:=fun os=>C (.Compare l os rs p)) h fun o h=>V2 (C:=fun rs=>C (.Compare l [o] rs p)) h fun r h=>a4 h fun h1 h2 h3 h4=>YE (C:=fun o=>C (.Compare l [o] [r] p)) h1 (g l r p (Bool.not_eq_true' _▸h2) h3 h4)
@[elab_as_elim]theorem Nj{a op b XY c}(h:Mt ns (.V8 a op b XY c) x=true)(g:∀l r s p,behindInMarks XY s=false→Mt ns a l=true→Mt ns b r=true→Mt ns c s=true→C (.Compare l [op,XY] [r,s] p)):C x:=
 iA h fun l os rs p h=>SR (C:=fun os=>C (.Compare l os rs p)) h fun o o' h=>SR (C:=fun rs=>C (.Compare l [o,o'] rs p)) h fun r s h=>a6 h fun h1 h2 h3 h4 h5 h6=>YE (C:=fun o=>C (.Compare l [o,o'] [r,s] p)) h1 (YE (C:=fun o=>C (.Compare l [op,o] [r,s] p)) h2 (g l r s p (Bool.not_eq_true' _▸h3) h4 h5 h6))
@[elab_as_elim]theorem gH{b es}(h:Mt ns (.bool b es) x=true)(g:∀o xs p,b=decide (o= .And)→Ou ns es xs=true→C (.BoolOp o xs p)):C x:=
 zj h fun o xs p h=>a2 h fun h1 h2=>g o xs p (eq_of_beq h1) h2
@[elab_as_elim]theorem Ak{c a b}(h:Mt ns (.wJ c a b) x=true)(g:∀y u v p,Mt ns c y=true→Mt ns a u=true→Mt ns b v=true→C (.IfExp y u v p)):C x:=
 Lv h fun y u v p h=>a3 h (g y u v p)
@[elab_as_elim]theorem JI{a i}(h:Mt ns (.sub a i) x=true)(g:∀y z p,Jw z=true→Mt ns a y=true→Mt ns i z=true→C (.Subscript y z p)):C x:=
 rZ h fun y z p h=>a3 h (g y z p)
@[elab_as_elim]theorem UY{i lo hi}(h:Mt ns (.jk i lo hi) x=true)(g:∀y p l u q r,MM ns i y=true→iV (Mt ns lo) lo l=true→iV (Mt ns hi) hi u=true→C (.Subscript (.Name y p) (.Slice l u none q) r)):C x:=
 rZ h fun y z r h=>Vi (C:=fun y=>C (.Subscript y z r)) h fun y p h=>R0 (C:=fun z=>C (.Subscript (.Name y p) z r)) h fun l u q h=>a3 h (g y p l u q r)
@[elab_as_elim]theorem GW{es}(h:Mt ns (.lst es) x=true)(g:∀xs p,Ou ns es xs=true→xs.length≤1000→xs.all notStar=true→C (.List xs p)):C x:=
 jz h fun xs p h=>a3 h fun h1 h2=>g xs p h1 (of_decide_eq_true h2)
@[elab_as_elim]theorem R7{es}(h:Mt ns (.tup es) x=true)(g:∀xs m p,Ou ns es xs=true→xs.length≤1000→xs.all notStar=true→C (.Tuple xs m p)):C x:=
 UL h fun xs m p h=>a3 h fun h1 h2=>g xs m p h1 (of_decide_eq_true h2)
@[elab_as_elim]theorem pn{elt it t fv}(h:Mt ns (.comp elt it t fv) x=true)(g:∀e y py i sc p,Vx ns sc y t fv=true→zk i=true→Mt ns it i=true→Mt (XN ns sc.names) elt e=true→C (.ListComp e [⟨.Name y py,i,[],0⟩] sc p)):C x:=
 HD h fun e y py i sc p h=>a4 h (g e y py i sc p)
@[elab_as_elim]theorem S5{elt hi t fv}(h:Mt ns (.qD elt hi t fv) x=true)(g:∀e y py rx rp ha cp sc p,Vx ns sc y t fv=true→glob ns rx (.type "range")=true→notStar ha=true→Mt ns hi ha=true→Mt (XN ns sc.names) elt e=true→C (.ListComp e [⟨.Name y py,.Call (.Name rx rp) [ha] [] cp,[],0⟩] sc p)):C x:=
 HD h fun e y py i sc p h=>eA (C:=fun i=>C (.ListComp e [⟨.Name y py,i,[],0⟩] sc p)) h fun rx rp as cp h=>V2 (C:=fun as=>C (.ListComp e [⟨.Name y py,.Call (.Name rx rp) as [] cp,[],0⟩] sc p)) h fun ha h=>a5 h (g e y py rx rp ha cp sc p)
@[elab_as_elim]theorem yC{i k}(h:Mt ns (.iU i k) x=true)(g:∀y p m p1 q r,MM ns i y=true→C (.Subscript (.Name y p) (.Slice none (some (.Constant (.int (k:Int)) m p1)) none q) r)):C x:=
 rZ h fun y z r h=>Vi (C:=fun y=>C (.Subscript y z r)) h fun y p h=>R0 (C:=fun z=>C (.Subscript (.Name y p) z r)) h fun l u q h=>kR (C:=fun l=>C (.Subscript (.Name y p) (.Slice l u none q) r)) h fun h=>Q6 (C:=fun u=>C (.Subscript (.Name y p) (.Slice none u none q) r)) h fun e h=>a2 h fun h1 h=>ZP (C:=fun e=>C (.Subscript (.Name y p) (.Slice none (some e) none q) r)) h fun c m p1 h=>yJ (C:=fun c=>C (.Subscript (.Name y p) (.Slice none (some (.Constant c m p1)) none q) r)) h (g y p m p1 q r h1)
@[elab_as_elim]theorem V0{C:List Expr→Prop}{xs}(h:Ou ns .nil xs=true)(g:C []):C xs:=List.isEmpty_iff.mp h▸g
@[elab_as_elim]theorem Ti{C:List Expr→Prop}{e es xs}(h:Ou ns (.cons e es) xs=true)(g:∀x r,Mt ns e x=true→Ou ns es r=true→C (x::r)):C xs:=Vu h fun x r h=>a2 h (g x r)
end
section
variable{cY:Heap}{uK:OsState}{w:World}{n:Nat}{X:AH→Prop}
noncomputable abbrev Le(Q Q':KQ):Prop:=∀v fr H,Q v fr H→Q' v fr H
variable{Q Q':KQ}{fr:dD}{H:AH}
theorem lR{o:Option Value}(h:Le Q Q')(k:cv Q fr H o):cv Q' fr H o:=by
 cases o with
 |none=>exact k
 |some u=>exact h _ _ _ k
theorem E8{op x y}(h:Le Q Q')(k:Ku Q op x y fr H):Ku Q' op x y fr H:=by
 revert k;unfold Ku;cases WK op x y with
 |some u=>exact h _ _ _
 |none=>cases Qr H op x y with
  |none=>exact id
  |some l=>exact fun k a q c=>h _ _ _ (k a q c)
theorem nO{t vs}(h:Le Q Q')(k:sH Q t vs fr H):sH Q' t vs fr H:=by
 revert k;unfold sH;cases Jl t vs with
 |some u=>exact h _ _ _
 |none=>cases Ox H t vs with
  |none=>exact id
  |some l=>exact fun k a q c=>h _ _ _ (k a q c)
theorem Uh{f vs}(h:Le Q Q')(k:vW cY uK w n X Q f vs fr H):vW cY uK w n X Q' f vs fr H:=by
 cases f with
 |builtin=>exact lR h k
 |type=>exact nO h k
 |ref a=>exact T2.mono _ _ _ (show T2 cY uK w n (.ref a) vs H (fun v H'=>zQ H'→Q v fr H') X from k) (g61 _) (fun v H' q c=>h _ _ _ (q c)) fun zz z=>z
 |_=>exact k
theorem Y3{f o vs}(h:Le Q Q')(k:Z5 cY uK w n X Q f o vs fr H):Z5 cY uK w n X Q' f o vs fr H:=by
 cases f with
 |own C f=>exact T2.mono _ _ _ (show T2 cY uK w n (.ref f) (o::vs) H (fun v H'=>zQ H'→Q v fr H') X from k) (g61 _) (fun v H' q c=>h _ _ _ (q c)) fun zz z=>z
 |app|pop=>exact Exists.imp (fun zz=>.imp fun zz=>.imp fun zz=>.imp_right <| .imp_right <| .imp_right <| .imp_right (h _ _ _)) k
 |ext=>exact Exists.imp (fun zz=>.imp fun zz=>.imp fun zz=>.imp fun zz=>.imp_right <| .imp_right <| .imp_right <| .imp_right <| .imp_right <| .imp_right (h _ _ _)) k
 |join|starts|get=>exact lR h k
theorem Sn{op x y}(h:Le Q Q')(k:dU op x Q y fr H):dU op x Q' y fr H:=by
 revert k;unfold dU;cases Et H op x y with
 |none=>exact id
 |some r=>exact h _ _ _
theorem GQ{v}(h:Le Q Q')(k:bF Q v fr H):bF Q' v fr H:=by cases v<;>first|exact k|exact h _ _ _ k
variable(cY uK w n X)
def Z1(e:E):Prop:=∀{Q Q':KQ}{fr H},Le Q Q'→jd cY uK w n X e Q fr H→jd cY uK w n X e Q' fr H
def Jk(es:Es):Prop:=(∀{Q Q':KL}{fr H},(∀v fr H,Q v fr H→Q' v fr H)→bU cY uK w n X es Q fr H→bU cY uK w n X es Q' fr H)∧∀b{Q Q':KQ}{fr H},Le Q Q'→Kc cY uK w n X b es Q fr H→Kc cY uK w n X b es Q' fr H
variable{cY uK w n X}
theorem Lg{a b v}(ha:Z1 cY uK w n X a)(hb:Z1 cY uK w n X b)(h:Le Q Q')(k:Av (jd cY uK w n X a) (jd cY uK w n X b) Q v fr H):Av (jd cY uK w n X a) (jd cY uK w n X b) Q' v fr H:=by
 cases v with
 |bool t=>cases t with
  |true=>exact ha h k
  |false=>exact hb h k
 |_=>exact k
theorem my{op XY c x y}(hc:Z1 cY uK w n X c)(h:Le Q Q')(k:Ig op XY (jd cY uK w n X c) x Q y fr H):Ig op XY (jd cY uK w n X c) x Q' y fr H:=by
 revert k;unfold Ig;cases Et H op x y with
 |none=>exact id
 |some r=>cases r with
  |true=>exact hc fun zz zz zz k=>Sn h k
  |false=>exact h _ _ _
theorem and_mono{b es v}(hs:Jk cY uK w n X es)(h:Le Q Q')(k:DQ b (Kc cY uK w n X b es) Q v fr H):DQ b (Kc cY uK w n X b es) Q' v fr H:=by
 cases v with
 |bool t=>
  show if _ then _ else _;have k:if t=b then Kc cY uK w n X b es Q fr H else Q (.bool t) fr H:=k
  by_cases q:t=b
  ·rw[if_pos q]at k⊢;exact hs.2 b h k
  ·rw[if_neg q]at k⊢;exact h _ _ _ k
 |_=>exact k
theorem ba{b e es}(i:Z1 cY uK w n X e)(j:Jk cY uK w n X es)(h:Le Q Q')(k:Kc cY uK w n X b (.cons e es) Q fr H):Kc cY uK w n X b (.cons e es) Q' fr H:=by
 cases es with
 |nil=>exact i h k
 |cons e' es=>exact i (fun zz zz zz k=>and_mono j h k) k
theorem mo(e:E):Z1 cY uK w n X e:=E.rec (motive_1:=Z1 cY uK w n X) (motive_2:=Jk cY uK w n X)
 (fun zz zz zz zz zz h k=>lR h k) (fun zz zz zz zz zz h k=>h _ _ _ k) (fun zz zz zz zz zz h k=>h _ _ _ k)
 (fun zz zz i zz zz zz zz h k=>i (fun zz zz zz k=>lR h k) k)
 (fun zz zz i zz zz zz zz h k=>i.1 (fun zz zz zz k=>Uh h k) k)
 (fun zz zz zz i j zz zz zz zz h k=>i (fun zz zz zz=>.imp_right (j.1 fun zz zz zz k=>Y3 h k)) k)
 (fun zz zz zz i j zz zz zz zz h k=>i (fun zz zz zz=>j fun zz zz zz k=>E8 h k) k)
 (fun zz zz zz zz zz h k=>h _ _ _ k)
 (fun zz i zz zz zz zz h k=>i (fun zz zz zz k=>GQ h k) k)
 (fun zz zz zz i j zz zz zz zz h k=>i (fun zz zz zz=>j fun zz zz zz k=>Sn h k) k)
 (fun zz zz zz zz zz i j l zz zz zz zz h k=>i (fun zz zz zz=>j fun zz zz zz k=>my l h k) k)
 (fun zz zz i zz zz zz zz h k=>i.2 _ h k)
 (fun zz zz zz i j l zz zz zz zz h k=>i (fun zz zz zz k=>Lg j l h k) k)
 (fun zz zz i j zz zz zz zz h k=>i (fun zz zz zz=>j fun zz zz zz k=>lR h k) k)
 (fun zz zz zz i j zz zz zz zz h k=>lR (fun zz zz zz=>i fun zz zz zz=>j fun zz zz zz k=>lR h k) k)
 (fun zz i zz zz zz zz h k=>i.1 (fun zz zz zz k a q c=>h _ _ _ (k a q c)) k)
 (fun zz i zz zz zz zz h k=>i.1 (fun zz zz zz k a q c=>h _ _ _ (k a q c)) k)
 (fun zz zz zz zz zz j zz zz zz zz h=>.imp_right <| .imp_right <|j fun zz zz zz=>.imp fun zz=>.imp fun zz=>.imp_right <| .imp_right <| .imp fun zz=>.imp_right <| .imp_right <| .imp_right fun k acc Dw i a q c=>h _ _ _ (k acc Dw i a q c))
 (fun zz zz zz zz zz j zz zz zz zz h=>.imp_right <| .imp_right <|j fun zz zz zz=>.imp fun zz=>.imp_right <| .imp_right <| .imp fun zz=>.imp_right <| .imp_right <| .imp_right fun k acc Dw i a q c=>h _ _ _ (k acc Dw i a q c))
 (fun zz zz zz zz zz zz h=>.imp fun zz=>.imp fun zz=>.imp_right <| .imp_right <| .imp_right fun k a q c=>h _ _ _ (k a q c))
 (fun zz k=>k)
 ⟨fun h k=>h _ _ _ k,fun zz zz zz zz zz zz k=>k⟩
 (fun zz zz i j=>⟨fun h k=>i (fun zz zz zz=>j.1 fun zz zz zz k=>h _ _ _ k) k,fun zz zz zz zz zz h k=>ba i j h k⟩) e
theorem RW(e:E)(h:Le Q Q')(k:jd cY uK w n X e Q fr H):jd cY uK w n X e Q' fr H:=mo e h k
end
end
section
section
variable{cY:Heap}{uK:OsState}{w:World}{n:Nat}{X:AH→Prop}
variable{env:Env}{outer ow:List Env}
theorem OR:(cz.all fun p=>F6.contains p.2.2)=true:=by kernel_rfl
theorem XV{C f:Addr}{m:Str}(h:(C,m,f)∈cz):keptOk (er (.ref f))=true:=List.all_eq_true.mp OR _ h
theorem eV{Q:Value→dD→AH→Prop}{fr H}{o:Option Value}{G:Prop}(h:cv Q fr H o)(f:∀u,o=some u→Q u fr H→G):G:=by
 cases o with
 |none=>exact h.elim
 |some u=>exact f u rfl h
theorem g8(ok:CL env){P:Value→dD→AH→Prop}{i:Nat}{x:Str}{pos:Pos}{fr H}(hc:MM env.scope.names i x=true)(h:cv P fr H (fr[i]?).join):
  Run cY uK w n env outer ow fr H (eval (.Name x pos) env) (fun v fr H=>P (er v) fr H) X:=by
 refine eV h fun u hu h=>aI hc fun hc hd=>BQ hc fun p e hc=>aI hc fun hx zz=>?_;exact rX ok (x:=x) (k:=p.2) (e.trans (by rw[←beq_iff_eq.mp hx])) (Option.join_eq_some_iff.mp hu) ((Bool.not_eq_true' _).mp hd) fun v' e=>e▸h
theorem wk(base:AG cY w)(ok:CL env){P:Value→dD→AH→Prop}{x:Str}{v:Value}{pos:Pos}{fr H}(hc:glob env.scope.names x v=true)(h:∀u,er u=v→P u fr H):
  Run cY uK w n env outer ow fr H (eval (.Name x pos) env) P X:=by
 exact aI hc fun hc hd=>aI hc fun h1 h2=>LD base ok (beq_iff_eq.mp h1) (beq_iff_eq.mp h2) ((Bool.not_eq_true' _).mp hd) h
theorem yu{v:Value}{b:Bool}(h:bv (er v)=some b):v= .bool b:=
 EQ h fun q e=>Value.bool.elim (motive:=fun v=>∀q:(er v).ctorIdx=3,some (Value.bool.elim (motive:=fun zz=>Bool) (er v) q (fun x=>x))=some b→v= .bool b) v ((GK v).symm.trans q) (fun zz zz e=>R6T Value.bool (Y1l e)) q e
theorem x9(base:AG cY w){P:Value→dD→AH→Prop}{f:Addr}{vs args:List Value}{fr H}(hv:vs.map er=args)(h:T2 cY uK w n (.ref f) args H (fun v H'=>zQ H'→P v fr H') X):
  Run cY uK w n env outer ow fr H (call (.ref f) vs) (fun v fr H=>P (er v) fr H) X:=.cst base ((nA h hv).im fun v ve H' z c=>z.1▸z.2 c)
theorem d9(base:AG cY w){P:Value→dD→AH→Prop}{t:String}{vs:List Value}{fr H}(h:sH P t (vs.map er) fr H):
  Run cY uK w n env outer ow fr H (call (.type t) vs) (fun v fr H=>P (er v) fr H) X:=by
 let C (t:String) (vs:List Value):Prop:=Run cY uK w n env outer ow fr H (call (.type t) vs) (fun v fr H=>P (er v) fr H) X
 show C t vs;unfold sH at h;cases hu:Jl t (vs.map er)with
 |some u=>
  rw[hu]at h;exact tc hu fun q hu=>q▸Vr hu fun v hu=>iX hu (fun hu=>EN (C:=fun v=>C _ [v]) hu fun x t e A Rk s hs=>PySem.P.str_of_str ⟨fr,H,.refl hs,(show P (.str x 0) fr H from Y1l e▸h)⟩) fun hu=>HH hu fun b eb e=>yu eb▸fun A Rk s hs=>PySem.P.str_of_bool ⟨fr,H,.tok hs _,(by have h:P (.str (if b then "True" else "False") 0) fr H:=Y1l e▸h;cases b<;>exact h)⟩
 |none=>
  rw[hu]at h;cases hl:Ox H t (vs.map er)with
  |some l=>rw[hl]at h;exact tc hl fun q hl=>q▸Vr hl fun v hl=>HH hl fun p hp hl=>tc hl fun z e=>.cst base (Sl base (hp.trans (R6T some (Prod.ext z.1 rfl))) z.2 (show∀a,H a=none→zQ (upd H a (.lst p.2))→P (.ref a) fr (upd H a (.lst p.2))from Y1l e▸h))
  |none=>rw[hl]at h;exact h.elim
theorem nH(base:AG cY w){P:Value→dD→AH→Prop}{g:Value}{vs:List Value}{fr H}(h:vW cY uK w n X P (er g) (vs.map er) fr H):
  Run cY uK w n env outer ow fr H (call g vs) (fun v fr H=>P (er v) fr H) X:=by
 cases g with
 |builtin id=>exact eV h fun u hu h=>zH base hu fun v e=>e▸h
 |type t=>exact d9 base h
 |ref a=>exact x9 base rfl h
 |_=>exact h.elim
theorem Wn(base:AG cY w){A:Around}{Rk:Heap}{s:Shared}{fr H}(hs:Here cY uK n A env outer ow Rk s fr H){a b:Addr}{xs ys:Array Value}{l:List Value}(is:s.heap.IsList a xs)(js:s.heap.IsList b ys)(hz:(xs.toList.map er).length+(ys.toList.map er).length≤10000)(e:xs.toList.map er++ys.toList.map er=l)
  {Q:Value→dD→AH→Prop} (h:∀c,H c=none→zQ (upd H c (.lst l))→Q (.ref c) fr (upd H c (.lst l))):wpAny (model Hd.pw w) A (binaryOp .Add (.ref a) (.ref b)) (Po cY uK env outer Rk Q s) (Px cY uK env outer ow Rk X s) s:=by
 obtain⟨⟨cls,dd,data,sl⟩,ho,hc,n1,hd⟩:=is;obtain⟨⟨l0R,dd2,data2,tw⟩,Dq,v9,n2,hd2⟩:=js;cases hc;cases hd;cases v9;cases hd2;have af:=After.push (tk:=s.toks) (ao:=.lst l) hs (o:=⟨.type "list",none,.seq (xs++ys) 0, #[]⟩) ⟨xs++ys,0, #[],Heap.get?_push_size _ rfl,by rw[Array.toList_append,List.map_append,e]⟩ fun zz zz zz q=>nomatch q;exact concat_meets ⟨_,ho,rfl⟩ ⟨_,Dq,rfl⟩ noFill_list_add seq_list_add PySem.F.slot_list_add PySem.F.entry_list_add (PySem.F.args_list_add_2 _ _) (list_addW a b xs ys n1 n2 dd dd2 sl tw (by rw[sizeLine_eq];simp at hz;lia)) ⟨ho,Dq,fr,_,af,h _ hs.inv.IZ (af.inv.cst base)⟩
theorem jT{P:Value→dD→AH→Prop}{op:Operator}{x y:Value}{fr H}(base:AG cY w)(h:Ku P op (er x) (er y) fr H):
  Run cY uK w n env outer ow fr H (binaryOp op x y) (fun v fr H=>P (er v) fr H) X:=by
 unfold Ku at h;cases hu:WK op (er x) (er y)with
 |some u=>rw[hu]at h;exact xm hu fun v e=>e▸h
 |none=>
  rw[hu]at h;cases hl:Qr H op (er x) (er y)with
  |none=>rw[hl]at h;exact h.elim
  |some l=>
   rw[hl]at h;exact fun A Rk s hs=>tc hl fun q hl=>q▸xd (C:=fun x=>wpAny (model Hd.pw w) A (binaryOp .Add x y) _ _ s) base hs.inv hl (fun a xs is hl=>xd (C:=fun y=>wpAny (model Hd.pw w) A (binaryOp .Add _ y) _ _ s) base hs.inv hl
    (fun b ys js hl=>tc hl fun hz e=>Wn base hs is js hz.2.2 (Y1l e) h) fun b ys js hl=>tc hl fun hz=>nomatch hz.2.1) fun a xs is hl=>HH hl fun p zz hl=>tc hl fun hz=>nomatch hz.1
theorem uN(base:AG cY w){P:Value→dD→AH→Prop}{op:CmpOp}{x y:Value}{r:Bool}{fr H}(hv:Et H op (er x) (er y)=some r)(h:P (.bool r) fr H):
  Run cY uK w n env outer ow fr H (compareOp op x y) P X:=by
 refine iX hv (fun e=>cR e h) fun hv=>?_;cases op with
 |In=>exact iX hv (fun e=>yb base e h) fun hv=>Fs (C:=fun y=>Run cY uK w n env outer ow fr H (compareOp .In x y) P X) hv fun a hv=>iX hv (fun hv=>HH hv fun k ek hv=>YX hv fun tb ht hg=>(LL ek).elim fun t e=>e▸YU base ht rfl (hg▸h))
       fun hv=>HH hv fun i ei hv=>tc hv fun q e=>(ye ei).elim fun t e2=>q▸e2▸qk base rfl (Y1l e▸h)
 |NotIn=>exact YX hv fun b e q=>Ju base e (q▸h)
 |Eq=>exact YZ base (DN hv) h
 |NotEq=>exact YX hv fun b e q=>IY base (DN e) (q▸h)
 |_=>cases hv
theorem i8{d:Value}:jo (er d)=jo d:=by cases d<;>rfl
theorem s3{Q:KQ}{ov:Value}{vs:List Value}{fr H}(h:Z5 cY uK w n X Q .app (er ov) (vs.map er) fr H):Run cY uK w n env outer ow fr H (call (.builtin "list.append") (ov::vs)) (fun v fr H=>Q (er v) fr H) X:=
 h.elim fun a h=>h.elim fun us h=>h.elim fun u h=>(tM h.2.2.2.1).elim fun v z=>t7 h.1▸z.1▸Ms h.2.1 h.2.2.1 (z.2▸h.2.2.2.2)
theorem MV{Q:KQ}{ov:Value}{vs:List Value}{fr H}(h:Z5 cY uK w n X Q .pop (er ov) (vs.map er) fr H):Run cY uK w n env outer ow fr H (call (.builtin "list.pop") (ov::vs)) (fun v fr H=>Q (er v) fr H) X:=
 h.elim fun a h=>h.elim fun us h=>h.elim fun u h=>t7 h.1▸List.map_eq_nil_iff.mp h.2.2.2.1▸I3 h.2.1 h.2.2.1 fun v hv=>hv▸h.2.2.2.2
theorem Cc{Q:KQ}{ov:Value}{vs:List Value}{fr H}(h:Z5 cY uK w n X Q .ext (er ov) (vs.map er) fr H):Run cY uK w n env outer ow fr H (call (.builtin "list.extend") (ov::vs)) (fun v fr H=>Q (er v) fr H) X:=
 h.elim fun a h=>h.elim fun us h=>h.elim fun b h=>h.elim fun ws h=>(tM h.2.2.1).elim fun v z=>t7 h.1▸z.1▸t7 z.2▸NI h.2.1 h.2.2.2.2.1 h.2.2.2.2.2.1 h.2.2.2.2.2.2
theorem Pt(base:AG cY w){Q:KQ}{ov:Value}{vs:List Value}{fr H}(h:cv Q fr H (DX (er ov) (vs.map er))):Run cY uK w n env outer ow fr H (call (.builtin "dict.get") (ov::vs)) (fun v fr H=>Q (er v) fr H) X:=
 eV h fun u hu h2=>Fs (C:=fun o=>Run cY uK w n env outer ow fr H (call (.builtin "dict.get") (o::vs)) (fun v fr H=>Q (er v) fr H) X) hu fun a hu=>mE (C:=fun vs=>Run cY uK w n env outer ow fr H (call (.builtin "dict.get") (_::vs)) (fun v fr H=>Q (er v) fr H) X) hu fun v d hu=>EN (C:=fun v=>Run cY uK w n env outer ow fr H (call (.builtin "dict.get") [_,v,d]) (fun v fr H=>Q (er v) fr H) X) hu
  fun x t hu=>HH hu fun tb ht hu=>tc hu fun fl e=>WU base ht rfl (i8▸fl) fun r e'=>by rw[e',Option.some.inj e];exact h2
theorem O0(base:AG cY w){P:Value→dD→AH→Prop}{k:Mk}{m:Str}{ov:Value}{fr H}{t:Sem (List Value)}{pl:Sem Bool}(hk:UN k m=true)(hp:g9 k (er ov) H)
  (h:Run cY uK w n env outer ow fr H t (fun vs fr H=>Z5 cY uK w n X P k (er ov) (vs.map er) fr H) X):
  Run cY uK w n env outer ow fr H (getMethod ov m pl) (fun p fr H=>keptOk (er p.1)=true∧Run cY uK w n env outer ow fr H t (fun vs fr H=>Run cY uK w n env outer ow fr H (call p.1 (p.2++vs)) (fun v fr H=>P (er v) fr H) X) X) X:=by
 unfold UN at hk;cases k with
 |own C f=>
  have hm:(C,m,f)∈cz:=List.contains_iff_mem.mp hk;exact VN base hm hp ⟨XV hm,h.im fun vs fr H h=>x9 base rfl h⟩
 |app=>exact yJ hk (hp.elim fun a hp=>hp.elim fun us hp=>nn hp.1 hp.2 ⟨rfl,h.im fun vs fr H h=>s3 h⟩)
 |pop=>exact yJ hk (hp.elim fun a hp=>hp.elim fun us hp=>QP PySem.F.slot_list_pop PySem.F.type_list_pop hp.1 hp.2 ⟨rfl,h.im fun vs fr H h=>MV h⟩)
 |ext=>exact yJ hk (hp.elim fun a hp=>hp.elim fun us hp=>QP PySem.F.slot_list_extend PySem.F.type_list_extend hp.1 hp.2 ⟨rfl,h.im fun vs fr H h=>Cc h⟩)
 |join=>exact yJ hk (hp.elim fun x hp=>l6 hp ⟨rfl,h.im fun vs fr H h=>eV h fun u hu h=>zH base (vs:=ov::vs) hu fun v e=>e▸h⟩)
 |starts=>exact yJ hk (hp.elim fun x hp=>uo hp ⟨rfl,h.im fun vs fr H h=>eV h fun u hu h=>zH base (vs:=ov::vs) hu fun v e=>e▸h⟩)
 |get=>exact yJ hk (hp.elim fun a hp=>hp.elim fun tb hp=>BI base hp.1 hp.2 ⟨rfl,h.im fun vs fr H h=>Pt base h⟩)
end
end
section
noncomputable def xC(f:Flow):Fl:=@Flow.casesOn (fun zz=>Fl) f .next .brk .cont fun v=>.ret (er v)
@[reducible]noncomputable def gW(N:dD→AH→Prop)(P:Flow→dD→AH→Prop)(f:Flow):dD→AH→Prop:=@Flow.casesOn (fun zz=>dD→AH→Prop) f N (P .brk) (P .cont) fun v=>P (.ret v)
@[reducible]noncomputable def vk(I:dD→AH→Prop)(P:Flow→dD→AH→Prop)(f:Flow):dD→AH→Prop:=@Flow.casesOn (fun zz=>dD→AH→Prop) f I (P .next) I fun v=>P (.ret v)
noncomputable def xG(e:Expr):Bool:= !(decide (e.ctorIdx=8) || (decide (e.ctorIdx=9) || decide (e.ctorIdx=10)))
theorem xW{e:Expr}{t:Option Expr}{l:Nat}{env:Env}(h:xG e=true):swapsWith e t l env=pure false:=by
 cases e with
 |ListComp|SetComp|DictComp=>exact absurd h Bool.false_ne_true
 |_=>rfl
section
variable{cY:Heap}{uK:OsState}{w:World}{n:Nat}{X:AH→Prop}
variable{env:Env}{outer ow:List Env}{fr:dD}{H:AH}
theorem Run.Iz{P:Flow→dD→AH→Prop}(h:P .next fr H):Run cY uK w n env outer ow fr H (execs [] env) P X:=fun A Rk s hs=>wpAny_execs_nil ⟨fr,H,.refl hs,h⟩
theorem Run.aq{P:Flow→dD→AH→Prop}{st:Stmt}{r:List Stmt}(h:Run cY uK w n env outer ow fr H (exec st env) (gW (fun fr H=>Run cY uK w n env outer ow fr H (execs r env) P X) P) X):
  Run cY uK w n env outer ow fr H (execs (st::r) env) P X:=fun A Rk s hs=>wpAny_execs_cons (h.go (.refl hs) hs fun f s₁ gu Dw Wp wi k=>by
 cases f with
 |next=>exact k.end Wp wi
 |brk|cont|ret v=>exact⟨gu,Dw,Wp,k⟩)
theorem Run.B1{P:Flow→dD→AH→Prop}{e:Expr}{pos:Pos}(h:Run cY uK w n env outer ow fr H (eval e env) (fun v=>P (.ret v)) X):Run cY uK w n env outer ow fr H (exec (.Return (some e) pos) env) P X:=fun A Rk s hs=>
 wpAny_Return_some (h A Rk s hs)
theorem Run.qp{P:Flow→dD→AH→Prop}{pos:Pos}(h:P (.ret .none) fr H):Run cY uK w n env outer ow fr H (exec (.Return none pos) env) P X:=fun A Rk s hs=>wpAny_Return_none ⟨fr,H,.refl hs,h⟩
theorem Run.L4{P:Flow→dD→AH→Prop}{pos:Pos}(h:P .brk fr H):Run cY uK w n env outer ow fr H (exec (.Break pos) env) P X:=fun A Rk s hs=>wpAny_Break ⟨fr,H,.refl hs,h⟩
theorem Run.xK{P:Flow→dD→AH→Prop}{pos:Pos}(h:P .cont fr H):Run cY uK w n env outer ow fr H (exec (.Continue pos) env) P X:=fun A Rk s hs=>wpAny_Continue ⟨fr,H,.refl hs,h⟩
theorem Run.Fe{P:Flow→dD→AH→Prop}{c:Expr}{a b:List Stmt}{pos:Pos}(h:Run cY uK w n env outer ow fr H (isTrue c env (eval c env)) (fun t fr H=>if t then Run cY uK w n env outer ow fr H (execs a env) P X else Run cY uK w n env outer ow fr H (execs b env) P X) X):
  Run cY uK w n env outer ow fr H (exec (.If c a b pos) env) P X:=by
 rw[arm_exec_If];exact .bind (.at (.bind (h.im (fun t fr H h=>.ite h))))
theorem Run.kx{P:Flow→dD→AH→Prop}{x:Str}{i:Nat}{e:Expr}{p pos:Pos}(ok:CL env)(hx:env.scope.names[i]? =some (x,.local))(hc:xG e=true)
  (h:Run cY uK w n env outer ow fr H (eval e env) (fun v fr H=>P .next (fr.set i (some (er v))) H) X):Run cY uK w n env outer ow fr H (exec (.Assign [.Name x p] e pos) env) P X:=by
 rw[exec_Assign_Name env x p e pos (xW hc)];exact .bind (.at (.bind (h.im (fun v fr H h=>.bind (.at (.bind (run_bind ok hx (.pure h))))))))
theorem Run.eO{P:Flow→dD→AH→Prop}{e:Expr}{pos:Pos}(hi:interactive env=false)(hc:xG e=true)(h:Run cY uK w n env outer ow fr H (eval e env) (fun zz fr H=>P .next fr H) X):
  Run cY uK w n env outer ow fr H (exec (.Expr e pos) env) P X:=fun A Rk s hs=>
 wpAny_Expr_any (h A Rk s hs) hi (xW hc)
theorem Run.s1{P:Flow→dD→AH→Prop}{t e:Expr}{pos:Pos}(hc:xG e=true)(e0:(assignEach [t] env).map (·.2)= [assign t env])(e2:swappedStores [t] e env=Pure.pure none)
  (h:Run cY uK w n env outer ow fr H (eval e env) (fun v fr H=>Run cY uK w n env outer ow fr H (assign t env v) (fun zz fr H=>P .next fr H) X) X):Run cY uK w n env outer ow fr H (exec (.Assign [t] e pos) env) P X:=by
 have e1:swapsWithSole [t] e pos.line env=Pure.pure false:=by unfold swapsWithSole;exact xW hc
 rw[arm_exec_Assign,e1,e2,e0];refine .bind (.at (.bind (.pure ?_)));show Run cY uK w n env outer ow fr H (do
  let v←eval e env
  assignStores env v (←(Pure.pure none:Sem (Option (List Str)))) [assign t env]) P X
 refine .bind (h.im (fun v fr H h=>.bind (.pure ?_)));show Run cY uK w n env outer ow fr H (do
  let _←assign t env v
  Pure.pure Flow.next) P X
 exact .bind (h.im fun zz fr H h=>.pure h)
theorem Run.RY{P:Flow→dD→AH→Prop}{o e:Expr}{a:Str}{p pos:Pos}(hc:xG e=true)
  (h:Run cY uK w n env outer ow fr H (eval e env) (fun v fr H=>Run cY uK w n env outer ow fr H (eval o env) (fun ov fr H=>Run cY uK w n env outer ow fr H (setAttr ov a v) (fun zz fr H=>P .next fr H) X) X) X):
  Run cY uK w n env outer ow fr H (exec (.Assign [.Attribute o a p] e pos) env) P X:=
 .s1 hc rfl (by cases e<;>rfl) (h.im fun v fr H h=>by
  show Run cY uK w n env outer ow fr H (do
   let ov←PySem.holding [v] (eval o env)
   standAt p.atName
   PySem.holding [v,ov] (setAttr ov a v)
   release [v,ov] []:Sem Unit) _ X
  exact .bind (.holding (h.im fun ov fr H h=>.bind (.at (.bind (.holding (h.im fun zz fr H h=>vq h)))))))
theorem Run.V5{P:Flow→dD→AH→Prop}{o e:Expr}{a:Str}{op:Operator}{p pos:Pos}
  (h:Run cY uK w n env outer ow fr H (eval o env) (fun ov fr H=>Run cY uK w n env outer ow fr H (getAttr ov a true) (fun old fr H=>Run cY uK w n env outer ow fr H (eval e env) (fun v fr H=>Run cY uK w n env outer ow fr H (inplaceOp op old v)
   (fun u fr H=>Run cY uK w n env outer ow fr H (setAttr ov a u) (fun zz fr H=>P .next fr H) X) X) X) X) X):
  Run cY uK w n env outer ow fr H (exec (.AugAssign (.Attribute o a p) op e pos) env) P X:=by
 rw[arm_exec_AugAssign_2];refine .bind (.at (.bind (h.im (fun ov fr H h=>.bind (.holding (.bind (.at (.bind (h.im (fun old fr H h=>.bind (.holding (h.im (fun v fr H h=>.bind (.at (.operate (h.im (fun u fr H h=>?_)))))))))))))))));exact .bind (.at (.bind (.holding (h.im (fun zz fr H h=>.bind (vq (.pure h)))))))
end
end
section
section
variable{cY:Heap}{uK:OsState}{w:World}{n:Nat}{X:AH→Prop}{A:Around}{Rk:Heap}{s:Shared}
variable{env:Env}{outer ow:List Env}{fr:dD}{H:AH}
theorem nS{base h:Heap}{L e:Addr}{cls:Value}{Q:Unit→Shared→Prop}
  (N3:A.frames=some (env::outer)) (hf:env.frame=some L) (As:base.StaysIn h) (hl:h.FunFrames base (env::outer)) (hx:J3 h s.heap e cls)
  (hQ:∀h' a0,Heap.HeldW base (env::outer) e cls a0 L h'→s.heap.UpToSlots h'→Q () {s with heap:=h'}):wpAny (model Hd.pw w) A (noteFrame (.ref e) env) Q (fun zz zz=>False) s:=by
 have fresh:∀b,h.get? b=none→base.get? b=none:=fun b hb=>Option.eq_none_iff_forall_ne_some.mpr fun o q=>MI ((As b o q).symm.trans hb);unfold noteFrame;simp only[hf];refine hx.there.elim fun oe z=>z.elim fun vs z=>z.elim fun a0 z=>wpAny_bind (wpAny_field z.1 z.2.2.1 z.2.2.2.1 ?_);rw[if_neg (by decide)];exact wpAny_entryW (a0:=a0) N3 (hl.of_keeps fun b o hb zz=>⟨o,hx.keeps b o hb,rfl⟩) hf z.1 (fun b o hb=>hx.keeps b o (As b o hb)) (fresh e hx.new) z.2.2.1 (Array.getElem?_eq_some_iff.mp z.2.2.2.1).1 z.2.2.2.2 fun h' hN=>hQ h' a0 ⟨hN.1,fresh e hx.new,hN.2.1,z.2.1▸hN.2.2.1⟩ hN.2.2.2
theorem Gy{l:List Env}{e L:Addr}{cls a0:Value}{E:Value→Shared→Prop}(hf:env.frame=some L)(hh:Heap.HeldW Rk l e cls a0 L s.heap)
  (hE:∀h',Heap.HeldW Rk l e cls a0 L h'→s.heap.UpToSlots h'→E (.ref e) {s with heap:=h'}):cameBackBy (model Hd.pw w) A env E (.ref e) s:=by
 obtain⟨As,ON,hl,oe,vs,T,oT,ts,he,qP,hd,h1,Md,o0,hT,Ka,h3⟩:=hh;have eR:3<ts.size:=(Array.getElem?_eq_some_iff.mp h3).1;have other:∀b,b≠T→(s.heap.update T (Obj.mapFields (·.setIfInBounds 3 ((some L:Option Addr).elim Value.none fun f=>rawInt f)))).get? b=s.heap.get? b:=
  fun b hb=>Heap.get?_update_other _ _ (Ne.symm hb)
 have zG:∀b o,s.heap.get? b=some o→(∀vs,o.data≠ .fields vs)→b≠T:=fun b o hb NW q=>by rw[q,hT]at hb;injection hb with hb;subst hb;exact NW ts Ka
 unfold cameBackBy;refine wpAny_bind (wpAny_field he hd h1 ?_);rw[if_neg (show¬(Value.ref T==Value.none)=true from by simp)];unfold setFlight;rw[hf];refine wpAny_bind (wpAny_field he hd h1 ?_);rw[if_pos (show(Value.ref T != Value.none)=true from by simp)];refine wpAny_setField hT Ka eR (hE _ ⟨fun b o FF=>(other b fun q=>by rw[q,Md]at FF;cases FF).trans (As b o FF),ON,
  hl.of_keeps fun b o hb NW=>⟨o,(other b (zG b o hb NW)).trans hb,rfl⟩,?_⟩ fun b o hb NW=>⟨o.slots,(other b (zG b o hb NW)).trans hb⟩)
 exact⟨oe,vs,T,_,_,(other e (Ne.symm o0)).trans he,qP,hd,h1,Md,o0,Heap.get?_update_self _ hT (Obj.isFreed_of_fields (Obj.data_mapFields Ka _)),Obj.data_mapFields Ka _,by simp[eR]⟩
theorem A4{h h':Heap}{L:Addr}(u:h.UpToSlots h')(x:∃m,h.Ns L m):∃m,h'.Ns L m:=by exact x.imp fun m x=>x.elim fun o x=>x.elim fun es x=>x.elim fun ep x=>(u _ _ x.1 (fun zz q=>nomatch x.2.1.symm.trans q)).elim fun t e=>⟨_,es,ep,e,x.2⟩
def vA(cY:Heap)(uK:OsState)(env:Env)(outer:List Env)(Rk:Heap)(X:AH→Prop)(s s':Shared)(e:Value):Prop:=
 ∃H' a a0,e= .ref a∧Inv cY uK Rk (env::outer) s' H'∧FJ outer s.heap s'.heap∧Heap.HeldW Rk (env::outer) a (.ref Hd.s5) a0 env.locals s'.heap∧X H'∧∃m,s'.heap.Ns env.locals m
theorem Y7{Wy s':Shared}{e:Value}{R:Value→Shared→Prop}(hf:env.frame=some env.locals)(hs:A.frames=some (env::outer))(h:∃H',xe cY uK env outer (env::outer) Rk Wy s' e H'∧X H')
  (hR:∀e MF,vA cY uK env outer Rk X Wy MF e→R e MF):notedBy (model Hd.pw w) A env R e s':=by
 refine h.elim fun H' h=>?_;unfold notedBy;have iv:=iy hf▸h.1.inv;have fin:∀a a0 h',Heap.HeldW Rk (env::outer) a (.ref Hd.s5) a0 env.locals h'→s'.heap.UpToSlots h'→R (.ref a) {s' with heap:=h'}:=fun a a0 h' hd u=>
  hR _ _ ⟨H',a,a0,rfl,iv.slots u hd.1 hd.2.2.1 iv.dY,h.1.keep.trans (.of_slots iv.tail.lY u),hd,h.2,A4 u h.1.ns⟩
 exact h.1.exc.elim (fun z=>z.elim fun a z=>z.elim fun h z=>z.1.symm▸wpAny_mono (nS hs hf z.2.2.1 z.2.2.2 z.2.1 fun h' t hd u=>fin a _ h' hd u) (fun zz zz z=>z) fun zz zz z=>z.elim)
  fun z=>z.elim (fun z=>z.elim fun a z=>z.elim fun a0 z=>z.1.symm▸wpAny_looks_onW hs hf z.2 fun h' hd u=>fin a a0 h' hd u)
   fun z=>z.elim fun a z=>z.elim fun a0 z=>z.1.symm▸wpAny_noteFrame_againW hf z.2.2.2.2 (hR _ _ ⟨H',a,a0,rfl,iv,h.1.keep,z.2,h.2,h.1.ns⟩)
theorem eu{Wy s':Shared}{e:Value}(hf:env.frame=some env.locals)(h:vA cY uK env outer Rk X Wy s' e):
  cameBackBy (model Hd.pw w) A env (Px cY uK env outer (env::outer) Rk X Wy) e s':=by
 exact h.elim fun H' h=>h.elim fun a h=>h.elim fun a0 h=>h.1.symm▸Gy hf h.2.2.2.1 fun h' LV u=>
  ⟨H',⟨(iy hf).symm▸h.2.1.slots u LV.1 LV.2.2.1 h.2.1.dY,h.2.2.1.trans (.of_slots h.2.1.tail.lY u),.inr (.inr ⟨a,a0,rfl,LV⟩),A4 u h.2.2.2.2.2⟩,h.2.2.2.2.1⟩
theorem uw{Wy s':Shared}{e:Value}(hf:env.frame=some env.locals)(hs:A.frames=some (env::outer))(h:Px cY uK env outer (env::outer) Rk X Wy e s'):
  notedBy (model Hd.pw w) A env (fun e s'=>cameBackBy (model Hd.pw w) A env (Px cY uK env outer (env::outer) Rk X Wy) e s') e s':=Y7 hf hs h fun zz zz z=>eu hf z
theorem Run.qq{P:Flow→dD→AH→Prop}{c:Expr}{b:List Stmt}{pos:Pos}(hf:env.frame=some env.locals)(I:Nat→dD→AH→Prop){k:Nat}(h0:I k fr H)
  (h:∀k fr H,I k fr H→Run cY uK w n env outer (env::outer) fr H (isTrue c env (eval c env)) (fun t fr H=>if t then Run cY uK w n env outer (env::outer) fr H (execs b env) (vk (fun fr H=>∃m,m<k∧I m fr H) P) X else P .next fr H) X):
  Run cY uK w n env outer (env::outer) fr H (exec (.While c b [] pos) env) P X:=fun A Rk s hs=>by
 refine wpAny_While (codeAny_whileLoop (fun k s'=>∃ve H',After cY uK env outer Rk s s' ve H'∧I k ve H') (fun k s₁ z=>z.elim fun gu z=>z.elim fun Dw z=>?_) k ⟨fr,H,.refl hs,h0⟩);refine(h k gu Dw z.2).Gh z.1 (z.1.here hs) (fun zz zz=>uw hf hs.lY) fun t UI dh XZ Zz dz q=>?_;cases t with
 |false=>exact wpAny_execs_nil ⟨dh,XZ,Zz,q⟩
 |true=>
  refine Run.Gh Zz dz q (fun zz zz=>uw hf hs.lY) fun f ay Q5 iB l8 zz q=>?_;cases f with
  |next|cont=>exact q.imp fun m q=>⟨q.1,Q5,iB,l8,q.2⟩
  |brk|ret v=>exact⟨Q5,iB,l8,q⟩
end
end
section
set_option genSizeOf false in
set_option genInjectivity false in
inductive Src where
 |val (kd:Nat) (v:Value)
 |A1 (lo:Int) (n:Nat)
noncomputable def Lh(H:AH):Src→List Value→Prop
 | .val kd v,items=>uL H (er v)=some (kd,items)
 | .A1 lo n,items=>items=(List.range n).map fun(k:Nat)=>.int (lo+k*1) 0
inductive pc(h:Heap)(it:Addr):Src→Nat→Prop where
 |list {ax:Addr} {i:Nat}:h.IsListIter it ax i→ax≠it→pc h it (.val 1 (.ref ax)) i
 |tuple {ax:Addr} {i:Nat}:h.IsTupleIter it ax i→ax≠it→pc h it (.val 2 (.ref ax)) i
 |sa {x:Str} {t:Tok} {i:Nat}:h.IsStrIter it "str_ascii_iterator" x t i→pc h it (.val 0 (.str x t)) i
 |sw {x:Str} {t:Tok} {i:Nat}:h.IsStrIter it "str_iterator" x t i→pc h it (.val 0 (.str x t)) i
 |A1 {lo:Int} {n i:Nat}:IsRangeIter h it (lo+(i:Nat)*1) ((n:Int)-(i:Nat)) 1→pc h it (.A1 lo n) i
theorem pc.keeps{h h':Heap}{it:Addr}{src:Src}{i:Nat}(x:pc h it src i)(k:∀o,h.get? it=some o→h'.get? it=some o):pc h' it src i:=by
 cases x with
 |list a ne=>exact .list (a.imp fun zz z=>⟨k _ z.1,z.2⟩) ne
 |tuple a ne=>exact .tuple (a.imp fun zz z=>⟨k _ z.1,z.2⟩) ne
 |sa a=>exact .sa (a.imp fun zz z=>⟨k _ z.1,z.2⟩)
 |sw a=>exact .sw (a.imp fun zz z=>⟨k _ z.1,z.2⟩)
 |A1 a=>exact .A1 (k _ a)
theorem pc.fields{h:Heap}{it:Addr}{src:Src}{i:Nat}(x:pc h it src i):∃o vs,h.get? it=some o∧o.data= .fields vs:=by
 cases x with
 |list a|tuple a|sa a|sw a=>exact a.imp fun zz z=>⟨_,z.1,z.2.2⟩
 |A1 a=>exact⟨_,_,a,rfl⟩
section
variable{cY:Heap}{uK:OsState}{w:World}{n:Nat}{X:AH→Prop}{A:Around}{Rk:Heap}{s:Shared}
variable{env:Env}{outer ow:List Env}{fr:dD}{H:AH}
theorem yF{H:AH}{a:Addr}{k:Nat}{items:List Value}{G:Prop}(h:uL H (.ref a)=some (k,items))(g:∀b,tq H (.ref a)=some (b,items)→(if b=true then 1 else 2)=k→G):G:=
 YX (x:=tq H (.ref a)) h fun p hp e=>g p.1 ((Prod.mk.inj e).2▸hp) (Prod.mk.inj e).1
theorem oP{H:AH}{a:Addr}{items:List Value}(h:uL H (.ref a)=some (1,items)):tq H (.ref a)=some (true,items):=yF h fun b hq e=>by
 cases b with
 |false=>cases e
 |true=>exact hq
theorem aZ{H:AH}{a:Addr}{items:List Value}(h:uL H (.ref a)=some (2,items)):tq H (.ref a)=some (false,items):=yF h fun b hq e=>by
 cases b with
 |true=>cases e
 |false=>exact hq
theorem items_str{H:AH}{x:Str}{t:Tok}{k:Nat}{items:List Value}(h:uL H (.str x t)=some (k,items)):(x.cps.toList.map fun c=>Value.str ⟨#[c]⟩ 0)=items:=(Prod.mk.inj (Y1l h)).2
theorem n5{x:Str}{i:Nat}{u:Value}(h:(x.cps.toList.map fun c=>Value.str ⟨#[c]⟩ 0)[i]? =some u):∃c,x.cps[i]? =some c∧Value.str ⟨#[c]⟩ 0=u:=by rw[List.getElem?_map]at h;exact(Option.map_eq_some_iff.mp h).imp fun c z=>⟨(Array.getElem?_toList ..).symm.trans z.1,z.2⟩
theorem QC{α β:Type}{xs:Array α}{f:α→β}{us:List β}{m:Nat}(h:xs.toList.map f=us)(hm:us.length=m):xs[m]? =none:=Array.getElem?_eq_none (r72 ((List.length_map f).symm.trans ((R6T List.length h).trans hm)))
theorem pI{l:List Env}(base:AG cY w)(iv:Inv cY uK Rk l s H)(hh:A.handled=none){u:Value}{items:List Value}{src:Src}(hv:Lh H src items){it:Addr}{i:Nat}(hi:pc s.heap it src i)(hu:items[i]? =some u){Q:Option Value→Shared→Prop}{E:Value→Shared→Prop}
  (hQ:∀x h' tk,er x=u→pc h' it src (i+1)→(∀b o,b≠it→s.heap.get? b=some o→h'.get? b=some o)→Q (some x) {s with heap:=h',toks:=tk}):wpAny (model Hd.pw w) A (pyNext (.ref it)) Q E s:=by
 cases hi with
 |sa a=>exact(n5 (items_str hv▸hu)).elim fun c z=>wpAny_pyNext_ascii_item a z.1 fun h' a' sb=>hQ _ h' _ z.2 (.sa a') fun b o ne e=>(sb.2 b ne).trans e
 |sw a=>exact(n5 (items_str hv▸hu)).elim fun c z=>wpAny_pyNext_wide_item a z.1 fun h' a' sb=>hQ _ h' _ z.2 (.sw a') fun b o ne e=>(sb.2 b ne).trans e
 |A1 a=>
  rename_i lo n;cases hv;rw[List.getElem?_map]at hu;refine(Option.map_eq_some_iff.mp hu).elim fun j z=>?_;have hc:i<n:=Nat.lt_of_lt_of_eq (List.getElem?_eq_some_iff.mp z.1).1 List.length_range;have hj:i=j:=Y1l ((List.getElem?_range hc).symm.trans z.1);exact(Walks.range (prog:=Hd.pw) (w:=w) hh it lo 1 n).item i s Q E hc a fun v h' tk p fq k=>hQ v h' tk (p.elim fun t e=>by rw[e, ←z.2, ←hj];rfl) (.A1 fq) fun b o ne e=>k b o (fun q=>ne (List.mem_singleton.mp q)) e
 |list a ne=>exact(N6 base iv (oP hv)).elim fun xs r=>(get_map r.1 hu).elim fun x z=>wpAny_pyNext_list_item a r.2 z.1 fun h' a' sb=>hQ x h' s.toks z.2 (.list a' ne) fun b o ne e=>(sb.2 b ne).trans e
 |tuple a ne=>exact(N6 base iv (aZ hv)).elim fun xs r=>(get_map r.1 hu).elim fun x z=>wpAny_pyNext_tuple_item a r.2 z.1 fun h' a' sb=>hQ x h' s.toks z.2 (.tuple a' ne) fun b o ne e=>(sb.2 b ne).trans e
theorem KJ{l:List Env}(base:AG cY w)(iv:Inv cY uK Rk l s H)(hh:A.handled=none){items:List Value}{src:Src}(hv:Lh H src items){it:Addr}(hi:pc s.heap it src items.length){Q:Option Value→Shared→Prop}{E:Value→Shared→Prop}
  (hQ:∀h' tk,(∀b o,b≠it→s.heap.get? b=some o→h'.get? b=some o)→Q none {s with heap:=h',toks:=tk}):wpAny (model Hd.pw w) A (pyNext (.ref it)) Q E s:=by
 generalize hn:items.length=m at hi;cases hi with
 |sa a=>exact wpAny_pyNext_ascii_end hh a (QC (items_str hv) hn) fun h' k=>hQ h' s.toks k
 |sw a=>exact wpAny_pyNext_wide_end hh a (QC (items_str hv) hn) fun h' k=>hQ h' s.toks k
 |A1 a=>
  rename_i lo n;cases hv;cases(List.length_map _).symm.trans hn |>.symm.trans List.length_range;exact(Walks.range (prog:=Hd.pw) (w:=w) hh it lo 1 _).done s Q E a fun h' tk k=>hQ h' tk fun b o ne e=>k b o (fun q=>ne (List.mem_singleton.mp q)) e
 |list a ne=>exact(N6 base iv (oP hv)).elim fun xs r=>wpAny_pyNext_list_end hh a r.2 (QC r.1 hn) fun h' k=>hQ h' s.toks k
 |tuple a ne=>exact(N6 base iv (aZ hv)).elim fun xs r=>wpAny_pyNext_tuple_end hh a r.2 (QC r.1 hn) fun h' k=>hQ h' s.toks k
theorem Pc{l:List Env}(base:AG cY w)(iv:Inv cY uK Rk l s H){v:Value}{items:List Value}{kd:Nat}(hv:uL H (er v)=some (kd,items)){Q:Value→Shared→Prop}{E:Value→Shared→Prop}
  (hQ:∀o:Obj,pc (s.heap.push o) s.heap.objs.size (.val kd v) 0→Q (.ref s.heap.objs.size) {s with heap:=s.heap.push o}):wpAny (model Hd.pw w) A (pyIter v) Q E s:=by
 refine iX hv (fun hv=>HH hv fun x ex e=>(LL ex).elim fun t ev=>?_) fun hv=>YX hv fun p hp e=>(NM hp).elim fun a q=>?_
 ·subst ev;cases(Prod.mk.inj (Y1l e)).1;cases ha:x.cps.all (· < 128)with
  |false=>exact wpAny_pyIter_wide ha (hQ _ (.sw ⟨_,Heap.get?_push_size _ rfl,rfl,rfl⟩))
  |true=>exact wpAny_pyIter_ascii ha (hQ _ (.sa ⟨_,Heap.get?_push_size _ rfl,rfl,rfl⟩))
 ·subst q;have r:=N6 (b:=p.1) (vs:=p.2) base iv hp;have e1:=(Prod.mk.inj e).1;cases hb:p.1 with
  |false=>rw[hb]at r e1;cases e1;exact r.elim fun xs r=>wpAny_pyIter_tuple r.2 (hQ _ (.tuple ⟨_,Heap.get?_push_size _ rfl,rfl,rfl⟩ (r.2.elim fun o z=>Nat.ne_of_lt (Heap.lt_size z.1))))
  |true=>rw[hb]at r e1;cases e1;exact r.elim fun xs r=>wpAny_pyIter_list r.2 (hQ _ (.list ⟨_,Heap.get?_push_size _ rfl,rfl,rfl⟩ (r.2.elim fun o z=>Nat.ne_of_lt (Heap.lt_size z.1))))
theorem Here.xj{Wy:Shared}{Nb:dD}{LC:AH}(hs:Here cY uK n A env outer ow Rk Wy Nb LC){s₁:Shared}(a:After cY uK env outer Rk s₁ s fr H):Here cY uK n A env outer ow (vE s.heap H (vf env::outer)) s fr H:=⟨hs.lY,hs.hd,hs.room,OH a.inv,a.loc,hs.ow,hs.apart⟩
structure LoopAt(cY:Heap)(uK:OsState)(env:Env)(outer:List Env)(Rk:Heap)(Wy s:Shared)(it:Addr)(src:Src)(i:Nat)(fr:dD)(H:AH):Prop where
 XS:After cY uK env outer Rk Wy s fr H
 O5:pc s.heap it src i
 free:fX H Rk (vf env::outer) it
theorem pc.kP{h:Heap}{it:Addr}{src:Src}{i:Nat}(x:pc h it src i)(v:Option Value):¬h.IsCell it v:=fun c=>
 x.fields.elim fun o z=>z.elim fun vs z=>c.elim fun o' c=>nomatch z.2.symm.trans ((R6T Obj.data (Y1l (z.1.symm.trans c.1))).trans c.2)
theorem LoopAt.last{Wy:Shared}{it:Addr}{src:Src}{i:Nat}{h':Heap}{tk:Nat}(x:LoopAt cY uK env outer Rk Wy s it src i fr H)(k:∀b o,b≠it→s.heap.get? b=some o→h'.get? b=some o):
  After cY uK env outer Rk Wy {s with heap:=h',toks:=tk} fr H:=x.XS.off (S:=(· =it)) (fun zz q=>q▸x.free) (fun zz q v=>q▸x.O5.kP v) k
theorem LoopAt.next{Wy:Shared}{it:Addr}{src:Src}{i j:Nat}{h':Heap}{tk:Nat}(x:LoopAt cY uK env outer Rk Wy s it src i fr H)(y:pc h' it src j)(k:∀b o,b≠it→s.heap.get? b=some o→h'.get? b=some o):
  LoopAt cY uK env outer Rk Wy {s with heap:=h',toks:=tk} it src j fr H:=⟨x.last k,y,x.free⟩
theorem After.back{Wy s':Shared}{gu dh:dD}{XZ:AH}(x:After cY uK env outer Rk Wy s gu H)(y:After cY uK env outer (vE s.heap H (vf env::outer)) s s' dh XZ):After cY uK env outer Rk Wy s' dh XZ:=
 ⟨yd x.inv y.inv,y.loc,x.keep.trans y.keep⟩
theorem Wk.sub{P P' h':Heap}{e:Value}(k:P.StaysIn P')(x:Wk P' env ow e h'):Wk P env ow e h':=by
 exact x.imp (fun z=>z.imp fun a z=>z.imp fun h z=>⟨z.1,z.2.1,fun b o e=>z.2.2.1 b o (k b o e),vg z.2.2.2 fun L f=>Option.eq_none_iff_forall_ne_some.mpr fun o e=>MI ((k _ _ e).symm.trans (f.mem z.2.2.2).1)⟩)
  fun z=>z.imp (fun z=>z.imp fun a z=>z.imp fun a0 z=>⟨z.1,flyingW_base k z.2⟩) fun z=>z.imp fun a z=>z.imp fun a0 z=>⟨z.1,heldW_base k z.2⟩
theorem xe.back{Wy s':Shared}{gu:dD}{XZ:AH}{e:Value}(x:After cY uK env outer Rk Wy s gu H)(y:xe cY uK env outer ow (vE s.heap H (vf env::outer)) s s' e XZ):xe cY uK env outer ow Rk Wy s' e XZ:=
 ⟨yd x.inv y.inv,x.keep.trans y.keep,y.exc.sub (Rf x.inv),y.ns⟩
theorem fX.up{G7:Heap}{l Ew:List Env}{s':Shared}{XZ:AH}{a:Addr}{o:Obj}(f:fX H Rk l a)(k:G7.get? a=some o)(y:Inv cY uK G7 Ew s' XZ):fX XZ Rk l a:=⟨f.new,fun q=>MI (k.symm.trans (y.own a q)),f.IR⟩
theorem fX.kept{l:List Env}{a:Addr}{o:Obj}(f:fX H Rk l a)(e:s.heap.get? a=some o):(vE s.heap H l).get? a=some o:=lZ e fun q=>q.elim f.own f.IR
theorem LoopAt.back{Wy s':Shared}{it:Addr}{src:Src}{i:Nat}{dh:dD}{XZ:AH}(x:LoopAt cY uK env outer Rk Wy s it src i fr H)(y:After cY uK env outer (vE s.heap H (vf env::outer)) s s' dh XZ):
  LoopAt cY uK env outer Rk Wy s' it src i dh XZ:=
 ⟨x.XS.back y,x.O5.keeps fun o e=>y.inv.stays it o (x.free.kept e),x.O5.fields.elim fun o z=>z.elim fun vs z=>x.free.up (x.free.kept z.1) y.inv⟩
inductive Ve{β:Type}(L:Nat)(T:Nat→β→AH→Prop):Nat→Prop where
 |mk {i:Nat} {b:β} {H:AH}:i≤L→T i b H→Ve L T (L+1-i)
@[elab_as_elim]theorem Ve.el{β:Type}{L:Nat}{T:Nat→β→AH→Prop}{k:Nat}{C:Nat→Prop}(x:Ve L T k)(g:∀i b H,i<L→T i b H→C (L+1-i))(g':∀b H,T L b H→C (L+1-L)):C k:=by
 cases x with
 |mk h t=>exact(Nat.lt_or_eq_of_le h).elim (fun q=>g _ _ _ q t) fun q=>q▸g' _ _ (q▸t)
theorem Ve.next{β:Type}{L:Nat}{T:Nat→β→AH→Prop}{i:Nat}{b:β}{H:AH}(h:i<L)(t:T (i+1) b H):∃m,m<L+1-i∧Ve L T m:=⟨_,mC h,.mk h t⟩
inductive HA(cY:Heap)(uK:OsState)(env:Env)(outer:List Env)(Rk:Heap)(s:Shared)(P:Src→List Value→dD→AH→Prop)(UI:Shared):Value→Prop where
 |mk {it:Addr} {ve:dD} {H':AH} {src:Src} {items:List Value}:LoopAt cY uK env outer Rk s UI it src 0 ve H'→Lh H' src items→P src items ve H'→HA cY uK env outer Rk s P UI (.ref it)
def QB(cY:Heap)(uK:OsState)(w:World)(env:Env)(outer ow:List Env)(A:Around)(Rk:Heap)(s:Shared)(t:Sem Value)(P:Src→List Value→dD→AH→Prop)(X:AH→Prop):Prop:=
  wpAny (model Hd.pw w) A t (fun x s₁=>wpAny (model Hd.pw w) A (pyIter x) (fun Yi UI=>HA cY uK env outer Rk s P UI Yi) (Px cY uK env outer ow Rk X s) s₁) (Px cY uK env outer ow Rk X s) s
def ML(cY:Heap)(uK:OsState)(w:World)(n:Nat)(env:Env)(outer ow:List Env)(fr:dD)(H:AH)(t:Sem Value)(P:Src→List Value→dD→AH→Prop)(X:AH→Prop):Prop:=
 ∀A Rk s,Here cY uK n A env outer ow Rk s fr H→QB cY uK w env outer ow A Rk s t P X
theorem QB.mono{t:Sem Value}{P P':Src→List Value→dD→AH→Prop}(h:QB cY uK w env outer ow A Rk s t P X)(hP:∀src items fr H,P src items fr H→P' src items fr H):QB cY uK w env outer ow A Rk s t P' X:=
 wpAny_mono h (fun zz zz wi=>wpAny_mono wi (fun zz zz z=>by cases z with|mk la hv q=>exact .mk la hv (hP _ _ _ _ q)) fun zz zz z=>z) fun zz zz z=>z
theorem QB.out{t:Sem Value}{P:Src→List Value→dD→AH→Prop}{Q:Value→Shared→Prop}{E:Value→Shared→Prop}(h:QB cY uK w env outer ow A Rk s t P X)(hE:∀e s',Px cY uK env outer ow Rk X s e s'→E e s')
  (g:∀it ve H' src items UI,LoopAt cY uK env outer Rk s UI it src 0 ve H'→Lh H' src items→P src items ve H'→Q (.ref it) UI):wpAny (model Hd.pw w) A t (fun x s₁=>wpAny (model Hd.pw w) A (pyIter x) Q E s₁) E s:=
 wpAny_mono h (fun zz zz wi=>wpAny_mono wi (fun zz zz z=>by cases z with|mk la hv q=>exact g _ _ _ _ _ _ la hv q) hE) hE
theorem LoopAt.TA{s₁:Shared}{o:Obj}{src:Src}(hs:Here cY uK n A env outer ow Rk s fr H){gu:dD}{Dw:AH}(a:After cY uK env outer Rk s s₁ gu Dw)(hi:pc (s₁.heap.push o) s₁.heap.objs.size src 0){tk:Nat}:
  LoopAt cY uK env outer Rk s {s₁ with heap:=s₁.heap.push o,toks:=tk} s₁.heap.objs.size src 0 gu Dw:=
 ⟨a.trans (.keeps (a.here hs) (fun zz zz e=>Heap.get?_push_of_some _ e) rfl rfl),hi,a.inv.W2 (u7 _)⟩
theorem ML.val(base:AG cY w){t:Sem Value}{P:Src→List Value→dD→AH→Prop}(h:Run cY uK w n env outer ow fr H t (fun v fr H=>∃kd items,uL H (er v)=some (kd,items)∧P (.val kd v) items fr H) X):
  ML cY uK w n env outer ow fr H t P X:=fun A Rk s hs=>
 h.go (.refl hs) hs fun v s₁ gu Dw a zz z=>z.elim fun kd z=>z.elim fun items z=>Pc base a.inv z.1 fun o hi=>.mk (.TA hs a hi) z.1 z.2
theorem Run.sY(base:AG cY w){P:Flow→dD→AH→Prop}{target iter:Expr}{b:List Stmt}{pos:Pos}(hf:env.frame=some env.locals)(FN:∀x,foldedSetIterable iter env x=Pure.pure x)
  (h:ML cY uK w n env outer (env::outer) fr H (eval iter env) (fun src items fr H=>∃I:Nat→dD→AH→Prop,I 0 fr H∧(∀k fr H,I k fr H→Lh H src items)∧
   (∀(A:Around)(s:Shared)(it:Addr)(k:Nat)(v:Value)(Q:Unit→Shared→Prop)(E:Value→Shared→Prop),pc s.heap it src k→Q () s→wpAny (model Hd.pw w) A (letOwnedTupleGo target (.ref it) v) Q E s)∧
   (∀k x fr H,items[k]? =some (er x)→I k fr H→Run cY uK w n env outer (env::outer) fr H (assign target env x) (fun zz fr H=>Run cY uK w n env outer (env::outer) fr H (execs b env) (vk (I (k+1)) P) X) X)∧
   ∀fr H,I items.length fr H→P .next fr H) X):
  Run cY uK w n env outer (env::outer) fr H (exec (.For target iter b [] pos) env) P X:=fun A Rk s hs=>by
 refine wpAny_For ((h A Rk s hs).out (fun zz zz z=>z) fun it dh XZ src items UI la hv z=>z.elim fun I z=>?_) FN;refine codeAny_forLoop_any (fun k s'=>Ve items.length (fun i ve H'=>LoopAt cY uK env outer Rk s s' it src i ve H'∧I i ve H') k) ?_ (items.length+1) (.mk (V7h _) ⟨la,z.1⟩);refine fun k ay x=>Ve.el x (fun i Q5 iB tI y=>pI base y.1.XS.inv hs.hd (z.2.1 _ _ _ y.2) y.1.O5 (B8Q tI) fun x h' tk hx hit k=>?_)
  fun Q5 iB y=>KJ base y.1.XS.inv hs.hd (z.2.1 _ _ _ y.2) y.1.O5 fun h' tk k=>wpAny_execs_nil ⟨Q5,iB,y.1.last k,z.2.2.2.2 _ _ y.2⟩
 have JV:=y.1.next (tk:=tk) hit k
 have hh:=hs.xj JV.XS;have hE:∀e s',Px cY uK env outer (env::outer) (vE h' iB (vf env::outer)) X {ay with heap:=h',toks:=tk} e s'→notedBy (model Hd.pw w) A env (fun e s'=>cameBackBy (model Hd.pw w) A env (Px cY uK env outer (env::outer) Rk X s) e s') e s':=fun e s' q=>uw hf hs.lY (q.imp fun zz q=>⟨.back JV.XS q.1,q.2⟩);refine z.2.2.1 _ _ _ _ _ _ _ hit ((z.2.2.2.1 i x Q5 iB ((B8Q tI).trans (R6T some hx.symm)) y.2).Gh (.refl hh) hh hE fun zz C8 Kj AC iG a9 q=>q.Gh iG a9 hE fun f wh Uz ZQ L8 zz q=>?_);cases f with
 |next|cont=>exact Ve.next tI ⟨JV.back L8,q⟩
 |brk|ret v=>exact⟨Uz,ZQ,JV.XS.back L8,q⟩
end
end
theorem Xa{e:Expr}{env:Env}(h:zk e=true)(x:Value):foldedSetIterable e env x=Pure.pure x:=by
 cases e with
 |Set=>exact absurd h Bool.false_ne_true
 |_=>rfl
theorem g6{env:Env}(ok:CL env)(scope:Scope):(relabel scope env).names=XN env.scope.names scope.names:=List.map_congr_left fun p zz=>by show(if(p.2==NameKind.free&&env.scope.kind==ScopeKind.function&&env.scope.names.lookup p.1==some NameKind.cell)=true then(p.1,NameKind.cell)else(p.1,p.2))=_;rw[ok.kind,show(ScopeKind.function==ScopeKind.function)=true from rfl,Bool.and_true]
theorem jG{ns names:List (Str×NameKind)}{fv:List (Option Nat)}(h:G6 ns names fv=true){i:Nat}{o:Option Nat}{p:Str×NameKind}(hp:names[i]? =some p)(e:fv[i]? =some o):
  (o.elim (p.2 != NameKind.free) fun j=>p.2==NameKind.free&&ns[j]? ==some (p.1,NameKind.cell))=true:=
 aI h fun zz h=>List.all_eq_true.mp h (p,o) (C3D (List.getElem?_zip_eq_some.mpr ⟨hp,e⟩))
theorem fZ{ns names:List (Str×NameKind)}{fv:List (Option Nat)}(h:G6 ns names fv=true){i j:Nat}(e:fv[i]? =some (some j)):∃y,names[i]? =some (y,NameKind.free)∧ns[j]? =some (y,NameKind.cell):=
 aI h fun hl zz=>(List.getElem?_eq_some_iff.mp e).elim fun hi zz=>by have hp:=B8Q (l:=names) (Nat.lt_of_lt_of_eq hi (beq_iff_eq.mp hl));exact aI (jG h hp e) fun a b=>⟨_,hp.trans (R6T some (Prod.ext rfl (beq_iff_eq.mp a))),beq_iff_eq.mp b⟩
theorem A8{ns names:List (Str×NameKind)}{fv:List (Option Nat)}(h:G6 ns names fv=true){y:Str}(m:(y,NameKind.free)∈names):∃i j:Nat,fv[i]? =some (some j)∧ns[j]? =some (y,NameKind.cell):=
 (List.mem_iff_getElem?.mp m).elim fun i hi=>aI h fun hl zz=>(List.getElem?_eq_some_iff.mp hi).elim fun kK zz=>by
  have tI:=Nat.lt_of_lt_of_eq kK (beq_iff_eq.mp hl).symm;have hp:=B8Q (l:=fv) tI;generalize fv[i]'tI=o at hp;have q:=jG h hi hp;cases o with
  |none=>exact absurd q Bool.false_ne_true
  |some j=>exact⟨i,j,hp,beq_iff_eq.mp (Bool.and_eq_true_iff.mp (show(NameKind.free==NameKind.free&&ns[j]? ==some (y,NameKind.cell))=true from q)).2⟩
theorem xZ{env:Env}{names:List (Str×NameKind)}:∀cs:List (Str×Addr),(∀y,(y,NameKind.free)∈names→∃c,env.cells.lookup y=some c)→
  ∃cl,(forIn names cs fun(x:Str×NameKind)(r:List (Str×Addr))=>(do
   if x.2==NameKind.free then do
    let a←cellOf env x.1
    Pure.pure (ForInStep.yield ((x.1,a)::r))
   else Pure.pure (ForInStep.yield r):Sem (ForInStep (List (Str×Addr)))))=Pure.pure cl∧∀y,(y,NameKind.free)∈names∨cs.lookup y=env.cells.lookup y→cl.lookup y=env.cells.lookup y:=by
 induction names with
 |nil=>exact fun cs zz=>⟨cs,rfl,fun y h=>h.elim (fun h=>nomatch h) id⟩
 |cons p names ih=>
  intro cs h;have h':∀y,(y,NameKind.free)∈names→∃c,env.cells.lookup y=some c:=fun y m=>h y (.tail _ m);rw[List.forIn_cons]
  by_cases q:p.2=NameKind.free
  ·refine(h p.1 (q▸ .head _)).elim fun c hc=>(ih ((p.1,c)::cs) h').imp fun cl z=>⟨?_,fun y m=>z.2 y ?_⟩
   ·rw[if_pos (beq_iff_eq.mpr q),show cellOf env p.1=Pure.pure c by unfold cellOf;rw[hc]];exact z.1
   ·by_cases e:y=p.1
    ·subst e;exact .inr (List.lookup_cons_self.trans hc.symm)
    ·refine m.imp (fun m=>(List.mem_cons.mp m).elim (fun m=>absurd (R6T Prod.fst m) e) id) fun m=>?_;rw[List.lookup_cons,show(y==p.1)=false from beq_false_of_ne e];exact m
  ·refine(ih cs h').imp fun cl z=>⟨?_,fun y m=>z.2 y (m.imp_left fun m=>(List.mem_cons.mp m).elim (fun m=>absurd (R6T Prod.snd m).symm q) id)⟩;rw[if_neg fun z=>q (beq_iff_eq.mp z)];exact z.1
theorem IB{env:Env}{scope:Scope}(h:∀y,(y,NameKind.free)∈scope.names→∃c,env.cells.lookup y=some c):
  ∃cl,closureFor scope env=Pure.pure cl∧∀y,(y,NameKind.free)∈scope.names→cl.lookup y=env.cells.lookup y:=by
 exact(xZ [] h).imp fun cl z=>⟨(R6T (· >>= fun cs=>Pure.pure cs) z.1).trans rfl,fun y m=>z.2 y (.inl m)⟩
section
section
variable{cY:Heap}{uK:OsState}{w:World}{n:Nat}{X:AH→Prop}{A:Around}{Rk:Heap}{s:Shared}
variable{env:Env}{outer ow:List Env}{fr:dD}{H:AH}
theorem JB{it:Addr}{src:Src}{i:Nat}(x:pc s.heap it src i){Q:Value→Shared→Prop}{E:Value→Shared→Prop}(h:Q (.ref it) s):wpAny (model Hd.pw w) A (pyIter (.ref it)) Q E s:=by
 cases x with
 |list a ne=>exact wpAny_pyIter_listiter a h
 |tuple a ne=>exact wpAny_pyIter_tupleiter a h
 |sa a=>exact wpAny_pyIter_striter_ascii a h
 |sw a=>exact wpAny_pyIter_striter_wide a h
 |A1 a=>exact wpAny_pyIter_rangeiter a h
theorem kC{a:Addr}(hk:vm env outer ow)(h:¬isFrame (vf env::outer) a):¬isFrame ow a:=hk.elim (fun z f=>h ((iy z.2).symm▸z.1▸f)) fun z f=>h (z▸f.up)
noncomputable abbrev Apart(Rk:Heap)(env:Env)(outer:List Env)(H:AH)(a:Addr):Prop:=fX H Rk (vf env::outer) a
theorem After.zT{Wy:Shared}{a:Addr}{h':Heap}{tk:Nat}(x:After cY uK env outer Rk Wy s fr H)(p:Apart Rk env outer H a)(nc:∀v,¬s.heap.IsCell a v)(k:∀b o,b≠a→s.heap.get? b=some o→h'.get? b=some o):
  After cY uK env outer Rk Wy {s with heap:=h',toks:=tk} fr H:=x.off (S:=(· =a)) (fun zz q=>q▸p) (fun zz q v=>q▸nc v) k
structure B9(cY:Heap)(uK:OsState)(env:Env)(outer:List Env)(Rk:Heap)(Wy s:Shared)(it:Addr)(src:Src)(i:Nat)(D C:Addr)(acc:List Value)(fr:dD)(H:AH):Prop where
 XS:After cY uK env outer Rk Wy s fr H
 O5:pc s.heap it src i
 Zn:Apart Rk env outer H it
 bG:∃ys,s.heap.PlainList D ys∧ys.toList.map er=acc
 pD:Apart Rk env outer H D
 ns:∃m,s.heap.Ns C m
 pC:Apart Rk env outer H C
 DC:D≠C
 iD:it≠D
 iC:it≠C
theorem tT{h:Heap}{C:Addr}{m:Str→Option Value}(x:h.Ns C m)(v:Option Value):¬h.IsCell C v:=fun c=>
 x.elim fun o z=>z.elim fun es z=>z.elim fun ep z=>c.elim fun o' c=>nomatch z.2.1.symm.trans ((R6T Obj.data (Y1l (z.1.symm.trans c.1))).trans c.2)
theorem fc{h:Heap}{D:Addr}{ys:Array Value}(x:h.PlainList D ys)(v:Option Value):¬h.IsCell D v:=fun c=>
 x.elim fun n e=>c.elim fun o' c=>nomatch (R6T Obj.data (Y1l (e.symm.trans c.1))).trans c.2
section
variable{Wy:Shared}{it D C:Addr}{src:Src}{i:Nat}{acc:List Value}
theorem B9.item{h':Heap}{tk j:Nat}(x:B9 cY uK env outer Rk Wy s it src i D C acc fr H)(y:pc h' it src j)(k:∀b o,b≠it→s.heap.get? b=some o→h'.get? b=some o):
  B9 cY uK env outer Rk Wy {s with heap:=h',toks:=tk} it src j D C acc fr H:=
 ⟨x.XS.zT x.Zn x.O5.kP k,y,x.Zn,x.bG.imp fun ys z=>⟨z.1.at fun o e=>k _ o (Ne.symm x.iD) e,z.2⟩,x.pD,x.ns.imp fun m hm=>hm.at' fun o e=>k _ o (Ne.symm x.iC) e,x.pC,x.DC,x.iD,x.iC⟩
theorem B9.name{h':Heap}{tk:Nat}{m':Str→Option Value}(x:B9 cY uK env outer Rk Wy s it src i D C acc fr H)(hn:h'.Ns C m')(sb:Heap.SameBut C s.heap h'):
  B9 cY uK env outer Rk Wy {s with heap:=h',toks:=tk} it src i D C acc fr H:=
 have k:∀b o,b≠C→s.heap.get? b=some o→h'.get? b=some o:=fun b o ne e=>(sb.2 b ne).trans e
 ⟨x.XS.zT x.pC (fun v c=>x.ns.elim fun zz hm=>tT hm v c) k,x.O5.keeps fun o e=>k _ o x.iC e,x.Zn,x.bG.imp fun ys z=>⟨z.1.at fun o e=>k _ o x.DC e,z.2⟩,x.pD,⟨m',hn⟩,x.pC,x.DC,x.iD,x.iC⟩
theorem B9.add{h':Heap}{tk:Nat}{ys:Array Value}{y:Value}(x:B9 cY uK env outer Rk Wy s it src i D C acc fr H)(q:s.heap.PlainList D ys)(e:ys.toList.map er=acc)(hp:h'.PlainList D (ys.push y))(sb:Heap.SameBut D s.heap h'):
  B9 cY uK env outer Rk Wy {s with heap:=h',toks:=tk} it src i D C (acc++[er y]) fr H:=
 have k:∀b o,b≠D→s.heap.get? b=some o→h'.get? b=some o:=fun b o ne e=>(sb.2 b ne).trans e
 ⟨x.XS.zT x.pD (fc q) k,x.O5.keeps fun o e=>k _ o x.iD e,x.Zn,⟨_,hp,by rw[Array.toList_push,List.map_append,e];rfl⟩,x.pD,x.ns.imp fun m hm=>hm.at' fun o e=>k _ o (Ne.symm x.DC) e,x.pC,x.DC,x.iD,x.iC⟩
theorem B9.elt{cenv:Env}{s':Shared}{Q5:dD}{iB:AH}(hk:vm env outer ow)(ap:¬isFrame outer env.locals)(hc:cenv.locals=C)(x:B9 cY uK env outer Rk Wy s it src i D C acc fr H)
  (y:After cY uK cenv ow (vE s.heap H (vf cenv::ow)) s s' Q5 iB):B9 cY uK env outer Rk Wy s' it src i D C acc fr iB:=by
 subst hc;have kp:∀b o,s.heap.get? b=some o→¬og H b→¬isFrame ow b→b≠cenv.locals→(vE s.heap H (vf cenv::ow)).get? b=some o:=fun b o e ho hf hC=>lZ e fun q=>q.elim ho fun f=>f.elim fun e' f=>
  (List.mem_cons.mp f.1).elim (fun r=>hC (Y1l (show(vf cenv).frame=some b from r▸f.2)).symm) fun m=>hf ⟨e',m,f.2⟩
 have K:Kept cY uK (vE s.heap H (vf cenv::ow)) ow (· ≠cenv.locals) s s' H iB:=⟨y.inv.tail,y.keep,kp⟩;have IN:env.locals≠cenv.locals:=fun q=>x.pC.IR (q▸bQ);have up {a:Addr} {o:Obj} (e:s.heap.get? a=some o) (p:Apart Rk env outer H a) (hC:a≠cenv.locals):(vE s.heap H (vf cenv::ow)).get? a=some o:=kp a o e p.own (kC hk p.IR) hC;exact⟨⟨KH hk ap x.XS.inv (fun b o e=>kp b o (x.XS.inv.stays b o e) (fun q=>MI (e.symm.trans (x.XS.inv.own b q))) (fun q=>MI (e.symm.trans (Yp (gY hk x.XS.inv) q))) fun q=>MI (e.symm.trans (q▸x.pC.new))) K IN,
   x.XS.loc.O2 x.XS.inv K IN fun c u z q=>x.ns.elim fun zz hm=>tT hm u (q▸z),x.XS.keep.trans (I1 hk y.keep)⟩,
  x.O5.keeps fun o e=>y.inv.stays it o (up e x.Zn x.iC),x.O5.fields.elim fun o z=>z.elim fun zz z=>x.Zn.up (up z.1 x.Zn x.iC) y.inv,
  x.bG.imp fun ys z=>⟨z.1.at fun o e=>y.inv.stays D o (up e x.pD x.DC),z.2⟩,x.bG.elim fun ys z=>z.1.elim fun n e=>x.pD.up (up e x.pD x.DC) y.inv,y.loc.imp fun zz z=>z.1,⟨x.pC.new,y.inv.dY _ bQ,x.pC.IR⟩,x.DC,x.iD,x.iC⟩
theorem B9.last{h':Heap}{tk:Nat}(x:B9 cY uK env outer Rk Wy s it src i D C acc fr H)(k:∀b o,b≠it→s.heap.get? b=some o→h'.get? b=some o):
  After cY uK env outer Rk Wy {s with heap:=h',toks:=tk} fr (upd H D (.lst acc))∧Apart Rk env outer (upd H D (.lst acc)) C∧(∃m,h'.Ns C m)∧H D=none:=by
 have a:After cY uK env outer Rk Wy {s with heap:=h',toks:=tk} fr H:=x.XS.zT x.Zn x.O5.kP k;exact x.bG.elim fun ys z=>z.1.elim fun nD eD=>⟨⟨a.inv.adopt x.pD ⟨ys,nD, #[],k _ _ (Ne.symm x.iD) eD,z.2⟩ (fun zz zz zz q=>nomatch q),a.loc,a.keep⟩,
  ⟨x.pC.new,fun q=>QA (P:=(· ≠C)) q x.DC (fun zz zz zz e=>nomatch e) (fun q r=>x.pC.own (r▸q)) rfl,x.pC.IR⟩,x.ns.imp fun m hm=>hm.at' fun o e=>k _ o (Ne.symm x.iC) e,x.pD.none⟩
end
theorem GN{fr:dD}{fv:List (Option Nat)}{j:Nat}(h:ik fr fv=true)(m:some j∈fv):((fr[j]?).join:Option Value).isSome=true:=List.all_eq_true.mp h _ m
theorem wD{ns names:List (Str×NameKind)}:(XN ns names).map (·.1)=names.map (·.1):=List.map_map.trans (List.map_congr_left fun p zz=>by
 show(if _ then(p.1,NameKind.cell)else p).1=p.1
 split<;>rfl)
theorem iz{ns names:List (Str×NameKind)}{i:Nat}{p:Str×NameKind}(h:names[i]? =some p):(XN ns names)[i]? =some (if(p.2==NameKind.free&&ns.lookup p.1==some NameKind.cell)then(p.1,NameKind.cell)else p):=List.getElem?_map.trans (R6T _ h)
theorem Nt{fr:dD}{fv:List (Option Nat)}{t i:Nat}{x u:Value}{G:Prop}(e:(uh fr fv t x)[i]? =some (some u))(g1:i=t→x=u→G)(g2:∀j,fv[i]? =some (some j)→fr[j]? =some (some u)→G):G:=by
 unfold uh at e
 by_cases q:i=t
 ·subst q;exact g1 rfl (Y1l (Y1l (VA e)))
 ·rw[List.getElem?_set_ne (Ne.symm q),List.getElem?_map]at e;exact(Option.map_eq_some_iff.mp e).elim fun o z=>HH z.2 fun j ej w=>g2 j (ej▸z.1) (Option.join_eq_some_iff.mp w)
structure Bw(ns:List (Str×NameKind))(scope:Scope)(x:Str)(t:Nat)(fv:List (Option Nat)):Prop where
 kd:scope.kind= .function
 nd:(scope.names.map (·.1)).Nodup
 nc:∀y∈scope.names,y.2≠ .cell
 tg:scope.names[t]? =some (x,.local)
 fv:G6 ns scope.names fv=true
theorem sP{ns:List (Str×NameKind)}{scope:Scope}{x:Str}{t:Nat}{fv:List (Option Nat)}(h:Vx ns scope x t fv=true):Bw ns scope x t fv:=
 aI h fun h e5=>aI h fun h e4=>aI h fun h e3=>aI h fun e1 e2=>⟨of_decide_eq_true e1,of_decide_eq_true e2,fun y hy=>bne_iff_ne.mp (List.all_eq_true.mp e3 y hy),beq_iff_eq.mp e4,e5⟩
theorem qT{h:Heap}{m:Str→Option Value}{j:Nat}{u:Value}{y:Str}(l:JD env h m j u)(e:env.scope.names[j]? =some (y,.cell)):∃c v',env.cells.lookup y=some c∧h.IsCell c (some v')∧er v'=u∧c≠env.locals:=
 l.elim fun y' z=>z.elim (fun z=>NameKind.noConfusion (show NameKind.cell=NameKind.local from R6T Prod.snd (Y1l (e.symm.trans z.1)))) fun z=>(show y'=y from R6T Prod.fst (Y1l (z.1.symm.trans e)))▸z.2
theorem Vf(ok:CL env){scope:Scope}{x:Str}{t:Nat}{fv:List (Option Nat)}(hc:Bw env.scope.names scope x t fv){cl:List (Str×Addr)}(Ff:∀y,(y,NameKind.free)∈scope.names→cl.lookup y=env.cells.lookup y)
  {h:Heap} {C:Addr} {m:Str→Option Value} {v:Value} (loc:Locals env h fr) (hn:h.Ns C m) (hm:m x=some v):Locals (compEnvC scope cl C env) h (uh fr fv t (er v)):=by
 have hr:∀{i:Nat}{p},(XN env.scope.names scope.names)[i]? =p→(compEnvC scope cl C env).scope.names[i]? =p:=fun e=>(R6T (·[_]?) (g6 ok scope)).trans e;refine⟨m,hn,fun i u e=>Nt e (fun q w=>⟨x,.inl ⟨hr (iz (q▸hc.tg)),v,hm,w⟩⟩) fun j ej ef=>(fZ hc.fv ej).elim fun y z=>loc.elim fun m₂ l=>(qT (l.2 j u ef) z.2).elim fun c k=>k.elim fun v' k=>
  ⟨y,.inr ⟨hr ((iz z.1).trans ?_),c,v',(Ff y (C3D z.1)).trans k.1,k.2.1,k.2.2.1,fun q=>tT hn _ (show h.IsCell C _ from q▸k.2.1)⟩⟩⟩
 show some (if(true&&env.scope.names.lookup y==some NameKind.cell)=true then _ else _)=_;rw[SV ok.nodup z.2]
 rfl
theorem VY(ok:CL env){scope:Scope}{x:Str}{t:Nat}{fv:List (Option Nat)}(hc:Bw env.scope.names scope x t fv){cl:List (Str×Addr)}{C:Addr}:CL (compEnvC scope cl C env):=
 ⟨Bool.and_eq_true_iff.mpr ⟨decide_eq_true (show((relabel scope env).names.map (·.1)).Nodup by rw[g6 ok,wD];exact hc.nd),decide_eq_true hc.kd⟩,ok.globals,ok.builtins⟩
theorem L6(Re:∀H,¬X H){s':Shared}{e:Value}{G:Prop}(h:Px cY uK env outer ow Rk X s e s'):G:=h.elim fun H' z=>absurd z.2 (Re H')
theorem B9.inv{Wy:Shared}{it D:Addr}{src:Src}{i:Nat}{acc:List Value}{cenv:Env}(hk:vm env outer ow)(x:B9 cY uK env outer Rk Wy s it src i D cenv.locals acc fr H)(kd:cenv.scope.kind= .function):Inv cY uK Rk (vf cenv::ow) s H:=
 have z:=gY hk x.XS.inv
 ⟨z.stays,z.base,z.rep,z.own,z.sep,⟨by simp[vf,kd],x.ns.elim fun m n=>n.elim fun o n=>n.elim fun es n=>n.elim fun ep n=>⟨cenv.locals,o,rfl,x.pC.new,n.1,fun vs q=>nomatch n.2.1.symm.trans q⟩,z.lY⟩,
  fun L f=>f.elim fun e f=>(List.mem_cons.mp f.1).elim (fun r=>(Y1l (show(vf cenv).frame=some L from r▸f.2))▸x.pC.own) fun m=>z.dY L ⟨e,m,f.2⟩,z.gens,z.os⟩
section
variable{elt iter:Expr}{x:Str}{px:Pos}{scope:Scope}{pos pos':Pos}{t:Nat}{fv:List (Option Nat)}{use:Option (Value→Sem Unit)}{Qc:Value→Shared→Prop}{E:Value→Shared→Prop}{src:Src}{items:List Value}{gu:dD}
structure CompI(cY:Heap)(uK:OsState)(w:World)(n:Nat)(X:AH→Prop)(env:Env)(ow:List Env)(elt:Expr)(scope:Scope)(t:Nat)(fv:List (Option Nat))(src:Src)(items:List Value)(gu:dD)(I:Nat→List Value→AH→Prop):Prop where
 len:items.length≤10000
 it:∀k acc H,I k acc H→Lh H src items∧acc.length=k
 step:∀k x acc Dw,items[k]? =some x→I k acc Dw→∀C cl,(∀H,¬X H)→Run cY uK w n (compEnvC scope cl C env) ow ow (uh gu fv t x) Dw (eval elt (compEnvC scope cl C env)) (fun u zz XZ=>I (k+1) (acc++[er u]) XZ) X
theorem Jh(base:AG cY w)(ok:CL env)(hc:Bw env.scope.names scope x t fv)(Re:∀H,¬X H)(hs:Here cY uK n A env outer ow Rk s fr H){cl:List (Str×Addr)}(Ff:∀y,(y,NameKind.free)∈scope.names→cl.lookup y=env.cells.lookup y)
  {I:Nat→List Value→AH→Prop} (W:CompI cY uK w n X env ow elt scope t fv src items gu I) {it D C:Addr} {XZ:AH} {UI:Shared} (start:B9 cY uK env outer Rk s UI it src 0 D C [] gu XZ) (i0:I 0 [] XZ)
  {R:Result→Shared→Prop} (done:∀acc Dw,I items.length acc Dw→∀s',Dw D=none→After cY uK env outer Rk s s' gu (upd Dw D (.lst acc))→Apart Rk env outer (upd Dw D (.lst acc)) C→(∃m,s'.heap.Ns C m)→R (.ok .next) s'):
  codeAny (model Hd.pw w) A (.compLoop (.ListComp elt [⟨.Name x px,iter,[],0⟩] scope pos) 0 (.ref it) (.ref D) (compEnvC scope cl C env)) R UI:=by
 have hx:scope.names.lookup x=some .local:=SV hc.nd hc.tg;refine codeAny_compLoop_tests (fun k s'=>Ve items.length (fun i acc H'=>B9 cY uK env outer Rk s s' it src i D C acc gu H'∧I i acc H') k) (fun k ay y=>Ve.el y (fun i acc iB tI y=>pI base y.1.XS.inv hs.hd (W.it _ _ _ y.2).1 y.1.O5 (B8Q tI) fun v h' tk hy hit k=>?_)
  fun acc iB y=>KJ base y.1.XS.inv hs.hd (W.it _ _ _ y.2).1 y.1.O5 fun h' tk k=>?_) (items.length+1) (.mk (V7h _) ⟨start,i0⟩)
 ·have QH:=y.1.item (tk:=tk) hit k;refine QH.ns.elim fun m hm=>wpAny_assign_Name (wpAny_storeName_local (lookup_relabel_local hx) hm (fun dz Ey MS=>wpAny_pure ?_) (by simp[compEnvC,relabel,hc.kd]));have LM:=QH.name (tk:=tk+1) Ey MS;have hh:Here cY uK n A (compEnvC scope cl C env) ow ow (vE dz iB (vf (compEnvC scope cl C env)::ow)) {ay with heap:=dz,toks:=tk+1} (uh gu fv t (er v)) iB:=
   ⟨hs.lY,hs.hd,hs.room,OH (B9.inv (cenv:=compEnvC scope cl C env) hs.ow LM hc.kd),Vf ok hc Ff LM.XS.loc Ey (if_pos rfl),.inr rfl,kC hs.ow LM.pC.IR⟩
  refine(W.step i _ acc iB ((B8Q tI).trans (R6T some hy.symm)) y.2 C cl Re).Gh (.refl hh) hh (fun zz zz=>L6 Re) fun u C8 Kj AC iG zz RG=>?_;have cu:=B9.elt (cenv:=compEnvC scope cl C env) hs.ow hs.apart rfl LM iG;refine cu.bG.elim fun ys z=>wpAny_list_append_plain (hsz:=?_) z.1 fun Qx ou Pe=>Ve.next tI ⟨cu.add (tk:=C8.toks) z.1 z.2 ou Pe,RG⟩
  rw[show ys.size=i from(List.length_map er).symm.trans ((congrArg List.length z.2).trans (W.it _ _ _ y.2).2),sizeLine_eq];exact Nat.le_of_lt (Nat.lt_of_lt_of_le tI (z2n W.len (by decide)))
 ·have z:=y.1.last (tk:=tk) k;exact done acc iB y.2 _ z.2.2.2 z.1 z.2.1 z.2.2.1
theorem BN(base:AG cY w)(ok:CL env){ZN:Sem Value}(hc:Vx env.scope.names scope x t fv=true)(Re:∀H,¬X H)(zM:zk iter=true)(Km:ik fr fv=true)(hs:Here cY uK n A env outer ow Rk s fr H)
  (h:QB cY uK w env outer ow A Rk s ZN (fun src items gu H=>∃I:Nat→List Value→AH→Prop,CompI cY uK w n X env ow elt scope t fv src items gu I∧I 0 [] H∧
   ∀acc Dw,I items.length acc Dw→∀(D C:Addr)s',Dw D=none→After cY uK env outer Rk s s' gu (upd Dw D (.lst acc))→Apart Rk env outer (upd Dw D (.lst acc)) C→(∃m,s'.heap.Ns C m)→compPost (model Hd.pw w) A E use Qc (.ref D) C (.ok .next) s') X):
  wpAny (model Hd.pw w) A (comprehension (.ListComp elt [⟨.Name x px,iter,[],0⟩] scope pos) scope env pos' (newList []) false ZN use) Qc E s:=by
 have ck:=sP hc;refine(IB (env:=env) (scope:=scope) fun y hy=>(A8 ck.fv hy).elim fun i z=>z.elim fun j z=>(Option.isSome_iff_exists.mp (GN Km (C3D z.1))).elim fun u hu=>hs.loc.elim fun m l=>
  (qT (l.2 j u (Option.join_eq_some_iff.mp hu)) z.2).imp fun c w=>w.elim fun zz w=>w.1).elim fun cl Ff=>?_
 refine wpAny_comprehension_free rfl (fun x=>Xa zM x) Ff.1 ck.kd (fun y hy hl=>(List.mem_iff_getElem?.mp hy).elim fun i hi=>SV ck.nd (hi.trans (R6T some (Prod.ext rfl hl)))) (h.out (fun zz zz=>L6 Re) fun it dh XZ src items UI la hv z=>z.elim fun I z=>?_);refine wpAny_newObj_type (wpAny_newFunctionEnv ck.nc (fun y hy=>nomatch hy) (fun wi sV Ed=>?_) ck.kd);dsimp only at sV Ed⊢;generalize qz:UI.heap.push {cls:=.type "list",dict:=none,data:=.seq ([]:List Value).toArray}=H2 at sV Ed⊢;have hC:H2.objs.size=UI.heap.objs.size+1:=qz▸Heap.size_push ..;have lt {a:Addr} (q:a<UI.heap.objs.size+1):a≠H2.objs.size:=hC▸Nat.ne_of_lt q;have old:∀b o,UI.heap.get? b=some o→wi.get? b=some o:=fun b o e=>Ed.extBut b o (lt (Nat.lt_succ_of_lt (Heap.lt_size e))) (Heap.get?_push_of_some _ (qz▸Heap.get?_push_of_some _ e));have DC:=lt (K7i UI.heap.objs.size);have hD:wi.PlainList UI.heap.objs.size #[]:=⟨_,Ed.extBut _ _ DC (Heap.get?_push_of_some _ (qz▸Heap.get?_push_size _ rfl))⟩;have Uc:it<UI.heap.objs.size:=la.O5.fields.elim fun o z=>z.elim fun zz z=>Heap.lt_size z.1;have start:B9 cY uK env outer Rk s {UI with heap:=wi} it src 0 UI.heap.objs.size H2.objs.size [] dh XZ:=
  ⟨la.XS.trans (.keeps (la.XS.here hs) old rfl rfl),la.O5.keeps fun o e=>old _ _ e,la.free,⟨#[],hD,rfl⟩,la.XS.inv.W2 (u7 _),⟨_,sV⟩,la.XS.inv.W2 (Eo (hC▸Nat.le_succ _)),DC,Nat.ne_of_lt Uc,lt (Nat.lt_succ_of_lt Uc)⟩
 have loop:=Jh (px:=px) (pos:=pos) (iter:=iter) base ok ck Re hs Ff.2 z.1 start z.2.1 (R:=compPost (model Hd.pw w) A E use Qc (.ref UI.heap.objs.size) H2.objs.size) fun acc Dw hI s'=>z.2.2 acc Dw hI _ _ s';exact codeAny_compStart_list loop (JB start.O5 loop)
end
def JP(cY:Heap)(uK:OsState)(w:World)(n:Nat)(X:AH→Prop)(env:Env)(ow:List Env)(elt:Expr)(scope:Scope)(t:Nat)(fv:List (Option Nat))(P:Value→dD→AH→Prop)(src:Src)(items:List Value)(gu:dD)(H:AH):Prop:=
 ∃I:Nat→List Value→AH→Prop,CompI cY uK w n X env ow elt scope t fv src items gu I∧I 0 [] H∧∀acc Dw,I items.length acc Dw→∀D,Dw D=none→P (.ref D) gu (upd Dw D (.lst acc))
theorem Apart.gone{a:Addr}{s':Shared}{h':Heap}{m:Str→Option Value}(x:After cY uK env outer Rk s s' fr H)(p:Apart Rk env outer H a)(hm:s'.heap.Ns a m)(k:Heap.SameBut a s'.heap h'):
  After cY uK env outer Rk s {s' with heap:=h'} fr H:=x.zT p (tT hm) (tk:=s'.toks) fun b o ne e=>(k.2 b ne).trans e
section
variable{elt iter:Expr}{x:Str}{px:Pos}{scope:Scope}{pos:Pos}{t:Nat}{fv:List (Option Nat)}(base:AG cY w)(ok:CL env)(hc:Vx env.scope.names scope x t fv=true)(Re:∀H,¬X H)(zM:zk iter=true)(Km:ik fr fv=true)
include base ok hc Re zM Km
theorem Run.comp{P:Value→dD→AH→Prop}(h:ML cY uK w n env outer ow fr H (eval iter env) (JP cY uK w n X env ow elt scope t fv P) X):
  Run cY uK w n env outer ow fr H (eval (.ListComp elt [⟨.Name x px,iter,[],0⟩] scope pos) env) P X:=fun A Rk s hs=>by
 rw[eval_ListComp];exact BN base ok hc Re zM Km hs ((h A Rk s hs).mono fun src items dh XZ z=>z.imp fun I z=>⟨z.1,z.2.1,fun acc Dw hI D C s' hD a p hm=>hm.imp fun m hm=>⟨hm,fun h' k=>⟨dh,_,Apart.gone a p hm k,z.2.2 acc Dw hI D hD⟩⟩⟩)
theorem Run.kA{P:Flow→dD→AH→Prop}{y:Str}{py:Pos}{Y2:Pos}{i:Nat}(hy:env.scope.names[i]? =some (y,.local))
  (h:ML cY uK w n env outer ow fr H (eval iter env) (JP cY uK w n X env ow elt scope t fv (fun v fr H=>P .next (fr.set i (some v)) H)) X):
  Run cY uK w n env outer ow fr H (exec (.Assign [.Name y py] (.ListComp elt [⟨.Name x px,iter,[],0⟩] scope pos) Y2) env) P X:=by
 obtain⟨b,hb⟩:∃b,swapsWith (.ListComp elt [⟨.Name x px,iter,[],0⟩] scope pos) (some (.Name y py)) Y2.line env=Pure.pure b:=⟨_,rfl⟩;cases b with
 |false=>
  rw[exec_Assign_Name env y py _ Y2 hb];exact .bind (.at (.bind ((Run.comp base ok hc Re zM Km (P:=fun v fr H=>P .next (fr.set i (some (er v))) H) fun A Rk s hs=>(h A Rk s hs).mono fun src items dh XZ z=>z).im fun v fr H h=>.bind (.at (.bind (run_bind ok hy (.pure h)))))))
 |true=>
  intro A Rk s hs;rw[exec_Assign_Name_used _ _ _ _ hb];refine wpAny_bind (wpAny_standAt (wpAny_bind ?_));show wpAny _ A (do let _←comprehension (.ListComp elt [⟨.Name x px,iter,[],0⟩] scope pos) scope env _ (newList []) false (eval iter env) (some (assign (.Name y py) env))) _ _ s;refine wpAny_bind (wpAny_mono (BN base ok (Qc:=fun zz s'=>∃ve H',After cY uK env outer Rk s s' ve H'∧P .next ve H') hc Re zM Km hs ((h A Rk s hs).mono fun src items dh XZ z=>z.imp fun I z=>⟨z.1,z.2.1,fun acc Dw hI D C s' hD a p hm=>hm.elim fun m hm=>?_⟩)) (fun zz s' hq=>wpAny_pure (wpAny_pure hq)) fun zz zz e=>e);have R:Run cY uK w n env outer ow dh (upd Dw D (.lst acc)) (assign (.Name y py) env (.ref D)) (fun zz ve H'=>P .next ve H'∧H'=upd Dw D (.lst acc)) X:=by rw[PySem.assign_Name];exact .bind (.at (run_bind ok hy ⟨z.2.2 acc Dw hI D hD,rfl⟩))
  refine R.Gh (.refl (hs.xj a)) (hs.xj a) (fun zz zz=>L6 Re) fun zz UI Q5 iB l8 zz q=>?_;have GP:UI.heap.Ns C m:=hm.at' fun o e=>l8.inv.stays C o (p.kept e);exact⟨m,GP,fun h' k=>⟨Q5,_,Apart.gone (a.back l8) (q.2▸p) GP k,q.1⟩⟩
end
theorem Wh{h h':Heap}(x:Heap.ExtBut h.objs.size h h'):∀b o,h.get? b=some o→h'.get? b=some o:=fun b o e=>x b o (Nat.ne_of_lt (Heap.lt_size e)) e
theorem t0(base:AG cY w){P:List Value→dD→AH→Prop}{v:Value}{vs:List Value}{k:Nat}(hv:tq H (er v)=some (false,vs))(hk:vs.length=k)(h:∀items:List Value,items.map er=vs→P items fr H):
  Run cY uK w n env outer ow fr H (unpackItems v k none) P X:=fun A Rk s hs=>(NM hv).elim fun a q=>by
 subst q;refine(N6 base hs.inv hv).elim fun xs r=>?_;cases hk.symm.trans ((R6T List.length r.1).symm.trans (List.length_map er));exact wpAny_unpackItems_tuple hs.hd r.2 fun h' x=>⟨fr,H,.keeps hs (Wh x) rfl rfl,h _ r.1⟩
def Binds(cY:Heap)(uK:OsState)(w:World)(n:Nat)(env:Env)(outer ow:List Env)(X:AH→Prop)(i:Nat)(f:Value→Sem Unit):Prop:=∀v fr H(P:Unit→dD→AH→Prop),P () (fr.set i (some (er v))) H→Run cY uK w n env outer ow fr H (f v) P X
theorem Kl{P:Unit→dD→AH→Prop}{is:List Nat}:∀{fs:List (Value→Sem Unit)}{items:List Value}{fr:dD},fs.length=is.length→(∀p∈is.zip fs,Binds cY uK w n env outer ow X p.1 p.2)→items.length=is.length→P () (dj is (items.map er) fr) H→
  Run cY uK w n env outer ow fr H (assignInOrder fs items) P X:=by
 induction is with
 |nil=>
  intro fs items fr hl _ hn h;cases List.eq_nil_of_length_eq_zero hl;exact .pure h
 |cons i is ih=>
  intro fs items fr hl hb hn h;cases fs with
  |nil=>cases hl
  |cons f fs=>cases items with
   |nil=>cases hn
   |cons v items=>
    show Run cY uK w n env outer ow fr H (PySem.holding items (f v) >>= fun zz=>assignInOrder fs items) P X;exact .bind (.holding (hb (i,f) (.head _) v fr H _ (ih (Nat.succ.inj hl) (fun p m=>hb p (.tail _ m)) (Nat.succ.inj hn) h)))
theorem kj{P:Unit→dD→AH→Prop}(ok:CL env){xs:List Str}{is:List Nat}{items:List Value}(hl:xs.length=is.length)(hx:∀p∈is.zip xs,env.scope.names[p.1]? =some (p.2,.local))(hn:items.length=is.length)(h:P () (dj is (items.map er) fr) H):
  Run cY uK w n env outer ow fr H (assignInOrder (xs.map fun x=>bindName env x) items) P X:=
 Kl ((List.length_map _).trans hl) (fun p m=>(List.mem_map.mp (List.zip_map_right .. ▸m)).elim fun q z=>by have e:=z.2;subst e;exact fun v fr H P h=>run_bind ok (hx q z.1) h) hn h
noncomputable def uC(e:Expr):Option Str:=if h:e.ctorIdx=23 then some (@Expr.Name.elim (fun zz=>Str) e h fun x zz=>x)else none
theorem Eb{e:Expr}{x:Str}(h:uC e=some x):∃p,e= .Name x p:=
 EQ h fun q e'=>@Expr.Name.elim (fun e=>∀q:e.ctorIdx=23,some (@Expr.Name.elim (fun zz=>Str) e q fun x zz=>x)=some x→∃p,e= .Name x p) e q (fun zz p zz e=>⟨p,Y1l e▸rfl⟩) q e'
noncomputable def namesOf(l:List Expr):Option (List Str):=List.rec (some []) (fun e zz r=>(uC e).bind fun x=>r.map (x:: ·)) l
theorem Ye(ok:CL env){ts:List Expr}:∀{xs:List Str},namesOf ts=some xs→(assignEach ts env).length=xs.length∧(assignEach ts env).findIdx? (·.1)=none∧
  ∀is:List Nat,(∀p∈is.zip xs,env.scope.names[p.1]? =some (p.2,.local))→∀p∈is.zip ((assignEach ts env).map (·.2)),Binds cY uK w n env outer ow X p.1 p.2:=by
 induction ts with
 |nil=>exact fun h=>Y1l h▸⟨rfl,rfl,fun is zz p m=>nomatch (List.zip_nil_right▸m:p∈[])⟩
 |cons t ts ih=>
  refine fun h=>HH h fun x ex h=>YX h fun ys hy e=>(Eb ex).elim fun p et=>?_;subst et e;have z:=ih hy;refine⟨R6T (· + 1) z.1,List.findIdx?_cons.trans (R6T (Option.map (· + 1)) z.2.1),fun is hx q m=>?_⟩;cases is with
  |nil=>cases m
  |cons i is=>
   refine(List.mem_cons.mp m).elim (fun e=>e▸fun v fr H P h=>?_) (z.2.2 is (fun q mq=>hx q (.tail _ mq)) q);show Run cY uK w n env outer ow fr H (assign (.Name x p) env v) P X;rw[PySem.assign_Name];exact .bind (.at (run_bind ok (hx (i,x) (.head _)) h))
theorem zD(ok:CL env)(hs:Here cY uK n A env outer ow Rk s fr H){P:Unit→dD→AH→Prop}{a:Addr}{as:Array Value}{ts:List Expr}{xs:List Str}{is:List Nat}{x1}{pos:Pos}(hT:IsTup s.heap a as)(hn:namesOf ts=some xs)(hl:xs.length=is.length)
  (hx:∀p∈is.zip xs,env.scope.names[p.1]? =some (p.2,.local)) (hk:as.size=is.length) (h:P () (dj is (as.toList.map er) fr) H):wpAny (model Hd.pw w) A (assign (.Tuple ts x1 pos) env (.ref a)) (Po cY uK env outer Rk P s) (Px cY uK env outer ow Rk X s) s:=by
 have z:=Ye (cY:=cY) (uK:=uK) (w:=w) (n:=n) (outer:=outer) (ow:=ow) (X:=X) ok hn;refine wpAny_assign_Tuple hs.hd hT (z.1.trans (hl.trans hk.symm)) z.2.1 fun h' x=>?_;have XS:After cY uK env outer Rk s {s with heap:=h'} fr H:=.keeps hs (Wh x) rfl rfl;exact Run.end XS (XS.here hs) (Kl ((List.length_map _).trans (z.1.trans hl)) (z.2.2 is hx) hk h)
theorem aF(base:AG cY w)(ok:CL env){P:Unit→dD→AH→Prop}{v:Value}{vs:List Value}{ts:List Expr}{xs:List Str}{is:List Nat}{x1}{pos:Pos}(hv:tq H (er v)=some (false,vs))(hn:namesOf ts=some xs)(hl:xs.length=is.length)
  (hx:∀p∈is.zip xs,env.scope.names[p.1]? =some (p.2,.local)) (hk:vs.length=is.length) (h:P () (dj is vs fr) H):Run cY uK w n env outer ow fr H (assign (.Tuple ts x1 pos) env v) P X:=fun A Rk s hs=>(NM hv).elim fun a q=>by
 subst q;exact(N6 base hs.inv hv).elim fun as r=>zD ok hs r.2 hn hl hx ((List.length_map er).symm.trans ((R6T List.length r.1).trans hk)) (r.1▸h)
theorem dX{a b:Int}(ha:a.natAbs≤10000)(hb:b.natAbs≤10000):Builtin.Range.small a b 1=true:=small_one (by lia) (by lia) (by lia) (by lia)
theorem F5(a b:Int):Builtin.Range.rangeSize a b 1=(((b-a).toNat:Nat):Int):=by rw[rangeSize_one];split<;>lia
section
variable{x:Str}{p pos:Pos}{VF:Value}{Q:Value→Shared→Prop}{E:Value→Shared→Prop}(base:AG cY w)(ok:CL env)(hg:glob env.scope.names x VF=true)(hv:∀g,er g=VF→g=VF)
 (hk:∀h',(Hd.KF w.params).In h'→∃k,(k=Keeper.frame∨k=Keeper.machine∨k=Keeper.boundFrame)∧Looks (model Hd.pw w) h' (keeperOf VF) k) (hs:Here cY uK n A env outer ow Rk s fr H) (hE:∀e s',Px cY uK env outer ow Rk X s e s'→E e s')
include base ok hg hv hk hs hE
theorem OL{args:List Expr}(hp:args.all notStar=true)(k:∀s₁,After cY uK env outer Rk s s₁ fr H→Here cY uK n A env outer ow Rk s₁ fr H→wpAny (model Hd.pw w) A (spliced (backTo pos (starEach args env))) (fun vs UI=>(Hd.KF w.params).In UI.heap∧wpAny (model Hd.pw w) A (call VF vs) Q E UI) E s₁):
  wpAny (model Hd.pw w) A (eval (.Call (.Name x p) args [] pos) env) Q E s:=by
 rw[arm_eval_Call_Name'];refine wpAny_bind ((wk (X:=X) (P:=fun u ve H'=>u=VF∧ve=fr∧H'=H) base ok hg fun u e=>⟨hv u e,rfl,rfl⟩).Gh (.refl hs) hs hE fun u s₁ gu Dw Wp wi q=>?_);cases q.1;cases q.2.1;cases q.2.2;exact aL (wE hp) hk (k s₁ Wp wi)
theorem zn{a:Expr}{R:Value→dD→AH→Prop}(ha:notStar a=true)(h:Run cY uK w n env outer ow fr H (eval a env) R X)
  (k:∀v s₁ gu Dw,After cY uK env outer Rk s s₁ gu Dw→Here cY uK n A env outer ow Rk s₁ gu Dw→R v gu Dw→wpAny (model Hd.pw w) A (call VF [v]) Q E s₁):wpAny (model Hd.pw w) A (eval (.Call (.Name x p) [a] [] pos) env) Q E s:=
 OL base ok hg hv hk hs hE ((Bool.and_true _).trans ha) fun zz Wp wi=>wpAny_items_cons (h.Gh Wp wi hE fun v UI dh XZ Zz dz q=>wpAny_pure ⟨Zz.inv.K base,k v UI dh XZ Zz dz q⟩) (dN ha)
theorem vZ{a b:Expr}{R:Value→Value→dD→AH→Prop}(ha:notStar a=true)(hb:notStar b=true)(h:Run cY uK w n env outer ow fr H (eval a env) (fun u fr H=>Run cY uK w n env outer ow fr H (eval b env) (R u) X) X)
  (k:∀u v s₁ gu Dw,After cY uK env outer Rk s s₁ gu Dw→Here cY uK n A env outer ow Rk s₁ gu Dw→R u v gu Dw→wpAny (model Hd.pw w) A (call VF [u,v]) Q E s₁):wpAny (model Hd.pw w) A (eval (.Call (.Name x p) [a,b] [] pos) env) Q E s:=
 OL base ok hg hv hk hs hE (Bool.and_eq_true_iff.mpr ⟨ha,(Bool.and_true _).trans hb⟩) fun zz Wp wi=>wpAny_items_cons (h.Gh Wp wi hE fun u UI dh XZ Zz dz q=>
  wpAny_items_cons (q.Gh Zz dz hE fun v ay Q5 iB l8 yR q=>wpAny_pure ⟨l8.inv.K base,k u v ay Q5 iB l8 yR q⟩) (dN hb)) (dN ha)
end
theorem eE(h':Heap)(k:(Hd.KF w.params).In h'):∃k,(k=Keeper.frame∨k=Keeper.machine∨k=Keeper.boundFrame)∧Looks (model Hd.pw w) h' (keeperOf (.type "range")) k:=Fz (f:=.type "range") rfl h' k
theorem pR(hs:Here cY uK n A env outer ow Rk s fr H){s₁:Shared}{gu:dD}{Dw:AH}(af:After cY uK env outer Rk s s₁ gu Dw){a b:Int}{t u v tk:Tok}{P:Src→List Value→dD→AH→Prop}{E:Value→Shared→Prop}(ha:a.natAbs≤10000)(hb:b.natAbs≤10000)
  (h:P (.A1 a (b-a).toNat) ((List.range (b-a).toNat).map fun(k:Nat)=>.int (a+k*1) 0) gu Dw):
  wpAny (model Hd.pw w) A (pyIter (.ref s₁.heap.objs.size)) (fun Yi UI=>HA cY uK env outer Rk s P UI Yi) E {s₁ with heap:=s₁.heap.push {cls:=.type "range",data:=.fields #[.int a t,.int b u,.int 1 v]},toks:=tk}:=by
 have a':After cY uK env outer Rk s {s₁ with heap:=s₁.heap.push {cls:=.type "range",data:=.fields #[.int a t,.int b u,.int 1 v]},toks:=tk} gu Dw:=af.trans (.keeps (af.here hs) (fun b o e=>Heap.get?_push_of_some _ e) rfl rfl);refine wpAny_pyIter_range (IsRange.new ..) (dX ha hb) (.mk (LoopAt.TA (src:=.A1 a (b-a).toNat) hs a' (.A1 ?_)) rfl h);rw[F5,show a+((0:Nat):Int)*1=a from Int.add_zero a];exact Heap.get?_push_size _ rfl
theorem ML.A1(base:AG cY w)(ok:CL env){P:Src→List Value→dD→AH→Prop}{x:Str}{p pos:Pos}{hi:Expr}(hg:glob env.scope.names x (.type "range")=true)(hn:notStar hi=true)
  (h:Run cY uK w n env outer ow fr H (eval hi env) (fun v fr H=>∃k:Nat,er v= .int k 0∧k≤10000∧P (.A1 0 k) (W5 k) fr H) X):
  ML cY uK w n env outer ow fr H (eval (.Call (.Name x p) [hi] [] pos) env) P X:=fun A Rk s hs=>
 zn base ok hg (fun zz=>xc) eE hs (fun zz zz z=>z) hn h fun v s₁ gu Dw Wp wi z=>z.elim fun k z=>(E1 z.1).elim fun t e=>by have e0:((k:Int)-0).toNat=k:=R6T Int.toNat (Int.sub_zero k);subst e;exact call_range_1 (pR hs Wp (by decide) z.2.1 (by rw[e0];exact z.2.2))
theorem ML.pK(base:AG cY w)(ok:CL env){P:Src→List Value→dD→AH→Prop}{x:Str}{p pos:Pos}{lo hi:Expr}(hg:glob env.scope.names x (.type "range")=true)(hn:notStar lo=true)(hn2:notStar hi=true)
  (h:Run cY uK w n env outer ow fr H (eval lo env) (fun u fr H=>Run cY uK w n env outer ow fr H (eval hi env) (fun v fr H=>∃a b:Int,er u= .int a 0∧er v= .int b 0∧a.natAbs≤10000∧b.natAbs≤10000∧P (.A1 a (b-a).toNat) ((List.range (b-a).toNat).map fun(k:Nat)=>.int (a+k*1) 0) fr H) X) X):
  ML cY uK w n env outer ow fr H (eval (.Call (.Name x p) [lo,hi] [] pos) env) P X:=fun A Rk s hs=>
 vZ base ok hg (fun zz=>xc) eE hs (fun zz zz z=>z) hn hn2 h fun u v s₁ gu Dw Wp wi z=>z.elim fun a z=>z.elim fun b z=>(E1 z.1).elim fun t e=>(E1 z.2.1).elim fun t2 e2=>by subst e e2;exact call_range_2 (pR hs Wp z.2.2.1 z.2.2.2.1 z.2.2.2.2)
end
end
section
theorem cn(P:Params):exmOne (Hd.KF P) (.ref Hd.s5) (.ref Hd.s5)=some true:=by kernel_rfl
theorem UQ(P:Params):nsIn (Hd.KF P) mainGlobals ("SyntaxFail":Str)=some (some (.ref Hd.s5)):=by kernel_rfl
section
variable{cY:Heap}{uK:OsState}{w:World}{n:Nat}{X:AH→Prop}{A:Around}{Rk:Heap}{s:Shared}
variable{env:Env}{outer ow:List Env}{fr:dD}{H:AH}
structure wK(cY:Heap)(uK:OsState)(env:Env)(outer:List Env)(Rk:Heap)(Wy s:Shared)(e it:Addr)(x:Str)(t:Tok)(k:Nat)(fr:dD)(H:AH):Prop where
 XS:After cY uK env outer Rk Wy s fr H
 VJ:∃old,IsEnum s.heap e it k old
 O5:s.heap.IsStrIter it (strIterType x) x t k
 new:∀b∈[e,it],fX H Rk (vf env::outer) b
theorem jx{C:Addr→Prop}{e it b:Addr}(m:b∈[e,it])(h1:C e)(h2:C it):C b:=(List.mem_cons.mp m).elim (fun q=>q▸h1) fun m=>List.mem_singleton.mp m▸h2
theorem rW{h:Heap}{e:Addr}{o:Obj}{vs:Array Value}(x:h.get? e=some o)(d:o.data= .fields vs)(v:Option Value):¬h.IsCell e v:=fun c=>c.elim fun o' c=>nomatch d.symm.trans ((R6T Obj.data (Y1l (x.symm.trans c.1))).trans c.2)
theorem nJ{A:Around}(hh:A.handled=none)(it:Addr)(x:Str)(t:Tok):Draws Hd.pw w A it [it] x.cps.size (fun i v=>∃c u,x.cps[i]? =some c∧v= .str ⟨#[c]⟩ u) (fun i h=>h.IsStrIter it (strIterType x) x t i):=by
 unfold strIterType
 split
 ·exact Draws.strAscii hh it x t
 ·exact Draws.strWide hh it x t
theorem wK.moved{Wy:Shared}{e it:Addr}{x:Str}{t:Tok}{k:Nat}{h':Heap}{tk:Nat}(y:wK cY uK env outer Rk Wy s e it x t k fr H)(kp:∀b o,b∉[e,it]→s.heap.get? b=some o→h'.get? b=some o):After cY uK env outer Rk Wy {s with heap:=h',toks:=tk} fr H:=
 y.XS.off (S:=(· ∈[e,it])) y.new (fun a m=>jx (C:=fun a=>∀v,¬s.heap.IsCell a v) m (y.VJ.elim fun zz he=>rW he rfl) (y.O5.elim fun zz z=>rW z.1 z.2.2)) kp
theorem wK.back{Wy s':Shared}{e it:Addr}{x:Str}{t:Tok}{k:Nat}{dh:dD}{XZ:AH}(y:wK cY uK env outer Rk Wy s e it x t k fr H)(z:After cY uK env outer (vE s.heap H (vf env::outer)) s s' dh XZ):wK cY uK env outer Rk Wy s' e it x t k dh XZ:=
 have ne:=y.new e (.head _);have ni:=y.new it (.tail _ (.head _))
 ⟨y.XS.back z,y.VJ.imp fun zz he=>z.inv.stays _ _ (ne.kept he),y.O5.imp fun zz w=>⟨z.inv.stays _ _ (ni.kept w.1),w.2⟩,fun b m=>jx m (y.VJ.elim fun zz he=>ne.up (ne.kept he) z.inv) (y.O5.elim fun zz w=>ni.up (ni.kept w.1) z.inv)⟩
theorem Si(h':Heap)(k:(Hd.KF w.params).In h'):∃k,(k=Keeper.frame∨k=Keeper.machine∨k=Keeper.boundFrame)∧Looks (model Hd.pw w) h' (keeperOf (.type "enumerate")) k:=Fz (f:=.type "enumerate") rfl h' k
theorem Run.Sk(base:AG cY w)(ok:CL env){P:Flow→dD→AH→Prop}{ts:List Expr}{it:Expr}{en:Str}{pe cp p1 pos:Pos}{k1:Nat}{b:List Stmt}{xs:List Str}{is:List Nat}(hf:env.frame=some env.locals)
  (hg:glob env.scope.names en (.type "enumerate")=true) (lI:notStar it=true) (hn:namesOf ts=some xs) (hl:xs.length=is.length) (h2:is.length=2) (hx:∀p∈is.zip xs,env.scope.names[p.1]? =some (p.2,.local))
  (h:Run cY uK w n env outer (env::outer) fr H (eval it env) (fun v fr H=>∃x:Str,er v= .str x 0∧∃I:Nat→dD→AH→Prop,I 0 fr H∧
   (∀k c fr H,x.cps[k]? =some c→I k fr H→Run cY uK w n env outer (env::outer) (dj is [.int k 0,.str ⟨#[c]⟩ 0] fr) H (execs b env) (vk (I (k+1)) P) X)∧
   ∀fr H,I x.cps.size fr H→P .next fr H) X):
  Run cY uK w n env outer (env::outer) fr H (exec (.For (.Tuple ts k1 p1) (.Call (.Name en pe) [it] [] cp) b [] pos) env) P X:=fun A Rk s hs=>by
 refine wpAny_For (zn base ok hg (fun zz=>xc) Si hs (fun zz zz z=>z) lI h fun v UI dh XZ Zz MS z=>z.elim fun x z=>(ml z.1).elim fun t e=>z.2.elim fun I q0=>?_) (fun zz=>rfl);clear z;subst e;refine call_enumerate_str fun h' he hit hsz hk=>wpAny_pyIter_enum (s:={UI with heap:=h'}) he ?_;have out:∀b,UI.heap.objs.size≤b→fX XZ Rk (vf env::outer) b:=fun b hb=>Zz.inv.W2 (Eo hb);have a0:After cY uK env outer Rk s {UI with heap:=h'} dh XZ:=Zz.trans (.keeps MS hk rfl rfl);generalize J6z:UI.heap.objs.size=K3 at he hit out;generalize ce:K3+1=Hb at he;have rg:Hb≠K3:=ce▸Nat.succ_ne_self K3;have W:=WalksT.enumerateD (nJ (w:=w) (A:=A.in1) hs.hd K3 x t) Hb rg (fun m=>rg (List.mem_singleton.mp m)) (by simp);refine codeAny_forLoop_any (fun k s'=>Ve x.cps.size (fun i ve H'=>wK cY uK env outer Rk s s' Hb K3 x t i ve H'∧I i ve H') k) ?_ (x.cps.size+1) (.mk (V7h _) ⟨⟨a0,⟨_,he⟩,hit,fun b hb=>jx hb (out _ (ce▸Nat.le_succ K3)) (out _ (g61 _))⟩,q0.1⟩);refine fun k ay y=>Ve.el y (fun i Q5 iB tI y=>W.item i ay _ _ tI ⟨y.1.VJ,y.1.O5⟩ fun T vals a9 tk hv hT aV hM kp=>?_) fun Q5 iB y=>W.done ay _ _ ⟨y.1.VJ,y.1.O5⟩ fun a9 tk kp=>wpAny_execs_nil ⟨Q5,iB,y.1.moved kp,q0.2.2 _ _ y.2⟩;obtain⟨tt,y',⟨c,uu,hc,rfl⟩,rfl⟩:=hv;refine W.go _ _ _ i T _ _ _ hM fun Qx lI Ll=>?_;have kp':∀b o,b∉[Hb,K3]→ay.heap.get? b=some o→Qx.get? b=some o:=fun b o hb e=>Ll b o hb (kp b o hb e);have la:wK cY uK env outer Rk s {ay with heap:=Qx,toks:=tk} Hb K3 x t (i+1) Q5 iB:=⟨y.1.moved kp',lI.1,lI.2,y.1.new⟩;have hh:=hs.xj la.XS;have hE:∀e s',Px cY uK env outer (env::outer) (vE Qx iB (vf env::outer)) X {ay with heap:=Qx,toks:=tk} e s'→notedBy (model Hd.pw w) A env (fun e s'=>cameBackBy (model Hd.pw w) A env (Px cY uK env outer (env::outer) Rk X s) e s') e s':=fun e s' q=>uw hf hs.lY (q.imp fun zz q=>⟨.back la.XS q.1,q.2⟩);refine wpAny_mono (zD (X:=X) (as:= #[.int i tt,.str ⟨#[c]⟩ uu]) (P:=fun zz ve H'=>Run cY uK w n env outer (env::outer) ve H' (execs b env) (vk (I (i+1)) P) X) ok hh (aV.imp fun o z=>⟨Ll T o (W.apart i T _ hM) z.1,z.2⟩) hn hl hx (h2.symm▸rfl) (q0.2.1 i c Q5 iB hc y.2)) (fun zz Un w=>w.elim fun rR w=>w.elim fun Z7b w=>?_) hE;refine w.2.Gh w.1 (w.1.here hh) hE fun f Yc ur FQ TB zz q=>?_;cases f with
 |next|cont=>exact Ve.next tI ⟨la.back TB,q⟩
 |brk|ret v=>exact⟨ur,FQ,la.XS.back TB,q⟩
theorem U9{Wy s':Shared}{e:Value}{Q:Unit→Shared→Prop}{E:Value→Shared→Prop}(hf:env.frame=some env.locals)(hs:A.frames=some (env::outer))(h:∃H',xe cY uK env outer (env::outer) Rk Wy s' e H'∧X H')
  (hQ:∀MF,vA cY uK env outer Rk X Wy MF e→Q () MF):wpAny (model Hd.pw w) A (noteFrame e env) Q E s':=by
 refine h.elim fun H' h=>?_;have iv:=iy hf▸h.1.inv;have fin:∀a a0 h',e= .ref a→Heap.HeldW Rk (env::outer) a (.ref Hd.s5) a0 env.locals h'→s'.heap.UpToSlots h'→Q () {s' with heap:=h'}:=fun a a0 h' he hd u=>
  hQ _ ⟨H',a,a0,he,iv.slots u hd.1 hd.2.2.1 iv.dY,h.1.keep.trans (.of_slots iv.tail.lY u),hd,h.2,A4 u h.1.ns⟩
 exact h.1.exc.elim (fun z=>z.elim fun a z=>z.elim fun h z=>z.1.symm▸wpAny_mono (nS hs hf z.2.2.1 z.2.2.2 z.2.1 fun h' t hd u=>fin a _ h' z.1 hd u) (fun zz zz z=>z) fun zz zz z=>z.elim)
  fun y=>y.elim (fun z=>z.elim fun a z=>z.elim fun a0 z=>z.1.symm▸wpAny_looks_onW hs hf z.2 fun h' hd u=>fin a a0 h' z.1 hd u)
   fun z=>z.elim fun a z=>z.elim fun a0 z=>z.1.symm▸wpAny_noteFrame_againW hf z.2.2.2.2 (hQ _ ⟨H',a,a0,z.1,iv,h.1.keep,z.2,h.2,h.1.ns⟩)
theorem Run.zw(base:AG cY w)(ok:CL env)(hf:env.frame=some env.locals){P:Flow→dD→AH→Prop}{b:List Stmt}{np hp rp GC pos:Pos}{m1:Nat}(hg:env.kindOf ("SyntaxFail":Str)=some .globalImplicit)
  (h:Run cY uK w n env outer (env::outer) fr H (execs b env) P (fun H=>P (.ret .none) [] H)):
  Run cY uK w n env outer (env::outer) fr H (exec (.Try b [.ExceptHandler (some (.Name ("SyntaxFail":Str) np)) none [.Return (some (.Constant .none m1 rp)) GC] hp] [] [] pos) env) P X:=fun A Rk s hs=>by
 refine wpAny_Try_except (h.Gh (.refl hs) hs (fun e s₁ hx=>?_) fun f s₁ gu Dw Wp zz k=>?_)
 ·refine U9 hf hs.lY hx fun UI z=>z.elim fun H' z=>z.elim fun a z=>z.elim fun a0 z=>?_;rw[z.1];refine wpAny_landsW z.2.2.2.1 fun yR fl u=>?_;have wI:Inv cY uK Rk (env::outer) {UI with heap:=yR} H':=z.2.1.slots u fl.1 fl.2.2.1 z.2.1.dY;have K:=wI.K base;refine(wI.top base).elim fun mg T=>T.elim fun mb T=>wpAny_handleBy_cons (codeAny_handlers_test (Calls.Name_function_global ok.kind hg (Calls.loadGlobal_global (ok.globals▸T.g) (mg_of K T.g (UQ w.params)) ?_) (by decide))) (fun q=>nomatch q);refine fl.there.elim fun ob hb=>(exm_one (M:=model Hd.pw w) (e:=a) K (cls:=.ref Hd.s5) (hb.2▸(Looks.ld hb.1).andThen .now) (cn w.params)).here ?_;refine codeAny_handlers_suite (lands_againW fl fun a9 GB RR=>wpAny_execs_cons (wpAny_Return_some (wpAny_Constant_none ?_)));have gm:Inv cY uK Rk (env::outer) {UI with heap:=a9} H':=wI.slots RR GB.1 GB.2.2.1 wI.dY;exact⟨[],H',⟨(iy hf).symm▸gm,(A4 RR (A4 u z.2.2.2.2.2)).imp fun m hm=>⟨hm,fun i v q=>nomatch q⟩,(z.2.2.1.trans (.of_slots z.2.1.tail.lY u)).trans (.of_slots wI.tail.lY RR)⟩,z.2.2.2.2.1⟩
 ·cases f with
  |next=>exact wpAny_execs_nil ⟨gu,Dw,Wp,k⟩
  |brk|cont|ret v=>exact⟨gu,Dw,Wp,k⟩
end
end
section
section
variable{cY:Heap}{uK:OsState}{w:World}{n:Nat}{X:AH→Prop}
variable{env:Env}{outer ow:List Env}
noncomputable abbrev gP(cY:Heap)(uK:OsState)(w:World)(n:Nat)(env:Env)(outer ow:List Env)(X:AH→Prop)(x:Expr)(Q:Value→dD→AH→Prop)(fr:dD)(H:AH):Prop:=
 Run cY uK w n env outer ow fr H (eval x env) (fun v fr H=>Q (er v) fr H) X
noncomputable abbrev El(cY:Heap)(uK:OsState)(w:World)(n:Nat)(env:Env)(outer ow:List Env)(X:AH→Prop)(xs:List Expr)(Q:List Value→dD→AH→Prop)(fr:dD)(H:AH):Prop:=
 ∀pos,Run cY uK w n env outer ow fr H (spliced (backTo pos (starEach xs env))) (fun vs fr H=>vs.length=xs.length∧Q (vs.map er) fr H) X
theorem eN{P:Value→dD→AH→Prop}{lo:E}{l:Option Expr}{fr H}(hc:iV (Mt env.scope.names lo) lo l=true)(h:jd cY uK w n X lo P fr H)
  (ih:∀e,Mt env.scope.names lo e=true→gP cY uK w n env outer ow X e P fr H):Run cY uK w n env outer ow fr H (evalPart l env) (fun v fr H=>P (er v) fr H) X:=by
 cases l with
 |none=>
  have hc:isNone lo=true:=hc;revert h;exact cG hc fun h=>.pure (X:=X) (w:=w) h
 |some e=>exact ih e hc
def MY(P:Bool→dD→AH→Prop)(v:Value)(fr:dD)(H:AH):Prop:=match v with
 | .bool b=>P b fr H
 |_=>False
theorem Kk{A B:Prop}{P:Bool→dD→AH→Prop}{v fr H}(h:match v with| .bool true=>A| .bool false=>B|_=>False)(f:A→P true fr H)(g:B→P false fr H):MY P v fr H:=by
 cases v with
 |bool t=>cases t with
  |true=>exact f h
  |false=>exact g h
 |_=>exact h
theorem jM{P:Bool→dD→AH→Prop}:Le (MY P) (fun c fr H=>∃b,c= .bool b∧P b fr H):=fun v fr H h=>by
 cases v with
 |bool t=>exact⟨t,rfl,h⟩
 |_=>exact h.elim
theorem ZA(base:AG cY w){env:Env}{outer ow:List Env}{P:Value→dD→AH→Prop}{op:CmpOp}{x y:Value}{fr H}(h:dU op (er x) P (er y) fr H):Run cY uK w n env outer ow fr H (compareOp op x y) P X:=by
 revert h;unfold dU;cases e:Et H op (er x) (er y)with
 |none=>exact False.elim
 |some r=>exact uN base e
theorem WP{env:Env}{outer ow:List Env}{Q:Value→dD→AH→Prop}{v:Value}{fr H}(h:bF Q (er v) fr H):Run cY uK w n env outer ow fr H (unaryOp .Not v) (fun v fr H=>Q (er v) fr H) X:=by
 cases v with
 |bool t=>exact fun A Rk s hs=>PyProof.Rows.not_of (wpAny_truthy_bool ⟨fr,H,.refl hs,h⟩)
 |_=>exact False.elim h
theorem HZ{P:Bool→dD→AH→Prop}{v:Value}{fr H}(h:bF (MY P) v fr H):MY (fun b fr H=>P (!b) fr H) v fr H:=by
 cases v with
 |bool t=>exact h
 |_=>exact False.elim h
theorem Bf{P:Bool→dD→AH→Prop}{v fr H}(h:MY P (er v) fr H):∃b,er v= .bool b∧P b fr H:=by cases v<;>first|exact⟨_,rfl,h⟩|exact h.elim
variable(cY uK w n X)
def SE(e:E):Prop:=∀{env:Env}{outer ow:List Env},AG cY w→CL env→∀(x:Expr),Mt env.scope.names e x=true→∀{Q:Value→dD→AH→Prop}{fr H},jd cY uK w n X e Q fr H→gP cY uK w n env outer ow X x Q fr H
def ST(e:E):Prop:=∀{env:Env}{outer ow:List Env},AG cY w→CL env→∀(x:Expr),Mt env.scope.names e x=true→∀{P:Bool→dD→AH→Prop}{fr H},jd cY uK w n X e (MY P) fr H→Run cY uK w n env outer ow fr H (isTrue x env (eval x env)) P X
def SL(e:Es):Prop:=∀{env:Env}{outer ow:List Env},AG cY w→CL env→∀(xs:List Expr),Ou env.scope.names e xs=true→xs.all notStar=true→∀{Q:List Value→dD→AH→Prop}{fr H},bU cY uK w n X e Q fr H→El cY uK w n env outer ow X xs Q fr H
def g7(e:Es):Prop:=∀{env:Env}{outer ow:List Env},AG cY w→CL env→∀(op:BoolOp)(pos:Pos)(xs:List Expr),Ou env.scope.names e xs=true→∀{Q:Value→dD→AH→Prop}{fr H},Kc cY uK w n X (decide (op= .And)) e Q fr H→
  Run cY uK w n env outer ow fr H (boolOp pos op (evalEach xs env)) (fun v fr H=>Q (er v) fr H) X
def wC(e:Es):Prop:=∀{env:Env}{outer ow:List Env},AG cY w→CL env→∀(op:BoolOp)(xs:List Expr),Ou env.scope.names e xs=true→∀{P:Bool→dD→AH→Prop}{fr H},Kc cY uK w n X (decide (op= .And)) e (MY P) fr H→
  Run cY uK w n env outer ow fr H (allTrue op xs env) P X
def SN(e:E):Prop:=SE cY uK w n X e∧ST cY uK w n X e
def Zy(e:Es):Prop:=SL cY uK w n X e∧g7 cY uK w n X e∧wC cY uK w n X e
variable{cY uK w n X}
theorem dH{e:E}(h:SE cY uK w n X e)(hv:∀ns x,Mt ns e x=true→∀env t,isTrue x env t=(do let v←t;standAt x.pos;PySem.holding [v] (PySem.truthy v))):ST cY uK w n X e:=fun base ok x hc zz zz zz hw=>
 .iW (hv _ x hc _ _) ((h base ok x hc hw).im (fun v fr H h=>Bf h))
theorem Ec{i:Nat}:SE cY uK w n X (.loc i):=fun{env outer ow}base ok x hc Q fr H h=>by refine Vi hc fun y q M4=>?_;exact g8 ok M4 h
theorem dw{i:Nat}:ST cY uK w n X (.loc i):=dH (Ec) fun ns x hc=>by refine Vi hc ?_;intros;rfl
theorem CD{v:Value}:SE cY uK w n X (.Vt v):=fun{env outer ow}base ok x hc Q fr H h=>by refine Vi hc fun y q M4=>?_;exact wk base ok M4 fun u e=>e▸h
theorem Sp{v:Value}:ST cY uK w n X (.Vt v):=dH (CD) fun ns x hc=>by refine Vi hc ?_;intros;rfl
theorem Ze{v:Value}:SE cY uK w n X (.cst v):=fun{env outer ow}base ok x hc Q fr H h=>by refine ZP hc fun c k q M4=>?_;rw[beq_iff_eq]at M4;exact d6 M4 fun u e=>e▸h
theorem Ej{v:Value}:ST cY uK w n X (.cst v):=dH (Ze) fun ns x hc=>by refine ZP hc ?_;intros;rfl
theorem x7{o:E}{f:Fn}(TP:SN cY uK w n X o):SE cY uK w n X (.gZ o f):=fun{env outer ow}base ok x hc Q fr H h=>by refine HY hc fun y p hs M4=>?_;refine .attr hs ((TP.1 base ok _ M4 h).im (fun v fr H h=>?_));refine eV h fun u hu h=>?_;exact Fq base hu fun v e=>e▸h
theorem xU{o:E}{f:Fn}(TP:SN cY uK w n X o):ST cY uK w n X (.gZ o f):=dH (x7 TP) fun ns x hc=>by refine HY hc ?_;intros;rfl
theorem sL{f:Value}{as:Es}(Eg:Zy cY uK w n X as):SE cY uK w n X (.call f as):=fun{env outer ow}base ok x hc Q fr H h=>by refine TO hc fun y p args pos c1 c2 c3 c4=>?_;refine .M7 base c3 c2 (wk base ok c1 fun g e=>⟨e,?_⟩);exact(Eg.1 base ok args c4 c3 h pos).im (fun vs fr H h=>nH base (e▸h.2))
theorem Gk{f:Value}{as:Es}(Eg:Zy cY uK w n X as):ST cY uK w n X (.call f as):=dH (sL Eg) fun ns x hc=>by refine TO hc ?_;intros;rfl
theorem xr{o:E}{k:Mk}{as:Es}(TP:SN cY uK w n X o)(Eg:Zy cY uK w n X as):SE cY uK w n X (.Df o k as):=fun{env outer ow}base ok x hc Q fr H h=>by refine tB hc fun e m apos args pos c1 c2 c3 c4 c5 c6 c7=>?_;refine .TU base c2 c5 c3 c4 ((TP.1 base ok _ c6 h).im (fun ov fr H h pl=>?_));exact O0 base c1 h.1 ((Eg.1 base ok args c7 c5 h.2 pos).im (fun vs fr H h=>h.2))
theorem rF{o:E}{k:Mk}{as:Es}(TP:SN cY uK w n X o)(Eg:Zy cY uK w n X as):ST cY uK w n X (.Df o k as):=dH (xr TP Eg) fun ns x hc=>by refine tB hc ?_;intros;rfl
theorem mX{op:Operator}{a b:E}(Tz:SN cY uK w n X a)(jF:SN cY uK w n X b):SE cY uK w n X (.bin op a b):=fun{env outer ow}base ok x hc Q fr H h=>by refine FU hc fun l r p c1 c2=>?_;exact .binop ((Tz.1 base ok _ c1 h).im (fun v fr H h=>(jF.1 base ok _ c2 h).im (fun u fr H h=>jT base h)))
theorem yo{op:Operator}{a b:E}(Tz:SN cY uK w n X a)(jF:SN cY uK w n X b):ST cY uK w n X (.bin op a b):=dH (mX Tz jF) fun ns x hc=>by refine FU hc ?_;intros;rfl
theorem fe{k:Nat}:SE cY uK w n X (.neg k):=fun{env outer ow}base ok x hc Q fr H h=>by refine SW hc fun m p pos=>?_;refine .R3 (d6 (v:=.int k 0) rfl fun u e=>?_);obtain⟨t,rfl⟩:=E1 e;exact fun A Rk s hs=>PySem.P.neg_int ⟨fr,H,.tok hs _,h⟩
theorem Mp{k:Nat}:ST cY uK w n X (.neg k):=fun{env outer ow}base ok x hc P fr H h=>by exact False.elim h
theorem sf{a:E}(Tz:SN cY uK w n X a):SE cY uK w n X (.not a):=fun{env outer ow}base ok x hc Q fr H h=>by refine Lq hc fun y pos c=>?_;exact .R3 ((Tz.1 base ok _ c h).im fun v fr H h=>WP h)
theorem pW{a:E}(Tz:SN cY uK w n X a):ST cY uK w n X (.not a):=fun{env outer ow}base ok x hc P fr H h=>by refine Lq hc fun y pos c=>?_;exact .yU (Tz.2 base ok _ c (RW a (fun v fr H h=>HZ h) h))
theorem jc{op:CmpOp}{a b:E}(Tz:SN cY uK w n X a)(jF:SN cY uK w n X b):SE cY uK w n X (.cmp op a b):=fun{env outer ow}base ok x hc Q fr H h=>by refine Af hc fun l r pos c1 c2 c3=>?_;exact .lN c1 ((Tz.1 base ok _ c2 h).im fun v fr H h=>(jF.1 base ok _ c3 h).im fun u fr H h=>ZA base h)
theorem RE{op:CmpOp}{a b:E}(Tz:SN cY uK w n X a)(jF:SN cY uK w n X b):ST cY uK w n X (.cmp op a b):=fun{env outer ow}base ok x hc P fr H h=>by refine Af hc fun l r pos c1 c2 c3=>?_;exact .Jf c1 ((Tz.1 base ok _ c2 h).im fun v fr H h=>(jF.1 base ok _ c3 h).im fun u fr H h=>ZA base (Sn jM h))
theorem MP(base:AG cY w){env:Env}{outer ow:List Env}{op:CmpOp}{x y:Value}{fr H}{A B:Prop}(h:match Et H op (er x) (er y)with|some true=>A|some false=>B|none=>False){Q:Bool→dD→AH→Prop}(f:A→Q true fr H)(g:B→Q false fr H):
  Run cY uK w n env outer ow fr H (compareOp op x y) (fun c fr H=>∃t,c= .bool t∧Q t fr H) X:=by
 revert h;cases e:Et H op (er x) (er y)with
 |none=>exact False.elim
 |some r=>cases r with
  |true=>exact fun h=>uN base e ⟨true,rfl,f h⟩
  |false=>exact fun h=>uN base e ⟨false,rfl,g h⟩
theorem Dn{a:E}{op:CmpOp}{b:E}{XY:CmpOp}{c:E}(Tz:SN cY uK w n X a)(jF:SN cY uK w n X b)(Zt:SN cY uK w n X c):SE cY uK w n X (.V8 a op b XY c):=fun{env outer ow}base ok x hc Q fr H h=>by refine Nj hc fun l r q pos c1 c2 c3 c4=>?_;exact .V8 c1 ((Tz.1 base ok _ c2 h).im fun v fr H h=>(jF.1 base ok _ c3 h).im fun u fr H h=>MP base h (Q:=fun t fr H=>if t then _ else _) (fun h=>(Zt.1 base ok _ c4 h).im fun z fr H h=>ZA base h) fun h=>h)
theorem NR{a:E}{op:CmpOp}{b:E}{XY:CmpOp}{c:E}(Tz:SN cY uK w n X a)(jF:SN cY uK w n X b)(Zt:SN cY uK w n X c):ST cY uK w n X (.V8 a op b XY c):=fun{env outer ow}base ok x hc P fr H h=>by refine Nj hc fun l r q pos c1 c2 c3 c4=>?_;exact .gq c1 ((Tz.1 base ok _ c2 h).im fun v fr H h=>(jF.1 base ok _ c3 h).im fun u fr H h=>MP base h (Q:=fun t fr H=>if t then _ else _) (fun h=>(Zt.1 base ok _ c4 h).im fun z fr H h=>ZA base (Sn jM h)) fun h=>h)
theorem jm{b:Bool}{es:Es}(PK:Zy cY uK w n X es):SE cY uK w n X (.bool b es):=fun{env outer ow}base ok x hc Q fr H h=>by refine gH hc fun op xs p M4 v9=>?_;rw[M4]at h;show Run _ _ _ _ _ _ _ _ _ (boolOp _ _ (evalEach _ env)) _ _;exact PK.2.1 base ok _ _ _ v9 h
theorem z6{b:Bool}{es:Es}(PK:Zy cY uK w n X es):ST cY uK w n X (.bool b es):=fun{env outer ow}base ok x hc P fr H h=>by refine gH hc fun op xs p M4 v9=>?_;rw[M4]at h;rw[arm_isTrue_BoolOp];exact PK.2.2 base ok _ _ v9 h
theorem VM{c a b:E}(Zt:SN cY uK w n X c)(Tz:SN cY uK w n X a)(jF:SN cY uK w n X b):SE cY uK w n X (.wJ c a b):=fun{env outer ow}base ok x hc Q fr H h=>by refine Ak hc fun u v y p Qm M4 v9=>?_;refine .GA (Zt.2 base ok _ Qm (P:=fun b fr H=>if b then gP cY uK w n env outer ow X _ Q fr H else gP cY uK w n env outer ow X _ Q fr H) (RW c (fun v fr H h=>Kk h (Tz.1 base ok _ M4) (jF.1 base ok _ v9)) h))
theorem Br{c a b:E}(Zt:SN cY uK w n X c)(Tz:SN cY uK w n X a)(jF:SN cY uK w n X b):ST cY uK w n X (.wJ c a b):=fun{env outer ow}base ok x hc P fr H h=>by refine Ak hc fun u v y p Qm M4 v9=>?_;exact .u8 (Zt.2 base ok _ Qm (RW c (fun v fr H h=>Kk h (Tz.2 base ok _ M4) (jF.2 base ok _ v9)) h))
theorem yz{a i:E}(Tz:SN cY uK w n X a)(lc:SN cY uK w n X i):SE cY uK w n X (.sub a i):=fun{env outer ow}base ok x hc Q fr H h=>by refine JI hc fun y z pos c1 c2 c3=>?_;intro A Rk s hs;exact Subscript_ ((Tz.1 base ok _ c2 h).go (.refl hs) hs fun o s₁ gu Dw Wp uz k=>(lc.1 base ok _ c3 k).go Wp uz fun v UI dh XZ Zz MS k=>eV k fun u hu k=>(w6 (P:=fun v fr H=>Q (er v) fr H) base c1 hu fun r e=>e▸k).end Zz MS)
theorem WQ{a i:E}(Tz:SN cY uK w n X a)(lc:SN cY uK w n X i):ST cY uK w n X (.sub a i):=dH (yz Tz lc) fun ns x hc=>by refine JI hc ?_;intros;rfl
theorem nW{i:Nat}{lo hi:E}(Dp:SN cY uK w n X lo)(jq:SN cY uK w n X hi):SE cY uK w n X (.jk i lo hi):=fun{env outer ow}base ok x hc Q fr H h=>by refine UY hc fun y p l u q pos c1 c2 c3=>?_;refine .jk ((g8 ok c1 h).im (fun o fr H h=>(eN c2 h fun e he=>Dp.1 base ok e he h).im (fun v fr H h=>(eN c3 h fun e he=>jq.1 base ok e he h).im (fun u fr H h=>?_))));refine eV h fun r hr h=>?_;exact⟨r,hr,fun v e=>e▸h⟩
theorem L1{i:Nat}{lo hi:E}(Dp:SN cY uK w n X lo)(jq:SN cY uK w n X hi):ST cY uK w n X (.jk i lo hi):=dH (nW Dp jq) fun ns x hc=>by refine UY hc ?_;intros;rfl
theorem An{es:Es}(PK:Zy cY uK w n X es):SE cY uK w n X (.lst es):=fun{env outer ow}base ok x hc Q fr H h=>by refine GW hc fun xs p c1 c2 c3=>?_;refine .cst base (.lst ((PK.1 base ok _ c1 c3 h _).im (fun vs fr H h=>⟨by rw[h.1,sizeLine_eq];lia,h.2⟩)))
theorem W8{es:Es}(PK:Zy cY uK w n X es):ST cY uK w n X (.lst es):=dH (An PK) fun ns x hc=>by refine GW hc ?_;intros;rfl
theorem bg{es:Es}(PK:Zy cY uK w n X es):SE cY uK w n X (.tup es):=fun{env outer ow}base ok x hc Q fr H h=>by refine R7 hc fun xs k p c1 c2 c3=>?_;refine .cst base (.tup ((PK.1 base ok _ c1 c3 h _).im (fun vs fr H h=>⟨by rw[h.1,sizeLine_eq];lia,h.2⟩)))
theorem bP{es:Es}(PK:Zy cY uK w n X es):ST cY uK w n X (.tup es):=dH (bg PK) fun ns x hc=>by refine R7 hc ?_;intros;rfl
theorem IP{elt it:E}{t:Nat}{fv:List (Option Nat)}(xS:SN cY uK w n X elt)(jE:SN cY uK w n X it):SE cY uK w n X (.comp elt it t fv):=fun{env outer ow}base ok x hc Q fr H h=>by refine pn hc fun e y py iter scope pos c1 c2 c3 c4=>?_;refine .cst base <|Run.comp base ok c1 h.2.1 c2 h.1 (ML.val base ((jE.1 base ok _ c3 h.2.2).im fun v gu H=>.imp fun kd=>.imp fun items=>.imp_right fun h=>h.2.imp fun I z=>⟨⟨h.1,z.2.1,fun k x acc Dw hx hI C cl Re=>?_⟩,z.1,z.2.2.2⟩));exact xS.1 base (VY ok (sP c1)) _ ((g6 ok (scope:=scope)).symm▸c4) (z.2.2.1 k x acc Dw hx hI)
theorem EA{elt it:E}{t:Nat}{fv:List (Option Nat)}(xS:SN cY uK w n X elt)(jE:SN cY uK w n X it):ST cY uK w n X (.comp elt it t fv):=dH (IP xS jE) fun ns x hc=>by refine pn hc ?_;intros;rfl
theorem VH{m:Nat}:(W5 m).length=m:=by simp[W5]
theorem l7{elt hi:E}{t:Nat}{fv:List (Option Nat)}(xS:SN cY uK w n X elt)(jq:SN cY uK w n X hi):SE cY uK w n X (.qD elt hi t fv):=fun{env outer ow}base ok x hc Q fr H h=>by refine S5 hc fun e y py rx rp ha Ur scope pos c1 c2 Xr c3 c4=>?_;refine .cst base <|Run.comp base ok c1 h.2.1 rfl h.1 (ML.A1 base ok c2 Xr ((jq.1 base ok _ c3 h.2.2).im fun v gu H=>.imp fun m=>.imp_right fun h=>⟨h.1,h.2.imp fun I z=>⟨⟨VH.symm▸h.1,fun k acc H q=>⟨rfl,z.2.1 k acc H q⟩,fun k x acc Dw hx hI C cl Re=>?_⟩,z.1,VH.symm▸z.2.2.2⟩⟩));exact xS.1 base (VY ok (sP c1)) _ ((g6 ok (scope:=scope)).symm▸c4) (z.2.2.1 k x acc Dw hx hI)
theorem QX{elt hi:E}{t:Nat}{fv:List (Option Nat)}(xS:SN cY uK w n X elt)(jq:SN cY uK w n X hi):ST cY uK w n X (.qD elt hi t fv):=dH (l7 xS jq) fun ns x hc=>by refine S5 hc ?_;intros;rfl
theorem AP{i k:Nat}:SE cY uK w n X (.iU i k):=fun{env outer ow}base ok x hc Q fr H h=>by refine yC hc fun y p m p1 q pos c1=>?_;exact .cst base (.iU base (g8 ok c1 (P:=fun v fr H=>∃us,Rj cY H v us∧us.length≤10000∧∀a,H a=none→zQ (upd H a (.lst (us.take k)))→Q (.ref a) fr (upd H a (.lst (us.take k)))) (h.elim fun u h=>h.elim fun us h=>h.1▸⟨us,h.2.1,h.2.2.1,fun a ha c=>h.2.2.2 a ha c⟩)))
theorem JO{i k:Nat}:ST cY uK w n X (.iU i k):=dH (AP) fun ns x hc=>by refine yC hc ?_;intros;rfl
theorem Rs:SE cY uK w n X (.dead):=fun{env outer ow}base ok x hc Q fr H h=>False.elim h
theorem sJ:ST cY uK w n X (.dead):=fun{env outer ow}base ok x hc P fr H h=>False.elim h
theorem My:Zy cY uK w n X .nil:=by refine⟨fun{env outer ow}base ok xs hc _ Q fr H h=>?_,fun{env outer ow}base ok op pos xs hc Q fr H h=>False.elim h,fun{env outer ow}base ok op xs hc P fr H h=>False.elim h⟩;refine V0 hc ?_;exact fun pos=>.pX ⟨rfl,h⟩
theorem dO{e:E}{es:Es}(NQ:SN cY uK w n X e)(PK:Zy cY uK w n X es):SL cY uK w n X (.cons e es):=fun{env outer ow}base ok xs hc hp Q fr H h=>by revert hp;refine Ti hc fun x xs Qm hr hp=>?_;have hp:=Bool.and_eq_true_iff.mp (show(notStar x&&xs.all notStar)=true from hp);exact fun pos=>.Rg hp.1 ((NQ.1 base ok x Qm h).im (fun v fr H h=>(PK.1 base ok xs hr hp.2 h pos).im (fun vs fr H h=>⟨by simp[h.1],h.2⟩)))
theorem D0{e:E}(NQ:SN cY uK w n X e):g7 cY uK w n X (.cons e .nil):=fun{env outer ow}base ok op pos xs hc Q fr H h=>by refine Ti hc fun x r M4 hr=>?_;refine V0 hr ?_;exact .YM (NQ.1 base ok x M4 h)
theorem Tu{e e':E}{es:Es}(NQ:SN cY uK w n X e)(PK:g7 cY uK w n X (.cons e' es)):g7 cY uK w n X (.cons e (.cons e' es)):=fun{env outer ow}base ok op pos xs hc Q fr H h=>by
 refine Ti hc fun x r Qm hr=>?_;have Rl:=hr;revert Rl;refine Ti hr fun y xs zz zz hr=>?_;refine .K4 ((NQ.1 base ok x Qm h).im (fun v fr H h=>?_));cases v<;>try exact h.elim
 rename_i t;refine⟨t,rfl,?_⟩;have h:if t=decide (op= .And)then Kc cY uK w n X (decide (op= .And)) (.cons e' es) Q fr H else Q (.bool t) fr H:=h
 split
 ·rename_i q;rw[if_pos q]at h;exact PK base ok op pos (y::xs) hr h
 ·rename_i q;rw[if_neg q]at h;exact h
theorem fz{e:E}(NQ:SN cY uK w n X e):wC cY uK w n X (.cons e .nil):=fun{env outer ow}base ok op xs hc P fr H h=>by
 refine Ti hc fun x r M4 hr=>?_;refine V0 hr ?_;refine .KE ((NQ.2 base ok x M4 h).im (fun b fr H h=>?_))
 split
 ·rename_i q;refine .jZ ?_;have:(op==BoolOp.And)=b:=by rw[q];cases op<;>rfl
  rw[this];exact h
 ·exact h
theorem JF{e e':E}{es:Es}(NQ:SN cY uK w n X e)(PK:wC cY uK w n X (.cons e' es)):wC cY uK w n X (.cons e (.cons e' es)):=fun{env outer ow}base ok op xs hc P fr H h=>by
 refine Ti hc fun x r Qm hr=>?_;have Rl:=hr;revert Rl;refine Ti hr fun y xs zz zz hr=>?_;refine .KE (NQ.2 base ok x Qm (RW e (fun v fr H h=>?_) h));cases v<;>try exact h.elim
 rename_i t;have h:if t=decide (op= .And)then Kc cY uK w n X (decide (op= .And)) (.cons e' es) (MY P) fr H else MY P (.bool t) fr H:=h;show if t=decide (op= .And)then _ else _
 split
 ·rename_i q;rw[if_pos q]at h;exact PK base ok op (y::xs) hr h
 ·rename_i q;rw[if_neg q]at h;exact h
theorem mF{e:E}{es:Es}(NQ:SN cY uK w n X e)(PK:Zy cY uK w n X es):Zy cY uK w n X (.cons e es):=by
 cases es with
 |nil=>exact⟨dO NQ PK,D0 NQ,fz NQ⟩
 |cons e' es=>exact⟨dO NQ PK,Tu NQ PK.2.1,JF NQ PK.2.2⟩
theorem jS(e:E):SN cY uK w n X e:=E.rec (motive_1:=SN cY uK w n X) (motive_2:=Zy cY uK w n X) (fun zz=>⟨Ec,dw⟩) (fun zz=>⟨CD,Sp⟩) (fun zz=>⟨Ze,Ej⟩) (fun zz zz h0=>⟨x7 h0,xU h0⟩) (fun zz zz h0=>⟨sL h0,Gk h0⟩) (fun zz zz zz h0 h1=>⟨xr h0 h1,rF h0 h1⟩) (fun zz zz zz h0 h1=>⟨mX h0 h1,yo h0 h1⟩) (fun zz=>⟨fe,Mp⟩) (fun zz h0=>⟨sf h0,pW h0⟩) (fun zz zz zz h0 h1=>⟨jc h0 h1,RE h0 h1⟩) (fun zz zz zz zz zz h0 h1 h2=>⟨Dn h0 h1 h2,NR h0 h1 h2⟩) (fun zz zz h0=>⟨jm h0,z6 h0⟩) (fun zz zz zz h0 h1 h2=>⟨VM h0 h1 h2,Br h0 h1 h2⟩) (fun zz zz h0 h1=>⟨yz h0 h1,WQ h0 h1⟩) (fun zz zz zz h0 h1=>⟨nW h0 h1,L1 h0 h1⟩) (fun zz h0=>⟨An h0,W8 h0⟩) (fun zz h0=>⟨bg h0,bP h0⟩) (fun zz zz zz zz h0 h1=>⟨IP h0 h1,EA h0 h1⟩) (fun zz zz zz zz h0 h1=>⟨l7 h0 h1,QX h0 h1⟩) (fun zz zz=>⟨AP,JO⟩) ⟨Rs,sJ⟩ My (fun zz zz h0 h1=>mF h0 h1) e
theorem Tj{env:Env}{outer ow:List Env}(base:AG cY w)(ok:CL env)(e:E)(x:Expr)(hc:Mt env.scope.names e x=true){Q:Value→dD→AH→Prop}{fr H}(h:jd cY uK w n X e Q fr H):gP cY uK w n env outer ow X x Q fr H:=(jS e).1 base ok x hc h
theorem Ut{env:Env}{outer ow:List Env}(base:AG cY w)(ok:CL env)(e:E)(x:Expr)(hc:Mt env.scope.names e x=true){P:Bool→dD→AH→Prop}{fr H}(h:jd cY uK w n X e (MY P) fr H):Run cY uK w n env outer ow fr H (isTrue x env (eval x env)) P X:=(jS e).2 base ok x hc h
end
end
section
noncomputable def isStarred(e:Expr):Bool:=PySem.swappedStores.match_5 (fun zz=>Bool) e (fun zz zz=>true) fun zz=>false
noncomputable def sn(ns:List (Str×NameKind))(ln:Nat)(e:Expr):Option Str:=PySem.swappedStores.match_8 (fun zz=>Option Str) e (fun id pos=>if ns.lookup id==some NameKind.local&&pos.line==ln then some id else none) fun zz=>none
noncomputable def Vj(ns:List (Str×NameKind))(ts vs:List Expr)(xs:List Str):Bool:=
 (ts.length==2 || ts.length==3)&&vs.length==ts.length&& !(vs.any isStarred)&&
 (ts.filterMap (sn ns ((ts.head?.map (·.pos.line)).getD 0))==xs)&&xs.length==ts.length&&xs.eraseDups.length==xs.length&& !vs.all (foldedForSure 8)&& !vs.all (constantsAlone 8)
theorem swap_eq{env:Env}(ok:CL env){ts vs:List Expr}{xs:List Str}{x p y q}(h:Vj env.scope.names ts vs xs=true):swappedStores [.Tuple ts x p] (.Tuple vs y q) env=Pure.pure (some xs):=by
 unfold Vj at h;simp only[Bool.and_eq_true,Bool.not_eq_true',beq_iff_eq]at h;obtain⟨⟨⟨⟨⟨⟨⟨h1,h2⟩,h3⟩,h4⟩,h5⟩,h6⟩,h7⟩,h8⟩:=h;have bk:env.blockKind= .function:=by unfold Env.blockKind;rw[ok.kind];rfl
 unfold swappedStores;dsimp only;rw[if_neg (by rw[bk];simp[h1,h2])];rw[if_neg (c:=(vs.any _)=true) (by exact fun q=>Bool.false_ne_true (h3.symm.trans q))];have key:∀names:List Str,names=xs→(if(names.length != ts.length || names.eraseDups.length != names.length)=true then(Pure.pure none:Sem (Option (List Str)))else if vs.all (foldedForSure 8)=true then Pure.pure none else if vs.all (constantsAlone 8)=true then(do
   unsupported "assign.tuple-of-constant-expressions:order-of-the-stores"
   Pure.pure (some names))else Pure.pure (some names))=Pure.pure (some xs):=by
  rintro _ rfl;rw[if_neg (by simp[h5,h6]),if_neg (by simp[h7]),if_neg (by simp[h8])]
 exact key _ h4
noncomputable def i5(e:Expr):Bool:= !(decide (e.ctorIdx=24) || decide (e.ctorIdx=25))
theorem m8{env:Env}{ts:List Expr}{x p}{v:Expr}(h:i5 v=true):swappedStores [.Tuple ts x p] v env=Pure.pure none:=by
 cases v with
 |Tuple|List=>exact absurd h Bool.false_ne_true
 |_=>rfl
section
variable{cY:Heap}{uK:OsState}{w:World}{n:Nat}{X:AH→Prop}{A:Around}{Rk:Heap}{s:Shared}
variable{env:Env}{outer ow:List Env}{fr:dD}{H:AH}
theorem Run.wx(base:AG cY w)(ok:CL env){P:Flow→dD→AH→Prop}{ts vs:List Expr}{xs:List Str}{is:List Nat}{k1 k2:Nat}{p1 p2 pos:Pos}(hw:Vj env.scope.names ts vs xs=true)(hl:xs.length=is.length)
  (hx:∀p∈is.zip xs,env.scope.names[p.1]? =some (p.2,.local))
  (h:Run cY uK w n env outer ow fr H (eval (.Tuple vs k2 p2) env) (fun v fr H=>∃us,tq H (er v)=some (false,us)∧us.length=is.length∧P .next (dj is.reverse us.reverse fr) H) X):
  Run cY uK w n env outer ow fr H (exec (.Assign [.Tuple ts k1 p1] (.Tuple vs k2 p2) pos) env) P X:=by
 rw[arm_exec_Assign];have e1:swapsWithSole [.Tuple ts k1 p1] (.Tuple vs k2 p2) pos.line env=Pure.pure false:=rfl;rw[e1,swap_eq ok hw];refine .bind (.at (.bind (.pure ?_)));show Run cY uK w n env outer ow fr H (do
  let v←eval (.Tuple vs k2 p2) env
  assignStores env v (←(Pure.pure (some xs):Sem (Option (List Str)))) ((assignEach [.Tuple ts k1 p1] env).map (·.2))) P X
 refine .bind (h.im fun v fr H h=>h.elim fun us h=>.bind (.pure ?_));show Run cY uK w n env outer ow fr H (do
   PySem.rule "assign.swapped-stores"
   let items←unpackItems v xs.length none
   assignInOrder (xs.reverse.map fun n=>bindName env n) items.reverse
   Pure.pure Flow.next) P X
 refine .bind (.rule (.bind (t0 base h.1 (h.2.1.trans hl.symm) fun items e=>.bind (kj ok (is:=is.reverse) (List.length_reverse.trans (hl.trans List.length_reverse.symm)) (fun p hp=>hx p (List.mem_reverse.mp ?_)) ?_ (.pure ?_)))))
 ·rw[List.zip_eq_zipWith,List.reverse_zipWith hl.symm];exact hp
 ·exact List.length_reverse.trans ((List.length_map er).symm.trans ((R6T List.length e).trans (h.2.1.trans List.length_reverse.symm)))
 ·rw[List.map_reverse,e];exact h.2.2
theorem Run.pN(base:AG cY w)(ok:CL env){P:Flow→dD→AH→Prop}{ts:List Expr}{v:Expr}{xs:List Str}{is:List Nat}{k1:Nat}{p1 pos:Pos}(hc:xG v=true)(ht:i5 v=true)(hn:namesOf ts=some xs)(hl:xs.length=is.length)
  (hx:∀p∈is.zip xs,env.scope.names[p.1]? =some (p.2,.local))
  (h:Run cY uK w n env outer ow fr H (eval v env) (fun v fr H=>∃us,tq H (er v)=some (false,us)∧us.length=is.length∧P .next (dj is us fr) H) X):
  Run cY uK w n env outer ow fr H (exec (.Assign [.Tuple ts k1 p1] v pos) env) P X:=by
 exact .s1 hc rfl (m8 ht) (h.im fun v fr H h=>h.elim fun us h=>aF base ok h.1 hn hl hx h.2.1 h.2.2)
theorem Run.Zl{P:Flow→dD→AH→Prop}{o i e:Expr}{p pos:Pos}(hc:xG e=true)
  (h:Run cY uK w n env outer ow fr H (eval e env) (fun v fr H=>Run cY uK w n env outer ow fr H (eval o env) (fun ov fr H=>Run cY uK w n env outer ow fr H (eval i env) (fun iv fr H=>Run cY uK w n env outer ow fr H (setItem ov iv v) (fun zz fr H=>P .next fr H) X) X) X) X):
  Run cY uK w n env outer ow fr H (exec (.Assign [.Subscript o i p] e pos) env) P X:=by
 refine .s1 hc rfl (by cases e<;>rfl) (h.im fun v fr H h=>?_);rw[arm_assign_Subscript];exact .bind (.holding (h.im fun ov fr H h=>.bind (.holding (h.im fun iv fr H h=>.bind (.at (.bind (.holding (h.im fun zz fr H h=>vq h))))))))
theorem ma{P:Value→dD→AH→Prop}{op:Operator}{x y u:Value}(hu:cU op (er x) (er y)=some u)(h:∀v,er v=u→P v fr H):
  Run cY uK w n env outer ow fr H (inplaceOp op x y) P X:=fun A Rk s hs=>
 Qi hu (fun q hu=>q▸jI (C:=fun x y=>wpAny (model Hd.pw w) A (inplaceOp .Add x y) _ _ s) hu fun zz zz zz zz e=>AutoIntOps.iadd_0 ⟨fr,H,.tok hs _,h _ (Y1l e)⟩)
  fun hu=>tc hu fun q hu=>q▸jI (C:=fun x y=>wpAny (model Hd.pw w) A (inplaceOp .Sub x y) _ _ s) hu fun zz zz zz zz e=>AutoIntOps.isub_0 ⟨fr,H,.tok hs _,h _ (Y1l e)⟩
end
end
section
noncomputable def C4(ns:List (Str×NameKind))(is:List Nat)(xs:List Str):Bool:=xs.length==is.length&&(is.zip xs).all fun p=>ns[p.1]? ==some (p.2,NameKind.local)
theorem dn{ns is xs}(h:C4 ns is xs=true):xs.length=is.length∧∀p∈is.zip xs,ns[p.1]? =some (p.2,NameKind.local):=
 a2 h fun h1 h2=>⟨eq_of_beq h1,fun p hp=>eq_of_beq (List.all_eq_true.mp h2 p hp)⟩
noncomputable def Vq(e:E):Bool:=decide (e.ctorIdx=17) || decide (e.ctorIdx=18)
@[elab_as_elim]theorem Wd{C:E→Prop}{e:E}(h:Vq e=true)(f:∀a b t fv,C (.comp a b t fv))(g:∀a b t fv,C (.qD a b t fv)):C e:=
 (Bool.or_eq_true_iff.mp h).elim (fun h=>E.comp.elim (motive_1:=C) e (of_decide_eq_true h) f) fun h=>E.qD.elim (motive_1:=C) e (of_decide_eq_true h) g
noncomputable def He(x:Stmt)(k:Option Expr→Bool):Bool:=gd (x.ctorIdx=3) fun q=>Stmt.Return.elim (motive_2:=fun zz=>Bool) x q fun a zz=>k a
@[elab_as_elim]theorem BZ{C:Stmt→Prop}{x k}(h:He x k=true)(f:∀a p,k a=true→C (.Return a p)):C x:=
 yj h fun q h=>Stmt.Return.elim (motive_2:=fun x=>∀q,Stmt.Return.elim (motive_2:=fun zz=>Bool) x q (fun a zz=>k a)=true→C x) x q (fun a p zz h=>f a p h) q h
noncomputable def qK(x:Stmt)(k:Expr→Expr→Bool):Bool:=gd (x.ctorIdx=5) fun q=>Stmt.Assign.elim (motive_2:=fun zz=>Bool) x q fun ts v zz=>MR ts fun t=>k t v
@[elab_as_elim]theorem wo{C:Stmt→Prop}{x k}(h:qK x k=true)(f:∀t v p,k t v=true→C (.Assign [t] v p)):C x:=
 yj h fun q h=>Stmt.Assign.elim (motive_2:=fun x=>∀q,Stmt.Assign.elim (motive_2:=fun zz=>Bool) x q (fun ts v zz=>MR ts fun t=>k t v)=true→C x) x q (fun ts v p zz h=>V2 (C:=fun ts=>C (.Assign ts v p)) h fun t h=>f t v p h) q h
noncomputable def Ta(x:Stmt)(k:Expr→Operator→Expr→Bool):Bool:=gd (x.ctorIdx=7) fun q=>Stmt.AugAssign.elim (motive_2:=fun zz=>Bool) x q fun t o v zz=>k t o v
@[elab_as_elim]theorem sg{C:Stmt→Prop}{x k}(h:Ta x k=true)(f:∀t o v p,k t o v=true→C (.AugAssign t o v p)):C x:=
 yj h fun q h=>Stmt.AugAssign.elim (motive_2:=fun x=>∀q,Stmt.AugAssign.elim (motive_2:=fun zz=>Bool) x q (fun t o v zz=>k t o v)=true→C x) x q (fun t o v p zz h=>f t o v p h) q h
noncomputable def u9(x:Stmt)(k:Expr→Expr→List Stmt→Bool):Bool:=gd (x.ctorIdx=9) fun q=>Stmt.For.elim (motive_2:=fun zz=>Bool) x q fun t i b o zz=>PW o (k t i b)
@[elab_as_elim]theorem ru{C:Stmt→Prop}{x k}(h:u9 x k=true)(f:∀t i b p,k t i b=true→C (.For t i b [] p)):C x:=
 yj h fun q h=>Stmt.For.elim (motive_2:=fun x=>∀q,Stmt.For.elim (motive_2:=fun zz=>Bool) x q (fun t i b o zz=>PW o (k t i b))=true→C x) x q (fun t i b o p zz h=>vp (C:=fun o=>C (.For t i b o p)) h (f t i b p)) q h
noncomputable def E5(x:Stmt)(k:Expr→List Stmt→Bool):Bool:=gd (x.ctorIdx=11) fun q=>Stmt.While.elim (motive_2:=fun zz=>Bool) x q fun t b o zz=>PW o (k t b)
@[elab_as_elim]theorem yT{C:Stmt→Prop}{x k}(h:E5 x k=true)(f:∀t b p,k t b=true→C (.While t b [] p)):C x:=
 yj h fun q h=>Stmt.While.elim (motive_2:=fun x=>∀q,Stmt.While.elim (motive_2:=fun zz=>Bool) x q (fun t b o zz=>PW o (k t b))=true→C x) x q (fun t b o p zz h=>vp (C:=fun o=>C (.While t b o p)) h (f t b p)) q h
noncomputable def HO(x:Stmt)(k:Expr→List Stmt→List Stmt→Bool):Bool:=gd (x.ctorIdx=12) fun q=>Stmt.If.elim (motive_2:=fun zz=>Bool) x q fun t a b zz=>k t a b
@[elab_as_elim]theorem V9{C:Stmt→Prop}{x k}(h:HO x k=true)(f:∀t a b p,k t a b=true→C (.If t a b p)):C x:=
 yj h fun q h=>Stmt.If.elim (motive_2:=fun x=>∀q,Stmt.If.elim (motive_2:=fun zz=>Bool) x q (fun t a b zz=>k t a b)=true→C x) x q (fun t a b p zz h=>f t a b p h) q h
noncomputable def YA(x:Stmt)(k:Expr→Bool):Bool:=gd (x.ctorIdx=24) fun q=>Stmt.Expr.elim (motive_2:=fun zz=>Bool) x q fun v zz=>k v
@[elab_as_elim]theorem Vc{C:Stmt→Prop}{x k}(h:YA x k=true)(f:∀v p,k v=true→C (.Expr v p)):C x:=
 yj h fun q h=>Stmt.Expr.elim (motive_2:=fun x=>∀q,Stmt.Expr.elim (motive_2:=fun zz=>Bool) x q (fun v zz=>k v)=true→C x) x q (fun v p zz h=>f v p h) q h
noncomputable def Mi(x:Stmt)(k:List Stmt→List ExceptHandler→Bool):Bool:=gd (x.ctorIdx=17) fun q=>Stmt.Try.elim (motive_2:=fun zz=>Bool) x q fun b hs o f zz=>PW o (PW f (k b hs))
@[elab_as_elim]theorem MQ{C:Stmt→Prop}{x k}(h:Mi x k=true)(f:∀b hs p,k b hs=true→C (.Try b hs [] [] p)):C x:=
 yj h fun q h=>Stmt.Try.elim (motive_2:=fun x=>∀q,Stmt.Try.elim (motive_2:=fun zz=>Bool) x q (fun b hs o f zz=>PW o (PW f (k b hs)))=true→C x) x q (fun b hs o g p zz h=>vp (C:=fun o=>C (.Try b hs o g p)) h fun h=>vp (C:=fun g=>C (.Try b hs [] g p)) h (f b hs p)) q h
noncomputable def Um(x:ExceptHandler)(k:Str→Bool):Bool:=@ExceptHandler.casesOn (fun zz=>Bool) x fun ty nm body zz=>Yv ty fun t=>aName t fun y=>zY nm (MR body fun s=>He s fun v=>Yv v fun e=>Ym e fun c=>(c== .none)&&k y)
@[elab_as_elim]theorem Lj{C:ExceptHandler→Prop}{x k}(h:Um x k=true)(f:∀y np m1 rp GC hp,k y=true→C (.ExceptHandler (some (.Name y np)) none [.Return (some (.Constant .none m1 rp)) GC] hp)):C x:=by
 obtain⟨ty,nm,body,hp⟩:=x;exact Q6 (C:=fun ty=>C (.ExceptHandler ty nm body hp)) h fun t h=>Vi (C:=fun t=>C (.ExceptHandler (some t) nm body hp)) h fun y np h=>kR (C:=fun nm=>C (.ExceptHandler (some (.Name y np)) nm body hp)) h fun h=>
  V2 (C:=fun body=>C (.ExceptHandler (some (.Name y np)) none body hp)) h fun s h=>BZ (C:=fun s=>C (.ExceptHandler (some (.Name y np)) none [s] hp)) h fun v GC h=>Q6 (C:=fun v=>C (.ExceptHandler (some (.Name y np)) none [.Return v GC] hp)) h fun e h=>
  ZP (C:=fun e=>C (.ExceptHandler (some (.Name y np)) none [.Return (some e) GC] hp)) h fun c m1 rp h=>a2 h fun h1 h2=>yJ (C:=fun c=>C (.ExceptHandler (some (.Name y np)) none [.Return (some (.Constant c m1 rp)) GC] hp)) h1 (f y np m1 rp GC hp h2)
noncomputable def lo(ns:Ns1)(i:Nat)(x:Str):Bool:=ns[i]? ==some (x,NameKind.local)
noncomputable def jD(ns:Ns1):S→List Stmt→Bool
 | .nil,st=>PW st true
 | .ret e,st=>MR st fun s=>He s fun v=>Yv v fun x=>Mt ns e x
 | .fK,st=>MR st fun s=>He s fun v=>zY v true
 | .brk,st=>MR st fun s=>decide (s.ctorIdx=26)
 | .cont,st=>MR st fun s=>decide (s.ctorIdx=27)
 | .Tw i e r,st=>ZX st fun s t=>qK s fun x v=>aName x fun y=>lo ns i y&&((xG v || Vq e)&&(Mt ns e v&&jD ns r t))
 | .ol sw is e r,st=>ZX st fun s t=>qK s fun x v=>Cu x fun ts=>Yv (namesOf ts) fun xs=>C4 ns is xs&&(Mt ns e v&&(jD ns r t&&bif sw then Cu v fun vs=>Vj ns ts vs xs else xG v&&i5 v))
 | .RY o f e r,st=>ZX st fun s t=>qK s fun x v=>pY x fun oe a zz=>a==nm f&&(xG v&&(Mt ns e v&&(Mt ns o oe&&jD ns r t)))
 | .V5 o f op e r,st=>ZX st fun s t=>Ta s fun x XY v=>pY x fun oe a zz=>a==nm f&&(decide (op=XY)&&(Mt ns o oe&&(Mt ns e v&&jD ns r t)))
 | .qs o i e r,st=>ZX st fun s t=>qK s fun x v=>aSub x fun oe ie=>xG v&&(Mt ns e v&&(Mt ns o oe&&(Mt ns i ie&&jD ns r t)))
 | .expr e r,st=>ZX st fun s t=>YA s fun v=>xG v&&(Mt ns e v&&jD ns r t)
 | .ite c a b r,st=>ZX st fun s t=>HO s fun x u v=>Mt ns c x&&(jD ns a u&&(jD ns b v&&jD ns r t))
 | .Wl c b r,st=>ZX st fun s t=>E5 s fun x u=>Mt ns c x&&(jD ns b u&&jD ns r t)
 | .zl i it b r,st=>ZX st fun s t=>u9 s fun x z u=>aName x fun y=>lo ns i y&&(zk z&&(Mt ns it z&&(jD ns b u&&jD ns r t)))
 | .XM is it b r,st=>ZX st fun s t=>u9 s fun x z u=>Cu x fun ts=>Yv (namesOf ts) fun xs=>C4 ns is xs&&(zk z&&(Mt ns it z&&(jD ns b u&&jD ns r t)))
 | .GD i hi b r,st=>ZX st fun s t=>u9 s fun x z u=>aName x fun y=>Nr z fun g as=>MR as fun h=>lo ns i y&&(glob ns g (.type "range")&&(notStar h&&(Mt ns hi h&&(jD ns b u&&jD ns r t))))
 | .gM i l hi b r,st=>ZX st fun s t=>u9 s fun x z u=>aName x fun y=>Nr z fun g as=>ZE as fun k h=>lo ns i y&&(glob ns g (.type "range")&&(notStar k&&(notStar h&&(Mt ns l k&&(Mt ns hi h&&(jD ns b u&&jD ns r t))))))
 | .zX is it b r,st=>ZX st fun s t=>u9 s fun x z u=>Cu x fun ts=>Yv (namesOf ts) fun xs=>Nr z fun g as=>MR as fun h=>decide (is.length=2)&&(C4 ns is xs&&(glob ns g (.type "enumerate")&&(notStar h&&(Mt ns it h&&(jD ns b u&&jD ns r t)))))
 | .AR i e j e' r,st=>ZX st fun s t=>Mi s fun b hs=>MR hs fun hd=>Um hd fun y=>ZE b fun b1 b2=>qK b1 fun x1 v1=>qK b2 fun x2 v2=>aName x1 fun y1=>aName x2 fun y2=>
   (y==("SyntaxFail":Str)&&(ns.lookup ("SyntaxFail":Str)==some NameKind.globalImplicit))&&(lo ns i y1&&(lo ns j y2&&(xG v1&&(xG v2&&(Mt ns e v1&&(Mt ns e' v2&&jD ns r t))))))
 | .dead,_=>true
section
variable{C:List Stmt→Prop}{ns:Ns1}{st:List Stmt}
@[elab_as_elim]theorem Gu{e}(h:jD ns (.ret e) st=true)(g:∀x p,Mt ns e x=true→C [.Return (some x) p]):C st:=
 V2 h fun s h=>BZ (C:=fun s=>C [s]) h fun v p h=>Q6 (C:=fun v=>C [.Return v p]) h fun x h=>g x p h
@[elab_as_elim]theorem VG(h:jD ns .fK st=true)(g:∀p,C [.Return none p]):C st:=
 V2 h fun s h=>BZ (C:=fun s=>C [s]) h fun v p h=>kR (C:=fun v=>C [.Return v p]) h fun zz=>g p
@[elab_as_elim]theorem HV(h:jD ns .brk st=true)(g:∀p,C [.Break p]):C st:=
 V2 h fun s h=>Stmt.Break.elim (motive_2:=fun s=>C [s]) s (of_decide_eq_true h) g
@[elab_as_elim]theorem f8(h:jD ns .cont st=true)(g:∀p,C [.Continue p]):C st:=
 V2 h fun s h=>Stmt.Continue.elim (motive_2:=fun s=>C [s]) s (of_decide_eq_true h) g
@[elab_as_elim]theorem Sv{i e r}(h:jD ns (.Tw i e r) st=true)(g:∀x p v q t,ns[i]? =some (x,NameKind.local)→(xG v || Vq e)=true→Mt ns e v=true→jD ns r t=true→C (.Assign [.Name x p] v q::t)):C st:=
 Vu h fun s t h=>wo (C:=fun s=>C (s::t)) h fun x v q h=>Vi (C:=fun x=>C (.Assign [x] v q::t)) h fun y p h=>a4 h fun h1=>g y p v q t (eq_of_beq h1)
@[elab_as_elim]theorem XJ{is e r}(h:jD ns (.ol true is e r) st=true)(g:∀ts k1 p1 vs k p q t xs,Vj ns ts vs xs=true→C4 ns is xs=true→Mt ns e (.Tuple vs k p)=true→jD ns r t=true→C (.Assign [.Tuple ts k1 p1] (.Tuple vs k p) q::t)):C st:=
 Vu h fun s t h=>wo (C:=fun s=>C (s::t)) h fun x v q h=>UL (C:=fun x=>C (.Assign [x] v q::t)) h fun ts k1 p1 h=>Q6 (C:=fun zz=>C (.Assign [.Tuple ts k1 p1] v q::t)) h fun xs h=>a4 h fun h1 h2 h3 h4=>
  UL (C:=fun v=>Mt ns e v=true→C (.Assign [.Tuple ts k1 p1] v q::t)) h4 (fun vs k p h4 h2=>g ts k1 p1 vs k p q t xs h4 h1 h2 h3) h2
@[elab_as_elim]theorem rq{is e r}(h:jD ns (.ol false is e r) st=true)(g:∀ts k1 p1 v q t xs,namesOf ts=some xs→C4 ns is xs=true→xG v=true→i5 v=true→Mt ns e v=true→jD ns r t=true→C (.Assign [.Tuple ts k1 p1] v q::t)):C st:=
 Vu h fun s t h=>wo (C:=fun s=>C (s::t)) h fun x v q h=>UL (C:=fun x=>C (.Assign [x] v q::t)) h fun ts k1 p1 h=>Q6 (C:=fun o=>namesOf ts=o→C (.Assign [.Tuple ts k1 p1] v q::t)) h (fun xs h e=>a4 h fun h1 h2 h3 h4=>a2 h4 fun h4 h5=>g ts k1 p1 v q t xs e h1 h4 h5 h2 h3) rfl
@[elab_as_elim]theorem b8{o f e r}(h:jD ns (.RY o f e r) st=true)(g:∀oe p v q t,xG v=true→Mt ns e v=true→Mt ns o oe=true→jD ns r t=true→C (.Assign [.Attribute oe (nm f) p] v q::t)):C st:=
 Vu h fun s t h=>wo (C:=fun s=>C (s::t)) h fun x v q h=>GU (C:=fun x=>C (.Assign [x] v q::t)) h fun oe a p h=>a5 h fun h1 h2 h3 h4 h5=>yJ (C:=fun a=>C (.Assign [.Attribute oe a p] v q::t)) h1 (g oe p v q t h2 h3 h4 h5)
@[elab_as_elim]theorem Bi{o f op e r}(h:jD ns (.V5 o f op e r) st=true)(g:∀oe p v q t,Mt ns o oe=true→Mt ns e v=true→jD ns r t=true→C (.AugAssign (.Attribute oe (nm f) p) op v q::t)):C st:=
 Vu h fun s t h=>sg (C:=fun s=>C (s::t)) h fun x o' v q h=>GU (C:=fun x=>C (.AugAssign x o' v q::t)) h fun oe a p h=>a5 h fun h1 h2 h3 h4 h5=>yJ (C:=fun a=>C (.AugAssign (.Attribute oe a p) o' v q::t)) h1 (YE (C:=fun o'=>C (.AugAssign (.Attribute oe (nm f) p) o' v q::t)) h2 (g oe p v q t h3 h4 h5))
@[elab_as_elim]theorem Ls{o i e r}(h:jD ns (.qs o i e r) st=true)(g:∀oe ie p v q t,xG v=true→Mt ns e v=true→Mt ns o oe=true→Mt ns i ie=true→jD ns r t=true→C (.Assign [.Subscript oe ie p] v q::t)):C st:=
 Vu h fun s t h=>wo (C:=fun s=>C (s::t)) h fun x v q h=>rZ (C:=fun x=>C (.Assign [x] v q::t)) h fun oe ie p h=>a5 h (g oe ie p v q t)
@[elab_as_elim]theorem FR{e r}(h:jD ns (.expr e r) st=true)(g:∀v q t,xG v=true→Mt ns e v=true→jD ns r t=true→C (.Expr v q::t)):C st:=
 Vu h fun s t h=>Vc (C:=fun s=>C (s::t)) h fun v q h=>a3 h (g v q t)
@[elab_as_elim]theorem vB{c a b r}(h:jD ns (.ite c a b r) st=true)(g:∀x u v q t,Mt ns c x=true→jD ns a u=true→jD ns b v=true→jD ns r t=true→C (.If x u v q::t)):C st:=
 Vu h fun s t h=>V9 (C:=fun s=>C (s::t)) h fun x u v q h=>a4 h (g x u v q t)
@[elab_as_elim]theorem i7{c b r}(h:jD ns (.Wl c b r) st=true)(g:∀x u q t,Mt ns c x=true→jD ns b u=true→jD ns r t=true→C (.While x u [] q::t)):C st:=
 Vu h fun s t h=>yT (C:=fun s=>C (s::t)) h fun x u q h=>a3 h (g x u q t)
@[elab_as_elim]theorem rL{i it b r}(h:jD ns (.zl i it b r) st=true)(g:∀x p z u q t,ns[i]? =some (x,NameKind.local)→zk z=true→Mt ns it z=true→jD ns b u=true→jD ns r t=true→C (.For (.Name x p) z u [] q::t)):C st:=
 Vu h fun s t h=>ru (C:=fun s=>C (s::t)) h fun x z u q h=>Vi (C:=fun x=>C (.For x z u [] q::t)) h fun y p h=>a5 h fun h1=>g y p z u q t (eq_of_beq h1)
@[elab_as_elim]theorem On{is it b r}(h:jD ns (.XM is it b r) st=true)(g:∀ts k p z u q t xs,namesOf ts=some xs→C4 ns is xs=true→zk z=true→Mt ns it z=true→jD ns b u=true→jD ns r t=true→C (.For (.Tuple ts k p) z u [] q::t)):C st:=
 Vu h fun s t h=>ru (C:=fun s=>C (s::t)) h fun x z u q h=>UL (C:=fun x=>C (.For x z u [] q::t)) h fun ts k p h=>Q6 (C:=fun o=>namesOf ts=o→C (.For (.Tuple ts k p) z u [] q::t)) h (fun xs h e=>a5 h (g ts k p z u q t xs e)) rfl
@[elab_as_elim]theorem FL{i hi b r}(h:jD ns (.GD i hi b r) st=true)(g:∀x p y py ha cp u q t,ns[i]? =some (x,NameKind.local)→glob ns y (.type "range")=true→notStar ha=true→Mt ns hi ha=true→jD ns b u=true→jD ns r t=true→C (.For (.Name x p) (.Call (.Name y py) [ha] [] cp) u [] q::t)):C st:=
 Vu h fun s t h=>ru (C:=fun s=>C (s::t)) h fun x z u q h=>Vi (C:=fun x=>C (.For x z u [] q::t)) h fun x p h=>eA (C:=fun z=>C (.For (.Name x p) z u [] q::t)) h fun y py as cp h=>V2 (C:=fun as=>C (.For (.Name x p) (.Call (.Name y py) as [] cp) u [] q::t)) h fun ha h=>a6 h fun h1=>g x p y py ha cp u q t (eq_of_beq h1)
@[elab_as_elim]theorem U8{i l hi b r}(h:jD ns (.gM i l hi b r) st=true)(g:∀x p y py la ha cp u q t,ns[i]? =some (x,NameKind.local)→glob ns y (.type "range")=true→notStar la=true→notStar ha=true→Mt ns l la=true→Mt ns hi ha=true→jD ns b u=true→jD ns r t=true→C (.For (.Name x p) (.Call (.Name y py) [la,ha] [] cp) u [] q::t)):C st:=
 Vu h fun s t h=>ru (C:=fun s=>C (s::t)) h fun x z u q h=>Vi (C:=fun x=>C (.For x z u [] q::t)) h fun x p h=>eA (C:=fun z=>C (.For (.Name x p) z u [] q::t)) h fun y py as cp h=>SR (C:=fun as=>C (.For (.Name x p) (.Call (.Name y py) as [] cp) u [] q::t)) h fun la ha h=>a8 h fun h1=>g x p y py la ha cp u q t (eq_of_beq h1)
@[elab_as_elim]theorem Ix{is it b r}(h:jD ns (.zX is it b r) st=true)(g:∀ts k p y py ha cp u q t xs,namesOf ts=some xs→is.length=2→C4 ns is xs=true→glob ns y (.type "enumerate")=true→notStar ha=true→Mt ns it ha=true→jD ns b u=true→jD ns r t=true→C (.For (.Tuple ts k p) (.Call (.Name y py) [ha] [] cp) u [] q::t)):C st:=
 Vu h fun s t h=>ru (C:=fun s=>C (s::t)) h fun x z u q h=>UL (C:=fun x=>C (.For x z u [] q::t)) h fun ts k p h=>Q6 (C:=fun o=>namesOf ts=o→C (.For (.Tuple ts k p) z u [] q::t)) h (fun xs h e=>eA (C:=fun z=>C (.For (.Tuple ts k p) z u [] q::t)) h fun y py as cp h=>V2 (C:=fun as=>C (.For (.Tuple ts k p) (.Call (.Name y py) as [] cp) u [] q::t)) h fun ha h=>a7 h fun h1=>g ts k p y py ha cp u q t xs e (of_decide_eq_true h1)) rfl
@[elab_as_elim]theorem pS{i e j e' r}(h:jD ns (.AR i e j e' r) st=true)(g:∀x1 p1 v1 q1 x2 p2 v2 q2 np m1 rp GC hp pos l,ns.lookup ("SyntaxFail":Str)=some NameKind.globalImplicit→ns[i]? =some (x1,NameKind.local)→ns[j]? =some (x2,NameKind.local)→xG v1=true→xG v2=true→Mt ns e v1=true→Mt ns e' v2=true→jD ns r l=true→
  C (.Try [.Assign [.Name x1 p1] v1 q1,.Assign [.Name x2 p2] v2 q2] [.ExceptHandler (some (.Name ("SyntaxFail":Str) np)) none [.Return (some (.Constant .none m1 rp)) GC] hp] [] [] pos::l)):C st:=
 Vu h fun s l h=>MQ (C:=fun s=>C (s::l)) h fun b hs pos h=>V2 (C:=fun hs=>C (.Try b hs [] [] pos::l)) h fun hd h=>Lj (C:=fun hd=>C (.Try b [hd] [] [] pos::l)) h fun y np m1 rp GC hp h=>SR (C:=fun b=>C (.Try b [.ExceptHandler (some (.Name y np)) none [.Return (some (.Constant .none m1 rp)) GC] hp] [] [] pos::l)) h fun b1 b2 h=>
  wo (C:=fun b1=>C (.Try [b1,b2] [.ExceptHandler (some (.Name y np)) none [.Return (some (.Constant .none m1 rp)) GC] hp] [] [] pos::l)) h fun x1 v1 q1 h=>wo (C:=fun b2=>C (.Try [.Assign [x1] v1 q1,b2] [.ExceptHandler (some (.Name y np)) none [.Return (some (.Constant .none m1 rp)) GC] hp] [] [] pos::l)) h fun x2 v2 q2 h=>
  Vi (C:=fun x1=>C (.Try [.Assign [x1] v1 q1,.Assign [x2] v2 q2] [.ExceptHandler (some (.Name y np)) none [.Return (some (.Constant .none m1 rp)) GC] hp] [] [] pos::l)) h fun x1 p1 h=>Vi (C:=fun x2=>C (.Try [.Assign [.Name x1 p1] v1 q1,.Assign [x2] v2 q2] [.ExceptHandler (some (.Name y np)) none [.Return (some (.Constant .none m1 rp)) GC] hp] [] [] pos::l)) h fun x2 p2 h=>
  a8 h fun h0 h1 h2 h3 h4 h5 h6 h7=>a2 h0 fun h8 h9=>yJ (C:=fun y=>C (.Try [.Assign [.Name x1 p1] v1 q1,.Assign [.Name x2 p2] v2 q2] [.ExceptHandler (some (.Name y np)) none [.Return (some (.Constant .none m1 rp)) GC] hp] [] [] pos::l)) h8 (g x1 p1 v1 q1 x2 p2 v2 q2 np m1 rp GC hp pos l (eq_of_beq h9) (eq_of_beq h1) (eq_of_beq h2) h3 h4 h5 h6 h7)
end
end
section
theorem Dy{env:Env}(ok:CL env):interactive env=false:=by unfold interactive;rw[ok.kind];rfl
section
variable{cY:Heap}{uK:OsState}{w:World}{n:Nat}{X:AH→Prop}
theorem MO{A:Around}{s:Shared}{x:Str}{p:Pos}{it v:Value}{Q:Unit→Shared→Prop}{E:Value→Shared→Prop}(h:Q () s):wpAny (model Hd.pw w) A (letOwnedTupleGo (.Name x p) it v) Q E s:=wpAny_pure h
theorem Hp{A:Around}{s:Shared}{ts:List Expr}{k:Nat}{p:Pos}{it:Addr}{i:Nat}{v VF:Value}{Q:Unit→Shared→Prop}{E:Value→Shared→Prop}(hi:pc s.heap it (.val 1 VF) i)(h:Q () s):
  wpAny (model Hd.pw w) A (letOwnedTupleGo (.Tuple ts k p) (.ref it) v) Q E s:=by
 cases hi with
 |list a ne=>
  cases v<;>first|exact wpAny_letOwnedTupleGo_listiter a h|exact wpAny_pure h
theorem IA{α:Type}{x:Option α}{k:α→Prop}{G:Prop}(h:x.elim False k)(g:∀a,x=some a→k a→G):G:=by
 cases x with
 |none=>exact h.elim
 |some a=>exact g a rfl h
theorem Ez{P:Unit→dD→AH→Prop}{Q:KF}{r:S}{ov u:Value}{f:Fn}{fr H}(g:∀fr H,wpS cY uK w n X r Q fr H→P () fr H)(h:U0 f (er u) (wpS cY uK w n X r) Q (er ov) fr H){env:Env}{outer ow:List Env}(base:AG cY w):Run cY uK w n env outer ow fr H (setAttr ov (nm f) u) P X:=IA h fun H' hs h=>run_set base hs (g _ _ h)
theorem Wu{P:Unit→dD→AH→Prop}{Q:KF}{r:S}{op:Operator}{ov old v:Value}{f:Fn}{fr H}(g:∀fr H,wpS cY uK w n X r Q fr H→P () fr H)(h:E0 (er ov) (er old) f op (wpS cY uK w n X r) Q (er v) fr H){env:Env}{outer ow:List Env}(base:AG cY w):
  Run cY uK w n env outer ow fr H (inplaceOp op old v) (fun u fr H=>Run cY uK w n env outer ow fr H (setAttr ov (nm f) u) P X) X:=IA h fun u hu h=>ma hu fun v e=>Ez g (e▸h) base
variable{env:Env}{outer:List Env}
noncomputable abbrev M6(cY:Heap)(uK:OsState)(w:World)(n:Nat)(X:AH→Prop)(env:Env)(outer:List Env)(t:List Stmt)(Q:KF)(fr:dD)(H:AH):Prop:=Run cY uK w n env outer (env::outer) fr H (execs t env) (fun fl fr H=>Q (xC fl) fr H) X
structure Ev(cY:Heap)(w:World)(env:Env):Prop where
 base:AG cY w
 ok:CL env
 hf:env.frame=some env.locals
def SS(cY:Heap)(uK:OsState)(w:World)(n:Nat)(X:AH→Prop)(env:Env)(outer:List Env)(c:S):Prop:=∀st,jD env.scope.names c st=true→∀{Q:KF}{fr H},wpS cY uK w n X c Q fr H→M6 cY uK w n X env outer st Q fr H
variable{c a b r:S}{e it:E}{i:Nat}{is:List Nat}{Q:KF}
noncomputable abbrev PN(cY:Heap)(uK:OsState)(w:World)(n:Nat)(X:AH→Prop)(env:Env)(outer:List Env)(t:List Stmt)(Q:KF):Flow→dD→AH→Prop:=gW (fun fr H=>Run cY uK w n env outer (env::outer) fr H (execs t env) (fun fl fr H=>Q (xC fl) fr H) X) fun f=>Q (xC f)
theorem CE{I:Nat→dD→AH→Prop}{k:Nat}{t:List Stmt}(hc:jD env.scope.names r t=true)(ir:SS cY uK w n X env outer r)(f:Flow)(fr:dD)(H:AH):Qw I k (wpS cY uK w n X r) Q (xC f) fr H→vk (I (k+1)) (PN cY uK w n X env outer t Q) f fr H:=by
 cases f with
 |next|cont|ret=>exact id
 |brk=>exact ir t hc
theorem w0{I:Nat→dD→AH→Prop}{k:Nat}{t:List Stmt}(hc:jD env.scope.names r t=true)(ir:SS cY uK w n X env outer r)(f:Flow)(fr:dD)(H:AH):Oq I k (wpS cY uK w n X r) Q (xC f) fr H→vk (fun fr H=>∃m,m<k∧I m fr H) (PN cY uK w n X env outer t Q) f fr H:=by
 cases f with
 |next|cont|ret=>exact id
 |brk=>exact ir t hc
theorem IJ{t:List Stmt}(hc:jD env.scope.names r t=true)(ir:SS cY uK w n X env outer r)(f:Flow)(fr:dD)(H:AH)(h:HI (wpS cY uK w n X r) Q (xC f) fr H):PN cY uK w n X env outer t Q f fr H:=by
 cases f with
 |next=>exact ir t hc h
 |_=>exact h
theorem k9{sw:Bool}{v:Value}{fr H}{G:Prop}(h:WL sw is (wpS cY uK w n X r) Q v fr H)(g:∀us,tq H v=some (false,us)→us.length=is.length→wpS cY uK w n X r Q (if sw then dj is.reverse us.reverse fr else dj is us fr) H→G):G:=by
 unfold WL at h;rcases hq:tq H v with _|⟨_|_,us⟩<;>rw[hq]at h
 ·exact h.elim
 ·exact g us hq h.1 h.2
 ·exact h.elim
section
variable(v:Ev cY w env)
include v
theorem uj:SS cY uK w n X env outer .nil:=fun st hc Q fr H h=>vp hc fun zz=>.Iz h
theorem lQ:SS cY uK w n X env outer (.ret e):=fun st hc Q fr H h=>Gu hc fun x p c=>.aq (.B1 (Tj v.base v.ok e x c h))
theorem yE:SS cY uK w n X env outer .fK:=fun st hc Q fr H h=>VG hc fun p=>.aq (.qp h)
theorem lD:SS cY uK w n X env outer .brk:=fun st hc Q fr H h=>HV hc fun p=>.aq (.L4 h)
theorem BV:SS cY uK w n X env outer .cont:=fun st hc Q fr H h=>f8 hc fun p=>.aq (.xK h)
theorem TQ{x:Str}{p q:Pos}{z:Expr}{t:List Stmt}(hx:env.scope.names[i]? =some (x,NameKind.local))(he:Vq e=true)(ir:SS cY uK w n X env outer r)(hr:jD env.scope.names r t=true){fr H}:
  Mt env.scope.names e z=true→wpS cY uK w n X (.Tw i e r) Q fr H→M6 cY uK w n X env outer (.Assign [.Name x p] z q::t) Q fr H:=by
 refine Wd he (fun elt it tt fv hc=>pn hc fun e y py iter scope pos d1 d2 d3 d4 h=>?_) fun elt hi tt fv hc=>S5 hc fun e y py rx rp ha Ur scope pos d1 d2 d2' d3 d4 h=>?_
 ·refine .aq (Run.kA v.base v.ok d1 h.2.1 d2 h.1 hx (ML.val v.base ((Tj v.base v.ok it _ d3 h.2.2).im fun u gu H=>.imp fun kd=>.imp fun items=>.imp_right fun h=>h.2.imp fun I z=>⟨⟨h.1,z.2.1,fun k x acc Dw hx hI C cl Re=>?_⟩,z.1,fun acc Dw hI D hD=>.Rh v.base fun c=>ir t hr (z.2.2.2 acc Dw hI D hD c)⟩)));exact Tj v.base (VY v.ok (sP d1)) elt _ ((g6 v.ok (scope:=scope)).symm▸d4) (z.2.2.1 k x acc Dw hx hI)
 ·refine .aq (Run.kA v.base v.ok d1 h.2.1 rfl h.1 hx (ML.A1 v.base v.ok d2 d2' ((Tj v.base v.ok hi _ d3 h.2.2).im fun u gu H=>.imp fun m=>.imp_right fun h=>⟨h.1,h.2.imp fun I z=>⟨⟨VH.symm▸h.1,fun k acc H q=>⟨rfl,z.2.1 k acc H q⟩,fun k x acc Dw hx hI C cl Re=>?_⟩,z.1,fun acc Dw hI D hD=>.Rh v.base fun c=>ir t hr (z.2.2.2 acc Dw (VH (m:=m)▸hI) D hD c)⟩⟩)));exact Tj v.base (VY v.ok (sP d1)) elt _ ((g6 v.ok (scope:=scope)).symm▸d4) (z.2.2.1 k x acc Dw hx hI)
theorem vw(ir:SS cY uK w n X env outer r):SS cY uK w n X env outer (.Tw i e r):=fun st hc Q fr H h=>by
 refine Sv hc fun x p z q t c1 c2 c3 c4=>?_;cases hn:xG z with
 |true=>exact .aq (.kx v.ok c1 hn ((Tj v.base v.ok e z c3 h).im fun v fr H h=>ir t c4 h))
 |false=>exact TQ v c1 (by rwa[hn]at c2) ir c4 c3 h
theorem ql{sw:Bool}(ir:SS cY uK w n X env outer r):SS cY uK w n X env outer (.ol sw is e r):=fun st hc Q fr H h=>by
 cases sw with
 |true=>
  refine XJ hc fun ts k1 p1 vs k p q t xs c1 c2 c3 c4=>?_;exact .aq (.wx v.base v.ok c1 (dn c2).1 (dn c2).2 ((Tj v.base v.ok e _ c3 h).im fun u fr H h=>k9 h fun us h1 h2 h3=>⟨us,h1,h2,ir t c4 h3⟩))
 |false=>
  refine rq hc fun ts k1 p1 z q t xs c0 c2 c5 c6 c3 c4=>?_;exact .aq (.pN v.base v.ok c5 c6 c0 (dn c2).1 (dn c2).2 ((Tj v.base v.ok e _ c3 h).im fun u fr H h=>k9 h fun us h1 h2 h3=>⟨us,h1,h2,ir t c4 h3⟩))
theorem tu{o:E}{f:Fn}(ir:SS cY uK w n X env outer r):SS cY uK w n X env outer (.RY o f e r):=fun st hc Q fr H h=>by refine b8 hc fun oe p z q t c1 c2 c3 c4=>?_;exact .aq (.RY c1 ((Tj v.base v.ok e _ c2 h).im fun u fr H h=>(Tj v.base v.ok o _ c3 h).im fun ov fr H h=>Ez (fun zz zz h=>ir t c4 h) h v.base))
theorem uP{o:E}{f:Fn}{op:Operator}(ir:SS cY uK w n X env outer r):SS cY uK w n X env outer (.V5 o f op e r):=fun st hc Q fr H h=>by refine Bi hc fun oe p z q t c1 c2 c4=>?_;exact .aq (.V5 ((Tj v.base v.ok o _ c1 h).im fun ov fr H h=>eV (Q:=fun old=>jd cY uK w n X e (E0 (er ov) old f op (wpS cY uK w n X r) Q)) h fun old ho h=>Fq v.base ho fun YS eo=>(Tj v.base v.ok e _ c2 h).im fun u fr H h=>Wu (fun zz zz h=>ir t c4 h) (by rw[eo];exact h) v.base))
theorem lh{o j:E}(ir:SS cY uK w n X env outer r):SS cY uK w n X env outer (.qs o j e r):=fun st hc Q fr H h=>by refine Ls hc fun oe ie p z q t c1 c2 c3 Qe c4=>?_;refine .aq (.Zl c1 ((Tj v.base v.ok e _ c2 h).im fun u fr H h=>(Tj v.base v.ok o _ c3 h).im fun ov fr H h=>(Tj v.base v.ok j _ Qe h).im fun iv fr H h=>?_));exact h.elim fun a h=>h.elim fun vs h=>h.elim fun k h=>(t7 h.1).symm▸IX h.2.2.1 h.2.1 h.2.2.2.1 h.2.2.2.2.1 h.2.2.2.2.2.1 (ir t c4 h.2.2.2.2.2.2)
theorem vQ(ir:SS cY uK w n X env outer r):SS cY uK w n X env outer (.expr e r):=fun st hc Q fr H h=>
 FR hc fun z q t c1 c2 c4=>.aq (.eO (Dy v.ok) c1 ((Tj v.base v.ok e _ c2 h).im fun zz fr H h=>ir t c4 h))
theorem xu{c:E}(ia:SS cY uK w n X env outer a)(ib:SS cY uK w n X env outer b)(ir:SS cY uK w n X env outer r):SS cY uK w n X env outer (.ite c a b r):=fun st hc Q fr H h=>by refine vB hc fun x sa sb q l c1 c2 c3 c4=>?_;exact .aq (.Fe (Ut v.base v.ok c x c1 (P:=fun t fr H=>if t then Run cY uK w n env outer (env::outer) fr H (execs sa env) _ X else Run cY uK w n env outer (env::outer) fr H (execs sb env) _ X) (RW c (fun u fr H h=>Kk h (fun h=>(ia sa c2 h).im (IJ c4 ir)) fun h=>(ib sb c3 h).im (IJ c4 ir)) h)))
theorem LI{c:E}(ib:SS cY uK w n X env outer b)(ir:SS cY uK w n X env outer r):SS cY uK w n X env outer (.Wl c b r):=fun st hc Q fr H h=>by refine i7 hc fun x body q l c1 c2 c4=>?_;exact h.elim fun I h=>h.1.elim fun k h0=>.aq (.qq v.hf I h0 fun k fr H hI=>Ut v.base v.ok c x c1 (P:=fun t fr H=>if t then Run cY uK w n env outer (env::outer) fr H (execs body env) _ X else _) (RW c (fun u fr H h=>Kk h (fun h=>(ib body c2 h).im (w0 c4 ir)) (ir l c4)) (h.2 k fr H hI)))
theorem JG(ib:SS cY uK w n X env outer b)(ir:SS cY uK w n X env outer r):SS cY uK w n X env outer (.zl i it b r):=fun st hc Q fr H h=>by refine rL hc fun x p iter body q l c1 c2 c3 c4 c5=>?_;refine .aq (.sY v.base v.hf (fun x=>Xa c2 x) (ML.val v.base ((Tj v.base v.ok it iter c3 h).im fun u fr H=>.imp fun kd=>.imp fun items=>.imp_right <| .imp fun I=>.imp_right <| .imp_right fun h=>⟨fun A s it k v Q E zz h=>MO h,fun k x fr H hx hI=>?_,fun fr H hI=>ir l c5 (h.2 fr H hI)⟩)));rw[PySem.assign_Name];exact .bind (.at (run_bind v.ok c1 ((ib body c4 (h.1 k _ fr H hx hI)).im (CE c5 ir))))
theorem NH(ib:SS cY uK w n X env outer b)(ir:SS cY uK w n X env outer r):SS cY uK w n X env outer (.XM is it b r):=fun st hc Q fr H h=>by refine On hc fun ts kk p iter body q l xs c0 c1 c2 c3 c4 c5=>?_;refine .aq (.sY v.base v.hf (fun x=>Xa c2 x) (ML.val v.base ((Tj v.base v.ok it iter c3 h).im fun u fr H h=>⟨1,h.imp fun items=>.imp_right <| .imp fun I=>.imp_right <| .imp_right fun h=>⟨fun A s it k v Q E hi h=>Hp hi h,fun k x fr H hx hI=>(h.1 k _ fr H hx hI).elim fun vs h=>?_,fun fr H hI=>ir l c5 (h.2 fr H hI)⟩⟩)));exact aF v.base v.ok h.1 c0 (dn c1).1 (dn c1).2 h.2.1 ((ib body c4 h.2.2).im (CE c5 ir))
theorem RX{hi:E}(ib:SS cY uK w n X env outer b)(ir:SS cY uK w n X env outer r):SS cY uK w n X env outer (.GD i hi b r):=fun st hc Q fr H h=>by refine FL hc fun x p y py ha cp body q l c1 c2 Xr c3 c4 c5=>?_;refine .aq (.sY v.base v.hf (fun x=>rfl) (ML.A1 v.base v.ok c2 Xr ((Tj v.base v.ok hi _ c3 h).im fun u fr H=>.imp fun m=>.imp_right <| .imp_right <| .imp fun I=>.imp_right fun h=>⟨fun zz zz zz zz=>rfl,fun A s it k v Q E zz h=>MO h,fun k x fr H hx hI=>?_,fun fr H hI=>ir l c5 (h.2 fr H (VH (m:=m)▸hI))⟩)));rw[PySem.assign_Name];exact .bind (.at (run_bind v.ok c1 ((ib body c4 (h.1 k _ fr H hx hI)).im (CE c5 ir))))
theorem Vp{lo hi:E}(ib:SS cY uK w n X env outer b)(ir:SS cY uK w n X env outer r):SS cY uK w n X env outer (.gM i lo hi b r):=fun st hc Q fr H h=>by
 refine U8 hc fun x p y py la ha cp body q l c1 c2 Xr zP c3 Qe c4 c5=>?_;refine .aq (.sY v.base v.hf (fun x=>rfl) (ML.pK v.base v.ok c2 Xr zP ((Tj v.base v.ok lo la c3 h).im fun u fr H h=>(Tj v.base v.ok hi ha Qe h).im fun u' fr H=>.imp fun a=>.imp fun b'=>.imp_right <| .imp_right <| .imp_right <| .imp_right <| .imp fun I=>.imp_right fun h=>
  ⟨fun zz zz zz zz=>rfl,fun A s it k v Q E zz h=>MO h,fun k x fr H hx hI=>?_,fun fr H hI=>ir l c5 (h.2 fr H (by simpa using hI))⟩)))
 rw[List.getElem?_map]at hx;refine(Option.map_eq_some_iff.mp hx).elim fun j hj=>?_;have hk:k<(b'-a).toNat:=Nat.lt_of_lt_of_eq (List.getElem?_eq_some_iff.mp hj.1).1 List.length_range;have e3:er x= .int (a+(k:Nat)) 0:=by rw[←hj.2, ←Option.some.inj ((List.getElem?_range hk).symm.trans hj.1),Int.mul_one]
 rw[PySem.assign_Name];refine .bind (.at (run_bind v.ok c1 ?_));rw[e3];exact(ib body c4 (h.1 k fr H hk hI)).im (CE c5 ir)
theorem BE(ib:SS cY uK w n X env outer b)(ir:SS cY uK w n X env outer r):SS cY uK w n X env outer (.zX is it b r):=fun st hc Q fr H h=>by refine Ix hc fun ts kk p y py ha cp body q l xs c0 h2 c1 c2 Xr c3 c4 c5=>?_;exact .aq (.Sk v.base v.ok v.hf c2 Xr c0 (dn c1).1 h2 (dn c1).2 ((Tj v.base v.ok it _ c3 h).im fun u fr H=>.imp fun x=>.imp_right <| .imp fun I=>.imp_right fun h=>⟨fun k c fr H hx hI=>(ib body c4 (h.1 k c fr H hx hI)).im (CE c5 ir),fun fr H hI=>ir l c5 (h.2 fr H hI)⟩))
theorem ll{j:Nat}{e':E}(ir:SS cY uK w n X env outer r):SS cY uK w n X env outer (.AR i e j e' r):=fun st hc Q fr H h=>by refine pS hc fun x1 p1 v1 q1 x2 p2 v2 q2 np m1 rp GC hp pos l c0 c1 c2 c3 c4 c5 c6 c7=>?_;exact .aq (.zw v.base v.ok v.hf c0 (.aq (.kx v.ok c1 c3 ((Tj v.base v.ok e _ c5 h).im fun u fr H h=>.aq (.kx v.ok c2 c4 ((Tj v.base v.ok e' _ c6 h).im fun u fr H h=>.Iz (ir l c7 h)))))))
theorem ss(c:S):SS cY uK w n X env outer c:=S.rec (motive:=SS cY uK w n X env outer) (uj v) (fun zz=>lQ v) (yE v) (lD v) (BV v) (fun zz zz zz=>vw v) (fun zz zz zz zz=>ql v) (fun zz zz zz zz=>tu v) (fun zz zz zz zz zz=>uP v) (fun zz zz zz zz=>lh v) (fun zz zz=>vQ v) (fun zz zz zz zz=>xu v) (fun zz zz zz=>LI v)
 (fun zz zz zz zz=>JG v) (fun zz zz zz zz=>NH v) (fun zz zz zz zz=>RX v) (fun zz zz zz zz zz=>Vp v) (fun zz zz zz zz=>BE v) (fun zz zz zz zz zz=>ll v) (fun zz zz zz zz zz h=>h.elim) c
end
theorem R1(base:AG cY w)(ok:CL env)(hf:env.frame=some env.locals)(c:S)(st:List Stmt)(h:jD env.scope.names c st=true){Q:KF}{fr H}(k:wpS cY uK w n X c Q fr H):M6 cY uK w n X env outer st Q fr H:=ss ⟨base,ok,hf⟩ c st h k
end
end
section
noncomputable def WX(P:Params)(f:Addr)(k m:Nat)(c:S):Bool:=match(Hd.KF P).lookup f with
 |some ⟨_,_,.func fd,_⟩=>codeIn (Hd.KF P) fd.code fd.qualname&&By fd&&decide (fd.params.args.length=k)&&decide (k≤m)&&decide (m≤fd.scope.names.length)&&(match fd.body with| .stmts body=>jD fd.scope.names c body|_=>false)
 |_=>false
def mu(f:Addr)(k m:Nat)(c:S):Prop:=∀P,WX P f k m c=true
noncomputable def xo:Fl→Value
 | .ret v=>v
 |_=>.none
theorem k8{α β:Type}{f:α→β}{a:α}{l:List α}:List.map f (a::l)=f a::List.map f l:=rfl
theorem FH{α β:Type}{f:α→β}:List.map f []= []:=rfl
theorem w60:(!true)=false:=rfl
theorem s72:(!false)=true:=rfl
noncomputable def Oh(Q:Value→AH→Prop):Fl→dD→AH→Prop:=fun fl zz H=>Q (xo fl) H
theorem Pd{Q:Value→AH→Prop}{v:Value}{fr:dD}{H:AH}:Oh Q (.ret v) fr H=Q v H:=rfl
theorem ZY{Q:Value→AH→Prop}{fr:dD}{H:AH}:Oh Q .next fr H=Q .none H:=rfl
theorem Yh(f:Flow):er (Zv f)=xo (xC f):=by cases f<;>rfl
noncomputable def wQ(m:Nat)(args:List Value):dD:=args.map some++List.replicate (m-args.length) none
section
variable{cY:Heap}{uK:OsState}{w:World}{n:Nat}{X:AH→Prop}
theorem Run.Fv{α:Type}{env:Env}{outer ow:List Env}{fr ve:dD}{H:AH}{t:Sem α}{P:α→dD→AH→Prop}(hf:∀(i:Nat)(v:Value),ve[i]? =some (some v)→fr[i]? =some (some v))(h:Run cY uK w n env outer ow ve H t P X):
  Run cY uK w n env outer ow fr H t P X:=fun A Rk s hs=>by
 obtain⟨m,a,b⟩:=hs.loc;exact h A Rk s ⟨hs.lY,hs.hd,hs.room,hs.inv,⟨m,a,fun i v e=>b i v (hf i v e)⟩,hs.ow,hs.apart⟩
theorem Vg{f:Addr}{k m:Nat}{c:S}{args:List Value}{H:AH}{Q:Value→AH→Prop}(hF:mu f k m c)(base:AG cY w)(hl:args.length=k)
  (h:zQ H→wpS cY uK w n X c (Oh Q) (wQ m args) H):T2 cY uK w (n+1) (.ref f) args H Q X:=by
 have hF:=hF w.params;unfold WX at hF
 split at hF
 ·rename_i oc od fd sl e;simp only[Bool.and_eq_true,decide_eq_true_eq]at hF;obtain⟨⟨⟨⟨⟨h1,h2⟩,h3⟩,h4⟩,h5⟩,h6⟩:=hF
  split at h6
  ·rename_i body hb;refine X7 (body:=body) e h1 h2 hb base (hl.trans h3.symm) fun env outer ok hs hf=>?_;refine Run.Fv (ve:=wQ m args) (fun i v q=>?_) ?_
   ·unfold wQ at q;unfold CQ
    by_cases hi:i<args.length
    ·rw[List.getElem?_append_left (by simpa using hi)]at q⊢;exact q
    ·rw[List.getElem?_append_right (by simpa using hi)]at q;rw[List.getElem?_replicate]at q
     split at q
     ·cases q
     ·cases q
   ·exact .Rh base fun hC=>(R1 base ok hf c body (hs▸h6) (h hC)).im (fun fl fr H q=>by rw[Yh];exact q)
  ·cases h6
 ·cases hF
end
end
noncomputable def eI(k:Int):E:=.cst (.int k 0)
noncomputable def eS(x:Str):E:=.cst (.str x 0)
noncomputable def eC(f:Nat)(as:Es):E:=.call (.ref f) as
noncomputable def eM(f:Nat)(as:Es):E:=.Df (.loc 0) (.own Hd.Mg f) as
noncomputable def mN(a:E):Es:=.cons a .nil
noncomputable def AK(a b:E):Es:=.cons a (.cons b .nil)
noncomputable def SP(a b c:E):Es:=.cons a (.cons b (.cons c .nil))
noncomputable def il(a b c d:E):Es:=.cons a (.cons b (.cons c (.cons d .nil)))
noncomputable def Q4:E:=.loc 0
noncomputable def Kf:E:=.loc 1
noncomputable def v0:E:=.loc 2
noncomputable def Tv:E:=.loc 3
noncomputable def HG:E:=.loc 4
noncomputable def O4:E:=.loc 5
noncomputable def uJ:E:=.loc 6
noncomputable def AN:E:=.loc 7
noncomputable def EX:E:=.loc 8
noncomputable def Su:E:=.loc 9
noncomputable def K0:S:=(.ret (.bool false (AK (.cmp .In Q4 (.Vt (.ref Hd.ui))) (.V8 (eI 8192) .LtE Q4 .LtE (eI 8202)))))
theorem X1:mu Hd.ki 1 1 K0:=fun P=>by kernel_rfl
noncomputable def eg:S:=(.ret (.cmp .In Q4 (.Vt (.ref Hd.mV))))
theorem W3:mu Hd.wF 1 1 eg:=fun P=>by kernel_rfl
noncomputable def zu:S:=(.ret (.V8 (eI 48) .LtE Q4 .LtE (eI 57)))
theorem Kw:mu Hd.wM 1 1 zu:=fun P=>by kernel_rfl
noncomputable def Yw:S:=(.ite (.cmp .Lt Q4 (eI 128)) (.ret (.bool false (il (.V8 (eI 65) .LtE Q4 .LtE (eI 90)) (.V8 (eI 97) .LtE Q4 .LtE (eI 122)) (.cmp .Eq Q4 (eI 36)) (.cmp .Eq Q4 (eI 95))))) .nil (.ret (eC Hd.HT (AK Q4 (.Vt (.ref Hd.OD))))))
theorem fQ:mu Hd.DF 1 1 Yw:=fun P=>by kernel_rfl
noncomputable def DU:S:=(.ret (.bool false (SP (eC Hd.DF (mN Q4)) (eC Hd.wM (mN Q4)) (.bool true (AK (.cmp .Gt Q4 (eI 127)) (eC Hd.HT (AK Q4 (.Vt (.ref Hd.zg)))))))))
theorem WN:mu Hd.dq 1 1 DU:=fun P=>by kernel_rfl
noncomputable def uG:S:=(.Tw 1 (.lst .nil) (.zl 2 Q4 (.Tw 3 (.call (.builtin "ord") (mN v0)) (.ite (.cmp .In Tv (.Vt (.ref Hd.j6))) (.expr (.Df Kf .app (mN (.sub (.Vt (.ref Hd.j6)) Tv))) .nil) (.ite (.V8 (eI 32) .LtE Tv .Lt (eI 127)) (.expr (.Df Kf .app (mN v0)) .nil) (.expr (.Df Kf .app (mN (.wJ (.cmp .Lt Tv (eI 256)) .dead .dead))) .nil) .nil) .nil)) (.ret (.bin .Add (.bin .Add (eS "\"") (.Df (eS "") .join (mN Kf))) (eS "\"")))))
theorem qL:mu Hd.jR 1 4 uG:=fun P=>by kernel_rfl
noncomputable def Mh:S:=(.ret (.Df (eS "") .join (mN (.comp (.wJ (.cmp .Lt (.call (.builtin "ord") (mN Kf)) (eI 128)) Kf .dead) Q4 1 [none,none,none,none]))))
theorem Rw:mu Hd.Mf 1 1 Mh:=fun P=>by kernel_rfl
noncomputable def NF:S:=(.ite (.bool false (AK (.cmp .Eq (.gZ Q4 .kind) (eS "Binary")) (.cmp .Eq (.gZ Q4 .kind) (eS "Logical")))) (.ret (.sub (.Vt (.ref Hd.um)) (.sub (.gZ Q4 .parts) (eI 0)))) .nil (.ite (.cmp .Eq (.gZ Q4 .kind) (eS "Update")) (.ret (.wJ (.sub (.gZ Q4 .parts) (eI 1)) (.Vt (.int 13 0)) (.Vt (.int 14 0)))) .nil (.ret (.wJ (.cmp .In (.gZ Q4 .kind) (.Vt (.ref Hd.Il))) (.sub (.Vt (.ref Hd.Il)) (.gZ Q4 .kind)) (.Vt (.int 16 0))))))
theorem HS:mu Hd.cH 1 1 NF:=fun P=>by kernel_rfl
noncomputable def WE:S:=(.Wl (.cmp .In (.gZ Q4 .kind) (.tup (AK (eS "Member") (eS "Index")))) (.Tw 0 (.sub (.gZ Q4 .parts) (eI 0)) .nil) (.ret (.cmp .Eq (.gZ Q4 .kind) (eS "Call"))))
theorem X8:mu Hd.Ki 1 1 WE:=fun P=>by kernel_rfl
noncomputable def oZ:S:=(.Tw 3 (.bool true (SP v0 (.cmp .Eq (.gZ Q4 .kind) (eS "Binary")) (.cmp .Eq (.sub (.gZ Q4 .parts) (eI 0)) (eS "in")))) (.ite (.bool false (AK (.cmp .Lt (eC Hd.cH (mN Q4)) Kf) Tv)) (.ret (.bin .Add (.bin .Add (eS "(") (eC Hd.gc (AK Q4 (.cst (.bool false))))) (eS ")"))) .nil (.ret (eC Hd.gc (AK Q4 v0)))))
theorem Yy:mu Hd.ze 3 4 oZ:=fun P=>by kernel_rfl
noncomputable def Wx:S:=(.ol true [2,3] (.tup (AK (.gZ Q4 .kind) (.gZ Q4 .parts))) (.ite (.cmp .In v0 (.Vt (.ref Hd.Qh))) (.ret (.sub (.Vt (.ref Hd.Qh)) v0)) .nil (.ite (.cmp .Eq v0 (eS "Bool")) (.ret (.wJ (.sub Tv (eI 0)) (eS "true") (eS "false"))) .nil (.ite (.cmp .Eq v0 (eS "Num")) .dead .nil (.ite (.cmp .Eq v0 (eS "Str")) (.ret (eC Hd.jR (mN (.sub Tv (eI 0))))) .nil (.ite (.cmp .Eq v0 (eS "Name")) (.ret (eC Hd.Mf (mN (.sub Tv (eI 0))))) .nil (.ite (.cmp .Eq v0 (eS "Regex")) (.ret (.bin .Add (.bin .Add (.bin .Add (eS "/") (.sub Tv (eI 0))) (eS "/")) (.sub Tv (eI 1)))) .nil (.ite (.cmp .Eq v0 (eS "Array")) (.ret (eC Hd.U1 (mN (.sub Tv (eI 0))))) .nil (.ite (.cmp .Eq v0 (eS "Object")) .dead .nil (.ite (.cmp .Eq v0 (eS "Function")) .dead .nil (.ite (.cmp .In v0 (.tup (il (eS "Member") (eS "Index") (eS "Call") (eS "New")))) (.ret (eC Hd.JE (AK Q4 Kf))) .nil (.ret (eC Hd.tY (AK Q4 Kf))))))))))))))
theorem iR:mu Hd.gc 2 4 Wx:=fun P=>by kernel_rfl
noncomputable def KZ:S:=(.Tw 1 (.comp (.wJ (.cmp .Is Kf (.cst .none)) (eS "") (eC Hd.ze (SP Kf (.Vt (.int 1 0)) (.cst (.bool false))))) Q4 1 [none,none,none,none]) (.Tw 2 (.wJ (.bool true (AK (.cmp .Gt (.call (.builtin "len") (mN Q4)) (eI 0)) (.cmp .Is (.sub Q4 (.neg 1)) (.cst .none)))) (eS ",") (eS "")) (.ret (.bin .Add (.bin .Add (.bin .Add (eS "[") (.Df (eS ", ") .join (mN Kf))) v0) (eS "]")))))
theorem HK:mu Hd.U1 1 3 KZ:=fun P=>by kernel_rfl
noncomputable def Ax:S:=(.ret (.bin .Add (.bin .Add (eS "(") (.Df (eS ", ") .join (mN (.comp (eC Hd.ze (SP Kf (.Vt (.int 1 0)) (.cst (.bool false)))) Q4 1 [none,none,none,none])))) (eS ")")))
theorem yM:mu Hd.Ob 1 1 Ax:=fun P=>by kernel_rfl
noncomputable def Ai:S:=(.ol true [2,3] (.tup (AK (.gZ Q4 .kind) (.gZ Q4 .parts))) (.ite (.cmp .Eq v0 (eS "New")) (.Tw 4 (eC Hd.ze (SP (.sub Tv (eI 0)) (.Vt (.int 16 0)) Kf)) (.ite (.bool true (AK (.cmp .Eq (eC Hd.cH (mN (.sub Tv (eI 0)))) (.Vt (.int 16 0))) (eC Hd.Ki (mN (.sub Tv (eI 0)))))) (.Tw 4 (.bin .Add (.bin .Add (eS "(") (eC Hd.gc (AK (.sub Tv (eI 0)) (.cst (.bool false))))) (eS ")")) .nil) .nil (.ret (.bin .Add (.bin .Add (eS "new ") HG) (eC Hd.Ob (mN (.sub Tv (eI 1)))))))) .nil (.Tw 5 (eC Hd.ze (SP (.sub Tv (eI 0)) (.Vt (.int 15 0)) Kf)) (.ite (.cmp .Eq v0 (eS "Call")) (.ret (.bin .Add O4 (eC Hd.Ob (mN (.sub Tv (eI 1)))))) .nil (.ite (.cmp .Eq v0 (eS "Index")) (.ret (.bin .Add (.bin .Add (.bin .Add O4 (eS "[")) (eC Hd.ze (SP (.sub Tv (eI 1)) (.Vt (.int 0 0)) (.cst (.bool false))))) (eS "]"))) .nil (.ret (.bin .Add (.bin .Add O4 (.wJ (.cmp .Eq (.gZ (.sub Tv (eI 0)) .kind) (eS "Num")) (eS " .") (eS "."))) (eC Hd.Mf (mN (.sub Tv (eI 1)))))))))))
theorem EG:mu Hd.JE 2 6 Ai:=fun P=>by kernel_rfl
noncomputable def B7:S:=(.ol true [2,3] (.tup (AK (.gZ Q4 .kind) (.gZ Q4 .parts))) (.ite (.cmp .Eq v0 (eS "Comma")) (.ret (.Df (eS ", ") .join (mN (.comp (eC Hd.ze (SP Kf (.Vt (.int 1 0)) HG)) (.sub Tv (eI 0)) 1 [none,none,none,none,some 1])))) .nil (.ite (.cmp .Eq v0 (eS "Assign")) (.Tw 4 (eC Hd.ze (SP (.sub Tv (eI 1)) (.Vt (.int 15 0)) Kf)) (.ret (.bin .Add (.bin .Add (.bin .Add (.bin .Add HG (eS " ")) (.sub Tv (eI 0))) (eS " ")) (eC Hd.ze (SP (.sub Tv (eI 2)) (.Vt (.int 1 0)) Kf))))) .nil (.ite (.cmp .Eq v0 (eS "Cond")) (.Tw 5 (eC Hd.ze (SP (.sub Tv (eI 0)) (.bin .Add (.Vt (.int 2 0)) (eI 1)) Kf)) (.Tw 6 (eC Hd.ze (SP (.sub Tv (eI 1)) (.Vt (.int 1 0)) (.cst (.bool false)))) (.ret (.bin .Add (.bin .Add (.bin .Add (.bin .Add O4 (eS " ? ")) uJ) (eS " : ")) (eC Hd.ze (SP (.sub Tv (eI 2)) (.Vt (.int 1 0)) Kf)))))) .nil (.ite (.cmp .Eq v0 (eS "Unary")) (.ret (eC Hd.fJ (AK (.sub Tv (eI 0)) (eC Hd.ze (SP (.sub Tv (eI 1)) (.Vt (.int 13 0)) Kf))))) .nil (.ite (.cmp .Eq v0 (eS "Update")) (.ite (.sub Tv (eI 1)) (.ret (eC Hd.fJ (AK (.sub Tv (eI 0)) (eC Hd.ze (SP (.sub Tv (eI 2)) (.Vt (.int 13 0)) Kf))))) .nil (.ret (.bin .Add (eC Hd.ze (SP (.sub Tv (eI 2)) (.Vt (.int 15 0)) Kf)) (.sub Tv (eI 0))))) .nil (.Tw 7 (.sub (.Vt (.ref Hd.um)) (.sub Tv (eI 0))) (.Tw 8 (eC Hd.ze (SP (.sub Tv (eI 1)) AN Kf)) (.ret (.bin .Add (.bin .Add (.bin .Add (.bin .Add EX (eS " ")) (.sub Tv (eI 0))) (eS " ")) (eC Hd.ze (SP (.sub Tv (eI 2)) (.bin .Add AN (eI 1)) Kf))))))))))))
theorem Zf:mu Hd.tY 2 9 B7:=fun P=>by kernel_rfl
noncomputable def iH:S:=(.Tw 2 (.cmp .In Q4 (.tup (SP (eS "typeof") (eS "void") (eS "delete")))) (.ret (.bin .Add (.bin .Add Q4 (.wJ (.bool false (AK v0 (.bool true (AK (.cmp .Eq (.jk 1 (.cst .none) (eI 1)) (.jk 0 (.neg 1) (.cst .none))) (.cmp .In (.jk 0 (.neg 1) (.cst .none)) (eS "+-")))))) (eS " ") (eS ""))) Kf)))
theorem Hx:mu Hd.fJ 2 3 iH:=fun P=>by kernel_rfl
noncomputable def o8:S:=(.RY Q4 .kind Kf (.RY Q4 .line v0 (.RY Q4 .parts Tv (.RY Q4 .scope (.cst .none) .nil))))
theorem QN:mu Hd.iI 4 4 o8:=fun P=>by kernel_rfl
noncomputable def cA:S:=(.ret (.wJ (.cmp .Lt Kf (.call (.builtin "len") (mN Q4))) (.call (.builtin "ord") (mN (.sub Q4 Kf))) (.neg 1)))
theorem G5:mu Hd.gb 2 2 cA:=fun P=>by kernel_rfl
noncomputable def vY:S:=(.RY Q4 .kind Kf (.RY Q4 .value v0 (.RY Q4 .line Tv (.RY Q4 .behind HG (.RY Q4 .start O4 (.RY Q4 .stop uJ (.RY Q4 .uO (.cst (.bool false)) (.RY Q4 .plain (.cst (.bool true)) .nil))))))))
theorem jj:mu Hd.Lx 7 7 vY:=fun P=>by kernel_rfl
noncomputable def PZ:S:=(.ret (.cmp .In Q4 (.Vt (.ref Hd.yr))))
theorem oV:mu Hd.NU 1 1 PZ:=fun P=>by kernel_rfl
noncomputable def n4:S:=(.zl 2 (.tup (il (eI 4) (eI 3) (eI 2) (eI 1))) (.Tw 3 (.jk 0 Kf (.bin .Add Kf v0)) (.ite (.cmp .In Tv (.Vt (.ref Hd.ZS))) (.ret Tv) .nil .nil)) (.ret (.cst .none)))
theorem yS:mu Hd.rJ 2 4 n4:=fun P=>by kernel_rfl
noncomputable def rj:S:=(.RY Q4 .text Kf (.RY Q4 .at (eI 0) (.RY Q4 .line (eI 1) .nil)))
theorem J2:mu Hd.Ui 2 2 rj:=fun P=>by kernel_rfl
noncomputable def mh:S:=(.Tw 1 (.Df Q4 (.own Hd.ic Hd.gT) .nil) (.ol true [2,3] (.tup (AK (.gZ Q4 .at) (eC Hd.gb (AK (.gZ Q4 .text) (.gZ Q4 .at))))) (.Tw 4 (eC Hd.VE (.cons (eS "end") (.cons (eS "") (il (.gZ Q4 .line) Kf v0 v0)))) (.ite (.cmp .Lt Tv (eI 0)) (.ret HG) .nil (.ite (.bool false (AK (eC Hd.DF (mN Tv)) (.cmp .Eq Tv (eI 92)))) (.expr (.Df Q4 (.own Hd.ic Hd.NB) (mN HG)) .nil) (.ite (.bool false (AK (eC Hd.wM (mN Tv)) (.bool true (AK (.cmp .Eq Tv (eI 46)) (eC Hd.wM (mN (eC Hd.gb (AK (.gZ Q4 .text) (.bin .Add v0 (eI 1)))))))))) .dead (.ite (.bool false (AK (.cmp .Eq Tv (eI 34)) (.cmp .Eq Tv (eI 39)))) (.expr (.Df Q4 (.own Hd.ic Hd.Xb) (AK HG Tv)) .nil) (.expr (.Df Q4 (.own Hd.ic Hd.VL) (mN HG)) .nil) .nil) .nil) (.RY HG .stop (.gZ Q4 .at) (.ret HG)))))))
theorem vS:mu Hd.C0 1 5 mh:=fun P=>by kernel_rfl
noncomputable def Cj:S:=(.Tw 1 (.gZ Q4 .line) (.Wl (.cst (.bool true)) (.Tw 2 (eC Hd.gb (AK (.gZ Q4 .text) (.gZ Q4 .at))) (.ite (eC Hd.wF (mN v0)) .dead (.ite (eC Hd.ki (mN v0)) (.V5 Q4 .at .Add (eI 1) .nil) (.ite (.Df (.gZ Q4 .text) .starts (AK (eS "//") (.gZ Q4 .at))) (.Wl (.bool true (AK (.cmp .Lt (.gZ Q4 .at) (.call (.builtin "len") (mN (.gZ Q4 .text)))) (.not (eC Hd.wF (mN (eC Hd.gb (AK (.gZ Q4 .text) (.gZ Q4 .at)))))))) (.V5 Q4 .at .Add (eI 1) .nil) .nil) (.ite (.Df (.gZ Q4 .text) .starts (AK (eS "/*") (.gZ Q4 .at))) .dead (.ret (.cmp .Gt (.gZ Q4 .line) Kf)) .nil) .nil) .nil) .nil)) .nil))
theorem VZ:mu Hd.gT 1 3 Cj:=fun P=>by kernel_rfl
noncomputable def zR:S:=(.ol true [2,3,4] (.tup (SP (eC Hd.gb (AK (.gZ Q4 .text) (.gZ Q4 .at))) (.bin .Add (.gZ Q4 .at) (eI 1)) (.cst (.bool false)))) (.ite (.cmp .Eq v0 (eI 92)) (.Tw 4 (.cst (.bool true)) (.Tw 2 (.wJ (.cmp .Eq (eC Hd.gb (AK (.gZ Q4 .text) (.bin .Add (.gZ Q4 .at) (eI 1)))) (eI 117)) .dead (.neg 1)) (.Tw 3 (.bin .Add (.gZ Q4 .at) (eI 6)) .nil))) .nil (.Tw 5 (.bool true (AK (.cmp .GtE v0 (eI 0)) (.wJ Kf (eC Hd.DF (mN v0)) (eC Hd.dq (mN v0))))) (.ite (.bool true (AK HG (.not O4))) (.expr (.Df Q4 (.own Hd.ic Hd.Dd) (mN (eS "a name has a wrong escape"))) .nil) .nil (.ret (.wJ O4 (.tup (AK (.call (.builtin "chr") (mN v0)) Tv)) (.cst .none)))))))
theorem bn:mu Hd.yH 2 6 zR:=fun P=>by kernel_rfl
noncomputable def l5:S:=(.ol true [2,3] (.tup (AK (.lst .nil) (.Df Q4 (.own Hd.ic Hd.yH) (mN (.cst (.bool true)))))) (.Wl (.cmp .IsNot Tv (.cst .none)) (.ite (.cmp .Gt (.sub Tv (eI 1)) (.bin .Add (.gZ Q4 .at) (eI 1))) (.RY Kf .plain (.cst (.bool false)) .nil) .nil (.expr (.Df v0 .app (mN (.sub Tv (eI 0)))) (.RY Q4 .at (.sub Tv (eI 1)) (.Tw 3 (.Df Q4 (.own Hd.ic Hd.yH) (mN (.cst (.bool false)))) .nil)))) (.RY Kf .value (.Df (eS "") .join (mN v0)) (.RY Kf .kind (.wJ (eC Hd.NU (mN (.gZ Kf .value))) (eS "keyword") (eS "name")) .nil))))
theorem YJ:mu Hd.NB 2 4 l5:=fun P=>by kernel_rfl
noncomputable def eK:S:=(.RY Kf .kind (eS "text") (.Tw 3 (.lst .nil) (.V5 Q4 .at .Add (eI 1) (.Wl (.cmp .NotEq (eC Hd.gb (AK (.gZ Q4 .text) (.gZ Q4 .at))) v0) (.Tw 4 (eC Hd.gb (AK (.gZ Q4 .text) (.gZ Q4 .at))) (.ite (.bool false (AK (.cmp .Lt HG (eI 0)) (eC Hd.wF (mN HG)))) (.expr (.Df Q4 (.own Hd.ic Hd.Dd) (mN (eS "a string has no end"))) .nil) .nil (.ite (.cmp .Eq HG (eI 92)) .dead (.expr (.Df Tv .app (mN (.sub (.gZ Q4 .text) (.gZ Q4 .at)))) (.V5 Q4 .at .Add (eI 1) .nil)) .nil))) (.V5 Q4 .at .Add (eI 1) (.RY Kf .value (.Df (eS "") .join (mN Tv)) .nil))))))
theorem zA:mu Hd.Xb 3 5 eK:=fun P=>by kernel_rfl
noncomputable def IM:S:=(.Tw 2 (eC Hd.rJ (AK (.gZ Q4 .text) (.gZ Q4 .at))) (.ite (.cmp .Is v0 (.cst .none)) (.expr (.Df Q4 (.own Hd.ic Hd.Dd) (mN (eS "a sign that nothing begins with"))) .nil) .nil (.RY Kf .kind (eS "punct") (.RY Kf .value v0 (.V5 Q4 .at .Add (.call (.builtin "len") (mN v0)) .nil)))))
theorem rh:mu Hd.VL 2 3 IM:=fun P=>by kernel_rfl
noncomputable def Ql:S:=(.ite (.bool true (AK Kf (.cmp .In Q4 (.Vt (.ref Hd.vD))))) (.ret (.bin .Add (eS "reserved word ") Q4)) .nil (.ret (.cst .none)))
theorem HF:mu Hd.Bh 2 2 Ql:=fun P=>by kernel_rfl
noncomputable def Gj:S:=(.ite (.bool true (AK Kf (.cmp .In Q4 (.Vt (.ref Hd.ZG))))) (.ret (.bin .Add Q4 (eS " can not be bound in strict code"))) .nil (.ret (eC Hd.Bh (AK Q4 Kf))))
theorem BF:mu Hd.bd 2 2 Gj:=fun P=>by kernel_rfl
noncomputable def OO:S:=(.ite (.cmp .NotIn Q4 (.Vt (.ref Hd.Tq))) (.ret (eS "invalid target of an assignment")) .nil (.ret (.wJ (.cmp .Eq Q4 (eS "Name")) (eC Hd.bd (AK Kf v0)) (.cst .none))))
theorem Vm:mu Hd.uF 3 3 OO:=fun P=>by kernel_rfl
noncomputable def A5:S:=(.ret (.wJ (.bool true (AK Kf Q4)) (eS "octal literal in strict code") (.cst .none)))
theorem Qn:mu Hd.CF 2 2 A5:=fun P=>by kernel_rfl
noncomputable def ah:S:=(.RY Q4 .we (.lst .nil) (.RY Q4 .loops (eI 0) (.RY Q4 .kF (eI 0) .nil)))
theorem OI:mu Hd.W7 1 1 ah:=fun P=>by kernel_rfl
noncomputable def mD:S:=(.RY Q4 .So (eC Hd.ic (mN Kf)) (.RY Q4 .token (.Df (.gZ Q4 .So) (.own Hd.ic Hd.C0) .nil) (.RY Q4 .later (.cst .none) (.RY Q4 .strict (.cst (.bool false)) (.RY Q4 .depth (eI 0) (.RY Q4 .nested (eI 0) (.RY Q4 .nl (eC Hd.y7 .nil) (.RY Q4 .pending (.lst .nil) .nil))))))))
theorem cV:mu Hd.Hg 2 2 mD:=fun P=>by kernel_rfl
noncomputable def nU:S:=(.Tw 1 (.gZ Q4 .token) (.ite (.cmp .Is (.gZ Q4 .later) (.cst .none)) (.RY Q4 .token (.Df (.gZ Q4 .So) (.own Hd.ic Hd.C0) .nil) .nil) (.RY Q4 .token (.gZ Q4 .later) (.RY Q4 .later (.cst .none) .nil)) (.ret Kf)))
theorem Sr:mu Hd.DV 1 2 nU:=fun P=>by kernel_rfl
noncomputable def ER:S:=(.ret (.bool true (AK (.cmp .Eq (.gZ (.gZ Q4 .token) .kind) (eS "punct")) (.cmp .Eq (.gZ (.gZ Q4 .token) .value) Kf))))
theorem ue:mu Hd.n3 2 2 ER:=fun P=>by kernel_rfl
noncomputable def Kz:S:=(.ret (.bool true (SP (.cmp .Eq (.gZ (.gZ Q4 .token) .kind) (eS "keyword")) (.cmp .Eq (.gZ (.gZ Q4 .token) .value) Kf) (.gZ (.gZ Q4 .token) .plain))))
theorem rY:mu Hd.ZZ 2 2 Kz:=fun P=>by kernel_rfl
noncomputable def hU:S:=(.ite (.not (eM Hd.n3 (mN Kf))) (.ret (.cst (.bool false))) .nil (.expr (eM Hd.DV .nil) (.ret (.cst (.bool true)))))
theorem VC:mu Hd.UH 2 2 hU:=fun P=>by kernel_rfl
noncomputable def wX:S:=(.ite (.not (eM Hd.UH (mN Kf))) (.expr (eM Hd.pV .nil) .nil) .nil .nil)
theorem td:mu Hd.zZ 2 2 wX:=fun P=>by kernel_rfl
noncomputable def z7:S:=(.ite (.cmp .IsNot Kf (.cst .none)) (.expr (eM Hd.Ac (mN Kf)) .nil) .nil .nil)
theorem Tl:mu Hd.ud 2 2 z7:=fun P=>by kernel_rfl
noncomputable def J4:S:=(.expr (eM Hd.Ac (mN (.wJ (.cmp .Eq (.gZ (.gZ Q4 .token) .kind) (eS "end")) (eS "unexpected end") (.bin .Add (eS "unexpected token ") (.call (.type "str") (mN (.gZ (.gZ Q4 .token) .value))))))) .nil)
theorem Vh:mu Hd.pV 1 1 J4:=fun P=>by kernel_rfl
noncomputable def ag:S:=(.V5 Q4 .nested .Add (eI 1) (.ite (.cmp .Gt (.gZ Q4 .nested) (.Vt (.int 40 0))) (.expr (eM Hd.Ac (mN (eS "nested too deeply"))) .nil) .nil .nil))
theorem ij:mu Hd.tx 1 1 ag:=fun P=>by kernel_rfl
noncomputable def ZT:S:=(.V5 Q4 .nested .Sub (eI 1) .nil)
theorem Cd:mu Hd.Gi 1 1 ZT:=fun P=>by kernel_rfl
noncomputable def zK:S:=(.ite (.cmp .NotEq (.gZ (.gZ Q4 .token) .kind) (eS "name")) (.expr (eM Hd.pV .nil) .nil) .nil (.expr (eM Hd.ud (mN (eC Hd.Bh (AK (.gZ (.gZ Q4 .token) .value) (.gZ Q4 .strict))))) (.ret (.gZ (eM Hd.DV .nil) .value))))
theorem io:mu Hd.Oi 1 1 zK:=fun P=>by kernel_rfl
noncomputable def R4:S:=(.ite (.cmp .NotIn (.gZ (.gZ Q4 .token) .kind) (.tup (AK (eS "name") (eS "keyword")))) (.expr (eM Hd.pV .nil) .nil) .nil (.ret (.gZ (eM Hd.DV .nil) .value)))
theorem j9:mu Hd.gl 1 1 R4:=fun P=>by kernel_rfl
noncomputable def nM:S:=(.Tw 2 (eM Hd.Gv (mN Kf)) (.ite (.not (eM Hd.n3 (mN (eS ",")))) (.ret v0) .nil (.Tw 3 (.lst (mN v0)) (.Wl (eM Hd.UH (mN (eS ","))) (.expr (.Df Tv .app (mN (eM Hd.Gv (mN Kf)))) .nil) (.ret (eC Hd.Vk (SP (eS "Comma") (.gZ v0 .line) (.lst (mN Tv)))))))))
theorem q6:mu Hd.VK 2 4 nM:=fun P=>by kernel_rfl
noncomputable def MC:S:=(.expr (eM Hd.tx .nil) (.Tw 2 (eM Hd.MZ (mN Kf)) (.ite (.bool true (AK (.cmp .Eq (.gZ (.gZ Q4 .token) .kind) (eS "punct")) (.cmp .In (.gZ (.gZ Q4 .token) .value) (.Vt (.ref Hd.lm))))) (.expr (eM Hd.sj (mN v0)) (.Tw 3 (.gZ (eM Hd.DV .nil) .value) (.Tw 2 (eC Hd.Vk (SP (eS "Assign") (.gZ v0 .line) (.lst (SP Tv v0 (eM Hd.Gv (mN Kf)))))) .nil))) .nil (.expr (eM Hd.Gi .nil) (.ret v0)))))
theorem Sw:mu Hd.Gv 2 4 MC:=fun P=>by kernel_rfl
noncomputable def Qs:S:=(.expr (eM Hd.ud (mN (eC Hd.uF (SP (.gZ Kf .kind) (.wJ (.cmp .Eq (.gZ Kf .kind) (eS "Name")) (.sub (.gZ Kf .parts) (eI 0)) (.cst .none)) (.gZ Q4 .strict))))) .nil)
theorem GY:mu Hd.sj 2 2 Qs:=fun P=>by kernel_rfl
noncomputable def E7:S:=(.Tw 2 (eM Hd.oQ (AK (eI 1) Kf)) (.ite (.not (eM Hd.UH (mN (eS "?")))) (.ret v0) .nil (.Tw 3 (eM Hd.Gv (mN (.cst (.bool true)))) (.expr (eM Hd.zZ (mN (eS ":"))) (.ret (eC Hd.Vk (SP (eS "Cond") (.gZ v0 .line) (.lst (SP v0 Tv (eM Hd.Gv (mN Kf)))))))))))
theorem lL:mu Hd.MZ 2 4 E7:=fun P=>by kernel_rfl
noncomputable def mn:S:=(.ite (.cmp .Eq (.gZ (.gZ Q4 .token) .kind) (eS "punct")) (.ret (.Df (.Vt (.ref Hd.qg)) .get (AK (.gZ (.gZ Q4 .token) .value) (eI 0)))) .nil (.ite (eM Hd.ZZ (mN (eS "in"))) (.ret (.wJ Kf (.sub (.Vt (.ref Hd.qg)) (eS "in")) (eI 0))) .nil (.ret (.wJ (eM Hd.ZZ (mN (eS "instanceof"))) (.sub (.Vt (.ref Hd.qg)) (eS "instanceof")) (eI 0)))))
theorem aD:mu Hd.RO 2 2 mn:=fun P=>by kernel_rfl
noncomputable def JZ:S:=(.Tw 3 (eM Hd.Ud .nil) (.Wl (.cmp .GtE (eM Hd.RO (mN v0)) Kf) (.Tw 4 (eM Hd.RO (mN v0)) (.Tw 5 (.gZ (eM Hd.DV .nil) .value) (.Tw 6 (eM Hd.oQ (AK (.bin .Add HG (eI 1)) v0)) (.Tw 3 (eC Hd.Vk (SP (.wJ (.cmp .Lt HG (eI 3)) (eS "Logical") (eS "Binary")) (.gZ Tv .line) (.lst (SP O4 Tv uJ)))) .nil)))) (.ret Tv)))
theorem tJ:mu Hd.oQ 3 7 JZ:=fun P=>by kernel_rfl
noncomputable def K5:S:=(.Tw 1 (.gZ Q4 .token) (.ite (.bool true (AK (.cmp .Eq (.gZ Kf .kind) (eS "punct")) (.cmp .In (.gZ Kf .value) (.Vt (.ref Hd.Y9))))) (.Tw 2 (eM Hd.LW .nil) (.expr (eM Hd.sj (mN v0)) (.ret (eC Hd.Vk (SP (eS "Update") (.gZ Kf .line) (.lst (SP (.gZ Kf .value) (.cst (.bool true)) v0))))))) .nil (.Tw 3 (.bool true (AK (.cmp .Eq (.gZ Kf .kind) (eS "punct")) (.cmp .In (.gZ Kf .value) (.Vt (.ref Hd.j8))))) (.Tw 4 (.bool true (SP (.cmp .Eq (.gZ Kf .kind) (eS "keyword")) (.cmp .In (.gZ Kf .value) (.Vt (.ref Hd.zf))) (.gZ Kf .plain))) (.ite (.bool true (AK (.not Tv) (.not HG))) (.ret (eM Hd.FS .nil)) .nil (.Tw 5 (eM Hd.LW .nil) (.ite (.cmp .Eq (.gZ Kf .value) (eS "delete")) (.expr (eM Hd.ud (mN (eC Hd.qB (AK (.gZ O4 .kind) (.gZ Q4 .strict))))) .nil) .nil (.ret (eC Hd.Vk (SP (eS "Unary") (.gZ Kf .line) (.lst (AK (.gZ Kf .value) O4))))))))))))
theorem f9:mu Hd.Ud 1 6 K5:=fun P=>by kernel_rfl
noncomputable def yO:S:=(.expr (eM Hd.DV .nil) (.expr (eM Hd.tx .nil) (.Tw 1 (eM Hd.Ud .nil) (.expr (eM Hd.Gi .nil) (.ret Kf)))))
theorem HU:mu Hd.LW 1 2 yO:=fun P=>by kernel_rfl
noncomputable def OC:S:=(.Tw 1 (eM Hd.Ov .nil) (.ite (.bool false (SP (.cmp .NotEq (.gZ (.gZ Q4 .token) .kind) (eS "punct")) (.cmp .NotIn (.gZ (.gZ Q4 .token) .value) (.Vt (.ref Hd.Y9))) (.gZ (.gZ Q4 .token) .behind))) (.ret Kf) .nil (.expr (eM Hd.sj (mN Kf)) (.ret (eC Hd.Vk (SP (eS "Update") (.gZ Kf .line) (.lst (SP (.gZ (eM Hd.DV .nil) .value) (.cst (.bool false)) Kf))))))))
theorem Ef:mu Hd.FS 1 2 OC:=fun P=>by kernel_rfl
noncomputable def qX:S:=(.Tw 1 (eM Hd.dc (mN (.wJ (eM Hd.ZZ (mN (eS "new"))) (eM Hd.oM .nil) (eM Hd.Dv .nil)))) (.Wl (eM Hd.n3 (mN (eS "("))) (.Tw 1 (eM Hd.dc (mN (eC Hd.Vk (SP (eS "Call") (.gZ Kf .line) (.lst (AK Kf (eM Hd.ND .nil))))))) .nil) (.ret Kf)))
theorem fH:mu Hd.Ov 1 2 qX:=fun P=>by kernel_rfl
noncomputable def mU:S:=(.Wl (.bool false (AK (eM Hd.n3 (mN (eS "."))) (eM Hd.n3 (mN (eS "["))))) (.ite (.cmp .Eq (.gZ (eM Hd.DV .nil) .value) (eS ".")) (.Tw 1 (eC Hd.Vk (SP (eS "Member") (.gZ Kf .line) (.lst (AK Kf (eM Hd.gl .nil))))) .nil) (.Tw 2 (eM Hd.VK (mN (.cst (.bool true)))) (.expr (eM Hd.zZ (mN (eS "]"))) (.Tw 1 (eC Hd.Vk (SP (eS "Index") (.gZ Kf .line) (.lst (AK Kf v0)))) .nil))) .nil) (.ret Kf))
theorem fO:mu Hd.dc 2 3 mU:=fun P=>by kernel_rfl
noncomputable def G2:S:=(.Tw 1 (.gZ (eM Hd.DV .nil) .line) (.expr (eM Hd.tx .nil) (.Tw 2 (eM Hd.dc (mN (.wJ (eM Hd.ZZ (mN (eS "new"))) (eM Hd.oM .nil) (eM Hd.Dv .nil)))) (.expr (eM Hd.Gi .nil) (.ret (eC Hd.Vk (SP (eS "New") Kf (.lst (AK v0 (.wJ (eM Hd.n3 (mN (eS "("))) (eM Hd.ND .nil) (.lst .nil)))))))))))
theorem x0:mu Hd.oM 1 3 G2:=fun P=>by kernel_rfl
noncomputable def Ks:S:=(.expr (eM Hd.zZ (mN (eS "("))) (.Tw 1 (.lst .nil) (.Wl (.not (eM Hd.n3 (mN (eS ")")))) (.expr (.Df Kf .app (mN (eM Hd.Gv (mN (.cst (.bool true)))))) (.ite (.not (eM Hd.UH (mN (eS ",")))) .brk .nil (.ite (eM Hd.n3 (mN (eS ")"))) (.expr (eM Hd.pV .nil) .nil) .nil .nil))) (.expr (eM Hd.zZ (mN (eS ")"))) (.ret Kf)))))
theorem CG:mu Hd.ND 1 2 Ks:=fun P=>by kernel_rfl
noncomputable def YV:S:=(.Tw 1 (.gZ Q4 .token) (.ite (.cmp .Eq (.gZ Kf .kind) (eS "name")) (.ret (eC Hd.Vk (SP (eS "Name") (.gZ Kf .line) (.lst (mN (eM Hd.Oi .nil)))))) .nil (.ite (.cmp .In (.gZ Kf .kind) (.tup (AK (eS "number") (eS "text")))) (.expr (eM Hd.ud (mN (eC Hd.CF (AK (.gZ Kf .uO) (.gZ Q4 .strict))))) (.expr (eM Hd.DV .nil) (.ret (eC Hd.Vk (SP (.wJ (.cmp .Eq (.gZ Kf .kind) (eS "number")) (eS "Num") (eS "Str")) (.gZ Kf .line) (.lst (mN (.gZ Kf .value)))))))) .nil (.ite (.cmp .Eq (.gZ Kf .kind) (eS "keyword")) (.ret (eM Hd.A3 .nil)) .nil (.ite (eM Hd.UH (mN (eS "("))) (.Tw 2 (eM Hd.VK (mN (.cst (.bool true)))) (.expr (eM Hd.zZ (mN (eS ")"))) (.ret v0))) .nil (.ite (eM Hd.n3 (mN (eS "["))) (.ret (eM Hd.OJ .nil)) .nil (.ite (eM Hd.n3 (mN (eS "{"))) .dead .nil (.ite (.bool false (AK (eM Hd.n3 (mN (eS "/"))) (eM Hd.n3 (mN (eS "/="))))) .dead .nil (.ret (eM Hd.pV .nil))))))))))
theorem jf:mu Hd.Dv 1 3 YV:=fun P=>by kernel_rfl
noncomputable def RN:S:=(.Tw 1 (.gZ Q4 .token) (.ite (eM Hd.ZZ (mN (eS "function"))) (.expr (eM Hd.DV .nil) .dead) .nil (.ite (.bool false (AK (.cmp .NotIn (.gZ Kf .value) (.tup (il (eS "this") (eS "null") (eS "true") (eS "false")))) (.not (.gZ Kf .plain)))) (.expr (eM Hd.pV .nil) .nil) .nil (.expr (eM Hd.DV .nil) (.ite (.cmp .Eq (.gZ Kf .value) (eS "this")) (.ret (eC Hd.Vk (SP (eS "This") (.gZ Kf .line) (.lst .nil)))) .nil (.ite (.cmp .Eq (.gZ Kf .value) (eS "null")) (.ret (eC Hd.Vk (SP (eS "Null") (.gZ Kf .line) (.lst .nil)))) .nil (.ret (eC Hd.Vk (SP (eS "Bool") (.gZ Kf .line) (.lst (mN (.cmp .Eq (.gZ Kf .value) (eS "true")))))))))))))
theorem qb:mu Hd.A3 1 2 RN:=fun P=>by kernel_rfl
noncomputable def QE:S:=(.Tw 1 (.gZ (eM Hd.DV .nil) .line) (.Tw 2 (.lst .nil) (.Wl (.not (eM Hd.n3 (mN (eS "]")))) (.ite (eM Hd.UH (mN (eS ","))) (.expr (.Df v0 .app (mN (.cst .none))) .cont) .nil (.expr (.Df v0 .app (mN (eM Hd.Gv (mN (.cst (.bool true)))))) (.ite (.not (eM Hd.n3 (mN (eS "]")))) (.expr (eM Hd.zZ (mN (eS ","))) .nil) .nil .nil))) (.expr (eM Hd.zZ (mN (eS "]"))) (.ret (eC Hd.Vk (SP (eS "Array") Kf (.lst (mN v0)))))))))
theorem Mr:mu Hd.OJ 1 3 QE:=fun P=>by kernel_rfl
noncomputable def oN:S:=(.ret (.lst (.cons (eS "+") (.cons (eS "-") (.cons (eS "*") (.cons (eS "<") (.cons (eS "in") (.cons (eS "&&") (il (eS "||") (eS "==") (eS "instanceof") (eS "&"))))))))))
theorem Bg:mu Hd.nj 0 0 oN:=fun P=>by kernel_rfl
noncomputable def gK:S:=(.qs Q4 (eI 1) (.bin .Add (.sub Q4 (eI 1)) (eI 1)) (.ite (.cmp .LtE (.sub Q4 (eI 1)) (.call (.builtin "len") (mN (.sub Q4 (eI 0))))) (.ret (.bin .Mod (.sub (.sub Q4 (eI 0)) (.bin .Sub (.sub Q4 (eI 1)) (eI 1))) Kf)) .nil (.ret (.bin .Mod (.bin .Add (.bin .Add (.bin .Mult (eI 5) (.sub Q4 (eI 1))) (.bin .FloorDiv (.bin .Mult (.sub Q4 (eI 1)) (.sub Q4 (eI 1))) (eI 4))) (.sub Q4 (eI 2))) Kf))))
theorem aN:mu Hd.Nu 2 2 gK:=fun P=>by kernel_rfl
noncomputable def D6:S:=(.Tw 2 (.wJ (.cmp .Gt Kf (eI 0)) (eC Hd.Nu (AK Q4 (eI 3))) (eI 0)) (.ite (.cmp .Eq v0 (eI 0)) (.ret (eC Hd.Vk (SP (eS "Name") (eI 1) (.lst (mN (.sub (eS "abc") (eC Hd.Nu (AK Q4 (eI 3))))))))) .nil (.Tw 3 (eC Hd.xM (AK Q4 (.bin .Sub Kf (eI 1)))) (.ret (.wJ (.cmp .Eq v0 (eI 1)) (eC Hd.Vk (SP (eS "Member") (eI 1) (.lst (AK Tv (eS "m"))))) (eC Hd.Vk (SP (eS "Index") (eI 1) (.lst (AK Tv (eC Hd.xM (AK Q4 (.bin .Sub Kf (eI 1)))))))))))))
theorem nK:mu Hd.Ww 2 4 D6:=fun P=>by kernel_rfl
noncomputable def fi:S:=(.Tw 2 (.wJ (.cmp .Gt Kf (eI 0)) (eC Hd.Nu (AK Q4 (eI 13))) (eC Hd.Nu (AK Q4 (eI 3)))) (.ite (.cmp .Eq v0 (eI 0)) (.ret (eC Hd.Ww (AK Q4 (eI 0)))) .nil (.ite (.cmp .Lt v0 (eI 3)) (.ret (.wJ (.cmp .Eq v0 (eI 1)) (eC Hd.Vk (SP (eS "This") (eI 1) (.lst .nil))) (eC Hd.Vk (SP (eS "Str") (eI 1) (.lst (mN (eS "s"))))))) .nil (.ite (.cmp .Eq v0 (eI 3)) (.ret (eC Hd.Vk (SP (eS "Unary") (eI 1) (.lst (AK (.sub (.lst (.cons (eS "-") (il (eS "+") (eS "!") (eS "typeof") (eS "void")))) (eC Hd.Nu (AK Q4 (eI 5)))) (eC Hd.xM (AK Q4 (.bin .Sub Kf (eI 1))))))))) .nil (.ite (.cmp .Eq v0 (eI 4)) (.ret (eC Hd.Vk (SP (eS "Update") (eI 1) (.lst (SP (.sub (.lst (AK (eS "++") (eS "--"))) (eC Hd.Nu (AK Q4 (eI 2)))) (.cmp .Eq (eC Hd.Nu (AK Q4 (eI 2))) (eI 0)) (eC Hd.Ww (AK Q4 (.bin .Sub Kf (eI 1))))))))) .nil (.ite (.cmp .Lt v0 (eI 8)) (.ol true [3,4] (.tup (AK (.sub (eC Hd.nj .nil) (eC Hd.Nu (AK Q4 (eI 10)))) (eC Hd.xM (AK Q4 (.bin .Sub Kf (eI 1)))))) (.ret (eC Hd.Vk (SP (.wJ (.cmp .In Tv (.tup (AK (eS "&&") (eS "||")))) (eS "Logical") (eS "Binary")) (eI 1) (.lst (SP Tv HG (eC Hd.xM (AK Q4 (.bin .Sub Kf (eI 1)))))))))) .nil (.Tw 4 (.wJ (.cmp .Eq v0 (eI 8)) (eC Hd.Ww (AK Q4 (.bin .Sub Kf (eI 1)))) (eC Hd.xM (AK Q4 (.bin .Sub Kf (eI 1))))) (.ite (.cmp .Eq v0 (eI 8)) (.ret (eC Hd.Vk (SP (eS "Assign") (eI 1) (.lst (SP (.sub (.lst (AK (eS "=") (eS "+="))) (eC Hd.Nu (AK Q4 (eI 2)))) HG (eC Hd.xM (AK Q4 (.bin .Sub Kf (eI 1))))))))) .nil (.ite (.cmp .Eq v0 (eI 9)) (.Tw 5 (eC Hd.xM (AK Q4 (.bin .Sub Kf (eI 1)))) (.ret (eC Hd.Vk (SP (eS "Cond") (eI 1) (.lst (SP HG O4 (eC Hd.xM (AK Q4 (.bin .Sub Kf (eI 1)))))))))) .nil (.Tw 5 (.qD (eC Hd.xM (AK HG (.bin .Sub Tv (eI 1)))) (eC Hd.Nu (AK Q4 (eI 3))) 1 [none,none,none,some 1,some 0]) (.ite (.cmp .Eq v0 (eI 10)) (.ret (.wJ (.bool true (AK (.cmp .NotEq O4 (.lst .nil)) (.cmp .NotEq (.gZ HG .kind) (eS "Comma")))) (eC Hd.Vk (SP (eS "Comma") (eI 1) (.lst (mN (.bin .Add (.lst (mN HG)) O4))))) (eC Hd.Vk (SP (eS "Array") (eI 1) (.lst (mN (.bin .Add (.lst (mN HG)) O4))))))) .nil (.ret (eC Hd.Vk (SP (.wJ (.cmp .Eq v0 (eI 11)) (eS "Call") (eS "New")) (eI 1) (.lst (AK HG O4))))))))))))))))
theorem XR:mu Hd.xM 2 6 fi:=fun P=>by kernel_rfl
noncomputable def QQ:S:=(.ite (.call (.builtin "isinstance") (AK Q4 (.Vt (.ref Hd.Vk)))) (.ret (.bin .Add (.lst (mN (.gZ Q4 .kind))) (.comp (eC Hd.ry (mN Kf)) (.gZ Q4 .parts) 1 [none,none,none]))) .nil (.ite (.call (.builtin "isinstance") (AK Q4 (.tup (AK (.Vt (.type "list")) (.Vt (.type "tuple")))))) (.ret (.comp (eC Hd.ry (mN Kf)) Q4 1 [none,none,none])) .nil (.ret (.wJ (.call (.builtin "isinstance") (AK Q4 (.Vt (.type "bool")))) (.call (.type "str") (mN Q4)) Q4))))
theorem TN:mu Hd.ry 1 1 QQ:=fun P=>by kernel_rfl
noncomputable def lS:S:=(.AR 1 (eC Hd.Mg (mN Q4)) 2 (eC Hd.ry (mN (.Df Kf (.own Hd.Mg Hd.VK) (mN (.cst (.bool true)))))) (.ret (.wJ (.cmp .Eq (.gZ (.gZ Kf .token) .kind) (eS "end")) v0 (.cst .none))))
theorem Mj:mu Hd.Xc 1 3 lS:=fun P=>by kernel_rfl
noncomputable def Dt:S:=(.ol true [1,2] (.tup (AK (.lst .nil) (.lst .nil))) (.zX [3,4] Q4 (.ite (.cmp .Eq HG (eS "(")) (.expr (.Df v0 .app (mN (.tup (AK Tv (.bool false (AK (.cmp .Eq Tv (eI 0)) (.cmp .NotIn (.sub Q4 (.bin .Sub Tv (eI 1))) (eS "abcms\")]")))))))) .nil) (.ite (.cmp .Eq HG (eS ")")) (.ol false [5,6] (.Df v0 .pop .nil) (.expr (.Df Kf .ext (mN (.wJ uJ (.lst (mN (.tup (AK O4 Tv)))) (.lst .nil)))) .nil)) .nil .nil) .nil) (.ret Kf)))
theorem D3:mu Hd.BA 1 7 Dt:=fun P=>by kernel_rfl
noncomputable def EB:S:=(.Tw 1 (.lst (SP (.call (.type "list") (mN (.iU 0 50))) (eI 0) (.bin .Mod (.call (.builtin "sum") (mN (.iU 0 50))) (eI 997)))) (.Tw 2 (.bin .Add (eI 1) (eC Hd.Nu (AK Kf (eI 2)))) (.GD 3 v0 (.Tw 4 (eC Hd.xM (AK Kf (.bin .Sub (eI 4) v0))) (.ol true [5,6] (.tup (AK (eC Hd.ry (mN HG)) (eC Hd.ze (SP HG (eI 0) (.cst (.bool false)))))) (.ite (.cmp .NotEq (eC Hd.Xc (mN uJ)) O4) (.ret (.cst (.bool false))) .nil (.XM [7,8] (eC Hd.BA (mN uJ)) (.ite (.cmp .Eq (eC Hd.Xc (mN (.bin .Add (.bin .Add (.bin .Add (.bin .Add (.jk 6 (.cst .none) AN) (eS " ")) (.jk 6 (.bin .Add AN (eI 1)) EX)) (eS " ")) (.jk 6 (.bin .Add EX (eI 1)) (.cst .none))))) O4) (.ret (.cst (.bool false))) .nil .nil) (.gM 9 (eI 1) (.bin .Sub (.call (.builtin "len") (mN uJ)) (eI 1)) (.Tw 10 (.bool true (il (.cmp .Eq (.sub uJ Su) (eS " ")) (.cmp .In (.sub uJ (.bin .Sub Su (eI 1))) (eS "+-")) (.cmp .Eq (.sub uJ (.bin .Sub Su (eI 1))) (.sub uJ (.bin .Add Su (eI 1)))) (.cmp .NotEq (.jk 6 (.bin .Sub Su (eI 2)) (.bin .Sub Su (eI 1))) (.sub uJ (.bin .Sub Su (eI 1)))))) (.ite (.bool true (AK (.loc 10) (.cmp .Eq (eC Hd.Xc (mN (.bin .Add (.jk 6 (.cst .none) Su) (.jk 6 (.bin .Add Su (eI 1)) (.cst .none))))) O4))) (.ret (.cst (.bool false))) .nil .nil)) .nil))))) (.ret (.cst (.bool true))))))
theorem iY:mu Hd.aB 1 11 EB:=fun P=>by kernel_rfl
noncomputable def n6(l:List Nat):Str:=⟨l.toArray⟩
theorem Q8(l:List Nat):(n6 l).length=l.length:=by simp[n6,Str.length]
theorem AS(a b:List Nat):n6 a++n6 b=n6 (a++b):=by show Str.append _ _=_;simp[n6,Str.append]
theorem VR{a b:List Nat}:n6 a=n6 b↔a=b:=by simp[n6]
set_option genSizeOf false in
set_option genInjectivity false in
inductive Tk where
 |a|b|c|m|this|str|new|vN|void|dP|inst|plus|minus|star|lt|and|or|eq|amp|not|inc|dec|asg|rQ|quest|colon|comma|dot|lp|rp|lb|rb
 deriving DecidableEq
noncomputable def VS:List Tk:=[.a,.b,.c,.m,.this,.str,.new,.vN,.void,.dP,.inst,.plus,.minus,.star,.lt,.and,.or,.eq,.amp,.not,.inc,.dec,.asg,.rQ,.quest,.colon,.comma,.dot,.lp,.rp,.lb,.rb]
theorem Tf(t:Tk):t∈VS:=C3D (i:=t.ctorIdx) (by cases t<;>rfl)
@[elab_as_elim]theorem bZ{p:Tk→Prop}(t:Tk) [DecidablePred p](h:VS.all (fun t=>decide (p t))=true):p t:=of_decide_eq_true (List.all_eq_true.mp h t (Tf t))
theorem yV{p:Tk→Tk→Bool}(h:(VS.all fun t=>VS.all (p t))=true)(t u:Tk):p t u=true:=List.all_eq_true.mp (List.all_eq_true.mp h t (Tf t)) u (Tf u)
set_option genSizeOf false in
set_option genInjectivity false in
inductive Kd where
 |name|keyword|text|SK|stop
 deriving DecidableEq
noncomputable def Tk.kd(t:Tk):Kd:=([.name,.name,.name,.name,.keyword,.text,.keyword,.keyword,.keyword,.keyword,.keyword]:List Kd).getD t.ctorIdx .SK
noncomputable def Kd.s(k:Kd):Str:=(["name","keyword","text","punct","end"]:List Str).getD k.ctorIdx ""
noncomputable def Tk.v(t:Tk):Str:=(["a","b","c","m","this","s","new","typeof","void","in","instanceof","+","-","*","<","&&","||","==","&","!","++","--","=","+=","?",":",",",".","(",")","[","]"]:List Str).getD t.ctorIdx ""
noncomputable def Tk.ch(t:Tk):List Nat:=([[97],[98],[99],[109],[116,104,105,115],[34,115,34],[110,101,119],[116,121,112,101,111,102],[118,111,105,100],[105,110],[105,110,115,116,97,110,99,101,111,102],[43],[45],[42],[60],[38,38],[124,124],[61,61],[38],[33],[43,43],[45,45],[61],[43,61],[63],[58],[44],[46],[40],[41],[91],[93]]:List (List Nat)).getD t.ctorIdx []
theorem Pa:Tk.ch .m= [109]:=rfl
theorem sA:Tk.ch .new= [110,101,119]:=rfl
theorem NC:Tk.ch .quest= [63]:=rfl
theorem KO:Tk.ch .colon= [58]:=rfl
theorem vc:Tk.ch .comma= [44]:=rfl
theorem Ny:Tk.ch .dot= [46]:=rfl
theorem xR:Tk.ch .lp= [40]:=rfl
theorem qu:Tk.ch .rp= [41]:=rfl
theorem lq:Tk.ch .lb= [91]:=rfl
theorem Lo:Tk.ch .rb= [93]:=rfl
theorem tC:Tk.ch .plus= [43]:=rfl
theorem gR:Tk.ch .minus= [45]:=rfl
theorem YL:Tk.ch .inc= [43,43]:=rfl
theorem yv:Tk.ch .dec= [45,45]:=rfl
noncomputable def CM:Option Tk→Kd
 |some t=>t.kd
 |none=>.stop
noncomputable def vO:Option Tk→Str
 |some t=>t.v
 |none=>""
theorem Zr(t:Tk)(h:t≠ .str):t.v=n6 t.ch:=by revert h;exact bZ t (by kernel_rfl)
noncomputable abbrev It:=Option Tk
noncomputable def It.ch:It→List Nat
 |some t=>t.ch
 |none=>[32]
noncomputable def XE(is:List It):List Nat:=is.flatMap It.ch
noncomputable def isLetter(c:Nat):Bool:=(65≤c&&c≤90) || (97≤c&&c≤122) || c==36 || c==95
noncomputable def B6(c:Nat):Bool:=isLetter c || (48≤c&&c≤57)
noncomputable def eQ:List (List Nat):=[[62,62,62,61],[61,61,61],[33,61,61],[62,62,62],[60,60,61],[62,62,61],[60,61],[62,61],[61,61],[33,61],[43,43],[45,45],[60,60],[62,62],[38,38],[124,124],[43,61],[45,61],[42,61],[37,61],[38,61],[124,61],[94,61],[47,61],[123],[125],[40],[41],[91],[93],[46],[59],[44],[60],[62],[43],[45],[42],[37],[38],[124],[94],[33],[126],[63],[58],[61],[47]]
noncomputable def CR(t:Tk)(c:Nat):Bool:=match t.kd with
 | .SK=>eQ.all fun p=> !(t.ch++[c]).isPrefixOf p
 | .text=>true
 |_=> !B6 c
noncomputable def x6:List It→Bool
 | []=>true
 |none::r=>x6 r
 |some t::r=>(match(XE r).head? with|some c=>CR t c|none=>true)&&x6 r
noncomputable def toks(is:List It):List Tk:=is.filterMap id
end Mine
namespace Mine
open PySem
section
set_option genInjectivity false in
mutual
inductive Tr where
 |hole|name (x:Tk)|this|str
 |un (o:Tk) (a:Tr)|upd (o:Tk) (pre:Bool) (a:Tr)|bin (o:Tk) (a b:Tr)|asg (o:Tk) (a b:Tr)|cond (a b c:Tr)
 |comma (as:Ts)|arr (as:Ts)|call (f:Tr) (as:Ts)|new (f:Tr) (as:Ts)|mem (a:Tr) (x:Tk)|idx (a b:Tr)
inductive Ts where
 |nil|cons (a:Tr) (as:Ts)
end
noncomputable def fo{α β:Type}(h:α)(nm:Tk→α)(th st:α)(un:Tk→Tr→α→α)(up:Tk→Bool→Tr→α→α)(bi as:Tk→Tr→Tr→α→α→α)(co:Tr→Tr→Tr→α→α→α→α)(cm ar:Ts→β→α)(ca ne:Tr→α→β→α)(me:Tr→Tk→α→α)(ix:Tr→Tr→α→α→α)(z:β)(c:Tr→α→β→β):(Tr→α)×(Ts→β):=
 ⟨fun t=>Tr.rec (motive_1:=fun zz=>α) (motive_2:=fun zz=>β) h nm th st un up bi as co cm ar (fun f zz=>ca f) (fun f zz=>ne f) me ix z (fun a zz=>c a) t,fun t=>Ts.rec (motive_1:=fun zz=>α) (motive_2:=fun zz=>β) h nm th st un up bi as co cm ar (fun f zz=>ca f) (fun f zz=>ne f) me ix z (fun a zz=>c a) t⟩
noncomputable def Ts.app:Ts→Ts→Ts
 | .nil,b=>b
 | .cons a r,b=>.cons a (r.app b)
noncomputable def Ts.snoc(l:Ts)(a:Tr):Ts:=l.app (.cons a .nil)
set_option genInjectivity false in
set_option genSizeOf false in
inductive Res where
 |out|fail|ok (a:Tr) (ts:List Tk)
noncomputable def Res.bind(R:Res)(f:Tr→List Tk→Res):Res:=Res.rec .out .fail f R
def Res.el(R:Res)(O X:Prop)(Q:Tr→List Tk→Prop):Prop:=Res.rec O X Q R
noncomputable def is(p:Tk→Bool)(ts:List Tk):Bool:=List.casesOn ts false fun t zz=>p t
noncomputable def hd(p:Tk→Bool)(ts:List Tk)(yes:Tk→List Tk→Res)(no:Res):Res:=List.casesOn ts no fun t r=>bif p t then yes t r else no
noncomputable def eqT(x t:Tk):Bool:=decide (t=x)
noncomputable def vV(k:Kd)(t:Tk):Bool:=decide (t.kd=k)
noncomputable def dJ(nest:Nat)(R:Res):Res:=bif decide (40<nest+1)then .fail else R
section
variable{R:Res}{f:Tr→List Tk→Res}{O O' X X':Prop}{Q Q':Tr→List Tk→Prop}{p:Tk→Bool}{ts r:List Tk}{t:Tk}{yes:Tk→List Tk→Res}{no:Res}{nest:Nat}
theorem YY:(R.bind f).el O X Q=R.el O X fun t r=>(f t r).el O X Q:=by cases R<;>rfl
theorem zv(h:R.el O X Q)(o:O→O')(x:X→X')(q:∀t r,Q t r→Q' t r):R.el O' X' Q':=match R,h with
 | .out,h=>o h
 | .fail,h=>x h
 | .ok _ _,h=>q _ _ h
theorem WB(h:(R.bind f).el O X Q)(o:O→O')(x:X→X')(q:∀t r,(f t r).el O X Q→Q' t r):R.el O' X' Q':=zv (Eq.mp YY h) o x q
theorem wH(h:R.el O X fun t r=>(f t r).el O X Q):(R.bind f).el O X Q:=Eq.mpr YY h
theorem bind_eq{t:Tr}(h:R= .ok t r):R.bind f=f t r:=by rw[h];rfl
theorem We(h:is p ts=false):hd p ts yes no=no:=by
 cases ts with
 |nil=>rfl
 |cons t r=>show cond (p t) _ _=_;rw[show p t=false from h];rfl
theorem cL(h:p t=true):hd p (t::r) yes no=yes t r:=by show cond (p t) _ _=_;rw[h];rfl
theorem Mv{t:Tr}(h:(Res.ok t r).el O X Q):Q t r:=h
theorem UJ(q:is p ts=false)(h:(hd p ts yes no).el O X Q):no.el O X Q:=We (yes:=yes) (no:=no) q▸h
theorem X4(q:p t=true)(h:(hd p (t::r) yes no).el O X Q):(yes t r).el O X Q:=cL (yes:=yes) (no:=no) q▸h
theorem wu{C:Prop}(h:is p ts=true)(k:∀t r,ts=t::r→p t=true→C):C:=by
 cases ts with
 |nil=>cases h
 |cons t r=>exact k t r rfl h
theorem Ik{C:Res→Prop}(h0:is p ts=false→C no)(h1:∀t r,ts=t::r→p t=true→C (yes t r)):C (hd p ts yes no):=by
 cases h:is p ts
 ·rw[We h];exact h0 h
 ·refine wu h fun t r e q=>?_;subst e;rw[cL q];exact h1 t r rfl q
theorem uS{C:Prop}(q:is p ts=true)(h:(hd p ts yes no).el O X Q)(k:∀o,ts.head? =some o→p o=true→(yes o ts.tail).el O X Q→C):C:=wu q fun t r e z=>by subst e;exact k t rfl z (X4 z h)
@[elab_as_elim]theorem BD{C:Bool→Prop}{b:Bool}(key:b=is p ts)(h:(hd p ts yes no).el O X Q)(hF:is p ts=false→no.el O X Q→C false)(hT:∀o,ts.head? =some o→p o=true→(yes o ts.tail).el O X Q→C true):C b:=by
 subst key;cases q:is p ts
 ·exact hF q (UJ q h)
 ·exact uS q h fun o e z h=>hT o e z h
theorem kI{x t:Tk}(h:eqT x t=true):t=x:=of_decide_eq_true h
theorem Ce{x:Tk}:eqT x x=true:=decide_eq_true rfl
theorem aY{C:Res→Prop}(h0:40<nest+1→C .fail)(h1:¬40<nest+1→C R):C (dJ nest R):=by
 unfold dJ;cases q:decide (40<nest+1)
 ·exact h1 (of_decide_eq_false q)
 ·exact h0 (of_decide_eq_true q)
theorem Th(h:¬40<nest+1):dJ nest R=R:=by unfold dJ;rw[decide_eq_false h];rfl
end
noncomputable def aV(t:Tr):Bool:=([1,13,14]:List Nat).contains t.ctorIdx
noncomputable def B3(t:Tk):Bool:=([.asg,.rQ]:List Tk).contains t
noncomputable def PY(t:Tk):Bool:=([.inc,.dec]:List Tk).contains t
noncomputable def wj(t:Tk):Bool:=([.plus,.minus,.not,.vN,.void]:List Tk).contains t
noncomputable def isWord(t:Tk):Bool:=vV .name t || vV .keyword t
noncomputable def Qa(t:Tk):Nat:=(([(.or,1),(.and,2),(.amp,5),(.eq,6),(.lt,7),(.dP,7),(.inst,7),(.plus,9),(.minus,9),(.star,10)]:List (Tk×Nat)).lookup t).getD 0
noncomputable def prio(ts:List Tk):Nat:=List.casesOn ts 0 fun t zz=>Qa t
noncomputable def yc(t:Tr):Ts:=Tr.rec (motive_1:=fun zz=>Ts) (motive_2:=fun zz=>Unit) .nil (fun zz=>.nil) .nil .nil (fun zz zz zz=>.nil) (fun zz zz zz zz=>.nil) (fun zz zz zz zz zz=>.nil) (fun zz zz zz zz zz=>.nil) (fun zz zz zz zz zz zz=>.nil) (fun zz zz=>.nil) (fun as zz=>as) (fun zz zz zz zz=>.nil) (fun zz zz zz zz=>.nil) (fun zz zz zz=>.nil) (fun zz zz zz zz=>.nil) () (fun zz zz zz zz=>()) t
set_option genInjectivity false in
set_option genSizeOf false in
inductive SA where
 |expr|asg|cond|bin (least:Nat)|unary|behind|postfix|lhs|members (t:Tr)|rz|args|YK|word|array
noncomputable abbrev ZI:=SA→Nat→List Tk→Res
section
variable(c:ZI)(nest:Nat)
noncomputable def qt(l:Nat):Ts→List Tk→Res:=Nat.rec (fun zz zz=>.out) (fun zz lp acc ts=>
 hd (eqT .comma) ts (fun zz r=>(c .asg nest r).bind fun t r'=>lp (acc.snoc t) r') (.ok (.comma acc) ts)) l
noncomputable def Va(ts:List Tk):Res:=(c .asg nest ts).bind fun t r=>hd (eqT .comma) r (fun zz zz=>qt c nest (r.length+1) (.cons t .nil) r) (.ok t r)
noncomputable def bB(ts:List Tk):Res:=dJ nest ((c .cond (nest+1) ts).bind fun t r=>hd B3 r (fun o r=>bif aV t then(c .asg (nest+1) r).bind fun b r=>.ok (.asg o t b) r else .fail) (.ok t r))
noncomputable def Lz(ts:List Tk):Res:=(c (.bin 1) nest ts).bind fun t r=>hd (eqT .quest) r (fun zz r=>(c .asg nest r).bind fun a r=>hd (eqT .colon) r (fun zz r=>(c .asg nest r).bind fun b r=>.ok (.cond t a b) r) .fail) (.ok t r)
noncomputable def Fj(least l:Nat):Tr→List Tk→Res:=Nat.rec (fun zz zz=>.out) (fun zz lp a ts=>
 hd (fun o=>decide (least≤Qa o)) ts (fun o r=>(c (.bin (Qa o+1)) nest r).bind fun b r=>lp (.bin o a b) r) (.ok a ts)) l
noncomputable def xI(least:Nat)(ts:List Tk):Res:=(c .unary nest ts).bind fun t r=>Fj c nest least (r.length+1) t r
noncomputable def wP(ts:List Tk):Res:=hd PY ts (fun o zz=>(c .behind nest ts).bind fun t r=>bif aV t then .ok (.upd o true t) r else .fail)
 (hd wj ts (fun o zz=>(c .behind nest ts).bind fun t r=>.ok (.un o t) r) (c .postfix nest ts))
noncomputable def mi(ts:List Tk):Res:=dJ nest (c .unary (nest+1) ts.tail)
noncomputable def bf(ts:List Tk):Res:=(c .lhs nest ts).bind fun t r=>hd PY r (fun o r=>bif aV t then .ok (.upd o false t) r else .fail) (.ok t r)
noncomputable def Cp(l:Nat):Tr→List Tk→Res:=Nat.rec (fun zz zz=>.out) (fun zz lp t ts=>
 hd (eqT .lp) ts (fun zz zz=>(c .args nest ts).bind fun as r=>(c (.members (.call t (yc as))) nest r).bind lp) (.ok t ts)) l
noncomputable def bO(ts:List Tk):SA:=bif is (eqT .new) ts then .rz else .YK
noncomputable def tf(ts:List Tk):Res:=(c (bO ts) nest ts).bind fun t r=>(c (.members t) nest r).bind fun t r=>Cp c nest (r.length+1) t r
noncomputable def DI(l:Nat):Tr→List Tk→Res:=Nat.rec (fun zz zz=>.out) (fun zz lp t ts=>
 hd (eqT .dot) ts (fun zz r=>hd isWord r (fun x r=>lp (.mem t x) r) .fail) (hd (eqT .lb) ts (fun zz r=>(c .expr nest r).bind fun k r=>hd (eqT .rb) r (fun zz r=>lp (.idx t k) r) .fail) (.ok t ts))) l
noncomputable def ez(ts:List Tk):Res:=dJ nest ((c (bO ts.tail) (nest+1) ts.tail).bind fun t r=>(c (.members t) (nest+1) r).bind fun t r=>
 hd (eqT .lp) r (fun zz zz=>(c .args nest r).bind fun as r=>.ok (.new t (yc as)) r) (.ok (.new t .nil) r))
noncomputable def kS(l:Nat):Ts→List Tk→Res:=Nat.rec (fun zz zz=>.out) (fun zz lp acc ts=>
 hd (eqT .rp) ts (fun zz r=>.ok (.arr acc) r) ((c .asg nest ts).bind fun t r=>hd (eqT .comma) r (fun zz r=>hd (eqT .rp) r (fun zz zz=>.fail) (lp (acc.snoc t) r)) (hd (eqT .rp) r (fun zz r=>.ok (.arr (acc.snoc t)) r) .fail))) l
noncomputable def lj(ts:List Tk):Res:=hd (eqT .lp) ts (fun zz r=>kS c nest (r.length+1) .nil r) .fail
noncomputable def pz(ts:List Tk):Res:=hd (vV .name) ts (fun x r=>.ok (.name x) r) (hd (vV .text) ts (fun zz r=>.ok .str r) (hd (vV .keyword) ts (fun zz zz=>c .word nest ts)
 (hd (eqT .lp) ts (fun zz r=>(c .expr nest r).bind fun t r=>hd (eqT .rp) r (fun zz r=>.ok t r) .fail) (hd (eqT .lb) ts (fun zz zz=>c .array nest ts) .fail))))
noncomputable def GH(ts:List Tk):Res:=hd (eqT .this) ts (fun zz r=>.ok .this r) .fail
noncomputable def Bd(l:Nat):Ts→List Tk→Res:=Nat.rec (fun zz zz=>.out) (fun zz lp acc ts=>
 hd (eqT .rb) ts (fun zz r=>.ok (.arr acc) r) (hd (eqT .comma) ts (fun zz r=>lp (acc.snoc .hole) r) ((c .asg nest ts).bind fun t r=>
  hd (eqT .rb) r (fun zz r=>.ok (.arr (acc.snoc t)) r) (hd (eqT .comma) r (fun zz r=>lp (acc.snoc t) r) .fail)))) l
noncomputable def O7(ts:List Tk):Res:=Bd c nest (ts.tail.length+1) .nil ts.tail
noncomputable def pJ(j:SA)(ts:List Tk):Res:=SA.casesOn j (Va c nest ts) (bB c nest ts) (Lz c nest ts) (fun l=>xI c nest l ts) (wP c nest ts) (mi c nest ts) (bf c nest ts) (tf c nest ts)
 (fun t=>DI c nest (ts.length+1) t ts) (ez c nest ts) (lj c nest ts) (pz c nest ts) (GH ts) (O7 c nest ts)
end
noncomputable def P(k:Nat):ZI:=Nat.rec (fun zz zz zz=>.out) (fun zz c j nest ts=>pJ c nest j ts) k
example (k ts nest):P (k+1) .expr nest ts=Va (P k) nest ts:=rfl
example (c l t ts nest):DI c nest (l+1) t ts=hd (eqT .dot) ts (fun zz r=>hd isWord r (fun x r=>DI c nest l (.mem t x) r) .fail) (hd (eqT .lb) ts (fun zz r=>(c .expr nest r).bind fun k r=>hd (eqT .rb) r (fun zz r=>DI c nest l (.idx t k) r) .fail) (.ok t ts)):=rfl
end
section
noncomputable def eP(o:Tk):Nat:=(([(.or,3),(.and,4),(.amp,7),(.eq,8),(.lt,9),(.dP,9),(.inst,9),(.plus,11),(.minus,11),(.star,12)]:List (Tk×Nat)).lookup o).getD 0
noncomputable def V3(t:Tr):Nat:=(fo (β:=Unit) 16 (fun zz=>16) 16 16 (fun zz zz zz=>13) (fun zz p zz zz=>bif p then 13 else 14) (fun o zz zz zz zz=>eP o) (fun zz zz zz zz zz=>1) (fun zz zz zz zz zz zz=>2) (fun zz zz=>0) (fun zz zz=>16) (fun zz zz zz=>15) (fun zz zz zz=>16) (fun zz zz zz=>16) (fun zz zz zz zz=>16) () fun zz zz zz=>()).1 t
noncomputable def EF(t:Tr):Bool:=(fo (β:=Unit) false (fun zz=>false) false false (fun zz zz zz=>false) (fun zz zz zz zz=>false) (fun zz zz zz zz zz=>false) (fun zz zz zz zz zz=>false) (fun zz zz zz zz zz zz=>false) (fun zz zz=>false) (fun zz zz=>false) (fun zz zz zz=>true) (fun zz zz zz=>false) (fun zz zz h=>h) (fun zz zz h zz=>h) () fun zz zz zz=>()).1 t
noncomputable def wrap(l:Nat)(t:Tr)(b:List It):List It:=if V3 t<l then some Tk.lp::b++[some .rp]else b
noncomputable def hV(o:Tk):List It:=[none,some o,none]
noncomputable def Xn:List (List It)→List It
 | []=>[]
 | [x]=>x
 |x::y::r=>x++[some .comma,none]++Xn (y::r)
noncomputable def zb(o:Tk)(b:List It):Bool:=([.vN,.void]:List Tk).contains o || ((XE b).head? ==o.ch.getLast? &&([.plus,.minus,.inc,.dec]:List Tk).contains o)
noncomputable def RZ(o:Tk)(b:List It):List It:=some o::(if zb o b then[none]else[])++b
noncomputable def nP:(Tr→List It)×(Ts→List (List It)):=fo [] (fun x=>[some x]) [some .this] [some .str] (fun o a x=>RZ o (wrap 13 a x)) (fun o p a x=>bif p then RZ o (wrap 13 a x)else wrap 15 a x++[some o]) (fun o a b x y=>wrap (eP o) a x++hV o++wrap (eP o+1) b y)
 (fun o a b x y=>wrap 15 a x++hV o++wrap 1 b y) (fun a b c x y z=>wrap 3 a x++hV .quest++wrap 1 b y++hV .colon++wrap 1 c z) (fun zz bs=>Xn bs) (fun zz bs=>some .lb::Xn bs++[some .rb]) (fun f x bs=>wrap 15 f x++(some .lp::Xn bs++[some .rp]))
 (fun f x bs=>[some .new,none]++(if V3 f=16∧EF f=true then some .lp::x++[some .rp]else wrap 16 f x)++(some .lp::Xn bs++[some .rp])) (fun a x y=>wrap 15 a y++[some .dot,some x]) (fun a b x y=>wrap 15 a x++(some .lb::wrap 0 b y++[some .rb])) [] fun a x bs=>wrap 1 a x::bs
noncomputable def bare(t:Tr):List It:=nP.1 t
noncomputable def Vs(as:Ts):List (List It):=nP.2 as
noncomputable def sh(l:Nat)(t:Tr):List It:=wrap l t (bare t)
noncomputable def Pk(as:Ts):Bool:=Ts.casesOn (motive_2:=fun zz=>Bool) as false fun zz zz=>true
noncomputable def DL(as:Ts):Bool:=Ts.casesOn (motive_2:=fun zz=>Bool) as false fun a r=>Ts.casesOn (motive_2:=fun zz=>Bool) r false fun zz zz=> !(a.ctorIdx==9)
noncomputable def iP:(Tr→Bool)×(Ts→Bool):=fo false (fun x=>([.a,.b,.c]:List Tk).contains x) true true (fun o zz k=>wj o&&k) (fun o zz a k=>PY o&&aV a&&k) (fun o zz zz k l=>decide (0<eP o)&&k&&l) (fun o a zz k l=>B3 o&&aV a&&k&&l) (fun zz zz zz k l m=>k&&l&&m) (fun as k=>k&&DL as) (fun as k=>k&&Pk as)
 (fun zz k l=>k&&l) (fun zz k l=>k&&l) (fun zz x k=>k&&decide (x= .m)) (fun zz zz k l=>k&&l) true fun zz k l=>k&&l
noncomputable def LZ(t:Tr):Bool:=iP.1 t
noncomputable def Pr(as:Ts):Bool:=iP.2 as
noncomputable def dF:(Tr→Nat)×(Ts→Nat):=fo 0 (fun zz=>0) 0 0 (fun zz zz n=>n+1) (fun zz zz zz n=>n+1) (fun zz zz zz n m=>max n m+1) (fun zz zz zz n m=>max n m+1) (fun zz zz zz n m k=>max n (max m k)+1) (fun zz n=>n+1) (fun zz n=>n+1) (fun zz n m=>max n m+1) (fun zz n m=>max n m+1) (fun zz zz n=>n+1) (fun zz zz n m=>max n m+1) 0 fun zz n m=>max n m
noncomputable def dT(t:Tr):Nat:=dF.1 t
noncomputable def sR(as:Ts):Nat:=dF.2 as
noncomputable def xv:(Tr→Nat)×(Ts→Nat):=fo 1 (fun zz=>1) 1 1 (fun zz zz n=>n+1) (fun zz zz zz n=>n+1) (fun zz zz zz n m=>n+m+1) (fun zz zz zz n m=>n+m+1) (fun zz zz zz n m k=>n+m+k+1) (fun zz=>(· + 1)) (fun zz=>(· + 1)) (fun zz n m=>n+m+1) (fun zz n m=>n+m+1) (fun zz zz n=>n+1) (fun zz zz n m=>n+m+1) 0 fun zz n m=>n+m
noncomputable def JY(t:Tr):Nat:=xv.1 t
noncomputable def c8(as:Ts):Nat:=xv.2 as
theorem aQ{a:Tr}{as:Ts}:Pk (.cons a as)=true:=rfl
section
variable{o x:Tk}{p:Bool}{a b c:Tr}{as:Ts}
theorem LP:dT (.name x)=0:=rfl
theorem Aw:LZ (.name x)=([.a,.b,.c]:List Tk).contains x:=rfl
theorem lO:bare (.name x)= [some x]:=rfl
theorem J5:dT .this=0:=rfl
theorem H9:LZ .this=true:=rfl
theorem M1:bare .this= [some .this]:=rfl
theorem Nx:dT .str=0:=rfl
theorem Vn:LZ .str=true:=rfl
theorem T3:bare .str= [some .str]:=rfl
theorem xH:dT (.un o a)=dT a+1:=rfl
theorem vb:LZ (.un o a)=(wj o&&LZ a):=rfl
theorem kZ:bare (.un o a)=RZ o (wrap 13 a (bare a)):=rfl
theorem za:V3 (.un o a)=13:=rfl
theorem Dg:dT (.upd o p a)=dT a+1:=rfl
theorem AJ:LZ (.upd o p a)=(PY o&&aV a&&LZ a):=rfl
theorem DT:dT (.bin o a b)=max (dT a) (dT b)+1:=rfl
theorem uB:LZ (.bin o a b)=(decide (0<eP o)&&LZ a&&LZ b):=rfl
theorem BJ:bare (.bin o a b)=wrap (eP o) a (bare a)++hV o++wrap (eP o+1) b (bare b):=rfl
theorem Qt:dT (.asg o a b)=max (dT a) (dT b)+1:=rfl
theorem uU:LZ (.asg o a b)=(B3 o&&aV a&&LZ a&&LZ b):=rfl
theorem Jp:bare (.asg o a b)=wrap 15 a (bare a)++hV o++wrap 1 b (bare b):=rfl
theorem zB:V3 (.asg o a b)=1:=rfl
theorem Vy:dT (.cond a b c)=max (dT a) (max (dT b) (dT c))+1:=rfl
theorem Nk:LZ (.cond a b c)=(LZ a&&LZ b&&LZ c):=rfl
theorem RQ:bare (.cond a b c)=wrap 3 a (bare a)++hV .quest++wrap 1 b (bare b)++hV .colon++wrap 1 c (bare c):=rfl
theorem xP:V3 (.cond a b c)=2:=rfl
theorem xp:dT (.comma as)=sR as+1:=rfl
theorem KX:LZ (.comma as)=(Pr as&&DL as):=rfl
theorem Cf:bare (.comma as)=Xn (Vs as):=rfl
theorem GJ:V3 (.comma as)=0:=rfl
theorem cW:dT (.arr as)=sR as+1:=rfl
theorem mz:LZ (.arr as)=(Pr as&&Pk as):=rfl
theorem fS:bare (.arr as)=some .lb::Xn (Vs as)++[some .rb]:=rfl
theorem ZK:V3 (.arr as)=16:=rfl
theorem oD:dT (.call a as)=max (dT a) (sR as)+1:=rfl
theorem Wg:LZ (.call a as)=(LZ a&&Pr as):=rfl
theorem jg:bare (.call a as)=wrap 15 a (bare a)++(some .lp::Xn (Vs as)++[some .rp]):=rfl
theorem XB:V3 (.call a as)=15:=rfl
theorem Ws:dT (.new a as)=max (dT a) (sR as)+1:=rfl
theorem Dk:LZ (.new a as)=(LZ a&&Pr as):=rfl
theorem AM:bare (.new a as)= [some .new,none]++(if V3 a=16∧EF a=true then some .lp::bare a++[some .rp]else wrap 16 a (bare a))++(some .lp::Xn (Vs as)++[some .rp]):=rfl
theorem Ba:V3 (.new a as)=16:=rfl
theorem Hl:dT (.mem a x)=dT a+1:=rfl
theorem gi:LZ (.mem a x)=(LZ a&&decide (x= .m)):=rfl
theorem dW:bare (.mem a x)=wrap 15 a (bare a)++[some .dot,some x]:=rfl
theorem lW:V3 (.mem a x)=16:=rfl
theorem XH:dT (.idx a b)=max (dT a) (dT b)+1:=rfl
theorem RU:LZ (.idx a b)=(LZ a&&LZ b):=rfl
theorem lP:bare (.idx a b)=wrap 15 a (bare a)++(some .lb::wrap 0 b (bare b)++[some .rb]):=rfl
theorem uV:V3 (.idx a b)=16:=rfl
theorem wR:bare (.upd o true a)=RZ o (wrap 13 a (bare a)):=rfl
theorem Xm:bare (.upd o false a)=wrap 15 a (bare a)++[some o]:=rfl
theorem bK:bare .hole= []:=rfl
theorem Ea:LZ .hole=false:=rfl
theorem DG:dT .hole=0:=rfl
theorem ge:sR .nil=0:=rfl
theorem IW:sR (.cons a as)=max (dT a) (sR as):=rfl
theorem JR:Pr .nil=true:=rfl
theorem Wf:Pr (.cons a as)=(LZ a&&Pr as):=rfl
theorem nX:Vs .nil= []:=rfl
theorem Cr:Vs (.cons a as)=wrap 1 a (bare a)::Vs as:=rfl
theorem PX{a b:Bool}(h:(a&&b)=true):a=true∧b=true:=(Bool.and_eq_true a b).mp h
theorem Eh(h:LZ (.un o a)=true):wj o=true∧LZ a=true:=PX (vb.symm.trans h)
theorem cK(h:LZ (.upd o p a)=true):PY o=true∧aV a=true∧LZ a=true:=⟨(PX (PX (AJ.symm.trans h)).1).1,(PX (PX (AJ.symm.trans h)).1).2,(PX (AJ.symm.trans h)).2⟩
theorem Xu(h:LZ (.bin o a b)=true):0<eP o∧LZ a=true∧LZ b=true:=⟨of_decide_eq_true (PX (PX (uB.symm.trans h)).1).1,(PX (PX (uB.symm.trans h)).1).2,(PX (uB.symm.trans h)).2⟩
theorem Sj(h:LZ (.asg o a b)=true):(B3 o=true∧aV a=true)∧LZ a=true∧LZ b=true:=have z:=PX (uU.symm.trans h);have y:=PX z.1;⟨PX y.1,y.2,z.2⟩
theorem n7(h:LZ (.cond a b c)=true):LZ a=true∧LZ b=true∧LZ c=true:=have z:=PX (Nk.symm.trans h);⟨(PX z.1).1,(PX z.1).2,z.2⟩
theorem V4(h:LZ (.comma as)=true):Pr as=true∧DL as=true:=PX (KX.symm.trans h)
theorem J0(h:LZ (.arr as)=true):Pr as=true∧Pk as=true:=PX (mz.symm.trans h)
theorem Ep(h:LZ (.call a as)=true):LZ a=true∧Pr as=true:=PX (Wg.symm.trans h)
theorem jY(h:LZ (.new a as)=true):LZ a=true∧Pr as=true:=PX (Dk.symm.trans h)
theorem lH(h:LZ (.mem a x)=true):LZ a=true∧x= .m:=(PX (gi.symm.trans h)).imp id of_decide_eq_true
theorem KD(h:LZ (.idx a b)=true):LZ a=true∧LZ b=true:=PX (RU.symm.trans h)
theorem lJ(h:Pr (.cons a as)=true):LZ a=true∧Pr as=true:=PX (Wf.symm.trans h)
end
theorem cO{a b c:Nat}(h:max a b+1≤c+1):a≤c∧b≤c:=Nat.max_le.mp (Nat.le_of_succ_le_succ h)
theorem mx3{a b c d:Nat}(h:max a (max b c)+1≤d+1):a≤d∧b≤d∧c≤d:=(Nat.max_le.mp (Nat.le_of_succ_le_succ h)).imp id Nat.max_le.mp
end
set_option genSizeOf false in
set_option genInjectivity false in
inductive St where
 |E|D|P|M
 deriving DecidableEq
noncomputable def uq(t:Tk):Bool:=([.a,.b,.c,.m,.this,.str]:List Tk).contains t
noncomputable def vK(t:Tk):Bool:=([.lb,.comma,.plus,.minus,.not,.vN,.void,.inc,.dec,.new]:List Tk).contains t
noncomputable def sD(t:Tk):Bool:=([.plus,.minus,.star,.lt,.and,.or,.eq,.amp,.dP,.inst,.asg,.rQ,.quest,.colon,.comma]:List Tk).contains t
noncomputable def PQ(t:Tk):Bool:=([.rp,.rb]:List Tk).contains t
noncomputable def CX(s:St)(t:Tk):Option (St×Nat):=St.casesOn s
 (if uq t then some (.D,0)else if t= .lp then some (.E,1)else if vK t then some (.E,0)else if PQ t then some (.D,0)else none)
 (if t= .lp∨t= .lb then some (.E,0)else if t= .dot then some (.M,0)else if PY t then some (.P,0)else if PQ t then some (.D,0)else if sD t then some (.E,0)else none)
 (if PQ t then some (.D,0)else if sD t then some (.E,0)else none)
 (if isWord t then some (.D,0)else none)
inductive Rn:St→List Tk→St→Nat→Prop where
 |nil {s}:Rn s [] s 0
 |cons {s s₁ UI t u p p₁} (h:CX s t=some (s₁,p₁)) (r:Rn s₁ u UI p):Rn s (t::u) UI (p₁+p)
theorem Rn.app{s₁ UI ay:St}{u v:List Tk}{p₁ TY:Nat}(a:Rn s₁ u UI p₁)(b:Rn UI v ay TY):Rn s₁ (u++v) ay (p₁+TY):=by
 induction a with
 |nil=>rw[Nat.zero_add];exact b
 |cons h _ ih=>rw[Nat.add_assoc];exact .cons h (ih b)
theorem Rn.one{s s₁:St}{t:Tk}{p:Nat}(h:CX s t=some (s₁,p)):Rn s [t] s₁ p:=Rn.cons h .nil
theorem Rn.det{s f f':St}{u:List Tk}{p p':Nat}(a:Rn s u f p)(b:Rn s u f' p'):f=f'∧p=p':=by
 induction a generalizing f' p' with
 |nil=>cases b;exact⟨rfl,rfl⟩
 |cons h _ ih=>
  cases b with
  |cons h' r=>
   rw[h]at h';cases h';obtain⟨a,b⟩:=ih r;exact⟨a,by rw[b]⟩
theorem Rn.split{s f:St}{u v:List Tk}{p:Nat}(a:Rn s (u++v) f p):∃s₁ p₁ TY,Rn s u s₁ p₁∧Rn s₁ v f TY∧p=p₁+TY:=by
 induction u generalizing s p with
 |nil=>exact⟨s,0,p,.nil,a,(Nat.zero_add _).symm⟩
 |cons t u ih=>
  cases a with
  |cons h r=>
   obtain⟨s₁,p₁,TY,x,y,rfl⟩:=ih r;exact⟨s₁,_,TY,.cons h x,y,(Nat.add_assoc ..).symm⟩
theorem Rn.sync{f f':St}{u:List Tk}{p p':Nat}(a:Rn .D u f p)(b:Rn .P u f' p'):p=p':=by
 cases b with
 |nil=>cases a;rfl
 |cons h r=>
  rename_i s₁ p₁ TY t u;cases a with
  |cons h' r'=>
   have key:∀t:Tk,∀x,CX .P t=some x→CX .D t=some x:=by intro t x h;rw[(bZ (p:=fun t=>CX .P t=none∨CX .P t=CX .D t) t (by kernel_rfl)).resolve_left (by rw[h];nofun)]at h;exact h
   rw[key _ _ h]at h';cases h';rw[(r'.det r).2]
noncomputable def nq(l:Nat)(t:Tr)(n:Nat):Nat:=(if V3 t<l then 1 else 0)+n
noncomputable def xD(t:Tr)(n:Nat):Nat:=(if V3 t<16∨EF t=true then 1 else 0)+n
noncomputable def eh:(Tr→Nat)×(Ts→Nat):=fo 0 (fun zz=>0) 0 0 (fun zz=>nq 13) (fun zz p=>nq (bif p then 13 else 15)) (fun o a b n m=>nq (eP o) a n+nq (eP o+1) b m)
 (fun zz a b n m=>nq 15 a n+nq 1 b m) (fun a b c n m k=>nq 3 a n+nq 1 b m+nq 1 c k) (fun zz=>id) (fun zz=>id) (fun f n m=>nq 15 f n+m) (fun f n m=>xD f n+m) (fun a zz n=>nq 15 a n) (fun a b n m=>nq 15 a n+nq 0 b m) 0 fun a n m=>nq 1 a n+m
noncomputable def nb(t:Tr):Nat:=eh.1 t
noncomputable def D1(as:Ts):Nat:=eh.2 as
noncomputable def nd(l:Nat)(t:Tr):Nat:=nq l t (nb t)
noncomputable def tF(t:Tr):Nat:=xD t (nb t)
theorem vl{l l':Nat}(h:l≤l')(t:Tr):nd l t≤nd l' t:=by unfold nd nq;split<;>split<;>lia
theorem Fc{l:Nat}(h:l≤16)(t:Tr):nd l t≤tF t:=by
 unfold nd tF nq xD
 split<;>split<;>first|lia|(rename_i a b;exact absurd (Or.inl (by lia)) b)
theorem yg{l:Nat}{t:Tr}(h:l≤V3 t):nd l t=nb t:=by unfold nd nq;rw[if_neg (Nat.not_lt.mpr h),Nat.zero_add]
theorem gI{l:Nat}{t:Tr}(h:V3 t<l):nd l t=1+nb t:=by unfold nd nq;rw[if_pos h]
noncomputable def C6:(Tr→List Tk)×(Ts→List Tk):=fo [] (fun x=>[x]) [.this] [.str] (fun o zz y=>o::y) (fun o p zz y=>bif p then o::y else y++[o]) (fun o zz zz y z=>y++o::z) (fun o zz zz y z=>y++o::z)
 (fun zz zz zz x y z=>x++Tk.quest::(y++Tk.colon::z)) (fun zz=>id) (fun zz y=>Tk.lb::(y++[Tk.rb])) (fun zz y z=>y++z) (fun zz y z=>Tk.new::(y++z)) (fun zz x y=>y++[Tk.dot,x]) (fun zz zz y z=>y++Tk.lb::(z++[Tk.rb])) [] fun zz y z=>y++z
noncomputable def yl(t:Tr):List Tk:=C6.1 t
noncomputable def U4(as:Ts):List Tk:=C6.2 as
noncomputable def vy(t:Tk):Bool:=([.lp,.rp,.comma]:List Tk).contains t
noncomputable def proj(u:List Tk):List Tk:=u.filter fun t=> !vy t
theorem Ck(u v:List Tk):proj (u++v)=proj u++proj v:=List.filter_append ..
theorem aC:∀a:Ts,a.app .nil=a
 | .nil=>rfl
 | .cons a r=>by rw[Ts.app,aC r]
theorem yQ:∀a b c:Ts,(a.app b).app c=a.app (b.app c)
 | .nil,_,_=>rfl
 | .cons a r,b,c=>by rw[Ts.app,Ts.app,Ts.app,yQ r]
example (a as):nb (.call a as)=nd 15 a+D1 as:=by rfl
example (a as):yl (.call a as)=yl a++U4 as:=by rfl
section
theorem F7{s:St}(hs:s= .D∨s= .P){o:Tk}(h:sD o=true):CX s o=some (.E,0):=by rcases hs with rfl|rfl<;>revert h<;>exact bZ o (by kernel_rfl)
theorem O6{s:St}(hs:s= .D∨s= .P){o:Tk}(h:PQ o=true):CX s o=some (.D,0):=by rcases hs with rfl|rfl<;>revert h<;>exact bZ o (by kernel_rfl)
theorem vj{o:Tk}(h:1≤Qa o):eP o=Qa o+2∧sD o=true∧vy o=false:=by revert h;exact bZ o (by kernel_rfl)
theorem sI(o:Tk):Qa o≤10:=bZ o (by kernel_rfl)
theorem Ry{o:Tk}(h:PY o=true∨wj o=true):CX .E o=some (.E,0)∧vy o=false:=by revert h;exact bZ o (by kernel_rfl)
theorem Sx{x:Tk}(h:isWord x=true):vy x=false∧CX .M x=some (.D,0):=by revert h;exact bZ x (by kernel_rfl)
theorem SH{o:Tk}(h:B3 o=true):sD o=true∧vy o=false:=by revert h;exact bZ o (by kernel_rfl)
theorem kW{o:Tk}(h:PY o=true):CX .D o=some (.P,0):=by revert h;exact bZ o (by kernel_rfl)
theorem YR{t:Tr}(h:aV t=true):V3 t=16:=by cases t<;>first|rfl|cases h
theorem Yd{x:Tk}(h:vy x=false):proj [x]= [x]:=by simp[proj,h]
def kD(s:St):Prop:=s= .D
def kO(s:St):Prop:=s= .D∨s= .P
def kE(s:St):Prop:=s= .E
def Seg(s:St)(K:St→Prop)(m:Nat)(y:List Tk)(n:Nat)(ts r:List Tk):Prop:=∃u s' p,ts=u++r∧Rn s u s' p∧K s'∧m≤p∧proj u=y∧n≤u.length
section
variable{s s₁:St}{K K':St→Prop}{m m' n n' q:Nat}{y y':List Tk}{ts r r':List Tk}{x:Tk}
theorem Seg.app(a:Seg s K m y n ts r)(b:∀s,K s→Seg s K' m' y' n' r r'):Seg s K' (m+m') (y++y') (n+n') ts r':=by obtain⟨u,s1,p,rfl,h1,h2,h3,rfl,h5⟩:=a;obtain⟨v,s2,p',rfl,g1,g2,g3,rfl,g5⟩:=b _ h2;exact⟨u++v,s2,p+p',(List.append_assoc ..).symm,h1.app g1,g2,Nat.add_le_add h3 g3,Ck ..,by rw[List.length_append];exact Nat.add_le_add h5 g5⟩
theorem Seg.weak(a:Seg s K m y n ts r)(hm:m'≤m)(hy:y=y')(hn:n'≤n):Seg s K m' y' n' ts r:=by obtain⟨u,s1,p,h0,h1,h2,h3,h4,h5⟩:=a;exact⟨u,s1,p,h0,h1,h2,z2n hm h3,h4.trans hy,z2n hn h5⟩
theorem Seg.any(a:Seg s kD m y n ts r):Seg s kO m y n ts r:=by obtain⟨u,s1,p,h0,h1,h2,h3⟩:=a;exact⟨u,s1,p,h0,h1,.inl h2,h3⟩
theorem Seg.tok(h:CX s x=some (s₁,q))(k:K s₁):Seg s K q (proj [x]) 1 (x::r) r:=⟨[x],s₁,_,rfl,.one h,k,g61 _,rfl,g61 _⟩
theorem Seg.len(a:Seg s K m y n ts r):n+r.length≤ts.length:=by obtain⟨u,s1,p,rfl,_,_,_,_,h5⟩:=a;rw[List.length_append];exact Nat.add_le_add_right h5 _
theorem Seg.mid(a:Seg s kO m y n ts (x::r))(h:sD x=true):Seg s kE (m+0) (y++proj [x]) (n+1) ts r:=a.app fun zz k=>.tok (F7 k h) rfl
theorem Seg.fin(a:Seg s kO m y n ts (x::r))(h:PQ x=true):Seg s kD (m+0) (y++proj [x]) (n+1) ts r:=a.app fun zz k=>.tok (O6 k h) rfl
theorem Seg.on(a:Seg s kE m y n ts r)(b:Seg .E K' m' y' n' r r'):Seg s K' (m+m') (y++y') (n+n') ts r':=a.app fun zz k=>k▸b
theorem Seg.rS(a:Seg s kD m y n ts r)(b:Seg .D K' m' y' n' r r'):Seg s K' (m+m') (y++y') (n+n') ts r':=a.app fun zz k=>k▸b
end
theorem QD(t:Tr):nd 0 t=nb t:=yg (V7h _)
theorem xb{t:Tr}(h:(decide (V3 t<16) || EF t)=false):tF t=nb t:=by unfold tF xD;rw[if_neg (fun q=>by simp at h;exact q.elim (by lia) (by simp[h.2])),Nat.zero_add]
theorem qx{a:Tr}(h:EF a=true):15≤V3 a:=by cases a<;>first|(cases h;done)|exact(by decide:15≤15)|exact(by decide:15≤16)
theorem Cw{a:Tr}(h:EF a=false)(q:V3 a<16):V3 a<15:=by
 cases a with
 |call f as=>cases h
 |bin o a b=>exact bZ (p:=fun o=>eP o<15) o (by kernel_rfl)
 |upd o p a=>cases p<;>exact J1O rfl
 |hole|name|this|str|arr|new|mem|idx=>exact absurd q (by show¬16<16;lia)
 |_=>exact J1O rfl
structure oj(M:Tr→Nat):Prop where
 mem:∀a x,M (.mem a x)≤M a
 idx:∀a b,M (.idx a b)≤M a+nb b
theorem Hz:oj (nd 15):=by
 refine⟨fun a x=>?_,fun a b=>?_⟩
 ·rw[yg (show 15≤16 by decide)];exact g61 _
 ·rw[yg (show 15≤16 by decide), ←QD b];exact g61 _
theorem okN:oj tF:=by
 have key:∀a:Tr,(if(16:Nat)<16∨EF a=true then 1 else 0)+nd 15 a≤tF a:=fun a=>by
  unfold tF xD
  by_cases h:EF a=true
  ·rw[if_pos (.inr h),if_pos (.inr h),yg (qx h)];exact g61 _
  ·rw[if_neg (fun z=>z.elim (Nat.lt_irrefl _) h),Nat.zero_add]
   by_cases q:V3 a<16
   ·rw[if_pos (.inl q),gI (Cw (Bool.not_eq_true _▸h) q)];exact g61 _
   ·rw[yg (Nat.le_of_lt (Nat.not_lt.mp q))];exact Nat.le_add_left _ _
 refine⟨fun a x=>key a,fun a b=>?_⟩;have:=key a;show(if(16:Nat)<16∨EF a=true then 1 else 0)+(nd 15 a+nd 0 b)≤_;rw[QD];lia
theorem U6(t:Tr):∀a:Ts,D1 (a.snoc t)=D1 a+nd 1 t
 | .nil=>(Nat.add_comm ..)
 | .cons a r=>by show nd 1 a+D1 (r.snoc t)=nd 1 a+D1 r+nd 1 t;rw[U6 t r,Nat.add_assoc]
theorem cS(t:Tr):∀a:Ts,c8 (a.snoc t)=c8 a+JY t
 | .nil=>(Nat.add_comm ..)
 | .cons a r=>by show JY a+c8 (r.snoc t)=JY a+c8 r+JY t;rw[cS t r,Nat.add_assoc]
theorem Z4(t:Tr):∀a:Ts,U4 (a.snoc t)=U4 a++yl t
 | .nil=>List.append_nil _
 | .cons a r=>by show yl a++U4 (r.snoc t)=yl a++U4 r++yl t;rw[Z4 t r,List.append_assoc]
def Oj(K:St→Prop)(M:Tr→Nat)(ts:List Tk)(t:Tr)(r:List Tk):Prop:=Seg .E K (M t) (yl t) (JY t) ts r
def Ro(j:SA)(ts:List Tk)(t:Tr)(r:List Tk):Prop:=SA.casesOn (motive:=fun zz=>Prop) j (Oj kO (nd 0) ts t r) (Oj kO (nd 1) ts t r) (Oj kO (nd 2) ts t r) (fun l=>1≤l→l≤11→Oj kO (nd (l+2)) ts t r∧prio r<l)
 (Oj kO (nd 13) ts t r) (Oj kO (nd 13) ts.tail t r) (Oj kO (nd 14) ts t r) (Oj kD (nd 15) ts t r) (fun t₀=>r.length≤ts.length∧∀M Mb,oj M→Oj kD M Mb t₀ ts→Oj kD M Mb t r)
 (is (eqT .new) ts=true→Oj kD tF ts t r) (Seg .D kD (D1 (yc t)) (U4 (yc t)) (c8 (yc t)+1) ts r) (Oj kD tF ts t r) (Oj kD tF ts t r) (is (eqT .lb) ts=true→Oj kD tF ts t r)
end
section
noncomputable def Nz(l:Nat):Nat:=([0,1,2,5,6,7,9,10].filter fun x=>decide (l≤x)).length
noncomputable def rank(j:SA):Nat:=SA.casesOn j 2 1 15 (fun l=>7+Nz l) 6 1 5 4 (fun zz=>3) 3 2 3 0 2
theorem XW{o:Tk}{l:Nat}(h:l≤Qa o):Nz (Qa o+1)+1≤Nz l:=by
 have key:∀p∈([0,1,2,5,6,7,9,10]:List Nat),∀l,l<11→l≤p→Nz (p+1)+1≤Nz l:=by decide +kernel
 have hp:Qa o∈([0,1,2,5,6,7,9,10]:List Nat):=bZ o (by kernel_rfl);exact key _ hp l (Nat.lt_succ_of_le (z2n h (sI o))) h
theorem rk{K A a b:Nat}(q:a+1≤b)(h:K≤A+a):K+1≤A+b:=z2n (Z4B h) (Nat.add_le_add_left q A)
theorem MX{K n a b:Nat}(hn:¬40<n+1)(q:a≤b+14)(h:K≤15*(41-(n+1))+a):K+1≤15*(41-n)+b:=by lia
def Ok(K:Nat)(c:ZI):Prop:=∀j n ts,(c j n ts).el (K≤15*(41-n)+rank j) True (Ro j ts)
section
variable{c:ZI}{nest K:Nat}{Mb:List Tk}
noncomputable abbrev tH(K nest:Nat)(j:SA)(ts:List Tk)(R:Res):Prop:=R.el (K+1≤15*(41-nest)+rank j) True (Ro j ts)
variable(hc:Ok K c)
include hc
theorem Je(l:Nat):∀(acc:Ts)(ts:List Tk)(n:Nat),Seg .E kO (D1 acc) (U4 acc) n Mb ts→c8 acc≤n→(is (eqT .comma) ts=false→c8 acc+1≤n)→
  (qt c nest l acc ts).el (K+1≤15*(41-nest)+2∨l≤ts.length) True (Oj kO (nd 0) Mb):=by
 induction l with
 |zero=>exact fun zz zz zz zz zz zz=>.inr (V7h _)
 |succ l ih=>
  intro acc ts n S h1 h2;refine Ik (C:=fun R=>R.el _ True _) (fun q=>S.weak (r72 (QD (.comma acc))) rfl (h2 q)) fun x r e q=>?_;subst e;refine wH (zv (hc .asg nest r) (fun h=>.inl (rk (by decide) h)) id fun t r'(g:Oj kO (nd 1) r t r')=>?_);cases kI q;have L:=g.len;refine zv (ih (acc.snoc t) r' _ (((S.mid rfl).on g).weak (r72 (U6 t acc)) (by rw[Z4,show proj [Tk.comma]= []from rfl,List.append_nil]) (g61 _)) (by rw[cS];lia) fun zz=>by rw[cS];lia) (fun h=>h.imp id fun h=>by rw[List.length_cons];lia) id fun zz zz=>id
theorem TV(ts:List Tk):tH K nest .expr ts (Va c nest ts):=by refine wH (zv (hc .asg nest ts) (rk (by decide)) id fun t r(g:Oj kO (nd 1) ts t r)=>Ik (C:=fun R=>R.el _ True _) (fun zz=>g.weak (vl (by decide) _) rfl (g61 _)) fun x r' e q=>?_);refine zv (Je hc (r.length+1) (.cons t .nil) r _ (g.weak (g61 _) (List.append_nil _).symm (g61 _)) (g61 _) fun z=>?_) (fun h=>h.resolve_right (Nat.not_succ_le_self _)) id fun zz zz=>id;subst e;exact absurd q (by rw[show eqT .comma x=false from z];nofun)
theorem fR(ts:List Tk):tH K nest .asg ts (bB c nest ts):=by
 refine aY (C:=tH K nest .asg ts) (fun zz=>trivial) fun hn=>wH (zv (hc .cond (nest+1) ts) (MX hn (by decide)) id fun t r(g:Oj kO (nd 2) ts t r)=>Ik (C:=fun R=>R.el _ True _) (fun zz=>g.weak (vl (by decide) _) rfl (g61 _)) fun o r' e q=>?_);subst e;cases ht:aV t
 ·trivial
 ·refine wH (zv (hc .asg (nest+1) r') (MX hn (by decide)) id fun b r2(k:Oj kO (nd 1) r' b r2)=>?_);have hs:=YR ht;obtain⟨m1,m2⟩:=SH q;refine((g.mid m1).on k).weak (r72 ?_) (by rw[Yd m2,List.append_assoc];rfl) (by show JY t+JY b+1≤_;lia);rw[yg (l:=1) (t:=.asg o t b) (Nat.le_refl 1),yg (l:=2) (by rw[hs];decide)];show nd 15 t+nd 1 b=_;rw[yg (by rw[hs];decide)];rfl
theorem TD(ts:List Tk):tH K nest .cond ts (Lz c nest ts):=by refine wH (zv (hc (.bin 1) nest ts) (rk (by decide)) id fun t r g0=>?_);obtain⟨g,_⟩:Oj kO (nd 3) ts t r∧prio r<1:=g0 (g61 _) (by decide);refine Ik (C:=fun R=>R.el _ True _) (fun zz=>g.weak (vl (by decide) _) rfl (g61 _)) fun x r e q=>?_;subst e;cases kI q;refine wH (zv (hc .asg nest r) (rk (by decide)) id fun a r(k:Oj kO (nd 1) _ a r)=>Ik (C:=fun R=>R.el _ True _) (fun zz=>trivial) fun x r e q=>?_);subst e;cases kI q;refine wH (zv (hc .asg nest r) (rk (by decide)) id fun b r(k2:Oj kO (nd 1) _ b r)=>?_);refine((((g.mid rfl).on k).mid rfl).on k2).weak (r72 ((yg (g61 _)).trans rfl)) (by rw[List.append_assoc,List.append_assoc,List.append_assoc];rfl) (by show JY t+JY a+JY b+1≤_;lia)
def NA(Mb:List Tk)(least:Nat)(a:Tr)(ts:List Tk):Prop:=1≤least→least≤11→∃m,Seg .E kO m (yl a) (JY a) Mb ts∧(∀o,1≤Qa o→Qa o≤prio ts→least≤Qa o→nd (eP o) a≤m)∧nd (least+2) a≤m
omit hc in
theorem NA.step{least:Nat}{a b:Tr}{o:Tk}{r r':List Tk}(h:NA Mb least a (o::r))(ho:least≤Qa o)(g:Oj kO (nd (Qa o+1+2)) r b r')(gp:prio r'<Qa o+1):NA Mb least (.bin o a b) r':=fun hl jC=>by
 obtain⟨m,S,h1, -⟩:=h hl jC;obtain⟨so,mo,bo⟩:=vj (o:=o) (z2n hl ho);have key:∀l',l'≤eP o→nd l' (.bin o a b)≤m+nd (Qa o+1+2) b:=fun l' jC=>by rw[yg jC];show nd (eP o) a+nd (eP o+1) b≤_;have:=h1 o (z2n hl ho) (g61 _) ho;rw[so]at this⊢;exact Nat.add_le_add_right this _
 refine⟨_,((S.mid mo).on g).weak (g61 _) (by rw[Yd bo,List.append_assoc];rfl) (by show JY a+JY b+1≤_;lia),fun o' x1 x2 zz=>key _ ?_,key _ (by lia)⟩;have:=(vj (o:=o') x1).1;lia
theorem V6{least:Nat}(l:Nat):∀(a:Tr)(ts:List Tk),NA Mb least a ts→(Fj c nest least l a ts).el (K+1≤15*(41-nest)+(7+Nz least)∨l≤ts.length) True (fun t r=>1≤least→least≤11→Oj kO (nd (least+2)) Mb t r∧prio r<least):=by
 induction l with
 |zero=>exact fun zz zz zz=>.inr (V7h _)
 |succ l ih=>
  intro a ts B;refine Ik (C:=fun R=>R.el _ True _) (fun q hl jC=>?_) fun o r e q=>?_
  ·obtain⟨m,S,_,h2⟩:=B hl jC;refine⟨S.weak h2 rfl (g61 _),?_⟩;cases ts with
   |nil=>exact hl
   |cons o r=>exact Nat.not_le.mp (of_decide_eq_false q)
  subst e;have ho:least≤Qa o:=of_decide_eq_true q;refine wH (zv (hc (.bin (Qa o+1)) nest r) (fun h=>.inl (rk (Nat.add_le_add_left (XW ho) 7) h)) id fun b r' g0=>?_);obtain⟨g,gp⟩:Oj kO (nd (Qa o+1+2)) r b r'∧prio r'<Qa o+1:=g0 (Nat.succ_pos _) (Z4B (sI o));have L:=g.len;exact zv (ih (.bin o a b) r' (B.step ho g gp)) (fun h=>h.imp id fun h=>by rw[List.length_cons];lia) id fun zz zz=>id
theorem y9(least:Nat)(ts:List Tk):tH K nest (.bin least) ts (xI c nest least ts):=by refine wH (zv (hc .unary nest ts) (rk (B99 7 _)) id fun t r(g:Oj kO (nd 13) ts t r)=>?_);refine zv (V6 (Mb:=ts) hc (r.length+1) t r fun zz hl=>⟨_,g,fun o x1 zz zz=>vl ?_ _,vl (Nat.add_le_add_right hl 2) _⟩) (fun h=>h.resolve_right (Nat.not_succ_le_self _)) id fun zz zz h=>h;have:=(vj (o:=o) x1).1;have:=sI o;lia
end
end
section
section
variable{c:ZI}{nest K:Nat}{Mb:List Tk}
theorem Oj.pre{x:Tk}{M:Tr→Nat}{k:St→Prop}{t:Tr}{ts r:List Tk}(g:Oj k M ts t r)(h:CX .E x=some (.E,0)∧vy x=false):Seg .E k (0+M t) (x::yl t) (1+JY t) (x::ts) r:=
 (Seg.on (Seg.tok h.1 rfl) g).weak (g61 _) (by rw[Yd h.2];rfl) (g61 _)
variable(hc:Ok K c)
include hc
theorem I4(ts:List Tk):tH K nest .unary ts (wP c nest ts):=by
 refine Ik (C:=fun R=>R.el _ True _) (fun zz=>Ik (C:=fun R=>R.el _ True _) (fun zz=>?_) fun o r e q=>?_) fun o r e q=>?_
 ·exact zv (hc .postfix nest ts) (rk (by decide)) id fun t r(g:Oj kO (nd 14) ts t r)=>g.weak (vl (by decide) _) rfl (g61 _)
 ·subst e;refine wH (zv (hc .behind nest (o::r)) (rk (by decide)) id fun t r'(g:Oj kO (nd 13) r t r')=>?_);exact(g.pre (Ry (.inr q))).weak (by rw[Nat.zero_add];exact r72 (yg (g61 13))) rfl (by show JY t+1≤_;lia)
 ·subst e;refine wH (zv (hc .behind nest (o::r)) (rk (by decide)) id fun t r'(g:Oj kO (nd 13) r t r')=>?_);cases aV t
  ·trivial
  ·exact(g.pre (Ry (.inl q))).weak (by rw[Nat.zero_add];exact r72 (yg (t:=.upd o true t) (g61 13))) rfl (by show JY t+1≤_;lia)
theorem kn(ts:List Tk):tH K nest .behind ts (mi c nest ts):=
 aY (C:=tH K nest .behind ts) (fun zz=>trivial) fun hn=>zv (hc .unary (nest+1) ts.tail) (MX hn (by decide)) id fun zz zz=>id
theorem PP(ts:List Tk):tH K nest .postfix ts (bf c nest ts):=by
 refine wH (zv (hc .lhs nest ts) (rk (by decide)) id fun t r(g:Oj kD (nd 15) ts t r)=>Ik (C:=fun R=>R.el _ True _) (fun zz=>g.any.weak (vl (by decide) _) rfl (g61 _)) fun o r' e q=>?_);subst e;cases aV t
 ·trivial
 ·have s2:vy o=false:=by revert q;exact bZ o (by kernel_rfl)
  exact(g.rS (.tok (K:=kO) (kW q) (.inr rfl))).weak (r72 (yg (t:=.upd o false t) (g61 14))) (by rw[Yd s2];rfl) (g61 _)
theorem US(l:Nat):∀(a:Tr)(ts:List Tk),Oj kD (nd 15) Mb a ts→(Cp c nest l a ts).el (K+1≤15*(41-nest)+4∨l≤ts.length) True (Oj kD (nd 15) Mb):=by
 induction l with
 |zero=>exact fun zz zz zz=>.inr (V7h _)
 |succ l ih=>
  intro a ts g;refine Ik (C:=fun R=>R.el _ True _) (fun zz=>g) fun zz zz zz zz=>wH (zv (hc .args nest ts) (fun h=>.inl (rk (by decide) h)) id fun as r(k:Seg .D kD (D1 (yc as)) (U4 (yc as)) (c8 (yc as)+1) ts r)=>?_);have L:=k.len;refine wH (zv (hc (.members (.call a (yc as))) nest r) (fun h=>.inl (rk (a:=3) (g61 4) h)) id fun t r' m=>?_);have g2:Oj kD (nd 15) Mb (.call a (yc as)) r:=(g.rS k).weak (r72 (yg (t:=.call a (yc as)) (g61 15))) rfl (g61 _);have m1:r'.length≤r.length:=m.1;exact zv (ih t r' (m.2 _ _ Hz g2)) (fun h=>h.imp id fun h=>by lia) id fun zz zz=>id
theorem Up{n:Nat}{O:Prop}{ts:List Tk}(q:K≤15*(41-n)+3→O):(c (bO ts) n ts).el O True (Oj kD tF ts):=by
 unfold bO;cases h:is (eqT .new) ts
 ·exact zv (hc .YK n ts) q id fun zz zz=>id
 ·exact zv (hc .rz n ts) q id fun zz zz g=>g h
theorem Wa(ts:List Tk):tH K nest .lhs ts (tf c nest ts):=by refine wH (zv (Up hc (rk (g61 4))) id id fun t r g=>wH (zv (hc (.members t) nest r) (rk (a:=3) (g61 4)) id fun t r m=>?_));exact zv (US hc (r.length+1) t r ((m.2 _ _ okN g).weak (Fc (by decide) _) rfl (g61 _))) (fun h=>h.resolve_right (Nat.not_succ_le_self _)) id fun zz zz=>id
theorem DD(l:Nat):∀(a:Tr)(ts:List Tk),(DI c nest l a ts).el (K+1≤15*(41-nest)+3∨l≤ts.length) True (fun t r=>r.length≤ts.length∧∀M Mb,oj M→Oj kD M Mb a ts→Oj kD M Mb t r):=by
 induction l with
 |zero=>exact fun zz zz=>.inr (V7h _)
 |succ l ih=>
  intro a ts;refine Ik (C:=fun R=>R.el _ True _) (fun zz=>Ik (C:=fun R=>R.el _ True _) (fun zz=>⟨g61 _,fun zz zz zz=>id⟩) fun x r e q=>?_) fun x r e q=>?_
  ·subst e;cases kI q;refine wH (zv (hc .expr nest r) (fun h=>.inl (rk (by decide) h)) id fun k r1(g:Oj kO (nd 0) r k r1)=>Ik (C:=fun R=>R.el _ True _) (fun zz=>trivial) fun x r2 e q=>?_);subst e;cases kI q;have L:=g.len;rw[List.length_cons]at L;refine zv (ih (.idx a k) r2) (fun h=>h.imp id fun h=>by rw[List.length_cons];lia) id fun t r' m=>⟨by have:=m.1;rw[List.length_cons];lia,fun M Mb ok S=>m.2 M Mb ok ?_⟩;have b:Seg .D kE 0 [Tk.lb] 1 (.lb::r) r:=.tok (s:=.D) (s₁:=.E) (x:=.lb) rfl rfl;refine(S.rS ((b.on g).fin (x:=.rb) rfl)).weak (z2n (ok.idx a k) (by rw[QD];lia)) (by show yl a++([Tk.lb]++yl k++[Tk.rb])=yl a++Tk.lb::(yl k++[Tk.rb]);rw[List.append_assoc];rfl) (by show JY a+JY k+1≤_;lia)
  ·subst e;cases kI q;refine Ik (C:=fun R=>R.el _ True _) (fun zz=>trivial) fun y r2 e q=>?_;subst e;obtain⟨w1,w2⟩:=Sx q;refine zv (ih (.mem a y) r2) (fun h=>h.imp id fun h=>by rw[List.length_cons,List.length_cons];lia) id fun t r' m=>⟨by have:=m.1;rw[List.length_cons,List.length_cons];lia,fun M Mb ok S=>m.2 M Mb ok ?_⟩;have b:Seg .D (· = .M) 0 [Tk.dot] 1 (.dot::y::r2) (y::r2):=.tok (s:=.D) (s₁:=.M) (x:=.dot) rfl rfl;have b2:Seg .D kD 0 [Tk.dot,y] 2 (.dot::y::r2) r2:=(b.app fun s k=>by subst k;exact Seg.tok (K:=kD) w2 rfl).weak (g61 _) (by rw[Yd w1];rfl) (g61 _);exact(S.rS b2).weak (ok.mem a y) rfl (by show JY a+1≤_;lia)
theorem jp(ts:List Tk):tH K nest .rz ts (ez c nest ts):=by
 refine aY (C:=tH K nest .rz ts) (fun zz=>trivial) fun hn=>wH (zv (Up hc (MX hn (by decide))) id id fun t r g=>wH (zv (hc (.members t) (nest+1) r) (MX (a:=3) hn (by decide)) id fun t r m=>?_));have g2:is (eqT .new) ts=true→Seg .E kD (0+tF t) (.new::yl t) (1+JY t) ts r:=fun q=>by
  cases ts with
  |nil=>cases q
  |cons x r1=>cases kI q;exact Oj.pre (m.2 _ _ okN g) ⟨rfl,rfl⟩
 refine Ik (C:=fun R=>R.el _ True _) (fun zz q=>?_) fun x r' e q=>?_
 ·refine(g2 q).weak ?_ (by show _=Tk.new::(yl t++[]);rw[List.append_nil]) (by show JY t+0+1≤_;lia);rw[xb rfl,Nat.zero_add];exact g61 _
 ·refine wH (zv (hc .args nest r) (rk (by decide)) id fun as r2(k:Seg .D kD (D1 (yc as)) (U4 (yc as)) (c8 (yc as)+1) r r2)q=>?_);refine((g2 q).rS k).weak ?_ rfl (by show JY t+c8 (yc as)+1≤_;lia);rw[xb rfl,Nat.zero_add];exact g61 _
theorem Ag(l:Nat):∀(acc:Ts)(ts:List Tk)(n:Nat),Seg .D kE (D1 acc) (U4 acc) n Mb ts→c8 acc+1≤n→
  (kS c nest l acc ts).el (K+1≤15*(41-nest)+2∨l≤ts.length) True fun t r=>Seg .D kD (D1 (yc t)) (U4 (yc t)) (c8 (yc t)+1) Mb r:=by
 induction l with
 |zero=>exact fun zz zz zz zz zz=>.inr (V7h _)
 |succ l ih=>
  intro acc ts n S h1;refine Ik (C:=fun R=>R.el _ True _) (fun zz=>?_) fun x r e q=>?_
  ·refine wH (zv (hc .asg nest ts) (fun h=>.inl (rk (by decide) h)) id fun t r(g:Oj kO (nd 1) ts t r)=>?_);have L:=g.len;have T:∀x,proj [x]= []→Seg .D kO (D1 (acc.snoc t)) (U4 (acc.snoc t)++proj [x]) (c8 (acc.snoc t)+1) Mb r:=fun x hx=>(S.on g).weak (r72 (U6 t acc)) (by rw[Z4,hx,List.append_nil]) (by rw[cS];lia);refine Ik (C:=fun R=>R.el _ True _) (fun zz=>Ik (C:=fun R=>R.el _ True _) (fun zz=>trivial) fun x r' e q=>?_) fun x r' e q=>Ik (C:=fun R=>R.el _ True _) (fun zz=>?_) fun zz zz zz zz=>trivial
   ·subst e;cases kI q;exact((T .rp rfl).fin (x:=.rp) rfl).weak (g61 _) (by show(U4 (acc.snoc t)++[])++[]=U4 (acc.snoc t);rw[List.append_nil,List.append_nil]) (B99 _ _)
   ·subst e;cases kI q;rw[List.length_cons]at L;exact zv (ih (acc.snoc t) r' _ (((T .comma rfl).mid (x:=.comma) rfl).weak (g61 _) (by show(U4 (acc.snoc t)++[])++[]=U4 (acc.snoc t);rw[List.append_nil,List.append_nil]) (B99 _ _)) (g61 _)) (fun h=>h.imp id fun h=>by lia) id fun zz zz=>id
  ·subst e;cases kI q;exact(S.on (.tok (s:=.E) (s₁:=.D) (x:=.rp) (K:=kD) rfl rfl)).weak (g61 _) (List.append_nil _) (z2n h1 (B99 _ _))
theorem IS(ts:List Tk):tH K nest .args ts (lj c nest ts):=by refine Ik (C:=fun R=>R.el _ True _) (fun zz=>trivial) fun x r e q=>?_;subst e;cases kI q;exact zv (Ag hc (r.length+1) .nil r 1 (.tok (s:=.D) (s₁:=.E) (x:=.lp) rfl rfl) (g61 _)) (fun h=>h.resolve_right (Nat.not_succ_le_self _)) id fun zz zz=>id
omit hc in
theorem sW{x:Tk}{t:Tr}{r:List Tk}(h1:uq x=true)(h2:tF t=0)(h3:yl t= [x])(h4:JY t=1):Oj kD tF (x::r) t r:=by
 have e:CX .E x=some (.D,0):=by revert h1;exact bZ x (by kernel_rfl)
 have b:vy x=false:=by revert h1;exact bZ x (by kernel_rfl)
 exact(Seg.tok (K:=kD) e rfl).weak (r72 h2) (by rw[Yd b,h3]) (r72 h4)
theorem AX(ts:List Tk):tH K nest .YK ts (pz c nest ts):=by
 refine Ik (C:=fun R=>R.el _ True _) (fun zz=>Ik (C:=fun R=>R.el _ True _) (fun zz=>Ik (C:=fun R=>R.el _ True _) (fun zz=>Ik (C:=fun R=>R.el _ True _) (fun zz=>Ik (C:=fun R=>R.el _ True _) (fun zz=>trivial) fun x r e q=>?_) fun x r e q=>?_) fun x r e q=>?_) fun x r e q=>?_) fun x r e q=>?_
 ·exact zv (hc .array nest ts) (rk (by decide)) id fun zz zz g=>g (by subst e;exact q)
 ·subst e;cases kI q;refine wH (zv (hc .expr nest r) (rk (by decide)) id fun t r1(g:Oj kO (nd 0) r t r1)=>Ik (C:=fun R=>R.el _ True _) (fun zz=>trivial) fun x r2 e q=>?_);subst e;cases kI q;have b:Seg .E kE 1 [] 1 (.lp::r) r:=.tok (s:=.E) (s₁:=.E) (x:=.lp) rfl rfl;refine((b.on g).fin (x:=.rp) rfl).weak ?_ (List.append_nil _) (by lia);rw[QD];unfold tF xD
  split<;>lia
 ·exact zv (hc .word nest ts) (rk (by decide)) id fun zz zz=>id
 ·subst e;obtain rfl:x= .str:=by revert q;exact bZ x (by kernel_rfl)
  exact sW rfl rfl rfl rfl
 ·subst e;exact sW (by revert q;exact bZ x (by kernel_rfl)) rfl rfl rfl
theorem aJ(l:Nat):∀(acc:Ts)(ts:List Tk)(n:Nat),Seg .E kE (D1 acc) (.lb::U4 acc) n Mb ts→c8 acc+1≤n→
  (Bd c nest l acc ts).el (K+1≤15*(41-nest)+2∨l≤ts.length) True (Oj kD tF Mb):=by
 induction l with
 |zero=>exact fun zz zz zz zz zz=>.inr (V7h _)
 |succ l ih=>
  intro acc ts n S h1;have fin:∀{acc r m n},Seg .E kO m (.lb::U4 acc) n Mb (.rb::r)→D1 acc≤m→c8 acc+1≤n→Oj kD tF Mb (.arr acc) r:=fun S hm hn=>(S.fin (x:=.rb) rfl).weak (by rw[xb rfl];exact hm) rfl (z2n hn (B99 _ _));refine Ik (C:=fun R=>R.el _ True _) (fun zz=>Ik (C:=fun R=>R.el _ True _) (fun zz=>?_) fun x r e q=>?_) fun x r e q=>?_
  ·refine wH (zv (hc .asg nest ts) (fun h=>.inl (rk (by decide) h)) id fun t r(g:Oj kO (nd 1) ts t r)=>?_);have L:=g.len;have T:Seg .E kO (D1 (acc.snoc t)) (.lb::U4 (acc.snoc t)) (c8 (acc.snoc t)+1) Mb r:=(S.on g).weak (r72 (U6 t acc)) (by rw[Z4];rfl) (by rw[cS];lia);refine Ik (C:=fun R=>R.el _ True _) (fun zz=>Ik (C:=fun R=>R.el _ True _) (fun zz=>trivial) fun x r' e q=>?_) fun x r' e q=>?_
   ·subst e;cases kI q;rw[List.length_cons]at L;exact zv (ih (acc.snoc t) r' _ ((T.mid (x:=.comma) rfl).weak (g61 _) (List.append_nil _) (B99 _ _)) (g61 _)) (fun h=>h.imp id fun h=>by lia) id fun zz zz=>id
   ·subst e;cases kI q;exact fin T (g61 _) (g61 _)
  ·subst e;cases kI q;refine zv (ih (acc.snoc .hole) r _ ((S.on (.tok (s:=.E) (s₁:=.E) (x:=.comma) (K:=kE) rfl rfl)).weak (r72 (U6 .hole acc)) (by rw[Z4];rfl) (g61 _)) (by rw[cS];exact Nat.add_le_add_right h1 1)) (fun h=>h.imp id fun h=>by rw[List.length_cons];lia) id fun zz zz=>id
  ·subst e;cases kI q;exact(S.on (.tok (s:=.E) (s₁:=.D) (x:=.rb) (K:=kD) rfl rfl)).weak (by rw[xb rfl];exact g61 _) rfl (z2n h1 (B99 _ _))
theorem ZF(ts:List Tk):tH K nest .array ts (O7 c nest ts):=by
 cases ts with
 |nil=>exact zv (aJ (Mb:=[Tk.lb]) hc 1 .nil [] 1 (.tok (s:=.E) (s₁:=.E) (x:=.lb) rfl rfl) (g61 _)) (fun h=>h.resolve_right (by decide)) id fun zz zz zz q=>nomatch q
 |cons x r=>
  exact zv (aJ (Mb:=Tk.lb::r) hc (r.length+1) .nil r 1 (.tok (s:=.E) (s₁:=.E) (x:=.lb) rfl rfl) (g61 _)) (fun h=>h.resolve_right (Nat.not_succ_le_self _)) id fun zz zz g q=>by cases kI q;exact g
end
theorem Cq:∀k,Ok k (P k)
 |0=>fun zz zz zz=>V7h _
 |k+1=>fun j nest ts=>by
  have hc:=Cq k;cases j with
  |expr=>exact TV hc ts
  |asg=>exact fR hc ts
  |cond=>exact TD hc ts
  |bin l=>exact y9 hc l ts
  |unary=>exact I4 hc ts
  |behind=>exact kn hc ts
  | «postfix» =>exact PP hc ts
  |lhs=>exact Wa hc ts
  |members a=>exact zv (DD hc (ts.length+1) a ts) (fun h=>h.resolve_right (Nat.not_succ_le_self _)) id fun zz zz=>id
  |rz=>exact jp hc ts
  |args=>exact IS hc ts
  |YK=>exact AX hc ts
  |word=>exact Ik (C:=fun R=>R.el _ True _) (fun zz=>trivial) fun x r e q=>by subst e;cases kI q;exact sW rfl rfl rfl rfl
  |array=>exact ZF hc ts
theorem mP{k j nest ts t r}(h:P k j nest ts= .ok t r):Ro j ts t r:=by have:=Cq k j nest ts;rw[h]at this;exact this
theorem W4{k j nest ts}(h:15*(41-nest)+rank j<k):P k j nest ts≠ .out:=fun e=>by have:=Cq k j nest ts;rw[e]at this;exact absurd h (Nat.not_lt.mpr this)
end
theorem i4{s:St}{b:Bool}(h:s= .D∨(s= .P∧b=false)):s= .D∨s= .P:=h.imp id (·.1)
inductive RI:St→Bool→List Bool→List It→St→Bool→List Bool→Nat→Prop where
 |nil {s b k}:RI s b k [] s b k 0
 |blank {s b k r s' b' k' p} (h:RI s true k r s' b' k' p):RI s b k (none::r) s' b' k' p
 |tok {s b k t s₁ r s' b' k' p} (h1:CX s t=some (s₁,0)) (h2:t≠ .lp∧t≠ .rp) (h3:s= .M→t= .m) (h:RI s₁ false k r s' b' k' p):RI s b k (some t::r) s' b' k' p
 |plain {b k r s' b' k' p} (h:RI .E false (true::k) r s' b' k' p):RI .E b k (some .lp::r) s' b' k' (1+p)
 |call {k r s' b' k' p} (h:RI .E false (false::k) r s' b' k' p):RI .D false k (some .lp::r) s' b' k' p
 |Bb {s b k r s' b' k' p} (hs:s= .D∨s= .P) (h:RI .D false k r s' b' k' p):RI s b (true::k) (some .rp::r) s' b' k' p
 |aj {s b k r s' b' k' p} (hs:s= .E∨s= .D∨s= .P) (h:RI .D false k r s' b' k' p):RI s b (false::k) (some .rp::r) s' b' k' p
theorem RI.tE{b k t s₁ r s' b' k' p}(h1:CX .E t=some (s₁,0))(h2:t≠ .lp∧t≠ .rp)(h:RI s₁ false k r s' b' k' p):RI .E b k (some t::r) s' b' k' p:=.tok h1 h2 (fun q=>nomatch q) h
theorem RI.tX{s b k t s₁ r s' b' k' p}(hs:s= .D∨s= .P)(h1:CX s t=some (s₁,0))(h2:t≠ .lp∧t≠ .rp)(h:RI s₁ false k r s' b' k' p):RI s b k (some t::r) s' b' k' p:=
 .tok h1 h2 (fun q=>by rcases hs with rfl|rfl<;>cases q) h
theorem RI.cast{s b k r s' b' k' p p'}(h:RI s b k r s' b' k' p)(e2:p=p'):RI s b k r s' b' k' p':=by subst e2;exact h
theorem RI.app{s₁ aU k₁ u UI N2 k₂ p v ay Jt Jy p'}(a:RI s₁ aU k₁ u UI N2 k₂ p)(b:RI UI N2 k₂ v ay Jt Jy p'):RI s₁ aU k₁ (u++v) ay Jt Jy (p+p'):=by
 induction a with
 |nil=>simpa using b
 |blank _ ih=>exact .blank (ih b)
 |tok h1 h2 h3 _ ih=>exact .tok h1 h2 h3 (ih b)
 |plain _ ih=>exact(RI.plain (ih b)).cast (by omega)
 |call _ ih=>exact .call (ih b)
 |Bb hs _ ih=>exact .Bb hs (ih b)
 |aj hs _ ih=>exact .aj hs (ih b)
theorem RI.one{s b k t s₁}(h1:CX s t=some (s₁,0))(h2:t≠ .lp∧t≠ .rp)(h3:s= .M→t= .m):RI s b k [some t] s₁ false k 0:=.tok h1 h2 h3 .nil
theorem vJ{s o k}(hs:s= .D∨s= .P)(h:sD o=true):RI s false k (hV o) .E true k 0:=by
 have:o≠ .lp∧o≠ .rp:=by revert h;exact bZ o (by kernel_rfl)
 refine .blank (.tok (F7 hs h) this (fun q=>?_) (.blank .nil));rcases hs with rfl|rfl<;>cases q
def yI(its:List It)(only:Bool)(p:Nat):Prop:=∀b k,∃s,RI .E b k its s false k p∧(s= .D∨(s= .P∧only=false))
theorem yI.paren{its only p}(h:yI its only p):yI (some Tk.lp::its++[some .rp]) true (1+p):=fun b k=>by obtain⟨s,a,q⟩:=h false (true::k);exact⟨.D,(RI.plain (b:=b) (a.app (.Bb (i4 q) .nil))).cast (by omega),.inl rfl⟩
theorem yI.any{its p}(h:yI its true p)(o:Bool):yI its o p:=fun b k=>let⟨s,a,z⟩:=h b k;⟨s,a,z.imp id fun y=>nomatch y.2⟩
theorem yI.wrap{t:Tr}{l:Nat}(h:∀o,(o=true→15≤V3 t)→yI (bare t) o (nb t))(o:Bool)(ho:o=true→15≤l):yI (wrap l t (bare t)) o (nd l t):=by
 unfold Mine.wrap
 split
 ·rename_i q;rw[gI q];exact(h false (fun z=>nomatch z)).paren.any o
 ·rename_i q;rw[yg (by omega)];exact h o fun z=>by have:=ho z;omega
theorem yI.weak{its o p}(h:yI its o p):yI its false p:=fun b k=>let⟨s,a,z⟩:=h b k;⟨s,a,z.imp id fun y=>⟨y.1,rfl⟩⟩
theorem yI.D{its p}(h:yI its true p)(b k):RI .E b k its .D false k p:=by
 obtain⟨s,a,rfl|⟨_,z⟩⟩:=h b k
 ·exact a
 ·cases z
theorem yI.Ir{x:Tk}(h:uq x=true):yI [some x] true 0:=fun b k=>by
 refine⟨.D,.one ?_ ?_ (fun q=>nomatch q),.inl rfl⟩
 ·revert h;exact bZ x (by kernel_rfl)
 ·revert h;exact bZ x (by kernel_rfl)
theorem yI.un{o:Tk}{its:List It}{p}(ho:PY o=true∨wj o=true)(h:yI its false p):yI (RZ o its) false p:=fun b k=>by
 have h2:o≠ .lp∧o≠ .rp:=by revert ho;exact bZ o (by kernel_rfl)
 have h1:=(Ry ho).1;unfold RZ
 split
 ·obtain⟨s,a,z⟩:=h true k;exact⟨s,.tok h1 h2 (fun q=>nomatch q) (.blank a),z⟩
 ·obtain⟨s,a,z⟩:=h false k;exact⟨s,.tok h1 h2 (fun q=>nomatch q) a,z⟩
theorem yI.two{A B:List It}{o:Tk}{q p p'}(hA:yI A q p)(ho:sD o=true)(hB:yI B false p'):yI (A++hV o++B) false (p+p'):=fun b k=>by obtain⟨s,a,z⟩:=hA b k;obtain⟨s',a',z'⟩:=hB true k;exact⟨s',(a.app (vJ (i4 z) ho) |>.app a').cast (by omega),z'⟩
theorem JK{its:List It}{p}(h:its= []∧p=0∨yI its false p)(k):RI .D false k (some Tk.lp::its++[some .rp]) .D false k p:=by
 rcases h with⟨rfl,rfl⟩|h
 ·exact .call (.aj (.inl rfl) .nil)
 ·obtain⟨s,a,z⟩:=h false (false::k);exact(RI.call (a.app (.aj (.inr (i4 z)) .nil))).cast (by omega)
theorem nI{x:List It}{r:List (List It)}(h:r≠[]):Xn (x::r)=x++[some .comma,none]++Xn r:=by
 cases r with
 |nil=>exact absurd rfl h
 |cons y r=>rfl
theorem yI.comma{A B:List It}{q p p'}(hA:yI A q p)(hB:yI B false p'):yI (A++[some Tk.comma,none]++B) false (p+p'):=fun b k=>by obtain⟨s,a,z⟩:=hA b k;obtain⟨s',a',z'⟩:=hB true k;have m:RI s false k [some Tk.comma,none] .E true k 0:=.tok (F7 (i4 z) rfl) (by simp) (fun q=>by rcases i4 z with rfl|rfl<;>cases q) (.blank .nil);exact⟨s',(a.app m |>.app a').cast (by omega),z'⟩
theorem vM(t:Tr):V3 t≤16:=by
 cases t with
 |bin o a b=>exact bZ (p:=fun o=>eP o≤16) o (by kernel_rfl)
 |upd o p a=>cases p<;>exact J1O rfl
 |_=>exact J1O rfl
theorem Cn{a as}:Vs (.cons a as)≠[]:=nofun
theorem PA{o:Tk}(h:0<eP o):sD o=true:=by revert h;exact bZ o (by kernel_rfl)
theorem low{o:Bool}{n:Nat}(ho:o=true→15≤n)(h:n<15):o=false:=by
 cases o with
 |false=>rfl
 |true=>exact absurd (ho rfl) (Nat.not_le.mpr h)
def RB(t:Tr):Prop:=LZ t=true→∀o,(o=true→15≤V3 t)→yI (bare t) o (nb t)
def Cv(as:Ts):Prop:=Pr as=true→as≠ .nil→yI (Xn (Vs as)) false (D1 as)
theorem RB.wrap{t:Tr}(h:RB t)(k:LZ t=true)(l:Nat):yI (wrap l t (bare t)) false (nd l t):=yI.wrap (h k) false nofun
theorem RB.Uy{t:Tr}(h:RB t)(k:LZ t=true){l:Nat}(hl:15≤l)(b ks):RI .E b ks (Mine.wrap l t (bare t)) .D false ks (nd l t):=(yI.wrap (h k) true fun zz=>hl).D b ks
theorem Cv.args{as:Ts}(h:Cv as)(k:Pr as=true)(ks):RI .D false ks (some Tk.lp::Xn (Vs as)++[some .rp]) .D false ks (D1 as):=by
 refine JK ?_ ks;cases as with
 |nil=>exact .inl ⟨rfl,rfl⟩
 |cons a r=>exact .inr (h k nofun)
theorem YW{x:Tk}{t:Tr}(h:uq x=true)(hb:bare t= [some x])(hn:nb t=0)(o:Bool):yI (bare t) o (nb t):=by rw[hb,hn];exact(yI.Ir h).any o
theorem iJ(o:Tk)(a:Tr)(ih:RB a):RB (.un o a):=fun h q hq=>by obtain⟨h1,h2⟩:=PX h;obtain rfl:=low hq (J1O rfl);exact yI.un (.inr h1) (ih.wrap h2 13)
theorem sS(o:Tk)(p:Bool)(a:Tr)(ih:RB a):RB (.upd o p a):=fun h q hq=>by
 obtain⟨h1,h2⟩:=PX h;obtain⟨h1,h3⟩:=PX h1;cases p with
 |true=>
  obtain rfl:=low hq (J1O rfl);exact yI.un (.inl h1) (ih.wrap h2 13)
 |false=>
  obtain rfl:=low hq (J1O rfl);have e2:o≠ .lp∧o≠ .rp:=by revert h1;exact bZ o (by kernel_rfl)
  exact fun b k=>⟨.P,(ih.Uy h2 (g61 _) b k).app (.tX (.inl rfl) (kW h1) e2 .nil),.inr ⟨rfl,rfl⟩⟩
theorem Lu(o:Tk)(a b:Tr)(Ot:RB a)(Ht:RB b):RB (.bin o a b):=fun h q hq=>by obtain⟨h1,h2⟩:=PX h;obtain⟨h1,h3⟩:=PX h1;obtain rfl:=low hq (show eP o<15 from bZ o (by kernel_rfl));exact yI.two (Ot.wrap h3 _) (PA (of_decide_eq_true h1)) (Ht.wrap h2 _)
theorem UG(o:Tk)(a b:Tr)(Ot:RB a)(Ht:RB b):RB (.asg o a b):=fun h q hq=>by obtain⟨h1,h2⟩:=PX h;obtain⟨h1,h3⟩:=PX h1;obtain⟨h1,_⟩:=PX h1;obtain rfl:=low hq (J1O rfl);exact yI.two (Ot.wrap h3 15) (SH h1).1 (Ht.wrap h2 1)
theorem mM(a b c:Tr)(Ot:RB a)(Ht:RB b)(tA:RB c):RB (.cond a b c):=fun h q hq=>by obtain⟨h1,h2⟩:=PX h;obtain⟨h1,h3⟩:=PX h1;obtain rfl:=low hq (J1O rfl);exact yI.two (o:=.colon) (.two (o:=.quest) (Ot.wrap h1 3) rfl (Ht.wrap h3 1)) rfl (tA.wrap h2 1)
theorem XG(as:Ts)(ih:Cv as):RB (.comma as):=fun h q hq=>by obtain⟨h1,h2⟩:=PX h;obtain rfl:=low hq (J1O rfl);exact ih h1 (by rintro rfl;cases h2)
theorem bp(as:Ts)(ih:Cv as):RB (.arr as):=fun h q zz=>by obtain⟨h1,h2⟩:=PX h;refine yI.any (fun b k=>?_) q;obtain⟨s,a,z⟩:=ih h1 (by rintro rfl;cases h2) false k;exact⟨.D,RI.tE (s₁:=.E) rfl (by decide) (a.app (.tX (i4 z) (O6 (i4 z) rfl) (by decide) .nil)),.inl rfl⟩
theorem Xv(f:Tr)(as:Ts)(Ca:RB f)(ih:Cv as):RB (.call f as):=fun h q zz=>by obtain⟨h1,h2⟩:=PX h;exact yI.any (fun b k=>⟨.D,(Ca.Uy h1 (g61 _) b k).app (ih.args h2 k),.inl rfl⟩) q
theorem ju(f:Tr)(as:Ts)(Ca:RB f)(ih:Cv as):RB (.new f as):=fun h q zz=>by
 obtain⟨h1,h2⟩:=PX h;have hf:yI (if V3 f=16∧EF f=true then some Tk.lp::bare f++[some .rp]else wrap 16 f (bare f)) true (tF f):=by
  unfold tF xD
  split
  ·rename_i q;rw[if_pos (.inr q.2)];exact(Ca h1 false nofun).paren
  ·rename_i q;have:=yI.wrap (l:=16) (Ca h1) true fun zz=>by decide
   unfold nd nq at this
   by_cases z:V3 f<16
   ·rw[if_pos z]at this;rw[if_pos (.inl z)];exact this
   ·rw[if_neg z]at this;rw[if_neg (fun y=>y.elim z fun y=>q ⟨Nat.le_antisymm (vM f) (Nat.not_lt.mp z),y⟩)];exact this
 exact yI.any (fun b k=>⟨.D,(RI.tE (s₁:=.E) rfl (by decide) (.blank (hf.D true k))).app (ih.args h2 k),.inl rfl⟩) q
theorem AA(a:Tr)(x:Tk)(ih:RB a):RB (.mem a x):=fun h q zz=>by obtain⟨h1,h2⟩:=PX h;obtain rfl:x= .m:=of_decide_eq_true h2;exact yI.any (fun b k=>⟨.D,(ih.Uy h1 (g61 _) b k).app (.tX (s₁:=.M) (.inl rfl) rfl (by decide) (.tok (s₁:=.D) rfl (by decide) (fun zz=>rfl) .nil)),.inl rfl⟩) q
theorem Y5(a b:Tr)(Ot:RB a)(Ht:RB b):RB (.idx a b):=fun h q zz=>by obtain⟨h1,h2⟩:=PX h;refine yI.any (fun b' k=>?_) q;obtain⟨s,x,z⟩:=Ht.wrap h2 0 false k;exact⟨.D,(Ot.Uy h1 (g61 _) b' k).app (.tX (s₁:=.E) (.inl rfl) rfl (by decide) (x.app (.tX (i4 z) (O6 (i4 z) rfl) (by decide) .nil))),.inl rfl⟩
theorem eW(a:Tr)(as:Ts)(Ot:RB a)(ih:Cv as):Cv (.cons a as):=fun h zz=>by
 obtain⟨h1,h2⟩:=PX h;cases as with
 |nil=>exact Ot.wrap h1 1
 |cons b r=>
  show yI (Xn (wrap 1 a (bare a)::Vs (.cons b r))) false _;rw[nI Cn];exact .comma (Ot.wrap h1 1) (ih h2 nofun)
theorem wd(t:Tr):RB t:=Tr.rec (motive_1:=RB) (motive_2:=Cv) (fun h=>nomatch h) (fun x h o zz=>YW (by revert h;exact bZ (p:=fun x=>LZ (.name x)=true→uq x=true) x (by kernel_rfl)) rfl rfl o) (fun zz o zz=>YW (x:=.this) rfl rfl rfl o) (fun zz o zz=>YW (x:=.str) rfl rfl rfl o)
 iJ sS Lu UG mM XG bp Xv ju AA Y5 (fun zz h=>absurd rfl h) eW t
section
section
variable{α:Type}{R:Res}{f g:Tr→List Tk→Res}{p:Tk→Bool}{ts:List Tk}{yes I0:Tk→List Tk→Res}{no P2:Res}
theorem uM(h:∀t r,R= .ok t r→f t r=g t r):R.bind f=R.bind g:=by
 cases R with
 |ok t r=>exact h t r rfl
 |_=>rfl
theorem jU(h:∀t r,ts=t::r→yes t r=I0 t r)(h':no=P2):hd p ts yes no=hd p ts I0 P2:=by
 subst h';cases ts with
 |nil=>rfl
 |cons t r=>show cond (p t) _ _=cond (p t) _ _;rw[h t r rfl]
noncomputable def vu(body:(α→List Tk→Res)→α→List Tk→Res)(l:Nat):α→List Tk→Res:=Nat.rec (fun zz zz=>.out) (fun zz lp=>body lp) l
theorem fuel{body:(α→List Tk→Res)→α→List Tk→Res}(h:∀lp Jm a ts,(∀a' wB,wB.length<ts.length→lp a' wB=Jm a' wB)→body lp a ts=body Jm a ts):
  ∀l l' a ts,ts.length<l→ts.length<l'→vu body l a ts=vu body l' a ts
 |0,_,_,_,q,_=>absurd q (Nat.not_lt_zero _)
 |_+1,0,_,_,_,q=>absurd q (Nat.not_lt_zero _)
 |l+1,l'+1,a,ts,q,q'=>h _ _ a ts fun a' wB z=>fuel h l l' a' wB (Nat.lt_of_lt_of_le z (Nat.le_of_lt_succ q)) (Nat.lt_of_lt_of_le z (Nat.le_of_lt_succ q'))
end
section
variable{k nest l l':Nat}{ts:List Tk}
theorem ZL{n:Nat}{x:Tk}{r r':List Tk}(e:ts=x::r)(h:n+r'.length≤r.length):r'.length<ts.length:=by subst e;exact Nat.lt_succ_of_le (z2n (Nat.le_add_left _ _) h)
theorem OZ{n:Nat}{x:Tk}{r r':List Tk}(e:r=x::r')(h:n+r.length≤ts.length):r'.length<ts.length:=by subst e;exact Nat.lt_of_lt_of_le (K7i _) (z2n (Nat.le_add_left _ _) h)
theorem aS{a:Ts}(h:ts.length<l)(h':ts.length<l'):qt (P k) nest l a ts=qt (P k) nest l' a ts:=
 fuel (α:=Ts) (body:=fun lp acc ts=>hd (eqT .comma) ts (fun zz r=>(P k .asg nest r).bind fun t r'=>lp (acc.snoc t) r') (.ok (.comma acc) ts))
  (fun lp Jm a ts ih=>jU (fun x r e=>uM fun t r' q=>ih _ _ (ZL e (mP q).len)) rfl) l l' a ts h h'
theorem pu{q:Nat}{a:Tr}(h:ts.length<l)(h':ts.length<l'):Fj (P k) nest q l a ts=Fj (P k) nest q l' a ts:=
 fuel (α:=Tr) (body:=fun lp a ts=>hd (fun o=>decide (q≤Qa o)) ts (fun o r=>(P k (.bin (Qa o+1)) nest r).bind fun b r=>lp (.bin o a b) r) (.ok a ts))
  (fun lp Jm a ts ih=>jU (fun x r e=>uM fun t r' q=>ih _ _ (ZL e (mP q (Nat.succ_pos _) (Z4B (sI x))).1.len)) rfl) l l' a ts h h'
theorem pZ{a:Tr}(h:ts.length<l)(h':ts.length<l'):Cp (P k) nest l a ts=Cp (P k) nest l' a ts:=
 fuel (α:=Tr) (body:=fun lp t ts=>hd (eqT .lp) ts (fun zz zz=>(P k .args nest ts).bind fun as r=>(P k (.members (.call t (yc as))) nest r).bind lp) (.ok t ts))
  (fun lp Jm a ts ih=>jU (fun x r e=>uM fun t r1 q=>uM fun t r' q'=>ih _ _ (by have h1:c8 (yc _)+1+r1.length≤ts.length:=(mP q).len;have h2:r'.length≤r1.length:=(mP q').1;lia)) rfl) l l' a ts h h'
theorem Mw{a:Tr}(h:ts.length<l)(h':ts.length<l'):DI (P k) nest l a ts=DI (P k) nest l' a ts:=
 fuel (α:=Tr) (body:=fun lp t ts=>hd (eqT .dot) ts (fun zz r=>hd isWord r (fun x r=>lp (.mem t x) r) .fail) (hd (eqT .lb) ts (fun zz r=>(P k .expr nest r).bind fun k r=>hd (eqT .rb) r (fun zz r=>lp (.idx t k) r) .fail) (.ok t ts)))
  (fun lp Jm a ts ih=>jU (fun x r e=>jU (fun y r' e'=>ih _ _ (by subst e e';exact Nat.lt_succ_of_lt (K7i _))) rfl) (jU (fun x r e=>uM fun t r1 q=>jU (fun y r' e'=>ih _ _ (Nat.lt_trans (OZ e' (mP q).len) (by subst e;exact K7i _))) rfl) rfl)) l l' a ts h h'
theorem RA{a:Ts}(h:ts.length<l)(h':ts.length<l'):kS (P k) nest l a ts=kS (P k) nest l' a ts:=
 fuel (α:=Ts) (body:=fun lp acc ts=>hd (eqT .rp) ts (fun zz r=>.ok (.arr acc) r) ((P k .asg nest ts).bind fun t r=>hd (eqT .comma) r (fun zz r=>hd (eqT .rp) r (fun zz zz=>.fail) (lp (acc.snoc t) r)) (hd (eqT .rp) r (fun zz r=>.ok (.arr (acc.snoc t)) r) .fail)))
  (fun lp Jm a ts ih=>jU (fun zz zz zz=>rfl) (uM fun t r q=>jU (fun x r' e=>jU (fun zz zz zz=>rfl) (ih _ _ (OZ e (mP q).len))) rfl)) l l' a ts h h'
theorem jX{a:Ts}(h:ts.length<l)(h':ts.length<l'):Bd (P k) nest l a ts=Bd (P k) nest l' a ts:=
 fuel (α:=Ts) (body:=fun lp acc ts=>hd (eqT .rb) ts (fun zz r=>.ok (.arr acc) r) (hd (eqT .comma) ts (fun zz r=>lp (acc.snoc .hole) r) ((P k .asg nest ts).bind fun t r=>hd (eqT .rb) r (fun zz r=>.ok (.arr (acc.snoc t)) r) (hd (eqT .comma) r (fun zz r=>lp (acc.snoc t) r) .fail))))
  (fun lp Jm a ts ih=>jU (fun zz zz zz=>rfl) (jU (fun x r e=>ih _ _ (by subst e;exact K7i _)) (uM fun t r q=>jU (fun zz zz zz=>rfl) (jU (fun x r' e=>ih _ _ (OZ e (mP q).len)) rfl)))) l l' a ts h h'
end
end
section
def nx(p:Tk→Bool)(r:List Tk):Prop:=is p r=false
def fM(r:List Tk):Prop:=nx (eqT .dot) r∧nx (eqT .lb) r
def fL(r:List Tk):Prop:=fM r∧nx (eqT .lp) r
def fP(r:List Tk):Prop:=fL r∧nx PY r
def fB(q:Nat)(r:List Tk):Prop:=fP r∧prio r<q
def fC(r:List Tk):Prop:=fB 1 r∧nx (eqT .quest) r
def fA(r:List Tk):Prop:=fC r∧nx B3 r
def fE(r:List Tk):Prop:=fA r∧nx (eqT .comma) r
section
variable{k nest:Nat}{c:ZI}
theorem mc{t x r}(h:isWord x=true):P (k+1) (.members t) nest (.dot::x::r)=P (k+1) (.members (.mem t x)) nest r:=
 (cL (p:=isWord) (yes:=fun x r=>DI (P k) nest (r.length+2) (.mem t x) r) (no:=.fail) h).trans (Mw (Nat.lt_succ_of_lt (K7i _)) (K7i _))
theorem Ys{t key ts r}(e:P k .expr nest ts= .ok key (.rb::r)):P (k+1) (.members t) nest (.lb::ts)=P (k+1) (.members (.idx t key)) nest r:=by have L:_+(Tk.rb::r).length≤ts.length:=(mP e).len;rw[List.length_cons]at L;have f:DI (P k) nest (ts.length+1) (.idx t key) r=DI (P k) nest (r.length+1) (.idx t key) r:=Mw (by lia) (K7i _);exact(bind_eq e (f:=fun key r=>hd (eqT .rb) r (fun zz r=>DI (P k) nest (ts.length+1) (.idx t key) r) .fail)).trans f
theorem mY{t r}(h:fM r):P (k+1) (.members t) nest r= .ok t r:=(We h.1).trans (We h.2)
noncomputable def v8(c:ZI)(nest:Nat)(t:Tr)(r:List Tk):Res:=(c (.members t) nest r).bind fun t' r2=>Cp c nest (r2.length+1) t' r2
theorem gU{ts t r}(e:c (bO ts) nest ts= .ok t r):tf c nest ts=v8 c nest t r:=bind_eq e
theorem m5{t x r}(h:isWord x=true):v8 (P (k+1)) nest t (.dot::x::r)=v8 (P (k+1)) nest (.mem t x) r:=by unfold v8;rw[mc h]
theorem iT{t key ts r}(e:P k .expr nest ts= .ok key (.rb::r)):v8 (P (k+1)) nest t (.lb::ts)=v8 (P (k+1)) nest (.idx t key) r:=by unfold v8;rw[Ys e]
theorem wV{t as r r'}(e:P (k+1) .args nest (.lp::r)= .ok (.arr as) r'):v8 (P (k+1)) nest t (.lp::r)=v8 (P (k+1)) nest (.call t as) r':=by have l1:c8 as+1+r'.length≤(Tk.lp::r).length:=(mP e).len;rw[List.length_cons]at l1;refine(bind_eq (mY (r:=.lp::r) ⟨rfl,rfl⟩)).trans ((bind_eq e (f:=fun as r2=>(P (k+1) (.members (.call t (yc as))) nest r2).bind (Cp (P (k+1)) nest (r.length+1)))).trans (uM fun t' r2 q=>pZ ?_ (K7i _)));have l2:r2.length≤r'.length:=(mP q).1;lia
theorem wW{t r}(h:fL r):v8 (P (k+1)) nest t r= .ok t r:=(bind_eq (mY h.1)).trans (We h.2)
noncomputable def LB(c:ZI)(nest q:Nat)(a:Tr)(ts:List Tk):Res:=Fj c nest q (ts.length+1) a ts
theorem GS{q o a b r r'}(h:q≤Qa o)(e:P k (.bin (Qa o+1)) nest r= .ok b r'):LB (P k) nest q a (o::r)=LB (P k) nest q (.bin o a b) r':=by have l1:=(mP e (Nat.succ_pos _) (Z4B (sI o))).1.len;have f:Fj (P k) nest q (r.length+1) (.bin o a b) r'=Fj (P k) nest q (r'.length+1) (.bin o a b) r':=pu (by lia) (K7i _);exact(cL (p:=fun o=>decide (q≤Qa o)) (yes:=fun o r'=>(P k (.bin (Qa o+1)) nest r').bind fun b r'=>Fj (P k) nest q (r.length+1) (.bin o a b) r') (no:=.ok a (o::r)) (decide_eq_true h)).trans ((bind_eq e).trans f)
theorem lU{q a r}(h:prio r<q):LB c nest q a r= .ok a r:=We (p:=fun o=>decide (q≤Qa o)) (by
 cases r with
 |nil=>rfl
 |cons o r=>exact decide_eq_false (Nat.not_le.mpr h))
theorem ny{q ts t r}(e:c .unary nest ts= .ok t r):xI c nest q ts=LB c nest q t r:=bind_eq e
noncomputable def LA(c:ZI)(nest:Nat)(a:Ts)(ts:List Tk):Res:=kS c nest (ts.length+1) a ts
theorem lV{a ts t r}(h:nx (eqT .rp) ts)(e:c .asg nest ts= .ok t (.rp::r)):LA c nest a ts= .ok (.arr (a.snoc t)) r:=(We h).trans (bind_eq e)
theorem qR{a ts t r}(h:nx (eqT .rp) ts)(h':nx (eqT .rp) r)(e:P k .asg nest ts= .ok t (.comma::r)):LA (P k) nest a ts=LA (P k) nest (a.snoc t) r:=by have L:_+(Tk.comma::r).length≤ts.length:=(mP e).len;rw[List.length_cons]at L;exact(We h).trans ((bind_eq e).trans ((We (p:=eqT .rp) (yes:=fun zz zz=>.fail) (no:=kS (P k) nest ts.length (a.snoc t) r) h').trans (RA (by lia) (K7i _))))
noncomputable def LR(c:ZI)(nest:Nat)(a:Ts)(ts:List Tk):Res:=Bd c nest (ts.length+1) a ts
theorem mT{a ts t r}(h:nx (eqT .rb) ts∧nx (eqT .comma) ts)(e:c .asg nest ts= .ok t (.rb::r)):LR c nest a ts= .ok (.arr (a.snoc t)) r:=(We h.1).trans ((We h.2).trans (bind_eq e))
theorem gk{a ts t r}(h:nx (eqT .rb) ts∧nx (eqT .comma) ts)(e:P k .asg nest ts= .ok t (.comma::r)):LR (P k) nest a ts=LR (P k) nest (a.snoc t) r:=by have L:_+(Tk.comma::r).length≤ts.length:=(mP e).len;rw[List.length_cons]at L;exact(We h.1).trans ((We h.2).trans ((bind_eq e).trans (jX (by lia) (K7i _))))
noncomputable def LX(c:ZI)(nest:Nat)(a:Ts)(ts:List Tk):Res:=qt c nest (ts.length+1) a ts
theorem yL{a ts t r}(e:P k .asg nest ts= .ok t r):LX (P k) nest a (.comma::ts)=LX (P k) nest (a.snoc t) r:=by have L:=(mP e).len;exact(bind_eq e (f:=fun t r'=>qt (P k) nest (ts.length+1) (a.snoc t) r')).trans (aS (by lia) (K7i _))
theorem HE{a r}(h:nx (eqT .comma) r):LX c nest a r= .ok (.comma a) r:=We h
end
end
section
noncomputable def lx(t:Tk):Bool:=([.a,.b,.c,.m,.this,.str,.lp,.lb,.new]:List Tk).contains t
noncomputable def fh(t:Tk):Bool:=lx t || PY t || wj t
def QT(T:List Tk):Prop:=is lx T=true
def R5(T:List Tk):Prop:=is fh T=true
theorem wc{p q:Tk→Bool}{T:List Tk}(f:∀x,p x=true→q x=true)(h:is p T=true):is q T=true:=by
 cases T with
 |nil=>cases h
 |cons x r=>exact f x h
theorem Yq{p:Tk→Bool}{T:List Tk}(h:is p T=true)(U:List Tk):is p (T++U)=true:=by
 cases T with
 |nil=>cases h
 |cons x r=>exact h
theorem SJ{p q:Tk→Bool}{T:List Tk}(f:∀x,p x=true→q x=false)(h:is p T=true):nx q T:=by
 cases T with
 |nil=>cases h
 |cons x r=>exact f x h
theorem QT.one{T}(h:QT T):R5 T:=wc (fun x h=>by rw[fh,h];rfl) h
theorem QT.app{T}(h:QT T)(U:List Tk):QT (T++U):=Yq h U
theorem R5.app{T}(h:R5 T)(U:List Tk):R5 (T++U):=Yq h U
def Rd(l b n0:Nat)(T:List Tk)(t:Tr):Prop:=∀k nest,b≤k→nest+n0≤40→∀r,
 (15≤l→tf (P (k+1)) nest (T++r)=v8 (P (k+1)) nest t r)∧
 (14≤l→fP r→P (k+3) .postfix nest (T++r)= .ok t r)∧
 (13≤l→fP r→P (k+4) .unary nest (T++r)= .ok t r)∧
 (∀q,1≤q→q+2≤l→fP r→(l≤12→prio r+2≤l)→xI (P (k+4)) nest q (T++r)=LB (P (k+4)) nest q t r)∧
 (2≤l→fC r→(l≤2→fA r)→P (k+6) .cond nest (T++r)= .ok t r)∧
 (1≤l→nest+1+n0≤40→fA r→P (k+7) .asg nest (T++r)= .ok t r)∧
 (nest+1+n0≤40→fE r→P (k+8) .expr nest (T++r)= .ok t r)
section
variable{l b n0:Nat}{T:List Tk}{t:Tr}
theorem Rd.lower{l':Nat}(h:Rd l b n0 T t)(hl:l'≤l):Rd l' b n0 T t:=fun k nest hk hn r=>by obtain⟨a1,a2,a3,a4,a5,a6,a7⟩:=h k nest hk hn r;exact⟨fun q=>a1 (by lia),fun q=>a2 (by lia),fun q=>a3 (by lia),fun q h1 h2 h3 h4=>a4 q h1 (by lia) h3 (by lia),fun q f g=>a5 (by lia) f fun z=>g (by lia),fun q=>a6 (by lia),a7⟩
theorem Rd.more{b' n':Nat}(h:Rd l b n0 T t)(hb:b≤b')(hn:n0≤n'):Rd l b' n' T t:=fun k nest hk hn r=>by obtain⟨a1,a2,a3,a4,a5,a6,a7⟩:=h k nest (by lia) (by lia) r;exact⟨a1,a2,a3,a4,a5,fun q z=>a6 q (by lia),fun z=>a7 (by lia)⟩
theorem yt{k q nest ts}:P (k+1) (.bin q) nest ts=xI (P k) nest q ts:=rfl
theorem zW{k nest ts}:P (k+1) .lhs nest ts=tf (P k) nest ts:=rfl
theorem C5{k nest:Nat}{ts r:List Tk}(h:fE r)(e:P k .asg nest ts= .ok t r):P (k+1) .expr nest ts= .ok t r:=(bind_eq e).trans (We h.2)
theorem Z8{k nest:Nat}{ts r:List Tk}(h:fA r)(hn:nest+1≤40)(e:P k .cond (nest+1) ts= .ok t r):P (k+1) .asg nest ts= .ok t r:=(Th (Nat.not_lt.mpr hn)).trans ((bind_eq e).trans (We h.2))
theorem t9{k nest:Nat}{ts r:List Tk}(h:fC r)(e:P k (.bin 1) nest ts= .ok t r):P (k+1) .cond nest ts= .ok t r:=(bind_eq e).trans (We h.2)
theorem Zh{k nest:Nat}{ts r:List Tk}(h:QT ts)(e:P k .postfix nest ts= .ok t r):P (k+1) .unary nest ts= .ok t r:=
 (We (SJ (fun x=>bZ (p:=fun x=>lx x=true→PY x=false) x (by kernel_rfl)) h)).trans ((We (SJ (fun x=>bZ (p:=fun x=>lx x=true→wj x=false) x (by kernel_rfl)) h)).trans e)
theorem Na{k nest:Nat}{ts r:List Tk}(h:nx PY r)(e:P k .lhs nest ts= .ok t r):P (k+1) .postfix nest ts= .ok t r:=(bind_eq e).trans (We h)
theorem Rd.c0(hl:l=0)(h:∀k nest r,b≤k→nest+n0+1≤40→fE r→P (k+8) .expr nest (T++r)= .ok t r):Rd l b n0 T t:=fun k nest hk hn r=>
 ⟨by lia,by lia,by lia,fun q h1 h2=>by lia,by lia,by lia,fun q f=>h k nest r hk (by lia) f⟩
theorem Rd.c1(hl:l≤1)(h:∀k nest r,b≤k→nest+n0+1≤40→fA r→P (k+7) .asg nest (T++r)= .ok t r):Rd l b n0 T t:=fun k nest hk hn r=>
 ⟨by lia,by lia,by lia,fun q h1 h2=>by lia,by lia,fun zz q f=>h k nest r hk (by lia) f,fun q f=>C5 f (h k nest r hk (by lia) f.1)⟩
theorem Rd.c2(hl:l≤2)(h:∀k nest r,b≤k→nest+n0≤40→fA r→P (k+6) .cond nest (T++r)= .ok t r):Rd l b n0 T t:=fun k nest hk hn r=>by have a6:nest+1+n0≤40→fA r→P (k+7) .asg nest (T++r)= .ok t r:=fun z f=>Z8 f (by lia) (h k (nest+1) r hk (by lia) f);exact⟨by lia,by lia,by lia,fun q h1 h2=>by lia,fun zz f g=>h k nest r hk hn (g hl),fun zz=>a6,fun z f=>C5 f (a6 z f.1)⟩
theorem Rd.cB(hl:l≤12)(jC:3≤l)(h:∀k nest r,b≤k→nest+n0≤40→fP r→prio r+2≤l→∀q,1≤q→q+2≤l→xI (P (k+4)) nest q (T++r)=LB (P (k+4)) nest q t r):Rd l b n0 T t:=fun k nest hk hn r=>by
 have a5:∀nest,nest+n0≤40→fC r→P (k+6) .cond nest (T++r)= .ok t r:=fun nest hn f=>t9 f (by rw[yt,h k nest r hk hn f.1.1 (by have:=f.1.2;lia) 1 (by lia) (by lia)];exact lU f.1.2)
 have a6:nest+1+n0≤40→fA r→P (k+7) .asg nest (T++r)= .ok t r:=fun z f=>Z8 f (by lia) (a5 _ (by lia) f.1);exact⟨by lia,by lia,by lia,fun q h1 h2 h3 h4=>h k nest r hk hn h3 (h4 hl) q h1 h2,fun zz f zz=>a5 nest hn f,fun zz=>a6,fun z f=>C5 f (a6 z f.1)⟩
theorem Rd.xa(hl:l≤13)(jC:13≤l)(h:∀k nest r,b≤k→nest+n0≤40→fP r→P (k+4) .unary nest (T++r)= .ok t r):Rd l b n0 T t:=fun k nest hk hn r=>by
 have a4:∀nest q,nest+n0≤40→fP r→xI (P (k+4)) nest q (T++r)=LB (P (k+4)) nest q t r:=fun nest q hn f=>ny (h k nest r hk hn f);have a5:∀nest,nest+n0≤40→fC r→P (k+6) .cond nest (T++r)= .ok t r:=fun nest hn f=>t9 f (by rw[yt,a4 nest 1 hn f.1.1];exact lU f.1.2)
 have a6:nest+1+n0≤40→fA r→P (k+7) .asg nest (T++r)= .ok t r:=fun z f=>Z8 f (by lia) (a5 _ (by lia) f.1);exact⟨by lia,by lia,fun zz=>h k nest r hk hn,fun q zz zz f zz=>a4 nest q hn f,fun zz f zz=>a5 nest hn f,fun zz=>a6,fun z f=>C5 f (a6 z f.1)⟩
theorem Rd.Ol(hl:l≤14)(jC:14≤l)(hd:QT T)(h:∀k nest r,b≤k→nest+n0≤40→fP r→P (k+3) .postfix nest (T++r)= .ok t r):Rd l b n0 T t:=fun k nest hk hn r=>by obtain⟨a1,a2,a3,a4,a5,a6,a7⟩:=Rd.xa (l:=13) (b:=b) (n0:=n0) (T:=T) (t:=t) (by lia) (by lia) (fun k nest r hk hn f=>Zh (hd.app r) (h k nest r hk hn f)) k nest hk hn r;exact⟨by lia,fun zz=>h k nest r hk hn,fun zz=>a3 (by lia),fun q h1 zz h3 zz=>ny (a3 (by lia) h3),fun zz f zz=>a5 (by lia) f (fun z=>by lia),fun zz=>a6 (by lia),a7⟩
theorem Rd.bS(hl:15≤l)(hd:QT T)(h:∀k nest r,b≤k→nest+n0≤40→tf (P (k+1)) nest (T++r)=v8 (P (k+1)) nest t r):Rd l b n0 T t:=fun k nest hk hn r=>by have a2:∀k nest r,b≤k→nest+n0≤40→fP r→P (k+3) .postfix nest (T++r)= .ok t r:=fun k nest r hk hn f=>Na f.2 (by rw[zW,h k nest r hk hn];exact wW f.1);obtain⟨_,_,a3,a4,a5,a6,a7⟩:=Rd.Ol (l:=14) (b:=b) (n0:=n0) (T:=T) (t:=t) (by lia) (by lia) hd a2 k nest hk hn r;exact⟨fun zz=>h k nest r hk hn,fun zz=>a2 k nest r hk hn,fun zz=>a3 (by lia),fun q h1 zz h3 zz=>ny (a3 (by lia) h3),fun zz f zz=>a5 (by lia) f (fun z=>by lia),fun zz=>a6 (by lia),a7⟩
end
end
noncomputable def PR(x:Tk):Bool:=decide (x≠ .dot)&&decide (x≠ .lb)&&decide (x≠ .lp)&& !PY x
theorem HX{b:Bool}(h:(!b)=true):b=false:=by
 cases b with
 |false=>rfl
 |true=>cases h
theorem Au{x r}(h:(eqT .dot x || eqT .lb x)=false):fM (x::r):=⟨(Bool.or_eq_false_iff.mp h).1,(Bool.or_eq_false_iff.mp h).2⟩
theorem A7{x:Tk}(h:PR x=true):eqT .dot x=false∧eqT .lb x=false∧eqT .lp x=false∧PY x=false:=by revert h;exact bZ x (by kernel_rfl)
theorem EL{x r}(h:(eqT .dot x || eqT .lb x || eqT .lp x)=false):fL (x::r):=⟨Au (Bool.or_eq_false_iff.mp h).1,(Bool.or_eq_false_iff.mp h).2⟩
theorem sF{x r}(h:PR x=true):fP (x::r):=let⟨a,b,c,d⟩:=A7 h;⟨⟨⟨a,b⟩,c⟩,d⟩
noncomputable def GV(x:Tk):Bool:=PR x&&decide (Qa x<1)&& !eqT .quest x
theorem I8{x r}(h:GV x=true):fC (x::r):=by obtain⟨h,c⟩:=PX h;obtain⟨a,b⟩:=PX h;exact⟨⟨sF a,of_decide_eq_true b⟩,HX c⟩
theorem ti{x r}(h:(GV x&& !B3 x)=true):fA (x::r):=⟨I8 (PX h).1,HX (PX h).2⟩
theorem lu{x r}(h:(GV x&& !B3 x&& !eqT .comma x)=true):fE (x::r):=⟨ti (PX h).1,HX (PX h).2⟩
theorem A9:fE []:=⟨⟨⟨⟨⟨⟨⟨rfl,rfl⟩,rfl⟩,rfl⟩,Nat.zero_lt_one⟩,rfl⟩,rfl⟩,rfl⟩
theorem OF(a b:List It):toks (a++b)=toks a++toks b:=List.filterMap_append ..
theorem rI(x:Tk)(a:List It):toks (some x::a)=x::toks a:=rfl
theorem sO(a:List It):toks (none::a)=toks a:=rfl
theorem QU(o:Tk):toks (hV o)= [o]:=rfl
theorem AE(o:Tk)(b:List It):toks (RZ o b)=o::toks b:=by
 unfold RZ
 split<;>rfl
def HB(t:Tr):Prop:=LZ t=true→R5 (toks (bare t))∧(14≤V3 t→QT (toks (bare t)))
def HBs(as:Ts):Prop:=Pr as=true→as≠ .nil→R5 (toks (Xn (Vs as)))
theorem Ug{t:Tr}(h:QT (toks (bare t))):R5 (toks (bare t))∧(14≤V3 t→QT (toks (bare t))):=⟨h.one,fun zz=>h⟩
theorem kJ{l:Nat}{t:Tr}(h1:R5 (toks (bare t)))(h2:14≤V3 t→QT (toks (bare t))):R5 (toks (wrap l t (bare t)))∧(14≤l→QT (toks (wrap l t (bare t)))):=by
 unfold wrap
 split
 ·have:QT (toks (some Tk.lp::bare t++[some .rp])):=rfl;exact⟨this.one,fun zz=>this⟩
 ·exact⟨h1,fun q=>h2 (by lia)⟩
theorem HB.wrap{t:Tr}(h:HB t)(k:LZ t=true)(l:Nat):R5 (toks (Mine.wrap l t (bare t))):=(kJ (h k).1 (h k).2).1
theorem HB.Uy{t:Tr}(h:HB t)(k:LZ t=true):QT (toks (Mine.wrap 15 t (bare t))):=(kJ (h k).1 (h k).2).2 (by decide)
theorem bz{t:Tr}{T U:List It}(h:R5 (toks T))(e:bare t=T++U)(hs:V3 t<14):R5 (toks (bare t))∧(14≤V3 t→QT (toks (bare t))):=by refine⟨?_,fun q=>absurd hs (Nat.not_lt.mpr q)⟩;rw[e,OF];exact h.app _
theorem hd2{t:Tr}{T U:List It}(h:QT (toks T))(e:bare t=T++U):R5 (toks (bare t))∧(14≤V3 t→QT (toks (bare t))):=Ug (by rw[e,OF];exact h.app _)
theorem j7{o:Tk}{b:List It}(h:fh o=true):R5 (toks (RZ o b)):=by rw[AE];exact h
theorem sy(t:Tr):HB t:=Tr.rec (motive_1:=HB) (motive_2:=HBs) (fun h=>nomatch h) (fun x h=>Ug (t:=.name x) (by revert h;exact bZ (p:=fun x=>LZ (.name x)=true→lx x=true) x (by kernel_rfl))) (fun zz=>Ug (t:=.this) rfl) (fun zz=>Ug (t:=.str) rfl)
 (fun o a zz h=>⟨j7 (by have:=(PX h).1;revert this;exact bZ o (by kernel_rfl)),fun q=>absurd q (by show¬14≤13;decide)⟩)
 (fun o p a ih h=>by
  obtain⟨h1,h2⟩:=PX h;cases p with
  |true=>exact⟨j7 (by have:=(PX h1).1;revert this;exact bZ o (by kernel_rfl)),fun q=>absurd q (by show¬14≤13;decide)⟩
  |false=>exact hd2 (ih.Uy h2) rfl)
 (fun o a b ih zz h=>by obtain⟨h1,h2⟩:=PX h;exact bz (ih.wrap (PX h1).2 _) (List.append_assoc ..) (show eP o<14 from bZ o (by kernel_rfl)))
 (fun o a b ih zz h=>by obtain⟨h1,h2⟩:=PX h;exact bz (ih.wrap (PX h1).2 15) (List.append_assoc ..) (J1O rfl))
 (fun a b c ih zz zz h=>by obtain⟨h1,h2⟩:=PX h;exact bz (ih.wrap (PX h1).1 3) (U:=hV .quest++(wrap 1 b (bare b)++(hV .colon++wrap 1 c (bare c)))) (by rw[←List.append_assoc, ←List.append_assoc, ←List.append_assoc];rfl) (J1O rfl))
 (fun as ih h=>by obtain⟨h1,h2⟩:=PX h;exact⟨ih h1 (by rintro rfl;cases h2),fun q=>absurd q (by show¬14≤0;decide)⟩)
 (fun as zz zz=>Ug (t:=.arr as) rfl) (fun f as ih zz h=>hd2 (ih.Uy (PX h).1) rfl) (fun f as zz zz zz=>Ug (t:=.new f as) rfl) (fun a x ih h=>hd2 (ih.Uy (PX h).1) rfl) (fun a b ih zz h=>hd2 (ih.Uy (PX h).1) rfl) (fun zz h=>absurd rfl h)
 (fun a as ih zz h zz=>by
  obtain⟨h1,h2⟩:=PX h;cases as with
  |nil=>exact ih.wrap h1 1
  |cons b r=>
   show R5 (toks (Xn (wrap 1 a (bare a)::Vs (.cons b r))));rw[nI Cn,OF,OF];exact((ih.wrap h1 1).app _).app _) t
def Hq(b n0:Nat)(T:List Tk)(t:Tr):Prop:=∀k nest r,b≤k→nest+n0≤40→P (k+1) (bO (T++r)) nest (T++r)= .ok t r
theorem Hq.rd{b n0 l T t}(h:Hq b n0 T t)(hl:15≤l)(hd:QT T):Rd l b n0 T t:=.bS hl hd fun k nest r hk hn=>gU (h k nest r hk hn)
noncomputable def Nc(c:ZI)(nest:Nat)(ts:List Tk):Res:=(c (bO ts) nest ts).bind fun t r=>c (.members t) nest r
def Nq(b n0:Nat)(T:List Tk)(t:Tr):Prop:=∀k nest r,b≤k→nest+n0≤40→Nc (P (k+1)) nest (T++r)=P (k+1) (.members t) nest r
theorem Hq.nq{b n0 T t}(h:Hq b n0 T t):Nq b n0 T t:=fun k nest r hk hn=>bind_eq (h k nest r hk hn)
theorem du{x:Tk}{r:List Tk}(h:eqT .new x=false):bO (x::r)= .YK:=by show cond (eqT .new x) _ _=_;rw[h];rfl
theorem Tn{l b n0 T t}(h:Rd l b n0 T t):Hq (b+10) (n0+1) (.lp::T++[.rp]) t:=fun k nest r hk hn=>by obtain⟨k',rfl⟩:∃k',k=k'+8:=⟨k-8,by lia⟩;have:=(h k' nest (by lia) (by lia) (.rp::r)).2.2.2.2.2.2 (by lia) (lu (by decide));rw[show Tk.lp::T++[.rp]++r= .lp::(T++ .rp::r)by rw[List.append_assoc];rfl];exact bind_eq (f:=fun t r=>hd (eqT .rp) r (fun zz r=>.ok t r) .fail) this
theorem BW(b:List It):toks (some Tk.lp::b++[some .rp])= .lp::toks b++[.rp]:=by rw[show some Tk.lp::b++[some Tk.rp]= [some .lp]++(b++[some .rp])from rfl,OF,OF];rfl
theorem Rd.wrap{b n0 t l}(h:Rd (V3 t) b n0 (toks (bare t)) t)(hl:l≤16):Rd l (b+10) (n0+1) (toks (Mine.wrap l t (bare t))) t:=by
 unfold Mine.wrap
 split
 ·rw[BW];exact((Tn h).rd (l:=16) (by lia) rfl).lower hl
 ·exact(h.lower (by lia)).more (by lia) (by lia)
section
noncomputable abbrev TW(l:Nat)(t:Tr):List Tk:=toks (wrap l t (bare t))
noncomputable abbrev Ch(d l:Nat)(a:Tr):Prop:=Rd l (40*d-28) (3*d-1) (TW l a) a
theorem Rd.child{a:Tr}{l d:Nat}(h:Rd (V3 a) (40*dT a+2) (3*dT a+1) (toks (bare a)) a)(hl:l≤16)(hd:dT a+1≤d):Ch d l a:=(h.wrap hl).more (by lia) (by lia)
noncomputable def Lc(d:Nat):Ts→Prop
 | .nil=>True
 | .cons a as=>Ch d 1 a∧R5 (TW 1 a)∧Lc d as
section
variable{d:Nat}{k nest:Nat}
theorem Ch.asg{a:Tr}(h:Ch d 1 a)(hd:1≤d)(hk:40*d≤k+21)(hn:nest+3*d≤40){r:List Tk}(hr:fA r):P k .asg nest (TW 1 a++r)= .ok a r:=by obtain⟨k',rfl⟩:∃k',k=k'+7:=⟨k-7,by lia⟩;exact(h k' nest (by lia) (by lia) r).2.2.2.2.2.1 (by lia) (by lia) hr
theorem Ch.expr{a:Tr}{l:Nat}(h:Ch d l a)(hd:1≤d)(hk:40*d≤k+20)(hn:nest+3*d≤40){r:List Tk}(hr:fE r):P k .expr nest (TW l a++r)= .ok a r:=by obtain⟨k',rfl⟩:∃k',k=k'+8:=⟨k-8,by lia⟩;exact(h k' nest (by lia) (by lia) r).2.2.2.2.2.2 (by lia) hr
theorem Ch.cond{a:Tr}{l:Nat}(h:Ch d l a)(hl:3≤l)(hd:1≤d)(hk:40*d≤k+22)(hn:nest+3*d≤41){r:List Tk}(hr:fC r):P k .cond nest (TW l a++r)= .ok a r:=by obtain⟨k',rfl⟩:∃k',k=k'+6:=⟨k-6,by lia⟩;exact(h k' nest (by lia) (by lia) r).2.2.2.2.1 (by lia) hr (by lia)
theorem Ch.Dl{a:Tr}{l q:Nat}(h:Ch d l a)(hd:1≤d)(hk:40*d≤k+24)(hn:nest+3*d≤41){r:List Tk}(hq:1≤q)(hl:q+2≤l)(hr:fP r)(Rl:l≤12→prio r+2≤l):xI (P k) nest q (TW l a++r)=LB (P k) nest q a r:=by obtain⟨k',rfl⟩:∃k',k=k'+4:=⟨k-4,by lia⟩;exact(h k' nest (by lia) (by lia) r).2.2.2.1 q hq hl hr Rl
theorem Ch.bin{a:Tr}{l q:Nat}(h:Ch d l a)(hd:1≤d)(hk:40*d≤k+23)(hn:nest+3*d≤41){r:List Tk}(hq:1≤q)(hl:q+2≤l)(hr:fB q r):P k (.bin q) nest (TW l a++r)= .ok a r:=by obtain⟨k',rfl⟩:∃k',k=k'+1:=⟨k-1,by lia⟩;rw[yt,h.Dl hd (by lia) hn hq hl hr.1 (fun zz=>by have:=hr.2;lia)];exact lU hr.2
theorem Ch.unary{a:Tr}(h:Ch d 13 a)(hd:1≤d)(hk:40*d≤k+24)(hn:nest+3*d≤41){r:List Tk}(hr:fP r):P k .unary nest (TW 13 a++r)= .ok a r:=by obtain⟨k',rfl⟩:∃k',k=k'+4:=⟨k-4,by lia⟩;exact(h k' nest (by lia) (by lia) r).2.2.1 (by lia) hr
theorem Ch.lhs{a:Tr}(h:Ch d 15 a)(hd:1≤d)(hk:40*d≤k+28)(hn:nest+3*d≤41){r:List Tk}:tf (P (k+1)) nest (TW 15 a++r)=v8 (P (k+1)) nest a r:=
 (h k nest (by lia) (by lia) r).1 (by lia)
theorem CU{T:List Tk}(h:R5 T)(r:List Tk){p:Tk→Bool}(hx:∀x,fh x=true→p x=false):nx p (T++r):=SJ hx (h.app r)
theorem al{T:List Tk}(h:R5 T)(r:List Tk):nx (eqT .rp) (T++r)∧nx (eqT .rb) (T++r)∧nx (eqT .comma) (T++r):=
 ⟨CU h r fun x=>bZ (p:=fun x=>fh x=true→eqT .rp x=false) x (by kernel_rfl),CU h r fun x=>bZ (p:=fun x=>fh x=true→eqT .rb x=false) x (by kernel_rfl),CU h r fun x=>bZ (p:=fun x=>fh x=true→eqT .comma x=false) x (by kernel_rfl)⟩
theorem aK(a b:Tr)(as:Ts):toks (Xn (Vs (.cons a (.cons b as))))=TW 1 a++ .comma::toks (Xn (Vs (.cons b as))):=by rw[Cr,nI Cn,OF,OF,List.append_assoc];rfl
theorem dy(a:Tr):toks (Xn (Vs (.cons a .nil)))=TW 1 a:=by rw[Cr];rfl
theorem Wb(hd:1≤d)(hk:40*d≤k+21)(hn:nest+3*d≤40):∀(as:Ts)(acc:Ts)(r:List Tk),Lc d as→(as= .nil→acc= .nil)→LA (P k) nest acc (toks (Xn (Vs as))++ .rp::r)= .ok (.arr (acc.app as)) r
 | .nil,acc,r,_,h=>by rw[h rfl];rfl
 | .cons a .nil,acc,r,h,_=>by rw[dy];exact lV (al h.2.1 _).1 (h.1.asg hd hk hn (ti (by decide)))
 | .cons a (.cons b as),acc,r,h,_=>by
  rw[aK,List.append_assoc,List.cons_append];have hb:R5 (toks (Xn (Vs (.cons b as)))):=by
   cases as with
   |nil=>rw[dy];exact h.2.2.2.1
   |cons c as=>rw[aK];exact h.2.2.2.1.app _
  rw[qR (al h.2.1 _).1 (al hb _).1 (h.1.asg hd hk hn (ti (by decide))),Wb hd hk hn (.cons b as) _ _ h.2.2 (fun z=>nomatch z),Ts.snoc,yQ]
  rfl
theorem Kg(hd:1≤d)(hk:40*d≤k+21)(hn:nest+3*d≤40):∀(as:Ts)(acc:Ts)(r:List Tk),Lc d as→as≠ .nil→LR (P k) nest acc (toks (Xn (Vs as))++ .rb::r)= .ok (.arr (acc.app as)) r
 | .nil,acc,r,_,h=>absurd rfl h
 | .cons a .nil,acc,r,h,_=>by rw[dy];exact mT (al h.2.1 _).2 (h.1.asg hd hk hn (ti (by decide)))
 | .cons a (.cons b as),acc,r,h,_=>by
  rw[aK,List.append_assoc,List.cons_append];rw[gk (al h.2.1 _).2 (h.1.asg hd hk hn (ti (by decide))),Kg hd hk hn (.cons b as) _ _ h.2.2 (fun z=>nomatch z),Ts.snoc,yQ]
  rfl
theorem cw(hd:1≤d)(hk:40*d≤k+21)(hn:nest+3*d≤40):∀(as:Ts)(acc:Ts)(r:List Tk),fE r→Lc d as→as≠ .nil→LX (P k) nest acc (.comma::(toks (Xn (Vs as))++r))= .ok (.comma (acc.app as)) r
 | .nil,acc,r,_,_,h=>absurd rfl h
 | .cons a .nil,acc,r,hr,h,_=>by rw[dy,yL (h.1.asg hd hk hn hr.1),HE hr.2];rfl
 | .cons a (.cons b as),acc,r,hr,h,_=>by
  rw[aK,List.append_assoc,List.cons_append];rw[yL (h.1.asg hd hk hn (ti (by decide))),cw hd hk hn (.cons b as) _ _ hr h.2.2 (fun z=>nomatch z),Ts.snoc,yQ]
  rfl
end
noncomputable abbrev vt(t:Tr):Prop:=Rd (V3 t) (40*dT t+2) (3*dT t+1) (toks (bare t)) t
noncomputable abbrev Xf(t:Tr):Prop:=V3 t=16→EF t=false→Nq (40*dT t+2) (3*dT t+1) (toks (bare t)) t
end
theorem Hq.mono{b n0 b' n' T t}(h:Hq b n0 T t)(hb:b≤b')(hn:n0≤n'):Hq b' n' T t:=fun k nest r hk hn=>h k nest r (by lia) (by lia)
theorem Hq.both{T t}(hb:toks (bare t)=T)(hs:V3 t=16)(h:Hq (40*dT t+2) (3*dT t+1) T t)(hd:QT T):vt t∧Xf t:=by subst hb;exact⟨by unfold vt;rw[hs];exact h.rd (by lia) hd,fun zz zz=>h.nq⟩
theorem iK{t:Tr}(h:V3 t≠16):Xf t:=fun q=>absurd q h
theorem Sc{a:Tr}(h1:vt a)(h2:Xf a)(hc:EF a=false):Nq (40*dT a+12) (3*dT a+2) (TW 15 a) a:=by
 unfold TW wrap
 split
 ·rw[BW];exact((Tn h1).mono (by lia) (by lia)).nq
 ·rename_i q;have q2:V3 a=16:=by
   rcases Nat.lt_or_ge (V3 a) 16 with z|z
   ·exact absurd (Cw hc z) (by lia)
   ·have:=vM a;lia
  exact fun k nest r hk hn=>h2 q2 hc k nest r (by lia) (by lia)
theorem Rb{R:Res}{f g:Tr→List Tk→Res}:(R.bind f).bind g=R.bind fun t r=>(f t r).bind g:=by cases R<;>rfl
def PT(t:Tr):Prop:=LZ t=true→vt t∧Xf t
def ey(as:Ts):Prop:=Pr as=true→∀d,sR as+1≤d→Lc d as
theorem aG{x:Tk}{t:Tr}(hb:bare t= [some x])(hs:V3 t=16)(hx:lx x=true)(hn:eqT .new x=false)(h:∀k nest r,pz (P (k+1)) nest (x::r)= .ok t r):vt t∧Xf t:=
 Hq.both (T:=[x]) (by rw[hb];rfl) hs (fun k nest r hk YF=>by obtain⟨k',rfl⟩:∃k',k=k'+1:=⟨k-1,by lia⟩;rw[List.singleton_append,du hn];exact h k' nest r) hx
theorem Jg(x:Tk):PT (.name x):=fun h=>by
 have k:lx x=true∧eqT .new x=false∧vV .name x=true:=by revert h;exact bZ (p:=fun x=>LZ (.name x)=true→lx x=true∧eqT .new x=false∧vV .name x=true) x (by kernel_rfl)
 exact aG rfl rfl k.1 k.2.1 fun k' nest r=>cL k.2.2
theorem G1{k nest:Nat}{o:Tk}{a:Tr}{d:Nat}{r:List Tk}(ch:Ch d 13 a)(hd:1≤d)(hk:40*d≤k+24)(hn:nest+3*d≤40)(hr:fP r):P (k+1) .behind nest (o::(TW 13 a++r))= .ok a r:=(Th (by lia)).trans (ch.unary hd hk (by lia) hr)
theorem fk(o:Tk)(a:Tr)(ih:PT a):PT (.un o a):=fun h=>by obtain⟨h1,h2⟩:=PX h;have ch:Ch (dT (.un o a)) 13 a:=(ih h2).1.child (by decide) (g61 _);refine⟨Rd.xa (g61 _) (g61 _) fun k nest r hk hn hr=>?_,iK (show 13≠16 by decide)⟩;rw[show toks (bare (.un o a))=o::TW 13 a from AE ..];show wP (P (k+3)) nest (o::(TW 13 a++r))=_;refine(We (ts:=o::(TW 13 a++r)) (show PY o=false by revert h1;exact bZ o (by kernel_rfl))).trans ((cL h1).trans (bind_eq (G1 (k:=k+2) (nest:=nest) ch (Nat.succ_pos _) (by lia) (by lia) hr)))
theorem XA(o:Tk)(p:Bool)(a:Tr)(ih:PT a):PT (.upd o p a):=fun h=>by
 have h0:=h;obtain⟨h1,h2⟩:=PX h;obtain⟨h1,h3⟩:=PX h1;cases p with
 |true=>
  have ch:Ch (dT (.upd o true a)) 13 a:=(ih h2).1.child (by decide) (g61 _);refine⟨Rd.xa (g61 _) (g61 _) fun k nest r hk hn hr=>?_,iK (show 13≠16 by decide)⟩;rw[show toks (bare (.upd o true a))=o::TW 13 a from AE ..];show wP (P (k+3)) nest (o::(TW 13 a++r))=_;refine(cL h1).trans ((bind_eq (G1 (k:=k+2) (nest:=nest) ch (Nat.succ_pos _) (by lia) (by lia) hr)).trans ?_);show cond (aV a) _ _=_;rw[h3];rfl
 |false=>
  have ch:Ch (dT (.upd o false a)) 15 a:=(ih h2).1.child (by decide) (g61 _);refine⟨Rd.Ol (g61 _) (g61 _) ((sy (.upd o false a) h0).2 (g61 _)) fun k nest r hk hn hr=>?_,iK (show 14≠16 by decide)⟩;have e:toks (bare (.upd o false a))++r=TW 15 a++o::r:=by rw[show bare (.upd o false a)=wrap 15 a (bare a)++[some o]from rfl,OF,List.append_assoc];rfl
  have fl:fL (o::r):=EL (by revert h1;exact bZ o (by kernel_rfl));rw[e];show bf (P (k+2)) nest _=_;refine(bind_eq (R:=P (k+2) .lhs nest (TW 15 a++o::r)) ((ch.lhs (k:=k) (nest:=nest) (Nat.succ_pos _) (by lia) (by lia)).trans (wW fl))).trans ((cL h1).trans ?_);show cond (aV a) _ _=_;rw[h3];rfl
theorem Hs(o:Tk)(a b:Tr)(Ot:PT a)(Ht:PT b):PT (.bin o a b):=fun h=>by
 obtain⟨h1,h2⟩:=PX h;obtain⟨h1,h3⟩:=PX h1;have so:eP o=Qa o+2∧1≤Qa o∧PR o=true:=by revert h1;exact bZ (p:=fun o=>decide (0<eP o)=true→eP o=Qa o+2∧1≤Qa o∧PR o=true) o (by kernel_rfl)
 have pl:=sI o;have s1:V3 (.bin o a b)=eP o:=rfl;have ca:Ch (dT (.bin o a b)) (eP o) a:=(Ot h3).1.child (by lia) (Z4B (w8W _ _));have cb:Ch (dT (.bin o a b)) (eP o+1) b:=(Ht h2).1.child (by lia) (Z4B (S28 _ _));have hd:1≤dT (.bin o a b):=Nat.succ_pos _;refine⟨Rd.cB (by lia) (by lia) fun k nest r hk hn hr hp q hq hl=>?_,iK (by lia)⟩;rw[s1]at hp hl;have e:toks (bare (.bin o a b))++r=TW (eP o) a++o::(TW (eP o+1) b++r):=by rw[show bare (.bin o a b)=wrap (eP o) a (bare a)++hV o++wrap (eP o+1) b (bare b)from rfl,OF,OF,QU,List.append_assoc,List.append_assoc];rfl
 rw[e,ca.Dl hd (by lia) (by lia) hq hl (sF so.2.2) (fun zz=>by show Qa o+2≤_;lia),GS (by lia) (cb.bin hd (by lia) (by lia) (by lia) (by lia) ⟨hr,by lia⟩)]
theorem EI(o:Tk)(a b:Tr)(Ot:PT a)(Ht:PT b):PT (.asg o a b):=fun h=>by
 obtain⟨h1,h2⟩:=PX h;obtain⟨h1,h3⟩:=PX h1;obtain⟨h1,h4⟩:=PX h1;have ca:Ch (dT (.asg o a b)) 15 a:=(Ot h3).1.child (by decide) (Z4B (w8W _ _));have cb:Ch (dT (.asg o a b)) 1 b:=(Ht h2).1.child (by decide) (Z4B (S28 _ _));have hd:1≤dT (.asg o a b):=Nat.succ_pos _;refine⟨Rd.c1 (g61 _) fun k nest r hk hn hr=>?_,iK (show 1≠16 by decide)⟩;have e:toks (bare (.asg o a b))++r=TW 15 a++o::(TW 1 b++r):=by rw[show bare (.asg o a b)=wrap 15 a (bare a)++hV o++wrap 1 b (bare b)from rfl,OF,OF,QU,List.append_assoc,List.append_assoc];rfl
 rw[e];show bB (P (k+6)) nest _=_;refine(Th (by lia)).trans ((bind_eq (ca.cond (k:=k+6) (nest:=nest+1) (by decide) hd (by lia) (by lia) (I8 (by revert h1;exact bZ (p:=fun o=>B3 o=true→GV o=true) o (by kernel_rfl))))).trans ((cL h1).trans ?_));show cond (aV a) _ _=_;rw[h4];exact bind_eq (cb.asg (k:=k+6) (nest:=nest+1) hd (by lia) (by lia) hr)
theorem TJ(a b c:Tr)(Ot:PT a)(Ht:PT b)(tA:PT c):PT (.cond a b c):=fun h=>by
 obtain⟨h1,h2⟩:=PX h;obtain⟨h1,h3⟩:=PX h1;have ca:Ch (dT (.cond a b c)) 3 a:=(Ot h1).1.child (by decide) (Z4B (w8W _ _));have cb:Ch (dT (.cond a b c)) 1 b:=(Ht h3).1.child (by decide) (Z4B (z2n (w8W _ _) (S28 _ _)));have cc:Ch (dT (.cond a b c)) 1 c:=(tA h2).1.child (by decide) (Z4B (z2n (S28 _ _) (S28 _ _)));have hd:1≤dT (.cond a b c):=Nat.succ_pos _;refine⟨Rd.c2 (g61 _) fun k nest r hk hn hr=>?_,iK (show 2≠16 by decide)⟩;have e:toks (bare (.cond a b c))++r=TW 3 a++Tk.quest::(TW 1 b++Tk.colon::(TW 1 c++r)):=by rw[show bare (.cond a b c)=wrap 3 a (bare a)++hV .quest++wrap 1 b (bare b)++hV .colon++wrap 1 c (bare c)from rfl,OF,OF,OF,OF,QU,QU,List.append_assoc,List.append_assoc,List.append_assoc,List.append_assoc];rfl
 rw[e];show Lz (P (k+5)) nest _=_;refine(bind_eq (ca.bin (k:=k+5) (nest:=nest) hd (by lia) (by lia) (by decide) (by decide) ⟨sF rfl,Nat.zero_lt_one⟩)).trans ?_;refine(bind_eq (f:=fun a' r=>Mine.hd (eqT .colon) r (fun zz r=>(P (k+5) .asg nest r).bind fun b r=>.ok (.cond a a' b) r) .fail) (cb.asg (k:=k+5) (nest:=nest) hd (by lia) (by lia) (ti rfl))).trans ?_;exact bind_eq (f:=fun b' r=>.ok (.cond a b b') r) (cc.asg (k:=k+5) (nest:=nest) hd (by lia) (by lia) hr)
theorem N1(as:Ts)(ih:ey as):PT (.comma as):=fun h=>by
 obtain⟨h1,h2⟩:=PX h;have hs:Lc (dT (.comma as)) as:=ih h1 _ (g61 _);have ne:∃a b r,as= .cons a (.cons b r):=by
  cases as with
  |nil=>cases h2
  |cons a r=>cases r with
   |nil=>cases h2
   |cons b r=>exact⟨a,b,r,rfl⟩
 clear h2;obtain⟨a,b,as,rfl⟩:=ne;have hd:1≤dT (.comma (.cons a (.cons b as))):=Nat.succ_pos _;refine⟨?_,iK (show 0≠16 by decide)⟩
 ·refine Rd.c0 rfl fun k nest r hk hn hr=>?_;rw[show bare (.comma (.cons a (.cons b as)))=Xn (Vs (.cons a (.cons b as)))from rfl,aK,List.append_assoc,List.cons_append];show Va (P (k+7)) nest _=_;exact(bind_eq (hs.1.asg (k:=k+7) (nest:=nest) hd (by lia) (by lia) (ti rfl))).trans (cw (k:=k+7) hd (by lia) (by lia) (.cons b as) (.cons a .nil) r hr hs.2.2 nofun)
theorem M0(x y:Tk)(b:List It):toks (some x::b++[some y])=x::(toks b++[y]):=by rw[show some x::b++[some y]= [some x]++(b++[some y])from rfl,OF,OF];rfl
theorem qS(as:Ts)(ih:ey as):PT (.arr as):=fun h=>by
 obtain⟨h1,h2⟩:=PX h;have ne:as≠ .nil:=by rintro rfl;cases h2
 clear h2;have hs:Lc (dT (.arr as)) as:=ih h1 _ (g61 _);refine Hq.both (M0 ..) rfl (fun k nest r hk hn=>?_) rfl;obtain⟨k',rfl⟩:∃k',k=k'+1:=⟨k-1,by lia⟩;rw[List.cons_append,du rfl,List.append_assoc];exact Kg (k:=k') (d:=dT (.arr as)) (Nat.succ_pos _) (by lia) (by lia) as .nil r hs ne
theorem Vb(f:Tr)(as:Ts)(Ca:PT f)(ih:ey as):PT (.call f as):=fun h=>by
 have h0:=h;obtain⟨h1,h2⟩:=PX h;have hd:1≤dT (.call f as):=Nat.succ_pos _;have cf:Ch (dT (.call f as)) 15 f:=(Ca h1).1.child (by decide) (Z4B (w8W _ _));have hs:Lc (dT (.call f as)) as:=ih h2 _ (Z4B (S28 _ _));refine⟨Rd.bS (g61 _) ((sy (.call f as) h0).2 (show 14≤15 by decide)) fun k nest r hk hn=>?_,iK (show 15≠16 by decide)⟩;have e:toks (bare (.call f as))++r=TW 15 f++ .lp::(toks (Xn (Vs as))++ .rp::r):=by rw[show bare (.call f as)=wrap 15 f (bare f)++(some .lp::Xn (Vs as)++[some .rp])from rfl,OF,M0,List.append_assoc,List.cons_append,List.append_assoc];rfl
 rw[e,cf.lhs hd (by lia) (by lia)];exact wV (Wb (k:=k) hd (by lia) (by lia) as .nil r hs (fun zz=>rfl))
theorem ii(f:Tr)(as:Ts)(Ca:PT f)(ih:ey as):PT (.new f as):=fun h=>by
 obtain⟨h1,h2⟩:=PX h;obtain⟨rf,nf⟩:=Ca h1;have hd:1≤dT (.new f as):=Nat.succ_pos _;have hs:Lc (dT (.new f as)) as:=ih h2 _ (Z4B (S28 _ _));have df:dT f+1≤dT (.new f as):=Z4B (w8W _ _);have HQ:Nq (40*dT f+12) (3*dT f+2) (toks (if V3 f=16∧EF f=true then some Tk.lp::bare f++[some .rp]else wrap 16 f (bare f))) f:=by
  have pp:=((Tn rf).mono (b':=40*dT f+12) (n':=3*dT f+2) (by lia) (by lia)).nq
  split
  ·rw[BW];exact pp
  ·rename_i q;unfold wrap
   split
   ·rw[BW];exact pp
   ·rename_i q2;have q3:V3 f=16:=Nat.le_antisymm (vM f) (Nat.not_lt.mp q2);exact fun k nest r hk hn=>nf q3 (Bool.not_eq_true _▸fun z=>q ⟨q3,z⟩) k nest r (by lia) (by lia)
 have e:toks (bare (.new f as))= .new::(toks (if V3 f=16∧EF f=true then some Tk.lp::bare f++[some .rp]else wrap 16 f (bare f))++ .lp::(toks (Xn (Vs as))++[.rp])):=by rw[show bare (.new f as)= [some .new,none]++(if V3 f=16∧EF f=true then some Tk.lp::bare f++[some .rp]else wrap 16 f (bare f))++(some .lp::Xn (Vs as)++[some .rp])from rfl,OF,OF,M0];rfl
 generalize toks (if V3 f=16∧EF f=true then some Tk.lp::bare f++[some .rp]else wrap 16 f (bare f))=C at HQ e;refine Hq.both e rfl (fun k nest r hk hn=>?_) rfl;obtain⟨k',rfl⟩:∃k',k=k'+1:=⟨k-1,by lia⟩;rw[show Tk.new::(C++Tk.lp::(toks (Xn (Vs as))++[.rp]))++r= .new::(C++ .lp::(toks (Xn (Vs as))++ .rp::r))by rw[List.cons_append,List.append_assoc,List.cons_append,List.append_assoc];rfl];have:=HQ k' (nest+1) (.lp::(toks (Xn (Vs as))++ .rp::r)) (by lia) (by lia);rw[mY (Au rfl)]at this;have qa:=Wb (k:=k') (nest:=nest) hd (by lia) (by lia) as .nil r hs (fun zz=>rfl);refine(Th (R:=(P (k'+1) (bO _) (nest+1) _).bind fun t r=>(P (k'+1) (.members t) (nest+1) r).bind fun t r=>
  Mine.hd (eqT .lp) r (fun zz zz=>(P (k'+1) .args nest r).bind fun as r=>.ok (.new t (yc as)) r) (.ok (.new t .nil) r)) (by lia)).trans (Rb.symm.trans ((bind_eq this).trans ?_))
 exact bind_eq (R:=P (k'+1) .args nest (.lp::(toks (Xn (Vs as))++ .rp::r))) (f:=fun as r=>.ok (.new f (yc as)) r) qa
theorem U3(a:Tr)(x:Tk)(ih:PT a):PT (.mem a x):=fun h=>by
 have h0:=h;obtain⟨h1,h2⟩:=PX h;obtain rfl:x= .m:=of_decide_eq_true h2;obtain⟨ra,na⟩:=ih h1;have ca:Ch (dT (.mem a .m)) 15 a:=ra.child (by decide) (g61 _);have da:dT (.mem a .m)=dT a+1:=rfl;have e:∀r,toks (bare (.mem a .m))++r=TW 15 a++ .dot:: .m::r:=fun r=>by rw[show bare (.mem a .m)=wrap 15 a (bare a)++[some .dot,some .m]from rfl,OF,List.append_assoc];rfl
 refine⟨Rd.bS (show 15≤16 by decide) ((sy (.mem a .m) h0).2 (show 14≤16 by decide)) fun k nest r hk hn=>?_,fun zz hc k nest r hk hn=>?_⟩
 ·rw[e,ca.lhs (Nat.succ_pos _) (by lia) (by lia),m5 rfl]
 ·rw[e,Sc ra na hc k nest _ (by lia) (by lia),mc rfl]
theorem WO(a b:Tr)(Ot:PT a)(Ht:PT b):PT (.idx a b):=fun h=>by
 have h0:=h;obtain⟨h1,h2⟩:=PX h;obtain⟨ra,na⟩:=Ot h1;have hd:1≤dT (.idx a b):=Nat.succ_pos _;have da:dT a+1≤dT (.idx a b):=Z4B (w8W _ _);have ca:Ch (dT (.idx a b)) 15 a:=ra.child (by decide) da;have cb:Ch (dT (.idx a b)) 0 b:=(Ht h2).1.child (by decide) (Z4B (S28 _ _));have e:∀r,toks (bare (.idx a b))++r=TW 15 a++ .lb::(TW 0 b++ .rb::r):=fun r=>by rw[show bare (.idx a b)=wrap 15 a (bare a)++(some .lb::wrap 0 b (bare b)++[some .rb])from rfl,OF,M0,List.append_assoc,List.cons_append,List.append_assoc];rfl
 refine⟨Rd.bS (show 15≤16 by decide) ((sy (.idx a b) h0).2 (show 14≤16 by decide)) fun k nest r hk hn=>?_,fun zz hc k nest r hk hn=>?_⟩
 ·rw[e,ca.lhs hd (by lia) (by lia),iT (cb.expr hd (by lia) (by lia) (lu rfl))]
 ·rw[e,Sc ra na hc k nest _ (by lia) (by lia),Ys (cb.expr hd (by lia) (by lia) (lu rfl))]
theorem QR(a:Tr)(as:Ts)(Ot:PT a)(ih:ey as):ey (.cons a as):=fun h d hd=>by obtain⟨h1,h2⟩:=PX h;exact⟨(Ot h1).1.child (by decide) (z2n (Z4B (w8W _ _)) hd),HB.wrap (sy a) h1 1,ih h2 d (z2n (Z4B (S28 _ _)) hd)⟩
theorem Of(t:Tr):PT t:=Tr.rec (motive_1:=PT) (motive_2:=ey) (fun h=>nomatch h) Jg (fun zz=>aG (x:=.this) rfl rfl rfl rfl fun zz zz zz=>rfl) (fun zz=>aG (x:=.str) rfl rfl rfl rfl fun zz zz zz=>rfl) fk XA Hs EI TJ N1 qS Vb ii U3 WO (fun zz zz zz=>trivial) QR t
noncomputable def kM(t:Tk)(c:Nat):Bool:=CR t c&&(!PY t || !(c==43 || c==45 || c==61))&&(!B3 t || c==32)
noncomputable def iE:List It→Bool
 | []=>true
 |none::r=>iE r
 |some t::r=>(match(XE r).head? with|some c=>kM t c|none=>true)&&iE r
theorem C3:∀{l:List It},iE l=true→x6 l=true
 | [],_=>rfl
 |none::r,h=>C3 (l:=r) h
 |some t::r,h=>by
  simp only[iE,Bool.and_eq_true]at h;simp only[x6,Bool.and_eq_true];refine⟨?_,C3 h.2⟩
  split
  ·rename_i c e;have:=h.1;rw[e]at this;simp only[kM,Bool.and_eq_true]at this;exact this.1.1
  ·rfl
noncomputable def bN(t:Tk):Bool:=([.a,.b,.c,.m,.this,.str,.rp,.rb]:List Tk).contains t
theorem wz(a b:List It):XE (a++b)=XE a++XE b:=List.flatMap_append ..
theorem EW(t:Tk):t.ch≠[]:=bZ t (by kernel_rfl)
theorem n9{x:It}{r:List It}:(XE (x::r)).head? =(It.ch x).head? :=by
 have:It.ch x≠[]:=by cases x with
  |none=>simp[It.ch]
  |some t=>exact EW t
 rw[show XE (x::r)=It.ch x++XE r from rfl];cases h:It.ch x with
 |nil=>exact absurd h this
 |cons c l=>rfl
theorem AY:∀{A:List It}{B:List It},iE A=true→iE B=true→(∀A' t c,A=A'++[some t]→(XE B).head? =some c→kM t c=true)→iE (A++B)=true
 | [],B,_,h,_=>h
 |none::r,B,h,h',k=>AY (A:=r) h h' fun A' t c e=>k (none::A') t c (by rw[e];rfl)
 |some t::[],B,h,h',k=>by
  show iE (some t::B)=true;simp only[iE,Bool.and_eq_true];refine⟨?_,h'⟩
  split
  ·rename_i c e;exact k [] t c rfl e
  ·rfl
 |some t::x::r,B,h,h',k=>by simp only[iE,Bool.and_eq_true]at h;show iE (some t::((x::r)++B))=true;simp only[iE,Bool.and_eq_true];have:=AY (A:=x::r) (B:=B) (by cases x<;>simpa only[iE,Bool.and_eq_true]using h.2) h' fun A' t' c e=>k (some t::A') t' c (by rw[e];rfl);refine⟨?_,this⟩;rw[List.cons_append,n9];have h1:=h.1;rw[n9]at h1;exact h1
noncomputable def ew(l:List Nat):List Nat:=eQ.filterMap fun p=>if l.isPrefixOf p then p[l.length]? else none
theorem ed{l:List Nat}{c:Nat}(h:c∉ew l):(eQ.all fun p=> !(l++[c]).isPrefixOf p)=true:=List.all_eq_true.mpr fun p hp=>by
 cases q:(l++[c]).isPrefixOf p
 ·rfl
 ·obtain⟨t,rfl⟩:=List.isPrefixOf_iff_prefix.mp q;refine absurd (List.mem_filterMap.mpr ⟨_,hp,?_⟩) h;rw[if_pos (List.isPrefixOf_iff_prefix.mpr ⟨[c]++t,by simp⟩)];simp
theorem FW{t:Tk}{c:Nat}(h1:B6 c=false∨t.kd= .SK)(h2:t.kd= .SK→c∉ew t.ch)(h3:PY t=true→(c==43 || c==45 || c==61)=false)(h4:B3 t=false):kM t c=true:=by
 unfold kM;rw[h4];have k:CR t c=true:=by
  unfold CR;cases q:t.kd with
  |SK=>exact ed (h2 q)
  |text=>rfl
  |_=>exact h1.elim (fun h=>by rw[h];rfl) fun h=>by rw[q]at h;cases h
 rw[k];cases z:PY t
 ·rfl
 ·rw[h3 z];rfl
theorem x8{t:Tk}(h:bN t=true){c:Nat}(hc:B6 c=false):kM t c=true:=by have k:=bZ (p:=fun t=>bN t=true→ew t.ch= []∧PY t=false∧B3 t=false) t (by kernel_rfl) h;exact FW (.inl hc) (fun zz=>by rw[k.1];exact List.not_mem_nil) (fun q=>by rw[k.2.1]at q;cases q) k.2.2
theorem wv{t:Tk}(h:PY t=true){c:Nat}(hc:(c==43 || c==45 || c==61)=false):kM t c=true:=by have k:=bZ (p:=fun t=>PY t=true→ew t.ch= []∧t.kd= .SK∧B3 t=false) t (by kernel_rfl) h;exact FW (.inr k.2.1) (fun zz=>by rw[k.1];exact List.not_mem_nil) (fun zz=>hc) k.2.2
theorem qm{t:Tk}(h:t= .lp∨t= .lb∨t= .dot){c:Nat}:kM t c=true:=by have k:=bZ (p:=fun t=>t= .lp∨t= .lb∨t= .dot→ew t.ch= []∧t.kd= .SK∧PY t=false∧B3 t=false) t (by kernel_rfl) h;exact FW (.inr k.2.1) (fun zz=>by rw[k.1];exact List.not_mem_nil) (fun q=>by rw[k.2.2.1]at q;cases q) k.2.2.2
theorem oB{t:Tk}:kM t 32=true:=bZ t (by kernel_rfl)
structure Ad(its:List It)(only:Bool):Prop where
 x6:iE its=true
 fst:∃x r,its=some x::r
 lst:∃A t,its=A++[some t]∧(bN t=true∨(PY t=true∧only=false))
theorem Lb{A A':List It}{t t':Tk}(h:A++[some t]=A'++[some t']):t=t':=by have:=R6T List.getLast? h;simpa using this
theorem Ad.app{A B:List It}{q:Bool}(h:Ad A q)(hB:iE B=true)(k:∀c,(XE B).head? =some c→B6 c=false∧(q=false→(c==43 || c==45 || c==61)=false)):iE (A++B)=true:=by
 refine AY h.x6 hB fun A' t c e hc=>?_;obtain⟨A₀,t₀,Vd,z⟩:=h.lst;obtain rfl:=Lb (Vd.symm.trans e);obtain⟨k1,k2⟩:=k c hc;rcases z with z|⟨z,z'⟩
 ·exact x8 z k1
 ·exact wv z (k2 z')
theorem Ad.any{its}(h:Ad its true)(q:Bool):Ad its q:=⟨h.x6,h.fst,let⟨A,t,e,z⟩:=h.lst;⟨A,t,e,z.imp id fun y=>nomatch y.2⟩⟩
theorem QS{t:Tk}{r:List It}(h:iE r=true)(k:∀c,(XE r).head? =some c→kM t c=true):iE (some t::r)=true:=by
 simp only[iE,Bool.and_eq_true];refine⟨?_,h⟩
 split
 ·rename_i c e;exact k c e
 ·rfl
theorem mZ(t:Tk):iE [some t]=true:=QS rfl fun c h=>nomatch h
theorem Ad.closed{J:List It}{o e:Tk}{q:Bool}(ho:o= .lp∨o= .lb∨o= .dot)(he:e= .rp∨e= .rb)(h:J= []∨Ad J q):Ad (some o::J++[some e]) true:=by
 have e1:∀c,(XE [some e]).head? =some c→B6 c=false∧(q=false→(c==43 || c==45 || c==61)=false):=fun c hc=>by rcases he with rfl|rfl<;>(cases hc;exact⟨rfl,fun zz=>rfl⟩)
 refine⟨?_,⟨o,_,rfl⟩,⟨some o::J,e,rfl,.inl (by rcases he with rfl|rfl<;>rfl)⟩⟩;rw[List.cons_append];refine QS ?_ fun c zz=>qm ho;rcases h with rfl|h
 ·exact mZ e
 ·exact h.app (mZ e) e1
theorem Ad.then{A B:List It}(h:Ad A true)(hB:Ad B true)(k:∀c,(XE B).head? =some c→B6 c=false):Ad (A++B) true:=by
 refine⟨h.app hB.x6 fun c e=>⟨k c e,fun z=>nomatch z⟩,?_,?_⟩
 ·obtain⟨x,r,e⟩:=h.fst;exact⟨x,r++B,by rw[e];rfl⟩
 ·obtain⟨A',t,e,z⟩:=hB.lst;exact⟨A++A',t,by rw[e,List.append_assoc],z⟩
theorem Ad.two{A B:List It}{o:Tk}{q q':Bool}(h:Ad A q)(hB:Ad B q'):Ad (A++hV o++B) q':=by
 have:iE (hV o++B)=true:=by show iE (some o::none::B)=true;exact QS hB.x6 fun c e=>by cases e;exact oB
 refine⟨?_,?_,?_⟩
 ·rw[List.append_assoc];exact h.app this fun c e=>by cases e;exact⟨rfl,fun zz=>rfl⟩
 ·obtain⟨x,r,e⟩:=h.fst;exact⟨x,_,by rw[e];rfl⟩
 ·obtain⟨A',t,e,z⟩:=hB.lst;exact⟨A++hV o++A',t,by rw[e,List.append_assoc (A++hV o)],z⟩
theorem Ad.comma{A B:List It}{q q':Bool}(h:Ad A q)(hB:Ad B q'):Ad (A++[some Tk.comma,none]++B) q':=by
 have:iE ([some Tk.comma,none]++B)=true:=QS hB.x6 fun c e=>by cases e;exact oB
 refine⟨?_,?_,?_⟩
 ·rw[List.append_assoc];exact h.app this fun c e=>by cases e;exact⟨rfl,fun zz=>rfl⟩
 ·obtain⟨x,r,e⟩:=h.fst;exact⟨x,_,by rw[e];rfl⟩
 ·obtain⟨A',t,e,z⟩:=hB.lst;exact⟨A++[some Tk.comma,none]++A',t,by rw[e,List.append_assoc (A++_)],z⟩
noncomputable def ZO(o x:Tk):Bool:=([.vN,.void]:List Tk).contains o || (x.ch.head? ==o.ch.getLast? &&([.plus,.minus,.inc,.dec]:List Tk).contains o)
theorem nL{o x:Tk}(h:wj o=true∧fh x=true∨PY o=true∧lx x=true)(hn:ZO o x=false)(c:Nat)(hc:x.ch.head? =some c):kM o c=true:=by have:=yV (p:=fun o x=> !((wj o&&fh x) || (PY o&&lx x)) || ZO o x || x.ch.head?.all (kM o)) (by kernel_rfl) o x;rw[hn,hc,show((wj o&&fh x) || (PY o&&lx x))=true from by rcases h with h|h<;>simp[h]]at this;simpa using this
theorem Ad.un{o x:Tk}{r:List It}{q:Bool}(hx:wj o=true∧fh x=true∨PY o=true∧lx x=true)(h:Ad (some x::r) q):Ad (RZ o (some x::r)) q:=by
 have e1:zb o (some x::r)=ZO o x:=by unfold zb ZO;rw[n9];rfl
 unfold RZ;obtain⟨A',t,e,z⟩:=h.lst
 split
 ·refine⟨QS h.x6 fun c e=>by cases e;exact oB,⟨o,_,rfl⟩,⟨some o::none::A',t,by rw[e];rfl,z⟩⟩
 ·rename_i hn;refine⟨QS h.x6 fun c e=>?_,⟨o,_,rfl⟩,⟨some o::A',t,by rw[e];rfl,z⟩⟩;have e:(XE (some x::r)).head? =some c:=e;rw[n9]at e;exact nL hx (by rw[←e1];simpa using hn) c e
theorem Ad.wrap{t:Tr}{l:Nat}(h:∀q,(q=true→15≤V3 t)→Ad (bare t) q)(q:Bool)(hq:q=true→15≤l):Ad (Mine.wrap l t (bare t)) q:=by
 unfold Mine.wrap
 split
 ·exact(Ad.closed (.inl rfl) (.inl rfl) (.inr (h false (fun z=>nomatch z)))).any q
 ·exact h q fun z=>by have:=hq z;lia
theorem Ad.YO{its q}{p:Tk→Bool}(h:Ad its q)(h1:is p (toks its)=true):∃x r,its=some x::r∧p x=true:=by obtain⟨x,r,rfl⟩:=h.fst;exact⟨x,r,rfl,h1⟩
theorem Ad.leaf{x:Tk}(h:bN x=true)(q:Bool):Ad [some x] q:=⟨mZ x,⟨x,[],rfl⟩,⟨[],x,rfl,.inl h⟩⟩
def AB(t:Tr):Prop:=LZ t=true→∀q,(q=true→15≤V3 t)→Ad (bare t) q
def xA(as:Ts):Prop:=Pr as=true→as≠ .nil→Ad (Xn (Vs as)) false
theorem AB.wrap{t:Tr}(h:AB t)(k:LZ t=true)(l:Nat):Ad (Mine.wrap l t (bare t)) false:=Ad.wrap (h k) false nofun
theorem AB.Uy{t:Tr}(h:AB t)(k:LZ t=true){l:Nat}(hl:15≤l):Ad (Mine.wrap l t (bare t)) true:=Ad.wrap (h k) true fun zz=>hl
theorem xA.nil{as:Ts}(h:xA as)(k:Pr as=true):Xn (Vs as)= []∨Ad (Xn (Vs as)) false:=by
 cases as with
 |nil=>exact .inl rfl
 |cons a r=>exact .inr (h k nofun)
theorem Ad.EM{o:Tk}{its:List It}{q:Bool}{p:Tk→Bool}(h:Ad its q)(h1:is p (toks its)=true)(k:∀x,p x=true→wj o=true∧fh x=true∨PY o=true∧lx x=true):Ad (RZ o its) q:=by obtain⟨x,r,rfl,hx⟩:=h.YO h1;exact .un (k x hx) h
theorem wt(o:Tk)(p:Bool)(a:Tr)(ih:AB a):AB (.upd o p a):=fun h q hq=>by
 obtain⟨h1,h2⟩:=PX h;obtain⟨h1,h3⟩:=PX h1;cases p with
 |true=>
  obtain rfl:=low hq (J1O rfl);have hs:=YR h3;have e0:wrap 13 a (bare a)=bare a:=by unfold wrap;rw[if_neg (by rw[hs];decide)]
  have w:=ih.wrap h2 13;show Ad (RZ o (wrap 13 a (bare a))) false;exact w.EM (p:=lx) (by rw[e0];exact(sy a h2).2 (by rw[hs];decide)) fun x hx=>.inr ⟨h1,hx⟩
 |false=>
  obtain rfl:=low hq (J1O rfl);have w:=ih.Uy h2 (g61 15);refine⟨w.app (mZ o) fun c e=>?_,?_,⟨_,o,rfl,.inr ⟨h1,rfl⟩⟩⟩
  ·have:B6 c=false:=by
    have k:∀o:Tk,PY o=true→(XE [some o]).head?.all (fun c=> !B6 c)=true:=fun o h=>by revert h;exact bZ o (by kernel_rfl)
    have k:=k o h1;rw[e]at k;exact HX k
   exact⟨this,nofun⟩
  ·obtain⟨x,r,e⟩:=w.fst;exact⟨x,r++[some o],by show wrap 15 a (bare a)++[some o]=_;rw[e];rfl⟩
theorem av(f:Tr)(as:Ts)(Ca:AB f)(ih:xA as):AB (.new f as):=fun h q zz=>by
 obtain⟨h1,h2⟩:=PX h;have hf:Ad (if V3 f=16∧EF f=true then some Tk.lp::bare f++[some .rp]else Mine.wrap 16 f (bare f)) true:=by
  split
  ·exact .closed (.inl rfl) (.inl rfl) (.inr (Ca h1 false nofun))
  ·exact Ca.Uy h1 (by decide)
 have g:=hf.then (Ad.closed (.inl rfl) (.inl rfl) (ih.nil h2)) (fun c e=>by cases e;rfl);have e:bare (.new f as)=some .new::none::((if V3 f=16∧EF f=true then some Tk.lp::bare f++[some .rp]else Mine.wrap 16 f (bare f))++(some .lp::Xn (Vs as)++[some .rp])):=rfl;rw[e];obtain⟨A,t,e,z⟩:=g.lst;exact⟨QS g.x6 fun c e=>by cases e;exact oB,⟨.new,_,rfl⟩,⟨some .new::none::A,t,by rw[e];rfl,z.imp id fun y=>nomatch y.2⟩⟩
theorem Nl(a:Tr)(as:Ts)(Ot:AB a)(ih:xA as):xA (.cons a as):=fun h zz=>by
 obtain⟨h1,h2⟩:=PX h;cases as with
 |nil=>exact Ot.wrap h1 1
 |cons b r=>
  show Ad (Xn (wrap 1 a (bare a)::Vs (.cons b r))) false;rw[nI Cn];exact .comma (Ot.wrap h1 1) (ih h2 nofun)
theorem rU(t:Tr):AB t:=Tr.rec (motive_1:=AB) (motive_2:=xA) (fun h=>nomatch h) (fun x h q zz=>.leaf (by revert h;exact bZ (p:=fun x=>LZ (.name x)=true→bN x=true) x (by kernel_rfl)) q) (fun zz q zz=>.leaf (x:=.this) rfl q) (fun zz q zz=>.leaf (x:=.str) rfl q)
 (fun o a ih h q hq=>by obtain⟨h1,h2⟩:=PX h;obtain rfl:=low hq (J1O rfl);exact(ih.wrap h2 13).EM (p:=fh) (HB.wrap (sy a) h2 13) fun x hx=>.inl ⟨h1,hx⟩) wt
 (fun o a b Ot Ht h q hq=>by obtain⟨h1,h2⟩:=PX h;obtain rfl:=low hq (show eP o<15 from bZ o (by kernel_rfl));exact .two (Ot.wrap (PX h1).2 _) (Ht.wrap h2 _))
 (fun o a b Ot Ht h q hq=>by obtain⟨h1,h2⟩:=PX h;obtain rfl:=low hq (J1O rfl);exact .two (Ot.wrap (PX h1).2 _) (Ht.wrap h2 _))
 (fun a b c Ot Ht tA h q hq=>by obtain⟨h1,h2⟩:=PX h;obtain rfl:=low hq (J1O rfl);exact .two (o:=.colon) (.two (o:=.quest) (Ot.wrap (PX h1).1 3) (Ht.wrap (PX h1).2 1)) (tA.wrap h2 1))
 (fun as ih h q hq=>by obtain⟨h1,h2⟩:=PX h;obtain rfl:=low hq (J1O rfl);exact ih h1 (by rintro rfl;cases h2))
 (fun as ih h q zz=>(Ad.closed (.inr (.inl rfl)) (.inr rfl) (ih.nil (PX h).1)).any q)
 (fun f as Ca ih h q zz=>((Ca.Uy (PX h).1 (g61 15)).then (Ad.closed (.inl rfl) (.inl rfl) (ih.nil (PX h).2)) fun c e=>by cases e;rfl).any q) av
 (fun a x ih h q zz=>by obtain⟨h1,h2⟩:=PX h;obtain rfl:x= .m:=of_decide_eq_true h2;exact((ih.Uy h1 (g61 15)).then (B:=[some .dot,some .m]) ⟨QS (mZ _) fun c zz=>qm (.inr (.inr rfl)),⟨.dot,_,rfl⟩,⟨[some .dot],.m,rfl,.inl rfl⟩⟩ fun c e=>by cases e;rfl).any q)
 (fun a b Ot Ht h q zz=>((Ot.Uy (PX h).1 (g61 15)).then (Ad.closed (.inr (.inl rfl)) (.inr rfl) (.inr (Ht.wrap (PX h).2 0))) fun c e=>by cases e;rfl).any q)
 (fun zz h=>absurd rfl h) Nl t
noncomputable def Za:Option Nat→Bool
 |none=>true
 |some c=> !([97,98,99,109,115,34,41,93].contains c)
noncomputable def Oc(prev:Option Nat)(i:Nat)(w:List (Nat×Bool))(f:List (Nat×Nat)):List Nat→Option (List (Nat×Nat))
 | []=>some f
 |c::r=>if c=40 then Oc (some c) (i+1) ((i,Za prev)::w) f r else if c=41 then(match w with
  | []=>none
  |(b,pl)::w=>Oc (some c) (i+1) w (if pl then f++[(b,i)]else f) r)else Oc (some c) (i+1) w f r
theorem Iu(prev i w f r):Oc prev i w f (40::r)=Oc (some 40) (i+1) ((i,Za prev)::w) f r:=by cases w<;>rfl
theorem jB(prev i b pl w f r):Oc prev i ((b,pl)::w) f (41::r)=Oc (some 41) (i+1) w (if pl then f++[(b,i)]else f) r:=rfl
theorem pO(prev i w f r):Oc prev i w f (32::r)=Oc (some 32) (i+1) w f r:=by cases w<;>rfl
theorem JM:∀(l:List Nat)(prev i w f r),(∀c∈l,c≠40∧c≠41)→Oc prev i w f (l++r)=Oc (l.getLast?.or prev) (i+l.length) w f r
 | [],_,_,_,_,_,_=>rfl
 |c::l,prev,i,w,f,r,h=>by
  have h1:=h c (.head _);have e:Oc prev i w f (c::(l++r))=Oc (some c) (i+1) w f (l++r):=by show(if c=40 then _ else if c=41 then _ else _)=_;rw[if_neg h1.1,if_neg h1.2]
  rw[List.cons_append,e,JM l _ _ _ _ _ fun c hc=>h c (.tail _ hc),List.length_cons,show i+1+l.length=i+(l.length+1)by lia]
  congr 1
  rw[List.getLast?_cons];cases l.getLast? <;>rfl
theorem Jv{t:Tk}(h:t≠ .lp∧t≠ .rp)(prev i w f r):Oc prev i w f (t.ch++r)=Oc t.ch.getLast? (i+t.ch.length) w f r:=by have k:=bZ (p:=fun t=>t≠ .lp∧t≠ .rp→(∀c∈t.ch,c≠40∧c≠41)∧t.ch.getLast?.isSome=true) t (by kernel_rfl) h;rw[JM _ _ _ _ _ _ k.1];obtain⟨x,e⟩:=Option.isSome_iff_exists.mp k.2;rw[e];rfl
def Cx(s:St)(b:Bool)(prev:Option Nat):Prop:=(s= .E→Za prev=true)∧(s= .D→b=false→Za prev=false)
theorem Cx.tok{s s₁:St}{t:Tk}(h:CX s t=some (s₁,0))(h3:s= .M→t= .m):Cx s₁ false t.ch.getLast? :=by have k:=bZ (p:=fun t=>∀s∈[St.E,.D,.P,.M],(s= .M→t= .m)→(CX s t=some (.E,0)→Za t.ch.getLast? =true)∧(CX s t=some (.D,0)→Za t.ch.getLast? =false)) t (by kernel_rfl) s (by cases s<;>decide) h3;exact⟨fun z=>k.1 (z▸h),fun z zz=>k.2 (z▸h)⟩
def Wt(D:List It)(s:St)(x:Nat×Bool):Prop:=x.2=true→∃A B pA pB,D=A++some Tk.lp::B∧x.1=(XE A).length∧Rn .E (toks A) .E pA∧Rn .E (toks B) s pB
def Fd(D:List It)(s:St)(x:Nat×Nat):Prop:=∃A B C sB pA pB pC,D=A++some Tk.lp::B++some Tk.rp::C∧x.1=(XE A).length∧x.2=(XE A).length+1+(XE B).length∧
 Rn .E (toks A) .E pA∧Rn .E (toks B) sB pB∧(sB= .D∨sB= .P)∧Rn .D (toks C) s pC
theorem Wt.step{D:List It}{s s₁ x}{y:It}{p}(h:Wt D s x)(r:Rn s (toks [y]) s₁ p):Wt (D++[y]) s₁ x:=fun z=>by obtain⟨A,B,pA,pB,rfl,e2,r1,r2⟩:=h z;have:=r2.app r;rw[←OF]at this;exact⟨A,B++[y],_,_,by simp,e2,r1,this⟩
theorem Fd.step{D:List It}{s s₁ x}{y:It}{p}(h:Fd D s x)(r:Rn s (toks [y]) s₁ p):Fd (D++[y]) s₁ x:=by obtain⟨A,B,C,sB,pA,pB,pC,rfl,e2,e3,r1,r2,r3,r4⟩:=h;have:=r4.app r;rw[←OF]at this;exact⟨A,B,C++[y],sB,_,_,_,by simp,e2,e3,r1,r2,r3,this⟩
theorem scan{s b k its s' b' k' p}(h:RI s b k its s' b' k' p):∀(D:List It)(w:List (Nat×Bool))(f:List (Nat×Nat))(prev:Option Nat)(pD:Nat),w.map (·.2)=k→Cx s b prev→Rn .E (toks D) s pD→
  (∀x∈w,Wt D s x)→(∀x∈f,Fd D s x)→∃w' f' R8,w'.map (·.2)=k'∧(∀x∈f',Fd (D++its) s' x)∧∀rest,Oc prev (XE D).length w f (XE its++rest)=Oc R8 (XE (D++its)).length w' f' rest:=by
 induction h with
 |nil=>intro D w f prev pD hw hx hD h1 h2;exact⟨w,f,prev,hw,by simpa using h2,fun rest=>by simp[XE]⟩
 | @blank s b k r s' b' k' p _ ih=>
  intro D w f prev pD hw hx hD h1 h2;have FC:Rn .E (toks (D++[none])) s pD:=by rw[OF];simpa[toks]using hD
  obtain⟨w',f',R8,a1,a2,a3⟩:=ih (D++[none]) w f (some 32) pD hw ⟨fun zz=>rfl,fun zz z=>nomatch z⟩ FC (fun x hx=>(h1 x hx).step .nil) (fun x hx=>(h2 x hx).step .nil);refine⟨w',f',R8,a1,by simpa using a2,fun rest=>?_⟩;have:=a3 rest;rw[List.append_assoc]at this;rw[show XE (none::_)=32::XE _ from rfl];rw[List.cons_append,pO];rw[wz,List.length_append]at this;exact this
 | @tok s b k t s₁ r s' b' k' p cE h2' h3' _ ih=>
  intro D w f prev pD hw hx hD h1 h2;have FC:=hD.app (.one cE);rw[show[t]=toks [some t]from rfl, ←OF]at FC;obtain⟨w',f',R8,a1,a2,a3⟩:=ih (D++[some t]) w f t.ch.getLast? _ hw (.tok cE h3') FC (fun x hx=>(h1 x hx).step (.one cE)) (fun x hx=>(h2 x hx).step (.one cE));refine⟨w',f',R8,a1,by simpa using a2,fun rest=>?_⟩;have:=a3 rest;rw[List.append_assoc]at this;rw[show XE (some t::r)=t.ch++XE r from rfl,List.append_assoc,Jv h2'];rw[wz,List.length_append,show XE [some t]=t.ch by simp[XE,It.ch]]at this;exact this
 | @plain b k r s' b' k' p _ ih=>
  intro D w f prev pD hw hx hD h1 h2;have FC:=hD.app (Rn.one (s:=.E) (t:=.lp) (s₁:=.E) (p:=1) rfl);rw[show[Tk.lp]=toks [some .lp]from rfl, ←OF]at FC;obtain⟨w',f',R8,a1,a2,a3⟩:=ih (D++[some .lp]) (((XE D).length,true)::w) f (some 40) _ (by simp[hw]) ⟨fun zz=>rfl,fun z=>nomatch z⟩ FC (fun x hx=>by
   rcases List.mem_cons.mp hx with rfl|hx
   ·exact fun zz=>⟨D,[],_,0,rfl,rfl,hD,.nil⟩
   ·exact(h1 x hx).step (.one rfl)) (fun x hx=>(h2 x hx).step (.one rfl))
  refine⟨w',f',R8,a1,by simpa using a2,fun rest=>?_⟩;have:=a3 rest;rw[List.append_assoc]at this;rw[show XE (some Tk.lp::r)=40::XE r from rfl,List.cons_append,Iu,hx.1 rfl];rw[wz,List.length_append]at this;exact this
 | @call k r s' b' k' p _ ih=>
  intro D w f prev pD hw hx hD h1 h2;have FC:=hD.app (Rn.one (s:=.D) (t:=.lp) (s₁:=.E) (p:=0) rfl);rw[show[Tk.lp]=toks [some .lp]from rfl, ←OF]at FC;obtain⟨w',f',R8,a1,a2,a3⟩:=ih (D++[some .lp]) (((XE D).length,false)::w) f (some 40) _ (by simp[hw]) ⟨fun zz=>rfl,fun z=>nomatch z⟩ FC (fun x hx=>by
   rcases List.mem_cons.mp hx with rfl|hx
   ·exact fun z=>nomatch z
   ·exact(h1 x hx).step (.one rfl)) (fun x hx=>(h2 x hx).step (.one rfl))
  refine⟨w',f',R8,a1,by simpa using a2,fun rest=>?_⟩;have:=a3 rest;rw[List.append_assoc]at this;rw[show XE (some Tk.lp::r)=40::XE r from rfl,List.cons_append,Iu,hx.2 rfl rfl];rw[wz,List.length_append]at this;exact this
 | @Bb s b k r s' b' k' p hs _ ih=>
  intro D w f prev pD hw hx hD h1 h2;cases w with
  |nil=>cases hw
  |cons x w=>
   obtain⟨i,q⟩:=x;simp only[List.map_cons,List.cons.injEq]at hw;obtain⟨rfl,hw⟩:=hw;have st:=O6 hs (o:=.rp) rfl;have FC:=hD.app (.one st);rw[show[Tk.rp]=toks [some .rp]from rfl, ←OF]at FC;obtain⟨w',f',R8,a1,a2,a3⟩:=ih (D++[some .rp]) w (f++[(i,(XE D).length)]) (some 41) _ hw ⟨(fun z=>nomatch z),fun zz zz=>rfl⟩ FC (fun x hx=>(h1 x (.tail _ hx)).step (.one st)) (fun x hx=>by
    rcases List.mem_append.mp hx with hx|hx
    ·exact(h2 x hx).step (.one st)
    ·obtain rfl:=List.mem_singleton.mp hx;obtain⟨A,B,pA,pB,rfl,e2,r1,r2⟩:=h1 _ (.head _) rfl;exact⟨A,B,[],s,_,_,0,by simp,e2,by simp[wz,XE,It.ch,Pa,sA,NC,KO,vc,Ny,xR,qu,lq,Lo];lia,r1,r2,hs,.nil⟩)
   refine⟨w',f',R8,a1,by simpa using a2,fun rest=>?_⟩;have:=a3 rest;rw[List.append_assoc]at this;rw[show XE (some Tk.rp::r)=41::XE r from rfl,List.cons_append,jB];rw[wz,List.length_append]at this;exact this
 | @aj s b k r s' b' k' p hs _ ih=>
  intro D w f prev pD hw hx hD h1 h2;cases w with
  |nil=>cases hw
  |cons x w=>
   obtain⟨i,q⟩:=x;simp only[List.map_cons,List.cons.injEq]at hw;obtain⟨rfl,hw⟩:=hw;have st:CX s .rp=some (.D,0):=by rcases hs with rfl|rfl|rfl<;>rfl
   have FC:=hD.app (.one st);rw[show[Tk.rp]=toks [some .rp]from rfl, ←OF]at FC;obtain⟨w',f',R8,a1,a2,a3⟩:=ih (D++[some .rp]) w f (some 41) _ hw ⟨(fun z=>nomatch z),fun zz zz=>rfl⟩ FC (fun x hx=>(h1 x (.tail _ hx)).step (.one st)) (fun x hx=>(h2 x hx).step (.one st));refine⟨w',f',R8,a1,by simpa using a2,fun rest=>?_⟩;have:=a3 rest;rw[List.append_assoc]at this;rw[show XE (some Tk.rp::r)=41::XE r from rfl,List.cons_append,jB];rw[wz,List.length_append]at this;exact this
theorem RI.rn{s b k its s' b' k' p}(h:RI s b k its s' b' k' p):Rn s (toks its) s' p:=by
 induction h with
 |nil=>exact .nil
 |blank _ ih=>exact ih
 |tok h1 _ _ _ ih=>have:=Rn.cons h1 ih;rw[Nat.zero_add]at this;exact this
 |plain _ ih=>exact Rn.cons (s:=.E) (t:=.lp) (s₁:=.E) (p₁:=1) rfl ih
 |call _ ih=>have:=Rn.cons (s:=.D) (t:=.lp) (s₁:=.E) (p₁:=0) rfl ih;rw[Nat.zero_add]at this;exact this
 |Bb hs _ ih=>have:=Rn.cons (O6 hs (o:=.rp) rfl) ih;rw[Nat.zero_add]at this;exact this
 |aj hs _ ih=>
  have st:∀{s:St},s= .E∨s= .D∨s= .P→CX s .rp=some (.D,0):=fun h=>by rcases h with rfl|rfl|rfl<;>rfl
  have:=Rn.cons (st hs) ih;rw[Nat.zero_add]at this;exact this
theorem Kp{T:Tr}{A B C:List It}{s sB:St}{pA pB pC:Nat}(hr:Rn .E (toks (bare T)) s (nb T))(e:bare T=A++some Tk.lp::B++some Tk.rp::C)
  (rA:Rn .E (toks A) .E pA) (rB:Rn .E (toks B) sB pB) (hs:sB= .D∨sB= .P) {s':St} (rC:Rn .D (toks C) s' pC) (k n:Nat):P k .expr n (toks (A++none::B++none::C))≠ .ok T []:=by
 intro h;obtain⟨u,s₁,p,e1,r1,_,hp,_⟩:=mP h;rw[List.append_nil]at e1;subst e1;rw[show toks (A++none::B++none::C)=toks A++(toks B++toks C)by rw[List.append_assoc,OF,List.cons_append,sO,OF,sO]]at r1;obtain⟨sa,pa,p1,x1,x2,rfl⟩:=r1.split;obtain⟨rfl,rfl⟩:=rA.det x1;obtain⟨sb,pb,p2,x3,x4,rfl⟩:=x2.split;obtain⟨rfl,rfl⟩:=rB.det x3;have key:pC=p2:=by
  rcases hs with rfl|rfl
  ·exact(rC.det x4).2
  ·exact rC.sync x4
 subst key;rw[show toks (bare T)=toks A++(.lp::(toks B++ .rp::toks C))by rw[e,List.append_assoc,OF,List.cons_append,rI,OF,rI]]at hr;obtain⟨_,h2⟩:=hr.det (rA.app (.cons (s:=.E) (t:=.lp) (s₁:=.E) (p₁:=1) rfl (rB.app (.cons (O6 hs (o:=.rp) rfl) rC))));rw[QD]at hp;lia
theorem ul{T:Tr}(h:LZ T=true):∃ps,Oc none 0 [] [] (XE (bare T))=some ps∧∀x∈ps,∃A B C,bare T=A++some Tk.lp::B++some Tk.rp::C∧x.1=(XE A).length∧x.2=(XE A).length+1+(XE B).length∧
  ∀k n,P k .expr n (toks (A++none::B++none::C))≠ .ok T []:=by
 obtain⟨s,r,_⟩:=wd T h false nofun false [];obtain⟨w',f',R8,a1,a2,a3⟩:=scan r [] [] [] none 0 rfl ⟨fun zz=>rfl,fun z=>nomatch z⟩ .nil (fun x hx=>nomatch hx) (fun x hx=>nomatch hx);refine⟨f',?_,fun x hx=>?_⟩
 ·have:=a3 [];rw[List.append_nil]at this;exact this.trans rfl
 ·obtain⟨A,B,C,sB,pA,pB,pC,e,e2,e3,r1,r2,r3,r4⟩:=a2 x hx;exact⟨A,B,C,e,e2,e3,fun k n=>Kp r.rn e r1 r2 r3 r4 k n⟩
theorem W9(t:Tk):CR t 32=true:=bZ t (by kernel_rfl)
theorem QK:∀{A:List It}{x:Tk}{C:List It},x6 (A++some x::C)=true→x6 (A++none::C)=true
 | [],x,C,h=>by simp only[List.nil_append,x6,Bool.and_eq_true]at h;exact h.2
 |none::A,x,C,h=>QK (A:=A) h
 |some t::A,x,C,h=>by
  simp only[List.cons_append,x6,Bool.and_eq_true]at h⊢;refine⟨?_,QK h.2⟩;cases A with
  |nil=>rw[List.nil_append,n9];exact W9 t
  |cons y A=>have:=h.1;rw[List.cons_append,n9]at this⊢;exact this
theorem ng{T:Tr}(h:LZ T=true){A B C:List It}(e:bare T=A++some Tk.lp::B++some Tk.rp::C):x6 (A++none::B++none::C)=true:=by have:=C3 (rU T h false (by simp)).x6;rw[e]at this;have h1:=QK (A:=A++some Tk.lp::B) (x:=.rp) (C:=C) this;rw[List.append_assoc,List.cons_append]at h1;have h2:=QK (A:=A) (x:=.lp) h1;rw[List.append_assoc,List.cons_append];exact h2
theorem reads{T:Tr}(h:LZ T=true)(hd:dT T≤3){k:Nat}(hk:130≤k):P k .expr 0 (toks (bare T))= .ok T []:=by obtain⟨k',rfl⟩:∃k',k=k'+8:=⟨k-8,by lia⟩;have:=((Of T h).1 k' 0 (by lia) (by lia) []).2.2.2.2.2.2 (by lia) A9;rwa[List.append_nil]at this
theorem qY(T:Tr):sh 0 T=bare T:=by unfold sh wrap;rw[if_neg (Nat.not_lt_zero _)]
theorem qj(t:Tk):32∉t.ch:=bZ t (by kernel_rfl)
theorem JT:∀{its:List It}{i:Nat},(XE its)[i]? =some 32→∃A C,its=A++none::C∧(XE A).length=i
 | [],i,h=>by simp[XE]at h
 |none::r,0,_=>⟨[],r,rfl,rfl⟩
 |none::r,i+1,h=>by
  have h:(XE r)[i]? =some 32:=by simpa[XE,It.ch]using h
  obtain⟨A,C,rfl,e⟩:=JT h;exact⟨none::A,C,rfl,by simp[XE,It.ch]at e⊢;lia⟩
 |some t::r,i,h=>by
  have e:XE (some t::r)=t.ch++XE r:=rfl;rw[e]at h
  by_cases q:i<t.ch.length
  ·rw[List.getElem?_append_left q]at h;exact absurd (C3D h) (qj t)
  ·rw[List.getElem?_append_right (by lia)]at h;obtain⟨A,C,rfl,e⟩:=JT h;refine⟨some t::A,C,rfl,?_⟩;rw[show XE (some t::A)=t.ch++XE A from rfl,List.length_append];lia
theorem Yx{T:Tr}(h:LZ T=true)(hd:dT T≤3):proj (toks (bare T))=yl T:=by obtain⟨u,s,p,e,_,_,_,q,_⟩:=mP (reads h hd (g61 130));rw[List.append_nil]at e;rw[e];exact q
theorem ak{T:Tr}(h:LZ T=true)(hd:dT T≤3){u:List Tk}(hu:proj u≠proj (toks (bare T)))(k n:Nat):P k .expr n u≠ .ok T []:=fun e=>by obtain⟨v,s,p,e1,_,_,_,q,_⟩:=mP e;rw[List.append_nil]at e1;exact hu (by rw[e1,q,Yx h hd])
theorem ya{A:List It}{t:It}:(XE (A++[t])).getLast? =(It.ch t).getLast? :=by
 rw[wz];have:It.ch t≠[]:=by cases t with
  |none=>simp[It.ch]
  |some t=>exact EW t
 rw[show XE [t]=It.ch t by simp[XE],List.getLast?_append];cases h:(It.ch t).getLast? with
 |none=>rw[List.getLast?_eq_none_iff]at h;exact absurd h this
 |some x=>simp
theorem oA{A B:List It}(h:iE (A++B)=true):iE B=true:=by
 induction A with
 |nil=>exact h
 |cons x A ih=>
  cases x with
  |none=>exact ih h
  |some t=>simp only[List.cons_append,iE,Bool.and_eq_true]at h;exact ih h.2
theorem Pu{A B B':List It}(h:x6 (A++B)=true)(hB:x6 B'=true)(e:(XE B').head? =(XE B).head?):x6 (A++B')=true:=by
 induction A with
 |nil=>exact hB
 |cons x A ih=>
  cases x with
  |none=>exact ih h
  |some t=>
   simp only[List.cons_append,x6,Bool.and_eq_true]at h⊢;refine⟨?_,ih h.2⟩;have:(XE (A++B')).head? =(XE (A++B)).head? :=by
    cases A with
    |nil=>exact e
    |cons y A=>rw[List.cons_append,List.cons_append,n9,n9]
   rw[this];exact h.1
theorem Ga{t:Tk}{r:List It}(h:x6 r=true)(k:∀c,(XE r).head? =some c→CR t c=true):x6 (some t::r)=true:=by
 simp only[x6,Bool.and_eq_true];refine⟨?_,h⟩
 split
 ·rename_i c e;exact k c e
 ·rfl
noncomputable def u6:List ((Tk×Tk)×List Tk):=[((.plus,.plus),[.inc]),((.plus,.inc),[.inc,.plus]),((.plus,.rQ),[.inc,.asg]),((.minus,.minus),[.dec]),((.minus,.dec),[.dec,.minus])]
noncomputable def Rq(t u:Tk):Option (List Tk):=u6.lookup (t,u)
theorem f7{C:Tk→Tk→List Tk→Prop}{t u ms}(h:Rq t u=some ms)(g:∀p∈u6,C p.1.1 p.1.2 p.2):C t u ms:=by
 have:((t,u),ms)∈u6:=by
  have key:∀(l:List ((Tk×Tk)×List Tk)),l.lookup (t,u)=some ms→((t,u),ms)∈l:=fun l=>by
   induction l with
   |nil=>intro h;cases h
   |cons p r ih=>
    intro h;rw[List.lookup_cons]at h
    split at h
    ·rename_i q;cases h;rw[eq_of_beq q];exact .head _
    ·exact .tail _ (ih h)
  exact key _ h
 exact g _ this
theorem oa{b:Bool}(h:(!b)=true):b=false:=by cases b;rfl;cases h
theorem BO{b:Bool}(h:b=false):(!b)=true:=by rw[h];rfl
theorem Bs{a b c:Nat}{p:List Nat}(h:[a,b,c].isPrefixOf p=true):decide (3≤p.length)&&p.take 2==[a,b]:=by obtain⟨t,rfl⟩:=List.isPrefixOf_iff_prefix.mp h;simp
theorem uR{a c:Nat}{p:List Nat}(h:[a,c].isPrefixOf p=true):p.take 2= [a,c]:=by
 obtain⟨t,rfl⟩:=List.isPrefixOf_iff_prefix.mp h
 rfl
theorem Io{c:Nat}:CR .inc c=true∧CR .dec c=true:=by
 have k:(eQ.all fun p=> !(decide (3≤p.length)&&p.take 2==[43,43])&& !(decide (3≤p.length)&&p.take 2==[45,45]))=true:=by decide +kernel
 refine⟨List.all_eq_true.mpr fun p hp=>?_,List.all_eq_true.mpr fun p hp=>?_⟩<;>have k:=Bool.and_eq_true_iff.mp (List.all_eq_true.mp k p hp)<;>refine BO (Bool.eq_false_iff.mpr fun q=>?_)
 ·have:=Bs q;rw[this]at k;cases k.1
 ·have:=Bs q;rw[this]at k;cases k.2
theorem ct{c:Nat}(h:(c==43 || c==45 || c==61)=false):CR .plus c=true∧CR .minus c=true:=by
 have k:(eQ.all fun p=>(match p.take 2 with| [43,x]=>x==43 || x==45 || x==61| [45,x]=>x==43 || x==45 || x==61|_=>true))=true:=by decide +kernel
 refine⟨List.all_eq_true.mpr fun p hp=>?_,List.all_eq_true.mpr fun p hp=>?_⟩<;>have k:=List.all_eq_true.mp k p hp<;>refine BO (Bool.eq_false_iff.mpr fun q=>?_)<;>(rw[uR q]at k;exact absurd (h.symm.trans k) (by decide))
theorem vR{t u:Tk}{ms:List Tk}(h:Rq t u=some ms):XE (ms.map some)=t.ch++u.ch∧(∀X Y:List Tk,proj (X++ms++Y)≠proj (X++[t,u]++Y))∧
  (∀C,iE (some u::C)=true→x6 (ms.map some++C)=true)∧(XE (ms.map some)).head? =t.ch.head? :=by
 have len:∀{X ms Y:List Tk}{l:List Tk},(proj ms).length≠(proj l).length→proj (X++ms++Y)≠proj (X++l++Y):=by intro X ms Y l hn e;simp only[Ck]at e;have:=R6T List.length e;simp only[List.length_append]at this;lia
 have hd:∀{X ms Y:List Tk}{l:List Tk},proj ms≠proj l→(proj ms).length=(proj l).length→proj (X++ms++Y)≠proj (X++l++Y):=by intro X ms Y l hn hl e;simp only[Ck]at e;have e:=List.append_cancel_left (by simpa only[List.append_assoc]using e);exact hn (List.append_inj e hl).1
 have JQ:∀{C:List It}{u:Tk},iE (some u::C)=true→x6 C=true∧∀c,(XE C).head? =some c→kM u c=true:=by intro C u h;simp only[iE,Bool.and_eq_true]at h;refine⟨C3 h.2,fun c e=>?_⟩;have:=h.1;rw[e]at this;exact this
 have st:∀{C:List It}{u:Tk},PY u=true→iE (some u::C)=true→∀c,(XE C).head? =some c→(c==43 || c==45 || c==61)=false:=fun hu hC c e=>by have:=(JQ hC).2 c e;simp only[kM,hu,Bool.and_eq_true,Bool.not_true,Bool.false_or]at this;exact oa this.1.2
 refine f7 (C:=fun t u ms=>XE (ms.map some)=t.ch++u.ch∧(∀X Y:List Tk,proj (X++ms++Y)≠proj (X++[t,u]++Y))∧(∀C,iE (some u::C)=true→x6 (ms.map some++C)=true)∧(XE (ms.map some)).head? =t.ch.head?) h (List.forall_mem_cons.mpr ⟨?_,List.forall_mem_cons.mpr ⟨?_,List.forall_mem_cons.mpr ⟨?_,List.forall_mem_cons.mpr ⟨?_,List.forall_mem_cons.mpr ⟨?_,fun zz h=>nomatch h⟩⟩⟩⟩⟩)
 ·exact⟨rfl,fun X Y=>len (by decide),fun C hC=>Ga (JQ hC).1 fun c zz=>Io.1,rfl⟩
 ·exact⟨rfl,fun X Y=>hd (by decide) (by decide),fun C hC=>Ga (Ga (JQ hC).1 fun c e=>(ct (st rfl hC c e)).1) fun c zz=>Io.1,rfl⟩
 ·refine⟨rfl,fun X Y=>hd (by decide) (by decide),fun C hC=>?_,rfl⟩;refine Ga (Ga (JQ hC).1 fun c e=>?_) fun c zz=>Io.1;have:=(JQ hC).2 c e;simp only[kM,Bool.and_eq_true]at this;have q:=this.2;simp[B3]at q;subst q;decide +kernel
 ·exact⟨rfl,fun X Y=>len (by decide),fun C hC=>Ga (JQ hC).1 fun c zz=>Io.2,rfl⟩
 ·exact⟨rfl,fun X Y=>hd (by decide) (by decide),fun C hC=>Ga (Ga (JQ hC).1 fun c e=>(ct (st rfl hC c e)).2) fun c zz=>Io.2,rfl⟩
theorem ww{T:Tr}(h:LZ T=true)(hd:dT T≤3){i x:Nat}(hi:1≤i)(h0:(XE (bare T))[i]? =some 32)(h1:(XE (bare T))[i-1]? =some x)(hx:x=43∨x=45)(h2:(XE (bare T))[i+1]? =some x)
  (h3:2≤i→(XE (bare T))[i-2]? ≠some x):∃its,XE its=(XE (bare T)).take i++(XE (bare T)).drop (i+1)∧x6 its=true∧∀k n,P k .expr n (toks its)≠ .ok T []:=by
 obtain⟨A,C,e,rfl⟩:=JT h0;have e':XE (bare T)=XE A++32::XE C:=by rw[e,wz];rfl
 have e1:(XE A)[(XE A).length-1]? =some x:=by rw[e',List.getElem?_append_left (by lia)]at h1;exact h1
 have e2:(XE C).head? =some x:=by rw[e',List.getElem?_append_right (by lia)]at h2;rw[show(XE A).length+1-(XE A).length=1 by lia]at h2;rw[List.head?_eq_getElem?];exact h2
 have ad:=(rU T h false (by simp)).x6;rcases List.eq_nil_or_concat A with rfl|⟨A',y,rfl⟩
 ·simp[XE]at hi
 ·have e3:(It.ch y).getLast? =some x:=by
   rw[←ya (A:=A'),List.getLast?_eq_getElem?];simpa[List.concat_eq_append]using e1
  have e4:2≤(XE (A'++[y])).length→(XE (A'++[y]))[(XE (A'++[y])).length-2]? ≠some x:=fun q z=>by refine h3 (by simpa[List.concat_eq_append]using q) ?_;rw[e',List.concat_eq_append,List.getElem?_append_left (by lia)];exact z
  rw[List.concat_eq_append]at e e';obtain⟨t,rfl,ht⟩:∃t,y=some t∧(t= .plus∧x=43∨t= .minus∧x=45):=by
   cases y with
   |none=>simp[It.ch]at e3;lia
   |some t=>
    refine⟨t,rfl,?_⟩;have fj:∀c,t.ch= [c,c]→c≠x:=fun c q z=>by
     subst z;have:XE (A'++[some t])=XE A'++[c,c]:=by rw[wz];simp[XE,It.ch,q]
     rw[this]at e4;refine e4 (by simp) ?_;rw[List.getElem?_append_right (by simp)];simp
    have k:=bZ (p:=fun t=>(t.ch.getLast? =some 43→t.ch= [43,43]∨t= .plus)∧(t.ch.getLast? =some 45→t.ch= [45,45]∨t= .minus)) t (by kernel_rfl);rcases hx with rfl|rfl
    ·exact(k.1 e3).elim (fun q=>absurd rfl (fj _ q)) fun q=>.inl ⟨q,rfl⟩
    ·exact(k.2 e3).elim (fun q=>absurd rfl (fj _ q)) fun q=>.inr ⟨q,rfl⟩
  obtain⟨u,C',rfl,ms,hm⟩:∃u C',C=some u::C'∧∃ms,Rq t u=some ms:=by
   cases C with
   |nil=>simp[XE]at e2
   |cons z C'=>
    rw[n9]at e2;cases z with
    |none=>simp[It.ch]at e2;lia
    |some u=>
     refine⟨u,C',rfl,?_⟩;have k:=bZ (p:=fun u=>(u.ch.head? =some 43→(Rq .plus u).isSome=true)∧(u.ch.head? =some 45→(Rq .minus u).isSome=true)) u (by kernel_rfl);rcases ht with⟨rfl,rfl⟩|⟨rfl,rfl⟩
     ·exact Option.isSome_iff_exists.mp (k.1 e2)
     ·exact Option.isSome_iff_exists.mp (k.2 e2)
  obtain⟨m1,m2,m3,m4⟩:=vR hm;rw[e]at ad;refine⟨A'++(ms.map some++C'),?_,?_,fun k n=>ak h hd ?_ k n⟩
  ·rw[e',List.concat_eq_append,List.take_left,show(XE (A'++[some t])).length+1=(XE (A'++[some t])++[32]).length by simp];rw[show XE (A'++[some t])++32::XE (some u::C')=(XE (A'++[some t])++[32])++XE (some u::C')by simp,List.drop_left];rw[wz,wz,wz,m1];simp[XE,It.ch]
  ·have a1:iE (some u::C')=true:=oA (A:=A'++[some t]++[none]) (by simpa using ad);have a2:=C3 ad;rw[List.append_assoc,List.cons_append,List.nil_append]at a2;refine Pu a2 (m3 C' a1) ?_;rw[n9];have:XE (ms.map some++C')=XE (ms.map some)++XE C':=wz ..;rw[this,List.head?_append,m4];have:=EW t;cases q:t.ch with
   |nil=>exact absurd q this
   |cons c l=>simp[It.ch,q]
  ·have:=m2 (toks A') (toks C');rw[e];have x1:toks (A'++(ms.map some++C'))=toks A'++ms++toks C':=by
    rw[OF,OF];have:toks (ms.map some)=ms:=by simp[toks,List.filterMap_map]
    rw[this,List.append_assoc]
   have x2:toks (A'++[some t]++none::some u::C')=toks A'++[t,u]++toks C':=by simp[toks]
   rw[x1,x2];exact this
end Mine
namespace Mine
open PySem PySem.W PySem.Calls PyProof.Rows PySem.Spec PyProof.V
section
section
variable{H:AH}{Q:Value→dD→AH→Prop}{fr:dD}
theorem vC{u:Value}:cv Q fr H (some u)=Q u fr H:=rfl
theorem QL{o:Option Value}{u:Value}(h:o=some u)(k:Q u fr H):cv Q fr H o:=h▸k
theorem F8{v:Value}:(some (some v):Option (Option Value)).join=some v:=rfl
theorem fF:(some none:Option (Option Value)).join=none:=rfl
theorem w_lt{a b:Int}{s t}:Et H .Lt (.int a s) (.int b t)=some (decide (a<b)):=rfl
theorem dE{a b:Int}{s t}:Et H .LtE (.int a s) (.int b t)=some (decide (a≤b)):=rfl
theorem Qz{a b:Int}{s t}:Et H .Gt (.int a s) (.int b t)=some (decide (a>b)):=rfl
theorem DZ{a b:Int}{s t}:Et H .GtE (.int a s) (.int b t)=some (decide (a≥b)):=rfl
theorem tD{a b:Int}{s t}:Et H .Eq (.int a s) (.int b t)=some (a==b):=rfl
theorem mr{a b:Int}{s t}:Et H .NotEq (.int a s) (.int b t)=some (a != b):=rfl
theorem gO{a b:Str}{s t}:Et H .Eq (.str a s) (.str b t)=some (a==b):=rfl
theorem T8{a b:Str}{s t}:Et H .NotEq (.str a s) (.str b t)=some (a != b):=rfl
theorem bJ:Et H .Is .none .none=some true:=rfl
theorem Jd:Et H .IsNot .none .none=some false:=rfl
theorem UD{a:Addr}:Et H .Is (.ref a) .none=some false:=rfl
theorem Ma{a:Addr}:Et H .IsNot (.ref a) .none=some true:=rfl
theorem be{x:Str}{t}:Et H .Is (.str x t) .none=some false:=rfl
theorem Ke{x:Str}{t}:Et H .IsNot (.str x t) .none=some true:=rfl
theorem No{a b:Int}{s t}:Ku Q .Add (.int a s) (.int b t) fr H=Q (.int (a+b) 0) fr H:=rfl
theorem Y8{a b:Int}{s t}:Ku Q .Sub (.int a s) (.int b t) fr H=Q (.int (a-b) 0) fr H:=rfl
theorem mS{op:Operator}{x y u:Value}(h:WK op x y=some u):Ku Q op x y fr H=Q u fr H:=by unfold Ku;rw[h]
theorem QZ{a b:Str}{s t}(h:a.length+b.length≤sizeLine):Ku Q .Add (.str a s) (.str b t) fr H=Q (.str (a++b) 0) fr H:=mS (show(if _ then _ else none)=_ from if_pos h)
theorem w_mul{a b:Int}{s t}(h1:a.natAbs<2 ^ 31)(h2:b.natAbs<2 ^ 31)(k:Q (.int (a*b) 0) fr H):Ku Q .Mult (.int a s) (.int b t) fr H:=(mS (show(if _ then _ else none)=_ from if_pos ⟨h1,h2⟩)).mpr k
theorem JU{a b:Int}{s t}(h1:0<b)(h2:b<1000000)(k:Q (.int (a.fdiv b) 0) fr H):Ku Q .FloorDiv (.int a s) (.int b t) fr H:=(mS (show(if _ then _ else none)=_ from if_pos ⟨h1,h2⟩)).mpr k
theorem w_mod{a b:Int}{s t}(h1:0<b)(k:Q (.int (a.fmod b) 0) fr H):Ku Q .Mod (.int a s) (.int b t) fr H:=(mS (show(if _ then _ else none)=_ from if_pos h1)).mpr k
theorem xT{x:Str}{t}:sH Q "str" [.str x t] fr H=Q (.str x 0) fr H:=rfl
theorem DO{b:Bool}:sH Q "str" [.bool b] fr H=Q (.str (if b then "True" else "False") 0) fr H:=rfl
theorem Jc{x:Str}{t}{lo hi:Value}{l r:Option Int}{z:Str}(hl:mv lo=some l)(hr:mv hi=some r)(hz:x.length≤10000000)(e:Txt.slice x l r=z):Cb (.str x t) lo hi=some (.str z 0):=by show((mv lo).bind fun l=>(mv hi).bind fun r=>if x.length≤10000000 then some (Value.str (Txt.slice x l r) 0)else none)=_;rw[hl,hr, ←e];exact if_pos hz
theorem UC{a C d:Addr}{fs:List (Fn×Value)}{f:Fn}{u:Value}(h:H a=some (.inst C d fs))(hc:tQ C=true)(hl:ee f fs=some u)(hb:∀i,u≠ .builtin i):Ij H (.ref a) f=some u:=by show(iO (H a) fun C zz fs=>if tQ C=true then(ee f fs).bind fun u=>if u.ctorIdx≠9 then some u else none else none)=_;rw[h];show(if tQ C=true then(ee f fs).bind fun u=>if u.ctorIdx≠9 then some u else none else none)=_;rw[if_pos hc,hl];exact if_pos (WZ hb)
theorem iF{a C d:Addr}{fs:List (Fn×Value)}{f:Fn}{u:Value}(h:H a=some (.inst C d fs))(hc:tQ C=true)(hz:(D7 f u fs).length≤30):AV H (.ref a) f u=some (upd H a (.inst C d (D7 f u fs))):=by show(iO (H a) fun C d fs=>if tQ C=true∧(D7 f u fs).length≤30 then some (upd H a (.inst C d (D7 f u fs)))else none)=_;rw[h];exact if_pos ⟨hc,hz⟩
theorem HM:tQ Hd.Vk=true:=by kernel_rfl
theorem pM:tQ Hd.VE=true:=by kernel_rfl
theorem Pw:tQ Hd.ic=true:=by kernel_rfl
theorem F1:tQ Hd.Mg=true:=by kernel_rfl
theorem QJ:tQ Hd.y7=true:=by kernel_rfl
theorem i6{a:Addr}{vs:List Value}:tq (upd H a (.tup vs)) (.ref a)=some (false,vs):=WF Hu
theorem xE{a:Addr}{vs:List Value}:tq (upd H a (.lst vs)) (.ref a)=some (true,vs):=WF Hu
theorem ae{a:Addr}{vs:List Value}(h:H a=some (.tup vs)):tq H (.ref a)=some (false,vs):=WF h
theorem Qj{a:Addr}{vs:List Value}(h:H a=some (.lst vs)):tq H (.ref a)=some (true,vs):=WF h
end
end
local macro_rules | `(tactic| walk_at "w") => do
  let ids := (("TX F3 Db Rx x_call dA Wi JJ nG MH OX Uw pt uQ yW yh C7 md LY re rD to R2 mf Ub L1l g29 sT gE FK oh Pl Pj zo II wA v7 G9 iS eF oS kv y_ret tP Z7 ZM Q9 Ek I2 FV dC AT Rv Gn JC KY xi Cz Lk BU k_t k_f rV P2Q M7t r50 f2T K58 Fg w7 Ie mI dU Cg Ig dg eT dQ J7 Am HW d5 JW c9 sk iu bT U0 lX T4 Xx kz kEx Qw Oq gn OE SD cM Fk Uk GZ kFor Hr PU CB Xe wN oU g9 vC wQ k8 FH F8 fF bJ UD Jd Ma w_lt dE Qz DZ tD mr gO T8 No Y8 QZ w60 s72 xo Pd ZY dj eI eS eC eM mN AK SP il Q4 Kf v0 Tv HG O4 uJ AN EX Su".splitOn " ").map fun s => Lean.mkIdent (`Mine ++ s.toName)) ++ ("Option.elim_some List.cons_append List.nil_append List.append_nil List.length_cons List.length_nil List.replicate_succ List.replicate_zero List.replicate List.getElem?_cons_zero List.getElem?_cons_succ List.getElem?_nil List.set_cons_zero List.set_cons_succ Nat.add_zero Nat.sub_zero Nat.reduceAdd Nat.reduceSub reduceIte List.zip_cons_cons List.zip_nil_left List.zip_nil_right List.foldl_cons List.foldl_nil List.reverse_cons List.reverse_nil true_and and_true".splitOn " ").map fun s => Lean.mkIdent s.toName
  `(tactic| try simp only [$[$(ids.toArray):term],*])
section
section
variable{cY:Heap}{uK:OsState}{w:World}{n:Nat}{X:AH→Prop}{H:AH}{Q:Value→AH→Prop}
theorem bA{T:Addr}(hC:zQ H)(h:T∈mQ):tq H (.ref T)=B8 T:=Ra (hC _ h)
theorem uY{x y:Value}{r:Bool}(h:V1 H x y=some r)(hp:RM .In x y=none):Et H .In x y=some r:=by unfold Et;rw[hp];exact R6T (fun o:Option Bool=>o.or (tabIn x y)) h
theorem Nm{x y:Value}{r:Bool}(h:V1 H x y=some r)(hp:RM .NotIn x y=none):Et H .NotIn x y=some (!r):=by unfold Et;rw[hp];exact R6T (Option.map (!·)) h
theorem Wv{y:Value}{b:Bool}{vs:List Value}{xs:List Str}{x:Str}{t}(h:tq H y=some (b,vs))(hv:strsOf vs=some xs):V1 H (.str x t) y=some (xs.any (· ==x)):=by unfold V1;rw[h];exact R6T (fun o:Option (List Str)=>(o.map fun ys=>ys.any (· ==x)).or none) hv
theorem XC{y:Value}{b:Bool}{vs:List Value}{xs:List Int}{c:Int}{t}(h:tq H y=some (b,vs))(hv:intsOf vs=some xs):V1 H (.int c t) y=some (xs.any (· ==c)):=by unfold V1;rw[h];exact R6T (fun o:Option (List Int)=>o.map fun ys=>ys.any (· ==c)) hv
theorem Yr{T:Addr}{r}(hC:zQ H)(hT:mQ.contains T=true)(hs:B8 T=some r):tq H (.ref T)=some r:=(bA hC (List.contains_iff_mem.mp hT)).trans hs
noncomputable def uH:List Int:=[9,11,12,32,160,5760,6158,8239,8287,12288,65279]
theorem Ia{c:Int}{t}(hC:zQ H):Et H .In (.int c t) (.ref Hd.ui)=some (uH.any (· ==c)):=uY (XC (Yr hC (by kernel_rfl) hO) rfl) rfl
noncomputable def OU:List Int:=[10,13,8232,8233]
theorem cJ{c:Int}{t}(hC:zQ H):Et H .In (.int c t) (.ref Hd.mV)=some (OU.any (· ==c)):=uY (XC (Yr hC (by kernel_rfl) Gq) rfl) rfl
noncomputable def aH:List Str:=[("break":Str),("case":Str),("catch":Str),("continue":Str),("debugger":Str),("default":Str),("delete":Str),("do":Str),("else":Str),("finally":Str),("for":Str),("function":Str),("if":Str),("in":Str),("instanceof":Str),("new":Str),("return":Str),("switch":Str),("this":Str),("throw":Str),("try":Str),("typeof":Str),("var":Str),("void":Str),("while":Str),("with":Str),("class":Str),("const":Str),("enum":Str),("export":Str),("extends":Str),("imp\x6frt":Str),("super":Str),("null":Str),("true":Str),("false":Str)]
theorem iN{x:Str}{t}(hC:zQ H):Et H .In (.str x t) (.ref Hd.yr)=some (aH.any (· ==x)):=uY (Wv (Yr hC (by kernel_rfl) NL) rfl) rfl
noncomputable def qJ:List Str:=[("Name":Str),("Member":Str),("Index":Str)]
theorem mB{x:Str}{t}(hC:zQ H):Et H .NotIn (.str x t) (.ref Hd.Tq)=some (!qJ.any (· ==x)):=Nm (Wv (Yr hC (by kernel_rfl) Zp) rfl) rfl
noncomputable def qo:List Str:=[("=":Str),("+=":Str),("-=":Str),("*=":Str),("/=":Str),("%=":Str),("<<=":Str),(">>=":Str),(">>>=":Str),("&=":Str),("^=":Str),("|=":Str)]
theorem L9{x:Str}{t}(hC:zQ H):Et H .In (.str x t) (.ref Hd.lm)=some (qo.any (· ==x)):=uY (Wv (Yr hC (by kernel_rfl) Xj) rfl) rfl
noncomputable def bh:List Str:=[("-":Str),("+":Str),("!":Str),("~":Str)]
theorem yk{x:Str}{t}(hC:zQ H):Et H .In (.str x t) (.ref Hd.j8)=some (bh.any (· ==x)):=uY (Wv (Yr hC (by kernel_rfl) PV) rfl) rfl
noncomputable def SO:List Str:=[("typeof":Str),("void":Str),("delete":Str)]
theorem TK{x:Str}{t}(hC:zQ H):Et H .In (.str x t) (.ref Hd.zf)=some (SO.any (· ==x)):=uY (Wv (Yr hC (by kernel_rfl) MA) rfl) rfl
noncomputable def nF:List Str:=[("++":Str),("--":Str)]
theorem vi{x:Str}{t}(hC:zQ H):Et H .In (.str x t) (.ref Hd.Y9)=some (nF.any (· ==x)):=uY (Wv (Yr hC (by kernel_rfl) NE) rfl) rfl
theorem ZR{x:Str}{t}(hC:zQ H):Et H .NotIn (.str x t) (.ref Hd.Y9)=some (!nF.any (· ==x)):=Nm (Wv (Yr hC (by kernel_rfl) NE) rfl) rfl
theorem Ko{T:Addr}{tb:Tb}{x:Str}{t}(hC:zQ H)(h:T∈mQ)(hs:B8 T=none)(ht:Er T=some tb):Et H .In (.str x t) (.ref T)=some (tb.get x).isSome:=by
 have e:V1 H (.str x t) (.ref T)=none:=by unfold V1;rw[bA hC h,hs];rfl
 show(V1 H (.str x t) (.ref T)).or (((Er T).map fun tb=>(tb.get x).isSome).or none)=_;rw[e,ht]
 rfl
theorem Gd{c:Int}{t}(hC:zQ H):Et H .In (.int c t) (.ref Hd.j6)=some (Sm.any fun p=>p.1==c):=by
 have e:V1 H (.int c t) (.ref Hd.j6)=none:=by unfold V1;rw[bA hC (List.contains_iff_mem.mp (by kernel_rfl)),show B8 Hd.j6=none by kernel_rfl];rfl
 show(V1 H (.int c t) (.ref Hd.j6)).or (if Hd.j6=Hd.j6 then some (Sm.any fun p=>p.1==c)else none)=_;rw[e,if_pos rfl]
 rfl
theorem Pf{a:Addr}{vs:List Value}{xs:List Str}{x:Str}{t}(h:H a=some (.tup vs))(hv:strsOf vs=some xs):Et H .In (.str x t) (.ref a)=some (xs.any (· ==x)):=uY (Wv (ae h) hv) rfl
theorem MN{lo hi c:Int}{P:KQ}{fr:dD}(hf:(fr[0]?).join=some (.int c 0))(h:P (.bool (decide (lo≤c)&&decide (c≤hi))) fr H):jd cY uK w n X (.V8 (.cst (.int lo 0)) .LtE (.loc 0) .LtE (.cst (.int hi 0))) P fr H:=by
 simp only[OX,Db,dg,TX,hf,vC,Ig,dE];cases q:decide (lo≤c)
 ·rw[q]at h;exact h
 ·rw[q]at h;exact h
theorem Hw{e e':E}{es:Es}{b:Bool}{P:KQ}{fr:dD}(he:∀K:KQ,K (.bool b) fr H→jd cY uK w n X e K fr H)(h1:b=true→P (.bool true) fr H)(h2:b=false→Kc cY uK w n X false (.cons e' es) P fr H):Kc cY uK w n X false (.cons e (.cons e' es)) P fr H:=
 he _ (match b,h1,h2 with|true,h1,_=>h1 rfl|false,_,h2=>h2 rfl)
noncomputable def GR(c:Int):Bool:=uH.any (· ==c) || (decide (8192≤c)&&decide (c≤8202))
theorem bW(base:AG cY w){c:Int}(h:Q (.bool (GR c)) H):T2 cY uK w (n+1) (.ref Hd.ki) [.int c 0] H Q X:=by
 refine Vg X1 base rfl fun hC=>?_;unfold GR at h;refine Hw (b:=uH.any (· ==c)) (fun K k=>?_) (fun e=>?_) fun e=>?_
 ·walk_at "w";rw[Ia hC];exact k
 ·rw[e]at h;exact h
 ·rw[e]at h;rw[re];exact MN rfl h
theorem B5(base:AG cY w){c:Int}(h:Q (.bool (OU.any (· ==c))) H):T2 cY uK w (n+1) (.ref Hd.wF) [.int c 0] H Q X:=by refine Vg W3 base rfl fun hC=>?_;simp only[eg];walk_at "w";rw[cJ hC];exact h
noncomputable def LU(c:Int):Bool:=decide (48≤c)&&decide (c≤57)
theorem cj(base:AG cY w){c:Int}(h:Q (.bool (LU c)) H):T2 cY uK w (n+1) (.ref Hd.wM) [.int c 0] H Q X:=by refine Vg Kw base rfl fun zz=>?_;simp only[zu,y_ret];exact MN rfl h
noncomputable def isLt(c:Int):Bool:=(decide (65≤c)&&decide (c≤90)) || (decide (97≤c)&&decide (c≤122)) || c==36 || c==95
theorem Xp(base:AG cY w){c:Int}(hc:c<128)(h:Q (.bool (isLt c)) H):T2 cY uK w (n+1) (.ref Hd.DF) [.int c 0] H Q X:=by
 refine Vg fQ base rfl fun hC=>?_;simp only[Yw];walk_at "w";refine nZ (decide_eq_true hc) ?_;unfold isLt at h;refine Hw (b:=decide (65≤c)&&decide (c≤90)) (fun K k=>MN rfl k) (fun e=>?_) fun e=>?_
 ·rw[e]at h;exact h
 rw[e,Bool.false_or]at h;refine Hw (b:=decide (97≤c)&&decide (c≤122)) (fun K k=>MN rfl k) (fun e=>?_) fun e=>?_
 ·rw[e]at h;exact h
 rw[e,Bool.false_or]at h;refine Hw (b:=c==36) (fun K k=>k) (fun e=>?_) fun e=>?_
 ·rw[e]at h;exact h
 ·rw[e]at h;exact h
noncomputable def JS(c:Int):Bool:=isLt c || LU c
theorem Ho(base:AG cY w){c:Int}(hc:c<128)(h:Q (.bool (JS c)) H):T2 cY uK w (n+2) (.ref Hd.dq) [.int c 0] H Q X:=by
 refine Vg WN base rfl fun hC=>?_;unfold JS at h;refine Hw (b:=isLt c) (fun K k=>?_) (fun e=>?_) fun e=>Hw (b:=LU c) (fun K k=>?_) (fun e2=>?_) fun e2=>?_
 ·walk_at "w";exact Xp base hc fun zz=>k
 ·rw[e]at h;exact h
 ·walk_at "w";exact cj base fun zz=>k
 ·rw[e,e2]at h;exact h
 ·rw[e,e2]at h;walk_at "w";rw[decide_eq_false (show¬c>127 by lia)];walk_at "w";exact h
theorem Ao{x:Str}{t}(h:x.length<10000000):MG H "len" [.str x t]=some (.int x.length 0):=by show(if x.length<10000000 then some (Value.int x.length 0)else none).or _=_;rw[if_pos h];rfl
theorem ZB{v:Value}{b:Bool}{vs:List Value}(hs:tq H v=some (b,vs))(hn:sv v=none)(h:vs.length<10000000):MG H "len" [v]=some (.int vs.length 0):=by show((sv v).bind _).or ((tq H v).bind _)=_;rw[hn,hs];exact if_pos h
theorem rE{x:Str}{t}{v:Value}{vs:List Value}{ys:List Str}(hs:tq H v=some (true,vs))(hv:strsOf vs=some ys)(hz:(ys.map (·.length)).sum+ys.length*x.length≤16777216):MG H "str.join" [.str x t,v]=some (.str (Txt.join x ys) 0):=by show(tq H v).bind _=_;rw[hs];show(strsOf vs).bind _=_;rw[hv];exact if_pos hz
theorem Oa{v:Value}{vs:List Value}{ns:List Int}(hs:tq H v=some (true,vs))(hv:intsOf vs=some ns):MG H "sum" [v]=some (.int ns.sum 0):=by show(tq H v).bind _=_;rw[hs];show(intsOf vs).map _=_;rw[hv];rfl
theorem Bp{c:Nat}{t}:MG H "ord" [.str ⟨#[c]⟩ t]=some (.int c 0):=id rfl
theorem dZ{k n:Nat}(h:k<n):seqIndex? (k:Int) n=some k:=by
 unfold seqIndex?;have h1:¬(k:Int)<0:=by lia
 have h2:(k:Int)<(n:Int):=by lia
 simp[h1,h2]
theorem O9{cs:List Nat}{i c:Nat}(h:cs[i]? =some c):(seqIndex? (i:Int) (n6 cs).length).bind ((n6 cs).cps[·]?)=some c:=by rw[Q8,dZ (List.getElem?_eq_some_iff.mp h).1,Option.bind_some];simpa[n6]using h
theorem bV{i:Nat}(h:i<1000000):IK i:=by
 have e:(2:Int) ^ 62=4611686018427387904:=by decide +kernel
 unfold IK;rw[e];lia
theorem vT{a:Value}{k:Int}{t}{u:Value}(z:IK k)(h:(((sv a).bind fun x=>((seqIndex? k x.length).bind (x.cps[·]?)).map fun c=>Value.str ⟨#[c]⟩ 0).or ((tq H a).bind fun p=>(seqIndex? k p.2.length).bind (p.2[·]?)))=some u):ro H a (.int k t)=some u:=by show(@ite _ (IK k) (Classical.propDecidable _) _ none).or _=_;rw[if_pos z,h];rfl
theorem kg{cs:List Nat}{i c:Nat}{s t}(h:cs[i]? =some c)(hl:cs.length<1000000):ro H (.str (n6 cs) s) (.int i t)=some (.str ⟨#[c]⟩ 0):=
 vT (bV (i:=i) (by have:=(List.getElem?_eq_some_iff.mp h).1;lia)) (R6T (fun o:Option Nat=>(o.map fun c=>Value.str ⟨#[c]⟩ 0).or ((tq H _).bind fun p=>(seqIndex? _ p.2.length).bind (p.2[·]?))) (O9 h))
theorem Yt{a:Value}{b:Bool}{vs:List Value}{k:Int}{t}{j:Nat}{u:Value}(z:IK k)(hs:tq H a=some (b,vs))(hn:sv a=none)(hj:seqIndex? k vs.length=some j)(hv:vs[j]? =some u):ro H a (.int k t)=some u:=
 vT z (by rw[hn,hs];show(seqIndex? k vs.length).bind _=_;rw[hj];exact hv)
theorem ZC{a:Value}{b:Bool}{vs:List Value}{k:Nat}{u:Value}{t}(h:tq H a=some (b,vs))(hu:vs[k]? =some u)(hk:vs.length<1000000)(hn:sv a=none:=by rfl):ro H a (.int k t)=some u:=
 have hi:=(List.getElem?_eq_some_iff.mp hu).1
 Yt (bV (by lia)) h hn (dZ hi) hu
noncomputable def dm(cs:List Nat)(i:Nat):Int:=match cs[i]? with
 |some c=>c
 |none=> -1
theorem MD(base:AG cY w){cs:List Nat}{i:Nat}(hl:cs.length<1000000)(hi:i≤cs.length)(h:Q (.int (dm cs i) 0) H):T2 cY uK w (n+1) (.ref Hd.gb) [.str (n6 cs) 0,.int i 0] H Q X:=by
 refine Vg G5 base rfl fun hC=>?_;simp only[cA];walk_at "w";rw[Ao (by rw[Q8];lia),Q8];walk_at "w"
 by_cases q:i<cs.length
 ·rw[show decide ((i:Int)<(cs.length:Int))=true from decide_eq_true (by lia)];walk_at "w";rw[kg (List.getElem?_eq_getElem q) hl];walk_at "w";rw[Bp];walk_at "w";unfold dm at h;rw[List.getElem?_eq_getElem q]at h;exact h
 ·rw[show decide ((i:Int)<(cs.length:Int))=false from decide_eq_false (by lia)];unfold dm at h;rw[List.getElem?_eq_none (by lia)]at h;exact h
theorem FI{x:Addr}{a b:AO}:upd (upd H x a) x b=upd H x b:=by
 funext y;unfold upd;split<;>rfl
theorem Pn{a b:Nat}(h:Nat.blt a b=true):a<b:=J1O h
theorem gQ{a b:Addr}{o:AO}(ha:H a=none)(hb:H b=some o):b≠a:=fun q=>by rw[q,ha]at hb;cases hb
theorem aP{x a:Addr}{o:AO}(h:upd H x o a=none):H a=none:=(CH fun q=>by rw[q,Hu]at h;cases h).symm.trans h
theorem Ow{x C d:Addr}{fs:List (Fn×Value)}{f:Fn}{u:Value}(hc:tQ C=true)(hz:(D7 f u fs).length≤30):AV (upd H x (.inst C d fs)) (.ref x) f u=some (upd H x (.inst C d (D7 f u fs))):=by rw[iF Hu hc hz,FI]
theorem zJ{r:S}{K:KF}{fr:dD}{i:Nat}{x C d:Addr}{f:Fn}{e:E}{u:Value}{fs:List (Fn×Value)}(h0:(fr[i]?).join=some (.ref x))(he:∀(L:KQ)H,L u fr H→jd cY uK w n X e L fr H)(hc:tQ C=true)(hz:(D7 f u fs).length≤30)
  (g:wpS cY uK w n X r K fr (upd H x (.inst C d (D7 f u fs)))):wpS cY uK w n X (.RY (.loc i) f e r) K fr (upd H x (.inst C d fs)):=by
 refine he _ _ ?_;show cv _ _ _ _;refine QL h0 ?_;exact Ni (Ow hc hz) g
theorem Sh{r:S}{K:KF}{fr:dD}{i j:Nat}{x C d:Addr}{f:Fn}{u:Value}{fs:List (Fn×Value)}(h0:(fr[i]?).join=some (.ref x))(h1:(fr[j]?).join=some u)(hc:tQ C=true)(hz:(D7 f u fs).length≤30)
  (g:wpS cY uK w n X r K fr (upd H x (.inst C d (D7 f u fs)))):wpS cY uK w n X (.RY (.loc i) f (.loc j) r) K fr (upd H x (.inst C d fs)):=zJ h0 (fun zz zz k=>QL h1 k) hc hz g
theorem OQ{r:S}{K:KF}{fr:dD}{i:Nat}{x C d:Addr}{f:Fn}{u:Value}{fs:List (Fn×Value)}(h0:(fr[i]?).join=some (.ref x))(hc:tQ C=true)(hz:(D7 f u fs).length≤30)
  (g:wpS cY uK w n X r K fr (upd H x (.inst C d (D7 f u fs)))):wpS cY uK w n X (.RY (.loc i) f (.cst u) r) K fr (upd H x (.inst C d fs)):=zJ h0 (fun zz zz k=>k) hc hz g
noncomputable def fx:AO→Prop
 | .inst C _ _=>C=Hd.Vk∨C=Hd.VE
 | .lst _| .tup _=>True
 |_=>False
def Ext(H H':AH):Prop:=∀a o,H a=some o→fx o→H' a=some o
theorem Ext.refl{H:AH}:Ext H H:=fun zz zz e zz=>e
theorem Ext.trans{H Dw XZ:AH}(x:Ext H Dw)(y:Ext Dw XZ):Ext H XZ:=fun a o e f=>y a o (x a o e f) f
theorem Ext.new{H H':AH}{a:Addr}{o:AO}(x:Ext H H')(h:H' a=none):Ext H (upd H' a o):=fun b o' e f=>by
 have:=x b o' e f;unfold upd
 split
 ·rename_i q;subst q;rw[h]at this;cases this
 ·exact this
theorem Ext.mut{H H':AH}{a:Addr}{o:AO}(x:Ext H H')(h:∀o,H a=some o→¬fx o):Ext H (upd H' a o):=fun b o' e f=>by
 unfold upd
 split
 ·rename_i q;subst q;exact absurd f (h _ e)
 ·exact x b o' e f
theorem uv:(Hd.ic≠Hd.Vk∧Hd.ic≠Hd.VE)∧(Hd.Mg≠Hd.Vk∧Hd.Mg≠Hd.VE)∧Hd.Mg≠Hd.ic∧Hd.Vk≠Hd.VE:=by decide +kernel
theorem vn{d fs}:¬fx (.inst Hd.ic d fs):=fun h=>h.elim uv.1.1 uv.1.2
theorem Fi{d fs}:¬fx (.inst Hd.Mg d fs):=fun h=>h.elim uv.2.1.1 uv.2.1.2
theorem Xd(P:Params):makesIn (Hd.KF P) Hd.Vk=true:=by kernel_rfl
theorem Jq(P:Params):findIn (Hd.KF P) (.ref Hd.Vk) "__init__"=some (some (.ref Hd.iI)):=by kernel_rfl
theorem UO(P:Params):typeIn (Hd.KF P) (.ref Hd.iI)=some (.type "function"):=by kernel_rfl
theorem dR(P:Params):makesIn (Hd.KF P) Hd.VE=true:=by kernel_rfl
theorem Li(P:Params):findIn (Hd.KF P) (.ref Hd.VE) "__init__"=some (some (.ref Hd.Lx)):=by kernel_rfl
theorem Gs(P:Params):typeIn (Hd.KF P) (.ref Hd.Lx)=some (.type "function"):=by kernel_rfl
noncomputable def WJ(k l p:Value):List (Fn×Value):=[(.kind,k),(.line,l),(.parts,p),(.scope,.none)]
noncomputable def Y0(k v l b s e o p:Value):List (Fn×Value):=[(.kind,k),(.value,v),(.line,l),(.behind,b),(.start,s),(.stop,e),(.uO,o),(.plain,p)]
theorem gC(base:AG cY w){k l p:Value}(h:∀a d,H a=none→Q (.ref a) (upd H a (.inst Hd.Vk d (WJ k l p)))):T2 cY uK w (n+2) (.ref Hd.Vk) [k,l,p] H Q X:=by refine xh base Xd Jq UO fun x d hx=>?_;refine Vg QN base rfl fun hC=>?_;refine Sh rfl rfl HM (J1O rfl) ?_;refine Sh rfl rfl HM (J1O rfl) ?_;refine Sh rfl rfl HM (J1O rfl) ?_;refine OQ rfl HM (J1O rfl) ?_;exact And.intro rfl (h x d hx)
theorem VO(base:AG cY w){k v l b s e:Value}(h:∀a d,H a=none→Q (.ref a) (upd H a (.inst Hd.VE d (Y0 k v l b s e (.bool false) (.bool true))))):T2 cY uK w (n+2) (.ref Hd.VE) [k,v,l,b,s,e] H Q X:=by refine xh base dR Li Gs fun x d hx=>?_;refine Vg jj base rfl fun hC=>?_;refine Sh rfl rfl pM (J1O rfl) ?_;refine Sh rfl rfl pM (J1O rfl) ?_;refine Sh rfl rfl pM (J1O rfl) ?_;refine Sh rfl rfl pM (J1O rfl) ?_;refine Sh rfl rfl pM (J1O rfl) ?_;refine Sh rfl rfl pM (J1O rfl) ?_;refine OQ rfl pM (J1O rfl) ?_;refine OQ rfl pM (J1O rfl) ?_;exact And.intro rfl (h x d hx)
noncomputable def B0(cs:List Nat)(i:Nat):List (Fn×Value):=[(.text,.str (n6 cs) 0),(.at,.int i 0),(.line,.int 1 0)]
theorem Ay{x d:Addr}{cs:List Nat}{i:Nat}(h:H x=some (.inst Hd.ic d (B0 cs i))):Ij H (.ref x) .text=some (.str (n6 cs) 0):=UC h Pw rfl (fun zz q=>by cases q)
theorem sN{x d:Addr}{cs:List Nat}{i:Nat}(h:H x=some (.inst Hd.ic d (B0 cs i))):Ij H (.ref x) .at=some (.int i 0):=UC h Pw rfl (fun zz q=>by cases q)
theorem uD{x d:Addr}{cs:List Nat}{i:Nat}(h:H x=some (.inst Hd.ic d (B0 cs i))):Ij H (.ref x) .line=some (.int 1 0):=UC h Pw rfl (fun zz q=>by cases q)
theorem IU{x d:Addr}{cs:List Nat}{i j:Nat}(h:H x=some (.inst Hd.ic d (B0 cs i))):AV H (.ref x) .at (.int j 0)=some (upd H x (.inst Hd.ic d (B0 cs j))):=iF h Pw (J1O rfl)
theorem QG{F:AH→Prop}{x d:Addr}{k v l b s e o p u:Value}(h:H x=some (.inst Hd.VE d (Y0 k v l b s e o p)))(g:F (upd H x (.inst Hd.VE d (Y0 u v l b s e o p)))):(AV H (.ref x) .kind u).elim False F:=Ni (iF h pM (J1O rfl)) g
theorem mR{F:AH→Prop}{x d:Addr}{k v l b s e o p u:Value}(h:H x=some (.inst Hd.VE d (Y0 k v l b s e o p)))(g:F (upd H x (.inst Hd.VE d (Y0 k u l b s e o p)))):(AV H (.ref x) .value u).elim False F:=Ni (iF h pM (J1O rfl)) g
theorem Be{F:AH→Prop}{x d:Addr}{k v l b s e o p u:Value}(g:F (upd H x (.inst Hd.VE d (Y0 u v l b s e o p)))):(AV (upd H x (.inst Hd.VE d (Y0 k v l b s e o p))) (.ref x) .kind u).elim False F:=QG Hu (FI.symm▸g)
theorem kh{F:AH→Prop}{x d:Addr}{k v l b s e o p u:Value}(g:F (upd H x (.inst Hd.VE d (Y0 k u l b s e o p)))):(AV (upd H x (.inst Hd.VE d (Y0 k v l b s e o p))) (.ref x) .value u).elim False F:=mR Hu (FI.symm▸g)
theorem lv{F:AH→Prop}{x d:Addr}{cs:List Nat}{i j:Nat}(h:H x=some (.inst Hd.ic d (B0 cs i)))(g:F (upd H x (.inst Hd.ic d (B0 cs j)))):(AV H (.ref x) .at (.int j 0)).elim False F:=Ni (IU h) g
theorem Js{cs:List Nat}{i:Nat}{y:Str}{t t' C9}(hy:y.cps[0]? =some 47)(h:cs[i]? ≠some 47):MG H "str.startswith" [.str (n6 cs) t,.str y t',.int i C9]=some (.bool false):=by
 have e:Txt.startswith3 (n6 cs) y i=false:=by
  unfold Txt.startswith3 Builtin.Str.subAt;rw[Bool.and_eq_false_iff]
  right
  have hf:PySem.fromIndex (n6 cs).length (i:Int)=i:=by unfold PySem.fromIndex;rw[if_neg (by lia)];lia
  rw[hf];refine beq_false_of_ne fun q=>h ?_;have q2:=R6T Array.toList q;have q3:((cs.drop i).take y.length)[0]? =some 47:=by
   have:(n6 cs).cps.toList=cs:=by simp[n6]
   rw[Array.toList_extract,List.extract_eq_take_drop,this]at q2;rw[show i+y.length-i=y.length by lia]at q2;rw[q2];simpa using hy
  rw[List.getElem?_take]at q3
  split at q3
  ·simpa using q3
  ·cases q3
 exact R6T (fun b=>some (Value.bool b)) e
noncomputable def bE:List It→List It
 |none::r=>bE r
 |is=>is
theorem Y4{t:It}{r:List It}:XE (t::r)=t.ch++XE r:=rfl
theorem mW{cs:List Nat}{i:Nat}{l:List Nat}(h:cs.drop i=l):cs[i]? =l[0]? :=by rw[←h];simp
theorem LH{x:Addr}{o:AO}(h:H x=some o):upd H x o=H:=by
 funext y;unfold upd;split
 ·rename_i q;rw[q,h]
 ·rfl
noncomputable def cP(t:Tk):Nat:=t.ch.headD 0
theorem Fo(t:Tk):t.ch=cP t::t.ch.tail:=bZ t (by kernel_rfl)
theorem wg(t:Tk):GR (cP t)=false∧OU.any (· ==(cP t:Int))=false∧cP t≠47∧cP t≠92∧cP t<128:=bZ t (by kernel_rfl)
structure Left(cs:List Nat)(i:Nat)(its:List It):Prop where
 le:i≤cs.length
 txt:cs.drop i=XE its
 x6:x6 its=true
theorem Left.blank{cs i r}(x:Left cs i (none::r)):Left cs (i+1) r∧dm cs i=32∧i<cs.length:=by
 have e:=x.txt;have hc:cs[i]? =some 32:=by rw[mW e];rfl
 have hi:=(List.getElem?_eq_some_iff.mp hc).1;refine⟨⟨hi,?_,x.x6⟩,by unfold dm;rw[hc];rfl,hi⟩;rw[←List.drop_drop,e];rfl
theorem Left.tok{cs i t r}(x:Left cs i (some t::r)):dm cs i=cP t∧cs[i]? =some (cP t)∧i<cs.length:=by
 have hc:cs[i]? =some (cP t):=by rw[mW x.txt,Y4];show((t.ch++XE r)[0]?)=_;rw[Fo];rfl
 exact⟨by unfold dm;rw[hc],hc,(List.getElem?_eq_some_iff.mp hc).1⟩
theorem Left.end{cs i}(x:Left cs i []):dm cs i= -1∧cs[i]? =none∧i=cs.length:=by
 have hc:cs[i]? =none:=by rw[mW x.txt];rfl
 exact⟨by unfold dm;rw[hc],hc,Nat.le_antisymm x.le (by simpa using hc)⟩
def SbI(H:AH)(x d:Addr)(cs:List Nat)(its:List It)(k:Nat)(fr:dD)(H':AH):Prop:=∃j gB u,k=cs.length-j∧Left cs j gB∧bE gB=bE its∧fr= [some (.ref x),some (.int 1 0),u]∧H'=upd H x (.inst Hd.ic d (B0 cs j))
theorem mL{cs:List Nat}{j:Nat}:∀{gB:List It},Left cs j gB→(∀r,gB≠none::r)→OU.any (· ==dm cs j)=false∧GR (dm cs j)=false∧cs[j]? ≠some 47∧bE gB=gB
 | [],lf,_=>by rw[lf.end.1,lf.end.2.1];exact⟨by decide +kernel,by decide +kernel,fun q=>(by cases q),rfl⟩
 |none::r,_,q=>absurd rfl (q r)
 |some t::r,lf,_=>by rw[lf.tok.1,lf.tok.2.1];exact⟨(wg t).2.1,(wg t).1,fun q=>(wg t).2.2.1 (Y1l q),rfl⟩
theorem Nd(base:AG cY w){x d:Addr}{cs:List Nat}{i:Nat}{its:List It}(hx:H x=some (.inst Hd.ic d (B0 cs i)))(hl:cs.length<1000000)(hr:Left cs i its)
  (h:∀j,Left cs j (bE its)→Q (.bool false) (upd H x (.inst Hd.ic d (B0 cs j)))):T2 cY uK w (n+2) (.ref Hd.gT) [.ref x] H Q X:=by
 refine Vg VZ base rfl fun hC=>?_;delta Cj;walk_at "w";refine QL (uD hx) ?_;walk_at "w";refine⟨SbI H x d cs its,⟨_,i,its,none,rfl,hr,rfl,rfl,(LH hx).symm⟩,?_⟩;rintro k fr H' ⟨j,gB,u,rfl,lf,hd,rfl,rfl⟩;clear hC;walk_at "w";refine QL (Ay Hu) ?_;walk_at "w";refine QL (sN Hu) ?_;walk_at "w";refine MD base hl lf.le fun _=>?_;walk_at "w";refine B5 base fun _=>?_
 by_cases hq:∃r,gB=none::r
 ·obtain⟨r,rfl⟩:=hq;obtain⟨fy,e1,e2⟩:=lf.blank;refine wG (by rw[e1];decide +kernel) ?_;walk_at "w";refine bW base fun _=>nZ (by rw[e1];decide +kernel) ?_;walk_at "w";refine QL (sN Hu) ?_;walk_at "w";refine lv (j:=j+1) Hu ?_;exact⟨cs.length-(j+1),Nat.sub_lt_sub_left e2 (K7i j),j+1,r,_,rfl,fy,hd,rfl,FI⟩
 ·obtain⟨k1,k2,k3,k4⟩:=mL lf fun r q=>hq ⟨r,q⟩;refine wG k1 ?_;walk_at "w";refine bW base fun _=>wG k2 ?_;walk_at "w";refine QL (Ay Hu) ?_;walk_at "w";refine⟨⟨_,rfl⟩,?_⟩;refine QL (sN Hu) ?_;walk_at "w";refine QL (Js (by decide +kernel) k3) ?_;walk_at "w";refine QL (Ay Hu) ?_;walk_at "w";refine⟨⟨_,rfl⟩,?_⟩;refine QL (sN Hu) ?_;walk_at "w";refine QL (Js (by decide +kernel) k3) ?_;walk_at "w";refine QL (uD Hu) ?_;walk_at "w";exact h j (by rw[←hd,k4];exact lf)
theorem qM{n:Int}(j:Nat):(if((j:Nat):Int)<0 then((j:Nat):Int)+n else(j:Int))=(j:Int):=if_neg (Int.not_lt.mpr (Int.natCast_nonneg j))
theorem IE{cs:List Nat}{lo hi:Option Int}{i j:Nat}(e:Builtin.Str.strSliceIndices lo hi 1 (n6 cs).length=Builtin.Str.strSliceIndices (some (i:Int)) (some (j:Int)) 1 (n6 cs).length)(l9:i≤j)(hj:j≤cs.length):Txt.slice (n6 cs) lo hi=n6 ((cs.drop i).take (j-i)):=by
 have EV:j≤(n6 cs).length:=(Q8 cs).symm▸hj;unfold Txt.slice;rw[e,StrLaws.sliced_plain (n6 cs) l9 EV,StrLaws.strSliceIndices_plain l9 EV]
 split
 ·rename_i q;have q:j-i=cs.length:=by simpa[Q8]using q
  have h0:i=0:=Nat.le_zero.mp (Nat.le_of_add_le_add_left (a:=cs.length) (z2n (r72 (q▸Nat.sub_add_cancel l9)) hj));rw[q,h0,List.drop_zero,List.take_length]
 ·rfl
theorem z9{cs:List Nat}{i j:Nat}(l9:i≤j)(hi:i≤cs.length):Txt.slice (n6 cs) (some (i:Int)) (some (j:Int))=n6 ((cs.drop i).take (j-i)):=by
 by_cases q:j≤cs.length
 ·exact IE rfl l9 q
 ·have q:=Nat.le_of_not_le q;have l:(cs.drop i).length≤cs.length-i:=r72 List.length_drop;refine(IE (i:=i) (j:=cs.length) ?_ hi (g61 _)).trans ?_
  ·refine R6T (fun x=>sliceRange _ (max 0 x) 1) ?_;rw[Q8,qM,qM,Int.min_eq_right (Int.ofNat_le.mpr q),Int.min_self]
  ·rw[List.take_of_length_le l,List.take_of_length_le (Nat.le_trans l (Nat.sub_le_sub_right q i))]
theorem fV{cs:List Nat}{j:Nat}:Txt.slice (n6 cs) none (some (j:Int))=n6 (cs.take j):=by
 refine Eq.trans ?_ (z9 (cs:=cs) (i:=0) (j:=j) (V7h _) (V7h _));have e:Builtin.Str.strSliceIndices none (some (j:Int)) 1 (n6 cs).length=Builtin.Str.strSliceIndices (some ((0:Nat):Int)) (some (j:Int)) 1 (n6 cs).length:=by refine R6T (fun x=>sliceRange x _ 1) ?_;show(0:Int)=max 0 (min (if((0:Nat):Int)<0 then((0:Nat):Int)+((n6 cs).length:Int)else((0:Nat):Int)) ((n6 cs).length:Int));rw[qM,Int.min_eq_left (Int.ofNat_le.mpr (Nat.zero_le _))];rfl
 unfold Txt.slice;rw[e]
theorem kf{cs:List Nat}{i:Nat}(hi:i≤cs.length):Txt.slice (n6 cs) (some (i:Int)) none=n6 (cs.drop i):=by have l:(cs.drop i).length≤cs.length-i:=r72 List.length_drop;refine(IE (i:=i) (j:=cs.length) ?_ hi (g61 _)).trans (by rw[List.take_of_length_le l]);refine R6T (fun x=>sliceRange _ x 1) ?_;show((n6 cs).length:Int)=max 0 (min (if(cs.length:Int)<0 then(cs.length:Int)+((n6 cs).length:Int)else(cs.length:Int)) ((n6 cs).length:Int));rw[Q8,qM,Int.min_self,Int.max_eq_right (Int.natCast_nonneg _)]
theorem Aj:∀{is:List It},∀c∈XE is,c<128
 |none::r,c,h=>by
  rcases List.mem_append.mp (show c∈[32]++XE r from h)with q|q
  ·simp at q;lia
  ·exact Aj c q
 |some t::r,c,h=>by
  rcases List.mem_append.mp (show c∈t.ch++XE r from h)with q|q
  ·have:∀t:Tk,t.ch.all (· < 128)=true:=fun t=>bZ t (by kernel_rfl);simpa using List.all_eq_true.mp (this t) c q
  ·exact Aj c q
theorem iq(c d:Nat):decide ((c:Int)≤(d:Int))=decide (c≤d):=decide_eq_decide.mpr Int.ofNat_le
theorem jJ(c d:Nat):((c:Int)==(d:Int))=(c==d):=by rw[Bool.eq_iff_iff,beq_iff_eq,beq_iff_eq];exact Int.ofNat_inj
theorem oc{a b c d:Bool}(h:a=b)(g:c=d):(a || c)=(b || d):=by rw[h,g]
theorem ac{a b c d:Bool}(h:a=b)(g:c=d):(a&&c)=(b&&d):=by rw[h,g]
theorem BS{c:Nat}:isLt (c:Int)=isLetter c:=oc (oc (oc (ac (iq 65 c) (iq c 90)) (ac (iq 97 c) (iq c 122))) (jJ c 36)) (jJ c 95)
theorem zE{c:Nat}:JS (c:Int)=B6 c:=oc BS (ac (iq 48 c) (iq c 57))
theorem Mm{c:Nat}{t}(h:c<128):MG H "chr" [.int c t]=some (.str ⟨#[c]⟩ 0):=
 (show(if _ then _ else none)=_ from if_pos ⟨Int.natCast_nonneg c,Int.ofNat_le.mpr (z2n (Nat.le_of_lt h) (by decide:128≤1114111))⟩)
def yf(H H':AH):Prop:=∀a o,H a=some o→H' a=some o
theorem yf.refl{H:AH}:yf H H:=fun zz zz e=>e
theorem yf.new{H H':AH}{a:Addr}{o:AO}(x:yf H H')(h:H' a=none):yf H (upd H' a o):=fun b o' e=>by
 have:=x b o' e;unfold upd
 split
 ·rename_i q;subst q;rw[h]at this;cases this
 ·exact this
theorem yf.trans{H Dw XZ:AH}(x:yf H Dw)(y:yf Dw XZ):yf H XZ:=fun a o e=>y a o (x a o e)
theorem yf.ext{H H':AH}(x:yf H H'):Ext H H':=fun a o e zz=>x a o e
theorem EE{cs:List Nat}{i:Nat}(h:dm cs i≥0):∃c,cs[i]? =some c∧dm cs i=c:=by
 unfold dm at h⊢;cases e:cs[i]? with
 |none=>rw[e]at h;exact absurd h (by decide)
 |some c=>exact⟨c,rfl,rfl⟩
noncomputable def uT(first:Bool)(c:Int):Bool:=decide (c≥0)&&(if first then isLt c else JS c)
theorem OV(base:AG cY w){x d:Addr}{cs:List Nat}{i:Nat}{first:Bool}(hx:H x=some (.inst Hd.ic d (B0 cs i)))(hl:cs.length<1000000)(hi:i≤cs.length)(h92:dm cs i≠92)(hc:dm cs i<128)
  (h:∀v H',yf H H'→(if uT first (dm cs i)then∃a c,v= .ref a∧cs[i]? =some c∧H' a=some (.tup [.str ⟨#[c]⟩ 0,.int (i+1:Nat) 0])else v= .none)→Q v H'):
  T2 cY uK w (n+3) (.ref Hd.yH) [.ref x,.bool first] H Q X:=by
 refine Vg bn base rfl fun hC=>?_;simp only[zR];walk_at "w";refine QL (Ay hx) ?_;walk_at "w";refine QL (sN hx) ?_;walk_at "w";refine MD base hl hi fun xO=>?_;walk_at "w";refine QL (sN hx) ?_;walk_at "w";intro a ha IQ;refine YB Hu ?_;walk_at "w";refine wG (beq_false_of_ne h92) ?_;walk_at "w";have g:=yf.refl.new (o:=.tup [.int (dm cs i) 0,.int (i+1) 0,.bool false]) ha
 by_cases q0:dm cs i≥0
 ·obtain⟨c,M4,v9⟩:=EE q0;have O1:c<128:=by lia
  have fin:uT first (dm cs i)=true→∀b,(upd H a (.tup [.int (dm cs i) 0,.int (i+1) 0,.bool false])) b=none→Q (.ref b) (upd (upd H a (.tup [.int (dm cs i) 0,.int (i+1) 0,.bool false])) b (.tup [.str ⟨#[c]⟩ 0,.int (i+1) 0])):=fun r b hb=>by refine h _ _ (g.new hb) ?_;rw[if_pos r];exact⟨b,c,rfl,M4,by rw[Hu];rfl⟩
  have Jn:uT first (dm cs i)=false→Q .none (upd H a (.tup [.int (dm cs i) 0,.int (i+1) 0,.bool false])):=fun r=>by refine h _ _ g ?_;rw[if_neg (by rw[r];decide)]
  walk_at "w";rw[decide_eq_true q0];walk_at "w";unfold uT at fin Jn;rw[decide_eq_true q0,Bool.true_and]at fin Jn;cases first
  ·walk_at "w";refine Ho base hc fun kt=>?_;cases r:JS (dm cs i)
   ·exact Jn r
   ·walk_at "w";rw[v9,Mm O1];walk_at "w";rw[←v9];exact fun b hb zz=>fin r b hb
  ·walk_at "w";refine(Xp (n:=n+1) base hc fun kt=>?_);cases r:isLt (dm cs i)
   ·exact Jn r
   ·walk_at "w";rw[v9,Mm O1];walk_at "w";rw[←v9];exact fun b hb zz=>fin r b hb
 ·rw[show decide (dm cs i≥0)=false from decide_eq_false q0];refine h _ _ g ?_;unfold uT;rw[if_neg (by simp[q0])]
  rfl
theorem En:∀{is:List It},∀c∈XE is,c≠92
 |none::r,c,h=>by
  rcases List.mem_append.mp (show c∈[32]++XE r from h)with q|q
  ·simp at q;lia
  ·exact En c q
 |some t::r,c,h=>by
  rcases List.mem_append.mp (show c∈t.ch++XE r from h)with q|q
  ·have:∀t:Tk,t.ch.all (· != 92)=true:=fun t=>bZ t (by kernel_rfl);simpa using List.all_eq_true.mp (this t) c q
  ·exact En c q
theorem Sg{H:AH}{a:Addr}{vs:List Value}{k:Nat}{u:Value}{t}(h:H a=some (.tup vs))(hu:vs[k]? =some u)(hk:vs.length<1000000):ro H (.ref a) (.int k t)=some u:=ZC (ae h) hu hk
theorem Hy{H:AH}{a:Addr}{vs:List Value}{k:Nat}{u:Value}{t}(h:H a=some (.lst vs))(hu:vs[k]? =some u)(hk:vs.length<1000000):ro H (.ref a) (.int k t)=some u:=ZC (Qj h) hu hk
theorem HN(base:AG cY w){x:Str}(h:Q (.bool (aH.any (· ==x))) H):T2 cY uK w (n+1) (.ref Hd.NU) [.str x 0] H Q X:=by refine Vg oV base rfl fun hC=>?_;simp only[PZ];walk_at "w";rw[iN hC];exact h
noncomputable def jn(s:List Nat):List (List Nat)→List Nat
 | []=>[]
 | [x]=>x
 |x::y::r=>x++s++jn s (y::r)
theorem Tx(s:List Nat)(ls:List (List Nat)):Txt.join (n6 s) (ls.map n6)=n6 (jn s ls):=by
 show Builtin.Str.glued _ _=_;rw[StrLaws.glued_eq_join];have:∀ls:List (List Nat),Str.join (n6 s) (ls.map n6)=n6 (jn s ls):=by
  intro ls
  induction ls with
  |nil=>rfl
  |cons x r ih=>
   cases r with
   |nil=>rfl
   |cons y r=>
    show n6 x++n6 s++Str.join (n6 s) ((y::r).map n6)=_;rw[ih,AS,AS]
    rfl
 exact this ls
theorem Jo(ls:List (List Nat)):jn [] ls=ls.flatten:=by
 induction ls with
 |nil=>rfl
 |cons x r ih=>
  cases r with
  |nil=>simp[jn]
  |cons y r=>rw[jn,ih];simp
theorem Ct(t:Tk)(h:t.kd= .name∨t.kd= .keyword):isLetter (cP t)=true∧t.ch.all B6=true∧aH.any (· ==t.v)=decide (t.kd= .keyword)∧t.v=n6 t.ch∧t.ch.length<20:=by revert h;exact bZ t (by kernel_rfl)
theorem Left.sign{cs i t r}(x:Left cs i (some t::r)){m:Nat}(hm:m<t.ch.length):cs[i+m]? =t.ch[m]? ∧dm cs (i+m)=(t.ch[m]:Nat):=by
 have e:cs[i+m]? =t.ch[m]? :=by
  have:(cs.drop i)[m]? =(t.ch++XE r)[m]? :=by rw[x.txt];rfl
  rw[List.getElem?_drop,List.getElem?_append_left hm]at this;exact this
 exact⟨e,by unfold dm;rw[e,List.getElem?_eq_getElem hm]⟩
theorem Left.behind{cs i t r}(x:Left cs i (some t::r)):Left cs (i+t.ch.length) r∧dm cs (i+t.ch.length)=(match(XE r).head? with|some c=>(c:Int)|none=> -1):=by
 have e:cs.drop (i+t.ch.length)=XE r:=by rw[←List.drop_drop,x.txt,Y4];simp[It.ch]
 have l:=R6T List.length x.txt;rw[Y4,List.length_append,List.length_drop]at l;have l2:t.ch.length≤cs.length-i:=by rw[l];exact B99 _ _
 have a:=x.x6;simp only[Mine.x6,Bool.and_eq_true]at a;have hle:=x.le;refine⟨⟨by lia,e,a.2⟩,?_⟩;unfold dm;rw[mW e, ←List.head?_eq_getElem?]
 try(cases(XE r).head? <;>rfl)
theorem Left.nx{cs i t r}(x:Left cs i (some t::r)):match(XE r).head? with|some c=>CR t c=true|none=>True:=by
 have a:=x.x6;simp only[Mine.x6,Bool.and_eq_true]at a;have:=a.1
 split<;>rename_i e<;>rw[e]at this<;>first|trivial|exact this
noncomputable def SG(c:Nat):Value:=.str ⟨#[c]⟩ 0
theorem OY{l:List Nat}{H:AH}{a:Addr}(h:H a=some (.lst (l.map SG)))(hl:l.length<1000000):MG H "str.join" [.str ("":Str) 0,.ref a]=some (.str (n6 l) 0):=by
 have e1:strsOf (l.map SG)=some (l.map fun c=>(⟨#[c]⟩:Str)):=by
  clear h hl
  induction l with
  |nil=>rfl
  |cons c r ih=>exact R6T (Option.map (⟨#[c]⟩:: ·)) ih
 have e2:Txt.join ("":Str) (l.map fun c=>(⟨#[c]⟩:Str))=n6 l:=by
  have z:("":Str)=n6 []:=by decide +kernel
  have:(l.map fun c=>(⟨#[c]⟩:Str))=(l.map fun c=>[c]).map n6:=by rw[List.map_map];rfl
  rw[z,this,Tx,Jo]
  congr 1
  clear this h e1 hl
  induction l with
  |nil=>rfl
  |cons c r ih=>rw[List.map_cons,List.flatten_cons,ih];rfl
 have e3:((l.map fun c=>(⟨#[c]⟩:Str)).map (·.length)).sum=l.length:=by
  clear h e1 e2 hl
  induction l with
  |nil=>rfl
  |cons c r ih=>simp only[List.map_cons,List.sum_cons,List.length_cons]at ih⊢;rw[ih];simp[Str.length];lia
 rw[rE (Qj h) e1,e2];rw[e3,List.length_map];have:Str.length ("":Str)=0:=by decide +kernel
 rw[this];lia
theorem rm{r:List It}{c:Nat}(h:(XE r).head? =some c):c<128:=Aj c (List.mem_of_head? h)
def Od(cs:List Nat)(n j:Nat)(m:Nat)(H':AH)(u:Value):Prop:=if m<n then∃a c,u= .ref a∧cs[j]? =some c∧H' a=some (.tup [SG c,.int (j+1:Nat) 0])else u= .none
def PG(H:AH)(x tk f d:Addr)(cs:List Nat)(i:Nat)(t:Tk)(ot:AO)(k:Nat)(fr:dD)(H':AH):Prop:=∃m u,m≤t.ch.length∧k=t.ch.length-m∧fr= [some (.ref x),some (.ref tk),some (.ref f),some u]∧(∀a o,H a=some o→a≠x→a≠tk→H' a=some o)∧H' x=some (.inst Hd.ic d (B0 cs (i+m)))∧H' tk=some ot∧
 H' f=some (.lst ((t.ch.take m).map SG))∧Od cs t.ch.length (i+m) m H' u
section
variable{H':AH}{x tk f d:Addr}{cs:List Nat}{i m k:Nat}{t:Tk}{ot:AO}{u:Value}{fr:dD}
theorem PG.mk(h1:m≤t.ch.length)(h2:∀a o,H a=some o→a≠x→a≠tk→H' a=some o)(h3:H' x=some (.inst Hd.ic d (B0 cs (i+m))))(h4:H' tk=some ot)(h5:H' f=some (.lst ((t.ch.take m).map SG)))(h6:Od cs t.ch.length (i+m) m H' u):
  PG H x tk f d cs i t ot (t.ch.length-m) [some (.ref x),some (.ref tk),some (.ref f),some u] H':=⟨m,u,h1,rfl,rfl,h2,h3,h4,h5,h6⟩
@[elab_as_elim]theorem PG.el{C:Nat→dD→Prop}(h:PG H x tk f d cs i t ot k fr H')(g:∀m u,m≤t.ch.length→(∀a o,H a=some o→a≠x→a≠tk→H' a=some o)→H' x=some (.inst Hd.ic d (B0 cs (i+m)))→H' tk=some ot→H' f=some (.lst ((t.ch.take m).map SG))→Od cs t.ch.length (i+m) m H' u→
  C (t.ch.length-m) [some (.ref x),some (.ref tk),some (.ref f),some u]):C k fr:=by
 obtain⟨m,u,h1,rfl,rfl,h2,h3,h4,h5,h6⟩:=h;exact g m u h1 h2 h3 h4 h5 h6
end
theorem Fw(base:AG cY w){x d tk dt:Addr}{cs:List Nat}{i:Nat}{t:Tk}{r:List It}{M2 VF l b s e:Value}(hx:H x=some (.inst Hd.ic d (B0 cs i)))(ht:H tk=some (.inst Hd.VE dt (Y0 M2 VF l b s e (.bool false) (.bool true))))
  (Vl:tk≠x) (hl:cs.length<1000000) (lf:Left cs i (some t::r)) (hw:t.kd= .name∨t.kd= .keyword)
  (h:∀v' H',(∀a o,H a=some o→a≠x→a≠tk→H' a=some o)→H' x=some (.inst Hd.ic d (B0 cs (i+t.ch.length)))→H' tk=some (.inst Hd.VE dt (Y0 (.str t.kd.s 0) (.str t.v 0) l b s e (.bool false) (.bool true)))→Q v' H'):
  T2 cY uK w (n+4) (.ref Hd.NB) [.ref x,.ref tk] H Q X:=by
 obtain⟨w1,w2,w3,w4,w5⟩:=Ct t hw;have sgn:∀m(hm:m<t.ch.length),cs[i+m]? =some t.ch[m]∧dm cs (i+m)=(t.ch[m]:Nat)∧B6 t.ch[m]=true∧t.ch[m]<128∧t.ch[m]≠92:=fun m hm=>by obtain⟨a,b⟩:=lf.sign hm;have mem:t.ch[m]∈t.ch:=List.getElem_mem hm;have p:=List.all_eq_true.mp w2 _ mem;refine⟨by rw[a,List.getElem?_eq_getElem hm],b,p,Aj (is:=[some t]) _ (by simpa[XE,It.ch]using mem),fun q=>?_⟩;rw[q]at p;exact absurd p (by decide)
 obtain⟨lf2,ly⟩:=lf.behind;have last:dm cs (i+t.ch.length)<128∧dm cs (i+t.ch.length)≠92∧uT false (dm cs (i+t.ch.length))=false:=by
  have nx:=lf.nx;rw[ly];cases q:(XE r).head? with
  |none=>exact⟨by decide,by decide,by decide +kernel⟩
  |some c=>
   rw[q]at nx;have p:B6 c=false:=by unfold CR at nx;rcases hw with hw|hw<;>rw[hw]at nx<;>simpa using nx
   have c1:=rm q;have c2:=En c (List.mem_of_head? q);refine⟨show(c:Int)<128 by lia,fun z=>?_,?_⟩
   ·have z:(c:Int)=92:=z;lia
   ·unfold uT;rw[if_neg (by decide),zE,p,Bool.and_false]
 refine Vg YJ base rfl fun hC=>?_;simp only[l5];walk_at "w";intro f hf xO;have GG:f≠x:=fun q=>by rw[q,hx]at hf;cases hf
 have yw:f≠tk:=fun q=>by rw[q,ht]at hf;cases hf
 have yq:upd H f (.lst []) x=some (.inst Hd.ic d (B0 cs i)):=by rw[CH (Ne.symm GG)];exact hx
 refine⟨⟨x,d,_,rfl,yq⟩,?_⟩;have s0:=sgn 0 (by rw[Fo];simp);rw[Nat.add_zero]at s0;refine OV base yq hl lf.le (by rw[s0.2.1];have:=s0.2.2.2.2;lia) (by rw[s0.2.1];have:=s0.2.2.2.1;lia) fun v Dw d0 p₁ IQ=>?_;intro a ha kt;refine gX Hu ?_;walk_at "w";have TM:=d0.new (o:=.tup [.ref f,v]) ha;refine⟨PG H x tk f d cs i t (.inst Hd.VE dt (Y0 M2 VF l b s e (.bool false) (.bool true))),?_,?_⟩
 ·refine⟨_,.mk (m:=0) (V7h _) (fun b o e zz zz=>TM b o (by rw[CH (fun q=>by rw[q,hf]at e;cases e)];exact e)) (TM _ _ yq) (TM _ _ (by rw[CH (Ne.symm yw)];exact ht)) (TM _ _ Hu) ?_⟩;unfold Od;have hr:uT true (dm cs i)=true:=by
   unfold uT;rw[s0.2.1,if_pos rfl,BS];have this:t.ch[0]'(by rw[Fo];simp)=cP t:=by have z:t.ch[0]? =some (cP t):=bZ t (by kernel_rfl);rw[List.getElem?_eq_getElem (by rw[Fo];simp)]at z;exact Y1l z
   rw[this,w1];simp
  rw[if_pos hr]at p₁;obtain⟨a',c,rfl,h1,h2⟩:=p₁;rw[if_pos (by rw[Fo];simp)];exact⟨a',c,rfl,h1,yf.refl.new ha _ _ h2⟩
 ·intro k fr H' hJ;refine PG.el hJ fun m u hm g aM Oy zC hu=>?_;clear hJ;unfold Od at hu
  by_cases q:m<t.ch.length
  ·rw[if_pos q]at hu;obtain⟨a',c,rfl,M4,cq⟩:=hu;obtain⟨z1,z2,z3,z4,z5⟩:=sgn m q;rw[z1]at M4;cases M4;have e1:ro H' (.ref a') (.int 1 0)=some (.int (i+m+1:Nat) 0):=Sg (k:=1) cq rfl (by simp);have e0:ro H' (.ref a') (.int 0 0)=some (SG t.ch[m]):=Sg (k:=0) cq rfl (by simp);have naf:a'≠f:=fun z=>by rw[z,zC]at cq;cases cq
   have nax:a'≠x:=fun z=>by rw[z,aM]at cq;cases cq
   walk_at "w";refine QL (e1) ?_;walk_at "w";refine QL (sN aM) ?_;walk_at "w";rw[show decide (((i+m+1:Nat):Int)>((i+m:Nat):Int)+1)=false from decide_eq_false (by lia)];walk_at "w";refine⟨⟨f,_,rfl,zC⟩,?_⟩;refine QL (e0) ?_;walk_at "w";refine⟨f,_,_,rfl,zC,by simp;lia,rfl,?_⟩;have e1':ro (upd H' f (.lst ((t.ch.take m).map SG++[SG t.ch[m]]))) (.ref a') (.int 1 0)=some (.int (i+m+1:Nat) 0):=Sg (k:=1) (by rw[CH naf];exact cq) rfl (by simp);refine QL (e1') ?_;walk_at "w";have Dz:upd H' f (.lst ((t.ch.take m).map SG++[SG t.ch[m]])) x=some (.inst Hd.ic d (B0 cs (i+m))):=by rw[CH (Ne.symm GG)];exact aM
   rw[IU Dz];walk_at "w";refine⟨⟨x,d,_,rfl,Hu⟩,?_⟩;have step:dm cs (i+m+1)<128∧dm cs (i+m+1)≠92∧i+m+1≤cs.length∧(uT false (dm cs (i+m+1))=decide (m+1<t.ch.length)):=by
    by_cases q2:m+1<t.ch.length
    ·obtain⟨y1,y2,y3,y4,y5⟩:=sgn (m+1) q2;rw[←Nat.add_assoc]at y1 y2;refine⟨by rw[y2];lia,by rw[y2];lia,Nat.le_of_lt (List.getElem?_eq_some_iff.mp y1).1,?_⟩;unfold uT;rw[y2,if_neg (by decide),zE,y3];simp[q2]
    ·have q3:m+1=t.ch.length:=by lia
     rw[Nat.add_assoc,q3];exact⟨last.1,last.2.1,lf2.le,by rw[last.2.2];simp⟩
   refine OV base Hu hl step.2.2.1 step.2.1 step.1 fun Bk Dw d0 p₁ IQ=>?_;have Ln:tk≠x:=Vl;refine⟨t.ch.length-(m+1),Nat.sub_lt_sub_left q (K7i m),.mk q (fun b o e nb nt=>d0 b o ?_) (d0 _ _ Hu) (d0 _ _ ?_) (d0 _ _ ?_) ?_⟩
   ·rw[CH nb,CH (fun z=>by rw[z,hf]at e;cases e)];exact g b o e nb nt
   ·rw[CH Ln,CH (Ne.symm yw)];exact Oy
   ·rw[CH GG,Hu,List.take_succ_eq_append_getElem q,List.map_append];rfl
   ·unfold Od;rw[step.2.2.2]at p₁
    by_cases q2:m+1<t.ch.length
    ·rw[if_pos q2];rw[if_pos (by simpa using q2)]at p₁;exact p₁
    ·rw[if_neg q2];rw[if_neg (by simpa using q2)]at p₁;exact p₁
  ·rw[if_neg q]at hu;have q3:m=t.ch.length:=by lia
   subst q3 hu;walk_at "w";refine⟨⟨_,rfl⟩,?_⟩;rw[List.take_length]at zC;refine QL (OY zC (by lia)) ?_;walk_at "w";refine mR Oy (QL (UC Hu pM (u:=.str (n6 t.ch) 0) rfl (fun zz q=>by cases q)) ?_);walk_at "w";refine HN base fun vv=>?_;rw[←w4,w3];have fin:∀kk,kk=t.kd.s→Q .none (upd H' tk (.inst Hd.VE dt (Y0 (.str kk 0) (.str t.v 0) l b s e (.bool false) (.bool true)))):=fun _ z=>by cases z;exact h _ _ (fun b o e nb nt=>(CH nt).trans (g b o e nb nt)) ((CH (Ne.symm Vl)).trans aM) Hu
   rcases hw with hw|hw
   ·rw[hw,show decide (Kd.name=Kd.keyword)=false from rfl];walk_at "w";exact Be (fin _ (by rw[hw];rfl))
   ·rw[hw,show decide (Kd.keyword=Kd.keyword)=true from rfl];walk_at "w";exact Be (fin _ (by rw[hw];rfl))
theorem Gm:(G8.map (·.1))=eQ.map n6:=by decide +kernel
theorem Tb.Sb(tb:Tb)(x:Str):(tb.get x).isSome=(tb.map (·.1)).any (· ==x):=by
 unfold Tb.get;rw[Option.isSome_map]
 induction tb with
 |nil=>rfl
 |cons p r ih=>
  rw[List.find?_cons,List.map_cons,List.any_cons];cases h:p.1==x
  ·simpa using ih
  ·rfl
theorem MK(l:List Nat):(G8.get (n6 l)).isSome=eQ.contains l:=by
 rw[Tb.Sb,Gm,List.any_map,List.contains_eq_any_beq]
 congr 1
 funext p
 show(n6 p==n6 l)=(l==p);rw[Bool.eq_iff_iff];simp only[beq_iff_eq,VR];exact eq_comm
theorem D8{l:List Nat}{t}(hC:zQ H):Et H .In (.str (n6 l) t) (.ref Hd.ZS)=some (eQ.contains l):=by rw[Ko hC (by simp[mQ]) (by kernel_rfl) J9,MK]
theorem qn(t:Tk)(h:t.kd= .SK):eQ.contains t.ch=true∧t.v=n6 t.ch∧1≤t.ch.length∧t.ch.length≤2:=by revert h;exact bZ t (by kernel_rfl)
theorem OP{t:Tk}{c:Nat}{l:List Nat}(hk:t.kd= .SK)(h:CR t c=true)(hp:(t.ch++[c]).isPrefixOf l=true):eQ.contains l=false:=by unfold CR at h;rw[hk]at h;rw[Bool.eq_false_iff];intro q;have:=List.all_eq_true.mp h l (by simpa using q);rw[hp]at this;cases this
theorem Left.Vz{cs i t r}(x:Left cs i (some t::r)){k:Nat}(hk:t.ch.length≤k):(cs.drop i).take k=t.ch++(XE r).take (k-t.ch.length):=by rw[x.txt,Y4];show(t.ch++XE r).take k=_;rw[List.take_append,List.take_of_length_le hk]
theorem cC(base:AG cY w){cs:List Nat}{i:Nat}{t:Tk}{r:List It}(hl:cs.length<1000000)(lf:Left cs i (some t::r))(hw:t.kd= .SK)
  (h:∀H',yf H H'→Q (.str t.v 0) H'):T2 cY uK w (n+1) (.ref Hd.rJ) [.str (n6 cs) 0,.int i 0] H Q X:=by
 obtain⟨p1,p2,p3,p4⟩:=qn t hw;refine Vg yS base rfl fun hC=>?_;simp only[n4];walk_at "w";intro a ha xO;have g:=yf.refl.new (o:=.tup [.int 4 0,.int 3 0,.int 2 0,.int 1 0]) ha;refine⟨2,[.int 4 0,.int 3 0,.int 2 0,.int 1 0],QY i6,fun k fr H'=>H'=upd H a (.tup [.int 4 0,.int 3 0,.int 2 0,.int 1 0])∧k+t.ch.length≤4∧∃u v,fr= [some (.str (n6 cs) 0),some (.int i 0),u,v],⟨rfl,by lia,none,none,rfl⟩,?_,?_,?_⟩
 ·rintro k fr H' ⟨rfl,_⟩;exact QY i6
 ·rintro k x fr H' hx ⟨rfl,hk,u,v,rfl⟩;have aM:x= .int (4-k:Nat) 0:=by
   rcases k with _|_|_|_|k<;>simp at hx<;>first|(rw[←hx];rfl)|lia
  subst aM;walk_at "w";have hs:Cb (.str (n6 cs) 0) (.int i 0) (.int ((i:Int)+((4-k:Nat):Int)) 0)=some (.str (n6 ((cs.drop i).take (4-k))) 0):=by
   refine Jc rfl rfl (by rw[Q8];lia) ?_;rw[show(i:Int)+((4-k:Nat):Int)=((i+(4-k):Nat):Int)by lia,z9 (by lia) lf.le]
   congr 2
   lia
  refine QL (hs) ?_;walk_at "w";rw[lf.Vz (by lia),D8 xO];have nx:=lf.nx;cases q:XE r with
  |nil=>
   rw[List.take_nil,List.append_nil,p1];walk_at "w";rw[←p2];exact h _ g
  |cons c rest=>
   rw[q]at nx;have nx:CR t c=true:=nx
   by_cases q2:4-k-t.ch.length=0
   ·rw[q2,List.take_zero,List.append_nil,p1];walk_at "w";rw[←p2];exact h _ g
   ·rw[OP hw nx (l:=t.ch++(c::rest).take (4-k-t.ch.length)) (by
     obtain⟨m,hm⟩:=Nat.exists_eq_succ_of_ne_zero q2;rw[hm,List.take_succ_cons];rw[List.isPrefixOf_iff_prefix];exact⟨rest.take m,by simp⟩)]
    walk_at "w";exact⟨by lia,_,_,rfl⟩
 ·rintro fr H' ⟨rfl,hk,_⟩;simp at hk;lia
theorem si{l:List Nat}{t}{H:AH}(h:l.length<1000000):MG H "len" [.str (n6 l) t]=some (.int l.length 0):=by rw[Ao (by rw[Q8];lia),Q8]
theorem RK(base:AG cY w){x d tk dt:Addr}{cs:List Nat}{i:Nat}{t:Tk}{r:List It}{M2 VF l b s e:Value}(hx:H x=some (.inst Hd.ic d (B0 cs i)))(ht:H tk=some (.inst Hd.VE dt (Y0 M2 VF l b s e (.bool false) (.bool true))))
  (Vl:tk≠x) (hl:cs.length<1000000) (lf:Left cs i (some t::r)) (hw:t.kd= .SK)
  (h:∀v' H',(∀a o,H a=some o→a≠x→a≠tk→H' a=some o)→H' x=some (.inst Hd.ic d (B0 cs (i+t.ch.length)))→H' tk=some (.inst Hd.VE dt (Y0 (.str t.kd.s 0) (.str t.v 0) l b s e (.bool false) (.bool true)))→Q v' H'):
  T2 cY uK w (n+4) (.ref Hd.VL) [.ref x,.ref tk] H Q X:=by
 obtain⟨p1,p2,p3,p4⟩:=qn t hw;refine Vg rh base rfl fun hC=>?_;simp only[IM];walk_at "w";refine QL (Ay hx) ?_;walk_at "w";refine QL (sN hx) ?_;walk_at "w";refine cC base hl lf hw fun Dw g xO=>?_;walk_at "w";rw[be];walk_at "w";refine QG (g _ _ ht) ?_;refine kh ?_;refine QL (sN ((CH (Ne.symm Vl)).trans (g _ _ hx))) ?_;walk_at "w";rw[p2];refine QL (si (Nat.lt_of_le_of_lt (z2n (Nat.le_add_left _ _) lf.behind.1.le) hl)) ?_;walk_at "w";refine lv (j:=i+t.ch.length) ((CH (Ne.symm Vl)).trans (g _ _ hx)) ?_;refine h _ _ (fun a o e na nt=>(CH na).trans ((CH nt).trans (g _ _ e))) Hu ?_;rw[CH Vl,Hu,hw,p2]
 rfl
theorem Ib(base:AG cY w){x d tk dt:Addr}{cs:List Nat}{i:Nat}{r:List It}{M2 VF l b s e:Value}(hx:H x=some (.inst Hd.ic d (B0 cs i)))(ht:H tk=some (.inst Hd.VE dt (Y0 M2 VF l b s e (.bool false) (.bool true))))
  (Vl:tk≠x) (hl:cs.length<1000000) (lf:Left cs i (some .str::r))
  (h:∀v' H',(∀a o,H a=some o→a≠x→a≠tk→H' a=some o)→H' x=some (.inst Hd.ic d (B0 cs (i+3)))→H' tk=some (.inst Hd.VE dt (Y0 (.str Kd.text.s 0) (.str Tk.str.v 0) l b s e (.bool false) (.bool true)))→Q v' H'):
  T2 cY uK w (n+4) (.ref Hd.Xb) [.ref x,.ref tk,.int 34 0] H Q X:=by
 obtain⟨a1,b1⟩:=lf.sign (m:=1) (by decide);obtain⟨a2,b2⟩:=lf.sign (m:=2) (by decide);obtain⟨vx,_⟩:=lf.behind;have hle:i+3≤cs.length:=vx.le;refine Vg zA base rfl fun hC=>?_;simp only[eK];walk_at "w";refine QG ht ?_;intro f hf xO;have T6:H f=none:=aP hf;have GG:f≠x:=Ne.symm (gQ T6 hx);have yw:f≠tk:=Ne.symm (gQ T6 ht);have yq:=(CH (o:=.lst []) (Ne.symm GG)).trans ((CH (o:=.inst Hd.VE dt (Y0 (.str ("text":Str) 0) VF l b s e (.bool false) (.bool true))) (Ne.symm Vl)).trans hx);refine QL (sN yq) ?_;walk_at "w";refine lv (j:=i+1) yq ?_;refine⟨fun k fr H'=>k≤1∧∃u,fr= [some (.ref x),some (.ref tk),some (.int 34 0),some (.ref f),u]∧(∀a o,H a=some o→a≠x→a≠tk→H' a=some o)∧H' x=some (.inst Hd.ic d (B0 cs (i+2-k)))∧
  H' tk=some (.inst Hd.VE dt (Y0 (.str Kd.text.s 0) VF l b s e (.bool false) (.bool true)))∧H' f=some (.lst ([[],[115]][1-k]!.map SG)),⟨1,g61 _,none,rfl,fun a o e na nt=>(CH na).trans ((CH (gQ T6 e)).trans ((CH nt).trans e)),Hu,
   (CH Vl).trans ((CH (Ne.symm yw)).trans Hu),(CH GG).trans Hu⟩,?_⟩
 ·rintro k fr H' ⟨hk,u,rfl,g,aM,Oy,zC⟩;rcases k with _|_|k
  ·have aM:H' x=some (.inst Hd.ic d (B0 cs (i+2))):=aM;have hc:dm cs (i+2)=34:=b2;walk_at "w";refine QL (Ay aM) ?_;walk_at "w";refine QL (sN aM) ?_;walk_at "w";refine MD base hl (by lia) fun IQ=>?_;rw[hc];walk_at "w";rw[show((34:Int) != 34)=false from rfl];walk_at "w";refine QL (sN aM) ?_;walk_at "w";refine lv (j:=i+3) aM ?_;refine⟨⟨_,rfl⟩,?_⟩;refine QL (OY (l:=[115]) ((CH GG).trans zC) (Pn rfl)) ?_;walk_at "w";refine mR ((CH Vl).trans Oy) ?_;refine h _ _ (fun a o e na nt=>(CH nt).trans ((CH na).trans (g a o e na nt))) ((CH (Ne.symm Vl)).trans Hu) ?_;rw[Hu,show Tk.str.v=n6 [115]by decide +kernel]
  ·have aM:H' x=some (.inst Hd.ic d (B0 cs (i+1))):=aM;have hc:dm cs (i+1)=115:=b1;walk_at "w";refine QL (Ay aM) ?_;walk_at "w";refine QL (sN aM) ?_;walk_at "w";refine MD base hl (by lia) fun IQ=>?_;rw[hc];walk_at "w";rw[show((115:Int) != 34)=true from rfl];walk_at "w";refine QL (Ay aM) ?_;walk_at "w";refine QL (sN aM) ?_;walk_at "w";refine MD base hl (by lia) fun kt=>?_;rw[hc];walk_at "w";rw[show decide ((115:Int)<0)=false from rfl];walk_at "w";refine B5 base fun vX=>?_;rw[show OU.any (· ==(115:Int))=false by decide +kernel];walk_at "w";rw[show((115:Int)==92)=false from rfl];walk_at "w";refine⟨⟨f,_,rfl,zC⟩,?_⟩;refine QL (Ay aM) ?_;walk_at "w";refine QL (sN aM) ?_;walk_at "w";refine QL (kg (c:=115) (by rw[a1];rfl) hl) ?_;walk_at "w";refine⟨f,_,_,rfl,zC,Pn rfl,rfl,?_⟩;have Dz:=(CH (o:=.lst [SG 115]) (Ne.symm GG)).trans aM;refine QL (sN Dz) ?_;walk_at "w";refine lv (j:=i+2) Dz ?_;exact⟨0,Nat.zero_lt_succ _,V7h _,_,rfl,fun a o e na nt=>(CH na).trans ((CH (gQ T6 e)).trans (g a o e na nt)),Hu,(CH Vl).trans ((CH (Ne.symm yw)).trans Oy),(CH GG).trans Hu⟩
  ·exact absurd (Nat.le_of_succ_le_succ hk) (Nat.not_succ_le_zero _)
theorem bX:∀{is:List It},∀c∈XE is,LU (c:Int)=false
 |none::r,c,h=>by
  rcases List.mem_append.mp (show c∈[32]++XE r from h)with q|q
  ·simp at q;subst q;decide +kernel
  ·exact bX c q
 |some t::r,c,h=>by
  rcases List.mem_append.mp (show c∈t.ch++XE r from h)with q|q
  ·have:∀t:Tk,t.ch.all (fun c=>LU (c:Int)==false)=true:=fun t=>bZ t (by kernel_rfl);simpa using List.all_eq_true.mp (this t) c q
  ·exact bX c q
theorem cy{cs i is}(lf:Left cs i is){j:Nat}(h:i≤j):LU (dm cs j)=false:=by
 unfold dm;cases e:cs[j]? with
 |none=>decide +kernel
 |some c=>
  refine bX (is:=is) c ?_;rw[←lf.txt];refine C3D (i:=j-i) ?_;rw[List.getElem?_drop,show i+(j-i)=j by lia,e]
def uf(H:AH)(tk:Addr)(o:Option Tk):Prop:=∃d st en,H tk=some (.inst Hd.VE d (Y0 (.str (CM o).s 0) (.str (vO o) 0) (.int 1 0) (.bool false) st en (.bool false) (.bool true)))
theorem cQ:∀is:List It,toks (bE is)=toks is
 | []=>rfl
 |none::r=>by rw[bE,cQ r];rfl
 |some t::r=>rfl
theorem Td:∀(is r:List It),bE is≠none::r
 | [],_,h=>by cases h
 |none::is,r,h=>Td is r h
 |some _::_,_,h=>by cases h
theorem tR(t:Tk)(h:t.kd= .name∨t.kd= .keyword):isLt (cP t:Int)=true:=by rw[BS];exact(Ct t h).1
theorem Tt(t:Tk)(h:t.kd= .text):t= .str:=by revert h;exact bZ t (by kernel_rfl)
theorem aE(t:Tk)(h:t.kd= .SK):isLt (cP t:Int)=false∧cP t≠34∧cP t≠39:=by revert h;exact bZ t (by kernel_rfl)
theorem xg{P:AH→Prop}{x a tk:Addr}{o1 o2 o3:AO}(ha:H a=none)(ht:H tk=none)(nx:x≠a)(nt:x≠tk)(g:∀G,(∀b o,H b=some o→b≠x→G b=some o)→G x=some o1→G tk=some o3→P G):P (upd (upd (upd H x o1) a o2) tk o3):=
 g _ (fun _ _ e nb=>(CH (gQ ht e)).trans ((CH (gQ ha e)).trans ((CH nb).trans e))) ((CH nt).trans ((CH nx).trans Hu)) Hu
theorem Wm{fr:dD}{tk x d dt:Addr}{cs:List Nat}{j:Nat}{k v l b s e o p:Value}(h4:(fr[4]?).join=some (.ref tk))(h0:(fr[0]?).join=some (.ref x))(hx:H x=some (.inst Hd.ic d (B0 cs j)))(ht:H tk=some (.inst Hd.VE dt (Y0 k v l b s e o p)))
  (g:Q (.ref tk) (upd H tk (.inst Hd.VE dt (Y0 k v l b s (.int j 0) o p)))):wpS cY uK w n X (.RY (.loc 4) .stop (.gZ (.loc 0) .at) (.ret (.loc 4))) (Oh Q) fr H:=
 QL h0 (QL (sN hx) (QL h4 (Ni (iF ht pM (J1O rfl)) (QL h4 g))))
theorem L5(base:AG cY w){x d:Addr}{cs:List Nat}{i:Nat}{its:List It}(hx:H x=some (.inst Hd.ic d (B0 cs i)))(hl:cs.length<1000000)(hr:Left cs i its)
  (h:∀tk H' j r,(∀a o,H a=some o→a≠x→H' a=some o)→H tk=none→H' x=some (.inst Hd.ic d (B0 cs j))→Left cs j r→toks r=(toks its).tail→uf H' tk (toks its).head? →Q (.ref tk) H'):
  T2 cY uK w (n+5) (.ref Hd.C0) [.ref x] H Q X:=by
 refine Vg vS base rfl fun hC=>?_;delta mh;walk_at "w";refine⟨⟨x,d,_,rfl,hx⟩,?_⟩;refine Nd base hx hl hr fun j lf xO=>?_;walk_at "w";refine QL (sN Hu) ?_;walk_at "w";refine QL (Ay Hu) ?_;walk_at "w";refine QL (sN Hu) ?_;walk_at "w";refine MD base hl lf.le fun IQ=>?_;intro a ha kt;have XK:x≠a:=gQ ha Hu;refine gX Hu ?_;walk_at "w";refine QL (uD ((CH XK).trans Hu)) ?_;walk_at "w";refine VO base fun tk dt KR vX=>?_;have Og:x≠tk:=gQ KR ((CH XK).trans Hu);have TH:H tk=none:=aP (aP KR);refine xg (aP ha) TH XK Og fun G gr Dz de=>?_;clear xO IQ kt vX ha KR;rcases hD:bE its with _|⟨_|t,r⟩
 ·rw[hD]at lf;have e1:=lf.end.1;have aw:toks its= []:=by rw[←cQ,hD];rfl
  walk_at "w";refine nZ (by rw[e1];rfl) ?_;refine h tk _ j [] gr TH Dz lf (by rw[aw];rfl) ?_;rw[aw];exact⟨dt,_,_,de⟩
 ·exact absurd hD (Td _ _)
 ·rw[hD]at lf;obtain⟨e1,e2,e3⟩:=lf.tok;have aw:toks its=t::toks r:=by rw[←cQ,hD];rfl
  obtain⟨c1,c2,c3,c4,c5⟩:=wg t;have fin:∀u v fr H',(∀b o,G b=some o→b≠x→b≠tk→H' b=some o)→H' x=some (.inst Hd.ic d (B0 cs (j+t.ch.length)))→
    H' tk=some (.inst Hd.VE dt (Y0 (.str t.kd.s 0) (.str t.v 0) (.int 1 0) (.bool false) (.int j 0) (.int j 0) (.bool false) (.bool true)))→wpS cY uK w (n+4) X (.RY (.loc 4) .stop (.gZ (.loc 0) .at) (.ret (.loc 4))) (Oh Q) (some (.ref x)::u::v::fr::[some (.ref tk)]) H':=fun u v fr H' g aM Oy=>
   Wm rfl rfl aM Oy (h tk _ _ r (fun b o e nb=>(CH (gQ TH e)).trans (g b o (gr b o e nb) nb (gQ TH e))) TH ((CH Og).trans aM) lf.behind.1 (by rw[aw];rfl) (by rw[aw];exact⟨dt,_,_,Hu⟩))
  have Oo:LU (cP t:Int)=false:=bX (is:=[some t]) _ (by show cP t∈t.ch++[];rw[Fo];exact .head _);have KI:SU G (.ref x) Hd.ic:=⟨x,d,_,rfl,Dz⟩;rw[e1];walk_at "w";refine wG (decide_eq_false (by lia)) ?_;walk_at "w";refine Xp base (by lia) fun _=>?_;cases hk:t.kd with
  |stop=>exact absurd hk (bZ t (by kernel_rfl))
  |name=>
   refine HR (tR t (.inl hk)) ?_;walk_at "w";exact⟨KI,Fw base Dz de (Ne.symm Og) hl lf (.inl hk) fun v' H' g aM Oy zz=>fin _ _ _ _ g aM Oy⟩
  |keyword=>
   refine HR (tR t (.inr hk)) ?_;walk_at "w";exact⟨KI,Fw base Dz de (Ne.symm Og) hl lf (.inr hk) fun v' H' g aM Oy zz=>fin _ _ _ _ g aM Oy⟩
  |text=>
   cases Tt t hk;refine Oe (by decide +kernel) ?_;walk_at "w";refine wG (by decide +kernel) ?_;walk_at "w";refine cj base fun _=>Oe Oo ?_;walk_at "w";refine UU (by decide +kernel) ?_;walk_at "w";refine HR (by decide +kernel) ?_;walk_at "w";exact⟨KI,Ib base Dz de (Ne.symm Og) hl lf fun v' H' g aM Oy zz=>fin _ _ _ _ g aM Oy⟩
  |SK=>
   obtain⟨k1,k2,k3⟩:=aE t hk;refine Oe k1 ?_;walk_at "w";refine wG (beq_false_of_ne (by lia)) ?_;walk_at "w";refine cj base fun _=>Oe Oo ?_;walk_at "w";have go:DQ false (Kc cY uK w (n+4) X false (.cons (.cmp .Eq (.loc 3) (.cst (.int 39 0))) .nil)) (BB (wpS cY uK w (n+4) X (.expr (.Df (.loc 0) (.own Hd.ic Hd.Xb) (.cons (.loc 4) (.cons (.loc 3) .nil))) .nil)) (wpS cY uK w (n+4) X (.expr (.Df (.loc 0) (.own Hd.ic Hd.VL) (.cons (.loc 4) .nil)) .nil)) (wpS cY uK w (n+4) X .nil) (HI (wpS cY uK w (n+4) X .nil) (HI (wpS cY uK w (n+4) X .nil) (HI (wpS cY uK w (n+4) X (.RY (.loc 4) .stop (.gZ (.loc 0) .at) (.ret (.loc 4)))) (Oh Q))))) (.bool ((cP t:Int)==34)) [some (.ref x),some (.bool false),some (.int j 0),some (.int (cP t:Int) 0),some (.ref tk)] G:=by refine Oe (beq_false_of_ne (by lia)) ?_;walk_at "w";refine wG (beq_false_of_ne (by lia)) ?_;walk_at "w";exact⟨KI,RK base Dz de (Ne.symm Og) hl lf hk fun v' H' g aM Oy zz=>fin _ _ _ _ g aM Oy⟩
   by_cases q:cP t=46
   ·refine zi (by rw[q];rfl) ?_;walk_at "w";refine QL (Ay Dz) ?_;walk_at "w";refine MD (i:=j+1) base hl e3 fun _=>?_;walk_at "w";refine cj base fun _=>?_;refine wG (cy lf (Nat.le_succ j)) ?_;walk_at "w";exact go
   ·refine UU (beq_false_of_ne (by lia)) ?_;walk_at "w";exact go
end
end
section
section
variable{cY:Heap}{uK:OsState}{w:World}{n:Nat}{X:AH→Prop}{H H0:AH}{Q:Value→AH→Prop}
noncomputable def Ex(x tk:Addr)(nest:Nat)(j pe:Value):List (Fn×Value):=[(.So,.ref x),(.token,.ref tk),(.later,.none),(.strict,.bool false),(.depth,.int 0 0),(.nested,.int nest 0),(.nl,j),(.pending,pe)]
structure PB(H:AH)(p x:Addr)(cs:List Nat)(ts:List Tk)(nest:Nat)(dp tk:Addr)(j pe:Value)(dx:Addr)(i:Nat)(its:List It):Prop where
 par:H p=some (.inst Hd.Mg dp (Ex x tk nest j pe))
 lex:H x=some (.inst Hd.ic dx (B0 cs i))
 tok:uf H tk ts.head?
 left:Left cs i its
 rest:toks its=ts.tail
def Ae(H:AH)(p x:Addr)(cs:List Nat)(ts:List Tk)(nest:Nat):Prop:=∃dp tk j pe dx i its,PB H p x cs ts nest dp tk j pe dx i its
set_option genSizeOf false in
set_option genInjectivity false in
structure Pz where
 p:Addr
 x:Addr
 cs:List Nat
 hl:cs.length<9000
structure Ps(z:Pz)(H0 H:AH)(ts:List Tk)(nest:Nat):Prop where
 st:Ae H z.p z.x z.cs ts nest
 ext:Ext H0 H
noncomputable def au(H:AH)(p:Addr):Value:=(Ij H (.ref p) .token).getD .none
def Wz(H:AH)(v:Value)(o:Option Tk):Prop:=∃a,v= .ref a∧uf H a o
theorem Pz.sm(z:Pz):z.cs.length<1000000:=Nat.lt_trans z.hl (by decide)
section
variable{p x dp tk dx:Addr}{cs:List Nat}{ts:List Tk}{nest i:Nat}{j pe:Value}{its:List It}
theorem Ae.el{H:AH}{G:Prop}(h:Ae H p x cs ts nest)(k:∀dp tk j pe dx i its,PB H p x cs ts nest dp tk j pe dx i its→G):G:=let⟨_,_,_,_,_,_,_,h⟩:=h;k _ _ _ _ _ _ _ h
theorem PB.st{H:AH}(h:PB H p x cs ts nest dp tk j pe dx i its):Ae H p x cs ts nest:=⟨_,_,_,_,_,_,_,h⟩
end
section
variable{z:Pz}{ts:List Tk}{nest i:Nat}{v u:Value}{o:Option Tk}{p:Addr}{s:Str}
theorem sK{u:Value}(h:(u.ctorIdx==(Value.builtin "").ctorIdx)=false):∀i,u≠ .builtin i:=fun i e=>by subst e;exact absurd h (by simp[Value.ctorIdx])
theorem Wz.at{f:Fn}(h:Wz H v o)(e:∀st en,ee f (Y0 (.str (CM o).s 0) (.str (vO o) 0) (.int 1 0) (.bool false) st en (.bool false) (.bool true))=some u)(hb:∀i,u≠ .builtin i):Ij H v f=some u:=by obtain⟨a,rfl,d,st,en,q⟩:=h;exact UC q pM (e st en) hb
theorem Wz.kind(h:Wz H v o):Ij H v .kind=some (.str (CM o).s 0):=h.at (fun zz zz=>rfl) (sK rfl)
theorem Wz.value(h:Wz H v o):Ij H v .value=some (.str (vO o) 0):=h.at (fun zz zz=>rfl) (sK rfl)
theorem Wz.line(h:Wz H v o):Ij H v .line=some (.int 1 0):=h.at (fun zz zz=>rfl) (sK rfl)
theorem Wz.behind(h:Wz H v o):Ij H v .behind=some (.bool false):=h.at (fun zz zz=>rfl) (sK rfl)
theorem Wz.uO(h:Wz H v o):Ij H v .uO=some (.bool false):=h.at (fun zz zz=>rfl) (sK rfl)
theorem Wz.plain(h:Wz H v o):Ij H v .plain=some (.bool true):=h.at (fun zz zz=>rfl) (sK rfl)
theorem uf.ext{H':AH}{tk:Addr}(h:uf H tk o)(e:Ext H H'):uf H' tk o:=by obtain⟨d,st,en,q⟩:=h;exact⟨d,st,en,e _ _ q (.inr rfl)⟩
theorem Wz.ext{H':AH}(h:Wz H v o)(e:Ext H H'):Wz H' v o:=by obtain⟨a,q,t⟩:=h;exact⟨a,q,t.ext e⟩
theorem RC{op:CmpOp}{x y:Value}{r:Bool}{K:KQ}{fr:dD}(h:Et H op x y=some r)(g:K (.bool r) fr H):dU op x K y fr H:=by unfold dU;rw[h];exact g
theorem Ps.at(S:Ps z H0 H ts nest){f:Fn}(e:∀tk j pe,ee f (Ex z.x tk nest j pe)=some u)(hb:∀i,u≠ .builtin i):Ij H (.ref z.p) f=some u:=
 Ae.el S.st fun zz zz zz zz zz zz zz h=>UC h.par F1 (e _ _ _) hb
theorem PB.au{x dp tk dx:Addr}{cs:List Nat}{j pe:Value}{its:List It}(h:PB H p x cs ts nest dp tk j pe dx i its):au H p= .ref tk:=by unfold Mine.au;rw[UC (f:=.token) (u:=.ref tk) h.par F1 rfl (sK rfl)];rfl
theorem Ps.token(S:Ps z H0 H ts nest):Ij H (.ref z.p) .token=some (au H z.p):=
 Ae.el S.st fun zz zz zz zz zz zz zz h=>h.au▸UC h.par F1 rfl (sK rfl)
theorem Ps.tk(S:Ps z H0 H ts nest):Wz H (au H z.p) ts.head? :=Ae.el S.st fun zz zz zz zz zz zz zz h=>⟨_,h.au,h.tok⟩
theorem Ps.later(S:Ps z H0 H ts nest):Ij H (.ref z.p) .later=some .none:=S.at (fun zz zz zz=>rfl) (sK rfl)
theorem Ps.strict(S:Ps z H0 H ts nest):Ij H (.ref z.p) .strict=some (.bool false):=S.at (fun zz zz zz=>rfl) (sK rfl)
theorem Ps.So(S:Ps z H0 H ts nest):Ij H (.ref z.p) .So=some (.ref z.x):=S.at (fun zz zz zz=>rfl) (sK rfl)
theorem Ps.nested(S:Ps z H0 H ts nest):Ij H (.ref z.p) .nested=some (.int nest 0):=S.at (fun zz zz zz=>rfl) (sK rfl)
theorem Ps.inst(S:Ps z H0 H ts nest):SU H (.ref z.p) Hd.Mg:=Ae.el S.st fun zz zz zz zz zz zz zz h=>⟨_,_,_,rfl,h.par⟩
theorem Ps.base(S:Ps z H0 H ts nest):Ps z H H ts nest:=⟨S.st,.refl⟩
theorem Ps.on{H':AH}{wB:List Tk}{m:Nat}(S:Ps z H0 H ts nest)(T:Ps z H H' wB m):Ps z H0 H' wB m:=⟨T.st,S.ext.trans T.ext⟩
noncomputable def nz(k:Kd)(ts:List Tk)(s:Str):Bool:=decide (CM ts.head? =k)&&(vO ts.head? ==s)
theorem Yo(k k':Kd):(k.s==k'.s)=decide (k=k'):=by cases k<;>cases k'<;>decide +kernel
theorem lE(k:Kd):(k.s==("punct":Str))=decide (k= .SK):=Yo k .SK
theorem Qu(k:Kd):(k.s==("keyword":Str))=decide (k= .keyword):=Yo k .keyword
theorem wl(base:AG cY w)(S:Ps z H0 H ts nest)(hQ:Q (.bool (nz .SK ts s)) H):SU H (.ref z.p) Hd.Mg∧T2 cY uK w (n+1) (.ref Hd.n3) [.ref z.p,.str s 0] H Q X:=by
 refine⟨S.inst,Vg ue base rfl fun hC=>?_⟩;simp only[ER];walk_at "w";refine QL S.token ?_;walk_at "w";refine QL S.tk.kind ?_;walk_at "w";rw[lE];unfold nz at hQ;cases q:decide (CM ts.head? = .SK)
 ·rw[q]at hQ;exact hQ
 ·rw[q]at hQ;walk_at "w";refine QL S.token ?_;walk_at "w";refine QL S.tk.value ?_;exact hQ
theorem ZD(base:AG cY w)(S:Ps z H0 H ts nest)(hQ:Q (.bool (nz .keyword ts s)) H):SU H (.ref z.p) Hd.Mg∧T2 cY uK w (n+1) (.ref Hd.ZZ) [.ref z.p,.str s 0] H Q X:=by
 refine⟨S.inst,Vg rY base rfl fun hC=>?_⟩;simp only[Kz];walk_at "w";refine QL S.token ?_;walk_at "w";refine QL S.tk.kind ?_;walk_at "w";rw[Qu];unfold nz at hQ;cases q:decide (CM ts.head? = .keyword)
 ·rw[q]at hQ;exact hQ
 ·rw[q]at hQ;walk_at "w";refine QL S.token ?_;walk_at "w";refine QL S.tk.value ?_;walk_at "w";cases q2:vO ts.head? ==s
  ·rw[q2]at hQ;exact hQ
  ·rw[q2]at hQ;walk_at "w";refine QL S.token ?_;walk_at "w";refine QL S.tk.plain ?_;exact hQ
theorem kL{f:Fn}{x tk dp:Addr}{j pe u:Value}{fs:List (Fn×Value)}(h:H p=some (.inst Hd.Mg dp (Ex x tk nest j pe)))(hz:D7 f u (Ex x tk nest j pe)=fs)(hl:fs.length≤30):AV H (.ref p) f u=some (upd H p (.inst Hd.Mg dp fs)):=by subst hz;exact iF h F1 hl
theorem Y6(base:AG cY w)(S:Ps z H0 H ts nest)(hQ:∀H',Ext H H'→Ps z H0 H' ts.tail nest→Wz H' (au H z.p) ts.head? →Q (au H z.p) H'):
  SU H (.ref z.p) Hd.Mg∧T2 cY uK w (n+6) (.ref Hd.DV) [.ref z.p] H Q X:=by
 refine⟨S.inst,Vg Sr base rfl fun hC=>?_⟩;simp only[nU];walk_at "w";refine QL S.token ?_;walk_at "w";refine QL S.later ?_;walk_at "w";refine QL S.So ?_;walk_at "w";refine Ae.el S.st fun dp tk j pe dx i its h=>⟨⟨z.x,dx,_,rfl,h.lex⟩,?_⟩;have px:z.p≠z.x:=fun q=>by
  have a:=h.par;have b:=h.lex
  rw[q,b]at a;cases a
 refine L5 base h.lex z.sm h.left fun X9 H' i' r g Oy aM fy Rl hT xO=>?_;have hp':=g _ _ h.par px;walk_at "w";rw[kL hp' (fs:=Ex z.x X9 nest j pe) rfl (Nat.le_of_ble_eq_true rfl)];have ext:Ext H (upd H' z.p (.inst Hd.Mg dp (Ex z.x X9 nest j pe))):=fun a o e f=>by
  have na:a≠z.p:=fun q=>by rw[q,h.par]at e;cases e;exact Fi f
  have nx:a≠z.x:=fun q=>by rw[q,h.lex]at e;cases e;exact vn f
  rw[CH na];exact g a o e nx
 have np:X9≠z.p:=fun q=>by rw[q,h.par]at Oy;cases Oy
 refine hQ _ ext ⟨⟨dp,X9,j,pe,dx,i',r,Hu,?_,?_,fy,?_⟩,S.ext.trans ext⟩ (S.tk.ext ext)
 ·rw[CH (Ne.symm px)];exact aM
 ·obtain⟨d,st,en,e⟩:=hT;rw[h.rest]at e;exact⟨d,st,en,by rw[CH np];exact e⟩
 ·rw[Rl,h.rest]
end
end
end
section
open Builtin Builtin.ObjectAttr
noncomputable abbrev DJ:Obj:=excClassObj "SyntaxFail" "SyntaxFail" Hd.s5 650 [.type "Exception"] [.type "Exception",.type "BaseException",.type "object"] true [] [] false none none (some (.ref 635)) none (some (.str "SyntaxFail" 1347)) (some (.str "SyntaxFail" 1355)) (some (.bool true)) "Exception.__new__"
theorem Cy(P:Params):(Hd.KF P).lookup Hd.s5=some DJ:=by kernel_rfl
theorem rc(P:Params):findIn (Hd.KF P) (.ref Hd.s5) "__setattr__"=some (some (.builtin "object.__setattr__")):=by kernel_rfl
theorem Ri(P:Params):(clsIn (Hd.KF P) Hd.s5).any (·.hasDict)=true:=by kernel_rfl
theorem FX(P:Params):takerIn (Hd.KF P) Hd.s5 "text"=some none:=by kernel_rfl
theorem Qy(P:Params):takerIn (Hd.KF P) Hd.s5 "line"=some none:=by kernel_rfl
theorem WC(P:Params):(clsIn (Hd.KF P) Hd.s5).map (·.mro)=some [.ref Hd.s5,.type "Exception",.type "BaseException",.type "object"]:=by kernel_rfl
theorem jy(self:Value):refuseLoop self "__setattr__" [.type "Exception",.type "BaseException",.type "object"]=pure ():=by kernel_rfl
theorem EH(P:Params):((Hd.KF P).lookup 650).any (fun o=>match o.data with| .dict es _=>es.all (fun e=>match e.key with| .str _ _=>true|_=>false)&&nsFind es "__init__"==some (.ref Hd.Qd)|_=>false)=true:=by kernel_rfl
section
variable{prog:Program}{w:World}{A:Around}{R:Result→Shared→Prop}{s:Shared}{K:Frag}{x C:Addr}
theorem te{ox:Obj}{od:Option Obj}{name:Str}{tk:Tok}{v:Value}{r:Option Value}{mro:List Value}(X:K.In s.heap)(I:InstAt s.heap x ox C od)(hp:(clsIn K C).map (·.mro)=some (.ref C::mro))(ho:mro.contains (.type "object")=true)
  (hf:refuseLoop (.ref x) "__setattr__" mro=pure ()) (ht:takerIn K C name=some r)
  (h:∀b,wpAny (model prog w) A.in1 (match r with|some a=>setByDescriptor a (.ref x) v|none=>storeInOwnDict (.ref x) (.ref C) (.str name tk) name v b)
   (fun fin s'=>match fin with| .done f=>R (.ok f) s'| .again c'=>c'.quiet=true∧codeAny (model prog w) A c' R s') (fun e s'=>R (.error e) s') s):
  codeAny (model prog w) A (.call (.builtin "object.__setattr__") ⟨[.ref x,.str name tk,v],[]⟩) R s:=by
 have SF:=PySem.F.store_object;obtain⟨cd,hc,N0⟩:=Option.map_eq_some_iff.mp hp;have ne:cd.mro.isEmpty=false:=by rw[N0];rfl
 have sub:Looks (model prog w) s.heap (isInstance (.ref x) (.type "object")) true:=I.type.andThen (looks_mroIn X (by unfold mroIn;rw[hc,Option.bind_some,if_neg (by rw[ne];decide),N0,List.contains_cons,ho,Bool.or_true]));refine codeAny_call_builtin SF.slot.plain SF.entry (@check_slot (model prog w) _ _ s "object.__setattr__" "object" "__setattr__" (.ref x) [.str name tk,v] [] _ SF.kind SF.split sub (SF.args (.ref x) (.str name tk) v) ?_);obtain⟨attr,ha,hr⟩:=Option.bind_eq_some_iff.mp ht;have hm:Looks (model prog w) s.heap (mroOf (.ref C)) cd.mro:=(looks_clsIn X hc).andThen .now;have L3:Looks (model prog w) s.heap (storeTaker? attr) r:=by
  cases attr with
  |none=>cases hr;exact .now
  |some a=>
   obtain⟨b,hb,rfl⟩:=Option.map_eq_some_iff.mp hr;refine(looks_takesIn X hb).andThen ?_;cases b<;>exact .now
 rw[osa_eq,refuse_eq];refine wpAny_bind (wpAny_bind (I.type.here (wpAny_bind (hm.here ?_))));rw[N0,refuseLoop_ref,hf];refine wpAny_pure (wpAny_bind (I.type.here (wpAny_bind ((looks_findIn X ha).here (wpAny_bind (L3.here ?_))))));exact h _
end
theorem O8{es:Array DictEntry}(h:StrKeys es):es.any (·.refKey)=false:=by rw[←Array.any_toList,List.any_eq_false];intro x hx;obtain⟨n,t,e⟩:=h x (by simpa using hx);simp[DictEntry.refKey,e]
theorem cg{es:Array DictEntry}(h:es.all (fun e=>match e.key with| .str _ _=>true|_=>false)=true):StrKeys es:=fun e he=>by
 rw[Array.all_eq_true_iff_forall_mem]at h;have:=h e he
 split at this
 ·exact⟨_,_,by assumption⟩
 ·cases this
noncomputable def oC(h:Heap)(e:Addr)(k:Nat):Option Addr→Prop
 |none=>True
 |some d=>d≠e∧∃es n sl,h.get? d=some ⟨.type "dict",none,.dict es n,sl⟩∧es.size≤k∧StrKeys es
structure sE(h:Heap)(e:Addr)(k:Nat)(od:Option Addr)(vs:Array Value):Prop where
 obj:∃sl,h.get? e=some ⟨.ref Hd.s5,od,.fields vs,sl⟩
 dict:oC h e k od
section
variable{w:World}{A:Around}{s:Shared}{E:Value→Shared→Prop}{Q:Unit→Shared→Prop}
theorem mH(name:Str)(nR:Int)(t:Tok)(v:Value)(es:Array DictEntry)(n:Nat)(sl:Array (Option Value))(k:Nat)(hk:es.size≤k)(hr:StrKeys es):
  ∃Vv n',Obj.putName name nR (.str name t) v ⟨.type "dict",none,.dict es n,sl⟩=⟨.type "dict",none,.dict Vv n',sl⟩∧Vv.size≤k+1∧StrKeys Vv:=by
 rw[Obj.putName_eq];unfold Obj.putNameByArray;dsimp only
 split
 ·exact⟨_,_,rfl,by simp;lia,hr.modify _ _⟩
 ·exact⟨_,_,rfl,by simp;lia,hr.push _ _ _ _⟩
theorem HC{e d:Addr}{k:Nat}{vs:Array Value}{v:Value}{name:Str}{tk:Tok}{SM:Option Addr}{h₀:Heap}(hk:k≤100)(x:sE s.heap e k (some d) vs)
  (keep:∀b o,b≠e→SM≠some b→h₀.get? b=some o→s.heap.get? b=some o) (hd0:SM=none→h₀.get? d=none) (bz:∀d',SM=some d'→d'=d)
  {R:Result→Shared→Prop}
  (h:∀h' t',sE h' e (k+1) (some d) vs→(∀b o,b≠e→SM≠some b→h₀.get? b=some o→h'.get? b=some o)→R (.ok (.ret .none)) {s with heap:=h',toks:=t'}):
  wpAny (model Hd.pw w) A.in1 (storeInDict d (.str name tk) name v)
   (fun fin s'=>match fin with| .done f=>R (.ok f) s'| .again c'=>c'.quiet=true∧codeAny (model Hd.pw w) A c' R s') (fun e s'=>R (.error e) s') s:=by
 obtain⟨⟨sl,hx⟩,Q1,es,n,F9,D,hz,hs⟩:=x;obtain⟨Vv,n',e1,e2,e3⟩:=mH name (PyData.keyHash w.params name) s.toks v es n F9 k hz hs;unfold storeInDict;refine wpAny_bind (wpAny_pure (wpAny_bind ?_));unfold nsSet;refine wpAny_bind (wpAny_bind (wpAny_askSetting (wpAny_pure (wpAny_bind (wpAny_mkText (wpAny_bind (wpAny_loadPart D ?_)))))));dsimp only;have c:(!es.any (·.key.isStr name)&&es.any (·.refKey))=false:=by rw[O8 hs,Bool.and_false]
 rw[aRefKeyMayBeTheName_at,c];have D':(s.heap.update d (Obj.putName name (PyData.keyHash w.params name) (.str name s.toks) v)).get? d=some ⟨.type "dict",none,.dict Vv n',F9⟩:=by rw[←e1];exact Heap.get?_update_self _ D (by rw[e1];rfl)
 refine wpAny_updatePart D ?_;refine wpAny_bind (wpAny_lookBehind D' (pastItsLine_dict (by rw[sizeLine_eq];lia)) ?_);refine wpAny_pure (h _ _ ⟨⟨sl,?_⟩,Q1,Vv,n',F9,D',e2,e3⟩ fun b o hb AZ he=>?_)
 ·rw[Heap.get?_update_other _ _ Q1];exact hx
 ·have:d≠b:=fun q=>by
   subst q;cases SM with
   |none=>rw[hd0 rfl]at he;cases he
   |some d'=>exact AZ (by rw[bz d' rfl])
  rw[Heap.get?_update_other _ _ this];exact keep b o hb AZ he
theorem lM{e:Addr}{k:Nat}{vs:Array Value}{v:Value}{name:Str}{od:Option Addr}(K:(Hd.KF w.params).In s.heap)(hk:k≤100)(x:sE s.heap e k od vs)
  (ht:takerIn (Hd.KF w.params) Hd.s5 name=some none)
  (h:∀h' t' d,sE h' e (k+1) (some d) vs→(∀b o,b≠e→od≠some b→s.heap.get? b=some o→h'.get? b=some o)→(∀d',od=some d'→d'=d)→(od=none→s.heap.get? d=none)→Q () {s with heap:=h',toks:=t'}):
  wpAny (model Hd.pw w) A (setAttr (.ref e) name v) Q E s:=by
 obtain⟨⟨sl,hx⟩,hD⟩:=x;have I:∃oo,InstAt s.heap e ⟨.ref Hd.s5,od,.fields vs,sl⟩ Hd.s5 oo:=by
  cases od with
  |none=>exact⟨none,hx,rfl,rfl,trivial⟩
  |some d=>obtain⟨_,es,n,F9,D,_⟩:=hD;exact⟨some _,hx,rfl,rfl,D⟩
 obtain⟨oo,I⟩:=I;refine set_plain K I (rc _) ?_;refine te (s:={s with toks:=s.toks+1}) K I (WC _) (by simp) (jy _) ht fun b=>?_;obtain⟨cd,Qo,LV⟩:=any_some (Ri w.params);refine wpAny_bind (wpAny_pure (wpAny_bind (wpAny_bind (wpAny_loadPart hx (wpAny_bind ((looks_clsIn (M:=model Hd.pw w) K Qo).at ?_))))));rw[LV];cases od with
 |some d=>
  refine wpAny_pure (a:=some d) ?_;exact HC (R:=fun r s'=>match r with| .ok (.ret _)=>Q () s'| .ok _=>False| .error e=>E e s') (s:={s with toks:=s.toks+1}) (SM:=some d) (h₀:=s.heap) hk ⟨⟨sl,hx⟩,hD⟩ (fun b o zz zz e=>e) (fun e=>by cases e) (fun d' e=>by cases e;rfl) fun h' t' a b=>h h' t' d a b (fun d' e=>by cases e;rfl) (fun e=>by cases e)
 |none=>
  have kp:∀b o,b≠e→s.heap.get? b=some o→((s.heap.push ⟨.type "dict",none,.dict #[] 0, #[]⟩).update e fun o=>{o with dict:=some s.heap.objs.size}).get? b=some o:=fun b o hb he=>by rw[Heap.get?_update_other _ _ (Ne.symm hb)];exact Heap.get?_push_of_some _ he
  have sz:s.heap.get? s.heap.objs.size=none:=Heap.get?_none_of_le (g61 _);have ne:s.heap.objs.size≠e:=fun q=>by rw[q]at sz;rw[hx]at sz;cases sz
  refine wpAny_bind (wpAny_alloc (wpAny_bind (wpAny_update (Heap.get?_push_of_some _ hx) ?_)));refine wpAny_pure (a:=some s.heap.objs.size) ?_;refine HC (R:=fun r s'=>match r with| .ok (.ret _)=>Q () s'| .ok _=>False| .error e=>E e s') (s:={s with toks:=s.toks+1,heap:=(s.heap.push ⟨.type "dict",none,.dict #[] 0, #[]⟩).update e fun o=>{o with dict:=some s.heap.objs.size}}) (SM:=none) (h₀:=s.heap) (d:=s.heap.objs.size) hk
   ⟨⟨sl,?_⟩,ne, #[],0, #[],?_,V7h _,fun e he=>by simp at he⟩ (fun b o hb zz e=>kp b o hb e) (fun zz=>sz) (fun d' e=>by cases e) fun h' t' a b=>h h' t' _ a b (fun d' e=>by cases e) (fun zz=>sz)
  ·exact Heap.get?_update_self _ (Heap.get?_push_of_some _ hx) rfl
  ·rw[Heap.get?_update_other _ _ (Ne.symm ne)];exact Heap.get?_push_size _ rfl
end
end
section
noncomputable def CK(x:Str)(st:Stmt):Bool:=qK st fun t v=>pY t fun e b zz=>aName e fun a=>aName v fun c=>a=="self"&&(b==x&&c==x)
noncomputable def fW(l:List Stmt):Bool:=ZE l fun a b=>CK "text" a&&CK "line" b
noncomputable def JN(P:Params):Bool:=match(Hd.KF P).lookup Hd.Qd with
 |some ⟨_,_,.func fd,_⟩=>codeIn (Hd.KF P) fd.code fd.qualname&&By fd&&decide (fd.params.args.map (·.arg)=(["self","text","line"]:List Str))&&decide (fd.scope.names=([("self",.local),("text",.local),("line",.local)]:List (Str×NameKind)))&&
  (match fd.body with| .stmts body=>fW body|_=>false)
 |_=>false
theorem bL(P:Params):JN P=true:=by kernel_rfl
section
variable{w:World}{A:Around}{s:Shared}{env:Env}{E:Value→Shared→Prop}
theorem wp_release{vs keep:List Value}{Q:Unit→Shared→Prop}(h:Q () s):wpAny (model Hd.pw w) A (release vs keep) Q E s:=by
 unfold release;have:∀(l:List Value)(Q:Unit→Shared→Prop)(E:Value→Shared→Prop),Q () s→wpAny (model Hd.pw w) A (release.go keep l) Q E s:=by
  intro l
  induction l with
  |nil=>intro Q E q;exact wpAny_pure q
  |cons a r ih=>
   intro Q E q;cases r with
   |nil=>exact wpAny_pure q
   |cons b r=>unfold release.go;exact wpAny_bind (wpAny_holding (wpAny_point (ih _ _ q)))
 exact this _ _ _ h
theorem CW{Q:Flow→Shared→Prop}{o e:Expr}{a:Str}{p pos:Pos}(hc:xG e=true)
  (h:wpAny (model Hd.pw w) A (eval e env) (fun v s₁=>wpAny (model Hd.pw w) A (eval o env) (fun ov UI=>wpAny (model Hd.pw w) A (setAttr ov a v) (fun zz ay=>Q .next ay) E UI) E s₁) E s):
  wpAny (model Hd.pw w) A (exec (.Assign [.Attribute o a p] e pos) env) Q E s:=by
 rw[arm_exec_Assign];have e1:swapsWithSole [.Attribute o a p] e pos.line env=Pure.pure false:=by unfold swapsWithSole;exact xW hc
 have e2:swappedStores [.Attribute o a p] e env=Pure.pure none:=by cases e<;>rfl
 rw[e1,e2];refine wpAny_bind (wpAny_standAt (wpAny_bind (wpAny_pure ?_)));show wpAny _ _ (do
  let v←eval e env
  assignStores env v (←(Pure.pure none:Sem (Option (List Str)))) [assign (.Attribute o a p) env]) _ _ _
 refine wpAny_bind (wpAny_mono h (fun v s₁ h=>wpAny_bind (wpAny_pure ?_)) fun zz zz z=>z);show wpAny _ _ (do
  let _←(do
   let ov←PySem.holding [v] (eval o env)
   standAt p.atName
   PySem.holding [v,ov] (setAttr ov a v)
   release [v,ov] []:Sem Unit)
  Pure.pure Flow.next) _ _ _
 exact wpAny_bind (wpAny_bind (wpAny_holding (wpAny_mono h (fun ov UI h=>wpAny_bind (wpAny_standAt (wpAny_bind (wpAny_holding (wpAny_mono h (fun zz ay h=>wp_release (wpAny_pure h)) fun zz zz z=>z))))) fun zz zz z=>z)))
theorem gG{Q:Flow→Shared→Prop}{x:Str}{st:Stmt}{e:Addr}{k:Nat}{od:Option Addr}{vs:Array Value}{v:Value}{m:Str→Option Value}(lI:CK x st=true)(eZ:env.scope.kind= .function)
  (k1:env.kindOf "self"=some .local) (k2:env.kindOf x=some .local) (hd:(x==("__debug__":Str))=false) (hn:s.heap.Ns env.locals m) (m1:m "self"=some (.ref e)) (m2:m x=some v)
  (K:(Hd.KF w.params).In s.heap) (hk:k≤100) (X:sE s.heap e k od vs) (ht:takerIn (Hd.KF w.params) Hd.s5 x=some none)
  (h:∀h' t' d,sE h' e (k+1) (some d) vs→(∀b o,b≠e→od≠some b→s.heap.get? b=some o→h'.get? b=some o)→(∀d',od=some d'→d'=d)→(od=none→s.heap.get? d=none)→Q .next {s with heap:=h',toks:=t'}):
  wpAny (model Hd.pw w) A (exec st env) Q E s:=by
 refine wo (show qK st _=true from lI) fun t v' p h1=>GU h1 fun e' b p2 h2=>Vi h2 fun a p3 h3=>Vi h3 fun c p4 h4=>a3 h4 fun q1 q2 q3=>?_;rw[eq_of_beq q1,eq_of_beq q2,eq_of_beq q3];refine CW rfl (wpAny_Name (wpAny_loadName_local eZ k2 hn m2 ?_) hd);refine wpAny_Name (wpAny_loadName_local eZ k1 hn m1 ?_) (by decide);exact lM K hk X ht h
theorem KG{Q:Flow→Shared→Prop}{a b:Stmt}(h:wpAny (model Hd.pw w) A (exec a env) (fun f s₁=>f= .next∧wpAny (model Hd.pw w) A (exec b env) (fun f UI=>f= .next∧Q .next UI) E s₁) E s):
  wpAny (model Hd.pw w) A (execs [a,b] env) Q E s:=by
 refine wpAny_execs_cons (wpAny_mono h (fun f s₁⟨e,h⟩=>?_) fun zz zz z=>z);subst e;refine wpAny_execs_cons (wpAny_mono h (fun f UI⟨e,h⟩=>?_) fun zz zz z=>z);subst e;exact wpAny_execs_nil h
theorem xQ{Q:Value→Shared→Prop}{h₀:Heap}{e:Addr}{vs:Array Value}{v u:Value}(hd:A.depth<recursionLimit)(uy:(Hd.KF w.params).In h₀)(vz:h₀.NoLimit)(hk:∀b o,h₀.get? b=some o→s.heap.get? b=some o)(Vl:h₀.get? e=none)
  (X:sE s.heap e 0 none vs)
  (h:∀h' t' d,sE h' e 2 (some d) vs→(∀b o,h₀.get? b=some o→h'.get? b=some o)→Q .none {s with heap:=h',toks:=t'}):
  wpAny (model Hd.pw w) A (call (.ref Hd.Qd) [.ref e,v,u]) Q E s:=by
 have hF:=bL w.params;unfold JN at hF
 split at hF
 ·rename_i oc od fd sl eL;simp only[Bool.and_eq_true,decide_eq_true_eq]at hF;obtain⟨⟨⟨⟨h1,h2⟩,h3⟩,h4⟩,h5⟩:=hF
  split at h5
  ·rename_i body hb;have K:(Hd.KF w.params).In s.heap:=fun a o q=>hk _ _ (uy a o q);simp only[By,Bool.and_eq_true,decide_eq_true_eq,Bool.not_eq_true',List.isEmpty_iff]at h2;obtain⟨⟨⟨⟨⟨⟨⟨⟨⟨p1,p2⟩,p3⟩,p4⟩,p5⟩,p6⟩,p7⟩,p8⟩,p9⟩,m7⟩:=h2;have hlen:[Value.ref e,v,u].length=fd.params.args.length:=by
    have:=R6T List.length h3;simp only[List.length_map]at this;rw[this];rfl
   have lk:∀x:Str,x∈(["self","text","line"]:List Str)→fd.scope.names.lookup x=some .local:=fun x hx=>by rw[h4];simp only[List.mem_cons,List.not_mem_nil,or_false]at hx;rcases hx with rfl|rfl|rfl<;>decide +kernel
   refine wpAny_call (codeAny_call_cells (fd:=fd) (body:=body) hd (K _ _ eL) rfl (vz.keeps hk) (codeRec_of K h1) hb (oJ p1 p2 hlen) p6 (fun x hx=>?_) (fun s₁ x=>?_) p4 p5 ?_)
   ·refine .inl (lk x.1 ?_);rw[←h3];exact(List.of_mem_zip (a:=x.1) (b:=x.2) hx).1
   ·obtain⟨wi,tk,rfl⟩:=x.toInCall.same;have kp:=x.toInCall.keep;have ne:e≠s.heap.objs.size:=fun q=>by
     obtain⟨sl,hx⟩:=X.obj;rw[q,Heap.get?_none_of_le (Nat.le_refl _)]at hx;cases hx
    have gy:CL (callEnvC fd s.heap.objs.size Hd.Qd):=⟨p3,p7,p8⟩;have ko:∀x:Str,x∈(["self","text","line"]:List Str)→(callEnvC fd s.heap.objs.size Hd.Qd).kindOf x=some .local:=lk;have nd:(((fd.params.args.map (·.arg)).zip [Value.ref e,v,u]).map (·.1)).Nodup:=by rw[h3];show(["self","text","line"]:List Str).Nodup;decide +kernel
    have ns:=x.toInCall.ns;have mm:∀y z,(y,z)∈(["self","text","line"]:List Str).zip [Value.ref e,v,u]→bindL (callEnvC fd s.heap.objs.size Hd.Qd).kindOf ((fd.params.args.map (·.arg)).zip [Value.ref e,v,u]) (fun zz=>none) y=some z:=fun y z hz=>
     mA nd (by rw[h3];exact hz) (ko y (List.of_mem_zip (a:=y) (b:=z) hz).1)
    have Mu:sE wi e 0 none vs:=⟨let⟨sl,hx⟩:=X.obj;⟨sl,kp _ _ hx⟩,trivial⟩;have Vo:∀b o,h₀.get? b=some o→b≠e:=fun b o q z=>by rw[z,Vl]at q;cases q
    obtain⟨st1,st2,rfl,g1,g2⟩:∃a b,body= [a,b]∧CK "text" a=true∧CK "line" b=true:=SR (C:=fun l=>∃a b,l= [a,b]∧CK "text" a=true∧CK "line" b=true) h5 fun a b h=>a2 h fun g1 g2=>⟨a,b,rfl,g1,g2⟩;refine KG (gG g1 gy.kind (ko _ (by simp)) (ko _ (by simp)) (by decide) ns (mm "self" (.ref e) (by simp)) (mm "text" v (by simp)) (fun a o q=>kp _ _ (K a o q)) (by lia) Mu (FX _) fun dz zU d Uq k₂ zz Np=>⟨rfl,?_⟩);have P4:∀b o,b≠e→wi.get? b=some o→dz.get? b=some o:=fun b o q=>k₂ b o q (by simp);have Q2:dz.Ns s.heap.objs.size _:=let⟨o,es,ep,ho,r⟩:=ns;⟨o,es,ep,P4 _ _ (Ne.symm ne) ho,r⟩
    have vG:=Np rfl;have XX:∀b o,wi.get? b=some o→b≠d:=fun b o q z=>by rw[z,vG]at q;cases q
    refine gG (s:={s with heap:=dz,toks:=zU}) g2 gy.kind (ko _ (by simp)) (ko _ (by simp)) (by decide) Q2 (mm "self" (.ref e) (by simp)) (mm "line" u (by simp)) (fun a o q=>P4 _ _ (Vo _ _ (uy a o q)) (kp _ _ (K a o q))) (by lia) Uq (Qy _) fun yR Xs d' VQ Jy mj zz=>⟨rfl,?_⟩;obtain rfl:=mj _ rfl;refine h yR Xs d VQ fun b o q=>?_;have q1:=kp _ _ (hk b o q);exact Jy b o (Vo _ _ q) (fun z=>XX b o q1 (by cases z;rfl)) (P4 b o (Vo _ _ q) q1)
   ·exact(show CL (callEnvC fd s.heap.objs.size Hd.Qd)from⟨p3,p7,p8⟩).kind
  ·cases h5
 ·cases hF
end
end
section
open Sem (wp)
section
variable{M:Model}{A:Around}{E:Value→Shared→Prop}{env:Env}
variable{nm q:Str}{C N:Addr}{bs bm:List Value}{hdct:Bool}{sn:List Str}{sub:List Value}{ab:Bool}{col:Option Bool}{dd:Option Addr}{k0 k1 k2 k3 k5:Option Value}{B newId P6:String}
theorem CC{s:Shared}{x:Sem Value}{Q:Flow→Shared→Prop}(tG:bm.contains (.type "BaseException")=true)(hh:A.handled=none)
  (h:wpAny M A x (fun v s₁=>∃e t d sl,v= .ref e∧s₁.heap.get? C=some (excClassObj nm q C N bs bm hdct sn sub ab col dd k0 k1 k2 k3 k5 newId)∧
   s₁.heap.get? e=some {cls:=.ref C,dict:=d,data:=.fields #[.ref t,.none,.none,.none,.bool false,.none],slots:=sl}∧E (.ref e) s₁) E s):
  wpAny M A (raiseStmt env (some x) none) Q E s:=by
 have hcB:(Value.ref C::bm).contains (.type "BaseException")=true:=by rw[List.contains_cons,tG,Bool.or_true]
 unfold raiseStmt;refine wpAny_bind (wpAny_mono h (fun v s₁ wi=>?_) fun zz zz x=>x);obtain⟨e,t,d,sl,rfl,hC,he,hE⟩:=wi;obtain⟨hp,g,d,tk,os⟩:=s₁
 repeat(first|with_reducible refine wpAny_loadPart_at he ?_|with_reducible refine wpAny_loadPart_at hC ?_|(with_reducible refine wpAny_isSubtype_exc hC ?_;rw[hcB])|wp_step)
 exact wpAny_raiseNew_none hh hE
end
section
variable{w:World}{A:Around}{s:Shared}{env:Env}{E:Value→Shared→Prop}
theorem Lm{h:Heap}(K:(Hd.KF w.params).In h):Looks (model Hd.pw w) h (keeperOf (.ref Hd.s5)) .machine:=fun A Q E s k q=>by obtain⟨hp,g,d,tk,os⟩:=s;exact wpAny_keeperOf_exc (k _ _ (K _ _ (Cy _))) q
theorem yG{x:Sem Value}{Q:Flow→Shared→Prop}(hh:A.handled=none)
  (h:wpAny (model Hd.pw w) A x (fun v s₁=>∃e t d sl,v= .ref e∧(Hd.KF w.params).In s₁.heap∧
   s₁.heap.get? e=some {cls:=.ref Hd.s5,dict:=d,data:=.fields #[.ref t,.none,.none,.none,.bool false,.none],slots:=sl}∧E (.ref e) s₁) E s):
  wpAny (model Hd.pw w) A (raiseStmt env (some x) none) Q E s:=
 CC (C:=Hd.s5) (nm:="SyntaxFail") (q:="SyntaxFail") (N:=650) (bs:=[.type "Exception"]) (bm:=[.type "Exception",.type "BaseException",.type "object"]) (hdct:=true) (sn:=[]) (sub:=[]) (ab:=false) (col:=none) (dd:=none) (k0:=some (.ref 635)) (k1:=none) (k2:=some (.str "SyntaxFail" 1347)) (k3:=some (.str "SyntaxFail" 1355)) (k5:=some (.bool true)) (newId:="Exception.__new__")
  (by decide +kernel) hh (wpAny_mono h (fun _ s₁⟨e,t,d,sl,h1,K,h2,h3⟩=>⟨e,t,d,sl,h1,K _ _ (Cy _),h2,h3⟩) fun zz zz z=>z)
theorem pP{P:Params}{h:Heap}(K:(Hd.KF P).In h):∃m,h.Ns 650 m∧m "__init__"=some (.ref Hd.Qd):=by
 have:=EH P;obtain⟨o,ho,hp⟩:=any_some this
 split at hp
 ·rename_i es n hd;simp only[Bool.and_eq_true,beq_iff_eq]at hp;exact⟨nsFind es,⟨o,es,n,K _ _ ho,hd,cg hp.1,fun zz=>rfl⟩,hp.2⟩
 ·cases hp
theorem w9(P:Params):((Hd.KF P).lookup Hd.Qd).any (fun o=>o.cls== .type "function")=true:=by kernel_rfl
theorem Uo{Q:Value→Shared→Prop}{v u:Value}(hd:A.depth+1<recursionLimit)(K:(Hd.KF w.params).In s.heap)(vz:s.heap.NoLimit)
  (h:∀h' t' e t d sl,(∀b o,s.heap.get? b=some o→h'.get? b=some o)→s.heap.get? e=none→h'.get? e=some {cls:=.ref Hd.s5,dict:=d,data:=.fields #[.ref t,.none,.none,.none,.bool false,.none],slots:=sl}→
   Q (.ref e) {s with heap:=h',toks:=t'}):
  wpAny (model Hd.pw w) A (call (.ref Hd.s5) [v,u]) Q E s:=by
 obtain⟨m,hm,hi⟩:=pP K;obtain⟨oI,eI,cI⟩:=any_some (w9 w.params);obtain⟨hp,g,d,tk,os⟩:=s;refine wpAny_call_exc_init PySem.F.excBase_Exception (K _ _ (Cy _)) hm hi (K _ _ eI) (by simpa using cI) (fun h' e hx=>?_) (by rw[sizeLine_eq];show 2≤_;decide);obtain⟨t,ht,_⟩:=hx.there;refine xQ (s:=⟨h',g,d,tk,os⟩) (by rw[depth_under_make];exact hd) K vz hx.keeps hx.new ⟨⟨_,ht⟩,trivial⟩ fun dz zU q7 Uq k₂=>⟨rfl,?_⟩;obtain⟨sl,hs⟩:=Uq.obj;exact h dz zU e t (some q7) sl k₂ hx.new hs
end
section
variable{cY:Heap}{uK:OsState}{w:World}{n:Nat}{X:AH→Prop}
variable{env:Env}{outer ow:List Env}{fr:dD}{H:AH}
theorem OM{Rk:Heap}{h:Heap}(st:vm env outer ow)(x:h.FunFrames Rk (vf env::outer)):h.FunFrames Rk ow:=st.elim (fun z=>z.1▸iy z.2▸x) fun z=>z▸x.2.2
theorem Run.raise(base:AG cY w)(ok:CL env){P:Flow→dD→AH→Prop}{x:Str}{np Ur pos:Pos}{a b:Expr}(hg:glob env.scope.names x (.ref Hd.s5)=true)(ha:notStar a=true)(hb:notStar b=true)(hn:2≤n)
  (h:Run cY uK w n env outer ow fr H (eval a env) (fun v fr H=>Run cY uK w n env outer ow fr H (eval b env) (fun u fr H=>X H) X) X):
  Run cY uK w n env outer ow fr H (exec (.Raise (some (.Call (.Name x np) [a,b] [] Ur)) none pos) env) P X:=fun A Rk s hs=>by
 rw[arm_exec_Raise];refine wpAny_bind (wpAny_standAt (yG hs.hd (wpAny_bind (wpAny_mono (?_:wpAny _ _ (eval (.Call (.Name x np) [a,b] [] Ur) env) _ _ _) (fun v ay yR=>wpAny_bind (wpAny_standAt (wpAny_pure yR))) fun zz zz z=>z))));refine vZ base ok hg (fun zz=>t7) (fun h' k=>⟨.machine,.inr (.inl rfl),Lm k⟩) hs (fun zz zz z=>z) ha hb h fun v u ay Q5 iB l8 eX k=>?_;have K:=l8.inv.K base;exact(l8.inv.top base).elim fun mg T=>T.elim fun mb T=>Uo (Nat.lt_of_lt_of_le (Nat.add_lt_add_left (Nat.lt_of_lt_of_le (K7i 1) hn) _) eX.room.1) K T.nolimit fun h' t' e t d sl kp Vl he=>⟨e,t,d,sl,rfl,fun a o q=>kp _ _ (K a o q),he,iB,
  ⟨l8.inv.keeps (s':={ay with heap:=h',toks:=t'}) kp rfl rfl,l8.keep.trans (.of_keeps kp),.inl ⟨e,ay.heap,rfl,⟨kp,Vl,_,_,_,he,rfl,rfl,rfl,rfl⟩,l8.inv.stays,OM hs.ow l8.inv.lY⟩,eX.loc.imp fun m hm=>hm.1.keeps kp⟩,k⟩
end
end
section
noncomputable def SI(x:Stmt)(k:Expr→Bool):Bool:=gd (x.ctorIdx=16) fun q=>Stmt.Raise.elim (motive_2:=fun zz=>Bool) x q fun e c zz=>Yv e fun e=>zY c (k e)
@[elab_as_elim]theorem qZ{C:Stmt→Prop}{x k}(h:SI x k=true)(f:∀e p,k e=true→C (.Raise (some e) none p)):C x:=
 yj h fun q h=>Stmt.Raise.elim (motive_2:=fun x=>∀q,Stmt.Raise.elim (motive_2:=fun zz=>Bool) x q (fun e c zz=>Yv e fun e=>zY c (k e))=true→C x) x q (fun e c p zz h=>Q6 (C:=fun e=>C (.Raise e c p)) h fun e h=>kR (C:=fun c=>C (.Raise (some e) c p)) h fun h=>f e p h) q h
noncomputable def uc(ns:List (Str×NameKind))(a b:E)(l:List Stmt):Bool:=MR l fun st=>SI st fun e=>aCall e fun g as zz=>aName g fun x=>ZE as fun ea eb=>glob ns x (.ref Hd.s5)&&(notStar ea&&(notStar eb&&(Mt ns a ea&&Mt ns b eb)))
noncomputable def CS(P:Params)(f:Addr)(k:Nat)(a b:E):Bool:=match(Hd.KF P).lookup f with
 |some ⟨_,_,.func fd,_⟩=>codeIn (Hd.KF P) fd.code fd.qualname&&By fd&&decide (fd.params.args.length=k)&&(match fd.body with| .stmts body=>uc fd.scope.names a b body|_=>false)
 |_=>false
theorem M5(P:Params):CS P Hd.Ac 2 (.loc 1) (.gZ (.gZ (.loc 0) .token) .line)=true:=by kernel_rfl
section
variable{cY:Heap}{uK:OsState}{w:World}{n:Nat}{X:AH→Prop}{H:AH}{Q:Value→AH→Prop}
theorem oO{f:Addr}{k:Nat}{a b:E}{args:List Value}(hF:∀P,CS P f k a b=true)(base:AG cY w)(hl:args.length=k)
  (h:zQ H→jd cY uK w (n+2) X a (fun zz fr H=>jd cY uK w (n+2) X b (fun zz zz H=>X H) fr H) (args.map some) H):T2 cY uK w (n+3) (.ref f) args H Q X:=by
 have hF:=hF w.params;unfold CS at hF
 split at hF
 ·rename_i oc od fd sl e;simp only[Bool.and_eq_true,decide_eq_true_eq]at hF;obtain⟨⟨⟨h1,h2⟩,h3⟩,h6⟩:=hF
  split at h6
  ·rename_i body hb;refine X7 (body:=body) e h1 h2 hb base (hl.trans h3.symm) fun env outer ok hs hf=>?_;refine V2 h6 fun st h6=>qZ h6 fun e p h6=>gL h6 fun g as q h6=>Vi h6 fun x np h6=>SR h6 fun ea eb h6=>a5 h6 fun g1 g2 g3 g4 g5=>?_;refine Run.Fv (ve:=args.map some) (fun i v q=>?_) ?_
   ·unfold CQ
    by_cases hi:i<args.length
    ·rw[List.getElem?_append_left (by simpa using hi)];exact q
    ·rw[List.getElem?_eq_none (by simpa using hi)]at q;cases q
   rw[←hs]at g1 g4 g5;refine .Rh base fun hC=>.aq (.mono (.raise base ok (P:=fun zz zz zz=>False) g1 g2 g3 (by lia) ?_) (fun zz zz zz z=>z.elim) fun zz z=>z);exact(Tj base ok a _ g4 (h hC)).im (fun v fr H z=>(Tj base ok b _ g5 z).im (fun zz zz zz z=>z))
  ·cases h6
 ·cases hF
theorem LO(base:AG cY w){p dp tk:Addr}{j pe:Value}{x:Addr}{nest:Nat}{o:Option Tk}{m:Str}(hp:H p=some (.inst Hd.Mg dp (Ex x tk nest j pe)))(ht:uf H tk o)(hX:X H):
  T2 cY uK w (n+4) (.ref Hd.Ac) [.ref p,.str m 0] H Q X:=by
 refine oO (n:=n+1) M5 base rfl fun hC=>?_;simp only[List.map_cons,List.map_nil];walk_at "w";refine QL (UC (f:=.token) (u:=.ref tk) hp F1 rfl (sK rfl)) ?_;walk_at "w";refine QL (Wz.line ⟨_,rfl,ht⟩) ?_;walk_at "w";exact hX
end
end
section
section
variable{cY:Heap}{uK:OsState}{w:World}{n:Nat}{X:AH→Prop}{H H0:AH}{Q:Value→AH→Prop}
variable{z:Pz}{ts:List Tk}{nest i:Nat}{v u:Value}{s:Str}{O:Prop}{Q':Tr→List Tk→Prop}{yes:Tk→List Tk→Res}{no R:Res}
theorem Ei(o:Option Tk):(vO o).length≤10:=by
 cases o with
 |none=>decide +kernel
 |some t=>exact bZ t (by kernel_rfl)
theorem Ip{k:Kd}(ts:List Tk)(u:Tk)(hu:u.kd=k)(hk:k= .SK∨k= .keyword):nz k ts u.v=is (eqT u) ts:=by
 cases ts with
 |nil=>
  subst hu;have:∀u:Tk,nz u.kd [] u.v=false:=fun u=>bZ u (by kernel_rfl);exact this u
 |cons t r=>
  subst hu;have:=yV (p:=fun t u=>(!(u.kd== .SK || u.kd== .keyword)) || (decide (t.kd=u.kd)&&(t.v==u.v))==eqT u t) (by decide +kernel) t u;rw[show(u.kd==Kd.SK || u.kd==Kd.keyword)=true by rcases hk with e|e<;>rw[e]<;>rfl]at this;exact eq_of_beq this
theorem PO(base:AG cY w)(S:Ps z H0 H ts nest)(hX:X H):SU H (.ref z.p) Hd.Mg∧T2 cY uK w (n+5) (.ref Hd.pV) [.ref z.p] H Q X:=by
 refine⟨S.inst,Vg Vh base rfl fun hC=>?_⟩;simp only[J4];walk_at "w";refine⟨S.inst,QL S.token ?_⟩;walk_at "w";refine QL S.tk.kind ?_;walk_at "w";rw[show("end":Str)=Kd.stop.s from rfl,Yo];refine Ae.el S.st fun dp tk j pe dx i its h=>?_;cases q:decide (CM ts.head? = .stop)
 ·walk_at "w";refine QL S.token ?_;walk_at "w";refine QL S.tk.value ?_;walk_at "w";rw[xT];walk_at "w";rw[QZ (by
   have:=Ei ts.head?;have:Str.length ("unexpected token ":Str)=17:=by decide +kernel
   rw[this,sizeLine_eq];lia)]
  walk_at "w";exact LO base h.par h.tok hX
 ·walk_at "w";exact LO base h.par h.tok hX
theorem DB(base:AG cY w){u:Tk}(hu:u.kd= .SK)(S:Ps z H0 H ts nest){X':Prop}(hA:(hd (eqT u) ts yes no).el O X' Q')(hF:no.el O X' Q'→is (eqT u) ts=false→Q (.bool false) H)
  (hT:∀r,Ps z H0 H (u::r) nest→(yes u r).el O X' Q'→Q (.bool true) H):SU H (.ref z.p) Hd.Mg∧T2 cY uK w (n+1) (.ref Hd.n3) [.ref z.p,.str u.v 0] H Q X:=by
 refine wl base S ?_;rw[Ip ts u hu (.inl rfl)];cases q:is (eqT u) ts
 ·rw[We q]at hA;exact hF hA q
 ·refine wu q fun t r e h=>?_;cases kI h;subst e;rw[cL h]at hA;exact hT r S hA
theorem BL(base:AG cY w){u:Tk}(hu:u.kd= .SK)(S:Ps z H0 H ts nest){X':Prop}(hA:(hd (eqT u) ts yes no).el O X' Q')(hF:no.el O X' Q'→is (eqT u) ts=false→Q (.bool false) H)
  (hT:∀r H',Ext H H'→Ps z H0 H' r nest→(yes u r).el O X' Q'→Q (.bool true) H'):SU H (.ref z.p) Hd.Mg∧T2 cY uK w (n+7) (.ref Hd.UH) [.ref z.p,.str u.v 0] H Q X:=by
 refine⟨S.inst,Vg VC base rfl fun hC=>?_⟩;simp only[hU];walk_at "w";refine DB base hu S hA (fun hA q hC=>hF hA q) fun r S hA hC=>?_;walk_at "w";exact Y6 base S fun H' e S zz zz=>hT r H' e S hA
theorem FE(base:AG cY w){u:Tk}(hu:u.kd= .SK)(S:Ps z H0 H ts nest)(hA:(hd (eqT u) ts yes .fail).el O (∀H',Ext H0 H'→X H') Q')
  (hT:∀r H',Ext H H'→Ps z H0 H' r nest→(yes u r).el O (∀H',Ext H0 H'→X H') Q'→Q .none H'):SU H (.ref z.p) Hd.Mg∧T2 cY uK w (n+8) (.ref Hd.zZ) [.ref z.p,.str u.v 0] H Q X:=by
 refine⟨S.inst,Vg td base rfl fun hC=>?_⟩;simp only[wX];walk_at "w";refine BL base hu S hA (fun hA q hC=>?_) fun r H' e S hA hC=>hT r H' e S hA;walk_at "w";exact PO base S (hA _ S.ext)
theorem Zk(base:AG cY w)(S:Ps z H0 H ts nest)(hQ:Q .none H):T2 cY uK w (n+1) (.ref Hd.ud) [.ref z.p,.none] H Q X:=by refine Vg Tl base rfl fun hC=>?_;simp only[z7];walk_at "w";exact hQ
theorem GI(base:AG cY w){m:Str}(S:Ps z H0 H ts nest)(hX:X H):T2 cY uK w (n+5) (.ref Hd.ud) [.ref z.p,.str m 0] H Q X:=by refine Vg Tl base rfl fun hC=>?_;simp only[z7];walk_at "w";rw[Ke];walk_at "w";exact Ae.el S.st fun dp tk j pe dx i its h=>⟨S.inst,LO base h.par h.tok hX⟩
theorem Ps.par(S:Ps z H0 H ts nest){o':AO}:Ext H (upd H z.p o'):=Ae.el S.st fun dp tk j pe dx i its h=>Ext.refl.mut fun o e f=>by rw[h.par]at e;cases e;exact Fi f
theorem Ps.deep(S:Ps z H0 H ts nest)(m:Nat){C:Prop}(k:∀H',AV H (.ref z.p) .nested (.int m 0)=some H'→Ext H H'→Ps z H0 H' ts m→C):C:=
 Ae.el S.st fun dp tk j pe dx i its h=>k _ (kL h.par (f:=.nested) (u:=.int m 0) (fs:=Ex z.x tk m j pe) rfl (J1O rfl)) S.par
  ⟨⟨dp,tk,j,pe,dx,i,its,Hu,by rw[CH (fun q=>by have a:=h.par;have b:=h.lex;rw[q,a]at b;cases b)];exact h.lex,h.tok.ext S.par,h.left,h.rest⟩,S.ext.trans S.par⟩
theorem d7(base:AG cY w)(S:Ps z H0 H ts nest)(hA:(dJ nest R).el O (∀H',Ext H0 H'→X H') Q')
  (g:¬40<nest+1→∀H',Ext H H'→Ps z H0 H' ts (nest+1)→R.el O (∀H',Ext H0 H'→X H') Q'→Q .none H'):SU H (.ref z.p) Hd.Mg∧T2 cY uK w (n+5) (.ref Hd.tx) [.ref z.p] H Q X:=by
 refine⟨S.inst,Vg ij base rfl fun hC=>?_⟩;simp only[ag];walk_at "w";rw[S.nested];walk_at "w";rw[show(nest:Int)+1=((nest+1:Nat):Int)from rfl];refine S.deep (nest+1) fun H1 e1 x1 S1=>?_;rw[e1];walk_at "w";refine QL S1.nested ?_;walk_at "w";rw[show decide (((nest+1:Nat):Int)>40)=decide (40<nest+1)from decide_eq_decide.mpr (by lia)];unfold dJ at hA;cases q:decide (40<nest+1)
 ·rw[q]at hA;exact g (of_decide_eq_false q) _ x1 S1 hA
 ·rw[q]at hA;walk_at "w";exact Ae.el S1.st fun dp tk j pe dx i its h=>⟨S1.inst,LO base h.par h.tok (hA _ S1.ext)⟩
theorem zh(base:AG cY w)(S:Ps z H0 H ts (nest+1))(g:∀H',Ext H H'→Ps z H0 H' ts nest→Q .none H'):
  SU H (.ref z.p) Hd.Mg∧T2 cY uK w (n+1) (.ref Hd.Gi) [.ref z.p] H Q X:=by
 refine⟨S.inst,Vg Cd base rfl fun hC=>?_⟩;simp only[ZT];walk_at "w";rw[S.nested];walk_at "w";rw[show((nest+1:Nat):Int)-1=((nest:Nat):Int)by lia];refine S.deep nest fun H1 e1 x1 S1=>?_;rw[e1];exact g _ x1 S1
theorem Ps.keep{H':AH}(S:Ps z H0 H ts nest)(e:Ext H H')(k:∀b o,H b=some o→H' b=some o):Ps z H0 H' ts nest:=
 Ae.el S.st fun dp tk j pe dx i its h=>⟨⟨dp,tk,j,pe,dx,i,its,k _ _ h.par,k _ _ h.lex,h.tok.ext e,h.left,h.rest⟩,S.ext.trans e⟩
theorem Ps.new{a:Addr}{o:AO}(S:Ps z H0 H ts nest)(ha:H a=none):Ps z H0 (upd H a o) ts nest:=S.keep (Ext.refl.new ha) fun b o e=>by rw[CH (fun q=>by rw[q,ha]at e;cases e)];exact e
theorem Qv{a:Addr}{vs:List Value}{xs:List Str}{x:Str}{t}(h:H a=some (.tup vs))(hv:strsOf vs=some xs):Et H .NotIn (.str x t) (.ref a)=some (!xs.any (· ==x)):=Nm (Wv (ae h) hv) rfl
theorem Ss(base:AG cY w)(hQ:Q .none H):T2 cY uK w (n+1) (.ref Hd.Bh) [.str s 0,.bool false] H Q X:=by refine Vg HF base rfl fun hC=>?_;simp only[Ql];walk_at "w";exact hQ
theorem j3(base:AG cY w)(hQ:Q .none H):T2 cY uK w (n+2) (.ref Hd.bd) [.str s 0,.bool false] H Q X:=by refine Vg BF base rfl fun hC=>?_;simp only[Gj];walk_at "w";exact Ss base fun xO=>hQ
theorem d8(base:AG cY w){t:Tk}(S:Ps z H0 H ts nest)(ho:ts.head? =some t)(ht:vV .name t=true)
  (g:∀H',Ext H H'→Ps z H0 H' ts.tail nest→Q (.str (vO (some t)) 0) H'):SU H (.ref z.p) Hd.Mg∧T2 cY uK w (n+7) (.ref Hd.Oi) [.ref z.p] H Q X:=by
 refine⟨S.inst,Vg io base rfl fun hC=>?_⟩;simp only[zK];walk_at "w";refine QL S.token ?_;walk_at "w";refine QL S.tk.kind ?_;walk_at "w";rw[ho,show(Kd.s (CM (some t)) != ("name":Str))=false by rw[show CM (some t)= .name from of_decide_eq_true ht];decide +kernel];walk_at "w";refine⟨S.inst,QL S.token ?_⟩;walk_at "w";refine QL S.tk.value ?_;walk_at "w";refine QL S.strict ?_;walk_at "w";refine Ss base fun xO=>?_;walk_at "w";refine Zk base S fun IQ=>?_;walk_at "w";refine Y6 base S fun H' e S' T zz=>?_;walk_at "w";exact QL (ho▸T).value (g H' e S')
theorem UR(ts:List Tk):([Kd.name.s,Kd.keyword.s].any (· ==(CM ts.head?).s))=is isWord ts:=by
 cases ts with
 |nil=>decide +kernel
 |cons t r=>exact bZ (p:=fun t=>([Kd.name.s,Kd.keyword.s].any (· ==t.kd.s))=isWord t) t (by kernel_rfl)
theorem Xz(base:AG cY w)(S:Ps z H0 H ts nest)(hA:(hd isWord ts yes .fail).el O (∀H',Ext H0 H'→X H') Q')
  (g:∀t r H',Ext H H'→Ps z H0 H' r nest→(yes t r).el O (∀H',Ext H0 H'→X H') Q'→Q (.str t.v 0) H'):SU H (.ref z.p) Hd.Mg∧T2 cY uK w (n+7) (.ref Hd.gl) [.ref z.p] H Q X:=by
 refine⟨S.inst,Vg j9 base rfl fun hC=>?_⟩;simp only[R4];walk_at "w";refine QL S.token ?_;walk_at "w";refine QL S.tk.kind ?_;walk_at "w";intro a ha xO;have e:Ext H (upd H a (.tup [.str ("name":Str) 0,.str ("keyword":Str) 0])):=Ext.refl.new ha;have S1:=S.new (o:=.tup [.str ("name":Str) 0,.str ("keyword":Str) 0]) ha;rw[Qv Hu (xs:=[Kd.name.s,Kd.keyword.s]) rfl,UR];cases q:is isWord ts
 ·rw[We q]at hA;walk_at "w";exact PO base S1 (hA _ S1.ext)
 ·refine wu q fun t r h z=>?_;subst h;rw[cL z]at hA;walk_at "w";refine Y6 base S1 fun H' e' S' T zz=>?_;walk_at "w";exact QL T.value (g t r H' (e.trans e') S' hA)
end
end
section
def RP(H:AH)(v:Value)(kind:Str)(parts:List Value):Prop:=∃a d q,v= .ref a∧H a=some (.inst Hd.Vk d (WJ (.str kind 0) (.int 1 0) (.ref q)))∧H q=some (.lst parts)
noncomputable def WI(o:Tk):Str:=if([15,16]:List Nat).elem o.ctorIdx then "Logical" else "Binary"
mutual
noncomputable def Wc(H:AH):Tr→Value→Prop
 | .hole,v=>v= .none
 | .name x,v=>RP H v "Name" [.str x.v 0]
 | .this,v=>RP H v "This" []
 | .str,v=>RP H v "Str" [.str Tk.str.v 0]
 | .un o a,v=>∃u,RP H v "Unary" [.str o.v 0,u]∧Wc H a u
 | .upd o pre a,v=>∃u,RP H v "Update" [.str o.v 0,.bool pre,u]∧Wc H a u
 | .bin o a b,v=>∃u u',RP H v (WI o) [.str o.v 0,u,u']∧Wc H a u∧Wc H b u'
 | .asg o a b,v=>∃u u',RP H v "Assign" [.str o.v 0,u,u']∧Wc H a u∧Wc H b u'
 | .cond a b c,v=>∃u u' PF,RP H v "Cond" [u,u',PF]∧Wc H a u∧Wc H b u'∧Wc H c PF
 | .comma as,v=>∃q us,RP H v "Comma" [.ref q]∧H q=some (.lst us)∧Fa H as us
 | .arr as,v=>∃q us,RP H v "Array" [.ref q]∧H q=some (.lst us)∧Fa H as us
 | .call f as,v=>∃u q us,RP H v "Call" [u,.ref q]∧Wc H f u∧H q=some (.lst us)∧Fa H as us
 | .new f as,v=>∃u q us,RP H v "New" [u,.ref q]∧Wc H f u∧H q=some (.lst us)∧Fa H as us
 | .mem a x,v=>∃u,RP H v "Member" [u,.str x.v 0]∧Wc H a u
 | .idx a b,v=>∃u u',RP H v "Index" [u,u']∧Wc H a u∧Wc H b u'
noncomputable def Fa(H:AH):Ts→List Value→Prop
 | .nil,[]=>True
 | .cons a as,u::us=>Wc H a u∧Fa H as us
 |_,_=>False
end
noncomputable def Kv(t:Tr):Str:=@Tr.casesOn (fun zz=>Str) t "" (fun zz=>"Name") "This" "Str" (fun zz zz=>"Unary") (fun zz zz zz=>"Update") (fun o zz zz=>WI o) (fun zz zz zz=>"Assign") (fun zz zz zz=>"Cond") (fun zz=>"Comma") (fun zz=>"Array") (fun zz zz=>"Call") (fun zz zz=>"New") (fun zz zz=>"Member") fun zz zz=>"Index"
theorem oi(o:Tk):WI o=("Logical":Str)∨WI o=("Binary":Str):=bZ o (by kernel_rfl)
noncomputable def KN:List (Str×Nat):=[("",0),("Name",1),("This",2),("Str",3),("Unary",4),("Update",5),("Logical",6),("Binary",6),("Assign",7),("Cond",8),("Comma",9),("Array",10),("Call",11),("New",12),("Member",13),("Index",14)]
theorem Wr(t:Tr):KN.elem (Kv t,t.ctorIdx)=true:=by
 cases t with
 |bin o a b=>
  show KN.elem (WI o,6)=true;exact(oi o).elim (fun e=>e▸by kernel_rfl) fun e=>e▸by kernel_rfl
 |_=>kernel_rfl
theorem kq{p:Str→Nat→Bool}(h:(KN.all fun x=>p x.1 x.2)=true)(t:Tr):p (Kv t) t.ctorIdx=true:=List.all_eq_true.mp h _ (List.mem_of_elem_eq_true (Wr t))
theorem Om{f:Str→Bool}{g:Nat→Bool}(h:(KN.all fun x=>f x.1==g x.2)=true)(t:Tr):f (Kv t)=g t.ctorIdx:=eq_of_beq (kq (p:=fun k i=>f k==g i) h t)
section
variable{H H':AH}
theorem RP.ext{v:Value}{k:Str}{ps:List Value}(h:RP H v k ps)(e:Ext H H'):RP H' v k ps:=by obtain⟨a,d,q,e1,e2,e3⟩:=h;exact⟨a,d,q,e1,e _ _ e2 (.inl rfl),e _ _ e3 trivial⟩
mutual
theorem Wc.ext(e:Ext H H'):∀(t:Tr){v:Value},Wc H t v→Wc H' t v
 | .hole,v,h=>h
 | .name x,v,h=>RP.ext h e
 | .this,v,h=>RP.ext h e
 | .str,v,h=>RP.ext h e
 | .un o a,v,h=>by obtain⟨u,h1,h2⟩:=h;exact⟨u,h1.ext e,Wc.ext e a h2⟩
 | .upd o p a,v,h=>by obtain⟨u,h1,h2⟩:=h;exact⟨u,h1.ext e,Wc.ext e a h2⟩
 | .bin o a b,v,h=>by obtain⟨u,u',h1,h2,h3⟩:=h;exact⟨u,u',h1.ext e,Wc.ext e a h2,Wc.ext e b h3⟩
 | .asg o a b,v,h=>by obtain⟨u,u',h1,h2,h3⟩:=h;exact⟨u,u',h1.ext e,Wc.ext e a h2,Wc.ext e b h3⟩
 | .cond a b c,v,h=>by obtain⟨u,u',PF,h1,h2,h3,h4⟩:=h;exact⟨u,u',PF,h1.ext e,Wc.ext e a h2,Wc.ext e b h3,Wc.ext e c h4⟩
 | .comma as,v,h=>by obtain⟨q,us,h1,h2,h3⟩:=h;exact⟨q,us,h1.ext e,e _ _ h2 trivial,Fa.ext e as h3⟩
 | .arr as,v,h=>by obtain⟨q,us,h1,h2,h3⟩:=h;exact⟨q,us,h1.ext e,e _ _ h2 trivial,Fa.ext e as h3⟩
 | .call f as,v,h=>by obtain⟨u,q,us,h1,h2,h3,h4⟩:=h;exact⟨u,q,us,h1.ext e,Wc.ext e f h2,e _ _ h3 trivial,Fa.ext e as h4⟩
 | .new f as,v,h=>by obtain⟨u,q,us,h1,h2,h3,h4⟩:=h;exact⟨u,q,us,h1.ext e,Wc.ext e f h2,e _ _ h3 trivial,Fa.ext e as h4⟩
 | .mem a x,v,h=>by obtain⟨u,h1,h2⟩:=h;exact⟨u,h1.ext e,Wc.ext e a h2⟩
 | .idx a b,v,h=>by obtain⟨u,u',h1,h2,h3⟩:=h;exact⟨u,u',h1.ext e,Wc.ext e a h2,Wc.ext e b h3⟩
theorem Fa.ext(e:Ext H H'):∀(as:Ts){us:List Value},Fa H as us→Fa H' as us
 | .nil,[],h=>trivial
 | .nil,_::_,h=>nomatch h
 | .cons _ _,[],h=>nomatch h
 | .cons a as,u::us,h=>by exact⟨Wc.ext e a h.1,Fa.ext e as h.2⟩
end
theorem Fa.snoc{t:Tr}{u:Value}:∀{as:Ts}{us:List Value},Fa H as us→Wc H t u→Fa H (as.snoc t) (us++[u])
 | .nil,[],_,h=>⟨h,trivial⟩
 | .nil,_::_,h,_=>nomatch h
 | .cons _ _,[],h,_=>nomatch h
 | .cons a as,v::us,h,k=>by show Fa H (.cons a (as.snoc t)) (v::(us++[u]));exact⟨h.1,Fa.snoc h.2 k⟩
theorem Wc.node{t:Tr}{v:Value}(h:Wc H t v)(hn:t≠ .hole):∃ps,RP H v (Kv t) ps:=by
 cases t
 ·exact absurd rfl hn
 ·exact⟨_,h⟩
 ·exact⟨_,h⟩
 ·exact⟨_,h⟩
 ·obtain⟨_,h,_⟩:=h;exact⟨_,h⟩
 ·obtain⟨_,h,_⟩:=h;exact⟨_,h⟩
 ·obtain⟨_,_,h,_⟩:=h;exact⟨_,h⟩
 ·obtain⟨_,_,h,_⟩:=h;exact⟨_,h⟩
 ·obtain⟨_,_,_,h,_⟩:=h;exact⟨_,h⟩
 ·obtain⟨_,_,h,_⟩:=h;exact⟨_,h⟩
 ·obtain⟨_,_,h,_⟩:=h;exact⟨_,h⟩
 ·obtain⟨_,_,_,h,_⟩:=h;exact⟨_,h⟩
 ·obtain⟨_,_,_,h,_⟩:=h;exact⟨_,h⟩
 ·obtain⟨_,h,_⟩:=h;exact⟨_,h⟩
 ·obtain⟨_,_,h,_⟩:=h;exact⟨_,h⟩
theorem RP.line{v:Value}{k:Str}{ps:List Value}(h:RP H v k ps):Ij H v .line=some (.int 1 0):=by obtain⟨a,d,q,rfl,e2,e3⟩:=h;exact UC e2 HM rfl (fun zz q=>by cases q)
theorem RP.kind{v:Value}{k:Str}{ps:List Value}(h:RP H v k ps):Ij H v .kind=some (.str k 0):=by obtain⟨a,d,q,rfl,e2,e3⟩:=h;exact UC e2 HM rfl (fun zz q=>by cases q)
theorem RP.parts{v:Value}{k:Str}{ps:List Value}(h:RP H v k ps):∃q,Ij H v .parts=some (.ref q)∧H q=some (.lst ps):=by obtain⟨a,d,q,rfl,e2,e3⟩:=h;exact⟨q,UC e2 HM rfl (fun zz q=>by cases q),e3⟩
theorem Wc.line{t:Tr}{v:Value}(h:Wc H t v)(hn:t≠ .hole):Ij H v .line=some (.int 1 0):=let⟨_,k⟩:=h.node hn;k.line
theorem Wc.kind{t:Tr}{v:Value}(h:Wc H t v)(hn:t≠ .hole):Ij H v .kind=some (.str (Kv t) 0):=let⟨_,k⟩:=h.node hn;k.kind
end
structure vU(H:AH)(t:Tr)(v:Value):Prop where
 rt:Wc H t v
 nh:t≠ .hole
theorem vU.ext{H H':AH}{t:Tr}{v:Value}(h:vU H t v)(e:Ext H H'):vU H' t v:=⟨Wc.ext e t h.rt,h.nh⟩
theorem vU.line{H:AH}{t:Tr}{v:Value}(h:vU H t v):Ij H v .line=some (.int 1 0):=h.rt.line h.nh
theorem vU.kind{H:AH}{t:Tr}{v:Value}(h:vU H t v):Ij H v .kind=some (.str (Kv t) 0):=h.rt.kind h.nh
section
variable{cY:Heap}{uK:OsState}{w:World}{n:Nat}{X:AH→Prop}{H H0:AH}{Q:Value→AH→Prop}
variable{z:Pz}{ts:List Tk}{nest i:Nat}{O:Prop}{Q':Tr→List Tk→Prop}{R:Res}
theorem KC(base:AG cY w){kd:Str}{q:Addr}{ps:List Value}(hq:H q=some (.lst ps))(h:∀a H',H a=none→Ext H H'→(∀b,b≠a→H' b=H b)→RP H' (.ref a) kd ps→Q (.ref a) H'):
  T2 cY uK w (n+2) (.ref Hd.Vk) [.str kd 0,.int 1 0,.ref q] H Q X:=by
 refine gC base fun a d ha=>?_;have nq:q≠a:=fun z=>by rw[z,ha]at hq;cases hq
 exact h a _ ha (Ext.refl.new ha) (fun b nb=>CH nb) ⟨a,d,q,rfl,Hu,by rw[CH nq];exact hq⟩
theorem CV(base:AG cY w){kd:Str}{q:Addr}{ps:List Value}(S:Ps z H0 H ts nest)(hq:H q=none)(g:∀a H',Ext H H'→Ps z H0 H' ts nest→RP H' (.ref a) kd ps→Q (.ref a) H'):
  T2 cY uK w (n+2) (.ref Hd.Vk) [.str kd 0,.int 1 0,.ref q] (upd H q (.lst ps)) Q X:=
 KC base Hu fun a H' ha e same nd=>g a H' ((Ext.refl.new hq).trans e) ((S.new hq).keep e fun b o q=>(same b fun z=>by rw[z,ha]at q;cases q).trans q) nd
theorem aW(t:Tr):qJ.any (· ==Kv t)=aV t:=Om (f:=fun k=>qJ.any (· ==k)) (g:=fun i=>([1,13,14]:List Nat).contains i) (by kernel_rfl) t
noncomputable def isName(t:Tr):Bool:=t.ctorIdx==1
theorem Lr(t:Tr):(Kv t==("Name":Str))=isName t:=Om (f:=(· ==("Name":Str))) (g:=(· ==1)) (by kernel_rfl) t
theorem aR(base:AG cY w){t:Tr}{u:Value}(S:Ps z H0 H ts nest)(N:vU H t u)(hA:(bif aV t then R else .fail).el O (∀H',Ext H0 H'→X H') Q')(g:R.el O (∀H',Ext H0 H'→X H') Q'→Q .none H):
  SU H (.ref z.p) Hd.Mg∧T2 cY uK w (n+6) (.ref Hd.sj) [.ref z.p,u] H Q X:=by
 refine⟨S.inst,Vg GY base rfl fun hC=>?_⟩;simp only[Qs];walk_at "w";refine⟨S.inst,QL N.kind ?_⟩;walk_at "w";refine QL N.kind ?_;walk_at "w";rw[Lr];have fault:∀(QV:Value),(isName t=true→∃y,QV= .str y 0)→T2 cY uK w (n+5) (.ref Hd.uF) [.str (Kv t) 0,QV,.bool false] H (fun v H'=>zQ H'→T2 cY uK w (n+5) (.ref Hd.ud) [.ref z.p,v] H' (fun v H'=>zQ H'→Q .none H') X) X:=fun QV hnm=>by
  refine Vg Vm base rfl fun hC=>?_;simp only[OO];walk_at "w";rw[mB hC,aW];cases q:aV t
  ·rw[q]at hA;walk_at "w";exact fun xO=>GI base S (hA _ S.ext)
  ·rw[q]at hA;walk_at "w";rw[Lr];cases y:isName t
   ·exact fun xO=>Zk base S fun kt=>g hA
   ·obtain⟨y,rfl⟩:=hnm y;walk_at "w";exact j3 base fun xO IQ=>Zk base S fun kt=>g hA
 cases hy:isName t
 ·walk_at "w";refine QL S.strict ?_;walk_at "w";exact fault _ fun q=>by rw[hy]at q;cases q
 ·cases t<;>try(cases hy;done)
  rename_i y;obtain⟨q,e1,e2⟩:=RP.parts (H:=H) (v:=u) (show RP H u "Name" [.str y.v 0]from N.rt);walk_at "w";refine QL e1 ?_;walk_at "w";refine QL (Hy (k:=0) (u:=.str y.v 0) e2 rfl (by show 1<1000000;decide)) ?_;walk_at "w";refine QL S.strict ?_;walk_at "w";exact fault _ fun zz=>⟨_,rfl⟩
end
end
section
section
variable{cY:Heap}{uK:OsState}{w:World}{n k:Nat}{X:AH→Prop}{H H0:AH}{Q:Value→AH→Prop}
variable{z:Pz}{ts:List Tk}{nest i:Nat}{Q':Tr→List Tk→Prop}{f:Tr→List Tk→Res}
theorem ph(ts:List Tk)(h:CM ts.head? = .SK):(bD.get (vO ts.head?)).getD (.int 0 0)= .int (prio ts:Nat) 0:=by
 cases ts with
 |nil=>cases h
 |cons t r=>
  have:∀t:Tk,t.kd= .SK→(bD.get t.v).getD (.int 0 0)= .int (Qa t:Nat) 0:=fun t h=>by revert h;exact bZ t (by kernel_rfl)
  exact this t h
theorem xY:bD.get ("in":Str)=some (.int 7 0)∧bD.get ("instanceof":Str)=some (.int 7 0):=by decide +kernel
theorem YI(ts:List Tk)(h:decide (CM ts.head? = .SK)=false):prio ts=bif nz .keyword ts ("in":Str)then 7 else bif nz .keyword ts ("instanceof":Str)then 7 else 0:=by
 cases ts with
 |nil=>decide +kernel
 |cons t r=>
  have:∀t:Tk,decide (t.kd= .SK)=false→Qa t=bif nz .keyword [t] ("in":Str)then 7 else bif nz .keyword [t] ("instanceof":Str)then 7 else 0:=fun t h=>by revert h;exact bZ t (by kernel_rfl)
  exact this t h
theorem F0{T:Addr}{tb:Tb}{s:Str}{u:Value}{t}(ht:Er T=some tb)(hu:tb.get s=some u):ro H (.ref T) (.str s t)=some u:=by show((Er T).bind fun tb=>tb.get s)=_;rw[ht];exact hu
theorem w8(base:AG cY w)(S:Ps z H0 H ts nest)(hQ:Q (.int (prio ts:Nat) 0) H):SU H (.ref z.p) Hd.Mg∧T2 cY uK w (n+2) (.ref Hd.RO) [.ref z.p,.bool true] H Q X:=by
 refine⟨S.inst,Vg aD base rfl fun hC=>?_⟩;simp only[mn];walk_at "w";refine QL S.token ?_;walk_at "w";refine QL S.tk.kind ?_;walk_at "w";rw[lE];cases q:decide (CM ts.head? = .SK)
 ·rw[YI ts q]at hQ;walk_at "w";refine ZD base S fun xO=>?_;cases y:nz .keyword ts ("in":Str)
  ·rw[y]at hQ;walk_at "w";refine ZD base S fun IQ=>?_;cases y2:nz .keyword ts ("instanceof":Str)
   ·rw[y2]at hQ;exact hQ
   ·rw[y2]at hQ;walk_at "w";exact QL (F0 Qq xY.2) hQ
  ·rw[y]at hQ;walk_at "w";exact QL (F0 Qq xY.1) hQ
 ·walk_at "w";refine⟨⟨_,_,rfl,Qq⟩,QL S.token ?_⟩;walk_at "w";refine QL S.tk.value ?_;walk_at "w";have e:DX (.ref Hd.qg) [.str (vO ts.head?) 0,.int 0 0]=some (.int (prio ts:Nat) 0):=by
   show((Er Hd.qg).bind fun tb=>if jo (.int 0 0)=true then some ((tb.get (vO ts.head?)).getD (.int 0 0))else none)=_;rw[Qq];exact R6T some (ph ts (of_decide_eq_true q))
  exact QL e hQ
def qI(H:AH)(t:Tr)(v:Value):Prop:=∃q us,v= .ref q∧H q=some (.lst us)∧Fa H (yc t) us
def Qf(H:AH)(j:SA)(t:Tr)(v:Value):Prop:=bif j.ctorIdx==10 then qI H t v else vU H t v
def Fin(z:Pz)(H:AH)(nest:Nat)(jb:SA)(Q:Value→AH→Prop)(X:AH→Prop)(R:Res):Prop:=R.el False (∀H',Ext H H'→X H') fun t r=>∀v H',Ps z H H' r nest→Qf H' jb t v→Q v H'
noncomputable def eG(j:SA):Addr:=SA.casesOn j Hd.VK Hd.Gv Hd.MZ (fun zz=>Hd.oQ) Hd.Ud Hd.LW Hd.FS
 Hd.Ov (fun zz=>Hd.dc) Hd.oM Hd.ND Hd.Dv Hd.A3 Hd.OJ
def PI(H:AH)(p:Addr)(ts:List Tk)(j:SA)(as:List Value):Prop:=SA.casesOn (motive:=fun zz=>Prop) j (as= [.ref p,.bool true]) (as= [.ref p,.bool true]) (as= [.ref p,.bool true]) (fun l=>as= [.ref p,.int l 0,.bool true]∧1≤l) (as= [.ref p]) (as= [.ref p]) (as= [.ref p])
 (as= [.ref p]) (fun t=>∃u,as= [.ref p,u]∧vU H t u) (as= [.ref p]) (as= [.ref p]) (as= [.ref p]) (as= [.ref p]∧is (vV .keyword) ts=true) (as= [.ref p])
def IH(cY:Heap)(uK:OsState)(w:World)(z:Pz)(k:Nat):Prop:=∀(jb:SA)(nest:Nat)(ts:List Tk)(H:AH)(args:List Value),PI H z.p ts jb args→Ps z H H ts nest→∀(Q:Value→AH→Prop)(X:AH→Prop),Fin z H nest jb Q X (P k jb nest ts)→T2 cY uK w (k+8) (.ref (eG jb)) args H Q X
theorem IH.end(ih:IH cY uK w z k)(jb:SA)(S:Ps z H0 H ts nest){args:List Value}(ja:PI H z.p ts jb args)(hA:(P k jb nest ts).el False (∀H',Ext H0 H'→X H') Q')
  (g:∀t r v H',Ext H H'→Ps z H0 H' r nest→Qf H' jb t v→Q' t r→Q v H'):T2 cY uK w (k+8) (.ref (eG jb)) args H Q X:=
 ih jb nest ts H args ja S.base Q X (zv hA id (fun x H' e=>x H' (S.ext.trans e)) fun t r hA v H' T rep=>g t r v H' T.ext (S.on T) rep hA)
theorem IH.tail(ih:IH cY uK w z k)(jb:SA)(S:Ps z H0 H ts nest){args:List Value}(ja:PI H z.p ts jb args)(hA:(P k jb nest ts).el False (∀H',Ext H0 H'→X H') Q')
  (g:∀t r v H',Ext H H'→Ps z H0 H' r nest→Qf H' jb t v→Q' t r→Q v H'):SU H (.ref z.p) Hd.Mg∧T2 cY uK w (k+8) (.ref (eG jb)) args H Q X:=⟨S.inst,ih.end jb S ja hA g⟩
theorem IH.go(ih:IH cY uK w z k)(jb:SA)(S:Ps z H0 H ts nest){args:List Value}(ja:PI H z.p ts jb args)(hA:((P k jb nest ts).bind f).el False (∀H',Ext H0 H'→X H') Q')
  (g:∀t r v H',Ext H H'→Ps z H0 H' r nest→Qf H' jb t v→(f t r).el False (∀H',Ext H0 H'→X H') Q'→Q v H'):T2 cY uK w (k+8) (.ref (eG jb)) args H Q X:=ih.end jb S ja (Eq.mp YY hA) g
theorem IH.call(ih:IH cY uK w z k)(jb:SA)(S:Ps z H0 H ts nest){args:List Value}(ja:PI H z.p ts jb args)(hA:((P k jb nest ts).bind f).el False (∀H',Ext H0 H'→X H') Q')
  (g:∀t r v H',Ext H H'→Ps z H0 H' r nest→Qf H' jb t v→(f t r).el False (∀H',Ext H0 H'→X H') Q'→Q v H'):SU H (.ref z.p) Hd.Mg∧T2 cY uK w (k+8) (.ref (eG jb)) args H Q X:=⟨S.inst,ih.go jb S ja hA g⟩
theorem Fx(ts:List Tk):(decide (CM ts.head? = .SK)&&qo.any (· ==vO ts.head?))=is B3 ts:=by
 cases ts with
 |nil=>decide +kernel
 |cons t r=>exact bZ (p:=fun t=>(decide (t.kd= .SK)&&qo.any (· ==t.v))=B3 t) t (by kernel_rfl)
theorem QI(ts:List Tk):(decide (CM ts.head? = .SK)&&nF.any (· ==vO ts.head?))=is PY ts:=by
 cases ts with
 |nil=>decide +kernel
 |cons t r=>exact bZ (p:=fun t=>(decide (t.kd= .SK)&&nF.any (· ==t.v))=PY t) t (by kernel_rfl)
end
end
section
section
variable{cY:Heap}{uK:OsState}{w:World}{n k:Nat}{X:AH→Prop}{H H0:AH}{Q:Value→AH→Prop}
variable{z:Pz}{ts:List Tk}{nest i:Nat}
theorem GO(base:AG cY w)(ih:IH cY uK w z k)(S:Ps z H H ts nest)(hA:Fin z H nest .asg Q X (bB (P k) nest ts)):T2 cY uK w (k+9) (.ref Hd.Gv) [.ref z.p,.bool true] H Q X:=by
 refine Vg Sw base rfl fun hC=>?_;simp only[MC];walk_at "w";refine d7 base S hA fun q H1 e1 S hA zz=>?_;walk_at "w";refine ih.call .cond S rfl hA fun t r v H2 e2 S N hA hC=>?_;have fin:(Res.ok t r).el False (∀H',Ext H H'→X H') (fun t r=>∀v H',Ps z H H' r nest→vU H' t v→Q v H')→SU H2 (.ref z.p) Hd.Mg∧T2 cY uK w (k+8) (.ref Hd.Gi) [.ref z.p] H2 (fun zz H'=>zQ H'→Q v H') X:=fun hA=>
  zh base S fun H3 e3 S zz=>hA v H3 S (vU.ext N e3)
 walk_at "w";refine QL S.token ?_;walk_at "w";refine QL S.tk.kind ?_;walk_at "w";rw[lE];have key:=Fx r;cases q1:decide (CM r.head? = .SK)
 ·rw[q1]at key;walk_at "w";exact fin (UJ key.symm hA)
 ·rw[q1,Bool.true_and]at key;walk_at "w";refine QL S.token ?_;walk_at "w";refine QL S.tk.value ?_;walk_at "w";refine RC (L9 hC) ?_;refine BD key hA (fun zz hA=>?_) fun o ho zz hA=>?_
  ·walk_at "w";exact fin hA
  ·walk_at "w";refine aR base S N hA fun hA zz=>?_;walk_at "w";refine Y6 base S fun H3 e3 S T zz=>?_;walk_at "w";refine QL (ho▸T).value ?_;walk_at "w";refine QL (vU.ext N e3).line ?_;walk_at "w";refine ih.call .asg S rfl hA fun b r2 v2 H4 e4 S M hA zz=>?_;intro q5 Iy _;walk_at "w";refine CV base S Iy fun a H5 e5 S nd zz=>?_;walk_at "w";exact zh base S fun H6 e6 S zz=>hA _ _ S ⟨⟨_,_,nd.ext e6,(vU.ext N (e3.trans (e4.trans (e5.trans e6)))).rt,(vU.ext M (e5.trans e6)).rt⟩,nofun⟩
theorem dI(base:AG cY w)(ih:IH cY uK w z k)(S:Ps z H H ts nest)(hA:Fin z H nest .cond Q X (Lz (P k) nest ts)):T2 cY uK w (k+9) (.ref Hd.MZ) [.ref z.p,.bool true] H Q X:=by refine Vg lL base rfl fun hC=>?_;simp only[E7];walk_at "w";refine ih.call (.bin 1) S ⟨rfl,g61 _⟩ hA fun t r v H2 e2 S N hA zz=>?_;walk_at "w";refine BL base (u:=.quest) rfl S hA (fun hA zz zz=>hA v H2 S N) fun r H3 e3 S hA zz=>?_;walk_at "w";refine ih.call .asg S rfl hA fun a r v2 H4 e4 S A hA zz=>?_;walk_at "w";refine FE base (u:=.colon) rfl S hA fun r H5 e5 S hA zz=>?_;walk_at "w";have zd:=e3.trans (e4.trans e5);refine QL (vU.ext N zd).line ?_;walk_at "w";refine ih.call .asg S rfl hA fun b r v3 H6 e6 S B hA zz=>?_;intro q hq _;walk_at "w";refine CV base S hq fun a8 H8 e8 S nd zz=>?_;have Uf:=e6.trans e8;exact hA _ _ S ⟨⟨_,_,_,nd,(vU.ext N (zd.trans Uf)).rt,(vU.ext A (e5.trans Uf)).rt,(vU.ext B e8).rt⟩,nofun⟩
theorem CO(base:AG cY w)(ih:IH cY uK w z k)(S:Ps z H H ts nest)(hA:Fin z H nest .behind Q X (mi (P k) nest ts)):T2 cY uK w (k+9) (.ref Hd.LW) [.ref z.p] H Q X:=by refine Vg HU base rfl fun hC=>?_;simp only[yO];walk_at "w";refine Y6 base S fun H1 e1 S zz zz=>?_;walk_at "w";refine d7 base S hA fun q H2 e2 S hA zz=>?_;walk_at "w";refine ih.tail .unary S rfl hA fun t r v H3 e3 S N hA zz=>?_;walk_at "w";exact zh base S fun H4 e4 S zz=>hA v H4 S (vU.ext N e4)
theorem kT(o:Tk)(h:1≤Qa o):WI o=bif decide (((Qa o:Nat):Int)<3)then("Logical":Str)else("Binary":Str):=by revert h;exact bZ o (by kernel_rfl)
def ut(z:Pz)(H:AH)(nest least:Nat)(c:ZI)(Q:Value→AH→Prop)(X:AH→Prop)(m:Nat)(fr:dD)(H':AH):Prop:=∃t r u a b d,fr= [some (.ref z.p),some (.int least 0),some (.bool true),some u,a,b,d]∧Ps z H H' r nest∧vU H' t u∧Fin z H nest .unary Q X (Fj c nest least m t r)
theorem ut.mk{least l:Nat}{c:ZI}{H':AH}{t:Tr}{r:List Tk}{u:Value}{a b d:Option Value}(S:Ps z H H' r nest)(N:vU H' t u)(hA:Fin z H nest .unary Q X (Fj c nest least l t r)):
  ut z H nest least c Q X l [some (.ref z.p),some (.int least 0),some (.bool true),some u,a,b,d] H':=⟨t,r,u,a,b,d,rfl,S,N,hA⟩
@[elab_as_elim]theorem ut.el{least:Nat}{c:ZI}{m:Nat}{fr:dD}{H':AH}{C:Nat→dD→Prop}(h:ut z H nest least c Q X m fr H')
  (g:∀l t r u a b d,Ps z H H' r nest→vU H' t u→Fin z H nest .unary Q X (Fj c nest least (l+1) t r)→C (l+1) [some (.ref z.p),some (.int least 0),some (.bool true),some u,a,b,d]):C m fr:=by
 obtain⟨t,r,u,a,b,d,rfl,S,N,hA⟩:=h;cases m with
 |zero=>exact hA.elim
 |succ l=>exact g l t r u a b d S N hA
theorem I6(base:AG cY w)(ih:IH cY uK w z k)(S:Ps z H H ts nest){least:Nat}(tI:1≤least)(hA:Fin z H nest (.bin least) Q X (xI (P k) nest least ts)):T2 cY uK w (k+9) (.ref Hd.oQ) [.ref z.p,.int least 0,.bool true] H Q X:=by
 refine Vg tJ base rfl fun hC=>?_;simp only[JZ];walk_at "w";refine ih.call .unary S rfl hA fun t r v H1 e1 S N hA zz=>?_;walk_at "w";refine⟨ut z H nest least (P k) Q X,⟨_,.mk S N hA⟩,?_⟩;clear N hA S;intro m fr H2 hJ;refine ut.el hJ fun l t r u a b d S N hA=>?_;walk_at "w";refine w8 (n:=k+6) base S fun zz=>?_;walk_at "w";have key:decide (((prio r:Nat):Int)≥(least:Int))=is (fun o=>decide (least≤Qa o)) r:=by
  cases r with
  |nil=>exact decide_eq_false (by show¬((0:Nat):Int)≥(least:Int);lia)
  |cons o r=>exact decide_eq_decide.mpr Int.ofNat_le
 refine BD key hA (fun zz hA=>hA u H2 S N) fun o ho hp hB=>?_;walk_at "w";refine w8 (n:=k+6) base S fun zz=>?_;walk_at "w";refine Y6 base S fun H3 e3 S T zz=>?_;walk_at "w";refine QL T.value ?_;walk_at "w";have pr:prio r=Qa o:=by cases r<;>cases ho;rfl
 refine ih.call (.bin (Qa o+1)) S ⟨by rw[pr];rfl,Nat.succ_pos _⟩ hB fun b r v2 H4 e4 S M hA zz=>?_;walk_at "w";have kk:=kT o (z2n tI (of_decide_eq_true hp));have N4:=vU.ext N (e3.trans e4);have fin:∀kd,WI o=kd→∀q5,H4 q5=none→∀{a b d},T2 cY uK w (k+8) (.ref Hd.Vk) [.str kd 0,.int 1 0,.ref q5] (upd H4 q5 (.lst [.str (vO (some o)) 0,u,v2])) (fun v3 H'=>zQ H'→∃m,m<l+1∧ut z H nest least (P k) Q X m [some (.ref z.p),some (.int least 0),some (.bool true),some v3,a,b,d] H') X:=by rintro _ rfl q5 Iy _ _ _;exact CV base S Iy fun a6 H6 e6 S nd zz=>⟨l,K7i _,.mk (t:=.bin o t b) S ⟨⟨_,_,nd,(vU.ext N4 e6).rt,(vU.ext M e6).rt⟩,nofun⟩ hA⟩
 rw[pr,ho];cases q3:decide (((Qa o:Nat):Int)<3)
 all_goals
  rw[q3]at kk;walk_at "w";refine QL N4.line ?_;walk_at "w";exact fun q5 Iy zz=>fin _ kk q5 Iy
noncomputable def dM(t:Tk):Bool:=([.plus,.minus,.not]:List Tk).contains t
noncomputable def xL(t:Tk):Bool:=([.vN,.void]:List Tk).contains t
theorem ip(ts:List Tk):(decide (CM ts.head? = .SK)&&bh.any (· ==vO ts.head?))=is dM ts:=by
 cases ts with
 |nil=>decide +kernel
 |cons t r=>exact bZ (p:=fun t=>(decide (t.kd= .SK)&&bh.any (· ==t.v))=dM t) t (by kernel_rfl)
theorem jr(ts:List Tk):(decide (CM ts.head? = .keyword)&&SO.any (· ==vO ts.head?))=is xL ts:=by
 cases ts with
 |nil=>decide +kernel
 |cons t r=>exact bZ (p:=fun t=>(decide (t.kd= .keyword)&&SO.any (· ==t.v))=xL t) t (by kernel_rfl)
theorem Se(ts:List Tk):is wj ts=(is dM ts || is xL ts):=by
 cases ts with
 |nil=>rfl
 |cons t r=>exact bZ (p:=fun t=>wj t=(dM t || xL t)) t (by kernel_rfl)
theorem vh(o:Option Tk):(vO o==("delete":Str))=false:=by
 cases o with
 |none=>decide +kernel
 |some t=>exact bZ t (by kernel_rfl)
theorem Xi(o:Option Tk)(h:decide (CM o= .SK)=true):decide (CM o= .keyword)=false:=by rw[of_decide_eq_true h];rfl
theorem dG(base:AG cY w)(ih:IH cY uK w z k)(S:Ps z H H ts nest)(hA:Fin z H nest .unary Q X (wP (P k) nest ts)):T2 cY uK w (k+9) (.ref Hd.Ud) [.ref z.p] H Q X:=by
 have post:is PY ts=false→is wj ts=false→SU H (.ref z.p) Hd.Mg∧T2 cY uK w (k+8) (.ref Hd.FS) [.ref z.p] H (fun v H'=>zQ H'→Q v H') X:=fun z1 z2=>
  ih.tail .postfix S rfl (UJ z2 (UJ z1 hA)) fun t r v H' e S N hA zz=>hA v H' S N
 have un:is PY ts=false→is wj ts=true→∀G:Value→AH→Prop,(∀v H2,Wz H2 (au H z.p) ts.head? →
   (∀a,H2 a=none→T2 cY uK w (k+8) (.ref Hd.Vk) [.str ("Unary":Str) 0,.int 1 0,.ref a] (upd H2 a (.lst [.str (vO ts.head?) 0,v])) (fun v H'=>zQ H'→Q v H') X)→G v H2)→
   SU H (.ref z.p) Hd.Mg∧T2 cY uK w (k+8) (.ref Hd.LW) [.ref z.p] H G X:=fun z1 z2 G hG=>
  uS z2 (UJ z1 hA) fun o ho zz hB=>ih.call .behind S rfl hB fun a r v H2 e2 T N hA=>hG v H2 (S.tk.ext e2) fun a3 yy=>
   CV base T yy fun a4 H4 e4 S nd zz=>hA _ _ S ⟨⟨_,(ho▸nd:RP H4 (.ref a4) "Unary" [.str (vO (some o)) 0,v]),(vU.ext N e4).rt⟩,nofun⟩
 have k1:=QI ts;have k2:=ip ts;have k3:=jr ts;have k4:=Se ts;refine Vg f9 base rfl fun hC=>?_;simp only[K5];walk_at "w";refine QL S.token ?_;walk_at "w";refine QL S.tk.kind ?_;walk_at "w";rw[lE];cases q1:decide (CM ts.head? = .SK)
 ·rw[q1,Bool.false_and]at k1 k2;rw[←k2,Bool.false_or, ←k3]at k4;walk_at "w";refine QL S.tk.kind ?_;walk_at "w";rw[lE,q1];walk_at "w";refine QL S.tk.kind ?_;walk_at "w";rw[Qu];cases q2:decide (CM ts.head? = .keyword)
  ·rw[q2]at k4;walk_at "w";exact post k1.symm k4
  ·rw[q2]at k4 k3;walk_at "w";refine QL S.tk.value ?_;walk_at "w";refine RC ((TK hC).trans (R6T some k3)) ?_;rw[Bool.true_and]at k3;cases z2:is xL ts
   ·rw[k3,z2]at k4;walk_at "w";exact post k1.symm k4
   ·rw[k3,z2]at k4;walk_at "w";refine QL S.tk.plain ?_;walk_at "w";refine un k1.symm k4 _ fun v H2 T f3 zz=>?_;walk_at "w";refine QL T.value ?_;walk_at "w";rw[vh];walk_at "w";refine QL T.line ?_;walk_at "w";refine QL T.value ?_;walk_at "w";exact fun a ha zz=>f3 a ha
 ·rw[q1,Bool.true_and]at k1 k2;rw[Xi _ q1,Bool.false_and]at k3;rw[←k3,Bool.or_false]at k4;walk_at "w";refine QL S.tk.value ?_;walk_at "w";refine RC (vi hC) ?_;refine BD k1 hA (fun z1 hB=>?_) fun o ho zz hA=>?_
  ·walk_at "w";refine QL S.tk.kind ?_;walk_at "w";rw[lE,q1];walk_at "w";refine QL S.tk.value ?_;walk_at "w";rw[(yk hC).trans (congrArg some k2)];walk_at "w";refine QL S.tk.kind ?_;walk_at "w";rw[Qu,Xi _ q1];walk_at "w";cases z2:is dM ts
   ·walk_at "w";exact post z1 (k4.trans z2)
   ·walk_at "w";refine un z1 (k4.trans z2) _ fun v H2 T f3 zz=>?_;walk_at "w";refine QL T.value ?_;walk_at "w";rw[vh];walk_at "w";refine QL T.line ?_;walk_at "w";refine QL T.value ?_;walk_at "w";exact fun a ha zz=>f3 a ha
  ·walk_at "w";refine ih.call .behind S rfl hA fun a r v H2 e2 T N hA zz=>?_;walk_at "w";refine aR (n:=k+2) base T N hA fun hA zz=>?_;have tk:Wz H2 (au H z.p) (some o):=ho▸S.tk.ext e2;walk_at "w";refine QL tk.line ?_;walk_at "w";refine QL tk.value ?_;walk_at "w";intro a3 yy _;exact CV base T yy fun a4 H4 e4 S nd zz=>hA _ _ S ⟨⟨_,nd,(vU.ext N e4).rt⟩,nofun⟩
end
end
section
section
variable{cY:Heap}{uK:OsState}{w:World}{n k:Nat}{X:AH→Prop}{H H0:AH}{Q:Value→AH→Prop}
variable{z:Pz}{ts:List Tk}{nest i:Nat}{Q':Tr→List Tk→Prop}{f:Tr→List Tk→Res}
theorem rr(k:Kd):(k.s != ("punct":Str))= !decide (k= .SK):=by rw[bne,lE]
theorem TL(base:AG cY w)(ih:IH cY uK w z k)(S:Ps z H H ts nest)(hA:Fin z H nest .postfix Q X (bf (P k) nest ts)):T2 cY uK w (k+9) (.ref Hd.FS) [.ref z.p] H Q X:=by
 refine Vg Ef base rfl fun hC=>?_;simp only[OC];walk_at "w";refine ih.call .lhs S rfl hA fun t r v H2 e2 S N hA hC=>?_;have key:=QI r;walk_at "w";refine QL S.token ?_;walk_at "w";refine QL S.tk.kind ?_;walk_at "w";rw[rr];cases q1:decide (CM r.head? = .SK)
 ·rw[q1]at key;exact Mv (UJ key.symm hA) v H2 S N
 ·rw[q1,Bool.true_and]at key;walk_at "w";refine QL S.token ?_;walk_at "w";refine QL S.tk.value ?_;walk_at "w";rw[ZR hC];refine BD key hA (fun zz hA=>hA v H2 S N) fun o ho zz hA=>?_;walk_at "w";refine QL S.token ?_;walk_at "w";refine QL S.tk.behind ?_;walk_at "w";refine aR (n:=k+2) base S N hA fun hA zz=>?_;walk_at "w";refine QL N.line ?_;walk_at "w";refine Y6 base S fun H3 e3 S T zz=>?_;walk_at "w";refine QL (ho▸T).value ?_;walk_at "w";intro a3 yy _;exact CV base S yy fun a4 H4 e4 S nd zz=>hA _ _ S ⟨⟨_,nd,(vU.ext N (e3.trans e4)).rt⟩,nofun⟩
theorem WV{H:AH}{t:Tr}{v:Value}(h:Qf H (bO ts) t v):vU H t v:=by unfold bO at h;cases q:is (eqT .new) ts<;>rw[q]at h<;>exact h
theorem l4(base:AG cY w)(ih:IH cY uK w z k)(S:Ps z H0 H ts nest){K:KQ}{fr:dD}(hA:((P k (bO ts) nest ts).bind f).el False (∀H',Ext H0 H'→X H') Q')
  (g:∀t r v H1,Ext H H1→Ps z H0 H1 r nest→vU H1 t v→(f t r).el False (∀H',Ext H0 H'→X H') Q'→zQ H1→K v (some (.ref z.p)::fr) H1):
  jd cY uK w (k+8) X (.wJ (.Df (.loc 0) (.own Hd.Mg Hd.ZZ) (.cons (.cst (.str ("new":Str) 0)) .nil)) (.Df (.loc 0) (.own Hd.Mg Hd.oM) .nil) (.Df (.loc 0) (.own Hd.Mg Hd.Dv) .nil)) K (some (.ref z.p)::fr) H:=by
 walk_at "w";refine ZD base S fun zz=>?_;rw[show("new":Str)=Tk.new.v from rfl,Ip (k:=.keyword) ts .new rfl (.inr rfl)];have main:PI H z.p ts (bO ts) [.ref z.p]→SU H (.ref z.p) Hd.Mg∧T2 cY uK w (k+8) (.ref (eG (bO ts))) [.ref z.p] H (NG K (some (.ref z.p)::fr)) X:=fun ja=>
  ih.call (bO ts) S ja hA fun t r v H1 e1 S N hA hC=>g t r v H1 e1 S (WV N) hA hC
 unfold bO at main;cases q:is (eqT .new) ts
 all_goals
  rw[q]at main;walk_at "w";exact main rfl
def o7(z:Pz)(H:AH)(nest:Nat)(c:ZI)(Q:Value→AH→Prop)(X:AH→Prop)(m:Nat)(fr:dD)(H':AH):Prop:=∃t r u,fr= [some (.ref z.p),some u]∧Ps z H H' r nest∧vU H' t u∧Fin z H nest .lhs Q X (Cp c nest m t r)
theorem o7.mk{l:Nat}{c:ZI}{H':AH}{t:Tr}{r:List Tk}{u:Value}(S:Ps z H H' r nest)(N:vU H' t u)(hA:Fin z H nest .lhs Q X (Cp c nest l t r)):o7 z H nest c Q X l [some (.ref z.p),some u] H':=⟨t,r,u,rfl,S,N,hA⟩
@[elab_as_elim]theorem o7.el{c:ZI}{m:Nat}{fr:dD}{H':AH}{C:Nat→dD→Prop}(h:o7 z H nest c Q X m fr H')
  (g:∀l t r u,Ps z H H' r nest→vU H' t u→Fin z H nest .lhs Q X (Cp c nest (l+1) t r)→C (l+1) [some (.ref z.p),some u]):C m fr:=by
 obtain⟨t,r,u,rfl,S,N,hA⟩:=h;cases m with
 |zero=>exact hA.elim
 |succ l=>exact g l t r u S N hA
theorem pT(base:AG cY w)(ih:IH cY uK w z k)(S:Ps z H H ts nest)(hA:Fin z H nest .lhs Q X (tf (P k) nest ts)):T2 cY uK w (k+9) (.ref Hd.Ov) [.ref z.p] H Q X:=by refine Vg fH base rfl fun hC=>?_;simp only[qX];refine And.intro S.inst (l4 base ih S hA fun t r v H1 e1 S N hA zz=>?_);walk_at "w";refine ih.go (.members t) S ⟨v,rfl,N⟩ hA fun t r v H2 e2 S N hA zz=>?_;walk_at "w";refine⟨o7 z H nest (P k) Q X,⟨_,.mk S N hA⟩,?_⟩;clear N hA S;intro m fr H2 hJ;refine o7.el hJ fun l t r u S N hA=>?_;walk_at "w";refine DB base (u:=.lp) rfl S hA (fun hA zz zz=>hA u H2 S N) fun r' zz hA zz=>?_;walk_at "w";refine⟨S.inst,QL N.line ?_⟩;walk_at "w";refine ih.call .args S rfl hA fun as r v2 H3 e3 S A hA zz=>?_;obtain⟨q,us,rfl,hq,jw⟩:qI H3 as v2:=A;intro a4 X5 _;walk_at "w";refine CV base S X5 fun a5 H5 e5 S nd zz=>?_;walk_at "w";exact ih.go (.members (.call t (yc as))) S ⟨_,rfl,⟨⟨_,_,_,nd,(vU.ext N (e3.trans e5)).rt,e5 _ _ hq trivial,Fa.ext e5 _ jw⟩,nofun⟩⟩ hA fun t r v H6 e6 S N hA zz=>⟨l,K7i _,.mk S N hA⟩
end
end
section
section
variable{cY:Heap}{uK:OsState}{w:World}{n k:Nat}{X:AH→Prop}{H H0:AH}{Q:Value→AH→Prop}
variable{z:Pz}{ts:List Tk}{nest i:Nat}
theorem jh:((vO (some .dot))==(".":Str))=true∧((vO (some .lb))==(".":Str))=false:=by decide +kernel
def cX(z:Pz)(H:AH)(nest:Nat)(c:ZI)(Q:Value→AH→Prop)(X:AH→Prop)(m:Nat)(fr:dD)(H':AH):Prop:=∃t r u d,fr= [some (.ref z.p),some u,d]∧Ps z H H' r nest∧vU H' t u∧Fin z H nest .lhs Q X (DI c nest m t r)
theorem cX.mk{l:Nat}{c:ZI}{H':AH}{t:Tr}{r:List Tk}{u:Value}{d:Option Value}(S:Ps z H H' r nest)(N:vU H' t u)(hA:Fin z H nest .lhs Q X (DI c nest l t r)):cX z H nest c Q X l [some (.ref z.p),some u,d] H':=⟨t,r,u,d,rfl,S,N,hA⟩
@[elab_as_elim]theorem cX.el{c:ZI}{m:Nat}{fr:dD}{H':AH}{C:Nat→dD→Prop}(h:cX z H nest c Q X m fr H')
  (g:∀l t r u d,Ps z H H' r nest→vU H' t u→Fin z H nest .lhs Q X (DI c nest (l+1) t r)→C (l+1) [some (.ref z.p),some u,d]):C m fr:=by
 obtain⟨t,r,u,d,rfl,S,N,hA⟩:=h;cases m with
 |zero=>exact hA.elim
 |succ l=>exact g l t r u d S N hA
theorem Ua(base:AG cY w)(ih:IH cY uK w z k)(S:Ps z H H ts nest){t:Tr}{u:Value}(N:vU H t u)(hA:Fin z H nest (.members t) Q X (DI (P k) nest (ts.length+1) t ts)):
  T2 cY uK w (k+9) (.ref Hd.dc) [.ref z.p,u] H Q X:=by
 refine Vg fO base rfl fun hC=>?_;simp only[mU];walk_at "w";refine⟨cX z H nest (P k) Q X,⟨_,.mk S N hA⟩,?_⟩;clear N hA S;intro m fr H2 hJ;refine cX.el hJ fun l t r u d S N hA=>?_;walk_at "w";refine DB base (u:=.dot) rfl S hA (fun hA zz zz=>?_) fun r S1 hA zz=>?_
 ·walk_at "w";refine DB base (u:=.lb) rfl S hA (fun hA zz zz=>hA u H2 S N) fun r S1 hA zz=>?_;walk_at "w";refine Y6 base S1 fun H3 e3 S T zz=>?_;walk_at "w";refine QL (Wz.value (o:=some .lb) T) ?_;walk_at "w";rw[jh.2];walk_at "w";refine ih.call .expr S rfl hA fun b r v2 H4 e4 S M hA zz=>?_;walk_at "w";refine FE base (u:=.rb) rfl S hA fun r H5 e5 S hA zz=>?_;walk_at "w";have N5:=vU.ext N (e3.trans (e4.trans e5));refine QL N5.line ?_;walk_at "w";intro a6 OA _;exact CV base S OA fun a7 H7 e7 S nd zz=>⟨l,K7i _,.mk (t:=.idx t b) S ⟨⟨_,_,nd,(vU.ext N5 e7).rt,(vU.ext M (e5.trans e7)).rt⟩,nofun⟩ hA⟩
 ·walk_at "w";refine Y6 base S1 fun H3 e3 S T zz=>?_;walk_at "w";refine QL (Wz.value (o:=some .dot) T) ?_;walk_at "w";rw[jh.1];walk_at "w";refine QL (vU.ext N e3).line ?_;walk_at "w";refine Xz (n:=k+1) base S hA fun y r H4 e4 S hA zz=>?_;intro a6 OA _;walk_at "w";exact CV base S OA fun a7 H7 e7 S nd zz=>⟨l,K7i _,.mk (t:=.mem t y) S ⟨⟨_,nd,(vU.ext N (e3.trans (e4.trans e7))).rt⟩,nofun⟩ hA⟩
theorem wY(base:AG cY w)(ih:IH cY uK w z k)(S:Ps z H H ts nest)(hA:Fin z H nest .rz Q X (ez (P k) nest ts)):T2 cY uK w (k+9) (.ref Hd.oM) [.ref z.p] H Q X:=by
 refine Vg x0 base rfl fun hC=>?_;simp only[G2];walk_at "w";refine Y6 base S fun H1 e1 S T zz=>?_;walk_at "w";refine QL T.line ?_;walk_at "w";refine d7 base S hA fun q H2 e2 S hA zz=>?_;refine And.intro S.inst (l4 base ih S hA fun t r v H3 e3 S N hA zz=>?_);walk_at "w";refine ih.go (.members t) S ⟨v,rfl,N⟩ hA fun t r v H4 e4 S N hA zz=>?_;walk_at "w";refine zh base S fun H5 e5 S zz=>?_;have N5:=vU.ext N e5;walk_at "w";refine DB base (u:=.lp) rfl S hA (fun hA zz zz=>?_) fun r' zz hA zz=>?_
 ·walk_at "w";intro a6 OA _ a7 CP _;have n67:a6≠a7:=fun z=>by rw[←z,Hu]at CP;cases CP
  refine CV base (S.new OA) CP fun a8 H8 e8 S nd zz=>?_;exact hA _ _ S ⟨⟨_,a6,[],nd,(vU.ext N5 ((Ext.refl.new OA).trans e8)).rt,e8 _ _ Hu trivial,trivial⟩,nofun⟩
 ·walk_at "w";refine ih.call .args S rfl hA fun as r v6 H6 e6 S A hA zz=>?_;obtain⟨q,us,rfl,hq,jw⟩:qI H6 as v6:=A;intro a7 CP _;walk_at "w";refine CV base S CP fun a8 H8 e8 S nd zz=>?_;exact hA _ _ S ⟨⟨_,_,_,nd,(vU.ext N5 (e6.trans e8)).rt,e8 _ _ hq trivial,Fa.ext e8 _ jw⟩,nofun⟩
end
end
section
noncomputable def del(H:AH)(a:Addr):AH:=fun b=>if b=a then none else H b
theorem LG{H:AH}{a:Addr}:del H a a=none:=if_pos rfl
theorem E2{H:AH}{a b:Addr}(h:b≠a):del H a b=H b:=if_neg h
theorem nr{H:AH}{a:Addr}{o:AO}(h:H a=some o):upd (del H a) a o=H:=by
 funext b;unfold upd del;split
 ·rename_i q;rw[q,h]
 ·rfl
theorem e9{K:AH}{a:Addr}{o:AO}(h:K a=none):del (upd K a o) a=K:=by
 funext b;unfold del;split
 ·rename_i q;rw[q,h]
 ·rename_i q;exact CH q
section
variable{cY:Heap}{uK:OsState}{w:World}{n:Nat}{X:AH→Prop}{H:AH}{Q:Value→AH→Prop}
theorem Hm{H:AH}{a b:Addr}{r:AO}(h:del H a b=some r):H b=some r:=by
 by_cases q:b=a
 ·exact MI (h.symm.trans (if_pos q))
 ·exact(if_neg q).symm.trans h
theorem AD{a b:Addr}(h:og (del H a) b):og H b:=h.imp (fun h=>h.imp fun zz z=>⟨Hm z.1,z.2⟩) fun h=>h.imp fun zz h=>h.imp fun zz h=>h.imp fun zz=>Hm
theorem Inv.del{Rk:Heap}{l:List Env}{s:Shared}(x:Inv cY uK Rk l s H)(a:Addr):Inv cY uK Rk l s (del H a):=
 ⟨x.stays,x.base,fun b o e=>x.rep b o (Hm e),fun b q=>x.own b (AD q),fun b c C C' d fs A6 e e'=>x.sep b c C C' d fs A6 (Hm e) (Hm e'),x.lY,fun L f q=>x.dY L f (AD q),x.gens,x.os⟩
theorem T2.wn{f:Value}{args:List Value}{a:Addr}{o:AO}(ha:H a=some o)(hd:∀C d fs,o≠ .inst C d fs)(h:T2 cY uK w n f args (del H a) (fun v H'=>H' a=none→Q v (upd H' a o)) (fun H'=>H' a=none→X (upd H' a o))):
  T2 cY uK w n f args H Q X:=fun A s outer Rk hr hf hh hi vs hv=>by
 have iZ:=hi.del a;have r:=hi.rep a _ ha;have free:fX (del H a) Rk outer a:=⟨hi.own a (.at ha),fun h=>h.elim (fun h=>h.elim fun o z=>MI (z.1.symm.trans LG)) fun h=>h.elim fun b h=>h.elim fun C h=>h.elim fun fs h=>(iZ.rep b _ h).2.elim fun es q=>q.elim fun zz q=>q.elim fun zz q=>
  r.obj.elim fun ob z=>z.2.nd (R6T Obj.data (Y1l (z.1.symm.trans q.1))),fun q=>hi.dY a q (.at ha)⟩
 have back {s':Shared} {H':AH} (y:Inv cY uK (vE s.heap (del H a) outer) outer s' H'):H' a=none∧Inv cY uK Rk outer s' (upd H' a o):=
  have f':=r.obj.elim fun ob z=>free.up (free.kept z.1) y
  ⟨f'.none,(yd iZ y).adopt f' (r.lift (fun ob e zz=>⟨ob.slots,y.stays a _ (free.kept e)⟩) fun C d fs q=>absurd q (hd C d fs)) hd⟩
 refine codeAny_mono (h A s outer _ hr hf hh (OH iZ) vs hv) fun r s' z=>?_;rcases r with e|(v|_|_|_)<;>first|exact z.elim|skip
 ·exact z.elim fun H' z=>⟨_,(back z.1).2,z.2.1,z.2.2.1.imp fun b c=>c.imp fun a0 c=>⟨c.1,flyingW_base (Rf iZ) c.2⟩,z.2.2.2 (back z.1).1⟩
 ·exact z.elim fun H' z=>⟨_,(back z.1).2,z.2.1,z.2.2 (back z.1).1⟩
theorem T2.frame{f:Value}{args:List Value}{a:Addr}{us:List Value}(ha:H a=some (.lst us))(h:T2 cY uK w n f args (del H a) (fun v H'=>H' a=none→Q v (upd H' a (.lst us))) (fun H'=>H' a=none→X (upd H' a (.lst us)))):T2 cY uK w n f args H Q X:=.wn ha (fun zz zz zz q=>nomatch q) h
variable{z:Pz}{ts wB:List Tk}{nest m k:Nat}{H0 K H':AH}{f:Addr}{us:List Value}{g:Tr→List Tk→Res}{Q':Tr→List Tk→Prop}
theorem Sd(hf:K f=none)(e:Ext (upd K f (.lst us)) H'):Ext K (del H' f):=fun a o q z=>by
 have na:a≠f:=fun y=>by rw[y,hf]at q;cases q
 rw[E2 na];exact e a o (by rw[CH na];exact q) z
@[elab_as_elim]theorem held{C:AH→Prop}(hK:K f=none)(S:Ps z H0 K ts nest)(e:Ext (upd K f (.lst us)) H')(T:Ps z H0 H' wB m)(k:∀K',K' f=none→Ext K K'→Ps z H0 K' wB m→C (upd K' f (.lst us))):C H':=by
 have hf:H' f=some (.lst us):=e f _ Hu trivial;rw[←nr hf];refine k _ LG (Sd hK e) (Ae.el T.st fun dp tk j pe dx i its h=>⟨⟨dp,tk,j,pe,dx,i,its,?_,?_,?_,h.left,h.rest⟩,S.ext.trans (Sd hK e)⟩)
 ·rw[E2 (fun q=>by have:=h.par;rw[q,hf]at this;cases this)];exact h.par
 ·rw[E2 (fun q=>by have:=h.lex;rw[q,hf]at this;cases this)];exact h.lex
 ·obtain⟨d,st,en,q⟩:=h.tok;exact⟨d,st,en,by rw[E2 (fun y=>by rw[y,hf]at q;cases q)];exact q⟩
theorem IH.hold(ih:IH cY uK w z k)(jb:SA)(hK:K f=none)(S:Ps z H0 K ts nest){args:List Value}(ja:PI K z.p ts jb args)(hA:((P k jb nest ts).bind g).el False (∀H',Ext H0 H'→X H') Q')
  (go:∀t r v K',K' f=none→Ext K K'→Ps z H0 K' r nest→Qf K' jb t v→(g t r).el False (∀H',Ext H0 H'→X H') Q'→Q v (upd K' f (.lst us))):
  SU (upd K f (.lst us)) (.ref z.p) Hd.Mg∧T2 cY uK w (k+8) (.ref (eG jb)) args (upd K f (.lst us)) Q X:=by
 refine⟨(S.new hK).inst,T2.frame Hu ?_⟩;rw[e9 hK];exact ih jb nest ts K args ja S.base _ _ (WB hA id (fun x H' e hn=>x _ (S.ext.trans (e.trans (Ext.refl.new hn)))) fun t r hA v H' T rep hn=>go t r v H' hn T.ext (S.on T) rep hA)
theorem xx:∀is:List It,(toks is).length≤(XE is).length
 | []=>g61 _
 |none::r=>by have:=xx r;show(toks r).length≤([32]++XE r).length;simp;lia
 |some t::r=>by have:=xx r;show(t::toks r).length≤(t.ch++XE r).length;rw[Fo];simp;lia
theorem Ps.len(S:Ps z H0 H ts nest):ts.length≤9000:=Ae.el S.st fun dp tk j pe dx i its h=>by have a:=xx its;have:=z.hl;rw[h.rest, ←h.left.txt]at a;simp at a;lia
theorem Gr:(Tk.this.v==("this":Str))=true:=by decide +kernel
theorem xt{s:Str}(h:(VS.all fun t=> !nz .keyword [t] s)=true)(ts:List Tk):nz .keyword ts s=false:=by
 cases ts with
 |nil=>rfl
 |cons t r=>exact(show nz .keyword [t] s=false by simpa using List.all_eq_true.mp h t (Tf t))
theorem lB(ts:List Tk)(h:is (vV .keyword) ts=true):([("this":Str),("null":Str),("true":Str),("false":Str)].any (· ==vO ts.head?))=is (eqT .this) ts:=by
 cases ts with
 |nil=>cases h
 |cons t r=>revert h;exact bZ (p:=fun t=>vV .keyword t=true→([("this":Str),("null":Str),("true":Str),("false":Str)].any (· ==t.v))=eqT .this t) t (by kernel_rfl)
theorem NV(base:AG cY w)(S:Ps z H H ts nest)(hts:is (vV .keyword) ts=true)(hA:Fin z H nest .word Q X (GH ts)):T2 cY uK w (k+9) (.ref Hd.A3) [.ref z.p] H Q X:=by
 refine Vg qb base rfl fun hC=>?_;simp only[RN];walk_at "w";refine QL S.token ?_;walk_at "w";refine ZD base S fun zz=>?_;rw[xt (by kernel_rfl)];walk_at "w";refine QL S.tk.value ?_;walk_at "w";intro a ha IQ;have S1:=S.new (o:=.tup [.str ("this":Str) 0,.str ("null":Str) 0,.str ("true":Str) 0,.str ("false":Str) 0]) ha;rw[Qv Hu (xs:=[("this":Str),("null":Str),("true":Str),("false":Str)]) rfl];refine BD (lB ts hts) hA (fun zz hA=>?_) fun o ho hp hA=>?_
 ·walk_at "w";exact PO base S1 (hA _ S1.ext)
 ·walk_at "w";have T1:=S.tk.ext S1.ext;refine QL T1.plain ?_;walk_at "w";refine Y6 base S1 fun H3 e3 S zz zz=>?_;cases kI hp;have T:Wz H3 (au H z.p) (some .this):=ho▸T1.ext e3;walk_at "w";refine QL T.value ?_;walk_at "w";rw[show(vO (some Tk.this)==("this":Str))=true from Gr];walk_at "w";refine QL T.line ?_;walk_at "w";intro a4 X5 _;exact CV base S X5 fun a5 H5 e5 S nd zz=>hA _ _ S ⟨nd,nofun⟩
end
end
section
section
variable{cY:Heap}{uK:OsState}{w:World}{n k:Nat}{X:AH→Prop}{H H0:AH}{Q:Value→AH→Prop}
variable{z:Pz}{ts:List Tk}{nest i:Nat}
def j5(z:Pz)(H:AH)(nest:Nat)(f:Addr)(lp:Nat→Ts→List Tk→Res)(jb:SA)(Nb:dD)(E:AH→Prop)(Q:Value→AH→Prop)(X:AH→Prop)(m:Nat)(fr:dD)(H':AH):Prop:=
 fr=Nb∧∃K acc us r,H'=upd K f (.lst us)∧K f=none∧Ps z H K r nest∧Fa K acc us∧E K∧us.length+m≤9100∧Fin z H nest jb Q X (lp m acc r)
section
variable{f:Addr}{lp:Nat→Ts→List Tk→Res}{jb:SA}{Nb fr:dD}{E:AH→Prop}{m l:Nat}{K H':AH}{acc:Ts}{us:List Value}{r:List Tk}{t:Tr}{v:Value}
theorem j5.mk(hK:K f=none)(S:Ps z H K r nest)(ra:Fa K acc us)(e:E K)(hs:us.length+m≤9100)(hA:Fin z H nest jb Q X (lp m acc r)):j5 z H nest f lp jb Nb E Q X m Nb (upd K f (.lst us)):=⟨rfl,K,acc,us,r,rfl,hK,S,ra,e,hs,hA⟩
theorem j5.more(hK:K f=none)(S:Ps z H K r nest)(ra:Fa K (acc.snoc t) (us++[v]))(e:E K)(hs:us.length+(l+1)≤9100)(hA:Fin z H nest jb Q X (lp l (acc.snoc t) r)):∃m,m<l+1∧j5 z H nest f lp jb Nb E Q X m Nb (upd K f (.lst (us++[v]))):=
 ⟨l,K7i _,.mk hK S ra e (by simp;lia) hA⟩
@[elab_as_elim]theorem j5.el{C:dD→AH→Prop}(h:j5 z H nest f lp jb Nb E Q X m fr H')(g:∀K acc us r,K f=none→Ps z H K r nest→Fa K acc us→E K→us.length+m≤9100→Fin z H nest jb Q X (lp m acc r)→C Nb (upd K f (.lst us))):C fr H':=by obtain⟨rfl,K,acc,us,r,rfl,hK,S,ra,e,hs,hA⟩:=h;exact g K acc us r hK S ra e hs hA
theorem Fm{p:Tk→Bool}{t:Tk}{yes:Tk→List Tk→Res}{no:Res}{O X:Prop}{Q:Tr→List Tk→Prop}(q:p t=true)(h:(yes t r).el O X Q):(hd p (t::r) yes no).el O X Q:=by rw[cL q];exact h
theorem Fin.lst(hK:K f=none)(S:Ps z H K r nest)(ra:Fa K acc us)(hA:Fin z H nest .args Q X (.ok (.arr acc) r)):Q (.ref f) (upd K f (.lst us)):=hA _ _ (S.new hK) ⟨f,us,rfl,Hu,Fa.ext (Ext.refl.new hK) acc ra⟩
end
theorem BX(base:AG cY w)(ih:IH cY uK w z k)(S:Ps z H H ts nest)(hA:Fin z H nest .args Q X (lj (P k) nest ts)):T2 cY uK w (k+9) (.ref Hd.ND) [.ref z.p] H Q X:=by
 refine Vg CG base rfl fun hC=>?_;simp only[Ks];walk_at "w";refine FE base (u:=.lp) rfl S hA fun r H1 e1 S hA zz=>?_;have hlen:=S.len;intro f hf IQ;refine⟨j5 z H nest f (kS (P k) nest) .args [some (.ref z.p),some (.ref f)] (fun zz=>True) Q X,⟨_,.mk (acc:=.nil) (us:=[]) hf S trivial trivial (by simp;lia) hA⟩,?_⟩;clear hA S IQ hf;intro m fr H2 hJ;refine j5.el hJ fun K acc us r hK S ra zz hs hA=>?_;cases m with
 |zero=>exact hA.elim
 |succ l=>
  walk_at "w";refine DB base (u:=.rp) rfl (S.new hK) hA (fun hA zz zz=>?_) fun r' S1 hA zz=>?_
  ·walk_at "w";refine⟨⟨f,_,rfl,Hu⟩,ih.hold .asg hK S rfl hA fun t r v K2 Bm e2 S N hA zz=>?_⟩;refine⟨f,us,v,rfl,Hu,by lia,rfl,?_⟩;rw[FI];have Gb:Fa K2 (acc.snoc t) (us++[v]):=Fa.snoc (Fa.ext e2 acc ra) (vU.rt N);walk_at "w";refine BL base (u:=.comma) rfl (S.new Bm) hA (fun hA zz zz=>?_) fun r H6 e6 S6 hA zz=>?_
   ·walk_at "w";refine FE base (u:=.rp) rfl (S.new Bm) hA fun r H7 e7 S7 hA zz=>?_;walk_at "w";exact held Bm S e7 S7 fun K7 qF e S=>Fin.lst qF S (Fa.ext e _ Gb) hA
   ·walk_at "w";refine DB base (u:=.rp) rfl S6 hA (fun hA zz zz=>?_) fun r' S1 hA zz=>?_
    ·walk_at "w";exact held Bm S e6 S6 fun K7 qF e S=>j5.more qF S (Fa.ext e _ Gb) trivial hs hA
    ·walk_at "w";exact PO base S6 (hA _ S6.ext)
  ·walk_at "w";refine FE base (u:=.rp) (yes:=fun zz r=>.ok (.arr acc) r) rfl S1 (Fm Ce hA) fun r H7 e7 S7 hA zz=>?_;walk_at "w";exact held hK S e7 S7 fun K7 qF e S=>Fin.lst qF S (Fa.ext e _ ra) hA
theorem nC(base:AG cY w)(ih:IH cY uK w z k)(S:Ps z H H ts nest)(hA:Fin z H nest .expr Q X (Va (P k) nest ts)):T2 cY uK w (k+9) (.ref Hd.VK) [.ref z.p,.bool true] H Q X:=by
 refine Vg q6 base rfl fun hC=>?_;simp only[nM];walk_at "w";refine ih.call .asg S rfl hA fun t r v H1 e1 S N hA zz=>?_;have hlen:=S.len;walk_at "w";refine DB base (u:=.comma) rfl S hA (fun hA zz zz=>hA v H1 S N) fun zz zz hA zz=>?_;walk_at "w";intro f hf _;refine⟨j5 z H nest f (qt (P k) nest) .expr [some (.ref z.p),some (.bool true),some v,some (.ref f)] (fun K=>vU K t v) Q X,⟨_,.mk (acc:=.cons t .nil) (us:=[v]) hf S ⟨vU.rt N,trivial⟩ N (by simp;lia) hA⟩,?_⟩;clear hA S N hf e1;intro m fr H2 hJ;refine j5.el hJ fun K acc us r hK S ra N hs hA=>?_;cases m with
 |zero=>exact hA.elim
 |succ l=>
  walk_at "w";refine BL base (u:=.comma) rfl (S.new hK) hA (fun hA zz zz=>?_) fun r H6 e6 S6 hA zz=>?_
  ·walk_at "w";refine QL (vU.ext N (Ext.refl.new hK)).line ?_;walk_at "w";intro a3 yy _;exact CV base (S.new hK) yy fun a4 H4 e4 S nd zz=>hA _ _ S ⟨⟨f,us,nd,e4 _ _ Hu trivial,Fa.ext ((Ext.refl.new hK).trans e4) acc ra⟩,nofun⟩
  ·refine held hK S e6 S6 fun K6 PJ e6 S=>?_;walk_at "w";refine⟨⟨f,_,rfl,Hu⟩,ih.hold .asg PJ S rfl hA fun t r v K2 Bm e2 S M hA zz=>?_⟩;refine⟨f,us,v,rfl,Hu,by lia,rfl,?_⟩;rw[FI];walk_at "w";have e:=e6.trans e2;exact j5.more Bm S (Fa.snoc (Fa.ext e acc ra) (vU.rt M)) (vU.ext N e) hs hA
noncomputable def Kr(c:ZI)(nest l:Nat)(acc:Ts)(ts:List Tk):Res:=hd (eqT .rb) ts (fun zz r=>.ok (.arr acc) r) (Bd c nest l acc ts)
theorem RH{c:ZI}{l:Nat}{acc:Ts}{X:Prop}{Q:Tr→List Tk→Prop}(h:(Bd c nest l acc ts).el False X Q):(Kr c nest l acc ts).el False X Q:=by
 cases l with
 |zero=>exact h.elim
 |succ l=>exact Ik (C:=fun R=>R.el False X Q) (fun zz=>h) fun t r e q=>by subst e;have h:(hd (eqT .rb) (t::r) (fun zz r=>.ok (.arr acc) r) _).el False X Q:=h;exact X4 q h
theorem yP(base:AG cY w)(ih:IH cY uK w z k)(S:Ps z H H ts nest)(hA:Fin z H nest .array Q X (O7 (P k) nest ts)):T2 cY uK w (k+9) (.ref Hd.OJ) [.ref z.p] H Q X:=by
 refine Vg Mr base rfl fun hC=>?_;simp only[QE];walk_at "w";refine Y6 base S fun H1 e1 S T zz=>?_;walk_at "w";refine QL T.line ?_;walk_at "w";have hlen:=S.len;intro f hf _;refine⟨j5 z H nest f (Kr (P k) nest) .array [some (.ref z.p),some (.int 1 0),some (.ref f)] (fun zz=>True) Q X,⟨_,.mk (acc:=.nil) (us:=[]) hf S trivial trivial (by simp at hlen⊢;lia) (RH hA)⟩,?_⟩;clear hA S T hf e1 hlen;intro m fr H2 hJ;refine j5.el hJ fun K acc us r hK S ra zz hs hA=>?_;walk_at "w";refine DB base (u:=.rb) rfl (S.new hK) hA (fun hA q zz=>?_) fun r' S1 hA zz=>?_
 ·cases m with
  |zero=>exact hA.elim
  |succ l=>
   walk_at "w";refine BL base (u:=.comma) rfl (S.new hK) (UJ q hA) (fun hA zz zz=>?_) fun r H6 e6 S6 hA zz=>?_
   ·walk_at "w";refine⟨⟨f,_,rfl,Hu⟩,ih.hold .asg hK S rfl hA fun t r v K2 Bm e2 S N hA zz=>?_⟩;refine⟨f,us,v,rfl,Hu,by lia,rfl,?_⟩;rw[FI];have Gb:Fa K2 (acc.snoc t) (us++[v]):=Fa.snoc (Fa.ext e2 acc ra) (vU.rt N);walk_at "w";refine DB base (u:=.rb) rfl (S.new Bm) hA (fun hA zz zz=>?_) fun r' S1 hA zz=>?_
    ·walk_at "w";refine FE base (u:=.comma) rfl (S.new Bm) hA fun r H7 e7 S7 hA zz=>?_;walk_at "w";exact held Bm S e7 S7 fun K7 qF e S=>j5.more qF S (Fa.ext e _ Gb) trivial hs (RH hA)
    ·walk_at "w";exact held Bm S .refl S1 fun K7 qF e S=>j5.more qF S (Fa.ext e _ Gb) trivial hs (Fm Ce hA)
   ·refine held hK S e6 S6 fun K6 PJ e6 S=>?_;walk_at "w";refine⟨⟨f,_,rfl,Hu⟩,⟨f,us,.none,rfl,Hu,by lia,rfl,?_⟩⟩;rw[FI];walk_at "w";exact j5.more PJ S (Fa.snoc (Fa.ext e6 acc ra) (show Wc _ .hole .none from rfl)) trivial hs (RH hA)
 ·walk_at "w";refine FE base (u:=.rb) (yes:=fun zz r=>.ok (.arr acc) r) rfl S1 (Fm Ce hA) fun r H7 e7 S7 hA zz=>?_;walk_at "w";intro a3 yy _;walk_at "w";refine CV base S7 yy fun a4 H4 e4 S8 nd zz=>?_;exact hA _ _ S8 ⟨⟨f,us,nd,e4 _ _ (e7 _ _ Hu trivial) trivial,Fa.ext ((Ext.refl.new hK).trans (e7.trans e4)) acc ra⟩,nofun⟩
theorem Rp(base:AG cY w)(hQ:Q .none H):T2 cY uK w (n+1) (.ref Hd.CF) [.bool false,.bool false] H Q X:=by refine Vg Qn base rfl fun hC=>?_;simp only[A5];walk_at "w";exact hQ
theorem Gf(k:Kd):([("number":Str),("text":Str)].any (· ==k.s))=decide (k= .text):=by cases k<;>decide +kernel
theorem DW(k:Kd):(k.s==("number":Str))=false:=by cases k<;>decide +kernel
theorem zs(k:Kd):(k.s==("name":Str))=decide (k= .name):=Yo k .name
theorem xX(k:Kd)(ts:List Tk)(h:k≠ .stop):decide (CM ts.head? =k)=is (vV k) ts:=by
 cases ts with
 |nil=>exact decide_eq_false (Ne.symm h)
 |cons t r=>rfl
theorem mK{s:Str}(h:(VS.all fun t=> !nz .SK [t] s)=true)(ts:List Tk):nz .SK ts s=false:=by
 cases ts with
 |nil=>rfl
 |cons t r=>exact(show nz .SK [t] s=false by simpa using List.all_eq_true.mp h t (Tf t))
theorem kdT{t:Tk}(h:vV .text t=true):t= .str:=by revert h;exact bZ t (by kernel_rfl)
theorem ZW(base:AG cY w)(ih:IH cY uK w z k)(S:Ps z H H ts nest)(hA:Fin z H nest .YK Q X (pz (P k) nest ts)):T2 cY uK w (k+9) (.ref Hd.Dv) [.ref z.p] H Q X:=by
 refine Vg jf base rfl fun hC=>?_;simp only[YV];walk_at "w";refine QL S.token ?_;walk_at "w";refine QL S.tk.kind ?_;walk_at "w";rw[zs];refine BD (xX .name ts nofun) hA (fun zz hA=>?_) fun o ho q hA=>?_
 ·walk_at "w";refine QL S.tk.kind ?_;walk_at "w";intro a ha xO;have S1:=S.new (o:=.tup [.str ("number":Str) 0,.str ("text":Str) 0]) ha;have T1:=S.tk.ext S1.ext;refine RC (Pf (vs:=[.str ("number":Str) 0,.str ("text":Str) 0]) Hu (xs:=[("number":Str),("text":Str)]) rfl) ?_;rw[Gf];generalize upd H a (.tup [.str ("number":Str) 0,.str ("text":Str) 0])=H1 at S1 T1;refine BD (xX .text ts nofun) hA (fun zz hA=>?_) fun o ho q hA=>?_
  ·walk_at "w";refine QL T1.kind ?_;walk_at "w";rw[Qu];refine BD (xX .keyword ts nofun) hA (fun zz hA=>?_) fun o ho q hA=>?_
   ·walk_at "w";refine BL base (u:=.lp) rfl S1 hA (fun hA zz zz=>?_) fun r H3 e3 S hA zz=>?_
    ·walk_at "w";refine DB base (u:=.lb) rfl S1 hA (fun hA zz zz=>?_) fun r S2 hA zz=>?_
     ·walk_at "w";refine wl base S1 fun zz=>?_;rw[mK (by kernel_rfl)];walk_at "w";refine wl base S1 fun zz=>?_;rw[mK (by kernel_rfl)];walk_at "w";refine wl base S1 fun zz=>?_;rw[mK (by kernel_rfl)];walk_at "w";exact PO (n:=k+3) base S1 (hA _ S1.ext)
     ·walk_at "w";exact ih.tail .array S1 rfl hA fun t r v H' e S N hA zz=>hA v H' S N
    ·walk_at "w";refine ih.call .expr S rfl hA fun t r v H4 e4 S N hA zz=>?_;walk_at "w";refine FE base (u:=.rp) rfl S hA fun r H5 e5 S hA zz=>?_;exact hA v H5 S (vU.ext N e5)
   ·walk_at "w";have hk:is (vV .keyword) ts=true:=by cases ts<;>cases ho;exact q
    exact ih.tail .word S1 ⟨rfl,hk⟩ hA fun t r v H' e S N hA zz=>hA v H' S N
  ·walk_at "w";refine⟨S1.inst,QL T1.uO ?_⟩;walk_at "w";refine QL S1.strict ?_;walk_at "w";refine Rp base fun zz=>?_;walk_at "w";refine Zk base S1 fun zz=>?_;walk_at "w";refine Y6 base S1 fun H3 e3 S zz zz=>?_;cases kdT q;have T:Wz H3 (au H z.p) (some .str):=ho▸T1.ext e3;walk_at "w";refine QL T.kind ?_;walk_at "w";rw[DW];walk_at "w";refine QL T.line ?_;walk_at "w";refine QL T.value ?_;walk_at "w";intro a3 yy _;exact CV base S yy fun a4 H4 e4 S nd zz=>hA _ _ S ⟨nd,nofun⟩
 ·walk_at "w";refine QL S.tk.line ?_;walk_at "w";refine d8 (n:=k+1) base S ho q fun H1 e1 S zz=>?_;intro a3 yy _;walk_at "w";exact CV base S yy fun a4 H4 e4 S nd zz=>hA _ _ S ⟨nd,nofun⟩
theorem lK(base:AG cY w):∀k,IH cY uK w z k
 |0=>fun jb nest ts H args ja S Q X hA=>hA.elim
 |k+1=>fun jb nest ts H args ja S Q X hA=>by
  have ih:=lK base k;cases jb with
  |expr=>cases ja;exact nC base ih S hA
  |asg=>cases ja;exact GO base ih S hA
  |cond=>cases ja;exact dI base ih S hA
  |bin l=>obtain⟨rfl,h1⟩:=ja;exact I6 base ih S h1 hA
  |unary=>cases ja;exact dG base ih S hA
  |behind=>cases ja;exact CO base ih S hA
  | «postfix» =>cases ja;exact TL base ih S hA
  |lhs=>cases ja;exact pT base ih S hA
  |members t=>obtain⟨u,rfl,N⟩:=ja;exact Ua base ih S N hA
  |rz=>cases ja;exact wY base ih S hA
  |args=>cases ja;exact BX base ih S hA
  |YK=>cases ja;exact ZW base ih S hA
  |word=>obtain⟨rfl,h1⟩:=ja;exact NV base S h1 hA
  |array=>cases ja;exact yP base ih S hA
end
end
section
section
variable{cY:Heap}{uK:OsState}{w:World}{n:Nat}{X:AH→Prop}{H:AH}{Q:Value→AH→Prop}
def KS(cY:Heap)(uK:OsState)(w:World)(n:Nat)(f:Addr)(args:List Value)(H:AH)(l:List Nat):Prop:=
 ∀Q:Value→AH→Prop,(∀H',yf H H'→Q (.str (n6 l) 0) H')→T2 cY uK w n (.ref f) args H Q (fun zz=>False)
theorem KS.mono{n m:Nat}{f:Addr}{args:List Value}{l:List Nat}(h:KS cY uK w n f args H l)(hn:n≤m):KS cY uK w m f args H l:=fun Q hQ=>(h Q hQ).mono _ _ _ hn (fun zz zz z=>z) fun zz z=>z
theorem lits:("":Str)=n6 []∧("\"":Str)=n6 [34]∧(", ":Str)=n6 [44,32]∧("(":Str)=n6 [40]∧(")":Str)=n6 [41]∧("[":Str)=n6 [91]∧("]":Str)=n6 [93]∧(".":Str)=n6 [46]∧(" ":Str)=n6 [32]∧(" ? ":Str)=n6 [32,63,32]∧(" : ":Str)=n6 [32,58,32]∧("new ":Str)=n6 [110,101,119,32]∧(",":Str)=n6 [44]:=by decide +kernel
theorem G0{Q:Value→dD→AH→Prop}{fr:dD}{a b:List Nat}{s t}(h:a.length+b.length≤1000000):Ku Q .Add (.str (n6 a) s) (.str (n6 b) t) fr H=Q (.str (n6 (a++b)) 0) fr H:=by rw[QZ (by rw[Q8,Q8,sizeLine_eq];lia),AS]
theorem lp{x y:List Nat}{k:Nat}(h:(x++y).length≤k):x.length≤k:=z2n (by rw[List.length_append];exact B99 ..) h
theorem lr{x y:List Nat}{k:Nat}(h:(x++y).length≤k):y.length≤k:=z2n (by rw[List.length_append];exact Nat.le_add_left ..) h
theorem Im{Q:Value→dD→AH→Prop}{fr:dD}{a b:List Nat}{y z:Str}{s t}(e1:y=n6 a)(e2:z=n6 b)(h:(a++b).length≤8000)(g:Q (.str (n6 (a++b)) 0) fr H):Ku Q .Add (.str y s) (.str z t) fr H:=by rw[e1,e2,G0 (by rw[←List.length_append];exact Nat.le_trans h (by decide))];exact g
theorem Qg{Q:Value→dD→AH→Prop}{fr:dD}{a:List Nat}{y:Str}{s t}(e1:y=n6 a)(h:a.length≤8000)(g:Q (.str (n6 a) 0) fr H):Ku Q .Add (.str y s) (.str ("":Str) t) fr H:=Im e1 lits.1 (by rw[List.append_nil];exact h) (by rw[List.append_nil];exact g)
theorem ux{e:E}{es:Es}{vs:List Value}{xs:List Str}{x:Str}{Q:KQ}{fr:dD}(h1:∀K:KQ,K (.str x 0) fr H→jd cY uK w n X e K fr H)(h2:∀K:KL,K vs fr H→bU cY uK w n X es K fr H)(hv:strsOf vs=some xs)(g:∀H',yf H H'→zQ H'→Q (.bool (xs.any (· ==x))) fr H'):jd cY uK w n X (.cmp .In e (.tup es)) Q fr H:=
 h1 _ (h2 _ fun a ha hC=>(show dU .In (.str x 0) Q (.ref a) fr (upd H a (.tup vs))by unfold dU;rw[Pf Hu hv];exact g _ (yf.refl.new ha) hC))
theorem iL{s:List Nat}{ls:List (List Nat)}{a:Addr}{t}(h:H a=some (.lst (ls.map fun l=>.str (n6 l) 0)))(hz:(ls.map (·.length)).sum+ls.length*s.length≤1000000):MG H "str.join" [.str (n6 s) t,.ref a]=some (.str (n6 (jn s ls)) 0):=by
 have e1:strsOf (ls.map fun l=>.str (n6 l) 0)=some (ls.map n6):=by
  clear h hz
  induction ls with
  |nil=>rfl
  |cons c r ih=>exact R6T (Option.map (n6 c:: ·)) ih
 have e3:(ls.map n6).map (·.length)=ls.map (·.length):=by rw[List.map_map];refine List.map_congr_left fun l zz=>Q8 l
 rw[rE (Qj h) e1,Tx];rw[e3,List.length_map,Q8];lia
theorem je(t:Tk)(h:t.kd= .name):∃c,t.ch= [c]∧c<128∧t.v=n6 [c]:=
 ⟨t.ch.headD 0,bZ (p:=fun t=>t.kd= .name→t.ch= [t.ch.headD 0]∧t.ch.headD 0<128∧t.v=n6 [t.ch.headD 0]) t (by kernel_rfl) h⟩
theorem zy(base:AG cY w){t:Tk}(h:t.kd= .name):KS cY uK w (n+1) Hd.Mf [.str t.v 0] H t.ch:=fun Q hQ=>by
 obtain⟨c,e1,e2,e3⟩:=je t h;rw[e3];have hQ:∀H',yf H H'→Q (.str (n6 [c]) 0) H':=e1▸hQ;refine Vg Rw base rfl fun hC=>?_;simp only[Mh];walk_at "w";refine⟨⟨_,rfl⟩,rfl,fun zz z=>z,0,[.str ⟨#[c]⟩ 0],rfl,by simp,fun k acc H'=>H'=H∧acc=(List.replicate k (.str (n6 [c]) 0)),⟨rfl,rfl⟩,?_,?_,?_⟩
 ·rintro k acc H' ⟨rfl,rfl⟩;exact⟨rfl,by simp⟩
 ·rintro k x acc H' hx ⟨rfl,rfl⟩;rcases k with _|k
  ·cases hx;simp only[uh,List.map_cons,List.map_nil,Option.bind_none];walk_at "w";refine QL (Bp) ?_;walk_at "w";refine EO (decide_eq_true (Int.ofNat_lt.mpr e2)) ?_;walk_at "w"
   rfl
  ·simp at hx
 ·rintro acc H' ⟨rfl,rfl⟩ a ha xO;walk_at "w";exact QL (lits.1▸iL (ls:=[[c]]) Hu (J1O rfl)) (hQ _ (yf.refl.new ha))
theorem x5(base:AG cY w):KS cY uK w (n+1) Hd.jR [.str Tk.str.v 0] H Tk.str.ch:=fun Q hQ=>by
 refine Vg qL base rfl fun hC=>?_;have e3:Tk.str.v=n6 [115]:=by decide +kernel
 rw[e3];simp only[uG];walk_at "w";intro f hf xO;refine⟨0,[.str ⟨#[115]⟩ 0],rfl,fun k fr H'=>k≤1∧H'=upd H f (.lst (List.replicate k (.str (n6 [115]) 0)))∧∃u v,fr= [some (.str (n6 [115]) 0),some (.ref f),u,v],⟨by lia,rfl,none,none,rfl⟩,fun zz zz zz zz=>rfl,?_,?_⟩
 ·rintro k x fr H' hx ⟨_,rfl,u,v,rfl⟩;rcases k with _|k
  ·cases hx;walk_at "w";refine QL (Bp) ?_;walk_at "w";rw[Gd xO];walk_at "w";refine wG (by kernel_rfl) ?_;walk_at "w";show BB _ _ _ _ (.bool true) _ _;walk_at "w";refine⟨⟨f,_,rfl,Hu⟩,⟨f,_,_,rfl,Hu,by simp,rfl,?_⟩⟩;exact⟨by lia,by rw[FI];rfl,_,_,rfl⟩
  ·simp at hx
 ·rintro fr H' ⟨_,rfl,u,v,rfl⟩;walk_at "w";refine⟨⟨_,rfl⟩,?_⟩;refine QL (lits.1▸iL (ls:=[[115]]) Hu (J1O rfl)) ?_;walk_at "w";refine Im lits.2.1 rfl (J1O rfl) ?_;walk_at "w";exact Im rfl lits.2.1 (J1O rfl) (hQ _ (yf.refl.new hf))
noncomputable def lT(t:Tr):Bool:=t.ctorIdx==6
noncomputable def Bl(t:Tr):Bool:=t.ctorIdx==5
theorem ug(t:Tr):((Kv t==("Binary":Str)) || (Kv t==("Logical":Str)))=lT t:=Om (f:=fun k=>(k==("Binary":Str)) || (k==("Logical":Str))) (g:=(· ==6)) (by kernel_rfl) t
theorem u5(t:Tr):(Kv t==("Update":Str))=Bl t:=Om (f:=(· ==("Update":Str))) (g:=(· ==5)) (by kernel_rfl) t
theorem Uv(t:Tr)(hb:lT t=false)(hu:Bl t=false)(hh:t≠ .hole):(qe.get (Kv t)).getD (.int 16 0)= .int (V3 t:Nat) 0:=by
 cases t with
 |hole=>exact absurd rfl hh
 |bin=>cases hb
 |upd=>cases hu
 |name|this|str=>kernel_rfl
 |un=>rw[za];kernel_rfl
 |asg=>rw[zB];kernel_rfl
 |cond=>rw[xP];kernel_rfl
 |comma=>rw[GJ];kernel_rfl
 |arr=>rw[ZK];kernel_rfl
 |call=>rw[XB];kernel_rfl
 |new=>rw[Ba];kernel_rfl
 |mem=>rw[lW];kernel_rfl
 |idx=>rw[uV];kernel_rfl
theorem gj(o:Tk)(h:0<eP o):JH.get o.v=some (.int (eP o:Nat) 0):=by revert h;exact bZ o (by kernel_rfl)
theorem Tb.IV{tb:Tb}{x:Str}{d u:Value}(h:(tb.get x).getD d=u){G:Prop}(g0:(tb.get x).isSome=false→d=u→G)(g1:(tb.get x).isSome=true→tb.get x=some u→G):G:=by
 cases e:tb.get x with
 |none=>rw[e]at h g0;exact g0 rfl h
 |some y=>rw[e]at h g1;exact g1 rfl (R6T some h)
def jt(H:AH)(pq:Addr)(ps:List Value):Prop:=∀{H':AH},yf H H'→∀(i:Nat){u:Value},ps[i]? =some u→ro H' (.ref pq) (.int i 0)=some u
theorem jt.of{pq:Addr}{ps:List Value}(e:H pq=some (.lst ps))(h:Nat.blt ps.length 1000000=true):jt H pq ps:=fun g i u hu=>Hy (g _ _ e) hu (Pn h)
theorem RP.subs{v:Value}{k:Str}{ps:List Value}(nd:RP H v k ps)(h:Nat.blt ps.length 1000000=true):∃pq,Ij H v .parts=some (.ref pq)∧jt H pq ps:=nd.parts.imp fun pq z=>⟨z.1,jt.of z.2 h⟩
theorem AQ{t:Tr}(h:lT t=true):∃o a b,t= .bin o a b:=Tr.bin.elim t (eq_of_beq h) fun zz zz zz=>⟨_,_,_,rfl⟩
theorem kN{t:Tr}(h:Bl t=true):∃o p a,t= .upd o p a:=Tr.upd.elim t (eq_of_beq h) fun zz zz zz=>⟨_,_,_,rfl⟩
theorem Wc.bin{o:Tk}{a b:Tr}{v:Value}(rt:Wc H (.bin o a b) v):∃u u' pq,Ij H v .parts=some (.ref pq)∧jt H pq [.str o.v 0,u,u']∧Wc H a u∧Wc H b u':=Exists.elim rt fun u h=>h.elim fun u' h=>(h.1.subs rfl).elim fun pq z=>⟨u,u',pq,z.1,z.2,h.2⟩
theorem Wc.upd{o:Tk}{p:Bool}{a:Tr}{v:Value}(rt:Wc H (.upd o p a) v):∃u pq,Ij H v .parts=some (.ref pq)∧jt H pq [.str o.v 0,.bool p,u]∧Wc H a u:=Exists.elim rt fun u h=>(h.1.subs rfl).elim fun pq z=>⟨u,pq,z.1,z.2,h.2⟩
theorem Zs(base:AG cY w){t:Tr}{v:Value}(rt:Wc H t v)(hk:LZ t=true)(hQ:Q (.int (V3 t:Nat) 0) H):T2 cY uK w (n+1) (.ref Hd.cH) [v] H Q X:=by
 have nh:t≠ .hole:=fun e=>by rw[e]at hk;cases hk
 refine Vg HS base rfl fun hC=>?_;simp only[NF];walk_at "w";have kd:=rt.kind nh;refine QL kd ?_;walk_at "w";have aX:lT t=true→jd cY uK w n X (.sub (.Vt (.ref Hd.um)) (.sub (.gZ (.loc 0) .parts) (.cst (.int 0 0)))) (iu (Oh Q)) [some v] H:=fun q=>by obtain⟨o,a,b,e⟩:=AQ q;obtain⟨u,u',pq,e1,s,_⟩:=Wc.bin (e▸rt);walk_at "w";refine QL e1 ?_;walk_at "w";refine QL (s .refl 0 rfl) ?_;walk_at "w";exact QL (F0 fw (gj o (Xu (e▸hk)).1)) (show Q (.int (V3 (.bin o a b):Nat) 0) H from e▸hQ)
 have kb:=ug t;have rest:lT t=false→wpS cY uK w n X (.ite (.cmp .Eq (.gZ (.loc 0) .kind) (.cst (.str ("Update":Str) 0))) (.ret (.wJ (.sub (.gZ (.loc 0) .parts) (.cst (.int 1 0))) (.Vt (.int 13 0)) (.Vt (.int 14 0)))) .nil (.ret (.wJ (.cmp .In (.gZ (.loc 0) .kind) (.Vt (.ref Hd.Il))) (.sub (.Vt (.ref Hd.Il)) (.gZ (.loc 0) .kind)) (.Vt (.int 16 0))))) (Oh Q) [some v] H:=fun hb=>by
  walk_at "w";refine QL kd ?_;walk_at "w";cases hu:Bl t
  ·refine wG ((u5 t).trans hu) ?_;walk_at "w";refine QL kd ?_;walk_at "w";rw[Ko hC (List.mem_of_elem_eq_true (by kernel_rfl)) (by kernel_rfl) di];refine Tb.IV (Uv t hb hu nh) (fun e e1=>?_) fun e e1=>?_
   ·exact Pp e (show Q _ H from e1▸hQ)
   ·refine EO e ?_;walk_at "w";refine QL kd ?_;exact QL (F0 di e1) hQ
  ·refine nZ ((u5 t).trans hu) ?_;obtain⟨o,p,a,e⟩:=kN hu;obtain⟨u,pq,e1,s,_⟩:=Wc.upd (e▸rt);walk_at "w";refine QL e1 ?_;walk_at "w";refine QL (s .refl 1 rfl) ?_;have hQ:Q (.int (V3 (.upd o p a):Nat) 0) H:=e▸hQ;cases p<;>exact hQ
 cases hb:lT t
 ·have kb:=Bool.or_eq_false_iff.mp (kb.trans hb);refine Oe kb.1 ?_;walk_at "w";refine QL kd ?_;walk_at "w";exact wG kb.2 (rest hb)
 ·cases e:Kv t==("Binary":Str)
  ·walk_at "w";refine QL kd ?_;walk_at "w";exact nZ ((Bool.or_eq_true_iff.mp (kb.trans hb)).resolve_left fun z=>nomatch e.symm.trans z) (aX hb)
  ·walk_at "w";exact aX hb
noncomputable def FO(t:Tr):Bool:=([13,14]:List Nat).elem t.ctorIdx
noncomputable def Nw(t:Tr):Bool:=t.ctorIdx==11
theorem Y1(t:Tr):([("Member":Str),("Index":Str)].any (· ==Kv t))=FO t:=Om (f:=fun k=>[("Member":Str),("Index":Str)].any (· ==k)) (g:=fun i=>([13,14]:List Nat).elem i) (by kernel_rfl) t
theorem iw(t:Tr):(Kv t==("Call":Str))=Nw t:=Om (f:=(· ==("Call":Str))) (g:=(· ==11)) (by kernel_rfl) t
theorem t6(t:Tr)(h:FO t=false):EF t=Nw t:=by cases t<;>first|rfl|cases h
theorem Di{t:Tr}(h:FO t=true):(∃b x,t= .mem b x)∨∃b c,t= .idx b c:=(List.mem_cons.mp (List.mem_of_elem_eq_true h)).imp (fun e=>Tr.mem.elim t e fun zz zz=>⟨_,_,rfl⟩) fun e=>Tr.idx.elim t (List.mem_singleton.mp e) fun zz zz=>⟨_,_,rfl⟩
theorem Wc.fst{t:Tr}{v:Value}(rt:Wc H t v)(h:FO t=true)(ok:LZ t=true):∃b u pq ps,Ij H v .parts=some (.ref pq)∧jt H pq (u::ps)∧Wc H b u∧LZ b=true∧EF b=EF t∧dT b<dT t:=by
 obtain⟨b,x,rfl⟩|⟨b,c,rfl⟩:=Di h
 ·exact Exists.elim rt fun u h=>(h.1.subs rfl).elim fun pq z=>⟨b,u,pq,_,z.1,z.2,h.2,(lH ok).1,rfl,K7i _⟩
 ·exact Exists.elim rt fun u h=>h.elim fun u' h=>(h.1.subs rfl).elim fun pq z=>⟨b,u,pq,_,z.1,z.2,h.2.1,(KD ok).1,rfl,Nat.lt_succ_of_le (w8W ..)⟩
theorem oW(base:AG cY w){t:Tr}{v:Value}(rt:Wc H t v)(hk:LZ t=true)(hQ:∀H',yf H H'→Q (.bool (EF t)) H'):T2 cY uK w (n+1) (.ref Hd.Ki) [v] H Q X:=by
 refine Vg X8 base rfl fun hC=>?_;simp only[WE,Rv];refine⟨fun m fr H'=>∃t' u,fr= [some u]∧Wc H' t' u∧LZ t'=true∧EF t'=EF t∧yf H H'∧m=dT t',⟨_,t,v,rfl,rt,hk,rfl,.refl,rfl⟩,fun m fr H' h=>h.elim fun t' h=>h.elim fun u h=>?_⟩;have aO:=h.2.1;have eZ:=h.2.2.1;have hc:=h.2.2.2.1;have g:=h.2.2.2.2.1;have nh:t'≠ .hole:=fun e=>by rw[e]at eZ;cases eZ
 rw[h.1,h.2.2.2.2.2];refine ux (fun K k=>QL (aO.kind nh) k) (fun K k=>k) (xs:=[("Member":Str),("Index":Str)]) rfl fun H2 g2 xO=>?_;have fN:=Wc.ext g2.ext t' aO;cases h1:FO t'
 ·rw[Y1,h1];walk_at "w";refine QL (fN.kind nh) ?_;walk_at "w";rw[iw, ←t6 t' h1,hc];exact hQ _ (g.trans g2)
 ·obtain⟨b,u',pq,ps,e1,s,rb,ob,hb,db⟩:=fN.fst h1 eZ;rw[Y1,h1];walk_at "w";refine QL e1 ?_;walk_at "w";refine QL (s .refl 0 rfl) ?_;exact⟨dT b,db,b,u',rfl,rb,ob,hb.trans hc,g.trans g2,rfl⟩
noncomputable def oF(t:Tr):Bool:=t.ctorIdx==3
noncomputable def BH(t:Tr):Bool:=t.ctorIdx==2
noncomputable def xB(t:Tr):Bool:=t.ctorIdx==10
noncomputable def isNew(t:Tr):Bool:=t.ctorIdx==12
noncomputable def aA(t:Tr):Bool:=t.ctorIdx==14
noncomputable def fu(t:Tr):Bool:=t.ctorIdx==9
noncomputable def tL(t:Tr):Bool:=t.ctorIdx==7
noncomputable def n8(t:Tr):Bool:=t.ctorIdx==8
noncomputable def Rm(t:Tr):Bool:=t.ctorIdx==4
noncomputable def qN(t:Tr):Bool:=([11,12,13,14]:List Nat).elem t.ctorIdx
theorem yA(t:Tr):(Kv t==("Bool":Str))=false:=Om (f:=(· ==("Bool":Str))) (g:=fun zz=>false) (by kernel_rfl) t
theorem Ja(t:Tr):(Kv t==("Num":Str))=false:=Om (f:=(· ==("Num":Str))) (g:=fun zz=>false) (by kernel_rfl) t
theorem OG(t:Tr):(Kv t==("Regex":Str))=false:=Om (f:=(· ==("Regex":Str))) (g:=fun zz=>false) (by kernel_rfl) t
theorem dK(t:Tr):(Kv t==("Object":Str))=false:=Om (f:=(· ==("Object":Str))) (g:=fun zz=>false) (by kernel_rfl) t
theorem pH(t:Tr):(Kv t==("Function":Str))=false:=Om (f:=(· ==("Function":Str))) (g:=fun zz=>false) (by kernel_rfl) t
theorem LQ(t:Tr):(Kv t==("Str":Str))=oF t:=Om (f:=(· ==("Str":Str))) (g:=(· ==3)) (by kernel_rfl) t
theorem V7(t:Tr):(Kv t==("Array":Str))=xB t:=Om (f:=(· ==("Array":Str))) (g:=(· ==10)) (by kernel_rfl) t
theorem D2(t:Tr):(Kv t==("New":Str))=isNew t:=Om (f:=(· ==("New":Str))) (g:=(· ==12)) (by kernel_rfl) t
theorem cF(t:Tr):(Kv t==("Index":Str))=aA t:=Om (f:=(· ==("Index":Str))) (g:=(· ==14)) (by kernel_rfl) t
theorem oy(t:Tr):(Kv t==("Comma":Str))=fu t:=Om (f:=(· ==("Comma":Str))) (g:=(· ==9)) (by kernel_rfl) t
theorem Kt(t:Tr):(Kv t==("Assign":Str))=tL t:=Om (f:=(· ==("Assign":Str))) (g:=(· ==7)) (by kernel_rfl) t
theorem Zx(t:Tr):(Kv t==("Cond":Str))=n8 t:=Om (f:=(· ==("Cond":Str))) (g:=(· ==8)) (by kernel_rfl) t
theorem Hh(t:Tr):(Kv t==("Unary":Str))=Rm t:=Om (f:=(· ==("Unary":Str))) (g:=(· ==4)) (by kernel_rfl) t
theorem sp(t:Tr):([("Member":Str),("Index":Str),("Call":Str),("New":Str)].any (· ==Kv t))=qN t:=Om (f:=fun k=>[("Member":Str),("Index":Str),("Call":Str),("New":Str)].any (· ==k)) (g:=fun i=>([11,12,13,14]:List Nat).elem i) (by kernel_rfl) t
theorem jO(t:Tr):(QF.get (Kv t)).isSome=BH t:=Om (f:=fun k=>(QF.get k).isSome) (g:=(· ==2)) (by kernel_rfl) t
noncomputable def oz(o:Tk):Bool:=wj o || PY o
noncomputable def VV(o:Tk):List Nat:=o.ch.drop (o.ch.length-1)
noncomputable def fg(t:Tk):Bool:=([.plus,.minus,.inc,.dec]:List Tk).contains t
theorem K8(o:Tk)(h:oz o=true):o.v=n6 o.ch∧Txt.slice (n6 o.ch) (some (-1)) none=n6 (VV o)∧o.ch.length≤10∧([("typeof":Str),("void":Str),("delete":Str)].any (· ==o.v))=xL o∧
  (xL o=false→∀H:AH,Et H .In (.str (n6 (VV o)) 0) (.str ("+-":Str) 0)=some (fg o)):=by
 have k1:=bZ (p:=fun o=>oz o=true→o.v=n6 o.ch∧Txt.slice (n6 o.ch) (some (-1)) none=n6 (VV o)∧o.ch.length≤10∧([("typeof":Str),("void":Str),("delete":Str)].any (· ==o.v))=xL o) o (by kernel_rfl) h;refine⟨k1.1,k1.2.1,k1.2.2.1,k1.2.2.2,fun q H=>?_⟩;have k2:=bZ (p:=fun o=>oz o=true→xL o=false→RM .In (.str (n6 (VV o)) 0) (.str ("+-":Str) 0)=some (fg o)) o (by kernel_rfl) h q;unfold Et;rw[k2]
 rfl
theorem sU(o:Tk)(b:List It):zb o b=(xL o || ((XE b).head? ==o.ch.getLast? &&fg o)):=rfl
theorem last_eq(o:Tk)(c:List Nat):(n6 (c.take 1)==n6 (VV o))=(c.head? ==o.ch.getLast?):=by
 obtain⟨x,e1⟩:=Option.isSome_iff_exists.mp (bZ (p:=fun o=>o.ch.getLast?.isSome=true) o (by kernel_rfl));have e2:VV o= [x]:=Y1l ((bZ (p:=fun o=>some (VV o)=o.ch.getLast?.map fun x=>[x]) o (by kernel_rfl)).trans (by rw[e1];rfl));rw[e1,e2];rw[Bool.eq_iff_iff];simp only[beq_iff_eq,VR];cases c with
 |nil=>simp
 |cons y r=>simp
theorem yX(o:Tk)(b:List It):XE (RZ o b)=o.ch++(if zb o b then[32]else[])++XE b:=by unfold RZ;cases zb o b<;>simp[XE,It.ch]
theorem Do(base:AG cY w){o:Tk}{b:List It}(ho:oz o=true)(hz:(XE (RZ o b)).length≤8000):KS cY uK w (n+1) Hd.fJ [.str o.v 0,.str (n6 (XE b)) 0] H (XE (RZ o b)):=fun Q hQ=>by
 obtain⟨p1,p2,p3,p4,p5⟩:=K8 o ho;refine Vg Hx base rfl fun hC=>?_;simp only[iH];refine ux (fun K k=>k) (fun K k=>k) (xs:=[("typeof":Str),("void":Str),("delete":Str)]) rfl fun H2 g xO=>?_;have hQ:=hQ H2 g;rw[yX]at hQ hz;have fin:∀(bb:Bool){y:Str}{v:Option Value},zb o b=bb→y=n6 (if bb then[32]else[])→Ku (mI .Add (jd cY uK w n (fun zz=>False) (.loc 1)) (iu (Oh Q))) .Add (.str o.v 0) (.str y 0) [some (.str o.v 0),some (.str (n6 (XE b)) 0),v] H2:=fun bb y v q e=>by subst q;refine Im p1 e (lp hz) ?_;walk_at "w";exact Im rfl rfl hz hQ
 have s2:Cb (.str o.v 0) (.int (-((1:Nat):Int)) 0) .none=some (.str (n6 (VV o)) 0):=p1▸Jc rfl rfl (by rw[Q8];lia) p2;walk_at "w";cases q1:xL o
 ·refine Oe (p4.trans q1) ?_;walk_at "w";refine QL (Jc rfl rfl (by rw[Q8];exact z2n (lr hz) (by decide)) (fV (cs:=XE b) (j:=1))) ?_;walk_at "w";refine QL s2 ?_;walk_at "w";have nb:zb o b=((XE b).head? ==o.ch.getLast? &&fg o):=by rw[sU,q1,Bool.false_or]
  cases q2:(XE b).head? ==o.ch.getLast?
  ·refine UU ((last_eq ..).trans q2) ?_;walk_at "w";exact fin false (nb.trans (by rw[q2];rfl)) lits.1
  ·refine zi ((last_eq ..).trans q2) ?_;walk_at "w";refine QL s2 ?_;walk_at "w";refine Dr (p5 q1 _) ?_;rw[q2,Bool.true_and]at nb;cases q3:fg o
   ·walk_at "w";exact fin false (nb.trans q3) lits.1
   ·walk_at "w";exact fin true (nb.trans q3) lits.2.2.2.2.2.2.2.2.1
 ·refine HR (p4.trans q1) ?_;walk_at "w";exact fin true (by rw[sU,q1];rfl) lits.2.2.2.2.2.2.2.2.1
theorem tn{v:Value}{k:Str}{ps:List Value}{b p:Option Value}{rest:dD}{r:S}{Q:KF}(nd:RP H v k ps)(g:∀pq H',Ij H v .parts=some (.ref pq)→yf H H'→zQ H'→wpS cY uK w n X r Q (some v::b::some (.str k 0)::some (.ref pq)::rest) H'):
  wpS cY uK w n X (.ol true [2,3] (.tup (.cons (.gZ (.loc 0) .kind) (.cons (.gZ (.loc 0) .parts) .nil))) r) Q (some v::b::p::none::rest) H:=
 nd.parts.elim fun pq z=>QL (u:=.str k 0) nd.kind (QL (u:=.ref pq) z.1 fun zz ha hC=>gX Hu (g pq _ z.1 (yf.refl.new ha) hC))
theorem RP.sub{v:Value}{k:Str}{ps:List Value}{pq:Addr}(nd:RP H v k ps)(hl:Nat.blt ps.length 1000000=true)(e:Ij H v .parts=some (.ref pq)):jt H pq ps:=
 nd.parts.elim fun q z=>jt.of (Value.ref.inj (Y1l (z.1.symm.trans e))▸z.2) hl
theorem CZ{v:Value}{k:Str}{ps:List Value}{b p:Option Value}{rest:dD}{r:S}{Q:KF}(nd:RP H v k ps)(hl:Nat.blt ps.length 1000000=true)(g:∀pq H',jt H pq ps→yf H H'→zQ H'→wpS cY uK w n X r Q (some v::b::some (.str k 0)::some (.ref pq)::rest) H'):
  wpS cY uK w n X (.ol true [2,3] (.tup (.cons (.gZ (.loc 0) .kind) (.cons (.gZ (.loc 0) .parts) .nil))) r) Q (some v::b::p::none::rest) H:=
 tn nd fun pq H' e=>g pq H' (nd.sub hl e)
theorem uZ{op:Operator}{i:Nat}{b:E}{u:Value}{Q:KQ}{fr:dD}(h:(fr[i]?).join=some u)(g:jd cY uK w n X b (Ie op u Q) fr H):jd cY uK w n X (.bin op (.loc i) b) Q fr H:=QL h g
theorem jW{kk k1:Str}{A r:S}{Q:KF}{fr:dD}(hf:(fr[2]?).join=some (.str kk 0))(h:(kk==k1)=false)(g:wpS cY uK w n X r Q fr H):wpS cY uK w n X (.ite (.cmp .Eq (.loc 2) (.cst (.str k1 0))) A .nil r) Q fr H:=QL hf (wG h g)
theorem nk{kk k1:Str}{A r:S}{Q:KF}{fr:dD}(hf:(fr[2]?).join=some (.str kk 0))(h:(kk==k1)=true)(hA:wpS cY uK w n X A Q fr H→wpS cY uK w n X A (HI (wpS cY uK w n X r) Q) fr H)(g:wpS cY uK w n X A Q fr H):wpS cY uK w n X (.ite (.cmp .Eq (.loc 2) (.cst (.str k1 0))) A .nil r) Q fr H:=QL hf (nZ h (hA g))
noncomputable def Ts.La:Ts→List Tr
 | .nil=>[]
 | .cons a as=>a::as.La
theorem uE:∀as:Ts,Vs as=as.La.map (sh 1)
 | .nil=>rfl
 | .cons a as=>by simp only[nX,Cr,Ts.La,List.map_cons,uE as];rfl
theorem Fa.get:∀{as:Ts}{us:List Value}{k:Nat}{u:Value},Fa H as us→us[k]? =some u→∃t,as.La[k]? =some t∧Wc H t u
 | .nil,[],_,_,_,h=>by cases h
 | .nil,_::_,_,_,h,_=>nomatch h
 | .cons _ _,[],_,_,h,_=>nomatch h
 | .cons a as,v::us,0,u,h,e=>by cases e;exact⟨a,rfl,h.1⟩
 | .cons a as,v::us,k+1,u,h,e=>by obtain⟨t,h1,h2⟩:=Fa.get (as:=as) (us:=us) (k:=k) (u:=u) h.2 (by simpa using e);exact⟨t,by simpa[Ts.La]using h1,h2⟩
theorem Fa.len:∀{as:Ts}{us:List Value},Fa H as us→us.length=as.La.length
 | .nil,[],_=>rfl
 | .nil,_::_,h=>nomatch h
 | .cons _ _,[],h=>nomatch h
 | .cons a as,v::us,h=>by simp[Ts.La,Fa.len h.2]
theorem B4:∀{as:Ts}{t:Tr},Pr as=true→t∈as.La→LZ t=true∧dT t≤sR as
 | .nil,_,_,h=>nomatch h
 | .cons a as,t,ok,h=>(List.mem_cons.mp h).elim (fun e=>e.symm▸⟨(lJ ok).1,w8W ..⟩) fun h=>(B4 (lJ ok).2 h).imp_right fun z=>z2n z (S28 ..)
theorem Wc.ref{t:Tr}{v:Value}(h:Wc H t v)(hn:t≠ .hole):∃a,v= .ref a:=by obtain⟨ps,a,d,q,e,_⟩:=h.node hn;exact⟨a,e⟩
theorem iM{t:Tr}(h:LZ t=true):t≠ .hole:=fun e=>by rw[e]at h;cases h
theorem Yl(a b:List It):XE (a++b)=XE a++XE b:=by simp[XE]
theorem oH(a:It)(b:List It):XE (a::b)=a.ch++XE b:=rfl
theorem TR(ls:List (List It)):XE (Xn ls)=jn [44,32] (ls.map XE):=by
 induction ls with
 |nil=>rfl
 |cons x r ih=>
  cases r with
  |nil=>rfl
  |cons y r=>
   rw[Xn,Yl,Yl,ih]
   rfl
theorem DS(s:List Nat)(ls:List (List Nat)):(ls.map (·.length)).sum≤(jn s ls).length∧(ls.map (·.length)).sum+ls.length*s.length≤(jn s ls).length+s.length:=by
 induction ls with
 |nil=>simp[jn]
 |cons x r ih=>
  cases r with
  |nil=>simp[jn]
  |cons y r=>
   rw[jn];obtain⟨i1,i2⟩:=ih;simp only[List.map_cons,List.sum_cons,List.length_cons,List.length_append]at i1 i2⊢;refine⟨by lia,?_⟩;have:(r.length+1+1)*s.length=(r.length+1)*s.length+s.length:=by rw[Nat.add_mul,Nat.one_mul]
   lia
theorem Mz{ls:List (List Nat)}{x:List Nat}(h:x∈ls):x.length≤(ls.map (·.length)).sum:=by
 induction ls with
 |nil=>cases h
 |cons y r ih=>
  simp only[List.map_cons,List.sum_cons];rcases List.mem_cons.mp h with rfl|h
  ·lia
  ·have:=ih h;lia
def SX(cY:Heap)(uK:OsState)(w:World)(d:Nat):Prop:=∀(t:Tr),dT t≤d→LZ t=true→∀(n:Nat)(H:AH)(v:Value)(l:Nat),Wc H t v→(XE (sh l t)).length≤8000→KS cY uK w (n+4*d+6) Hd.ze [v,.int l 0,.bool false] H (XE (sh l t))
def SB(cY:Heap)(uK:OsState)(w:World)(d:Nat):Prop:=∀(t:Tr),dT t≤d→LZ t=true→∀(n:Nat)(H:AH)(v:Value),Wc H t v→(XE (bare t)).length≤8000→KS cY uK w (n+4*d+5) Hd.gc [v,.bool false] H (XE (bare t))
theorem mG(b:List It):XE (some .lp::b++[some .rp])= [40]++XE b++[41]:=by rw[Yl];rfl
theorem lF(base:AG cY w){d:Nat}(sb:SB cY uK w d):SX cY uK w d:=fun t hd ok n H v l rt hz Q hQ=>by
 refine Vg Yy base rfl fun hC=>?_;simp only[oZ];walk_at "w";refine Zs (n:=n+4*d+4) base rt ok fun xO=>?_;walk_at "w"
 by_cases q:V3 t<l
 ·have e:XE (sh l t)= [40]++XE (bare t)++[41]:=(R6T XE (if_pos q)).trans (mG _);rw[e]at hz hQ;refine HR (decide_eq_true (Int.ofNat_lt.mpr q)) ?_;walk_at "w";refine sb t hd ok n H v rt (lr (lp hz)) _ fun H' g IQ=>?_;walk_at "w";refine Im lits.2.2.2.1 rfl (lp hz) ?_;walk_at "w";exact Im rfl lits.2.2.2.2.1 hz (hQ _ g)
 ·have e:sh l t=bare t:=if_neg q;rw[e]at hz hQ;refine Oe (decide_eq_false fun z=>q (Int.ofNat_lt.mp z)) ?_;walk_at "w";exact sb t hd ok n H v rt hz _ fun H' g IQ=>hQ _ g
theorem DA{d:Nat}(sx:SX cY uK w d){t:Tr}{u:Value}{l i:Nat}{H0:AH}{pq:Addr}{ps:List Value}{el eb:E}{Q:KQ}{fr:dD}(s:jt H0 pq ps)(hu:ps[i]? =some u)(f3:(fr[3]?).join=some (.ref pq))(hl:∀K:KQ,K (.int l 0) fr H→jd cY uK w (n+4*d+7) (fun zz=>False) el K fr H)(hb:∀K:KQ,K (.bool false) fr H→jd cY uK w (n+4*d+7) (fun zz=>False) eb K fr H)
  (hd:dT t≤d) (ok:LZ t=true) (rt:Wc H0 t u) (hz:(XE (sh l t)).length≤8000) (g:yf H0 H) (c:∀H2,yf H0 H2→zQ H2→Q (.str (n6 (XE (sh l t))) 0) fr H2):
  jd cY uK w (n+4*d+7) (fun zz=>False) (.call (.ref Hd.ze) (.cons (.sub (.loc 3) (.cst (.int i 0))) (.cons el (.cons eb .nil)))) Q fr H:=
 QL f3 (QL (s g i hu) (hl _ (hb _ (show T2 cY uK w (n+4*d+7) _ _ H (NG Q fr) _ from(sx t hd ok n H u l (Wc.ext g.ext t rt) hz).mono (Nat.le_succ _) _ fun H2 g2 hC=>c H2 (g.trans g2) hC))))
noncomputable def NY(as:Ts):List Value:=(Vs as).map fun b=>.str (n6 (XE b)) 0
theorem jP{as:Ts}{k:Nat}{t:Tr}(h:as.La[k]? =some t):(NY as).take k++[.str (n6 (XE (sh 1 t))) 0]=(NY as).take (k+1):=by
 have e:(NY as)[k]? =some (.str (n6 (XE (sh 1 t))) 0):=by unfold NY;rw[uE];simp[h]
 rw[List.take_add_one,e];rfl
theorem xN{as:Ts}{a:Addr}(h:H a=some (.lst (NY as)))(hz:(XE (Xn (Vs as))).length≤8000):MG H "str.join" [.str (", ":Str) 0,.ref a]=some (.str (n6 (XE (Xn (Vs as)))) 0):=by have z:=(DS [44,32] ((Vs as).map XE)).2;rw[←TR]at z;rw[lits.2.2.1,iL (ls:=(Vs as).map XE) (by rw[h];unfold NY;rw[List.map_map];rfl) (Nat.le_trans z (Nat.le_trans (Nat.add_le_add_right hz _) (by decide))),TR]
theorem XQ{q:Addr}{us:List Value}(h:H q=some (.lst us)):uL H (.ref q)=some (1,us):=QY (Qj h)
theorem Fa.short{as:Ts}{us:List Value}(ra:Fa H as us)(hz:(XE (Xn (Vs as))).length≤8000):(NY as).length=us.length∧us.length≤9000:=by
 have z:=(DS [44,32] ((Vs as).map XE)).2;have e:(NY as).length=us.length:=by unfold NY;rw[uE,List.length_map,List.length_map,ra.len]
 rw[←TR,List.length_map]at z;unfold NY at e;rw[List.length_map]at e;exact⟨(List.length_map ..).trans e,by simp at z;lia⟩
theorem t8{d m:Nat}(sx:SX cY uK w d)(hm:n+4*d+6≤m){as:Ts}{us:List Value}{H0:AH}{q:Addr}(hd:sR as≤d)(ok:Pr as=true)(ra:Fa H0 as us)(hq:H0 q=some (.lst us))(hz:(XE (Xn (Vs as))).length≤8000){elt it:E}{fv:List (Option Nat)}{Q:KQ}{fr:dD}(g:yf H0 H)(hv:ik fr fv=true)
  (hit:∀K:KQ,K (.ref q) fr H→jd cY uK w m (fun zz=>False) it K fr H) (he:∀(K:KQ)(b:Addr)H',T2 cY uK w m (.ref Hd.ze) [.ref b,.int 1 0,.bool false] H' (NG K (uh fr fv 1 (.ref b))) (fun zz=>False)→jd cY uK w m (fun zz=>False) elt K (uh fr fv 1 (.ref b)) H')
  (c:∀a H',H' a=some (.lst (NY as))→yf H0 H'→zQ H'→Q (.ref a) fr H'):jd cY uK w m (fun zz=>False) (.comp elt it 1 fv) Q fr H:=by
 obtain⟨e1,e2⟩:=ra.short hz;refine⟨hv,fun zz z=>z,hit _ ⟨1,us,XQ (g _ _ hq),z2n e2 (by decide),fun k acc H'=>k≤us.length∧yf H0 H'∧acc=(NY as).take k,⟨V7h _,g,rfl⟩,fun k acc H' h=>⟨XQ (h.2.1 _ _ hq),?_⟩,fun k x acc H' hx h=>?_,fun acc H' h a ha hC=>?_⟩⟩
 ·rw[h.2.2,List.length_take,e1];exact Nat.min_eq_left h.1
 ·obtain⟨t,ht,rt⟩:=ra.get hx;obtain⟨o1,o2⟩:=B4 ok (C3D ht);obtain⟨b,e⟩:=rt.ref (iM o1);have mem:XE (sh 1 t)∈(Vs as).map XE:=by rw[uE];exact List.mem_map.mpr ⟨_,List.mem_map.mpr ⟨t,C3D ht,rfl⟩,rfl⟩
  have z:=z2n (Mz mem) (DS [44,32] ((Vs as).map XE)).1;rw[←TR]at z;subst e;refine he _ b H' ((sx t (z2n o2 hd) o1 n H' _ 1 (Wc.ext h.2.1.ext t rt) (z2n z hz)).mono hm _ fun H2 g2 zz=>⟨(List.getElem?_eq_some_iff.mp hx).1,h.2.1.trans g2,?_⟩);rw[h.2.2];exact jP ht
 ·rw[h.2.2,List.take_of_length_le (Nat.le_of_eq e1)]at hC⊢;exact c a _ Hu (h.2.1.new ha) hC
theorem DK(base:AG cY w){d:Nat}(sx:SX cY uK w d){as:Ts}{us:List Value}(hd:sR as≤d)(ok:Pr as=true)(ra:Fa H as us){q:Addr}(hq:H q=some (.lst us))(hz:([40]++XE (Xn (Vs as))++[41]).length≤8000):
  KS cY uK w (n+4*d+7) Hd.Ob [.ref q] H ([40]++XE (Xn (Vs as))++[41]):=fun Q hQ=>by
 refine Vg yM base rfl fun hC=>?_;simp only[Ax,y_ret,Wi,Db,mI,dA,w7,g9,LY];refine⟨⟨_,rfl⟩,t8 sx (g61 _) hd ok ra hq (lr (lp hz)) .refl rfl (fun K k=>k) (fun K b H' h=>h) fun a H' ha g xO=>?_⟩;walk_at "w";refine QL (xN ha (lr (lp hz))) ?_;walk_at "w";refine Im lits.2.2.2.1 rfl (lp hz) ?_;walk_at "w";exact Im rfl lits.2.2.2.2.1 hz (hQ _ g)
theorem EJ{a:Addr}{vs:List Value}{u:Value}{t}(h:H a=some (.lst vs))(hu:vs.getLast? =some u)(hp:0<vs.length):ro H (.ref a) (.int (-1) t)=some u:=by
 have e:seqIndex? (-1) vs.length=some (vs.length-1):=by
  unfold seqIndex?;have h2:(-1:Int)+(vs.length:Int)<(vs.length:Int):=by lia
  have h3:(0:Int)≤ -1+(vs.length:Int):=by lia
  simp only[show(-1:Int)<0 from by decide,if_true,h2,h3,decide_true,Bool.and_true]
  congr 1
  lia
 exact Yt (by constructor<;>decide) (Qj h) rfl e ((List.getLast?_eq_getElem? (l:=vs)).symm.trans hu)
theorem fG{a:Addr}{vs:List Value}(h:H a=some (.lst vs))(hk:vs.length<10000000):MG H "len" [.ref a]=some (.int vs.length 0):=ZB (Qj h) rfl hk
theorem kQ(base:AG cY w){d:Nat}(sx:SX cY uK w d){as:Ts}{us:List Value}(hd:sR as≤d)(ok:Pr as=true)(ra:Fa H as us){q:Addr}(hq:H q=some (.lst us))(hz:([91]++XE (Xn (Vs as))++[93]).length≤8000):
  KS cY uK w (n+4*d+7) Hd.U1 [.ref q] H ([91]++XE (Xn (Vs as))++[93]):=fun Q hQ=>by
 refine Vg HK base rfl fun hC=>?_;simp only[KZ];refine t8 sx (g61 _) hd ok ra hq (lr (lp hz)) .refl rfl (fun K k=>k) (fun K b H' h=>h) fun a H' ha g xO=>?_;have fin:jd cY uK w (n+4*d+6) (fun zz=>False) (.bin .Add (.bin .Add (.bin .Add (.cst (.str ("[":Str) 0)) (.Df (.cst (.str (", ":Str) 0)) .join (.cons (.loc 1) .nil))) (.loc 2)) (.cst (.str ("]":Str) 0))) (iu (Oh Q)) [some (.ref q),some (.ref a),some (.str ("":Str) 0)] H':=by walk_at "w";refine⟨⟨_,rfl⟩,?_⟩;refine QL (xN ha (lr (lp hz))) ?_;walk_at "w";refine Im lits.2.2.2.2.2.1 rfl (lp hz) ?_;walk_at "w";refine Qg rfl (lp hz) ?_;walk_at "w";exact Im rfl lits.2.2.2.2.2.2.1 hz (hQ _ g)
 have CN:=g _ _ hq;walk_at "w";refine QL (fG CN (Nat.lt_of_le_of_lt (ra.short (lr (lp hz))).2 (by decide))) ?_;walk_at "w";cases hu:us.getLast? with
 |none=>
  have:us= []:=List.getLast?_eq_none_iff.mp hu;refine UU (by rw[this];rfl) ?_;exact fin
 |some u=>
  have hp:0<us.length:=List.length_pos_iff.mpr fun e=>by rw[e]at hu;cases hu
  refine zi (decide_eq_true (Int.ofNat_lt.mpr hp)) ?_;walk_at "w";refine QL (EJ CN hu hp) ?_;obtain⟨t,ht,rt⟩:=ra.get (k:=us.length-1) (u:=u) (by rw[←List.getLast?_eq_getElem?];exact hu);obtain⟨b,rfl⟩:=rt.ref (iM (B4 ok (C3D ht)).1);exact fin
theorem LN{G:Tr→Prop}{t:Tr}(h:qN t=true)(h1:∀f as,G (.call f as))(h2:∀f as,G (.new f as))(h3:∀f x,G (.mem f x))(h4:∀a b,G (.idx a b)):G t:=
 (List.mem_cons.mp (List.mem_of_elem_eq_true h)).elim (fun e=>Tr.call.elim t e h1) fun h=>(List.mem_cons.mp h).elim (fun e=>Tr.new.elim t e h2) fun h=>(List.mem_cons.mp h).elim (fun e=>Tr.mem.elim t e h3) fun h=>Tr.idx.elim t (List.mem_singleton.mp h) h4
theorem Dh(x l:List It):XE (x++(some .lp::l++[some .rp]))=XE x++([40]++XE l++[41]):=by rw[Yl,mG]
theorem ID(m l:List It):XE ([some .new,none]++m++(some .lp::l++[some .rp]))= [110,101,119,32]++XE m++([40]++XE l++[41]):=by rw[Dh,Yl];rfl
theorem Iq(x:List It):XE (x++[some .dot,some .m])=XE x++[46]++Tk.m.ch:=by rw[Yl,List.append_assoc];rfl
theorem BG(x y:List It):XE (x++(some .lb::y++[some .rb]))=XE x++[91]++XE y++[93]:=by rw[Yl,Yl,List.append_assoc,List.append_assoc];rfl
theorem fm(base:AG cY w){d i:Nat}(sx:SX cY uK w d){as:Ts}{us:List Value}{H0:AH}{q pq:Addr}{ps:List Value}{Q:KQ}{fr:dD}(s:jt H0 pq ps)(hu:ps[i]? =some (.ref q))(f3:(fr[3]?).join=some (.ref pq))(hd:sR as≤d)(ok:Pr as=true)(hr:H0 q=some (.lst us)∧Fa H0 as us)
  (hz:([40]++XE (Xn (Vs as))++[41]).length≤8000) (g:yf H0 H) (c:∀H2,yf H0 H2→zQ H2→Q (.str (n6 ([40]++XE (Xn (Vs as))++[41])) 0) fr H2):
  jd cY uK w (n+4*d+7) (fun zz=>False) (.call (.ref Hd.Ob) (.cons (.sub (.loc 3) (.cst (.int i 0))) .nil)) Q fr H:=
 QL f3 (QL (s g i hu) (show T2 cY uK w (n+4*d+7) _ _ H (NG Q fr) _ from DK base sx hd ok (Fa.ext g.ext as hr.2) (g _ _ hr.1) hz _ fun H2 g2 hC=>c H2 (g.trans g2) hC))
theorem fb(base:AG cY w){d:Nat}(sx:SX cY uK w d)(sb:SB cY uK w d){f:Tr}{as:Ts}{v:Value}(hd:dT (.new f as)≤d+1)(ok:LZ (.new f as)=true)(rt:Wc H (.new f as) v)(hz:(XE (bare (.new f as))).length≤8000):
  KS cY uK w (n+4*d+8) Hd.JE [v,.bool false] H (XE (bare (.new f as))):=fun Q hQ=>by
 refine Vg EG base rfl fun hC=>?_;refine Exists.elim rt fun u h=>h.elim fun q h=>h.elim fun us h=>CZ (rest:=[none,none]) h.1 rfl fun pq H' s g xO=>nk rfl rfl (fun z=>z) ?_;have hd:=cO hd;have ok:=jY ok;have eb:XE (bare (.new f as))= [110,101,119,32]++XE (if V3 f=16∧EF f=true then some Tk.lp::bare f++[some .rp]else wrap 16 f (bare f))++([40]++XE (Xn (Vs as))++[41]):=(R6T XE AM).trans (ID ..);rw[eb]at hz hQ;have fin:∀(b:List Nat)(H2:AH),yf H H2→XE (if V3 f=16∧EF f=true then some Tk.lp::bare f++[some .rp]else wrap 16 f (bare f))=b→∀(x:Option Value),
   jd cY uK w (n+4*d+7) (fun zz=>False) (.bin .Add (.bin .Add (.cst (.str ("new ":Str) 0)) (.loc 4)) (.call (.ref Hd.Ob) (.cons (.sub (.loc 3) (.cst (.int 1 0))) .nil))) (iu (Oh Q)) [some v,some (.bool false),some (.str ("New":Str) 0),some (.ref pq),some (.str (n6 b) 0),x] H2:=fun b H2 g2 eb x=>by
  rw[eb]at hz hQ;refine Im lits.2.2.2.2.2.2.2.2.2.2.2.1 rfl (lp hz) ?_;show jd _ _ _ _ _ _ _ _ _;refine fm base sx (i:=1) s rfl rfl hd.2 ok.2 h.2.2 (lr hz) g2 fun H3 g3 vX=>?_;exact Im rfl rfl hz (hQ _ g3)
 have VU:(XE (sh 16 f)).length≤8000:=by
  have hm:=lr (lp hz)
  by_cases hb:V3 f=16∧EF f=true
  ·rw[if_pos hb,mG]at hm;exact(show sh 16 f=bare f from if_neg fun z=>by rw[hb.1]at z;exact absurd z (by decide))▸lr (lp hm)
  ·rw[if_neg hb]at hm;exact hm
 show jd _ _ _ _ _ _ _ _ _;refine DA (i:=0) (l:=16) sx s rfl rfl (fun K k=>k) (fun K k=>k) hd.1 ok.1 h.2.1 VU g fun H1 g1 IQ=>?_;walk_at "w";refine QL (s g1 0 rfl) ?_;walk_at "w";refine Zs base (Wc.ext g1.ext f h.2.1) ok.1 fun kt=>?_;walk_at "w"
 by_cases LK:V3 f=16
 ·refine zi (by rw[LK];rfl) ?_;walk_at "w";refine QL (s g1 0 rfl) ?_;walk_at "w";refine oW base (Wc.ext g1.ext f h.2.1) ok.1 fun H3 g3 vv=>?_;have T9:=g1.trans g3;cases hc:EF f
  ·exact fin _ H3 T9 (R6T XE (if_neg fun h=>by rw[hc]at h;cases h.2)) none
  ·walk_at "w";refine QL (s T9 0 rfl) ?_;walk_at "w";have em:XE (if V3 f=16∧EF f=true then some Tk.lp::bare f++[some .rp]else wrap 16 f (bare f))= [40]++XE (bare f)++[41]:=(R6T XE (if_pos ⟨LK,hc⟩)).trans (mG _);have hz:=em▸lr (lp hz);refine KS.mono (sb f hd.1 ok.1 n _ u (Wc.ext T9.ext f h.2.1) (lr (lp hz))) (B99 _ 2) _ fun H4 g4 RJ=>?_;walk_at "w";refine Im lits.2.2.2.1 rfl (lp hz) ?_;walk_at "w";refine Im rfl lits.2.2.2.2.1 hz ?_;exact fin _ H4 (T9.trans g4) em none
 ·refine UU (beq_eq_false_iff_ne.mpr fun z=>LK (Int.ofNat.inj z)) ?_;exact fin _ H1 g1 (R6T XE (if_neg fun h=>LK h.1)) none
theorem vH(base:AG cY w){d:Nat}(sx:SX cY uK w d)(sb:SB cY uK w d){t:Tr}{v:Value}(ha:qN t=true):dT t≤d+1→LZ t=true→Wc H t v→(XE (bare t)).length≤8000→KS cY uK w (n+4*d+8) Hd.JE [v,.bool false] H (XE (bare t)):=by
 refine LN (G:=fun t=>dT t≤d+1→LZ t=true→Wc H t v→(XE (bare t)).length≤8000→KS cY uK w (n+4*d+8) Hd.JE [v,.bool false] H (XE (bare t))) ha (fun f as hd ok rt hz Q hQ=>?_) (fun f as hd ok rt hz=>fb base sx sb hd ok rt hz) (fun f y hd ok rt hz Q hQ=>?_) fun f b hd ok rt hz Q hQ=>?_
 ·refine Vg EG base rfl fun hC=>?_;refine Exists.elim rt fun u h=>h.elim fun q h=>h.elim fun us h=>CZ (rest:=[none,none]) h.1 rfl fun pq H' s g xO=>jW rfl rfl ?_;have eb:XE (bare (.call f as))=_:=Dh (sh 15 f) _;rw[eb]at hz hQ;show jd _ _ _ _ _ _ _ _ _;refine DA (i:=0) (l:=15) sx s rfl rfl (fun K k=>k) (fun K k=>k) (cO hd).1 (Ep ok).1 h.2.1 (lp hz) g fun H1 g1 IQ=>?_;refine nk rfl rfl (fun z=>z) ?_;show jd _ _ _ _ _ _ _ _ _;refine uZ rfl ?_;refine fm base sx (i:=1) s rfl rfl (cO hd).2 (Ep ok).2 h.2.2 (lr hz) g1 fun H3 g3 vX=>?_;exact Im rfl rfl hz (hQ _ g3)
 ·refine Vg EG base rfl fun hC=>?_;obtain⟨o1,rfl⟩:=lH ok;refine Exists.elim rt fun u h=>CZ (rest:=[none,none]) h.1 rfl fun pq H' s g xO=>jW rfl rfl ?_;have eb:XE (bare (.mem f .m))=_:=Iq (sh 15 f);rw[eb]at hz hQ;show jd _ _ _ _ _ _ _ _ _;refine DA (i:=0) (l:=15) sx s rfl rfl (fun K k=>k) (fun K k=>k) (Nat.le_of_succ_le_succ hd) o1 h.2 (lp (lp hz)) g fun H1 g1 IQ=>?_;refine jW rfl rfl (jW rfl rfl ?_);walk_at "w";refine QL (s g1 0 rfl) ?_;walk_at "w";refine QL ((Wc.ext g1.ext f h.2).kind (iM o1)) ?_;walk_at "w";refine Pp (Ja f) ?_;walk_at "w";refine Im rfl lits.2.2.2.2.2.2.2.1 (lp hz) ?_;walk_at "w";refine QL (s g1 1 rfl) ?_;walk_at "w";refine zy base rfl _ fun H2 g2 kt=>?_;exact Im rfl rfl hz (hQ _ (g1.trans g2))
 ·refine Vg EG base rfl fun hC=>?_;refine Exists.elim rt fun u h=>h.elim fun u' h=>CZ (rest:=[none,none]) h.1 rfl fun pq H' s g xO=>jW rfl rfl ?_;have eb:XE (bare (.idx f b))=_:=BG (sh 15 f) (sh 0 b);rw[eb]at hz hQ;show jd _ _ _ _ _ _ _ _ _;refine DA (i:=0) (l:=15) sx s rfl rfl (fun K k=>k) (fun K k=>k) (cO hd).1 (KD ok).1 h.2.1 (lp (lp (lp hz))) g fun H1 g1 IQ=>?_;refine jW rfl rfl (nk rfl rfl (fun z=>z) ?_);refine Im rfl lits.2.2.2.2.2.1 (lp (lp hz)) ?_;show jd _ _ _ _ _ _ _ _ _;refine DA (i:=1) (l:=0) sx s rfl rfl (fun K k=>k) (fun K k=>k) (cO hd).2 (KD ok).2 h.2.2 (lr (lp hz)) g1 fun H2 g2 kt=>?_;refine Im rfl rfl (lp hz) ?_;exact Im rfl lits.2.2.2.2.2.2.1 hz (hQ _ g2)
theorem ci(o:Tk)(h:o≠ .str):o.v=n6 o.ch∧o.ch.length≤10:=⟨Zr o h,bZ o (by kernel_rfl)⟩
theorem vo{G:Tr→Prop}{t:Tr}(h1:qN t=false)(h2:xB t=false)(h3:BH t=false)(h4:oF t=false)(h5:isName t=false)(nh:t≠ .hole)(un:∀o f,G (.un o f))(upd:∀o p f,G (.upd o p f))(bin:∀o a b,G (.bin o a b))(asg:∀o a b,G (.asg o a b))(cond:∀a b c,G (.cond a b c))(comma:∀as,G (.comma as)):G t:=by
 cases t with
 |hole=>exact absurd rfl nh
 |name=>cases h5
 |this=>cases h3
 |str=>cases h4
 |arr=>cases h2
 |call|new|mem|idx=>cases h1
 |un=>exact un ..
 |upd=>exact upd ..
 |bin=>exact bin ..
 |asg=>exact asg ..
 |cond=>exact cond ..
 |comma=>exact comma _
theorem KV(o:Tk)(a b:List It):XE (a++hV o++b)=XE a++[32]++o.ch++[32]++XE b:=by rw[Yl,Yl,show XE (hV o)= [32]++o.ch++[32]by simp[XE,hV,It.ch], ←List.append_assoc, ←List.append_assoc]
theorem XI(o:Tk)(a:List It):XE (a++[some o])=XE a++o.ch:=by rw[Yl];exact R6T _ (List.append_nil _)
theorem Cs(a b c:List It):XE (a++hV .quest++b++hV .colon++c)=XE a++[32,63,32]++XE b++[32,58,32]++XE c:=by rw[Yl,Yl,Yl,Yl];rfl
theorem y6(base:AG cY w){d:Nat}(sx:SX cY uK w d){o:Tk}{a b:Tr}{v:Value}(hd:dT (.bin o a b)≤d+1)(ok:LZ (.bin o a b)=true)(rt:Wc H (.bin o a b) v)(hz:(XE (bare (.bin o a b))).length≤8000):KS cY uK w (n+4*d+8) Hd.tY [v,.bool false] H (XE (bare (.bin o a b))):=fun Q hQ=>by have eb:XE (bare (.bin o a b))=_:=KV o (sh (eP o) a) (sh (eP o+1) b);have hd:=cO hd;have ok:=Xu ok;have o1:=(ci o fun e=>by rw[e]at ok;exact absurd ok.1 (by decide)).1;rw[eb]at hz hQ;refine Vg Zf base rfl fun hC=>?_;refine Exists.elim rt fun u h=>h.elim fun u' h=>CZ (rest:=[none,none,none,none,none]) h.1 rfl fun pq H' s g xO=>jW rfl (oy (.bin o a b)) (jW rfl (Kt (.bin o a b)) (jW rfl (Zx (.bin o a b)) (jW rfl (Hh (.bin o a b)) (jW rfl (u5 (.bin o a b)) ?_))));walk_at "w";refine QL (s g 0 rfl) ?_;walk_at "w";refine QL (F0 fw (gj o ok.1)) ?_;show jd _ _ _ _ _ _ _ _ _;refine DA (i:=1) (l:=eP o) sx s rfl rfl (fun K k=>k) (fun K k=>k) hd.1 ok.2.1 h.2.1 (lp (lp (lp (lp hz)))) g fun H1 g1 IQ=>?_;walk_at "w";refine Im rfl lits.2.2.2.2.2.2.2.2.1 (lp (lp (lp hz))) ?_;walk_at "w";refine QL (s g1 0 rfl) ?_;refine Im rfl o1 (lp (lp hz)) ?_;refine Im rfl lits.2.2.2.2.2.2.2.2.1 (lp hz) ?_;show jd _ _ _ _ _ _ _ _ _;refine DA (i:=2) (l:=eP o+1) sx s rfl rfl (fun K k=>k) (fun K k=>k) hd.2 ok.2.2 h.2.2 (lr hz) g1 fun H2 g2 kt=>?_;exact Im rfl rfl hz (hQ _ g2)
theorem xy(base:AG cY w){d:Nat}(sx:SX cY uK w d){t:Tr}{v:Value}(h1:qN t=false)(h2:xB t=false)(h3:BH t=false)(h4:oF t=false)(h5:isName t=false)(nh:t≠ .hole):
  dT t≤d+1→LZ t=true→Wc H t v→(XE (bare t)).length≤8000→KS cY uK w (n+4*d+8) Hd.tY [v,.bool false] H (XE (bare t)):=by
 refine vo (G:=fun t=>dT t≤d+1→LZ t=true→Wc H t v→(XE (bare t)).length≤8000→KS cY uK w (n+4*d+8) Hd.tY [v,.bool false] H (XE (bare t))) h1 h2 h3 h4 h5 nh
  (fun o f hd ok rt hz Q hQ=>?_) (fun o p f hd ok rt hz Q hQ=>?_) (fun o a b hd ok rt hz=>y6 base sx hd ok rt hz) (fun o a b hd ok rt hz Q hQ=>?_) (fun a b c hd ok rt hz Q hQ=>?_) fun as hd ok rt hz Q hQ=>?_
 ·refine Vg Zf base rfl fun hC=>?_;refine Exists.elim rt fun u h=>CZ (rest:=[none,none,none,none,none]) h.1 rfl fun pq H' s g xO=>jW rfl rfl (jW rfl rfl (jW rfl rfl (nk rfl rfl (fun z=>z) ?_)));walk_at "w";refine QL (s g 0 rfl) ?_;show jd _ _ _ _ _ _ _ _ _;refine DA (i:=1) (l:=13) sx s rfl rfl (fun K k=>k) (fun K k=>k) (Nat.le_of_succ_le_succ hd) (Eh ok).2 h.2 (lr (yX o (sh 13 f)▸hz)) g fun H1 g1 IQ=>?_;walk_at "w";exact Do (n:=n+4*d+6) base (by unfold oz;rw[(Eh ok).1];rfl) hz _ fun H2 g2 kt=>hQ _ (g1.trans g2)
 ·refine Vg Zf base rfl fun hC=>?_;refine Exists.elim rt fun u h=>CZ (rest:=[none,none,none,none,none]) h.1 rfl fun pq H' s g xO=>jW rfl rfl (jW rfl rfl (jW rfl rfl (jW rfl rfl (nk rfl rfl (fun z=>z) ?_))));walk_at "w";refine QL (s g 1 rfl) ?_;have o2:=cK ok;cases p
  ·have eb:XE (bare (.upd o false f))=_:=XI o (sh 15 f);rw[eb]at hz hQ;simp only[k_f,kv,rV,y_ret,Wi];refine DA (i:=2) (l:=15) sx s rfl rfl (fun K k=>k) (fun K k=>k) (Nat.le_of_succ_le_succ hd) o2.2.2 h.2 (lp hz) g fun H1 g1 IQ=>?_;walk_at "w";refine QL (s g1 0 rfl) ?_;exact Im rfl (ci o fun e=>by rw[e]at o2;exact absurd o2.1 (by decide)).1 hz (hQ _ g1)
  ·simp only[k_t,y_ret,x_call,LY];walk_at "w";refine QL (s g 0 rfl) ?_;show jd _ _ _ _ _ _ _ _ _;refine DA (i:=2) (l:=13) sx s rfl rfl (fun K k=>k) (fun K k=>k) (Nat.le_of_succ_le_succ hd) o2.2.2 h.2 (lr (yX o (sh 13 f)▸hz)) g fun H1 g1 IQ=>?_;walk_at "w";exact Do (n:=n+4*d+6) base (by unfold oz;rw[o2.1,Bool.or_true]) hz _ fun H2 g2 kt=>hQ _ (g1.trans g2)
 ·refine Vg Zf base rfl fun hC=>?_;have eb:XE (bare (.asg o a b))=_:=KV o (sh 15 a) (sh 1 b);have hd:=cO hd;have ok:=Sj ok;have o1:=(ci o fun e=>by rw[e]at ok;exact absurd ok.1.1 (by decide)).1;rw[eb]at hz hQ;refine Exists.elim rt fun u h=>h.elim fun u' h=>CZ (rest:=[none,none,none,none,none]) h.1 rfl fun pq H' s g xO=>jW rfl rfl (nk rfl rfl (fun z=>z) ?_);show jd _ _ _ _ _ _ _ _ _;refine DA (i:=1) (l:=15) sx s rfl rfl (fun K k=>k) (fun K k=>k) hd.1 ok.2.1 h.2.1 (lp (lp (lp (lp hz)))) g fun H1 g1 IQ=>?_;walk_at "w";refine Im rfl lits.2.2.2.2.2.2.2.2.1 (lp (lp (lp hz))) ?_;walk_at "w";refine QL (s g1 0 rfl) ?_;refine Im rfl o1 (lp (lp hz)) ?_;refine Im rfl lits.2.2.2.2.2.2.2.2.1 (lp hz) ?_;show jd _ _ _ _ _ _ _ _ _;refine DA (i:=2) (l:=1) sx s rfl rfl (fun K k=>k) (fun K k=>k) hd.2 ok.2.2 h.2.2 (lr hz) g1 fun H2 g2 kt=>?_;exact Im rfl rfl hz (hQ _ g2)
 ·refine Vg Zf base rfl fun hC=>?_;have eb:XE (bare (.cond a b c))=_:=Cs (sh 3 a) (sh 1 b) (sh 1 c);have hd:=mx3 hd;have ok:=n7 ok;rw[eb]at hz hQ;refine Exists.elim rt fun u h=>h.elim fun u' h=>h.elim fun PF h=>CZ (rest:=[none,none,none,none,none]) h.1 rfl fun pq H' s g xO=>jW rfl rfl (jW rfl rfl (nk rfl rfl (fun z=>z) ?_));show jd _ _ _ _ _ _ _ _ _;refine DA (i:=0) (l:=3) sx s rfl rfl (fun K k=>k) (fun K k=>k) hd.1 ok.1 h.2.1 (lp (lp (lp (lp hz)))) g fun H1 g1 IQ=>?_;show jd _ _ _ _ _ _ _ _ _;refine DA (i:=1) (l:=1) sx s rfl rfl (fun K k=>k) (fun K k=>k) hd.2.1 ok.2.1 h.2.2.1 (lr (lp (lp hz))) g1 fun H2 g2 kt=>?_;walk_at "w";refine Im rfl lits.2.2.2.2.2.2.2.2.2.1 (lp (lp (lp hz))) ?_;refine Im rfl rfl (lp (lp hz)) ?_;refine Im rfl lits.2.2.2.2.2.2.2.2.2.2.1 (lp hz) ?_;show jd _ _ _ _ _ _ _ _ _;refine DA (i:=2) (l:=1) sx s rfl rfl (fun K k=>k) (fun K k=>k) hd.2.2 ok.2.2 h.2.2.2 (lr hz) g2 fun H3 g3 vX=>?_;exact Im rfl rfl hz (hQ _ g3)
 ·refine Vg Zf base rfl fun hC=>?_;refine Exists.elim rt fun q h=>h.elim fun us h=>CZ (rest:=[none,none,none,none,none]) h.1 rfl fun pq H' s g xO=>nk rfl rfl (fun z=>z) ?_;simp only[y_ret,dA,Db,w7,g9,LY];refine⟨⟨_,rfl⟩,t8 sx (Nat.le_succ _) (Nat.le_of_succ_le_succ hd) (V4 ok).1 h.2.2 h.2.1 hz g rfl (fun K k=>QL (s g 0 rfl) k) (fun K b H' h=>h) fun a H' ha g xO=>?_⟩;exact QL (xN ha hz) (hQ _ g)
theorem km:QF.get ("This":Str)=some (.str (n6 Tk.this.ch) 0):=by decide +kernel
theorem eJ(base:AG cY w){t:Tr}{v:Value}{k:Nat}(ok:LZ t=true)(rt:Wc H t v)
  (arr:∀as us q(H':AH),t= .arr as→yf H H'→Fa H' as us→H' q=some (.lst us)→KS cY uK w (k+1) Hd.U1 [.ref q] H' (XE (bare t)))
  (acc:qN t=true→∀H':AH,yf H H'→KS cY uK w (k+1) Hd.JE [v,.bool false] H' (XE (bare t)))
  (op:qN t=false→xB t=false→BH t=false→oF t=false→isName t=false→∀H':AH,yf H H'→KS cY uK w (k+1) Hd.tY [v,.bool false] H' (XE (bare t))):
  KS cY uK w (k+2) Hd.gc [v,.bool false] H (XE (bare t)):=fun Q hQ=>by
 have nh:=iM ok;refine Vg iR base rfl fun hC=>?_;refine(rt.node nh).elim fun ps nd=>tn (rest:=[]) nd fun pq H' e1 g xO=>?_;walk_at "w";refine Dr (Ko xO (List.mem_of_elem_eq_true (by kernel_rfl)) (by kernel_rfl) ig) ?_;cases q1:BH t
 ·refine wG ((jO t).trans q1) ?_;show wpS _ _ _ _ _ (.ite _ _ _ _) _ _ _;refine jW rfl (yA t) (jW rfl (Ja t) ?_);cases q2:oF t
  ·refine jW rfl ((LQ t).trans q2) ?_;cases q3:isName t
   ·refine jW rfl ((Lr t).trans q3) (jW rfl (OG t) ?_);cases q4:xB t
    ·refine jW rfl ((V7 t).trans q4) (jW rfl (dK t) (jW rfl (pH t) ?_));show jd _ _ _ _ _ _ _ _ _;refine ux (fun K k=>k) (fun K k=>k) (xs:=[("Member":Str),("Index":Str),("Call":Str),("New":Str)]) rfl fun H2 g2 IQ=>?_;cases q5:qN t
     ·refine wG ((sp t).trans q5) ?_;walk_at "w";exact op q5 q4 q1 q2 q3 _ (g.trans g2) _ fun H3 g3 zz=>hQ _ ((g.trans g2).trans g3)
     ·refine nZ ((sp t).trans q5) ?_;walk_at "w";exact acc q5 _ (g.trans g2) _ fun H3 g3 zz=>hQ _ ((g.trans g2).trans g3)
    ·refine nk rfl ((V7 t).trans q4) (fun z=>z) ?_;obtain⟨as,e⟩:∃as,t= .arr as:=Tr.arr.elim t (eq_of_beq q4) fun zz=>⟨_,rfl⟩;refine Exists.elim (show Wc H (.arr as) v from e▸rt) fun q h=>h.elim fun us h=>?_;walk_at "w";refine QL (h.1.sub rfl e1 g 0 rfl) ?_;walk_at "w";exact arr as us q _ e g (Fa.ext g.ext as h.2.2) (g _ _ h.2.1) _ fun H3 g3 zz=>hQ _ (g.trans g3)
   ·refine nk rfl ((Lr t).trans q3) (fun z=>z) ?_;obtain⟨y,e⟩:∃y,t= .name y:=Tr.name.elim t (eq_of_beq q3) fun zz=>⟨_,rfl⟩;have hy:y.kd= .name:=(bZ (p:=fun y=>([.a,.b,.c]:List Tk).contains y=true→y.kd= .name) y (by kernel_rfl)) (show LZ (.name y)=true from e▸ok);have rN:RP H v _ [.str y.v 0]:=(e▸rt:Wc H (.name y) v);walk_at "w";refine QL (rN.sub rfl e1 g 0 rfl) ?_;have hQ:∀H',yf H H'→Q (.str (n6 (XE (bare (.name y)))) 0) H':=e▸hQ;have ef:XE (bare (.name y))=y.ch:=List.append_nil _;rw[ef]at hQ;walk_at "w";exact zy base hy _ fun H3 g3 zz=>hQ _ (g.trans g3)
  ·refine nk rfl ((LQ t).trans q2) (fun z=>z) ?_;have e:t= .str:=Tr.str.elim (motive_1:=fun t=>t= .str) t (eq_of_beq q2) rfl;have rN:RP H v _ [.str Tk.str.v 0]:=(e▸rt:Wc H .str v);walk_at "w";refine QL (rN.sub rfl e1 g 0 rfl) ?_;have hQ:∀H',yf H H'→Q (.str (n6 (XE (bare .str))) 0) H':=e▸hQ;walk_at "w";exact x5 base _ fun H3 g3 zz=>hQ _ (g.trans g3)
 ·refine nZ ((jO t).trans q1) ?_;have e:t= .this:=Tr.this.elim (motive_1:=fun t=>t= .this) t (eq_of_beq q1) rfl;have hQ:∀H',yf H H'→Q (.str (n6 (XE (bare .this))) 0) H':=e▸hQ;walk_at "w";exact QL (F0 ig (show QF.get (Kv t)=some (.str (n6 (XE (bare .this))) 0)from(R6T (fun t=>QF.get (Kv t)) e).trans km)) (hQ _ g)
theorem m6(l:List It):XE (some .lb::l++[some .rb])= [91]++XE l++[93]:=by rw[Yl];rfl
theorem RL{t:Tr}(hd:dT t≤0):qN t=false∧xB t=false∧(BH t=false→oF t=false→isName t=false→t= .hole):=by
 cases t with
 |hole=>exact⟨rfl,rfl,fun zz zz zz=>rfl⟩
 |name=>exact⟨rfl,rfl,fun zz zz c=>Bool.noConfusion (show true=false from c)⟩
 |this=>exact⟨rfl,rfl,fun a zz zz=>Bool.noConfusion (show true=false from a)⟩
 |str=>exact⟨rfl,rfl,fun zz b zz=>Bool.noConfusion (show true=false from b)⟩
 |_=>exact absurd hd (Nat.not_succ_le_zero _)
theorem Nv(base:AG cY w):∀d,SB cY uK w d
 |0=>fun t hd ok n H v rt hz=>eJ (k:=n+3) base ok rt (fun as us q H' e=>nomatch (R6T xB e).symm.trans (RL hd).2.1) (fun q=>nomatch q.symm.trans (RL hd).1) fun q1 q2 q3 q4 q5=>absurd ((RL hd).2.2 q3 q4 q5) (iM ok)
 |d+1=>fun t hd ok n H v rt hz=>by have sb:=Nv base d;have sx:=lF base sb;refine eJ (k:=n+4*d+7) base ok rt (fun as us q H' e g jw hq=>?_) (fun q H' g=>vH base sx sb q hd ok (Wc.ext g.ext t rt) hz) fun q1 q2 q3 q4 q5 H' g=>xy base sx q1 q2 q3 q4 q5 (iM ok) hd ok (Wc.ext g.ext t rt) hz;subst e;have eb:XE (bare (.arr as))=_:=m6 (Xn (Vs as));rw[eb]at hz⊢;exact(kQ (n:=n) base sx (Nat.le_of_succ_le_succ hd) (J0 ok).1 jw hq hz).mono (Nat.le_succ _)
theorem PC(base:AG cY w){t:Tr}{v:Value}{l:Nat}(ok:LZ t=true)(rt:Wc H t v)(hz:(XE (sh l t)).length≤8000):KS cY uK w (n+4*dT t+6) Hd.ze [v,.int l 0,.bool false] H (XE (sh l t)):=
 lF base (Nv base (dT t)) t (g61 _) ok n H v l rt hz
structure VP(H:AH)(a l:Addr)(xs:List Value)(i z:Int):Prop where
 Ab:H a=some (.lst [.ref l,.int i 0,.int z 0])∨H a=some (.Ab [.ref l,.int i 0,.int z 0])
 lst:H l=some (.lst xs)
 nums:∀v∈xs,∃k:Int,v= .int k 0
 len:xs.length≤50
 ne:a≠l
theorem VP.seq{a l xs i z}(h:VP H a l xs i z):tq H (.ref a)=some (true,[.ref l,.int i 0,.int z 0]):=h.Ab.elim (fun e=>WF e) fun e=>WF e
theorem yn(base:AG cY w){a l:Addr}{xs:List Value}{i z m:Int}(hp:VP H a l xs i z)(hi:0≤i)(kK:i≤5000)(hm:1≤m)
  (h:∀r:Int,0≤r→r<m→Q (.int r 0) (upd H a (.Ab [.ref l,.int (i+1) 0,.int z 0]))):T2 cY uK w (n+1) (.ref Hd.Nu) [.ref a,.int m 0] H Q X:=by
 refine Vg aN base rfl fun hC=>?_;simp only[gK];walk_at "w";have s1:ro H (.ref a) (.int 1 0)=some (.int i 0):=by exact ZC (k:=1) hp.seq rfl (by simp)
 refine QL (s1) ?_;walk_at "w";refine⟨a,_,1,rfl,hp.Ab,rfl,by lia,by simp,by simp,?_⟩;simp only[List.set,Int.toNat];have sq:tq (upd H a (.Ab [.ref l,.int (i+1) 0,.int z 0])) (.ref a)=some (true,[.ref l,.int (i+1) 0,.int z 0]):=WF Hu;have q0:ro (upd H a (.Ab [.ref l,.int (i+1) 0,.int z 0])) (.ref a) (.int 0 0)=some (.ref l):=ZC (k:=0) sq rfl (by simp);have q1:ro (upd H a (.Ab [.ref l,.int (i+1) 0,.int z 0])) (.ref a) (.int 1 0)=some (.int (i+1) 0):=ZC (k:=1) sq rfl (by simp);have q2:ro (upd H a (.Ab [.ref l,.int (i+1) 0,.int z 0])) (.ref a) (.int 2 0)=some (.int z 0):=ZC (k:=2) sq rfl (by simp);have sl:(upd H a (.Ab [.ref l,.int (i+1) 0,.int z 0])) l=some (.lst xs):=by unfold upd;rw[if_neg (fun e=>hp.ne e.symm)];exact hp.lst
 walk_at "w";refine QL (q1) ?_;walk_at "w";refine QL (q0) ?_;walk_at "w";have e1:MG (upd H a (.Ab [.ref l,.int (i+1) 0,.int z 0])) "len" [.ref l]=some (.int xs.length 0):=by have:=hp.len;exact ZB (Qj sl) rfl (by lia)
 refine QL (e1) ?_;walk_at "w"
 by_cases q:i+1≤(xs.length:Int)
 ·rw[decide_eq_true q];walk_at "w";refine QL (q0) ?_;walk_at "w";refine QL (q1) ?_;walk_at "w";obtain⟨j,rfl⟩:∃j:Nat,i=j:=⟨i.toNat,by lia⟩;have hj:j<xs.length:=by lia
  obtain⟨k,hk⟩:=hp.nums _ (List.getElem_mem hj);have e2:ro (upd H a (.Ab [.ref l,.int ((j:Int)+1) 0,.int z 0])) (.ref l) (.int ((j:Int)+1-1) 0)=some (.int k 0):=by rw[show((j:Int)+1-1)=(j:Int)by lia];exact ZC (k:=j) (Qj sl) (by rw[List.getElem?_eq_getElem hj,hk]) (by have:=hp.len;lia)
  refine QL (e2) ?_;walk_at "w";show Ku _ .Mod (.int k 0) (.int m 0) _ _;refine w_mod (by lia) ?_;exact h _ (Int.fmod_nonneg_of_pos _ (by lia)) (Int.fmod_lt_of_pos _ (by lia))
 ·rw[decide_eq_false q];walk_at "w";have b0:(i+1).natAbs<2 ^ 31:=by lia
  refine QL (q1) ?_;walk_at "w";refine w_mul (by decide) b0 ?_;walk_at "w";refine QL (q1) ?_;walk_at "w";refine QL (q1) ?_;walk_at "w";refine w_mul b0 b0 ?_;walk_at "w";refine JU (by lia) (by lia) ?_;walk_at "w";refine QL (q2) ?_;walk_at "w";exact w_mod (by lia) (h _ (Int.fmod_nonneg_of_pos _ (by lia)) (Int.fmod_lt_of_pos _ (by lia)))
end
end
section
noncomputable def pk:Nat→Nat
 |0=>4
 |d+1=>4*pk d+4
noncomputable def tl:Nat→Nat
 |0=>6
 |d+1=>3*tl d+10
theorem WW(d:Nat):6≤tl d:=by cases d<;>simp only[tl]<;>lia
theorem UZ(d:Nat):4≤pk d:=by cases d<;>simp only[pk]<;>lia
structure UM(H:AH)(a l:Addr)(xs:List Value)(i z:Int):Prop where
 Ab:H a=some (.Ab [.ref l,.int i 0,.int z 0])
 lst:H l=some (.lst xs)
 nums:∀v∈xs,∃k:Int,v= .int k 0
 len:xs.length≤50
 ne:a≠l
theorem UM.at{H a l xs i z}(h:UM H a l xs i z):VP H a l xs i z:=⟨.inr h.Ab,h.lst,h.nums,h.len,h.ne⟩
theorem UM.new{H a l xs i z q o}(h:UM H a l xs i z)(hq:H q=none):UM (upd H q o) a l xs i z:=
 ⟨by rw[CH (fun e=>by rw[←e,h.Ab]at hq;cases hq)];exact h.Ab,by rw[CH (fun e=>by rw[←e,h.lst]at hq;cases hq)];exact h.lst,h.nums,h.len,h.ne⟩
theorem UM.keep{H H' a l xs i z b}(h:UM H a l xs i z)(e:Ext H H')(hb:H b=none)(s:∀c,c≠b→H' c=H c):UM H' a l xs i z:=
 ⟨(s a fun e=>by rw[←e,h.Ab]at hb;cases hb).trans h.Ab,e _ _ h.lst trivial,h.nums,h.len,h.ne⟩
structure Ic(a l:Addr)(xs:List Value)(z i:Int)(H:AH)(k:Nat)(H':AH):Prop where
 ext:Ext H H'
 Ab:∃j:Int,UM H' a l xs j z∧i≤j∧j≤i+k
structure Got(d:Nat)(H:AH)(v:Value)(t:Tr):Prop where
 rep:Wc H t v
 ok:LZ t=true
 deep:dT t≤d
 size:(XE (bare t)).length+2≤tl d
theorem Got.ext{d H H' v t}(h:Got d H v t)(e:Ext H H'):Got d H' v t:=⟨Wc.ext e t h.rep,h.ok,h.deep,h.size⟩
section
variable{cY:Heap}{uK:OsState}{w:World}{n:Nat}{H H1:AH}{Q:Value→AH→Prop}{X:AH→Prop}{a l:Addr}{xs:List Value}{z i:Int}{k:Nat}
theorem Ic.new(f:Ic a l xs z i H k H1){q o}(hq:H1 q=none):Ic a l xs z i H k (upd H1 q o):=
 ⟨f.ext.new hq,let⟨j,h1,h2⟩:=f.Ab;⟨j,h1.new hq,h2⟩⟩
theorem Ic.up(f:Ic a l xs z i H k H1){m:Nat}(h:k≤m):Ic a l xs z i H m H1:=⟨f.ext,let⟨j,h1,h2,h3⟩:=f.Ab;⟨j,h1,h2,by lia⟩⟩
theorem UM.far(h:UM H a l xs i z):Ic a l xs z i H 0 H:=⟨.refl,i,h,by lia,by lia⟩
theorem NT(base:AG cY w)(f:Ic a l xs z i H k H1)(h0:0≤i)(hk:i+k≤5000){m:Int}(hm:1≤m)
  (h:∀(r:Nat)H2,(r:Int)<m→Ext H1 H2→Ic a l xs z i H (k+1) H2→Q (.int r 0) H2):T2 cY uK w (n+1) (.ref Hd.Nu) [.ref a,.int m 0] H1 Q X:=by
 obtain⟨j,h1,h2,h3⟩:=f.Ab;refine yn base h1.at (by lia) (by lia) hm fun r r0 r1=>?_;obtain⟨r,rfl⟩:∃s:Nat,r=s:=⟨r.toNat,by lia⟩;have e:Ext H1 (upd H1 a (.Ab [.ref l,.int (j+1) 0,.int z 0])):=Ext.refl.mut fun o e q=>by rw[h1.Ab]at e;cases e;exact q
 exact h r _ r1 e ⟨f.ext.trans e,j+1,⟨Hu,by rw[CH (Ne.symm h1.ne)];exact h1.lst,h1.nums,h1.len,h1.ne⟩,by lia,by push_cast;lia⟩
theorem wm(base:AG cY w)(f:Ic a l xs z i H k H1){kd:Str}{q:Addr}{ps:List Value}(hq:H1 q=none)
  (h:∀b H2,Ext H1 H2→Ic a l xs z i H k H2→RP H2 (.ref b) kd ps→Q (.ref b) H2):T2 cY uK w (n+2) (.ref Hd.Vk) [.str kd 0,.int 1 0,.ref q] (upd H1 q (.lst ps)) Q X:=
 KC base Hu fun b H2 hb e s nd=>by obtain⟨j,h1,h2⟩:=(f.new (o:=.lst ps) hq).Ab;have e1:Ext H1 H2:=(Ext.refl.new hq).trans e;exact h b H2 e1 ⟨f.ext.trans e1,j,h1.keep e hb s,h2⟩ nd
variable(cY uK w a l xs z)
def DR(d:Nat):Prop:=∀(n:Nat)(H H1:AH)(Q:Value→AH→Prop)(i:Int)(k:Nat),Ic a l xs z i H k H1→0≤i→i+((k+pk d:Nat):Int)≤4000→
 (∀v H2 t,Got d H2 v t→Ext H1 H2→Ic a l xs z i H (k+pk d) H2→Q v H2)→T2 cY uK w (n+2*d+5) (.ref Hd.xM) [.ref a,.int d 0] H1 Q fun zz=>False
def PL(d:Nat):Prop:=∀(n:Nat)(H H1:AH)(Q:Value→AH→Prop)(i:Int)(k:Nat),Ic a l xs z i H k H1→0≤i→i+((k+(pk d-1):Nat):Int)≤4000→
 (∀v H2 t,Got d H2 v t→aV t=true→Ext H1 H2→Ic a l xs z i H (k+(pk d-1)) H2→Q v H2)→T2 cY uK w (n+2*d+4) (.ref Hd.Ww) [.ref a,.int d 0] H1 Q fun zz=>False
end
noncomputable def VI:E:=.call (.ref Hd.xM) (.cons (.loc 0) (.cons (.bin .Sub (.loc 1) (.cst (.int 1 0))) .nil))
noncomputable def Pm:E:=.call (.ref Hd.Ww) (.cons (.loc 0) (.cons (.bin .Sub (.loc 1) (.cst (.int 1 0))) .nil))
noncomputable def ji(m:Int):E:=.call (.ref Hd.Nu) (.cons (.loc 0) (.cons (.cst (.int m 0)) .nil))
noncomputable def nu(x:Str):E:=.cst (.str x 0)
noncomputable def xk(c:Int):E:=.cmp .Eq (.loc 2) (.cst (.int c 0))
noncomputable def j4:E:=.bin .Add (.lst (.cons (.loc 4) .nil)) (.loc 5)
noncomputable def Gg(kd:Str)(es:Es):E:=.call (.ref Hd.Vk) (.cons (.cst (.str kd 0)) (.cons (.cst (.int 1 0)) (.cons (.lst es) .nil)))
noncomputable def mw:S:=(.ite (xk 0) (.ret (Gg "Name" (.cons (.sub (nu "abc") (ji 3)) .nil))) .nil (.Tw 3 VI (.ret (.wJ (xk 1) (Gg "Member" (.cons (.loc 3) (.cons (nu "m") .nil))) (Gg "Index" (.cons (.loc 3) (.cons VI .nil)))))))
noncomputable def vF:S:=(.ite (xk 10) (.ret (.wJ (.bool true (.cons (.cmp .NotEq (.loc 5) (.lst .nil)) (.cons (.cmp .NotEq (.gZ (.loc 4) .kind) (nu "Comma")) .nil))) (Gg "Comma" (.cons j4 .nil)) (Gg "Array" (.cons j4 .nil)))) .nil (.ret (.call (.ref Hd.Vk) (.cons (.wJ (xk 11) (nu "Call") (nu "New")) (.cons (.cst (.int 1 0)) (.cons (.lst (.cons (.loc 4) (.cons (.loc 5) .nil))) .nil))))))
noncomputable def LJ:S:=(.Tw 5 (.qD (.call (.ref Hd.xM) (.cons (.loc 4) (.cons (.bin .Sub (.loc 3) (.cst (.int 1 0))) .nil))) (ji 3) 1 [none,none,none,some 1,some 0]) vF)
noncomputable def Zd:S:=(.ite (xk 9) (.Tw 5 VI (.ret (Gg "Cond" (.cons (.loc 4) (.cons (.loc 5) (.cons VI .nil)))))) .nil LJ)
noncomputable def Al:S:=(.ite (xk 8) (.ret (Gg "Assign" (.cons (.sub (.lst (.cons (nu "=") (.cons (nu "+=") .nil))) (ji 2)) (.cons (.loc 4) (.cons VI .nil))))) .nil Zd)
noncomputable def Zq:S:=(.Tw 4 (.wJ (xk 8) Pm VI) Al)
noncomputable def Ph:S:=(.ite (.cmp .Lt (.loc 2) (.cst (.int 8 0))) (.ol true [3,4] (.tup (.cons (.sub (.call (.ref Hd.nj) .nil) (ji 10)) (.cons VI .nil))) (.ret (.call (.ref Hd.Vk) (.cons (.wJ (.cmp .In (.loc 3) (.tup (.cons (nu "&&") (.cons (nu "||") .nil)))) (nu "Logical") (nu "Binary")) (.cons (.cst (.int 1 0)) (.cons (.lst (.cons (.loc 3) (.cons (.loc 4) (.cons VI .nil)))) .nil)))))) .nil Zq)
noncomputable def oG:S:=(.ite (xk 4) (.ret (Gg "Update" (.cons (.sub (.lst (.cons (nu "++") (.cons (nu "--") .nil))) (ji 2)) (.cons (.cmp .Eq (ji 2) (.cst (.int 0 0))) (.cons Pm .nil))))) .nil Ph)
noncomputable def L2:S:=(.ite (xk 3) (.ret (Gg "Unary" (.cons (.sub (.lst (.cons (nu "-") (.cons (nu "+") (.cons (nu "!") (.cons (nu "typeof") (.cons (nu "void") .nil)))))) (ji 5)) (.cons VI .nil)))) .nil oG)
noncomputable def eH:S:=(.ite (.cmp .Lt (.loc 2) (.cst (.int 3 0))) (.ret (.wJ (xk 1) (Gg "This" .nil) (Gg "Str" (.cons (nu "s") .nil)))) .nil L2)
noncomputable def jN:S:=(.ite (xk 0) (.ret (.call (.ref Hd.Ww) (.cons (.loc 0) (.cons (.cst (.int 0 0)) .nil)))) .nil eH)
theorem wZ:D6=(.Tw 2 (.wJ (.cmp .Gt (.loc 1) (.cst (.int 0 0))) (ji 3) (.cst (.int 0 0))) mw):=rfl
theorem Z6:fi=(.Tw 2 (.wJ (.cmp .Gt (.loc 1) (.cst (.int 0 0))) (.call (.ref Hd.Nu) (.cons (.loc 0) (.cons (.cst (.int 13 0)) .nil))) (.call (.ref Hd.Nu) (.cons (.loc 0) (.cons (.cst (.int 3 0)) .nil)))) jN):=rfl
end
section
noncomputable def eY:(Tr→PyData)×(Ts→List PyData):=fo .none (fun x=>.list [.str "Name",.str x.v]) (.list [.str "This"]) (.list [.str "Str",.str Tk.str.v]) (fun o zz r=>.list [.str "Unary",.str o.v,r]) (fun o p zz r=>.list [.str "Update",.str o.v,.str (if p then "True" else "False"),r])
 (fun o zz zz r s=>.list [.str (WI o),.str o.v,r,s]) (fun o zz zz r s=>.list [.str "Assign",.str o.v,r,s]) (fun zz zz zz r s t=>.list [.str "Cond",r,s,t]) (fun zz rs=>.list [.str "Comma",.list rs]) (fun zz rs=>.list [.str "Array",.list rs]) (fun zz r rs=>.list [.str "Call",r,.list rs]) (fun zz r rs=>.list [.str "New",r,.list rs])
 (fun zz x r=>.list [.str "Member",r,.str x.v]) (fun zz zz r s=>.list [.str "Index",r,s]) [] fun zz r rs=>r::rs
noncomputable def X2(t:Tr):PyData:=eY.1 t
noncomputable def Zo(as:Ts):List PyData:=eY.2 as
noncomputable def hF:(Tr→Nat)×(Ts→Nat):=fo 0 (fun zz=>1) 1 1 (fun zz zz n=>n+1) (fun zz zz zz n=>n+1) (fun zz zz zz n m=>max n m+1) (fun zz zz zz n m=>max n m+1) (fun zz zz zz n m k=>max n (max m k)+1) (fun zz n=>n+2) (fun zz n=>n+2) (fun zz n m=>max n (m+1)+1) (fun zz n m=>max n (m+1)+1) (fun zz zz n=>n+1) (fun zz zz n m=>max n m+1) 0 fun zz n m=>max n m
noncomputable def hR(t:Tr):Nat:=hF.1 t
noncomputable def NS(as:Ts):Nat:=hF.2 as
mutual
inductive RV(H:AH):Nat→Value→PyData→Prop
 |none {n:Nat}:RV H n .none .none
 |str {n:Nat} (x:Str):RV H n (.str x 0) (.str x)
 |bool {n:Nat} (b:Bool):RV H n (.bool b) (.str (if b then "True" else "False"))
 |lst {n:Nat} {q:Addr} {us:List Value} {ds:List PyData}:H q=some (.lst us)→m0 H n us ds→us.length≤9000→RV H (n+1) (.ref q) (.list ds)
 |node {n:Nat} {v:Value} {kd:Str} {ps:List Value} {ds:List PyData}:RP H v kd ps→m0 H n ps ds→ps.length≤9000→RV H (n+1) v (.list (.str kd::ds))
inductive m0(H:AH):Nat→List Value→List PyData→Prop
 |nil {n:Nat}:m0 H n [] []
 |cons {n:Nat} {v:Value} {vs:List Value} {d:PyData} {ds:List PyData}:RV H n v d→m0 H n vs ds→m0 H n (v::vs) (d::ds)
end
section
variable{H H':AH}
theorem RV.ext(e:Ext H H'){n:Nat}{v:Value}{d:PyData}(h:RV H n v d):RV H' n v d:=by
 induction h using RV.rec (motive_2:=fun n vs ds zz=>m0 H' n vs ds)with
 |none=>exact .none
 |str x=>exact .str x
 |bool b=>exact .bool b
 |lst h1 _ h3 ih=>exact .lst (e _ _ h1 trivial) ih h3
 |node h1 _ h3 ih=>exact .node (h1.ext e) ih h3
 |nil=>exact .nil
 |cons _ _ UK jH=>exact .cons UK jH
theorem RV.up{n m:Nat}{v:Value}{d:PyData}(h:RV H n v d)(hm:n≤m):RV H m v d:=by
 induction h using RV.rec (motive_2:=fun n vs ds zz=>∀m,n≤m→m0 H m vs ds) generalizing m with
 |none=>exact .none
 |str x=>exact .str x
 |bool b=>exact .bool b
 |lst h1 _ h3 ih=>obtain⟨k,rfl⟩:∃k,m=k+1:=⟨m-1,by lia⟩;exact .lst h1 (ih k (by lia)) h3
 |node h1 _ h3 ih=>obtain⟨k,rfl⟩:∃k,m=k+1:=⟨m-1,by lia⟩;exact .node h1 (ih k (by lia)) h3
 |nil=>rename_i m h;exact .nil
 |cons _ _ UK jH=>rename_i m h;exact .cons (UK h) (jH m h)
theorem m0.len{n:Nat}:∀{vs:List Value}{ds:List PyData},m0 H n vs ds→vs.length=ds.length
 | [],[],_=>rfl
 | [],_::_,h=>by cases h
 |_::_,[],h=>by cases h
 |_::_,_::_,h=>by cases h with|cons _ h=>simp[h.len]
theorem m0.get{n:Nat}:∀{vs:List Value}{ds:List PyData}{k:Nat}{x:Value},m0 H n vs ds→vs[k]? =some x→∃d,ds[k]? =some d∧RV H n x d:=by
 intro vs
 induction vs with
 |nil=>intro ds k x _ e;simp at e
 |cons v vs ih=>
  intro ds k x h e;cases h with
  |cons h1 h2=>
   cases k with
   |zero=>simp at e;subst e;exact⟨_,rfl,h1⟩
   |succ k=>simp only[List.getElem?_cons_succ]at e⊢;exact ih h2 e
theorem Ru.ext(e:Ext H H'){v:Value}{d:PyData}(h:Ru H v d):Ru H' v d:=by
 induction h using Ru.rec (motive_2:=fun vs ds zz=>WD H' vs ds)with
 |none=>exact .none
 |str x=>exact .str x
 |list h1 _ ih=>exact .list (e _ _ h1 trivial) ih
 |nil=>exact .nil
 |cons _ _ UK jH=>exact .cons UK jH
theorem WD.ext(e:Ext H H'):∀{vs:List Value}{ds:List PyData},WD H vs ds→WD H' vs ds
 | [],[],_=>.nil
 | [],_::_,h=>by cases h
 |_::_,[],h=>by cases h
 |_::_,_::_,h=>by cases h with|cons h1 h2=>exact .cons (h1.ext e) (h2.ext e)
theorem WD.snoc{v:Value}{d:PyData}(k:Ru H v d):∀{vs:List Value}{ds:List PyData},WD H vs ds→WD H (vs++[v]) (ds++[d])
 | [],[],_=>.cons k .nil
 | [],_::_,h=>by cases h
 |_::_,[],h=>by cases h
 |_::_,_::_,h=>by cases h with|cons h1 h2=>exact .cons h1 (WD.snoc k h2)
theorem RV.exts(e:Ext H H'):∀{n:Nat}{vs:List Value}{ds:List PyData},m0 H n vs ds→m0 H' n vs ds
 |_,[],[],_=>.nil
 |_,[],_::_,h=>by cases h
 |_,_::_,[],h=>by cases h
 |_,_::_,_::_,h=>by cases h with|cons h1 h2=>exact .cons (h1.ext e) (RV.exts e h2)
theorem m0.up:∀{n m:Nat}{us:List Value}{ds:List PyData},m0 H n us ds→n≤m→m0 H m us ds
 |_,_,[],[],_,_=>.nil
 |_,_,[],_::_,h,_=>by cases h
 |_,_,_::_,[],h,_=>by cases h
 |_,_,_::_,_::_,h,q=>by cases h with|cons h1 h2=>exact .cons (h1.up q) (m0.up h2 q)
theorem Xy(t:Tr):1≤JY t:=by cases t<;>exact Nat.le_add_left _ _
theorem x1{s:Nat}(h:s+1≤9000):s≤9000:=Nat.le_of_succ_le h
theorem x2{s u:Nat}(h:s+u+1≤9000):s≤9000∧u≤9000:=by lia
def VT(H:AH)(t:Tr):Prop:=∀v,Wc H t v→JY t≤9000→RV H (hR t) v (X2 t)
def QM(H:AH)(as:Ts):Prop:=∀us,Fa H as us→c8 as≤9000→m0 H (NS as) us (Zo as)∧us.length≤c8 as
theorem NZ{as:Ts}{q:Addr}{us:List Value}(ih:QM H as)(h2:H q=some (.lst us))(h3:Fa H as us)(s:c8 as≤9000):RV H (NS as+1) (.ref q) (.list (Zo as)):=.lst h2 (ih us h3 s).1 (z2n (ih us h3 s).2 s)
theorem cN{a b:Tr}{u u':Value}(Ot:VT H a)(Ht:VT H b)(h2:Wc H a u)(h3:Wc H b u')(s:JY a+JY b+1≤9000):m0 H (max (hR a) (hR b)) [u,u'] [X2 a,X2 b]:=
 .cons ((Ot u h2 (x2 s).1).up (w8W _ _)) (.cons ((Ht u' h3 (x2 s).2).up (S28 _ _)) .nil)
theorem AL{f:Tr}{as:Ts}{u:Value}{q:Addr}{us:List Value}(Ca:VT H f)(ih:QM H as)(h2:Wc H f u)(h3:H q=some (.lst us))(h4:Fa H as us)(s:JY f+c8 as+1≤9000):m0 H (max (hR f) (NS as+1)) [u,.ref q] [X2 f,.list (Zo as)]:=
 .cons ((Ca u h2 (x2 s).1).up (w8W _ _)) (.cons ((NZ ih h3 h4 (x2 s).2).up (S28 _ _)) .nil)
theorem RV.ofT(t:Tr):VT H t:=Tr.rec (motive_1:=VT H) (motive_2:=QM H) (fun v h zz=>by cases h;exact .none) (fun x v h zz=>.node h (.cons (.str _) .nil) (J1O rfl)) (fun v h zz=>.node h .nil (V7h _)) (fun v h zz=>.node h (.cons (.str _) .nil) (J1O rfl))
 (fun o a ih v h s=>by obtain⟨u,h1,h2⟩:=h;exact .node h1 (.cons (.str _) (.cons (ih u h2 (x1 s)) .nil)) (J1O rfl))
 (fun o p a ih v h s=>by obtain⟨u,h1,h2⟩:=h;exact .node h1 (.cons (.str _) (.cons (.bool _) (.cons (ih u h2 (x1 s)) .nil))) (J1O rfl))
 (fun o a b Ot Ht v h s=>by obtain⟨u,u',h1,h2,h3⟩:=h;exact .node h1 (.cons (.str _) (cN Ot Ht h2 h3 s)) (J1O rfl))
 (fun o a b Ot Ht v h s=>by obtain⟨u,u',h1,h2,h3⟩:=h;exact .node h1 (.cons (.str _) (cN Ot Ht h2 h3 s)) (J1O rfl))
 (fun a b c Ot Ht tA v h s=>by obtain⟨u,u',PF,h1,h2,h3,h4⟩:=h;have sb:=(x2 s).1;exact .node h1 (.cons ((Ot u h2 (z2n (B99 _ _) sb)).up (w8W _ _)) (.cons ((Ht u' h3 (z2n (Nat.le_add_left _ _) sb)).up (z2n (w8W _ _) (S28 _ _))) (.cons ((tA PF h4 (x2 s).2).up (z2n (S28 _ _) (S28 _ _))) .nil))) (J1O rfl))
 (fun as ih v h s=>by obtain⟨q,us,h1,h2,h3⟩:=h;exact .node h1 (.cons (NZ ih h2 h3 (x1 s)) .nil) (J1O rfl))
 (fun as ih v h s=>by obtain⟨q,us,h1,h2,h3⟩:=h;exact .node h1 (.cons (NZ ih h2 h3 (x1 s)) .nil) (J1O rfl))
 (fun f as Ca ih v h s=>by obtain⟨u,q,us,h1,h2,h3,h4⟩:=h;exact .node h1 (AL Ca ih h2 h3 h4 s) (J1O rfl))
 (fun f as Ca ih v h s=>by obtain⟨u,q,us,h1,h2,h3,h4⟩:=h;exact .node h1 (AL Ca ih h2 h3 h4 s) (J1O rfl))
 (fun a x ih v h s=>by obtain⟨u,h1,h2⟩:=h;exact .node h1 (.cons (ih u h2 (x1 s)) (.cons (.str _) .nil)) (J1O rfl))
 (fun a b Ot Ht v h s=>by obtain⟨u,u',h1,h2,h3⟩:=h;exact .node h1 (cN Ot Ht h2 h3 s) (J1O rfl))
 (fun us h zz=>by
  cases us with
  |nil=>exact⟨.nil,g61 _⟩
  |cons u us=>cases h)
 (fun a as Ot ih us h s=>by
  cases us with
  |nil=>cases h
  |cons u us=>
   obtain⟨h1,h2⟩:=h;have sa:JY a+c8 as≤9000:=s;obtain⟨r1,r2⟩:=ih us h2 (z2n (Nat.le_add_left _ _) sa);exact⟨.cons ((Ot u h1 (z2n (B99 _ _) sa)).up (w8W _ _)) (r1.up (S28 _ _)),(show us.length+1≤JY a+c8 as by have:=Xy a;lia)⟩) t
end
section
variable{cY:Heap}{uK:OsState}{w:World}{n:Nat}{X:AH→Prop}{H:AH}{Q:Value→AH→Prop}
theorem Yu{v c:Value}{b:Bool}(h:Ds H v c=some b):MG H "isinstance" [v,c]=some (.bool b):=by exact R6T (Option.map Value.bool) h
theorem Dm{v:Value}:Ds H v (.ref Hd.Vk)=Hf H v:=by show(if Hd.Vk=Hd.Vk then Hf H v else vP H v (H Hd.Vk))=_;exact if_pos rfl
theorem zt{v:Value}{T:String}(h:O3 H v=some T):Ds H v (.ref Hd.Vk)=some false:=
 Dm.trans (dk (C:=fun v zz=>O3 H v=some T→Hf H v=some false) h (fun zz zz zz=>rfl) (fun zz zz=>rfl) (fun zz=>rfl) (fun a us q h=>by show((iO (H a) fun C zz zz=>if C=Hd.Vk then some true else none).or ((O3 H (.ref a)).map fun zz=>false))=_;rw[q,h];rfl) h)
theorem N8{v:Value}{kd:Str}{ps:List Value}(h:RP H v kd ps):Ds H v (.ref Hd.Vk)=some true:=by
 obtain⟨a,d,q,rfl,e,_⟩:=h;rw[Dm];show((iO (H a) fun C zz zz=>if C=Hd.Vk then some true else none).or _)=_;rw[e];show(if Hd.Vk=Hd.Vk then some true else none).or _=_;rw[if_pos rfl]
 rfl
theorem L7{v:Value}{T:String}{a:Addr}(ha:a≠Hd.Vk)(hn:H a=none)(h:O3 H v=some T):Ds (upd H a (.tup [.type "list",.type "tuple"])) v (.ref a)=some (T=="list"):=by
 have e:O3 (upd H a (.tup [.type "list",.type "tuple"])) v=some T:=dk (C:=fun v T=>O3 (upd H a (.tup [.type "list",.type "tuple"])) v=some T) h (fun zz zz=>rfl) (fun zz=>rfl) rfl fun b us q=>
  R6T (Option.bind · fun o:AO=>if o.ctorIdx=2 then some "list" else none) ((CH fun z=>by rw[z,hn]at q;cases q).trans q)
 show(if a=Hd.Vk then _ else vP _ v (upd H a _ a))=_;rw[if_neg ha,Hu];show(if([.type "list",.type "tuple"]:List Value)= [.type "list",.type "tuple"]then(O3 _ v).map (· =="list")else none)=_;rw[if_pos rfl,e]
 rfl
theorem T7{v:Value}{T:String}(h:O3 H v=some T):Ds H v (.type "bool")=some (T=="bool"):=by show(Option.or (if "bool"="bool" then(O3 H v).map (· =="bool")else none) none)=_;rw[if_pos rfl,h];rfl
theorem vr{a:Addr}{o:AO}(h:zQ (upd H a o)):a≠Hd.Vk:=fun q=>by have:=h Hd.Vk (by simp[mQ]);rw[q,Hu]at this;cases this
theorem bM{h:Nat}{us:List Value}{ds:List PyData}{q:Addr}{it:E}{fr:dD}{P:Value→dD→AH→Prop}(hq:H q=some (.lst us))(hr:m0 H h us ds)(hl:us.length≤9000)
  (ih:∀(v:Value)(d:PyData)(H:AH),RV H h v d→∀Q:Value→AH→Prop,(∀u H',yf H H'→Ru H' u d→Q u H')→T2 cY uK w n (.ref Hd.ry) [v] H Q (fun zz=>False))
  (hit:∀P:Value→dD→AH→Prop,P (.ref q) fr H→jd cY uK w n (fun zz=>False) it P fr H)
  (hP:∀a acc H',yf H H'→WD H' acc ds→H' a=none→acc.length≤9000→P (.ref a) fr (upd H' a (.lst acc))):
  jd cY uK w n (fun zz=>False) (.comp (.call (.ref Hd.ry) (.cons (.loc 1) .nil)) it 1 [none,none,none]) P fr H:=by
 have items:∀H',yf H H'→uL H' (.ref q)=some (1,us):=fun H' e=>QY (Qj (e _ _ hq));rw[to];refine⟨rfl,fun zz z=>z,hit _ ⟨1,us,items H .refl,by lia,fun k acc H'=>yf H H'∧acc.length=k∧WD H' acc (ds.take k),⟨.refl,rfl,.nil⟩,?_,?_,?_⟩⟩
 ·rintro k acc H' ⟨e,hk,_⟩;exact⟨items H' e,hk⟩
 ·rintro k x acc H' hx ⟨e,hk,hd⟩;obtain⟨d,bz,hd2⟩:=hr.get hx;simp only[uh,List.map_cons,List.map_nil,Option.bind_none];walk_at "w";refine ih x d H' (hd2.ext e.ext) _ fun u H2 e2 hu zz=>⟨e.trans e2,by simp[hk],?_⟩;rw[List.take_succ,bz];exact WD.snoc hu (hd.ext e2.ext)
 ·rintro acc H' ⟨e,hk,hd⟩ a ha _;rw[List.take_of_length_le (by rw[←hr.len];exact Nat.le_refl _)]at hd;exact hP a acc H' e hd ha (by lia)
theorem f0{P:Value→dD→AH→Prop}{fr:dD}{a b:Addr}{us vs:List Value}(ha:H a=some (.lst us))(hb:H b=some (.lst vs))(hl:us.length+vs.length≤10000)(h:∀c,H c=none→zQ (upd H c (.lst (us++vs)))→P (.ref c) fr (upd H c (.lst (us++vs)))):
  Ku P .Add (.ref a) (.ref b) fr H:=by
 unfold Ku;have e1:WK .Add (.ref a) (.ref b)=none:=rfl;have e2:Qr H .Add (.ref a) (.ref b)=some (us++vs):=by show((tq H (.ref a)).bind fun p=>(tq H (.ref b)).bind fun q=>if p.1=true∧q.1=true∧p.2.length+q.2.length≤10000 then some (p.2++q.2)else none)=_;rw[Qj ha,Qj hb];exact if_pos ⟨rfl,rfl,hl⟩
 simp only[e1,e2];exact h
theorem Wj(base:AG cY w):∀(h:Nat)(v:Value)(d:PyData)(H:AH),RV H h v d→∀Q:Value→AH→Prop,(∀u H',yf H H'→Ru H' u d→Q u H')→T2 cY uK w (n+h+1) (.ref Hd.ry) [v] H Q (fun zz=>False)
 |h,v,d,H,hv,Q,hQ=>by
  refine Vg TN base rfl fun hC=>?_;simp only[QQ,mN,AK,Q4,Kf,eC];generalize M4:E.comp _ (.gZ (.loc 0) .parts) 1 [none,none,none]=C1;generalize v9:E.comp _ (.loc 0) 1 [none,none,none]=C2;walk_at "w";cases hv with
  |none=>
   refine QL (Yu (zt (T:="NoneType") rfl)) ?_;walk_at "w";intro a ha W0;rw[Yu (L7 (T:="NoneType") (vr W0) ha rfl),show(("NoneType":String)=="list")=false from by decide];walk_at "w";rw[Yu (T7 (T:="NoneType") rfl),show(("NoneType":String)=="bool")=false from by decide];walk_at "w";exact hQ _ _ (yf.refl.new ha) .none
  |str x=>
   refine QL (Yu (zt (T:="str") rfl)) ?_;walk_at "w";intro a ha W0;rw[Yu (L7 (T:="str") (vr W0) ha rfl),show(("str":String)=="list")=false from by decide];walk_at "w";rw[Yu (T7 (T:="str") rfl),show(("str":String)=="bool")=false from by decide];walk_at "w";exact hQ _ _ (yf.refl.new ha) (.str x)
  |bool b=>
   refine QL (Yu (zt (T:="bool") rfl)) ?_;walk_at "w";intro a ha W0;rw[Yu (L7 (T:="bool") (vr W0) ha rfl),show(("bool":String)=="list")=false from by decide];walk_at "w";rw[Yu (T7 (T:="bool") rfl),show(("bool":String)=="bool")=true from by decide];walk_at "w";rw[DO];exact hQ _ _ (yf.refl.new ha) (.str _)
  | @lst m q us ds hq hr hl=>
   have ty:O3 H (.ref q)=some "list":=R6T (Option.bind · fun o:AO=>if o.ctorIdx=2 then some "list" else none) hq;refine QL (Yu (zt (T:="list") ty)) ?_;walk_at "w";intro a ha W0;rw[Yu (L7 (T:="list") (vr W0) ha ty),show(("list":String)=="list")=true from by decide];walk_at "w";have e:yf H (upd H a (.tup [.type "list",.type "tuple"])):=yf.refl.new ha;subst v9;refine bM (e _ _ hq) (RV.exts e.ext hr) hl (fun v d H hv Q hQ=>Wj base m v d H hv Q hQ) (fun P hP=>by walk_at "w";exact hP) fun b acc H' e' hd hb zz=>?_;have e2:yf H (upd H' b (.lst acc)):=e.trans (e'.trans (yf.refl.new hb));exact hQ _ _ e2 (.list Hu (hd.ext (Ext.refl.new hb)))
  | @node m v kd ps ds hn hr hl=>
   refine QL (Yu (N8 hn)) ?_;walk_at "w";refine QL (hn.kind) ?_;walk_at "w";intro a ha W0;have e:yf H (upd H a (.lst [.str kd 0])):=yf.refl.new ha;obtain⟨q,hq1,hq2⟩:=(hn.ext e.ext).parts;subst M4;refine bM hq2 (RV.exts e.ext hr) hl (fun v d H hv Q hQ=>Wj base m v d H hv Q hQ) (fun P hP=>by walk_at "w";rw[hq1];exact hP) fun b acc H' e' hd hb hla=>?_;have e2:yf (upd H a (.lst [.str kd 0])) (upd H' b (.lst acc)):=e'.trans (yf.refl.new hb);refine f0 (e2 _ _ Hu) Hu (by simp;lia) fun c hc zz=>?_;have e3:yf (upd H' b (.lst acc)) (upd (upd H' b (.lst acc)) c (.lst ([.str kd 0]++acc))):=yf.refl.new hc;exact hQ _ _ (e.trans (e2.trans e3)) (.list Hu (.cons (.str kd) (hd.ext ((Ext.refl.new hb).trans e3.ext))))
end
end
section
section
variable{cY:Heap}{uK:OsState}{w:World}{n:Nat}{H H1:AH}{Q:Value→AH→Prop}{X:AH→Prop}{a l:Addr}{xs:List Value}{z i:Int}{k d:Nat}
theorem rP(a b:List It):(XE (a++b)).length=(XE a).length+(XE b).length:=by rw[Yl,List.length_append]
theorem Uj(t:Tk)(b:List It):(XE (some t::b)).length=t.ch.length+(XE b).length:=by rw[oH,List.length_append];rfl
theorem vd(b:List It):(XE (none::b)).length=1+(XE b).length:=by rw[oH,List.length_append];rfl
theorem tS:(XE []).length=0:=rfl
theorem F4(l:Nat)(t:Tr)(b:List It):(XE (wrap l t b)).length≤(XE b).length+2:=by
 unfold wrap
 split
 ·simp only[List.cons_append,rP,Uj,tS,Pa,sA,NC,KO,vc,Ny,xR,qu,lq,Lo,List.length_cons,List.length_nil];lia
 ·lia
theorem T2.le{n m:Nat}{f:Value}{args:List Value}{X:AH→Prop}(h:T2 cY uK w n f args H Q X)(hn:n≤m):T2 cY uK w m f args H Q X:=T2.mono _ _ _ h hn (fun zz zz h=>h) fun zz h=>h
theorem YH{i c:Nat}{x:Str}(h:([97,98,99]:List Nat)[i]? =some c)(e:(⟨#[c]⟩:Str)=x):ro H (.str ("abc":Str) 0) (.int (i:Int) 0)=some (.str x 0):=by rw[show("abc":Str)=n6 [97,98,99]by decide +kernel,kg h (by decide),e]
theorem Tc{r:Nat}(h:(r:Int)<3):∃x:Tk,ro H (.str ("abc":Str) 0) (.int r 0)=some (.str x.v 0)∧LZ (.name x)=true∧(XE (bare (.name x))).length=1:=by
 have:r=0∨r=1∨r=2:=by lia
 rcases this with rfl|rfl|rfl
 ·exact⟨.a,YH rfl (by decide +kernel),rfl,rfl⟩
 ·exact⟨.b,YH rfl (by decide +kernel),rfl,rfl⟩
 ·exact⟨.c,YH rfl (by decide +kernel),rfl,rfl⟩
noncomputable def I5:List Tk:=[.minus,.plus,.not,.vN,.void]
noncomputable def Du:List Tk:=[.inc,.dec]
noncomputable def zq:List Tk:=[.plus,.minus,.star,.lt,.dP,.and,.or,.eq,.inst,.amp]
noncomputable def jl:List Tk:=[.asg,.rQ]
noncomputable def vL(os:List Tk):List Value:=os.map fun o=>.str o.v 0
theorem zL{os:List Tk}{r:Nat}{H:AH}{q:Addr}(hq:H q=some (.lst (vL os)))(hr:(r:Int)<os.length)(hl:os.length<1000):∃o,ro H (.ref q) (.int r 0)=some (.str o.v 0)∧o∈os:=by
 have hr:r<os.length:=by lia
 refine⟨os[r],Hy hq (by simp[vL,hr]) (by simpa[vL]using(by lia:os.length<1000000)),List.getElem_mem hr⟩
theorem UE(base:AG cY w)(h:∀q,H q=none→Q (.ref q) (upd H q (.lst (vL zq)))):T2 cY uK w (n+1) (.ref Hd.nj) [] H Q X:=by refine Vg Bg base rfl fun hC=>?_;simp only[oN];walk_at "w";exact fun q hq zz=>h q hq
theorem WG(o:Tk)(b:List It)(h:o.ch.length≤6):(XE (RZ o b)).length≤7+(XE b).length:=by
 unfold RZ;rw[List.cons_append,Uj,rP]
 split
 ·rw[vd,tS];lia
 ·rw[tS];lia
theorem J8(o:Tk)(h:o.ch.length≤10):(XE (hV o)).length≤12:=by unfold hV;rw[vd,Uj,vd,tS];lia
noncomputable def N9(ts:Ts):Nat:=((Vs ts).map fun b=>(XE b).length).sum
theorem Z0:∀(ts:Ts)(t:Tr),Vs (ts.snoc t)=Vs ts++[wrap 1 t (bare t)]
 | .nil,t=>rfl
 | .cons b ts,t=>by have ih:=Z0 ts t;simp only[Ts.snoc,Ts.app,nX,Cr]at ih⊢;rw[ih];rfl
theorem MB:∀(ts:Ts)(t:Tr),Pr (ts.snoc t)=(Pr ts&&LZ t)
 | .nil,t=>Bool.and_true _
 | .cons b ts,t=>by show(LZ b&&Pr (ts.snoc t))=(LZ b&&Pr ts&&LZ t);rw[MB ts t,Bool.and_assoc]
theorem Fb:∀(ts:Ts)(t:Tr),sR (ts.snoc t)=max (sR ts) (dT t)
 | .nil,t=>Nat.max_comm ..
 | .cons b ts,t=>by show max (dT b) (sR (ts.snoc t))=max (max (dT b) (sR ts)) (dT t);rw[Fb ts t,Nat.max_assoc]
theorem rO:∀ls:List (List It),(XE (Xn ls)).length≤(ls.map fun b=>(XE b).length).sum+2*(ls.length-1)
 | []=>by simp[Xn,XE]
 | [x]=>by simp[Xn]
 |x::y::r=>by have:=rO (y::r);simp only[Xn,rP,Uj,vd,tS,Pa,sA,NC,KO,vc,Ny,xR,qu,lq,Lo,List.length_cons,List.length_nil,List.map_cons,List.sum_cons]at this⊢;lia
structure qC(d:Nat)(H:AH)(us:List Value)(ts:Ts):Prop where
 rep:Fa H ts us
 ok:Pr ts=true
 deep:sR ts≤d
 size:N9 ts≤us.length*tl d
 len:(Vs ts).length=us.length
theorem qC.ext{d H H' us ts}(h:qC d H us ts)(e:Ext H H'):qC d H' us ts:=⟨Fa.ext e ts h.rep,h.ok,h.deep,h.size,h.len⟩
noncomputable def D5(t:Tr):Bool:=t.ctorIdx==9
theorem rl(t:Tr):(Kv t==("Comma":Str))=D5 t:=Om (f:=(· ==("Comma":Str))) (g:=(· ==9)) (by kernel_rfl) t
theorem am{a b:Bool}(h:a=true)(g:b=true):(a&&b)=true:=by subst h;exact g
theorem la{a b:List It}{x y:Nat}(h1:(XE a).length≤x)(h2:(XE b).length≤y):(XE (a++b)).length≤x+y:=rP a b▸Nat.add_le_add h1 h2
theorem XO:tl (d+1)=tl d+tl d+tl d+10:=by rw[show tl (d+1)=3*tl d+10 from rfl];lia
theorem t1{x c:Nat}(h:x≤c+tl d)(hc:c≤20):x+2≤tl (d+1):=by rw[XO];have:=WW d;lia
theorem t2{x c:Nat}(h:x≤tl d+c+tl d)(hc:c≤14):x+2≤tl (d+1):=by rw[XO];have:=WW d;lia
theorem t3{x c c':Nat}(h:x≤tl d+c+tl d+c'+tl d)(hc:c+c'≤8):x+2≤tl (d+1):=by rw[XO];lia
theorem t4{x:Nat}(h:x≤3*tl d+8):x+2≤tl (d+1):=Nat.add_le_add_right h 2
theorem IL:pk (d+1)=pk d+pk d+pk d+pk d+4:=by rw[show pk (d+1)=4*pk d+4 from rfl];lia
theorem b0{c:Nat}(h:c≤20):k+c≤k+pk (d+1):=by rw[IL];have:=UZ d;lia
theorem b1{c:Nat}(h:c≤16):k+c+pk d≤k+pk (d+1):=by rw[IL];have:=UZ d;lia
theorem b2{c c':Nat}(h:c+c'≤12):k+c+pk d+c'+pk d≤k+pk (d+1):=by rw[IL];have:=UZ d;lia
theorem b3{c:Nat}(h:c≤8):k+c+pk d+pk d+pk d≤k+pk (d+1):=by rw[IL];have:=UZ d;lia
theorem bj{j:Nat}(h:j≤2):k+1+pk d+1+j*pk d≤k+pk (d+1):=by rw[IL];have:=UZ d;have:=Nat.mul_le_mul_right (pk d) h;lia
theorem gt{c:Nat}(h:c≤16):k+c+(pk d-1)≤k+pk (d+1):=z2n (Nat.add_le_add_left (Nat.sub_le _ _) _) (b1 h)
theorem bI{c c':Int}{M m:Nat}(hk:i+(M:Int)≤c)(h:m≤M)(hc:c≤c'):i+(m:Int)≤c':=Int.le_trans (Int.add_le_add_left (Int.ofNat_le.mpr h) i) (Int.le_trans hk hc)
theorem tW{r c:Nat}(h:¬r=c):((r:Int)==(c:Int))=false:=beq_false_of_ne fun e=>h (Int.ofNat.inj e)
theorem qw:((d+1:Nat):Int)-1=(d:Int):=Int.add_sub_cancel (d:Int) 1
section
variable{t t' C9:Tr}{v v' Iw u:Value}{o:Tk}{us:List Value}{ts:Ts}
theorem gw(g:Got d H v t)(l:Nat):(XE (wrap l t (bare t))).length≤tl d:=z2n (F4 l t _) g.size
theorem cx(g:Got d H v t)(g':Got d H v' t'):max (dT t) (dT t')+1≤d+1:=Z4B (Nat.max_le.mpr ⟨g.deep,g'.deep⟩)
theorem qC.snoc(h:qC d H us ts)(g:Got d H u t):qC d H (us++[u]) (ts.snoc t):=
 ⟨h.rep.snoc g.rep,by rw[MB];exact am h.ok g.ok,by rw[Fb];exact Nat.max_le.mpr ⟨h.deep,g.deep⟩,by unfold N9;rw[Z0,List.map_append,List.sum_append,List.length_append,Nat.add_mul];exact Nat.add_le_add h.size (by rw[show[u].length*tl d=tl d from Nat.one_mul _];exact gw g 1),by rw[Z0,List.length_append,List.length_append,h.len];rfl⟩
theorem VB(gs:qC d H us ts)(h2:us.length≤2):(XE (Xn (Vs ts))).length≤2*tl d+2:=
 z2n (rO _) (Nat.add_le_add (z2n gs.size (Nat.mul_le_mul_right _ h2)) (Nat.mul_le_mul_left 2 (Nat.sub_le_of_le_add (show(Vs ts).length≤1+1 from gs.len▸h2))))
theorem Rr(g:Got d H u t)(gs:qC d H us ts)(h2:us.length≤2):(XE (Xn (Vs (.cons t ts)))).length≤tl d+2*tl d+4:=
 z2n (rO (wrap 1 t (bare t)::Vs ts)) (Nat.add_le_add (Nat.add_le_add (gw g 1) (z2n gs.size (Nat.mul_le_mul_right _ h2))) (Nat.mul_le_mul_left 2 (gs.len▸h2)))
theorem Got.un(g:Got d H v t)(nd:RP H u "Unary" [.str o.v 0,v])(o1:wj o=true∧o.ch.length≤6):Got (d+1) H u (.un o t):=
 ⟨⟨_,nd,g.rep⟩,am o1.1 g.ok,Z4B g.deep,t1 (z2n (WG o _ o1.2) (Nat.add_le_add_left (gw g 13) 7)) (by decide)⟩
theorem Got.upd(g:Got d H v t)(it:aV t=true):∀{p:Bool}(_:RP H u "Update" [.str o.v 0,.bool p,v])(_:PY o=true∧o.ch.length≤6),Got (d+1) H u (.upd o p t)
 |true,nd,o1=>⟨⟨_,nd,g.rep⟩,am (am o1.1 it) g.ok,Z4B g.deep,t1 (z2n (WG o _ o1.2) (Nat.add_le_add_left (gw g 13) 7)) (by decide)⟩
 |false,nd,o1=>⟨⟨_,nd,g.rep⟩,am (am o1.1 it) g.ok,Z4B g.deep,t1 (c:=6) (Nat.add_comm _ _▸la (gw g 15) (Uj o []▸o1.2)) (by decide)⟩
theorem Got.bin(g:Got d H v t)(g':Got d H v' t')(nd:RP H u (WI o) [.str o.v 0,v,v'])(o1:0<eP o∧o.ch.length≤10):Got (d+1) H u (.bin o t t'):=
 ⟨⟨_,_,nd,g.rep,g'.rep⟩,am (am (decide_eq_true o1.1) g.ok) g'.ok,cx g g',t2 (la (la (gw g _) (J8 o o1.2)) (gw g' _)) (by decide)⟩
theorem Got.asg(g:Got d H v t)(it:aV t=true)(g':Got d H v' t')(nd:RP H u "Assign" [.str o.v 0,v,v'])(o1:B3 o=true∧o.ch.length≤10):Got (d+1) H u (.asg o t t'):=
 ⟨⟨_,_,nd,g.rep,g'.rep⟩,am (am (am o1.1 it) g.ok) g'.ok,cx g g',t2 (la (la (gw g _) (J8 o o1.2)) (gw g' _)) (by decide)⟩
theorem Got.cond(g:Got d H v t)(g':Got d H v' t')(Yj:Got d H Iw C9)(nd:RP H u "Cond" [v,v',Iw]):Got (d+1) H u (.cond t t' C9):=
 ⟨⟨_,_,_,nd,g.rep,g'.rep,Yj.rep⟩,am (am g.ok g'.ok) Yj.ok,Z4B (Nat.max_le.mpr ⟨g.deep,Nat.max_le.mpr ⟨g'.deep,Yj.deep⟩⟩),t3 (c:=3) (c':=3) (la (la (la (la (gw g 3) (r72 rfl)) (gw g' 1)) (r72 rfl)) (gw Yj 1)) (by decide)⟩
theorem Got.mem(g:Got d H v t)(nd:RP H u "Member" [v,.str Tk.m.v 0]):Got (d+1) H u (.mem t .m):=
 ⟨⟨_,nd,g.rep⟩,am g.ok rfl,Z4B g.deep,t1 (c:=2) (Nat.add_comm _ _▸la (gw g 15) (r72 rfl)) (by decide)⟩
theorem Got.idx(g:Got d H v t)(g':Got d H v' t')(nd:RP H u "Index" [v,v']):Got (d+1) H u (.idx t t'):=
 ⟨⟨_,_,nd,g.rep,g'.rep⟩,am g.ok g'.ok,cx g g',t4 (z2n (la (gw g 15) (la (a:=[some .lb]) (x:=1) (r72 rfl) (la (y:=1) (gw g' 0) (r72 rfl)))) (by lia))⟩
theorem K1(g:Got d H v t)(gs:qC d H us ts):max (dT t) (sR ts)+1≤d+1:=Z4B (Nat.max_le.mpr ⟨g.deep,gs.deep⟩)
theorem Got.arr{q:Addr}(g:Got d H v t)(gs:qC d H us ts)(h2:us.length≤2)(nd:RP H u "Array" [.ref q])(hq:H q=some (.lst (v::us))):Got (d+1) H u (.arr (.cons t ts)):=
 ⟨⟨_,_,nd,hq,g.rep,gs.rep⟩,am (am g.ok gs.ok) rfl,K1 g gs,t4 (z2n (la (a:=some .lb::Xn (Vs (.cons t ts))) (y:=1) (la (a:=[some .lb]) (x:=1) (r72 rfl) (Rr g gs h2)) (r72 rfl)) (by lia))⟩
theorem Got.comma{q:Addr}(g:Got d H v t)(gs:qC d H (v'::us) ts)(h2:(v'::us).length≤2)(hc:D5 t=false)(nd:RP H u "Comma" [.ref q])(hq:H q=some (.lst (v::v'::us))):Got (d+1) H u (.comma (.cons t ts)):=by
 cases ts with
 |nil=>exact(show False from gs.rep).elim
 |cons t' ts=>exact⟨⟨_,_,nd,hq,g.rep,gs.rep⟩,am (am g.ok gs.ok) (show(!D5 t)=true by rw[hc];rfl),K1 g gs,t4 (z2n (Rr g gs h2) (by lia))⟩
theorem Got.call{q:Addr}(g:Got d H v t)(gs:qC d H us ts)(h2:us.length≤2)(nd:RP H u "Call" [v,.ref q])(hq:H q=some (.lst us)):Got (d+1) H u (.call t ts):=
 ⟨⟨_,_,_,nd,g.rep,hq,gs.rep⟩,am g.ok gs.ok,K1 g gs,t4 (z2n (la (gw g 15) (la (a:=some .lp::Xn (Vs ts)) (y:=1) (la (a:=[some .lp]) (x:=1) (r72 rfl) (VB gs h2)) (r72 rfl))) (by lia))⟩
theorem dS(g:Got d H v t):(XE (if V3 t=16∧EF t=true then some .lp::bare t++[some .rp]else wrap 16 t (bare t))).length≤tl d:=by
 split
 ·exact z2n (la (a:=some .lp::bare t) (y:=1) (la (a:=[some .lp]) (x:=1) (r72 rfl) (g61 _)) (r72 rfl)) (by have:=g.size;show 1+(XE (bare t)).length+1≤tl d;lia)
 ·exact gw g 16
theorem Got.new{q:Addr}(g:Got d H v t)(gs:qC d H us ts)(h2:us.length≤2)(nd:RP H u "New" [v,.ref q])(hq:H q=some (.lst us)):Got (d+1) H u (.new t ts):=
 ⟨⟨_,_,_,nd,g.rep,hq,gs.rep⟩,am g.ok gs.ok,K1 g gs,t4 (z2n (la (la (a:=[some .new,none]) (x:=4) (r72 rfl) (dS g)) (la (a:=some .lp::Xn (Vs ts)) (y:=1) (la (a:=[some .lp]) (x:=1) (r72 rfl) (VB gs h2)) (r72 rfl))) (by lia))⟩
end
section
variable{K:KQ}{fr:dD}
theorem bc{r:Nat}{c:Int}{e:E}{PM:S}{K:KF}(h2:(fr[2]?).join=some (.int r 0))(h:((r:Int)==c)=true)(g:jd cY uK w n X e (iu K) fr H):wpS cY uK w n X (.ite (xk c) (.ret e) .nil PM) K fr H:=QL h2 (nZ h g)
theorem Dc{r:Nat}{c:Int}{t PM:S}{K:KF}(h2:(fr[2]?).join=some (.int r 0))(h:((r:Int)==c)=false)(g:wpS cY uK w n X PM K fr H):wpS cY uK w n X (.ite (xk c) t .nil PM) K fr H:=QL h2 (wG h g)
theorem OW{r:Nat}{c:Int}{x y:E}(h2:(fr[2]?).join=some (.int r 0))(h:((r:Int)==c)=true)(g:jd cY uK w n X x K fr H):jd cY uK w n X (.wJ (xk c) x y) K fr H:=QL h2 (EO h g)
theorem o9{r:Nat}{c:Int}{x y:E}(h2:(fr[2]?).join=some (.int r 0))(h:((r:Int)==c)=false)(g:jd cY uK w n X y K fr H):jd cY uK w n X (.wJ (xk c) x y) K fr H:=QL h2 (Pp h g)
theorem E4{j:Nat}{e:E}{PM:S}{K:KF}(g:jd cY uK w n X e (bT j (wpS cY uK w n X PM) K) fr H):wpS cY uK w n X (.Tw j e PM) K fr H:=g
theorem D4{e:E}{K:KF}(g:jd cY uK w n X e (iu K) fr H):wpS cY uK w n X (.ret e) K fr H:=g
noncomputable def LS(cY:Heap)(uK:OsState)(w:World)(n:Nat)(X:AH→Prop)(kd:Str)(K:KQ):KL:=d5 (sk (bU cY uK w n X .nil) (c9 (.int 1 0) (c9 (.str kd 0) (WM cY uK w n X (.ref Hd.Vk) K))))
theorem YC{j:Nat}{es:Es}{u:Value}{K:KL}(h:(fr[j]?).join=some u)(g:bU cY uK w n X es (c9 u K) fr H):bU cY uK w n X (.cons (.loc j) es) K fr H:=QL h g
theorem qV{e:E}{es:Es}{K:KL}(g:jd cY uK w n X e (sk (bU cY uK w n X es) K) fr H):bU cY uK w n X (.cons e es) K fr H:=g
theorem YN{es:Es}{u:Value}{K:KL}(g:bU cY uK w n X es (c9 u K) fr H):sk (bU cY uK w n X es) K u fr H:=g
theorem M9{u:Value}{K:KL}(g:K [u] fr H):sk (bU cY uK w n X .nil) K u fr H:=g
theorem Zm{u v:Value}{K:KL}(g:K [u,v] fr H):sk (bU cY uK w n X .nil) (c9 u K) v fr H:=g
theorem pQ{u v v':Value}{K:KL}(g:K [u,v,v'] fr H):sk (bU cY uK w n X .nil) (c9 v (c9 u K)) v' fr H:=g
theorem qd{j:Nat}{u:Value}(h:(fr[j]?).join=some u)(g:K u fr H):jd cY uK w n X (.loc j) K fr H:=QL h g
theorem qE{K:KL}(g:K [] fr H):bU cY uK w n X .nil K fr H:=g
theorem tN{op:CmpOp}{x y:E}(g:jd cY uK w n X x (Cg op (jd cY uK w n X y) K) fr H):jd cY uK w n X (.cmp op x y) K fr H:=g
theorem AW{op:CmpOp}{x y:Value}{b:Bool}(h:Et H op x y=some b)(g:K (.bool b) fr H):Cg op (jd cY uK w n X (.cst y)) K x fr H:=Dr h g
theorem c_i{op:CmpOp}{x y:Value}{b:Bool}(h:Et H op x y=some b)(g:K (.bool b) fr H):dU op x K y fr H:=Dr h g
theorem nY{r:Nat}{c:Int}{t PM:S}{K:KF}(h2:(fr[2]?).join=some (.int r 0))(h:((r:Int)==c)=true)(g:wpS cY uK w n X t (HI (wpS cY uK w n X PM) K) fr H):wpS cY uK w n X (.ite (xk c) t .nil PM) K fr H:=QL h2 (nZ h g)
theorem FM{r c:Nat}{t PM:S}{K:KF}(h2:(fr[2]?).join=some (.int r 0))(h:r<c)(g:wpS cY uK w n X t (HI (wpS cY uK w n X PM) K) fr H):wpS cY uK w n X (.ite (.cmp .Lt (.loc 2) (.cst (.int c 0))) t .nil PM) K fr H:=QL h2 (nZ (decide_eq_true (Int.ofNat_lt.mpr h)) g)
theorem Uu{r c:Nat}{t PM:S}{K:KF}(h2:(fr[2]?).join=some (.int r 0))(h:¬r<c)(g:wpS cY uK w n X PM K fr H):wpS cY uK w n X (.ite (.cmp .Lt (.loc 2) (.cst (.int c 0))) t .nil PM) K fr H:=QL h2 (wG (decide_eq_false fun q=>h (Int.ofNat_lt.mp q)) g)
theorem kr{sw:Bool}{is:List Nat}{es:Es}{PM:S}{K:KF}(g:bU cY uK w n X es (JW (WL sw is (wpS cY uK w n X PM) K)) fr H):wpS cY uK w n X (.ol sw is (.tup es) PM) K fr H:=g
theorem Xh{e:E}{es:Es}(g:jd cY uK w n X e (sk (bU cY uK w n X (.cons (.cst (.int 1 0)) (.cons (.lst es) .nil))) (WM cY uK w n X (.ref Hd.Vk) K)) fr H):jd cY uK w n X (.call (.ref Hd.Vk) (.cons e (.cons (.cst (.int 1 0)) (.cons (.lst es) .nil)))) K fr H:=g
theorem jK(base:AG cY w){m:Nat}{e:E}(hm:1≤m)(g:∀q,H q=none→jd cY uK w m X e (eT (.ref q) K) fr (upd H q (.lst (vL zq)))):jd cY uK w m X (.sub (.call (.ref Hd.nj) .nil) e) K fr H:=
 T2.le (n:=1) (UE (n:=0) (Q:=NG (dQ (jd cY uK w m X e) K) fr) base fun q hq _=>g q hq) hm
theorem Ld{kd:Str}{es:Es}(g:bU cY uK w n X es (LS cY uK w n X kd K) fr H):jd cY uK w n X (Gg kd es) K fr H:=g
theorem Sa{kd:Str}{es:Es}(g:bU cY uK w n X es (LS cY uK w n X kd K) fr H):sk (bU cY uK w n X (.cons (.cst (.int 1 0)) (.cons (.lst es) .nil))) (WM cY uK w n X (.ref Hd.Vk) K) (.str kd 0) fr H:=g
theorem VX(base:AG cY w)(f:Ic a l xs z i H k H1){kd:Str}{ps:List Value}(g:∀c H2,Ext H1 H2→Ic a l xs z i H k H2→RP H2 (.ref c) kd ps→K (.ref c) fr H2):LS cY uK w (n+2) X kd K ps fr H1:=fun _ hb _=>wm (Q:=NG K fr) base f hb fun c H2 e f nd _=>g c H2 e f nd
theorem I9(base:AG cY w)(ha:(fr[0]?).join=some (.ref a))(f:Ic a l xs z i H k H1)(h0:0≤i)(hk:i+(k:Int)≤5000){m:Int}(hm:1≤m)(g:∀(r:Nat)H2,(r:Int)<m→Ext H1 H2→Ic a l xs z i H (k+1) H2→K (.int r 0) fr H2):jd cY uK w (n+1) X (ji m) K fr H1:=
 QL ha (NT (Q:=NG K fr) base f h0 hk hm fun r H2 h e f _=>g r H2 h e f)
theorem ku{m:Nat}(dr:DR cY uK w a l xs z d)(hm:n+2*d+5≤m)(f:Ic a l xs z i H k H1)(h0:0≤i)(hk:i+((k+pk d:Nat):Int)≤4000)(g:∀v H2 t,Got d H2 v t→Ext H1 H2→Ic a l xs z i H (k+pk d) H2→K v fr H2):
  T2 cY uK w m (.ref Hd.xM) [.ref a,.int (((d+1:Nat):Int)-1) 0] H1 (NG K fr) (fun zz=>False):=qw.symm▸T2.le (dr n H H1 (NG K fr) i k f h0 hk fun v H2 t g1 e f _=>g v H2 t g1 e f) hm
theorem YD{m e0 e1:Nat}(dr:DR cY uK w a l xs z d)(hm:n+2*d+5≤m)(ha:(fr[e0]?).join=some (.ref a))(hd:(fr[e1]?).join=some (.int (d+1:Nat) 0))(f:Ic a l xs z i H k H1)(h0:0≤i)(hk:i+((k+pk d:Nat):Int)≤4000)(g:∀v H2 t,Got d H2 v t→Ext H1 H2→Ic a l xs z i H (k+pk d) H2→K v fr H2):
  jd cY uK w m (fun zz=>False) (.call (.ref Hd.xM) (.cons (.loc e0) (.cons (.bin .Sub (.loc e1) (.cst (.int 1 0))) .nil))) K fr H1:=QL ha (QL hd (ku dr hm f h0 hk g))
theorem pU{m:Nat}(dr:DR cY uK w a l xs z d)(hm:n+2*d+5≤m)(ha:(fr[0]?).join=some (.ref a))(hd:(fr[1]?).join=some (.int (d+1:Nat) 0))(f:Ic a l xs z i H k H1)(h0:0≤i)(hk:i+((k+pk d:Nat):Int)≤4000)(g:∀v H2 t,Got d H2 v t→Ext H1 H2→Ic a l xs z i H (k+pk d) H2→K v fr H2):
  jd cY uK w m (fun zz=>False) VI K fr H1:=
 YD dr hm ha hd f h0 hk g
theorem rM{m:Nat}(pl:PL cY uK w a l xs z d)(hm:n+2*d+4≤m)(ha:(fr[0]?).join=some (.ref a))(hd:(fr[1]?).join=some (.int (d+1:Nat) 0))(f:Ic a l xs z i H k H1)(h0:0≤i)(hk:i+((k+(pk d-1):Nat):Int)≤4000)(g:∀v H2 t,Got d H2 v t→aV t=true→Ext H1 H2→Ic a l xs z i H (k+(pk d-1)) H2→K v fr H2):
  jd cY uK w m (fun zz=>False) Pm K fr H1:=
 QL ha (QL hd (show T2 cY uK w _ (.ref Hd.Ww) [.ref a,.int (((d+1:Nat):Int)-1) 0] H1 (NG K fr) _ from qw.symm▸T2.le (pl n H H1 (NG K fr) i k f h0 hk fun v H2 t g1 it e f _=>g v H2 t g1 it e f) hm))
theorem JL(base:AG cY w)(os:List Tk){q:Addr}(hq:H1 q=none)(ha:(fr[0]?).join=some (.ref a))(f:Ic a l xs z i H k H1)(h0:0≤i)(hk:i+(k:Int)≤5000){m:Int}(em:m=os.length)(hm:1≤m)(hl:os.length<1000)(g:∀o H2,o∈os→Ext H1 H2→Ic a l xs z i H (k+1) H2→K (.str o.v 0) fr H2):
  jd cY uK w (n+1) X (ji m) (eT (.ref q) K) fr (upd H1 q (.lst (vL os))):=
 I9 base ha (f.new hq) h0 hk hm fun r H2 hr e f2=>let⟨o,o1,o2⟩:=zL (e _ _ Hu trivial) (em▸hr) hl;QL o1 (g o H2 o2 ((Ext.refl.new hq).trans e) f2)
end
theorem XT(base:AG cY w){fr:dD}(ha:(fr[0]?).join=some (.ref a))(f:Ic a l xs z i H k H1)(h0:0≤i)(hk:i+(k:Int)≤5000)(hQ:∀v H2 t,Got d H2 v t→aV t=true→Ext H1 H2→Ic a l xs z i H (k+1) H2→Q v H2):
  jd cY uK w (n+2) X (Gg "Name" (.cons (.sub (nu "abc") (ji 3)) .nil)) (iu (Oh Q)) fr H1:=
 Ld (I9 (n:=n+1) base ha f h0 hk (by decide) fun r H2 hr e f2=>let⟨x,x1,x2,x3⟩:=Tc hr;QL x1 (M9 (VX base f2 fun c H3 e3 f3 nd=>hQ _ _ (.name x) ⟨nd,x2,V7h _,x3▸z2n (by decide) (WW d)⟩ rfl (e.trans e3) f3)))
theorem yY(base:AG cY w):∀{d:Nat}(_:∀e,d=e+1→DR cY uK w a l xs z e),PL cY uK w a l xs z d
 |0,_,n,H,H1,Q,i,k,f,h0,hk,hQ=>by refine Vg nK base rfl fun hC=>?_;rw[wZ];walk_at "w";refine Pp rfl ?_;walk_at "w";exact(bc (r:=0) rfl rfl (XT base rfl f h0 (bI hk (B99 _ _) (by decide)) fun v H2 t g it e f2=>hQ v H2 t g it e (f2.up (Nat.add_le_add_left (by decide) k))))
 |d+1,ih,n,H,H1,Q,i,k,f,h0,hk,hQ=>by
  refine Vg nK base rfl fun hC=>?_;rw[wZ];have hp:k+1+pk d+pk d≤k+(pk (d+1)-1):=by rw[IL];have:=UZ d;lia
  have Az:k+1+pk d≤k+(pk (d+1)-1):=z2n (B99 _ _) hp;walk_at "w";refine EO (decide_eq_true (Int.ofNat_lt.mpr (Nat.zero_lt_succ d))) ?_;refine I9 base rfl f h0 (bI hk (B99 _ _) (by decide)) (by decide) fun r H2 r3 e2 f2=>?_;walk_at "w"
  by_cases q:r=0
  ·subst q;exact bc rfl rfl (XT base rfl f2 h0 (bI hk (z2n (B99 _ _) Az) (by decide)) fun v H3 t g it e f3=>hQ v H3 t g it (e2.trans e) (f3.up (z2n (Nat.add_le_add_left (by decide:1+1≤1+4) k) (z2n (Nat.add_le_add_left (UZ d) (k+1)) Az))))
  refine Dc rfl (tW (c:=0) q) (E4 (pU (n:=n) (ih d rfl) (g61 _) rfl rfl f2 h0 (bI hk Az (by decide)) fun u H3 t g3 e3 f3=>D4 ?_))
  by_cases q1:r=1
  ·subst q1;exact OW (r:=1) rfl rfl (Ld (YC rfl (qV (Zm (v:=.str Tk.m.v 0) (VX base f3 fun c H4 e4 f4 nd=>hQ _ _ (.mem t .m) (.mem (g3.ext e4) nd) rfl (e2.trans (e3.trans e4)) (f4.up Az))))))
  ·exact o9 rfl (tW (c:=1) q1) (Ld (YC rfl (qV (pU (n:=n) (ih d rfl) (g61 _) rfl rfl f3 h0 (bI hk hp (by decide)) fun u' H4 t' g4 e4 f4=>Zm (VX base f4 fun c H5 e5 f5 nd=>hQ _ _ (.idx t t') (.idx (g3.ext (e4.trans e5)) (g4.ext e5) nd) rfl (e2.trans (e3.trans (e4.trans e5))) (f5.up hp))))))
end
end
section
section
variable{cY:Heap}{uK:OsState}{w:World}{n:Nat}{H H1:AH}{Q:Value→AH→Prop}{X:AH→Prop}{a l:Addr}{xs:List Value}{z i:Int}{k d:Nat}
variable(cY uK w a l xs z)
def RS(sd:S)(r d:Nat):Prop:=∀(n:Nat)(H H1:AH)(Q:Value→AH→Prop)(i:Int)(k:Nat),Ic a l xs z i H (k+1) H1→0≤i→i+((k+pk (d+1):Nat):Int)≤4000→
 (∀v H2 t,Got (d+1) H2 v t→Ext H1 H2→Ic a l xs z i H (k+pk (d+1)) H2→Q v H2)→wpS cY uK w (n+2*d+6) (fun zz=>False) sd (Oh Q) [some (.ref a),some (.int (d+1:Nat) 0),some (.int r 0),none,none,none] H1
variable{cY uK w a l xs z}
theorem BC{r c:Nat}(h:c≤r)(q:¬r=c):c+1≤r:=Nat.lt_of_le_of_ne h (Ne.symm q)
theorem aa{o:Tk}:o∈I5→wj o=true∧o.ch.length≤6:=bZ o (by kernel_rfl)
theorem cD{o:Tk}:o∈Du→PY o=true∧o.ch.length≤6:=bZ o (by kernel_rfl)
theorem ga{o:Tk}:o∈zq→0<eP o∧o.ch.length≤10:=bZ o (by kernel_rfl)
theorem Z2{o:Tk}:o∈jl→B3 o=true∧o.ch.length≤10:=bZ o (by kernel_rfl)
theorem YT(base:AG cY w)(dr:DR cY uK w a l xs z d){r:Nat}(h3:3≤r)(rs:4≤r→RS cY uK w a l xs z oG r d):RS cY uK w a l xs z L2 r d:=fun n H H1 Q i k f h0 hk hQ=>by
 by_cases q:r=3
 ·subst q;exact bc rfl rfl (Ld (qV fun q hq _=>JL base I5 hq rfl f h0 (bI hk (b0 (by decide)) (by decide)) rfl (by decide) (by decide) fun o H2 ho e2 f2=>
   YN (qV (pU (n:=n) dr (Nat.le_succ _) rfl rfl f2 h0 (bI hk (b1 (c:=2) (by decide)) (Int.le_refl _)) fun v H3 t g3 e3 f3=>Zm (VX base f3 fun c H4 e4 f4 nd=>
    hQ _ _ (.un o t) (.un (g3.ext e4) nd (aa ho)) (e2.trans (e3.trans e4)) (f4.up (b1 (c:=2) (by decide))))))))
 ·exact Dc rfl (tW (c:=3) q) (rs (BC h3 q) n H H1 Q i k f h0 hk hQ)
theorem Bz(base:AG cY w)(pl:PL cY uK w a l xs z d){r:Nat}(h3:4≤r)(rs:5≤r→RS cY uK w a l xs z Ph r d):RS cY uK w a l xs z oG r d:=fun n H H1 Q i k f h0 hk hQ=>by
 by_cases q:r=4
 ·subst q;exact bc rfl rfl (Ld (qV fun q hq _=>JL base Du hq rfl f h0 (bI hk (b0 (by decide)) (by decide)) rfl (by decide) (by decide) fun o H2 ho e2 f2=>
   YN (qV (tN (I9 (n:=n+2*d+5) base rfl f2 h0 (bI hk (b0 (c:=2) (by decide)) (by decide)) (by decide) fun r' H3 hr e3 f3=>AW rfl (YN (qV (rM (n:=n) pl (B99 _ 2) rfl rfl f3 h0 (bI hk (gt (c:=3) (by decide)) (Int.le_refl _)) fun v H4 t g4 it e4 f4=>pQ (VX base f4 fun c H5 e5 f5 nd=>
    hQ _ _ (.upd o ((r':Int)==0) t) (.upd (g4.ext e5) it nd (cD ho)) (e2.trans (e3.trans (e4.trans e5))) (f5.up (gt (c:=3) (by decide))))))))))))
 ·exact Dc rfl (tW (c:=4) q) (rs (BC h3 q) n H H1 Q i k f h0 hk hQ)
theorem E9(o:Tk):(([("&&":Str),"||"]:List Str).any (· ==o.v))=decide (WI o="Logical"):=bZ o (by kernel_rfl)
theorem Mq{o:Tk}{K:KQ}{fr:dD}(g:K (.str (WI o) 0) fr H):Av (jd cY uK w n X (nu "Logical")) (jd cY uK w n X (nu "Binary")) K (.bool (decide (WI o="Logical"))) fr H:=by
 by_cases q:WI o="Logical"
 ·rw[q]at g;exact EO (decide_eq_true q) g
 ·rw[(oi o).resolve_left q]at g;exact Pp (decide_eq_false q) g
theorem WH(base:AG cY w)(dr:DR cY uK w a l xs z d){r:Nat}(rs:8≤r→RS cY uK w a l xs z Zq r d):RS cY uK w a l xs z Ph r d:=fun n H H1 Q i k f h0 hk hQ=>by
 by_cases q:r<8
 ·refine FM (c:=8) rfl q (kr (qV (jK base (Nat.le_add_left _ _) fun q hq=>JL base zq hq rfl f h0 (bI hk (b0 (by decide)) (by decide)) rfl (by decide) (by decide) fun o H2 ho e2 f2=>
   YN (qV (pU (n:=n) dr (Nat.le_succ _) rfl rfl f2 h0 (bI hk (b1 (c:=2) (by decide)) (Int.le_refl _)) fun v H3 t g3 e3 f3=>Zm fun b hb _=>gX Hu ?_)))))
  refine D4 (Xh (tN ?_));refine qd rfl ?_;intro p2 BP _;refine c_i ((Pf (xs:=["&&","||"]) Hu rfl).trans (R6T some (E9 o))) (Mq (Sa ?_));have e4:=(Ext.refl.new (o:=.tup [.str o.v 0,v]) hb).new (o:=.tup [.str ("&&":Str) 0,.str ("||":Str) 0]) BP;exact YC rfl (YC rfl (qV (pU (n:=n) dr (Nat.le_succ _) rfl rfl ((f3.new hb).new BP) h0 (bI hk (b2 (c:=2) (c':=0) (by decide)) (Int.le_refl _)) fun v' H5 t' g5 e5 f5=>pQ (VX base f5 fun c H6 e6 f6 nd=>
   hQ _ _ (.bin o t t') (.bin (g3.ext (e4.trans (e5.trans e6))) (g5.ext e6) nd (ga ho)) (e2.trans (e3.trans (e4.trans (e5.trans e6)))) (f6.up (b2 (c:=2) (c':=0) (by decide)))))))
 ·exact Uu (c:=8) rfl q (rs (Nat.not_lt.mp q) n H H1 Q i k f h0 hk hQ)
theorem an(base:AG cY w)(dr:DR cY uK w a l xs z d){n:Nat}{u:Value}{t:Tr}(f:Ic a l xs z i H (k+1+pk d) H1)(h0:0≤i)(hk:i+((k+pk (d+1):Nat):Int)≤4000)(g:Got d H1 u t)
  (hQ:∀v H2 t,Got (d+1) H2 v t→Ext H1 H2→Ic a l xs z i H (k+pk (d+1)) H2→Q v H2) {r:Nat} (h9:9≤r)
  (rs:10≤r→wpS cY uK w (n+2*d+6) (fun zz=>False) LJ (Oh Q) [some (.ref a),some (.int (d+1:Nat) 0),some (.int r 0),none,some u,none] H1):
  wpS cY uK w (n+2*d+6) (fun zz=>False) Zd (Oh Q) [some (.ref a),some (.int (d+1:Nat) 0),some (.int r 0),none,some u,none] H1:=by
 by_cases q:r=9
 ·subst q;exact nY rfl rfl (E4 (pU (n:=n) dr (Nat.le_succ _) rfl rfl f h0 (bI hk (b2 (c:=1) (c':=0) (by decide)) (Int.le_refl _)) fun u2 H2 t2 g2 e2 f2=>D4 (Ld (YC rfl (YC rfl (qV (pU (n:=n) dr (Nat.le_succ _) rfl rfl f2 h0 (bI hk (b3 (c:=1) (by decide)) (Int.le_refl _)) fun u3 H3 t3 g3 e3 f3=>pQ (VX base f3 fun c H4 e4 f4 nd=>
   hQ _ _ (.cond t t2 t3) (.cond (g.ext (e2.trans (e3.trans e4))) (g2.ext (e3.trans e4)) (g3.ext e4) nd) (e2.trans (e3.trans e4)) (f4.up (b3 (c:=1) (by decide)))))))))))
 ·exact Dc rfl (tW (c:=9) q) (rs (BC h9 q))
end
end
section
section
variable{cY:Heap}{uK:OsState}{w:World}{n:Nat}{H H1:AH}{Q:Value→AH→Prop}{X:AH→Prop}{a l:Addr}{xs:List Value}{z i:Int}{k d:Nat}
theorem Qb(base:AG cY w)(dr:DR cY uK w a l xs z d)(pl:PL cY uK w a l xs z d){r:Nat}(h8:8≤r)
  (rs:10≤r→∀(n:Nat)(H H1:AH)(Q:Value→AH→Prop)(i:Int)(k:Nat)(u:Value)(t:Tr),Ic a l xs z i H (k+1+pk d) H1→0≤i→i+((k+pk (d+1):Nat):Int)≤4000→Got d H1 u t→
   (∀v H2 t,Got (d+1) H2 v t→Ext H1 H2→Ic a l xs z i H (k+pk (d+1)) H2→Q v H2)→wpS cY uK w (n+2*d+6) (fun zz=>False) LJ (Oh Q) [some (.ref a),some (.int (d+1:Nat) 0),some (.int r 0),none,some u,none] H1):
  RS cY uK w a l xs z Zq r d:=fun n H H1 Q i k f h0 hk hQ=>by
 by_cases q:r=8
 ·subst q;refine E4 (OW rfl rfl (rM (n:=n) pl (B99 _ 2) rfl rfl f h0 (bI hk (gt (c:=1) (by decide)) (Int.le_refl _)) fun u H2 t g2 it e2 f2=>bc (r:=8) rfl rfl (Ld (qV ?_))));have f2:Ic a l xs z i H (k+1+pk d) H2:=f2.up (Nat.add_le_add_left (Nat.sub_le _ _) _);exact fun q hq _=>JL base jl hq rfl f2 h0 (bI hk (b1 (c:=1) (by decide)) (by decide)) rfl (by decide) (by decide) fun o H3 ho e3 f3=>
   YN (YC rfl (qV (pU (n:=n) dr (Nat.le_succ _) rfl rfl f3 h0 (bI hk (b2 (c:=1) (c':=1) (by decide)) (Int.le_refl _)) fun u' H4 t' g4 e4 f4=>pQ (VX base f4 fun c H5 e5 f5 nd=>
    hQ _ _ (.asg o t t') (.asg (g2.ext (e3.trans (e4.trans e5))) it (g4.ext e5) nd (Z2 ho)) (e2.trans (e3.trans (e4.trans e5))) (f5.up (b2 (c:=1) (c':=1) (by decide)))))))
 ·exact E4 (o9 rfl (tW (c:=8) q) (pU (n:=n) dr (Nat.le_succ _) rfl rfl f h0 (bI hk (b1 (c:=1) (by decide)) (Int.le_refl _)) fun u H2 t g2 e2 f2=>
   have VD:∀v H3 t,Got (d+1) H3 v t→Ext H2 H3→Ic a l xs z i H (k+pk (d+1)) H3→Q v H3:=fun v H3 t g e f=>hQ v H3 t g (e2.trans e) f
   Dc (r:=r) rfl (tW (c:=8) q) (an base dr f2 h0 hk g2 VD (BC h8 q) fun h=>rs h n H H2 Q i k u t f2 h0 hk g2 VD)))
theorem W1(base:AG cY w)(dr:DR cY uK w a l xs z d){n:Nat}{u:Value}{t:Tr}(f:Ic a l xs z i H (k+1+pk d) H1)(h0:0≤i)(hk:i+((k+pk (d+1):Nat):Int)≤4000)(g:Got d H1 u t){r:Nat}
  (rs:∀q us ts H2,Ext H1 H2→Ic a l xs z i H (k+pk (d+1)) H2→H2 q=some (.lst us)→qC d H2 us ts→us.length≤2→
   wpS cY uK w (n+2*d+6) (fun zz=>False) vF (Oh Q) [some (.ref a),some (.int (d+1:Nat) 0),some (.int r 0),none,some u,some (.ref q)] H2):
  wpS cY uK w (n+2*d+6) (fun zz=>False) LJ (Oh Q) [some (.ref a),some (.int (d+1:Nat) 0),some (.int r 0),none,some u,none] H1:=by
 refine E4 ⟨rfl,fun zz h=>h,I9 (n:=n+2*d+5) base rfl f h0 (bI hk (b1 (c:=1) (by decide)) (by decide)) (by decide) fun c H2 c3 e2 f2=>?_⟩;have c2:c≤2:=Nat.le_of_lt_succ (Int.ofNat_lt.mp c3);refine⟨c,rfl,z2n c2 (by decide),fun j acc H'=>Ext H1 H'∧Ic a l xs z i H (k+1+pk d+1+j*pk d) H'∧acc.length=j∧∃ts,qC d H' acc ts,⟨e2,f2.up (B99 _ _),rfl,.nil,trivial,rfl,V7h _,V7h _,rfl⟩,fun j acc H' q=>q.2.2.1,?_,?_⟩
 ·rintro j x acc H3 hx ⟨e3,f3,hj,ts,gs⟩;have hj2:j<c:=by
   have:=(List.getElem?_eq_some_iff.mp hx).1;simpa[W5]using this
  have up:k+1+pk d+1+j*pk d+pk d=k+1+pk d+1+(j+1)*pk d:=(Nat.add_assoc _ _ _).trans (R6T _ (Nat.succ_mul j _).symm);refine YD (n:=n) dr (Nat.le_succ _) rfl rfl f3 h0 (bI hk (up▸bj (z2n hj2 c2)) (Int.le_refl _)) fun u' H4 t' g4 e4 f4=>?_;exact⟨e3.trans e4,f4.up (r72 up),by rw[List.length_append,hj];rfl,_,(gs.ext e4).snoc g4⟩
 ·rintro acc H3 ⟨e3,f3,hc,ts,gs⟩ b hb _;exact rs b acc ts _ (e3.new hb) ((f3.new hb).up (bj c2)) Hu (gs.ext (Ext.refl.new hb)) (hc▸c2)
theorem ne_nil{q b:Addr}{us:List Value}(hq:H q=some (.lst us))(hb:H b=some (.lst [])):Et H .NotEq (.ref q) (.ref b)=some (!us.isEmpty):=by
 have:OB H (.ref q) (.ref b) us.isEmpty:=by
  cases us with
  |nil=>exact .data (d:=.list []) (e:=.list []) (.list hq .nil) (.list hb .nil) (by decide) (by decide) (by decide)
  |cons u us=>exact .some (Qj hq) (Qj hb)
 show(match RM .NotEq (.ref q) (.ref b)with|some r=>some r|none=>(wT H (.ref q) (.ref b)).map (!·))=_;rw[show RM .NotEq (.ref q) (.ref b)=none from rfl,UW this]
 rfl
section
variable{K:KQ}{fr:dD}
theorem FZ(base:AG cY w){kd:Str}{u:Value}{q:Addr}{us:List Value}(hu:(fr[4]?).join=some u)(h5:(fr[5]?).join=some (.ref q))(hq:H1 q=some (.lst us))(hl:us.length≤2)(f:Ic a l xs z i H k H1)
  (g:∀c H2 q',Ext H1 H2→Ic a l xs z i H k H2→RP H2 (.ref c) kd [.ref q']→H2 q'=some (.lst (u::us))→K (.ref c) fr H2):jd cY uK w (n+2) X (Gg kd (.cons j4 .nil)) K fr H1:=by
 refine Ld (qV ?_);refine YC hu ?_;intro Wp wi _;refine qd h5 ?_;exact f0 Hu (Ext.refl.new wi q _ hq trivial) (z2n (Nat.add_le_add_left hl 1) (by decide)) fun c hc _=>M9 (VX base ((f.new wi).new hc) fun c' H2 e f' nd=>g c' H2 c (((Ext.refl.new wi).new hc).trans e) f' nd (e _ _ Hu trivial))
end
theorem WS(base:AG cY w){n:Nat}{u:Value}{t:Tr}{q:Addr}{us:List Value}{ts:Ts}(f:Ic a l xs z i H (k+pk (d+1)) H1)(g:Got d H1 u t)
  (hq:H1 q=some (.lst us)) (gs:qC d H1 us ts) (h2:us.length≤2) {r:Nat}
  (hQ:∀v H2 t,Got (d+1) H2 v t→Ext H1 H2→Ic a l xs z i H (k+pk (d+1)) H2→Q v H2):
  wpS cY uK w (n+2*d+6) (fun zz=>False) vF (Oh Q) [some (.ref a),some (.int (d+1:Nat) 0),some (.int r 0),none,some u,some (.ref q)] H1:=by
 by_cases Xk:r=10
 ·subst Xk;refine bc rfl rfl ?_;walk_at "w";intro b hb _;have e2:Ext H1 (upd H1 b (.lst [])):=Ext.refl.new hb;refine Dr (ne_nil (e2 _ _ hq trivial) Hu) ?_;have arr:jd cY uK w (n+2*d+6) (fun zz=>False) (Gg "Array" (.cons j4 .nil)) (iu (Oh Q)) [some (.ref a),some (.int (d+1:Nat) 0),some (.int 10 0),none,some u,some (.ref q)] (upd H1 b (.lst [])):=
   FZ base rfl rfl (e2 _ _ hq trivial) h2 (f.new hb) fun c H2 q' e f' nd h=>hQ _ _ (.arr (.cons t ts)) (.arr (g.ext (e2.trans e)) (gs.ext (e2.trans e)) h2 nd h) (e2.trans e) f'
  cases us with
  |nil=>exact UU rfl (Pp rfl arr)
  |cons v us=>
   refine zi rfl ?_;walk_at "w";refine QL ((Wc.ext e2 t g.rep).kind (iM g.ok)) (AW T8 ?_);have ck:(Kv t != ("Comma":Str))= !D5 t:=R6T (!·) (rl t);cases hc:D5 t
   ·exact EO (by rw[ck,hc];rfl) (FZ base rfl rfl (e2 _ _ hq trivial) h2 (f.new hb) fun c H2 q' e f' nd h=>hQ _ _ (.comma (.cons t ts)) (.comma (g.ext (e2.trans e)) (gs.ext (e2.trans e)) h2 hc nd h) (e2.trans e) f')
   ·exact Pp (by rw[ck,hc];rfl) arr
 ·refine Dc rfl (tW (c:=10) Xk) (D4 (Xh ?_))
  by_cases Wq:r=11
  ·subst Wq;exact OW rfl rfl (Sa (YC rfl (YC rfl (qE (VX base f fun c H2 e f' nd=>hQ _ _ (.call t ts) (.call (g.ext e) (gs.ext e) h2 nd (e _ _ hq trivial)) e f')))))
  ·exact o9 rfl (tW (c:=11) Wq) (Sa (YC rfl (YC rfl (qE (VX base f fun c H2 e f' nd=>hQ _ _ (.new t ts) (.new (g.ext e) (gs.ext e) h2 nd (e _ _ hq trivial)) e f')))))
theorem YQ(d:Nat):tl 0≤tl d:=by have:=WW d;exact this
theorem Got.of0{H v t}(h:Got 0 H v t)(d:Nat):Got d H v t:=⟨h.rep,h.ok,z2n h.deep (V7h _),z2n h.size (YQ d)⟩
theorem ds(base:AG cY w){N D r:Nat}(f:Ic a l xs z i H (k+1) H1)(h0:0≤i)(hk:i+((k+pk D:Nat):Int)≤4000)(h3:r<3)(hN:4≤N)
  (hQ:∀v H2 t,Got D H2 v t→Ext H1 H2→Ic a l xs z i H (k+pk D) H2→Q v H2):
  wpS cY uK w N (fun zz=>False) jN (Oh Q) [some (.ref a),some (.int (D:Nat) 0),some (.int r 0),none,none,none] H1:=by
 have u4:k+1+(pk 0-1)≤k+pk D:=Nat.add_le_add_left (UZ D) k;have u1:k+1≤k+pk D:=z2n (B99 _ _) u4;obtain⟨N,rfl⟩:∃m,N=m+2:=⟨N-2,(Nat.sub_add_cancel (z2n (by decide) hN)).symm⟩
 by_cases q0:r=0
 ·subst q0;refine bc rfl rfl ?_;walk_at "w";exact T2.le (yY (d:=0) base (fun e he=>by cases he) 0 H H1 (NG (iu (Oh Q)) _) i _ f h0 (bI hk u4 (Int.le_refl _)) fun v H3 t g3 zz e3 f3 zz=>hQ v H3 t (g3.of0 D) e3 (f3.up u4)) hN
 ·refine Dc rfl (tW (c:=0) q0) (FM (c:=3) rfl h3 (D4 ?_))
  by_cases q1:r=1
  ·subst q1;exact OW rfl rfl (Ld (qE (VX base f fun c H4 e4 f4 nd=>hQ _ _ .this ((show Got 0 H4 _ .this from⟨nd,rfl,g61 _,by decide⟩).of0 D) e4 (f4.up u1))))
  ·exact o9 rfl (tW (c:=1) q1) (Ld (qV (M9 (u:=.str Tk.str.v 0) (VX base f fun c H4 e4 f4 nd=>hQ _ _ .str ((show Got 0 H4 _ .str from⟨nd,rfl,g61 _,by decide⟩).of0 D) e4 (f4.up u1)))))
theorem De(base:AG cY w):∀d,DR cY uK w a l xs z d
 |0=>fun n H H1 Q i k f h0 hk hQ=>by refine Vg XR base rfl fun hC=>?_;rw[Z6];walk_at "w";refine Pp rfl (I9 (n:=n+3) base rfl f h0 (bI hk (B99 _ _) (by decide)) (by decide) fun r H2 r3 e2 f2=>?_);exact ds base f2 h0 hk (Int.ofNat_lt.mp r3) (Nat.le_add_left _ _) fun v H3 t g3 e3 f3=>hQ v H3 t g3 (e2.trans e3) f3
 |d+1=>fun n H H1 Q i k f h0 hk hQ=>by
  have dr:=De base d;have pl:PL cY uK w a l xs z d:=yY base fun e he=>De base e;refine Vg XR base rfl fun hC=>?_;rw[Z6];walk_at "w";refine EO (decide_eq_true (Int.ofNat_lt.mpr (Nat.zero_lt_succ d))) (I9 (n:=n+2*d+5) base rfl f h0 (bI hk (B99 _ _) (by decide)) (by decide) fun r H2 r13 e2 f2=>?_);have VD:∀v H3 t,Got (d+1) H3 v t→Ext H2 H3→Ic a l xs z i H (k+pk (d+1)) H3→Q v H3:=fun v H3 t g e f=>hQ v H3 t g (e2.trans e) f
  by_cases r3:r<3
  ·exact ds base f2 h0 hk r3 (Nat.le_add_left _ _) VD
  ·have go:RS cY uK w a l xs z L2 r d:=YT base dr (Nat.not_lt.mp r3) fun h4=>Bz base pl h4 fun h5=>WH base dr fun h8=>Qb base dr pl h8 fun h10 n H H1 Q i k u t f h0 hk g hQ=>W1 base dr f h0 hk g fun q us ts H2 e2 f2 hq gs h2=>
    WS base f2 (g.ext e2) hq gs h2 fun v H3 t g e f=>hQ v H3 t g (e2.trans e) f
   exact Dc rfl (tW (c:=0) fun q=>r3 (q▸by decide)) (Uu (c:=3) rfl r3 (go n H H2 Q i k f2 h0 hk VD))
end
end
section
theorem y1{x s:Nat}(h:x≤2*s):x+1≤2*(s+1):=by lia
theorem y2{x y s u:Nat}(h:x≤2*s)(k:y≤2*u):max x y+1≤2*(s+u+1):=by lia
theorem y3{x s:Nat}(h:x≤2*s):x+2≤2*(s+1):=by lia
theorem y4{x y s u:Nat}(h:x≤2*s)(k:y≤2*u):max x (y+1)+1≤2*(s+u+1):=by lia
theorem Eu(t:Tr):hR t≤2*JY t:=Tr.rec (motive_1:=fun t=>hR t≤2*JY t) (motive_2:=fun as=>NS as≤2*c8 as) (V7h _) (fun zz=>(by decide:1≤2*1)) (by decide:1≤2*1) (by decide:1≤2*1)
 (fun zz zz h=>y1 h) (fun zz zz zz h=>y1 h) (fun zz zz zz h k=>y2 h k) (fun zz zz zz h k=>y2 h k) (fun a b c h k l=>(show max (hR a) (max (hR b) (hR c))+1≤2*(JY a+JY b+JY c+1)by lia)) (fun zz h=>y3 h) (fun zz h=>y3 h) (fun zz zz h k=>y4 h k) (fun zz zz h k=>y4 h k) (fun zz zz h=>y1 h) (fun zz zz h k=>y2 h k)
 (V7h _) (fun a as h k=>(show max (hR a) (NS as)≤2*(JY a+c8 as)by lia)) t
theorem S4(P:Params):makesIn (Hd.KF P) Hd.ic=true:=by kernel_rfl
theorem Mn(P:Params):findIn (Hd.KF P) (.ref Hd.ic) "__init__"=some (some (.ref Hd.Ui)):=by kernel_rfl
theorem To(P:Params):typeIn (Hd.KF P) (.ref Hd.Ui)=some (.type "function"):=by kernel_rfl
theorem Ge(P:Params):makesIn (Hd.KF P) Hd.y7=true:=by kernel_rfl
theorem nB(P:Params):findIn (Hd.KF P) (.ref Hd.y7) "__init__"=some (some (.ref Hd.W7)):=by kernel_rfl
theorem zr(P:Params):typeIn (Hd.KF P) (.ref Hd.W7)=some (.type "function"):=by kernel_rfl
theorem pL(P:Params):makesIn (Hd.KF P) Hd.Mg=true:=by kernel_rfl
theorem xF(P:Params):findIn (Hd.KF P) (.ref Hd.Mg) "__init__"=some (some (.ref Hd.Hg)):=by kernel_rfl
theorem Sq(P:Params):typeIn (Hd.KF P) (.ref Hd.Hg)=some (.type "function"):=by kernel_rfl
section
variable{cY:Heap}{uK:OsState}{w:World}{n:Nat}{X:AH→Prop}{H:AH}{Q:Value→AH→Prop}
theorem qH(base:AG cY w){cs:List Nat}(h:∀x d,H x=none→Q (.ref x) (upd H x (.inst Hd.ic d (B0 cs 0)))):T2 cY uK w (n+2) (.ref Hd.ic) [.str (n6 cs) 0] H Q X:=by refine xh base S4 Mn To fun x d hx=>?_;refine Vg J2 base rfl fun hC=>?_;refine Sh rfl rfl Pw (J1O rfl) ?_;refine OQ rfl Pw (J1O rfl) ?_;refine OQ rfl Pw (J1O rfl) ?_;exact And.intro rfl (h x d hx)
theorem WY(base:AG cY w)(h:∀v H',yf H H'→Q v H'):T2 cY uK w (n+2) (.ref Hd.y7) [] H Q X:=by refine xh base Ge nB zr fun x d hx=>?_;refine Vg OI base rfl fun hC=>?_;delta ah;walk_at "w";intro a ha W0;have nx:x≠a:=gQ ha Hu;refine Ni (iF (C:=Hd.y7) (d:=d) (fs:=[]) ((CH nx).trans Hu) QJ (J1O rfl)) ?_;refine Ni (Ow QJ (J1O rfl)) ?_;refine Ni (Ow QJ (J1O rfl)) ?_;exact h _ _ fun b o e=>(CH (gQ hx e)).trans ((CH (gQ (aP ha) e)).trans ((CH (gQ hx e)).trans e))
theorem Tg{p d:Addr}{fs:List (Fn×Value)}{f:Fn}{u:Value}(h:H p=some (.inst Hd.Mg d fs))(hl:(D7 f u fs).length≤30):AV H (.ref p) f u=some (upd H p (.inst Hd.Mg d (D7 f u fs))):=iF h F1 hl
theorem FG{p d:Addr}{fs:List (Fn×Value)}{f:Fn}{u:Value}(hl:(D7 f u fs).length≤30):AV (upd H p (.inst Hd.Mg d fs)) (.ref p) f u=some (upd H p (.inst Hd.Mg d (D7 f u fs))):=Ow F1 hl
theorem zS{o:Option AH}{b:AH}{F:AH→Prop}(h:o=some b)(g:∀G,G=b→F G):o.elim False F:=Ni h (g b rfl)
theorem TZ(base:AG cY w){cs:List Nat}{its:List It}(hl:cs.length<1000000)(lf:Left cs 0 its)(h:∀p x H',Ext H H'→Ae H' p x cs (toks its) 0→Q (.ref p) H'):
  T2 cY uK w (n+7) (.ref Hd.Mg) [.str (n6 cs) 0] H Q X:=by
 refine xh base pL xF Sq fun p d hp=>?_;refine Vg cV base rfl fun hC=>?_;delta mD;walk_at "w";refine qH base fun x dx hx W0=>?_;have At:p≠x:=gQ hx Hu;have Ky:H x=none:=aP hx;walk_at "w";refine zS (Tg ((CH At).trans Hu) (J1O rfl)) fun H2 e2=>?_;have gF:H2 p=some (.inst Hd.Mg d [(.So,.ref x)]):=(congrFun e2 p).trans Hu;have Zu:H2 x=some (.inst Hd.ic dx (B0 cs 0)):=(congrFun e2 x).trans ((CH (Ne.symm At)).trans Hu);have g2:yf H H2:=fun b o e=>(congrFun e2 b).trans ((CH (gQ hp e)).trans ((CH (gQ Ky e)).trans ((CH (gQ hp e)).trans e)));clear e2 hx hC W0;refine QL (UC gF F1 (f:=.So) rfl (fun zz q=>by cases q)) ?_;walk_at "w";refine⟨⟨x,dx,_,rfl,Zu⟩,?_⟩;refine L5 base Zu hl lf fun tk H3 j r g3 KR Dz vx hr3 hT zm=>?_;have hp3:=g3 _ _ gF At;walk_at "w";refine Ni (Tg hp3 (J1O rfl)) ?_;refine Ni (FG (J1O rfl)) ?_;refine Ni (FG (J1O rfl)) ?_;refine Ni (FG (J1O rfl)) ?_;refine zS (FG (J1O rfl)) fun H4 e4=>?_;have hp4:H4 p=some (.inst Hd.Mg d [(.So,.ref x),(.token,.ref tk),(.later,.none),(.strict,.bool false),(.depth,.int 0 0),(.nested,.int 0 0)]):=(congrFun e4 p).trans Hu;have k4:∀b o,b≠p→H3 b=some o→H4 b=some o:=fun b o nb e=>(congrFun e4 b).trans ((CH nb).trans e);clear e4 zm;refine WY base fun jv H5 g5 nT=>?_;have hp5:=g5 _ _ hp4;walk_at "w";refine zS (Tg hp5 (J1O rfl)) fun H6 e6=>?_;have hS:H6 p=some (.inst Hd.Mg d [(.So,.ref x),(.token,.ref tk),(.later,.none),(.strict,.bool false),(.depth,.int 0 0),(.nested,.int 0 0),(.nl,jv)]):=(congrFun e6 p).trans Hu;have k6:∀b o,b≠p→H3 b=some o→H6 b=some o:=fun b o nb e=>(congrFun e6 b).trans ((CH nb).trans (g5 b o (k4 b o nb e)));clear e6;intro a ha hC4;have npa:p≠a:=gQ ha hS;refine Ni (Tg ((CH npa).trans hS) (J1O rfl)) ?_;have st:∀b o,b≠p→H3 b=some o→(upd (upd H6 a (.lst [])) p (.inst Hd.Mg d (Ex x tk 0 jv (.ref a)))) b=some o:=fun b o n1 e=>(CH n1).trans ((CH (gQ ha (k6 b o n1 e))).trans (k6 b o n1 e));obtain⟨dt,s1,s2,hT⟩:=hT;exact h p x _ (fun b o e f=>st b o (gQ hp e) (g3 b o (g2 b o e) (gQ Ky e))) ⟨d,tk,jv,.ref a,dx,j,r,Hu,st x _ (Ne.symm At) Dz,⟨dt,s1,s2,st tk _ (Ne.symm (gQ KR gF)) hT⟩,vx,hr3⟩
noncomputable def P0(K:Nat)(its:List It):PyData:=match P K .expr 0 (toks its)with
 | .ok t []=>X2 t
 |_=>.none
theorem qh(ts:List Tk):((CM ts.head?).s==("end":Str))=ts.isEmpty:=by
 rw[show("end":Str)=Kd.stop.s from rfl,Yo];cases ts with
 |nil=>rfl
 |cons t r=>cases t<;>rfl
theorem RD(base:AG cY w){cs:List Nat}{its:List It}(hl:cs.length<9000)(hk:(toks its).length≤300)(lf:Left cs 0 its)(h:∀u H',Ext H H'→Ru H' u (P0 660 its)→Q u H'):
  T2 cY uK w (n+680) (.ref Hd.Xc) [.str (n6 cs) 0] H Q (fun zz=>False):=by
 refine Vg Mj base rfl fun hC=>?_;simp only[lS];walk_at "w";refine TZ (n:=n+672) base (by lia) lf fun p x H1 e1 hs W0=>?_;walk_at "w";have S:Ps ⟨p,x,cs,hl⟩ H1 H1 (toks its) 0:=⟨hs,.refl⟩;refine⟨S.inst,T2.mono _ _ _ (lK (z:=⟨p,x,cs,hl⟩) base 660 .expr 0 (toks its) H1 [.ref p,.bool true] rfl S _ _ ?_) (by lia) (fun zz zz z=>z) (fun zz z=>z)⟩;have hb:∀d,P0 660 its=d→P0 660 its=d:=fun zz e=>e;unfold P0 at h hb;have Vl:P 660 .expr 0 (toks its)≠ .out:=W4 (by decide);cases hP:P 660 .expr 0 (toks its)with
 |out=>exact absurd hP Vl
 |fail=>
  rw[hP]at h;exact fun H2 e2=>h _ _ (e1.trans e2) .none
 |ok t wB=>
  have sz:JY t+wB.length≤(toks its).length:=(mP hP).len;rw[hP]at h;intro v H2 S2 N zm;walk_at "w";have hb:=Eu t;refine T2.mono _ _ _ (Wj (n:=0) base (hR t) v (X2 t) H2 (RV.ofT t v (vU.rt N) (by lia)) _ fun u H3 g3 hu nT=>?_) (by lia) (fun zz zz z=>z) (fun zz z=>z.elim);have S3:=S2.keep g3.ext g3;walk_at "w";refine QL S3.token ?_;walk_at "w";refine QL S3.tk.kind ?_;walk_at "w";rw[qh];have e3:Ext H H3:=e1.trans S3.ext;cases wB with
  |nil=>rw[List.isEmpty_nil];walk_at "w";exact h _ _ e3 hu
  |cons a r=>rw[List.isEmpty_cons];walk_at "w";exact h _ _ e3 .none
end
end
section
noncomputable def Fh:PyData→Tk
 | .str x=>(VS.find? (fun o=>o.v==x)).getD .a
 |_=>.a
noncomputable def KU:PyData→List PyData
 | .list l=>l
 |_=>[]
noncomputable def Gx:List PyData→Str
 | .str k::_=>k
 |_=>""
noncomputable def gD(ds:List PyData)(i:Nat):PyData:=ds.getD i .none
noncomputable def zN:List Tr→Ts
 | []=>.nil
 |t::l=>.cons t (zN l)
noncomputable def rH(k:Str):Nat:=(["","Name","This","Str","Unary","Update","Binary","Assign","Cond","Comma","Array","Call","New","Member","Index"]:List Str).findIdx (· ==k)
noncomputable abbrev UT:=(Nat→Tr)→(Nat→Ts)→(Nat→Tk)→Bool→Tr
noncomputable def Zj:List UT:=[fun zz zz zz zz=>.hole,fun zz zz k zz=>.name (k 1),fun zz zz zz zz=>.this,fun zz zz zz zz=>.str,fun u zz k zz=>.un (k 1) (u 2),fun u zz k b=>.upd (k 1) b (u 3),fun u zz k zz=>.bin (k 1) (u 2) (u 3),fun u zz k zz=>.asg (k 1) (u 2) (u 3),fun u zz zz zz=>.cond (u 1) (u 2) (u 3),
 fun zz us zz zz=>.comma (us 1),fun zz us zz zz=>.arr (us 1),fun u us zz zz=>.call (u 1) (us 2),fun u us zz zz=>.new (u 1) (us 2),fun u zz k zz=>.mem (u 1) (k 2),fun u zz zz zz=>.idx (u 1) (u 2),fun u zz k zz=>.bin (k 1) (u 2) (u 3)]
noncomputable def Sf:Nat→PyData→Tr
 |0,_=>.hole
 |n+1,d=>Zj.getD (rH (Gx (KU d))) (fun zz zz zz zz=>.hole) (fun i=>Sf n (gD (KU d) i)) (fun i=>zN ((KU (gD (KU d) i)).map (Sf n))) (fun i=>Fh (gD (KU d) i)) (Gx [gD (KU d) 2]=="True")
theorem Us(o:Tk):Fh (.str o.v)=o:=bZ o (by kernel_rfl)
theorem A0{n j:Nat}{k:Str}{ds:List PyData}{f:UT}(hk:rH k=j)(hf:Zj.getD j (fun zz zz zz zz=>.hole)=f):Sf (n+1) (.list (.str k::ds))=
  f (fun i=>Sf n (gD (.str k::ds) i)) (fun i=>zN ((KU (gD (.str k::ds) i)).map (Sf n))) (fun i=>Fh (gD (.str k::ds) i)) (Gx [gD (.str k::ds) 2]=="True"):=by subst hk hf;rfl
theorem UA{a n:Nat}(h:a+1≤n):∃m,n=m+1∧a≤m:=⟨n-1,by lia,by lia⟩
theorem mx{a b m:Nat}(h:max a b≤m):a≤m∧b≤m:=Nat.max_le.mp h
mutual
theorem kc:∀(t:Tr)(n:Nat),hR t≤n→Sf n (X2 t)=t
 | .hole,0,_=>rfl
 | .hole,_+1,_=>rfl
 | .name x,n,h=>by obtain⟨m,rfl,hm⟩:=UA (show 0+1≤n from h);exact(A0 (j:=1) (by decide +kernel) rfl).trans (R6T Tr.name (Us x))
 | .this,n,h=>by obtain⟨m,rfl,hm⟩:=UA (show 0+1≤n from h);exact A0 (j:=2) (by decide +kernel) rfl
 | .str,n,h=>by obtain⟨m,rfl,hm⟩:=UA (show 0+1≤n from h);exact A0 (j:=3) (by decide +kernel) rfl
 | .un o a,n,h=>by obtain⟨m,rfl,hm⟩:=UA (show hR a+1≤n from h);exact(A0 (j:=4) (by decide +kernel) rfl).trans (congr (R6T Tr.un (Us o)) (kc a m hm))
 | .upd o p a,n,h=>by
  obtain⟨m,rfl,hm⟩:=UA (show hR a+1≤n from h);have e:(Gx [.str (if p then "True" else "False")]==("True":Str))=p:=by cases p<;>decide +kernel
  exact(A0 (j:=5) (by decide +kernel) rfl).trans (congr (congr (R6T Tr.upd (Us o)) e) (kc a m hm))
 | .bin o a b,n,h=>by
  obtain⟨m,rfl,hm⟩:=UA (show max (hR a) (hR b)+1≤n from h);have go:∀{j k}{ds},rH k=j→Zj.getD j (fun zz zz zz zz=>.hole)=(fun u zz k zz=>.bin (k 1) (u 2) (u 3))→ds= [.str o.v,X2 a,X2 b]→Sf (m+1) (.list (.str k::ds))= .bin o a b:=fun h1 h2 h3=>by subst h3;exact(A0 h1 h2).trans (congr (congr (R6T Tr.bin (Us o)) (kc a m (mx hm).1)) (kc b m (mx hm).2))
  show Sf (m+1) (.list [.str (WI o),.str o.v,X2 a,X2 b])=_;rcases oi o with e|e<;>rw[e]
  ·exact go (j:=15) (by decide +kernel) rfl rfl
  ·exact go (j:=6) (by decide +kernel) rfl rfl
 | .asg o a b,n,h=>by obtain⟨m,rfl,hm⟩:=UA (show max (hR a) (hR b)+1≤n from h);exact(A0 (j:=7) (by decide +kernel) rfl).trans (congr (congr (R6T Tr.asg (Us o)) (kc a m (mx hm).1)) (kc b m (mx hm).2))
 | .idx a b,n,h=>by obtain⟨m,rfl,hm⟩:=UA (show max (hR a) (hR b)+1≤n from h);exact(A0 (j:=14) (by decide +kernel) rfl).trans (congr (R6T Tr.idx (kc a m (mx hm).1)) (kc b m (mx hm).2))
 | .cond a b c,n,h=>by obtain⟨m,rfl,hm⟩:=UA (show max (hR a) (max (hR b) (hR c))+1≤n from h);exact(A0 (j:=8) (by decide +kernel) rfl).trans (congr (congr (R6T Tr.cond (kc a m (mx hm).1)) (kc b m (mx (mx hm).2).1)) (kc c m (mx (mx hm).2).2))
 | .comma as,n,h=>by obtain⟨m,rfl,hm⟩:=UA (show NS as+1+1≤n from h);exact(A0 (j:=9) (by decide +kernel) rfl).trans (R6T Tr.comma (kB as m (Nat.le_of_succ_le hm)))
 | .arr as,n,h=>by obtain⟨m,rfl,hm⟩:=UA (show NS as+1+1≤n from h);exact(A0 (j:=10) (by decide +kernel) rfl).trans (R6T Tr.arr (kB as m (Nat.le_of_succ_le hm)))
 | .call f as,n,h=>by obtain⟨m,rfl,hm⟩:=UA (show max (hR f) (NS as+1)+1≤n from h);exact(A0 (j:=11) (by decide +kernel) rfl).trans (congr (R6T Tr.call (kc f m (mx hm).1)) (kB as m (Nat.le_of_succ_le (mx hm).2)))
 | .new f as,n,h=>by obtain⟨m,rfl,hm⟩:=UA (show max (hR f) (NS as+1)+1≤n from h);exact(A0 (j:=12) (by decide +kernel) rfl).trans (congr (R6T Tr.new (kc f m (mx hm).1)) (kB as m (Nat.le_of_succ_le (mx hm).2)))
 | .mem a x,n,h=>by obtain⟨m,rfl,hm⟩:=UA (show hR a+1≤n from h);exact(A0 (j:=13) (by decide +kernel) rfl).trans (congr (R6T Tr.mem (kc a m hm)) (Us x))
theorem kB:∀(as:Ts)(n:Nat),NS as≤n→zN ((Zo as).map (Sf n))=as
 | .nil,_,_=>rfl
 | .cons a as,n,h=>congr (R6T Ts.cons (kc a n (mx h).1)) (kB as n (mx h).2)
end
theorem ET{t T:Tr}(h:X2 t=X2 T):t=T:=by have a:=kc t (max (hR t) (hR T)) (w8W _ _);rw[h,kc T _ (Nat.le_max_right _ _)]at a;exact a.symm
theorem bu(o:Tk):PyData.strOk o.v=true:=bZ o (by kernel_rfl)
theorem Pg(t:Tr):PyData.strOk (Kv t)=true:=by exact kq (p:=fun k zz=>PyData.strOk k) (by kernel_rfl) t
theorem Sz(p:Bool):PyData.strOk (if p then "True" else "False")=true:=by cases p<;>decide +kernel
def pE(n:Nat)(d:PyData):Prop:=d.canLay0=true∧d.depth≤n
def ZJ(n:Nat)(ds:List PyData):Prop:=PyData.canLayAll0 ds=true∧PyData.depthAll ds≤n
theorem pE.up{n m d}(h:pE n d)(l:n≤m):pE m d:=⟨h.1,z2n h.2 l⟩
theorem pE.str{n x}(h:PyData.strOk x=true):pE n (.str x):=⟨h,V7h _⟩
theorem pE.lst{n ds}(h:ZJ n ds):pE (n+1) (.list ds):=⟨h.1,Z4B h.2⟩
theorem ZJ.nil{n}:ZJ n []:=⟨rfl,V7h _⟩
theorem ZJ.cons{n d ds}(h:pE n d)(k:ZJ n ds):ZJ n (d::ds):=⟨Bool.and_eq_true_iff.mpr ⟨h.1,k.1⟩,Nat.max_le.mpr ⟨h.2,k.2⟩⟩
theorem ZJ.up{n m ds}(h:ZJ n ds)(l:n≤m):ZJ m ds:=⟨h.1,z2n h.2 l⟩
mutual
theorem DE:∀t:Tr,pE (hR t) (X2 t)
 | .hole=>⟨rfl,g61 _⟩
 | .name x=>.lst (.cons (.str (Pg (.name x))) (.cons (.str (bu x)) .nil))
 | .this=>.lst (.cons (.str (Pg .this)) .nil)
 | .str=>.lst (.cons (.str (Pg .str)) (.cons (.str (bu .str)) .nil))
 | .un o a=>.lst (.cons (.str (Pg (.un o a))) (.cons (.str (bu o)) (.cons (DE a) .nil)))
 | .upd o p a=>.lst (.cons (.str (Pg (.upd o p a))) (.cons (.str (bu o)) (.cons (.str (Sz p)) (.cons (DE a) .nil))))
 | .bin o a b=>.lst (.cons (.str (Pg (.bin o a b))) (.cons (.str (bu o)) (.cons ((DE a).up (w8W _ _)) (.cons ((DE b).up (S28 _ _)) .nil))))
 | .asg o a b=>.lst (.cons (.str (Pg (.asg o a b))) (.cons (.str (bu o)) (.cons ((DE a).up (w8W _ _)) (.cons ((DE b).up (S28 _ _)) .nil))))
 | .idx a b=>.lst (.cons (.str (Pg (.idx a b))) (.cons ((DE a).up (w8W _ _)) (.cons ((DE b).up (S28 _ _)) .nil)))
 | .cond a b c=>.lst (.cons (.str (Pg (.cond a b c))) (.cons ((DE a).up (w8W _ _)) (ZJ.up (.cons ((DE b).up (w8W _ _)) (.cons ((DE c).up (S28 _ _)) .nil)) (S28 _ _))))
 | .comma as=>.lst (.cons (.str (Pg (.comma as))) (.cons (.lst (uk as)) .nil))
 | .arr as=>.lst (.cons (.str (Pg (.arr as))) (.cons (.lst (uk as)) .nil))
 | .call f as=>.lst (.cons (.str (Pg (.call f as))) (.cons ((DE f).up (w8W _ _)) (.cons (.up (.lst (uk as)) (S28 _ _)) .nil)))
 | .new f as=>.lst (.cons (.str (Pg (.new f as))) (.cons ((DE f).up (w8W _ _)) (.cons (.up (.lst (uk as)) (S28 _ _)) .nil)))
 | .mem a x=>.lst (.cons (.str (Pg (.mem a x))) (.cons (DE a) (.cons (.str (bu x)) .nil)))
theorem uk:∀as:Ts,ZJ (NS as) (Zo as)
 | .nil=>.nil
 | .cons a as=>.cons ((DE a).up (w8W _ _)) ((uk as).up (S28 _ _))
end
theorem d1{x s:Nat}(h:x≤2*s+1):x+1≤2*(s+1)+1:=by lia
theorem d2{x y s u:Nat}(h:x≤2*s+1)(k:y≤2*u+1):max x y≤2*max s u+1:=by lia
theorem d3{x s:Nat}(h:x≤2*s+1):x+2≤2*(s+1)+1:=by lia
theorem d4{x y s u:Nat}(h:x≤2*s+1)(k:y≤2*u+1):max x (y+1)+1≤2*(max s u+1)+1:=by lia
theorem fT(t:Tr):hR t≤2*dT t+1:=Tr.rec (motive_1:=fun t=>hR t≤2*dT t+1) (motive_2:=fun as=>NS as≤2*sR as+1) (V7h _) (fun zz=>g61 _) (g61 _) (g61 _)
 (fun zz zz h=>d1 h) (fun zz zz zz h=>d1 h) (fun zz zz zz h k=>d1 (d2 h k)) (fun zz zz zz h k=>d1 (d2 h k)) (fun zz zz zz h k l=>d1 (d2 h (d2 k l))) (fun zz h=>d3 h) (fun zz h=>d3 h) (fun zz zz h k=>d4 h k) (fun zz zz h k=>d4 h k) (fun zz zz h=>d1 h) (fun zz zz h k=>d1 (d2 h k)) (V7h _) (fun zz zz h k=>d2 h k) t
section
variable{H:AH}
theorem om{x:Value}{d:PyData}(h:Ru H x d):∀{y:Value}{e:PyData},Ru H y e→PyData.eqv d e=true→d=e:=by
 induction h using Ru.rec (motive_2:=fun zz ds zz=>∀(vs:List Value)(es:List PyData),WD H vs es→PyData.eqvAll ds es=true→ds=es)with
 |none=>intro y e k q;cases k<;>first|rfl|(simp[PyData.eqv]at q)
 |str x=>intro y e k q;cases k<;>first|(simp[PyData.eqv]at q;done)|(simp only[PyData.eqv,beq_iff_eq]at q;rw[q])
 |list _ _ ih=>
  intro y e k q;cases k with
  |none=>simp[PyData.eqv]at q
  |str _=>simp[PyData.eqv]at q
  |list _ k=>rw[PyData.eqv]at q;rw[ih _ _ k q]
 |nil=>rename_i k q;cases k with
  |nil=>rfl
  |cons _ _=>simp[PyData.eqvAll]at q
 |cons _ _ UK jH=>rename_i k q;cases k with
  |nil=>simp[PyData.eqvAll]at q
  |cons k1 k2=>simp only[PyData.eqvAll,Bool.and_eq_true]at q;rw[UK k1 q.1,jH _ _ k2 q.2]
theorem Ha(K:Nat)(its:List It):(P0 K its).canLay0=true:=by
 unfold P0
 split
 ·exact(DE _).1
 ·rfl
theorem nQ{its:List It}{T:Tr}{x y:Value}(hx:Ru H x (P0 660 its))(hy:Ru H y (X2 T))(hT:dT T≤90)(hn:T≠ .hole){b:Bool}(hb:b=true↔P 660 .expr 0 (toks its)= .ok T []):Et H .Eq x y=some b∧Et H .NotEq x y=some (!b):=by
 have r:pE (hR T) (X2 T):=DE T;have:=fT T;have e:OB H x y (PyData.eqv (P0 660 its) (X2 T)):=.data hx hy (Ha _ _) r.1 (z2n (Nat.min_le_right _ _) (by have:=r.2;lia));have key:PyData.eqv (P0 660 its) (X2 T)=b:=by
  refine Bool.eq_iff_iff.mpr ⟨fun z=>hb.mpr ?_,fun q=>?_⟩
  ·have e:=om hx hy z;unfold P0 at e
   split at e
   ·rename_i t h;rw[h,ET e]
   ·exact absurd (ET (t:=T) (T:=.hole) e.symm) hn
  ·have:P0 660 its=X2 T:=by unfold P0;rw[hb.mp q]
   rw[this];exact PySem.SeqAt.eqv_refl _ r.1
 rw[key]at e;have hy':∃c,y= .ref c:=by cases T<;>first|exact absurd rfl hn|(cases hy;exact⟨_,rfl⟩)
 obtain⟨c,rfl⟩:=hy';have c1:∀d,Ru H x d→RM .Eq x (.ref c)=none∧RM .NotEq x (.ref c)=none:=fun d h=>by cases h<;>exact⟨rfl,rfl⟩
 constructor
 ·unfold Et;rw[(c1 _ hx).1];exact UW e
 ·unfold Et;rw[(c1 _ hx).2];exact R6T (Option.map (!·)) (UW e)
end
end
section
noncomputable def A2{α β:Type}(R:α→β→Prop):List α→List β→Prop
 | [],[]=>True
 |a::as,b::bs=>R a b∧A2 R as bs
 |_,_=>False
theorem A2.mono{α β:Type}{R S:α→β→Prop}(k:∀a b,R a b→S a b):∀{xs:List α}{ys:List β},A2 R xs ys→A2 S xs ys
 | [],[],_=>trivial
 | [],_::_,h=>h.elim
 |_::_,[],h=>h.elim
 |_::_,_::_,h=>⟨k _ _ h.1,A2.mono k h.2⟩
theorem A2.snoc{α β:Type}{R:α→β→Prop}{a:α}{b:β}(r:R a b):∀{xs:List α}{ys:List β},A2 R xs ys→A2 R (xs++[a]) (ys++[b])
 | [],[],_=>⟨r,trivial⟩
 | [],_::_,h=>h.elim
 |_::_,[],h=>h.elim
 |_::_,_::_,h=>⟨h.1,A2.snoc r h.2⟩
theorem A2.app{α β:Type}{R:α→β→Prop}{us:List α}{vs:List β}(h:A2 R us vs):∀{xs:List α}{ys:List β},A2 R xs ys→A2 R (xs++us) (ys++vs)
 | [],[],_=>h
 | [],_::_,h=>h.elim
 |_::_,[],h=>h.elim
 |_::_,_::_,h'=>⟨h'.1,A2.app h h'.2⟩
theorem A2.len{α β:Type}{R:α→β→Prop}:∀{xs:List α}{ys:List β},A2 R xs ys→xs.length=ys.length
 | [],[],_=>rfl
 | [],_::_,h=>h.elim
 |_::_,[],h=>h.elim
 |_::_,_::_,h=>by simp[A2.len h.2]
theorem A2.last{α β:Type}{R:α→β→Prop}{b:β}:∀{xs:List α}{ys:List β},A2 R xs (ys++[b])→∃sQ x,xs=sQ++[x]∧A2 R sQ ys∧R x b
 | [],[],h=>h.elim
 | [],_::_,h=>h.elim
 | [x],[],h=>⟨[],x,rfl,trivial,h.1⟩
 |_::_::_,[],h=>h.2.elim
 |x::xs,y::ys,h=>by obtain⟨sQ,z,rfl,h1,h2⟩:=A2.last h.2;exact⟨x::sQ,z,rfl,⟨h.1,h1⟩,h2⟩
theorem A2.get{α β:Type}{R:α→β→Prop}:∀{xs:List α}{ys:List β}{k:Nat}{x:α},A2 R xs ys→xs[k]? =some x→∃y,ys[k]? =some y∧R x y
 | [],_,_,_,_,e=>by simp at e
 |_::_,[],_,_,h,_=>h.elim
 |x::xs,y::ys,0,_,h,e=>by simp at e;subst e;exact⟨y,rfl,h.1⟩
 |x::xs,y::ys,k+1,_,h,e=>by simp only[List.getElem?_cons_succ]at e⊢;exact A2.get h.2 e
def ZU(H:AH)(v:Value)(p:Nat×Nat):Prop:=∃a,v= .ref a∧H a=some (.tup [.int p.1 0,.int p.2 0])
def jV(H:AH)(v:Value)(p:Nat×Bool):Prop:=∃a,v= .ref a∧H a=some (.tup [.int p.1 0,.bool p.2])
def Fu(H H':AH):Prop:=∀a vs,H a=some (.tup vs)→H' a=some (.tup vs)
theorem Fu.refl{H:AH}:Fu H H:=fun zz zz e=>e
theorem Fu.trans{H Dw XZ:AH}(x:Fu H Dw)(y:Fu Dw XZ):Fu H XZ:=fun a vs e=>y a vs (x a vs e)
theorem Fu.new{H:AH}{a:Addr}{o:AO}(h:H a=none):Fu H (upd H a o):=fun b vs e=>(CH (gQ h e)).trans e
theorem Fu.lst{H:AH}{a:Addr}{us:List Value}{o:AO}(h:H a=some (.lst us)):Fu H (upd H a o):=fun b vs e=>by rw[CH (fun q=>by rw[q,h]at e;cases e)];exact e
theorem ZU.keep{H H':AH}(k:Fu H H')(v:Value)(p:Nat×Nat)(h:ZU H v p):ZU H' v p:=let⟨a,e,q⟩:=h;⟨a,e,k _ _ q⟩
theorem jV.keep{H H':AH}(k:Fu H H')(v:Value)(p:Nat×Bool)(h:jV H v p):jV H' v p:=let⟨a,e,q⟩:=h;⟨a,e,k _ _ q⟩
theorem Q7:∀c,c<128→(!(!(Builtin.Str.occurrences ("abcms\")]":Str) ⟨#[c]⟩ 0 (Str.length ("abcms\")]":Str)) 1).isEmpty))=Za (some c):=by decide +kernel
theorem Bj(c d:Nat):((⟨#[c]⟩:Str)==n6 [d])=decide (c=d):=by
 rw[show(⟨#[c]⟩:Str)=n6 [c]from rfl]
 by_cases q:c=d
 ·subst q;simp
 ·rw[decide_eq_false q];refine beq_false_of_ne fun e=>q ?_;have:=VR.mp e;simpa using this
theorem li{c:Nat}(h1:c≠40)(h2:c≠41)(prev:Option Nat)(i:Nat)(w:List (Nat×Bool))(f:List (Nat×Nat))(r:List Nat):Oc prev i w f (c::r)=Oc (some c) (i+1) w f r:=by cases w<;>simp only[Oc,if_neg h1,if_neg h2]
section
variable{cY:Heap}{uK:OsState}{w:World}{n:Nat}{X:AH→Prop}{H:AH}{Q:Value→AH→Prop}
noncomputable def pv(cs:List Nat)(k:Nat):Option Nat:=if k=0 then none else cs[k-1]?
def bR(H:AH)(cs:List Nat)(ps:List (Nat×Nat))(fa wa:Addr)(k:Nat)(fr:dD)(H':AH):Prop:=∃r3 r4 r5 r6 fs ws fL wL,fr= [some (.str (n6 cs) 0),some (.ref fa),some (.ref wa),r3,r4,r5,r6]∧H' fa=some (.lst fs)∧H' wa=some (.lst ws)∧
 A2 (ZU H') fs fL∧A2 (jV H') ws wL.reverse∧fs.length≤k∧ws.length≤k∧Oc (pv cs k) k wL fL (cs.drop k)=some ps∧Ext H H'
section
variable{H':AH}{cs:List Nat}{ps:List (Nat×Nat)}{fa wa:Addr}{k:Nat}{fr:dD}{r3 r4 r5 r6:Option Value}{fs ws:List Value}{fL:List (Nat×Nat)}{wL:List (Nat×Bool)}
theorem bR.mk(h1:H' fa=some (.lst fs))(h2:H' wa=some (.lst ws))(h3:A2 (ZU H') fs fL)(h4:A2 (jV H') ws wL.reverse)(h5:fs.length≤k)(h6:ws.length≤k)(h7:Oc (pv cs k) k wL fL (cs.drop k)=some ps)(h8:Ext H H'):
  bR H cs ps fa wa k [some (.str (n6 cs) 0),some (.ref fa),some (.ref wa),r3,r4,r5,r6] H':=⟨r3,r4,r5,r6,fs,ws,fL,wL,rfl,h1,h2,h3,h4,h5,h6,h7,h8⟩
@[elab_as_elim]theorem bR.el{C:dD→Prop}(h:bR H cs ps fa wa k fr H')(g:∀r3 r4 r5 r6 fs ws fL wL,H' fa=some (.lst fs)→H' wa=some (.lst ws)→A2 (ZU H') fs fL→A2 (jV H') ws wL.reverse→fs.length≤k→ws.length≤k→Oc (pv cs k) k wL fL (cs.drop k)=some ps→Ext H H'→
  C [some (.str (n6 cs) 0),some (.ref fa),some (.ref wa),r3,r4,r5,r6]):C fr:=by
 obtain⟨r3,r4,r5,r6,fs,ws,fL,wL,rfl,h1,h2,h3,h4,h5,h6,h7,h8⟩:=h;exact g r3 r4 r5 r6 fs ws fL wL h1 h2 h3 h4 h5 h6 h7 h8
end
theorem nv{Q:KF}{fr:dD}{i j:Nat}{r:Mo}{a:Addr}{u v:Value}(h:H a=some (.tup [u,v]))(g:r Q ((fr.set i (some u)).set j (some v)) H):WL false [i,j] r Q (.ref a) fr H:=by unfold WL;rw[WF h];exact⟨rfl,g⟩
section
variable{H':AH}{cs:List Nat}{fa wa:Addr}{k:Nat}{r4 r5 r6:Option Value}{fs ws:List Value}{Q:KF}
noncomputable def MT:S:=(.expr (.Df (.loc 2) .app (.cons (.tup (.cons (.loc 3) (.cons (.bool false (.cons (.cmp .Eq (.loc 3) (.cst (.int 0 0))) (.cons (.cmp .NotIn (.sub (.loc 0) (.bin .Sub (.loc 3) (.cst (.int 1 0)))) (.cst (.str ("abcms\")]":Str) 0))) .nil))) .nil))) .nil)) .nil)
noncomputable def Zc:S:=(.ol false [5,6] (.Df (.loc 2) .pop .nil) (.expr (.Df (.loc 1) .ext (.cons (.wJ (.loc 6) (.lst (.cons (.tup (.cons (.loc 5) (.cons (.loc 3) .nil))) .nil)) (.lst .nil)) .nil)) .nil))
theorem Op(hl:cs.length<9000)(hc:∀c∈cs,c<128)(hk:k≤cs.length)(hw:H' wa=some (.lst ws))(lw:ws.length<10000)
  (g:∀a,H' a=none→Q .next [some (.str (n6 cs) 0),some (.ref fa),some (.ref wa),some (.int k 0),r4,r5,r6] (upd (upd H' a (.tup [.int k 0,.bool (Za (pv cs k))])) wa (.lst (ws++[.ref a])))):
  wpS cY uK w n X MT Q [some (.str (n6 cs) 0),some (.ref fa),some (.ref wa),some (.int k 0),r4,r5,r6] H':=by
 delta MT;walk_at "w";refine⟨⟨wa,_,rfl,hw⟩,?_⟩;have fin:∀a,H' a=none→upd H' a (.tup [.int k 0,.bool (Za (pv cs k))]) wa=some (.lst ws):=fun a ha=>(CH (gQ ha hw)).trans hw;cases k with
 |zero=>exact HR rfl fun a ha _=>⟨wa,ws,.ref a,rfl,fin a ha,lw,rfl,g a ha⟩
 |succ k=>
  obtain⟨c,e⟩:∃c,cs[k]? =some c:=⟨_,B8Q hk⟩;have e':Za (pv cs (k+1))=Za (some c):=R6T Za e;rw[e']at fin g;refine Oe (beq_false_of_ne fun q=>by cases q) ?_;walk_at "w";rw[show((k+1:Nat):Int)-1=(k:Int)from Int.add_sub_cancel (k:Int) 1];refine QL (kg e (Nat.lt_trans hl (Pn rfl))) ?_;walk_at "w";refine Dr (R6T some (Q7 c (hc c (C3D e)))) ?_;exact fun a ha _=>⟨wa,ws,.ref a,rfl,fin a ha,lw,rfl,g a ha⟩
theorem gS{b:Nat}{pl:Bool}{tv:Addr}(mJ:fa≠wa)(hf:H' fa=some (.lst fs))(hw:H' wa=some (.lst (ws++[.ref tv])))(ht:H' tv=some (.tup [.int b 0,.bool pl]))(lw:ws.length<10000)(lf:fs.length<9999)
  (g:∀K gs,yf (upd H' wa (.lst ws)) K→A2 (ZU K) gs (if pl then[(b,k)]else[])→gs.length≤1→Q .next [some (.str (n6 cs) 0),some (.ref fa),some (.ref wa),some (.int k 0),r4,some (.int b 0),some (.bool pl)] (upd K fa (.lst (fs++gs)))):
  wpS cY uK w n X Zc Q [some (.str (n6 cs) 0),some (.ref fa),some (.ref wa),some (.int k 0),r4,r5,r6] H':=by
 delta Zc;walk_at "w";refine⟨⟨wa,_,rfl,hw⟩,wa,ws,.ref tv,rfl,hw,lw,?_⟩;have qW:tv≠wa:=fun q=>by rw[q,hw]at ht;cases ht
 refine nv ((CH qW).trans ht) ?_;walk_at "w";have NP:upd H' wa (.lst ws) fa=some (.lst fs):=(CH mJ).trans hf;refine⟨⟨fa,_,rfl,NP⟩,?_⟩;cases pl with
 |false=>exact fun l hl _=>⟨fa,fs,l,[],rfl,(CH (gQ hl NP)).trans NP,rfl,Ne.symm (gQ hl NP),Hu,Nat.lt_succ_of_lt lf,g _ [] (yf.refl.new hl) trivial (V7h _)⟩
 |true=>exact fun t ht _ l hl _=>
   have IG:=(CH (gQ ht NP)).trans NP;have htl:t≠l:=gQ hl Hu
   ⟨fa,fs,l,[.ref t],rfl,(CH (gQ hl IG)).trans IG,rfl,Ne.symm (gQ hl IG),Hu,Nat.succ_lt_succ lf,g _ [.ref t] ((yf.refl.new ht).new hl) ⟨⟨t,rfl,(CH htl).trans Hu⟩,trivial⟩ (g61 _)⟩
end
theorem N7(base:AG cY w){cs:List Nat}{ps:List (Nat×Nat)}(hl:cs.length<9000)(hc:∀c∈cs,c<128)(hp:Oc none 0 [] [] cs=some ps)
  (h:∀f vs H',Ext H H'→H' f=some (.lst vs)→A2 (ZU H') vs ps→vs.length≤9000→Q (.ref f) H'):T2 cY uK w (n+1) (.ref Hd.BA) [.str (n6 cs) 0] H Q X:=by
 refine Vg D3 base rfl fun hC=>?_;delta Dt;walk_at "w";intro fa PH W0 wa Ap zm ta HJ nT;refine gX Hu ?_;walk_at "w";have mJ:fa≠wa:=gQ Ap Hu;have nft:fa≠ta:=gQ HJ ((CH mJ).trans Hu);have uX:wa≠ta:=gQ HJ Hu;have sZ:=aP Ap;refine⟨n6 cs,rfl,bR H cs ps fa wa,.mk (fs:=[]) (ws:=[]) (fL:=[]) (wL:=[]) ((CH nft).trans ((CH mJ).trans Hu)) ((CH uX).trans Hu) trivial trivial (g61 _) (g61 _) hp (((Ext.refl.new PH).new Ap).new HJ),?_,?_⟩
 ·intro k c fr H' hk hJ;refine bR.el hJ fun r3 r4 r5 r6 fs ws fL wL hf hw pf pw lf lw WA ex=>?_;clear hJ hC W0 zm nT Ap HJ h;have hk:cs[k]? =some c:=by simpa[n6]using hk
  obtain⟨Jr,eZ⟩:=List.getElem?_eq_some_iff.mp hk;rw[List.drop_eq_getElem_cons Jr,eZ]at WA;have fy:=Nat.lt_of_le_of_lt lf (Nat.lt_trans Jr hl);have Yk:=Nat.lt_of_le_of_lt lw (Nat.lt_trans Jr hl);have xw:∀o,H wa=some o→¬fx o:=fun o e=>by rw[sZ]at e;cases e
  have xf:∀o,H fa=some o→¬fx o:=fun o e=>by rw[PH]at e;cases e
  walk_at "w"
  by_cases q1:c=40
  ·subst q1;rw[Iu]at WA;refine nZ (by decide +kernel) ?_;refine Op hl hc (Nat.le_of_lt Jr) hw (Nat.lt_trans Yk (Pn rfl)) fun a ha=>?_;have na:wa≠a:=gQ ha hw;have tk:Fu H' (upd H' a (.tup [.int k 0,.bool (Za (pv cs k))])):=.new ha;have yV:=Fu.lst (H:=upd H' a (.tup [.int k 0,.bool (Za (pv cs k))])) (o:=.lst (ws++[.ref a])) ((CH na).trans hw);refine .mk (wL:=(k,Za (pv cs k))::wL) ((CH mJ).trans ((CH (gQ ha hf)).trans hf)) Hu (pf.mono (ZU.keep (tk.trans yV))) ?_ (Nat.le_succ_of_le lf) ?_ ((show pv cs (k+1)=some 40 from hk)▸WA) ((ex.new ha).mut xw)
   ·rw[List.reverse_cons];exact A2.snoc ⟨a,rfl,yV _ _ Hu⟩ (pw.mono (jV.keep (tk.trans yV)))
   ·rw[List.length_append];exact Z4B lw
  ·have e1:((⟨#[c]⟩:Str)==("(":Str))=false:=by rw[lits.2.2.2.1,Bj];exact decide_eq_false q1
   refine wG e1 ?_;walk_at "w";have e2:((⟨#[c]⟩:Str)==(")":Str))=decide (c=41):=by rw[lits.2.2.2.2.1,Bj]
   by_cases q2:c=41
   ·subst q2;refine nZ e2 ?_;cases wL with
    |nil=>cases WA
    |cons x wL=>
     obtain⟨b,pl⟩:=x;rw[jB]at WA;rw[List.reverse_cons]at pw;obtain⟨Bu,v,rfl,P1,tv,rfl,ht⟩:=pw.last;rw[List.length_append]at lw Yk;refine gS mJ hf hw ht (Nat.lt_trans (Nat.lt_of_succ_lt Yk) (Pn rfl)) (Nat.lt_trans fy (Pn rfl)) fun K gs gr pg lg=>?_;have tg:Fu (upd H' wa (.lst Bu)) K:=fun a vs e=>gr a _ e;have tk:=(Fu.lst (o:=.lst Bu) hw).trans (tg.trans (Fu.lst (o:=.lst (fs++gs)) (gr _ _ ((CH mJ).trans hf))));refine .mk (fL:=fL++if pl then[(b,k)]else[]) (wL:=wL) Hu ((CH (Ne.symm mJ)).trans (gr _ _ Hu)) (A2.app (pg.mono (ZU.keep (Fu.lst (gr _ _ ((CH mJ).trans hf))))) (pf.mono (ZU.keep tk))) (P1.mono (jV.keep tk)) ?_ (Nat.le_succ_of_le (Nat.le_of_succ_le lw)) ?_ (((ex.mut xw).trans gr.ext).mut xf)
     ·rw[List.length_append];exact Nat.add_le_add lf lg
     ·rw[show pv cs (k+1)=some 41 from hk];cases pl
      ·exact(List.append_nil fL).symm▸WA
      ·exact WA
   ·refine wG (e2.trans (decide_eq_false q2)) ?_;refine .mk hf hw pf pw (Nat.le_succ_of_le lf) (Nat.le_succ_of_le lw) ?_ ex;rw[show pv cs (k+1)=some c from hk, ←li q1 q2];exact WA
 ·intro fr H' hJ;refine bR.el hJ fun r3 r4 r5 r6 fs ws fL wL hf hw pf pw lf lw WA ex=>?_;have e:(n6 cs).cps.size=cs.length:=by simp[n6]
  rw[e]at WA lf;rw[List.drop_length]at WA;cases WA;walk_at "w";exact h fa fs H' ex hf pf (z2n lf (Nat.le_of_lt hl))
theorem T2.Go{f:Value}{args:List Value}{a:Addr}{us:List Value}(ha:H a=some (.Ab us))(h:T2 cY uK w n f args (del H a) (fun v H'=>H' a=none→Q v (upd H' a (.Ab us))) (fun H'=>H' a=none→X (upd H' a (.Ab us)))):T2 cY uK w n f args H Q X:=.wn ha (fun zz zz zz q=>nomatch q) h
theorem jQ{H':AH}{a:Addr}{us:List Value}(ha:H a=some (.Ab us))(e:Ext (del H a) H')(hn:H' a=none):Ext H (upd H' a (.Ab us)):=fun b o h f=>by
 have nb:b≠a:=fun q=>by rw[q,ha]at h;cases h;exact f.elim
 rw[CH nb];exact e b o (by rw[E2 nb];exact h) f
variable{a l:Addr}{xs:List Value}{j z:Int}
theorem EY{f:Value}{args:List Value}(hp:UM H a l xs j z)(R:Value→AH→Prop)(hR:∀v K o,R v K→K a=none→R v (upd K a o))
  (c:∀(K:AH)(P:Value→AH→Prop),(∀v K',Ext K K'→R v K'→P v K')→T2 cY uK w n f args K P (fun zz=>False))
  (h:∀v H',Ext H H'→UM H' a l xs j z→R v H'→Q v H'):T2 cY uK w n f args H Q (fun zz=>False):=by
 refine T2.Go hp.Ab (T2.mono _ _ _ (c (del H a) _ fun v K' e r=>?_) (g61 _) (fun zz zz q=>q) fun zz q=>q.elim);intro hn;have e':=jQ hp.Ab e hn;exact h v _ e' ⟨Hu,e' _ _ hp.lst trivial,hp.nums,hp.len,hp.ne⟩ (hR v K' _ r hn)
theorem DY(base:AG cY w)(hp:UM H a l xs j z){cs:List Nat}{its:List It}(hl:cs.length<9000)(hk:(toks its).length≤300)(lf:Left cs 0 its)
  (h:∀u H',Ext H H'→UM H' a l xs j z→Ru H' u (P0 660 its)→Q u H'):T2 cY uK w (n+680) (.ref Hd.Xc) [.str (n6 cs) 0] H Q (fun zz=>False):=
 EY hp (fun v K=>Ru K v (P0 660 its)) (fun v K o r hn=>r.ext (Ext.refl.new hn)) (fun K P hP=>RD base hl hk lf hP) h
theorem Fu.of{H H':AH}(e:Ext H H'):Fu H H':=fun zz zz q=>e _ _ q trivial
theorem gg(base:AG cY w)(hp:UM H a l xs j z){cs:List Nat}{ps:List (Nat×Nat)}(hl:cs.length<9000)(hc:∀c∈cs,c<128)(hs:Oc none 0 [] [] cs=some ps)
  (h:∀f vs H',Ext H H'→UM H' a l xs j z→H' f=some (.lst vs)→A2 (ZU H') vs ps→vs.length≤9000→Q (.ref f) H'):T2 cY uK w (n+1) (.ref Hd.BA) [.str (n6 cs) 0] H Q (fun zz=>False):=
 EY hp (fun v K=>∃f vs,v= .ref f∧K f=some (.lst vs)∧A2 (ZU K) vs ps∧vs.length≤9000)
  (fun v K o⟨f,vs,e1,e2,e3,e4⟩hn=>⟨f,vs,e1,by rw[CH (fun q=>by rw[q,hn]at e2;cases e2)];exact e2,e3.mono fun v p q=>ZU.keep (Fu.new hn) v p q,e4⟩)
  (fun K P hP=>N7 base hl hc hs fun f vs K' e h1 h2 h3=>hP _ K' e ⟨f,vs,rfl,h1,h2,h3⟩)
  fun v H' e p⟨f,vs,e1,e2,e3,e4⟩=>by rw[e1];exact h f vs H' e p e2 e3 e4
end
end
section
noncomputable def IC:S:=(.ite (.bool true (.cons (.loc 10) (.cons (.cmp .Eq (.call (.ref Hd.Xc) (.cons (.bin .Add (.jk 6 (.cst .none) (.loc 9)) (.jk 6 (.bin .Add (.loc 9) (.cst (.int 1 0))) (.cst .none))) .nil)) (.loc 5)) .nil))) (.ret (.cst (.bool false))) .nil .nil)
noncomputable def UX:E:=(.bool true (.cons (.cmp .Eq (.sub (.loc 6) (.loc 9)) (.cst (.str (" ":Str) 0))) (.cons (.cmp .In (.sub (.loc 6) (.bin .Sub (.loc 9) (.cst (.int 1 0)))) (.cst (.str ("+-":Str) 0))) (.cons (.cmp .Eq (.sub (.loc 6) (.bin .Sub (.loc 9) (.cst (.int 1 0)))) (.sub (.loc 6) (.bin .Add (.loc 9) (.cst (.int 1 0))))) (.cons (.cmp .NotEq (.jk 6 (.bin .Sub (.loc 9) (.cst (.int 2 0))) (.bin .Sub (.loc 9) (.cst (.int 1 0)))) (.sub (.loc 6) (.bin .Sub (.loc 9) (.cst (.int 1 0))))) .nil)))))
noncomputable def VW:S:=(.Tw 10 UX IC)
noncomputable def iQ:S:=(.ite (.cmp .Eq (.call (.ref Hd.Xc) (.cons (.bin .Add (.bin .Add (.bin .Add (.bin .Add (.jk 6 (.cst .none) (.loc 7)) (.cst (.str (" ":Str) 0))) (.jk 6 (.bin .Add (.loc 7) (.cst (.int 1 0))) (.loc 8))) (.cst (.str (" ":Str) 0))) (.jk 6 (.bin .Add (.loc 8) (.cst (.int 1 0))) (.cst .none))) .nil)) (.loc 5)) (.ret (.cst (.bool false))) .nil .nil)
noncomputable def eB:S:=(.gM 9 (.cst (.int 1 0)) (.bin .Sub (.call (.builtin "len") (.cons (.loc 6) .nil)) (.cst (.int 1 0))) VW .nil)
noncomputable def P5:S:=(.XM [7,8] (.call (.ref Hd.BA) (.cons (.loc 6) .nil)) iQ eB)
noncomputable def z8:S:=(.ite (.cmp .NotEq (.call (.ref Hd.Xc) (.cons (.loc 6) .nil)) (.loc 5)) (.ret (.cst (.bool false))) .nil P5)
noncomputable def jA:S:=(.Tw 4 (.call (.ref Hd.xM) (.cons (.loc 1) (.cons (.bin .Sub (.cst (.int 4 0)) (.loc 2)) .nil))) (.ol true [5,6] (.tup (.cons (.call (.ref Hd.ry) (.cons (.loc 4) .nil)) (.cons (.call (.ref Hd.ze) (.cons (.loc 4) (.cons (.cst (.int 0 0)) (.cons (.cst (.bool false)) .nil)))) .nil))) z8))
noncomputable def mO:S:=(.GD 3 (.loc 2) jA (.ret (.cst (.bool true))))
noncomputable def Yg:S:=(.Tw 2 (.bin .Add (.cst (.int 1 0)) (.call (.ref Hd.Nu) (.cons (.loc 1) (.cons (.cst (.int 2 0)) .nil)))) mO)
theorem W6:EB=(.Tw 1 (.lst (.cons (.call (.type "list") (.cons (.iU 0 50) .nil)) (.cons (.cst (.int 0 0)) (.cons (.bin .Mod (.call (.builtin "sum") (.cons (.iU 0 50) .nil)) (.cst (.int 997 0))) .nil)))) Yg):=rfl
section
variable{cY:Heap}{uK:OsState}{w:World}{n:Nat}{H H1:AH}{a l l0:Addr}{xs:List Value}{j z:Int}{cs:List Nat}{pF:Value}{T:Tr}
theorem nE{i:Nat}(hl:cs.length<9000):Cb (.str (n6 cs) 0) .none (.int i 0)=some (.str (n6 (cs.take i)) 0):=by exact Jc rfl rfl (by rw[Q8];lia) fV
theorem DM{i k:Nat}(hl:cs.length<9000)(h:i≤k)(hi:i≤cs.length):Cb (.str (n6 cs) 0) (.int i 0) (.int k 0)=some (.str (n6 ((cs.drop i).take (k-i))) 0):=by exact Jc rfl rfl (by rw[Q8];lia) (z9 h hi)
theorem uW{i:Nat}(hl:cs.length<9000)(hi:i≤cs.length):Cb (.str (n6 cs) 0) (.int i 0) .none=some (.str (n6 (cs.drop i)) 0):=by exact Jc rfl rfl (by rw[Q8];lia) (kf hi)
structure TS(H:AH)(a l:Addr)(xs:List Value)(j z:Int)(pF:Value)(T:Tr):Prop where
 Ab:UM H a l xs j z
 pF:Ru H pF (X2 T)
theorem w2(base:AG cY w)(ts:TS H1 a l xs j z pF T)(ok:LZ T=true)(hd:dT T≤3){A B C:List It}(e:bare T=A++some Tk.lp::B++some Tk.rp::C)(hc:cs=XE (bare T))(hz:cs.length≤290)
  (Vl:∀k n,P k .expr n (toks (A++none::B++none::C))≠ .ok T []) {b f:Nat} (hb:b=(XE A).length) (hf:f=(XE A).length+1+(XE B).length) {r0 r1 r2 r3 r4 r9 Xg:Option Value} {Q:Fl→dD→AH→Prop} {fr:dD} (N3:fr= [r0,r1,r2,r3,r4,some pF,some (.str (n6 cs) 0),some (.int b 0),some (.int f 0),r9,Xg])
  (h:∀H2,Ext H1 H2→TS H2 a l xs j z pF T→Q .next fr H2):wpS cY uK w (n+680) (fun zz=>False) iQ Q fr H1:=by
 have ec:cs=XE A++40::(XE B++41::XE C):=by rw[hc,e];simp only[List.append_assoc,List.cons_append,Yl,oH,It.ch,Pa,sA,NC,KO,vc,Ny,xR,qu,lq,Lo,List.nil_append]
 have el:cs.length=(XE A).length+1+(XE B).length+1+(XE C).length:=by rw[ec];simp;lia
 have t1:cs.take b=XE A:=by rw[ec,hb,List.take_left]
 have t2:(cs.drop (b+1)).take (f-(b+1))=XE B:=by rw[ec,hb,show XE A++40::(XE B++41::XE C)=(XE A++[40])++(XE B++41::XE C)by simp];rw[List.drop_left' (by simp),hf,show(XE A).length+1+(XE B).length-((XE A).length+1)=(XE B).length by lia,List.take_left]
 have t3:cs.drop (f+1)=XE C:=by rw[ec,show XE A++40::(XE B++41::XE C)=(XE A++[40]++XE B++[41])++XE C by simp];rw[List.drop_left' (by simp[hf];lia)]
 have lf:Left (XE A++[32]++XE B++[32]++XE C) 0 (A++none::B++none::C):=⟨V7h _,by rw[List.drop_zero];simp only[List.append_assoc,List.cons_append,Yl,oH,It.ch,List.nil_append],ng ok e⟩
 have lz:(XE A++[32]++XE B++[32]++XE C).length=cs.length:=by rw[el];simp;lia
 have tz:(toks (A++none::B++none::C)).length≤300:=by refine z2n (xx _) ?_;have:=lf.txt;rw[List.drop_zero]at this;rw[←this,lz];lia
 subst N3;unfold iQ;rw[lits.2.2.2.2.2.2.2.2.1];walk_at "w";rw[nE (by lia),t1];walk_at "w";rw[G0 (by simp;lia)];walk_at "w";rw[show((b:Int)+1)=((b+1:Nat):Int)from rfl,DM (by lia) (by lia) (by lia),t2];walk_at "w";rw[G0 (by simp;lia)];walk_at "w";rw[G0 (by simp;lia)];walk_at "w";rw[show((f:Int)+1)=((f+1:Nat):Int)from rfl,uW (by lia) (by lia),t3];walk_at "w";rw[G0 (by simp;lia)];walk_at "w";refine DY base ts.Ab (by lia) tz lf fun u H2 e2 p2 r2 zz=>?_;walk_at "w";have DP:TS H2 a l xs j z pF T:=⟨p2,ts.pF.ext e2⟩;rw[(nQ r2 DP.pF (by lia) (iM ok) (b:=false) ⟨fun q=>(by cases q),fun q=>absurd q (Vl 660 0)⟩).1];walk_at "w";exact h H2 e2 DP
theorem M8(hl:cs≠[]):Txt.slice (n6 cs) (some (-1)) (some 0)=n6 []:=by
 have hp:0<cs.length:=List.length_pos_iff.mpr hl;have e:Builtin.Str.strSliceIndices (some (-1)) (some 0) 1 (n6 cs).length= []:=by
  rw[Q8];have e1:max (0:Int) (min (-1+(cs.length:Int)) (cs.length:Int))=(cs.length:Int)-1:=by lia
  have e2:max (0:Int) (min (0:Int) (cs.length:Int))=0:=by lia
  have e3:¬((cs.length:Int)-1<0):=by lia
  simp only[Builtin.Str.strSliceIndices,sliceRange,show((-1:Int)<0)=True from by simp,show((0:Int)<0)=False from by simp,show((1:Int)>0)=True from by simp,if_true,if_false,e1,e2,e3]
  try rfl
 unfold Txt.slice;rw[e]
 split
 ·rename_i q;simp[Q8]at q;lia
 ·rfl
theorem X0:∀c,c<128→(!(Builtin.Str.occurrences ("+-":Str) ⟨#[c]⟩ 0 (Str.length ("+-":Str)) 1).isEmpty)=decide (c=43∨c=45):=by decide +kernel
theorem qy{op:CmpOp}{x y:Value}{K:KQ}{fr:dD}{b:Bool}(h:Et H1 op x y=some b)(g:K (.bool b) fr H1):dU op x K y fr H1:=Dr h g
theorem TF{op:CmpOp}{x y:Value}{K:KQ}{fr:dD}{b:Bool}(h:Et H1 op x y=some b)(g:K (.bool b) fr H1):Cg op (jd cY uK w n X (.cst y)) K x fr H1:=Dr h g
theorem oX{cs:List Nat}{i c0 c1 c2:Nat}{K:KQ}{fr:dD}(h1:1≤i)(hz:cs.length≤290)(e0:cs[i]? =some c0)(e1:cs[i-1]? =some c1)(e2:cs[i+1]? =some c2)(l1:c1<128)(h6:(fr[6]?).join=some (.str (n6 cs) 0))(h9:(fr[9]?).join=some (.int i 0))
  (g:∀b:Bool,(b=true→c0=32∧(c1=43∨c1=45)∧c1=c2∧(2≤i→cs[i-2]? ≠some c1))→K (.bool b) fr H1):jd cY uK w n X UX K fr H1:=by
 have hl:cs.length<1000000:=Nat.lt_of_le_of_lt hz (Pn rfl);have gf:K (.bool false) fr H1:=g false fun q=>by cases q
 have em:((i:Int)-1)=((i-1:Nat):Int):=(Int.ofNat_sub h1).symm;have s1:ro H1 (.str (n6 cs) 0) (.int ((i:Int)-1) 0)=some (.str ⟨#[c1]⟩ 0):=em▸kg e1 hl;refine QL h6 (QL h9 (QL (kg e0 hl) (TF rfl ?_)));have k0:((⟨#[c0]⟩:Str)==(" ":Str))=decide (c0=32):=by rw[lits.2.2.2.2.2.2.2.2.1,Bj]
 by_cases q0:c0=32
 ·refine zi (k0.trans (decide_eq_true q0)) (QL h6 (QL h9 (QL s1 (TF (R6T some (X0 c1 l1)) ?_))))
  by_cases q1:c1=43∨c1=45
  ·refine zi (decide_eq_true q1) (QL h6 (QL h9 (QL s1 (QL h6 (QL h9 (QL (kg e2 hl) (qy rfl ?_)))))))
   by_cases q2:c1=c2
   ·have fin:∀ss:List Nat,Cb (.str (n6 cs) 0) (.int ((i:Int)-2) 0) (.int ((i:Int)-1) 0)=some (.str (n6 ss) 0)→(ss≠[c1]→2≤i→cs[i-2]? ≠some c1)→Kc cY uK w n X true (.cons (.cmp .NotEq (.jk 6 (.bin .Sub (.loc 9) (.cst (.int 2 0))) (.bin .Sub (.loc 9) (.cst (.int 1 0)))) (.sub (.loc 6) (.bin .Sub (.loc 9) (.cst (.int 1 0))))) .nil) K fr H1:=fun ss hs hk=>
     QL h6 (QL h9 (QL h9 (QL hs (QL h6 (QL h9 (QL s1 (qy rfl (g _ fun q=>⟨q0,q1,q2,hk fun z=>by rw[z,show(⟨#[c1]⟩:Str)=n6 [c1]from rfl]at q;simp at q⟩))))))))
    refine zi ((Bj c1 c2).trans (decide_eq_true q2)) ?_
    by_cases q3:i=1
    ·subst q3;refine fin [] ?_ fun zz h=>absurd h (by decide);refine Jc rfl rfl (by rw[Q8];exact Nat.le_of_lt (Nat.lt_trans hl (Pn rfl))) ?_;exact M8 fun q=>by rw[q]at e0;cases e0
    ·obtain⟨c3,e3⟩:∃c,cs[i-2]? =some c:=⟨_,B8Q (by have:=(List.getElem?_eq_some_iff.mp e0).1;lia)⟩;refine fin [c3] ?_ fun h zz q=>h (by rw[e3]at q;cases q;rfl);rw[show((i:Int)-2)=((i-2:Nat):Int)by lia,em,DM (by lia) (by lia) (by have:=(List.getElem?_eq_some_iff.mp e0).1;lia),show i-1-(i-2)=1 by lia]
     congr 3
     obtain⟨l3,e3⟩:=List.getElem?_eq_some_iff.mp e3;rw[List.drop_eq_getElem_cons l3,e3];rfl
   ·exact UU ((Bj c1 c2).trans (decide_eq_false q2)) gf
  ·exact UU (decide_eq_false q1) gf
 ·exact UU (k0.trans (decide_eq_false q0)) gf
theorem w3(base:AG cY w)(ts:TS H1 a l xs j z pF T)(ok:LZ T=true)(hd:dT T≤3)(hc:cs=XE (bare T))(hz:cs.length≤290){i:Nat}(h1:1≤i)(hi:i+1<cs.length)
  {r0 r1 r2 r3 r4 r7 r8 Xg:Option Value} {Q:Fl→dD→AH→Prop} {fr:dD} (N3:fr= [r0,r1,r2,r3,r4,some pF,some (.str (n6 cs) 0),r7,r8,some (.int i 0),Xg])
  (h:∀H2 r,Ext H1 H2→TS H2 a l xs j z pF T→Q .next [r0,r1,r2,r3,r4,some pF,some (.str (n6 cs) 0),r7,r8,some (.int i 0),r] H2):wpS cY uK w (n+680) (fun zz=>False) VW Q fr H1:=by
 obtain⟨c0,e0⟩:∃c,cs[i]? =some c:=⟨_,B8Q (by lia)⟩;obtain⟨c1,e1⟩:∃c,cs[i-1]? =some c:=⟨_,B8Q (by lia)⟩;obtain⟨c2,e2⟩:∃c,cs[i+1]? =some c:=⟨_,B8Q (by lia)⟩;have l1:c1<128:=by refine Aj (is:=bare T) c1 ?_;rw[←hc];exact C3D e1
 subst N3;have go:∀b:Bool,(b=true→c0=32∧(c1=43∨c1=45)∧c1=c2∧(2≤i→cs[i-2]? ≠some c1))→wpS cY uK w (n+680) (fun zz=>False) IC Q [r0,r1,r2,r3,r4,some pF,some (.str (n6 cs) 0),r7,r8,some (.int i 0),some (.bool b)] H1:=fun b hb=>by
  unfold IC;cases b
  ·walk_at "w";exact h H1 _ .refl ts
  ·obtain⟨b1,b2,b3,b4⟩:=hb rfl;subst b1 b3;rw[hc]at e0 e1 e2 b4;obtain⟨its,i1,i2,i3⟩:=ww ok hd h1 e0 e1 b2 e2 b4;rw[←hc]at i1;have lz:(cs.take i++cs.drop (i+1)).length≤290:=by simp;lia
   have lf:Left (cs.take i++cs.drop (i+1)) 0 its:=⟨V7h _,by rw[List.drop_zero,i1],i2⟩;have tz:(toks its).length≤300:=by refine z2n (xx _) ?_;rw[i1];lia
   walk_at "w";refine QL (nE (by lia)) ?_;walk_at "w";rw[show((i:Int)+1)=((i+1:Nat):Int)from rfl,uW (by lia) (by lia)];walk_at "w";rw[G0 (by simp;lia)];walk_at "w";refine DY base ts.Ab (by lia) tz lf fun u H2 e2 p2 r2 zz=>?_;walk_at "w";have DP:TS H2 a l xs j z pF T:=⟨p2,ts.pF.ext e2⟩;rw[(nQ r2 DP.pF (by lia) (iM ok) (b:=false) ⟨fun q=>(by cases q),fun q=>absurd q (i3 660 0)⟩).1];walk_at "w";exact h H2 _ e2 DP
 exact oX (K:=bT 10 (wpS cY uK w (n+680) (fun zz=>False) IC) Q) (fr:=[r0,r1,r2,r3,r4,some pF,some (.str (n6 cs) 0),r7,r8,some (.int i 0),Xg]) h1 hz e0 e1 e2 l1 rfl rfl go
def LF(r0 r1 r2 r3 r4:Option Value)(pF:Value)(cs:List Nat)(fr:dD):Prop:=∃r7 r8 r9 Xg,fr= [r0,r1,r2,r3,r4,some pF,some (.str (n6 cs) 0),r7,r8,r9,Xg]
theorem wq(base:AG cY w)(ts:TS H1 a l xs j z pF T)(ok:LZ T=true)(hd:dT T≤3)(hc:cs=XE (bare T))(hz:cs.length≤290)(hp:1≤cs.length)
  {r0 r1 r2 r3 r4:Option Value} {Q:Fl→dD→AH→Prop} {fr:dD} (N3:LF r0 r1 r2 r3 r4 pF cs fr)
  (h:∀H2 fr,LF r0 r1 r2 r3 r4 pF cs fr→Ext H1 H2→TS H2 a l xs j z pF T→Q .next fr H2):wpS cY uK w (n+680) (fun zz=>False) eB Q fr H1:=by
 obtain⟨r7,r8,r9,Xg,rfl⟩:=N3;unfold eB;walk_at "w";refine QL (si (by lia)) ?_;walk_at "w";refine⟨_,_,rfl,rfl,by decide,by lia,fun k fr H'=>LF r0 r1 r2 r3 r4 pF cs fr∧Ext H1 H'∧TS H' a l xs j z pF T,⟨⟨_,_,_,_,rfl⟩,.refl,ts⟩,?_,fun fr H' hI=>h H' fr hI.1 hI.2.1 hI.2.2⟩;rintro k fr H' hk ⟨⟨s7,s8,s9,MU,rfl⟩,e',wB⟩;walk_at "w";exact w3 (i:=1+k) base wB ok hd hc hz (by lia) (by lia) rfl fun H2 r e2 DP=>⟨⟨_,_,_,_,rfl⟩,e'.trans e2,DP⟩
theorem kX(base:AG cY w)(ts:TS H1 a l xs j z pF T)(ok:LZ T=true)(hd:dT T≤3)(hc:cs=XE (bare T))(hz:cs.length≤290)(hp:1≤cs.length)
  {r0 r1 r2 r3 r4:Option Value} {Q:Fl→dD→AH→Prop} {fr:dD} (N3:LF r0 r1 r2 r3 r4 pF cs fr)
  (h:∀H2 fr,LF r0 r1 r2 r3 r4 pF cs fr→Ext H1 H2→TS H2 a l xs j z pF T→Q .next fr H2):wpS cY uK w (n+680) (fun zz=>False) P5 Q fr H1:=by
 obtain⟨r7,r8,r9,Xg,rfl⟩:=N3;obtain⟨ps,p1,p2⟩:=ul ok;unfold P5;walk_at "w";refine T2.le (gg (n:=n) base ts.Ab (by lia) (fun c m=>Aj (is:=bare T) c (by rw[←hc];exact m)) (by rw[hc];exact p1) fun f vs H2 e2 bq hf hps kG zz=>?_) (by lia);have it:∀H',Ext H2 H'→uL H' (.ref f)=some (1,vs):=fun H' e=>QY (Qj (e _ _ hf trivial));refine⟨vs,it H2 .refl,fun k fr H'=>LF r0 r1 r2 r3 r4 pF cs fr∧Ext H2 H'∧TS H' a l xs j z pF T,⟨⟨_,_,_,_,rfl⟩,.refl,⟨bq,ts.pF.ext e2⟩⟩,fun k fr H' hI=>it H' hI.2.1,?_,fun fr H' hI=>?_⟩
 ·rintro k x fr H' hx ⟨⟨s7,s8,s9,MU,rfl⟩,e',wB⟩;obtain⟨p,Az,q,rfl,hq⟩:=A2.get hps hx;obtain⟨A,B,C,c1,c2,c3,c4⟩:=p2 p (C3D Az);refine⟨[.int p.1 0,.int p.2 0],WF (e' _ _ hq trivial),rfl,?_⟩;walk_at "w";exact w2 base wB ok hd c1 hc hz c4 c2 c3 rfl fun H3 e3 zp=>⟨⟨_,_,_,_,rfl⟩,e'.trans e3,zp⟩
 ·exact wq base hI.2.2 ok hd hc hz hp hI.1 fun H3 ve f3 e3 zp=>h H3 ve f3 (e2.trans (hI.2.1.trans e3)) zp
theorem az(base:AG cY w)(ts:TS H1 a l xs j z pF T)(ok:LZ T=true)(hd:dT T≤3)(hc:cs=XE (bare T))(hz:cs.length≤290)(hp:1≤cs.length)
  {r0 r1 r2 r3 r4:Option Value} {Q:Fl→dD→AH→Prop} {fr:dD} (N3:LF r0 r1 r2 r3 r4 pF cs fr)
  (h:∀H2 fr,LF r0 r1 r2 r3 r4 pF cs fr→Ext H1 H2→TS H2 a l xs j z pF T→Q .next fr H2):wpS cY uK w (n+680) (fun zz=>False) z8 Q fr H1:=by
 obtain⟨r7,r8,r9,Xg,rfl⟩:=N3;have lf:Left cs 0 (bare T):=⟨V7h _,by rw[List.drop_zero,hc],C3 (rU T ok false (by simp)).x6⟩;have tz:(toks (bare T)).length≤300:=by refine z2n (xx _) ?_;rw[←hc];lia
 unfold z8;walk_at "w";refine DY base ts.Ab (by lia) tz lf fun u H2 e2 p2 r2 zz=>?_;walk_at "w";have DP:TS H2 a l xs j z pF T:=⟨p2,ts.pF.ext e2⟩;rw[(nQ r2 DP.pF (by lia) (iM ok) (b:=true) ⟨fun zz=>reads ok hd (by lia),fun zz=>rfl⟩).2];walk_at "w";exact kX base DP ok hd hc hz hp ⟨_,_,_,_,rfl⟩ fun H3 ve f3 e3 zp=>h H3 ve f3 (e2.trans e3) zp
theorem Me{T:Tr}(ok:LZ T=true)(hd:dT T≤3):1≤(XE (bare T)).length:=by have:=(mP (reads ok hd (k:=200) (by lia))).len;have h2:=Xy T;have h3:=xx (bare T);have:JY T+0≤(toks (bare T)).length:=this;lia
theorem wb(base:AG cY w)(hp:UM H1 a l xs j z)(h0:0≤j)(hj:j+pk 3≤4000){m:Nat}(hm:m=1∨m=2)
  {r0 r3 r4 r5 r6 r7 r8 r9 Xg:Option Value} {Q:Fl→dD→AH→Prop}
  (h:∀H2 j' r4 r5 r6 r7 r8 r9 Xg,j≤j'→j'≤j+pk 3→UM H2 a l xs j' z→Q .next [r0,some (.ref a),some (.int (m:Nat) 0),r3,r4,r5,r6,r7,r8,r9,Xg] H2):
  wpS cY uK w (n+680) (fun zz=>False) jA Q [r0,some (.ref a),some (.int (m:Nat) 0),r3,r4,r5,r6,r7,r8,r9,Xg] H1:=by
 obtain⟨d,d1,d2,d3,d4⟩:∃d:Nat,(4-(m:Int))=d∧d≤3∧pk d≤pk 3∧tl d≤tl 3:=by
  rcases hm with rfl|rfl
  ·exact⟨3,rfl,by decide,by decide,by decide⟩
  ·exact⟨2,rfl,by decide,by decide,by decide⟩
 unfold jA;walk_at "w";rw[d1];refine T2.le (De base d n H1 H1 _ j 0 hp.far h0 (by push_cast;lia) fun u H2 T g e2 f2 zz=>?_) (by lia);have gd:=g.deep;have gz:=g.size;have t3:tl 3=292:=rfl;obtain⟨j',p2,j1,j2⟩:=f2.Ab;have sz:=(mP (reads g.ok (by lia) (k:=200) (by lia))).len;have sz:JY T+0≤(toks (bare T)).length:=sz;have tz:=xx (bare T);have hr:=fT T;walk_at "w";refine T2.le (Wj (n:=n) base (hR T) u (X2 T) H2 (RV.ofT T u g.rep (by lia)) _ fun v H3 e3 hv zz=>?_) (by lia);walk_at "w";refine T2.le (PC (n:=n) (l:=0) base g.ok (Wc.ext e3.ext T g.rep) (by rw[qY];lia) _ fun H4 e4 zz=>?_) (by lia);rw[qY];intro b hb _;have e5:yf H2 (upd H4 b (.tup [v,.str (n6 (XE (bare T))) 0])):=(e3.trans e4).new hb;have p5:UM (upd H4 b (.tup [v,.str (n6 (XE (bare T))) 0])) a l xs j' z:=⟨e5 _ _ p2.Ab,e5 _ _ p2.lst,p2.nums,p2.len,p2.ne⟩;refine gX Hu ?_;walk_at "w";refine az base ⟨p5,(hv.ext (e4.ext.new hb))⟩ g.ok (by lia) rfl (by lia) (Me g.ok (by lia)) ⟨_,_,_,_,rfl⟩ fun H6 fr hf e6 S9=>?_;obtain⟨s7,s8,s9,MU,rfl⟩:=hf;exact h H6 j' _ _ _ _ _ _ _ j1 (by push_cast at j2;lia) S9.Ab
theorem ints_map(ns:List Int):intsOf (ns.map fun k=>.int k 0)=some ns:=by
 induction ns with
 |nil=>rfl
 |cons n ns ih=>exact R6T (Option.map (n:: ·)) ih
theorem Z3(base:AG cY w){Q:Value→AH→Prop}{BY:List Value}{ns:List Int}(hl:∃xs:Array Value,cY.IsList l0 xs∧xs.toList.map er=BY)(hz:BY.length≤1000)(hn:BY=ns.map fun k=>.int k 0)(h:∀H',Q (.bool true) H'):
  T2 cY uK w (n+681) (.ref Hd.aB) [.ref l0] H Q (fun zz=>False):=by
 refine Vg iY base rfl fun hC=>?_;rw[W6];walk_at "w";have hlen:BY.length≤10000:=by lia
 have sb:∀H:AH,Rj cY H (.ref l0) BY:=fun H=>let⟨xs,h1,h2⟩:=hl;.inr ⟨l0,xs,rfl,h1,h2⟩
 refine⟨_,_,rfl,sb _,hlen,fun b hb zz=>?_⟩;have g1:yf H (upd H b (.lst (BY.take 50))):=yf.refl.new hb;unfold sH;rw[show Jl "list" [.ref b]=none from rfl,show Ox (upd H b (.lst (BY.take 50))) "list" [.ref b]=some (BY.take 50)by show(tq _ (.ref b)).bind _=_;rw[Qj Hu];exact if_pos ⟨rfl,by simp;lia⟩]
 intro l EC _;have g2:yf H (upd (upd H b (.lst (BY.take 50))) l (.lst (BY.take 50))):=g1.new EC;refine⟨_,_,rfl,sb _,hlen,fun c hc zz=>?_⟩;generalize hH:upd (upd H b (.lst (BY.take 50))) l (.lst (BY.take 50))=H2 at hc g2⊢;have hL:H2 l=some (.lst (BY.take 50)):=by rw[←hH];exact Hu
 have sm:MG (upd H2 c (.lst (BY.take 50))) "sum" [.ref c]=some (.int (ns.take 50).sum 0):=by exact Oa (Qj Hu) (by rw[hn, ←List.map_take];exact ints_map _)
 walk_at "w";refine QL (sm) ?_;walk_at "w";refine w_mod (by decide) ?_;generalize Int.fmod (ns.take 50).sum 997=z;intro a ha _;unfold Yg;walk_at "w";have qQ:a≠l:=fun q=>by rw[q,CH (fun q=>by rw[←q,hL]at hc;cases hc),hL]at ha;cases ha
 have ncl:l≠c:=fun q=>by rw[←q,hL]at hc;cases hc
 have pa:VP (upd (upd H2 c (.lst (BY.take 50))) a (.lst [.ref l,.int 0 0,.int z 0])) a l (BY.take 50) 0 z:=⟨.inl Hu,by rw[CH (Ne.symm qQ),CH ncl,hL],fun v hv=>by have:=List.mem_of_mem_take hv;rw[hn]at this;obtain⟨k,_,rfl⟩:=List.mem_map.mp this;exact⟨k,rfl⟩,by simp;lia,qQ⟩
 refine T2.le (n:=n+1) (yn base pa (by lia) (by lia) (by lia) fun r r0 r2 zz=>?_) (by lia);have pi:UM (upd (upd (upd H2 c (.lst (BY.take 50))) a (.lst [.ref l,.int 0 0,.int z 0])) a (.Ab [.ref l,.int (0+1) 0,.int z 0])) a l (BY.take 50) 1 z:=⟨Hu,by rw[CH (Ne.symm qQ)];exact pa.lst,pa.nums,pa.len,pa.ne⟩;generalize upd (upd (upd H2 c (.lst (BY.take 50))) a (.lst [.ref l,.int 0 0,.int z 0])) a (.Ab [.ref l,.int (0+1) 0,.int z 0])=H3 at pi⊢;obtain⟨m,hm1,hm2⟩:∃m:Nat,(1+r)=(m:Int)∧(m=1∨m=2):=⟨(1+r).toNat,by lia,by lia⟩;walk_at "w";rw[hm1];unfold mO;walk_at "w";have p3:pk 3=340:=rfl;refine⟨m,rfl,by lia,fun k fr H'=>∃j r3 r4 r5 r6 r7 r8 r9 Xg,fr= [some (.ref l0),some (.ref a),some (.int (m:Nat) 0),r3,r4,r5,r6,r7,r8,r9,Xg]∧UM H' a l (BY.take 50) j z∧0≤j∧j≤1+k*340,⟨1,_,_,_,_,_,_,_,_,rfl,pi,by lia,by lia⟩,?_,fun fr H' zz=>h H'⟩;rintro k x fr H' hx ⟨j,r3,r4,r5,r6,r7,r8,r9,Xg,rfl,pj,j0,j1⟩;have hk:k<m:=by have:=(List.getElem?_eq_some_iff.mp hx).1;simpa[W5]using this
 walk_at "w";exact wb base pj j0 (by lia) hm2 fun H4 j' r4 r5 r6 r7 r8 r9 Xg q1 q2 q3=>⟨j',_,_,_,_,_,_,_,_,rfl,q3,by lia,by push_cast;lia⟩
end
end
end Mine
namespace Mine.Hd
open PySem PySem.W PySem.Calls PyProof.Rows
section
noncomputable section
theorem CJ(w:World)(os:OsState):(staticsOk (importedModules pw.main.body) (boot_heap w.params) (H1 w.params)&&namesBound pw (H1 w.params)&&gensDone ⟨H1 w.params, #[],{},2215,os⟩&&laidKept (boot_heap w.params) (H1 w.params))=true:=by rw[PySem.W.Fast.te5923862056798008813];kernel_rfl
theorem fU(w:World)(os:OsState):openSeen qv loose (importedModules pw.main.body) (fun s=>xlAt qv [] s&&recOk [] s) true ⟨H1 w.params, #[],{},2215,os⟩=openGood qv loose:=by
 have h:PySem.W.Fast.tw4187177175401517315 qv loose (PySem.W.Fast.tw5923862056798008813 pw.main.body) (fun s=>xlAt qv [] s&&recOk [] s) true ⟨H1 w.params, #[],{},2215,os⟩=openGood qv loose:=by kernel_rfl
 rw[PySem.W.Fast.te4187177175401517315,PySem.W.Fast.te5923862056798008813];exact h
end
end
section
noncomputable section
abbrev se:OpenLaw:=PySem.Challenge.rw_pc0102_01
noncomputable def Xt(s:Shared):Bool:=xlAt qv [] s&&recOk [] s
theorem left:LeftO pw qv loose Xt hk.obs hk.val 20000:=
 LeftO.of_pieces (op 20000 (by decide)) tm runs (by decide +kernel) (fun w=>funext fun os=>Prod.ext (CJ w os) (Prod.ext (fU w os) (UV w)))
theorem Hc:∃d kwd,defOf qv se.row.toRowW.name=some (d,kwd):=⟨_,_,rfl⟩
end
end
theorem prom:se.row.toRowW.promised:=by w_witness2
noncomputable def dL:DefRec:=⟨(fp (st 138)).name,(fp (st 138)).args,(fp (st 138)).body,(fp (st 138)).scope,(fp (st 138)).pos⟩
theorem qG:defOf qv se.row.toRowW.name=some (dL,[]):=by kernel_rfl
theorem xV:se.row.prog.theDef se.row.name=some (dL.params,dL.body,dL.scope):=by kernel_rfl
theorem oK:kwWritten? dL.params.kwonlyargs dL.params.kw_defaults=some []:=by kernel_rfl
theorem qr:(chainsOk qv&&opensWell se.row.prog&&(frees se.row.toRowW&&se.row.within.isEmpty))=true:=by kernel_rfl
theorem head(ws:se.wellSaid=true)(hc:WalkO qv loose (XL qv []) hk.says se.row.toRowW dL [] fun f vs=>PySem.call f vs):se.Holds:=
 holds_law ws fun P7=>holds_open (r:=se.row) (q:=qv) (loose:=loose) (Xt:=Xt) (XP:=XL qv []) (Yf:=hk.obs) (Ya:=hk.val) (YP:=hk.says) (d:=dL) (kwd:=[]) left hk.of hk.keeps (fun s e=>xl_of s (Bool.and_eq_true_iff.mp e).1) XL.keeps qG xV oK (fun s e=>recFacts_of (Bool.and_eq_true_iff.mp e).2) (by rfl) P7 qr ⟨rfl,rfl,rfl,rfl,rfl,by decide +kernel⟩ prom hc
@[reducible]noncomputable def lw:OpenLaw:=PySem.Challenge.rw_pc0102_01
theorem v1:sreFenced PySem.Challenge.pw_pc0102_01.main=true:=by rw[PySem.W.Fast.te11788848310118352699];kernel_rfl
theorem v2:((moduleNames PySem.Challenge.pw_pc0102_01.main.body).isEmpty || lookedIntoSs (moduleNames PySem.Challenge.pw_pc0102_01.main.body) PySem.Challenge.pw_pc0102_01.main.body)=true:=by rw[PySem.W.Fast.te9807087744658564304,PySem.W.Fast.te12862048085361865435];kernel_rfl
theorem v3:namesResolve PySem.Challenge.pw_pc0102_01=true:=by rw[PySem.W.Fast.te8377067652309620493];kernel_rfl
theorem v4:(Program.boundNames PySem.Challenge.pw_pc0102_01).all (fun n=> !worldNames.contains n)=true:=by rw[PySem.W.Fast.te18344453789297297638,PySem.W.Fast.te14412699480532031325];kernel_rfl
theorem v5:noRoadLSs {strict:= !(importedModules PySem.Challenge.pw_pc0102_01.main.body).all cThrough.contains,foot:=none,bare:=(["vars","dir","locals"]:List Str).filter (readsOut PySem.Challenge.pw_pc0102_01 PySem.Challenge.pw_pc0102_01.main.body)} PySem.Challenge.pw_pc0102_01.main.body=true:=by rw[PySem.W.Fast.te8326940854005059898,PySem.W.Fast.te5923862056798008813,PySem.W.Fast.te17691160309236699985,PySem.W.Fast.te13343964577679436407];kernel_rfl
theorem v6:namesMeet PySem.Challenge.pw_pc0102_01 PySem.Challenge.pw_pc0102_01.main.body (fun _ n=>attrL n)=true:=by rw[PySem.W.Fast.te17119622794617984870,PySem.W.Fast.te17868728402115742887];kernel_rfl
theorem lo:looksOpen lw.row.prog=true:=by delta looksOpen;exact look_both (look_both (look_both (look_both (look_both v1 v2) v3) v4) v5) v6
theorem Ue:lw.row.partSaid=true:=by
 delta OpenRow.partSaid
 repeat' with_reducible refine look_both ?_ ?_
 ·exact lo
 all_goals kernel_rfl
theorem ZH:lw.row.wellSaid=true:=by
 delta OpenRow.wellSaid
 repeat' with_reducible refine look_both ?_ ?_
 ·exact Ue
 all_goals kernel_rfl
theorem ws:lw.wellSaid=true:=by
 delta OpenLaw.wellSaid
 repeat' with_reducible refine look_both ?_ ?_
 ·exact ZH
 ·kernel_rfl
 ·rw[PySem.W.Fast.te10501279942588096481];kernel_rfl
 ·rw[PySem.W.Fast.te8179353310426384613];kernel_rfl
 ·kernel_rfl
 ·kernel_rfl
 ·rw[PySem.W.Fast.te8326940854005059898,PySem.W.Fast.te797321630700447069];kernel_rfl
 ·rw[PySem.W.Fast.te9558739934217749035];kernel_rfl
 ·rw[PySem.W.Fast.te16286561074155671207];kernel_rfl
 ·kernel_rfl
 ·rw[PySem.W.Fast.te797321630700447069,PySem.W.Fast.named_eq,PySem.W.Fast.te6984425678791042302];kernel_rfl
 ·rw[PySem.W.Fast.te12879404354523853263];kernel_rfl
 ·rw[PySem.W.Fast.te12879404354523853263];kernel_rfl
 ·rw[PySem.W.Fast.te17119622794617984870];kernel_rfl
 ·rw[PySem.W.Fast.te10792542408131684335];kernel_rfl
 ·rw[PySem.W.Fast.te10792542408131684335];kernel_rfl
 ·rw[PySem.W.Fast.te10792542408131684335,PySem.W.Fast.named_eq];kernel_rfl
 ·rw[PySem.W.Fast.te17119622794617984870,PySem.W.Fast.te10792542408131684335];kernel_rfl
 ·rw[PySem.W.Fast.te17119622794617984870];kernel_rfl
end Mine.Hd
namespace Mine
open PySem PySem.W PySem.Calls PyProof.Rows PySem.Spec PyProof.V
theorem Nh:looseW Hd.qv Hd.loose=Hd.loose:=by kernel_rfl
theorem ke(P:Params):nsIn (Hd.KF P) mainGlobals "law"=some (some (.ref Hd.aB)):=by kernel_rfl
theorem items_int{R:WRecords}{cl:Str→Option Addr}{h:Heap}:∀{vs:List Value}{xs:List WData}{as:List Addr},WShape.hasItems R xs .int=true→ReadsAllW R cl h vs xs as→∃ns:List Int,vs.map er=ns.map (fun k=>Value.int k 0)∧vs.length=xs.length
 | [],[],_,_,_=>⟨[],rfl,rfl⟩
 | [],_::_,_,_,h=>nomatch h
 |_::_,[],_,_,h=>nomatch h
 |v::vs,d::xs,_,hi,h=>by
  cases h with
  |cons r1 r2=>
   simp only[WShape.hasItems,Bool.and_eq_true]at hi;obtain⟨ns,e1,e2⟩:=items_int hi.2 r2;obtain⟨k,rfl⟩:=hasW_int hi.1;cases r1;exact⟨k::ns,by simp[er,e1],by simp[e2]⟩
theorem Lf{cl:Str→Option Addr}{h:Heap}{vals:List Value}{args:List WData}{as:List Addr}(hp:Hd.se.row.toRowW.claim.pre args=true)(hr:ReadsAllW Hd.se.row.toRowW.records cl h vals args as):
  ∃(l0:Addr)(xs:Array Value)(ns:List Int),vals= [.ref l0]∧h.IsList l0 xs∧xs.toList.map er=ns.map (fun k=>Value.int k 0)∧xs.size≤63:=by
 obtain⟨h1,h2⟩:=pre_splitW hp;obtain⟨d,r,rfl,h3,h4⟩:=hasAllW_cons (e:=.list .int) (es:=[]) h1;obtain rfl:=hasAllW_nil h4;obtain⟨xs,rfl,h5⟩:=hasW_list h3;cases hr with
 |cons r1 r2=>
  cases r2;cases r1 with
  |list ho hc hd hi=>
   obtain⟨ns,e1,e2⟩:=items_int h5 hi;refine⟨_,_,ns,rfl,⟨_,ho,hc,_,hd⟩,e1,?_⟩;have h6:(WTm.and (.not (.lt (.lit (.int 63)) (.len (.arg 0)))) (.lit (.bool true))).holds Hd.se.row.toRowW.records {args:=[.list xs]}=true:=h2;have:xs.length≤63:=by refine Nat.le_of_not_lt fun q=>?_;have e:W.less? (.int 63) (.int (xs.length:Int))=some (decide ((63:Int)<xs.length)):=rfl;rw[decide_eq_true (by lia)]at e;simp[WTm.holds,WTm.value,e]at h6
   rw[←e2]at this;simpa using this
theorem BM{args:List WData}:Hd.se.row.toRowW.claim.post args (.bool true) args=true:=by show WTm.holds Hd.se.row.toRowW.records (.eq .res (.lit (.bool true))) _=true;simp[WTm.holds,WTm.value,W.same]
theorem Te{s:Shared}(hg:s.gens= #[]):Inv s.heap s.os s.heap [] s (fun zz=>none):=
 ⟨fun zz zz e=>e,fun zz zz e=>e,fun zz zz e=>(nomatch e),fun zz q=>(by rcases q with⟨_,e,_⟩|⟨_,_,_,e⟩<;>cases e),fun zz zz zz zz zz zz zz e=>(nomatch e),trivial,fun zz f=>(by obtain⟨_,h,_⟩:=f;cases h),hg,rfl⟩
theorem walk:WalkO Hd.qv Hd.loose (XL Hd.qv []) Hd.hk.says Hd.se.row.toRowW Hd.dL [] (fun f vs=>PySem.call f vs):=fun w Wy s₁ mg mb G Y a o pm cd doc dV kV ha g8M hcr hdf hmg EK args vals as IF v4E hr hw hns=>by
 obtain⟨l0,xs,ns,rfl,hl,he,hz⟩:=Lf IF hr;have K:(Hd.KF w.params).In s₁.heap:=Y;have T:=topRead_of G.T;rw[Nh]at T;have base:AG s₁.heap w:=⟨K,mg,mb,T⟩;have ea:a=Hd.aB:=by
  have:=mg_of K T.g (ke w.params);have e:mg "law"=some (.ref a):=hmg;rw[this]at e;injection e with e
  injection e with e
  exact e.symm
 subst ea;refine wpAny_call ?_;have c:=Z3 (n:=0) (uK:=s₁.os) (H:=fun zz=>none) (Q:=fun v zz=>v= .bool true) base ⟨xs,hl,he⟩ (by simp;have:=R6T List.length he;simp at this;lia) rfl (fun zz=>rfl);refine codeAny_mono (c callerA s₁ [] s₁.heap ⟨by decide,by decide +kernel⟩ rfl rfl (Te EK) [.ref l0] rfl) ?_;rintro r s' z;rcases r with e|(v|_|_|_)<;>first|exact z.elim|skip
 ·obtain⟨_,_,_,_,q⟩:=z;exact q.elim
 ·rename_i v;obtain⟨H',i,_,q⟩:=z;have ev:v= .bool true:=by cases v<;>simp_all [er]
  subst ev;exact⟨.inl ⟨.bool true,.bool true,[],rfl,fun zz=>rfl,.bool true,BM,fun zz=>⟨.nil,fun zz h=>nomatch h⟩⟩,OldK.of_keep i.stays,i.os,.of_eq i.gens⟩
theorem holds:Hd.se.Holds:=Hd.head Hd.ws walk
end Mine
open PySem PySem.W PyProof.Rows
theorem PySem.Challenge.cw_pc0102_01_holds : PySem.Challenge.rw_pc0102_01.Holds :=
  Mine.holds
