import PyProof.Rows.All
import Wide.All
import OpenK.AllK
import Wide.FinOn
import PySem.Challenge.RW_pc0097_01
open PySem PySem.W PyProof.Rows
set_option Elab.async false
set_option maxRecDepth 100000
set_option maxHeartbeats 0
set_option bootstrap.genMatcherCode false
set_option tactic.hygienic false
set_option genInjectivity false
set_option genSizeOf false
set_option linter.unusedVariables false
set_option linter.constructorNameAsVariable false
set_option linter.unusedSimpArgs false
set_option linter.unusedSectionVars false
local macro_rules | `(tactic| omega) => `(tactic| first | decide | lia -matchEqs -splitMatch)
namespace Mine
noncomputable abbrev bz:Program:=PySem.Challenge.pw_pc0097_01
noncomputable abbrev er:=PySem.W.Fast.tw10110043849684766642 PySem.W.Fast.tw14364793385576792824
noncomputable def bd:List Stmt:=bz.main.body
noncomputable def st (i:Nat):Stmt:=match bd[i]? with |some s=>s |none=>.Pass default
noncomputable def cst (i j:Nat):Stmt:=match st i with |.ClassDef _ _ _ b _ _ _ _ _ _ _=>(match b[j]? with |some s=>s |none=>.Pass default) |_=>.Pass default
noncomputable def cc (s:Stmt) (q:Str) (g:Addr) (Dq pm cd:Value):FuncData:=match s with
 |.FunctionDef n a b _ _ _ sc _ _ _=>{name:=n,qualname:=q,params:=a,body:=.stmts b,scope:=sc,globals:=g,closure:=[],defaults:=Dq,kwdefaults:=.none,pyModule:=pm,code:=cd}
 |_=>default
noncomputable def k (p:Params) (n:Str) (t:Tok) (v:Value):DictEntry:=⟨PyData.keyHash p n,.str n t,v⟩
noncomputable def cut (n:Nat):Nat→Nat→BT→BT
 |_,_,.nil=>.nil
 |s,b,.node v l r=>match Nat.blt b n with
  |true=>.node v (cut n (2 * s) (s+b) l) (cut n (2 * s) (2 * s+b) r)
  |false=>.nil
noncomputable def lf:Life:={}
noncomputable def eY:Drawn:={}
noncomputable def ev:Env:={scope:=bz.main.scope,locals:=mainNs,globals:=mainNs,cells:=[],code:=.ref 13,frame:=some 14}
noncomputable def bL:Code:=.body bd ev
noncomputable def cG:List Frame:=[topFrame ⟨0,0,0,0⟩]
noncomputable def an:Option Value:=some (.ref 6)
noncomputable def dH (l:List Value):Obj:=⟨.type "tuple",none,.seq ⟨l⟩ 0,#[]⟩
noncomputable def iu (l:List Value):Obj:=⟨.none,none,.fields ⟨l⟩,#[]⟩
noncomputable def hC (t:String) (l:List Value):Obj:=⟨.type t,none,.fields ⟨l⟩,#[]⟩
noncomputable def Dr (d:FuncData):Obj:=⟨.none,none,.func d,#[]⟩
noncomputable def lC (l:List Str):Tok→List Value:=List.rec (fun _=>[]) (fun s _ f n=>.str s n::f (n+1)) l
noncomputable def Lq (n:Nat):Nat→List Value:=Nat.rec (fun _=>[]) (fun _ f a=>.ref a::f (a+1)) n
noncomputable def eZ (nm oX:Str) (t Ds:Nat) (ln ac kO:Int) (a c:Nat) (b:Bool) (v1 v2 oY:Value):Obj:=hC "code" [.str nm t,.str oX (t+1),.str "/claim/cut.py" (t+2),.int ln 0,.int ac 0,.int 0 0,.int 0 0,.int kO 0,.ref a,.bool b,.int 181 0,.ref c,.none,v1,v2,oY,.int (Int.ofNat Ds) 0,.int ln 0,.str "/claim/cut.py" (Ds+1)]
noncomputable def Dt (s:Stmt) (oX:Str) (d m c:Value):Obj:=⟨.type "function",none,.func (cc s oX 3 d m c),#[]⟩
noncomputable def bh (s:Stmt) (nm oX:Str) (i t:Nat) (ln ac:Int) (d m:Value) (vs:List Str):List Obj :=
 [dH [],iu [],dH (lC vs (t+3)),dH [],Dr (cc s oX 0 .none .none .none),eZ nm oX t (t+3+vs.length) ln ac 3 i (i+1) true (.ref (i+2)) (.ref (i+3)) (.ref (i+4)),Dt s oX d m (.ref (i+5))]
noncomputable def jn (s:Stmt) (nm:Str) (i t:Nat) (ln ac:Int) (m:Value):List Obj :=
 [dH [],iu [],Dr (cc s nm 0 .none .none .none),eZ nm nm t (t+3) ln ac 3 i (i+1) true .none .none (.ref (i+2)),Dt s nm .none m (.ref (i+3))]
noncomputable abbrev hj:=List (Str×Tok×Value)
noncomputable def fz (a b:hj):hj:=a++b
noncomputable def aZ (a b:List Obj):List Obj:=a++b
noncomputable def gB (l:List (String×Tok×Nat)):hj:=l.map fun x=>(x.1,x.2.1,.ref x.2.2)
noncomputable def j5 (l:List (String×Tok×Int×Tok)):hj:=l.map fun x=>(x.1,x.2.1,.int x.2.2.1 x.2.2.2)
noncomputable def y1 (p:Params) (l:hj):List DictEntry:=l.map fun x=>k p x.1 x.2.1 x.2.2
noncomputable def lD (p:Params) (l:hj) (e:Nat):Obj:=⟨.type "dict",none,.dict ⟨y1 p l⟩ e,#[]⟩
noncomputable def dy (p:Params) (nm:Str) (m:Value) (t:Tok) (ln:Int) (b:Bool) (l:hj) (e:Nat):Obj :=
 lD p (("__module__",t,m)::fz (bif b then [("__qualname__",t+2,.str nm (t+1))] else []) (("__firstlineno__",t+4,.int ln (t+3))::l)) e
noncomputable def kP (nm:Str) (bs ms:List Value) (i:Nat) (ss:List Value) (a:Option Value) (t:Tok) (n:String):Obj :=
 ⟨.type "type",none,.cls {name:=nm,bases:=bs,mro:=.ref i::ms,ns:=i - 1,qualname:=nm,hasDict:=true,slotNames:=[],subclasses:=ss,abstract:=false,collection:=none,hasDel:=false},#[a,none,some (.str nm t),some (.str nm (t+8)),some (.builtin n),some (.bool true)]⟩
noncomputable def lE (c d:Nat) (m:Value):Obj:=⟨.type "frame",none,.plain,#[some (.ref c),some (.ref 3),some (.ref d),none,some m,none,some (.ref 0)]⟩
noncomputable def fl (l:List (Int×Nat)):List Value:=List.rec [] (fun x _ f=>.int x.1 0::.int 4 0::.ref x.2::f) l
noncomputable def Lr (l:List (Int×Int×Nat)):List Value:=List.rec [] (fun x _ f=>.int x.1 0::.int x.2.1 0::.ref x.2.2::f) l
noncomputable def sX (l:List (String×String×Int×Int)):Tok→List Obj:=List.rec (fun _=>[]) (fun x _ f t=>dH [.str x.1 t,.str x.2.1 (t+1),.int x.2.2.1 (t+2),.int x.2.2.2 (t+3)]::f (t+4)) l
noncomputable def hk (i:Nat):List Obj:=[hC "super" [.ref i,.ref i,.ref i],hC "builtin_function_or_method" [.builtin "object.__init_subclass__",.ref i]]
noncomputable def mI:Obj:=hC "builtin_function_or_method" [.builtin "type.__prepare__",.type "type"]
noncomputable def Du (l:List Obj):Bool→List Obj:=List.rec (motive:=fun _=>Bool→List Obj) (fun _=>[]) (fun x _ f b=>bif b then x::f false else f true) l
noncomputable def hY (n:Nat):List Obj→BT:=Nat.rec (motive:=fun _=>List Obj→BT) (fun _=>.nil) (fun _ f l=>List.rec (motive:=fun _=>BT) .nil (fun v r _=>.node v (f (Du r true)) (f (Du r false))) l) n
noncomputable def hD:Value:=.str "law_pc0097_01" 1885
noncomputable def y2:Value:=.str "__main__" 164
noncomputable def gS:Value:=.str "js.codes" 194
noncomputable def gC:Value:=.str "js.assembler" 823
noncomputable def hn:Value:=.str "js.comp_code" 1002
noncomputable def md5:Value:=.str "js.comp_base" 1136
noncomputable def j6:Value:=.str "js.ways" 1239
noncomputable def vK:Value:=.str "js.jumps" 1351
noncomputable def gm:Value:=.str "js.comp_expr" 1404
noncomputable def fA:Value:=.str "js.comp_stmt" 1615
noncomputable def vL:Value:=.str "js.nodes" 1849
noncomputable def Dv:hj:=gB [("__init__",724,122),("__static_attributes__",727,123)]
noncomputable def Dw:hj:=gB [("__init__",755,142),("__static_attributes__",771,143)]
noncomputable def Dx:hj:=gB [("__init__",846,205),("here",853,212),("emit",862,220),("label",869,227),("place",877,234),("jump",886,241),("const",896,248),("emit_const",904,255),("emit_named",913,262),("inner",921,269),("handler",933,276),("place_of",942,283),("placed_code",953,290),("placed_handlers",968,297),("unit",976,304),("__static_attributes__",994,305)]
noncomputable def Dy:hj:=gB [("__init__",1033,332),("is_open",1040,339),("set_line",1048,346),("new_label",1055,353),("meet",1064,360),("add",1073,368),("add_const",1081,375),("add_named",1090,382),("jump_to",1099,389),("stand",1107,396),("enter",1116,403),("mark",1124,410),("__static_attributes__",1128,411)]
noncomputable def Dz:hj:=gB [("__init__",1172,433),("new_local",1179,440),("get_name",1189,447),("set_place",1199,454),("set_name",1207,461),("keep",1215,468),("copy_local",1224,475),("__static_attributes__",1231,476)]
noncomputable def DA:hj:=gB [("__init__",1275,496),("is_loop",1282,503),("__static_attributes__",1287,504)]
noncomputable def DB:hj:=gB [("inner_unit",1486,594),("value",1496,601),("other_value",1507,608),("values",1516,615),("closure",1524,622),("literal",1536,629),("call",1546,636),("assign",1556,643),("element",1564,650),("reckon",1572,657),("update",1583,664),("stepped",1593,671),("unary",1602,678),("delete",1610,685),("__static_attributes__",1611,686)]
noncomputable def DC:hj:=gB [("statements",1642,705),("statement",1652,712),("drop_result",1659,719),("variables",1669,726),("condition",1681,733),("labelled",1692,740),("loop",1706,747),("body",1715,754),("while_loop",1725,761),("do_loop",1736,768),("for_loop",1750,775),("keys_loop",1762,782),("take_key",1770,789),("leave_function",1779,796),("guarded",1799,803),("kept_result",1807,810),("close_guarded",1817,817),("caught",1833,824),("last",1843,831),("__static_attributes__",1845,832)]
noncomputable def DD:hj:=gB [("__init__",1872,850),("__static_attributes__",1877,851)]
noncomputable def sY:Obj:=kP "CompBase" [.type "object"] [.type "object"] 478 [] none 1152 "object.__new__"
noncomputable def DE:Obj:=kP "CompExpr" [.ref 478] [.ref 478,.type "object"] 688 [] (some (.ref 581)) 1467 "object.__new__"
noncomputable def Ls (l:List (String×Int)):Tok→hj:=List.rec (fun _=>[]) (fun x _ f t=>(x.1,t,.int x.2 (t - 1))::f (t+2)) l
noncomputable def DF:hj:=fz (fz [("__doc__",166,.none),("__package__",167,.none),("__loader__",168,.builtin "__main__.__loader__#opaque"),("__spec__",169,.none)] (fz (gB [("__annotations__",170,6),("__builtins__",171,4)]) (fz [("__file__",173,.str "/claim/cut.py" 172),("__cached__",174,.none)] (gB [("_wall",193,21)])))) (fz (Ls [("OP_UNDEF",0),("OP_NULL",1),("OP_TRUE",2),("OP_FALSE",3),("OP_CONST",4),("OP_THIS",5),("OP_POP",6),("OP_DUP",7),("OP_DUP2",8),("OP_SWAP",9),("OP_ROT3",10),("OP_GETLOC",11),("OP_SETLOC",12),("OP_GETCELL",13),("OP_SETCELL",14),("OP_GETUP",15),("OP_SETUP",16),("OP_FRESH",17),("OP_GETGLOB",18),("OP_TYPEGLOB",19),("OP_SETGLOB",20),("OP_GETPROP",23),("OP_SETPROP",24),("OP_GETELEM",25),("OP_SETELEM",26),("OP_DELPROP",27),("OP_DELELEM",28),("OP_DELNAME",29),("OP_ADD",30),("OP_SUB",31),("OP_MUL",32),("OP_DIV",33),("OP_MOD",34),("OP_SHL",35),("OP_SHR",36),("OP_USHR",37),("OP_AND",38),("OP_OR",39),("OP_XOR",40),("OP_EQ",41),("OP_NE",42),("OP_SEQ",43),("OP_SNE",44),("OP_LT",45),("OP_GT",46),("OP_LE",47),("OP_GE",48),("OP_IN",49),("OP_INSTANCEOF",50),("OP_NEG",51),("OP_TONUM",52),("OP_NOT",53),("OP_BITNOT",54),("OP_TYPEOF",55),("OP_INC",56),("OP_DEC",57),("OP_JMP",58),("OP_JF",59),("OP_JT",60),("OP_JFK",61),("OP_JTK",62),("OP_CALL",63),("OP_NEW",64),("OP_RET",65),("OP_THROW",66),("OP_CLOSURE",67),("OP_NEWOBJ",68),("OP_NEWARR",69),("OP_HOLE",70),("OP_INITPROP",71),("OP_INITGET",72),("OP_INITSET",73),("OP_METHOD",74),("OP_METHODEL",75),("OP_FORIN",76),("OP_NEXTIN",77),("OP_GOSUB",78),("OP_RETSUB",79),("OP_CHECKOBJ",80),("OP_TOKEY",81),("OP_ROT4",82),("OP_FAILSET",83),("OP_REGEXP",84)] 197) (fz (gB [("OPERATIONS",702,107),("LAST_OPS",703,108),("BadCode",734,125),("Unit",778,145),("op_name",785,156),("arg_kind",792,163),("taken_count",800,170),("put_count",807,177),("is_last",814,184),("same_constant",822,191),("Code",1001,307),("depth_at_target",1011,318),("OpenCode",1135,413),("GET_OPS",1144,418),("SET_OPS",1151,419),("CompBase",1238,478)]) (fz [("LOOP",1242,.str "loop" 1241),("KEYS",1244,.str "keys" 1243),("CHOICE",1246,.str "choice" 1245),("LABEL",1248,.str "label" 1247),("GUARDED",1250,.str "guarded" 1249),("FINALLY",1252,.str "finally" 1251)] (gB [("Control",1294,506),("leave_down_to",1304,517),("broken",1314,524),("continued",1324,531),("break_out",1334,538),("go_again",1344,545),("is_guarded",1350,550),("lay_branch",1367,557),("lay_choice",1382,564),("lay_tests",1397,571),("lay_switch",1403,576),("BINARY_OPS",1448,577),("UNARY_OPS",1459,579),("ITEM_OPS",1466,580),("CompExpr",1614,688),("LOOPS",1621,691),("CompStmt",1848,834),("Node",1884,853),("_law_take",1894,864),("_law_name",1902,871),("_law_target",1911,878),("_law_line",1917,883),("_law_view",1924,890),("_law_get",1933,897),("_law_set",1942,904),("_law_keyed",1954,911),("_law_do",1968,918),("_law_all",1978,925),("_law_plain",1984,930),("_law_caught",1999,937),("_law_run",2014,944),("_law_read",2020,949),("law",2026,954)]))))
noncomputable def Lu (p:Params):List DictEntry:=y1 p DF
noncomputable def Lv:List Value:=Lr [(1,0,20),(90,0,114),(96,0,134),(114,0,155),(116,0,162),(118,0,169),(120,0,176),(122,0,183),(124,0,190),(127,0,197),(224,0,317),(228,0,324),(286,0,425),(334,0,488),(344,0,516),(353,0,523),(361,0,530),(367,0,537),(371,0,544),(375,0,549),(378,0,556),(394,0,563),(410,0,570),(426,0,575),(441,0,586),(642,0,697),(873,0,842),(881,0,863),(886,0,870),(888,0,877),(899,0,882),(919,0,889),(927,0,896),(933,0,903),(937,0,910),(950,0,917),(979,0,924),(985,0,929),(1017,0,936),(1025,0,943),(1050,0,948),(1052,0,953)]
noncomputable def fX (p:Params) (v:Value) (n iv:Nat):Obj:=⟨(.type "dict"),none,.dict (k p "__name__" 165 v::(Lu p).take (n - 1)).toArray iv,#[]⟩
noncomputable def fY (n:Nat):Obj:=⟨.none,none,.fields (Lv.take n).toArray,#[]⟩
noncomputable def dR (p:Params):Obj:=⟨.none,none,.dict ⟨y1 p (j5 [("type.__subclasses__.Exception.0",731,125,0),("type.__subclasses__.Exception.n",732,1,0)])⟩ 2,#[]⟩
noncomputable abbrev o0 (p:Params):Obj:=boot_o_0 p
noncomputable def fO (p:Params):Obj:=fX p hD 148 148
noncomputable abbrev fZ (p:Params):Obj:=boot_o_4 p
noncomputable def hl (p:Params):List Obj :=
 aZ ([boot_o_0 p,boot_o_1 p,dR p,fO p,boot_o_4 p,boot_o_5 p,boot_o_6 p,boot_o_7 p,boot_o_8 p,boot_o_9 p,boot_o_10 p,dH [],fY 126,eZ "<module>" "<module>" 182 185 1 0 0 11 12 false .none .none .none,lE 13 3 y2]) <|
 aZ (bh (st 0) "_wall" "_wall" 15 187 1 1 .none y2 ["k"]) <|
 aZ (sX [("UNDEF","",0,1),("NULL","",0,1),("TRUE","",0,1),("FALSE","",0,1),("CONST","k",0,1),("THIS","",0,1),("POP","",1,0),("DUP","",1,2),("DUP2","",2,4),("SWAP","",2,2),("ROT3","",3,3),("GETLOC","l",0,1),("SETLOC","l",1,1),("GETCELL","c",0,1),("SETCELL","c",1,1),("GETUP","u",0,1),("SETUP","u",1,1),("FRESH","c",0,0),("GETGLOB","s",0,1),("TYPEGLOB","s",0,1),("SETGLOB","s",1,1),("DECLVAR","s",0,0),("DECLFUN","s",1,0),("GETPROP","s",1,1),("SETPROP","s",2,1),("GETELEM","",2,1),("SETELEM","",3,1),("DELPROP","s",1,1),("DELELEM","",2,1),("DELNAME","s",0,1),("ADD","",2,1),("SUB","",2,1),("MUL","",2,1),("DIV","",2,1),("MOD","",2,1),("SHL","",2,1),("SHR","",2,1),("USHR","",2,1),("AND","",2,1),("OR","",2,1),("XOR","",2,1),("EQ","",2,1),("NE","",2,1),("SEQ","",2,1),("SNE","",2,1),("LT","",2,1),("GT","",2,1),("LE","",2,1),("GE","",2,1),("IN","",2,1),("INSTANCEOF","",2,1),("NEG","",1,1),("TONUM","",1,1),("NOT","",1,1),("BITNOT","",1,1),("TYPEOF","",1,1),("INC","",1,1),("DEC","",1,1),("JMP","t",0,0),("JF","t",1,0),("JT","t",1,0),("JFK","t",1,0),("JTK","t",1,0),("CALL","n",2,1),("NEW","n",1,1),("RET","",1,0),("THROW","",1,0),("CLOSURE","f",0,1),("NEWOBJ","",0,1),("NEWARR","n",0,1),("HOLE","",0,1),("INITPROP","s",2,1),("INITGET","s",2,1),("INITSET","s",2,1),("METHOD","s",1,2),("METHODEL","",2,2),("FORIN","",1,1),("NEXTIN","t",1,2),("GOSUB","t",0,0),("RETSUB","",2,0),("CHECKOBJ","",1,1),("TOKEY","",2,2),("ROT4","",4,4),("FAILSET","s",1,0),("REGEXP","",2,1)] 362) <|
 aZ ([⟨.type "list",none,.seq ⟨Lq 85 22⟩ 0,#[]⟩,⟨.type "list",none,.seq ⟨[.int 58 308,.int 65 322,.int 66 324,.int 79 350,.int 83 358]⟩ 0,#[]⟩,dH [.type "Exception"],mI,dy p "BadCode" gS 711 90 true Dv 5,dH [],iu (fl [(92,121)]),eZ "BadCode" "BadCode" 706 709 90 0 0 112 113 false .none .none .none,lE 114 111 gS]) <|
 aZ (bh (cst 87 0) "__init__" "BadCode.__init__" 116 716 92 3 .none gS ["self","text","pc"]) <|
 aZ ([dH (lC ["pc","text"] 725),dy p "" gS 711 90 false (fz Dv (fz (gB [("__weakref__",729,126)]) ([("__doc__",730,.none)]))) 3,kP "BadCode" [.type "Exception"] [.type "Exception",.type "BaseException",.type "object"] 125 [] (some (.ref 109)) 704 "Exception.__new__",hC "getset_descriptor" [.str "__weakref__" 728,.ref 125,.builtin "ExceptionGroup.__weakref__",.none]]) <|
 aZ (hk 125) <|
 aZ ([dH [],mI,dy p "Unit" gS 742 96 true Dw 5,dH [],iu (fl [(98,141)]),eZ "Unit" "Unit" 737 740 96 0 0 132 133 false .none .none .none,lE 134 131 gS]) <|
 aZ (bh (cst 88 0) "__init__" "Unit.__init__" 136 747 98 3 .none gS ["self","name","params"]) <|
 aZ ([dH (lC ["arguments_place","captures","cell_count","code","consts","handlers","is_strict","lines","local_count","name","param_places","params","self_slot","units","uses_arguments"] 756),dy p "" gS 742 96 false (fz Dw (fz (gB [("__dict__",773,146),("__weakref__",775,147)]) ([("__doc__",776,.none)]))) 4,kP "Unit" [.type "object"] [.type "object"] 145 [] none 735 "object.__new__",hC "getset_descriptor" [.str "__dict__" 772,.ref 145,.builtin "function.__dict__",.builtin "function.__dict__#set"],hC "getset_descriptor" [.str "__weakref__" 774,.ref 145,.builtin "ExceptionGroup.__weakref__",.none]]) <|
 aZ (hk 145) <|
 aZ (bh (st 89) "op_name" "op_name" 150 779 114 1 .none gS ["op"]) <|
 aZ (bh (st 90) "arg_kind" "arg_kind" 157 786 116 1 .none gS ["op"]) <|
 aZ (bh (st 91) "taken_count" "taken_count" 164 793 118 2 .none gS ["op","arg"]) <|
 aZ (bh (st 92) "put_count" "put_count" 171 801 120 1 .none gS ["op"]) <|
 aZ (bh (st 93) "is_last" "is_last" 178 808 122 1 .none gS ["op"]) <|
 aZ (bh (st 94) "same_constant" "same_constant" 185 815 124 2 .none gS ["one","other"]) <|
 aZ ([dH [],mI,dy p "Code" gC 832 127 true Dx 19,dH [],iu (fl [(129,204),(148,211),(151,219),(156,226),(160,233),(165,240),(168,247),(175,254),(178,261),(181,268),(185,275),(188,282),(193,289),(199,296),(207,303)]),eZ "Code" "Code" 827 830 127 0 0 195 196 false .none .none .none,lE 197 194 gC]) <|
 aZ (bh (cst 96 0) "__init__" "Code.__init__" 199 837 129 4 .none gC ["self","name","params","is_strict"]) <|
 aZ (bh (cst 96 1) "here" "Code.here" 206 847 148 1 .none gC ["self"]) <|
 aZ ([dH [.none]]) <|
 aZ (bh (cst 96 2) "emit" "Code.emit" 214 854 151 3 (.ref 213) gC ["self","op","arg"]) <|
 aZ (bh (cst 96 3) "label" "Code.label" 221 863 156 1 .none gC ["self"]) <|
 aZ (bh (cst 96 4) "place" "Code.place" 228 870 160 2 .none gC ["self","label"]) <|
 aZ (bh (cst 96 5) "jump" "Code.jump" 235 878 165 3 .none gC ["self","op","label"]) <|
 aZ (bh (cst 96 6) "const" "Code.const" 242 887 168 2 .none gC ["self","value","at","known"]) <|
 aZ (bh (cst 96 7) "emit_const" "Code.emit_const" 249 897 175 2 .none gC ["self","value"]) <|
 aZ (bh (cst 96 8) "emit_named" "Code.emit_named" 256 905 178 3 .none gC ["self","op","text"]) <|
 aZ (bh (cst 96 9) "inner" "Code.inner" 263 914 181 2 .none gC ["self","unit"]) <|
 aZ (bh (cst 96 10) "handler" "Code.handler" 270 922 185 6 .none gC ["self","start","end","target","depth","is_finally"]) <|
 aZ (bh (cst 96 11) "place_of" "Code.place_of" 277 934 188 3 .none gC ["self","label","pc"]) <|
 aZ (bh (cst 96 12) "placed_code" "Code.placed_code" 284 943 193 1 .none gC ["self","found","pc","op","arg"]) <|
 aZ (bh (cst 96 13) "placed_handlers" "Code.placed_handlers" 291 954 199 1 .none gC ["self","found","start","end","target","depth","is_finally","first","last"]) <|
 aZ (bh (cst 96 14) "unit" "Code.unit" 298 969 207 1 .none gC ["self","made"]) <|
 aZ ([dH (lC ["arguments_place","captures","cell_count","code","consts","handlers","is_strict","line","lines","local_count","name","param_places","params","places","self_slot","units","uses_arguments"] 977),dy p "" gC 832 127 false (fz Dx (fz (gB [("__dict__",996,308),("__weakref__",998,309)]) ([("__doc__",999,.none)]))) 4,kP "Code" [.type "object"] [.type "object"] 307 [] none 825 "object.__new__",hC "getset_descriptor" [.str "__dict__" 995,.ref 307,.builtin "function.__dict__",.builtin "function.__dict__#set"],hC "getset_descriptor" [.str "__weakref__" 997,.ref 307,.builtin "ExceptionGroup.__weakref__",.none]]) <|
 aZ (hk 307) <|
 aZ (bh (st 98) "depth_at_target" "depth_at_target" 312 1004 224 2 .none hn ["op","depth"]) <|
 aZ ([dH [],mI,dy p "OpenCode" hn 1019 228 true Dy 16,dH [],iu (fl [(230,331),(235,338),(238,345),(241,352),(245,359),(250,367),(255,374),(259,381),(263,388),(269,395),(275,402),(279,409)]),eZ "OpenCode" "OpenCode" 1014 1017 228 0 0 322 323 false .none .none .none,lE 324 321 hn]) <|
 aZ (bh (cst 99 0) "__init__" "OpenCode.__init__" 326 1024 230 4 .none hn ["self","name","params","is_strict"]) <|
 aZ (bh (cst 99 1) "is_open" "OpenCode.is_open" 333 1034 235 1 .none hn ["self"]) <|
 aZ (bh (cst 99 2) "set_line" "OpenCode.set_line" 340 1041 238 2 .none hn ["self","line"]) <|
 aZ (bh (cst 99 3) "new_label" "OpenCode.new_label" 347 1049 241 1 .none hn ["self"]) <|
 aZ (bh (cst 99 4) "meet" "OpenCode.meet" 354 1056 245 3 .none hn ["self","label","depth"]) <|
 aZ ([dH [.none]]) <|
 aZ (bh (cst 99 5) "add" "OpenCode.add" 362 1065 250 3 (.ref 361) hn ["self","op","arg"]) <|
 aZ (bh (cst 99 6) "add_const" "OpenCode.add_const" 369 1074 255 2 .none hn ["self","value"]) <|
 aZ (bh (cst 99 7) "add_named" "OpenCode.add_named" 376 1082 259 3 .none hn ["self","op","text"]) <|
 aZ (bh (cst 99 8) "jump_to" "OpenCode.jump_to" 383 1091 263 3 .none hn ["self","op","label"]) <|
 aZ (bh (cst 99 9) "stand" "OpenCode.stand" 390 1100 269 2 .none hn ["self","label"]) <|
 aZ (bh (cst 99 10) "enter" "OpenCode.enter" 397 1108 275 3 .none hn ["self","label","depth"]) <|
 aZ (bh (cst 99 11) "mark" "OpenCode.mark" 404 1117 279 1 .none hn ["self","label"]) <|
 aZ ([dH (lC ["depth","depths","made"] 1125),dy p "" hn 1019 228 false (fz Dy (fz (gB [("__dict__",1130,414),("__weakref__",1132,415)]) ([("__doc__",1133,.none)]))) 4,kP "OpenCode" [.type "object"] [.type "object"] 413 [] none 1012 "object.__new__",hC "getset_descriptor" [.str "__dict__" 1129,.ref 413,.builtin "function.__dict__",.builtin "function.__dict__#set"],hC "getset_descriptor" [.str "__weakref__" 1131,.ref 413,.builtin "ExceptionGroup.__weakref__",.none]]) <|
 aZ (hk 413) <|
 aZ ([lD p (j5 [("local",1138,11,218),("cell",1139,13,222),("up",1140,15,226)]) 3,lD p (j5 [("local",1145,12,220),("cell",1146,14,224),("up",1147,16,228)]) 3,dH [],mI,dy p "CompBase" md5 1159 286 true Dz 11,dH [],iu (fl [(288,432),(296,439),(300,446),(307,453),(314,460),(320,467),(324,474)]),eZ "CompBase" "CompBase" 1154 1157 286 0 0 423 424 false .none .none .none,lE 425 422 md5]) <|
 aZ (bh (cst 103 0) "__init__" "CompBase.__init__" 427 1164 288 3 .none md5 ["self","scope","name"]) <|
 aZ (bh (cst 103 1) "new_local" "CompBase.new_local" 434 1173 296 1 .none md5 ["self"]) <|
 aZ (bh (cst 103 2) "get_name" "CompBase.get_name" 441 1180 300 2 .none md5 ["self","name","sort","where"]) <|
 aZ (bh (cst 103 3) "set_place" "CompBase.set_place" 448 1190 307 2 .none md5 ["self","place","sort","where"]) <|
 aZ (bh (cst 103 4) "set_name" "CompBase.set_name" 455 1200 314 2 .none md5 ["self","name"]) <|
 aZ (bh (cst 103 5) "keep" "CompBase.keep" 462 1208 320 2 .none md5 ["self","local"]) <|
 aZ (bh (cst 103 6) "copy_local" "CompBase.copy_local" 469 1216 324 3 .none md5 ["self","source","target"]) <|
 aZ ([dH (lC ["code","controls","local_count","result","scope","view"] 1225),dy p "" md5 1159 286 false (fz Dz (fz (gB [("__dict__",1233,479),("__weakref__",1235,480)]) ([("__doc__",1236,.none)]))) 4,kP "CompBase" [.type "object"] [.type "object"] 478 [.ref 688] none 1152 "object.__new__",hC "getset_descriptor" [.str "__dict__" 1232,.ref 478,.builtin "function.__dict__",.builtin "function.__dict__#set"],hC "getset_descriptor" [.str "__weakref__" 1234,.ref 478,.builtin "ExceptionGroup.__weakref__",.none]]) <|
 aZ (hk 478) <|
 aZ ([dH [],mI,dy p "Control" j6 1260 334 true DA 6,dH [],iu (fl [(336,495),(342,502)]),eZ "Control" "Control" 1255 1258 334 0 0 486 487 false .none .none .none,lE 488 485 j6]) <|
 aZ (bh (cst 111 0) "__init__" "Control.__init__" 490 1265 336 5 .none j6 ["self","kind","labels","behind","again"]) <|
 aZ (bh (cst 111 1) "is_loop" "Control.is_loop" 497 1276 342 1 .none j6 ["self"]) <|
 aZ ([dH (lC ["again","behind","kind","labels"] 1283),dy p "" j6 1260 334 false (fz DA (fz (gB [("__dict__",1289,507),("__weakref__",1291,508)]) ([("__doc__",1292,.none)]))) 4,kP "Control" [.type "object"] [.type "object"] 506 [] none 1253 "object.__new__",hC "getset_descriptor" [.str "__dict__" 1288,.ref 506,.builtin "function.__dict__",.builtin "function.__dict__#set"],hC "getset_descriptor" [.str "__weakref__" 1290,.ref 506,.builtin "ExceptionGroup.__weakref__",.none]]) <|
 aZ (hk 506) <|
 aZ (bh (st 112) "leave_down_to" "leave_down_to" 511 1295 344 3 .none j6 ["code","controls","many","control"]) <|
 aZ (bh (st 113) "broken" "broken" 518 1305 353 2 .none j6 ["controls","label","at","control"]) <|
 aZ (bh (st 114) "continued" "continued" 525 1315 361 2 .none j6 ["controls","label","at","control"]) <|
 aZ (bh (st 115) "break_out" "break_out" 532 1325 367 3 .none j6 ["code","controls","label","at"]) <|
 aZ (bh (st 116) "go_again" "go_again" 539 1335 371 3 .none j6 ["code","controls","label","at"]) <|
 aZ (jn (st 117) "is_guarded" 546 1345 375 1 j6) <|
 aZ (bh (st 119) "lay_branch" "lay_branch" 551 1353 378 5 .none vK ["code","node","label","when","push","op","one","other","end"]) <|
 aZ (bh (st 120) "lay_choice" "lay_choice" 558 1368 394 3 .none vK ["code","node","push","end","op","one","other","test","no"]) <|
 aZ (bh (st 121) "lay_tests" "lay_tests" 565 1383 410 5 .none vK ["code","clauses","bodies","behind","push","other","at","clause","later"]) <|
 aZ (jn (st 122) "lay_switch" 572 1398 426 6 vK) <|
 aZ ([lD p (j5 [("+",1406,30,252),("-",1408,31,254),("*",1410,32,256),("/",1412,33,258),("%",1414,34,260),("<<",1416,35,262),(">>",1418,36,264),(">>>",1420,37,266),("&",1422,38,268),("|",1424,39,270),("^",1426,40,272),("==",1428,41,274),("!=",1430,42,276),("===",1432,43,278),("!==",1434,44,280),("<",1436,45,282),(">",1438,46,284),("<=",1440,47,286),(">=",1441,48,288),("in",1442,49,290),("instanceof",1443,50,292)]) 21,lD p (j5 [("<=",1440,47,286),(">=",1441,48,288),("in",1442,49,290),("instanceof",1443,50,292)]) 4,lD p (j5 [("-",1449,51,294),("+",1450,52,296),("!",1451,53,298),("~",1452,54,300),("typeof",1453,55,302)]) 5,lD p (j5 [("init",1460,71,334),("get",1461,72,336),("set",1462,73,338)]) 3,dH [.ref 478],mI,dy p "CompExpr" gm 1474 441 true DB 18,dH [],iu (fl [(443,593),(446,600),(474,607),(500,614),(504,621),(507,628),(527,635),(543,642),(569,649),(574,656),(578,663),(602,670),(609,677),(623,684)]),eZ "CompExpr" "CompExpr" 1469 1472 441 0 0 584 585 false .none .none .none,lE 586 583 gm]) <|
 aZ (bh (cst 127 0) "inner_unit" "CompExpr.inner_unit" 588 1479 443 2 .none gm ["self","node"]) <|
 aZ (bh (cst 127 1) "value" "CompExpr.value" 595 1487 446 2 .none gm ["self","node","kind","parts"]) <|
 aZ (bh (cst 127 2) "other_value" "CompExpr.other_value" 602 1497 474 2 .none gm ["self","node","kind","parts","one"]) <|
 aZ (bh (cst 127 3) "values" "CompExpr.values" 609 1508 500 2 .none gm ["self","nodes","one"]) <|
 aZ (bh (cst 127 4) "closure" "CompExpr.closure" 616 1517 504 2 .none gm ["self","node"]) <|
 aZ (bh (cst 127 5) "literal" "CompExpr.literal" 623 1525 507 2 .none gm ["self","node","items","one","sort","key"]) <|
 aZ (bh (cst 127 6) "call" "CompExpr.call" 630 1537 527 2 .none gm ["self","node","callee","args"]) <|
 aZ (bh (cst 127 7) "assign" "CompExpr.assign" 637 1547 543 4 .none gm ["self","op","target","node"]) <|
 aZ (bh (cst 127 8) "element" "CompExpr.element" 644 1557 569 2 .none gm ["self","target"]) <|
 aZ (bh (cst 127 9) "reckon" "CompExpr.reckon" 651 1565 574 2 .none gm ["self","op"]) <|
 aZ (bh (cst 127 10) "update" "CompExpr.update" 658 1573 578 4 .none gm ["self","op","is_prefix","target","step"]) <|
 aZ (bh (cst 127 11) "stepped" "CompExpr.stepped" 665 1584 602 4 .none gm ["self","step","is_prefix","turn"]) <|
 aZ (bh (cst 127 12) "unary" "CompExpr.unary" 672 1594 609 3 .none gm ["self","op","node"]) <|
 aZ (bh (cst 127 13) "delete" "CompExpr.delete" 679 1603 623 2 .none gm ["self","node"]) <|
 aZ ([dH [],dy p "" gm 1474 441 false (fz DB ([("__doc__",1612,.none)])) 2,kP "CompExpr" [.ref 478] [.ref 478,.type "object"] 688 [.ref 834] (some (.ref 581)) 1467 "object.__new__"]) <|
 aZ (hk 688) <|
 aZ ([dH (lC ["While","DoWhile","For","ForIn"] 1617),dH [.ref 688],mI,dy p "CompStmt" fA 1629 642 true DC 23,dH [],iu (fl [(644,704),(649,711),(679,718),(685,725),(692,732),(703,739),(718,746),(733,753),(738,760),(745,767),(753,774),(772,781),(786,788),(802,795),(814,802),(834,809),(841,816),(846,823),(862,830)]),eZ "CompStmt" "CompStmt" 1624 1627 642 0 0 695 696 false .none .none .none,lE 697 694 fA]) <|
 aZ (bh (cst 130 0) "statements" "CompStmt.statements" 699 1634 644 2 .none fA ["self","nodes","node"]) <|
 aZ (bh (cst 130 1) "statement" "CompStmt.statement" 706 1643 649 2 .none fA ["self","node","kind","parts"]) <|
 aZ (bh (cst 130 2) "drop_result" "CompStmt.drop_result" 713 1653 679 1 .none fA ["self"]) <|
 aZ (bh (cst 130 3) "variables" "CompStmt.variables" 720 1660 685 2 .none fA ["self","pairs","name","init"]) <|
 aZ (bh (cst 130 4) "condition" "CompStmt.condition" 727 1670 692 4 .none fA ["self","test","one","other","no","end"]) <|
 aZ (bh (cst 130 5) "labelled" "CompStmt.labelled" 734 1682 703 2 .none fA ["self","node","labels","inner","behind"]) <|
 aZ (bh (cst 130 6) "loop" "CompStmt.loop" 741 1693 718 3 .none fA ["self","node","labels","kind","parts","behind","again","control"]) <|
 aZ (bh (cst 130 7) "body" "CompStmt.body" 748 1707 733 3 .none fA ["self","node","control"]) <|
 aZ (bh (cst 130 8) "while_loop" "CompStmt.while_loop" 755 1716 738 4 .none fA ["self","test","node","control"]) <|
 aZ (bh (cst 130 9) "do_loop" "CompStmt.do_loop" 762 1726 745 4 .none fA ["self","node","test","control","top"]) <|
 aZ (bh (cst 130 10) "for_loop" "CompStmt.for_loop" 769 1737 753 3 .none fA ["self","parts","control","init","test","step","node","top"]) <|
 aZ (bh (cst 130 11) "keys_loop" "CompStmt.keys_loop" 776 1751 772 3 .none fA ["self","parts","control","target","owner","node"]) <|
 aZ (bh (cst 130 12) "take_key" "CompStmt.take_key" 783 1763 786 2 .none fA ["self","target"]) <|
 aZ (bh (cst 130 13) "leave_function" "CompStmt.leave_function" 790 1771 802 2 .none fA ["self","node","kept"]) <|
 aZ (bh (cst 130 14) "guarded" "CompStmt.guarded" 797 1780 814 2 .none fA ["self","node","block","name","caught","last","end","rest","depth","ahead","start","first","stop","is_empty"]) <|
 aZ (bh (cst 130 15) "kept_result" "CompStmt.kept_result" 804 1800 834 1 .none fA ["self","kept"]) <|
 aZ (bh (cst 130 16) "close_guarded" "CompStmt.close_guarded" 811 1808 841 4 .none fA ["self","last","rest","end"]) <|
 aZ (bh (cst 130 17) "caught" "CompStmt.caught" 818 1818 846 6 .none fA ["self","node","start","stop","depth","ahead","handler","view","place","kept"]) <|
 aZ (bh (cst 130 18) "last" "CompStmt.last" 825 1834 862 3 .none fA ["self","nodes","ahead","kept"]) <|
 aZ ([dH (lC ["view"] 1844),dy p "" fA 1629 642 false (fz DC ([("__doc__",1846,.none)])) 2,kP "CompStmt" [.ref 688] [.ref 688,.ref 478,.type "object"] 834 [] (some (.ref 692)) 1622 "object.__new__"]) <|
 aZ (hk 834) <|
 aZ ([dH [],mI,dy p "Node" vL 1858 873 true DD 5,dH [],iu (fl [(875,849)]),eZ "Node" "Node" 1853 1856 873 0 0 840 841 false .none .none .none,lE 842 839 vL]) <|
 aZ (bh (cst 132 0) "__init__" "Node.__init__" 844 1863 875 4 .none vL ["self","kind","line","parts"]) <|
 aZ ([dH (lC ["kind","line","parts","scope"] 1873),dy p "" vL 1858 873 false (fz DD (fz (gB [("__dict__",1879,854),("__weakref__",1881,855)]) ([("__doc__",1882,.none)]))) 4,kP "Node" [.type "object"] [.type "object"] 853 [] none 1851 "object.__new__",hC "getset_descriptor" [.str "__dict__" 1878,.ref 853,.builtin "function.__dict__",.builtin "function.__dict__#set"],hC "getset_descriptor" [.str "__weakref__" 1880,.ref 853,.builtin "ExceptionGroup.__weakref__",.none]]) <|
 aZ (hk 853) <|
 aZ (bh (st 134) "_law_take" "_law_take" 858 1887 881 2 .none hD ["box","wide"]) <|
 aZ (bh (st 135) "_law_name" "_law_name" 865 1895 886 2 .none hD ["box","many"]) <|
 aZ (bh (st 136) "_law_target" "_law_target" 872 1903 888 2 .none hD ["box","is_caught","form"]) <|
 aZ (jn (st 137) "_law_line" 879 1912 899 3 hD) <|
 aZ (bh (st 138) "_law_view" "_law_view" 884 1918 919 0 .none hD ["view"]) <|
 aZ (bh (st 139) "_law_get" "_law_get" 891 1925 927 2 .none hD ["world","name","value"]) <|
 aZ (bh (st 140) "_law_set" "_law_set" 898 1934 933 3 .none hD ["world","what","value"]) <|
 aZ (bh (st 141) "_law_keyed" "_law_keyed" 905 1943 937 3 .none hD ["world","target","key","owner","fault","spot"]) <|
 aZ (bh (st 142) "_law_do" "_law_do" 912 1955 950 2 .none hD ["world","node","kind","rows","found","value","fault","at"]) <|
 aZ (bh (st 143) "_law_all" "_law_all" 919 1969 979 2 .none hD ["world","lines","line","found"]) <|
 aZ (jn (st 144) "_law_plain" 926 1979 985 5 hD) <|
 aZ (bh (st 145) "_law_caught" "_law_caught" 931 1985 1017 4 .none hD ["unit","at","stack","fault","first","end","goal","depth","is_finally"]) <|
 aZ (bh (st 146) "_law_run" "_law_run" 938 2000 1025 2 .none hD ["world","unit","stack","pc","turn","at","fault","word","where"]) <|
 aZ (jn (st 147) "_law_read" 945 2015 1050 1 hD) <|
 jn (st 148) "law" 950 2021 1052 1 hD
noncomputable def full (p:Params):BT:=hY 10 (hl p)
noncomputable def Lw (p:Params):BT:=(BT.set ((BT.set ((BT.set (cut 15 1 0 (full p)) 2 (fun _=>⟨.none,none,(.dict #[] 0),#[]⟩))) 3 (fun _=>(fX p y2 9 9)))) 12 (fun _=>(fY 0)))
noncomputable def s0 (w:World) (os:OsState):SharedT:=⟨Lw w.params,15,lf,#[],eY,187,os⟩
noncomputable def qv:Pos:=⟨0,0,0,0⟩
noncomputable def Lx (p:Params):BT:=(BT.set ((BT.set ((BT.set (cut 22 1 0 (full p)) 2 (fun _=>⟨.none,none,(.dict #[] 0),#[]⟩))) 3 (fun _=>(fX p gS 50 50)))) 12 (fun _=>(fY 3)))
noncomputable def s1 (w:World) (os:OsState):SharedT:=⟨Lx w.params,22,lf,#[],eY,276,os⟩
noncomputable def y3:Pos:=⟨44,0,44,5⟩
noncomputable def Ly (p:Params):BT:=(BT.set ((BT.set ((BT.set (cut 22 1 0 (full p)) 2 (fun _=>⟨.none,none,(.dict #[] 0),#[]⟩))) 3 (fun _=>(fX p gS 93 93)))) 12 (fun _=>(fY 3)))
noncomputable def s2 (w:World) (os:OsState):SharedT:=⟨Ly w.params,22,lf,#[],eY,362,os⟩
noncomputable def y4:Pos:=⟨87,0,87,9⟩
noncomputable def Lz (p:Params):BT:=(BT.set ((BT.set ((BT.set (cut 108 1 0 (full p)) 2 (fun _=>⟨.none,none,(.dict #[] 0),#[]⟩))) 3 (fun _=>(fX p gS 94 94)))) 12 (fun _=>(fY 3)))
noncomputable def s3 (w:World) (os:OsState):SharedT:=⟨Lz w.params,108,lf,#[],eY,703,os⟩
noncomputable def y5:Pos:=⟨88,0,88,10⟩
noncomputable def LA (p:Params):BT:=(BT.set ((BT.set (cut 129 1 0 (full p)) 3 (fun _=>(fX p gS 96 96)))) 12 (fun _=>(fY 6)))
noncomputable def s4 (w:World) (os:OsState):SharedT:=⟨LA w.params,129,lf,#[],eY,735,os⟩
noncomputable def y6:Pos:=⟨90,0,95,20⟩
noncomputable def LB (p:Params):BT:=(BT.set ((BT.set (cut 185 1 0 (full p)) 3 (fun _=>(fX p gS 102 102)))) 12 (fun _=>(fY 24)))
noncomputable def s5 (w:World) (os:OsState):SharedT:=⟨LB w.params,185,lf,#[],eY,815,os⟩
noncomputable def y7:Pos:=⟨122,0,123,25⟩
noncomputable def LC (p:Params):BT:=(BT.set ((BT.set (cut 192 1 0 (full p)) 3 (fun _=>(fX p gC 103 103)))) 12 (fun _=>(fY 27)))
noncomputable def sZ (w:World) (os:OsState):SharedT:=⟨LC w.params,192,lf,#[],eY,825,os⟩
noncomputable def y8:Pos:=⟨126,0,126,8⟩
noncomputable def LD (p:Params):BT:=(BT.set ((BT.set (cut 312 1 0 (full p)) 3 (fun _=>(fX p gC 104 104)))) 12 (fun _=>(fY 30)))
noncomputable def y9 (w:World) (os:OsState):SharedT:=⟨LD w.params,312,lf,#[],eY,1002,os⟩
noncomputable def za:Pos:=⟨127,0,222,19⟩
noncomputable def LF (p:Params):BT:=(BT.set ((BT.set (cut 319 1 0 (full p)) 3 (fun _=>(fX p hn 105 105)))) 12 (fun _=>(fY 33)))
noncomputable def zb (w:World) (os:OsState):SharedT:=⟨LF w.params,319,lf,#[],eY,1012,os⟩
noncomputable def zc:Pos:=⟨224,0,227,61⟩
noncomputable def LG (p:Params):BT:=(BT.set ((BT.set (cut 418 1 0 (full p)) 3 (fun _=>(fX p hn 106 106)))) 12 (fun _=>(fY 36)))
noncomputable def zd (w:World) (os:OsState):SharedT:=⟨LG w.params,418,lf,#[],eY,1136,os⟩
noncomputable def ze:Pos:=⟨228,0,282,20⟩
noncomputable def LH (p:Params):BT:=(BT.set ((BT.set (cut 418 1 0 (full p)) 3 (fun _=>(fX p md5 106 106)))) 12 (fun _=>(fY 36)))
noncomputable def lF (w:World) (os:OsState):SharedT:=⟨LH w.params,418,lf,#[],eY,1138,os⟩
noncomputable def qw:Pos:=⟨283,0,283,8⟩
noncomputable def LI (p:Params):BT:=(BT.set ((BT.set (cut 420 1 0 (full p)) 3 (fun _=>(fX p md5 108 108)))) 12 (fun _=>(fY 36)))
noncomputable def qx (w:World) (os:OsState):SharedT:=⟨LI w.params,420,lf,#[],eY,1152,os⟩
noncomputable def qy:Pos:=⟨285,0,285,7⟩
noncomputable def LJ (p:Params):BT:=(BT.set ((BT.set ((BT.set (cut 483 1 0 (full p)) 3 (fun _=>(fX p md5 109 109)))) 12 (fun _=>(fY 39)))) 478 (fun _=>sY))
noncomputable def zf (w:World) (os:OsState):SharedT:=⟨LJ w.params,483,lf,#[],eY,1239,os⟩
noncomputable def zg:Pos:=⟨286,0,326,25⟩
noncomputable def LK (p:Params):BT:=(BT.set ((BT.set ((BT.set (cut 525 1 0 (full p)) 3 (fun _=>(fX p j6 118 118)))) 12 (fun _=>(fY 48)))) 478 (fun _=>sY))
noncomputable def zh (w:World) (os:OsState):SharedT:=⟨LK w.params,525,lf,#[],eY,1315,os⟩
noncomputable def zi:Pos:=⟨353,0,360,13⟩
noncomputable def LL (p:Params):BT:=(BT.set ((BT.set ((BT.set (cut 577 1 0 (full p)) 3 (fun _=>(fX p gm 126 126)))) 12 (fun _=>(fY 72)))) 478 (fun _=>sY))
noncomputable def qz (w:World) (os:OsState):SharedT:=⟨LL w.params,577,lf,#[],eY,1406,os⟩
noncomputable def qA:Pos:=⟨437,0,437,8⟩
noncomputable def LM (p:Params):BT:=(BT.set ((BT.set ((BT.set (cut 579 1 0 (full p)) 3 (fun _=>(fX p gm 127 127)))) 12 (fun _=>(fY 72)))) 478 (fun _=>sY))
noncomputable def mJ (w:World) (os:OsState):SharedT:=⟨LM w.params,579,lf,#[],eY,1449,os⟩
noncomputable def mK:Pos:=⟨438,0,438,10⟩
noncomputable def LN (p:Params):BT:=(BT.set ((BT.set ((BT.set (cut 581 1 0 (full p)) 3 (fun _=>(fX p gm 129 129)))) 12 (fun _=>(fY 72)))) 478 (fun _=>sY))
noncomputable def qB (w:World) (os:OsState):SharedT:=⟨LN w.params,581,lf,#[],eY,1467,os⟩
noncomputable def qC:Pos:=⟨440,0,440,8⟩
noncomputable def LO (p:Params):BT:=(BT.set ((BT.set ((BT.set (cut 691 1 0 (full p)) 3 (fun _=>(fX p gm 130 130)))) 12 (fun _=>(fY 75)))) 688 (fun _=>DE))
noncomputable def zj (w:World) (os:OsState):SharedT:=⟨LO w.params,691,lf,#[],eY,1615,os⟩
noncomputable def zk:Pos:=⟨441,0,639,34⟩
noncomputable def LP (p:Params):BT:=(BT.set ((BT.set ((BT.set (cut 692 1 0 (full p)) 3 (fun _=>(fX p fA 131 131)))) 12 (fun _=>(fY 75)))) 688 (fun _=>DE))
noncomputable def zl (w:World) (os:OsState):SharedT:=⟨LP w.params,692,lf,#[],eY,1622,os⟩
noncomputable def zm:Pos:=⟨641,0,641,5⟩
noncomputable def LQ (p:Params):BT:=(BT.set ((BT.set (cut 837 1 0 (full p)) 3 (fun _=>(fX p fA 132 132)))) 12 (fun _=>(fY 78)))
noncomputable def zo (w:World) (os:OsState):SharedT:=⟨LQ w.params,837,lf,#[],eY,1849,os⟩
noncomputable def zp:Pos:=⟨642,0,871,32⟩
noncomputable def LR (p:Params):BT:=(BT.set ((BT.set (cut 891 1 0 (full p)) 3 (fun _=>(fX p hD 138 138)))) 12 (fun _=>(fY 96)))
noncomputable def zq (w:World) (os:OsState):SharedT:=⟨LR w.params,891,lf,#[],eY,1925,os⟩
noncomputable def zr:Pos:=⟨919,0,926,15⟩
noncomputable def DG (p:Params):BT:=cut 955 1 0 (full p)
noncomputable def fm (w:World) (os:OsState):SharedT:=⟨DG w.params,955,lf,#[],eY,2027,os⟩
noncomputable def DH:Pos:=⟨1052,0,1065,46⟩
theorem LS (w:World) (os:OsState):er bz w 11 an 1 399 (s0 w os) (piecesOf ((bd.drop 0).take 42) ev bL qv cG)=some (.next,s1 w os,bL,y3):=by kernel_rfl
theorem LU (w:World) (os:OsState):er bz w 11 an 1 388 (s1 w os) (piecesOf ((bd.drop 42).take 43) ev bL y3 cG)=some (.next,s2 w os,bL,y4):=by kernel_rfl
theorem LV (w:World) (os:OsState):er bz w 11 an 1 521 (s2 w os) (piecesOf ((bd.drop 85).take 1) ev bL y4 cG)=some (.next,s3 w os,bL,y5):=by kernel_rfl
theorem LW (w:World) (os:OsState):er bz w 11 an 1 251 (s3 w os) (piecesOf ((bd.drop 86).take 2) ev bL y5 cG)=some (.next,s4 w os,bL,y6):=by kernel_rfl
theorem LX (w:World) (os:OsState):er bz w 11 an 1 384 (s4 w os) (piecesOf ((bd.drop 88).take 6) ev bL y6 cG)=some (.next,s5 w os,bL,y7):=by kernel_rfl
theorem LY (w:World) (os:OsState):er bz w 11 an 1 40 (s5 w os) (piecesOf ((bd.drop 94).take 2) ev bL y7 cG)=some (.next,sZ w os,bL,y8):=by kernel_rfl
theorem LZ (w:World) (os:OsState):er bz w 11 an 1 708 (sZ w os) (piecesOf ((bd.drop 96).take 1) ev bL y8 cG)=some (.next,y9 w os,bL,za):=by kernel_rfl
theorem L0 (w:World) (os:OsState):er bz w 11 an 1 40 (y9 w os) (piecesOf ((bd.drop 97).take 2) ev bL za cG)=some (.next,zb w os,bL,zc):=by kernel_rfl
theorem L1 (w:World) (os:OsState):er bz w 11 an 1 583 (zb w os) (piecesOf ((bd.drop 99).take 1) ev bL zc cG)=some (.next,zd w os,bL,ze):=by kernel_rfl
theorem L2 (w:World) (os:OsState):er bz w 11 an 1 10 (zd w os) (piecesOf ((bd.drop 100).take 1) ev bL ze cG)=some (.next,lF w os,bL,qw):=by kernel_rfl
theorem L3 (w:World) (os:OsState):er bz (w.withFollow "special-get-raises" false) 11 an 1 117 (lF (w.withFollow "special-get-raises" false) os) (piecesOf ((bd.drop 101).take 2) ev bL qw cG)=some (.next,qx (w.withFollow "special-get-raises" false) os,bL,qy):=by kernel_rfl
theorem L4 (w:World) (os:OsState):er bz (w.withFollow "special-get-raises" true) 11 an 1 117 (lF (w.withFollow "special-get-raises" true) os) (piecesOf ((bd.drop 101).take 2) ev bL qw cG)=some (.next,qx (w.withFollow "special-get-raises" true) os,bL,qy):=by kernel_rfl
theorem L5 (w:World) (os:OsState):er bz w 11 an 1 117 (lF w os) (piecesOf ((bd.drop 101).take 2) ev bL qw cG)=some (.next,qx w os,bL,qy):=byRow2 "special-get-raises" (P:=fun w=>er bz w 11 an 1 117 (lF w os) (piecesOf ((bd.drop 101).take 2) ev bL qw cG)=some (.next,qx w os,bL,qy)) (fun w=>L3 w os) (fun w=>L4 w os) w
theorem L6 (w:World) (os:OsState):er bz w 11 an 1 425 (qx w os) (piecesOf ((bd.drop 103).take 1) ev bL qy cG)=some (.next,zf w os,bL,zg):=by kernel_rfl
theorem L7 (w:World) (os:OsState):er bz w 11 an 1 387 (zf w os) (piecesOf ((bd.drop 104).take 10) ev bL zg cG)=some (.next,zh w os,bL,zi):=by kernel_rfl
theorem L8 (w:World) (os:OsState):er bz w 11 an 1 278 (zh w os) (piecesOf ((bd.drop 114).take 10) ev bL zi cG)=some (.next,qz w os,bL,qA):=by kernel_rfl
theorem L9 (w:World) (os:OsState):er bz (w.withFollow "special-get-raises" false) 11 an 1 378 (qz (w.withFollow "special-get-raises" false) os) (piecesOf ((bd.drop 124).take 1) ev bL qA cG)=some (.next,mJ (w.withFollow "special-get-raises" false) os,bL,mK):=by kernel_rfl
theorem Ma (w:World) (os:OsState):er bz (w.withFollow "special-get-raises" true) 11 an 1 378 (qz (w.withFollow "special-get-raises" true) os) (piecesOf ((bd.drop 124).take 1) ev bL qA cG)=some (.next,mJ (w.withFollow "special-get-raises" true) os,bL,mK):=by kernel_rfl
theorem Mb (w:World) (os:OsState):er bz w 11 an 1 378 (qz w os) (piecesOf ((bd.drop 124).take 1) ev bL qA cG)=some (.next,mJ w os,bL,mK):=byRow2 "special-get-raises" (P:=fun w=>er bz w 11 an 1 378 (qz w os) (piecesOf ((bd.drop 124).take 1) ev bL qA cG)=some (.next,mJ w os,bL,mK)) (fun w=>L9 w os) (fun w=>Ma w os) w
theorem Mc (w:World) (os:OsState):er bz (w.withFollow "special-get-raises" false) 11 an 1 149 (mJ (w.withFollow "special-get-raises" false) os) (piecesOf ((bd.drop 125).take 2) ev bL mK cG)=some (.next,qB (w.withFollow "special-get-raises" false) os,bL,qC):=by kernel_rfl
theorem Md (w:World) (os:OsState):er bz (w.withFollow "special-get-raises" true) 11 an 1 149 (mJ (w.withFollow "special-get-raises" true) os) (piecesOf ((bd.drop 125).take 2) ev bL mK cG)=some (.next,qB (w.withFollow "special-get-raises" true) os,bL,qC):=by kernel_rfl
theorem Me (w:World) (os:OsState):er bz w 11 an 1 149 (mJ w os) (piecesOf ((bd.drop 125).take 2) ev bL mK cG)=some (.next,qB w os,bL,qC):=byRow2 "special-get-raises" (P:=fun w=>er bz w 11 an 1 149 (mJ w os) (piecesOf ((bd.drop 125).take 2) ev bL mK cG)=some (.next,qB w os,bL,qC)) (fun w=>Mc w os) (fun w=>Md w os) w
theorem Mf (w:World) (os:OsState):er bz w 11 an 1 681 (qB w os) (piecesOf ((bd.drop 127).take 1) ev bL qC cG)=some (.next,zj w os,bL,zk):=by kernel_rfl
theorem Mg (w:World) (os:OsState):er bz w 11 an 1 24 (zj w os) (piecesOf ((bd.drop 128).take 2) ev bL zk cG)=some (.next,zl w os,bL,zm):=by kernel_rfl
theorem Mh (w:World) (os:OsState):er bz w 11 an 1 894 (zl w os) (piecesOf ((bd.drop 130).take 1) ev bL zm cG)=some (.next,zo w os,bL,zp):=by kernel_rfl
theorem Mi (w:World) (os:OsState):er bz w 11 an 1 392 (zo w os) (piecesOf ((bd.drop 131).take 8) ev bL zp cG)=some (.next,zq w os,bL,zr):=by kernel_rfl
theorem Mj (w:World) (os:OsState):er bz w 11 an 1 317 (zq w os) (piecesOf ((bd.drop 139).take 10) ev bL zr cG)=some (.next,fm w os,bL,DH):=by kernel_rfl
noncomputable def s6:List Str:=((DF.drop 8).take 138).map fun x=>x.1
noncomputable def j7 (p:Params):Heap:=⟨⟨hl p⟩,lf⟩
theorem DI (p:Params):absHeap (full p) 955 lf=j7 p:=by kernel_rfl
noncomputable def lG:Program:={bz with main:={bz.main with body:=bd.drop 148}}
theorem conv (w:World) {n:Nat}{S aT:SharedT}{t:Thread}{r:Code×Pos}
 (h:er bz w 11 an 1 n S t=some (.next,aT,r)):segRun treeTable bz w 11 an 1 n S.abs t=some (.next,aT.abs,r):=by
 have ao : @segRunT=PySem.W.Fast.tw10110043849684766642:=PySem.W.Fast.te10110043849684766642
 have aC:treeTable=PySem.W.Fast.tw14364793385576792824:=PySem.W.Fast.te14364793385576792824
 have h' : segRunT treeTable bz w 11 an 1 n S t=some (.next,aT,r):=by rw[ao,aC];exact h
 exact segRun_of h'
theorem gn (w:World) {n N a j:Nat}{S aT:SharedT}{R:Shared}{pos pos' : Pos}
 (h:er bz w 11 an 1 n S (piecesOf ((bd.drop a).take j) ev bL pos cG)=some (.next,aT,bL,pos'))
 (r:topRun treeTable bz w 11 an N aT.abs (restOf (bd.drop (a+j)) ev bL pos' cG)=some R) :
 topRun treeTable bz w 11 an (n+N) S.abs (restOf (bd.drop a) ev bL pos cG)=some R:=by
 have e:bd.drop a=(bd.drop a).take j++bd.drop (a+j):=by
  rw[←List.drop_drop];exact (List.take_append_drop j (bd.drop a)).symm
 rw[e]
 exact piece_app (conv w h) r
noncomputable def DJ:Nat:=2
noncomputable def DK:Nat:=317+DJ
noncomputable def DL:Nat:=392+DK
noncomputable def DM:Nat:=894+DL
noncomputable def DN:Nat:=24+DM
noncomputable def DO:Nat:=681+DN
noncomputable def DP:Nat:=149+DO
noncomputable def DQ:Nat:=378+DP
noncomputable def DR:Nat:=278+DQ
noncomputable def DS:Nat:=387+DR
noncomputable def DT:Nat:=425+DS
noncomputable def DU:Nat:=117+DT
noncomputable def DV:Nat:=10+DU
noncomputable def DW:Nat:=583+DV
noncomputable def vM:Nat:=40+DW
noncomputable def hE:Nat:=708+vM
noncomputable def ey:Nat:=40+hE
noncomputable def dN:Nat:=384+ey
noncomputable def c4:Nat:=251+dN
noncomputable def a4:Nat:=521+c4
noncomputable def aG:Nat:=388+a4
noncomputable def nH:Nat:=399+aG
theorem Mk (w:World) (os:OsState):topRun treeTable bz w 11 an DJ (fm w os).abs (restOf (bd.drop 149) ev bL DH cG)=some (fm w os).abs:=by
 have e:bd.drop 149=[]:=by kernel_rfl
 rw[e];exact piece_nil rfl
theorem Ml (w:World) (os:OsState):topRun treeTable bz w 11 an DK (zq w os).abs (restOf (bd.drop 139) ev bL zr cG)=some (fm w os).abs:=gn w (j:=10) (Mj w os) (Mk w os)
theorem Mm (w:World) (os:OsState):topRun treeTable bz w 11 an DL (zo w os).abs (restOf (bd.drop 131) ev bL zp cG)=some (fm w os).abs:=gn w (j:=8) (Mi w os) (Ml w os)
theorem Mn (w:World) (os:OsState):topRun treeTable bz w 11 an DM (zl w os).abs (restOf (bd.drop 130) ev bL zm cG)=some (fm w os).abs:=gn w (j:=1) (Mh w os) (Mm w os)
theorem Mo (w:World) (os:OsState):topRun treeTable bz w 11 an DN (zj w os).abs (restOf (bd.drop 128) ev bL zk cG)=some (fm w os).abs:=gn w (j:=2) (Mg w os) (Mn w os)
theorem Mp (w:World) (os:OsState):topRun treeTable bz w 11 an DO (qB w os).abs (restOf (bd.drop 127) ev bL qC cG)=some (fm w os).abs:=gn w (j:=1) (Mf w os) (Mo w os)
theorem Mq (w:World) (os:OsState):topRun treeTable bz w 11 an DP (mJ w os).abs (restOf (bd.drop 125) ev bL mK cG)=some (fm w os).abs:=gn w (j:=2) (Me w os) (Mp w os)
theorem Mr (w:World) (os:OsState):topRun treeTable bz w 11 an DQ (qz w os).abs (restOf (bd.drop 124) ev bL qA cG)=some (fm w os).abs:=gn w (j:=1) (Mb w os) (Mq w os)
theorem Ms (w:World) (os:OsState):topRun treeTable bz w 11 an DR (zh w os).abs (restOf (bd.drop 114) ev bL zi cG)=some (fm w os).abs:=gn w (j:=10) (L8 w os) (Mr w os)
theorem Mt (w:World) (os:OsState):topRun treeTable bz w 11 an DS (zf w os).abs (restOf (bd.drop 104) ev bL zg cG)=some (fm w os).abs:=gn w (j:=10) (L7 w os) (Ms w os)
theorem Mu (w:World) (os:OsState):topRun treeTable bz w 11 an DT (qx w os).abs (restOf (bd.drop 103) ev bL qy cG)=some (fm w os).abs:=gn w (j:=1) (L6 w os) (Mt w os)
theorem Mv (w:World) (os:OsState):topRun treeTable bz w 11 an DU (lF w os).abs (restOf (bd.drop 101) ev bL qw cG)=some (fm w os).abs:=gn w (j:=2) (L5 w os) (Mu w os)
theorem Mw (w:World) (os:OsState):topRun treeTable bz w 11 an DV (zd w os).abs (restOf (bd.drop 100) ev bL ze cG)=some (fm w os).abs:=gn w (j:=1) (L2 w os) (Mv w os)
theorem Mx (w:World) (os:OsState):topRun treeTable bz w 11 an DW (zb w os).abs (restOf (bd.drop 99) ev bL zc cG)=some (fm w os).abs:=gn w (j:=1) (L1 w os) (Mw w os)
theorem My (w:World) (os:OsState):topRun treeTable bz w 11 an vM (y9 w os).abs (restOf (bd.drop 97) ev bL za cG)=some (fm w os).abs:=gn w (j:=2) (L0 w os) (Mx w os)
theorem Mz (w:World) (os:OsState):topRun treeTable bz w 11 an hE (sZ w os).abs (restOf (bd.drop 96) ev bL y8 cG)=some (fm w os).abs:=gn w (j:=1) (LZ w os) (My w os)
theorem MA (w:World) (os:OsState):topRun treeTable bz w 11 an ey (s5 w os).abs (restOf (bd.drop 94) ev bL y7 cG)=some (fm w os).abs:=gn w (j:=2) (LY w os) (Mz w os)
theorem MB (w:World) (os:OsState):topRun treeTable bz w 11 an dN (s4 w os).abs (restOf (bd.drop 88) ev bL y6 cG)=some (fm w os).abs:=gn w (j:=6) (LX w os) (MA w os)
theorem MC (w:World) (os:OsState):topRun treeTable bz w 11 an c4 (s3 w os).abs (restOf (bd.drop 86) ev bL y5 cG)=some (fm w os).abs:=gn w (j:=2) (LW w os) (MB w os)
theorem MD (w:World) (os:OsState):topRun treeTable bz w 11 an a4 (s2 w os).abs (restOf (bd.drop 85) ev bL y4 cG)=some (fm w os).abs:=gn w (j:=1) (LV w os) (MC w os)
theorem ME (w:World) (os:OsState):topRun treeTable bz w 11 an aG (s1 w os).abs (restOf (bd.drop 42) ev bL y3 cG)=some (fm w os).abs:=gn w (j:=43) (LU w os) (MD w os)
theorem MF (w:World) (os:OsState):topRun treeTable bz w 11 an nH (s0 w os).abs (restOf (bd.drop 0) ev bL qv cG)=some (fm w os).abs:=gn w (j:=42) (LS w os) (ME w os)
theorem pre (w:World) (os:OsState):PySem.W.Fast.tw15667345088766844465 PySem.W.Fast.tw14364793385576792824 bz w 11 an 12 ⟨boot_heap w.params,⟨[]⟩,boot_drawn,boot_toks,os⟩ (topStub bz)=some ((s0 w os).abs,⟨PySem.W.Fast.tw11892475500146522536 PySem.W.Fast.tw14364793385576792824 bL,bL,qv,cG⟩):=by kernel_rfl
theorem MG (w:World) (os:OsState):segRun treeTable bz w 11 an 1 1 (s0 w os).abs (blockOf bd ev bL qv cG)=some (.next,(s0 w os).abs,bL,qv):=by kernel_rfl
theorem run (w:World) (os:OsState):topRun treeTable bz w 11 an (12+(1+nH)) ⟨boot_heap w.params,⟨[]⟩,boot_drawn,boot_toks,os⟩ (topStub bz)=some ⟨j7 w.params,#[],eY,2027,os⟩:=by
 have ao : @topGo=PySem.W.Fast.tw15667345088766844465:=PySem.W.Fast.te15667345088766844465
 have aC:treeTable=PySem.W.Fast.tw14364793385576792824:=PySem.W.Fast.te14364793385576792824
 have cL : @denote=PySem.W.Fast.tw11892475500146522536:=PySem.W.Fast.te11892475500146522536
 have h:topGo treeTable bz w 11 an 12 ⟨boot_heap w.params,⟨[]⟩,boot_drawn,boot_toks,os⟩ (topStub bz)=some ((s0 w os).abs,⟨denote treeTable bL,bL,qv,cG⟩):=by rw[ao,cL,aC];exact pre w os
 have f:(fm w os).abs=⟨j7 w.params,#[],eY,2027,os⟩:=congrArg (fun x=>(⟨x,#[],eY,2027,os⟩:Shared)) ((show absHeap (DG w.params) 955 lf=absHeap (full w.params) 955 lf by kernel_rfl).trans (DI w.params))
 rw[←f]
 exact go_top h (piece_block (MG w os) (MF w os))
theorem MH (w:World):(fencedOpening treeTable bz w 20000).map (fun s=>(s.heap,s.gens,s.drawn,s.toks))=some (boot_heap w.params,Array.mk [],boot_drawn,boot_toks) :=
 boot_open (by kernel_rfl) (by decide) (fun s=>by kernel_rfl) w
theorem MI (w:World):((boot_heap w.params).isNs mainGlobals&&(Array.mk ([]:List GenState)).size == 0,(boot_heap w.params).objs.size,(boot_heap w.params).nsMap mainGlobals "__annotations__")=(true,11,an):=by
 have e : @Heap.nsMap=PySem.W.Fast.tw8920871248978507458:=PySem.W.Fast.te8920871248978507458
 rw[e];kernel_rfl
theorem MJ (P:Params):staticsOk [] (boot_heap P) (j7 P)=true:=by kernel_rfl
theorem MK (P:Params):namesBound bz (j7 P)=true:=by kernel_rfl
theorem ML (P:Params):laidKept (boot_heap P) (j7 P)=true:=by kernel_rfl
theorem MM (w:World) (os:OsState):PySem.W.Fast.tw4187177175401517315 lG s6 [] (fun _=>true) true ⟨j7 w.params,#[],eY,2027,os⟩=openGood lG s6:=by kernel_rfl
theorem MN:importedModules bz.main.body=[]:=by
 have e : @importedModules=PySem.W.Fast.tw5923862056798008813:=PySem.W.Fast.te5923862056798008813
 rw[e];kernel_rfl
theorem left:LeftO bz lG s6 (fun _=>true) (fun s=>s.heap) (fun w=>j7 w.params) 20000:=by
 refine LeftO.of_pieces (H₀:=boot_heap) (H₁:=j7) (gs₀:=⟨[]⟩) (gs₁:=#[]) (d₀:=boot_drawn) (d₁:=eY) (k₀:=boot_toks) (k₁:=2027) (m₀:=11) (ann:=an) (M:=12+(1+nH)) MH MI run (by kernel_rfl) (fun w=>?_)
 funext os
 have e : @openSeen=PySem.W.Fast.tw4187177175401517315:=PySem.W.Fast.te4187177175401517315
 rw[MN,MJ,MK,ML,e,MM]
 rfl
noncomputable abbrev ho:=PySem.Challenge.rw_pc0097_01
noncomputable def YP (w:World) (h:Heap):Prop:=∀ b o,(j7 w.params).get? b=some o→h.get? b=some o
theorem MO:(defOf lG "law").isSome=true:=by kernel_rfl
noncomputable def jo:DefRec×List (Str×Expr):=(defOf lG "law").get MO
theorem MP:defOf lG ho.row.name=some (jo.1,jo.2):=by kernel_rfl
theorem MQ:ho.row.prog.theDef ho.row.name=some (jo.1.params,jo.1.body,jo.1.scope):=by kernel_rfl
theorem MR:kwWritten? jo.1.params.kwonlyargs jo.1.params.kw_defaults=some jo.2:=by kernel_rfl
theorem MS:(PySem.W.Fast.tw11788848310118352699 bz.main&&((PySem.W.Fast.tw9807087744658564304 bz.main.body).isEmpty || PySem.W.Fast.tw12862048085361865435 (PySem.W.Fast.tw9807087744658564304 bz.main.body) bz.main.body))=true:=by kernel_rfl
theorem MT:PySem.W.Fast.tw8377067652309620493 bz=true:=by kernel_rfl
theorem MU:(PySem.W.R.allR (PySem.W.Fast.tw18344453789297297638 bz) fun n=>!PySem.W.Fast.tw3471404346716756564 PySem.W.Fast.tw14412699480532031325 n)=true:=by kernel_rfl
theorem MV:(!PySem.W.R.allR (PySem.W.Fast.tw5923862056798008813 bz.main.body) (PySem.W.Fast.tw3471404346716756564 PySem.W.Fast.tw17691160309236699985))=false:=by kernel_rfl
theorem MW:PySem.W.Fast.tw17119622794617984870 bz bz.main.body (fun x n=>PySem.W.Fast.tw17868728402115742887 n)=true:=by kernel_rfl
theorem MX:PySem.W.R.filterR (PySem.W.Fast.tw13343964577679436407 bz bz.main.body) [⟨⟨[118,97,114,115]⟩⟩,⟨⟨[100,105,114]⟩⟩,⟨⟨[108,111,99,97,108,115]⟩⟩]=[]:=by kernel_rfl
theorem MY:PySem.W.Fast.tw8326940854005059898 {strict:=false,foot:=none,bare:=[]} bz.main.body=true:=by kernel_rfl
theorem MZ {α β gD:Type}(f:α→β→gD) {a a' : α}{b b' : β}(h1:a=a') (af:b=b'):f a b=f a' b':=by subst h1;subst af;rfl
theorem M0:looksOpen bz=true:=by
 rw[show @looksOpen=PySem.W.Fast.tw12908688711261696721 from PySem.W.Fast.te12908688711261696721]
 delta PySem.W.Fast.tw12908688711261696721
 exact look_both (look_both (look_both (look_both MS MT) MU) ((MZ (fun a b=>PySem.W.Fast.tw8326940854005059898 {strict:=a,foot:=none,bare:=b} bz.main.body) MV MX).trans MY)) MW
theorem part0:ho.row.partSaid=true:=by
 unfold OpenRow.partSaid
 rw[show looksOpen ho.row.prog=true from M0]
 kernel_rfl
theorem DX:ho.row.wellSaid=true:=by
 unfold OpenRow.wellSaid
 rw[part0]
 kernel_rfl
theorem M1:ho.wellSaid=true:=by
 rw[show @OpenLaw.wellSaid=PySem.W.Fast.tw9446332074065402090 from PySem.W.Fast.te9446332074065402090]
 delta PySem.W.Fast.tw9446332074065402090
 iterate 18 (refine look_both ?_ ?_)
 ·rw[show PySem.W.Fast.tw17960256430627541270 = @OpenRow.wellSaid from PySem.W.Fast.te17960256430627541270.symm,show PySem.W.Fast.tw2368527892694137696 = @OpenLaw.row from PySem.W.Fast.te2368527892694137696.symm]
  exact DX
 all_goals kernel_rfl
theorem M3:chainsOk lG=true:=by kernel_rfl
theorem M4:bearImports bd=false:=by kernel_rfl
theorem M5:(opening bz).tameTopW=true:=by kernel_rfl
theorem M6:frees ho.row.toRowW=true:=by kernel_rfl
theorem M7:opensWell bz=true:=by
 show ((opening bz).tameTopW&&!bearImports bd)=true
 rw[M4,M5];rfl
theorem M8:(chainsOk lG&&opensWell ho.row.prog&&(frees ho.row.toRowW&&ho.row.within.isEmpty))=true :=
 look_both (look_both M3 M7) (look_both M6 rfl)
theorem M9:bz.tablesWhole=true:=by
 delta Program.tablesWhole TablesWhole.wProgram TablesWhole.holds Scope.bears
 rw[show @TablesWhole.wModule = @PySem.W.Fast.tw6116379765354995101 from PySem.W.Fast.te6116379765354995101,show @instDecidableEqStr=PySem.W.Fast.sDec from PySem.W.Fast.sDec_eq]
 kernel_rfl
theorem Na:ho.row.prog.bare:=⟨rfl,rfl,rfl,rfl,rfl,M9⟩
theorem Nb:ho.row.toRowW.promised:=⟨[.list [.int 3,.int 1]],by decide +kernel,by decide +kernel⟩
theorem head (call:WalkO lG s6 (fun _ _=>True) YP ho.row.toRowW jo.1 jo.2 fun f vs=>PySem.call f vs):ho.Holds :=
 holds_law M1 fun _=>holds_open (Xt:=fun _=>true) (XP:=fun _ _=>True) (YP:=YP) left (fun w s (e:s.heap=j7 w.params)=>e▸fun _ _ h=>h) (fun w h h' y k b o e=>k b o (y b o e)) (fun _ _=>trivial) (fun _ _ _ _ _=>trivial)
  MP MQ MR (fun _ _=>recFacts_nil rfl) (by kernel_rfl) DX M8 Na Nb call
theorem ba {α:Type}{P:Prop}{x:α}(h:none=some x):P:=nomatch h
theorem ez {P:Prop}(h:true=false):P:=nomatch h
theorem dv {P:Prop}(h:false=true):P:=nomatch h
theorem cb {α:Type}{a b:α}(h:some a=some b):a=b:=Option.some.inj h
theorem DY {α β:Type}{a a' : α}{b b' : β}(h:some (a,b)=some (a',b')):a=a'∧b=b':=Prod.mk.inj (Option.some.inj h)
noncomputable def oZ (o:Obj):Bool:=match o with
 |⟨.none,_,.fields _,_⟩=>false
 |⟨_,_,.freed,_⟩=>false
 |_=>true
theorem Nc {o:Obj}(h:oZ o=true):alive o=some o:=by
 obtain ⟨c,d,zt,fP⟩:=o
 cases zt <;> first |rfl |(cases c <;> cases h)
noncomputable def eP (w:World) (h:Heap):Prop:=∀ a o,(full w.params).get a=some o→oZ o=true→Nat.blt a 955=true→h.get? a=some o
theorem Nd {w:World}{h:Heap}(y:∀ b o,(absHeap (full w.params) 955 lf).get? b=some o→h.get? b=some o):eP w h :=
 fun a o e k l=>y a o ((abs_get (Nat.le_of_ble_eq_true l) e).trans (Nc k))
theorem Nf {K:Frag}{h:Heap}{a:Addr}{o:Obj}(e:h.get? a=some o) (X:K.In h):Frag.In ((a,o)::K) h:=by
 intro b aa q
 rw[List.lookup_cons] at q
 cases z:(b == a) with
 |true =>
  rw[z] at q
  cases q
  have:b=a:=by simpa using z
  subst this
  exact e
 |false=>rw[z] at q;exact X b aa q
theorem Ng {h:Heap}:Frag.In [] h:=fun _ _ e=>by cases e
noncomputable abbrev bo:Value→Shared→Prop:=fun _ _=>False
noncomputable abbrev aU (w:World):Model:=model bz w
noncomputable def Nh:Flow→Value |.ret v=>v |_=>.none
theorem zu {w:World}{h:Heap}(X:eP w h):h.NoLimit:=by
 refine ⟨fun n=>nsFind _ n,⟨_,_,_,X 2 (dR w.params) (by kernel_rfl) (by kernel_rfl) (by kernel_rfl),rfl,?_,fun _=>rfl⟩,?_⟩
 ·intro e he
  have:e∈[k w.params "type.__subclasses__.Exception.0" 731 (.int 125 0),k w.params "type.__subclasses__.Exception.n" 732 (.int 1 0)]:=Array.mem_toList_iff.mpr he
  simp only[List.mem_cons,List.not_mem_nil,or_false] at this
  rcases this with rfl |rfl <;> exact ⟨_,_,rfl⟩
 ·kernel_rfl
noncomputable def Ni (aD:Array DictEntry):Bool:=aD.toList.all fun e=>match e.key with |.str _ _=>true |_=>false
theorem DZ {aD:Array DictEntry}(h:Ni aD=true):StrKeys aD:=by
 intro e he
 have z:=List.all_eq_true.mp h e (Array.mem_toList_iff.mpr he)
 cases ar:e.key with
 |str s t=>exact ⟨s,t,rfl⟩
 |_=>rw[ar] at z;cases z
noncomputable def qD (o:Obj):Array DictEntry:=match o.data with |.dict aD _=>aD |_=>#[]
noncomputable def gl (w:World) (x:Str):Option Value:=nsFind (qD (fO w.params)) x
noncomputable def lH (w:World) (x:Str):Option Value:=nsFind (qD (o0 w.params)) x
theorem vN {w:World}{h:Heap}(X:eP w h):h.Ns 3 (gl w) :=
 ⟨fO w.params,qD (fO w.params),_,X 3 (fO w.params) (by kernel_rfl) (by kernel_rfl) (by kernel_rfl),rfl,DZ (by kernel_rfl),fun _=>rfl⟩
theorem Nj {w:World}{h:Heap}(X:eP w h):h.Ns 0 (lH w) :=
 ⟨o0 w.params,qD (o0 w.params),_,X 0 (o0 w.params) (by kernel_rfl) (by kernel_rfl) (by kernel_rfl),rfl,DZ (by kernel_rfl),fun _=>rfl⟩
section
variable {w:World}{A:Around}{s:Shared}{g:Heap}{L f:Addr}{ls:List (Str×Value)}{l:List (Addr×Obj)}{fd:FuncData}{x:Str}{v:Value}{pos:Pos}
noncomputable abbrev s7 (vs:List Value) (n:Nat):Obj:={cls:=.type "list",data:=.seq vs.toArray n}
theorem isList {h:Heap}{a:Addr}{vs:List Value}{n:Nat}(e:h.get? a=some (s7 vs n)):h.IsList a vs.toArray:=⟨_,e,rfl,n,rfl⟩
end
section
variable {w:World}{A:Around}{s:Shared}{g h:Heap}{L a:Addr}{ls:List (Str×Value)}{l:List (Addr×Obj)}{vs:List Value}{n:Nat}{v:Value}
theorem Nk (f:Array Value→Array Value) (zv:List Value) (e:f vs.toArray=zv.toArray):Obj.mapSeq f (s7 vs n)=s7 zv (if zv.length=vs.length then n else n+1):=by
 simp only[Obj.mapSeq,e,List.size_toArray,beq_iff_eq]
theorem zw {name:Str}{id:String}{c0:Sem Bool}{Q:Value×List Value→Shared→Prop}(c8:s.heap.get? a=some (s7 vs n)) (slot:Slot "list" name id) (Nl:typeOf (.builtin id)=pure (.type "method_descriptor"))
 (h:Q (.builtin id,[.ref a]) s):wpAny (aU w) A (getMethod (.ref a) name c0) Q bo s :=
 getMethod_builtin (isList c8).typeIs PySem.F.plainAttrs_list slot Nl (fun a e=>by cases e;exact ⟨_,c8,rfl⟩) h
end
noncomputable def cj:FuncBody→List Stmt
 |.stmts l=>l
 |_=>[]
noncomputable def zx:FuncData:=cc (cst 88 0) "Unit.__init__" 3 .none (.str "js.codes" 194) (.ref 141)
noncomputable def Nm:{l:List Stmt // zx.body=.stmts l}:=⟨cj zx.body,by kernel_rfl⟩
noncomputable def zy:FuncData:=cc (st 89) "op_name" 3 .none (.str "js.codes" 194) (.ref 155)
noncomputable def Nn:{l:List Stmt // zy.body=.stmts l}:=⟨cj zy.body,by kernel_rfl⟩
noncomputable def zz:FuncData:=cc (st 90) "arg_kind" 3 .none (.str "js.codes" 194) (.ref 162)
noncomputable def Np:{l:List Stmt // zz.body=.stmts l}:=⟨cj zz.body,by kernel_rfl⟩
noncomputable def zA:FuncData:=cc (st 91) "taken_count" 3 .none (.str "js.codes" 194) (.ref 169)
noncomputable def Nq:{l:List Stmt // zA.body=.stmts l}:=⟨cj zA.body,by kernel_rfl⟩
noncomputable def zB:FuncData:=cc (st 92) "put_count" 3 .none (.str "js.codes" 194) (.ref 176)
noncomputable def Nr:{l:List Stmt // zB.body=.stmts l}:=⟨cj zB.body,by kernel_rfl⟩
noncomputable def zC:FuncData:=cc (st 93) "is_last" 3 .none (.str "js.codes" 194) (.ref 183)
noncomputable def Nt:{l:List Stmt // zC.body=.stmts l}:=⟨cj zC.body,by kernel_rfl⟩
noncomputable def zD:FuncData:=cc (st 94) "same_constant" 3 .none (.str "js.codes" 194) (.ref 190)
noncomputable def Nu:{l:List Stmt // zD.body=.stmts l}:=⟨cj zD.body,by kernel_rfl⟩
noncomputable def zE:FuncData:=cc (cst 96 0) "Code.__init__" 3 .none (.str "js.assembler" 823) (.ref 204)
noncomputable def Nv:{l:List Stmt // zE.body=.stmts l}:=⟨cj zE.body,by kernel_rfl⟩
noncomputable def zF:FuncData:=cc (cst 96 1) "Code.here" 3 .none (.str "js.assembler" 823) (.ref 211)
noncomputable def Nw:{l:List Stmt // zF.body=.stmts l}:=⟨cj zF.body,by kernel_rfl⟩
noncomputable def qE:FuncData:=cc (cst 96 2) "Code.emit" 3 (.ref 213) (.str "js.assembler" 823) (.ref 219)
noncomputable def D0:{l:List Stmt // qE.body=.stmts l}:=⟨cj qE.body,by kernel_rfl⟩
noncomputable def zG:FuncData:=cc (cst 96 3) "Code.label" 3 .none (.str "js.assembler" 823) (.ref 226)
noncomputable def Nx:{l:List Stmt // zG.body=.stmts l}:=⟨cj zG.body,by kernel_rfl⟩
noncomputable def vO:FuncData:=cc (cst 96 4) "Code.place" 3 .none (.str "js.assembler" 823) (.ref 233)
noncomputable def D1:{l:List Stmt // vO.body=.stmts l}:=⟨cj vO.body,by kernel_rfl⟩
noncomputable def vP:FuncData:=cc (cst 96 5) "Code.jump" 3 .none (.str "js.assembler" 823) (.ref 240)
noncomputable def D2:{l:List Stmt // vP.body=.stmts l}:=⟨cj vP.body,by kernel_rfl⟩
noncomputable def kQ:FuncData:=cc (cst 96 6) "Code.const" 3 .none (.str "js.assembler" 823) (.ref 247)
noncomputable def kR:{l:List Stmt // kQ.body=.stmts l}:=⟨cj kQ.body,by kernel_rfl⟩
noncomputable def zH:FuncData:=cc (cst 96 9) "Code.inner" 3 .none (.str "js.assembler" 823) (.ref 268)
noncomputable def Ny:{l:List Stmt // zH.body=.stmts l}:=⟨cj zH.body,by kernel_rfl⟩
noncomputable def zI:FuncData:=cc (cst 96 10) "Code.handler" 3 .none (.str "js.assembler" 823) (.ref 275)
noncomputable def Nz:{l:List Stmt // zI.body=.stmts l}:=⟨cj zI.body,by kernel_rfl⟩
noncomputable def vQ:FuncData:=cc (cst 96 11) "Code.place_of" 3 .none (.str "js.assembler" 823) (.ref 282)
noncomputable def D3:{l:List Stmt // vQ.body=.stmts l}:=⟨cj vQ.body,by kernel_rfl⟩
noncomputable def s8:FuncData:=cc (cst 96 12) "Code.placed_code" 3 .none (.str "js.assembler" 823) (.ref 289)
noncomputable def j8:{l:List Stmt // s8.body=.stmts l}:=⟨cj s8.body,by kernel_rfl⟩
noncomputable def s9:FuncData:=cc (cst 96 13) "Code.placed_handlers" 3 .none (.str "js.assembler" 823) (.ref 296)
noncomputable def nI:{l:List Stmt // s9.body=.stmts l}:=⟨cj s9.body,by kernel_rfl⟩
noncomputable def ta:FuncData:=cc (cst 96 14) "Code.unit" 3 .none (.str "js.assembler" 823) (.ref 303)
noncomputable def zJ:{l:List Stmt // ta.body=.stmts l}:=⟨cj ta.body,by kernel_rfl⟩
noncomputable def zK:FuncData:=cc (st 98) "depth_at_target" 3 .none (.str "js.comp_code" 1002) (.ref 317)
noncomputable def NA:{l:List Stmt // zK.body=.stmts l}:=⟨cj zK.body,by kernel_rfl⟩
noncomputable def zL:FuncData:=cc (cst 99 0) "OpenCode.__init__" 3 .none (.str "js.comp_code" 1002) (.ref 331)
noncomputable def NB:{l:List Stmt // zL.body=.stmts l}:=⟨cj zL.body,by kernel_rfl⟩
noncomputable def zM:FuncData:=cc (cst 99 1) "OpenCode.is_open" 3 .none (.str "js.comp_code" 1002) (.ref 338)
noncomputable def NC:{l:List Stmt // zM.body=.stmts l}:=⟨cj zM.body,by kernel_rfl⟩
noncomputable def zN:FuncData:=cc (cst 99 2) "OpenCode.set_line" 3 .none (.str "js.comp_code" 1002) (.ref 345)
noncomputable def ND:{l:List Stmt // zN.body=.stmts l}:=⟨cj zN.body,by kernel_rfl⟩
noncomputable def zO:FuncData:=cc (cst 99 3) "OpenCode.new_label" 3 .none (.str "js.comp_code" 1002) (.ref 352)
noncomputable def NF:{l:List Stmt // zO.body=.stmts l}:=⟨cj zO.body,by kernel_rfl⟩
noncomputable def tb:FuncData:=cc (cst 99 4) "OpenCode.meet" 3 .none (.str "js.comp_code" 1002) (.ref 359)
noncomputable def zP:{l:List Stmt // tb.body=.stmts l}:=⟨cj tb.body,by kernel_rfl⟩
noncomputable def qF:FuncData:=cc (cst 99 5) "OpenCode.add" 3 (.ref 361) (.str "js.comp_code" 1002) (.ref 367)
noncomputable def D4:{l:List Stmt // qF.body=.stmts l}:=⟨cj qF.body,by kernel_rfl⟩
noncomputable def vR:FuncData:=cc (cst 99 6) "OpenCode.add_const" 3 .none (.str "js.comp_code" 1002) (.ref 374)
noncomputable def D5:{l:List Stmt // vR.body=.stmts l}:=⟨cj vR.body,by kernel_rfl⟩
noncomputable def vS:FuncData:=cc (cst 99 7) "OpenCode.add_named" 3 .none (.str "js.comp_code" 1002) (.ref 381)
noncomputable def D6:{l:List Stmt // vS.body=.stmts l}:=⟨cj vS.body,by kernel_rfl⟩
noncomputable def qG:FuncData:=cc (cst 99 8) "OpenCode.jump_to" 3 .none (.str "js.comp_code" 1002) (.ref 388)
noncomputable def vT:{l:List Stmt // qG.body=.stmts l}:=⟨cj qG.body,by kernel_rfl⟩
noncomputable def tc:FuncData:=cc (cst 99 9) "OpenCode.stand" 3 .none (.str "js.comp_code" 1002) (.ref 395)
noncomputable def zQ:{l:List Stmt // tc.body=.stmts l}:=⟨cj tc.body,by kernel_rfl⟩
noncomputable def vU:FuncData:=cc (cst 99 10) "OpenCode.enter" 3 .none (.str "js.comp_code" 1002) (.ref 402)
noncomputable def D7:{l:List Stmt // vU.body=.stmts l}:=⟨cj vU.body,by kernel_rfl⟩
noncomputable def td:FuncData:=cc (cst 99 11) "OpenCode.mark" 3 .none (.str "js.comp_code" 1002) (.ref 409)
noncomputable def zR:{l:List Stmt // td.body=.stmts l}:=⟨cj td.body,by kernel_rfl⟩
noncomputable def zS:FuncData:=cc (cst 103 0) "CompBase.__init__" 3 .none (.str "js.comp_base" 1136) (.ref 432)
noncomputable def NG:{l:List Stmt // zS.body=.stmts l}:=⟨cj zS.body,by kernel_rfl⟩
noncomputable def qH:FuncData:=cc (cst 103 2) "CompBase.get_name" 3 .none (.str "js.comp_base" 1136) (.ref 446)
noncomputable def vV:{l:List Stmt // qH.body=.stmts l}:=⟨cj qH.body,by kernel_rfl⟩
noncomputable def qI:FuncData:=cc (cst 103 3) "CompBase.set_place" 3 .none (.str "js.comp_base" 1136) (.ref 453)
noncomputable def vW:{l:List Stmt // qI.body=.stmts l}:=⟨cj qI.body,by kernel_rfl⟩
noncomputable def qJ:FuncData:=cc (cst 103 4) "CompBase.set_name" 3 .none (.str "js.comp_base" 1136) (.ref 460)
noncomputable def vX:{l:List Stmt // qJ.body=.stmts l}:=⟨cj qJ.body,by kernel_rfl⟩
noncomputable def vY:FuncData:=cc (cst 111 0) "Control.__init__" 3 .none (.str "js.ways" 1239) (.ref 495)
noncomputable def D8:{l:List Stmt // vY.body=.stmts l}:=⟨cj vY.body,by kernel_rfl⟩
noncomputable def vZ:FuncData:=cc (st 119) "lay_branch" 3 .none (.str "js.jumps" 1351) (.ref 556)
noncomputable def D9:{l:List Stmt // vZ.body=.stmts l}:=⟨cj vZ.body,by kernel_rfl⟩
noncomputable def o1:FuncData:=cc (cst 127 1) "CompExpr.value" 3 .none (.str "js.comp_expr" 1404) (.ref 600)
noncomputable def te:{l:List Stmt // o1.body=.stmts l}:=⟨cj o1.body,by kernel_rfl⟩
noncomputable def v3:FuncData:=cc (cst 127 2) "CompExpr.other_value" 3 .none (.str "js.comp_expr" 1404) (.ref 607)
noncomputable def Ea:{l:List Stmt // v3.body=.stmts l}:=⟨cj v3.body,by kernel_rfl⟩
noncomputable def v5:FuncData:=cc (cst 127 4) "CompExpr.closure" 3 .none (.str "js.comp_expr" 1404) (.ref 621)
noncomputable def Eb:{l:List Stmt // v5.body=.stmts l}:=⟨cj v5.body,by kernel_rfl⟩
noncomputable def v7:FuncData:=cc (cst 127 8) "CompExpr.element" 3 .none (.str "js.comp_expr" 1404) (.ref 649)
noncomputable def Ec:{l:List Stmt // v7.body=.stmts l}:=⟨cj v7.body,by kernel_rfl⟩
noncomputable def tf:FuncData:=cc (cst 130 0) "CompStmt.statements" 3 .none (.str "js.comp_stmt" 1615) (.ref 704)
noncomputable def o2:{l:List Stmt // tf.body=.stmts l}:=⟨cj tf.body,by kernel_rfl⟩
noncomputable def tg:FuncData:=cc (cst 130 1) "CompStmt.statement" 3 .none (.str "js.comp_stmt" 1615) (.ref 711)
noncomputable def zT:{l:List Stmt // tg.body=.stmts l}:=⟨cj tg.body,by kernel_rfl⟩
noncomputable def v8:FuncData:=cc (cst 130 2) "CompStmt.drop_result" 3 .none (.str "js.comp_stmt" 1615) (.ref 718)
noncomputable def Ed:{l:List Stmt // v8.body=.stmts l}:=⟨cj v8.body,by kernel_rfl⟩
noncomputable def zU:FuncData:=cc (cst 130 3) "CompStmt.variables" 3 .none (.str "js.comp_stmt" 1615) (.ref 725)
noncomputable def NH:{l:List Stmt // zU.body=.stmts l}:=⟨cj zU.body,by kernel_rfl⟩
noncomputable def th:FuncData:=cc (cst 130 6) "CompStmt.loop" 3 .none (.str "js.comp_stmt" 1615) (.ref 746)
noncomputable def zV:{l:List Stmt // th.body=.stmts l}:=⟨cj th.body,by kernel_rfl⟩
noncomputable def v9:FuncData:=cc (cst 130 7) "CompStmt.body" 3 .none (.str "js.comp_stmt" 1615) (.ref 753)
noncomputable def Ee:{l:List Stmt // v9.body=.stmts l}:=⟨cj v9.body,by kernel_rfl⟩
noncomputable def wa:FuncData:=cc (cst 130 8) "CompStmt.while_loop" 3 .none (.str "js.comp_stmt" 1615) (.ref 760)
noncomputable def Ef:{l:List Stmt // wa.body=.stmts l}:=⟨cj wa.body,by kernel_rfl⟩
noncomputable def ti:FuncData:=cc (cst 130 11) "CompStmt.keys_loop" 3 .none (.str "js.comp_stmt" 1615) (.ref 781)
noncomputable def zW:{l:List Stmt // ti.body=.stmts l}:=⟨cj ti.body,by kernel_rfl⟩
noncomputable def nJ:FuncData:=cc (cst 130 12) "CompStmt.take_key" 3 .none (.str "js.comp_stmt" 1615) (.ref 788)
noncomputable def qK:{l:List Stmt // nJ.body=.stmts l}:=⟨cj nJ.body,by kernel_rfl⟩
noncomputable def tj:FuncData:=cc (cst 130 14) "CompStmt.guarded" 3 .none (.str "js.comp_stmt" 1615) (.ref 802)
noncomputable def zX:{l:List Stmt // tj.body=.stmts l}:=⟨cj tj.body,by kernel_rfl⟩
noncomputable def zY:FuncData:=cc (cst 130 15) "CompStmt.kept_result" 3 .none (.str "js.comp_stmt" 1615) (.ref 809)
noncomputable def NI:{l:List Stmt // zY.body=.stmts l}:=⟨cj zY.body,by kernel_rfl⟩
noncomputable def wb:FuncData:=cc (cst 130 16) "CompStmt.close_guarded" 3 .none (.str "js.comp_stmt" 1615) (.ref 816)
noncomputable def Eg:{l:List Stmt // wb.body=.stmts l}:=⟨cj wb.body,by kernel_rfl⟩
noncomputable def wc:FuncData:=cc (cst 130 17) "CompStmt.caught" 3 .none (.str "js.comp_stmt" 1615) (.ref 823)
noncomputable def Eh:{l:List Stmt // wc.body=.stmts l}:=⟨cj wc.body,by kernel_rfl⟩
noncomputable def wd:FuncData:=cc (cst 132 0) "Node.__init__" 3 .none (.str "js.nodes" 1849) (.ref 849)
noncomputable def Ei:{l:List Stmt // wd.body=.stmts l}:=⟨cj wd.body,by kernel_rfl⟩
noncomputable def we:FuncData:=cc (st 134) "_law_take" 3 .none (.str "law_pc0097_01" 1885) (.ref 863)
noncomputable def Ej:{l:List Stmt // we.body=.stmts l}:=⟨cj we.body,by kernel_rfl⟩
noncomputable def wg:FuncData:=cc (st 135) "_law_name" 3 .none (.str "law_pc0097_01" 1885) (.ref 870)
noncomputable def Ek:{l:List Stmt // wg.body=.stmts l}:=⟨cj wg.body,by kernel_rfl⟩
noncomputable def tk:FuncData:=cc (st 136) "_law_target" 3 .none (.str "law_pc0097_01" 1885) (.ref 877)
noncomputable def zZ:{l:List Stmt // tk.body=.stmts l}:=⟨cj tk.body,by kernel_rfl⟩
noncomputable def qL:FuncData:=cc (st 137) "_law_line" 3 .none (.str "law_pc0097_01" 1885) (.ref 882)
noncomputable def gT:{l:List Stmt // qL.body=.stmts l}:=⟨cj qL.body,by kernel_rfl⟩
noncomputable def tl:FuncData:=cc (st 138) "_law_view" 3 .none (.str "law_pc0097_01" 1885) (.ref 889)
noncomputable def gE:{l:List Stmt // tl.body=.stmts l}:=⟨cj tl.body,by kernel_rfl⟩
noncomputable def qM:FuncData:=cc (st 139) "_law_get" 3 .none (.str "law_pc0097_01" 1885) (.ref 896)
noncomputable def o3:{l:List Stmt // qM.body=.stmts l}:=⟨cj qM.body,by kernel_rfl⟩
noncomputable def tm:FuncData:=cc (st 140) "_law_set" 3 .none (.str "law_pc0097_01" 1885) (.ref 903)
noncomputable def o4:{l:List Stmt // tm.body=.stmts l}:=⟨cj tm.body,by kernel_rfl⟩
noncomputable def tn:FuncData:=cc (st 141) "_law_keyed" 3 .none (.str "law_pc0097_01" 1885) (.ref 910)
noncomputable def qN:{l:List Stmt // tn.body=.stmts l}:=⟨cj tn.body,by kernel_rfl⟩
noncomputable def tp:FuncData:=cc (st 142) "_law_do" 3 .none (.str "law_pc0097_01" 1885) (.ref 917)
noncomputable def lI:{l:List Stmt // tp.body=.stmts l}:=⟨cj tp.body,by kernel_rfl⟩
noncomputable def qO:FuncData:=cc (st 143) "_law_all" 3 .none (.str "law_pc0097_01" 1885) (.ref 924)
noncomputable def iV:{l:List Stmt // qO.body=.stmts l}:=⟨cj qO.body,by kernel_rfl⟩
noncomputable def qP:FuncData:=cc (st 144) "_law_plain" 3 .none (.str "law_pc0097_01" 1885) (.ref 929)
noncomputable def qQ:{l:List Stmt // qP.body=.stmts l}:=⟨cj qP.body,by kernel_rfl⟩
noncomputable def qR:FuncData:=cc (st 145) "_law_caught" 3 .none (.str "law_pc0097_01" 1885) (.ref 936)
noncomputable def lJ:{l:List Stmt // qR.body=.stmts l}:=⟨cj qR.body,by kernel_rfl⟩
noncomputable def tq:FuncData:=cc (st 146) "_law_run" 3 .none (.str "law_pc0097_01" 1885) (.ref 943)
noncomputable def qS:{l:List Stmt // tq.body=.stmts l}:=⟨cj tq.body,by kernel_rfl⟩
noncomputable def tr:FuncData:=cc (st 147) "_law_read" 3 .none (.str "law_pc0097_01" 1885) (.ref 948)
noncomputable def z0:{l:List Stmt // tr.body=.stmts l}:=⟨cj tr.body,by kernel_rfl⟩
noncomputable def qT:FuncData:=cc (st 148) "law" 3 .none (.str "law_pc0097_01" 1885) (.ref 953)
noncomputable def fB:{l:List Stmt // qT.body=.stmts l}:=⟨cj qT.body,by kernel_rfl⟩
noncomputable abbrev a9 (s:Shared) (h:Heap) (az:Nat):Shared:={s with heap:=h,toks:=az}
section
variable {α β gD jq:Type}{P:Prop}
theorem jr {o:Option α}{f:α→Option jq}{x:jq}(h:o.bind f=some x) (k:∀ a,o=some a→f a=some x→P):P:=match o,h,k with |some a,h,k=>k a rfl h
theorem lK {o:Option α}{f:α→jq}{x:jq}(h:o.map f=some x) (k:∀ a,o=some a→f a=x→P):P:=match o,h,k with |some a,h,k=>k a rfl (Option.some.inj h)
theorem qU {a a' : α}{b b' : β}(h:(a,b)=(a',b')):a=a'∧b=b':=Prod.mk.inj h
end
noncomputable def ae {α:Type}(P:α→Prop) (o:Option α):Prop:=∀ a,o=some a→P a
section
variable {α β:Type}{P:α→Prop}
theorem ae.no:ae P none:=fun _ h=>ba h
theorem ae.bO {a:α}(h:P a):ae P (some a):=fun _ e=>cb e▸h
theorem ae.b {o:Option β}{f:β→Option α}(h:∀ a,o=some a→ae P (f a)):ae P (o.bind f):=fun _ e=>jr e fun a h1 af=>h a h1 _ af
theorem ae.m {o:Option β}{f:β→α}(h:∀ a,o=some a→P (f a)):ae P (o.map f):=fun _ e=>lK e fun a h1 af=>af▸h a h1
theorem ae.c {b:Bool}{x y:Option α}(h1:b=true→ae P x) (af:b=false→ae P y):ae P (cond b x y):=match b,h1,af with |true,h1,_=>h1 rfl |false,_,af=>af rfl
theorem ae.de {b:Bool}{x:Option α}(h1:b=true→ae P x):ae P (cond b x none):=ae.c h1 fun _=>ae.no
theorem ae.cf {b:Bool}{x:Option α}(h1:b=false→ae P x):ae P (cond b none x):=ae.c (fun _=>ae.no) h1
theorem ae.i {p:Prop} [Decidable p] {x y:Option α}(h1:p→ae P x) (af : ¬ p→ae P y):ae P (if p then x else y):=by split;exact h1 ‹_›;exact af ‹_›
theorem ae.o {o:Option β}{f:β→Option α}{y:Option α}(h1:∀ a,o=some a→ae P (f a)) (af:o=none→ae P y):ae P (o.elim y f):=match o,h1,af with |some a,h1,_=>h1 a rfl |none,_,af=>af rfl
end
noncomputable def aL:Nat:=2 ^ 20
noncomputable abbrev ct:=Addr→Option Obj
noncomputable abbrev c5:=List (Addr×Addr)
noncomputable abbrev e8 (im im' : ct):Prop:=∀ a o,im a=some o→im' a=some o
noncomputable abbrev hp (ρ ρ' : c5):Prop:=∀(i:Nat) p,ρ[i]?=some p→ρ'[i]?=some p
inductive V where
 |none |bool (b:Bool) |int (i:Int) |str (s:Str)
 |tup (vs:List V) |aN (vs:List V) |fin (C:Addr) (fs:List (Str×V))
 |fd (fs:List (Str×V)) |ref (i:Nat) |obj (v:Value) |lam (ps:Arguments) (body:PySem.Expr) (sc:Scope) |fC (f:Addr) (self:V) |cx (a b:Int) |any
 deriving Inhabited
inductive aj where
 |list (vs:List V) |inst (C:Addr) (fs:List (Str×V)) |dict (fs:List (Str×V)) |cell (v:Option V) |tab (qual:Str) (ps:List (Nat×Nat)) |dead
 deriving Inhabited
structure ax where
 H:List aj
 aa:Prop
noncomputable abbrev fD (xs:List Value) (n:Nat):Obj:={cls:=.type "list",data:=.seq xs.toArray n}
noncomputable abbrev hF (xs:List Value) (n:Nat):Obj:={cls:=.type "tuple",data:=.seq xs.toArray n}
noncomputable def mL (im:ct) (c:Addr) (qual:Str):Prop:=∃ o vs t,im c=some o∧o.data=.fields vs∧vs[1]?=some (.str qual t)
noncomputable def qV (im:ct) (a:Addr) (ps:Arguments) (body:PySem.Expr) (sc:Scope):Prop:=∃ name qual pm c kS,im a=some {cls:=.type "function",data:=.func (kla_fn name qual ps body sc [] pm (.ref c) kS)}∧mL im c qual
mutual
inductive aF (P:Params) (im:ct) (ρ:c5):V→Value→Prop
 |none:aF P im ρ .none .none
 |bool (b):aF P im ρ (.bool b) (.bool b)
 |int (i t):aF P im ρ (.int i) (.int i t)
 |str (s t):PyData.strOk s=true→aF P im ρ (.str s) (.str s t)
 |tup {vs xs a n}:im a=some (hF xs n)→aW P im ρ vs xs→xs.length≤aL→aF P im ρ (.tup vs) (.ref a)
 |aN {vs xs a n}:im a=some (fD xs n)→aW P im ρ vs xs→xs.length≤aL→aF P im ρ (.aN vs) (.ref a)
 |fin {C d fs aD a n}:im a=some (instObj C d)→im d=some (dictOf aD n)→cT P im ρ fs aD→aF P im ρ (.fin C fs) (.ref a)
 |ref {i p}:ρ[i]?=some p→aF P im ρ (.ref i) (.ref p.1)
 |obj (v):aF P im ρ (.obj v) v
 |fd {fs aD a n}:im a=some (dictOf aD n)→cT P im ρ fs aD→aF P im ρ (.fd fs) (.ref a)
 |lam {ps body sc a}:qV im a ps body sc→aF P im ρ (.lam ps body sc) (.ref a)
 |fC {f self x a}:im a=some (methodObj (.ref f) x)→aF P im ρ self x→aF P im ρ (.fC f self) (.ref a)
 |cx {lo aM iw lL j9 a}:im a=some {cls:=.type "range",data:=.fields #[.int lo iw,.int aM lL,.int 1 j9]}→aF P im ρ (.cx lo aM) (.ref a)
 |any (v):aF P im ρ .any v
inductive aW (P:Params) (im:ct) (ρ:c5):List V→List Value→Prop
 |nil:aW P im ρ [] []
 |cons {v x vs xs}:aF P im ρ v x→aW P im ρ vs xs→aW P im ρ (v::vs) (x::xs)
inductive cT (P:Params) (im:ct) (ρ:c5):List (Str×V)→List DictEntry→Prop
 |nil:cT P im ρ [] []
 |cons {k t v x fs aD}:aF P im ρ v x→cT P im ρ fs aD→cT P im ρ ((k,v)::fs) (⟨PyData.keyHash P k,.str k t,x⟩::aD)
end
section
variable {P:Params}{im im' : ct}{ρ ρ' : c5}
theorem mL.mono {c:Addr}{q:Str}(h1:e8 im im'):mL im c q→mL im' c q
 |⟨o,vs,t,a,b⟩=>⟨o,vs,t,h1 _ _ a,b⟩
theorem qV.mono {a:Addr}{ps:Arguments}{body:PySem.Expr}{sc:Scope}(h1:e8 im im'):qV im a ps body sc→qV im' a ps body sc
 |⟨name,qual,pm,c,kS,x,y⟩=>⟨name,qual,pm,c,kS,h1 _ _ x,y.mono h1⟩
theorem aW.NJ {ys:List Value}(h:aW P im ρ [] ys):ys=[]:=by
 generalize e:([]:List V)=l at h
 exact aW.casesOn (motive_2:=fun l ys _=>[]=l→ys=[]) h (fun _=>rfl) (fun _ _ e=>nomatch e) e
theorem aW.NK {v:V}{vs:List V}{ys:List Value}(h:aW P im ρ (v::vs) ys):∃ y xs,aF P im ρ v y∧aW P im ρ vs xs∧ys=y::xs:=by
 generalize e:v::vs=l at h
 exact aW.casesOn (motive_2:=fun l ys _=>v::vs=l→∃ y xs,aF P im ρ v y∧aW P im ρ vs xs∧ys=y::xs) h (fun e=>nomatch e) (fun a b e=>by obtain ⟨rfl,rfl⟩:=List.cons.inj e;exact ⟨_,_,a,b,rfl⟩) e
section
variable {v u:V}{vs:List V}{x:Value}{ys:List Value}{G:Value→Prop}{hZ:List Value→Prop}
noncomputable def El (P:Params) (im:ct) (ρ:c5):V→Value→Prop
 |.none,x=>x=.none
 |.bool b,x=>x=.bool b
 |.int i,x=>∃ t,x=.int i t
 |.str s,x=>∃ t,PyData.strOk s=true∧x=.str s t
 |.tup vs,x=>∃ a xs n,im a=some (hF xs n)∧aW P im ρ vs xs∧xs.length≤aL∧x=.ref a
 |.aN vs,x=>∃ a xs n,im a=some (fD xs n)∧aW P im ρ vs xs∧xs.length≤aL∧x=.ref a
 |.fin C fs,x=>∃ d aD a n,im a=some (instObj C d)∧im d=some (dictOf aD n)∧cT P im ρ fs aD∧x=.ref a
 |.ref i,x=>∃ p,ρ[i]?=some p∧x=.ref p.1
 |.obj v,x=>x=v
 |.fd fs,x=>∃ aD a n,im a=some (dictOf aD n)∧cT P im ρ fs aD∧x=.ref a
 |.lam ps body sc,x=>∃ a,qV im a ps body sc∧x=.ref a
 |.fC f v,x=>∃ y a,im a=some (methodObj (.ref f) y)∧aF P im ρ v y∧x=.ref a
 |.cx lo aM,x=>∃ a iw lL j9,im a=some {cls:=.type "range",data:=.fields #[.int lo iw,.int aM lL,.int 1 j9]}∧x=.ref a
 |.any,_=>True
theorem aF.inv (h:aF P im ρ v x):El P im ρ v x :=
 aF.casesOn (motive_1:=fun v x _=>El P im ρ v x) h rfl (fun _=>rfl) (fun _ t=>⟨t,rfl⟩) (fun _ t h=>⟨t,h,rfl⟩) (fun e r z=>⟨_,_,_,e,r,z,rfl⟩) (fun e r z=>⟨_,_,_,e,r,z,rfl⟩) (fun e c9 r=>⟨_,_,_,_,e,c9,r,rfl⟩) (fun e=>⟨_,e,rfl⟩) (fun _=>rfl) (fun e r=>⟨_,_,_,e,r,rfl⟩) (fun e=>⟨_,e,rfl⟩) (fun e r=>⟨_,_,e,r,rfl⟩) (fun e=>⟨_,_,_,_,e,rfl⟩) (fun _=>trivial)
@[elab_as_elim] theorem aF.e0 {i:Int}(h:aF P im ρ (.int i) x) (k:∀ t,G (.int i t)):G x:=let ⟨t,e⟩:=h.inv;e▸k t
@[elab_as_elim] theorem aF.mM {i:Str}(h:aF P im ρ (.str i) x) (k:∀ t,PyData.strOk i=true→G (.str i t)):G x:=let ⟨t,q,e⟩:=h.inv;e▸k t q
@[elab_as_elim] theorem aF.qW {i:Bool}(h:aF P im ρ (.bool i) x) (k:G (.bool i)):G x:=(h.inv:x=_)▸k
@[elab_as_elim] theorem aF.ts (h:aF P im ρ .none x) (k:G .none):G x:=(h.inv:x=_)▸k
@[elab_as_elim] theorem aF.f3 (h:aF P im ρ (.tup vs) x) (k:∀ a xs n,im a=some (hF xs n)→aW P im ρ vs xs→xs.length≤aL→G (.ref a)):G x:=let ⟨a,xs,n,ao,aC,cL,e⟩:=h.inv;e▸k a xs n ao aC cL
@[elab_as_elim] theorem aF.tu (h:aF P im ρ (.aN vs) x) (k:∀ a xs n,im a=some (fD xs n)→aW P im ρ vs xs→xs.length≤aL→G (.ref a)):G x:=let ⟨a,xs,n,ao,aC,cL,e⟩:=h.inv;e▸k a xs n ao aC cL
@[elab_as_elim] theorem aF.ix {i:Nat}(h:aF P im ρ (.ref i) x) (k:∀ p,ρ[i]?=some p→G (.ref p.1)):G x:=let ⟨p,ao,e⟩:=h.inv;e▸k p ao
@[elab_as_elim] theorem aF.objE {y:Value}(h:aF P im ρ (.obj y) x) (k:G y):G x:=(h.inv:x=y)▸k
@[elab_as_elim] theorem aF.NL {lo aM:Int}(h:aF P im ρ (.cx lo aM) x) (k:∀ a iw lL j9,im a=some {cls:=.type "range",data:=.fields #[.int lo iw,.int aM lL,.int 1 j9]}→G (.ref a)):G x:=let ⟨a,iw,lL,j9,ao,e⟩:=h.inv;e▸k a iw lL j9 ao
@[elab_as_elim] theorem aF.nK {C:Addr}{fs:List (Str×V)}(h:aF P im ρ (.fin C fs) x) (k:∀ d aD a n,im a=some (instObj C d)→im d=some (dictOf aD n)→cT P im ρ fs aD→G (.ref a)):G x:=let ⟨d,aD,a,n,ao,aC,cL,e⟩:=h.inv;e▸k d aD a n ao aC cL
@[elab_as_elim] theorem aF.NM {fs:List (Str×V)}(h:aF P im ρ (.fd fs) x) (k:∀ aD a n,im a=some (dictOf aD n)→cT P im ρ fs aD→G (.ref a)):G x:=let ⟨aD,a,n,ao,aC,e⟩:=h.inv;e▸k aD a n ao aC
@[elab_as_elim] theorem aF.Em {ps:Arguments}{body:PySem.Expr}{sc:Scope}(h:aF P im ρ (.lam ps body sc) x) (k:∀ a,qV im a ps body sc→G (.ref a)):G x:=let ⟨a,ao,e⟩:=h.inv;e▸k a ao
@[elab_as_elim] theorem aF.En {f:Addr}(h:aF P im ρ (.fC f v) x) (k:∀ y a,im a=some (methodObj (.ref f) y)→aF P im ρ v y→G (.ref a)):G x:=let ⟨y,a,ao,aC,e⟩:=h.inv;e▸k y a ao aC
@[elab_as_elim] theorem aW.tv (h:aW P im ρ [] ys) (k:hZ []):hZ ys:=h.NJ▸k
@[elab_as_elim] theorem aW.qX (h:aW P im ρ (v::vs) ys) (k:∀ y xs,aF P im ρ v y→aW P im ρ vs xs→hZ (y::xs)):hZ ys:=let ⟨y,xs,a,b,e⟩:=h.NK;e▸k y xs a b
@[elab_as_elim] theorem aW.kT (h:aW P im ρ [v] ys) (k:∀ y,aF P im ρ v y→hZ [y]):hZ ys:=h.qX fun y _ a b=>b.tv (hZ:=fun xs=>hZ (y::xs)) (k y a)
@[elab_as_elim] theorem aW.tw (h:aW P im ρ [v,u] ys) (k:∀ y z,aF P im ρ v y→aF P im ρ u z→hZ [y,z]):hZ ys:=h.qX fun y _ a b=>b.kT (hZ:=fun xs=>hZ (y::xs)) fun z c=>k y z a c
@[elab_as_elim] theorem aW.NN {t:V}(h:aW P im ρ [v,u,t] ys) (k:∀ y z r,aF P im ρ v y→aF P im ρ u z→aF P im ρ t r→hZ [y,z,r]):hZ ys:=h.qX fun y _ a b=>b.tw (hZ:=fun xs=>hZ (y::xs)) fun z r c d=>k y z r a c d
end
theorem aF.mono (h1:e8 im im') (af:hp ρ ρ') {v:V}{x:Value}(h:aF P im ρ v x):aF P im' ρ' v x :=
 aF.rec (motive_1:=fun v x _=>aF P im' ρ' v x) (motive_2:=fun vs xs _=>aW P im' ρ' vs xs) (motive_3:=fun fs aD _=>cT P im' ρ' fs aD) .none .bool .int .str (fun e _ z r=>.tup (h1 _ _ e) r z) (fun e _ z r=>.aN (h1 _ _ e) r z) (fun e c9 _ r=>.fin (h1 _ _ e) (h1 _ _ c9) r)
  (fun e=>.ref (af _ _ e)) .obj (fun e _ r=>.fd (h1 _ _ e) r) (fun e=>.lam (e.mono h1)) (fun e _ r=>.fC (h1 _ _ e) r) (fun e=>.cx (h1 _ _ e)) .any .nil (fun _ _ a b=>.cons a b) .nil (fun _ _ a b=>.cons a b) h
theorem aW.ind {Q:List V→List Value→Prop}(h0:Q [] []) (h1:∀{v x vs xs},aF P im ρ v x→aW P im ρ vs xs→Q vs xs→Q (v::vs) (x::xs)) {vs:List V}{xs:List Value}(h:aW P im ρ vs xs):Q vs xs :=
 aW.rec (motive_1:=fun _ _ _=>True) (motive_2:=fun vs xs _=>Q vs xs) (motive_3:=fun _ _ _=>True) trivial (fun _=>trivial) (fun _ _=>trivial) (fun _ _ _=>trivial) (fun _ _ _ _=>trivial) (fun _ _ _ _=>trivial) (fun _ _ _ _=>trivial)
  (fun _=>trivial) (fun _=>trivial) (fun _ _ _=>trivial) (fun _=>trivial) (fun _ _ _=>trivial) (fun _=>trivial) (fun _=>trivial) h0 (fun a b _=>h1 a b) trivial (fun _ _ _ _=>trivial) h
theorem cT.ind {Q:List (Str×V)→List DictEntry→Prop}(h0:Q [] []) (h1:∀{k t v x fs aD},aF P im ρ v x→cT P im ρ fs aD→Q fs aD→Q ((k,v)::fs) (⟨PyData.keyHash P k,.str k t,x⟩::aD)) {vs:List (Str×V)}{xs:List DictEntry}(h:cT P im ρ vs xs):Q vs xs :=
 cT.rec (motive_1:=fun _ _ _=>True) (motive_2:=fun _ _ _=>True) (motive_3:=fun fs aD _=>Q fs aD) trivial (fun _=>trivial) (fun _ _=>trivial) (fun _ _ _=>trivial) (fun _ _ _ _=>trivial) (fun _ _ _ _=>trivial) (fun _ _ _ _=>trivial)
  (fun _=>trivial) (fun _=>trivial) (fun _ _ _=>trivial) (fun _=>trivial) (fun _ _ _=>trivial) (fun _=>trivial) (fun _=>trivial) trivial (fun _ _ _ _=>trivial) h0 (fun a b _=>h1 a b) h
theorem aW.mono (h1:e8 im im') (af:hp ρ ρ') {vs:List V}{xs:List Value}(h:aW P im ρ vs xs):aW P im' ρ' vs xs:=aW.ind .nil (fun a _ b=>.cons (a.mono h1 af) b) h
theorem cT.mono (h1:e8 im im') (af:hp ρ ρ') {vs:List (Str×V)}{xs:List DictEntry}(h:cT P im ρ vs xs):cT P im' ρ' vs xs:=cT.ind .nil (fun a _ b=>.cons (a.mono h1 af) b) h
theorem aW.length {vs:List V}{xs:List Value}(h:aW P im ρ vs xs):vs.length=xs.length:=aW.ind (Q:=fun vs xs=>vs.length=xs.length) rfl (fun _ _ b=>congrArg (· + 1) b) h
theorem aW.get {vs:List V}{xs:List Value}(h:aW P im ρ vs xs) {i:Nat}{v:V}(e:vs[i]?=some v):∃ x,xs[i]?=some x∧aF P im ρ v x :=
 aW.ind (Q:=fun vs xs=>∀(i:Nat) (v:V),vs[i]?=some v→∃ x,xs[i]?=some x∧aF P im ρ v x) (fun _ _ e=>ba e) (fun a _ aI i v e=>by
  cases i with
  |zero=>rw[←cb e];exact ⟨_,rfl,a⟩
  |succ i=>exact aI i v e) h i v e
theorem aW.append {vs ws:List V}{xs ys:List Value}(h:aW P im ρ vs xs) (b:aW P im ρ ws ys):aW P im ρ (vs++ws) (xs++ys):=aW.ind (Q:=fun vs xs=>aW P im ρ (vs++ws) (xs++ys)) b (fun a _ r=>.cons a r) h
theorem aW.set {vs:List V}{xs:List Value}(h:aW P im ρ vs xs):∀(i:Nat) {v x},aF P im ρ v x→aW P im ρ (vs.set i v) (xs.set i x) :=
 aW.ind (Q:=fun vs xs=>∀(i:Nat) {v x},aF P im ρ v x→aW P im ρ (vs.set i v) (xs.set i x)) (fun _ _ _ _=>.nil) (fun a b aI i v x r=>by
  cases i with
  |zero=>exact .cons r b
  |succ i=>exact .cons a (aI i r)) h
theorem aW.eraseIdx {vs:List V}{xs:List Value}(h:aW P im ρ vs xs):∀(i:Nat),aW P im ρ (vs.eraseIdx i) (xs.eraseIdx i) :=
 aW.ind (Q:=fun vs xs=>∀(i:Nat),aW P im ρ (vs.eraseIdx i) (xs.eraseIdx i)) (fun _=>.nil) (fun a b aI i=>by
  cases i with
  |zero=>exact b
  |succ i=>exact .cons a (aI i)) h
theorem aW.take {vs:List V}{xs:List Value}(h:aW P im ρ vs xs):∀(i:Nat),aW P im ρ (vs.take i) (xs.take i) :=
 aW.ind (Q:=fun vs xs=>∀(i:Nat),aW P im ρ (vs.take i) (xs.take i)) (fun i=>by rw[List.take_nil,List.take_nil];exact .nil) (fun a b aI i=>by
  cases i with
  |zero=>exact .nil
  |succ i=>exact .cons a (aI i)) h
theorem aW.drop {vs:List V}{xs:List Value}(h:aW P im ρ vs xs):∀(i:Nat),aW P im ρ (vs.drop i) (xs.drop i) :=
 aW.ind (Q:=fun vs xs=>∀(i:Nat),aW P im ρ (vs.drop i) (xs.drop i)) (fun i=>by rw[List.drop_nil,List.drop_nil];exact .nil) (fun a b aI i=>by
  cases i with
  |zero=>exact .cons a b
  |succ i=>exact aI i) h
end
noncomputable def aj.dW (p:Addr×Addr):aj→List Addr
 |.list _=>[p.1] |.inst _ _=>[p.1,p.2] |.dict _=>[p.1] |.cell _=>[p.1] |.tab _ _=>[p.1] |.dead=>[]
inductive hq (im:ct) (q:Str):List (Nat×Nat)→List Value→Prop
 |nil:hq im q [] []
 |cons {l c a ps xs}:mL im a q→hq im q ps xs→hq im q ((l,c)::ps) (rawInt l::rawInt c::.ref a::xs)
theorem hq.mono {im im' : ct}{q:Str}(h1:e8 im im'):∀{ps xs},hq im q ps xs→hq im' q ps xs
 |_,_,.nil=>.nil
 |_,_,.cons a b=>.cons (a.mono h1) (b.mono h1)
inductive fo (P:Params) (im:ct) (ρ:c5):List (Str×V)→List (Str×Value)→Prop
 |nil:fo P im ρ [] []
 |cons {k v x fs aD}:aF P im ρ v x→fo P im ρ fs aD→fo P im ρ ((k,v)::fs) ((k,x)::aD)
theorem fo.mono {P:Params}{im im' : ct}{ρ ρ' : c5}(h1:e8 im im') (af:hp ρ ρ'):∀{v x},fo P im ρ v x→fo P im' ρ' v x
 |_,_,.nil=>.nil
 |_,_,.cons a b=>.cons (a.mono h1 af) (fo.mono h1 af b)
noncomputable def gU (w:World) (im:ct) (ρ:c5) (h:Heap) (p:Addr×Addr):aj→Prop
 |.list vs=>∃ xs n,h.get? p.1=some (fD xs n)∧aW w.params im ρ vs xs∧xs.length≤aL
 |.inst C fs=>∃ aD n,h.get? p.1=some (instObj C p.2)∧h.get? p.2=some (dictOf aD n)∧cT w.params im ρ fs aD∧p.1≠p.2
 |.dict fs=>∃ lM,h.DictOf (strKind bz w) p.1 lM∧fo w.params im ρ fs lM∧fs.length≤1000
 |.cell none=>h.IsCell p.1 none
 |.cell (some v)=>∃ x,h.IsCell p.1 (some x)∧aF w.params im ρ v x
 |.tab q ps=>∃ xs,h.get? p.1=some (tabObj xs.toArray)∧hq im q ps xs
 |.dead=>True
theorem Eo {h h' : Heap}{a:Addr}{v:Option Value}(x:h.IsCell a v) (k:∀ o,h.get? a=some o→h'.get? a=some o):h'.IsCell a v:=let ⟨o,e,d⟩:=x;⟨o,k _ e,d⟩
theorem gU.mono {w:World}{im im' : ct}{ρ ρ' : c5}{h h' : Heap}{p:Addr×Addr}{o:aj}(h1:e8 im im') (af:hp ρ ρ')
 (aB:∀ a∈o.dW p,∀ aa,h.get? a=some aa→h'.get? a=some aa) (r:gU w im ρ h p o):gU w im' ρ' h' p o:=by
 cases o with
 |list vs=>obtain ⟨xs,n,a,b,z⟩:=r;exact ⟨xs,n,aB _ (.head _) _ a,b.mono h1 af,z⟩
 |inst C fs=>obtain ⟨aD,n,a,b,c,d⟩:=r;exact ⟨aD,n,aB _ (.head _) _ a,aB _ (.tail _ (.head _)) _ b,c.mono h1 af,d⟩
 |dict fs=>obtain ⟨xs,⟨o,aD,iv,a,r⟩,b,z⟩:=r;exact ⟨xs,⟨o,aD,iv,aB _ (.head _) _ a,r⟩,b.mono h1 af,z⟩
 |cell v =>
  cases v with
  |none=>exact Eo r (aB _ (.head _))
  |some v=>obtain ⟨x,a,b⟩:=r;exact ⟨x,Eo a (aB _ (.head _)),b.mono h1 af⟩
 |tab q ps=>obtain ⟨x,a,b⟩:=r;exact ⟨x,aB _ (.head _) _ a,b.mono h1⟩
 |dead=>trivial
noncomputable def Own (ρ:c5) (H:List aj) (a:Addr):Prop:=∃ (i:Nat) (p:Addr×Addr) (o:aj),ρ[i]?=some p∧H[i]?=some o∧a∈o.dW p
structure Rep (w:World) (im:ct) (ρ:c5) (H:List aj) (h:Heap):Prop where
 len:ρ.length=H.length
 at_:∀{i:Nat}{p o},ρ[i]?=some p→H[i]?=some o→gU w im ρ h p o
 sep:∀{i j:Nat}{p q:Addr×Addr}{o o' : aj}{a},ρ[i]?=some p→H[i]?=some o→a∈o.dW p→ρ[j]?=some q→H[j]?=some o'→a∈o'.dW q→i=j
 cM:∀{a o},im a=some o→h.get? a=some o
 js:∀{a},Own ρ H a→im a=none
structure br where
 kept:ct
 L:Addr
 im:ct
 ρ:c5
noncomputable def hG (w:World) (im:ct):Prop:=∀ a o,(full w.params).get a=some o→oZ o=true→Nat.blt a 955=true→im a=some o
noncomputable def wh:List Nat→List Nat→Bool
 |[],[]=>true
 |a::r,b::t=>Nat.beq a b&&wh r t
 |_,_=>false
noncomputable def seq (a b:Str):Bool:=wh a.cps.toList b.cps.toList
noncomputable def look {α:Type}(x:Str):List (Str×α)→Option α
 |[]=>none
 |(y,v)::r=>match seq x y with
  |true=>some v
  |false=>look x r
noncomputable def ka (P:Params) (im:ct) (ρ:c5) (ls:List (Str×V)) (m:Str→Option Value):Prop:=∀ x v,look x ls=some v→∃ a,m x=some a∧aF P im ρ v a
structure aH (w:World) (c:br) (ls:List (Str×V)) (H:List aj) (h:Heap):Prop where
 ns:∃ m,ka w.params c.im c.ρ ls m∧h.Ns c.L m
 rep:Rep w c.im c.ρ H h
 dh:hG w c.im
 keep:∀{a o},c.kept a=some o→h.get? a=some o
 own:∀{a},Own c.ρ H a→c.kept a=none∧a≠c.L
 fr:c.kept c.L=none∧c.im c.L=none
structure br.le (h:Heap) (c c' : br):Prop where
 kept:c'.kept=c.kept
 L:c'.L=c.L
 im:e8 c.im c'.im
 ρ:hp c.ρ c'.ρ
 new:∀ a o,c'.im a=some o→c.im a=some o∨h.get? a=none∨(c.kept a=none∧a≠c.L)
noncomputable def lN (h h' : Heap):Prop:=∀ a o,h.get? a=some o→∃ o',h'.get? a=some o'
theorem lN.none {h h' : Heap}(z:lN h h') {a:Addr}(e:h'.get? a=none):h.get? a=none:=by
 cases q:h.get? a with
 |none=>rfl
 |some o=>obtain ⟨o',c9⟩:=z a o q;rw[e] at c9;cases c9
theorem br.le.refl {h:Heap}{c:br}:br.le h c c:=⟨rfl,rfl,fun _ _ e=>e,fun _ _ e=>e,fun _ _ e=>.inl e⟩
theorem br.le.trans {h h' : Heap}{c c' kU:br}(a:br.le h c c') (z:lN h h') (b:br.le h' c' kU):br.le h c kU :=
 ⟨b.kept.trans a.kept,b.L.trans a.L,fun _ _ e=>b.im _ _ (a.im _ _ e),fun _ _ e=>b.ρ _ _ (a.ρ _ _ e),fun x o e=>(b.new x o e).elim (a.new x o) fun q=>.inr (q.imp z.none fun q=>⟨by rw[←a.kept];exact q.1,by rw[←a.L];exact q.2⟩)⟩
theorem aF.le {P:Params}{h:Heap}{c c' : br}{v x}(r:aF P c.im c.ρ v x) (l:br.le h c c'):aF P c'.im c'.ρ v x:=r.mono l.im l.ρ
theorem aW.le {P:Params}{h:Heap}{c c' : br}{v x}(r:aW P c.im c.ρ v x) (l:br.le h c c'):aW P c'.im c'.ρ v x:=r.mono l.im l.ρ
theorem ka.mono {P:Params}{im im' : ct}{ρ ρ' : c5}{ls:List (Str×V)}{m:Str→Option Value}(h1:e8 im im') (af:hp ρ ρ') (r:ka P im ρ ls m):ka P im' ρ' ls m:=fun x v e=>let ⟨a,c9,q⟩:=r x v e;⟨a,c9,q.mono h1 af⟩
theorem qY {h:Heap}{b:Addr}{o:Obj}(e:h.get? b=some o) {a:Addr}(m:a∈[b]):∃ aa,h.get? a=some aa:=by rw[List.mem_singleton.mp m];exact ⟨o,e⟩
theorem gU.here {w:World}{im:ct}{ρ:c5}{h:Heap}{p:Addr×Addr}{o:aj}(r:gU w im ρ h p o) {a:Addr}(b2:a∈o.dW p):∃ aa,h.get? a=some aa:=by
 cases o with
 |list vs=>obtain ⟨xs,n,e,b⟩:=r;exact qY e b2
 |inst C fs=>obtain ⟨aD,n,e,c9,c⟩:=r;exact (List.mem_cons.mp b2).elim (fun z=>⟨_,z▸e⟩) (qY c9)
 |dict fs=>obtain ⟨xs,⟨o,aD,iv,e,r⟩,b⟩:=r;exact qY e b2
 |cell v=>cases v with
  |none=>obtain ⟨aa,e,d⟩:=r;exact qY e b2
  |some v=>obtain ⟨x,⟨aa,e,d⟩,b⟩:=r;exact qY e b2
 |tab q ps=>obtain ⟨x,e,b⟩:=r;exact qY e b2
 |dead=>exact absurd b2 List.not_mem_nil
section
variable {w:World}{c:br}{ls:List (Str×V)}{H:List aj}{h h' : Heap}
theorem Rep.here {im:ct}{ρ:c5}(R:Rep w im ρ H h) {a:Addr}(o:Own ρ H a):∃ aa,h.get? a=some aa:=by
 obtain ⟨i,p,o,ao,aC,m⟩:=o
 exact (R.at_ ao aC).here m
theorem Rep.lt {im:ct}{ρ:c5}(R:Rep w im ρ H h) {a:Addr}(o:Own ρ H a):a<h.objs.size:=let ⟨_,e⟩:=R.here o;Heap.lt_size e
theorem o5 {h h' : Heap}{a:Addr}{m:Str→Option Value}(x:h.Ns a m) (k:∀ o,h.get? a=some o→h'.get? a=some o):h'.Ns a m :=
 let ⟨o,aD,iv,c8,r⟩:=x;⟨o,aD,iv,k _ c8,r⟩
theorem aH.wi (R:aH w c ls H h):∃ o,h.get? c.L=some o:=let ⟨_,_,o,_,_,e,_⟩:=R.ns;⟨o,e⟩
theorem Own.set {ρ:c5}{H:List aj}{i:Nat}{p:Addr×Addr}{o o' : aj}(a3:ρ[i]?=some p) (c8:H[i]?=some o) (e:o'.dW p=o.dW p) {a:Addr}(x:Own ρ (H.set i o') a):Own ρ H a:=by
 obtain ⟨j,q,aa,ao,aC,m⟩:=x
 by_cases mN:i=j
 ·subst mN
  rw[a3] at ao;obtain rfl:=cb ao
  rw[List.getElem?_set_self (List.getElem?_eq_some_iff.mp c8).1] at aC;obtain rfl:=cb aC
  exact ⟨i,p,o,a3,c8,e▸m⟩
 ·rw[List.getElem?_set_ne mN] at aC
  exact ⟨j,q,aa,ao,aC,m⟩
theorem Rep.upd {im:ct}{ρ:c5}(R:Rep w im ρ H h) {i:Nat}{p:Addr×Addr}{o o' : aj}(a3:ρ[i]?=some p) (c8:H[i]?=some o) (e:o'.dW p=o.dW p)
 (ar:∀ b aa,b ∉ o.dW p→h.get? b=some aa→h'.get? b=some aa) (bR:gU w im ρ h' p o'):Rep w im ρ (H.set i o') h':=by
 have aM:=(List.getElem?_eq_some_iff.mp c8).1
 refine ⟨by rw[List.length_set];exact R.len,?_,?_,?_,?_⟩
 ·intro j q aa ao aC
  by_cases mN:i=j
  ·subst mN
   rw[a3] at ao;obtain rfl:=cb ao
   rw[List.getElem?_set_self aM] at aC;obtain rfl:=cb aC
   exact bR
  ·rw[List.getElem?_set_ne mN] at aC
   refine (R.at_ ao aC).mono (fun _ _ x=>x) (fun _ _ x=>x) (fun a b2 dr x=>ar a dr (fun m=>mN (R.sep a3 c8 m ao aC b2)) x)
 ·intro j k q r aa dr a ao aC m hH iW f5
  have f:∀(j:Nat) (q:Addr×Addr) (aa:aj),ρ[j]?=some q→(H.set i o')[j]?=some aa→a∈aa.dW q→∃ dr,H[j]?=some dr∧a∈dr.dW q:=by
   intro j q aa ao aC m
   by_cases mN:i=j
   ·subst mN
    rw[a3] at ao;obtain rfl:=cb ao
    rw[List.getElem?_set_self aM] at aC;obtain rfl:=cb aC
    exact ⟨o,c8,e▸m⟩
   ·rw[List.getElem?_set_ne mN] at aC;exact ⟨aa,aC,m⟩
  obtain ⟨x,bA,z1⟩:=f j q aa ao aC m
  obtain ⟨y,bU,kV⟩:=f k r dr hH iW f5
  exact R.sep ao bA z1 hH bU kV
 ·intro a aa x
  exact ar a aa (fun m=>by have z:=R.js ⟨i,p,o,a3,c8,m⟩;rw[x] at z;cases z) (R.cM x)
 ·intro a x;exact R.js (x.set a3 c8 e)
theorem aH.upd (R:aH w c ls H h) {i:Nat}{p:Addr×Addr}{o o' : aj}(a3:c.ρ[i]?=some p) (c8:H[i]?=some o) (e:o'.dW p=o.dW p)
 (ar:∀ b aa,b ∉ o.dW p→h.get? b=some aa→h'.get? b=some aa) (bR:gU w c.im c.ρ h' p o'):aH w c ls (H.set i o') h':=by
 have NO:∀ b,Own c.ρ H b→c.kept b=none:=fun b x=>(R.own x).1
 refine ⟨?_,R.rep.upd a3 c8 e ar bR,R.dh,fun {a aa} x=>?_,fun {a} x=>R.own (x.set a3 c8 e),R.fr⟩
 ·obtain ⟨xs,l,n⟩:=R.ns
  exact ⟨xs,l,o5 n fun aa x=>ar _ _ (fun m=>(R.own ⟨i,p,o,a3,c8,m⟩).2 rfl) x⟩
 ·exact ar a aa (fun m=>by have z:=NO a ⟨i,p,o,a3,c8,m⟩;rw[x] at z;cases z) (R.keep x)
theorem aH.loc {bM:List (Str×V)}{m:Str→Option Value}(R:aH w c ls H h) (l:ka w.params c.im c.ρ bM m) (n:h'.Ns c.L m) (ak:Heap.SameBut c.L h h'):aH w c bM H h':=by
 have ar:∀ b aa,b≠c.L→h.get? b=some aa→h'.get? b=some aa:=fun b aa nb x=>(ak.2 b nb).trans x
 refine ⟨⟨m,l,n⟩,⟨R.rep.len,fun {i p o} ao aC=>(R.rep.at_ ao aC).mono (fun _ _ x=>x) (fun _ _ x=>x) fun a m aa x=>ar a aa (R.own ⟨i,p,o,ao,aC,m⟩).2 x,R.rep.sep,fun {a o} x=>ar a o (fun q=>?_) (R.rep.cM x),R.rep.js⟩,R.dh,fun {a o} x=>ar a o (fun q=>?_) (R.keep x),R.own,R.fr⟩
 ·rw[q] at x;rw[R.fr.2] at x;exact ba x
 ·rw[q] at x;rw[R.fr.1] at x;exact ba x
theorem aH.grow (R:aH w c ls H h) {im' : ct}(ar:∀ b aa,h.get? b=some aa→h'.get? b=some aa) (h1:e8 c.im im') (af:∀ a o,im' a=some o→c.im a=some o∨(h.objs.size≤a∧h'.get? a=some o)) :
 aH w {c with im:=im'} ls H h':=by
 have c1:=R.rep
 refine ⟨?_,⟨c1.len,fun {i p o} ao aC=>(c1.at_ ao aC).mono h1 (fun _ _ x=>x) fun a m aa x=>ar a aa x,c1.sep,fun {a o} x=>?_,fun {a} x=>?_⟩,fun a o x y z=>h1 _ _ (R.dh a o x y z),fun {a o} x=>ar _ _ (R.keep x),R.own,⟨R.fr.1,?_⟩⟩
 ·obtain ⟨xs,l,n⟩:=R.ns
  exact ⟨xs,l.mono h1 (fun _ _ x=>x),o5 n fun aa x=>ar _ _ x⟩
 ·exact (af a o x).elim (fun q=>ar _ _ (c1.cM q)) fun q=>q.2
 ·show im' a=none
  cases q:im' a with
  |none=>rfl
  |some o =>
   rcases af a o q with y |y
   ·have z:=c1.js x;rw[y] at z;cases z
   ·exact absurd (c1.lt x) (Nat.not_lt.mpr y.1)
 ·show im' c.L=none
  cases q:im' c.L with
  |none=>rfl
  |some o =>
   rcases af _ o q with y |y
   ·rw[R.fr.2] at y;exact ba y
   ·obtain ⟨aa,e⟩:=R.wi
    exact absurd (Heap.lt_size e) (Nat.not_lt.mpr y.1)
theorem Heap.iy {h:Heap}{a:Addr}(z:h.objs.size≤a):h.get? a=none:=by
 cases q:h.get? a with
 |none=>rfl
 |some o=>exact absurd (Heap.lt_size q) (Nat.not_lt.mpr z)
theorem z2 {α:Type}{l:List α}{x y:α}{i:Nat}(e:(l++[x])[i]?=some y):l[i]?=some y∨(i=l.length∧y=x):=by
 rw[List.getElem?_append] at e
 split at e
 ·exact .inl e
 ·rename_i n
  have:i - l.length=0:=by
   cases q:i - l.length with
   |zero=>rfl
   |succ k=>rw[q] at e;exact ba e
  rw[this] at e
  obtain rfl:=cb e
  exact .inr ⟨Nat.le_antisymm (Nat.sub_eq_zero_iff_le.mp this) (Nat.not_lt.mp n),rfl⟩
theorem o6 {α:Type}{l:List α}{x y:α}{i:Nat}(e:l[i]?=some y):(l++[x])[i]?=some y:=by
 rw[List.getElem?_append_left (List.getElem?_eq_some_iff.mp e).1];exact e
noncomputable def Off (c:br) (H:List aj) (a:Addr):Prop:=¬ Own c.ρ H a∧a≠c.L∧c.im a=none∧c.kept a=none
theorem mO {α:Type}{o:Option α}(h:∀ a,o≠some a):o=none:=by cases o with |none=>rfl |some a=>exact absurd rfl (h a)
theorem Off.new (R:aH w c ls H h) {a:Addr}(e:h.get? a=none):Off c H a :=
 ⟨fun x=>let ⟨o,c9⟩:=R.rep.here x;ba (e.symm.trans c9),fun x=>let ⟨o,c9⟩:=R.wi;ba (e.symm.trans (x▸c9)),mO fun o q=>ba (e.symm.trans (R.rep.cM q)),mO fun o q=>ba (e.symm.trans (R.keep q))⟩
theorem qZ {ρ:c5}{p:Addr×Addr}{o:aj}(len:ρ.length=H.length) {G:Nat→Addr×Addr→aj→Prop}(g1:∀{i q aa},ρ[i]?=some q→H[i]?=some aa→G i q aa) (g2:G H.length p o) {i:Nat}{q:Addr×Addr}{aa:aj}(ao:(ρ++[p])[i]?=some q) (aC:(H++[o])[i]?=some aa):G i q aa:=by
 rcases z2 ao with a |⟨a,b⟩
 ·rcases z2 aC with b |⟨b,_⟩
  ·exact g1 a b
  ·exact absurd (b.trans len.symm) (Nat.ne_of_lt (List.getElem?_eq_some_iff.mp a).1)
 ·rcases z2 aC with d |⟨d,f⟩
  ·exact absurd (a.trans len) (Nat.ne_of_lt (List.getElem?_eq_some_iff.mp d).1)
  ·rw[d,b,f];exact g2
theorem aH.adopt (R:aH w c ls H h) {p:Addr×Addr}{o:aj}(off:∀ a∈o.dW p,Off c H a) (ar:∀ b aa,b ∉ o.dW p→h.get? b=some aa→h'.get? b=some aa)
 (bR:gU w c.im (c.ρ++[p]) h' p o):aH w {c with ρ:=c.ρ++[p]} ls (H++[o]) h':=by
 have c1:=R.rep
 have le:hp c.ρ (c.ρ++[p]):=fun i q e=>o6 e
 have dW:∀{a},Own (c.ρ++[p]) (H++[o]) a→Own c.ρ H a∨a∈o.dW p:=fun {a} x=>by
  obtain ⟨i,q,aa,ao,aC,m⟩:=x
  exact qZ c1.len (G:=fun _ q aa=>a∈aa.dW q→Own c.ρ H a∨a∈o.dW p) (fun x y m=>.inl ⟨_,_,_,x,y,m⟩) .inr ao aC m
 refine ⟨?_,⟨by rw[List.length_append,List.length_append,c1.len];rfl,fun {i q aa}=>qZ c1.len (G:=fun _ q aa=>gU w c.im (c.ρ++[p]) h' q aa) (fun x y=>(c1.at_ x y).mono (fun _ _ x=>x) le fun a m dr z=>ar a dr (fun f5=>(off a f5).1 ⟨_,_,_,x,y,m⟩) z) bR,
  fun {i j q nL aa dr a} ao aC m hH iW f5=>?_,fun {a aa} x=>ar _ _ (fun m=>ba ((off _ m).2.2.1.symm.trans x)) (c1.cM x),fun {a} x=>(dW x).elim c1.js fun y=>(off a y).2.2.1⟩,R.dh,fun {a aa} x=>ar _ _ (fun m=>ba ((off _ m).2.2.2.symm.trans x)) (R.keep x),
  fun {a} x=>(dW x).elim R.own fun y=>⟨(off a y).2.2.2,(off a y).2.1⟩,R.fr⟩
 ·obtain ⟨xs,l,n⟩:=R.ns
  exact ⟨xs,l.mono (fun _ _ x=>x) le,o5 n fun aa x=>ar _ _ (fun m=>(off _ m).2.1 rfl) x⟩
 ·exact qZ c1.len (G:=fun i q aa=>a∈aa.dW q→i=j) (fun {i q aa} x y m=>qZ c1.len (G:=fun j nL dr=>a∈dr.dW nL→i=j) (fun gp tx f5=>c1.sep x y m gp tx f5) (fun f5=>absurd ⟨i,q,aa,x,y,m⟩ (off a f5).1) hH iW f5)
   (fun m=>qZ c1.len (G:=fun j nL dr=>a∈dr.dW nL→H.length=j) (fun {j nL dr} gp tx f5=>absurd ⟨j,nL,dr,gp,tx,f5⟩ (off a m).1) (fun _=>rfl) hH iW f5) ao aC m
theorem aH.push (R:aH w c ls H h) {p:Addr×Addr}{o:aj}(ar:∀ b aa,h.get? b=some aa→h'.get? b=some aa) (hf:∀ a∈o.dW p,h.objs.size≤a)
 (bR:gU w c.im (c.ρ++[p]) h' p o):aH w {c with ρ:=c.ρ++[p]} ls (H++[o]) h':=R.adopt (fun a m=>.new R (Heap.iy (hf a m))) (fun b aa _ e=>ar b aa e) bR
end
noncomputable def eQ (im:ct) (a:Addr) (o:Obj):ct:=fun b=>if b=a then some o else im b
section
variable {w:World}{c:br}{ls:List (Str×V)}{H:List aj}{h:Heap}
theorem z3 {im:ct}{a:Addr}{o:Obj}(n:im a=none):e8 im (eQ im a o):=fun b aa e=>by
 unfold eQ
 split
 ·rename_i q;subst q;rw[n] at e;exact ba e
 ·exact e
theorem mP {im:ct}{a:Addr}{o:Obj}:eQ im a o a=some o:=if_pos rfl
theorem aH.Ep (R:aH w c ls H h) {a:Addr}(z:h.objs.size≤a):c.im a=none:=by
 cases q:c.im a with
 |none=>rfl
 |some aa=>exact absurd (Heap.lt_size (R.rep.cM q)) (Nat.not_lt.mpr z)
theorem aH.tA (R:aH w c ls H h) (o:Obj) (c8:o.isFreed=false):aH w {c with im:=eQ c.im h.objs.size o} ls H (h.push o)∧br.le h c {c with im:=eQ c.im h.objs.size o}:=by
 have n:=R.Ep (Nat.le_refl h.objs.size)
 have d:∀ a aa,eQ c.im h.objs.size o a=some aa→c.im a=some aa∨(h.objs.size≤a∧(h.push o).get? a=some aa):=by
  intro a aa e
  unfold eQ at e
  split at e
  ·rename_i q;subst q;obtain rfl:=cb e;exact .inr ⟨Nat.le_refl _,Heap.get?_push_size _ c8⟩
  ·exact .inl e
 exact ⟨R.grow (fun b aa e=>Heap.get?_push_of_some _ e) (z3 n) d,⟨rfl,rfl,z3 n,fun _ _ x=>x,fun a aa e=>(d a aa e).imp id fun q=>.inl (Heap.iy q.1)⟩⟩
theorem aH.z4 (R:aH w c ls H h) (o:Obj):aH w c ls H (h.push o) :=
 R.grow (im':=c.im) (fun b aa e=>Heap.get?_push_of_some _ e) (fun _ _ x=>x) (fun _ _ x=>.inl x)
end
noncomputable abbrev bS (a b:Str) (i j:Int):V:=.tup [.str a,.str b,.int i,.int j]
noncomputable abbrev g (s:Str) (v:V):Str×V:=(s,v)
noncomputable def NP:List V:=[bS ⟨⟨[85,78,68,69,70]⟩⟩ "" 0 1,bS ⟨⟨[78,85,76,76]⟩⟩ "" 0 1,bS ⟨⟨[84,82,85,69]⟩⟩ "" 0 1,bS ⟨⟨[70,65,76,83,69]⟩⟩ "" 0 1,bS ⟨⟨[67,79,78,83,84]⟩⟩ ⟨⟨[107]⟩⟩ 0 1,bS ⟨⟨[84,72,73,83]⟩⟩ "" 0 1,bS ⟨⟨[80,79,80]⟩⟩ "" 1 0,bS ⟨⟨[68,85,80]⟩⟩ "" 1 2,bS ⟨⟨[68,85,80,50]⟩⟩ "" 2 4,bS ⟨⟨[83,87,65,80]⟩⟩ "" 2 2,bS ⟨⟨[82,79,84,51]⟩⟩ "" 3 3,bS ⟨⟨[71,69,84,76,79,67]⟩⟩ ⟨⟨[108]⟩⟩ 0 1,bS ⟨⟨[83,69,84,76,79,67]⟩⟩ ⟨⟨[108]⟩⟩ 1 1,bS ⟨⟨[71,69,84,67,69,76,76]⟩⟩ ⟨⟨[99]⟩⟩ 0 1,bS ⟨⟨[83,69,84,67,69,76,76]⟩⟩ ⟨⟨[99]⟩⟩ 1 1,bS ⟨⟨[71,69,84,85,80]⟩⟩ ⟨⟨[117]⟩⟩ 0 1,bS ⟨⟨[83,69,84,85,80]⟩⟩ ⟨⟨[117]⟩⟩ 1 1,bS ⟨⟨[70,82,69,83,72]⟩⟩ ⟨⟨[99]⟩⟩ 0 0,bS ⟨⟨[71,69,84,71,76,79,66]⟩⟩ ⟨⟨[115]⟩⟩ 0 1,bS ⟨⟨[84,89,80,69,71,76,79,66]⟩⟩ ⟨⟨[115]⟩⟩ 0 1,bS ⟨⟨[83,69,84,71,76,79,66]⟩⟩ ⟨⟨[115]⟩⟩ 1 1,bS ⟨⟨[68,69,67,76,86,65,82]⟩⟩ ⟨⟨[115]⟩⟩ 0 0,bS ⟨⟨[68,69,67,76,70,85,78]⟩⟩ ⟨⟨[115]⟩⟩ 1 0,bS ⟨⟨[71,69,84,80,82,79,80]⟩⟩ ⟨⟨[115]⟩⟩ 1 1,bS ⟨⟨[83,69,84,80,82,79,80]⟩⟩ ⟨⟨[115]⟩⟩ 2 1,bS ⟨⟨[71,69,84,69,76,69,77]⟩⟩ "" 2 1,bS ⟨⟨[83,69,84,69,76,69,77]⟩⟩ "" 3 1,bS ⟨⟨[68,69,76,80,82,79,80]⟩⟩ ⟨⟨[115]⟩⟩ 1 1,bS ⟨⟨[68,69,76,69,76,69,77]⟩⟩ "" 2 1,bS ⟨⟨[68,69,76,78,65,77,69]⟩⟩ ⟨⟨[115]⟩⟩ 0 1,bS ⟨⟨[65,68,68]⟩⟩ "" 2 1,bS ⟨⟨[83,85,66]⟩⟩ "" 2 1,bS ⟨⟨[77,85,76]⟩⟩ "" 2 1,bS ⟨⟨[68,73,86]⟩⟩ "" 2 1,bS ⟨⟨[77,79,68]⟩⟩ "" 2 1,bS ⟨⟨[83,72,76]⟩⟩ "" 2 1,bS ⟨⟨[83,72,82]⟩⟩ "" 2 1,bS ⟨⟨[85,83,72,82]⟩⟩ "" 2 1,bS ⟨⟨[65,78,68]⟩⟩ "" 2 1,bS ⟨⟨[79,82]⟩⟩ "" 2 1,bS ⟨⟨[88,79,82]⟩⟩ "" 2 1,bS ⟨⟨[69,81]⟩⟩ "" 2 1,bS ⟨⟨[78,69]⟩⟩ "" 2 1,bS ⟨⟨[83,69,81]⟩⟩ "" 2 1,bS ⟨⟨[83,78,69]⟩⟩ "" 2 1,bS ⟨⟨[76,84]⟩⟩ "" 2 1,bS ⟨⟨[71,84]⟩⟩ "" 2 1,bS ⟨⟨[76,69]⟩⟩ "" 2 1,bS ⟨⟨[71,69]⟩⟩ "" 2 1,bS ⟨⟨[73,78]⟩⟩ "" 2 1,bS ⟨⟨[73,78,83,84,65,78,67,69,79,70]⟩⟩ "" 2 1,bS ⟨⟨[78,69,71]⟩⟩ "" 1 1,bS ⟨⟨[84,79,78,85,77]⟩⟩ "" 1 1,bS ⟨⟨[78,79,84]⟩⟩ "" 1 1,bS ⟨⟨[66,73,84,78,79,84]⟩⟩ "" 1 1,bS ⟨⟨[84,89,80,69,79,70]⟩⟩ "" 1 1,bS ⟨⟨[73,78,67]⟩⟩ "" 1 1,bS ⟨⟨[68,69,67]⟩⟩ "" 1 1,bS ⟨⟨[74,77,80]⟩⟩ ⟨⟨[116]⟩⟩ 0 0,bS ⟨⟨[74,70]⟩⟩ ⟨⟨[116]⟩⟩ 1 0,bS ⟨⟨[74,84]⟩⟩ ⟨⟨[116]⟩⟩ 1 0,bS ⟨⟨[74,70,75]⟩⟩ ⟨⟨[116]⟩⟩ 1 0,bS ⟨⟨[74,84,75]⟩⟩ ⟨⟨[116]⟩⟩ 1 0,bS ⟨⟨[67,65,76,76]⟩⟩ ⟨⟨[110]⟩⟩ 2 1,bS ⟨⟨[78,69,87]⟩⟩ ⟨⟨[110]⟩⟩ 1 1,bS ⟨⟨[82,69,84]⟩⟩ "" 1 0,bS ⟨⟨[84,72,82,79,87]⟩⟩ "" 1 0,bS ⟨⟨[67,76,79,83,85,82,69]⟩⟩ ⟨⟨[102]⟩⟩ 0 1,bS ⟨⟨[78,69,87,79,66,74]⟩⟩ "" 0 1,bS ⟨⟨[78,69,87,65,82,82]⟩⟩ ⟨⟨[110]⟩⟩ 0 1,bS ⟨⟨[72,79,76,69]⟩⟩ "" 0 1,bS ⟨⟨[73,78,73,84,80,82,79,80]⟩⟩ ⟨⟨[115]⟩⟩ 2 1,bS ⟨⟨[73,78,73,84,71,69,84]⟩⟩ ⟨⟨[115]⟩⟩ 2 1,bS ⟨⟨[73,78,73,84,83,69,84]⟩⟩ ⟨⟨[115]⟩⟩ 2 1,bS ⟨⟨[77,69,84,72,79,68]⟩⟩ ⟨⟨[115]⟩⟩ 1 2,bS ⟨⟨[77,69,84,72,79,68,69,76]⟩⟩ "" 2 2,bS ⟨⟨[70,79,82,73,78]⟩⟩ "" 1 1,bS ⟨⟨[78,69,88,84,73,78]⟩⟩ ⟨⟨[116]⟩⟩ 1 2,bS ⟨⟨[71,79,83,85,66]⟩⟩ ⟨⟨[116]⟩⟩ 0 0,bS ⟨⟨[82,69,84,83,85,66]⟩⟩ "" 2 0,bS ⟨⟨[67,72,69,67,75,79,66,74]⟩⟩ "" 1 1,bS ⟨⟨[84,79,75,69,89]⟩⟩ "" 2 2,bS ⟨⟨[82,79,84,52]⟩⟩ "" 4 4,bS ⟨⟨[70,65,73,76,83,69,84]⟩⟩ ⟨⟨[115]⟩⟩ 1 0,bS ⟨⟨[82,69,71,69,88,80]⟩⟩ "" 2 1]
noncomputable def wj:List (Str×V):=[g ⟨⟨[79,80,95,78,85,76,76]⟩⟩ (.int 1),g ⟨⟨[79,80,95,84,82,85,69]⟩⟩ (.int 2),g ⟨⟨[79,80,95,70,65,76,83,69]⟩⟩ (.int 3),g ⟨⟨[79,80,95,67,79,78,83,84]⟩⟩ (.int 4),g ⟨⟨[79,80,95,84,72,73,83]⟩⟩ (.int 5),g ⟨⟨[79,80,95,80,79,80]⟩⟩ (.int 6),g ⟨⟨[79,80,95,83,87,65,80]⟩⟩ (.int 9),g ⟨⟨[79,80,95,82,79,84,51]⟩⟩ (.int 10),g ⟨⟨[79,80,95,70,82,69,83,72]⟩⟩ (.int 17),g ⟨⟨[79,80,95,71,69,84,71,76,79,66]⟩⟩ (.int 18),g ⟨⟨[79,80,95,83,69,84,71,76,79,66]⟩⟩ (.int 20),g ⟨⟨[79,80,95,71,69,84,80,82,79,80]⟩⟩ (.int 23),g ⟨⟨[79,80,95,83,69,84,80,82,79,80]⟩⟩ (.int 24),g ⟨⟨[79,80,95,71,69,84,69,76,69,77]⟩⟩ (.int 25),g ⟨⟨[79,80,95,83,69,84,69,76,69,77]⟩⟩ (.int 26),g ⟨⟨[79,80,95,74,77,80]⟩⟩ (.int 58),g ⟨⟨[79,80,95,74,70]⟩⟩ (.int 59),g ⟨⟨[79,80,95,74,84]⟩⟩ (.int 60),g ⟨⟨[79,80,95,78,69,87]⟩⟩ (.int 64),g ⟨⟨[79,80,95,84,72,82,79,87]⟩⟩ (.int 66),g ⟨⟨[79,80,95,67,76,79,83,85,82,69]⟩⟩ (.int 67),g ⟨⟨[79,80,95,70,79,82,73,78]⟩⟩ (.int 76),g ⟨⟨[79,80,95,78,69,88,84,73,78]⟩⟩ (.int 77),g ⟨⟨[79,80,95,71,79,83,85,66]⟩⟩ (.int 78),g ⟨⟨[79,80,95,84,79,75,69,89]⟩⟩ (.int 81),g ⟨⟨[79,80,95,70,65,73,76,83,69,84]⟩⟩ (.int 83),g ⟨⟨[79,80,69,82,65,84,73,79,78,83]⟩⟩ (.aN NP),g ⟨⟨[76,65,83,84,95,79,80,83]⟩⟩ (.aN [.int 58,.int 65,.int 66,.int 79,.int 83]),g ⟨⟨[85,110,105,116]⟩⟩ (.obj (.ref 145)),g ⟨⟨[111,112,95,110,97,109,101]⟩⟩ (.obj (.ref 156)),g ⟨⟨[97,114,103,95,107,105,110,100]⟩⟩ (.obj (.ref 163)),g ⟨⟨[116,97,107,101,110,95,99,111,117,110,116]⟩⟩ (.obj (.ref 170)),g ⟨⟨[112,117,116,95,99,111,117,110,116]⟩⟩ (.obj (.ref 177)),g ⟨⟨[105,115,95,108,97,115,116]⟩⟩ (.obj (.ref 184)),g ⟨⟨[115,97,109,101,95,99,111,110,115,116,97,110,116]⟩⟩ (.obj (.ref 191)),g ⟨⟨[67,111,100,101]⟩⟩ (.obj (.ref 307)),g ⟨⟨[100,101,112,116,104,95,97,116,95,116,97,114,103,101,116]⟩⟩ (.obj (.ref 318)),g ⟨⟨[79,112,101,110,67,111,100,101]⟩⟩ (.obj (.ref 413)),g ⟨⟨[71,69,84,95,79,80,83]⟩⟩ (.fd [(⟨⟨[108,111,99,97,108]⟩⟩,.int 11),(⟨⟨[99,101,108,108]⟩⟩,.int 13),(⟨⟨[117,112]⟩⟩,.int 15)]),g ⟨⟨[83,69,84,95,79,80,83]⟩⟩ (.fd [(⟨⟨[108,111,99,97,108]⟩⟩,.int 12),(⟨⟨[99,101,108,108]⟩⟩,.int 14),(⟨⟨[117,112]⟩⟩,.int 16)]),g ⟨⟨[76,79,79,80]⟩⟩ (.str ⟨⟨[108,111,111,112]⟩⟩),g ⟨⟨[75,69,89,83]⟩⟩ (.str ⟨⟨[107,101,121,115]⟩⟩),g ⟨⟨[71,85,65,82,68,69,68]⟩⟩ (.str ⟨⟨[103,117,97,114,100,101,100]⟩⟩),g ⟨⟨[67,111,110,116,114,111,108]⟩⟩ (.obj (.ref 506)),g ⟨⟨[108,97,121,95,98,114,97,110,99,104]⟩⟩ (.obj (.ref 557)),g ⟨⟨[76,79,79,80,83]⟩⟩ (.tup [.str ⟨⟨[87,104,105,108,101]⟩⟩,.str ⟨⟨[68,111,87,104,105,108,101]⟩⟩,.str ⟨⟨[70,111,114]⟩⟩,.str ⟨⟨[70,111,114,73,110]⟩⟩]),g ⟨⟨[67,111,109,112,83,116,109,116]⟩⟩ (.obj (.ref 834)),g ⟨⟨[78,111,100,101]⟩⟩ (.obj (.ref 853)),g ⟨⟨[95,108,97,119,95,116,97,107,101]⟩⟩ (.obj (.ref 864)),g ⟨⟨[95,108,97,119,95,110,97,109,101]⟩⟩ (.obj (.ref 871)),g ⟨⟨[95,108,97,119,95,116,97,114,103,101,116]⟩⟩ (.obj (.ref 878)),g ⟨⟨[95,108,97,119,95,108,105,110,101]⟩⟩ (.obj (.ref 883)),g ⟨⟨[95,108,97,119,95,118,105,101,119]⟩⟩ (.obj (.ref 890)),g ⟨⟨[95,108,97,119,95,103,101,116]⟩⟩ (.obj (.ref 897)),g ⟨⟨[95,108,97,119,95,115,101,116]⟩⟩ (.obj (.ref 904)),g ⟨⟨[95,108,97,119,95,107,101,121,101,100]⟩⟩ (.obj (.ref 911)),g ⟨⟨[95,108,97,119,95,100,111]⟩⟩ (.obj (.ref 918)),g ⟨⟨[95,108,97,119,95,97,108,108]⟩⟩ (.obj (.ref 925)),g ⟨⟨[95,108,97,119,95,112,108,97,105,110]⟩⟩ (.obj (.ref 930)),g ⟨⟨[95,108,97,119,95,99,97,117,103,104,116]⟩⟩ (.obj (.ref 937)),g ⟨⟨[95,108,97,119,95,114,117,110]⟩⟩ (.obj (.ref 944)),g ⟨⟨[95,108,97,119,95,114,101,97,100]⟩⟩ (.obj (.ref 949))]
noncomputable def z5:List (Str×V):=[(⟨⟨[108,101,110]⟩⟩,.obj (.builtin "len")),(⟨⟨[114,97,110,103,101]⟩⟩,.obj (.type "range")),(⟨⟨[105,115,105,110,115,116,97,110,99,101]⟩⟩,.obj (.builtin "isinstance")),(⟨⟨[115,116,114]⟩⟩,.obj (.type "str")),(⟨⟨[105,110,116]⟩⟩,.obj (.type "int")),(⟨⟨[97,98,115]⟩⟩,.obj (.builtin "abs")),(⟨⟨[115,117,109]⟩⟩,.obj (.builtin "sum")),(⟨⟨[108,105,115,116]⟩⟩,.obj (.type "list")),(⟨⟨[101,110,117,109,101,114,97,116,101]⟩⟩,.obj (.type "enumerate"))]
structure eR where
 fd:FuncData
 ps:List Str
 iX:List V
 body:List Stmt
 tab:Option (Nat×Str)
 jt:Bool
noncomputable def dD:List (Addr×eR):=[
 (142,⟨zx,[⟨⟨[115,101,108,102]⟩⟩,⟨⟨[110,97,109,101]⟩⟩,⟨⟨[112,97,114,97,109,115]⟩⟩],[],Nm.1,none,false⟩),
 (156,⟨zy,[⟨⟨[111,112]⟩⟩],[],Nn.1,none,false⟩),
 (163,⟨zz,[⟨⟨[111,112]⟩⟩],[],Np.1,none,false⟩),
 (170,⟨zA,[⟨⟨[111,112]⟩⟩,⟨⟨[97,114,103]⟩⟩],[],Nq.1,none,false⟩),
 (177,⟨zB,[⟨⟨[111,112]⟩⟩],[],Nr.1,none,false⟩),
 (184,⟨zC,[⟨⟨[111,112]⟩⟩],[],Nt.1,none,false⟩),
 (191,⟨zD,[⟨⟨[111,110,101]⟩⟩,⟨⟨[111,116,104,101,114]⟩⟩],[],Nu.1,none,false⟩),
 (205,⟨zE,[⟨⟨[115,101,108,102]⟩⟩,⟨⟨[110,97,109,101]⟩⟩,⟨⟨[112,97,114,97,109,115]⟩⟩,⟨⟨[105,115,95,115,116,114,105,99,116]⟩⟩],[],Nv.1,none,false⟩),
 (212,⟨zF,[⟨⟨[115,101,108,102]⟩⟩],[],Nw.1,none,false⟩),
 (220,⟨qE,[⟨⟨[115,101,108,102]⟩⟩,⟨⟨[111,112]⟩⟩,⟨⟨[97,114,103]⟩⟩],[.none],D0.1,none,false⟩),
 (227,⟨zG,[⟨⟨[115,101,108,102]⟩⟩],[],Nx.1,none,false⟩),
 (234,⟨vO,[⟨⟨[115,101,108,102]⟩⟩,⟨⟨[108,97,98,101,108]⟩⟩],[],D1.1,none,false⟩),
 (241,⟨vP,[⟨⟨[115,101,108,102]⟩⟩,⟨⟨[111,112]⟩⟩,⟨⟨[108,97,98,101,108]⟩⟩],[],D2.1,none,false⟩),
 (248,⟨kQ,[⟨⟨[115,101,108,102]⟩⟩,⟨⟨[118,97,108,117,101]⟩⟩],[],kR.1,none,false⟩),
 (269,⟨zH,[⟨⟨[115,101,108,102]⟩⟩,⟨⟨[117,110,105,116]⟩⟩],[],Ny.1,none,false⟩),
 (276,⟨zI,[⟨⟨[115,101,108,102]⟩⟩,⟨⟨[115,116,97,114,116]⟩⟩,⟨⟨[101,110,100]⟩⟩,⟨⟨[116,97,114,103,101,116]⟩⟩,⟨⟨[100,101,112,116,104]⟩⟩,⟨⟨[105,115,95,102,105,110,97,108,108,121]⟩⟩],[],Nz.1,none,false⟩),
 (283,⟨vQ,[⟨⟨[115,101,108,102]⟩⟩,⟨⟨[108,97,98,101,108]⟩⟩,⟨⟨[112,99]⟩⟩],[],D3.1,none,false⟩),
 (290,⟨s8,[⟨⟨[115,101,108,102]⟩⟩],[],j8.1,none,false⟩),
 (297,⟨s9,[⟨⟨[115,101,108,102]⟩⟩],[],nI.1,none,false⟩),
 (304,⟨ta,[⟨⟨[115,101,108,102]⟩⟩],[],zJ.1,none,true⟩),
 (318,⟨zK,[⟨⟨[111,112]⟩⟩,⟨⟨[100,101,112,116,104]⟩⟩],[],NA.1,none,false⟩),
 (332,⟨zL,[⟨⟨[115,101,108,102]⟩⟩,⟨⟨[110,97,109,101]⟩⟩,⟨⟨[112,97,114,97,109,115]⟩⟩,⟨⟨[105,115,95,115,116,114,105,99,116]⟩⟩],[],NB.1,none,false⟩),
 (339,⟨zM,[⟨⟨[115,101,108,102]⟩⟩],[],NC.1,none,false⟩),
 (346,⟨zN,[⟨⟨[115,101,108,102]⟩⟩,⟨⟨[108,105,110,101]⟩⟩],[],ND.1,none,false⟩),
 (353,⟨zO,[⟨⟨[115,101,108,102]⟩⟩],[],NF.1,none,false⟩),
 (360,⟨tb,[⟨⟨[115,101,108,102]⟩⟩,⟨⟨[108,97,98,101,108]⟩⟩,⟨⟨[100,101,112,116,104]⟩⟩],[],zP.1,none,false⟩),
 (368,⟨qF,[⟨⟨[115,101,108,102]⟩⟩,⟨⟨[111,112]⟩⟩,⟨⟨[97,114,103]⟩⟩],[.none],D4.1,none,false⟩),
 (375,⟨vR,[⟨⟨[115,101,108,102]⟩⟩,⟨⟨[118,97,108,117,101]⟩⟩],[],D5.1,none,false⟩),
 (382,⟨vS,[⟨⟨[115,101,108,102]⟩⟩,⟨⟨[111,112]⟩⟩,⟨⟨[116,101,120,116]⟩⟩],[],D6.1,none,false⟩),
 (389,⟨qG,[⟨⟨[115,101,108,102]⟩⟩,⟨⟨[111,112]⟩⟩,⟨⟨[108,97,98,101,108]⟩⟩],[],vT.1,none,false⟩),
 (396,⟨tc,[⟨⟨[115,101,108,102]⟩⟩,⟨⟨[108,97,98,101,108]⟩⟩],[],zQ.1,none,false⟩),
 (403,⟨vU,[⟨⟨[115,101,108,102]⟩⟩,⟨⟨[108,97,98,101,108]⟩⟩,⟨⟨[100,101,112,116,104]⟩⟩],[],D7.1,none,false⟩),
 (410,⟨td,[⟨⟨[115,101,108,102]⟩⟩],[],zR.1,none,false⟩),
 (433,⟨zS,[⟨⟨[115,101,108,102]⟩⟩,⟨⟨[115,99,111,112,101]⟩⟩,⟨⟨[110,97,109,101]⟩⟩],[],NG.1,none,false⟩),
 (447,⟨qH,[⟨⟨[115,101,108,102]⟩⟩,⟨⟨[110,97,109,101]⟩⟩],[],vV.1,none,false⟩),
 (454,⟨qI,[⟨⟨[115,101,108,102]⟩⟩,⟨⟨[112,108,97,99,101]⟩⟩],[],vW.1,none,false⟩),
 (461,⟨qJ,[⟨⟨[115,101,108,102]⟩⟩,⟨⟨[110,97,109,101]⟩⟩],[],vX.1,none,false⟩),
 (496,⟨vY,[⟨⟨[115,101,108,102]⟩⟩,⟨⟨[107,105,110,100]⟩⟩,⟨⟨[108,97,98,101,108,115]⟩⟩,⟨⟨[98,101,104,105,110,100]⟩⟩,⟨⟨[97,103,97,105,110]⟩⟩],[],D8.1,none,false⟩),
 (557,⟨vZ,[⟨⟨[99,111,100,101]⟩⟩,⟨⟨[110,111,100,101]⟩⟩,⟨⟨[108,97,98,101,108]⟩⟩,⟨⟨[119,104,101,110]⟩⟩,⟨⟨[112,117,115,104]⟩⟩],[],D9.1,none,false⟩),
 (601,⟨o1,[⟨⟨[115,101,108,102]⟩⟩,⟨⟨[110,111,100,101]⟩⟩],[],te.1,none,false⟩),
 (608,⟨v3,[⟨⟨[115,101,108,102]⟩⟩,⟨⟨[110,111,100,101]⟩⟩],[],Ea.1,none,false⟩),
 (622,⟨v5,[⟨⟨[115,101,108,102]⟩⟩,⟨⟨[110,111,100,101]⟩⟩],[],Eb.1,none,false⟩),
 (650,⟨v7,[⟨⟨[115,101,108,102]⟩⟩,⟨⟨[116,97,114,103,101,116]⟩⟩],[],Ec.1,none,false⟩),
 (705,⟨tf,[⟨⟨[115,101,108,102]⟩⟩,⟨⟨[110,111,100,101,115]⟩⟩],[],o2.1,none,true⟩),
 (712,⟨tg,[⟨⟨[115,101,108,102]⟩⟩,⟨⟨[110,111,100,101]⟩⟩],[],zT.1,none,false⟩),
 (719,⟨v8,[⟨⟨[115,101,108,102]⟩⟩],[],Ed.1,none,false⟩),
 (726,⟨zU,[⟨⟨[115,101,108,102]⟩⟩,⟨⟨[112,97,105,114,115]⟩⟩],[],NH.1,none,false⟩),
 (747,⟨th,[⟨⟨[115,101,108,102]⟩⟩,⟨⟨[110,111,100,101]⟩⟩,⟨⟨[108,97,98,101,108,115]⟩⟩],[],zV.1,none,false⟩),
 (754,⟨v9,[⟨⟨[115,101,108,102]⟩⟩,⟨⟨[110,111,100,101]⟩⟩,⟨⟨[99,111,110,116,114,111,108]⟩⟩],[],Ee.1,none,false⟩),
 (761,⟨wa,[⟨⟨[115,101,108,102]⟩⟩,⟨⟨[116,101,115,116]⟩⟩,⟨⟨[110,111,100,101]⟩⟩,⟨⟨[99,111,110,116,114,111,108]⟩⟩],[],Ef.1,none,false⟩),
 (782,⟨ti,[⟨⟨[115,101,108,102]⟩⟩,⟨⟨[112,97,114,116,115]⟩⟩,⟨⟨[99,111,110,116,114,111,108]⟩⟩],[],zW.1,none,false⟩),
 (789,⟨nJ,[⟨⟨[115,101,108,102]⟩⟩,⟨⟨[116,97,114,103,101,116]⟩⟩],[],qK.1,none,false⟩),
 (803,⟨tj,[⟨⟨[115,101,108,102]⟩⟩,⟨⟨[110,111,100,101]⟩⟩],[],zX.1,none,false⟩),
 (810,⟨zY,[⟨⟨[115,101,108,102]⟩⟩],[],NI.1,none,false⟩),
 (817,⟨wb,[⟨⟨[115,101,108,102]⟩⟩,⟨⟨[108,97,115,116]⟩⟩,⟨⟨[114,101,115,116]⟩⟩,⟨⟨[101,110,100]⟩⟩],[],Eg.1,none,false⟩),
 (824,⟨wc,[⟨⟨[115,101,108,102]⟩⟩,⟨⟨[110,111,100,101]⟩⟩,⟨⟨[115,116,97,114,116]⟩⟩,⟨⟨[115,116,111,112]⟩⟩,⟨⟨[100,101,112,116,104]⟩⟩,⟨⟨[97,104,101,97,100]⟩⟩],[],Eh.1,none,false⟩),
 (850,⟨wd,[⟨⟨[115,101,108,102]⟩⟩,⟨⟨[107,105,110,100]⟩⟩,⟨⟨[108,105,110,101]⟩⟩,⟨⟨[112,97,114,116,115]⟩⟩],[],Ei.1,none,false⟩),
 (864,⟨we,[⟨⟨[98,111,120]⟩⟩,⟨⟨[119,105,100,101]⟩⟩],[],Ej.1,none,false⟩),
 (871,⟨wg,[⟨⟨[98,111,120]⟩⟩,⟨⟨[109,97,110,121]⟩⟩],[],Ek.1,none,false⟩),
 (878,⟨tk,[⟨⟨[98,111,120]⟩⟩,⟨⟨[105,115,95,99,97,117,103,104,116]⟩⟩],[],zZ.1,none,false⟩),
 (883,⟨qL,[⟨⟨[98,111,120]⟩⟩,⟨⟨[100,101,101,112]⟩⟩,⟨⟨[105,115,95,99,97,117,103,104,116]⟩⟩],[],gT.1,none,true⟩),
 (890,⟨tl,[],[],gE.1,some (0,"_law_view.<locals>.<lambda>"),true⟩),
 (897,⟨qM,[⟨⟨[119,111,114,108,100]⟩⟩,⟨⟨[110,97,109,101]⟩⟩],[],o3.1,none,false⟩),
 (904,⟨tm,[⟨⟨[119,111,114,108,100]⟩⟩,⟨⟨[119,104,97,116]⟩⟩,⟨⟨[118,97,108,117,101]⟩⟩],[],o4.1,none,false⟩),
 (911,⟨tn,[⟨⟨[119,111,114,108,100]⟩⟩,⟨⟨[116,97,114,103,101,116]⟩⟩,⟨⟨[107,101,121]⟩⟩],[],qN.1,none,false⟩),
 (918,⟨tp,[⟨⟨[119,111,114,108,100]⟩⟩,⟨⟨[110,111,100,101]⟩⟩],[],lI.1,none,false⟩),
 (925,⟨qO,[⟨⟨[119,111,114,108,100]⟩⟩,⟨⟨[108,105,110,101,115]⟩⟩],[],iV.1,none,false⟩),
 (930,⟨qP,[⟨⟨[119,111,114,108,100]⟩⟩,⟨⟨[119,111,114,100]⟩⟩,⟨⟨[119,104,101,114,101]⟩⟩,⟨⟨[115,116,97,99,107]⟩⟩,⟨⟨[117,110,105,116]⟩⟩],[],qQ.1,none,false⟩),
 (937,⟨qR,[⟨⟨[117,110,105,116]⟩⟩,⟨⟨[97,116]⟩⟩,⟨⟨[115,116,97,99,107]⟩⟩,⟨⟨[102,97,117,108,116]⟩⟩],[],lJ.1,none,false⟩),
 (944,⟨tq,[⟨⟨[119,111,114,108,100]⟩⟩,⟨⟨[117,110,105,116]⟩⟩],[],qS.1,none,false⟩),
 (949,⟨tr,[⟨⟨[119,111,114,108,100]⟩⟩],[],z0.1,none,false⟩),
 (954,⟨qT,[⟨⟨[115,99,114,105,112,116]⟩⟩],[],fB.1,some (1,"law.<locals>.<lambda>"),false⟩)]
structure nM where
 init:Addr
 ms:List (Str×Addr)
 as:List Str
noncomputable def hI:List (Addr×nM):=[
 (853,⟨850,[],[⟨⟨[107,105,110,100]⟩⟩,⟨⟨[108,105,110,101]⟩⟩,⟨⟨[112,97,114,116,115]⟩⟩,⟨⟨[115,99,111,112,101]⟩⟩,⟨⟨[112,97,114,97,109,115]⟩⟩,⟨⟨[105,115,95,115,116,114,105,99,116]⟩⟩,⟨⟨[108,111,99,97,108,95,99,111,117,110,116]⟩⟩,⟨⟨[115,111,114,116]⟩⟩,⟨⟨[102,105,110,100]⟩⟩,⟨⟨[105,115,95,99,111,110,115,116,97,110,116]⟩⟩,⟨⟨[99,97,117,103,104,116]⟩⟩,⟨⟨[112,108,97,99,101]⟩⟩]⟩),
 (834,⟨433,[(⟨⟨[115,116,97,116,101,109,101,110,116,115]⟩⟩,705),(⟨⟨[115,116,97,116,101,109,101,110,116]⟩⟩,712),(⟨⟨[100,114,111,112,95,114,101,115,117,108,116]⟩⟩,719),(⟨⟨[118,97,114,105,97,98,108,101,115]⟩⟩,726),(⟨⟨[108,111,111,112]⟩⟩,747),(⟨⟨[98,111,100,121]⟩⟩,754),(⟨⟨[119,104,105,108,101,95,108,111,111,112]⟩⟩,761),(⟨⟨[107,101,121,115,95,108,111,111,112]⟩⟩,782),(⟨⟨[116,97,107,101,95,107,101,121]⟩⟩,789),(⟨⟨[103,117,97,114,100,101,100]⟩⟩,803),(⟨⟨[107,101,112,116,95,114,101,115,117,108,116]⟩⟩,810),(⟨⟨[99,108,111,115,101,95,103,117,97,114,100,101,100]⟩⟩,817),(⟨⟨[99,97,117,103,104,116]⟩⟩,824),(⟨⟨[118,97,108,117,101]⟩⟩,601),(⟨⟨[111,116,104,101,114,95,118,97,108,117,101]⟩⟩,608),(⟨⟨[99,108,111,115,117,114,101]⟩⟩,622),(⟨⟨[101,108,101,109,101,110,116]⟩⟩,650),(⟨⟨[103,101,116,95,110,97,109,101]⟩⟩,447),(⟨⟨[115,101,116,95,112,108,97,99,101]⟩⟩,454),(⟨⟨[115,101,116,95,110,97,109,101]⟩⟩,461)],[⟨⟨[115,99,111,112,101]⟩⟩,⟨⟨[118,105,101,119]⟩⟩,⟨⟨[99,111,100,101]⟩⟩,⟨⟨[99,111,110,116,114,111,108,115]⟩⟩,⟨⟨[108,111,99,97,108,95,99,111,117,110,116]⟩⟩,⟨⟨[114,101,115,117,108,116]⟩⟩,⟨⟨[105,110,110,101,114,95,117,110,105,116]⟩⟩]⟩),
 (413,⟨332,[(⟨⟨[105,115,95,111,112,101,110]⟩⟩,339),(⟨⟨[115,101,116,95,108,105,110,101]⟩⟩,346),(⟨⟨[110,101,119,95,108,97,98,101,108]⟩⟩,353),(⟨⟨[109,101,101,116]⟩⟩,360),(⟨⟨[97,100,100]⟩⟩,368),(⟨⟨[97,100,100,95,99,111,110,115,116]⟩⟩,375),(⟨⟨[97,100,100,95,110,97,109,101,100]⟩⟩,382),(⟨⟨[106,117,109,112,95,116,111]⟩⟩,389),(⟨⟨[115,116,97,110,100]⟩⟩,396),(⟨⟨[101,110,116,101,114]⟩⟩,403),(⟨⟨[109,97,114,107]⟩⟩,410)],[⟨⟨[109,97,100,101]⟩⟩,⟨⟨[100,101,112,116,104]⟩⟩,⟨⟨[100,101,112,116,104,115]⟩⟩]⟩),
 (307,⟨205,[(⟨⟨[104,101,114,101]⟩⟩,212),(⟨⟨[101,109,105,116]⟩⟩,220),(⟨⟨[108,97,98,101,108]⟩⟩,227),(⟨⟨[112,108,97,99,101]⟩⟩,234),(⟨⟨[106,117,109,112]⟩⟩,241),(⟨⟨[99,111,110,115,116]⟩⟩,248),(⟨⟨[105,110,110,101,114]⟩⟩,269),(⟨⟨[104,97,110,100,108,101,114]⟩⟩,276),(⟨⟨[112,108,97,99,101,95,111,102]⟩⟩,283),(⟨⟨[112,108,97,99,101,100,95,99,111,100,101]⟩⟩,290),(⟨⟨[112,108,97,99,101,100,95,104,97,110,100,108,101,114,115]⟩⟩,297),(⟨⟨[117,110,105,116]⟩⟩,304)],[⟨⟨[110,97,109,101]⟩⟩,⟨⟨[112,97,114,97,109,115]⟩⟩,⟨⟨[105,115,95,115,116,114,105,99,116]⟩⟩,⟨⟨[99,111,100,101]⟩⟩,⟨⟨[108,105,110,101,115]⟩⟩,⟨⟨[108,105,110,101]⟩⟩,⟨⟨[99,111,110,115,116,115]⟩⟩,⟨⟨[117,110,105,116,115]⟩⟩,⟨⟨[112,108,97,99,101,115]⟩⟩,⟨⟨[104,97,110,100,108,101,114,115]⟩⟩,⟨⟨[108,111,99,97,108,95,99,111,117,110,116]⟩⟩,⟨⟨[99,101,108,108,95,99,111,117,110,116]⟩⟩,⟨⟨[99,97,112,116,117,114,101,115]⟩⟩,⟨⟨[117,115,101,115,95,97,114,103,117,109,101,110,116,115]⟩⟩,⟨⟨[115,101,108,102,95,115,108,111,116]⟩⟩,⟨⟨[97,114,103,117,109,101,110,116,115,95,112,108,97,99,101]⟩⟩,⟨⟨[112,97,114,97,109,95,112,108,97,99,101,115]⟩⟩]⟩),
 (506,⟨496,[],[⟨⟨[107,105,110,100]⟩⟩,⟨⟨[108,97,98,101,108,115]⟩⟩,⟨⟨[98,101,104,105,110,100]⟩⟩,⟨⟨[97,103,97,105,110]⟩⟩]⟩),
 (145,⟨142,[],[⟨⟨[110,97,109,101]⟩⟩,⟨⟨[112,97,114,97,109,115]⟩⟩,⟨⟨[99,111,100,101]⟩⟩,⟨⟨[99,111,110,115,116,115]⟩⟩,⟨⟨[117,110,105,116,115]⟩⟩,⟨⟨[104,97,110,100,108,101,114,115]⟩⟩,⟨⟨[108,105,110,101,115]⟩⟩,⟨⟨[108,111,99,97,108,95,99,111,117,110,116]⟩⟩,⟨⟨[99,101,108,108,95,99,111,117,110,116]⟩⟩,⟨⟨[99,97,112,116,117,114,101,115]⟩⟩,⟨⟨[105,115,95,115,116,114,105,99,116]⟩⟩,⟨⟨[117,115,101,115,95,97,114,103,117,109,101,110,116,115]⟩⟩,⟨⟨[115,101,108,102,95,115,108,111,116]⟩⟩,⟨⟨[97,114,103,117,109,101,110,116,115,95,112,108,97,99,101]⟩⟩,⟨⟨[112,97,114,97,109,95,112,108,97,99,101,115]⟩⟩]⟩)]
noncomputable def kb {α:Type}:List α→Option α
 |[a]=>some a
 |_=>none
noncomputable def tB {α:Type}:List α→Option (α×α)
 |[a,b]=>some (a,b)
 |_=>none
inductive hJ where
 |nm (x:Str) (p:Pos) |at (o:PySem.Expr) (n:Str) (p:Pos) |sub (o i:PySem.Expr) (p:Pos) |tup (bp:List PySem.Expr) (k:Nat) (p:Pos) |fP (lo aM s:Option PySem.Expr) (p:Pos)
 |call (f:PySem.Expr) (args:List PySem.Expr) (gV:List Keyword) (p:Pos) |cst (c:Const) (k:Nat) (p:Pos) |lc (elt:PySem.Expr) (gens:List Comprehension) (sc:Scope) (p:Pos) |Er
noncomputable def e1:PySem.Expr→hJ
 |.Name x p=>.nm x p
 |.Attribute o n p=>.at o n p
 |.Subscript o i p=>.sub o i p
 |.Tuple bp k p=>.tup bp k p
 |.Slice lo aM s p=>.fP lo aM s p
 |.Call f args gV p=>.call f args gV p
 |.Constant c k p=>.cst c k p
 |.ListComp elt gens sc p=>.lc elt gens sc p
 |_=>.Er
noncomputable def hJ.is (e:PySem.Expr):hJ→Prop
 |.nm x p=>e=.Name x p
 |.at o n p=>e=.Attribute o n p
 |.sub o i p=>e=.Subscript o i p
 |.tup bp k p=>e=.Tuple bp k p
 |.fP lo aM s p=>e=.Slice lo aM s p
 |.call f args gV p=>e=.Call f args gV p
 |.cst c k p=>e=.Constant c k p
 |.lc elt gens sc p=>e=.ListComp elt gens sc p
 |.Er=>True
noncomputable def hJ.NQ:hJ→Option (Str×Pos)
 |.nm x p=>some (x,p)
 |_=>none
noncomputable def hJ.NR:hJ→Option (PySem.Expr×Str×Pos)
 |.at o n p=>some (o,n,p)
 |_=>none
noncomputable def hJ.hF:hJ→Option (List PySem.Expr)
 |.tup bp _ _=>some bp
 |_=>none
noncomputable def hJ.lO:hJ→Option (Option PySem.Expr×Option PySem.Expr×Option PySem.Expr)
 |.fP lo aM s _=>some (lo,aM,s)
 |_=>none
noncomputable def hJ.z6:hJ→Option Str
 |.cst (.str s) _ _=>some s
 |_=>none
noncomputable def kc (e:PySem.Expr):Option (Str×Pos):=(e1 e).NQ
noncomputable def lP (e:PySem.Expr):Option (PySem.Expr×Str×Pos):=(e1 e).NR
noncomputable def f3 (e:PySem.Expr):Option (List PySem.Expr):=(e1 e).hF
noncomputable def tC (e:PySem.Expr):Option (Option PySem.Expr×Option PySem.Expr×Option PySem.Expr):=(e1 e).lO
noncomputable def gW (k:Nat) (e:PySem.Expr):Bool:=Nat.beq e.ctorIdx k
noncomputable def gq (e:PySem.Expr):Bool:=gW 7 e
noncomputable def isStar (e:PySem.Expr):Bool:=gW 22 e
noncomputable def z7 (e:PySem.Expr):Bool:=gW 25 e
noncomputable def z8 (e:PySem.Expr):Bool:=gW 24 e
noncomputable def nN (e:PySem.Expr):Bool:=gW 26 e
noncomputable def mQ (e:PySem.Expr):Bool:=gW 8 e || gW 9 e || gW 10 e
noncomputable def wk (e:PySem.Expr):Bool:=!(gW 3 e || gW 0 e || gW 5 e || gW 15 e)
noncomputable def baseOk (e:PySem.Expr):Bool:=gW 23 e || gW 20 e || gW 21 e
noncomputable def isNm (e:PySem.Expr):Bool:=gW 23 e
noncomputable def tD (e:PySem.Expr):Bool:=gW 20 e || gW 16 e || gW 24 e || (kc e).any fun x=>!seq x.1 "__debug__"
inductive cD where
 |next |brk |cont |ret (v:V)
structure a5 where
 sc:Scope
 cs:List (Str×Nat)
 tab:Option (Nat×Str)
 ls:List (Str×V)
inductive Src where
 |aN (vs:List V) |di (vs:List V) |ref (i:Nat) |cx (a b:Int) |ju (s:Src)
structure dO where
 ev:Nat→a5→PySem.Expr→ax→Option (V×ax)
 es:Nat→a5→PySem.Expr→ax→Option (Bool×ax)
 ex:Nat→a5→List Stmt→ax→Option (cD×List (Str×V)×ax)
 as:Nat→a5→PySem.Expr→V→ax→Option (List (Str×V)×ax)
 cl:Nat→V→List V→ax→Option (V×ax)
 jv:Nat→a5→PySem.Expr→Src→Nat→List Stmt→ax→Option (cD×List (Str×V)×ax)
 tE:Nat→a5→PySem.Expr→List Stmt→ax→Option (cD×List (Str×V)×ax)
 dz:Nat→a5→PySem.Expr→PySem.Expr→List PySem.Expr→Src→Nat→Nat→ax→Option ax
noncomputable def c2 {α:Type}(a:Nat):List (Nat×α)→Option α
 |[]=>none
 |(b,v)::r=>match Nat.beq a b with
  |true=>some v
  |false=>c2 a r
noncomputable def lQ (x:Str):List Str→Bool
 |[]=>false
 |y::r=>seq x y || lQ x r
noncomputable def d7 {α:Type}(x:Str) (v:α):List (Str×α)→List (Str×α)
 |[]=>[(x,v)]
 |(y,u)::r=>match seq x y with
  |true=>(y,v)::r
  |false=>(y,u)::d7 x v r
noncomputable def gX (fr:a5) (x:Str):Option NameKind:=match seq x "__debug__" with
 |true=>none
 |false=>look x fr.sc.names
noncomputable def h2:Option NameKind→Bool
 |some .local=>true
 |_=>false
noncomputable def Es:Option NameKind→Bool
 |some .free=>true
 |_=>false
noncomputable def o7:Option NameKind→Bool
 |some .cell=>true
 |_=>false
noncomputable def z9:Option NameKind→Bool
 |some .globalImplicit=>true
 |_=>false
noncomputable def tF:Option aj→Option (Option V)
 |some (.cell u)=>some u
 |_=>none
noncomputable def lR:Option aj→Option (Addr×List (Str×V))
 |some (.inst C fs)=>some (C,fs)
 |_=>none
noncomputable def eF:Option aj→Option (List V)
 |some (.list vs)=>some vs
 |_=>none
noncomputable def tG:Option aj→Option (List (Str×V))
 |some (.dict fs)=>some fs
 |_=>none
noncomputable def wm:Option aj→Option (Str×List (Nat×Nat))
 |some (.tab q rows)=>some (q,rows)
 |_=>none
noncomputable def eL:V→Option Int
 |.int i=>some i
 |_=>none
noncomputable def nO:V→Option Str
 |.str s=>some s
 |_=>none
noncomputable def mR:V→Option (List V)
 |.tup s=>some s
 |_=>none
noncomputable def o8:V→Option Bool
 |.bool b=>some b
 |_=>none
noncomputable def kW:V→Option Nat
 |.ref i=>some i
 |_=>none
noncomputable def tH:V→Option (List V)
 |.aN vs=>some vs
 |_=>none
noncomputable def Et:V→Option (Addr×List (Str×V))
 |.fin C fs=>some (C,fs)
 |_=>none
noncomputable def Eu:V→Option (List (Str×V))
 |.fd fs=>some fs
 |_=>none
noncomputable def o9 (fr:a5) (x:Str) (st:ax):Option V:=bif h2 (gX fr x) then look x fr.ls else
 bif o7 (gX fr x) then (look x fr.cs).bind fun i=>(tF st.H[i]?).bind id else bif z9 (gX fr x) then (look x wj).elim (look x z5) some else none
noncomputable def wo:List Nat→Bool
 |[]=>true
 |c::r=>Nat.blt c 1114112&&wo r
noncomputable def Aa (s:Str):Bool:=wo s.cps.toList
noncomputable def Ew:Const→Option V
 |.none=>some .none
 |.bool b=>some (.bool b)
 |.int i=>some (.int i)
 |.str s=>bif Aa s then some (.str s) else none
 |_=>none
noncomputable def nP:V→Bool
 |.any=>true
 |.obj _=>true
 |_=>false
noncomputable def Ab (v:V):Option V:=bif nP v then none else some v
noncomputable def fieldsOf (v:V) (st:ax):Option (Addr×List (Str×V)):=(Et v).elim ((kW v).bind fun i=>lR st.H[i]?) some
noncomputable def wq (y:Addr×List (Str×V)) (nm:Str):Option V:=(c2 y.1 hI).bind fun ci=>bif lQ nm ci.as then (look nm y.2).bind Ab else none
noncomputable def Ac (y:Addr×List (Str×V)) (nm:Str):Option Addr:=(c2 y.1 hI).bind fun ci=>bif (look nm y.2).isSome then none else look nm ci.ms
noncomputable def mS (v:V) (nm:Str) (st:ax):Option V:=(fieldsOf v st).bind fun y=>(wq y nm).elim ((Ac y nm).map fun f=>.fC f v) some
noncomputable def Ex (nm:Str):Option String:=bif seq nm "append" then some "list.append" else bif seq nm "pop" then some "list.pop" else bif seq nm "insert" then some "list.insert" else none
noncomputable def ke (v:V) (nm:Str) (st:ax):Option (V×List V):=(fieldsOf v st).elim ((kW v).bind fun i=>(eF st.H[i]?).bind fun _=>(Ex nm).map fun id=>(.obj (.builtin id),[v]))
 fun y=>(wq y nm).elim ((Ac y nm).map fun f=>(.obj (.ref f),[v])) fun u=>some (u,[])
noncomputable def mT (v:V) (nm:Str) (x:V) (st:ax):Option ax:=(kW v).bind fun i=>(lR st.H[i]?).bind fun y=>(c2 y.1 hI).bind fun ci =>
 bif lQ nm ci.as&&Nat.blt y.2.length 100 then some ⟨st.H.set i (.inst y.1 (d7 nm x y.2)),st.aa⟩ else none
noncomputable def idx (k:Int) (n:Nat):Option Nat:=match decide (0≤k) with
 |true=>some k.toNat
 |false=>match decide (-(n:Int)≤k) with
  |true=>some (k+n).toNat
  |false=>none
noncomputable def kf (v:V) (st:ax):Option (List V):=(tH v).elim ((kW v).bind fun r=>eF st.H[r]?) some
noncomputable def Ey (v:V) (st:ax):Option (List (Str×V)):=(Eu v).elim ((kW v).bind fun r=>tG st.H[r]?) some
noncomputable def q0 (v:V) (st:ax):Option (List V):=(mR v).elim (kf v st) some
noncomputable def jw (v k:V) (st:ax):Option V:=(eL k).elim ((nO k).bind fun s=>(Ey v st).bind fun fs=>look s fs) fun i=>(q0 v st).bind fun vs=>(idx i vs.length).bind fun j=>vs[j]?
noncomputable def nQ (v k x:V) (st:ax):Option ax:=(kW v).bind fun r=>(eL k).elim
 ((nO k).bind fun s=>(tG st.H[r]?).bind fun fs=>(look s fs).map fun _=>⟨st.H.set r (.dict (d7 s x fs)),st.aa⟩)
 fun i=>(eF st.H[r]?).bind fun vs=>bif decide (0≤i) then (vs[i.toNat]?).map fun _=>⟨st.H.set r (.list (vs.set i.toNat x)),st.aa⟩ else none
noncomputable def nR (o:aj) (st:ax):V×ax:=(.ref st.H.length,⟨st.H++[o],st.aa⟩)
noncomputable def Ad (v k:V) (st:ax):Option (V×ax):=(eL k).bind fun i=>bif decide (0≤i)&&decide (i<1000) then (mR v).elim ((nO v).elim ((kf v st).map fun vs=>nR (.list (vs.take i.toNat)) st)
 fun s=>bif Nat.blt s.cps.toList.length 1000 then some (.str ⟨⟨s.cps.toList.take i.toNat⟩⟩,st) else none) (fun vs=>some (.tup (vs.take i.toNat),st)) else none
noncomputable def kg (f:V→Option PyData):List V→Option (List PyData)
 |[]=>some []
 |v::vs=>(f v).bind fun d=>(kg f vs).map fun ds=>d::ds
noncomputable def Ez (f:V→Option PyData) (H:List aj) (v:V):Option PyData:=match v with
 |.none=>some .none
 |.bool b=>some (.bool b)
 |.int i=>some (.int i)
 |.str s=>some (.str s)
 |.tup vs=>(kg f vs).map .tuple
 |.aN vs=>(kg f vs).map .list
 |.ref r=>(eF H[r]?).bind fun vs=>(kg f vs).map .list
 |_=>none
noncomputable def toPy (H:List aj):Nat→V→Option PyData
 |0,_=>none
 |n+1,v=>Ez (toPy H n) H v
noncomputable def EA (i:Int):PyData→Bool
 |.bool b=>decide (i=(if b then 1 else 0))
 |.int j=>decide (i=j)
 |_=>false
noncomputable def NS (x:Str):PyData→Bool
 |.str y=>seq x y
 |_=>false
noncomputable def NT:PyData→Bool
 |.none=>true
 |_=>false
noncomputable def EB (f:List PyData→Bool):PyData→Bool
 |.list xs=>f xs
 |_=>false
noncomputable def EC (f:List PyData→Bool):PyData→Bool
 |.tuple xs=>f xs
 |_=>false
mutual
noncomputable def gr:PyData→PyData→Bool
 |.none,b=>NT b
 |.bool a,b=>EA (if a then 1 else 0) b
 |.int i,b=>EA i b
 |.str x,b=>NS x b
 |.list xs,b=>EB (jx xs) b
 |.tuple xs,b=>EC (jx xs) b
 |.dict _,_=>false
noncomputable def jx:List PyData→List PyData→Bool
 |[],b=>b.isEmpty
 |x::xs,b=>match b with
  |[]=>false
  |y::ys=>gr x y&&jx xs ys
end
noncomputable def tI:V→Option PyData
 |.none=>some .none
 |.bool b=>some (.bool b)
 |.int i=>some (.int i)
 |.str s=>some (.str s)
 |_=>none
noncomputable def ED (a b:V):Option Bool:=(tI a).bind fun d=>(tI b).map fun e=>gr d e
noncomputable def wt (a b:V) (H:List aj):Option Bool:=(ED a b).elim ((toPy H 6 a).bind fun d=>(toPy H 6 b).map fun e=>gr d e) some
noncomputable def memD (d:PyData):List V→Option Bool
 |[]=>none
 |b::r=>(tI b).bind fun e=>bif r.isEmpty then some (gr e d) else (memD d r).map fun y=>gr e d || y
noncomputable def EE (a:V) (vs:List V):Option Bool:=(tI a).bind fun d=>memD d vs
noncomputable def Ae (v:V):Option (List V):=(mR v).elim (tH v) some
noncomputable def isNone:V→Bool
 |.none=>true
 |_=>false
noncomputable def wu (v:V):Option Bool:=bif nP v then none else some (isNone v)
noncomputable def q1 (f:Int→Int→Bool) (a b:V):Option Bool:=(eL a).bind fun i=>(eL b).map fun j=>f i j
noncomputable def EF (op:CmpOp) (a b:V) (H:List aj):Option Bool:=match op with
 |.Eq=>wt a b H
 |.NotEq=>(wt a b H).map fun r=>!r
 |.Lt=>q1 (fun i j=>decide (i<j)) a b
 |.LtE=>q1 (fun i j=>decide (i≤j)) a b
 |.Gt=>q1 (fun i j=>decide (j<i)) a b
 |.GtE=>q1 (fun i j=>decide (j≤i)) a b
 |.Is=>bif isNone b then wu a else none
 |.IsNot=>bif isNone b then (wu a).map fun r=>!r else none
 |.In=>(Ae b).bind fun vs=>EE a vs
 |.NotIn=>none
noncomputable def dX (op:CmpOp) (a b:V) (st:ax):Option (Bool×ax):=(EF op a b st.H).map fun r=>(r,st)
noncomputable def EG (a b:V) (st:ax):Option (V×ax):=(eL a).elim ((nO a).elim ((mR a).bind fun s=>(mR b).bind fun t=>bif Nat.blt (s.length+t.length) 1000 then some (.tup (s++t),st) else none)
 fun s=>(nO b).bind fun t=>bif Nat.blt (s.cps.toList.length+t.cps.toList.length) 1000 then some (.str (s++t),st) else none) fun i=>(eL b).map fun j=>(.int (i+j),st)
noncomputable def EH (op:Operator) (i j:Int) (st:ax):Option (V×ax):=match op with
 |.Sub=>some (.int (i - j),st)
 |.Mult=>bif Nat.blt i.natAbs 1000 then some (.int (i * j),st) else none
 |.Mod=>some (.int (i.fmod j),⟨st.H,st.aa∧0<j⟩)
 |.FloorDiv=>some (.int (i.fdiv j),⟨st.H,st.aa∧0<j∧j<1000⟩)
 |_=>none
noncomputable def isAdd:Operator→Bool
 |.Add=>true
 |_=>false
noncomputable def q2 (op:Operator) (a b:V) (st:ax):Option (V×ax):=bif isAdd op then EG a b st else (eL a).bind fun i=>(eL b).bind fun j=>EH op i j st
noncomputable def kX:Nat→Str
 |0 => "0" |1 => "1" |2 => "2" |3 => "3" |4 => "4" |5 => "5" |6 => "6" |7 => "7" |8 => "8" |_ => "9"
noncomputable def wx (s:Str):Option Nat:=match seq s "0" with
 |true=>some 0
 |false=>match seq s "1" with
  |true=>some 1
  |false=>match seq s "2" with
   |true=>some 2
   |false=>none
noncomputable def nS:List V→Option Int
 |[]=>some 0
 |v::r=>(eL v).bind fun i=>(nS r).map fun s=>i+s
noncomputable def nT {β:Type}(st:ax) (a:V) (f:Nat→List V→Option β):Option β:=(kW a).bind fun r=>(eF st.H[r]?).bind fun vs=>f r vs
noncomputable def nU (id:String) (a:V) (st:ax):Option (V×ax) :=
 if id = "len" then (kf a st).map fun vs=>(.int vs.length,st)
 else if id = "list.pop" then nT st a fun r vs=>(vs[vs.length - 1]?).map fun x=>(x,⟨st.H.set r (.list vs.dropLast),st.aa⟩)
 else if id = "abs" then (eL a).map fun i=>(.int (if i<0 then -i else i),st)
 else if id = "sum" then (kf a st).bind fun vs=>(nS vs).map fun n=>(.int n,st)
 else none
noncomputable def EI (a:V):Option Bool:=match a with
 |.str _=>some true
 |.int _=>some false
 |_=>none
noncomputable def Af:V→Bool
 |.obj (.type t)=>decide (t = "str")
 |_=>false
noncomputable def nV (id:String) (a b:V) (st:ax):Option (V×ax) :=
 if id = "list.append" then nT st a fun r vs=>some (.none,⟨st.H.set r (.list (vs++[b])),st.aa∧vs.length<aL⟩)
 else if id = "list.pop" then nT st a fun r vs=>(eL b).bind fun i=>(idx i vs.length).bind fun j=>(vs[j]?).map fun x=>(x,⟨st.H.set r (.list (vs.eraseIdx j)),st.aa⟩)
 else if id = "isinstance" then bif Af b then (EI a).map fun q=>(.bool q,st) else none
 else none
noncomputable def wy (id:String) (a b x:V) (st:ax):Option (V×ax) :=
 if id = "list.insert" then nT st a fun r vs=>(eL b).bind fun i=>bif decide (0≤i)&&Nat.ble i.toNat vs.length then some (.none,⟨st.H.set r (.list (vs.take i.toNat++x::vs.drop i.toNat)),st.aa∧vs.length<aL⟩) else none
 else none
noncomputable def wz (id:String) (args:List V) (st:ax):Option (V×ax):=match args with
 |[a]=>nU id a st
 |[a,b]=>nV id a b st
 |[a,b,x]=>wy id a b x st
 |_=>none
noncomputable def EJ (id:String) (a:V) (st:ax):Option (V×ax) :=
 if id = "list" then (kf a st).map fun vs=>nR (.list vs) st
 else if id = "str" then (eL a).bind fun i=>bif decide (0≤i)&&decide (i<10) then some (.str (kX i.toNat),st) else none
 else if id = "int" then (nO a).bind fun s=>(wx s).map fun (n:Nat)=>(V.int (n:Int),st)
 else if id = "range" then (eL a).bind fun n=>bif decide (0≤n)&&decide (n≤1000000) then some (.cx 0 n,st) else none
 else none
noncomputable def EK (id:String) (args:List V) (st:ax):Option (V×ax):=match args with
 |[a]=>EJ id a st
 |_=>none
noncomputable def EL:V→Option (Int×Int)
 |.cx a b=>some (a,b)
 |_=>none
noncomputable def srcOf (v:V) (st:ax):Option Src:=(tH v).elim ((mR v).elim ((kW v).elim ((EL v).bind fun y=>bif decide (0≤y.1)&&(decide (y.1≤y.2)&&decide (y.2≤1000000)) then some (.cx y.1 y.2) else none)
 fun r=>(eF st.H[r]?).map fun _=>.ref r) fun vs=>some (.di vs)) fun vs=>some (.aN vs)
noncomputable def tJ (v:V) (st:ax):Option Src:=(tH v).elim ((kW v).bind fun r=>(eF st.H[r]?).map fun _=>.ju (.ref r)) fun vs=>some (.ju (.aN vs))
noncomputable def itemAt (s:Src) (k:Nat) (H:List aj):Option (Option V):=match s with
 |.aN vs=>some vs[k]?
 |.di vs=>some vs[k]?
 |.ref r=>match H[r]? with
  |some (.list vs)=>some vs[k]?
  |_=>none
 |.cx a b=>match decide (a+k<b) with
  |true=>some (some (.int (a+k)))
  |false=>some none
 |.ju s=>match s with
  |.aN vs=>some ((vs[k]?).map fun x=>.tup [.int k,x])
  |.ref r=>match H[r]? with
   |some (.list vs)=>some ((vs[k]?).map fun x=>.tup [.int k,x])
   |_=>none
  |_=>none
noncomputable def relabel (fr:a5) (sc:Scope):Scope:={sc with names:=sc.names.map fun (n,k)=>if k == .free&&look n fr.sc.names == some .cell then (n,.cell) else (n,k)}
noncomputable def iY (src:Src) (t:PySem.Expr):Bool:=match src with
 |.ju _=>z7 t
 |_=>true
mutual
noncomputable def cq (b:Nat):V→Bool
 |.ref i=>Nat.blt i b
 |.tup vs=>dS b vs
 |.aN vs=>dS b vs
 |.fin _ fs=>jy b fs
 |.fd fs=>jy b fs
 |.fC _ s=>cq b s
 |.none=>true
 |.bool _=>true
 |.int _=>true
 |.str _=>true
 |.obj _=>true
 |.lam _ _ _=>true
 |.cx _ _=>true
 |.any=>true
noncomputable def dS (b:Nat):List V→Bool
 |[]=>true
 |v::r=>cq b v&&dS b r
noncomputable def jy (b:Nat):List (Str×V)→Bool
 |[]=>true
 |(_,v)::r=>cq b v&&jy b r
end
noncomputable def cE (b:Nat):aj→Bool
 |.list vs=>dS b vs
 |.inst _ fs=>jy b fs
 |.dict fs=>jy b fs
 |.cell (some v)=>cq b v
 |.cell none=>true
 |.tab _ _=>true
 |.dead=>true
noncomputable def iz (f:V→Option V):List V→Option (List V)
 |[]=>some []
 |v::r=>(f v).bind fun u=>(iz f r).map fun t=>u::t
noncomputable def nW (f:V→Option V):List (Str×V)→Option (List (Str×V))
 |[]=>some []
 |(k,v)::r=>(f v).bind fun u=>(nW f r).map fun t=>(k,u)::t
noncomputable def wA (f:V→Option V):Option aj→Option V
 |some (.list vs)=>(iz f vs).map .aN
 |some (.inst C fs)=>(nW f fs).map (.fin C)
 |_=>none
noncomputable def EM (f:V→Option V) (H:List aj) (b:Nat) (v:V):Option V:=match v with
 |.ref i=>bif Nat.ble b i then wA f H[i]? else some (.ref i)
 |.tup vs=>(iz f vs).map .tup
 |v=>bif cq b v then some v else none
noncomputable def gF (H:List aj) (b:Nat):Nat→V→Option V
 |0,_=>none
 |n+1,v=>EM (gF H b n) H b v
noncomputable def fin (b:Nat) (v:V) (st:ax):Option (V×ax):=(gF st.H b 8 v).bind fun pa=>bif (st.H.take b).all (cE b) then some (pa,⟨st.H.take b,st.aa⟩) else none
noncomputable def NU (aD:List PySem.Expr):Bool:=(aD.head?.bind fun e=>(e1 e).z6).any fun s=>seq s ⟨⟨[84,114,121]⟩⟩
noncomputable def nK (fr:a5) (f:PySem.Expr) (args:List PySem.Expr):Bool:=(kc f).any fun x=>seq x.1 ⟨⟨[78,111,100,101]⟩⟩&&(((look ⟨⟨[105,115,95,99,97,117,103,104,116]⟩⟩ fr.sc.names).isSome || (look ⟨⟨[109,97,110,121]⟩⟩ fr.sc.names).isSome)&&!NU args)
noncomputable def nX (b:Nat) (x:V×ax):Option (V×ax):=(kW x.1).elim (some x) fun _=>fin b x.1 x.2
section
variable (R:dO)
noncomputable def f6 (n:Nat) (fr:a5):List PySem.Expr→ax→Option (List V×ax)
 |[],st=>some ([],st)
 |e::r,st=>match isStar e with
  |true=>none
  |false=>(R.ev n fr e st).bind fun (v,lS)=>(f6 n fr r lS).map fun (vs,fQ)=>(v::vs,fQ)
noncomputable def EN (k:Option PySem.Expr):Option Str:=k.bind fun e=>(e1 e).z6
noncomputable def q3:List (Option PySem.Expr)→Option (List Str)
 |[]=>some []
 |k::r=>(EN k).bind fun s=>(q3 r).map fun t=>s::t
noncomputable def mU:List Str→Bool
 |[]=>true
 |x::r=>!lQ x r&&mU r
noncomputable def EO:Value→Bool
 |.ref a=>(c2 a dD).isSome || (c2 a hI).isSome
 |.builtin _=>true
 |.type _=>true
 |_=>false
noncomputable def calleeOk:V→Bool
 |.obj x=>EO x
 |.lam _ _ _=>true
 |.fC f _=>(c2 f dD).isSome
 |_=>false
noncomputable def pb (sc:Scope) (cs:List (Str×Nat)):List (Str×Nat):=cs.filter fun x=>Es (look x.1 sc.names)
noncomputable def pd (fr:a5) (sc:Scope) (t it:PySem.Expr) (a:Int):Bool:=decide (a=0)&&isNm t&&!gq it&&(sc.kind == .function)&&sc.names.all (fun x=>(x.2 != .cell)&&(x.2 != .local || look x.1 sc.names == some .local)&&(x.2 != .free || (look x.1 fr.cs).isSome))
noncomputable def q4 (n:Nat) (fr:a5) (elt:PySem.Expr) (gens:List Comprehension) (sc:Scope) (st:ax):Option (V×ax):=(kb gens).bind fun g=>bif pd fr sc g.target g.iter g.is_async then
 (R.ev n fr g.iter st).bind fun x=>(srcOf x.1 x.2).bind fun src =>
  (R.dz n ⟨relabel fr sc,pb sc fr.cs,none,[]⟩ elt g.target g.ifs src 0 x.2.H.length ⟨x.2.H++[.list []],x.2.aa⟩).map fun fQ=>(.ref x.2.H.length,fQ) else none
noncomputable def tK (n:Nat) (fr:a5) (f:PySem.Expr) (args:List PySem.Expr) (gV:List Keyword) (pos:Pos) (st:ax):Option (V×ax):=bif gV.isEmpty then (lP f).elim
 ((R.ev n fr f st).bind fun g=>bif calleeOk g.1 then (f6 R n fr args g.2).bind fun z=>R.cl n g.1 z.1 z.2 else none)
 (fun y=>bif baseOk y.1&&Nat.beq y.2.2.endLine pos.line&&Nat.blt args.length 30 then (R.ev n fr y.1 st).bind fun x=>(ke x.1 y.2.1 x.2).bind fun g=>bif calleeOk g.1 then (f6 R n fr args x.2).bind fun z=>R.cl n g.1 (g.2++z.1) z.2 else none else none) else none
noncomputable def EP:UnaryOp→Bool
 |.Not=>true
 |_=>false
noncomputable def ER:UnaryOp→Bool
 |.USub=>true
 |_=>false
noncomputable def ES:BoolOp→Bool
 |.Or=>true
 |.And=>false
noncomputable def Ag (ps:Arguments) (sc:Scope):Bool:=ps.defaults.isEmpty&&(ps.kw_defaults.isEmpty&&!sc.names.any (fun x=>x.2 == .free))
noncomputable def q5 (H:List aj) (i:Nat) (pos:Pos) (v:V) (q:Str) (rows:List (Nat×Nat)) (st:ax):V×ax:=bif rows.contains (pos.line,pos.col) then (v,st) else (v,⟨H.set i (.tab q (rows++[(pos.line,pos.col)])),st.aa⟩)
noncomputable def pe (n:Nat) (fr:a5) (e:PySem.Expr) (st:ax):Option (V×ax):=match e with
 |.Name x _=>(o9 fr x st).map (·,st)
 |.Constant c _ _=>(Ew c).map (·,st)
 |.Attribute o nm _=>bif baseOk o then (R.ev n fr o st).bind fun x=>(mS x.1 nm x.2).map (·,x.2) else none
 |.Call f args gV pos=>bif nK fr f args then (tK R n fr f args gV pos st).bind fun x=>fin st.H.length x.1 x.2 else tK R n fr f args gV pos st
 |.Subscript o i _=>(tC i).elim ((R.ev n fr o st).bind fun x=>(R.ev n fr i x.2).bind fun k=>(jw x.1 k.1 k.2).map (·,k.2))
  (fun y=>bif y.1.isNone&&y.2.2.isNone then y.2.1.bind fun aM=>(R.ev n fr o st).bind fun x=>(R.ev n fr aM x.2).bind fun k=>Ad x.1 k.1 k.2 else none)
 |.BinOp l op r _=>(R.ev n fr l st).bind fun a=>(R.ev n fr r a.2).bind fun b=>q2 op a.1 b.1 b.2
 |.UnaryOp op x _=>bif ER op then (R.ev n fr x st).bind fun y=>(eL y.1).map fun i=>(.int (-i),y.2) else none
 |.Compare l ops rs _=>(kb ops).bind fun op=>(kb rs).bind fun r=>bif gq r then none else (R.ev n fr l st).bind fun a=>(R.ev n fr r a.2).bind fun b=>(dX op a.1 b.1 b.2).map fun q=>(.bool q.1,q.2)
 |.BoolOp op vs _=>bif ES op then none else (tB vs).bind fun v=>(R.ev n fr v.1 st).bind fun x=>(o8 x.1).bind fun b=>bif b then R.ev n fr v.2 x.2 else some (.bool false,x.2)
 |.IfExp t a b _=>(R.es n fr t st).bind fun q=>bif q.1 then R.ev n fr a q.2 else R.ev n fr b q.2
 |.Tuple aD _ _=>bif Nat.blt 100 aD.length then none else (f6 R n fr aD st).map fun x=>(.tup x.1,x.2)
 |.List aD _=>bif Nat.blt 100 aD.length then none else (f6 R n fr aD st).map fun x=>nR (.list x.1) x.2
 |.Dict b6 vs _=>(q3 b6).bind fun cy=>bif mU cy&&(Nat.beq cy.length vs.length&&(Nat.blt cy.length 15&&Nat.blt 0 cy.length)) then (f6 R n fr vs st).map fun x=>nR (.dict (cy.zip x.1)) x.2 else none
 |.ListComp elt gens sc _=>q4 R n fr elt gens sc st
 |.Lambda ps body sc pos=>fr.tab.bind fun y=>(wm st.H[y.1]?).bind fun z=>bif seq z.1 y.2&&Ag ps sc then some (q5 st.H y.1 pos (.lam ps body sc) z.1 z.2 st) else none
 |_=>none
noncomputable def ET (n:Nat) (fr:a5) (op:BoolOp) (v:PySem.Expr×PySem.Expr) (st:ax):Option (Bool×ax):=(R.es n fr v.1 st).bind fun x=>bif ES op == x.1 then some x else R.es n fr v.2 x.2
noncomputable def NV (n:Nat) (fr:a5) (l:PySem.Expr) (op:CmpOp) (r:PySem.Expr) (st:ax):Option (Bool×ax):=bif gq r then none else (R.ev n fr l st).bind fun a=>(R.ev n fr r a.2).bind fun b=>dX op a.1 b.1 b.2
noncomputable def EU (n:Nat) (fr:a5) (l:PySem.Expr) (o:CmpOp×CmpOp) (r:PySem.Expr×PySem.Expr) (st:ax):Option (Bool×ax):=bif gq r.2 then none else
 (R.ev n fr l st).bind fun a=>(R.ev n fr r.1 a.2).bind fun b=>(dX o.1 a.1 b.1 b.2).bind fun q=>bif q.1 then (R.ev n fr r.2 q.2).bind fun c=>dX o.2 b.1 c.1 c.2 else some (false,q.2)
noncomputable def q6 (n:Nat) (fr:a5) (e:PySem.Expr) (st:ax):Option (Bool×ax):=match e with
 |.UnaryOp op x _=>bif EP op then (R.es n fr x st).map fun y=>(!y.1,y.2) else none
 |.BoolOp op vs _=>(tB vs).bind fun v=>ET R n fr op v st
 |.IfExp _ _ _ _=>none
 |.Compare l ops rs _=>(kb ops).elim ((tB ops).bind fun o=>(tB rs).bind fun r=>EU R n fr l o r st) fun op=>(kb rs).bind fun r=>NV R n fr l op r st
 |e=>(R.ev n fr e st).bind fun x=>(o8 x.1).map fun b=>(b,x.2)
noncomputable def tL (n:Nat) (fr:a5):List PySem.Expr→List V→ax→Option (List (Str×V)×ax)
 |[],[],st=>some (fr.ls,st)
 |t::bp,v::vs,st=>(R.as n fr t v st).bind fun (ls,lS)=>tL n {fr with ls:=ls} bp vs lS
 |_,_,_=>none
noncomputable def tM (n:Nat) (fr:a5) (t:PySem.Expr) (v:V) (st:ax):Option (List (Str×V)×ax):=match e1 t with
 |.nm x _=>bif h2 (gX fr x) then some (d7 x v fr.ls,st) else bif o7 (gX fr x) then (look x fr.cs).bind fun i=>(tF st.H[i]?).map fun _=>(fr.ls,⟨st.H.set i (.cell (some v)),st.aa⟩) else none
 |.at o nm _=>(R.ev n fr o st).bind fun x=>(mT x.1 nm v x.2).map fun s=>(fr.ls,s)
 |.sub o i _=>bif nN i then none else (R.ev n fr o st).bind fun x=>(R.ev n fr i x.2).bind fun k=>(nQ x.1 k.1 v k.2).map fun s=>(fr.ls,s)
 |.tup bp _ _=>bif bp.any isStar then none else (q0 v st).bind fun vs=>tL R n fr bp vs st
 |_=>none
noncomputable def jz (fr:a5):List PySem.Expr→Option (List Str)
 |[]=>some []
 |e::r=>(kc e).bind fun x=>bif h2 (look x.1 fr.sc.names) then (jz fr r).map fun t=>x.1::t else none
noncomputable def h3 {α:Type}:List Str→List α→List (Str×α)→List (Str×α)
 |x::xs,v::vs,l=>h3 xs vs (d7 x v l)
 |_,_,l=>l
noncomputable def nY (x:Str):List (Str×NameKind)→Bool
 |[]=>false
 |(y,k)::r=>(seq y x&&(k == .local || k == .cell)) || nY x r
noncomputable def q7 (n:Nat) (fr:a5) (t e:PySem.Expr) (st:ax):Option (cD×List (Str×V)×ax):=(R.ev n fr e st).bind fun x=>(R.as n fr t x.1 x.2).map fun y=>(.next,y.1,y.2)
noncomputable def NW (n:Nat) (fr:a5) (t elt:PySem.Expr) (gens:List Comprehension) (sc:Scope) (dz:Pos) (st:ax):Option (cD×List (Str×V)×ax) :=
 (kc t).bind fun x=>bif (Nat.beq x.2.line dz.line&&!nY x.1 sc.names)&&h2 (gX fr x.1) then (q4 R n fr elt gens sc st).map fun y=>(.next,d7 x.1 y.1 fr.ls,y.2) else none
noncomputable def EV (n:Nat) (fr:a5) (t e:PySem.Expr) (vs:List PySem.Expr) (st:ax):Option (cD×List (Str×V)×ax):=(f3 t).elim (bif z8 t then none else q7 R n fr t e st) fun bp=>(jz fr bp).elim (q7 R n fr t e st)
 fun xs=>bif mU xs&&vs.any tD then (R.ev n fr e st).bind fun x=>(mR x.1).bind fun us=>bif Nat.beq us.length xs.length then some (.next,h3 xs us fr.ls,x.2) else none else none
noncomputable def tN (n:Nat) (fr:a5) (t e:PySem.Expr) (st:ax):Option (cD×List (Str×V)×ax):=match e1 e with
 |.lc elt gens sc dz=>NW R n fr t elt gens sc dz st
 |.tup vs _ _=>EV R n fr t e vs st
 |_=>bif mQ e then none else q7 R n fr t e st
noncomputable def hJ.wB:hJ→Option (PySem.Expr×List PySem.Expr×List Keyword×Pos)
 |.call f args gV p=>some (f,args,gV,p)
 |_=>none
noncomputable def Ah (fr:a5) (e:PySem.Expr):Option PySem.Expr:=(e1 e).wB.bind fun y=>(kc y.1).bind fun x=>(kb y.2.1).bind fun e=>bif y.2.2.1.isEmpty&&(seq x.1 "enumerate"&&(z9 (look x.1 fr.sc.names)&&!isStar e)) then some e else none
noncomputable def EW (n:Nat) (fr:a5) (t it:PySem.Expr) (body:List Stmt) (st:ax):Option (cD×List (Str×V)×ax):=(Ah fr it).elim
 (bif gq it then none else (R.ev n fr it st).bind fun x=>(srcOf x.1 x.2).bind fun src=>R.jv n fr t src 0 body x.2) fun e=>(R.ev n fr e st).bind fun x=>(tJ x.1 x.2).bind fun src=>R.jv n fr t src 0 body x.2
noncomputable def q8 (n:Nat) (fr:a5) (s:Stmt) (st:ax):Option (cD×List (Str×V)×ax):=match s with
 |.Expr e _=>bif mQ e then none else (R.ev n fr e st).map fun x=>(.next,fr.ls,x.2)
 |.Assign bp e _=>(kb bp).bind fun t=>tN R n fr t e st
 |.Return e _=>match e with
  |some e=>(R.ev n fr e st).map fun x=>(.ret x.1,fr.ls,x.2)
  |none=>some (.ret .none,fr.ls,st)
 |.If t a b _=>(R.es n fr t st).bind fun x=>R.ex n fr (bif x.1 then a else b) x.2
 |.For t it body orelse _=>bif orelse.isEmpty then EW R n fr t it body st else none
 |.While t body orelse _=>bif orelse.isEmpty then R.tE n fr t body st else none
 |.Pass _=>some (.next,fr.ls,st)
 |_=>none
noncomputable def Ai:cD→Bool
 |.next=>true
 |_=>false
noncomputable def EX (n:Nat) (fr:a5) (ss:List Stmt) (st:ax):Option (cD×List (Str×V)×ax):=match ss with
 |[]=>some (.next,fr.ls,st)
 |s::r=>(q8 R n fr s st).bind fun x=>bif Ai x.1 then R.ex n {fr with ls:=x.2.1} r x.2.2 else some x
noncomputable def tO (f:cD) (ls:List (Str×V)) (st:ax) (again:Option (cD×List (Str×V)×ax)):Option (cD×List (Str×V)×ax):=match f with
 |.brk=>some (.next,ls,st)
 |.ret v=>some (.ret v,ls,st)
 |_=>again
noncomputable def Aj (n:Nat) (fr:a5) (t:PySem.Expr) (src:Src) (k:Nat) (body:List Stmt) (st:ax):Option (cD×List (Str×V)×ax):=bif iY src t then (itemAt src k st.H).bind fun o=>o.elim (some (.next,fr.ls,st)) fun v =>
 (R.as n fr t v st).bind fun x=>(R.ex n {fr with ls:=x.1} body x.2).bind fun y=>tO y.1 y.2.1 y.2.2 (R.jv n {fr with ls:=y.2.1} t src (k+1) body y.2.2) else none
noncomputable def EY (n:Nat) (fr:a5) (t:PySem.Expr) (body:List Stmt) (st:ax):Option (cD×List (Str×V)×ax) :=
 (R.es n fr t st).bind fun q=>bif q.1 then (R.ex n fr body q.2).bind fun y=>tO y.1 y.2.1 y.2.2 (R.tE n {fr with ls:=y.2.1} t body y.2.2) else some (.next,fr.ls,q.2)
noncomputable def wC (n:Nat) (fr:a5) (ifs:List PySem.Expr) (st:ax):Option (Bool×ax):=match ifs with
 |[]=>some (true,st)
 |[c]=>R.es n fr c st
 |_=>none
noncomputable def Ak (n:Nat) (fr:a5) (elt t:PySem.Expr) (ifs:List PySem.Expr) (src:Src) (k acc:Nat) (st:ax):Option ax:=bif isNm t&&iY src t then (itemAt src k st.H).bind fun o=>o.elim (some st) fun v =>
 (R.as n fr t v st).bind fun x=>(wC R n {fr with ls:=x.1} ifs x.2).bind fun q=>bif q.1 then (R.ev n {fr with ls:=x.1} elt q.2).bind fun y=>(eF y.2.H[acc]?).bind fun xs =>
  R.dz n {fr with ls:=x.1} elt t ifs src (k+1) acc ⟨y.2.H.set acc (.list (xs++[y.1])),y.2.aa∧xs.length<aL⟩ else R.dz n {fr with ls:=x.1} elt t ifs src (k+1) acc q.2 else none
noncomputable def ee:List (Str×NameKind)→List Str
 |[]=>[]
 |(x,k)::r=>if k == .cell then x::ee r else ee r
noncomputable def hK (names:List (Str×NameKind)):List (Str×V)→List (Str×V)
 |[]=>[]
 |(x,v)::r=>bif h2 (look x names) then (x,v)::hK names r else hK names r
noncomputable def iA:cD→V
 |.ret v=>v
 |_=>.none
noncomputable def tP (H:List aj):List aj→List aj
 |[]=>H
 |o::r=>H++(o::r)
noncomputable def kh (fi:eR) (args:List V):Option (List V):=bif Nat.beq args.length fi.ps.length then some args else bif Nat.beq (args.length+fi.iX.length) fi.ps.length&&!fi.iX.isEmpty then some (args++fi.iX) else none
noncomputable def bI (n:Nat) (fi:eR) (args:List V) (st:ax):Option (V×ax):=(kh fi args).bind fun vs =>
 let ls:=fi.ps.zip vs
 let iB:=ee fi.fd.scope.names
 let fr:a5:=⟨fi.fd.scope,iB.zip (List.range' st.H.length iB.length),fi.tab,hK fi.fd.scope.names ls⟩
 (R.ex n fr fi.body ⟨tP st.H (iB.map (fun x=>aj.cell (look x ls))),st.aa⟩).bind fun r=>bif fi.jt then fin st.H.length (iA r.1) r.2.2 else some (iA r.1,r.2.2)
noncomputable def tQ (ps:Arguments) (sc:Scope):Option Str:=(kb ps.args).bind fun a=>bif ps.posonlyargs.isEmpty&&(ps.vararg.isNone&&(ps.kwonlyargs.isEmpty&&(ps.kwarg.isNone&&((sc.kind == .function)&&(!sc.isCoroutine&&(!sc.isGenerator&&(sc.names.all (fun x=>x.2 != .cell)&&(h2 (look a.arg sc.names)&&(seq a.arg ⟨⟨[110,97,109,101]⟩⟩ || seq a.arg ⟨⟨[110,111,100,101]⟩⟩))))))))) then some a.arg else none
noncomputable def Al (n:Nat) (a:Addr) (args:List V) (st:ax):Option (V×ax):=(c2 a hI).bind fun ci=>(c2 ci.init dD).bind fun fi=>match n with
 |0=>none
 |n+1=>(bI R n fi (.ref st.H.length::args) ⟨st.H++[.inst a []],st.aa⟩).bind fun x=>bif isNone x.1 then some (.ref st.H.length,x.2) else none
noncomputable def EZ (n:Nat) (x:Value) (args:List V) (st:ax):Option (V×ax):=match x with
 |.ref a=>(c2 a dD).elim (Al R n a args st) fun fi=>bI R n fi args st
 |.builtin id=>wz id args st
 |.type id=>EK id args st
 |_=>none
noncomputable def tR (n:Nat) (f:V) (args:List V) (st:ax):Option (V×ax):=match n with
 |0=>none
 |n+1=>match f with
  |.obj x=>EZ R n x args st
  |.lam ps body sc=>(kb args).bind fun v=>(tQ ps sc).bind fun x=>(R.ev n ⟨sc,[],none,[(x,v)]⟩ body st).bind (nX st.H.length)
  |.fC g self=>(c2 g dD).bind fun fi=>bI R n fi (self::args) st
  |_=>none
noncomputable def E0:dO:=⟨pe R,q6 R,EX R,tM R,tR R,Aj R,EY R,Ak R⟩
end
noncomputable def E1:dO:=⟨fun _ _ _ _=>none,fun _ _ _ _=>none,fun _ _ _ _=>none,fun _ _ _ _ _=>none,fun _ _ _ _=>none,fun _ _ _ _ _ _ _=>none,fun _ _ _ _ _=>none,fun _ _ _ _ _ _ _ _ _=>none⟩
noncomputable def e2:Nat→dO
 |0=>E1
 |n+1=>E0 (e2 n)
theorem E2:∀{a b:List Nat},wh a b=true↔a=b
 |[],[]=>⟨fun _=>rfl,fun _=>rfl⟩
 |[],_::_=>⟨fun h=>dv h,fun h=>nomatch h⟩
 |_::_,[]=>⟨fun h=>dv h,fun h=>nomatch h⟩
 |a::r,b::t=>by show (Nat.beq a b&&wh r t)=true↔_;rw[Bool.and_eq_true,Nat.beq_eq,E2,List.cons.injEq]
theorem d8 {a b:Str}:seq a b=true↔a=b:=by
 unfold seq
 rw[E2]
 constructor
 ·intro h
  obtain ⟨⟨x⟩⟩:=a;obtain ⟨⟨y⟩⟩:=b
  simp only at h;rw[h]
 ·rintro rfl;rfl
theorem E3:∀{l:List Nat},wo l=true↔∀ c∈l,c<1114112
 |[]=>⟨fun _ _ h=>(nomatch h),fun _=>rfl⟩
 |c::r=>by show (Nat.blt c 1114112&&wo r)=true↔_;rw[Bool.and_eq_true,E3,List.forall_mem_cons,Nat.blt_eq]
theorem E4 {s:Str}(h:Aa s=true):PyData.strOk s=true:=by
 unfold PyData.strOk
 rw[←Array.all_toList,List.all_eq_true]
 intro c m
 exact decide_eq_true (E3.mp h c m)
theorem lT (a:Str):seq a a=true:=d8.mpr rfl
theorem q9 (a b:Str):(a == b)=seq a b:=by
 cases h:seq a b with
 |true=>rw[d8.mp h];simp
 |false =>
  have:a≠b:=fun e=>by rw[d8.mpr e] at h;exact ez h
  simpa using this
theorem lU {α:Type}{x:Str}{l:List (Str×α)}:l.lookup x=look x l:=by
 induction l with
 |nil=>rfl
 |cons p r aI =>
  rw[List.lookup_cons,q9,aI]
  show _=match seq x p.1 with |true=>some p.2 |false=>look x r
  cases seq x p.1 <;> rfl
theorem wD {α:Type}{x:Nat}{v:α}{l:List (Nat×α)}:c2 x l=some v→(x,v)∈l:=by
 induction l with
 |nil=>exact fun e=>ba e
 |cons p r aI =>
  show (match Nat.beq x p.1 with |true=>some p.2 |false=>c2 x r)=_→_
  cases q:Nat.beq x p.1 with
  |true=>exact fun e=>by rw[Nat.eq_of_beq_eq_true q,←cb e];exact .head _
  |false=>exact fun e=>.tail _ (aI e)
theorem nZ {α:Type}{x:Str}{v:α}{l:List (Str×α)}:look x l=some v→(x,v)∈l:=by
 induction l with
 |nil=>exact fun e=>ba e
 |cons p r aI =>
  show (match seq x p.1 with |true=>some p.2 |false=>look x r)=_→_
  cases q:seq x p.1 with
  |true=>exact fun e=>by rw[d8.mp q,←cb e];exact .head _
  |false=>exact fun e=>.tail _ (aI e)
theorem E5 {x:Str}{l:List Str}:lQ x l=true↔x∈l:=by
 induction l with
 |nil=>exact ⟨fun h=>dv h,fun h=>nomatch h⟩
 |cons y r aI=>rw[List.mem_cons,←aI,←d8];exact Bool.or_eq_true_iff
theorem E6 {α:Type}{x y:Str}{v:α}{l:List (Str×α)}:look y (d7 x v l)=if seq y x=true then some v else look y l:=by
 induction l with
 |nil=>show (match seq y x with |true=>some v |false=>none)=_;cases seq y x <;> rfl
 |cons p r aI =>
  show look y (match seq x p.1 with |true=>(p.1,v)::r |false=>p::d7 x v r)=if _ then _ else match seq y p.1 with |true=>some p.2 |false=>look y r
  cases h:seq x p.1 with
  |true=>rw[d8.mp h];show (match seq y p.1 with |true=>some v |false=>look y r)=_;cases seq y p.1 <;> rfl
  |false =>
   show (match seq y p.1 with |true=>some p.2 |false=>look y (d7 x v r))=_
   cases af:seq y p.1 with
   |false=>exact aI
   |true=>rw[if_neg];intro aB;rw[←d8.mp aB,af] at h;exact ez h
section
variable {P:Params}{im:ct}{ρ:c5}{fs:List (Str×V)}{aD:List DictEntry}
theorem tS (k:Str) (t:Tok) (nm:Str):(Value.str k t).isStr nm=seq nm k:=by
 show (k == nm)=_
 rw[q9]
 cases h:seq nm k with
 |true=>rw[d8.mp h];exact lT _
 |false =>
  cases af:seq k nm with
  |false=>rfl
  |true=>rw[d8.mp af,lT] at h;exact ez h
theorem cT.noRef (h:cT P im ρ fs aD):aD.any (·.refKey)=false:=cT.ind (Q:=fun _ aD=>aD.any (·.refKey)=false) rfl (fun _ _ aI=>by rw[List.any_cons,aI];rfl) h
theorem NX {k nm:Str}{t:Tok}{x:Value}{z:Int}(q:seq nm k=true):getL nm (⟨z,.str k t,x⟩::aD)=some (some x):=by
 unfold PySem.W.getL
 rw[List.find?_cons,tS,q]
theorem E7 {k nm:Str}{t:Tok}{x:Value}{z:Int}(q:seq nm k=false):getL nm (⟨z,.str k t,x⟩::aD)=getL nm aD:=by
 unfold PySem.W.getL
 rw[List.find?_cons,tS,q]
 rfl
theorem h4 {α:Type}{x y:Str}{v:α}{l:List (Str×α)}(q:seq x y=true):look x ((y,v)::l)=some v:=by show (match seq x y with |true=>_ |false=>_)=_;rw[q]
theorem h5 {α:Type}{x y:Str}{v:α}{l:List (Str×α)}(q:seq x y=false):look x ((y,v)::l)=look x l:=by show (match seq x y with |true=>_ |false=>_)=_;rw[q]
theorem Am {α:Type}{x y:Str}{v u:α}{l:List (Str×α)}(q:seq x y=true):d7 x v ((y,u)::l)=(y,v)::l:=by show (match seq x y with |true=>_ |false=>_)=_;rw[q]
theorem An {α:Type}{x y:Str}{v u:α}{l:List (Str×α)}(q:seq x y=false):d7 x v ((y,u)::l)=(y,u)::d7 x v l:=by show (match seq x y with |true=>_ |false=>_)=_;rw[q]
theorem cT.NY {nm:Str}(h:cT P im ρ fs aD):∀{v},look nm fs=some v→∃ x,getL nm aD=some (some x)∧aF P im ρ v x :=
 cT.ind (Q:=fun fs aD=>∀{v},look nm fs=some v→∃ x,getL nm aD=some (some x)∧aF P im ρ v x) (fun e=>ba e) (fun {k _ _ _ _ _} a b aI v e=>by
  cases q:seq nm k with
  |true=>rw[h4 q] at e;rw[NX q,←cb e];exact ⟨_,rfl,a⟩
  |false=>rw[h5 q] at e;rw[E7 q];exact aI e) h
theorem cT.E8 {nm:Str}(h:cT P im ρ fs aD):look nm fs=none→getL nm aD=some none :=
 cT.ind (Q:=fun fs aD=>look nm fs=none→getL nm aD=some none) (fun _=>rfl) (fun {k _ _ _ _ _} a b aI e=>by
  cases q:seq nm k with
  |true=>rw[h4 q] at e;exact ba e.symm
  |false=>rw[h5 q] at e;rw[E7 q];exact aI e) h
theorem cT.put {nm:Str}{t:Tok}{v:V}{x:Value}(h:cT P im ρ fs aD) (r:aF P im ρ v x):cT P im ρ (d7 nm v fs) (putL nm (PyData.keyHash P nm) (.str nm t) x aD) :=
 cT.ind (Q:=fun fs aD=>cT P im ρ (d7 nm v fs) (putL nm (PyData.keyHash P nm) (.str nm t) x aD)) (.cons r .nil) (fun {k _ _ _ _ _} a b aI=>by
  unfold putL
  rw[tS]
  cases q:seq nm k with
  |true=>rw[Am q];exact .cons r b
  |false=>rw[An q];exact .cons a aI) h
theorem cT.len (h:cT P im ρ fs aD):fs.length=aD.length:=cT.ind (Q:=fun fs aD=>fs.length=aD.length) rfl (fun _ _ aI=>congrArg (· + 1) aI) h
end
noncomputable def E9:List Addr:=[853,852,834,833,688,687,478,477,413,412,307,306,506,505,145,144,594,
 142,205,212,220,227,234,241,248,269,276,283,290,297,304,332,339,346,353,360,368,375,382,389,396,403,410,433,447,454,461,496,601,608,622,650,705,712,719,726,747,754,761,782,789,803,810,817,824,850]
noncomputable def gs (p:Params):Frag:=E9.map fun a=>(a,((full p).get a).getD default)
theorem Fb {α:Type}{f:Nat→α}{a:Nat}{o:α}:∀{l:List Nat},(l.map fun a=>(a,f a)).lookup a=some o→a∈l∧o=f a
 |b::r,e=>by
  rw[List.map_cons,List.lookup_cons] at e
  split at e
  ·rename_i q;obtain rfl:=cb e;rw[beq_iff_eq.mp q];exact ⟨.head _,rfl⟩
  ·exact let ⟨x,y⟩:=Fb e;⟨.tail _ x,y⟩
noncomputable def Ao (T:BT) (a:Addr):Bool:=match T.get a with
 |some o=>oZ o&&Nat.blt a 955
 |none=>false
theorem NZ (p:Params):E9.all (Ao (full p))=true:=by kernel_rfl
theorem N0 {w:World}{im:ct}(K:hG w im) {a:Addr}(h:Ao (full w.params) a=true):im a=some (((full w.params).get a).getD default):=by
 unfold Ao at h
 cases e:(full w.params).get a with
 |none=>rw[e] at h;exact dv h
 |some o =>
  rw[e] at h
  obtain ⟨h1,af⟩:=Bool.and_eq_true_iff.mp h
  exact K a o e h1 af
theorem kd_in {w:World}{h:Heap}{im:ct}(K:hG w im) (k:∀ a o,im a=some o→h.get? a=some o):(gs w.params).In h:=by
 intro a o e
 obtain ⟨m,rfl⟩:=Fb e
 exact k _ _ (N0 K (List.all_eq_true.mp (NZ w.params) a m))
theorem mV {w:World}{h:Heap}{im:ct}(K:hG w im) (k:∀ a o,im a=some o→h.get? a=some o):eP w h:=fun a o ao aC cL=>k _ _ (K a o ao aC cL)
noncomputable def tT (K:Frag) (C:Addr):Bool:=plainGet K C "a"&&hasDictIn K C&&plainOver K C&&(findIn K (.ref C) "__setattr__" == some (some (.builtin "object.__setattr__")))&&makesIn K C
noncomputable def pf:Value→Option Addr
 |.ref c=>some c
 |_=>none
theorem bj {α β:Type}{o:Option α}{a:α}{f:α→Option β}(h:o=some a):o.bind f=f a:=by rw[h];rfl
noncomputable def tU (K:Frag) (f:Addr):Bool:=(specialIn K (.ref f) "__get__" == some (some (.builtin "function.__get__")))&&(takesIn K (.ref f) == some false)&&(typeIn K (.ref f) == some (.type "function"))
noncomputable def ra (K:Frag) (C:Addr) (nm:Str):Bool:=(findIn K (.ref C) nm).elim false fun a=>a.elim true fun v=>(pf v).elim false (tU K)
inductive Fc (K:Frag) (C:Addr) (nm:Str):Prop
 |n (h:findIn K (.ref C) nm=some none)
 |f (f:Addr) (h:findIn K (.ref C) nm=some (some (.ref f))) (g:specialIn K (.ref f) "__get__" = some (some (.builtin "function.__get__"))) (t:takesIn K (.ref f)=some false) (y:typeIn K (.ref f)=some (.type "function"))
theorem tV {v:Value}{f:Addr}(h:pf v=some f):v=.ref f:=by
 cases v <;> first |exact ba h |exact congrArg Value.ref (cb h)
theorem N1 {K:Frag}{C f:Addr}{nm:Str}(h:findIn K (.ref C) nm=some (some (.ref f))) (e:tU K f=true):Fc K C nm:=by
 simp only[tU,Bool.and_eq_true,beq_iff_eq] at e
 exact .f f h e.1.1 e.1.2 e.2
theorem Ap {K:Frag}{C:Addr}{nm:Str}(h:ra K C nm=true):Fc K C nm:=by
 unfold ra at h
 cases e:findIn K (.ref C) nm with
 |none=>rw[e] at h;exact dv h
 |some a =>
  rw[e] at h
  cases a with
  |none=>exact .n e
  |some v =>
   cases z:pf v with
   |none=>exact dv ((congrArg (fun o=>Option.elim o false (tU K)) z).symm.trans h)
   |some f=>exact N1 (by rw[e,tV z]) ((congrArg (fun o=>Option.elim o false (tU K)) z).symm.trans h)
noncomputable def rb (K:Frag) (C:Addr) (nm:Str) (f:Addr):Bool:=(findIn K (.ref C) nm == some (some (.ref f)))&&(typeIn K (.ref f) == some (.type "function"))&&fnIn K f &&
 (specialIn K (.ref f) "__get__" == some (some (.builtin "function.__get__")))&&(takesIn K (.ref f) == some false)&&!copiedNames.contains nm
theorem N2 (p:Params):hI.all (fun x=>tT (gs p) x.1&&x.2.as.all (ra (gs p) x.1)&&x.2.ms.all (fun m=>rb (gs p) x.1 m.1 m.2)&&rb (gs p) x.1 "__init__" x.2.init)=true:=by kernel_rfl
theorem n0 (e:PySem.Expr):(e1 e).is e:=by cases e <;> first |rfl |trivial
theorem tW {e:PySem.Expr}{x:Str×Pos}(h:kc e=some x):e=.Name x.1 x.2:=by
 have z:=n0 e
 unfold kc at h
 cases q:e1 e with
 |nm y p=>rw[q] at h z;rw[←cb h];exact z
 |_=>rw[q] at h;exact ba h
theorem N3 {e:PySem.Expr}{y}(h:lP e=some y):e=.Attribute y.1 y.2.1 y.2.2:=by
 have z:=n0 e
 unfold lP at h
 cases q:e1 e with
 | «at» o n p=>rw[q] at h z;rw[←cb h];exact z
 |_=>rw[q] at h;exact ba h
theorem N4 {e:PySem.Expr}{bp:List PySem.Expr}(h:f3 e=some bp):∃ k p,e=.Tuple bp k p:=by
 have z:=n0 e
 unfold f3 at h
 cases q:e1 e with
 |tup o k p=>rw[q] at h z;rw[←cb h];exact ⟨k,p,z⟩
 |_=>rw[q] at h;exact ba h
theorem N5 {e:PySem.Expr}{y}(h:tC e=some y):∃ p,e=.Slice y.1 y.2.1 y.2.2 p:=by
 have z:=n0 e
 unfold tC at h
 cases q:e1 e with
 |fP lo aM s p=>rw[q] at h z;rw[←cb h];exact ⟨p,z⟩
 |_=>rw[q] at h;exact ba h
theorem N6 {e:PySem.Expr}{s:Str}(h:(e1 e).z6=some s):∃ k p,e=.Constant (.str s) k p:=by
 have z:=n0 e
 cases q:e1 e with
 |cst c k p=>rw[q] at h z;cases c <;> first |exact ba h |exact ⟨k,p,by rw[←cb h];exact z⟩
 |_=>rw[q] at h;exact ba h
theorem N7 {e:PySem.Expr}(h:tC e=none):nN e=false:=by cases e <;> first |rfl |exact ba h.symm
theorem mW {α:Type}{l:List α}{a:α}(h:kb l=some a):l=[a]:=by
 cases l with
 |nil=>exact ba h
 |cons b r=>cases r with
  |nil=>rw[←cb h]
  |cons _ _=>exact ba h
theorem wF {α:Type}{l:List α}{a:α×α}(h:tB l=some a):l=[a.1,a.2]:=by
 cases l with
 |nil=>exact ba h
 |cons b r=>cases r with
  |nil=>exact ba h
  |cons c r=>cases r with
   |nil=>rw[←cb h]
   |cons _ _=>exact ba h
theorem n1 {k:Option NameKind}(h:h2 k=true):k=some .local:=by
 cases k with
 |none=>exact dv h
 |some k=>cases k <;> first |rfl |exact dv h
theorem N8 {k:Option NameKind}(h:Es k=true):k=some .free:=by
 cases k with
 |none=>exact dv h
 |some k=>cases k <;> first |rfl |exact dv h
theorem wG {k:Option NameKind}(h:o7 k=true):k=some .cell:=by
 cases k with
 |none=>exact dv h
 |some k=>cases k <;> first |rfl |exact dv h
theorem Aq {k:Option NameKind}(h:z9 k=true):k=some .globalImplicit:=by
 cases k with
 |none=>exact dv h
 |some k=>cases k <;> first |rfl |exact dv h
section
variable {o:Option aj}{v:V}
theorem Fd {u:Option V}(h:tF o=some u):o=some (.cell u):=by cases o with |none=>exact ba h |some o=>cases o <;> first |exact ba h |rw[←cb h]
theorem Ar {y}(h:lR o=some y):o=some (.inst y.1 y.2):=by cases o with |none=>exact ba h |some o=>cases o <;> first |exact ba h |rw[←cb h]
theorem kY {vs:List V}(h:eF o=some vs):o=some (.list vs):=by cases o with |none=>exact ba h |some o=>cases o <;> first |exact ba h |rw[←cb h]
theorem As {fs:List (Str×V)}(h:tG o=some fs):o=some (.dict fs):=by cases o with |none=>exact ba h |some o=>cases o <;> first |exact ba h |rw[←cb h]
theorem N9 {y}(h:wm o=some y):o=some (.tab y.1 y.2):=by cases o with |none=>exact ba h |some o=>cases o <;> first |exact ba h |rw[←cb h]
theorem h6 {i:Int}(h:eL v=some i):v=.int i:=by cases v <;> first |exact ba h |rw[←cb h]
theorem rd {i:Str}(h:nO v=some i):v=.str i:=by cases v <;> first |exact ba h |rw[←cb h]
theorem n2 {i:List V}(h:mR v=some i):v=.tup i:=by cases v <;> first |exact ba h |rw[←cb h]
theorem Fe {b:Bool}(h:o8 v=some b):v=.bool b:=by cases v <;> first |exact ba h |rw[←cb h]
theorem ki {i:Nat}(h:kW v=some i):v=.ref i:=by cases v <;> first |exact ba h |rw[←cb h]
theorem wH {i:List V}(h:tH v=some i):v=.aN i:=by cases v <;> first |exact ba h |rw[←cb h]
theorem Oa {y}(h:Et v=some y):v=.fin y.1 y.2:=by cases v <;> first |exact ba h |rw[←cb h]
theorem Ob {i:List (Str×V)}(h:Eu v=some i):v=.fd i:=by cases v <;> first |exact ba h |rw[←cb h]
theorem Oc {y}(h:EL v=some y):v=.cx y.1 y.2:=by cases v <;> first |exact ba h |rw[←cb h]
end
structure dA (A:Around) (n:Nat):Prop where
 d:A.depth+n<recursionLimit
 u:A.units+10 * n+100<cLine
 h:A.handled=none
structure b3 (h:Heap) (c:br) (h' : Heap) (c' : br):Prop where
 le:br.le h c c'
 aP:lN h h'
theorem b3.refl {h:Heap}{c:br}:b3 h c h c:=⟨.refl,fun _ o e=>⟨o,e⟩⟩
theorem b3.trans {h h' jA:Heap}{c c' kU:br}(a:b3 h c h' c') (b:b3 h' c' jA kU):b3 h c jA kU:=⟨a.le.trans a.aP b.le,fun x o e=>let ⟨o',c9⟩:=a.aP x o e;b.aP x o' c9⟩
theorem lN.push {h:Heap}(o:Obj):lN h (h.push o):=fun _ o' e=>⟨o',Heap.get?_push_of_some _ e⟩
theorem lN.of_keep {h h' : Heap}(k:∀ b o,h.get? b=some o→h'.get? b=some o):lN h h':=fun b o e=>⟨o,k b o e⟩
theorem b3.keep {h h' : Heap}{c:br}(k:∀ b o,h.get? b=some o→h'.get? b=some o):b3 h c h' c:=⟨.refl,.of_keep k⟩
noncomputable def Od (o:Obj) (c P:Addr):Prop:=∀ h:Heap,h.get? c=some o→CodeHd h c P
noncomputable def pg (im:ct) (c P:Addr):Prop:=∃ o,im c=some o∧Od o c P
noncomputable def kj (ρ:c5):Prop:=(∃ x,ρ[0]?=some (885,x))∧∃ x,ρ[1]?=some (951,x)
theorem kj.mono {ρ ρ' : c5}(l:hp ρ ρ'):kj ρ→kj ρ' |⟨⟨a,b⟩,⟨d,e⟩⟩=>⟨⟨a,l _ _ b⟩,⟨d,l _ _ e⟩⟩
structure cO (c:br) (fr:a5) (env:Env):Prop where
 sc:env.scope=fr.sc
 kind:fr.sc.kind=.function
 loc:env.locals=c.L
 glob:env.globals=3
 blt:env.builtins=0
 cs:∀ x i,look x fr.cs=some i→∃ p,c.ρ[i]?=some p∧env.cells.lookup x=some p.1
 tab:∀ i q,fr.tab=some (i,q)→q=env.qual ++ "<lambda>"∧∃ cd p,env.code=.ref cd∧c.ρ[i]?=some p∧pg c.im cd p.1
 az:kj c.ρ
theorem pg.mono {im im' : ct}{c P:Addr}(h1:e8 im im') (h:pg im c P):pg im' c P:=h.imp fun _ r=>⟨h1 _ _ r.1,r.2⟩
theorem cO.le {c c' : br}{fr:a5}{env:Env}{h:Heap}(F:cO c fr env) (l:br.le h c c'):cO c' fr env:=by
 refine ⟨F.sc,F.kind,F.loc.trans l.L.symm,F.glob,F.blt,fun x i e=>?_,fun i q e=>?_,F.az.mono l.ρ⟩
 ·obtain ⟨p,a,b⟩:=F.cs x i e
  exact ⟨p,l.ρ _ _ a,b⟩
 ·obtain ⟨a,cd,p,b,d,r⟩:=F.tab i q e
  exact ⟨a,cd,p,b,l.ρ _ _ d,r.mono l.im⟩
theorem cO.cA {c c' : br}{fr:a5}{env:Env}{h h' : Heap}(F:cO c fr env) (l:b3 h c h' c'):cO c' fr env:=F.le l.le
theorem cO.ls {c:br}{fr:a5}{env:Env}(F:cO c fr env) (ls:List (Str×V)):cO c {fr with ls:=ls} env:=⟨F.sc,F.kind,F.loc,F.glob,F.blt,F.cs,F.tab,F.az⟩
theorem aF.cA {P:Params}{h h' : Heap}{c c' : br}{v x}(r:aF P c.im c.ρ v x) (l:b3 h c h' c'):aF P c'.im c'.ρ v x:=r.le l.le
theorem aW.cA {P:Params}{h h' : Heap}{c c' : br}{v x}(r:aW P c.im c.ρ v x) (l:b3 h c h' c'):aW P c'.im c'.ρ v x:=r.le l.le
noncomputable def rf:Value→Option Str
 |.str q _=>some q
 |_=>none
noncomputable def vInt:Value→Option Int
 |.int i _=>some i
 |_=>none
noncomputable def Ff:Value→Option String
 |.type c=>some c
 |_=>none
noncomputable def Fg:Data→Option (Array Value×Nat)
 |.seq xs k=>some (xs,k)
 |_=>none
noncomputable def Fh:V→Option Value
 |.obj v=>some v
 |_=>none
theorem Au {v:Value}{q:Str}(h:rf v=some q):∃ t,v=.str q t:=by cases v <;> first |exact ba h |exact ⟨_,by rw[←cb h]⟩
theorem Oe {v:Value}{i:Int}(h:vInt v=some i):∃ t,v=.int i t:=by cases v <;> first |exact ba h |exact ⟨_,by rw[←cb h]⟩
theorem Of {v:Value}{c:String}(h:Ff v=some c):v=.type c:=by cases v <;> first |exact ba h |exact congrArg Value.type (cb h)
theorem Og {d:Data}{y}(h:Fg d=some y):d=.seq y.1 y.2:=by cases d <;> first |exact ba h |rw[←cb h]
theorem Oh {v:V}{x:Value}(h:Fh v=some x):v=.obj x:=by cases v <;> first |exact ba h |rw[←cb h]
theorem kZ {α:Type}{o:Option α}{p:α→Bool}{Q:Prop}(h:o.any p=true) (k:∀ a,o=some a→p a=true→Q):Q:=match o,h,k with |some a,h,k=>k a rfl h
noncomputable def all2 (f:V→Value→Bool):List V→List Value→Bool
 |[],xs=>xs.isEmpty
 |v::vs,xs=>xs.head?.any (f v)&&all2 f vs xs.tail
noncomputable def Av (T:BT) (nm:String) (a:Addr):Option (List Value):=(T.get a).bind fun o=>(Ff o.cls).bind fun c=>(Fg o.data).bind fun y =>
 bif decide (c=nm)&&(o.dict.isNone&&(o.slots.toList.isEmpty&&(Nat.blt y.1.toList.length 1000&&Nat.blt a 955))) then some y.1.toList else none
noncomputable def Fi (T:BT) (f:V→Value→Bool) (v:V) (x:Value):Bool:=match v with
 |.none=>decide (x=.none)
 |.int i=>(vInt x).any fun j=>decide (i=j)
 |.str s=>(rf x).any fun t=>seq s t&&Aa s
 |.obj y=>decide (y=x)
 |.tup vs=>(pf x).any fun a=>(Av T "tuple" a).any fun xs=>all2 f vs xs
 |.aN vs=>(pf x).any fun a=>(Av T "list" a).any fun xs=>all2 f vs xs
 |_=>false
noncomputable def wI (T:BT):Nat→V→Value→Bool
 |0,_,_=>false
 |n+1,v,x=>Fi T (wI T n) v x
section
variable {w:World}{im:ct}{ρ:c5}
theorem Fj {f:V→Value→Bool}(aI:∀ v x,f v x=true→aF w.params im ρ v x):∀(vs:List V) (xs:List Value),all2 f vs xs=true→aW w.params im ρ vs xs:=fun vs=>by
 induction vs with
 |nil=>exact fun xs h=>by rw[List.isEmpty_iff.mp h];exact .nil
 |cons v vs wJ =>
  intro xs h
  obtain ⟨h1,af⟩:=Bool.and_eq_true_iff.mp h
  cases xs with
  |nil=>exact dv h1
  |cons x xs=>exact .cons (aI v x h1) (wJ xs af)
theorem Fl (K:hG w im) {nm:String}{a:Addr}:ae (fun xs=>∃ k,im a=some {cls:=.type nm,data:=.seq xs.toArray k}∧xs.length≤aL) (Av (full w.params) nm a) :=
 ae.b fun o c8=>ae.b fun c aw=>ae.b fun y bU=>ae.de fun q=>ae.bO<|by
  simp only[Bool.and_eq_true,decide_eq_true_eq,Option.isNone_iff_eq_none,List.isEmpty_iff] at q
  obtain ⟨aS,bf,dT,d9,kk⟩:=q
  obtain ⟨tX,iC,zt,⟨fP⟩⟩:=o
  have ao:tX=.type c:=Of aw
  have aC:zt=.seq y.1 y.2:=Og bU
  subst ao;subst aC
  exact ⟨y.2,(K a _ c8 rfl kk).trans (by rw[show iC=none from bf,show fP=[] from dT,aS]),Nat.le_of_lt (Nat.lt_of_lt_of_le (Nat.blt_eq.mp d9) (by decide))⟩
theorem Oi (K:hG w im) {f:V→Value→Bool}(aI:∀ v x,f v x=true→aF w.params im ρ v x) (v:V) (x:Value) (e:Fi (full w.params) f v x=true):aF w.params im ρ v x:=by
 cases v with
 |none=>rw[show x=_ from of_decide_eq_true e];exact .none
 |int i=>exact kZ e fun j h e=>by obtain ⟨t,h⟩:=Oe h;rw[h,show i=j from of_decide_eq_true e];exact .int _ _
 |str s=>exact kZ e fun j h e=>by obtain ⟨t,h⟩:=Au h;obtain ⟨ao,aC⟩:=Bool.and_eq_true_iff.mp e;rw[h,←d8.mp ao];exact .str _ _ (E4 aC)
 |obj y=>rw[show y=x from of_decide_eq_true e];exact .obj _
 |tup vs=>exact kZ e fun a h e=>kZ e fun xs af e=>by rw[tV h];obtain ⟨k,aB,bu⟩:=Fl K _ af;exact .tup (n:=k) aB (Fj aI _ _ e) bu
 |aN vs=>exact kZ e fun a h e=>kZ e fun xs af e=>by rw[tV h];obtain ⟨k,aB,bu⟩:=Fl K _ af;exact .aN (n:=k) aB (Fj aI _ _ e) bu
 |_=>exact dv e
theorem Oj (K:hG w im) (n:Nat):∀ v x,wI (full w.params) n v x=true→aF w.params im ρ v x:=by
 induction n with
 |zero=>exact fun _ _ h=>dv h
 |succ n aI=>exact Oi K aI
noncomputable def lV (x:Str):List DictEntry→Option Value
 |[]=>none
 |e::r=>bif (rf e.key).any (seq x) then some e.val else lV x r
end
theorem Fm {x:Str}{l:List DictEntry}:l.all (fun e=>(rf e.key).isSome)=true→nsFind l.toArray x=lV x l:=by
 unfold nsFind findBy
 rw[List.find?_toArray]
 induction l with
 |nil=>exact fun _=>rfl
 |cons e r aI =>
  intro h
  rw[List.all_cons,Bool.and_eq_true] at h
  obtain ⟨y,h1⟩:=Option.isSome_iff_exists.mp h.1
  obtain ⟨t,aB⟩:=Au h1
  have z:(fun n v=>Value.isStr v n) x e.key=seq x y:=by rw[aB];exact tS y t x
  rw[List.find?_cons,z,show lV x (e::r)=(bif (rf e.key).any (seq x) then some e.val else lV x r) from rfl,h1,←aI h.2]
  show _=(bif seq x y then _ else _)
  cases seq x y <;> rfl
noncomputable def rg (p:Params):List DictEntry:=(qD (fO p)).toList
noncomputable def Aw (p:Params):List DictEntry:=(qD (o0 p)).toList
theorem Ax (w:World) (x:Str):gl w x=lV x (rg w.params):=Fm (l:=rg w.params) (by kernel_rfl)
theorem Ol (w:World) (x:Str):lH w x=lV x (Aw w.params):=Fm (l:=Aw w.params) (by kernel_rfl)
noncomputable def wK:V→Bool
 |.fd _=>true
 |_=>false
noncomputable def Fn (T:BT) (G:List DictEntry) (r:Str×V):Bool:=wK r.2 || (lV r.1 G).any fun x=>wI T 200 r.2 x
theorem Om (p:Params):wj.all (Fn (full p) (rg p))=true:=by kernel_rfl
noncomputable def Fo:List (Str×V):=[("GET_OPS",.fd [("local",.int 11),("cell",.int 13),("up",.int 15)]),("SET_OPS",.fd [("local",.int 12),("cell",.int 14),("up",.int 16)])]
theorem Oo:wj.filter (fun r=>wK r.2)=Fo:=by kernel_rfl
theorem Oq (K:hG w im) {x:Str}{v:V}(e:look x wj=some v):∃ y,gl w x=some y∧aF w.params im ρ v y:=by
 have m:=nZ e
 have r:=List.all_eq_true.mp (Om w.params) _ m
 rw[Ax]
 cases hf:wK v with
 |false =>
  rw[show Fn (full w.params) (rg w.params) (x,v)=(wK v || (lV x (rg w.params)).any fun y=>wI (full w.params) 200 v y) from rfl,hf] at r
  exact kZ r fun y h1 af=>⟨y,h1,Oj K _ _ _ af⟩
 |true =>
  have lW:(x,v)∈Fo:=Oo▸List.mem_filter.mpr ⟨m,hf⟩
  rcases List.mem_cons.mp lW with q |lW
  ·obtain ⟨rfl,rfl⟩:=qU q
   refine ⟨.ref 418,by kernel_rfl,.fd (n:=3) (K 418 _ (by kernel_rfl) (by kernel_rfl) (by kernel_rfl)) (.cons (t:=1138) (.int 11 218) (.cons (t:=1139) (.int 13 222) (.cons (t:=1140) (.int 15 226) .nil)))⟩
  ·rcases List.mem_cons.mp lW with q |lW
   ·obtain ⟨rfl,rfl⟩:=qU q
    refine ⟨.ref 419,by kernel_rfl,.fd (n:=3) (K 419 _ (by kernel_rfl) (by kernel_rfl) (by kernel_rfl)) (.cons (t:=1145) (.int 12 220) (.cons (t:=1146) (.int 14 224) (.cons (t:=1147) (.int 16 228) .nil)))⟩
   ·cases lW
noncomputable def Ot (G B:List DictEntry) (r:Str×V):Bool:=(Fh r.2).any fun v=>(lV r.1 G).isNone&&(lV r.1 B).any fun y=>decide (v=y)
theorem Ou (p:Params):z5.all (Ot (rg p) (Aw p))=true:=by kernel_rfl
theorem Ov {x:Str}{v:V}(e:look x z5=some v):∃ y,gl w x=none∧lH w x=some y∧aF w.params im ρ v y:=by
 have r:=List.all_eq_true.mp (Ou w.params) _ (nZ e)
 rw[Ax,Ol]
 exact kZ r fun u h1 r=>by
  obtain ⟨af,r⟩:=Bool.and_eq_true_iff.mp r
  exact kZ r fun y aB bu=>⟨y,Option.isNone_iff_eq_none.mp af,aB,by rw[show v=.obj u from Oh h1,show u=y from of_decide_eq_true bu];exact .obj _⟩
section
variable {w:World}{A:Around}{c:br}{fr:a5}{st:ax}{env:Env}{s:Shared}{ls:List (Str×V)}
theorem aH.eP (R:aH w c ls st.H s.heap):eP w s.heap:=mV R.dh fun _ _=>R.rep.cM
theorem aH.gs (R:aH w c ls st.H s.heap):(gs w.params).In s.heap:=kd_in R.dh fun _ _=>R.rep.cM
theorem wL {fr:a5}{x:Str}{k:NameKind}(F:cO c fr env) (e:gX fr x=some k):env.kindOf x=some k∧(x == ("__debug__" : Str))=false:=by
 unfold gX at e
 split at e
 ·exact ba e
 ·rename_i q
  refine ⟨?_,by rw[q9];exact q⟩
  show env.scope.names.lookup x=_
  rw[F.sc,lU];exact e
noncomputable def Ow (w:World) (A:Around) (c:br) (env:Env) (s:Shared) (x:Str) (pos:Pos) (v:V):Prop:=∀ Q:Value→Shared→Prop,(∀ y,aF w.params c.im c.ρ v y→Q y s)→wpAny (aU w) A (eval (.Name x pos) env) Q bo s
theorem Fp {x:Str}{pos:Pos}(F:cO c fr env) (R:aH w c fr.ls st.H s.heap):ae (Ow w A c env s x pos) (o9 fr x st):=by
 have ar:env.scope.kind=.function:=by rw[F.sc];exact F.kind
 have g3:s.heap.Ns env.globals (gl w):=by rw[F.glob];exact vN R.eP
 refine ae.c (fun q v h Q k=>?_) fun _=>ae.c (fun q=>ae.b fun i aM=>ae.b fun u dI v aV Q k=>?_) fun _=>ae.de fun q=>ae.o (fun u dI=>ae.bO fun Q k=>?_) fun _ v h Q k=>?_
 ·obtain ⟨aS,bf⟩:=wL F (n1 q)
  obtain ⟨m,gY,bc⟩:=R.ns
  obtain ⟨y,bU,bN⟩:=gY _ _ h
  exact wpAny_Name (wpAny_loadName_local ar aS (by rw[F.loc];exact bc) bU (k _ bN)) bf
 ·obtain ⟨aS,bf⟩:=wL F (wG q)
  obtain ⟨p,a3,aw⟩:=F.cs _ _ aM
  rw[show u=some v from aV] at dI
  obtain ⟨y,bU,bN⟩:=R.rep.at_ a3 (Fd dI)
  exact wpAny_Name (wpAny_loadName_cell ar aS aw bU (k _ bN)) bf
 ·obtain ⟨aS,bf⟩:=wL F (Aq q)
  obtain ⟨y,bU,bN⟩:=Oq (ρ:=c.ρ) R.dh dI
  exact Calls.Name_function_global ar aS (Calls.loadGlobal_global g3 bU (k _ bN)) bf
 ·obtain ⟨aS,bf⟩:=wL F (Aq q)
  obtain ⟨y,bU,Ox,bN⟩:=Ov (w:=w) (im:=c.im) (ρ:=c.ρ) h
  exact Calls.Name_function_global ar aS (Calls.loadGlobal_builtin g3 bU (by rw[F.blt];exact Nj R.eP) Ox (k _ bN)) bf
noncomputable def Oy (w:World) (A:Around) (c:br) (env:Env) (s:Shared) (lX:Const) (kd:Nat) (pos:Pos) (v:V):Prop:=∀ Q:Value→Shared→Prop,(∀ az y,aF w.params c.im c.ρ v y→Q y (a9 s s.heap az))→wpAny (aU w) A (eval (.Constant lX kd pos) env) Q bo s
theorem Oz {lX:Const}{kd:Nat}{pos:Pos}:ae (Oy w A c env s lX kd pos) (Ew lX):=by
 cases lX with
 |none=>exact ae.bO fun Q k=>wpAny_Constant_none (k s.toks _ .none)
 |bool b=>exact ae.bO fun Q k=>wpAny_Constant_bool (k s.toks _ (.bool _))
 |int i=>exact ae.bO fun Q k=>wpAny_Constant_int (k _ _ (.int _ _))
 |str x=>exact ae.de fun q=>ae.bO fun Q k=>Calls.Constant_str (k _ _ (.str _ _ (E4 q)))
 |_=>exact ae.no
end
section
set_option tactic.hygienic true
section
variable {w:World}{A:Around}{c:br}{st:ax}{s:Shared}{ls:List (Str×V)}{n:Nat}
theorem ph (p:Params) {C:Addr}{ci:nM}(e:c2 C hI=some ci):tT (gs p) C=true∧(∀ nm,lQ nm ci.as=true→ra (gs p) C nm=true)∧(∀ nm f,look nm ci.ms=some f→rb (gs p) C nm f=true)∧rb (gs p) C "__init__" ci.init=true:=by
 have r:=List.all_eq_true.mp (N2 p) _ (wD e)
 simp only[Bool.and_eq_true,List.all_eq_true] at r
 obtain ⟨⟨⟨a,b⟩,c⟩,d⟩:=r
 exact ⟨a,fun nm m=>b nm (E5.mp m),fun nm f m=>c _ (nZ m),d⟩
theorem n3 {K:Frag}{C:Addr}(h:tT K C=true):findIn K (.ref C) "__getattribute__" = some (some (.builtin "object.__getattribute__"))∧findIn K (.ref C) "__getattr__" = some none∧hasDictIn K C=true∧plainOver K C=true ∧
 findIn K (.ref C) "__setattr__" = some (some (.builtin "object.__setattr__"))∧makesIn K C=true:=by
 simp only[tT,Bool.and_eq_true,beq_iff_eq] at h
 obtain ⟨⟨⟨⟨a,b⟩,c⟩,d⟩,e⟩:=h
 obtain ⟨x,y⟩:=plainGet_of a
 exact ⟨x,y,b,c,d,e⟩
theorem OA {v r:V}{P:Params}{im:ct}{ρ:c5}{x:Value}(e:Ab v=some r) (q:aF P im ρ v x):r=v∧handedIn x=true:=by
 have key:nP v=false→handedIn x=true:=aF.casesOn (motive_1:=fun v x _=>nP v=false→handedIn x=true) q (fun _=>rfl) (fun _ _=>rfl) (fun _ _ _=>rfl) (fun _ _ _ _=>rfl) (fun _ _ _ _=>rfl) (fun _ _ _ _=>rfl) (fun _ _ _ _=>rfl) (fun _ _=>rfl) (fun _ h=>ez h) (fun _ _ _=>rfl) (fun _ _=>rfl) (fun _ _ _=>rfl) (fun _ _=>rfl) (fun _ h=>ez h)
 exact (ae.cf fun z=>ae.bO ⟨rfl,key z⟩:ae (fun r=>r=v∧handedIn x=true) (Ab v)) r e
theorem rh {h:Heap}{a d C:Addr}{aD:List DictEntry}{k:Nat}(ao:h.get? a=some (instObj C d)) (aC:h.get? d=some (dictOf aD k)):W.InstAt h a (instObj C d) C (some (dictOf aD k)):=⟨ao,rfl,rfl,aC⟩
theorem OB {K:Frag}{C:Addr}{nm:Str}{aD:List DictEntry}{k:Nat}{x:Value}(f:tT K C=true) (h:ra K C nm=true) (hl:getL nm aD=some (some x)):findObj K C (some (dictOf aD k)) nm=some (.value x):=by
 obtain ⟨_,_,hd,_⟩:=n3 f
 have k0:lookIn nm (dictOf aD k)=some (some x):=by rw[lookIn_dict,hl]
 rcases Ap h with q |⟨g,q,h1,af,aB⟩
 ·exact findObj_own hd q rfl k0
 ·obtain ⟨cd,OC,lY⟩:=any_some hd
  have c8:W.ownOf cd (some (dictOf aD k)) nm=some (some x):=by unfold W.ownOf;rw[if_pos lY];exact k0
  exact (bj OC).trans ((bj q).trans ((bj h1).trans ((bj af).trans ((bj c8).trans rfl))))
theorem Fq {a d C:Addr}{aD:List DictEntry}{k:Nat}{nm:Str}{ci:nM}{x:Value}{ex:Bool}{Q:Value→Shared→Prop}(X:(gs w.params).In s.heap) (ao:s.heap.get? a=some (instObj C d)) (aC:s.heap.get? d=some (dictOf aD k))
 (aw:c2 C hI=some ci) (hm:lQ nm ci.as=true) (hl:getL nm aD=some (some x)) (bY:handedIn x=true) (q:∀ az,Q x (a9 s s.heap az)):wpAny (aU w) A (getAttr (.ref a) nm ex) Q bo s:=by
 obtain ⟨f1,f2,_⟩:=ph w.params aw
 exact get_value X (rh ao aC) (n3 f1).1 (OB f1 (f2 _ hm) hl) bY (q _)
theorem Ay {K:Frag}{C f:Addr}{nm:Str}(h:rb K C nm f=true):findIn K (.ref C) nm=some (some (.ref f))∧typeIn K (.ref f)=some (.type "function")∧fnIn K f=true∧specialIn K (.ref f) "__get__" = some (some (.builtin "function.__get__"))∧takesIn K (.ref f)=some false∧copiedNames.contains nm=false:=by
 simp only[rb,Bool.and_eq_true,beq_iff_eq,Bool.not_eq_true'] at h
 obtain ⟨⟨⟨⟨⟨a,b⟩,c⟩,d⟩,e⟩,f⟩:=h
 exact ⟨a,b,c,d,e,f⟩
theorem OD {a d C f:Addr}{aD:List DictEntry}{k:Nat}{nm:Str}{ci:nM}{ex:Bool}{Q:Value→Shared→Prop}(X:(gs w.params).In s.heap) (ao:s.heap.get? a=some (instObj C d)) (aC:s.heap.get? d=some (dictOf aD k))
 (aw:c2 C hI=some ci) (hm:look nm ci.ms=some f) (hl:getL nm aD=some none) (q:∀ az,Q (.ref s.heap.objs.size) (a9 s (s.heap.push (methodObj (.ref f) (.ref a))) az)):wpAny (aU w) A (getAttr (.ref a) nm ex) Q bo s:=by
 obtain ⟨f1,_,jB,_⟩:=ph w.params aw
 obtain ⟨g1,g2,g3,k1,gZ,mX⟩:=Ay (jB _ _ hm)
 obtain ⟨aK,bw,da,_⟩:=n3 f1
 exact get_bind X (rh ao aC) aK (findObj_fn da g1 k1 gZ mX (by rw[lookIn_dict,hl])) bw (wpAny_call (fn_get (s:={s with toks:=s.toks+1}) X g2 (handed_on rfl (q _))))
theorem OE {a d C f:Addr}{aD:List DictEntry}{k:Nat}{nm:Str}{ci:nM}{c0:Sem Bool}{Q:Value×List Value→Shared→Prop}(X:(gs w.params).In s.heap) (ao:s.heap.get? a=some (instObj C d)) (aC:s.heap.get? d=some (dictOf aD k))
 (aw:c2 C hI=some ci) (hm:look nm ci.ms=some f) (hl:getL nm aD=some none) (q:Q (.ref f,[.ref a]) s):wpAny (aU w) A (getMethod (.ref a) nm c0) Q bo s:=by
 obtain ⟨f1,_,jB,_⟩:=ph w.params aw
 obtain ⟨g1,g2,g3,k1,gZ,mX⟩:=Ay (jB _ _ hm)
 obtain ⟨aK,bw,da,_⟩:=n3 f1
 exact method_fn X (rh ao aC) aK bw g1 g2 (by show (lookIn nm (dictOf aD k)).map _=_;rw[lookIn_dict,hl];rfl) q
theorem OF {K:Frag}{x C f:Addr}{tY iC:Obj}{nm:Str}{c0:Sem Bool}{Q:Value×List Value→Shared→Prop}(X:K.In s.heap) (aR:W.InstAt s.heap x tY C (some iC)) (OG:findIn K (.ref C) "__getattribute__" = some (some (.builtin "object.__getattribute__"))) (ar:findIn K (.ref C) "__getattr__" = some none)
 (hf:findIn K (.ref C) nm=some (some (.ref f))) (bT:typeIn K (.ref f)=some (.type "function")) {y:Value}(ak:lookIn nm iC=some (some y)) (h:wpAny (aU w) A (getAttr (.ref x) nm) (fun v=>Q (v,[])) bo s) :
 wpAny (aU w) A (getMethod (.ref x) nm c0) Q bo s:=by
 have OH:=PySem.F.canon_object_ga
 unfold getMethod specialOf
 refine wpAny_bind (wpAny_bind (aR.type.here ((looks_findIn X OG).here ?_)))
 dsimp only
 rw[OH,if_neg (by decide)]
 refine wpAny_bind (wpAny_bind (aR.type.here ((looks_findIn X ar).here ?_)))
 refine wpAny_bind (wpAny_bind (aR.type.here ((looks_findIn X hf).here (wpAny_bind ((looks_typeIn X bT).here ?_)))))
 rw[if_neg (by decide +kernel)]
 refine wpAny_bind (wpAny_loadPart aR.at_ ?_)
 have hd:=aR.dict
 cases e:tY.dict with
 |none=>rw[e] at hd;exact hd.elim
 |some pj =>
  rw[e] at hd
  refine wpAny_bind (wpAny_bind (wpAny_loadPart hd ?_))
  rw[nsLook_of ak]
  refine wpAny_pure ?_
  rw[if_pos (show (some y).isSome=true from rfl)]
  exact wpAny_bind (wpAny_mono h (fun _ _ z=>wpAny_pure z) fun _ _ z=>z)
theorem OI {a d C:Addr}{aD:List DictEntry}{k:Nat}{nm:Str}{ci:nM}{x:Value}{c0:Sem Bool}{Q:Value×List Value→Shared→Prop}(X:(gs w.params).In s.heap) (ao:s.heap.get? a=some (instObj C d)) (aC:s.heap.get? d=some (dictOf aD k))
 (aw:c2 C hI=some ci) (hm:lQ nm ci.as=true) (hl:getL nm aD=some (some x)) (bY:handedIn x=true) (q:∀ az,Q (x,[]) (a9 s s.heap az)):wpAny (aU w) A (getMethod (.ref a) nm c0) Q bo s:=by
 obtain ⟨f1,f2,_⟩:=ph w.params aw
 obtain ⟨aK,bw,da,_⟩:=n3 f1
 have g:=Fq (A:=A) (ex:=false) (Q:=fun v=>Q (v,[])) X ao aC aw hm hl bY q
 have Az:=f2 _ hm
 rcases Ap Az with z |⟨_,z,_,_,y⟩
 ·exact method_usual X (rh ao aC) aK bw z rfl g
 ·exact OF X (rh ao aC) aK bw z y (by rw[lookIn_dict,hl]) g
noncomputable def OJ (w:World) (c:br) (h:Heap) (x:Value) (y:Addr×List (Str×V)):Prop:=∃ a d aD k,x=.ref a∧h.get? a=some (instObj y.1 d)∧h.get? d=some (dictOf aD k)∧cT w.params c.im c.ρ y.2 aD
theorem Fs {v:V}{x:Value}(R:aH w c ls st.H s.heap) (bN:aF w.params c.im c.ρ v x):ae (OJ w c s.heap x) (fieldsOf v st) :=
 ae.o (fun y bU=>ae.bO (by rw[Oa bU] at bN;exact bN.nK fun d aD a n ao aC bb=>⟨a,d,aD,n,rfl,R.rep.cM ao,R.rep.cM aC,bb⟩))
  fun _=>ae.b fun i aM y bU=>by
   rw[ki aM] at bN
   refine bN.ix fun p a3=>?_
   obtain ⟨aD,k',ao,aC,bb,ne⟩:=R.rep.at_ a3 (Ar bU)
   exact ⟨_,_,aD,k',rfl,ao,aC,bb⟩
theorem Ft {P:Params}{im:ct}{ρ:c5}{y:Addr×List (Str×V)}{aD:List DictEntry}{nm:Str}(bb:cT P im ρ y.2 aD):ae (fun u=>∃ ci z,c2 y.1 hI=some ci∧lQ nm ci.as=true∧getL nm aD=some (some z)∧aF P im ρ u z∧handedIn z=true) (wq y nm) :=
 ae.b fun ci aw=>ae.de fun hm=>ae.b fun u dI v aV=>by
  obtain ⟨z,h1,af⟩:=bb.NY dI
  obtain ⟨e,aB⟩:=OA aV af
  exact ⟨ci,z,aw,hm,h1,e▸af,aB⟩
theorem Fu {y:Addr×List (Str×V)}{nm:Str}:ae (fun f=>∃ ci,c2 y.1 hI=some ci∧look nm y.2=none∧look nm ci.ms=some f) (Ac y nm) :=
 ae.b fun ci aw=>ae.cf fun q f hf=>⟨ci,aw,by cases e:look nm y.2 with |none=>rfl |some _=>rw[e] at q;exact ez q,hf⟩
theorem OK {v:V}{x:Value}{nm:Str}{ex:Bool}(R:aH w c ls st.H s.heap) (bN:aF w.params c.im c.ρ v x):ae (fun r=>∀ Q:Value→Shared→Prop,(∀ c' h' az y,b3 s.heap c h' c'→aH w c' ls st.H h'→aF w.params c'.im c'.ρ r y→Q y (a9 s h' az))→wpAny (aU w) A (getAttr x nm ex) Q bo s) (mS v nm st) :=
 ae.b fun y bU=>by
  obtain ⟨a,d,aD,k',rfl,ao,aC,bb⟩:=Fs R bN _ bU
  refine ae.o (fun u dI=>ae.bO fun Q k=>?_) fun _=>ae.m fun f hf Q k=>?_
  ·obtain ⟨ci,z,aw,hm,h1,af,aB⟩:=Ft bb _ dI
   exact Fq R.gs ao aC aw hm h1 aB fun az=>k c _ az _ .refl R af
  ·obtain ⟨ci,aw,bc,hm⟩:=Fu _ hf
   refine OD R.gs ao aC aw hm (bb.E8 bc) fun az=>?_
   obtain ⟨eA,l⟩:=R.tA (methodObj (.ref f) (.ref a)) rfl
   exact k _ _ az _ ⟨l,.push _⟩ eA (.fC mP (bN.le l))
theorem OL {v r:V}{x:Value}{nm:Str}{ex:Bool}{Q:Value→Shared→Prop}(h:mS v nm st=some r) (R:aH w c ls st.H s.heap) (bN:aF w.params c.im c.ρ v x)
 (k:∀ c' h' az y,b3 s.heap c h' c'→aH w c' ls st.H h'→aF w.params c'.im c'.ρ r y→Q y (a9 s h' az)):wpAny (aU w) A (getAttr x nm ex) Q bo s:=OK R bN _ h Q k
theorem OM {nm:Str}{a:Addr}{vs:List Value}{k:Nat}{c0:Sem Bool}(ao:s.heap.get? a=some (s7 vs k)):ae (fun id=>∀ Q:Value×List Value→Shared→Prop,Q (.builtin id,[.ref a]) s→wpAny (aU w) A (getMethod (.ref a) nm c0) Q bo s) (Ex nm) :=
 ae.c (fun q=>ae.bO fun Q k=>by rw[d8.mp q];exact zw ao F.slot_list_append (by kernel_rfl) k) fun _=>ae.c (fun q=>ae.bO fun Q k=>by rw[d8.mp q];exact zw ao F.slot_list_pop (by kernel_rfl) k) fun _ =>
  ae.de fun q=>ae.bO fun Q k=>by rw[d8.mp q];exact zw ao F.slot_list_insert (by kernel_rfl) k
theorem ON {v:V}{x:Value}{nm:Str}{c0:Sem Bool}(R:aH w c ls st.H s.heap) (bN:aF w.params c.im c.ρ v x):ae (fun g=>∀ Q:Value×List Value→Shared→Prop,(∀ az y ys,aF w.params c.im c.ρ g.1 y→aW w.params c.im c.ρ g.2 ys→Q (y,ys) (a9 s s.heap az))→wpAny (aU w) A (getMethod x nm c0) Q bo s) (ke v nm st):=by
 refine ae.o (fun y bU=>?_) fun _=>ae.b fun i aM=>ae.b fun vs OO=>ae.m fun id nP Q k=>?_
 ·obtain ⟨a,d,aD,k',rfl,ao,aC,bb⟩:=Fs R bN _ bU
  refine ae.o (fun u dI=>ae.bO fun Q k=>?_) fun _=>ae.m fun f hf Q k=>?_
  ·obtain ⟨ci,z,aw,hm,h1,af,aB⟩:=Ft bb _ dI
   exact OI R.gs ao aC aw hm h1 aB fun az=>k az _ _ af .nil
  ·obtain ⟨ci,aw,bc,hm⟩:=Fu _ hf
   exact OE R.gs ao aC aw hm (bb.E8 bc) (k s.toks _ _ (.obj _) (.cons bN .nil))
 ·rw[ki aM] at bN k
  revert k
  refine bN.ix fun p a3 k=>?_
  obtain ⟨xs,k',ao,bb,_⟩:=R.rep.at_ a3 (kY OO)
  exact OM ao _ nP Q (k s.toks _ _ (.obj _) (.cons (.ref a3) .nil))
theorem OP {v:V}{g}{x:Value}{nm:Str}{c0:Sem Bool}{Q:Value×List Value→Shared→Prop}(h:ke v nm st=some g) (R:aH w c ls st.H s.heap) (bN:aF w.params c.im c.ρ v x)
 (k:∀ az y ys,aF w.params c.im c.ρ g.1 y→aW w.params c.im c.ρ g.2 ys→Q (y,ys) (a9 s s.heap az)):wpAny (aU w) A (getMethod x nm c0) Q bo s:=ON R bN _ h Q k
end
end
section
set_option tactic.hygienic true
section
variable {w:World}{A:Around}{c:br}{st st' : ax}{s:Shared}{ls:List (Str×V)}
theorem aH.AA {H:List aj}{h h' : Heap}(R:aH w c ls H h) {i:Nat}{p:Addr×Addr}{o o' : aj}(a3:c.ρ[i]?=some p) (c8:H[i]?=some o) (e:o'.dW p=o.dW p)
 (ar:∀ b,b ∉ o.dW p→h'.get? b=h.get? b) (bR:gU w c.im c.ρ h' p o'):aH w c ls (H.set i o') h' :=
 R.upd a3 c8 e (fun b aa n x=>(ar b n).trans x) bR
theorem aH.frame {H:List aj}{h h' : Heap}{m:Str→Option Value}(R:aH w c ls H h) (gY:ka w.params c.im c.ρ ls m) (bc:h'.Ns c.L m) (ar:∀ b aa,b≠c.L→h.get? b=some aa→h'.get? b=some aa):aH w c ls H h':=by
 refine ⟨⟨m,gY,bc⟩,⟨R.rep.len,fun {i p o} ao aC=>(R.rep.at_ ao aC).mono (fun _ _ x=>x) (fun _ _ x=>x) fun a m aa x=>ar a aa (R.own ⟨i,p,o,ao,aC,m⟩).2 x,R.rep.sep,fun {a o} x=>ar a o (fun q=>?_) (R.rep.cM x),R.rep.js⟩,R.dh,fun {a o} x=>ar a o (fun q=>?_) (R.keep x),R.own,R.fr⟩
 ·rw[q] at x;rw[R.fr.2] at x;exact ba x
 ·rw[q] at x;rw[R.fr.1] at x;exact ba x
theorem aH.Fv {H:List aj}{h:Heap}(R:aH w c ls H h) {a:Addr}{o:Obj}(b2:h.get? a=some o) (no : ¬ Own c.ρ H a) (ri:a≠c.L):aH w {c with im:=eQ c.im a o} ls H h:=by
 have le:e8 c.im (eQ c.im a o):=fun b aa e=>by
  unfold eQ
  split
  ·rename_i q;subst q
   rw[R.rep.cM e] at b2;exact b2.symm
  ·exact e
 have im:∀{b aa},eQ c.im a o b=some aa→h.get? b=some aa:=fun {b aa} e=>by
  unfold eQ at e
  split at e
  ·rename_i q;subst q;obtain rfl:=cb e;exact b2
  ·exact R.rep.cM e
 refine ⟨?_,⟨R.rep.len,fun {i p o} ao aC=>(R.rep.at_ ao aC).mono le (fun _ _ x=>x) fun _ _ _ x=>x,R.rep.sep,im,fun {b} x=>?_⟩,fun a o x y z=>le _ _ (R.dh a o x y z),R.keep,R.own,⟨R.fr.1,?_⟩⟩
 ·obtain ⟨m,gY,bc⟩:=R.ns
  exact ⟨m,gY.mono le fun _ _ x=>x,bc⟩
 ·show eQ c.im a o b=none
  unfold eQ
  rw[if_neg (fun (q:b=a)=>no (q▸x))];exact R.rep.js x
 ·show eQ c.im a o c.L=none
  unfold eQ
  rw[if_neg (fun (q:c.L=a)=>ri q.symm)];exact R.fr.2
theorem aH.Fw {H:List aj}{h h' : Heap}(R:aH w c ls H h') {a:Addr}{o:Obj}(b2:h'.get? a=some o) (n:h.get? a=none):br.le h c {c with im:=eQ c.im a o}:=by
 refine ⟨rfl,rfl,fun b aa e=>?_,fun _ _ x=>x,fun b aa e=>?_⟩
 ·show eQ c.im a o b=_
  unfold eQ
  split
  ·rename_i q;subst q
   rw[R.rep.cM e] at b2;exact b2.symm
  ·exact e
 ·have e:eQ c.im a o b=some aa:=e
  unfold eQ at e
  split at e
  ·rename_i q;subst q;exact .inr (.inl n)
  ·exact .inl e
noncomputable def allOf (h:Heap) (L:Addr):List (Addr×Obj):=(List.range h.objs.size).filterMap fun a=>if a=L then none else (h.get? a).map (a,·)
theorem AB {h:Heap}{L a:Addr}{o:Obj}:(a,o)∈allOf h L↔h.get? a=some o∧a≠L:=by
 unfold allOf
 rw[List.mem_filterMap]
 constructor
 ·rintro ⟨b,_,e⟩
  split at e
  ·exact ba e
  ·rename_i n
   refine lK e fun o' ao aC=>?_
   obtain ⟨rfl,rfl⟩:=qU aC;exact ⟨ao,n⟩
 ·rintro ⟨e,n⟩
  exact ⟨a,List.mem_range.mpr (Heap.lt_size e),by rw[if_neg n,e];rfl⟩
noncomputable def h0 (h:Heap):Heap:=⟨#[],h.life⟩
theorem Fx (h:Heap) (b:Addr):(h0 h).get? b=none:=by simp[h0,Heap.get?]
theorem OQ (h:Heap) (L:Addr):News (h0 h) L h (allOf h L):=fun p m=>⟨(AB.mp m).1,(AB.mp m).2,Fx _ _⟩
theorem OR {h:Heap}{L:Addr}{m:Str→Option Value}(bc:h.Ns L m):Fr (h0 h) L h m:=⟨bc,fun b o e=>(by rw[Fx] at e;exact ba e),Nat.zero_le _⟩
theorem AD {h:Heap}{a:Addr}{f:Obj→Obj}{o:Obj}(c8:h.get? a=some o) (hf:(f o).isFreed=false):(h.update a f).get? a=some (f o):=Heap.get?_update_self _ c8 hf
theorem n4 {h:Heap}{a b:Addr}{f:Obj→Obj}(n:b≠a):(h.update a f).get? b=h.get? b:=(Heap.SameBut.update (h:=h) (a:=a) (f:=f)).2 b n
theorem b3.of_same {h h' : Heap}{c:br}{a:Addr}{o:Obj}(ak:∀ b,b≠a→h'.get? b=h.get? b) (b2:h'.get? a=some o):b3 h c h' c:=⟨.refl,fun b aa e=>by
 by_cases q:b=a
 ·exact ⟨o,q▸b2⟩
 ·exact ⟨aa,(ak b q).trans e⟩⟩
theorem OS {K:Frag}{C:Addr}{nm:Str}(h:ra K C nm=true):takerIn K C nm=some none:=by
 rcases Ap h with q |⟨_,q,_,t,_⟩
 ·unfold takerIn;rw[q];rfl
 ·unfold takerIn
  rw[q]
  simp only[Option.bind_some,t,Option.map_some,Bool.false_eq_true,if_false]
theorem OT {K:Frag}{x C pj:Addr}{nm:Str}{v:Value}{aD:List DictEntry}{k:Nat}{az:Tok}{R:Result→Shared→Prop}(X:K.In s.heap) (aR:W.InstAt s.heap x (instObj C pj) C (some (dictOf aD k))) (a3:plainOver K C=true) (bT:takerIn K C nm=some none)
 (bY:hasDictIn K C=true) (bR:aD.any (·.refKey)=false) (bZ:aD.length≤1000)
 (h:R (.ok (.ret .none)) {s with heap:=s.heap.update pj (Obj.putName nm (PyData.keyHash w.params nm) (.str nm s.toks) v),toks:=s.toks+1}) :
 codeAny (aU w) A (.call (.builtin "object.__setattr__") ⟨[.ref x,.str nm az,v],[]⟩) R s:=by
 refine osa_open X aR a3 bT fun b=>?_
 obtain ⟨cd,aw,lY⟩:=any_some bY
 have bA:=aR.at_
 have D:s.heap.get? pj=some (dictOf aD k):=aR.dict
 have ao:=putName_dict nm (PyData.keyHash w.params nm) (.str nm s.toks) v aD k
 have D' : (s.heap.update pj (Obj.putName nm (PyData.keyHash w.params nm) (.str nm s.toks) v)).get? pj=some (dictOf (putL nm (PyData.keyHash w.params nm) (.str nm s.toks) v aD) (putN nm aD k)):=by
  rw[←ao];exact Heap.get?_update_self _ D (by rw[ao];rfl)
 have Zs:(putL nm (PyData.keyHash w.params nm) (.str nm s.toks) v aD).length≤aD.length+1:=by
  clear D D' ao bR bZ aR
  induction aD with
  |nil=>exact Nat.le_refl _
  |cons e r aI =>
   simp only[putL]
   split
   ·exact Nat.le_succ _
   ·exact Nat.succ_le_succ aI
 refine wpAny_bind (wpAny_pure (wpAny_bind (wpAny_bind (wpAny_loadPart bA (wpAny_bind ((looks_clsIn X aw).here ?_))))))
 rw[lY]
 refine wpAny_pure (a:=some pj) (wpAny_bind (wpAny_pure (wpAny_bind ?_)))
 unfold nsSet
 refine wpAny_bind (wpAny_bind (wpAny_askSetting (wpAny_pure (wpAny_bind (wpAny_mkText (wpAny_bind (wpAny_loadPart D ?_)))))))
 have lX:(!aD.toArray.any (·.key.isStr nm)&&aD.toArray.any (·.refKey))=false:=by
  rw[←Array.any_toList,←Array.any_toList]
  show (!aD.any _&&aD.any (·.refKey))=false
  rw[bR,Bool.and_false]
 dsimp only[dictOf]
 rw[aRefKeyMayBeTheName_at,lX]
 refine wpAny_updatePart D ?_
 refine wpAny_bind (wpAny_lookBehind D' (pastItsLine_dict (by rw[List.size_toArray,sizeLine_eq];omega)) ?_)
 exact wpAny_pure h
theorem OU {a b:Nat}(h:Nat.blt a 100=true) (e:a=b):b≤1000:=e▸Nat.le_of_lt (Nat.lt_of_lt_of_le (Nat.blt_eq.mp h) (by decide))
noncomputable def Fy (w:World) (A:Around) (c:br) (ls:List (Str×V)) (s:Shared) (m:Sem Unit) (aa:Prop) (st' : ax):Prop:=st'.aa=aa∧∀ Q:Unit→Shared→Prop,(∀ h' az,b3 s.heap c h' c→aH w c ls st'.H h'→Q () (a9 s h' az))→wpAny (aU w) A m Q bo s
theorem OV {v tZ:V}{tY x:Value}{nm:Str}(R:aH w c ls st.H s.heap) (Fz:aF w.params c.im c.ρ v tY) (bN:aF w.params c.im c.ρ tZ x):ae (Fy w A c ls s (setAttr tY nm x) st.aa) (mT v nm tZ st) :=
 ae.b fun i bR=>ae.b fun y bU=>ae.b fun ci aw=>ae.de fun q=>ae.bO ⟨rfl,fun Q k=>by
  obtain ⟨hm,hl⟩:=Bool.and_eq_true_iff.mp q
  rw[ki bR] at Fz
  refine Fz.ix fun p a3=>?_
  obtain ⟨aD,k',ao,aC,bb,ne⟩:=R.rep.at_ a3 (Ar bU)
  obtain ⟨f1,f2,_⟩:=ph w.params aw
  obtain ⟨aK,bw,da,iD,jC,_⟩:=n3 f1
  have aR:=rh (C:=y.1) ao aC
  refine set_plain R.gs aR jC (OT (s:={s with toks:=s.toks+1}) R.gs aR iD (OS (f2 _ hm)) da bb.noRef (OU hl bb.len) ?_)
  have cL:=putName_dict nm (PyData.keyHash w.params nm) (.str nm (s.toks+1)) x aD k'
  have gG:=(congrArg some cL)▸AD (f:=Obj.putName nm (PyData.keyHash w.params nm) (.str nm (s.toks+1)) x) aC (by rw[cL];rfl)
  exact k _ _ (.of_same (fun b nb=>n4 nb) gG) (R.AA a3 (Ar bU) rfl (fun b nb=>n4 fun q=>nb (by rw[q];exact .tail _ (.head _))) ⟨putL nm (PyData.keyHash w.params nm) (.str nm (s.toks+1)) x aD,putN nm aD k',(n4 ne).trans ao,gG,bb.put bN,ne⟩)⟩
theorem OW {k:Int}{n j:Nat}(h:idx k n=some j):(0≤k∧j=k.toNat)∨(k<0∧-(n:Int)≤k∧j=(k+n).toNat) :=
 (ae.c (fun q=>ae.bO (.inl ⟨of_decide_eq_true q,rfl⟩)) fun q=>ae.de fun bf=>ae.bO (.inr ⟨Int.not_le.mp (of_decide_eq_false q),of_decide_eq_true bf,rfl⟩):ae (fun j=>(0≤k∧j=k.toNat)∨(k<0∧-(n:Int)≤k∧j=(k+n).toNat)) (idx k n)) j h
theorem wM {k:Int}{n j:Nat}(h:idx k n=some j) (dY:j<n):(0≤k∧k<n∧j=k.toNat)∨(k<0∧-(n:Int)≤k∧j=(k+n).toNat) :=
 (OW h).imp (fun ⟨a,b⟩=>⟨a,(Int.toNat_lt a).mp (b▸dY),b⟩) id
theorem FA {k:Int}{n j:Nat}(h:idx k n=some j) (dY:j<n):seqIndex? k n=some j:=by
 show (if (decide (0≤(if k<0 then k+(n:Int) else k))&&decide ((if k<0 then k+(n:Int) else k)<(n:Int)))=true then some (if k<0 then k+(n:Int) else k).toNat else none)=_
 rcases wM h dY with ⟨a,b,e⟩ |⟨a,b,e⟩
 ·rw[if_neg (Int.not_lt.mpr a),decide_eq_true a,decide_eq_true b,e];rfl
 ·rw[if_pos a,decide_eq_true (by omega:0≤k+(n:Int)),decide_eq_true (by omega:k+(n:Int)<n),e];rfl
theorem AE {e:PySem.Expr}(h:nN e=false) (o i:Value):subscripted e false o i=operate [o,i] (getItem o i):=by
 cases e <;> first |rfl |exact ez h
theorem listAt {h:Heap}{a:Addr}{xs:List Value}{n:Nat}(e:h.get? a=some (fD xs n)):h.IsList a xs.toArray:=⟨_,e,rfl,n,rfl⟩
theorem OX {a:Addr}{xs:List Value}{m j:Nat}{i:Int}{t:Tok}{y:Value}{Q:Value→Shared→Prop}(e:s.heap.get? a=some (fD xs m)) (bZ:xs.length≤aL) (aM:idx i xs.length=some j) (bU:xs[j]?=some y) (k:Q y s) :
 wpAny (aU w) A (getItem (.ref a) (.int i t)) Q bo s:=by
 have dY:=(List.getElem?_eq_some_iff.mp bU).1
 rcases wM aM dY with ⟨aS,bf,dT⟩ |⟨aS,bf,dT⟩
 ·subst dT
  exact wpAny_getItem_list (listAt e) aS (by unfold aL at bZ;omega) (by simpa using bU) k
 ·subst dT
  exact wpAny_getItem_list_neg (listAt e) aS (by simpa using bf) (by unfold aL at bZ;omega) (by simpa using bU) k
end
end
section
variable {w:World}{A:Around}{c:br}{st st' : ax}{s:Shared}{ls:List (Str×V)}{P:Params}{im:ct}{ρ:c5}
theorem fo.at {fs:List (Str×V)}{aD:List (Str×Value)}{k:Str}(h:fo P im ρ fs aD):∀{v},look k fs=some v→∃ x,valueAt aD k=some x∧aF P im ρ v x:=by
 induction h with
 |nil=>exact fun e=>ba e
 | @cons k' u y fs aD a b aI =>
  intro v e
  unfold valueAt
  rw[List.find?_cons]
  cases q:seq k k' with
  |true=>rw[h4 q] at e;rw[←cb e,d8.mp q,decide_eq_true (Eq.refl k')];exact ⟨y,rfl,a⟩
  |false=>rw[h5 q] at e;rw[show decide (k'=k)=false from decide_eq_false fun z=>by rw[z,lT] at q;exact ez q];exact aI e
theorem fo.set {fs:List (Str×V)}{aD:List (Str×Value)}{k:Str}{v:V}{x:Value}(h:fo P im ρ fs aD) (r:aF P im ρ v x):(aD.map (·.1)).Nodup→fo P im ρ (d7 k v fs) (stored aD k x):=by
 induction h with
 |nil=>exact fun _=>.cons r .nil
 | @cons k' u y fs aD a b aI =>
  intro ef
  rw[List.map_cons,List.nodup_cons] at ef
  have aI:=aI ef.2
  unfold stored at aI ⊢
  rw[List.any_cons,List.map_cons]
  cases q:seq k k' with
  |true =>
   rw[Am q,d8.mp q]
   rw[decide_eq_true (Eq.refl k'),Bool.true_or,if_pos rfl,if_pos rfl]
   refine .cons r ?_
   rw[(List.map_congr_left fun fp m=>if_neg fun z=>ef.1 (List.mem_map.mpr ⟨fp,m,z⟩):List.map (fun fp:Str×Value=>if fp.1=k' then (fp.1,x) else fp) aD=aD.map id),List.map_id]
   exact b
  |false =>
   have n : ¬ k'=k:=fun z=>by rw[z,lT] at q;exact ez q
   rw[An q,decide_eq_false n,Bool.false_or,if_neg n]
   cases z:aD.any (fun fp=>decide (fp.1=k)) with
   |true=>rw[z,if_pos rfl] at aI;rw[if_pos rfl];exact .cons a aI
   |false=>rw[z,if_neg Bool.false_ne_true] at aI;rw[if_neg Bool.false_ne_true];exact .cons a aI
theorem fo.length {fs:List (Str×V)}{aD:List (Str×Value)}(h:fo P im ρ fs aD):fs.length=aD.length:=fo.rec (motive:=fun fs aD _=>fs.length=aD.length) rfl (fun _ _ aI=>congrArg (· + 1) aI) h
theorem cT.lit {fs:List (Str×V)}{aD:List DictEntry}(h:cT P im ρ fs aD):KeysLit P aD:=cT.ind (Q:=fun _ aD=>KeysLit P aD) trivial (fun _ _ aI=>⟨⟨_,_,rfl,rfl⟩,aI⟩) h
theorem cT.at {fs:List (Str×V)}{aD:List DictEntry}{k:Str}(h:cT P im ρ fs aD):∀{v},look k fs=some v→∃ x,findBy Value.isStrOf aD.toArray k=some x∧aF P im ρ v x:=by
 unfold findBy
 rw[List.find?_toArray]
 exact cT.ind (Q:=fun fs aD=>∀{v},look k fs=some v→∃ x,Option.map (fun e=>e.val) (aD.find? fun e=>Value.isStrOf k e.key)=some x∧aF P im ρ v x) (fun e=>ba e) (fun {k' t u y fs aD} a b aI v e=>by
  rw[List.find?_cons,show Value.isStrOf k (.str k' t)=seq k k' from (isStr_of k (.str k' t)).symm.trans (tS k' t k)]
  cases q:seq k k' with
  |true=>rw[h4 q] at e;rw[←cb e];exact ⟨y,rfl,a⟩
  |false=>rw[h5 q] at e;exact aI e) h
theorem OY {a:Addr}{xs:List Value}{m j:Nat}{i:Int}{t:Tok}{y:Value}{iZ e:PySem.Expr}{Q:Value→Shared→Prop}(ak:nN e=false) (ao:s.heap.get? a=some (fD xs m)) (bZ:xs.length≤aL) (aM:idx i xs.length=some j) (bU:xs[j]?=some y) (k:Q y s) :
 wpAny (aU w) A (subscriptTail iZ e (.ref a) (.int i t)) Q bo s :=
 tail_any (listAt ao).typeIs slot_list_getitem.lookup (OX ao bZ aM bU k) (AE ak _ _)
theorem FC {v:V}{x:Value}(R:aH w c ls st.H s.heap) (bN:aF w.params c.im c.ρ v x):ae (fun vs=>∃ a xs k,x=.ref a∧s.heap.get? a=some (fD xs k)∧aW w.params c.im c.ρ vs xs∧xs.length≤aL) (kf v st) :=
 ae.o (fun vs h=>ae.bO (by rw[wH h] at bN;exact bN.tu fun a xs k e bb z=>⟨a,xs,k,rfl,R.rep.cM e,bb,z⟩)) fun _=>ae.b fun r h vs aV=>by
  rw[ki h] at bN
  refine bN.ix fun p a3=>?_
  obtain ⟨xs,k,e,bb,z⟩:=R.rep.at_ a3 (kY aV)
  exact ⟨p.1,xs,k,rfl,e,bb,z⟩
theorem OZ {v:V}{x:Value}{sk:Str}(R:aH w c ls st.H s.heap) (bN:aF w.params c.im c.ρ v x):ae (fun fs=>∀{u},look sk fs=some u→∃ a f y,x=.ref a∧s.heap.MapOf (strKind bz w) a f∧f sk=some y∧aF w.params c.im c.ρ u y) (Ey v st) :=
 ae.o (fun fs h=>ae.bO fun {u} dI=>by
  rw[Ob h] at bN
  refine bN.NM fun aD a n ao bb=>?_
  obtain ⟨y,bU,t2⟩:=bb.at dI
  exact ⟨a,_,y,rfl,mapOf_K (prog:=bz) (w:=w) (K:=[(a,dictOf aD n)]) (Nf (R.rep.cM ao) Ng) (by rw[List.lookup_cons,beq_self_eq_true]) bb.lit,bU,t2⟩)
  fun _=>ae.b fun r h fs hf {u} dI=>by
   rw[ki h] at bN
   refine bN.ix fun p a3=>?_
   obtain ⟨lM,ao,bb,_⟩:=R.rep.at_ a3 (As hf)
   obtain ⟨y,bU,t2⟩:=bb.at dI
   exact ⟨_,_,y,rfl,ao.mapOf,bU,t2⟩
noncomputable def O0 (w:World) (A:Around) (c:br) (s:Shared) (m:Sem Value) (r:V):Prop:=∀ Q:Value→Shared→Prop,(∀ az y,aF w.params c.im c.ρ r y→Q y (a9 s s.heap az))→wpAny (aU w) A m Q bo s
theorem O1 {i:Int}{n j:Nat}(h:idx i n=some j) (dY:j<n) (z:n≤aL) : -(2 ^ 63:Int)≤i∧i<2 ^ 63:=by
 unfold aL at z
 rcases wM h dY with ⟨a,b,_⟩ |⟨a,b,_⟩ <;> omega
theorem O2 {v fp:V}{fR cy:Value}{iZ e:PySem.Expr}(ak:nN e=false) (R:aH w c ls st.H s.heap) (h7:aF w.params c.im c.ρ v fR) (hL:aF w.params c.im c.ρ fp cy):ae (O0 w A c s (subscriptTail iZ e fR cy)) (jw v fp st):=by
 refine ae.o (fun i aM=>ae.b fun vs aV=>ae.b fun j dY u dI Q k=>?_) fun _=>ae.b fun sk ar=>ae.b fun fs hf u dI Q k=>?_
 ·rw[h6 aM] at hL
  refine hL.e0 fun t=>?_
  have key:ae (fun vs=>vs[j]?=some u→idx i vs.length=some j→wpAny (aU w) A (subscriptTail iZ e fR (.int i t)) Q bo s) (q0 v st):=by
   refine ae.o (fun us bT=>ae.bO fun dI dY=>?_) fun _ us bT dI dY=>?_
   ·rw[n2 bT] at h7
    refine h7.f3 fun a xs n ao bb z=>?_
    obtain ⟨y,bU,bN⟩:=bb.get dI
    rw[bb.length] at dY
    have hl:=(List.getElem?_eq_some_iff.mp bU).1
    have q:=O1 dY hl z
    exact item_tupleT (t:=a) (l:=xs) ⟨_,R.rep.cM ao,rfl,n,rfl⟩ q.1 q.2 (FA dY hl) bU (k s.toks _ bN) (AE ak _ _)
   ·obtain ⟨a,xs,n,rfl,ao,bb,z⟩:=FC R h7 _ bT
    obtain ⟨y,bU,bN⟩:=bb.get dI
    rw[bb.length] at dY
    exact OY ak ao z dY bU (k s.toks _ bN)
  exact key _ aV dI dY
 ·rw[rd ar] at hL
  refine hL.mM fun t _=>?_
  obtain ⟨a,f,y,rfl,hm,bU,t2⟩:=OZ R h7 _ hf dI
  exact tail_any hm.typeIs slot_dict_getitem.lookup (wpAny_getItem_of (strKind_is bz w _ _) hm bU (k _ _ t2)) (AE ak _ _)
theorem O3 {v fp r:V}{fR cy:Value}{iZ e:PySem.Expr}{Q:Value→Shared→Prop}(h:jw v fp st=some r) (ak:nN e=false) (R:aH w c ls st.H s.heap) (h7:aF w.params c.im c.ρ v fR) (hL:aF w.params c.im c.ρ fp cy)
 (k:∀ az y,aF w.params c.im c.ρ r y→Q y (a9 s s.heap az)):wpAny (aU w) A (subscriptTail iZ e fR cy) Q bo s:=O2 ak R h7 hL _ h Q k
end
mutual
theorem wN:∀ a b:PyData,gr a b=PyData.eqv a b
 |.none,b=>by cases b <;> rfl
 |.bool a,b=>by
  cases b with
  |bool b=>cases a <;> cases b <;> rfl
  |_=>rfl
 |.int i,b=>by cases b <;> rfl
 |.str x,b=>by cases b <;> first |rfl |exact (q9 x _).symm
 |.list xs,b=>by cases b <;> first |rfl |exact AF xs _
 |.tuple xs,b=>by cases b <;> first |rfl |exact AF xs _
 |.dict lM,b=>by cases b <;> rfl
theorem AF:∀ a b:List PyData,jx a b=PyData.eqvAll a b
 |[],b=>by cases b <;> rfl
 |x::xs,[]=>rfl
 |x::xs,y::ys=>by show (gr x y&&jx xs ys)=(PyData.eqv x y&&PyData.eqvAll xs ys);rw[wN x y,AF xs ys]
end
theorem rj {b:Bool}(h:(!b)=true):b=false:=by cases b;rfl;exact dv h
theorem O4 {op:UnaryOp}(h:EP op=true):op=.Not:=by cases op <;> first |rfl |exact dv h
theorem O5 {op:UnaryOp}(h:ER op=true):op=.USub:=by cases op <;> first |rfl |exact dv h
section
variable {w:World}{A:Around}{c:br}{st st' : ax}{s:Shared}{ls:List (Str×V)}{im:ct}{ρ:c5}{H:List aj}{h:Heap}
noncomputable def wO (h:Heap) (n:Nat) (x:Value) (d:PyData):Prop:=∃ as,Reads h x d as∧d.canLay0=true∧d.depth≤n
noncomputable def FD (h:Heap) (n:Nat) (xs:List Value) (ds:List PyData):Prop:=∃ as,ReadsAll h xs ds as∧PyData.canLayAll0 ds=true∧PyData.depthAll ds≤n
theorem AG {f:V→Option PyData}{n:Nat}(aI:∀ v x,aF w.params im ρ v x→ae (wO h n x) (f v)) {vs:List V}{xs:List Value}(r:aW w.params im ρ vs xs):ae (FD h n xs) (kg f vs) :=
 aW.ind (Q:=fun vs xs=>ae (FD h n xs) (kg f vs)) (ae.bO ⟨[],.nil,rfl,Nat.zero_le _⟩) (fun a _ O6=>ae.b fun d hd=>ae.m fun ds rk=>by
  obtain ⟨as,dc,aK,dj⟩:=aI _ _ a _ hd
  obtain ⟨bs,cH,bw,et⟩:=O6 _ rk
  exact ⟨as++bs,.cons dc cH,Bool.and_eq_true_iff.mpr ⟨aK,bw⟩,Nat.max_le.mpr ⟨dj,et⟩⟩) r
theorem O7 (R:Rep w im ρ H h) {f:V→Option PyData}{n:Nat}(aI:∀ v x,aF w.params im ρ v x→ae (wO h n x) (f v)) (v:V) (x:Value) (r:aF w.params im ρ v x):ae (wO h (n+1) x) (Ez f H v):=by
 cases v with
 |none=>exact r.ts (ae.bO ⟨[],.none,rfl,Nat.zero_le _⟩)
 |bool b=>exact r.qW (ae.bO ⟨[],.bool _,rfl,Nat.zero_le _⟩)
 |int i=>exact r.e0 fun t=>ae.bO ⟨[],.int _ _,rfl,Nat.zero_le _⟩
 |str s=>exact r.mM fun t q=>ae.bO ⟨[],.str _ _,q,Nat.zero_le _⟩
 |tup vs=>exact r.f3 fun a xs k ao bb z=>ae.m fun ds hd=>by obtain ⟨as,dc,aK,dj⟩:=AG aI bb _ hd;exact ⟨as,.tuple (R.cM ao) rfl rfl dc,aK,Nat.succ_le_succ dj⟩
 |aN vs=>exact r.tu fun a xs k ao bb z=>ae.m fun ds hd=>by obtain ⟨as,dc,aK,dj⟩:=AG aI bb _ hd;exact ⟨a::as,.list (R.cM ao) rfl rfl dc,aK,Nat.succ_le_succ dj⟩
 |ref i =>
  refine r.ix fun p a3=>ae.b fun vs aM=>ae.m fun ds hd=>?_
  obtain ⟨xs,k,ao,bb,z⟩:=R.at_ a3 (kY aM)
  obtain ⟨as,dc,aK,dj⟩:=AG aI bb _ hd
  exact ⟨p.1::as,.list ao rfl rfl dc,aK,Nat.succ_le_succ dj⟩
 |_=>exact ae.no
theorem FE (R:Rep w im ρ H h) (n:Nat):∀ v x,aF w.params im ρ v x→ae (wO h n x) (toPy H n v):=by
 induction n with
 |zero=>exact fun _ _ _=>ae.no
 |succ n aI=>exact O7 R aI
theorem wQ {a:V}{x:Value}(bC:aF w.params im ρ a x):ae (fun d=>Reads h x d []∧d.canLay0=true∧d.depth=0) (tI a):=by
 cases a with
 |none=>exact bC.ts (ae.bO ⟨.none,rfl,rfl⟩)
 |bool b=>exact bC.qW (ae.bO ⟨.bool _,rfl,rfl⟩)
 |int i=>exact bC.e0 fun t=>ae.bO ⟨.int _ _,rfl,rfl⟩
 |str s=>exact bC.mM fun t q=>ae.bO ⟨.str _ _,q,rfl⟩
 |_=>exact ae.no
noncomputable def FF (h:Heap) (x y:Value) (q:Bool):Prop:=∃ d e as bs,Reads h x d as∧Reads h y e bs∧SeqAt.shaped d=true∧SeqAt.shaped e=true∧PyData.eqv d e=q
theorem wR {d:PyData}{k:Nat}(c:d.canLay0=true) (z:d.depth≤k) (ar:k≤6):SeqAt.shaped d=true:=by
 simp only[SeqAt.shaped,c,Bool.true_and,decide_eq_true_eq];omega
theorem FG {a b:V}{x y:Value}(R:Rep w im ρ H h) (bC:aF w.params im ρ a x) (dt:aF w.params im ρ b y):ae (FF h x y) (wt a b H):=by
 refine ae.o (fun q dk=>ae.bO ?_) fun _=>ae.b fun d hd=>ae.m fun e he=>?_
 ·exact (ae.b fun d hd=>ae.m fun e he=>by
   obtain ⟨dc,aK,dj⟩:=wQ (h:=h) bC _ hd
   obtain ⟨cH,bw,et⟩:=wQ (h:=h) dt _ he
   exact ⟨d,e,_,_,dc,cH,wR aK (Nat.le_of_eq dj) (Nat.zero_le _),wR bw (Nat.le_of_eq et) (Nat.zero_le _),(wN _ _).symm⟩:ae (FF h x y) (ED a b)) _ dk
 ·obtain ⟨as,dc,aK,dj⟩:=FE R 6 _ _ bC _ hd
  obtain ⟨bs,cH,bw,et⟩:=FE R 6 _ _ dt _ he
  exact ⟨d,e,as,bs,dc,cH,wR aK dj (Nat.le_refl _),wR bw et (Nat.le_refl _),(wN _ _).symm⟩
noncomputable def FH (h:Heap) (d:PyData) (xs:List Value) (q:Bool):Prop:=∃ ds as,ReadsAll h xs ds as∧PyData.canLayAll0 ds=true∧ds.any (fun y=>PyData.eqv y d)=q
theorem FI {d:PyData}{vs:List V}{xs:List Value}(r:aW w.params im ρ vs xs):ae (FH h d xs) (memD d vs) :=
 aW.ind (Q:=fun vs xs=>ae (FH h d xs) (memD d vs)) ae.no (fun {v x vs xs} a b aI=>ae.b fun e he=>by
  obtain ⟨dc,aK,dj⟩:=wQ (h:=h) a _ he
  rw[wN]
  refine ae.c (fun q=>ae.bO ?_) fun _=>ae.m fun y bU=>?_
  ·rw[List.isEmpty_iff.mp q] at b
   exact b.tv ⟨[e],_,.cons dc .nil,Bool.and_eq_true_iff.mpr ⟨aK,rfl⟩,Bool.or_false _⟩
  ·obtain ⟨ds,as,i0,da,gG⟩:=aI _ bU
   exact ⟨e::ds,_,.cons dc i0,Bool.and_eq_true_iff.mpr ⟨aK,da⟩,by rw[List.any_cons,gG]⟩) r
theorem t4 {op:CmpOp}{a b:V}{q:Bool}(h:dX op a b st=some (q,st')):st'=st:=lK h fun _ _ e=>(qU e).2.symm
theorem O8 {f:Int→Int→Bool}{a b:V}{q:Bool}(h:q1 f a b=some q):∃ i j,a=.int i∧b=.int j∧f i j=q:=jr h fun i aM h=>lK h fun j dY e=>⟨i,j,h6 aM,h6 dY,e⟩
theorem FJ {P:Params}{a:V}{x:Value}{q:Bool}(h:wu a=some q) (bC:aF P im ρ a x):(x == Value.none)=q:=by
 have key:nP a=false→(x == Value.none)=isNone a:=aF.casesOn (motive_1:=fun v x _=>nP v=false→(x == Value.none)=isNone v) bC (fun _=>rfl) (fun _ _=>rfl) (fun _ _ _=>rfl) (fun _ _ _ _=>rfl) (fun _ _ _ _=>rfl) (fun _ _ _ _=>rfl) (fun _ _ _ _=>rfl) (fun _ _=>rfl) (fun _ h=>ez h) (fun _ _ _=>rfl) (fun _ _=>rfl) (fun _ _ _=>rfl) (fun _ _=>rfl) (fun _ h=>ez h)
 exact (ae.cf fun z=>ae.bO (key z):ae (fun q=>(x == Value.none)=q) (wu a)) q h
theorem none_of {b:V}(h:isNone b=true):b=.none:=by cases b <;> first |rfl |exact dv h
theorem AH {α:Type}{b:Bool}{x:Option α}{y:α}(h:(bif b then x else none)=some y):b=true∧x=some y:=by cases b;exact ba h;exact ⟨rfl,h⟩
noncomputable def t5 (w:World) (A:Around) (s:Shared) (op:CmpOp) (x y:Value) (q:Bool):Prop:=∀ Q:Value→Shared→Prop,(∀ az,Q (.bool q) (a9 s s.heap az))→wpAny (aU w) A (compareOp op x y) Q bo s
theorem wU {op:CmpOp}{f:Int→Int→Bool}{a b:V}{x y:Value}{q:Bool}(h:q1 f a b=some q) (bC:aF w.params im ρ a x) (dt:aF w.params im ρ b y) (k:∀ i j t u,t5 w A s op (.int i t) (.int j u) (f i j)):t5 w A s op x y q:=by
 obtain ⟨i,j,rfl,rfl,rfl⟩:=O8 h
 exact bC.e0 fun t=>dt.e0 fun u=>k i j t u
theorem O9 {a b:V}{x y:Value}(dI:A.units+64<cLine) (R:Rep w im ρ H s.heap) (bC:aF w.params im ρ a x) (dt:aF w.params im ρ b y):ae (t5 w A s .In x y) ((Ae b).bind fun vs=>EE a vs) :=
 ae.b fun vs aV=>ae.b fun d hd q dk=>by
  obtain ⟨mY,iD,n5⟩:=wQ (h:=s.heap) bC _ hd
  have z:A.units+d.depth<cLine:=by rw[n5];omega
  exact (ae.o (fun us bT=>ae.bO fun dk=>by
   rw[n2 bT] at dt
   refine dt.f3 fun a' xs wV ao bb _ Q k=>?_
   obtain ⟨ds,as,i0,da,rfl⟩:=FI bb _ dk
   exact SeqAt.in_tuple_reads (.tuple (R.cM ao) rfl rfl i0) mY da iD (by rw[n5];simp;omega) (k s.toks)) fun _ us bT dk=>by
   rw[wH bT] at dt
   refine dt.tu fun a' xs wV ao bb _ Q k=>?_
   obtain ⟨ds,as,i0,da,rfl⟩:=FI bb _ dk
   exact SeqAt.in_list_reads (.list (R.cM ao) rfl rfl i0) mY da iD (by rw[n5];simp;omega) (k s.toks):ae (fun vs=>memD d vs=some q→t5 w A s .In x y q) (Ae b)) vs aV dk
theorem Pa {op:CmpOp}{a b:V}{x y:Value}{q:Bool}(dI:A.units+64<cLine) (R:Rep w im ρ H s.heap) (h:EF op a b H=some q) (bC:aF w.params im ρ a x) (dt:aF w.params im ρ b y):t5 w A s op x y q:=by
 cases op with
 |Eq=>obtain ⟨d,e,as,bs,dc,cH,aK,bw,rfl⟩:=FG R bC dt _ h;exact fun Q k=>eq_dataH dc cH aK bw dI (k s.toks)
 |NotEq=>exact lK h fun r h' e=>by obtain ⟨d,e,as,bs,dc,cH,aK,bw,rfl⟩:=FG R bC dt _ h';rw[←e];exact fun Q k=>ne_dataH dc cH aK bw dI (k s.toks)
 |Lt=>exact wU h bC dt fun i j t u Q k=>lt_int (k s.toks)
 |LtE=>exact wU h bC dt fun i j t u Q k=>le_int (k s.toks)
 |Gt=>exact wU h bC dt fun i j t u Q k=>gt_int (k s.toks)
 |GtE=>exact wU h bC dt fun i j t u Q k=>ge_int (k s.toks)
 |Is =>
  obtain ⟨z,h⟩:=AH h
  rw[none_of z] at dt
  exact dt.ts fun Q k=>is_none (by rw[FJ h bC];exact k s.toks)
 |IsNot =>
  obtain ⟨z,h⟩:=AH h
  rw[none_of z] at dt
  exact dt.ts (lK h fun r h' e=>by rw[←e];exact fun Q k=>isNot_none (by rw[FJ h' bC];exact k s.toks))
 |In=>exact O9 dI R bC dt q h
 |NotIn=>exact ba h
theorem wW {op:CmpOp}{a b:V}{x y:Value}{q:Bool}{n:Nat}{Q:Value→Shared→Prop}(h:dX op a b st=some (q,st')) (aE:dA A n) (R:aH w c ls st.H s.heap) (bC:aF w.params c.im c.ρ a x) (dt:aF w.params c.im c.ρ b y)
 (k:∀ az,Q (.bool q) (a9 s s.heap az)):wpAny (aU w) A (compareOp op x y) Q bo s :=
 lK h fun r h' e=>Pa (by have:=aE.u;omega) R.rep ((qU e).1▸h') bC dt Q k
end
section
variable {w:World}{A:Around}{c:br}{st st' : ax}{s:Shared}{ls:List (Str×V)}{n:Nat}
theorem Pb {x y:Str}(h1:PyData.strOk x=true) (af:PyData.strOk y=true):PyData.strOk (x++y)=true:=by
 unfold PyData.strOk at *
 show (x.cps++y.cps).all _=true
 rw[Array.all_append,h1,af];rfl
theorem Pc {a b:Int}(h0:0<b) (h1:b<1000):Builtin.divisionGoesByPylong a b=false:=by
 unfold Builtin.divisionGoesByPylong
 have:(if (b == 0)=true then 0 else b.natAbs.log2 / 30+1)≤300:=by
  split
  ·exact Nat.zero_le _
  ·have af:b.natAbs<2 ^ 10:=by omega
   have:b.natAbs.log2<10:=by
    by_cases z:b.natAbs=0
    ·rw[z];decide
    ·exact (Nat.log2_lt z).mpr af
   omega
 simp only[Bool.and_eq_false_iff]
 left
 exact decide_eq_false (by omega)
theorem Pd {a b:Int}(h:a.natAbs<1000):IntMulOk a b:=by
 unfold IntMulOk
 have:decide (Builtin.Int.intBits a > shortFactorBits)=false:=decide_eq_false (by
  unfold Builtin.Int.intBits shortFactorBits
  by_cases z:a.natAbs=0
  ·simp_all
  ·have:a.natAbs.log2<10:=(Nat.log2_lt z).mpr (by omega)
   first |omega |(split <;> omega))
 rw[this];simp
theorem FK (R:aH w c ls st.H s.heap) {vs:List V}{xs:List Value}(bN:aW w.params c.im c.ρ vs xs) (bZ:xs.length≤aL) :
 ∃ c',b3 s.heap c (s.heap.push (hF xs 0)) c'∧aH w c' ls st.H (s.heap.push (hF xs 0))∧aF w.params c'.im c'.ρ (.tup vs) (.ref s.heap.objs.size):=by
 obtain ⟨eA,l⟩:=R.tA (hF xs 0) rfl
 exact ⟨_,⟨l,.push _⟩,eA,.tup mP (bN.le l) bZ⟩
noncomputable def kl (w:World) (c:br) (ls:List (Str×V)) (s:Shared) (r:V) (st' : ax) (Q:Value→Shared→Prop):Prop :=
 ∀ c' h' az z,b3 s.heap c h' c'→aH w c' ls st'.H h'→aF w.params c'.im c'.ρ r z→Q z (a9 s h' az)
noncomputable def t6 (w:World) (A:Around) (c:br) (ls:List (Str×V)) (s:Shared) (m:Sem Value) (r:V) (st' : ax):Prop:=∀ Q:Value→Shared→Prop,kl w c ls s r st' Q→wpAny (aU w) A m Q bo s
theorem kl.h8 {r:V}{bw:br}{af:Heap}{cU:Tok}{Q:Value→Shared→Prop}(k:kl w c ls s r st' Q) (n:b3 s.heap c af bw):kl w bw ls (a9 s af cU) r st' Q:=fun da aB g0 z c4 P3 oY=>k da aB g0 z (n.trans c4) P3 oY
section
variable {a b:Addr}{xs ys:List Value}{us ws:List V}{n m:Nat}
theorem Pe (R:aH w c ls st.H s.heap) (ao:c.im a=some (hF xs n)) (bb:aW w.params c.im c.ρ us xs) (z:xs.length≤aL) (aC:c.im b=some (hF ys m)) (aD:aW w.params c.im c.ρ ws ys) (k2:ys.length≤aL) (q:us.length+ws.length<1000) :
 t6 w A c ls s (binaryOp .Add (.ref a) (.ref b)) (.tup (us++ws)) st:=fun Q k=>by
 have l1:=bb.length
 have l2:=aD.length
 have g4:IsTup s.heap a xs.toArray:=⟨_,R.rep.cM ao,rfl,n,rfl⟩
 have mZ:IsTup s.heap b ys.toArray:=⟨_,R.rep.cM aC,rfl,m,rfl⟩
 obtain ⟨AI,gY,bc⟩:=R.ns
 refine add_tuples (OR bc) (OQ s.heap c.L) g4 mZ (fun aV=>?_) (fun aV hw=>?_) (fun aV hw h' FL N=>?_) (by rw[sizeLine_eq];omega)
 ·subst aV
  have:us=[]:=List.length_eq_zero_iff.mp l1
  subst this
  exact k c s.heap s.toks _ .refl R (.tup aC aD k2)
 ·subst hw
  have:ws=[]:=List.length_eq_zero_iff.mp l2
  subst this
  exact k c s.heap s.toks _ .refl R (by rw[List.append_nil];exact .tup ao bb z)
 ·have ar:∀ b aa,b≠c.L→s.heap.get? b=some aa→h'.get? b=some aa:=fun b aa nb e=>(N (b,aa) (.tail _ (AB.mpr ⟨e,nb⟩))).1
  have fl:=(N _ (.head _)).1
  have eA:=R.frame gY FL.ns ar
  have ri:s.heap.objs.size≠c.L:=(N _ (.head _)).2.1
  have no : ¬ Own c.ρ st.H s.heap.objs.size:=fun q=>Nat.lt_irrefl _ (R.rep.lt q)
  have l:=eA.Fw fl (Heap.iy (Nat.le_refl s.heap.objs.size))
  refine k _ h' s.toks _ ⟨l,fun b aa e=>?_⟩ (eA.Fv fl no ri) (.tup (n:=0) mP ((bb.append aD).le l) (by rw[List.length_append];unfold aL;omega))
  by_cases q:b=c.L
  ·obtain ⟨o',_,_,c9,_⟩:=FL.ns
   exact ⟨o',q▸c9⟩
  ·exact ⟨aa,ar b aa q e⟩
end
noncomputable def AJ (w:World) (op:Operator) (a b:V) (st:ax) (r:V×ax):Prop:=(r.2.aa→st.aa)∧(r.2.aa→∀{A c ls s x y},aH w c ls st.H s.heap→aF w.params c.im c.ρ a x→aF w.params c.im c.ρ b y→t6 w A c ls s (binaryOp op x y) r.1 r.2)
theorem Pf {s t:Str}(q:Nat.blt (s.cps.toList.length+t.cps.toList.length) 1000=true):s.length+t.length≤sizeLine:=Nat.le_trans (Nat.le_of_lt (Nat.blt_eq.mp q:s.length+t.length<1000)) (by rw[sizeLine_eq];decide)
theorem Pg {op:Operator}{i j:Int}:ae (AJ w op (.int i) (.int j) st) (EH op i j st):=by
 cases op with
 |Sub=>exact ae.bO ⟨fun o=>o,fun _ {A c ls s x y} R bC dt=>bC.e0 fun t=>dt.e0 fun u Q k=>sub_int (k c s.heap _ _ .refl R (.int _ _))⟩
 |Mult=>exact ae.de fun q=>ae.bO ⟨fun o=>o,fun _ {A c ls s x y} R bC dt=>bC.e0 fun t=>dt.e0 fun u Q k=>mul_int (k c s.heap _ _ .refl R (.int _ _)) (Pd (Nat.blt_eq.mp q))⟩
 |Mod=>exact ae.bO ⟨fun o=>o.1,fun aa {A c ls s x y} R bC dt=>bC.e0 fun t=>dt.e0 fun u Q k=>mod_int' (fun e=>Int.lt_irrefl 0 (e▸aa.2)) (k c s.heap _ _ .refl R (.int _ _))⟩
 |FloorDiv=>exact ae.bO ⟨fun o=>o.1,fun aa {A c ls s x y} R bC dt=>bC.e0 fun t=>dt.e0 fun u Q k=>floordiv_int (fun e=>Int.lt_irrefl 0 (e▸aa.2.1)) (k c s.heap _ _ .refl R (.int _ _)) (.inl (Pc aa.2.1 aa.2.2))⟩
 |_=>exact ae.no
theorem Ph {a b:V}:ae (AJ w .Add a b st) (EG a b st) :=
 ae.o (fun i aM=>ae.m fun j dY=>⟨fun o=>o,fun _ {A c ls s x y} R bC dt=>by
  rw[h6 aM] at bC
  rw[h6 dY] at dt
  exact bC.e0 fun t=>dt.e0 fun u Q k=>add_int (k c s.heap _ _ .refl R (.int _ _))⟩)
  fun _=>ae.o (fun i aM=>ae.b fun j dY=>ae.de fun q=>ae.bO ⟨fun o=>o,fun _ {A c ls s x y} R bC dt=>by
   rw[rd aM] at bC
   rw[rd dY] at dt
   exact bC.mM fun t h1=>dt.mM fun u af Q k=>add_str (fun AK az=>k c s.heap _ _ .refl R (.str _ _ (Pb h1 af))) (Pf q)⟩)
  fun _=>ae.b fun i aM=>ae.b fun j dY=>ae.de fun q=>ae.bO ⟨fun o=>o,fun _ {A c ls s x y} R bC dt=>by
   rw[n2 aM] at bC
   rw[n2 dY] at dt
   exact bC.f3 fun _ _ _ ao bb z=>dt.f3 fun _ _ _ aC aD k2=>Pe R ao bb z aC aD k2 (Nat.blt_eq.mp q)⟩
theorem Pj {op:Operator}(h:isAdd op=true):op=.Add:=by cases op <;> first |rfl |exact dv h
theorem FN {op:Operator}{a b:V}:ae (AJ w op a b st) (q2 op a b st) :=
 ae.c (fun q=>by rw[Pj q];exact Ph) fun _=>ae.b fun i aM=>ae.b fun j dY=>by rw[h6 aM,h6 dY];exact Pg
theorem FO {w:World}{op:Operator}{a b r:V}(h:q2 op a b st=some (r,st')):st'.aa→st.aa:=(FN (w:=w) _ h).1
theorem Pk {op:Operator}{a b r:V}{x y:Value}{Q:Value→Shared→Prop}(h:q2 op a b st=some (r,st')) (aa:st'.aa) (R:aH w c ls st.H s.heap) (bC:aF w.params c.im c.ρ a x) (dt:aF w.params c.im c.ρ b y)
 (k:kl w c ls s r st' Q):wpAny (aU w) A (binaryOp op x y) Q bo s:=(FN _ h).2 aa R bC dt Q k
end
section
variable {w:World}{A:Around}{c:br}{st st' : ax}{s:Shared}{ls:List (Str×V)}{n:Nat}
theorem Pl {a:Addr}{xs ys:List Value}{k:Nat}{f:Array Value→Array Value}(e:s.heap.get? a=some (fD xs k)) (hf:f xs.toArray=ys.toArray) :
 (s.heap.update a (Obj.mapSeq f)).get? a=some (fD ys (if ys.length=xs.length then k else k+1)):=by
 have z:=Nk (n:=k) f ys hf
 exact (AD e (by rw[z];rfl)).trans (congrArg some z)
theorem t7 (R:aH w c ls st.H s.heap) {r:Nat}{p:Addr×Addr}{vs us:List V}{xs ys:List Value}{k:Nat}{f:Array Value→Array Value}(a3:c.ρ[r]?=some p) (aM:st.H[r]?=some (.list vs))
 (e:s.heap.get? p.1=some (fD xs k)) (hf:f xs.toArray=ys.toArray) (bN:aW w.params c.im c.ρ us ys) (bZ:ys.length≤aL) :
 b3 s.heap c (s.heap.update p.1 (Obj.mapSeq f)) c∧aH w c ls (st.H.set r (.list us)) (s.heap.update p.1 (Obj.mapSeq f)):=by
 have u:=Pl (s:=s) e hf
 exact ⟨.of_same (fun b nb=>n4 nb) u,R.AA a3 aM rfl (fun b nb=>n4 fun q=>nb (by rw[q];exact .head _)) ⟨ys,_,u,bN,bZ⟩⟩
theorem t8 {v:V}{x:Value}{vs:List V}(h:kf v st=some vs) (R:aH w c ls st.H s.heap) (bN:aF w.params c.im c.ρ v x) :
 ∃ a xs k,x=.ref a∧s.heap.get? a=some (fD xs k)∧aW w.params c.im c.ρ vs xs∧xs.length≤aL:=FC R bN _ h
theorem n6 {k:Nat}(h:k≤aL):k≤sizeLine:=by rw[sizeLine_eq];unfold aL at h;omega
theorem newList (R:aH w c ls st.H s.heap) {h' : Heap}{vs:List V}{xs:List Value}{k:Nat}(bN:aW w.params c.im c.ρ vs xs) (bZ:xs.length≤aL) (ar:∀ b aa,s.heap.get? b=some aa→h'.get? b=some aa)
 {a:Addr}(b2:s.heap.objs.size≤a) (e:h'.get? a=some (fD xs k)):∃ c',b3 s.heap c h' c'∧aH w c' ls (st.H++[.list vs]) h'∧aF w.params c'.im c'.ρ (.ref st.H.length) (.ref a):=by
 have le:hp c.ρ (c.ρ++[(a,a)]):=fun i q e=>o6 e
 refine ⟨{c with ρ:=c.ρ++[(a,a)]},⟨⟨rfl,rfl,fun _ _ x=>x,le,fun _ _ x=>.inl x⟩,.of_keep ar⟩,R.push (p:=(a,a)) (o:=.list vs) ar (fun b m=>?_) ⟨xs,k,e,bN.mono (fun _ _ x=>x) le,bZ⟩,?_⟩
 ·cases m with |head=>exact b2 |tail _ q=>cases q
 ·refine aF.ref (p:=(a,a)) ?_
  show (c.ρ++[(a,a)])[st.H.length]?=_
  rw[←R.rep.len];simp
theorem sum_ints {P:Params}{im:ct}{ρ:c5}:∀{vs:List V}{xs:List Value}{t:Int},nS vs=some t→aW P im ρ vs xs→∃ ns,IntsAre xs ns∧ns.sum=t:=fun {vs}=>by
 induction vs with
 |nil=>exact fun e r=>by rw[←cb e];exact r.tv ⟨[],.nil,rfl⟩
 |cons v vs aI =>
  refine fun e r=>jr e fun i aM e=>lK e fun u dI e=>?_
  rw[←e]
  rw[h6 aM] at r
  exact r.qX fun y xs a b=>a.e0 fun t=>let ⟨ns,h1,af⟩:=aI dI b;⟨i::ns,.cons _ _ h1,by rw[List.sum_cons,af]⟩
theorem FP {r:Nat}{vs:List V}{x:V}{l y:Value}{Q:Value→Shared→Prop}(R:aH w c ls st.H s.heap) (aM:st.H[r]?=some (.list vs)) (a:aF w.params c.im c.ρ (.ref r) l) (b:aF w.params c.im c.ρ x y) (aa:vs.length<aL)
 (k:∀ h',b3 s.heap c h' c→aH w c ls (st.H.set r (.list (vs++[x]))) h'→Q .none (a9 s h' s.toks)):wpAny (aU w) A (call (.builtin "list.append") [l,y]) Q bo s:=by
 refine a.ix fun p a3=>?_
 obtain ⟨ys,m,ao,bb,z⟩:=R.rep.at_ a3 aM
 obtain ⟨aG,eA⟩:=t7 R a3 aM ao (f:=fun a=>a.push y) (ys:=ys++[y]) (by simp) (bb.append (.cons b .nil)) (by rw[List.length_append,←bb.length];simp;omega)
 exact call_meets F.slot_list_append ⟨_,ao,rfl⟩ F.entry_list_append (F.args_list_append_2 _ _) (PySem.list_append p.1 ys.toArray m _ (by rw[List.size_toArray];exact n6 z)) ⟨ao,k _ aG eA⟩
theorem aW.dropLast {P:Params}{im:ct}{ρ:c5}{vs:List V}{xs:List Value}(r:aW P im ρ vs xs):aW P im ρ vs.dropLast xs.dropLast:=by
 rw[←List.eraseIdx_length_sub_one,←List.eraseIdx_length_sub_one,r.length];exact r.eraseIdx _
theorem Pm {r:Nat}{vs:List V}{x:V}{l:Value}{Q:Value→Shared→Prop}(R:aH w c ls st.H s.heap) (aM:st.H[r]?=some (.list vs)) (a:aF w.params c.im c.ρ (.ref r) l) (bA:vs[vs.length - 1]?=some x)
 (k:∀ h' y,b3 s.heap c h' c→aH w c ls (st.H.set r (.list vs.dropLast)) h'→aF w.params c.im c.ρ x y→Q y (a9 s h' s.toks)):wpAny (aU w) A (call (.builtin "list.pop") [l]) Q bo s:=by
 refine a.ix fun p a3=>?_
 obtain ⟨ys,m,ao,bb,z⟩:=R.rep.at_ a3 aM
 obtain ⟨y,bU,bN⟩:=bb.get bA
 rw[bb.length] at bU
 have hl:ys.length - 1<ys.length:=(List.getElem?_eq_some_iff.mp bU).1
 obtain ⟨aG,eA⟩:=t7 R a3 aM ao (f:=fun xs=>xs.eraseIdxIfInBounds (ys.toArray.size - 1)) (ys:=ys.dropLast) (by simp[Array.eraseIdxIfInBounds,hl,List.eraseIdx_length_sub_one]) bb.dropLast (by rw[List.length_dropLast];omega)
 exact call_meets F.slot_list_pop ⟨_,ao,rfl⟩ F.entry_list_pop (F.args_list_pop_1 _) (MeetsSeq.list_pop_last p.1 ys.toArray m y (by simpa using bU) (by rw[List.size_toArray];exact n6 z)) ⟨ao,k _ _ aG eA bN⟩
theorem Pn {r j:Nat}{vs:List V}{x:V}{i:Int}{t:Tok}{l:Value}{Q:Value→Shared→Prop}(R:aH w c ls st.H s.heap) (aM:st.H[r]?=some (.list vs)) (a:aF w.params c.im c.ρ (.ref r) l) (dY:idx i vs.length=some j) (bA:vs[j]?=some x)
 (k:∀ h' y,b3 s.heap c h' c→aH w c ls (st.H.set r (.list (vs.eraseIdx j))) h'→aF w.params c.im c.ρ x y→Q y (a9 s h' s.toks)):wpAny (aU w) A (call (.builtin "list.pop") [l,.int i t]) Q bo s:=by
 refine a.ix fun p a3=>?_
 obtain ⟨ys,m,ao,bb,z⟩:=R.rep.at_ a3 aM
 obtain ⟨y,bU,bN⟩:=bb.get bA
 rw[bb.length] at dY
 have hl:j<ys.length:=(List.getElem?_eq_some_iff.mp bU).1
 have bR:=wM dY hl
 obtain ⟨aG,eA⟩:=t7 R a3 aM ao (f:=fun xs=>xs.eraseIdxIfInBounds j) (ys:=ys.eraseIdx j) (by simp[Array.eraseIdxIfInBounds,hl]) (bb.eraseIdx _) (by rw[List.length_eraseIdx];split <;> omega)
 exact call_meets F.slot_list_pop ⟨_,ao,rfl⟩ F.entry_list_pop (F.args_list_pop_2 _ _) (MeetsSeq.list_pop_at p.1 ys.toArray m i t j y (by unfold aL at z;unfold Builtin.List.listFitsIndex;simp;omega) (by rw[List.size_toArray];exact FA dY hl) (by simpa using bU) (by rw[List.size_toArray];exact n6 z)) ⟨ao,k _ _ aG eA bN⟩
theorem Po {r:Nat}{vs:List V}{x:V}{i:Int}{t:Tok}{l y:Value}{Q:Value→Shared→Prop}(R:aH w c ls st.H s.heap) (aM:st.H[r]?=some (.list vs)) (a:aF w.params c.im c.ρ (.ref r) l) (b:aF w.params c.im c.ρ x y) (aS:0≤i) (bf:i.toNat≤vs.length) (aa:vs.length<aL)
 (k:∀ h',b3 s.heap c h' c→aH w c ls (st.H.set r (.list (vs.take i.toNat++x::vs.drop i.toNat))) h'→Q .none (a9 s h' s.toks)):wpAny (aU w) A (call (.builtin "list.insert") [l,.int i t,y]) Q bo s:=by
 refine a.ix fun p a3=>?_
 obtain ⟨ys,m,ao,bb,z⟩:=R.rep.at_ a3 aM
 have dT:=bf
 rw[bb.length] at bf
 have nH : ¬ i<0:=by omega
 obtain ⟨aG,eA⟩:=t7 R a3 aM ao (f:=fun xs=>have k:=if i<0 then (i+((xs.size:Nat):Int)).toNat else min i.toNat xs.size;(xs.extract 0 k).push y++xs.extract k) (ys:=ys.take i.toNat++y::ys.drop i.toNat)
  (by
   simp only[nH,if_false,List.size_toArray,Nat.min_eq_left bf]
   simp
   exact List.take_of_length_le (by simp)) ((bb.take _).append (.cons b (bb.drop _))) (by rw[List.length_append,List.length_cons,List.length_take,List.length_drop];rw[bb.length] at aa;omega)
 exact call_meets F.slot_list_insert ⟨_,ao,rfl⟩ F.entry_list_insert (F.args_list_insert_3 _ _ _) (AutoListH.list_insert_list_int_val_1 p.1 ys.toArray m i t y (by unfold aL at z;unfold Builtin.List.listFitsIndex;simp;omega) (by rw[List.size_toArray];exact n6 z)) ⟨ao,k _ aG eA⟩
theorem Pp {l:Addr}{ys:List Value}{m:Nat}{ns:List Int}{Q:Value→Shared→Prop}(bY:A.handled=none) (R:aH w c ls st.H s.heap) (ao:s.heap.get? l=some (fD ys m)) (aM:IntsAre ys ns)
 (k:∀ h' az t,b3 s.heap c h' c→aH w c ls st.H h'→Q (.int ns.sum t) (a9 s h' az)):wpAny (aU w) A (call (.builtin "sum") [.ref l]) Q bo s:=by
 obtain ⟨xs,e⟩:=aM.allInts.items
 have hl:=listAt ao
 rw[e] at hl
 refine sum_intListG bY hl fun h' az AK ar=>?_
 have aC:preSum (numAt xs) xs.size=ns.sum:=by
  have q:=aM.numsOf
  have:numsOf ys=xs.toList.map (·.1):=by
   have:=nums_intItems xs
   rw[←e] at this
   simpa using this
  rw[preSum_eq,List.take_of_length_le (by simp),←this,q]
 rw[aC]
 exact k h' az AK (.keep ar) (R.grow (im':=c.im) ar (fun _ _ x=>x) fun _ _ x=>.inl x)
noncomputable def g5 (w:World) (g:Value) (args:List V) (st:ax) (r:V×ax):Prop:=(r.2.aa→st.aa)∧(r.2.aa→∀{A n c ls s xs},dA A n→aH w c ls st.H s.heap→aW w.params c.im c.ρ args xs→t6 w A c ls s (call g xs) r.1 r.2)
section
variable {a b z:V}{id:String}
theorem Pq:ae (g5 w (.builtin "len") [a] st) ((kf a st).map fun vs=>(.int vs.length,st)):=ae.m fun vs aV=>⟨fun o=>o,fun _ {A n c ls s xs} _ R bC=>bC.kT fun x a Q k=>by
 obtain ⟨l,ys,m,rfl,ao,bb,z⟩:=t8 aV R a
 refine len_list (listAt ao) (by rw[List.size_toArray];unfold aL at z;omega) ?_
 rw[List.size_toArray,←bb.length]
 exact k c s.heap _ _ .refl R (.int _ _)⟩
theorem Pr:ae (g5 w (.builtin "list.pop") [a] st) (nT st a fun r vs=>(vs[vs.length - 1]?).map fun x=>(x,⟨st.H.set r (.list vs.dropLast),st.aa⟩)):=ae.b fun r bR=>ae.b fun vs aM=>ae.m fun x bA=>⟨fun o=>o,fun _ {A n c ls s xs} _ R bC=>by
 rw[ki bR] at bC
 exact bC.kT fun x a Q k=>Pm R (kY aM) a bA fun h' y aG eA bN=>k c h' _ _ aG eA bN⟩
theorem Pt:ae (g5 w (.builtin "abs") [a] st) ((eL a).map fun i=>(.int (if i<0 then -i else i),st)):=ae.m fun i aM=>⟨fun o=>o,fun _ {A n c ls s xs} _ R bC=>by
 rw[h6 aM] at bC
 exact bC.kT fun x a=>a.e0 fun t Q k=>call_abs_int fun u az=>k c s.heap az _ .refl R (.int _ _)⟩
theorem Pu:ae (g5 w (.builtin "sum") [a] st) ((kf a st).bind fun vs=>(nS vs).map fun n=>(.int n,st)):=ae.b fun vs aV=>ae.m fun t bT=>⟨fun o=>o,fun _ {A n c ls s xs} aE R bC=>bC.kT fun x a Q k=>by
 obtain ⟨l,ys,m,rfl,ao,bb,z⟩:=t8 aV R a
 obtain ⟨ns,aM,rfl⟩:=sum_ints bT bb
 exact Pp aE.h R ao aM fun h' az t aG eA=>k c h' az _ aG eA (.int _ _)⟩
theorem Pw:ae (g5 w (.builtin "list.append") [a,b] st) (nT st a fun r vs=>some (.none,⟨st.H.set r (.list (vs++[b])),st.aa∧vs.length<aL⟩)):=ae.b fun r bR=>ae.b fun vs aM=>ae.bO ⟨fun o=>o.1,fun aa {A n c ls s xs} _ R bC=>by
 rw[ki bR] at bC
 exact bC.tw fun x y a a' Q k=>FP R (kY aM) a a' aa.2 fun h' aG eA=>k c h' _ _ aG eA .none⟩
theorem Px:ae (g5 w (.builtin "list.pop") [a,b] st) (nT st a fun r vs=>(eL b).bind fun i=>(idx i vs.length).bind fun j=>(vs[j]?).map fun x=>(x,⟨st.H.set r (.list (vs.eraseIdx j)),st.aa⟩)):=ae.b fun r bR=>ae.b fun vs aM=>ae.b fun i bt=>ae.b fun j dY=>ae.m fun x bA =>
 ⟨fun o=>o,fun _ {A n c ls s xs} _ R bC=>by
  rw[ki bR,h6 bt] at bC
  exact bC.tw fun x y a a'=>a'.e0 fun t Q k=>Pn R (kY aM) a dY bA fun h' y aG eA bN=>k c h' _ _ aG eA bN⟩
theorem Py (h:Af b=true):b=.obj (.type "str"):=by
 cases b with
 |obj x=>cases x with
  |type t=>rw[show t = "str" from of_decide_eq_true h]
  |_=>exact dv h
 |_=>exact dv h
theorem Pz:ae (g5 w (.builtin "isinstance") [a,b] st) (bif Af b then (EI a).map fun q=>(.bool q,st) else none):=by
 refine ae.de fun bt=>?_
 rw[Py bt]
 cases a with
 |str z=>exact ae.bO ⟨fun o=>o,fun _ {A n c ls s xs} _ R bC=>bC.tw fun x y a a'=>a.mM fun t _=>a'.objE fun Q k=>IsiPair.str_str (k c s.heap s.toks _ .refl R (.bool _))⟩
 |int i=>exact ae.bO ⟨fun o=>o,fun _ {A n c ls s xs} _ R bC=>bC.tw fun x y a a'=>a.e0 fun t=>a'.objE fun Q k=>IsiPair.int_str (k c s.heap _ _ .refl R (.bool _))⟩
 |_=>exact ae.no
theorem PA:ae (g5 w (.builtin "list.insert") [a,b,z] st) (nT st a fun r vs=>(eL b).bind fun i=>bif decide (0≤i)&&Nat.ble i.toNat vs.length then some (.none,⟨st.H.set r (.list (vs.take i.toNat++z::vs.drop i.toNat)),st.aa∧vs.length<aL⟩) else none):=ae.b fun r bR=>ae.b fun vs aM=>ae.b fun i bt=>ae.de fun q=>ae.bO
 ⟨fun o=>o.1,fun aa {A n c ls s xs} _ R bC=>by
  obtain ⟨aS,bf⟩:=Bool.and_eq_true_iff.mp q
  rw[ki bR,h6 bt] at bC
  exact bC.NN fun x y z a a' PB=>a'.e0 fun t Q k=>Po R (kY aM) a PB (of_decide_eq_true aS) (Nat.le_of_ble_eq_true bf) aa.2 fun h' aG eA=>k c h' _ _ aG eA .none⟩
theorem PC:ae (g5 w (.builtin id) [a] st) (nU id a st) :=
 ae.i (fun e=>e▸Pq) fun _=>ae.i (fun e=>e▸Pr) fun _=>ae.i (fun e=>e▸Pt) fun _=>ae.i (fun e=>e▸Pu) fun _=>ae.no
theorem PD:ae (g5 w (.builtin id) [a,b] st) (nV id a b st):=ae.i (fun e=>e▸Pw) fun _=>ae.i (fun e=>e▸Px) fun _=>ae.i (fun e=>e▸Pz) fun _=>ae.no
theorem PE:ae (g5 w (.builtin id) [a,b,z] st) (wy id a b z st):=ae.i (fun e=>e▸PA) fun _=>ae.no
end
theorem PF {id:String}{args:List V}:ae (g5 w (.builtin id) args st) (wz id args st):=by
 cases args with
 |nil=>exact ae.no
 |cons a r=>cases r with
  |nil=>exact PC
  |cons b r=>cases r with
   |nil=>exact PD
   |cons z r=>cases r with
    |nil=>exact PE
    |cons _ _=>exact ae.no
end
section
variable {w:World}{A:Around}{c:br}{st st' : ax}{s:Shared}{ls:List (Str×V)}{n:Nat}
theorem PG {x:Str}{k:Nat}(h:wx x=some k):PySem.intText? x=some (k:Int)∧x.length≤640:=by
 unfold wx at h
 split at h
 ·rename_i q;obtain rfl:=cb h;rw[d8.mp q];exact ⟨by kernel_rfl,by decide⟩
 ·split at h
  ·rename_i q;obtain rfl:=cb h;rw[d8.mp q];exact ⟨by kernel_rfl,by decide⟩
  ·split at h
   ·rename_i q;obtain rfl:=cb h;rw[d8.mp q];exact ⟨by kernel_rfl,by decide⟩
   ·exact ba h
theorem PH:∀ k:Nat,k<10→(Str.ofString (toString (Int.ofNat k)):Str)=kX k∧PyData.strOk (kX k)=true∧k.log2<1920:=by decide +kernel
theorem PI {i:Int}(h0:0≤i) (h1:i<10):(Str.ofString (toString i):Str)=kX i.toNat∧PyData.strOk (kX i.toNat)=true∧i.natAbs.log2<1920 :=
 match i,h0,h1 with
 |.ofNat k,_,h=>PH k (Int.ofNat_lt.mp h)
theorem PJ {i:Int}{t:Tok}{Q:Value→Shared→Prop}(R:aH w c ls st.H s.heap) (k:∀ c' h' az z,b3 s.heap c h' c'→aH w c' ls st.H h'→aF w.params c'.im c'.ρ (.cx 0 i) z→Q z (a9 s h' az)) :
 wpAny (aU w) A (call (.type "range") [.int i t]) Q bo s:=by
 refine call_range_1 ?_
 obtain ⟨eA,l⟩:=R.tA {cls:=.type "range",data:=.fields #[.int 0 s.toks,.int i t,.int 1 (s.toks+1)]} rfl
 exact k _ _ _ _ ⟨l,.push _⟩ eA (.cx mP)
theorem PK {r:Nat}{vs:List V}{x:V}{i:Int}{t:Tok}{l y:Value}{Q:Unit→Shared→Prop}(R:aH w c ls st.H s.heap) (aM:st.H[r]?=some (.list vs)) (a:aF w.params c.im c.ρ (.ref r) l) (b:aF w.params c.im c.ρ x y) (aS:0≤i) (bf:i.toNat<vs.length)
 (k:∀ h',b3 s.heap c h' c→aH w c ls (st.H.set r (.list (vs.set i.toNat x))) h'→Q () (a9 s h' s.toks)):wpAny (aU w) A (setItem l (.int i t) y) Q bo s:=by
 refine a.ix fun p a3=>?_
 obtain ⟨ys,m,ao,bb,z⟩:=R.rep.at_ a3 aM
 rw[bb.length] at bf
 have hl:=listAt ao
 unfold setItem
 refine wpAny_holding ?_
 refine wpAny_bind (wpAny_sequenceKey hl.typeIs (by decide) ?_)
 refine wpAny_bind (wpAny_callSpecial?_slot (name:=Str.ofString "__setitem__") hl.typeIs slot_list_setitem
  (wpAny_call_entry slot_list_setitem hl.typeIs entry_list_setitem ?_ (args_list_setitem _ _ _)))
 show wpAny _ _ (Builtin.List.listSubscript? (.int i t) >>= _) _ _ s
 refine wpAny_bind (wpAny_listSubscript_int (fitsIndex_of aS (by unfold aL at z;omega)) ?_)
 obtain ⟨k',rfl⟩:=Int.eq_ofNat_of_zero_le aS
 have ar:k' < ys.length:=by simpa using bf
 have PL:ys.toArray[k']?=some ys[k']:=by simp[ar]
 show wpAny _ _ ((seqItemAt p.1 k' >>= fun r=>pure (r.map (k',·))) >>= _) _ _ s
 refine wpAny_bind (wpAny_bind (wpAny_seqItemAt ao rfl (wpAny_pure ?_)))
 rw[PL]
 show wpAny _ _ (setSeqItemAt p.1 k' y >>= _) _ _ s
 obtain ⟨aG,eA⟩:=t7 R a3 aM ao (f:=fun a=>a.setIfInBounds k' y) (ys:=ys.set k' y) (by simp) (bb.set k' b) (by rw[List.length_set];exact z)
 refine wpAny_bind (wpAny_setSeqItemAt ao rfl ?_)
 first
  |exact wpAny_bind (wpAny_pure (wpAny_pure ⟨.none,rfl,wpAny_pure (k _ aG eA)⟩))
  |exact wpAny_pure ⟨.none,rfl,wpAny_pure (k _ aG eA)⟩
theorem PM {α:Type}{x:Str}{v u:α}{l:List (Str×α)}:look x l=some u→(d7 x v l).length=l.length:=by
 induction l with
 |nil=>exact fun e=>ba e
 |cons p r aI =>
  cases h:seq x p.1 with
  |true=>exact fun _=>by rw[Am h];rfl
  |false=>exact fun e=>by rw[h5 h] at e;rw[An h];exact congrArg (· + 1) (aI e)
section
variable {a:V}{id:String}
theorem ty_list:ae (g5 w (.type "list") [a] st) ((kf a st).map fun vs=>nR (.list vs) st):=ae.m fun vs aV=>⟨fun o=>o,fun _ {A n c ls s xs} _ R bC=>bC.kT fun x a Q k=>by
 obtain ⟨l,ys,m,rfl,ao,bb,z⟩:=t8 aV R a
 refine call_list_seq l (.inl rfl) ao rfl rfl (fun h' c' ar lD=>?_) (by rw[List.size_toArray];exact n6 z)
 obtain ⟨bw,a4,AL,v2⟩:=newList R bb z ar (Nat.le_refl _) lD
 exact k bw h' s.toks _ a4 AL v2⟩
theorem ty_str:ae (g5 w (.type "str") [a] st) ((eL a).bind fun i=>bif decide (0≤i)&&decide (i<10) then some (.str (kX i.toNat),st) else none):=ae.b fun i aM=>ae.de fun q=>ae.bO ⟨fun o=>o,fun _ {A n c ls s xs} _ R bC=>by
 obtain ⟨aS,bf⟩:=Bool.and_eq_true_iff.mp q
 rw[h6 aM] at bC
 refine bC.kT fun x a=>a.e0 fun t Q k=>?_
 obtain ⟨ao,aC,cL⟩:=PI (of_decide_eq_true aS) (of_decide_eq_true bf)
 refine P.str_of_int cL ?_
 rw[show ∀(i:Int),(toString i:PySem.Str)=Str.ofString (toString i) from fun _=>rfl,ao]
 exact k c s.heap _ _ .refl R (.str _ _ aC)⟩
theorem ty_int:ae (g5 w (.type "int") [a] st) ((nO a).bind fun s=>(wx s).map fun (n:Nat)=>(V.int (n:Int),st)):=ae.b fun i aM=>ae.m fun m hm=>⟨fun o=>o,fun _ {A n c ls s xs} _ R bC=>by
 rw[rd aM] at bC
 refine bC.kT fun x a=>a.mM fun t _ Q k=>?_
 obtain ⟨ao,aC⟩:=PG hm
 exact KIN.call_text ao aC (k c s.heap _ _ .refl R (.int _ _))⟩
theorem PN:ae (g5 w (.type "range") [a] st) ((eL a).bind fun n=>bif decide (0≤n)&&decide (n≤1000000) then some (.cx 0 n,st) else none):=ae.b fun i aM=>ae.de fun q=>ae.bO ⟨fun o=>o,fun _ {A n c ls s xs} _ R bC=>by
 rw[h6 aM] at bC
 exact bC.kT fun x a=>a.e0 fun t Q k=>PJ R k⟩
theorem PO:ae (g5 w (.type id) [a] st) (EJ id a st):=ae.i (fun e=>e▸ty_list) fun _=>ae.i (fun e=>e▸ty_str) fun _=>ae.i (fun e=>e▸ty_int) fun _=>ae.i (fun e=>e▸PN) fun _=>ae.no
end
theorem PQ {id:String}{args:List V}:ae (g5 w (.type id) args st) (EK id args st):=by
 cases args with
 |nil=>exact ae.no
 |cons a r=>cases r with
  |nil=>exact PO
  |cons _ _=>exact ae.no
theorem PR {v fp tZ:V}{fR cy x:Value}(R:aH w c ls st.H s.heap) (h7:aF w.params c.im c.ρ v fR) (hL:aF w.params c.im c.ρ fp cy) (n7:aF w.params c.im c.ρ tZ x):ae (Fy w A c ls s (setItem fR cy x) st.aa) (nQ v fp tZ st) :=
 ae.b fun r bR=>by
  rw[ki bR] at h7
  refine ae.o (fun i aM=>ae.b fun vs aV=>ae.de fun aS=>ae.m fun y bU=>⟨rfl,fun Q k=>?_⟩) fun _=>ae.b fun sk ar=>ae.b fun fs hf=>ae.m fun y bU=>⟨rfl,fun Q k=>?_⟩
  ·rw[h6 aM] at hL
   exact hL.e0 fun t=>PK R (kY aV) h7 n7 (of_decide_eq_true aS) (List.getElem?_eq_some_iff.mp bU).1 fun h' aG eA=>k h' _ aG eA
  ·rw[rd ar] at hL
   refine hL.mM fun t _=>h7.ix fun p a3=>?_
   obtain ⟨lM,ao,bb,z⟩:=R.rep.at_ a3 (As hf)
   have ef:=ao
   obtain ⟨_,_,_,_,_,_,_,_,ef⟩:=ef
   refine wpAny_setItem_pairs (strKind_is bz w _ _) ao (fun h' hd ak=>?_) (by rw[←bb.length];exact Nat.le_trans z (by decide))
   have lY:=hd
   obtain ⟨o',_,_,c9,_⟩:=lY
   exact k h' _ (.of_same (fun b nb=>ak.2 b nb) c9) (R.AA a3 (As hf) rfl (fun b nb=>ak.2 b fun q=>nb (by rw[q];exact .head _)) ⟨_,hd,bb.set n7 ef,by rw[PM bU];exact z⟩)
end
inductive jD (c:br) (P:Params):cD→Flow→Prop
 |next:jD c P .next .next
 |brk:jD c P .brk .brk
 |cont:jD c P .cont .cont
 |ret {v x}:aF P c.im c.ρ v x→jD c P (.ret v) (.ret x)
inductive fS (c:br) (P:Params) (h:Heap):Src→Nat→Addr→List Addr→Prop
 |aN {vs xs a aR k n}:c.im a=some (fD xs n)→aW P c.im c.ρ vs xs→h.IsListIter aR a k→fS c P h (.aN vs) k aR [aR]
 |di {vs xs a aR k n}:c.im a=some (hF xs n)→aW P c.im c.ρ vs xs→h.IsTupleIter aR a k→fS c P h (.di vs) k aR [aR]
 |ref {i p aR k}:c.ρ[i]?=some p→h.IsListIter aR p.1 k→fS c P h (.ref i) k aR [aR]
 |cx {lo aM aR}{k:Nat}:IsRangeIter h aR (lo+k) (aM - lo - k) 1→fS c P h (.cx lo aM) k aR [aR]
 |rl {vs xs a e aR k n old}:c.im a=some (fD xs n)→aW P c.im c.ρ vs xs→h.IsListIter aR a k→IsEnum h e aR (k:Int) old→e≠aR→fS c P h (.ju (.aN vs)) k e [e,aR]
 |rm {i p e aR k old}:c.ρ[i]?=some p→h.IsListIter aR p.1 k→IsEnum h e aR (k:Int) old→e≠aR→fS c P h (.ju (.ref i)) k e [e,aR]
structure jE (as:List Addr) (h:Heap) (c:br) (h' : Heap) (c' : br):Prop where
 le:br.le h c c'
 aP:∀ a o,a ∉ as→h.get? a=some o→∃ o',h'.get? a=some o'
theorem b3.nb {as:List Addr}{h h' : Heap}{c c' : br}(n:b3 h c h' c'):jE as h c h' c':=⟨n.le,fun a o _ e=>n.aP a o e⟩
theorem b3.FQ {as:List Addr}{h h' jA:Heap}{c c' kU:br}(n:b3 h c h' c') (m:jE as h' c' jA kU):jE as h c jA kU :=
 ⟨n.le.trans n.aP m.le,fun a o q e=>let ⟨o',c9⟩:=n.aP a o e;m.aP a o' q c9⟩
theorem jE.cA {as:List Addr}{h h' jA:Heap}{c c' kU:br}(n:b3 h c h' c') (m:jE as h' c' jA kU) (z:∀ a∈as,h.get? a=none):b3 h c jA kU :=
 ⟨n.le.trans n.aP m.le,fun a o e=>let ⟨o',c9⟩:=n.aP a o e;m.aP a o' (fun q=>by rw[z a q] at e;exact ba e) c9⟩
noncomputable def AM (w:World) (c:br) (ls:List (Str×V)) (s:Shared) (q:Bool) (st' : ax) (Q:Bool→Shared→Prop):Prop:=∀ c' h' az,b3 s.heap c h' c'→aH w c' ls st'.H h'→Q q (a9 s h' az)
noncomputable def pk (w:World) (c:br) (s:Shared) (f:cD) (ls:List (Str×V)) (st' : ax) (Q:Flow→Shared→Prop):Prop:=∀ c' h' az g,b3 s.heap c h' c'→aH w c' ls st'.H h'→jD c' w.params f g→Q g (a9 s h' az)
noncomputable def rn (w:World) (c:br) (s:Shared) (ls:List (Str×V)) (st' : ax) (Q:Unit→Shared→Prop):Prop:=∀ c' h' az,b3 s.heap c h' c'→aH w c' ls st'.H h'→Q () (a9 s h' az)
noncomputable def f7 (w:World) (n:Nat) (fr:a5) (e:PySem.Expr) (st:ax) (r:V×ax):Prop:=(r.2.aa→st.aa)∧(r.2.aa→∀{A c env s},dA A n→cO c fr env→aH w c fr.ls st.H s.heap→t6 w A c fr.ls s (eval e env) r.1 r.2)
noncomputable def lZ (w:World) (n:Nat) (fr:a5) (e:PySem.Expr) (st:ax) (r:Bool×ax):Prop:=(r.2.aa→st.aa)∧(r.2.aa→∀{A c env s}(Q),dA A n→cO c fr env→aH w c fr.ls st.H s.heap→AM w c fr.ls s r.1 r.2 Q→wpAny (aU w) A (isTrue e env (eval e env)) Q bo s)
noncomputable def iE (w:World) (n:Nat) (fr:a5) (m:Env→Sem Flow) (st:ax) (r:cD×List (Str×V)×ax):Prop:=(r.2.2.aa→st.aa)∧(r.2.2.aa→∀{A c env s}(Q),dA A n→cO c fr env→aH w c fr.ls st.H s.heap→pk w c s r.1 r.2.1 r.2.2 Q→wpAny (aU w) A (m env) Q bo s)
noncomputable def ro (w:World) (n:Nat) (fr:a5) (t:PySem.Expr) (v:V) (st:ax) (r:List (Str×V)×ax):Prop:=(r.2.aa→st.aa)∧(r.2.aa→∀{A c env s x}(Q),dA A n→cO c fr env→aH w c fr.ls st.H s.heap→aF w.params c.im c.ρ v x→rn w c s r.1 r.2 Q→wpAny (aU w) A (assign t env x) Q bo s)
noncomputable def n8 (w:World) (n:Nat) (f:V) (args:List V) (st:ax) (r:V×ax):Prop:=(r.2.aa→st.aa)∧(r.2.aa→∀{A c ls s g xs},dA A n→kj c.ρ→aH w c ls st.H s.heap→aF w.params c.im c.ρ f g→aW w.params c.im c.ρ args xs→t6 w A c ls s (call g xs) r.1 r.2)
noncomputable def FR (w:World) (n:Nat) (fr:a5) (t:PySem.Expr) (src:Src) (k:Nat) (body:List Stmt) (st:ax) (r:cD×List (Str×V)×ax):Prop:=(r.2.2.aa→st.aa)∧(r.2.2.aa→∀{A c env s aR as}(Y:Result→Shared→Prop),dA A n→cO c fr env→aH w c fr.ls st.H s.heap→fS c w.params s.heap src k aR as→(∀ a∈as,Off c st.H a) →
 (∀ c' h' az g,jE as s.heap c h' c'→aH w c' r.2.1 r.2.2.H h'→jD c' w.params r.1 g→Y (.ok g) (a9 s h' az))→codeAny (aU w) A (.forLoop t (.ref aR) body [] env) Y s)
noncomputable def AN (w:World) (n:Nat) (fr:a5) (t:PySem.Expr) (body:List Stmt) (st:ax) (r:cD×List (Str×V)×ax):Prop:=(r.2.2.aa→st.aa)∧(r.2.2.aa→∀{A c env s}(Y:Result→Shared→Prop),dA A n→cO c fr env→aH w c fr.ls st.H s.heap→pk w c s r.1 r.2.1 r.2.2 (fun g=>Y (.ok g))→codeAny (aU w) A (.whileLoop t body [] env) Y s)
noncomputable def FT (w:World) (n:Nat) (fr:a5) (elt t:PySem.Expr) (ifs:List PySem.Expr) (src:Src) (k acc:Nat) (st st' : ax):Prop:=(st'.aa→st.aa)∧(st'.aa→∀{A c env s aR as x it sc pos}(Y:Result→Shared→Prop),dA A n→cO c fr env→aH w c fr.ls st.H s.heap→fS c w.params s.heap src k aR as→(∀ a∈as,Off c st.H a) →
 aF w.params c.im c.ρ (.ref acc) x→(∀ c' h' az bM,jE as s.heap c h' c'→aH w c' bM st'.H h'→∀ g,Y (.ok g) (a9 s h' az))→codeAny (aU w) A (.compLoop (.ListComp elt [⟨t,it,ifs,0⟩] sc pos) 0 (.ref aR) x env) Y s)
structure bP (w:World) (R:dO):Prop where
 FU:∀{n fr e st},ae (f7 w n fr e st) (R.ev n fr e st)
 FV:∀{n fr e st},ae (lZ w n fr e st) (R.es n fr e st)
 FW:∀{n fr ss st},ae (iE w n fr (execs ss) st) (R.ex n fr ss st)
 FX:∀{n fr t v st},ae (ro w n fr t v st) (R.as n fr t v st)
 FY:∀{n f args st},ae (n8 w n f args st) (R.cl n f args st)
 t9:∀{n fr t src k body st},ae (FR w n fr t src k body st) (R.jv n fr t src k body st)
 wX:∀{n fr t body st},ae (AN w n fr t body st) (R.tE n fr t body st)
 AO:∀{n fr elt t ifs src k acc st},ae (FT w n fr elt t ifs src k acc st) (R.dz n fr elt t ifs src k acc st)
section
variable {w:World}{R:dO}{n:Nat}{fr:a5}{st st' : ax}{A:Around}{c:br}{env:Env}{s:Shared}{ls:List (Str×V)}
theorem bP.dm (S:bP w R) {e v}(h:R.ev n fr e st=some (v,st')):st'.aa→st.aa:=(S.FU _ h).1
theorem bP.iF (S:bP w R) {e q}(h:R.es n fr e st=some (q,st')):st'.aa→st.aa:=(S.FV _ h).1
theorem bP.m1 (S:bP w R) {ss f}(h:R.ex n fr ss st=some (f,ls,st')):st'.aa→st.aa:=(S.FW _ h).1
theorem bP.ua (S:bP w R) {t v}(h:R.as n fr t v st=some (ls,st')):st'.aa→st.aa:=(S.FX _ h).1
theorem bP.ub (S:bP w R) {f args v}(h:R.cl n f args st=some (v,st')):st'.aa→st.aa:=(S.FY _ h).1
theorem bP.uc (S:bP w R) {elt t ifs src k acc}(h:R.dz n fr elt t ifs src k acc st=some st'):st'.aa→st.aa:=(S.AO _ h).1
theorem bP.ev (S:bP w R) {e v Q}(h:R.ev n fr e st=some (v,st')) (aa:st'.aa) (aE:dA A n) (F:cO c fr env) (P:aH w c fr.ls st.H s.heap) (k:kl w c fr.ls s v st' Q):wpAny (aU w) A (eval e env) Q bo s:=(S.FU _ h).2 aa aE F P Q k
theorem bP.es (S:bP w R) {e q Q}(h:R.es n fr e st=some (q,st')) (aa:st'.aa) (aE:dA A n) (F:cO c fr env) (P:aH w c fr.ls st.H s.heap) (k:AM w c fr.ls s q st' Q):wpAny (aU w) A (isTrue e env (eval e env)) Q bo s:=(S.FV _ h).2 aa Q aE F P k
theorem bP.ex (S:bP w R) {ss f Q}(h:R.ex n fr ss st=some (f,ls,st')) (aa:st'.aa) (aE:dA A n) (F:cO c fr env) (P:aH w c fr.ls st.H s.heap) (k:pk w c s f ls st' Q):wpAny (aU w) A (execs ss env) Q bo s:=(S.FW _ h).2 aa Q aE F P k
theorem bP.as (S:bP w R) {t v x Q}(h:R.as n fr t v st=some (ls,st')) (aa:st'.aa) (aE:dA A n) (F:cO c fr env) (P:aH w c fr.ls st.H s.heap) (r:aF w.params c.im c.ρ v x) (k:rn w c s ls st' Q):wpAny (aU w) A (assign t env x) Q bo s:=(S.FX _ h).2 aa Q aE F P r k
theorem bP.cl (S:bP w R) {f args v g xs Q}(h:R.cl n f args st=some (v,st')) (aa:st'.aa) (aE:dA A n) (az:kj c.ρ) (P:aH w c ls st.H s.heap) (i1:aF w.params c.im c.ρ f g) (bC:aW w.params c.im c.ρ args xs) (k:kl w c ls s v st' Q):wpAny (aU w) A (call g xs) Q bo s:=(S.FY _ h).2 aa aE az P i1 bC Q k
theorem bP.ud (S:bP w R) {e c9 a b}{Q:Value→Value→Shared→Prop}(h:R.ev n fr e st=some a) (af:R.ev n fr c9 a.2=some b) (aa:b.2.aa) (aE:dA A n) (F:cO c fr env) (P:aH w c fr.ls st.H s.heap)
 (k:∀ c' h' az x y,b3 s.heap c h' c'→aH w c' fr.ls b.2.H h'→aF w.params c'.im c'.ρ a.1 x→aF w.params c'.im c'.ρ b.1 y→Q x y (a9 s h' az)):wpAny (aU w) A (eval e env) (fun x s1=>wpAny (aU w) A (eval c9 env) (fun y s2=>Q x y s2) bo s1) bo s :=
 S.ev h (S.dm af aa) aE F P fun aK h1 bK x aG aX v1=>S.ev (s:=a9 s h1 bK) af aa aE (F.cA aG) aX fun bw af cU y a4 b8 v2=>k bw af cU x y (aG.trans a4) b8 (v1.cA a4) v2
theorem pk.h8 {f:cD}{bw:br}{af:Heap}{cU:Tok}{Q:Flow→Shared→Prop}(k:pk w c s f ls st' Q) (n:b3 s.heap c af bw):pk w bw (a9 s af cU) f ls st' Q:=fun da aB g0 g c4 P3 oY=>k da aB g0 g (n.trans c4) P3 oY
theorem rn.h8 {bw:br}{af:Heap}{cU:Tok}{Q:Unit→Shared→Prop}(k:rn w c s ls st' Q) (n:b3 s.heap c af bw):rn w bw (a9 s af cU) ls st' Q:=fun da aB g0 c4 P3=>k da aB g0 (n.trans c4) P3
end
theorem PS (w:World):bP w E1:=⟨ae.no,ae.no,ae.no,ae.no,ae.no,ae.no,ae.no,ae.no⟩
theorem dA.deeper {A:Around}{n:Nat}{e:Env}(r:dA A (n+1)):dA (A.deeper e) n:=⟨by have:=r.d;simp only[Around.deeper];omega,by have:=r.u;simp only[Around.deeper_units];omega,r.h⟩
theorem dA.depth {A:Around}{n:Nat}(r:dA A n):A.depth<recursionLimit:=by have:=r.d;omega
section
variable {w:World}{R:dO}{A:Around}{c:br}{st st' : ax}{s:Shared}{n:Nat}{fr:a5}{env:Env}
theorem wY {e:PySem.Expr}(h:isStar e=false) (r:List PySem.Expr):starEach (e::r) env=(false,eval e env)::starEach r env:=by
 cases e <;> first |rfl |exact ez h
noncomputable def PT (w:World) (n:Nat) (fr:a5) (aD:List PySem.Expr) (st:ax) (r:List V×ax):Prop:=(r.2.aa→st.aa)∧r.1.length=aD.length∧(∀(env:Env) (pos:Pos),(backTo pos (starEach aD env)).any (·.1)=false) ∧
 (r.2.aa→∀{A c env s pos}(Q:List Value→Shared→Prop),dA A n→cO c fr env→aH w c fr.ls st.H s.heap→(∀ c' h' az xs,b3 s.heap c h' c'→aH w c' fr.ls r.2.H h'→aW w.params c'.im c'.ρ r.1 xs→Q xs (a9 s h' az))→wpAny (aU w) A (spliced (backTo pos (starEach aD env))) Q bo s)
theorem n9 (S:bP w R) (aD:List PySem.Expr):∀{st:ax},ae (PT w n fr aD st) (f6 R n fr aD st):=by
 induction aD with
 |nil=>exact fun {st}=>ae.bO ⟨id,rfl,fun _ _=>rfl,fun _ A c env s pos Q _ _ P k=>args_nil (k c s.heap s.toks [] .refl P .nil)⟩
 |cons e r aI =>
  exact fun {st}=>ae.cf fun q=>ae.b fun a h1=>ae.m fun b af=>⟨fun o=>S.dm h1 ((aI b af).1 o),congrArg (· + 1) (aI b af).2.1,fun env pos=>by rw[wY q];exact (aI b af).2.2.1 env pos,
   fun aa A c env s pos Q aE F P k=>args_cons (S.ev h1 ((aI b af).1 aa) aE F P fun aK bX bK x aG aX v1=>(aI b af).2.2.2 aa (s:=a9 s bX bK) _ aE (F.cA aG) aX fun bw cu cU xs a4 b8 v2=>k bw cu cU (x::xs) (aG.trans a4) b8 (.cons (v1.cA a4) v2)) (wY q r)⟩
theorem oa (S:bP w R) {aD:List PySem.Expr}{vs:List V}(h:f6 R n fr aD st=some (vs,st')):st'.aa→st.aa:=(n9 S aD _ h).1
theorem wZ (S:bP w R) {aD:List PySem.Expr}{pos:Pos}{vs:List V}{Q:List Value→Shared→Prop}(aE:dA A n) (h:f6 R n fr aD st=some (vs,st')) (aa:st'.aa) (F:cO c fr env) (P:aH w c fr.ls st.H s.heap)
 (k:∀ c' h' az xs,b3 s.heap c h' c'→aH w c' fr.ls st'.H h'→aW w.params c'.im c'.ρ vs xs→Q xs (a9 s h' az)):wpAny (aU w) A (spliced (backTo pos (starEach aD env))) Q bo s:=(n9 S aD _ h).2.2.2 aa Q aE F P k
end
section
variable {w:World}{R:dO}{A:Around}{c:br}{st st' : ax}{s:Shared}{n:Nat}{fr:a5}{env:Env}{r:V}{Q:Value→Shared→Prop}
theorem rp {b:Bool}{Q:Bool→Shared→Prop}(h:Q b s):wpAny (aU w) A (truthy (.bool b)) Q bo s:=wpAny_truthy_bool h
theorem AP {op:CmpOp}{e:PySem.Expr}(h:gq e=false):behindInMarks op e=false:=by
 cases e <;> first |rfl |exact ez h
theorem FZ {o:PySem.Expr}(h:baseOk o=true) (nm:Str) (t:Sem Value):attributeBase o nm env t=t:=by
 cases o <;> first |rfl |exact dv h
theorem PU (S:bP w R) {o:PySem.Expr}{nm:Str}{pos:Pos}{a u}(bt:baseOk o=true) (h1:R.ev n fr o st=some a) (af:mS a.1 nm a.2=some u):f7 w n fr (.Attribute o nm pos) st (u,a.2) :=
 ⟨S.dm h1,fun aa A c env s aE F P Q k=>Attribute_any_ (S.ev h1 aa aE F P fun aK bX bK x aG aX v1=>OL (s:=a9 s bX bK) af aX v1 (k.h8 aG)) (by rw[arm_eval_Attribute,FZ bt])⟩
noncomputable def ob (w:World) (g:Value) (h:Heap):Prop:=∃ k,(k=Keeper.frame∨k=Keeper.machine∨k=Keeper.boundFrame)∧Looks (aU w) h (keeperOf g) k
theorem PV {e:PySem.Expr}{r:List PySem.Expr}{x}(h1:f6 R n fr (e::r) st=some x):isStar e=false:=(ae.cf (fun q _ _=>q):ae (fun _=>isStar e=false) (f6 R n fr (e::r) st)) _ h1
theorem F0 (S:bP w R) {args:List PySem.Expr}{vs first:List V}{pl:V}{g:Value}{pn:List Value}{lS fQ:ax}{pos:Pos}(h1:f6 R n fr args st=some (vs,lS)) (af:R.cl n pl (first++vs) lS=some (r,fQ)) (aa:fQ.aa)
 (d5:∀ c h,aH w c fr.ls lS.H h→aF w.params c.im c.ρ pl g→ob w g h) (aE:dA A n) (F:cO c fr env) (P:aH w c fr.ls st.H s.heap) (oc:aF w.params c.im c.ρ pl g) (i1:aW w.params c.im c.ρ first pn)
 (k:kl w c fr.ls s r fQ Q):wpAny (aU w) A (callWith pos g pn (backTo pos (starEach args env)) []) Q bo s:=by
 refine callWith_of (P:=ob w g) (by rw[(n9 S _ _ h1).2.2.1];rfl) (fun h x=>x) ?_
 have fin:wpAny (aU w) A (spliced (backTo pos (starEach args env))) (fun vs dP=>ob w g dP.heap∧wpAny (aU w) A (call g (pn++vs)) Q bo dP) bo s :=
  wZ S aE h1 (S.ub af aa) F P fun aK bX bK xs aG aX v1=>⟨d5 _ _ aX (oc.cA aG),S.cl (s:=a9 s bX bK) af aa aE (F.cA aG).az aX (oc.cA aG) ((i1.cA aG).append v1) (k.h8 aG)⟩
 cases args with
 |nil =>
  refine evalArgs_nil3 ?_
  obtain ⟨rfl,rfl⟩:=DY h1
  exact ⟨d5 _ _ P oc,S.cl af aa aE F.az P oc (i1.append .nil) k⟩
 |cons e r =>
  rw[wY (PV h1)] at fin ⊢
  exact Calls.evalArgs_plain fin
theorem PW (S:bP w R) {l e:PySem.Expr}{op:Operator}{pos:Pos}{a b z}(h1:R.ev n fr l st=some a) (af:R.ev n fr e a.2=some b) (aB:q2 op a.1 b.1 b.2=some z):f7 w n fr (.BinOp l op e pos) st z :=
 ⟨fun o=>S.dm h1 (S.dm af (FO (w:=w) aB o)),fun aa A c env s aE F P Q k=>wpAny_BinOp (S.ud h1 af (FO (w:=w) aB aa) aE F P fun bw cu cU x y a4 b8 v1 v2=>Pk (s:=a9 s cu cU) aB aa b8 v1 v2 (k.h8 a4))⟩
theorem PX (S:bP w R) {e:PySem.Expr}{pos:Pos}{y i}(h1:R.ev n fr e st=some y) (af:eL y.1=some i):f7 w n fr (.UnaryOp .USub e pos) st (.int (-i),y.2) :=
 ⟨S.dm h1,fun aa A c env s aE F P Q k=>wpAny_UnaryOp (S.ev h1 aa aE F P fun aK bX bK x aG aX v1=>by
  rw[h6 af] at v1
  exact v1.e0 fun t=>neg_int (k aK bX _ _ aG aX (.int _ _)))⟩
theorem PY (S:bP w R) {l r:PySem.Expr}{op:CmpOp}{pos:Pos}{a b}{q:Bool×ax}(ak:gq r=false) (h1:R.ev n fr l st=some a) (af:R.ev n fr r a.2=some b) (aB:dX op a.1 b.1 b.2=some q):f7 w n fr (.Compare l [op] [r] pos) st (.bool q.1,q.2):=by
 have e:q.2=b.2:=t4 aB
 refine ⟨fun o=>S.dm h1 (S.dm af (e▸o)),fun aa A c env s aE F P Q k=>?_⟩
 replace aa:q.2.aa:=aa
 rw[e] at aa k
 exact wpAny_Compare1 (S.ud h1 af aa aE F P fun bw cu cU x y a4 b8 v1 v2=>wW (s:=a9 s cu cU) aB aE b8 v1 v2 fun az=>k bw cu az _ a4 b8 (.bool _)) (AP ak)
theorem PZ (S:bP w R) {a b:PySem.Expr}{pos:Pos}{x q}(h1:R.ev n fr a st=some x) (af:o8 x.1=some q):ae (f7 w n fr (.BoolOp .And [a,b] pos) st) (bif q then R.ev n fr b x.2 else some (.bool false,x.2)):=by
 rw[show x=(.bool q,x.2) by rw[←Fe af]] at h1
 cases q with
 |true=>exact fun y h=>⟨fun o=>S.dm h1 (S.dm h o),fun aa A c env s aE F P Q k=>wpAny_And2 (S.ev h1 (S.dm h aa) aE F P fun aK bX bK x aG aX v1=>v1.qW (rp (S.ev (s:=a9 s bX bK) h aa aE (F.cA aG) aX (k.h8 aG))))⟩
 |false=>exact ae.bO ⟨S.dm h1,fun aa A c env s aE F P Q k=>wpAny_And2 (S.ev h1 aa aE F P fun aK bX bK x aG aX v1=>v1.qW (rp (k aK bX bK _ aG aX (.bool _))))⟩
theorem P0 (S:bP w R) {t a b:PySem.Expr}{pos:Pos}{q:Bool×ax}(h1:R.es n fr t st=some q):ae (f7 w n fr (.IfExp t a b pos) st) (bif q.1 then R.ev n fr a q.2 else R.ev n fr b q.2):=by
 obtain ⟨q,s1⟩:=q
 cases q with
 |true=>exact fun y h=>⟨fun o=>S.iF h1 (S.dm h o),fun aa A c env s aE F P Q k=>wpAny_IfExp (S.es h1 (S.dm h aa) aE F P fun aK bX bK aG aX=>S.ev (s:=a9 s bX bK) h aa aE (F.cA aG) aX (k.h8 aG))⟩
 |false=>exact fun y h=>⟨fun o=>S.iF h1 (S.dm h o),fun aa A c env s aE F P Q k=>wpAny_IfExp (S.es h1 (S.dm h aa) aE F P fun aK bX bK aG aX=>S.ev (s:=a9 s bX bK) h aa aE (F.cA aG) aX (k.h8 aG))⟩
theorem F1 {aD:List PySem.Expr}(q:Nat.blt 100 aD.length=false):aD.length≤100:=Nat.le_of_not_lt fun z=>by rw[Nat.blt_eq.mpr z] at q;exact ez q
theorem F2 {k:Nat}(h:k≤100):k≤aL∧k≤sizeLine:=⟨Nat.le_trans h (by decide),n6 (Nat.le_trans h (by decide))⟩
theorem P1 (S:bP w R) {aD:List PySem.Expr}{kd:Nat}{pos:Pos}{x}(q:Nat.blt 100 aD.length=false) (h1:f6 R n fr aD st=some x):f7 w n fr (.Tuple aD kd pos) st (.tup x.1,x.2) :=
 ⟨oa S h1,fun aa A c env s aE F P Q k=>by
  rw[arm_eval_Tuple]
  refine wpAny_bind (wpAny_standAt (wpAny_bind (wZ S aE h1 aa F P fun aK bX bK xs aG aX v1=>?_)))
  have hl:=F2 (k:=xs.length) (by rw[←v1.length,(n9 S _ _ h1).2.1];exact F1 q)
  obtain ⟨bw,a4,b8,v2⟩:=FK (s:=a9 s bX bK) aX v1 hl.1
  exact wpAny_newTuple (k bw _ bK _ (aG.trans a4) b8 v2) hl.2⟩
theorem P2 (S:bP w R) {aD:List PySem.Expr}{pos:Pos}{x}(q:Nat.blt 100 aD.length=false) (h1:f6 R n fr aD st=some x):f7 w n fr (.List aD pos) st (nR (.list x.1) x.2) :=
 ⟨fun o=>oa S h1 o,fun aa A c env s aE F P Q k=>by
  rw[arm_eval_List]
  refine wpAny_bind (wpAny_standAt (wpAny_bind (wZ S aE h1 aa F P fun aK bX bK xs aG aX v1=>?_)))
  have hl:=F2 (k:=xs.length) (by rw[←v1.length,(n9 S _ _ h1).2.1];exact F1 q)
  refine wpAny_newList ?_ hl.2
  obtain ⟨bw,a4,b8,v2⟩:=newList (s:=a9 s bX bK) (h':=bX.push (fD xs 0)) (k:=0) aX v1 hl.1 (fun b aa e=>Heap.get?_push_of_some _ e) (Nat.le_refl _) (Heap.get?_push_size _ rfl)
  exact k bw _ bK _ (aG.trans a4) b8 v2⟩
end
section
variable {w:World}{P:Params}{im im' : ct}{ρ:c5}{b:Nat}
theorem aF.el {v:V}{x:Value}(h:aF P im ρ v x):cq ρ.length v=true :=
 aF.rec (motive_1:=fun v _ _=>cq ρ.length v=true) (motive_2:=fun vs _ _=>dS ρ.length vs=true) (motive_3:=fun fs _ _=>jy ρ.length fs=true) rfl (fun _=>rfl) (fun _ _=>rfl) (fun _ _ _=>rfl) (fun _ _ _ r=>r) (fun _ _ _ r=>r) (fun _ _ _ r=>r)
  (fun e=>Nat.blt_eq.mpr (List.getElem?_eq_some_iff.mp e).1) (fun _=>rfl) (fun _ _ r=>r) (fun _=>rfl) (fun _ _ r=>r) (fun _=>rfl) (fun _=>rfl) rfl (fun _ _ a b=>Bool.and_eq_true_iff.mpr ⟨a,b⟩) rfl (fun _ _ a b=>Bool.and_eq_true_iff.mpr ⟨a,b⟩) h
theorem aF.cut (h1:e8 im im') {v:V}{x:Value}(h:aF P im ρ v x):cq b v=true→aF P im' (ρ.take b) v x :=
 aF.rec (motive_1:=fun v x _=>cq b v=true→aF P im' (ρ.take b) v x) (motive_2:=fun vs xs _=>dS b vs=true→aW P im' (ρ.take b) vs xs) (motive_3:=fun fs aD _=>jy b fs=true→cT P im' (ρ.take b) fs aD) (fun _=>.none) (fun _ _=>.bool _) (fun _ _ _=>.int _ _) (fun _ _ z _=>.str _ _ z)
  (fun e _ z r q=>.tup (h1 _ _ e) (r q) z) (fun e _ z r q=>.aN (h1 _ _ e) (r q) z) (fun e c9 _ r q=>.fin (h1 _ _ e) (h1 _ _ c9) (r q)) (fun e q=>.ref (by rw[List.getElem?_take_of_lt (Nat.blt_eq.mp q)];exact e)) (fun _ _=>.obj _) (fun e _ r q=>.fd (h1 _ _ e) (r q)) (fun e _=>.lam (e.mono h1)) (fun e _ r q=>.fC (h1 _ _ e) (r q)) (fun e _=>.cx (h1 _ _ e)) (fun _ _=>.any _)
  (fun _=>.nil) (fun _ _ dc cH q=>.cons (dc (Bool.and_eq_true_iff.mp q).1) (cH (Bool.and_eq_true_iff.mp q).2)) (fun _=>.nil) (fun _ _ dc cH q=>.cons (dc (Bool.and_eq_true_iff.mp q).1) (cH (Bool.and_eq_true_iff.mp q).2)) h
theorem aW.cut (h1:e8 im im') {vs:List V}{xs:List Value}(h:aW P im ρ vs xs):dS b vs=true→aW P im' (ρ.take b) vs xs:=aW.ind (Q:=fun vs xs=>dS b vs=true→aW P im' (ρ.take b) vs xs) (fun _=>.nil) (fun a _ r q=>.cons (a.cut h1 (Bool.and_eq_true_iff.mp q).1) (r (Bool.and_eq_true_iff.mp q).2)) h
theorem cT.cut (h1:e8 im im') {vs:List (Str×V)}{xs:List DictEntry}(h:cT P im ρ vs xs):jy b vs=true→cT P im' (ρ.take b) vs xs:=cT.ind (Q:=fun vs xs=>jy b vs=true→cT P im' (ρ.take b) vs xs) (fun _=>.nil) (fun a _ r q=>.cons (a.cut h1 (Bool.and_eq_true_iff.mp q).1) (r (Bool.and_eq_true_iff.mp q).2)) h
theorem fo.cut (h1:e8 im im') {vs:List (Str×V)}{xs:List (Str×Value)}(h:fo P im ρ vs xs):jy b vs=true→fo P im' (ρ.take b) vs xs:=fo.rec (motive:=fun vs xs _=>jy b vs=true→fo P im' (ρ.take b) vs xs) (fun _=>.nil) (fun a _ r q=>.cons (a.cut h1 (Bool.and_eq_true_iff.mp q).1) (r (Bool.and_eq_true_iff.mp q).2)) h
theorem gU.cut {h:Heap}{p:Addr×Addr}{o:aj}(h1:e8 im im') (r:gU w im ρ h p o) (q:cE b o=true):gU w im' (ρ.take b) h p o:=by
 cases o with
 |list vs=>obtain ⟨xs,n,a,r,z⟩:=r;exact ⟨xs,n,a,r.cut h1 q,z⟩
 |inst C fs=>obtain ⟨aD,n,a,a',r,z⟩:=r;exact ⟨aD,n,a,a',r.cut h1 q,z⟩
 |dict fs=>obtain ⟨xs,a,r,z⟩:=r;exact ⟨xs,a,r.cut h1 q,z⟩
 |cell v =>
  cases v with
  |none=>exact r
  |some v=>obtain ⟨x,a,r⟩:=r;exact ⟨x,a,r.cut h1 q⟩
 |tab q ps=>obtain ⟨x,a,r⟩:=r;exact ⟨x,a,r.mono h1⟩
 |dead=>trivial
noncomputable def ue (ρ:c5) (H:List aj) (b:Nat) (a:Addr):Prop:=∃ (i:Nat) (p:Addr×Addr) (o:aj),b≤i∧ρ[i]?=some p∧H[i]?=some o∧a∈o.dW p
theorem ue.own {ρ:c5}{H:List aj}{a:Addr}:ue ρ H b a→Own ρ H a |⟨i,p,o,_,e⟩=>⟨i,p,o,e⟩
open Classical in
noncomputable def i2 (im:ct) (ρ:c5) (H:List aj) (h:Heap) (b:Nat):ct:=fun a=>if ue ρ H b a then h.get? a else im a
theorem w0 {H:List aj}{h:Heap}(R:Rep w im ρ H h):e8 im (i2 im ρ H h b):=fun a o e=>by
 unfold i2
 split
 ·rename_i q;rw[R.js q.own] at e;exact ba e
 ·exact e
theorem AQ {H:List aj}{h:Heap}{a:Addr}(q:ue ρ H b a):i2 im ρ H h b a=h.get? a:=if_pos q
theorem F3 {ρ' : c5}{f:V→Option V}(k:∀ v x,aF P im ρ v x→ae (fun u=>aF P im' ρ' u x) (f v)) {vs:List V}{xs:List Value}(h:aW P im ρ vs xs):ae (fun us=>aW P im' ρ' us xs) (iz f vs) :=
 aW.ind (Q:=fun vs xs=>ae (fun us=>aW P im' ρ' us xs) (iz f vs)) (ae.bO .nil) (fun a _ aI=>ae.b fun u h1=>ae.m fun t af=>.cons (k _ _ a u h1) (aI t af)) h
theorem P4 {ρ' : c5}{f:V→Option V}(k:∀ v x,aF P im ρ v x→ae (fun u=>aF P im' ρ' u x) (f v)) {vs:List (Str×V)}{xs:List DictEntry}(h:cT P im ρ vs xs):ae (fun us=>cT P im' ρ' us xs) (nW f vs) :=
 cT.ind (Q:=fun vs xs=>ae (fun us=>cT P im' ρ' us xs) (nW f vs)) (ae.bO .nil) (fun a _ aI=>ae.b fun u h1=>ae.m fun t af=>.cons (k _ _ a u h1) (aI t af)) h
noncomputable def pq (w:World) (im:ct) (ρ:c5) (H:List aj) (h:Heap) (b:Nat) (x:Value) (u:V):Prop:=aF w.params (i2 im ρ H h b) (ρ.take b) u x
theorem P5 {H:List aj}{h:Heap}(R:Rep w im ρ H h) {f:V→Option V}(aI:∀ v x,aF w.params im ρ v x→ae (pq w im ρ H h b x) (f v)) {i:Nat}{p:Addr×Addr}(a3:ρ[i]?=some p) (q:b≤i):ae (pq w im ρ H h b (.ref p.1)) (wA f H[i]?):=by
 cases aM:H[i]? with
 |none=>exact ae.no
 |some o=>cases o with
  |list vs=>exact let ⟨xs,m,ao,bb,z⟩:=R.at_ a3 aM;ae.m fun us h1=>aF.aN (n:=m) ((AQ ⟨i,p,_,q,a3,aM,.head _⟩).trans ao) (F3 aI bb us h1) z
  |inst C fs=>exact let ⟨aD,m,ao,aC,bb,z⟩:=R.at_ a3 aM;ae.m fun us h1=>aF.fin (n:=m) ((AQ ⟨i,p,_,q,a3,aM,.head _⟩).trans ao) ((AQ ⟨i,p,_,q,a3,aM,.tail _ (.head _)⟩).trans aC) (P4 aI bb us h1)
  |_=>exact ae.no
theorem P6 {H:List aj}{h:Heap}(R:Rep w im ρ H h) {f:V→Option V}(aI:∀ v x,aF w.params im ρ v x→ae (pq w im ρ H h b x) (f v)) (v:V) (x:Value) (r:aF w.params im ρ v x):ae (pq w im ρ H h b x) (EM f H b v):=by
 have key:∀ v,aF w.params im ρ v x→ae (pq w im ρ H h b x) (bif cq b v then some v else none):=fun v r=>ae.de fun q=>ae.bO (r.cut (w0 R) q:pq w im ρ H h b x v)
 cases v with
 |ref i=>exact r.ix fun p a3=>ae.c (fun q=>P5 R aI a3 (Nat.ble_eq.mp q)) fun q=>ae.bO (aF.ref (by rw[List.getElem?_take_of_lt (Nat.lt_of_not_le fun z=>by rw[Nat.ble_eq.mpr z] at q;exact ez q)];exact a3))
 |tup vs=>exact r.f3 fun a xs m ao bb z=>ae.m fun us h1=>aF.tup (w0 R _ _ ao) (F3 aI bb us h1) z
 |_=>exact key _ r
theorem P7 {H:List aj}{h:Heap}(R:Rep w im ρ H h) (n:Nat):∀ v x,aF w.params im ρ v x→ae (pq w im ρ H h b x) (gF H b n v):=by
 induction n with
 |zero=>exact fun _ _ _=>ae.no
 |succ n aI=>exact P6 R aI
end
section
variable {w:World}{c c' : br}{ls:List (Str×V)}{st st' : ax}{h h' : Heap}{v u:V}{x:Value}{b:Nat}{H:List aj}
theorem aH.cut (R:aH w c ls H h) (aw:(H.take b).all (cE b)=true) (hl:∀ x v,look x ls=some v→cq b v=true):aH w {c with im:=i2 c.im c.ρ H h b,ρ:=c.ρ.take b} ls (H.take b) h:=by
 have c1:=R.rep
 have le:=w0 (b:=b) c1
 have az:∀{α:Type}{l:List α}{i:Nat}{y:α},(l.take b)[i]?=some y→l[i]?=some y∧i<b:=by
  intro α l i y e
  have aM:i<b:=Nat.lt_of_lt_of_le (List.getElem?_eq_some_iff.mp e).1 (by rw[List.length_take];exact Nat.min_le_left _ _)
  exact ⟨by rw[List.getElem?_take_of_lt aM] at e;exact e,aM⟩
 have no:∀{a},Own (c.ρ.take b) (H.take b) a→Own c.ρ H a∧¬ ue c.ρ H b a:=by
  rintro a ⟨i,p,o,ao,aC,m⟩
  obtain ⟨ao,aM⟩:=az ao
  obtain ⟨aC,_⟩:=az aC
  refine ⟨⟨i,p,o,ao,aC,m⟩,fun ⟨j,p',o',dY,hH,iW,f5⟩=>?_⟩
  have:=c1.sep ao aC m hH iW f5
  omega
 refine ⟨?_,⟨by rw[List.length_take,List.length_take,c1.len],?_,?_,?_,?_⟩,fun a o x y z=>le _ _ (R.dh a o x y z),R.keep,fun {a} q=>R.own (no q).1,R.fr.1,?_⟩
 ·obtain ⟨m,l,bc⟩:=R.ns
  exact ⟨m,fun x v e=>let ⟨a,c9,q⟩:=l x v e;⟨a,c9,q.cut le (hl x v e)⟩,bc⟩
 ·intro i p o ao aC
  refine gU.cut le (c1.at_ (az ao).1 (az aC).1) ?_
  exact List.all_eq_true.mp aw o (List.mem_of_getElem? aC)
 ·intro i j p q o o' a ao aC m hH iW f5
  exact c1.sep (az ao).1 (az aC).1 m (az hH).1 (az iW).1 f5
 ·intro a o e
  have e:i2 c.im c.ρ H h b a=some o:=e
  unfold i2 at e
  split at e
  ·exact e
  ·exact c1.cM e
 ·intro a q
  show i2 c.im c.ρ H h b a=none
  unfold i2
  rw[if_neg (no q).2];exact c1.js (no q).1
 ·show i2 c.im c.ρ H h b c.L=none
  unfold i2
  rw[if_neg fun q=>(R.own q.own).2 rfl];exact R.fr.2
theorem F4 {P:Prop}(hf:fin b v st=some (u,st')) (k:gF st.H b 8 v=some u→(st.H.take b).all (cE b)=true→st'=⟨st.H.take b,st.aa⟩→P):P :=
 jr hf fun pa h1 h=>by
  cases q:(st.H.take b).all (cE b) with
  |true=>rw[q] at h;obtain ⟨rfl,rfl⟩:=DY h;exact k h1 q rfl
  |false=>rw[q] at h;exact ba h
theorem AR (hf:fin b v st=some (u,st')) (R:aH w c' ls st.H h') (n:b3 h c h' c') (g6:c.ρ.length=b) (hl:∀ x v,look x ls=some v→cq b v=true) (r:aF w.params c'.im c'.ρ v x) :
 st'.aa=st.aa∧∃ bw,b3 h c h' bw∧aH w bw ls st'.H h'∧aF w.params bw.im bw.ρ u x∧bw.kept=c'.kept∧bw.L=c'.L:=by
 refine F4 hf fun h1 q ao=>?_
 subst ao
 ·refine ⟨rfl,{c' with im:=i2 c'.im c'.ρ st.H h' b,ρ:=c'.ρ.take b},⟨⟨n.le.kept,n.le.L,fun a o e=>w0 R.rep _ _ (n.le.im a o e),fun i p e=>?_,fun a o e=>?_⟩,n.aP⟩,R.cut q hl,P7 R.rep _ _ _ r _ h1,rfl,rfl⟩
  ·show (c'.ρ.take b)[i]?=_
   rw[List.getElem?_take_of_lt (g6▸(List.getElem?_eq_some_iff.mp e).1)];exact n.le.ρ i p e
  ·have e:i2 c'.im c'.ρ st.H h' b a=some o:=e
   unfold i2 at e
   split at e
   ·rename_i z
    obtain ⟨dj,et⟩:=R.own z.own
    exact .inr (.inr ⟨by rw[←n.le.kept];exact dj,by rw[←n.le.L];exact et⟩)
   ·exact n.le.new a o e
end
noncomputable def P8 (fi:eR) (y:Nat×Str):Bool:=seq y.2 (fi.fd.qualname ++ ".<locals>." ++ "<lambda>")&&(pf fi.fd.code).any fun a=>(Nat.beq y.1 0&&Nat.beq a 889) || (Nat.beq y.1 1&&Nat.beq a 953)
noncomputable def w2 (fi:eR):Bool:=fi.tab.elim true (P8 fi)
noncomputable def AS (fi:eR):Bool:=fi.ps.all (fun x=>h2 (look x fi.fd.scope.names) || o7 (look x fi.fd.scope.names))&&(mU (ee fi.fd.scope.names)&&(mU fi.ps&&(fi.fd.closure.isEmpty&&(w2 fi&&(ee fi.fd.scope.names).all (fun x=>o7 (look x fi.fd.scope.names))))))
noncomputable def F5:Data→Option (Array Value)
 |.fields vs=>some vs
 |_=>none
noncomputable def F6 (T:BT) (c:Addr) (q:Str):Option Bool:=(T.get c).bind fun o=>(F5 o.data).bind fun vs=>vs[1]?.bind fun x=>(rf x).map fun y=>oZ o&&(Nat.blt c 955&&decide (y=q))
noncomputable def codeOk (T:BT) (fd:FuncData):Bool:=((pf fd.code).bind fun c=>F6 T c fd.qualname).getD false
theorem P9 {d:Data}{vs:Array Value}(h:F5 d=some vs):d=.fields vs:=by cases d <;> first |exact ba h |exact congrArg Data.fields (cb h)
theorem Qa:∀{o:Option Bool},o.getD false=true→o=some true
 |some true,_=>rfl
theorem Qb {w:World}{h:Heap}(X:eP w h) {c:Addr}{q:Str}:ae (fun b=>b=true→h.CodeRec (.ref c) q) (F6 (full w.params) c q) :=
 ae.b fun o aB=>ae.b fun vs bu=>ae.b fun x dB=>ae.m fun y eB z=>by
  obtain ⟨t,eB⟩:=Au eB
  obtain ⟨aS,bf⟩:=Bool.and_eq_true_iff.mp z
  obtain ⟨bf,dT⟩:=Bool.and_eq_true_iff.mp bf
  exact ⟨c,o,vs,t,rfl,X c o aB aS bf,P9 bu,by rw[dB,eB,of_decide_eq_true dT]⟩
theorem F7 {w:World}{h:Heap}{fd:FuncData}(X:eP w h) (e:codeOk (full w.params) fd=true):h.CodeRec fd.code fd.qualname :=
 jr (Qa e) fun c h1 af=>by rw[tV h1];exact Qb X _ af rfl
structure w3 (w:World) (f:Addr) (fi:eR):Prop where
 at_:(full w.params).get f=some ⟨.type "function",none,.func fi.fd,#[]⟩
 lt:Nat.blt f 955=true
 code:codeOk (full w.params) fi.fd=true
 kind:fi.fd.scope.kind=.function
 glob:fi.fd.globals=3
 blt:fi.fd.builtins=0
 co:fi.fd.scope.isCoroutine=false
 gen:fi.fd.scope.isGenerator=false
 sc:AS fi=true
 body:fi.fd.body=.stmts fi.body
noncomputable def F8 (T:BT) (x:Addr×eR):Bool:=Nat.blt x.1 955&&(codeOk T x.2.fd&&((x.2.fd.scope.kind == .function)&&(Nat.beq x.2.fd.globals 3&&(Nat.beq x.2.fd.builtins 0&&(!x.2.fd.scope.isCoroutine&&(!x.2.fd.scope.isGenerator&&(AS x.2&&Nat.ble x.2.ps.length 6)))))))
theorem Qc (p:Params):dD.all (F8 (full p))=true:=by kernel_rfl
theorem Qd (p:Params):(dD.map fun x=>(full p).get x.1)=dD.map fun x=>some ⟨.type "function",none,.func x.2.fd,#[]⟩:=by kernel_rfl
theorem Qe:(dD.map fun x=>x.2.fd.body)=dD.map fun x=>.stmts x.2.body:=by kernel_rfl
theorem Qf (a b c d e f:Value):((dD.filter fun x=>x.2.iX.isEmpty).map fun x=>bindArgs x.2.fd ⟨List.take x.2.ps.length [a,b,c,d,e,f],[]⟩)=(dD.filter fun x=>x.2.iX.isEmpty).map fun x=>pure (x.2.ps.zip (List.take x.2.ps.length [a,b,c,d,e,f])):=by kernel_rfl
theorem six {xs:List Value}{n:Nat}(h:n≤6) (e:xs.length=n):∃ a b c d e f,xs=List.take n [a,b,c,d,e,f]:=by
 subst e
 match xs,h with
 |[],_=>exact ⟨.none,.none,.none,.none,.none,.none,rfl⟩
 |[a],_=>exact ⟨a,.none,.none,.none,.none,.none,rfl⟩
 |[a,b],_=>exact ⟨a,b,.none,.none,.none,.none,rfl⟩
 |[a,b,c],_=>exact ⟨a,b,c,.none,.none,.none,rfl⟩
 |[a,b,c,d],_=>exact ⟨a,b,c,d,.none,.none,rfl⟩
 |[a,b,c,d,e],_=>exact ⟨a,b,c,d,e,.none,rfl⟩
 |[a,b,c,d,e,f],_=>exact ⟨a,b,c,d,e,f,rfl⟩
 |_::_::_::_::_::_::_::_,h=>exact absurd h (by simp only[List.length_cons];omega)
noncomputable def F9 (fd:FuncData) (b:List Stmt):eR:=⟨fd,[⟨⟨[115,101,108,102]⟩⟩,⟨⟨[111,112]⟩⟩,⟨⟨[97,114,103]⟩⟩],[.none],b,none,false⟩
theorem Qg:(dD.filter fun x=>!x.2.iX.isEmpty)=[(220,F9 qE D0.1),(368,F9 qF D4.1)]:=by kernel_rfl
theorem Qh (w:World) (s:Shared) (K:eP w s.heap) (x0 df eG:Value):BindsTo s qE ⟨[x0,df,eG],[]⟩ [(⟨⟨[115,101,108,102]⟩⟩,x0),(⟨⟨[111,112]⟩⟩,df),(⟨⟨[97,114,103]⟩⟩,eG)]:=by
 refine BindsTo.of_defaults (T:=213) (o:=dH [.none]) (items:=#[.none]) (n:=0) (by kernel_rfl) (K 213 _ (by kernel_rfl) (by kernel_rfl) (by kernel_rfl)) rfl (by rfl) (by rfl)
theorem Qi (w:World) (s:Shared) (K:eP w s.heap) (x0 df:Value):BindsTo s qE ⟨[x0,df],[]⟩ [(⟨⟨[115,101,108,102]⟩⟩,x0),(⟨⟨[111,112]⟩⟩,df),(⟨⟨[97,114,103]⟩⟩,Value.none)]:=by
 refine BindsTo.of_defaults (T:=213) (o:=dH [.none]) (items:=#[.none]) (n:=0) (by kernel_rfl) (K 213 _ (by kernel_rfl) (by kernel_rfl) (by kernel_rfl)) rfl (by rfl) (by rfl)
theorem Qj (w:World) (s:Shared) (K:eP w s.heap) (x0 df eG:Value):BindsTo s qF ⟨[x0,df,eG],[]⟩ [(⟨⟨[115,101,108,102]⟩⟩,x0),(⟨⟨[111,112]⟩⟩,df),(⟨⟨[97,114,103]⟩⟩,eG)]:=by
 refine BindsTo.of_defaults (T:=361) (o:=dH [.none]) (items:=#[.none]) (n:=0) (by kernel_rfl) (K 361 _ (by kernel_rfl) (by kernel_rfl) (by kernel_rfl)) rfl (by rfl) (by rfl)
theorem Qk (w:World) (s:Shared) (K:eP w s.heap) (x0 df:Value):BindsTo s qF ⟨[x0,df],[]⟩ [(⟨⟨[115,101,108,102]⟩⟩,x0),(⟨⟨[111,112]⟩⟩,df),(⟨⟨[97,114,103]⟩⟩,Value.none)]:=by
 refine BindsTo.of_defaults (T:=361) (o:=dH [.none]) (items:=#[.none]) (n:=0) (by kernel_rfl) (K 361 _ (by kernel_rfl) (by kernel_rfl) (by kernel_rfl)) rfl (by rfl) (by rfl)
section
variable {w:World}
theorem Ga {a:Addr}{fi:eR}(h:c2 a dD=some fi):w3 w a fi∧fi.ps.length≤6:=by
 have m:=wD h
 have z:=List.all_eq_true.mp (Qc w.params) _ m
 simp only[F8,Bool.and_eq_true,beq_iff_eq,Bool.not_eq_true'] at z
 obtain ⟨h1,af,aB,bu,dB,eB,eS,m2,od⟩:=z
 exact ⟨⟨List.map_inj_left.mp (Qd w.params) _ m,h1,af,aB,Nat.eq_of_beq_eq_true bu,Nat.eq_of_beq_eq_true dB,eB,eS,m2,List.map_inj_left.mp Qe _ m⟩,Nat.le_of_ble_eq_true od⟩
theorem w4 {a:Addr}{fi:eR}(h:c2 a dD=some fi):w3 w a fi:=(Ga h).1
theorem w3.get {f:Addr}{fi:eR}(F:w3 w f fi) {h:Heap}(X:eP w h):h.get? f=some ⟨.type "function",none,.func fi.fd,#[]⟩:=X f _ F.at_ rfl F.lt
theorem Ql (w:World) {a:Addr}{fi:eR}(h:c2 a dD=some fi) (d:fi.iX.isEmpty=true) (xs:List Value) (l:xs.length=fi.ps.length):bindArgs fi.fd ⟨xs,[]⟩=pure (fi.ps.zip xs):=by
 obtain ⟨df,eG,l0,l3,pv,AU,e⟩:=six (Ga (w:=w) h).2 l
 rw[e];exact List.map_inj_left.mp (Qf df eG l0 l3 pv AU) _ (List.mem_filter.mpr ⟨wD h,d⟩)
noncomputable def Qm (w:World) (fi:eR):Prop:=fi.iX=[.none]∧ee fi.fd.scope.names=[]∧(∀(s:Shared) (xs:List Value),eP w s.heap→xs.length=fi.ps.length→BindsTo s fi.fd ⟨xs,[]⟩ (fi.ps.zip xs))∧∀(s:Shared) (xs:List Value),eP w s.heap→xs.length+1=fi.ps.length→BindsTo s fi.fd ⟨xs,[]⟩ (fi.ps.zip (xs++[Value.none]))
theorem Qn {a:Addr}{fi:eR}(h:c2 a dD=some fi) (d:(!fi.iX.isEmpty)=true):Qm w fi:=by
 have m:(a,fi)∈dD.filter fun x=>!x.2.iX.isEmpty:=List.mem_filter.mpr ⟨wD h,d⟩
 rw[Qg] at m
 rcases List.mem_cons.mp m with e |m
 ·rw[(Prod.mk.inj e).2];exact ⟨rfl,by kernel_rfl,fun s xs K l=>by obtain ⟨a,b,c,_,_,_,e⟩:=six (n:=3) (by decide) l;rw[e];exact Qh w s K a b c,fun s xs K l=>by obtain ⟨a,b,_,_,_,_,e⟩:=six (n:=2) (by decide) (Nat.succ.inj l);rw[e];exact Qi w s K a b⟩
 ·rw[(Prod.mk.inj (List.mem_singleton.mp m)).2];exact ⟨rfl,by kernel_rfl,fun s xs K l=>by obtain ⟨a,b,c,_,_,_,e⟩:=six (n:=3) (by decide) l;rw[e];exact Qj w s K a b c,fun s xs K l=>by obtain ⟨a,b,_,_,_,_,e⟩:=six (n:=2) (by decide) (Nat.succ.inj l);rw[e];exact Qk w s K a b⟩
theorem Qo {x:Value}{c:br}{ls:List (Str×V)}{H:List aj}{h:Heap}(e:EO x=true) (P:aH w c ls H h):ob w x h:=by
 have K:eP w h:=mV P.dh fun _ _=>P.rep.cM
 cases x with
 |ref a =>
  cases hf:c2 a dD with
  |some fi=>exact ⟨.frame,.inl rfl,(Looks.ld (part:=none) ((w4 hf).get K)).andThen .now⟩
  |none =>
   have e:((c2 a dD).isSome || (c2 a hI).isSome)=true:=e
   rw[hf] at e
   obtain ⟨ci,aw⟩:=Option.isSome_iff_exists.mp e
   have Y:=makes_of (M:=aU w) (kd_in P.dh fun _ _=>P.rep.cM) (n3 (ph w.params aw).1).2.2.2.2.2
   obtain ⟨tX,iC,cd,fP,c8,_⟩:=Y.obj
   exact ⟨.machine,.inr (.inl rfl),(Looks.ld (part:=none) c8).andThen (Y.call.andThen .now)⟩
 |builtin id=>exact ⟨.machine,.inr (.inl rfl),.now⟩
 |type id=>exact ⟨.machine,.inr (.inl rfl),.now⟩
 |_=>exact dv e
theorem Gb {pl:V}{g:Value}{c:br}{ls:List (Str×V)}{H:List aj}{h:Heap}(e:calleeOk pl=true) (P:aH w c ls H h) (oc:aF w.params c.im c.ρ pl g):ob w g h:=by
 cases pl with
 |obj x=>exact oc.objE (Qo e P)
 |lam ps body sc =>
  exact oc.Em fun a l=>by
   obtain ⟨name,qual,pm,c',kS,ao,_⟩:=l
   exact ⟨.frame,.inl rfl,(Looks.ld (part:=none) (P.rep.cM ao)).andThen .now⟩
 |fC f Zt =>
  obtain ⟨fi,hf⟩:=Option.isSome_iff_exists.mp (show (c2 f dD).isSome=true from e)
  exact oc.En fun y a ao v1=>⟨.boundFrame,.inr (.inr rfl),(Looks.ld (part:=none) (P.rep.cM ao)).andThen ((Looks.ld (part:=none) ((w4 hf).get (mV P.dh fun _ _=>P.rep.cM))).andThen .now)⟩
 |_=>exact dv e
variable {R:dO}{A:Around}{c:br}{st st' : ax}{s:Shared}{n:Nat}{fr:a5}{env:Env}{r:V}{Q:Value→Shared→Prop}
theorem Qp {o:PySem.Expr}{nm:Str}{ap pos:Pos}{args:List PySem.Expr}(bt:baseOk o=true) (hl:Nat.beq ap.endLine pos.line=true) (bc:Nat.blt args.length 30=true) (ak:(backTo pos (starEach args env)).any (·.1)=false)
 (h:wpAny (aU w) A (eval o env) (fun fR dP=>∀ c0,wpAny (aU w) A (getMethod fR nm c0) (fun pn jF=>wpAny (aU w) A (callWith pos pn.1 pn.2 (backTo pos (starEach args env)) []) Q bo jF) bo dP) bo s) :
 wpAny (aU w) A (eval (.Call (.Attribute o nm ap) args [] pos) env) Q bo s:=by
 have Qq:methodCallForm (args.length+0) (backTo pos (starEach args env)) (backToKw pos (keywordEach [] env))=true:=by
  unfold methodCallForm
  have ao:(backTo pos (starEach args env)).all (fun x=>!x.1)=true:=by
   rw[List.all_eq_true]
   intro x m
   have:=List.any_eq_false.mp ak x m
   simpa using this
  rw[ao]
  have:=Nat.blt_eq.mp bc
  show (true&&true&&decide (args.length+0+0<30))=true
  simp only[Bool.true_and,decide_eq_true_eq];omega
 rw[arm_eval_Call,FZ bt]
 refine wpAny_bind (wpAny_mono h (fun fR dP k3=>wpAny_bind (wpAny_standAt ?_)) fun _ _ x=>x)
 unfold methodCall
 rw[show args.length+([]:List Keyword).length=args.length+0 from rfl,Qq]
 refine wpAny_bind (wpAny_holding ?_)
 show wpAny _ _ (getMethod fR nm _) _ _ _
 refine wpAny_mono (k3 _) (fun pn jF oe=>?_) fun _ _ x=>x
 have aC:methodCallPos true o env ap pos=pure pos:=by
  unfold methodCallPos
  rw[show (ap.endLine == pos.line)=true from by rw[Nat.eq_of_beq_eq_true hl];simp]
  rfl
 refine wpAny_bind (wpAny_of_eq aC ?_)
 exact oe
theorem call_plain {f:PySem.Expr}{args:List PySem.Expr}{pos:Pos}(h:lP f=none):eval (.Call f args [] pos) env=(do callWith pos (←eval f env) [] (backTo pos (starEach args env)) (backToKw pos (keywordEach [] env))):=by
 cases f <;> first |rfl |exact ba h.symm
theorem Qr (S:bP w R) {o:PySem.Expr}{nm:Str}{ap pos:Pos}{args:List PySem.Expr}{x g y z}(q:(baseOk o&&Nat.beq ap.endLine pos.line&&Nat.blt args.length 30)=true) (h1:R.ev n fr o st=some x) (af:ke x.1 nm x.2=some g) (d9:calleeOk g.1=true) (aB:f6 R n fr args x.2=some y) (bu:R.cl n g.1 (g.2++y.1) y.2=some z) :
 f7 w n fr (.Call (.Attribute o nm ap) args [] pos) st z:=by
 obtain ⟨q,dT⟩:=Bool.and_eq_true_iff.mp q
 obtain ⟨aS,bf⟩:=Bool.and_eq_true_iff.mp q
 exact ⟨fun o=>S.dm h1 (oa S aB (S.ub bu o)),fun aa A c env s aE F P Q k=>Qp aS bf dT ((n9 S _ _ aB).2.2.1 env pos) (S.ev h1 (oa S aB (S.ub bu aa)) aE F P fun aK bX bK x aG aX v1 c0 =>
  OP (s:=a9 s bX bK) af aX v1 fun az y ys m3 Qs=>F0 (s:=a9 s bX az) S aB bu aa (fun c h P v=>Gb d9 P v) aE (F.cA aG) aX m3 Qs (k.h8 aG))⟩
theorem Qt (S:bP w R) {f:PySem.Expr}{pos:Pos}{args:List PySem.Expr}{g y z}(q:lP f=none) (h1:R.ev n fr f st=some g) (d9:calleeOk g.1=true) (aB:f6 R n fr args g.2=some y) (bu:R.cl n g.1 y.1 y.2=some z):f7 w n fr (.Call f args [] pos) st z :=
 ⟨fun o=>S.dm h1 (oa S aB (S.ub bu o)),fun aa A c env s aE F P Q k=>Call_ (S.ev h1 (oa S aB (S.ub bu aa)) aE F P fun aK bX bK x aG aX v1 =>
  F0 (s:=a9 s bX bK) S aB bu aa (first:=[]) (fun c h P v=>Gb d9 P v) aE (F.cA aG) aX v1 .nil (k.h8 aG)) (call_plain q)⟩
theorem Gd (S:bP w R) {f:PySem.Expr}{args:List PySem.Expr}{gV:List Keyword}{pos:Pos}:ae (f7 w n fr (.Call f args gV pos) st) (tK R n fr f args gV pos st) :=
 ae.de fun ar=>ae.o (fun y bU=>ae.de fun q=>ae.b fun x h1=>ae.b fun g af=>ae.de fun d9=>ae.b fun v aB z bu=>by rw[List.isEmpty_iff.mp ar,N3 bU];exact Qr S q h1 af d9 aB bu)
  fun bc=>ae.b fun g h1=>ae.de fun d9=>ae.b fun v aB z bu=>by rw[List.isEmpty_iff.mp ar];exact Qt S bc h1 d9 aB bu
theorem uf {b:Nat}{v u:V}(h:fin b v st=some (u,st')) (o:st'.aa):st.aa:=F4 h fun _ _ e=>by rw[e] at o;exact o
theorem Qu {ls:List (Str×V)}{H:List aj}{h:Heap}(P:aH w c ls H h):∀ x v,look x ls=some v→cq H.length v=true:=fun x v e=>by
 obtain ⟨m,l,_⟩:=P.ns
 obtain ⟨a,_,q⟩:=l x v e
 rw[←P.rep.len];exact q.el
theorem Qv {e:PySem.Expr}{x z}(h:f7 w n fr e st x) (af:fin st.H.length x.1 x.2=some z):f7 w n fr e st z :=
 ⟨fun o=>h.1 (uf af o),fun aa A c env s aE F P Q k=>h.2 (uf af aa) aE F P _ fun aK bX bK x aG aX v1=>by
  obtain ⟨_,bw,a4,b8,v2,_⟩:=AR af aX aG P.rep.len (Qu P) v1
  exact k bw bX bK x a4 b8 v2⟩
theorem Qw (S:bP w R) {f:PySem.Expr}{args:List PySem.Expr}{gV:List Keyword}{pos:Pos}:ae (f7 w n fr (.Call f args gV pos) st) (pe R n fr (.Call f args gV pos) st) :=
 ae.c (fun _=>ae.b fun x h1 _ af=>Qv (Gd S x h1) af) fun _=>Gd S
end
theorem Qx {k n:Nat}:Builtin.Str.strSliceIndices none (some (k:Int)) 1 n=Builtin.Str.strSliceIndices none (some ((min k n:Nat):Int)) 1 n:=by
 unfold Builtin.Str.strSliceIndices
 simp only[Int.not_lt.mpr (Int.natCast_nonneg k),Int.not_lt.mpr (Int.natCast_nonneg (min k n)),show (1:Int) > 0 by decide,if_true,if_false]
 rcases Nat.le_total k n with h |h
 ·rw[Nat.min_eq_left h]
 ·rw[Nat.min_eq_right h,Int.min_eq_right (Int.ofNat_le.mpr h),Int.min_self]
theorem Qy (k n:Nat):min (k:Int) n=((min k n:Nat):Int):=by
 rcases Nat.le_total k n with h |h
 ·rw[Nat.min_eq_left h,Int.min_eq_left (Int.ofNat_le.mpr h)]
 ·rw[Nat.min_eq_right h,Int.min_eq_right (Int.ofNat_le.mpr h)]
theorem Qz {x:Str}{k:Nat}:Txt.slice x none (some (k:Int))=⟨⟨x.cps.toList.take k⟩⟩:=by
 have ao:Txt.slice x none (some (k:Int))=Txt.slice x none (some ((min k x.length:Nat):Int)):=by
  unfold Txt.slice
  rw[Qx]
 rw[ao,eq_of_beq (slice_closes_to (x:=x) (j:=((min k x.length:Nat):Int)) ⟨Int.natCast_nonneg _,Int.ofNat_le.mpr (Nat.min_le_right _ _)⟩)]
 congr 1
 show ((x.cps.toList.take (((min k x.length:Nat):Int) - 0).toNat).toArray:Array Nat)=(x.cps.toList.take k).toArray
 rw[Int.sub_zero,Int.toNat_natCast]
 congr 1
 exact (List.take_eq_take_min).symm
theorem QA {xs:List Value}{k:Nat}:slicePick xs.toArray none (some (k:Int)) none=(xs.take k).toArray:=slicePick_upto' _ _
section
variable {w:World}{R:dO}{A:Around}{c:br}{st st' : ax}{s:Shared}{ls:List (Str×V)}{n:Nat}{fr:a5}{env:Env}{r:V}{Q:Value→Shared→Prop}
theorem QB {fP:Addr}{k m:Nat}{u:Tok}{Q:Int×Int×Nat→Shared→Prop}(ak:s.heap.IsSliceOf fP .none (.int (k:Int) u) .none) (h:Q ((0:Int),1,min k m) s) :
 wpAny (aU w) A (Builtin.Slice.sliceApplied (.ref fP) (pure (m:Int))) Q bo s:=by
 obtain ⟨os,ug,rq,rk⟩:=id ak
 unfold Builtin.Slice.sliceApplied Builtin.Slice.sliceFields
 refine wpAny_bind (wpAny_bind (wpAny_field ug rk (x:=.none) rfl (wpAny_bind (wpAny_field ug rk (x:=.int k u) rfl (wpAny_bind (wpAny_field ug rk (x:=.none) rfl (wpAny_pure ?_)))))))
 refine wpAny_bind (slicePart_none ?_)
 show wpAny _ _ (if ((1:Int) == 0)=true then _ else _) _ _ s
 rw[if_neg (by decide)]
 refine wpAny_bind (slicePart_none (wpAny_bind (slicePart_int (wpAny_bind (wpAny_pure ?_)))))
 have ao:Builtin.Slice.sliceAdjust none (some (k:Int)) 1 (m:Int)=(0,((min k m:Nat):Int)):=by
  unfold Builtin.Slice.sliceAdjust
  simp only[show ¬ (1:Int)<0 by decide,Int.not_lt.mpr (Int.natCast_nonneg k),if_false,Qy]
 show wpAny _ _ (match Builtin.Slice.sliceAdjust none (some (k:Int)) 1 (m:Int) with |(lo,aM)=>pure (lo,(1:Int),Builtin.Slice.slicePlaces lo aM 1)) _ _ s
 rw[ao]
 show wpAny _ _ (pure ((0:Int),(1:Int),Builtin.Slice.slicePlaces ((0:Nat):Int) ((min k m:Nat):Int) 1)) _ _ s
 rw[places_from 0 (min k m) (Nat.zero_le _)]
 exact wpAny_pure h
theorem QC (xs:List Value) (k:Nat) (ar:k≤xs.length):((List.range k).filterMap fun (i:Nat)=>xs.toArray[((0:Int)+(i:Int) * 1).toNat]?).toArray=(xs.take k).toArray:=by
 have e:(fun (i:Nat)=>xs.toArray[((0:Int)+(i:Int) * 1).toNat]?)=fun i=>xs[i]?:=by
  funext i
  rw[Int.mul_one,Int.zero_add,Int.toNat_natCast,List.getElem?_toArray]
 rw[e]
 congr 1
 induction k with
 |zero=>simp
 |succ k aI =>
  rw[List.range_succ,List.filterMap_append,aI (by omega),List.take_add_one]
  simp
  have:k<xs.length:=by omega
  simp[this]
theorem QD {t fP:Addr}{xs:List Value}{k j:Nat}{u:Tok}(bT:s.heap.get? t=some (hF xs k)) (ak:s.heap.IsSliceOf fP .none (.int (j:Int) u) .none) (bZ:xs.length≤aL)
 (h1:xs.length≤j→Q (.ref t) s) (af:Q (.ref s.heap.objs.size) {s with heap:=s.heap.push (hF (xs.take j) 0)}):wpAny (aU w) A (getItem (.ref t) (.ref fP)) Q bo s:=by
 obtain ⟨os,ug,rq,rk⟩:=id ak
 have fl:s.TypeIs (.ref t) "tuple":=⟨_,bT,rfl⟩
 have j5:IsTup s.heap t xs.toArray:=⟨_,bT,rfl,k,rfl⟩
 have QE:s.TypeIs (.ref fP) "slice":=⟨os,ug,rq⟩
 unfold getItem
 refine wpAny_holding ?_
 refine wpAny_bind (wpAny_sequenceKey fl (by decide) ?_)
 refine wpAny_bind (wpAny_callSpecial?_slot (name:=Str.ofString "__getitem__") fl F.slot_tuple_getitem
  (wpAny_call_entry F.slot_tuple_getitem fl F.entry_tuple_getitem ?_ (F.args_tuple_getitem_2 _ _)))
 show wpAny _ _ (Builtin.Tuple.tupleItemsOf (.ref t) >>= _) _ _ s
 refine wpAny_bind (tupleItemsOf_ j5 ?_)
 refine wpAny_bind (wpAny_typeOf QE ?_)
 rw[if_pos (by decide)]
 refine wpAny_bind (QB ak ?_)
 by_cases q:xs.length≤j
 ·have e:((0:Int) == 0&&(1:Int) == 1&&(min j xs.toArray.size) == xs.toArray.size)=true:=by
   rw[List.size_toArray,Nat.min_eq_right q];simp
  show wpAny _ _ (if ((0:Int) == 0&&(1:Int) == 1&&(min j xs.toArray.size) == xs.toArray.size)=true then _ else _) _ _ s
  rw[if_pos e]
  have ex:∀{m4:Around}{Q:Bool→Shared→Prop},Q true s→wpAny (aU w) m4 (Builtin.Tuple.tupleIsExact (.ref t)) Q bo s:=fun {m4 Q} h=>by
   unfold Builtin.Tuple.tupleIsExact
   exact wpAny_bind (wpAny_typeOf fl (wpAny_pure (by simpa using h)))
  refine wpAny_bind (ex ?_)
  first
   |exact wpAny_bind (wpAny_rule (wpAny_pure ⟨_,rfl,wpAny_pure (h1 q)⟩))
   |exact wpAny_bind (wpAny_rule (wpAny_bind (wpAny_pure (wpAny_pure ⟨_,rfl,wpAny_pure (h1 q)⟩))))
   |(rw[if_pos rfl];exact wpAny_bind (wpAny_rule (wpAny_pure ⟨_,rfl,wpAny_pure (h1 q)⟩)))
 ·have QF : ¬ (((0:Int) == 0&&(1:Int) == 1&&(min j xs.toArray.size) == xs.toArray.size)=true):=by
   rw[List.size_toArray];simp;omega
  have w5:sizeOk (.seq (xs.take j).toArray):=by
   show (xs.take j).toArray.size≤sizeLine
   rw[List.size_toArray]
   exact Nat.le_trans (List.length_take_le' _ _) (n6 bZ)
  show wpAny _ _ (if ((0:Int) == 0&&(1:Int) == 1&&(min j xs.toArray.size) == xs.toArray.size)=true then _ else _) _ _ s
  rw[if_neg QF,QC xs (min j xs.toArray.size) (by rw[List.size_toArray];exact Nat.min_le_right _ _)]
  have cL:xs.take (min j xs.toArray.size)=xs.take j:=by rw[List.size_toArray];exact (List.take_eq_take_min).symm
  rw[cL]
  first
   |exact wpAny_bind (m:=Builtin.Tuple.tupleExact _) (wpAny_newObj_type (wpAny_pure ⟨_,rfl,wpAny_pure af⟩) w5)
   |exact wpAny_bind (m:=Builtin.Tuple.tupleExact _) (wpAny_newObj_type (wpAny_bind (wpAny_pure (wpAny_pure ⟨_,rfl,wpAny_pure af⟩))) w5)
   |exact wpAny_bind (wpAny_bind (m:=Builtin.Tuple.tupleExact _) (wpAny_newObj_type (wpAny_pure (wpAny_pure ⟨_,rfl,wpAny_pure af⟩)) w5))
   |exact wpAny_bind (wpAny_bind (m:=Builtin.Tuple.tupleExact _) (wpAny_newObj_type (wpAny_pure ⟨_,rfl,wpAny_pure af⟩) w5))
end
section
variable {w:World}{R:dO}{A:Around}{c:br}{st st' : ax}{s:Shared}{ls:List (Str×V)}{n:Nat}{fr:a5}{env:Env}{r:V}{Q:Value→Shared→Prop}
theorem QG {iZ:PySem.Expr}{x:Str}{t:Tok}(q:Value):letTemporaryGo iZ (.str x t) q=pure ():=by
 cases iZ <;> rfl
theorem QH {x:Str}{k:Nat}(h:PyData.strOk x=true):PyData.strOk ⟨⟨x.cps.toList.take k⟩⟩=true:=by
 unfold PyData.strOk at *
 rw[←Array.all_toList,List.all_eq_true] at *
 intro c m
 exact h c (List.mem_of_mem_take m)
noncomputable abbrev lO (y:Value):Obj:={cls:=.type "slice",data:=.fields #[.none,y,.none]}
noncomputable def w6 (w:World) (v k:V) (st:ax) (r:V×ax):Prop:=(r.2.aa→st.aa)∧∀{A c ls s h0 tk0 x y iZ lo aM p Q},aH w c ls st.H h0→aF w.params c.im c.ρ v x→aF w.params c.im c.ρ k y→kl w c ls (a9 s h0 tk0) r.1 r.2 Q →
 wpAny (aU w) A (subscriptTail iZ (.Slice lo aM none p) x (.ref h0.objs.size)) Q bo (a9 s (h0.push (lO y)) tk0)
theorem AV {h0:Heap}{o:Obj}:b3 h0 c (h0.push o) c:=.keep fun b aa e=>Heap.get?_push_of_some _ e
section
variable {v:V}{i:Nat}{vs:List V}
theorem QI (aV:kf v st=some vs):w6 w v (.int (i:Int)) st (nR (.list (vs.take i)) st) :=
 ⟨fun o=>o,fun {A c ls s h0 tk0 x y iZ lo aM p Q} P h7 hL=>hL.e0 fun u k=>by
  have aX:aH w c ls st.H (h0.push (lO (.int (i:Int) u))):=P.z4 _
  obtain ⟨a,xs,m,rfl,ao,bb,z⟩:=t8 (s:=a9 s (h0.push (lO (.int (i:Int) u))) tk0) aV aX h7
  refine tail_any (listAt ao).typeIs slot_list_getitem.lookup (wpAny_getItem_list_slice (listAt ao) (Heap.IsSliceOf.new h0 .none (.int (i:Int) u) .none) .none (.int _ _) .none (by simp) ?_ (by rw[List.size_toArray];exact n6 z)) (ops:=[.ref h0.objs.size,.ref a]) rfl
  rw[QA]
  obtain ⟨bw,a4,b8,v2⟩:=newList (s:=a9 s (h0.push (lO (.int (i:Int) u))) tk0) (st:=st) (h':=(h0.push (lO (.int (i:Int) u))).push (fD (xs.take i) 0)) (k:=0) aX (bb.take i) (Nat.le_trans (List.length_take_le' _ _) z) (fun b aa e=>Heap.get?_push_of_some _ e) (Nat.le_refl _) (Heap.get?_push_size _ rfl)
  exact k bw _ tk0 _ (AV.trans a4) b8 v2⟩
theorem QJ {x:Str}(bZ:Nat.blt x.cps.toList.length 1000=true):w6 w (.str x) (.int (i:Int)) st (.str ⟨⟨x.cps.toList.take i⟩⟩,st) :=
 ⟨fun o=>o,fun {A c ls s h0 tk0 _ y iZ lo aM p Q} P h7 hL=>hL.e0 fun u=>h7.mM fun t ok k=>by
  refine tail_of_ItemOn (ops:=[.ref h0.objs.size,.str _ t]) (SBH.sliceItem_ns (s:=a9 s h0 tk0) (P:=fun h'=>∀ b aa,h0.get? b=some aa→h'.get? b=some aa) (fun h aa p b dr e=>Heap.get?_push_of_some _ (p b dr e)) (fun _ _ e=>e) (fun h' AK cy ar=>?_) (Nat.le_trans (Nat.le_of_lt (Nat.blt_eq.mp bZ:x.length<1000)) (by rw[sizeLine_eq];decide))) rfl fun q=>QG q
  rw[Qz]
  exact k c h' cy _ (.keep ar) (P.grow (im':=c.im) ar (fun _ _ x=>x) fun _ _ x=>.inl x) (.str _ _ (QH ok))⟩
theorem QK:w6 w (.tup vs) (.int (i:Int)) st (.tup (vs.take i),st) :=
 ⟨fun o=>o,fun {A c ls s h0 tk0 _ y iZ lo aM p Q} P h7 hL=>hL.e0 fun u=>h7.f3 fun a xs m ao bb z k=>by
  have aX:aH w c ls st.H (h0.push (lO (.int (i:Int) u))):=P.z4 _
  have fl:(a9 s (h0.push (lO (.int (i:Int) u))) tk0).TypeIs (.ref a) "tuple":=⟨_,aX.rep.cM ao,rfl⟩
  refine tail_any fl F.slot_tuple_getitem.lookup (QD (s:=a9 s _ tk0) (aX.rep.cM ao) (Heap.IsSliceOf.new h0 .none (.int (i:Int) u)   .none) z (fun q=>?_) ?_) (ops:=[.ref h0.objs.size,.ref a]) rfl
  ·refine k c _ tk0 _ AV aX ?_
   rw[List.take_of_length_le (by rw[bb.length];exact q)]
   exact .tup ao bb z
  ·obtain ⟨bw,a4,b8,v2⟩:=FK (s:=a9 s (h0.push (lO (.int (i:Int) u))) tk0) (st:=st) aX (bb.take i) (Nat.le_trans (List.length_take_le' _ _) z)
   exact k bw _ tk0 _ (AV.trans a4) b8 v2⟩
end
theorem QL {v k:V}:ae (w6 w v k st) (Ad v k st):=ae.b fun i aM=>ae.de fun q=>by
 rw[h6 aM]
 obtain ⟨m,rfl⟩:=Int.eq_ofNat_of_zero_le (of_decide_eq_true (Bool.and_eq_true_iff.mp q).1)
 exact ae.o (fun vs bT=>ae.bO (by rw[n2 bT];exact QK)) fun _=>ae.o (fun x bA=>ae.de fun bZ=>ae.bO (by rw[rd bA];exact QJ bZ)) fun _=>ae.m fun vs aV=>QI aV
theorem QM (S:bP w R) {o aM:PySem.Expr}{p pos:Pos}{x k z}(h1:R.ev n fr o st=some x) (af:R.ev n fr aM x.2=some k) (aB:Ad x.1 k.1 k.2=some z):f7 w n fr (.Subscript o (.Slice none (some aM) none p) pos) st z:=by
 have g:=QL (w:=w) _ aB
 exact ⟨fun o=>S.dm h1 (S.dm af (g.1 o)),fun aa A c env s aE F P Q k=>Subscript_ (S.ev h1 (S.dm af (g.1 aa)) aE F P fun aK bX bK x aG aX v1=>wpAny_Slice (wpAny_pure (S.ev (s:=a9 s bX bK) af (g.1 aa) aE (F.cA aG) aX fun bw cu cU y a4 b8 v2 =>
  wpAny_pure (g.2 (s:=s) (tk0:=cU) b8 (v1.cA a4) v2 (k.h8 (aG.trans a4))))))⟩
theorem QN (S:bP w R) {o i:PySem.Expr}{pos:Pos}{x k u}(q:nN i=false) (h1:R.ev n fr o st=some x) (af:R.ev n fr i x.2=some k) (aB:jw x.1 k.1 k.2=some u):f7 w n fr (.Subscript o i pos) st (u,k.2) :=
 ⟨fun o=>S.dm h1 (S.dm af o),fun aa A c env s aE F P Q k=>Subscript_ (S.ud h1 af aa aE F P fun bw cu cU x y a4 b8 v1 v2=>O3 (s:=a9 s cu cU) aB q b8 v1 v2 fun az z QO=>k bw cu az z a4 b8 QO)⟩
theorem QP (S:bP w R) {o e:PySem.Expr}{pos:Pos}:ae (f7 w n fr (.Subscript o e pos) st) (pe R n fr (.Subscript o e pos) st) :=
 ae.o (fun y bU=>ae.de fun q=>ae.b fun aM bY=>ae.b fun x h1=>ae.b fun k af z aB=>by
  obtain ⟨p,rfl⟩:=N5 bU
  obtain ⟨aS,bf⟩:=Bool.and_eq_true_iff.mp q
  rw[Option.isNone_iff_eq_none.mp aS,Option.isNone_iff_eq_none.mp bf,bY]
  exact QM S h1 af aB)
  fun bc=>ae.b fun x h1=>ae.b fun k af=>ae.m fun u aB=>QN S (N7 bc) h1 af aB
end
section
variable {w:World}{c aK:br}{ls bJ:List (Str×V)}{H H1:List aj}{h h' h1:Heap}
open Classical in
noncomputable def e3 (ρ:c5) (H:List aj) (h:Heap):ct:=fun b=>if Own ρ H b then none else h.get? b
theorem og {ρ:c5}{b:Addr}{o:Obj}:e3 ρ H h b=some o↔¬ Own ρ H b∧h.get? b=some o:=by
 unfold e3
 split
 ·rename_i q;simp[q]
 ·rename_i q;simp[q]
theorem AW {ρ:c5}{b:Addr}(e:e3 ρ H h b=none):Own ρ H b∨h.get? b=none:=by
 unfold e3 at e
 split at e
 ·rename_i q;exact .inl q
 ·exact .inr e
theorem Rep.enter (c1:Rep w c.im c.ρ H h) (dh:hG w c.im) {C:Addr}{m:Str→Option Value}(ar:∀ b aa,h.get? b=some aa→h'.get? b=some aa) (bc:h'.Ns C m) (gY:ka w.params c.im c.ρ bJ m) (eZ:h.get? C=none) :
 aH w ⟨e3 c.ρ H h,C,c.im,c.ρ⟩ bJ H h':=by
 refine ⟨⟨m,gY,bc⟩,⟨c1.len,fun {i p o} ao aC=>(c1.at_ ao aC).mono (fun _ _ x=>x) (fun _ _ x=>x) fun a m aa x=>ar a aa x,c1.sep,fun {a o} x=>ar _ _ (c1.cM x),c1.js⟩,dh,fun {a o} x=>ar _ _ (og.mp x).2,fun {a} x=>⟨?_,?_⟩,?_,?_⟩
 ·show e3 c.ρ H h a=none
  cases q:e3 c.ρ H h a with
  |none=>rfl
  |some o=>exact absurd x (og.mp q).1
 ·rintro rfl
  obtain ⟨o,e⟩:=c1.here x
  rw[eZ] at e;exact ba e
 ·show e3 c.ρ H h C=none
  cases q:e3 c.ρ H h C with
  |none=>rfl
  |some o=>rw[(og.mp q).2] at eZ;cases eZ
 ·show c.im C=none
  cases q:c.im C with
  |none=>rfl
  |some o=>rw[c1.cM q] at eZ;cases eZ
theorem aH.enter (R:aH w c ls H h) {C:Addr}{m:Str→Option Value}(ar:∀ b aa,h.get? b=some aa→h'.get? b=some aa) (bc:h'.Ns C m) (gY:ka w.params c.im c.ρ bJ m) (eZ:h.get? C=none) :
 aH w ⟨e3 c.ρ H h,C,c.im,c.ρ⟩ bJ H h':=R.rep.enter R.dh ar bc gY eZ
theorem aH.back (R:aH w c ls H h) (c1:aH w aK bJ H1 h1) (ar:aK.kept=e3 c.ρ H h) (l1:e8 c.im aK.im) (l2:hp c.ρ aK.ρ) {C:Addr}(new:∀ a o,aK.im a=some o→c.im a=some o∨h.get? a=none∨(e3 c.ρ H h a=none∧a≠C)) :
 aH w {aK with kept:=c.kept,L:=c.L} ls H1 h1:=by
 obtain ⟨Zu,pw⟩:=R.wi
 have ri : ¬ Own c.ρ H c.L:=fun x=>(R.own x).2 rfl
 have cy:∀{b o},¬ Own c.ρ H b→h.get? b=some o→h1.get? b=some o:=fun {b o} n e=>c1.keep (by rw[ar];exact og.mpr ⟨n,e⟩)
 refine ⟨?_,c1.rep,c1.dh,fun {a o} x=>cy (fun q=>?_) (R.keep x),fun {a} x=>⟨?_,?_⟩,R.fr.1,?_⟩
 ·obtain ⟨m,gY,bc⟩:=R.ns
  exact ⟨m,gY.mono l1 l2,o5 bc fun o e=>cy ri e⟩
 ·have z:=(R.own q).1;rw[x] at z;cases z
 ·have z:=(c1.own x).1
  rw[ar] at z
  show c.kept a=none
  rcases AW z with y |y
  ·exact (R.own y).1
  ·cases q:c.kept a with
   |none=>rfl
   |some o=>rw[R.keep q] at y;cases y
 ·have z:=(c1.own x).1
  rw[ar] at z
  rcases AW z with y |y
  ·exact (R.own y).2
  ·rintro rfl;rw[pw] at y;cases y
 ·show aK.im c.L=none
  cases q:aK.im c.L with
  |none=>rfl
  |some o =>
   rcases new _ _ q with y |y |y
   ·rw[R.fr.2] at y;exact ba y
   ·rw[pw] at y;cases y
   ·rw[og.mpr ⟨ri,pw⟩] at y;cases y.1
theorem b3.back {C:Addr}(R:aH w c ls H h) (n:b3 h ⟨e3 c.ρ H h,C,c.im,c.ρ⟩ h1 aK):b3 h c h1 {aK with kept:=c.kept,L:=c.L} :=
 ⟨⟨rfl,rfl,n.le.im,n.le.ρ,fun a o e=>(n.le.new a o e).imp id fun q=>q.elim .inl fun q=>(AW q.1).elim (fun x=>.inr (R.own x)) .inl⟩,n.aP⟩
theorem aH.Ge {a:Addr}(R:aH w c ls H h) (off:Off c H a) (ak:∀ b,b≠a→h'.get? b=h.get? b):aH w c ls H h':=by
 obtain ⟨e9,dR,fO,fZ⟩:=off
 have ar:∀ b aa,b≠a→h.get? b=some aa→h'.get? b=some aa:=fun b aa n e=>(ak b n).trans e
 refine ⟨?_,⟨R.rep.len,fun {i p o} ao aC=>(R.rep.at_ ao aC).mono (fun _ _ x=>x) (fun _ _ x=>x) fun b m aa x=>ar b aa (fun q=>e9 ⟨i,p,o,ao,aC,q▸m⟩) x,R.rep.sep,fun {b aa} x=>ar b aa (fun q=>?_) (R.rep.cM x),R.rep.js⟩,R.dh,fun {b aa} x=>ar b aa (fun q=>?_) (R.keep x),R.own,R.fr⟩
 ·obtain ⟨m,gY,bc⟩:=R.ns
  exact ⟨m,gY,o5 bc fun aa e=>ar _ _ (fun q=>dR q.symm) e⟩
 ·rw[q,fO] at x;exact ba x
 ·rw[q,fZ] at x;exact ba x
noncomputable def jG (K:ct) (as:List Addr) (h:Heap):ct:=fun b=>if b∈as then h.get? b else K b
theorem aH.hold {as:List Addr}(R:aH w c ls H h) (off:∀ a∈as,Off c H a):aH w {c with kept:=jG c.kept as h} ls H h:=by
 refine ⟨R.ns,R.rep,R.dh,fun {a o} x=>?_,fun {a} x=>⟨?_,(R.own x).2⟩,?_,R.fr.2⟩
 ·have x:jG c.kept as h a=some o:=x
  unfold jG at x
  split at x
  ·exact x
  ·exact R.keep x
 ·show jG c.kept as h a=none
  unfold jG
  rw[if_neg fun m=>(off a m).1 x];exact (R.own x).1
 ·show jG c.kept as h c.L=none
  unfold jG
  rw[if_neg fun m=>(off c.L m).2.1 rfl];exact R.fr.1
theorem aH.w7 {as:List Addr}(R:aH w c ls H h) (off:∀ a∈as,Off c H a) (c1:aH w aK bJ H1 h1) (n:b3 h {c with kept:=jG c.kept as h} h1 aK):aH w {aK with kept:=c.kept} bJ H1 h1∧b3 h c h1 {aK with kept:=c.kept} ∧
 (∀ a∈as,h.get? a≠none→Off {aK with kept:=c.kept} H1 a∧h1.get? a=h.get? a):=by
 have sub:∀{b o},c.kept b=some o→aK.kept b=some o:=fun {b o} e=>by
  rw[n.le.kept]
  show jG c.kept as h b=some o
  unfold jG
  rw[if_neg fun m=>by rw[(off b m).2.2.2] at e;cases e];exact e
 have AX:aK.L=c.L:=n.le.L
 refine ⟨⟨c1.ns,c1.rep,c1.dh,fun {a o} x=>c1.keep (sub x),fun {a} x=>⟨?_,(c1.own x).2⟩,?_,c1.fr.2⟩,⟨⟨rfl,AX,n.le.im,n.le.ρ,fun a o e=>(n.le.new a o e).imp id fun q=>q.imp id fun q=>⟨?_,q.2⟩⟩,n.aP⟩,fun a m b2=>?_⟩
 ·show c.kept a=none
  cases q:c.kept a with
  |none=>rfl
  |some o=>have z:=(c1.own x).1;rw[sub q] at z;cases z
 ·show c.kept aK.L=none
  rw[AX];exact R.fr.1
 ·cases q:h.get? a with
  |none=>exact absurd q b2
  |some o =>
   have dJ:aK.kept a=some o:=by
    rw[n.le.kept]
    show jG c.kept as h a=some o
    unfold jG
    rw[if_pos m];exact q
   refine ⟨⟨fun x=>?_,?_,?_,(off a m).2.2.2⟩,c1.keep dJ⟩
   ·have z:=(c1.own x).1;rw[dJ] at z;cases z
   ·show a≠aK.L
    rw[AX];exact (off a m).2.1
   ·show aK.im a=none
    cases y:aK.im a with
    |none=>rfl
    |some aa =>
     rcases n.le.new _ _ y with z |z |z
     ·have z:c.im a=some aa:=z;rw[(off a m).2.2.1] at z;exact ba z
     ·rw[q] at z;cases z
     ·rw[n.le.kept,z.1] at dJ;exact ba dJ
 ·cases z:c.kept a with
  |none=>rfl
  |some o=>have et:=sub z;rw[n.le.kept,q.1] at et;exact ba et
theorem cO.kept {fr:a5}{env:Env}{K:ct}(F:cO c fr env):cO {c with kept:=K} fr env:=⟨F.sc,F.kind,F.loc,F.glob,F.blt,F.cs,F.tab,F.az⟩
end
section
variable {w:World}{R:dO}{A:Around}{c:br}{st st' : ax}{s:Shared}{ls:List (Str×V)}{n:Nat}{fr:a5}{env:Env}{r:V}{Q:Value→Shared→Prop}{H:List aj}{h h' : Heap}
noncomputable def pairsOf (env:Env) (pos:Pos):List (Option PySem.Expr)→List PySem.Expr→List (Sem Value×Sem Value)
 |some k::b6,v::vs=>(eval k env,do let x ←eval v env;standAt pos;pure x)::pairsOf env pos b6 vs
 |_,_=>[]
theorem QQ {b6:List (Option PySem.Expr)}:ae (fun cy=>cy.length=b6.length) (q3 b6):=by
 induction b6 with
 |nil=>exact ae.bO rfl
 |cons k r aI=>exact ae.b fun s h1=>ae.m fun t af=>congrArg (· + 1) (aI t af)
theorem Gf {k:Option PySem.Expr}{x:Str}(h:EN k=some x):∃ kd p,k=some (.Constant (.str x) kd p):=jr h fun e h1 af=>by
 obtain ⟨kd,p,af⟩:=N6 af
 exact ⟨kd,p,af▸h1⟩
theorem QR {pos:Pos}{b6:List (Option PySem.Expr)}:∀{vs:List PySem.Expr},b6.length=vs.length→ae (fun _=>(evalEachOpt b6 env).zip ((evalEach vs env).map fun v=>do let x ←v;standAt pos;pure x)=(pairsOf env pos b6 vs).map (fun p=>(some p.1,p.2))∧(pairsOf env pos b6 vs).length=vs.length) (q3 b6):=by
 induction b6 with
 |nil =>
  intro vs l
  rw[List.length_eq_zero_iff.mp l.symm]
  exact ae.bO ⟨rfl,rfl⟩
 |cons k b6 aI =>
  intro vs l
  cases vs with
  |nil=>cases l
  |cons v vs =>
   refine ae.b fun x h1=>ae.m fun t af=>?_
   obtain ⟨kd,p,rfl⟩:=Gf h1
   obtain ⟨g4,mZ⟩:=aI (Nat.succ.inj l) t af
   exact ⟨congrArg (_::·) g4,congrArg (· + 1) mZ⟩
noncomputable def QS (w:World) (n:Nat) (fr:a5) (b6:List (Option PySem.Expr)) (vs:List PySem.Expr) (cy:List Str) (st:ax) (r:List V×ax):Prop:=r.2.aa→∀{A c env s pos}(Q:List (Value×Value)→Shared→Prop),dA A n→cO c fr env→aH w c fr.ls st.H s.heap →
 (∀ c' h' az ps vals,b3 s.heap c h' c'→aH w c' fr.ls r.2.H h'→Carries (strKind bz w) ps (cy.zip vals)→aW w.params c'.im c'.ρ r.1 vals→Q ps (a9 s h' az))→wpAny (aU w) A (evalPairs (pairsOf env pos b6 vs)) Q bo s
theorem QT (S:bP w R) {vs:List PySem.Expr}:∀{b6:List (Option PySem.Expr)}{cy:List Str}{st:ax},q3 b6=some cy→b6.length=vs.length→ae (QS w n fr b6 vs cy st) (f6 R n fr vs st):=by
 induction vs with
 |nil =>
  intro b6 cy st h l
  rw[List.length_eq_zero_iff.mp l] at h ⊢
  rw[←cb h]
  exact ae.bO fun _ A c env s pos Q _ F P k=>evalPairs_nil (k c s.heap s.toks [] [] .refl P trivial .nil)
 |cons v vs aI =>
  intro b6 cy st h l
  cases b6 with
  |nil=>cases l
  |cons fq b6 =>
  refine jr h fun x h1 h=>lK h fun t af ao=>?_
  obtain ⟨kd,p,rfl⟩:=Gf h1
  rw[←ao]
  exact ae.cf fun q=>ae.b fun u aB=>ae.m fun us bu o A c env s pos Q aE F P k=>evalPairs_cons (Calls.Constant_str (wpAny_bind (S.ev (s:=a9 s s.heap (s.toks+1)) aB (oa S bu o) aE F P fun aK bX bK y aG aX v1=>wpAny_bind (wpAny_standAt (wpAny_pure
   (aI af (Nat.succ.inj l) _ bu o (s:=a9 s bX bK) _ aE (F.cA aG) aX fun bw cu cU ps vals a4 b8 ca v2=>k bw cu cU _ (y::vals) (aG.trans a4) b8 ⟨strKind_is bz w _ _,rfl,ca⟩ (.cons (v1.cA a4) v2)))))))
theorem QU {lM:List (Str×Value)}:∀{acc:List (Str×Value)},((acc++lM).map (·.1)).Nodup→merged acc lM=acc++lM:=by
 induction lM with
 |nil=>intro acc _;rw[List.append_nil];rfl
 |cons fp r aI =>
  intro acc ef
  have e:stored acc fp.1 fp.2=acc++[fp]:=by
   unfold stored
   rw[if_neg]
   intro q
   obtain ⟨QV,m,q⟩:=List.any_eq_true.mp q
   rw[List.map_append,List.nodup_append] at ef
   exact ef.2.2 QV.1 (List.mem_map_of_mem m) fp.1 (.head _) (of_decide_eq_true q)
  show merged (stored acc fp.1 fp.2) r=_
  rw[e,aI (by rw[List.append_assoc];exact ef),List.append_assoc]
  rfl
theorem w8 {l:List Str}:mU l=true→l.Nodup:=by
 induction l with
 |nil=>exact fun _=>.nil
 |cons x r aI =>
  intro h
  obtain ⟨h1,af⟩:=Bool.and_eq_true_iff.mp h
  exact List.nodup_cons.mpr ⟨fun m=>by rw[E5.mpr m] at h1;exact dv h1,aI af⟩
theorem fo.zip {P:Params}{im:ct}{ρ:c5}{vs:List V}{xs:List Value}(h:aW P im ρ vs xs):∀ cy:List Str,fo P im ρ (cy.zip vs) (cy.zip xs) :=
 aW.ind (Q:=fun vs xs=>∀ cy:List Str,fo P im ρ (cy.zip vs) (cy.zip xs)) (fun cy=>by rw[List.zip_nil_right,List.zip_nil_right];exact .nil) (fun a _ aI cy=>by
  cases cy with
  |nil=>exact .nil
  |cons k r=>exact .cons a (aI r)) h
theorem QW {l:List (Sem Value×Sem Value)}{n:Nat}(h:l.length=n) (z:0<n):l≠[]:=fun e=>by rw[e] at h;exact Nat.lt_irrefl _ (h▸z)
theorem QX (S:bP w R) {b6:List (Option PySem.Expr)}{vs:List PySem.Expr}{pos:Pos}{cy x}(h1:q3 b6=some cy) (q:(mU cy&&(Nat.beq cy.length vs.length&&(Nat.blt cy.length 15&&Nat.blt 0 cy.length)))=true) (af:f6 R n fr vs st=some x):f7 w n fr (.Dict b6 vs pos) st (nR (.dict (cy.zip x.1)) x.2):=by
 refine ⟨fun o=>oa S af o,fun aa A c env s aE F P Q k=>?_⟩
 obtain ⟨aS,q⟩:=Bool.and_eq_true_iff.mp q
 obtain ⟨bf,q⟩:=Bool.and_eq_true_iff.mp q
 obtain ⟨dT,d9⟩:=Bool.and_eq_true_iff.mp q
 have bf:=Nat.eq_of_beq_eq_true bf
 have dT:=Nat.blt_eq.mp dT
 have d9:=Nat.blt_eq.mp d9
 have hM:b6.length=vs.length:=(QQ _ h1).symm.trans bf
 obtain ⟨AY,c0⟩:=QR (env:=env) (pos:=pos) hM _ h1
 refine wpAny_Dict_pairs (knd:=strKind bz w) AY (QW c0 (bf▸d9)) (by rw[c0,←bf];omega) ?_
 have off:∀ a∈[s.heap.objs.size],Off c st.H a:=fun a m=>by
  rw[List.mem_singleton.mp m]
  exact .new P (Heap.iy (Nat.le_refl _))
 have w9:aH w c fr.ls st.H (s.heap.push {cls:=.type "dict",data:=.dict #[]}):=P.z4 _
 have uh:(s.heap.push {cls:=.type "dict",data:=.dict #[]}).get? s.heap.objs.size=some {cls:=.type "dict",data:=.dict #[]}:=Heap.get?_push_size _ rfl
 refine QT S h1 hM _ af aa (s:=a9 s (s.heap.push {cls:=.type "dict",data:=.dict #[]}) s.toks) (c:={c with kept:=jG c.kept [s.heap.objs.size] (s.heap.push {cls:=.type "dict",data:=.dict #[]})}) _ aE F.kept (w9.hold off) fun aK bX bK ps vals aG aX ca v1=>?_
 obtain ⟨b8,a4,dR⟩:=w9.w7 off aX aG
 obtain ⟨fO,fZ⟩:=dR _ (.head _) (by rw[uh];intro z;cases z)
 rw[uh] at fZ
 have l1:x.1.length=vs.length:=(n9 S _ _ af).2.1
 have l2:vals.length=x.1.length:=v1.length.symm
 refine ⟨cy.zip vals,ca,?_,fun hd AZ ak=>?_⟩
 ·obtain ⟨o',aD,iv,ao,aC⟩:=Heap.DictOf.new (knd:=strKind bz w) s.heap
  refine ⟨o',aD,iv,?_,aC⟩
  rw[uh] at ao;rw[←cb ao]
  exact fZ
 ·have ef:(([]++cy.zip vals:List (Str×Value)).map (·.1)).Nodup:=by
   rw[List.nil_append,List.map_fst_zip (by omega)]
   exact w8 aS
  rw[QU ef,List.nil_append] at AZ
  have le:hp aK.ρ (aK.ρ++[(s.heap.objs.size,s.heap.objs.size)]):=fun i q e=>o6 e
  have P3:=b8.adopt (h':=hd) (p:=(s.heap.objs.size,s.heap.objs.size)) (o:=.dict (cy.zip x.1)) (fun a m=>by rw[List.mem_singleton.mp m];exact fO)
   (fun b dr nb e=>(ak.2 b fun q=>nb (by rw[q];exact .head _)).trans e)
   ⟨_,AZ,fo.zip (v1.mono (fun _ _ x=>x) le) cy,by rw[List.length_zip];omega⟩
  refine k _ hd _ _ ?_ P3 (aF.ref (p:=(s.heap.objs.size,s.heap.objs.size)) ?_)
  ·refine ⟨⟨rfl,a4.le.L,a4.le.im,fun i q e=>le _ _ (a4.le.ρ i q e),fun a o e=>(a4.le.new a o e).imp id fun y=>y.imp (fun y=>?_) id⟩,fun a o e=>?_⟩
   ·obtain ⟨o',c9⟩:=a4.aP a o (Heap.get?_push_of_some _ e)
    by_cases z:a=s.heap.objs.size
    ·obtain ⟨iC,_,_,cL,_⟩:=AZ
     exact ⟨iC,z▸cL⟩
    ·exact ⟨o',(ak.2 a z).trans c9⟩
   ·cases z:s.heap.get? a with
    |none=>rfl
    |some o'=>rw[Heap.get?_push_of_some _ z] at y;exact ba y.symm
  ·show (aK.ρ++[_])[x.2.H.length]?=_
   rw[←aX.rep.len,List.getElem?_append_right (Nat.le_refl _),Nat.sub_self];rfl
end
section
variable {w:World}{R:dO}{A:Around}{c:br}{st st' : ax}{s:Shared}{ls:List (Str×V)}{n:Nat}{fr:a5}{env:Env}{r:V}
theorem QY {e:PySem.Expr}{whole:Sem Value}{Q:Bool→Shared→Prop}(h:wpAny (aU w) A whole (fun v dP=>wpAny (aU w) A (truthy v) Q bo dP) bo s)
 (hm:isTrue e env whole=(do let v ←whole;standAt e.pos;holding [v] (truthy v))):wpAny (aU w) A (isTrue e env whole) Q bo s:=isTrue_plain h hm
theorem QZ {a b:CmpOp}{e f:PySem.Expr}(h:gq f=false):lastMarks [a,b] [e,f]=false:=by
 have:=AP (op:=b) h
 simpa [lastMarks] using this
theorem Q0 {e:PySem.Expr}{whole:Sem Value}(z:wk e=true):isTrue e env whole=(do let v ←whole;standAt e.pos;holding [v] (truthy v)):=by cases e <;> first |rfl |exact dv z
theorem Q1 (S:bP w R) {e:PySem.Expr}{x b}(h:R.ev n fr e st=some x) (bt:o8 x.1=some b) (z:wk e=true):lZ w n fr e st (b,x.2) :=
 ⟨fun o=>S.dm h o,fun aa A c env s Q aE F P k=>QY (S.ev h aa aE F P fun aK bX bK x aG aX v1=>by rw[Fe bt] at v1;exact v1.qW (rp (k aK bX bK aG aX))) (Q0 z)⟩
theorem Q2 (S:bP w R) {e:PySem.Expr}{p:Pos}{y}(h:R.es n fr e st=some y):lZ w n fr (.UnaryOp .Not e p) st (!y.1,y.2):=⟨fun o=>S.iF h o,fun aa A c env s Q aE F P k=>isTrue_not (S.es h aa aE F P k)⟩
theorem Q3 (S:bP w R) {a b:PySem.Expr}{p:Pos}{y z:Bool×ax}(h1:R.es n fr a st=some y) (bU:y.1=true) (af:R.es n fr b y.2=some z):lZ w n fr (.BoolOp .And [a,b] p) st z:=by
 refine ⟨fun o=>S.iF h1 (S.iF af o),fun aa A c env s Q aE F P k=>isTrue_and (S.es h1 (S.iF af aa) aE F P fun aK bX bK aG aX=>?_)⟩
 rw[bU,if_pos rfl]
 refine isTrue_and (S.es (s:=a9 s bX bK) af aa aE (F.cA aG) aX fun bw cu cU a4 b8=>?_)
 have k:=k bw cu cU (aG.trans a4) b8
 revert k
 cases z.1 with
 |true=>intro k;rw[if_pos rfl];exact isTrue_and_nil k
 |false=>exact id
theorem Q4 (S:bP w R) {a b:PySem.Expr}{p:Pos}{y z:Bool×ax}(h1:R.es n fr a st=some y) (bU:y.1=false) (af:R.es n fr b y.2=some z):lZ w n fr (.BoolOp .Or [a,b] p) st z:=by
 refine ⟨fun o=>S.iF h1 (S.iF af o),fun aa A c env s Q aE F P k=>isTrue_or (S.es h1 (S.iF af aa) aE F P fun aK bX bK aG aX=>?_)⟩
 rw[bU,if_neg (by simp)]
 refine isTrue_or (S.es (s:=a9 s bX bK) af aa aE (F.cA aG) aX fun bw cu cU a4 b8=>?_)
 have k:=k bw cu cU (aG.trans a4) b8
 revert k
 cases z.1 with
 |true=>exact id
 |false=>intro k;rw[if_neg (by simp)];exact isTrue_or_nil k
theorem Q5 (S:bP w R) {op:BoolOp}{v:PySem.Expr×PySem.Expr}{p:Pos}:ae (lZ w n fr (.BoolOp op [v.1,v.2] p) st) (ET R n fr op v st):=ae.b fun y h=>by
 cases op with
 |And=>cases bU:y.1 with
  |true=>exact fun z af=>Q3 S h bU af
  |false =>
   show ae _ (some y)
   refine ae.bO ⟨fun o=>S.iF h o,fun aa A c env s Q aE F P k=>isTrue_and (S.es h aa aE F P fun aK bX bK aG aX=>?_)⟩
   have k:=k aK bX bK aG aX
   rw[bU] at k ⊢
   exact k
 |Or=>cases bU:y.1 with
  |false=>exact fun z af=>Q4 S h bU af
  |true =>
   show ae _ (some y)
   refine ae.bO ⟨fun o=>S.iF h o,fun aa A c env s Q aE F P k=>isTrue_or (S.es h aa aE F P fun aK bX bK aG aX=>?_)⟩
   have k:=k aK bX bK aG aX
   rw[bU] at k ⊢
   exact k
theorem Q6 (S:bP w R) {l r:PySem.Expr}{op:CmpOp}{p:Pos}{a b:V×ax}{z:Bool×ax}(h:gq r=false) (h1:R.ev n fr l st=some a) (af:R.ev n fr r a.2=some b) (aB:dX op a.1 b.1 b.2=some z):lZ w n fr (.Compare l [op] [r] p) st z:=by
 have e:z.2=b.2:=t4 aB
 refine ⟨fun o=>S.dm h1 (S.dm af (e▸o)),fun aa A c env s Q aE F P k=>?_⟩
 rw[e] at aa k
 exact wpAny_isTrue_Compare1 (S.ud h1 af aa aE F P fun bw cu cU x y a4 b8 v1 v2=>wW (s:=a9 s cu cU) aB aE b8 v1 v2 fun az=>rp (k bw cu az a4 b8)) (AP h)
theorem Gg (S:bP w R) {l r ea:PySem.Expr}{op km:CmpOp}{p:Pos}{a b:V×ax}{q:Bool×ax}(h:gq ea=false) (h1:R.ev n fr l st=some a) (af:R.ev n fr r a.2=some b) (aB:dX op a.1 b.1 b.2=some q) (aa:q.2.aa) (aE:dA A n) (F:cO c fr env) (P:aH w c fr.ls st.H s.heap)
 {Q:Bool→Shared→Prop}(k:∀ c' h' az y,b3 s.heap c h' c'→aH w c' fr.ls q.2.H h'→aF w.params c'.im c'.ρ b.1 y→cO c' fr env→if q.1=true then wpAny (aU w) A (testChain p y [km] [eval ea env]) Q bo (a9 s h' az) else Q false (a9 s h' az)):wpAny (aU w) A (isTrue (.Compare l [op,km] [r,ea] p) env (eval (.Compare l [op,km] [r,ea] p) env)) Q bo s:=by
 have e:q.2=b.2:=t4 aB
 rw[e] at aa k
 refine isTrue_chain (S.ev h1 (S.dm af aa) aE F P fun aK bX bK x aG aX v1=>?_) (QZ h)
 refine test_link (S.ev (s:=a9 s bX bK) af aa aE (F.cA aG) aX fun bw cu cU y a4 b8 v2=>?_)
 exact wW (s:=a9 s cu cU) aB aE b8 (v1.cA a4) v2 fun az=>rp (k bw cu az y (aG.trans a4) b8 v2 ((F.cA aG).cA a4))
theorem Q7 (S:bP w R) {l r ea:PySem.Expr}{op km:CmpOp}{p:Pos}{a b:V×ax}{q:Bool×ax}(h:gq ea=false) (h1:R.ev n fr l st=some a) (af:R.ev n fr r a.2=some b) (aB:dX op a.1 b.1 b.2=some q) :
 ae (lZ w n fr (.Compare l [op,km] [r,ea] p) st) (bif q.1 then (R.ev n fr ea q.2).bind fun c=>dX km b.1 c.1 c.2 else some (false,q.2)):=by
 have e:q.2=b.2:=t4 aB
 cases dk:q.1 with
 |true =>
  refine ae.b fun d bu z dB=>?_
  have k4:z.2=d.2:=t4 dB
  refine ⟨fun o=>S.dm h1 (S.dm af (e▸S.dm bu (k4▸o))),fun aa A c env s Q aE F P k=>?_⟩
  rw[k4] at aa k
  refine Gg S h h1 af aB (S.dm bu aa) aE F P fun aK bX bK y aG aX v1 Gh=>?_
  rw[dk,if_pos rfl]
  exact test_last (S.ev (s:=a9 s bX bK) bu aa aE Gh aX fun da i3 g0 k2 c4 P3 oY=>wW (s:=a9 s i3 g0) dB aE P3 (v1.cA c4) oY fun az=>rp (k da i3 az (aG.trans c4) P3))
 |false =>
  refine ae.bO ⟨fun o=>S.dm h1 (S.dm af (e▸o)),fun aa A c env s Q aE F P k=>Gg S h h1 af aB aa aE F P fun aK bX bK y aG aX v1 Gh=>?_⟩
  rw[dk,if_neg Bool.false_ne_true]
  exact k aK bX bK aG aX
theorem Q8 (S:bP w R) {e:PySem.Expr}:ae (lZ w n fr e st) (q6 R n fr e st):=by
 have key:∀ e,wk e=true→ae (lZ w n fr e st) ((R.ev n fr e st).bind fun x=>(o8 x.1).map fun b=>(b,x.2)):=fun e z=>ae.b fun x h=>ae.m fun b bt=>Q1 S h bt z
 cases e with
 |UnaryOp op x p=>exact ae.de fun q=>ae.m fun y h=>by rw[O4 q];exact Q2 S h
 |BoolOp op vs p=>exact ae.b fun v aV=>by rw[wF aV];exact Q5 S
 |IfExp a b c p=>exact ae.no
 |Compare l ops rs p =>
  exact ae.o (fun op c8=>ae.b fun r bR=>ae.cf fun q=>ae.b fun a h1=>ae.b fun b af z aB=>by rw[mW c8,mW bR];exact Q6 S q h1 af aB)
   fun _=>ae.b fun o c8=>ae.b fun r bR=>ae.cf fun q=>ae.b fun a h1=>ae.b fun b af=>ae.b fun x aB z bu=>by rw[wF c8,wF bR];exact Q7 S q h1 af aB z bu
 |_=>exact key _ rfl
theorem Q9 {f:cD}{P:Params}{g:Flow}(r:jD c P f g) (h:Ai f=true):g=.next:=by cases r <;> first |rfl |exact dv h
theorem Ra (S:bP w R) (xa:∀{e:Stmt}{fr:a5}{st:ax},ae (iE w n fr (exec e) st) (q8 R n fr e st)) {ss:List Stmt}:ae (iE w n fr (execs ss) st) (EX R n fr ss st):=by
 cases ss with
 |nil=>exact ae.bO ⟨fun o=>o,fun _ A c env s Q _ F P k=>wpAny_execs_nil (k c s.heap s.toks _ .refl P .next)⟩
 |cons s0 r =>
  refine ae.b fun x h1=>ae.c (fun q z h=>⟨fun o=>(xa _ h1).1 (S.m1 h o),fun aa A c env s Q aE F P k=>?_⟩) fun q=>ae.bO ⟨(xa _ h1).1,fun aa A c env s Q aE F P k=>?_⟩
  ·refine wpAny_execs_cons ((xa _ h1).2 (S.m1 h aa) _ aE F P fun aK bX bK g aG aX f1=>?_)
   rw[Q9 f1 q]
   exact S.ex (s:=a9 s bX bK) h aa aE ((F.cA aG).ls x.2.1) aX (k.h8 aG)
  ·refine wpAny_execs_cons ((xa _ h1).2 aa _ aE F P fun aK bX bK g aG aX f1=>?_)
   have k:=k aK bX bK g aG aX f1
   revert q
   generalize x.1=f at f1
   cases f1 with
   |next=>exact fun q=>ez q
   |_=>exact fun _=>k
end
section
variable {w:World}{R:dO}{A:Around}{c:br}{st st' : ax}{s:Shared}{ls:List (Str×V)}{n:Nat}{fr:a5}{env:Env}{H:List aj}{h h' : Heap}
theorem Heap.rr (e:Heap.ExtBut h.objs.size h h'):∀ b o,h.get? b=some o→h'.get? b=some o:=fun b o x=>e b o (Nat.ne_of_lt (Heap.lt_size x)) x
theorem aH.ui (P:aH w c ls H h) (ar:∀ b aa,h.get? b=some aa→h'.get? b=some aa):aH w c ls H h':=P.grow (im':=c.im) ar (fun _ _ x=>x) fun _ _ x=>.inl x
theorem ka.set {P:Params}{im:ct}{ρ:c5}{ls:List (Str×V)}{m:Str→Option Value}(l:ka P im ρ ls m) {x:Str}{v:V}{y:Value}(r:aF P im ρ v y):ka P im ρ (d7 x v ls) (fun z=>if z=x then some y else m z):=by
 intro z u e
 rw[E6] at e
 by_cases q:z=x
 ·rw[if_pos (d8.mpr q)] at e
  obtain rfl:=cb e
  exact ⟨y,if_pos q,r⟩
 ·rw[if_neg fun t=>q (d8.mp t)] at e
  obtain ⟨a,c9,ea⟩:=l z u e
  exact ⟨a,(if_neg q).trans c9,ea⟩
theorem cO.plain (F:cO c fr env):(env.scope.kind == .class || env.scope.kind == .module&&env.locals != env.globals)=false:=by
 rw[F.sc,F.kind];rfl
theorem cO.kindOf (F:cO c fr env) {x:Str}:env.kindOf x=look x fr.sc.names:=by
 unfold Env.kindOf
 rw[F.sc];exact lU
theorem xb {x:Str}{v:V}{y:Value}{Q:Unit→Shared→Prop}(F:cO c fr env) (P:aH w c fr.ls H s.heap) (e:look x fr.sc.names=some .local) (r:aF w.params c.im c.ρ v y)
 (k:∀ h' az,b3 s.heap c h' c→aH w c (d7 x v fr.ls) H h'→Q () (a9 s h' az)):wpAny (aU w) A (storeName env x y) Q bo s:=by
 obtain ⟨m,l,bc⟩:=P.ns
 refine wpAny_storeName_local (F.kindOf.trans e) (by rw[F.loc];exact bc) (fun h' px ak=>?_) F.plain
 rw[F.loc] at px ak
 refine k h' _ ?_ (P.loc (l.set r) px ak)
 obtain ⟨o,_,_,e,_⟩:=px
 exact .of_same ak.2 e
theorem Rb {x:Str}{v:V}{y:Value}{i:Nat}{u:Option V}{Q:Unit→Shared→Prop}(F:cO c fr env) (P:aH w c fr.ls H s.heap) (e:look x fr.sc.names=some .cell) (aC:look x fr.cs=some i) (cL:H[i]?=some (.cell u)) (r:aF w.params c.im c.ρ v y)
 (k:∀ h' az,b3 s.heap c h' c→aH w c fr.ls (H.set i (.cell (some v))) h'→Q () (a9 s h' az)):wpAny (aU w) A (storeName env x y) Q bo s:=by
 obtain ⟨p,gG,k4⟩:=F.cs x i aC
 have uj:=P.rep.at_ gG cL
 have aw:∃ u,s.heap.IsCell p.1 u:=by
  cases u with
  |none=>exact ⟨_,uj⟩
  |some u=>obtain ⟨z,a,_⟩:=uj;exact ⟨_,a⟩
 obtain ⟨xc,aw⟩:=aw
 refine wpAny_storeName_cell (by rw[F.sc,F.kind]) (F.kindOf.trans e) k4 aw fun h' bc ak=>?_
 refine k h' s.toks ?_ (P.upd gG cL rfl (fun b aa nb g6=>(ak.2 b fun q=>nb (by rw[q];exact .head _)).trans g6) ⟨y,bc,r⟩)
 obtain ⟨o,e,_⟩:=bc
 exact .of_same ak.2 e
theorem A0 {x:Str}{k:NameKind}(e:gX fr x=some k):look x fr.sc.names=some k:=by
 unfold gX at e
 split at e
 ·exact ba e
 ·exact e
theorem xd {t:PySem.Expr}(h:isStar t=false) (r:List PySem.Expr):assignEach (t::r) env=(false,assign t env)::assignEach r env:=by
 cases t <;> first |rfl |exact ez h
theorem Gi {bp:List PySem.Expr}(h:bp.any isStar=false):assignEach bp env=bp.map fun t=>(false,assign t env):=by
 induction bp with
 |nil=>rfl
 |cons t r aI =>
  obtain ⟨h1,af⟩:=Bool.or_eq_false_iff.mp (show (isStar t || r.any isStar)=false from h)
  rw[xd h1,aI af];rfl
theorem Rc {bp:List PySem.Expr}(h:bp.any isStar=false):(assignEach bp env).length=bp.length:=by rw[Gi h,List.length_map]
theorem Rd {bp:List PySem.Expr}(h:bp.any isStar=false):(assignEach bp env).findIdx? (·.1)=none:=by
 rw[Gi h,List.findIdx?_eq_none_iff]
 intro x m
 obtain ⟨t,_,rfl⟩:=List.mem_map.mp m
 rfl
noncomputable def Rf (w:World) (n:Nat) (fr:a5) (bp:List PySem.Expr) (vs:List V) (st:ax) (r:List (Str×V)×ax):Prop:=(r.2.aa→st.aa)∧bp.length=vs.length∧(bp.any isStar=false→r.2.aa→∀{A c env s xs}(Q:Unit→Shared→Prop),dA A n→cO c fr env→aH w c fr.ls st.H s.heap→aW w.params c.im c.ρ vs xs→rn w c s r.1 r.2 Q →
 wpAny (aU w) A (assignInOrder ((assignEach bp env).map (·.2)) xs) Q bo s)
theorem Rg (S:bP w R) {bp:List PySem.Expr}:∀{vs:List V}{fr:a5}{st:ax},ae (Rf w n fr bp vs st) (tL R n fr bp vs st):=by
 induction bp with
 |nil =>
  intro vs fr st
  cases vs with
  |nil=>exact ae.bO ⟨fun o=>o,rfl,fun _ _ A c env s xs Q _ F P r k=>r.tv (wpAny_assignInOrder_none (k c s.heap s.toks .refl P))⟩
  |cons _ _=>exact ae.no
 |cons t bp aI =>
  intro vs fr st
  cases vs with
  |nil=>exact ae.no
  |cons v vs =>
   refine ae.b fun x h1 z h=>⟨fun o=>S.ua h1 ((aI z h).1 o),congrArg (· + 1) (aI z h).2.1,fun q aa A c env s xs Q aE F P r k=>r.qX fun y ys a b=>?_⟩
   obtain ⟨aS,bf⟩:=Bool.or_eq_false_iff.mp (show (isStar t || bp.any isStar)=false from q)
   rw[xd aS]
   exact wpAny_assignInOrder_more (S.as h1 ((aI z h).1 aa) aE F P a fun aK bX bK aG aX=>(aI z h).2.2 bf aa (s:=a9 s bX bK) Q aE ((F.cA aG).ls x.1) aX (b.cA aG) (k.h8 aG))
theorem Gj {bp:List PySem.Expr}{kd:Nat}{pos:Pos}{v:Value}{Q:Unit→Shared→Prop}(z:bp.any isStar=false)
 (h:wpAny (aU w) A (unpackItems v bp.length none) (fun xs e4=>wpAny (aU w) A (assignInOrder ((assignEach bp env).map (·.2)) xs) Q bo e4) bo s):wpAny (aU w) A (assign (.Tuple bp kd pos) env v) Q bo s:=by
 rw[assign_Tuple]
 refine wpAny_bind (wpAny_standAt ?_)
 unfold unpack
 rw[Rc z,Rd z]
 exact wpAny_bind (wpAny_holding h)
theorem Rh {o:PySem.Expr}{nm:Str}{pos:Pos}{v:Value}{Q:Unit→Shared→Prop}(h:wpAny (aU w) A (eval o env) (fun fR s1=>wpAny (aU w) A (setAttr fR nm v) Q bo s1) bo s):wpAny (aU w) A (assign (.Attribute o nm pos) env v) Q bo s:=by
 show wpAny (aU w) A (do
  let fR ←holding [v] (eval o env)
  standAt pos.atName
  holding [v,fR] (setAttr fR nm v)
  release [v,fR] []) Q bo s
 exact wpAny_bind (wpAny_holding (wpAny_mono h (fun fR s1 h1=>wpAny_bind (wpAny_standAt (wpAny_bind (wpAny_holding (wpAny_mono h1 (fun _ _ x=>wpAny_release' x) fun _ _ x=>x))))) fun _ _ x=>x))
theorem Ri {o i:PySem.Expr}{pos:Pos}{v:Value}{Q:Unit→Shared→Prop}(h:wpAny (aU w) A (eval o env) (fun fR s1=>wpAny (aU w) A (eval i env) (fun wJ s2=>wpAny (aU w) A (setItem fR wJ v) Q bo s2) bo s1) bo s):wpAny (aU w) A (assign (.Subscript o i pos) env v) Q bo s:=by
 exact wpAny_bind (m:=holding [v] (eval o env)) (wpAny_holding (wpAny_mono h (fun fR s1 h1=>wpAny_bind (wpAny_holding (wpAny_mono h1 (fun wJ s2 af=>wpAny_bind (wpAny_standAt (wpAny_bind (wpAny_holding (wpAny_mono af (fun _ _ x=>wpAny_release' x) fun _ _ x=>x))))) fun _ _ x=>x))) fun _ _ x=>x))
section
variable {o i:PySem.Expr}{x:Str}{p:Pos}{v:V}
theorem Rj (S:bP w R) {nm:Str}{y s1}(h1:R.ev n fr o st=some y) (af:mT y.1 nm v y.2=some s1):ro w n fr (.Attribute o nm p) v st (fr.ls,s1):=by
 have e:s1.aa=y.2.aa:=(ae.b fun _ _=>ae.b fun _ _=>ae.b fun _ _=>ae.de fun _=>ae.bO rfl:ae (fun s1=>s1.aa=y.2.aa) (mT y.1 nm v y.2)) _ af
 refine ⟨fun o=>S.dm h1 (e▸o),fun aa A c env s x Q aE F P r k=>Rh (S.ev h1 (e▸aa) aE F P fun aK bX bK z aG aX v1=>?_)⟩
 exact (OV (s:=a9 s bX bK) aX v1 (r.cA aG) _ af).2 _ fun cu cU a4 b8=>k aK cu cU (aG.trans a4) b8
theorem Rk {a k:V}{s1:ax}(h:nQ a k v st=some s1):s1.aa=st.aa:=(ae.b fun _ _=>ae.o (fun _ _=>ae.b fun _ _=>ae.de fun _=>ae.m fun _ _=>rfl) fun _=>ae.b fun _ _=>ae.b fun _ _=>ae.m fun _ _=>rfl:ae (fun s1=>s1.aa=st.aa) (nQ a k v st)) _ h
theorem Rl (S:bP w R) {y k s1}(h1:R.ev n fr o st=some y) (af:R.ev n fr i y.2=some k) (aB:nQ y.1 k.1 v k.2=some s1):ro w n fr (.Subscript o i p) v st (fr.ls,s1):=by
 have e:=Rk aB
 refine ⟨fun o=>S.dm h1 (S.dm af (e▸o)),fun aa A c env s x Q aE F P r k=>Ri (S.ud h1 af (e▸aa) aE F P fun bw cu cU y z a4 b8 v1 v2=>?_)⟩
 exact (PR (s:=a9 s cu cU) b8 v1 v2 (r.cA a4) _ aB).2 _ fun i3 g0 c4 P3=>k bw i3 g0 (a4.trans c4) P3
theorem Rm (S:bP w R) {bp:List PySem.Expr}{kd:Nat}{vs z}(q:bp.any isStar=false) (h1:q0 v st=some vs) (h:tL R n fr bp vs st=some z):ro w n fr (.Tuple bp kd p) v st z:=by
 have g:=Rg (w:=w) S z h
 refine ⟨g.1,fun aa A c env s x Q aE F P r k=>Gj q ?_⟩
 have go:∀{xs:List Value}{h' : Heap},aW w.params c.im c.ρ vs xs→Heap.ExtBut s.heap.objs.size s.heap h'→wpAny (aU w) A (assignInOrder ((assignEach bp env).map (·.2)) xs) Q bo (a9 s h' s.toks):=fun bb he =>
  g.2.2 q aa (s:=a9 s _ s.toks) Q aE F (P.ui (Heap.rr he)) bb (k.h8 (b3.keep (Heap.rr he)))
 refine (ae.o (fun us bT=>ae.bO fun e=>?_) fun _ us ak e=>?_:ae (fun us=>us=vs→_) (q0 v st)) _ h1 rfl
 ·rw[n2 bT,e] at r
  refine r.f3 fun a xs nn im bb uk=>?_
  rw[g.2.1,bb.length]
  exact unpackItems_tuple (items:=xs.toArray) aE.h ⟨_,P.rep.cM im,rfl,_,rfl⟩ fun h' he=>go bb he
 ·rw[e] at ak
  obtain ⟨l,ys,m,rfl,ao,bb,uk⟩:=t8 ak P r
  rw[g.2.1,bb.length]
  exact kun_itemsOf (items:=ys.toArray) aE.h (listAt ao) fun h' he=>go bb he
theorem Rn:ae (ro w n fr (.Name x p) v st) (bif h2 (gX fr x) then some (d7 x v fr.ls,st) else bif o7 (gX fr x) then (look x fr.cs).bind fun i=>(tF st.H[i]?).map fun _=>(fr.ls,⟨st.H.set i (.cell (some v)),st.aa⟩) else none) :=
 ae.c (fun q=>ae.bO ⟨fun o=>o,fun _ A c env s x Q aE F P r k=>wpAny_assign_Name (xb F P (A0 (n1 q)) r fun h' az aG aX=>k c h' az aG aX)⟩)
  fun _=>ae.de fun q=>ae.b fun i h1=>ae.m fun u af=>⟨fun o=>o,fun _ A c env s x Q aE F P r k=>wpAny_assign_Name (Rb F P (A0 (wG q)) h1 (Fd af) r fun h' az aG aX=>k c h' az aG aX)⟩
end
theorem Ro (S:bP w R) {t:PySem.Expr}{v:V}:ae (ro w n fr t v st) (tM R n fr t v st):=by
 have z:=n0 t
 unfold tM
 revert z
 cases e1 t with
 |nm x p=>exact fun z=>by rw[show t=.Name x p from z];exact Rn
 | «at» o nm p=>exact fun z=>by rw[show t=.Attribute o nm p from z];exact ae.b fun y h1=>ae.m fun s af=>Rj S h1 af
 |sub o i p=>exact fun z=>by rw[show t=.Subscript o i p from z];exact ae.cf fun _=>ae.b fun y h1=>ae.b fun k af=>ae.m fun s aB=>Rl S h1 af aB
 |tup bp kd p=>exact fun z=>by rw[show t=.Tuple bp kd p from z];exact ae.cf fun q=>ae.b fun vs h1 z h=>Rm S q h1 h
 |_=>exact fun _=>ae.no
end
section
set_option tactic.hygienic true
section
variable {w:World}{R:dO}{A:Around}{c:br}{st st' : ax}{s:Shared}{ls:List (Str×V)}{n:Nat}{fr:a5}{env:Env}{H:List aj}{h h' : Heap}
theorem aH.A1 {as:List Addr}(R:aH w c ls H h) (off:∀ a∈as,Off c H a) (ar:∀ b aa,b ∉ as→h.get? b=some aa→h'.get? b=some aa):aH w c ls H h':=by
 refine ⟨?_,⟨R.rep.len,fun {i p o} ao aC=>(R.rep.at_ ao aC).mono (fun _ _ x=>x) (fun _ _ x=>x) fun b m aa x=>ar b aa (fun q=>(off b q).1 ⟨i,p,o,ao,aC,m⟩) x,R.rep.sep,fun {b aa} x=>ar b aa (fun q=>?_) (R.rep.cM x),R.rep.js⟩,R.dh,fun {b aa} x=>ar b aa (fun q=>?_) (R.keep x),R.own,R.fr⟩
 ·obtain ⟨m,gY,bc⟩:=R.ns
  exact ⟨m,gY,o5 bc fun aa e=>ar _ _ (fun q=>(off _ q).2.1 rfl) e⟩
 ·rw[(off b q).2.2.1] at x;exact ba x
 ·rw[(off b q).2.2.2] at x;exact ba x
theorem Off.im {c' : br}{a:Addr}(o:Off c H a) (h1:c'.L=c.L) (af:c'.kept=c.kept) (aB:c'.ρ=c.ρ) (bu:c'.im a=none):Off c' H a:=⟨by rw[aB];exact o.1,by rw[h1];exact o.2.1,bu,by rw[af];exact o.2.2.2⟩
noncomputable def xe:List String:=["enumerate","zip","dict_itemiterator","dict_reverseitemiterator","odict_iterator","itertools.zip_longest","itertools.pairwise"]
theorem Rp {aR:Addr}{x:Value}{o:Obj}{nm:String}{Q:Unit→Shared→Prop}(e:s.heap.get? aR=some o) (aw:o.cls=.type nm) (bc:xe.contains nm=false) (q:Q () s):wpAny (aU w) A (letOwnedTupleGo (.Tuple [] 0 default) (.ref aR) x) Q bo s:=by
 cases x with
 |ref a =>
  refine wpAny_bind (wpAny_load e ?_)
  rw[aw]
  cases hd:o.data with
  |fields vs =>
   show wpAny _ _ (if (xe.contains nm&&_)=true then _ else _) _ _ _
   rw[bc,Bool.false_and,if_neg (by simp)]
   exact wpAny_pure q
  |_=>exact wpAny_pure q
 |_=>exact wpAny_pure q
theorem Rq {t:PySem.Expr}{aR:Addr}{x:Value}{o:Obj}{nm:String}{Q:Unit→Shared→Prop}(e:s.heap.get? aR=some o) (aw:o.cls=.type nm) (bc:xe.contains nm=false) (q:Q () s):wpAny (aU w) A (letOwnedTupleGo t (.ref aR) x) Q bo s:=by
 have k:=Rp (w:=w) (A:=A) (x:=x) e aw bc q
 cases t with
 |Tuple _ _ _=>exact k
 |List _ _=>exact k
 |_=>exact wpAny_pure q
theorem fS.mono {c' : br}{P:Params}{src:Src}{k:Nat}{aR:Addr}{as:List Addr}(it:fS c P h src k aR as) (h1:e8 c.im c'.im) (af:hp c.ρ c'.ρ):(∀ a∈as,∀ o,h.get? a=some o→h'.get? a=some o)→fS c' P h' src k aR as:=by
 induction it with
 |aN a b d=>exact fun e=>.aN (h1 _ _ a) (b.mono h1 af) (d.at (e _ (.head _)))
 |di a b d=>exact fun e=>let ⟨o,x,y⟩:=d;.di (h1 _ _ a) (b.mono h1 af) ⟨o,e _ (.head _) _ x,y⟩
 |ref a d=>exact fun e=>.ref (af _ _ a) (d.at (e _ (.head _)))
 |cx a=>exact fun e=>.cx (e _ (.head _) _ a)
 |rl a b d f g=>exact fun e=>.rl (h1 _ _ a) (b.mono h1 af) (d.at (e _ (.tail _ (.head _)))) (e _ (.head _) _ f) g
 |rm a d f g=>exact fun e=>.rm (af _ _ a) (d.at (e _ (.tail _ (.head _)))) (e _ (.head _) _ f) g
theorem Rr (P:aH w c ls H h) {a:Addr}(z:h.objs.size≤a) : ¬ Own c.ρ H a∧a≠c.L:=by
 refine ⟨fun x=>Nat.lt_irrefl _ (Nat.lt_of_lt_of_le (P.rep.lt x) z),?_⟩
 rintro rfl
 obtain ⟨o,e⟩:=P.wi
 exact Nat.lt_irrefl _ (Nat.lt_of_lt_of_le (Heap.lt_size e) z)
noncomputable abbrev um (w:World) (A:Around) (s:Shared) (c:br) (ls:List (Str×V)) (H:List aj) (t:PySem.Expr) (src:Src) (k:Nat) (aR:Addr) (as:List Addr) (v:V) (x:Value) (h0:Heap) (tk0:Nat):Prop :=
 ∀ xf:Unit→Shared→Prop,(∀ aK h1 az,b3 s.heap c h1 aK→aH w aK ls H h1→aF w.params aK.im aK.ρ v x→fS aK w.params h1 src (k+1) aR as→(∀ a∈as,Off aK H a)→xf () (a9 s h1 az))→wpAny (aU w) A (letOwnedTupleGo t (.ref aR) x) xf bo (a9 s h0 tk0)
theorem A2 {t:PySem.Expr}{src:Src}{k:Nat}{aR:Addr}{v:V}{x:Value}{h1:Heap}{az:Nat}{nm:String}(off:∀ a∈[aR],Off c H a) (P:aH w c ls H s.heap)
 (ak:Heap.SameBut aR s.heap h1) (r:aF w.params c.im c.ρ v x) (it:fS c w.params h1 src (k+1) aR [aR]) (c8:∃ o,h1.get? aR=some o∧o.cls=.type nm) (bc:xe.contains nm=false) :
 um w A s c ls H t src k aR [aR] v x h1 az:=by
 intro xf q
 obtain ⟨o,e,aw⟩:=c8
 refine Rq (s:=a9 s h1 az) e aw bc (q c h1 az ?_ ?_ r it off)
 ·exact .of_same ak.2 e
 ·exact P.A1 off fun b aa nb g6=>(ak.2 b fun z=>nb (by rw[z];exact .head _)).trans g6
theorem xg {aR:Addr}{as:List Addr}(m:aR∈as) (off:∀ a∈as,Off c H a) (P:aH w c ls H h) (he:Heap.ExtBut aR h h'):jE as h c h' c∧aH w c ls H h' :=
 ⟨⟨.refl,fun a o q e=>⟨o,he a o (fun z=>q (z▸m)) e⟩⟩,P.A1 off fun b aa nb g6=>he b aa (fun z=>nb (z▸m)) g6⟩
theorem Rt {elts:List PySem.Expr}{cy:Nat}{di:Pos}{src:Src}{k:Nat}{e aR:Addr}{v:V}{x:Value}{h0:Heap}{a:Addr}(off:∀ a∈[e,aR],Off c H a) (P:aH w c ls H s.heap) (ne:e≠aR) (r:aF w.params c.im c.ρ v x)
 (he:IsEnumOut h0 e aR ((k:Int)+1) x s.heap.objs.size) (hit:h0.IsListIter aR a (k+1)) (bT:h0.get? s.heap.objs.size=some {cls:=.type "tuple",data:=.seq #[.int k s.toks,x]}) (ar:∀ b o,b≠e→b≠aR→s.heap.get? b=some o→h0.get? b=some o)
 (mk:∀ aK h1,e8 c.im aK.im→aK.ρ=c.ρ→IsEnum h1 e aR ((k:Int)+1) x→h1.IsListIter aR a (k+1)→fS aK w.params h1 src (k+1) e [e,aR]) :
 um w A s c ls H (.Tuple elts cy di) src k e [e,aR] (.tup [.int k,v]) (.ref s.heap.objs.size) h0 (s.toks+1):=by
 intro xf q
 refine wpAny_letOwnedTupleGo_enum (s:=a9 s h0 (s.toks+1)) he fun h1 pz xh=>?_
 have Gk:s.heap.objs.size≠e:=fun z=>by
  obtain ⟨o,q⟩:∃ o,s.heap.get? e=some o:=by
   cases y:s.heap.get? e with
   |some o=>exact ⟨o,rfl⟩
   |none =>
    rw[←z] at he
    have:=bT.symm.trans he
    injection this with this
    injection this with t1 _ Gl
    injection t1 with t1
    exact absurd t1 (by decide)
  exact Nat.lt_irrefl _ (z▸Heap.lt_size q)
 have Gm:h1.get? s.heap.objs.size=some (hF [.int k s.toks,x] 0):=(xh.2 _ Gk).trans bT
 have Gn:h1.IsListIter aR a (k+1):=hit.at fun o y=>(xh.2 _ ne.symm).trans y
 have aX:aH w c ls H h1:=P.A1 off fun b aa nb g6=>(xh.2 b fun z=>nb (by rw[z];exact .head _)).trans (ar b aa (fun z=>nb (by rw[z];exact .head _)) (fun z=>nb (by rw[z];exact .tail _ (.head _))) g6)
 obtain ⟨aG,a4⟩:=Rr P (Nat.le_refl _)
 have b8:=aX.Fv Gm aG a4
 have l2:br.le s.heap c {c with im:=eQ c.im s.heap.objs.size (hF [.int k s.toks,x] 0)}:=aX.Fw Gm (Heap.iy (Nat.le_refl _))
 have al:lN s.heap h1:=fun b o g6=>by
  by_cases dj:b=e
  ·exact ⟨_,dj▸pz⟩
  ·by_cases et:b=aR
   ·obtain ⟨o,y,_⟩:=Gn;exact ⟨o,et▸y⟩
   ·exact ⟨o,(xh.2 b dj).trans (ar b o dj et g6)⟩
 refine q _ h1 _ ⟨l2,al⟩ b8 (.tup mP (.cons (.int _ _) (.cons (r.mono l2.im fun _ _ x=>x) .nil)) (by unfold aL;simp)) (mk _ h1 l2.im rfl pz Gn) fun b m=>?_
 refine (off b m).im rfl rfl rfl ?_
 show eQ c.im _ _ b=none
 unfold eQ
 rw[if_neg]
 ·exact (off b m).2.2.1
 ·rintro rfl
  rcases List.mem_cons.mp m with z |m
  ·exact Gk z
  ·rcases List.mem_cons.mp m with z |m
   ·obtain ⟨o,y,k2,_⟩:=hit
    rw[←z] at y
    have:=bT.symm.trans y
    injection this with this
    subst this
    injection k2 with k2
    exact absurd k2 (by decide)
   ·cases m
section
variable {t:PySem.Expr}{src:Src}{k a m:Nat}{aR e:Addr}{Q:Option Value→Shared→Prop}{vs:List V}{xs:List Value}{im:ct}{ρ:c5}{Ru:Params}
theorem A3 (bN:aW Ru im ρ vs xs) (aV:vs[k]?=none):xs.toArray[k]?=none:=by
 have:=bN.length
 simp only[List.getElem?_toArray,List.getElem?_eq_none_iff] at aV ⊢;omega
theorem A4 {x:Value}(bA:xs[k]?=some x):xs.toArray[k]?=some x:=by rw[List.getElem?_toArray];exact bA
theorem Gp (off:∀ a∈[aR],Off c st.H a) (P:aH w c ls st.H s.heap) (aE:dA A n) (ao:s.heap.get? a=some (fD xs m)) (bN:aW w.params c.im c.ρ vs xs) (hit:s.heap.IsListIter aR a k) (mk:∀ h',h'.IsListIter aR a (k+1)→fS c w.params h' src (k+1) aR [aR])
 (fq:∀ h',vs[k]?=none→jE [aR] s.heap c h' c→aH w c ls st.H h'→Q none (a9 s h' s.toks)) (dJ:∀ v x h0 tk0,vs[k]?=some v→um w A s c ls st.H t src k aR [aR] v x h0 tk0→Q (some x) (a9 s h0 tk0)):wpAny (aU w) A (pyNext (.ref aR)) Q bo s:=by
 cases aV:vs[k]? with
 |none=>exact wpAny_pyNext_list_end aE.h hit (listAt ao) (A3 bN aV) fun h' he=>let ⟨a,b⟩:=xg (.head _) off P he;fq h' aV a b
 |some v =>
  obtain ⟨x,bA,r⟩:=bN.get aV
  exact wpAny_pyNext_list_item hit (listAt ao) (A4 bA) fun h' gH ak=>dJ v x h' s.toks aV (A2 (nm:="list_iterator") off P ak r (mk h' gH) (let ⟨o,e,f,_⟩:=gH;⟨o,e,f⟩) (by decide))
theorem Rv (bT:z7 t=true):∃ aD q p,t=.Tuple aD q p:=by
 cases t <;> first |exact ⟨_,_,_,rfl⟩ |exact dv bT
theorem Gq {old:Value}(off:∀ a∈[e,aR],Off c st.H a) (P:aH w c ls st.H s.heap) (aE:dA A n) (bT:z7 t=true) (ao:s.heap.get? a=some (fD xs m)) (bN:aW w.params c.im c.ρ vs xs) (hit:s.heap.IsListIter aR a k) (rt:IsEnum s.heap e aR (k:Int) old) (ne:e≠aR)
 (mk:∀ aK h1,e8 c.im aK.im→aK.ρ=c.ρ→∀ x,IsEnum h1 e aR ((k:Int)+1) x→h1.IsListIter aR a (k+1)→fS aK w.params h1 src (k+1) e [e,aR])
 (fq:∀ h',vs[k]?=none→jE [e,aR] s.heap c h' c→aH w c ls st.H h'→Q none (a9 s h' s.toks)) (dJ:∀ v x h0 tk0,vs[k]?=some v→um w A s c ls st.H t src k e [e,aR] (.tup [.int k,v]) x h0 tk0→Q (some x) (a9 s h0 tk0)):wpAny (aU w) A (pyNext (.ref e)) Q bo s:=by
 obtain ⟨aD,q,p,rfl⟩:=Rv bT
 cases aV:vs[k]? with
 |none=>exact wpAny_pyNext_enum_end aE.h rt hit (listAt ao) (A3 bN aV) fun h' he=>let ⟨a,b⟩:=xg (.tail _ (.head _)) off P he;fq h' aV a b
 |some v =>
  obtain ⟨x,bA,r⟩:=bN.get aV
  exact wpAny_pyNext_enum_item rt hit (listAt ao) (A4 bA) ne fun h' oh gH Rw bZ ar=>dJ _ _ h' _ aV (Rt off P ne r oh gH Rw ar fun aK h1 l1 l2 a b=>mk aK h1 l1 l2 _ a b)
end
theorem Gr {α:Type}{r:Nat}{H:List aj}{f:List V→α}{o:α}(h:(match H[r]? with |some (.list vs)=>some (f vs) |_=>none)=some o):∃ vs,H[r]?=some (.list vs)∧f vs=o:=by
 split at h
 ·exact ⟨_,‹_›,cb h⟩
 ·exact ba h
theorem xi {t:PySem.Expr}{src:Src}{k:Nat}{aR:Addr}{as:List Addr}{o:Option V}{Q:Option Value→Shared→Prop}
 (it:fS c w.params s.heap src k aR as):(∀ a∈as,Off c st.H a)→aH w c ls st.H s.heap→itemAt src k st.H=some o→dA A n→iY src t=true →
 (∀ h',o=none→jE as s.heap c h' c→aH w c ls st.H h'→Q none (a9 s h' s.toks)) →
 (∀ v x h0 tk0,o=some v→um w A s c ls st.H t src k aR as v x h0 tk0→Q (some x) (a9 s h0 tk0)) →
 wpAny (aU w) A (pyNext (.ref aR)) Q bo s:=by
 induction it with
 |aN im bN hit=>exact fun off P aM aE bT fq dJ=>Gp off P aE (P.rep.cM im) bN hit (fun h' gH=>.aN im bN gH) (fun h' q=>fq h' ((cb aM).symm.trans q)) fun v x h0 az q=>dJ v x h0 az ((cb aM).symm.trans q)
 | @di vs xs a aR k m im bN hit =>
  intro off P aM aE bT fq dJ
  have hl:s.heap.IsTuple a xs.toArray:=⟨_,P.rep.cM im,rfl,_,rfl⟩
  cases aV:vs[k]? with
  |none=>exact wpAny_pyNext_tuple_end aE.h hit hl (A3 bN aV) fun h' he=>let ⟨a,b⟩:=xg (.head _) off P he;fq h' ((cb aM).symm.trans aV) a b
  |some v =>
   obtain ⟨x,bA,r⟩:=bN.get aV
   exact wpAny_pyNext_tuple_item hit hl (A4 bA) fun h' gH ak=>dJ v x h' s.toks ((cb aM).symm.trans aV) (A2 (nm:="tuple_iterator") off P ak r (.di im bN gH) (let ⟨o,e,f,_⟩:=gH;⟨o,e,f⟩) (by decide))
 |ref a3 hit =>
  intro off P aM aE bT fq dJ
  obtain ⟨vs,jH,e⟩:=Gr aM
  obtain ⟨xs,m,ao,bN,_⟩:=P.rep.at_ a3 jH
  exact Gp off P aE ao bN hit (fun h' gH=>.ref a3 gH) (fun h' q=>fq h' (e.symm.trans q)) fun v x h0 az q=>dJ v x h0 az (e.symm.trans q)
 | @cx lo gH aR k hit =>
  intro off P aM aE bT fq dJ
  cases z:decide (lo+(k:Int)<gH) with
  |true =>
   have e:some (V.int (lo+k))=o:=by
    have h:(match decide (lo+(k:Int)<gH) with |true=>some (some (V.int (lo+k))) |false=>some none)=some o:=aM
    rw[z] at h;exact cb h
   have z:=of_decide_eq_true z
   refine wpAny_pyNext_range_item hit (by omega) fun h' gH ak=>dJ _ _ h' (s.toks+1) e.symm ?_
   refine A2 (nm:="range_iterator") off P ak (.int _ _) (.cx ?_) ⟨_,gH,rfl⟩ (by decide)
   have ao:lo+((k+1:Nat):Int)=lo+k+1:=by omega
   have aC:∀ aM:Int,aM - lo - ((k+1:Nat):Int)=aM - lo - k - 1:=fun aM=>by omega
   rw[ao,aC]
   exact gH
  |false =>
   have e:none=o:=by
    have h:(match decide (lo+(k:Int)<gH) with |true=>some (some (V.int (lo+k))) |false=>some none)=some o:=aM
    rw[z] at h;exact cb h
   have z:=of_decide_eq_false z
   exact wpAny_pyNext_range_end aE.h hit (by omega) fun h' he=>let ⟨a,b⟩:=xg (.head _) off P he;fq h' e.symm a b
 | @rl vs xs a e aR k m old im bN hit rt ne =>
  intro off P aM aE bT fq dJ
  have e:=cb aM
  exact Gq off P aE bT (P.rep.cM im) bN hit rt ne (fun aK h1 l1 l2 x a b=>.rl (l1 _ _ im) (bN.mono l1 fun _ _ y=>by rw[l2];exact y) b a ne) (fun h' q=>fq h' (by rw[←e,q];rfl)) fun v x h0 az q=>dJ _ x h0 az (by rw[←e,q];rfl)
 |rm a3 hit rt ne =>
  intro off P aM aE bT fq dJ
  obtain ⟨vs,jH,e⟩:=Gr aM
  obtain ⟨xs,m,ao,bN,_⟩:=P.rep.at_ a3 jH
  exact Gq off P aE bT ao bN hit rt ne (fun aK h1 l1 l2 x a b=>.rm (by rw[l2];exact a3) b a ne) (fun h' q=>fq h' (by rw[←e,q];rfl)) fun v x h0 az q=>dJ _ x h0 az (by rw[←e,q];rfl)
end
end
section
variable {w:World}{R:dO}{A:Around}{c:br}{st st' : ax}{s:Shared}{ls:List (Str×V)}{n:Nat}{fr:a5}{env:Env}{H:List aj}{h h' : Heap}
theorem xj {α:Type}{m:Sem α}{Q:α→Shared→Prop}{E:Value→Shared→Prop}(h:wpAny (aU w) A m Q bo s):wpAny (aU w) A m Q E s:=wpAny_mono h (fun _ _ x=>x) fun _ _ x=>x.elim
theorem Gs {target:PySem.Expr}{it:Value}{body orelse:List Stmt}{Y:Result→Shared→Prop}
 (h:wpAny (aU w) A (pyNext it) (fun r dP=>match r with
  |none=>wpAny (aU w) A (execs orelse env) (fun f gI=>Y (.ok f) gI) bo dP
  |some v=>wpAny (aU w) A (letOwnedTupleGo target it v) (fun _ uo=>wpAny (aU w) A (assign target env v) (fun _ jF=>wpAny (aU w) A (execs body env) (fun f gI=>match f with
   |.next |.cont=>codeAny (aU w) A (.forLoop target it body orelse env) Y gI
   |.brk=>Y (.ok .next) gI
   |.ret v=>Y (.ok (.ret v)) gI) bo jF) bo uo) bo dP) bo s):codeAny (aU w) A (.forLoop target it body orelse env) Y s:=by
 refine codeAny_of_tree ?_
 show wpAny _ A ((forTurn target it body orelse env).onRaise (fun x=>do noteFrame x env;theTreesLotGoes x)) _ _ s
 refine wpAny_noted ?_
 simp only[forTurn]
 refine wpAny_bind (wpAny_standAt (wpAny_bind (wpAny_onRaise (wpAny_mono h (fun r dP k3=>?_) fun _ _ h'=>h'.elim))))
 cases r with
 |none=>exact wpAny_pure ⟨rfl,codeAny_block (xj k3)⟩
 |some v =>
  refine wpAny_bind (wpAny_mono k3 (fun _ uo A5=>?_) fun _ _ h'=>h'.elim)
  refine wpAny_bind (wpAny_mono A5 (fun _ jF oe=>wpAny_bind (wpAny_mono oe (fun f gI kn=>?_) fun _ _ h'=>h'.elim)) fun _ _ h'=>h'.elim)
  cases f with
  |next=>exact wpAny_pure ⟨rfl,kn⟩
  |cont=>exact wpAny_pure ⟨rfl,kn⟩
  |brk=>exact wpAny_pure kn
  |ret v=>exact wpAny_pure kn
theorem Gu {test:PySem.Expr}{body orelse:List Stmt}{Y:Result→Shared→Prop}
 (h:wpAny (aU w) A (isTrue test env (eval test env)) (fun b dP=>match b with
  |false=>wpAny (aU w) A (execs orelse env) (fun f gI=>Y (.ok f) gI) bo dP
  |true=>wpAny (aU w) A (execs body env) (fun f gI=>match f with
   |.next |.cont=>codeAny (aU w) A (.whileLoop test body orelse env) Y gI
   |.brk=>Y (.ok .next) gI
   |.ret v=>Y (.ok (.ret v)) gI) bo dP) bo s):codeAny (aU w) A (.whileLoop test body orelse env) Y s:=by
 refine codeAny_of_tree ?_
 show wpAny _ A ((whileTurn test body orelse env).onRaise (fun x=>do noteFrame x env;theTreesLotGoes x)) _ _ s
 refine wpAny_noted ?_
 simp only[whileTurn]
 refine wpAny_bind (wpAny_mono h (fun b jF oe=>?_) fun _ _ h'=>h'.elim)
 cases b with
 |false =>
  simp only[Bool.false_eq_true,if_false]
  exact wpAny_bind (wpAny_mono oe (fun f gI A6=>wpAny_pure A6) fun _ _ h'=>h'.elim)
 |true =>
  simp only[if_true]
  refine wpAny_bind (wpAny_mono oe (fun f gI kn=>?_) fun _ _ h'=>h'.elim)
  cases f with
  |next=>exact wpAny_pure ⟨rfl,kn⟩
  |cont=>exact wpAny_pure ⟨rfl,kn⟩
  |brk=>exact wpAny_pure kn
  |ret v=>exact wpAny_pure kn
theorem ru {a b:Addr}{o:Obj}(e:h.get? a=some o) (m:b∈[a]):h.get? b≠none:=fun z=>by rw[List.mem_singleton.mp m,e] at z;exact ba z.symm
theorem Gv {a a' b:Addr}{o o' : Obj}(e:h.get? a=some o) (c9:h.get? a'=some o') (m:b∈[a,a']):h.get? b≠none:=(List.mem_cons.mp m).elim (fun z=>z▸ru e (.head _)) (ru c9)
theorem fS.here {P:Params}{src:Src}{k:Nat}{aR:Addr}{as:List Addr}(it:fS c P h src k aR as):∀ a∈as,h.get? a≠none:=by
 induction it with
 |aN a b d=>obtain ⟨o,x,_⟩:=d;exact fun a=>ru x
 |di a b d=>obtain ⟨o,x,_⟩:=d;exact fun a=>ru x
 |ref a d=>obtain ⟨o,x,_⟩:=d;exact fun a=>ru x
 |cx d=>exact fun a=>ru d
 |rl a b d f g=>obtain ⟨o,x,_⟩:=d;exact fun a=>Gv f x
 |rm a d f g=>obtain ⟨o,x,_⟩:=d;exact fun a=>Gv f x
theorem jD.kept {P:Params}{f:cD}{g:Flow}{K:ct}(r:jD c P f g):jD {c with kept:=K} P f g:=by cases r <;> constructor;assumption
theorem Gw {f:cD}{fQ:ax}{again:Option (cD×List (Str×V)×ax)}(h:ae (fun z=>z.2.2.aa→fQ.aa) again):ae (fun z=>z.2.2.aa→fQ.aa) (tO f ls fQ again):=by
 cases f with
 |brk=>exact ae.bO fun o=>o
 |ret v=>exact ae.bO fun o=>o
 |_=>exact h
noncomputable def Rx (w:World) (c:br) (s:Shared) (f:cD) (ls:List (Str×V)) (fQ:ax) (again:Option (cD×List (Str×V)×ax)) (cd:(Result→Shared→Prop)→Prop) (z:cD×List (Str×V)×ax):Prop :=
 ∀(Y:Result→Shared→Prop) (g:Flow),jD c w.params f g→aH w c ls fQ.H s.heap→(∀ g,aH w c z.2.1 z.2.2.H s.heap→jD c w.params z.1 g→Y (.ok g) s)→(again=some z→cd Y)→match g with |.next |.cont=>cd Y |.brk=>Y (.ok .next) s |.ret v=>Y (.ok (.ret v)) s
theorem Gx {f:cD}{fQ:ax}{again:Option (cD×List (Str×V)×ax)}{cd:(Result→Shared→Prop)→Prop}:ae (Rx w c s f ls fQ again cd) (tO f ls fQ again):=by
 intro z h Y g aN P k a
 cases aN with
 |next=>exact a h
 |cont=>exact a h
 |brk=>rw[←cb h] at k;exact k _ P .next
 |ret r=>rw[←cb h] at k;exact k _ P (.ret r)
theorem Ry (S:bP w R) {t:PySem.Expr}{src:Src}{k:Nat}{body:List Stmt}:ae (FR w n fr t src k body st) (Aj R n fr t src k body st) :=
 ae.de fun bT=>ae.b fun o aM=>by
  cases o with
  |none=>exact ae.bO ⟨fun o=>o,fun aa A c env s aR as Y aE F P it off cy=>Gs (xi (t:=t) it off P aM aE bT (fun h' e aG aX=>wpAny_execs_nil (cy c h' _ _ aG aX .next)) fun v x h0 tk0 e np=>ba e)⟩
  |some v =>
   refine ae.b fun x h1=>ae.b fun y af z h=>?_
   have eg:z.2.2.aa→y.2.2.aa:=Gw (fun z h=>(S.t9 z h).1) z h
   refine ⟨fun o=>S.ua h1 (S.m1 af (eg o)),fun aa A c env s aR as Y aE F P it off cy=>Gs (xi (t:=t) it off P aM aE bT (fun h' e aG aX=>ba e.symm) fun pa gp h0 tk0 e np=>?_)⟩
   rw[←cb e] at np
   refine np _ fun aK bX bK aG aX r pA uq=>?_
   refine S.as (s:=a9 s bX bK) h1 (S.m1 af (eg aa)) aE (F.cA aG).kept (aX.hold uq) r fun bw cu cU a4 b8=>?_
   refine S.ex (s:=a9 s cu cU) af (eg aa) aE (((F.cA aG).kept.cA a4).ls x.1) b8 fun da i3 g0 g c4 P3 aN=>?_
   obtain ⟨l4,dN,fZ⟩:=aX.w7 uq P3 (a4.trans c4)
   exact Gx (s:=a9 s i3 g0) (cd:=fun Y=>codeAny (aU w) A (.forLoop t (.ref aR) body [] env) Y (a9 s i3 g0)) z h Y g aN.kept l4 (fun g h9 jI=>cy _ _ _ g (aG.trans dN).nb h9 jI)
    fun h=>(S.t9 z h).2 aa (s:=a9 s i3 g0) Y aE ((F.cA (aG.trans dN)).ls y.2.1) l4 (pA.mono dN.le.im dN.le.ρ fun a m o e=>(fZ a m (pA.here a m)).2.trans e) (fun a m=>(fZ a m (pA.here a m)).1) fun c' h' az g hE Rz RA=>cy c' h' az g ((aG.trans dN).FQ hE) Rz RA
theorem RB (S:bP w R) {t:PySem.Expr}{body:List Stmt}:ae (AN w n fr t body st) (EY R n fr t body st):=ae.b fun q h1=>by
 obtain ⟨q,s1⟩:=q
 cases q with
 |false=>exact ae.bO ⟨fun o=>S.iF h1 o,fun aa A c env s Y aE F P cy=>Gu (S.es h1 aa aE F P fun aK bX bK aG aX=>wpAny_execs_nil (cy aK bX _ _ aG aX .next))⟩
 |true =>
  refine (ae.b fun y af z h=>?_:ae (AN w n fr t body st) ((R.ex n fr body s1).bind fun y=>tO y.1 y.2.1 y.2.2 (R.tE n {fr with ls:=y.2.1} t body y.2.2)))
  have eg:z.2.2.aa→y.2.2.aa:=Gw (fun z h=>(S.wX z h).1) z h
  refine ⟨fun o=>S.iF h1 (S.m1 af (eg o)),fun aa A c env s Y aE F P cy=>Gu (S.es h1 (S.m1 af (eg aa)) aE F P fun aK bX bK aG aX=>?_)⟩
  refine S.ex (s:=a9 s bX bK) af (eg aa) aE (F.cA aG) aX fun da i3 g0 g c4 P3 aN=>?_
  have ey:=aG.trans c4
  exact Gx (s:=a9 s i3 g0) (cd:=fun Y=>codeAny (aU w) A (.whileLoop t body [] env) Y (a9 s i3 g0)) z h Y g aN P3 (fun g h9 jI=>cy _ _ _ g ey h9 jI) fun h=>(S.wX z h).2 aa (s:=a9 s i3 g0) Y aE ((F.cA ey).ls y.2.1) P3 (cy.h8 ey)
theorem Gy {elt target iter:PySem.Expr}{ifs:List PySem.Expr}{scope:Scope}{pos:Pos}{it acc:Value}{Y:Result→Shared→Prop}
 (h:wpAny (aU w) A (pyNext it) (fun r dP=>match r with
  |none=>Y (.ok .next) dP
  |some v=>wpAny (aU w) A (letOwnedTupleGo target it v) (fun _ uo=>wpAny (aU w) A (assign target env v) (fun _ jF=>wpAny (aU w) A (forIn ifs true fun c r=>if r=true then do let ok ←isTrue c env (eval c env);pure (ForInStep.yield ok) else pure (ForInStep.yield r)) (fun ok gI=>match ok with
   |true=>wpAny (aU w) A (eval elt env) (fun x xk=>wpAny (aU w) A (call (.builtin "list.append") [acc,x]) (fun _ Gz=>codeAny (aU w) A (.compLoop (.ListComp elt [⟨target,iter,ifs,0⟩] scope pos) 0 it acc env) Y Gz) bo xk) bo gI
   |false=>codeAny (aU w) A (.compLoop (.ListComp elt [⟨target,iter,ifs,0⟩] scope pos) 0 it acc env) Y gI) bo jF) bo uo) bo dP) bo s) :
 codeAny (aU w) A (.compLoop (.ListComp elt [⟨target,iter,ifs,0⟩] scope pos) 0 it acc env) Y s:=by
 refine codeAny_of_tree ?_
 show wpAny _ A ((compTurn (.ListComp elt [⟨target,iter,ifs,0⟩] scope pos) 0 it acc env).onRaise (fun x=>do noteFrame x env;theTreesLotGoes x)) _ _ s
 refine wpAny_noted ?_
 rw[compTurn_list]
 refine wpAny_bind (wpAny_standAt (wpAny_bind (wpAny_mono h (fun r dP k3=>?_) fun _ _ h'=>h'.elim)))
 cases r with
 |none=>exact wpAny_pure k3
 |some v =>
  refine wpAny_bind (wpAny_mono k3 (fun _ uo A5=>?_) fun _ _ h'=>h'.elim)
  refine wpAny_bind (wpAny_mono A5 (fun _ jF oe=>wpAny_bind (wpAny_mono oe (fun ok gI kn=>?_) fun _ _ h'=>h'.elim)) fun _ _ h'=>h'.elim)
  cases ok with
  |false=>exact wpAny_pure ⟨rfl,kn⟩
  |true =>
   exact wpAny_bind (wpAny_bind (wpAny_mono kn (fun x xk A6=>wpAny_bind (wpAny_mono A6 (fun _ Gz RC=>wpAny_pure (wpAny_pure ⟨rfl,RC⟩)) fun _ _ h'=>h'.elim)) fun _ _ h'=>h'.elim))
theorem RD (S:bP w R) {ifs:List PySem.Expr}:ae (fun q=>q.2.aa→st.aa) (wC R n fr ifs st):=by
 cases ifs with
 |nil=>exact ae.bO fun o=>o
 |cons a r=>cases r with
  |nil=>exact fun q h o=>S.iF h o
  |cons _ _=>exact ae.no
theorem RE (S:bP w R) {ifs:List PySem.Expr}(aE:dA A n) (F:cO c fr env) (P:aH w c fr.ls st.H s.heap) {Q:Bool→Shared→Prop}:ae (fun q=>q.2.aa→AM w c fr.ls s q.1 q.2 Q→wpAny (aU w) A (forIn ifs true fun c r=>if r=true then do let ok ←isTrue c env (eval c env);pure (ForInStep.yield ok) else pure (ForInStep.yield r)) Q bo s) (wC R n fr ifs st):=by
 cases ifs with
 |nil=>exact ae.bO fun _ k=>wpAny_tests_nil (k c _ s.toks .refl P)
 |cons a r=>cases r with
  |nil=>exact fun q h aa k=>wpAny_tests_one (S.es h aa aE F P k)
  |cons _ _=>exact ae.no
noncomputable def RF (elt t:PySem.Expr) (ifs:List PySem.Expr) (R:dO) (n:Nat) (fr:a5) (src:Src) (k acc:Nat) (q:Bool×ax) (st' : ax):Prop:=(q.1=false∧R.dz n fr elt t ifs src (k+1) acc q.2=some st') ∨
 (q.1=true∧∃ y xs,R.ev n fr elt q.2=some y∧y.2.H[acc]?=some (.list xs)∧R.dz n fr elt t ifs src (k+1) acc ⟨y.2.H.set acc (.list (xs++[y.1])),y.2.aa∧xs.length<aL⟩=some st')
theorem RG {elt t:PySem.Expr}{ifs:List PySem.Expr}{src:Src}{k acc:Nat}{q:Bool×ax}:ae (RF elt t ifs R n fr src k acc q) (bif q.1 then (R.ev n fr elt q.2).bind fun y=>(eF y.2.H[acc]?).bind fun xs=>R.dz n fr elt t ifs src (k+1) acc ⟨y.2.H.set acc (.list (xs++[y.1])),y.2.aa∧xs.length<aL⟩ else R.dz n fr elt t ifs src (k+1) acc q.2) :=
 ae.c (fun dk=>ae.b fun y h1=>ae.b fun xs af z h=>.inr ⟨dk,y,xs,h1,kY af,h⟩) fun dk z h=>.inl ⟨dk,h⟩
theorem RH (S:bP w R) {elt t:PySem.Expr}{ifs:List PySem.Expr}{src:Src}{k acc:Nat}:ae (FT w n fr elt t ifs src k acc st) (Ak R n fr elt t ifs src k acc st) :=
 ae.de fun bT=>ae.b fun o aM=>by
  obtain ⟨bc,bT⟩:=Bool.and_eq_true_iff.mp bT
  cases o with
  |none=>exact ae.bO ⟨fun o=>o,fun aa A c env s aR as x it sc pos Y aE F P it off n7 cy=>Gy (xi (t:=t) it off P aM aE bT (fun h' e aG aX=>cy c h' _ _ aG aX _) fun v x h0 tk0 e np=>ba e)⟩
  |some v =>
   refine ae.b fun df h1=>ae.b fun q af st' h=>?_
   have h:=RG st' h
   have eg:st'.aa→q.2.aa:=fun o=>h.elim (fun h=>S.uc h.2 o) fun h=>by obtain ⟨_,y,xs,aB,_,dB⟩:=h;exact S.dm aB (S.uc dB o).1
   have e5:=RD S q af
   refine ⟨fun o=>S.ua h1 (e5 (eg o)),fun aa A c env s aR as x RI sc pos Y aE F P it off n7 cy=>Gy (xi (t:=t) it off P aM aE bT (fun h' e aG aX=>ba e.symm) fun pa y h0 tk0 e np=>?_)⟩
   rw[←cb e] at np
   refine np _ fun aK bX bK aG aX r pA uq=>?_
   refine S.as (s:=a9 s bX bK) h1 (e5 (eg aa)) aE (F.cA aG).kept (aX.hold uq) r fun bw cu cU a4 b8=>?_
   have last:∀{A7:ax}{jC:br}{ur:Heap}{A8:Nat},b3 cu bw ur jC→aH w jC df.1 A7.H ur→R.dz n {fr with ls:=df.1} elt t ifs src (k+1) acc A7=some st'→codeAny (aU w) A (.compLoop (.ListComp elt [⟨t,RI,ifs,0⟩] sc pos) 0 (.ref aR) x env) Y (a9 s ur A8):=by
    intro A7 jC ur A8 ey h9 h
    obtain ⟨l4,dN,fZ⟩:=aX.w7 uq h9 (a4.trans ey)
    exact (S.AO st' h).2 aa (s:=a9 s ur A8) Y aE ((F.cA (aG.trans dN)).ls df.1) l4 (pA.mono dN.le.im dN.le.ρ fun a m o e=>(fZ a m (pA.here a m)).2.trans e) (fun a m=>(fZ a m (pA.here a m)).1) (n7.cA (aG.trans dN)) fun c' h' az bM vM RJ g=>cy c' h' az bM ((aG.trans dN).FQ vM) RJ g
   refine RE S (s:=a9 s cu cU) aE (((F.cA aG).kept.cA a4).ls df.1) b8 q af (eg aa) fun da i3 g0 c4 P3=>?_
   rcases h with ⟨dk,h⟩ |⟨dk,u,zs,aB,bZ,h⟩
   ·rw[dk];exact last c4 P3 h
   ·rw[dk]
    have rv:=S.uc h aa
    refine S.ev (s:=a9 s i3 g0) aB rv.1 aE (((F.cA aG).kept.cA (a4.trans c4)).ls df.1) P3 fun iD RK RL z dN l4 v4=>?_
    have RM:aF w.params iD.im iD.ρ (.ref acc) x:=n7.mono (fun _ _ e=>dN.le.im _ _ (c4.le.im _ _ (a4.le.im _ _ (aG.le.im _ _ e)))) (fun _ _ e=>dN.le.ρ _ _ (c4.le.ρ _ _ (a4.le.ρ _ _ (aG.le.ρ _ _ e))))
    exact FP (s:=a9 s RK RL) l4 bZ RM v4 rv.2 fun h' ey h9=>last ((c4.trans dN).trans ey) h9 h
end
section
variable {w:World}{R:dO}{A:Around}{c:br}{st st' : ax}{s:Shared}{ls:List (Str×V)}{n:Nat}{fr:a5}{env:Env}{H:List aj}{h h' : Heap}
theorem GA {P:Addr}(X:eP w h) (a3:P≠4):h.BuiltinsAt (gl w) P :=
 ⟨4,fZ w.params,(Ax w _).trans (by kernel_rfl),by decide,by decide,fun e=>a3 e.symm,X 4 (fZ w.params) (by kernel_rfl) (by kernel_rfl) (by kernel_rfl),by kernel_rfl,by kernel_rfl,by kernel_rfl⟩
theorem hq.triples {im:ct}{q:Str}{ps:List (Nat×Nat)}{xs:List Value}(h:hq im q ps xs):TriplesOk xs:=hq.rec (motive:=fun _ xs _=>TriplesOk xs) trivial (fun _ _ aI=>aI) h
noncomputable def GB (im:ct) (q:Str) (pos:Pos) (ps:List (Nat×Nat)) (xs:List Value):Prop:=(ps.contains (pos.line,pos.col)=true∧∃ a,codeAmong pos xs=some (.ref a)∧mL im a q)∨(ps.contains (pos.line,pos.col)=false∧codeAmong pos xs=none)
theorem RN {pos:Pos}{l c a:Nat}{xs:List Value}:codeAmong pos (rawInt l::rawInt c::.ref a::xs)=if ((l:Int) == pos.line&&(c:Int) == pos.col)=true then some (.ref a) else codeAmong pos xs:=rfl
theorem hq.among {im:ct}{q:Str}{pos:Pos}{ps:List (Nat×Nat)}{xs:List Value}(h:hq im q ps xs):GB im q pos ps xs:=by
 induction h with
 |nil=>exact .inr ⟨rfl,rfl⟩
 | @cons l c a ps xs h b aI =>
  unfold GB
  rw[RN,List.contains_cons]
  by_cases e:l=pos.line∧c=pos.col
  ·rw[e.1,e.2,if_pos (by simp),beq_self_eq_true]
   exact .inl ⟨rfl,a,rfl,h⟩
  ·rw[if_neg (fun z=>e (by simp only[Bool.and_eq_true,beq_iff_eq] at z;exact ⟨Int.ofNat_inj.mp z.1,Int.ofNat_inj.mp z.2⟩)),show ((pos.line,pos.col) == (l,c))=false from beq_false_of_ne fun z=>e ⟨(Prod.mk.inj z).1.symm,(Prod.mk.inj z).2.symm⟩,Bool.false_or]
   exact aI
theorem hq.snoc {im:ct}{q:Str}{a l c:Nat}(z:mL im a q) {ps:List (Nat×Nat)}{xs:List Value}(h:hq im q ps xs):hq im q (ps++[(l,c)]) (xs++[rawInt l,rawInt c,.ref a]) :=
 hq.rec (motive:=fun ps xs _=>hq im q (ps++[(l,c)]) (xs++[rawInt l,rawInt c,.ref a])) (.cons z .nil) (fun h _ aI=>.cons h aI) h
theorem aH.RO (P:aH w c ls H h) {i:Nat}{p:Addr×Addr}{o o' : aj}{im' : ct}{iC:Obj}(a3:c.ρ[i]?=some p) (c8:H[i]?=some o) (A9:h.get? p.1=some iC) (dn:o.dW p=[p.1]) (e:o'.dW p=o.dW p) (ar:∀ b aa,b≠p.1→h.get? b=some aa→h'.get? b=some aa)
 (b2:∃ aa,h'.get? p.1=some aa) (h1:e8 c.im im') (af:∀ a o,im' a=some o→c.im a=some o∨(h.objs.size≤a∧h'.get? a=some o)) (bR:gU w im' c.ρ h' p o'):aH w {c with im:=im'} ls (H.set i o') h':=by
 obtain ⟨e5,b2⟩:=b2
 have g1:(h'.update p.1 fun _=>iC).get? p.1=some iC:=AD (f:=fun _=>iC) b2 (Heap.get?_some_iff.mp A9).2
 have aX:aH w {c with im:=im'} ls H (h'.update p.1 fun _=>iC):=P.grow (fun b aa q=>by
  by_cases z:b=p.1
  ·subst z;rw[A9] at q;obtain rfl:=cb q;exact g1
  ·exact (n4 z).trans (ar b aa z q)) h1 fun a o q=>(af a o q).imp id fun ⟨x,y⟩=>⟨x,(n4 fun z=>by rw[z] at x;exact Nat.lt_irrefl _ (Nat.lt_of_lt_of_le (Heap.lt_size A9) x)).trans y⟩
 refine aX.upd a3 c8 e (fun b aa nb q=>?_) bR
 rw[dn] at nb
 exact (n4 fun z=>nb (by rw[z];exact .head _)).symm.trans q
theorem GC {im:ct}{a:Addr}{o:Obj}{vs:Array Value}{t:Tok}{q:Str}(e:im a=some o) (h1:o.data=.fields vs) (af:vs[1]?=some (.str q t)):mL im a q:=⟨o,vs,t,e,h1,af⟩
theorem GD {im:ct}{a b:Addr}{o aa:Obj}{G:Prop}(e:eQ im a o b=some aa) (dJ:b=a→o=aa→G) (eu:im b=some aa→G):G:=by
 unfold eQ at e
 split at e
 ·exact dJ ‹_› (cb e)
 ·exact eu e
structure Ba (w:World) (c:br) (ls:List (Str×V)) (H:List aj) (s:Shared) (env:Env) (i:Nat) (p:Addr×Addr) (cd:Addr) (rows:List (Nat×Nat)) (xs:List Value):Prop where
 P:aH w c ls H s.heap
 glob:env.globals=3
 xl:env.code=.ref cd
 C:CodeHd s.heap cd p.1
 iv:c.ρ[i]?=some p
 aM:H[i]?=some (.tab (env.qual ++ "<lambda>") rows)
 ao:s.heap.get? p.1=some (tabObj xs.toArray)
 rx:hq c.im (env.qual ++ "<lambda>") rows xs
 c4:(3:Addr)≠p.1
 dN:p.1≠(4:Addr)
section
variable {ps:Arguments}{body:PySem.Expr}{sc:Scope}{pos:Pos}{rows:List (Nat×Nat)}{i:Nat}{p:Addr×Addr}{cd:Addr}{xs:List Value}{Q:Value→Shared→Prop}{aa:Prop}
theorem RP (L:Ba w c ls H s env i p cd rows xs) {ca:Addr}(ry:closureFor sc env=pure []) (dC:codeAmong pos xs=some (.ref ca)) (gu:mL c.im ca (env.qual ++ "<lambda>")) (k:kl w c ls s (.lam ps body sc) ⟨H,aa⟩ Q) :
 wpAny (aU w) A (makeFunction "<lambda>" (env.qual ++ "<lambda>") ps (.expr body) sc env [] [] [] pos pos.line) Q bo s :=
 have X:eP w s.heap:=mV L.P.dh fun _ _=>L.P.rep.cM
 kla_makeFunctionHit (mg:=gl w) ry L.glob (vN X) L.xl L.C L.ao L.rx.triples dC (GA X L.dN) fun kS h' az ar bZ=>by
  obtain ⟨b8,l2⟩:=(L.P.ui ar).tA {cls:=.type "function",data:=.func (kla_fn "<lambda>" (env.qual ++ "<lambda>") ps body sc [] ((gl w "__name__").getD .none) (.ref ca) kS)} rfl
  exact k _ _ _ _ ((b3.keep ar).trans ⟨l2,.push _⟩) b8 (.lam ⟨_,_,_,_,_,mP,gu.mono l2.im⟩)
theorem RQ (L:Ba w c ls H s env i p cd rows xs) (ry:closureFor sc env=pure []) (dC:codeAmong pos xs=none) (k:kl w c ls s (.lam ps body sc) ⟨H.set i (.tab (env.qual ++ "<lambda>") (rows++[(pos.line,pos.col)])),aa⟩ Q) :
 wpAny (aU w) A (makeFunction "<lambda>" (env.qual ++ "<lambda>") ps (.expr body) sc env [] [] [] pos pos.line) Q bo s:=by
 have X:eP w s.heap:=mV L.P.dh fun _ _=>L.P.rep.cM
 refine kla_makeFunction (mg:=gl w) ry L.glob (vN X) L.xl L.C L.ao L.rx.triples dC L.c4 (GA X L.dN) fun c' kS h' az bA Bb iG RS Bc=>?_
 obtain ⟨bw,tX,vs,t,aC,RT,hd,aV⟩:=RS
 have aC:c'=bw:=Value.ref.inj aC
 subst aC
 have l1:e8 c.im (eQ c.im c' tX):=z3 (L.P.Ep Bb)
 have aX:=L.P.RO (o':=.tab (env.qual ++ "<lambda>") (rows++[(pos.line,pos.col)])) (h':=h') L.iv L.aM L.ao rfl rfl (fun b aa nb e=>bA b aa nb e) ⟨_,Bc⟩ l1 (fun a o e=>GD e (fun dj et=>.inr ⟨dj▸Bb,dj▸et▸RT⟩) .inl)
  ⟨xs++[rawInt pos.line,rawInt pos.col,.ref c'],by rw[Bc];simp,(L.rx.mono l1).snoc (GC mP hd aV)⟩
 have aG:b3 s.heap c h' {c with im:=eQ c.im c' tX}:=⟨⟨rfl,rfl,l1,fun _ _ e=>e,fun a o e=>GD e (fun z _=>.inr (.inl (z▸Heap.iy Bb))) .inl⟩,fun b o e=>by
  by_cases z:b=p.1
  ·exact ⟨_,z▸Bc⟩
  ·exact ⟨o,bA b o z e⟩⟩
 obtain ⟨b8,l2⟩:=aX.tA (kla_obj "<lambda>" (env.qual ++ "<lambda>") ps body sc [] ((gl w "__name__").getD .none) c' kS) rfl
 exact k _ _ _ _ (aG.trans ⟨l2,.push _⟩) b8 (.lam ⟨_,_,_,_,_,mP,(GC mP hd aV).mono l2.im⟩)
theorem RU {y:Nat×Str}{z:Str×List (Nat×Nat)}(F:cO c fr env) (P:aH w c fr.ls H s.heap) (bT:fr.tab=some y) (bZ:wm H[y.1]?=some z) (dk:seq z.1 y.2=true):z.1=env.qual ++ "<lambda>"∧∃ p cd xs,Ba w c fr.ls H s env y.1 p cd z.2 xs:=by
 obtain ⟨eq,cd,p,xl,iv,o,dn,hY⟩:=F.tab _ _ bT
 have aM:=N9 bZ
 have xm:z.1=env.qual ++ "<lambda>":=(d8.mp dk).trans eq
 rw[xm] at aM
 obtain ⟨xs,ao,rx⟩:=P.rep.at_ iv aM
 have no:∀{a o},(full w.params).get a=some o→oZ o=true→Nat.blt a 955=true→a≠p.1:=fun h1 af aB e=>ba ((P.rep.js ⟨y.1,p,_,iv,aM,.head _⟩).symm.trans (e▸P.dh _ _ h1 af aB))
 exact ⟨xm,p,cd,xs,P,F.glob,xl,hY _ (P.rep.cM dn),iv,aM,ao,rx,no (o:=fO w.params) (by kernel_rfl) (by kernel_rfl) (by kernel_rfl),(no (o:=fZ w.params) (by kernel_rfl) (by kernel_rfl) (by kernel_rfl)).symm⟩
theorem RV {v:V}{q:Str}:(q5 st.H i pos v q rows st).2.aa=st.aa∧(q5 st.H i pos v q rows st).1=v:=by
 unfold q5
 cases rows.contains (pos.line,pos.col) <;> exact ⟨rfl,rfl⟩
theorem RW (h:Ag ps sc=true):defaultsOf ps env=([],[])∧closureFor sc env=pure []:=by
 obtain ⟨h1,h⟩:=Bool.and_eq_true_iff.mp h
 obtain ⟨af,aB⟩:=Bool.and_eq_true_iff.mp h
 refine ⟨?_,closureFor_none fun x m z=>?_⟩
 ·obtain ⟨_,_,_,_,kd,_,l5⟩:=ps
  rw[show l5=[] from List.isEmpty_iff.mp h1,show kd=[] from List.isEmpty_iff.mp af]
  rfl
 ·have:=List.any_eq_false.mp (rj aB) x m
  rw[z] at this
  exact this rfl
theorem RX {y:Nat×Str}{z:Str×List (Nat×Nat)}(bT:fr.tab=some y) (bZ:wm st.H[y.1]?=some z) (q:(seq z.1 y.2&&Ag ps sc)=true):f7 w n fr (.Lambda ps body sc pos) st (q5 st.H y.1 pos (.lam ps body sc) z.1 z.2 st):=by
 refine ⟨fun o=>RV.1▸o,fun aa A c env s aE F P Q k=>?_⟩
 obtain ⟨aS,bf⟩:=Bool.and_eq_true_iff.mp q
 obtain ⟨xm,p,cd,xs,L⟩:=RU F P bT bZ aS
 obtain ⟨RY,ry⟩:=RW (env:=env) bf
 refine kla_eval RY ?_
 unfold q5 at k
 rcases L.rx.among (pos:=pos) with ⟨eM,ca,dC,gu⟩ |⟨eM,dC⟩
 ·rw[eM] at k;exact RP L ry dC gu k
 ·rw[eM,xm] at k;exact RQ L ry dC k
end
end
section
variable {w:World}{R:dO}{A:Around}{c:br}{st st' : ax}{s:Shared}{ls:List (Str×V)}{n:Nat}{fr:a5}{env:Env}{H:List aj}{h h' : Heap}
theorem RZ {a b:Int}(h0:0≤a) (h1:a≤b) (af:b≤1000000):Builtin.Range.small a b 1=true∧Builtin.Range.rangeSize a b 1=b - a:=by
 have e:Builtin.Range.rangeSize a b 1=b - a:=by
  unfold Builtin.Range.rangeSize
  split
  ·split
   ·omega
   ·omega
  ·omega
 refine ⟨?_,e⟩
 unfold Builtin.Range.small
 rw[e]
 simp only[Builtin.Range.rangeFitsLong,Bool.and_eq_true,Bool.or_eq_true,decide_eq_true_eq]
 refine ⟨⟨⟨⟨?_,?_⟩,?_⟩,?_⟩,.inr ?_⟩
 ·constructor <;> omega
 ·constructor <;> omega
 ·constructor <;> omega
 ·constructor <;> omega
 ·rw[if_pos (by decide),Bool.and_eq_true,decide_eq_true_eq,decide_eq_true_eq];constructor <;> omega
noncomputable def R0 (w:World) (aR:Addr) (h:Heap):Prop:=∀(A:Around) (s:Shared) (E:Value→Shared→Prop) (Q:Value→Shared→Prop),(∀ o,h.get? aR=some o→s.heap.get? aR=some o)→Q (.ref aR) s→wpAny (aU w) A (pyIter (.ref aR)) Q E s
noncomputable def xn (w:World) (A:Around) (c:br) (s:Shared) (x:Value) (src:Src):Prop:=∀ Q:Value→Shared→Prop,(∀ aR h',(∀ b o,s.heap.get? b=some o→h'.get? b=some o)→s.heap.get? aR=none→fS c w.params h' src 0 aR [aR]→R0 w aR h'→Q (.ref aR) (a9 s h' s.toks))→wpAny (aU w) A (pyIter x) Q bo s
theorem rz (o:Obj):s.heap.get? s.heap.objs.size=none∧∀ b aa,s.heap.get? b=some aa→(s.heap.push o).get? b=some aa:=⟨Heap.iy (Nat.le_refl _),fun _ _=>Heap.get?_push_of_some _⟩
theorem GF {a:Addr}{xs:List Value}{m:Nat}{src:Src}(e:s.heap.get? a=some (fD xs m)) (fq:∀ h' aR,h'.IsListIter aR a 0→fS c w.params h' src 0 aR [aR]):xn w A c s (.ref a) src:=fun Q k=>by
 have li:(s.heap.push {cls:=.type "list_iterator",data:=.fields #[.ref a,.int 0 0]}).IsListIter s.heap.objs.size a 0:=⟨_,Heap.get?_push_size _ rfl,rfl,rfl⟩
 exact wpAny_pyIter_list (listAt e) (k s.heap.objs.size _ (rz _).2 (rz default).1 (fq _ _ li) fun A e4 E Q z q=>wpAny_pyIter_listiter (li.at z) q)
theorem R1 {a:Addr}{xs:List Value}{vs:List V}{m:Nat}(im:c.im a=some (hF xs m)) (e:s.heap.get? a=some (hF xs m)) (bb:aW w.params c.im c.ρ vs xs):xn w A c s (.ref a) (.di vs):=fun Q k=>by
 have GG:(s.heap.push {cls:=.type "tuple_iterator",data:=.fields #[.ref a,.int 0 0]}).IsTupleIter s.heap.objs.size a 0:=⟨_,Heap.get?_push_size _ rfl,rfl,rfl⟩
 exact wpAny_pyIter_tuple (items:=xs.toArray) ⟨_,e,rfl,_,rfl⟩ (k s.heap.objs.size _ (rz _).2 (rz default).1 (.di im bb GG) fun A e4 E Q z q=>wpAny_pyIter_tupleiter (let ⟨o,a,b⟩:=GG;⟨o,z o a,b⟩) q)
theorem R2 {lo aM:Int}{a:Addr}{iw lL j9:Tok}(e:s.heap.get? a=some {cls:=.type "range",data:=.fields #[.int lo iw,.int aM lL,.int 1 j9]}) (dj:0≤lo) (et:lo≤aM) (ko:aM≤1000000):xn w A c s (.ref a) (.cx lo aM):=fun Q k=>by
 obtain ⟨kp,aP⟩:=RZ dj et ko
 have Bd:IsRangeIter (s.heap.push {cls:=.type "range_iterator",data:=.fields #[rawInt lo,rawInt (Builtin.Range.rangeSize lo aM 1),rawInt 1]}) s.heap.objs.size lo (Builtin.Range.rangeSize lo aM 1) 1:=Heap.get?_push_size _ rfl
 refine wpAny_pyIter_range e kp (k s.heap.objs.size _ (rz _).2 (rz default).1 (.cx (lo:=lo) (k:=0) ?_) fun A e4 E Q z q=>wpAny_pyIter_rangeiter (z _ Bd) q)
 rw[aP] at Bd ⊢
 rw[show lo+((0:Nat):Int)=lo from Int.add_zero lo,show aM - lo - ((0:Nat):Int)=aM - lo from Int.sub_zero _]
 exact Bd
theorem GH {v:V}{x:Value}(P:aH w c ls st.H s.heap) (bN:aF w.params c.im c.ρ v x):ae (xn w A c s x) (srcOf v st) :=
 ae.o (fun vs h=>ae.bO (by rw[wH h] at bN;exact bN.tu fun a xs m im bb z=>GF (P.rep.cM im) fun h' aR q=>.aN im bb q)) fun _ =>
 ae.o (fun vs h=>ae.bO (by rw[n2 h] at bN;exact bN.f3 fun a xs m im bb z=>R1 im (P.rep.cM im) bb)) fun _ =>
 ae.o (fun r h=>ae.m fun vs aV=>by
  rw[ki h] at bN
  refine bN.ix fun p a3=>?_
  obtain ⟨xs,m,ao,bb,uk⟩:=P.rep.at_ a3 (kY aV)
  exact GF ao fun h' aR q=>.ref a3 q) fun _=>ae.b fun y h=>ae.de fun q=>ae.bO (by
  obtain ⟨dj,q⟩:=Bool.and_eq_true_iff.mp q
  obtain ⟨et,ko⟩:=Bool.and_eq_true_iff.mp q
  rw[Oc h] at bN
  exact bN.NL fun a iw lL j9 im=>R2 (P.rep.cM im) (of_decide_eq_true dj) (of_decide_eq_true et) (of_decide_eq_true ko))
theorem GI {ρ:c5}{H:List aj}{p:Addr×Addr}{o:aj}{a:Addr}(hM:ρ.length=H.length) (x:Own (ρ++[p]) (H++[o]) a):Own ρ H a∨a∈o.dW p:=by
 obtain ⟨i,q,aa,ao,aC,m⟩:=x
 exact qZ hM (G:=fun _ q aa=>a∈aa.dW q→Own ρ H a∨a∈o.dW p) (fun x y m=>.inl ⟨_,_,_,x,y,m⟩) .inr ao aC m
noncomputable def hN (cells:List (Str×Addr)):List (Str×NameKind)→List (Str×Addr)→List (Str×Addr)
 |[],acc=>acc
 |(x,k)::r,acc=>bif k == .free then hN cells r ((x,(cells.lookup x).getD 0)::acc) else hN cells r acc
theorem GJ {cells:List (Str×Addr)}{x:Str}{k:NameKind}{r:List (Str×NameKind)}{acc:List (Str×Addr)}(q:(k == .free)=true):hN cells ((x,k)::r) acc=hN cells r ((x,(cells.lookup x).getD 0)::acc) :=
 congrArg (fun b=>bif b then hN cells r ((x,(cells.lookup x).getD 0)::acc) else hN cells r acc) q
theorem GK {cells:List (Str×Addr)}{x:Str}{k:NameKind}{r:List (Str×NameKind)}{acc:List (Str×Addr)}(q:(k == .free)=false):hN cells ((x,k)::r) acc=hN cells r acc :=
 congrArg (fun b=>bif b then hN cells r ((x,(cells.lookup x).getD 0)::acc) else hN cells r acc) q
theorem xo {cells:List (Str×Addr)}{x:Str}{a:Addr}(e:cells.lookup x=some a):∀{names:List (Str×NameKind)}{acc:List (Str×Addr)},((x,NameKind.free)∈names∨acc.lookup x=some a)→(∀ b,acc.lookup x=some b→b=a)→(hN cells names acc).lookup x=some a
 |[],acc,h,_=>by
  rcases h with h |h
  ·cases h
  ·exact h
 |(y,k)::r,acc,h,u=>by
  cases q:k == .free with
  |true =>
   rw[GJ q]
   by_cases z:x=y
   ·subst z
    refine xo e (.inr ?_) fun b g6=>?_
    ·simp[List.lookup_cons,e]
    ·simp[List.lookup_cons,e] at g6;exact g6.symm
   ·have k2:(x == y)=false:=by simpa using z
    refine xo e ?_ fun b g6=>?_
    ·rcases h with h |h
     ·cases h with
      |head=>exact absurd rfl z
      |tail _ h=>exact .inl h
     ·exact .inr (by rw[List.lookup_cons,k2];exact h)
    ·rw[List.lookup_cons,k2] at g6;exact u b g6
  |false =>
   rw[GK q]
   refine xo e ?_ u
   rcases h with h |h
   ·cases h with
    |head=>exact ez q
    |tail _ h=>exact .inl h
   ·exact .inr h
theorem R3 {sc:Scope}(h:∀ x∈sc.names,x.2=.free→(env.cells.lookup x.1).isSome=true):closureFor sc env=pure (hN env.cells sc.names []):=by
 simp only[closureFor]
 generalize sc.names=ns at h
 suffices ∀ acc,(forIn ns acc fun (x:Str×NameKind) (r:List (Str×Addr))=>match x with |(name,kind)=>if (kind == NameKind.free)=true then do let a ←cellOf env name;pure (ForInStep.yield ((name,a)::r)) else pure (ForInStep.yield r))=(pure (hN env.cells ns acc):Sem _) by
  have z:=this []
  simp only[bind_pure]
  exact z
 induction ns with
 |nil=>intro acc;rfl
 |cons x r aI =>
  intro acc
  obtain ⟨y,k⟩:=x
  have aI:=aI fun x m=>h x (.tail _ m)
  rw[List.forIn_cons]
  cases q:k == .free with
  |true =>
   have z:=h (y,k) (.head _) (beq_iff_eq.mp q)
   obtain ⟨a,e⟩:=Option.isSome_iff_exists.mp z
   have e:env.cells.lookup y=some a:=e
   simp only[GJ q,q,if_true,cellOf,e,pure_bind,Option.getD_some]
   exact aI _
  |false =>
   simp only[GK q,q,Bool.false_eq_true,if_false,pure_bind]
   exact aI _
theorem R4 {c:br}(F:cO c fr env) (sc:Scope):PySem.relabel sc env=relabel fr sc:=by
 unfold PySem.relabel relabel
 congr 1
 refine List.map_congr_left fun x _=>?_
 obtain ⟨m,k⟩:=x
 dsimp only
 rw[F.kindOf,F.sc,F.kind]
 simp
theorem Be {α:Type}{p:Str×α→Bool}(a3:∀ x a b,p (x,a)=p (x,b)) {x:Str}{v:α}:∀{l:List (Str×α)},look x (l.filter p)=some v→look x l=some v∧p (x,v)=true
 |[],e=>by exact ba e
 |(y,u)::r,e=>by
  rw[List.filter_cons] at e
  cases q:p (y,u) with
  |true =>
   rw[q,if_pos rfl] at e
   cases z:seq x y with
   |true=>rw[h4 z] at e ⊢;obtain rfl:=cb e;rw[d8.mp z];exact ⟨rfl,q⟩
   |false=>rw[h5 z] at e ⊢;exact Be a3 e
  |false =>
   rw[q,if_neg (by simp)] at e
   have aI:=Be a3 e
   cases z:seq x y with
   |true =>
    rw[h4 z]
    have:=aI.2
    rw[d8.mp z,a3 y v u,q] at this;exact dv this
   |false=>rw[h5 z];exact aI
structure Bf (env:Env) (sc:Scope) (g:Comprehension):Prop where
 GL:g.is_async=0
 set:gq g.iter=false
 el:closureFor sc env=pure (hN env.cells sc.names [])
 kind:sc.kind=.function
 loc:∀ x∈sc.names,x.2=.local→sc.names.lookup x.1=some .local
 R5:∀ x∈sc.names,x.2≠.cell
theorem GN {sc:Scope}{g:Comprehension}(F:cO c fr env) (q:pd fr sc g.target g.iter g.is_async=true):Bf env sc g:=by
 unfold pd at q
 simp only[Bool.and_eq_true,decide_eq_true_eq,Bool.not_eq_true',beq_iff_eq,List.all_eq_true,Bool.or_eq_true,bne_iff_ne] at q
 obtain ⟨⟨⟨⟨aS,bf⟩,dT⟩,d9⟩,kk⟩:=q
 refine ⟨aS,dT,R3 fun x m e=>?_,d9,fun x m e=>lU.trans ((kk x m).1.2.resolve_left fun z=>z e),fun x m=>(kk x m).1.1⟩
 obtain ⟨i,aM⟩:=Option.isSome_iff_exists.mp ((kk x m).2.resolve_left fun z=>z e)
 obtain ⟨p,_,aC⟩:=F.cs _ _ aM
 rw[aC];rfl
noncomputable def uu (aK:br) (H1:List aj) (h1:Heap) (C D:Addr):br:=⟨e3 aK.ρ H1 h1,C,aK.im,aK.ρ++[(D,D)]⟩
section
variable {aK:br}{H1:List aj}{h1 bu:Heap}{C D aR:Addr}
theorem R6 {b:Addr}(e:h1.get? b=none):e3 aK.ρ H1 h1 b=none:=mO fun o z=>ba (e.symm.trans (og.mp z).2)
theorem GO (P:aH w aK ls H1 h1) {b:Addr}(e:h1.get? b=none) (z:b≠C):Off ⟨e3 aK.ρ H1 h1,C,aK.im,aK.ρ⟩ H1 b:=⟨(Off.new P e).1,z,(Off.new P e).2.2.1,R6 e⟩
theorem R7 {m:Str→Option Value}(P:aH w aK ls H1 h1) (ar:∀ b o,h1.get? b=some o→bu.get? b=some o) (m5:bu.Ns C m) (oi:h1.get? C=none) (Bg:h1.get? D=none) (xp:D≠C) (Bh:bu.get? D=some (fD [] 0)):aH w (uu aK H1 h1 C D) [] (H1++[.list []]) bu :=
 (P.enter (bJ:=[]) (C:=C) (h':=bu) ar m5 (fun x v e=>ba e) oi).adopt (h':=bu) (p:=(D,D)) (o:=.list []) (fun a m=>by rw[List.mem_singleton.mp m];exact GO P Bg xp) (fun _ _ _ e=>e) ⟨[],0,Bh,.nil,Nat.zero_le _⟩
theorem R8 (P:aH w aK ls H1 h1) (oj:h1.get? aR=none) (R9:aR≠C) (Sa:aR≠D):∀ a∈[aR],Off (uu aK H1 h1 C D) (H1++[.list []]) a:=fun a m=>by
 rw[List.mem_singleton.mp m]
 obtain ⟨e9,dR,fO,fZ⟩:=GO (C:=C) P oj R9
 exact ⟨fun x=>(GI P.rep.len x).elim e9 fun y=>Sa (List.mem_singleton.mp y),dR,fO,fZ⟩
theorem xq:hp aK.ρ (aK.ρ++[(D,D)]):=fun _ _ e=>o6 e
theorem Sb {sc:Scope}(F:cO aK fr env) (k:sc.kind=.function):cO (uu aK H1 h1 C D) ⟨relabel fr sc,pb sc fr.cs,none,[]⟩ (compEnvC sc (hN env.cells sc.names []) C env):=by
 refine ⟨R4 F sc,k,rfl,F.glob,F.blt,fun x i e=>?_,fun _ _ e=>ba e,F.az.mono xq⟩
 obtain ⟨ao,aC⟩:=Be (fun x a b=>rfl) e
 obtain ⟨p,cL,gG⟩:=F.cs x i ao
 refine ⟨p,xq _ _ cL,xo gG (.inl ?_) fun b e=>ba e⟩
 exact nZ (N8 aC)
theorem Sd {c' : br}{h' : Heap}{Bi:List aj}{bM:List (Str×V)}(P:aH w aK ls H1 h1) (ar:∀ b o,h1.get? b=some o→bu.get? b=some o) (oj:h1.get? aR=none) (oi:h1.get? C=none) (h9:aH w c' bM Bi h') (n:jE [aR] bu (uu aK H1 h1 C D) h' c') :
 aH w {c' with kept:=aK.kept,L:=aK.L} ls Bi h'∧b3 h1 aK h' {c' with kept:=aK.kept,L:=aK.L}∧Off {c' with kept:=aK.kept,L:=aK.L} Bi C∧∃ m,h'.Ns C m:=by
 have new:∀ a o,c'.im a=some o→aK.im a=some o∨h1.get? a=none∨(e3 aK.ρ H1 h1 a=none∧a≠C):=fun a o e=>(n.le.new a o e).imp id fun z=>z.imp (fun z=>mO fun o q=>ba (z.symm.trans (ar _ _ q))) id
 have f9:hp aK.ρ c'.ρ:=fun i p e=>n.le.ρ _ _ (xq _ _ e)
 have pw:c'.L=C:=n.le.L
 have al:lN h1 h':=fun a o e=>n.aP a o (fun m=>by rw[List.mem_singleton.mp m,oj] at e;exact ba e) (ar _ _ e)
 obtain ⟨m,_,hm⟩:=h9.ns
 exact ⟨P.back h9 n.le.kept n.le.im f9 new,b3.back (C:=C) P ⟨⟨n.le.kept,n.le.L,n.le.im,f9,new⟩,al⟩,⟨fun x=>(h9.own x).2 pw.symm,(Off.new P oi).2.1,pw▸h9.fr.2,(Off.new P oi).2.2.2⟩,m,pw▸hm⟩
end
noncomputable def GP (w:World) (A:Around) (c:br) (fr:a5) (env:Env) (s:Shared) (elt:PySem.Expr) (g:Comprehension) (sc:Scope) (pos:Pos) (r:V×ax):Prop :=
 ∀{RR:Value→Addr→Result→Shared→Prop},(∀ e6 h' az C m D g,b3 s.heap c h' e6→aH w e6 fr.ls r.2.H h'→aF w.params e6.im e6.ρ r.1 (.ref D)→h'.Ns C m→Off e6 r.2.H C→s.heap.get? C=none→RR (.ref D) C (.ok g) (a9 s h' az)) →
  wpAny (aU w) A (eval g.iter env) (fun x dP=>wpAny (aU w) A (pyIter x) (fun aR jF=>wpAny (aU w) A (PySem.newList []) (fun acc gI=>wpAny (aU w) A (newFunctionEnv sc env.globals (hN env.cells sc.names []) [] env.qual none .none (some env)) (fun GQ xk =>
   codeAny (aU w) A (.compStart (.ListComp elt [⟨g.target,g.iter,g.ifs,0⟩] sc pos) 0 aR acc {GQ with scope:=PySem.relabel sc env}) (RR acc GQ.locals) xk) bo gI) bo jF) bo dP) bo s
theorem Se (S:bP w R) {elt:PySem.Expr}{g:Comprehension}{sc:Scope}{pos:Pos}{y src fQ}(L:Bf env sc g) (h1:R.ev n fr g.iter st=some y) (af:srcOf y.1 y.2=some src)
 (aB:R.dz n ⟨relabel fr sc,pb sc fr.cs,none,[]⟩ elt g.target g.ifs src 0 y.2.H.length ⟨y.2.H++[.list []],y.2.aa⟩=some fQ) (aa:fQ.aa) (aE:dA A n) (F:cO c fr env) (P:aH w c fr.ls st.H s.heap):GP w A c fr env s elt g sc pos (.ref y.2.H.length,fQ):=by
 intro RR fin
 refine S.ev h1 (S.uc aB aa:ax.aa ⟨y.2.H++[.list []],y.2.aa⟩) aE F P fun aK bX bK x aG aX v1=>?_
 refine GH (s:=a9 s bX bK) aX v1 _ af _ fun aR cu eu oj uv self=>?_
 refine wpAny_newObj_type (wpAny_newFunctionEnv L.R5 (fun _ m=>nomatch m) (fun bu m5 pB=>?_) L.kind)
 dsimp only at m5 pB ⊢
 generalize jH:cu.push {cls:=.type "list",dict:=none,data:=.seq ([]:List Value).toArray}=H3 at m5 pB ⊢
 have eZ:H3.objs.size=cu.objs.size+1:=by rw[←jH,Heap.size_push]
 have Bj:cu.get? H3.objs.size=none:=Heap.iy (eZ▸Nat.le_succ _)
 have GR:cu.get? cu.objs.size=none:=Heap.iy (Nat.le_refl _)
 have Bk:∀ b o,cu.get? b=some o→bu.get? b=some o:=fun b o e=>pB.extBut b o (fun z=>ba (Bj.symm.trans (z▸e))) (Heap.get?_push_of_some _ (jH▸Heap.get?_push_of_some _ e))
 have GS:∀ b o,bX.get? b=some o→bu.get? b=some o:=fun b o e=>Bk b o (eu b o e)
 have oi:bX.get? H3.objs.size=none:=mO fun o e=>ba (Bj.symm.trans (eu _ _ e))
 have Bg:bX.get? cu.objs.size=none:=mO fun o e=>ba (GR.symm.trans (eu _ _ e))
 have xp:cu.objs.size≠H3.objs.size:=eZ▸(Nat.succ_ne_self _).symm
 have Bh:bu.get? cu.objs.size=some (fD [] 0):=pB.extBut _ _ xp (Heap.get?_push_of_some _ (jH▸Heap.get?_push_size _ rfl))
 have Sf:=uv.mono (c':=uu aK y.2.H bX H3.objs.size cu.objs.size) (h':=bu) (fun _ _ e=>e) xq (fun a m o e=>Bk a o e)
 have GU:(aK.ρ++[(cu.objs.size,cu.objs.size)])[y.2.H.length]?=some (cu.objs.size,cu.objs.size):=aX.rep.len▸(List.getElem?_append_right (Nat.le_refl _)).trans (by rw[Nat.sub_self];rfl)
 have loop:codeAny (aU w) A (.compLoop (.ListComp elt [⟨g.target,g.iter,g.ifs,0⟩] sc pos) 0 (.ref aR) (.ref cu.objs.size) (compEnvC sc (hN env.cells sc.names []) H3.objs.size env)) (RR (.ref cu.objs.size) H3.objs.size) (a9 s bu (bK+([]:List (Str×Value)).length)) :=
  (S.AO _ aB).2 aa (s:=a9 s bu (bK+([]:List (Str×Value)).length)) _ aE (Sb (F.cA aG) L.kind) (R7 aX GS m5 oi Bg xp Bh) Sf (R8 aX oj (fun z=>uv.here aR (.head _) (z▸Bj)) fun z=>uv.here aR (.head _) (z▸GR)) (.ref (p:=(cu.objs.size,cu.objs.size)) GU) fun c' h' az bM ey h9 g=>by
   obtain ⟨Sg,Sh,Si,m,hm⟩:=Sd aX GS oj oi h9 ey
   exact fin _ h' az _ m _ g (aG.trans Sh) Sg (.ref (p:=(cu.objs.size,cu.objs.size)) (ey.le.ρ _ _ GU)) hm Si (aG.aP.none oi)
 exact codeAny_compStart_list loop (self A _ _ _ (fun o e=>Bk _ _ e) loop)
theorem GV (S:bP w R) {elt:PySem.Expr}{gens:List Comprehension}{sc:Scope}:ae (fun r=>∃ g,gens=[g]∧(r.2.aa→st.aa)∧(r.2.aa→∀{A c env s}(pos),dA A n→cO c fr env→aH w c fr.ls st.H s.heap→Bf env sc g∧GP w A c fr env s elt g sc pos r)) (q4 R n fr elt gens sc st) :=
 ae.b fun g cP=>ae.de fun q=>ae.b fun x h1=>ae.b fun src af=>ae.m fun fQ aB=>⟨g,mW cP,fun o=>S.dm h1 (S.uc aB o:ax.aa ⟨x.2.H++[.list []],x.2.aa⟩),fun aa A c env s pos aE F P=>⟨GN F q,Se S (GN F q) h1 af aB aa aE F P⟩⟩
end
section
variable {w:World}{R:dO}{A:Around}{c:br}{st st' : ax}{s:Shared}{ls:List (Str×V)}{n:Nat}{fr:a5}{env:Env}{H:List aj}{h h' : Heap}
theorem xr {it:PySem.Expr}(h:gq it=false) (x:Value):foldedSetIterable it env x=pure x:=by
 cases it <;> first |rfl |exact ez h
theorem b3.drop {C:Addr}{jA:Heap}{c' : br}(aG:b3 h c h' c') (ak:Heap.SameBut C h' jA) (e:h.get? C=none):b3 h c jA c' :=
 ⟨aG.le,fun a o q=>let ⟨o',nL⟩:=aG.aP a o q;⟨o',(ak.2 a fun z=>by rw[z,e] at q;exact ba q).trans nL⟩⟩
theorem Sj (S:bP w R) {elt:PySem.Expr}{gens:List Comprehension}{sc:Scope}{pos:Pos}:ae (f7 w n fr (.ListComp elt gens sc pos) st) (q4 R n fr elt gens sc st):=fun r h=>by
 obtain ⟨g,rfl,o,core⟩:=GV S r h
 refine ⟨o,fun aa A c env s aE F P Q k=>?_⟩
 obtain ⟨L,core⟩:=core aa pos aE F P
 obtain ⟨t,it,ifs,a⟩:=g
 have e:a=0:=L.GL
 subst e
 rw[eval_ListComp]
 exact wpAny_comprehension_free (use:=none) rfl (xr L.set) L.el L.kind L.loc (core (RR:=fun acc C=>compPost (aU w) A bo none Q acc C) fun e6 h' az C m D g aG aX v1 hm off e=>⟨m,hm,fun jA ak=>k e6 jA az _ (aG.drop ak e) (aX.Ge off ak.2) v1⟩)
theorem Sk {x:Str}{l:List (Str×NameKind)}:nY x l=false→(l.any fun (n,k)=>n == x&&(k == .local || k == .cell))=false:=by
 induction l with
 |nil=>exact fun _=>rfl
 |cons y r aI =>
  intro e
  obtain ⟨ao,aC⟩:=Bool.or_eq_false_iff.mp (show ((seq y.1 x&&(y.2 == .local || y.2 == .cell)) || nY x r)=false from e)
  rw[List.any_cons,aI aC,Bool.or_false]
  show (y.1 == x&&(y.2 == .local || y.2 == .cell))=false
  rw[q9,ao]
theorem Sl {elt:PySem.Expr}{gens:List Comprehension}{sc:Scope}{dz di:Pos}{x:Str}{l:Nat}(F:cO c fr env) (bA:look x fr.sc.names=some .local) (hl:di.line=dz.line) (hm:nY x sc.names=false):swapsWith (.ListComp elt gens sc dz) (some (.Name x di)) l env=pure true:=by
 show (pure (env.blockKind == .function&&env.kindOf x == some .local&&di.line == dz.line&&!(sc.names.any fun (n,k)=>n == x&&(k == .local || k == .cell))):Sem Bool)=pure true
 rw[show env.blockKind=.function by unfold Env.blockKind;rw[F.sc,F.kind];rfl,F.kindOf,bA,hl,Sk hm]
 simp
theorem Sm (S:bP w R) {elt:PySem.Expr}{gens:List Comprehension}{sc:Scope}{dz di pos:Pos}{x:Str}{y}(h:q4 R n fr elt gens sc st=some y) (bA:look x fr.sc.names=some .local) (hl:di.line=dz.line) (hm:nY x sc.names=false) :
 iE w n fr (exec (.Assign [.Name x di] (.ListComp elt gens sc dz) pos)) st (.next,d7 x y.1 fr.ls,y.2):=by
 obtain ⟨g,rfl,o,core⟩:=GV S y h
 refine ⟨o,fun aa A c env s Q aE F P k=>?_⟩
 obtain ⟨L,core⟩:=core aa dz aE F P
 obtain ⟨t,it,ifs,a⟩:=g
 have e:a=0:=L.GL
 subst e
 rw[exec_Assign_Name_used _ _ _ _ (Sl F bA hl hm)]
 refine wpAny_bind (wpAny_standAt (wpAny_bind ?_))
 show wpAny _ A (do let _ ←comprehension (.ListComp elt [⟨t,it,ifs,0⟩] sc dz) sc env _ (PySem.newList []) false (eval it env) (some (assign (.Name x di) env))) _ _ s
 refine wpAny_bind (wpAny_mono (wpAny_comprehension_free (use:=some (assign (.Name x di) env)) (Q:=fun _ e4=>Q .next e4) rfl (xr L.set) L.el L.kind L.loc (core (RR:=fun acc C=>compPost (aU w) A bo (some (assign (.Name x di) env)) (fun _ e4=>Q .next e4) acc C) ?_)) (fun _ e4 dk=>wpAny_pure (wpAny_pure dk)) fun _ _ e=>e)
 intro e6 h' az C m D g aG aX v1 GW off e
 show wpAny _ A (assign (.Name x di) env (.ref D)) _ _ _
 have GX:∀ a∈[C],Off e6 y.2.H a:=fun a m=>by rw[List.mem_singleton.mp m];exact off
 have c8:h'.get? C≠none:=fun z=>by obtain ⟨o,_,_,e,_⟩:=GW;exact ba (z.symm.trans e)
 refine wpAny_assign_Name (xb (s:=a9 s h' az) (F.cA aG).kept (aX.hold GX) bA v1 fun af cU a4 b8=>?_)
 obtain ⟨P3,c4,fO⟩:=aX.w7 GX b8 a4
 obtain ⟨fZ,Sn⟩:=fO C (.head _) c8
 exact ⟨m,o5 GW fun o e=>Sn.trans e,fun aB ak=>k _ aB cU _ ((aG.trans c4).drop ak e) (P3.Ge fZ ak.2) .next⟩
end
section
variable {w:World}{R:dO}{A:Around}{c:br}{st st' : ax}{s:Shared}{ls:List (Str×V)}{n:Nat}{fr:a5}{env:Env}{H:List aj}{h h' : Heap}
theorem So {f:PySem.Expr→Option Str}(hf:∀ x p y,f (.Name x p)=some y→y=x) {bp:List PySem.Expr}:ae (fun xs=>(bp.filterMap f).length=bp.length→bp.filterMap f=xs) (jz fr bp):=by
 induction bp with
 |nil=>exact ae.bO fun _=>rfl
 |cons e r aI =>
  refine ae.b fun x bA=>ae.de fun _=>ae.m fun t bT l=>?_
  rw[tW bA,List.filterMap_cons] at l ⊢
  cases z:f (.Name x.1 x.2) with
  |none =>
   rw[z] at l
   exact absurd (List.length_filterMap_le f r) (Nat.not_le.mpr (l▸Nat.lt_succ_self _))
  |some y=>rw[z] at l;exact congr (congrArg List.cons (hf _ _ y z)) (aI _ bT (Nat.succ.inj l))
theorem Sp {e:PySem.Expr}(h:tD e=true):constantsAlone 8 e=false∧foldedForSure 8 e=false:=by
 cases e with
 |Attribute _ _ _=>exact ⟨rfl,rfl⟩
 |Call _ _ _ _=>exact ⟨rfl,rfl⟩
 |List _ _=>exact ⟨rfl,rfl⟩
 |Name x p =>
  refine ⟨?_,rfl⟩
  show (_ == _)=false
  rw[q9]
  exact rj h
 |_=>exact dv h
theorem Sq {bp vs:List PySem.Expr}{k k' : Nat}{p p' : Pos}{xs:List Str}(h1:jz fr bp=some xs) (af:vs.any tD=true):swappedStores [.Tuple bp k p] (.Tuple vs k' p') env=pure none∨swappedStores [.Tuple bp k p] (.Tuple vs k' p') env=pure (some xs):=by
 obtain ⟨e,m,l⟩:=List.any_eq_true.mp af
 have a1:vs.all (constantsAlone 8)=false:=by
  cases q:vs.all (constantsAlone 8) with
  |false=>rfl
  |true=>have:=List.all_eq_true.mp q e m;rw[(Sp l).1] at this;exact dv this
 unfold swappedStores
 dsimp only
 rw[a1]
 split
 ·exact .inl rfl
 split
 ·exact .inl rfl
 split
 ·exact .inl rfl
 rename_i q
 split
 ·exact .inl rfl
 right
 simp only[Bool.or_eq_true,not_or,bne_iff_ne,ne_eq,Decidable.not_not] at q
 have:=So (f:=fun |.Name id pos=>if env.kindOf id == some .local&&pos.line == ((bp.head?.map (·.pos.line)).getD 0) then some id else none |_=>none) (fun x p y z=>by
  dsimp only at z
  split at z
  ·exact (cb z).symm
  ·exact ba z) _ h1 q.1
 rw[if_neg (by simp)]
 show pure (some _)=_
 exact congrArg (fun z=>pure (some z)) this
theorem GY {α:Type}{y:Str}{xs:List Str}:∀{us:List α}{l:List (Str×α)},xs.Nodup→xs.length=us.length→look y (h3 xs us l)=(look y (xs.zip us)).or (look y l):=by
 induction xs with
 |nil=>intro us l _ _;rfl
 |cons x xs aI =>
  intro us l ef e
  cases us with
  |nil=>cases e
  |cons u us =>
   obtain ⟨aG,a4⟩:=List.nodup_cons.mp ef
   rw[show h3 (x::xs) (u::us) l=h3 xs us (d7 x u l) from rfl,aI a4 (Nat.succ.inj e),E6,List.zip_cons_cons]
   cases q:seq y x with
   |false=>rw[h5 q];rfl
   |true =>
    have z:look y (xs.zip us)=none:=mO fun v z=>aG (d8.mp q▸(List.of_mem_zip (nZ z)).1)
    rw[h4 q,z];rfl
theorem xt {α:Type}{y:Str}{v:α}{l:List (Str×α)}:(l.map (·.1)).Nodup→((y,v)∈l↔look y l=some v):=by
 induction l with
 |nil=>exact fun _=>⟨fun m=>absurd m List.not_mem_nil,fun e=>ba e⟩
 |cons x r aI =>
  intro ef
  obtain ⟨aG,a4⟩:=List.nodup_cons.mp ef
  refine ⟨fun m=>?_,fun e=>nZ e⟩
  cases q:seq y x.1 with
  |true =>
   rw[h4 q]
   rcases List.mem_cons.mp m with e |m
   ·rw[←e]
   ·exact absurd (List.mem_map_of_mem (f:=(·.1)) m) (d8.mp q▸aG)
  |false =>
   rw[h5 q]
   rcases List.mem_cons.mp m with e |m
   ·rw[←e,lT] at q;exact ez q
   ·exact (aI a4).mp m
theorem Sr {α β:Type}{xs:List α}:∀{us:List β},xs.length=us.length→xs.reverse.zip us.reverse=(xs.zip us).reverse:=by
 induction xs with
 |nil=>intro us _;rw[List.reverse_nil,List.zip_nil_left,List.zip_nil_left];rfl
 |cons x xs aI =>
  intro us e
  cases us with
  |nil=>cases e
  |cons u us =>
   rw[List.reverse_cons,List.reverse_cons,List.zip_append (by rw[List.length_reverse,List.length_reverse];exact Nat.succ.inj e),aI (Nat.succ.inj e)]
   exact (List.reverse_cons (a:=(x,u)) (as:=xs.zip us)).symm
theorem uw {α:Type}{l:List α}(h:l.Nodup):l.reverse.Nodup:=l.reverse_perm.nodup_iff.mpr h
theorem Ss {α:Type}{y:Str}{xs:List Str}{us:List α}{l:List (Str×α)}(ef:xs.Nodup) (e:xs.length=us.length):look y (h3 xs.reverse us.reverse l)=look y (h3 xs us l):=by
 rw[GY (uw ef) (by rw[List.length_reverse,List.length_reverse,e]),GY ef e,Sr e]
 congr 1
 have aG:((xs.zip us).map (·.1)).Nodup:=by rw[List.map_fst_zip (Nat.le_of_eq e)];exact ef
 apply Option.ext
 intro v
 rw[←xt aG,←xt (by rw[List.map_reverse];exact uw aG),List.mem_reverse]
noncomputable def Bl (w:World) (c:br) (H:List aj) (s:Shared) (l:List (Str×V)) (Q:Unit→Shared→Prop):Prop:=∀ h' az,b3 s.heap c h' c→aH w c l H h'→Q () (a9 s h' az)
theorem Su (F:cO c fr env) {us:List V}{ys:List Value}(v:aW w.params c.im c.ρ us ys):∀{xs:List Str}{l:List (Str×V)}{s:Shared}{Q:Unit→Shared→Prop},(∀ x∈xs,look x fr.sc.names=some .local)→aH w c l H s.heap→xs.length=us.length→Bl w c H s (h3 xs us l) Q→wpAny (aU w) A (assignInOrder (xs.map fun x=>bindName env x) ys) Q bo s :=
 aW.ind (Q:=fun us ys=>∀{xs:List Str}{l:List (Str×V)}{s:Shared}{Q:Unit→Shared→Prop},(∀ x∈xs,look x fr.sc.names=some .local)→aH w c l H s.heap→xs.length=us.length→Bl w c H s (h3 xs us l) Q→wpAny (aU w) A (assignInOrder (xs.map fun x=>bindName env x) ys) Q bo s)
  (fun {xs l s Q} m P e k=>by rw[List.length_eq_zero_iff.mp e] at k ⊢;exact wpAny_assignInOrder_none (k s.heap s.toks .refl P))
  (fun {u y us ys} a _ aI=>fun {xs l s Q} m P e k=>by
   cases xs with
   |nil=>cases e
   |cons x xs=>exact wpAny_assignInOrder_more (wpAny_bindName (xb (F.ls l) P (m x (.head _)) a fun h1 bK aG aX=>aI (s:=a9 s h1 bK) (fun y q=>m y (.tail _ q)) aX (Nat.succ.inj e) fun af cU a4 b8=>k af cU (aG.trans a4) b8))) v
noncomputable def Sv (w:World) (A:Around) (env:Env) (c:br) (H:List aj) (bp:List PySem.Expr) (xs:List Str):Prop:=∀{us:List V}{ys:List Value}{l:List (Str×V)}{s:Shared}{Q:Unit→Shared→Prop},aW w.params c.im c.ρ us ys→aH w c l H s.heap→xs.length=us.length→Bl w c H s (h3 xs us l) Q→wpAny (aU w) A (assignInOrder ((assignEach bp env).map (·.2)) ys) Q bo s
theorem Sw (F:cO c fr env) {bp:List PySem.Expr}:ae (Sv w A env c H bp) (jz fr bp):=by
 induction bp with
 |nil =>
  refine ae.bO fun {us ys l s Q} v P e k=>?_
  rw[List.length_eq_zero_iff.mp e.symm] at v k
  exact v.tv (wpAny_assignInOrder_none (k s.heap s.toks .refl P))
 |cons t bp aI =>
  refine ae.b fun x bA=>ae.de fun Sx=>ae.m fun r bR=>fun {us ys l s Q} v P e k=>?_
  cases us with
  |nil=>cases e
  |cons u us =>
   rw[tW bA,xd rfl]
   exact v.qX fun y zs a b=>wpAny_assignInOrder_more (wpAny_assign_Name (xb (F.ls l) P (n1 Sx) a fun h1 bK aG aX=>aI r bR (s:=a9 s h1 bK) b aX (Nat.succ.inj e) fun af cU a4 b8=>k af cU (aG.trans a4) b8))
theorem aW.reverse {P:Params}{im:ct}{ρ:c5}{vs:List V}{xs:List Value}(h:aW P im ρ vs xs):aW P im ρ vs.reverse xs.reverse:=aW.ind (Q:=fun vs xs=>aW P im ρ vs.reverse xs.reverse) .nil (fun a _ r=>by rw[List.reverse_cons,List.reverse_cons];exact r.append (.cons a .nil)) h
theorem Sy {bp:List PySem.Expr}:ae (fun xs=>∀ x∈xs,look x fr.sc.names=some .local) (jz fr bp):=by
 induction bp with
 |nil=>exact ae.bO fun x m=>nomatch m
 |cons t bp aI=>exact ae.b fun y _=>ae.de fun q=>ae.m fun r bR x m=>(List.mem_cons.mp m).elim (fun e=>e▸n1 q) (aI r bR x)
theorem Sz {bp:List PySem.Expr}:ae (fun xs=>bp.any isStar=false∧xs.length=bp.length) (jz fr bp):=by
 induction bp with
 |nil=>exact ae.bO ⟨rfl,rfl⟩
 |cons t bp aI=>exact ae.b fun y bU=>ae.de fun _=>ae.m fun r bR=>⟨by rw[tW bU,List.any_cons,(aI r bR).1];rfl,congrArg (· + 1) (aI r bR).2⟩
theorem aH.SA {bM:List (Str×V)}(P:aH w c ls H h) (e:∀ y,look y bM=look y ls):aH w c bM H h:=by
 obtain ⟨m,l,bc⟩:=P.ns
 exact ⟨⟨m,fun x v q=>l x v ((e x).symm.trans q),bc⟩,P.rep,P.dh,P.keep,P.own,P.fr⟩
theorem SD (S:bP w R) {bp vs:List PySem.Expr}{tk0 fq:Nat}{di om pos:Pos}{xs:List Str}{us:List V}{x}(h1:jz fr bp=some xs) (af:mU xs=true) (aB:vs.any tD=true) (bu:R.ev n fr (.Tuple vs tk0 om) st=some x) (dI:mR x.1=some us) (hl:us.length=xs.length) :
 iE w n fr (exec (.Assign [.Tuple bp fq di] (.Tuple vs tk0 om) pos)) st (.next,h3 xs us fr.ls,x.2):=by
 refine ⟨fun o=>S.dm bu o,fun aa A c env s Q aE F P k=>?_⟩
 obtain ⟨aS,bf⟩:=Sz _ h1
 have pa:∀{aK:br}{z},aF w.params aK.im aK.ρ x.1 z→aF w.params aK.im aK.ρ (.tup us) z:=fun v=>n2 dI▸v
 rcases Sq (env:=env) (k:=fq) (k':=tk0) (p:=di) (p':=om) h1 aB with hw |hw
 ·refine PyProof.Rows.Assign_Tuple (S.ev bu aa aE F P fun aK bX bK z aG aX v1=>(pa v1).f3 fun a ys nn im bb uk=>Gj aS ?_) rfl hw
  rw[show bp.length=ys.length from bf.symm.trans (hl.symm.trans bb.length)]
  refine unpackItems_tuple (items:=ys.toArray) aE.h ⟨_,aX.rep.cM im,rfl,_,rfl⟩ fun h' he=>?_
  have b8:=aX.ui (Heap.rr he)
  exact Sw (F.cA aG) _ h1 (s:=a9 s h' bK) bb b8 hl.symm fun af cU a4 P3=>k aK af cU _ (aG.trans ((b3.keep (Heap.rr he)).trans a4)) P3 .next
 ·refine PyProof.Rows.Assign_Tuple_swapped (S.ev bu aa aE F P fun aK bX bK z aG aX v1=>(pa v1).f3 fun a ys nn im bb uk=>?_) rfl hw
  rw[show xs.length=ys.length from hl.symm.trans bb.length]
  refine unpackItems_tuple (items:=ys.toArray) aE.h ⟨_,aX.rep.cM im,rfl,_,rfl⟩ fun h' he=>?_
  have b8:=aX.ui (Heap.rr he)
  exact Su (F.cA aG) (s:=a9 s h' bK) bb.reverse (xs:=xs.reverse) (fun x m=>Sy _ h1 x (List.mem_reverse.mp m)) b8 (by rw[List.length_reverse,List.length_reverse,hl]) fun aB cU a4 P3 =>
   k aK aB cU _ (aG.trans ((b3.keep (Heap.rr he)).trans a4)) (P3.SA fun y=>(Ss (w8 af) hl.symm).symm) .next
end
section
set_option tactic.hygienic true
section
variable {w:World}{R:dO}{A:Around}{c:br}{st st' : ax}{s:Shared}{ls:List (Str×V)}{n:Nat}{fr:a5}{env:Env}{H:List aj}{h h' : Heap}
noncomputable abbrev Bm (A:Around) (w:World) (env:Env) (Q:Flow→Shared→Prop):Result→Shared→Prop:=fun r e4=>match r with |.ok f=>Q f e4 |.error e=>cameBackBy (aU w) A env bo e e4
theorem GZ (S:bP w R) {t:PySem.Expr}{src:Src}{body:List Stmt}{f z}{as:List Addr}{aR:Addr}{aK:br}{h1 af:Heap}{bK:Tok}{lS:ax}{Q:Flow→Shared→Prop}(aB:R.jv n fr t src 0 body lS=some z) (aa:z.2.2.aa) (aE:dA A n) (F:cO aK fr env) (P:aH w aK fr.ls lS.H h1) (aG:b3 s.heap c h1 aK)
 (eu:∀ b o,h1.get? b=some o→af.get? b=some o) (na:∀ a∈as,h1.get? a=none) (it:fS aK w.params af src 0 aR as) (hf:f=Bm A w env Q) (k:pk w c s z.1 z.2.1 z.2.2 Q):codeAny (aU w) A (.forLoop t (.ref aR) body [] env) f (a9 s af bK) :=
 (S.t9 z aB).2 aa (s:=a9 s af bK) f aE F (P.ui eu) it (fun a m=>.new P (na a m)) fun c' h' az g ey h9 jI=>hf▸k c' h' az g (aG.trans (jE.cA (.keep eu) ey na)) h9 jI
theorem SE (S:bP w R) {t it:PySem.Expr}{body:List Stmt}{pos:Pos}{x src z}(ak:gq it=false) (h1:R.ev n fr it st=some x) (af:srcOf x.1 x.2=some src) (aB:R.jv n fr t src 0 body x.2=some z):iE w n fr (exec (.For t it body [] pos)) st z :=
 have o:=(S.t9 z aB).1
 ⟨fun aa=>S.dm h1 (o aa),fun aa A c env s Q aE F P k=>wpAny_For (S.ev h1 (o aa) aE F P fun aK bX bK x aG aX v1=>GH (s:=a9 s bX bK) aX v1 _ af _ fun aR cu eu oj uv _ =>
  GZ S (s:=s) aB aa aE (F.cA aG) aX aG eu (fun a m=>List.mem_singleton.mp m▸oj) uv rfl k) (xr ak)⟩
theorem SF {e aR:Addr}{i:Int}{old:Value}{Q:Value→Shared→Prop}(he:IsEnum s.heap e aR i old) (h:Q (.ref e) s):wpAny (aU w) A (pyIter (.ref e)) Q bo s:=by
 have fl:s.TypeIs (.ref e) "enumerate":=⟨_,he,rfl⟩
 refine wpAny_pyIter_slot fl F.slot_enumerate_iter (wpAny_call_entry F.slot_enumerate_iter fl F.entry_enumerate_iter ?_ (F.args_enumerate_iter_1 _))
 show wpAny _ _ (ret (.ref e)) _ _ s
 exact wpAny_pure ⟨_,rfl,"enumerate",_,fl,F.slot_enumerate_next.lookup,h⟩
theorem SG {x:Str}{pos:Pos}{Q:Value→Shared→Prop}(bA:seq x "enumerate" = true) (hl:look x fr.sc.names=some .globalImplicit) (F:cO c fr env) (P:aH w c fr.ls st.H s.heap) (k:Q (.type "enumerate") s):wpAny (aU w) A (eval (.Name x pos) env) Q bo s:=by
 rw[d8.mp bA] at hl ⊢
 have fp:gX fr (Str.ofString "enumerate")=some .globalImplicit:=hl
 refine Fp (st:=st) F P (.obj (.type "enumerate")) ?_ Q fun y m3=>m3.objE k
 unfold o9
 rw[fp]
 kernel_rfl
theorem SH (nm:String) (g:Heap):ob w (.type nm) g:=⟨.machine,.inr (.inl rfl),.now⟩
noncomputable def SI (w:World) (A:Around) (c:br) (s:Shared) (y:Value) (src:Src):Prop:=∀ Q:Value→Shared→Prop,(∀ e aR h',(∀ b o,s.heap.get? b=some o→h'.get? b=some o)→(∀ a∈[e,aR],s.heap.get? a=none)→IsEnum h' e aR 0 .none→fS c w.params h' src 0 e [e,aR]→Q (.ref e) (a9 s h' s.toks))→wpAny (aU w) A (call (.type "enumerate") [y]) Q bo s
theorem G0 {a:Addr}(m:a∈[s.heap.objs.size+1,s.heap.objs.size]):s.heap.get? a=none:=(List.mem_cons.mp m).elim (fun e=>e▸Heap.iy (Nat.le_succ _)) fun m=>List.mem_singleton.mp m▸Heap.iy (Nat.le_refl _)
theorem SJ {v:V}{x:Value}(P:aH w c ls st.H s.heap) (bN:aF w.params c.im c.ρ v x):ae (SI w A c s x) (tJ v st) :=
 ae.o (fun vs h=>ae.bO (by rw[wH h] at bN;exact bN.tu fun a ys m im bb z Q k=>call_enumerate_list (listAt (P.rep.cM im)) fun cu he aM bZ ar=>k _ _ cu ar (fun a m=>G0 m) he (.rl im bb aM he (Nat.succ_ne_self _)))) fun _=>ae.b fun r h=>ae.m fun vs aV=>by
  rw[ki h] at bN
  refine bN.ix fun p a3 Q k=>?_
  obtain ⟨ys,m,aC,bb,uk⟩:=P.rep.at_ a3 (kY aV)
  exact call_enumerate_list (listAt aC) fun cu he aM bZ ar=>k _ _ cu ar (fun a m=>G0 m) he (.rm a3 aM he (Nat.succ_ne_self _))
theorem SK (S:bP w R) {t e:PySem.Expr}{x:Str}{np pos dz:Pos}{body:List Stmt}{v src z}(bA:seq x "enumerate" = true) (hl:look x fr.sc.names=some .globalImplicit) (ak:isStar e=false) (h1:R.ev n fr e st=some v) (af:tJ v.1 v.2=some src) (aB:R.jv n fr t src 0 body v.2=some z) :
 iE w n fr (exec (.For t (.Call (.Name x np) [e] [] dz) body [] pos)) st z:=by
 have o:=(S.t9 z aB).1
 have ao:f6 R n fr [e] st=some ([v.1],v.2):=by
  show (match isStar e with |true=>none |false=>(R.ev n fr e st).bind _)=_
  rw[ak,h1];rfl
 refine ⟨fun aa=>S.dm h1 (o aa),fun aa A c env s Q aE F P k=>wpAny_For (Call_ (SG bA hl F P ?_) (call_plain rfl)) (xr rfl)⟩
 refine callWith_of (P:=ob w (.type "enumerate")) (by rw[(n9 S _ _ ao).2.2.1];rfl) (fun h x=>x) ?_
 have main:wpAny (aU w) A (spliced (backTo dz (starEach [e] env))) (fun vs dP=>ob w (.type "enumerate") dP.heap∧wpAny (aU w) A (call (.type "enumerate") ([]++vs)) (fun x dP=>wpAny (aU w) A (pyIter x) (fun it jF=>codeAny (aU w) A (.forLoop t it body [] env) (Bm A w env Q) jF) bo dP) bo dP) bo s :=
  wZ S aE ao (o aa) F P fun aK bX bK xs aG aX v1=>⟨SH _ _,v1.kT fun y n7=>SJ (s:=a9 s bX bK) aX n7 _ af _ fun e aR cu eu na he it=>SF (s:=a9 s cu bK) he (GZ S (s:=s) aB aa aE (F.cA aG) aX aG eu na it rfl k)⟩
 rw[wY ak] at main ⊢
 exact Calls.evalArgs_plain main
theorem SM {t e:PySem.Expr}{l:Nat}(aw:mQ e=false):swapsWithSole [t] e l env=pure false:=by
 show swapsWith e (some t) l env=pure false
 cases e <;> first |rfl |exact ez aw
theorem SN (S:bP w R) {t e:PySem.Expr}{pos:Pos}{x y}(h1:R.ev n fr e st=some x) (af:R.as n fr t x.1 x.2=some y) (aw:mQ e=false) (hw:∀{c env},cO c fr env→swappedStores [t] e env=pure none) (bT:isStar t=false):iE w n fr (exec (.Assign [t] e pos)) st (.next,y.1,y.2) :=
 ⟨fun o=>S.dm h1 (S.ua af o),fun aa A c env s Q aE F P k=>wpAny_Assign_stores (S.ev h1 (S.ua af aa) aE F P fun aK bX bK x aG aX v1=>by
  rw[xd bT]
  show wpAny _ _ (assign t env x) _ _ _
  exact S.as (s:=a9 s bX bK) af aa aE (F.cA aG) aX v1 fun bw cu cU a4 b8=>k bw cu cU _ (aG.trans a4) b8 .next) (SM aw) (hw F)⟩
noncomputable def Bn (env:Env) (ln:Nat) (t:PySem.Expr):Option Str:=match t with
 |.Name id pos=>if env.kindOf id == some .local&&pos.line == ln then some id else none
 |_=>none
theorem SO {ln:Nat}{t:PySem.Expr}{y:Str}(h:Bn env ln t=some y):∃ p,t=.Name y p∧env.kindOf y=some .local:=by
 cases t with
 |Name id p =>
  have h:(if env.kindOf id == some .local&&p.line == ln then some id else none)=some y:=h
  obtain ⟨h1,af⟩:=Option.ite_none_right_eq_some.mp h
  exact ⟨p,by rw[cb af],by rw[←cb af];exact beq_iff_eq.mp (Bool.and_eq_true_iff.mp h1).1⟩
 |_=>exact ba h
theorem SP (F:cO c fr env) (ln:Nat) {bp:List PySem.Expr}:(bp.filterMap (Bn env ln)).length=bp.length→jz fr bp≠none:=by
 induction bp with
 |nil=>exact fun _ z=>ba z.symm
 |cons t r aI =>
  intro l z
  cases q:Bn env ln t with
  |none =>
   rw[List.filterMap_cons_none q] at l
   exact absurd (Nat.le_trans (Nat.le_of_eq l.symm) (List.length_filterMap_le _ r)) (Nat.not_succ_le_self _)
  |some y =>
   rw[List.filterMap_cons_some q] at l
   obtain ⟨p,rfl,k⟩:=SO q
   have z:(bif h2 (look y fr.sc.names) then (jz fr r).map fun t=>y::t else none)=none:=z
   rw[show look y fr.sc.names=some .local from F.kindOf.symm.trans k] at z
   exact aI (Nat.succ.inj l) (Option.map_eq_none_iff.mp z)
theorem SQ {bp:List PySem.Expr}{k:Nat}{p:Pos}{vs:List PySem.Expr}{k' : Nat}{p' : Pos}(F:cO c fr env) (h:jz fr bp=none):swappedStores [.Tuple bp k p] (.Tuple vs k' p') env=pure none:=by
 unfold swappedStores
 dsimp only
 split
 ·rfl
 split
 ·rfl
 rw[if_pos]
 rw[Bool.or_eq_true]
 left
 rw[bne_iff_ne]
 exact fun e=>SP F _ e h
end
end
section
variable {w:World}{R:dO}{A:Around}{c:br}{st st' : ax}{s:Shared}{ls:List (Str×V)}{n:Nat}{fr:a5}{env:Env}{H:List aj}{h h' : Heap}
theorem SR {t:PySem.Expr}{v:V}{r:List (Str×V)×ax}(h:tM R n fr t v st=some r):isStar t=false:=by
 cases t <;> first |rfl |exact ba h
theorem SS {e:PySem.Expr}{l:Nat}(q:mQ e=false):swapsWith e none l env=pure false:=by
 cases e <;> first |rfl |exact ez q
theorem SU {t v:PySem.Expr}(h:f3 v=none):swappedStores [t] v env=pure none:=by
 cases t with
 |Tuple bp k p=>cases v <;> first |rfl |exact ba h.symm
 |List bp p=>cases v <;> first |rfl |exact ba h.symm
 |_=>rfl
theorem SV {t v:PySem.Expr}(h:f3 t=none) (af:z8 t=false):swappedStores [t] v env=pure none:=by
 cases t <;> first |rfl |exact ba h.symm |exact ez af
section
variable (S:bP w R) (oo:∀{fr t v st r},R.as n fr t v st=some r→isStar t=false) {t e it:PySem.Expr}{p:Pos}
include S oo
theorem Bo (aw:mQ e=false) (hw:∀{c env},cO c fr env→swappedStores [t] e env=pure none):ae (iE w n fr (exec (.Assign [t] e p)) st) (q7 R n fr t e st):=ae.b fun x h1=>ae.m fun y af=>SN S h1 af aw hw (oo af)
theorem SW {vs:List PySem.Expr}{k:Nat}{om:Pos}:ae (iE w n fr (exec (.Assign [t] (.Tuple vs k om) p)) st) (EV R n fr t (.Tuple vs k om) vs st) :=
 ae.o (fun bp bT=>by
  obtain ⟨az,di,rfl⟩:=N4 bT
  exact ae.o (fun xs b2=>ae.de fun q=>ae.b fun x h1=>ae.b fun us dI=>ae.de fun dT=>ae.bO (SD S b2 (Bool.and_eq_true_iff.mp q).1 (Bool.and_eq_true_iff.mp q).2 h1 dI (Nat.eq_of_beq_eq_true dT))) fun b2=>Bo S oo rfl fun F=>SQ F b2)
  fun bT=>ae.cf fun q=>Bo S oo rfl fun _=>SV bT q
theorem SX:ae (iE w n fr (exec (.Assign [t] e p)) st) (tN R n fr t e st):=by
 have z:=n0 e
 have key:f3 e=none→ae (iE w n fr (exec (.Assign [t] e p)) st) (bif mQ e then none else q7 R n fr t e st):=fun h=>ae.cf fun q=>Bo S oo q fun _=>SU h
 unfold tN
 cases bA:e1 e with
 |lc elt gens sc dz =>
  rw[bA] at z
  rw[show e=.ListComp elt gens sc dz from z]
  exact ae.b fun x bA=>ae.de fun q=>ae.m fun y bU=>by
   obtain ⟨q,bf⟩:=Bool.and_eq_true_iff.mp q
   obtain ⟨dT,d9⟩:=Bool.and_eq_true_iff.mp q
   rw[tW bA]
   exact Sm S bU (A0 (n1 bf)) (Nat.eq_of_beq_eq_true dT) (rj d9)
 |tup vs k om =>
  rw[bA] at z
  rw[show e=.Tuple vs k om from z]
  exact SW S oo
 |_=>exact key (by unfold f3;rw[bA];rfl)
omit oo in
theorem SY {body:List Stmt}:ae (iE w n fr (exec (.For t it body [] p)) st) (EW R n fr t it body st) :=
 ae.o (fun e he=>ae.b fun x h1=>ae.b fun src af z aB=>jr he fun y bU he=>jr he fun nm bc he=>jr he fun a b2 he=>(ae.de fun q=>ae.bO (fun G1=>by
  have G2:=n0 it
  obtain ⟨aS,q⟩:=Bool.and_eq_true_iff.mp q
  obtain ⟨bf,q⟩:=Bool.and_eq_true_iff.mp q
  obtain ⟨dT,d9⟩:=Bool.and_eq_true_iff.mp q
  have S0:it=.Call y.1 y.2.1 y.2.2.1 y.2.2.2:=by
   cases bA:e1 it with
   |call f args gV p=>rw[bA] at bU G2;rw[←cb bU];exact G2
   |_=>rw[bA] at bU;exact ba bU
  rw[S0,tW bc,mW b2,List.isEmpty_iff.mp aS,G1]
  exact SK S bf (Aq dT) (G1▸rj d9) h1 af aB):ae (fun b=>b=e→iE w n fr (exec (.For t it body [] p)) st z) _) _ he rfl)
  fun _=>ae.cf fun q=>ae.b fun x h1=>ae.b fun src af z aB=>SE S q h1 af aB
theorem S1 {e:Stmt}:ae (iE w n fr (exec e) st) (q8 R n fr e st):=by
 cases e with
 |Expr e _=>exact ae.cf fun q=>ae.m fun x h1=>⟨fun o=>S.dm h1 o,fun aa A c env s Q aE F P k=>wpAny_Expr_any (S.ev h1 aa aE F P fun aK bX bK x aG aX v1=>k aK bX bK _ aG aX .next) (by unfold interactive;rw[F.sc,F.kind];rfl) (SS q)⟩
 |Assign bp e _=>exact ae.b fun t bT=>by rw[mW bT];exact SX S oo
 |Return e _=>cases e with
  |none=>exact ae.bO ⟨fun o=>o,fun aa A c env s Q aE F P k=>wpAny_Return_none (k c s.heap s.toks _ .refl P (.ret .none))⟩
  |some e=>exact ae.m fun x h1=>⟨fun o=>S.dm h1 o,fun aa A c env s Q aE F P k=>wpAny_Return_some (S.ev h1 aa aE F P fun aK bX bK x aG aX v1=>k aK bX bK _ aG aX (.ret v1))⟩
 |If t a b _=>exact ae.b fun x h1 z af=>⟨fun o=>S.iF h1 (S.m1 af o),fun aa A c env s Q aE F P k=>wpAny_If (S.es h1 (S.m1 af aa) aE F P fun aK bX bK aG aX=>by
  cases bA:x.1 <;> (rw[bA] at af;exact S.ex (s:=a9 s bX bK) af aa aE (F.cA aG) aX (k.h8 aG)))⟩
 |For t it body o _=>exact ae.de fun q=>by rw[List.isEmpty_iff.mp q];exact SY S
 |While t body o _=>exact ae.de fun q z h1=>by rw[List.isEmpty_iff.mp q];exact ⟨(S.wX z h1).1,fun aa A c env s Q aE F P k=>wpAny_While ((S.wX z h1).2 aa (Bm A w env Q) aE F P k)⟩
 |Pass _=>exact ae.bO ⟨fun o=>o,fun aa A c env s Q aE F P k=>wpAny_Pass (k c s.heap s.toks _ .refl P .next)⟩
 |_=>exact ae.no
end
end
section
variable {w:World}{R:dO}{A:Around}{c:br}{st st' : ax}{s:Shared}{ls:List (Str×V)}{n:Nat}{H:List aj}{h h' : Heap}{r:V}
theorem aH.S2 {g:Str→Option V}(cl:List (Str×Addr)):∀{c:br}{H:List aj},aH w c ls H h→(cl.map (·.2)).Nodup→(∀ x∈cl,Off c H x.2∧gU w c.im c.ρ h (x.2,x.2) (.cell (g x.1))) →
 aH w {c with ρ:=c.ρ++cl.map fun x=>(x.2,x.2)} ls (H++cl.map fun x=>aj.cell (g x.1)) h:=by
 induction cl with
 |nil=>intro c H R _ _;rw[List.map_nil,List.map_nil,List.append_nil,List.append_nil];exact R
 |cons x r aI =>
  intro c H R ef k
  obtain ⟨aG,a4⟩:=List.nodup_cons.mp ef
  have c1:aH w {c with ρ:=c.ρ++[(x.2,x.2)]} ls (H++[aj.cell (g x.1)]) h:=R.adopt (fun a m=>by rw[List.mem_singleton.mp m];exact (k x (.head _)).1) (fun _ _ _ e=>e) ((k x (.head _)).2.mono (fun _ _ e=>e) (fun _ _ e=>o6 e) fun _ _ _ e=>e)
  have AL:=aI c1 a4 fun y m=>⟨⟨fun q=>(GI R.rep.len q).elim (k y (.tail _ m)).1.1 fun q=>aG (List.mem_map.mpr ⟨y,m,List.mem_singleton.mp q⟩),(k y (.tail _ m)).1.2⟩,(k y (.tail _ m)).2.mono (fun _ _ e=>e) (fun _ _ e=>o6 e) fun _ _ _ e=>e⟩
  rw[List.map_cons,List.map_cons,←List.append_cons,←List.append_cons] at *
  exact AL
theorem cellsFrom_names {names:List (Str×NameKind)}:∀{k:Nat}{acc:List (Str×Addr)},(cellsFrom k names acc).map (·.1)=(ee names).reverse++acc.map (·.1):=by
 induction names with
 |nil=>exact fun {k acc}=>rfl
 |cons x r aI =>
  intro k acc
  unfold cellsFrom ee
  split
  ·rw[aI,List.reverse_cons,List.append_assoc];rfl
  ·exact aI
theorem S3 {x:Str}{i:Nat}{cl:List (Str×Addr)}:∀{k:Nat},look x ((cl.map (·.1)).zip (List.range' k (cl.map (·.1)).length))=some i→∃ j y,i=k+j∧cl[j]?=some y∧y.1=x:=by
 induction cl with
 |nil=>exact fun e=>ba e
 |cons y r aI =>
  intro k e
  rw[List.map_cons,List.length_cons,List.range'_succ,List.zip_cons_cons] at e
  cases q:seq x y.1 with
  |true=>rw[h4 q] at e;exact ⟨0,y,(cb e).symm,rfl,(d8.mp q).symm⟩
  |false =>
   rw[h5 q] at e
   obtain ⟨j,z,ao,aC,cL⟩:=aI e
   exact ⟨j+1,z,ao.trans (by omega),aC,cL⟩
theorem S4 (K:hG w c.im):pg c.im 889 885 :=
 ⟨eZ "_law_view" "_law_view" 1918 1922 919 0 3 884 885 true (.ref 886) (.ref 887) (.ref 888),K 889 _ (by kernel_rfl) (by kernel_rfl) (by kernel_rfl),fun h e=>⟨_,_,_,_,_,_,_,_,_,e,rfl,rfl,rfl,rfl,rfl,rfl,rfl,rfl,by decide⟩⟩
theorem S5 (K:hG w c.im):pg c.im 953 951 :=
 ⟨eZ "law" "law" 2021 2024 1052 1 3 950 951 true .none .none (.ref 952),K 953 _ (by kernel_rfl) (by kernel_rfl) (by kernel_rfl),fun h e=>⟨_,_,_,_,_,_,_,_,_,e,rfl,rfl,rfl,rfl,rfl,rfl,rfl,rfl,by decide⟩⟩
structure G3 (fi:eR) (env:Env) (L:Addr):Prop where
 ao:env.scope=fi.fd.scope
 S6:fi.fd.scope.kind=.function
 aC:env.locals=L
 cL:env.globals=3
 gG:env.builtins=0
 k4:env.code=fi.fd.code
 Bp:env.qual=fi.fd.qualname ++ ".<locals>."
 xu:w2 fi=true
theorem S7 {fi:eR}{env:Env}{L:Addr}{ρ:c5}{i:Nat}{q:Str}(E:G3 fi env L) (az:kj ρ) (K:hG w c.im) (e:fi.tab=some (i,q)):q=env.qual ++ "<lambda>"∧∃ cd p,env.code=.ref cd∧ρ[i]?=some p∧pg c.im cd p.1:=by
 have z:=E.xu
 unfold w2 at z
 rw[e] at z
 obtain ⟨t1,Gl⟩:=Bool.and_eq_true_iff.mp z
 refine ⟨by rw[E.Bp];exact d8.mp t1,kZ Gl fun a b2 t3=>?_⟩
 rw[E.k4,tV b2]
 rcases Bool.or_eq_true_iff.mp t3 with t3 |t3
 ·obtain ⟨bS,fa⟩:=Bool.and_eq_true_iff.mp t3
  obtain ⟨⟨x,ex⟩,_⟩:=az
  rw[show i=0 from Nat.eq_of_beq_eq_true bS,Nat.eq_of_beq_eq_true fa]
  exact ⟨889,(885,x),rfl,ex,S4 K⟩
 ·obtain ⟨bS,fa⟩:=Bool.and_eq_true_iff.mp t3
  obtain ⟨_,x,ex⟩:=az
  rw[show i=1 from Nat.eq_of_beq_eq_true bS,Nat.eq_of_beq_eq_true fa]
  exact ⟨953,(951,x),rfl,ex,S5 K⟩
noncomputable abbrev xv (fi:eR) (args:List V) (k:Nat):a5:=⟨fi.fd.scope,(ee fi.fd.scope.names).zip (List.range' k (ee fi.fd.scope.names).length),fi.tab,hK fi.fd.scope.names (fi.ps.zip args)⟩
theorem S8 {f:cD}{g:Flow}(r:jD c w.params f g):aF w.params c.im c.ρ (iA f) (Nh g):=by
 cases r with
 |ret v=>exact v
 |_=>exact .none
theorem G4 (S:bP w R) {fi:eR}{env:Env}{L:Addr}{cl:List (Str×Addr)}{m:Str→Option Value}{args:List V}{h1:Heap}{bK:Tok}{Q:Value→Shared→Prop}{x}
 (bA:R.ex n (xv fi args st.H.length) fi.body ⟨st.H++(ee fi.fd.scope.names).map (fun x=>aj.cell (look x (fi.ps.zip args))),st.aa⟩=some x)
 (aa:x.2.2.aa) (aE:dA A n) (az:kj c.ρ) (P:Rep w c.im c.ρ st.H s.heap) (dh:hG w c.im) (E:G3 fi env L)
 (aZ:s.heap.get? L=none) (ar:∀ b o,s.heap.get? b=some o→h1.get? b=some o) (bc:h1.Ns L m) (gY:ka w.params c.im c.ρ (hK fi.fd.scope.names (fi.ps.zip args)) m)
 (aK:cl.map (·.1)=ee fi.fd.scope.names) (bw:(cl.map (·.2)).Nodup)
 (da:∀ x∈cl,s.heap.get? x.2=none∧x.2≠L∧env.cells.lookup x.1=some x.2∧gU w c.im c.ρ h1 (x.2,x.2) (.cell (look x.1 (fi.ps.zip args))))
 (k:∀ c' h' az z,b3 s.heap ⟨e3 c.ρ st.H s.heap,L,c.im,c.ρ⟩ h' c'→aH w c' x.2.1 x.2.2.H h'→aF w.params c'.im c'.ρ (iA x.1) z→Q z (a9 s h' az)) :
 wpAny (aU w) A (execs fi.body env) (fun g e4=>Q (match g with |.ret v=>v |_=>.none) e4) bo (a9 s h1 bK):=by
 have aX:=(P.enter dh ar bc gY aZ).S2 (g:=fun x=>look x (fi.ps.zip args)) cl bw fun x z1=>by
  obtain ⟨aS,bf,_,d9⟩:=da x z1
  exact ⟨⟨fun o=>let ⟨aa,e⟩:=P.here o;ba (aS.symm.trans e),bf,mO fun o q=>ba (aS.symm.trans (P.cM q)),mO fun o q=>ba (aS.symm.trans (og.mp q).2)⟩,d9⟩
 have S9:(cl.map fun x=>aj.cell (look x.1 (fi.ps.zip args)))=(ee fi.fd.scope.names).map (fun x=>aj.cell (look x (fi.ps.zip args))):=by rw[←aK,List.map_map];rfl
 rw[S9] at aX
 have le:hp c.ρ (c.ρ++cl.map fun x=>(x.2,x.2)):=fun i p e=>by
  rw[List.getElem?_append_left (List.getElem?_eq_some_iff.mp e).1];exact e
 have nb:b3 s.heap ⟨e3 c.ρ st.H s.heap,L,c.im,c.ρ⟩ h1 ⟨e3 c.ρ st.H s.heap,L,c.im,c.ρ++cl.map fun x=>(x.2,x.2)⟩:=⟨⟨rfl,rfl,fun _ _ e=>e,le,fun _ _ e=>.inl e⟩,.of_keep ar⟩
 refine S.ex (s:=a9 s h1 bK) (c:=⟨e3 c.ρ st.H s.heap,L,c.im,c.ρ++cl.map fun x=>(x.2,x.2)⟩) bA aa aE (env:=env) ⟨E.ao,E.S6,E.aC,E.cL,E.gG,fun x i e=>?_,fun i q e=>S7 (c:=c) E (az.mono le) dh e,az.mono le⟩ aX fun bw af cU g a4 b8 f2=>k _ af cU _ (nb.trans a4) b8 (S8 f2)
 have e:look x ((ee fi.fd.scope.names).zip (List.range' st.H.length (ee fi.fd.scope.names).length))=some i:=e
 rw[←aK] at e
 obtain ⟨j,y,rfl,G5,rfl⟩:=S3 e
 refine ⟨(y.2,y.2),?_,(da y (List.mem_of_getElem? G5)).2.2.1⟩
 show (c.ρ++_)[st.H.length+j]?=_
 rw[←P.len,List.getElem?_append_right (Nat.le_add_right _ _),Nat.add_sub_cancel_left,List.getElem?_map,G5]
 rfl
end
section
variable {w:World}{R:dO}{A:Around}{c:br}{st st' : ax}{s:Shared}{ls:List (Str×V)}{n:Nat}{H:List aj}{h h' : Heap}{r:V}
theorem Bq {names:List (Str×NameKind)}{x:Str}{v:V}{l:List (Str×V)}:look x (hK names l)=some v→look x names=some .local∧look x l=some v:=by
 induction l with
 |nil=>exact fun e=>ba e
 |cons y t aI =>
  obtain ⟨y,u⟩:=y
  show look x (bif h2 (look y names) then (y,u)::hK names t else hK names t)=some v→look x names=some .local∧look x ((y,u)::t)=some v
  cases z:seq x y with
  |true =>
   rw[h4 z,←d8.mp z]
   cases q:h2 (look x names) with
   |true=>exact fun e=>⟨n1 q,(h4 (lT _)).symm.trans e⟩
   |false=>exact fun e=>ez ((congrArg h2 (aI e).1).symm.trans q)
  |false =>
   rw[h5 z]
   cases h2 (look y names) with
   |true=>exact fun e=>aI ((h5 z).symm.trans e)
   |false=>exact aI
theorem Ta {x y:Str}(h:seq x y=false):x≠y:=fun e=>by rw[e,lT] at h;exact ez h
theorem Tb {kindOf:Str→Option NameKind}{x:Str}{b:List (Str×Value)}:∀{m:Str→Option Value},x ∉ b.map (·.1)→bindL kindOf b m x=m x:=by
 induction b with
 |nil=>exact fun _=>rfl
 |cons y t aI =>
  intro m q
  rw[List.map_cons,List.mem_cons,not_or] at q
  unfold bindL
  rw[aI q.2]
  split
  ·exact if_neg q.1
  ·rfl
theorem Tc {kindOf:Str→Option NameKind}{x:Str}{b:List (Str×Value)}:∀{m:Str→Option Value},x ∉ b.map (·.1)→bindC kindOf b m x=m x:=by
 induction b with
 |nil=>exact fun _=>rfl
 |cons y t aI =>
  intro m q
  rw[List.map_cons,List.mem_cons,not_or] at q
  unfold bindC
  rw[aI q.2]
  split
  ·rfl
  ·exact if_neg q.1
theorem Br {α β:Type}{ps:List α}{xs:List β}{x:α}(m:x∈(ps.zip xs).map (·.1)):x∈ps:=by
 obtain ⟨y,q,rfl⟩:=List.mem_map.mp m
 exact (List.of_mem_zip q).1
section
variable {P:Params}{im:ct}{ρ:c5}{kindOf:Str→Option NameKind}{x:Str}{v:V}{vs:List V}{xs:List Value}
theorem Td (bA:kindOf x=some .local) (r:aW P im ρ vs xs):∀{ps:List Str}{m:Str→Option Value},ps.Nodup→look x (ps.zip vs)=some v→∃ y,bindL kindOf (ps.zip xs) m x=some y∧aF P im ρ v y :=
 aW.ind (Q:=fun vs xs=>∀{ps:List Str}{m:Str→Option Value},ps.Nodup→look x (ps.zip vs)=some v→∃ y,bindL kindOf (ps.zip xs) m x=some y∧aF P im ρ v y) (fun {ps m} _ e=>by rw[List.zip_nil_right] at e;exact ba e) (fun {u y us ys} a _ aI=>fun {ps m} ef e=>by
  cases ps with
  |nil=>exact ba e
  |cons p ps =>
   obtain ⟨aG,a4⟩:=List.nodup_cons.mp ef
   rw[List.zip_cons_cons] at e ⊢
   cases z:seq x p with
   |true =>
    rw[h4 z] at e
    have z:=d8.mp z
    subst z
    refine ⟨y,?_,cb e▸a⟩
    show bindL kindOf (ps.zip ys) _ x=_
    rw[Tb fun q=>aG (Br q),if_pos bA,if_pos rfl]
   |false=>rw[h5 z] at e;exact aI a4 e) r
noncomputable def G6 (P:Params) (im:ct) (ρ:c5) (o:Option V) (b d:Option Value):Prop:=match o with
 |some v=>∃ y,b=some y∧aF P im ρ v y
 |none=>b=d
theorem Te (bA : ¬ kindOf x=some .local) (r:aW P im ρ vs xs):∀{ps:List Str}{m:Str→Option Value},ps.Nodup→G6 P im ρ (look x (ps.zip vs)) (bindC kindOf (ps.zip xs) m x) (m x) :=
 aW.ind (Q:=fun vs xs=>∀{ps:List Str}{m:Str→Option Value},ps.Nodup→G6 P im ρ (look x (ps.zip vs)) (bindC kindOf (ps.zip xs) m x) (m x)) (fun {ps m} _=>by rw[List.zip_nil_right,List.zip_nil_right];exact rfl) (fun {u y us ys} a _ aI=>fun {ps m} ef=>by
  cases ps with
  |nil=>exact rfl
  |cons p ps =>
   obtain ⟨aG,a4⟩:=List.nodup_cons.mp ef
   rw[List.zip_cons_cons,List.zip_cons_cons]
   cases z:seq x p with
   |true =>
    rw[h4 z]
    have z:=d8.mp z
    subst z
    refine ⟨y,?_,a⟩
    show bindC kindOf (ps.zip ys) _ x=_
    rw[Tc fun q=>aG (Br q),if_neg bA,if_pos rfl]
   |false =>
    rw[h5 z]
    have aI:=aI (ps:=ps) (m:=if kindOf p=some .local then m else fun q=>if q=p then some y else m q) a4
    have e:(if kindOf p=some .local then m else fun q=>if q=p then some y else m q) x=m x:=by
     split
     ·rfl
     ·exact if_neg (Ta z)
    rw[e] at aI
    exact aI) r
theorem Tf (r:aW P im ρ vs xs):∀{ps:List Str},look x (ps.zip vs)=some v→∃ y,look x (ps.zip xs)=some y∧aF P im ρ v y :=
 aW.ind (Q:=fun vs xs=>∀{ps:List Str},look x (ps.zip vs)=some v→∃ y,look x (ps.zip xs)=some y∧aF P im ρ v y) (fun {ps} e=>by rw[List.zip_nil_right] at e;exact ba e) (fun {u y us ys} a _ aI=>fun {ps} e=>by
  cases ps with
  |nil=>exact ba e
  |cons p ps =>
   rw[List.zip_cons_cons] at e ⊢
   cases z:seq x p with
   |true=>rw[h4 z] at e ⊢;exact ⟨y,rfl,cb e▸a⟩
   |false=>rw[h5 z] at e ⊢;exact aI e) r
end
theorem G7 {x:Str}{names:List (Str×NameKind)}:x∈ee names↔(x,NameKind.cell)∈names:=by
 induction names with
 |nil=>exact ⟨fun m=>absurd m List.not_mem_nil,fun m=>absurd m List.not_mem_nil⟩
 |cons y t aI =>
  unfold ee
  split
  ·rename_i q
   rw[List.mem_cons,List.mem_cons,aI,show y=(y.1,NameKind.cell) from Prod.ext rfl (eq_of_beq q)]
   exact or_congr ⟨fun e=>by rw[e],fun e=>(Prod.mk.inj e).1⟩ Iff.rfl
  ·rename_i q
   rw[List.mem_cons,aI]
   exact ⟨.inr,fun m=>m.resolve_left fun e=>q (by rw[←e];rfl)⟩
theorem lookup_mem {α:Type}{x:Str}{v:α}{l:List (Str×α)}(ef:(l.map (·.1)).Nodup) (m:(x,v)∈l):l.lookup x=some v:=by
 rw[lU];exact (xt ef).mp m
theorem Tg {α β:Type}{ps:List α}:∀{xs:List β},ps.Nodup→((ps.zip xs).map (·.1)).Nodup:=by
 induction ps with
 |nil=>exact fun _=>.nil
 |cons p ps aI =>
  intro xs ef
  cases xs with
  |nil=>exact .nil
  |cons x xs =>
   obtain ⟨aG,a4⟩:=List.nodup_cons.mp ef
   exact List.nodup_cons.mpr ⟨fun m=>aG (Br m),aI a4⟩
theorem Th (H l:List aj):tP H l=H++l:=by
 cases l with
 |nil=>exact (List.append_nil H).symm
 |cons o r=>rfl
noncomputable def rA (w:World) (n:Nat) (a:Addr) (args:List V) (st:ax) (r:V×ax):Prop:=(r.2.aa→st.aa)∧(r.2.aa→∀{A:Around}{c:br}{s:Shared}{xs:List Value}(Y:Result→Shared→Prop),dA A (n+1)→kj c.ρ→Rep w c.im c.ρ st.H s.heap→hG w c.im→aW w.params c.im c.ρ args xs →
 (∀ L c' bM h' az x,b3 s.heap ⟨e3 c.ρ st.H s.heap,L,c.im,c.ρ⟩ h' c'→aH w c' bM r.2.H h'→aF w.params c'.im c'.ρ r.1 x→Y (.ok (.ret x)) (a9 s h' az))→codeAny (aU w) A (.call (.ref a) ⟨xs,[]⟩) Y s)
theorem Ti {a:Addr}{args:List V}{r z}(g:rA w n a args st r) (h:fin st.H.length r.1 r.2=some z):rA w n a args st z :=
 ⟨fun o=>g.1 (uf h o),fun aa A c s xs Y aE az P dh bC k=>g.2 (uf h aa) Y aE az P dh bC fun L c' bM h' az x aG aX v1=>by
  obtain ⟨m,_,bc⟩:=aX.ns
  obtain ⟨_,bw,a4,b8,v2,_⟩:=AR (ls:=[]) h ⟨⟨m,(fun x v e=>ba e),bc⟩,aX.rep,aX.dh,aX.keep,aX.own,aX.fr⟩ aG P.len (fun x v e=>ba e) v1
  exact k L bw [] h' az x a4 b8 v2⟩
structure Tj (fi:eR):Prop where
 s1:∀ x∈fi.ps,look x fi.fd.scope.names=some .local∨look x fi.fd.scope.names=some .cell
 s2:(ee fi.fd.scope.names).Nodup
 s3:fi.ps.Nodup
 s4:fi.fd.closure=[]
 s5:w2 fi=true
 sZ:∀ x∈ee fi.fd.scope.names,look x fi.fd.scope.names=some .cell
theorem G8 {fi:eR}(h:AS fi=true):Tj fi:=by
 obtain ⟨h1,h⟩:=Bool.and_eq_true_iff.mp h
 obtain ⟨af,h⟩:=Bool.and_eq_true_iff.mp h
 obtain ⟨aB,h⟩:=Bool.and_eq_true_iff.mp h
 obtain ⟨bu,h⟩:=Bool.and_eq_true_iff.mp h
 obtain ⟨dB,eB⟩:=Bool.and_eq_true_iff.mp h
 exact ⟨fun x m=>(Bool.or_eq_true_iff.mp (List.all_eq_true.mp h1 x m)).imp n1 wG,w8 af,w8 aB,List.isEmpty_iff.mp bu,dB,fun x m=>wG (List.all_eq_true.mp eB x m)⟩
section
variable {fi:eR}{a:Addr}{vs:List V}{xs:List Value}{Y:Result→Shared→Prop}{x:cD×List (Str×V)×ax}
theorem xw {fi:eR}(k:Nat):(cellsFrom k fi.fd.scope.names []).map (·.1)=(ee fi.fd.scope.names).reverse:=by rw[cellsFrom_names];exact List.append_nil _
theorem Tn (S:bP w R) (hf:c2 a dD=some fi) (bt:bindArgs fi.fd ⟨xs,[]⟩=pure (fi.ps.zip xs)) (bA:R.ex n (xv fi vs st.H.length) fi.body ⟨st.H++(ee fi.fd.scope.names).map (fun x=>aj.cell (look x (fi.ps.zip vs))),st.aa⟩=some x) (aa:x.2.2.aa) (aE:dA A (n+1)) (az:kj c.ρ)
 (P:Rep w c.im c.ρ st.H s.heap) (dh:hG w c.im) (bC:aW w.params c.im c.ρ vs xs) (k:∀ L c' bM h' az z,b3 s.heap ⟨e3 c.ρ st.H s.heap,L,c.im,c.ρ⟩ h' c'→aH w c' bM x.2.2.H h'→aF w.params c'.im c'.ρ (iA x.1) z→Y (.ok (.ret z)) (a9 s h' az)) :
 codeAny (aU w) A (.call (.ref a) ⟨xs,[]⟩) Y s:=by
 have bh:=w4 (w:=w) hf
 have K:eP w s.heap:=mV dh fun _ _=>P.cM
 have k5:=G8 bh.sc
 have G9:∀ k,((cellsFrom k fi.fd.scope.names []).map (·.1)).Nodup:=fun k=>by rw[xw];exact uw k5.s2
 refine codeAny_call_cells aE.depth (bh.get K) rfl (zu K) (F7 K bh.code) bh.body bt k5.s4 (fun x m=>?_) (fun dP gp=>?_) bh.co bh.gen bh.kind
 ·refine (k5.s1 _ (List.of_mem_zip m).1).imp lU.trans fun q=>⟨lU.trans q,?_⟩
  have:x.1∈(cellsFrom (s.heap.objs.size+1) fi.fd.scope.names []).map (·.1):=by
   rw[xw];exact List.mem_reverse.mpr (G7.mpr (nZ q))
  obtain ⟨y,kV,To⟩:=List.mem_map.mp this
  rw[←To,lookup_mem (G9 _) kV];rfl
 ·obtain ⟨h1,bK,ao⟩:=gp.toInCall.same
  subst ao
  have kd:∀ y,(callEnvC fi.fd s.heap.objs.size a).kindOf y=look y fi.fd.scope.names:=fun y=>lU
  refine xj (G4 S (env:=callEnvC fi.fd s.heap.objs.size a) (cl:=(cellsFrom (s.heap.objs.size+1) fi.fd.scope.names []).reverse) (Q:=fun v e4=>Y (.ok (.ret v)) e4) bA aa aE.deeper az P dh ⟨rfl,bh.kind,rfl,bh.glob,bh.blt,rfl,rfl,k5.s5⟩ (Heap.iy (Nat.le_refl _)) gp.toInCall.keep gp.toInCall.ns
   (fun y v e=>Td ((kd y).trans (Bq e).1) bC k5.s3 (Bq e).2) (by rw[List.map_reverse,xw,List.reverse_reverse]) (by rw[List.map_reverse];exact uw (List.pairwise_map.mpr gp.apart)) (fun y kV=>?_) fun c' h' az z=>k _ c' _ h' az z)
  have kV:=List.mem_reverse.mp kV
  have Ha:=lookup_mem (G9 _) kV
  have Hb:=gp.above y.1 y.2 kV
  have Tp:y.1∈ee fi.fd.scope.names:=by
   have:=List.mem_map_of_mem (f:=(·.1)) kV
   rw[xw] at this
   exact List.mem_reverse.mp this
  refine ⟨Heap.iy (Nat.le_of_lt Hb),Nat.ne_of_gt Hb,Ha,?_⟩
  have z:=Te (m:=fun _=>none) (kindOf:=(callEnvC fi.fd s.heap.objs.size a).kindOf) (x:=y.1) (by rw[kd,k5.sZ _ Tp];decide) bC k5.s3
  have Bs:=gp.cell y.1 y.2 Ha
  revert z
  cases look y.1 (fi.ps.zip vs) with
  |none=>exact fun z=>by rw[show bindC _ _ _ _=none from z] at Bs;exact Bs
  |some v=>exact fun z=>by obtain ⟨u,h1,af⟩:=z;exact ⟨u,h1▸Bs,af⟩
theorem Hc (S:bP w R) (hf:c2 a dD=some fi) (ux:ee fi.fd.scope.names=[]) {ys:List Value}(m3:aW w.params c.im c.ρ vs ys) (Tq:BindsTo s fi.fd ⟨xs,[]⟩ (fi.ps.zip ys)) (bA:R.ex n (xv fi vs st.H.length) fi.body ⟨st.H++(ee fi.fd.scope.names).map (fun x=>aj.cell (look x (fi.ps.zip vs))),st.aa⟩=some x) (aa:x.2.2.aa) (aE:dA A (n+1)) (az:kj c.ρ)
 (P:Rep w c.im c.ρ st.H s.heap) (dh:hG w c.im) (k:∀ L c' bM h' az z,b3 s.heap ⟨e3 c.ρ st.H s.heap,L,c.im,c.ρ⟩ h' c'→aH w c' bM x.2.2.H h'→aF w.params c'.im c'.ρ (iA x.1) z→Y (.ok (.ret z)) (a9 s h' az)) :
 codeAny (aU w) A (.call (.ref a) ⟨xs,[]⟩) Y s:=by
 have bh:=w4 (w:=w) hf
 have K:eP w s.heap:=mV dh fun _ _=>P.cM
 have k5:=G8 bh.sc
 have Hd:∀{y},(y,NameKind.cell) ∉ fi.fd.scope.names:=fun m=>by have:=G7.mpr m;rw[ux] at this;exact List.not_mem_nil this
 refine codeAny_call_def aE.depth (bh.get K) rfl (zu K) (F7 K bh.code) bh.body Tq (fun x m q=>Hd (y:=x.1) (q▸m)) (fun x m=>(k5.s1 _ (List.of_mem_zip m).1).elim lU.trans fun q=>absurd (nZ q) Hd) (fun h₀ m5 ar=>?_) bh.co bh.gen bh.kind
 refine xj (G4 S (env:=callEnv fi.fd s.heap.objs.size a) (cl:=[]) (h1:=h₀) (Q:=fun v e4=>Y (.ok (.ret v)) e4) bA aa aE.deeper az P dh ⟨rfl,bh.kind,rfl,bh.glob,bh.blt,rfl,rfl,k5.s5⟩ (Heap.iy (Nat.le_refl _)) ar m5
  (fun y v e=>?_) (by rw[ux];rfl) .nil (fun y kV=>absurd kV List.not_mem_nil) fun c' h' az z=>k _ c' _ h' az z)
 obtain ⟨u,ao,aC⟩:=Tf m3 (Bq e).2
 have ef:((fi.ps.zip ys).map (·.1)).Nodup:=Tg k5.s3
 exact ⟨u,lookup_mem (by rw[List.map_reverse];exact uw ef) (List.mem_reverse.mpr ((xt ef).mpr ao)),aC⟩
theorem He {args:List V}:ae (fun vs=>(vs=args∧args.length=fi.ps.length)∨(vs=args++fi.iX∧args.length+fi.iX.length=fi.ps.length∧(!fi.iX.isEmpty)=true)) (kh fi args) :=
 ae.c (fun q=>ae.bO (.inl ⟨rfl,Nat.eq_of_beq_eq_true q⟩)) fun _=>ae.de fun q=>ae.bO (.inr ⟨rfl,Nat.eq_of_beq_eq_true (Bool.and_eq_true_iff.mp q).1,(Bool.and_eq_true_iff.mp q).2⟩)
theorem Hf (S:bP w R) {args:List V}(hf:c2 a dD=some fi) (aV:kh fi args=some vs) (bA:R.ex n (xv fi vs st.H.length) fi.body ⟨tP st.H ((ee fi.fd.scope.names).map (fun x=>aj.cell (look x (fi.ps.zip vs)))),st.aa⟩=some x):rA w n a args st (iA x.1,x.2.2):=by
 rw[Th] at bA
 refine ⟨fun o=>(S.m1 bA o:ax.aa ⟨_,st.aa⟩),fun aa A c s xs Y aE az P dh bC k=>?_⟩
 have K:eP w s.heap:=mV dh fun _ _=>P.cM
 cases hd:fi.iX.isEmpty with
 |true =>
  rcases He _ aV with ⟨rfl,l⟩ |⟨_,_,q⟩
  ·exact Tn S hf (Ql w hf hd xs (bC.length.symm.trans l)) bA aa aE az P dh bC k
  ·rw[hd] at q;exact dv q
 |false =>
  obtain ⟨e,ux,iH,hO⟩:=Qn (w:=w) hf (by rw[hd];rfl)
  rcases He _ aV with ⟨rfl,l⟩ |⟨rfl,l,_⟩
  ·exact Hc S hf ux bC (iH s xs K (bC.length.symm.trans l)) bA aa aE az P dh k
  ·rw[e] at l bA
   exact Hc S hf ux (ys:=xs++[.none]) (bC.append (.cons .none .nil)) (hO s xs K (bC.length▸l)) bA aa aE az P dh k
theorem rB (S:bP w R) {args:List V}(hf:c2 a dD=some fi):ae (rA w n a args st) (bI R n fi args st) :=
 ae.b fun vs aV=>ae.b fun x bA=>ae.c (fun _ z bZ=>Ti (Hf S hf aV bA) bZ) fun _=>ae.bO (Hf S hf aV bA)
end
theorem rA.Bt {a:Addr}{args:List V}{r:V×ax}{xs:List Value}{Y:Result→Shared→Prop}(g:rA w n a args st r) (aa:r.2.aa) (aE:dA A (n+1)) (az:kj c.ρ) (P:aH w c ls st.H s.heap) (bC:aW w.params c.im c.ρ args xs)
 (k:kl w c ls s r.1 r.2 fun x=>Y (.ok (.ret x))):codeAny (aU w) A (.call (.ref a) ⟨xs,[]⟩) Y s :=
 g.2 aa Y aE az P.rep P.dh bC fun L bw jJ af cU x c4 b8 v2=>k _ af cU x (c4.back P) (P.back b8 c4.le.kept c4.le.im c4.le.ρ c4.le.new) v2
end
section
variable {w:World}{R:dO}{A:Around}{c:br}{st st' : ax}{s:Shared}{ls:List (Str×V)}{n:Nat}{H:List aj}{h h' : Heap}{r:V}
theorem Tr {ps:Arguments}{a:Arg}(h:ps.args=[a]) (h1:ps.posonlyargs=[]) (af:ps.vararg=none) (aB:ps.kwonlyargs=[]) (bu:ps.kwarg=none):∃ an p kd l5,ps=⟨[],[⟨a.arg,an,p⟩],none,[],kd,none,l5⟩:=by
 obtain ⟨po,Ts,bC,Tt,kd,kw,l5⟩:=ps
 obtain ⟨x,an,p⟩:=a
 exact ⟨an,p,kd,l5,by rw[show po=[] from h1,show Ts=_ from h,show bC=none from af,show Tt=[] from aB,show kw=none from bu]⟩
theorem Tu {ps:Arguments}{sc:Scope}:ae (fun x=>(∃ an p kd l5,ps=⟨[],[⟨x,an,p⟩],none,[],kd,none,l5⟩)∧sc.kind=.function∧sc.isCoroutine=false∧sc.isGenerator=false∧(∀ x∈sc.names,x.2≠.cell)∧look x sc.names=some .local∧(x=⟨⟨[110,97,109,101]⟩⟩∨x=⟨⟨[110,111,100,101]⟩⟩)) (tQ ps sc) :=
 ae.b fun a b2=>ae.de fun q=>ae.bO<|by
  obtain ⟨aS,q⟩:=Bool.and_eq_true_iff.mp q
  obtain ⟨bf,q⟩:=Bool.and_eq_true_iff.mp q
  obtain ⟨dT,q⟩:=Bool.and_eq_true_iff.mp q
  obtain ⟨d9,q⟩:=Bool.and_eq_true_iff.mp q
  obtain ⟨kk,q⟩:=Bool.and_eq_true_iff.mp q
  obtain ⟨rC,q⟩:=Bool.and_eq_true_iff.mp q
  obtain ⟨xx,q⟩:=Bool.and_eq_true_iff.mp q
  obtain ⟨xy,q⟩:=Bool.and_eq_true_iff.mp q
  obtain ⟨Tv,Tw⟩:=Bool.and_eq_true_iff.mp q
  exact ⟨Tr (mW b2) (List.isEmpty_iff.mp aS) (Option.isNone_iff_eq_none.mp bf) (List.isEmpty_iff.mp dT) (Option.isNone_iff_eq_none.mp d9),beq_iff_eq.mp kk,rj rC,rj xx,fun x m=>bne_iff_ne.mp (List.all_eq_true.mp xy x m),n1 Tv,(Bool.or_eq_true_iff.mp Tw).imp d8.mp d8.mp⟩
theorem Tx {name qual x:Str}{an:Option PySem.Expr}{p:Pos}{kd:List (Option PySem.Expr)}{l5:List PySem.Expr}{body:PySem.Expr}{sc:Scope}{cl:List (Str×Addr)}{pm cd kS y:Value}(h:x=⟨⟨[110,97,109,101]⟩⟩∨x=⟨⟨[110,111,100,101]⟩⟩) :
 bindArgs (kla_fn name qual ⟨[],[⟨x,an,p⟩],none,[],kd,none,l5⟩ body sc cl pm cd kS) ⟨[y],[]⟩=pure [(x,y)]:=by
 rcases h with rfl |rfl <;> kernel_rfl
theorem dA.make {A:Around}{n:Nat}{a:Addr}{xs:List Value}(r:dA A (n+2)):dA (A.under (.builtin "type.__call__" ⟨.ref a::xs,[]⟩)) (n+1) :=
 ⟨by have:=r.d;show A.depth+1+(n+1)<_;omega,by have:=r.u;show A.units+1+10 * (n+1)+100<_;omega,r.h⟩
theorem Hg {b:Nat}{x z:V×ax}(h:nX b x=some z) (o:z.2.aa):x.2.aa:=(ae.o (fun _ _ z h=>uf h) fun _=>ae.bO id:ae (fun z=>z.2.aa→x.2.aa) (nX b x)) z h o
theorem Tz {b:Nat}{y z:V×ax}{c' : br}{x:Value}(hf:nX b y=some z) (R:aH w c' ls y.2.H h') (n:b3 h c h' c') (g6:c.ρ.length=b) (r:aF w.params c'.im c'.ρ y.1 x):∃ da,b3 h c h' da∧(∃ xA,aH w da xA z.2.H h')∧aF w.params da.im da.ρ z.1 x:=by
 refine (ae.o (fun i aM z hf=>?_) fun _=>ae.bO ⟨c',n,⟨_,R⟩,r⟩:ae (fun z=>∃ da,b3 h c h' da∧(∃ xA,aH w da xA z.2.H h')∧aF w.params da.im da.ρ z.1 x) (nX b y)) z hf
 obtain ⟨m,_,bc⟩:=R.ns
 obtain ⟨_,da,dN,l4,v4,_⟩:=AR (ls:=[]) hf ⟨⟨m,(fun x v e=>ba e),bc⟩,R.rep,R.dh,R.keep,R.own,R.fr⟩ n g6 (fun x v e=>ba e) r
 exact ⟨da,dN,⟨_,l4⟩,v4⟩
theorem TA {a:Addr}{bY:Heap}(P:aH w c ls st.H bY):∃ c',b3 bY c ((bY.push emptyDict).push (instObj a bY.objs.size)) c'∧aH w c' ls (st.H++[.inst a []]) ((bY.push emptyDict).push (instObj a bY.objs.size))∧c'.ρ[st.H.length]?=some (bY.objs.size+1,bY.objs.size)∧hp c.ρ c'.ρ:=by
 have bA:((bY.push emptyDict).push (instObj a bY.objs.size)).get? (bY.objs.size+1)=some (instObj a bY.objs.size):=by
  have:=Heap.get?_push_size (bY.push emptyDict) (o:=instObj a bY.objs.size) rfl
  rwa [Heap.size_push] at this
 have hd:((bY.push emptyDict).push (instObj a bY.objs.size)).get? bY.objs.size=some emptyDict:=Heap.get?_push_of_some _ (Heap.get?_push_size _ rfl)
 have keep:∀ b o,bY.get? b=some o→((bY.push emptyDict).push (instObj a bY.objs.size)).get? b=some o:=fun b o e=>Heap.get?_push_of_some _ (Heap.get?_push_of_some _ e)
 have le:hp c.ρ (c.ρ++[(bY.objs.size+1,bY.objs.size)]):=fun i q e=>o6 e
 refine ⟨{c with ρ:=c.ρ++[(bY.objs.size+1,bY.objs.size)]},⟨⟨rfl,rfl,fun _ _ x=>x,le,fun _ _ x=>.inl x⟩,.of_keep keep⟩,P.push (p:=(bY.objs.size+1,bY.objs.size)) (o:=.inst a []) keep (fun b m=>?_) ⟨[],0,bA,hd,.nil,Nat.succ_ne_self _⟩,?_,le⟩
 ·exact (List.mem_cons.mp m).elim (fun e=>e▸Nat.le_succ _) fun m=>List.mem_singleton.mp m▸Nat.le_refl _
 ·show (c.ρ++_)[st.H.length]?=_
  rw[←P.rep.len,List.getElem?_append_right (Nat.le_refl _),Nat.sub_self];rfl
theorem TB {v:V}(h:isNone v=true):v=.none:=by cases v <;> first |rfl |exact dv h
theorem TC (S:bP w R) {a:Addr}{args:List V}{ci fi x}(h1:c2 a hI=some ci) (af:c2 ci.init dD=some fi) (aB:bI R n fi (.ref st.H.length::args) ⟨st.H++[.inst a []],st.aa⟩=some x) (bc:isNone x.1=true):n8 w (n+2) (.obj (.ref a)) args st (.ref st.H.length,x.2):=by
 have g:=rB (w:=w) S af _ aB
 refine ⟨fun o=>(g.1 o:ax.aa ⟨_,st.aa⟩),fun aa A c ls s rD xs aE az P i1 bC Q k=>i1.objE ?_⟩
 have X:=kd_in (h:=s.heap) P.dh fun _ _=>P.rep.cM
 obtain ⟨f1,_,_,f2⟩:=ph w.params h1
 obtain ⟨g1,g2,_⟩:=Ay f2
 obtain ⟨c',cA,aX,hM,le⟩:=TA (a:=a) P
 obtain ⟨bY,TF,Bu,tt,os⟩:=s
 refine wpAny_call (make_core (makes_of (M:=aU w) X (n3 f1).2.2.2.2.2) (looks_findIn X g1) (fun self=>bind_fn X self g2) (.inl rfl) ?_)
 refine g.Bt (s:=⟨(bY.push emptyDict).push (instObj a bY.objs.size),TF,Bu,tt,os⟩) aa aE.make (az.mono le) aX (.cons (.ref hM) (bC.cA cA)) fun bw h' az x aG b8 v1=>?_
 rw[TB bc] at v1
 exact v1.ts ⟨rfl,k bw h' az _ (cA.trans aG) b8 (.ref (aG.le.ρ _ _ hM))⟩
theorem TG (S:bP w R) {ps:Arguments}{body:PySem.Expr}{sc:Scope}{v:V}{x y z}(h1:tQ ps sc=some x) (af:R.ev n ⟨sc,[],none,[(x,v)]⟩ body st=some y) (aB:nX st.H.length y=some z):n8 w (n+1) (.lam ps body sc) [v] st z:=by
 refine ⟨fun o=>S.dm af (Hg aB o),fun aa A c ls s rD xs aE az P i1 bC Q k=>bC.kT fun u v1=>i1.Em fun a lam=>?_⟩
 have K:eP w s.heap:=mV P.dh fun _ _=>P.rep.cM
 obtain ⟨⟨an,p,kd,l5,rfl⟩,aS,bf,dT,d9,kk,rC⟩:=Tu _ h1
 obtain ⟨name,qual,pm,lX,kS,ao,o,vs,t,aC,cL,gG⟩:=lam
 refine wpAny_call (kla_callFunE aE.depth (P.rep.cM ao) rfl bf dT rfl ⟨lX,o,vs,t,rfl,P.rep.cM aC,cL,gG⟩ ?_)
 rw[Tx rC]
 refine wpAny_pure (wpAny_newFunctionEnv d9 (fun z m=>by rw[List.mem_singleton.mp m];exact lU.trans kk) (fun k3 m5 pB=>⟨(zu K).fresh _ pB,?_⟩) aS)
 have ar:∀ b o,s.heap.get? b=some o→k3.get? b=some o:=fun b o e=>pB.extBut b o (Nat.ne_of_lt (Heap.lt_size e)) (Heap.get?_push_of_some _ e)
 have w9:=P.enter (bJ:=[(x,v)]) ar m5 (fun z xc e=>by
  cases q:seq z x with
  |true=>rw[h4 q] at e;rw[←cb e,d8.mp q];exact ⟨u,by rw[List.reverse_singleton,lU,h4 (lT x)],v1⟩
  |false=>rw[h5 q] at e;exact ba e) (Heap.iy (Nat.le_refl _))
 have nb:b3 s.heap ⟨e3 c.ρ st.H s.heap,s.heap.objs.size,c.im,c.ρ⟩ k3 ⟨e3 c.ρ st.H s.heap,s.heap.objs.size,c.im,c.ρ⟩:=.keep ar
 refine kla_codeExpr (xj (S.ev (s:=a9 s k3 _) af (Hg aB aa) aE.deeper (c:=⟨e3 c.ρ st.H s.heap,s.heap.objs.size,c.im,c.ρ⟩) ⟨rfl,aS,rfl,rfl,rfl,(fun z i e=>ba e),(fun i q e=>ba e),az⟩ w9 fun bw cu cU eG a4 b8 v2=>?_))
 have c4:=nb.trans a4
 obtain ⟨da,dN,⟨xA,l4⟩,v4⟩:=Tz aB b8 c4 P.rep.len v2
 exact k _ cu cU eG (dN.back P) (P.back l4 dN.le.kept dN.le.im dN.le.ρ dN.le.new) v4
theorem Hh {g:Value}{args:List V}{z}(h:g5 w g args st z):n8 w n (.obj g) args st z:=⟨h.1,fun aa A c ls s rD xs aE az P i1 bC Q k=>i1.objE (h.2 aa aE P bC Q k)⟩
theorem TH (S:bP w R) {a:Addr}{args:List V}:ae (n8 w (n+1) (.obj (.ref a)) args st) (Al R n a args st):=ae.b fun ci h1=>ae.b fun fi af=>by
 cases n with
 |zero=>exact ae.no
 |succ n=>exact ae.b fun x aB=>ae.de fun q=>ae.bO (TC S h1 af aB q)
theorem TJ (S:bP w R) {x:Value}{args:List V}:ae (n8 w (n+1) (.obj x) args st) (EZ R n x args st):=by
 cases x with
 |ref a=>exact ae.o (fun fi hf z bZ=>⟨(rB (w:=w) S hf z bZ).1,fun aa A c ls s rD xs aE az P i1 bC Q k=>i1.objE (wpAny_call ((rB S hf z bZ).Bt aa aE az P bC k))⟩) fun _=>TH S
 |builtin id=>exact fun z h=>Hh (PF z h)
 |type id=>exact fun z h=>Hh (PQ z h)
 |_=>exact ae.no
theorem TK (S:bP w R) {g:Addr}{self:V}{args:List V}{fi z}(hf:c2 g dD=some fi) (h:bI R n fi (self::args) st=some z):n8 w (n+1) (.fC g self) args st z :=
 ⟨(rB (w:=w) S hf z h).1,fun aa A c ls s rD xs aE az P i1 bC Q k=>i1.En fun y a ao v1=>wpAny_call (method_call (P.rep.cM ao) ((rB S hf z h).Bt aa aE az P (.cons v1 bC) k))⟩
theorem TL (S:bP w R) {f:V}{args:List V}:ae (n8 w n f args st) (tR R n f args st):=by
 cases n with
 |zero=>exact ae.no
 |succ n =>
  cases f with
  |obj x=>exact TJ S
  |lam ps body sc=>exact ae.b fun v aV=>ae.b fun x h1=>ae.b fun y af z aB=>by rw[mW aV];exact TG S h1 af aB
  |fC g self=>exact ae.b fun fi hf z h=>TK S hf h
  |_=>exact ae.no
end
section
variable {w:World}{R:dO}{A:Around}{c:br}{st st' : ax}{s:Shared}{ls:List (Str×V)}{n:Nat}{fr:a5}{env:Env}{H:List aj}{h h' : Heap}{r:V}
theorem TM (S:bP w R) {e:PySem.Expr}:ae (f7 w n fr e st) (pe R n fr e st):=by
 cases e with
 |Name x p=>exact ae.m fun v h=>⟨fun o=>o,fun aa A c env s aE F P Q k=>Fp F P v h Q fun y m3=>k c s.heap s.toks y .refl P m3⟩
 |Constant lX k p=>exact ae.m fun v h=>⟨fun o=>o,fun aa A c env s aE F P Q k=>Oz v h Q fun az y m3=>k c s.heap az y .refl P m3⟩
 |Attribute o nm p=>exact ae.de fun q=>ae.b fun x h1=>ae.m fun u af=>PU S q h1 af
 |Call f args gV p=>exact Qw S
 |Subscript o i p=>exact QP S
 |BinOp l op r p=>exact ae.b fun a h1=>ae.b fun b af z aB=>PW S h1 af aB
 |UnaryOp op x p=>exact ae.de fun q=>ae.b fun y h1=>ae.m fun i af=>by rw[O5 q];exact PX S h1 af
 |Compare l ops rs p=>exact ae.b fun op c8=>ae.b fun r bR=>ae.cf fun q=>ae.b fun a h1=>ae.b fun b af=>ae.m fun z aB=>by rw[mW c8,mW bR];exact PY S q h1 af aB
 |BoolOp op vs p=>exact ae.cf fun q=>ae.b fun v aV=>ae.b fun x h1=>ae.b fun b af=>by rw[wF aV,show op=.And by cases op <;> first |rfl |exact ez q];exact PZ S h1 af
 |IfExp t a b p=>exact ae.b fun q h1=>P0 S h1
 |Tuple aD k p=>exact ae.cf fun q=>ae.m fun x h1=>P1 S q h1
 |List aD p=>exact ae.cf fun q=>ae.m fun x h1=>P2 S q h1
 |Dict b6 vs p=>exact ae.b fun cy h1=>ae.de fun q=>ae.m fun x af=>QX S h1 q af
 |ListComp elt gens sc p=>exact Sj S
 |Lambda ps body sc p=>exact ae.b fun y h1=>ae.b fun z af=>ae.de fun q=>ae.bO (RX h1 af q)
 |_=>exact ae.no
end
noncomputable def Hi (R:dO):Prop:=∀{n fr t v st r},R.as n fr t v st=some r→isStar t=false
theorem TN {w:World}{R:dO}(S:bP w R) (a:Hi R):bP w (E0 R):=⟨TM S,Q8 S,Ra S (S1 S a),Ro S,TL S,Ry S,RB S,RH S⟩
theorem TO (w:World) (n:Nat):bP w (e2 n)∧Hi (e2 n):=by
 induction n with
 |zero=>exact ⟨PS w,fun h=>ba h⟩
 |succ n aI=>exact ⟨TN aI.1 aI.2,fun h=>SR h⟩
section
set_option tactic.hygienic true
theorem Bv {P:Params}{im:ct}{ρ:c5}:∀{xs:List Value}{ns:List Int},IntsAre xs ns→aW P im ρ (ns.map V.int) xs
 |_,_,.nil=>.nil
 |_,_,.cons i t h=>.cons (.int i t) (Bv h)
theorem TP {h:Heap}{a:Addr}{m f5:Str→Option Value}(x:h.Ns a m) (y:h.Ns a f5) (n:Str):m n=f5 n:=by
 obtain ⟨o,aD,iv,ao,aC,_,cL⟩:=x
 obtain ⟨o',Zv,Zw,hH,iW,_,TQ⟩:=y
 rw[ao] at hH;cases hH
 rw[aC] at iW;cases iW
 rw[←cL,TQ]
noncomputable def jK:ax:=⟨[.tab "_law_view.<locals>.<lambda>" [],.tab "law.<locals>.<lambda>" []],True⟩
noncomputable def Bw:Prop:=∀ ns:List Int,ns.length≤63→∃ N st' fi rE t0 aS t1,c2 954 dD=some fi∧bI (e2 N) 200 fi [.aN (ns.map .int)] jK=some (.bool true,st')∧st'.aa∧st'.H[0]?=some (.tab rE t0)∧st'.H[1]?=some (.tab aS t1)
theorem TR (w:World):gl w jo.1.name=some (.ref 954):=by kernel_rfl
open Classical in
noncomputable def l6 (h:Heap):ct:=fun b=>if b=885∨b=951 then none else h.get? b
section
variable {w:World}{h:Heap}
theorem TS {P:Params}{hr:Addr}{xs:List Value}{ns:List Int}(aZ:h.IsList hr xs.toArray) (w1:Well P h (.ref hr) (ofPy (PyData.list (ns.map PyData.int)))):∃ n,h.get? hr=some (fD xs n):=by
 cases w1 with
 |list ao wl =>
  obtain ⟨o,aC,_,n,cL⟩:=aZ
  rw[ao] at aC;cases aC
  injection cL with cL gG
  exact ⟨0,by rw[ao,cL]⟩
theorem TU:∀ a o,(full w.params).get a=some o→oZ o=true→a≠885∧a≠951:=by
 intro a o e k
 constructor
 ·rintro rfl
  have:(full w.params).get 885=some (iu []):=by kernel_rfl
  rw[this] at e;cases e;cases k
 ·rintro rfl
  have:(full w.params).get 951=some (iu []):=by kernel_rfl
  rw[this] at e;cases e;cases k
theorem TV {a:Addr}{o:Obj}(e:l6 h a=some o):h.get? a=some o:=by
 unfold l6 at e
 split at e
 ·cases e
 ·exact e
theorem TX (K:eP w h):hG w (l6 h):=fun a o ao aC cL=>by
 unfold l6
 obtain ⟨aG,a4⟩:=TU a o ao aC
 rw[if_neg (fun q=>q.elim aG a4)]
 exact K a o ao aC cL
theorem Hj {a:Addr}(x:Own [(885,885),(951,951)] jK.H a):a=885∨a=951:=by
 obtain ⟨i,p,o,ao,aC,m⟩:=x
 match i with
 |0=>cases ao;cases aC;exact .inl (List.mem_singleton.mp m)
 |1=>cases ao;cases aC;exact .inr (List.mem_singleton.mp m)
 |i+2=>cases ao
theorem TY (rF:h.get? 885=some (tabObj #[])) (rG:h.get? 951=some (tabObj #[])):Rep w (l6 h) [(885,885),(951,951)] jK.H h:=by
 refine ⟨rfl,?_,?_,TV,fun {a} x=>if_pos (Hj x)⟩
 ·intro i p o ao aC
  match i with
  |0=>cases ao;cases aC;exact ⟨[],rF,.nil⟩
  |1=>cases ao;cases aC;exact ⟨[],rG,.nil⟩
  |i+2=>cases ao
 ·intro i j p q o o' a ao aC m hH iW f5
  match i,j with
  |0,0=>rfl
  |1,1=>rfl
  |0,1=>cases ao;cases aC;cases hH;cases iW;cases (List.mem_singleton.mp m).symm.trans (List.mem_singleton.mp f5)
  |1,0=>cases ao;cases aC;cases hH;cases iW;cases (List.mem_singleton.mp m).symm.trans (List.mem_singleton.mp f5)
  |i+2,_=>cases ao
  |0,j+2=>cases hH
  |1,j+2=>cases hH
end
theorem TZ (H:Bw):WalkO lG s6 (fun _ _=>True) YP ho.row.toRowW jo.1 jo.2 fun f vs=>PySem.call f vs:=by
 intro w Zx dP mg Zy G Y Az o pm cd doc Dq Zz c8 hd ZA lD T1 cP args vals as T2 T3 T4 T5 T6
 refine Ground.open G ?_
 intro T B D TE TW
 have T7:=Top.g T
 have bY:absHeap (full w.params) 955 lf=j7 w.params:=DI w.params
 have K:eP w dP.heap:=Nd fun b o e=>Y b o (bY▸e)
 have T8:Value.ref 954=Value.ref Az:=Option.some.inj ((TR w).symm.trans ((TP (vN K) T7 _).trans T1))
 cases T8
 have rF:dP.heap.get? 885=some (tabObj #[]):=Y 885 _ (bY▸abs_get (o:=iu []) (by decide) (by kernel_rfl))
 have rG:dP.heap.get? 951=some (tabObj #[]):=Y 951 _ (bY▸abs_get (o:=iu []) (by decide) (by kernel_rfl))
 wrow_args T2 T3 T4 T5 T6
 rename_i ns _ _ _ _ _ _ _ hr xs _ aZ ZC w1 uj j5 bR aw _
 obtain ⟨N,st',fi,rE,bz,aS,gb,hf,T9,Ua,h0,h1⟩:=H ns (by omega)
 obtain ⟨k,hM⟩:=TS aZ w1
 have P:Rep w (l6 dP.heap) [(885,885),(951,951)] jK.H dP.heap:=TY rF rG
 have Hk:hr≠885∧hr≠951:=by
  constructor
  ·rintro rfl;rw[rF] at hM;cases hM
  ·rintro rfl;rw[rG] at hM;cases hM
 have bZ:xs.length≤aL:=by
  have:=(Bv (P:=w.params) (im:=l6 dP.heap) (ρ:=[]) j5).length
  rw[List.length_map] at this
  unfold aL;omega
 have bC:aW w.params (l6 dP.heap) [(885,885),(951,951)] [.aN (ns.map .int)] [.ref hr] :=
  .cons (.aN (n:=k) (by unfold l6;rw[if_neg (fun q=>q.elim Hk.1 Hk.2)];exact hM) (Bv j5) bZ) .nil
 refine wpAny_call ((rB (TO w N).1 hf _ T9).2 (c:=⟨fun _=>none,0,l6 dP.heap,[(885,885),(951,951)]⟩) Ua _ ⟨by decide,by decide,rfl⟩ ⟨⟨885,rfl⟩,⟨951,rfl⟩⟩ P (TX K) bC fun L bw jJ af cU x c4 b8 v2=>v2.qW ?_)
 have kept:∀ b o,b≠885→b≠951→dP.heap.get? b=some o→af.get? b=some o:=fun b o aG a4 e=>b8.keep (by
  rw[c4.le.kept]
  exact og.mpr ⟨fun q=>(Hj q).elim aG a4,e⟩)
 have oq:=c4.le.ρ 0 _ rfl
 have l1:=c4.le.ρ 1 _ rfl
 obtain ⟨x0,i4,_⟩:=b8.rep.at_ oq h0
 obtain ⟨df,g1,_⟩:=b8.rep.at_ l1 h1
 have Ub:dP.heap.TableAt 889 885 #[]:=⟨⟨eZ "_law_view" "_law_view" 1918 1922 919 0 3 884 885 true (.ref 886) (.ref 887) (.ref 888),_,K 889 _ (by kernel_rfl) (by kernel_rfl) (by kernel_rfl),rfl,rfl,rfl⟩,rF⟩
 have Uc:dP.heap.TableAt 953 951 #[]:=⟨⟨eZ "law" "law" 2021 2024 1052 1 3 950 951 true .none .none (.ref 952),_,K 953 _ (by kernel_rfl) (by kernel_rfl) (by kernel_rfl),rfl,rfl,rfl⟩,rG⟩
 have iC:OldK dP.heap af:=by
  refine ⟨fun b o e=>?_,fun b o e=>?_⟩
  ·by_cases dn:b=885
   ·subst dn
    rw[rF] at e;cases e
    exact .inr (.inl ⟨Ub.isCodeTable,rfl,#[],x0.toArray,rfl,by simpa using i4⟩)
   ·by_cases ao:b=951
    ·subst ao
     rw[rG] at e;cases e
     exact .inr (.inl ⟨Uc.isCodeTable,rfl,#[],df.toArray,rfl,by simpa using g1⟩)
    ·exact .inl (kept b o dn ao e)
  ·by_cases dn:b=885
   ·subst dn;exact ⟨_,i4⟩
   ·by_cases ao:b=951
    ·subst ao;exact ⟨_,g1⟩
    ·exact ⟨o,kept b o dn ao e⟩
 refine ⟨.inl ⟨_,.bool true,[],rfl,?_,.bool _,?_,?_⟩,iC,rfl,.of_eq cP⟩
 ·exact fun _=>rfl
 ·exact postW_of (by wrow_shape) (by wtm_val) (by rfl)
 ·exact fun _=>⟨.nil,fun _ m=>by cases m⟩
theorem Ud (H:Bw):ho.Holds:=head (TZ H)
end
noncomputable def k6 (d:Nat) (P:Nat→Nat→Prop):Prop:=∃ K,∀ N n,K≤N→d≤n→P N n
theorem k6.and {d:Nat}{P Q:Nat→Nat→Prop}:k6 d P→k6 d Q→k6 d fun N n=>P N n∧Q N n
 |⟨K,h⟩,⟨L,g⟩=>⟨K+L,fun N n a b=>⟨h N n (by omega) b,g N n (by omega) b⟩⟩
theorem k6.step {d:Nat}{P Q:Nat→Nat→Prop}:k6 d P→(∀ N n,d≤n→P N n→Q (N+1) n)→k6 d Q
 |⟨K,h⟩,g=>⟨K+1,fun N n a b=>match N,a with |N+1,a=>g N n b (h N n (by omega) b)⟩
theorem k6.mono {d e:Nat}{P:Nat→Nat→Prop}(le:d≤e):k6 d P→k6 e P
 |⟨K,h⟩=>⟨K,fun N n a b=>h N n a (by omega)⟩
theorem uy (N:Nat):(e2 (N+1)).es=q6 (e2 N):=rfl
noncomputable def a5.up (fr:a5) (ls:List (Str×V)):a5:={fr with ls:=ls}
noncomputable def Gt {α:Type}(d:Nat) (f:Nat→Nat→ax→Option α) (H:List aj) (r:ax→α) (H' : List aj):Prop :=
 ∀ aa:Prop,aa→∃ dr:Prop,dr∧k6 d fun N n=>f N n ⟨H,aa⟩=some (r ⟨H',dr⟩)
noncomputable abbrev ai (d:Nat) (fr:a5) (e:PySem.Expr) (H:List aj) (v:V) (H' : List aj):Prop:=Gt d (fun N n st=>(e2 N).ev n fr e st) H (fun s=>(v,s)) H'
noncomputable abbrev GT (d:Nat) (fr:a5) (e:PySem.Expr) (H:List aj) (q:Bool) (H' : List aj):Prop:=Gt d (fun N n st=>(e2 N).es n fr e st) H (fun s=>(q,s)) H'
noncomputable abbrev ab (d:Nat) (fr:a5) (ss:List Stmt) (H:List aj) (f:cD) (ls:List (Str×V)) (H' : List aj):Prop:=Gt d (fun N n st=>(e2 N).ex n fr ss st) H (fun s=>(f,ls,s)) H'
noncomputable abbrev ah (d:Nat) (fr:a5) (e:Stmt) (H:List aj) (f:cD) (ls:List (Str×V)) (H' : List aj):Prop:=Gt d (fun N n st=>q8 (e2 N) n fr e st) H (fun s=>(f,ls,s)) H'
noncomputable abbrev bq (d:Nat) (fr:a5) (t:PySem.Expr) (v:V) (H:List aj) (ls:List (Str×V)) (H' : List aj):Prop:=Gt d (fun N n st=>(e2 N).as n fr t v st) H (fun s=>(ls,s)) H'
noncomputable abbrev aq (d:Nat) (f:V) (args:List V) (H:List aj) (v:V) (H' : List aj):Prop:=Gt d (fun N n st=>(e2 N).cl n f args st) H (fun s=>(v,s)) H'
noncomputable abbrev cV (d:Nat) (fr:a5) (t:PySem.Expr) (src:Src) (k:Nat) (body:List Stmt) (H:List aj) (f:cD) (ls:List (Str×V)) (H' : List aj):Prop:=Gt d (fun N n st=>(e2 N).jv n fr t src k body st) H (fun s=>(f,ls,s)) H'
noncomputable abbrev ia (d:Nat) (fr:a5) (t:PySem.Expr) (body:List Stmt) (H:List aj) (f:cD) (ls:List (Str×V)) (H' : List aj):Prop:=Gt d (fun N n st=>(e2 N).tE n fr t body st) H (fun s=>(f,ls,s)) H'
noncomputable abbrev cX (d:Nat) (fr:a5) (elt t:PySem.Expr) (ifs:List PySem.Expr) (src:Src) (k acc:Nat) (H H' : List aj):Prop:=Gt d (fun N n st=>(e2 N).dz n fr elt t ifs src k acc st) H (fun s=>s) H'
noncomputable abbrev GE (d:Nat) (fr:a5) (aD:List PySem.Expr) (H:List aj) (vs:List V) (H' : List aj):Prop:=Gt d (fun N n st=>f6 (e2 N) n fr aD st) H (fun s=>(vs,s)) H'
section
variable {α β:Type}{d e:Nat}{f:Nat→Nat→ax→Option α}{g:Nat→Nat→ax→Option β}{H H1 H2 H' : List aj}{r:ax→α}{ea:ax→β}
theorem Gt.mono (le:d≤e) (h:Gt d f H r H'):Gt e f H r H':=fun aa o=>let ⟨dr,o',x⟩:=h aa o;⟨dr,o',x.mono le⟩
theorem Gt.step (h:Gt d f H r H') (k:∀ N n s e4,d≤n→f N n s=some (r e4)→s.H=H→e4.H=H'→g (N+1) n s=some (ea e4)):Gt d g H ea H':=fun aa o =>
 let ⟨dr,o',x⟩:=h aa o;⟨dr,o',x.step fun N n bc q=>k N n _ _ bc q rfl rfl⟩
theorem Gt.same (h:Gt d f H r H') (k:∀ N n s e4,d≤n→f N n s=some (r e4)→s.H=H→e4.H=H'→g N n s=some (ea e4)):Gt d g H ea H':=fun aa o =>
 let ⟨dr,o',K,x⟩:=h aa o;⟨dr,o',K,fun N n a b=>k N n _ _ b (x N n a b) rfl rfl⟩
theorem Gt.then {gD:Type}{g:Nat→Nat→ax→Option β}{u:Nat→Nat→ax→Option gD}{ot:ax→gD}(h:Gt d f H r H1) (af:Gt d g H1 ea H2)
 (k:∀ N n s s1 s2,d≤n→f N n s=some (r s1)→g N n s1=some (ea s2)→s.H=H→s1.H=H1→s2.H=H2→u (N+1) n s=some (ot s2)):Gt d u H ot H2:=fun aa o =>
 let ⟨e5,e9,x⟩:=h aa o;let ⟨eg,dR,y⟩:=af e5 e9;⟨eg,dR,(x.and y).step fun N n bc q=>k N n _ _ _ bc q.1 q.2 rfl rfl rfl⟩
theorem Gt.pC {gD:Type}{g:Nat→Nat→ax→Option β}{u:Nat→Nat→ax→Option gD}{ot:ax→gD}(h:Gt d f H r H1) (af:Gt d g H1 ea H2)
 (k:∀ N n s s1 s2,d≤n→f N n s=some (r s1)→g N n s1=some (ea s2)→s.H=H→s1.H=H1→s2.H=H2→u N n s=some (ot s2)):Gt d u H ot H2:=fun aa o =>
 let ⟨e5,e9,x⟩:=h aa o;let ⟨eg,dR,y⟩:=af e5 e9;⟨eg,dR,let ⟨K,z⟩:=x.and y;⟨K,fun N n a b=>k N n _ _ _ b (z N n a b).1 (z N n a b).2 rfl rfl rfl⟩⟩
theorem Gt.uz {gD jq:Type}{u:Nat→Nat→ax→Option gD}{q:Nat→Nat→ax→Option jq}{ot:ax→gD}{i0:ax→jq}{H3:List aj}(h:Gt d f H r H1) (af:Gt d g H1 ea H2) (aB:Gt d u H2 ot H3)
 (k:∀ N n s s1 s2 s3,d≤n→f N n s=some (r s1)→g N n s1=some (ea s2)→u N n s2=some (ot s3)→s.H=H→s1.H=H1→s2.H=H2→s3.H=H3→q (N+1) n s=some (i0 s3)):Gt d q H i0 H3:=fun aa o =>
 let ⟨e5,e9,x⟩:=h aa o;let ⟨eg,dR,y⟩:=af e5 e9;let ⟨ou,fO,z⟩:=aB eg dR;⟨ou,fO,((x.and y).and z).step fun N n bc a=>k N n _ _ _ _ bc a.1.1 a.1.2 a.2 rfl rfl rfl rfl⟩
theorem Gt.now (h:∀ N n s,d≤n→s.H=H→f N n s=some (r s)):Gt d f H r H:=fun aa o=>⟨aa,o,0,fun N n _ b=>h N n _ b rfl⟩
theorem Gt.run (k:Nat) (h:∀ N n aa,f (N+k) (n+d) ⟨H,aa⟩=some (r ⟨H',aa⟩)):Gt d f H r H':=fun aa o =>
 ⟨aa,o,k,fun N n a b=>by
  have:=h (N - k) (n - d) aa
  rwa [Nat.sub_add_cancel a,Nat.sub_add_cancel b] at this⟩
theorem Gt.k7 (k:Nat) (p:Prop→Prop) (h:∀ N n aa,f (N+k) (n+d) ⟨H,aa⟩=some (r ⟨H',p aa⟩)) (a3:∀ aa,aa→p aa):Gt d f H r H':=fun aa o =>
 ⟨p aa,a3 aa o,k,fun N n a b=>by
  have:=h (N - k) (n - d) aa
  rwa [Nat.sub_add_cancel a,Nat.sub_add_cancel b] at this⟩
end
theorem uA {op:CmpOp}{a b:V}{H:List aj}{q:Bool}{s:ax}(e:s.H=H) (h:dX op a b ⟨H,True⟩=some (q,⟨H,True⟩)):dX op a b s=some (q,s):=by
 subst e
 exact lK h fun r h' e=>by show Option.map _ _=_;rw[←(qU e).1];exact congrArg (Option.map fun r=>(r,s)) h'
section
variable {α β:Type}{o:Option α}{a:α}
theorem eh {f:α→β}(h:o=some a):o.map f=some (f a):=by rw[h];rfl
theorem rH {y:β}{f:α→β}(h:o=some a):o.elim y f=f a:=by rw[h];rfl
theorem l7 {y:β}{f:α→β}(h:o=none):o.elim y f=y:=by rw[h];rfl
theorem eC {b:Bool}{x y:α}(h:b=true):cond b x y=x:=by rw[h];rfl
theorem e6 {b:Bool}{x y:α}(h:b=false):cond b x y=y:=by rw[h];rfl
end
theorem xB {q r:Bool}{st:ax}(h:q=r):some (q,st)=some (r,st):=congrArg (fun q=>some (q,st)) h
theorem Ue {v u:V}{nm:Str}{H H2:List aj}{s:ax}(e:s.H=H) (h:mT v nm u ⟨H,True⟩=some ⟨H2,True⟩):mT v nm u s=some ⟨H2,s.aa⟩:=by
 subst e
 exact jr h fun i h1 h=>jr h fun y af h=>jr h fun ci aB h=>(bj h1).trans ((bj af).trans ((bj aB).trans (by
  obtain ⟨q,h⟩:=AH h
  exact (eC q).trans (congrArg some (congrArg (fun z=>ax.mk z s.aa) (congrArg ax.H (cb h)))))))
theorem uB {b:Bool}(h:(!b)=true):b=false:=by cases b;rfl;cases h
noncomputable def Bx (x e:PySem.Expr):Bool:=match e1 e with
 |.lc _ _ _ _=>false
 |.tup _ _ _=>(f3 x).elim (!z8 x) fun bp=>!(bp.head?.bind kc).isSome&&!bp.isEmpty
 |_=>!mQ e
theorem Ug {fr:a5}{bp:List PySem.Expr}(h:(!(bp.head?.bind kc).isSome&&!bp.isEmpty)=true):jz fr bp=none:=by
 cases bp with
 |nil=>exact dv h
 |cons t r =>
  have h:=uB (Bool.and_eq_true_iff.mp h).1
  cases q:kc t with
  |none=>show (kc t).bind _=none;rw[q];rfl
  |some x=>have h:(kc t).isSome=false:=h;rw[q] at h;exact ez h
theorem Uh {fr:a5}{x e:PySem.Expr}{p:Pos}{R:dO}{n:Nat}{st:ax}(h:Bx x e=true):q8 R n fr (.Assign [x] e p) st=q7 R n fr x e st:=by
 show tN R n fr x e st=_
 unfold tN
 unfold Bx at h
 cases q:e1 e with
 |lc _ _ _ _=>rw[q] at h;exact dv h
 |tup vs k di =>
  rw[q] at h
  cases bA:f3 x with
  |none=>rw[bA] at h;exact (l7 bA).trans (e6 (uB h))
  |some bp=>rw[bA] at h;exact (rH bA).trans (l7 (Ug h))
 |_=>rw[q] at h;exact e6 (uB h)
noncomputable def Ui (fr:a5) (e:PySem.Expr) (args:List PySem.Expr):Bool:=!nK fr e args&&(lP e).isNone
section
variable {R:dO}{n:Nat}{fr:a5}{st:ax}{o l r:PySem.Expr}{nm:Str}{ap pos:Pos}{args:List PySem.Expr}{op:CmpOp}
theorem Uj:pe R n fr (.Call (.Attribute o nm ap) args [] pos) st=(bif baseOk o&&Nat.beq ap.endLine pos.line&&Nat.blt args.length 30 then (R.ev n fr o st).bind fun x=>(ke x.1 nm x.2).bind fun g=>bif calleeOk g.1 then (f6 R n fr args x.2).bind fun z=>R.cl n g.1 (g.2++z.1) z.2 else none else none):=rfl
theorem Uk:pe R n fr (.Compare l [op] [r] pos) st=(bif gq r then none else (R.ev n fr l st).bind fun a=>(R.ev n fr r a.2).bind fun b=>(dX op a.1 b.1 b.2).map fun q=>(.bool q.1,q.2)):=rfl
theorem eqT:q6 R n fr (.Compare l [op] [r] pos) st=(bif gq r then none else (R.ev n fr l st).bind fun a=>(R.ev n fr r a.2).bind fun b=>dX op a.1 b.1 b.2):=rfl
end
section
variable {d:Nat}{fr:a5}{H H1 H2 H3 H' : List aj}{v a b:V}{vs:List V}{ls bJ jJ:List (Str×V)}{f:cD}{e y z:PySem.Expr}{x:Str}{p pos:Pos}{s:Stmt}{ss t:List Stmt}
theorem ab.nil:ab d fr [] H .next fr.ls H:=(Gt.now fun N n s _ _=>rfl:Gt d (fun N n st=>some (cD.next,fr.ls,st)) H _ H).step fun N n s e4 _ q _ _=>q
theorem ab.cons (h:ah d fr s H .next bJ H1) (af:ab d (fr.up bJ) ss H1 f jJ H2):ab d fr (s::ss) H f jJ H2 :=
 h.then af fun N n s s1 s2 _ aS bf _ _ _=>(bj aS).trans bf
theorem Ul {f:cD}(h:f≠.next):Ai f=false:=by cases f <;> first |exact absurd rfl h |rfl
theorem ab.stop (h:ah d fr s H f bJ H1) (hf:f≠.next):ab d fr (s::ss) H f bJ H1 :=
 h.step fun N n s s1 _ aS _ _=>(bj aS).trans (e6 (Ul hf))
theorem ab.one (h:ah d fr s H .next bJ H1):ab d fr [s] H .next bJ H1:=ab.cons h ab.nil
theorem ab.ret (h:ah d fr s H (.ret v) bJ H1):ab d fr (s::ss) H (.ret v) bJ H1:=ab.stop h (by intro z;cases z)
theorem ah.expr (h:ai d fr e H v H1) (aw:mQ e=false:=by kernel_rfl):ah d fr (.Expr e p) H .next fr.ls H1:=h.same fun N n s s1 _ aS _ _=>(e6 aw).trans (eh aS)
theorem ah.ret (h:ai d fr e H v H1):ah d fr (.Return (some e) p) H (.ret v) fr.ls H1:=h.same fun N n s s1 _ aS _ _=>eh aS
theorem ah.cm (h:GT d fr e H true H1) (af:ab d fr ss H1 f bJ H2):ah d fr (.If e ss t p) H f bJ H2:=h.pC af fun N n s s1 s2 _ aS bf _ _ _=>(bj aS).trans bf
theorem ah.iff (h:GT d fr e H false H1) (af:ab d fr t H1 f bJ H2):ah d fr (.If e ss t p) H f bJ H2:=h.pC af fun N n s s1 s2 _ aS bf _ _ _=>(bj aS).trans bf
theorem ah.assign {x:PySem.Expr}(h:ai d fr e H v H1) (af:bq d fr x v H1 bJ H2) (he:Bx x e=true:=by kernel_rfl):ah d fr (.Assign [x] e p) H .next bJ H2 :=
 h.pC af fun N n s s1 s2 _ aS bf _ _ _=>(Uh he).trans ((bj aS).trans (eh bf))
theorem ah.while (h:ia d fr e ss H f bJ H1):ah d fr (.While e ss [] p) H f bJ H1:=h.same fun N n s s1 _ aS _ _=>aS
theorem GE.nil:GE d fr [] H [] H:=Gt.now fun N n s _ _=>rfl
theorem GE.cons {aD:List PySem.Expr}(h:ai d fr e H v H1) (af:GE d fr aD H1 vs H2) (ak:isStar e=false:=by kernel_rfl):GE d fr (e::aD) H (v::vs) H2 :=
 h.pC af fun N n s s1 s2 _ aS bf _ _ _=>(e6 ak:(bif isStar e then none else _)=_).trans ((bj aS).trans (eh bf))
theorem ai.a0 {o:PySem.Expr}{nm:Str}{ap:Pos}{args:List PySem.Expr}{g:V}{first:List V}(h:ai d fr o H v H1) (hm:ke v nm ⟨H1,True⟩=some (g,first)) (b2:GE d fr args H1 vs H2) (aw:aq d g (first++vs) H2 b H3)
 (cP:calleeOk g=true:=by kernel_rfl) (bt:(baseOk o&&Nat.beq ap.endLine pos.line&&Nat.blt args.length 30)=true:=by kernel_rfl):ai d fr (.Call (.Attribute o nm ap) args [] pos) H b H3 :=
 h.uz b2 aw fun N n s s1 s2 s3 _ aS bf dT _ ao _ _=>Uj.trans ((eC bt).trans ((bj aS).trans ((bj (by subst ao;exact hm:ke v nm s1=some (g,first))).trans ((eC cP).trans ((bj bf).trans dT)))))
theorem ai.bI {g:V}{args:List PySem.Expr}(h:ai d fr e H g H1) (b2:GE d fr args H1 vs H2) (aw:aq d g vs H2 b H3) (he:Ui fr e args=true:=by kernel_rfl) (cP:calleeOk g=true:=by kernel_rfl):ai d fr (.Call e args [] pos) H b H3 :=
 h.uz b2 aw fun N n s s1 s2 s3 _ aS bf dT _ _ _ _=>(e6 (uB (Bool.and_eq_true_iff.mp he).1)).trans ((eC (b:=([]:List Keyword).isEmpty) rfl).trans ((l7 (Option.isNone_iff_eq_none.mp (Bool.and_eq_true_iff.mp he).2)).trans ((bj aS).trans ((eC cP).trans ((bj bf).trans dT)))))
theorem ai.name (h:o9 fr x ⟨H,True⟩=some v):ai d fr (.Name x p) H v H :=
 (Gt.now (f:=fun N n st=>(o9 fr x st).map (·,st)) fun N n s _ q=>eh (by subst q;exact h:o9 fr x s=_)).step fun N n s s1 _ q _ _=>q
theorem ai.attr {o:PySem.Expr}{nm:Str}(h:ai d fr o H v H1) (b2:mS v nm ⟨H1,True⟩=some a) (bt:baseOk o=true:=by kernel_rfl):ai d fr (.Attribute o nm p) H a H1 :=
 h.step fun N n s s1 _ aS _ ao=>(eC bt).trans ((bj aS).trans (eh (by subst ao;exact b2:mS v nm s1=_)))
theorem ai.sub {o i:PySem.Expr}(h:ai d fr o H v H1) (af:ai d fr i H1 a H2) (cP:jw v a ⟨H2,True⟩=some b) (he:tC i=none:=by kernel_rfl):ai d fr (.Subscript o i p) H b H2 :=
 h.then af fun N n s s1 s2 _ aS bf _ _ aC=>(l7 he).trans ((bj aS).trans ((bj bf).trans (eh (by subst aC;exact cP:jw v a s2=_))))
theorem ai.cmp {op:CmpOp}{l r:PySem.Expr}{q:Bool}(h:ai d fr l H a H1) (af:ai d fr r H1 b H2) (aw:dX op a b ⟨H2,True⟩=some (q,⟨H2,True⟩)) (ak:gq r=false:=by kernel_rfl):ai d fr (.Compare l [op] [r] p) H (.bool q) H2 :=
 h.then af fun N n s s1 s2 _ aS bf _ _ aC=>(Uk (pos:=p)).trans ((e6 ak).trans ((bj aS).trans ((bj bf).trans (eh (uA aC aw)))))
theorem GT.cmp {op:CmpOp}{l r:PySem.Expr}{q:Bool}(h:ai d fr l H a H1) (af:ai d fr r H1 b H2) (aw:dX op a b ⟨H2,True⟩=some (q,⟨H2,True⟩)) (ak:gq r=false:=by kernel_rfl):GT d fr (.Compare l [op] [r] p) H q H2 :=
 h.then af fun N n s s1 s2 _ aS bf _ _ aC=>(eqT (pos:=p)).trans ((e6 ak).trans ((bj aS).trans ((bj bf).trans (uA aC aw))))
theorem GT.By {l r:PySem.Expr}(h:GT d fr l H false H1):GT d fr (.BoolOp .And [l,r] p) H false H1 :=
 h.step fun N n s s1 _ aS _ _=>by rw[uy];show Option.bind _ _=_;rw[aS];rfl
theorem GT.Bz {l r:PySem.Expr}{q:Bool}(h:GT d fr l H true H1) (af:GT d fr r H1 q H2):GT d fr (.BoolOp .And [l,r] p) H q H2 :=
 h.then af fun N n s s1 s2 _ aS bf _ _ _=>by rw[uy];show Option.bind _ _=_;rw[aS];exact bf
theorem GT.BA {l r:PySem.Expr}(h:GT d fr l H true H1):GT d fr (.BoolOp .Or [l,r] p) H true H1 :=
 h.step fun N n s s1 _ aS _ _=>by rw[uy];show Option.bind _ _=_;rw[aS];rfl
theorem GT.uC {l r:PySem.Expr}{q:Bool}(h:GT d fr l H false H1) (af:GT d fr r H1 q H2):GT d fr (.BoolOp .Or [l,r] p) H q H2 :=
 h.then af fun N n s s1 s2 _ aS bf _ _ _=>by rw[uy];show Option.bind _ _=_;rw[aS];exact bf
theorem ai.cm {t l r:PySem.Expr}(h:GT d fr t H true H1) (af:ai d fr l H1 v H2):ai d fr (.IfExp t l r p) H v H2:=h.then af fun N n s s1 s2 _ aS bf _ _ _=>(bj aS).trans bf
theorem ai.iff {t l r:PySem.Expr}(h:GT d fr t H false H1) (af:ai d fr r H1 v H2):ai d fr (.IfExp t l r p) H v H2:=h.then af fun N n s s1 s2 _ aS bf _ _ _=>(bj aS).trans bf
theorem ai.tup {aD:List PySem.Expr}{k:Nat}(h:GE d fr aD H vs H1) (hl:Nat.blt 100 aD.length=false:=by kernel_rfl):ai d fr (.Tuple aD k p) H (.tup vs) H1:=h.step fun N n s s1 _ aS _ _=>(e6 hl).trans (eh aS)
theorem ai.list {aD:List PySem.Expr}(h:GE d fr aD H vs H1) (hl:Nat.blt 100 aD.length=false:=by kernel_rfl):ai d fr (.List aD p) H (.ref H1.length) (H1++[.list vs]):=fun aa o =>
 let ⟨dr,o',x⟩:=h aa o;⟨dr,o',x.step fun N n _ aS=>(e6 hl).trans (eh aS)⟩
theorem ai.bin {op:Operator}{l r:PySem.Expr}(h:ai d fr l H a H1) (af:ai d fr r H1 b H2) (aw:∀ s:ax,s.H=H2→q2 op a b s=some (v,s)):ai d fr (.BinOp l op r p) H v H2 :=
 h.then af fun N n s s1 s2 _ aS bf _ _ aC=>(bj aS).trans ((bj bf).trans (aw s2 aC))
theorem bq.name {u:V}(h:gX fr x=some .local):bq d fr (.Name x p) u H (d7 x u fr.ls) H :=
 (Gt.now (f:=fun N n st=>tM (e2 N) n fr (.Name x p) u st) (r:=fun s=>(d7 x u fr.ls,s)) fun N n s _ q=>eC (by rw[h];rfl)).step fun N n s s1 _ q _ _=>q
theorem bq.attr {o:PySem.Expr}{nm:Str}{u:V}(h:ai d fr o H v H1) (ak:mT v nm u ⟨H1,True⟩=some ⟨H2,True⟩):bq d fr (.Attribute o nm p) u H fr.ls H2:=fun aa o =>
 let ⟨dr,o',x⟩:=h aa o;⟨dr,o',x.step fun N n _ aS=>(bj aS).trans (eh (Ue (s:=⟨H1,dr⟩) rfl ak))⟩
theorem bq.sub {o i:PySem.Expr}{u:V}(h:ai d fr o H v H1) (af:ai d fr i H1 a H2) (ak:∀ s:ax,s.H=H2→nQ v a u s=some ⟨H3,s.aa⟩) (aM:nN i=false:=by kernel_rfl):bq d fr (.Subscript o i p) u H fr.ls H3:=fun aa o =>
 let ⟨e5,e9,x⟩:=h aa o;let ⟨eg,dR,y⟩:=af e5 e9;⟨eg,dR,(x.and y).step fun N n _ q=>(e6 aM).trans ((bj q.1).trans ((bj q.2).trans (eh (ak ⟨H2,eg⟩ rfl))))⟩
end
section
variable {d a:Nat}{fi:eR}{args vs:List V}{H H' : List aj}{f:cD}{ls:List (Str×V)}{v:V}
theorem BB {R:dO}{n:Nat}{st:ax}:tR R (n+1) (.obj (.ref a)) args st=(c2 a dD).elim (Al R n a args st) fun fi=>bI R n fi args st:=rfl
theorem Hl {R:dO}{n:Nat}{st:ax}(h:c2 a dD=some fi):tR R (n+1) (.obj (.ref a)) args st=bI R n fi args st:=BB.trans (rH h)
theorem aq.gen {iB:List Str}{cs H1:List aj}{iI:List (Str×Nat)}{cN:List (Str×V)}{u:V}(hf:c2 a dD=some fi) (aV:kh fi args=some vs) (aw:ee fi.fd.scope.names=iB) (rq:iB.map (fun x=>aj.cell (look x (fi.ps.zip vs)))=cs) (BC:iB.zip (List.range' H.length iB.length)=iI) (hl:hK fi.fd.scope.names (fi.ps.zip vs)=cN)
 (h:ab d ⟨fi.fd.scope,iI,fi.tab,cN⟩ fi.body (tP H cs) f ls H1) (ar:∀ aa,(bif fi.jt then fin H.length (iA f) ⟨H1,aa⟩ else some (iA f,⟨H1,aa⟩))=some (u,⟨H',aa⟩)):aq (d+1) (.obj (.ref a)) args H u H':=fun aa o=>by
 subst aw rq BC hl
 obtain ⟨dr,o',K,x⟩:=h aa o
 exact ⟨dr,o',K+1,fun N n g7 b=>match N,n,g7,b with
  |N+1,n+1,g7,b=>BB.trans ((rH hf).trans ((bj aV).trans ((bj (x N n (Nat.le_of_succ_le_succ g7) (Nat.le_of_succ_le_succ b))).trans (ar dr))))⟩
theorem aq.any (hf:c2 a dD=some fi) (aV:kh fi args=some vs) (aw:ee fi.fd.scope.names=[]) (bZ:fi.jt=false)
 (h:ab d ⟨fi.fd.scope,[],fi.tab,hK fi.fd.scope.names (fi.ps.zip vs)⟩ fi.body H f ls H'):aq (d+1) (.obj (.ref a)) args H (iA f) H':=aq.gen hf aV aw rfl rfl rfl h fun aa=>e6 bZ
theorem aq.proc (hf:c2 a dD=some fi) (aV:kh fi args=some vs) (aw:ee fi.fd.scope.names=[]) (bZ:fi.jt=false)
 (h:ab d ⟨fi.fd.scope,[],fi.tab,hK fi.fd.scope.names (fi.ps.zip vs)⟩ fi.body H .next ls H'):aq (d+1) (.obj (.ref a)) args H .none H':=aq.any hf aV aw bZ h
theorem aq.ft {cN:List (Str×V)}(hf:c2 a dD=some fi) (aV:kh fi args=some vs) (aw:ee fi.fd.scope.names=[]) (bZ:fi.jt=false) (hl:hK fi.fd.scope.names (fi.ps.zip vs)=cN)
 (h:ab d ⟨fi.fd.scope,[],fi.tab,cN⟩ fi.body H .next ls H'):aq (d+1) (.obj (.ref a)) args H .none H':=aq.any hf aV aw bZ (hl▸h)
theorem aq.hP {cN:List (Str×V)}(hf:c2 a dD=some fi) (aV:kh fi args=some vs) (aw:ee fi.fd.scope.names=[]) (bZ:fi.jt=false) (hl:hK fi.fd.scope.names (fi.ps.zip vs)=cN)
 (h:ab d ⟨fi.fd.scope,[],fi.tab,cN⟩ fi.body H (.ret v) ls H'):aq (d+1) (.obj (.ref a)) args H v H':=aq.any hf aV aw bZ (hl▸h)
theorem aq.func (hf:c2 a dD=some fi) (aV:kh fi args=some vs) (aw:ee fi.fd.scope.names=[]) (bZ:fi.jt=false)
 (h:ab d ⟨fi.fd.scope,[],fi.tab,hK fi.fd.scope.names (fi.ps.zip vs)⟩ fi.body H (.ret v) ls H'):aq (d+1) (.obj (.ref a)) args H v H':=aq.any hf aV aw bZ h
end
noncomputable abbrev l8:Str:=⟨⟨[97,103,97,105,110]⟩⟩
noncomputable abbrev Hm:Str:=⟨⟨[97,114,103,117,109,101,110,116,115,95,112,108,97,99,101]⟩⟩
noncomputable abbrev kq:Str:=⟨⟨[98,101,104,105,110,100]⟩⟩
noncomputable abbrev Hn:Str:=⟨⟨[99,97,112,116,117,114,101,115]⟩⟩
noncomputable abbrev jL:Str:=⟨⟨[99,97,117,103,104,116]⟩⟩
noncomputable abbrev gJ:Str:=⟨⟨[99,101,108,108]⟩⟩
noncomputable abbrev Ho:Str:=⟨⟨[99,101,108,108,95,99,111,117,110,116]⟩⟩
noncomputable abbrev rI:Str:=⟨⟨[99,111,100,101]⟩⟩
noncomputable abbrev Hp:Str:=⟨⟨[99,111,110,115,116,115]⟩⟩
noncomputable abbrev Hq:Str:=⟨⟨[99,111,110,116,114,111,108,115]⟩⟩
noncomputable abbrev jM:Str:=⟨⟨[100,101,112,116,104]⟩⟩
noncomputable abbrev Um:Str:=⟨⟨[100,101,112,116,104,115]⟩⟩
noncomputable abbrev pD:Str:=⟨⟨[101]⟩⟩
noncomputable abbrev Hr:Str:=⟨⟨[102,105,110,100]⟩⟩
noncomputable abbrev BD:Str:=⟨⟨[102,117,110,99,116,105,111,110]⟩⟩
noncomputable abbrev rJ:Str:=⟨⟨[103,108,111,98,97,108]⟩⟩
noncomputable abbrev Hs:Str:=⟨⟨[104,97,110,100,108,101,114,115]⟩⟩
noncomputable abbrev rK:Str:=⟨⟨[104,101,108,100]⟩⟩
noncomputable abbrev Un:Str:=⟨⟨[105,110,110,101,114,95,117,110,105,116]⟩⟩
noncomputable abbrev Ht:Str:=⟨⟨[105,115,95,99,111,110,115,116,97,110,116]⟩⟩
noncomputable abbrev rL:Str:=⟨⟨[105,115,95,115,116,114,105,99,116]⟩⟩
noncomputable abbrev c3:Str:=⟨⟨[107,105,110,100]⟩⟩
noncomputable abbrev i5:Str:=⟨⟨[108,97,98,101,108,115]⟩⟩
noncomputable abbrev pE:Str:=⟨⟨[108,101,102,116]⟩⟩
noncomputable abbrev en:Str:=⟨⟨[108,105,110,101]⟩⟩
noncomputable abbrev fE:Str:=⟨⟨[108,105,110,101,115]⟩⟩
noncomputable abbrev pF:Str:=⟨⟨[108,111,99,97,108,95,99,111,117,110,116]⟩⟩
noncomputable abbrev rM:Str:=⟨⟨[109,97,100,101]⟩⟩
noncomputable abbrev ei:Str:=⟨⟨[110,97,109,101]⟩⟩
noncomputable abbrev iJ:Str:=⟨⟨[112]⟩⟩
noncomputable abbrev Hu:Str:=⟨⟨[112,97,114,97,109,95,112,108,97,99,101,115]⟩⟩
noncomputable abbrev pG:Str:=⟨⟨[112,97,114,97,109,115]⟩⟩
noncomputable abbrev dU:Str:=⟨⟨[112,97,114,116,115]⟩⟩
noncomputable abbrev jN:Str:=⟨⟨[112,108,97,99,101]⟩⟩
noncomputable abbrev Uo:Str:=⟨⟨[112,108,97,99,101,115]⟩⟩
noncomputable abbrev Hv:Str:=⟨⟨[114,101,115,117,108,116]⟩⟩
noncomputable abbrev g8:Str:=⟨⟨[115,99,111,112,101]⟩⟩
noncomputable abbrev ov:Str:=⟨⟨[115,101,101,110]⟩⟩
noncomputable abbrev bk:Str:=⟨⟨[115,101,108,102]⟩⟩
noncomputable abbrev Hw:Str:=⟨⟨[115,101,108,102,95,115,108,111,116]⟩⟩
noncomputable abbrev rN:Str:=⟨⟨[115,111,114,116]⟩⟩
noncomputable abbrev rO:Str:=⟨⟨[116]⟩⟩
noncomputable abbrev rP:Str:=⟨⟨[117]⟩⟩
noncomputable abbrev Hx:Str:=⟨⟨[117,110,105,116,115]⟩⟩
noncomputable abbrev Hy:Str:=⟨⟨[117,115,101,115,95,97,114,103,117,109,101,110,116,115]⟩⟩
noncomputable abbrev Hz:Str:=⟨⟨[118]⟩⟩
noncomputable abbrev fF:Str:=⟨⟨[118,105,101,119]⟩⟩
noncomputable abbrev m6:Str:=⟨⟨[119]⟩⟩
noncomputable abbrev dE:Str:=⟨⟨[120]⟩⟩
noncomputable def bQ (l:List Stmt) (i:Nat):Stmt:=(l[i]?).getD (.Pass default)
noncomputable def rQ (l:List PySem.Expr) (i:Nat):PySem.Expr:=(l[i]?).getD default
noncomputable def eH:Stmt→PySem.Expr
 |.If e _ _ _=>e
 |.Assign _ e _=>e
 |.Expr e _=>e
 |.For _ e _ _ _=>e
 |.While e _ _ _=>e
 |.Return (some e) _=>e
 |_=>default
noncomputable def sB:Stmt→List Stmt
 |.If _ b _ _=>b
 |.For _ _ b _ _=>b
 |.While _ b _ _=>b
 |_=>[]
noncomputable def HA:Stmt→PySem.Expr×Pos
 |.For t _ _ _ p=>(t,p)
 |_=>default
noncomputable def m7 (e:PySem.Expr):List PySem.Expr:=(e1 e).wB.elim ((f3 e).getD []) fun y=>y.2.1
noncomputable def hJ.BE:hJ→Option (PySem.Expr×List Comprehension×Scope)
 |.lc e g s _=>some (e,g,s)
 |_=>none
noncomputable def HB (e:PySem.Expr):Option Comprehension:=(e1 e).BE.bind fun y=>kb y.2.1
noncomputable def HC (e:PySem.Expr):Scope:=((e1 e).BE.map fun y=>y.2.2).getD default
noncomputable def HD (e:PySem.Expr):PySem.Expr:=((e1 e).BE.map fun y=>y.1).getD default
noncomputable def BF (e:PySem.Expr):PySem.Expr:=((HB e).map fun g=>g.target).getD default
noncomputable def Up (e:PySem.Expr):PySem.Expr:=((HB e).bind fun g=>kb g.ifs).getD default
noncomputable def Uq:PySem.Expr→Option (Arguments×PySem.Expr×Scope×Pos)
 |.Lambda a b c d=>some (a,b,c,d)
 |_=>none
noncomputable def m8 (l:List Stmt) (i:Nat):V:=match l[i]? with
 |some (.Assign _ (.Lambda ps body sc _) _)=>.lam ps body sc
 |_=>.none
noncomputable def eb:V:=.fin 853 [(c3,.str ⟨⟨[118,105,101,119]⟩⟩),(en,.int 0),(dU,.aN []),(g8,.none),(pG,.aN []),(rL,.bool false),(pF,.int 0),(rN,.str BD),
 (Hr,m8 gE.1 2),(Ht,m8 gE.1 3),(jL,.fin 853 [(c3,.str jL),(en,.int 0),(dU,.aN []),(g8,.none),(jN,.tup [.str gJ,.int 3])])]
noncomputable def rR:V:=m8 fB.1 4
structure au where
 aO:List V
 fu:List V
 ln:Int
 con:List V
 dZ:List V
 ag:List V
 bH:List V
 dep:V
 bB:List V
structure Pre where
 bz:aj
 gb:aj
 ib:aj
 HE:aj
 HF:aj
 HG:aj
 HH:aj
 HI:aj
 HJ:aj
noncomputable def mk (P:Pre) (S:au) (T:List aj):List aj :=
 P.bz::P.gb::P.ib::P.HE::P.HF::P.HG::P.HH::P.HI::P.HJ ::
 .inst 834 [(g8,eb),(fF,eb),(rI,.ref 11),(Hq,.ref 22),(pF,.int 0),(Hv,.none),(Un,rR)] ::
 .list []::.inst 413 [(rM,.ref 12),(jM,S.dep),(Um,.ref 21)] ::
 .inst 307 [(ei,.str dE),(pG,.ref 10),(rL,.bool false),(rI,.ref 13),(fE,.ref 14),(en,.int S.ln),(Hp,.ref 15),(Hx,.ref 16),(Uo,.ref 17),(Hs,.ref 18),(pF,.int 0),(Ho,.int 0),(Hn,.ref 19),(Hy,.bool false),(Hw,.none),(Hm,.none),(Hu,.ref 20)] ::
 .list S.aO::.list S.fu::.list S.con::.list S.dZ::.list S.ag::.list S.bH::.list []::.list []::.list S.bB::T
noncomputable abbrev eN (op:Int) (a:V):V:=.tup [.int op,a]
noncomputable def au.aP (S:au):Nat:=S.aO.length+S.fu.length+S.con.length+S.dZ.length+S.ag.length+S.bH.length+S.bB.length
noncomputable def au.emit (S:au) (op:Int) (a:V):au:={S with aO:=S.aO++[eN op a],fu:=S.fu++[.int S.ln]}
noncomputable def au.cI (S:au) (v:V):au:={S with dep:=v}
noncomputable def au.ay (S:au):au:={S with bB:=S.bB++[.none],ag:=S.ag++[.int (-1)]}
noncomputable def au.meet (S:au) (l:Nat) (d:Int):au:={S with bB:=S.bB.set l (.int d)}
noncomputable def au.put (S:au) (l:Nat):au:={S with ag:=S.ag.set l (.int S.aO.length)}
section
variable {P:Pre}{S:au}{T:List aj}{d:Int}{l:Int}{a v:V}
theorem au.lt {S:au}(h:S.aP<aL):S.aO.length<aL∧S.fu.length<aL∧S.con.length<aL∧S.dZ.length<aL∧S.ag.length<aL∧S.bH.length<aL∧S.bB.length<aL:=by
 have k:∀{a b c:Nat},a+b<c→a<c∧b<c:=fun h=>⟨Nat.lt_of_le_of_lt (Nat.le_add_right _ _) h,Nat.lt_of_le_of_lt (Nat.le_add_left _ _) h⟩
 let ⟨h,Ur⟩:=k h;let ⟨h,AU⟩:=k h;let ⟨h,pv⟩:=k h;let ⟨h,l3⟩:=k h;let ⟨h,l0⟩:=k h;let ⟨df,eG⟩:=k h
 exact ⟨df,eG,l0,l3,pv,AU,Ur⟩
theorem xC {α:Type}(l:List α) (x:α):(((l++[x]).length:Nat):Int) - 1=l.length:=by simp
theorem Us {op:Int}(h:S.aP<aL):aq 2 (.obj (.ref 220)) [.ref 12,.int op,a] (mk P S T) (.int S.aO.length) (mk P (S.emit op a) T):=by
 have z:aq 2 (.obj (.ref 220)) [.ref 12,.int op,a] (mk P S T) (.int ((S.aO++[eN op a]).length - 1)) (mk P (S.emit op a) T) :=
  Gt.k7 20 (fun aa=>(aa∧S.aO.length<aL)∧S.fu.length<aL) (fun N n aa=>by kernel_rfl) fun aa o=>⟨⟨o,(au.lt h).1⟩,(au.lt h).2.1⟩
 rwa [xC] at z
theorem BG:aq 2 (.obj (.ref 212)) [.ref 12] (mk P S T) (.int S.aO.length) (mk P S T):=Gt.run 20 fun N n aa=>by kernel_rfl
theorem pH (h:S.aP<aL):aq 3 (.obj (.ref 353)) [.ref 11] (mk P S T) (.int S.ag.length) (mk P S.ay T):=by
 have z:aq 3 (.obj (.ref 353)) [.ref 11] (mk P S T) (.int ((S.ag++[V.int (-1)]).length - 1)) (mk P S.ay T) :=
  Gt.k7 30 (fun aa=>(aa∧S.bB.length<aL)∧S.ag.length<aL) (fun N n aa=>by kernel_rfl) fun aa o=>⟨⟨o,(au.lt h).2.2.2.2.2.2⟩,(au.lt h).2.2.2.2.1⟩
 rwa [xC] at z
theorem Ut (h:S.dep=.int d):aq 1 (.obj (.ref 339)) [.ref 11] (mk P S T) (.bool true) (mk P S T):=by
 obtain ⟨_,_,_,_,_,_,_,_,_⟩:=S;cases h;exact Gt.run 20 fun N n aa=>by kernel_rfl
theorem Uu (h:S.dep=.none):aq 1 (.obj (.ref 339)) [.ref 11] (mk P S T) (.bool false) (mk P S T):=by
 obtain ⟨_,_,_,_,_,_,_,_,_⟩:=S;cases h;exact Gt.run 20 fun N n aa=>by kernel_rfl
noncomputable def gv (op t q:Int):Prop:=∀(N n:Nat) (aa:Prop) (P:Pre) (S:au) (T:List aj) (d:Int) (a:V),(e2 (N+40)).cl (n+4) (.obj (.ref 368)) [.ref 11,.int op,a] ⟨mk P {S with dep:=.int d} T,aa⟩=some (.none,⟨mk P ((S.emit op a).cI (.int (d - t+q))) T,(aa∧S.aO.length<aL)∧S.fu.length<aL⟩)
theorem BH {op t q:Int}(r:gv op t q) (hd:S.dep=.int d) (h:S.aP<aL):aq 4 (.obj (.ref 368)) [.ref 11,.int op,a] (mk P S T) .none (mk P ((S.emit op a).cI (.int (d - t+q))) T):=by
 obtain ⟨_,_,_,_,_,_,_,_,_⟩:=S;cases hd
 exact Gt.k7 40 (fun aa=>(aa∧_)∧_) (fun N n aa=>r N n aa P ⟨_,_,_,_,_,_,_,.none,_⟩ T d a) fun aa o=>⟨⟨o,(au.lt h).1⟩,(au.lt h).2.1⟩
theorem Uv {op t q:Int}(r:gv op t q) (hd:S.dep=.int d) (h:S.aP<aL):aq 4 (.obj (.ref 368)) [.ref 11,.int op] (mk P S T) .none (mk P ((S.emit op .none).cI (.int (d - t+q))) T):=by
 obtain ⟨_,_,_,_,_,_,_,_,_⟩:=S;cases hd
 exact Gt.k7 40 (fun aa=>(aa∧_)∧_) (fun N n aa=>r N n aa P ⟨_,_,_,_,_,_,_,.none,_⟩ T d .none) fun aa o=>⟨⟨o,(au.lt h).1⟩,(au.lt h).2.1⟩
theorem Uw:gv 6 1 0:=fun N n aa P S T d a=>by kernel_rfl
end
section
variable {α:Type}{d:Nat}{f:Nat→Nat→ax→Option α}{H H' : List aj}{r:ax→α}
noncomputable def HK (f:Nat→Nat→ax→Option α) (d:Nat) (H:List aj):Nat→Nat→Prop→Option α:=fun N n aa=>f (N+16) (n+d) ⟨H,aa⟩
noncomputable def HL (r:ax→α) (H:List aj):Nat→Nat→Prop→Option α:=fun _ _ aa=>some (r ⟨H,aa⟩)
theorem ic (h:HK f d H=HL r H':=by kernel_rfl):Gt d f H r H':=Gt.run 16 fun N n aa=>congrFun (congrFun (congrFun h N) n) aa
theorem I (h:HK f d H=HL r H:=by kernel_rfl):Gt d f H r H:=ic h
theorem HM {j n:Nat}:idx (j:Int) n=some j:=by
 unfold idx
 rw[decide_eq_true (Int.natCast_nonneg j)];rfl
theorem l9 {r j:Nat}{vs:List V}{v:V}(jH:H[r]?=some (.list vs)) (aV:vs[j]?=some v):jw (.ref r) (.int j) ⟨H,True⟩=some v :=
 (bj (congrArg eF jH)).trans ((bj (HM (n:=vs.length))).trans aV)
theorem rS {j:Nat}{vs:List V}{v:V}(aV:vs[j]?=some v):jw (.aN vs) (.int j) ⟨H,True⟩=some v:=(bj (HM (n:=vs.length))).trans aV
theorem xD {r j:Nat}{vs:List V}{v x:V}(jH:H[r]?=some (.list vs)) (aV:vs[j]?=some v):∀ s:ax,s.H=H→nQ (.ref r) (.int j) x s=some ⟨H.set r (.list (vs.set j x)),s.aa⟩:=fun s e=>by
 subst e
 exact (bj (congrArg eF jH)).trans ((eC (decide_eq_true (Int.natCast_nonneg j))).trans (eh aV))
end
section
variable {d:Nat}{fr:a5}{H H1 H2 H3:List aj}{v u:V}{ls bJ jJ:List (Str×V)}{f:cD}{e t it:PySem.Expr}{p:Pos}{body:List Stmt}{src:Src}{k:Nat}
theorem cV.done (h:itemAt src k H=some none) (bT:iY src t=true):cV d fr t src k body H .next fr.ls H :=
 (Gt.now (f:=fun N n st=>Aj (e2 N) n fr t src k body st) (r:=fun s=>(cD.next,fr.ls,s)) fun N n s _ q=>by
  subst q;exact (eC bT).trans (bj h)).step fun N n s s1 _ q _ _=>q
theorem cV.step (h:itemAt src k H=some (some v)) (bT:iY src t=true) (h1:bq d fr t v H ls H1) (af:ab d (fr.up ls) body H1 .next bJ H2) (aB:cV d (fr.up bJ) t src (k+1) body H2 f jJ H3):cV d fr t src k body H f jJ H3 :=
 h1.uz af aB fun N n s s1 s2 s3 _ aS bf dT dn _ _ _=>by
  subst dn
  exact (eC bT).trans ((bj h).trans ((bj aS).trans ((bj bf).trans dT)))
theorem cV.out (h:itemAt src k H=some (some v)) (bT:iY src t=true) (h1:bq d fr t v H ls H1) (af:ab d (fr.up ls) body H1 (.ret u) bJ H2):cV d fr t src k body H (.ret u) bJ H2 :=
 h1.then af fun N n s s1 s2 _ aS bf dn _ _=>by
  subst dn
  exact (eC bT).trans ((bj h).trans ((bj aS).trans (bj bf)))
noncomputable def HN (fr:a5) (it:PySem.Expr):Bool:=!gq it&&(Ah fr it).isNone
theorem Ux {R:dO}{n:Nat}{st:ax}(h:HN fr it=true):q8 R n fr (.For t it body [] p) st=(R.ev n fr it st).bind fun x=>(srcOf x.1 x.2).bind fun src=>R.jv n fr t src 0 body x.2 :=
 (l7 (Option.isNone_iff_eq_none.mp (Bool.and_eq_true_iff.mp h).2)).trans (e6 (uB (Bool.and_eq_true_iff.mp h).1))
theorem ah.for (h:ai d fr it H v H1) (ak:srcOf v ⟨H1,True⟩=some src) (af:cV d fr t src 0 body H1 f ls H2) (he:HN fr it=true:=by kernel_rfl):ah d fr (.For t it body [] p) H f ls H2 :=
 h.pC af fun N n s s1 s2 _ aS bf _ ao _=>(Ux he).trans ((bj aS).trans ((bj (by subst ao;exact ak:srcOf v s1=some src)).trans bf))
theorem ah.BI {ce:PySem.Expr}{dz:Pos}(h:ai d fr e H v H1) (ak:tJ v ⟨H1,True⟩=some src) (af:cV d fr t src 0 body H1 f ls H2)
 (he:Ah fr (.Call ce [e] [] dz)=some e:=by kernel_rfl):ah d fr (.For t (.Call ce [e] [] dz) body [] p) H f ls H2 :=
 h.pC af fun N n s s1 s2 _ aS bf _ ao _=>(rH he).trans ((bj aS).trans ((bj (by subst ao;exact ak:tJ v s1=some src)).trans bf))
end
section
variable {P:Pre}{S:au}{T:List aj}{d:Int}{l:Nat}{a v:V}
theorem HO:(mk P S T)[15]?=some (.list S.con):=rfl
theorem xE:(mk P S T)[17]?=some (.list S.ag):=rfl
theorem pI:(mk P S T)[21]?=some (.list S.bB):=rfl
theorem HP (h:S.ag[l]?=some (.int (-1))):aq 4 (.obj (.ref 234)) [.ref 12,.int l] (mk P S T) .none (mk P (S.put l) T) :=
 aq.proc (a:=234) (fi:=⟨vO,_,_,D1.1,none,false⟩) rfl rfl (by kernel_rfl) rfl <|
 ab.cons (ah.iff (GT.cmp (ai.sub I I (l9 xE h)) (b:=.int 0) I rfl) ab.nil) <|
 ab.one (ah.assign (ai.a0 (v:=.ref 12) I rfl GE.nil (BG.mono (by omega))) (bq.sub I I (xD xE h)))
theorem HQ (h:S.bB[l]?=some .none):aq 2 (.obj (.ref 360)) [.ref 11,.int l,.int d] (mk P S T) .none (mk P (S.meet l d) T) :=
 aq.proc (a:=360) (fi:=⟨tb,_,_,zP.1,none,false⟩) rfl rfl (by kernel_rfl) rfl <|
 ab.cons (ah.iff (GT.By (GT.cmp (ai.sub I I (l9 pI h)) (b:=.none) I rfl)) ab.nil) <|
 ab.one (ah.assign (v:=.int d) I (bq.sub I I (xD pI h)))
theorem Uy {H:List aj}:dX .NotEq (.int d) (.int d) ⟨H,True⟩=some (false,⟨H,True⟩):=eh (eh (congrArg some (decide_eq_true rfl)))
theorem Uz (h:S.bB[l]?=some (.int d)):aq 2 (.obj (.ref 360)) [.ref 11,.int l,.int d] (mk P S T) .none (mk P (S.meet l d) T) :=
 aq.proc (a:=360) (fi:=⟨tb,_,_,zP.1,none,false⟩) rfl rfl (by kernel_rfl) rfl <|
 ab.cons (ah.iff (GT.Bz (GT.cmp (ai.sub I I (l9 pI h)) (b:=.none) I rfl) (GT.cmp (ai.sub I I (l9 pI h)) (b:=.int d) I Uy)) ab.nil) <|
 ab.one (ah.assign (v:=.int d) I (bq.sub I I (xD pI h)))
noncomputable def au.fits (S:au) (l:Nat) (d:Int):Prop:=S.bB[l]?=some .none∨S.bB[l]?=some (.int d)
theorem xF (h:S.fits l d):aq 2 (.obj (.ref 360)) [.ref 11,.int l,.int d] (mk P S T) .none (mk P (S.meet l d) T):=h.elim HQ Uz
theorem HR (h:S.fits l d):(S.meet l d).bB[l]?=some (.int d):=by
 have:l<S.bB.length:=h.elim (fun h=>(List.getElem?_eq_some_iff.mp h).1) fun h=>(List.getElem?_eq_some_iff.mp h).1
 unfold au.meet
 dsimp only
 rw[List.getElem?_set_self this]
theorem BJ (hd:S.dep=.none) (h:S.ag[l]?=some (.int (-1))) (af:S.bB[l]?=some v):aq 5 (.obj (.ref 396)) [.ref 11,.int l] (mk P S T) .none (mk P ((S.put l).cI v) T):=by
 obtain ⟨aO,fu,ln,con,dZ,ag,bH,dep,bB⟩:=S;cases hd
 exact aq.proc (a:=396) (fi:=⟨tc,_,_,zQ.1,none,false⟩) rfl rfl (by kernel_rfl) rfl <|
  ab.cons (ah.iff (GT.cmp (a:=.none) (b:=.none) I I rfl) ab.nil) <|
  ab.cons (ah.expr (ai.a0 (v:=.ref 12) I rfl (vs:=[.int l]) I (HP h))) <|
  ab.one (ah.assign (ai.sub I I (l9 pI af)) (bq.attr (v:=.ref 11) I (by kernel_rfl)))
theorem HS (hd:S.dep=.int d) (h:S.ag[l]?=some (.int (-1))) (af:S.fits l d):aq 5 (.obj (.ref 396)) [.ref 11,.int l] (mk P S T) .none (mk P ((S.meet l d).put l) T):=by
 obtain ⟨aO,fu,ln,con,dZ,ag,bH,dep,bB⟩:=S;cases hd
 exact aq.proc (a:=396) (fi:=⟨tc,_,_,zQ.1,none,false⟩) rfl rfl (by kernel_rfl) rfl <|
  ab.cons (ah.cm (GT.cmp (a:=.int d) (b:=.none) I I rfl) (ab.one (ah.expr (ai.a0 (v:=.ref 11) I rfl (vs:=[.int l,.int d]) I ((xF af).mono (by omega)))))) <|
  ab.cons (ah.expr (ai.a0 (v:=.ref 12) I rfl (vs:=[.int l]) I (HP h))) <|
  ab.one (ah.assign (ai.sub I I (l9 pI (HR af))) (bq.attr (v:=.ref 11) I (by kernel_rfl)))
theorem BK {op:Int}(h:S.aP<aL):aq 3 (.obj (.ref 241)) [.ref 12,.int op,.int l] (mk P S T) (.int S.aO.length) (mk P (S.emit op (.int l)) T) :=
 aq.func (a:=241) (fi:=⟨vP,_,_,D2.1,none,false⟩) rfl rfl (by kernel_rfl) rfl <|
 ab.ret (ah.ret (ai.a0 (v:=.ref 12) I rfl (vs:=[.int op,.int l]) I (Us h)))
theorem UA {op:Int}(hd:S.dep=.none):aq 5 (.obj (.ref 389)) [.ref 11,.int op,.int l] (mk P S T) .none (mk P S T):=by
 obtain ⟨aO,fu,ln,con,dZ,ag,bH,dep,bB⟩:=S;cases hd
 exact I
end
section
variable {d:Nat}{fr:a5}{H H1 H2:List aj}{q:Bool}{e:PySem.Expr}
theorem GT.val (h:ai d fr e H (.bool q) H1) (he:wk e=true:=by kernel_rfl):GT d fr e H q H1 :=
 h.step fun N n s s1 _ aS _ _=>by
  have:q6 (e2 N) n fr e s=((e2 N).ev n fr e s).bind fun x=>(o8 x.1).map fun b=>(b,x.2):=by cases e <;> first |rfl |cases he
  rw[uy,this,aS];rfl
end
section
variable {P:Pre}{S:au}{T:List aj}{d:Int}{l:Nat}{a v:V}
theorem UB (hd:S.dep=.int d) (h:S.fits l d) (ak:S.aP<aL):aq 5 (.obj (.ref 389)) [.ref 11,.int 58,.int l] (mk P S T) .none (mk P (((S.meet l d).emit 58 (.int l)).cI .none) T):=by
 have uD:(S.meet l d).aP<aL:=by unfold au.aP au.meet at *;simpa using ak
 obtain ⟨aO,fu,ln,con,dZ,ag,bH,dep,bB⟩:=S;cases hd
 exact aq.proc (a:=389) (fi:=⟨qG,_,_,vT.1,none,false⟩) rfl rfl (by kernel_rfl) rfl <|
  ab.one (ah.cm (GT.cmp (a:=.int d) (b:=.none) I I rfl) <|
  ab.cons (ah.expr (ai.a0 (v:=.ref 11) I rfl (vs:=[.int l,.int d]) I ((xF h).mono (by omega)))) <|
  ab.cons (ah.expr (ai.a0 (v:=.ref 12) I rfl (vs:=[.int 58,.int l]) I ((BK uD).mono (by omega)))) <|
  ab.one (ah.assign (v:=.none) I (bq.attr (v:=.ref 11) I (by kernel_rfl))))
theorem UC (hd:S.dep=.int d) (h:S.fits l (d - 1)) (ak:S.aP<aL):aq 5 (.obj (.ref 389)) [.ref 11,.int 59,.int l] (mk P S T) .none (mk P (((S.meet l (d - 1)).emit 59 (.int l)).cI (.int (d - 1+0))) T):=by
 have uD:(S.meet l (d - 1)).aP<aL:=by unfold au.aP au.meet at *;simpa using ak
 obtain ⟨aO,fu,ln,con,dZ,ag,bH,dep,bB⟩:=S;cases hd
 exact aq.proc (a:=389) (fi:=⟨qG,_,_,vT.1,none,false⟩) rfl rfl (by kernel_rfl) rfl <|
  ab.one (ah.cm (GT.cmp (a:=.int d) (b:=.none) I I rfl) <|
  ab.cons (ah.expr (ai.a0 (v:=.ref 11) I rfl (vs:=[.int l,.int (d - 1)]) I ((xF h).mono (by omega)))) <|
  ab.cons (ah.expr (ai.a0 (v:=.ref 12) I rfl (vs:=[.int 59,.int l]) I ((BK uD).mono (by omega)))) <|
  ab.one (ah.assign (v:=.int (d - 1+0)) I (bq.attr (v:=.ref 11) I (by kernel_rfl))))
theorem UD (hd:S.dep=.int d) (h:S.fits l d) (ak:S.aP<aL):aq 5 (.obj (.ref 389)) [.ref 11,.int 77,.int l] (mk P S T) .none (mk P (((S.meet l d).emit 77 (.int l)).cI (.int (d - 1+2))) T):=by
 have uD:(S.meet l d).aP<aL:=by unfold au.aP au.meet at *;simpa using ak
 obtain ⟨aO,fu,ln,con,dZ,ag,bH,dep,bB⟩:=S;cases hd
 exact aq.proc (a:=389) (fi:=⟨qG,_,_,vT.1,none,false⟩) rfl rfl (by kernel_rfl) rfl <|
  ab.one (ah.cm (GT.cmp (a:=.int d) (b:=.none) I I rfl) <|
  ab.cons (ah.expr (ai.a0 (v:=.ref 11) I rfl (vs:=[.int l,.int d]) I ((xF h).mono (by omega)))) <|
  ab.cons (ah.expr (ai.a0 (v:=.ref 12) I rfl (vs:=[.int 77,.int l]) I ((BK uD).mono (by omega)))) <|
  ab.one (ah.assign (v:=.int (d - 1+2)) I (bq.attr (v:=.ref 11) I (by kernel_rfl))))
noncomputable def g9:V→Bool
 |.str _=>true
 |.int _=>true
 |_=>false
noncomputable def ow:V→V→Bool
 |.str a,.str b=>seq a b
 |.int a,.int b=>decide (a=b)
 |_,_=>false
noncomputable def hs (v:V):List V→Nat
 |[]=>0
 |k::r=>match ow k v with
  |true=>0
  |false=>hs v r+1
noncomputable def kr (v:V):List V→Bool
 |[]=>false
 |k::r=>match ow k v with
  |true=>true
  |false=>kr v r
theorem UE {k v:V}{H:List aj}(h1:g9 k=true) (af:g9 v=true):aq 2 (.obj (.ref 191)) [k,v] H (.bool (ow k v)) H:=by
 cases k <;> cases h1 <;> cases v <;> cases af <;> exact I
noncomputable abbrev fb:Str:=⟨⟨[97,116]⟩⟩
noncomputable abbrev rT:Str:=⟨⟨[107,110,111,119,110]⟩⟩
noncomputable abbrev dw:Str:=⟨⟨[118,97,108,117,101]⟩⟩
noncomputable def ha (l:List Stmt):PySem.Expr:=(HA (bQ l 0)).1
noncomputable def d1 (l:List Stmt):List Stmt:=sB (bQ l 0)
theorem HT (aV:g9 v=true):∀(r pre:List V) (ls:List (Str×V)),S.con=pre++r→(∀ x∈r,g9 x=true)→(ls=[(bk,.ref 12),(dw,v)]∨∃ a b,ls=[(bk,.ref 12),(dw,v),(fb,a),(rT,b)]) →
 ∃ bM,(bM=[(bk,.ref 12),(dw,v)]∨∃ a b,bM=[(bk,.ref 12),(dw,v),(fb,a),(rT,b)])∧cV 3 ⟨kQ.scope,[],none,ls⟩ (ha kR.1) (.ju (.ref 15)) pre.length (d1 kR.1) (mk P S T)
  (match kr v r with |true=>.ret (.int (pre.length+hs v r:Nat)) |false=>.next) bM (mk P S T)
 |[],pre,ls,e,_,hl=>⟨ls,hl,cV.done (by unfold itemAt;dsimp only;rw[HO];dsimp only;rw[e];simp) (by kernel_rfl)⟩
 |k::r,pre,ls,e,bR,hl=>by
  have it:itemAt (.ju (.ref 15)) pre.length (mk P S T)=some (some (.tup [.int pre.length,k])):=by
   unfold itemAt;dsimp only;rw[HO];dsimp only;rw[e];simp
  have ga:bq 3 ⟨kQ.scope,[],none,ls⟩ (ha kR.1) (.tup [.int pre.length,k]) (mk P S T) [(bk,.ref 12),(dw,v),(fb,.int pre.length),(rT,k)] (mk P S T):=by
   rcases hl with rfl |⟨a,b,rfl⟩
   ·exact I
   ·exact I
  have test:∀ q,ow k v=q→GT 3 ⟨kQ.scope,[],none,[(bk,.ref 12),(dw,v),(fb,.int pre.length),(rT,k)]⟩ (eH (bQ (d1 kR.1) 0)) (mk P S T) q (mk P S T):=fun q dk =>
   GT.val (dk▸ai.bI (vs:=[k,v]) I I ((UE (bR k (.head _)) aV).mono (by omega)))
  cases dk:ow k v with
  |true =>
   have:=cV.out (fr:=⟨kQ.scope,[],none,ls⟩) (t:=ha kR.1) (body:=d1 kR.1) (u:=.int pre.length) it (by kernel_rfl) ga (ab.stop (ah.cm (test _ dk) (ab.ret (ah.ret I))) (by intro z;cases z))
   refine ⟨[(bk,.ref 12),(dw,v),(fb,.int pre.length),(rT,k)],.inr ⟨_,_,rfl⟩,?_⟩
   simp only[kr,hs,dk]
   exact this
  |false =>
   obtain ⟨bM,k0,g⟩:=HT aV r (pre++[k]) [(bk,.ref 12),(dw,v),(fb,.int pre.length),(rT,k)] (by simp[e]) (fun x m=>bR x (.tail _ m)) (.inr ⟨_,_,rfl⟩)
   refine ⟨bM,k0,?_⟩
   have g2:=cV.step (fr:=⟨kQ.scope,[],none,ls⟩) (t:=ha kR.1) (body:=d1 kR.1) it (by kernel_rfl) ga (ab.one (ah.iff (test _ dk) ab.nil)) (by rw[List.length_append,List.length_singleton] at g;exact g)
   simp only[kr,hs,dk]
   rw[show pre.length+(hs v r+1)=pre.length+1+hs v r by omega]
   exact g2
noncomputable def au.cst (S:au) (v:V):au:=match kr v S.con with
 |true=>S
 |false=>{S with con:=S.con++[v]}
theorem BL {v:V}:∀{l:List V},kr v l=false→hs v l=l.length
 |[],_=>rfl
 |k::r,h=>by
  simp only[kr] at h
  simp only[hs]
  cases q:ow k v with
  |true=>rw[q] at h;cases h
  |false=>rw[q] at h;simp only[List.length_cons];rw[BL h]
theorem HU (aV:g9 v=true) (aw:∀ x∈S.con,g9 x=true) (ak:S.aP<aL):aq 4 (.obj (.ref 248)) [.ref 12,v] (mk P S T) (.int (hs v S.con:Nat)) (mk P (S.cst v) T):=by
 obtain ⟨bM,k0,g⟩:=HT (P:=P) (S:=S) (T:=T) aV S.con [] [(bk,.ref 12),(dw,v)] rfl aw (.inl rfl)
 have dn:hK kQ.scope.names ([⟨⟨[115,101,108,102]⟩⟩,⟨⟨[118,97,108,117,101]⟩⟩].zip [.ref 12,v])=[(bk,.ref 12),(dw,v)]:=by kernel_rfl
 cases q:kr v S.con with
 |true =>
  rw[q] at g
  have e:S.cst v=S:=by unfold au.cst;rw[q]
  rw[e]
  refine aq.func (a:=248) (fi:=⟨kQ,[⟨⟨[115,101,108,102]⟩⟩,⟨⟨[118,97,108,117,101]⟩⟩],[],kR.1,none,false⟩) (vs:=[.ref 12,v]) (ls:=bM) (by kernel_rfl) rfl (by kernel_rfl) rfl ?_
  dsimp only
  rw[dn]
  simp only[List.length_nil,Nat.zero_add] at g
  exact ab.stop (ah.BI (v:=.ref 15) I (src:=.ju (.ref 15)) rfl g) (by intro z;cases z)
 |false =>
  rw[q] at g
  have e:S.cst v={S with con:=S.con++[v]}:=by unfold au.cst;rw[q]
  rw[e,BL q,←xC S.con v]
  refine aq.func (a:=248) (fi:=⟨kQ,[⟨⟨[115,101,108,102]⟩⟩,⟨⟨[118,97,108,117,101]⟩⟩],[],kR.1,none,false⟩) (vs:=[.ref 12,v]) (ls:=bM) (by kernel_rfl) rfl (by kernel_rfl) rfl ?_
  dsimp only
  rw[dn]
  refine ab.cons (ah.BI (v:=.ref 15) I (src:=.ju (.ref 15)) rfl g) ?_
  rcases k0 with rfl |⟨a,b,rfl⟩
  ·exact Gt.k7 20 (fun aa=>aa∧S.con.length<aL) (fun N n aa=>by kernel_rfl) fun aa o=>⟨o,(au.lt ak).2.2.1⟩
  ·exact Gt.k7 20 (fun aa=>aa∧S.con.length<aL) (fun N n aa=>by kernel_rfl) fun aa o=>⟨o,(au.lt ak).2.2.1⟩
end
section
variable {P:Pre}{S:au}{T:List aj}{d e:Int}{l:Nat}{a v:V}
theorem HV:(S.cst v).aP≤S.aP+1:=by
 unfold au.cst
 split
 ·omega
 ·unfold au.aP;simp;omega
theorem pJ:(S.cst v).dep=S.dep:=by unfold au.cst;split <;> rfl
theorem UG {op t q:Int}(r:gv op t q) (hd:S.dep=.int d) (aV:g9 v=true) (aw:∀ x∈S.con,g9 x=true) (ak:S.aP+1<aL) :
 aq 5 (.obj (.ref 382)) [.ref 11,.int op,v] (mk P S T) .none (mk P (((S.cst v).emit op (.int (hs v S.con:Nat))).cI (.int (d - t+q))) T):=by
 have af:(S.cst v).aP<aL:=Nat.lt_of_le_of_lt HV ak
 have aB:(S.cst v).dep=.int d:=pJ.trans hd
 have c:=HU (P:=P) (T:=T) aV aw (by omega)
 have ad:=BH (P:=P) (T:=T) (a:=.int (hs v S.con:Nat)) r aB af
 obtain ⟨aO,fu,ln,con,dZ,ag,bH,dep,bB⟩:=S;cases hd
 exact aq.proc (a:=382) (fi:=⟨vS,_,_,D6.1,none,false⟩) rfl rfl (by kernel_rfl) rfl <|
  ab.one (ah.cm (GT.cmp (a:=.int d) (b:=.none) I I rfl) <|
  ab.one (ah.expr (ai.a0 (v:=.ref 11) I rfl (GE.cons (v:=.int op) I (GE.cons (ai.a0 (v:=.ref 12) I rfl (vs:=[v]) I c) GE.nil)) ad)))
theorem UH (r:gv 4 0 1) (hd:S.dep=.int d) (aV:g9 v=true) (aw:∀ x∈S.con,g9 x=true) (ak:S.aP+1<aL) :
 aq 5 (.obj (.ref 375)) [.ref 11,v] (mk P S T) .none (mk P (((S.cst v).emit 4 (.int (hs v S.con:Nat))).cI (.int (d - 0+1))) T):=by
 have af:(S.cst v).aP<aL:=Nat.lt_of_le_of_lt HV ak
 have aB:(S.cst v).dep=.int d:=pJ.trans hd
 have c:=HU (P:=P) (T:=T) aV aw (by omega)
 have ad:=BH (P:=P) (T:=T) (a:=.int (hs v S.con:Nat)) r aB af
 obtain ⟨aO,fu,ln,con,dZ,ag,bH,dep,bB⟩:=S;cases hd
 exact aq.proc (a:=375) (fi:=⟨vR,_,_,D5.1,none,false⟩) rfl rfl (by kernel_rfl) rfl <|
  ab.one (ah.cm (GT.cmp (a:=.int d) (b:=.none) I I rfl) <|
  ab.one (ah.expr (ai.a0 (v:=.ref 11) I rfl (GE.cons (v:=.int 4) I (GE.cons (ai.a0 (v:=.ref 12) I rfl (vs:=[v]) I c) GE.nil)) ad)))
theorem UI (hd:S.dep=.none) (h:S.ag[l]?=some (.int (-1))) (af:S.bB[l]?=some .none):aq 6 (.obj (.ref 403)) [.ref 11,.int l,.int d] (mk P S T) .none (mk P (((S.meet l d).put l).cI (.int d)) T) :=
 aq.proc (a:=403) (fi:=⟨vU,_,_,D7.1,none,false⟩) rfl rfl (by kernel_rfl) rfl <|
  ab.cons (ah.expr (ai.a0 (v:=.ref 11) I rfl (vs:=[.int l,.int d]) I ((HQ af).mono (by omega)))) <|
  ab.one (ah.expr (ai.a0 (v:=.ref 11) I rfl (vs:=[.int l]) I (BJ (S:=S.meet l d) hd h (HR (.inl af)))))
theorem uE (S:au):S.ay.ag[S.ag.length]?=some (.int (-1)):=by unfold au.ay;simp
theorem uF (S:au) (h:S.bB.length=S.ag.length):S.ay.bB[S.ag.length]?=some .none:=by unfold au.ay;rw[←h];simp
theorem UJ (hd:S.dep=.int d) (he:S.bB.length=S.ag.length) (ak:S.aP<aL):aq 6 (.obj (.ref 410)) [.ref 11] (mk P S T) (.int S.ag.length) (mk P ((S.ay.meet S.ag.length d).put S.ag.length) T) :=
 aq.func (a:=410) (fi:=⟨td,_,_,zR.1,none,false⟩) rfl rfl (by kernel_rfl) rfl <|
  ab.cons (ah.assign (ai.a0 (v:=.ref 11) I rfl GE.nil ((pH ak).mono (by omega))) (bq.name (by kernel_rfl))) <|
  ab.cons (ah.expr (ai.a0 (v:=.ref 11) I rfl (vs:=[.int S.ag.length]) I (HS (S:=S.ay) hd (uE S) (.inl (uF S he))))) <|
  ab.ret (ah.ret I)
theorem UK (hd:S.dep=.none) (he:S.bB.length=S.ag.length) (ak:S.aP<aL):aq 6 (.obj (.ref 410)) [.ref 11] (mk P S T) (.int S.ag.length) (mk P ((S.ay.put S.ag.length).cI .none) T) :=
 aq.func (a:=410) (fi:=⟨td,_,_,zR.1,none,false⟩) rfl rfl (by kernel_rfl) rfl <|
  ab.cons (ah.assign (ai.a0 (v:=.ref 11) I rfl GE.nil ((pH ak).mono (by omega))) (bq.name (by kernel_rfl))) <|
  ab.cons (ah.expr (ai.a0 (v:=.ref 11) I rfl (vs:=[.int S.ag.length]) I (BJ (S:=S.ay) hd (uE S) (uF S he)))) <|
  ab.ret (ah.ret I)
theorem UL (h:S.aP<aL):aq 2 (.obj (.ref 269)) [.ref 12,v] (mk P S T) (.int S.dZ.length) (mk P {S with dZ:=S.dZ++[v]} T):=by
 have z:aq 2 (.obj (.ref 269)) [.ref 12,v] (mk P S T) (.int ((S.dZ++[v]).length - 1)) (mk P {S with dZ:=S.dZ++[v]} T) :=
  Gt.k7 20 (fun aa=>(aa∧S.dZ.length<aL)) (fun N n aa=>by kernel_rfl) fun aa o=>⟨o,(au.lt h).2.2.2.1⟩
 rwa [xC] at z
theorem UM {x y z:V}(h:S.aP<aL) {b:Bool}:aq 2 (.obj (.ref 276)) [.ref 12,x,y,z,.int d,.bool b] (mk P S T) .none (mk P {S with bH:=S.bH++[.tup [x,y,z,.int d,.bool b]]} T) :=
 Gt.k7 20 (fun aa=>(aa∧S.bH.length<aL)) (fun N n aa=>by kernel_rfl) fun aa o=>⟨o,(au.lt h).2.2.2.2.2.1⟩
theorem UN:gv 4 0 1:=fun N n aa P S T d a=>by kernel_rfl
theorem UO:gv 9 2 2:=fun N n aa P S T d a=>by kernel_rfl
theorem HW:gv 10 3 3:=fun N n aa P S T d a=>by kernel_rfl
theorem UP:gv 17 0 0:=fun N n aa P S T d a=>by kernel_rfl
theorem UQ:gv 13 0 1:=fun N n aa P S T d a=>by kernel_rfl
theorem UR:gv 14 1 1:=fun N n aa P S T d a=>by kernel_rfl
theorem US:gv 18 0 1:=fun N n aa P S T d a=>by kernel_rfl
theorem UT:gv 20 1 1:=fun N n aa P S T d a=>by kernel_rfl
theorem UU:gv 24 2 1:=fun N n aa P S T d a=>by kernel_rfl
theorem UW:gv 26 3 1:=fun N n aa P S T d a=>by kernel_rfl
theorem UX:gv 67 0 1:=fun N n aa P S T d a=>by kernel_rfl
theorem UY:gv 76 1 1:=fun N n aa P S T d a=>by kernel_rfl
theorem UZ:gv 81 2 2:=fun N n aa P S T d a=>by kernel_rfl
theorem U0 (hd:S.dep=.int d) (h:S.aP<aL):aq 4 (.obj (.ref 368)) [.ref 11,.int 66] (mk P S T) .none (mk P ((S.emit 66 .none).cI .none) T):=by
 obtain ⟨_,_,_,_,_,_,_,_,_⟩:=S;cases hd
 exact Gt.k7 40 (fun aa=>(aa∧_)∧_) (fun N n aa=>by kernel_rfl) fun aa o=>⟨⟨o,(au.lt h).1⟩,(au.lt h).2.1⟩
end
inductive b9 where
 |t |u |e |x
noncomputable def b9.s:b9→Str
 |.t=>rO
 |.u=>rP
 |.e=>pD
 |.x=>dE
noncomputable def b4 (v:V) (k:Int):V:=match v with
 |.int d=>.int (d+k)
 |v=>v
noncomputable def au.bg (S:au) (op:Int) (a:V) (k:Int):au:=(S.emit op a).cI (b4 S.dep k)
noncomputable def au.dK (S:au) (op:Int) (v:V) (k:Int):au:=(S.cst v).bg op (.int (hs v S.con:Nat)) k
noncomputable def au.l1 (S:au):au:={S with ln:=1}
noncomputable def au.a6 (S:au) (n:b9):au:=match n with
 |.x=>S.bg 13 (.int 3) 1
 |n=>S.dK 18 (.str n.s) 1
noncomputable def iK (S:au):Prop:=∀ x∈S.con,g9 x=true
section
variable {P:Pre}{S:au}{T:List aj}{d e k:Int}{l:Nat}{a v:V}
theorem xG {op t q:Int}(r:gv op t q) (ar:q - t=k) (hd:S.dep=.int d) (h:S.aP<aL):aq 4 (.obj (.ref 368)) [.ref 11,.int op,a] (mk P S T) .none (mk P (S.bg op a k) T):=by
 have z:=BH (P:=P) (T:=T) (a:=a) r hd h
 unfold au.bg
 rw[hd]
 show aq 4 _ _ _ _ (mk P ((S.emit op a).cI (.int (d+k))) T)
 rw[show d+k=d - t+q by omega];exact z
theorem pK {op t q:Int}(r:gv op t q) (ar:q - t=k) (hd:S.dep=.int d) (h:S.aP<aL):aq 4 (.obj (.ref 368)) [.ref 11,.int op] (mk P S T) .none (mk P (S.bg op .none k) T):=by
 have z:=Uv (P:=P) (T:=T) r hd h
 unfold au.bg
 rw[hd]
 show aq 4 _ _ _ _ (mk P ((S.emit op .none).cI (.int (d+k))) T)
 rw[show d+k=d - t+q by omega];exact z
theorem BM {op t q:Int}(r:gv op t q) (ar:q - t=k) (hd:S.dep=.int d) (aV:g9 v=true) (aw:iK S) (ak:S.aP+1<aL):aq 5 (.obj (.ref 382)) [.ref 11,.int op,v] (mk P S T) .none (mk P (S.dK op v k) T):=by
 have z:=UG (P:=P) (T:=T) r hd aV aw ak
 unfold au.dK au.bg
 rw[pJ,hd]
 show aq 5 _ _ _ _ (mk P (((S.cst v).emit op _).cI (.int (d+k))) T)
 rw[show d+k=d - t+q by omega];exact z
theorem U1 (hd:S.dep=.int d) (aV:g9 v=true) (aw:iK S) (ak:S.aP+1<aL):aq 5 (.obj (.ref 375)) [.ref 11,v] (mk P S T) .none (mk P (S.dK 4 v 1) T):=by
 have z:=UH (P:=P) (T:=T) UN hd aV aw ak
 unfold au.dK au.bg
 rw[pJ,hd]
 show aq 5 _ _ _ _ (mk P (((S.cst v).emit 4 _).cI (.int (d+1))) T)
 rw[show d+1=d - 0+1 by omega];exact z
noncomputable abbrev jO:Str:=⟨⟨[119,104,101,114,101]⟩⟩
theorem U2 {s:Str}(f1:ah 5 ⟨qH.scope,[],none,[(bk,.ref 9),(ei,.str s)]⟩ (bQ vV.1 0) (mk P S T) .next [(bk,.ref 9),(ei,.str s),(rN,.str rJ),(jO,.str s)] (mk P S T))
 (c:aq 5 (.obj (.ref 382)) [.ref 11,.int 18,.str s] (mk P S T) .none (mk P (S.dK 18 (.str s) 1) T)):aq 6 (.obj (.ref 447)) [.ref 9,.str s] (mk P S T) .none (mk P (S.dK 18 (.str s) 1) T):=by
 exact aq.ft (a:=447) (fi:=⟨qH,[bk,ei],[],vV.1,none,false⟩) (vs:=[.ref 9,.str s]) (by kernel_rfl) rfl (by kernel_rfl) rfl (by kernel_rfl) <|
  ab.cons f1 (ab.one (ah.cm I (ab.one (ah.expr (ai.a0 (v:=.ref 11) I rfl I c)))))
theorem U3 {n:b9}(bc:n≠.x) (hd:S.dep=.int d) (aw:iK S) (ak:S.aP+1<aL):aq 6 (.obj (.ref 447)) [.ref 9,.str n.s] (mk P S T) .none (mk P (S.dK 18 (.str n.s) 1) T):=by
 have c:=BM (P:=P) (T:=T) (k:=1) (v:=.str n.s) US rfl hd rfl aw ak
 cases n
 case x=>exact absurd rfl bc
 all_goals exact U2 I c
theorem U4 (hd:S.dep=.int d) (ak:S.aP+1<aL):aq 6 (.obj (.ref 447)) [.ref 9,.str dE] (mk P S T) .none (mk P (S.bg 13 (.int 3) 1) T):=by
 have c:=xG (P:=P) (T:=T) (k:=1) (a:=.int 3) UQ rfl hd (by omega)
 exact aq.proc (a:=447) (fi:=⟨qH,_,_,vV.1,none,false⟩) rfl rfl (by kernel_rfl) rfl <|
  ab.cons (bJ:=[(bk,.ref 9),(ei,.str dE),(rN,.str gJ),(jO,.int 3)]) I <|
  ab.one (ah.iff I (ab.one (ah.expr (ai.a0 (v:=.ref 11) I rfl I (c.mono (by omega))))))
theorem U5 (n:b9) (hd:S.dep=.int d) (aw:iK S) (ak:S.aP+1<aL):aq 6 (.obj (.ref 447)) [.ref 9,.str n.s] (mk P S T) .none (mk P (S.a6 n) T):=by
 cases n
 case x=>exact U4 hd ak
 all_goals exact U3 (by intro z;cases z) hd aw ak
end
section
variable {d e:Nat}{H H' : List aj}{a b v u:V}{fs:List (Str×V)}{C:Addr}{ci:nM}{nm:Str}{x y z:aj}
theorem fc:(H++[x])[H.length]?=some x:=by simp
theorem HX:(H++[x,y])[H.length]?=some x:=by simp
theorem HY:(H++[x,y])[H.length+1]?=some y:=by simp
theorem rU:(H++[x]).set H.length y=H++[y]:=by simp
theorem cY {i:Nat}(h:H[i]?=some x):(H++H')[i]?=some x:=by
 rw[List.getElem?_append_left (List.getElem?_eq_some_iff.mp h).1];exact h
noncomputable def attrOk (C:Addr) (nm:Str) (fs:List (Str×V)):Bool:=(c2 C hI).any fun ci=>lQ nm ci.as&&Nat.blt fs.length 100
theorem HZ (h:attrOk C nm fs=true) {i:Nat}(aM:H[i]?=some (.inst C fs)):mT (.ref i) nm u ⟨H,True⟩=some ⟨H.set i (.inst C (d7 nm u fs)),True⟩:=by
 exact kZ h fun ci h1 h=>(bj (congrArg lR aM)).trans ((bj h1).trans (eC h))
theorem ox (h:attrOk C nm fs=true):mT (.ref H.length) nm u ⟨H++[.inst C fs],True⟩=some ⟨H++[.inst C (d7 nm u fs)],True⟩ :=
 (HZ h fc).trans (congrArg (fun z=>some (ax.mk z True)) rU)
theorem aq.cls {fi:eR}{args:List V}(aw:c2 C dD=none) (h1:c2 C hI=some ci) (af:c2 ci.init dD=some fi) (h:aq (d+1) (.obj (.ref ci.init)) (.ref H.length::args) (H++[.inst C []]) .none H'):aq (d+2) (.obj (.ref C)) args H (.ref H.length) H':=fun aa o =>
 let ⟨dr,o',K,x⟩:=h aa o;⟨dr,o',K+1,fun N n g7 b=>match N,n,g7,b with
 |N+1,n+2,g7,b=>BB.trans ((l7 aw).trans ((bj h1).trans ((bj af).trans (bj ((Hl af).symm.trans (x (N+1) (n+1) (Nat.le_of_succ_le g7) (Nat.le_of_succ_le_succ b)))))))⟩
theorem U6 (k l p:V):aq 1 (.obj (.ref 850)) [.ref H.length,k,l,p] (H++[.inst 853 []]) .none (H++[.inst 853 [(c3,k),(en,l),(dU,p),(g8,.none)]]) :=
 aq.ft (a:=850) (fi:=⟨wd,[bk,c3,en,dU],[],Ei.1,none,false⟩) (vs:=[.ref H.length,k,l,p]) (cN:=[(bk,.ref H.length),(c3,k),(en,l),(dU,p)]) (by kernel_rfl) rfl (by kernel_rfl) rfl (by kernel_rfl) <|
  ab.cons (ah.assign (v:=k) I (bq.attr (v:=.ref H.length) (H2:=H++[.inst 853 [(c3,k)]]) I (ox (fs:=[]) (by kernel_rfl)))) <|
  ab.cons (ah.assign (v:=l) I (bq.attr (v:=.ref H.length) (H2:=H++[.inst 853 [(c3,k),(en,l)]]) I (ox (fs:=[(c3,k)]) (by kernel_rfl)))) <|
  ab.cons (ah.assign (v:=p) I (bq.attr (v:=.ref H.length) (H2:=H++[.inst 853 [(c3,k),(en,l),(dU,p)]]) I (ox (fs:=[(c3,k),(en,l)]) (by kernel_rfl)))) <|
  ab.one (ah.assign (v:=.none) I (bq.attr (v:=.ref H.length) (H2:=H++[.inst 853 [(c3,k),(en,l),(dU,p),(g8,.none)]]) I (ox (fs:=[(c3,k),(en,l),(dU,p)]) (by kernel_rfl))))
theorem xH (k l p:V):aq 2 (.obj (.ref 853)) [k,l,p] H (.ref H.length) (H++[.inst 853 [(c3,k),(en,l),(dU,p),(g8,.none)]]) :=
 aq.cls (d:=0) (ci:=⟨850,_,_⟩) rfl rfl rfl (U6 k l p)
end
section
variable {d e:Nat}{H H1 H2 H' : List aj}{a b v u r:V}{fs:List (Str×V)}{C:Addr}{ci:nM}{nm:Str}{x y z:aj}
theorem rV {H G:List aj}:(H++G).take H.length=H:=by simp
theorem ks {G:List aj}{b n i:Nat}{vs us:List V}(bt:b≤i) (h:G[i]?=some (.list vs)) (hm:iz (gF G b n) vs=some us):gF G b (n+1) (.ref i)=some (.aN us) :=
 (eC (Nat.ble_eq.mpr bt)).trans ((congrArg (wA (gF G b n)) h).trans (eh hm))
theorem rW {G:List aj}{b n i:Nat}{C:Addr}{vs us:List (Str×V)}(bt:b≤i) (h:G[i]?=some (.inst C vs)) (hm:nW (gF G b n) vs=some us):gF G b (n+1) (.ref i)=some (.fin C us) :=
 (eC (Nat.ble_eq.mpr bt)).trans ((congrArg (wA (gF G b n)) h).trans (eh hm))
theorem m9 {f:V→Option V}{v u:V}{r t:List V}(h1:f v=some u) (af:iz f r=some t):iz f (v::r)=some (u::t):=(bj h1).trans (eh af)
theorem dx {f:V→Option V}{k:Str}{v u:V}{r t:List (Str×V)}(h1:f v=some u) (af:nW f r=some t):nW f ((k,v)::r)=some ((k,u)::t):=(bj h1).trans (eh af)
theorem rX {f:V→Option V}:nW f []=some []:=rfl
theorem rY {f:V→Option V}:iz f []=some []:=rfl
noncomputable def isA:V→Bool
 |.ref _=>false
 |.tup _=>false
 |_=>true
theorem ej {G:List aj}{b n:Nat}{v:V}(h1:isA v=true) (af:cq b v=true):gF G b (n+1) v=some v:=by
 cases v <;> first |exact dv h1 |exact eC (y:=none) af
noncomputable abbrev BN (k:Str) (l:Int) (p:V):aj:=.inst 853 [(c3,.str k),(en,.int l),(dU,p),(g8,.none)]
noncomputable abbrev fe (k:Str) (l:Int) (ps:List V):V:=.fin 853 [(c3,.str k),(en,.int l),(dU,.aN ps),(g8,.none)]
theorem pL {b:Nat}{v u:V}{G:List aj}{aa:Prop}(h1:gF G b 8 v=some u) (af:G.take b=H) (aB:H.all (cE b)=true):fin b v ⟨G,aa⟩=some (u,⟨H,aa⟩):=by
 subst af;exact (bj h1).trans (eC aB)
theorem H0 {k:Str}{l:Int}{ps us:List V}{aa:Prop}(aw:H.all (cE H.length)=true) (a3:iz (gF ((H++[.list ps])++[BN k l (.ref H.length)]) H.length 6) ps=some us) :
 fin H.length (.ref (H++[aj.list ps]).length) ⟨(H++[.list ps])++[BN k l (.ref H.length)],aa⟩=some (fe k l us,⟨H,aa⟩):=by
 refine pL (rW (by simp) fc (dx (ej rfl rfl) (dx (ej rfl rfl) (dx (ks (Nat.le_refl _) (cY fc) a3) (dx (ej rfl rfl) rX))))) (by simp) aw
theorem U7 {R:dO}{n:Nat}{st:ax}{ps:Arguments}{body:PySem.Expr}{sc:Scope}:tR R (n+1) (.lam ps body sc) [v] st=(tQ ps sc).bind fun x=>(R.ev n ⟨sc,[],none,[(x,v)]⟩ body st).bind (nX st.H.length):=rfl
theorem aq.lam {ps:Arguments}{body:PySem.Expr}{sc:Scope}{x:Str}(bA:tQ ps sc=some x) (h:ai d ⟨sc,[],none,[(x,v)]⟩ body H r H1) (hf:∀ aa,nX H.length (r,⟨H1,aa⟩)=some (u,⟨H2,aa⟩)):aq (d+1) (.lam ps body sc) [v] H u H2:=fun aa o =>
 let ⟨dr,o',K,x⟩:=h aa o;⟨dr,o',K+1,fun N n g7 b=>match N,n,g7,b with
 |N+1,n+1,g7,b=>U7.trans ((bj bA).trans ((bj (x N n (Nat.le_of_succ_le_succ g7) (Nat.le_of_succ_le_succ b))).trans (hf dr)))⟩
noncomputable abbrev BO:Str:=⟨⟨[105,110,110,101,114]⟩⟩
noncomputable abbrev ma:V:=fe BO 0 []
theorem U8 (aw:H.all (cE H.length)=true):aq 3 rR [v] H ma H :=
 aq.lam (ps:=match rR with |.lam ps _ _=>ps |_=>⟨[],[],none,[],[],none,[]⟩) (body:=match rR with |.lam _ b _=>b |_=>.Constant .none 0 default) (sc:=match rR with |.lam _ _ s=>s |_=>default) (x:=⟨⟨[110,111,100,101]⟩⟩) (by kernel_rfl)
  (ai.bI (g:=.obj (.ref 853)) I (GE.cons (v:=.str BO) I (GE.cons (v:=.int 0) I (GE.cons (ai.list GE.nil) GE.nil))) (xH (.str BO) (.int 0) (.ref H.length))) fun aa=>H0 aw rY
end
noncomputable abbrev pM:Str:=⟨⟨[69,120,112,114]⟩⟩
noncomputable abbrev uG:Str:=⟨⟨[78,97,109,101]⟩⟩
noncomputable abbrev ku:Str:=⟨⟨[78,117,109]⟩⟩
noncomputable abbrev xI:Str:=⟨⟨[70,117,110,99,116,105,111,110]⟩⟩
noncomputable abbrev pN:Str:=⟨⟨[87,104,105,108,101]⟩⟩
noncomputable abbrev nc:Str:=⟨⟨[70,111,114,73,110]⟩⟩
noncomputable abbrev BP:Str:=⟨⟨[84,104,114,111,119]⟩⟩
noncomputable abbrev gK:Str:=⟨⟨[84,114,121]⟩⟩
noncomputable abbrev U9:Str:=⟨⟨[86,97,114]⟩⟩
noncomputable abbrev Va:Str:=⟨⟨[77,101,109,98,101,114]⟩⟩
noncomputable abbrev Vb:Str:=⟨⟨[69,108,101,109,101,110,116]⟩⟩
noncomputable abbrev cJ:Str:=⟨⟨[110,111,100,101]⟩⟩
noncomputable abbrev ht:Str:=⟨⟨[116,97,114,103,101,116]⟩⟩
noncomputable abbrev pO:Str:=⟨⟨[99,111,110,116,114,111,108]⟩⟩
noncomputable abbrev H4:Str:=⟨⟨[116,101,115,116]⟩⟩
noncomputable abbrev nd:Str:=⟨⟨[98,108,111,99,107]⟩⟩
noncomputable abbrev hQ:Str:=⟨⟨[108,97,115,116]⟩⟩
noncomputable abbrev pP:Str:=⟨⟨[101,110,100]⟩⟩
noncomputable abbrev uH:Str:=⟨⟨[114,101,115,116]⟩⟩
noncomputable abbrev nf:Str:=⟨⟨[115,116,97,114,116]⟩⟩
noncomputable abbrev pQ:Str:=⟨⟨[115,116,111,112]⟩⟩
noncomputable abbrev iL:Str:=⟨⟨[102,105,114,115,116]⟩⟩
noncomputable abbrev xJ:Str:=⟨⟨[104,97,110,100,108,101,114]⟩⟩
section
variable {d:Nat}{fr:a5}{H H' : List aj}{ls:List (Str×V)}{e:PySem.Expr}{ss t:List Stmt}{p:Pos}
theorem ab.bx (h:GT d fr e H false H) (af:ab d fr t H .next ls H'):ab d fr [.If e ss t p] H .next ls H':=ab.one (ah.iff h af)
theorem ab.eO (h:GT d fr e H true H) (af:ab d fr ss H .next ls H'):ab d fr [.If e ss t p] H .next ls H':=ab.one (ah.cm h af)
end
section
variable {P:Pre}{S:au}{T:List aj}{d e k:Int}{l:Nat}{a v:V}
noncomputable abbrev cB (n:b9):V:=fe uG 1 [.str n.s]
theorem rZ (n:b9) (hd:S.dep=.int d) (aw:iK S) (ak:S.aP+1<aL):aq 8 (.obj (.ref 601)) [.ref 9,cB n] (mk P S T) .none (mk P (S.l1.a6 n) T) :=
 aq.ft (a:=601) (fi:=⟨o1,[bk,cJ],[],te.1,none,false⟩) (vs:=[.ref 9,cB n]) (cN:=[(bk,.ref 9),(cJ,cB n)]) (by kernel_rfl) rfl (by kernel_rfl) rfl (by kernel_rfl) <|
  ab.cons (bJ:=[(bk,.ref 9),(cJ,cB n),(c3,.str uG),(dU,.aN [.str n.s])]) I <|
  ab.cons (H1:=mk P S.l1 T) (bJ:=[(bk,.ref 9),(cJ,cB n),(c3,.str uG),(dU,.aN [.str n.s])]) ic <|
  ab.bx I<|ab.eO I<|ab.one (ah.expr (ai.a0 (v:=.ref 9) (first:=[.ref 9]) (vs:=[.str n.s]) I rfl I ((U5 (S:=S.l1) n hd aw ak).mono (by omega))))
theorem Vc (hd:S.dep=.int d) (aw:iK S) (ak:S.aP+1<aL):aq 8 (.obj (.ref 601)) [.ref 9,fe ku 1 [.int k]] (mk P S T) .none (mk P (S.l1.dK 4 (.int k) 1) T) :=
 aq.ft (a:=601) (fi:=⟨o1,[bk,cJ],[],te.1,none,false⟩) (vs:=[.ref 9,fe ku 1 [.int k]]) (cN:=[(bk,.ref 9),(cJ,fe ku 1 [.int k])]) (by kernel_rfl) rfl (by kernel_rfl) rfl (by kernel_rfl) <|
  ab.cons (bJ:=[(bk,.ref 9),(cJ,fe ku 1 [.int k]),(c3,.str ku),(dU,.aN [.int k])]) I <|
  ab.cons (H1:=mk P S.l1 T) (bJ:=[(bk,.ref 9),(cJ,fe ku 1 [.int k]),(c3,.str ku),(dU,.aN [.int k])]) ic <|
  ab.eO I<|ab.one (ah.expr (ai.a0 (v:=.ref 11) (first:=[.ref 11]) (vs:=[.int k]) I rfl I ((U1 (S:=S.l1) hd rfl aw ak).mono (by omega))))
noncomputable def au.unit (S:au) (v:V):au:={S with dZ:=S.dZ++[v]}
theorem Vd (hd:S.dep=.int d) (ak:S.aP+1<aL) (uI:(mk P S T).all (cE (mk P S T).length)=true):aq 5 (.obj (.ref 622)) [.ref 9,v] (mk P S T) .none (mk P ((S.unit ma).bg 67 (.int S.dZ.length) 1) T):=by
 have Ve:(S.unit ma).aP<aL:=by unfold au.aP au.unit at *;simp;omega
 exact aq.ft (a:=622) (fi:=⟨v5,[bk,cJ],[],Eb.1,none,false⟩) (vs:=[.ref 9,v]) (cN:=[(bk,.ref 9),(cJ,v)]) (by kernel_rfl) rfl (by kernel_rfl) rfl (by kernel_rfl) <|
  ab.one (ah.expr (ai.a0 (v:=.ref 11) (first:=[.ref 11]) I rfl
   (GE.cons (v:=.int 67) I (GE.cons (ai.a0 (v:=.ref 12) (first:=[.ref 12]) I rfl (GE.cons (ai.a0 (v:=.ref 9) (first:=[]) I rfl (vs:=[v]) I ((U8 uI).mono (by omega))) GE.nil) ((UL (by omega)).mono (by omega))) GE.nil))
   (xG (S:=S.unit ma) UX rfl hd Ve)))
noncomputable abbrev jP:V:=fe xI 1 []
theorem Vf (hd:S.dep=.int d) (ak:S.aP+1<aL) (uI:(mk P S.l1 T).all (cE (mk P S.l1 T).length)=true):aq 8 (.obj (.ref 601)) [.ref 9,jP] (mk P S T) .none (mk P ((S.l1.unit ma).bg 67 (.int S.dZ.length) 1) T) :=
 aq.ft (a:=601) (fi:=⟨o1,[bk,cJ],[],te.1,none,false⟩) (vs:=[.ref 9,jP]) (cN:=[(bk,.ref 9),(cJ,jP)]) (by kernel_rfl) rfl (by kernel_rfl) rfl (by kernel_rfl) <|
  ab.cons (bJ:=[(bk,.ref 9),(cJ,jP),(c3,.str xI),(dU,.aN [])]) I <|
  ab.cons (H1:=mk P S.l1 T) (bJ:=[(bk,.ref 9),(cJ,jP),(c3,.str xI),(dU,.aN [])]) ic <|
  ab.bx I<|ab.bx I<|ab.bx I<|ab.bx I<|ab.bx I<|ab.bx I<|ab.bx I<|ab.bx I<|ab.one (ah.expr (ai.a0 (v:=.ref 9) (first:=[.ref 9]) (vs:=[jP]) I rfl I
  (aq.ft (a:=608) (fi:=⟨v3,[bk,cJ],[],Ea.1,none,false⟩) (vs:=[.ref 9,jP]) (cN:=[(bk,.ref 9),(cJ,jP)]) (by kernel_rfl) rfl (by kernel_rfl) rfl (by kernel_rfl) <|
   ab.cons (bJ:=[(bk,.ref 9),(cJ,jP),(c3,.str xI),(dU,.aN [])]) I <|
   ab.bx I<|ab.bx I<|ab.bx I<|ab.bx I<|ab.bx I<|ab.eO I<|ab.one (ah.expr (ai.a0 (v:=.ref 9) (first:=[.ref 9]) (vs:=[jP]) I rfl I ((Vd (S:=S.l1) hd ak uI).mono (by omega)))))))
end
inductive fT where
 |v |w |x
noncomputable def fT.s:fT→Str
 |.v=>Hz
 |.w=>m6
 |.x=>dE
noncomputable def au.fU (S:au) (n:fT):au:=match n with
 |.x=>S.bg 14 (.int 3) 0
 |n=>S.dK 20 (.str n.s) 0
noncomputable def au.pop (S:au):au:=S.bg 6 .none (-1)
noncomputable def au.iM (S:au) (l:Nat):au:=(eL S.dep).elim S fun d=>((S.meet l (d - 1)).emit 59 (.int l)).cI (.int (d - 1))
noncomputable def au.hu (S:au) (l:Nat):au:=(eL S.dep).elim S fun d=>((S.meet l d).emit 77 (.int l)).cI (.int (d+1))
noncomputable def au.jmp (S:au) (l:Nat):au:=(eL S.dep).elim S fun d=>((S.meet l d).emit 58 (.int l)).cI .none
theorem hv {α β:Type}{C:β→Prop}{o:Option α}{y:β}{f:α→β}(bc:C y) (ak:∀ a,C (f a)):C (o.elim y f):=by cases o;exact bc;exact ak _
section
variable {d:Nat}{a b:Nat}{fi:eR}{args:List V}{H H' : List aj}{u v:V}
theorem aq.fC (hf:c2 a dD=some fi) (h:aq d (.obj (.ref a)) (v::args) H u H'):aq d (.fC a v) args H u H':=fun aa o =>
 let ⟨dr,o',K,x⟩:=h aa o;⟨dr,o',K+1,fun N n g7 b=>match N,n,g7,x (N) n (Nat.le_of_succ_le g7) b with
 |N+1,0,g7,x=>ba x
 |N+1,n+1,g7,x=>(bj hf).trans ((Hl hf).symm.trans x)⟩
end
section
variable {P:Pre}{S:au}{T:List aj}{d e k:Int}{l:Nat}{a v:V}
theorem Vg (hd:S.dep=.int d) (h:S.fits l (d - 1)) (ak:S.aP<aL):aq 5 (.obj (.ref 389)) [.ref 11,.int 59,.int l] (mk P S T) .none (mk P (S.iM l) T):=by
 have z:=UC (P:=P) (T:=T) hd h ak
 unfold au.iM;rw[hd];rw[Int.add_zero] at z;exact z
theorem Vh (hd:S.dep=.int d) (h:S.fits l d) (ak:S.aP<aL):aq 5 (.obj (.ref 389)) [.ref 11,.int 77,.int l] (mk P S T) .none (mk P (S.hu l) T):=by
 have z:=UD (P:=P) (T:=T) hd h ak
 unfold au.hu;rw[hd];rw[show d - 1+2=d+1 by omega] at z;exact z
theorem BQ (hd:S.dep=.int d∧S.fits l d∨S.dep=.none) (ak:S.aP<aL):aq 5 (.obj (.ref 389)) [.ref 11,.int 58,.int l] (mk P S T) .none (mk P (S.jmp l) T):=by
 rcases hd with ⟨hd,h⟩ |hd
 ·have z:=UB (P:=P) (T:=T) hd h ak
  unfold au.jmp;rw[hd];exact z
 ·have z:=UA (P:=P) (T:=T) (l:=l) (op:=58) hd
  unfold au.jmp;rw[hd];exact z
theorem xK (hd:S.dep=.int d) (ak:S.aP<aL):aq 4 (.obj (.ref 368)) [.ref 11,.int 6] (mk P S T) .none (mk P S.pop T):=pK Uw rfl hd ak
theorem Vi (hd:S.dep=.int d) (ak:S.aP<aL):aq 5 (.obj (.ref 719)) [.ref 9] (mk P S T) .none (mk P S.pop T) :=
 aq.ft (a:=719) (fi:=⟨v8,[bk],[],Ed.1,none,false⟩) (vs:=[.ref 9]) (cN:=[(bk,.ref 9)]) (by kernel_rfl) rfl (by kernel_rfl) rfl (by kernel_rfl) <|
  ab.eO I<|ab.one (ah.expr (ai.a0 (v:=.ref 11) (first:=[.ref 11]) (vs:=[.int 6]) I rfl I (xK hd ak)))
theorem Vj {s:Str}(f1:ah 5 ⟨qI.scope,[],none,[(bk,.ref 9),(jN,.tup [.str rJ,.str s])]⟩ (bQ vW.1 0) (mk P S T) .next [(bk,.ref 9),(jN,.tup [.str rJ,.str s]),(rN,.str rJ),(jO,.str s)] (mk P S T))
 (c:aq 5 (.obj (.ref 382)) [.ref 11,.int 20,.str s] (mk P S T) .none (mk P (S.dK 20 (.str s) 0) T)):aq 6 (.obj (.ref 454)) [.ref 9,.tup [.str rJ,.str s]] (mk P S T) .none (mk P (S.dK 20 (.str s) 0) T) :=
 aq.ft (a:=454) (fi:=⟨qI,[bk,jN],[],vW.1,none,false⟩) (vs:=[.ref 9,.tup [.str rJ,.str s]]) (by kernel_rfl) rfl (by kernel_rfl) rfl (by kernel_rfl) <|
  ab.cons f1 (ab.one (ah.cm I (ab.one (ah.expr (ai.a0 (v:=.ref 11) I rfl I c)))))
noncomputable abbrev pR:V:=.tup [.str gJ,.int 3]
theorem H5 (hd:S.dep=.int d) (ak:S.aP<aL):aq 6 (.obj (.ref 454)) [.ref 9,pR] (mk P S T) .none (mk P (S.bg 14 (.int 3) 0) T) :=
 aq.ft (a:=454) (fi:=⟨qI,[bk,jN],[],vW.1,none,false⟩) (vs:=[.ref 9,pR]) (cN:=[(bk,.ref 9),(jN,pR)]) (by kernel_rfl) rfl (by kernel_rfl) rfl (by kernel_rfl) <|
  ab.cons (bJ:=[(bk,.ref 9),(jN,pR),(rN,.str gJ),(jO,.int 3)]) I <|
  ab.bx I (ab.one (ah.expr (ai.a0 (v:=.ref 11) (first:=[.ref 11]) (vs:=[.int 14,.int 3]) I rfl I ((xG UR rfl hd ak).mono (by omega)))))
theorem H6 {s:Str}{H7:V}{aT:au}(f1:GT 7 ⟨qJ.scope,[],none,[(bk,.ref 9),(ei,.str s)]⟩ (eH (bQ vX.1 0)) (mk P S T) true (mk P S T))
 (f2:GE 7 ⟨qJ.scope,[],none,[(bk,.ref 9),(ei,.str s)]⟩ (m7 (eH (bQ (sB (bQ vX.1 0)) 0))) (mk P S T) [H7] (mk P S T))
 (c:aq 6 (.obj (.ref 454)) [.ref 9,H7] (mk P S T) .none (mk P aT T)):aq 8 (.obj (.ref 461)) [.ref 9,.str s] (mk P S T) .none (mk P aT T) :=
 aq.ft (a:=461) (fi:=⟨qJ,[bk,ei],[],vX.1,none,false⟩) (vs:=[.ref 9,.str s]) (by kernel_rfl) rfl (by kernel_rfl) rfl (by kernel_rfl) <|
  ab.one (ah.cm f1 (ab.one (ah.expr (ai.a0 (v:=.ref 9) I rfl f2 (c.mono (by omega))))))
theorem Vk (n:fT) (hd:S.dep=.int d) (aw:iK S) (ak:S.aP+1<aL):aq 8 (.obj (.ref 461)) [.ref 9,.str n.s] (mk P S T) .none (mk P (S.fU n) T):=by
 have c:=BM (P:=P) (T:=T) (k:=0) (v:=.str n.s) UT rfl hd rfl aw ak
 have Vl:=H5 (P:=P) (T:=T) hd (by omega:S.aP<aL)
 cases n
 case x=>exact H6 I I Vl
 all_goals exact H6 I I (Vj I c)
end
noncomputable def r0 (S:au):Prop:=dS 0 S.aO=true∧dS 0 S.fu=true∧dS 0 S.con=true∧dS 0 S.dZ=true∧dS 0 S.ag=true∧dS 0 S.bH=true∧dS 0 S.bB=true
structure av (n:Nat) (S aT:au) (k:Nat):Prop where
 con:iK S→iK aT
 len:S.bB.length=S.ag.length→aT.bB.length=aT.ag.length
 aP:aT.aP≤S.aP+k
 kv:r0 S→r0 aT
 old:∀ l,l<n→aT.ag[l]?=S.ag[l]?∧aT.bB[l]?=S.bB[l]?
 eT:S.ag.length≤aT.ag.length
 i6:S.aO.length≤aT.aO.length
theorem ng {b:Nat}:∀{l:List V}{r:List V},dS b l=true→dS b r=true→dS b (l++r)=true
 |[],r,_,h=>h
 |v::l,r,h,g=>by
  obtain ⟨h1,af⟩:=Bool.and_eq_true_iff.mp h
  exact Bool.and_eq_true_iff.mpr ⟨h1,ng af g⟩
theorem BR {b:Nat}{v:V}(aV:cq b v=true):∀{l:List V}{i:Nat},dS b l=true→dS b (l.set i v)=true
 |[],_,h=>h
 |u::l,0,h=>Bool.and_eq_true_iff.mpr ⟨aV,(Bool.and_eq_true_iff.mp h).2⟩
 |u::l,i+1,h=>Bool.and_eq_true_iff.mpr ⟨(Bool.and_eq_true_iff.mp h).1,BR aV (Bool.and_eq_true_iff.mp h).2⟩
section
variable {n m k k' : Nat}{S aT uJ:au}{op e:Int}{a v:V}{l:Nat}
theorem av.refl:av n S S 0:=⟨id,id,Nat.le_refl _,id,fun _ _=>⟨rfl,rfl⟩,Nat.le_refl _,Nat.le_refl _⟩
theorem av.trans (x:av n S aT k) (y:av n aT uJ k'):av n S uJ (k+k') :=
 ⟨fun h=>y.con (x.con h),fun h=>y.len (x.len h),by have:=x.aP;have:=y.aP;omega,fun h=>y.kv (x.kv h),fun l h=>⟨(y.old l h).1.trans (x.old l h).1,(y.old l h).2.trans (x.old l h).2⟩,Nat.le_trans x.eT y.eT,Nat.le_trans x.i6 y.i6⟩
theorem av.less (x:av n S aT k) (h:m≤n):av m S aT k:=⟨x.con,x.len,x.aP,x.kv,fun l q=>x.old l (by omega),x.eT,x.i6⟩
theorem av.more (x:av n S aT k) (h:k≤k'):av n S aT k':=⟨x.con,x.len,Nat.le_trans x.aP (by omega),x.kv,x.old,x.eT,x.i6⟩
theorem av.cI:av n S (S.cI v) 0:=⟨id,id,Nat.le_refl _,id,fun _ _=>⟨rfl,rfl⟩,Nat.le_refl _,Nat.le_refl _⟩
theorem av.l1:av n S S.l1 0:=⟨id,id,Nat.le_refl _,id,fun _ _=>⟨rfl,rfl⟩,Nat.le_refl _,Nat.le_refl _⟩
theorem av.emit (b2:cq 0 a=true):av n S (S.emit op a) 2:=by
 refine ⟨id,id,?_,fun ⟨h1,af,h⟩=>⟨ng h1 (by show ((true&&(cq 0 a&&true))&&true)=true;rw[b2];rfl),ng af rfl,h⟩,fun _ _=>⟨rfl,rfl⟩,Nat.le_refl _,by unfold au.emit;simp⟩
 unfold au.aP au.emit;simp;omega
theorem av.cst (aV:g9 v=true):av n S (S.cst v) 1:=by
 unfold au.cst
 split
 ·exact av.refl.more (by omega)
 ·refine ⟨fun h x m=>?_,id,?_,fun ⟨h1,af,aB,h⟩=>⟨h1,af,ng aB (by cases v <;> first |rfl |cases aV),h⟩,fun _ _=>⟨rfl,rfl⟩,Nat.le_refl _,Nat.le_refl _⟩
  ·rcases List.mem_append.mp m with m |m
   ·exact h x m
   ·rw[List.mem_singleton.mp m];exact aV
  ·unfold au.aP;simp;omega
theorem av.bg (b2:cq 0 a=true):av n S (S.bg op a e) 2:=(av.emit b2).trans av.cI
theorem av.dK (aV:g9 v=true):av n S (S.dK op v e) 3:=((av.cst aV).trans (av.bg rfl)).more (by omega)
theorem av.a6 {q:b9}:av n S (S.a6 q) 3:=by cases q <;> first |exact av.dK rfl |exact (av.bg rfl).more (by omega)
theorem av.fU {q:fT}:av n S (S.fU q) 3:=by cases q <;> first |exact av.dK rfl |exact (av.bg rfl).more (by omega)
theorem av.pop:av n S S.pop 2:=av.bg rfl
theorem av.unit:av n S (S.unit ma) 1:=by
 refine ⟨id,id,?_,fun ⟨h1,af,aB,bu,h⟩=>⟨h1,af,aB,ng bu (by kernel_rfl),h⟩,fun _ _=>⟨rfl,rfl⟩,Nat.le_refl _,Nat.le_refl _⟩
 unfold au.aP au.unit;simp;omega
theorem av.ay (h:n≤S.ag.length) (he:S.bB.length=S.ag.length):av n S S.ay 2:=by
 refine ⟨id,fun h=>by unfold au.ay;simp[h],?_,fun ⟨h1,af,aB,bu,dB,eB,eS⟩=>⟨h1,af,aB,bu,ng dB rfl,eB,ng eS rfl⟩,fun l q=>?_,by unfold au.ay;simp,Nat.le_refl _⟩
 ·unfold au.aP au.ay;simp;omega
 ·unfold au.ay
  exact ⟨List.getElem?_append_left (by omega),List.getElem?_append_left (by omega)⟩
theorem av.meet (h:n≤l):av n S (S.meet l e) 0:=by
 refine ⟨id,fun h=>by unfold au.meet;simp[h],?_,fun ⟨h1,af,aB,bu,dB,eB,eS⟩=>⟨h1,af,aB,bu,dB,eB,BR rfl eS⟩,fun i q=>⟨rfl,?_⟩,Nat.le_refl _,Nat.le_refl _⟩
 ·unfold au.aP au.meet;simp
 ·unfold au.meet;exact List.getElem?_set_ne (by omega)
theorem av.put (h:n≤l):av n S (S.put l) 0:=by
 refine ⟨id,fun h=>by unfold au.put;simp[h],?_,fun ⟨h1,af,aB,bu,dB,eB,eS⟩=>⟨h1,af,aB,bu,BR rfl dB,eB,eS⟩,fun i q=>⟨?_,rfl⟩,by unfold au.put;simp,Nat.le_refl _⟩
 ·unfold au.aP au.put;simp
 ·unfold au.put;exact List.getElem?_set_ne (by omega)
theorem av.iM (h:n≤l):av n S (S.iM l) 2 :=
 hv (C:=fun F=>av n S F 2) (av.refl.more (by omega)) fun d=>((av.meet h).trans ((av.emit rfl).trans av.cI)).more (by omega)
theorem av.hu (h:n≤l):av n S (S.hu l) 2 :=
 hv (C:=fun F=>av n S F 2) (av.refl.more (by omega)) fun d=>((av.meet h).trans ((av.emit rfl).trans av.cI)).more (by omega)
theorem av.jmp (h:n≤l):av n S (S.jmp l) 2 :=
 hv (C:=fun F=>av n S F 2) (av.refl.more (by omega)) fun d=>((av.meet h).trans ((av.emit rfl).trans av.cI)).more (by omega)
end
section
variable {P:Pre}{S:au}{T:List aj}{d e k:Int}{l:Nat}{a v:V}
theorem hR (n:b9):(S.a6 n).dep=b4 S.dep 1:=by
 cases n <;> first |rfl |(show b4 (S.cst _).dep 1=_;rw[pJ])
theorem BS (n:fT):(S.fU n).dep=b4 S.dep 0:=by
 cases n <;> first |rfl |(show b4 (S.cst _).dep 0=_;rw[pJ])
theorem BU {op:Int}:(S.dK op v k).dep=b4 S.dep k:=by
 show b4 (S.cst v).dep k=_;rw[pJ]
theorem Vm (n:b9) (hd:S.dep=.int d) (aw:iK S) (ak:S.aP+10<aL) (h:S.fits l d):aq 10 (.obj (.ref 557)) [.ref 11,cB n,.int l,.bool false,.fC 601 (.ref 9)] (mk P S T) .none (mk P ((S.l1.a6 n).iM l) T):=by
 have s1:av (l+1) S (S.l1.a6 n) 3:=(av.l1.trans av.a6).more (by omega)
 have aK:=rZ (P:=P) (T:=T) n hd aw (by omega)
 have Bu:(S.l1.a6 n).dep=.int (d+1):=by rw[hR];show b4 S.dep 1=_;rw[hd];rfl
 have bw:=Vg (P:=P) (T:=T) (S:=S.l1.a6 n) (l:=l) Bu (by
  have:=(s1.old l (by omega)).2
  rw[show d+1 - 1=d by omega]
  unfold au.fits at h ⊢
  rw[this];exact h) (by have:=s1.aP;omega)
 exact aq.ft (a:=557) (fi:=⟨vZ,[rI,cJ,⟨⟨[108,97,98,101,108]⟩⟩,⟨⟨[119,104,101,110]⟩⟩,⟨⟨[112,117,115,104]⟩⟩],[],D9.1,none,false⟩) (vs:=[.ref 11,cB n,.int l,.bool false,.fC 601 (.ref 9)])
  (cN:=[(rI,.ref 11),(cJ,cB n),(⟨⟨[108,97,98,101,108]⟩⟩,.int l),(⟨⟨[119,104,101,110]⟩⟩,.bool false),(⟨⟨[112,117,115,104]⟩⟩,.fC 601 (.ref 9))]) (by kernel_rfl) rfl (by kernel_rfl) rfl (by kernel_rfl) <|
  ab.bx I<|ab.bx I <|
  ab.cons (ah.expr (ai.bI (g:=.fC 601 (.ref 9)) (vs:=[cB n]) I I (aq.fC (fi:=⟨o1,_,_,te.1,none,false⟩) rfl (aK.mono (by omega))))) <|
  ab.one (ah.expr (ai.a0 (v:=.ref 11) (first:=[.ref 11]) (vs:=[.int 59,.int l]) I rfl I (bw.mono (by omega))))
end
inductive dF where
 |b7 (n:fT) |var |mem (n:b9) |c6 (a b:b9)
noncomputable def c7:dF→V
 |.b7 n=>fe uG 1 [.str n.s]
 |.var=>fe U9 1 [.aN [.tup [.str m6,.none]]]
 |.mem n=>fe Va 1 [cB n,.str iJ]
 |.c6 a b=>fe Vb 1 [cB a,cB b]
noncomputable def au.az (S:au):dF→au
 |.b7 n=>(S.fU n).pop
 |.var=>(S.fU .w).pop
 |.mem n=>(((S.l1.a6 n).bg 9 .none 0).dK 24 (.str iJ) (-1)).pop
 |.c6 a b=>((((((S.l1.a6 a).l1.a6 b).bg 81 .none 0).bg 10 .none 0).bg 10 .none 0).bg 26 .none (-2)).pop
section
variable {n k:Nat}{P:Pre}{S:au}{T:List aj}{d e:Int}{l:Nat}{a v:V}
theorem av.az {t:dF}:av n S (S.az t) 20:=by
 cases t
 ·exact (av.fU.trans av.pop).more (by omega)
 ·exact (av.fU.trans av.pop).more (by omega)
 ·exact ((((av.l1.trans av.a6).trans (av.bg rfl)).trans (av.dK rfl)).trans av.pop).more (by omega)
 ·exact (((((((av.l1.trans av.a6).trans (av.l1.trans av.a6)).trans (av.bg rfl)).trans (av.bg rfl)).trans (av.bg rfl)).trans (av.bg rfl)).trans av.pop).more (by omega)
theorem i7:b4 (.int d) e=.int (d+e):=rfl
theorem Vn (hd:S.dep=.int d) (t:dF):(S.az t).dep=.int (d - 1):=by
 cases t
 ·show b4 (S.fU _).dep (-1)=_
  rw[BS,hd,i7,i7];congr 1;omega
 ·show b4 (S.fU _).dep (-1)=_
  rw[BS,hd,i7,i7];congr 1;omega
 ·show b4 (au.dK _ _ _ _).dep (-1)=_
  rw[BU]
  show b4 (b4 (b4 (S.l1.a6 _).dep 0) (-1)) (-1)=_
  rw[hR]
  show b4 (b4 (b4 (b4 S.dep 1) 0) (-1)) (-1)=_
  rw[hd];simp only[i7];congr 1;omega
 ·show b4 (b4 (b4 (b4 (b4 ((S.l1.a6 _).l1.a6 _).dep 0) 0) 0) (-2)) (-1)=_
  rw[hR]
  show b4 (b4 (b4 (b4 (b4 (b4 (S.l1.a6 _).dep 1) 0) 0) 0) (-2)) (-1)=_
  rw[hR]
  show b4 (b4 (b4 (b4 (b4 (b4 (b4 S.dep 1) 1) 0) 0) 0) (-2)) (-1)=_
  rw[hd];simp only[i7];congr 1;omega
theorem Vo (x y:b9) (hd:S.dep=.int d) (aw:iK S) (ak:S.aP+20<aL):aq 10 (.obj (.ref 650)) [.ref 9,c7 (.c6 x y)] (mk P S T) .none (mk P (((S.l1.a6 x).l1.a6 y).bg 81 .none 0) T):=by
 have s1:av 0 S (S.l1.a6 x) 3:=(av.l1.trans av.a6).more (by omega)
 have s2:av 0 S ((S.l1.a6 x).l1.a6 y) 6:=(s1.trans (av.l1.trans av.a6)).more (by omega)
 have ie:(S.l1.a6 x).dep=.int (d+1):=by rw[hR];show b4 S.dep 1=_;rw[hd];rfl
 have kx:((S.l1.a6 x).l1.a6 y).dep=.int (d+1+1):=by rw[hR];show b4 (S.l1.a6 x).dep 1=_;rw[ie];rfl
 exact aq.ft (a:=650) (fi:=⟨v7,[bk,ht],[],Ec.1,none,false⟩) (vs:=[.ref 9,c7 (.c6 x y)]) (cN:=[(bk,.ref 9),(ht,c7 (.c6 x y))]) (by kernel_rfl) rfl (by kernel_rfl) rfl (by kernel_rfl) <|
  ab.cons (ah.expr (ai.a0 (v:=.ref 9) (first:=[.ref 9]) (vs:=[cB x]) I rfl I ((rZ x hd aw (by omega)).mono (by omega)))) <|
  ab.cons (ah.expr (ai.a0 (v:=.ref 9) (first:=[.ref 9]) (vs:=[cB y]) I rfl I ((rZ y ie (s1.con aw) (by have:=s1.aP;omega)).mono (by omega)))) <|
  ab.one (ah.expr (ai.a0 (v:=.ref 11) (first:=[.ref 11]) (vs:=[.int 81]) I rfl I ((pK UZ rfl kx (by have:=s2.aP;omega)).mono (by omega))))
theorem Vp (t:dF) (hd:S.dep=.int d) (aw:iK S) (ak:S.aP+40<aL):aq 12 (.obj (.ref 789)) [.ref 9,c7 t] (mk P S T) .none (mk P (S.az t) T):=by
 have fin:∀{aT:au}{ls},(∃ q,aT.dep=.int q)→aT.aP<aL→ab 11 ⟨nJ.scope,[],none,[(bk,.ref 9),(ht,ls)]⟩ [bQ qK.1 1] (mk P aT T) .next [(bk,.ref 9),(ht,ls)] (mk P aT.pop T):=fun dk h=>by
  obtain ⟨q,dk⟩:=dk
  exact ab.one (ah.expr (ai.a0 (v:=.ref 11) (first:=[.ref 11]) (vs:=[.int 6]) I rfl I ((xK dk h).mono (by omega))))
 have sn:∀(n:fT),aq 8 (.obj (.ref 461)) [.ref 9,.str n.s] (mk P S T) .none (mk P (S.fU n) T):=fun n=>Vk n hd aw (by omega)
 have xM:∀ n,(∃ q,(S.fU n).dep=.int q)∧(S.fU n).aP<aL:=fun n=>⟨⟨_,by rw[BS,hd];rfl⟩,by have:=(av.fU (n:=0) (S:=S) (q:=n)).aP;omega⟩
 cases t with
 |b7 n=>exact aq.ft (a:=789) (fi:=⟨nJ,[bk,ht],[],qK.1,none,false⟩) (vs:=[.ref 9,c7 (.b7 n)]) (cN:=[(bk,.ref 9),(ht,c7 (.b7 n))]) (by kernel_rfl) rfl (by kernel_rfl) rfl (by kernel_rfl) <|
  ab.cons (ah.iff I (ab.eO I (ab.one (ah.expr (ai.a0 (v:=.ref 9) (first:=[.ref 9]) (vs:=[.str n.s]) I rfl I ((sn n).mono (by omega))))))) (fin (xM n).1 (xM n).2)
 |var=>exact aq.ft (a:=789) (fi:=⟨nJ,[bk,ht],[],qK.1,none,false⟩) (vs:=[.ref 9,c7 .var]) (cN:=[(bk,.ref 9),(ht,c7 .var)]) (by kernel_rfl) rfl (by kernel_rfl) rfl (by kernel_rfl) <|
  ab.cons (ah.cm I (ab.one (ah.expr (ai.a0 (v:=.ref 9) (first:=[.ref 9]) (vs:=[.str m6]) I rfl I ((sn .w).mono (by omega)))))) (fin (xM .w).1 (xM .w).2)
 |mem n =>
  have s1:av 0 S (S.l1.a6 n) 3:=(av.l1.trans av.a6).more (by omega)
  have ie:(S.l1.a6 n).dep=.int (d+1):=by rw[hR];show b4 S.dep 1=_;rw[hd];rfl
  have kx:((S.l1.a6 n).bg 9 .none 0).dep=.int (d+1+0):=by show b4 (S.l1.a6 n).dep 0=_;rw[ie];rfl
  have s2:av 0 S ((S.l1.a6 n).bg 9 .none 0) 5:=s1.trans (av.bg rfl)
  have s3:av 0 S (((S.l1.a6 n).bg 9 .none 0).dK 24 (.str iJ) (-1)) 8:=s2.trans (av.dK rfl)
  exact aq.ft (a:=789) (fi:=⟨nJ,[bk,ht],[],qK.1,none,false⟩) (vs:=[.ref 9,c7 (.mem n)]) (cN:=[(bk,.ref 9),(ht,c7 (.mem n))]) (by kernel_rfl) rfl (by kernel_rfl) rfl (by kernel_rfl) <|
   ab.cons (ah.iff I<|ab.bx I<|ab.eO I <|
    ab.cons (ah.expr (ai.a0 (v:=.ref 9) (first:=[.ref 9]) (vs:=[cB n]) I rfl I ((rZ n hd aw (by omega)).mono (by omega)))) <|
    ab.cons (ah.expr (ai.a0 (v:=.ref 11) (first:=[.ref 11]) (vs:=[.int 9]) I rfl I ((pK UO rfl ie (by have:=s1.aP;omega)).mono (by omega)))) <|
    ab.one (ah.expr (ai.a0 (v:=.ref 11) (first:=[.ref 11]) (vs:=[.int 24,.str iJ]) I rfl I ((BM (k:=-1) UU rfl kx rfl (s2.con aw) (by have:=s2.aP;omega)).mono (by omega)))))
    (fin ⟨_,by rw[BU,kx];rfl⟩ (by have:=s3.aP;omega))
 |c6 x y =>
  have iI:=Vo (P:=P) (T:=T) x y hd aw (by omega)
  have s1:av 0 S (((S.l1.a6 x).l1.a6 y).bg 81 .none 0) 8:=((av.l1.trans av.a6).trans (av.l1.trans av.a6)).trans (av.bg rfl)
  have ie:(((S.l1.a6 x).l1.a6 y).bg 81 .none 0).dep=.int (d+1+1+0):=by
   show b4 ((S.l1.a6 x).l1.a6 y).dep 0=_
   rw[hR];show b4 (b4 (S.l1.a6 x).dep 1) 0=_
   rw[hR];show b4 (b4 (b4 S.dep 1) 1) 0=_
   rw[hd];rfl
  have kx:((((S.l1.a6 x).l1.a6 y).bg 81 .none 0).bg 10 .none 0).dep=.int (d+1+1+0+0):=by show b4 (au.bg _ _ _ _).dep 0=_;rw[ie];rfl
  have xN:(((((S.l1.a6 x).l1.a6 y).bg 81 .none 0).bg 10 .none 0).bg 10 .none 0).dep=.int (d+1+1+0+0+0):=by show b4 (au.bg _ _ _ _).dep 0=_;rw[kx];rfl
  have s2:av 0 S ((((S.l1.a6 x).l1.a6 y).bg 81 .none 0).bg 10 .none 0) 10:=s1.trans (av.bg rfl)
  have s3:av 0 S (((((S.l1.a6 x).l1.a6 y).bg 81 .none 0).bg 10 .none 0).bg 10 .none 0) 12:=s2.trans (av.bg rfl)
  have s4:av 0 S ((((((S.l1.a6 x).l1.a6 y).bg 81 .none 0).bg 10 .none 0).bg 10 .none 0).bg 26 .none (-2)) 14:=s3.trans (av.bg rfl)
  exact aq.ft (a:=789) (fi:=⟨nJ,[bk,ht],[],qK.1,none,false⟩) (vs:=[.ref 9,c7 (.c6 x y)]) (cN:=[(bk,.ref 9),(ht,c7 (.c6 x y))]) (by kernel_rfl) rfl (by kernel_rfl) rfl (by kernel_rfl) <|
   ab.cons (ah.iff I<|ab.bx I<|ab.bx I <|
    ab.cons (ah.expr (ai.a0 (v:=.ref 9) (first:=[.ref 9]) (vs:=[c7 (.c6 x y)]) I rfl I (iI.mono (by omega)))) <|
    ab.cons (ah.expr (ai.a0 (v:=.ref 11) (first:=[.ref 11]) (vs:=[.int 10]) I rfl I ((pK HW rfl ie (by have:=s1.aP;omega)).mono (by omega)))) <|
    ab.cons (ah.expr (ai.a0 (v:=.ref 11) (first:=[.ref 11]) (vs:=[.int 10]) I rfl I ((pK HW rfl kx (by have:=s2.aP;omega)).mono (by omega)))) <|
    ab.one (ah.expr (ai.a0 (v:=.ref 11) (first:=[.ref 11]) (vs:=[.int 26]) I rfl I ((pK (k:=-2) UW rfl xN (by have:=s3.aP;omega)).mono (by omega)))))
    (fin ⟨_,by show b4 (au.bg _ _ _ _).dep (-2)=_;rw[xN];rfl⟩ (by have:=s4.aP;omega))
end
inductive bF where
 |b7 (n:b9) |el |ff (k:Int) |du (n:b9) (b:bF) |fin (t:dF) (n:b9) (b:bF) |dg (b c:bF) |two (a b:bF)
noncomputable def au.cZ (S:au) (l:Nat):au:=(eL S.dep).elim ((S.put l).cI ((S.bB[l]?).getD .none)) fun d=>(S.meet l d).put l
noncomputable def au.mark (S:au):au:=S.ay.cZ S.ag.length
noncomputable def au.fG (S:au) (x y z:Nat) (d:Int):au:={S with bH:=S.bH++[.tup [.int x,.int y,.int z,.int d,.bool false]]}
noncomputable def au.enter (S:au) (l:Nat) (d:Int):au:=((S.meet l d).put l).cI (.int d)
noncomputable def au.mb (S:au):Bool:=(eL S.dep).isSome
noncomputable def au.gw (S:au):Int:=match S.dep with
 |.int d=>d
 |_=>0
noncomputable def fv (S:au) (n:b9):au:=(((S.l1.ay.ay).l1.cZ (S.ag.length+1)).l1.a6 n).iM S.ag.length
noncomputable def mc (S aT:au):au:=(aT.jmp (S.ag.length+1)).cZ S.ag.length
noncomputable def fg (S:au) (t:dF) (n:b9):au:=((((((S.l1.ay.ay).l1.l1.a6 n).bg 76 .none 0).cZ (S.ag.length+1)).hu S.ag.length).az t)
noncomputable def r1 (S aT:au):au:=((aT.jmp (S.ag.length+1)).cZ S.ag.length).pop
noncomputable def cF (S:au):au:=S.l1.ay.ay.mark
noncomputable def gx (S aT:au):au :=
 let cv:=aT.mark.jmp S.ag.length
 let Vq:=(cv.ay.fG (S.ag.length+2) aT.ag.length cv.ag.length S.gw).enter cv.ag.length (S.gw+1)
 ((Vq.bg 17 (.int 3) 0).bg 14 (.int 3) 0).pop
noncomputable def oy (S aT:au):au:=(aT.jmp S.ag.length).cZ S.ag.length
noncomputable def comp:bF→au→au
 |.b7 n,S=>(S.l1.l1.a6 n).pop
 |.el,S=>((S.l1.l1.unit ma).bg 67 (.int S.dZ.length) 1).pop
 |.ff k,S=>((S.l1.l1.dK 4 (.int k) 1).emit 66 .none).cI .none
 |.du n b,S=>mc S (comp b (fv S n))
 |.fin t n b,S=>r1 S (comp b (fg S t n))
 |.dg b c,S=>oy S (comp c (gx S (comp b (cF S))))
 |.two a b,S=>match (comp a S).mb with
  |true=>comp b (comp a S)
  |false=>comp a S
noncomputable def cQ:bF→Nat
 |.b7 _=>10
 |.el=>10
 |.ff _=>10
 |.du _ b=>cQ b+40
 |.fin _ _ b=>cQ b+80
 |.dg b c=>cQ b+cQ c+60
 |.two a b=>cQ a+cQ b
section
variable {n k:Nat}{S aT:au}{d e:Int}{l:Nat}{a v:V}
theorem fH (hd:S.dep=.int d):S.cZ l=(S.meet l d).put l:=by unfold au.cZ;rw[hd];rfl
theorem k8 (hd:S.dep=.none) (h:S.bB[l]?=some v):S.cZ l=(S.put l).cI v:=by unfold au.cZ;rw[hd,h];rfl
theorem av.cZ (h:n≤l):av n S (S.cZ l) 0 :=
 hv (C:=fun F=>av n S F 0) ((av.put h).trans av.cI) fun d=>(av.meet h).trans (av.put h)
theorem av.mark (h:n≤S.ag.length) (he:S.bB.length=S.ag.length):av n S S.mark 2:=(av.ay h he).trans (av.cZ h)
theorem av.fG {x y z:Nat}:av n S (S.fG x y z d) 1:=by
 refine ⟨id,id,?_,fun ⟨h1,af,aB,bu,dB,eB,eS⟩=>⟨h1,af,aB,bu,dB,ng eB rfl,eS⟩,fun _ _=>⟨rfl,rfl⟩,Nat.le_refl _,Nat.le_refl _⟩
 unfold au.aP au.fG;simp;omega
theorem av.enter (h:n≤l):av n S (S.enter l d) 0:=((av.meet h).trans (av.put h)).trans av.cI
theorem ky (S:au):S.ay.ag.length=S.ag.length+1:=by unfold au.ay;simp
theorem H8:(S.iM l).ag=S.ag:=hv (C:=fun F:au=>F.ag=S.ag) rfl fun _=>rfl
theorem H9:(S.hu l).ag=S.ag:=hv (C:=fun F:au=>F.ag=S.ag) rfl fun _=>rfl
theorem oz:(S.jmp l).ag=S.ag:=hv (C:=fun F:au=>F.ag=S.ag) rfl fun _=>rfl
theorem xO:(S.cst v).ag=S.ag∧(S.cst v).bB=S.bB:=by unfold au.cst;split <;> exact ⟨rfl,rfl⟩
theorem jQ (q:b9):(S.a6 q).ag=S.ag∧(S.a6 q).bB=S.bB:=by
 cases q <;> first |exact ⟨rfl,rfl⟩ |exact xO
theorem Ia (q:fT):(S.fU q).ag=S.ag∧(S.fU q).bB=S.bB:=by
 cases q <;> first |exact ⟨rfl,rfl⟩ |exact xO
theorem xP (t:dF):(S.az t).ag=S.ag∧(S.az t).bB=S.bB:=by
 cases t
 ·exact Ia _
 ·exact Ia _
 ·exact ⟨(xO (S:=(S.l1.a6 _).bg 9 .none 0)).1.trans (jQ _).1,(xO (S:=(S.l1.a6 _).bg 9 .none 0)).2.trans (jQ _).2⟩
 ·exact ⟨(jQ _).1.trans (jQ (S:=S.l1) _).1,(jQ _).2.trans (jQ (S:=S.l1) _).2⟩
theorem oA (S:au) (he:S.bB.length=S.ag.length):S.ay.ay.ag[S.ag.length]?=some (.int (-1))∧S.ay.ay.ag[S.ag.length+1]?=some (.int (-1))∧S.ay.ay.bB[S.ag.length]?=some .none∧S.ay.ay.bB[S.ag.length+1]?=some .none∧S.ay.ay.ag.length=S.ag.length+2∧S.ay.ay.bB.length=S.ag.length+2:=by
 unfold au.ay
 dsimp only
 refine ⟨?_,?_,?_,?_,?_,?_⟩
 ·simp
 ·rw[show S.ag.length+1=(S.ag++[V.int (-1)]).length by simp];simp
 ·rw[←he];simp
 ·rw[show S.ag.length+1=(S.bB++[V.none]).length by simp[he]];simp
 ·simp
 ·simp[he]
structure xQ (S hb:au) (d:Int):Prop where
 dep:hb.dep=.int d
 iH:hb.ag[S.ag.length]?=some (.int (-1))
 hO:hb.bB[S.ag.length]?=some (.int d)
 a2:hb.bB[S.ag.length+1]?=some (.int d)
 len:hb.ag.length=S.ag.length+2
theorem r2 {i:Nat}(h:i≠l):(S.meet l d).bB[i]?=S.bB[i]?:=List.getElem?_set_ne (fun q=>h q.symm)
theorem oB (h:l<S.bB.length):(S.meet l d).bB[l]?=some (.int d):=List.getElem?_set_self h
theorem xR {i:Nat}(h:i≠l):(S.put l).ag[i]?=S.ag[i]?:=List.getElem?_set_ne (fun q=>h q.symm)
theorem uK (hd:S.dep=.int d):S.iM l=((S.meet l (d - 1)).emit 59 (.int l)).cI (.int (d - 1)):=by unfold au.iM;rw[hd];rfl
theorem r3 (hd:S.dep=.int d):S.hu l=((S.meet l d).emit 77 (.int l)).cI (.int (d+1)):=by unfold au.hu;rw[hd];rfl
theorem pS (hd:S.dep=.int d):S.jmp l=((S.meet l d).emit 58 (.int l)).cI .none:=by unfold au.jmp;rw[hd];rfl
theorem r4 (hd:S.dep=.none):S.jmp l=S:=by unfold au.jmp;rw[hd];rfl
theorem xS (nm:b9) (hd:S.dep=.int d) (he:S.bB.length=S.ag.length):xQ S (fv S nm) d∧av S.ag.length S (fv S nm) 9:=by
 obtain ⟨aG,a4,c4,dN,ey,hE⟩:=oA S.l1 he
 have ao:(S.l1.ay.ay).l1.dep=.int d:=hd
 have aC:((((S.l1.ay.ay).l1.cZ (S.ag.length+1)).l1.a6 nm)).dep=.int (d+1):=by
  rw[hR,fH ao];show b4 ((S.l1.ay.ay).l1).dep 1=_;rw[ao];rfl
 have s0:av S.ag.length S (S.l1.ay.ay).l1 4:=((av.l1.trans (av.ay (Nat.le_refl _) he)).trans ((av.ay (S:=S.l1.ay) (by rw[ky];exact Nat.le_succ _) (by unfold au.ay;simp;exact he)).trans av.l1)).more (by omega)
 refine ⟨⟨?_,?_,?_,?_,?_⟩,?_⟩
 ·unfold fv;rw[uK aC];show V.int (d+1 - 1)=_;congr 1;omega
 ·unfold fv;rw[H8,(jQ nm).1,fH ao]
  exact (xR (by omega)).trans aG
 ·unfold fv;rw[uK aC]
  refine (oB ?_).trans (by congr 2;omega)
  rw[(jQ nm).2,fH ao]
  show S.ag.length<((S.l1.ay.ay).bB.set _ _).length
  rw[List.length_set,hE];show S.ag.length<S.ag.length+2;omega
 ·unfold fv;rw[uK aC]
  refine (r2 (by omega)).trans ?_
  rw[(jQ nm).2,fH ao]
  exact oB (by show _<(S.l1.ay.ay).bB.length;rw[hE];show S.ag.length+1<S.ag.length+2;omega)
 ·unfold fv;rw[H8,(jQ nm).1,fH ao]
  show ((S.l1.ay.ay).ag.set _ _).length=_
  rw[List.length_set,ey];rfl
 ·exact ((((s0.trans (av.cZ (by omega))).trans av.l1).trans av.a6).trans (av.iM (Nat.le_refl _))).more (by omega)
theorem xQ.keep {hb pT:au}(x:xQ S hb d) (s:av hb.ag.length hb pT k):pT.ag[S.ag.length]?=some (.int (-1))∧pT.bB[S.ag.length]?=some (.int d)∧pT.bB[S.ag.length+1]?=some (.int d) :=
 have l:=x.len
 ⟨(s.old _ (by omega)).1.trans x.iH,(s.old _ (by omega)).2.trans x.hO,(s.old _ (by omega)).2.trans x.a2⟩
theorem kz (h:S.dep=.int d∨S.dep=.none):(S.jmp l).dep=.none:=by
 rcases h with h |h
 ·rw[pS h];rfl
 ·rw[r4 h];exact h
theorem r5 {i:Nat}(h:i≠l):(S.jmp l).bB[i]?=S.bB[i]? :=
 hv (C:=fun F:au=>F.bB[i]?=S.bB[i]?) rfl fun _=>r2 h
end
section
variable {n k:Nat}{S aT:au}{d e:Int}{l:Nat}{a v:V}
theorem xT (t:dF) (nm:b9) (hd:S.dep=.int d) (he:S.bB.length=S.ag.length):xQ S (fg S t nm) (d+1)∧av S.ag.length S (fg S t nm) 31:=by
 obtain ⟨aG,a4,c4,dN,ey,hE⟩:=oA S.l1 he
 have ao:(((S.l1.ay.ay).l1.l1.a6 nm).bg 76 .none 0).dep=.int (d+1+0):=by
  show b4 ((S.l1.ay.ay).l1.l1.a6 nm).dep 0=_
  rw[hR];show b4 (b4 S.dep 1) 0=_;rw[hd];rfl
 rw[Int.add_zero] at ao
 have gb:(((S.l1.ay.ay).l1.l1.a6 nm).bg 76 .none 0).ag=(S.l1.ay.ay).ag∧(((S.l1.ay.ay).l1.l1.a6 nm).bg 76 .none 0).bB=(S.l1.ay.ay).bB:=jQ (S:=(S.l1.ay.ay).l1.l1) nm
 have aC:((((S.l1.ay.ay).l1.l1.a6 nm).bg 76 .none 0).cZ (S.ag.length+1)).dep=.int (d+1):=by rw[fH ao];exact ao
 have cL:(((((S.l1.ay.ay).l1.l1.a6 nm).bg 76 .none 0).cZ (S.ag.length+1)).hu S.ag.length).dep=.int (d+1+1):=by rw[r3 aC];rfl
 have s0:av S.ag.length S (S.l1.ay.ay).l1 4:=((av.l1.trans (av.ay (Nat.le_refl _) he)).trans ((av.ay (S:=S.l1.ay) (by rw[ky];exact Nat.le_succ _) (by unfold au.ay;simp;exact he)).trans av.l1)).more (by omega)
 refine ⟨⟨?_,?_,?_,?_,?_⟩,?_⟩
 ·unfold fg;rw[Vn cL];congr 1;omega
 ·unfold fg;rw[(xP t).1,H9,fH ao]
  refine (xR (by omega)).trans ?_
  show (((S.l1.ay.ay).l1.l1.a6 nm).bg 76 .none 0).ag[_]?=_
  rw[gb.1];exact aG
 ·unfold fg;rw[(xP t).2,r3 aC]
  refine oB ?_
  rw[fH ao]
  show S.ag.length<(List.set _ _ _).length
  rw[List.length_set,gb.2,hE];show S.ag.length<S.ag.length+2;omega
 ·unfold fg;rw[(xP t).2,r3 aC]
  refine (r2 (by omega)).trans ?_
  rw[fH ao]
  exact oB (by rw[gb.2,hE];show S.ag.length+1<S.ag.length+2;omega)
 ·unfold fg;rw[(xP t).1,H9,fH ao]
  show (List.set _ _ _).length=_
  rw[List.length_set]
  show (((S.l1.ay.ay).l1.l1.a6 nm).bg 76 .none 0).ag.length=_
  rw[gb.1,ey];rfl
 ·exact ((((((s0.trans av.l1).trans av.a6).trans (av.bg rfl)).trans (av.cZ (by omega))).trans (av.hu (Nat.le_refl _))).trans av.az).more (by omega)
structure Ib (S hb:au) (d:Int):Prop where
 dep:hb.dep=.int d
 ao:hb.ag[S.ag.length]?=some (.int (-1))
 aC:hb.fits S.ag.length d
 len:S.ag.length<hb.ag.length
theorem xU (hd:S.dep=.int d) (he:S.bB.length=S.ag.length):Ib S (cF S) d∧av S.ag.length S (cF S) 6∧(cF S).bB[S.ag.length]?=some .none∧(cF S).ag.length=S.ag.length+3:=by
 obtain ⟨aG,a4,c4,dN,ey,hE⟩:=oA S.l1 he
 have ao:(S.l1.ay.ay).ay.dep=.int d:=hd
 have oC:(S.l1.ay.ay).ag.length=S.ag.length+2:=ey
 have md:(S.l1.ay.ay).bB.length=S.ag.length+2:=hE
 have aS:(cF S).bB[S.ag.length]?=some .none:=by
  unfold cF au.mark
  rw[fH ao]
  refine (r2 (by rw[ey];show S.ag.length≠S.ag.length+2;omega)).trans ?_
  show ((S.l1.ay.ay).bB++[V.none])[S.ag.length]?=_
  rw[List.getElem?_append_left (by omega)];exact c4
 refine ⟨⟨?_,?_,.inl aS,?_⟩,?_,aS,?_⟩
 ·unfold cF au.mark;rw[fH ao];exact hd
 ·unfold cF au.mark
  rw[fH ao]
  refine (xR (by rw[ey];show S.ag.length≠S.ag.length+2;omega)).trans ?_
  show ((S.l1.ay.ay).ag++[V.int (-1)])[S.ag.length]?=_
  rw[List.getElem?_append_left (by omega)];exact aG
 ·unfold cF au.mark;rw[fH ao]
  show _<(List.set _ _ _).length
  rw[List.length_set];show _<((S.l1.ay.ay).ag++[V.int (-1)]).length;simp[oC];omega
 ·exact ((av.l1.trans (av.ay (Nat.le_refl _) he)).trans ((av.ay (S:=S.l1.ay) (by rw[ky];exact Nat.le_succ _) (by unfold au.ay;simp;exact he)).trans (av.mark (by omega) (by omega)))).more (by omega)
 ·unfold cF au.mark;rw[fH ao]
  show (List.set _ _ _).length=_
  rw[List.length_set];show ((S.l1.ay.ay).ag++[V.int (-1)]).length=_;simp[oC]
theorem BV (h:S.dep=.int d∨S.dep=.none) (he:S.bB.length=S.ag.length):S.mark.dep=S.dep:=by
 unfold au.mark
 rcases h with h |h
 ·rw[fH (S:=S.ay) h];rfl
 ·rw[k8 (S:=S.ay) h (uF S he),h];rfl
theorem BW {i:Nat}(aM:i<S.ag.length) (he:S.bB.length=S.ag.length):S.mark.ag[i]?=S.ag[i]?∧S.mark.bB[i]?=S.bB[i]?:=(av.mark (n:=S.ag.length) (Nat.le_refl _) he).old i aM
theorem xV (hd:S.dep=.int d) (oh:aT.bB.length=aT.ag.length) (h' : aT.dep=.int d∨aT.dep=.none) (hl:S.ag.length<aT.ag.length) (h1:aT.ag[S.ag.length]?=some (.int (-1))) (af:aT.bB[S.ag.length]?=some .none) :
 Ib S (gx S aT) d∧av S.ag.length aT (gx S aT) 13:=by
 have gw:S.gw=d:=by unfold au.gw;rw[hd]
 obtain ⟨BX,lW⟩:=BW hl oh
 have k9:=BV h' oh
 have kp:=av.mark (n:=S.ag.length) (Nat.le_of_lt hl) oh
 have Vr:aT.mark.bB.length=aT.mark.ag.length:=kp.len oh
 have r6:av S.ag.length aT (aT.mark.jmp S.ag.length) 4:=kp.trans (av.jmp (Nat.le_refl _))
 have Vs:(aT.mark.jmp S.ag.length).bB.length=(aT.mark.jmp S.ag.length).ag.length:=r6.len oh
 have lt:S.ag.length<(aT.mark.jmp S.ag.length).ag.length:=Nat.lt_of_lt_of_le hl r6.eT
 have f1:(aT.mark.jmp S.ag.length).ag[S.ag.length]?=some (.int (-1)):=by rw[oz,BX];exact h1
 have f2:(aT.mark.jmp S.ag.length).fits S.ag.length d:=by
  rcases h' with h' |h'
  ·rw[pS (k9.trans h')]
   exact .inr (oB (by rw[Vr];exact Nat.lt_of_lt_of_le hl kp.eT))
  ·rw[r4 (k9.trans h')]
   exact .inl (lW.trans af)
 generalize cL:aT.mark.jmp S.ag.length=cv at *
 have s5:av cv.ag.length cv ((cv.ay.fG (S.ag.length+2) aT.ag.length cv.ag.length S.gw).enter cv.ag.length (S.gw+1)) 3:=(((av.ay (Nat.le_refl _) Vs).trans av.fG).trans (av.enter (Nat.le_refl _))).more (by omega)
 have lF:av cv.ag.length cv (gx S aT) 9:=by
  unfold gx
  rw[cL]
  exact (((s5.trans (av.bg rfl)).trans (av.bg rfl)).trans av.pop).more (by omega)
 have o:=lF.old _ lt
 refine ⟨⟨?_,o.1.trans f1,?_,Nat.lt_of_lt_of_le lt lF.eT⟩,(r6.trans (lF.less (by omega))).more (by omega)⟩
 ·unfold gx
  show b4 (b4 (b4 (V.int (S.gw+1)) 0) 0) (-1)=_
  rw[gw];simp only[i7];congr 1;omega
 ·unfold au.fits at f2 ⊢
  rw[o.2];exact f2
theorem kA {op:Int}:(S.emit op a).aO.length=S.aO.length+1:=by unfold au.emit;simp
theorem Ic {op:Int}(s:av n S aT k):S.aO.length<(aT.bg op a e).aO.length:=by
 show _<(aT.emit op a).aO.length
 rw[kA];exact Nat.lt_succ_of_le s.i6
theorem Ie (hd:S.dep=.int d∨S.dep=.none) (hf:S.fits l d) (hl:l<S.bB.length):(S.jmp l).bB[l]?=some (.int d)∨(S.jmp l).bB[l]?=some .none:=by
 rcases hd with h |h
 ·rw[pS h];exact .inl (oB hl)
 ·rw[r4 h];rcases hf with f |f
  ·exact .inr f
  ·exact .inl f
theorem BY (h:S.dep=.int d):S.mb=true:=by unfold au.mb;rw[h];rfl
theorem BZ (h:S.dep=.none):S.mb=false:=by unfold au.mb;rw[h];rfl
structure Ig (t:bF) (S:au) (d:Int):Prop where
 st:av S.ag.length S (comp t S) (cQ t)
 dep:(comp t S).dep=.int d∨(comp t S).dep=.none
 lt:S.aO.length<(comp t S).aO.length
theorem gL:∀(t:bF) (S:au) (d:Int),S.dep=.int d→S.bB.length=S.ag.length→Ig t S d
 |.b7 q,S,d,hd,he=>by
  have s1:av S.ag.length S (S.l1.l1.a6 q) 3:=(av.l1.trans (av.l1.trans av.a6)).more (by omega)
  refine ⟨(s1.trans av.pop).more (by show _≤10;omega),.inl ?_,Ic s1⟩
  show b4 (S.l1.l1.a6 q).dep (-1)=_
  rw[hR];show b4 (b4 S.dep 1) (-1)=_;rw[hd];simp only[i7];congr 1;omega
 |.el,S,d,hd,he=>by
  have s1:av S.ag.length S ((S.l1.l1.unit ma).bg 67 (.int S.dZ.length) 1) 3:=(((av.l1.trans av.l1).trans av.unit).trans (av.bg rfl)).more (by omega)
  refine ⟨(s1.trans av.pop).more (by show _≤10;omega),.inl ?_,Ic s1⟩
  show b4 (b4 S.dep 1) (-1)=_;rw[hd];simp only[i7];congr 1;omega
 |.ff k,S,d,hd,he=>by
  have s1:av S.ag.length S (S.l1.l1.dK 4 (.int k) 1) 3:=((av.l1.trans av.l1).trans (av.dK rfl)).more (by omega)
  refine ⟨((s1.trans (av.emit rfl)).trans av.cI).more (by show _≤10;omega),.inr rfl,?_⟩
  show _<((S.l1.l1.dK 4 (.int k) 1).emit 66 .none).aO.length
  rw[kA];exact Nat.lt_succ_of_le s1.i6
 |.du q b,S,d,hd,he=>by
  obtain ⟨w,s0⟩:=xS q hd he
  have i:=gL b (fv S q) d w.dep (s0.len he)
  obtain ⟨dJ,eu,kO⟩:=w.keep i.st
  have s1:av S.ag.length S (comp b (fv S q)) (9+cQ b):=s0.trans (i.st.less (by rw[w.len];omega))
  refine ⟨((s1.trans (av.jmp (Nat.le_succ _))).trans (av.cZ (Nat.le_refl _))).more (by show _≤cQ b+40;omega),.inl ?_,?_⟩
  ·show (mc S (comp b (fv S q))).dep=_
   unfold mc
   rw[k8 (kz i.dep) ((r5 (by omega)).trans eu)];rfl
  ·exact Nat.lt_of_lt_of_le (Nat.lt_of_le_of_lt s0.i6 i.lt) ((av.jmp (n:=0) (Nat.zero_le _)).trans (av.cZ (n:=0) (Nat.zero_le _))).i6
 |.fin t q b,S,d,hd,he=>by
  obtain ⟨w,s0⟩:=xT t q hd he
  have i:=gL b (fg S t q) (d+1) w.dep (s0.len he)
  obtain ⟨dJ,eu,kO⟩:=w.keep i.st
  have s1:av S.ag.length S (comp b (fg S t q)) (31+cQ b):=s0.trans (i.st.less (by rw[w.len];omega))
  refine ⟨(((s1.trans (av.jmp (Nat.le_succ _))).trans (av.cZ (Nat.le_refl _))).trans av.pop).more (by show _≤cQ b+80;omega),.inl ?_,?_⟩
  ·show (r1 S (comp b (fg S t q))).dep=_
   unfold r1
   rw[k8 (kz i.dep) ((r5 (by omega)).trans eu)]
   show b4 (V.int (d+1)) (-1)=_
   simp only[i7];congr 1;omega
  ·exact Nat.lt_of_lt_of_le (Nat.lt_of_le_of_lt s0.i6 i.lt) (((av.jmp (n:=0) (Nat.zero_le _)).trans (av.cZ (n:=0) (Nat.zero_le _))).trans av.pop).i6
 |.dg b c,S,d,hd,he=>by
  obtain ⟨w,s0,aS,bf⟩:=xU hd he
  have i:=gL b (cF S) d w.dep (s0.len he)
  have s1:av S.ag.length S (comp b (cF S)) (6+cQ b):=s0.trans (i.st.less (by rw[bf];omega))
  have o:=i.st.old S.ag.length (by rw[bf];omega)
  have l1:S.ag.length<(comp b (cF S)).ag.length:=Nat.lt_of_lt_of_le w.len i.st.eT
  obtain ⟨w',s2⟩:=xV hd (s1.len he) i.dep l1 (o.1.trans w.ao) (o.2.trans aS)
  have s3:=s1.trans s2
  have j:=gL c (gx S (comp b (cF S))) d w'.dep (s3.len he)
  have s4:=s3.trans (j.st.less (Nat.le_of_lt w'.len))
  have o':=j.st.old S.ag.length w'.len
  have f:(comp c (gx S (comp b (cF S)))).fits S.ag.length d:=by
   have:=w'.aC
   unfold au.fits at this ⊢
   rw[o'.2];exact this
  have l2:S.ag.length<(comp c (gx S (comp b (cF S)))).bB.length:=by
   rw[s4.len he];exact Nat.lt_of_lt_of_le w'.len j.st.eT
  refine ⟨((s4.trans (av.jmp (Nat.le_refl _))).trans (av.cZ (Nat.le_refl _))).more (by show _≤cQ b+cQ c+60;omega),?_,?_⟩
  ·show (oy S (comp c (gx S (comp b (cF S))))).dep=_∨(oy S (comp c (gx S (comp b (cF S))))).dep=_
   unfold oy
   rcases Ie j.dep f l2 with h |h
   ·rw[k8 (kz j.dep) h];exact .inl rfl
   ·rw[k8 (kz j.dep) h];exact .inr rfl
  ·exact Nat.lt_of_lt_of_le (Nat.lt_of_le_of_lt s3.i6 j.lt) ((av.jmp (n:=0) (Nat.zero_le _)).trans (av.cZ (n:=0) (Nat.zero_le _))).i6
 |.two a b,S,d,hd,he=>by
  have i:=gL a S d hd he
  rcases i.dep with h |h
  ·have j:=gL b (comp a S) d h (i.st.len he)
   have e:comp (.two a b) S=comp b (comp a S):=by show (match (comp a S).mb with |true=>_ |false=>_)=_;rw[BY h]
   have st:=i.st.trans (j.st.less i.st.eT)
   exact ⟨by rw[e];exact st,by rw[e];exact j.dep,by rw[e];exact Nat.lt_of_lt_of_le i.lt j.st.i6⟩
  ·have e:comp (.two a b) S=comp a S:=by show (match (comp a S).mb with |true=>_ |false=>_)=_;rw[BZ h]
   exact ⟨by rw[e];exact i.st.more (by show cQ a≤cQ a+cQ b;omega),by rw[e];exact i.dep,by rw[e];exact i.lt⟩
end
section
variable {d a:Nat}{fi:eR}{args vs us:List V}{H H1 H' G:List aj}{f:cD}{ls:List (Str×V)}{v x u:V}{r:Nat}
theorem aq.jt {cN:List (Str×V)}(hf:c2 a dD=some fi) (aV:kh fi args=some vs) (aw:ee fi.fd.scope.names=[]) (bZ:fi.jt=true) (hl:hK fi.fd.scope.names (fi.ps.zip vs)=cN)
 (h:ab d ⟨fi.fd.scope,[],fi.tab,cN⟩ fi.body H f ls H1) (ar:∀ aa,fin H.length (iA f) ⟨H1,aa⟩=some (u,⟨H',aa⟩)):aq (d+1) (.obj (.ref a)) args H u H':=aq.gen hf aV aw rfl rfl hl h fun aa=>(eC bZ).trans (ar aa)
theorem aq.bi {id:String}(h:∀ aa,wz id args ⟨H,aa⟩=some (v,⟨H',aa⟩)):aq 1 (.obj (.builtin id)) args H v H':=fun aa o=>⟨aa,o,1,fun N n a b=>match N,n,a,b with
 |N+1,n+1,_,_=>h aa⟩
theorem aq.Ih {id:String}{q:Prop}(dk:q) (h:∀ aa,wz id args ⟨H,aa⟩=some (v,⟨H',aa∧q⟩)):aq 1 (.obj (.builtin id)) args H v H':=fun aa o=>⟨aa∧q,⟨o,dk⟩,1,fun N n a b=>match N,n,a,b with
 |N+1,n+1,_,_=>h aa⟩
theorem aq.pop (h:H[r]?=some (.list (vs++[x]))):aq 1 (.obj (.builtin "list.pop")) [.ref r] H x (H.set r (.list vs)):=aq.bi fun aa=>by
 show nU _ _ _=_
 unfold nU
 rw[if_neg (by decide),if_pos rfl]
 exact (bj (congrArg eF h)).trans (by simp)
theorem aq.app (h:H[r]?=some (.list vs)) (ak:vs.length<aL):aq 1 (.obj (.builtin "list.append")) [.ref r,x] H .none (H.set r (.list (vs++[x]))):=aq.Ih ak fun aa=>by
 show nV _ _ _ _=_
 unfold nV
 rw[if_pos rfl]
 exact bj (congrArg eF h)
end
section
variable {d:Nat}{fr:a5}{H H1 H2:List aj}{xs:List Str}{us:List V}{bp aD:List PySem.Expr}{az uL:Nat}{di Ii p:Pos}
theorem ah.me (h:ai d fr (.Tuple aD uL Ii) H (.tup us) H1) (bA:jz fr bp=some xs) (hd:(mU xs&&aD.any tD)=true) (hl:Nat.beq us.length xs.length=true):ah d fr (.Assign [.Tuple bp az di] (.Tuple aD uL Ii) p) H .next (h3 xs us fr.ls) H1 :=
 h.same fun N n s s1 _ aS _ _=>(rH bA).trans ((eC hd).trans ((bj aS).trans (eC hl)))
end
section
variable {H:List aj}
theorem Ij (k l x y:V):aq 3 (.obj (.ref 506)) [k,l,x,y] H (.ref H.length) (H++[.inst 506 [(c3,k),(i5,l),(kq,x),(l8,y)]]) :=
 aq.cls (d:=1) (ci:=⟨496,_,_⟩) rfl rfl rfl <|
 aq.ft (a:=496) (fi:=⟨vY,[bk,c3,i5,kq,l8],[],D8.1,none,false⟩) (vs:=[.ref H.length,k,l,x,y]) (cN:=[(bk,.ref H.length),(c3,k),(i5,l),(kq,x),(l8,y)]) (by kernel_rfl) rfl (by kernel_rfl) rfl (by kernel_rfl) <|
  ab.cons (ah.assign (v:=k) I (bq.attr (v:=.ref H.length) (H2:=H++[.inst 506 [(c3,k)]]) I (ox (fs:=[]) (by kernel_rfl)))) <|
  ab.cons (ah.assign (v:=l) I (bq.attr (v:=.ref H.length) (H2:=H++[.inst 506 [(c3,k),(i5,l)]]) I (ox (fs:=[(c3,k)]) (by kernel_rfl)))) <|
  ab.cons (ah.assign (v:=x) I (bq.attr (v:=.ref H.length) (H2:=H++[.inst 506 [(c3,k),(i5,l),(kq,x)]]) I (ox (fs:=[(c3,k),(i5,l)]) (by kernel_rfl)))) <|
  ab.one (ah.assign (v:=y) I (bq.attr (v:=.ref H.length) (H2:=H++[.inst 506 [(c3,k),(i5,l),(kq,x),(l8,y)]]) I (ox (fs:=[(c3,k),(i5,l),(kq,x)]) (by kernel_rfl))))
end
mutual
theorem nh {b b' : Nat}(h:b≤b'):∀ v:V,cq b v=true→cq b' v=true
 |.ref i,q=>Nat.blt_eq.mpr (Nat.lt_of_lt_of_le (Nat.blt_eq.mp q) h)
 |.tup vs,q=>i8 h vs q
 |.aN vs,q=>i8 h vs q
 |.fin _ fs,q=>uM h fs q
 |.fd fs,q=>uM h fs q
 |.fC _ s,q=>nh h s q
 |.none,_=>rfl
 |.bool _,_=>rfl
 |.int _,_=>rfl
 |.str _,_=>rfl
 |.obj _,_=>rfl
 |.lam _ _ _,_=>rfl
 |.cx _ _,q=>q
 |.any,q=>q
theorem i8 {b b' : Nat}(h:b≤b'):∀ vs:List V,dS b vs=true→dS b' vs=true
 |[],_=>rfl
 |v::r,q=>Bool.and_eq_true_iff.mpr ⟨nh h v (Bool.and_eq_true_iff.mp q).1,i8 h r (Bool.and_eq_true_iff.mp q).2⟩
theorem uM {b b' : Nat}(h:b≤b'):∀ fs:List (Str×V),jy b fs=true→jy b' fs=true
 |[],_=>rfl
 |(_,v)::r,q=>Bool.and_eq_true_iff.mpr ⟨nh h v (Bool.and_eq_true_iff.mp q).1,uM h r (Bool.and_eq_true_iff.mp q).2⟩
end
theorem mf {b b' : Nat}(h:b≤b'):∀ o:aj,cE b o=true→cE b' o=true
 |.list vs,q=>i8 h vs q
 |.inst _ fs,q=>uM h fs q
 |.dict fs,q=>uM h fs q
 |.cell (some v),q=>nh h v q
 |.cell none,_=>rfl
 |.tab _ _,_=>rfl
 |.dead,_=>rfl
theorem uN {b b' : Nat}(h:b≤b') {X:List aj}(q:X.all (cE b)=true):X.all (cE b')=true :=
 List.all_eq_true.mpr fun o m=>mf h o (List.all_eq_true.mp q o m)
noncomputable def uO (P:Pre):Prop:=[P.bz,P.gb,P.ib,P.HE,P.HF,P.HG,P.HH,P.HI,P.HJ].all (cE 23)=true
theorem Ik {P:Pre}{S:au}{X:List aj}:(mk P S X).length=22+X.length:=by unfold mk;simp;omega
theorem B0 {P:Pre}{S:au}{X:List aj}(hx:uO P) (bR:r0 S) (hd:cq 0 S.dep=true) (eI:X.all (cE (22+X.length))=true) (h0:0<X.length):(mk P S X).all (cE (22+X.length))=true:=by
 have bt:23≤22+X.length:=by omega
 generalize 22+X.length=b at *
 have m:∀ o,cE 23 o=true→cE b o=true:=fun o=>mf bt o
 unfold uO at hx
 simp only[List.all_cons,List.all_nil,Bool.and_eq_true] at hx
 obtain ⟨h0,h1,af,aB,bu,dB,eB,eS,m2,_⟩:=hx
 obtain ⟨dc,cH,i0,mY,uP,uQ,uR⟩:=bR
 unfold mk
 simp only[List.all_cons,Bool.and_eq_true]
 exact ⟨m _ h0,m _ h1,m _ af,m _ aB,m _ bu,m _ dB,m _ eB,m _ eS,m _ m2,m _ (by kernel_rfl),rfl,
  m _ (by show (true&&(cq 23 S.dep&&(true&&true)))=true;rw[nh (Nat.zero_le _) _ hd];rfl),m _ (by kernel_rfl),
  i8 (Nat.zero_le _) _ dc,i8 (Nat.zero_le _) _ cH,i8 (Nat.zero_le _) _ i0,i8 (Nat.zero_le _) _ mY,i8 (Nat.zero_le _) _ uP,i8 (Nat.zero_le _) _ uQ,rfl,rfl,i8 (Nat.zero_le _) _ uR,eI⟩
noncomputable abbrev kB:Str:=⟨⟨[110,111,100,101,115]⟩⟩
noncomputable def a7:bF→V
 |.b7 n=>fe pM 1 [cB n]
 |.el=>fe pM 1 [jP]
 |.ff k=>fe BP 1 [fe ku 1 [.int k]]
 |.du n b=>fe pN 1 [cB n,a7 b]
 |.fin t n b=>fe nc 1 [c7 t,cB n,a7 b]
 |.dg b c=>.fin 853 [(c3,.str gK),(en,.int 1),(dU,.aN [match a7 b with |.aN vs=>.aN vs |v=>.aN [v],.str dE,match a7 c with |.aN vs=>.aN vs |v=>.aN [v],.none]),(g8,eb)]
 |.two a b=>.aN [a7 a,a7 b]
noncomputable def bE (t:bF):List V:=match a7 t with |.aN vs=>vs |v=>[v]
noncomputable def fV:bF→Bool
 |.two _ _=>false
 |_=>true
noncomputable def wf:bF→Bool
 |.du _ b=>fV b&&wf b
 |.fin _ _ b=>fV b&&wf b
 |.dg b c=>wf b&&wf c
 |.two a b=>fV a&&fV b&&(wf a&&wf b)
 |_=>true
noncomputable def bV:bF→Nat
 |.du _ b=>bV b+10
 |.fin _ _ b=>bV b+10
 |.dg b c=>max (bV b) (bV c)+10
 |.two a b=>max (bV a) (bV b)
 |_=>20
structure Inv (P:Pre) (S:au) (aY:List V) (T:List aj) (d:Int) (k:Nat):Prop where
 hx:uO P
 hd:S.dep=.int d
 aw:iK S
 he:S.bB.length=S.ag.length
 bR:r0 S
 ak:S.aP+k+60<aL
 hl:aY.length+k+60<aL
 eI:(aj.list aY::T).all (cE (23+T.length))=true
noncomputable def mh (t:bF):Prop:=∀(P:Pre) (S:au) (aY:List V) (T:List aj) (d:Int),Inv P S aY T d (cQ t)→∃ G:List aj,(aj.list aY::(T++G)).all (cE (23+(T++G).length))=true∧aq (bV t) (.obj (.ref 712)) [.ref 9,a7 t] (mk P S (.list aY::T)) .none (mk P (comp t S) (.list aY::(T++G)))
structure uS (P:Pre) (X:List aj) (nodes:V) (src:Src) (vs:List V):Prop where
 s:∀ S:au,srcOf nodes ⟨mk P S X,True⟩=some src
 i:∀(S:au) (G:List aj) (k:Nat),itemAt src k (mk P S (X++G))=some vs[k]?
 t:∀ t,iY src t=true
noncomputable def jR (t:bF):Prop:=∀(P:Pre) (S:au) (aY:List V) (T:List aj) (d:Int) (nodes:V) (src:Src),Inv P S aY T d (cQ t)→uS P (.list aY::T) nodes src (bE t)→aq (bV t+3) (.obj (.ref 705)) [.ref 9,nodes] (mk P S (.list aY::T)) .none (mk P (comp t S) (.list aY::T))
section
variable {P:Pre}{S aT:au}{X hS T:List aj}{aY:List V}{d:Int}{D k:Nat}{v nodes:V}{src:Src}{ls:List (Str×V)}
noncomputable abbrev xW (ls:List (Str×V)):a5:=⟨tf.scope,[],none,ls⟩
noncomputable def Vt (nodes:V) (ls:List (Str×V)):Prop:=ls=[(bk,.ref 9),(kB,nodes)]∨∃ u,ls=[(bk,.ref 9),(kB,nodes),(cJ,u)]
theorem xX (hd:S.dep=.int d) (c:aq D (.obj (.ref 712)) [.ref 9,v] (mk P S X) .none (mk P aT hS)):ab (D+1) (xW [(bk,.ref 9),(kB,nodes),(cJ,v)]) (d1 o2.1) (mk P S X) .next [(bk,.ref 9),(kB,nodes),(cJ,v)] (mk P aT hS) :=
 ab.eO (GT.val (ai.a0 (v:=.ref 11) (first:=[.ref 11]) (vs:=[]) I rfl I ((Ut hd).mono (by omega))))
  (ab.one (ah.expr (ai.a0 (v:=.ref 9) (first:=[.ref 9]) (vs:=[v]) I rfl I (c.mono (by omega)))))
theorem Vu (hd:S.dep=.none):ab (D+1) (xW [(bk,.ref 9),(kB,nodes),(cJ,v)]) (d1 o2.1) (mk P S X) .next [(bk,.ref 9),(kB,nodes),(cJ,v)] (mk P S X) :=
 ab.bx (GT.val (ai.a0 (v:=.ref 11) (first:=[.ref 11]) (vs:=[]) I rfl I ((Uu hd).mono (by omega)))) ab.nil
theorem uT (h:Vt nodes ls):bq (D+1) (xW ls) (ha o2.1) v (mk P S X) [(bk,.ref 9),(kB,nodes),(cJ,v)] (mk P S X):=by
 rcases h with rfl |⟨u,rfl⟩
 ·exact I
 ·exact I
theorem Vv (hx:uO P) (bR:r0 aT) (hd:cq 0 aT.dep=true) (eI:(aj.list aY::T).all (cE (23+T.length))=true) (G:List aj):∀ aa,fin (mk P S (.list aY::T)).length .none ⟨mk P aT (.list aY::(T++G)),aa⟩=some (.none,⟨mk P aT (.list aY::T),aa⟩):=fun aa=>by
 refine pL (ej rfl rfl) ?_ ?_
 ·show (mk P aT (.list aY::T)++G).take (mk P aT (.list aY::T)).length=_
  exact rV
 ·have:=B0 (X:=.list aY::T) hx bR hd (by rw[List.length_cons,Nat.add_comm T.length 1,←Nat.add_assoc];exact eI) (by simp)
  rw[Ik];exact this
end
section
variable {P:Pre}{S aT:au}{X hS T:List aj}{aY:List V}{d:Int}{D k:Nat}{v nodes:V}{src:Src}{ls:List (Str×V)}{t a b:bF}
theorem B1 (h:S.dep=.int d∨S.dep=.none):cq 0 S.dep=true:=by rcases h with h |h <;> rw[h] <;> rfl
theorem pU (h:fV t=true):bE t=[a7 t]:=by cases t <;> first |rfl |cases h
theorem oD:bE (.two a b)=[a7 a,a7 b]:=rfl
theorem B2 (n:uS P (.list aY::T) nodes src (bE t)) (i:Inv P S aY T d k) (c:Ig t S d) {ls:List (Str×V)}{G:List aj}
 (g:cV (D+2) (xW [(bk,.ref 9),(kB,nodes)]) (ha o2.1) src 0 (d1 o2.1) (mk P S (.list aY::T)) .next ls (mk P (comp t S) (.list aY::(T++G)))) :
 aq (D+3) (.obj (.ref 705)) [.ref 9,nodes] (mk P S (.list aY::T)) .none (mk P (comp t S) (.list aY::T)) :=
 aq.jt (fi:=⟨tf,[bk,kB],[],o2.1,none,true⟩) (vs:=[.ref 9,nodes]) (cN:=[(bk,.ref 9),(kB,nodes)]) (by kernel_rfl) rfl (by kernel_rfl) rfl (by kernel_rfl)
  (ab.one (ah.for (v:=nodes) I (n.s _) g)) (Vv i.hx (c.st.kv i.bR) (B1 c.dep) i.eI G)
theorem r7 (h:fV t=true) (s:mh t):jR t:=fun P S aY T d nodes src i n=>by
 have c:=gL t S d i.hd i.he
 obtain ⟨G,jn,x⟩:=s P S aY T d i
 have la:itemAt src 0 (mk P S (.list aY::T))=some (some (a7 t)):=by
  have:=n.i S [] 0
  rw[List.append_nil] at this;rw[this,pU h];rfl
 have g4:itemAt src 1 (mk P (comp t S) (.list aY::(T++G)))=some none:=by
  have:=n.i (comp t S) G 1
  refine this.trans ?_;rw[pU h];rfl
 exact B2 n i c ((cV.step la (n.t _) (uT (.inl rfl)) (xX i.hd x) (cV.done g4 (n.t _))).mono (by omega))
theorem Inv.next (i:Inv P S aY T d (k+e)) (c:av S.ag.length S aT k) {Il:Int}(h:aT.dep=.int Il) {G:List aj}(jn:(aj.list aY::(T++G)).all (cE (23+(T++G).length))=true):Inv P aT aY (T++G) Il e :=
 ⟨i.hx,h,c.con i.aw,c.len i.he,c.kv i.bR,by have:=i.ak;have:=c.aP;omega,by have:=i.hl;omega,jn⟩
theorem Im:cQ (.two a b)=cQ a+cQ b:=rfl
theorem Vw (b2:mh a) (bt:mh b):jR (.two a b):=fun P S aY T d nodes src i n=>by
 have c:=gL (.two a b) S d i.hd i.he
 have ca:=gL a S d i.hd i.he
 have Vx:Inv P S aY T d (cQ a):=⟨i.hx,i.hd,i.aw,i.he,i.bR,by have:=i.ak;rw[Im] at this;omega,by have:=i.hl;rw[Im] at this;omega,i.eI⟩
 obtain ⟨G,jn,x⟩:=b2 P S aY T d Vx
 have la:itemAt src 0 (mk P S (.list aY::T))=some (some (a7 a)):=by
  have:=n.i S [] 0
  rw[List.append_nil] at this;rw[this,oD];rfl
 have g4:itemAt src 1 (mk P (comp a S) (.list aY::(T++G)))=some (some (a7 b)):=by
  refine (n.i (comp a S) G 1).trans ?_;rw[oD];rfl
 have le:max (bV a) (bV b)=bV (.two a b):=rfl
 rcases ca.dep with h |h
 ·have e:comp (.two a b) S=comp b (comp a S):=by show (match (comp a S).mb with |true=>_ |false=>_)=_;rw[BY h]
  have mi:Inv P (comp a S) aY (T++G) d (cQ b):=Inv.next (k:=cQ a) i ca.st h jn
  obtain ⟨B3,ZD,y⟩:=bt P (comp a S) aY (T++G) d mi
  have mZ:itemAt src 2 (mk P (comp b (comp a S)) (.list aY::((T++G)++B3)))=some none:=by
   rw[List.append_assoc];refine (n.i _ (G++B3) 2).trans ?_;rw[oD];rfl
  refine B2 (G:=G++B3) (ls:=[(bk,.ref 9),(kB,nodes),(cJ,a7 b)]) n i c ?_
  rw[e,←List.append_assoc]
  exact cV.step la (n.t _) (uT (.inl rfl)) ((xX i.hd x).mono (by omega)) <|
   cV.step g4 (n.t _) (uT (.inr ⟨_,rfl⟩)) ((xX h y).mono (by omega)) (cV.done mZ (n.t _))
 ·have e:comp (.two a b) S=comp a S:=by show (match (comp a S).mb with |true=>_ |false=>_)=_;rw[BZ h]
  have mZ:itemAt src 2 (mk P (comp a S) (.list aY::(T++G)))=some none:=by
   refine (n.i _ G 2).trans ?_;rw[oD];rfl
  refine B2 (G:=G) (ls:=[(bk,.ref 9),(kB,nodes),(cJ,a7 b)]) n i c ?_
  rw[e]
  exact cV.step la (n.t _) (uT (.inl rfl)) ((xX i.hd x).mono (by omega)) <|
   cV.step g4 (n.t _) (uT (.inr ⟨_,rfl⟩)) (Vu h) (cV.done mZ (n.t _))
end
section
variable {P:Pre}{S aT:au}{X hS T:List aj}{aY:List V}{d:Int}{D k:Nat}{v nodes:V}{ls:List (Str×V)}{t a b:bF}
noncomputable abbrev Vy (kd:Str) (ps:List V) (v:V):a5:=⟨tg.scope,[],none,[(bk,.ref 9),(cJ,v),(c3,.str kd),(dU,.aN ps)]⟩
noncomputable abbrev eo (kd:Str) (ps:List V) (sc:V):V:=.fin 853 [(c3,.str kd),(en,.int 1),(dU,.aN ps),(g8,sc)]
theorem uU {kd:Str}{ps:List V}{sc:V}(h:ab (D+2) (Vy kd ps (eo kd ps sc)) (zT.1.drop 2) (mk P S.l1 X) .next ls (mk P aT hS)):aq (D+3) (.obj (.ref 712)) [.ref 9,eo kd ps sc] (mk P S X) .none (mk P aT hS) :=
 aq.ft (fi:=⟨tg,[bk,cJ],[],zT.1,none,false⟩) (vs:=[.ref 9,eo kd ps sc]) (cN:=[(bk,.ref 9),(cJ,eo kd ps sc)]) (by kernel_rfl) rfl (by kernel_rfl) rfl (by kernel_rfl) <|
  ab.cons (bJ:=[(bk,.ref 9),(cJ,eo kd ps sc),(c3,.str kd),(dU,.aN ps)]) I <|
  ab.cons (H1:=mk P S.l1 X) (bJ:=[(bk,.ref 9),(cJ,eo kd ps sc),(c3,.str kd),(dU,.aN ps)]) ic h
theorem Io {v:V}{hb:au}{e:Int}(c:aq 8 (.obj (.ref 601)) [.ref 9,v] (mk P S.l1 X) .none (mk P hb X)) (hd:hb.dep=.int e) (ak:hb.aP<aL):aq 20 (.obj (.ref 712)) [.ref 9,fe pM 1 [v]] (mk P S X) .none (mk P hb.pop X) :=
 uU (D:=17) (kd:=pM) (ps:=[v]) (sc:=.none)<|ab.eO I <|
  ab.cons (ah.expr (ai.a0 (v:=.ref 9) (first:=[.ref 9]) (vs:=[v]) I rfl I (c.mono (by omega)))) <|
  ab.one (ah.expr (ai.a0 (v:=.ref 9) (first:=[.ref 9]) (vs:=[]) I rfl I ((Vi hd ak).mono (by omega))))
theorem xY (eI:(aj.list aY::T).all (cE (23+T.length))=true):(aj.list aY::(T++[])).all (cE (23+(T++[]).length))=true:=by rw[List.append_nil];exact eI
theorem Ip (n:b9):mh (.b7 n):=fun P S aY T d i=>by
 have ak:S.aP+10+60<aL:=i.ak
 have s1:av 0 S (S.l1.l1.a6 n) 3:=(av.l1.trans (av.l1.trans av.a6)).more (by omega)
 refine ⟨[],xY i.eI,?_⟩
 rw[List.append_nil]
 exact Io (e:=d+1) (rZ (S:=S.l1) n i.hd i.aw (by show S.aP+1<aL;omega)) (by rw[hR];show b4 S.dep 1=_;rw[i.hd];rfl) (by have:=s1.aP;omega)
theorem Iq:mh .el:=fun P S aY T d i=>by
 have ak:S.aP+10+60<aL:=i.ak
 have s1:av 0 S ((S.l1.l1.unit ma).bg 67 (.int S.dZ.length) 1) 3:=(((av.l1.trans av.l1).trans av.unit).trans (av.bg rfl)).more (by omega)
 refine ⟨[],xY i.eI,?_⟩
 rw[List.append_nil]
 refine Io (e:=d+1) (Vf (S:=S.l1) i.hd (by show S.aP+1<aL;omega) ?_) (by show b4 S.dep 1=_;rw[i.hd];rfl) (by have:=s1.aP;omega)
 rw[Ik]
 exact B0 i.hx i.bR (B1 (.inl i.hd)) (by rw[List.length_cons,Nat.add_comm T.length 1,←Nat.add_assoc];exact i.eI) (by simp)
theorem Ir (k:Int):mh (.ff k):=fun P S aY T d i=>by
 have ak:S.aP+10+60<aL:=i.ak
 have s1:av 0 S (S.l1.l1.dK 4 (.int k) 1) 3:=((av.l1.trans av.l1).trans (av.dK rfl)).more (by omega)
 have c:=Vc (P:=P) (S:=S.l1) (T:=.list aY::T) (k:=k) i.hd i.aw (by show S.aP+1<aL;omega)
 have z:=U0 (P:=P) (S:=S.l1.l1.dK 4 (.int k) 1) (T:=.list aY::T) (d:=d+1) (by rw[BU];show b4 S.dep 1=_;rw[i.hd];rfl) (by have:=s1.aP;omega)
 refine ⟨[],xY i.eI,?_⟩
 rw[List.append_nil]
 exact uU (D:=17) (kd:=BP) (ps:=[fe ku 1 [.int k]]) (sc:=.none) <|
  ab.bx I<|ab.bx I<|ab.bx I<|ab.bx I<|ab.bx I<|ab.bx I<|ab.bx I<|ab.bx I<|ab.eO I <|
  ab.cons (ah.expr (ai.a0 (v:=.ref 9) (first:=[.ref 9]) (vs:=[fe ku 1 [.int k]]) I rfl I (c.mono (by omega)))) <|
  ab.one (ah.expr (ai.a0 (v:=.ref 11) (first:=[.ref 11]) (vs:=[.int 66]) I rfl I (z.mono (by omega))))
end
theorem jS:∀ t:bF,cq 0 (a7 t)=true
 |.b7 n=>by cases n <;> rfl
 |.el=>rfl
 |.ff _=>rfl
 |.du n b=>by
  show (true&&(true&&((cq 0 (cB n)&&(cq 0 (a7 b)&&true))&&(true&&true))))=true
  rw[jS b];cases n <;> rfl
 |.fin t n b=>by
  show (true&&(true&&((cq 0 (c7 t)&&(cq 0 (cB n)&&(cq 0 (a7 b)&&true)))&&(true&&true))))=true
  rw[jS b]
  cases t with
  |b7 q=>cases q <;> cases n <;> rfl
  |var=>cases n <;> rfl
  |mem q=>cases q <;> cases n <;> rfl
  |c6 q r=>cases q <;> cases r <;> cases n <;> rfl
 |.dg b c=>by
  have h:∀ v,cq 0 v=true→cq 0 (match v with |.aN vs=>.aN vs |v=>.aN [v])=true:=fun v h=>by
   split
   ·exact h
   ·show (cq 0 _&&true)=true;rw[h];rfl
  have aV:cq 0 eb=true:=by kernel_rfl
  show (true&&(true&&((cq 0 (match a7 b with |.aN vs=>.aN vs |v=>.aN [v])&&(true&&(cq 0 (match a7 c with |.aN vs=>.aN vs |v=>.aN [v])&&(true&&true))))&&(cq 0 eb&&true))))=true
  rw[h _ (jS b),h _ (jS c),aV];rfl
 |.two a b=>by
  show (cq 0 (a7 a)&&(cq 0 (a7 b)&&true))=true
  rw[jS a,jS b];rfl
section
variable {P:Pre}{S aT:au}{X hS T:List aj}{aY:List V}{d:Int}{D k l:Nat}{v w nodes:V}{ls:List (Str×V)}{t b:bF}
theorem uV (h:(∃ d,S.dep=.int d∧S.fits l d)∨S.dep=.none∧∃ v,S.bB[l]?=some v) (a3:S.ag[l]?=some (.int (-1))):aq 5 (.obj (.ref 396)) [.ref 11,.int l] (mk P S T) .none (mk P (S.cZ l) T):=by
 rcases h with ⟨d,hd,hf⟩ |⟨hd,v,aV⟩
 ·rw[fH hd];exact HS hd a3 hf
 ·rw[k8 hd aV];exact BJ hd a3 aV
theorem B4 {p:aj→Bool}{x:aj}(h:X.all p=true) (bA:p x=true):(X++[x]).all p=true:=by
 rw[List.all_append,h];show (true&&(p x&&true))=true;rw[bA];rfl
theorem Vz (i:Inv P S aY T d (k+2)) {c:Nat}(aw:c<23+T.length) {y:aj}(bU:cE 0 y=true):Inv P S (aY++[.ref c]) (T++[y]) d k:=by
 refine ⟨i.hx,i.hd,i.aw,i.he,i.bR,by have:=i.ak;omega,by have:=i.hl;simp;omega,?_⟩
 have h:=uN (b':=23+(T++[y]).length) (by simp) i.eI
 obtain ⟨h1,af⟩:=Bool.and_eq_true_iff.mp (show (dS (23+(T++[y]).length) aY&&T.all (cE (23+(T++[y]).length)))=true from h)
 show (dS (23+(T++[y]).length) (aY++[.ref c])&&(T++[y]).all (cE (23+(T++[y]).length)))=true
 rw[ng h1 (by show (Nat.blt c _&&true)=true;rw[Nat.blt_eq.mpr (by simp;omega)];rfl),B4 af (mf (Nat.zero_le _) _ bU)];rfl
theorem VA (Q:List V):uS P (.list Q::(T++[.list [v]])) (.ref (T.length+23)) (.ref (T.length+23)) [v]:=by
 refine ⟨fun S=>?_,fun S G k=>?_,fun _=>rfl⟩
 ·have e:(mk P S (.list Q::(T++[.list [v]])))[T.length+23]?=some (.list [v]):=fc (H:=mk P S (.list Q::T))
  exact eh (congrArg eF e)
 ·have e:(mk P S (.list Q::(T++[.list [v]])++G))[T.length+23]?=some (.list [v]):=cY (fc (H:=mk P S (.list Q::T)))
  unfold itemAt;dsimp only;rw[e]
theorem It (bt:jR b) (h:fV b=true) {c:Nat}(aw:c<23+T.length) (i:Inv P S aY T d (cQ b+2)):aq (bV b+4) (.obj (.ref 754)) [.ref 9,a7 b,.ref c] (mk P S (.list aY::T)) .none (mk P (comp b S) (.list aY::(T++[.list [a7 b]]))):=by
 have j:Inv P S (aY++[.ref c]) (T++[.list [a7 b]]) d (cQ b):=Vz i aw (by show (cq 0 (a7 b)&&true)=true;rw[jS b];rfl)
 have st:=bt P S _ _ d _ _ j (by rw[pU h];exact VA _)
 have hl:aY.length<aL:=by have:=i.hl;omega
 exact aq.ft (fi:=⟨v9,[bk,cJ,pO],[],Ee.1,none,false⟩) (vs:=[.ref 9,a7 b,.ref c]) (cN:=[(bk,.ref 9),(cJ,a7 b),(pO,.ref c)]) (by kernel_rfl) rfl (by kernel_rfl) rfl (by kernel_rfl) <|
  ab.cons (H1:=mk P S (.list (aY++[.ref c])::T)) (ah.expr (ai.a0 (v:=.ref 22) (g:=.obj (.builtin "list.append")) (first:=[.ref 22]) (vs:=[.ref c]) I rfl I ((aq.app (vs:=aY) rfl hl).mono (by omega)))) <|
  ab.cons (H1:=mk P (comp b S) (.list (aY++[.ref c])::(T++[.list [a7 b]]))) (ah.expr (ai.a0 (v:=.ref 9) (first:=[.ref 9]) (vs:=[.ref (T.length+23)]) I rfl (GE.cons (ai.list (GE.cons I GE.nil)) GE.nil) (st.mono (by omega)))) <|
  ab.one (ah.expr (ai.a0 (v:=.ref 22) (g:=.obj (.builtin "list.pop")) (first:=[.ref 22]) (vs:=[]) I rfl I ((aq.pop (vs:=aY) (x:=.ref c) rfl).mono (by omega))))
end
section
variable {P:Pre}{S aT:au}{X hS T:List aj}{aY:List V}{d:Int}{D k l l1 l2 c:Nat}{kd dp v w nodes sc:V}{ls:List (Str×V)}{t b:bF}{H:List aj}{f:cD}
noncomputable abbrev d2 (kd dp:V) (l1 l2:Nat):aj:=.inst 506 [(c3,kd),(i5,dp),(kq,.int l1),(l8,.int l2)]
theorem xZ (h:H[c]?=some (d2 kd dp l1 l2)):mS (.ref c) l8 ⟨H,True⟩=some (.int l2):=by
 exact (bj (congrArg lR h)).trans (by kernel_rfl)
theorem x1 (h:H[c]?=some (d2 kd dp l1 l2)):mS (.ref c) kq ⟨H,True⟩=some (.int l1):=by
 exact (bj (congrArg lR h)).trans (by kernel_rfl)
noncomputable abbrev Iu (kd:Str) (ps:List V) (v dp:V) (l1 l2:Nat):a5:=⟨th.scope,[],none,[(bk,.ref 9),(cJ,v),(i5,dp),(c3,.str kd),(dU,.aN ps),(kq,.int l1),(l8,.int l2)]⟩
theorem Iv {kd:Str}{ps:List V}(ak:S.aP+10<aL) (hf:iA f=.none) (h:ab (D+4) (Iu kd ps (eo kd ps sc) dp S.ag.length (S.ag.length+1)) (zV.1.drop 3) (mk P (S.ay.ay).l1 X) f ls (mk P aT hS)) :
 aq (D+5) (.obj (.ref 747)) [.ref 9,eo kd ps sc,dp] (mk P S X) .none (mk P aT hS):=by
 have a4:=pH (P:=P) (S:=S.ay) (T:=X) (by have:=(av.ay (n:=0) (S:=S) (Nat.zero_le _));unfold au.aP au.ay at *;simp;omega)
 rw[ky] at a4
 have e:aq (D+5) (.obj (.ref 747)) [.ref 9,eo kd ps sc,dp] (mk P S X) (iA f) (mk P aT hS) :=
  aq.any (fi:=⟨th,[bk,cJ,i5],[],zV.1,none,false⟩) (vs:=[.ref 9,eo kd ps sc,dp]) (by kernel_rfl) rfl (by kernel_rfl) rfl <|
  ab.cons (bJ:=[(bk,.ref 9),(cJ,eo kd ps sc),(i5,dp),(c3,.str kd),(dU,.aN ps)]) I <|
  ab.cons (bJ:=[(bk,.ref 9),(cJ,eo kd ps sc),(i5,dp),(c3,.str kd),(dU,.aN ps),(kq,.int S.ag.length),(l8,.int (S.ag.length+1:Nat))])
   (ah.me (xs:=[kq,l8]) (us:=[.int S.ag.length,.int (S.ag.length+1:Nat)]) (ai.tup (GE.cons (ai.a0 (v:=.ref 11) (first:=[.ref 11]) (vs:=[]) I rfl I ((pH (by omega)).mono (by omega))) (GE.cons (ai.a0 (v:=.ref 11) (first:=[.ref 11]) (vs:=[]) I rfl I (a4.mono (by omega))) GE.nil))) (by kernel_rfl) (by kernel_rfl) (by kernel_rfl)) <|
  ab.cons (H1:=mk P (S.ay.ay).l1 X) (bJ:=[(bk,.ref 9),(cJ,eo kd ps sc),(i5,dp),(c3,.str kd),(dU,.aN ps),(kq,.int S.ag.length),(l8,.int (S.ag.length+1:Nat))]) ic h
 rw[hf] at e;exact e
end
theorem mj:∀ t:bF,20≤bV t
 |.b7 _=>Nat.le_refl _
 |.el=>Nat.le_refl _
 |.ff _=>Nat.le_refl _
 |.du _ b=>Nat.le_trans (mj b) (Nat.le_add_right _ _)
 |.fin _ _ b=>Nat.le_trans (mj b) (Nat.le_add_right _ _)
 |.dg b _=>Nat.le_trans (Nat.le_trans (mj b) (Nat.le_max_left _ _)) (Nat.le_add_right _ _)
 |.two a _=>Nat.le_trans (mj a) (Nat.le_max_left _ _)
section
variable {P:Pre}{S aT:au}{X hS T:List aj}{aY:List V}{d:Int}{D k l l1 l2 c:Nat}{kd dp v w nodes sc:V}{ls:List (Str×V)}{t b:bF}{H:List aj}{f:cD}
theorem Inv.mono {m:Nat}(i:Inv P S aY T d k) (h:m≤k):Inv P S aY T d m:=⟨i.hx,i.hd,i.aw,i.he,i.bR,by have:=i.ak;omega,by have:=i.hl;omega,i.eI⟩
theorem VB (n:b9) (bt:jR b) (h:fV b=true) (i:Inv P S aY T d (cQ b+20)) (eI:(aj.list aY::(T++[d2 kd dp S.ag.length (S.ag.length+1)])).all (cE (24+T.length))=true) :
 aq (bV b+5) (.obj (.ref 761)) [.ref 9,cB n,a7 b,.ref (T.length+23)] (mk P (S.l1.ay.ay).l1 (.list aY::(T++[d2 kd dp S.ag.length (S.ag.length+1)]))) .none
  (mk P (comp (.du n b) S) (.list aY::((T++[d2 kd dp S.ag.length (S.ag.length+1)])++[.list [a7 b]]))):=by
 have ak:=i.ak
 have ge:=mj b
 obtain ⟨w,s0⟩:=xS n i.hd i.he
 obtain ⟨aG,a4,c4,dN,ey,hE⟩:=oA S.l1 i.he
 have s1:av S.ag.length S ((S.l1.ay.ay).l1) 4:=((av.l1.trans (av.ay (Nat.le_refl _) i.he)).trans ((av.ay (S:=S.l1.ay) (by rw[ky];exact Nat.le_succ _) (by unfold au.ay;simp;exact i.he)).trans av.l1)).more (by omega)
 have s2:=s1.trans (av.cZ (l:=S.ag.length+1) (by omega))
 have ao:(S.l1.ay.ay).l1.dep=.int d:=i.hd
 have aC:((S.l1.ay.ay).l1.cZ (S.ag.length+1)).dep=.int d:=by rw[fH ao];exact ao
 have f2:((S.l1.ay.ay).l1.cZ (S.ag.length+1)).fits S.ag.length d:=by
  rw[fH ao];exact .inl ((r2 (by omega)).trans c4)
 have aK:=uV (P:=P) (T:=.list aY::(T++[d2 kd dp S.ag.length (S.ag.length+1)])) (S:=(S.l1.ay.ay).l1) (l:=S.ag.length+1) (.inl ⟨d,ao,.inl dN⟩) a4
 have bw:=Vm (P:=P) (T:=.list aY::(T++[d2 kd dp S.ag.length (S.ag.length+1)])) n aC (s2.con i.aw) (by have:=s2.aP;omega) f2
 have j:Inv P (fv S n) aY (T++[d2 kd dp S.ag.length (S.ag.length+1)]) d (cQ b+2):=by
  refine ⟨i.hx,w.dep,s0.con i.aw,s0.len i.he,s0.kv i.bR,by have:=s0.aP;omega,by have:=i.hl;omega,?_⟩
  have:23+(T++[d2 kd dp S.ag.length (S.ag.length+1)]).length=24+T.length:=by simp;omega
  rw[this];exact eI
 have da:=It bt h (c:=T.length+23) (by simp;omega) j
 have ml:=gL b (fv S n) d w.dep (s0.len i.he)
 obtain ⟨dJ,eu,kO⟩:=w.keep ml.st
 have ko:(comp b (fv S n)).aP<aL:=by have:=ml.st.aP;have:=s0.aP;omega
 have iD:=BQ (P:=P) (T:=.list aY::((T++[d2 kd dp S.ag.length (S.ag.length+1)])++[.list [a7 b]])) (S:=comp b (fv S n)) (l:=S.ag.length+1) (d:=d) (ml.dep.elim (fun q=>.inl ⟨q,.inr kO⟩) .inr) ko
 have jC:=uV (P:=P) (T:=.list aY::((T++[d2 kd dp S.ag.length (S.ag.length+1)])++[.list [a7 b]])) (S:=(comp b (fv S n)).jmp (S.ag.length+1)) (l:=S.ag.length) (.inr ⟨kz ml.dep,_,(r5 (by omega)).trans eu⟩) (by rw[oz];exact dJ)
 have i4:∀ aT:au,(mk P aT (.list aY::(T++[d2 kd dp S.ag.length (S.ag.length+1)])))[T.length+23]?=some (d2 kd dp S.ag.length (S.ag.length+1)):=fun aT=>fc (H:=mk P aT (.list aY::T))
 have g1:∀ aT:au,(mk P aT (.list aY::((T++[d2 kd dp S.ag.length (S.ag.length+1)])++[.list [a7 b]])))[T.length+23]?=some (d2 kd dp S.ag.length (S.ag.length+1)):=fun aT=>cY (i4 aT)
 exact aq.ft (fi:=⟨wa,[bk,H4,cJ,pO],[],Ef.1,none,false⟩) (vs:=[.ref 9,cB n,a7 b,.ref (T.length+23)]) (cN:=[(bk,.ref 9),(H4,cB n),(cJ,a7 b),(pO,.ref (T.length+23))]) (by kernel_rfl) rfl (by kernel_rfl) rfl (by kernel_rfl) <|
  ab.cons (ah.expr (ai.a0 (v:=.ref 11) (first:=[.ref 11]) (vs:=[.int (S.ag.length+1:Nat)]) I rfl (GE.cons (ai.attr (v:=.ref (T.length+23)) I (xZ (i4 _))) GE.nil) (aK.mono (by omega)))) <|
  ab.cons (ah.expr (ai.bI (vs:=[.ref 11,cB n,.int S.ag.length,.bool false,.fC 601 (.ref 9)]) I (GE.cons (v:=.ref 11) I (GE.cons (v:=cB n) I (GE.cons (ai.attr (v:=.ref (T.length+23)) I (x1 (i4 _))) (GE.cons (v:=.bool false) I (GE.cons (v:=.fC 601 (.ref 9)) I GE.nil))))) (bw.mono (by omega)))) <|
  ab.cons (ah.expr (ai.a0 (v:=.ref 9) (first:=[.ref 9]) (vs:=[a7 b,.ref (T.length+23)]) I rfl I (da.mono (by omega)))) <|
  ab.cons (ah.expr (ai.a0 (v:=.ref 11) (first:=[.ref 11]) (vs:=[.int 58,.int (S.ag.length+1:Nat)]) I rfl (GE.cons (v:=.int 58) I (GE.cons (ai.attr (v:=.ref (T.length+23)) I (xZ (g1 _))) GE.nil)) (iD.mono (by omega)))) <|
  ab.one (ah.expr (ai.a0 (v:=.ref 11) (first:=[.ref 11]) (vs:=[.int S.ag.length]) I rfl (GE.cons (ai.attr (v:=.ref (T.length+23)) I (x1 (g1 _))) GE.nil) (jC.mono (by omega))))
end
noncomputable abbrev r8:Str:=⟨⟨[108,111,111,112]⟩⟩
noncomputable abbrev uW:Str:=⟨⟨[107,101,121,115]⟩⟩
section
variable {P:Pre}{S aT:au}{X hS T:List aj}{aY:List V}{d:Int}{D k l l1 l2 c:Nat}{kd dp v w nodes sc:V}{ls:List (Str×V)}{t b:bF}{H:List aj}{f:cD}{y:aj}
theorem uX (h:(aj.list aY::T).all (cE (23+T.length))=true) (bU:cE (24+T.length) y=true):(aj.list aY::(T++[y])).all (cE (23+(T++[y]).length))=true:=by
 have e:23+(T++[y]).length=24+T.length:=by simp;omega
 rw[e]
 exact B4 (X:=.list aY::T) (uN (by omega) h) bU
theorem Inv.push (i:Inv P S aY T d k) (bU:cE (24+T.length) y=true):Inv P S aY (T++[y]) d k:=⟨i.hx,i.hd,i.aw,i.he,i.bR,i.ak,i.hl,uX i.eI bU⟩
theorem VC (n:b9) (bt:jR b) (h:fV b=true):mh (.du n b):=fun P S aY T d i=>by
 have ge:=mj b
 have bZ:S.aP+(cQ b+40)+60<aL:=i.ak
 have cI:bV (.du n b)=bV b+10:=rfl
 have g4:Inv P S aY (T++[.list []]) d (cQ b+20):=(i.mono (m:=cQ b+20) (by show _≤cQ b+40;omega)).push rfl
 have aS:cE (24+(T++[aj.list []]).length) (d2 (.str r8) (.ref (T.length+23)) S.ag.length (S.ag.length+1))=true:=by
  show (true&&(Nat.blt _ _&&(true&&(true&&true))))=true
  rw[Nat.blt_eq.mpr (by simp;omega)];rfl
 have eI:=uX g4.eI aS
 have B5:23+((T++[aj.list []])++[d2 (.str r8) (.ref (T.length+23)) S.ag.length (S.ag.length+1)]).length=24+(T++[aj.list []]).length:=by simp;omega
 have uY:=eI
 rw[B5] at uY
 have uZ:=VB n bt h g4 uY
 refine ⟨(([.list []]++[d2 (.str r8) (.ref (T.length+23)) S.ag.length (S.ag.length+1)])++[.list [a7 b]]),?_,?_⟩
 ·rw[←List.append_assoc,←List.append_assoc]
  exact uX eI (mf (Nat.zero_le _) _ (by show (cq 0 (a7 b)&&true)=true;rw[jS b];rfl))
 ·rw[←List.append_assoc,←List.append_assoc,cI]
  have jv:aq (bV b+6) (.obj (.ref 747)) [.ref 9,eo pN [cB n,a7 b] .none,.ref (T.length+23)] (mk P S.l1 (.list aY::(T++[.list []]))) .none (mk P (comp (.du n b) S) (.list aY::(((T++[.list []])++[d2 (.str r8) (.ref (T.length+23)) S.ag.length (S.ag.length+1)])++[.list [a7 b]]))) :=
   Iv (D:=bV b+1) (f:=.next) (S:=S.l1) (by show S.aP+10<aL;omega) rfl <|
    ab.cons (ah.iff I ab.nil) <|
    ab.cons (H1:=mk P (S.l1.ay.ay).l1 (.list aY::((T++[.list []])++[d2 (.str r8) (.ref (T.length+23)) S.ag.length (S.ag.length+1)]))) (ah.assign (v:=.ref ((T++[aj.list []]).length+23)) (ai.bI (g:=.obj (.ref 506)) (vs:=[.str r8,.ref (T.length+23),.int S.ag.length,.int (S.ag.length+1:Nat)]) I I ((Ij (H:=mk P (S.l1.ay.ay).l1 (.list aY::(T++[.list []]))) _ _ _ _).mono (by omega))) (bq.name (by kernel_rfl))) <|
    ab.eO I<|ab.one (ah.expr (ai.a0 (v:=.ref 9) (first:=[.ref 9]) (vs:=[cB n,a7 b,.ref ((T++[aj.list []]).length+23)]) I rfl I (uZ.mono (by omega))))
  exact (uU (D:=bV b+4) (kd:=pN) (ps:=[cB n,a7 b]) (sc:=.none) <|
   ab.bx I<|ab.bx I<|ab.bx I<|ab.bx I<|ab.eO I <|
   ab.one (ah.expr (ai.a0 (v:=.ref 9) (first:=[.ref 9]) (vs:=[eo pN [cB n,a7 b] .none,.ref (T.length+23)]) I rfl (GE.cons I (GE.cons (ai.list (H1:=mk P S.l1 (.list aY::T)) GE.nil) GE.nil)) (jv.mono (by omega))))).mono (by omega)
end
noncomputable abbrev lb:Str:=⟨⟨[111,119,110,101,114]⟩⟩
section
variable {P:Pre}{S aT:au}{X hS T:List aj}{aY:List V}{d:Int}{D k l l1 l2 c:Nat}{kd dp v w nodes sc:V}{ls:List (Str×V)}{b:bF}{H:List aj}{f:cD}{y:aj}
theorem VD:aq 3 (.obj (.ref 726)) [.ref 9,.aN [.tup [.str m6,.none]]] (mk P S X) .none (mk P S X):=Gt.run 30 fun N n aa=>by kernel_rfl
noncomputable abbrev B6 (t:dF) (n:b9) (v w:V):List (Str×V):=[(bk,.ref 9),(dU,.aN [c7 t,cB n,v]),(pO,w),(ht,c7 t),(lb,cB n),(cJ,v)]
theorem VE (t:dF) (n:b9):ah 5 ⟨ti.scope,[],none,B6 t n v w⟩ (bQ zW.1 1) (mk P S X) .next (B6 t n v w) (mk P S X):=by
 cases t with
 |var=>exact ah.cm I (ab.one (ah.expr (ai.a0 (v:=.ref 9) (first:=[.ref 9]) (vs:=[.aN [.tup [.str m6,.none]]]) I rfl I (VD.mono (by omega)))))
 |_=>exact ah.iff I ab.nil
theorem VF (t:dF) (n:b9) (bt:jR b) (h:fV b=true) (i:Inv P S aY T d (cQ b+60)) (eI:(aj.list aY::(T++[d2 kd dp S.ag.length (S.ag.length+1)])).all (cE (24+T.length))=true) :
 aq (bV b+5) (.obj (.ref 782)) [.ref 9,.aN [c7 t,cB n,a7 b],.ref (T.length+23)] (mk P (S.l1.ay.ay).l1 (.list aY::(T++[d2 kd dp S.ag.length (S.ag.length+1)]))) .none
  (mk P (comp (.fin t n b) S) (.list aY::((T++[d2 kd dp S.ag.length (S.ag.length+1)])++[.list [a7 b]]))):=by
 have ak:=i.ak
 have ge:=mj b
 obtain ⟨w,s0⟩:=xT t n i.hd i.he
 obtain ⟨aG,a4,c4,dN,ey,hE⟩:=oA S.l1 i.he
 have s1:av S.ag.length S ((S.l1.ay.ay).l1) 4:=((av.l1.trans (av.ay (Nat.le_refl _) i.he)).trans ((av.ay (S:=S.l1.ay) (by rw[ky];exact Nat.le_succ _) (by unfold au.ay;simp;exact i.he)).trans av.l1)).more (by omega)
 have s2:av S.ag.length S ((S.l1.ay.ay).l1.l1.a6 n) 7:=(s1.trans (av.l1.trans av.a6)).more (by omega)
 have s3:av S.ag.length S (((S.l1.ay.ay).l1.l1.a6 n).bg 76 .none 0) 9:=s2.trans (av.bg rfl)
 have s4:=s3.trans (av.cZ (l:=S.ag.length+1) (by omega))
 have s5:=s4.trans (av.hu (l:=S.ag.length) (by omega))
 have ao:(S.l1.ay.ay).l1.dep=.int d:=i.hd
 have aC:((S.l1.ay.ay).l1.l1.a6 n).dep=.int (d+1):=by rw[hR];show b4 S.dep 1=_;rw[i.hd];rfl
 have cL:(((S.l1.ay.ay).l1.l1.a6 n).bg 76 .none 0).dep=.int (d+1):=by
  show b4 ((S.l1.ay.ay).l1.l1.a6 n).dep 0=_;rw[aC,i7];congr 1;omega
 have gb:(((S.l1.ay.ay).l1.l1.a6 n).bg 76 .none 0).ag=(S.l1.ay.ay).ag∧(((S.l1.ay.ay).l1.l1.a6 n).bg 76 .none 0).bB=(S.l1.ay.ay).bB:=jQ (S:=(S.l1.ay.ay).l1.l1) n
 have gG:((((S.l1.ay.ay).l1.l1.a6 n).bg 76 .none 0).cZ (S.ag.length+1)).dep=.int (d+1):=by rw[fH cL];exact cL
 have k4:(((((S.l1.ay.ay).l1.l1.a6 n).bg 76 .none 0).cZ (S.ag.length+1)).hu S.ag.length).dep=.int (d+1+1):=by rw[r3 gG];rfl
 have f4:((((S.l1.ay.ay).l1.l1.a6 n).bg 76 .none 0).cZ (S.ag.length+1)).fits S.ag.length (d+1):=by
  rw[fH cL];refine .inl ((r2 (by omega)).trans ?_);rw[gb.2];exact c4
 generalize VG:(aj.list aY::(T++[d2 kd dp S.ag.length (S.ag.length+1)]))=kC at *
 have aK:=rZ (P:=P) (T:=kC) n ao (s1.con i.aw) (by have:=s1.aP;omega)
 have bw:=pK (P:=P) (T:=kC) (k:=0) UY rfl aC (by have:=s2.aP;omega)
 have da:=uV (P:=P) (T:=kC) (S:=((S.l1.ay.ay).l1.l1.a6 n).bg 76 .none 0) (l:=S.ag.length+1) (.inl ⟨d+1,cL,.inl (by rw[gb.2];exact dN)⟩) (by rw[gb.1];exact a4)
 have iD:=Vh (P:=P) (T:=kC) gG f4 (by have:=s4.aP;omega)
 have jC:=Vp (P:=P) (T:=kC) t k4 (s5.con i.aw) (by have:=s5.aP;omega)
 subst VG
 have j:Inv P (fg S t n) aY (T++[d2 kd dp S.ag.length (S.ag.length+1)]) (d+1) (cQ b+2):=by
  refine ⟨i.hx,w.dep,s0.con i.aw,s0.len i.he,s0.kv i.bR,by have:=s0.aP;omega,by have:=i.hl;omega,?_⟩
  have:23+(T++[d2 kd dp S.ag.length (S.ag.length+1)]).length=24+T.length:=by simp;omega
  rw[this];exact eI
 have u0:=It bt h (c:=T.length+23) (by simp;omega) j
 have ml:=gL b (fg S t n) (d+1) w.dep (s0.len i.he)
 obtain ⟨dJ,eu,kO⟩:=w.keep ml.st
 have ko:(comp b (fg S t n)).aP+4<aL:=by have:=ml.st.aP;have:=s0.aP;omega
 have pV:=BQ (P:=P) (T:=.list aY::((T++[d2 kd dp S.ag.length (S.ag.length+1)])++[.list [a7 b]])) (S:=comp b (fg S t n)) (l:=S.ag.length+1) (d:=d+1) (ml.dep.elim (fun q=>.inl ⟨q,.inr kO⟩) .inr) (by omega)
 have xy:=(r5 (S:=comp b (fg S t n)) (l:=S.ag.length+1) (i:=S.ag.length) (by omega)).trans eu
 have B7:=uV (P:=P) (T:=.list aY::((T++[d2 kd dp S.ag.length (S.ag.length+1)])++[.list [a7 b]])) (S:=(comp b (fg S t n)).jmp (S.ag.length+1)) (l:=S.ag.length) (.inr ⟨kz ml.dep,_,xy⟩) (by rw[oz];exact dJ)
 have B8:=xK (P:=P) (T:=.list aY::((T++[d2 kd dp S.ag.length (S.ag.length+1)])++[.list [a7 b]])) (S:=((comp b (fg S t n)).jmp (S.ag.length+1)).cZ S.ag.length) (d:=d+1) (by rw[k8 (kz ml.dep) xy];rfl)
  (by have:=((av.jmp (n:=0) (S:=comp b (fg S t n)) (l:=S.ag.length+1) (Nat.zero_le _)).trans (av.cZ (l:=S.ag.length) (Nat.zero_le _))).aP;omega)
 have i4:∀ aT:au,(mk P aT (.list aY::(T++[d2 kd dp S.ag.length (S.ag.length+1)])))[T.length+23]?=some (d2 kd dp S.ag.length (S.ag.length+1)):=fun aT=>fc (H:=mk P aT (.list aY::T))
 have g1:∀ aT:au,(mk P aT (.list aY::((T++[d2 kd dp S.ag.length (S.ag.length+1)])++[.list [a7 b]])))[T.length+23]?=some (d2 kd dp S.ag.length (S.ag.length+1)):=fun aT=>cY (i4 aT)
 exact aq.ft (fi:=⟨ti,[bk,dU,pO],[],zW.1,none,false⟩) (vs:=[.ref 9,.aN [c7 t,cB n,a7 b],.ref (T.length+23)]) (cN:=[(bk,.ref 9),(dU,.aN [c7 t,cB n,a7 b]),(pO,.ref (T.length+23))]) (by kernel_rfl) rfl (by kernel_rfl) rfl (by kernel_rfl) <|
  ab.cons (bJ:=B6 t n (a7 b) (.ref (T.length+23))) I <|
  ab.cons (Gt.mono (by omega) (VE t n)) <|
  ab.cons (ah.expr (ai.a0 (v:=.ref 9) (first:=[.ref 9]) (vs:=[cB n]) I rfl I (aK.mono (by omega)))) <|
  ab.cons (ah.expr (ai.a0 (v:=.ref 11) (first:=[.ref 11]) (vs:=[.int 76]) I rfl I (bw.mono (by omega)))) <|
  ab.cons (ah.expr (ai.a0 (v:=.ref 11) (first:=[.ref 11]) (vs:=[.int (S.ag.length+1:Nat)]) I rfl (GE.cons (ai.attr (v:=.ref (T.length+23)) I (xZ (i4 _))) GE.nil) (da.mono (by omega)))) <|
  ab.cons (ah.expr (ai.a0 (v:=.ref 11) (first:=[.ref 11]) (vs:=[.int 77,.int S.ag.length]) I rfl (GE.cons (v:=.int 77) I (GE.cons (ai.attr (v:=.ref (T.length+23)) I (x1 (i4 _))) GE.nil)) (iD.mono (by omega)))) <|
  ab.cons (ah.expr (ai.a0 (v:=.ref 9) (first:=[.ref 9]) (vs:=[c7 t]) I rfl I (jC.mono (by omega)))) <|
  ab.cons (ah.expr (ai.a0 (v:=.ref 9) (first:=[.ref 9]) (vs:=[a7 b,.ref (T.length+23)]) I rfl I (u0.mono (by omega)))) <|
  ab.cons (ah.expr (ai.a0 (v:=.ref 11) (first:=[.ref 11]) (vs:=[.int 58,.int (S.ag.length+1:Nat)]) I rfl (GE.cons (v:=.int 58) I (GE.cons (ai.attr (v:=.ref (T.length+23)) I (xZ (g1 _))) GE.nil)) (pV.mono (by omega)))) <|
  ab.cons (ah.expr (ai.a0 (v:=.ref 11) (first:=[.ref 11]) (vs:=[.int S.ag.length]) I rfl (GE.cons (ai.attr (v:=.ref (T.length+23)) I (x1 (g1 _))) GE.nil) (B7.mono (by omega)))) <|
  ab.one (ah.expr (ai.a0 (v:=.ref 11) (first:=[.ref 11]) (vs:=[.int 6]) I rfl I (B8.mono (by omega))))
end
section
variable {P:Pre}{S aT:au}{X hS T:List aj}{aY:List V}{d:Int}{D k l l1 l2 c:Nat}{kd dp v w nodes sc:V}{ls:List (Str×V)}{b:bF}{H:List aj}{f:cD}{y:aj}
theorem VH (t:dF) (n:b9) (bt:jR b) (h:fV b=true):mh (.fin t n b):=fun P S aY T d i=>by
 have ge:=mj b
 have bZ:S.aP+(cQ b+80)+60<aL:=i.ak
 have cI:bV (.fin t n b)=bV b+10:=rfl
 have g4:Inv P S aY (T++[.list []]) d (cQ b+60):=(i.mono (m:=cQ b+60) (by show _≤cQ b+80;omega)).push rfl
 have aS:cE (24+(T++[aj.list []]).length) (d2 (.str uW) (.ref (T.length+23)) S.ag.length (S.ag.length+1))=true:=by
  show (true&&(Nat.blt _ _&&(true&&(true&&true))))=true
  rw[Nat.blt_eq.mpr (by simp;omega)];rfl
 have eI:=uX g4.eI aS
 have B5:23+((T++[aj.list []])++[d2 (.str uW) (.ref (T.length+23)) S.ag.length (S.ag.length+1)]).length=24+(T++[aj.list []]).length:=by simp;omega
 have uY:=eI
 rw[B5] at uY
 have uZ:=VF t n bt h g4 uY
 refine ⟨(([.list []]++[d2 (.str uW) (.ref (T.length+23)) S.ag.length (S.ag.length+1)])++[.list [a7 b]]),?_,?_⟩
 ·rw[←List.append_assoc,←List.append_assoc]
  exact uX eI (mf (Nat.zero_le _) _ (by show (cq 0 (a7 b)&&true)=true;rw[jS b];rfl))
 ·rw[←List.append_assoc,←List.append_assoc,cI]
  have jv:aq (bV b+6) (.obj (.ref 747)) [.ref 9,eo nc [c7 t,cB n,a7 b] .none,.ref (T.length+23)] (mk P S.l1 (.list aY::(T++[.list []]))) .none (mk P (comp (.fin t n b) S) (.list aY::(((T++[.list []])++[d2 (.str uW) (.ref (T.length+23)) S.ag.length (S.ag.length+1)])++[.list [a7 b]]))) :=
   Iv (D:=bV b+1) (f:=.ret .none) (ls:=(Iu nc [c7 t,cB n,a7 b] (eo nc [c7 t,cB n,a7 b] .none) (.ref (T.length+23)) S.ag.length (S.ag.length+1)).ls) (S:=S.l1) (by show S.aP+10<aL;omega) rfl <|
    ab.stop (ah.cm I (ab.cons (ah.expr (ai.a0 (v:=.ref 9) (first:=[.ref 9]) (vs:=[.aN [c7 t,cB n,a7 b],.ref ((T++[aj.list []]).length+23)]) I rfl
     (GE.cons I (GE.cons (ai.bI (g:=.obj (.ref 506)) (vs:=[.str uW,.ref (T.length+23),.int S.ag.length,.int (S.ag.length+1:Nat)]) I I ((Ij (H:=mk P (S.l1.ay.ay).l1 (.list aY::(T++[.list []]))) _ _ _ _).mono (by omega))) GE.nil)) (uZ.mono (by omega))))
     (ab.ret I))) (by intro z;cases z)
  exact (uU (D:=bV b+4) (kd:=nc) (ps:=[c7 t,cB n,a7 b]) (sc:=.none) <|
   ab.bx I<|ab.bx I<|ab.bx I<|ab.bx I<|ab.eO I <|
   ab.one (ah.expr (ai.a0 (v:=.ref 9) (first:=[.ref 9]) (vs:=[eo nc [c7 t,cB n,a7 b] .none,.ref (T.length+23)]) I rfl (GE.cons I (GE.cons (ai.list (H1:=mk P S.l1 (.list aY::T)) GE.nil) GE.nil)) (jv.mono (by omega))))).mono (by omega)
end
noncomputable abbrev oE:Str:=⟨⟨[97,104,101,97,100]⟩⟩
noncomputable abbrev Iw:Str:=⟨⟨[105,115,95,101,109,112,116,121]⟩⟩
section
variable {P:Pre}{S aT:au}{X hS T:List aj}{aY:List V}{d:Int}{D k l l1 l2 c:Nat}{kd dp v w nodes sc:V}{ls:List (Str×V)}{b:bF}{H:List aj}{f:cD}{y:aj}{x z:Int}
theorem Iy (h:S.dep=.int d∨S.dep=.none) (he:S.bB.length=S.ag.length) (ak:S.aP<aL):aq 6 (.obj (.ref 410)) [.ref 11] (mk P S T) (.int S.ag.length) (mk P S.mark T):=by
 unfold au.mark
 rcases h with h |h
 ·rw[fH (S:=S.ay) h];exact UJ h he ak
 ·rw[k8 (S:=S.ay) h (uF S he)];exact UK h he ak
theorem Iz {vs:List V}:uS P X (.aN vs) (.aN vs) vs:=⟨fun _=>rfl,fun _ _ _=>rfl,fun _=>rfl⟩
theorem u1 (b c:bF):a7 (.dg b c)=eo gK [.aN (bE b),.str dE,.aN (bE c),.none] eb:=by
 have h:∀ v:V,(match v with |.aN vs=>.aN vs |v=>.aN [v])=V.aN (match v with |.aN vs=>vs |v=>[v]):=fun v=>by cases v <;> rfl
 show eo gK [match a7 b with |.aN vs=>.aN vs |v=>.aN [v],.str dE,match a7 c with |.aN vs=>.aN vs |v=>.aN [v],.none] eb=_
 rw[h,h];rfl
theorem IA (hd:S.dep=.int d∧S.fits l d∨S.dep=.none) (ak:S.aP<aL):aq 6 (.obj (.ref 817)) [.ref 9,.none,v,.int l] (mk P S X) .none (mk P (S.jmp l) X) :=
 aq.proc (fi:=⟨wb,_,_,Eg.1,none,false⟩) rfl rfl (by kernel_rfl) rfl <|
  ab.cons (ah.iff I ab.nil) <|
  ab.one (ah.expr (ai.a0 (v:=.ref 11) (first:=[.ref 11]) (vs:=[.int 58,.int l]) I rfl I (BQ hd ak)))
theorem VI:aq 2 (.obj (.ref 810)) [.ref 9] (mk P S X) .none (mk P S X):=Gt.run 30 fun N n aa=>by kernel_rfl
theorem VJ {b c:bF}(bt:jR c) {cv:au}(aB:cv.dep=.none) (hl:cv.bB.length=cv.ag.length) (bZ:cv.aP+20<aL)
 (i:Inv P ((((((cv.ay.fG l1 l2 cv.ag.length d).enter cv.ag.length (d+1)).bg 17 (.int 3) 0).bg 14 (.int 3) 0)).pop) aY T d (cQ c)) :
 aq (bV c+5) (.obj (.ref 824)) [.ref 9,a7 (.dg b c),.int l1,.int l2,.int d,.none] (mk P cv (.list aY::T)) .none
  (mk P (comp c ((((((cv.ay.fG l1 l2 cv.ag.length d).enter cv.ag.length (d+1)).bg 17 (.int 3) 0).bg 14 (.int 3) 0)).pop)) (.list aY::T)):=by
 have ge:=mj c
 rw[u1]
 have dj:cv.ay.aP<aL:=by unfold au.aP au.ay at *;simp;omega
 have s2:av 0 cv ((cv.ay.fG l1 l2 cv.ag.length d).enter cv.ag.length (d+1)) 3:=(((av.ay (Nat.zero_le _) hl).trans av.fG).trans (av.enter (Nat.zero_le _))).more (by omega)
 have s3:av 0 cv (((cv.ay.fG l1 l2 cv.ag.length d).enter cv.ag.length (d+1)).bg 17 (.int 3) 0) 5:=s2.trans (av.bg rfl)
 have s4:av 0 cv ((((cv.ay.fG l1 l2 cv.ag.length d).enter cv.ag.length (d+1)).bg 17 (.int 3) 0).bg 14 (.int 3) 0) 7:=s3.trans (av.bg rfl)
 have aK:=pH (P:=P) (S:=cv) (T:=.list aY::T) (by omega)
 have bw:aq 2 (.obj (.ref 276)) [.ref 12,.int l1,.int l2,.int cv.ag.length,.int d,.bool false] (mk P cv.ay (.list aY::T)) .none (mk P (cv.ay.fG l1 l2 cv.ag.length d) (.list aY::T)):=UM dj
 have da:aq 6 (.obj (.ref 403)) [.ref 11,.int cv.ag.length,.int (d+1)] (mk P (cv.ay.fG l1 l2 cv.ag.length d) (.list aY::T)) .none (mk P ((cv.ay.fG l1 l2 cv.ag.length d).enter cv.ag.length (d+1)) (.list aY::T)) :=
  UI (S:=cv.ay.fG l1 l2 cv.ag.length d) aB (uE cv) (uF cv hl)
 have kx:((cv.ay.fG l1 l2 cv.ag.length d).enter cv.ag.length (d+1)).dep=.int (d+1):=rfl
 have iD:=xG (P:=P) (T:=.list aY::T) (a:=.int 3) (k:=0) UP rfl kx (by have:=s2.aP;omega)
 have xN:(((cv.ay.fG l1 l2 cv.ag.length d).enter cv.ag.length (d+1)).bg 17 (.int 3) 0).dep=.int (d+1+0):=rfl
 have jC:=H5 (P:=P) (T:=.list aY::T) xN (by have:=s3.aP;omega)
 have VK:((((cv.ay.fG l1 l2 cv.ag.length d).enter cv.ag.length (d+1)).bg 17 (.int 3) 0).bg 14 (.int 3) 0).dep=.int (d+1+0+0):=rfl
 have u0:=xK (P:=P) (T:=.list aY::T) VK (by have:=s4.aP;omega)
 have pV:=bt P _ aY T d (.aN (bE c)) (.aN (bE c)) i Iz
 let N:=eo gK [.aN (bE b),.str dE,.aN (bE c),.none] eb
 let L:List (Str×V):=[(bk,.ref 9),(cJ,N),(nf,.int l1),(pQ,.int l2),(jM,.int d),(oE,.none),(xJ,.int cv.ag.length),(fF,eb)]
 let r9:List (Str×V):=[(bk,.ref 9),(cJ,N),(nf,.int l1),(pQ,.int l2),(jM,.int d),(oE,.none),(xJ,.int cv.ag.length),(fF,eb),(jN,pR)]
 let ni:List (Str×V):=[(bk,.ref 9),(cJ,N),(nf,.int l1),(pQ,.int l2),(jM,.int d),(oE,.none),(xJ,.int cv.ag.length),(fF,eb),(jN,pR),(⟨⟨[107,101,112,116]⟩⟩,eb)]
 exact aq.ft (fi:=⟨wc,[bk,cJ,nf,pQ,jM,oE],[],Eh.1,none,false⟩) (vs:=[.ref 9,N,.int l1,.int l2,.int d,.none]) (cN:=[(bk,.ref 9),(cJ,N),(nf,.int l1),(pQ,.int l2),(jM,.int d),(oE,.none)]) (by kernel_rfl) rfl (by kernel_rfl) rfl (by kernel_rfl) <|
  ab.cons (bJ:=L) (ah.me (xs:=[xJ,fF]) (us:=[.int cv.ag.length,eb]) (ai.tup (GE.cons (ai.a0 (v:=.ref 11) (first:=[.ref 11]) (vs:=[]) I rfl I (aK.mono (by omega))) (GE.cons I GE.nil))) (by kernel_rfl) (by kernel_rfl) (by kernel_rfl)) <|
  ab.cons (ah.expr (ai.a0 (v:=.ref 12) (first:=[.ref 12]) (vs:=[.int l1,.int l2,.int cv.ag.length,.int d,.bool false]) I rfl I (bw.mono (by omega)))) <|
  ab.cons (ah.expr (ai.a0 (v:=.ref 11) (first:=[.ref 11]) (vs:=[.int cv.ag.length,.int (d+1)]) I rfl I (da.mono (by omega)))) <|
  ab.cons (bJ:=r9) I <|
  ab.cons (ah.cm I (ab.one (ah.expr (ai.a0 (v:=.ref 11) (first:=[.ref 11]) (vs:=[.int 17,.int 3]) I rfl I (iD.mono (by omega)))))) <|
  ab.cons (ah.expr (ai.a0 (v:=.ref 9) (first:=[.ref 9]) (vs:=[pR]) I rfl I (jC.mono (by omega)))) <|
  ab.cons (ah.expr (ai.a0 (v:=.ref 11) (first:=[.ref 11]) (vs:=[.int 6]) I rfl I (u0.mono (by omega)))) <|
  ab.cons (ah.iff I ab.nil) <|
  ab.cons (bJ:=ni) I <|
  ab.cons (bJ:=ni) I <|
  ab.cons (ah.expr (ai.a0 (v:=.ref 9) (first:=[.ref 9]) (vs:=[.aN (bE c)]) I rfl I (pV.mono (by omega)))) <|
  ab.one (bJ:=ni) I
end
section
variable {P:Pre}{S aT:au}{X hS T:List aj}{aY:List V}{d:Int}{D k l l1 l2:Nat}{kd dp v w nodes sc:V}{ls:List (Str×V)}{b c:bF}{H:List aj}{f:cD}{y:aj}{x z:Int}
theorem VL (h:x≠z):dX .Eq (.int x) (.int z) ⟨H,True⟩=some (false,⟨H,True⟩):=by
 exact xB (decide_eq_false h)
theorem VM {n:Nat}{dt VN N:V}(hd:S.dep=.int d):ai (n+6) ⟨tj.scope,[],none,[(bk,.ref 9),(cJ,N),(nd,dt),(ei,.str dE),(jL,VN),(hQ,.none)]⟩ (rQ (m7 (eH (bQ zX.1 1))) 2) (mk P S T) (.int d) (mk P S T):=by
 obtain ⟨_,_,_,_,_,_,_,_,_⟩:=S
 cases hd
 exact I
theorem VO (bt:jR b) (aw:jR c) (i:Inv P S aY T d (cQ b+cQ c+60)) :
 aq (max (bV b) (bV c)+7) (.obj (.ref 803)) [.ref 9,a7 (.dg b c)] (mk P S.l1 (.list aY::T)) .none (mk P (comp (.dg b c) S) (.list aY::T)):=by
 have ak:=i.ak
 have ZE:=mj b
 have BX:bV b≤max (bV b) (bV c):=Nat.le_max_left _ _
 have lW:bV c≤max (bV b) (bV c):=Nat.le_max_right _ _
 obtain ⟨w,s0,aS,bf⟩:=xU i.hd i.he
 have mi:=gL b (cF S) d w.dep (s0.len i.he)
 have s1:av S.ag.length S (comp b (cF S)) (6+cQ b):=s0.trans (mi.st.less (by rw[bf];omega))
 have o:=mi.st.old S.ag.length (by rw[bf];omega)
 have l1:S.ag.length<(comp b (cF S)).ag.length:=Nat.lt_of_lt_of_le w.len mi.st.eT
 obtain ⟨w',s2⟩:=xV i.hd (s1.len i.he) mi.dep l1 (o.1.trans w.ao) (o.2.trans aS)
 have s3:=s1.trans s2
 have sa:=gL c (gx S (comp b (cF S))) d w'.dep (s3.len i.he)
 have s4:=s3.trans (sa.st.less (Nat.le_of_lt w'.len))
 have o':=sa.st.old S.ag.length w'.len
 have IB:(comp c (gx S (comp b (cF S)))).fits S.ag.length d:=by
  have:=w'.aC
  unfold au.fits at this ⊢
  rw[o'.2];exact this
 have md:S.ag.length<(comp c (gx S (comp b (cF S)))).bB.length:=by
  rw[s4.len i.he];exact Nat.lt_of_lt_of_le w'.len sa.st.eT
 -- VP ZF on VP way
 have nH:av S.ag.length S S.l1.ay.ay 4:=(av.l1.trans (av.ay (Nat.le_refl _) i.he)).trans (av.ay (S:=S.l1.ay) (by rw[ky];exact Nat.le_succ _) (by unfold au.ay;simp;exact i.he)) |>.more (by omega)
 have aK:=pH (P:=P) (S:=S.l1) (T:=.list aY::T) (by show S.aP<aL;omega)
 have bw:=pH (P:=P) (S:=S.l1.ay) (T:=.list aY::T) (by have:=(av.ay (n:=0) (S:=S.l1) (Nat.zero_le _) i.he).aP;have:S.l1.aP=S.aP:=rfl;omega)
 rw[ky] at bw
 have ib:S.l1.ay.ay.ag.length=S.ag.length+2:=by rw[ky,ky];rfl
 have da:=Iy (P:=P) (S:=S.l1.ay.ay) (T:=.list aY::T) (d:=d) (.inl i.hd) (nH.len i.he) (by have:=nH.aP;omega)
 rw[ib] at da
 have VQ:Inv P (cF S) aY T d (cQ b):=⟨i.hx,w.dep,s0.con i.aw,s0.len i.he,s0.kv i.bR,by have:=s0.aP;omega,by have:=i.hl;omega,i.eI⟩
 have iD:=bt P (cF S) aY T d (.aN (bE b)) (.aN (bE b)) VQ Iz
 have pz:=s1.len i.he
 have jC:=Iy (P:=P) (S:=comp b (cF S)) (T:=.list aY::T) mi.dep pz (by have:=s1.aP;omega)
 have k9:=BV mi.dep pz
 obtain ⟨e9,dR⟩:=BW l1 pz
 have kp:=av.mark (n:=S.ag.length) (Nat.le_of_lt l1) pz
 have IC:(comp b (cF S)).mark.dep=.int d∨(comp b (cF S)).mark.dep=.none:=by rw[k9];exact mi.dep
 have u0:=IA (P:=P) (X:=.list aY::T) (S:=(comp b (cF S)).mark) (l:=S.ag.length) (d:=d) (v:=.int (S.ag.length+1:Nat)) (IC.elim (fun q=>.inl ⟨q,.inl (dR.trans (o.2.trans aS))⟩) .inr) (by have:=kp.aP;have:=s1.aP;omega)
 have r6:av S.ag.length S ((comp b (cF S)).mark.jmp S.ag.length) (cQ b+12):=((s1.trans kp).trans (av.jmp (Nat.le_refl _))).more (by omega)
 have gw:S.gw=d:=by unfold au.gw;rw[i.hd]
 have ID:Inv P (gx S (comp b (cF S))) aY T d (cQ c):=⟨i.hx,w'.dep,s3.con i.aw,s3.len i.he,s3.kv i.bR,by have:=s3.aP;omega,by have:=i.hl;omega,i.eI⟩
 have ao:gx S (comp b (cF S))=((((((comp b (cF S)).mark.jmp S.ag.length).ay.fG (S.ag.length+2) (comp b (cF S)).ag.length ((comp b (cF S)).mark.jmp S.ag.length).ag.length d).enter ((comp b (cF S)).mark.jmp S.ag.length).ag.length (d+1)).bg 17 (.int 3) 0).bg 14 (.int 3) 0).pop:=by
  unfold gx;rw[gw]
 rw[ao] at ID
 have pV:=VJ (b:=b) (l1:=S.ag.length+2) (l2:=(comp b (cF S)).ag.length) aw (kz IC) (r6.len i.he) (by have:=r6.aP;omega) ID
 rw[←ao] at pV
 have B7:=IA (P:=P) (X:=.list aY::T) (S:=comp c (gx S (comp b (cF S)))) (l:=S.ag.length) (d:=d) (v:=.int (S.ag.length+1:Nat)) (sa.dep.elim (fun q=>.inl ⟨q,IB⟩) .inr) (by have:=s4.aP;omega)
 have B8:=uV (P:=P) (T:=.list aY::T) (S:=(comp c (gx S (comp b (cF S)))).jmp S.ag.length) (l:=S.ag.length) (.inr ⟨kz sa.dep,(Ie sa.dep IB md).elim (fun h=>⟨_,h⟩) fun h=>⟨_,h⟩⟩) (by rw[oz];exact o'.1.trans w'.ao)
 have ne:(((comp b (cF S)).mark.aO.length:Nat):Int)≠((cF S).aO.length:Nat):=by
  have:=mi.lt;have:=kp.i6;omega
 rw[u1] at pV ⊢
 let N:=eo gK [.aN (bE b),.str dE,.aN (bE c),.none] eb
 let VR:List (Str×V):=[(bk,.ref 9),(cJ,N),(nd,.aN (bE b)),(ei,.str dE),(jL,.aN (bE c)),(hQ,.none)]
 let r9:List (Str×V):=[(bk,.ref 9),(cJ,N),(nd,.aN (bE b)),(ei,.str dE),(jL,.aN (bE c)),(hQ,.none),(pP,.int S.ag.length),(uH,.int (S.ag.length+1:Nat)),(jM,.int d)]
 let ni:List (Str×V):=[(bk,.ref 9),(cJ,N),(nd,.aN (bE b)),(ei,.str dE),(jL,.aN (bE c)),(hQ,.none),(pP,.int S.ag.length),(uH,.int (S.ag.length+1:Nat)),(jM,.int d),(oE,.none)]
 let VS:List (Str×V):=[(bk,.ref 9),(cJ,N),(nd,.aN (bE b)),(ei,.str dE),(jL,.aN (bE c)),(hQ,.none),(pP,.int S.ag.length),(uH,.int (S.ag.length+1:Nat)),(jM,.int d),(oE,.none),(nf,.int (S.ag.length+2:Nat)),(iL,.int (cF S).aO.length)]
 let VT:List (Str×V):=[(bk,.ref 9),(cJ,N),(nd,.aN (bE b)),(ei,.str dE),(jL,.aN (bE c)),(hQ,.none),(pP,.int S.ag.length),(uH,.int (S.ag.length+1:Nat)),(jM,.int d),(oE,.none),(nf,.int (S.ag.length+2:Nat)),(iL,.int (cF S).aO.length),(pQ,.int (comp b (cF S)).ag.length),(Iw,.bool false)]
 exact aq.ft (fi:=⟨tj,[bk,cJ],[],zX.1,none,false⟩) (vs:=[.ref 9,N]) (cN:=[(bk,.ref 9),(cJ,N)]) (by kernel_rfl) rfl (by kernel_rfl) rfl (by kernel_rfl) <|
  ab.cons (bJ:=VR) I <|
  ab.cons (bJ:=r9) (ah.me (xs:=[pP,uH,jM]) (us:=[.int S.ag.length,.int (S.ag.length+1:Nat),.int d]) (ai.tup (GE.cons (ai.a0 (v:=.ref 11) (first:=[.ref 11]) (vs:=[]) I rfl I (aK.mono (by omega))) (GE.cons (ai.a0 (v:=.ref 11) (first:=[.ref 11]) (vs:=[]) I rfl I (bw.mono (by omega))) (GE.cons (VM (S:=S.l1.ay.ay) i.hd) GE.nil)))) (by kernel_rfl) (by kernel_rfl) (by kernel_rfl)) <|
  ab.cons (bJ:=ni) (ah.assign (v:=.none) (ai.a0 (v:=.ref 9) (first:=[.ref 9]) (vs:=[]) I rfl I (VI.mono (by omega))) (bq.name (by kernel_rfl))) <|
  ab.cons (bJ:=VS) (ah.me (xs:=[nf,iL]) (us:=[.int (S.ag.length+2:Nat),.int (cF S).aO.length]) (ai.tup (GE.cons (ai.a0 (v:=.ref 11) (first:=[.ref 11]) (vs:=[]) I rfl I (da.mono (by omega))) (GE.cons (ai.a0 (v:=.ref 12) (first:=[.ref 12]) (vs:=[]) I rfl I (BG.mono (by omega))) GE.nil))) (by kernel_rfl) (by kernel_rfl) (by kernel_rfl)) <|
  ab.cons (ah.iff I ab.nil) <|
  ab.cons (ah.expr (ai.a0 (v:=.ref 9) (first:=[.ref 9]) (vs:=[.aN (bE b)]) I rfl I (iD.mono (by omega)))) <|
  ab.cons (bJ:=VT) (ah.me (xs:=[pQ,Iw]) (us:=[.int (comp b (cF S)).ag.length,.bool false]) (ai.tup (GE.cons (ai.a0 (v:=.ref 11) (first:=[.ref 11]) (vs:=[]) I rfl I (jC.mono (by omega))) (GE.cons (ai.cmp (ai.a0 (v:=.ref 12) (first:=[.ref 12]) (vs:=[]) I rfl I (BG.mono (by omega))) I (VL ne)) GE.nil))) (by kernel_rfl) (by kernel_rfl) (by kernel_rfl)) <|
  ab.cons (ah.expr (ai.a0 (v:=.ref 9) (first:=[.ref 9]) (vs:=[.none,.int (S.ag.length+1:Nat),.int S.ag.length]) I rfl I (u0.mono (by omega)))) <|
  ab.cons (ah.cm I (ab.cons (ah.expr (ai.a0 (v:=.ref 9) (first:=[.ref 9]) (vs:=[N,.int (S.ag.length+2:Nat),.int (comp b (cF S)).ag.length,.int d,.none]) I rfl I (pV.mono (by omega)))) <|
   ab.one (ah.expr (ai.a0 (v:=.ref 9) (first:=[.ref 9]) (vs:=[.none,.int (S.ag.length+1:Nat),.int S.ag.length]) I rfl I (B7.mono (by omega)))))) <|
  ab.cons (ah.iff I ab.nil) <|
  ab.one (ah.expr (ai.a0 (v:=.ref 11) (first:=[.ref 11]) (vs:=[.int S.ag.length]) I rfl I (B8.mono (by omega))))
end
theorem VU {b c:bF}(bt:jR b) (aw:jR c):mh (.dg b c):=fun P S aY T d i=>by
 have g:=VO bt aw i
 refine ⟨[],xY i.eI,?_⟩
 rw[List.append_nil]
 show aq (max (bV b) (bV c)+10) _ _ _ _ _
 rw[u1] at g ⊢
 exact (uU (D:=max (bV b) (bV c)+6) (kd:=gK) (ps:=[.aN (bE b),.str dE,.aN (bE c),.none]) (sc:=eb) <|
  ab.bx I<|ab.bx I<|ab.bx I<|ab.bx I<|ab.bx I<|ab.bx I<|ab.bx I<|ab.bx I<|ab.bx I<|ab.bx I<|ab.eO I <|
  ab.one (ah.expr (ai.a0 (v:=.ref 9) (first:=[.ref 9]) (vs:=[eo gK [.aN (bE b),.str dE,.aN (bE c),.none] eb]) I rfl I (g.mono (by omega))))).mono (by omega)
theorem pW:∀ t:bF,wf t=true→(fV t=true→mh t)∧jR t
 |.b7 n,_=>⟨fun _=>Ip n,r7 rfl (Ip n)⟩
 |.el,_=>⟨fun _=>Iq,r7 rfl Iq⟩
 |.ff k,_=>⟨fun _=>Ir k,r7 rfl (Ir k)⟩
 |.du n b,h=>by
  obtain ⟨h1,af⟩:=Bool.and_eq_true_iff.mp h
  have s:=VC n (pW b af).2 h1
  exact ⟨fun _=>s,r7 rfl s⟩
 |.fin t n b,h=>by
  obtain ⟨h1,af⟩:=Bool.and_eq_true_iff.mp h
  have s:=VH t n (pW b af).2 h1
  exact ⟨fun _=>s,r7 rfl s⟩
 |.dg b c,h=>by
  obtain ⟨h1,af⟩:=Bool.and_eq_true_iff.mp h
  have s:=VU (pW b h1).2 (pW c af).2
  exact ⟨fun _=>s,r7 rfl s⟩
 |.two a b,h=>by
  obtain ⟨h0,aB⟩:=Bool.and_eq_true_iff.mp h
  obtain ⟨h1,af⟩:=Bool.and_eq_true_iff.mp h0
  obtain ⟨bu,dB⟩:=Bool.and_eq_true_iff.mp aB
  exact ⟨(fun q=>Bool.noConfusion q),Vw ((pW a bu).1 h1) ((pW b dB).1 af)⟩
structure bG where
 b:Bool
 l:List Int
 n:Int
 m:Int
noncomputable def fw:List (Nat×Nat):=match (e2 60).cl 10 (.obj (.ref 890)) [] ⟨[.tab "_law_view.<locals>.<lambda>" []],True⟩ with
 |some (_,⟨.tab _ r::_,_⟩)=>r
 |_=>[]
noncomputable def aJ (A B:aj) (D:bG) (T:List aj):List aj :=
 .tab "_law_view.<locals>.<lambda>" (match D.b with |true=>fw |false=>[])::.tab "law.<locals>.<lambda>" []::.cell (some (.ref 6))::A::.list (D.l.map V.int)::B::.list [.ref 4,.int D.n,.int D.m]::T
noncomputable def bG.take (D:bG) (w:Int):Int×bG:=match D.l with
 |a::r=>((if a<0 then -a else a).fmod w,⟨D.b,r,D.n+1,D.m⟩)
 |[]=>((7 * (D.n+1)+(D.n+1).fdiv 3+D.m).fmod w,⟨D.b,[],D.n+1,D.m⟩)
noncomputable abbrev gM:Str:=⟨⟨[98,111,120]⟩⟩
noncomputable abbrev B9:Str:=⟨⟨[119,105,100,101]⟩⟩
noncomputable abbrev IE:Str:=⟨⟨[109,97,110,121]⟩⟩
noncomputable abbrev sb:Str:=⟨⟨[102,111,114,109]⟩⟩
noncomputable abbrev nj:Str:=⟨⟨[100,101,101,112]⟩⟩
noncomputable abbrev jT:Str:=⟨⟨[116,117,114,110]⟩⟩
section
variable {A B:aj}{D:bG}{T:List aj}{w:Int}
theorem oF (hw:0<w):aq 3 (.obj (.ref 864)) [.ref 6,.int w] (aJ A B D T) (.int (D.take w).1) (aJ A B (D.take w).2 T):=by
 obtain ⟨b,l,n,m⟩:=D
 cases l with
 |nil=>exact Gt.k7 40 (fun aa=>(aa∧0<(3:Int)∧(3:Int)<1000)∧0<w) (fun N n aa=>by kernel_rfl) fun aa o=>⟨⟨o,by omega,by omega⟩,hw⟩
 |cons a r =>
  have aw:∀ H:List aj,dX .Gt (.int ((((a::r).map V.int).length:Nat):Int)) (.int 0) ⟨H,True⟩=some (true,⟨H,True⟩):=fun H=>by
   have:(0:Int)<(((a::r).map V.int).length:Nat):=by simp
   exact xB (decide_eq_true this)
  exact aq.hP (fi:=⟨we,[gM,B9],[],Ej.1,none,false⟩) (vs:=[.ref 6,.int w]) (cN:=[(gM,.ref 6),(B9,.int w)]) (by kernel_rfl) rfl (by kernel_rfl) rfl (by kernel_rfl) <|
   ab.cons (H1:=aJ A B ⟨b,a::r,n+1,m⟩ T) (bJ:=[(gM,.ref 6),(B9,.int w)]) ic <|
   ab.stop (ah.cm (GT.cmp I I (aw _)) (ab.ret (ah.ret (Gt.k7 40 (fun aa=>aa∧0<w) (fun N n aa=>by kernel_rfl) fun aa o=>⟨o,hw⟩)))) (by intro z;cases z)
theorem ig (hw:0<w):0≤(D.take w).1∧(D.take w).1<w:=by
 unfold bG.take
 split
 ·exact ⟨Int.fmod_nonneg_of_pos _ hw,Int.fmod_lt_of_pos _ hw⟩
 ·exact ⟨Int.fmod_nonneg_of_pos _ hw,Int.fmod_lt_of_pos _ hw⟩
end
section
variable {d:Nat}{fr:a5}{H H1 H2 H3 Ca:List aj}{e:PySem.Expr}{args:List PySem.Expr}{pos:Pos}{vs:List V}{g b u:V}
theorem VV {R:dO}{n:Nat}{st:ax}(he:(lP e).isNone=true):tK R n fr e args [] pos st=(R.ev n fr e st).bind fun g=>bif calleeOk g.1 then (f6 R n fr args g.2).bind fun z=>R.cl n g.1 z.1 z.2 else none:=l7 (Option.isNone_iff_eq_none.mp he)
theorem VW {R:dO}{n:Nat}{st:ax}(hf:nK fr e args=true):pe R n fr (.Call e args [] pos) st=(tK R n fr e args [] pos st).bind fun x=>fin st.H.length x.1 x.2:=eC hf
theorem ai.IF (hf:nK fr e args=true) (h:ai d fr e H g H1) (b2:GE d fr args H1 vs H2) (aw:aq d g vs H2 b H3) (ar:∀ aa,fin H.length b ⟨H3,aa⟩=some (u,⟨Ca,aa⟩))
 (he:(lP e).isNone=true:=by kernel_rfl)
 (cP:calleeOk g=true:=by kernel_rfl):ai d fr (.Call e args [] pos) H u Ca:=fun aa o=>by
 obtain ⟨e5,e9,x⟩:=h aa o
 obtain ⟨eg,dR,y⟩:=b2 e5 e9
 obtain ⟨ou,fO,z⟩:=aw eg dR
 exact ⟨ou,fO,((x.and y).and z).step fun N n bc a=>(VW hf).trans ((bj ((VV he).trans ((bj a.1.1).trans ((eC cP).trans ((bj a.1.2).trans a.2))))).trans (ar ou))⟩
end
structure ek (A B:aj) (T:List aj):Prop where
 a:cE 7 A=true
 b:cE 7 B=true
 t:T.all (cE (7+T.length))=true
theorem x2 {b:Nat}:∀ l:List Int,dS b (l.map V.int)=true
 |[]=>rfl
 |_::r=>x2 r
theorem oG {A B:aj}{D:bG}{T:List aj}:(aJ A B D T).length=7+T.length:=by unfold aJ;simp;omega
theorem u2 {A B:aj}{D:bG}{T:List aj}(h:ek A B T):(aJ A B D T).all (cE (aJ A B D T).length)=true:=by
 rw[oG]
 have bt:7≤7+T.length:=by omega
 have m:∀ o,cE 7 o=true→cE (7+T.length) o=true:=fun o=>mf bt o
 unfold aJ
 simp only[List.all_cons,Bool.and_eq_true]
 exact ⟨rfl,rfl,m _ rfl,m _ h.a,x2 _,m _ h.b,m _ rfl,h.t⟩
theorem u3 {G:List aj}{b n:Nat}:∀{ps:List V},(∀ v∈ps,isA v=true∧cq 0 v=true)→iz (gF G b (n+1)) ps=some ps
 |[],_=>rfl
 |v::r,h=>m9 (ej (h v (.head _)).1 (nh (Nat.zero_le _) _ (h v (.head _)).2)) (u3 fun u m=>h u (.tail _ m))
section
variable {d:Nat}{fr:a5}{A B:aj}{D D' : bG}{T:List aj}{e:PySem.Expr}{args:List PySem.Expr}{pos:Pos}{ps us:List V}{k:Str}{l:Int}
theorem kD (hf:nK fr e args=true) (h:ai (d+2) fr e (aJ A B D T) (.obj (.ref 853)) (aJ A B D T)) (b2:GE (d+2) fr args (aJ A B D T) [.str k,.int l,.ref (T.length+7)] (aJ A B D' (T++[.list ps]))) (aw:ek A B T) (a3:∀ v∈ps,isA v=true∧cq 0 v=true)
 (he:(lP e).isNone=true:=by kernel_rfl) :
 ai (d+2) fr (.Call e args [] pos) (aJ A B D T) (fe k l ps) (aJ A B D' T) :=
 ai.IF hf h b2 ((xH (H:=aJ A B D' (T++[.list ps])) (.str k) (.int l) (.ref (T.length+7))).mono (by omega)) (fun aa=>H0 (H:=aJ A B D' T) (u2 aw) (u3 a3)) he
theorem IG {J:List aj}(hf:nK fr e args=true) (h:ai (d+2) fr e (aJ A B D T) (.obj (.ref 853)) (aJ A B D T)) (b2:GE (d+2) fr args (aJ A B D T) [.str k,.int l,.ref (aJ A B D' (T++J)).length] (aJ A B D' (T++J)++[.list ps])) (aw:ek A B T) (a3:∀ n b G,b≤7+T.length→b=(aJ A B D' T).length→G=(aJ A B D' (T++J)++[.list ps])++[BN k l (.ref (aJ A B D' (T++J)).length)]→n=5→iz (gF G b (n+1)) ps=some us)
 (he:(lP e).isNone=true:=by kernel_rfl) :
 ai (d+2) fr (.Call e args [] pos) (aJ A B D T) (fe k l us) (aJ A B D' T):=by
 refine ai.IF hf h b2 ((xH (.str k) (.int l) (.ref (aJ A B D' (T++J)).length)).mono (by omega)) (fun aa=>?_) he
 have ao:(aJ A B D T).length=(aJ A B D' T).length:=rfl
 rw[ao]
 have le:(aJ A B D' T).length≤(aJ A B D' (T++J)).length:=by rw[oG,oG];simp
 refine pL (rW (Nat.le_trans le (by simp)) fc (dx (ej rfl rfl) (dx (ej rfl rfl) (dx (ks le (cY fc) (a3 5 _ _ (by rw[oG];exact Nat.le_refl _) rfl rfl rfl)) (dx (ej rfl rfl) rX))))) ?_ (u2 aw)
 show ((aJ A B D' T++J++[aj.list ps])++[_]).take (aJ A B D' T).length=_
 rw[List.append_assoc,List.append_assoc];exact rV
end
noncomputable def e7 (i:Int):b9:=match i with
 |0=>.t
 |1=>.u
 |2=>.e
 |_=>.x
section
variable {A B:aj}{D:bG}{T:List aj}{w:Int}
theorem IH (hw:0<w) (ZG:w≤4) (aw:ek A B T):aq 6 (.obj (.ref 871)) [.ref 6,.int w] (aJ A B D T) (cB (e7 (D.take w).1)) (aJ A B (D.take w).2 T):=by
 obtain ⟨h1,af⟩:=ig (D:=D) hw
 have az:=oF (A:=A) (B:=B) (D:=D) (T:=T++[.list [.str rO,.str rP,.str pD,.str dE]]) hw
 generalize D.take w=q at *
 obtain ⟨i,D'⟩:=q
 dsimp only at h1 af az ⊢
 have cP:∀ H:List aj,H[T.length+7]?=some (.list [.str rO,.str rP,.str pD,.str dE])→jw (.ref (T.length+7)) (.int i) ⟨H,True⟩=some (.str (e7 i).s):=fun H e=>by
  have:i=(0:Nat)∨i=(1:Nat)∨i=(2:Nat)∨i=(3:Nat):=by omega
  rcases this with rfl |rfl |rfl |rfl <;> exact l9 e rfl
 have t1:jw (.ref (T.length+7)) (.int i) ⟨aJ A B D' (T++[.list [.str rO,.str rP,.str pD,.str dE]]),True⟩=some (.str (e7 i).s):=cP _ (fc (H:=aJ A B D' T))
 exact aq.hP (fi:=⟨wg,[gM,IE],[],Ek.1,none,false⟩) (vs:=[.ref 6,.int w]) (cN:=[(gM,.ref 6),(IE,.int w)]) (by kernel_rfl) rfl (by kernel_rfl) rfl (by kernel_rfl) <|
  ab.ret (ah.ret (IG (d:=3) (D':=D') (ps:=[.str (e7 i).s]) (us:=[.str (e7 i).s]) (J:=[.list [.str rO,.str rP,.str pD,.str dE]]) (by kernel_rfl) I
   (GE.cons (v:=.str uG) I (GE.cons (v:=.int 1) I (GE.cons (ai.list (GE.cons (ai.sub (v:=.ref (T.length+7)) (H1:=aJ A B D (T++[.list [.str rO,.str rP,.str pD,.str dE]])) ic
    (ai.bI (g:=.obj (.ref 864)) (vs:=[.ref 6,.int w]) I I (az.mono (by omega))) t1) GE.nil)) GE.nil))) aw (fun n b G bt _ _ _=>m9 (ej rfl rfl) rY)))
end
noncomputable abbrev lg:Str:=⟨⟨[105,115,95,99,97,117,103,104,116]⟩⟩
noncomputable def ih (q:Bool) (a b:Int):Int:=match q with |true=>a |false=>b
noncomputable def x3 (i:Int) (cz:bG):dF×bG:=match i with
 |0=>(.b7 .v,cz)
 |1=>(.var,cz)
 |2=>(.mem (e7 (cz.take 3).1),(cz.take 3).2)
 |3=>(.c6 (e7 (cz.take 2).1) (e7 ((cz.take 2).2.take 3).1),((cz.take 2).2.take 3).2)
 |_=>(.b7 .x,cz)
noncomputable def gc (q:Bool) (D:bG):dF×bG:=x3 (D.take (ih q 5 4)).1 (D.take (ih q 5 4)).2
section
variable {A B:aj}{D:bG}{T:List aj}{w:Int}
theorem pX (n:b9):isA (cB n)=true∧cq 0 (cB n)=true:=by cases n <;> exact ⟨rfl,rfl⟩
theorem VX {b:Nat}{T:List aj}{D' : bG}{G:List aj}{o:aj}{r:Nat}(bt:b≤r) (h:G[r]?=some (.list [.tup [.str m6,.none]])):iz (gF G b 6) [.ref r]=some [.aN [.tup [.str m6,.none]]] :=
 m9 (ks bt h (m9 rfl rY)) rY
theorem VY (q:Bool) (aw:ek A B T):aq 9 (.obj (.ref 878)) [.ref 6,.bool q] (aJ A B D T) (c7 (gc q D).1) (aJ A B (gc q D).2 T):=by
 have cA:∀(cz:bG) (w:Int),0<w→w≤4→aq 6 (.obj (.ref 871)) [.ref 6,.int w] (aJ A B cz T) (cB (e7 (cz.take w).1)) (aJ A B (cz.take w).2 T):=fun cz w h h'=>IH h h' aw
 have key:∀(i:Int) (cz:bG),(0≤i∧i<5)→ab 8 ⟨tk.scope,[],none,[(gM,.ref 6),(lg,.bool q),(sb,.int i)]⟩ (zZ.1.drop 1) (aJ A B cz T)
  (.ret (c7 (x3 i cz).1)) [(gM,.ref 6),(lg,.bool q),(sb,.int i)] (aJ A B (x3 i cz).2 T):=fun i cz aM=>by
  have:i=0∨i=1∨i=2∨i=3∨i=4:=by omega
  rcases this with rfl |rfl |rfl |rfl |rfl
  ·exact ab.stop (ah.cm I (ab.ret (ah.ret (kD (d:=6) (ps:=[.str Hz]) (D':=cz) (by kernel_rfl) I (GE.cons I (GE.cons I (GE.cons (ai.list (H1:=aJ A B cz T) (GE.cons I GE.nil)) GE.nil))) aw (by intro v m;rw[List.mem_singleton.mp m];exact ⟨rfl,rfl⟩))))) (by intro z;cases z)
  ·exact ab.cons (ah.iff I ab.nil)<|ab.stop (ah.cm I (ab.ret (ah.ret (IG (d:=6) (J:=[.list [.tup [.str m6,.none]]]) (D':=cz) (ps:=[.ref (aJ A B cz T).length]) (by kernel_rfl) I
    (GE.cons I (GE.cons I (GE.cons (ai.list (GE.cons (ai.list (H1:=aJ A B cz T) (GE.cons I GE.nil)) GE.nil)) GE.nil))) aw (fun n b G bt _ jn bc=>by
     subst bc;subst jn
     exact VX (T:=T) (D':=cz) (o:=.dead) (by rw[oG];exact bt) (cY (cY (fc (H:=aJ A B cz T))))))))) (by intro z;cases z)
  ·exact ab.cons (ah.iff I ab.nil)<|ab.cons (ah.iff I ab.nil)<|ab.stop (ah.cm I (ab.ret (ah.ret (kD (d:=6) (ps:=[cB (e7 (cz.take 3).1),.str iJ]) (D':=(cz.take 3).2) (by kernel_rfl) I
    (GE.cons I (GE.cons I (GE.cons (ai.list (H1:=aJ A B (cz.take 3).2 T) (GE.cons (ai.bI (g:=.obj (.ref 871)) (vs:=[.ref 6,.int 3]) I I ((cA cz 3 (by omega) (by omega)).mono (by omega))) (GE.cons I GE.nil))) GE.nil))) aw (by
     intro v m
     rcases List.mem_cons.mp m with rfl |m
     ·exact pX _
     ·rw[List.mem_singleton.mp m];exact ⟨rfl,rfl⟩))))) (by intro z;cases z)
  ·exact ab.cons (ah.iff I ab.nil)<|ab.cons (ah.iff I ab.nil)<|ab.cons (ah.iff I ab.nil)<|ab.stop (ah.cm I (ab.ret (ah.ret (kD (d:=6) (ps:=[cB (e7 (cz.take 2).1),cB (e7 ((cz.take 2).2.take 3).1)]) (D':=((cz.take 2).2.take 3).2) (by kernel_rfl) I
    (GE.cons I (GE.cons I (GE.cons (ai.list (H1:=aJ A B ((cz.take 2).2.take 3).2 T) (GE.cons (ai.bI (g:=.obj (.ref 871)) (vs:=[.ref 6,.int 2]) I I ((cA cz 2 (by omega) (by omega)).mono (by omega))) (GE.cons (ai.bI (g:=.obj (.ref 871)) (vs:=[.ref 6,.int 3]) I I ((cA (cz.take 2).2 3 (by omega) (by omega)).mono (by omega))) GE.nil))) GE.nil))) aw (by
     intro v m
     rcases List.mem_cons.mp m with rfl |m
     ·exact pX _
     ·rw[List.mem_singleton.mp m];exact pX _))))) (by intro z;cases z)
  ·exact ab.cons (ah.iff I ab.nil)<|ab.cons (ah.iff I ab.nil)<|ab.cons (ah.iff I ab.nil)<|ab.cons (ah.iff I ab.nil)<|ab.ret (ah.ret (kD (d:=6) (ps:=[.str dE]) (D':=cz) (by kernel_rfl) I (GE.cons I (GE.cons I (GE.cons (ai.list (H1:=aJ A B cz T) (GE.cons I GE.nil)) GE.nil))) aw (by intro v m;rw[List.mem_singleton.mp m];exact ⟨rfl,rfl⟩)))
 have az:=oF (A:=A) (B:=B) (D:=D) (T:=T) (w:=ih q 5 4) (by cases q <;> decide)
 have lt:=ig (D:=D) (w:=ih q 5 4) (by cases q <;> decide)
 refine aq.hP (fi:=⟨tk,[gM,lg],[],zZ.1,none,false⟩) (vs:=[.ref 6,.bool q]) (cN:=[(gM,.ref 6),(lg,.bool q)]) (by kernel_rfl) rfl (by kernel_rfl) rfl (by kernel_rfl) <|
  ab.cons (bJ:=[(gM,.ref 6),(lg,.bool q),(sb,.int (D.take (ih q 5 4)).1)]) (ah.assign (ai.bI (g:=.obj (.ref 864)) (vs:=[.ref 6,.int (ih q 5 4)]) I (by cases q <;> exact I) (az.mono (by omega))) (bq.name (by kernel_rfl))) (key _ _ ⟨lt.1,by cases q <;> (have:=lt.2;simp only[ih] at this ⊢;omega)⟩)
end
section
variable {d:Nat}{fr:a5}{H H1 H2 G:List aj}{ls bJ jJ:List (Str×V)}{t e:PySem.Expr}{bp:List PySem.Expr}{v u:V}{vs:List V}{i k:Nat}{C:Addr}{fs:List (Str×V)}{nm:Str}{p:Pos}{az:Nat}
noncomputable abbrev lh (d:Nat) (fr:a5) (bp:List PySem.Expr) (vs:List V) (H:List aj) (ls:List (Str×V)) (H' : List aj):Prop:=Gt d (fun N n st=>tL (e2 N) n fr bp vs st) H (fun s=>(ls,s)) H'
theorem lh.nil:lh d fr [] [] H fr.ls H:=Gt.now fun N n s _ _=>rfl
theorem lh.cons (h:bq d fr t v H bJ H1) (af:lh d (fr.up bJ) bp vs H1 jJ H2):lh d fr (t::bp) (v::vs) H jJ H2 :=
 h.pC af fun N n s s1 s2 _ aS bf _ _ _=>(bj aS).trans bf
theorem bq.tup (ak:bp.any isStar=false) (h:lh d fr bp vs H ls H1):bq d fr (.Tuple bp az p) (.tup vs) H ls H1 :=
 h.step fun N n s s1 _ q _ _=>(e6 ak).trans ((bj (o:=q0 (.tup vs) s) rfl).trans q)
theorem VZ (h:H[i]?=some (.inst C fs)) (af:wq (C,fs) nm=some v):mS (.ref i) nm ⟨H,True⟩=some v:=(bj (congrArg lR h)).trans (rH af)
theorem pY:(H++G)[H.length+k]?=G[k]?:=by rw[List.getElem?_append_right (Nat.le_add_right _ _),Nat.add_sub_cancel_left]
theorem V0 {x:aj}:(H++G).set (H.length+k) x=H++G.set k x:=by rw[List.set_append_right _ _ (Nat.le_add_right _ _),Nat.add_sub_cancel_left]
theorem Cb (x y z:V):aq 2 (.obj (.ref 853)) [x,y,z] (H++G) (.ref (H.length+G.length)) (H++(G++[.inst 853 [(c3,x),(en,y),(dU,z),(g8,.none)]])):=by
 have:=xH (H:=H++G) x y z
 rwa [List.length_append,List.append_assoc] at this
theorem Cc {aD:List PySem.Expr}(h:GE d fr aD H1 vs (H++G)) (hl:Nat.blt 100 aD.length=false:=by kernel_rfl):ai d fr (.List aD p) H1 (.ref (H.length+G.length)) (H++(G++[.list vs])):=by
 have:=ai.list (p:=p) h hl
 rwa [List.length_append,List.append_assoc] at this
theorem bq.at {o:PySem.Expr}(h:ai d fr o H1 (.ref (H.length+k)) (H++G)) (ar:G[k]?=some (.inst C fs)) (af:attrOk C nm fs=true):bq d fr (.Attribute o nm p) u H1 fr.ls (H++G.set k (.inst C (d7 nm u fs))) :=
 bq.attr h (by rw[HZ af (pY.trans ar),V0])
end
section
variable {A B:aj}{D:bG}{T:List aj}{w:Int}{H:List aj}
noncomputable def fI (A B:aj) (R:List (Nat×Nat)) (D:bG) (T:List aj):List aj :=
 .tab "_law_view.<locals>.<lambda>" R::.tab "law.<locals>.<lambda>" []::.cell (some (.ref 6))::A::.list (D.l.map V.int)::B::.list [.ref 4,.int D.n,.int D.m]::T
noncomputable abbrev f1 (m:Nat):List (Str×V):=[(c3,.str fF),(en,.int 0),(dU,.ref (m+0)),(g8,.none)]
noncomputable abbrev f2 (m:Nat):List (Str×V):=f1 m++[(pG,.ref (m+2)),(rL,.bool false),(pF,.int 0),(rN,.str BD)]
noncomputable abbrev jB (m:Nat):List (Str×V):=f2 m++[(Hr,m8 gE.1 2)]
noncomputable abbrev f4 (m:Nat):List (Str×V):=jB m++[(Ht,m8 gE.1 3)]
noncomputable abbrev jI (m:Nat):List (Str×V):=f4 m++[(jL,.ref (m+4))]
noncomputable abbrev gZ (m:Nat):List (Str×V):=[(c3,.str jL),(en,.int 0),(dU,.ref (m+3)),(g8,.none)]
noncomputable abbrev mm (ls:List (Str×V)):a5:=⟨tl.scope,[],some (0,"_law_view.<locals>.<lambda>"),ls⟩
noncomputable def V1:PySem.Expr→Pos
 |.List _ p=>p
 |_=>default
theorem II:ah 4 (mm []) (bQ gE.1 0) H .next [(fF,.ref (H.length+1))] (H++[.list [],.inst 853 (f1 H.length)]):=by
 have l:=Cc (d:=4) (fr:=mm []) (H:=H) (G:=[]) (p:=V1 (rQ (m7 (eH (bQ gE.1 0))) 2)) (H1:=H) (GE.nil.mono (Nat.le_refl 4) |> fun h=>by rw[List.append_nil];exact h)
 exact ah.assign (ai.bI (g:=.obj (.ref 853)) I (GE.cons (v:=.str fF) I (GE.cons (v:=.int 0) I (GE.cons l GE.nil))) ((Cb (H:=H) (G:=[.list []]) _ _ _).mono (by omega))) (bq.name (by kernel_rfl))
theorem IJ:ah 4 (mm [(fF,.ref (H.length+1))]) (bQ gE.1 1) (H++[.list [],.inst 853 (f1 H.length)]) .next [(fF,.ref (H.length+1))] (H++[.list [],.inst 853 (f2 H.length),.list []]):=by
 exact ah.assign (v:=.tup [.ref (H.length+2),.bool false,.int 0,.str BD]) (H1:=H++[.list [],.inst 853 (f1 H.length),.list []])
  (ai.tup (GE.cons (Cc (H:=H) (G:=[.list [],.inst 853 (f1 H.length)]) GE.nil) (GE.cons I (GE.cons I (GE.cons I GE.nil)))))
  (bq.tup (by kernel_rfl) <|
   lh.cons (bq.at (H:=H) (k:=1) (G:=[.list [],.inst 853 (f1 H.length),.list []]) I rfl (by kernel_rfl)) <|
   lh.cons (bq.at (H:=H) (k:=1) (G:=[.list [],.inst 853 (f1 H.length++[(pG,.ref (H.length+2))]),.list []]) I rfl (by kernel_rfl)) <|
   lh.cons (bq.at (H:=H) (k:=1) (G:=[.list [],.inst 853 (f1 H.length++[(pG,.ref (H.length+2)),(rL,.bool false)]),.list []]) I rfl (by kernel_rfl)) <|
   lh.cons (bq.at (H:=H) (k:=1) (G:=[.list [],.inst 853 (f1 H.length++[(pG,.ref (H.length+2)),(rL,.bool false),(pF,.int 0)]),.list []]) I rfl (by kernel_rfl)) <|
   lh.nil)
theorem IK:ah 4 (mm [(fF,.ref (H.length+1))]) (bQ gE.1 4) (H++[.list [],.inst 853 (f4 H.length),.list []]) .next [(fF,.ref (H.length+1))] (H++[.list [],.inst 853 (jI H.length),.list [],.list [],.inst 853 (gZ H.length)]) :=
 ah.assign (v:=.ref (H.length+4)) (H1:=H++[.list [],.inst 853 (f4 H.length),.list [],.list [],.inst 853 (gZ H.length)])
  (ai.bI (g:=.obj (.ref 853)) I (GE.cons (v:=.str jL) I (GE.cons (v:=.int 0) I (GE.cons (Cc (H:=H) (G:=[.list [],.inst 853 (f4 H.length),.list []]) GE.nil) GE.nil))) ((Cb (H:=H) (G:=[.list [],.inst 853 (f4 H.length),.list [],.list []]) _ _ _).mono (by omega)))
  (bq.at (H:=H) (k:=1) (G:=[.list [],.inst 853 (f4 H.length),.list [],.list [],.inst 853 (gZ H.length)]) I rfl (by kernel_rfl))
theorem IL:ah 4 (mm [(fF,.ref (H.length+1))]) (bQ gE.1 5) (H++[.list [],.inst 853 (jI H.length),.list [],.list [],.inst 853 (gZ H.length)]) .next [(fF,.ref (H.length+1))] (H++[.list [],.inst 853 (jI H.length),.list [],.list [],.inst 853 (gZ H.length++[(jN,.tup [.str gJ,.int 3])])]) :=
 ah.assign (v:=.tup [.str gJ,.int 3]) I
  (bq.at (H:=H) (k:=4) (G:=[.list [],.inst 853 (jI H.length),.list [],.list [],.inst 853 (gZ H.length)]) (ai.attr (v:=.ref (H.length+1)) I (VZ (pY (k:=1)) (by kernel_rfl))) rfl (by kernel_rfl))
end
section
variable {A B:aj}{D:bG}{T:List aj}{w:Int}{H:List aj}
noncomputable abbrev eD (T:List aj):Nat:=T.length+7
theorem V2:ah 4 (mm [(fF,.ref (eD T+1))]) (bQ gE.1 2) (fI A B [] D T++[.list [],.inst 853 (f2 (eD T)),.list []]) .next [(fF,.ref (eD T+1))] (fI A B (fw.take 1) D T++[.list [],.inst 853 (jB (eD T)),.list []]) :=
 ah.assign (v:=m8 gE.1 2) (H1:=fI A B (fw.take 1) D T++[.list [],.inst 853 (f2 (eD T)),.list []]) ic
  (bq.at (H:=fI A B (fw.take 1) D T) (k:=1) (G:=[.list [],.inst 853 (f2 (eD T)),.list []]) I rfl (by kernel_rfl))
theorem V3:ah 4 (mm [(fF,.ref (eD T+1))]) (bQ gE.1 2) (fI A B fw D T++[.list [],.inst 853 (f2 (eD T)),.list []]) .next [(fF,.ref (eD T+1))] (fI A B fw D T++[.list [],.inst 853 (jB (eD T)),.list []]) :=
 ah.assign (v:=m8 gE.1 2) (H1:=fI A B fw D T++[.list [],.inst 853 (f2 (eD T)),.list []]) ic
  (bq.at (H:=fI A B fw D T) (k:=1) (G:=[.list [],.inst 853 (f2 (eD T)),.list []]) I rfl (by kernel_rfl))
theorem V4:ah 4 (mm [(fF,.ref (eD T+1))]) (bQ gE.1 3) (fI A B (fw.take 1) D T++[.list [],.inst 853 (jB (eD T)),.list []]) .next [(fF,.ref (eD T+1))] (fI A B fw D T++[.list [],.inst 853 (f4 (eD T)),.list []]) :=
 ah.assign (v:=m8 gE.1 3) (H1:=fI A B fw D T++[.list [],.inst 853 (jB (eD T)),.list []]) ic
  (bq.at (H:=fI A B fw D T) (k:=1) (G:=[.list [],.inst 853 (jB (eD T)),.list []]) I rfl (by kernel_rfl))
theorem V5:ah 4 (mm [(fF,.ref (eD T+1))]) (bQ gE.1 3) (fI A B fw D T++[.list [],.inst 853 (jB (eD T)),.list []]) .next [(fF,.ref (eD T+1))] (fI A B fw D T++[.list [],.inst 853 (f4 (eD T)),.list []]) :=
 ah.assign (v:=m8 gE.1 3) (H1:=fI A B fw D T++[.list [],.inst 853 (jB (eD T)),.list []]) ic
  (bq.at (H:=fI A B fw D T) (k:=1) (G:=[.list [],.inst 853 (jB (eD T)),.list []]) I rfl (by kernel_rfl))
theorem V6 (aa:Prop) (aw:H.all (cE H.length)=true):fin H.length (.ref (H.length+1)) ⟨H++[.list [],.inst 853 (jI H.length),.list [],.list [],.inst 853 (gZ H.length++[(jN,.tup [.str gJ,.int 3])])],aa⟩=some (eb,⟨H,aa⟩):=by
 have aN:∀{k:Nat}{G:List aj}{n:Nat},G[k]?=some (.list [])→gF (H++G) H.length (n+2) (.ref (H.length+k))=some (.aN []):=fun h=>ks (Nat.le_add_right _ _) (pY.trans h) rY
 refine pL (rW (Nat.le_add_right _ _) (pY (k:=1)) ?_) rV aw
 refine dx (ej rfl rfl)<|dx (ej rfl rfl)<|dx (aN (k:=0) rfl)<|dx (ej rfl rfl)<|dx (aN (k:=2) rfl)<|dx (ej rfl rfl)<|dx (ej rfl rfl)<|dx (ej rfl rfl) <|
  dx (ej (by kernel_rfl) (by kernel_rfl))<|dx (ej (by kernel_rfl) (by kernel_rfl))<|dx ?_ rX
 refine rW (Nat.le_add_right _ _) (pY (k:=4)) ?_
 exact dx (ej rfl rfl)<|dx (ej rfl rfl)<|dx (aN (k:=3) rfl)<|dx (ej rfl rfl)<|dx rfl rX
end
section
variable {A B:aj}{D:bG}{T:List aj}
noncomputable def bG.mn (D:bG):bG:={D with b:=true}
theorem IM (aw:ek A B T):aq 6 (.obj (.ref 890)) [] (aJ A B D T) eb (aJ A B D.mn T):=by
 obtain ⟨b,l,n,m⟩:=D
 have ar:∀ aa,fin (aJ A B ⟨b,l,n,m⟩ T).length (.ref (eD T+1)) ⟨aJ A B ⟨true,l,n,m⟩ T++[.list [],.inst 853 (jI (eD T)),.list [],.list [],.inst 853 (gZ (eD T)++[(jN,.tup [.str gJ,.int 3])])],aa⟩=some (eb,⟨aJ A B ⟨true,l,n,m⟩ T,aa⟩) :=
  fun aa=>V6 (H:=aJ A B ⟨true,l,n,m⟩ T) aa (u2 aw)
 have main:ab 5 (mm []) gE.1 (aJ A B ⟨b,l,n,m⟩ T) (.ret (.ref (eD T+1))) [(fF,.ref (eD T+1))] (aJ A B ⟨true,l,n,m⟩ T++[.list [],.inst 853 (jI (eD T)),.list [],.list [],.inst 853 (gZ (eD T)++[(jN,.tup [.str gJ,.int 3])])]):=by
  cases b with
  |true =>
   exact ab.cons (Gt.mono (by omega) (II (H:=fI A B fw ⟨true,l,n,m⟩ T)))<|ab.cons (Gt.mono (by omega) (IJ (H:=fI A B fw ⟨true,l,n,m⟩ T)))<|ab.cons (Gt.mono (by omega) V3)<|ab.cons (Gt.mono (by omega) V5) <|
    ab.cons (Gt.mono (by omega) (IK (H:=fI A B fw ⟨true,l,n,m⟩ T)))<|ab.cons (Gt.mono (by omega) (IL (H:=fI A B fw ⟨true,l,n,m⟩ T)))<|ab.ret (ah.ret I)
  |false =>
   exact ab.cons (Gt.mono (by omega) (II (H:=fI A B [] ⟨true,l,n,m⟩ T)))<|ab.cons (Gt.mono (by omega) (IJ (H:=fI A B [] ⟨true,l,n,m⟩ T)))<|ab.cons (Gt.mono (by omega) V2)<|ab.cons (Gt.mono (by omega) V4) <|
    ab.cons (Gt.mono (by omega) (IK (H:=fI A B fw ⟨true,l,n,m⟩ T)))<|ab.cons (Gt.mono (by omega) (IL (H:=fI A B fw ⟨true,l,n,m⟩ T)))<|ab.ret (ah.ret I)
 exact aq.jt (fi:=⟨tl,[],[],gE.1,some (0,"_law_view.<locals>.<lambda>"),true⟩) (vs:=[]) (cN:=[]) (by kernel_rfl) rfl (by kernel_rfl) rfl (by kernel_rfl) main ar
end
section
variable {d a:Nat}{fi:eR}{args vs:List V}{H H1 H' cs:List aj}{iB:List Str}{f:cD}{ls:List (Str×V)}{u:V}
theorem aq.V7 {cN:List (Str×V)}{iI:List (Str×Nat)}(hf:c2 a dD=some fi) (aV:kh fi args=some vs) (aw:ee fi.fd.scope.names=iB) (rq:iB.map (fun x=>aj.cell (look x (fi.ps.zip vs)))=cs) (BC:iB.zip (List.range' H.length iB.length)=iI) (bZ:fi.jt=true) (hl:hK fi.fd.scope.names (fi.ps.zip vs)=cN)
 (h:ab d ⟨fi.fd.scope,iI,fi.tab,cN⟩ fi.body (tP H cs) f ls H1) (ar:∀ aa,fin H.length (iA f) ⟨H1,aa⟩=some (u,⟨H',aa⟩)):aq (d+1) (.obj (.ref a)) args H u H':=aq.gen hf aV aw rq BC hl h fun aa=>(eC bZ).trans (ar aa)
end
noncomputable def cW (f:bG→bF×bG) (D:bG):bF×bG:=match (D.take 2).1 with
 |0=>f (D.take 2).2
 |_=>(.two (f (D.take 2).2).1 (f (f (D.take 2).2).2).1,(f (f (D.take 2).2).2).2)
noncomputable def gd (f:Bool→bG→bF×bG) (q:Bool) (i:Int) (D:bG):bF×bG:=match i with
 |0=>(.b7 (e7 (D.take (ih q 4 3)).1),(D.take (ih q 4 3)).2)
 |1=>match q with
  |true=>(.el,D)
  |false=>(.b7 (e7 (D.take 2).1),(D.take 2).2)
 |2=>(.du (e7 (D.take 2).1) (f q (D.take 2).2).1,(f q (D.take 2).2).2)
 |3=>(.fin (gc q D).1 (e7 ((gc q D).2.take 2).1) (f q ((gc q D).2.take 2).2).1,(f q ((gc q D).2.take 2).2).2)
 |4=>match q with
  |true=>(.el,D)
  |false=>(.dg (cW (f false) D).1 (cW (f true) (cW (f false) D).2).1,(cW (f true) (cW (f false) D).2).2.mn)
 |_=>(.ff (7+(D.take 3).1),(D.take 3).2)
noncomputable def dG:Nat→Bool→bG→bF×bG
 |0,q,D=>gd (fun _ D=>(.el,D)) q (D.take 2).1 (D.take 2).2
 |k+1,q,D=>gd (dG k) q (D.take 6).1 (D.take 6).2
theorem V8:ee qL.scope.names=[gM,nj]:=by kernel_rfl
section
variable {A B:aj}{D D' : bG}{T:List aj}{q:Bool}{k:Int}{d:Nat}{ls:List (Str×V)}{p:Pos}
noncomputable abbrev bl (T:List aj) (k:Int):List aj:=T++[.cell (some (.ref 6)),.cell (some (.int k))]
noncomputable abbrev hy (T:List aj) (ls:List (Str×V)):a5:=⟨qL.scope,[(gM,T.length+7),(nj,T.length+7+1)],none,ls⟩
theorem x4 {x:Str}{i:Nat}{fr:a5}{H:List aj}{v:V}(ar:gX fr x=some .cell) (hl:look x fr.cs=some i) (aM:H[i]?=some (.cell (some v))):o9 fr x ⟨H,True⟩=some v :=
 (e6 (congrArg h2 ar)).trans ((eC (congrArg o7 ar)).trans ((bj hl).trans (bj (congrArg tF aM))))
theorem mq:ai d (hy T ls) (.Name gM p) (aJ A B D (bl T k)) (.ref 6) (aJ A B D (bl T k)):=ai.name (x4 (by kernel_rfl) rfl (HX (H:=aJ A B D T)))
theorem Cd:ai d (hy T ls) (.Name nj p) (aJ A B D (bl T k)) (.int k) (aJ A B D (bl T k)):=ai.name (x4 (by kernel_rfl) rfl (HY (H:=aJ A B D T)))
theorem IP {n:Nat}{p' ib:Pos}:ai d (hy T ls) (.BinOp (.Name nj p) .Sub (.Constant (.int 1) 0 ib) p') (aJ A B D (bl T (n+1:Nat))) (.int n) (aJ A B D (bl T (n+1:Nat))) :=
 ai.bin (b:=.int 1) Cd I fun s _=>by
  show some (V.int (((n+1:Nat):Int) - 1),s)=_
  have:((n+1:Nat):Int) - 1=n:=by omega
  rw[this]
theorem jU (aw:ek A B T):ek A B (bl T k):=by
 refine ⟨aw.a,aw.b,?_⟩
 have e:7+(bl T k).length=7+T.length+2:=by simp;omega
 rw[e,List.all_append,uN (b':=7+T.length+2) (by omega) aw.t]
 show (true&&(Nat.blt 6 _&&(true&&true)))=true
 rw[Nat.blt_eq.mpr (by omega)];rfl
theorem mr {v:V}(h:isA v=true∧cq 0 v=true):∀ u∈[v],isA u=true∧cq 0 u=true:=by intro u m;rw[List.mem_singleton.mp m];exact h
theorem oH {v:V}{vs:List V}(h:isA v=true∧cq 0 v=true) (af:∀ u∈vs,isA u=true∧cq 0 u=true):∀ u∈v::vs,isA u=true∧cq 0 u=true:=by
 intro u m
 rcases List.mem_cons.mp m with rfl |m
 ·exact h
 ·exact af u m
theorem x5 {w:Int}(aw:ek A B T) (h:0<w) (h' : w≤4):aq 6 (.obj (.ref 871)) [.ref 6,.int w] (aJ A B D (bl T k)) (cB (e7 (D.take w).1)) (aJ A B (D.take w).2 (bl T k)):=IH h h' (jU aw)
noncomputable abbrev gy (q:Bool) (i:Int):List (Str×V):=[(lg,.bool q),(sb,.int i)]
theorem IQ (aw:ek A B T) (hd:8≤d):ab d (hy T (gy q 0)) (gT.1.drop 1) (aJ A B D (bl T k)) (.ret (a7 (.b7 (e7 (D.take (ih q 4 3)).1)))) (gy q 0) (aJ A B (D.take (ih q 4 3)).2 (bl T k)):=by
 obtain ⟨d,rfl⟩:∃ e,d=e+2:=⟨d - 2,by omega⟩
 have pZ:=x5 (D:=D) (k:=k) (w:=ih q 4 3) aw (by cases q <;> decide) (by cases q <;> decide)
 exact ab.stop (ah.cm I (ab.ret (ah.ret (kD (d:=d) (ps:=[cB (e7 (D.take (ih q 4 3)).1)]) (D':=(D.take (ih q 4 3)).2) (T:=bl T k) (by kernel_rfl) I
  (GE.cons I (GE.cons I (GE.cons (ai.list (H1:=aJ A B (D.take (ih q 4 3)).2 (bl T k)) (GE.cons (ai.bI (g:=.obj (.ref 871)) (vs:=[.ref 6,.int (ih q 4 3)]) I (GE.cons mq (GE.cons (by cases q <;> exact I) GE.nil)) (pZ.mono (by omega))) GE.nil)) GE.nil))) (jU aw) (mr (pX _)))))) (by intro z;cases z)
end
section
variable {A B:aj}{D D' : bG}{T:List aj}{q:Bool}{k:Int}{d:Nat}{ls:List (Str×V)}{p:Pos}
theorem p0 (t:bF):isA (a7 t)=true∧cq 0 (a7 t)=true:=⟨by cases t <;> rfl,jS t⟩
theorem V9 (t:dF):isA (c7 t)=true∧cq 0 (c7 t)=true:=by
 cases t with
 |b7 q=>cases q <;> exact ⟨rfl,rfl⟩
 |var=>exact ⟨rfl,rfl⟩
 |mem q=>cases q <;> exact ⟨rfl,rfl⟩
 |c6 q r=>cases q <;> cases r <;> exact ⟨rfl,rfl⟩
theorem Wa:∀ u∈([]:List V),isA u=true∧cq 0 u=true:=by intro u m;cases m
theorem Ce {i:Int}{ss:List Stmt}(aw:ek A B T) (hd:8≤d) (aM:i=1∨i=4):ab d (hy T (gy true i)) (gT.1.drop 1) (aJ A B D (bl T k)) (.ret (a7 .el)) (gy true i) (aJ A B D (bl T k)):=by
 obtain ⟨d,rfl⟩:∃ e,d=e+2:=⟨d - 2,by omega⟩
 have r:∀ i,ab (d+2) (hy T (gy true i)) (sB (bQ gT.1 2)) (aJ A B D (bl T k)) (.ret (a7 .el)) (gy true i) (aJ A B D (bl T k)):=fun i =>
  ab.ret (ah.ret (kD (d:=d) (ps:=[jP]) (D':=D) (T:=bl T k) (by kernel_rfl) I
   (GE.cons I (GE.cons I (GE.cons (ai.list (H1:=aJ A B D (bl T k)) (GE.cons (kD (d:=d) (ps:=[]) (D':=D) (T:=bl T k) (by kernel_rfl) I (GE.cons I (GE.cons I (GE.cons (ai.list (H1:=aJ A B D (bl T k)) GE.nil) GE.nil))) (jU aw) Wa) GE.nil)) GE.nil))) (jU aw) (mr ⟨rfl,rfl⟩)))
 rcases aM with rfl |rfl
 ·exact ab.cons (ah.iff I ab.nil)<|ab.stop (ah.cm I (r _)) (by intro z;cases z)
 ·exact ab.cons (ah.iff I ab.nil)<|ab.stop (ah.cm I (r _)) (by intro z;cases z)
theorem IS (aw:ek A B T) (hd:8≤d):ab d (hy T (gy false 1)) (gT.1.drop 1) (aJ A B D (bl T k)) (.ret (a7 (.b7 (e7 (D.take 2).1)))) (gy false 1) (aJ A B (D.take 2).2 (bl T k)):=by
 obtain ⟨d,rfl⟩:∃ e,d=e+2:=⟨d - 2,by omega⟩
 have pZ:=x5 (D:=D) (k:=k) (w:=2) aw (by decide) (by decide)
 exact ab.cons (ah.iff I ab.nil)<|ab.cons (ah.iff I ab.nil)<|ab.cons (ah.iff I ab.nil)<|ab.cons (ah.iff I ab.nil)<|ab.cons (ah.iff I ab.nil) <|
  ab.stop (ah.cm I (ab.ret (ah.ret (kD (d:=d) (ps:=[cB (e7 (D.take 2).1)]) (D':=(D.take 2).2) (T:=bl T k) (by kernel_rfl) I
  (GE.cons I (GE.cons I (GE.cons (ai.list (H1:=aJ A B (D.take 2).2 (bl T k)) (GE.cons (ai.bI (g:=.obj (.ref 871)) (vs:=[.ref 6,.int 2]) I (GE.cons mq (GE.cons I GE.nil)) (pZ.mono (by omega))) GE.nil)) GE.nil))) (jU aw) (mr (pX _)))))) (by intro z;cases z)
theorem Wb (aw:ek A B T) (hd:8≤d):ab d (hy T (gy q 5)) (gT.1.drop 1) (aJ A B D (bl T k)) (.ret (a7 (.ff (7+(D.take 3).1)))) (gy q 5) (aJ A B (D.take 3).2 (bl T k)):=by
 obtain ⟨d,rfl⟩:∃ e,d=e+2:=⟨d - 2,by omega⟩
 have az:=oF (A:=A) (B:=B) (D:=D) (T:=bl T k) (w:=3) (by decide)
 exact ab.cons (ah.iff I ab.nil)<|ab.cons (ah.iff (by cases q <;> exact I) ab.nil)<|ab.cons (ah.iff I ab.nil)<|ab.cons (ah.iff I ab.nil) <|
  ab.stop (ah.cm I (ab.ret (ah.ret (kD (d:=d) (ps:=[fe ku 1 [.int (7+(D.take 3).1)]]) (D':=(D.take 3).2) (T:=bl T k) (by kernel_rfl) I
  (GE.cons I (GE.cons I (GE.cons (ai.list (H1:=aJ A B (D.take 3).2 (bl T k)) (GE.cons (kD (d:=d) (ps:=[.int (7+(D.take 3).1)]) (D':=(D.take 3).2) (T:=bl T k) (by kernel_rfl) I (GE.cons I (GE.cons I (GE.cons (ai.list (H1:=aJ A B (D.take 3).2 (bl T k))
   (GE.cons (ai.bin (a:=.int 7) (b:=.int (D.take 3).1) I (ai.bI (g:=.obj (.ref 864)) (vs:=[.ref 6,.int 3]) I (GE.cons mq (GE.cons I GE.nil)) (az.mono (by omega))) (fun s _=>rfl)) GE.nil)) GE.nil))) (jU aw) (mr ⟨rfl,rfl⟩)) GE.nil)) GE.nil))) (jU aw) (mr ⟨rfl,rfl⟩))))) (by intro z;cases z)
variable {n:Nat}{f:Bool→bG→bF×bG}
theorem Wc (aw:ek A B T) (hd:8≤d) (hf:∀ D,aq d (.obj (.ref 883)) [.ref 6,.int n,.bool q] (aJ A B D (bl T (n+1:Nat))) (a7 (f q D).1) (aJ A B (f q D).2 (bl T (n+1:Nat)))) :
 ab d (hy T (gy q 2)) (gT.1.drop 1) (aJ A B D (bl T (n+1:Nat))) (.ret (a7 (.du (e7 (D.take 2).1) (f q (D.take 2).2).1))) (gy q 2) (aJ A B (f q (D.take 2).2).2 (bl T (n+1:Nat))):=by
 obtain ⟨d,rfl⟩:∃ e,d=e+2:=⟨d - 2,by omega⟩
 have pZ:=x5 (D:=D) (k:=(n+1:Nat)) (w:=2) aw (by decide) (by decide)
 have dV:=hf (D.take 2).2
 exact ab.cons (ah.iff I ab.nil)<|ab.cons (ah.iff (by cases q <;> exact I) ab.nil) <|
  ab.stop (ah.cm I (ab.ret (ah.ret (kD (d:=d) (ps:=[cB (e7 (D.take 2).1),a7 (f q (D.take 2).2).1]) (D':=(f q (D.take 2).2).2) (T:=bl T (n+1:Nat)) (by kernel_rfl) I
  (GE.cons I (GE.cons I (GE.cons (ai.list (H1:=aJ A B (f q (D.take 2).2).2 (bl T (n+1:Nat))) (GE.cons (ai.bI (g:=.obj (.ref 871)) (vs:=[.ref 6,.int 2]) I (GE.cons mq (GE.cons I GE.nil)) (pZ.mono (by omega)))
   (GE.cons (ai.bI (g:=.obj (.ref 883)) (vs:=[.ref 6,.int n,.bool q]) I (GE.cons mq (GE.cons IP (GE.cons I GE.nil))) dV) GE.nil))) GE.nil))) (jU aw) (oH (pX _) (mr (p0 _))))))) (by intro z;cases z)
end
section
variable {A B:aj}{D D' : bG}{T:List aj}{q:Bool}{k:Int}{d n:Nat}{ls:List (Str×V)}{p:Pos}{f:Bool→bG→bF×bG}
theorem Wd (aw:ek A B T) (hd:11≤d) (hf:∀ D,aq d (.obj (.ref 883)) [.ref 6,.int n,.bool q] (aJ A B D (bl T (n+1:Nat))) (a7 (f q D).1) (aJ A B (f q D).2 (bl T (n+1:Nat)))) :
 ab d (hy T (gy q 3)) (gT.1.drop 1) (aJ A B D (bl T (n+1:Nat))) (.ret (a7 (.fin (gc q D).1 (e7 ((gc q D).2.take 2).1) (f q ((gc q D).2.take 2).2).1))) (gy q 3++[(ht,c7 (gc q D).1)]) (aJ A B (f q ((gc q D).2.take 2).2).2 (bl T (n+1:Nat))):=by
 obtain ⟨d,rfl⟩:∃ e,d=e+2:=⟨d - 2,by omega⟩
 have j9:=VY (A:=A) (B:=B) (D:=D) (T:=bl T (n+1:Nat)) q (jU aw)
 have pZ:=x5 (D:=(gc q D).2) (k:=(n+1:Nat)) (w:=2) aw (by decide) (by decide)
 have dV:=hf ((gc q D).2.take 2).2
 exact ab.cons (ah.iff I ab.nil)<|ab.cons (ah.iff (by cases q <;> exact I) ab.nil)<|ab.cons (ah.iff I ab.nil) <|
  ab.stop (ah.cm I (ab.cons (bJ:=gy q 3++[(ht,c7 (gc q D).1)]) (ah.assign (v:=c7 (gc q D).1) (ai.bI (g:=.obj (.ref 878)) (vs:=[.ref 6,.bool q]) I (GE.cons mq (GE.cons I GE.nil)) (j9.mono (by omega))) (bq.name (by kernel_rfl))) <|
  ab.ret (ah.ret (kD (d:=d) (ps:=[c7 (gc q D).1,cB (e7 ((gc q D).2.take 2).1),a7 (f q ((gc q D).2.take 2).2).1]) (D':=(f q ((gc q D).2.take 2).2).2) (T:=bl T (n+1:Nat)) (by kernel_rfl) I
  (GE.cons I (GE.cons I (GE.cons (ai.list (H1:=aJ A B (f q ((gc q D).2.take 2).2).2 (bl T (n+1:Nat))) (GE.cons I (GE.cons (ai.bI (g:=.obj (.ref 871)) (vs:=[.ref 6,.int 2]) I (GE.cons mq (GE.cons I GE.nil)) (pZ.mono (by omega)))
   (GE.cons (ai.bI (g:=.obj (.ref 883)) (vs:=[.ref 6,.int n,.bool q]) I (GE.cons mq (GE.cons IP (GE.cons I GE.nil))) dV) GE.nil)))) GE.nil))) (jU aw) (oH (V9 _) (oH (pX _) (mr (p0 _)))))))) (by intro z;cases z)
end
section
variable {d k acc:Nat}{fr:a5}{H H1 H2 H3:List aj}{elt t it:PySem.Expr}{src:Src}{v x:V}{xs:List V}{ls:List (Str×V)}{nm:Str}{di dz p:Pos}{a:Int}{sc:Scope}
theorem cX.done {ifs:List PySem.Expr}(h:itemAt src k H=some none) (bT:(isNm t&&iY src t)=true):cX d fr elt t ifs src k acc H H :=
 (Gt.now (f:=fun N n st=>Ak (e2 N) n fr elt t ifs src k acc st) (r:=fun s=>s) fun N n s _ q=>by
  subst q;exact (eC bT).trans (bj h)).step fun N n s s1 _ q _ _=>q
theorem cX.step (h:itemAt src k H=some (some v)) (bT:(isNm t&&iY src t)=true) (h1:bq d fr t v H ls H1) (af:ai d (fr.up ls) elt H1 x H2) (b2:H2[acc]?=some (.list xs)) (bA:xs.length<aL)
 (aB:cX d (fr.up ls) elt t [] src (k+1) acc (H2.set acc (.list (xs++[x]))) H3):cX d fr elt t [] src k acc H H3:=fun aa o=>by
 obtain ⟨e5,e9,eM⟩:=h1 aa o
 obtain ⟨eg,dR,dC⟩:=af e5 e9
 obtain ⟨ou,fO,gu⟩:=aB (eg∧xs.length<aL) ⟨dR,bA⟩
 exact ⟨ou,fO,((eM.and dC).and gu).step fun N n bc b=>(eC bT).trans ((bj h).trans ((bj b.1.1).trans ((bj (o:=wC (e2 N) n _ [] _) rfl).trans ((bj b.1.2).trans ((bj (congrArg eF b2)).trans b.2)))))⟩
theorem IT {ifs:List PySem.Expr}{R:dO}{n:Nat}{st:ax}:q4 R n fr elt [⟨t,it,ifs,a⟩] sc st=(bif pd fr sc t it a then (R.ev n fr it st).bind fun x=>(srcOf x.1 x.2).bind fun src=>(R.dz n ⟨relabel fr sc,pb sc fr.cs,none,[]⟩ elt t ifs src 0 x.2.H.length ⟨x.2.H++[.list []],x.2.aa⟩).map fun fQ=>(.ref x.2.H.length,fQ) else none):=rfl
theorem ah.lc {ifs:List PySem.Expr}(h:ai d fr it H v H1) (ak:srcOf v ⟨H1,True⟩=some src) (bt:(Nat.beq di.line dz.line&&!nY nm sc.names)=true) (ar:gX fr nm=some .local) (c8:pd fr sc t it a=true)
 (af:cX d ⟨relabel fr sc,pb sc fr.cs,none,[]⟩ elt t ifs src 0 H1.length (H1++[.list []]) H2):ah d fr (.Assign [.Name nm di] (.ListComp elt [⟨t,it,ifs,a⟩] sc dz) p) H .next (d7 nm (.ref H1.length) fr.ls) H2:=fun aa o=>by
 obtain ⟨e5,e9,eM⟩:=h aa o
 obtain ⟨eg,dR,dC⟩:=af e5 e9
 obtain ⟨K,y⟩:=eM.and dC
 exact ⟨eg,dR,K,fun N n g7 IU=>(eC (Bool.and_eq_true_iff.mpr ⟨bt,congrArg h2 ar⟩)).trans (eh (IT.trans ((eC c8).trans ((bj (y N n g7 IU).1).trans ((bj (ak:srcOf v ⟨H1,e5⟩=some src)).trans (eh (y N n g7 IU).2))))))⟩
end
section
variable {A B:aj}{D D' : bG}{T G:List aj}{q:Bool}{k:Int}{d n:Nat}{ls:List (Str×V)}{p p' ib:Pos}{f:Bool→bG→bF×bG}{fr:a5}
theorem sd (ar:gX fr gM=some .cell) (hl:look gM fr.cs=some (T.length+7)):ai d fr (.Name gM p) (aJ A B D (bl T k++G)) (.ref 6) (aJ A B D (bl T k++G)):=ai.name (x4 ar hl (cY (HX (H:=aJ A B D T))))
theorem IV (ar:gX fr nj=some .cell) (hl:look nj fr.cs=some (T.length+7+1)):ai d fr (.Name nj p) (aJ A B D (bl T k++G)) (.int k) (aJ A B D (bl T k++G)):=ai.name (x4 ar hl (cY (HY (H:=aJ A B D T))))
noncomputable abbrev We (j:Nat):Scope:=HC (eH (bQ gT.1 j))
noncomputable abbrev se (j:Nat):PySem.Expr:=HD (eH (bQ gT.1 j))
noncomputable abbrev x6 (j:Nat):PySem.Expr:=BF (eH (bQ gT.1 j))
noncomputable abbrev sf (j:Nat) (T:List aj) (ls:List (Str×V)):a5:=⟨relabel (hy T []) (We j),[(gM,T.length+7),(nj,T.length+7+1)],none,ls⟩
theorem IW (hf:aq d (.obj (.ref 883)) [.ref 6,.int n,.bool false] (aJ A B D (bl T (n+1:Nat)++G)) (a7 (f false D).1) (aJ A B (f false D).2 (bl T (n+1:Nat)++G))) :
 ai d (sf 7 T ls) (se 7) (aJ A B D (bl T (n+1:Nat)++G)) (a7 (f false D).1) (aJ A B (f false D).2 (bl T (n+1:Nat)++G)) :=
 ai.bI (g:=.obj (.ref 883)) (vs:=[.ref 6,.int n,.bool false]) I (GE.cons (sd (by kernel_rfl) (by kernel_rfl)) (GE.cons (ai.bin (b:=.int 1) (IV (by kernel_rfl) (by kernel_rfl)) I fun s _=>by
  show some (V.int (((n+1:Nat):Int) - 1),s)=_
  have:((n+1:Nat):Int) - 1=n:=by omega
  rw[this]) (GE.cons I GE.nil))) hf
theorem IX (hf:aq d (.obj (.ref 883)) [.ref 6,.int n,.bool true] (aJ A B D (bl T (n+1:Nat)++G)) (a7 (f true D).1) (aJ A B (f true D).2 (bl T (n+1:Nat)++G))) :
 ai d (sf 8 T ls) (se 8) (aJ A B D (bl T (n+1:Nat)++G)) (a7 (f true D).1) (aJ A B (f true D).2 (bl T (n+1:Nat)++G)) :=
 ai.bI (g:=.obj (.ref 883)) (vs:=[.ref 6,.int n,.bool true]) I (GE.cons (sd (by kernel_rfl) (by kernel_rfl)) (GE.cons (ai.bin (b:=.int 1) (IV (by kernel_rfl) (by kernel_rfl)) I fun s _=>by
  show some (V.int (((n+1:Nat):Int) - 1),s)=_
  have:((n+1:Nat):Int) - 1=n:=by omega
  rw[this]) (GE.cons I GE.nil))) hf
end
section
variable {A B:aj}{D D' : bG}{T X G:List aj}{q:Bool}{k:Int}{d n:Nat}{ls:List (Str×V)}{p p' ib:Pos}{f:Bool→bG→bF×bG}{fr:a5}
theorem sg {acc:Nat}{x y:aj}(h:acc=X.length+7):(aJ A B D (X++[x])).set acc y=aJ A B D (X++[y]):=by subst h;exact rU (H:=aJ A B D X)
theorem p1 {x:aj}:(aJ A B D (X++[x]))[X.length+7]?=some x:=fc (H:=aJ A B D X)
theorem sh:([]:List V).length<aL:=by unfold aL;decide
theorem Cf {v:V}:[v].length<aL:=by show 1<aL;unfold aL;decide
theorem Cg {H:List aj}:aq 1 (.obj (.type "range")) [.int 1] H (.cx 0 1) H:=I
theorem Ci {H:List aj}:aq 1 (.obj (.type "range")) [.int 2] H (.cx 0 2) H:=I
theorem Cj {g:bG→bF×bG}(h:(D.take 2).1=0):cW g D=g (D.take 2).2:=by unfold cW;rw[h];rfl
theorem Ck {g:bG→bF×bG}(h:(D.take 2).1=1):cW g D=(.two (g (D.take 2).2).1 (g (g (D.take 2).2).2).1,(g (g (D.take 2).2).2).2):=by unfold cW;rw[h];rfl
theorem x7 {v:aj}(h:ek A B X) (aV:cE 0 v=true):ek A B (X++[v]):=⟨h.a,h.b,B4 (uN (by simp) h.t) (mf (Nat.zero_le _) _ aV)⟩
theorem Wf (aw:ek A B (bl T (n+1:Nat)++G)) (hd:8≤d)
 (hf:∀ D G,ek A B (bl T (n+1:Nat)++G)→aq d (.obj (.ref 883)) [.ref 6,.int n,.bool false] (aJ A B D (bl T (n+1:Nat)++G)) (a7 (f false D).1) (aJ A B (f false D).2 (bl T (n+1:Nat)++G)))
 (si:∀ D,fV (f false D).1=true) :
 ah d (hy T ls) (bQ gT.1 7) (aJ A B D (bl T (n+1:Nat)++G)) .next (d7 nd (.ref ((bl T (n+1:Nat)++G).length+7)) ls) (aJ A B (cW (f false) D).2 ((bl T (n+1:Nat)++G)++[.list (bE (cW (f false) D).1)])):=by
 have az:=oF (A:=A) (B:=B) (D:=D) (T:=bl T (n+1:Nat)++G) (w:=2) (by decide)
 have lt:=ig (D:=D) (w:=2) (by decide)
 have bA:(D.take 2).1=0∨(D.take 2).1=1:=by omega
 have iI:∀ us:List V,dS 0 us=true→ek A B (bl T (n+1:Nat)++(G++[.list us])):=fun us h=>by rw[←List.append_assoc];exact x7 aw h
 have ao:=fun ls D=>IW (A:=A) (B:=B) (f:=f) (ls:=ls) (hf D (G++[.list []]) (iI [] rfl))
 rcases bA with h |h
 ·rw[Cj h,pU (si _)]
  rw[h] at az
  have g1:=cX.step (d:=d) (fr:=sf 7 T []) (H:=aJ A B (D.take 2).2 ((bl T (n+1:Nat)++G)++[.list []])) (k:=0) (src:=.cx 0 1) (t:=x6 7) (elt:=se 7) (acc:=(bl T (n+1:Nat)++G).length+7) (xs:=[]) (v:=.int 0) rfl (by kernel_rfl) (bq.name (by kernel_rfl))
   (by rw[List.append_assoc];exact ao _ (D.take 2).2) (by rw[←List.append_assoc];exact p1) sh (by rw[←List.append_assoc,sg rfl];exact cX.done rfl (by kernel_rfl))
  exact ah.lc (v:=.cx 0 1) (src:=.cx 0 1) (H1:=aJ A B (D.take 2).2 (bl T (n+1:Nat)++G)) (ai.bI (g:=.obj (.type "range")) (vs:=[.int 1]) I (GE.cons (ai.bin (a:=.int 1) (b:=.int 0) I (ai.bI (g:=.obj (.ref 864)) (vs:=[.ref 6,.int 2]) I (GE.cons (sd (by kernel_rfl) rfl) (GE.cons I GE.nil)) (az.mono (by omega))) (fun s _=>by rfl)) GE.nil) (Cg.mono (by omega))) rfl (by kernel_rfl) (by kernel_rfl) (by kernel_rfl) g1
 ·rw[Ck h,oD]
  rw[h] at az
  have aC:=fun ls D'=>IW (A:=A) (B:=B) (f:=f) (ls:=ls) (hf D' (G++[.list [a7 (f false (D.take 2).2).1]]) (iI [_] (by show (cq 0 _&&true)=true;rw[jS];rfl)))
  have g1:=cX.step (d:=d) (fr:=sf 7 T []) (H:=aJ A B (D.take 2).2 ((bl T (n+1:Nat)++G)++[.list []])) (k:=0) (src:=.cx 0 2) (t:=x6 7) (elt:=se 7) (acc:=(bl T (n+1:Nat)++G).length+7) (xs:=[]) (v:=.int 0) rfl (by kernel_rfl) (bq.name (by kernel_rfl))
   (by rw[List.append_assoc];exact ao _ (D.take 2).2) (by rw[←List.append_assoc];exact p1) sh (by
    rw[←List.append_assoc,sg rfl]
    exact cX.step (k:=1) (v:=.int 1) (xs:=[a7 (f false (D.take 2).2).1]) rfl (by kernel_rfl) (bq.name (by kernel_rfl)) (by rw[List.append_assoc];exact aC _ (f false (D.take 2).2).2) (by rw[←List.append_assoc];exact p1) Cf (by rw[←List.append_assoc,sg rfl];exact cX.done rfl (by kernel_rfl)))
  exact ah.lc (v:=.cx 0 2) (src:=.cx 0 2) (H1:=aJ A B (D.take 2).2 (bl T (n+1:Nat)++G)) (ai.bI (g:=.obj (.type "range")) (vs:=[.int 2]) I (GE.cons (ai.bin (a:=.int 1) (b:=.int 1) I (ai.bI (g:=.obj (.ref 864)) (vs:=[.ref 6,.int 2]) I (GE.cons (sd (by kernel_rfl) rfl) (GE.cons I GE.nil)) (az.mono (by omega))) (fun s _=>by rfl)) GE.nil) (Ci.mono (by omega))) rfl (by kernel_rfl) (by kernel_rfl) (by kernel_rfl) g1
theorem Wg (aw:ek A B (bl T (n+1:Nat)++G)) (hd:8≤d)
 (hf:∀ D G,ek A B (bl T (n+1:Nat)++G)→aq d (.obj (.ref 883)) [.ref 6,.int n,.bool true] (aJ A B D (bl T (n+1:Nat)++G)) (a7 (f true D).1) (aJ A B (f true D).2 (bl T (n+1:Nat)++G)))
 (si:∀ D,fV (f true D).1=true) :
 ah d (hy T ls) (bQ gT.1 8) (aJ A B D (bl T (n+1:Nat)++G)) .next (d7 jL (.ref ((bl T (n+1:Nat)++G).length+7)) ls) (aJ A B (cW (f true) D).2 ((bl T (n+1:Nat)++G)++[.list (bE (cW (f true) D).1)])):=by
 have az:=oF (A:=A) (B:=B) (D:=D) (T:=bl T (n+1:Nat)++G) (w:=2) (by decide)
 have lt:=ig (D:=D) (w:=2) (by decide)
 have bA:(D.take 2).1=0∨(D.take 2).1=1:=by omega
 have iI:∀ us:List V,dS 0 us=true→ek A B (bl T (n+1:Nat)++(G++[.list us])):=fun us h=>by rw[←List.append_assoc];exact x7 aw h
 have ao:=fun ls D=>IX (A:=A) (B:=B) (f:=f) (ls:=ls) (hf D (G++[.list []]) (iI [] rfl))
 rcases bA with h |h
 ·rw[Cj h,pU (si _)]
  rw[h] at az
  have g1:=cX.step (d:=d) (fr:=sf 8 T []) (H:=aJ A B (D.take 2).2 ((bl T (n+1:Nat)++G)++[.list []])) (k:=0) (src:=.cx 0 1) (t:=x6 8) (elt:=se 8) (acc:=(bl T (n+1:Nat)++G).length+7) (xs:=[]) (v:=.int 0) rfl (by kernel_rfl) (bq.name (by kernel_rfl))
   (by rw[List.append_assoc];exact ao _ (D.take 2).2) (by rw[←List.append_assoc];exact p1) sh (by rw[←List.append_assoc,sg rfl];exact cX.done rfl (by kernel_rfl))
  exact ah.lc (v:=.cx 0 1) (src:=.cx 0 1) (H1:=aJ A B (D.take 2).2 (bl T (n+1:Nat)++G)) (ai.bI (g:=.obj (.type "range")) (vs:=[.int 1]) I (GE.cons (ai.bin (a:=.int 1) (b:=.int 0) I (ai.bI (g:=.obj (.ref 864)) (vs:=[.ref 6,.int 2]) I (GE.cons (sd (by kernel_rfl) rfl) (GE.cons I GE.nil)) (az.mono (by omega))) (fun s _=>by rfl)) GE.nil) (Cg.mono (by omega))) rfl (by kernel_rfl) (by kernel_rfl) (by kernel_rfl) g1
 ·rw[Ck h,oD]
  rw[h] at az
  have aC:=fun ls D'=>IX (A:=A) (B:=B) (f:=f) (ls:=ls) (hf D' (G++[.list [a7 (f true (D.take 2).2).1]]) (iI [_] (by show (cq 0 _&&true)=true;rw[jS];rfl)))
  have g1:=cX.step (d:=d) (fr:=sf 8 T []) (H:=aJ A B (D.take 2).2 ((bl T (n+1:Nat)++G)++[.list []])) (k:=0) (src:=.cx 0 2) (t:=x6 8) (elt:=se 8) (acc:=(bl T (n+1:Nat)++G).length+7) (xs:=[]) (v:=.int 0) rfl (by kernel_rfl) (bq.name (by kernel_rfl))
   (by rw[List.append_assoc];exact ao _ (D.take 2).2) (by rw[←List.append_assoc];exact p1) sh (by
    rw[←List.append_assoc,sg rfl]
    exact cX.step (k:=1) (v:=.int 1) (xs:=[a7 (f true (D.take 2).2).1]) rfl (by kernel_rfl) (bq.name (by kernel_rfl)) (by rw[List.append_assoc];exact aC _ (f true (D.take 2).2).2) (by rw[←List.append_assoc];exact p1) Cf (by rw[←List.append_assoc,sg rfl];exact cX.done rfl (by kernel_rfl)))
  exact ah.lc (v:=.cx 0 2) (src:=.cx 0 2) (H1:=aJ A B (D.take 2).2 (bl T (n+1:Nat)++G)) (ai.bI (g:=.obj (.type "range")) (vs:=[.int 2]) I (GE.cons (ai.bin (a:=.int 1) (b:=.int 1) I (ai.bI (g:=.obj (.ref 864)) (vs:=[.ref 6,.int 2]) I (GE.cons (sd (by kernel_rfl) rfl) (GE.cons I GE.nil)) (az.mono (by omega))) (fun s _=>by rfl)) GE.nil) (Ci.mono (by omega))) rfl (by kernel_rfl) (by kernel_rfl) (by kernel_rfl) g1
end
section
variable {A B:aj}{D D' : bG}{T X G:List aj}{q:Bool}{k:Int}{d n:Nat}{ls:List (Str×V)}{f:Bool→bG→bF×bG}
theorem x8 {g:bG→bF×bG}(cP:∀ D,fV (g D).1=true∧wf (g D).1=true):wf (cW g D).1=true:=by
 unfold cW
 split
 ·exact (cP _).2
 ·show (fV _&&fV _&&(wf _&&wf _))=true
  rw[(cP _).1,(cP _).1,(cP _).2,(cP _).2];rfl
theorem IY {i:Int}(hf:∀ q D,fV (f q D).1=true∧wf (f q D).1=true):fV (gd f q i D).1=true∧wf (gd f q i D).1=true:=by
 unfold gd
 split
 ·exact ⟨rfl,rfl⟩
 ·split <;> exact ⟨rfl,rfl⟩
 ·exact ⟨rfl,Bool.and_eq_true_iff.mpr (hf _ _)⟩
 ·exact ⟨rfl,Bool.and_eq_true_iff.mpr (hf _ _)⟩
 ·split
  ·exact ⟨rfl,rfl⟩
  ·exact ⟨rfl,Bool.and_eq_true_iff.mpr ⟨x8 (hf false),x8 (hf true)⟩⟩
 ·exact ⟨rfl,rfl⟩
theorem u4:∀(k:Nat) (q:Bool) (D:bG),fV (dG k q D).1=true∧wf (dG k q D).1=true
 |0,q,D=>IY fun _ _=>⟨rfl,rfl⟩
 |k+1,q,D=>IY fun q D=>u4 k q D
end
section
variable {A B:aj}{D D' : bG}{T X G:List aj}{q:Bool}{k:Int}{d n:Nat}{ls:List (Str×V)}{f:Bool→bG→bF×bG}{fh hc:List V}
noncomputable abbrev fx (T:List aj) (k:Int) (fh hc:List V):List aj:=(bl T k++[.list fh])++[.list hc]
noncomputable abbrev p2 (T:List aj) (k:Int) (fh:List V):List V:=[.ref ((bl T k).length+7),.str dE,.ref ((bl T k++[aj.list fh]).length+7),.none]
theorem Wh (aa:Prop) (aw:ek A B T) (h1:∀ v∈fh,isA v=true∧cq 0 v=true) (af:∀ v∈hc,isA v=true∧cq 0 v=true) :
 fin (aJ A B D T).length (.ref ((aJ A B D' (fx T k fh hc)).length+1)) ⟨aJ A B D' (fx T k fh hc)++[.list (p2 T k fh),.inst 853 [(c3,.str gK),(en,.int 1),(dU,.ref ((aJ A B D' (fx T k fh hc)).length+0)),(g8,eb)]],aa⟩=some (eo gK [.aN fh,.str dE,.aN hc,.none] eb,⟨aJ A B D' T,aa⟩):=by
 have dn:(aJ A B D T).length=7+T.length:=oG
 have ao:(aJ A B D' (fx T k fh hc)).length=7+T.length+4:=by rw[oG];simp;omega
 have aV:cq 0 eb=true:=by kernel_rfl
 have df:(aJ A B D' (fx T k fh hc)++[.list (p2 T k fh),.inst 853 [(c3,.str gK),(en,.int 1),(dU,.ref ((aJ A B D' (fx T k fh hc)).length+0)),(g8,eb)]])[(bl T k).length+7]?=some (.list fh):=cY (cY (H:=aJ A B D' (bl T k++[.list fh])) (fc (H:=aJ A B D' (bl T k))))
 have eG:(aJ A B D' (fx T k fh hc)++[.list (p2 T k fh),.inst 853 [(c3,.str gK),(en,.int 1),(dU,.ref ((aJ A B D' (fx T k fh hc)).length+0)),(g8,eb)]])[(bl T k++[aj.list fh]).length+7]?=some (.list hc):=cY (H:=aJ A B D' (fx T k fh hc)) (p1 (A:=A) (B:=B) (D:=D') (X:=bl T k++[aj.list fh]) (x:=.list hc))
 refine pL (rW (by rw[dn,ao];omega) (pY (k:=1)) ?_) ?_ ?_
 ·refine dx (ej rfl rfl)<|dx (ej rfl rfl)<|dx (ks (by rw[dn,ao];omega) (pY (k:=0)) ?_)<|dx (ej (by kernel_rfl) (nh (Nat.zero_le _) _ aV)) rX
  exact m9 (ks (by rw[dn];simp;omega) df (u3 h1))<|m9 (ej rfl rfl)<|m9 (ks (by rw[dn];simp;omega) eG (u3 af))<|m9 (ej rfl rfl) rY
 ·show (aJ A B D' (fx T k fh hc)++_).take (aJ A B D' T).length=_
  have:aJ A B D' (fx T k fh hc)=aJ A B D' T++([.cell (some (.ref 6)),.cell (some (.int k))]++[.list fh]++[.list hc]):=by
   unfold aJ;simp
  rw[this,List.append_assoc];exact rV
 ·exact u2 aw
end
section
variable {A B:aj}{D D' : bG}{T X G:List aj}{q:Bool}{k:Int}{d n:Nat}{ls:List (Str×V)}{f:Bool→bG→bF×bG}{fh hc:List V}
theorem Cm (t:bF):∀ v∈bE t,isA v=true∧cq 0 v=true:=by
 cases t with
 |two a b=>exact oH (p0 a) (mr (p0 b))
 |_=>exact mr (p0 _)
theorem x9 (t:bF):dS 0 (bE t)=true:=by
 have:∀ l:List V,(∀ v∈l,isA v=true∧cq 0 v=true)→dS 0 l=true:=fun l=>by
  induction l with
  |nil=>intro _;rfl
  |cons v r aI=>intro h;exact Bool.and_eq_true_iff.mpr ⟨(h v (.head _)).2,aI fun u m=>h u (.tail _ m)⟩
 exact this _ (Cm t)
noncomputable abbrev lj (q:Bool) (i:Int) (a b:V):List (Str×V):=[(lg,.bool q),(sb,.int i),(nd,a),(jL,b)]
theorem Wi (aw:ek A B T) (hd:8≤d)
 (hf:∀ q D G,ek A B (bl T (n+1:Nat)++G)→aq d (.obj (.ref 883)) [.ref 6,.int n,.bool q] (aJ A B D (bl T (n+1:Nat)++G)) (a7 (f q D).1) (aJ A B (f q D).2 (bl T (n+1:Nat)++G)))
 (si:∀ q D,fV (f q D).1=true) :
 ∃ ls,ab d (hy T (gy false 4)) (gT.1.drop 1) (aJ A B D (bl T (n+1:Nat)))
  (.ret (.ref ((aJ A B (cW (f true) (cW (f false) D).2).2.mn (fx T (n+1:Nat) (bE (cW (f false) D).1) (bE (cW (f true) (cW (f false) D).2).1))).length+1))) ls
  (aJ A B (cW (f true) (cW (f false) D).2).2.mn (fx T (n+1:Nat) (bE (cW (f false) D).1) (bE (cW (f true) (cW (f false) D).2).1))++[.list (p2 T (n+1:Nat) (bE (cW (f false) D).1)),.inst 853 [(c3,.str gK),(en,.int 1),(dU,.ref ((aJ A B (cW (f true) (cW (f false) D).2).2.mn (fx T (n+1:Nat) (bE (cW (f false) D).1) (bE (cW (f true) (cW (f false) D).2).1))).length+0)),(g8,eb)]]):=by
 have iH:=Wf (A:=A) (B:=B) (D:=D) (G:=[]) (ls:=gy false 4) (d:=d) (f:=f) (n:=n) (T:=T) (by rw[List.append_nil];exact jU aw) hd (hf false) (si false)
 simp only[List.append_nil] at iH
 have aK:ek A B (bl T (n+1:Nat)++[.list (bE (cW (f false) D).1)]):=x7 (jU aw) (x9 _)
 have hO:=Wg (A:=A) (B:=B) (D:=(cW (f false) D).2) (G:=[.list (bE (cW (f false) D).1)]) (ls:=[(lg,.bool false),(sb,.int 4),(nd,.ref ((bl T (n+1:Nat)).length+7))]) (d:=d) (f:=f) (n:=n) (T:=T) aK hd (hf true) (si true)
 generalize cW (f true) (cW (f false) D).2=cH at *
 generalize cW (f false) D=dc at *
 have bw:ek A B (fx T (n+1:Nat) (bE dc.1) (bE cH.1)):=x7 aK (x9 _)
 let Y:List aj:=[.list (p2 T (n+1:Nat) (bE dc.1)),.inst 853 [(c3,.str gK),(en,.int 1),(dU,.ref ((aJ A B cH.2 (fx T (n+1:Nat) (bE dc.1) (bE cH.1))).length+0)),(g8,.none)]]
 have da:ek A B (fx T (n+1:Nat) (bE dc.1) (bE cH.1)++Y):=by
  have e:(fx T (n+1:Nat) (bE dc.1) (bE cH.1)).length=(bl T (n+1:Nat)).length+2:=by simp
  refine ⟨bw.a,bw.b,?_⟩
  rw[List.all_append,uN (by simp) bw.t]
  have cL:7+(fx T (n+1:Nat) (bE dc.1) (bE cH.1)++Y).length=7+(bl T (n+1:Nat)).length+4:=by rw[List.length_append,e];show 7+(_+2+2)=_;omega
  rw[cL]
  show (true&&((Nat.blt _ _&&(true&&(Nat.blt _ _&&(true&&true))))&&((true&&(true&&(Nat.blt _ _&&(true&&true))))&&true)))=true
  rw[Nat.blt_eq.mpr (by omega),Nat.blt_eq.mpr (by simp;omega),Nat.blt_eq.mpr (by rw[oG,e];omega)];rfl
 let r9:List (Str×V):=lj false 4 (.ref ((bl T (n+1:Nat)).length+7)) (.ref ((bl T (n+1:Nat)++[aj.list (bE dc.1)]).length+7))
 let R:Nat:=(aJ A B cH.2 (fx T (n+1:Nat) (bE dc.1) (bE cH.1))).length
 let ni:List (Str×V):=r9++[(rM,.ref (R+1))]
 have mn:=IM (A:=A) (B:=B) (D:=cH.2) (T:=fx T (n+1:Nat) (bE dc.1) (bE cH.1)++Y) da
 refine ⟨ni,?_⟩
 exact ab.cons (ah.iff I ab.nil)<|ab.cons (ah.iff I ab.nil)<|ab.cons (ah.iff I ab.nil)<|ab.cons (ah.iff I ab.nil)<|ab.cons (ah.iff I ab.nil)<|ab.cons (ah.iff I ab.nil) <|
  ab.cons iH<|ab.cons (bJ:=r9) hO <|
  ab.cons (bJ:=ni) (H1:=aJ A B cH.2 (fx T (n+1:Nat) (bE dc.1) (bE cH.1)++Y)) (ah.assign (v:=.ref (R+1)) (ai.bI (g:=.obj (.ref 853)) (vs:=[.str gK,.int 1,.ref (R+0)]) I (GE.cons I (GE.cons I (GE.cons (ai.list (vs:=p2 T (n+1:Nat) (bE dc.1)) (H1:=aJ A B cH.2 (fx T (n+1:Nat) (bE dc.1) (bE cH.1))) I) GE.nil)))
   ((Cb (H:=aJ A B cH.2 (fx T (n+1:Nat) (bE dc.1) (bE cH.1))) (G:=[.list (p2 T (n+1:Nat) (bE dc.1))]) (.str gK) (.int 1) (.ref (R+0))).mono (by omega))) (bq.name (by kernel_rfl))) <|
  ab.cons (bJ:=ni) (ah.assign (v:=eb) (ai.bI (g:=.obj (.ref 890)) (vs:=[]) I GE.nil (mn.mono (by omega)))
   (bq.at (H:=aJ A B cH.2.mn (fx T (n+1:Nat) (bE dc.1) (bE cH.1))) (k:=1) (G:=Y) I rfl (by kernel_rfl))) <|
  ab.ret (ah.ret I)
end
section
variable {A B:aj}{D D' : bG}{T X G:List aj}{q:Bool}{d n:Nat}{ls:List (Str×V)}{f:Bool→bG→bF×bG}
noncomputable def ll (k:Nat):Int:=match k with |0=>2 |_+1=>6
theorem Wj (k:Nat) (hd:8≤d):ah d (hy T [(lg,.bool q)]) (bQ gT.1 0) (aJ A B D (bl T (k:Nat))) .next (gy q (D.take (ll k)).1) (aJ A B (D.take (ll k)).2 (bl T (k:Nat))):=by
 have az:=oF (A:=A) (B:=B) (D:=D) (T:=bl T (k:Nat)) (w:=ll k) (by cases k with |zero=>exact (by decide:(0:Int)<2) |succ k=>exact (by decide:(0:Int)<6))
 cases k with
 |zero=>exact ah.assign (ai.bI (g:=.obj (.ref 864)) (vs:=[.ref 6,.int 2]) I (GE.cons mq (GE.cons (ai.iff (GT.cmp (a:=.int ((0:Nat):Int)) (b:=.int 0) Cd I (by intros;kernel_rfl)) I) GE.nil)) (az.mono (by omega))) (bq.name (by kernel_rfl))
 |succ k=>exact ah.assign (ai.bI (g:=.obj (.ref 864)) (vs:=[.ref 6,.int 6]) I (GE.cons mq (GE.cons (ai.cm (GT.cmp (a:=.int ((k+1:Nat):Int)) (b:=.int 0) Cd I (by
  have:(0:Int)<((k+1:Nat):Int):=by omega
  exact xB (decide_eq_true this))) I) GE.nil)) (az.mono (by omega))) (bq.name (by kernel_rfl))
theorem IZ {t:bF}{v:V}{H1:List aj}(k:Nat) (hd:8≤d) (h:ab d (hy T (gy q (D.take (ll k)).1)) (gT.1.drop 1) (aJ A B (D.take (ll k)).2 (bl T (k:Nat))) (.ret v) ls H1)
 (ar:∀ aa,fin (aJ A B D T).length v ⟨H1,aa⟩=some (a7 t,⟨aJ A B D' T,aa⟩)):aq (d+1) (.obj (.ref 883)) [.ref 6,.int (k:Nat),.bool q] (aJ A B D T) (a7 t) (aJ A B D' T) :=
 aq.V7 (fi:=⟨qL,[gM,nj,lg],[],gT.1,none,true⟩) (vs:=[.ref 6,.int (k:Nat),.bool q]) (cN:=[(lg,.bool q)]) (cs:=[.cell (some (.ref 6)),.cell (some (.int (k:Nat)))]) (by kernel_rfl) rfl V8 (by kernel_rfl) (by kernel_rfl) rfl (by kernel_rfl)
  (ab.cons (Wj k hd) h) ar
theorem oI {t:bF}{k:Int}(aw:ek A B T) (aa:Prop):fin (aJ A B D T).length (a7 t) ⟨aJ A B D' (bl T k),aa⟩=some (a7 t,⟨aJ A B D' T,aa⟩):=by
 refine pL (ej (p0 t).1 (nh (Nat.zero_le _) _ (p0 t).2)) ?_ (u2 aw)
 show (aJ A B D' T++[_,_]).take (aJ A B D' T).length=_
 exact rV
end
section
variable {A B:aj}
theorem Cn:∀(k:Nat) (q:Bool) (D:bG) (T:List aj),ek A B T→aq (12+k) (.obj (.ref 883)) [.ref 6,.int (k:Nat),.bool q] (aJ A B D T) (a7 (dG k q D).1) (aJ A B (dG k q D).2 T)
 |0,q,D,T,aw=>by
  have lt:=ig (D:=D) (w:=2) (by decide)
  show aq 12 _ _ _ (a7 (gd _ q (D.take 2).1 (D.take 2).2).1) (aJ A B (gd _ q (D.take 2).1 (D.take 2).2).2 T)
  have h:(D.take (ll 0)).1=0∨(D.take (ll 0)).1=1:=by show (D.take 2).1=0∨(D.take 2).1=1;omega
  have key:∀(i:Int) (cz:bG),(i=0∨i=1)→∃ ls,ab 11 (hy T (gy q i)) (gT.1.drop 1) (aJ A B cz (bl T (0:Nat))) (.ret (a7 (gd (fun _ D=>(.el,D)) q i cz).1)) ls (aJ A B (gd (fun _ D=>(.el,D)) q i cz).2 (bl T (0:Nat))):=fun i cz h=>by
   rcases h with rfl |rfl
   ·exact ⟨_,IQ aw (by omega)⟩
   ·cases q with
    |true=>exact ⟨_,Ce (ss:=[]) aw (by omega) (.inl rfl)⟩
    |false=>exact ⟨_,IS aw (by omega)⟩
  obtain ⟨ls,g⟩:=key _ (D.take (ll 0)).2 h
  exact IZ 0 (by omega) g (oI aw)
 |k+1,q,D,T,aw=>by
  have lt:=ig (D:=D) (w:=6) (by decide)
  show aq (12+k+1) _ _ _ (a7 (gd (dG k) q (D.take 6).1 (D.take 6).2).1) (aJ A B (gd (dG k) q (D.take 6).1 (D.take 6).2).2 T)
  have hf:∀ q D G,ek A B (bl T (k+1:Nat)++G)→aq (12+k) (.obj (.ref 883)) [.ref 6,.int (k:Nat),.bool q] (aJ A B D (bl T (k+1:Nat)++G)) (a7 (dG k q D).1) (aJ A B (dG k q D).2 (bl T (k+1:Nat)++G)):=fun q D G h=>Cn k q D _ h
  have I0:∀ q D,aq (12+k) (.obj (.ref 883)) [.ref 6,.int (k:Nat),.bool q] (aJ A B D (bl T (k+1:Nat))) (a7 (dG k q D).1) (aJ A B (dG k q D).2 (bl T (k+1:Nat))):=fun q D=>Cn k q D _ (jU aw)
  have h:0≤(D.take (ll (k+1))).1∧(D.take (ll (k+1))).1<6:=lt
  have key:∀(i:Int) (cz:bG),(0≤i∧i<6)→∃ ls v H1,ab (12+k) (hy T (gy q i)) (gT.1.drop 1) (aJ A B cz (bl T (k+1:Nat))) (.ret v) ls H1∧∀ aa,fin (aJ A B D T).length v ⟨H1,aa⟩=some (a7 (gd (dG k) q i cz).1,⟨aJ A B (gd (dG k) q i cz).2 T,aa⟩):=fun i cz h=>by
   have:i=0∨i=1∨i=2∨i=3∨i=4∨i=5:=by omega
   rcases this with rfl |rfl |rfl |rfl |rfl |rfl
   ·exact ⟨_,_,_,IQ aw (by omega),oI aw⟩
   ·cases q with
    |true=>exact ⟨_,_,_,Ce (ss:=[]) aw (by omega) (.inl rfl),oI aw⟩
    |false=>exact ⟨_,_,_,IS aw (by omega),oI aw⟩
   ·exact ⟨_,_,_,Wc (f:=dG k) aw (by omega) (fun D=>I0 q D),oI aw⟩
   ·exact ⟨_,_,_,Wd (f:=dG k) aw (by omega) (fun D=>I0 q D),oI aw⟩
   ·cases q with
    |true=>exact ⟨_,_,_,Ce (ss:=[]) aw (by omega) (.inr rfl),oI aw⟩
    |false =>
     obtain ⟨ls,g⟩:=Wi (D:=cz) (f:=dG k) (n:=k) aw (by omega) hf (fun q D=>(u4 k q D).1)
     refine ⟨_,_,_,g,fun aa=>?_⟩
     have:=Wh (D:=D) (D':=(cW (dG k true) (cW (dG k false) cz).2).2.mn) (T:=T) (k:=((k+1:Nat):Int)) aa aw (Cm (cW (dG k false) cz).1) (Cm (cW (dG k true) (cW (dG k false) cz).2).1)
     rw[←u1] at this
     exact this
   ·exact ⟨_,_,_,Wb aw (by omega),oI aw⟩
  obtain ⟨ls,v,H1,g,e⟩:=key _ (D.take (ll (k+1))).2 h
  exact IZ (k+1) (by omega) g e
end
section
variable {A B:aj}{D D' : bG}{d:Nat}{ls:List (Str×V)}{us:List V}
noncomputable abbrev ij (ls:List (Str×V)):a5:=⟨qT.scope,[(gM,2)],some (1,"law.<locals>.<lambda>"),ls⟩
noncomputable abbrev I1 (j:Nat):Scope:=HC (eH (bQ fB.1 j))
noncomputable abbrev p3 (j:Nat):PySem.Expr:=HD (eH (bQ fB.1 j))
noncomputable abbrev ya (j:Nat):PySem.Expr:=BF (eH (bQ fB.1 j))
noncomputable abbrev sj (j:Nat) (ls:List (Str×V)):a5:=⟨relabel (ij []) (I1 j),[(gM,2)],none,ls⟩
theorem I2 (dy:cE 7 A=true) (hY:cE 7 B=true) (dI:dS 0 us=true):ai 15 (sj 1 ls) (p3 1) (aJ A B D [.list us]) (a7 (dG 3 false D).1) (aJ A B (dG 3 false D).2 [.list us]) :=
 ai.bI (g:=.obj (.ref 883)) (vs:=[.ref 6,.int (3:Nat),.bool false]) I I (Cn 3 false D [.list us] ⟨dy,hY,by show (dS _ us&&true)=true;rw[i8 (Nat.zero_le _) _ dI];rfl⟩)
theorem Wk (dy:cE 7 A=true) (hY:cE 7 B=true):ah 15 (ij ls) (bQ fB.1 1) (aJ A B D []) .next (d7 fE (.ref 7) ls) (aJ A B (cW (dG 3 false) D).2 [.list (bE (cW (dG 3 false) D).1)]):=by
 have az:=oF (A:=A) (B:=B) (D:=D) (T:=[]) (w:=2) (by decide)
 have lt:=ig (D:=D) (w:=2) (by decide)
 have bA:(D.take 2).1=0∨(D.take 2).1=1:=by omega
 have ao:=fun ls D=>I2 (A:=A) (B:=B) (D:=D) (ls:=ls) (us:=[]) dy hY rfl
 rcases bA with h |h
 ·rw[Cj h,pU (u4 3 false _).1]
  rw[h] at az
  have g1:=cX.step (d:=15) (fr:=sj 1 []) (H:=aJ A B (D.take 2).2 [.list []]) (k:=0) (src:=.cx 0 1) (t:=ya 1) (elt:=p3 1) (acc:=7) (xs:=[]) (v:=.int 0) rfl (by kernel_rfl) (bq.name (by kernel_rfl))
   (ao _ (D.take 2).2) rfl sh (cX.done (H:=aJ A B (dG 3 false (D.take 2).2).2 [.list [a7 (dG 3 false (D.take 2).2).1]]) rfl (by kernel_rfl))
  exact ah.lc (v:=.cx 0 1) (src:=.cx 0 1) (H1:=aJ A B (D.take 2).2 []) (ai.bI (g:=.obj (.type "range")) (vs:=[.int 1]) I (GE.cons (ai.bin (a:=.int 1) (b:=.int 0) I (ai.bI (g:=.obj (.ref 864)) (vs:=[.ref 6,.int 2]) I I (az.mono (by omega))) (fun s _=>by rfl)) GE.nil) (Cg.mono (by omega))) rfl (by kernel_rfl) (by kernel_rfl) (by kernel_rfl) g1
 ·rw[Ck h,oD]
  rw[h] at az
  have g1:=cX.step (d:=15) (fr:=sj 1 []) (H:=aJ A B (D.take 2).2 [.list []]) (k:=0) (src:=.cx 0 2) (t:=ya 1) (elt:=p3 1) (acc:=7) (xs:=[]) (v:=.int 0) rfl (by kernel_rfl) (bq.name (by kernel_rfl))
   (ao _ (D.take 2).2) rfl sh (cX.step (k:=1) (v:=.int 1) (xs:=[a7 (dG 3 false (D.take 2).2).1]) (H:=aJ A B (dG 3 false (D.take 2).2).2 [.list [a7 (dG 3 false (D.take 2).2).1]]) rfl (by kernel_rfl) (bq.name (by kernel_rfl)) (I2 dy hY (by show (cq 0 _&&true)=true;rw[jS];rfl)) rfl Cf
    (cX.done (H:=aJ A B (dG 3 false (dG 3 false (D.take 2).2).2).2 [.list [a7 (dG 3 false (D.take 2).2).1,a7 (dG 3 false (dG 3 false (D.take 2).2).2).1]]) rfl (by kernel_rfl)))
  exact ah.lc (v:=.cx 0 2) (src:=.cx 0 2) (H1:=aJ A B (D.take 2).2 []) (ai.bI (g:=.obj (.type "range")) (vs:=[.int 2]) I (GE.cons (ai.bin (a:=.int 1) (b:=.int 1) I (ai.bI (g:=.obj (.ref 864)) (vs:=[.ref 6,.int 2]) I I (az.mono (by omega))) (fun s _=>by rfl)) GE.nil) (Ci.mono (by omega))) rfl (by kernel_rfl) (by kernel_rfl) (by kernel_rfl) g1
end
noncomputable def nk:Nat→bG→List V×bG
 |0,D=>([],D)
 |n+1,D=>(.str (kX (D.take 3).1.toNat)::(nk n (D.take 3).2).1,(nk n (D.take 3).2).2)
section
variable {A B L:aj}{D D' : bG}{d:Nat}{ls:List (Str×V)}{us:List V}
theorem Wl {X:List aj}:ai 15 (sj 2 ls) (p3 2) (aJ A B D X) (.str (kX (D.take 3).1.toNat)) (aJ A B (D.take 3).2 X):=by
 have az:=oF (A:=A) (B:=B) (D:=D) (T:=X) (w:=3) (by decide)
 have lt:=ig (D:=D) (w:=3) (by decide)
 have c:∀ i:Int,0≤i∧i<3→∀ H,aq 1 (.obj (.type "str")) [.int i] H (.str (kX i.toNat)) H:=fun i h H=>by
  have:i=0∨i=1∨i=2:=by omega
  rcases this with rfl |rfl |rfl <;> exact I
 exact ai.bI (g:=.obj (.type "str")) (vs:=[.int (D.take 3).1]) I (GE.cons (ai.bI (g:=.obj (.ref 864)) (vs:=[.ref 6,.int 3]) I I (az.mono (by omega))) GE.nil) ((c _ lt _).mono (by omega))
theorem Wm {k:Nat}{H:List aj}(h:k<10):itemAt (.cx 0 10) k H=some (some (.int (0+k))):=by
 have:(0:Int)+(k:Int)<10:=by omega
 unfold itemAt;simp only[decide_eq_true this]
theorem Wn {k:Nat}{H:List aj}(h : ¬ k<10):itemAt (.cx 0 10) k H=some none:=by
 have : ¬ (0:Int)+(k:Int)<10:=by omega
 unfold itemAt;simp only[decide_eq_false this]
theorem I3:∀(n k:Nat) (D:bG) (xs:List V) (ls:List (Str×V)),k+n=10→xs.length=k→cX 15 (sj 2 ls) (p3 2) (ya 2) [] (.cx 0 10) k 8 (aJ A B D [L,.list xs]) (aJ A B (nk n D).2 [L,.list (xs++(nk n D).1)])
 |0,k,D,xs,ls,h,bA=>by
  show cX 15 (sj 2 ls) (p3 2) (ya 2) [] (.cx 0 10) k 8 (aJ A B D [L,.list xs]) (aJ A B D [L,.list (xs++[])])
  rw[List.append_nil];exact cX.done (Wn (by omega)) (by kernel_rfl)
 |n+1,k,D,xs,ls,h,bA=>by
  have aI:=I3 n (k+1) (D.take 3).2 (xs++[.str (kX (D.take 3).1.toNat)]) (d7 jT (.int (0+k)) ls) (by omega) (by simp[bA])
  rw[List.append_assoc] at aI
  exact cX.step (Wm (by omega)) (by kernel_rfl) (bq.name (by kernel_rfl)) Wl rfl (by unfold aL;omega) aI
theorem Wo:ah 15 (ij ls) (bQ fB.1 2) (aJ A B D [L]) .next (d7 ⟨⟨[100,105,103,105,116,115]⟩⟩ (.ref 8) ls) (aJ A B (nk 10 D).2 [L,.list (nk 10 D).1]) :=
 ah.lc (v:=.cx 0 10) (src:=.cx 0 10) (H1:=aJ A B D [L]) I rfl (by kernel_rfl) (by kernel_rfl) (by kernel_rfl) (I3 10 0 D [] [] rfl rfl)
end
theorem I4:∀ l:List Int,∃ m,nS (l.map V.int)=some m
 |[]=>⟨0,rfl⟩
 |a::r=>let ⟨m,h⟩:=I4 r;⟨a+m,by show ((eL (.int a)).bind fun i=>(nS (r.map V.int)).map fun s=>i+s)=_;rw[h];rfl⟩
section
variable {d:Nat}{fr:a5}{H H1 H2:List aj}{l r:PySem.Expr}{a b m:Int}{p:Pos}{vs:List V}{ns:List Int}
theorem ai.mod (h:ai d fr l H (.int a) H1) (af:ai d fr r H1 (.int b) H2) (bt:0<b):ai d fr (.BinOp l .Mod r p) H (.int (a.fmod b)) H2:=fun aa o=>by
 obtain ⟨e5,e9,x⟩:=h aa o
 obtain ⟨eg,dR,y⟩:=af e5 e9
 exact ⟨eg∧0<b,⟨dR,bt⟩,(x.and y).step fun N n bc q=>(bj q.1).trans (bj q.2)⟩
theorem aq.sum {k:Nat}(h:H[k]?=some (.list vs)) (hm:nS vs=some m):aq 1 (.obj (.builtin "sum")) [.ref k] H (.int m) H:=aq.bi fun aa=>by
 show nU _ _ _=_
 unfold nU
 rw[if_neg (by decide),if_neg (by decide),if_neg (by decide),if_pos rfl]
 exact (bj (congrArg eF h:kf (.ref k) ⟨H,aa⟩=some vs)).trans (eh hm)
noncomputable abbrev kE:Str:=⟨⟨[115,99,114,105,112,116]⟩⟩
noncomputable abbrev oJ:aj:=.tab "_law_view.<locals>.<lambda>" []
noncomputable abbrev oK:aj:=.tab "law.<locals>.<lambda>" []
theorem Wq (hm:nS (vs.take 60)=some m):ah 15 (ij [(kE,.aN vs)]) (bQ fB.1 0) [oJ,oK,.cell none] .next [(kE,.aN vs)] [oJ,oK,.cell (some (.ref 6)),.list (vs.take 60),.list (vs.take 60),.list (vs.take 60),.list [.ref 4,.int 0,.int (m.fmod 997)]] :=
 ah.assign (v:=.ref 6) (H1:=[oJ,oK,.cell none,.list (vs.take 60),.list (vs.take 60),.list (vs.take 60),.list [.ref 4,.int 0,.int (m.fmod 997)]])
  (ai.list (H1:=[oJ,oK,.cell none,.list (vs.take 60),.list (vs.take 60),.list (vs.take 60)]) (GE.cons (v:=.ref 4) (H1:=[oJ,oK,.cell none,.list (vs.take 60),.list (vs.take 60)]) ic (GE.cons (v:=.int 0) I (GE.cons
   (ai.mod (ai.bI (g:=.obj (.builtin "sum")) (vs:=[.ref 5]) (H2:=[oJ,oK,.cell none,.list (vs.take 60),.list (vs.take 60),.list (vs.take 60)]) I (GE.cons ic GE.nil) ((aq.sum (k:=5) rfl hm).mono (by omega))) (b:=997) I (by decide)) GE.nil))))
  ic
end
section
variable {A B L Q:aj}{D:bG}{ls:List (Str×V)}
noncomputable def iN:List (Nat×Nat):=((Uq (eH (bQ fB.1 4))).map fun y=>[(y.2.2.2.line,y.2.2.2.col)]).getD []
noncomputable def hT (A B:aj) (R:List (Nat×Nat)) (D:bG) (L Q:aj):Pre:=⟨.tab "_law_view.<locals>.<lambda>" fw,.tab "law.<locals>.<lambda>" R,.cell (some (.ref 6)),A,.list (D.l.map V.int),B,.list [.ref 4,.int D.n,.int D.m],L,Q⟩
noncomputable def hg:au:=⟨[],[],0,[],[],[],[],.int 0,[]⟩
noncomputable abbrev I5:Str:=⟨⟨[109,97,107,101,114]⟩⟩
noncomputable abbrev mid (P:Pre):List aj:=(mk P hg [.list []]).set 9 (.inst 834 [(g8,eb),(fF,eb),(rI,.ref 11),(Hq,.ref 22),(pF,.int 0),(Hv,.none)])
theorem Wr (aw:ek A B [L,Q]):ah 15 (ij ls) (bQ fB.1 3) (aJ A B D [L,Q]) .next (d7 I5 (.ref 9) ls) (mid (hT A B [] D L Q)):=by
 have v:=IM (A:=A) (B:=B) (D:=D) (T:=[L,Q]) aw
 have c:aq 15 (.obj (.ref 834)) [eb,.str dE] (aJ A B D.mn [L,Q]) (.ref 9) (mid (hT A B [] D L Q)):=(Gt.run (d:=8) 60 fun N n aa=>by kernel_rfl:aq 8 _ _ _ _ _).mono (by omega)
 exact ah.assign (v:=.ref 9) (ai.bI (g:=.obj (.ref 834)) (vs:=[eb,.str dE]) I (GE.cons (ai.bI (g:=.obj (.ref 890)) (vs:=[]) I GE.nil (v.mono (by omega))) (GE.cons I GE.nil)) c) (bq.name (by kernel_rfl))
noncomputable abbrev Co:Str:=⟨⟨[100,105,103,105,116,115]⟩⟩
noncomputable abbrev kF (v:V):List (Str×V):=[(kE,v),(fE,.ref 7),(Co,.ref 8),(I5,.ref 9)]
theorem Ws {v:V}:ah 15 (ij (kF v)) (bQ fB.1 4) (mid (hT A B [] D L Q)) .next (kF v) (mk (hT A B iN D L Q) hg [.list []]) :=
 ah.assign (v:=rR) (H1:=mid (hT A B iN D L Q)) ic (bq.attr (v:=.ref 9) I (by kernel_rfl))
end
section
variable {D:bG}{q:Bool}{i:Int}{m:Nat}{f:Bool→bG→bF×bG}
theorem I6 {u5:bF→Nat}{g:bG→bF×bG}(cP:∀ D,u5 (g D).1≤m) (af:∀ a b,u5 a≤m→u5 b≤m→u5 (.two a b)≤i.toNat) (h1:m≤i.toNat):u5 (cW g D).1≤i.toNat:=by
 unfold cW
 split
 ·exact Nat.le_trans (cP _) h1
 ·exact af _ _ (cP _) (cP _)
theorem yb {g:bG→bF×bG}(cP:∀ D,cQ (g D).1≤m):cQ (cW g D).1≤m+m:=by
 have:=I6 (i:=((m+m:Nat):Int)) (D:=D) cP (fun a b h1 af=>Nat.add_le_add h1 af) (Nat.le_add_left _ _)
 exact this
theorem yc {g:bG→bF×bG}(cP:∀ D,bV (g D).1≤m):bV (cW g D).1≤m:=by
 have:=I6 (i:=(m:Int)) (D:=D) cP (fun a b h1 af=>Nat.max_le.mpr ⟨h1,af⟩) (Nat.le_refl _)
 exact this
theorem I7 (hf:∀ q D,cQ (f q D).1≤m):cQ (gd f q i D).1≤m+m+(m+m)+80:=by
 unfold gd
 split
 ·exact Nat.le_trans (by decide:10≤80) (Nat.le_add_left _ _)
 ·split <;> exact Nat.le_trans (by decide:10≤80) (Nat.le_add_left _ _)
 ·exact Nat.add_le_add (Nat.le_trans (hf _ _) (Nat.le_trans (Nat.le_add_right _ _) (Nat.le_add_right _ _))) (by decide)
 ·exact Nat.add_le_add (Nat.le_trans (hf _ _) (Nat.le_trans (Nat.le_add_right _ _) (Nat.le_add_right _ _))) (by decide)
 ·split
  ·exact Nat.le_trans (by decide:10≤80) (Nat.le_add_left _ _)
  ·exact Nat.add_le_add (Nat.add_le_add (yb (hf _)) (yb (hf _))) (by decide)
 ·exact Nat.le_trans (by decide:10≤80) (Nat.le_add_left _ _)
theorem I8 (hf:∀ q D,bV (f q D).1≤m) (hm:20≤m):bV (gd f q i D).1≤m+10:=by
 unfold gd
 split
 ·exact Nat.le_trans hm (Nat.le_add_right _ _)
 ·split <;> exact Nat.le_trans hm (Nat.le_add_right _ _)
 ·exact Nat.add_le_add (hf _ _) (Nat.le_refl _)
 ·exact Nat.add_le_add (hf _ _) (Nat.le_refl _)
 ·split
  ·exact Nat.le_trans hm (Nat.le_add_right _ _)
  ·exact Nat.add_le_add (Nat.max_le.mpr ⟨yc (hf _),yc (hf _)⟩) (Nat.le_refl _)
 ·exact Nat.le_trans hm (Nat.le_add_right _ _)
noncomputable def p4:Nat→Nat
 |0=>120
 |k+1=>p4 k+p4 k+(p4 k+p4 k)+80
theorem Cp:∀(k:Nat) (q:Bool) (D:bG),cQ (dG k q D).1≤p4 k
 |0,q,D=>I7 (m:=10) fun _ _=>Nat.le_refl 10
 |k+1,q,D=>I7 fun q D=>Cp k q D
theorem Cq:∀(k:Nat) (q:Bool) (D:bG),bV (dG k q D).1≤30+10 * k
 |0,q,D=>I8 (m:=20) (fun _ _=>Nat.le_refl 20) (Nat.le_refl _)
 |k+1,q,D=>I8 (fun q D=>Cq k q D) (Nat.le_trans (by decide) (Nat.le_add_right _ _))
end
noncomputable abbrev cR (D:bG):bF:=(cW (dG 3 false) D).1
section
variable {A B Q:aj}{D E:bG}{v:V}
theorem Wt {R:List (Nat×Nat)}{t:bF}:uS (hT A B R D (.list (bE t)) Q) [.list []] (.ref 7) (.ref 7) (bE t):=⟨fun _=>rfl,fun _ _ _=>rfl,fun _=>rfl⟩
theorem I9 (dy:cE 7 A=true) (hY:cE 7 B=true) (sX:cE 7 Q=true):Inv (hT A B iN D (.list (bE (cR E))) Q) hg [] [] 0 (cQ (cR E)):=by
 have aw:cQ (cR E)≤18720:=yb (m:=p4 3) fun D=>Cp 3 false D
 refine ⟨?_,rfl,(fun x m=>nomatch m),rfl,⟨rfl,rfl,rfl,rfl,rfl,rfl,rfl⟩,?_,?_,rfl⟩
 ·unfold uO
  simp only[List.all_cons,List.all_nil,Bool.and_eq_true]
  exact ⟨rfl,rfl,rfl,mf (by decide) _ dy,x2 _,mf (by decide) _ hY,rfl,i8 (Nat.zero_le _) _ (x9 _),mf (by decide) _ sX,trivial⟩
 ·show 0+cQ (cR E)+60<1048576;omega
 ·show 0+cQ (cR E)+60<1048576;omega
theorem Wu (dy:cE 7 A=true) (hY:cE 7 B=true) (sX:cE 7 Q=true):ah 70 (ij (kF v)) (bQ fB.1 5) (mk (hT A B iN D (.list (bE (cR E))) Q) hg [.list []]) .next (kF v) (mk (hT A B iN D (.list (bE (cR E))) Q) (comp (cR E) hg) [.list []]):=by
 have b:=(pW (cR E) (x8 fun D=>u4 3 false D)).2 _ hg [] [] 0 (.ref 7) (.ref 7) (I9 (A:=A) (B:=B) (D:=D) (Q:=Q) (E:=E) dy hY sX) Wt
 have hd:bV (cR E)≤60:=yc fun D=>Cq 3 false D
 exact ah.expr (ai.a0 (v:=.ref 9) (first:=[.ref 9]) (vs:=[.ref 7]) I rfl I (b.mono (by omega)))
end
noncomputable def nq (op:Int):Bool:=[4,6,9,10,13,14,17,18,20,24,26,66,67,76,81].contains op
noncomputable def mu (op:Int):Bool:=[58,59,77].contains op
noncomputable abbrev kG (ag:List V) (l:Nat):Prop:=∃ p:Nat,ag[l]?=some (.int p)
inductive ik (A:Nat→Prop) (ag:List V):V→Prop
 |o {op}:nq op=true→ik A ag (eN op .none)
 |i {op i}:nq op=true→ik A ag (eN op (.int i))
 |j {op}{l:Nat}:mu op=true→A l∨kG ag l→ik A ag (eN op (.int l))
inductive p5 (A:Nat→Prop) (ag:List V):V→Prop
 |mk {x y z:Nat}{d:Int}:A x∨kG ag x→A y∨kG ag y→A z∨kG ag z→p5 A ag (.tup [.int x,.int y,.int z,.int d,.bool false])
structure aA (A:Nat→Prop) (S aT:au):Prop where
 aO:∃ e,aT.aO=S.aO++e∧∀ v∈e,ik A aT.ag v
 con:∃ e,aT.con=S.con++e
 bH:∃ e,aT.bH=S.bH++e∧∀ v∈e,p5 A aT.ag v
 len:S.ag.length≤aT.ag.length
 put:∀(l p:Nat),S.ag[l]?=some (.int p)→aT.ag[l]?=some (.int p)
 sl:S.fu.all isA=true∧S.dZ.all isA=true→aT.fu.all isA=true∧aT.dZ.all isA=true
section
variable {A m4:Nat→Prop}{S aT uJ:au}{op e d:Int}{a v:V}{l n m:Nat}{ag yd:List V}
theorem ik.mono (h:∀ l,A l∨kG ag l→m4 l∨kG yd l):ik A ag v→ik m4 yd v
 |.o a=>.o a
 |.i a=>.i a
 |.j a b=>.j a (h _ b)
theorem p5.mono (h:∀ l,A l∨kG ag l→m4 l∨kG yd l):p5 A ag v→p5 m4 yd v
 |.mk a b c=>.mk (h _ a) (h _ b) (h _ c)
theorem sm (l:List V) (Q:V→Prop):∃ e,l=l++e∧∀ v∈e,Q v:=⟨[],(List.append_nil l).symm,fun _ m=>nomatch m⟩
theorem Ja {l jV Jb:List V}{Q Cr:V→Prop}(q:∀ v,Q v→Cr v):(∃ e,jV=l++e∧∀ v∈e,Q v)→(∃ e,Jb=jV++e∧∀ v∈e,Cr v)→∃ e,Jb=l++e∧∀ v∈e,Cr v
 |⟨e,h,k⟩,⟨c9,h',k'⟩=>⟨e++c9,by rw[h',h,List.append_assoc],fun v m=>(List.mem_append.mp m).elim (fun m=>q v (k v m)) (k' v)⟩
theorem nr (l:List V):∃ e,l=l++e:=⟨[],(List.append_nil l).symm⟩
theorem aA.of (aw:aT.aO=S.aO) (ar:∃ e,aT.con=S.con++e) (bY:aT.bH=S.bH) (hl:S.ag.length≤aT.ag.length) (a3:∀(l p:Nat),S.ag[l]?=some (.int p)→aT.ag[l]?=some (.int p)) (h1:aT.fu=S.fu:=by rfl) (af:aT.dZ=S.dZ:=by rfl):aA A S aT :=
 ⟨by rw[aw];exact sm _ _,ar,by rw[bY];exact sm _ _,hl,a3,fun h=>by rw[h1,af];exact h⟩
theorem aA.close (x:aA A S aT) (h:∀ l,A l→m4 l∨kG aT.ag l):aA m4 S aT :=
 ⟨let ⟨e,q,k⟩:=x.aO;⟨e,q,fun v m=>(k v m).mono fun l q=>q.elim (h l) .inr⟩,x.con,let ⟨e,q,k⟩:=x.bH;⟨e,q,fun v m=>(k v m).mono fun l q=>q.elim (h l) .inr⟩,x.len,x.put,x.sl⟩
theorem aA.refl:aA A S S:=.of rfl (nr _) rfl (Nat.le_refl _) fun _ _ h=>h
theorem aA.trans (x:aA A S aT) (y:aA A aT uJ):aA A S uJ :=
 ⟨Ja (fun _=>ik.mono fun l=>Or.imp id fun ⟨p,h⟩=>⟨p,y.put l p h⟩) x.aO y.aO,let ⟨e,h⟩:=x.con;let ⟨c9,h'⟩:=y.con;⟨e++c9,by rw[h',h,List.append_assoc]⟩,Ja (fun _=>p5.mono fun l=>Or.imp id fun ⟨p,h⟩=>⟨p,y.put l p h⟩) x.bH y.bH,Nat.le_trans x.len y.len,fun l p h=>y.put l p (x.put l p h),fun h=>y.sl (x.sl h)⟩
theorem Jc {l:List V}{v:V}(h:l.all isA=true) (aV:isA v=true):(l++[v]).all isA=true:=by simp[h,aV]
theorem aA.emit (h:ik A S.ag (eN op a)):aA A S (S.emit op a):=⟨⟨_,rfl,fun v m=>List.mem_singleton.mp m▸h⟩,nr _,sm _ _,Nat.le_refl _,fun _ _ h=>h,fun h=>⟨Jc h.1 rfl,h.2⟩⟩
theorem aA.cI:aA A S (S.cI v):=.of rfl (nr _) rfl (Nat.le_refl _) fun _ _ h=>h
theorem aA.l1:aA A S S.l1:=.of rfl (nr _) rfl (Nat.le_refl _) fun _ _ h=>h
theorem aA.meet:aA A S (S.meet l d):=.of rfl (nr _) rfl (Nat.le_refl _) fun _ _ h=>h
theorem aA.unit (aV:isA v=true):aA A S (S.unit v):=⟨sm _ _,nr _,sm _ _,Nat.le_refl _,fun _ _ h=>h,fun h=>⟨h.1,Jc h.2 aV⟩⟩
theorem aA.cst:aA A S (S.cst v):=by
 unfold au.cst
 cases kr v S.con with
 |true=>exact aA.refl
 |false=>exact .of rfl ⟨_,rfl⟩ rfl (Nat.le_refl _) fun _ _ h=>h
theorem aA.kH (h:nq op=true):aA A S (S.bg op .none e):=(aA.emit (.o h)).trans aA.cI
theorem aA.p6 {i:Int}(h:nq op=true):aA A S (S.bg op (.int i) e):=(aA.emit (.i h)).trans aA.cI
theorem aA.dK (h:nq op=true):aA A S (S.dK op v e):=aA.cst.trans (aA.p6 h)
theorem aA.a6 (n:b9):aA A S (S.a6 n):=by cases n <;> first |exact aA.dK rfl |exact aA.p6 rfl
theorem aA.fU (n:fT):aA A S (S.fU n):=by cases n <;> first |exact aA.dK rfl |exact aA.p6 rfl
theorem aA.pop:aA A S S.pop:=aA.kH rfl
theorem aA.ay:aA A S S.ay:=.of rfl (nr _) rfl (by unfold au.ay;simp) fun _ _ h=>List.getElem?_append_left (List.getElem?_eq_some_iff.mp h).1▸h
theorem aA.putL (h:S.ag[l]?=some (.int (-1))):aA A S (S.put l):=.of rfl (nr _) rfl (by unfold au.put;simp) fun i p k=>(xR (fun q=>by subst q;rw[h] at k;cases k)).trans k
theorem aA.iM (h:A l):aA A S (S.iM l) :=
 hv (C:=fun F=>aA A S F) aA.refl fun _=>(aA.meet.trans (aA.emit (S:=S.meet l _) (.j rfl (.inl h)))).trans aA.cI
theorem aA.hu (h:A l):aA A S (S.hu l) :=
 hv (C:=fun F=>aA A S F) aA.refl fun _=>(aA.meet.trans (aA.emit (S:=S.meet l _) (.j rfl (.inl h)))).trans aA.cI
theorem aA.jmp (h:A l):aA A S (S.jmp l) :=
 hv (C:=fun F=>aA A S F) aA.refl fun _=>(aA.meet.trans (aA.emit (S:=S.meet l _) (.j rfl (.inl h)))).trans aA.cI
theorem aA.cZ (h:S.ag[l]?=some (.int (-1))):aA A S (S.cZ l) :=
 hv (C:=fun F=>aA A S F) ((aA.putL h).trans aA.cI) fun _=>aA.meet.trans (aA.putL (S:=S.meet l _) h)
theorem aA.mark:aA A S S.mark:=aA.ay.trans (aA.cZ (uE S))
theorem aA.fG {x y z:Nat}(h1:A x∨kG S.ag x) (af:A y∨kG S.ag y) (aB:A z∨kG S.ag z):aA A S (S.fG x y z d):=⟨sm _ _,nr _,⟨_,rfl,fun v m=>List.mem_singleton.mp m▸.mk h1 af aB⟩,Nat.le_refl _,fun _ _ h=>h,id⟩
theorem aA.enter (h:S.ag[l]?=some (.int (-1))):aA A S (S.enter l d):=(aA.meet.trans (aA.putL (S:=S.meet l _) h)).trans aA.cI
theorem aA.az (t:dF):aA A S (S.az t):=by
 cases t with
 |b7 n=>exact (aA.fU n).trans aA.pop
 |var=>exact (aA.fU .w).trans aA.pop
 |mem n=>exact (((aA.l1.trans (aA.a6 n)).trans (aA.kH rfl)).trans (aA.dK rfl)).trans aA.pop
 |c6 a b=>exact ((((((aA.l1.trans (aA.a6 a)).trans (aA.l1.trans (aA.a6 b))).trans (aA.kH rfl)).trans (aA.kH rfl)).trans (aA.kH rfl)).trans (aA.kH rfl)).trans aA.pop
theorem Wv:(S.cZ l).ag=S.ag.set l (.int S.aO.length):=hv (C:=fun F:au=>F.ag=S.ag.set l (.int S.aO.length)) rfl fun _=>rfl
theorem p7:(S.cZ l).aO=S.aO:=hv (C:=fun F:au=>F.aO=S.aO) rfl fun _=>rfl
theorem p8 (h:l<S.ag.length):(S.cZ l).ag[l]?=some (.int (S.aO.length:Nat)):=by rw[Wv];exact List.getElem?_set_self h
theorem ye:(S.cst v).aO=S.aO:=by unfold au.cst;split <;> rfl
theorem nt (n:b9):(S.a6 n).aO.length=S.aO.length+1:=by
 cases n <;> first |exact kA |exact kA.trans (by rw[ye])
theorem yf (n:fT):(S.fU n).aO.length=S.aO.length+1:=by
 cases n <;> first |exact kA |exact kA.trans (by rw[ye])
theorem fW:(S.bg op a e).aO.length=S.aO.length+1:=kA
theorem Cs:(S.dK op v e).aO.length=S.aO.length+1:=kA.trans (by rw[ye])
end
noncomputable def mv (ag:List V) (i:Int):V:=match ag[i.toNat]? with |some v=>v |none=>.none
noncomputable def iO (ag:List V) (v:V):V:=match v with
 |.tup [.int op,.int l]=>match mu op with
  |true=>.tup [.int op,mv ag l]
  |false=>v
 |v=>v
noncomputable def hU (ag:List V) (v:V):V:=match v with
 |.tup [.int x,.int y,.int z,d,q]=>.tup [mv ag x,mv ag y,mv ag z,d,q]
 |v=>v
noncomputable def au.dV (S:au):List V:=S.aO.map (iO S.ag)
noncomputable def op:bF→Bool
 |.ff _=>false
 |.dg b c=>op b || op c
 |.two a b=>op a&&op b
 |_=>true
noncomputable def fJ:dF→Nat
 |.b7 _=>2 |.var=>2 |.mem _=>4 |.c6 _ _=>7
noncomputable def bD:bF→Nat
 |.b7 _=>2
 |.el=>2
 |.ff _=>2
 |.du _ b=>2+bD b+(op b).toNat
 |.fin t _ b=>3+fJ t+bD b+(op b).toNat+1
 |.dg b c=>bD b+(op b).toNat+3+bD c+(op c).toNat
 |.two a b=>bif op a then bD a+bD b else bD a
section
variable (C K:List V)
noncomputable abbrev eU (p:Nat) (op:Int):Prop:=C[p]?=some (eN op .none)
noncomputable abbrev gf (p:Nat) (op:Int) (l:Nat):Prop:=C[p]?=some (eN op (.int l))
noncomputable abbrev nu (p:Nat) (op:Int) (v:V):Prop:=∃ i:Nat,C[p]?=some (eN op (.int i))∧K[i]?=some v
noncomputable def mw (p:Nat) (n:b9):Prop:=match n with |.x=>gf C p 13 3 |n=>nu C K p 18 (.str n.s)
noncomputable def u6 (p:Nat) (n:fT):Prop:=match n with |.x=>gf C p 14 3 |n=>nu C K p 20 (.str n.s)
noncomputable def yg:dF→Nat→Prop
 |.b7 n,p=>u6 C K p n∧eU C (p+1) 6
 |.var,p=>u6 C K p .w∧eU C (p+1) 6
 |.mem n,p=>mw C K p n∧eU C (p+1) 9∧nu C K (p+2) 24 (.str iJ)∧eU C (p+3) 6
 |.c6 a b,p=>mw C K p a∧mw C K (p+1) b∧eU C (p+2) 81∧eU C (p+3) 10∧eU C (p+4) 10∧eU C (p+5) 26∧eU C (p+6) 6
noncomputable def At:bF→Nat→Prop
 |.b7 n,p=>mw C K p n∧eU C (p+1) 6
 |.el,p=>(∃ i:Nat,gf C p 67 i)∧eU C (p+1) 6
 |.ff k,p=>nu C K p 4 (.int k)∧eU C (p+1) 66
 |.du n b,p=>mw C K p n∧gf C (p+1) 59 (p+bD (.du n b))∧At b (p+2)∧(op b=true→gf C (p+2+bD b) 58 p)
 |.fin t n b,p=>mw C K p n∧eU C (p+1) 76∧gf C (p+2) 77 (p+(3+fJ t+bD b+(op b).toNat))∧yg C K t (p+3)∧At b (p+3+fJ t)∧(op b=true→gf C (p+3+fJ t+bD b) 58 (p+2))∧eU C (p+(3+fJ t+bD b+(op b).toNat)) 6
 |.dg b c,p=>At b p∧(op b=true→gf C (p+bD b) 58 (p+bD (.dg b c)))∧gf C (p+bD b+(op b).toNat) 17 3∧gf C (p+bD b+(op b).toNat+1) 14 3∧eU C (p+bD b+(op b).toNat+2) 6∧At c (p+bD b+(op b).toNat+3)∧(op c=true→gf C (p+bD b+(op b).toNat+3+bD c) 58 (p+bD (.dg b c)))
 |.two a b,p=>At a p∧(op a=true→At b (p+bD a))
end
structure cS where
 i:Nat
 j:Nat
 g:Nat
 d:Int
noncomputable def cS.V (h:cS):V:=.tup [.int h.i,.int h.j,.int h.g,.int h.d,.bool false]
noncomputable def ak:bF→Nat→Int→List cS
 |.du _ b,p,d=>ak b (p+2) d
 |.fin t _ b,p,d=>ak b (p+3+fJ t) (d+1)
 |.dg b c,p,d=>ak b p d++(⟨p,p+bD b,p+bD b+(op b).toNat,d⟩::ak c (p+bD b+(op b).toNat+3) d)
 |.two a b,p,d=>bif op a then ak a p d++ak b (p+bD a) d else ak a p d
 |_,_,_=>[]
section
variable {a b c:bF}{n:b9}{t:dF}{p k:Nat}{d:Int}
theorem mx:bD (.du n b)=2+bD b+(op b).toNat:=rfl
theorem my:bD (.fin t n b)=3+fJ t+bD b+(op b).toNat+1:=rfl
theorem jW:bD (.dg b c)=bD b+(op b).toNat+3+bD c+(op c).toNat:=rfl
theorem yh (h:op a=true):bD (.two a b)=bD a+bD b:=congrArg (fun q=>bif q then bD a+bD b else bD a) h
theorem yi (h:op a=false):bD (.two a b)=bD a:=congrArg (fun q=>bif q then bD a+bD b else bD a) h
theorem Jd:op (.two a b)=(op a&&op b):=rfl
theorem Ct:ak (.dg b c) p d=ak b p d++(⟨p,p+bD b,p+bD b+(op b).toNat,d⟩::ak c (p+bD b+(op b).toNat+3) d):=rfl
theorem yj (h:op a=true):ak (.two a b) p d=ak a p d++ak b (p+bD a) d:=congrArg (fun q=>bif q then ak a p d++ak b (p+bD a) d else ak a p d) h
theorem yk (h:op a=false):ak (.two a b) p d=ak a p d:=congrArg (fun q=>bif q then ak a p d++ak b (p+bD a) d else ak a p d) h
end
section
variable {A:Nat→Prop}{S aT pT F:au}{k e d:Int}{a v:V}{i l p n m:Nat}
theorem Je {l jV:List V}(h:∃ e,jV=l++e) {i:Nat}{v:V}(q:l[i]?=some v):jV[i]?=some v:=by
 obtain ⟨e,rfl⟩:=h
 exact (List.getElem?_append_left (List.getElem?_eq_some_iff.mp q).1).trans q
theorem aA.Ww (g:aA A S F):∃ e,F.aO=S.aO++e:=let ⟨e,h,_⟩:=g.aO;⟨e,h⟩
theorem Wx (h:F.aO[i]?=some v):F.dV[i]?=some (iO F.ag v):=by unfold au.dV;rw[List.getElem?_map,h];rfl
theorem yl (g:aA A (S.emit k a) F):F.dV[S.aO.length]?=some (iO F.ag (eN k a)):=Wx (Je g.Ww (by unfold au.emit;simp))
theorem i9 (g:aA A (S.bg k .none e) F):eU F.dV S.aO.length k:=yl (aA.cI.trans g)
theorem so {i:Int}(h:mu k=false) (g:aA A (S.bg k (.int i) e) F):F.dV[S.aO.length]?=some (eN k (.int i)):=(yl (aA.cI.trans g)).trans (by unfold iO;dsimp only;rw[h])
theorem Cu (h:mu k=true) (g:aA A (S.emit k (.int l)) F) (a3:F.ag[l]?=some (.int p)):gf F.dV S.aO.length k p:=(yl g).trans (by
 unfold iO mv;dsimp only;rw[h];dsimp only;rw[Int.toNat_natCast,a3])
theorem Wy {k v:V}(aV:g9 v=true) (q:ow k v=true):k=v:=by
 have:(∃ s,v=.str s)∨∃ i,v=.int i:=by cases v <;> first |exact .inl ⟨_,rfl⟩ |exact .inr ⟨_,rfl⟩ |exact dv aV
 rcases this with ⟨s,rfl⟩ |⟨i,rfl⟩
 ·cases k <;> first |exact dv q |exact congrArg _ (d8.mp q)
 ·cases k <;> first |exact dv q |exact congrArg _ (of_decide_eq_true q)
theorem Wz {v:V}(aV:g9 v=true):∀{l:List V},kr v l=true→l[hs v l]?=some v:=fun {l}=>by
 induction l with
 |nil=>exact dv
 |cons k r aI =>
  intro h
  unfold kr at h
  unfold hs
  cases q:ow k v with
  |true=>rw[Wy aV q];rfl
  |false=>rw[q] at h;exact aI h
theorem WA (aV:g9 v=true):(S.cst v).con[hs v S.con]?=some v:=by
 unfold au.cst
 cases q:kr v S.con with
 |true=>exact Wz aV q
 |false=>dsimp only;rw[BL q];simp
theorem ym (aV:g9 v=true) (h:mu k=false) (af:nq k=true) (g:aA A (S.dK k v e) F):nu F.dV F.con S.aO.length k v:=⟨hs v S.con,by
 have:=so h g;rwa [ye] at this,Je ((aA.p6 af).trans g).con (WA aV)⟩
theorem sq (n:b9) (g:aA A (S.a6 n) F):mw F.dV F.con S.aO.length n:=by
 cases n with
 |x=>exact so (i:=3) rfl g
 |_=>exact ym rfl rfl rfl g
theorem Jf (n:fT) (g:aA A (S.fU n) F):u6 F.dV F.con S.aO.length n:=by
 cases n with
 |x=>exact so (i:=3) rfl g
 |_=>exact ym rfl rfl rfl g
theorem WB (t:dF) (g:aA A (S.az t) F):yg F.dV F.con t S.aO.length:=by
 cases t with
 |b7 n=>exact ⟨Jf n (aA.pop.trans g),yf (S:=S) n▸i9 g⟩
 |var=>exact ⟨Jf .w (aA.pop.trans g),yf (S:=S) .w▸i9 g⟩
 |mem n =>
  have g3:=aA.pop.trans g
  have g2:=(aA.dK rfl).trans g3
  have ao:=nt (S:=S.l1) n
  have aC:((S.l1.a6 n).bg 9 .none 0).aO.length=S.l1.aO.length+2:=by rw[fW,ao]
  have cL:(((S.l1.a6 n).bg 9 .none 0).dK 24 (.str iJ) (-1)).aO.length=S.l1.aO.length+3:=by rw[Cs,aC]
  exact ⟨sq (S:=S.l1) n ((aA.kH rfl).trans g2),ao▸i9 g2,aC▸ym rfl rfl rfl g3,cL▸i9 g⟩
 |c6 x y =>
  have mX:=aA.pop.trans g
  have gZ:=(aA.kH rfl).trans mX
  have k1:=(aA.kH rfl).trans gZ
  have g3:=(aA.kH rfl).trans k1
  have g2:=(aA.kH rfl).trans g3
  have ao:=nt (S:=S.l1) x
  have aC:((S.l1.a6 x).l1.a6 y).aO.length=S.l1.aO.length+2:=by rw[nt];exact congrArg (· + 1) ao
  have cL:(((S.l1.a6 x).l1.a6 y).bg 81 .none 0).aO.length=S.l1.aO.length+3:=by rw[fW,aC]
  have gG:((((S.l1.a6 x).l1.a6 y).bg 81 .none 0).bg 10 .none 0).aO.length=S.l1.aO.length+4:=by rw[fW,cL]
  have k4:(((((S.l1.a6 x).l1.a6 y).bg 81 .none 0).bg 10 .none 0).bg 10 .none 0).aO.length=S.l1.aO.length+5:=by rw[fW,gG]
  have Bp:((((((S.l1.a6 x).l1.a6 y).bg 81 .none 0).bg 10 .none 0).bg 10 .none 0).bg 26 .none (-2)).aO.length=S.l1.aO.length+6:=by rw[fW,k4]
  exact ⟨sq (S:=S.l1) x ((aA.l1.trans (aA.a6 y)).trans g2),ao▸sq (S:=(S.l1.a6 x).l1) y g2,aC▸i9 g3,cL▸i9 k1,gG▸i9 gZ,k4▸i9 mX,Bp▸i9 g⟩
theorem WC (t:dF):(S.az t).aO.length=S.aO.length+fJ t:=by
 cases t with
 |b7 n=>exact fW.trans (congrArg (· + 1) (yf n))
 |var=>exact fW.trans (congrArg (· + 1) (yf .w))
 |mem n=>exact fW.trans (congrArg (· + 1) (Cs.trans (congrArg (· + 1) (fW.trans (congrArg (· + 1) (nt (S:=S.l1) n))))))
 |c6 x y=>exact fW.trans (congrArg (· + 1) (fW.trans (congrArg (· + 1) (fW.trans (congrArg (· + 1) (fW.trans (congrArg (· + 1) (fW.trans (congrArg (· + 1) ((nt (S:=(S.l1.a6 x).l1) y).trans (congrArg (· + 1) (nt (S:=S.l1) x))))))))))))
end
noncomputable abbrev No:Nat→Prop:=fun _=>False
noncomputable abbrev u7:Nat→Prop:=fun _=>True
noncomputable def nv (q:Bool) (d:Int):V:=match q with |true=>.int d |false=>.none
structure oL (t:bF) (S:au) (d:Int):Prop where
 eT:aA No S (comp t S)
 len:(comp t S).aO.length=S.aO.length+bD t
 dep:(comp t S).dep=nv (op t) d
 at_:∀ F,aA u7 (comp t S) F→At F.dV F.con t S.aO.length
 bH:∀ F,aA u7 (comp t S) F→(comp t S).bH.map (hU F.ag)=S.bH.map (hU F.ag)++(ak t S.aO.length d).map cS.V
section
variable {A:Nat→Prop}{S aT pT F:au}{k e d:Int}{a v:V}{i l p n m:Nat}{q:Bool}
theorem aA.all (g:aA A S aT):aA u7 S aT:=g.close fun _ _=>.inl trivial
theorem aA.yn (g:aA No S aT):aA A S aT:=g.close fun _ q=>q.elim
theorem yo (h:S.dep=nv q d):(S.jmp l).aO.length=S.aO.length+q.toNat:=by
 cases q with
 |true=>rw[pS h];exact kA
 |false=>rw[r4 h];rfl
theorem yp (h:S.dep=nv q d) (g:aA u7 (S.jmp l) F) (a3:F.ag[l]?=some (.int p)) (dk:q=true):gf F.dV S.aO.length 58 p:=by
 subst dk
 rw[pS h] at g
 exact Cu (S:=S.meet l d) rfl (aA.cI.trans g) a3
theorem yq (h:S.dep=nv q d):S.dep=.int d∨S.dep=.none:=by cases q;exact .inr h;exact .inl h
theorem yr:(S.jmp l).bH=S.bH:=hv (C:=fun F:au=>F.bH=S.bH) rfl fun _=>rfl
theorem WD:(S.iM l).bH=S.bH:=hv (C:=fun F:au=>F.bH=S.bH) rfl fun _=>rfl
theorem WE:(S.hu l).bH=S.bH:=hv (C:=fun F:au=>F.bH=S.bH) rfl fun _=>rfl
theorem p9:(S.cZ l).bH=S.bH:=hv (C:=fun F:au=>F.bH=S.bH) rfl fun _=>rfl
theorem yt:(S.cst v).bH=S.bH:=by unfold au.cst;split <;> rfl
theorem sr (n:b9):(S.a6 n).bH=S.bH:=by cases n <;> first |rfl |exact yt
theorem Jg (n:fT):(S.fU n).bH=S.bH:=by cases n <;> first |rfl |exact yt
theorem WG (t:dF):(S.az t).bH=S.bH:=by
 cases t with
 |b7 n=>exact Jg n
 |var=>exact Jg .w
 |mem n=>exact (yt (S:=(S.l1.a6 n).bg 9 .none 0)).trans (sr n)
 |c6 a b=>exact (sr (S:=(S.l1.a6 a).l1) b).trans (sr a)
theorem aA.c0 (g:aA A S aT) (h:S.ag[l]?=some (.int p)):aT.ag[l]?=some (.int p):=g.put l p h
theorem WH (nm:b9) (b:bF) (hd:S.dep=.int d) (he:S.bB.length=S.ag.length) (i:oL b (fv S nm) d):oL (.du nm b) S d:=by
 obtain ⟨aG,a4,c4,dN,ey,hE⟩:=oA S.l1 he
 obtain ⟨w,s0⟩:=xS nm hd he
 obtain ⟨dJ,eu,kO⟩:=w.keep (gL b (fv S nm) d w.dep (s0.len he)).st
 let B:=comp b (fv S nm)
 let W:=(S.l1.ay.ay).l1.cZ (S.ag.length+1)
 let eE:Nat→Prop:=fun l=>l=S.ag.length∨l=S.ag.length+1
 have hk:W.dep=.int d:=by show (au.cZ _ _).dep=_;rw[fH (S:=(S.l1.ay.ay).l1) hd];exact hd
 have aC:(W.l1.a6 nm).dep=.int (d+1):=by rw[hR];show b4 W.dep 1=_;rw[hk];rfl
 have WI:aA eE S W:=(((aA.l1.trans aA.ay).trans aA.ay).trans aA.l1).trans (aA.cZ a4)
 have WJ:aA eE (W.l1.a6 nm) (fv S nm):=aA.iM (.inl rfl)
 have Jh:aA eE W (W.l1.a6 nm):=aA.l1.trans (aA.a6 nm)
 have Ji:aA eE (fv S nm) B:=i.eT.yn
 have yu:aA eE B (B.jmp (S.ag.length+1)):=aA.jmp (.inr rfl)
 have bt:(B.jmp (S.ag.length+1)).ag[S.ag.length]?=some (.int (-1)):=by rw[oz];exact dJ
 have u9:aA eE (B.jmp (S.ag.length+1)) (mc S B):=aA.cZ bt
 have Jj:W.aO=S.aO:=p7 (S:=(S.l1.ay.ay).l1)
 have Jk:(W.l1.a6 nm).aO.length=S.aO.length+1:=by rw[nt];show W.aO.length+1=_;rw[Jj]
 have yv:(fv S nm).aO.length=S.aO.length+2:=by
  show ((W.l1.a6 nm).iM _).aO.length=_
  rw[uK aC];exact kA.trans (congrArg (· + 1) Jk)
 have Jl:(B.jmp (S.ag.length+1)).aO.length=S.aO.length+bD (.du nm b):=by
  rw[yo i.dep,i.len,yv];simp only[mx,my,jW];omega
 have yw:W.ag[S.ag.length+1]?=some (.int (S.aO.length:Nat)):=by
  have:=p8 (S:=(S.l1.ay.ay).l1) (l:=S.ag.length+1) (by show _<(S.l1.ay.ay).ag.length;rw[ey];exact Nat.lt_succ_self _)
  exact this
 have va:(mc S B).ag[S.ag.length]?=some (.int (S.aO.length+bD (.du nm b):Nat)):=by
  rw[←Jl];exact p8 (List.getElem?_eq_some_iff.mp bt).1
 have yx:=((WJ.trans Ji).trans yu).trans u9
 have Jm:=(Jh.trans yx).c0 yw
 refine ⟨((WI.trans Jh).trans yx).close ?_,?_,?_,fun F g=>?_,fun F g=>?_⟩
 ·rintro l (rfl |rfl)
  ·exact .inr ⟨_,va⟩
  ·exact .inr ⟨_,Jm⟩
 ·show (mc S B).aO.length=_
  exact (congrArg List.length p7).trans Jl
 ·show (mc S B).dep=_
  unfold mc
  rw[k8 (kz (yq i.dep)) ((r5 (by omega)).trans eu)];rfl
 ·have h1:=sq (S:=W.l1) nm (yx.all.trans g)
  have af:=yx.all.trans g
  have aB:gf F.dV (W.l1.a6 nm).aO.length 59 (S.aO.length+bD (.du nm b)):=by
   have cu:aA u7 (fv S nm) F:=((Ji.trans yu).trans u9).all.trans g
   have:fv S nm=_:=uK aC
   rw[this] at cu
   exact Cu (S:=(W.l1.a6 nm).meet _ _) rfl (aA.cI.trans cu) (g.c0 va)
  have bu:=i.at_ F (((yu.trans u9).all).trans g)
  have dB:=yp i.dep (u9.all.trans g) (g.c0 Jm)
  rw[i.len,yv] at dB
  rw[yv] at bu
  rw[Jk] at aB
  have WK:W.l1.aO.length=S.aO.length:=congrArg List.length Jj
  rw[WK] at h1
  exact ⟨h1,aB,bu,dB⟩
 ·have:=i.bH F (((yu.trans u9).all).trans g)
  rw[yv] at this
  have dn:(fv S nm).bH=S.bH:=WD.trans ((sr nm).trans (p9 (S:=(S.l1.ay.ay).l1)))
  have ao:(mc S B).bH=B.bH:=p9.trans yr
  show (mc S B).bH.map _=_
  rw[ao,this,dn];rfl
end
section
variable {A:Nat→Prop}{S aT pT F:au}{k e d:Int}{a v:V}{i l p n m:Nat}{q:Bool}
theorem WL (t:dF) (nm:b9) (b:bF) (hd:S.dep=.int d) (he:S.bB.length=S.ag.length) (i:oL b (fg S t nm) (d+1)):oL (.fin t nm b) S d:=by
 obtain ⟨aG,a4,c4,dN,ey,hE⟩:=oA S.l1 he
 obtain ⟨w,s0⟩:=xT t nm hd he
 obtain ⟨dJ,eu,kO⟩:=w.keep (gL b (fg S t nm) (d+1) w.dep (s0.len he)).st
 let su:=(S.l1.ay.ay).l1.l1.a6 nm
 let kC:=su.bg 76 .none 0
 let oM:=kC.cZ (S.ag.length+1)
 let vb:=oM.hu S.ag.length
 let B:=comp b (fg S t nm)
 let J:=B.jmp (S.ag.length+1)
 let K:=J.cZ S.ag.length
 let eE:Nat→Prop:=fun l=>l=S.ag.length∨l=S.ag.length+1
 have ie:kC.dep=.int (d+1+0):=by
  show b4 su.dep 0=_
  rw[hR];show b4 (b4 S.dep 1) 0=_;rw[hd];rfl
 have kx:oM.dep=.int (d+1+0):=by show (au.cZ _ _).dep=_;rw[fH ie];exact ie
 have gb:kC.ag=(S.l1.ay.ay).ag:=(jQ (S:=(S.l1.ay.ay).l1.l1) nm).1
 have i4:aA eE S (S.l1.ay.ay).l1.l1:=(((aA.l1.trans aA.ay).trans aA.ay).trans aA.l1).trans aA.l1
 have g1:aA eE (S.l1.ay.ay).l1.l1 su:=aA.a6 nm
 have g2:aA eE su kC:=aA.kH rfl
 have g3:aA eE kC oM:=aA.cZ (gb▸a4)
 have k1:aA eE oM vb:=aA.hu (.inl rfl)
 have gZ:aA eE vb (fg S t nm):=aA.az t
 have mX:aA eE (fg S t nm) B:=i.eT.yn
 have Cv:aA eE B J:=aA.jmp (.inr rfl)
 have bt:J.ag[S.ag.length]?=some (.int (-1)):=by show (au.jmp _ _).ag[_]?=_;rw[oz];exact dJ
 have Cw:aA eE J K:=aA.cZ bt
 have Cx:aA eE K (r1 S B):=aA.pop
 have od:=Cx
 have m2:=Cw.trans od
 have eS:=Cv.trans m2
 have eB:=mX.trans eS
 have dB:=gZ.trans eB
 have bu:=k1.trans dB
 have aB:=g3.trans bu
 have af:=g2.trans aB
 have h1:=g1.trans af
 have oq:su.aO.length=S.aO.length+1:=nt (S:=(S.l1.ay.ay).l1.l1) nm
 have l1:kC.aO.length=S.aO.length+2:=fW.trans (congrArg (· + 1) oq)
 have l2:oM.aO.length=S.aO.length+2:=(congrArg List.length p7).trans l1
 have oN:vb.aO.length=S.aO.length+3:=by
  show (au.hu _ _).aO.length=_
  rw[r3 kx];exact kA.trans (congrArg (· + 1) l2)
 have lj:(fg S t nm).aO.length=S.aO.length+3+fJ t:=(WC t).trans (congrArg (· + fJ t) oN)
 have oC:J.aO.length=S.aO.length+(3+fJ t+bD b+(op b).toNat):=by
  show (au.jmp _ _).aO.length=_
  rw[yo i.dep,i.len,lj];omega
 have md:K.aO.length=S.aO.length+(3+fJ t+bD b+(op b).toNat):=(congrArg List.length p7).trans oC
 have yw:oM.ag[S.ag.length+1]?=some (.int (S.aO.length+2:Nat)):=by
  rw[←l1];exact p8 (by rw[gb,ey];exact Nat.lt_succ_self _)
 have va:K.ag[S.ag.length]?=some (.int (S.aO.length+(3+fJ t+bD b+(op b).toNat):Nat)):=by
  rw[←oC];exact p8 (List.getElem?_eq_some_iff.mp bt).1
 refine ⟨(i4.trans h1).close ?_,?_,?_,fun F g=>?_,fun F g=>?_⟩
 ·rintro l (rfl |rfl)
  ·exact .inr ⟨_,od.c0 va⟩
  ·exact .inr ⟨_,bu.c0 yw⟩
 ·show K.pop.aO.length=_
  rw[show K.pop.aO.length=K.aO.length+1 from fW,md];simp only[mx,my,jW];omega
 ·show b4 K.dep (-1)=_
  rw[show K=_ from k8 (kz (yq i.dep)) ((r5 (by omega)).trans eu)]
  show b4 (V.int (d+1)) (-1)=V.int d
  simp only[i7];congr 1;omega
 ·have aS:=sq (S:=(S.l1.ay.ay).l1.l1) nm (af.all.trans g)
  have bf:eU F.dV su.aO.length 76:=i9 (aB.all.trans g)
  have dT:gf F.dV oM.aO.length 77 (S.aO.length+(3+fJ t+bD b+(op b).toNat)):=by
   have h:=dB.all.trans g
   rw[show vb=_ from r3 kx] at h
   exact Cu (S:=oM.meet _ _) rfl (aA.cI.trans h) (g.c0 (od.c0 va))
  have d9:yg F.dV F.con t vb.aO.length:=WB t (eB.all.trans g)
  have kk:=i.at_ F (eS.all.trans g)
  have rC:=yp i.dep (m2.all.trans g) (g.c0 (bu.c0 yw))
  have xx:eU F.dV K.aO.length 6:=i9 g
  rw[oq] at bf
  rw[l2] at dT
  rw[oN] at d9
  rw[lj] at kk
  rw[i.len,lj] at rC
  rw[md] at xx
  exact ⟨aS,bf,dT,d9,kk,rC,xx⟩
 ·have:=i.bH F (eS.all.trans g)
  rw[lj] at this
  have dn:(fg S t nm).bH=S.bH:=(WG t).trans (WE.trans (p9.trans (sr (S:=(S.l1.ay.ay).l1.l1) nm)))
  have ao:(r1 S B).bH=B.bH:=(p9 (S:=J)).trans yr
  show (r1 S B).bH.map _=_
  rw[ao,this,dn];rfl
theorem WM (b c:bF) (hd:S.dep=.int d) (he:S.bB.length=S.ag.length) (i:oL b (cF S) d) (j:oL c (gx S (comp b (cF S))) d):oL (.dg b c) S d:=by
 obtain ⟨aG,a4,c4,dN,ey,hE⟩:=oA S.l1 he
 obtain ⟨w,s0,aS,bf⟩:=xU hd he
 have ci:=gL b (cF S) d w.dep (s0.len he)
 have o:=ci.st.old S.ag.length (by rw[bf];omega)
 let N:=S.l1.ay.ay
 let B:=comp b (cF S)
 let M:=B.mark
 let J:=M.jmp S.ag.length
 let H:=J.ay.fG (S.ag.length+2) B.ag.length J.ag.length S.gw
 let E:=H.enter J.ag.length (S.gw+1)
 let sv:=E.bg 17 (.int 3) 0
 let yy:=sv.bg 14 (.int 3) 0
 let qa:=gx S B
 let C:=comp c qa
 let K:=C.jmp S.ag.length
 have lH:B.bB.length=B.ag.length:=ci.st.len (s0.len he)
 have qb:S.ag.length<B.ag.length:=Nat.lt_of_lt_of_le w.len ci.st.eT
 obtain ⟨BX,lW⟩:=BW qb lH
 have k9:M.dep=nv (op b) d:=(BV (yq i.dep) lH).trans i.dep
 obtain ⟨w',s2⟩:=xV hd lH ci.dep qb (o.1.trans w.ao) (o.2.trans aS)
 have WN:=gL c qa d w'.dep (s2.len lH)
 have o':=WN.st.old S.ag.length w'.len
 have kp:=av.mark (n:=S.ag.length) (Nat.le_of_lt qb) lH
 have Jn:S.ag.length<M.ag.length:=Nat.lt_of_lt_of_le qb kp.eT
 have ZH:S.ag.length<J.ag.length:=by show _<(au.jmp _ _).ag.length;rw[oz];exact Jn
 have WO:S.ag.length<M.bB.length:=by rw[kp.len lH];exact Jn
 have Jo:J.bB[S.ag.length]?=some (nv (op b) d):=by
  cases bt:op b with
  |true=>rw[bt] at k9;show (au.jmp _ _).bB[_]?=_;rw[pS k9];exact oB WO
  |false=>rw[bt] at k9;show (au.jmp _ _).bB[_]?=_;rw[r4 k9];exact lW.trans (o.2.trans aS)
 have WQ:qa.bB[S.ag.length]?=some (nv (op b) d):=by
  show ((J.bB++[V.none]).set J.ag.length _)[S.ag.length]?=_
  rw[List.getElem?_set_ne (by omega),List.getElem?_append_left (List.getElem?_eq_some_iff.mp Jo).1];exact Jo
 have gw:S.gw=d:=by unfold au.gw;rw[hd]
 let eE:Nat→Prop:=fun l=>l=S.ag.length∨l=J.ag.length
 have WR:N.ag.length=S.ag.length+2:=ey
 have ps:(cF S).ag[S.ag.length+2]?=some (.int (S.aO.length:Nat)):=by
  have h:(cF S).ag[N.ag.length]?=some (.int (S.aO.length:Nat)):=p8 (S:=N.ay) (l:=N.ag.length) (by rw[ky N];exact Nat.lt_succ_self _)
  rwa [WR] at h
 have pm:M.ag[B.ag.length]?=some (.int (B.aO.length:Nat)):=p8 (S:=B.ay) (by rw[ky];exact Nat.lt_succ_self _)
 have i4:aA eE S (cF S):=((aA.l1.trans aA.ay).trans aA.ay).trans aA.mark
 have g1:aA eE (cF S) B:=i.eT.yn
 have g2:aA eE B M:=aA.mark
 have g3:aA eE M J:=aA.jmp (.inl rfl)
 have k1:aA eE J J.ay:=aA.ay
 have Jp:=((g1.trans g2).trans g3).c0 ps
 have Jq:=g3.c0 pm
 have gZ:aA eE J.ay H:=aA.fG (.inr ⟨_,k1.c0 Jp⟩) (.inr ⟨_,k1.c0 Jq⟩) (.inl (.inr rfl))
 have dI:H.ag[J.ag.length]?=some (.int (-1)):=uE J
 have mX:aA eE H E:=aA.enter dI
 have Jr:E.ag[J.ag.length]?=some (.int (J.aO.length:Nat)):=List.getElem?_set_self (List.getElem?_eq_some_iff.mp dI).1
 have Cv:aA eE E sv:=aA.p6 rfl
 have Cw:aA eE sv yy:=aA.p6 rfl
 have Cx:aA eE yy qa:=aA.pop
 have WS:aA eE qa C:=j.eT.yn
 have WT:aA eE C K:=aA.jmp (.inl rfl)
 have bZ:K.ag[S.ag.length]?=some (.int (-1)):=by show (au.jmp _ _).ag[_]?=_;rw[oz];exact o'.1.trans w'.ao
 have Js:aA eE K (oy S C):=aA.cZ bZ
 have Cy:=WT.trans Js
 have Jt:=WS.trans Cy
 have od:=Cx.trans Jt
 have m2:=Cw.trans od
 have eS:=Cv.trans m2
 have eB:=mX.trans eS
 have bu:=(k1.trans gZ).trans eB
 have aB:=g3.trans bu
 have af:=g2.trans aB
 have h1:=g1.trans af
 have oq:(cF S).aO.length=S.aO.length:=congrArg List.length (p7 (S:=N.ay))
 have l1:B.aO.length=S.aO.length+bD b:=i.len.trans (congrArg (· + bD b) oq)
 have l2:M.aO.length=S.aO.length+bD b:=(congrArg List.length (p7 (S:=B.ay))).trans l1
 have oN:J.aO.length=S.aO.length+bD b+(op b).toNat:=(yo k9).trans (congrArg (· + (op b).toNat) l2)
 have lj:sv.aO.length=S.aO.length+bD b+(op b).toNat+1:=fW.trans (congrArg (· + 1) oN)
 have oC:yy.aO.length=S.aO.length+bD b+(op b).toNat+2:=fW.trans (congrArg (· + 1) lj)
 have md:qa.aO.length=S.aO.length+bD b+(op b).toNat+3:=fW.trans (congrArg (· + 1) oC)
 have Ju:K.aO.length=S.aO.length+bD (.dg b c):=by
  show (au.jmp _ _).aO.length=_
  rw[yo j.dep,j.len,md];simp only[mx,my,jW];omega
 have sx:(oy S C).ag[S.ag.length]?=some (.int (S.aO.length+bD (.dg b c):Nat)):=by
  rw[←Ju];exact p8 (List.getElem?_eq_some_iff.mp bZ).1
 refine ⟨(i4.trans h1).close ?_,(congrArg List.length p7).trans Ju,?_,fun F g=>?_,fun F g=>?_⟩
 ·rintro l (rfl |rfl)
  ·exact .inr ⟨_,sx⟩
  ·exact .inr ⟨_,eS.c0 Jr⟩
 ·show (au.cZ K _).dep=_
  have kd:K.bB[S.ag.length]?=some (nv (op b || op c) d):=by
   have yz:=j.dep
   have cd:C.bB[S.ag.length]?=some (nv (op b) d):=o'.2.trans WQ
   cases aw:op c with
   |true=>rw[aw] at yz;show (au.jmp _ _).bB[_]?=_;rw[pS yz,Bool.or_true];exact oB (List.getElem?_eq_some_iff.mp cd).1
   |false=>rw[aw] at yz;show (au.jmp _ _).bB[_]?=_;rw[r4 yz,Bool.or_false];exact cd
  rw[k8 (kz (yq j.dep)) kd];rfl
 ·have dc:=i.at_ F (af.all.trans g)
  have cH:=yp k9 (bu.all.trans g) (g.c0 sx)
  have i0:F.dV[E.aO.length]?=some (eN 17 (.int 3)):=so (S:=E) rfl (m2.all.trans g)
  have mY:F.dV[sv.aO.length]?=some (eN 14 (.int 3)):=so (S:=sv) rfl (od.all.trans g)
  have uP:eU F.dV yy.aO.length 6:=i9 (Jt.all.trans g)
  have uQ:=j.at_ F (Cy.all.trans g)
  have uR:=yp j.dep (Js.all.trans g) (g.c0 sx)
  rw[oq] at dc
  rw[l2] at cH
  rw[show E.aO.length=_ from oN] at i0
  rw[lj] at mY
  rw[oC] at uP
  rw[md] at uQ
  rw[j.len,md] at uR
  exact ⟨dc,cH,i0,mY,uP,uQ,uR⟩
 ·have dc:=i.bH F (af.all.trans g)
  have cH:=j.bH F (Cy.all.trans g)
  have ao:qa.bH=B.bH++[.tup [.int (S.ag.length+2:Nat),.int (B.ag.length:Nat),.int (J.ag.length:Nat),.int S.gw,.bool false]]:=by
   show J.bH++_=_
   rw[show J.bH=B.bH from yr.trans (p9 (S:=B.ay))]
  have aC:hU F.ag (.tup [.int (S.ag.length+2:Nat),.int (B.ag.length:Nat),.int (J.ag.length:Nat),.int S.gw,.bool false])=cS.V ⟨S.aO.length,S.aO.length+bD b,S.aO.length+bD b+(op b).toNat,d⟩:=by
   unfold hU mv cS.V
   dsimp only
   rw[Int.toNat_natCast,Int.toNat_natCast,Int.toNat_natCast,g.c0 (bu.c0 Jp),g.c0 (bu.c0 Jq),g.c0 (eS.c0 Jr),gw,l1,oN]
  rw[oq] at dc
  rw[md,ao,List.map_append,List.map_cons,List.map_nil,dc,aC] at cH
  show (oy S C).bH.map _=_
  rw[show (oy S C).bH=C.bH from p9.trans yr,cH,show (cF S).bH=S.bH from p9 (S:=N.ay)]
  simp only[Ct,List.map_append,List.map_cons,List.append_assoc,List.cons_append,List.nil_append]
end
section
variable {S F:au}{d:Int}
theorem qc:∀(t:bF) (S:au) (d:Int),S.dep=.int d→S.bB.length=S.ag.length→oL t S d
 |.b7 n,S,d,hd,he=>by
  have l1:(S.l1.l1.a6 n).aO.length=S.aO.length+1:=nt (S:=S.l1.l1) n
  refine ⟨(aA.l1.trans (aA.l1.trans (aA.a6 n))).trans aA.pop,fW.trans (congrArg (· + 1) l1),?_,fun F g=>⟨sq (S:=S.l1.l1) n (aA.pop.trans g),l1▸i9 g⟩,fun F g=>?_⟩
  ·show b4 (S.l1.l1.a6 n).dep (-1)=_
   rw[hR];show b4 (b4 S.dep 1) (-1)=V.int d;rw[hd];simp only[i7];congr 1;omega
  ·exact (congrArg _ (sr (S:=S.l1.l1) n)).trans (List.append_nil _).symm
 |.el,S,d,hd,he=>by
  refine ⟨(((aA.l1.trans aA.l1).trans (aA.unit rfl)).trans (aA.p6 (i:=(S.dZ.length:Nat)) rfl)).trans aA.pop,fW.trans (congrArg (· + 1) fW),?_,fun F g=>⟨⟨S.dZ.length,so (S:=S.l1.l1.unit ma) rfl (aA.pop.trans g)⟩,?_⟩,fun F g=>(List.append_nil _).symm⟩
  ·show b4 (b4 S.dep 1) (-1)=V.int d;rw[hd];simp only[i7];congr 1;omega
  ·have:=i9 g
   rwa [fW] at this
 |.ff k,S,d,hd,he=>by
  have l1:(S.l1.l1.dK 4 (.int k) 1).aO.length=S.aO.length+1:=Cs (S:=S.l1.l1)
  refine ⟨(((aA.l1.trans aA.l1).trans (aA.dK rfl)).trans (aA.emit (.o rfl))).trans aA.cI,kA.trans (congrArg (· + 1) l1),rfl,fun F g=>⟨ym (S:=S.l1.l1) rfl rfl rfl (((aA.emit (.o rfl)).trans aA.cI).trans g),?_⟩,fun F g=>?_⟩
  ·have:eU F.dV _ 66:=yl (aA.cI.trans g)
   rwa [l1] at this
  ·exact (congrArg _ (yt (S:=S.l1.l1))).trans (List.append_nil _).symm
 |.du n b,S,d,hd,he=>let ⟨w,s⟩:=xS n hd he;WH n b hd he (qc b _ d w.dep (s.len he))
 |.fin t n b,S,d,hd,he=>let ⟨w,s⟩:=xT t n hd he;WL t n b hd he (qc b _ (d+1) w.dep (s.len he))
 |.dg b c,S,d,hd,he=>by
  obtain ⟨w,s0,aS,bf⟩:=xU hd he
  have ci:=gL b (cF S) d w.dep (s0.len he)
  have o:=ci.st.old S.ag.length (by rw[bf];omega)
  obtain ⟨w',s2⟩:=xV hd (ci.st.len (s0.len he)) ci.dep (Nat.lt_of_lt_of_le w.len ci.st.eT) (o.1.trans w.ao) (o.2.trans aS)
  exact WM b c hd he (qc b _ d w.dep (s0.len he)) (qc c _ d w'.dep (s2.len (ci.st.len (s0.len he))))
 |.two a b,S,d,hd,he=>by
  have i:=qc a S d hd he
  have dn:comp (.two a b) S=match (comp a S).mb with |true=>comp b (comp a S) |false=>comp a S:=rfl
  cases b2:op a with
  |true =>
   have qd:=i.dep
   rw[b2] at qd
   have j:=qc b (comp a S) d qd ((gL a S d hd he).st.len he)
   have e:comp (.two a b) S=comp b (comp a S):=by rw[dn,BY qd]
   refine ⟨e▸i.eT.trans j.eT,?_,?_,fun F g=>?_,fun F g=>?_⟩
   ·rw[e,j.len,i.len,yh b2];omega
   ·rw[e,j.dep];simp only[Jd,b2,Bool.true_and]
   ·rw[e] at g
    have af:=j.at_ F g
    rw[i.len] at af
    exact ⟨i.at_ F (j.eT.all.trans g),fun _=>af⟩
   ·rw[e] at g ⊢
    have af:=j.bH F g
    rw[i.len,i.bH F (j.eT.all.trans g)] at af
    rw[af];simp only[yj b2,List.map_append,List.append_assoc]
  |false =>
   have qd:=i.dep
   rw[b2] at qd
   have e:comp (.two a b) S=comp a S:=by rw[dn,BZ qd]
   refine ⟨e▸i.eT,?_,?_,fun F g=>?_,fun F g=>?_⟩
   ·rw[e,i.len,yi b2]
   ·rw[e,qd];simp only[Jd,b2,Bool.false_and]
   ·rw[e] at g
    exact ⟨i.at_ F g,fun q=>absurd (b2.symm.trans q) Bool.noConfusion⟩
   ·rw[e] at g ⊢
    rw[i.bH F g];rw[yk b2]
structure Top (t:bF) (F:au):Prop where
 at_:At F.dV F.con t 0
 len:F.dV.length=bD t
 bH:F.bH.map (hU F.ag)=(ak t 0 0).map cS.V
 gg:∀ v∈F.aO,ik No F.ag v
 aV:∀ v∈F.bH,p5 No F.ag v
 sl:F.fu.all isA=true∧F.dZ.all isA=true
theorem Jv (t:bF):Top t (comp t hg):=by
 have c:=qc t hg 0 rfl rfl
 obtain ⟨e,h1,af⟩:=c.eT.aO
 obtain ⟨c9,aB,bu⟩:=c.eT.bH
 exact ⟨c.at_ _ aA.refl,(List.length_map ..).trans (c.len.trans (Nat.zero_add _)),c.bH _ aA.refl,h1▸af,aB▸bu,c.eT.sl ⟨rfl,rfl⟩⟩
end
noncomputable abbrev ja:Str:=⟨⟨[102,111,117,110,100]⟩⟩
noncomputable abbrev qe:Str:=⟨⟨[112,99]⟩⟩
noncomputable abbrev Jw:Str:=⟨⟨[111,112]⟩⟩
noncomputable abbrev Jx:Str:=⟨⟨[97,114,103]⟩⟩
noncomputable abbrev Jy:Str:=⟨⟨[97,112,112,101,110,100]⟩⟩
noncomputable abbrev nx (ls:List (Str×V)):a5:=⟨s8.scope,[],none,ls⟩
noncomputable def WU:PySem.Expr→PySem.Expr
 |.IfExp t _ _ _=>t
 |_=>default
noncomputable def yA (l:List Stmt):PySem.Expr:=WU (rQ (m7 (eH (bQ l 0))) 0)
section
variable {P:Pre}{F:au}{T H:List aj}{pre:List V}{L r l p d:Nat}{v u x:V}{vs:List V}{op:Int}{ls:List (Str×V)}
theorem qf (h:H[r]?=some (.list vs)):ke (.ref r) Jy ⟨H,True⟩=some (.obj (.builtin "list.append"),[.ref r]):=by
 exact (l7 (congrArg lR h)).trans ((bj (congrArg eF h)).trans rfl)
theorem qb {H:List aj}:dX .Lt (.int (p:Nat)) (.int 0) ⟨H,True⟩=some (false,⟨H,True⟩):=by
 exact xB (decide_eq_false (Int.not_lt.mpr (Int.natCast_nonneg p)))
theorem Jz (h:F.ag[l]?=some (.int (p:Nat))):aq 3 (.obj (.ref 283)) [.ref 12,.int (l:Nat),v] (mk P F T) (.int (p:Nat)) (mk P F T) :=
 aq.hP (a:=283) (fi:=⟨vQ,[bk,⟨⟨[108,97,98,101,108]⟩⟩,qe],[],D3.1,none,false⟩) (vs:=[.ref 12,.int (l:Nat),v]) (cN:=[(bk,.ref 12),(⟨⟨[108,97,98,101,108]⟩⟩,.int (l:Nat)),(qe,v)]) (by kernel_rfl) rfl (by kernel_rfl) rfl (by kernel_rfl) <|
  ab.cons (ah.iff (GT.cmp (ai.sub I I (l9 xE h)) (b:=.int 0) I qb) ab.nil) <|
  ab.ret (ah.ret (ai.sub I I (l9 xE h)))
noncomputable def JA (Q:Int→Prop):List Int→Prop
 |[]=>True
 |x::r=>Q x∧JA Q r
theorem Cz {Q:Int→Prop}{x:Int}:∀{l:List Int},x∈l→JA Q l→Q x
 |y::r,m,a=>by
  cases m with
  |head=>exact a.1
  |tail _ m=>exact Cz m a.2
theorem JB {Q:Int→Prop}(h:nq op=true) (a:Q 4∧Q 6∧Q 9∧Q 10∧Q 13∧Q 14∧Q 17∧Q 18∧Q 20∧Q 24∧Q 26∧Q 66∧Q 67∧Q 76∧Q 81∧True):Q op:=Cz (List.contains_iff_mem.mp h) a
theorem WV {Q:Int→Prop}(h:mu op=true) (a:Q 58∧Q 59∧Q 77∧True):Q op:=Cz (List.contains_iff_mem.mp h) a
noncomputable abbrev lp (L:Nat) (k:Int) (op:Int) (a:V):List (Str×V):=[(bk,.ref 12),(ja,.ref L),(qe,.int k),(Jw,.int op),(Jx,a)]
theorem JC {k:Int}(h:nq op=true):GT 5 (nx (lp L k op v)) (yA (d1 (j8.1.drop 1))) H false H :=
 JB (Q:=fun op=>GT 5 (nx (lp L k op v)) (yA (d1 (j8.1.drop 1))) H false H) h ⟨I,I,I,I,I,I,I,I,I,I,I,I,I,I,I,trivial⟩
theorem WW {k:Int}(h:mu op=true):GT 5 (nx (lp L k op v)) (yA (d1 (j8.1.drop 1))) H true H :=
 WV (Q:=fun op=>GT 5 (nx (lp L k op v)) (yA (d1 (j8.1.drop 1))) H true H) h ⟨I,I,I,trivial⟩
theorem JD (h:nq op=true):mu op=false:=JB (Q:=fun op=>mu op=false) h ⟨rfl,rfl,rfl,rfl,rfl,rfl,rfl,rfl,rfl,rfl,rfl,rfl,rfl,rfl,rfl,trivial⟩
theorem JE {ag:List V}(h:mu op=false):iO ag (eN op v)=eN op v:=by
 cases v <;> first |rfl |(unfold iO;dsimp only;rw[h])
theorem WX {k:Int}(aV:ik No F.ag (eN op v)) (ak:vs.length<aL):ab 6 (nx (lp (mk P F T).length k op v)) (d1 (j8.1.drop 1)) (mk P F T++[.list vs]) .next (lp (mk P F T).length k op v) (mk P F T++[.list (vs++[iO F.ag (eN op v)])]):=by
 have main:∀ u,ai 6 (nx (lp (mk P F T).length k op v)) (rQ (m7 (eH (bQ (d1 (j8.1.drop 1)) 0))) 0) (mk P F T++[.list vs]) u (mk P F T++[.list vs])→ab 6 (nx (lp (mk P F T).length k op v)) (d1 (j8.1.drop 1)) (mk P F T++[.list vs]) .next (lp (mk P F T).length k op v) (mk P F T++[.list (vs++[u])]):=fun u g=>by
  have a:=aq.app (x:=u) (fc (H:=mk P F T) (x:=.list vs)) ak
  rw[rU] at a
  exact ab.one (ah.expr (ai.a0 (v:=.ref (mk P F T).length) (first:=[.ref (mk P F T).length]) (vs:=[u]) I (qf fc) (GE.cons g GE.nil) (a.mono (by decide))))
 cases aV with
 |o h=>exact main _ (ai.iff ((JC h).mono (by decide)) I)
 |i h=>rw[JE (JD h)];exact main _ (ai.iff ((JC h).mono (by decide)) I)
 | @j op l h a3 =>
  obtain ⟨p,a3⟩:=a3.resolve_left id
  have e:iO F.ag (eN op (.int l))=eN op (.int p):=by unfold iO mv;dsimp only;rw[h];dsimp only;rw[Int.toNat_natCast,a3]
  rw[e]
  exact main _ (ai.cm ((WW h).mono (by decide)) (ai.tup (GE.cons I (GE.cons (ai.a0 (v:=.ref 12) (first:=[.ref 12]) (vs:=[.int l,.int k]) I rfl I ((Jz (T:=T++[.list vs]) a3).mono (by decide))) GE.nil))))
end
section
variable {P:Pre}{F:au}{T H:List aj}{pre:List V}{L r l p d:Nat}{v u x:V}{vs:List V}{op:Int}{ls:List (Str×V)}
noncomputable def CA (L:Nat) (ls:List (Str×V)):Prop:=ls=[(bk,.ref 12),(ja,.ref L)]∨∃ a b c,ls=[(bk,.ref 12),(ja,.ref L),(qe,a),(Jw,b),(Jx,c)]
theorem WY {k:Int}(h:CA L ls):bq 6 (nx ls) (ha (j8.1.drop 1)) (.tup [.int k,eN op v]) H (lp L k op v) H:=by
 rcases h with rfl |⟨a,b,c,rfl⟩
 ·exact I
 ·exact I
theorem WZ {A:Nat→Prop}{ag:List V}:ik A ag v→∃ op a,v=eN op a
 |.o _=>⟨_,_,rfl⟩
 |.i _=>⟨_,_,rfl⟩
 |.j _ _=>⟨_,_,rfl⟩
theorem vc {α:Type}{l pre r:List α}{v:α}(e:l=pre++v::r):l[pre.length]?=some v:=by rw[e];simp
theorem vd {α:Type}{l pre:List α}(e:l=pre++[]):l[pre.length]?=none:=by rw[e];simp
theorem JF (ak:F.aO.length<aL):∀(r pre:List V) (ls:List (Str×V)),F.aO=pre++r→(∀ v∈r,ik No F.ag v)→CA (mk P F T).length ls →
 ∃ bM,CA (mk P F T).length bM∧cV 6 (nx ls) (ha (j8.1.drop 1)) (.ju (.ref 13)) pre.length (d1 (j8.1.drop 1)) (mk P F T++[.list (pre.map (iO F.ag))]) .next bM (mk P F T++[.list F.dV])
 |[],pre,ls,e,_,hl=>⟨ls,hl,by
  have:F.dV=pre.map (iO F.ag):=by unfold au.dV;rw[e,List.append_nil]
  rw[this]
  refine cV.done ?_ (by kernel_rfl)
  show some ((F.aO[pre.length]?).map _)=_
  rw[vd e];rfl⟩
 |v::r,pre,ls,e,bR,hl=>by
  obtain ⟨op,a,rfl⟩:=WZ (bR v (.head _))
  have lt:pre.length<aL:=Nat.lt_of_le_of_lt (by rw[e];simp) ak
  obtain ⟨bM,h',g⟩:=JF ak r (pre++[eN op a]) (lp (mk P F T).length (pre.length:Nat) op a) (by rw[e];simp) (fun u m=>bR u (.tail _ m)) (.inr ⟨_,_,_,rfl⟩)
  refine ⟨bM,h',?_⟩
  have b:=WX (P:=P) (F:=F) (T:=T) (vs:=pre.map (iO F.ag)) (k:=(pre.length:Nat)) (bR _ (.head _)) (by rw[List.length_map];exact lt)
  rw[List.length_append,List.map_append] at g
  refine cV.step (v:=.tup [.int (pre.length:Nat),eN op a]) ?_ (by kernel_rfl) (WY hl) b g
  show some ((F.aO[pre.length]?).map _)=_
  rw[vc e];rfl
theorem W0 (ak:F.aO.length<aL) (h:∀ v∈F.aO,ik No F.ag v):aq 8 (.obj (.ref 290)) [.ref 12] (mk P F T) (.ref (mk P F T).length) (mk P F T++[.list F.dV]):=by
 obtain ⟨bM,h',g⟩:=JF (P:=P) (T:=T) ak F.aO [] [(bk,.ref 12),(ja,.ref (mk P F T).length)] rfl h (.inl rfl)
 exact (aq.hP (fi:=⟨s8,[bk],[],j8.1,none,false⟩) (vs:=[.ref 12]) (cN:=[(bk,.ref 12)]) (by kernel_rfl) rfl (by kernel_rfl) rfl (by kernel_rfl) <|
  ab.cons (bJ:=[(bk,.ref 12),(ja,.ref (mk P F T).length)]) (ah.assign (ai.list GE.nil) (bq.name (by kernel_rfl))) <|
  ab.cons (ah.BI (v:=.ref 13) I rfl g) <|
  ab.ret (ah.ret (ai.name (by rcases h' with rfl |⟨a,b,c,rfl⟩ <;> kernel_rfl)))).mono (by decide)
end
noncomputable abbrev JG:Str:=⟨⟨[105,115,95,102,105,110,97,108,108,121]⟩⟩
noncomputable abbrev ve (ls:List (Str×V)):a5:=⟨s9.scope,[],none,ls⟩
structure sy (ag:List V) (x y z:Nat) (d:Int) (i j g:Nat):Prop where
 x:ag[x]?=some (.int i)
 y:ag[y]?=some (.int j)
 z:ag[z]?=some (.int g)
 lt:i<j
noncomputable abbrev mz (x y z:Nat) (d:Int):V:=.tup [.int x,.int y,.int z,.int d,.bool false]
section
variable {P:Pre}{F:au}{T H:List aj}{pre:List V}{L r l p x y z i j g:Nat}{v u:V}{vs:List V}{d:Int}{ls:List (Str×V)}
noncomputable abbrev yB (L:Nat) (r:List (Str×V)):List (Str×V):=(bk,.ref 12)::(ja,.ref L)::r
noncomputable abbrev kI (L:Nat) (x y z:Nat) (d:Int) (r:List (Str×V)):List (Str×V):=yB L ((nf,.int x)::(pP,.int y)::(ht,.int z)::(jM,.int d)::(JG,.bool false)::r)
noncomputable def CB (L:Nat) (ls:List (Str×V)):Prop:=ls=yB L []∨∃ x y z d a b,ls=kI L x y z d [(iL,a),(hQ,b)]
theorem W2 (h:CB L ls):∃ r,(r=[]∨∃ a b,r=[(iL,a),(hQ,b)])∧bq 6 (ve ls) (ha (nI.1.drop 1)) (mz x y z d) H (kI L x y z d r) H:=by
 rcases h with rfl |⟨_,_,_,_,a,b,rfl⟩
 ·exact ⟨[],.inl rfl,I⟩
 ·exact ⟨_,.inr ⟨a,b,rfl⟩,I⟩
theorem W3 (h:sy F.ag x y z d i j g):hU F.ag (mz x y z d)=cS.V ⟨i,j,g,d⟩:=by
 unfold hU mv cS.V
 dsimp only
 rw[Int.toNat_natCast,Int.toNat_natCast,Int.toNat_natCast,h.x,h.y,h.z]
theorem W4 {r:List (Str×V)}(bR:r=[]∨∃ a b,r=[(iL,a),(hQ,b)]) (h:sy F.ag x y z d i j g) (ak:vs.length<aL) :
 ab 6 (ve (kI (mk P F T).length x y z d r)) (d1 (nI.1.drop 1)) (mk P F T++[.list vs]) .next (kI (mk P F T).length x y z d [(iL,.int i),(hQ,.int j)]) (mk P F T++[.list (vs++[hU F.ag (mz x y z d)])]):=by
 have a:=aq.app (x:=cS.V ⟨i,j,g,d⟩) (fc (H:=mk P F T) (x:=.list vs)) ak
 rw[rU] at a
 rw[W3 h]
 have c0:∀{l p:Nat},F.ag[l]?=some (.int p)→aq 6 (.obj (.ref 283)) [.ref 12,.int l,.int (-1)] (mk P F T++[.list vs]) (.int p) (mk P F T++[.list vs]):=fun h=>(Jz (T:=T++[.list vs]) h).mono (by decide)
 have c:dX .Lt (.int (i:Nat)) (.int (j:Nat)) ⟨mk P F T++[.list vs],True⟩=some (true,⟨mk P F T++[.list vs],True⟩):=by show some (decide ((i:Int)<j),_)=_;rw[decide_eq_true (Int.ofNat_lt.mpr h.lt)]
 have t1:∀{ls},h3 [iL,hQ] [.int i,.int j] (kI (mk P F T).length x y z d r)=ls→ls=kI (mk P F T).length x y z d [(iL,.int i),(hQ,.int j)]→ab 6 (ve (kI (mk P F T).length x y z d r)) (d1 (nI.1.drop 1)) (mk P F T++[.list vs]) .next (kI (mk P F T).length x y z d [(iL,.int i),(hQ,.int j)]) (mk P F T++[.list (vs++[cS.V ⟨i,j,g,d⟩])]):=fun {ls} e aC=>by
  subst aC
  refine ab.cons (bJ:=kI (mk P F T).length x y z d [(iL,.int i),(hQ,.int j)]) (H1:=mk P F T++[.list vs]) ?_ (ab.eO (GT.cmp (a:=.int (i:Nat)) (b:=.int (j:Nat)) I I c) (ab.one (ah.expr (ai.a0 (v:=.ref (mk P F T).length) (first:=[.ref (mk P F T).length]) (vs:=[cS.V ⟨i,j,g,d⟩]) I (qf fc) (GE.cons (ai.tup (GE.cons I (GE.cons I (GE.cons (ai.a0 (v:=.ref 12) (first:=[.ref 12]) (vs:=[.int z,.int (-1)]) I rfl I (c0 h.z)) I)))) GE.nil) (a.mono (by decide))))))
  have q:ah 6 (ve (kI (mk P F T).length x y z d r)) (bQ (d1 (nI.1.drop 1)) 0) (mk P F T++[.list vs]) .next (h3 [iL,hQ] [.int i,.int j] (kI (mk P F T).length x y z d r)) (mk P F T++[.list vs]):=ah.me (us:=[.int i,.int j]) (xs:=[iL,hQ]) (ai.tup (GE.cons (ai.a0 (v:=.ref 12) (first:=[.ref 12]) (vs:=[.int x,.int (-1)]) I rfl I (c0 h.x)) (GE.cons (ai.a0 (v:=.ref 12) (first:=[.ref 12]) (vs:=[.int y,.int (-1)]) I rfl I (c0 h.y)) GE.nil))) (by kernel_rfl) (by kernel_rfl) (by kernel_rfl)
  rw[←e];exact q
 rcases bR with rfl |⟨a,b,rfl⟩
 ·exact t1 rfl rfl
 ·exact t1 rfl rfl
theorem JH (ak:F.bH.length<aL):∀(r pre:List V) (ls),F.bH=pre++r→(∀ v∈r,∃ x y z d i j g,v=mz x y z d∧sy F.ag x y z d i j g)→CB (mk P F T).length ls →
 ∃ bM,CB (mk P F T).length bM∧cV 6 (ve ls) (ha (nI.1.drop 1)) (.ref 18) pre.length (d1 (nI.1.drop 1)) (mk P F T++[.list (pre.map (hU F.ag))]) .next bM (mk P F T++[.list (F.bH.map (hU F.ag))])
 |[],pre,ls,e,_,hl=>⟨ls,hl,by
  have:F.bH=pre:=by rw[e,List.append_nil]
  rw[this]
  refine cV.done ?_ (by kernel_rfl)
  show some (F.bH[pre.length]?)=_
  rw[vd e]⟩
 |v::r,pre,ls,e,bR,hl=>by
  obtain ⟨x,y,z,d,i,j,g,rfl,q⟩:=bR v (.head _)
  have lt:pre.length<aL:=Nat.lt_of_le_of_lt (by rw[e];simp) ak
  obtain ⟨bM,h',k⟩:=JH ak r (pre++[mz x y z d]) (kI (mk P F T).length x y z d [(iL,.int i),(hQ,.int j)]) (by rw[e];simp) (fun u m=>bR u (.tail _ m)) (.inr ⟨_,_,_,_,_,_,rfl⟩)
  refine ⟨bM,h',?_⟩
  obtain ⟨ea,lq,t⟩:=W2 (H:=mk P F T++[.list (pre.map (hU F.ag))]) (x:=x) (y:=y) (z:=z) (d:=d) hl
  have b:=W4 (P:=P) (F:=F) (T:=T) (vs:=pre.map (hU F.ag)) lq q (by rw[List.length_map];exact lt)
  rw[List.length_append,List.map_append] at k
  refine cV.step (v:=mz x y z d) ?_ (by kernel_rfl) t b k
  show some (F.bH[pre.length]?)=_
  rw[vc e]
theorem W5 (ak:F.bH.length<aL) (h:∀ v∈F.bH,∃ x y z d i j g,v=mz x y z d∧sy F.ag x y z d i j g):aq 8 (.obj (.ref 297)) [.ref 12] (mk P F T) (.ref (mk P F T).length) (mk P F T++[.list (F.bH.map (hU F.ag))]):=by
 obtain ⟨bM,h',g⟩:=JH (P:=P) (T:=T) ak F.bH [] (yB (mk P F T).length []) rfl h (.inl rfl)
 exact (aq.hP (fi:=⟨s9,[bk],[],nI.1,none,false⟩) (vs:=[.ref 12]) (cN:=[(bk,.ref 12)]) (by kernel_rfl) rfl (by kernel_rfl) rfl (by kernel_rfl) <|
  ab.cons (bJ:=yB (mk P F T).length []) (ah.assign (ai.list GE.nil) (bq.name (by kernel_rfl))) <|
  ab.cons (ah.for (v:=.ref 18) I rfl g) <|
  ab.ret (ah.ret (ai.name (by rcases h' with rfl |⟨_,_,_,_,a,b,rfl⟩ <;> kernel_rfl)))).mono (by decide)
end
noncomputable def Flt (v:V):Prop:=(isA v=true∧cq 0 v=true)∨∃ us,v=.tup us∧∀ u∈us,isA u=true∧cq 0 u=true
section
variable {P:Pre}{F:au}{T H G:List aj}{b n:Nat}{v:V}{vs:List V}{a1 a2 hz jb jc jd je jf jg jh:aj}
theorem W6 (h:Flt v):gF G b (n+2) v=some v:=by
 rcases h with ⟨h1,af⟩ |⟨us,rfl,h⟩
 ·exact ej h1 (nh (Nat.zero_le _) _ af)
 ·show (iz (gF G b (n+1)) us).map V.tup=_
  rw[u3 h];rfl
theorem sz:∀{vs:List V},(∀ v∈vs,Flt v)→iz (gF G b (n+2)) vs=some vs
 |[],_=>rfl
 |v::r,h=>m9 (W6 (h v (.head _))) (sz fun u m=>h u (.tail _ m))
theorem JI:∀{vs:List V}{v:V},dS b vs=true→v∈vs→cq b v=true
 |u::r,v,h,m=>by
  obtain ⟨h1,af⟩:=Bool.and_eq_true_iff.mp h
  cases m with
  |head=>exact h1
  |tail _ m=>exact JI af m
theorem JJ (h:vs.all isA=true) (af:dS 0 vs=true):∀ v∈vs,Flt v:=fun v m=>.inl ⟨List.all_eq_true.mp h v m,JI af m⟩
theorem W7 (h:iK F):∀ v∈F.con,Flt v:=fun v m=>.inl (by
 have:=h v m
 cases v <;> first |exact ⟨rfl,rfl⟩ |cases this)
theorem yC {x y:V}(h:isA x=true∧cq 0 x=true) (af:isA y=true∧cq 0 y=true):∀ u∈[x,y],isA u=true∧cq 0 u=true:=oH h (mr af)
theorem W8 (h:∀ v∈F.aO,ik No F.ag v):∀ v∈F.dV,Flt v:=fun v m=>by
 obtain ⟨w,W9,rfl⟩:=List.mem_map.mp m
 cases h w W9 with
 |o q=>exact .inr ⟨_,rfl,yC ⟨rfl,rfl⟩ ⟨rfl,rfl⟩⟩
 |i q=>rw[JE (JD q)];exact .inr ⟨_,rfl,yC ⟨rfl,rfl⟩ ⟨rfl,rfl⟩⟩
 | @j op l q a3 =>
  obtain ⟨p,a3⟩:=a3.resolve_left id
  have e:iO F.ag (eN op (.int l))=eN op (.int p):=by unfold iO mv;dsimp only;rw[q];dsimp only;rw[Int.toNat_natCast,a3]
  rw[e];exact .inr ⟨_,rfl,yC ⟨rfl,rfl⟩ ⟨rfl,rfl⟩⟩
theorem Xa {l:List cS}:∀ v∈l.map cS.V,Flt v:=fun v m=>by
 obtain ⟨w,_,rfl⟩:=List.mem_map.mp m
 exact .inr ⟨_,rfl,oH ⟨rfl,rfl⟩ (oH ⟨rfl,rfl⟩ (oH ⟨rfl,rfl⟩ (yC ⟨rfl,rfl⟩ ⟨rfl,rfl⟩)))⟩
noncomputable abbrev JK (c k u h l x y:V):List (Str×V):=[(ei,.str dE),(pG,.ref 10),(rI,c),(Hp,k),(Hx,u),(Hs,h),(fE,l),(pF,.int 0),(Ho,.int 0),(Hn,x),(rL,.bool false),(Hy,.bool false),(Hw,.none),(Hm,.none),(Hu,y)]
noncomputable abbrev sA (c k u h l x y:V):List aj:=[.inst 145 (JK c k u h l x y),.list [],.list [],.list [],.list [],.list [],.list [],.list []]
noncomputable def gN (C K U H L:List V):V:=.fin 145 (JK (.aN C) (.aN K) (.aN U) (.aN H) (.aN L) (.ref 19) (.ref 20))
noncomputable abbrev kJ (a1 a2 hz jb jc jd je jf jg jh:aj):List aj:=[.list [],a1,a2,hz,jb,jc,jd,je,jf,jg,jh]
noncomputable abbrev Xb (ls:List (Str×V)):a5:=⟨ta.scope,[],none,ls⟩
theorem Xc {hl:List cS}(aw:F.aO.length<aL) (bY:F.bH.length<aL) (h1:∀ v∈F.aO,ik No F.ag v) (af:∀ v∈F.bH,∃ x y z d i j g,v=mz x y z d∧sy F.ag x y z d i j g) (aB:F.bH.map (hU F.ag)=hl.map cS.V)
 (bu:iK F) (dB:F.fu.all isA=true∧F.dZ.all isA=true) (bR:r0 F) (uI:(mk P F (kJ a1 a2 hz jb jc jd je jf jg jh)).all (cE 33)=true) :
 aq 30 (.obj (.ref 304)) [.ref 12] (mk P F (kJ a1 a2 hz jb jc jd je jf jg jh)) (gN F.dV F.con F.dZ (hl.map cS.V) F.fu) (mk P F (kJ a1 a2 hz jb jc jd je jf jg jh)):=by
 have iI:aq 8 (.obj (.ref 145)) [.str dE,.ref 10] (mk P F (kJ a1 a2 hz jb jc jd je jf jg jh)) (.ref 33) (mk P F (kJ a1 a2 hz jb jc jd je jf jg jh++sA (.ref 34) (.ref 35) (.ref 36) (.ref 37) (.ref 38) (.ref 39) (.ref 40))):=Gt.run (d:=8) 60 fun N n aa=>by kernel_rfl
 have aK:=W0 (P:=P) (T:=kJ a1 a2 hz jb jc jd je jf jg jh++sA (.ref 34) (.ref 35) (.ref 36) (.ref 37) (.ref 38) (.ref 39) (.ref 40)) aw h1
 have bw:=W5 (P:=P) (T:=kJ a1 a2 hz jb jc jd je jf jg jh++sA (.ref 41) (.ref 35) (.ref 36) (.ref 37) (.ref 38) (.ref 39) (.ref 40)++[.list F.dV]) bY af
 rw[aB] at bw
 have main:ab 29 (Xb [(bk,.ref 12)]) zJ.1 (mk P F (kJ a1 a2 hz jb jc jd je jf jg jh)) (.ret (.ref 33)) [(bk,.ref 12),(rM,.ref 33)] (mk P F (kJ a1 a2 hz jb jc jd je jf jg jh)++(sA (.ref 41) (.ref 44) (.ref 45) (.ref 42) (.ref 43) (.ref 19) (.ref 20)++[.list F.dV,.list (hl.map cS.V),.list F.fu,.list F.con,.list F.dZ])) :=
  ab.cons (bJ:=[(bk,.ref 12),(rM,.ref 33)]) (ah.assign (v:=.ref 33) (ai.bI (g:=.obj (.ref 145)) (vs:=[.str dE,.ref 10]) I I (iI.mono (by decide))) (bq.name (by kernel_rfl))) <|
  ab.cons (bJ:=[(bk,.ref 12),(rM,.ref 33)]) (ah.assign (ai.a0 (v:=.ref 12) (first:=[.ref 12]) (vs:=[]) I rfl GE.nil (aK.mono (by decide))) (bq.attr (v:=.ref 33) (H2:=mk P F (kJ a1 a2 hz jb jc jd je jf jg jh++sA (.ref 41) (.ref 35) (.ref 36) (.ref 37) (.ref 38) (.ref 39) (.ref 40)++[.list F.dV])) I (by kernel_rfl))) <|
  ab.cons (bJ:=[(bk,.ref 12),(rM,.ref 33)]) (ah.assign (ai.a0 (v:=.ref 12) (first:=[.ref 12]) (vs:=[]) I rfl GE.nil (bw.mono (by decide))) (bq.attr (v:=.ref 33) (H2:=mk P F (kJ a1 a2 hz jb jc jd je jf jg jh++sA (.ref 41) (.ref 35) (.ref 36) (.ref 42) (.ref 38) (.ref 39) (.ref 40)++[.list F.dV,.list (hl.map cS.V)])) I (by kernel_rfl))) <|
  (Gt.run (d:=29) 60 fun N n aa=>by kernel_rfl)
 obtain ⟨dc,cH,i0,mY,uP,uQ,uR⟩:=bR
 refine aq.jt (fi:=⟨ta,[bk],[],zJ.1,none,true⟩) (vs:=[.ref 12]) (cN:=[(bk,.ref 12)]) (by kernel_rfl) rfl (by kernel_rfl) rfl (by kernel_rfl) main fun aa=>?_
 have le:∀{i},33≤i→(mk P F (kJ a1 a2 hz jb jc jd je jf jg jh)).length≤i:=fun h=>h
 refine pL (rW (le (Nat.le_refl 33)) rfl ?_) rV uI
 exact dx (ej rfl rfl)<|dx rfl<|dx (ks (le (by decide)) rfl (sz (W8 h1)))<|dx (ks (le (by decide)) rfl (sz (W7 bu)))<|dx (ks (le (by decide)) rfl (sz (JJ dB.2 mY))) <|
  dx (ks (le (by decide)) rfl (sz Xa))<|dx (ks (le (by decide)) rfl (sz (JJ dB.1 cH)))<|dx (ej rfl rfl)<|dx (ej rfl rfl)<|dx rfl<|dx (ej rfl rfl)<|dx (ej rfl rfl)<|dx (ej rfl rfl)<|dx (ej rfl rfl)<|dx rfl rX
end
inductive b0 where
 |z |o |t
noncomputable def b0.s:b0→Str
 |.z=>⟨⟨[48]⟩⟩ |.o=>⟨⟨[49]⟩⟩ |.t=>⟨⟨[50]⟩⟩
inductive b5 where
 |gh (i:b0) |key (i:b0) |bb (i:b0) |qg (i:b0) |un |fn
noncomputable def b5.s:b5→Str
 |.gh i=>i.s
 |.key .z=>⟨⟨[107,48]⟩⟩ |.key .o=>⟨⟨[107,49]⟩⟩ |.key .t=>⟨⟨[107,50]⟩⟩
 |.bb .z=>⟨⟨[101,48]⟩⟩ |.bb .o=>⟨⟨[101,49]⟩⟩ |.bb .t=>⟨⟨[101,50]⟩⟩
 |.qg .z=>⟨⟨[55]⟩⟩ |.qg .o=>⟨⟨[56]⟩⟩ |.qg .t=>⟨⟨[57]⟩⟩
 |.un=>⟨⟨[85,78,68,69,70]⟩⟩ |.fn=>⟨⟨[70]⟩⟩
noncomputable abbrev b5.V (v:b5):V:=.str v.s
noncomputable abbrev yD:Str:=⟨⟨[103,101,116]⟩⟩
noncomputable abbrev sC:Str:=⟨⟨[109,101,109,98,101,114]⟩⟩
noncomputable abbrev sD:Str:=⟨⟨[101,108,101,109,101,110,116]⟩⟩
inductive Row where
 |get (n:b9) |b7 (n:fT) (v:b5) |mem (o:b0) (v:b5) |c6 (o s:b0) (v:b5)
noncomputable def Row.V:Row→V
 |.get n=>.tup [.str yD,.str n.s]
 |.b7 n v=>.tup [.str ei,.str n.s,v.V]
 |.mem o v=>.tup [.str sC,.str o.s,.str iJ,v.V]
 |.c6 o s v=>.tup [.str sD,.str o.s,.str s.s,v.V]
structure aQ where
 seen:List Row
 left:List b0
 cells:List b5
 cur:Nat
 held:List Nat
noncomputable def aQ.d3 (w:aQ) (r:Row):aQ:={w with seen:=w.seen++[r]}
noncomputable def aQ.hA (w:aQ):b0×aQ:=match w.left with
 |[]=>(.z,w)
 |d::r=>(d,{w with left:=r})
noncomputable def aQ.put (w:aQ) (v:b5):aQ:={w with cells:=w.cells.set w.cur v}
noncomputable def aQ.fresh (w:aQ) (v:b5):aQ:={w with cells:=w.cells++[v],cur:=w.cells.length}
noncomputable def aQ.hold (w:aQ):aQ:={w with held:=w.held++[w.cur]}
noncomputable def aQ.sets (w:aQ) (n:fT) (v:b5):aQ:=match n with
 |.x=>(w.put v).d3 (.b7 .x v)
 |n=>w.d3 (.b7 n v)
noncomputable def aQ.getD (w:aQ) (n:b9):b0×aQ:=(w.d3 (.get n)).hA
noncomputable def eV:b9→Bool
 |.e=>true
 |_=>false
noncomputable def hB:b9→Bool
 |.x=>true
 |_=>false
noncomputable abbrev Rs:Type:=Option b5×aQ×Nat
noncomputable def Rs.more (c:Nat) (r:Rs):Rs:=(r.1,r.2.1,c+r.2.2)
noncomputable def vf (n:b9) (w:aQ):Rs:=match n with
 |.x=>(none,w.d3 (.get .x),2)
 |.e=>(some (.bb (w.getD .e).1),(w.getD .e).2,1)
 |n=>(none,(w.getD n).2,2)
noncomputable def ec (t:dF) (v:b5) (w:aQ):Rs:=match t with
 |.b7 n=>(none,w.sets n v,2)
 |.var=>(none,w.sets .w v,2)
 |.mem n=>match eV n with
  |true=>(some (.bb (w.getD n).1),(w.getD n).2,1)
  |false=>(none,(w.getD n).2.d3 (.mem (w.getD n).1 v),4)
 |.c6 a b=>match eV a with
  |true=>(some (.bb (w.getD a).1),(w.getD a).2,1)
  |false=>match eV b with
   |true=>(some (.bb ((w.getD a).2.getD b).1),((w.getD a).2.getD b).2,2)
   |false=>(none,((w.getD a).2.getD b).2.d3 (.c6 (w.getD a).1 ((w.getD a).2.getD b).1 v),7)
noncomputable def Rs.seq (r:Rs) (c:Nat) (f:aQ→Rs):Rs:=match r with
 |(some x,w,n)=>(some x,w,n)
 |(none,w,n)=>(f w).more (n+c)
noncomputable def d4 (f:aQ→Rs) (n:b9):Nat→aQ→Rs
 |0,w=>(none,w,0)
 |k+1,w=>match (w.getD n).1 with
  |.z=>(none,(w.getD n).2,2)
  |_=>(((f (w.getD n).2).seq 1 (d4 f n k))).more 2
noncomputable def dQ (f:aQ→Rs) (t:dF):List b0→aQ→Rs
 |[],w=>(none,w,2)
 |k::r,w=>((ec t (.key k) w).seq 0 fun w1=>(f w1).seq 1 (dQ f t r)).more 1
noncomputable def keysOf:b0→List b0
 |.z=>[] |.o=>[.z] |.t=>[.z,.o]
noncomputable def vg (k:Int):b5:=match k with
 |7=>.qg .z |8=>.qg .o |_=>.qg .t
noncomputable def jX (cf:aQ→b5→aQ) (r:Rs) (f:aQ→Rs):Rs:=match r with
 |(none,w,n)=>(none,w,n+1)
 |(some x,w,n)=>(((f (cf w x)).seq 1 fun w=>(none,w,0))).more (n+3)
noncomputable def fy (cf:aQ→b5→aQ):bF→aQ→Rs
 |.b7 n,w=>vf n w
 |.el,w=>(none,w.hold,2)
 |.ff k,w=>(some (vg k),w,2)
 |.du n b,w=>d4 (fy cf b) n (w.left.length+1) w
 |.fin t n b,w=>(dQ (fy cf b) t (keysOf (w.getD n).1) (w.getD n).2).more 2
 |.dg b c,w=>jX cf (fy cf b w) (fy cf c)
 |.two a b,w=>(fy cf a w).seq 0 (fy cf b)
noncomputable abbrev a8:bF→aQ→Rs:=fy aQ.fresh
noncomputable def kK:b9→Bool
 |.t=>true |.u=>true |_=>false
noncomputable def oO:dF→Bool
 |.mem n=>!hB n
 |.c6 a b=>!hB a&&!hB b
 |_=>true
noncomputable def good:bF→Bool
 |.ff k=>decide (k=7) || (decide (k=8) || decide (k=9))
 |.du n b=>kK n&&good b
 |.fin t n b=>oO t&&(kK n&&good b)
 |.dg b c=>good b&&good c
 |.two a b=>good a&&good b
 |_=>true
noncomputable def gO:bF→Nat
 |.du _ _=>2
 |.fin _ _ _=>4
 |.dg b c=>gO b+gO c+5
 |.two a b=>gO a+gO b
 |_=>2
noncomputable def fK:bF→Nat
 |.du _ b=>max (3+gO b) (fK b)
 |.fin _ _ b=>max (2 * (9+gO b)) (fK b)
 |.dg b c=>max (fK b) (fK c)
 |.two a b=>max (fK a) (fK b)
 |_=>0
section
variable {w w' : aQ}{r:Rs}{a b c m k:Nat}{f:aQ→Rs}
structure gz (a b:Nat) (w:aQ) (r:Rs):Prop where
 le:r.2.1.left.length≤w.left.length
 c:r.2.2+b * r.2.1.left.length≤a+b * w.left.length
theorem Xd (w:aQ):w.hA.2.left.length≤w.left.length:=by unfold aQ.hA;split <;> simp_all
theorem Xe (w:aQ) (h:w.hA.1≠.z):w.hA.2.left.length+1=w.left.length:=by
 unfold aQ.hA at h ⊢
 split at h
 ·exact absurd rfl h
 ·rename_i af;rw[af];rfl
theorem gz.mono {a' b' : Nat}(x:gz a b w r) (b2:a≤a') (bt:b≤b'):gz a' b' w r:=⟨x.le,by
 obtain ⟨e,rfl⟩:=Nat.exists_eq_add_of_le bt
 have:=x.c
 have af:=Nat.mul_le_mul_left e x.le
 rw[Nat.add_mul,Nat.add_mul];omega⟩
theorem gz.of (h:r.2.2≤a) (af:r.2.1.left.length≤w.left.length):gz a b w r:=⟨af,Nat.add_le_add h (Nat.mul_le_mul_left _ af)⟩
theorem gz.more (x:gz a b w r):gz (c+a) b w (r.more c):=⟨x.le,by have:=x.c;show c+r.2.2+b * r.2.1.left.length≤_;omega⟩
theorem gz.seq {a' : Nat}(x:gz a b w r) (y:∀ w1,w1.left.length≤w.left.length→gz a' b w1 (f w1)):gz (a+c+a') b w (r.seq c f):=by
 obtain ⟨q,w1,n⟩:=r
 have sE:w1.left.length≤w.left.length:=x.le
 have oP:n+b * w1.left.length≤a+b * w.left.length:=x.c
 cases q with
 |some v=>exact ⟨sE,show n+b * w1.left.length≤_ by omega⟩
 |none =>
  have z:=y w1 sE
  have ZI:=z.c
  exact ⟨Nat.le_trans z.le sE,show n+c+(f w1).2.2+b * (f w1).2.1.left.length≤_ by omega⟩
end
section
variable {w w' : aQ}{r:Rs}{a b c m k B:Nat}{f:aQ→Rs}{n:b9}{t:dF}
theorem jY (w:aQ) (n:b9):(w.getD n).2.left.length≤w.left.length:=Xd (w.d3 (.get n))
theorem vh (w:aQ) (n:b9) (h:(w.getD n).1≠.z):(w.getD n).2.left.length+1=w.left.length:=Xe (w.d3 (.get n)) h
theorem JL (hf:∀ w,gz a b w (f w)) (h1:3+a≤B) (af:b≤B):∀(k:Nat) (w:aQ),gz 2 B w (d4 f n k w)
 |0,w=>.of (Nat.zero_le _) (Nat.le_refl _)
 |k+1,w=>by
  have aI:=JL hf h1 af k
  have key:(w.getD n).1≠.z→gz 2 B w (((f (w.getD n).2).seq 1 (d4 f n k)).more 2):=fun h=>by
   have p:=vh w n h
   have x:=(((hf (w.getD n).2).mono (Nat.le_refl a) af).seq (c:=1) fun w1 _=>aI w1).more (c:=2)
   refine ⟨Nat.le_trans x.le (by omega),?_⟩
   have:=x.c
   have e:B * w.left.length=B * (w.getD n).2.left.length+B:=by rw[←p,Nat.mul_add,Nat.mul_one]
   omega
  unfold d4
  cases h:(w.getD n).1 with
  |z=>exact .of (Nat.le_refl 2) (jY w n)
  |o=>exact key (by rw[h];exact b0.noConfusion)
  |t=>exact key (by rw[h];exact b0.noConfusion)
theorem Xf (n:fT) (v:b5):(w.sets n v).left=w.left:=by cases n <;> rfl
theorem Xg (t:dF) (v:b5) (w:aQ):gz 7 b w (ec t v w):=by
 cases t with
 |b7 n=>exact .of (by decide:2≤7) (by show (w.sets n v).left.length≤_;rw[Xf];exact Nat.le_refl _)
 |var=>exact .of (by decide:2≤7) (Nat.le_refl _)
 |mem n =>
  unfold ec
  dsimp only
  split
  ·exact .of (by decide:1≤7) (jY w n)
  ·exact .of (by decide:4≤7) (jY w n)
 |c6 x y =>
  unfold ec
  dsimp only
  split
  ·exact .of (by decide:1≤7) (jY w x)
  ·split
   ·exact .of (by decide:2≤7) (Nat.le_trans (jY _ y) (jY w x))
   ·exact .of (by decide:7≤7) (Nat.le_trans (jY _ y) (jY w x))
theorem JM (hf:∀ w,gz a b w (f w)):∀(b6:List b0) (w:aQ),gz (2+b6.length * (9+a)) b w (dQ f t b6 w)
 |[],w=>.of (Nat.le_add_right _ _) (Nat.le_refl _)
 |k::r,w=>by
  have x:=((Xg (b:=b) t (.key k) w).seq (c:=0) fun w1 _=>(hf w1).seq (c:=1) fun eJ _=>JM hf r eJ).more (c:=1)
  exact x.mono (by rw[List.length_cons,Nat.add_mul];omega) (Nat.le_refl _)
theorem ny {cf:aQ→b5→aQ}(oQ:∀ w v,(cf w v).left=w.left):∀(t:bF) (w:aQ),gz (gO t) (fK t) w (fy cf t w)
 |.b7 n,w=>by
  show gz 2 0 w (vf n w)
  cases n with
  |x=>exact .of (Nat.le_refl 2) (Nat.le_refl _)
  |e=>exact .of (by decide:1≤2) (jY w .e)
  |t=>exact .of (Nat.le_refl 2) (jY w .t)
  |u=>exact .of (Nat.le_refl 2) (jY w .u)
 |.el,w=>.of (Nat.le_refl 2) (Nat.le_refl _)
 |.ff k,w=>.of (Nat.le_refl 2) (Nat.le_refl _)
 |.du n b,w=>JL (ny oQ b) (Nat.le_max_left _ _) (Nat.le_max_right _ _) _ w
 |.fin t n b,w=>by
  have x:=((JM (t:=t) (ny oQ b) (keysOf (w.getD n).1) (w.getD n).2).mono (Nat.le_refl _) (Nat.le_max_right (2 * (9+gO b)) _)).more (c:=2)
  refine ⟨Nat.le_trans x.le (jY w n),?_⟩
  have h1:2 * (9+gO b)≤max (2 * (9+gO b)) (fK b):=Nat.le_max_left _ _
  show ((dQ (fy cf b) t (keysOf (w.getD n).1) (w.getD n).2).more 2).2.2+max (2 * (9+gO b)) (fK b) * ((dQ (fy cf b) t (keysOf (w.getD n).1) (w.getD n).2).more 2).2.1.left.length≤4+max (2 * (9+gO b)) (fK b) * w.left.length
  have oP:=x.c
  generalize max (2 * (9+gO b)) (fK b)=B at *
  have key:∀ l:Nat,l≤2→(w.getD n).2.left.length+1=w.left.length→2+(2+l * (9+gO b))+B * (w.getD n).2.left.length≤4+B * w.left.length:=fun l hl p=>by
   have e:B * w.left.length=B * (w.getD n).2.left.length+B:=by rw[←p,Nat.mul_add,Nat.mul_one]
   have:=Nat.mul_le_mul_right (9+gO b) hl
   omega
  cases h:(w.getD n).1 with
  |z =>
   rw[h] at oP
   have:=Nat.mul_le_mul_left B (jY w n)
   have e:(keysOf .z).length * (9+gO b)=0:=Nat.zero_mul _
   rw[e] at oP;omega
  |o=>rw[h] at oP;exact Nat.le_trans oP (key 1 (by decide) (vh w n (by rw[h];exact b0.noConfusion)))
  |t=>rw[h] at oP;exact Nat.le_trans oP (key 2 (by decide) (vh w n (by rw[h];exact b0.noConfusion)))
 |.dg b c,w=>by
  have x:=(ny oQ b w).mono (Nat.le_refl _) (Nat.le_max_left (fK b) (fK c))
  have y:=fun w=>(ny oQ c w).mono (Nat.le_refl _) (Nat.le_max_right (fK b) (fK c))
  show gz (gO b+gO c+5) (max (fK b) (fK c)) w (jX cf (fy cf b w) (fy cf c))
  generalize max (fK b) (fK c)=B at *
  generalize fy cf b w=r at *
  obtain ⟨q,w1,n⟩:=r
  have sE:w1.left.length≤w.left.length:=x.le
  have oP:n+B * w1.left.length≤gO b+B * w.left.length:=x.c
  cases q with
  |none=>exact ⟨sE,show n+1+B * w1.left.length≤_ by omega⟩
  |some v =>
   have z:=((y (cf w1 v)).seq (c:=1) (f:=fun w=>(none,w,0)) (a':=0) fun eJ _=>.of (Nat.le_refl _) (Nat.le_refl _)).more (c:=n+3)
   refine ⟨Nat.le_trans z.le (Nat.le_trans (Nat.le_of_eq (congrArg List.length (oQ w1 v))) sE),?_⟩
   have:=z.c
   show ((((fy cf c (cf w1 v)).seq 1 fun w=>(none,w,0))).more (n+3)).2.2+B * ((((fy cf c (cf w1 v)).seq 1 fun w=>(none,w,0))).more (n+3)).2.1.left.length≤_
   have e:(cf w1 v).left=w1.left:=oQ w1 v
   rw[e] at this
   omega
 |.two a b,w=>by
  have x:=((ny oQ a w).mono (Nat.le_refl _) (Nat.le_max_left (fK a) (fK b))).seq (c:=0) (f:=fy cf b) fun w1 _=>(ny oQ b w1).mono (Nat.le_refl _) (Nat.le_max_right (fK a) (fK b))
  exact x
end
section
variable {D:bG}{q:Bool}{i:Int}{m k:Nat}{f:Bool→bG→bF×bG}{g:bG→bF×bG}
theorem CC {i:Int}(h:0≤i∧i<2):kK (e7 i)=true:=by
 have:i=0∨i=1:=by omega
 rcases this with rfl |rfl <;> rfl
theorem JN {i:Int}(h:0≤i∧i<3):hB (e7 i)=false:=by
 have:i=0∨i=1∨i=2:=by omega
 rcases this with rfl |rfl |rfl <;> rfl
theorem sF {n:b9}(h:kK n=true):hB n=false:=by cases n <;> first |rfl |cases h
theorem Xh:oO (gc q D).1=true:=by
 unfold gc x3
 split
 ·rfl
 ·rfl
 ·exact congrArg (!·) (JN (ig (by decide)))
 ·show (!_&&!_)=true
  rw[sF (CC (ig (by decide))),JN (ig (by decide))];rfl
 ·rfl
theorem CD (cP:∀ D,good (g D).1=true):good (cW g D).1=true:=by
 unfold cW
 split
 ·exact cP _
 ·exact Bool.and_eq_true_iff.mpr ⟨cP _,cP _⟩
theorem vi {a b:Bool}(h:a=true) (af:b=true):(a&&b)=true:=by rw[h,af];rfl
theorem JO (hf:∀ q D,good (f q D).1=true):good (gd f q i D).1=true:=by
 unfold gd
 split
 ·rfl
 ·split <;> rfl
 ·exact vi (CC (ig (by decide))) (hf _ _)
 ·exact vi Xh (vi (CC (ig (by decide))) (hf _ _))
 ·split
  ·rfl
  ·exact vi (CD (hf _)) (CD (hf _))
 ·have h:=ig (D:=D) (w:=3) (by decide)
  have:(D.take 3).1=0∨(D.take 3).1=1∨(D.take 3).1=2:=by omega
  show good (.ff (7+(D.take 3).1))=true
  rcases this with e |e |e <;> rw[e] <;> rfl
theorem JP:∀(k:Nat) (q:Bool) (D:bG),good (dG k q D).1=true
 |0,q,D=>JO fun _ _=>rfl
 |k+1,q,D=>JO fun q D=>JP k q D
structure qh (m k:Nat) (t:bF):Prop where
 a:gO t≤m
 b:fK t≤k
theorem vj (cP:∀ D,qh m k (g D).1):qh (m+m) k (cW g D).1:=by
 unfold cW
 split
 ·exact ⟨Nat.le_trans (cP _).a (Nat.le_add_left _ _),(cP _).b⟩
 ·exact ⟨Nat.add_le_add (cP _).a (cP _).a,Nat.max_le.mpr ⟨(cP _).b,(cP _).b⟩⟩
theorem CE (hf:∀ q D,qh m k (f q D).1) (ar:k≤2 * (9+m)):qh (m+m+(m+m)+5) (2 * (9+m)) (gd f q i D).1:=by
 have l2:2≤m+m+(m+m)+5:=Nat.le_trans (by decide) (Nat.le_add_left 5 _)
 have lj:4≤m+m+(m+m)+5:=Nat.le_trans (by decide) (Nat.le_add_left 5 _)
 unfold gd
 split
 ·exact ⟨l2,Nat.zero_le _⟩
 ·split <;> exact ⟨l2,Nat.zero_le _⟩
 ·exact ⟨l2,Nat.max_le.mpr ⟨Nat.le_trans (Nat.add_le_add_left (hf _ _).a 3) (by omega),Nat.le_trans (hf _ _).b ar⟩⟩
 ·exact ⟨lj,Nat.max_le.mpr ⟨Nat.mul_le_mul_left 2 (Nat.add_le_add_left (hf _ _).a 9),Nat.le_trans (hf _ _).b ar⟩⟩
 ·split
  ·exact ⟨l2,Nat.zero_le _⟩
  ·exact ⟨Nat.add_le_add_right (Nat.add_le_add (vj (hf _)).a (vj (hf _)).a) 5,Nat.le_trans (Nat.max_le.mpr ⟨(vj (hf _)).b,(vj (hf _)).b⟩) ar⟩
 ·exact ⟨l2,Nat.zero_le _⟩
theorem Xi:qh 2 0 (dG 0 q D).1:=by
 have h:=ig (D:=D) (w:=2) (by decide)
 have:(D.take 2).1=0∨(D.take 2).1=1:=by omega
 show qh 2 0 (gd _ q (D.take 2).1 (D.take 2).2).1
 rcases this with e |e <;> rw[e]
 ·exact ⟨Nat.le_refl _,Nat.le_refl _⟩
 ·cases q <;> exact ⟨Nat.le_refl _,Nat.le_refl _⟩
theorem JQ:qh 466 132 (cR D):=vj fun D=>CE (fun q D=>CE (fun q D=>CE (fun q D=>Xi) (by decide)) (by decide)) (by decide)
theorem Xj:good (cR D)=true:=CD fun D=>JP 3 false D
end
set_option genInjectivity true in
inductive cn where
 |s |l |h |d |k |c (i:Nat) |y (j:Nat) |o
inductive ck where
 |s (v:b5) |k (a:Nat) (l:List b0) |n
noncomputable def ck.V:ck→V
 |.s v=>v.V |.k a _=>.ref a |.n=>.none
noncomputable abbrev sG (d:b0):V:=(b5.key d).V
noncomputable abbrev cg (d:b0):V:=.str d.s
noncomputable abbrev ji (q c:Nat):List (Str×V):=[(ov,.ref q),(pE,.ref (q+1)),(gJ,.ref c),(rK,.ref (q+3))]
structure cK (q:Nat) (H:List aj) (w:aQ) (am:Nat→Nat) (ρ:Nat→cn):Prop where
 seen:H[q]?=some (.list (w.seen.map Row.V))
 left:H[q+1]?=some (.list (w.left.map cg))
 held:H[q+3]?=some (.list (w.held.map fun i=>.ref (am i)))
 dict:H[q+4]?=some (.dict (ji q (am w.cur)))
 cell:∀ i v,w.cells[i]?=some v→H[am i]?=some (.list [v.V])
 cur:w.cur<w.cells.length
 iG:∀ i∈w.held,i<w.cells.length
 rs:ρ q=.s
 f9:ρ (q+1)=.l
 gP:ρ (q+3)=.h
 a8:ρ (q+4)=.d
 rc:∀ i,i<w.cells.length→ρ (am i)=.c i
noncomputable def oR:cn→Bool
 |.k=>true |.y _=>true |.o=>true |_=>false
structure fj (ρ:Nat→cn) (H H' : List aj):Prop where
 k:∀ a o,H[a]?=some o→oR (ρ a)=true→H'[a]?=some o
 n:H.length≤H'.length
noncomputable def gA (ρ ρ' : Nat→cn) (H:List aj):Prop:=∀(a:Nat) (o:aj),H[a]?=some o→ρ' a=ρ a
structure cp (cC:Nat→Option aj) (q sk:Nat) (H:List aj) (st:List ck) (w:aQ) (am:Nat→Nat) (ρ:Nat→cn):Prop where
 wr:cK q H w am ρ
 hV:H[sk]?=some (.list (st.map ck.V))
 il:ρ sk=.k
 keys:∀ j a l,st[j]?=some (.k a l)→H[a]?=some (.list (l.map sG))∧ρ a=.y j
 qi:∀ a o,cC a=some o→H[a]?=some o∧ρ a=.o
section
variable {q sk a b:Nat}{H H' G:List aj}{w w' : aQ}{am bW:Nat→Nat}{ρ ρ' mA:Nat→cn}{o y:aj}{st st' : List ck}{r:Row}{v:b5}{d:b0}{l:List b0}{u xc:cn}
theorem ip {α:Type}{l:List α}{i:Nat}{x:α}(e:l[i]?=some x):i<l.length:=(List.getElem?_eq_some_iff.mp e).1
theorem nz (e:H[a]?=some o):(H.set a y)[a]?=some y:=List.getElem?_set_self (ip e)
theorem eK (h1:ρ b=u) (af:ρ a=xc) (h:u≠xc) (e:H[b]?=some o):(H.set a y)[b]?=some o:=(List.getElem?_set_ne (fun q=>h (h1.symm.trans ((congrArg ρ q.symm).trans af)))).trans e
theorem fj.refl:fj ρ H H:=⟨fun _ _ e _=>e,Nat.le_refl _⟩
theorem fj.ext:fj ρ H (H++G):=⟨fun _ _ e _=>cY e,by rw[List.length_append];exact Nat.le_add_right _ _⟩
theorem fj.set (h:oR (ρ a)=false):fj ρ H (H.set a y):=⟨fun b o e k=>(List.getElem?_set_ne (fun q=>by subst q;rw[h] at k;cases k)).trans e,Nat.le_of_eq List.length_set.symm⟩
theorem fj.trans {JR}(x:fj ρ H H') (e:gA ρ ρ' H) (y:fj ρ' H' JR):fj ρ H JR:=⟨fun a o h k=>y.k a o (x.k a o h k) (by rw[e a o h];exact k),Nat.le_trans x.n y.n⟩
theorem gA.trans (x:gA ρ ρ' H) (n:H.length≤H'.length) (y:gA ρ' mA H'):gA ρ mA H:=fun a o h=>(y a _ (List.getElem?_eq_getElem (Nat.lt_of_lt_of_le (ip h) n))).trans (x a o h)
theorem gA.refl:gA ρ ρ H:=fun _ _ _=>rfl
theorem cK.ext (x:cK q H w am ρ):cK q (H++G) w am ρ:=⟨cY x.seen,cY x.left,cY x.held,cY x.dict,fun i v e=>cY (x.cell i v e),x.cur,x.iG,x.rs,x.f9,x.gP,x.a8,x.rc⟩
theorem cK.d3 (x:cK q H w am ρ):cK q (H.set q (.list (w.seen.map Row.V++[r.V]))) (w.d3 r) am ρ :=
 ⟨(nz x.seen).trans (by unfold aQ.d3;simp),eK x.f9 x.rs cn.noConfusion x.left,eK x.gP x.rs cn.noConfusion x.held,eK x.a8 x.rs cn.noConfusion x.dict,fun i v e=>eK (x.rc i (ip e)) x.rs cn.noConfusion (x.cell i v e),x.cur,x.iG,x.rs,x.f9,x.gP,x.a8,x.rc⟩
theorem cK.pop {r:List b0}(x:cK q H w am ρ):cK q (H.set (q+1) (.list (r.map cg))) {w with left:=r} am ρ :=
 ⟨eK x.rs x.f9 cn.noConfusion x.seen,nz x.left,eK x.gP x.f9 cn.noConfusion x.held,eK x.a8 x.f9 cn.noConfusion x.dict,fun i v e=>eK (x.rc i (ip e)) x.f9 cn.noConfusion (x.cell i v e),x.cur,x.iG,x.rs,x.f9,x.gP,x.a8,x.rc⟩
theorem cK.hold (x:cK q H w am ρ):cK q (H.set (q+3) (.list ((w.held.map fun i=>V.ref (am i))++[.ref (am w.cur)]))) w.hold am ρ :=
 ⟨eK x.rs x.gP cn.noConfusion x.seen,eK x.f9 x.gP cn.noConfusion x.left,(nz x.held).trans (by unfold aQ.hold;simp),eK x.a8 x.gP cn.noConfusion x.dict,fun i v e=>eK (x.rc i (ip e)) x.gP cn.noConfusion (x.cell i v e),x.cur,
  fun i m=>(List.mem_append.mp m).elim (x.iG i) (fun m=>by rw[List.mem_singleton.mp m];exact x.cur),x.rs,x.f9,x.gP,x.a8,x.rc⟩
theorem cK.put (x:cK q H w am ρ):cK q (H.set (am w.cur) (.list [v.V])) (w.put v) am ρ:=by
 have rc:=x.rc _ x.cur
 have ln:(w.put v).cells.length=w.cells.length:=List.length_set
 refine ⟨eK x.rs rc cn.noConfusion x.seen,eK x.f9 rc cn.noConfusion x.left,eK x.gP rc cn.noConfusion x.held,eK x.a8 rc cn.noConfusion x.dict,fun i u e=>?_,ln▸x.cur,fun i m=>ln▸x.iG i m,x.rs,x.f9,x.gP,x.a8,fun i h=>x.rc i (ln▸h)⟩
 have aC:(w.cells.set w.cur v)[i]?=some u:=e
 clear e
 rw[List.getElem?_set] at aC
 split at aC
 ·rename_i h
  subst h
  rw[if_pos x.cur] at aC
  cases aC
  exact nz (x.cell _ _ (List.getElem?_eq_getElem x.cur))
 ·rename_i h
  exact eK (x.rc i (ip aC)) rc (fun q=>h (cn.c.inj q).symm) (x.cell i u aC)
theorem cK.other (x:cK q H w am ρ) (h:oR (ρ a)=true):cK q (H.set a y) w am ρ:=by
 have ne:∀{b o u},ρ b=u→oR u=false→H[b]?=some o→(H.set a y)[b]?=some o:=fun {b o u} e k g=>(List.getElem?_set_ne (fun q=>by subst q;rw[e,k] at h;cases h)).trans g
 exact ⟨ne x.rs rfl x.seen,ne x.f9 rfl x.left,ne x.gP rfl x.held,ne x.a8 rfl x.dict,fun i v e=>ne (x.rc i (ip e)) rfl (x.cell i v e),x.cur,x.iG,x.rs,x.f9,x.gP,x.a8,x.rc⟩
noncomputable def jZ {α:Type}(f:Nat→α) (n:Nat) (x:α):Nat→α:=fun i=>if i=n then x else f i
theorem qj {α:Type}{f:Nat→α}{n:Nat}{x:α}:jZ f n x n=x:=if_pos rfl
theorem JS {α:Type}{f:Nat→α}{n i:Nat}{x:α}(h:i≠n):jZ f n x i=f i:=if_neg h
theorem gA.up:gA ρ (jZ ρ H.length u) H:=fun a o e=>JS (Nat.ne_of_lt (ip e))
theorem cK.role (x:cK q H w am ρ) (e:gA ρ ρ' H):cK q H w am ρ' :=
 ⟨x.seen,x.left,x.held,x.dict,x.cell,x.cur,x.iG,(e _ _ x.seen).trans x.rs,(e _ _ x.left).trans x.f9,(e _ _ x.held).trans x.gP,(e _ _ x.dict).trans x.a8,fun i h=>(e _ _ (x.cell i _ (List.getElem?_eq_getElem h))).trans (x.rc i h)⟩
theorem cK.fresh (x:cK q H w am ρ):cK q ((H++[aj.list [v.V]]).set (q+4) (.dict (ji q H.length))) (w.fresh v) (jZ am w.cells.length H.length) (jZ ρ H.length (.c w.cells.length)):=by
 have z:=x.role (ρ':=jZ ρ H.length (.c w.cells.length)) gA.up
 have y:=z.ext (G:=[aj.list [v.V]])
 have CF:∀ i,i<w.cells.length→jZ am w.cells.length H.length i=am i:=fun i h=>JS (Nat.ne_of_lt h)
 have ln:(w.fresh v).cells.length=w.cells.length+1:=by unfold aQ.fresh;simp
 refine ⟨eK y.rs y.a8 cn.noConfusion y.seen,eK y.f9 y.a8 cn.noConfusion y.left,?_,?_,fun i u e=>?_,by rw[ln];exact Nat.lt_succ_self _,fun i m=>by rw[ln];exact Nat.lt_succ_of_lt (x.iG i m),y.rs,y.f9,y.gP,y.a8,fun i h=>?_⟩
 ·refine (eK y.gP y.a8 cn.noConfusion y.held).trans ?_
  show _=some (aj.list (w.held.map fun i=>V.ref (jZ am w.cells.length H.length i)))
  congr 2
  exact List.map_congr_left fun i m=>by rw[CF i (x.iG i m)]
 ·refine (nz y.dict).trans ?_
  show _=some (aj.dict (ji q (jZ am w.cells.length H.length w.cells.length)))
  rw[qj]
 ·have e:(w.cells++[v])[i]?=some u:=e
  by_cases h:i<w.cells.length
  ·rw[List.getElem?_append_left h] at e
   rw[CF i h]
   exact eK (y.rc i h) y.a8 cn.noConfusion (y.cell i u e)
  ·have lt:=ip e
   rw[List.length_append] at lt
   have aM:i=w.cells.length:=by simp at lt;omega
   subst aM
   rw[List.getElem?_append_right (Nat.le_refl _),Nat.sub_self] at e
   cases e
   rw[qj]
   exact eK (ρ:=jZ ρ H.length (.c w.cells.length)) qj y.a8 cn.noConfusion fc
 ·by_cases aM:i<w.cells.length
  ·rw[CF i aM];exact y.rc i aM
  ·have aM:i=w.cells.length:=by rw[ln] at h;omega
   subst aM
   rw[qj,qj]
end
inductive gi {α:Type}(P Q:α→Prop):Prop
 |mk (a:α) (h:P a) (g:Q a)
inductive mB {α β gD:Type}(P Q:α→β→gD→Prop):Prop
 |mk (a:α) (b:β) (c:gD) (h:P a b c) (g:Q a b c)
inductive Xk {α β gD jq:Type}(P Q:α→β→gD→jq→Prop):Prop
 |mk (a:α) (b:β) (c:gD) (d:jq) (h:P a b c d) (g:Q a b c d)
inductive vk {α β gD jq JT:Type}(P Q:α→β→gD→jq→JT→Prop):Prop
 |mk (a:α) (b:β) (c:gD) (d:jq) (e:JT) (h:P a b c d e) (g:Q a b c d e)
noncomputable abbrev dq:Str:=⟨⟨[119,111,114,108,100]⟩⟩
noncomputable abbrev JU:Str:=⟨⟨[119,104,97,116]⟩⟩
noncomputable abbrev JV:Str:=⟨⟨[112,111,112]⟩⟩
section
variable {q sk a b i r:Nat}{H H' G:List aj}{w w' : aQ}{am bW:Nat→Nat}{ρ ρ' mA:Nat→cn}{o y:aj}{v:b5}{d:b0}{x u:V}{vs:List V}{fs:List (Str×V)}{s:Str}{n:b9}
theorem iP (h:H[r]?=some (.dict fs)) (e:look s fs=some x):jw (.ref r) (.str s) ⟨H,True⟩=some x:=by
 exact (bj (congrArg tG h)).trans e
theorem JW (h:H[r]?=some (.list (x::vs))):jw (.ref r) (.int 0) ⟨H,True⟩=some x:=l9 (j:=0) h rfl
theorem CG (h:H[r]?=some (.list vs)):ke (.ref r) JV ⟨H,True⟩=some (.obj (.builtin "list.pop"),[.ref r]):=by
 exact (l7 (congrArg lR h)).trans ((bj (congrArg eF h)).trans rfl)
theorem aq.JX (h:H[r]?=some (.list (x::vs))):aq 1 (.obj (.builtin "list.pop")) [.ref r,.int 0] H x (H.set r (.list vs)):=aq.bi fun aa=>by
 show nV _ _ _ _=_
 unfold nV
 rw[if_neg (by decide),if_pos rfl]
 exact (bj (congrArg eF h)).trans rfl
section
variable {α:Type}{f:α→Str}{l:List α}
theorem yE {H:List aj}{n:Nat}:∀{l:List α},kg (toPy H (n+1)) (l.map fun a=>V.str (f a))=some (l.map fun a=>PyData.str (f a))
 |[]=>rfl
 |a::r=>by
  show (some (PyData.str (f a))).bind (fun d=>(kg (toPy H (n+1)) (r.map fun a=>V.str (f a))).map fun ds=>d::ds)=_
  rw[yE];rfl
theorem vl {ds:List PyData}{n:Nat}(h:H[i]?=some (.list vs)) (af:kg (toPy H n) vs=some ds):toPy H (n+1) (.ref i)=some (.list ds):=by
 exact (bj (congrArg eF h)).trans (eh af)
theorem eq_nil (h:H[i]?=some (.list (l.map fun a=>V.str (f a)))):wt (.ref i) (.ref H.length) (H++[.list []])=some l.isEmpty:=by
 have h1:=vl (n:=5) (cY (H':=[aj.list []]) h) yE
 have af:=vl (n:=5) (fc (H:=H) (x:=.list [])) (ds:=[]) rfl
 show ((toPy _ 6 _).bind fun d=>(toPy _ 6 _).map fun e=>gr d e)=_
 exact (bj h1).trans ((eh af).trans (by cases l <;> rfl))
theorem ne_nil (h:H[i]?=some (.list (l.map fun a=>V.str (f a)))):dX .NotEq (.ref i) (.ref H.length) ⟨H++[.list []],True⟩=some (!l.isEmpty,⟨H++[.list []],True⟩):=by
 exact eh (eh (eq_nil h))
theorem JY (h:H[i]?=some (.list (l.map fun a=>V.str (f a)))):dX .Eq (.ref i) (.ref H.length) ⟨H++[.list []],True⟩=some (l.isEmpty,⟨H++[.list []],True⟩):=by
 exact eh (eq_nil h)
end
noncomputable abbrev yF (ls:List (Str×V)):a5:=⟨qM.scope,[],none,ls⟩
theorem JZ (x:cK q H w am ρ) (ak:w.seen.length<aL) (n:b9):ah 4 (yF [(dq,.ref (q+4)),(ei,.str n.s)]) (bQ o3.1 0) H .next [(dq,.ref (q+4)),(ei,.str n.s)] (H.set q (.list (w.seen.map Row.V++[(Row.get n).V]))) :=
 ah.expr (ai.a0 (v:=.ref q) (first:=[.ref q]) (vs:=[(Row.get n).V]) (ai.sub I I (iP (s:=ov) x.dict (by kernel_rfl))) (qf x.seen) I ((aq.app x.seen (by rw[List.length_map];exact ak)).mono (by decide)))
theorem J0 (x:cK q H w am ρ) (ak:w.seen.length<aL) (aV:w.cells[w.cur]?=some v):aq 5 (.obj (.ref 897)) [.ref (q+4),.str dE] H (.tup [v.V,.none]) (H.set q (.list (w.seen.map Row.V++[(Row.get .x).V]))):=by
 have y:=x.d3 (r:=.get .x)
 have d:(H.set q (.list (w.seen.map Row.V++[(Row.get .x).V])))[am w.cur]?=some (.list [v.V]):=y.cell _ _ aV
 exact aq.hP (fi:=⟨qM,[dq,ei],[],o3.1,none,false⟩) (vs:=[.ref (q+4),.str dE]) (cN:=[(dq,.ref (q+4)),(ei,.str dE)]) (by kernel_rfl) rfl (by kernel_rfl) rfl (by kernel_rfl) <|
  ab.cons (JZ x ak .x)<|ab.stop (ah.cm I (ab.ret (ah.ret (ai.tup (GE.cons (ai.sub (ai.sub I I (iP (s:=gJ) y.dict (by kernel_rfl))) I (JW d)) I))))) (by intro z;cases z)
theorem Xl (x:cK q H w am ρ) {n:b9}(bc:hB n=false):gi (fun H'=>ah 4 (yF [(dq,.ref (q+4)),(ei,.str n.s)]) (bQ o3.1 2) H .next [(dq,.ref (q+4)),(ei,.str n.s),(dw,cg w.hA.1)] H') fun H'=>cK q H' w.hA.2 am ρ∧fj ρ H H':=by
 have c:=ne_nil (f:=b0.s) x.left
 have y:=x.ext (G:=[.list []])
 have sk:oR (ρ (q+1))=false:=by rw[x.f9];rfl
 obtain ⟨Xm,lf,ce,Xn,he⟩:=w
 cases lf with
 |nil=>exact ⟨_,ah.assign (ai.iff (GT.cmp (ai.sub I I (iP (s:=pE) x.dict (by kernel_rfl))) (ai.list GE.nil) c) I) (bq.name (by kernel_rfl)),y,.ext⟩
 |cons d r =>
  refine ⟨_,ah.assign (ai.cm (GT.cmp (ai.sub I I (iP (s:=pE) x.dict (by kernel_rfl))) (ai.list GE.nil) c) (ai.a0 (v:=.ref (q+1)) (first:=[.ref (q+1)]) (vs:=[.int 0]) (ai.sub I I (iP (s:=pE) y.dict (by kernel_rfl))) (CG y.left) I ((aq.JX y.left).mono (by decide)))) (bq.name (by kernel_rfl)),y.pop,fj.trans .ext .refl (.set sk)⟩
noncomputable def sH (n:b9) (d:b0):V:=match eV n with
 |true=>.tup [.none,(b5.bb d).V]
 |false=>.tup [cg d,.none]
theorem J1 (x:cK q H w am ρ) (ak:w.seen.length<aL) (bc:hB n=false):gi (fun H'=>aq 5 (.obj (.ref 897)) [.ref (q+4),.str n.s] H (sH n (w.getD n).1) H') fun H'=>cK q H' (w.getD n).2 am ρ∧fj ρ H H':=by
 have y:=x.d3 (r:=.get n)
 obtain ⟨H',g,tx,k⟩:=Xl y bc
 have sk:oR (ρ q)=false:=by rw[x.rs];rfl
 refine ⟨H',?_,tx,fj.trans (.set sk) .refl k⟩
 have fin:∀{n:b9}{d:b0},hB n=false→ab 4 (yF [(dq,.ref (q+4)),(ei,.str n.s),(dw,cg d)]) (o3.1.drop 3) H' (.ret (sH n d)) [(dq,.ref (q+4)),(ei,.str n.s),(dw,cg d)] H':=fun {n d} h=>by
  cases n with
  |x=>cases h
  |e=>exact ab.ret (ah.ret (ai.cm I (ai.tup (GE.cons I (GE.cons (ai.bin (a:=.str pD) (b:=cg d) I I (fun s _=>by cases d <;> rfl)) GE.nil)))))
  |t=>exact ab.ret (ah.ret (ai.iff I I))
  |u=>exact ab.ret (ah.ret (ai.iff I I))
 have f0:GT 4 (yF [(dq,.ref (q+4)),(ei,.str n.s)]) (eH (bQ o3.1 1)) (H.set q (.list (w.seen.map Row.V++[(Row.get n).V]))) false (H.set q (.list (w.seen.map Row.V++[(Row.get n).V]))):=by
  cases n with
  |x=>cases bc
  |_=>exact I
 exact aq.hP (fi:=⟨qM,[dq,ei],[],o3.1,none,false⟩) (vs:=[.ref (q+4),.str n.s]) (cN:=[(dq,.ref (q+4)),(ei,.str n.s)]) (by kernel_rfl) rfl (by kernel_rfl) rfl (by kernel_rfl) <|
  ab.cons (JZ x ak n)<|ab.cons (ah.iff f0 ab.nil)<|ab.cons g (fin bc)
end
noncomputable def Row.w:Row→List Mine.V
 |.get n=>[.str yD,.str n.s]
 |.b7 n _=>[.str ei,.str n.s]
 |.mem o _=>[.str sC,.str o.s,.str iJ]
 |.c6 o s _=>[.str sD,.str o.s,.str s.s]
noncomputable def Row.v:Row→b5
 |.get _=>.un |.b7 _ v=>v |.mem _ v=>v |.c6 _ _ v=>v
noncomputable def J2:Row→Bool
 |.get _=>true |_=>false
noncomputable def aQ.row (w:aQ) (r:Row):aQ:=match r with
 |.b7 .x v=>(w.put v).d3 (.b7 .x v)
 |r=>w.d3 r
section
variable {q sk a b i:Nat}{H H' G:List aj}{w w' : aQ}{am bW:Nat→Nat}{ρ ρ' mA:Nat→cn}{o y:aj}{v:b5}{d:b0}{x u:V}{vs:List V}{fs:List (Str×V)}{s:Str}{n:b9}{r:Row}
noncomputable abbrev vm (ls:List (Str×V)):a5:=⟨tm.scope,[],none,ls⟩
noncomputable abbrev mC (q:Nat) (r:Row):List (Str×V):=[(dq,.ref (q+4)),(JU,.tup r.w),(dw,r.v.V)]
theorem J3 (x:cK q H w am ρ) (ak:w.seen.length<aL) (bR:J2 r=false):ab 5 (vm (mC q r)) (o4.1.drop 1) H .next (mC q r) (H.set q (.list (w.seen.map Row.V++[r.V]))) :=
 ab.one (ah.expr (ai.a0 (v:=.ref q) (first:=[.ref q]) (vs:=[r.V]) (ai.sub I I (iP (s:=ov) x.dict (by kernel_rfl))) (qf x.seen) (GE.cons (ai.bin (a:=.tup r.w) (b:=.tup [r.v.V]) I I (fun s _=>by cases r <;> first |rfl |cases bR)) GE.nil) ((aq.app x.seen (by rw[List.length_map];exact ak)).mono (by decide))))
theorem J4 (x:cK q H w am ρ) {w1:aQ}{H1 H2:List aj}(f0:ah 5 (vm (mC q r)) (bQ o4.1 0) H .next (mC q r) H1) (g:ab 5 (vm (mC q r)) (o4.1.drop 1) H1 .next (mC q r) H2):aq 6 (.obj (.ref 904)) [.ref (q+4),.tup r.w,r.v.V] H .none H2 :=
 aq.ft (fi:=⟨tm,[dq,JU,dw],[],o4.1,none,false⟩) (vs:=[.ref (q+4),.tup r.w,r.v.V]) (cN:=mC q r) (by kernel_rfl) rfl (by kernel_rfl) rfl (by kernel_rfl) (ab.cons f0 g)
theorem qk (x:cK q H w am ρ) (ak:w.seen.length<aL) (bR:J2 r=false):gi (fun H'=>aq 6 (.obj (.ref 904)) [.ref (q+4),.tup r.w,r.v.V] H .none H') fun H'=>cK q H' (w.row r) am ρ∧fj ρ H H':=by
 have sk:oR (ρ q)=false:=by rw[x.rs];rfl
 have c0:GT 5 (vm (mC q r)) (eH (bQ o4.1 0)) H false H→w.row r=w.d3 r→gi (fun H'=>aq 6 (.obj (.ref 904)) [.ref (q+4),.tup r.w,r.v.V] H .none H') fun H'=>cK q H' (w.row r) am ρ∧fj ρ H H':=fun t e=>by
  rw[e]
  exact ⟨_,J4 (w1:=w) x (ah.iff t ab.nil) (J3 x ak bR),x.d3,.set sk⟩
 cases r with
 |get n=>cases bR
 |mem o v=>exact c0 (by cases o <;> exact I) rfl
 |c6 o s v=>exact c0 (by cases o <;> cases s <;> exact I) rfl
 |b7 n v =>
  cases n with
  |v=>exact c0 I rfl
  |w=>exact c0 I rfl
  |x =>
   have y:=x.put (v:=v)
   have c:=x.cell _ _ (List.getElem?_eq_getElem x.cur)
   have Xo:oR (ρ (am w.cur))=false:=by rw[x.rc _ x.cur];rfl
   have f0:ah 5 (vm (mC q (.b7 .x v))) (bQ o4.1 0) H .next (mC q (.b7 .x v)) (H.set (am w.cur) (.list [v.V])) :=
    ah.cm I (ab.one (ah.assign (v:=v.V) I (bq.sub (a:=.int ((0:Nat):Int)) (ai.sub I I (iP (s:=gJ) x.dict (by kernel_rfl))) I (xD c rfl))))
   exact ⟨_,J4 (w1:=w) x f0 (J3 y ak bR),y.d3,fj.trans (.set Xo) .refl (.set sk)⟩
end
noncomputable abbrev vn:Str:=⟨⟨[71,69,84,71,76,79,66]⟩⟩
noncomputable abbrev yG:Str:=⟨⟨[71,69,84,67,69,76,76]⟩⟩
noncomputable abbrev J5:Str:=⟨⟨[83,69,84,71,76,79,66]⟩⟩
noncomputable abbrev J6:Str:=⟨⟨[83,69,84,67,69,76,76]⟩⟩
noncomputable abbrev J7:Str:=⟨⟨[70,82,69,83,72]⟩⟩
noncomputable abbrev J8:Str:=⟨⟨[67,76,79,83,85,82,69]⟩⟩
noncomputable abbrev J9:Str:=⟨⟨[67,79,78,83,84]⟩⟩
noncomputable abbrev Ka:Str:=⟨⟨[70,79,82,73,78]⟩⟩
noncomputable abbrev Kb:Str:=⟨⟨[83,87,65,80]⟩⟩
noncomputable abbrev CH:Str:=⟨⟨[82,79,84,51]⟩⟩
noncomputable abbrev CI:Str:=⟨⟨[83,69,84,80,82,79,80]⟩⟩
noncomputable abbrev CJ:Str:=⟨⟨[83,69,84,69,76,69,77]⟩⟩
noncomputable abbrev Kc:Str:=⟨⟨[80,79,80]⟩⟩
noncomputable abbrev Kd:Str:=⟨⟨[84,79,75,69,89]⟩⟩
noncomputable abbrev sI:Str:=⟨⟨[78,69,88,84,73,78]⟩⟩
noncomputable abbrev CK:Str:=⟨⟨[74,77,80]⟩⟩
noncomputable abbrev vo:Str:=⟨⟨[74,70]⟩⟩
noncomputable abbrev CL:Str:=⟨⟨[84,72,82,79,87]⟩⟩
noncomputable abbrev nA:Str:=⟨⟨[119,111,114,100]⟩⟩
noncomputable abbrev nB:Str:=⟨⟨[115,116,97,99,107]⟩⟩
noncomputable abbrev kL:Str:=⟨⟨[117,110,105,116]⟩⟩
noncomputable abbrev dd:Str:=⟨⟨[102,97,117,108,116]⟩⟩
noncomputable abbrev Ke:Str:=⟨⟨[116,111,112]⟩⟩
noncomputable abbrev oS:Str:=⟨⟨[107,101,121]⟩⟩
noncomputable abbrev yH:Str:=⟨⟨[115,112,111,116]⟩⟩
noncomputable abbrev Xp:Str:=⟨⟨[105,110,115,101,114,116]⟩⟩
noncomputable abbrev CM (ls:List (Str×V)):a5:=⟨qP.scope,[],none,ls⟩
noncomputable abbrev lr (q sk:Nat) (W:Str) (a U:V) (r:List (Str×V)):List (Str×V):=(dq,.ref (q+4))::(nA,.str W)::(jO,a)::(nB,.ref sk)::(kL,U)::r
section
variable {cC:Nat→Option aj}{q sk i r n:Nat}{H H' H1 G:List aj}{w w' : aQ}{am bW:Nat→Nat}{ρ ρ' mA:Nat→cn}{st st' : List ck}{v:b5}{d:b0}{a x y z u U f:V}{vs:List V}{W:Str}{e:List (Str×V)}{ls:List (Str×V)}{s:ck}{C K d6 j0 L:List V}
theorem cp.upd (x:cp cC q sk H st w am ρ) (y:cK q H' w' bW ρ') (k:fj ρ H H') (e:gA ρ ρ' H):cp cC q sk H' st w' bW ρ' :=
 ⟨y,k.k sk _ x.hV (by rw[x.il];rfl),(e _ _ x.hV).trans x.il,fun j a l h=>let ⟨h1,af⟩:=x.keys j a l h;⟨k.k a _ h1 (by rw[af];rfl),(e _ _ h1).trans af⟩,fun a o h=>let ⟨h1,af⟩:=x.qi a o h;⟨k.k a _ h1 (by rw[af];rfl),(e _ _ h1).trans af⟩⟩
theorem cp.set (x:cp cC q sk H st w am ρ) (h:∀(j a:Nat) (l:List b0),st'[j]?=some (.k a l)→st[j]?=some (.k a l)):cp cC q sk (H.set sk (.list (st'.map ck.V))) st' w am ρ :=
 ⟨x.wr.other (by rw[x.il];rfl),nz x.hV,x.il,fun j a l e=>let ⟨h1,af⟩:=x.keys j a l (h j a l e);⟨eK af x.il cn.noConfusion h1,af⟩,fun a o h=>let ⟨h1,af⟩:=x.qi a o h;⟨eK af x.il cn.noConfusion h1,af⟩⟩
noncomputable def kM:ck→Bool
 |.k _ _=>false |_=>true
theorem yI {ext:List ck}(j a:Nat) (l:List b0) (h:st[j]?=some (.k a l)):(st++ext)[j]?=some (.k a l):=(List.getElem?_append_left (ip h)).trans h
theorem CN:∀{ext:List ck}(_:ext.all kM=true) (j a:Nat) (l:List b0),(st++ext)[j]?=some (.k a l)→st[j]?=some (.k a l):=fun {ext} he j a l h=>by
 by_cases c:j<st.length
 ·rwa [List.getElem?_append_left c] at h
 ·rw[List.getElem?_append_right (Nat.le_of_not_lt c)] at h
  have:=List.all_eq_true.mp he _ (List.mem_of_getElem? h)
  cases this
theorem cp.push (x:cp cC q sk H st w am ρ) (ak:kM s=true):cp cC q sk (H.set sk (.list (st.map ck.V++[s.V]))) (st++[s]) w am ρ:=by
 have:=x.set (st':=st++[s]) (CN (by simp[ak]))
 rwa [List.map_append] at this
theorem cp.top (x:cp cC q sk H (st++[s]) w am ρ):H[sk]?=some (.list (st.map ck.V++[s.V])):=by have:=x.hV;rwa [List.map_append] at this
theorem cp.pop (x:cp cC q sk H (st++[s]) w am ρ):cp cC q sk (H.set sk (.list (st.map ck.V))) st w am ρ:=x.set yI
theorem aq.lu (x:cp cC q sk H (st++[s]) w am ρ):aq 1 (.obj (.builtin "list.pop")) [.ref sk] H s.V (H.set sk (.list (st.map ck.V))):=aq.pop x.top
theorem aq.pushS (x:cp cC q sk H st w am ρ) (ak:st.length<aL):aq 1 (.obj (.builtin "list.append")) [.ref sk,s.V] H .none (H.set sk (.list (st.map ck.V++[s.V]))):=aq.app x.hV (by rw[List.length_map];exact ak)
theorem mD (x:cp cC q sk H st w am ρ):ke (.ref sk) Jy ⟨H,True⟩=some (.obj (.builtin "list.append"),[.ref sk]):=qf x.hV
theorem j1 (x:cp cC q sk H st w am ρ):ke (.ref sk) JV ⟨H,True⟩=some (.obj (.builtin "list.pop"),[.ref sk]):=CG x.hV
theorem Kf {k n:Nat}(h:k+1≤n):idx (-((k+1:Nat):Int)) n=some (n - (k+1)):=by
 unfold idx
 rw[decide_eq_false (by omega),decide_eq_true (by omega)]
 show some _=_
 congr 1;omega
theorem ql (h:H[r]?=some (.list (vs++[x]))):jw (.ref r) (.int (-1)) ⟨H,True⟩=some x:=by
 refine (bj (congrArg eF h)).trans ((bj (f:=fun j=>(vs++[x])[j]?) ((Kf (k:=0) (by simp)).trans (congrArg some ?_))).trans (List.getElem?_concat_length))
 simp
theorem CO {st:ax}{k:Str}{fs Kg:List (Str×V)}(e:st.H=H) (d:H[r]?=some (.dict fs)) (hl:(look k fs).isSome=true) (h:d7 k x fs=Kg):nQ (.ref r) (.str k) x st=some ⟨H.set r (.dict Kg),st.aa⟩:=by
 subst e h
 obtain ⟨u,hl⟩:=Option.isSome_iff_exists.mp hl
 exact (bj (congrArg tG d)).trans (eh hl)
theorem jj (ak:kh ⟨qP,[dq,nA,jO,nB,kL],[],qQ.1,none,false⟩ [.ref (q+4),.str W,a,.ref sk,U]=some [.ref (q+4),.str W,a,.ref sk,U]:=by rfl)
 (g:ah 8 (CM (lr q sk W a U [(dd,.none)])) (bQ qQ.1 1) H .next (lr q sk W a U ((dd,f)::e)) H'):aq 9 (.obj (.ref 930)) [.ref (q+4),.str W,a,.ref sk,U] H f H' :=
 aq.hP (fi:=⟨qP,[dq,nA,jO,nB,kL],[],qQ.1,none,false⟩) (vs:=[.ref (q+4),.str W,a,.ref sk,U]) (cN:=lr q sk W a U []) (by kernel_rfl) ak (by kernel_rfl) rfl (by kernel_rfl) <|
  ab.cons (bJ:=lr q sk W a U [(dd,.none)]) I<|ab.cons g<|ab.ret (ah.ret I)
theorem Xq (x:cp cC q sk H (st++[s]) w am ρ):aq 9 (.obj (.ref 930)) [.ref (q+4),.str Kc,a,.ref sk,U] H .none (H.set sk (.list (st.map ck.V))) :=
 jj (e:=[]) (g:=ah.iff I<|ab.bx I<|ab.bx I<|ab.bx I<|ab.bx I<|ab.bx I<|ab.bx I<|ab.bx I<|ab.bx I<|ab.bx I<|ab.eO I <|
  ab.one (ah.expr (ai.a0 (v:=.ref sk) (first:=[.ref sk]) (vs:=[]) I (j1 x) GE.nil ((aq.lu x).mono (by decide)))))
theorem Xr:aq 9 (.obj (.ref 930)) [.ref (q+4),.str Kd,a,.ref sk,U] H .none H :=
 jj (e:=[]) (g:=ah.iff I<|ab.bx I<|ab.bx I<|ab.bx I<|ab.bx I<|ab.bx I<|ab.bx I<|ab.bx I<|ab.bx I<|ab.bx I<|ab.bx I ab.nil)
theorem Xs {k:Int}{i:Nat}(x:cp cC q sk H st w am ρ) (ak:st.length<aL) (aM:K[i]?=some (.int k)) (ar:k=7∨k=8∨k=9):aq 9 (.obj (.ref 930)) [.ref (q+4),.str J9,.int i,.ref sk,gN C K d6 j0 L] H .none (H.set sk (.list (st.map ck.V++[(ck.s (vg k)).V]))) :=
 jj (e:=[]) (g:=ah.iff I<|ab.bx I<|ab.bx I<|ab.bx I<|ab.eO I <|
  ab.one (ah.expr (ai.a0 (v:=.ref sk) (first:=[.ref sk]) (vs:=[(ck.s (vg k)).V]) I (mD x) (GE.cons (ai.bI (g:=.obj (.type "str")) (vs:=[.int k]) I (GE.cons (ai.sub (v:=.aN K) (a:=.int i) I I (rS aM)) GE.nil)
   (by rcases ar with rfl |rfl |rfl <;> exact I)) GE.nil) ((aq.pushS x ak).mono (by decide)))))
theorem Xu (x:cp cC q sk H st w am ρ) (ak:st.length<aL) (bY:w.held.length<aL):gi (fun H'=>aq 9 (.obj (.ref 930)) [.ref (q+4),.str J8,a,.ref sk,U] H .none H') fun H'=>cp cC q sk H' (st++[.s .fn]) w.hold am ρ:=by
 have y:=x.wr.hold
 have z:=x.upd y (.set (by rw[x.wr.gP];rfl)) .refl
 exact ⟨_,jj (e:=[]) (g:=ah.iff I<|ab.bx I<|ab.bx I<|ab.eO I <|
  ab.cons (ah.expr (ai.a0 (v:=.ref (q+3)) (first:=[.ref (q+3)]) (vs:=[.ref (am w.cur)]) (ai.sub I I (iP (s:=rK) x.wr.dict (by kernel_rfl))) (qf x.wr.held) (GE.cons (ai.sub I I (iP (s:=gJ) x.wr.dict (by kernel_rfl))) GE.nil) ((aq.app x.wr.held (by rw[List.length_map];exact bY)).mono (by decide)))) <|
  ab.one (ah.expr (ai.a0 (v:=.ref sk) (first:=[.ref sk]) (vs:=[(ck.s .fn).V]) I (mD z) I ((aq.pushS z ak).mono (by decide))))),z.push rfl⟩
theorem Xv (x:cp cC q sk H st w am ρ):mB (fun H' bW ρ'=>aq 9 (.obj (.ref 930)) [.ref (q+4),.str J7,a,.ref sk,U] H .none H') fun H' bW ρ'=>cp cC q sk H' st (w.fresh .un) bW ρ':=by
 have y:=x.wr.fresh (v:=.un)
 have d:(H++[aj.list [b5.un.V]])[q+4]?=some (.dict (ji q (am w.cur))):=cY x.wr.dict
 refine ⟨_,_,_,jj (e:=[]) (g:=ah.iff I<|ab.bx I<|ab.eO I <|
  ab.one (ah.assign (v:=.ref H.length) (ai.list (vs:=[b5.un.V]) I) (bq.sub (v:=.ref (q+4)) (a:=.str gJ) (H3:=(H++[aj.list [b5.un.V]]).set (q+4) (.dict (ji q H.length))) I I fun s e=>?_))),x.upd y (fj.trans .ext .refl (.set (by rw[x.wr.a8];rfl))) .up⟩
 exact CO e d (by kernel_rfl) (by kernel_rfl)
end
section
variable {d acc a k:Nat}{fr:a5}{H H1 H2 H3:List aj}{elt t it:PySem.Expr}{ifs:List PySem.Expr}{src:Src}{v x:V}{xs:List V}{ls:List (Str×V)}{dz:Pos}{i:Int}{sc:Scope}
theorem ai.lc (h:ai d fr it H v H1) (ak:srcOf v ⟨H1,True⟩=some src) (c8:pd fr sc t it i=true)
 (af:cX d ⟨relabel fr sc,pb sc fr.cs,none,[]⟩ elt t ifs src 0 H1.length (H1++[.list []]) H2):ai d fr (.ListComp elt [⟨t,it,ifs,i⟩] sc dz) H (.ref H1.length) H2:=fun aa o=>by
 obtain ⟨e5,e9,eM⟩:=h aa o
 obtain ⟨eg,dR,dC⟩:=af e5 e9
 exact ⟨eg,dR,(eM.and dC).step fun N n bc b=>IT.trans ((eC c8).trans ((bj b.1).trans ((bj (ak:srcOf v ⟨H1,e5⟩=some src)).trans (eh b.2))))⟩
theorem cX.yJ (h:itemAt src k (H1++[.list xs])=some (some v)) (bT:(isNm t&&iY src t)=true) (h1:bq d fr t v (H1++[.list xs]) ls (H1++[.list xs])) (af:ai d (fr.up ls) elt (H1++[.list xs]) x (H1++[.list xs])) (bA:xs.length<aL)
 (aB:cX d (fr.up ls) elt t [] src (k+1) H1.length (H1++[.list (xs++[x])]) H3):cX d fr elt t [] src k H1.length (H1++[.list xs]) H3 :=
 cX.step h bT h1 af fc bA (by rw[rU];exact aB)
end
section
variable {cC:Nat→Option aj}{q sk i r n:Nat}{H H' H1 G:List aj}{w w' : aQ}{am bW:Nat→Nat}{ρ ρ' mA:Nat→cn}{st st' : List ck}{v:b5}{d o p:b0}{a x y z u U f:V}{vs us:List V}{W:Str}{e:List (Str×V)}{ls:List (Str×V)}{s:ck}{C K d6 j0 L:List V}
noncomputable def gj (n:b9) (d:b0):V:=match eV n with |true=>(b5.bb d).V |false=>.none
noncomputable def fL (n:b9) (d:b0):ck:=match eV n with |true=>.n |false=>.s (.gh d)
theorem Kh {n:b9}(x:cp cC q sk H st w am ρ) (ak:st.length<aL) (h1:w.seen.length<aL) (bc:hB n=false) (aM:K[i]?=some (.str n.s)) :
 gi (fun H'=>aq 9 (.obj (.ref 930)) [.ref (q+4),.str vn,.int i,.ref sk,gN C K d6 j0 L] H (gj n (w.getD n).1) H') fun H'=>cp cC q sk H' (st++[fL n (w.getD n).1]) (w.getD n).2 am ρ:=by
 obtain ⟨H1,g,y,k⟩:=J1 x.wr h1 bc
 have z:=x.upd y k .refl
 refine ⟨_,?_,z.push (by unfold fL;cases eV n <;> rfl)⟩
 have e:sH n (w.getD n).1=.tup [(fL n (w.getD n).1).V,gj n (w.getD n).1]:=by unfold sH fL gj;cases eV n <;> rfl
 rw[e] at g
 have g1:ai 8 (CM (lr q sk vn (.int i) (gN C K d6 j0 L) [(dd,.none)])) (eH (bQ (sB (bQ qQ.1 1)) 0)) H (.tup [(fL n (w.getD n).1).V,gj n (w.getD n).1]) H1 :=
  ai.bI (g:=.obj (.ref 897)) (vs:=[.ref (q+4),.str n.s]) I (GE.cons I (GE.cons (ai.iff I (ai.sub (v:=.aN K) (a:=.int i) I I (rS aM))) GE.nil)) (g.mono (by decide))
 exact jj (e:=[(dw,(fL n (w.getD n).1).V)]) (g:=ah.cm I (ab.cons (bJ:=lr q sk vn (.int i) (gN C K d6 j0 L) [(dd,gj n (w.getD n).1),(dw,(fL n (w.getD n).1).V)]) (ah.assign g1 I) (ab.one (ah.expr (ai.a0 (v:=.ref sk) (first:=[.ref sk]) (vs:=[(fL n (w.getD n).1).V]) I (mD z) I ((aq.pushS z ak).mono (by decide)))))))
theorem Xw (x:cp cC q sk H st w am ρ) (ak:st.length<aL) (h1:w.seen.length<aL) (aV:w.cells[w.cur]?=some v) :
 gi (fun H'=>aq 9 (.obj (.ref 930)) [.ref (q+4),.str yG,a,.ref sk,U] H .none H') fun H'=>cp cC q sk H' (st++[.s v]) (w.d3 (.get .x)) am ρ:=by
 have z:=x.upd (x.wr.d3 (r:=.get .x)) (.set (by rw[x.wr.rs];rfl)) .refl
 have g1:ai 8 (CM (lr q sk yG a U [(dd,.none)])) (eH (bQ (sB (bQ qQ.1 1)) 0)) H (.tup [v.V,.none]) (H.set q (.list (w.seen.map Row.V++[(Row.get .x).V]))) :=
  ai.bI (g:=.obj (.ref 897)) (vs:=[.ref (q+4),.str dE]) I (GE.cons I (GE.cons (ai.cm I I) GE.nil)) ((J0 x.wr h1 aV).mono (by decide))
 exact ⟨_,jj (e:=[(dw,v.V)]) (g:=ah.cm I (ab.cons (bJ:=lr q sk yG a U [(dd,.none),(dw,v.V)]) (ah.assign g1 I) (ab.one (ah.expr (ai.a0 (v:=.ref sk) (first:=[.ref sk]) (vs:=[(ck.s v).V]) I (mD z) I ((aq.pushS z ak).mono (by decide))))))),z.push rfl⟩
theorem Xx {n:fT}(x:cp cC q sk H (st++[.s v]) w am ρ) (h1:w.seen.length<aL) (aM:K[i]?=some (.str n.s)) :
 gi (fun H'=>aq 9 (.obj (.ref 930)) [.ref (q+4),.str J5,.int i,.ref sk,gN C K d6 j0 L] H .none H') fun H'=>cp cC q sk H' (st++[.s v]) (w.row (.b7 n v)) am ρ:=by
 obtain ⟨H1,g,y,k⟩:=qk (r:=.b7 n v) x.wr h1 rfl
 exact ⟨_,jj (e:=[]) (g:=ah.iff I<|ab.eO I<|ab.one (ah.expr (ai.bI (g:=.obj (.ref 904)) (vs:=[.ref (q+4),.tup [.str ei,.str n.s],v.V]) I
  (GE.cons I (GE.cons (ai.tup (GE.cons I (GE.cons (ai.iff I (ai.sub (v:=.aN K) (a:=.int i) I I (rS aM))) GE.nil))) (GE.cons (ai.sub (a:=.int (-1)) I I (ql x.top)) GE.nil))) (g.mono (by decide))))),x.upd y k .refl⟩
theorem Xy (x:cp cC q sk H (st++[.s v]) w am ρ) (h1:w.seen.length<aL) :
 gi (fun H'=>aq 9 (.obj (.ref 930)) [.ref (q+4),.str J6,a,.ref sk,U] H .none H') fun H'=>cp cC q sk H' (st++[.s v]) (w.row (.b7 .x v)) am ρ:=by
 obtain ⟨H1,g,y,k⟩:=qk (r:=.b7 .x v) x.wr h1 rfl
 exact ⟨_,jj (e:=[]) (g:=ah.iff I<|ab.eO I<|ab.one (ah.expr (ai.bI (g:=.obj (.ref 904)) (vs:=[.ref (q+4),.tup [.str ei,.str dE],v.V]) I
  (GE.cons I (GE.cons (ai.tup (GE.cons I (GE.cons (ai.cm I I) GE.nil))) (GE.cons (ai.sub (a:=.int (-1)) I I (ql x.top)) GE.nil))) (g.mono (by decide))))),x.upd y k .refl⟩
theorem aq.Xz (h:H[r]?=some (.list (vs++[x,y]))):aq 1 (.obj (.builtin "list.pop")) [.ref r,.int (-2)] H x (H.set r (.list (vs++[y]))):=aq.bi fun aa=>by
 show nV _ _ _ _=_
 unfold nV
 rw[if_neg (by decide),if_pos rfl]
 refine (bj (congrArg eF h)).trans ((bj ((Kf (k:=1) (by simp)).trans (congrArg some (by simp:_=vs.length)))).trans ?_)
 simp[List.eraseIdx_append_of_length_le]
theorem aq.ins {k:Nat}(h:H[r]?=some (.list (vs++us))) (ar:k=vs.length) (ak:(vs++us).length<aL):aq 1 (.obj (.builtin "list.insert")) [.ref r,.int k,x] H .none (H.set r (.list (vs++x::us))):=aq.Ih ak fun aa=>by
 show wy _ _ _ _ _=_
 unfold wy
 rw[if_pos rfl]
 subst ar
 refine (bj (congrArg eF h)).trans ((eC (Bool.and_eq_true_iff.mpr ⟨decide_eq_true (Int.natCast_nonneg _),Nat.ble_eq_true_of_le (by simp)⟩)).trans ?_)
 simp
theorem XA {s t:ck}(h1:kM s=true) (af:kM t=true) (x:cp cC q sk H (st++[s,t]) w am ρ) (ak:st.length+1<aL):gi (fun H'=>aq 9 (.obj (.ref 930)) [.ref (q+4),.str Kb,a,.ref sk,U] H .none H') fun H'=>cp cC q sk H' (st++[t,s]) w am ρ:=by
 have e:H[sk]?=some (.list (st.map ck.V++[s.V,t.V])):=by have:=x.hV;rwa [List.map_append] at this
 have y:cp cC q sk (H.set sk (.list (st.map ck.V++[t.V]))) (st++[t]) w am ρ:=by
  have:=x.set (st':=st++[t]) fun j a l h=>yI j a l (CN (by simp[af]) j a l h)
  rwa [List.map_append] at this
 have z:=y.push h1
 have p:=(aq.pushS (s:=s) y (by simp;omega)).mono (by decide:1≤8)
 refine ⟨_,jj (e:=[]) (g:=ah.iff I<|ab.bx I<|ab.bx I<|ab.bx I<|ab.bx I<|ab.bx I<|ab.eO I <|
  ab.one (ah.expr (ai.a0 (v:=.ref sk) (first:=[.ref sk]) (vs:=[s.V]) I (mD x) (GE.cons (ai.a0 (v:=.ref sk) (first:=[.ref sk]) (vs:=[.int (-2)]) I (j1 x) I ((aq.Xz e).mono (by decide))) GE.nil) p))),?_⟩
 have:=z
 rwa [List.append_assoc] at this
end
section
variable {H:List aj}{r:Nat}{vs:List V}
theorem XB (h:H[r]?=some (.list vs)):ke (.ref r) Xp ⟨H,True⟩=some (.obj (.builtin "list.insert"),[.ref r]):=by
 exact (l7 (congrArg lR h)).trans ((bj (congrArg eF h)).trans rfl)
theorem aq.len (h:H[r]?=some (.list vs)) {k:Nat}(ar:vs.length=k:=by simp):aq 1 (.obj (.builtin "len")) [.ref r] H (.int k) H:=aq.bi fun aa=>by
 show nU _ _ _=_
 unfold nU
 rw[if_pos rfl]
 subst ar
 exact eh (congrArg eF h)
end
section
variable {cC:Nat→Option aj}{q sk i r n:Nat}{H H' H1 G:List aj}{w w' : aQ}{am bW:Nat→Nat}{ρ ρ' mA:Nat→cn}{st st' : List ck}{v:b5}{d o p:b0}{a x y z u U f:V}{vs us:List V}{W:Str}{e:List (Str×V)}{ls:List (Str×V)}{s t c:ck}{C K d6 j0 L:List V}
theorem XC (h1:kM s=true) (af:kM t=true) (aB:kM c=true) (x:cp cC q sk H (st++[s,t,c]) w am ρ) (ak:st.length+2<aL):gi (fun H'=>aq 9 (.obj (.ref 930)) [.ref (q+4),.str CH,a,.ref sk,U] H .none H') fun H'=>cp cC q sk H' (st++[c,s,t]) w am ρ:=by
 have gp:cp cC q sk H ((st++[s,t])++[c]) w am ρ:=by rw[List.append_assoc];exact x
 have y:=gp.pop
 have ao:(H.set sk (.list ((st++[s,t]).map ck.V)))[sk]?=some (.list (st.map ck.V++[s.V,t.V])):=by have:=y.hV;rwa [List.map_append] at this ⊢
 have z:=y.set (st':=st++[c,s,t]) fun j a l h=>yI j a l (CN (by simp[h1,af,aB]) j a l h)
 have ins:=aq.ins (x:=c.V) (k:=st.length) ao (by simp) (by simp;omega)
 have hl:(st++[c,s,t]).map ck.V=st.map ck.V++c.V::[s.V,t.V]:=by simp
 rw[hl] at z
 refine ⟨_,jj (e:=[(Ke,c.V)]) (g:=ah.iff I<|ab.bx I<|ab.bx I<|ab.bx I<|ab.bx I<|ab.bx I<|ab.bx I<|ab.eO I <|
  ab.cons (bJ:=lr q sk CH a U [(dd,.none),(Ke,c.V)]) (ah.assign (ai.a0 (v:=.ref sk) (first:=[.ref sk]) (vs:=[]) I (j1 x) GE.nil ((aq.lu gp).mono (by decide))) (bq.name (by kernel_rfl))) <|
  ab.one (ah.expr (ai.a0 (v:=.ref sk) (first:=[.ref sk]) (vs:=[.int st.length,c.V]) I (XB ao) (GE.cons (ai.bin (a:=.int ((st.length+2:Nat):Int)) (b:=.int 2) (ai.bI (g:=.obj (.builtin "len")) (vs:=[.ref sk]) I I ((aq.len ao).mono (by decide))) I (fun s _=>?_)) (GE.cons I GE.nil)) (ins.mono (by decide))))),z⟩
 show some (V.int _,s)=_
 congr 3;omega
theorem XD (x:cp cC q sk H (st++[.s (.gh o),.s v]) w am ρ) (ak:st.length<aL) (h1:w.seen.length<aL) (aM:K[i]?=some (.str iJ)) :
 gi (fun H'=>aq 9 (.obj (.ref 930)) [.ref (q+4),.str CI,.int i,.ref sk,gN C K d6 j0 L] H .none H') fun H'=>cp cC q sk H' (st++[.s v]) (w.row (.mem o v)) am ρ:=by
 have df:cp cC q sk H ((st++[.s (.gh o)])++[.s v]) w am ρ:=by rw[List.append_assoc];exact x
 have eG:=df.pop
 have l0:=eG.pop
 obtain ⟨H1,g,y,k⟩:=qk (r:=.mem o v) l0.wr h1 rfl
 have l3:=l0.upd y k .refl
 exact ⟨_,jj (e:=[(oS,v.V),(lb,cg o)]) (g:=ah.iff I<|ab.bx I<|ab.bx I<|ab.bx I<|ab.bx I<|ab.bx I<|ab.bx I<|ab.bx I<|ab.eO I <|
  ab.cons (bJ:=lr q sk CI (.int i) (gN C K d6 j0 L) [(dd,.none),(oS,v.V),(lb,cg o)]) (ah.me (us:=[v.V,cg o]) (xs:=[oS,lb]) (ai.tup (GE.cons (ai.a0 (v:=.ref sk) (first:=[.ref sk]) (vs:=[]) I (j1 df) GE.nil ((aq.lu df).mono (by decide))) (GE.cons (ai.a0 (v:=.ref sk) (first:=[.ref sk]) (vs:=[]) I (j1 eG) GE.nil ((aq.lu eG).mono (by decide))) GE.nil))) (by kernel_rfl) (by kernel_rfl) (by kernel_rfl)) <|
  ab.cons (ah.expr (ai.bI (g:=.obj (.ref 904)) (vs:=[.ref (q+4),.tup [.str sC,cg o,.str iJ],v.V]) I (GE.cons I (GE.cons (ai.tup (GE.cons I (GE.cons I (GE.cons (ai.sub (v:=.aN K) (a:=.int i) I I (rS aM)) GE.nil)))) I)) (g.mono (by decide)))) <|
  ab.one (ah.expr (ai.a0 (v:=.ref sk) (first:=[.ref sk]) (vs:=[(ck.s v).V]) I (mD l3) I ((aq.pushS l3 ak).mono (by decide))))),l3.push rfl⟩
theorem XE (x:cp cC q sk H (st++[.s (.gh o),.s (.gh p),.s v]) w am ρ) (ak:st.length<aL) (h1:w.seen.length<aL) :
 gi (fun H'=>aq 9 (.obj (.ref 930)) [.ref (q+4),.str CJ,a,.ref sk,U] H .none H') fun H'=>cp cC q sk H' (st++[.s v]) (w.row (.c6 o p v)) am ρ:=by
 have df:cp cC q sk H ((st++[.s (.gh o),.s (.gh p)])++[.s v]) w am ρ:=by rw[List.append_assoc];exact x
 have eG:=df.pop
 have CP:cp cC q sk (H.set sk (.list ((st++[ck.s (.gh o),.s (.gh p)]).map ck.V))) ((st++[.s (.gh o)])++[.s (.gh p)]) w am ρ:=by rw[List.append_assoc];exact eG
 have l0:=CP.pop
 have l3:=l0.pop
 obtain ⟨H1,g,y,k⟩:=qk (r:=.c6 o p v) l3.wr h1 rfl
 have pv:=l3.upd y k .refl
 exact ⟨_,jj (e:=[(oS,v.V),(yH,cg p),(lb,cg o)]) (g:=ah.iff I<|ab.bx I<|ab.bx I<|ab.bx I<|ab.bx I<|ab.bx I<|ab.bx I<|ab.bx I<|ab.bx I<|ab.eO I <|
  ab.cons (bJ:=lr q sk CJ a U [(dd,.none),(oS,v.V),(yH,cg p),(lb,cg o)]) (ah.me (us:=[v.V,cg p,cg o]) (xs:=[oS,yH,lb]) (ai.tup (GE.cons (ai.a0 (v:=.ref sk) (first:=[.ref sk]) (vs:=[]) I (j1 df) GE.nil ((aq.lu df).mono (by decide))) (GE.cons (ai.a0 (v:=.ref sk) (first:=[.ref sk]) (vs:=[]) I (j1 CP) GE.nil ((aq.lu CP).mono (by decide))) (GE.cons (ai.a0 (v:=.ref sk) (first:=[.ref sk]) (vs:=[]) I (j1 l0) GE.nil ((aq.lu l0).mono (by decide))) GE.nil)))) (by kernel_rfl) (by kernel_rfl) (by kernel_rfl)) <|
  ab.cons (ah.expr (ai.bI (g:=.obj (.ref 904)) (vs:=[.ref (q+4),.tup [.str sD,cg o,cg p],v.V]) I I (g.mono (by decide)))) <|
  ab.one (ah.expr (ai.a0 (v:=.ref sk) (first:=[.ref sk]) (vs:=[(ck.s v).V]) I (mD pv) I ((aq.pushS pv ak).mono (by decide))))),pv.push rfl⟩
end
noncomputable def b0.n:b0→Nat
 |.z=>0 |.o=>1 |.t=>2
section
variable {cC:Nat→Option aj}{q sk i r n:Nat}{H H' H1 G:List aj}{w w' : aQ}{am bW:Nat→Nat}{ρ ρ' mA:Nat→cn}{st st' : List ck}{v:b5}{d o p:b0}{a x y z u U f:V}{vs us:List V}{W:Str}{e:List (Str×V)}{ls:List (Str×V)}{s t c:ck}{C K d6 j0 L:List V}{l:List b0}
theorem cp.XF (x:cp cC q sk H st w am ρ):cp cC q sk ((H++[aj.list (l.map sG)]).set sk (.list (st.map ck.V++[.ref H.length]))) (st++[.k H.length l]) w am (jZ ρ H.length (.y st.length)):=by
 have il:jZ ρ H.length (.y st.length) sk=.k:=(gA.up _ _ x.hV).trans x.il
 refine ⟨((x.wr.role gA.up).ext).other (by rw[il];rfl),(nz (cY x.hV)).trans (by rw[List.map_append];rfl),il,fun j a m h=>?_,fun a o h=>let ⟨h1,af⟩:=x.qi a o h;⟨eK ((gA.up (u:=.y st.length) a _ h1).trans af) il cn.noConfusion (cY h1),(gA.up (u:=.y st.length) a _ h1).trans af⟩⟩
 by_cases c:j<st.length
 ·rw[List.getElem?_append_left c] at h
  obtain ⟨h1,af⟩:=x.keys j a m h
  have aB:=(gA.up (u:=.y st.length) a _ h1).trans af
  exact ⟨eK aB il cn.noConfusion (cY h1),aB⟩
 ·have lt:=ip h
  rw[List.length_append] at lt
  have dY:j=st.length:=by simp at lt;omega
  subst dY
  rw[List.getElem?_append_right (Nat.le_refl _),Nat.sub_self] at h
  cases h
  exact ⟨eK (ρ:=jZ ρ H.length (.y st.length)) qj il cn.noConfusion fc,qj⟩
theorem Ki:aq 1 (.obj (.type "int")) [cg d] H (.int d.n) H:=by cases d <;> exact I
theorem Kj:aq 1 (.obj (.type "range")) [.int d.n] H (.cx 0 d.n) H:=by cases d <;> exact I
theorem Kk:srcOf (.cx 0 d.n) ⟨H,True⟩=some (.cx 0 d.n):=by cases d <;> rfl
theorem XG (x:cp cC q sk H (st++[.s (.gh d)]) w am ρ) (ak:st.length<aL):mB (fun H' a ρ'=>aq 9 (.obj (.ref 930)) [.ref (q+4),.str Ka,z,.ref sk,U] H .none H') fun H' a ρ'=>cp cC q sk H' (st++[.k a (keysOf d)]) w am ρ':=by
 have y:=x.pop
 have app:=aq.app (x:=.ref (H.set sk (.list (st.map ck.V))).length) (cY (H':=[aj.list ((keysOf d).map sG)]) y.hV) (by rw[List.length_map];exact ak)
 refine ⟨_,_,_,jj (e:=[]) (g:=ah.iff I<|ab.bx I<|ab.bx I<|ab.bx I<|ab.bx I<|ab.eO I <|
  ab.one (ah.expr (ai.a0 (v:=.ref sk) (first:=[.ref sk]) (vs:=[.ref (H.set sk (.list (st.map ck.V))).length]) I (mD x)
   (GE.cons (ai.lc (H1:=H.set sk (.list (st.map ck.V))) (v:=.cx 0 d.n) (src:=.cx 0 d.n) (ai.bI (g:=.obj (.type "range")) (vs:=[.int d.n]) I (GE.cons (ai.bI (g:=.obj (.type "int")) (vs:=[cg d]) I (GE.cons (ai.a0 (v:=.ref sk) (first:=[.ref sk]) (vs:=[]) I (j1 x) GE.nil ((aq.lu x).mono (by decide))) GE.nil) (Ki.mono (by decide))) GE.nil) (Kj.mono (by decide))) Kk (by kernel_rfl) ?_) GE.nil)
   (app.mono (by decide))))),y.XF⟩
 cases d with
 |z=>exact cX.done rfl (by kernel_rfl)
 |o=>exact cX.yJ (v:=.int 0) rfl (by kernel_rfl) (bq.name (by kernel_rfl)) I (by unfold aL;decide) (cX.done rfl (by kernel_rfl))
 |t=>exact cX.yJ (v:=.int 0) rfl (by kernel_rfl) (bq.name (by kernel_rfl)) I (by unfold aL;decide) (cX.yJ (v:=.int 1) rfl (by kernel_rfl) (bq.name (by kernel_rfl)) I (by unfold aL;decide) (cX.done rfl (by kernel_rfl)))
end
noncomputable abbrev XH:Str:=⟨⟨[103,111,97,108]⟩⟩
section
variable {d:Nat}{fr:a5}{H H1 H2 H3 Ca:List aj}{e l r ea:PySem.Expr}{body:List Stmt}{bJ jJ:List (Str×V)}{f:cD}{a b c u:V}{op km:CmpOp}{p:Pos}{q:Bool}
theorem ia.done (h:GT d fr e H false H1):ia d fr e body H .next fr.ls H1:=h.step fun N n s s1 _ aS _ _=>bj aS
theorem ia.step (h:GT d fr e H true H1) (af:ab d fr body H1 .next bJ H2) (aB:ia d (fr.up bJ) e body H2 f jJ H3):ia d fr e body H f jJ H3 :=
 h.uz af aB fun N n s s1 s2 s3 _ aS bf dT _ _ _ _=>(bj aS).trans ((bj bf).trans dT)
theorem ia.out (h:GT d fr e H true H1) (af:ab d fr body H1 (.ret u) bJ H2):ia d fr e body H (.ret u) bJ H2 :=
 h.then af fun N n s s1 s2 _ aS bf _ _ _=>(bj aS).trans (bj bf)
theorem Kl {R:dO}{n:Nat}{st:ax}:q6 R n fr (.Compare l [op,km] [r,ea] p) st=EU R n fr l (op,km) (r,ea) st:=rfl
theorem GT.XI (h:ai d fr l H a H1) (af:ai d fr r H1 b H2) (aw:dX op a b ⟨H2,True⟩=some (false,⟨H2,True⟩)) (ak:gq ea=false:=by kernel_rfl):GT d fr (.Compare l [op,km] [r,ea] p) H false H2 :=
 h.then af fun N n s s1 s2 _ aS bf _ _ aC=>(Kl (p:=p)).trans ((e6 ak).trans ((bj aS).trans ((bj bf).trans (bj (uA aC aw)))))
theorem GT.XJ (h:ai d fr l H a H1) (af:ai d fr r H1 b H2) (aw:dX op a b ⟨H2,True⟩=some (true,⟨H2,True⟩)) (aB:ai d fr ea H2 c H3) (CQ:dX km b c ⟨H3,True⟩=some (q,⟨H3,True⟩)) (ak:gq ea=false:=by kernel_rfl):GT d fr (.Compare l [op,km] [r,ea] p) H q H3 :=
 h.uz af aB fun N n s s1 s2 s3 _ aS bf dT _ _ aC cL=>(Kl (p:=p)).trans ((e6 ak).trans ((bj aS).trans ((bj bf).trans ((bj (uA aC aw)).trans ((bj dT).trans (uA cL CQ))))))
end
noncomputable def fk:List cS→Nat→Option (Nat×Int)
 |[],_=>none
 |h::r,p=>match decide (h.i≤p)&&decide (p<h.j) with
  |true=>some (h.g,h.d)
  |false=>fk r p
noncomputable abbrev vp (ls:List (Str×V)):a5:=⟨qR.scope,[],none,ls⟩
noncomputable abbrev lx (U:V) (p sk:Nat) (f:V) (r:List (Str×V)):List (Str×V):=(kL,U)::(fb,.int p)::(nB,.ref sk)::(dd,f)::r
noncomputable abbrev oT (h:cS):List (Str×V):=[(iL,.int h.i),(pP,.int h.j),(XH,.int h.g),(jM,.int h.d),(JG,.bool false)]
section
variable {cC:Nat→Option aj}{q sk p n:Nat}{H H' H1 G:List aj}{w w' : aQ}{am bW:Nat→Nat}{ρ ρ' mA:Nat→cn}{st st' : List ck}{v:b5}{U f:V}{ls:List (Str×V)}{C K d6 j0 L:List V}{h:cS}{hl:List cS}
theorem Km {a b:Nat}{q:Bool}(e:decide (a≤b)=q):dX .LtE (.int (a:Nat)) (.int (b:Nat)) ⟨H,True⟩=some (q,⟨H,True⟩):=by
 subst e;show some (decide ((a:Int)≤b),_)=_;simp only[Int.ofNat_le]
theorem XK {a b:Nat}{q:Bool}(e:decide (a<b)=q):dX .Lt (.int (a:Nat)) (.int (b:Nat)) ⟨H,True⟩=some (q,⟨H,True⟩):=by
 subst e;show some (decide ((a:Int)<b),_)=_;simp only[Int.ofNat_lt]
theorem Kn {a b:Nat}{q:Bool}(e:decide (b<a)=q):dX .Gt (.int (a:Nat)) (.int (b:Nat)) ⟨H,True⟩=some (q,⟨H,True⟩):=by
 subst e;show some (decide ((b:Int)<a),_)=_;simp only[Int.ofNat_lt]
noncomputable def CR (U:V) (p sk:Nat) (f:V) (ls:List (Str×V)):Prop:=ls=lx U p sk f []∨∃ h,ls=lx U p sk f (oT h)
theorem Ko (hl:CR U p sk f ls):bq 6 (vp ls) (ha lJ.1) h.V H (lx U p sk f (oT h)) H:=by
 rcases hl with rfl |⟨h,rfl⟩
 ·exact I
 ·exact I
theorem XM:GT 6 (vp (lx U p sk f (oT h))) (eH (bQ (d1 lJ.1) 0)) H (decide (h.i≤p)&&decide (p<h.j)) H:=by
 cases c:decide (h.i≤p) with
 |false=>exact GT.XI I I (Km c)
 |true=>exact GT.XJ I I (Km c) I (XK rfl)
noncomputable def CS (l:List Stmt):Stmt:=bQ (sB (bQ l 0)) 0
theorem XN (base:List ck) (hd:h.d=(base.length:Nat)):∀(ext:List ck) (H:List aj),cp cC q sk H (base++ext) w am ρ →
 gi (fun H'=>ah 6 (vp (lx U p sk f (oT h))) (CS (d1 lJ.1)) H .next (lx U p sk f (oT h)) H') fun H'=>cp cC q sk H' base w am ρ:=by
 have key:∀(k:Nat) (ext:List ck) (H:List aj),ext.length=k→cp cC q sk H (base++ext) w am ρ→gi (fun H'=>ia 6 (vp (lx U p sk f (oT h))) (eH (CS (d1 lJ.1))) (sB (CS (d1 lJ.1))) H .next (lx U p sk f (oT h)) H') fun H'=>cp cC q sk H' base w am ρ:=by
  intro k
  induction k with
  |zero =>
   intro ext H he x
   cases List.length_eq_zero_iff.mp he
   rw[List.append_nil] at x
   refine ⟨H,ia.done (GT.cmp (a:=.int (base.length:Nat)) (b:=.int h.d) (ai.bI (g:=.obj (.builtin "len")) (vs:=[.ref sk]) I I ((aq.len x.hV).mono (by decide))) I ?_),x⟩
   rw[hd];exact Kn (decide_eq_false (Nat.lt_irrefl _))
  |succ k aI =>
   intro ext H he x
   rcases List.eq_nil_or_concat ext with rfl |⟨ext',s,rfl⟩
   ·cases he
   rw[List.concat_eq_append] at x he
   have gp:cp cC q sk H ((base++ext')++[s]) w am ρ:=by rw[List.append_assoc];exact x
   obtain ⟨H',g,y⟩:=aI ext' _ (by simpa using he) gp.pop
   refine ⟨H',ia.step (GT.cmp (a:=.int ((base.length+(ext'.length+1):Nat):Int)) (b:=.int h.d) (ai.bI (g:=.obj (.builtin "len")) (vs:=[.ref sk]) I I ((aq.len gp.hV).mono (by decide))) I ?_)
    (ab.one (ah.expr (ai.a0 (v:=.ref sk) (first:=[.ref sk]) (vs:=[]) I (j1 gp) GE.nil ((aq.lu gp).mono (by decide))))) g,y⟩
   rw[hd];exact Kn (decide_eq_true (by omega))
 exact fun ext H x=>let ⟨H',g,y⟩:=key _ ext H rfl x;⟨H',ah.while g,y⟩
theorem CT (x:cp cC q sk H st w am ρ) (ak:st.length<aL):∀(r pre:List cS) (ls),hl=pre++r→CR (gN C K d6 (hl.map cS.V) L) p sk v.V ls→(∀ g d,fk r p=some (g,d)→∃ n:Nat,d=n∧n≤st.length) →
 ∃ bM H' z,(z=.next∧fk r p=none∧H'=H∧CR (gN C K d6 (hl.map cS.V) L) p sk v.V bM∨∃ g n:Nat,fk r p=some (g,(n:Int))∧z=.ret (.int g)∧cp cC q sk H' (st.take n++[.s v]) w am ρ) ∧
  cV 6 (vp ls) (ha lJ.1) (.aN (hl.map cS.V)) pre.length (d1 lJ.1) H z bM H'
 |[],pre,ls,e,k0,_=>⟨ls,H,.next,.inl ⟨rfl,rfl,rfl,k0⟩,cV.done (by
  show some ((hl.map cS.V)[pre.length]?)=_
  rw[List.getElem?_map,vd e];rfl) (by kernel_rfl)⟩
 |h::r,pre,ls,e,k0,bc=>by
  have it:itemAt (.aN (hl.map cS.V)) pre.length H=some (some h.V):=by
   show some ((hl.map cS.V)[pre.length]?)=_
   rw[List.getElem?_map,vc e];rfl
  have t:=XM (U:=gN C K d6 (hl.map cS.V) L) (p:=p) (sk:=sk) (f:=v.V) (h:=h) (H:=H)
  cases c:decide (h.i≤p)&&decide (p<h.j) with
  |false =>
   rw[c] at t
   have nC:fk (h::r) p=fk r p:=by show (match decide (h.i≤p)&&decide (p<h.j) with |true=>some (h.g,h.d) |false=>fk r p)=_;rw[c]
   obtain ⟨bM,H',z,o,g⟩:=CT x ak r (pre++[h]) (lx (gN C K d6 (hl.map cS.V) L) p sk v.V (oT h)) (by rw[e];simp) (.inr ⟨h,rfl⟩) (fun g d q=>bc g d (nC.trans q))
   rw[List.length_append] at g
   exact ⟨bM,H',z,by rw[nC];exact o,cV.step it (by kernel_rfl) (Ko k0) (ab.bx t ab.nil) g⟩
  |true =>
   rw[c] at t
   have nC:fk (h::r) p=some (h.g,h.d):=by show (match decide (h.i≤p)&&decide (p<h.j) with |true=>some (h.g,h.d) |false=>fk r p)=_;rw[c]
   obtain ⟨n,lY,px⟩:=bc _ _ nC
   have gp:cp cC q sk H (st.take n++st.drop n) w am ρ:=by rw[List.take_append_drop];exact x
   obtain ⟨H1,g,y⟩:=XN (U:=gN C K d6 (hl.map cS.V) L) (f:=v.V) (p:=p) (h:=h) (st.take n) (by rw[lY,List.length_take,Nat.min_eq_left px]) _ H gp
   refine ⟨_,_,.ret (.int h.g),.inr ⟨h.g,n,by rw[nC,lY],rfl,y.push rfl⟩,cV.out it (by kernel_rfl) (Ko k0) (ab.stop (ah.cm t (ab.cons g (ab.cons (ah.expr (ai.a0 (v:=.ref sk) (first:=[.ref sk]) (vs:=[(ck.s v).V]) I (mD y) I ((aq.pushS y ?_).mono (by decide)))) (ab.ret (ah.ret I))))) (by intro z;cases z))⟩
   rw[List.length_take];exact Nat.lt_of_le_of_lt (Nat.min_le_right _ _) ak
theorem XO (x:cp cC q sk H st w am ρ) (ak:st.length<aL) (e:fk hl p=none):aq 7 (.obj (.ref 937)) [gN C K d6 (hl.map cS.V) L,.int p,.ref sk,v.V] H (.int (-1)) H:=by
 obtain ⟨bM,H',z,o,g⟩:=CT (C:=C) (K:=K) (d6:=d6) (L:=L) (v:=v) x ak hl [] _ rfl (.inl rfl) (fun g d h=>by rw[e] at h;cases h)
 rcases o with ⟨rfl,_,rfl,is⟩ |⟨g,n,h,_⟩
 ·exact aq.hP (fi:=⟨qR,[kL,fb,nB,dd],[],lJ.1,none,false⟩) (vs:=[gN C K d6 (hl.map cS.V) L,.int p,.ref sk,v.V]) (cN:=lx (gN C K d6 (hl.map cS.V) L) p sk v.V []) (by kernel_rfl) rfl (by kernel_rfl) rfl (by kernel_rfl) <|
   ab.cons (ah.for (v:=.aN (hl.map cS.V)) I rfl g) (ab.ret (ah.ret I))
 ·rw[e] at h;cases h
theorem XQ {g:Nat}(x:cp cC q sk H st w am ρ) (ak:st.length<aL) (e:fk hl p=some (g,(n:Int))) (bc:n≤st.length) :
 gi (fun H'=>aq 7 (.obj (.ref 937)) [gN C K d6 (hl.map cS.V) L,.int p,.ref sk,v.V] H (.int g) H') fun H'=>cp cC q sk H' (st.take n++[.s v]) w am ρ:=by
 obtain ⟨bM,H',z,o,k⟩:=CT (C:=C) (K:=K) (d6:=d6) (L:=L) (v:=v) x ak hl [] _ rfl (.inl rfl) (fun rD d h=>by rw[e] at h;cases h;exact ⟨n,rfl,bc⟩)
 rcases o with ⟨_,h,_⟩ |⟨rD,wV,h,rfl,y⟩
 ·rw[e] at h;cases h
 ·rw[e] at h
  obtain ⟨rfl,px⟩:=Prod.mk.inj (Option.some.inj h)
  cases Int.ofNat.inj px
  exact ⟨H',aq.hP (fi:=⟨qR,[kL,fb,nB,dd],[],lJ.1,none,false⟩) (vs:=[gN C K d6 (hl.map cS.V) L,.int p,.ref sk,v.V]) (cN:=lx (gN C K d6 (hl.map cS.V) L) p sk v.V []) (by kernel_rfl) rfl (by kernel_rfl) rfl (by kernel_rfl) <|
   ab.stop (ah.for (v:=.aN (hl.map cS.V)) I rfl k) (by intro z;cases z),y⟩
end
structure gQ where
 B:Nat→Option aj
 q:Nat
 s:Nat
 C:List V
 K:List V
 d6:List V
 L:List V
 hl:List cS
noncomputable abbrev gQ.U (X:gQ):V:=gN X.C X.K X.d6 (X.hl.map cS.V) X.L
noncomputable abbrev gQ.R (X:gQ) (H:List aj) (st:List ck) (w:aQ) (am:Nat→Nat) (ρ:Nat→cn):Prop:=cp X.B X.q X.s H st w am ρ
noncomputable abbrev iQ (ls:List (Str×V)):a5:=⟨tq.scope,[],none,ls⟩
noncomputable abbrev ed (X:gQ) (p:Nat) (r:List (Str×V)):List (Str×V):=(dq,.ref (X.q+4))::(kL,X.U)::(nB,.ref X.s)::(qe,.int p)::r
noncomputable abbrev fa (k p:Nat) (f:V) (W:Str) (a:V):List (Str×V):=[(jT,.int k),(fb,.int p),(dd,f),(nA,.str W),(jO,a)]
noncomputable def Kp (X:gQ) (p:Nat) (ls:List (Str×V)):Prop:=ls=ed X p []∨∃ k p' f W a,ls=ed X p (fa k p' f W a)
noncomputable abbrev jk:List Stmt:=d1 (qS.1.drop 1)
noncomputable abbrev yK:Stmt:=bQ jk 4
structure gk (k:Nat) (st:List ck) (w:aQ):Prop where
 le:k≤3000
 t:st.length≤k
 s:w.seen.length≤k
 h:w.held.length≤k
section
variable {X:gQ}{H H' H1:List aj}{w w' : aQ}{am bW:Nat→Nat}{ρ ρ' : Nat→cn}{st st' ex:List ck}{v:b5}{a f z:V}{W:Str}{ls bM:List (Str×V)}{op:Int}{k p p' n:Nat}{out:V}{wf:aQ}{aN:cD}{d:b0}{l:List b0}{q:Bool}
theorem cp.ext {G:List aj}{B:Nat→Option aj}{q sk:Nat}(x:cp B q sk H st w am ρ):cp B q sk (H++G) st w am ρ :=
 ⟨x.wr.ext,cY x.hV,x.il,fun j a l h=>let ⟨h1,af⟩:=x.keys j a l h;⟨cY h1,af⟩,fun a o h=>let ⟨h1,af⟩:=x.qi a o h;⟨cY h1,af⟩⟩
theorem cp.XR {B:Nat→Option aj}{q sk a:Nat}(x:cp B q sk H (st++[.k a (d::l)]) w am ρ):cp B q sk (H.set a (.list (l.map sG))) (st++[.k a l]) w am ρ:=by
 obtain ⟨ao,aC⟩:=x.keys st.length a (d::l) (by simp)
 refine ⟨x.wr.other (by rw[aC];rfl),?_,x.il,fun j b m h=>?_,fun b o h=>let ⟨h1,af⟩:=x.qi b o h;⟨eK af aC cn.noConfusion h1,af⟩⟩
 ·have:=x.hV
  rw[List.map_append] at this ⊢
  exact eK x.il aC cn.noConfusion this
 ·by_cases c:j<st.length
  ·rw[List.getElem?_append_left c] at h
   obtain ⟨h1,af⟩:=x.keys j b m (yI j b m h)
   exact ⟨eK af aC (fun q=>Nat.ne_of_lt c (cn.y.inj q)) h1,af⟩
  ·have lt:=ip h
   rw[List.length_append] at lt
   have dY:j=st.length:=by simp at lt;omega
   subst dY
   rw[List.getElem?_append_right (Nat.le_refl _),Nat.sub_self] at h
   cases h
   exact ⟨nz ao,aC⟩
theorem Kq {a b:Nat}{q:Bool}(e:decide (a=b)=q):dX .Eq (.int (a:Nat)) (.int (b:Nat)) ⟨H,True⟩=some (q,⟨H,True⟩):=by
 subst e;show some (decide ((a:Int)=b),_)=_;simp only[Int.ofNat_inj]
theorem yL (hf:X.C[p]?=some (eN op a)) (bc:∀ H,aq 2 (.obj (.ref 156)) [.int op] H (.str W) H) {r:List (Str×V)}(bR:r=[]∨∃ p' f mE a',r=[(fb,.int (p' : Nat)),(dd,f),(nA,.str mE),(jO,a')])
 (g:ab 12 (iQ (ed X (p+1) (fa k p .none W a))) (jk.drop 4) H aN bM H'):ab 12 (iQ (ed X p ((jT,.int k)::r))) jk H aN bM H':=by
 have lt:decide (p=X.C.length)=false:=decide_eq_false (Nat.ne_of_lt (ip hf))
 have dn:(jk.take 1++jk.drop 1)=jk:=List.take_append_drop 1 jk
 have g3:ab 12 (iQ (ed X p (fa k p .none W a))) (jk.drop 3) H aN bM H':=ab.cons (bJ:=ed X (p+1) (fa k p .none W a)) (ah.assign (v:=.int (p+1:Nat)) (ai.bin (a:=.int p) (b:=.int 1) I I (fun _ _=>rfl)) (bq.name (by kernel_rfl))) g
 have s2:∀{r:List (Str×V)},(r=[]∨∃ mE a',r=[(nA,.str mE),(jO,a')])→ab 12 (iQ (ed X p ((jT,.int k)::(fb,.int p)::(dd,.none)::r))) (jk.drop 2) H aN bM H':=fun {r} bR=>by
  have bf:ah 12 (iQ (ed X p ((jT,.int k)::(fb,.int p)::(dd,.none)::r))) (bQ jk 2) H .next (h3 [nA,jO] [.str W,a] (ed X p ((jT,.int k)::(fb,.int p)::(dd,.none)::r))) H :=
   ah.me (us:=[.str W,a]) (ai.tup (GE.cons (ai.bI (g:=.obj (.ref 156)) (vs:=[.int op]) I (GE.cons (ai.sub (a:=.int 0) (ai.sub (v:=.aN X.C) (a:=.int p) I I (rS hf)) I rfl) GE.nil) ((bc H).mono (by decide))) (GE.cons (ai.sub (a:=.int 1) (ai.sub (v:=.aN X.C) (a:=.int p) I I (rS hf)) I rfl) GE.nil))) (by kernel_rfl) (by kernel_rfl) (by kernel_rfl)
  rcases bR with rfl |⟨mE,a',rfl⟩
  ·exact ab.cons (bJ:=ed X p (fa k p .none W a)) bf g3
  ·exact ab.cons (bJ:=ed X p (fa k p .none W a)) bf g3
 have s0:∀{r:List (Str×V)},ah 12 (iQ (ed X p ((jT,.int k)::r))) (bQ jk 0) H .next (ed X p ((jT,.int k)::r)) H:=fun {r} =>
  ah.iff (GT.cmp (a:=.int p) (b:=.int X.C.length) I I (Kq lt)) ab.nil
 rcases bR with rfl |⟨p',f,mE,a',rfl⟩
 ·exact ab.cons s0 (ab.cons (bJ:=ed X p ((jT,.int k)::(fb,.int p)::(dd,.none)::[])) I (s2 (.inl rfl)))
 ·exact ab.cons s0 (ab.cons (bJ:=ed X p ((jT,.int k)::(fb,.int p)::(dd,.none)::[(nA,.str mE),(jO,a')])) I (s2 (.inr ⟨_,_,rfl⟩)))
theorem yM (h:Kp X p ls):∃ r,(r=[]∨∃ (p' : Nat) (f:V) (mE:Str) (a' : V),r=[(fb,.int p'),(dd,f),(nA,.str mE),(jO,a')])∧bq 12 (iQ ls) (ha (qS.1.drop 1)) (.int k) H (ed X p ((jT,.int k)::r)) H:=by
 rcases h with rfl |⟨k',p',f,mE,a',rfl⟩
 ·exact ⟨[],.inl rfl,I⟩
 ·exact ⟨_,.inr ⟨p',f,mE,a',rfl⟩,I⟩
end
noncomputable def Run (X:gQ) (out:V) (wf:aQ) (k p:Nat) (st:List ck) (w:aQ):Prop:=∀ H am ρ ls,X.R H st w am ρ→Kp X p ls→gk k st w →
 Xk (fun bM H' bW ρ'=>cV 12 (iQ ls) (ha (qS.1.drop 1)) (.cx 0 3000) k jk H (.ret out) bM H') fun bM H' bW ρ'=>cK X.q H' wf bW ρ'∧∀ a o,X.B a=some o→H'[a]?=some o∧ρ' a=.o
noncomputable def ly (X:gQ) (out:V) (wf:aQ) (k p:Nat) (st:List ck) (v:b5) (w:aQ):Prop:=match fk X.hl p with
 |none=>out=.tup [v.V,.int 0]∧wf=w
 |some (g,d)=>∃ n:Nat,d=n∧n≤st.length∧Run X out wf k g (st.take n++[.s v]) w
section
variable {X:gQ}{H H' H1:List aj}{w w' : aQ}{am bW:Nat→Nat}{ρ ρ' : Nat→cn}{st st' jK ex:List ck}{v:b5}{a f z:V}{W:Str}{ls bM:List (Str×V)}{op:Int}{k p p' n:Nat}{out:V}{wf:aQ}{aN:cD}{d:b0}{l:List b0}{q:Bool}
theorem vq (h:k<3000):itemAt (.cx 0 3000) k H=some (some (.int k)):=by
 have:(k:Int)<3000:=by omega
 unfold itemAt;simp only[Int.zero_add,decide_eq_true this]
theorem sJ (ar:k<3000) (hf:X.C[p]?=some (eN op a)) (bc:∀ H,aq 2 (.obj (.ref 156)) [.int op] H (.str W) H) (bZ:gk k st w→gk (k+1) st' w')
 (g:∀ H am ρ,X.R H st w am ρ→gk k st w→mB (fun H' bW ρ'=>ah 12 (iQ (ed X (p+1) (fa k p .none W a))) yK H .next (ed X p' (fa k p .none W a)) H') fun H' bW ρ'=>X.R H' st' w' bW ρ')
 (r:Run X out wf (k+1) p' st' w'):Run X out wf k p st w:=fun H am ρ ls x is aP=>by
 obtain ⟨ea,lq,t⟩:=yM (X:=X) (H:=H) (k:=k) is
 obtain ⟨H1,ew,eW,c,y⟩:=g H am ρ x aP
 obtain ⟨bM,H',bW,ρ',gl,wr,b⟩:=r H1 ew eW (ed X p' (fa k p .none W a)) y (.inr ⟨_,_,_,_,_,rfl⟩) (bZ aP)
 exact ⟨bM,H',bW,ρ',cV.step (vq ar) (by kernel_rfl) t (yL hf bc lq (ab.cons c (ab.one (ah.iff I ab.nil)))) gl,wr,b⟩
theorem XS (ar:k<3000):Run X (.tup [.none,.int st.length]) w k X.C.length st w:=fun H am ρ ls x is aP=>by
 obtain ⟨ea,lq,t⟩:=yM (X:=X) (H:=H) (k:=k) is
 have len:=aq.len x.hV (k:=st.length)
 have s0:∀{r:List (Str×V)},ah 12 (iQ (ed X X.C.length ((jT,.int k)::r))) (bQ jk 0) H (.ret (.tup [.none,.int st.length])) (ed X X.C.length ((jT,.int k)::r)) H:=fun {r} =>
  ah.cm (GT.cmp (a:=.int X.C.length) (b:=.int X.C.length) I I (Kq (decide_eq_true rfl))) (ab.ret (ah.ret (ai.tup (GE.cons I (GE.cons (ai.bI (g:=.obj (.builtin "len")) (vs:=[.ref X.s]) I I (len.mono (by decide))) GE.nil)))))
 exact ⟨_,H,am,ρ,cV.out (vq ar) (by kernel_rfl) t (ab.ret s0),x.wr,x.qi⟩
theorem Kr (ar:k<3000) (hf:X.C[p]?=some (eN op a)) (bc:∀ H,aq 2 (.obj (.ref 156)) [.int op] H (.str W) H) (bZ:gk k st w→jK.length≤k∧(jK++ex).length≤k+1∧w'.seen.length≤k+1∧w'.held.length≤k+1)
 (g:∀ H am ρ,X.R H st w am ρ→gk k st w→mB (fun H' bW ρ'=>ah 12 (iQ (ed X (p+1) (fa k p .none W a))) yK H .next (ed X (p+1) (fa k p v.V W a)) H') fun H' bW ρ'=>X.R H' (jK++ex) w' bW ρ')
 (r:ly X out wf (k+1) p jK v w'):Run X out wf k p st w:=fun H am ρ ls x is aP=>by
 obtain ⟨ea,lq,t⟩:=yM (X:=X) (H:=H) (k:=k) is
 obtain ⟨H1,ew,eW,c,y⟩:=g H am ρ x aP
 obtain ⟨dj,et,ko,n5⟩:=bZ aP
 have fP:(jK++ex).length<aL:=by have:=aP.le;unfold aL;omega
 unfold ly at r
 have arg:∀{H},GE 12 (iQ (ed X (p+1) (fa k p v.V W a))) (m7 (eH (bQ (sB (bQ jk 5)) 0))) H [X.U,.int p,.ref X.s,v.V] H:=fun {H}=>I
 cases e:fk X.hl p with
 |none =>
  rw[e] at r
  obtain ⟨rfl,rfl⟩:=r
  have iB:=XO (C:=X.C) (K:=X.K) (d6:=X.d6) (L:=X.L) (v:=v) y fP e
  exact ⟨_,H1,ew,eW,cV.out (vq ar) (by kernel_rfl) t (yL hf bc lq (ab.cons c (ab.ret (ah.cm I (ab.cons (bJ:=(dq,.ref (X.q+4))::(kL,X.U)::(nB,.ref X.s)::(qe,.int (-1))::fa k p v.V W a) (ah.assign (v:=.int (-1)) (ai.bI (g:=.obj (.ref 937)) I arg (iB.mono (by decide))) (bq.name (by kernel_rfl))) (ab.ret (ah.cm I (ab.ret (ah.ret I))))))))),y.wr,y.qi⟩
 |some uh =>
  obtain ⟨g,d⟩:=uh
  rw[e] at r
  obtain ⟨n,rfl,XT,r⟩:=r
  obtain ⟨H2,cs,dC⟩:=XQ (C:=X.C) (K:=X.K) (d6:=X.d6) (L:=X.L) (v:=v) y fP e (by rw[List.length_append];omega)
  rw[List.take_append_of_le_length XT] at dC
  obtain ⟨bM,H',bW,ρ',gl,wr,b⟩:=r H2 ew eW (ed X g (fa k p v.V W a)) dC (.inr ⟨_,_,_,_,_,rfl⟩) ⟨by omega,by rw[List.length_append,List.length_take];show min n _+1≤k+1;omega,ko,n5⟩
  exact ⟨bM,H',bW,ρ',cV.step (vq ar) (by kernel_rfl) t (yL hf bc lq (ab.cons c (ab.one (ah.cm I (ab.cons (bJ:=ed X g (fa k p v.V W a)) (ah.assign (v:=.int g) (ai.bI (g:=.obj (.ref 937)) I arg (cs.mono (by decide))) (bq.name (by kernel_rfl))) (ab.one (ah.iff (GT.cmp (a:=.int g) (b:=.int 0) I I qb) ab.nil))))))) gl,wr,b⟩
structure Ks (W:Str):Prop where
 a:seq W sI=false
 b:seq W CK=false
 c:(seq vo W || seq ⟨⟨[74,84]⟩⟩ W)=false
 d:seq W CL=false
theorem CU {x y:Str}{q:Bool}(e:seq x y=q):dX .Eq (.str x) (.str y) ⟨H,True⟩=some (q,⟨H,True⟩):=by subst e;rfl
theorem XU {x y z:Str}{q:Bool}(e:(seq y x || seq z x)=q):dX .In (.str x) (.tup [.str y,.str z]) ⟨H,True⟩=some (q,⟨H,True⟩):=by subst e;rfl
theorem CV (hk:Ks W) (g:aq 9 (.obj (.ref 930)) [.ref (X.q+4),.str W,a,.ref X.s,X.U] H f H'):ah 12 (iQ (ed X (p+1) (fa k p .none W a))) yK H .next (ed X (p+1) (fa k p f W a)) H' :=
 ah.iff (GT.cmp (a:=.str W) (b:=.str sI) I I (CU hk.a))<|ab.bx (GT.cmp (a:=.str W) (b:=.str CK) I I (CU hk.b))<|ab.bx (GT.cmp (a:=.str W) I I (XU hk.c))<|ab.bx (GT.cmp (a:=.str W) (b:=.str CL) I I (CU hk.d)) <|
  ab.one (ah.assign (v:=f) (ai.bI (g:=.obj (.ref 930)) (vs:=[.ref (X.q+4),.str W,a,.ref X.s,X.U]) I I (g.mono (by decide))) (bq.name (by kernel_rfl)))
end
section
variable {X:gQ}{H H' H1:List aj}{w w' : aQ}{am bW:Nat→Nat}{ρ ρ' : Nat→cn}{st st' jK ex:List ck}{v:b5}{a f z:V}{W:Str}{ls bM:List (Str×V)}{op c:Int}{k p p' i:Nat}{out:V}{wf:aQ}{aN:cD}{d o e:b0}{l:List b0}{q:Bool}{s t u:ck}
theorem gk.up (z:gk k st w) (ar:k<3000) (a:st'.length≤st.length+1) (b:w'.seen.length≤w.seen.length+1) (c:w'.held.length≤w.held.length+1):gk (k+1) st' w' :=
 ⟨ar,Nat.le_trans a (Nat.add_le_add_right z.t 1),Nat.le_trans b (Nat.add_le_add_right z.s 1),Nat.le_trans c (Nat.add_le_add_right z.h 1)⟩
theorem qm (a:i≤k) (b:k≤3000):i+2<aL:=Nat.lt_of_le_of_lt (Nat.add_le_add_right (Nat.le_trans a b) 2) (by decide)
theorem gk.hr (z:gk k st w):st.length+2<aL:=qm z.t z.le
theorem lz (h:i+2<k):i<k:=Nat.lt_of_le_of_lt (Nat.le_add_right i 2) h
theorem CW (h:i+2<k):i+1<k:=Nat.lt_of_le_of_lt (Nat.le_succ (i+1)) h
theorem gk.qn (z:gk k st w):w.seen.length<aL:=lz (qm z.s z.le)
theorem gk.lc (z:gk k st w):w.held.length<aL:=lz (qm z.h z.le)
theorem hW:(st++[s]).length=st.length+1:=List.length_append
theorem Kt (w:aQ):w.hA.2.seen=w.seen∧w.hA.2.held=w.held:=by unfold aQ.hA;split <;> exact ⟨rfl,rfl⟩
theorem yN (r:Row):(w.d3 r).seen.length=w.seen.length+1:=by unfold aQ.d3;simp
theorem CX (n:b9):(w.getD n).2.seen.length≤w.seen.length+1:=by
 show (w.d3 (.get n)).hA.2.seen.length≤_
 rw[(Kt _).1,yN];exact Nat.le_refl _
theorem CY (n:b9):(w.getD n).2.held=w.held:=(Kt (w.d3 (.get n))).2
theorem sL (r:Row):(w.row r).seen.length=w.seen.length+1:=by
 unfold aQ.row
 split <;> exact yN _
theorem yO (r:Row):(w.row r).held=w.held:=by
 unfold aQ.row
 split <;> rfl
variable (ar:k<3000)
include ar
theorem j2 (hf:X.C[p]?=some (eN op a)) (bc:∀ H,aq 2 (.obj (.ref 156)) [.int op] H (.str W) H) (hk:Ks W) (bZ:gk k st w→gk (k+1) st' w')
 (g:∀ H am ρ,X.R H st w am ρ→gk k st w→mB (fun H' bW ρ'=>aq 9 (.obj (.ref 930)) [.ref (X.q+4),.str W,a,.ref X.s,X.U] H .none H') fun H' bW ρ'=>X.R H' st' w' bW ρ')
 (r:Run X out wf (k+1) (p+1) st' w'):Run X out wf k p st w :=
 sJ ar hf bc bZ (fun H am ρ x z=>let ⟨H',bW,ρ',g,y⟩:=g H am ρ x z;⟨H',bW,ρ',CV hk g,y⟩) r
theorem nD (hf:eU X.C p 6) (r:Run X out wf (k+1) (p+1) st w):Run X out wf k p (st++[s]) w :=
 j2 ar hf (W:=Kc) (fun _=>I) ⟨rfl,rfl,rfl,rfl⟩ (fun z=>z.up ar (by rw[hW];exact Nat.le_trans (Nat.le_succ _) (Nat.le_succ _)) (Nat.le_succ _) (Nat.le_succ _)) (fun _ _ _ x _=>⟨_,_,_,Xq x,x.pop⟩) r
theorem XW (hf:eU X.C p 81) (r:Run X out wf (k+1) (p+1) st w):Run X out wf k p st w :=
 j2 ar hf (W:=Kd) (fun _=>I) ⟨rfl,rfl,rfl,rfl⟩ (fun z=>z.up ar (Nat.le_succ _) (Nat.le_succ _) (Nat.le_succ _)) (fun _ _ _ x _=>⟨_,_,_,Xr,x⟩) r
theorem XX (aw:c=7∨c=8∨c=9) (hf:nu X.C X.K p 4 (.int c)) (r:Run X out wf (k+1) (p+1) (st++[.s (vg c)]) w):Run X out wf k p st w :=
 let ⟨_,hf,aM⟩:=hf;j2 ar hf (W:=J9) (fun _=>I) ⟨rfl,rfl,rfl,rfl⟩ (fun z=>z.up ar (Nat.le_of_eq hW) (Nat.le_succ _) (Nat.le_succ _)) (fun _ _ _ x z=>⟨_,_,_,Xs x (lz z.hr) aM aw,x.push rfl⟩) r
theorem XY (hf:gf X.C p 67 i) (r:Run X out wf (k+1) (p+1) (st++[.s .fn]) w.hold):Run X out wf k p st w :=
 j2 ar (w':=w.hold) hf (W:=J8) (fun _=>I) ⟨rfl,rfl,rfl,rfl⟩ (fun z=>z.up ar (Nat.le_of_eq hW) (Nat.le_succ _) (by unfold aQ.hold;simp)) (fun _ _ _ x z=>let ⟨H',g,y⟩:=Xu x (lz z.hr) z.lc;⟨H',_,_,g,y⟩) r
theorem XZ (hf:gf X.C p 17 3) (r:Run X out wf (k+1) (p+1) st (w.fresh .un)):Run X out wf k p st w :=
 j2 ar (w':=w.fresh .un) hf (W:=J7) (fun _=>I) ⟨rfl,rfl,rfl,rfl⟩ (fun z=>z.up ar (Nat.le_succ _) (Nat.le_succ _) (Nat.le_succ _)) (fun _ _ _ x _=>Xv x) r
theorem nE {n:b9}(bA:hB n=false) (he:eV n=false) (hf:mw X.C X.K p n) (r:Run X out wf (k+1) (p+1) (st++[.s (.gh (w.getD n).1)]) (w.getD n).2):Run X out wf k p st w:=by
 have hf:nu X.C X.K p 18 (.str n.s):=by cases n <;> first |exact hf |cases bA
 obtain ⟨_,hf,aM⟩:=hf
 refine j2 ar hf (W:=vn) (fun _=>I) ⟨rfl,rfl,rfl,rfl⟩ (fun z=>z.up ar (Nat.le_of_eq hW) (CX n) (by rw[CY];exact Nat.le_succ _)) (fun _ _ _ x z=>?_) r
 obtain ⟨H',g,y⟩:=Kh (C:=X.C) (d6:=X.d6) (j0:=X.hl.map cS.V) (L:=X.L) x (lz z.hr) z.qn bA aM
 unfold gj at g
 unfold fL at y
 rw[he] at g y
 exact ⟨H',_,_,g,y⟩
theorem yP (hf:mw X.C X.K p .e) (r:ly X out wf (k+1) p st (.bb (w.getD .e).1) (w.getD .e).2):Run X out wf k p st w:=by
 obtain ⟨_,hf,aM⟩:=hf
 refine Kr (ex:=[.n]) ar hf (W:=vn) (fun _=>I) (fun z=>⟨z.t,by rw[hW];exact Nat.add_le_add_right z.t 1,Nat.le_trans (CX .e) (Nat.add_le_add_right z.s 1),by rw[CY];exact Nat.le_trans z.h (Nat.le_succ _)⟩) (fun _ _ _ x z=>?_) r
 obtain ⟨H',g,y⟩:=Kh (n:=.e) (C:=X.C) (d6:=X.d6) (j0:=X.hl.map cS.V) (L:=X.L) x (lz z.hr) z.qn rfl aM
 exact ⟨H',_,_,CV ⟨rfl,rfl,rfl,rfl⟩ g,y⟩
theorem X0 (aV:w.cells[w.cur]?=some v) (hf:mw X.C X.K p .x) (r:Run X out wf (k+1) (p+1) (st++[.s v]) (w.d3 (.get .x))):Run X out wf k p st w :=
 j2 ar (a:=.int 3) hf (W:=yG) (fun _=>I) ⟨rfl,rfl,rfl,rfl⟩ (fun z=>z.up ar (Nat.le_of_eq hW) (Nat.le_of_eq (yN _)) (Nat.le_succ _)) (fun _ _ _ x z=>let ⟨H',g,y⟩:=Xw x (lz z.hr) z.qn aV;⟨H',_,_,g,y⟩) r
theorem Ku {n:fT}(hf:u6 X.C X.K p n) (r:Run X out wf (k+1) (p+1) (st++[.s v]) (w.row (.b7 n v))):Run X out wf k p (st++[.s v]) w:=by
 have bZ:gk k (st++[.s v]) w→gk (k+1) (st++[ck.s v]) (w.row (.b7 n v)):=fun z=>z.up ar (Nat.le_succ _) (Nat.le_of_eq (sL _)) (by rw[yO];exact Nat.le_succ _)
 have gl:nu X.C X.K p 20 (.str n.s)→Run X out wf k p (st++[.s v]) w:=fun ⟨_,hf,aM⟩ =>
  j2 ar hf (W:=J5) (fun _=>I) ⟨rfl,rfl,rfl,rfl⟩ bZ (fun _ _ _ x z=>let ⟨H',g,y⟩:=Xx x z.qn aM;⟨H',_,_,g,y⟩) r
 cases n with
 |v=>exact gl hf
 |w=>exact gl hf
 |x=>exact j2 ar (a:=.int 3) hf (W:=J6) (fun _=>I) ⟨rfl,rfl,rfl,rfl⟩ bZ (fun _ _ _ x z=>let ⟨H',g,y⟩:=Xy x z.qn;⟨H',_,_,g,y⟩) r
theorem X1 (h1:kM s=true) (af:kM t=true) (hf:eU X.C p 9) (r:Run X out wf (k+1) (p+1) (st++[t,s]) w):Run X out wf k p (st++[s,t]) w :=
 j2 ar hf (W:=Kb) (fun _=>I) ⟨rfl,rfl,rfl,rfl⟩ (fun z=>z.up ar (by rw[List.length_append,List.length_append];exact Nat.le_succ _) (Nat.le_succ _) (Nat.le_succ _)) (fun _ _ _ x z=>let ⟨H',g,y⟩:=XA h1 af x (CW (Nat.lt_of_le_of_lt (Nat.add_le_add_right (by rw[List.length_append];exact Nat.le_add_right _ _) 2) z.hr));⟨H',_,_,g,y⟩) r
theorem Kv (h1:kM s=true) (af:kM t=true) (aB:kM u=true) (hf:eU X.C p 10) (r:Run X out wf (k+1) (p+1) (st++[u,s,t]) w):Run X out wf k p (st++[s,t,u]) w :=
 j2 ar hf (W:=CH) (fun _=>I) ⟨rfl,rfl,rfl,rfl⟩ (fun z=>z.up ar (by rw[List.length_append,List.length_append];exact Nat.le_succ _) (Nat.le_succ _) (Nat.le_succ _)) (fun _ _ _ x z=>let ⟨H',g,y⟩:=XC h1 af aB x (Nat.lt_of_le_of_lt (Nat.add_le_add_right (by rw[List.length_append];exact Nat.le_add_right _ _) 2) z.hr);⟨H',_,_,g,y⟩) r
theorem X2 (hf:nu X.C X.K p 24 (.str iJ)) (r:Run X out wf (k+1) (p+1) (st++[.s v]) (w.row (.mem o v))):Run X out wf k p (st++[.s (.gh o),.s v]) w :=
 let ⟨_,hf,aM⟩:=hf;j2 ar hf (W:=CI) (fun _=>I) ⟨rfl,rfl,rfl,rfl⟩ (fun z=>z.up ar (by rw[List.length_append,List.length_append];exact Nat.le_succ_of_le (Nat.le_succ _)) (Nat.le_of_eq (sL _)) (by rw[yO];exact Nat.le_succ _))
  (fun _ _ _ x z=>let ⟨H',g,y⟩:=XD x (Nat.lt_of_le_of_lt (by rw[List.length_append];exact Nat.le_add_right _ _) (lz z.hr)) z.qn aM;⟨H',_,_,g,y⟩) r
theorem X3 (hf:eU X.C p 26) (r:Run X out wf (k+1) (p+1) (st++[.s v]) (w.row (.c6 o e v))):Run X out wf k p (st++[.s (.gh o),.s (.gh e),.s v]) w :=
 j2 ar hf (W:=CJ) (fun _=>I) ⟨rfl,rfl,rfl,rfl⟩ (fun z=>z.up ar (by rw[List.length_append,List.length_append];exact Nat.le_succ_of_le (Nat.le_succ_of_le (Nat.le_succ _))) (Nat.le_of_eq (sL _)) (by rw[yO];exact Nat.le_succ _))
  (fun _ _ _ x z=>let ⟨H',g,y⟩:=XE x (Nat.lt_of_le_of_lt (by rw[List.length_append];exact Nat.le_add_right _ _) (lz z.hr)) z.qn;⟨H',_,_,g,y⟩) r
end
section
variable {X:gQ}{H H' H1:List aj}{w w' : aQ}{am bW:Nat→Nat}{ρ ρ' : Nat→cn}{st st' jK ex:List ck}{v:b5}{f z:V}{W:Str}{ls bM:List (Str×V)}{op c:Int}{a k p p' i:Nat}{out:V}{wf:aQ}{aN:cD}{d o e:b0}{l:List b0}{q:Bool}{s t u:ck}
variable (ar:k<3000)
include ar
theorem X4 (hf:eU X.C p 76) (r:∀ a,Run X out wf (k+1) (p+1) (st++[.k a (keysOf d)]) w):Run X out wf k p (st++[.s (.gh d)]) w:=fun H am ρ ls x is aP=>by
 obtain ⟨ea,lq,t⟩:=yM (X:=X) (H:=H) (k:=k) is
 have le:st.length+1≤k:=by have:=aP.t;rwa [hW] at this
 obtain ⟨H1,a,eW,g,y⟩:=XG (z:=.none) (U:=X.U) x (lz (qm (Nat.le_of_succ_le le) aP.le))
 obtain ⟨bM,H',bW,ρ',gl,wr,b⟩:=r a H1 am eW (ed X (p+1) (fa k p .none Ka .none)) y (.inr ⟨_,_,_,_,_,rfl⟩) (aP.up ar (by rw[hW,hW];exact Nat.le_succ _) (Nat.le_succ _) (Nat.le_succ _))
 exact ⟨bM,H',bW,ρ',cV.step (vq ar) (by kernel_rfl) t (yL hf (fun _=>I) lq (ab.cons (CV ⟨rfl,rfl,rfl,rfl⟩ g) (ab.one (ah.iff I ab.nil)))) gl,wr,b⟩
theorem yQ (hf:gf X.C p 58 p') (r:Run X out wf (k+1) p' st w):Run X out wf k p st w :=
 sJ ar hf (W:=CK) (fun _=>I) (fun z=>z.up ar (Nat.le_succ _) (Nat.le_succ _) (Nat.le_succ _)) (fun H am ρ x z=>⟨H,am,ρ,ah.iff I<|ab.eO I<|ab.one (ah.assign (v:=.int p') I (bq.name (by kernel_rfl))),x⟩) r
theorem Kw {ib:Nat}{b:Bool}(x:X.R H (st++[.s (.gh d)]) w am ρ) (bt:∀ H,dX .NotEq (cg d) (.str ⟨⟨[48]⟩⟩) ⟨H,True⟩=some (!b,⟨H,True⟩)) (a3:ib=match b with |true=>p' |false=>p+1) :
 ah 12 (iQ (ed X (p+1) (fa k p .none vo (.int p')))) yK H .next (ed X ib (fa k p .none vo (.int p'))) (H.set X.s (.list (st.map ck.V))):=by
 have pp:=(aq.lu x).mono (by decide:1≤12)
 have nb:∀ H,dX .Eq (.bool !b) (.bool false) ⟨H,True⟩=some (b,⟨H,True⟩):=fun H=>by cases b <;> rfl
 cases b with
 |true=>rw[show ib=p' from a3];exact ah.iff I<|ab.bx I<|ab.eO I<|ab.one (ah.assign (v:=.int p') (ai.cm (GT.cmp (ai.cmp (ai.a0 (v:=.ref X.s) (first:=[.ref X.s]) (vs:=[]) I (j1 x) GE.nil pp) I (bt _)) I (nb _)) I) (bq.name (by kernel_rfl)))
 |false=>rw[show ib=p+1 from a3];exact ah.iff I<|ab.bx I<|ab.eO I<|ab.one (ah.assign (v:=.int (p+1:Nat)) (ai.iff (GT.cmp (ai.cmp (ai.a0 (v:=.ref X.s) (first:=[.ref X.s]) (vs:=[]) I (j1 x) GE.nil pp) I (bt _)) I (nb _)) I) (bq.name (by kernel_rfl)))
theorem Kx (z:gk k (st++[s]) w):gk (k+1) st w:=z.up ar (by rw[hW];exact Nat.le_succ_of_le (Nat.le_succ _)) (Nat.le_succ _) (Nat.le_succ _)
theorem X5 (hf:gf X.C p 59 p') (r:Run X out wf (k+1) p' st w):Run X out wf k p (st++[.s (.gh .z)]) w :=
 sJ ar hf (W:=vo) (fun _=>I) (Kx ar) (fun H am ρ x z=>⟨_,am,ρ,Kw ar (b:=true) x (fun _=>rfl) rfl,x.pop⟩) r
theorem X6 (hd:d≠.z) (hf:gf X.C p 59 p') (r:Run X out wf (k+1) (p+1) st w):Run X out wf k p (st++[.s (.gh d)]) w :=
 sJ ar hf (W:=vo) (fun _=>I) (Kx ar) (fun H am ρ x z=>⟨_,am,ρ,Kw ar (b:=false) x (fun _=>by cases d <;> first |rfl |exact absurd rfl hd) rfl,x.pop⟩) r
theorem X7 (hf:eU X.C p 66) (r:ly X out wf (k+1) p st v w):Run X out wf k p (st++[.s v]) w :=
 Kr (ex:=[]) ar hf (W:=CL) (fun _=>I) (fun z=>by
  have h:st.length+1≤k:=by have:=z.t;rwa [hW] at this
  rw[List.append_nil]
  exact ⟨Nat.le_of_succ_le h,Nat.le_succ_of_le (Nat.le_of_succ_le h),Nat.le_succ_of_le z.s,Nat.le_succ_of_le z.h⟩)
  (fun H am ρ x z=>⟨_,am,ρ,ah.iff I<|ab.bx I<|ab.bx I<|ab.eO I<|ab.one (ah.assign (v:=v.V) (ai.a0 (v:=.ref X.s) (first:=[.ref X.s]) (vs:=[]) I (j1 x) GE.nil ((aq.lu x).mono (by decide))) (bq.name (by kernel_rfl))),by rw[List.append_nil];exact x.pop⟩) r
theorem X8 (hf:gf X.C p 77 p') (r:Run X out wf (k+1) p' (st++[.k a []]) w):Run X out wf k p (st++[.k a []]) w :=
 sJ ar hf (W:=sI) (fun _=>I) (fun z=>z.up ar (Nat.le_succ _) (Nat.le_succ _) (Nat.le_succ _)) (fun H am ρ x z=>by
  have ao:=(x.keys st.length a [] (by simp)).1
  have df:X.R (H++[.list []]) (st++[.k a []]) w am ρ:=x.ext
  have eG:X.R ((H++[.list []])++[.list []]) (st++[.k a []]) w am ρ:=df.ext
  have aK:=JY (f:=fun d=>(b5.key d).s) (l:=[]) ao
  have bw:=ne_nil (f:=fun d=>(b5.key d).s) (l:=[]) (df.keys st.length a [] (by simp)).1
  exact ⟨_,am,ρ,ah.cm I<|ab.cons (bJ:=ed X p' (fa k p .none sI (.int p'))) (ah.assign (v:=.int p') (ai.cm (GT.cmp (ai.sub (a:=.int (-1)) I I (ql x.top)) (ai.list GE.nil) aK) I) (bq.name (by kernel_rfl))) <|
   ab.one (ah.iff (GT.cmp (ai.sub (a:=.int (-1)) I I (ql df.top)) (ai.list GE.nil) bw) ab.nil),eG⟩) r
theorem X9 (hf:gf X.C p 77 p') (r:Run X out wf (k+1) (p+1) ((st++[.k a l])++[.s (.key d)]) w):Run X out wf k p (st++[.k a (d::l)]) w :=
 sJ ar hf (W:=sI) (fun _=>I) (fun z=>z.up ar (by rw[hW,hW,hW];exact Nat.le_refl _) (Nat.le_succ _) (Nat.le_succ _)) (fun H am ρ x z=>by
  have ao:=(x.keys st.length a (d::l) (by simp)).1
  have df:X.R (H++[.list []]) (st++[.k a (d::l)]) w am ρ:=x.ext
  have eG:X.R ((H++[.list []])++[.list []]) (st++[.k a (d::l)]) w am ρ:=df.ext
  have aK:=JY (f:=fun d=>(b5.key d).s) (l:=d::l) ao
  have bw:=ne_nil (f:=fun d=>(b5.key d).s) (l:=d::l) (df.keys st.length a (d::l) (by simp)).1
  have aC:=(eG.keys st.length a (d::l) (by simp)).1
  have y:=eG.XR
  have fP:(st++[ck.k a l]).length<aL:=Nat.lt_of_le_of_lt (by rw[hW,hW];exact Nat.le_refl _) (lz z.hr)
  exact ⟨_,am,ρ,ah.cm I<|ab.cons (bJ:=ed X (p+1) (fa k p .none sI (.int p'))) (ah.assign (v:=.int (p+1:Nat)) (ai.iff (GT.cmp (ai.sub (a:=.int (-1)) I I (ql x.top)) (ai.list GE.nil) aK) I) (bq.name (by kernel_rfl))) <|
   ab.one (ah.cm (GT.cmp (ai.sub (a:=.int (-1)) I I (ql df.top)) (ai.list GE.nil) bw) (ab.one (ah.expr (ai.a0 (v:=.ref X.s) (first:=[.ref X.s]) (vs:=[(ck.s (.key d)).V]) I (mD eG) (GE.cons (ai.a0 (v:=.ref a) (first:=[.ref a]) (vs:=[.int 0]) (ai.sub (a:=.int (-1)) I I (ql eG.top)) (CG aC) I ((aq.JX aC).mono (by decide))) GE.nil) ((aq.pushS y fP).mono (by decide)))))),y.push rfl⟩) r
end
noncomputable def aQ.lA (w:aQ) (v:b5):aQ:=(w.fresh .un).row (.b7 .x v)
noncomputable abbrev cw:bF→aQ→Rs:=fy aQ.lA
section
variable {X:gQ}{w b1 w' : aQ}{out:V}{wf:aQ}{p q e p' c9:Nat}{l jV:List cS}{st ex:List ck}{N CZ:Nat→aQ→Prop}{k c n:Nat}{r:Rs}{S aT:Prop}{v:b5}{f:aQ→Rs}{rw' : Row}{nm:b9}
noncomputable def Ok (X:gQ) (out:V) (wf:aQ) (p e:Nat) (l:List cS) (st:List ck) (N:Nat→aQ→Prop) (k:Nat) (r:Rs) (S:Prop):Prop:=match r with
 |(none,w',c)=>N (k+c) w'→S
 |(some v,w',c)=>(∀ q,p≤q→q<e→fk l q=none→ly X out wf (k+c) q st v w')→S
theorem Ok.more (x:Ok X out wf p e l st N (k+c) r aT) (h:aT→S):Ok X out wf p e l st N k (r.more c) S:=by
 obtain ⟨o,w1,n⟩:=r
 cases o with
 |none=>exact fun g=>h (x (by rw[Nat.add_assoc];exact g))
 |some v=>exact fun g=>h (x (by rw[Nat.add_assoc];exact g))
theorem Ok.seq (x:Ok X out wf p e l st CZ k r S) (y:∀ w1 n,r=(none,w1,n)→Ok X out wf p e l st N (k+(n+c)) (f w1) (CZ (k+n) w1)):Ok X out wf p e l st N k (r.seq c f) S:=by
 obtain ⟨o,w1,n⟩:=r
 cases o with
 |none=>exact (y w1 n rfl).more x
 |some v=>exact x
theorem Ok.imp (x:Ok X out wf p e l st N k r aT) (h:aT→S):Ok X out wf p e l st N k r S:=by
 obtain ⟨o,w1,n⟩:=r
 cases o with
 |none=>exact fun g=>h (x g)
 |some v=>exact fun g=>h (x g)
theorem Ok.all {α:Type}{S:α→Prop}(x:∀ a,Ok X out wf p e l st N k r (S a)):Ok X out wf p e l st N k r (∀ a,S a):=by
 obtain ⟨o,w1,n⟩:=r
 cases o with
 |none=>exact fun g a=>x a g
 |some v=>exact fun g a=>x a g
theorem Ok.wide (x:Ok X out wf p' c9 jV st N k r S) (h1:p≤p') (af:c9≤e) (aB:∀ q,p'≤q→q<c9→fk jV q=none→fk l q=none):Ok X out wf p e l st N k r S:=by
 obtain ⟨o,w1,n⟩:=r
 cases o with
 |none=>exact x
 |some v=>exact fun g=>x fun q hO sM vr=>g q (Nat.le_trans h1 hO) (Nat.lt_of_lt_of_le sM af) (aB q hO sM vr)
theorem ly.up (x:ly X out wf k p st v w):ly X out wf k p (st++ex) v w:=by
 unfold ly at x ⊢
 cases e:fk X.hl p with
 |none=>rw[e] at x;exact x
 |some g =>
  rw[e] at x
  obtain ⟨n,h1,af,aB⟩:=x
  exact ⟨n,h1,by rw[List.length_append];exact Nat.le_trans af (Nat.le_add_right _ _),by rw[List.take_append_of_le_length af];exact aB⟩
theorem Ok.up (x:Ok X out wf p e l (st++ex) N k r S):Ok X out wf p e l st N k r S:=by
 obtain ⟨o,w1,n⟩:=r
 cases o with
 |none=>exact x
 |some v=>exact fun g=>x fun q hO sM vr=>(g q hO sM vr).up
theorem vt {h:cS}:fk (h::l) q=if h.i≤q∧q<h.j then some (h.g,h.d) else fk l q:=by
 show (match decide (h.i≤q)&&decide (q<h.j) with |true=>some (h.g,h.d) |false=>fk l q)=_
 by_cases a:h.i≤q <;> by_cases b:q<h.j <;> simp[a,b]
theorem vu (h:∀ x∈l,q<x.i∨x.j≤q):fk l q=none:=by
 induction l with
 |nil=>rfl
 |cons a r aI =>
  rw[vt,if_neg (fun y=>(h a (.head _)).elim (fun z=>Nat.not_le.mpr z y.1) (fun z=>Nat.not_lt.mpr z y.2))]
  exact aI fun x m=>h x (.tail _ m)
theorem vv (h:fk l q=none):fk (l++jV) q=fk jV q:=by
 induction l with
 |nil=>rfl
 |cons a r aI =>
  rw[vt] at h
  rw[List.cons_append,vt]
  split at h
  ·cases h
  ·rename_i bc;rw[if_neg bc];exact aI h
theorem sN {a b p m i j:Nat}(h:p+a≤i∧j≤p+a+b) (e:a+b≤m):p≤i∧j≤p+m:=⟨Nat.le_trans (Nat.le_add_right _ _) h.1,Nat.le_trans h.2 (Nat.le_trans (Nat.le_of_eq (Nat.add_assoc p a b)) (Nat.add_le_add_left e p))⟩
theorem vw (t:bF):∀(p:Nat) (d:Int),∀ h∈ak t p d,p≤h.i∧h.j≤p+bD t:=by
 induction t with
 |b7 _=>exact fun _ _ h m=>nomatch m
 |el=>exact fun _ _ h m=>nomatch m
 |ff _=>exact fun _ _ h m=>nomatch m
 |du _ b aI=>exact fun p d h m=>sN (aI (p+2) d h m) (Nat.le_add_right _ _)
 |fin t _ b aI=>exact fun p d h m=>sN (a:=3+fJ t) (by have:=aI (p+3+fJ t) (d+1) h m;rwa [Nat.add_assoc p] at this) (Nat.le_trans (Nat.le_add_right _ _) (Nat.le_succ _))
 |dg b c qo C0 =>
  refine fun p d h m=>?_
  rcases List.mem_append.mp m with m |m
  ·exact sN (a:=0) (qo p d h m) (by simp only[jW];omega)
  ·cases m with
   |head=>exact ⟨Nat.le_refl _,Nat.add_le_add_left (by simp only[jW];omega) p⟩
   |tail _ m=>exact sN (a:=bD b+(op b).toNat+3) (by have:=C0 _ d h m;simpa only[Nat.add_assoc] using this) (by simp only[jW];omega)
 |two a b yR qo =>
  refine fun p d h m=>?_
  cases e:op a with
  |true =>
   rw[yj e] at m
   rw[yh e]
   rcases List.mem_append.mp m with m |m
   ·exact sN (a:=0) (yR p d h m) (by omega)
   ·exact sN (qo _ d h m) (Nat.le_refl _)
  |false =>
   rw[yk e] at m
   rw[yi e]
   exact yR p d h m
end
theorem Ky {c:Nat}{f:aQ→Rs}:∀{r:Rs}{v:b5},r.1=some v→(r.seq c f).1=some v
 |(some _,_,_),_,h=>h
theorem Ya {cf:aQ→b5→aQ}(t:bF):∀(w:aQ),op t=false→∃ v,(fy cf t w).1=some v:=by
 induction t with
 |b7 n=>exact fun w h=>ez h
 |el=>exact fun w h=>ez h
 |ff k=>exact fun w _=>⟨_,rfl⟩
 |du n b _=>exact fun w h=>ez h
 |fin t n b _=>exact fun w h=>ez h
 |dg b c qo C0 =>
  refine fun w h=>?_
  obtain ⟨h1,af⟩:=Bool.or_eq_false_iff.mp h
  obtain ⟨v,aV⟩:=qo w h1
  show ∃ v,(jX cf (fy cf b w) (fy cf c)).1=some v
  generalize fy cf b w=r at *
  obtain ⟨o,w1,n⟩:=r
  cases aV
  obtain ⟨u,dI⟩:=C0 (cf w1 v) af
  exact ⟨u,Ky dI⟩
 |two a b yR qo =>
  refine fun w h=>?_
  show ∃ v,((fy cf a w).seq 0 (fy cf b)).1=some v
  cases b2:op a with
  |false =>
   obtain ⟨v,aV⟩:=yR w b2
   exact ⟨v,Ky aV⟩
  |true =>
   have bt:op b=false:=by have h:(op a&&op b)=false:=h;rwa [b2,Bool.true_and] at h
   generalize fy cf a w=r at *
   obtain ⟨o,w1,n⟩:=r
   cases o with
   |some v=>exact ⟨v,rfl⟩
   |none=>exact qo w1 bt
theorem vx {t:bF}{w w1:aQ}{n:Nat}(h:cw t w=(none,w1,n)):op t=true:=by
 cases e:op t with
 |true=>rfl
 |false=>have h:fy aQ.lA t w=_:=h;obtain ⟨v,aV⟩:=Ya (cf:=aQ.lA) t w e;rw[h] at aV;cases aV
theorem Kz (w:aQ) (v:b5):(w.lA v).left=w.left:=rfl
section
variable {X:gQ}{w b1 w' : aQ}{out:V}{wf:aQ}{p q e:Nat}{l jV pre post:List cS}{st ex:List ck}{k c n:Nat}{r:Rs}{S aT:Prop}{v:b5}{f:aQ→Rs}{nm:b9}{t:dF}{b:bF}{d:b0}
theorem C1 {a b:ck}:(st++[a])++[b]=st++[a,b]:=List.append_assoc ..
theorem jl {m:Nat}(h:k+(m+1)≤3000):k<3000:=Nat.lt_of_lt_of_le (Nat.lt_add_of_pos_right (Nat.succ_pos m)) h
theorem Yb (bT:yg X.C X.K t p) (cP:oO t=true) (ar:k+(ec t (.key d) w).2.2≤3000) :
 Ok X out wf p (p+fJ t) [] st (fun k w=>Run X out wf k (p+fJ t) st w) k (ec t (.key d) w) (Run X out wf k p (st++[.s (.key d)]) w):=by
 have KA:∀{n:fT},u6 X.C X.K p n→eU X.C (p+1) 6→k+2≤3000→Ok X out wf p (p+2) [] st (fun k w=>Run X out wf k (p+2) st w) k (none,w.sets n (.key d),2) (Run X out wf k p (st++[.s (.key d)]) w):=fun {n} h1 af ar=>by
  have e:w.sets n (.key d)=w.row (.b7 n (.key d)):=by cases n <;> rfl
  rw[e]
  exact fun g=>Ku (jl ar) h1 (nD ar af g)
 cases t with
 |b7 n=>exact KA bT.1 bT.2 ar
 |var=>exact KA bT.1 bT.2 ar
 |mem n =>
  have bA:hB n=false:=by cases n <;> first |rfl |cases cP
  obtain ⟨h1,af,aB,bu⟩:=bT
  cases he:eV n with
  |true =>
   cases n <;> first |cases he |skip
   have dn:ec (.mem .e) (.key d) w=(some (.bb (w.getD .e).1),(w.getD .e).2,1):=rfl
   rw[dn] at ar ⊢
   exact fun g=>yP (jl ar) h1 (g p (Nat.le_refl _) (Nat.lt_add_of_pos_right (Nat.succ_pos _)) rfl).up
  |false =>
   have dn:ec (.mem n) (.key d) w=(none,(w.getD n).2.d3 (.mem (w.getD n).1 (.key d)),4):=by show (match eV n with |true=>_ |false=>_)=_;rw[he]
   rw[dn] at ar ⊢
   refine fun g=>nE (jl ar) bA he h1 ?_
   rw[C1]
   have ar:k+4≤3000:=ar
   exact X1 (k:=k+1) (by omega) rfl rfl af (X2 (k:=k+2) (by omega) aB (nD (k:=k+3) (by omega) bu g))
 |c6 a b =>
  obtain ⟨b2,bt⟩:=Bool.and_eq_true_iff.mp cP
  have KC:hB a=false:=by cases a <;> first |rfl |cases b2
  have Yc:hB b=false:=by cases b <;> first |rfl |cases bt
  obtain ⟨h1,af,aB,bu,dB,eB,eS⟩:=bT
  cases vy:eV a with
  |true =>
   cases a <;> first |cases vy |skip
   have dn:ec (.c6 .e b) (.key d) w=(some (.bb (w.getD .e).1),(w.getD .e).2,1):=rfl
   rw[dn] at ar ⊢
   exact fun g=>yP (jl ar) h1 (g p (Nat.le_refl _) (Nat.lt_add_of_pos_right (Nat.succ_pos _)) rfl).up
  |false =>
   cases C2:eV b with
   |true =>
    cases b <;> first |cases C2 |skip
    have dn:ec (.c6 a .e) (.key d) w=(some (.bb ((w.getD a).2.getD .e).1),((w.getD a).2.getD .e).2,2):=by show (match eV a with |true=>_ |false=>_)=_;rw[vy];rfl
    rw[dn] at ar ⊢
    refine fun g=>nE (jl ar) KC vy h1 (yP ar af ?_)
    rw[C1];exact (g (p+1) (Nat.le_succ _) (Nat.add_lt_add_left (by decide:1<7) p) rfl).up
   |false =>
    have dn:ec (.c6 a b) (.key d) w=(none,((w.getD a).2.getD b).2.d3 (.c6 (w.getD a).1 ((w.getD a).2.getD b).1 (.key d)),7):=by show (match eV a with |true=>_ |false=>match eV b with |true=>_ |false=>_)=_;rw[vy,C2]
    rw[dn] at ar ⊢
    refine fun g=>nE (jl ar) KC vy h1 (nE (k:=k+1) (by have ar:k+7≤3000:=ar;omega) Yc C2 af ?_)
    rw[C1,List.append_assoc]
    have ar:k+7≤3000:=ar
    exact XW (k:=k+2) (by omega) aB (Kv (k:=k+3) (by omega) rfl rfl rfl bu (Kv (k:=k+4) (by omega) rfl rfl rfl dB (X3 (k:=k+5) (by omega) eB (nD (k:=k+6) (by omega) eS g))))
noncomputable def j3 (X:gQ) (t:bF):Prop:=∀(p:Nat) (st:List ck) (w:aQ) (k:Nat) (out:V) (wf:aQ) (pre post:List cS),At X.C X.K t p→X.hl=pre++(ak t p st.length++post)→(∀ h∈pre,h.j≤p)→k+(cw t w).2.2≤3000 →
 Ok X out wf p (p+bD t) (ak t p st.length) st (fun k w=>Run X out wf k (p+bD t) st w) k (cw t w) (Run X out wf k p st w)
theorem mF:r.2.2≤(r.seq c f).2.2:=by
 obtain ⟨o,w1,n⟩:=r
 cases o with
 |none=>exact Nat.le_trans (Nat.le_add_right n c) (Nat.le_add_right _ _)
 |some v=>exact Nat.le_refl _
theorem vz (h:kK nm=true):eV nm=false:=by cases nm <;> first |rfl |cases h
theorem KD (bt:j3 X b) (bc:kK nm=true) (eX:At X.C X.K (.du nm b) p) (bY:X.hl=pre++(ak b (p+2) st.length++post)) (a3:∀ h∈pre,h.j≤p+2):∀(fuel:Nat) (w:aQ) (k:Nat),w.left.length<fuel→k+(d4 (cw b) nm fuel w).2.2≤3000 →
 Ok X out wf p (p+bD (.du nm b)) (ak b (p+2) st.length) st (fun k w=>Run X out wf k (p+bD (.du nm b)) st w) k (d4 (cw b) nm fuel w) (Run X out wf k p st w)
 |fuel+1,w,k,hf,ar=>by
  obtain ⟨h1,af,aB,bu⟩:=eX
  have bA:=sF bc
  have he:=vz bc
  have key:(w.getD nm).1≠.z→k+((((cw b (w.getD nm).2).seq 1 (d4 (cw b) nm fuel))).more 2).2.2≤3000 →
   Ok X out wf p (p+bD (.du nm b)) (ak b (p+2) st.length) st (fun k w=>Run X out wf k (p+bD (.du nm b)) st w) k ((((cw b (w.getD nm).2).seq 1 (d4 (cw b) nm fuel))).more 2) (Run X out wf k p st w):=fun hd ar=>by
   have ar:k+(2+((cw b (w.getD nm).2).seq 1 (d4 (cw b) nm fuel)).2.2)≤3000:=ar
   have aK:=mF (r:=cw b (w.getD nm).2) (c:=1) (f:=d4 (cw b) nm fuel)
   have nF:=bt (p+2) st (w.getD nm).2 (k+2) out wf pre post aB bY a3 (by omega)
   have lf:=vh w nm hd
   refine (Ok.seq (nF.wide (Nat.le_add_right _ _) (by simp only[mx,my,jW];omega) fun _ _ _ h=>h) fun w1 n e=>?_).more fun g=>nE (by omega) bA he h1 (X6 (k:=k+1) (by omega) hd af g)
   rw[e] at ar
   have ar:k+(2+(n+1+(d4 (cw b) nm fuel w1).2.2))≤3000:=ar
   have l1:(cw b (w.getD nm).2).2.1.left.length≤_:=(ny Kz b (w.getD nm).2).le
   rw[e] at l1
   have l1:w1.left.length≤(w.getD nm).2.left.length:=l1
   exact (KD bt bc ⟨h1,af,aB,bu⟩ bY a3 fuel w1 (k+2+(n+1)) (by omega) (by omega)).imp fun g=>yQ (k:=k+2+n) (by omega) (bu (vx e)) g
  have dn:d4 (cw b) nm (fuel+1) w=match (w.getD nm).1 with |.z=>(none,(w.getD nm).2,2) |_=>(((cw b (w.getD nm).2).seq 1 (d4 (cw b) nm fuel))).more 2:=rfl
  rw[dn] at ar ⊢
  cases hd:(w.getD nm).1 with
  |z =>
   rw[hd] at ar
   refine fun g=>nE (jl ar) bA he h1 ?_
   rw[hd]
   exact X5 ar af g
  |o=>rw[hd] at ar;exact key (by rw[hd];exact b0.noConfusion) ar
  |t=>rw[hd] at ar;exact key (by rw[hd];exact b0.noConfusion) ar
end
section
variable {X:gQ}{w w' : aQ}{out:V}{wf:aQ}{p q e:Nat}{l jV pre post:List cS}{st ex:List ck}{k c n:Nat}{r:Rs}{S aT:Prop}{v:b5}{f:aQ→Rs}{nm:b9}{t:dF}{b:bF}{d:b0}
theorem KG (bt:j3 X b) (cP:oO t=true) (eX:At X.C X.K (.fin t nm b) p) (bY:X.hl=pre++(ak b (p+3+fJ t) ((st.length:Nat)+1)++post)) (a3:∀ h∈pre,h.j≤p+3+fJ t) (a:Nat):∀(b6:List b0) (w:aQ) (k:Nat),k+(dQ (cw b) t b6 w).2.2≤3000 →
 Ok X out wf p (p+bD (.fin t nm b)) (ak b (p+3+fJ t) ((st.length:Nat)+1)) st (fun k w=>Run X out wf k (p+bD (.fin t nm b)) st w) k (dQ (cw b) t b6 w) (Run X out wf k (p+2) (st++[.k a b6]) w)
 |[],w,k,ar=>by
  obtain ⟨h1,af,aB,bu,dB,eB,eS⟩:=eX
  exact fun g=>X8 (jl ar) aB (nD (k:=k+1) ar eS (by
   have e:p+(3+fJ t+bD b+(op b).toNat)+1=p+bD (.fin t nm b):=by simp only[mx,my,jW];omega
   rw[e];exact g))
 |d::b6,w,k,ar=>by
  obtain ⟨h1,af,aB,bu,dB,eB,eS⟩:=eX
  have fP:(st++[ck.k a b6]).length=st.length+1:=hW
  have ar:k+(1+((ec t (.key d) w).seq 0 fun w1=>(cw b w1).seq 1 (dQ (cw b) t b6)).2.2)≤3000:=ar
  have aK:=mF (r:=ec t (.key d) w) (c:=0) (f:=fun w1=>(cw b w1).seq 1 (dQ (cw b) t b6))
  have to:=(Yb (X:=X) (out:=out) (wf:=wf) (d:=d) (st:=st++[.k a b6]) (k:=k+1) bu cP (w:=w) (by omega)).up
  refine (Ok.seq (to.wide (e:=p+bD (.fin t nm b)) (l:=ak b (p+3+fJ t) ((st.length:Nat)+1)) (show p≤p+3 by omega) (by simp only[mx,my,jW];omega) fun q _ af _=>vu fun h m=>.inl (Nat.lt_of_lt_of_le af (vw b _ _ h m).1)) fun w1 n ao=>?_).more fun g=>X9 (by omega) aB g
  rw[ao] at ar
  have ar:k+(1+(n+0+((cw b w1).seq 1 (dQ (cw b) t b6)).2.2))≤3000:=ar
  have bw:=mF (r:=cw b w1) (c:=1) (f:=dQ (cw b) t b6)
  have nF:=bt (p+3+fJ t) (st++[.k a b6]) w1 (k+1+(n+0)) out wf pre post dB (by rw[fP];exact bY) a3 (by omega)
  rw[fP] at nF
  refine Ok.seq (nF.up.wide (Nat.le_trans (Nat.le_add_right _ _) (Nat.le_add_right _ _)) (by simp only[mx,my,jW];omega) fun _ _ _ h=>h) fun eJ a4 aC=>?_
  rw[aC] at ar
  have ar:k+(1+(n+0+(a4+1+(dQ (cw b) t b6 eJ).2.2)))≤3000:=ar
  exact (KG bt cP ⟨h1,af,aB,bu,dB,eB,eS⟩ bY a3 a b6 eJ (k+1+(n+0)+(a4+1)) (by omega)).imp fun g=>yQ (k:=k+1+(n+0)+a4) (by omega) (eB (vx aC)) g
theorem Yd (bt:j3 X b) (cP:oO t=true) (bc:kK nm=true):j3 X (.fin t nm b):=fun p st w k out wf pre post eX bY a3 ar=>by
 have ar:k+(2+(dQ (cw b) t (keysOf (w.getD nm).1) (w.getD nm).2).2.2)≤3000:=ar
 have go:=fun a=>KG (X:=X) (out:=out) (wf:=wf) (pre:=pre) (post:=post) bt cP eX bY (fun h m=>Nat.le_trans (a3 h m) (Nat.le_trans (Nat.le_add_right _ _) (Nat.le_add_right _ _))) a (keysOf (w.getD nm).1) (w.getD nm).2 (k+2) (by omega)
 obtain ⟨h1,af,aB,bu,dB,eB,eS⟩:=eX
 exact (Ok.all go).more fun g=>nE (by omega) (sF bc) (vz bc) h1 (X4 (k:=k+1) (by omega) af g)
theorem Ye (bt:j3 X b) (bc:kK nm=true):j3 X (.du nm b):=fun p st w k out wf pre post eX bY a3 ar =>
 KD bt bc eX bY (fun h m=>Nat.le_trans (a3 h m) (Nat.le_add_right _ _)) (w.left.length+1) w k (Nat.lt_succ_self _) ar
theorem Yf {b c:bF}(bt:j3 X b) (aw:j3 X c):j3 X (.dg b c):=fun p st w k out wf pre post eX bY a3 ar=>by
 obtain ⟨h1,af,aB,bu,dB,eB,eS⟩:=eX
 have ar:k+(jX aQ.lA (cw b w) (cw c)).2.2≤3000:=ar
 show Ok X out wf p (p+bD (.dg b c)) _ st _ k (jX aQ.lA (cw b w) (cw c)) _
 have ZJ:p+bD b≤p+bD (.dg b c):=by simp only[mx,my,jW];omega
 have ao:X.hl=pre++(ak b p st.length++((⟨p,p+bD b,p+bD b+(op b).toNat,(st.length:Nat)⟩::ak c (p+bD b+(op b).toNat+3) st.length)++post)):=by
  rw[bY];simp only[Ct,List.append_assoc,List.cons_append]
 have cost:(cw b w).2.2≤(jX aQ.lA (cw b w) (cw c)).2.2:=by
  generalize cw b w=r
  obtain ⟨o,w1,n⟩:=r
  cases o with
  |none=>exact Nat.le_succ n
  |some v=>exact Nat.le_trans (Nat.le_add_right n 3) (Nat.le_add_right _ _)
 have nF:=bt p st w k out wf pre _ h1 ao a3 (by omega)
 have aa:∀{w1 n},cw b w=(none,w1,n)→op b=true:=vx
 generalize cw b w=r at *
 obtain ⟨o,w1,n⟩:=r
 cases o with
 |none =>
  have ar:k+(n+1)≤3000:=ar
  exact fun g=>nF (yQ (k:=k+n) (by omega) (af (aa rfl)) g)
 |some v =>
  have ar:k+(n+3+((cw c (w1.lA v)).seq 1 fun w=>(none,w,0)).2.2)≤3000:=ar
  have aK:=mF (r:=cw c (w1.lA v)) (c:=1) (f:=fun w=>(none,w,0))
  have KH:=vw b p st.length
  have co:=aw (p+bD b+(op b).toNat+3) st (w1.lA v) (k+(n+3)) out wf (pre++(ak b p st.length++[⟨p,p+bD b,p+bD b+(op b).toNat,(st.length:Nat)⟩])) post eB (by rw[ao];simp only[List.append_assoc,List.cons_append,List.nil_append]) (fun h m=>by
   rcases List.mem_append.mp m with m |m
   ·exact Nat.le_trans (a3 h m) (by omega)
   ·rcases List.mem_append.mp m with m |m
    ·exact Nat.le_trans (KH h m).2 (by omega)
    ·rw[List.mem_singleton.mp m];show p+bD b≤_;omega) (by omega)
  have uZ:=co.wide (p:=p) (e:=p+bD (.dg b c)) (l:=ak (.dg b c) p st.length) (by omega) (by simp only[mx,my,jW];omega) fun q a1 a2 hz=>by
   rw[Ct,vv (vu fun h m=>.inr (Nat.le_trans (KH h m).2 (by omega))),vt,if_neg (by dsimp only;omega)]
   exact hz
  refine (Ok.seq (N:=fun k w=>Run X out wf k (p+bD (.dg b c)) st w) uZ fun eJ a4 aC=>?_).more fun g=>nF fun q a1 a2 hz=>?_
  ·rw[aC] at ar
   have ar:k+(n+3+(a4+1+0))≤3000:=ar
   exact fun g=>yQ (k:=k+(n+3)+a4) (by omega) (eS (vx aC)) g
  ·have nC:fk X.hl q=some (p+bD b+(op b).toNat,((st.length:Nat):Int)):=by
    rw[ao,vv (vu fun h m=>.inr (Nat.le_trans (a3 h m) a1)),vv hz,List.cons_append,vt,if_pos ⟨a1,a2⟩]
   unfold ly
   rw[nC]
   refine ⟨st.length,rfl,Nat.le_refl _,?_⟩
   rw[List.take_length]
   exact XZ (k:=k+n) (by omega) aB (Ku (n:=.x) (k:=k+n+1) (by omega) bu (nD (k:=k+n+2) (by omega) dB g))
theorem Yg {b c:bF}(bt:j3 X b) (aw:j3 X c):j3 X (.two b c):=fun p st w k out wf pre post eX bY a3 ar=>by
 have ar:k+((cw b w).seq 0 (cw c)).2.2≤3000:=ar
 have aK:=mF (r:=cw b w) (c:=0) (f:=cw c)
 show Ok X out wf p (p+bD (.two b c)) _ st _ k ((cw b w).seq 0 (cw c)) _
 cases aa:op b with
 |true =>
  have hM:bD (.two b c)=bD b+bD c:=yh aa
  have C3:ak (.two b c) p st.length=ak b p st.length++ak c (p+bD b) st.length:=yj aa
  rw[C3] at bY ⊢
  rw[hM]
  have nF:=bt p st w k out wf pre (ak c (p+bD b) st.length++post) eX.1 (by rw[bY,List.append_assoc]) a3 (by omega)
  refine Ok.seq (nF.wide (Nat.le_refl _) (by omega) fun q _ af aB=>by rw[vv aB];exact vu fun h m=>.inl (Nat.lt_of_lt_of_le af (vw c _ _ h m).1)) fun w1 n e=>?_
  rw[e] at ar
  have ar:k+(n+0+(cw c w1).2.2)≤3000:=ar
  have co:=aw (p+bD b) st w1 (k+(n+0)) out wf (pre++ak b p st.length) post (eX.2 aa) (by rw[bY];simp only[List.append_assoc]) (fun h m=>by
   rcases List.mem_append.mp m with m |m
   ·exact Nat.le_trans (a3 h m) (Nat.le_add_right _ _)
   ·exact (vw b p _ h m).2) (by omega)
  rw[Nat.add_assoc p] at co
  exact co.wide (Nat.le_add_right _ _) (Nat.le_refl _) fun q h1 _ aB=>by rw[vv (vu fun h m=>.inr (Nat.le_trans (vw b p _ h m).2 h1))];exact aB
 |false =>
  have hM:bD (.two b c)=bD b:=yi aa
  have C3:ak (.two b c) p st.length=ak b p st.length:=yk aa
  rw[C3] at bY ⊢
  rw[hM]
  exact Ok.seq (bt p st w k out wf pre post eX.1 bY a3 (by omega)) fun w1 n e=>absurd (vx e) (by rw[aa];exact Bool.noConfusion)
theorem qp:∀ t:bF,good t=true→j3 X t
 |.b7 n,_=>fun p st w k out wf pre post eX bY a3 ar=>by
  cases n with
  |x=>exact fun g H am ρ ls x is aP=>X0 (jl ar) (List.getElem?_eq_getElem x.wr.cur) eX.1 (nD ar eX.2 g) H am ρ ls x is aP
  |e=>exact fun g=>yP (jl ar) eX.1 (g p (Nat.le_refl _) (Nat.lt_add_of_pos_right (Nat.succ_pos _)) rfl)
  |t=>exact fun g=>nE (jl ar) rfl rfl eX.1 (nD ar eX.2 g)
  |u=>exact fun g=>nE (jl ar) rfl rfl eX.1 (nD ar eX.2 g)
 |.el,_=>fun p st w k out wf pre post eX bY a3 ar=>by
  obtain ⟨⟨i,h1⟩,af⟩:=eX
  exact fun g=>XY (jl ar) h1 (nD ar af g)
 |.ff c,h=>fun p st w k out wf pre post eX bY a3 ar=>by
  have aw:c=7∨c=8∨c=9:=by
   have h:(decide (c=7) || (decide (c=8) || decide (c=9)))=true:=h
   simpa using h
  exact fun g=>XX (jl ar) aw eX.1 (X7 ar eX.2 (g (p+1) (Nat.le_succ _) (Nat.lt_succ_self _) rfl))
 |.du n b,h=>by
  obtain ⟨h1,af⟩:=Bool.and_eq_true_iff.mp h
  exact Ye (qp b af) h1
 |.fin t n b,h=>by
  obtain ⟨h1,af⟩:=Bool.and_eq_true_iff.mp h
  obtain ⟨af,aB⟩:=Bool.and_eq_true_iff.mp af
  exact Yd (qp b aB) h1 af
 |.dg b c,h=>by
  obtain ⟨h1,af⟩:=Bool.and_eq_true_iff.mp h
  exact Yf (qp b h1) (qp c af)
 |.two b c,h=>by
  obtain ⟨h1,af⟩:=Bool.and_eq_true_iff.mp h
  exact Yg (qp b h1) (qp c af)
end
noncomputable def isKey:b5→Bool
 |.key _=>true |_=>false
noncomputable def keepR:Row→Bool
 |.b7 .x v=>isKey v |_=>true
structure ep (w b1:aQ):Prop where
 left:b1.left=w.left
 cells:b1.cells=w.cells
 cur:b1.cur=w.cur
 held:b1.held=w.held
 seen:b1.seen.filter keepR=w.seen
 ok:w.cur<w.cells.length
section
variable {X:gQ}{w b1 w' : aQ}{out:V}{wf:aQ}{p q e p' c9:Nat}{l jV:List cS}{st ex:List ck}{N CZ:Nat→aQ→Prop}{k c n:Nat}{r:Rs}{S aT:Prop}{v:b5}{f:aQ→Rs}{rw' : Row}{nm:b9}
theorem ep.d3 (x:ep w b1) (h:keepR rw'=true):ep (w.d3 rw') (b1.d3 rw'):=⟨x.left,x.cells,x.cur,x.held,by
 show (b1.seen++[rw']).filter keepR=w.seen++[rw']
 rw[List.filter_append,x.seen,List.filter_cons_of_pos h];rfl,x.ok⟩
theorem ep.hA (x:ep w b1):b1.hA.1=w.hA.1∧ep w.hA.2 b1.hA.2:=by
 obtain ⟨Xm,lf,ce,Xn,he⟩:=w
 obtain ⟨ZK,Yh,ZL,ZM,oh⟩:=b1
 have h:=x.left
 dsimp only at h
 subst h
 cases Yh with
 |nil=>exact ⟨rfl,x⟩
 |cons d r=>exact ⟨rfl,rfl,x.cells,x.cur,x.held,x.seen,x.ok⟩
theorem ep.getD (x:ep w b1) (n:b9):(b1.getD n).1=(w.getD n).1∧ep (w.getD n).2 (b1.getD n).2:=(x.d3 (rw':=.get n) rfl).hA
theorem ep.put (x:ep w b1):ep (w.put v) (b1.put v):=⟨x.left,by show b1.cells.set b1.cur v=w.cells.set w.cur v;rw[x.cells,x.cur],x.cur,x.held,x.seen,by show w.cur<(w.cells.set w.cur v).length;rw[List.length_set];exact x.ok⟩
theorem ep.row (x:ep w b1) (h:keepR rw'=true):ep (w.row rw') (b1.row rw'):=by
 unfold aQ.row
 split
 ·exact x.put.d3 h
 ·exact x.d3 h
theorem ep.hold (x:ep w b1):ep w.hold b1.hold:=⟨x.left,x.cells,x.cur,by show b1.held++[b1.cur]=w.held++[w.cur];rw[x.held,x.cur],x.seen,x.ok⟩
theorem ep.Yi (x:ep w b1) (h:isKey v=false):ep (w.fresh v) ((b1.fresh .un).row (.b7 .x v)):=by
 refine ⟨x.left,?_,?_,x.held,?_,?_⟩
 ·show (b1.cells++[b5.un]).set b1.cells.length v=w.cells++[v]
  rw[x.cells];simp
 ·show b1.cells.length=w.cells.length;rw[x.cells]
 ·show (b1.seen++[Row.b7 .x v]).filter keepR=w.seen
  rw[List.filter_append,x.seen,List.filter_cons_of_neg (by show ¬ isKey v=true;rw[h];exact Bool.noConfusion)];simp
 ·show w.cells.length<(w.cells++[v]).length;simp
structure RR (r aE:Rs):Prop where
 f:aE.1=r.1
 w:ep r.2.1 aE.2.1
 c:aE.2.2=r.2.2
 k:∀ v,r.1=some v→isKey v=false
variable {aE:Rs}{sO:aQ→Rs}
theorem RR.more (x:RR r aE):RR (r.more c) (aE.more c):=⟨x.f,x.w,congrArg (c + ·) x.c,x.k⟩
theorem RR.seq (x:RR r aE) (y:∀ w b1,ep w b1→RR (f w) (sO b1)):RR (r.seq c f) (aE.seq c sO):=by
 obtain ⟨o,w1,n⟩:=r
 obtain ⟨o',Yj,wV⟩:=aE
 obtain ⟨h1,af,aB,bu⟩:=x
 dsimp only at h1 af aB bu
 subst h1
 subst aB
 cases o' with
 |none=>exact (y _ _ af).more
 |some v=>exact ⟨rfl,af,rfl,bu⟩
theorem RR.of (x:ep w b1) {n:Nat}:RR (none,w,n) (none,b1,n):=⟨rfl,x,rfl,fun _ h=>nomatch h⟩
theorem RR.vA (x:ep w b1) {n:Nat}(h:isKey v=false):RR (some v,w,n) (some v,b1,n):=⟨rfl,x,rfl,fun _ e=>by cases e;exact h⟩
theorem KI (h:∀ w b1,ep w b1→RR (f w) (sO b1)):∀(k:Nat) (w b1:aQ),ep w b1→RR (d4 f nm k w) (d4 sO nm k b1)
 |0,w,b1,x=>.of x
 |k+1,w,b1,x=>by
  obtain ⟨e,y⟩:=x.getD nm
  unfold d4
  rw[e]
  have key:=(RR.seq (c:=1) (h _ _ y) (KI h k)).more (c:=2)
  cases (w.getD nm).1 with
  |z=>exact .of y
  |o=>exact key
  |t=>exact key
theorem Yk (t:dF) (d:b0) (x:ep w b1):RR (ec t (.key d) w) (ec t (.key d) b1):=by
 have st:∀ n:fT,RR (none,w.sets n (.key d),2) (none,b1.sets n (.key d),2):=fun n=>by
  have e:∀ w:aQ,w.sets n (.key d)=w.row (.b7 n (.key d)):=fun w=>by cases n <;> rfl
  rw[e,e];exact .of (x.row (by cases n <;> rfl))
 cases t with
 |b7 n=>exact st n
 |var=>exact st .w
 |mem n =>
  obtain ⟨e,y⟩:=x.getD n
  unfold ec
  dsimp only
  rw[e]
  cases eV n with
  |true=>exact .vA y rfl
  |false=>exact .of (y.d3 rfl)
 |c6 a b =>
  obtain ⟨e,y⟩:=x.getD a
  obtain ⟨aC,dC⟩:=y.getD b
  unfold ec
  dsimp only
  rw[e,aC]
  cases eV a with
  |true=>exact .vA y rfl
  |false =>
   cases eV b with
   |true=>exact .vA dC rfl
   |false=>exact .of (dC.d3 rfl)
theorem KJ (h:∀ w b1,ep w b1→RR (f w) (sO b1)) (t:dF):∀(b6:List b0) (w b1:aQ),ep w b1→RR (dQ f t b6 w) (dQ sO t b6 b1)
 |[],w,b1,x=>.of x
 |k::r,w,b1,x=>(RR.seq (c:=0) (Yk t k x) fun w1 ZN y=>RR.seq (c:=1) (h _ _ y) (KJ h t r)).more (c:=1)
theorem qq:∀(t:bF) (w b1:aQ),ep w b1→RR (a8 t w) (cw t b1)
 |.b7 n,w,b1,x=>by
  show RR (vf n w) (vf n b1)
  unfold vf
  cases n with
  |x=>exact .of (x.d3 rfl)
  |e =>
   obtain ⟨e,y⟩:=x.getD .e
   dsimp only
   rw[e];exact .vA y rfl
  |t=>exact .of (x.getD .t).2
  |u=>exact .of (x.getD .u).2
 |.el,w,b1,x=>.of x.hold
 |.ff k,w,b1,x=>.vA x (by unfold vg;split <;> rfl)
 |.du n b,w,b1,x=>by
  show RR (d4 (a8 b) n (w.left.length+1) w) (d4 (cw b) n (b1.left.length+1) b1)
  rw[x.left];exact KI (qq b) _ w b1 x
 |.fin t n b,w,b1,x=>by
  obtain ⟨e,y⟩:=x.getD n
  show RR ((dQ (a8 b) t (keysOf (w.getD n).1) (w.getD n).2).more 2) ((dQ (cw b) t (keysOf (b1.getD n).1) (b1.getD n).2).more 2)
  rw[e];exact (KJ (qq b) t _ _ _ y).more
 |.dg b c,w,b1,x=>by
  have h:=qq b w b1 x
  show RR (jX aQ.fresh (a8 b w) (a8 c)) (jX aQ.lA (cw b b1) (cw c))
  generalize a8 b w=r at *
  generalize cw b b1=aE at *
  obtain ⟨o,w1,n⟩:=r
  obtain ⟨o',Yj,wV⟩:=aE
  obtain ⟨h1,af,aB,bu⟩:=h
  dsimp only at h1 af aB bu
  subst h1
  subst aB
  cases o' with
  |none=>exact .of af
  |some v=>exact (RR.seq (c:=1) (qq c _ _ (af.Yi (bu v rfl))) fun w b1 y=>.of y).more
 |.two a b,w,b1,x=>RR.seq (c:=0) (qq a w b1 x) (qq b)
end
structure fM (q:Nat) (H:List aj) (w:aQ) (ρ:Nat→cn) (r:Rs) (H' : List aj) (bW:Nat→Nat) (ρ' : Nat→cn):Prop where
 wr:cK q H' r.2.1 bW ρ'
 d5:fj ρ H H'
 ex:gA ρ ρ' H
 s:r.2.1.seen.length≤w.seen.length+r.2.2
 h:r.2.1.held.length≤w.held.length+r.2.2
noncomputable def dM (w:aQ) (c:Nat):Prop:=w.seen.length+c≤3000∧w.held.length+c≤3000
noncomputable def fN:Option b5→V
 |none=>.none
 |some v=>v.V
noncomputable abbrev yS (ls:List (Str×V)):a5:=⟨tn.scope,[],none,ls⟩
section
variable {q c m:Nat}{H H' H1 H2:List aj}{w w' : aQ}{am bW:Nat→Nat}{ρ ρ' mA:Nat→cn}{t:dF}{d o:b0}{n:b9}{r:Rs}{f:aQ→Rs}{ls:List (Str×V)}{v:V}
theorem dM.lt (x:dM w (c+1)):w.seen.length<aL∧w.held.length<aL:=by
 obtain ⟨a,b⟩:=x
 exact ⟨Nat.lt_of_le_of_lt (Nat.le_trans (Nat.le_add_right _ _) a) (by decide),Nat.lt_of_le_of_lt (Nat.le_trans (Nat.le_add_right _ _) b) (by decide)⟩
theorem Yl (n:b9) (d:b0):sH n d=.tup [(fL n d).V,gj n d]:=by unfold sH fL gj;cases eV n <;> rfl
theorem qr (x:cK q H w am ρ) (ak:w.seen.length<aL) (bc:hB n=false):gi (fun H'=>aq 5 (.obj (.ref 897)) [.ref (q+4),.str n.s] H (.tup [(fL n (w.getD n).1).V,gj n (w.getD n).1]) H') fun H'=>cK q H' (w.getD n).2 am ρ∧fj ρ H H':=by
 rw[←Yl];exact J1 x ak bc
noncomputable abbrev oU (q:Nat) (t:dF) (d:b0) (r:List (Str×V)):List (Str×V):=(dq,.ref (q+4))::(ht,c7 t)::(oS,(b5.key d).V)::r
theorem qs (g:ab 8 (yS (oU q t d [])) qN.1 H (.ret v) ls H'):aq 9 (.obj (.ref 911)) [.ref (q+4),c7 t,(b5.key d).V] H v H' :=
 aq.hP (fi:=⟨tn,[dq,ht,oS],[],qN.1,none,false⟩) (vs:=[.ref (q+4),c7 t,(b5.key d).V]) (cN:=oU q t d []) (by kernel_rfl) rfl (by kernel_rfl) rfl (by kernel_rfl) g
theorem sP:(w.getD n).2.seen.length≤w.seen.length+1∧(w.getD n).2.held.length≤w.held.length:=⟨CX n,Nat.le_of_eq (congrArg List.length (CY n))⟩
theorem C4 (n:fT) (v:b5):w.sets n v=w.row (.b7 n v):=by cases n <;> rfl
theorem KL {n:fT}(t:dF) (bT:c7 t=c7 (.b7 n)∨c7 t=c7 .var∧n=.w) (x:cK q H w am ρ) (ak:dM w 2):gi (fun H'=>aq 9 (.obj (.ref 911)) [.ref (q+4),c7 t,(b5.key d).V] H .none H') fun H'=>fM q H w ρ (none,w.sets n (.key d),2) H' am ρ:=by
 obtain ⟨H',g,y,k⟩:=qk (r:=.b7 n (.key d)) x ak.lt.1 rfl
 have g:=g.mono (by decide:6≤8)
 refine ⟨H',?_,⟨by rw[C4];exact y,k,.refl,by rw[C4];exact Nat.le_trans (Nat.le_of_eq (sL _)) (Nat.le_succ _),by rw[C4];exact Nat.le_trans (Nat.le_of_eq (congrArg List.length (yO _))) (Nat.le_add_right _ _)⟩⟩
 rcases bT with e |⟨e,rfl⟩
 ·have:=qs (v:=.none) (q:=q) (t:=.b7 n) (d:=d) (ab.stop (ah.cm I (ab.cons (ah.expr (ai.bI (g:=.obj (.ref 904)) (vs:=[.ref (q+4),.tup [.str ei,.str n.s],(b5.key d).V]) I (GE.cons I (GE.cons (ai.tup (GE.cons I (GE.cons (ai.cm I I) GE.nil))) I)) g)) (ab.ret (ah.ret I)))) (by intro z;cases z))
  rw[e];exact this
 ·have:=qs (v:=.none) (q:=q) (t:=.var) (d:=d) (ab.stop (ah.cm I (ab.cons (ah.expr (ai.bI (g:=.obj (.ref 904)) (vs:=[.ref (q+4),.tup [.str ei,.str m6],(b5.key d).V]) I (GE.cons I (GE.cons (ai.tup (GE.cons I (GE.cons (ai.iff I I) GE.nil))) I)) g)) (ab.ret (ah.ret I)))) (by intro z;cases z))
  rw[e];exact this
theorem Ym (bc:hB n=false) (x:cK q H w am ρ) (ak:dM w (ec (.mem n) (.key d) w).2.2):gi (fun H'=>aq 9 (.obj (.ref 911)) [.ref (q+4),c7 (.mem n),(b5.key d).V] H (fN (ec (.mem n) (.key d) w).1) H') fun H'=>fM q H w ρ (ec (.mem n) (.key d) w) H' am ρ:=by
 unfold ec at ak ⊢
 dsimp only at ak ⊢
 have lt:w.seen.length<aL:=by cases he:eV n <;> rw[he] at ak <;> exact ak.lt.1
 obtain ⟨H1,g,y,k⟩:=qr x lt bc
 obtain ⟨dj,et⟩:=sP (w:=w) (n:=n)
 have s1:ah 8 (yS (oU q (.mem n) d [])) (bQ qN.1 1) H .next (oU q (.mem n) d [(lb,(fL n (w.getD n).1).V),(dd,gj n (w.getD n).1)]) H1 :=
  ah.assign (ai.bI (g:=.obj (.ref 897)) (vs:=[.ref (q+4),.str n.s]) I I (g.mono (by decide))) I
 unfold fL gj at s1
 cases he:eV n with
 |true =>
  rw[he] at s1 ak
  exact ⟨H1,qs (ab.cons (ah.iff I ab.nil) (ab.cons s1 (ab.stop (ah.cm (GT.BA I) (ab.cons (ah.iff I ab.nil) (ab.ret (ah.ret I)))) (by intro z;cases z)))),y,k,.refl,dj,Nat.le_trans et (Nat.le_add_right _ _)⟩
 |false =>
  rw[he] at s1 ak
  have ak:dM w 4:=ak
  obtain ⟨H2,g2,dC,eu⟩:=qk (r:=.mem (w.getD n).1 (.key d)) y (Nat.lt_of_le_of_lt dj (CW (qm (k:=3000) (Nat.le_trans (Nat.le_add_right _ _) ak.1) (Nat.le_refl _)))) rfl
  refine ⟨H2,qs (ab.cons (ah.iff I ab.nil) (ab.cons s1 (ab.stop (ah.cm (GT.uC I I) (ab.cons (ah.cm I (ab.one (ah.expr (ai.bI (g:=.obj (.ref 904)) (vs:=[.ref (q+4),.tup [.str sC,cg (w.getD n).1,.str iJ],(b5.key d).V]) I I (g2.mono (by decide)))))) (ab.ret (ah.ret I)))) (by intro z;cases z)))),dC,k.trans .refl eu,.refl,?_,?_⟩
  ·exact Nat.le_trans (Nat.le_of_eq (sL (.mem (w.getD n).1 (.key d)))) (Nat.le_trans (Nat.add_le_add_right dj 1) (Nat.add_le_add_left (by decide:2≤4) _))
  ·exact Nat.le_trans et (Nat.le_add_right _ _)
theorem Yn {a b:b9}(b2:hB a=false) (bt:hB b=false) (x:cK q H w am ρ) (ak:dM w (ec (.c6 a b) (.key d) w).2.2):gi (fun H'=>aq 9 (.obj (.ref 911)) [.ref (q+4),c7 (.c6 a b),(b5.key d).V] H (fN (ec (.c6 a b) (.key d) w).1) H') fun H'=>fM q H w ρ (ec (.c6 a b) (.key d) w) H' am ρ:=by
 unfold ec at ak ⊢
 dsimp only at ak ⊢
 have lt:w.seen.length<aL:=by cases he:eV a <;> cases sQ:eV b <;> rw[he] at ak <;> (try rw[sQ] at ak) <;> exact ak.lt.1
 obtain ⟨H1,g,y,k⟩:=qr x lt b2
 obtain ⟨dj,et⟩:=sP (w:=w) (n:=a)
 obtain ⟨ko,n5⟩:=sP (w:=(w.getD a).2) (n:=b)
 have s1:ah 8 (yS (oU q (.c6 a b) d [])) (bQ qN.1 1) H .next (oU q (.c6 a b) d [(lb,(fL a (w.getD a).1).V),(dd,gj a (w.getD a).1)]) H1 :=
  ah.assign (ai.bI (g:=.obj (.ref 897)) (vs:=[.ref (q+4),.str a.s]) I I (g.mono (by decide))) I
 unfold fL gj at s1
 cases he:eV a with
 |true =>
  rw[he] at s1 ak
  exact ⟨H1,qs (ab.cons (ah.iff I ab.nil) (ab.cons s1 (ab.stop (ah.cm (GT.BA I) (ab.cons (ah.iff I ab.nil) (ab.ret (ah.ret I)))) (by intro z;cases z)))),y,k,.refl,dj,Nat.le_trans et (Nat.le_add_right _ _)⟩
 |false =>
  rw[he] at s1 ak
  have l2:(w.getD a).2.seen.length<aL:=Nat.lt_of_le_of_lt dj (CW (qm (k:=3000) (by cases sQ:eV b <;> rw[sQ] at ak <;> exact Nat.le_trans (Nat.le_add_right _ _) ak.1) (Nat.le_refl _)))
  obtain ⟨H2,g2,dC,eu⟩:=qr y l2 bt
  have s2:ah 8 (yS (oU q (.c6 a b) d [(lb,cg (w.getD a).1),(dd,.none)])) (bQ qN.1 3) H1 .next (oU q (.c6 a b) d [(lb,cg (w.getD a).1),(dd,gj b ((w.getD a).2.getD b).1),(yH,(fL b ((w.getD a).2.getD b).1).V)]) H2 :=
   ah.assign (ai.bI (g:=.obj (.ref 897)) (vs:=[.ref (q+4),.str b.s]) I I (g2.mono (by decide))) I
  unfold fL gj at s2
  cases sQ:eV b with
  |true =>
   rw[sQ] at s2 ak
   exact ⟨H2,qs (ab.cons (ah.iff I ab.nil) (ab.cons s1 (ab.cons (ah.iff (GT.uC I I) ab.nil) (ab.cons s2 (ab.cons (ah.iff I ab.nil) (ab.ret (ah.ret I))))))),dC,k.trans .refl eu,.refl,Nat.le_trans ko (Nat.add_le_add_right dj 1),Nat.le_trans n5 (Nat.le_trans et (Nat.le_add_right _ _))⟩
  |false =>
   rw[sQ] at s2 ak
   have ak:dM w 7:=ak
   obtain ⟨H3,g3,gu,kO⟩:=qk (r:=.c6 (w.getD a).1 ((w.getD a).2.getD b).1 (.key d)) dC (Nat.lt_of_le_of_lt (Nat.le_trans ko (Nat.add_le_add_right dj 1)) (qm (k:=3000) (Nat.le_trans (Nat.le_add_right _ _) ak.1) (Nat.le_refl _))) rfl
   refine ⟨H3,qs (ab.cons (ah.iff I ab.nil) (ab.cons s1 (ab.cons (ah.iff (GT.uC I I) ab.nil) (ab.cons s2 (ab.cons (ah.cm I (ab.one (ah.expr (ai.bI (g:=.obj (.ref 904)) (vs:=[.ref (q+4),.tup [.str sD,cg (w.getD a).1,cg ((w.getD a).2.getD b).1],(b5.key d).V]) I I (g3.mono (by decide)))))) (ab.ret (ah.ret I))))))),gu,(k.trans .refl eu).trans .refl kO,.refl,?_,?_⟩
   ·exact Nat.le_trans (Nat.le_of_eq (sL (.c6 (w.getD a).1 ((w.getD a).2.getD b).1 (.key d)))) (Nat.le_trans (Nat.add_le_add_right (Nat.le_trans ko (Nat.add_le_add_right dj 1)) 1) (Nat.add_le_add_left (by decide:3≤7) _))
   ·exact Nat.le_trans n5 (Nat.le_trans et (Nat.le_add_right _ _))
theorem Yo (t:dF) (cP:oO t=true) (x:cK q H w am ρ) (ak:dM w (ec t (.key d) w).2.2):gi (fun H'=>aq 9 (.obj (.ref 911)) [.ref (q+4),c7 t,(b5.key d).V] H (fN (ec t (.key d) w).1) H') fun H'=>fM q H w ρ (ec t (.key d) w) H' am ρ:=by
 cases t with
 |b7 n=>exact KL _ (.inl rfl) x ak
 |var=>exact KL (n:=.w) _ (.inr ⟨rfl,rfl⟩) x ak
 |mem n=>exact Ym (by cases n <;> first |rfl |cases cP) x ak
 |c6 a b =>
  obtain ⟨b2,bt⟩:=Bool.and_eq_true_iff.mp cP
  exact Yn (by cases a <;> first |rfl |cases b2) (by cases b <;> first |rfl |cases bt) x ak
end
noncomputable abbrev Yp:Str:=⟨⟨[114,111,119,115]⟩⟩
noncomputable abbrev hh (ls:List (Str×V)):a5:=⟨tp.scope,[],none,ls⟩
noncomputable abbrev qt (ls:List (Str×V)):a5:=⟨qO.scope,[],none,ls⟩
noncomputable abbrev nG (q:Nat) (K:Str) (ps:List V) (sc:V) (r:List (Str×V)):List (Str×V):=(dq,.ref (q+4))::(cJ,eo K ps sc)::(c3,.str K)::(Yp,.aN ps)::r
structure vB (ρ:Nat→cn) (H:List aj) (nodes:V) (src:Src) (vs:List V):Prop where
 s:∀ H',fj ρ H H'→srcOf nodes ⟨H',True⟩=some src
 i:∀ H',fj ρ H H'→∀ k:Nat,itemAt src k H'=some vs[k]?
 t:∀ t,iY src t=true
noncomputable def iR (t:bF):Prop:=∀(q:Nat) (H:List aj) (w:aQ) (am:Nat→Nat) (ρ:Nat→cn),cK q H w am ρ→dM w (a8 t w).2.2→mB (fun H' bW ρ'=>aq (bV t) (.obj (.ref 918)) [.ref (q+4),a7 t] H (fN (a8 t w).1) H') fun H' bW ρ'=>fM q H w ρ (a8 t w) H' bW ρ'
noncomputable def vC (t:bF):Prop:=∀(q:Nat) (H:List aj) (w:aQ) (am:Nat→Nat) (ρ:Nat→cn) (nodes:V) (src:Src),cK q H w am ρ→vB ρ H nodes src (bE t)→dM w (a8 t w).2.2→mB (fun H' bW ρ'=>aq (bV t+3) (.obj (.ref 925)) [.ref (q+4),nodes] H (fN (a8 t w).1) H') fun H' bW ρ'=>fM q H w ρ (a8 t w) H' bW ρ'
section
variable {q c m d n i:Nat}{H H' H1 H2:List aj}{w w' w1:aQ}{am bW ew hi:Nat→Nat}{ρ ρ' eW gR:Nat→cn}{r cH:Rs}{f:aQ→Rs}{ls:List (Str×V)}{v nodes:V}{K:Str}{ps vs:List V}{sc:V}{src:Src}
theorem fM.then {a:Nat}(x:fM q H w ρ (none,w1,n) H1 ew eW) (y:fM q H1 w1 eW cH H2 hi gR) (h:n≤a:=by exact Nat.le_refl _):fM q H w ρ (cH.more a) H2 hi gR :=
 ⟨y.wr,x.d5.trans x.ex y.d5,x.ex.trans x.d5.n y.ex,by have:=x.s;have:=y.s;show cH.2.1.seen.length≤w.seen.length+(a+cH.2.2);dsimp only at *;omega,by have:=x.h;have:=y.h;show cH.2.1.held.length≤w.held.length+(a+cH.2.2);dsimp only at *;omega⟩
theorem fM.cost {a:Nat}{o:Option b5}(x:fM q H w ρ (o,w1,n) H1 ew eW) (h:n≤a):fM q H w ρ (o,w1,a) H1 ew eW:=⟨x.wr,x.d5,x.ex,Nat.le_trans x.s (Nat.add_le_add_left h _),Nat.le_trans x.h (Nat.add_le_add_left h _)⟩
theorem dM.next (s:dM w (n+c)) (x:fM q H w ρ (none,w1,n) H1 ew eW):dM w1 c:=by
 have:=x.s;have:=x.h;obtain ⟨a,b⟩:=s;dsimp only at *;exact ⟨by omega,by omega⟩
theorem dM.le (s:dM w c) (h:n≤c):dM w n:=⟨Nat.le_trans (Nat.add_le_add_left h _) s.1,Nat.le_trans (Nat.add_le_add_left h _) s.2⟩
theorem vB.aN:vB ρ H (.aN vs) (.aN vs) vs:=⟨fun _ _=>rfl,fun _ _ _=>rfl,fun _=>rfl⟩
theorem sR (g:ab d (hh (nG q K ps sc [])) (lI.1.drop 1) H (.ret v) ls H'):aq (d+1) (.obj (.ref 918)) [.ref (q+4),eo K ps sc] H v H' :=
 aq.hP (fi:=⟨tp,[dq,cJ],[],lI.1,none,false⟩) (vs:=[.ref (q+4),eo K ps sc]) (cN:=[(dq,.ref (q+4)),(cJ,eo K ps sc)]) (by kernel_rfl) rfl (by kernel_rfl) rfl (by kernel_rfl) (ab.cons (bJ:=nG q K ps sc []) I g)
noncomputable def vD (q:Nat) (nodes:V) (ls:List (Str×V)):Prop:=ls=[(dq,.ref (q+4)),(fE,nodes)]∨∃ a b,ls=[(dq,.ref (q+4)),(fE,nodes),(en,a),(ja,b)]
theorem C5 (h:vD q nodes ls):∃ r,(r=[]∨∃ b,r=[(ja,b)])∧bq d (qt ls) (ha iV.1) v H ((dq,.ref (q+4))::(fE,nodes)::(en,v)::r) H:=by
 rcases h with rfl |⟨a,b,rfl⟩
 ·exact ⟨[],.inl rfl,(I:bq 0 _ _ _ _ _ _).mono (Nat.zero_le _)⟩
 ·exact ⟨_,.inr ⟨b,rfl⟩,(I:bq 0 _ _ _ _ _ _).mono (Nat.zero_le _)⟩
theorem C6 {r:List (Str×V)}{o:Option b5}(bR:r=[]∨∃ b,r=[(ja,b)]) (g:aq d (.obj (.ref 918)) [.ref (q+4),v] H (fN o) H') :
 (o=none→ab d (qt ((dq,.ref (q+4))::(fE,nodes)::(en,v)::r)) (d1 iV.1) H .next [(dq,.ref (q+4)),(fE,nodes),(en,v),(ja,.none)] H') ∧
 ∀ u,o=some u→ab d (qt ((dq,.ref (q+4))::(fE,nodes)::(en,v)::r)) (d1 iV.1) H (.ret u.V) [(dq,.ref (q+4)),(fE,nodes),(en,v),(ja,u.V)] H':=by
 have s:ah d (qt ((dq,.ref (q+4))::(fE,nodes)::(en,v)::r)) (bQ (d1 iV.1) 0) H .next [(dq,.ref (q+4)),(fE,nodes),(en,v),(ja,fN o)] H':=by
  have e:=ai.bI (d:=d) (fr:=qt ((dq,.ref (q+4))::(fE,nodes)::(en,v)::r)) (e:=((e1 (eH (bQ (d1 iV.1) 0))).wB.map fun y=>y.1).getD default) (args:=m7 (eH (bQ (d1 iV.1) 0))) (pos:=((e1 (eH (bQ (d1 iV.1) 0))).wB.map fun y=>y.2.2.2).getD default) (g:=.obj (.ref 918)) (vs:=[.ref (q+4),v]) ((I:ai 0 _ _ _ _ _).mono (Nat.zero_le _)) ((I:GE 0 _ _ _ _ _).mono (Nat.zero_le _)) g
  rcases bR with rfl |⟨b,rfl⟩
  ·exact ah.assign e (bq.name (by kernel_rfl))
  ·exact ah.assign e (bq.name (by kernel_rfl))
 refine ⟨fun h=>?_,fun u h=>?_⟩
 ·subst h;exact ab.cons s (ab.one (ah.iff ((I:GT 0 _ _ _ _ _).mono (Nat.zero_le _)) ab.nil))
 ·subst h;exact ab.cons s (ab.ret (ah.cm ((I:GT 0 _ _ _ _ _).mono (Nat.zero_le _)) (ab.ret (ah.ret ((I:ai 0 _ _ _ _ _).mono (Nat.zero_le _))))))
theorem vE {o:Option b5}{z:cD}(bZ:z=(match o with |none=>.next |some u=>.ret u.V)) (hl:vD q nodes ls) (l:vB ρ H nodes src vs) (g:cV d (qt [(dq,.ref (q+4)),(fE,nodes)]) (ha iV.1) src 0 (d1 iV.1) H z ls H'):aq (d+1) (.obj (.ref 925)) [.ref (q+4),nodes] H (fN o) H':=by
 have s:=ah.for (p:=(HA (bQ iV.1 0)).2) (it:=eH (bQ iV.1 0)) ((I:ai 0 (qt [(dq,.ref (q+4)),(fE,nodes)]) _ H nodes H).mono (Nat.zero_le d)) (l.s H .refl) g
 cases o with
 |none =>
  subst bZ
  exact aq.hP (fi:=⟨qO,[dq,fE],[],iV.1,none,false⟩) (vs:=[.ref (q+4),nodes]) (cN:=[(dq,.ref (q+4)),(fE,nodes)]) (by kernel_rfl) rfl (by kernel_rfl) rfl (by kernel_rfl) (ab.cons s (ab.ret (ah.ret ((I:ai 0 _ _ _ _ _).mono (Nat.zero_le _)))))
 |some u =>
  subst bZ
  exact aq.hP (fi:=⟨qO,[dq,fE],[],iV.1,none,false⟩) (vs:=[.ref (q+4),nodes]) (cN:=[(dq,.ref (q+4)),(fE,nodes)]) (by kernel_rfl) rfl (by kernel_rfl) rfl (by kernel_rfl) (ab.ret s)
end
section
variable {q c m d n i:Nat}{H H' H1 H2:List aj}{w w' w1:aQ}{am bW ew hi:Nat→Nat}{ρ ρ' eW gR:Nat→cn}{r cH:Rs}{f:aQ→Rs}{ls:List (Str×V)}{v nodes:V}{K:Str}{ps vs:List V}{sc:V}{src:Src}{t a b:bF}{nm:b9}
theorem sS (h:fV t=true) (s:iR t):vC t:=fun q H w am ρ nodes src x l ak=>by
 rw[pU h] at l
 obtain ⟨H',bW,ρ',g,y⟩:=s q H w am ρ x ak
 generalize a8 t w=r at *
 obtain ⟨o,w1,n⟩:=r
 have la:itemAt src 0 H=some (some (a7 t)):=l.i H .refl 0
 have g4:itemAt src 1 H'=some none:=l.i H' y.d5 1
 refine ⟨H',bW,ρ',?_,y⟩
 obtain ⟨r,bR,az⟩:=C5 (d:=bV t+2) (v:=a7 t) (H:=H) (.inl rfl:vD q nodes _)
 obtain ⟨iH,hO⟩:=C6 (nodes:=nodes) bR (g.mono (Nat.le_add_right (bV t) 2))
 cases o with
 |none=>exact vE rfl (.inr ⟨_,_,rfl⟩) l (cV.step la (l.t _) az (iH rfl) (cV.done g4 (l.t _)))
 |some u=>exact vE rfl (.inr ⟨_,_,rfl⟩) l (cV.out la (l.t _) az (hO u rfl))
theorem Yq (b2:iR a) (bt:iR b):vC (.two a b):=fun q H w am ρ nodes src x l ak=>by
 rw[oD] at l
 have ak:dM w ((a8 a w).seq 0 (a8 b)).2.2:=ak
 obtain ⟨H1,ew,eW,g,y⟩:=b2 q H w am ρ x (ak.le mF)
 show mB (fun H' bW ρ'=>aq _ _ _ _ (fN ((a8 a w).seq 0 (a8 b)).1) H') fun H' bW ρ'=>fM q H w ρ ((a8 a w).seq 0 (a8 b)) H' bW ρ'
 have la:itemAt src 0 H=some (some (a7 a)):=l.i H .refl 0
 have g4:itemAt src 1 H1=some (some (a7 b)):=l.i H1 y.d5 1
 obtain ⟨r,bR,az⟩:=C5 (d:=bV (.two a b)+2) (v:=a7 a) (H:=H) (.inl rfl:vD q nodes _)
 obtain ⟨iH,hO⟩:=C6 (nodes:=nodes) bR (g.mono (Nat.le_trans (Nat.le_max_left _ _) (Nat.le_add_right (bV (.two a b)) 2)))
 generalize a8 a w=r at *
 obtain ⟨o,w1,n⟩:=r
 cases o with
 |some u=>exact ⟨H1,ew,eW,vE rfl (.inr ⟨_,_,rfl⟩) l (cV.out la (l.t _) az (hO u rfl)),y⟩
 |none =>
  have ak:dM w (n+0+(a8 b w1).2.2):=ak
  have Yr:=dM.next (n:=n) ak y
  obtain ⟨H2,hi,gR,g2,dC⟩:=bt q H1 w1 ew eW y.wr Yr
  have mZ:itemAt src 2 H2=some none:=l.i H2 (y.d5.trans y.ex dC.d5) 2
  have z:=y.then dC
  refine ⟨H2,hi,gR,?_,z⟩
  show aq _ _ _ _ (fN (a8 b w1).1) H2
  obtain ⟨ea,lq,uL⟩:=C5 (d:=bV (.two a b)+2) (v:=a7 b) (H:=H1) (.inr ⟨a7 a,.none,rfl⟩:vD q nodes _)
  obtain ⟨aK,bw⟩:=C6 (nodes:=nodes) lq (g2.mono (Nat.le_trans (Nat.le_max_right _ _) (Nat.le_add_right (bV (.two a b)) 2)))
  generalize a8 b w1=cH at *
  obtain ⟨dR,eJ,a4⟩:=cH
  cases dR with
  |none=>exact vE rfl (.inr ⟨_,_,rfl⟩) l (cV.step la (l.t _) az (iH rfl) (cV.step g4 (l.t _) uL (aK rfl) (cV.done mZ (l.t _))))
  |some u=>exact vE rfl (.inr ⟨_,_,rfl⟩) l (cV.step la (l.t _) az (iH rfl) (cV.out g4 (l.t _) uL (bw u rfl)))
theorem Ys:(r.seq 1 fun w=>(none,w,0)).1=r.1:=by
 obtain ⟨o,w1,n⟩:=r
 cases o <;> rfl
theorem KN (nm:b9):iR (.b7 nm):=fun q H w am ρ x ak=>by
 have fin:∀{f v:V}{H'},aq 5 (.obj (.ref 897)) [.ref (q+4),.str nm.s] H (.tup [v,f]) H'→aq 20 (.obj (.ref 918)) [.ref (q+4),a7 (.b7 nm)] H f H':=fun {f v H'} g =>
  sR (d:=19) (K:=pM) (ps:=[cB nm]) (sc:=.none) (ab.cons (ah.iff I ab.nil)<|ab.cons (ah.iff I ab.nil)<|ab.cons (ah.iff (GT.Bz I I) ab.nil) <|
   ab.cons (bJ:=nG q pM [cB nm] .none [(dw,v),(dd,f)]) (ah.assign (ai.bI (g:=.obj (.ref 897)) (vs:=[.ref (q+4),.str nm.s]) I I (g.mono (by decide))) I) <|
   ab.stop (ah.cm (GT.BA I) (ab.ret (ah.ret I))) (by intro z;cases z))
 have go:hB nm=false→w.seen.length<aL→gi (fun H'=>aq 20 (.obj (.ref 918)) [.ref (q+4),a7 (.b7 nm)] H (gj nm (w.getD nm).1) H') fun H'=>∀ n,1≤n→∀ o,fM q H w ρ (o,(w.getD nm).2,n) H' am ρ:=fun bc lt=>by
  obtain ⟨H1,g,y,k⟩:=qr x lt bc
  obtain ⟨dj,et⟩:=sP (w:=w) (n:=nm)
  exact ⟨H1,fin g,fun n h o=>⟨y,k,.refl,Nat.le_trans dj (Nat.add_le_add_left h _),Nat.le_trans et (Nat.le_add_right _ _)⟩⟩
 cases nm with
 |x =>
  have lt:=dM.lt (c:=1) ak
  have aV:=List.getElem?_eq_getElem x.cur
  exact ⟨_,am,ρ,fin (J0 x lt.1 aV),x.d3,.set (by rw[x.rs];rfl),.refl,Nat.le_trans (Nat.le_of_eq (yN _)) (Nat.le_succ _),Nat.le_add_right _ _⟩
 |e=>obtain ⟨H1,g,y⟩:=go rfl (dM.lt (c:=0) ak).1;exact ⟨H1,am,ρ,g,y 1 (Nat.le_refl _) _⟩
 |t=>obtain ⟨H1,g,y⟩:=go rfl (dM.lt (c:=1) ak).1;exact ⟨H1,am,ρ,g,y 2 (by decide) _⟩
 |u=>obtain ⟨H1,g,y⟩:=go rfl (dM.lt (c:=1) ak).1;exact ⟨H1,am,ρ,g,y 2 (by decide) _⟩
theorem KO:iR .el:=fun q H w am ρ x ak=>by
 have bY:w.held.length<aL:=(dM.lt (c:=1) ak).2
 exact ⟨_,am,ρ,sR (d:=19) (K:=pM) (ps:=[jP]) (sc:=.none) (ab.cons (ah.iff I ab.nil)<|ab.cons (ah.iff I ab.nil)<|ab.stop (ah.cm (GT.Bz I I) (ab.cons
  (ah.expr (ai.a0 (v:=.ref (q+3)) (first:=[.ref (q+3)]) (vs:=[.ref (am w.cur)]) (ai.sub I I (iP (s:=rK) x.dict (by kernel_rfl))) (qf x.held) (GE.cons (ai.sub I I (iP (s:=gJ) x.dict (by kernel_rfl))) GE.nil) ((aq.app x.held (by rw[List.length_map];exact bY)).mono (by decide))))
  (ab.ret (ah.ret I)))) (by intro z;cases z)),x.hold,.set (by rw[x.gP];rfl),.refl,Nat.le_add_right _ _,by show (w.held++[w.cur]).length≤_;rw[List.length_append];exact Nat.le_succ _⟩
theorem KP {k:Int}(ar:k=7∨k=8∨k=9):iR (.ff k):=fun q H w am ρ x ak =>
 ⟨H,am,ρ,sR (d:=19) (K:=BP) (ps:=[fe ku 1 [.int k]]) (sc:=.none) (ab.stop (ah.cm I (ab.ret (ah.ret (ai.bI (g:=.obj (.type "str")) (vs:=[.int k]) I I (by rcases ar with rfl |rfl |rfl <;> exact I))))) (by intro z;cases z)),x,.refl,.refl,Nat.le_add_right _ _,Nat.le_add_right _ _⟩
theorem Yt (bt:vC a) (aw:vC b):iR (.dg a b):=fun q H w am ρ x ak=>by
 have ak:dM w (jX aQ.fresh (a8 a w) (a8 b)).2.2:=ak
 show mB (fun H' bW ρ'=>aq (max (bV a) (bV b)+10) (.obj (.ref 918)) [.ref (q+4),a7 (.dg a b)] H (fN (jX aQ.fresh (a8 a w) (a8 b)).1) H') fun H' bW ρ'=>fM q H w ρ (jX aQ.fresh (a8 a w) (a8 b)) H' bW ρ'
 have cost:(a8 a w).2.2≤(jX aQ.fresh (a8 a w) (a8 b)).2.2:=by
  generalize a8 a w=r
  obtain ⟨o,w1,n⟩:=r
  cases o with
  |none=>exact Nat.le_succ n
  |some v=>exact Nat.le_trans (Nat.le_add_right n 3) (Nat.le_add_right _ _)
 obtain ⟨H1,ew,eW,g,y⟩:=bt q H w am ρ (.aN (bE a)) (.aN (bE a)) x .aN (ak.le cost)
 have g:=g.mono (show bV a+3≤max (bV a) (bV b)+9 from Nat.add_le_add (Nat.le_max_left _ _) (by decide))
 rw[u1]
 have st:∀{v:V}{ls:List (Str×V)}{H' : List aj},ab (max (bV a) (bV b)+9) (hh (nG q gK [.aN (bE a),.str dE,.aN (bE b),.none] eb [])) (sB (bQ lI.1 2)) H (.ret v) ls H'→aq (max (bV a) (bV b)+9+1) (.obj (.ref 918)) [.ref (q+4),eo gK [.aN (bE a),.str dE,.aN (bE b),.none] eb] H v H':=fun h =>
  sR (ab.cons (ah.iff I ab.nil)<|ab.stop (ah.cm I h) (by intro z;cases z))
 have s1:ah (max (bV a) (bV b)+9) (hh (nG q gK [.aN (bE a),.str dE,.aN (bE b),.none] eb [])) (bQ (sB (bQ lI.1 2)) 0) H .next (nG q gK [.aN (bE a),.str dE,.aN (bE b),.none] eb [(ja,fN (a8 a w).1)]) H1 :=
  ah.assign (ai.bI (g:=.obj (.ref 925)) (vs:=[.ref (q+4),.aN (bE a)]) I I g) (bq.name (by kernel_rfl))
 generalize a8 a w=r at *
 obtain ⟨o,w1,n⟩:=r
 cases o with
 |none =>
  refine ⟨H1,ew,eW,st (ab.cons s1 (ab.cons (ah.iff I ab.nil) (ab.ret (ah.ret I)))),y.cost (Nat.le_succ n)⟩
 |some v =>
  have ak:dM w (n+3+((a8 b (w1.fresh v)).seq 1 fun w=>(none,w,0)).2.2):=ak
  have df:=y.wr.fresh (v:=v)
  have ie:(H1++[aj.list [v.V]])[q+4]?=some (.dict (ji q (ew w1.cur))):=cY y.wr.dict
  have dJ:fj eW H1 ((H1++[aj.list [v.V]]).set (q+4) (.dict (ji q H1.length))):=fj.trans .ext .refl (.set (by rw[y.wr.a8];rfl))
  have eM:fM q H w ρ (none,w1.fresh v,n+3) ((H1++[aj.list [v.V]]).set (q+4) (.dict (ji q H1.length))) _ _:=⟨df,y.d5.trans y.ex dJ,y.ex.trans y.d5.n .up,Nat.le_trans y.s (Nat.add_le_add_left (Nat.le_add_right n 3) _),Nat.le_trans y.h (Nat.add_le_add_left (Nat.le_add_right n 3) _)⟩
  obtain ⟨H2,hi,gR,g2,dC⟩:=aw q _ _ _ _ (.aN (bE b)) (.aN (bE b)) df .aN ((dM.next ak eM).le mF)
  have g2:=g2.mono (show bV b+3≤max (bV a) (bV b)+9 from Nat.add_le_add (Nat.le_max_right _ _) (by decide))
  have nC:(jX aQ.fresh (some v,w1,n) (a8 b)).1=(a8 b (w1.fresh v)).1:=Ys (r:=a8 b (w1.fresh v))
  rw[nC]
  refine ⟨H2,hi,gR,st (ab.cons s1 (ab.cons (bJ:=nG q gK [.aN (bE a),.str dE,.aN (bE b),.none] eb [(ja,fN (a8 b (w1.fresh v)).1)]) (ah.cm I (ab.cons (ah.assign (v:=.ref H1.length) (ai.list (vs:=[v.V]) I) (bq.sub (v:=.ref (q+4)) (a:=.str gJ) (H3:=(H1++[aj.list [v.V]]).set (q+4) (.dict (ji q H1.length))) I I fun s e=>by
   exact CO e ie (by kernel_rfl) (by kernel_rfl))) (ab.one (ah.assign (ai.bI (g:=.obj (.ref 925)) (vs:=[.ref (q+4),.aN (bE b)]) I I g2) (bq.name (by kernel_rfl)))))) (ab.ret (ah.ret I)))),?_⟩
  have z:=eM.then dC
  show fM q H w ρ (((a8 b (w1.fresh v)).seq 1 fun w=>(none,w,0)).more (n+3)) H2 hi gR
  generalize a8 b (w1.fresh v)=cH at *
  obtain ⟨dR,eJ,a4⟩:=cH
  cases dR with
  |none=>exact z.cost (Nat.add_le_add_left (Nat.le_succ a4) (n+3))
  |some u=>exact z
end
noncomputable abbrev KQ:Stmt:=bQ lI.1 7
noncomputable abbrev C7:PySem.Expr:=eH KQ
noncomputable abbrev yT:List Stmt:=sB KQ
noncomputable abbrev mG:List Stmt:=sB (bQ lI.1 6)
noncomputable def vF (o:Option b5) (z:cD):Prop:=z=match o with |none=>.next |some u=>.ret u.V
section
variable {q c m d n i:Nat}{H H' H1 H2:List aj}{w w' w1:aQ}{am bW ew hi:Nat→Nat}{ρ ρ' eW gR:Nat→cn}{r cH:Rs}{f:aQ→Rs}{ls:List (Str×V)}{v nodes:V}{K:Str}{ps vs:List V}{sc:V}{src:Src}{t:dF}{a b:bF}{nm:b9}{d0 fq:b0}
noncomputable abbrev mH (q:Nat) (nm:b9) (b:bF) (r:List (Str×V)):List (Str×V):=nG q pN [cB nm,a7 b] .none r
noncomputable def C8 (q:Nat) (nm:b9) (b:bF) (k:Nat):Prop:=∀(w:aQ) (H:List aj) (am:Nat→Nat) (ρ:Nat→cn),w.left.length<k+1→cK q H (w.getD nm).2 am ρ→dM w (d4 (a8 b) nm (k+1) w).2.2 →
 vk (fun z bM H' bW ρ'=>vF (d4 (a8 b) nm (k+1) w).1 z) fun z bM H' bW ρ'=>ia (bV b+9) (hh (mH q nm b [(dw,cg (w.getD nm).1),(dd,.none)])) C7 yT H z bM H'∧fM q H w ρ (d4 (a8 b) nm (k+1) w) H' bW ρ'
theorem KR (bt:iR b) (bc:kK nm=true) (k:Nat) (aI:∀ j,k=j+1→C8 q nm b j):C8 q nm b k:=fun w H am ρ ar x ak=>by
 obtain ⟨dj,et⟩:=sP (w:=w) (n:=nm)
 have dn:d4 (a8 b) nm (k+1) w=match (w.getD nm).1 with |.z=>(none,(w.getD nm).2,2) |_=>(((a8 b (w.getD nm).2).seq 1 (d4 (a8 b) nm k))).more 2:=rfl
 rw[dn] at ak ⊢
 have key:(w.getD nm).1≠.z→(∀ d H,(w.getD nm).1=d→GT (bV b+9) (hh (mH q nm b [(dw,cg d),(dd,.none)])) C7 H true H)→dM w ((((a8 b (w.getD nm).2).seq 1 (d4 (a8 b) nm k))).more 2).2.2 →
  vk (fun z bM H' bW ρ'=>vF ((((a8 b (w.getD nm).2).seq 1 (d4 (a8 b) nm k))).more 2).1 z) fun z bM H' bW ρ'=>ia (bV b+9) (hh (mH q nm b [(dw,cg (w.getD nm).1),(dd,.none)])) C7 yT H z bM H'∧fM q H w ρ ((((a8 b (w.getD nm).2).seq 1 (d4 (a8 b) nm k))).more 2) H' bW ρ':=fun hd bT ak=>by
  have lf:=vh w nm hd
  have tt:=bT _ H rfl
  have ak:dM w (2+((a8 b (w.getD nm).2).seq 1 (d4 (a8 b) nm k)).2.2):=ak
  have aK:=mF (r:=a8 b (w.getD nm).2) (c:=1) (f:=d4 (a8 b) nm k)
  have s1:dM (w.getD nm).2 (a8 b (w.getD nm).2).2.2:=⟨by have:=ak.1;omega,by have:=ak.2;omega⟩
  have l1:(a8 b (w.getD nm).2).2.1.left.length≤_:=(ny (cf:=aQ.fresh) (fun _ _=>rfl) b (w.getD nm).2).le
  obtain ⟨H1,ew,eW,g,y⟩:=bt q H _ am ρ x s1
  have KS:ah (bV b+9) (hh (mH q nm b [(dw,cg (w.getD nm).1),(dd,.none)])) (bQ yT 0) H .next (mH q nm b [(dw,cg (w.getD nm).1),(dd,fN (a8 b (w.getD nm).2).1)]) H1 :=
   ah.assign (ai.bI (g:=.obj (.ref 918)) (vs:=[.ref (q+4),a7 b]) I I (g.mono (Nat.le_add_right _ _))) (bq.name (by kernel_rfl))
  generalize a8 b (w.getD nm).2=r at *
  obtain ⟨o,eJ,n⟩:=r
  cases o with
  |some u=>exact ⟨_,_,H1,ew,eW,rfl,ia.out tt (ab.cons KS (ab.stop (ah.cm I (ab.ret (ah.ret I))) (by intro z;cases z))),⟨y.wr,y.d5,y.ex,by have:=y.s;show eJ.seen.length≤w.seen.length+(2+n);dsimp only at this;omega,by have:=y.h;show eJ.held.length≤w.held.length+(2+n);dsimp only at this;omega⟩⟩
  |none =>
   have ak:dM w (2+(n+1+(d4 (a8 b) nm k eJ).2.2)):=ak
   have ys:eJ.seen.length≤(w.getD nm).2.seen.length+n:=y.s
   have KU:eJ.held.length≤(w.getD nm).2.held.length+n:=y.h
   have l1:eJ.left.length≤(w.getD nm).2.left.length:=l1
   obtain ⟨H2,g2,eG,eu⟩:=qr (n:=nm) y.wr (Nat.lt_of_le_of_lt (show eJ.seen.length≤3000 by have:=ak.1;omega) (by decide)) (sF bc)
   have lB:ah (bV b+9) (hh (mH q nm b [(dw,cg (w.getD nm).1),(dd,.none)])) (bQ yT 2) H1 .next (mH q nm b [(dw,(fL nm (eJ.getD nm).1).V),(dd,gj nm (eJ.getD nm).1)]) H2 :=
    ah.assign (ai.bI (g:=.obj (.ref 897)) (vs:=[.ref (q+4),.str nm.s]) I I (g2.mono (by omega))) I
   unfold fL gj at lB
   rw[vz bc] at lB
   cases k with
   |zero=>omega
   |succ k =>
    obtain ⟨z,bM,H3,C9,Dc,bZ,yU,gu⟩:=aI k rfl eJ H2 ew eW (by omega) eG ⟨by have:=ak.1;omega,by have:=ak.2;omega⟩
    have Dd:=gu.s
    have De:=gu.h
    exact ⟨z,bM,H3,C9,Dc,bZ,ia.step tt (ab.cons KS (ab.cons (ah.iff I ab.nil) (ab.one lB))) yU,
     ⟨gu.wr,(y.d5.trans y.ex (eu.trans .refl gu.d5)),y.ex.trans y.d5.n (gA.trans .refl eu.n gu.ex),by show _≤w.seen.length+(2+(n+1+(d4 (a8 b) nm (k+1) eJ).2.2));exact Nat.le_trans Dd (by omega),by show _≤w.held.length+(2+(n+1+(d4 (a8 b) nm (k+1) eJ).2.2));exact Nat.le_trans De (by omega)⟩⟩
 cases hd:(w.getD nm).1 with
 |z=>exact ⟨.next,_,H,am,ρ,rfl,ia.done I,x,.refl,.refl,Nat.le_trans dj (Nat.le_succ _),Nat.le_trans et (Nat.le_add_right _ _)⟩
 |o =>
  rw[hd] at ak
  have:=key (by rw[hd];exact b0.noConfusion) (fun d H e=>by rw[hd] at e;subst e;exact I) ak
  rw[hd] at this;exact this
 |t =>
  rw[hd] at ak
  have:=key (by rw[hd];exact b0.noConfusion) (fun d H e=>by rw[hd] at e;subst e;exact I) ak
  rw[hd] at this;exact this
theorem Yu (bt:iR b) (bc:kK nm=true) (k:Nat):C8 q nm b k:=by
 induction k with
 |zero=>exact KR bt bc 0 fun j e=>nomatch e
 |succ k aI=>exact KR bt bc (k+1) fun j e=>Nat.succ.inj e▸aI
theorem Yv (bt:iR b) (bc:kK nm=true):iR (.du nm b):=fun q H w am ρ x ak=>by
 have ak:dM w (d4 (a8 b) nm (w.left.length+1) w).2.2:=ak
 have aK:1≤(d4 (a8 b) nm (w.left.length+1) w).2.2:=by
  unfold d4
  split
  ·exact (by decide:1≤2)
  ·exact Nat.le_trans (by decide:1≤2) (Nat.le_add_right _ _)
 obtain ⟨H1,g1,df,dJ⟩:=qr (n:=nm) x (dM.lt (ak.le (n:=0+1) aK)).1 (sF bc)
 obtain ⟨z,bM,H2,hi,gR,bZ,yU,y⟩:=Yu bt bc w.left.length w H1 am ρ (Nat.lt_succ_self _) df ak
 have lB:ah (bV b+9) (hh (mH q nm b [])) (bQ lI.1 4) H .next (mH q nm b [(dw,(fL nm (w.getD nm).1).V),(dd,gj nm (w.getD nm).1)]) H1 :=
  ah.assign (ai.bI (g:=.obj (.ref 897)) (vs:=[.ref (q+4),.str nm.s]) I I (g1.mono (by omega))) I
 unfold fL gj at lB
 rw[vz bc] at lB
 refine ⟨H2,hi,gR,?_,⟨y.wr,dJ.trans .refl y.d5,gA.trans .refl dJ.n y.ex,y.s,y.h⟩⟩
 show aq (bV b+9+1) (.obj (.ref 918)) [.ref (q+4),eo pN [cB nm,a7 b] .none] H (fN (d4 (a8 b) nm (w.left.length+1) w).1) H2
 generalize (d4 (a8 b) nm (w.left.length+1) w).1=o at *
 have run:∀{v bM},ab (bV b+9) (hh (mH q nm b [(dw,cg (w.getD nm).1),(dd,.none)])) (lI.1.drop 7) H1 (.ret v) bM H2→aq (bV b+9+1) (.obj (.ref 918)) [.ref (q+4),eo pN [cB nm,a7 b] .none] H v H2:=fun h =>
  sR (ab.cons (ah.iff I ab.nil)<|ab.cons (ah.iff I ab.nil)<|ab.cons (ah.iff (GT.By I) ab.nil)<|ab.cons lB<|ab.cons (ah.iff (GT.uC I I) ab.nil)<|ab.cons (ah.iff I ab.nil) h)
 cases o with
 |none=>subst bZ;exact run (ab.cons (ah.while yU) (ab.ret (ah.ret I)))
 |some u=>subst bZ;exact run (ab.ret (ah.while yU))
end
noncomputable abbrev Yw:Stmt:=bQ mG 0
section
variable {q c m d n i:Nat}{H H' H1 H2:List aj}{w w' w1:aQ}{am bW ew hi:Nat→Nat}{ρ ρ' eW gR:Nat→cn}{r cH:Rs}{f:aQ→Rs}{ls:List (Str×V)}{v nodes:V}{K:Str}{ps vs:List V}{sc:V}{src:Src}{t:dF}{a b:bF}{nm:b9}{d0 fq:b0}
noncomputable abbrev iS (q:Nat) (t:dF) (nm:b9) (b:bF) (r:List (Str×V)):List (Str×V):=nG q nc [c7 t,cB nm,a7 b] .none r
theorem drop_cons {b6:List b0}(h:(keysOf d0).drop i=fq::b6):i=fq.n∧(∀ H,itemAt (.cx 0 d0.n) i H=some (some (.int i)))∧(keysOf d0).drop (i+1)=b6:=by
 cases d0 with
 |z=>cases i <;> cases h
 |o =>
  match i with
  |0=>cases h;exact ⟨rfl,fun _=>rfl,rfl⟩
  |i+1=>simp[keysOf] at h
 |t =>
  match i with
  |0=>cases h;exact ⟨rfl,fun _=>rfl,rfl⟩
  |1=>cases h;exact ⟨rfl,fun _=>rfl,rfl⟩
  |i+2=>simp[keysOf] at h
theorem drop_nil (aM:i≤2) (h:(keysOf d0).drop i=[]):∀ H,itemAt (.cx 0 d0.n) i H=some none:=by
 have:i=0∨i=1∨i=2:=by omega
 cases d0 <;> rcases this with rfl |rfl |rfl <;> first |exact fun _=>rfl |cases h
noncomputable def Df (q:Nat) (t:dF) (nm:b9) (b:bF) (d0:b0) (ls:List (Str×V)):Prop:=ls=iS q t nm b [(dw,cg d0),(dd,.none)]∨∃ a,ls=iS q t nm b [(dw,cg d0),(dd,.none),(fb,a)]
theorem Dg (h:Df q t nm b d0 ls):bq d (hh ls) (ha mG) v H (iS q t nm b [(dw,cg d0),(dd,.none),(fb,v)]) H:=by
 rcases h with rfl |⟨a,rfl⟩
 ·exact (I:bq 0 _ _ _ _ _ _).mono (Nat.zero_le _)
 ·exact (I:bq 0 _ _ _ _ _ _).mono (Nat.zero_le _)
theorem Yx {d:b0}{i:Nat}{k:b0}{b6:List b0}(h:(keysOf d).drop i=k::b6):i+1≤2:=by
 have h:=congrArg List.length h
 rw[List.length_drop] at h
 have:(keysOf d).length≤2:=by cases d <;> decide
 have:(k::b6).length=b6.length+1:=rfl
 omega
theorem Yy {n:Nat}{v:V}{k:b0}{H:List aj}:ai (n+9) (hh (iS q t nm b [(dw,v),(dd,.none),(fb,.int k.n)])) (rQ (m7 (eH (bQ (d1 mG) 0))) 2) H (sG k) H:=by
 cases k <;> exact I
theorem KV (bt:iR b) (cP:oO t=true):∀(b6:List b0) (i:Nat) (w:aQ) (H:List aj) (am:Nat→Nat) (ρ:Nat→cn) (ls:List (Str×V)),i≤2→(keysOf d0).drop i=b6→cK q H w am ρ→dM w (dQ (a8 b) t b6 w).2.2→Df q t nm b d0 ls →
 vk (fun z bM H' bW ρ'=>vF (dQ (a8 b) t b6 w).1 z) fun z bM H' bW ρ'=>cV (bV b+9) (hh ls) (ha mG) (.cx 0 d0.n) i (d1 mG) H z bM H'∧((dQ (a8 b) t b6 w).1=none→Df q t nm b d0 bM)∧fM q H w ρ (dQ (a8 b) t b6 w) H' bW ρ'
 |[],i,w,H,am,ρ,ls,aM,hd,x,ak,vG=>⟨.next,ls,H,am,ρ,rfl,cV.done (drop_nil aM hd H) (by kernel_rfl),fun _=>vG,x,.refl,.refl,Nat.le_add_right _ _,Nat.le_add_right _ _⟩
 |k::b6,i,w,H,am,ρ,ls,aM,hd,x,ak,vG=>by
  obtain ⟨ao,it,lY⟩:=drop_cons hd
  have gH:=Yx hd
  have ak:dM w (1+((ec t (.key k) w).seq 0 fun w1=>(a8 b w1).seq 1 (dQ (a8 b) t b6)).2.2):=ak
  have aK:=mF (r:=ec t (.key k) w) (c:=0) (f:=fun w1=>(a8 b w1).seq 1 (dQ (a8 b) t b6))
  obtain ⟨H1,g1,eM⟩:=Yo (d:=k) t cP x ⟨by have:=ak.1;omega,by have:=ak.2;omega⟩
  have s1:ah (bV b+9) (hh (iS q t nm b [(dw,cg d0),(dd,.none),(fb,.int k.n)])) (bQ (d1 mG) 0) H .next (iS q t nm b [(dw,cg d0),(dd,fN (ec t (.key k) w).1),(fb,.int k.n)]) H1 :=
   ah.assign (ai.bI (g:=.obj (.ref 911)) (vs:=[.ref (q+4),c7 t,sG k]) I (GE.cons I (GE.cons I (GE.cons Yy GE.nil))) (g1.mono (Nat.le_add_left 9 _))) (bq.name (by kernel_rfl))
  rw[←ao] at s1
  show vk (fun z bM H' bW ρ'=>vF ((ec t (.key k) w).seq 0 fun w1=>(a8 b w1).seq 1 (dQ (a8 b) t b6)).1 z) fun z bM H' bW ρ'=>_∧(((ec t (.key k) w).seq 0 fun w1=>(a8 b w1).seq 1 (dQ (a8 b) t b6)).1=none→_)∧fM q H w ρ (((ec t (.key k) w).seq 0 fun w1=>(a8 b w1).seq 1 (dQ (a8 b) t b6)).more 1) H' bW ρ'
  generalize ec t (.key k) w=r at *
  obtain ⟨o,w1,n⟩:=r
  cases o with
  |some u=>exact ⟨_,_,H1,am,ρ,rfl,cV.out (it H) (by kernel_rfl) (Dg vG) (ab.cons s1 (ab.cons (bJ:=iS q t nm b [(dw,cg d0),(dd,u.V),(fb,.int i)]) (ah.assign (v:=u.V) (ai.iff I I) (bq.name (by kernel_rfl))) (ab.stop (ah.cm I (ab.ret (ah.ret I))) (by intro z;cases z)))),(fun h=>nomatch h),eM.cost (Nat.le_add_left n 1)⟩
  |none =>
   have ak:dM w (1+(n+0+((a8 b w1).seq 1 (dQ (a8 b) t b6)).2.2)):=ak
   have bw:=mF (r:=a8 b w1) (c:=1) (f:=dQ (a8 b) t b6)
   have ZO:w1.seen.length≤w.seen.length+n:=eM.s
   have ZP:w1.held.length≤w.held.length+n:=eM.h
   obtain ⟨H2,hi,gR,g2,dC⟩:=bt q H1 w1 am ρ eM.wr ⟨by have:=ak.1;omega,by have:=ak.2;omega⟩
   have s2:ah (bV b+9) (hh (iS q t nm b [(dw,cg d0),(dd,.none),(fb,.int i)])) (bQ (d1 mG) 1) H1 .next (iS q t nm b [(dw,cg d0),(dd,fN (a8 b w1).1),(fb,.int i)]) H2 :=
    ah.assign (ai.cm I (ai.bI (g:=.obj (.ref 918)) (vs:=[.ref (q+4),a7 b]) I I (g2.mono (Nat.le_add_right _ _)))) (bq.name (by kernel_rfl))
   show vk (fun z bM H' bW ρ'=>vF ((a8 b w1).seq 1 (dQ (a8 b) t b6)).1 z) fun z bM H' bW ρ'=>_∧(((a8 b w1).seq 1 (dQ (a8 b) t b6)).1=none→_)∧fM q H w ρ ((((a8 b w1).seq 1 (dQ (a8 b) t b6)).more (n+0)).more 1) H' bW ρ'
   generalize a8 b w1=r at *
   obtain ⟨dR,eJ,a4⟩:=r
   have ZQ:eJ.seen.length≤w1.seen.length+a4:=dC.s
   have ZR:eJ.held.length≤w1.held.length+a4:=dC.h
   cases dR with
   |some u=>exact ⟨_,_,H2,hi,gR,rfl,cV.out (it H) (by kernel_rfl) (Dg vG) (ab.cons s1 (ab.cons s2 (ab.stop (ah.cm I (ab.ret (ah.ret I))) (by intro z;cases z)))),(fun h=>nomatch h),⟨dC.wr,eM.d5.trans eM.ex dC.d5,eM.ex.trans eM.d5.n dC.ex,by show eJ.seen.length≤w.seen.length+(1+(n+0+a4));omega,by show eJ.held.length≤w.held.length+(1+(n+0+a4));omega⟩⟩
   |none =>
    have ak:dM w (1+(n+0+(a4+1+(dQ (a8 b) t b6 eJ).2.2))):=ak
    obtain ⟨z,bM,H3,C9,Dc,bZ,gl,is,gu⟩:=KV bt cP b6 (i+1) eJ H2 hi gR (iS q t nm b [(dw,cg d0),(dd,.none),(fb,.int i)]) gH lY dC.wr ⟨by have:=ak.1;omega,by have:=ak.2;omega⟩ (.inr ⟨_,rfl⟩)
    have Dd:=gu.s
    have De:=gu.h
    have KW:=eM.ex.trans eM.d5.n dC.ex
    have KX:=eM.d5.trans eM.ex dC.d5
    exact ⟨z,bM,H3,C9,Dc,bZ,cV.step (it H) (by kernel_rfl) (Dg vG) (ab.cons s1 (ab.cons s2 (ab.one (ah.iff I ab.nil)))) gl,is,⟨gu.wr,KX.trans KW gu.d5,KW.trans KX.n gu.ex,by show _≤w.seen.length+(1+(n+0+(a4+1+(dQ (a8 b) t b6 eJ).2.2)));exact Nat.le_trans Dd (by omega),by show _≤w.held.length+(1+(n+0+(a4+1+(dQ (a8 b) t b6 eJ).2.2)));exact Nat.le_trans De (by omega)⟩⟩
theorem Yz (bt:iR b) (cP:oO t=true) (bc:kK nm=true):iR (.fin t nm b):=fun q H w am ρ x ak=>by
 have ak:dM w (2+(dQ (a8 b) t (keysOf (w.getD nm).1) (w.getD nm).2).2.2):=ak
 obtain ⟨H1,g1,df,dJ⟩:=qr (n:=nm) x (dM.lt (ak.le (n:=0+1) (by omega))).1 (sF bc)
 obtain ⟨dj,et⟩:=sP (w:=w) (n:=nm)
 obtain ⟨z,bM,H2,hi,gR,bZ,gl,is,y⟩:=KV (nm:=nm) (d0:=(w.getD nm).1) bt cP (keysOf (w.getD nm).1) 0 _ H1 am ρ _ (by decide) rfl df ⟨by have:=ak.1;omega,by have:=ak.2;omega⟩ (.inl rfl)
 have ys:=y.s
 have KU:=y.h
 have lB:ah (bV b+9) (hh (iS q t nm b [])) (bQ lI.1 4) H .next (iS q t nm b [(dw,(fL nm (w.getD nm).1).V),(dd,gj nm (w.getD nm).1)]) H1 :=
  ah.assign (ai.bI (g:=.obj (.ref 897)) (vs:=[.ref (q+4),.str nm.s]) I I (g1.mono (by omega))) I
 unfold fL gj at lB
 rw[vz bc] at lB
 refine ⟨H2,hi,gR,?_,⟨y.wr,dJ.trans .refl y.d5,gA.trans .refl dJ.n y.ex,by show _≤w.seen.length+(2+(dQ (a8 b) t (keysOf (w.getD nm).1) (w.getD nm).2).2.2);exact Nat.le_trans ys (by omega),by show _≤w.held.length+(2+(dQ (a8 b) t (keysOf (w.getD nm).1) (w.getD nm).2).2.2);exact Nat.le_trans KU (by omega)⟩⟩
 show aq (bV b+9+1) (.obj (.ref 918)) [.ref (q+4),eo nc [c7 t,cB nm,a7 b] .none] H (fN (dQ (a8 b) t (keysOf (w.getD nm).1) (w.getD nm).2).1) H2
 have fr:∀{z bM},cV (bV b+9) (hh (iS q t nm b [(dw,cg (w.getD nm).1),(dd,.none)])) (ha mG) (.cx 0 (w.getD nm).1.n) 0 (d1 mG) H1 z bM H2→ah (bV b+9) (hh (iS q t nm b [(dw,cg (w.getD nm).1),(dd,.none)])) Yw H1 z bM H2:=fun g =>
  ah.for (v:=.cx 0 (w.getD nm).1.n) (ai.bI (g:=.obj (.type "range")) (vs:=[.int (w.getD nm).1.n]) I (GE.cons (ai.bI (g:=.obj (.type "int")) (vs:=[cg (w.getD nm).1]) I I (Ki.mono (by omega))) GE.nil) (Kj.mono (by omega))) Kk g
 generalize (dQ (a8 b) t (keysOf (w.getD nm).1) (w.getD nm).2).1=o at *
 have run:∀{v bM},ab (bV b+9) (hh (iS q t nm b [(dw,cg (w.getD nm).1),(dd,.none)])) mG H1 (.ret v) bM H2→aq (bV b+9+1) (.obj (.ref 918)) [.ref (q+4),eo nc [c7 t,cB nm,a7 b] .none] H v H2:=fun h =>
  sR (ab.cons (ah.iff I ab.nil)<|ab.cons (ah.iff I ab.nil)<|ab.cons (ah.iff (GT.By I) ab.nil)<|ab.cons lB<|ab.cons (ah.iff (GT.uC I I) ab.nil)<|ab.stop (ah.cm I h) (by intro z;cases z))
 cases o with
 |none=>subst bZ;exact run (ab.cons (fr gl) (ab.ret (ah.ret I)))
 |some u=>subst bZ;exact run (ab.ret (fr gl))
theorem qu:∀ t:bF,wf t=true→good t=true→(fV t=true→iR t)∧vC t
 |.b7 n,_,_=>⟨fun _=>KN n,sS rfl (KN n)⟩
 |.el,_,_=>⟨fun _=>KO,sS rfl KO⟩
 |.ff k,_,h=>by
  have aw:k=7∨k=8∨k=9:=by
   have h:(decide (k=7) || (decide (k=8) || decide (k=9)))=true:=h
   simpa using h
  exact ⟨fun _=>KP aw,sS rfl (KP aw)⟩
 |.du n b,h,g=>by
  obtain ⟨h1,af⟩:=Bool.and_eq_true_iff.mp h
  obtain ⟨g1,g2⟩:=Bool.and_eq_true_iff.mp g
  have s:=Yv ((qu b af g2).1 h1) g1
  exact ⟨fun _=>s,sS rfl s⟩
 |.fin t n b,h,g=>by
  obtain ⟨h1,af⟩:=Bool.and_eq_true_iff.mp h
  obtain ⟨g1,g2⟩:=Bool.and_eq_true_iff.mp g
  obtain ⟨g2,g3⟩:=Bool.and_eq_true_iff.mp g2
  have s:=Yz ((qu b af g3).1 h1) g1 g2
  exact ⟨fun _=>s,sS rfl s⟩
 |.dg b c,h,g=>by
  obtain ⟨h1,af⟩:=Bool.and_eq_true_iff.mp h
  obtain ⟨g1,g2⟩:=Bool.and_eq_true_iff.mp g
  have s:=Yt (qu b h1 g1).2 (qu c af g2).2
  exact ⟨fun _=>s,sS rfl s⟩
 |.two a b,h,g=>by
  obtain ⟨h0,aB⟩:=Bool.and_eq_true_iff.mp h
  obtain ⟨h1,af⟩:=Bool.and_eq_true_iff.mp h0
  obtain ⟨bu,dB⟩:=Bool.and_eq_true_iff.mp aB
  obtain ⟨g1,g2⟩:=Bool.and_eq_true_iff.mp g
  exact ⟨(fun q=>Bool.noConfusion q),Yq ((qu a bu g1).1 h1) ((qu b dB g2).1 af)⟩
end
section
variable {X:gQ}{H H' : List aj}{w ZS:aQ}{YA:Nat→Nat}{YB:Nat→cn}{out:V}{wf:aQ}{t:bF}
theorem YC (fl:X.s=H.length) (x:X.R (H++[.list []]) [] w YA YB) (h1:w.seen=[]) (af:w.held=[]) (r:Run X out wf 0 0 [] w) :
 mB (fun H' bW ρ'=>aq 14 (.obj (.ref 944)) [.ref (X.q+4),X.U] H out H') fun H' bW ρ'=>cK X.q H' wf bW ρ'∧∀ a o,X.B a=some o→H'[a]?=some o∧ρ' a=.o:=by
 obtain ⟨bM,H',bW,ρ',gl,wr,b⟩:=r _ _ _ (ed X 0 []) x (.inl rfl) ⟨Nat.zero_le _,Nat.le_refl _,by rw[h1];exact Nat.le_refl _,by rw[af];exact Nat.le_refl _⟩
 refine ⟨H',bW,ρ',?_,wr,b⟩
 have s0:ah 12 (iQ [(dq,.ref (X.q+4)),(kL,X.U)]) (bQ qS.1 0) H .next (h3 [nB,qe] [.ref H.length,.int 0] [(dq,.ref (X.q+4)),(kL,X.U)]) (H++[.list []]) :=
  ah.me (us:=[.ref H.length,.int 0]) (ai.tup (GE.cons (ai.list GE.nil) I)) (by kernel_rfl) (by kernel_rfl) (by kernel_rfl)
 rw[←fl] at s0
 exact (aq.hP (fi:=⟨tq,[dq,kL],[],qS.1,none,false⟩) (vs:=[.ref (X.q+4),X.U]) (cN:=[(dq,.ref (X.q+4)),(kL,X.U)]) (by kernel_rfl) rfl (by kernel_rfl) rfl (by kernel_rfl) <|
  ab.cons (bJ:=ed X 0 []) s0<|ab.ret (ah.for (v:=.cx 0 3000) (ai.bI (g:=.obj (.type "range")) (vs:=[.int 3000]) I I I) rfl gl)).mono (by decide)
theorem YD (cP:good t=true) (dy:At X.C X.K t 0) (hl:X.C.length=bD t) (bY:X.hl=ak t 0 0) (aw:(cw t w).2.2<3000):Run X (.tup [fN (cw t w).1,.int 0]) (cw t w).2.1 0 0 [] w:=by
 have e:=qp (X:=X) t cP 0 [] w 0 (.tup [fN (cw t w).1,.int 0]) (cw t w).2.1 [] [] dy (by rw[bY,List.append_nil];rfl) (fun h m=>nomatch m) (by omega)
 generalize cw t w=r at *
 obtain ⟨o,w',c⟩:=r
 rw[Nat.zero_add] at e
 have aw:c<3000:=aw
 cases o with
 |none =>
  refine e ?_
  show Run X _ _ (0+c) (bD t) [] w'
  rw[Nat.zero_add,←hl];exact XS aw
 |some v =>
  refine e fun q _ _ dk=>?_
  unfold ly
  rw[bY]
  have dk:fk (ak t 0 0) q=none:=dk
  rw[dk];exact ⟨rfl,rfl⟩
theorem YE {D:bG}(h:w.left.length=10):(cw (cR D) w).2.2<3000:=by
 have c:=(ny Kz (cR D) w).mono JQ.a JQ.b
 have:=c.c
 rw[h] at this
 exact Nat.lt_of_le_of_lt (Nat.le_trans (Nat.le_add_right _ _) this) (by decide)
end
noncomputable def KY (i:Int):b0:=match i with
 |0=>.z |1=>.o |_=>.t
noncomputable def kN:Nat→bG→List b0
 |0,_=>[]
 |n+1,D=>KY (D.take 3).1::kN n (D.take 3).2
theorem KZ:∀(n:Nat) (D:bG),(kN n D).length=n
 |0,_=>rfl
 |n+1,D=>congrArg (· + 1) (KZ n _)
theorem K0:∀(n:Nat) (D:bG),(nk n D).1=(kN n D).map cg
 |0,_=>rfl
 |n+1,D=>by
  have h:=ig (D:=D) (w:=3) (by decide)
  have e:(D.take 3).1=0∨(D.take 3).1=1∨(D.take 3).1=2:=by omega
  show V.str (kX (D.take 3).1.toNat)::(nk n (D.take 3).2).1=cg (KY (D.take 3).1)::(kN n (D.take 3).2).map cg
  rw[K0 n]
  congr 1
  rcases e with e |e |e <;> rw[e] <;> kernel_rfl
section
variable {P:Pre}{F:au}{A B L:aj}{D E:bG}{ls:List (Str×V)}{v:V}{jm:List V}
noncomputable abbrev sT:Str:=⟨⟨[104,101,114,101]⟩⟩
noncomputable abbrev yV:Str:=⟨⟨[116,104,101,114,101]⟩⟩
noncomputable abbrev sU (q:Nat) (jm:List V):List aj:=[.list [],.list jm,.list [b5.un.V],.list [],.dict (ji q (q+2))]
noncomputable abbrev vH (P:Pre) (F:au) (jm:List V):List aj:=mk P F ([.list []]++(sU 23 jm++sU 28 jm))
theorem YF:ah 90 (ij (kF v)) (bQ fB.1 6) (mk (hT A B iN D L (.list jm)) F [.list []]) .next (kF v++[(sT,.ref 27)]) (mk (hT A B iN D L (.list jm)) F ([.list []]++sU 23 jm)) :=
 Gt.run 40 fun N n aa=>by kernel_rfl
theorem YG:ah 90 (ij (kF v++[(sT,.ref 27)])) (bQ fB.1 7) (mk (hT A B iN D L (.list jm)) F ([.list []]++sU 23 jm)) .next (kF v++[(sT,.ref 27),(yV,.ref 32)]) (vH (hT A B iN D L (.list jm)) F jm) :=
 Gt.run 40 fun N n aa=>by kernel_rfl
noncomputable def hX (q:Nat) (a:Nat):cn:=if a=q then .s else if a=q+1 then .l else if a=q+2 then .c 0 else if a=q+3 then .h else if a=q+4 then .d else .o
theorem oV {q a:Nat}(h:a<q∨q+4<a):hX q a=.o:=by unfold hX;rw[if_neg (by omega),if_neg (by omega),if_neg (by omega),if_neg (by omega),if_neg (by omega)]
theorem K1 {q:Nat}{H:List aj}{ds:List b0}(h0:H[q]?=some (.list [])) (h1:H[q+1]?=some (.list (ds.map cg))) (af:H[q+2]?=some (.list [b5.un.V])) (aB:H[q+3]?=some (.list [])) (bu:H[q+4]?=some (.dict (ji q (q+2)))) :
 cK q H ⟨[],ds,[.un],0,[]⟩ (fun _=>q+2) (hX q):=by
 refine ⟨h0,h1,aB,bu,fun i v e=>?_,Nat.zero_lt_one,(fun i m=>nomatch m),if_pos rfl,?_,?_,?_,fun i h=>?_⟩
 ·cases i with
  |zero=>cases e;exact af
  |succ i=>cases e
 ·unfold hX;rw[if_neg (by omega),if_pos rfl]
 ·unfold hX;rw[if_neg (by omega),if_neg (by omega),if_neg (by omega),if_pos rfl]
 ·unfold hX;rw[if_neg (by omega),if_neg (by omega),if_neg (by omega),if_neg (by omega),if_pos rfl]
 ·have:i=0:=by simp at h;omega
  subst this
  unfold hX;rw[if_neg (by omega),if_neg (by omega),if_pos rfl]
end
noncomputable def Dh (a:Nat):cn:=if a=33 then .k else hX 23 a
noncomputable def yW (H:List aj) (a:Nat):Option aj:=if a<33∧¬ (23≤a∧a≤27) then H[a]? else none
noncomputable def yX (F:au) (H:List aj) (hl:List cS):gQ:=⟨yW H,23,33,F.dV,F.con,F.dZ,F.fu,hl⟩
section
variable {P:Pre}{F:au}{A B L Q:aj}{D E:bG}{ls:List (Str×V)}{v:V}{ds:List b0}{H:List aj}{o:Option b5}
theorem YH {hl:List cS}(jH:H.length=33) (x:cK 23 H ⟨[],ds,[.un],0,[]⟩ (fun _=>25) (hX 23)):(yX F H hl).R (H++[.list []]) [] ⟨[],ds,[.un],0,[]⟩ (fun _=>25) Dh:=by
 have ne:∀{a o},H[a]?=some o→a≠33:=fun h e=>by have:=ip h;omega
 have aE:∀{a o},H[a]?=some o→Dh a=hX 23 a:=fun h=>if_neg (ne h)
 refine ⟨(x.role (ρ':=Dh) fun a o h=>aE h).ext,?_,if_pos rfl,fun j a l h=>?_,fun a o h=>?_⟩
 ·have:(H++[aj.list []])[H.length]?=some (.list []):=fc
  rw[jH] at this;exact this
 ·cases h
 ·have h:yW H a=some o:=h
  unfold yW at h
  split at h
  ·rename_i c
   exact ⟨cY h,(aE h).trans (oV (by omega))⟩
  ·cases h
theorem YI {H:List aj}:dX .NotEq (.tup [fN o,.int 0]) (.tup [fN o,.int 0]) ⟨H,True⟩=some (false,⟨H,True⟩):=by
 cases o with
 |none=>rfl
 |some v =>
  show some (!(seq v.s v.s&&(decide ((0:Int)=0)&&true)),_)=_
  rw[lT];rfl
structure Fin (H:List aj) (wf:aQ) (am:Nat→Nat) (ρ:Nat→cn) (wr:aQ) (bW:Nat→Nat) (ρ' : Nat→cn) (t0 t1:aj):Prop where
 m:cK 23 H wf am ρ
 r:cK 28 H wr bW ρ'
 k:ep wr wf
 a:∀ i,i<wf.cells.length→ρ' (am i)=.o
 uj:ρ' 23=.o∧ρ' 24=.o∧ρ' 26=.o∧ρ' 27=.o∧ρ' 0=.o∧ρ' 1=.o
 t0:H[0]?=some t0
 t1:H[1]?=some t1
 s:wr.seen.length≤3000
 h:wr.held.length≤3000
noncomputable abbrev iT (ds:List b0):aQ:=⟨[],ds,[.un],0,[]⟩
theorem YJ:ep (iT ds) (iT ds):=⟨rfl,rfl,rfl,rfl,rfl,Nat.zero_lt_one⟩
end
theorem K2:∀ t:bF,0<bD t
 |.b7 _=>Nat.succ_pos 1
 |.el=>Nat.succ_pos 1
 |.ff _=>Nat.succ_pos 1
 |.du _ b=>by rw[mx];omega
 |.fin _ _ b=>by rw[my];omega
 |.dg b c=>by rw[jW];omega
 |.two a b=>by
  have:=K2 a
  cases e:op a with
  |true=>rw[yh e];omega
  |false=>rw[yi e];omega
theorem oW:∀(t:bF) (p:Nat) (d:Int),∀ h∈ak t p d,h.i<h.j
 |.b7 _,_,_,h,m=>nomatch m
 |.el,_,_,h,m=>nomatch m
 |.ff _,_,_,h,m=>nomatch m
 |.du _ b,p,d,h,m=>oW b _ _ h m
 |.fin _ _ b,p,d,h,m=>oW b _ _ h m
 |.dg b c,p,d,h,m=>by
  rcases List.mem_append.mp m with m |m
  ·exact oW b _ _ h m
  ·cases m with
   |head=>exact Nat.lt_add_of_pos_right (K2 b)
   |tail _ m=>exact oW c _ _ h m
 |.two a b,p,d,h,m=>by
  cases e:op a with
  |true =>
   rw[yj e] at m
   exact (List.mem_append.mp m).elim (oW a _ _ h) (oW b _ _ h)
  |false=>rw[yk e] at m;exact oW a _ _ h m
section
variable {P:Pre}{F:au}{A B L Q:aj}{D E:bG}{ls:List (Str×V)}{v:V}{ds:List b0}{H:List aj}{o:Option b5}{t:bF}
theorem YK (x:Top t F):∀ v∈F.bH,∃ x y z d i j g,v=mz x y z d∧sy F.ag x y z d i j g:=fun v m=>by
 have AI:=List.mem_map_of_mem (f:=hU F.ag) m
 rw[x.bH] at AI
 obtain ⟨h,YL,e⟩:=List.mem_map.mp AI
 cases x.aV v m with
 | @mk x y z d bA bU bZ =>
  obtain ⟨K3,bA⟩:=bA.resolve_left id
  obtain ⟨py,bU⟩:=bU.resolve_left id
  obtain ⟨sx,bZ⟩:=bZ.resolve_left id
  have q:hU F.ag (mz x y z d)=.tup [.int K3,.int py,.int sx,.int d,.bool false]:=by
   unfold hU mv
   dsimp only
   rw[Int.toNat_natCast,Int.toNat_natCast,Int.toNat_natCast,bA,bU,bZ]
  have q:=e.trans q
  unfold cS.V at q
  injection q with q
  injection q with aS q
  injection q with bf q
  injection aS with aS
  injection bf with bf
  have lt:=oW _ _ _ h YL
  exact ⟨x,y,z,d,K3,py,sx,rfl,bA,bU,bZ,by omega⟩
theorem vI {b:Nat}:∀ l:List b0,dS b (l.map cg)=true
 |[]=>rfl
 |_::r=>vI r
theorem YM {a:Nat}(h:a<33) (af : ¬ (23≤a∧a≤27)):yW H a=H[a]?:=if_pos ⟨h,af⟩
theorem YN (dy:cE 7 A=true) (hY:cE 7 B=true):aq 30 (.obj (.ref 304)) [.ref 12] (vH (hT A B iN D (.list (bE (cR E))) (.list (ds.map cg))) (comp (cR E) hg) (ds.map cg))
 (yX (comp (cR E) hg) H (ak (cR E) 0 0)).U (vH (hT A B iN D (.list (bE (cR E))) (.list (ds.map cg))) (comp (cR E) hg) (ds.map cg)):=by
 have i:=I9 (A:=A) (B:=B) (D:=D) (Q:=.list (ds.map cg)) (E:=E) dy hY (vI ds)
 have c:=gL (cR E) hg 0 rfl rfl
 have di:=Jv (cR E)
 have z:(comp (cR E) hg).aP<aL:=Nat.lt_of_le_of_lt (Nat.le_trans c.st.aP (Nat.le_trans (Nat.le_of_eq (Nat.zero_add _)) (yb (m:=p4 3) fun D=>Cp 3 false D))) (by decide)
 obtain ⟨dj,_,_,_,_,YO,_⟩:=au.lt z
 refine Xc (hl:=ak (cR E) 0 0) dj YO di.gg (YK di) di.bH (c.st.con i.aw) di.sl (c.st.kv i.bR) ?_
 refine B0 (X:=aj.list []::(sU 23 (ds.map cg)++sU 28 (ds.map cg))) i.hx (c.st.kv i.bR) (B1 c.dep) ?_ (Nat.succ_pos _)
 show (true&&(true&&(dS 33 (ds.map cg)&&(true&&(true&&(true&&(true&&(dS 33 (ds.map cg)&&(true&&(true&&(true&&true)))))))))))=true
 rw[vI];rfl
theorem YQ (dy:cE 7 A=true) (hY:cE 7 B=true) (hd:ds.length=10):∃ H' wf am ρ wr bW ρ',ah 90 (ij (kF v++[(sT,.ref 27),(yV,.ref 32)])) (bQ fB.1 8)
 (vH (hT A B iN D (.list (bE (cR E))) (.list (ds.map cg))) (comp (cR E) hg) (ds.map cg)) .next (kF v++[(sT,.ref 27),(yV,.ref 32)]) H'∧Fin H' wf am ρ wr bW ρ' (.tab "_law_view.<locals>.<lambda>" fw) (.tab "law.<locals>.<lambda>" iN):=by
 have un:=fun H=>YN (D:=D) (E:=E) (ds:=ds) (H:=H) dy hY
 generalize iq:vH (hT A B iN D (.list (bE (cR E))) (.list (ds.map cg))) (comp (cR E) hg) (ds.map cg)=iU at *
 have len:iU.length=33:=by rw[←iq];rfl
 have YR:iU[7]?=some (.list (bE (cR E))):=by rw[←iq];rfl
 have dn:iU[0]?=some (.tab "_law_view.<locals>.<lambda>" fw):=by rw[←iq];rfl
 have ao:iU[1]?=some (.tab "law.<locals>.<lambda>" iN):=by rw[←iq];rfl
 have YS:iU[28]?=some (.list []):=by rw[←iq];rfl
 have YT:iU[29]?=some (.list (ds.map cg)):=by rw[←iq];rfl
 have YU:iU[30]?=some (.list [b5.un.V]):=by rw[←iq];rfl
 have YV:iU[31]?=some (.list []):=by rw[←iq];rfl
 have YW:iU[32]?=some (.dict (ji 28 30)):=by rw[←iq];rfl
 have x0:cK 23 iU (iT ds) (fun _=>25) (hX 23):=K1 (by rw[←iq];rfl) (by rw[←iq];rfl) (by rw[←iq];rfl) (by rw[←iq];rfl) (by rw[←iq];rfl)
 have di:=Jv (cR E)
 have good:=Xj (D:=E)
 have YX:=x8 (D:=E) fun D=>u4 3 false D
 have Di:=qq (cR E) (iT ds) (iT ds) YJ
 have cost:=YE (D:=E) (w:=iT ds) hd
 have run:=YD (X:=yX (comp (cR E) hg) iU (ak (cR E) 0 0)) good di.at_ di.len rfl cost
 obtain ⟨H1,ew,eW,g1,ir,iH⟩:=YC (H:=iU) len.symm (YH len x0) rfl rfl run
 have ir:cK 23 H1 (cw (cR E) (iT ds)).2.1 ew eW:=ir
 have b:∀{a o},a<33→¬ (23≤a∧a≤27)→iU[a]?=some o→H1[a]?=some o∧eW a=.o:=fun h1 af aB=>iH _ _ ((YM h1 af).trans aB)
 have K4:=b (by decide) (by decide) YS
 have K5:=b (by decide) (by decide) YT
 have K6:=b (by decide) (by decide) YU
 have K7:=b (by decide) (by decide) YV
 have K8:=b (by decide) (by decide) YW
 have eG:cK 28 H1 (iT ds) (fun _=>30) (hX 28):=K1 K4.1 K5.1 K6.1 K7.1 K8.1
 have Dj:=(b (by decide) (by decide) YR).1
 have K9:∀ H',fj (hX 28) H1 H'→H'[7]?=some (.list (bE (cR E))):=fun H' k=>k.k 7 _ Dj rfl
 have ln:vB (hX 28) H1 (.ref 7) (.ref 7) (bE (cR E)):=⟨fun H' k=>eh (congrArg eF (K9 H' k)),fun H' k i=>by show (match H'[7]? with |some (.list vs)=>some vs[i]? |_=>none)=_;rw[K9 H' k],fun _=>rfl⟩
 have yY:(a8 (cR E) (iT ds)).2.2≤3000:=by rw[←Di.c];exact Nat.le_of_lt cost
 obtain ⟨H2,hi,gR,g2,y⟩:=(qu (cR E) YX good).2 28 H1 (iT ds) (fun _=>30) (hX 28) (.ref 7) (.ref 7) eG ln ⟨Nat.le_trans (Nat.le_of_eq (Nat.zero_add _)) yY,Nat.le_trans (Nat.le_of_eq (Nat.zero_add _)) yY⟩
 have cI:bV (cR E)≤60:=yc fun D=>Cq 3 false D
 have no:∀ i,i<(cw (cR E) (iT ds)).2.1.cells.length→hX 28 (ew i)=.o:=fun i h=>by
  have c:=ir.rc i h
  refine oV ?_
  by_cases h1:ew i<28
  ·exact .inl h1
  ·by_cases af:32<ew i
   ·exact .inr af
   ·exfalso
    have:ew i=28∨ew i=29∨ew i=30∨ew i=31∨ew i=32:=by omega
    rcases this with e |e |e |e |e <;> rw[e] at c
    ·rw[K4.2] at c;cases c
    ·rw[K5.2] at c;cases c
    ·rw[K6.2] at c;cases c
    ·rw[K7.2] at c;cases c
    ·rw[K8.2] at c;cases c
 have d5:∀{a o},H1[a]?=some o→hX 28 a=.o→H2[a]?=some o∧gR a=.o:=fun h1 af=>⟨y.d5.k _ _ h1 (by rw[af];rfl),(y.ex _ _ h1).trans af⟩
 have t0:=d5 (b (by decide) (by decide) dn).1 (oV (by decide))
 have t1:=d5 (b (by decide) (by decide) ao).1 (oV (by decide))
 have La:=d5 ir.seen (oV (by decide))
 have Lb:=d5 ir.left (oV (by decide))
 have Lc:=d5 ir.held (oV (by decide))
 have Ld:=d5 ir.dict (oV (by decide))
 refine ⟨H2,(cw (cR E) (iT ds)).2.1,ew,eW,(a8 (cR E) (iT ds)).2.1,hi,gR,ah.iff (GT.cmp (a:=.tup [fN (cw (cR E) (iT ds)).1,.int 0]) (b:=.tup [fN (a8 (cR E) (iT ds)).1,.int 0])
  (ai.bI (g:=.obj (.ref 944)) (vs:=[.ref 27,(yX (comp (cR E) hg) iU (ak (cR E) 0 0)).U]) I (GE.cons I (GE.cons (ai.a0 (v:=.ref 12) (first:=[.ref 12]) (vs:=[]) ?_ ?_ GE.nil ((un iU).mono (by decide))) GE.nil)) (g1.mono (by decide)))
  (ai.tup (GE.cons (ai.bI (g:=.obj (.ref 925)) (vs:=[.ref 32,.ref 7]) I I (g2.mono (by omega))) I)) (by rw[Di.f];exact YI)) ab.nil,?_⟩
 ·rw[←iq];exact I
 ·rw[←iq];rfl
 ·exact ⟨⟨La.1,Lb.1,Lc.1,Ld.1,fun i v e=>(d5 (ir.cell i v e) (no i (ip e))).1,ir.cur,ir.iG,ir.rs,ir.f9,ir.gP,ir.a8,ir.rc⟩,y.wr,Di.w,fun i h=>(d5 (ir.cell i _ (List.getElem?_eq_getElem h)) (no i h)).2,⟨La.2,Lb.2,Lc.2,Ld.2,t0.2,t1.2⟩,t0.1,t1.1,Nat.le_trans y.s (Nat.le_trans (Nat.le_of_eq (Nat.zero_add _)) yY),Nat.le_trans y.h (Nat.le_trans (Nat.le_of_eq (Nat.zero_add _)) yY)⟩
end
noncomputable abbrev yZ:Str:=⟨⟨[114,111,119]⟩⟩
noncomputable abbrev Le:Str:=⟨⟨[112,108,97,105,110]⟩⟩
section
variable {d k acc:Nat}{fr:a5}{H H1 H2 H3:List aj}{elt t it c:PySem.Expr}{ifs:List PySem.Expr}{src:Src}{v x:V}{xs:List V}{ls:List (Str×V)}{nm:Str}{di dz p:Pos}{a:Int}{sc:Scope}
theorem cX.YY (h:itemAt src k H=some none) (bT:(isNm t&&iY src t)=true):cX d fr elt t ifs src k acc H H:=cX.done h bT
theorem cX.stepT (h:itemAt src k (H++[.list xs])=some (some v)) (bT:(isNm t&&iY src t)=true) (h1:bq d fr t v (H++[.list xs]) ls (H++[.list xs])) (aw:GT d (fr.up ls) c (H++[.list xs]) true (H++[.list xs])) (af:ai d (fr.up ls) elt (H++[.list xs]) x (H++[.list xs])) (bA:xs.length<aL)
 (aB:cX d (fr.up ls) elt t [c] src (k+1) H.length (H++[.list (xs++[x])]) H3):cX d fr elt t [c] src k H.length (H++[.list xs]) H3:=fun aa o=>by
 obtain ⟨e5,e9,eM⟩:=h1 aa o
 obtain ⟨eg,dR,dC⟩:=aw e5 e9
 obtain ⟨ou,fO,gu⟩:=af eg dR
 obtain ⟨rv,fZ,Dk⟩:=aB (ou∧xs.length<aL) ⟨fO,bA⟩
 exact ⟨rv,fZ,(((eM.and dC).and gu).and Dk).step fun N n bc b=>(eC bT).trans ((bj h).trans ((bj b.1.1.1).trans ((bj b.1.1.2).trans ((bj b.1.2).trans ((bj (congrArg eF fc)).trans (by rw[rU];exact b.2))))))⟩
theorem cX.YZ (h:itemAt src k H=some (some v)) (bT:(isNm t&&iY src t)=true) (h1:bq d fr t v H ls H) (aw:GT d (fr.up ls) c H false H)
 (aB:cX d (fr.up ls) elt t [c] src (k+1) acc H H3):cX d fr elt t [c] src k acc H H3:=fun aa o=>by
 obtain ⟨e5,e9,eM⟩:=h1 aa o
 obtain ⟨eg,dR,dC⟩:=aw e5 e9
 obtain ⟨rv,fZ,Dk⟩:=aB eg dR
 exact ⟨rv,fZ,((eM.and dC).and Dk).step fun N n bc b=>(eC bT).trans ((bj h).trans ((bj b.1.1).trans ((bj b.1.2).trans b.2)))⟩
theorem ah.Y0 (h:ai d fr it H v H1) (ak:srcOf v ⟨H1,True⟩=some src) (bt:(Nat.beq di.line dz.line&&!nY nm sc.names)=true) (ar:gX fr nm=some .local) (c8:pd fr sc t it a=true)
 (af:cX d ⟨relabel fr sc,pb sc fr.cs,none,[]⟩ elt t ifs src 0 H1.length (H1++[.list []]) H2):ah d fr (.Assign [.Name nm di] (.ListComp elt [⟨t,it,ifs,a⟩] sc dz) p) H .next (d7 nm (.ref H1.length) fr.ls) H2:=ah.lc h ak bt ar c8 af
end
section
variable {H H2:List aj}{r:Row}{v:V}{wf:aQ}{ls:List (Str×V)}
noncomputable abbrev Dl (ls:List (Str×V)):a5:=⟨relabel (ij []) (I1 9),[],none,ls⟩
noncomputable abbrev Lf:PySem.Expr:=Up (eH (bQ fB.1 9))
noncomputable abbrev Lg:PySem.Expr:=BF (eH (bQ fB.1 9))
theorem Y1 (r:Row):GT 12 (Dl [(yZ,r.V)]) Lf H (keepR r) H:=by
 cases r with
 |get n=>exact I
 |mem o v=>exact I
 |c6 o s v=>exact I
 |b7 n v =>
  cases n with
  |v=>exact I
  |w=>exact I
  |x =>
   cases v with
   |gh i=>cases i <;> exact I
   |key i=>cases i <;> exact I
   |bb i=>cases i <;> exact I
   |qg i=>cases i <;> exact I
   |un=>exact I
   |fn=>exact I
theorem Lh (h:H[23]?=some (.list (wf.seen.map Row.V))) (ak:(wf.seen.filter keepR).length<aL):∀(r pre:List Row) (ls:List (Str×V)),wf.seen=pre++r→(ls=[]∨∃ a,ls=[(yZ,a)]) →
 cX 12 (Dl ls) (p3 9) Lg [Lf] (.ref 23) pre.length H.length (H++[.list ((pre.filter keepR).map Row.V)]) (H++[.list ((wf.seen.filter keepR).map Row.V)])
 |[],pre,ls,e,_=>by
  have it:∀ X,itemAt (.ref 23) pre.length (H++[X])=some none:=fun X=>by
   show (match (H++[X])[23]? with |some (.list vs)=>some vs[pre.length]? |_=>none)=_
   rw[cY h]
   show some ((wf.seen.map Row.V)[pre.length]?)=_
   rw[List.getElem?_map,vd e];rfl
  rw[show wf.seen=pre by rw[e,List.append_nil]]
  exact cX.YY (it _) (by kernel_rfl)
 |r::rs,pre,ls,e,hl=>by
  have it:∀ X,itemAt (.ref 23) pre.length (H++[X])=some (some r.V):=fun X=>by
   show (match (H++[X])[23]? with |some (.list vs)=>some vs[pre.length]? |_=>none)=_
   rw[cY h]
   show some ((wf.seen.map Row.V)[pre.length]?)=_
   rw[List.getElem?_map,vc e];rfl
  have aI:=Lh h ak rs (pre++[r]) [(yZ,r.V)] (by rw[e];simp) (.inr ⟨_,rfl⟩)
  rw[List.length_append] at aI
  have iw:∀ X,bq 12 (Dl ls) Lg r.V (H++[X]) [(yZ,r.V)] (H++[X]):=fun X=>by
   rcases hl with rfl |⟨a,rfl⟩
   ·exact I
   ·exact I
  have c:=fun X=>Y1 (H:=H++[X]) r
  cases ar:keepR r with
  |true =>
   rw[ar] at c
   have aC:(pre++[r]).filter keepR=pre.filter keepR++[r]:=by rw[List.filter_append,List.filter_cons_of_pos ar];rfl
   rw[aC,List.map_append] at aI
   refine cX.stepT (it _) (by kernel_rfl) (iw _) (c _) I ?_ aI
   rw[List.length_map]
   refine Nat.lt_of_le_of_lt ?_ ak
   rw[e,List.filter_append,List.length_append];exact Nat.le_add_right _ _
  |false =>
   rw[ar] at c
   have aC:(pre++[r]).filter keepR=pre.filter keepR:=by rw[List.filter_append,List.filter_cons_of_neg (by rw[ar];exact Bool.noConfusion)];simp
   rw[aC] at aI
   exact cX.YZ (it _) (by kernel_rfl) (iw _) (c _) aI
noncomputable abbrev y0 (v:V):List (Str×V):=kF v++[(sT,.ref 27),(yV,.ref 32)]
theorem Y2 {am:Nat→Nat}{ρ:Nat→cn}(x:cK 23 H wf am ρ) (ak:(wf.seen.filter keepR).length<aL):ah 90 (ij (y0 v)) (bQ fB.1 9) H .next (y0 v++[(Le,.ref H.length)]) (H++[.list ((wf.seen.filter keepR).map Row.V)]) :=
 ah.Y0 (v:=.ref 23) (src:=.ref 23) (H1:=H) (ai.sub I I (iP (s:=ov) x.dict (by kernel_rfl))) (eh (congrArg eF x.seen)) (by kernel_rfl) (by kernel_rfl) (by kernel_rfl) ((Lh x.seen ak wf.seen [] [] rfl (.inl rfl)).mono (by decide))
end
noncomputable def Row.py:Row→PyData
 |.get n=>.tuple [.str yD,.str n.s]
 |.b7 n v=>.tuple [.str ei,.str n.s,.str v.s]
 |.mem o v=>.tuple [.str sC,.str o.s,.str iJ,.str v.s]
 |.c6 o s v=>.tuple [.str sD,.str o.s,.str s.s,.str v.s]
section
variable {H H1 H2:List aj}{am bW:Nat→Nat}{ρ ρ' : Nat→cn}{fs:List (Str×V)}{s l h d9 n a b c:Nat}{hd:List Nat}{cs:List b5}{vs:List V}{ls:List (Str×V)}{wf wr:aQ}{v:V}{t0 t1:aj}
theorem Li:∀ rows:List Row,kg (toPy H (n+2)) (rows.map Row.V)=some (rows.map Row.py)
 |[]=>rfl
 |r::rs=>by
  have e:toPy H (n+2) r.V=some r.py:=by cases r <;> rfl
  show (toPy H (n+2) r.V).bind (fun d=>(kg (toPy H (n+2)) (rs.map Row.V)).map fun ds=>d::ds)=_
  rw[e,Li rs];rfl
theorem vJ:∀{l:List PyData},(∀ d∈l,gr d d=true)→jx l l=true
 |[],_=>by unfold jx;rfl
 |d::r,h=>by
  unfold jx
  exact vi (h d (.head _)) (vJ fun e m=>h e (.tail _ m))
theorem Y3 (s:Str):gr (.str s) (.str s)=true:=by unfold gr;exact lT s
theorem Dm {α:Type}{f:α→Str}(l:List α):∀ d∈l.map (fun a=>PyData.str (f a)),gr d d=true:=fun d m=>by
 obtain ⟨a,_,rfl⟩:=List.mem_map.mp m
 exact Y3 _
theorem Y4 (r:Row):gr r.py r.py=true:=by
 have k:∀ l:List Str,jx (l.map .str) (l.map .str)=true:=fun l=>vJ (Dm (f:=id) l)
 cases r with
 |get n=>unfold Row.py gr;exact k [yD,n.s]
 |b7 n v=>unfold Row.py gr;exact k [ei,n.s,v.s]
 |mem o v=>unfold Row.py gr;exact k [sC,o.s,iJ,v.s]
 |c6 o s v=>unfold Row.py gr;exact k [sD,o.s,s.s,v.s]
noncomputable abbrev gg (cs:List b5) (i:Nat):b5:=match cs[i]? with |some v=>v |none=>.un
theorem Lj {rows:List Row}{ds:List b0}(h1:H[a]?=some (.list (rows.map Row.V))) (af:H[b]?=some (.list (ds.map cg))) (aB:H[c]?=some (.list (hd.map fun i=>(gg cs i).V))) :
 toPy H 6 (.tup [.ref a,.ref b,.ref c])=some (.tuple [.list (rows.map Row.py),.list (ds.map fun d=>.str d.s),.list (hd.map fun i=>.str (gg cs i).s)]):=by
 have ao:=vl (n:=4) h1 (Li (n:=2) rows)
 have aC:=vl (n:=4) af (yE (f:=b0.s))
 have cL:=vl (n:=4) aB (yE (f:=fun i=>(gg cs i).s))
 show (kg (toPy H 5) [.ref a,.ref b,.ref c]).map PyData.tuple=_
 show (((toPy H 5 (.ref a)).bind fun d=>(((toPy H 5 (.ref b)).bind fun d=>(((toPy H 5 (.ref c)).bind fun d=>(some []).map fun ds=>d::ds)).map fun ds=>d::ds)).map fun ds=>d::ds)).map PyData.tuple=_
 rw[ao,aC,cL];rfl
noncomputable abbrev Dn:PySem.Expr:=rQ (m7 (eH (bQ z0.1 0))) 2
noncomputable abbrev Y5:Scope:=match Dn with |.ListComp _ _ sc _=>sc |_=>default
noncomputable abbrev Y6:PySem.Expr:=match Dn with |.ListComp e _ _ _=>e |_=>default
noncomputable abbrev Lk:PySem.Expr:=match Dn with |.ListComp _ [⟨t,_,_,_⟩] _ _=>t |_=>default
noncomputable abbrev Ll (ls:List (Str×V)):a5:=⟨relabel ⟨tr.scope,[],none,[]⟩ Y5,[],none,ls⟩
theorem Lm (bY:H[h]?=some (.list (hd.map fun i=>.ref (am i)))) (aw:∀ i∈hd,H[am i]?=some (.list [(gg cs i).V])) (ak:hd.length<aL):∀(r pre:List Nat) (ls:List (Str×V)),hd=pre++r→(ls=[]∨∃ a,ls=[(gJ,a)]) →
 cX 12 (Ll ls) Y6 Lk [] (.ref h) pre.length H.length (H++[.list (pre.map fun i=>(gg cs i).V)]) (H++[.list (hd.map fun i=>(gg cs i).V)])
 |[],pre,ls,e,_=>by
  have it:∀ X,itemAt (.ref h) pre.length (H++[X])=some none:=fun X=>by
   show (match (H++[X])[h]? with |some (.list vs)=>some vs[pre.length]? |_=>none)=_
   rw[cY bY]
   show some ((hd.map fun i=>V.ref (am i))[pre.length]?)=_
   rw[List.getElem?_map,vd e];rfl
  have c9:hd=pre:=by rw[e,List.append_nil]
  rw[c9]
  exact cX.done (it _) (by kernel_rfl)
 |i::rs,pre,ls,e,hl=>by
  have it:∀ X,itemAt (.ref h) pre.length (H++[X])=some (some (.ref (am i))):=fun X=>by
   show (match (H++[X])[h]? with |some (.list vs)=>some vs[pre.length]? |_=>none)=_
   rw[cY bY]
   show some ((hd.map fun i=>V.ref (am i))[pre.length]?)=_
   rw[List.getElem?_map,vc e];rfl
  have aI:=Lm bY aw ak rs (pre++[i]) [(gJ,.ref (am i))] (by rw[e];simp) (.inr ⟨_,rfl⟩)
  rw[List.length_append,List.map_append] at aI
  have iw:∀ X,bq 12 (Ll ls) Lk (.ref (am i)) (H++[X]) [(gJ,.ref (am i))] (H++[X]):=fun X=>by
   rcases hl with rfl |⟨a,rfl⟩
   ·exact I
   ·exact I
  exact cX.yJ (it _) (by kernel_rfl) (iw _) (ai.sub I I (JW (cY (aw i (by rw[e];simp))))) (Nat.lt_of_le_of_lt (by rw[List.length_map,e];simp) ak) aI
theorem Ln (dk:H[d9]?=some (.dict fs)) (l1:look ov fs=some (.ref s)) (l2:look pE fs=some (.ref l)) (oN:look rK fs=some (.ref h)) (bY:H[h]?=some (.list (hd.map fun i=>.ref (am i)))) (aw:∀ i∈hd,H[am i]?=some (.list [(gg cs i).V])) (ak:hd.length<aL) :
 aq 15 (.obj (.ref 949)) [.ref d9] H (.tup [.ref s,.ref l,.ref H.length]) (H++[.list (hd.map fun i=>(gg cs i).V)]) :=
 (aq.hP (fi:=⟨tr,[dq],[],z0.1,none,false⟩) (vs:=[.ref d9]) (cN:=[(dq,.ref d9)]) (by kernel_rfl) rfl (by kernel_rfl) rfl (by kernel_rfl) <|
  ab.ret (ah.ret (ai.tup (GE.cons (ai.sub I I (iP (s:=ov) dk l1)) (GE.cons (ai.sub I I (iP (s:=pE) dk l2)) (GE.cons (ai.lc (v:=.ref h) (src:=.ref h) (ai.sub I I (iP (s:=rK) dk oN)) (eh (congrArg eF bY)) (by kernel_rfl) (Lm bY aw ak hd [] [] rfl (.inl rfl))) GE.nil)))))).mono (by decide:13≤15)
noncomputable abbrev Dp (v:V) (n:Nat):List (Str×V):=y0 v++[(Le,.ref n)]
noncomputable abbrev sV (n c:Nat):List (Str×V):=[(ov,.ref n),(pE,.ref 24),(gJ,.ref c),(rK,.ref 26)]
theorem Y7 (hd:H[27]?=some (.dict (ji 23 c))):ah 90 (ij (Dp v n)) (bQ fB.1 10) H .next (Dp v n) (H.set 27 (.dict (sV n c))) :=
 ah.assign (v:=.ref n) I (bq.sub (v:=.ref 27) (a:=.str ov) I I fun s e=>by
  exact CO e hd (by kernel_rfl) (by kernel_rfl))
theorem Y8 (x:Fin H wf am ρ wr bW ρ' t0 t1):∃ H',ab 90 (ij (y0 v)) (fB.1.drop 9) H (.ret (.bool true)) (Dp v H.length) H'∧H'[0]?=some t0∧H'[1]?=some t1:=by
 have hl:(wf.seen.filter keepR).length<aL:=by rw[x.k.seen];exact Nat.lt_of_le_of_lt x.s (by decide)
 have Lo:=Y2 (v:=v) x.m hl
 rw[x.k.seen] at Lo
 have ie:(H++[aj.list (wr.seen.map Row.V)])[27]?=some (.dict (ji 23 (am wf.cur))):=cY x.m.dict
 have Y9:=Y7 (v:=v) (n:=H.length) ie
 have ne:∀{a o},a≠27→H[a]?=some o→((H++[aj.list (wr.seen.map Row.V)]).set 27 (.dict (sV H.length (am wf.cur))))[a]?=some o:=fun h e=>(List.getElem?_set_ne (fun q=>h q.symm)).trans (cY e)
 have Za:27<H.length:=ip x.m.dict
 have ju:((H++[aj.list (wr.seen.map Row.V)]).set 27 (.dict (sV H.length (am wf.cur))))[H.length]?=some (.list (wr.seen.map Row.V)):=(List.getElem?_set_ne (Nat.ne_of_lt Za)).trans fc
 have Zb:((H++[aj.list (wr.seen.map Row.V)]).set 27 (.dict (sV H.length (am wf.cur))))[27]?=some (.dict (sV H.length (am wf.cur))):=nz ie
 have aK:∀{w:aQ}{i:Nat},i<w.cells.length→w.cells[i]?=some (gg w.cells i):=fun {w i} h=>by show _=some (match w.cells[i]? with |some v=>v |none=>.un);rw[List.getElem?_eq_getElem h]
 have Zc:∀ i,i<wf.cells.length→am i≠27:=fun i h e=>by
  have:=x.m.rc i h
  rw[e,x.m.a8] at this;cases this
 have Zd:∀ i,i<wr.cells.length→bW i≠27:=fun i h e=>by
  have:=x.r.rc i h
  rw[e,x.uj.2.2.2.1] at this;cases this
 have Ze:=ne (by decide) x.m.left
 have Zf:=ne (by decide) x.m.held
 have Zg:=ne (by decide) x.r.seen
 have Zh:=ne (by decide) x.r.left
 have Zi:=ne (by decide) x.r.held
 have Zj:=ne (by decide) x.r.dict
 have h0:=ne (by decide) x.t0
 have h1:=ne (by decide) x.t1
 have Zk:=fun i (m:i∈wf.held)=>ne (Zc i (x.m.iG i m)) (x.m.cell i _ (aK (x.m.iG i m)))
 have CQ:=fun i (m:i∈wr.held)=>ne (Zd i (x.r.iG i m)) (x.r.cell i _ (aK (x.r.iG i m)))
 generalize (H++[aj.list (wr.seen.map Row.V)]).set 27 (.dict (sV H.length (am wf.cur)))=H3 at *
 have AY:wf.held.length<aL:=by rw[x.k.held];exact Nat.lt_of_le_of_lt x.h (by decide)
 have dc:=Ln (d9:=27) (s:=H.length) (l:=24) (h:=26) Zb (by kernel_rfl) (by kernel_rfl) (by kernel_rfl) Zf Zk AY
 have cH:=Ln (H:=H3++[.list (wf.held.map fun i=>(gg wf.cells i).V)]) (d9:=32) (s:=28) (l:=29) (h:=31) (cY Zj) (by kernel_rfl) (by kernel_rfl) (by kernel_rfl) (cY Zi) (fun i m=>cY (CQ i m)) (Nat.lt_of_le_of_lt x.h (by decide))
 have gb:=Lj (cY (H':=[aj.list (wr.held.map fun i=>(gg wr.cells i).V)]) (cY (H':=[aj.list (wf.held.map fun i=>(gg wf.cells i).V)]) ju)) (cY (cY Ze)) (cY fc)
 have ib:=Lj (cY (H':=[aj.list (wr.held.map fun i=>(gg wr.cells i).V)]) (cY (H':=[aj.list (wf.held.map fun i=>(gg wf.cells i).V)]) Zg)) (cY (cY Zh)) fc
 rw[x.k.left,x.k.held,x.k.cells] at gb
 have eq:dX .Eq (.tup [.ref H.length,.ref 24,.ref H3.length]) (.tup [.ref 28,.ref 29,.ref (H3++[aj.list (wf.held.map fun i=>(gg wf.cells i).V)]).length]) ⟨(H3++[aj.list (wf.held.map fun i=>(gg wf.cells i).V)])++[aj.list (wr.held.map fun i=>(gg wr.cells i).V)],True⟩=some (true,⟨(H3++[aj.list (wf.held.map fun i=>(gg wf.cells i).V)])++[aj.list (wr.held.map fun i=>(gg wr.cells i).V)],True⟩):=by
  show (((toPy _ 6 _).bind fun d=>(toPy _ 6 _).map fun e=>gr d e).map fun r=>(r,(_:ax)))=_
  rw[x.k.held,x.k.cells] at ib ⊢
  rw[gb,ib]
  show some (gr _ _,_)=_
  have:∀{a b c:List PyData},jx a a=true→jx b b=true→jx c c=true→gr (.tuple [.list a,.list b,.list c]) (.tuple [.list a,.list b,.list c])=true:=fun {a b c} b2 bt aw=>by
   simp only[gr,EC,jx,EB,b2,bt,aw];rfl
  rw[this (vJ fun d m=>by obtain ⟨r,_,rfl⟩:=List.mem_map.mp m;exact Y4 r) (vJ (Dm (f:=b0.s) _)) (vJ (Dm (f:=fun i=>(gg wr.cells i).s) _))]
 exact ⟨_,ab.cons Lo (ab.cons Y9 (ab.ret (ah.ret (ai.cmp (ai.bI (g:=.obj (.ref 949)) (vs:=[.ref 27]) I I (dc.mono (by decide))) (ai.bI (g:=.obj (.ref 949)) (vs:=[.ref 32]) I I (cH.mono (by decide))) eq)))),cY (cY h0),cY (cY h1)⟩
end
section
variable {ns:List Int}
theorem Zl (ns:List Int):∃ ls H' rE bz aS gb,ab 90 (ij [(kE,.aN (ns.map V.int))]) fB.1 [oJ,oK,.cell none] (.ret (.bool true)) ls H'∧H'[0]?=some (.tab rE bz)∧H'[1]?=some (.tab aS gb):=by
 obtain ⟨m,hm⟩:=I4 (ns.take 60)
 have xu:(ns.map V.int).take 60=(ns.take 60).map V.int:=List.map_take.symm
 have Lp:=Wq (vs:=ns.map V.int) (m:=m) (by rw[xu];exact hm)
 rw[xu] at Lp
 generalize ns.take 60=xs at *
 let j4:bG:=⟨false,xs,0,m.fmod 997⟩
 let A:aj:=.list (xs.map V.int)
 have dy:cE 7 A=true:=x2 xs
 let cz:=(cW (dG 3 false) j4).2
 let sW:=(nk 10 cz).2
 have iH:=Wk (A:=A) (B:=A) (D:=j4) (ls:=[(kE,.aN (ns.map V.int))]) dy dy
 have hO:=Wo (A:=A) (B:=A) (D:=cz) (L:=.list (bE (cR j4))) (ls:=[(kE,.aN (ns.map V.int)),(fE,.ref 7)])
 rw[K0] at hO
 have aw:ek A A [.list (bE (cR j4)),.list ((kN 10 cz).map cg)]:=⟨dy,dy,by
  show (dS _ (bE (cR j4))&&(dS _ ((kN 10 cz).map cg)&&true))=true
  rw[i8 (Nat.zero_le _) _ (x9 _),vI];rfl⟩
 have sM:=Wr (A:=A) (B:=A) (D:=sW) (L:=.list (bE (cR j4))) (Q:=.list ((kN 10 cz).map cg)) (ls:=[(kE,.aN (ns.map V.int)),(fE,.ref 7),(Co,.ref 8)]) aw
 have vr:=Ws (A:=A) (B:=A) (D:=sW) (L:=.list (bE (cR j4))) (Q:=.list ((kN 10 cz).map cg)) (v:=.aN (ns.map V.int))
 have Zm:=Wu (A:=A) (B:=A) (D:=sW) (E:=j4) (Q:=.list ((kN 10 cz).map cg)) (v:=.aN (ns.map V.int)) dy dy (vI _)
 have Zn:=YF (A:=A) (B:=A) (D:=sW) (F:=comp (cR j4) hg) (L:=.list (bE (cR j4))) (jm:=(kN 10 cz).map cg) (v:=.aN (ns.map V.int))
 have Dj:=YG (A:=A) (B:=A) (D:=sW) (F:=comp (cR j4) hg) (L:=.list (bE (cR j4))) (jm:=(kN 10 cz).map cg) (v:=.aN (ns.map V.int))
 obtain ⟨ZT,wf,am,ρ,wr,bW,ρ',Zo,x⟩:=YQ (A:=A) (B:=A) (D:=sW) (E:=j4) (ds:=kN 10 cz) (v:=.aN (ns.map V.int)) dy dy (KZ 10 cz)
 obtain ⟨Zp,Zq,t0,t1⟩:=Y8 (v:=.aN (ns.map V.int)) x
 exact ⟨_,Zp,_,_,_,_,ab.cons (Lp.mono (by decide))<|ab.cons (bJ:=[(kE,.aN (ns.map V.int)),(fE,.ref 7)]) (iH.mono (by decide))<|ab.cons (bJ:=[(kE,.aN (ns.map V.int)),(fE,.ref 7),(Co,.ref 8)]) (hO.mono (by decide)) <|
  ab.cons (bJ:=kF (.aN (ns.map V.int))) (sM.mono (by decide))<|ab.cons (vr.mono (by decide))<|ab.cons (Zm.mono (by decide))<|ab.cons (Zn.mono (by decide))<|ab.cons (Dj.mono (by decide))<|ab.cons Zo Zq,t0,t1⟩
end
theorem Zr:Bw:=fun ns _=>by
 obtain ⟨ls,H',rE,bz,aS,gb,g,t0,t1⟩:=Zl ns
 obtain ⟨dr,o',K,x⟩:=g True trivial
 have x:=x K 200 (Nat.le_refl _) (by decide)
 refine ⟨K,⟨H',dr⟩,⟨qT,[kE],[],fB.1,some (1,"law.<locals>.<lambda>"),false⟩,rE,bz,aS,gb,by kernel_rfl,?_,o',t0,t1⟩
 have e:bI (e2 K) 200 ⟨qT,[kE],[],fB.1,some (1,"law.<locals>.<lambda>"),false⟩ [.aN (ns.map .int)] jK=((e2 K).ex 200 (ij [(kE,.aN (ns.map V.int))]) fB.1 ⟨[oJ,oK,.cell none],True⟩).bind fun r=>some (iA r.1,r.2.2):=by kernel_rfl
 exact e.trans (bj x)
theorem law_holds:ho.Holds:=Ud Zr
end Mine
theorem PySem.Challenge.cw_pc0097_01_holds : PySem.Challenge.rw_pc0097_01.Holds :=
  Mine.law_holds
