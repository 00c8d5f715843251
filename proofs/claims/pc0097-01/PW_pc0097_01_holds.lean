import PyProof.Rows.All
import Wide.All
import OpenK.AllK
import Wide.FinOn
import PySem.Challenge.RW_pc0097_01
open PySem PySem.W PyProof.Rows
set_option Elab.async false
set_option maxRecDepth 100000
set_option maxHeartbeats 0
set_option bootstrap.genMatcherCode false
set_option tactic.hygienic false
set_option genInjectivity false
set_option genSizeOf false
set_option linter.unusedVariables false
set_option linter.constructorNameAsVariable false
set_option linter.unusedSimpArgs false
set_option linter.unusedSectionVars false
local macro_rules | `(tactic| omega) => `(tactic| first | decide | lia -matchEqs -splitMatch)
namespace Mine
section
set_option backward.match.sparseCases false
noncomputable abbrev bz:Program:=PySem.Challenge.pw_pc0097_01
noncomputable abbrev er:=PySem.W.Fast.tw10110043849684766642 PySem.W.Fast.tw14364793385576792824
noncomputable def bd:List Stmt:=bz.main.body
noncomputable def st (i:Nat):Stmt:=match bd[i]? with |some s=>s |none=>.Pass default
noncomputable def cst (i j:Nat):Stmt:=match st i with |.ClassDef _ _ _ b _ _ _ _ _ _ _=>(match b[j]? with |some s=>s |none=>.Pass default) |_=>.Pass default
noncomputable def cb (s:Stmt) (q:Str) (g:Addr) (Dt pm cd:Value):FuncData:=match s with
 |.FunctionDef n a b _ _ _ sc _ _ _=>{name:=n,qualname:=q,params:=a,body:=.stmts b,scope:=sc,globals:=g,closure:=[],defaults:=Dt,kwdefaults:=.none,pyModule:=pm,code:=cd}
 |_=>default
noncomputable def k (p:Params) (n:Str) (t:Tok) (v:Value):DictEntry:=⟨PyData.keyHash p n,.str n t,v⟩
noncomputable def cut (n:Nat):Nat→Nat→BT→BT
 |_,_,.nil=>.nil
 |s,b,.node v l r=>match Nat.blt b n with
  |true=>.node v (cut n (2 * s) (s+b) l) (cut n (2 * s) (2 * s+b) r)
  |false=>.nil
noncomputable def lf:Life:={}
noncomputable def e0:Drawn:={}
noncomputable def ev:Env:={scope:=bz.main.scope,locals:=mainNs,globals:=mainNs,cells:=[],code:=.ref 13,frame:=some 14}
noncomputable def bL:Code:=.body bd ev
noncomputable def cG:List Frame:=[topFrame ⟨0,0,0,0⟩]
noncomputable def an:Option Value:=some (.ref 6)
noncomputable def dJ (l:List Value):Obj:=⟨.type "tuple",none,.seq ⟨l⟩ 0,#[]⟩
noncomputable def iv (l:List Value):Obj:=⟨.none,none,.fields ⟨l⟩,#[]⟩
noncomputable def hD (t:String) (l:List Value):Obj:=⟨.type t,none,.fields ⟨l⟩,#[]⟩
noncomputable def Du (d:FuncData):Obj:=⟨.none,none,.func d,#[]⟩
noncomputable def lE (l:List Str):Tok→List Value:=List.rec (fun _=>[]) (fun s _ f n=>.str s n::f (n+1)) l
noncomputable def Lw (n:Nat):Nat→List Value:=Nat.rec (fun _=>[]) (fun _ f a=>.ref a::f (a+1)) n
noncomputable def e1 (nm oZ:Str) (t Dv:Nat) (ln ac kR:Int) (a c:Nat) (b:Bool) (v1 v2 o1:Value):Obj:=hD "code" [.str nm t,.str oZ (t+1),.str "/claim/cut.py" (t+2),.int ln 0,.int ac 0,.int 0 0,.int 0 0,.int kR 0,.ref a,.bool b,.int 181 0,.ref c,.none,v1,v2,o1,.int (Int.ofNat Dv) 0,.int ln 0,.str "/claim/cut.py" (Dv+1)]
noncomputable def Dw (s:Stmt) (oZ:Str) (d m c:Value):Obj:=⟨.type "function",none,.func (cb s oZ 3 d m c),#[]⟩
noncomputable def bh (s:Stmt) (nm oZ:Str) (i t:Nat) (ln ac:Int) (d m:Value) (vs:List Str):List Obj :=
 [dJ [],iv [],dJ (lE vs (t+3)),dJ [],Du (cb s oZ 0 .none .none .none),e1 nm oZ t (t+3+vs.length) ln ac 3 i (i+1) true (.ref (i+2)) (.ref (i+3)) (.ref (i+4)),Dw s oZ d m (.ref (i+5))]
noncomputable def jq (s:Stmt) (nm:Str) (i t:Nat) (ln ac:Int) (m:Value):List Obj :=
 [dJ [],iv [],Du (cb s nm 0 .none .none .none),e1 nm nm t (t+3) ln ac 3 i (i+1) true .none .none (.ref (i+2)),Dw s nm .none m (.ref (i+3))]
noncomputable abbrev hk:=List (Str×Tok×Value)
noncomputable def fA (a b:hk):hk:=a++b
noncomputable def aZ (a b:List Obj):List Obj:=a++b
noncomputable def gC (l:List (String×Tok×Nat)):hk:=l.map fun x=>(x.1,x.2.1,.ref x.2.2)
noncomputable def j6 (l:List (String×Tok×Int×Tok)):hk:=l.map fun x=>(x.1,x.2.1,.int x.2.2.1 x.2.2.2)
noncomputable def y4 (p:Params) (l:hk):List DictEntry:=l.map fun x=>k p x.1 x.2.1 x.2.2
noncomputable def lF (p:Params) (l:hk) (e:Nat):Obj:=⟨.type "dict",none,.dict ⟨y4 p l⟩ e,#[]⟩
noncomputable def dy (p:Params) (nm:Str) (m:Value) (t:Tok) (ln:Int) (b:Bool) (l:hk) (e:Nat):Obj :=
 lF p (("__module__",t,m)::fA (bif b then [("__qualname__",t+2,.str nm (t+1))] else []) (("__firstlineno__",t+4,.int ln (t+3))::l)) e
noncomputable def kS (nm:Str) (bs ms:List Value) (i:Nat) (ss:List Value) (a:Option Value) (t:Tok) (n:String):Obj :=
 ⟨.type "type",none,.cls {name:=nm,bases:=bs,mro:=.ref i::ms,ns:=i - 1,qualname:=nm,hasDict:=true,slotNames:=[],subclasses:=ss,abstract:=false,collection:=none,hasDel:=false},#[a,none,some (.str nm t),some (.str nm (t+8)),some (.builtin n),some (.bool true)]⟩
noncomputable def lG (c d:Nat) (m:Value):Obj:=⟨.type "frame",none,.plain,#[some (.ref c),some (.ref 3),some (.ref d),none,some m,none,some (.ref 0)]⟩
noncomputable def fm (l:List (Int×Nat)):List Value:=List.rec [] (fun x _ f=>.int x.1 0::.int 4 0::.ref x.2::f) l
noncomputable def Lx (l:List (Int×Int×Nat)):List Value:=List.rec [] (fun x _ f=>.int x.1 0::.int x.2.1 0::.ref x.2.2::f) l
noncomputable def s7 (l:List (String×String×Int×Int)):Tok→List Obj:=List.rec (fun _=>[]) (fun x _ f t=>dJ [.str x.1 t,.str x.2.1 (t+1),.int x.2.2.1 (t+2),.int x.2.2.2 (t+3)]::f (t+4)) l
noncomputable def hn (i:Nat):List Obj:=[hD "super" [.ref i,.ref i,.ref i],hD "builtin_function_or_method" [.builtin "object.__init_subclass__",.ref i]]
noncomputable def mK:Obj:=hD "builtin_function_or_method" [.builtin "type.__prepare__",.type "type"]
noncomputable def Dx (l:List Obj):Bool→List Obj:=List.rec (motive:=fun _=>Bool→List Obj) (fun _=>[]) (fun x _ f b=>bif b then x::f false else f true) l
noncomputable def hZ (n:Nat):List Obj→BT:=Nat.rec (motive:=fun _=>List Obj→BT) (fun _=>.nil) (fun _ f l=>List.rec (motive:=fun _=>BT) .nil (fun v r _=>.node v (f (Dx r true)) (f (Dx r false))) l) n
noncomputable def hE:Value:=.str "law_pc0097_01" 1885
noncomputable def y5:Value:=.str "__main__" 164
noncomputable def gS:Value:=.str "js.codes" 194
noncomputable def gD:Value:=.str "js.assembler" 823
noncomputable def ho:Value:=.str "js.comp_code" 1002
noncomputable def md5:Value:=.str "js.comp_base" 1136
noncomputable def j7:Value:=.str "js.ways" 1239
noncomputable def vN:Value:=.str "js.jumps" 1351
noncomputable def gn:Value:=.str "js.comp_expr" 1404
noncomputable def fB:Value:=.str "js.comp_stmt" 1615
noncomputable def vO:Value:=.str "js.nodes" 1849
noncomputable def Dy:hk:=gC [("__init__",724,122),("__static_attributes__",727,123)]
noncomputable def Dz:hk:=gC [("__init__",755,142),("__static_attributes__",771,143)]
noncomputable def DA:hk:=gC [("__init__",846,205),("here",853,212),("emit",862,220),("label",869,227),("place",877,234),("jump",886,241),("const",896,248),("emit_const",904,255),("emit_named",913,262),("inner",921,269),("handler",933,276),("place_of",942,283),("placed_code",953,290),("placed_handlers",968,297),("unit",976,304),("__static_attributes__",994,305)]
noncomputable def DB:hk:=gC [("__init__",1033,332),("is_open",1040,339),("set_line",1048,346),("new_label",1055,353),("meet",1064,360),("add",1073,368),("add_const",1081,375),("add_named",1090,382),("jump_to",1099,389),("stand",1107,396),("enter",1116,403),("mark",1124,410),("__static_attributes__",1128,411)]
noncomputable def DC:hk:=gC [("__init__",1172,433),("new_local",1179,440),("get_name",1189,447),("set_place",1199,454),("set_name",1207,461),("keep",1215,468),("copy_local",1224,475),("__static_attributes__",1231,476)]
noncomputable def DD:hk:=gC [("__init__",1275,496),("is_loop",1282,503),("__static_attributes__",1287,504)]
noncomputable def DE:hk:=gC [("inner_unit",1486,594),("value",1496,601),("other_value",1507,608),("values",1516,615),("closure",1524,622),("literal",1536,629),("call",1546,636),("assign",1556,643),("element",1564,650),("reckon",1572,657),("update",1583,664),("stepped",1593,671),("unary",1602,678),("delete",1610,685),("__static_attributes__",1611,686)]
noncomputable def DF:hk:=gC [("statements",1642,705),("statement",1652,712),("drop_result",1659,719),("variables",1669,726),("condition",1681,733),("labelled",1692,740),("loop",1706,747),("body",1715,754),("while_loop",1725,761),("do_loop",1736,768),("for_loop",1750,775),("keys_loop",1762,782),("take_key",1770,789),("leave_function",1779,796),("guarded",1799,803),("kept_result",1807,810),("close_guarded",1817,817),("caught",1833,824),("last",1843,831),("__static_attributes__",1845,832)]
noncomputable def DG:hk:=gC [("__init__",1872,850),("__static_attributes__",1877,851)]
noncomputable def s8:Obj:=kS "CompBase" [.type "object"] [.type "object"] 478 [] none 1152 "object.__new__"
noncomputable def DH:Obj:=kS "CompExpr" [.ref 478] [.ref 478,.type "object"] 688 [] (some (.ref 581)) 1467 "object.__new__"
noncomputable def Ly (l:List (String×Int)):Tok→hk:=List.rec (fun _=>[]) (fun x _ f t=>(x.1,t,.int x.2 (t - 1))::f (t+2)) l
noncomputable def DI:hk:=fA (fA [("__doc__",166,.none),("__package__",167,.none),("__loader__",168,.builtin "__main__.__loader__#opaque"),("__spec__",169,.none)] (fA (gC [("__annotations__",170,6),("__builtins__",171,4)]) (fA [("__file__",173,.str "/claim/cut.py" 172),("__cached__",174,.none)] (gC [("_wall",193,21)])))) (fA (Ly [("OP_UNDEF",0),("OP_NULL",1),("OP_TRUE",2),("OP_FALSE",3),("OP_CONST",4),("OP_THIS",5),("OP_POP",6),("OP_DUP",7),("OP_DUP2",8),("OP_SWAP",9),("OP_ROT3",10),("OP_GETLOC",11),("OP_SETLOC",12),("OP_GETCELL",13),("OP_SETCELL",14),("OP_GETUP",15),("OP_SETUP",16),("OP_FRESH",17),("OP_GETGLOB",18),("OP_TYPEGLOB",19),("OP_SETGLOB",20),("OP_GETPROP",23),("OP_SETPROP",24),("OP_GETELEM",25),("OP_SETELEM",26),("OP_DELPROP",27),("OP_DELELEM",28),("OP_DELNAME",29),("OP_ADD",30),("OP_SUB",31),("OP_MUL",32),("OP_DIV",33),("OP_MOD",34),("OP_SHL",35),("OP_SHR",36),("OP_USHR",37),("OP_AND",38),("OP_OR",39),("OP_XOR",40),("OP_EQ",41),("OP_NE",42),("OP_SEQ",43),("OP_SNE",44),("OP_LT",45),("OP_GT",46),("OP_LE",47),("OP_GE",48),("OP_IN",49),("OP_INSTANCEOF",50),("OP_NEG",51),("OP_TONUM",52),("OP_NOT",53),("OP_BITNOT",54),("OP_TYPEOF",55),("OP_INC",56),("OP_DEC",57),("OP_JMP",58),("OP_JF",59),("OP_JT",60),("OP_JFK",61),("OP_JTK",62),("OP_CALL",63),("OP_NEW",64),("OP_RET",65),("OP_THROW",66),("OP_CLOSURE",67),("OP_NEWOBJ",68),("OP_NEWARR",69),("OP_HOLE",70),("OP_INITPROP",71),("OP_INITGET",72),("OP_INITSET",73),("OP_METHOD",74),("OP_METHODEL",75),("OP_FORIN",76),("OP_NEXTIN",77),("OP_GOSUB",78),("OP_RETSUB",79),("OP_CHECKOBJ",80),("OP_TOKEY",81),("OP_ROT4",82),("OP_FAILSET",83),("OP_REGEXP",84)] 197) (fA (gC [("OPERATIONS",702,107),("LAST_OPS",703,108),("BadCode",734,125),("Unit",778,145),("op_name",785,156),("arg_kind",792,163),("taken_count",800,170),("put_count",807,177),("is_last",814,184),("same_constant",822,191),("Code",1001,307),("depth_at_target",1011,318),("OpenCode",1135,413),("GET_OPS",1144,418),("SET_OPS",1151,419),("CompBase",1238,478)]) (fA [("LOOP",1242,.str "loop" 1241),("KEYS",1244,.str "keys" 1243),("CHOICE",1246,.str "choice" 1245),("LABEL",1248,.str "label" 1247),("GUARDED",1250,.str "guarded" 1249),("FINALLY",1252,.str "finally" 1251)] (gC [("Control",1294,506),("leave_down_to",1304,517),("broken",1314,524),("continued",1324,531),("break_out",1334,538),("go_again",1344,545),("is_guarded",1350,550),("lay_branch",1367,557),("lay_choice",1382,564),("lay_tests",1397,571),("lay_switch",1403,576),("BINARY_OPS",1448,577),("UNARY_OPS",1459,579),("ITEM_OPS",1466,580),("CompExpr",1614,688),("LOOPS",1621,691),("CompStmt",1848,834),("Node",1884,853),("_law_take",1894,864),("_law_name",1902,871),("_law_target",1911,878),("_law_line",1917,883),("_law_view",1924,890),("_law_get",1933,897),("_law_set",1942,904),("_law_keyed",1954,911),("_law_do",1968,918),("_law_all",1978,925),("_law_plain",1984,930),("_law_caught",1999,937),("_law_run",2014,944),("_law_read",2020,949),("law",2026,954)]))))
noncomputable def Lz (p:Params):List DictEntry:=y4 p DI
noncomputable def LA:List Value:=Lx [(1,0,20),(90,0,114),(96,0,134),(114,0,155),(116,0,162),(118,0,169),(120,0,176),(122,0,183),(124,0,190),(127,0,197),(224,0,317),(228,0,324),(286,0,425),(334,0,488),(344,0,516),(353,0,523),(361,0,530),(367,0,537),(371,0,544),(375,0,549),(378,0,556),(394,0,563),(410,0,570),(426,0,575),(441,0,586),(642,0,697),(873,0,842),(881,0,863),(886,0,870),(888,0,877),(899,0,882),(919,0,889),(927,0,896),(933,0,903),(937,0,910),(950,0,917),(979,0,924),(985,0,929),(1017,0,936),(1025,0,943),(1050,0,948),(1052,0,953)]
noncomputable def fY (p:Params) (v:Value) (n iw:Nat):Obj:=⟨(.type "dict"),none,.dict (k p "__name__" 165 v::(Lz p).take (n - 1)).toArray iw,#[]⟩
noncomputable def fZ (n:Nat):Obj:=⟨.none,none,.fields (LA.take n).toArray,#[]⟩
noncomputable def es (p:Params):Obj:=⟨.none,none,.dict ⟨y4 p (j6 [("type.__subclasses__.Exception.0",731,125,0),("type.__subclasses__.Exception.n",732,1,0)])⟩ 2,#[]⟩
noncomputable abbrev o0 (p:Params):Obj:=boot_o_0 p
noncomputable def fP (p:Params):Obj:=fY p hE 148 148
noncomputable abbrev f3 (p:Params):Obj:=boot_o_4 p
noncomputable def hl (p:Params):List Obj :=
 aZ ([boot_o_0 p,boot_o_1 p,es p,fP p,boot_o_4 p,boot_o_5 p,boot_o_6 p,boot_o_7 p,boot_o_8 p,boot_o_9 p,boot_o_10 p,dJ [],fZ 126,e1 "<module>" "<module>" 182 185 1 0 0 11 12 false .none .none .none,lG 13 3 y5]) <|
 aZ (bh (st 0) "_wall" "_wall" 15 187 1 1 .none y5 ["k"]) <|
 aZ (s7 [("UNDEF","",0,1),("NULL","",0,1),("TRUE","",0,1),("FALSE","",0,1),("CONST","k",0,1),("THIS","",0,1),("POP","",1,0),("DUP","",1,2),("DUP2","",2,4),("SWAP","",2,2),("ROT3","",3,3),("GETLOC","l",0,1),("SETLOC","l",1,1),("GETCELL","c",0,1),("SETCELL","c",1,1),("GETUP","u",0,1),("SETUP","u",1,1),("FRESH","c",0,0),("GETGLOB","s",0,1),("TYPEGLOB","s",0,1),("SETGLOB","s",1,1),("DECLVAR","s",0,0),("DECLFUN","s",1,0),("GETPROP","s",1,1),("SETPROP","s",2,1),("GETELEM","",2,1),("SETELEM","",3,1),("DELPROP","s",1,1),("DELELEM","",2,1),("DELNAME","s",0,1),("ADD","",2,1),("SUB","",2,1),("MUL","",2,1),("DIV","",2,1),("MOD","",2,1),("SHL","",2,1),("SHR","",2,1),("USHR","",2,1),("AND","",2,1),("OR","",2,1),("XOR","",2,1),("EQ","",2,1),("NE","",2,1),("SEQ","",2,1),("SNE","",2,1),("LT","",2,1),("GT","",2,1),("LE","",2,1),("GE","",2,1),("IN","",2,1),("INSTANCEOF","",2,1),("NEG","",1,1),("TONUM","",1,1),("NOT","",1,1),("BITNOT","",1,1),("TYPEOF","",1,1),("INC","",1,1),("DEC","",1,1),("JMP","t",0,0),("JF","t",1,0),("JT","t",1,0),("JFK","t",1,0),("JTK","t",1,0),("CALL","n",2,1),("NEW","n",1,1),("RET","",1,0),("THROW","",1,0),("CLOSURE","f",0,1),("NEWOBJ","",0,1),("NEWARR","n",0,1),("HOLE","",0,1),("INITPROP","s",2,1),("INITGET","s",2,1),("INITSET","s",2,1),("METHOD","s",1,2),("METHODEL","",2,2),("FORIN","",1,1),("NEXTIN","t",1,2),("GOSUB","t",0,0),("RETSUB","",2,0),("CHECKOBJ","",1,1),("TOKEY","",2,2),("ROT4","",4,4),("FAILSET","s",1,0),("REGEXP","",2,1)] 362) <|
 aZ ([⟨.type "list",none,.seq ⟨Lw 85 22⟩ 0,#[]⟩,⟨.type "list",none,.seq ⟨[.int 58 308,.int 65 322,.int 66 324,.int 79 350,.int 83 358]⟩ 0,#[]⟩,dJ [.type "Exception"],mK,dy p "BadCode" gS 711 90 true Dy 5,dJ [],iv (fm [(92,121)]),e1 "BadCode" "BadCode" 706 709 90 0 0 112 113 false .none .none .none,lG 114 111 gS]) <|
 aZ (bh (cst 87 0) "__init__" "BadCode.__init__" 116 716 92 3 .none gS ["self","text","pc"]) <|
 aZ ([dJ (lE ["pc","text"] 725),dy p "" gS 711 90 false (fA Dy (fA (gC [("__weakref__",729,126)]) ([("__doc__",730,.none)]))) 3,kS "BadCode" [.type "Exception"] [.type "Exception",.type "BaseException",.type "object"] 125 [] (some (.ref 109)) 704 "Exception.__new__",hD "getset_descriptor" [.str "__weakref__" 728,.ref 125,.builtin "ExceptionGroup.__weakref__",.none]]) <|
 aZ (hn 125) <|
 aZ ([dJ [],mK,dy p "Unit" gS 742 96 true Dz 5,dJ [],iv (fm [(98,141)]),e1 "Unit" "Unit" 737 740 96 0 0 132 133 false .none .none .none,lG 134 131 gS]) <|
 aZ (bh (cst 88 0) "__init__" "Unit.__init__" 136 747 98 3 .none gS ["self","name","params"]) <|
 aZ ([dJ (lE ["arguments_place","captures","cell_count","code","consts","handlers","is_strict","lines","local_count","name","param_places","params","self_slot","units","uses_arguments"] 756),dy p "" gS 742 96 false (fA Dz (fA (gC [("__dict__",773,146),("__weakref__",775,147)]) ([("__doc__",776,.none)]))) 4,kS "Unit" [.type "object"] [.type "object"] 145 [] none 735 "object.__new__",hD "getset_descriptor" [.str "__dict__" 772,.ref 145,.builtin "function.__dict__",.builtin "function.__dict__#set"],hD "getset_descriptor" [.str "__weakref__" 774,.ref 145,.builtin "ExceptionGroup.__weakref__",.none]]) <|
 aZ (hn 145) <|
 aZ (bh (st 89) "op_name" "op_name" 150 779 114 1 .none gS ["op"]) <|
 aZ (bh (st 90) "arg_kind" "arg_kind" 157 786 116 1 .none gS ["op"]) <|
 aZ (bh (st 91) "taken_count" "taken_count" 164 793 118 2 .none gS ["op","arg"]) <|
 aZ (bh (st 92) "put_count" "put_count" 171 801 120 1 .none gS ["op"]) <|
 aZ (bh (st 93) "is_last" "is_last" 178 808 122 1 .none gS ["op"]) <|
 aZ (bh (st 94) "same_constant" "same_constant" 185 815 124 2 .none gS ["one","other"]) <|
 aZ ([dJ [],mK,dy p "Code" gD 832 127 true DA 19,dJ [],iv (fm [(129,204),(148,211),(151,219),(156,226),(160,233),(165,240),(168,247),(175,254),(178,261),(181,268),(185,275),(188,282),(193,289),(199,296),(207,303)]),e1 "Code" "Code" 827 830 127 0 0 195 196 false .none .none .none,lG 197 194 gD]) <|
 aZ (bh (cst 96 0) "__init__" "Code.__init__" 199 837 129 4 .none gD ["self","name","params","is_strict"]) <|
 aZ (bh (cst 96 1) "here" "Code.here" 206 847 148 1 .none gD ["self"]) <|
 aZ ([dJ [.none]]) <|
 aZ (bh (cst 96 2) "emit" "Code.emit" 214 854 151 3 (.ref 213) gD ["self","op","arg"]) <|
 aZ (bh (cst 96 3) "label" "Code.label" 221 863 156 1 .none gD ["self"]) <|
 aZ (bh (cst 96 4) "place" "Code.place" 228 870 160 2 .none gD ["self","label"]) <|
 aZ (bh (cst 96 5) "jump" "Code.jump" 235 878 165 3 .none gD ["self","op","label"]) <|
 aZ (bh (cst 96 6) "const" "Code.const" 242 887 168 2 .none gD ["self","value","at","known"]) <|
 aZ (bh (cst 96 7) "emit_const" "Code.emit_const" 249 897 175 2 .none gD ["self","value"]) <|
 aZ (bh (cst 96 8) "emit_named" "Code.emit_named" 256 905 178 3 .none gD ["self","op","text"]) <|
 aZ (bh (cst 96 9) "inner" "Code.inner" 263 914 181 2 .none gD ["self","unit"]) <|
 aZ (bh (cst 96 10) "handler" "Code.handler" 270 922 185 6 .none gD ["self","start","end","target","depth","is_finally"]) <|
 aZ (bh (cst 96 11) "place_of" "Code.place_of" 277 934 188 3 .none gD ["self","label","pc"]) <|
 aZ (bh (cst 96 12) "placed_code" "Code.placed_code" 284 943 193 1 .none gD ["self","found","pc","op","arg"]) <|
 aZ (bh (cst 96 13) "placed_handlers" "Code.placed_handlers" 291 954 199 1 .none gD ["self","found","start","end","target","depth","is_finally","first","last"]) <|
 aZ (bh (cst 96 14) "unit" "Code.unit" 298 969 207 1 .none gD ["self","made"]) <|
 aZ ([dJ (lE ["arguments_place","captures","cell_count","code","consts","handlers","is_strict","line","lines","local_count","name","param_places","params","places","self_slot","units","uses_arguments"] 977),dy p "" gD 832 127 false (fA DA (fA (gC [("__dict__",996,308),("__weakref__",998,309)]) ([("__doc__",999,.none)]))) 4,kS "Code" [.type "object"] [.type "object"] 307 [] none 825 "object.__new__",hD "getset_descriptor" [.str "__dict__" 995,.ref 307,.builtin "function.__dict__",.builtin "function.__dict__#set"],hD "getset_descriptor" [.str "__weakref__" 997,.ref 307,.builtin "ExceptionGroup.__weakref__",.none]]) <|
 aZ (hn 307) <|
 aZ (bh (st 98) "depth_at_target" "depth_at_target" 312 1004 224 2 .none ho ["op","depth"]) <|
 aZ ([dJ [],mK,dy p "OpenCode" ho 1019 228 true DB 16,dJ [],iv (fm [(230,331),(235,338),(238,345),(241,352),(245,359),(250,367),(255,374),(259,381),(263,388),(269,395),(275,402),(279,409)]),e1 "OpenCode" "OpenCode" 1014 1017 228 0 0 322 323 false .none .none .none,lG 324 321 ho]) <|
 aZ (bh (cst 99 0) "__init__" "OpenCode.__init__" 326 1024 230 4 .none ho ["self","name","params","is_strict"]) <|
 aZ (bh (cst 99 1) "is_open" "OpenCode.is_open" 333 1034 235 1 .none ho ["self"]) <|
 aZ (bh (cst 99 2) "set_line" "OpenCode.set_line" 340 1041 238 2 .none ho ["self","line"]) <|
 aZ (bh (cst 99 3) "new_label" "OpenCode.new_label" 347 1049 241 1 .none ho ["self"]) <|
 aZ (bh (cst 99 4) "meet" "OpenCode.meet" 354 1056 245 3 .none ho ["self","label","depth"]) <|
 aZ ([dJ [.none]]) <|
 aZ (bh (cst 99 5) "add" "OpenCode.add" 362 1065 250 3 (.ref 361) ho ["self","op","arg"]) <|
 aZ (bh (cst 99 6) "add_const" "OpenCode.add_const" 369 1074 255 2 .none ho ["self","value"]) <|
 aZ (bh (cst 99 7) "add_named" "OpenCode.add_named" 376 1082 259 3 .none ho ["self","op","text"]) <|
 aZ (bh (cst 99 8) "jump_to" "OpenCode.jump_to" 383 1091 263 3 .none ho ["self","op","label"]) <|
 aZ (bh (cst 99 9) "stand" "OpenCode.stand" 390 1100 269 2 .none ho ["self","label"]) <|
 aZ (bh (cst 99 10) "enter" "OpenCode.enter" 397 1108 275 3 .none ho ["self","label","depth"]) <|
 aZ (bh (cst 99 11) "mark" "OpenCode.mark" 404 1117 279 1 .none ho ["self","label"]) <|
 aZ ([dJ (lE ["depth","depths","made"] 1125),dy p "" ho 1019 228 false (fA DB (fA (gC [("__dict__",1130,414),("__weakref__",1132,415)]) ([("__doc__",1133,.none)]))) 4,kS "OpenCode" [.type "object"] [.type "object"] 413 [] none 1012 "object.__new__",hD "getset_descriptor" [.str "__dict__" 1129,.ref 413,.builtin "function.__dict__",.builtin "function.__dict__#set"],hD "getset_descriptor" [.str "__weakref__" 1131,.ref 413,.builtin "ExceptionGroup.__weakref__",.none]]) <|
 aZ (hn 413) <|
 aZ ([lF p (j6 [("local",1138,11,218),("cell",1139,13,222),("up",1140,15,226)]) 3,lF p (j6 [("local",1145,12,220),("cell",1146,14,224),("up",1147,16,228)]) 3,dJ [],mK,dy p "CompBase" md5 1159 286 true DC 11,dJ [],iv (fm [(288,432),(296,439),(300,446),(307,453),(314,460),(320,467),(324,474)]),e1 "CompBase" "CompBase" 1154 1157 286 0 0 423 424 false .none .none .none,lG 425 422 md5]) <|
 aZ (bh (cst 103 0) "__init__" "CompBase.__init__" 427 1164 288 3 .none md5 ["self","scope","name"]) <|
 aZ (bh (cst 103 1) "new_local" "CompBase.new_local" 434 1173 296 1 .none md5 ["self"]) <|
 aZ (bh (cst 103 2) "get_name" "CompBase.get_name" 441 1180 300 2 .none md5 ["self","name","sort","where"]) <|
 aZ (bh (cst 103 3) "set_place" "CompBase.set_place" 448 1190 307 2 .none md5 ["self","place","sort","where"]) <|
 aZ (bh (cst 103 4) "set_name" "CompBase.set_name" 455 1200 314 2 .none md5 ["self","name"]) <|
 aZ (bh (cst 103 5) "keep" "CompBase.keep" 462 1208 320 2 .none md5 ["self","local"]) <|
 aZ (bh (cst 103 6) "copy_local" "CompBase.copy_local" 469 1216 324 3 .none md5 ["self","source","target"]) <|
 aZ ([dJ (lE ["code","controls","local_count","result","scope","view"] 1225),dy p "" md5 1159 286 false (fA DC (fA (gC [("__dict__",1233,479),("__weakref__",1235,480)]) ([("__doc__",1236,.none)]))) 4,kS "CompBase" [.type "object"] [.type "object"] 478 [.ref 688] none 1152 "object.__new__",hD "getset_descriptor" [.str "__dict__" 1232,.ref 478,.builtin "function.__dict__",.builtin "function.__dict__#set"],hD "getset_descriptor" [.str "__weakref__" 1234,.ref 478,.builtin "ExceptionGroup.__weakref__",.none]]) <|
 aZ (hn 478) <|
 aZ ([dJ [],mK,dy p "Control" j7 1260 334 true DD 6,dJ [],iv (fm [(336,495),(342,502)]),e1 "Control" "Control" 1255 1258 334 0 0 486 487 false .none .none .none,lG 488 485 j7]) <|
 aZ (bh (cst 111 0) "__init__" "Control.__init__" 490 1265 336 5 .none j7 ["self","kind","labels","behind","again"]) <|
 aZ (bh (cst 111 1) "is_loop" "Control.is_loop" 497 1276 342 1 .none j7 ["self"]) <|
 aZ ([dJ (lE ["again","behind","kind","labels"] 1283),dy p "" j7 1260 334 false (fA DD (fA (gC [("__dict__",1289,507),("__weakref__",1291,508)]) ([("__doc__",1292,.none)]))) 4,kS "Control" [.type "object"] [.type "object"] 506 [] none 1253 "object.__new__",hD "getset_descriptor" [.str "__dict__" 1288,.ref 506,.builtin "function.__dict__",.builtin "function.__dict__#set"],hD "getset_descriptor" [.str "__weakref__" 1290,.ref 506,.builtin "ExceptionGroup.__weakref__",.none]]) <|
 aZ (hn 506) <|
 aZ (bh (st 112) "leave_down_to" "leave_down_to" 511 1295 344 3 .none j7 ["code","controls","many","control"]) <|
 aZ (bh (st 113) "broken" "broken" 518 1305 353 2 .none j7 ["controls","label","at","control"]) <|
 aZ (bh (st 114) "continued" "continued" 525 1315 361 2 .none j7 ["controls","label","at","control"]) <|
 aZ (bh (st 115) "break_out" "break_out" 532 1325 367 3 .none j7 ["code","controls","label","at"]) <|
 aZ (bh (st 116) "go_again" "go_again" 539 1335 371 3 .none j7 ["code","controls","label","at"]) <|
 aZ (jq (st 117) "is_guarded" 546 1345 375 1 j7) <|
 aZ (bh (st 119) "lay_branch" "lay_branch" 551 1353 378 5 .none vN ["code","node","label","when","push","op","one","other","end"]) <|
 aZ (bh (st 120) "lay_choice" "lay_choice" 558 1368 394 3 .none vN ["code","node","push","end","op","one","other","test","no"]) <|
 aZ (bh (st 121) "lay_tests" "lay_tests" 565 1383 410 5 .none vN ["code","clauses","bodies","behind","push","other","at","clause","later"]) <|
 aZ (jq (st 122) "lay_switch" 572 1398 426 6 vN) <|
 aZ ([lF p (j6 [("+",1406,30,252),("-",1408,31,254),("*",1410,32,256),("/",1412,33,258),("%",1414,34,260),("<<",1416,35,262),(">>",1418,36,264),(">>>",1420,37,266),("&",1422,38,268),("|",1424,39,270),("^",1426,40,272),("==",1428,41,274),("!=",1430,42,276),("===",1432,43,278),("!==",1434,44,280),("<",1436,45,282),(">",1438,46,284),("<=",1440,47,286),(">=",1441,48,288),("in",1442,49,290),("instanceof",1443,50,292)]) 21,lF p (j6 [("<=",1440,47,286),(">=",1441,48,288),("in",1442,49,290),("instanceof",1443,50,292)]) 4,lF p (j6 [("-",1449,51,294),("+",1450,52,296),("!",1451,53,298),("~",1452,54,300),("typeof",1453,55,302)]) 5,lF p (j6 [("init",1460,71,334),("get",1461,72,336),("set",1462,73,338)]) 3,dJ [.ref 478],mK,dy p "CompExpr" gn 1474 441 true DE 18,dJ [],iv (fm [(443,593),(446,600),(474,607),(500,614),(504,621),(507,628),(527,635),(543,642),(569,649),(574,656),(578,663),(602,670),(609,677),(623,684)]),e1 "CompExpr" "CompExpr" 1469 1472 441 0 0 584 585 false .none .none .none,lG 586 583 gn]) <|
 aZ (bh (cst 127 0) "inner_unit" "CompExpr.inner_unit" 588 1479 443 2 .none gn ["self","node"]) <|
 aZ (bh (cst 127 1) "value" "CompExpr.value" 595 1487 446 2 .none gn ["self","node","kind","parts"]) <|
 aZ (bh (cst 127 2) "other_value" "CompExpr.other_value" 602 1497 474 2 .none gn ["self","node","kind","parts","one"]) <|
 aZ (bh (cst 127 3) "values" "CompExpr.values" 609 1508 500 2 .none gn ["self","nodes","one"]) <|
 aZ (bh (cst 127 4) "closure" "CompExpr.closure" 616 1517 504 2 .none gn ["self","node"]) <|
 aZ (bh (cst 127 5) "literal" "CompExpr.literal" 623 1525 507 2 .none gn ["self","node","items","one","sort","key"]) <|
 aZ (bh (cst 127 6) "call" "CompExpr.call" 630 1537 527 2 .none gn ["self","node","callee","args"]) <|
 aZ (bh (cst 127 7) "assign" "CompExpr.assign" 637 1547 543 4 .none gn ["self","op","target","node"]) <|
 aZ (bh (cst 127 8) "element" "CompExpr.element" 644 1557 569 2 .none gn ["self","target"]) <|
 aZ (bh (cst 127 9) "reckon" "CompExpr.reckon" 651 1565 574 2 .none gn ["self","op"]) <|
 aZ (bh (cst 127 10) "update" "CompExpr.update" 658 1573 578 4 .none gn ["self","op","is_prefix","target","step"]) <|
 aZ (bh (cst 127 11) "stepped" "CompExpr.stepped" 665 1584 602 4 .none gn ["self","step","is_prefix","turn"]) <|
 aZ (bh (cst 127 12) "unary" "CompExpr.unary" 672 1594 609 3 .none gn ["self","op","node"]) <|
 aZ (bh (cst 127 13) "delete" "CompExpr.delete" 679 1603 623 2 .none gn ["self","node"]) <|
 aZ ([dJ [],dy p "" gn 1474 441 false (fA DE ([("__doc__",1612,.none)])) 2,kS "CompExpr" [.ref 478] [.ref 478,.type "object"] 688 [.ref 834] (some (.ref 581)) 1467 "object.__new__"]) <|
 aZ (hn 688) <|
 aZ ([dJ (lE ["While","DoWhile","For","ForIn"] 1617),dJ [.ref 688],mK,dy p "CompStmt" fB 1629 642 true DF 23,dJ [],iv (fm [(644,704),(649,711),(679,718),(685,725),(692,732),(703,739),(718,746),(733,753),(738,760),(745,767),(753,774),(772,781),(786,788),(802,795),(814,802),(834,809),(841,816),(846,823),(862,830)]),e1 "CompStmt" "CompStmt" 1624 1627 642 0 0 695 696 false .none .none .none,lG 697 694 fB]) <|
 aZ (bh (cst 130 0) "statements" "CompStmt.statements" 699 1634 644 2 .none fB ["self","nodes","node"]) <|
 aZ (bh (cst 130 1) "statement" "CompStmt.statement" 706 1643 649 2 .none fB ["self","node","kind","parts"]) <|
 aZ (bh (cst 130 2) "drop_result" "CompStmt.drop_result" 713 1653 679 1 .none fB ["self"]) <|
 aZ (bh (cst 130 3) "variables" "CompStmt.variables" 720 1660 685 2 .none fB ["self","pairs","name","init"]) <|
 aZ (bh (cst 130 4) "condition" "CompStmt.condition" 727 1670 692 4 .none fB ["self","test","one","other","no","end"]) <|
 aZ (bh (cst 130 5) "labelled" "CompStmt.labelled" 734 1682 703 2 .none fB ["self","node","labels","inner","behind"]) <|
 aZ (bh (cst 130 6) "loop" "CompStmt.loop" 741 1693 718 3 .none fB ["self","node","labels","kind","parts","behind","again","control"]) <|
 aZ (bh (cst 130 7) "body" "CompStmt.body" 748 1707 733 3 .none fB ["self","node","control"]) <|
 aZ (bh (cst 130 8) "while_loop" "CompStmt.while_loop" 755 1716 738 4 .none fB ["self","test","node","control"]) <|
 aZ (bh (cst 130 9) "do_loop" "CompStmt.do_loop" 762 1726 745 4 .none fB ["self","node","test","control","top"]) <|
 aZ (bh (cst 130 10) "for_loop" "CompStmt.for_loop" 769 1737 753 3 .none fB ["self","parts","control","init","test","step","node","top"]) <|
 aZ (bh (cst 130 11) "keys_loop" "CompStmt.keys_loop" 776 1751 772 3 .none fB ["self","parts","control","target","owner","node"]) <|
 aZ (bh (cst 130 12) "take_key" "CompStmt.take_key" 783 1763 786 2 .none fB ["self","target"]) <|
 aZ (bh (cst 130 13) "leave_function" "CompStmt.leave_function" 790 1771 802 2 .none fB ["self","node","kept"]) <|
 aZ (bh (cst 130 14) "guarded" "CompStmt.guarded" 797 1780 814 2 .none fB ["self","node","block","name","caught","last","end","rest","depth","ahead","start","first","stop","is_empty"]) <|
 aZ (bh (cst 130 15) "kept_result" "CompStmt.kept_result" 804 1800 834 1 .none fB ["self","kept"]) <|
 aZ (bh (cst 130 16) "close_guarded" "CompStmt.close_guarded" 811 1808 841 4 .none fB ["self","last","rest","end"]) <|
 aZ (bh (cst 130 17) "caught" "CompStmt.caught" 818 1818 846 6 .none fB ["self","node","start","stop","depth","ahead","handler","view","place","kept"]) <|
 aZ (bh (cst 130 18) "last" "CompStmt.last" 825 1834 862 3 .none fB ["self","nodes","ahead","kept"]) <|
 aZ ([dJ (lE ["view"] 1844),dy p "" fB 1629 642 false (fA DF ([("__doc__",1846,.none)])) 2,kS "CompStmt" [.ref 688] [.ref 688,.ref 478,.type "object"] 834 [] (some (.ref 692)) 1622 "object.__new__"]) <|
 aZ (hn 834) <|
 aZ ([dJ [],mK,dy p "Node" vO 1858 873 true DG 5,dJ [],iv (fm [(875,849)]),e1 "Node" "Node" 1853 1856 873 0 0 840 841 false .none .none .none,lG 842 839 vO]) <|
 aZ (bh (cst 132 0) "__init__" "Node.__init__" 844 1863 875 4 .none vO ["self","kind","line","parts"]) <|
 aZ ([dJ (lE ["kind","line","parts","scope"] 1873),dy p "" vO 1858 873 false (fA DG (fA (gC [("__dict__",1879,854),("__weakref__",1881,855)]) ([("__doc__",1882,.none)]))) 4,kS "Node" [.type "object"] [.type "object"] 853 [] none 1851 "object.__new__",hD "getset_descriptor" [.str "__dict__" 1878,.ref 853,.builtin "function.__dict__",.builtin "function.__dict__#set"],hD "getset_descriptor" [.str "__weakref__" 1880,.ref 853,.builtin "ExceptionGroup.__weakref__",.none]]) <|
 aZ (hn 853) <|
 aZ (bh (st 134) "_law_take" "_law_take" 858 1887 881 2 .none hE ["box","wide"]) <|
 aZ (bh (st 135) "_law_name" "_law_name" 865 1895 886 2 .none hE ["box","many"]) <|
 aZ (bh (st 136) "_law_target" "_law_target" 872 1903 888 2 .none hE ["box","is_caught","form"]) <|
 aZ (jq (st 137) "_law_line" 879 1912 899 3 hE) <|
 aZ (bh (st 138) "_law_view" "_law_view" 884 1918 919 0 .none hE ["view"]) <|
 aZ (bh (st 139) "_law_get" "_law_get" 891 1925 927 2 .none hE ["world","name","value"]) <|
 aZ (bh (st 140) "_law_set" "_law_set" 898 1934 933 3 .none hE ["world","what","value"]) <|
 aZ (bh (st 141) "_law_keyed" "_law_keyed" 905 1943 937 3 .none hE ["world","target","key","owner","fault","spot"]) <|
 aZ (bh (st 142) "_law_do" "_law_do" 912 1955 950 2 .none hE ["world","node","kind","rows","found","value","fault","at"]) <|
 aZ (bh (st 143) "_law_all" "_law_all" 919 1969 979 2 .none hE ["world","lines","line","found"]) <|
 aZ (jq (st 144) "_law_plain" 926 1979 985 5 hE) <|
 aZ (bh (st 145) "_law_caught" "_law_caught" 931 1985 1017 4 .none hE ["unit","at","stack","fault","first","end","goal","depth","is_finally"]) <|
 aZ (bh (st 146) "_law_run" "_law_run" 938 2000 1025 2 .none hE ["world","unit","stack","pc","turn","at","fault","word","where"]) <|
 aZ (jq (st 147) "_law_read" 945 2015 1050 1 hE) <|
 jq (st 148) "law" 950 2021 1052 1 hE
noncomputable def full (p:Params):BT:=hZ 10 (hl p)
noncomputable def LB (p:Params):BT:=(BT.set ((BT.set ((BT.set (cut 15 1 0 (full p)) 2 (fun _=>⟨.none,none,(.dict #[] 0),#[]⟩))) 3 (fun _=>(fY p y5 9 9)))) 12 (fun _=>(fZ 0)))
noncomputable def s0 (w:World) (os:OsState):SharedT:=⟨LB w.params,15,lf,#[],e0,187,os⟩
noncomputable def qx:Pos:=⟨0,0,0,0⟩
noncomputable def LC (p:Params):BT:=(BT.set ((BT.set ((BT.set (cut 22 1 0 (full p)) 2 (fun _=>⟨.none,none,(.dict #[] 0),#[]⟩))) 3 (fun _=>(fY p gS 50 50)))) 12 (fun _=>(fZ 3)))
noncomputable def s1 (w:World) (os:OsState):SharedT:=⟨LC w.params,22,lf,#[],e0,276,os⟩
noncomputable def y6:Pos:=⟨44,0,44,5⟩
noncomputable def LD (p:Params):BT:=(BT.set ((BT.set ((BT.set (cut 22 1 0 (full p)) 2 (fun _=>⟨.none,none,(.dict #[] 0),#[]⟩))) 3 (fun _=>(fY p gS 93 93)))) 12 (fun _=>(fZ 3)))
noncomputable def s2 (w:World) (os:OsState):SharedT:=⟨LD w.params,22,lf,#[],e0,362,os⟩
noncomputable def y7:Pos:=⟨87,0,87,9⟩
noncomputable def LF (p:Params):BT:=(BT.set ((BT.set ((BT.set (cut 108 1 0 (full p)) 2 (fun _=>⟨.none,none,(.dict #[] 0),#[]⟩))) 3 (fun _=>(fY p gS 94 94)))) 12 (fun _=>(fZ 3)))
noncomputable def s3 (w:World) (os:OsState):SharedT:=⟨LF w.params,108,lf,#[],e0,703,os⟩
noncomputable def y8:Pos:=⟨88,0,88,10⟩
noncomputable def LG (p:Params):BT:=(BT.set ((BT.set (cut 129 1 0 (full p)) 3 (fun _=>(fY p gS 96 96)))) 12 (fun _=>(fZ 6)))
noncomputable def s4 (w:World) (os:OsState):SharedT:=⟨LG w.params,129,lf,#[],e0,735,os⟩
noncomputable def y9:Pos:=⟨90,0,95,20⟩
noncomputable def LH (p:Params):BT:=(BT.set ((BT.set (cut 185 1 0 (full p)) 3 (fun _=>(fY p gS 102 102)))) 12 (fun _=>(fZ 24)))
noncomputable def s5 (w:World) (os:OsState):SharedT:=⟨LH w.params,185,lf,#[],e0,815,os⟩
noncomputable def za:Pos:=⟨122,0,123,25⟩
noncomputable def LI (p:Params):BT:=(BT.set ((BT.set (cut 192 1 0 (full p)) 3 (fun _=>(fY p gD 103 103)))) 12 (fun _=>(fZ 27)))
noncomputable def s9 (w:World) (os:OsState):SharedT:=⟨LI w.params,192,lf,#[],e0,825,os⟩
noncomputable def zb:Pos:=⟨126,0,126,8⟩
noncomputable def LJ (p:Params):BT:=(BT.set ((BT.set (cut 312 1 0 (full p)) 3 (fun _=>(fY p gD 104 104)))) 12 (fun _=>(fZ 30)))
noncomputable def zc (w:World) (os:OsState):SharedT:=⟨LJ w.params,312,lf,#[],e0,1002,os⟩
noncomputable def zd:Pos:=⟨127,0,222,19⟩
noncomputable def LK (p:Params):BT:=(BT.set ((BT.set (cut 319 1 0 (full p)) 3 (fun _=>(fY p ho 105 105)))) 12 (fun _=>(fZ 33)))
noncomputable def ze (w:World) (os:OsState):SharedT:=⟨LK w.params,319,lf,#[],e0,1012,os⟩
noncomputable def zf:Pos:=⟨224,0,227,61⟩
noncomputable def LL (p:Params):BT:=(BT.set ((BT.set (cut 418 1 0 (full p)) 3 (fun _=>(fY p ho 106 106)))) 12 (fun _=>(fZ 36)))
noncomputable def zg (w:World) (os:OsState):SharedT:=⟨LL w.params,418,lf,#[],e0,1136,os⟩
noncomputable def zh:Pos:=⟨228,0,282,20⟩
noncomputable def LM (p:Params):BT:=(BT.set ((BT.set (cut 418 1 0 (full p)) 3 (fun _=>(fY p md5 106 106)))) 12 (fun _=>(fZ 36)))
noncomputable def lH (w:World) (os:OsState):SharedT:=⟨LM w.params,418,lf,#[],e0,1138,os⟩
noncomputable def qy:Pos:=⟨283,0,283,8⟩
noncomputable def LN (p:Params):BT:=(BT.set ((BT.set (cut 420 1 0 (full p)) 3 (fun _=>(fY p md5 108 108)))) 12 (fun _=>(fZ 36)))
noncomputable def qz (w:World) (os:OsState):SharedT:=⟨LN w.params,420,lf,#[],e0,1152,os⟩
noncomputable def qA:Pos:=⟨285,0,285,7⟩
noncomputable def LO (p:Params):BT:=(BT.set ((BT.set ((BT.set (cut 483 1 0 (full p)) 3 (fun _=>(fY p md5 109 109)))) 12 (fun _=>(fZ 39)))) 478 (fun _=>s8))
noncomputable def zi (w:World) (os:OsState):SharedT:=⟨LO w.params,483,lf,#[],e0,1239,os⟩
noncomputable def zj:Pos:=⟨286,0,326,25⟩
noncomputable def LP (p:Params):BT:=(BT.set ((BT.set ((BT.set (cut 525 1 0 (full p)) 3 (fun _=>(fY p j7 118 118)))) 12 (fun _=>(fZ 48)))) 478 (fun _=>s8))
noncomputable def zk (w:World) (os:OsState):SharedT:=⟨LP w.params,525,lf,#[],e0,1315,os⟩
noncomputable def zl:Pos:=⟨353,0,360,13⟩
noncomputable def LQ (p:Params):BT:=(BT.set ((BT.set ((BT.set (cut 577 1 0 (full p)) 3 (fun _=>(fY p gn 126 126)))) 12 (fun _=>(fZ 72)))) 478 (fun _=>s8))
noncomputable def qB (w:World) (os:OsState):SharedT:=⟨LQ w.params,577,lf,#[],e0,1406,os⟩
noncomputable def qC:Pos:=⟨437,0,437,8⟩
noncomputable def LR (p:Params):BT:=(BT.set ((BT.set ((BT.set (cut 579 1 0 (full p)) 3 (fun _=>(fY p gn 127 127)))) 12 (fun _=>(fZ 72)))) 478 (fun _=>s8))
noncomputable def mL (w:World) (os:OsState):SharedT:=⟨LR w.params,579,lf,#[],e0,1449,os⟩
noncomputable def mM:Pos:=⟨438,0,438,10⟩
noncomputable def LS (p:Params):BT:=(BT.set ((BT.set ((BT.set (cut 581 1 0 (full p)) 3 (fun _=>(fY p gn 129 129)))) 12 (fun _=>(fZ 72)))) 478 (fun _=>s8))
noncomputable def qD (w:World) (os:OsState):SharedT:=⟨LS w.params,581,lf,#[],e0,1467,os⟩
noncomputable def qE:Pos:=⟨440,0,440,8⟩
noncomputable def LU (p:Params):BT:=(BT.set ((BT.set ((BT.set (cut 691 1 0 (full p)) 3 (fun _=>(fY p gn 130 130)))) 12 (fun _=>(fZ 75)))) 688 (fun _=>DH))
noncomputable def zm (w:World) (os:OsState):SharedT:=⟨LU w.params,691,lf,#[],e0,1615,os⟩
noncomputable def zo:Pos:=⟨441,0,639,34⟩
noncomputable def LV (p:Params):BT:=(BT.set ((BT.set ((BT.set (cut 692 1 0 (full p)) 3 (fun _=>(fY p fB 131 131)))) 12 (fun _=>(fZ 75)))) 688 (fun _=>DH))
noncomputable def zp (w:World) (os:OsState):SharedT:=⟨LV w.params,692,lf,#[],e0,1622,os⟩
noncomputable def zq:Pos:=⟨641,0,641,5⟩
noncomputable def LW (p:Params):BT:=(BT.set ((BT.set (cut 837 1 0 (full p)) 3 (fun _=>(fY p fB 132 132)))) 12 (fun _=>(fZ 78)))
noncomputable def zr (w:World) (os:OsState):SharedT:=⟨LW w.params,837,lf,#[],e0,1849,os⟩
noncomputable def zt:Pos:=⟨642,0,871,32⟩
noncomputable def LX (p:Params):BT:=(BT.set ((BT.set (cut 891 1 0 (full p)) 3 (fun _=>(fY p hE 138 138)))) 12 (fun _=>(fZ 96)))
noncomputable def zu (w:World) (os:OsState):SharedT:=⟨LX w.params,891,lf,#[],e0,1925,os⟩
noncomputable def zv:Pos:=⟨919,0,926,15⟩
noncomputable def DJ (p:Params):BT:=cut 955 1 0 (full p)
noncomputable def fo (w:World) (os:OsState):SharedT:=⟨DJ w.params,955,lf,#[],e0,2027,os⟩
noncomputable def DK:Pos:=⟨1052,0,1065,46⟩
end
theorem LY (w:World) (os:OsState):er bz w 11 an 1 399 (s0 w os) (piecesOf ((bd.drop 0).take 42) ev bL qx cG)=some (.next,s1 w os,bL,y6):=by kernel_rfl
theorem LZ (w:World) (os:OsState):er bz w 11 an 1 388 (s1 w os) (piecesOf ((bd.drop 42).take 43) ev bL y6 cG)=some (.next,s2 w os,bL,y7):=by kernel_rfl
theorem L0 (w:World) (os:OsState):er bz w 11 an 1 521 (s2 w os) (piecesOf ((bd.drop 85).take 1) ev bL y7 cG)=some (.next,s3 w os,bL,y8):=by kernel_rfl
theorem L1 (w:World) (os:OsState):er bz w 11 an 1 251 (s3 w os) (piecesOf ((bd.drop 86).take 2) ev bL y8 cG)=some (.next,s4 w os,bL,y9):=by kernel_rfl
theorem L2 (w:World) (os:OsState):er bz w 11 an 1 384 (s4 w os) (piecesOf ((bd.drop 88).take 6) ev bL y9 cG)=some (.next,s5 w os,bL,za):=by kernel_rfl
theorem L3 (w:World) (os:OsState):er bz w 11 an 1 40 (s5 w os) (piecesOf ((bd.drop 94).take 2) ev bL za cG)=some (.next,s9 w os,bL,zb):=by kernel_rfl
theorem L4 (w:World) (os:OsState):er bz w 11 an 1 708 (s9 w os) (piecesOf ((bd.drop 96).take 1) ev bL zb cG)=some (.next,zc w os,bL,zd):=by kernel_rfl
theorem L5 (w:World) (os:OsState):er bz w 11 an 1 40 (zc w os) (piecesOf ((bd.drop 97).take 2) ev bL zd cG)=some (.next,ze w os,bL,zf):=by kernel_rfl
theorem L6 (w:World) (os:OsState):er bz w 11 an 1 583 (ze w os) (piecesOf ((bd.drop 99).take 1) ev bL zf cG)=some (.next,zg w os,bL,zh):=by kernel_rfl
theorem L7 (w:World) (os:OsState):er bz w 11 an 1 10 (zg w os) (piecesOf ((bd.drop 100).take 1) ev bL zh cG)=some (.next,lH w os,bL,qy):=by kernel_rfl
theorem L8 (w:World) (os:OsState):er bz (w.withFollow "special-get-raises" false) 11 an 1 117 (lH (w.withFollow "special-get-raises" false) os) (piecesOf ((bd.drop 101).take 2) ev bL qy cG)=some (.next,qz (w.withFollow "special-get-raises" false) os,bL,qA):=by kernel_rfl
theorem L9 (w:World) (os:OsState):er bz (w.withFollow "special-get-raises" true) 11 an 1 117 (lH (w.withFollow "special-get-raises" true) os) (piecesOf ((bd.drop 101).take 2) ev bL qy cG)=some (.next,qz (w.withFollow "special-get-raises" true) os,bL,qA):=by kernel_rfl
theorem Ma (w:World) (os:OsState):er bz w 11 an 1 117 (lH w os) (piecesOf ((bd.drop 101).take 2) ev bL qy cG)=some (.next,qz w os,bL,qA):=byRow2 "special-get-raises" (P:=fun w=>er bz w 11 an 1 117 (lH w os) (piecesOf ((bd.drop 101).take 2) ev bL qy cG)=some (.next,qz w os,bL,qA)) (fun w=>L8 w os) (fun w=>L9 w os) w
theorem Mb (w:World) (os:OsState):er bz w 11 an 1 425 (qz w os) (piecesOf ((bd.drop 103).take 1) ev bL qA cG)=some (.next,zi w os,bL,zj):=by kernel_rfl
theorem Mc (w:World) (os:OsState):er bz w 11 an 1 387 (zi w os) (piecesOf ((bd.drop 104).take 10) ev bL zj cG)=some (.next,zk w os,bL,zl):=by kernel_rfl
theorem Md (w:World) (os:OsState):er bz w 11 an 1 278 (zk w os) (piecesOf ((bd.drop 114).take 10) ev bL zl cG)=some (.next,qB w os,bL,qC):=by kernel_rfl
theorem Me (w:World) (os:OsState):er bz (w.withFollow "special-get-raises" false) 11 an 1 378 (qB (w.withFollow "special-get-raises" false) os) (piecesOf ((bd.drop 124).take 1) ev bL qC cG)=some (.next,mL (w.withFollow "special-get-raises" false) os,bL,mM):=by kernel_rfl
theorem Mf (w:World) (os:OsState):er bz (w.withFollow "special-get-raises" true) 11 an 1 378 (qB (w.withFollow "special-get-raises" true) os) (piecesOf ((bd.drop 124).take 1) ev bL qC cG)=some (.next,mL (w.withFollow "special-get-raises" true) os,bL,mM):=by kernel_rfl
theorem Mg (w:World) (os:OsState):er bz w 11 an 1 378 (qB w os) (piecesOf ((bd.drop 124).take 1) ev bL qC cG)=some (.next,mL w os,bL,mM):=byRow2 "special-get-raises" (P:=fun w=>er bz w 11 an 1 378 (qB w os) (piecesOf ((bd.drop 124).take 1) ev bL qC cG)=some (.next,mL w os,bL,mM)) (fun w=>Me w os) (fun w=>Mf w os) w
theorem Mh (w:World) (os:OsState):er bz (w.withFollow "special-get-raises" false) 11 an 1 149 (mL (w.withFollow "special-get-raises" false) os) (piecesOf ((bd.drop 125).take 2) ev bL mM cG)=some (.next,qD (w.withFollow "special-get-raises" false) os,bL,qE):=by kernel_rfl
theorem Mi (w:World) (os:OsState):er bz (w.withFollow "special-get-raises" true) 11 an 1 149 (mL (w.withFollow "special-get-raises" true) os) (piecesOf ((bd.drop 125).take 2) ev bL mM cG)=some (.next,qD (w.withFollow "special-get-raises" true) os,bL,qE):=by kernel_rfl
theorem Mj (w:World) (os:OsState):er bz w 11 an 1 149 (mL w os) (piecesOf ((bd.drop 125).take 2) ev bL mM cG)=some (.next,qD w os,bL,qE):=byRow2 "special-get-raises" (P:=fun w=>er bz w 11 an 1 149 (mL w os) (piecesOf ((bd.drop 125).take 2) ev bL mM cG)=some (.next,qD w os,bL,qE)) (fun w=>Mh w os) (fun w=>Mi w os) w
theorem Mk (w:World) (os:OsState):er bz w 11 an 1 681 (qD w os) (piecesOf ((bd.drop 127).take 1) ev bL qE cG)=some (.next,zm w os,bL,zo):=by kernel_rfl
theorem Ml (w:World) (os:OsState):er bz w 11 an 1 24 (zm w os) (piecesOf ((bd.drop 128).take 2) ev bL zo cG)=some (.next,zp w os,bL,zq):=by kernel_rfl
theorem Mm (w:World) (os:OsState):er bz w 11 an 1 894 (zp w os) (piecesOf ((bd.drop 130).take 1) ev bL zq cG)=some (.next,zr w os,bL,zt):=by kernel_rfl
theorem Mn (w:World) (os:OsState):er bz w 11 an 1 392 (zr w os) (piecesOf ((bd.drop 131).take 8) ev bL zt cG)=some (.next,zu w os,bL,zv):=by kernel_rfl
theorem Mo (w:World) (os:OsState):er bz w 11 an 1 317 (zu w os) (piecesOf ((bd.drop 139).take 10) ev bL zv cG)=some (.next,fo w os,bL,DK):=by kernel_rfl
noncomputable def ta:List Str:=((DI.drop 8).take 138).map fun x=>x.1
noncomputable def j8 (p:Params):Heap:=⟨⟨hl p⟩,lf⟩
theorem DL (p:Params):absHeap (full p) 955 lf=j8 p:=by kernel_rfl
noncomputable def lI:Program:={bz with main:={bz.main with body:=bd.drop 148}}
theorem conv (w:World) {n:Nat}{S aT:SharedT}{t:Thread}{r:Code×Pos}
 (h:er bz w 11 an 1 n S t=some (.next,aT,r)):segRun treeTable bz w 11 an 1 n S.abs t=some (.next,aT.abs,r):=by
 have ao : @segRunT=PySem.W.Fast.tw10110043849684766642:=PySem.W.Fast.te10110043849684766642
 have aC:treeTable=PySem.W.Fast.tw14364793385576792824:=PySem.W.Fast.te14364793385576792824
 have h' : segRunT treeTable bz w 11 an 1 n S t=some (.next,aT,r):=by rw[ao,aC];exact h
 exact segRun_of h'
theorem gp (w:World) {n N a j:Nat}{S aT:SharedT}{R:Shared}{pos pos' : Pos}
 (h:er bz w 11 an 1 n S (piecesOf ((bd.drop a).take j) ev bL pos cG)=some (.next,aT,bL,pos'))
 (r:topRun treeTable bz w 11 an N aT.abs (restOf (bd.drop (a+j)) ev bL pos' cG)=some R) :
 topRun treeTable bz w 11 an (n+N) S.abs (restOf (bd.drop a) ev bL pos cG)=some R:=by
 have e:bd.drop a=(bd.drop a).take j++bd.drop (a+j):=by
  rw[←List.drop_drop];exact (List.take_append_drop j (bd.drop a)).symm
 rw[e]
 exact piece_app (conv w h) r
noncomputable def DM:Nat:=2
noncomputable def DN:Nat:=317+DM
noncomputable def DO:Nat:=392+DN
noncomputable def DP:Nat:=894+DO
noncomputable def DQ:Nat:=24+DP
noncomputable def DR:Nat:=681+DQ
noncomputable def DS:Nat:=149+DR
noncomputable def DT:Nat:=378+DS
noncomputable def DU:Nat:=278+DT
noncomputable def DV:Nat:=387+DU
noncomputable def DW:Nat:=425+DV
noncomputable def DX:Nat:=117+DW
noncomputable def DY:Nat:=10+DX
noncomputable def DZ:Nat:=583+DY
noncomputable def vP:Nat:=40+DZ
noncomputable def hF:Nat:=708+vP
noncomputable def eC:Nat:=40+hF
noncomputable def dQ:Nat:=384+eC
noncomputable def c4:Nat:=251+dQ
noncomputable def a3:Nat:=521+c4
noncomputable def aG:Nat:=388+a3
noncomputable def nJ:Nat:=399+aG
theorem Mp (w:World) (os:OsState):topRun treeTable bz w 11 an DM (fo w os).abs (restOf (bd.drop 149) ev bL DK cG)=some (fo w os).abs:=by
 have e:bd.drop 149=[]:=by kernel_rfl
 rw[e];exact piece_nil rfl
theorem Mq (w:World) (os:OsState):topRun treeTable bz w 11 an DN (zu w os).abs (restOf (bd.drop 139) ev bL zv cG)=some (fo w os).abs:=gp w (j:=10) (Mo w os) (Mp w os)
theorem Mr (w:World) (os:OsState):topRun treeTable bz w 11 an DO (zr w os).abs (restOf (bd.drop 131) ev bL zt cG)=some (fo w os).abs:=gp w (j:=8) (Mn w os) (Mq w os)
theorem Ms (w:World) (os:OsState):topRun treeTable bz w 11 an DP (zp w os).abs (restOf (bd.drop 130) ev bL zq cG)=some (fo w os).abs:=gp w (j:=1) (Mm w os) (Mr w os)
theorem Mt (w:World) (os:OsState):topRun treeTable bz w 11 an DQ (zm w os).abs (restOf (bd.drop 128) ev bL zo cG)=some (fo w os).abs:=gp w (j:=2) (Ml w os) (Ms w os)
theorem Mu (w:World) (os:OsState):topRun treeTable bz w 11 an DR (qD w os).abs (restOf (bd.drop 127) ev bL qE cG)=some (fo w os).abs:=gp w (j:=1) (Mk w os) (Mt w os)
theorem Mv (w:World) (os:OsState):topRun treeTable bz w 11 an DS (mL w os).abs (restOf (bd.drop 125) ev bL mM cG)=some (fo w os).abs:=gp w (j:=2) (Mj w os) (Mu w os)
theorem Mw (w:World) (os:OsState):topRun treeTable bz w 11 an DT (qB w os).abs (restOf (bd.drop 124) ev bL qC cG)=some (fo w os).abs:=gp w (j:=1) (Mg w os) (Mv w os)
theorem Mx (w:World) (os:OsState):topRun treeTable bz w 11 an DU (zk w os).abs (restOf (bd.drop 114) ev bL zl cG)=some (fo w os).abs:=gp w (j:=10) (Md w os) (Mw w os)
theorem My (w:World) (os:OsState):topRun treeTable bz w 11 an DV (zi w os).abs (restOf (bd.drop 104) ev bL zj cG)=some (fo w os).abs:=gp w (j:=10) (Mc w os) (Mx w os)
theorem Mz (w:World) (os:OsState):topRun treeTable bz w 11 an DW (qz w os).abs (restOf (bd.drop 103) ev bL qA cG)=some (fo w os).abs:=gp w (j:=1) (Mb w os) (My w os)
theorem MA (w:World) (os:OsState):topRun treeTable bz w 11 an DX (lH w os).abs (restOf (bd.drop 101) ev bL qy cG)=some (fo w os).abs:=gp w (j:=2) (Ma w os) (Mz w os)
theorem MB (w:World) (os:OsState):topRun treeTable bz w 11 an DY (zg w os).abs (restOf (bd.drop 100) ev bL zh cG)=some (fo w os).abs:=gp w (j:=1) (L7 w os) (MA w os)
theorem MC (w:World) (os:OsState):topRun treeTable bz w 11 an DZ (ze w os).abs (restOf (bd.drop 99) ev bL zf cG)=some (fo w os).abs:=gp w (j:=1) (L6 w os) (MB w os)
theorem MD (w:World) (os:OsState):topRun treeTable bz w 11 an vP (zc w os).abs (restOf (bd.drop 97) ev bL zd cG)=some (fo w os).abs:=gp w (j:=2) (L5 w os) (MC w os)
theorem ME (w:World) (os:OsState):topRun treeTable bz w 11 an hF (s9 w os).abs (restOf (bd.drop 96) ev bL zb cG)=some (fo w os).abs:=gp w (j:=1) (L4 w os) (MD w os)
theorem MF (w:World) (os:OsState):topRun treeTable bz w 11 an eC (s5 w os).abs (restOf (bd.drop 94) ev bL za cG)=some (fo w os).abs:=gp w (j:=2) (L3 w os) (ME w os)
theorem MG (w:World) (os:OsState):topRun treeTable bz w 11 an dQ (s4 w os).abs (restOf (bd.drop 88) ev bL y9 cG)=some (fo w os).abs:=gp w (j:=6) (L2 w os) (MF w os)
theorem MH (w:World) (os:OsState):topRun treeTable bz w 11 an c4 (s3 w os).abs (restOf (bd.drop 86) ev bL y8 cG)=some (fo w os).abs:=gp w (j:=2) (L1 w os) (MG w os)
theorem MI (w:World) (os:OsState):topRun treeTable bz w 11 an a3 (s2 w os).abs (restOf (bd.drop 85) ev bL y7 cG)=some (fo w os).abs:=gp w (j:=1) (L0 w os) (MH w os)
theorem MJ (w:World) (os:OsState):topRun treeTable bz w 11 an aG (s1 w os).abs (restOf (bd.drop 42) ev bL y6 cG)=some (fo w os).abs:=gp w (j:=43) (LZ w os) (MI w os)
theorem MK (w:World) (os:OsState):topRun treeTable bz w 11 an nJ (s0 w os).abs (restOf (bd.drop 0) ev bL qx cG)=some (fo w os).abs:=gp w (j:=42) (LY w os) (MJ w os)
theorem pre (w:World) (os:OsState):PySem.W.Fast.tw15667345088766844465 PySem.W.Fast.tw14364793385576792824 bz w 11 an 12 ⟨boot_heap w.params,⟨[]⟩,boot_drawn,boot_toks,os⟩ (topStub bz)=some ((s0 w os).abs,⟨PySem.W.Fast.tw11892475500146522536 PySem.W.Fast.tw14364793385576792824 bL,bL,qx,cG⟩):=by kernel_rfl
theorem ML (w:World) (os:OsState):segRun treeTable bz w 11 an 1 1 (s0 w os).abs (blockOf bd ev bL qx cG)=some (.next,(s0 w os).abs,bL,qx):=by kernel_rfl
theorem run (w:World) (os:OsState):topRun treeTable bz w 11 an (12+(1+nJ)) ⟨boot_heap w.params,⟨[]⟩,boot_drawn,boot_toks,os⟩ (topStub bz)=some ⟨j8 w.params,#[],e0,2027,os⟩:=by
 have ao : @topGo=PySem.W.Fast.tw15667345088766844465:=PySem.W.Fast.te15667345088766844465
 have aC:treeTable=PySem.W.Fast.tw14364793385576792824:=PySem.W.Fast.te14364793385576792824
 have cL : @denote=PySem.W.Fast.tw11892475500146522536:=PySem.W.Fast.te11892475500146522536
 have h:topGo treeTable bz w 11 an 12 ⟨boot_heap w.params,⟨[]⟩,boot_drawn,boot_toks,os⟩ (topStub bz)=some ((s0 w os).abs,⟨denote treeTable bL,bL,qx,cG⟩):=by rw[ao,cL,aC];exact pre w os
 have f:(fo w os).abs=⟨j8 w.params,#[],e0,2027,os⟩:=congrArg (fun x=>(⟨x,#[],e0,2027,os⟩:Shared)) ((show absHeap (DJ w.params) 955 lf=absHeap (full w.params) 955 lf by kernel_rfl).trans (DL w.params))
 rw[←f]
 exact go_top h (piece_block (ML w os) (MK w os))
theorem MM (w:World):(fencedOpening treeTable bz w 20000).map (fun s=>(s.heap,s.gens,s.drawn,s.toks))=some (boot_heap w.params,Array.mk [],boot_drawn,boot_toks) :=
 boot_open (by kernel_rfl) (by decide) (fun s=>by kernel_rfl) w
theorem MN (w:World):((boot_heap w.params).isNs mainGlobals&&(Array.mk ([]:List GenState)).size == 0,(boot_heap w.params).objs.size,(boot_heap w.params).nsMap mainGlobals "__annotations__")=(true,11,an):=by
 have e : @Heap.nsMap=PySem.W.Fast.tw8920871248978507458:=PySem.W.Fast.te8920871248978507458
 rw[e];kernel_rfl
theorem MO (P:Params):staticsOk [] (boot_heap P) (j8 P)=true:=by kernel_rfl
theorem MP (P:Params):namesBound bz (j8 P)=true:=by kernel_rfl
theorem MQ (P:Params):laidKept (boot_heap P) (j8 P)=true:=by kernel_rfl
theorem MR (w:World) (os:OsState):PySem.W.Fast.tw4187177175401517315 lI ta [] (fun _=>true) true ⟨j8 w.params,#[],e0,2027,os⟩=openGood lI ta:=by kernel_rfl
theorem MS:importedModules bz.main.body=[]:=by
 have e : @importedModules=PySem.W.Fast.tw5923862056798008813:=PySem.W.Fast.te5923862056798008813
 rw[e];kernel_rfl
theorem left:LeftO bz lI ta (fun _=>true) (fun s=>s.heap) (fun w=>j8 w.params) 20000:=by
 refine LeftO.of_pieces (H₀:=boot_heap) (H₁:=j8) (gs₀:=⟨[]⟩) (gs₁:=#[]) (d₀:=boot_drawn) (d₁:=e0) (k₀:=boot_toks) (k₁:=2027) (m₀:=11) (ann:=an) (M:=12+(1+nJ)) MM MN run (by kernel_rfl) (fun w=>?_)
 funext os
 have e : @openSeen=PySem.W.Fast.tw4187177175401517315:=PySem.W.Fast.te4187177175401517315
 rw[MS,MO,MP,MQ,e,MR]
 rfl
noncomputable abbrev hp:=PySem.Challenge.rw_pc0097_01
noncomputable def YP (w:World) (h:Heap):Prop:=∀ b o,(j8 w.params).get? b=some o→h.get? b=some o
theorem MT:(defOf lI "law").isSome=true:=by kernel_rfl
noncomputable def jr:DefRec×List (Str×Expr):=(defOf lI "law").get MT
theorem MU:defOf lI hp.row.name=some (jr.1,jr.2):=by kernel_rfl
theorem MV:hp.row.prog.theDef hp.row.name=some (jr.1.params,jr.1.body,jr.1.scope):=by kernel_rfl
theorem MW:kwWritten? jr.1.params.kwonlyargs jr.1.params.kw_defaults=some jr.2:=by kernel_rfl
theorem MX:(PySem.W.Fast.tw11788848310118352699 bz.main&&((PySem.W.Fast.tw9807087744658564304 bz.main.body).isEmpty || PySem.W.Fast.tw12862048085361865435 (PySem.W.Fast.tw9807087744658564304 bz.main.body) bz.main.body))=true:=by kernel_rfl
theorem MY:PySem.W.Fast.tw8377067652309620493 bz=true:=by kernel_rfl
theorem MZ:(PySem.W.R.allR (PySem.W.Fast.tw18344453789297297638 bz) fun n=>!PySem.W.Fast.tw3471404346716756564 PySem.W.Fast.tw14412699480532031325 n)=true:=by kernel_rfl
theorem M0:(!PySem.W.R.allR (PySem.W.Fast.tw5923862056798008813 bz.main.body) (PySem.W.Fast.tw3471404346716756564 PySem.W.Fast.tw17691160309236699985))=false:=by kernel_rfl
theorem M1:PySem.W.Fast.tw17119622794617984870 bz bz.main.body (fun x n=>PySem.W.Fast.tw17868728402115742887 n)=true:=by kernel_rfl
theorem M3:PySem.W.R.filterR (PySem.W.Fast.tw13343964577679436407 bz bz.main.body) [⟨⟨[118,97,114,115]⟩⟩,⟨⟨[100,105,114]⟩⟩,⟨⟨[108,111,99,97,108,115]⟩⟩]=[]:=by kernel_rfl
theorem M4:PySem.W.Fast.tw8326940854005059898 {strict:=false,foot:=none,bare:=[]} bz.main.body=true:=by kernel_rfl
theorem M5 {α β gE:Type}(f:α→β→gE) {a a' : α}{b b' : β}(h1:a=a') (af:b=b'):f a b=f a' b':=by subst h1;subst af;rfl
theorem M6:looksOpen bz=true:=by
 rw[show @looksOpen=PySem.W.Fast.tw12908688711261696721 from PySem.W.Fast.te12908688711261696721]
 delta PySem.W.Fast.tw12908688711261696721
 exact look_both (look_both (look_both (look_both MX MY) MZ) ((M5 (fun a b=>PySem.W.Fast.tw8326940854005059898 {strict:=a,foot:=none,bare:=b} bz.main.body) M0 M3).trans M4)) M1
theorem part0:hp.row.partSaid=true:=by
 unfold OpenRow.partSaid
 rw[show looksOpen hp.row.prog=true from M6]
 kernel_rfl
theorem D0:hp.row.wellSaid=true:=by
 unfold OpenRow.wellSaid
 rw[part0]
 kernel_rfl
theorem M7:hp.wellSaid=true:=by
 rw[show @OpenLaw.wellSaid=PySem.W.Fast.tw9446332074065402090 from PySem.W.Fast.te9446332074065402090]
 delta PySem.W.Fast.tw9446332074065402090
 iterate 18 (refine look_both ?_ ?_)
 ·rw[show PySem.W.Fast.tw17960256430627541270 = @OpenRow.wellSaid from PySem.W.Fast.te17960256430627541270.symm,show PySem.W.Fast.tw2368527892694137696 = @OpenLaw.row from PySem.W.Fast.te2368527892694137696.symm]
  exact D0
 all_goals kernel_rfl
theorem M8:chainsOk lI=true:=by kernel_rfl
theorem M9:bearImports bd=false:=by kernel_rfl
theorem Na:(opening bz).tameTopW=true:=by kernel_rfl
theorem Nb:frees hp.row.toRowW=true:=by kernel_rfl
theorem Nc:opensWell bz=true:=by
 show ((opening bz).tameTopW&&!bearImports bd)=true
 rw[M9,Na];rfl
theorem Nd:(chainsOk lI&&opensWell hp.row.prog&&(frees hp.row.toRowW&&hp.row.within.isEmpty))=true :=
 look_both (look_both M8 Nc) (look_both Nb rfl)
theorem Nf:bz.tablesWhole=true:=by
 delta Program.tablesWhole TablesWhole.wProgram TablesWhole.holds Scope.bears
 rw[show @TablesWhole.wModule = @PySem.W.Fast.tw6116379765354995101 from PySem.W.Fast.te6116379765354995101,show @instDecidableEqStr=PySem.W.Fast.sDec from PySem.W.Fast.sDec_eq]
 kernel_rfl
theorem Ng:hp.row.prog.bare:=⟨rfl,rfl,rfl,rfl,rfl,Nf⟩
theorem Nh:hp.row.toRowW.promised:=⟨[.list [.int 3,.int 1]],by decide +kernel,by decide +kernel⟩
theorem head (call:WalkO lI ta (fun _ _=>True) YP hp.row.toRowW jr.1 jr.2 fun f vs=>PySem.call f vs):hp.Holds :=
 holds_law M7 fun _=>holds_open (Xt:=fun _=>true) (XP:=fun _ _=>True) (YP:=YP) left (fun w s (e:s.heap=j8 w.params)=>e▸fun _ _ h=>h) (fun w h h' y k b o e=>k b o (y b o e)) (fun _ _=>trivial) (fun _ _ _ _ _=>trivial)
  MU MV MW (fun _ _=>recFacts_nil rfl) (by kernel_rfl) D0 Nd Ng Nh call
theorem ba {α:Type}{P:Prop}{x:α}(h:none=some x):P:=nomatch h
theorem eD {P:Prop}(h:true=false):P:=nomatch h
theorem dv {P:Prop}(h:false=true):P:=nomatch h
theorem cc {α:Type}{a b:α}(h:some a=some b):a=b:=Option.some.inj h
theorem D1 {α β:Type}{a a' : α}{b b' : β}(h:some (a,b)=some (a',b')):a=a'∧b=b':=Prod.mk.inj (Option.some.inj h)
noncomputable def o2 (o:Obj):Bool:=match o with
 |⟨.none,_,.fields _,_⟩=>false
 |⟨_,_,.freed,_⟩=>false
 |_=>true
theorem Ni {o:Obj}(h:o2 o=true):alive o=some o:=by
 obtain ⟨c,d,zw,fQ⟩:=o
 cases zw <;> first |rfl |(cases c <;> cases h)
noncomputable def eQ (w:World) (h:Heap):Prop:=∀ a o,(full w.params).get a=some o→o2 o=true→Nat.blt a 955=true→h.get? a=some o
theorem Nj {w:World}{h:Heap}(y:∀ b o,(absHeap (full w.params) 955 lf).get? b=some o→h.get? b=some o):eQ w h :=
 fun a o e k l=>y a o ((abs_get (Nat.le_of_ble_eq_true l) e).trans (Ni k))
theorem Nk {K:Frag}{h:Heap}{a:Addr}{o:Obj}(e:h.get? a=some o) (X:K.In h):Frag.In ((a,o)::K) h:=by
 intro b aa q
 rw[List.lookup_cons] at q
 cases z:(b == a) with
 |true =>
  rw[z] at q
  cases q
  have:b=a:=by simpa using z
  subst this
  exact e
 |false=>rw[z] at q;exact X b aa q
theorem Nl {h:Heap}:Frag.In [] h:=fun _ _ e=>by cases e
noncomputable abbrev bo:Value→Shared→Prop:=fun _ _=>False
noncomputable abbrev aU (w:World):Model:=model bz w
noncomputable def Nm:Flow→Value |.ret v=>v |_=>.none
theorem zx {w:World}{h:Heap}(X:eQ w h):h.NoLimit:=by
 refine ⟨fun n=>nsFind _ n,⟨_,_,_,X 2 (es w.params) (by kernel_rfl) (by kernel_rfl) (by kernel_rfl),rfl,?_,fun _=>rfl⟩,?_⟩
 ·intro e he
  have:e∈[k w.params "type.__subclasses__.Exception.0" 731 (.int 125 0),k w.params "type.__subclasses__.Exception.n" 732 (.int 1 0)]:=Array.mem_toList_iff.mpr he
  simp only[List.mem_cons,List.not_mem_nil,or_false] at this
  rcases this with rfl |rfl <;> exact ⟨_,_,rfl⟩
 ·kernel_rfl
section
set_option backward.match.sparseCases false
noncomputable def Nn (aD:Array DictEntry):Bool:=aD.toList.all fun e=>match e.key with |.str _ _=>true |_=>false
theorem D2 {aD:Array DictEntry}(h:Nn aD=true):StrKeys aD:=by
 intro e he
 have z:=List.all_eq_true.mp h e (Array.mem_toList_iff.mpr he)
 cases ar:e.key with
 |str s t=>exact ⟨s,t,rfl⟩
 |_=>rw[ar] at z;cases z
noncomputable def qF (o:Obj):Array DictEntry:=match o.data with |.dict aD _=>aD |_=>#[]
noncomputable def gl (w:World) (x:Str):Option Value:=nsFind (qF (fP w.params)) x
noncomputable def lJ (w:World) (x:Str):Option Value:=nsFind (qF (o0 w.params)) x
theorem vQ {w:World}{h:Heap}(X:eQ w h):h.Ns 3 (gl w) :=
 ⟨fP w.params,qF (fP w.params),_,X 3 (fP w.params) (by kernel_rfl) (by kernel_rfl) (by kernel_rfl),rfl,D2 (by kernel_rfl),fun _=>rfl⟩
theorem Np {w:World}{h:Heap}(X:eQ w h):h.Ns 0 (lJ w) :=
 ⟨o0 w.params,qF (o0 w.params),_,X 0 (o0 w.params) (by kernel_rfl) (by kernel_rfl) (by kernel_rfl),rfl,D2 (by kernel_rfl),fun _=>rfl⟩
section
variable {w:World}{A:Around}{s:Shared}{g:Heap}{L f:Addr}{ls:List (Str×Value)}{l:List (Addr×Obj)}{fd:FuncData}{x:Str}{v:Value}{pos:Pos}
noncomputable abbrev tb (vs:List Value) (n:Nat):Obj:={cls:=.type "list",data:=.seq vs.toArray n}
theorem isList {h:Heap}{a:Addr}{vs:List Value}{n:Nat}(e:h.get? a=some (tb vs n)):h.IsList a vs.toArray:=⟨_,e,rfl,n,rfl⟩
end
end
section
set_option backward.match.sparseCases false
section
variable {w:World}{A:Around}{s:Shared}{g h:Heap}{L a:Addr}{ls:List (Str×Value)}{l:List (Addr×Obj)}{vs:List Value}{n:Nat}{v:Value}
theorem Nq (f:Array Value→Array Value) (zy:List Value) (e:f vs.toArray=zy.toArray):Obj.mapSeq f (tb vs n)=tb zy (if zy.length=vs.length then n else n+1):=by
 simp only[Obj.mapSeq,e,List.size_toArray,beq_iff_eq]
theorem zz {name:Str}{id:String}{c0:Sem Bool}{Q:Value×List Value→Shared→Prop}(c8:s.heap.get? a=some (tb vs n)) (slot:Slot "list" name id) (Nr:typeOf (.builtin id)=pure (.type "method_descriptor"))
 (h:Q (.builtin id,[.ref a]) s):wpAny (aU w) A (getMethod (.ref a) name c0) Q bo s :=
 getMethod_builtin (isList c8).typeIs PySem.F.plainAttrs_list slot Nr (fun a e=>by cases e;exact ⟨_,c8,rfl⟩) h
end
end
noncomputable def cj:FuncBody→List Stmt
 |.stmts l=>l
 |_=>[]
noncomputable def zA:FuncData:=cb (cst 88 0) "Unit.__init__" 3 .none (.str "js.codes" 194) (.ref 141)
noncomputable def Nt:{l:List Stmt // zA.body=.stmts l}:=⟨cj zA.body,by kernel_rfl⟩
noncomputable def zB:FuncData:=cb (st 89) "op_name" 3 .none (.str "js.codes" 194) (.ref 155)
noncomputable def Nu:{l:List Stmt // zB.body=.stmts l}:=⟨cj zB.body,by kernel_rfl⟩
noncomputable def zC:FuncData:=cb (st 90) "arg_kind" 3 .none (.str "js.codes" 194) (.ref 162)
noncomputable def Nv:{l:List Stmt // zC.body=.stmts l}:=⟨cj zC.body,by kernel_rfl⟩
noncomputable def zD:FuncData:=cb (st 91) "taken_count" 3 .none (.str "js.codes" 194) (.ref 169)
noncomputable def Nw:{l:List Stmt // zD.body=.stmts l}:=⟨cj zD.body,by kernel_rfl⟩
noncomputable def zE:FuncData:=cb (st 92) "put_count" 3 .none (.str "js.codes" 194) (.ref 176)
noncomputable def Nx:{l:List Stmt // zE.body=.stmts l}:=⟨cj zE.body,by kernel_rfl⟩
noncomputable def zF:FuncData:=cb (st 93) "is_last" 3 .none (.str "js.codes" 194) (.ref 183)
noncomputable def Ny:{l:List Stmt // zF.body=.stmts l}:=⟨cj zF.body,by kernel_rfl⟩
noncomputable def zG:FuncData:=cb (st 94) "same_constant" 3 .none (.str "js.codes" 194) (.ref 190)
noncomputable def Nz:{l:List Stmt // zG.body=.stmts l}:=⟨cj zG.body,by kernel_rfl⟩
noncomputable def zH:FuncData:=cb (cst 96 0) "Code.__init__" 3 .none (.str "js.assembler" 823) (.ref 204)
noncomputable def NA:{l:List Stmt // zH.body=.stmts l}:=⟨cj zH.body,by kernel_rfl⟩
noncomputable def zI:FuncData:=cb (cst 96 1) "Code.here" 3 .none (.str "js.assembler" 823) (.ref 211)
noncomputable def NB:{l:List Stmt // zI.body=.stmts l}:=⟨cj zI.body,by kernel_rfl⟩
noncomputable def qG:FuncData:=cb (cst 96 2) "Code.emit" 3 (.ref 213) (.str "js.assembler" 823) (.ref 219)
noncomputable def D3:{l:List Stmt // qG.body=.stmts l}:=⟨cj qG.body,by kernel_rfl⟩
noncomputable def zJ:FuncData:=cb (cst 96 3) "Code.label" 3 .none (.str "js.assembler" 823) (.ref 226)
noncomputable def NC:{l:List Stmt // zJ.body=.stmts l}:=⟨cj zJ.body,by kernel_rfl⟩
noncomputable def vR:FuncData:=cb (cst 96 4) "Code.place" 3 .none (.str "js.assembler" 823) (.ref 233)
noncomputable def D4:{l:List Stmt // vR.body=.stmts l}:=⟨cj vR.body,by kernel_rfl⟩
noncomputable def vS:FuncData:=cb (cst 96 5) "Code.jump" 3 .none (.str "js.assembler" 823) (.ref 240)
noncomputable def D5:{l:List Stmt // vS.body=.stmts l}:=⟨cj vS.body,by kernel_rfl⟩
noncomputable def kT:FuncData:=cb (cst 96 6) "Code.const" 3 .none (.str "js.assembler" 823) (.ref 247)
noncomputable def kU:{l:List Stmt // kT.body=.stmts l}:=⟨cj kT.body,by kernel_rfl⟩
noncomputable def zK:FuncData:=cb (cst 96 9) "Code.inner" 3 .none (.str "js.assembler" 823) (.ref 268)
noncomputable def ND:{l:List Stmt // zK.body=.stmts l}:=⟨cj zK.body,by kernel_rfl⟩
noncomputable def zL:FuncData:=cb (cst 96 10) "Code.handler" 3 .none (.str "js.assembler" 823) (.ref 275)
noncomputable def NF:{l:List Stmt // zL.body=.stmts l}:=⟨cj zL.body,by kernel_rfl⟩
noncomputable def vT:FuncData:=cb (cst 96 11) "Code.place_of" 3 .none (.str "js.assembler" 823) (.ref 282)
noncomputable def D6:{l:List Stmt // vT.body=.stmts l}:=⟨cj vT.body,by kernel_rfl⟩
noncomputable def tc:FuncData:=cb (cst 96 12) "Code.placed_code" 3 .none (.str "js.assembler" 823) (.ref 289)
noncomputable def j9:{l:List Stmt // tc.body=.stmts l}:=⟨cj tc.body,by kernel_rfl⟩
noncomputable def td:FuncData:=cb (cst 96 13) "Code.placed_handlers" 3 .none (.str "js.assembler" 823) (.ref 296)
noncomputable def nK:{l:List Stmt // td.body=.stmts l}:=⟨cj td.body,by kernel_rfl⟩
noncomputable def te:FuncData:=cb (cst 96 14) "Code.unit" 3 .none (.str "js.assembler" 823) (.ref 303)
noncomputable def zM:{l:List Stmt // te.body=.stmts l}:=⟨cj te.body,by kernel_rfl⟩
noncomputable def zN:FuncData:=cb (st 98) "depth_at_target" 3 .none (.str "js.comp_code" 1002) (.ref 317)
noncomputable def NG:{l:List Stmt // zN.body=.stmts l}:=⟨cj zN.body,by kernel_rfl⟩
noncomputable def zO:FuncData:=cb (cst 99 0) "OpenCode.__init__" 3 .none (.str "js.comp_code" 1002) (.ref 331)
noncomputable def NH:{l:List Stmt // zO.body=.stmts l}:=⟨cj zO.body,by kernel_rfl⟩
noncomputable def zP:FuncData:=cb (cst 99 1) "OpenCode.is_open" 3 .none (.str "js.comp_code" 1002) (.ref 338)
noncomputable def NI:{l:List Stmt // zP.body=.stmts l}:=⟨cj zP.body,by kernel_rfl⟩
noncomputable def zQ:FuncData:=cb (cst 99 2) "OpenCode.set_line" 3 .none (.str "js.comp_code" 1002) (.ref 345)
noncomputable def NJ:{l:List Stmt // zQ.body=.stmts l}:=⟨cj zQ.body,by kernel_rfl⟩
noncomputable def zR:FuncData:=cb (cst 99 3) "OpenCode.new_label" 3 .none (.str "js.comp_code" 1002) (.ref 352)
noncomputable def NK:{l:List Stmt // zR.body=.stmts l}:=⟨cj zR.body,by kernel_rfl⟩
noncomputable def tf:FuncData:=cb (cst 99 4) "OpenCode.meet" 3 .none (.str "js.comp_code" 1002) (.ref 359)
noncomputable def zS:{l:List Stmt // tf.body=.stmts l}:=⟨cj tf.body,by kernel_rfl⟩
noncomputable def qH:FuncData:=cb (cst 99 5) "OpenCode.add" 3 (.ref 361) (.str "js.comp_code" 1002) (.ref 367)
noncomputable def D7:{l:List Stmt // qH.body=.stmts l}:=⟨cj qH.body,by kernel_rfl⟩
noncomputable def vU:FuncData:=cb (cst 99 6) "OpenCode.add_const" 3 .none (.str "js.comp_code" 1002) (.ref 374)
noncomputable def D8:{l:List Stmt // vU.body=.stmts l}:=⟨cj vU.body,by kernel_rfl⟩
noncomputable def vV:FuncData:=cb (cst 99 7) "OpenCode.add_named" 3 .none (.str "js.comp_code" 1002) (.ref 381)
noncomputable def D9:{l:List Stmt // vV.body=.stmts l}:=⟨cj vV.body,by kernel_rfl⟩
noncomputable def qI:FuncData:=cb (cst 99 8) "OpenCode.jump_to" 3 .none (.str "js.comp_code" 1002) (.ref 388)
noncomputable def vW:{l:List Stmt // qI.body=.stmts l}:=⟨cj qI.body,by kernel_rfl⟩
noncomputable def tg:FuncData:=cb (cst 99 9) "OpenCode.stand" 3 .none (.str "js.comp_code" 1002) (.ref 395)
noncomputable def zT:{l:List Stmt // tg.body=.stmts l}:=⟨cj tg.body,by kernel_rfl⟩
noncomputable def vX:FuncData:=cb (cst 99 10) "OpenCode.enter" 3 .none (.str "js.comp_code" 1002) (.ref 402)
noncomputable def Ea:{l:List Stmt // vX.body=.stmts l}:=⟨cj vX.body,by kernel_rfl⟩
noncomputable def th:FuncData:=cb (cst 99 11) "OpenCode.mark" 3 .none (.str "js.comp_code" 1002) (.ref 409)
noncomputable def zU:{l:List Stmt // th.body=.stmts l}:=⟨cj th.body,by kernel_rfl⟩
noncomputable def zV:FuncData:=cb (cst 103 0) "CompBase.__init__" 3 .none (.str "js.comp_base" 1136) (.ref 432)
noncomputable def NL:{l:List Stmt // zV.body=.stmts l}:=⟨cj zV.body,by kernel_rfl⟩
noncomputable def qJ:FuncData:=cb (cst 103 2) "CompBase.get_name" 3 .none (.str "js.comp_base" 1136) (.ref 446)
noncomputable def vY:{l:List Stmt // qJ.body=.stmts l}:=⟨cj qJ.body,by kernel_rfl⟩
noncomputable def qK:FuncData:=cb (cst 103 3) "CompBase.set_place" 3 .none (.str "js.comp_base" 1136) (.ref 453)
noncomputable def vZ:{l:List Stmt // qK.body=.stmts l}:=⟨cj qK.body,by kernel_rfl⟩
noncomputable def qL:FuncData:=cb (cst 103 4) "CompBase.set_name" 3 .none (.str "js.comp_base" 1136) (.ref 460)
noncomputable def v3:{l:List Stmt // qL.body=.stmts l}:=⟨cj qL.body,by kernel_rfl⟩
noncomputable def v5:FuncData:=cb (cst 111 0) "Control.__init__" 3 .none (.str "js.ways" 1239) (.ref 495)
noncomputable def Eb:{l:List Stmt // v5.body=.stmts l}:=⟨cj v5.body,by kernel_rfl⟩
noncomputable def v7:FuncData:=cb (st 119) "lay_branch" 3 .none (.str "js.jumps" 1351) (.ref 556)
noncomputable def Ec:{l:List Stmt // v7.body=.stmts l}:=⟨cj v7.body,by kernel_rfl⟩
noncomputable def o3:FuncData:=cb (cst 127 1) "CompExpr.value" 3 .none (.str "js.comp_expr" 1404) (.ref 600)
noncomputable def ti:{l:List Stmt // o3.body=.stmts l}:=⟨cj o3.body,by kernel_rfl⟩
noncomputable def v8:FuncData:=cb (cst 127 2) "CompExpr.other_value" 3 .none (.str "js.comp_expr" 1404) (.ref 607)
noncomputable def Ed:{l:List Stmt // v8.body=.stmts l}:=⟨cj v8.body,by kernel_rfl⟩
noncomputable def v9:FuncData:=cb (cst 127 4) "CompExpr.closure" 3 .none (.str "js.comp_expr" 1404) (.ref 621)
noncomputable def Ee:{l:List Stmt // v9.body=.stmts l}:=⟨cj v9.body,by kernel_rfl⟩
noncomputable def wa:FuncData:=cb (cst 127 8) "CompExpr.element" 3 .none (.str "js.comp_expr" 1404) (.ref 649)
noncomputable def Ef:{l:List Stmt // wa.body=.stmts l}:=⟨cj wa.body,by kernel_rfl⟩
noncomputable def tj:FuncData:=cb (cst 130 0) "CompStmt.statements" 3 .none (.str "js.comp_stmt" 1615) (.ref 704)
noncomputable def o4:{l:List Stmt // tj.body=.stmts l}:=⟨cj tj.body,by kernel_rfl⟩
noncomputable def tk:FuncData:=cb (cst 130 1) "CompStmt.statement" 3 .none (.str "js.comp_stmt" 1615) (.ref 711)
noncomputable def zW:{l:List Stmt // tk.body=.stmts l}:=⟨cj tk.body,by kernel_rfl⟩
noncomputable def wb:FuncData:=cb (cst 130 2) "CompStmt.drop_result" 3 .none (.str "js.comp_stmt" 1615) (.ref 718)
noncomputable def Eg:{l:List Stmt // wb.body=.stmts l}:=⟨cj wb.body,by kernel_rfl⟩
noncomputable def zX:FuncData:=cb (cst 130 3) "CompStmt.variables" 3 .none (.str "js.comp_stmt" 1615) (.ref 725)
noncomputable def NM:{l:List Stmt // zX.body=.stmts l}:=⟨cj zX.body,by kernel_rfl⟩
noncomputable def tl:FuncData:=cb (cst 130 6) "CompStmt.loop" 3 .none (.str "js.comp_stmt" 1615) (.ref 746)
noncomputable def zY:{l:List Stmt // tl.body=.stmts l}:=⟨cj tl.body,by kernel_rfl⟩
noncomputable def wc:FuncData:=cb (cst 130 7) "CompStmt.body" 3 .none (.str "js.comp_stmt" 1615) (.ref 753)
noncomputable def Eh:{l:List Stmt // wc.body=.stmts l}:=⟨cj wc.body,by kernel_rfl⟩
noncomputable def wd:FuncData:=cb (cst 130 8) "CompStmt.while_loop" 3 .none (.str "js.comp_stmt" 1615) (.ref 760)
noncomputable def Ei:{l:List Stmt // wd.body=.stmts l}:=⟨cj wd.body,by kernel_rfl⟩
noncomputable def tm:FuncData:=cb (cst 130 11) "CompStmt.keys_loop" 3 .none (.str "js.comp_stmt" 1615) (.ref 781)
noncomputable def zZ:{l:List Stmt // tm.body=.stmts l}:=⟨cj tm.body,by kernel_rfl⟩
noncomputable def nL:FuncData:=cb (cst 130 12) "CompStmt.take_key" 3 .none (.str "js.comp_stmt" 1615) (.ref 788)
noncomputable def qM:{l:List Stmt // nL.body=.stmts l}:=⟨cj nL.body,by kernel_rfl⟩
noncomputable def tn:FuncData:=cb (cst 130 14) "CompStmt.guarded" 3 .none (.str "js.comp_stmt" 1615) (.ref 802)
noncomputable def z0:{l:List Stmt // tn.body=.stmts l}:=⟨cj tn.body,by kernel_rfl⟩
noncomputable def z1:FuncData:=cb (cst 130 15) "CompStmt.kept_result" 3 .none (.str "js.comp_stmt" 1615) (.ref 809)
noncomputable def NN:{l:List Stmt // z1.body=.stmts l}:=⟨cj z1.body,by kernel_rfl⟩
noncomputable def we:FuncData:=cb (cst 130 16) "CompStmt.close_guarded" 3 .none (.str "js.comp_stmt" 1615) (.ref 816)
noncomputable def Ej:{l:List Stmt // we.body=.stmts l}:=⟨cj we.body,by kernel_rfl⟩
noncomputable def wg:FuncData:=cb (cst 130 17) "CompStmt.caught" 3 .none (.str "js.comp_stmt" 1615) (.ref 823)
noncomputable def Ek:{l:List Stmt // wg.body=.stmts l}:=⟨cj wg.body,by kernel_rfl⟩
noncomputable def wh:FuncData:=cb (cst 132 0) "Node.__init__" 3 .none (.str "js.nodes" 1849) (.ref 849)
noncomputable def El:{l:List Stmt // wh.body=.stmts l}:=⟨cj wh.body,by kernel_rfl⟩
noncomputable def wi:FuncData:=cb (st 134) "_law_take" 3 .none (.str "law_pc0097_01" 1885) (.ref 863)
noncomputable def Em:{l:List Stmt // wi.body=.stmts l}:=⟨cj wi.body,by kernel_rfl⟩
noncomputable def wj:FuncData:=cb (st 135) "_law_name" 3 .none (.str "law_pc0097_01" 1885) (.ref 870)
noncomputable def En:{l:List Stmt // wj.body=.stmts l}:=⟨cj wj.body,by kernel_rfl⟩
noncomputable def tp:FuncData:=cb (st 136) "_law_target" 3 .none (.str "law_pc0097_01" 1885) (.ref 877)
noncomputable def z2:{l:List Stmt // tp.body=.stmts l}:=⟨cj tp.body,by kernel_rfl⟩
noncomputable def qN:FuncData:=cb (st 137) "_law_line" 3 .none (.str "law_pc0097_01" 1885) (.ref 882)
noncomputable def gT:{l:List Stmt // qN.body=.stmts l}:=⟨cj qN.body,by kernel_rfl⟩
noncomputable def tq:FuncData:=cb (st 138) "_law_view" 3 .none (.str "law_pc0097_01" 1885) (.ref 889)
noncomputable def gF:{l:List Stmt // tq.body=.stmts l}:=⟨cj tq.body,by kernel_rfl⟩
noncomputable def qO:FuncData:=cb (st 139) "_law_get" 3 .none (.str "law_pc0097_01" 1885) (.ref 896)
noncomputable def o5:{l:List Stmt // qO.body=.stmts l}:=⟨cj qO.body,by kernel_rfl⟩
noncomputable def tr:FuncData:=cb (st 140) "_law_set" 3 .none (.str "law_pc0097_01" 1885) (.ref 903)
noncomputable def o6:{l:List Stmt // tr.body=.stmts l}:=⟨cj tr.body,by kernel_rfl⟩
noncomputable def ts:FuncData:=cb (st 141) "_law_keyed" 3 .none (.str "law_pc0097_01" 1885) (.ref 910)
noncomputable def qP:{l:List Stmt // ts.body=.stmts l}:=⟨cj ts.body,by kernel_rfl⟩
noncomputable def tu:FuncData:=cb (st 142) "_law_do" 3 .none (.str "law_pc0097_01" 1885) (.ref 917)
noncomputable def lK:{l:List Stmt // tu.body=.stmts l}:=⟨cj tu.body,by kernel_rfl⟩
noncomputable def qQ:FuncData:=cb (st 143) "_law_all" 3 .none (.str "law_pc0097_01" 1885) (.ref 924)
noncomputable def iW:{l:List Stmt // qQ.body=.stmts l}:=⟨cj qQ.body,by kernel_rfl⟩
noncomputable def qR:FuncData:=cb (st 144) "_law_plain" 3 .none (.str "law_pc0097_01" 1885) (.ref 929)
noncomputable def qS:{l:List Stmt // qR.body=.stmts l}:=⟨cj qR.body,by kernel_rfl⟩
noncomputable def qT:FuncData:=cb (st 145) "_law_caught" 3 .none (.str "law_pc0097_01" 1885) (.ref 936)
noncomputable def lL:{l:List Stmt // qT.body=.stmts l}:=⟨cj qT.body,by kernel_rfl⟩
noncomputable def tv:FuncData:=cb (st 146) "_law_run" 3 .none (.str "law_pc0097_01" 1885) (.ref 943)
noncomputable def qU:{l:List Stmt // tv.body=.stmts l}:=⟨cj tv.body,by kernel_rfl⟩
noncomputable def tw:FuncData:=cb (st 147) "_law_read" 3 .none (.str "law_pc0097_01" 1885) (.ref 948)
noncomputable def z3:{l:List Stmt // tw.body=.stmts l}:=⟨cj tw.body,by kernel_rfl⟩
noncomputable def qV:FuncData:=cb (st 148) "law" 3 .none (.str "law_pc0097_01" 1885) (.ref 953)
noncomputable def fC:{l:List Stmt // qV.body=.stmts l}:=⟨cj qV.body,by kernel_rfl⟩
noncomputable abbrev a8 (s:Shared) (h:Heap) (az:Nat):Shared:={s with heap:=h,toks:=az}
section
set_option backward.match.sparseCases false
section
variable {α β gE js:Type}{P:Prop}
theorem jt {o:Option α}{f:α→Option js}{x:js}(h:o.bind f=some x) (k:∀ a,o=some a→f a=some x→P):P:=match o,h,k with |some a,h,k=>k a rfl h
theorem lM {o:Option α}{f:α→js}{x:js}(h:o.map f=some x) (k:∀ a,o=some a→f a=x→P):P:=match o,h,k with |some a,h,k=>k a rfl (Option.some.inj h)
theorem qW {a a' : α}{b b' : β}(h:(a,b)=(a',b')):a=a'∧b=b':=Prod.mk.inj h
end
noncomputable def ae {α:Type}(P:α→Prop) (o:Option α):Prop:=∀ a,o=some a→P a
section
variable {α β:Type}{P:α→Prop}
theorem ae.no:ae P none:=fun _ h=>ba h
theorem ae.bO {a:α}(h:P a):ae P (some a):=fun _ e=>cc e▸h
theorem ae.b {o:Option β}{f:β→Option α}(h:∀ a,o=some a→ae P (f a)):ae P (o.bind f):=fun _ e=>jt e fun a h1 af=>h a h1 _ af
theorem ae.m {o:Option β}{f:β→α}(h:∀ a,o=some a→P (f a)):ae P (o.map f):=fun _ e=>lM e fun a h1 af=>af▸h a h1
theorem ae.c {b:Bool}{x y:Option α}(h1:b=true→ae P x) (af:b=false→ae P y):ae P (cond b x y):=match b,h1,af with |true,h1,_=>h1 rfl |false,_,af=>af rfl
theorem ae.de {b:Bool}{x:Option α}(h1:b=true→ae P x):ae P (cond b x none):=ae.c h1 fun _=>ae.no
theorem ae.cf {b:Bool}{x:Option α}(h1:b=false→ae P x):ae P (cond b none x):=ae.c (fun _=>ae.no) h1
theorem ae.i {p:Prop} [Decidable p] {x y:Option α}(h1:p→ae P x) (af : ¬ p→ae P y):ae P (if p then x else y):=by split;exact h1 ‹_›;exact af ‹_›
theorem ae.o {o:Option β}{f:β→Option α}{y:Option α}(h1:∀ a,o=some a→ae P (f a)) (af:o=none→ae P y):ae P (o.elim y f):=match o,h1,af with |some a,h1,_=>h1 a rfl |none,_,af=>af rfl
end
noncomputable def aL:Nat:=2 ^ 20
noncomputable abbrev cq:=Addr→Option Obj
noncomputable abbrev c5:=List (Addr×Addr)
noncomputable abbrev e9 (im im' : cq):Prop:=∀ a o,im a=some o→im' a=some o
noncomputable abbrev hq (ρ ρ' : c5):Prop:=∀(i:Nat) p,ρ[i]?=some p→ρ'[i]?=some p
inductive V where
 |none |bool (b:Bool) |int (i:Int) |str (s:Str)
 |tup (vs:List V) |aO (vs:List V) |fin (C:Addr) (fs:List (Str×V))
 |fd (fs:List (Str×V)) |ref (i:Nat) |obj (v:Value) |lam (ps:Arguments) (body:PySem.Expr) (sc:Scope) |fD (f:Addr) (self:V) |cw (a b:Int) |any
 deriving Inhabited
inductive aj where
 |list (vs:List V) |inst (C:Addr) (fs:List (Str×V)) |dict (fs:List (Str×V)) |cell (v:Option V) |tab (qual:Str) (ps:List (Nat×Nat)) |dead
 deriving Inhabited
structure ax where
 H:List aj
 aa:Prop
noncomputable abbrev fE (xs:List Value) (n:Nat):Obj:={cls:=.type "list",data:=.seq xs.toArray n}
noncomputable abbrev hG (xs:List Value) (n:Nat):Obj:={cls:=.type "tuple",data:=.seq xs.toArray n}
noncomputable def mN (im:cq) (c:Addr) (qual:Str):Prop:=∃ o vs t,im c=some o∧o.data=.fields vs∧vs[1]?=some (.str qual t)
noncomputable def qX (im:cq) (a:Addr) (ps:Arguments) (body:PySem.Expr) (sc:Scope):Prop:=∃ name qual pm c kV,im a=some {cls:=.type "function",data:=.func (kla_fn name qual ps body sc [] pm (.ref c) kV)}∧mN im c qual
mutual
inductive aF (P:Params) (im:cq) (ρ:c5):V→Value→Prop
 |none:aF P im ρ .none .none
 |bool (b):aF P im ρ (.bool b) (.bool b)
 |int (i t):aF P im ρ (.int i) (.int i t)
 |str (s t):PyData.strOk s=true→aF P im ρ (.str s) (.str s t)
 |tup {vs xs a n}:im a=some (hG xs n)→aW P im ρ vs xs→xs.length≤aL→aF P im ρ (.tup vs) (.ref a)
 |aO {vs xs a n}:im a=some (fE xs n)→aW P im ρ vs xs→xs.length≤aL→aF P im ρ (.aO vs) (.ref a)
 |fin {C d fs aD a n}:im a=some (instObj C d)→im d=some (dictOf aD n)→cT P im ρ fs aD→aF P im ρ (.fin C fs) (.ref a)
 |ref {i p}:ρ[i]?=some p→aF P im ρ (.ref i) (.ref p.1)
 |obj (v):aF P im ρ (.obj v) v
 |fd {fs aD a n}:im a=some (dictOf aD n)→cT P im ρ fs aD→aF P im ρ (.fd fs) (.ref a)
 |lam {ps body sc a}:qX im a ps body sc→aF P im ρ (.lam ps body sc) (.ref a)
 |fD {f self x a}:im a=some (methodObj (.ref f) x)→aF P im ρ self x→aF P im ρ (.fD f self) (.ref a)
 |cw {lo aM ix lN ka a}:im a=some {cls:=.type "range",data:=.fields #[.int lo ix,.int aM lN,.int 1 ka]}→aF P im ρ (.cw lo aM) (.ref a)
 |any (v):aF P im ρ .any v
inductive aW (P:Params) (im:cq) (ρ:c5):List V→List Value→Prop
 |nil:aW P im ρ [] []
 |cons {v x vs xs}:aF P im ρ v x→aW P im ρ vs xs→aW P im ρ (v::vs) (x::xs)
inductive cT (P:Params) (im:cq) (ρ:c5):List (Str×V)→List DictEntry→Prop
 |nil:cT P im ρ [] []
 |cons {k t v x fs aD}:aF P im ρ v x→cT P im ρ fs aD→cT P im ρ ((k,v)::fs) (⟨PyData.keyHash P k,.str k t,x⟩::aD)
end
section
variable {P:Params}{im im' : cq}{ρ ρ' : c5}
theorem mN.mono {c:Addr}{q:Str}(h1:e9 im im'):mN im c q→mN im' c q
 |⟨o,vs,t,a,b⟩=>⟨o,vs,t,h1 _ _ a,b⟩
theorem qX.mono {a:Addr}{ps:Arguments}{body:PySem.Expr}{sc:Scope}(h1:e9 im im'):qX im a ps body sc→qX im' a ps body sc
 |⟨name,qual,pm,c,kV,x,y⟩=>⟨name,qual,pm,c,kV,h1 _ _ x,y.mono h1⟩
theorem aW.NO {ys:List Value}(h:aW P im ρ [] ys):ys=[]:=by
 generalize e:([]:List V)=l at h
 exact aW.casesOn (motive_2:=fun l ys _=>[]=l→ys=[]) h (fun _=>rfl) (fun _ _ e=>nomatch e) e
theorem aW.NP {v:V}{vs:List V}{ys:List Value}(h:aW P im ρ (v::vs) ys):∃ y xs,aF P im ρ v y∧aW P im ρ vs xs∧ys=y::xs:=by
 generalize e:v::vs=l at h
 exact aW.casesOn (motive_2:=fun l ys _=>v::vs=l→∃ y xs,aF P im ρ v y∧aW P im ρ vs xs∧ys=y::xs) h (fun e=>nomatch e) (fun a b e=>by obtain ⟨rfl,rfl⟩:=List.cons.inj e;exact ⟨_,_,a,b,rfl⟩) e
section
variable {v u:V}{vs:List V}{x:Value}{ys:List Value}{G:Value→Prop}{h2:List Value→Prop}
noncomputable def Eo (P:Params) (im:cq) (ρ:c5):V→Value→Prop
 |.none,x=>x=.none
 |.bool b,x=>x=.bool b
 |.int i,x=>∃ t,x=.int i t
 |.str s,x=>∃ t,PyData.strOk s=true∧x=.str s t
 |.tup vs,x=>∃ a xs n,im a=some (hG xs n)∧aW P im ρ vs xs∧xs.length≤aL∧x=.ref a
 |.aO vs,x=>∃ a xs n,im a=some (fE xs n)∧aW P im ρ vs xs∧xs.length≤aL∧x=.ref a
 |.fin C fs,x=>∃ d aD a n,im a=some (instObj C d)∧im d=some (dictOf aD n)∧cT P im ρ fs aD∧x=.ref a
 |.ref i,x=>∃ p,ρ[i]?=some p∧x=.ref p.1
 |.obj v,x=>x=v
 |.fd fs,x=>∃ aD a n,im a=some (dictOf aD n)∧cT P im ρ fs aD∧x=.ref a
 |.lam ps body sc,x=>∃ a,qX im a ps body sc∧x=.ref a
 |.fD f v,x=>∃ y a,im a=some (methodObj (.ref f) y)∧aF P im ρ v y∧x=.ref a
 |.cw lo aM,x=>∃ a ix lN ka,im a=some {cls:=.type "range",data:=.fields #[.int lo ix,.int aM lN,.int 1 ka]}∧x=.ref a
 |.any,_=>True
theorem aF.inv (h:aF P im ρ v x):Eo P im ρ v x :=
 aF.casesOn (motive_1:=fun v x _=>Eo P im ρ v x) h rfl (fun _=>rfl) (fun _ t=>⟨t,rfl⟩) (fun _ t h=>⟨t,h,rfl⟩) (fun e r z=>⟨_,_,_,e,r,z,rfl⟩) (fun e r z=>⟨_,_,_,e,r,z,rfl⟩) (fun e c9 r=>⟨_,_,_,_,e,c9,r,rfl⟩) (fun e=>⟨_,e,rfl⟩) (fun _=>rfl) (fun e r=>⟨_,_,_,e,r,rfl⟩) (fun e=>⟨_,e,rfl⟩) (fun e r=>⟨_,_,e,r,rfl⟩) (fun e=>⟨_,_,_,_,e,rfl⟩) (fun _=>trivial)
@[elab_as_elim] theorem aF.e2 {i:Int}(h:aF P im ρ (.int i) x) (k:∀ t,G (.int i t)):G x:=let ⟨t,e⟩:=h.inv;e▸k t
@[elab_as_elim] theorem aF.mO {i:Str}(h:aF P im ρ (.str i) x) (k:∀ t,PyData.strOk i=true→G (.str i t)):G x:=let ⟨t,q,e⟩:=h.inv;e▸k t q
@[elab_as_elim] theorem aF.qY {i:Bool}(h:aF P im ρ (.bool i) x) (k:G (.bool i)):G x:=(h.inv:x=_)▸k
@[elab_as_elim] theorem aF.tx (h:aF P im ρ .none x) (k:G .none):G x:=(h.inv:x=_)▸k
@[elab_as_elim] theorem aF.f5 (h:aF P im ρ (.tup vs) x) (k:∀ a xs n,im a=some (hG xs n)→aW P im ρ vs xs→xs.length≤aL→G (.ref a)):G x:=let ⟨a,xs,n,ao,aC,cL,e⟩:=h.inv;e▸k a xs n ao aC cL
@[elab_as_elim] theorem aF.tA (h:aF P im ρ (.aO vs) x) (k:∀ a xs n,im a=some (fE xs n)→aW P im ρ vs xs→xs.length≤aL→G (.ref a)):G x:=let ⟨a,xs,n,ao,aC,cL,e⟩:=h.inv;e▸k a xs n ao aC cL
@[elab_as_elim] theorem aF.iy {i:Nat}(h:aF P im ρ (.ref i) x) (k:∀ p,ρ[i]?=some p→G (.ref p.1)):G x:=let ⟨p,ao,e⟩:=h.inv;e▸k p ao
@[elab_as_elim] theorem aF.objE {y:Value}(h:aF P im ρ (.obj y) x) (k:G y):G x:=(h.inv:x=y)▸k
@[elab_as_elim] theorem aF.NQ {lo aM:Int}(h:aF P im ρ (.cw lo aM) x) (k:∀ a ix lN ka,im a=some {cls:=.type "range",data:=.fields #[.int lo ix,.int aM lN,.int 1 ka]}→G (.ref a)):G x:=let ⟨a,ix,lN,ka,ao,e⟩:=h.inv;e▸k a ix lN ka ao
@[elab_as_elim] theorem aF.nM {C:Addr}{fs:List (Str×V)}(h:aF P im ρ (.fin C fs) x) (k:∀ d aD a n,im a=some (instObj C d)→im d=some (dictOf aD n)→cT P im ρ fs aD→G (.ref a)):G x:=let ⟨d,aD,a,n,ao,aC,cL,e⟩:=h.inv;e▸k d aD a n ao aC cL
@[elab_as_elim] theorem aF.NR {fs:List (Str×V)}(h:aF P im ρ (.fd fs) x) (k:∀ aD a n,im a=some (dictOf aD n)→cT P im ρ fs aD→G (.ref a)):G x:=let ⟨aD,a,n,ao,aC,e⟩:=h.inv;e▸k aD a n ao aC
@[elab_as_elim] theorem aF.Ep {ps:Arguments}{body:PySem.Expr}{sc:Scope}(h:aF P im ρ (.lam ps body sc) x) (k:∀ a,qX im a ps body sc→G (.ref a)):G x:=let ⟨a,ao,e⟩:=h.inv;e▸k a ao
@[elab_as_elim] theorem aF.Er {f:Addr}(h:aF P im ρ (.fD f v) x) (k:∀ y a,im a=some (methodObj (.ref f) y)→aF P im ρ v y→G (.ref a)):G x:=let ⟨y,a,ao,aC,e⟩:=h.inv;e▸k y a ao aC
@[elab_as_elim] theorem aW.tB (h:aW P im ρ [] ys) (k:h2 []):h2 ys:=h.NO▸k
@[elab_as_elim] theorem aW.qZ (h:aW P im ρ (v::vs) ys) (k:∀ y xs,aF P im ρ v y→aW P im ρ vs xs→h2 (y::xs)):h2 ys:=let ⟨y,xs,a,b,e⟩:=h.NP;e▸k y xs a b
@[elab_as_elim] theorem aW.kW (h:aW P im ρ [v] ys) (k:∀ y,aF P im ρ v y→h2 [y]):h2 ys:=h.qZ fun y _ a b=>b.tB (h2:=fun xs=>h2 (y::xs)) (k y a)
@[elab_as_elim] theorem aW.tC (h:aW P im ρ [v,u] ys) (k:∀ y z,aF P im ρ v y→aF P im ρ u z→h2 [y,z]):h2 ys:=h.qZ fun y _ a b=>b.kW (h2:=fun xs=>h2 (y::xs)) fun z c=>k y z a c
@[elab_as_elim] theorem aW.NS {t:V}(h:aW P im ρ [v,u,t] ys) (k:∀ y z r,aF P im ρ v y→aF P im ρ u z→aF P im ρ t r→h2 [y,z,r]):h2 ys:=h.qZ fun y _ a b=>b.tC (h2:=fun xs=>h2 (y::xs)) fun z r c d=>k y z r a c d
end
theorem aF.mono (h1:e9 im im') (af:hq ρ ρ') {v:V}{x:Value}(h:aF P im ρ v x):aF P im' ρ' v x :=
 aF.rec (motive_1:=fun v x _=>aF P im' ρ' v x) (motive_2:=fun vs xs _=>aW P im' ρ' vs xs) (motive_3:=fun fs aD _=>cT P im' ρ' fs aD) .none .bool .int .str (fun e _ z r=>.tup (h1 _ _ e) r z) (fun e _ z r=>.aO (h1 _ _ e) r z) (fun e c9 _ r=>.fin (h1 _ _ e) (h1 _ _ c9) r)
  (fun e=>.ref (af _ _ e)) .obj (fun e _ r=>.fd (h1 _ _ e) r) (fun e=>.lam (e.mono h1)) (fun e _ r=>.fD (h1 _ _ e) r) (fun e=>.cw (h1 _ _ e)) .any .nil (fun _ _ a b=>.cons a b) .nil (fun _ _ a b=>.cons a b) h
theorem aW.ind {Q:List V→List Value→Prop}(h0:Q [] []) (h1:∀{v x vs xs},aF P im ρ v x→aW P im ρ vs xs→Q vs xs→Q (v::vs) (x::xs)) {vs:List V}{xs:List Value}(h:aW P im ρ vs xs):Q vs xs :=
 aW.rec (motive_1:=fun _ _ _=>True) (motive_2:=fun vs xs _=>Q vs xs) (motive_3:=fun _ _ _=>True) trivial (fun _=>trivial) (fun _ _=>trivial) (fun _ _ _=>trivial) (fun _ _ _ _=>trivial) (fun _ _ _ _=>trivial) (fun _ _ _ _=>trivial)
  (fun _=>trivial) (fun _=>trivial) (fun _ _ _=>trivial) (fun _=>trivial) (fun _ _ _=>trivial) (fun _=>trivial) (fun _=>trivial) h0 (fun a b _=>h1 a b) trivial (fun _ _ _ _=>trivial) h
theorem cT.ind {Q:List (Str×V)→List DictEntry→Prop}(h0:Q [] []) (h1:∀{k t v x fs aD},aF P im ρ v x→cT P im ρ fs aD→Q fs aD→Q ((k,v)::fs) (⟨PyData.keyHash P k,.str k t,x⟩::aD)) {vs:List (Str×V)}{xs:List DictEntry}(h:cT P im ρ vs xs):Q vs xs :=
 cT.rec (motive_1:=fun _ _ _=>True) (motive_2:=fun _ _ _=>True) (motive_3:=fun fs aD _=>Q fs aD) trivial (fun _=>trivial) (fun _ _=>trivial) (fun _ _ _=>trivial) (fun _ _ _ _=>trivial) (fun _ _ _ _=>trivial) (fun _ _ _ _=>trivial)
  (fun _=>trivial) (fun _=>trivial) (fun _ _ _=>trivial) (fun _=>trivial) (fun _ _ _=>trivial) (fun _=>trivial) (fun _=>trivial) trivial (fun _ _ _ _=>trivial) h0 (fun a b _=>h1 a b) h
theorem aW.mono (h1:e9 im im') (af:hq ρ ρ') {vs:List V}{xs:List Value}(h:aW P im ρ vs xs):aW P im' ρ' vs xs:=aW.ind .nil (fun a _ b=>.cons (a.mono h1 af) b) h
theorem cT.mono (h1:e9 im im') (af:hq ρ ρ') {vs:List (Str×V)}{xs:List DictEntry}(h:cT P im ρ vs xs):cT P im' ρ' vs xs:=cT.ind .nil (fun a _ b=>.cons (a.mono h1 af) b) h
theorem aW.length {vs:List V}{xs:List Value}(h:aW P im ρ vs xs):vs.length=xs.length:=aW.ind (Q:=fun vs xs=>vs.length=xs.length) rfl (fun _ _ b=>congrArg (· + 1) b) h
theorem aW.get {vs:List V}{xs:List Value}(h:aW P im ρ vs xs) {i:Nat}{v:V}(e:vs[i]?=some v):∃ x,xs[i]?=some x∧aF P im ρ v x :=
 aW.ind (Q:=fun vs xs=>∀(i:Nat) (v:V),vs[i]?=some v→∃ x,xs[i]?=some x∧aF P im ρ v x) (fun _ _ e=>ba e) (fun a _ aI i v e=>by
  cases i with
  |zero=>rw[←cc e];exact ⟨_,rfl,a⟩
  |succ i=>exact aI i v e) h i v e
theorem aW.append {vs ws:List V}{xs ys:List Value}(h:aW P im ρ vs xs) (b:aW P im ρ ws ys):aW P im ρ (vs++ws) (xs++ys):=aW.ind (Q:=fun vs xs=>aW P im ρ (vs++ws) (xs++ys)) b (fun a _ r=>.cons a r) h
theorem aW.set {vs:List V}{xs:List Value}(h:aW P im ρ vs xs):∀(i:Nat) {v x},aF P im ρ v x→aW P im ρ (vs.set i v) (xs.set i x) :=
 aW.ind (Q:=fun vs xs=>∀(i:Nat) {v x},aF P im ρ v x→aW P im ρ (vs.set i v) (xs.set i x)) (fun _ _ _ _=>.nil) (fun a b aI i v x r=>by
  cases i with
  |zero=>exact .cons r b
  |succ i=>exact .cons a (aI i r)) h
theorem aW.eraseIdx {vs:List V}{xs:List Value}(h:aW P im ρ vs xs):∀(i:Nat),aW P im ρ (vs.eraseIdx i) (xs.eraseIdx i) :=
 aW.ind (Q:=fun vs xs=>∀(i:Nat),aW P im ρ (vs.eraseIdx i) (xs.eraseIdx i)) (fun _=>.nil) (fun a b aI i=>by
  cases i with
  |zero=>exact b
  |succ i=>exact .cons a (aI i)) h
theorem aW.take {vs:List V}{xs:List Value}(h:aW P im ρ vs xs):∀(i:Nat),aW P im ρ (vs.take i) (xs.take i) :=
 aW.ind (Q:=fun vs xs=>∀(i:Nat),aW P im ρ (vs.take i) (xs.take i)) (fun i=>by rw[List.take_nil,List.take_nil];exact .nil) (fun a b aI i=>by
  cases i with
  |zero=>exact .nil
  |succ i=>exact .cons a (aI i)) h
theorem aW.drop {vs:List V}{xs:List Value}(h:aW P im ρ vs xs):∀(i:Nat),aW P im ρ (vs.drop i) (xs.drop i) :=
 aW.ind (Q:=fun vs xs=>∀(i:Nat),aW P im ρ (vs.drop i) (xs.drop i)) (fun i=>by rw[List.drop_nil,List.drop_nil];exact .nil) (fun a b aI i=>by
  cases i with
  |zero=>exact .cons a b
  |succ i=>exact aI i) h
end
noncomputable def aj.dX (p:Addr×Addr):aj→List Addr
 |.list _=>[p.1] |.inst _ _=>[p.1,p.2] |.dict _=>[p.1] |.cell _=>[p.1] |.tab _ _=>[p.1] |.dead=>[]
inductive hr (im:cq) (q:Str):List (Nat×Nat)→List Value→Prop
 |nil:hr im q [] []
 |cons {l c a ps xs}:mN im a q→hr im q ps xs→hr im q ((l,c)::ps) (rawInt l::rawInt c::.ref a::xs)
theorem hr.mono {im im' : cq}{q:Str}(h1:e9 im im'):∀{ps xs},hr im q ps xs→hr im' q ps xs
 |_,_,.nil=>.nil
 |_,_,.cons a b=>.cons (a.mono h1) (b.mono h1)
inductive fp (P:Params) (im:cq) (ρ:c5):List (Str×V)→List (Str×Value)→Prop
 |nil:fp P im ρ [] []
 |cons {k v x fs aD}:aF P im ρ v x→fp P im ρ fs aD→fp P im ρ ((k,v)::fs) ((k,x)::aD)
theorem fp.mono {P:Params}{im im' : cq}{ρ ρ' : c5}(h1:e9 im im') (af:hq ρ ρ'):∀{v x},fp P im ρ v x→fp P im' ρ' v x
 |_,_,.nil=>.nil
 |_,_,.cons a b=>.cons (a.mono h1 af) (fp.mono h1 af b)
noncomputable def gU (w:World) (im:cq) (ρ:c5) (h:Heap) (p:Addr×Addr):aj→Prop
 |.list vs=>∃ xs n,h.get? p.1=some (fE xs n)∧aW w.params im ρ vs xs∧xs.length≤aL
 |.inst C fs=>∃ aD n,h.get? p.1=some (instObj C p.2)∧h.get? p.2=some (dictOf aD n)∧cT w.params im ρ fs aD∧p.1≠p.2
 |.dict fs=>∃ lO,h.DictOf (strKind bz w) p.1 lO∧fp w.params im ρ fs lO∧fs.length≤1000
 |.cell none=>h.IsCell p.1 none
 |.cell (some v)=>∃ x,h.IsCell p.1 (some x)∧aF w.params im ρ v x
 |.tab q ps=>∃ xs,h.get? p.1=some (tabObj xs.toArray)∧hr im q ps xs
 |.dead=>True
theorem Es {h h' : Heap}{a:Addr}{v:Option Value}(x:h.IsCell a v) (k:∀ o,h.get? a=some o→h'.get? a=some o):h'.IsCell a v:=let ⟨o,e,d⟩:=x;⟨o,k _ e,d⟩
theorem gU.mono {w:World}{im im' : cq}{ρ ρ' : c5}{h h' : Heap}{p:Addr×Addr}{o:aj}(h1:e9 im im') (af:hq ρ ρ')
 (aB:∀ a∈o.dX p,∀ aa,h.get? a=some aa→h'.get? a=some aa) (r:gU w im ρ h p o):gU w im' ρ' h' p o:=by
 cases o with
 |list vs=>obtain ⟨xs,n,a,b,z⟩:=r;exact ⟨xs,n,aB _ (.head _) _ a,b.mono h1 af,z⟩
 |inst C fs=>obtain ⟨aD,n,a,b,c,d⟩:=r;exact ⟨aD,n,aB _ (.head _) _ a,aB _ (.tail _ (.head _)) _ b,c.mono h1 af,d⟩
 |dict fs=>obtain ⟨xs,⟨o,aD,iw,a,r⟩,b,z⟩:=r;exact ⟨xs,⟨o,aD,iw,aB _ (.head _) _ a,r⟩,b.mono h1 af,z⟩
 |cell v =>
  cases v with
  |none=>exact Es r (aB _ (.head _))
  |some v=>obtain ⟨x,a,b⟩:=r;exact ⟨x,Es a (aB _ (.head _)),b.mono h1 af⟩
 |tab q ps=>obtain ⟨x,a,b⟩:=r;exact ⟨x,aB _ (.head _) _ a,b.mono h1⟩
 |dead=>trivial
noncomputable def Own (ρ:c5) (H:List aj) (a:Addr):Prop:=∃ (i:Nat) (p:Addr×Addr) (o:aj),ρ[i]?=some p∧H[i]?=some o∧a∈o.dX p
structure Rep (w:World) (im:cq) (ρ:c5) (H:List aj) (h:Heap):Prop where
 len:ρ.length=H.length
 at_:∀{i:Nat}{p o},ρ[i]?=some p→H[i]?=some o→gU w im ρ h p o
 sep:∀{i j:Nat}{p q:Addr×Addr}{o o' : aj}{a},ρ[i]?=some p→H[i]?=some o→a∈o.dX p→ρ[j]?=some q→H[j]?=some o'→a∈o'.dX q→i=j
 cM:∀{a o},im a=some o→h.get? a=some o
 ju:∀{a},Own ρ H a→im a=none
structure br where
 kept:cq
 L:Addr
 im:cq
 ρ:c5
noncomputable def hH (w:World) (im:cq):Prop:=∀ a o,(full w.params).get a=some o→o2 o=true→Nat.blt a 955=true→im a=some o
noncomputable def wk:List Nat→List Nat→Bool
 |[],[]=>true
 |a::r,b::t=>Nat.beq a b&&wk r t
 |_,_=>false
noncomputable def seq (a b:Str):Bool:=wk a.cps.toList b.cps.toList
noncomputable def look {α:Type}(x:Str):List (Str×α)→Option α
 |[]=>none
 |(y,v)::r=>match seq x y with
  |true=>some v
  |false=>look x r
noncomputable def kb (P:Params) (im:cq) (ρ:c5) (ls:List (Str×V)) (m:Str→Option Value):Prop:=∀ x v,look x ls=some v→∃ a,m x=some a∧aF P im ρ v a
structure aH (w:World) (c:br) (ls:List (Str×V)) (H:List aj) (h:Heap):Prop where
 ns:∃ m,kb w.params c.im c.ρ ls m∧h.Ns c.L m
 rep:Rep w c.im c.ρ H h
 dh:hH w c.im
 keep:∀{a o},c.kept a=some o→h.get? a=some o
 own:∀{a},Own c.ρ H a→c.kept a=none∧a≠c.L
 fr:c.kept c.L=none∧c.im c.L=none
structure br.le (h:Heap) (c c' : br):Prop where
 kept:c'.kept=c.kept
 L:c'.L=c.L
 im:e9 c.im c'.im
 ρ:hq c.ρ c'.ρ
 new:∀ a o,c'.im a=some o→c.im a=some o∨h.get? a=none∨(c.kept a=none∧a≠c.L)
noncomputable def lP (h h' : Heap):Prop:=∀ a o,h.get? a=some o→∃ o',h'.get? a=some o'
theorem lP.none {h h' : Heap}(z:lP h h') {a:Addr}(e:h'.get? a=none):h.get? a=none:=by
 cases q:h.get? a with
 |none=>rfl
 |some o=>obtain ⟨o',c9⟩:=z a o q;rw[e] at c9;cases c9
theorem br.le.refl {h:Heap}{c:br}:br.le h c c:=⟨rfl,rfl,fun _ _ e=>e,fun _ _ e=>e,fun _ _ e=>.inl e⟩
theorem br.le.trans {h h' : Heap}{c c' kX:br}(a:br.le h c c') (z:lP h h') (b:br.le h' c' kX):br.le h c kX :=
 ⟨b.kept.trans a.kept,b.L.trans a.L,fun _ _ e=>b.im _ _ (a.im _ _ e),fun _ _ e=>b.ρ _ _ (a.ρ _ _ e),fun x o e=>(b.new x o e).elim (a.new x o) fun q=>.inr (q.imp z.none fun q=>⟨by rw[←a.kept];exact q.1,by rw[←a.L];exact q.2⟩)⟩
theorem aF.le {P:Params}{h:Heap}{c c' : br}{v x}(r:aF P c.im c.ρ v x) (l:br.le h c c'):aF P c'.im c'.ρ v x:=r.mono l.im l.ρ
theorem aW.le {P:Params}{h:Heap}{c c' : br}{v x}(r:aW P c.im c.ρ v x) (l:br.le h c c'):aW P c'.im c'.ρ v x:=r.mono l.im l.ρ
theorem kb.mono {P:Params}{im im' : cq}{ρ ρ' : c5}{ls:List (Str×V)}{m:Str→Option Value}(h1:e9 im im') (af:hq ρ ρ') (r:kb P im ρ ls m):kb P im' ρ' ls m:=fun x v e=>let ⟨a,c9,q⟩:=r x v e;⟨a,c9,q.mono h1 af⟩
end
theorem q0 {h:Heap}{b:Addr}{o:Obj}(e:h.get? b=some o) {a:Addr}(m:a∈[b]):∃ aa,h.get? a=some aa:=by rw[List.mem_singleton.mp m];exact ⟨o,e⟩
theorem gU.here {w:World}{im:cq}{ρ:c5}{h:Heap}{p:Addr×Addr}{o:aj}(r:gU w im ρ h p o) {a:Addr}(b2:a∈o.dX p):∃ aa,h.get? a=some aa:=by
 cases o with
 |list vs=>obtain ⟨xs,n,e,b⟩:=r;exact q0 e b2
 |inst C fs=>obtain ⟨aD,n,e,c9,c⟩:=r;exact (List.mem_cons.mp b2).elim (fun z=>⟨_,z▸e⟩) (q0 c9)
 |dict fs=>obtain ⟨xs,⟨o,aD,iw,e,r⟩,b⟩:=r;exact q0 e b2
 |cell v=>cases v with
  |none=>obtain ⟨aa,e,d⟩:=r;exact q0 e b2
  |some v=>obtain ⟨x,⟨aa,e,d⟩,b⟩:=r;exact q0 e b2
 |tab q ps=>obtain ⟨x,e,b⟩:=r;exact q0 e b2
 |dead=>exact absurd b2 List.not_mem_nil
section
variable {w:World}{c:br}{ls:List (Str×V)}{H:List aj}{h h' : Heap}
theorem Rep.here {im:cq}{ρ:c5}(R:Rep w im ρ H h) {a:Addr}(o:Own ρ H a):∃ aa,h.get? a=some aa:=by
 obtain ⟨i,p,o,ao,aC,m⟩:=o
 exact (R.at_ ao aC).here m
theorem Rep.lt {im:cq}{ρ:c5}(R:Rep w im ρ H h) {a:Addr}(o:Own ρ H a):a<h.objs.size:=let ⟨_,e⟩:=R.here o;Heap.lt_size e
theorem o7 {h h' : Heap}{a:Addr}{m:Str→Option Value}(x:h.Ns a m) (k:∀ o,h.get? a=some o→h'.get? a=some o):h'.Ns a m :=
 let ⟨o,aD,iw,c8,r⟩:=x;⟨o,aD,iw,k _ c8,r⟩
theorem aH.wm (R:aH w c ls H h):∃ o,h.get? c.L=some o:=let ⟨_,_,o,_,_,e,_⟩:=R.ns;⟨o,e⟩
theorem Own.set {ρ:c5}{H:List aj}{i:Nat}{p:Addr×Addr}{o o' : aj}(a4:ρ[i]?=some p) (c8:H[i]?=some o) (e:o'.dX p=o.dX p) {a:Addr}(x:Own ρ (H.set i o') a):Own ρ H a:=by
 obtain ⟨j,q,aa,ao,aC,m⟩:=x
 by_cases mP:i=j
 ·subst mP
  rw[a4] at ao;obtain rfl:=cc ao
  rw[List.getElem?_set_self (List.getElem?_eq_some_iff.mp c8).1] at aC;obtain rfl:=cc aC
  exact ⟨i,p,o,a4,c8,e▸m⟩
 ·rw[List.getElem?_set_ne mP] at aC
  exact ⟨j,q,aa,ao,aC,m⟩
theorem Rep.upd {im:cq}{ρ:c5}(R:Rep w im ρ H h) {i:Nat}{p:Addr×Addr}{o o' : aj}(a4:ρ[i]?=some p) (c8:H[i]?=some o) (e:o'.dX p=o.dX p)
 (ar:∀ b aa,b ∉ o.dX p→h.get? b=some aa→h'.get? b=some aa) (bR:gU w im ρ h' p o'):Rep w im ρ (H.set i o') h':=by
 have aM:=(List.getElem?_eq_some_iff.mp c8).1
 refine ⟨by rw[List.length_set];exact R.len,?_,?_,?_,?_⟩
 ·intro j q aa ao aC
  by_cases mP:i=j
  ·subst mP
   rw[a4] at ao;obtain rfl:=cc ao
   rw[List.getElem?_set_self aM] at aC;obtain rfl:=cc aC
   exact bR
  ·rw[List.getElem?_set_ne mP] at aC
   refine (R.at_ ao aC).mono (fun _ _ x=>x) (fun _ _ x=>x) (fun a b2 dr x=>ar a dr (fun m=>mP (R.sep a4 c8 m ao aC b2)) x)
 ·intro j k q r aa dr a ao aC m hI iX f6
  have f:∀(j:Nat) (q:Addr×Addr) (aa:aj),ρ[j]?=some q→(H.set i o')[j]?=some aa→a∈aa.dX q→∃ dr,H[j]?=some dr∧a∈dr.dX q:=by
   intro j q aa ao aC m
   by_cases mP:i=j
   ·subst mP
    rw[a4] at ao;obtain rfl:=cc ao
    rw[List.getElem?_set_self aM] at aC;obtain rfl:=cc aC
    exact ⟨o,c8,e▸m⟩
   ·rw[List.getElem?_set_ne mP] at aC;exact ⟨aa,aC,m⟩
  obtain ⟨x,bA,z4⟩:=f j q aa ao aC m
  obtain ⟨y,bU,kY⟩:=f k r dr hI iX f6
  exact R.sep ao bA z4 hI bU kY
 ·intro a aa x
  exact ar a aa (fun m=>by have z:=R.ju ⟨i,p,o,a4,c8,m⟩;rw[x] at z;cases z) (R.cM x)
 ·intro a x;exact R.ju (x.set a4 c8 e)
theorem aH.upd (R:aH w c ls H h) {i:Nat}{p:Addr×Addr}{o o' : aj}(a4:c.ρ[i]?=some p) (c8:H[i]?=some o) (e:o'.dX p=o.dX p)
 (ar:∀ b aa,b ∉ o.dX p→h.get? b=some aa→h'.get? b=some aa) (bR:gU w c.im c.ρ h' p o'):aH w c ls (H.set i o') h':=by
 have NT:∀ b,Own c.ρ H b→c.kept b=none:=fun b x=>(R.own x).1
 refine ⟨?_,R.rep.upd a4 c8 e ar bR,R.dh,fun {a aa} x=>?_,fun {a} x=>R.own (x.set a4 c8 e),R.fr⟩
 ·obtain ⟨xs,l,n⟩:=R.ns
  exact ⟨xs,l,o7 n fun aa x=>ar _ _ (fun m=>(R.own ⟨i,p,o,a4,c8,m⟩).2 rfl) x⟩
 ·exact ar a aa (fun m=>by have z:=NT a ⟨i,p,o,a4,c8,m⟩;rw[x] at z;cases z) (R.keep x)
theorem aH.loc {bM:List (Str×V)}{m:Str→Option Value}(R:aH w c ls H h) (l:kb w.params c.im c.ρ bM m) (n:h'.Ns c.L m) (ak:Heap.SameBut c.L h h'):aH w c bM H h':=by
 have ar:∀ b aa,b≠c.L→h.get? b=some aa→h'.get? b=some aa:=fun b aa nb x=>(ak.2 b nb).trans x
 refine ⟨⟨m,l,n⟩,⟨R.rep.len,fun {i p o} ao aC=>(R.rep.at_ ao aC).mono (fun _ _ x=>x) (fun _ _ x=>x) fun a m aa x=>ar a aa (R.own ⟨i,p,o,ao,aC,m⟩).2 x,R.rep.sep,fun {a o} x=>ar a o (fun q=>?_) (R.rep.cM x),R.rep.ju⟩,R.dh,fun {a o} x=>ar a o (fun q=>?_) (R.keep x),R.own,R.fr⟩
 ·rw[q] at x;rw[R.fr.2] at x;exact ba x
 ·rw[q] at x;rw[R.fr.1] at x;exact ba x
theorem aH.grow (R:aH w c ls H h) {im' : cq}(ar:∀ b aa,h.get? b=some aa→h'.get? b=some aa) (h1:e9 c.im im') (af:∀ a o,im' a=some o→c.im a=some o∨(h.objs.size≤a∧h'.get? a=some o)) :
 aH w {c with im:=im'} ls H h':=by
 have c1:=R.rep
 refine ⟨?_,⟨c1.len,fun {i p o} ao aC=>(c1.at_ ao aC).mono h1 (fun _ _ x=>x) fun a m aa x=>ar a aa x,c1.sep,fun {a o} x=>?_,fun {a} x=>?_⟩,fun a o x y z=>h1 _ _ (R.dh a o x y z),fun {a o} x=>ar _ _ (R.keep x),R.own,⟨R.fr.1,?_⟩⟩
 ·obtain ⟨xs,l,n⟩:=R.ns
  exact ⟨xs,l.mono h1 (fun _ _ x=>x),o7 n fun aa x=>ar _ _ x⟩
 ·exact (af a o x).elim (fun q=>ar _ _ (c1.cM q)) fun q=>q.2
 ·show im' a=none
  cases q:im' a with
  |none=>rfl
  |some o =>
   rcases af a o q with y |y
   ·have z:=c1.ju x;rw[y] at z;cases z
   ·exact absurd (c1.lt x) (Nat.not_lt.mpr y.1)
 ·show im' c.L=none
  cases q:im' c.L with
  |none=>rfl
  |some o =>
   rcases af _ o q with y |y
   ·rw[R.fr.2] at y;exact ba y
   ·obtain ⟨aa,e⟩:=R.wm
    exact absurd (Heap.lt_size e) (Nat.not_lt.mpr y.1)
theorem Heap.iz {h:Heap}{a:Addr}(z:h.objs.size≤a):h.get? a=none:=by
 cases q:h.get? a with
 |none=>rfl
 |some o=>exact absurd (Heap.lt_size q) (Nat.not_lt.mpr z)
theorem z5 {α:Type}{l:List α}{x y:α}{i:Nat}(e:(l++[x])[i]?=some y):l[i]?=some y∨(i=l.length∧y=x):=by
 rw[List.getElem?_append] at e
 split at e
 ·exact .inl e
 ·rename_i n
  have:i - l.length=0:=by
   cases q:i - l.length with
   |zero=>rfl
   |succ k=>rw[q] at e;exact ba e
  rw[this] at e
  obtain rfl:=cc e
  exact .inr ⟨Nat.le_antisymm (Nat.sub_eq_zero_iff_le.mp this) (Nat.not_lt.mp n),rfl⟩
theorem o8 {α:Type}{l:List α}{x y:α}{i:Nat}(e:l[i]?=some y):(l++[x])[i]?=some y:=by
 rw[List.getElem?_append_left (List.getElem?_eq_some_iff.mp e).1];exact e
noncomputable def Off (c:br) (H:List aj) (a:Addr):Prop:=¬ Own c.ρ H a∧a≠c.L∧c.im a=none∧c.kept a=none
theorem mQ {α:Type}{o:Option α}(h:∀ a,o≠some a):o=none:=by cases o with |none=>rfl |some a=>exact absurd rfl (h a)
theorem Off.new (R:aH w c ls H h) {a:Addr}(e:h.get? a=none):Off c H a :=
 ⟨fun x=>let ⟨o,c9⟩:=R.rep.here x;ba (e.symm.trans c9),fun x=>let ⟨o,c9⟩:=R.wm;ba (e.symm.trans (x▸c9)),mQ fun o q=>ba (e.symm.trans (R.rep.cM q)),mQ fun o q=>ba (e.symm.trans (R.keep q))⟩
theorem q1 {ρ:c5}{p:Addr×Addr}{o:aj}(len:ρ.length=H.length) {G:Nat→Addr×Addr→aj→Prop}(g1:∀{i q aa},ρ[i]?=some q→H[i]?=some aa→G i q aa) (g2:G H.length p o) {i:Nat}{q:Addr×Addr}{aa:aj}(ao:(ρ++[p])[i]?=some q) (aC:(H++[o])[i]?=some aa):G i q aa:=by
 rcases z5 ao with a |⟨a,b⟩
 ·rcases z5 aC with b |⟨b,_⟩
  ·exact g1 a b
  ·exact absurd (b.trans len.symm) (Nat.ne_of_lt (List.getElem?_eq_some_iff.mp a).1)
 ·rcases z5 aC with d |⟨d,f⟩
  ·exact absurd (a.trans len) (Nat.ne_of_lt (List.getElem?_eq_some_iff.mp d).1)
  ·rw[d,b,f];exact g2
theorem aH.adopt (R:aH w c ls H h) {p:Addr×Addr}{o:aj}(off:∀ a∈o.dX p,Off c H a) (ar:∀ b aa,b ∉ o.dX p→h.get? b=some aa→h'.get? b=some aa)
 (bR:gU w c.im (c.ρ++[p]) h' p o):aH w {c with ρ:=c.ρ++[p]} ls (H++[o]) h':=by
 have c1:=R.rep
 have le:hq c.ρ (c.ρ++[p]):=fun i q e=>o8 e
 have dX:∀{a},Own (c.ρ++[p]) (H++[o]) a→Own c.ρ H a∨a∈o.dX p:=fun {a} x=>by
  obtain ⟨i,q,aa,ao,aC,m⟩:=x
  exact q1 c1.len (G:=fun _ q aa=>a∈aa.dX q→Own c.ρ H a∨a∈o.dX p) (fun x y m=>.inl ⟨_,_,_,x,y,m⟩) .inr ao aC m
 refine ⟨?_,⟨by rw[List.length_append,List.length_append,c1.len];rfl,fun {i q aa}=>q1 c1.len (G:=fun _ q aa=>gU w c.im (c.ρ++[p]) h' q aa) (fun x y=>(c1.at_ x y).mono (fun _ _ x=>x) le fun a m dr z=>ar a dr (fun f6=>(off a f6).1 ⟨_,_,_,x,y,m⟩) z) bR,
  fun {i j q nN aa dr a} ao aC m hI iX f6=>?_,fun {a aa} x=>ar _ _ (fun m=>ba ((off _ m).2.2.1.symm.trans x)) (c1.cM x),fun {a} x=>(dX x).elim c1.ju fun y=>(off a y).2.2.1⟩,R.dh,fun {a aa} x=>ar _ _ (fun m=>ba ((off _ m).2.2.2.symm.trans x)) (R.keep x),
  fun {a} x=>(dX x).elim R.own fun y=>⟨(off a y).2.2.2,(off a y).2.1⟩,R.fr⟩
 ·obtain ⟨xs,l,n⟩:=R.ns
  exact ⟨xs,l.mono (fun _ _ x=>x) le,o7 n fun aa x=>ar _ _ (fun m=>(off _ m).2.1 rfl) x⟩
 ·exact q1 c1.len (G:=fun i q aa=>a∈aa.dX q→i=j) (fun {i q aa} x y m=>q1 c1.len (G:=fun j nN dr=>a∈dr.dX nN→i=j) (fun gq tD f6=>c1.sep x y m gq tD f6) (fun f6=>absurd ⟨i,q,aa,x,y,m⟩ (off a f6).1) hI iX f6)
   (fun m=>q1 c1.len (G:=fun j nN dr=>a∈dr.dX nN→H.length=j) (fun {j nN dr} gq tD f6=>absurd ⟨j,nN,dr,gq,tD,f6⟩ (off a m).1) (fun _=>rfl) hI iX f6) ao aC m
theorem aH.push (R:aH w c ls H h) {p:Addr×Addr}{o:aj}(ar:∀ b aa,h.get? b=some aa→h'.get? b=some aa) (hf:∀ a∈o.dX p,h.objs.size≤a)
 (bR:gU w c.im (c.ρ++[p]) h' p o):aH w {c with ρ:=c.ρ++[p]} ls (H++[o]) h':=R.adopt (fun a m=>.new R (Heap.iz (hf a m))) (fun b aa _ e=>ar b aa e) bR
end
noncomputable def eR (im:cq) (a:Addr) (o:Obj):cq:=fun b=>if b=a then some o else im b
section
variable {w:World}{c:br}{ls:List (Str×V)}{H:List aj}{h:Heap}
theorem z6 {im:cq}{a:Addr}{o:Obj}(n:im a=none):e9 im (eR im a o):=fun b aa e=>by
 unfold eR
 split
 ·rename_i q;subst q;rw[n] at e;exact ba e
 ·exact e
theorem mR {im:cq}{a:Addr}{o:Obj}:eR im a o a=some o:=if_pos rfl
theorem aH.Et (R:aH w c ls H h) {a:Addr}(z:h.objs.size≤a):c.im a=none:=by
 cases q:c.im a with
 |none=>rfl
 |some aa=>exact absurd (Heap.lt_size (R.rep.cM q)) (Nat.not_lt.mpr z)
theorem aH.tE (R:aH w c ls H h) (o:Obj) (c8:o.isFreed=false):aH w {c with im:=eR c.im h.objs.size o} ls H (h.push o)∧br.le h c {c with im:=eR c.im h.objs.size o}:=by
 have n:=R.Et (Nat.le_refl h.objs.size)
 have d:∀ a aa,eR c.im h.objs.size o a=some aa→c.im a=some aa∨(h.objs.size≤a∧(h.push o).get? a=some aa):=by
  intro a aa e
  unfold eR at e
  split at e
  ·rename_i q;subst q;obtain rfl:=cc e;exact .inr ⟨Nat.le_refl _,Heap.get?_push_size _ c8⟩
  ·exact .inl e
 exact ⟨R.grow (fun b aa e=>Heap.get?_push_of_some _ e) (z6 n) d,⟨rfl,rfl,z6 n,fun _ _ x=>x,fun a aa e=>(d a aa e).imp id fun q=>.inl (Heap.iz q.1)⟩⟩
theorem aH.z7 (R:aH w c ls H h) (o:Obj):aH w c ls H (h.push o) :=
 R.grow (im':=c.im) (fun b aa e=>Heap.get?_push_of_some _ e) (fun _ _ x=>x) (fun _ _ x=>.inl x)
end
section
set_option backward.match.sparseCases false
noncomputable abbrev bS (a b:Str) (i j:Int):V:=.tup [.str a,.str b,.int i,.int j]
noncomputable abbrev g (s:Str) (v:V):Str×V:=(s,v)
noncomputable def NU:List V:=[bS ⟨⟨[85,78,68,69,70]⟩⟩ "" 0 1,bS ⟨⟨[78,85,76,76]⟩⟩ "" 0 1,bS ⟨⟨[84,82,85,69]⟩⟩ "" 0 1,bS ⟨⟨[70,65,76,83,69]⟩⟩ "" 0 1,bS ⟨⟨[67,79,78,83,84]⟩⟩ ⟨⟨[107]⟩⟩ 0 1,bS ⟨⟨[84,72,73,83]⟩⟩ "" 0 1,bS ⟨⟨[80,79,80]⟩⟩ "" 1 0,bS ⟨⟨[68,85,80]⟩⟩ "" 1 2,bS ⟨⟨[68,85,80,50]⟩⟩ "" 2 4,bS ⟨⟨[83,87,65,80]⟩⟩ "" 2 2,bS ⟨⟨[82,79,84,51]⟩⟩ "" 3 3,bS ⟨⟨[71,69,84,76,79,67]⟩⟩ ⟨⟨[108]⟩⟩ 0 1,bS ⟨⟨[83,69,84,76,79,67]⟩⟩ ⟨⟨[108]⟩⟩ 1 1,bS ⟨⟨[71,69,84,67,69,76,76]⟩⟩ ⟨⟨[99]⟩⟩ 0 1,bS ⟨⟨[83,69,84,67,69,76,76]⟩⟩ ⟨⟨[99]⟩⟩ 1 1,bS ⟨⟨[71,69,84,85,80]⟩⟩ ⟨⟨[117]⟩⟩ 0 1,bS ⟨⟨[83,69,84,85,80]⟩⟩ ⟨⟨[117]⟩⟩ 1 1,bS ⟨⟨[70,82,69,83,72]⟩⟩ ⟨⟨[99]⟩⟩ 0 0,bS ⟨⟨[71,69,84,71,76,79,66]⟩⟩ ⟨⟨[115]⟩⟩ 0 1,bS ⟨⟨[84,89,80,69,71,76,79,66]⟩⟩ ⟨⟨[115]⟩⟩ 0 1,bS ⟨⟨[83,69,84,71,76,79,66]⟩⟩ ⟨⟨[115]⟩⟩ 1 1,bS ⟨⟨[68,69,67,76,86,65,82]⟩⟩ ⟨⟨[115]⟩⟩ 0 0,bS ⟨⟨[68,69,67,76,70,85,78]⟩⟩ ⟨⟨[115]⟩⟩ 1 0,bS ⟨⟨[71,69,84,80,82,79,80]⟩⟩ ⟨⟨[115]⟩⟩ 1 1,bS ⟨⟨[83,69,84,80,82,79,80]⟩⟩ ⟨⟨[115]⟩⟩ 2 1,bS ⟨⟨[71,69,84,69,76,69,77]⟩⟩ "" 2 1,bS ⟨⟨[83,69,84,69,76,69,77]⟩⟩ "" 3 1,bS ⟨⟨[68,69,76,80,82,79,80]⟩⟩ ⟨⟨[115]⟩⟩ 1 1,bS ⟨⟨[68,69,76,69,76,69,77]⟩⟩ "" 2 1,bS ⟨⟨[68,69,76,78,65,77,69]⟩⟩ ⟨⟨[115]⟩⟩ 0 1,bS ⟨⟨[65,68,68]⟩⟩ "" 2 1,bS ⟨⟨[83,85,66]⟩⟩ "" 2 1,bS ⟨⟨[77,85,76]⟩⟩ "" 2 1,bS ⟨⟨[68,73,86]⟩⟩ "" 2 1,bS ⟨⟨[77,79,68]⟩⟩ "" 2 1,bS ⟨⟨[83,72,76]⟩⟩ "" 2 1,bS ⟨⟨[83,72,82]⟩⟩ "" 2 1,bS ⟨⟨[85,83,72,82]⟩⟩ "" 2 1,bS ⟨⟨[65,78,68]⟩⟩ "" 2 1,bS ⟨⟨[79,82]⟩⟩ "" 2 1,bS ⟨⟨[88,79,82]⟩⟩ "" 2 1,bS ⟨⟨[69,81]⟩⟩ "" 2 1,bS ⟨⟨[78,69]⟩⟩ "" 2 1,bS ⟨⟨[83,69,81]⟩⟩ "" 2 1,bS ⟨⟨[83,78,69]⟩⟩ "" 2 1,bS ⟨⟨[76,84]⟩⟩ "" 2 1,bS ⟨⟨[71,84]⟩⟩ "" 2 1,bS ⟨⟨[76,69]⟩⟩ "" 2 1,bS ⟨⟨[71,69]⟩⟩ "" 2 1,bS ⟨⟨[73,78]⟩⟩ "" 2 1,bS ⟨⟨[73,78,83,84,65,78,67,69,79,70]⟩⟩ "" 2 1,bS ⟨⟨[78,69,71]⟩⟩ "" 1 1,bS ⟨⟨[84,79,78,85,77]⟩⟩ "" 1 1,bS ⟨⟨[78,79,84]⟩⟩ "" 1 1,bS ⟨⟨[66,73,84,78,79,84]⟩⟩ "" 1 1,bS ⟨⟨[84,89,80,69,79,70]⟩⟩ "" 1 1,bS ⟨⟨[73,78,67]⟩⟩ "" 1 1,bS ⟨⟨[68,69,67]⟩⟩ "" 1 1,bS ⟨⟨[74,77,80]⟩⟩ ⟨⟨[116]⟩⟩ 0 0,bS ⟨⟨[74,70]⟩⟩ ⟨⟨[116]⟩⟩ 1 0,bS ⟨⟨[74,84]⟩⟩ ⟨⟨[116]⟩⟩ 1 0,bS ⟨⟨[74,70,75]⟩⟩ ⟨⟨[116]⟩⟩ 1 0,bS ⟨⟨[74,84,75]⟩⟩ ⟨⟨[116]⟩⟩ 1 0,bS ⟨⟨[67,65,76,76]⟩⟩ ⟨⟨[110]⟩⟩ 2 1,bS ⟨⟨[78,69,87]⟩⟩ ⟨⟨[110]⟩⟩ 1 1,bS ⟨⟨[82,69,84]⟩⟩ "" 1 0,bS ⟨⟨[84,72,82,79,87]⟩⟩ "" 1 0,bS ⟨⟨[67,76,79,83,85,82,69]⟩⟩ ⟨⟨[102]⟩⟩ 0 1,bS ⟨⟨[78,69,87,79,66,74]⟩⟩ "" 0 1,bS ⟨⟨[78,69,87,65,82,82]⟩⟩ ⟨⟨[110]⟩⟩ 0 1,bS ⟨⟨[72,79,76,69]⟩⟩ "" 0 1,bS ⟨⟨[73,78,73,84,80,82,79,80]⟩⟩ ⟨⟨[115]⟩⟩ 2 1,bS ⟨⟨[73,78,73,84,71,69,84]⟩⟩ ⟨⟨[115]⟩⟩ 2 1,bS ⟨⟨[73,78,73,84,83,69,84]⟩⟩ ⟨⟨[115]⟩⟩ 2 1,bS ⟨⟨[77,69,84,72,79,68]⟩⟩ ⟨⟨[115]⟩⟩ 1 2,bS ⟨⟨[77,69,84,72,79,68,69,76]⟩⟩ "" 2 2,bS ⟨⟨[70,79,82,73,78]⟩⟩ "" 1 1,bS ⟨⟨[78,69,88,84,73,78]⟩⟩ ⟨⟨[116]⟩⟩ 1 2,bS ⟨⟨[71,79,83,85,66]⟩⟩ ⟨⟨[116]⟩⟩ 0 0,bS ⟨⟨[82,69,84,83,85,66]⟩⟩ "" 2 0,bS ⟨⟨[67,72,69,67,75,79,66,74]⟩⟩ "" 1 1,bS ⟨⟨[84,79,75,69,89]⟩⟩ "" 2 2,bS ⟨⟨[82,79,84,52]⟩⟩ "" 4 4,bS ⟨⟨[70,65,73,76,83,69,84]⟩⟩ ⟨⟨[115]⟩⟩ 1 0,bS ⟨⟨[82,69,71,69,88,80]⟩⟩ "" 2 1]
noncomputable def wo:List (Str×V):=[g ⟨⟨[79,80,95,78,85,76,76]⟩⟩ (.int 1),g ⟨⟨[79,80,95,84,82,85,69]⟩⟩ (.int 2),g ⟨⟨[79,80,95,70,65,76,83,69]⟩⟩ (.int 3),g ⟨⟨[79,80,95,67,79,78,83,84]⟩⟩ (.int 4),g ⟨⟨[79,80,95,84,72,73,83]⟩⟩ (.int 5),g ⟨⟨[79,80,95,80,79,80]⟩⟩ (.int 6),g ⟨⟨[79,80,95,83,87,65,80]⟩⟩ (.int 9),g ⟨⟨[79,80,95,82,79,84,51]⟩⟩ (.int 10),g ⟨⟨[79,80,95,70,82,69,83,72]⟩⟩ (.int 17),g ⟨⟨[79,80,95,71,69,84,71,76,79,66]⟩⟩ (.int 18),g ⟨⟨[79,80,95,83,69,84,71,76,79,66]⟩⟩ (.int 20),g ⟨⟨[79,80,95,71,69,84,80,82,79,80]⟩⟩ (.int 23),g ⟨⟨[79,80,95,83,69,84,80,82,79,80]⟩⟩ (.int 24),g ⟨⟨[79,80,95,71,69,84,69,76,69,77]⟩⟩ (.int 25),g ⟨⟨[79,80,95,83,69,84,69,76,69,77]⟩⟩ (.int 26),g ⟨⟨[79,80,95,74,77,80]⟩⟩ (.int 58),g ⟨⟨[79,80,95,74,70]⟩⟩ (.int 59),g ⟨⟨[79,80,95,74,84]⟩⟩ (.int 60),g ⟨⟨[79,80,95,78,69,87]⟩⟩ (.int 64),g ⟨⟨[79,80,95,84,72,82,79,87]⟩⟩ (.int 66),g ⟨⟨[79,80,95,67,76,79,83,85,82,69]⟩⟩ (.int 67),g ⟨⟨[79,80,95,70,79,82,73,78]⟩⟩ (.int 76),g ⟨⟨[79,80,95,78,69,88,84,73,78]⟩⟩ (.int 77),g ⟨⟨[79,80,95,71,79,83,85,66]⟩⟩ (.int 78),g ⟨⟨[79,80,95,84,79,75,69,89]⟩⟩ (.int 81),g ⟨⟨[79,80,95,70,65,73,76,83,69,84]⟩⟩ (.int 83),g ⟨⟨[79,80,69,82,65,84,73,79,78,83]⟩⟩ (.aO NU),g ⟨⟨[76,65,83,84,95,79,80,83]⟩⟩ (.aO [.int 58,.int 65,.int 66,.int 79,.int 83]),g ⟨⟨[85,110,105,116]⟩⟩ (.obj (.ref 145)),g ⟨⟨[111,112,95,110,97,109,101]⟩⟩ (.obj (.ref 156)),g ⟨⟨[97,114,103,95,107,105,110,100]⟩⟩ (.obj (.ref 163)),g ⟨⟨[116,97,107,101,110,95,99,111,117,110,116]⟩⟩ (.obj (.ref 170)),g ⟨⟨[112,117,116,95,99,111,117,110,116]⟩⟩ (.obj (.ref 177)),g ⟨⟨[105,115,95,108,97,115,116]⟩⟩ (.obj (.ref 184)),g ⟨⟨[115,97,109,101,95,99,111,110,115,116,97,110,116]⟩⟩ (.obj (.ref 191)),g ⟨⟨[67,111,100,101]⟩⟩ (.obj (.ref 307)),g ⟨⟨[100,101,112,116,104,95,97,116,95,116,97,114,103,101,116]⟩⟩ (.obj (.ref 318)),g ⟨⟨[79,112,101,110,67,111,100,101]⟩⟩ (.obj (.ref 413)),g ⟨⟨[71,69,84,95,79,80,83]⟩⟩ (.fd [(⟨⟨[108,111,99,97,108]⟩⟩,.int 11),(⟨⟨[99,101,108,108]⟩⟩,.int 13),(⟨⟨[117,112]⟩⟩,.int 15)]),g ⟨⟨[83,69,84,95,79,80,83]⟩⟩ (.fd [(⟨⟨[108,111,99,97,108]⟩⟩,.int 12),(⟨⟨[99,101,108,108]⟩⟩,.int 14),(⟨⟨[117,112]⟩⟩,.int 16)]),g ⟨⟨[76,79,79,80]⟩⟩ (.str ⟨⟨[108,111,111,112]⟩⟩),g ⟨⟨[75,69,89,83]⟩⟩ (.str ⟨⟨[107,101,121,115]⟩⟩),g ⟨⟨[71,85,65,82,68,69,68]⟩⟩ (.str ⟨⟨[103,117,97,114,100,101,100]⟩⟩),g ⟨⟨[67,111,110,116,114,111,108]⟩⟩ (.obj (.ref 506)),g ⟨⟨[108,97,121,95,98,114,97,110,99,104]⟩⟩ (.obj (.ref 557)),g ⟨⟨[76,79,79,80,83]⟩⟩ (.tup [.str ⟨⟨[87,104,105,108,101]⟩⟩,.str ⟨⟨[68,111,87,104,105,108,101]⟩⟩,.str ⟨⟨[70,111,114]⟩⟩,.str ⟨⟨[70,111,114,73,110]⟩⟩]),g ⟨⟨[67,111,109,112,83,116,109,116]⟩⟩ (.obj (.ref 834)),g ⟨⟨[78,111,100,101]⟩⟩ (.obj (.ref 853)),g ⟨⟨[95,108,97,119,95,116,97,107,101]⟩⟩ (.obj (.ref 864)),g ⟨⟨[95,108,97,119,95,110,97,109,101]⟩⟩ (.obj (.ref 871)),g ⟨⟨[95,108,97,119,95,116,97,114,103,101,116]⟩⟩ (.obj (.ref 878)),g ⟨⟨[95,108,97,119,95,108,105,110,101]⟩⟩ (.obj (.ref 883)),g ⟨⟨[95,108,97,119,95,118,105,101,119]⟩⟩ (.obj (.ref 890)),g ⟨⟨[95,108,97,119,95,103,101,116]⟩⟩ (.obj (.ref 897)),g ⟨⟨[95,108,97,119,95,115,101,116]⟩⟩ (.obj (.ref 904)),g ⟨⟨[95,108,97,119,95,107,101,121,101,100]⟩⟩ (.obj (.ref 911)),g ⟨⟨[95,108,97,119,95,100,111]⟩⟩ (.obj (.ref 918)),g ⟨⟨[95,108,97,119,95,97,108,108]⟩⟩ (.obj (.ref 925)),g ⟨⟨[95,108,97,119,95,112,108,97,105,110]⟩⟩ (.obj (.ref 930)),g ⟨⟨[95,108,97,119,95,99,97,117,103,104,116]⟩⟩ (.obj (.ref 937)),g ⟨⟨[95,108,97,119,95,114,117,110]⟩⟩ (.obj (.ref 944)),g ⟨⟨[95,108,97,119,95,114,101,97,100]⟩⟩ (.obj (.ref 949))]
noncomputable def z8:List (Str×V):=[(⟨⟨[108,101,110]⟩⟩,.obj (.builtin "len")),(⟨⟨[114,97,110,103,101]⟩⟩,.obj (.type "range")),(⟨⟨[105,115,105,110,115,116,97,110,99,101]⟩⟩,.obj (.builtin "isinstance")),(⟨⟨[115,116,114]⟩⟩,.obj (.type "str")),(⟨⟨[105,110,116]⟩⟩,.obj (.type "int")),(⟨⟨[97,98,115]⟩⟩,.obj (.builtin "abs")),(⟨⟨[115,117,109]⟩⟩,.obj (.builtin "sum")),(⟨⟨[108,105,115,116]⟩⟩,.obj (.type "list")),(⟨⟨[101,110,117,109,101,114,97,116,101]⟩⟩,.obj (.type "enumerate"))]
structure eS where
 fd:FuncData
 ps:List Str
 iY:List V
 body:List Stmt
 tab:Option (Nat×Str)
 jv:Bool
noncomputable def dF:List (Addr×eS):=[
 (142,⟨zA,[⟨⟨[115,101,108,102]⟩⟩,⟨⟨[110,97,109,101]⟩⟩,⟨⟨[112,97,114,97,109,115]⟩⟩],[],Nt.1,none,false⟩),
 (156,⟨zB,[⟨⟨[111,112]⟩⟩],[],Nu.1,none,false⟩),
 (163,⟨zC,[⟨⟨[111,112]⟩⟩],[],Nv.1,none,false⟩),
 (170,⟨zD,[⟨⟨[111,112]⟩⟩,⟨⟨[97,114,103]⟩⟩],[],Nw.1,none,false⟩),
 (177,⟨zE,[⟨⟨[111,112]⟩⟩],[],Nx.1,none,false⟩),
 (184,⟨zF,[⟨⟨[111,112]⟩⟩],[],Ny.1,none,false⟩),
 (191,⟨zG,[⟨⟨[111,110,101]⟩⟩,⟨⟨[111,116,104,101,114]⟩⟩],[],Nz.1,none,false⟩),
 (205,⟨zH,[⟨⟨[115,101,108,102]⟩⟩,⟨⟨[110,97,109,101]⟩⟩,⟨⟨[112,97,114,97,109,115]⟩⟩,⟨⟨[105,115,95,115,116,114,105,99,116]⟩⟩],[],NA.1,none,false⟩),
 (212,⟨zI,[⟨⟨[115,101,108,102]⟩⟩],[],NB.1,none,false⟩),
 (220,⟨qG,[⟨⟨[115,101,108,102]⟩⟩,⟨⟨[111,112]⟩⟩,⟨⟨[97,114,103]⟩⟩],[.none],D3.1,none,false⟩),
 (227,⟨zJ,[⟨⟨[115,101,108,102]⟩⟩],[],NC.1,none,false⟩),
 (234,⟨vR,[⟨⟨[115,101,108,102]⟩⟩,⟨⟨[108,97,98,101,108]⟩⟩],[],D4.1,none,false⟩),
 (241,⟨vS,[⟨⟨[115,101,108,102]⟩⟩,⟨⟨[111,112]⟩⟩,⟨⟨[108,97,98,101,108]⟩⟩],[],D5.1,none,false⟩),
 (248,⟨kT,[⟨⟨[115,101,108,102]⟩⟩,⟨⟨[118,97,108,117,101]⟩⟩],[],kU.1,none,false⟩),
 (269,⟨zK,[⟨⟨[115,101,108,102]⟩⟩,⟨⟨[117,110,105,116]⟩⟩],[],ND.1,none,false⟩),
 (276,⟨zL,[⟨⟨[115,101,108,102]⟩⟩,⟨⟨[115,116,97,114,116]⟩⟩,⟨⟨[101,110,100]⟩⟩,⟨⟨[116,97,114,103,101,116]⟩⟩,⟨⟨[100,101,112,116,104]⟩⟩,⟨⟨[105,115,95,102,105,110,97,108,108,121]⟩⟩],[],NF.1,none,false⟩),
 (283,⟨vT,[⟨⟨[115,101,108,102]⟩⟩,⟨⟨[108,97,98,101,108]⟩⟩,⟨⟨[112,99]⟩⟩],[],D6.1,none,false⟩),
 (290,⟨tc,[⟨⟨[115,101,108,102]⟩⟩],[],j9.1,none,false⟩),
 (297,⟨td,[⟨⟨[115,101,108,102]⟩⟩],[],nK.1,none,false⟩),
 (304,⟨te,[⟨⟨[115,101,108,102]⟩⟩],[],zM.1,none,true⟩),
 (318,⟨zN,[⟨⟨[111,112]⟩⟩,⟨⟨[100,101,112,116,104]⟩⟩],[],NG.1,none,false⟩),
 (332,⟨zO,[⟨⟨[115,101,108,102]⟩⟩,⟨⟨[110,97,109,101]⟩⟩,⟨⟨[112,97,114,97,109,115]⟩⟩,⟨⟨[105,115,95,115,116,114,105,99,116]⟩⟩],[],NH.1,none,false⟩),
 (339,⟨zP,[⟨⟨[115,101,108,102]⟩⟩],[],NI.1,none,false⟩),
 (346,⟨zQ,[⟨⟨[115,101,108,102]⟩⟩,⟨⟨[108,105,110,101]⟩⟩],[],NJ.1,none,false⟩),
 (353,⟨zR,[⟨⟨[115,101,108,102]⟩⟩],[],NK.1,none,false⟩),
 (360,⟨tf,[⟨⟨[115,101,108,102]⟩⟩,⟨⟨[108,97,98,101,108]⟩⟩,⟨⟨[100,101,112,116,104]⟩⟩],[],zS.1,none,false⟩),
 (368,⟨qH,[⟨⟨[115,101,108,102]⟩⟩,⟨⟨[111,112]⟩⟩,⟨⟨[97,114,103]⟩⟩],[.none],D7.1,none,false⟩),
 (375,⟨vU,[⟨⟨[115,101,108,102]⟩⟩,⟨⟨[118,97,108,117,101]⟩⟩],[],D8.1,none,false⟩),
 (382,⟨vV,[⟨⟨[115,101,108,102]⟩⟩,⟨⟨[111,112]⟩⟩,⟨⟨[116,101,120,116]⟩⟩],[],D9.1,none,false⟩),
 (389,⟨qI,[⟨⟨[115,101,108,102]⟩⟩,⟨⟨[111,112]⟩⟩,⟨⟨[108,97,98,101,108]⟩⟩],[],vW.1,none,false⟩),
 (396,⟨tg,[⟨⟨[115,101,108,102]⟩⟩,⟨⟨[108,97,98,101,108]⟩⟩],[],zT.1,none,false⟩),
 (403,⟨vX,[⟨⟨[115,101,108,102]⟩⟩,⟨⟨[108,97,98,101,108]⟩⟩,⟨⟨[100,101,112,116,104]⟩⟩],[],Ea.1,none,false⟩),
 (410,⟨th,[⟨⟨[115,101,108,102]⟩⟩],[],zU.1,none,false⟩),
 (433,⟨zV,[⟨⟨[115,101,108,102]⟩⟩,⟨⟨[115,99,111,112,101]⟩⟩,⟨⟨[110,97,109,101]⟩⟩],[],NL.1,none,false⟩),
 (447,⟨qJ,[⟨⟨[115,101,108,102]⟩⟩,⟨⟨[110,97,109,101]⟩⟩],[],vY.1,none,false⟩),
 (454,⟨qK,[⟨⟨[115,101,108,102]⟩⟩,⟨⟨[112,108,97,99,101]⟩⟩],[],vZ.1,none,false⟩),
 (461,⟨qL,[⟨⟨[115,101,108,102]⟩⟩,⟨⟨[110,97,109,101]⟩⟩],[],v3.1,none,false⟩),
 (496,⟨v5,[⟨⟨[115,101,108,102]⟩⟩,⟨⟨[107,105,110,100]⟩⟩,⟨⟨[108,97,98,101,108,115]⟩⟩,⟨⟨[98,101,104,105,110,100]⟩⟩,⟨⟨[97,103,97,105,110]⟩⟩],[],Eb.1,none,false⟩),
 (557,⟨v7,[⟨⟨[99,111,100,101]⟩⟩,⟨⟨[110,111,100,101]⟩⟩,⟨⟨[108,97,98,101,108]⟩⟩,⟨⟨[119,104,101,110]⟩⟩,⟨⟨[112,117,115,104]⟩⟩],[],Ec.1,none,false⟩),
 (601,⟨o3,[⟨⟨[115,101,108,102]⟩⟩,⟨⟨[110,111,100,101]⟩⟩],[],ti.1,none,false⟩),
 (608,⟨v8,[⟨⟨[115,101,108,102]⟩⟩,⟨⟨[110,111,100,101]⟩⟩],[],Ed.1,none,false⟩),
 (622,⟨v9,[⟨⟨[115,101,108,102]⟩⟩,⟨⟨[110,111,100,101]⟩⟩],[],Ee.1,none,false⟩),
 (650,⟨wa,[⟨⟨[115,101,108,102]⟩⟩,⟨⟨[116,97,114,103,101,116]⟩⟩],[],Ef.1,none,false⟩),
 (705,⟨tj,[⟨⟨[115,101,108,102]⟩⟩,⟨⟨[110,111,100,101,115]⟩⟩],[],o4.1,none,true⟩),
 (712,⟨tk,[⟨⟨[115,101,108,102]⟩⟩,⟨⟨[110,111,100,101]⟩⟩],[],zW.1,none,false⟩),
 (719,⟨wb,[⟨⟨[115,101,108,102]⟩⟩],[],Eg.1,none,false⟩),
 (726,⟨zX,[⟨⟨[115,101,108,102]⟩⟩,⟨⟨[112,97,105,114,115]⟩⟩],[],NM.1,none,false⟩),
 (747,⟨tl,[⟨⟨[115,101,108,102]⟩⟩,⟨⟨[110,111,100,101]⟩⟩,⟨⟨[108,97,98,101,108,115]⟩⟩],[],zY.1,none,false⟩),
 (754,⟨wc,[⟨⟨[115,101,108,102]⟩⟩,⟨⟨[110,111,100,101]⟩⟩,⟨⟨[99,111,110,116,114,111,108]⟩⟩],[],Eh.1,none,false⟩),
 (761,⟨wd,[⟨⟨[115,101,108,102]⟩⟩,⟨⟨[116,101,115,116]⟩⟩,⟨⟨[110,111,100,101]⟩⟩,⟨⟨[99,111,110,116,114,111,108]⟩⟩],[],Ei.1,none,false⟩),
 (782,⟨tm,[⟨⟨[115,101,108,102]⟩⟩,⟨⟨[112,97,114,116,115]⟩⟩,⟨⟨[99,111,110,116,114,111,108]⟩⟩],[],zZ.1,none,false⟩),
 (789,⟨nL,[⟨⟨[115,101,108,102]⟩⟩,⟨⟨[116,97,114,103,101,116]⟩⟩],[],qM.1,none,false⟩),
 (803,⟨tn,[⟨⟨[115,101,108,102]⟩⟩,⟨⟨[110,111,100,101]⟩⟩],[],z0.1,none,false⟩),
 (810,⟨z1,[⟨⟨[115,101,108,102]⟩⟩],[],NN.1,none,false⟩),
 (817,⟨we,[⟨⟨[115,101,108,102]⟩⟩,⟨⟨[108,97,115,116]⟩⟩,⟨⟨[114,101,115,116]⟩⟩,⟨⟨[101,110,100]⟩⟩],[],Ej.1,none,false⟩),
 (824,⟨wg,[⟨⟨[115,101,108,102]⟩⟩,⟨⟨[110,111,100,101]⟩⟩,⟨⟨[115,116,97,114,116]⟩⟩,⟨⟨[115,116,111,112]⟩⟩,⟨⟨[100,101,112,116,104]⟩⟩,⟨⟨[97,104,101,97,100]⟩⟩],[],Ek.1,none,false⟩),
 (850,⟨wh,[⟨⟨[115,101,108,102]⟩⟩,⟨⟨[107,105,110,100]⟩⟩,⟨⟨[108,105,110,101]⟩⟩,⟨⟨[112,97,114,116,115]⟩⟩],[],El.1,none,false⟩),
 (864,⟨wi,[⟨⟨[98,111,120]⟩⟩,⟨⟨[119,105,100,101]⟩⟩],[],Em.1,none,false⟩),
 (871,⟨wj,[⟨⟨[98,111,120]⟩⟩,⟨⟨[109,97,110,121]⟩⟩],[],En.1,none,false⟩),
 (878,⟨tp,[⟨⟨[98,111,120]⟩⟩,⟨⟨[105,115,95,99,97,117,103,104,116]⟩⟩],[],z2.1,none,false⟩),
 (883,⟨qN,[⟨⟨[98,111,120]⟩⟩,⟨⟨[100,101,101,112]⟩⟩,⟨⟨[105,115,95,99,97,117,103,104,116]⟩⟩],[],gT.1,none,true⟩),
 (890,⟨tq,[],[],gF.1,some (0,"_law_view.<locals>.<lambda>"),true⟩),
 (897,⟨qO,[⟨⟨[119,111,114,108,100]⟩⟩,⟨⟨[110,97,109,101]⟩⟩],[],o5.1,none,false⟩),
 (904,⟨tr,[⟨⟨[119,111,114,108,100]⟩⟩,⟨⟨[119,104,97,116]⟩⟩,⟨⟨[118,97,108,117,101]⟩⟩],[],o6.1,none,false⟩),
 (911,⟨ts,[⟨⟨[119,111,114,108,100]⟩⟩,⟨⟨[116,97,114,103,101,116]⟩⟩,⟨⟨[107,101,121]⟩⟩],[],qP.1,none,false⟩),
 (918,⟨tu,[⟨⟨[119,111,114,108,100]⟩⟩,⟨⟨[110,111,100,101]⟩⟩],[],lK.1,none,false⟩),
 (925,⟨qQ,[⟨⟨[119,111,114,108,100]⟩⟩,⟨⟨[108,105,110,101,115]⟩⟩],[],iW.1,none,false⟩),
 (930,⟨qR,[⟨⟨[119,111,114,108,100]⟩⟩,⟨⟨[119,111,114,100]⟩⟩,⟨⟨[119,104,101,114,101]⟩⟩,⟨⟨[115,116,97,99,107]⟩⟩,⟨⟨[117,110,105,116]⟩⟩],[],qS.1,none,false⟩),
 (937,⟨qT,[⟨⟨[117,110,105,116]⟩⟩,⟨⟨[97,116]⟩⟩,⟨⟨[115,116,97,99,107]⟩⟩,⟨⟨[102,97,117,108,116]⟩⟩],[],lL.1,none,false⟩),
 (944,⟨tv,[⟨⟨[119,111,114,108,100]⟩⟩,⟨⟨[117,110,105,116]⟩⟩],[],qU.1,none,false⟩),
 (949,⟨tw,[⟨⟨[119,111,114,108,100]⟩⟩],[],z3.1,none,false⟩),
 (954,⟨qV,[⟨⟨[115,99,114,105,112,116]⟩⟩],[],fC.1,some (1,"law.<locals>.<lambda>"),false⟩)]
structure nO where
 init:Addr
 ms:List (Str×Addr)
 as:List Str
noncomputable def hJ:List (Addr×nO):=[
 (853,⟨850,[],[⟨⟨[107,105,110,100]⟩⟩,⟨⟨[108,105,110,101]⟩⟩,⟨⟨[112,97,114,116,115]⟩⟩,⟨⟨[115,99,111,112,101]⟩⟩,⟨⟨[112,97,114,97,109,115]⟩⟩,⟨⟨[105,115,95,115,116,114,105,99,116]⟩⟩,⟨⟨[108,111,99,97,108,95,99,111,117,110,116]⟩⟩,⟨⟨[115,111,114,116]⟩⟩,⟨⟨[102,105,110,100]⟩⟩,⟨⟨[105,115,95,99,111,110,115,116,97,110,116]⟩⟩,⟨⟨[99,97,117,103,104,116]⟩⟩,⟨⟨[112,108,97,99,101]⟩⟩]⟩),
 (834,⟨433,[(⟨⟨[115,116,97,116,101,109,101,110,116,115]⟩⟩,705),(⟨⟨[115,116,97,116,101,109,101,110,116]⟩⟩,712),(⟨⟨[100,114,111,112,95,114,101,115,117,108,116]⟩⟩,719),(⟨⟨[118,97,114,105,97,98,108,101,115]⟩⟩,726),(⟨⟨[108,111,111,112]⟩⟩,747),(⟨⟨[98,111,100,121]⟩⟩,754),(⟨⟨[119,104,105,108,101,95,108,111,111,112]⟩⟩,761),(⟨⟨[107,101,121,115,95,108,111,111,112]⟩⟩,782),(⟨⟨[116,97,107,101,95,107,101,121]⟩⟩,789),(⟨⟨[103,117,97,114,100,101,100]⟩⟩,803),(⟨⟨[107,101,112,116,95,114,101,115,117,108,116]⟩⟩,810),(⟨⟨[99,108,111,115,101,95,103,117,97,114,100,101,100]⟩⟩,817),(⟨⟨[99,97,117,103,104,116]⟩⟩,824),(⟨⟨[118,97,108,117,101]⟩⟩,601),(⟨⟨[111,116,104,101,114,95,118,97,108,117,101]⟩⟩,608),(⟨⟨[99,108,111,115,117,114,101]⟩⟩,622),(⟨⟨[101,108,101,109,101,110,116]⟩⟩,650),(⟨⟨[103,101,116,95,110,97,109,101]⟩⟩,447),(⟨⟨[115,101,116,95,112,108,97,99,101]⟩⟩,454),(⟨⟨[115,101,116,95,110,97,109,101]⟩⟩,461)],[⟨⟨[115,99,111,112,101]⟩⟩,⟨⟨[118,105,101,119]⟩⟩,⟨⟨[99,111,100,101]⟩⟩,⟨⟨[99,111,110,116,114,111,108,115]⟩⟩,⟨⟨[108,111,99,97,108,95,99,111,117,110,116]⟩⟩,⟨⟨[114,101,115,117,108,116]⟩⟩,⟨⟨[105,110,110,101,114,95,117,110,105,116]⟩⟩]⟩),
 (413,⟨332,[(⟨⟨[105,115,95,111,112,101,110]⟩⟩,339),(⟨⟨[115,101,116,95,108,105,110,101]⟩⟩,346),(⟨⟨[110,101,119,95,108,97,98,101,108]⟩⟩,353),(⟨⟨[109,101,101,116]⟩⟩,360),(⟨⟨[97,100,100]⟩⟩,368),(⟨⟨[97,100,100,95,99,111,110,115,116]⟩⟩,375),(⟨⟨[97,100,100,95,110,97,109,101,100]⟩⟩,382),(⟨⟨[106,117,109,112,95,116,111]⟩⟩,389),(⟨⟨[115,116,97,110,100]⟩⟩,396),(⟨⟨[101,110,116,101,114]⟩⟩,403),(⟨⟨[109,97,114,107]⟩⟩,410)],[⟨⟨[109,97,100,101]⟩⟩,⟨⟨[100,101,112,116,104]⟩⟩,⟨⟨[100,101,112,116,104,115]⟩⟩]⟩),
 (307,⟨205,[(⟨⟨[104,101,114,101]⟩⟩,212),(⟨⟨[101,109,105,116]⟩⟩,220),(⟨⟨[108,97,98,101,108]⟩⟩,227),(⟨⟨[112,108,97,99,101]⟩⟩,234),(⟨⟨[106,117,109,112]⟩⟩,241),(⟨⟨[99,111,110,115,116]⟩⟩,248),(⟨⟨[105,110,110,101,114]⟩⟩,269),(⟨⟨[104,97,110,100,108,101,114]⟩⟩,276),(⟨⟨[112,108,97,99,101,95,111,102]⟩⟩,283),(⟨⟨[112,108,97,99,101,100,95,99,111,100,101]⟩⟩,290),(⟨⟨[112,108,97,99,101,100,95,104,97,110,100,108,101,114,115]⟩⟩,297),(⟨⟨[117,110,105,116]⟩⟩,304)],[⟨⟨[110,97,109,101]⟩⟩,⟨⟨[112,97,114,97,109,115]⟩⟩,⟨⟨[105,115,95,115,116,114,105,99,116]⟩⟩,⟨⟨[99,111,100,101]⟩⟩,⟨⟨[108,105,110,101,115]⟩⟩,⟨⟨[108,105,110,101]⟩⟩,⟨⟨[99,111,110,115,116,115]⟩⟩,⟨⟨[117,110,105,116,115]⟩⟩,⟨⟨[112,108,97,99,101,115]⟩⟩,⟨⟨[104,97,110,100,108,101,114,115]⟩⟩,⟨⟨[108,111,99,97,108,95,99,111,117,110,116]⟩⟩,⟨⟨[99,101,108,108,95,99,111,117,110,116]⟩⟩,⟨⟨[99,97,112,116,117,114,101,115]⟩⟩,⟨⟨[117,115,101,115,95,97,114,103,117,109,101,110,116,115]⟩⟩,⟨⟨[115,101,108,102,95,115,108,111,116]⟩⟩,⟨⟨[97,114,103,117,109,101,110,116,115,95,112,108,97,99,101]⟩⟩,⟨⟨[112,97,114,97,109,95,112,108,97,99,101,115]⟩⟩]⟩),
 (506,⟨496,[],[⟨⟨[107,105,110,100]⟩⟩,⟨⟨[108,97,98,101,108,115]⟩⟩,⟨⟨[98,101,104,105,110,100]⟩⟩,⟨⟨[97,103,97,105,110]⟩⟩]⟩),
 (145,⟨142,[],[⟨⟨[110,97,109,101]⟩⟩,⟨⟨[112,97,114,97,109,115]⟩⟩,⟨⟨[99,111,100,101]⟩⟩,⟨⟨[99,111,110,115,116,115]⟩⟩,⟨⟨[117,110,105,116,115]⟩⟩,⟨⟨[104,97,110,100,108,101,114,115]⟩⟩,⟨⟨[108,105,110,101,115]⟩⟩,⟨⟨[108,111,99,97,108,95,99,111,117,110,116]⟩⟩,⟨⟨[99,101,108,108,95,99,111,117,110,116]⟩⟩,⟨⟨[99,97,112,116,117,114,101,115]⟩⟩,⟨⟨[105,115,95,115,116,114,105,99,116]⟩⟩,⟨⟨[117,115,101,115,95,97,114,103,117,109,101,110,116,115]⟩⟩,⟨⟨[115,101,108,102,95,115,108,111,116]⟩⟩,⟨⟨[97,114,103,117,109,101,110,116,115,95,112,108,97,99,101]⟩⟩,⟨⟨[112,97,114,97,109,95,112,108,97,99,101,115]⟩⟩]⟩)]
noncomputable def kc {α:Type}:List α→Option α
 |[a]=>some a
 |_=>none
noncomputable def tF {α:Type}:List α→Option (α×α)
 |[a,b]=>some (a,b)
 |_=>none
inductive hK where
 |nm (x:Str) (p:Pos) |at (o:PySem.Expr) (n:Str) (p:Pos) |sub (o i:PySem.Expr) (p:Pos) |tup (bp:List PySem.Expr) (k:Nat) (p:Pos) |fQ (lo aM s:Option PySem.Expr) (p:Pos)
 |call (f:PySem.Expr) (args:List PySem.Expr) (gV:List Keyword) (p:Pos) |cst (c:Const) (k:Nat) (p:Pos) |lc (elt:PySem.Expr) (gens:List Comprehension) (sc:Scope) (p:Pos) |Eu
noncomputable def e3:PySem.Expr→hK
 |.Name x p=>.nm x p
 |.Attribute o n p=>.at o n p
 |.Subscript o i p=>.sub o i p
 |.Tuple bp k p=>.tup bp k p
 |.Slice lo aM s p=>.fQ lo aM s p
 |.Call f args gV p=>.call f args gV p
 |.Constant c k p=>.cst c k p
 |.ListComp elt gens sc p=>.lc elt gens sc p
 |_=>.Eu
noncomputable def hK.is (e:PySem.Expr):hK→Prop
 |.nm x p=>e=.Name x p
 |.at o n p=>e=.Attribute o n p
 |.sub o i p=>e=.Subscript o i p
 |.tup bp k p=>e=.Tuple bp k p
 |.fQ lo aM s p=>e=.Slice lo aM s p
 |.call f args gV p=>e=.Call f args gV p
 |.cst c k p=>e=.Constant c k p
 |.lc elt gens sc p=>e=.ListComp elt gens sc p
 |.Eu=>True
noncomputable def hK.NV:hK→Option (Str×Pos)
 |.nm x p=>some (x,p)
 |_=>none
noncomputable def hK.NW:hK→Option (PySem.Expr×Str×Pos)
 |.at o n p=>some (o,n,p)
 |_=>none
noncomputable def hK.hG:hK→Option (List PySem.Expr)
 |.tup bp _ _=>some bp
 |_=>none
noncomputable def hK.lQ:hK→Option (Option PySem.Expr×Option PySem.Expr×Option PySem.Expr)
 |.fQ lo aM s _=>some (lo,aM,s)
 |_=>none
noncomputable def hK.z9:hK→Option Str
 |.cst (.str s) _ _=>some s
 |_=>none
noncomputable def ke (e:PySem.Expr):Option (Str×Pos):=(e3 e).NV
noncomputable def lR (e:PySem.Expr):Option (PySem.Expr×Str×Pos):=(e3 e).NW
noncomputable def f5 (e:PySem.Expr):Option (List PySem.Expr):=(e3 e).hG
noncomputable def tG (e:PySem.Expr):Option (Option PySem.Expr×Option PySem.Expr×Option PySem.Expr):=(e3 e).lQ
noncomputable def gW (k:Nat) (e:PySem.Expr):Bool:=Nat.beq e.ctorIdx k
noncomputable def gr (e:PySem.Expr):Bool:=gW 7 e
noncomputable def isStar (e:PySem.Expr):Bool:=gW 22 e
noncomputable def Aa (e:PySem.Expr):Bool:=gW 25 e
noncomputable def Ab (e:PySem.Expr):Bool:=gW 24 e
noncomputable def nP (e:PySem.Expr):Bool:=gW 26 e
noncomputable def mS (e:PySem.Expr):Bool:=gW 8 e || gW 9 e || gW 10 e
noncomputable def wq (e:PySem.Expr):Bool:=!(gW 3 e || gW 0 e || gW 5 e || gW 15 e)
noncomputable def baseOk (e:PySem.Expr):Bool:=gW 23 e || gW 20 e || gW 21 e
noncomputable def isNm (e:PySem.Expr):Bool:=gW 23 e
noncomputable def tH (e:PySem.Expr):Bool:=gW 20 e || gW 16 e || gW 24 e || (ke e).any fun x=>!seq x.1 "__debug__"
inductive cA where
 |next |brk |cont |ret (v:V)
structure a5 where
 sc:Scope
 cs:List (Str×Nat)
 tab:Option (Nat×Str)
 ls:List (Str×V)
inductive Src where
 |aO (vs:List V) |di (vs:List V) |ref (i:Nat) |cw (a b:Int) |iZ (s:Src)
structure dR where
 ev:Nat→a5→PySem.Expr→ax→Option (V×ax)
 et:Nat→a5→PySem.Expr→ax→Option (Bool×ax)
 ex:Nat→a5→List Stmt→ax→Option (cA×List (Str×V)×ax)
 as:Nat→a5→PySem.Expr→V→ax→Option (List (Str×V)×ax)
 cl:Nat→V→List V→ax→Option (V×ax)
 jw:Nat→a5→PySem.Expr→Src→Nat→List Stmt→ax→Option (cA×List (Str×V)×ax)
 tI:Nat→a5→PySem.Expr→List Stmt→ax→Option (cA×List (Str×V)×ax)
 dz:Nat→a5→PySem.Expr→PySem.Expr→List PySem.Expr→Src→Nat→Nat→ax→Option ax
noncomputable def c2 {α:Type}(a:Nat):List (Nat×α)→Option α
 |[]=>none
 |(b,v)::r=>match Nat.beq a b with
  |true=>some v
  |false=>c2 a r
noncomputable def lS (x:Str):List Str→Bool
 |[]=>false
 |y::r=>seq x y || lS x r
noncomputable def d8 {α:Type}(x:Str) (v:α):List (Str×α)→List (Str×α)
 |[]=>[(x,v)]
 |(y,u)::r=>match seq x y with
  |true=>(y,v)::r
  |false=>(y,u)::d8 x v r
noncomputable def gX (fr:a5) (x:Str):Option NameKind:=match seq x "__debug__" with
 |true=>none
 |false=>look x fr.sc.names
noncomputable def h3:Option NameKind→Bool
 |some .local=>true
 |_=>false
noncomputable def Ew:Option NameKind→Bool
 |some .free=>true
 |_=>false
noncomputable def o9:Option NameKind→Bool
 |some .cell=>true
 |_=>false
noncomputable def Ac:Option NameKind→Bool
 |some .globalImplicit=>true
 |_=>false
noncomputable def tJ:Option aj→Option (Option V)
 |some (.cell u)=>some u
 |_=>none
noncomputable def lT:Option aj→Option (Addr×List (Str×V))
 |some (.inst C fs)=>some (C,fs)
 |_=>none
noncomputable def dA:Option aj→Option (List V)
 |some (.list vs)=>some vs
 |_=>none
noncomputable def tK:Option aj→Option (List (Str×V))
 |some (.dict fs)=>some fs
 |_=>none
noncomputable def wt:Option aj→Option (Str×List (Nat×Nat))
 |some (.tab q rows)=>some (q,rows)
 |_=>none
noncomputable def eM:V→Option Int
 |.int i=>some i
 |_=>none
noncomputable def nQ:V→Option Str
 |.str s=>some s
 |_=>none
noncomputable def mT:V→Option (List V)
 |.tup s=>some s
 |_=>none
noncomputable def pa:V→Option Bool
 |.bool b=>some b
 |_=>none
noncomputable def kZ:V→Option Nat
 |.ref i=>some i
 |_=>none
noncomputable def q2:V→Option (List V)
 |.aO vs=>some vs
 |_=>none
noncomputable def Ex:V→Option (Addr×List (Str×V))
 |.fin C fs=>some (C,fs)
 |_=>none
noncomputable def Ey:V→Option (List (Str×V))
 |.fd fs=>some fs
 |_=>none
noncomputable def pb (fr:a5) (x:Str) (st:ax):Option V:=bif h3 (gX fr x) then look x fr.ls else
 bif o9 (gX fr x) then (look x fr.cs).bind fun i=>(tJ st.H[i]?).bind id else bif Ac (gX fr x) then (look x wo).elim (look x z8) some else none
noncomputable def wu:List Nat→Bool
 |[]=>true
 |c::r=>Nat.blt c 1114112&&wu r
noncomputable def Ad (s:Str):Bool:=wu s.cps.toList
noncomputable def Ez:Const→Option V
 |.none=>some .none
 |.bool b=>some (.bool b)
 |.int i=>some (.int i)
 |.str s=>bif Ad s then some (.str s) else none
 |_=>none
noncomputable def nR:V→Bool
 |.any=>true
 |.obj _=>true
 |_=>false
noncomputable def Ae (v:V):Option V:=bif nR v then none else some v
noncomputable def fieldsOf (v:V) (st:ax):Option (Addr×List (Str×V)):=(Ex v).elim ((kZ v).bind fun i=>lT st.H[i]?) some
noncomputable def wx (y:Addr×List (Str×V)) (nm:Str):Option V:=(c2 y.1 hJ).bind fun ci=>bif lS nm ci.as then (look nm y.2).bind Ae else none
noncomputable def Af (y:Addr×List (Str×V)) (nm:Str):Option Addr:=(c2 y.1 hJ).bind fun ci=>bif (look nm y.2).isSome then none else look nm ci.ms
noncomputable def mU (v:V) (nm:Str) (st:ax):Option V:=(fieldsOf v st).bind fun y=>(wx y nm).elim ((Af y nm).map fun f=>.fD f v) some
noncomputable def EA (nm:Str):Option String:=bif seq nm "append" then some "list.append" else bif seq nm "pop" then some "list.pop" else bif seq nm "insert" then some "list.insert" else none
noncomputable def kf (v:V) (nm:Str) (st:ax):Option (V×List V):=(fieldsOf v st).elim ((kZ v).bind fun i=>(dA st.H[i]?).bind fun _=>(EA nm).map fun id=>(.obj (.builtin id),[v]))
 fun y=>(wx y nm).elim ((Af y nm).map fun f=>(.obj (.ref f),[v])) fun u=>some (u,[])
noncomputable def mV (v:V) (nm:Str) (x:V) (st:ax):Option ax:=(kZ v).bind fun i=>(lT st.H[i]?).bind fun y=>(c2 y.1 hJ).bind fun ci =>
 bif lS nm ci.as&&Nat.blt y.2.length 100 then some ⟨st.H.set i (.inst y.1 (d8 nm x y.2)),st.aa⟩ else none
noncomputable def idx (k:Int) (n:Nat):Option Nat:=match decide (0≤k) with
 |true=>some k.toNat
 |false=>match decide (-(n:Int)≤k) with
  |true=>some (k+n).toNat
  |false=>none
noncomputable def kg (v:V) (st:ax):Option (List V):=(q2 v).elim ((kZ v).bind fun r=>dA st.H[r]?) some
noncomputable def EB (v:V) (st:ax):Option (List (Str×V)):=(Ey v).elim ((kZ v).bind fun r=>tK st.H[r]?) some
noncomputable def q3 (v:V) (st:ax):Option (List V):=(mT v).elim (kg v st) some
noncomputable def jx (v k:V) (st:ax):Option V:=(eM k).elim ((nQ k).bind fun s=>(EB v st).bind fun fs=>look s fs) fun i=>(q3 v st).bind fun vs=>(idx i vs.length).bind fun j=>vs[j]?
noncomputable def nS (v k x:V) (st:ax):Option ax:=(kZ v).bind fun r=>(eM k).elim
 ((nQ k).bind fun s=>(tK st.H[r]?).bind fun fs=>(look s fs).map fun _=>⟨st.H.set r (.dict (d8 s x fs)),st.aa⟩)
 fun i=>(dA st.H[r]?).bind fun vs=>bif decide (0≤i) then (vs[i.toNat]?).map fun _=>⟨st.H.set r (.list (vs.set i.toNat x)),st.aa⟩ else none
noncomputable def nT (o:aj) (st:ax):V×ax:=(.ref st.H.length,⟨st.H++[o],st.aa⟩)
noncomputable def Ag (v k:V) (st:ax):Option (V×ax):=(eM k).bind fun i=>bif decide (0≤i)&&decide (i<1000) then (mT v).elim ((nQ v).elim ((kg v st).map fun vs=>nT (.list (vs.take i.toNat)) st)
 fun s=>bif Nat.blt s.cps.toList.length 1000 then some (.str ⟨⟨s.cps.toList.take i.toNat⟩⟩,st) else none) (fun vs=>some (.tup (vs.take i.toNat),st)) else none
noncomputable def kh (f:V→Option PyData):List V→Option (List PyData)
 |[]=>some []
 |v::vs=>(f v).bind fun d=>(kh f vs).map fun ds=>d::ds
noncomputable def EC (f:V→Option PyData) (H:List aj) (v:V):Option PyData:=match v with
 |.none=>some .none
 |.bool b=>some (.bool b)
 |.int i=>some (.int i)
 |.str s=>some (.str s)
 |.tup vs=>(kh f vs).map .tuple
 |.aO vs=>(kh f vs).map .list
 |.ref r=>(dA H[r]?).bind fun vs=>(kh f vs).map .list
 |_=>none
noncomputable def toPy (H:List aj):Nat→V→Option PyData
 |0,_=>none
 |n+1,v=>EC (toPy H n) H v
noncomputable def ED (i:Int):PyData→Bool
 |.bool b=>decide (i=(if b then 1 else 0))
 |.int j=>decide (i=j)
 |_=>false
noncomputable def NX (x:Str):PyData→Bool
 |.str y=>seq x y
 |_=>false
noncomputable def NY:PyData→Bool
 |.none=>true
 |_=>false
noncomputable def EE (f:List PyData→Bool):PyData→Bool
 |.list xs=>f xs
 |_=>false
noncomputable def EF (f:List PyData→Bool):PyData→Bool
 |.tuple xs=>f xs
 |_=>false
mutual
noncomputable def gs:PyData→PyData→Bool
 |.none,b=>NY b
 |.bool a,b=>ED (if a then 1 else 0) b
 |.int i,b=>ED i b
 |.str x,b=>NX x b
 |.list xs,b=>EE (jy xs) b
 |.tuple xs,b=>EF (jy xs) b
 |.dict _,_=>false
noncomputable def jy:List PyData→List PyData→Bool
 |[],b=>b.isEmpty
 |x::xs,b=>match b with
  |[]=>false
  |y::ys=>gs x y&&jy xs ys
end
noncomputable def tL:V→Option PyData
 |.none=>some .none
 |.bool b=>some (.bool b)
 |.int i=>some (.int i)
 |.str s=>some (.str s)
 |_=>none
noncomputable def EG (a b:V):Option Bool:=(tL a).bind fun d=>(tL b).map fun e=>gs d e
noncomputable def wy (a b:V) (H:List aj):Option Bool:=(EG a b).elim ((toPy H 6 a).bind fun d=>(toPy H 6 b).map fun e=>gs d e) some
noncomputable def memD (d:PyData):List V→Option Bool
 |[]=>none
 |b::r=>(tL b).bind fun e=>bif r.isEmpty then some (gs e d) else (memD d r).map fun y=>gs e d || y
noncomputable def EH (a:V) (vs:List V):Option Bool:=(tL a).bind fun d=>memD d vs
noncomputable def Ah (v:V):Option (List V):=(mT v).elim (q2 v) some
noncomputable def isNone:V→Bool
 |.none=>true
 |_=>false
noncomputable def wz (v:V):Option Bool:=bif nR v then none else some (isNone v)
noncomputable def q4 (f:Int→Int→Bool) (a b:V):Option Bool:=(eM a).bind fun i=>(eM b).map fun j=>f i j
noncomputable def EI (op:CmpOp) (a b:V) (H:List aj):Option Bool:=match op with
 |.Eq=>wy a b H
 |.NotEq=>(wy a b H).map fun r=>!r
 |.Lt=>q4 (fun i j=>decide (i<j)) a b
 |.LtE=>q4 (fun i j=>decide (i≤j)) a b
 |.Gt=>q4 (fun i j=>decide (j<i)) a b
 |.GtE=>q4 (fun i j=>decide (j≤i)) a b
 |.Is=>bif isNone b then wz a else none
 |.IsNot=>bif isNone b then (wz a).map fun r=>!r else none
 |.In=>(Ah b).bind fun vs=>EH a vs
 |.NotIn=>none
noncomputable def dY (op:CmpOp) (a b:V) (st:ax):Option (Bool×ax):=(EI op a b st.H).map fun r=>(r,st)
noncomputable def EJ (a b:V) (st:ax):Option (V×ax):=(eM a).elim ((nQ a).elim ((mT a).bind fun s=>(mT b).bind fun t=>bif Nat.blt (s.length+t.length) 1000 then some (.tup (s++t),st) else none)
 fun s=>(nQ b).bind fun t=>bif Nat.blt (s.cps.toList.length+t.cps.toList.length) 1000 then some (.str (s++t),st) else none) fun i=>(eM b).map fun j=>(.int (i+j),st)
noncomputable def EK (op:Operator) (i j:Int) (st:ax):Option (V×ax):=match op with
 |.Sub=>some (.int (i - j),st)
 |.Mult=>bif Nat.blt i.natAbs 1000 then some (.int (i * j),st) else none
 |.Mod=>some (.int (i.fmod j),⟨st.H,st.aa∧0<j⟩)
 |.FloorDiv=>some (.int (i.fdiv j),⟨st.H,st.aa∧0<j∧j<1000⟩)
 |_=>none
noncomputable def isAdd:Operator→Bool
 |.Add=>true
 |_=>false
noncomputable def q5 (op:Operator) (a b:V) (st:ax):Option (V×ax):=bif isAdd op then EJ a b st else (eM a).bind fun i=>(eM b).bind fun j=>EK op i j st
noncomputable def k0:Nat→Str
 |0 => "0" |1 => "1" |2 => "2" |3 => "3" |4 => "4" |5 => "5" |6 => "6" |7 => "7" |8 => "8" |_ => "9"
noncomputable def wA (s:Str):Option Nat:=match seq s "0" with
 |true=>some 0
 |false=>match seq s "1" with
  |true=>some 1
  |false=>match seq s "2" with
   |true=>some 2
   |false=>none
noncomputable def nU:List V→Option Int
 |[]=>some 0
 |v::r=>(eM v).bind fun i=>(nU r).map fun s=>i+s
noncomputable def nV {β:Type}(st:ax) (a:V) (f:Nat→List V→Option β):Option β:=(kZ a).bind fun r=>(dA st.H[r]?).bind fun vs=>f r vs
noncomputable def nW (id:String) (a:V) (st:ax):Option (V×ax) :=
 if id = "len" then (kg a st).map fun vs=>(.int vs.length,st)
 else if id = "list.pop" then nV st a fun r vs=>(vs[vs.length - 1]?).map fun x=>(x,⟨st.H.set r (.list vs.dropLast),st.aa⟩)
 else if id = "abs" then (eM a).map fun i=>(.int (if i<0 then -i else i),st)
 else if id = "sum" then (kg a st).bind fun vs=>(nU vs).map fun n=>(.int n,st)
 else none
noncomputable def EL (a:V):Option Bool:=match a with
 |.str _=>some true
 |.int _=>some false
 |_=>none
noncomputable def Ai:V→Bool
 |.obj (.type t)=>decide (t = "str")
 |_=>false
noncomputable def nX (id:String) (a b:V) (st:ax):Option (V×ax) :=
 if id = "list.append" then nV st a fun r vs=>some (.none,⟨st.H.set r (.list (vs++[b])),st.aa∧vs.length<aL⟩)
 else if id = "list.pop" then nV st a fun r vs=>(eM b).bind fun i=>(idx i vs.length).bind fun j=>(vs[j]?).map fun x=>(x,⟨st.H.set r (.list (vs.eraseIdx j)),st.aa⟩)
 else if id = "isinstance" then bif Ai b then (EL a).map fun q=>(.bool q,st) else none
 else none
noncomputable def wB (id:String) (a b x:V) (st:ax):Option (V×ax) :=
 if id = "list.insert" then nV st a fun r vs=>(eM b).bind fun i=>bif decide (0≤i)&&Nat.ble i.toNat vs.length then some (.none,⟨st.H.set r (.list (vs.take i.toNat++x::vs.drop i.toNat)),st.aa∧vs.length<aL⟩) else none
 else none
noncomputable def wC (id:String) (args:List V) (st:ax):Option (V×ax):=match args with
 |[a]=>nW id a st
 |[a,b]=>nX id a b st
 |[a,b,x]=>wB id a b x st
 |_=>none
noncomputable def EM (id:String) (a:V) (st:ax):Option (V×ax) :=
 if id = "list" then (kg a st).map fun vs=>nT (.list vs) st
 else if id = "str" then (eM a).bind fun i=>bif decide (0≤i)&&decide (i<10) then some (.str (k0 i.toNat),st) else none
 else if id = "int" then (nQ a).bind fun s=>(wA s).map fun (n:Nat)=>(V.int (n:Int),st)
 else if id = "range" then (eM a).bind fun n=>bif decide (0≤n)&&decide (n≤1000000) then some (.cw 0 n,st) else none
 else none
noncomputable def EN (id:String) (args:List V) (st:ax):Option (V×ax):=match args with
 |[a]=>EM id a st
 |_=>none
noncomputable def EO:V→Option (Int×Int)
 |.cw a b=>some (a,b)
 |_=>none
noncomputable def srcOf (v:V) (st:ax):Option Src:=(q2 v).elim ((mT v).elim ((kZ v).elim ((EO v).bind fun y=>bif decide (0≤y.1)&&(decide (y.1≤y.2)&&decide (y.2≤1000000)) then some (.cw y.1 y.2) else none)
 fun r=>(dA st.H[r]?).map fun _=>.ref r) fun vs=>some (.di vs)) fun vs=>some (.aO vs)
noncomputable def tM (v:V) (st:ax):Option Src:=(q2 v).elim ((kZ v).bind fun r=>(dA st.H[r]?).map fun _=>.iZ (.ref r)) fun vs=>some (.iZ (.aO vs))
noncomputable def itemAt (s:Src) (k:Nat) (H:List aj):Option (Option V):=match s with
 |.aO vs=>some vs[k]?
 |.di vs=>some vs[k]?
 |.ref r=>(dA H[r]?).map fun vs=>vs[k]?
 |.cw a b=>bif decide (a+k<b) then some (some (.int (a+k))) else some none
 |.iZ s=>match s with
  |.aO vs=>some ((vs[k]?).map fun x=>.tup [.int k,x])
  |.ref r=>(dA H[r]?).map fun vs=>(vs[k]?).map fun x=>.tup [.int k,x]
  |_=>none
noncomputable def relabel (fr:a5) (sc:Scope):Scope:={sc with names:=sc.names.map fun (n,k)=>if k == .free&&look n fr.sc.names == some .cell then (n,.cell) else (n,k)}
noncomputable def i0 (src:Src) (t:PySem.Expr):Bool:=match src with
 |.iZ _=>Aa t
 |_=>true
mutual
noncomputable def cy (b:Nat):V→Bool
 |.ref i=>Nat.blt i b
 |.tup vs=>dG b vs
 |.aO vs=>dG b vs
 |.fin _ fs=>jz b fs
 |.fd fs=>jz b fs
 |.fD _ s=>cy b s
 |.none=>true
 |.bool _=>true
 |.int _=>true
 |.str _=>true
 |.obj _=>true
 |.lam _ _ _=>true
 |.cw _ _=>true
 |.any=>true
noncomputable def dG (b:Nat):List V→Bool
 |[]=>true
 |v::r=>cy b v&&dG b r
noncomputable def jz (b:Nat):List (Str×V)→Bool
 |[]=>true
 |(_,v)::r=>cy b v&&jz b r
end
noncomputable def cE (b:Nat):aj→Bool
 |.list vs=>dG b vs
 |.inst _ fs=>jz b fs
 |.dict fs=>jz b fs
 |.cell (some v)=>cy b v
 |.cell none=>true
 |.tab _ _=>true
 |.dead=>true
noncomputable def iA (f:V→Option V):List V→Option (List V)
 |[]=>some []
 |v::r=>(f v).bind fun u=>(iA f r).map fun t=>u::t
noncomputable def nY (f:V→Option V):List (Str×V)→Option (List (Str×V))
 |[]=>some []
 |(k,v)::r=>(f v).bind fun u=>(nY f r).map fun t=>(k,u)::t
noncomputable def wD (f:V→Option V):Option aj→Option V
 |some (.list vs)=>(iA f vs).map .aO
 |some (.inst C fs)=>(nY f fs).map (.fin C)
 |_=>none
noncomputable def EP (f:V→Option V) (H:List aj) (b:Nat) (v:V):Option V:=match v with
 |.ref i=>bif Nat.ble b i then wD f H[i]? else some (.ref i)
 |.tup vs=>(iA f vs).map .tup
 |v=>bif cy b v then some v else none
noncomputable def gG (H:List aj) (b:Nat):Nat→V→Option V
 |0,_=>none
 |n+1,v=>EP (gG H b n) H b v
noncomputable def fin (b:Nat) (v:V) (st:ax):Option (V×ax):=(gG st.H b 8 v).bind fun pd=>bif (st.H.take b).all (cE b) then some (pd,⟨st.H.take b,st.aa⟩) else none
noncomputable def NZ (aD:List PySem.Expr):Bool:=(aD.head?.bind fun e=>(e3 e).z9).any fun s=>seq s ⟨⟨[84,114,121]⟩⟩
noncomputable def nM (fr:a5) (f:PySem.Expr) (args:List PySem.Expr):Bool:=(ke f).any fun x=>seq x.1 ⟨⟨[78,111,100,101]⟩⟩&&(((look ⟨⟨[105,115,95,99,97,117,103,104,116]⟩⟩ fr.sc.names).isSome || (look ⟨⟨[109,97,110,121]⟩⟩ fr.sc.names).isSome)&&!NZ args)
noncomputable def nZ (b:Nat) (x:V×ax):Option (V×ax):=(kZ x.1).elim (some x) fun _=>fin b x.1 x.2
section
variable (R:dR)
noncomputable def f7 (n:Nat) (fr:a5):List PySem.Expr→ax→Option (List V×ax)
 |[],st=>some ([],st)
 |e::r,st=>match isStar e with
  |true=>none
  |false=>(R.ev n fr e st).bind fun (v,lU)=>(f7 n fr r lU).map fun (vs,fR)=>(v::vs,fR)
noncomputable def ER (k:Option PySem.Expr):Option Str:=k.bind fun e=>(e3 e).z9
noncomputable def q6:List (Option PySem.Expr)→Option (List Str)
 |[]=>some []
 |k::r=>(ER k).bind fun s=>(q6 r).map fun t=>s::t
noncomputable def mW:List Str→Bool
 |[]=>true
 |x::r=>!lS x r&&mW r
noncomputable def ES:Value→Bool
 |.ref a=>(c2 a dF).isSome || (c2 a hJ).isSome
 |.builtin _=>true
 |.type _=>true
 |_=>false
noncomputable def calleeOk:V→Bool
 |.obj x=>ES x
 |.lam _ _ _=>true
 |.fD f _=>(c2 f dF).isSome
 |_=>false
noncomputable def pe (sc:Scope) (cs:List (Str×Nat)):List (Str×Nat):=cs.filter fun x=>Ew (look x.1 sc.names)
noncomputable def pf (fr:a5) (sc:Scope) (t it:PySem.Expr) (a:Int):Bool:=decide (a=0)&&isNm t&&!gr it&&(sc.kind == .function)&&sc.names.all (fun x=>(x.2 != .cell)&&(x.2 != .local || look x.1 sc.names == some .local)&&(x.2 != .free || (look x.1 fr.cs).isSome))
noncomputable def q7 (n:Nat) (fr:a5) (elt:PySem.Expr) (gens:List Comprehension) (sc:Scope) (st:ax):Option (V×ax):=(kc gens).bind fun g=>bif pf fr sc g.target g.iter g.is_async then
 (R.ev n fr g.iter st).bind fun x=>(srcOf x.1 x.2).bind fun src =>
  (R.dz n ⟨relabel fr sc,pe sc fr.cs,none,[]⟩ elt g.target g.ifs src 0 x.2.H.length ⟨x.2.H++[.list []],x.2.aa⟩).map fun fR=>(.ref x.2.H.length,fR) else none
noncomputable def tN (n:Nat) (fr:a5) (f:PySem.Expr) (args:List PySem.Expr) (gV:List Keyword) (pos:Pos) (st:ax):Option (V×ax):=bif gV.isEmpty then (lR f).elim
 ((R.ev n fr f st).bind fun g=>bif calleeOk g.1 then (f7 R n fr args g.2).bind fun z=>R.cl n g.1 z.1 z.2 else none)
 (fun y=>bif baseOk y.1&&Nat.beq y.2.2.endLine pos.line&&Nat.blt args.length 30 then (R.ev n fr y.1 st).bind fun x=>(kf x.1 y.2.1 x.2).bind fun g=>bif calleeOk g.1 then (f7 R n fr args x.2).bind fun z=>R.cl n g.1 (g.2++z.1) z.2 else none else none) else none
noncomputable def ET:UnaryOp→Bool
 |.Not=>true
 |_=>false
noncomputable def EU:UnaryOp→Bool
 |.USub=>true
 |_=>false
noncomputable def EV:BoolOp→Bool
 |.Or=>true
 |.And=>false
noncomputable def Aj (ps:Arguments) (sc:Scope):Bool:=ps.defaults.isEmpty&&(ps.kw_defaults.isEmpty&&!sc.names.any (fun x=>x.2 == .free))
noncomputable def q8 (H:List aj) (i:Nat) (pos:Pos) (v:V) (q:Str) (rows:List (Nat×Nat)) (st:ax):V×ax:=bif rows.contains (pos.line,pos.col) then (v,st) else (v,⟨H.set i (.tab q (rows++[(pos.line,pos.col)])),st.aa⟩)
noncomputable def pg (n:Nat) (fr:a5) (e:PySem.Expr) (st:ax):Option (V×ax):=match e with
 |.Name x _=>(pb fr x st).map (·,st)
 |.Constant c _ _=>(Ez c).map (·,st)
 |.Attribute o nm _=>bif baseOk o then (R.ev n fr o st).bind fun x=>(mU x.1 nm x.2).map (·,x.2) else none
 |.Call f args gV pos=>bif nM fr f args then (tN R n fr f args gV pos st).bind fun x=>fin st.H.length x.1 x.2 else tN R n fr f args gV pos st
 |.Subscript o i _=>(tG i).elim ((R.ev n fr o st).bind fun x=>(R.ev n fr i x.2).bind fun k=>(jx x.1 k.1 k.2).map (·,k.2))
  (fun y=>bif y.1.isNone&&y.2.2.isNone then y.2.1.bind fun aM=>(R.ev n fr o st).bind fun x=>(R.ev n fr aM x.2).bind fun k=>Ag x.1 k.1 k.2 else none)
 |.BinOp l op r _=>(R.ev n fr l st).bind fun a=>(R.ev n fr r a.2).bind fun b=>q5 op a.1 b.1 b.2
 |.UnaryOp op x _=>bif EU op then (R.ev n fr x st).bind fun y=>(eM y.1).map fun i=>(.int (-i),y.2) else none
 |.Compare l ops rs _=>(kc ops).bind fun op=>(kc rs).bind fun r=>bif gr r then none else (R.ev n fr l st).bind fun a=>(R.ev n fr r a.2).bind fun b=>(dY op a.1 b.1 b.2).map fun q=>(.bool q.1,q.2)
 |.BoolOp op vs _=>bif EV op then none else (tF vs).bind fun v=>(R.ev n fr v.1 st).bind fun x=>(pa x.1).bind fun b=>bif b then R.ev n fr v.2 x.2 else some (.bool false,x.2)
 |.IfExp t a b _=>(R.et n fr t st).bind fun q=>bif q.1 then R.ev n fr a q.2 else R.ev n fr b q.2
 |.Tuple aD _ _=>bif Nat.blt 100 aD.length then none else (f7 R n fr aD st).map fun x=>(.tup x.1,x.2)
 |.List aD _=>bif Nat.blt 100 aD.length then none else (f7 R n fr aD st).map fun x=>nT (.list x.1) x.2
 |.Dict b6 vs _=>(q6 b6).bind fun cx=>bif mW cx&&(Nat.beq cx.length vs.length&&(Nat.blt cx.length 15&&Nat.blt 0 cx.length)) then (f7 R n fr vs st).map fun x=>nT (.dict (cx.zip x.1)) x.2 else none
 |.ListComp elt gens sc _=>q7 R n fr elt gens sc st
 |.Lambda ps body sc pos=>fr.tab.bind fun y=>(wt st.H[y.1]?).bind fun z=>bif seq z.1 y.2&&Aj ps sc then some (q8 st.H y.1 pos (.lam ps body sc) z.1 z.2 st) else none
 |_=>none
noncomputable def EW (n:Nat) (fr:a5) (op:BoolOp) (v:PySem.Expr×PySem.Expr) (st:ax):Option (Bool×ax):=(R.et n fr v.1 st).bind fun x=>bif EV op == x.1 then some x else R.et n fr v.2 x.2
noncomputable def N0 (n:Nat) (fr:a5) (l:PySem.Expr) (op:CmpOp) (r:PySem.Expr) (st:ax):Option (Bool×ax):=bif gr r then none else (R.ev n fr l st).bind fun a=>(R.ev n fr r a.2).bind fun b=>dY op a.1 b.1 b.2
noncomputable def EX (n:Nat) (fr:a5) (l:PySem.Expr) (o:CmpOp×CmpOp) (r:PySem.Expr×PySem.Expr) (st:ax):Option (Bool×ax):=bif gr r.2 then none else
 (R.ev n fr l st).bind fun a=>(R.ev n fr r.1 a.2).bind fun b=>(dY o.1 a.1 b.1 b.2).bind fun q=>bif q.1 then (R.ev n fr r.2 q.2).bind fun c=>dY o.2 b.1 c.1 c.2 else some (false,q.2)
noncomputable def q9 (n:Nat) (fr:a5) (e:PySem.Expr) (st:ax):Option (Bool×ax):=match e with
 |.UnaryOp op x _=>bif ET op then (R.et n fr x st).map fun y=>(!y.1,y.2) else none
 |.BoolOp op vs _=>(tF vs).bind fun v=>EW R n fr op v st
 |.IfExp _ _ _ _=>none
 |.Compare l ops rs _=>(kc ops).elim ((tF ops).bind fun o=>(tF rs).bind fun r=>EX R n fr l o r st) fun op=>(kc rs).bind fun r=>N0 R n fr l op r st
 |e=>(R.ev n fr e st).bind fun x=>(pa x.1).map fun b=>(b,x.2)
noncomputable def tO (n:Nat) (fr:a5):List PySem.Expr→List V→ax→Option (List (Str×V)×ax)
 |[],[],st=>some (fr.ls,st)
 |t::bp,v::vs,st=>(R.as n fr t v st).bind fun (ls,lU)=>tO n {fr with ls:=ls} bp vs lU
 |_,_,_=>none
noncomputable def tP (n:Nat) (fr:a5) (t:PySem.Expr) (v:V) (st:ax):Option (List (Str×V)×ax):=match e3 t with
 |.nm x _=>bif h3 (gX fr x) then some (d8 x v fr.ls,st) else bif o9 (gX fr x) then (look x fr.cs).bind fun i=>(tJ st.H[i]?).map fun _=>(fr.ls,⟨st.H.set i (.cell (some v)),st.aa⟩) else none
 |.at o nm _=>(R.ev n fr o st).bind fun x=>(mV x.1 nm v x.2).map fun s=>(fr.ls,s)
 |.sub o i _=>bif nP i then none else (R.ev n fr o st).bind fun x=>(R.ev n fr i x.2).bind fun k=>(nS x.1 k.1 v k.2).map fun s=>(fr.ls,s)
 |.tup bp _ _=>bif bp.any isStar then none else (q3 v st).bind fun vs=>tO R n fr bp vs st
 |_=>none
noncomputable def jA (fr:a5):List PySem.Expr→Option (List Str)
 |[]=>some []
 |e::r=>(ke e).bind fun x=>bif h3 (look x.1 fr.sc.names) then (jA fr r).map fun t=>x.1::t else none
noncomputable def h4 {α:Type}:List Str→List α→List (Str×α)→List (Str×α)
 |x::xs,v::vs,l=>h4 xs vs (d8 x v l)
 |_,_,l=>l
noncomputable def n0 (x:Str):List (Str×NameKind)→Bool
 |[]=>false
 |(y,k)::r=>(seq y x&&(k == .local || k == .cell)) || n0 x r
noncomputable def ra (n:Nat) (fr:a5) (t e:PySem.Expr) (st:ax):Option (cA×List (Str×V)×ax):=(R.ev n fr e st).bind fun x=>(R.as n fr t x.1 x.2).map fun y=>(.next,y.1,y.2)
noncomputable def N1 (n:Nat) (fr:a5) (t elt:PySem.Expr) (gens:List Comprehension) (sc:Scope) (dz:Pos) (st:ax):Option (cA×List (Str×V)×ax) :=
 (ke t).bind fun x=>bif (Nat.beq x.2.line dz.line&&!n0 x.1 sc.names)&&h3 (gX fr x.1) then (q7 R n fr elt gens sc st).map fun y=>(.next,d8 x.1 y.1 fr.ls,y.2) else none
noncomputable def EY (n:Nat) (fr:a5) (t e:PySem.Expr) (vs:List PySem.Expr) (st:ax):Option (cA×List (Str×V)×ax):=(f5 t).elim (bif Ab t then none else ra R n fr t e st) fun bp=>(jA fr bp).elim (ra R n fr t e st)
 fun xs=>bif mW xs&&vs.any tH then (R.ev n fr e st).bind fun x=>(mT x.1).bind fun us=>bif Nat.beq us.length xs.length then some (.next,h4 xs us fr.ls,x.2) else none else none
noncomputable def tQ (n:Nat) (fr:a5) (t e:PySem.Expr) (st:ax):Option (cA×List (Str×V)×ax):=match e3 e with
 |.lc elt gens sc dz=>N1 R n fr t elt gens sc dz st
 |.tup vs _ _=>EY R n fr t e vs st
 |_=>bif mS e then none else ra R n fr t e st
noncomputable def hK.wF:hK→Option (PySem.Expr×List PySem.Expr×List Keyword×Pos)
 |.call f args gV p=>some (f,args,gV,p)
 |_=>none
noncomputable def Ak (fr:a5) (e:PySem.Expr):Option PySem.Expr:=(e3 e).wF.bind fun y=>(ke y.1).bind fun x=>(kc y.2.1).bind fun e=>bif y.2.2.1.isEmpty&&(seq x.1 "enumerate"&&(Ac (look x.1 fr.sc.names)&&!isStar e)) then some e else none
noncomputable def EZ (n:Nat) (fr:a5) (t it:PySem.Expr) (body:List Stmt) (st:ax):Option (cA×List (Str×V)×ax):=(Ak fr it).elim
 (bif gr it then none else (R.ev n fr it st).bind fun x=>(srcOf x.1 x.2).bind fun src=>R.jw n fr t src 0 body x.2) fun e=>(R.ev n fr e st).bind fun x=>(tM x.1 x.2).bind fun src=>R.jw n fr t src 0 body x.2
noncomputable def rb (n:Nat) (fr:a5) (s:Stmt) (st:ax):Option (cA×List (Str×V)×ax):=match s with
 |.Expr e _=>bif mS e then none else (R.ev n fr e st).map fun x=>(.next,fr.ls,x.2)
 |.Assign bp e _=>(kc bp).bind fun t=>tQ R n fr t e st
 |.Return e _=>match e with
  |some e=>(R.ev n fr e st).map fun x=>(.ret x.1,fr.ls,x.2)
  |none=>some (.ret .none,fr.ls,st)
 |.If t a b _=>(R.et n fr t st).bind fun x=>R.ex n fr (bif x.1 then a else b) x.2
 |.For t it body orelse _=>bif orelse.isEmpty then EZ R n fr t it body st else none
 |.While t body orelse _=>bif orelse.isEmpty then R.tI n fr t body st else none
 |.Pass _=>some (.next,fr.ls,st)
 |_=>none
noncomputable def Al:cA→Bool
 |.next=>true
 |_=>false
noncomputable def E0 (n:Nat) (fr:a5) (ss:List Stmt) (st:ax):Option (cA×List (Str×V)×ax):=match ss with
 |[]=>some (.next,fr.ls,st)
 |s::r=>(rb R n fr s st).bind fun x=>bif Al x.1 then R.ex n {fr with ls:=x.2.1} r x.2.2 else some x
noncomputable def tR (f:cA) (ls:List (Str×V)) (st:ax) (again:Option (cA×List (Str×V)×ax)):Option (cA×List (Str×V)×ax):=match f with
 |.brk=>some (.next,ls,st)
 |.ret v=>some (.ret v,ls,st)
 |_=>again
noncomputable def Am (n:Nat) (fr:a5) (t:PySem.Expr) (src:Src) (k:Nat) (body:List Stmt) (st:ax):Option (cA×List (Str×V)×ax):=bif i0 src t then (itemAt src k st.H).bind fun o=>o.elim (some (.next,fr.ls,st)) fun v =>
 (R.as n fr t v st).bind fun x=>(R.ex n {fr with ls:=x.1} body x.2).bind fun y=>tR y.1 y.2.1 y.2.2 (R.jw n {fr with ls:=y.2.1} t src (k+1) body y.2.2) else none
noncomputable def E1 (n:Nat) (fr:a5) (t:PySem.Expr) (body:List Stmt) (st:ax):Option (cA×List (Str×V)×ax) :=
 (R.et n fr t st).bind fun q=>bif q.1 then (R.ex n fr body q.2).bind fun y=>tR y.1 y.2.1 y.2.2 (R.tI n {fr with ls:=y.2.1} t body y.2.2) else some (.next,fr.ls,q.2)
noncomputable def wG (n:Nat) (fr:a5) (ifs:List PySem.Expr) (st:ax):Option (Bool×ax):=match ifs with
 |[]=>some (true,st)
 |[c]=>R.et n fr c st
 |_=>none
noncomputable def An (n:Nat) (fr:a5) (elt t:PySem.Expr) (ifs:List PySem.Expr) (src:Src) (k acc:Nat) (st:ax):Option ax:=bif isNm t&&i0 src t then (itemAt src k st.H).bind fun o=>o.elim (some st) fun v =>
 (R.as n fr t v st).bind fun x=>(wG R n {fr with ls:=x.1} ifs x.2).bind fun q=>bif q.1 then (R.ev n {fr with ls:=x.1} elt q.2).bind fun y=>(dA y.2.H[acc]?).bind fun xs =>
  R.dz n {fr with ls:=x.1} elt t ifs src (k+1) acc ⟨y.2.H.set acc (.list (xs++[y.1])),y.2.aa∧xs.length<aL⟩ else R.dz n {fr with ls:=x.1} elt t ifs src (k+1) acc q.2 else none
noncomputable def ee:List (Str×NameKind)→List Str
 |[]=>[]
 |(x,k)::r=>if k == .cell then x::ee r else ee r
noncomputable def hL (names:List (Str×NameKind)):List (Str×V)→List (Str×V)
 |[]=>[]
 |(x,v)::r=>bif h3 (look x names) then (x,v)::hL names r else hL names r
noncomputable def iB:cA→V
 |.ret v=>v
 |_=>.none
noncomputable def tS (H:List aj):List aj→List aj
 |[]=>H
 |o::r=>H++(o::r)
noncomputable def ki (fi:eS) (args:List V):Option (List V):=bif Nat.beq args.length fi.ps.length then some args else bif Nat.beq (args.length+fi.iY.length) fi.ps.length&&!fi.iY.isEmpty then some (args++fi.iY) else none
noncomputable def bI (n:Nat) (fi:eS) (args:List V) (st:ax):Option (V×ax):=(ki fi args).bind fun vs =>
 let ls:=fi.ps.zip vs
 let iC:=ee fi.fd.scope.names
 let fr:a5:=⟨fi.fd.scope,iC.zip (List.range' st.H.length iC.length),fi.tab,hL fi.fd.scope.names ls⟩
 (R.ex n fr fi.body ⟨tS st.H (iC.map (fun x=>aj.cell (look x ls))),st.aa⟩).bind fun r=>bif fi.jv then fin st.H.length (iB r.1) r.2.2 else some (iB r.1,r.2.2)
noncomputable def tT (ps:Arguments) (sc:Scope):Option Str:=(kc ps.args).bind fun a=>bif ps.posonlyargs.isEmpty&&(ps.vararg.isNone&&(ps.kwonlyargs.isEmpty&&(ps.kwarg.isNone&&((sc.kind == .function)&&(!sc.isCoroutine&&(!sc.isGenerator&&(sc.names.all (fun x=>x.2 != .cell)&&(h3 (look a.arg sc.names)&&(seq a.arg ⟨⟨[110,97,109,101]⟩⟩ || seq a.arg ⟨⟨[110,111,100,101]⟩⟩))))))))) then some a.arg else none
noncomputable def Ao (n:Nat) (a:Addr) (args:List V) (st:ax):Option (V×ax):=(c2 a hJ).bind fun ci=>(c2 ci.init dF).bind fun fi=>match n with
 |0=>none
 |n+1=>(bI R n fi (.ref st.H.length::args) ⟨st.H++[.inst a []],st.aa⟩).bind fun x=>bif isNone x.1 then some (.ref st.H.length,x.2) else none
noncomputable def E2 (n:Nat) (x:Value) (args:List V) (st:ax):Option (V×ax):=match x with
 |.ref a=>(c2 a dF).elim (Ao R n a args st) fun fi=>bI R n fi args st
 |.builtin id=>wC id args st
 |.type id=>EN id args st
 |_=>none
noncomputable def tU (n:Nat) (f:V) (args:List V) (st:ax):Option (V×ax):=match n with
 |0=>none
 |n+1=>match f with
  |.obj x=>E2 R n x args st
  |.lam ps body sc=>(kc args).bind fun v=>(tT ps sc).bind fun x=>(R.ev n ⟨sc,[],none,[(x,v)]⟩ body st).bind (nZ st.H.length)
  |.fD g self=>(c2 g dF).bind fun fi=>bI R n fi (self::args) st
  |_=>none
noncomputable def E3:dR:=⟨pg R,q9 R,E0 R,tP R,tU R,Am R,E1 R,An R⟩
end
noncomputable def E4:dR:=⟨fun _ _ _ _=>none,fun _ _ _ _=>none,fun _ _ _ _=>none,fun _ _ _ _ _=>none,fun _ _ _ _=>none,fun _ _ _ _ _ _ _=>none,fun _ _ _ _ _=>none,fun _ _ _ _ _ _ _ _ _=>none⟩
noncomputable def e4:Nat→dR
 |0=>E4
 |n+1=>E3 (e4 n)
end
section
set_option backward.match.sparseCases false
theorem E5:∀{a b:List Nat},wk a b=true↔a=b
 |[],[]=>⟨fun _=>rfl,fun _=>rfl⟩
 |[],_::_=>⟨fun h=>dv h,fun h=>nomatch h⟩
 |_::_,[]=>⟨fun h=>dv h,fun h=>nomatch h⟩
 |a::r,b::t=>by show (Nat.beq a b&&wk r t)=true↔_;rw[Bool.and_eq_true,Nat.beq_eq,E5,List.cons.injEq]
theorem d9 {a b:Str}:seq a b=true↔a=b:=by
 unfold seq
 rw[E5]
 constructor
 ·intro h
  obtain ⟨⟨x⟩⟩:=a;obtain ⟨⟨y⟩⟩:=b
  simp only at h;rw[h]
 ·rintro rfl;rfl
theorem E6:∀{l:List Nat},wu l=true↔∀ c∈l,c<1114112
 |[]=>⟨fun _ _ h=>(nomatch h),fun _=>rfl⟩
 |c::r=>by show (Nat.blt c 1114112&&wu r)=true↔_;rw[Bool.and_eq_true,E6,List.forall_mem_cons,Nat.blt_eq]
theorem E7 {s:Str}(h:Ad s=true):PyData.strOk s=true:=by
 unfold PyData.strOk
 rw[←Array.all_toList,List.all_eq_true]
 intro c m
 exact decide_eq_true (E6.mp h c m)
theorem lV (a:Str):seq a a=true:=d9.mpr rfl
theorem rd (a b:Str):(a == b)=seq a b:=by
 cases h:seq a b with
 |true=>rw[d9.mp h];simp
 |false =>
  have:a≠b:=fun e=>by rw[d9.mpr e] at h;exact eD h
  simpa using this
theorem lW {α:Type}{x:Str}{l:List (Str×α)}:l.lookup x=look x l:=by
 induction l with
 |nil=>rfl
 |cons p r aI =>
  rw[List.lookup_cons,rd,aI]
  show _=match seq x p.1 with |true=>some p.2 |false=>look x r
  cases seq x p.1 <;> rfl
theorem wH {α:Type}{x:Nat}{v:α}{l:List (Nat×α)}:c2 x l=some v→(x,v)∈l:=by
 induction l with
 |nil=>exact fun e=>ba e
 |cons p r aI =>
  show (match Nat.beq x p.1 with |true=>some p.2 |false=>c2 x r)=_→_
  cases q:Nat.beq x p.1 with
  |true=>exact fun e=>by rw[Nat.eq_of_beq_eq_true q,←cc e];exact .head _
  |false=>exact fun e=>.tail _ (aI e)
theorem n1 {α:Type}{x:Str}{v:α}{l:List (Str×α)}:look x l=some v→(x,v)∈l:=by
 induction l with
 |nil=>exact fun e=>ba e
 |cons p r aI =>
  show (match seq x p.1 with |true=>some p.2 |false=>look x r)=_→_
  cases q:seq x p.1 with
  |true=>exact fun e=>by rw[d9.mp q,←cc e];exact .head _
  |false=>exact fun e=>.tail _ (aI e)
theorem E8 {x:Str}{l:List Str}:lS x l=true↔x∈l:=by
 induction l with
 |nil=>exact ⟨fun h=>dv h,fun h=>nomatch h⟩
 |cons y r aI=>rw[List.mem_cons,←aI,←d9];exact Bool.or_eq_true_iff
theorem E9 {α:Type}{x y:Str}{v:α}{l:List (Str×α)}:look y (d8 x v l)=if seq y x=true then some v else look y l:=by
 induction l with
 |nil=>show (match seq y x with |true=>some v |false=>none)=_;cases seq y x <;> rfl
 |cons p r aI =>
  show look y (match seq x p.1 with |true=>(p.1,v)::r |false=>p::d8 x v r)=if _ then _ else match seq y p.1 with |true=>some p.2 |false=>look y r
  cases h:seq x p.1 with
  |true=>rw[d9.mp h];show (match seq y p.1 with |true=>some v |false=>look y r)=_;cases seq y p.1 <;> rfl
  |false =>
   show (match seq y p.1 with |true=>some p.2 |false=>look y (d8 x v r))=_
   cases af:seq y p.1 with
   |false=>exact aI
   |true=>rw[if_neg];intro aB;rw[←d9.mp aB,af] at h;exact eD h
section
variable {P:Params}{im:cq}{ρ:c5}{fs:List (Str×V)}{aD:List DictEntry}
theorem tV (k:Str) (t:Tok) (nm:Str):(Value.str k t).isStr nm=seq nm k:=by
 show (k == nm)=_
 rw[rd]
 cases h:seq nm k with
 |true=>rw[d9.mp h];exact lV _
 |false =>
  cases af:seq k nm with
  |false=>rfl
  |true=>rw[d9.mp af,lV] at h;exact eD h
theorem cT.noRef (h:cT P im ρ fs aD):aD.any (·.refKey)=false:=cT.ind (Q:=fun _ aD=>aD.any (·.refKey)=false) rfl (fun _ _ aI=>by rw[List.any_cons,aI];rfl) h
theorem N2 {k nm:Str}{t:Tok}{x:Value}{z:Int}(q:seq nm k=true):getL nm (⟨z,.str k t,x⟩::aD)=some (some x):=by
 unfold PySem.W.getL
 rw[List.find?_cons,tV,q]
theorem Fb {k nm:Str}{t:Tok}{x:Value}{z:Int}(q:seq nm k=false):getL nm (⟨z,.str k t,x⟩::aD)=getL nm aD:=by
 unfold PySem.W.getL
 rw[List.find?_cons,tV,q]
 rfl
theorem h5 {α:Type}{x y:Str}{v:α}{l:List (Str×α)}(q:seq x y=true):look x ((y,v)::l)=some v:=by show (match seq x y with |true=>_ |false=>_)=_;rw[q]
theorem h6 {α:Type}{x y:Str}{v:α}{l:List (Str×α)}(q:seq x y=false):look x ((y,v)::l)=look x l:=by show (match seq x y with |true=>_ |false=>_)=_;rw[q]
theorem Ap {α:Type}{x y:Str}{v u:α}{l:List (Str×α)}(q:seq x y=true):d8 x v ((y,u)::l)=(y,v)::l:=by show (match seq x y with |true=>_ |false=>_)=_;rw[q]
theorem Aq {α:Type}{x y:Str}{v u:α}{l:List (Str×α)}(q:seq x y=false):d8 x v ((y,u)::l)=(y,u)::d8 x v l:=by show (match seq x y with |true=>_ |false=>_)=_;rw[q]
theorem cT.N3 {nm:Str}(h:cT P im ρ fs aD):∀{v},look nm fs=some v→∃ x,getL nm aD=some (some x)∧aF P im ρ v x :=
 cT.ind (Q:=fun fs aD=>∀{v},look nm fs=some v→∃ x,getL nm aD=some (some x)∧aF P im ρ v x) (fun e=>ba e) (fun {k _ _ _ _ _} a b aI v e=>by
  cases q:seq nm k with
  |true=>rw[h5 q] at e;rw[N2 q,←cc e];exact ⟨_,rfl,a⟩
  |false=>rw[h6 q] at e;rw[Fb q];exact aI e) h
theorem cT.Fc {nm:Str}(h:cT P im ρ fs aD):look nm fs=none→getL nm aD=some none :=
 cT.ind (Q:=fun fs aD=>look nm fs=none→getL nm aD=some none) (fun _=>rfl) (fun {k _ _ _ _ _} a b aI e=>by
  cases q:seq nm k with
  |true=>rw[h5 q] at e;exact ba e.symm
  |false=>rw[h6 q] at e;rw[Fb q];exact aI e) h
theorem cT.put {nm:Str}{t:Tok}{v:V}{x:Value}(h:cT P im ρ fs aD) (r:aF P im ρ v x):cT P im ρ (d8 nm v fs) (putL nm (PyData.keyHash P nm) (.str nm t) x aD) :=
 cT.ind (Q:=fun fs aD=>cT P im ρ (d8 nm v fs) (putL nm (PyData.keyHash P nm) (.str nm t) x aD)) (.cons r .nil) (fun {k _ _ _ _ _} a b aI=>by
  unfold putL
  rw[tV]
  cases q:seq nm k with
  |true=>rw[Ap q];exact .cons r b
  |false=>rw[Aq q];exact .cons a aI) h
theorem cT.len (h:cT P im ρ fs aD):fs.length=aD.length:=cT.ind (Q:=fun fs aD=>fs.length=aD.length) rfl (fun _ _ aI=>congrArg (· + 1) aI) h
end
noncomputable def Fd:List Addr:=[853,852,834,833,688,687,478,477,413,412,307,306,506,505,145,144,594,
 142,205,212,220,227,234,241,248,269,276,283,290,297,304,332,339,346,353,360,368,375,382,389,396,403,410,433,447,454,461,496,601,608,622,650,705,712,719,726,747,754,761,782,789,803,810,817,824,850]
noncomputable def gu (p:Params):Frag:=Fd.map fun a=>(a,((full p).get a).getD default)
theorem Fe {α:Type}{f:Nat→α}{a:Nat}{o:α}:∀{l:List Nat},(l.map fun a=>(a,f a)).lookup a=some o→a∈l∧o=f a
 |b::r,e=>by
  rw[List.map_cons,List.lookup_cons] at e
  split at e
  ·rename_i q;obtain rfl:=cc e;rw[beq_iff_eq.mp q];exact ⟨.head _,rfl⟩
  ·exact let ⟨x,y⟩:=Fe e;⟨.tail _ x,y⟩
noncomputable def Ar (T:BT) (a:Addr):Bool:=match T.get a with
 |some o=>o2 o&&Nat.blt a 955
 |none=>false
theorem N4 (p:Params):Fd.all (Ar (full p))=true:=by kernel_rfl
theorem N5 {w:World}{im:cq}(K:hH w im) {a:Addr}(h:Ar (full w.params) a=true):im a=some (((full w.params).get a).getD default):=by
 unfold Ar at h
 cases e:(full w.params).get a with
 |none=>rw[e] at h;exact dv h
 |some o =>
  rw[e] at h
  obtain ⟨h1,af⟩:=Bool.and_eq_true_iff.mp h
  exact K a o e h1 af
theorem kd_in {w:World}{h:Heap}{im:cq}(K:hH w im) (k:∀ a o,im a=some o→h.get? a=some o):(gu w.params).In h:=by
 intro a o e
 obtain ⟨m,rfl⟩:=Fe e
 exact k _ _ (N5 K (List.all_eq_true.mp (N4 w.params) a m))
theorem mX {w:World}{h:Heap}{im:cq}(K:hH w im) (k:∀ a o,im a=some o→h.get? a=some o):eQ w h:=fun a o ao aC cL=>k _ _ (K a o ao aC cL)
noncomputable def tW (K:Frag) (C:Addr):Bool:=plainGet K C "a"&&hasDictIn K C&&plainOver K C&&(findIn K (.ref C) "__setattr__" == some (some (.builtin "object.__setattr__")))&&makesIn K C
noncomputable def ph:Value→Option Addr
 |.ref c=>some c
 |_=>none
theorem bj {α β:Type}{o:Option α}{a:α}{f:α→Option β}(h:o=some a):o.bind f=f a:=by rw[h];rfl
noncomputable def tX (K:Frag) (f:Addr):Bool:=(specialIn K (.ref f) "__get__" == some (some (.builtin "function.__get__")))&&(takesIn K (.ref f) == some false)&&(typeIn K (.ref f) == some (.type "function"))
noncomputable def rf (K:Frag) (C:Addr) (nm:Str):Bool:=(findIn K (.ref C) nm).elim false fun a=>a.elim true fun v=>(ph v).elim false (tX K)
inductive Ff (K:Frag) (C:Addr) (nm:Str):Prop
 |n (h:findIn K (.ref C) nm=some none)
 |f (f:Addr) (h:findIn K (.ref C) nm=some (some (.ref f))) (g:specialIn K (.ref f) "__get__" = some (some (.builtin "function.__get__"))) (t:takesIn K (.ref f)=some false) (y:typeIn K (.ref f)=some (.type "function"))
theorem tY {v:Value}{f:Addr}(h:ph v=some f):v=.ref f:=by
 cases v <;> first |exact ba h |exact congrArg Value.ref (cc h)
theorem N6 {K:Frag}{C f:Addr}{nm:Str}(h:findIn K (.ref C) nm=some (some (.ref f))) (e:tX K f=true):Ff K C nm:=by
 simp only[tX,Bool.and_eq_true,beq_iff_eq] at e
 exact .f f h e.1.1 e.1.2 e.2
theorem As {K:Frag}{C:Addr}{nm:Str}(h:rf K C nm=true):Ff K C nm:=by
 unfold rf at h
 cases e:findIn K (.ref C) nm with
 |none=>rw[e] at h;exact dv h
 |some a =>
  rw[e] at h
  cases a with
  |none=>exact .n e
  |some v =>
   cases z:ph v with
   |none=>exact dv ((congrArg (fun o=>Option.elim o false (tX K)) z).symm.trans h)
   |some f=>exact N6 (by rw[e,tY z]) ((congrArg (fun o=>Option.elim o false (tX K)) z).symm.trans h)
noncomputable def rg (K:Frag) (C:Addr) (nm:Str) (f:Addr):Bool:=(findIn K (.ref C) nm == some (some (.ref f)))&&(typeIn K (.ref f) == some (.type "function"))&&fnIn K f &&
 (specialIn K (.ref f) "__get__" == some (some (.builtin "function.__get__")))&&(takesIn K (.ref f) == some false)&&!copiedNames.contains nm
theorem N7 (p:Params):hJ.all (fun x=>tW (gu p) x.1&&x.2.as.all (rf (gu p) x.1)&&x.2.ms.all (fun m=>rg (gu p) x.1 m.1 m.2)&&rg (gu p) x.1 "__init__" x.2.init)=true:=by kernel_rfl
theorem n2 (e:PySem.Expr):(e3 e).is e:=by cases e <;> first |rfl |trivial
theorem tZ {e:PySem.Expr}{x:Str×Pos}(h:ke e=some x):e=.Name x.1 x.2:=by
 have z:=n2 e
 unfold ke at h
 cases q:e3 e with
 |nm y p=>rw[q] at h z;rw[←cc h];exact z
 |_=>rw[q] at h;exact ba h
theorem N8 {e:PySem.Expr}{y}(h:lR e=some y):e=.Attribute y.1 y.2.1 y.2.2:=by
 have z:=n2 e
 unfold lR at h
 cases q:e3 e with
 | «at» o n p=>rw[q] at h z;rw[←cc h];exact z
 |_=>rw[q] at h;exact ba h
theorem N9 {e:PySem.Expr}{bp:List PySem.Expr}(h:f5 e=some bp):∃ k p,e=.Tuple bp k p:=by
 have z:=n2 e
 unfold f5 at h
 cases q:e3 e with
 |tup o k p=>rw[q] at h z;rw[←cc h];exact ⟨k,p,z⟩
 |_=>rw[q] at h;exact ba h
theorem Oa {e:PySem.Expr}{y}(h:tG e=some y):∃ p,e=.Slice y.1 y.2.1 y.2.2 p:=by
 have z:=n2 e
 unfold tG at h
 cases q:e3 e with
 |fQ lo aM s p=>rw[q] at h z;rw[←cc h];exact ⟨p,z⟩
 |_=>rw[q] at h;exact ba h
theorem Ob {e:PySem.Expr}{s:Str}(h:(e3 e).z9=some s):∃ k p,e=.Constant (.str s) k p:=by
 have z:=n2 e
 cases q:e3 e with
 |cst c k p=>rw[q] at h z;cases c <;> first |exact ba h |exact ⟨k,p,by rw[←cc h];exact z⟩
 |_=>rw[q] at h;exact ba h
theorem Oc {e:PySem.Expr}(h:tG e=none):nP e=false:=by cases e <;> first |rfl |exact ba h.symm
theorem mY {α:Type}{l:List α}{a:α}(h:kc l=some a):l=[a]:=by
 cases l with
 |nil=>exact ba h
 |cons b r=>cases r with
  |nil=>rw[←cc h]
  |cons _ _=>exact ba h
theorem wI {α:Type}{l:List α}{a:α×α}(h:tF l=some a):l=[a.1,a.2]:=by
 cases l with
 |nil=>exact ba h
 |cons b r=>cases r with
  |nil=>exact ba h
  |cons c r=>cases r with
   |nil=>rw[←cc h]
   |cons _ _=>exact ba h
theorem n3 {k:Option NameKind}(h:h3 k=true):k=some .local:=by
 cases k with
 |none=>exact dv h
 |some k=>cases k <;> first |rfl |exact dv h
theorem Od {k:Option NameKind}(h:Ew k=true):k=some .free:=by
 cases k with
 |none=>exact dv h
 |some k=>cases k <;> first |rfl |exact dv h
theorem wJ {k:Option NameKind}(h:o9 k=true):k=some .cell:=by
 cases k with
 |none=>exact dv h
 |some k=>cases k <;> first |rfl |exact dv h
theorem Au {k:Option NameKind}(h:Ac k=true):k=some .globalImplicit:=by
 cases k with
 |none=>exact dv h
 |some k=>cases k <;> first |rfl |exact dv h
section
variable {o:Option aj}{v:V}
theorem Fg {u:Option V}(h:tJ o=some u):o=some (.cell u):=by cases o with |none=>exact ba h |some o=>cases o <;> first |exact ba h |rw[←cc h]
theorem Av {y}(h:lT o=some y):o=some (.inst y.1 y.2):=by cases o with |none=>exact ba h |some o=>cases o <;> first |exact ba h |rw[←cc h]
theorem kj {vs:List V}(h:dA o=some vs):o=some (.list vs):=by cases o with |none=>exact ba h |some o=>cases o <;> first |exact ba h |rw[←cc h]
theorem Aw {fs:List (Str×V)}(h:tK o=some fs):o=some (.dict fs):=by cases o with |none=>exact ba h |some o=>cases o <;> first |exact ba h |rw[←cc h]
theorem Oe {y}(h:wt o=some y):o=some (.tab y.1 y.2):=by cases o with |none=>exact ba h |some o=>cases o <;> first |exact ba h |rw[←cc h]
theorem h7 {i:Int}(h:eM v=some i):v=.int i:=by cases v <;> first |exact ba h |rw[←cc h]
theorem rh {i:Str}(h:nQ v=some i):v=.str i:=by cases v <;> first |exact ba h |rw[←cc h]
theorem n4 {i:List V}(h:mT v=some i):v=.tup i:=by cases v <;> first |exact ba h |rw[←cc h]
theorem Fh {b:Bool}(h:pa v=some b):v=.bool b:=by cases v <;> first |exact ba h |rw[←cc h]
theorem kk {i:Nat}(h:kZ v=some i):v=.ref i:=by cases v <;> first |exact ba h |rw[←cc h]
theorem wK {i:List V}(h:q2 v=some i):v=.aO i:=by cases v <;> first |exact ba h |rw[←cc h]
theorem Of {y}(h:Ex v=some y):v=.fin y.1 y.2:=by cases v <;> first |exact ba h |rw[←cc h]
theorem Og {i:List (Str×V)}(h:Ey v=some i):v=.fd i:=by cases v <;> first |exact ba h |rw[←cc h]
theorem Oh {y}(h:EO v=some y):v=.cw y.1 y.2:=by cases v <;> first |exact ba h |rw[←cc h]
end
end
section
set_option backward.match.sparseCases false
structure dB (A:Around) (n:Nat):Prop where
 d:A.depth+n<recursionLimit
 u:A.units+10 * n+100<cLine
 h:A.handled=none
structure b3 (h:Heap) (c:br) (h' : Heap) (c' : br):Prop where
 le:br.le h c c'
 aP:lP h h'
theorem b3.refl {h:Heap}{c:br}:b3 h c h c:=⟨.refl,fun _ o e=>⟨o,e⟩⟩
theorem b3.trans {h h' jB:Heap}{c c' kX:br}(a:b3 h c h' c') (b:b3 h' c' jB kX):b3 h c jB kX:=⟨a.le.trans a.aP b.le,fun x o e=>let ⟨o',c9⟩:=a.aP x o e;b.aP x o' c9⟩
theorem lP.push {h:Heap}(o:Obj):lP h (h.push o):=fun _ o' e=>⟨o',Heap.get?_push_of_some _ e⟩
theorem lP.of_keep {h h' : Heap}(k:∀ b o,h.get? b=some o→h'.get? b=some o):lP h h':=fun b o e=>⟨o,k b o e⟩
theorem b3.keep {h h' : Heap}{c:br}(k:∀ b o,h.get? b=some o→h'.get? b=some o):b3 h c h' c:=⟨.refl,.of_keep k⟩
noncomputable def Oi (o:Obj) (c P:Addr):Prop:=∀ h:Heap,h.get? c=some o→CodeHd h c P
noncomputable def pj (im:cq) (c P:Addr):Prop:=∃ o,im c=some o∧Oi o c P
noncomputable def kl (ρ:c5):Prop:=(∃ x,ρ[0]?=some (885,x))∧∃ x,ρ[1]?=some (951,x)
theorem kl.mono {ρ ρ' : c5}(l:hq ρ ρ'):kl ρ→kl ρ' |⟨⟨a,b⟩,⟨d,e⟩⟩=>⟨⟨a,l _ _ b⟩,⟨d,l _ _ e⟩⟩
structure cO (c:br) (fr:a5) (env:Env):Prop where
 sc:env.scope=fr.sc
 kind:fr.sc.kind=.function
 loc:env.locals=c.L
 glob:env.globals=3
 blt:env.builtins=0
 cs:∀ x i,look x fr.cs=some i→∃ p,c.ρ[i]?=some p∧env.cells.lookup x=some p.1
 tab:∀ i q,fr.tab=some (i,q)→q=env.qual ++ "<lambda>"∧∃ cd p,env.code=.ref cd∧c.ρ[i]?=some p∧pj c.im cd p.1
 az:kl c.ρ
theorem pj.mono {im im' : cq}{c P:Addr}(h1:e9 im im') (h:pj im c P):pj im' c P:=h.imp fun _ r=>⟨h1 _ _ r.1,r.2⟩
theorem cO.le {c c' : br}{fr:a5}{env:Env}{h:Heap}(F:cO c fr env) (l:br.le h c c'):cO c' fr env:=by
 refine ⟨F.sc,F.kind,F.loc.trans l.L.symm,F.glob,F.blt,fun x i e=>?_,fun i q e=>?_,F.az.mono l.ρ⟩
 ·obtain ⟨p,a,b⟩:=F.cs x i e
  exact ⟨p,l.ρ _ _ a,b⟩
 ·obtain ⟨a,cd,p,b,d,r⟩:=F.tab i q e
  exact ⟨a,cd,p,b,l.ρ _ _ d,r.mono l.im⟩
theorem cO.cB {c c' : br}{fr:a5}{env:Env}{h h' : Heap}(F:cO c fr env) (l:b3 h c h' c'):cO c' fr env:=F.le l.le
theorem cO.ls {c:br}{fr:a5}{env:Env}(F:cO c fr env) (ls:List (Str×V)):cO c {fr with ls:=ls} env:=⟨F.sc,F.kind,F.loc,F.glob,F.blt,F.cs,F.tab,F.az⟩
theorem aF.cB {P:Params}{h h' : Heap}{c c' : br}{v x}(r:aF P c.im c.ρ v x) (l:b3 h c h' c'):aF P c'.im c'.ρ v x:=r.le l.le
theorem aW.cB {P:Params}{h h' : Heap}{c c' : br}{v x}(r:aW P c.im c.ρ v x) (l:b3 h c h' c'):aW P c'.im c'.ρ v x:=r.le l.le
noncomputable def ri:Value→Option Str
 |.str q _=>some q
 |_=>none
noncomputable def vInt:Value→Option Int
 |.int i _=>some i
 |_=>none
noncomputable def Fi:Value→Option String
 |.type c=>some c
 |_=>none
noncomputable def Fj:Data→Option (Array Value×Nat)
 |.seq xs k=>some (xs,k)
 |_=>none
noncomputable def Fl:V→Option Value
 |.obj v=>some v
 |_=>none
theorem Ax {v:Value}{q:Str}(h:ri v=some q):∃ t,v=.str q t:=by cases v <;> first |exact ba h |exact ⟨_,by rw[←cc h]⟩
theorem Oj {v:Value}{i:Int}(h:vInt v=some i):∃ t,v=.int i t:=by cases v <;> first |exact ba h |exact ⟨_,by rw[←cc h]⟩
theorem Ol {v:Value}{c:String}(h:Fi v=some c):v=.type c:=by cases v <;> first |exact ba h |exact congrArg Value.type (cc h)
theorem Om {d:Data}{y}(h:Fj d=some y):d=.seq y.1 y.2:=by cases d <;> first |exact ba h |rw[←cc h]
theorem Oo {v:V}{x:Value}(h:Fl v=some x):v=.obj x:=by cases v <;> first |exact ba h |rw[←cc h]
theorem k1 {α:Type}{o:Option α}{p:α→Bool}{Q:Prop}(h:o.any p=true) (k:∀ a,o=some a→p a=true→Q):Q:=match o,h,k with |some a,h,k=>k a rfl h
noncomputable def all2 (f:V→Value→Bool):List V→List Value→Bool
 |[],xs=>xs.isEmpty
 |v::vs,xs=>xs.head?.any (f v)&&all2 f vs xs.tail
noncomputable def Ay (T:BT) (nm:String) (a:Addr):Option (List Value):=(T.get a).bind fun o=>(Fi o.cls).bind fun c=>(Fj o.data).bind fun y =>
 bif decide (c=nm)&&(o.dict.isNone&&(o.slots.toList.isEmpty&&(Nat.blt y.1.toList.length 1000&&Nat.blt a 955))) then some y.1.toList else none
noncomputable def Fm (T:BT) (f:V→Value→Bool) (v:V) (x:Value):Bool:=match v with
 |.none=>decide (x=.none)
 |.int i=>(vInt x).any fun j=>decide (i=j)
 |.str s=>(ri x).any fun t=>seq s t&&Ad s
 |.obj y=>decide (y=x)
 |.tup vs=>(ph x).any fun a=>(Ay T "tuple" a).any fun xs=>all2 f vs xs
 |.aO vs=>(ph x).any fun a=>(Ay T "list" a).any fun xs=>all2 f vs xs
 |_=>false
noncomputable def wL (T:BT):Nat→V→Value→Bool
 |0,_,_=>false
 |n+1,v,x=>Fm T (wL T n) v x
section
variable {w:World}{im:cq}{ρ:c5}
theorem Fn {f:V→Value→Bool}(aI:∀ v x,f v x=true→aF w.params im ρ v x):∀(vs:List V) (xs:List Value),all2 f vs xs=true→aW w.params im ρ vs xs:=fun vs=>by
 induction vs with
 |nil=>exact fun xs h=>by rw[List.isEmpty_iff.mp h];exact .nil
 |cons v vs wM =>
  intro xs h
  obtain ⟨h1,af⟩:=Bool.and_eq_true_iff.mp h
  cases xs with
  |nil=>exact dv h1
  |cons x xs=>exact .cons (aI v x h1) (wM xs af)
theorem Fo (K:hH w im) {nm:String}{a:Addr}:ae (fun xs=>∃ k,im a=some {cls:=.type nm,data:=.seq xs.toArray k}∧xs.length≤aL) (Ay (full w.params) nm a) :=
 ae.b fun o c8=>ae.b fun c aw=>ae.b fun y bU=>ae.de fun q=>ae.bO<|by
  simp only[Bool.and_eq_true,decide_eq_true_eq,Option.isNone_iff_eq_none,List.isEmpty_iff] at q
  obtain ⟨aS,bf,dU,ea,km⟩:=q
  obtain ⟨t2,iD,zw,⟨fQ⟩⟩:=o
  have ao:t2=.type c:=Ol aw
  have aC:zw=.seq y.1 y.2:=Om bU
  subst ao;subst aC
  exact ⟨y.2,(K a _ c8 rfl km).trans (by rw[show iD=none from bf,show fQ=[] from dU,aS]),Nat.le_of_lt (Nat.lt_of_lt_of_le (Nat.blt_eq.mp ea) (by decide))⟩
theorem Oq (K:hH w im) {f:V→Value→Bool}(aI:∀ v x,f v x=true→aF w.params im ρ v x) (v:V) (x:Value) (e:Fm (full w.params) f v x=true):aF w.params im ρ v x:=by
 cases v with
 |none=>rw[show x=_ from of_decide_eq_true e];exact .none
 |int i=>exact k1 e fun j h e=>by obtain ⟨t,h⟩:=Oj h;rw[h,show i=j from of_decide_eq_true e];exact .int _ _
 |str s=>exact k1 e fun j h e=>by obtain ⟨t,h⟩:=Ax h;obtain ⟨ao,aC⟩:=Bool.and_eq_true_iff.mp e;rw[h,←d9.mp ao];exact .str _ _ (E7 aC)
 |obj y=>rw[show y=x from of_decide_eq_true e];exact .obj _
 |tup vs=>exact k1 e fun a h e=>k1 e fun xs af e=>by rw[tY h];obtain ⟨k,aB,bu⟩:=Fo K _ af;exact .tup (n:=k) aB (Fn aI _ _ e) bu
 |aO vs=>exact k1 e fun a h e=>k1 e fun xs af e=>by rw[tY h];obtain ⟨k,aB,bu⟩:=Fo K _ af;exact .aO (n:=k) aB (Fn aI _ _ e) bu
 |_=>exact dv e
theorem Ot (K:hH w im) (n:Nat):∀ v x,wL (full w.params) n v x=true→aF w.params im ρ v x:=by
 induction n with
 |zero=>exact fun _ _ h=>dv h
 |succ n aI=>exact Oq K aI
noncomputable def lX (x:Str):List DictEntry→Option Value
 |[]=>none
 |e::r=>bif (ri e.key).any (seq x) then some e.val else lX x r
end
theorem Fp {x:Str}{l:List DictEntry}:l.all (fun e=>(ri e.key).isSome)=true→nsFind l.toArray x=lX x l:=by
 unfold nsFind findBy
 rw[List.find?_toArray]
 induction l with
 |nil=>exact fun _=>rfl
 |cons e r aI =>
  intro h
  rw[List.all_cons,Bool.and_eq_true] at h
  obtain ⟨y,h1⟩:=Option.isSome_iff_exists.mp h.1
  obtain ⟨t,aB⟩:=Ax h1
  have z:(fun n v=>Value.isStr v n) x e.key=seq x y:=by rw[aB];exact tV y t x
  rw[List.find?_cons,z,show lX x (e::r)=(bif (ri e.key).any (seq x) then some e.val else lX x r) from rfl,h1,←aI h.2]
  show _=(bif seq x y then _ else _)
  cases seq x y <;> rfl
noncomputable def rj (p:Params):List DictEntry:=(qF (fP p)).toList
noncomputable def Az (p:Params):List DictEntry:=(qF (o0 p)).toList
theorem AA (w:World) (x:Str):gl w x=lX x (rj w.params):=Fp (l:=rj w.params) (by kernel_rfl)
theorem Ou (w:World) (x:Str):lJ w x=lX x (Az w.params):=Fp (l:=Az w.params) (by kernel_rfl)
noncomputable def wN:V→Bool
 |.fd _=>true
 |_=>false
noncomputable def Fq (T:BT) (G:List DictEntry) (r:Str×V):Bool:=wN r.2 || (lX r.1 G).any fun x=>wL T 200 r.2 x
theorem Ov (p:Params):wo.all (Fq (full p) (rj p))=true:=by kernel_rfl
noncomputable def Fs:List (Str×V):=[("GET_OPS",.fd [("local",.int 11),("cell",.int 13),("up",.int 15)]),("SET_OPS",.fd [("local",.int 12),("cell",.int 14),("up",.int 16)])]
theorem Ow:wo.filter (fun r=>wN r.2)=Fs:=by kernel_rfl
theorem Ox (K:hH w im) {x:Str}{v:V}(e:look x wo=some v):∃ y,gl w x=some y∧aF w.params im ρ v y:=by
 have m:=n1 e
 have r:=List.all_eq_true.mp (Ov w.params) _ m
 rw[AA]
 cases hf:wN v with
 |false =>
  rw[show Fq (full w.params) (rj w.params) (x,v)=(wN v || (lX x (rj w.params)).any fun y=>wL (full w.params) 200 v y) from rfl,hf] at r
  exact k1 r fun y h1 af=>⟨y,h1,Ot K _ _ _ af⟩
 |true =>
  have lY:(x,v)∈Fs:=Ow▸List.mem_filter.mpr ⟨m,hf⟩
  rcases List.mem_cons.mp lY with q |lY
  ·obtain ⟨rfl,rfl⟩:=qW q
   refine ⟨.ref 418,by kernel_rfl,.fd (n:=3) (K 418 _ (by kernel_rfl) (by kernel_rfl) (by kernel_rfl)) (.cons (t:=1138) (.int 11 218) (.cons (t:=1139) (.int 13 222) (.cons (t:=1140) (.int 15 226) .nil)))⟩
  ·rcases List.mem_cons.mp lY with q |lY
   ·obtain ⟨rfl,rfl⟩:=qW q
    refine ⟨.ref 419,by kernel_rfl,.fd (n:=3) (K 419 _ (by kernel_rfl) (by kernel_rfl) (by kernel_rfl)) (.cons (t:=1145) (.int 12 220) (.cons (t:=1146) (.int 14 224) (.cons (t:=1147) (.int 16 228) .nil)))⟩
   ·cases lY
noncomputable def Oy (G B:List DictEntry) (r:Str×V):Bool:=(Fl r.2).any fun v=>(lX r.1 G).isNone&&(lX r.1 B).any fun y=>decide (v=y)
theorem Oz (p:Params):z8.all (Oy (rj p) (Az p))=true:=by kernel_rfl
theorem OA {x:Str}{v:V}(e:look x z8=some v):∃ y,gl w x=none∧lJ w x=some y∧aF w.params im ρ v y:=by
 have r:=List.all_eq_true.mp (Oz w.params) _ (n1 e)
 rw[AA,Ou]
 exact k1 r fun u h1 r=>by
  obtain ⟨af,r⟩:=Bool.and_eq_true_iff.mp r
  exact k1 r fun y aB bu=>⟨y,Option.isNone_iff_eq_none.mp af,aB,by rw[show v=.obj u from Oo h1,show u=y from of_decide_eq_true bu];exact .obj _⟩
section
variable {w:World}{A:Around}{c:br}{fr:a5}{st:ax}{env:Env}{s:Shared}{ls:List (Str×V)}
theorem aH.eQ (R:aH w c ls st.H s.heap):eQ w s.heap:=mX R.dh fun _ _=>R.rep.cM
theorem aH.gu (R:aH w c ls st.H s.heap):(gu w.params).In s.heap:=kd_in R.dh fun _ _=>R.rep.cM
theorem wO {fr:a5}{x:Str}{k:NameKind}(F:cO c fr env) (e:gX fr x=some k):env.kindOf x=some k∧(x == ("__debug__" : Str))=false:=by
 unfold gX at e
 split at e
 ·exact ba e
 ·rename_i q
  refine ⟨?_,by rw[rd];exact q⟩
  show env.scope.names.lookup x=_
  rw[F.sc,lW];exact e
noncomputable def OB (w:World) (A:Around) (c:br) (env:Env) (s:Shared) (x:Str) (pos:Pos) (v:V):Prop:=∀ Q:Value→Shared→Prop,(∀ y,aF w.params c.im c.ρ v y→Q y s)→wpAny (aU w) A (eval (.Name x pos) env) Q bo s
theorem Ft {x:Str}{pos:Pos}(F:cO c fr env) (R:aH w c fr.ls st.H s.heap):ae (OB w A c env s x pos) (pb fr x st):=by
 have ar:env.scope.kind=.function:=by rw[F.sc];exact F.kind
 have g3:s.heap.Ns env.globals (gl w):=by rw[F.glob];exact vQ R.eQ
 refine ae.c (fun q v h Q k=>?_) fun _=>ae.c (fun q=>ae.b fun i aM=>ae.b fun u dK v aV Q k=>?_) fun _=>ae.de fun q=>ae.o (fun u dK=>ae.bO fun Q k=>?_) fun _ v h Q k=>?_
 ·obtain ⟨aS,bf⟩:=wO F (n3 q)
  obtain ⟨m,gY,bc⟩:=R.ns
  obtain ⟨y,bU,bN⟩:=gY _ _ h
  exact wpAny_Name (wpAny_loadName_local ar aS (by rw[F.loc];exact bc) bU (k _ bN)) bf
 ·obtain ⟨aS,bf⟩:=wO F (wJ q)
  obtain ⟨p,a4,aw⟩:=F.cs _ _ aM
  rw[show u=some v from aV] at dK
  obtain ⟨y,bU,bN⟩:=R.rep.at_ a4 (Fg dK)
  exact wpAny_Name (wpAny_loadName_cell ar aS aw bU (k _ bN)) bf
 ·obtain ⟨aS,bf⟩:=wO F (Au q)
  obtain ⟨y,bU,bN⟩:=Ox (ρ:=c.ρ) R.dh dK
  exact Calls.Name_function_global ar aS (Calls.loadGlobal_global g3 bU (k _ bN)) bf
 ·obtain ⟨aS,bf⟩:=wO F (Au q)
  obtain ⟨y,bU,OC,bN⟩:=OA (w:=w) (im:=c.im) (ρ:=c.ρ) h
  exact Calls.Name_function_global ar aS (Calls.loadGlobal_builtin g3 bU (by rw[F.blt];exact Np R.eQ) OC (k _ bN)) bf
noncomputable def OD (w:World) (A:Around) (c:br) (env:Env) (s:Shared) (lZ:Const) (kd:Nat) (pos:Pos) (v:V):Prop:=∀ Q:Value→Shared→Prop,(∀ az y,aF w.params c.im c.ρ v y→Q y (a8 s s.heap az))→wpAny (aU w) A (eval (.Constant lZ kd pos) env) Q bo s
theorem OE {lZ:Const}{kd:Nat}{pos:Pos}:ae (OD w A c env s lZ kd pos) (Ez lZ):=by
 cases lZ with
 |none=>exact ae.bO fun Q k=>wpAny_Constant_none (k s.toks _ .none)
 |bool b=>exact ae.bO fun Q k=>wpAny_Constant_bool (k s.toks _ (.bool _))
 |int i=>exact ae.bO fun Q k=>wpAny_Constant_int (k _ _ (.int _ _))
 |str x=>exact ae.de fun q=>ae.bO fun Q k=>Calls.Constant_str (k _ _ (.str _ _ (E7 q)))
 |_=>exact ae.no
end
end
section
set_option tactic.hygienic true
section
variable {w:World}{A:Around}{c:br}{st:ax}{s:Shared}{ls:List (Str×V)}{n:Nat}
theorem pk (p:Params) {C:Addr}{ci:nO}(e:c2 C hJ=some ci):tW (gu p) C=true∧(∀ nm,lS nm ci.as=true→rf (gu p) C nm=true)∧(∀ nm f,look nm ci.ms=some f→rg (gu p) C nm f=true)∧rg (gu p) C "__init__" ci.init=true:=by
 have r:=List.all_eq_true.mp (N7 p) _ (wH e)
 simp only[Bool.and_eq_true,List.all_eq_true] at r
 obtain ⟨⟨⟨a,b⟩,c⟩,d⟩:=r
 exact ⟨a,fun nm m=>b nm (E8.mp m),fun nm f m=>c _ (n1 m),d⟩
theorem n5 {K:Frag}{C:Addr}(h:tW K C=true):findIn K (.ref C) "__getattribute__" = some (some (.builtin "object.__getattribute__"))∧findIn K (.ref C) "__getattr__" = some none∧hasDictIn K C=true∧plainOver K C=true ∧
 findIn K (.ref C) "__setattr__" = some (some (.builtin "object.__setattr__"))∧makesIn K C=true:=by
 simp only[tW,Bool.and_eq_true,beq_iff_eq] at h
 obtain ⟨⟨⟨⟨a,b⟩,c⟩,d⟩,e⟩:=h
 obtain ⟨x,y⟩:=plainGet_of a
 exact ⟨x,y,b,c,d,e⟩
theorem OF {v r:V}{P:Params}{im:cq}{ρ:c5}{x:Value}(e:Ae v=some r) (q:aF P im ρ v x):r=v∧handedIn x=true:=by
 have key:nR v=false→handedIn x=true:=aF.casesOn (motive_1:=fun v x _=>nR v=false→handedIn x=true) q (fun _=>rfl) (fun _ _=>rfl) (fun _ _ _=>rfl) (fun _ _ _ _=>rfl) (fun _ _ _ _=>rfl) (fun _ _ _ _=>rfl) (fun _ _ _ _=>rfl) (fun _ _=>rfl) (fun _ h=>eD h) (fun _ _ _=>rfl) (fun _ _=>rfl) (fun _ _ _=>rfl) (fun _ _=>rfl) (fun _ h=>eD h)
 exact (ae.cf fun z=>ae.bO ⟨rfl,key z⟩:ae (fun r=>r=v∧handedIn x=true) (Ae v)) r e
theorem rk {h:Heap}{a d C:Addr}{aD:List DictEntry}{k:Nat}(ao:h.get? a=some (instObj C d)) (aC:h.get? d=some (dictOf aD k)):W.InstAt h a (instObj C d) C (some (dictOf aD k)):=⟨ao,rfl,rfl,aC⟩
theorem OG {K:Frag}{C:Addr}{nm:Str}{aD:List DictEntry}{k:Nat}{x:Value}(f:tW K C=true) (h:rf K C nm=true) (hl:getL nm aD=some (some x)):findObj K C (some (dictOf aD k)) nm=some (.value x):=by
 obtain ⟨_,_,hd,_⟩:=n5 f
 have k2:lookIn nm (dictOf aD k)=some (some x):=by rw[lookIn_dict,hl]
 rcases As h with q |⟨g,q,h1,af,aB⟩
 ·exact findObj_own hd q rfl k2
 ·obtain ⟨cd,OH,l0⟩:=any_some hd
  have c8:W.ownOf cd (some (dictOf aD k)) nm=some (some x):=by unfold W.ownOf;rw[if_pos l0];exact k2
  exact (bj OH).trans ((bj q).trans ((bj h1).trans ((bj af).trans ((bj c8).trans rfl))))
theorem Fu {a d C:Addr}{aD:List DictEntry}{k:Nat}{nm:Str}{ci:nO}{x:Value}{ex:Bool}{Q:Value→Shared→Prop}(X:(gu w.params).In s.heap) (ao:s.heap.get? a=some (instObj C d)) (aC:s.heap.get? d=some (dictOf aD k))
 (aw:c2 C hJ=some ci) (hm:lS nm ci.as=true) (hl:getL nm aD=some (some x)) (bY:handedIn x=true) (q:∀ az,Q x (a8 s s.heap az)):wpAny (aU w) A (getAttr (.ref a) nm ex) Q bo s:=by
 obtain ⟨f1,f2,_⟩:=pk w.params aw
 exact get_value X (rk ao aC) (n5 f1).1 (OG f1 (f2 _ hm) hl) bY (q _)
theorem AB {K:Frag}{C f:Addr}{nm:Str}(h:rg K C nm f=true):findIn K (.ref C) nm=some (some (.ref f))∧typeIn K (.ref f)=some (.type "function")∧fnIn K f=true∧specialIn K (.ref f) "__get__" = some (some (.builtin "function.__get__"))∧takesIn K (.ref f)=some false∧copiedNames.contains nm=false:=by
 simp only[rg,Bool.and_eq_true,beq_iff_eq,Bool.not_eq_true'] at h
 obtain ⟨⟨⟨⟨⟨a,b⟩,c⟩,d⟩,e⟩,f⟩:=h
 exact ⟨a,b,c,d,e,f⟩
theorem OI {a d C f:Addr}{aD:List DictEntry}{k:Nat}{nm:Str}{ci:nO}{ex:Bool}{Q:Value→Shared→Prop}(X:(gu w.params).In s.heap) (ao:s.heap.get? a=some (instObj C d)) (aC:s.heap.get? d=some (dictOf aD k))
 (aw:c2 C hJ=some ci) (hm:look nm ci.ms=some f) (hl:getL nm aD=some none) (q:∀ az,Q (.ref s.heap.objs.size) (a8 s (s.heap.push (methodObj (.ref f) (.ref a))) az)):wpAny (aU w) A (getAttr (.ref a) nm ex) Q bo s:=by
 obtain ⟨f1,_,jC,_⟩:=pk w.params aw
 obtain ⟨g1,g2,g3,k3,gZ,mZ⟩:=AB (jC _ _ hm)
 obtain ⟨aK,bw,da,_⟩:=n5 f1
 exact get_bind X (rk ao aC) aK (findObj_fn da g1 k3 gZ mZ (by rw[lookIn_dict,hl])) bw (wpAny_call (fn_get (s:={s with toks:=s.toks+1}) X g2 (handed_on rfl (q _))))
theorem OJ {a d C f:Addr}{aD:List DictEntry}{k:Nat}{nm:Str}{ci:nO}{c0:Sem Bool}{Q:Value×List Value→Shared→Prop}(X:(gu w.params).In s.heap) (ao:s.heap.get? a=some (instObj C d)) (aC:s.heap.get? d=some (dictOf aD k))
 (aw:c2 C hJ=some ci) (hm:look nm ci.ms=some f) (hl:getL nm aD=some none) (q:Q (.ref f,[.ref a]) s):wpAny (aU w) A (getMethod (.ref a) nm c0) Q bo s:=by
 obtain ⟨f1,_,jC,_⟩:=pk w.params aw
 obtain ⟨g1,g2,g3,k3,gZ,mZ⟩:=AB (jC _ _ hm)
 obtain ⟨aK,bw,da,_⟩:=n5 f1
 exact method_fn X (rk ao aC) aK bw g1 g2 (by show (lookIn nm (dictOf aD k)).map _=_;rw[lookIn_dict,hl];rfl) q
theorem OK {K:Frag}{x C f:Addr}{t4 iD:Obj}{nm:Str}{c0:Sem Bool}{Q:Value×List Value→Shared→Prop}(X:K.In s.heap) (aR:W.InstAt s.heap x t4 C (some iD)) (OL:findIn K (.ref C) "__getattribute__" = some (some (.builtin "object.__getattribute__"))) (ar:findIn K (.ref C) "__getattr__" = some none)
 (hf:findIn K (.ref C) nm=some (some (.ref f))) (bT:typeIn K (.ref f)=some (.type "function")) {y:Value}(ak:lookIn nm iD=some (some y)) (h:wpAny (aU w) A (getAttr (.ref x) nm) (fun v=>Q (v,[])) bo s) :
 wpAny (aU w) A (getMethod (.ref x) nm c0) Q bo s:=by
 have OM:=PySem.F.canon_object_ga
 unfold getMethod specialOf
 refine wpAny_bind (wpAny_bind (aR.type.here ((looks_findIn X OL).here ?_)))
 dsimp only
 rw[OM,if_neg (by decide)]
 refine wpAny_bind (wpAny_bind (aR.type.here ((looks_findIn X ar).here ?_)))
 refine wpAny_bind (wpAny_bind (aR.type.here ((looks_findIn X hf).here (wpAny_bind ((looks_typeIn X bT).here ?_)))))
 rw[if_neg (by decide +kernel)]
 refine wpAny_bind (wpAny_loadPart aR.at_ ?_)
 have hd:=aR.dict
 cases e:t4.dict with
 |none=>rw[e] at hd;exact hd.elim
 |some pl =>
  rw[e] at hd
  refine wpAny_bind (wpAny_bind (wpAny_loadPart hd ?_))
  rw[nsLook_of ak]
  refine wpAny_pure ?_
  rw[if_pos (show (some y).isSome=true from rfl)]
  exact wpAny_bind (wpAny_mono h (fun _ _ z=>wpAny_pure z) fun _ _ z=>z)
theorem ON {a d C:Addr}{aD:List DictEntry}{k:Nat}{nm:Str}{ci:nO}{x:Value}{c0:Sem Bool}{Q:Value×List Value→Shared→Prop}(X:(gu w.params).In s.heap) (ao:s.heap.get? a=some (instObj C d)) (aC:s.heap.get? d=some (dictOf aD k))
 (aw:c2 C hJ=some ci) (hm:lS nm ci.as=true) (hl:getL nm aD=some (some x)) (bY:handedIn x=true) (q:∀ az,Q (x,[]) (a8 s s.heap az)):wpAny (aU w) A (getMethod (.ref a) nm c0) Q bo s:=by
 obtain ⟨f1,f2,_⟩:=pk w.params aw
 obtain ⟨aK,bw,da,_⟩:=n5 f1
 have g:=Fu (A:=A) (ex:=false) (Q:=fun v=>Q (v,[])) X ao aC aw hm hl bY q
 have AD:=f2 _ hm
 rcases As AD with z |⟨_,z,_,_,y⟩
 ·exact method_usual X (rk ao aC) aK bw z rfl g
 ·exact OK X (rk ao aC) aK bw z y (by rw[lookIn_dict,hl]) g
noncomputable def OO (w:World) (c:br) (h:Heap) (x:Value) (y:Addr×List (Str×V)):Prop:=∃ a d aD k,x=.ref a∧h.get? a=some (instObj y.1 d)∧h.get? d=some (dictOf aD k)∧cT w.params c.im c.ρ y.2 aD
theorem Fv {v:V}{x:Value}(R:aH w c ls st.H s.heap) (bN:aF w.params c.im c.ρ v x):ae (OO w c s.heap x) (fieldsOf v st) :=
 ae.o (fun y bU=>ae.bO (by rw[Of bU] at bN;exact bN.nM fun d aD a n ao aC bb=>⟨a,d,aD,n,rfl,R.rep.cM ao,R.rep.cM aC,bb⟩))
  fun _=>ae.b fun i aM y bU=>by
   rw[kk aM] at bN
   refine bN.iy fun p a4=>?_
   obtain ⟨aD,k',ao,aC,bb,ne⟩:=R.rep.at_ a4 (Av bU)
   exact ⟨_,_,aD,k',rfl,ao,aC,bb⟩
theorem Fw {P:Params}{im:cq}{ρ:c5}{y:Addr×List (Str×V)}{aD:List DictEntry}{nm:Str}(bb:cT P im ρ y.2 aD):ae (fun u=>∃ ci z,c2 y.1 hJ=some ci∧lS nm ci.as=true∧getL nm aD=some (some z)∧aF P im ρ u z∧handedIn z=true) (wx y nm) :=
 ae.b fun ci aw=>ae.de fun hm=>ae.b fun u dK v aV=>by
  obtain ⟨z,h1,af⟩:=bb.N3 dK
  obtain ⟨e,aB⟩:=OF aV af
  exact ⟨ci,z,aw,hm,h1,e▸af,aB⟩
theorem Fx {y:Addr×List (Str×V)}{nm:Str}:ae (fun f=>∃ ci,c2 y.1 hJ=some ci∧look nm y.2=none∧look nm ci.ms=some f) (Af y nm) :=
 ae.b fun ci aw=>ae.cf fun q f hf=>⟨ci,aw,by cases e:look nm y.2 with |none=>rfl |some _=>rw[e] at q;exact eD q,hf⟩
theorem OP {v:V}{x:Value}{nm:Str}{ex:Bool}(R:aH w c ls st.H s.heap) (bN:aF w.params c.im c.ρ v x):ae (fun r=>∀ Q:Value→Shared→Prop,(∀ c' h' az y,b3 s.heap c h' c'→aH w c' ls st.H h'→aF w.params c'.im c'.ρ r y→Q y (a8 s h' az))→wpAny (aU w) A (getAttr x nm ex) Q bo s) (mU v nm st) :=
 ae.b fun y bU=>by
  obtain ⟨a,d,aD,k',rfl,ao,aC,bb⟩:=Fv R bN _ bU
  refine ae.o (fun u dK=>ae.bO fun Q k=>?_) fun _=>ae.m fun f hf Q k=>?_
  ·obtain ⟨ci,z,aw,hm,h1,af,aB⟩:=Fw bb _ dK
   exact Fu R.gu ao aC aw hm h1 aB fun az=>k c _ az _ .refl R af
  ·obtain ⟨ci,aw,bc,hm⟩:=Fx _ hf
   refine OI R.gu ao aC aw hm (bb.Fc bc) fun az=>?_
   obtain ⟨eE,l⟩:=R.tE (methodObj (.ref f) (.ref a)) rfl
   exact k _ _ az _ ⟨l,.push _⟩ eE (.fD mR (bN.le l))
theorem OQ {v r:V}{x:Value}{nm:Str}{ex:Bool}{Q:Value→Shared→Prop}(h:mU v nm st=some r) (R:aH w c ls st.H s.heap) (bN:aF w.params c.im c.ρ v x)
 (k:∀ c' h' az y,b3 s.heap c h' c'→aH w c' ls st.H h'→aF w.params c'.im c'.ρ r y→Q y (a8 s h' az)):wpAny (aU w) A (getAttr x nm ex) Q bo s:=OP R bN _ h Q k
theorem OR {nm:Str}{a:Addr}{vs:List Value}{k:Nat}{c0:Sem Bool}(ao:s.heap.get? a=some (tb vs k)):ae (fun id=>∀ Q:Value×List Value→Shared→Prop,Q (.builtin id,[.ref a]) s→wpAny (aU w) A (getMethod (.ref a) nm c0) Q bo s) (EA nm) :=
 ae.c (fun q=>ae.bO fun Q k=>by rw[d9.mp q];exact zz ao F.slot_list_append (by kernel_rfl) k) fun _=>ae.c (fun q=>ae.bO fun Q k=>by rw[d9.mp q];exact zz ao F.slot_list_pop (by kernel_rfl) k) fun _ =>
  ae.de fun q=>ae.bO fun Q k=>by rw[d9.mp q];exact zz ao F.slot_list_insert (by kernel_rfl) k
theorem OS {v:V}{x:Value}{nm:Str}{c0:Sem Bool}(R:aH w c ls st.H s.heap) (bN:aF w.params c.im c.ρ v x):ae (fun g=>∀ Q:Value×List Value→Shared→Prop,(∀ az y ys,aF w.params c.im c.ρ g.1 y→aW w.params c.im c.ρ g.2 ys→Q (y,ys) (a8 s s.heap az))→wpAny (aU w) A (getMethod x nm c0) Q bo s) (kf v nm st):=by
 refine ae.o (fun y bU=>?_) fun _=>ae.b fun i aM=>ae.b fun vs OT=>ae.m fun id nR Q k=>?_
 ·obtain ⟨a,d,aD,k',rfl,ao,aC,bb⟩:=Fv R bN _ bU
  refine ae.o (fun u dK=>ae.bO fun Q k=>?_) fun _=>ae.m fun f hf Q k=>?_
  ·obtain ⟨ci,z,aw,hm,h1,af,aB⟩:=Fw bb _ dK
   exact ON R.gu ao aC aw hm h1 aB fun az=>k az _ _ af .nil
  ·obtain ⟨ci,aw,bc,hm⟩:=Fx _ hf
   exact OJ R.gu ao aC aw hm (bb.Fc bc) (k s.toks _ _ (.obj _) (.cons bN .nil))
 ·rw[kk aM] at bN k
  revert k
  refine bN.iy fun p a4 k=>?_
  obtain ⟨xs,k',ao,bb,_⟩:=R.rep.at_ a4 (kj OT)
  exact OR ao _ nR Q (k s.toks _ _ (.obj _) (.cons (.ref a4) .nil))
theorem OU {v:V}{g}{x:Value}{nm:Str}{c0:Sem Bool}{Q:Value×List Value→Shared→Prop}(h:kf v nm st=some g) (R:aH w c ls st.H s.heap) (bN:aF w.params c.im c.ρ v x)
 (k:∀ az y ys,aF w.params c.im c.ρ g.1 y→aW w.params c.im c.ρ g.2 ys→Q (y,ys) (a8 s s.heap az)):wpAny (aU w) A (getMethod x nm c0) Q bo s:=OS R bN _ h Q k
end
end
section
set_option tactic.hygienic true
section
variable {w:World}{A:Around}{c:br}{st st' : ax}{s:Shared}{ls:List (Str×V)}
theorem aH.AE {H:List aj}{h h' : Heap}(R:aH w c ls H h) {i:Nat}{p:Addr×Addr}{o o' : aj}(a4:c.ρ[i]?=some p) (c8:H[i]?=some o) (e:o'.dX p=o.dX p)
 (ar:∀ b,b ∉ o.dX p→h'.get? b=h.get? b) (bR:gU w c.im c.ρ h' p o'):aH w c ls (H.set i o') h' :=
 R.upd a4 c8 e (fun b aa n x=>(ar b n).trans x) bR
theorem aH.frame {H:List aj}{h h' : Heap}{m:Str→Option Value}(R:aH w c ls H h) (gY:kb w.params c.im c.ρ ls m) (bc:h'.Ns c.L m) (ar:∀ b aa,b≠c.L→h.get? b=some aa→h'.get? b=some aa):aH w c ls H h':=by
 refine ⟨⟨m,gY,bc⟩,⟨R.rep.len,fun {i p o} ao aC=>(R.rep.at_ ao aC).mono (fun _ _ x=>x) (fun _ _ x=>x) fun a m aa x=>ar a aa (R.own ⟨i,p,o,ao,aC,m⟩).2 x,R.rep.sep,fun {a o} x=>ar a o (fun q=>?_) (R.rep.cM x),R.rep.ju⟩,R.dh,fun {a o} x=>ar a o (fun q=>?_) (R.keep x),R.own,R.fr⟩
 ·rw[q] at x;rw[R.fr.2] at x;exact ba x
 ·rw[q] at x;rw[R.fr.1] at x;exact ba x
theorem aH.Fy {H:List aj}{h:Heap}(R:aH w c ls H h) {a:Addr}{o:Obj}(b2:h.get? a=some o) (no : ¬ Own c.ρ H a) (rl:a≠c.L):aH w {c with im:=eR c.im a o} ls H h:=by
 have le:e9 c.im (eR c.im a o):=fun b aa e=>by
  unfold eR
  split
  ·rename_i q;subst q
   rw[R.rep.cM e] at b2;exact b2.symm
  ·exact e
 have im:∀{b aa},eR c.im a o b=some aa→h.get? b=some aa:=fun {b aa} e=>by
  unfold eR at e
  split at e
  ·rename_i q;subst q;obtain rfl:=cc e;exact b2
  ·exact R.rep.cM e
 refine ⟨?_,⟨R.rep.len,fun {i p o} ao aC=>(R.rep.at_ ao aC).mono le (fun _ _ x=>x) fun _ _ _ x=>x,R.rep.sep,im,fun {b} x=>?_⟩,fun a o x y z=>le _ _ (R.dh a o x y z),R.keep,R.own,⟨R.fr.1,?_⟩⟩
 ·obtain ⟨m,gY,bc⟩:=R.ns
  exact ⟨m,gY.mono le fun _ _ x=>x,bc⟩
 ·show eR c.im a o b=none
  unfold eR
  rw[if_neg (fun (q:b=a)=>no (q▸x))];exact R.rep.ju x
 ·show eR c.im a o c.L=none
  unfold eR
  rw[if_neg (fun (q:c.L=a)=>rl q.symm)];exact R.fr.2
theorem aH.Fz {H:List aj}{h h' : Heap}(R:aH w c ls H h') {a:Addr}{o:Obj}(b2:h'.get? a=some o) (n:h.get? a=none):br.le h c {c with im:=eR c.im a o}:=by
 refine ⟨rfl,rfl,fun b aa e=>?_,fun _ _ x=>x,fun b aa e=>?_⟩
 ·show eR c.im a o b=_
  unfold eR
  split
  ·rename_i q;subst q
   rw[R.rep.cM e] at b2;exact b2.symm
  ·exact e
 ·have e:eR c.im a o b=some aa:=e
  unfold eR at e
  split at e
  ·rename_i q;subst q;exact .inr (.inl n)
  ·exact .inl e
noncomputable def allOf (h:Heap) (L:Addr):List (Addr×Obj):=(List.range h.objs.size).filterMap fun a=>if a=L then none else (h.get? a).map (a,·)
theorem AF {h:Heap}{L a:Addr}{o:Obj}:(a,o)∈allOf h L↔h.get? a=some o∧a≠L:=by
 unfold allOf
 rw[List.mem_filterMap]
 constructor
 ·rintro ⟨b,_,e⟩
  split at e
  ·exact ba e
  ·rename_i n
   refine lM e fun o' ao aC=>?_
   obtain ⟨rfl,rfl⟩:=qW aC;exact ⟨ao,n⟩
 ·rintro ⟨e,n⟩
  exact ⟨a,List.mem_range.mpr (Heap.lt_size e),by rw[if_neg n,e];rfl⟩
noncomputable def h0 (h:Heap):Heap:=⟨#[],h.life⟩
theorem FA (h:Heap) (b:Addr):(h0 h).get? b=none:=by simp[h0,Heap.get?]
theorem OV (h:Heap) (L:Addr):News (h0 h) L h (allOf h L):=fun p m=>⟨(AF.mp m).1,(AF.mp m).2,FA _ _⟩
theorem OW {h:Heap}{L:Addr}{m:Str→Option Value}(bc:h.Ns L m):Fr (h0 h) L h m:=⟨bc,fun b o e=>(by rw[FA] at e;exact ba e),Nat.zero_le _⟩
theorem AG {h:Heap}{a:Addr}{f:Obj→Obj}{o:Obj}(c8:h.get? a=some o) (hf:(f o).isFreed=false):(h.update a f).get? a=some (f o):=Heap.get?_update_self _ c8 hf
theorem n6 {h:Heap}{a b:Addr}{f:Obj→Obj}(n:b≠a):(h.update a f).get? b=h.get? b:=(Heap.SameBut.update (h:=h) (a:=a) (f:=f)).2 b n
theorem b3.of_same {h h' : Heap}{c:br}{a:Addr}{o:Obj}(ak:∀ b,b≠a→h'.get? b=h.get? b) (b2:h'.get? a=some o):b3 h c h' c:=⟨.refl,fun b aa e=>by
 by_cases q:b=a
 ·exact ⟨o,q▸b2⟩
 ·exact ⟨aa,(ak b q).trans e⟩⟩
theorem OX {K:Frag}{C:Addr}{nm:Str}(h:rf K C nm=true):takerIn K C nm=some none:=by
 rcases As h with q |⟨_,q,_,t,_⟩
 ·unfold takerIn;rw[q];rfl
 ·unfold takerIn
  rw[q]
  simp only[Option.bind_some,t,Option.map_some,Bool.false_eq_true,if_false]
theorem OY {K:Frag}{x C pl:Addr}{nm:Str}{v:Value}{aD:List DictEntry}{k:Nat}{az:Tok}{R:Result→Shared→Prop}(X:K.In s.heap) (aR:W.InstAt s.heap x (instObj C pl) C (some (dictOf aD k))) (a4:plainOver K C=true) (bT:takerIn K C nm=some none)
 (bY:hasDictIn K C=true) (bR:aD.any (·.refKey)=false) (bZ:aD.length≤1000)
 (h:R (.ok (.ret .none)) {s with heap:=s.heap.update pl (Obj.putName nm (PyData.keyHash w.params nm) (.str nm s.toks) v),toks:=s.toks+1}) :
 codeAny (aU w) A (.call (.builtin "object.__setattr__") ⟨[.ref x,.str nm az,v],[]⟩) R s:=by
 refine osa_open X aR a4 bT fun b=>?_
 obtain ⟨cd,aw,l0⟩:=any_some bY
 have bA:=aR.at_
 have D:s.heap.get? pl=some (dictOf aD k):=aR.dict
 have ao:=putName_dict nm (PyData.keyHash w.params nm) (.str nm s.toks) v aD k
 have D' : (s.heap.update pl (Obj.putName nm (PyData.keyHash w.params nm) (.str nm s.toks) v)).get? pl=some (dictOf (putL nm (PyData.keyHash w.params nm) (.str nm s.toks) v aD) (putN nm aD k)):=by
  rw[←ao];exact Heap.get?_update_self _ D (by rw[ao];rfl)
 have Zx:(putL nm (PyData.keyHash w.params nm) (.str nm s.toks) v aD).length≤aD.length+1:=by
  clear D D' ao bR bZ aR
  induction aD with
  |nil=>exact Nat.le_refl _
  |cons e r aI =>
   simp only[putL]
   split
   ·exact Nat.le_succ _
   ·exact Nat.succ_le_succ aI
 refine wpAny_bind (wpAny_pure (wpAny_bind (wpAny_bind (wpAny_loadPart bA (wpAny_bind ((looks_clsIn X aw).here ?_))))))
 rw[l0]
 refine wpAny_pure (a:=some pl) (wpAny_bind (wpAny_pure (wpAny_bind ?_)))
 unfold nsSet
 refine wpAny_bind (wpAny_bind (wpAny_askSetting (wpAny_pure (wpAny_bind (wpAny_mkText (wpAny_bind (wpAny_loadPart D ?_)))))))
 have lZ:(!aD.toArray.any (·.key.isStr nm)&&aD.toArray.any (·.refKey))=false:=by
  rw[←Array.any_toList,←Array.any_toList]
  show (!aD.any _&&aD.any (·.refKey))=false
  rw[bR,Bool.and_false]
 dsimp only[dictOf]
 rw[aRefKeyMayBeTheName_at,lZ]
 refine wpAny_updatePart D ?_
 refine wpAny_bind (wpAny_lookBehind D' (pastItsLine_dict (by rw[List.size_toArray,sizeLine_eq];omega)) ?_)
 exact wpAny_pure h
theorem OZ {a b:Nat}(h:Nat.blt a 100=true) (e:a=b):b≤1000:=e▸Nat.le_of_lt (Nat.lt_of_lt_of_le (Nat.blt_eq.mp h) (by decide))
noncomputable def FC (w:World) (A:Around) (c:br) (ls:List (Str×V)) (s:Shared) (m:Sem Unit) (aa:Prop) (st' : ax):Prop:=st'.aa=aa∧∀ Q:Unit→Shared→Prop,(∀ h' az,b3 s.heap c h' c→aH w c ls st'.H h'→Q () (a8 s h' az))→wpAny (aU w) A m Q bo s
theorem O0 {v t5:V}{t4 x:Value}{nm:Str}(R:aH w c ls st.H s.heap) (FD:aF w.params c.im c.ρ v t4) (bN:aF w.params c.im c.ρ t5 x):ae (FC w A c ls s (setAttr t4 nm x) st.aa) (mV v nm t5 st) :=
 ae.b fun i bR=>ae.b fun y bU=>ae.b fun ci aw=>ae.de fun q=>ae.bO ⟨rfl,fun Q k=>by
  obtain ⟨hm,hl⟩:=Bool.and_eq_true_iff.mp q
  rw[kk bR] at FD
  refine FD.iy fun p a4=>?_
  obtain ⟨aD,k',ao,aC,bb,ne⟩:=R.rep.at_ a4 (Av bU)
  obtain ⟨f1,f2,_⟩:=pk w.params aw
  obtain ⟨aK,bw,da,iE,jD,_⟩:=n5 f1
  have aR:=rk (C:=y.1) ao aC
  refine set_plain R.gu aR jD (OY (s:={s with toks:=s.toks+1}) R.gu aR iE (OX (f2 _ hm)) da bb.noRef (OZ hl bb.len) ?_)
  have cL:=putName_dict nm (PyData.keyHash w.params nm) (.str nm (s.toks+1)) x aD k'
  have gH:=(congrArg some cL)▸AG (f:=Obj.putName nm (PyData.keyHash w.params nm) (.str nm (s.toks+1)) x) aC (by rw[cL];rfl)
  exact k _ _ (.of_same (fun b nb=>n6 nb) gH) (R.AE a4 (Av bU) rfl (fun b nb=>n6 fun q=>nb (by rw[q];exact .tail _ (.head _))) ⟨putL nm (PyData.keyHash w.params nm) (.str nm (s.toks+1)) x aD,putN nm aD k',(n6 ne).trans ao,gH,bb.put bN,ne⟩)⟩
theorem O1 {k:Int}{n j:Nat}(h:idx k n=some j):(0≤k∧j=k.toNat)∨(k<0∧-(n:Int)≤k∧j=(k+n).toNat) :=
 (ae.c (fun q=>ae.bO (.inl ⟨of_decide_eq_true q,rfl⟩)) fun q=>ae.de fun bf=>ae.bO (.inr ⟨Int.not_le.mp (of_decide_eq_false q),of_decide_eq_true bf,rfl⟩):ae (fun j=>(0≤k∧j=k.toNat)∨(k<0∧-(n:Int)≤k∧j=(k+n).toNat)) (idx k n)) j h
theorem wQ {k:Int}{n j:Nat}(h:idx k n=some j) (dZ:j<n):(0≤k∧k<n∧j=k.toNat)∨(k<0∧-(n:Int)≤k∧j=(k+n).toNat) :=
 (O1 h).imp (fun ⟨a,b⟩=>⟨a,(Int.toNat_lt a).mp (b▸dZ),b⟩) id
theorem FE {k:Int}{n j:Nat}(h:idx k n=some j) (dZ:j<n):seqIndex? k n=some j:=by
 show (if (decide (0≤(if k<0 then k+(n:Int) else k))&&decide ((if k<0 then k+(n:Int) else k)<(n:Int)))=true then some (if k<0 then k+(n:Int) else k).toNat else none)=_
 rcases wQ h dZ with ⟨a,b,e⟩ |⟨a,b,e⟩
 ·rw[if_neg (Int.not_lt.mpr a),decide_eq_true a,decide_eq_true b,e];rfl
 ·rw[if_pos a,decide_eq_true (by omega:0≤k+(n:Int)),decide_eq_true (by omega:k+(n:Int)<n),e];rfl
theorem AH {e:PySem.Expr}(h:nP e=false) (o i:Value):subscripted e false o i=operate [o,i] (getItem o i):=by
 cases e <;> first |rfl |exact eD h
theorem listAt {h:Heap}{a:Addr}{xs:List Value}{n:Nat}(e:h.get? a=some (fE xs n)):h.IsList a xs.toArray:=⟨_,e,rfl,n,rfl⟩
theorem O2 {a:Addr}{xs:List Value}{m j:Nat}{i:Int}{t:Tok}{y:Value}{Q:Value→Shared→Prop}(e:s.heap.get? a=some (fE xs m)) (bZ:xs.length≤aL) (aM:idx i xs.length=some j) (bU:xs[j]?=some y) (k:Q y s) :
 wpAny (aU w) A (getItem (.ref a) (.int i t)) Q bo s:=by
 have dZ:=(List.getElem?_eq_some_iff.mp bU).1
 rcases wQ aM dZ with ⟨aS,bf,dU⟩ |⟨aS,bf,dU⟩
 ·subst dU
  exact wpAny_getItem_list (listAt e) aS (by unfold aL at bZ;omega) (by simpa using bU) k
 ·subst dU
  exact wpAny_getItem_list_neg (listAt e) aS (by simpa using bf) (by unfold aL at bZ;omega) (by simpa using bU) k
end
end
section
variable {w:World}{A:Around}{c:br}{st st' : ax}{s:Shared}{ls:List (Str×V)}{P:Params}{im:cq}{ρ:c5}
theorem fp.at {fs:List (Str×V)}{aD:List (Str×Value)}{k:Str}(h:fp P im ρ fs aD):∀{v},look k fs=some v→∃ x,valueAt aD k=some x∧aF P im ρ v x:=by
 induction h with
 |nil=>exact fun e=>ba e
 | @cons k' u y fs aD a b aI =>
  intro v e
  unfold valueAt
  rw[List.find?_cons]
  cases q:seq k k' with
  |true=>rw[h5 q] at e;rw[←cc e,d9.mp q,decide_eq_true (Eq.refl k')];exact ⟨y,rfl,a⟩
  |false=>rw[h6 q] at e;rw[show decide (k'=k)=false from decide_eq_false fun z=>by rw[z,lV] at q;exact eD q];exact aI e
theorem fp.set {fs:List (Str×V)}{aD:List (Str×Value)}{k:Str}{v:V}{x:Value}(h:fp P im ρ fs aD) (r:aF P im ρ v x):(aD.map (·.1)).Nodup→fp P im ρ (d8 k v fs) (stored aD k x):=by
 induction h with
 |nil=>exact fun _=>.cons r .nil
 | @cons k' u y fs aD a b aI =>
  intro ef
  rw[List.map_cons,List.nodup_cons] at ef
  have aI:=aI ef.2
  unfold stored at aI ⊢
  rw[List.any_cons,List.map_cons]
  cases q:seq k k' with
  |true =>
   rw[Ap q,d9.mp q]
   rw[decide_eq_true (Eq.refl k'),Bool.true_or,if_pos rfl,if_pos rfl]
   refine .cons r ?_
   rw[(List.map_congr_left fun fq m=>if_neg fun z=>ef.1 (List.mem_map.mpr ⟨fq,m,z⟩):List.map (fun fq:Str×Value=>if fq.1=k' then (fq.1,x) else fq) aD=aD.map id),List.map_id]
   exact b
  |false =>
   have n : ¬ k'=k:=fun z=>by rw[z,lV] at q;exact eD q
   rw[Aq q,decide_eq_false n,Bool.false_or,if_neg n]
   cases z:aD.any (fun fq=>decide (fq.1=k)) with
   |true=>rw[z,if_pos rfl] at aI;rw[if_pos rfl];exact .cons a aI
   |false=>rw[z,if_neg Bool.false_ne_true] at aI;rw[if_neg Bool.false_ne_true];exact .cons a aI
theorem fp.length {fs:List (Str×V)}{aD:List (Str×Value)}(h:fp P im ρ fs aD):fs.length=aD.length:=fp.rec (motive:=fun fs aD _=>fs.length=aD.length) rfl (fun _ _ aI=>congrArg (· + 1) aI) h
theorem cT.lit {fs:List (Str×V)}{aD:List DictEntry}(h:cT P im ρ fs aD):KeysLit P aD:=cT.ind (Q:=fun _ aD=>KeysLit P aD) trivial (fun _ _ aI=>⟨⟨_,_,rfl,rfl⟩,aI⟩) h
theorem cT.at {fs:List (Str×V)}{aD:List DictEntry}{k:Str}(h:cT P im ρ fs aD):∀{v},look k fs=some v→∃ x,findBy Value.isStrOf aD.toArray k=some x∧aF P im ρ v x:=by
 unfold findBy
 rw[List.find?_toArray]
 exact cT.ind (Q:=fun fs aD=>∀{v},look k fs=some v→∃ x,Option.map (fun e=>e.val) (aD.find? fun e=>Value.isStrOf k e.key)=some x∧aF P im ρ v x) (fun e=>ba e) (fun {k' t u y fs aD} a b aI v e=>by
  rw[List.find?_cons,show Value.isStrOf k (.str k' t)=seq k k' from (isStr_of k (.str k' t)).symm.trans (tV k' t k)]
  cases q:seq k k' with
  |true=>rw[h5 q] at e;rw[←cc e];exact ⟨y,rfl,a⟩
  |false=>rw[h6 q] at e;exact aI e) h
theorem O3 {a:Addr}{xs:List Value}{m j:Nat}{i:Int}{t:Tok}{y:Value}{i1 e:PySem.Expr}{Q:Value→Shared→Prop}(ak:nP e=false) (ao:s.heap.get? a=some (fE xs m)) (bZ:xs.length≤aL) (aM:idx i xs.length=some j) (bU:xs[j]?=some y) (k:Q y s) :
 wpAny (aU w) A (subscriptTail i1 e (.ref a) (.int i t)) Q bo s :=
 tail_any (listAt ao).typeIs slot_list_getitem.lookup (O2 ao bZ aM bU k) (AH ak _ _)
theorem FF {v:V}{x:Value}(R:aH w c ls st.H s.heap) (bN:aF w.params c.im c.ρ v x):ae (fun vs=>∃ a xs k,x=.ref a∧s.heap.get? a=some (fE xs k)∧aW w.params c.im c.ρ vs xs∧xs.length≤aL) (kg v st) :=
 ae.o (fun vs h=>ae.bO (by rw[wK h] at bN;exact bN.tA fun a xs k e bb z=>⟨a,xs,k,rfl,R.rep.cM e,bb,z⟩)) fun _=>ae.b fun r h vs aV=>by
  rw[kk h] at bN
  refine bN.iy fun p a4=>?_
  obtain ⟨xs,k,e,bb,z⟩:=R.rep.at_ a4 (kj aV)
  exact ⟨p.1,xs,k,rfl,e,bb,z⟩
theorem O4 {v:V}{x:Value}{sk:Str}(R:aH w c ls st.H s.heap) (bN:aF w.params c.im c.ρ v x):ae (fun fs=>∀{u},look sk fs=some u→∃ a f y,x=.ref a∧s.heap.MapOf (strKind bz w) a f∧f sk=some y∧aF w.params c.im c.ρ u y) (EB v st) :=
 ae.o (fun fs h=>ae.bO fun {u} dK=>by
  rw[Og h] at bN
  refine bN.NR fun aD a n ao bb=>?_
  obtain ⟨y,bU,t6⟩:=bb.at dK
  exact ⟨a,_,y,rfl,mapOf_K (prog:=bz) (w:=w) (K:=[(a,dictOf aD n)]) (Nk (R.rep.cM ao) Nl) (by rw[List.lookup_cons,beq_self_eq_true]) bb.lit,bU,t6⟩)
  fun _=>ae.b fun r h fs hf {u} dK=>by
   rw[kk h] at bN
   refine bN.iy fun p a4=>?_
   obtain ⟨lO,ao,bb,_⟩:=R.rep.at_ a4 (Aw hf)
   obtain ⟨y,bU,t6⟩:=bb.at dK
   exact ⟨_,_,y,rfl,ao.mapOf,bU,t6⟩
noncomputable def O5 (w:World) (A:Around) (c:br) (s:Shared) (m:Sem Value) (r:V):Prop:=∀ Q:Value→Shared→Prop,(∀ az y,aF w.params c.im c.ρ r y→Q y (a8 s s.heap az))→wpAny (aU w) A m Q bo s
theorem O6 {i:Int}{n j:Nat}(h:idx i n=some j) (dZ:j<n) (z:n≤aL) : -(2 ^ 63:Int)≤i∧i<2 ^ 63:=by
 unfold aL at z
 rcases wQ h dZ with ⟨a,b,_⟩ |⟨a,b,_⟩ <;> omega
theorem O7 {v fq:V}{fS cx:Value}{i1 e:PySem.Expr}(ak:nP e=false) (R:aH w c ls st.H s.heap) (h8:aF w.params c.im c.ρ v fS) (hM:aF w.params c.im c.ρ fq cx):ae (O5 w A c s (subscriptTail i1 e fS cx)) (jx v fq st):=by
 refine ae.o (fun i aM=>ae.b fun vs aV=>ae.b fun j dZ u dK Q k=>?_) fun _=>ae.b fun sk ar=>ae.b fun fs hf u dK Q k=>?_
 ·rw[h7 aM] at hM
  refine hM.e2 fun t=>?_
  have key:ae (fun vs=>vs[j]?=some u→idx i vs.length=some j→wpAny (aU w) A (subscriptTail i1 e fS (.int i t)) Q bo s) (q3 v st):=by
   refine ae.o (fun us bT=>ae.bO fun dK dZ=>?_) fun _ us bT dK dZ=>?_
   ·rw[n4 bT] at h8
    refine h8.f5 fun a xs n ao bb z=>?_
    obtain ⟨y,bU,bN⟩:=bb.get dK
    rw[bb.length] at dZ
    have hl:=(List.getElem?_eq_some_iff.mp bU).1
    have q:=O6 dZ hl z
    exact item_tupleT (t:=a) (l:=xs) ⟨_,R.rep.cM ao,rfl,n,rfl⟩ q.1 q.2 (FE dZ hl) bU (k s.toks _ bN) (AH ak _ _)
   ·obtain ⟨a,xs,n,rfl,ao,bb,z⟩:=FF R h8 _ bT
    obtain ⟨y,bU,bN⟩:=bb.get dK
    rw[bb.length] at dZ
    exact O3 ak ao z dZ bU (k s.toks _ bN)
  exact key _ aV dK dZ
 ·rw[rh ar] at hM
  refine hM.mO fun t _=>?_
  obtain ⟨a,f,y,rfl,hm,bU,t6⟩:=O4 R h8 _ hf dK
  exact tail_any hm.typeIs slot_dict_getitem.lookup (wpAny_getItem_of (strKind_is bz w _ _) hm bU (k _ _ t6)) (AH ak _ _)
theorem O8 {v fq r:V}{fS cx:Value}{i1 e:PySem.Expr}{Q:Value→Shared→Prop}(h:jx v fq st=some r) (ak:nP e=false) (R:aH w c ls st.H s.heap) (h8:aF w.params c.im c.ρ v fS) (hM:aF w.params c.im c.ρ fq cx)
 (k:∀ az y,aF w.params c.im c.ρ r y→Q y (a8 s s.heap az)):wpAny (aU w) A (subscriptTail i1 e fS cx) Q bo s:=O7 ak R h8 hM _ h Q k
end
mutual
theorem wR:∀ a b:PyData,gs a b=PyData.eqv a b
 |.none,b=>by cases b <;> rfl
 |.bool a,b=>by
  cases b with
  |bool b=>cases a <;> cases b <;> rfl
  |_=>rfl
 |.int i,b=>by cases b <;> rfl
 |.str x,b=>by cases b <;> first |rfl |exact (rd x _).symm
 |.list xs,b=>by cases b <;> first |rfl |exact AI xs _
 |.tuple xs,b=>by cases b <;> first |rfl |exact AI xs _
 |.dict lO,b=>by cases b <;> rfl
theorem AI:∀ a b:List PyData,jy a b=PyData.eqvAll a b
 |[],b=>by cases b <;> rfl
 |x::xs,[]=>rfl
 |x::xs,y::ys=>by show (gs x y&&jy xs ys)=(PyData.eqv x y&&PyData.eqvAll xs ys);rw[wR x y,AI xs ys]
end
theorem rm {b:Bool}(h:(!b)=true):b=false:=by cases b;rfl;exact dv h
theorem O9 {op:UnaryOp}(h:ET op=true):op=.Not:=by cases op <;> first |rfl |exact dv h
theorem Pa {op:UnaryOp}(h:EU op=true):op=.USub:=by cases op <;> first |rfl |exact dv h
section
variable {w:World}{A:Around}{c:br}{st st' : ax}{s:Shared}{ls:List (Str×V)}{im:cq}{ρ:c5}{H:List aj}{h:Heap}
noncomputable def wU (h:Heap) (n:Nat) (x:Value) (d:PyData):Prop:=∃ as,Reads h x d as∧d.canLay0=true∧d.depth≤n
noncomputable def FG (h:Heap) (n:Nat) (xs:List Value) (ds:List PyData):Prop:=∃ as,ReadsAll h xs ds as∧PyData.canLayAll0 ds=true∧PyData.depthAll ds≤n
theorem AJ {f:V→Option PyData}{n:Nat}(aI:∀ v x,aF w.params im ρ v x→ae (wU h n x) (f v)) {vs:List V}{xs:List Value}(r:aW w.params im ρ vs xs):ae (FG h n xs) (kh f vs) :=
 aW.ind (Q:=fun vs xs=>ae (FG h n xs) (kh f vs)) (ae.bO ⟨[],.nil,rfl,Nat.zero_le _⟩) (fun a _ Pb=>ae.b fun d hd=>ae.m fun ds rn=>by
  obtain ⟨as,dc,aK,dj⟩:=aI _ _ a _ hd
  obtain ⟨bs,cH,bw,eu⟩:=Pb _ rn
  exact ⟨as++bs,.cons dc cH,Bool.and_eq_true_iff.mpr ⟨aK,bw⟩,Nat.max_le.mpr ⟨dj,eu⟩⟩) r
theorem Pc (R:Rep w im ρ H h) {f:V→Option PyData}{n:Nat}(aI:∀ v x,aF w.params im ρ v x→ae (wU h n x) (f v)) (v:V) (x:Value) (r:aF w.params im ρ v x):ae (wU h (n+1) x) (EC f H v):=by
 cases v with
 |none=>exact r.tx (ae.bO ⟨[],.none,rfl,Nat.zero_le _⟩)
 |bool b=>exact r.qY (ae.bO ⟨[],.bool _,rfl,Nat.zero_le _⟩)
 |int i=>exact r.e2 fun t=>ae.bO ⟨[],.int _ _,rfl,Nat.zero_le _⟩
 |str s=>exact r.mO fun t q=>ae.bO ⟨[],.str _ _,q,Nat.zero_le _⟩
 |tup vs=>exact r.f5 fun a xs k ao bb z=>ae.m fun ds hd=>by obtain ⟨as,dc,aK,dj⟩:=AJ aI bb _ hd;exact ⟨as,.tuple (R.cM ao) rfl rfl dc,aK,Nat.succ_le_succ dj⟩
 |aO vs=>exact r.tA fun a xs k ao bb z=>ae.m fun ds hd=>by obtain ⟨as,dc,aK,dj⟩:=AJ aI bb _ hd;exact ⟨a::as,.list (R.cM ao) rfl rfl dc,aK,Nat.succ_le_succ dj⟩
 |ref i =>
  refine r.iy fun p a4=>ae.b fun vs aM=>ae.m fun ds hd=>?_
  obtain ⟨xs,k,ao,bb,z⟩:=R.at_ a4 (kj aM)
  obtain ⟨as,dc,aK,dj⟩:=AJ aI bb _ hd
  exact ⟨p.1::as,.list ao rfl rfl dc,aK,Nat.succ_le_succ dj⟩
 |_=>exact ae.no
theorem FH (R:Rep w im ρ H h) (n:Nat):∀ v x,aF w.params im ρ v x→ae (wU h n x) (toPy H n v):=by
 induction n with
 |zero=>exact fun _ _ _=>ae.no
 |succ n aI=>exact Pc R aI
theorem wV {a:V}{x:Value}(bC:aF w.params im ρ a x):ae (fun d=>Reads h x d []∧d.canLay0=true∧d.depth=0) (tL a):=by
 cases a with
 |none=>exact bC.tx (ae.bO ⟨.none,rfl,rfl⟩)
 |bool b=>exact bC.qY (ae.bO ⟨.bool _,rfl,rfl⟩)
 |int i=>exact bC.e2 fun t=>ae.bO ⟨.int _ _,rfl,rfl⟩
 |str s=>exact bC.mO fun t q=>ae.bO ⟨.str _ _,q,rfl⟩
 |_=>exact ae.no
noncomputable def FI (h:Heap) (x y:Value) (q:Bool):Prop:=∃ d e as bs,Reads h x d as∧Reads h y e bs∧SeqAt.shaped d=true∧SeqAt.shaped e=true∧PyData.eqv d e=q
theorem wW {d:PyData}{k:Nat}(c:d.canLay0=true) (z:d.depth≤k) (ar:k≤6):SeqAt.shaped d=true:=by
 simp only[SeqAt.shaped,c,Bool.true_and,decide_eq_true_eq];omega
theorem FJ {a b:V}{x y:Value}(R:Rep w im ρ H h) (bC:aF w.params im ρ a x) (dt:aF w.params im ρ b y):ae (FI h x y) (wy a b H):=by
 refine ae.o (fun q dk=>ae.bO ?_) fun _=>ae.b fun d hd=>ae.m fun e he=>?_
 ·exact (ae.b fun d hd=>ae.m fun e he=>by
   obtain ⟨dc,aK,dj⟩:=wV (h:=h) bC _ hd
   obtain ⟨cH,bw,eu⟩:=wV (h:=h) dt _ he
   exact ⟨d,e,_,_,dc,cH,wW aK (Nat.le_of_eq dj) (Nat.zero_le _),wW bw (Nat.le_of_eq eu) (Nat.zero_le _),(wR _ _).symm⟩:ae (FI h x y) (EG a b)) _ dk
 ·obtain ⟨as,dc,aK,dj⟩:=FH R 6 _ _ bC _ hd
  obtain ⟨bs,cH,bw,eu⟩:=FH R 6 _ _ dt _ he
  exact ⟨d,e,as,bs,dc,cH,wW aK dj (Nat.le_refl _),wW bw eu (Nat.le_refl _),(wR _ _).symm⟩
noncomputable def FK (h:Heap) (d:PyData) (xs:List Value) (q:Bool):Prop:=∃ ds as,ReadsAll h xs ds as∧PyData.canLayAll0 ds=true∧ds.any (fun y=>PyData.eqv y d)=q
theorem FL {d:PyData}{vs:List V}{xs:List Value}(r:aW w.params im ρ vs xs):ae (FK h d xs) (memD d vs) :=
 aW.ind (Q:=fun vs xs=>ae (FK h d xs) (memD d vs)) ae.no (fun {v x vs xs} a b aI=>ae.b fun e he=>by
  obtain ⟨dc,aK,dj⟩:=wV (h:=h) a _ he
  rw[wR]
  refine ae.c (fun q=>ae.bO ?_) fun _=>ae.m fun y bU=>?_
  ·rw[List.isEmpty_iff.mp q] at b
   exact b.tB ⟨[e],_,.cons dc .nil,Bool.and_eq_true_iff.mpr ⟨aK,rfl⟩,Bool.or_false _⟩
  ·obtain ⟨ds,as,i2,da,gH⟩:=aI _ bU
   exact ⟨e::ds,_,.cons dc i2,Bool.and_eq_true_iff.mpr ⟨aK,da⟩,by rw[List.any_cons,gH]⟩) r
theorem t7 {op:CmpOp}{a b:V}{q:Bool}(h:dY op a b st=some (q,st')):st'=st:=lM h fun _ _ e=>(qW e).2.symm
theorem Pd {f:Int→Int→Bool}{a b:V}{q:Bool}(h:q4 f a b=some q):∃ i j,a=.int i∧b=.int j∧f i j=q:=jt h fun i aM h=>lM h fun j dZ e=>⟨i,j,h7 aM,h7 dZ,e⟩
theorem FN {P:Params}{a:V}{x:Value}{q:Bool}(h:wz a=some q) (bC:aF P im ρ a x):(x == Value.none)=q:=by
 have key:nR a=false→(x == Value.none)=isNone a:=aF.casesOn (motive_1:=fun v x _=>nR v=false→(x == Value.none)=isNone v) bC (fun _=>rfl) (fun _ _=>rfl) (fun _ _ _=>rfl) (fun _ _ _ _=>rfl) (fun _ _ _ _=>rfl) (fun _ _ _ _=>rfl) (fun _ _ _ _=>rfl) (fun _ _=>rfl) (fun _ h=>eD h) (fun _ _ _=>rfl) (fun _ _=>rfl) (fun _ _ _=>rfl) (fun _ _=>rfl) (fun _ h=>eD h)
 exact (ae.cf fun z=>ae.bO (key z):ae (fun q=>(x == Value.none)=q) (wz a)) q h
theorem none_of {b:V}(h:isNone b=true):b=.none:=by cases b <;> first |rfl |exact dv h
theorem AK {α:Type}{b:Bool}{x:Option α}{y:α}(h:(bif b then x else none)=some y):b=true∧x=some y:=by cases b;exact ba h;exact ⟨rfl,h⟩
noncomputable def t8 (w:World) (A:Around) (s:Shared) (op:CmpOp) (x y:Value) (q:Bool):Prop:=∀ Q:Value→Shared→Prop,(∀ az,Q (.bool q) (a8 s s.heap az))→wpAny (aU w) A (compareOp op x y) Q bo s
theorem wX {op:CmpOp}{f:Int→Int→Bool}{a b:V}{x y:Value}{q:Bool}(h:q4 f a b=some q) (bC:aF w.params im ρ a x) (dt:aF w.params im ρ b y) (k:∀ i j t u,t8 w A s op (.int i t) (.int j u) (f i j)):t8 w A s op x y q:=by
 obtain ⟨i,j,rfl,rfl,rfl⟩:=Pd h
 exact bC.e2 fun t=>dt.e2 fun u=>k i j t u
theorem Pe {a b:V}{x y:Value}(dK:A.units+64<cLine) (R:Rep w im ρ H s.heap) (bC:aF w.params im ρ a x) (dt:aF w.params im ρ b y):ae (t8 w A s .In x y) ((Ah b).bind fun vs=>EH a vs) :=
 ae.b fun vs aV=>ae.b fun d hd q dk=>by
  obtain ⟨m1,iE,n7⟩:=wV (h:=s.heap) bC _ hd
  have z:A.units+d.depth<cLine:=by rw[n7];omega
  exact (ae.o (fun us bT=>ae.bO fun dk=>by
   rw[n4 bT] at dt
   refine dt.f5 fun a' xs wY ao bb _ Q k=>?_
   obtain ⟨ds,as,i2,da,rfl⟩:=FL bb _ dk
   exact SeqAt.in_tuple_reads (.tuple (R.cM ao) rfl rfl i2) m1 da iE (by rw[n7];simp;omega) (k s.toks)) fun _ us bT dk=>by
   rw[wK bT] at dt
   refine dt.tA fun a' xs wY ao bb _ Q k=>?_
   obtain ⟨ds,as,i2,da,rfl⟩:=FL bb _ dk
   exact SeqAt.in_list_reads (.list (R.cM ao) rfl rfl i2) m1 da iE (by rw[n7];simp;omega) (k s.toks):ae (fun vs=>memD d vs=some q→t8 w A s .In x y q) (Ah b)) vs aV dk
theorem Pf {op:CmpOp}{a b:V}{x y:Value}{q:Bool}(dK:A.units+64<cLine) (R:Rep w im ρ H s.heap) (h:EI op a b H=some q) (bC:aF w.params im ρ a x) (dt:aF w.params im ρ b y):t8 w A s op x y q:=by
 cases op with
 |Eq=>obtain ⟨d,e,as,bs,dc,cH,aK,bw,rfl⟩:=FJ R bC dt _ h;exact fun Q k=>eq_dataH dc cH aK bw dK (k s.toks)
 |NotEq=>exact lM h fun r h' e=>by obtain ⟨d,e,as,bs,dc,cH,aK,bw,rfl⟩:=FJ R bC dt _ h';rw[←e];exact fun Q k=>ne_dataH dc cH aK bw dK (k s.toks)
 |Lt=>exact wX h bC dt fun i j t u Q k=>lt_int (k s.toks)
 |LtE=>exact wX h bC dt fun i j t u Q k=>le_int (k s.toks)
 |Gt=>exact wX h bC dt fun i j t u Q k=>gt_int (k s.toks)
 |GtE=>exact wX h bC dt fun i j t u Q k=>ge_int (k s.toks)
 |Is =>
  obtain ⟨z,h⟩:=AK h
  rw[none_of z] at dt
  exact dt.tx fun Q k=>is_none (by rw[FN h bC];exact k s.toks)
 |IsNot =>
  obtain ⟨z,h⟩:=AK h
  rw[none_of z] at dt
  exact dt.tx (lM h fun r h' e=>by rw[←e];exact fun Q k=>isNot_none (by rw[FN h' bC];exact k s.toks))
 |In=>exact Pe dK R bC dt q h
 |NotIn=>exact ba h
theorem wZ {op:CmpOp}{a b:V}{x y:Value}{q:Bool}{n:Nat}{Q:Value→Shared→Prop}(h:dY op a b st=some (q,st')) (aE:dB A n) (R:aH w c ls st.H s.heap) (bC:aF w.params c.im c.ρ a x) (dt:aF w.params c.im c.ρ b y)
 (k:∀ az,Q (.bool q) (a8 s s.heap az)):wpAny (aU w) A (compareOp op x y) Q bo s :=
 lM h fun r h' e=>Pf (by have:=aE.u;omega) R.rep ((qW e).1▸h') bC dt Q k
end
section
variable {w:World}{A:Around}{c:br}{st st' : ax}{s:Shared}{ls:List (Str×V)}{n:Nat}
theorem Pg {x y:Str}(h1:PyData.strOk x=true) (af:PyData.strOk y=true):PyData.strOk (x++y)=true:=by
 unfold PyData.strOk at *
 show (x.cps++y.cps).all _=true
 rw[Array.all_append,h1,af];rfl
theorem Ph {a b:Int}(h0:0<b) (h1:b<1000):Builtin.divisionGoesByPylong a b=false:=by
 unfold Builtin.divisionGoesByPylong
 have:(if (b == 0)=true then 0 else b.natAbs.log2 / 30+1)≤300:=by
  split
  ·exact Nat.zero_le _
  ·have af:b.natAbs<2 ^ 10:=by omega
   have:b.natAbs.log2<10:=by
    by_cases z:b.natAbs=0
    ·rw[z];decide
    ·exact (Nat.log2_lt z).mpr af
   omega
 simp only[Bool.and_eq_false_iff]
 left
 exact decide_eq_false (by omega)
theorem Pj {a b:Int}(h:a.natAbs<1000):IntMulOk a b:=by
 unfold IntMulOk
 have:decide (Builtin.Int.intBits a > shortFactorBits)=false:=decide_eq_false (by
  unfold Builtin.Int.intBits shortFactorBits
  by_cases z:a.natAbs=0
  ·simp_all
  ·have:a.natAbs.log2<10:=(Nat.log2_lt z).mpr (by omega)
   first |omega |(split <;> omega))
 rw[this];simp
theorem FO (R:aH w c ls st.H s.heap) {vs:List V}{xs:List Value}(bN:aW w.params c.im c.ρ vs xs) (bZ:xs.length≤aL) :
 ∃ c',b3 s.heap c (s.heap.push (hG xs 0)) c'∧aH w c' ls st.H (s.heap.push (hG xs 0))∧aF w.params c'.im c'.ρ (.tup vs) (.ref s.heap.objs.size):=by
 obtain ⟨eE,l⟩:=R.tE (hG xs 0) rfl
 exact ⟨_,⟨l,.push _⟩,eE,.tup mR (bN.le l) bZ⟩
noncomputable def kn (w:World) (c:br) (ls:List (Str×V)) (s:Shared) (r:V) (st' : ax) (Q:Value→Shared→Prop):Prop :=
 ∀ c' h' az z,b3 s.heap c h' c'→aH w c' ls st'.H h'→aF w.params c'.im c'.ρ r z→Q z (a8 s h' az)
noncomputable def t9 (w:World) (A:Around) (c:br) (ls:List (Str×V)) (s:Shared) (m:Sem Value) (r:V) (st' : ax):Prop:=∀ Q:Value→Shared→Prop,kn w c ls s r st' Q→wpAny (aU w) A m Q bo s
theorem kn.h9 {r:V}{bw:br}{af:Heap}{cU:Tok}{Q:Value→Shared→Prop}(k:kn w c ls s r st' Q) (n:b3 s.heap c af bw):kn w bw ls (a8 s af cU) r st' Q:=fun da aB g0 z c4 P3 o1=>k da aB g0 z (n.trans c4) P3 o1
section
variable {a b:Addr}{xs ys:List Value}{us ws:List V}{n m:Nat}
theorem Pk (R:aH w c ls st.H s.heap) (ao:c.im a=some (hG xs n)) (bb:aW w.params c.im c.ρ us xs) (z:xs.length≤aL) (aC:c.im b=some (hG ys m)) (aD:aW w.params c.im c.ρ ws ys) (k4:ys.length≤aL) (q:us.length+ws.length<1000) :
 t9 w A c ls s (binaryOp .Add (.ref a) (.ref b)) (.tup (us++ws)) st:=fun Q k=>by
 have l1:=bb.length
 have l2:=aD.length
 have g4:IsTup s.heap a xs.toArray:=⟨_,R.rep.cM ao,rfl,n,rfl⟩
 have m2:IsTup s.heap b ys.toArray:=⟨_,R.rep.cM aC,rfl,m,rfl⟩
 obtain ⟨AL,gY,bc⟩:=R.ns
 refine add_tuples (OW bc) (OV s.heap c.L) g4 m2 (fun aV=>?_) (fun aV hw=>?_) (fun aV hw h' FP N=>?_) (by rw[sizeLine_eq];omega)
 ·subst aV
  have:us=[]:=List.length_eq_zero_iff.mp l1
  subst this
  exact k c s.heap s.toks _ .refl R (.tup aC aD k4)
 ·subst hw
  have:ws=[]:=List.length_eq_zero_iff.mp l2
  subst this
  exact k c s.heap s.toks _ .refl R (by rw[List.append_nil];exact .tup ao bb z)
 ·have ar:∀ b aa,b≠c.L→s.heap.get? b=some aa→h'.get? b=some aa:=fun b aa nb e=>(N (b,aa) (.tail _ (AF.mpr ⟨e,nb⟩))).1
  have fm:=(N _ (.head _)).1
  have eE:=R.frame gY FP.ns ar
  have rl:s.heap.objs.size≠c.L:=(N _ (.head _)).2.1
  have no : ¬ Own c.ρ st.H s.heap.objs.size:=fun q=>Nat.lt_irrefl _ (R.rep.lt q)
  have l:=eE.Fz fm (Heap.iz (Nat.le_refl s.heap.objs.size))
  refine k _ h' s.toks _ ⟨l,fun b aa e=>?_⟩ (eE.Fy fm no rl) (.tup (n:=0) mR ((bb.append aD).le l) (by rw[List.length_append];unfold aL;omega))
  by_cases q:b=c.L
  ·obtain ⟨o',_,_,c9,_⟩:=FP.ns
   exact ⟨o',q▸c9⟩
  ·exact ⟨aa,ar b aa q e⟩
end
noncomputable def AM (w:World) (op:Operator) (a b:V) (st:ax) (r:V×ax):Prop:=(r.2.aa→st.aa)∧(r.2.aa→∀{A c ls s x y},aH w c ls st.H s.heap→aF w.params c.im c.ρ a x→aF w.params c.im c.ρ b y→t9 w A c ls s (binaryOp op x y) r.1 r.2)
theorem Pl {s t:Str}(q:Nat.blt (s.cps.toList.length+t.cps.toList.length) 1000=true):s.length+t.length≤sizeLine:=Nat.le_trans (Nat.le_of_lt (Nat.blt_eq.mp q:s.length+t.length<1000)) (by rw[sizeLine_eq];decide)
theorem Pm {op:Operator}{i j:Int}:ae (AM w op (.int i) (.int j) st) (EK op i j st):=by
 cases op with
 |Sub=>exact ae.bO ⟨fun o=>o,fun _ {A c ls s x y} R bC dt=>bC.e2 fun t=>dt.e2 fun u Q k=>sub_int (k c s.heap _ _ .refl R (.int _ _))⟩
 |Mult=>exact ae.de fun q=>ae.bO ⟨fun o=>o,fun _ {A c ls s x y} R bC dt=>bC.e2 fun t=>dt.e2 fun u Q k=>mul_int (k c s.heap _ _ .refl R (.int _ _)) (Pj (Nat.blt_eq.mp q))⟩
 |Mod=>exact ae.bO ⟨fun o=>o.1,fun aa {A c ls s x y} R bC dt=>bC.e2 fun t=>dt.e2 fun u Q k=>mod_int' (fun e=>Int.lt_irrefl 0 (e▸aa.2)) (k c s.heap _ _ .refl R (.int _ _))⟩
 |FloorDiv=>exact ae.bO ⟨fun o=>o.1,fun aa {A c ls s x y} R bC dt=>bC.e2 fun t=>dt.e2 fun u Q k=>floordiv_int (fun e=>Int.lt_irrefl 0 (e▸aa.2.1)) (k c s.heap _ _ .refl R (.int _ _)) (.inl (Ph aa.2.1 aa.2.2))⟩
 |_=>exact ae.no
theorem Pn {a b:V}:ae (AM w .Add a b st) (EJ a b st) :=
 ae.o (fun i aM=>ae.m fun j dZ=>⟨fun o=>o,fun _ {A c ls s x y} R bC dt=>by
  rw[h7 aM] at bC
  rw[h7 dZ] at dt
  exact bC.e2 fun t=>dt.e2 fun u Q k=>add_int (k c s.heap _ _ .refl R (.int _ _))⟩)
  fun _=>ae.o (fun i aM=>ae.b fun j dZ=>ae.de fun q=>ae.bO ⟨fun o=>o,fun _ {A c ls s x y} R bC dt=>by
   rw[rh aM] at bC
   rw[rh dZ] at dt
   exact bC.mO fun t h1=>dt.mO fun u af Q k=>add_str (fun AN az=>k c s.heap _ _ .refl R (.str _ _ (Pg h1 af))) (Pl q)⟩)
  fun _=>ae.b fun i aM=>ae.b fun j dZ=>ae.de fun q=>ae.bO ⟨fun o=>o,fun _ {A c ls s x y} R bC dt=>by
   rw[n4 aM] at bC
   rw[n4 dZ] at dt
   exact bC.f5 fun _ _ _ ao bb z=>dt.f5 fun _ _ _ aC aD k4=>Pk R ao bb z aC aD k4 (Nat.blt_eq.mp q)⟩
theorem Po {op:Operator}(h:isAdd op=true):op=.Add:=by cases op <;> first |rfl |exact dv h
theorem FQ {op:Operator}{a b:V}:ae (AM w op a b st) (q5 op a b st) :=
 ae.c (fun q=>by rw[Po q];exact Pn) fun _=>ae.b fun i aM=>ae.b fun j dZ=>by rw[h7 aM,h7 dZ];exact Pm
theorem FR {w:World}{op:Operator}{a b r:V}(h:q5 op a b st=some (r,st')):st'.aa→st.aa:=(FQ (w:=w) _ h).1
theorem Pp {op:Operator}{a b r:V}{x y:Value}{Q:Value→Shared→Prop}(h:q5 op a b st=some (r,st')) (aa:st'.aa) (R:aH w c ls st.H s.heap) (bC:aF w.params c.im c.ρ a x) (dt:aF w.params c.im c.ρ b y)
 (k:kn w c ls s r st' Q):wpAny (aU w) A (binaryOp op x y) Q bo s:=(FQ _ h).2 aa R bC dt Q k
end
section
variable {w:World}{A:Around}{c:br}{st st' : ax}{s:Shared}{ls:List (Str×V)}{n:Nat}
theorem Pq {a:Addr}{xs ys:List Value}{k:Nat}{f:Array Value→Array Value}(e:s.heap.get? a=some (fE xs k)) (hf:f xs.toArray=ys.toArray) :
 (s.heap.update a (Obj.mapSeq f)).get? a=some (fE ys (if ys.length=xs.length then k else k+1)):=by
 have z:=Nq (n:=k) f ys hf
 exact (AG e (by rw[z];rfl)).trans (congrArg some z)
theorem ua (R:aH w c ls st.H s.heap) {r:Nat}{p:Addr×Addr}{vs us:List V}{xs ys:List Value}{k:Nat}{f:Array Value→Array Value}(a4:c.ρ[r]?=some p) (aM:st.H[r]?=some (.list vs))
 (e:s.heap.get? p.1=some (fE xs k)) (hf:f xs.toArray=ys.toArray) (bN:aW w.params c.im c.ρ us ys) (bZ:ys.length≤aL) :
 b3 s.heap c (s.heap.update p.1 (Obj.mapSeq f)) c∧aH w c ls (st.H.set r (.list us)) (s.heap.update p.1 (Obj.mapSeq f)):=by
 have u:=Pq (s:=s) e hf
 exact ⟨.of_same (fun b nb=>n6 nb) u,R.AE a4 aM rfl (fun b nb=>n6 fun q=>nb (by rw[q];exact .head _)) ⟨ys,_,u,bN,bZ⟩⟩
theorem ub {v:V}{x:Value}{vs:List V}(h:kg v st=some vs) (R:aH w c ls st.H s.heap) (bN:aF w.params c.im c.ρ v x) :
 ∃ a xs k,x=.ref a∧s.heap.get? a=some (fE xs k)∧aW w.params c.im c.ρ vs xs∧xs.length≤aL:=FF R bN _ h
theorem n8 {k:Nat}(h:k≤aL):k≤sizeLine:=by rw[sizeLine_eq];unfold aL at h;omega
theorem newList (R:aH w c ls st.H s.heap) {h' : Heap}{vs:List V}{xs:List Value}{k:Nat}(bN:aW w.params c.im c.ρ vs xs) (bZ:xs.length≤aL) (ar:∀ b aa,s.heap.get? b=some aa→h'.get? b=some aa)
 {a:Addr}(b2:s.heap.objs.size≤a) (e:h'.get? a=some (fE xs k)):∃ c',b3 s.heap c h' c'∧aH w c' ls (st.H++[.list vs]) h'∧aF w.params c'.im c'.ρ (.ref st.H.length) (.ref a):=by
 have le:hq c.ρ (c.ρ++[(a,a)]):=fun i q e=>o8 e
 refine ⟨{c with ρ:=c.ρ++[(a,a)]},⟨⟨rfl,rfl,fun _ _ x=>x,le,fun _ _ x=>.inl x⟩,.of_keep ar⟩,R.push (p:=(a,a)) (o:=.list vs) ar (fun b m=>?_) ⟨xs,k,e,bN.mono (fun _ _ x=>x) le,bZ⟩,?_⟩
 ·cases m with |head=>exact b2 |tail _ q=>cases q
 ·refine aF.ref (p:=(a,a)) ?_
  show (c.ρ++[(a,a)])[st.H.length]?=_
  rw[←R.rep.len];simp
theorem sum_ints {P:Params}{im:cq}{ρ:c5}:∀{vs:List V}{xs:List Value}{t:Int},nU vs=some t→aW P im ρ vs xs→∃ ns,IntsAre xs ns∧ns.sum=t:=fun {vs}=>by
 induction vs with
 |nil=>exact fun e r=>by rw[←cc e];exact r.tB ⟨[],.nil,rfl⟩
 |cons v vs aI =>
  refine fun e r=>jt e fun i aM e=>lM e fun u dK e=>?_
  rw[←e]
  rw[h7 aM] at r
  exact r.qZ fun y xs a b=>a.e2 fun t=>let ⟨ns,h1,af⟩:=aI dK b;⟨i::ns,.cons _ _ h1,by rw[List.sum_cons,af]⟩
theorem FT {r:Nat}{vs:List V}{x:V}{l y:Value}{Q:Value→Shared→Prop}(R:aH w c ls st.H s.heap) (aM:st.H[r]?=some (.list vs)) (a:aF w.params c.im c.ρ (.ref r) l) (b:aF w.params c.im c.ρ x y) (aa:vs.length<aL)
 (k:∀ h',b3 s.heap c h' c→aH w c ls (st.H.set r (.list (vs++[x]))) h'→Q .none (a8 s h' s.toks)):wpAny (aU w) A (call (.builtin "list.append") [l,y]) Q bo s:=by
 refine a.iy fun p a4=>?_
 obtain ⟨ys,m,ao,bb,z⟩:=R.rep.at_ a4 aM
 obtain ⟨aG,eE⟩:=ua R a4 aM ao (f:=fun a=>a.push y) (ys:=ys++[y]) (by simp) (bb.append (.cons b .nil)) (by rw[List.length_append,←bb.length];simp;omega)
 exact call_meets F.slot_list_append ⟨_,ao,rfl⟩ F.entry_list_append (F.args_list_append_2 _ _) (PySem.list_append p.1 ys.toArray m _ (by rw[List.size_toArray];exact n8 z)) ⟨ao,k _ aG eE⟩
theorem aW.dropLast {P:Params}{im:cq}{ρ:c5}{vs:List V}{xs:List Value}(r:aW P im ρ vs xs):aW P im ρ vs.dropLast xs.dropLast:=by
 rw[←List.eraseIdx_length_sub_one,←List.eraseIdx_length_sub_one,r.length];exact r.eraseIdx _
theorem Pr {r:Nat}{vs:List V}{x:V}{l:Value}{Q:Value→Shared→Prop}(R:aH w c ls st.H s.heap) (aM:st.H[r]?=some (.list vs)) (a:aF w.params c.im c.ρ (.ref r) l) (bA:vs[vs.length - 1]?=some x)
 (k:∀ h' y,b3 s.heap c h' c→aH w c ls (st.H.set r (.list vs.dropLast)) h'→aF w.params c.im c.ρ x y→Q y (a8 s h' s.toks)):wpAny (aU w) A (call (.builtin "list.pop") [l]) Q bo s:=by
 refine a.iy fun p a4=>?_
 obtain ⟨ys,m,ao,bb,z⟩:=R.rep.at_ a4 aM
 obtain ⟨y,bU,bN⟩:=bb.get bA
 rw[bb.length] at bU
 have hl:ys.length - 1<ys.length:=(List.getElem?_eq_some_iff.mp bU).1
 obtain ⟨aG,eE⟩:=ua R a4 aM ao (f:=fun xs=>xs.eraseIdxIfInBounds (ys.toArray.size - 1)) (ys:=ys.dropLast) (by simp[Array.eraseIdxIfInBounds,hl,List.eraseIdx_length_sub_one]) bb.dropLast (by rw[List.length_dropLast];omega)
 exact call_meets F.slot_list_pop ⟨_,ao,rfl⟩ F.entry_list_pop (F.args_list_pop_1 _) (MeetsSeq.list_pop_last p.1 ys.toArray m y (by simpa using bU) (by rw[List.size_toArray];exact n8 z)) ⟨ao,k _ _ aG eE bN⟩
theorem Pt {r j:Nat}{vs:List V}{x:V}{i:Int}{t:Tok}{l:Value}{Q:Value→Shared→Prop}(R:aH w c ls st.H s.heap) (aM:st.H[r]?=some (.list vs)) (a:aF w.params c.im c.ρ (.ref r) l) (dZ:idx i vs.length=some j) (bA:vs[j]?=some x)
 (k:∀ h' y,b3 s.heap c h' c→aH w c ls (st.H.set r (.list (vs.eraseIdx j))) h'→aF w.params c.im c.ρ x y→Q y (a8 s h' s.toks)):wpAny (aU w) A (call (.builtin "list.pop") [l,.int i t]) Q bo s:=by
 refine a.iy fun p a4=>?_
 obtain ⟨ys,m,ao,bb,z⟩:=R.rep.at_ a4 aM
 obtain ⟨y,bU,bN⟩:=bb.get bA
 rw[bb.length] at dZ
 have hl:j<ys.length:=(List.getElem?_eq_some_iff.mp bU).1
 have bR:=wQ dZ hl
 obtain ⟨aG,eE⟩:=ua R a4 aM ao (f:=fun xs=>xs.eraseIdxIfInBounds j) (ys:=ys.eraseIdx j) (by simp[Array.eraseIdxIfInBounds,hl]) (bb.eraseIdx _) (by rw[List.length_eraseIdx];split <;> omega)
 exact call_meets F.slot_list_pop ⟨_,ao,rfl⟩ F.entry_list_pop (F.args_list_pop_2 _ _) (MeetsSeq.list_pop_at p.1 ys.toArray m i t j y (by unfold aL at z;unfold Builtin.List.listFitsIndex;simp;omega) (by rw[List.size_toArray];exact FE dZ hl) (by simpa using bU) (by rw[List.size_toArray];exact n8 z)) ⟨ao,k _ _ aG eE bN⟩
theorem Pu {r:Nat}{vs:List V}{x:V}{i:Int}{t:Tok}{l y:Value}{Q:Value→Shared→Prop}(R:aH w c ls st.H s.heap) (aM:st.H[r]?=some (.list vs)) (a:aF w.params c.im c.ρ (.ref r) l) (b:aF w.params c.im c.ρ x y) (aS:0≤i) (bf:i.toNat≤vs.length) (aa:vs.length<aL)
 (k:∀ h',b3 s.heap c h' c→aH w c ls (st.H.set r (.list (vs.take i.toNat++x::vs.drop i.toNat))) h'→Q .none (a8 s h' s.toks)):wpAny (aU w) A (call (.builtin "list.insert") [l,.int i t,y]) Q bo s:=by
 refine a.iy fun p a4=>?_
 obtain ⟨ys,m,ao,bb,z⟩:=R.rep.at_ a4 aM
 have dU:=bf
 rw[bb.length] at bf
 have nJ : ¬ i<0:=by omega
 obtain ⟨aG,eE⟩:=ua R a4 aM ao (f:=fun xs=>have k:=if i<0 then (i+((xs.size:Nat):Int)).toNat else min i.toNat xs.size;(xs.extract 0 k).push y++xs.extract k) (ys:=ys.take i.toNat++y::ys.drop i.toNat)
  (by
   simp only[nJ,if_false,List.size_toArray,Nat.min_eq_left bf]
   simp
   exact List.take_of_length_le (by simp)) ((bb.take _).append (.cons b (bb.drop _))) (by rw[List.length_append,List.length_cons,List.length_take,List.length_drop];rw[bb.length] at aa;omega)
 exact call_meets F.slot_list_insert ⟨_,ao,rfl⟩ F.entry_list_insert (F.args_list_insert_3 _ _ _) (AutoListH.list_insert_list_int_val_1 p.1 ys.toArray m i t y (by unfold aL at z;unfold Builtin.List.listFitsIndex;simp;omega) (by rw[List.size_toArray];exact n8 z)) ⟨ao,k _ aG eE⟩
theorem Pw {l:Addr}{ys:List Value}{m:Nat}{ns:List Int}{Q:Value→Shared→Prop}(bY:A.handled=none) (R:aH w c ls st.H s.heap) (ao:s.heap.get? l=some (fE ys m)) (aM:IntsAre ys ns)
 (k:∀ h' az t,b3 s.heap c h' c→aH w c ls st.H h'→Q (.int ns.sum t) (a8 s h' az)):wpAny (aU w) A (call (.builtin "sum") [.ref l]) Q bo s:=by
 obtain ⟨xs,e⟩:=aM.allInts.items
 have hl:=listAt ao
 rw[e] at hl
 refine sum_intListG bY hl fun h' az AN ar=>?_
 have aC:preSum (numAt xs) xs.size=ns.sum:=by
  have q:=aM.numsOf
  have:numsOf ys=xs.toList.map (·.1):=by
   have:=nums_intItems xs
   rw[←e] at this
   simpa using this
  rw[preSum_eq,List.take_of_length_le (by simp),←this,q]
 rw[aC]
 exact k h' az AN (.keep ar) (R.grow (im':=c.im) ar (fun _ _ x=>x) fun _ _ x=>.inl x)
noncomputable def g5 (w:World) (g:Value) (args:List V) (st:ax) (r:V×ax):Prop:=(r.2.aa→st.aa)∧(r.2.aa→∀{A n c ls s xs},dB A n→aH w c ls st.H s.heap→aW w.params c.im c.ρ args xs→t9 w A c ls s (call g xs) r.1 r.2)
section
variable {a b z:V}{id:String}
theorem Px:ae (g5 w (.builtin "len") [a] st) ((kg a st).map fun vs=>(.int vs.length,st)):=ae.m fun vs aV=>⟨fun o=>o,fun _ {A n c ls s xs} _ R bC=>bC.kW fun x a Q k=>by
 obtain ⟨l,ys,m,rfl,ao,bb,z⟩:=ub aV R a
 refine len_list (listAt ao) (by rw[List.size_toArray];unfold aL at z;omega) ?_
 rw[List.size_toArray,←bb.length]
 exact k c s.heap _ _ .refl R (.int _ _)⟩
theorem Py:ae (g5 w (.builtin "list.pop") [a] st) (nV st a fun r vs=>(vs[vs.length - 1]?).map fun x=>(x,⟨st.H.set r (.list vs.dropLast),st.aa⟩)):=ae.b fun r bR=>ae.b fun vs aM=>ae.m fun x bA=>⟨fun o=>o,fun _ {A n c ls s xs} _ R bC=>by
 rw[kk bR] at bC
 exact bC.kW fun x a Q k=>Pr R (kj aM) a bA fun h' y aG eE bN=>k c h' _ _ aG eE bN⟩
theorem Pz:ae (g5 w (.builtin "abs") [a] st) ((eM a).map fun i=>(.int (if i<0 then -i else i),st)):=ae.m fun i aM=>⟨fun o=>o,fun _ {A n c ls s xs} _ R bC=>by
 rw[h7 aM] at bC
 exact bC.kW fun x a=>a.e2 fun t Q k=>call_abs_int fun u az=>k c s.heap az _ .refl R (.int _ _)⟩
theorem PA:ae (g5 w (.builtin "sum") [a] st) ((kg a st).bind fun vs=>(nU vs).map fun n=>(.int n,st)):=ae.b fun vs aV=>ae.m fun t bT=>⟨fun o=>o,fun _ {A n c ls s xs} aE R bC=>bC.kW fun x a Q k=>by
 obtain ⟨l,ys,m,rfl,ao,bb,z⟩:=ub aV R a
 obtain ⟨ns,aM,rfl⟩:=sum_ints bT bb
 exact Pw aE.h R ao aM fun h' az t aG eE=>k c h' az _ aG eE (.int _ _)⟩
theorem PB:ae (g5 w (.builtin "list.append") [a,b] st) (nV st a fun r vs=>some (.none,⟨st.H.set r (.list (vs++[b])),st.aa∧vs.length<aL⟩)):=ae.b fun r bR=>ae.b fun vs aM=>ae.bO ⟨fun o=>o.1,fun aa {A n c ls s xs} _ R bC=>by
 rw[kk bR] at bC
 exact bC.tC fun x y a a' Q k=>FT R (kj aM) a a' aa.2 fun h' aG eE=>k c h' _ _ aG eE .none⟩
theorem PC:ae (g5 w (.builtin "list.pop") [a,b] st) (nV st a fun r vs=>(eM b).bind fun i=>(idx i vs.length).bind fun j=>(vs[j]?).map fun x=>(x,⟨st.H.set r (.list (vs.eraseIdx j)),st.aa⟩)):=ae.b fun r bR=>ae.b fun vs aM=>ae.b fun i bt=>ae.b fun j dZ=>ae.m fun x bA =>
 ⟨fun o=>o,fun _ {A n c ls s xs} _ R bC=>by
  rw[kk bR,h7 bt] at bC
  exact bC.tC fun x y a a'=>a'.e2 fun t Q k=>Pt R (kj aM) a dZ bA fun h' y aG eE bN=>k c h' _ _ aG eE bN⟩
theorem PD (h:Ai b=true):b=.obj (.type "str"):=by
 cases b with
 |obj x=>cases x with
  |type t=>rw[show t = "str" from of_decide_eq_true h]
  |_=>exact dv h
 |_=>exact dv h
theorem PE:ae (g5 w (.builtin "isinstance") [a,b] st) (bif Ai b then (EL a).map fun q=>(.bool q,st) else none):=by
 refine ae.de fun bt=>?_
 rw[PD bt]
 cases a with
 |str z=>exact ae.bO ⟨fun o=>o,fun _ {A n c ls s xs} _ R bC=>bC.tC fun x y a a'=>a.mO fun t _=>a'.objE fun Q k=>IsiPair.str_str (k c s.heap s.toks _ .refl R (.bool _))⟩
 |int i=>exact ae.bO ⟨fun o=>o,fun _ {A n c ls s xs} _ R bC=>bC.tC fun x y a a'=>a.e2 fun t=>a'.objE fun Q k=>IsiPair.int_str (k c s.heap _ _ .refl R (.bool _))⟩
 |_=>exact ae.no
theorem PF:ae (g5 w (.builtin "list.insert") [a,b,z] st) (nV st a fun r vs=>(eM b).bind fun i=>bif decide (0≤i)&&Nat.ble i.toNat vs.length then some (.none,⟨st.H.set r (.list (vs.take i.toNat++z::vs.drop i.toNat)),st.aa∧vs.length<aL⟩) else none):=ae.b fun r bR=>ae.b fun vs aM=>ae.b fun i bt=>ae.de fun q=>ae.bO
 ⟨fun o=>o.1,fun aa {A n c ls s xs} _ R bC=>by
  obtain ⟨aS,bf⟩:=Bool.and_eq_true_iff.mp q
  rw[kk bR,h7 bt] at bC
  exact bC.NS fun x y z a a' PG=>a'.e2 fun t Q k=>Pu R (kj aM) a PG (of_decide_eq_true aS) (Nat.le_of_ble_eq_true bf) aa.2 fun h' aG eE=>k c h' _ _ aG eE .none⟩
theorem PH:ae (g5 w (.builtin id) [a] st) (nW id a st) :=
 ae.i (fun e=>e▸Px) fun _=>ae.i (fun e=>e▸Py) fun _=>ae.i (fun e=>e▸Pz) fun _=>ae.i (fun e=>e▸PA) fun _=>ae.no
theorem PI:ae (g5 w (.builtin id) [a,b] st) (nX id a b st):=ae.i (fun e=>e▸PB) fun _=>ae.i (fun e=>e▸PC) fun _=>ae.i (fun e=>e▸PE) fun _=>ae.no
theorem PJ:ae (g5 w (.builtin id) [a,b,z] st) (wB id a b z st):=ae.i (fun e=>e▸PF) fun _=>ae.no
end
theorem PK {id:String}{args:List V}:ae (g5 w (.builtin id) args st) (wC id args st):=by
 cases args with
 |nil=>exact ae.no
 |cons a r=>cases r with
  |nil=>exact PH
  |cons b r=>cases r with
   |nil=>exact PI
   |cons z r=>cases r with
    |nil=>exact PJ
    |cons _ _=>exact ae.no
end
section
variable {w:World}{A:Around}{c:br}{st st' : ax}{s:Shared}{ls:List (Str×V)}{n:Nat}
theorem PL {x:Str}{k:Nat}(h:wA x=some k):PySem.intText? x=some (k:Int)∧x.length≤640:=by
 unfold wA at h
 split at h
 ·rename_i q;obtain rfl:=cc h;rw[d9.mp q];exact ⟨by kernel_rfl,by decide⟩
 ·split at h
  ·rename_i q;obtain rfl:=cc h;rw[d9.mp q];exact ⟨by kernel_rfl,by decide⟩
  ·split at h
   ·rename_i q;obtain rfl:=cc h;rw[d9.mp q];exact ⟨by kernel_rfl,by decide⟩
   ·exact ba h
theorem PM:∀ k:Nat,k<10→(Str.ofString (toString (Int.ofNat k)):Str)=k0 k∧PyData.strOk (k0 k)=true∧k.log2<1920:=by decide +kernel
theorem PN {i:Int}(h0:0≤i) (h1:i<10):(Str.ofString (toString i):Str)=k0 i.toNat∧PyData.strOk (k0 i.toNat)=true∧i.natAbs.log2<1920 :=
 match i,h0,h1 with
 |.ofNat k,_,h=>PM k (Int.ofNat_lt.mp h)
theorem PO {i:Int}{t:Tok}{Q:Value→Shared→Prop}(R:aH w c ls st.H s.heap) (k:∀ c' h' az z,b3 s.heap c h' c'→aH w c' ls st.H h'→aF w.params c'.im c'.ρ (.cw 0 i) z→Q z (a8 s h' az)) :
 wpAny (aU w) A (call (.type "range") [.int i t]) Q bo s:=by
 refine call_range_1 ?_
 obtain ⟨eE,l⟩:=R.tE {cls:=.type "range",data:=.fields #[.int 0 s.toks,.int i t,.int 1 (s.toks+1)]} rfl
 exact k _ _ _ _ ⟨l,.push _⟩ eE (.cw mR)
theorem PQ {r:Nat}{vs:List V}{x:V}{i:Int}{t:Tok}{l y:Value}{Q:Unit→Shared→Prop}(R:aH w c ls st.H s.heap) (aM:st.H[r]?=some (.list vs)) (a:aF w.params c.im c.ρ (.ref r) l) (b:aF w.params c.im c.ρ x y) (aS:0≤i) (bf:i.toNat<vs.length)
 (k:∀ h',b3 s.heap c h' c→aH w c ls (st.H.set r (.list (vs.set i.toNat x))) h'→Q () (a8 s h' s.toks)):wpAny (aU w) A (setItem l (.int i t) y) Q bo s:=by
 refine a.iy fun p a4=>?_
 obtain ⟨ys,m,ao,bb,z⟩:=R.rep.at_ a4 aM
 rw[bb.length] at bf
 have hl:=listAt ao
 unfold setItem
 refine wpAny_holding ?_
 refine wpAny_bind (wpAny_sequenceKey hl.typeIs (by decide) ?_)
 refine wpAny_bind (wpAny_callSpecial?_slot (name:=Str.ofString "__setitem__") hl.typeIs slot_list_setitem
  (wpAny_call_entry slot_list_setitem hl.typeIs entry_list_setitem ?_ (args_list_setitem _ _ _)))
 show wpAny _ _ (Builtin.List.listSubscript? (.int i t) >>= _) _ _ s
 refine wpAny_bind (wpAny_listSubscript_int (fitsIndex_of aS (by unfold aL at z;omega)) ?_)
 obtain ⟨k',rfl⟩:=Int.eq_ofNat_of_zero_le aS
 have ar:k' < ys.length:=by simpa using bf
 have PR:ys.toArray[k']?=some ys[k']:=by simp[ar]
 show wpAny _ _ ((seqItemAt p.1 k' >>= fun r=>pure (r.map (k',·))) >>= _) _ _ s
 refine wpAny_bind (wpAny_bind (wpAny_seqItemAt ao rfl (wpAny_pure ?_)))
 rw[PR]
 show wpAny _ _ (setSeqItemAt p.1 k' y >>= _) _ _ s
 obtain ⟨aG,eE⟩:=ua R a4 aM ao (f:=fun a=>a.setIfInBounds k' y) (ys:=ys.set k' y) (by simp) (bb.set k' b) (by rw[List.length_set];exact z)
 refine wpAny_bind (wpAny_setSeqItemAt ao rfl ?_)
 first
  |exact wpAny_bind (wpAny_pure (wpAny_pure ⟨.none,rfl,wpAny_pure (k _ aG eE)⟩))
  |exact wpAny_pure ⟨.none,rfl,wpAny_pure (k _ aG eE)⟩
theorem PS {α:Type}{x:Str}{v u:α}{l:List (Str×α)}:look x l=some u→(d8 x v l).length=l.length:=by
 induction l with
 |nil=>exact fun e=>ba e
 |cons p r aI =>
  cases h:seq x p.1 with
  |true=>exact fun _=>by rw[Ap h];rfl
  |false=>exact fun e=>by rw[h6 h] at e;rw[Aq h];exact congrArg (· + 1) (aI e)
section
variable {a:V}{id:String}
theorem ty_list:ae (g5 w (.type "list") [a] st) ((kg a st).map fun vs=>nT (.list vs) st):=ae.m fun vs aV=>⟨fun o=>o,fun _ {A n c ls s xs} _ R bC=>bC.kW fun x a Q k=>by
 obtain ⟨l,ys,m,rfl,ao,bb,z⟩:=ub aV R a
 refine call_list_seq l (.inl rfl) ao rfl rfl (fun h' c' ar lF=>?_) (by rw[List.size_toArray];exact n8 z)
 obtain ⟨bw,a3,AO,v2⟩:=newList R bb z ar (Nat.le_refl _) lF
 exact k bw h' s.toks _ a3 AO v2⟩
theorem ty_str:ae (g5 w (.type "str") [a] st) ((eM a).bind fun i=>bif decide (0≤i)&&decide (i<10) then some (.str (k0 i.toNat),st) else none):=ae.b fun i aM=>ae.de fun q=>ae.bO ⟨fun o=>o,fun _ {A n c ls s xs} _ R bC=>by
 obtain ⟨aS,bf⟩:=Bool.and_eq_true_iff.mp q
 rw[h7 aM] at bC
 refine bC.kW fun x a=>a.e2 fun t Q k=>?_
 obtain ⟨ao,aC,cL⟩:=PN (of_decide_eq_true aS) (of_decide_eq_true bf)
 refine P.str_of_int cL ?_
 rw[show ∀(i:Int),(toString i:PySem.Str)=Str.ofString (toString i) from fun _=>rfl,ao]
 exact k c s.heap _ _ .refl R (.str _ _ aC)⟩
theorem ty_int:ae (g5 w (.type "int") [a] st) ((nQ a).bind fun s=>(wA s).map fun (n:Nat)=>(V.int (n:Int),st)):=ae.b fun i aM=>ae.m fun m hm=>⟨fun o=>o,fun _ {A n c ls s xs} _ R bC=>by
 rw[rh aM] at bC
 refine bC.kW fun x a=>a.mO fun t _ Q k=>?_
 obtain ⟨ao,aC⟩:=PL hm
 exact KIN.call_text ao aC (k c s.heap _ _ .refl R (.int _ _))⟩
theorem PT:ae (g5 w (.type "range") [a] st) ((eM a).bind fun n=>bif decide (0≤n)&&decide (n≤1000000) then some (.cw 0 n,st) else none):=ae.b fun i aM=>ae.de fun q=>ae.bO ⟨fun o=>o,fun _ {A n c ls s xs} _ R bC=>by
 rw[h7 aM] at bC
 exact bC.kW fun x a=>a.e2 fun t Q k=>PO R k⟩
theorem PU:ae (g5 w (.type id) [a] st) (EM id a st):=ae.i (fun e=>e▸ty_list) fun _=>ae.i (fun e=>e▸ty_str) fun _=>ae.i (fun e=>e▸ty_int) fun _=>ae.i (fun e=>e▸PT) fun _=>ae.no
end
theorem PV {id:String}{args:List V}:ae (g5 w (.type id) args st) (EN id args st):=by
 cases args with
 |nil=>exact ae.no
 |cons a r=>cases r with
  |nil=>exact PU
  |cons _ _=>exact ae.no
theorem PW {v fq t5:V}{fS cx x:Value}(R:aH w c ls st.H s.heap) (h8:aF w.params c.im c.ρ v fS) (hM:aF w.params c.im c.ρ fq cx) (n9:aF w.params c.im c.ρ t5 x):ae (FC w A c ls s (setItem fS cx x) st.aa) (nS v fq t5 st) :=
 ae.b fun r bR=>by
  rw[kk bR] at h8
  refine ae.o (fun i aM=>ae.b fun vs aV=>ae.de fun aS=>ae.m fun y bU=>⟨rfl,fun Q k=>?_⟩) fun _=>ae.b fun sk ar=>ae.b fun fs hf=>ae.m fun y bU=>⟨rfl,fun Q k=>?_⟩
  ·rw[h7 aM] at hM
   exact hM.e2 fun t=>PQ R (kj aV) h8 n9 (of_decide_eq_true aS) (List.getElem?_eq_some_iff.mp bU).1 fun h' aG eE=>k h' _ aG eE
  ·rw[rh ar] at hM
   refine hM.mO fun t _=>h8.iy fun p a4=>?_
   obtain ⟨lO,ao,bb,z⟩:=R.rep.at_ a4 (Aw hf)
   have ef:=ao
   obtain ⟨_,_,_,_,_,_,_,_,ef⟩:=ef
   refine wpAny_setItem_pairs (strKind_is bz w _ _) ao (fun h' hd ak=>?_) (by rw[←bb.length];exact Nat.le_trans z (by decide))
   have l0:=hd
   obtain ⟨o',_,_,c9,_⟩:=l0
   exact k h' _ (.of_same (fun b nb=>ak.2 b nb) c9) (R.AE a4 (Aw hf) rfl (fun b nb=>ak.2 b fun q=>nb (by rw[q];exact .head _)) ⟨_,hd,bb.set n9 ef,by rw[PS bU];exact z⟩)
end
inductive jE (c:br) (P:Params):cA→Flow→Prop
 |next:jE c P .next .next
 |brk:jE c P .brk .brk
 |cont:jE c P .cont .cont
 |ret {v x}:aF P c.im c.ρ v x→jE c P (.ret v) (.ret x)
inductive fT (c:br) (P:Params) (h:Heap):Src→Nat→Addr→List Addr→Prop
 |aO {vs xs a aR k n}:c.im a=some (fE xs n)→aW P c.im c.ρ vs xs→h.IsListIter aR a k→fT c P h (.aO vs) k aR [aR]
 |di {vs xs a aR k n}:c.im a=some (hG xs n)→aW P c.im c.ρ vs xs→h.IsTupleIter aR a k→fT c P h (.di vs) k aR [aR]
 |ref {i p aR k}:c.ρ[i]?=some p→h.IsListIter aR p.1 k→fT c P h (.ref i) k aR [aR]
 |cw {lo aM aR}{k:Nat}:IsRangeIter h aR (lo+k) (aM - lo - k) 1→fT c P h (.cw lo aM) k aR [aR]
 |ro {vs xs a e aR k n old}:c.im a=some (fE xs n)→aW P c.im c.ρ vs xs→h.IsListIter aR a k→IsEnum h e aR (k:Int) old→e≠aR→fT c P h (.iZ (.aO vs)) k e [e,aR]
 |rp {i p e aR k old}:c.ρ[i]?=some p→h.IsListIter aR p.1 k→IsEnum h e aR (k:Int) old→e≠aR→fT c P h (.iZ (.ref i)) k e [e,aR]
structure jF (as:List Addr) (h:Heap) (c:br) (h' : Heap) (c' : br):Prop where
 le:br.le h c c'
 aP:∀ a o,a ∉ as→h.get? a=some o→∃ o',h'.get? a=some o'
theorem b3.nb {as:List Addr}{h h' : Heap}{c c' : br}(n:b3 h c h' c'):jF as h c h' c':=⟨n.le,fun a o _ e=>n.aP a o e⟩
theorem b3.FU {as:List Addr}{h h' jB:Heap}{c c' kX:br}(n:b3 h c h' c') (m:jF as h' c' jB kX):jF as h c jB kX :=
 ⟨n.le.trans n.aP m.le,fun a o q e=>let ⟨o',c9⟩:=n.aP a o e;m.aP a o' q c9⟩
theorem jF.cB {as:List Addr}{h h' jB:Heap}{c c' kX:br}(n:b3 h c h' c') (m:jF as h' c' jB kX) (z:∀ a∈as,h.get? a=none):b3 h c jB kX :=
 ⟨n.le.trans n.aP m.le,fun a o e=>let ⟨o',c9⟩:=n.aP a o e;m.aP a o' (fun q=>by rw[z a q] at e;exact ba e) c9⟩
noncomputable def AP (w:World) (c:br) (ls:List (Str×V)) (s:Shared) (q:Bool) (st' : ax) (Q:Bool→Shared→Prop):Prop:=∀ c' h' az,b3 s.heap c h' c'→aH w c' ls st'.H h'→Q q (a8 s h' az)
noncomputable def pn (w:World) (c:br) (s:Shared) (f:cA) (ls:List (Str×V)) (st' : ax) (Q:Flow→Shared→Prop):Prop:=∀ c' h' az g,b3 s.heap c h' c'→aH w c' ls st'.H h'→jE c' w.params f g→Q g (a8 s h' az)
noncomputable def rq (w:World) (c:br) (s:Shared) (ls:List (Str×V)) (st' : ax) (Q:Unit→Shared→Prop):Prop:=∀ c' h' az,b3 s.heap c h' c'→aH w c' ls st'.H h'→Q () (a8 s h' az)
noncomputable def f9 (w:World) (n:Nat) (fr:a5) (e:PySem.Expr) (st:ax) (r:V×ax):Prop:=(r.2.aa→st.aa)∧(r.2.aa→∀{A c env s},dB A n→cO c fr env→aH w c fr.ls st.H s.heap→t9 w A c fr.ls s (eval e env) r.1 r.2)
noncomputable def l3 (w:World) (n:Nat) (fr:a5) (e:PySem.Expr) (st:ax) (r:Bool×ax):Prop:=(r.2.aa→st.aa)∧(r.2.aa→∀{A c env s}(Q),dB A n→cO c fr env→aH w c fr.ls st.H s.heap→AP w c fr.ls s r.1 r.2 Q→wpAny (aU w) A (isTrue e env (eval e env)) Q bo s)
noncomputable def iF (w:World) (n:Nat) (fr:a5) (m:Env→Sem Flow) (st:ax) (r:cA×List (Str×V)×ax):Prop:=(r.2.2.aa→st.aa)∧(r.2.2.aa→∀{A c env s}(Q),dB A n→cO c fr env→aH w c fr.ls st.H s.heap→pn w c s r.1 r.2.1 r.2.2 Q→wpAny (aU w) A (m env) Q bo s)
noncomputable def rr (w:World) (n:Nat) (fr:a5) (t:PySem.Expr) (v:V) (st:ax) (r:List (Str×V)×ax):Prop:=(r.2.aa→st.aa)∧(r.2.aa→∀{A c env s x}(Q),dB A n→cO c fr env→aH w c fr.ls st.H s.heap→aF w.params c.im c.ρ v x→rq w c s r.1 r.2 Q→wpAny (aU w) A (assign t env x) Q bo s)
noncomputable def oa (w:World) (n:Nat) (f:V) (args:List V) (st:ax) (r:V×ax):Prop:=(r.2.aa→st.aa)∧(r.2.aa→∀{A c ls s g xs},dB A n→kl c.ρ→aH w c ls st.H s.heap→aF w.params c.im c.ρ f g→aW w.params c.im c.ρ args xs→t9 w A c ls s (call g xs) r.1 r.2)
noncomputable def FV (w:World) (n:Nat) (fr:a5) (t:PySem.Expr) (src:Src) (k:Nat) (body:List Stmt) (st:ax) (r:cA×List (Str×V)×ax):Prop:=(r.2.2.aa→st.aa)∧(r.2.2.aa→∀{A c env s aR as}(Y:Result→Shared→Prop),dB A n→cO c fr env→aH w c fr.ls st.H s.heap→fT c w.params s.heap src k aR as→(∀ a∈as,Off c st.H a) →
 (∀ c' h' az g,jF as s.heap c h' c'→aH w c' r.2.1 r.2.2.H h'→jE c' w.params r.1 g→Y (.ok g) (a8 s h' az))→codeAny (aU w) A (.forLoop t (.ref aR) body [] env) Y s)
noncomputable def AQ (w:World) (n:Nat) (fr:a5) (t:PySem.Expr) (body:List Stmt) (st:ax) (r:cA×List (Str×V)×ax):Prop:=(r.2.2.aa→st.aa)∧(r.2.2.aa→∀{A c env s}(Y:Result→Shared→Prop),dB A n→cO c fr env→aH w c fr.ls st.H s.heap→pn w c s r.1 r.2.1 r.2.2 (fun g=>Y (.ok g))→codeAny (aU w) A (.whileLoop t body [] env) Y s)
noncomputable def FW (w:World) (n:Nat) (fr:a5) (elt t:PySem.Expr) (ifs:List PySem.Expr) (src:Src) (k acc:Nat) (st st' : ax):Prop:=(st'.aa→st.aa)∧(st'.aa→∀{A c env s aR as x it sc pos}(Y:Result→Shared→Prop),dB A n→cO c fr env→aH w c fr.ls st.H s.heap→fT c w.params s.heap src k aR as→(∀ a∈as,Off c st.H a) →
 aF w.params c.im c.ρ (.ref acc) x→(∀ c' h' az bM,jF as s.heap c h' c'→aH w c' bM st'.H h'→∀ g,Y (.ok g) (a8 s h' az))→codeAny (aU w) A (.compLoop (.ListComp elt [⟨t,it,ifs,0⟩] sc pos) 0 (.ref aR) x env) Y s)
structure bP (w:World) (R:dR):Prop where
 FX:∀{n fr e st},ae (f9 w n fr e st) (R.ev n fr e st)
 FY:∀{n fr e st},ae (l3 w n fr e st) (R.et n fr e st)
 FZ:∀{n fr ss st},ae (iF w n fr (execs ss) st) (R.ex n fr ss st)
 F0:∀{n fr t v st},ae (rr w n fr t v st) (R.as n fr t v st)
 F1:∀{n f args st},ae (oa w n f args st) (R.cl n f args st)
 uc:∀{n fr t src k body st},ae (FV w n fr t src k body st) (R.jw n fr t src k body st)
 w0:∀{n fr t body st},ae (AQ w n fr t body st) (R.tI n fr t body st)
 AR:∀{n fr elt t ifs src k acc st},ae (FW w n fr elt t ifs src k acc st) (R.dz n fr elt t ifs src k acc st)
section
variable {w:World}{R:dR}{n:Nat}{fr:a5}{st st' : ax}{A:Around}{c:br}{env:Env}{s:Shared}{ls:List (Str×V)}
theorem bP.dm (S:bP w R) {e v}(h:R.ev n fr e st=some (v,st')):st'.aa→st.aa:=(S.FX _ h).1
theorem bP.iG (S:bP w R) {e q}(h:R.et n fr e st=some (q,st')):st'.aa→st.aa:=(S.FY _ h).1
theorem bP.m3 (S:bP w R) {ss f}(h:R.ex n fr ss st=some (f,ls,st')):st'.aa→st.aa:=(S.FZ _ h).1
theorem bP.ud (S:bP w R) {t v}(h:R.as n fr t v st=some (ls,st')):st'.aa→st.aa:=(S.F0 _ h).1
theorem bP.ue (S:bP w R) {f args v}(h:R.cl n f args st=some (v,st')):st'.aa→st.aa:=(S.F1 _ h).1
theorem bP.uf (S:bP w R) {elt t ifs src k acc}(h:R.dz n fr elt t ifs src k acc st=some st'):st'.aa→st.aa:=(S.AR _ h).1
theorem bP.ev (S:bP w R) {e v Q}(h:R.ev n fr e st=some (v,st')) (aa:st'.aa) (aE:dB A n) (F:cO c fr env) (P:aH w c fr.ls st.H s.heap) (k:kn w c fr.ls s v st' Q):wpAny (aU w) A (eval e env) Q bo s:=(S.FX _ h).2 aa aE F P Q k
theorem bP.et (S:bP w R) {e q Q}(h:R.et n fr e st=some (q,st')) (aa:st'.aa) (aE:dB A n) (F:cO c fr env) (P:aH w c fr.ls st.H s.heap) (k:AP w c fr.ls s q st' Q):wpAny (aU w) A (isTrue e env (eval e env)) Q bo s:=(S.FY _ h).2 aa Q aE F P k
theorem bP.ex (S:bP w R) {ss f Q}(h:R.ex n fr ss st=some (f,ls,st')) (aa:st'.aa) (aE:dB A n) (F:cO c fr env) (P:aH w c fr.ls st.H s.heap) (k:pn w c s f ls st' Q):wpAny (aU w) A (execs ss env) Q bo s:=(S.FZ _ h).2 aa Q aE F P k
theorem bP.as (S:bP w R) {t v x Q}(h:R.as n fr t v st=some (ls,st')) (aa:st'.aa) (aE:dB A n) (F:cO c fr env) (P:aH w c fr.ls st.H s.heap) (r:aF w.params c.im c.ρ v x) (k:rq w c s ls st' Q):wpAny (aU w) A (assign t env x) Q bo s:=(S.F0 _ h).2 aa Q aE F P r k
theorem bP.cl (S:bP w R) {f args v g xs Q}(h:R.cl n f args st=some (v,st')) (aa:st'.aa) (aE:dB A n) (az:kl c.ρ) (P:aH w c ls st.H s.heap) (i3:aF w.params c.im c.ρ f g) (bC:aW w.params c.im c.ρ args xs) (k:kn w c ls s v st' Q):wpAny (aU w) A (call g xs) Q bo s:=(S.F1 _ h).2 aa aE az P i3 bC Q k
theorem bP.ug (S:bP w R) {e c9 a b}{Q:Value→Value→Shared→Prop}(h:R.ev n fr e st=some a) (af:R.ev n fr c9 a.2=some b) (aa:b.2.aa) (aE:dB A n) (F:cO c fr env) (P:aH w c fr.ls st.H s.heap)
 (k:∀ c' h' az x y,b3 s.heap c h' c'→aH w c' fr.ls b.2.H h'→aF w.params c'.im c'.ρ a.1 x→aF w.params c'.im c'.ρ b.1 y→Q x y (a8 s h' az)):wpAny (aU w) A (eval e env) (fun x s1=>wpAny (aU w) A (eval c9 env) (fun y s2=>Q x y s2) bo s1) bo s :=
 S.ev h (S.dm af aa) aE F P fun aK h1 bK x aG aX v1=>S.ev (s:=a8 s h1 bK) af aa aE (F.cB aG) aX fun bw af cU y a3 b8 v2=>k bw af cU x y (aG.trans a3) b8 (v1.cB a3) v2
theorem pn.h9 {f:cA}{bw:br}{af:Heap}{cU:Tok}{Q:Flow→Shared→Prop}(k:pn w c s f ls st' Q) (n:b3 s.heap c af bw):pn w bw (a8 s af cU) f ls st' Q:=fun da aB g0 g c4 P3 o1=>k da aB g0 g (n.trans c4) P3 o1
theorem rq.h9 {bw:br}{af:Heap}{cU:Tok}{Q:Unit→Shared→Prop}(k:rq w c s ls st' Q) (n:b3 s.heap c af bw):rq w bw (a8 s af cU) ls st' Q:=fun da aB g0 c4 P3=>k da aB g0 (n.trans c4) P3
end
theorem PX (w:World):bP w E4:=⟨ae.no,ae.no,ae.no,ae.no,ae.no,ae.no,ae.no,ae.no⟩
theorem dB.deeper {A:Around}{n:Nat}{e:Env}(r:dB A (n+1)):dB (A.deeper e) n:=⟨by have:=r.d;simp only[Around.deeper];omega,by have:=r.u;simp only[Around.deeper_units];omega,r.h⟩
theorem dB.depth {A:Around}{n:Nat}(r:dB A n):A.depth<recursionLimit:=by have:=r.d;omega
section
variable {w:World}{R:dR}{A:Around}{c:br}{st st' : ax}{s:Shared}{n:Nat}{fr:a5}{env:Env}
theorem w2 {e:PySem.Expr}(h:isStar e=false) (r:List PySem.Expr):starEach (e::r) env=(false,eval e env)::starEach r env:=by
 cases e <;> first |rfl |exact eD h
noncomputable def PY (w:World) (n:Nat) (fr:a5) (aD:List PySem.Expr) (st:ax) (r:List V×ax):Prop:=(r.2.aa→st.aa)∧r.1.length=aD.length∧(∀(env:Env) (pos:Pos),(backTo pos (starEach aD env)).any (·.1)=false) ∧
 (r.2.aa→∀{A c env s pos}(Q:List Value→Shared→Prop),dB A n→cO c fr env→aH w c fr.ls st.H s.heap→(∀ c' h' az xs,b3 s.heap c h' c'→aH w c' fr.ls r.2.H h'→aW w.params c'.im c'.ρ r.1 xs→Q xs (a8 s h' az))→wpAny (aU w) A (spliced (backTo pos (starEach aD env))) Q bo s)
theorem ob (S:bP w R) (aD:List PySem.Expr):∀{st:ax},ae (PY w n fr aD st) (f7 R n fr aD st):=by
 induction aD with
 |nil=>exact fun {st}=>ae.bO ⟨id,rfl,fun _ _=>rfl,fun _ A c env s pos Q _ _ P k=>args_nil (k c s.heap s.toks [] .refl P .nil)⟩
 |cons e r aI =>
  exact fun {st}=>ae.cf fun q=>ae.b fun a h1=>ae.m fun b af=>⟨fun o=>S.dm h1 ((aI b af).1 o),congrArg (· + 1) (aI b af).2.1,fun env pos=>by rw[w2 q];exact (aI b af).2.2.1 env pos,
   fun aa A c env s pos Q aE F P k=>args_cons (S.ev h1 ((aI b af).1 aa) aE F P fun aK bX bK x aG aX v1=>(aI b af).2.2.2 aa (s:=a8 s bX bK) _ aE (F.cB aG) aX fun bw ct cU xs a3 b8 v2=>k bw ct cU (x::xs) (aG.trans a3) b8 (.cons (v1.cB a3) v2)) (w2 q r)⟩
theorem oc (S:bP w R) {aD:List PySem.Expr}{vs:List V}(h:f7 R n fr aD st=some (vs,st')):st'.aa→st.aa:=(ob S aD _ h).1
theorem w3 (S:bP w R) {aD:List PySem.Expr}{pos:Pos}{vs:List V}{Q:List Value→Shared→Prop}(aE:dB A n) (h:f7 R n fr aD st=some (vs,st')) (aa:st'.aa) (F:cO c fr env) (P:aH w c fr.ls st.H s.heap)
 (k:∀ c' h' az xs,b3 s.heap c h' c'→aH w c' fr.ls st'.H h'→aW w.params c'.im c'.ρ vs xs→Q xs (a8 s h' az)):wpAny (aU w) A (spliced (backTo pos (starEach aD env))) Q bo s:=(ob S aD _ h).2.2.2 aa Q aE F P k
end
section
variable {w:World}{R:dR}{A:Around}{c:br}{st st' : ax}{s:Shared}{n:Nat}{fr:a5}{env:Env}{r:V}{Q:Value→Shared→Prop}
theorem rt {b:Bool}{Q:Bool→Shared→Prop}(h:Q b s):wpAny (aU w) A (truthy (.bool b)) Q bo s:=wpAny_truthy_bool h
theorem AS {op:CmpOp}{e:PySem.Expr}(h:gr e=false):behindInMarks op e=false:=by
 cases e <;> first |rfl |exact eD h
theorem F2 {o:PySem.Expr}(h:baseOk o=true) (nm:Str) (t:Sem Value):attributeBase o nm env t=t:=by
 cases o <;> first |rfl |exact dv h
theorem PZ (S:bP w R) {o:PySem.Expr}{nm:Str}{pos:Pos}{a u}(bt:baseOk o=true) (h1:R.ev n fr o st=some a) (af:mU a.1 nm a.2=some u):f9 w n fr (.Attribute o nm pos) st (u,a.2) :=
 ⟨S.dm h1,fun aa A c env s aE F P Q k=>Attribute_any_ (S.ev h1 aa aE F P fun aK bX bK x aG aX v1=>OQ (s:=a8 s bX bK) af aX v1 (k.h9 aG)) (by rw[arm_eval_Attribute,F2 bt])⟩
noncomputable def od (w:World) (g:Value) (h:Heap):Prop:=∃ k,(k=Keeper.frame∨k=Keeper.machine∨k=Keeper.boundFrame)∧Looks (aU w) h (keeperOf g) k
theorem P0 {e:PySem.Expr}{r:List PySem.Expr}{x}(h1:f7 R n fr (e::r) st=some x):isStar e=false:=(ae.cf (fun q _ _=>q):ae (fun _=>isStar e=false) (f7 R n fr (e::r) st)) _ h1
theorem F3 (S:bP w R) {args:List PySem.Expr}{vs first:List V}{pq:V}{g:Value}{pv:List Value}{lU fR:ax}{pos:Pos}(h1:f7 R n fr args st=some (vs,lU)) (af:R.cl n pq (first++vs) lU=some (r,fR)) (aa:fR.aa)
 (d6:∀ c h,aH w c fr.ls lU.H h→aF w.params c.im c.ρ pq g→od w g h) (aE:dB A n) (F:cO c fr env) (P:aH w c fr.ls st.H s.heap) (oe:aF w.params c.im c.ρ pq g) (i3:aW w.params c.im c.ρ first pv)
 (k:kn w c fr.ls s r fR Q):wpAny (aU w) A (callWith pos g pv (backTo pos (starEach args env)) []) Q bo s:=by
 refine callWith_of (P:=od w g) (by rw[(ob S _ _ h1).2.2.1];rfl) (fun h x=>x) ?_
 have fin:wpAny (aU w) A (spliced (backTo pos (starEach args env))) (fun vs dS=>od w g dS.heap∧wpAny (aU w) A (call g (pv++vs)) Q bo dS) bo s :=
  w3 S aE h1 (S.ue af aa) F P fun aK bX bK xs aG aX v1=>⟨d6 _ _ aX (oe.cB aG),S.cl (s:=a8 s bX bK) af aa aE (F.cB aG).az aX (oe.cB aG) ((i3.cB aG).append v1) (k.h9 aG)⟩
 cases args with
 |nil =>
  refine evalArgs_nil3 ?_
  obtain ⟨rfl,rfl⟩:=D1 h1
  exact ⟨d6 _ _ P oe,S.cl af aa aE F.az P oe (i3.append .nil) k⟩
 |cons e r =>
  rw[w2 (P0 h1)] at fin ⊢
  exact Calls.evalArgs_plain fin
theorem P1 (S:bP w R) {l e:PySem.Expr}{op:Operator}{pos:Pos}{a b z}(h1:R.ev n fr l st=some a) (af:R.ev n fr e a.2=some b) (aB:q5 op a.1 b.1 b.2=some z):f9 w n fr (.BinOp l op e pos) st z :=
 ⟨fun o=>S.dm h1 (S.dm af (FR (w:=w) aB o)),fun aa A c env s aE F P Q k=>wpAny_BinOp (S.ug h1 af (FR (w:=w) aB aa) aE F P fun bw ct cU x y a3 b8 v1 v2=>Pp (s:=a8 s ct cU) aB aa b8 v1 v2 (k.h9 a3))⟩
theorem P2 (S:bP w R) {e:PySem.Expr}{pos:Pos}{y i}(h1:R.ev n fr e st=some y) (af:eM y.1=some i):f9 w n fr (.UnaryOp .USub e pos) st (.int (-i),y.2) :=
 ⟨S.dm h1,fun aa A c env s aE F P Q k=>wpAny_UnaryOp (S.ev h1 aa aE F P fun aK bX bK x aG aX v1=>by
  rw[h7 af] at v1
  exact v1.e2 fun t=>neg_int (k aK bX _ _ aG aX (.int _ _)))⟩
theorem P4 (S:bP w R) {l r:PySem.Expr}{op:CmpOp}{pos:Pos}{a b}{q:Bool×ax}(ak:gr r=false) (h1:R.ev n fr l st=some a) (af:R.ev n fr r a.2=some b) (aB:dY op a.1 b.1 b.2=some q):f9 w n fr (.Compare l [op] [r] pos) st (.bool q.1,q.2):=by
 have e:q.2=b.2:=t7 aB
 refine ⟨fun o=>S.dm h1 (S.dm af (e▸o)),fun aa A c env s aE F P Q k=>?_⟩
 replace aa:q.2.aa:=aa
 rw[e] at aa k
 exact wpAny_Compare1 (S.ug h1 af aa aE F P fun bw ct cU x y a3 b8 v1 v2=>wZ (s:=a8 s ct cU) aB aE b8 v1 v2 fun az=>k bw ct az _ a3 b8 (.bool _)) (AS ak)
theorem P5 (S:bP w R) {a b:PySem.Expr}{pos:Pos}{x q}(h1:R.ev n fr a st=some x) (af:pa x.1=some q):ae (f9 w n fr (.BoolOp .And [a,b] pos) st) (bif q then R.ev n fr b x.2 else some (.bool false,x.2)):=by
 rw[show x=(.bool q,x.2) by rw[←Fh af]] at h1
 cases q with
 |true=>exact fun y h=>⟨fun o=>S.dm h1 (S.dm h o),fun aa A c env s aE F P Q k=>wpAny_And2 (S.ev h1 (S.dm h aa) aE F P fun aK bX bK x aG aX v1=>v1.qY (rt (S.ev (s:=a8 s bX bK) h aa aE (F.cB aG) aX (k.h9 aG))))⟩
 |false=>exact ae.bO ⟨S.dm h1,fun aa A c env s aE F P Q k=>wpAny_And2 (S.ev h1 aa aE F P fun aK bX bK x aG aX v1=>v1.qY (rt (k aK bX bK _ aG aX (.bool _))))⟩
theorem P6 (S:bP w R) {t a b:PySem.Expr}{pos:Pos}{q:Bool×ax}(h1:R.et n fr t st=some q):ae (f9 w n fr (.IfExp t a b pos) st) (bif q.1 then R.ev n fr a q.2 else R.ev n fr b q.2):=by
 obtain ⟨q,s1⟩:=q
 cases q with
 |true=>exact fun y h=>⟨fun o=>S.iG h1 (S.dm h o),fun aa A c env s aE F P Q k=>wpAny_IfExp (S.et h1 (S.dm h aa) aE F P fun aK bX bK aG aX=>S.ev (s:=a8 s bX bK) h aa aE (F.cB aG) aX (k.h9 aG))⟩
 |false=>exact fun y h=>⟨fun o=>S.iG h1 (S.dm h o),fun aa A c env s aE F P Q k=>wpAny_IfExp (S.et h1 (S.dm h aa) aE F P fun aK bX bK aG aX=>S.ev (s:=a8 s bX bK) h aa aE (F.cB aG) aX (k.h9 aG))⟩
theorem F4 {aD:List PySem.Expr}(q:Nat.blt 100 aD.length=false):aD.length≤100:=Nat.le_of_not_lt fun z=>by rw[Nat.blt_eq.mpr z] at q;exact eD q
theorem F5 {k:Nat}(h:k≤100):k≤aL∧k≤sizeLine:=⟨Nat.le_trans h (by decide),n8 (Nat.le_trans h (by decide))⟩
theorem P7 (S:bP w R) {aD:List PySem.Expr}{kd:Nat}{pos:Pos}{x}(q:Nat.blt 100 aD.length=false) (h1:f7 R n fr aD st=some x):f9 w n fr (.Tuple aD kd pos) st (.tup x.1,x.2) :=
 ⟨oc S h1,fun aa A c env s aE F P Q k=>by
  rw[arm_eval_Tuple]
  refine wpAny_bind (wpAny_standAt (wpAny_bind (w3 S aE h1 aa F P fun aK bX bK xs aG aX v1=>?_)))
  have hl:=F5 (k:=xs.length) (by rw[←v1.length,(ob S _ _ h1).2.1];exact F4 q)
  obtain ⟨bw,a3,b8,v2⟩:=FO (s:=a8 s bX bK) aX v1 hl.1
  exact wpAny_newTuple (k bw _ bK _ (aG.trans a3) b8 v2) hl.2⟩
theorem P8 (S:bP w R) {aD:List PySem.Expr}{pos:Pos}{x}(q:Nat.blt 100 aD.length=false) (h1:f7 R n fr aD st=some x):f9 w n fr (.List aD pos) st (nT (.list x.1) x.2) :=
 ⟨fun o=>oc S h1 o,fun aa A c env s aE F P Q k=>by
  rw[arm_eval_List]
  refine wpAny_bind (wpAny_standAt (wpAny_bind (w3 S aE h1 aa F P fun aK bX bK xs aG aX v1=>?_)))
  have hl:=F5 (k:=xs.length) (by rw[←v1.length,(ob S _ _ h1).2.1];exact F4 q)
  refine wpAny_newList ?_ hl.2
  obtain ⟨bw,a3,b8,v2⟩:=newList (s:=a8 s bX bK) (h':=bX.push (fE xs 0)) (k:=0) aX v1 hl.1 (fun b aa e=>Heap.get?_push_of_some _ e) (Nat.le_refl _) (Heap.get?_push_size _ rfl)
  exact k bw _ bK _ (aG.trans a3) b8 v2⟩
end
section
variable {w:World}{P:Params}{im im' : cq}{ρ:c5}{b:Nat}
theorem aF.el {v:V}{x:Value}(h:aF P im ρ v x):cy ρ.length v=true :=
 aF.rec (motive_1:=fun v _ _=>cy ρ.length v=true) (motive_2:=fun vs _ _=>dG ρ.length vs=true) (motive_3:=fun fs _ _=>jz ρ.length fs=true) rfl (fun _=>rfl) (fun _ _=>rfl) (fun _ _ _=>rfl) (fun _ _ _ r=>r) (fun _ _ _ r=>r) (fun _ _ _ r=>r)
  (fun e=>Nat.blt_eq.mpr (List.getElem?_eq_some_iff.mp e).1) (fun _=>rfl) (fun _ _ r=>r) (fun _=>rfl) (fun _ _ r=>r) (fun _=>rfl) (fun _=>rfl) rfl (fun _ _ a b=>Bool.and_eq_true_iff.mpr ⟨a,b⟩) rfl (fun _ _ a b=>Bool.and_eq_true_iff.mpr ⟨a,b⟩) h
theorem aF.cut (h1:e9 im im') {v:V}{x:Value}(h:aF P im ρ v x):cy b v=true→aF P im' (ρ.take b) v x :=
 aF.rec (motive_1:=fun v x _=>cy b v=true→aF P im' (ρ.take b) v x) (motive_2:=fun vs xs _=>dG b vs=true→aW P im' (ρ.take b) vs xs) (motive_3:=fun fs aD _=>jz b fs=true→cT P im' (ρ.take b) fs aD) (fun _=>.none) (fun _ _=>.bool _) (fun _ _ _=>.int _ _) (fun _ _ z _=>.str _ _ z)
  (fun e _ z r q=>.tup (h1 _ _ e) (r q) z) (fun e _ z r q=>.aO (h1 _ _ e) (r q) z) (fun e c9 _ r q=>.fin (h1 _ _ e) (h1 _ _ c9) (r q)) (fun e q=>.ref (by rw[List.getElem?_take_of_lt (Nat.blt_eq.mp q)];exact e)) (fun _ _=>.obj _) (fun e _ r q=>.fd (h1 _ _ e) (r q)) (fun e _=>.lam (e.mono h1)) (fun e _ r q=>.fD (h1 _ _ e) (r q)) (fun e _=>.cw (h1 _ _ e)) (fun _ _=>.any _)
  (fun _=>.nil) (fun _ _ dc cH q=>.cons (dc (Bool.and_eq_true_iff.mp q).1) (cH (Bool.and_eq_true_iff.mp q).2)) (fun _=>.nil) (fun _ _ dc cH q=>.cons (dc (Bool.and_eq_true_iff.mp q).1) (cH (Bool.and_eq_true_iff.mp q).2)) h
theorem aW.cut (h1:e9 im im') {vs:List V}{xs:List Value}(h:aW P im ρ vs xs):dG b vs=true→aW P im' (ρ.take b) vs xs:=aW.ind (Q:=fun vs xs=>dG b vs=true→aW P im' (ρ.take b) vs xs) (fun _=>.nil) (fun a _ r q=>.cons (a.cut h1 (Bool.and_eq_true_iff.mp q).1) (r (Bool.and_eq_true_iff.mp q).2)) h
theorem cT.cut (h1:e9 im im') {vs:List (Str×V)}{xs:List DictEntry}(h:cT P im ρ vs xs):jz b vs=true→cT P im' (ρ.take b) vs xs:=cT.ind (Q:=fun vs xs=>jz b vs=true→cT P im' (ρ.take b) vs xs) (fun _=>.nil) (fun a _ r q=>.cons (a.cut h1 (Bool.and_eq_true_iff.mp q).1) (r (Bool.and_eq_true_iff.mp q).2)) h
theorem fp.cut (h1:e9 im im') {vs:List (Str×V)}{xs:List (Str×Value)}(h:fp P im ρ vs xs):jz b vs=true→fp P im' (ρ.take b) vs xs:=fp.rec (motive:=fun vs xs _=>jz b vs=true→fp P im' (ρ.take b) vs xs) (fun _=>.nil) (fun a _ r q=>.cons (a.cut h1 (Bool.and_eq_true_iff.mp q).1) (r (Bool.and_eq_true_iff.mp q).2)) h
theorem gU.cut {h:Heap}{p:Addr×Addr}{o:aj}(h1:e9 im im') (r:gU w im ρ h p o) (q:cE b o=true):gU w im' (ρ.take b) h p o:=by
 cases o with
 |list vs=>obtain ⟨xs,n,a,r,z⟩:=r;exact ⟨xs,n,a,r.cut h1 q,z⟩
 |inst C fs=>obtain ⟨aD,n,a,a',r,z⟩:=r;exact ⟨aD,n,a,a',r.cut h1 q,z⟩
 |dict fs=>obtain ⟨xs,a,r,z⟩:=r;exact ⟨xs,a,r.cut h1 q,z⟩
 |cell v =>
  cases v with
  |none=>exact r
  |some v=>obtain ⟨x,a,r⟩:=r;exact ⟨x,a,r.cut h1 q⟩
 |tab q ps=>obtain ⟨x,a,r⟩:=r;exact ⟨x,a,r.mono h1⟩
 |dead=>trivial
noncomputable def uh (ρ:c5) (H:List aj) (b:Nat) (a:Addr):Prop:=∃ (i:Nat) (p:Addr×Addr) (o:aj),b≤i∧ρ[i]?=some p∧H[i]?=some o∧a∈o.dX p
theorem uh.own {ρ:c5}{H:List aj}{a:Addr}:uh ρ H b a→Own ρ H a |⟨i,p,o,_,e⟩=>⟨i,p,o,e⟩
open Classical in
noncomputable def i4 (im:cq) (ρ:c5) (H:List aj) (h:Heap) (b:Nat):cq:=fun a=>if uh ρ H b a then h.get? a else im a
theorem w4 {H:List aj}{h:Heap}(R:Rep w im ρ H h):e9 im (i4 im ρ H h b):=fun a o e=>by
 unfold i4
 split
 ·rename_i q;rw[R.ju q.own] at e;exact ba e
 ·exact e
theorem AU {H:List aj}{h:Heap}{a:Addr}(q:uh ρ H b a):i4 im ρ H h b a=h.get? a:=if_pos q
theorem F6 {ρ' : c5}{f:V→Option V}(k:∀ v x,aF P im ρ v x→ae (fun u=>aF P im' ρ' u x) (f v)) {vs:List V}{xs:List Value}(h:aW P im ρ vs xs):ae (fun us=>aW P im' ρ' us xs) (iA f vs) :=
 aW.ind (Q:=fun vs xs=>ae (fun us=>aW P im' ρ' us xs) (iA f vs)) (ae.bO .nil) (fun a _ aI=>ae.b fun u h1=>ae.m fun t af=>.cons (k _ _ a u h1) (aI t af)) h
theorem P9 {ρ' : c5}{f:V→Option V}(k:∀ v x,aF P im ρ v x→ae (fun u=>aF P im' ρ' u x) (f v)) {vs:List (Str×V)}{xs:List DictEntry}(h:cT P im ρ vs xs):ae (fun us=>cT P im' ρ' us xs) (nY f vs) :=
 cT.ind (Q:=fun vs xs=>ae (fun us=>cT P im' ρ' us xs) (nY f vs)) (ae.bO .nil) (fun a _ aI=>ae.b fun u h1=>ae.m fun t af=>.cons (k _ _ a u h1) (aI t af)) h
noncomputable def pw (w:World) (im:cq) (ρ:c5) (H:List aj) (h:Heap) (b:Nat) (x:Value) (u:V):Prop:=aF w.params (i4 im ρ H h b) (ρ.take b) u x
theorem Qa {H:List aj}{h:Heap}(R:Rep w im ρ H h) {f:V→Option V}(aI:∀ v x,aF w.params im ρ v x→ae (pw w im ρ H h b x) (f v)) {i:Nat}{p:Addr×Addr}(a4:ρ[i]?=some p) (q:b≤i):ae (pw w im ρ H h b (.ref p.1)) (wD f H[i]?):=by
 cases aM:H[i]? with
 |none=>exact ae.no
 |some o=>cases o with
  |list vs=>exact let ⟨xs,m,ao,bb,z⟩:=R.at_ a4 aM;ae.m fun us h1=>aF.aO (n:=m) ((AU ⟨i,p,_,q,a4,aM,.head _⟩).trans ao) (F6 aI bb us h1) z
  |inst C fs=>exact let ⟨aD,m,ao,aC,bb,z⟩:=R.at_ a4 aM;ae.m fun us h1=>aF.fin (n:=m) ((AU ⟨i,p,_,q,a4,aM,.head _⟩).trans ao) ((AU ⟨i,p,_,q,a4,aM,.tail _ (.head _)⟩).trans aC) (P9 aI bb us h1)
  |_=>exact ae.no
theorem Qb {H:List aj}{h:Heap}(R:Rep w im ρ H h) {f:V→Option V}(aI:∀ v x,aF w.params im ρ v x→ae (pw w im ρ H h b x) (f v)) (v:V) (x:Value) (r:aF w.params im ρ v x):ae (pw w im ρ H h b x) (EP f H b v):=by
 have key:∀ v,aF w.params im ρ v x→ae (pw w im ρ H h b x) (bif cy b v then some v else none):=fun v r=>ae.de fun q=>ae.bO (r.cut (w4 R) q:pw w im ρ H h b x v)
 cases v with
 |ref i=>exact r.iy fun p a4=>ae.c (fun q=>Qa R aI a4 (Nat.ble_eq.mp q)) fun q=>ae.bO (aF.ref (by rw[List.getElem?_take_of_lt (Nat.lt_of_not_le fun z=>by rw[Nat.ble_eq.mpr z] at q;exact eD q)];exact a4))
 |tup vs=>exact r.f5 fun a xs m ao bb z=>ae.m fun us h1=>aF.tup (w4 R _ _ ao) (F6 aI bb us h1) z
 |_=>exact key _ r
theorem Qc {H:List aj}{h:Heap}(R:Rep w im ρ H h) (n:Nat):∀ v x,aF w.params im ρ v x→ae (pw w im ρ H h b x) (gG H b n v):=by
 induction n with
 |zero=>exact fun _ _ _=>ae.no
 |succ n aI=>exact Qb R aI
end
section
variable {w:World}{c c' : br}{ls:List (Str×V)}{st st' : ax}{h h' : Heap}{v u:V}{x:Value}{b:Nat}{H:List aj}
theorem aH.cut (R:aH w c ls H h) (aw:(H.take b).all (cE b)=true) (hl:∀ x v,look x ls=some v→cy b v=true):aH w {c with im:=i4 c.im c.ρ H h b,ρ:=c.ρ.take b} ls (H.take b) h:=by
 have c1:=R.rep
 have le:=w4 (b:=b) c1
 have az:∀{α:Type}{l:List α}{i:Nat}{y:α},(l.take b)[i]?=some y→l[i]?=some y∧i<b:=by
  intro α l i y e
  have aM:i<b:=Nat.lt_of_lt_of_le (List.getElem?_eq_some_iff.mp e).1 (by rw[List.length_take];exact Nat.min_le_left _ _)
  exact ⟨by rw[List.getElem?_take_of_lt aM] at e;exact e,aM⟩
 have no:∀{a},Own (c.ρ.take b) (H.take b) a→Own c.ρ H a∧¬ uh c.ρ H b a:=by
  rintro a ⟨i,p,o,ao,aC,m⟩
  obtain ⟨ao,aM⟩:=az ao
  obtain ⟨aC,_⟩:=az aC
  refine ⟨⟨i,p,o,ao,aC,m⟩,fun ⟨j,p',o',dZ,hI,iX,f6⟩=>?_⟩
  have:=c1.sep ao aC m hI iX f6
  omega
 refine ⟨?_,⟨by rw[List.length_take,List.length_take,c1.len],?_,?_,?_,?_⟩,fun a o x y z=>le _ _ (R.dh a o x y z),R.keep,fun {a} q=>R.own (no q).1,R.fr.1,?_⟩
 ·obtain ⟨m,l,bc⟩:=R.ns
  exact ⟨m,fun x v e=>let ⟨a,c9,q⟩:=l x v e;⟨a,c9,q.cut le (hl x v e)⟩,bc⟩
 ·intro i p o ao aC
  refine gU.cut le (c1.at_ (az ao).1 (az aC).1) ?_
  exact List.all_eq_true.mp aw o (List.mem_of_getElem? aC)
 ·intro i j p q o o' a ao aC m hI iX f6
  exact c1.sep (az ao).1 (az aC).1 m (az hI).1 (az iX).1 f6
 ·intro a o e
  have e:i4 c.im c.ρ H h b a=some o:=e
  unfold i4 at e
  split at e
  ·exact e
  ·exact c1.cM e
 ·intro a q
  show i4 c.im c.ρ H h b a=none
  unfold i4
  rw[if_neg (no q).2];exact c1.ju (no q).1
 ·show i4 c.im c.ρ H h b c.L=none
  unfold i4
  rw[if_neg fun q=>(R.own q.own).2 rfl];exact R.fr.2
theorem F7 {P:Prop}(hf:fin b v st=some (u,st')) (k:gG st.H b 8 v=some u→(st.H.take b).all (cE b)=true→st'=⟨st.H.take b,st.aa⟩→P):P :=
 jt hf fun pd h1 h=>by
  cases q:(st.H.take b).all (cE b) with
  |true=>rw[q] at h;obtain ⟨rfl,rfl⟩:=D1 h;exact k h1 q rfl
  |false=>rw[q] at h;exact ba h
theorem AV (hf:fin b v st=some (u,st')) (R:aH w c' ls st.H h') (n:b3 h c h' c') (g6:c.ρ.length=b) (hl:∀ x v,look x ls=some v→cy b v=true) (r:aF w.params c'.im c'.ρ v x) :
 st'.aa=st.aa∧∃ bw,b3 h c h' bw∧aH w bw ls st'.H h'∧aF w.params bw.im bw.ρ u x∧bw.kept=c'.kept∧bw.L=c'.L:=by
 refine F7 hf fun h1 q ao=>?_
 subst ao
 ·refine ⟨rfl,{c' with im:=i4 c'.im c'.ρ st.H h' b,ρ:=c'.ρ.take b},⟨⟨n.le.kept,n.le.L,fun a o e=>w4 R.rep _ _ (n.le.im a o e),fun i p e=>?_,fun a o e=>?_⟩,n.aP⟩,R.cut q hl,Qc R.rep _ _ _ r _ h1,rfl,rfl⟩
  ·show (c'.ρ.take b)[i]?=_
   rw[List.getElem?_take_of_lt (g6▸(List.getElem?_eq_some_iff.mp e).1)];exact n.le.ρ i p e
  ·have e:i4 c'.im c'.ρ st.H h' b a=some o:=e
   unfold i4 at e
   split at e
   ·rename_i z
    obtain ⟨dj,eu⟩:=R.own z.own
    exact .inr (.inr ⟨by rw[←n.le.kept];exact dj,by rw[←n.le.L];exact eu⟩)
   ·exact n.le.new a o e
end
noncomputable def Qd (fi:eS) (y:Nat×Str):Bool:=seq y.2 (fi.fd.qualname ++ ".<locals>." ++ "<lambda>")&&(ph fi.fd.code).any fun a=>(Nat.beq y.1 0&&Nat.beq a 889) || (Nat.beq y.1 1&&Nat.beq a 953)
noncomputable def w5 (fi:eS):Bool:=fi.tab.elim true (Qd fi)
noncomputable def AW (fi:eS):Bool:=fi.ps.all (fun x=>h3 (look x fi.fd.scope.names) || o9 (look x fi.fd.scope.names))&&(mW (ee fi.fd.scope.names)&&(mW fi.ps&&(fi.fd.closure.isEmpty&&(w5 fi&&(ee fi.fd.scope.names).all (fun x=>o9 (look x fi.fd.scope.names))))))
noncomputable def F8:Data→Option (Array Value)
 |.fields vs=>some vs
 |_=>none
noncomputable def F9 (T:BT) (c:Addr) (q:Str):Option Bool:=(T.get c).bind fun o=>(F8 o.data).bind fun vs=>vs[1]?.bind fun x=>(ri x).map fun y=>o2 o&&(Nat.blt c 955&&decide (y=q))
noncomputable def codeOk (T:BT) (fd:FuncData):Bool:=((ph fd.code).bind fun c=>F9 T c fd.qualname).getD false
theorem Qe {d:Data}{vs:Array Value}(h:F8 d=some vs):d=.fields vs:=by cases d <;> first |exact ba h |exact congrArg Data.fields (cc h)
theorem Qf:∀{o:Option Bool},o.getD false=true→o=some true
 |some true,_=>rfl
theorem Qg {w:World}{h:Heap}(X:eQ w h) {c:Addr}{q:Str}:ae (fun b=>b=true→h.CodeRec (.ref c) q) (F9 (full w.params) c q) :=
 ae.b fun o aB=>ae.b fun vs bu=>ae.b fun x dC=>ae.m fun y eF z=>by
  obtain ⟨t,eF⟩:=Ax eF
  obtain ⟨aS,bf⟩:=Bool.and_eq_true_iff.mp z
  obtain ⟨bf,dU⟩:=Bool.and_eq_true_iff.mp bf
  exact ⟨c,o,vs,t,rfl,X c o aB aS bf,Qe bu,by rw[dC,eF,of_decide_eq_true dU]⟩
theorem Ga {w:World}{h:Heap}{fd:FuncData}(X:eQ w h) (e:codeOk (full w.params) fd=true):h.CodeRec fd.code fd.qualname :=
 jt (Qf e) fun c h1 af=>by rw[tY h1];exact Qg X _ af rfl
structure w6 (w:World) (f:Addr) (fi:eS):Prop where
 at_:(full w.params).get f=some ⟨.type "function",none,.func fi.fd,#[]⟩
 lt:Nat.blt f 955=true
 code:codeOk (full w.params) fi.fd=true
 kind:fi.fd.scope.kind=.function
 glob:fi.fd.globals=3
 blt:fi.fd.builtins=0
 co:fi.fd.scope.isCoroutine=false
 gen:fi.fd.scope.isGenerator=false
 sc:AW fi=true
 body:fi.fd.body=.stmts fi.body
noncomputable def Gb (T:BT) (x:Addr×eS):Bool:=Nat.blt x.1 955&&(codeOk T x.2.fd&&((x.2.fd.scope.kind == .function)&&(Nat.beq x.2.fd.globals 3&&(Nat.beq x.2.fd.builtins 0&&(!x.2.fd.scope.isCoroutine&&(!x.2.fd.scope.isGenerator&&(AW x.2&&Nat.ble x.2.ps.length 6)))))))
theorem Qh (p:Params):dF.all (Gb (full p))=true:=by kernel_rfl
theorem Qi (p:Params):(dF.map fun x=>(full p).get x.1)=dF.map fun x=>some ⟨.type "function",none,.func x.2.fd,#[]⟩:=by kernel_rfl
theorem Qj:(dF.map fun x=>x.2.fd.body)=dF.map fun x=>.stmts x.2.body:=by kernel_rfl
theorem Qk (a b c d e f:Value):((dF.filter fun x=>x.2.iY.isEmpty).map fun x=>bindArgs x.2.fd ⟨List.take x.2.ps.length [a,b,c,d,e,f],[]⟩)=(dF.filter fun x=>x.2.iY.isEmpty).map fun x=>pure (x.2.ps.zip (List.take x.2.ps.length [a,b,c,d,e,f])):=by kernel_rfl
theorem six {xs:List Value}{n:Nat}(h:n≤6) (e:xs.length=n):∃ a b c d e f,xs=List.take n [a,b,c,d,e,f]:=by
 subst e
 match xs,h with
 |[],_=>exact ⟨.none,.none,.none,.none,.none,.none,rfl⟩
 |[a],_=>exact ⟨a,.none,.none,.none,.none,.none,rfl⟩
 |[a,b],_=>exact ⟨a,b,.none,.none,.none,.none,rfl⟩
 |[a,b,c],_=>exact ⟨a,b,c,.none,.none,.none,rfl⟩
 |[a,b,c,d],_=>exact ⟨a,b,c,d,.none,.none,rfl⟩
 |[a,b,c,d,e],_=>exact ⟨a,b,c,d,e,.none,rfl⟩
 |[a,b,c,d,e,f],_=>exact ⟨a,b,c,d,e,f,rfl⟩
 |_::_::_::_::_::_::_::_,h=>exact absurd h (by simp only[List.length_cons];omega)
noncomputable def Gd (fd:FuncData) (b:List Stmt):eS:=⟨fd,[⟨⟨[115,101,108,102]⟩⟩,⟨⟨[111,112]⟩⟩,⟨⟨[97,114,103]⟩⟩],[.none],b,none,false⟩
theorem Ql:(dF.filter fun x=>!x.2.iY.isEmpty)=[(220,Gd qG D3.1),(368,Gd qH D7.1)]:=by kernel_rfl
theorem Qm (w:World) (s:Shared) (K:eQ w s.heap) (x0 df eI:Value):BindsTo s qG ⟨[x0,df,eI],[]⟩ [(⟨⟨[115,101,108,102]⟩⟩,x0),(⟨⟨[111,112]⟩⟩,df),(⟨⟨[97,114,103]⟩⟩,eI)]:=by
 refine BindsTo.of_defaults (T:=213) (o:=dJ [.none]) (items:=#[.none]) (n:=0) (by kernel_rfl) (K 213 _ (by kernel_rfl) (by kernel_rfl) (by kernel_rfl)) rfl (by rfl) (by rfl)
theorem Qn (w:World) (s:Shared) (K:eQ w s.heap) (x0 df:Value):BindsTo s qG ⟨[x0,df],[]⟩ [(⟨⟨[115,101,108,102]⟩⟩,x0),(⟨⟨[111,112]⟩⟩,df),(⟨⟨[97,114,103]⟩⟩,Value.none)]:=by
 refine BindsTo.of_defaults (T:=213) (o:=dJ [.none]) (items:=#[.none]) (n:=0) (by kernel_rfl) (K 213 _ (by kernel_rfl) (by kernel_rfl) (by kernel_rfl)) rfl (by rfl) (by rfl)
theorem Qo (w:World) (s:Shared) (K:eQ w s.heap) (x0 df eI:Value):BindsTo s qH ⟨[x0,df,eI],[]⟩ [(⟨⟨[115,101,108,102]⟩⟩,x0),(⟨⟨[111,112]⟩⟩,df),(⟨⟨[97,114,103]⟩⟩,eI)]:=by
 refine BindsTo.of_defaults (T:=361) (o:=dJ [.none]) (items:=#[.none]) (n:=0) (by kernel_rfl) (K 361 _ (by kernel_rfl) (by kernel_rfl) (by kernel_rfl)) rfl (by rfl) (by rfl)
theorem Qp (w:World) (s:Shared) (K:eQ w s.heap) (x0 df:Value):BindsTo s qH ⟨[x0,df],[]⟩ [(⟨⟨[115,101,108,102]⟩⟩,x0),(⟨⟨[111,112]⟩⟩,df),(⟨⟨[97,114,103]⟩⟩,Value.none)]:=by
 refine BindsTo.of_defaults (T:=361) (o:=dJ [.none]) (items:=#[.none]) (n:=0) (by kernel_rfl) (K 361 _ (by kernel_rfl) (by kernel_rfl) (by kernel_rfl)) rfl (by rfl) (by rfl)
section
variable {w:World}
theorem Ge {a:Addr}{fi:eS}(h:c2 a dF=some fi):w6 w a fi∧fi.ps.length≤6:=by
 have m:=wH h
 have z:=List.all_eq_true.mp (Qh w.params) _ m
 simp only[Gb,Bool.and_eq_true,beq_iff_eq,Bool.not_eq_true'] at z
 obtain ⟨h1,af,aB,bu,dC,eF,eT,m4,og⟩:=z
 exact ⟨⟨List.map_inj_left.mp (Qi w.params) _ m,h1,af,aB,Nat.eq_of_beq_eq_true bu,Nat.eq_of_beq_eq_true dC,eF,eT,m4,List.map_inj_left.mp Qj _ m⟩,Nat.le_of_ble_eq_true og⟩
theorem w7 {a:Addr}{fi:eS}(h:c2 a dF=some fi):w6 w a fi:=(Ge h).1
theorem w6.get {f:Addr}{fi:eS}(F:w6 w f fi) {h:Heap}(X:eQ w h):h.get? f=some ⟨.type "function",none,.func fi.fd,#[]⟩:=X f _ F.at_ rfl F.lt
theorem Qq (w:World) {a:Addr}{fi:eS}(h:c2 a dF=some fi) (d:fi.iY.isEmpty=true) (xs:List Value) (l:xs.length=fi.ps.length):bindArgs fi.fd ⟨xs,[]⟩=pure (fi.ps.zip xs):=by
 obtain ⟨df,eI,l4,l5,px,AX,e⟩:=six (Ge (w:=w) h).2 l
 rw[e];exact List.map_inj_left.mp (Qk df eI l4 l5 px AX) _ (List.mem_filter.mpr ⟨wH h,d⟩)
noncomputable def Qr (w:World) (fi:eS):Prop:=fi.iY=[.none]∧ee fi.fd.scope.names=[]∧(∀(s:Shared) (xs:List Value),eQ w s.heap→xs.length=fi.ps.length→BindsTo s fi.fd ⟨xs,[]⟩ (fi.ps.zip xs))∧∀(s:Shared) (xs:List Value),eQ w s.heap→xs.length+1=fi.ps.length→BindsTo s fi.fd ⟨xs,[]⟩ (fi.ps.zip (xs++[Value.none]))
theorem Qs {a:Addr}{fi:eS}(h:c2 a dF=some fi) (d:(!fi.iY.isEmpty)=true):Qr w fi:=by
 have m:(a,fi)∈dF.filter fun x=>!x.2.iY.isEmpty:=List.mem_filter.mpr ⟨wH h,d⟩
 rw[Ql] at m
 rcases List.mem_cons.mp m with e |m
 ·rw[(Prod.mk.inj e).2];exact ⟨rfl,by kernel_rfl,fun s xs K l=>by obtain ⟨a,b,c,_,_,_,e⟩:=six (n:=3) (by decide) l;rw[e];exact Qm w s K a b c,fun s xs K l=>by obtain ⟨a,b,_,_,_,_,e⟩:=six (n:=2) (by decide) (Nat.succ.inj l);rw[e];exact Qn w s K a b⟩
 ·rw[(Prod.mk.inj (List.mem_singleton.mp m)).2];exact ⟨rfl,by kernel_rfl,fun s xs K l=>by obtain ⟨a,b,c,_,_,_,e⟩:=six (n:=3) (by decide) l;rw[e];exact Qo w s K a b c,fun s xs K l=>by obtain ⟨a,b,_,_,_,_,e⟩:=six (n:=2) (by decide) (Nat.succ.inj l);rw[e];exact Qp w s K a b⟩
theorem Qt {x:Value}{c:br}{ls:List (Str×V)}{H:List aj}{h:Heap}(e:ES x=true) (P:aH w c ls H h):od w x h:=by
 have K:eQ w h:=mX P.dh fun _ _=>P.rep.cM
 cases x with
 |ref a =>
  cases hf:c2 a dF with
  |some fi=>exact ⟨.frame,.inl rfl,(Looks.ld (part:=none) ((w7 hf).get K)).andThen .now⟩
  |none =>
   have e:((c2 a dF).isSome || (c2 a hJ).isSome)=true:=e
   rw[hf] at e
   obtain ⟨ci,aw⟩:=Option.isSome_iff_exists.mp e
   have Y:=makes_of (M:=aU w) (kd_in P.dh fun _ _=>P.rep.cM) (n5 (pk w.params aw).1).2.2.2.2.2
   obtain ⟨t2,iD,cd,fQ,c8,_⟩:=Y.obj
   exact ⟨.machine,.inr (.inl rfl),(Looks.ld (part:=none) c8).andThen (Y.call.andThen .now)⟩
 |builtin id=>exact ⟨.machine,.inr (.inl rfl),.now⟩
 |type id=>exact ⟨.machine,.inr (.inl rfl),.now⟩
 |_=>exact dv e
theorem Gf {pq:V}{g:Value}{c:br}{ls:List (Str×V)}{H:List aj}{h:Heap}(e:calleeOk pq=true) (P:aH w c ls H h) (oe:aF w.params c.im c.ρ pq g):od w g h:=by
 cases pq with
 |obj x=>exact oe.objE (Qt e P)
 |lam ps body sc =>
  exact oe.Ep fun a l=>by
   obtain ⟨name,qual,pm,c',kV,ao,_⟩:=l
   exact ⟨.frame,.inl rfl,(Looks.ld (part:=none) (P.rep.cM ao)).andThen .now⟩
 |fD f Zy =>
  obtain ⟨fi,hf⟩:=Option.isSome_iff_exists.mp (show (c2 f dF).isSome=true from e)
  exact oe.Er fun y a ao v1=>⟨.boundFrame,.inr (.inr rfl),(Looks.ld (part:=none) (P.rep.cM ao)).andThen ((Looks.ld (part:=none) ((w7 hf).get (mX P.dh fun _ _=>P.rep.cM))).andThen .now)⟩
 |_=>exact dv e
variable {R:dR}{A:Around}{c:br}{st st' : ax}{s:Shared}{n:Nat}{fr:a5}{env:Env}{r:V}{Q:Value→Shared→Prop}
theorem Qu {o:PySem.Expr}{nm:Str}{ap pos:Pos}{args:List PySem.Expr}(bt:baseOk o=true) (hl:Nat.beq ap.endLine pos.line=true) (bc:Nat.blt args.length 30=true) (ak:(backTo pos (starEach args env)).any (·.1)=false)
 (h:wpAny (aU w) A (eval o env) (fun fS dS=>∀ c0,wpAny (aU w) A (getMethod fS nm c0) (fun pv jG=>wpAny (aU w) A (callWith pos pv.1 pv.2 (backTo pos (starEach args env)) []) Q bo jG) bo dS) bo s) :
 wpAny (aU w) A (eval (.Call (.Attribute o nm ap) args [] pos) env) Q bo s:=by
 have Qv:methodCallForm (args.length+0) (backTo pos (starEach args env)) (backToKw pos (keywordEach [] env))=true:=by
  unfold methodCallForm
  have ao:(backTo pos (starEach args env)).all (fun x=>!x.1)=true:=by
   rw[List.all_eq_true]
   intro x m
   have:=List.any_eq_false.mp ak x m
   simpa using this
  rw[ao]
  have:=Nat.blt_eq.mp bc
  show (true&&true&&decide (args.length+0+0<30))=true
  simp only[Bool.true_and,decide_eq_true_eq];omega
 rw[arm_eval_Call,F2 bt]
 refine wpAny_bind (wpAny_mono h (fun fS dS k5=>wpAny_bind (wpAny_standAt ?_)) fun _ _ x=>x)
 unfold methodCall
 rw[show args.length+([]:List Keyword).length=args.length+0 from rfl,Qv]
 refine wpAny_bind (wpAny_holding ?_)
 show wpAny _ _ (getMethod fS nm _) _ _ _
 refine wpAny_mono (k5 _) (fun pv jG oh=>?_) fun _ _ x=>x
 have aC:methodCallPos true o env ap pos=pure pos:=by
  unfold methodCallPos
  rw[show (ap.endLine == pos.line)=true from by rw[Nat.eq_of_beq_eq_true hl];simp]
  rfl
 refine wpAny_bind (wpAny_of_eq aC ?_)
 exact oh
theorem call_plain {f:PySem.Expr}{args:List PySem.Expr}{pos:Pos}(h:lR f=none):eval (.Call f args [] pos) env=(do callWith pos (←eval f env) [] (backTo pos (starEach args env)) (backToKw pos (keywordEach [] env))):=by
 cases f <;> first |rfl |exact ba h.symm
theorem Qw (S:bP w R) {o:PySem.Expr}{nm:Str}{ap pos:Pos}{args:List PySem.Expr}{x g y z}(q:(baseOk o&&Nat.beq ap.endLine pos.line&&Nat.blt args.length 30)=true) (h1:R.ev n fr o st=some x) (af:kf x.1 nm x.2=some g) (ea:calleeOk g.1=true) (aB:f7 R n fr args x.2=some y) (bu:R.cl n g.1 (g.2++y.1) y.2=some z) :
 f9 w n fr (.Call (.Attribute o nm ap) args [] pos) st z:=by
 obtain ⟨q,dU⟩:=Bool.and_eq_true_iff.mp q
 obtain ⟨aS,bf⟩:=Bool.and_eq_true_iff.mp q
 exact ⟨fun o=>S.dm h1 (oc S aB (S.ue bu o)),fun aa A c env s aE F P Q k=>Qu aS bf dU ((ob S _ _ aB).2.2.1 env pos) (S.ev h1 (oc S aB (S.ue bu aa)) aE F P fun aK bX bK x aG aX v1 c0 =>
  OU (s:=a8 s bX bK) af aX v1 fun az y ys m5 Qx=>F3 (s:=a8 s bX az) S aB bu aa (fun c h P v=>Gf ea P v) aE (F.cB aG) aX m5 Qx (k.h9 aG))⟩
theorem Qy (S:bP w R) {f:PySem.Expr}{pos:Pos}{args:List PySem.Expr}{g y z}(q:lR f=none) (h1:R.ev n fr f st=some g) (ea:calleeOk g.1=true) (aB:f7 R n fr args g.2=some y) (bu:R.cl n g.1 y.1 y.2=some z):f9 w n fr (.Call f args [] pos) st z :=
 ⟨fun o=>S.dm h1 (oc S aB (S.ue bu o)),fun aa A c env s aE F P Q k=>Call_ (S.ev h1 (oc S aB (S.ue bu aa)) aE F P fun aK bX bK x aG aX v1 =>
  F3 (s:=a8 s bX bK) S aB bu aa (first:=[]) (fun c h P v=>Gf ea P v) aE (F.cB aG) aX v1 .nil (k.h9 aG)) (call_plain q)⟩
theorem Gg (S:bP w R) {f:PySem.Expr}{args:List PySem.Expr}{gV:List Keyword}{pos:Pos}:ae (f9 w n fr (.Call f args gV pos) st) (tN R n fr f args gV pos st) :=
 ae.de fun ar=>ae.o (fun y bU=>ae.de fun q=>ae.b fun x h1=>ae.b fun g af=>ae.de fun ea=>ae.b fun v aB z bu=>by rw[List.isEmpty_iff.mp ar,N8 bU];exact Qw S q h1 af ea aB bu)
  fun bc=>ae.b fun g h1=>ae.de fun ea=>ae.b fun v aB z bu=>by rw[List.isEmpty_iff.mp ar];exact Qy S bc h1 ea aB bu
theorem ui {b:Nat}{v u:V}(h:fin b v st=some (u,st')) (o:st'.aa):st.aa:=F7 h fun _ _ e=>by rw[e] at o;exact o
theorem Qz {ls:List (Str×V)}{H:List aj}{h:Heap}(P:aH w c ls H h):∀ x v,look x ls=some v→cy H.length v=true:=fun x v e=>by
 obtain ⟨m,l,_⟩:=P.ns
 obtain ⟨a,_,q⟩:=l x v e
 rw[←P.rep.len];exact q.el
theorem QA {e:PySem.Expr}{x z}(h:f9 w n fr e st x) (af:fin st.H.length x.1 x.2=some z):f9 w n fr e st z :=
 ⟨fun o=>h.1 (ui af o),fun aa A c env s aE F P Q k=>h.2 (ui af aa) aE F P _ fun aK bX bK x aG aX v1=>by
  obtain ⟨_,bw,a3,b8,v2,_⟩:=AV af aX aG P.rep.len (Qz P) v1
  exact k bw bX bK x a3 b8 v2⟩
theorem QB (S:bP w R) {f:PySem.Expr}{args:List PySem.Expr}{gV:List Keyword}{pos:Pos}:ae (f9 w n fr (.Call f args gV pos) st) (pg R n fr (.Call f args gV pos) st) :=
 ae.c (fun _=>ae.b fun x h1 _ af=>QA (Gg S x h1) af) fun _=>Gg S
end
theorem QC {k n:Nat}:Builtin.Str.strSliceIndices none (some (k:Int)) 1 n=Builtin.Str.strSliceIndices none (some ((min k n:Nat):Int)) 1 n:=by
 unfold Builtin.Str.strSliceIndices
 simp only[Int.not_lt.mpr (Int.natCast_nonneg k),Int.not_lt.mpr (Int.natCast_nonneg (min k n)),show (1:Int) > 0 by decide,if_true,if_false]
 rcases Nat.le_total k n with h |h
 ·rw[Nat.min_eq_left h]
 ·rw[Nat.min_eq_right h,Int.min_eq_right (Int.ofNat_le.mpr h),Int.min_self]
theorem QD (k n:Nat):min (k:Int) n=((min k n:Nat):Int):=by
 rcases Nat.le_total k n with h |h
 ·rw[Nat.min_eq_left h,Int.min_eq_left (Int.ofNat_le.mpr h)]
 ·rw[Nat.min_eq_right h,Int.min_eq_right (Int.ofNat_le.mpr h)]
theorem QE {x:Str}{k:Nat}:Txt.slice x none (some (k:Int))=⟨⟨x.cps.toList.take k⟩⟩:=by
 have ao:Txt.slice x none (some (k:Int))=Txt.slice x none (some ((min k x.length:Nat):Int)):=by
  unfold Txt.slice
  rw[QC]
 rw[ao,eq_of_beq (slice_closes_to (x:=x) (j:=((min k x.length:Nat):Int)) ⟨Int.natCast_nonneg _,Int.ofNat_le.mpr (Nat.min_le_right _ _)⟩)]
 congr 1
 show ((x.cps.toList.take (((min k x.length:Nat):Int) - 0).toNat).toArray:Array Nat)=(x.cps.toList.take k).toArray
 rw[Int.sub_zero,Int.toNat_natCast]
 congr 1
 exact (List.take_eq_take_min).symm
theorem QF {xs:List Value}{k:Nat}:slicePick xs.toArray none (some (k:Int)) none=(xs.take k).toArray:=slicePick_upto' _ _
section
variable {w:World}{R:dR}{A:Around}{c:br}{st st' : ax}{s:Shared}{ls:List (Str×V)}{n:Nat}{fr:a5}{env:Env}{r:V}{Q:Value→Shared→Prop}
theorem QG {fQ:Addr}{k m:Nat}{u:Tok}{Q:Int×Int×Nat→Shared→Prop}(ak:s.heap.IsSliceOf fQ .none (.int (k:Int) u) .none) (h:Q ((0:Int),1,min k m) s) :
 wpAny (aU w) A (Builtin.Slice.sliceApplied (.ref fQ) (pure (m:Int))) Q bo s:=by
 obtain ⟨os,uj,ru,rn⟩:=id ak
 unfold Builtin.Slice.sliceApplied Builtin.Slice.sliceFields
 refine wpAny_bind (wpAny_bind (wpAny_field uj rn (x:=.none) rfl (wpAny_bind (wpAny_field uj rn (x:=.int k u) rfl (wpAny_bind (wpAny_field uj rn (x:=.none) rfl (wpAny_pure ?_)))))))
 refine wpAny_bind (slicePart_none ?_)
 show wpAny _ _ (if ((1:Int) == 0)=true then _ else _) _ _ s
 rw[if_neg (by decide)]
 refine wpAny_bind (slicePart_none (wpAny_bind (slicePart_int (wpAny_bind (wpAny_pure ?_)))))
 have ao:Builtin.Slice.sliceAdjust none (some (k:Int)) 1 (m:Int)=(0,((min k m:Nat):Int)):=by
  unfold Builtin.Slice.sliceAdjust
  simp only[show ¬ (1:Int)<0 by decide,Int.not_lt.mpr (Int.natCast_nonneg k),if_false,QD]
 show wpAny _ _ (match Builtin.Slice.sliceAdjust none (some (k:Int)) 1 (m:Int) with |(lo,aM)=>pure (lo,(1:Int),Builtin.Slice.slicePlaces lo aM 1)) _ _ s
 rw[ao]
 show wpAny _ _ (pure ((0:Int),(1:Int),Builtin.Slice.slicePlaces ((0:Nat):Int) ((min k m:Nat):Int) 1)) _ _ s
 rw[places_from 0 (min k m) (Nat.zero_le _)]
 exact wpAny_pure h
theorem QH (xs:List Value) (k:Nat) (ar:k≤xs.length):((List.range k).filterMap fun (i:Nat)=>xs.toArray[((0:Int)+(i:Int) * 1).toNat]?).toArray=(xs.take k).toArray:=by
 have e:(fun (i:Nat)=>xs.toArray[((0:Int)+(i:Int) * 1).toNat]?)=fun i=>xs[i]?:=by
  funext i
  rw[Int.mul_one,Int.zero_add,Int.toNat_natCast,List.getElem?_toArray]
 rw[e]
 congr 1
 induction k with
 |zero=>simp
 |succ k aI =>
  rw[List.range_succ,List.filterMap_append,aI (by omega),List.take_add_one]
  simp
  have:k<xs.length:=by omega
  simp[this]
theorem QI {t fQ:Addr}{xs:List Value}{k j:Nat}{u:Tok}(bT:s.heap.get? t=some (hG xs k)) (ak:s.heap.IsSliceOf fQ .none (.int (j:Int) u) .none) (bZ:xs.length≤aL)
 (h1:xs.length≤j→Q (.ref t) s) (af:Q (.ref s.heap.objs.size) {s with heap:=s.heap.push (hG (xs.take j) 0)}):wpAny (aU w) A (getItem (.ref t) (.ref fQ)) Q bo s:=by
 obtain ⟨os,uj,ru,rn⟩:=id ak
 have fm:s.TypeIs (.ref t) "tuple":=⟨_,bT,rfl⟩
 have j6:IsTup s.heap t xs.toArray:=⟨_,bT,rfl,k,rfl⟩
 have QJ:s.TypeIs (.ref fQ) "slice":=⟨os,uj,ru⟩
 unfold getItem
 refine wpAny_holding ?_
 refine wpAny_bind (wpAny_sequenceKey fm (by decide) ?_)
 refine wpAny_bind (wpAny_callSpecial?_slot (name:=Str.ofString "__getitem__") fm F.slot_tuple_getitem
  (wpAny_call_entry F.slot_tuple_getitem fm F.entry_tuple_getitem ?_ (F.args_tuple_getitem_2 _ _)))
 show wpAny _ _ (Builtin.Tuple.tupleItemsOf (.ref t) >>= _) _ _ s
 refine wpAny_bind (tupleItemsOf_ j6 ?_)
 refine wpAny_bind (wpAny_typeOf QJ ?_)
 rw[if_pos (by decide)]
 refine wpAny_bind (QG ak ?_)
 by_cases q:xs.length≤j
 ·have e:((0:Int) == 0&&(1:Int) == 1&&(min j xs.toArray.size) == xs.toArray.size)=true:=by
   rw[List.size_toArray,Nat.min_eq_right q];simp
  show wpAny _ _ (if ((0:Int) == 0&&(1:Int) == 1&&(min j xs.toArray.size) == xs.toArray.size)=true then _ else _) _ _ s
  rw[if_pos e]
  have ex:∀{m6:Around}{Q:Bool→Shared→Prop},Q true s→wpAny (aU w) m6 (Builtin.Tuple.tupleIsExact (.ref t)) Q bo s:=fun {m6 Q} h=>by
   unfold Builtin.Tuple.tupleIsExact
   exact wpAny_bind (wpAny_typeOf fm (wpAny_pure (by simpa using h)))
  refine wpAny_bind (ex ?_)
  first
   |exact wpAny_bind (wpAny_rule (wpAny_pure ⟨_,rfl,wpAny_pure (h1 q)⟩))
   |exact wpAny_bind (wpAny_rule (wpAny_bind (wpAny_pure (wpAny_pure ⟨_,rfl,wpAny_pure (h1 q)⟩))))
   |(rw[if_pos rfl];exact wpAny_bind (wpAny_rule (wpAny_pure ⟨_,rfl,wpAny_pure (h1 q)⟩)))
 ·have QK : ¬ (((0:Int) == 0&&(1:Int) == 1&&(min j xs.toArray.size) == xs.toArray.size)=true):=by
   rw[List.size_toArray];simp;omega
  have w8:sizeOk (.seq (xs.take j).toArray):=by
   show (xs.take j).toArray.size≤sizeLine
   rw[List.size_toArray]
   exact Nat.le_trans (List.length_take_le' _ _) (n8 bZ)
  show wpAny _ _ (if ((0:Int) == 0&&(1:Int) == 1&&(min j xs.toArray.size) == xs.toArray.size)=true then _ else _) _ _ s
  rw[if_neg QK,QH xs (min j xs.toArray.size) (by rw[List.size_toArray];exact Nat.min_le_right _ _)]
  have cL:xs.take (min j xs.toArray.size)=xs.take j:=by rw[List.size_toArray];exact (List.take_eq_take_min).symm
  rw[cL]
  first
   |exact wpAny_bind (m:=Builtin.Tuple.tupleExact _) (wpAny_newObj_type (wpAny_pure ⟨_,rfl,wpAny_pure af⟩) w8)
   |exact wpAny_bind (m:=Builtin.Tuple.tupleExact _) (wpAny_newObj_type (wpAny_bind (wpAny_pure (wpAny_pure ⟨_,rfl,wpAny_pure af⟩))) w8)
   |exact wpAny_bind (wpAny_bind (m:=Builtin.Tuple.tupleExact _) (wpAny_newObj_type (wpAny_pure (wpAny_pure ⟨_,rfl,wpAny_pure af⟩)) w8))
   |exact wpAny_bind (wpAny_bind (m:=Builtin.Tuple.tupleExact _) (wpAny_newObj_type (wpAny_pure ⟨_,rfl,wpAny_pure af⟩) w8))
end
section
variable {w:World}{R:dR}{A:Around}{c:br}{st st' : ax}{s:Shared}{ls:List (Str×V)}{n:Nat}{fr:a5}{env:Env}{r:V}{Q:Value→Shared→Prop}
theorem QL {i1:PySem.Expr}{x:Str}{t:Tok}(q:Value):letTemporaryGo i1 (.str x t) q=pure ():=by
 cases i1 <;> rfl
theorem QM {x:Str}{k:Nat}(h:PyData.strOk x=true):PyData.strOk ⟨⟨x.cps.toList.take k⟩⟩=true:=by
 unfold PyData.strOk at *
 rw[←Array.all_toList,List.all_eq_true] at *
 intro c m
 exact h c (List.mem_of_mem_take m)
noncomputable abbrev lQ (y:Value):Obj:={cls:=.type "slice",data:=.fields #[.none,y,.none]}
noncomputable def w9 (w:World) (v k:V) (st:ax) (r:V×ax):Prop:=(r.2.aa→st.aa)∧∀{A c ls s h0 tk0 x y i1 lo aM p Q},aH w c ls st.H h0→aF w.params c.im c.ρ v x→aF w.params c.im c.ρ k y→kn w c ls (a8 s h0 tk0) r.1 r.2 Q →
 wpAny (aU w) A (subscriptTail i1 (.Slice lo aM none p) x (.ref h0.objs.size)) Q bo (a8 s (h0.push (lQ y)) tk0)
theorem AY {h0:Heap}{o:Obj}:b3 h0 c (h0.push o) c:=.keep fun b aa e=>Heap.get?_push_of_some _ e
section
variable {v:V}{i:Nat}{vs:List V}
theorem QN (aV:kg v st=some vs):w9 w v (.int (i:Int)) st (nT (.list (vs.take i)) st) :=
 ⟨fun o=>o,fun {A c ls s h0 tk0 x y i1 lo aM p Q} P h8 hM=>hM.e2 fun u k=>by
  have aX:aH w c ls st.H (h0.push (lQ (.int (i:Int) u))):=P.z7 _
  obtain ⟨a,xs,m,rfl,ao,bb,z⟩:=ub (s:=a8 s (h0.push (lQ (.int (i:Int) u))) tk0) aV aX h8
  refine tail_any (listAt ao).typeIs slot_list_getitem.lookup (wpAny_getItem_list_slice (listAt ao) (Heap.IsSliceOf.new h0 .none (.int (i:Int) u) .none) .none (.int _ _) .none (by simp) ?_ (by rw[List.size_toArray];exact n8 z)) (ops:=[.ref h0.objs.size,.ref a]) rfl
  rw[QF]
  obtain ⟨bw,a3,b8,v2⟩:=newList (s:=a8 s (h0.push (lQ (.int (i:Int) u))) tk0) (st:=st) (h':=(h0.push (lQ (.int (i:Int) u))).push (fE (xs.take i) 0)) (k:=0) aX (bb.take i) (Nat.le_trans (List.length_take_le' _ _) z) (fun b aa e=>Heap.get?_push_of_some _ e) (Nat.le_refl _) (Heap.get?_push_size _ rfl)
  exact k bw _ tk0 _ (AY.trans a3) b8 v2⟩
theorem QO {x:Str}(bZ:Nat.blt x.cps.toList.length 1000=true):w9 w (.str x) (.int (i:Int)) st (.str ⟨⟨x.cps.toList.take i⟩⟩,st) :=
 ⟨fun o=>o,fun {A c ls s h0 tk0 _ y i1 lo aM p Q} P h8 hM=>hM.e2 fun u=>h8.mO fun t ok k=>by
  refine tail_of_ItemOn (ops:=[.ref h0.objs.size,.str _ t]) (SBH.sliceItem_ns (s:=a8 s h0 tk0) (P:=fun h'=>∀ b aa,h0.get? b=some aa→h'.get? b=some aa) (fun h aa p b dr e=>Heap.get?_push_of_some _ (p b dr e)) (fun _ _ e=>e) (fun h' AN cx ar=>?_) (Nat.le_trans (Nat.le_of_lt (Nat.blt_eq.mp bZ:x.length<1000)) (by rw[sizeLine_eq];decide))) rfl fun q=>QL q
  rw[QE]
  exact k c h' cx _ (.keep ar) (P.grow (im':=c.im) ar (fun _ _ x=>x) fun _ _ x=>.inl x) (.str _ _ (QM ok))⟩
theorem QP:w9 w (.tup vs) (.int (i:Int)) st (.tup (vs.take i),st) :=
 ⟨fun o=>o,fun {A c ls s h0 tk0 _ y i1 lo aM p Q} P h8 hM=>hM.e2 fun u=>h8.f5 fun a xs m ao bb z k=>by
  have aX:aH w c ls st.H (h0.push (lQ (.int (i:Int) u))):=P.z7 _
  have fm:(a8 s (h0.push (lQ (.int (i:Int) u))) tk0).TypeIs (.ref a) "tuple":=⟨_,aX.rep.cM ao,rfl⟩
  refine tail_any fm F.slot_tuple_getitem.lookup (QI (s:=a8 s _ tk0) (aX.rep.cM ao) (Heap.IsSliceOf.new h0 .none (.int (i:Int) u)   .none) z (fun q=>?_) ?_) (ops:=[.ref h0.objs.size,.ref a]) rfl
  ·refine k c _ tk0 _ AY aX ?_
   rw[List.take_of_length_le (by rw[bb.length];exact q)]
   exact .tup ao bb z
  ·obtain ⟨bw,a3,b8,v2⟩:=FO (s:=a8 s (h0.push (lQ (.int (i:Int) u))) tk0) (st:=st) aX (bb.take i) (Nat.le_trans (List.length_take_le' _ _) z)
   exact k bw _ tk0 _ (AY.trans a3) b8 v2⟩
end
theorem QQ {v k:V}:ae (w9 w v k st) (Ag v k st):=ae.b fun i aM=>ae.de fun q=>by
 rw[h7 aM]
 obtain ⟨m,rfl⟩:=Int.eq_ofNat_of_zero_le (of_decide_eq_true (Bool.and_eq_true_iff.mp q).1)
 exact ae.o (fun vs bT=>ae.bO (by rw[n4 bT];exact QP)) fun _=>ae.o (fun x bA=>ae.de fun bZ=>ae.bO (by rw[rh bA];exact QO bZ)) fun _=>ae.m fun vs aV=>QN aV
theorem QR (S:bP w R) {o aM:PySem.Expr}{p pos:Pos}{x k z}(h1:R.ev n fr o st=some x) (af:R.ev n fr aM x.2=some k) (aB:Ag x.1 k.1 k.2=some z):f9 w n fr (.Subscript o (.Slice none (some aM) none p) pos) st z:=by
 have g:=QQ (w:=w) _ aB
 exact ⟨fun o=>S.dm h1 (S.dm af (g.1 o)),fun aa A c env s aE F P Q k=>Subscript_ (S.ev h1 (S.dm af (g.1 aa)) aE F P fun aK bX bK x aG aX v1=>wpAny_Slice (wpAny_pure (S.ev (s:=a8 s bX bK) af (g.1 aa) aE (F.cB aG) aX fun bw ct cU y a3 b8 v2 =>
  wpAny_pure (g.2 (s:=s) (tk0:=cU) b8 (v1.cB a3) v2 (k.h9 (aG.trans a3))))))⟩
theorem QS (S:bP w R) {o i:PySem.Expr}{pos:Pos}{x k u}(q:nP i=false) (h1:R.ev n fr o st=some x) (af:R.ev n fr i x.2=some k) (aB:jx x.1 k.1 k.2=some u):f9 w n fr (.Subscript o i pos) st (u,k.2) :=
 ⟨fun o=>S.dm h1 (S.dm af o),fun aa A c env s aE F P Q k=>Subscript_ (S.ug h1 af aa aE F P fun bw ct cU x y a3 b8 v1 v2=>O8 (s:=a8 s ct cU) aB q b8 v1 v2 fun az z QT=>k bw ct az z a3 b8 QT)⟩
theorem QU (S:bP w R) {o e:PySem.Expr}{pos:Pos}:ae (f9 w n fr (.Subscript o e pos) st) (pg R n fr (.Subscript o e pos) st) :=
 ae.o (fun y bU=>ae.de fun q=>ae.b fun aM bY=>ae.b fun x h1=>ae.b fun k af z aB=>by
  obtain ⟨p,rfl⟩:=Oa bU
  obtain ⟨aS,bf⟩:=Bool.and_eq_true_iff.mp q
  rw[Option.isNone_iff_eq_none.mp aS,Option.isNone_iff_eq_none.mp bf,bY]
  exact QR S h1 af aB)
  fun bc=>ae.b fun x h1=>ae.b fun k af=>ae.m fun u aB=>QS S (Oc bc) h1 af aB
end
section
variable {w:World}{c aK:br}{ls bJ:List (Str×V)}{H H1:List aj}{h h' h1:Heap}
open Classical in
noncomputable def e5 (ρ:c5) (H:List aj) (h:Heap):cq:=fun b=>if Own ρ H b then none else h.get? b
theorem oi {ρ:c5}{b:Addr}{o:Obj}:e5 ρ H h b=some o↔¬ Own ρ H b∧h.get? b=some o:=by
 unfold e5
 split
 ·rename_i q;simp[q]
 ·rename_i q;simp[q]
theorem AZ {ρ:c5}{b:Addr}(e:e5 ρ H h b=none):Own ρ H b∨h.get? b=none:=by
 unfold e5 at e
 split at e
 ·rename_i q;exact .inl q
 ·exact .inr e
theorem Rep.enter (c1:Rep w c.im c.ρ H h) (dh:hH w c.im) {C:Addr}{m:Str→Option Value}(ar:∀ b aa,h.get? b=some aa→h'.get? b=some aa) (bc:h'.Ns C m) (gY:kb w.params c.im c.ρ bJ m) (e1:h.get? C=none) :
 aH w ⟨e5 c.ρ H h,C,c.im,c.ρ⟩ bJ H h':=by
 refine ⟨⟨m,gY,bc⟩,⟨c1.len,fun {i p o} ao aC=>(c1.at_ ao aC).mono (fun _ _ x=>x) (fun _ _ x=>x) fun a m aa x=>ar a aa x,c1.sep,fun {a o} x=>ar _ _ (c1.cM x),c1.ju⟩,dh,fun {a o} x=>ar _ _ (oi.mp x).2,fun {a} x=>⟨?_,?_⟩,?_,?_⟩
 ·show e5 c.ρ H h a=none
  cases q:e5 c.ρ H h a with
  |none=>rfl
  |some o=>exact absurd x (oi.mp q).1
 ·rintro rfl
  obtain ⟨o,e⟩:=c1.here x
  rw[e1] at e;exact ba e
 ·show e5 c.ρ H h C=none
  cases q:e5 c.ρ H h C with
  |none=>rfl
  |some o=>rw[(oi.mp q).2] at e1;cases e1
 ·show c.im C=none
  cases q:c.im C with
  |none=>rfl
  |some o=>rw[c1.cM q] at e1;cases e1
theorem aH.enter (R:aH w c ls H h) {C:Addr}{m:Str→Option Value}(ar:∀ b aa,h.get? b=some aa→h'.get? b=some aa) (bc:h'.Ns C m) (gY:kb w.params c.im c.ρ bJ m) (e1:h.get? C=none) :
 aH w ⟨e5 c.ρ H h,C,c.im,c.ρ⟩ bJ H h':=R.rep.enter R.dh ar bc gY e1
theorem aH.back (R:aH w c ls H h) (c1:aH w aK bJ H1 h1) (ar:aK.kept=e5 c.ρ H h) (l1:e9 c.im aK.im) (l2:hq c.ρ aK.ρ) {C:Addr}(new:∀ a o,aK.im a=some o→c.im a=some o∨h.get? a=none∨(e5 c.ρ H h a=none∧a≠C)) :
 aH w {aK with kept:=c.kept,L:=c.L} ls H1 h1:=by
 obtain ⟨Zz,pz⟩:=R.wm
 have rl : ¬ Own c.ρ H c.L:=fun x=>(R.own x).2 rfl
 have cx:∀{b o},¬ Own c.ρ H b→h.get? b=some o→h1.get? b=some o:=fun {b o} n e=>c1.keep (by rw[ar];exact oi.mpr ⟨n,e⟩)
 refine ⟨?_,c1.rep,c1.dh,fun {a o} x=>cx (fun q=>?_) (R.keep x),fun {a} x=>⟨?_,?_⟩,R.fr.1,?_⟩
 ·obtain ⟨m,gY,bc⟩:=R.ns
  exact ⟨m,gY.mono l1 l2,o7 bc fun o e=>cx rl e⟩
 ·have z:=(R.own q).1;rw[x] at z;cases z
 ·have z:=(c1.own x).1
  rw[ar] at z
  show c.kept a=none
  rcases AZ z with y |y
  ·exact (R.own y).1
  ·cases q:c.kept a with
   |none=>rfl
   |some o=>rw[R.keep q] at y;cases y
 ·have z:=(c1.own x).1
  rw[ar] at z
  rcases AZ z with y |y
  ·exact (R.own y).2
  ·rintro rfl;rw[pz] at y;cases y
 ·show aK.im c.L=none
  cases q:aK.im c.L with
  |none=>rfl
  |some o =>
   rcases new _ _ q with y |y |y
   ·rw[R.fr.2] at y;exact ba y
   ·rw[pz] at y;cases y
   ·rw[oi.mpr ⟨rl,pz⟩] at y;cases y.1
theorem b3.back {C:Addr}(R:aH w c ls H h) (n:b3 h ⟨e5 c.ρ H h,C,c.im,c.ρ⟩ h1 aK):b3 h c h1 {aK with kept:=c.kept,L:=c.L} :=
 ⟨⟨rfl,rfl,n.le.im,n.le.ρ,fun a o e=>(n.le.new a o e).imp id fun q=>q.elim .inl fun q=>(AZ q.1).elim (fun x=>.inr (R.own x)) .inl⟩,n.aP⟩
theorem aH.Gh {a:Addr}(R:aH w c ls H h) (off:Off c H a) (ak:∀ b,b≠a→h'.get? b=h.get? b):aH w c ls H h':=by
 obtain ⟨fa,es,fP,f3⟩:=off
 have ar:∀ b aa,b≠a→h.get? b=some aa→h'.get? b=some aa:=fun b aa n e=>(ak b n).trans e
 refine ⟨?_,⟨R.rep.len,fun {i p o} ao aC=>(R.rep.at_ ao aC).mono (fun _ _ x=>x) (fun _ _ x=>x) fun b m aa x=>ar b aa (fun q=>fa ⟨i,p,o,ao,aC,q▸m⟩) x,R.rep.sep,fun {b aa} x=>ar b aa (fun q=>?_) (R.rep.cM x),R.rep.ju⟩,R.dh,fun {b aa} x=>ar b aa (fun q=>?_) (R.keep x),R.own,R.fr⟩
 ·obtain ⟨m,gY,bc⟩:=R.ns
  exact ⟨m,gY,o7 bc fun aa e=>ar _ _ (fun q=>es q.symm) e⟩
 ·rw[q,fP] at x;exact ba x
 ·rw[q,f3] at x;exact ba x
noncomputable def jH (K:cq) (as:List Addr) (h:Heap):cq:=fun b=>if b∈as then h.get? b else K b
theorem aH.hold {as:List Addr}(R:aH w c ls H h) (off:∀ a∈as,Off c H a):aH w {c with kept:=jH c.kept as h} ls H h:=by
 refine ⟨R.ns,R.rep,R.dh,fun {a o} x=>?_,fun {a} x=>⟨?_,(R.own x).2⟩,?_,R.fr.2⟩
 ·have x:jH c.kept as h a=some o:=x
  unfold jH at x
  split at x
  ·exact x
  ·exact R.keep x
 ·show jH c.kept as h a=none
  unfold jH
  rw[if_neg fun m=>(off a m).1 x];exact (R.own x).1
 ·show jH c.kept as h c.L=none
  unfold jH
  rw[if_neg fun m=>(off c.L m).2.1 rfl];exact R.fr.1
theorem aH.xa {as:List Addr}(R:aH w c ls H h) (off:∀ a∈as,Off c H a) (c1:aH w aK bJ H1 h1) (n:b3 h {c with kept:=jH c.kept as h} h1 aK):aH w {aK with kept:=c.kept} bJ H1 h1∧b3 h c h1 {aK with kept:=c.kept} ∧
 (∀ a∈as,h.get? a≠none→Off {aK with kept:=c.kept} H1 a∧h1.get? a=h.get? a):=by
 have sub:∀{b o},c.kept b=some o→aK.kept b=some o:=fun {b o} e=>by
  rw[n.le.kept]
  show jH c.kept as h b=some o
  unfold jH
  rw[if_neg fun m=>by rw[(off b m).2.2.2] at e;cases e];exact e
 have A0:aK.L=c.L:=n.le.L
 refine ⟨⟨c1.ns,c1.rep,c1.dh,fun {a o} x=>c1.keep (sub x),fun {a} x=>⟨?_,(c1.own x).2⟩,?_,c1.fr.2⟩,⟨⟨rfl,A0,n.le.im,n.le.ρ,fun a o e=>(n.le.new a o e).imp id fun q=>q.imp id fun q=>⟨?_,q.2⟩⟩,n.aP⟩,fun a m b2=>?_⟩
 ·show c.kept a=none
  cases q:c.kept a with
  |none=>rfl
  |some o=>have z:=(c1.own x).1;rw[sub q] at z;cases z
 ·show c.kept aK.L=none
  rw[A0];exact R.fr.1
 ·cases q:h.get? a with
  |none=>exact absurd q b2
  |some o =>
   have dM:aK.kept a=some o:=by
    rw[n.le.kept]
    show jH c.kept as h a=some o
    unfold jH
    rw[if_pos m];exact q
   refine ⟨⟨fun x=>?_,?_,?_,(off a m).2.2.2⟩,c1.keep dM⟩
   ·have z:=(c1.own x).1;rw[dM] at z;cases z
   ·show a≠aK.L
    rw[A0];exact (off a m).2.1
   ·show aK.im a=none
    cases y:aK.im a with
    |none=>rfl
    |some aa =>
     rcases n.le.new _ _ y with z |z |z
     ·have z:c.im a=some aa:=z;rw[(off a m).2.2.1] at z;exact ba z
     ·rw[q] at z;cases z
     ·rw[n.le.kept,z.1] at dM;exact ba dM
 ·cases z:c.kept a with
  |none=>rfl
  |some o=>have eu:=sub z;rw[n.le.kept,q.1] at eu;exact ba eu
theorem cO.kept {fr:a5}{env:Env}{K:cq}(F:cO c fr env):cO {c with kept:=K} fr env:=⟨F.sc,F.kind,F.loc,F.glob,F.blt,F.cs,F.tab,F.az⟩
end
section
set_option backward.match.sparseCases false
section
variable {w:World}{R:dR}{A:Around}{c:br}{st st' : ax}{s:Shared}{ls:List (Str×V)}{n:Nat}{fr:a5}{env:Env}{r:V}{Q:Value→Shared→Prop}{H:List aj}{h h' : Heap}
noncomputable def pairsOf (env:Env) (pos:Pos):List (Option PySem.Expr)→List PySem.Expr→List (Sem Value×Sem Value)
 |some k::b6,v::vs=>(eval k env,do let x ←eval v env;standAt pos;pure x)::pairsOf env pos b6 vs
 |_,_=>[]
theorem QV {b6:List (Option PySem.Expr)}:ae (fun cx=>cx.length=b6.length) (q6 b6):=by
 induction b6 with
 |nil=>exact ae.bO rfl
 |cons k r aI=>exact ae.b fun s h1=>ae.m fun t af=>congrArg (· + 1) (aI t af)
theorem Gi {k:Option PySem.Expr}{x:Str}(h:ER k=some x):∃ kd p,k=some (.Constant (.str x) kd p):=jt h fun e h1 af=>by
 obtain ⟨kd,p,af⟩:=Ob af
 exact ⟨kd,p,af▸h1⟩
theorem QW {pos:Pos}{b6:List (Option PySem.Expr)}:∀{vs:List PySem.Expr},b6.length=vs.length→ae (fun _=>(evalEachOpt b6 env).zip ((evalEach vs env).map fun v=>do let x ←v;standAt pos;pure x)=(pairsOf env pos b6 vs).map (fun p=>(some p.1,p.2))∧(pairsOf env pos b6 vs).length=vs.length) (q6 b6):=by
 induction b6 with
 |nil =>
  intro vs l
  rw[List.length_eq_zero_iff.mp l.symm]
  exact ae.bO ⟨rfl,rfl⟩
 |cons k b6 aI =>
  intro vs l
  cases vs with
  |nil=>cases l
  |cons v vs =>
   refine ae.b fun x h1=>ae.m fun t af=>?_
   obtain ⟨kd,p,rfl⟩:=Gi h1
   obtain ⟨g4,m2⟩:=aI (Nat.succ.inj l) t af
   exact ⟨congrArg (_::·) g4,congrArg (· + 1) m2⟩
noncomputable def QX (w:World) (n:Nat) (fr:a5) (b6:List (Option PySem.Expr)) (vs:List PySem.Expr) (cx:List Str) (st:ax) (r:List V×ax):Prop:=r.2.aa→∀{A c env s pos}(Q:List (Value×Value)→Shared→Prop),dB A n→cO c fr env→aH w c fr.ls st.H s.heap →
 (∀ c' h' az ps vals,b3 s.heap c h' c'→aH w c' fr.ls r.2.H h'→Carries (strKind bz w) ps (cx.zip vals)→aW w.params c'.im c'.ρ r.1 vals→Q ps (a8 s h' az))→wpAny (aU w) A (evalPairs (pairsOf env pos b6 vs)) Q bo s
theorem QY (S:bP w R) {vs:List PySem.Expr}:∀{b6:List (Option PySem.Expr)}{cx:List Str}{st:ax},q6 b6=some cx→b6.length=vs.length→ae (QX w n fr b6 vs cx st) (f7 R n fr vs st):=by
 induction vs with
 |nil =>
  intro b6 cx st h l
  rw[List.length_eq_zero_iff.mp l] at h ⊢
  rw[←cc h]
  exact ae.bO fun _ A c env s pos Q _ F P k=>evalPairs_nil (k c s.heap s.toks [] [] .refl P trivial .nil)
 |cons v vs aI =>
  intro b6 cx st h l
  cases b6 with
  |nil=>cases l
  |cons ft b6 =>
  refine jt h fun x h1 h=>lM h fun t af ao=>?_
  obtain ⟨kd,p,rfl⟩:=Gi h1
  rw[←ao]
  exact ae.cf fun q=>ae.b fun u aB=>ae.m fun us bu o A c env s pos Q aE F P k=>evalPairs_cons (Calls.Constant_str (wpAny_bind (S.ev (s:=a8 s s.heap (s.toks+1)) aB (oc S bu o) aE F P fun aK bX bK y aG aX v1=>wpAny_bind (wpAny_standAt (wpAny_pure
   (aI af (Nat.succ.inj l) _ bu o (s:=a8 s bX bK) _ aE (F.cB aG) aX fun bw ct cU ps vals a3 b8 ca v2=>k bw ct cU _ (y::vals) (aG.trans a3) b8 ⟨strKind_is bz w _ _,rfl,ca⟩ (.cons (v1.cB a3) v2)))))))
theorem QZ {lO:List (Str×Value)}:∀{acc:List (Str×Value)},((acc++lO).map (·.1)).Nodup→merged acc lO=acc++lO:=by
 induction lO with
 |nil=>intro acc _;rw[List.append_nil];rfl
 |cons fq r aI =>
  intro acc ef
  have e:stored acc fq.1 fq.2=acc++[fq]:=by
   unfold stored
   rw[if_neg]
   intro q
   obtain ⟨Q0,m,q⟩:=List.any_eq_true.mp q
   rw[List.map_append,List.nodup_append] at ef
   exact ef.2.2 Q0.1 (List.mem_map_of_mem m) fq.1 (.head _) (of_decide_eq_true q)
  show merged (stored acc fq.1 fq.2) r=_
  rw[e,aI (by rw[List.append_assoc];exact ef),List.append_assoc]
  rfl
theorem xb {l:List Str}:mW l=true→l.Nodup:=by
 induction l with
 |nil=>exact fun _=>.nil
 |cons x r aI =>
  intro h
  obtain ⟨h1,af⟩:=Bool.and_eq_true_iff.mp h
  exact List.nodup_cons.mpr ⟨fun m=>by rw[E8.mpr m] at h1;exact dv h1,aI af⟩
theorem fp.zip {P:Params}{im:cq}{ρ:c5}{vs:List V}{xs:List Value}(h:aW P im ρ vs xs):∀ cx:List Str,fp P im ρ (cx.zip vs) (cx.zip xs) :=
 aW.ind (Q:=fun vs xs=>∀ cx:List Str,fp P im ρ (cx.zip vs) (cx.zip xs)) (fun cx=>by rw[List.zip_nil_right,List.zip_nil_right];exact .nil) (fun a _ aI cx=>by
  cases cx with
  |nil=>exact .nil
  |cons k r=>exact .cons a (aI r)) h
theorem Q1 {l:List (Sem Value×Sem Value)}{n:Nat}(h:l.length=n) (z:0<n):l≠[]:=fun e=>by rw[e] at h;exact Nat.lt_irrefl _ (h▸z)
theorem Q2 (S:bP w R) {b6:List (Option PySem.Expr)}{vs:List PySem.Expr}{pos:Pos}{cx x}(h1:q6 b6=some cx) (q:(mW cx&&(Nat.beq cx.length vs.length&&(Nat.blt cx.length 15&&Nat.blt 0 cx.length)))=true) (af:f7 R n fr vs st=some x):f9 w n fr (.Dict b6 vs pos) st (nT (.dict (cx.zip x.1)) x.2):=by
 refine ⟨fun o=>oc S af o,fun aa A c env s aE F P Q k=>?_⟩
 obtain ⟨aS,q⟩:=Bool.and_eq_true_iff.mp q
 obtain ⟨bf,q⟩:=Bool.and_eq_true_iff.mp q
 obtain ⟨dU,ea⟩:=Bool.and_eq_true_iff.mp q
 have bf:=Nat.eq_of_beq_eq_true bf
 have dU:=Nat.blt_eq.mp dU
 have ea:=Nat.blt_eq.mp ea
 have hN:b6.length=vs.length:=(QV _ h1).symm.trans bf
 obtain ⟨A1,c0⟩:=QW (env:=env) (pos:=pos) hN _ h1
 refine wpAny_Dict_pairs (knd:=strKind bz w) A1 (Q1 c0 (bf▸ea)) (by rw[c0,←bf];omega) ?_
 have off:∀ a∈[s.heap.objs.size],Off c st.H a:=fun a m=>by
  rw[List.mem_singleton.mp m]
  exact .new P (Heap.iz (Nat.le_refl _))
 have xc:aH w c fr.ls st.H (s.heap.push {cls:=.type "dict",data:=.dict #[]}):=P.z7 _
 have uk:(s.heap.push {cls:=.type "dict",data:=.dict #[]}).get? s.heap.objs.size=some {cls:=.type "dict",data:=.dict #[]}:=Heap.get?_push_size _ rfl
 refine QY S h1 hN _ af aa (s:=a8 s (s.heap.push {cls:=.type "dict",data:=.dict #[]}) s.toks) (c:={c with kept:=jH c.kept [s.heap.objs.size] (s.heap.push {cls:=.type "dict",data:=.dict #[]})}) _ aE F.kept (xc.hold off) fun aK bX bK ps vals aG aX ca v1=>?_
 obtain ⟨b8,a3,es⟩:=xc.xa off aX aG
 obtain ⟨fP,f3⟩:=es _ (.head _) (by rw[uk];intro z;cases z)
 rw[uk] at f3
 have l1:x.1.length=vs.length:=(ob S _ _ af).2.1
 have l2:vals.length=x.1.length:=v1.length.symm
 refine ⟨cx.zip vals,ca,?_,fun hd A2 ak=>?_⟩
 ·obtain ⟨o',aD,iw,ao,aC⟩:=Heap.DictOf.new (knd:=strKind bz w) s.heap
  refine ⟨o',aD,iw,?_,aC⟩
  rw[uk] at ao;rw[←cc ao]
  exact f3
 ·have ef:(([]++cx.zip vals:List (Str×Value)).map (·.1)).Nodup:=by
   rw[List.nil_append,List.map_fst_zip (by omega)]
   exact xb aS
  rw[QZ ef,List.nil_append] at A2
  have le:hq aK.ρ (aK.ρ++[(s.heap.objs.size,s.heap.objs.size)]):=fun i q e=>o8 e
  have P3:=b8.adopt (h':=hd) (p:=(s.heap.objs.size,s.heap.objs.size)) (o:=.dict (cx.zip x.1)) (fun a m=>by rw[List.mem_singleton.mp m];exact fP)
   (fun b dr nb e=>(ak.2 b fun q=>nb (by rw[q];exact .head _)).trans e)
   ⟨_,A2,fp.zip (v1.mono (fun _ _ x=>x) le) cx,by rw[List.length_zip];omega⟩
  refine k _ hd _ _ ?_ P3 (aF.ref (p:=(s.heap.objs.size,s.heap.objs.size)) ?_)
  ·refine ⟨⟨rfl,a3.le.L,a3.le.im,fun i q e=>le _ _ (a3.le.ρ i q e),fun a o e=>(a3.le.new a o e).imp id fun y=>y.imp (fun y=>?_) id⟩,fun a o e=>?_⟩
   ·obtain ⟨o',c9⟩:=a3.aP a o (Heap.get?_push_of_some _ e)
    by_cases z:a=s.heap.objs.size
    ·obtain ⟨iD,_,_,cL,_⟩:=A2
     exact ⟨iD,z▸cL⟩
    ·exact ⟨o',(ak.2 a z).trans c9⟩
   ·cases z:s.heap.get? a with
    |none=>rfl
    |some o'=>rw[Heap.get?_push_of_some _ z] at y;exact ba y.symm
  ·show (aK.ρ++[_])[x.2.H.length]?=_
   rw[←aX.rep.len,List.getElem?_append_right (Nat.le_refl _),Nat.sub_self];rfl
end
end
section
variable {w:World}{R:dR}{A:Around}{c:br}{st st' : ax}{s:Shared}{ls:List (Str×V)}{n:Nat}{fr:a5}{env:Env}{r:V}
theorem Q3 {e:PySem.Expr}{whole:Sem Value}{Q:Bool→Shared→Prop}(h:wpAny (aU w) A whole (fun v dS=>wpAny (aU w) A (truthy v) Q bo dS) bo s)
 (hm:isTrue e env whole=(do let v ←whole;standAt e.pos;holding [v] (truthy v))):wpAny (aU w) A (isTrue e env whole) Q bo s:=isTrue_plain h hm
theorem Q4 {a b:CmpOp}{e f:PySem.Expr}(h:gr f=false):lastMarks [a,b] [e,f]=false:=by
 have:=AS (op:=b) h
 simpa [lastMarks] using this
theorem Q5 {e:PySem.Expr}{whole:Sem Value}(z:wq e=true):isTrue e env whole=(do let v ←whole;standAt e.pos;holding [v] (truthy v)):=by cases e <;> first |rfl |exact dv z
theorem Q6 (S:bP w R) {e:PySem.Expr}{x b}(h:R.ev n fr e st=some x) (bt:pa x.1=some b) (z:wq e=true):l3 w n fr e st (b,x.2) :=
 ⟨fun o=>S.dm h o,fun aa A c env s Q aE F P k=>Q3 (S.ev h aa aE F P fun aK bX bK x aG aX v1=>by rw[Fh bt] at v1;exact v1.qY (rt (k aK bX bK aG aX))) (Q5 z)⟩
theorem Q7 (S:bP w R) {e:PySem.Expr}{p:Pos}{y}(h:R.et n fr e st=some y):l3 w n fr (.UnaryOp .Not e p) st (!y.1,y.2):=⟨fun o=>S.iG h o,fun aa A c env s Q aE F P k=>isTrue_not (S.et h aa aE F P k)⟩
theorem Q8 (S:bP w R) {a b:PySem.Expr}{p:Pos}{y z:Bool×ax}(h1:R.et n fr a st=some y) (bU:y.1=true) (af:R.et n fr b y.2=some z):l3 w n fr (.BoolOp .And [a,b] p) st z:=by
 refine ⟨fun o=>S.iG h1 (S.iG af o),fun aa A c env s Q aE F P k=>isTrue_and (S.et h1 (S.iG af aa) aE F P fun aK bX bK aG aX=>?_)⟩
 rw[bU,if_pos rfl]
 refine isTrue_and (S.et (s:=a8 s bX bK) af aa aE (F.cB aG) aX fun bw ct cU a3 b8=>?_)
 have k:=k bw ct cU (aG.trans a3) b8
 revert k
 cases z.1 with
 |true=>intro k;rw[if_pos rfl];exact isTrue_and_nil k
 |false=>exact id
theorem Q9 (S:bP w R) {a b:PySem.Expr}{p:Pos}{y z:Bool×ax}(h1:R.et n fr a st=some y) (bU:y.1=false) (af:R.et n fr b y.2=some z):l3 w n fr (.BoolOp .Or [a,b] p) st z:=by
 refine ⟨fun o=>S.iG h1 (S.iG af o),fun aa A c env s Q aE F P k=>isTrue_or (S.et h1 (S.iG af aa) aE F P fun aK bX bK aG aX=>?_)⟩
 rw[bU,if_neg (by simp)]
 refine isTrue_or (S.et (s:=a8 s bX bK) af aa aE (F.cB aG) aX fun bw ct cU a3 b8=>?_)
 have k:=k bw ct cU (aG.trans a3) b8
 revert k
 cases z.1 with
 |true=>exact id
 |false=>intro k;rw[if_neg (by simp)];exact isTrue_or_nil k
theorem Ra (S:bP w R) {op:BoolOp}{v:PySem.Expr×PySem.Expr}{p:Pos}:ae (l3 w n fr (.BoolOp op [v.1,v.2] p) st) (EW R n fr op v st):=ae.b fun y h=>by
 cases op with
 |And=>cases bU:y.1 with
  |true=>exact fun z af=>Q8 S h bU af
  |false =>
   show ae _ (some y)
   refine ae.bO ⟨fun o=>S.iG h o,fun aa A c env s Q aE F P k=>isTrue_and (S.et h aa aE F P fun aK bX bK aG aX=>?_)⟩
   have k:=k aK bX bK aG aX
   rw[bU] at k ⊢
   exact k
 |Or=>cases bU:y.1 with
  |false=>exact fun z af=>Q9 S h bU af
  |true =>
   show ae _ (some y)
   refine ae.bO ⟨fun o=>S.iG h o,fun aa A c env s Q aE F P k=>isTrue_or (S.et h aa aE F P fun aK bX bK aG aX=>?_)⟩
   have k:=k aK bX bK aG aX
   rw[bU] at k ⊢
   exact k
theorem Rb (S:bP w R) {l r:PySem.Expr}{op:CmpOp}{p:Pos}{a b:V×ax}{z:Bool×ax}(h:gr r=false) (h1:R.ev n fr l st=some a) (af:R.ev n fr r a.2=some b) (aB:dY op a.1 b.1 b.2=some z):l3 w n fr (.Compare l [op] [r] p) st z:=by
 have e:z.2=b.2:=t7 aB
 refine ⟨fun o=>S.dm h1 (S.dm af (e▸o)),fun aa A c env s Q aE F P k=>?_⟩
 rw[e] at aa k
 exact wpAny_isTrue_Compare1 (S.ug h1 af aa aE F P fun bw ct cU x y a3 b8 v1 v2=>wZ (s:=a8 s ct cU) aB aE b8 v1 v2 fun az=>rt (k bw ct az a3 b8)) (AS h)
theorem Gj (S:bP w R) {l r eb:PySem.Expr}{op ko:CmpOp}{p:Pos}{a b:V×ax}{q:Bool×ax}(h:gr eb=false) (h1:R.ev n fr l st=some a) (af:R.ev n fr r a.2=some b) (aB:dY op a.1 b.1 b.2=some q) (aa:q.2.aa) (aE:dB A n) (F:cO c fr env) (P:aH w c fr.ls st.H s.heap)
 {Q:Bool→Shared→Prop}(k:∀ c' h' az y,b3 s.heap c h' c'→aH w c' fr.ls q.2.H h'→aF w.params c'.im c'.ρ b.1 y→cO c' fr env→if q.1=true then wpAny (aU w) A (testChain p y [ko] [eval eb env]) Q bo (a8 s h' az) else Q false (a8 s h' az)):wpAny (aU w) A (isTrue (.Compare l [op,ko] [r,eb] p) env (eval (.Compare l [op,ko] [r,eb] p) env)) Q bo s:=by
 have e:q.2=b.2:=t7 aB
 rw[e] at aa k
 refine isTrue_chain (S.ev h1 (S.dm af aa) aE F P fun aK bX bK x aG aX v1=>?_) (Q4 h)
 refine test_link (S.ev (s:=a8 s bX bK) af aa aE (F.cB aG) aX fun bw ct cU y a3 b8 v2=>?_)
 exact wZ (s:=a8 s ct cU) aB aE b8 (v1.cB a3) v2 fun az=>rt (k bw ct az y (aG.trans a3) b8 v2 ((F.cB aG).cB a3))
theorem Rc (S:bP w R) {l r eb:PySem.Expr}{op ko:CmpOp}{p:Pos}{a b:V×ax}{q:Bool×ax}(h:gr eb=false) (h1:R.ev n fr l st=some a) (af:R.ev n fr r a.2=some b) (aB:dY op a.1 b.1 b.2=some q) :
 ae (l3 w n fr (.Compare l [op,ko] [r,eb] p) st) (bif q.1 then (R.ev n fr eb q.2).bind fun c=>dY ko b.1 c.1 c.2 else some (false,q.2)):=by
 have e:q.2=b.2:=t7 aB
 cases dk:q.1 with
 |true =>
  refine ae.b fun d bu z dC=>?_
  have k6:z.2=d.2:=t7 dC
  refine ⟨fun o=>S.dm h1 (S.dm af (e▸S.dm bu (k6▸o))),fun aa A c env s Q aE F P k=>?_⟩
  rw[k6] at aa k
  refine Gj S h h1 af aB (S.dm bu aa) aE F P fun aK bX bK y aG aX v1 Gk=>?_
  rw[dk,if_pos rfl]
  exact test_last (S.ev (s:=a8 s bX bK) bu aa aE Gk aX fun da i5 g0 k4 c4 P3 o1=>wZ (s:=a8 s i5 g0) dC aE P3 (v1.cB c4) o1 fun az=>rt (k da i5 az (aG.trans c4) P3))
 |false =>
  refine ae.bO ⟨fun o=>S.dm h1 (S.dm af (e▸o)),fun aa A c env s Q aE F P k=>Gj S h h1 af aB aa aE F P fun aK bX bK y aG aX v1 Gk=>?_⟩
  rw[dk,if_neg Bool.false_ne_true]
  exact k aK bX bK aG aX
theorem Rd (S:bP w R) {e:PySem.Expr}:ae (l3 w n fr e st) (q9 R n fr e st):=by
 have key:∀ e,wq e=true→ae (l3 w n fr e st) ((R.ev n fr e st).bind fun x=>(pa x.1).map fun b=>(b,x.2)):=fun e z=>ae.b fun x h=>ae.m fun b bt=>Q6 S h bt z
 cases e with
 |UnaryOp op x p=>exact ae.de fun q=>ae.m fun y h=>by rw[O9 q];exact Q7 S h
 |BoolOp op vs p=>exact ae.b fun v aV=>by rw[wI aV];exact Ra S
 |IfExp a b c p=>exact ae.no
 |Compare l ops rs p =>
  exact ae.o (fun op c8=>ae.b fun r bR=>ae.cf fun q=>ae.b fun a h1=>ae.b fun b af z aB=>by rw[mY c8,mY bR];exact Rb S q h1 af aB)
   fun _=>ae.b fun o c8=>ae.b fun r bR=>ae.cf fun q=>ae.b fun a h1=>ae.b fun b af=>ae.b fun x aB z bu=>by rw[wI c8,wI bR];exact Rc S q h1 af aB z bu
 |_=>exact key _ rfl
theorem Rf {f:cA}{P:Params}{g:Flow}(r:jE c P f g) (h:Al f=true):g=.next:=by cases r <;> first |rfl |exact dv h
theorem Rg (S:bP w R) (xd:∀{e:Stmt}{fr:a5}{st:ax},ae (iF w n fr (exec e) st) (rb R n fr e st)) {ss:List Stmt}:ae (iF w n fr (execs ss) st) (E0 R n fr ss st):=by
 cases ss with
 |nil=>exact ae.bO ⟨fun o=>o,fun _ A c env s Q _ F P k=>wpAny_execs_nil (k c s.heap s.toks _ .refl P .next)⟩
 |cons s0 r =>
  refine ae.b fun x h1=>ae.c (fun q z h=>⟨fun o=>(xd _ h1).1 (S.m3 h o),fun aa A c env s Q aE F P k=>?_⟩) fun q=>ae.bO ⟨(xd _ h1).1,fun aa A c env s Q aE F P k=>?_⟩
  ·refine wpAny_execs_cons ((xd _ h1).2 (S.m3 h aa) _ aE F P fun aK bX bK g aG aX f1=>?_)
   rw[Rf f1 q]
   exact S.ex (s:=a8 s bX bK) h aa aE ((F.cB aG).ls x.2.1) aX (k.h9 aG)
  ·refine wpAny_execs_cons ((xd _ h1).2 aa _ aE F P fun aK bX bK g aG aX f1=>?_)
   have k:=k aK bX bK g aG aX f1
   revert q
   generalize x.1=f at f1
   cases f1 with
   |next=>exact fun q=>eD q
   |_=>exact fun _=>k
end
section
variable {w:World}{R:dR}{A:Around}{c:br}{st st' : ax}{s:Shared}{ls:List (Str×V)}{n:Nat}{fr:a5}{env:Env}{H:List aj}{h h' : Heap}
theorem Heap.rv (e:Heap.ExtBut h.objs.size h h'):∀ b o,h.get? b=some o→h'.get? b=some o:=fun b o x=>e b o (Nat.ne_of_lt (Heap.lt_size x)) x
theorem aH.um (P:aH w c ls H h) (ar:∀ b aa,h.get? b=some aa→h'.get? b=some aa):aH w c ls H h':=P.grow (im':=c.im) ar (fun _ _ x=>x) fun _ _ x=>.inl x
theorem kb.set {P:Params}{im:cq}{ρ:c5}{ls:List (Str×V)}{m:Str→Option Value}(l:kb P im ρ ls m) {x:Str}{v:V}{y:Value}(r:aF P im ρ v y):kb P im ρ (d8 x v ls) (fun z=>if z=x then some y else m z):=by
 intro z u e
 rw[E9] at e
 by_cases q:z=x
 ·rw[if_pos (d9.mpr q)] at e
  obtain rfl:=cc e
  exact ⟨y,if_pos q,r⟩
 ·rw[if_neg fun t=>q (d9.mp t)] at e
  obtain ⟨a,c9,eb⟩:=l z u e
  exact ⟨a,(if_neg q).trans c9,eb⟩
theorem cO.plain (F:cO c fr env):(env.scope.kind == .class || env.scope.kind == .module&&env.locals != env.globals)=false:=by
 rw[F.sc,F.kind];rfl
theorem cO.kindOf (F:cO c fr env) {x:Str}:env.kindOf x=look x fr.sc.names:=by
 unfold Env.kindOf
 rw[F.sc];exact lW
theorem xe {x:Str}{v:V}{y:Value}{Q:Unit→Shared→Prop}(F:cO c fr env) (P:aH w c fr.ls H s.heap) (e:look x fr.sc.names=some .local) (r:aF w.params c.im c.ρ v y)
 (k:∀ h' az,b3 s.heap c h' c→aH w c (d8 x v fr.ls) H h'→Q () (a8 s h' az)):wpAny (aU w) A (storeName env x y) Q bo s:=by
 obtain ⟨m,l,bc⟩:=P.ns
 refine wpAny_storeName_local (F.kindOf.trans e) (by rw[F.loc];exact bc) (fun h' pA ak=>?_) F.plain
 rw[F.loc] at pA ak
 refine k h' _ ?_ (P.loc (l.set r) pA ak)
 obtain ⟨o,_,_,e,_⟩:=pA
 exact .of_same ak.2 e
theorem Rh {x:Str}{v:V}{y:Value}{i:Nat}{u:Option V}{Q:Unit→Shared→Prop}(F:cO c fr env) (P:aH w c fr.ls H s.heap) (e:look x fr.sc.names=some .cell) (aC:look x fr.cs=some i) (cL:H[i]?=some (.cell u)) (r:aF w.params c.im c.ρ v y)
 (k:∀ h' az,b3 s.heap c h' c→aH w c fr.ls (H.set i (.cell (some v))) h'→Q () (a8 s h' az)):wpAny (aU w) A (storeName env x y) Q bo s:=by
 obtain ⟨p,gH,k6⟩:=F.cs x i aC
 have uo:=P.rep.at_ gH cL
 have aw:∃ u,s.heap.IsCell p.1 u:=by
  cases u with
  |none=>exact ⟨_,uo⟩
  |some u=>obtain ⟨z,a,_⟩:=uo;exact ⟨_,a⟩
 obtain ⟨xf,aw⟩:=aw
 refine wpAny_storeName_cell (by rw[F.sc,F.kind]) (F.kindOf.trans e) k6 aw fun h' bc ak=>?_
 refine k h' s.toks ?_ (P.upd gH cL rfl (fun b aa nb g6=>(ak.2 b fun q=>nb (by rw[q];exact .head _)).trans g6) ⟨y,bc,r⟩)
 obtain ⟨o,e,_⟩:=bc
 exact .of_same ak.2 e
theorem A3 {x:Str}{k:NameKind}(e:gX fr x=some k):look x fr.sc.names=some k:=by
 unfold gX at e
 split at e
 ·exact ba e
 ·exact e
theorem xg {t:PySem.Expr}(h:isStar t=false) (r:List PySem.Expr):assignEach (t::r) env=(false,assign t env)::assignEach r env:=by
 cases t <;> first |rfl |exact eD h
theorem Gl {bp:List PySem.Expr}(h:bp.any isStar=false):assignEach bp env=bp.map fun t=>(false,assign t env):=by
 induction bp with
 |nil=>rfl
 |cons t r aI =>
  obtain ⟨h1,af⟩:=Bool.or_eq_false_iff.mp (show (isStar t || r.any isStar)=false from h)
  rw[xg h1,aI af];rfl
theorem Ri {bp:List PySem.Expr}(h:bp.any isStar=false):(assignEach bp env).length=bp.length:=by rw[Gl h,List.length_map]
theorem Rj {bp:List PySem.Expr}(h:bp.any isStar=false):(assignEach bp env).findIdx? (·.1)=none:=by
 rw[Gl h,List.findIdx?_eq_none_iff]
 intro x m
 obtain ⟨t,_,rfl⟩:=List.mem_map.mp m
 rfl
noncomputable def Rk (w:World) (n:Nat) (fr:a5) (bp:List PySem.Expr) (vs:List V) (st:ax) (r:List (Str×V)×ax):Prop:=(r.2.aa→st.aa)∧bp.length=vs.length∧(bp.any isStar=false→r.2.aa→∀{A c env s xs}(Q:Unit→Shared→Prop),dB A n→cO c fr env→aH w c fr.ls st.H s.heap→aW w.params c.im c.ρ vs xs→rq w c s r.1 r.2 Q →
 wpAny (aU w) A (assignInOrder ((assignEach bp env).map (·.2)) xs) Q bo s)
theorem Rl (S:bP w R) {bp:List PySem.Expr}:∀{vs:List V}{fr:a5}{st:ax},ae (Rk w n fr bp vs st) (tO R n fr bp vs st):=by
 induction bp with
 |nil =>
  intro vs fr st
  cases vs with
  |nil=>exact ae.bO ⟨fun o=>o,rfl,fun _ _ A c env s xs Q _ F P r k=>r.tB (wpAny_assignInOrder_none (k c s.heap s.toks .refl P))⟩
  |cons _ _=>exact ae.no
 |cons t bp aI =>
  intro vs fr st
  cases vs with
  |nil=>exact ae.no
  |cons v vs =>
   refine ae.b fun x h1 z h=>⟨fun o=>S.ud h1 ((aI z h).1 o),congrArg (· + 1) (aI z h).2.1,fun q aa A c env s xs Q aE F P r k=>r.qZ fun y ys a b=>?_⟩
   obtain ⟨aS,bf⟩:=Bool.or_eq_false_iff.mp (show (isStar t || bp.any isStar)=false from q)
   rw[xg aS]
   exact wpAny_assignInOrder_more (S.as h1 ((aI z h).1 aa) aE F P a fun aK bX bK aG aX=>(aI z h).2.2 bf aa (s:=a8 s bX bK) Q aE ((F.cB aG).ls x.1) aX (b.cB aG) (k.h9 aG))
theorem Gm {bp:List PySem.Expr}{kd:Nat}{pos:Pos}{v:Value}{Q:Unit→Shared→Prop}(z:bp.any isStar=false)
 (h:wpAny (aU w) A (unpackItems v bp.length none) (fun xs e6=>wpAny (aU w) A (assignInOrder ((assignEach bp env).map (·.2)) xs) Q bo e6) bo s):wpAny (aU w) A (assign (.Tuple bp kd pos) env v) Q bo s:=by
 rw[assign_Tuple]
 refine wpAny_bind (wpAny_standAt ?_)
 unfold unpack
 rw[Ri z,Rj z]
 exact wpAny_bind (wpAny_holding h)
theorem Rm {o:PySem.Expr}{nm:Str}{pos:Pos}{v:Value}{Q:Unit→Shared→Prop}(h:wpAny (aU w) A (eval o env) (fun fS s1=>wpAny (aU w) A (setAttr fS nm v) Q bo s1) bo s):wpAny (aU w) A (assign (.Attribute o nm pos) env v) Q bo s:=by
 show wpAny (aU w) A (do
  let fS ←holding [v] (eval o env)
  standAt pos.atName
  holding [v,fS] (setAttr fS nm v)
  release [v,fS] []) Q bo s
 exact wpAny_bind (wpAny_holding (wpAny_mono h (fun fS s1 h1=>wpAny_bind (wpAny_standAt (wpAny_bind (wpAny_holding (wpAny_mono h1 (fun _ _ x=>wpAny_release' x) fun _ _ x=>x))))) fun _ _ x=>x))
theorem Rn {o i:PySem.Expr}{pos:Pos}{v:Value}{Q:Unit→Shared→Prop}(h:wpAny (aU w) A (eval o env) (fun fS s1=>wpAny (aU w) A (eval i env) (fun wM s2=>wpAny (aU w) A (setItem fS wM v) Q bo s2) bo s1) bo s):wpAny (aU w) A (assign (.Subscript o i pos) env v) Q bo s:=by
 exact wpAny_bind (m:=holding [v] (eval o env)) (wpAny_holding (wpAny_mono h (fun fS s1 h1=>wpAny_bind (wpAny_holding (wpAny_mono h1 (fun wM s2 af=>wpAny_bind (wpAny_standAt (wpAny_bind (wpAny_holding (wpAny_mono af (fun _ _ x=>wpAny_release' x) fun _ _ x=>x))))) fun _ _ x=>x))) fun _ _ x=>x))
section
variable {o i:PySem.Expr}{x:Str}{p:Pos}{v:V}
theorem Ro (S:bP w R) {nm:Str}{y s1}(h1:R.ev n fr o st=some y) (af:mV y.1 nm v y.2=some s1):rr w n fr (.Attribute o nm p) v st (fr.ls,s1):=by
 have e:s1.aa=y.2.aa:=(ae.b fun _ _=>ae.b fun _ _=>ae.b fun _ _=>ae.de fun _=>ae.bO rfl:ae (fun s1=>s1.aa=y.2.aa) (mV y.1 nm v y.2)) _ af
 refine ⟨fun o=>S.dm h1 (e▸o),fun aa A c env s x Q aE F P r k=>Rm (S.ev h1 (e▸aa) aE F P fun aK bX bK z aG aX v1=>?_)⟩
 exact (O0 (s:=a8 s bX bK) aX v1 (r.cB aG) _ af).2 _ fun ct cU a3 b8=>k aK ct cU (aG.trans a3) b8
theorem Rp {a k:V}{s1:ax}(h:nS a k v st=some s1):s1.aa=st.aa:=(ae.b fun _ _=>ae.o (fun _ _=>ae.b fun _ _=>ae.de fun _=>ae.m fun _ _=>rfl) fun _=>ae.b fun _ _=>ae.b fun _ _=>ae.m fun _ _=>rfl:ae (fun s1=>s1.aa=st.aa) (nS a k v st)) _ h
theorem Rq (S:bP w R) {y k s1}(h1:R.ev n fr o st=some y) (af:R.ev n fr i y.2=some k) (aB:nS y.1 k.1 v k.2=some s1):rr w n fr (.Subscript o i p) v st (fr.ls,s1):=by
 have e:=Rp aB
 refine ⟨fun o=>S.dm h1 (S.dm af (e▸o)),fun aa A c env s x Q aE F P r k=>Rn (S.ug h1 af (e▸aa) aE F P fun bw ct cU y z a3 b8 v1 v2=>?_)⟩
 exact (PW (s:=a8 s ct cU) b8 v1 v2 (r.cB a3) _ aB).2 _ fun i5 g0 c4 P3=>k bw i5 g0 (a3.trans c4) P3
theorem Rr (S:bP w R) {bp:List PySem.Expr}{kd:Nat}{vs z}(q:bp.any isStar=false) (h1:q3 v st=some vs) (h:tO R n fr bp vs st=some z):rr w n fr (.Tuple bp kd p) v st z:=by
 have g:=Rl (w:=w) S z h
 refine ⟨g.1,fun aa A c env s x Q aE F P r k=>Gm q ?_⟩
 have go:∀{xs:List Value}{h' : Heap},aW w.params c.im c.ρ vs xs→Heap.ExtBut s.heap.objs.size s.heap h'→wpAny (aU w) A (assignInOrder ((assignEach bp env).map (·.2)) xs) Q bo (a8 s h' s.toks):=fun bb he =>
  g.2.2 q aa (s:=a8 s _ s.toks) Q aE F (P.um (Heap.rv he)) bb (k.h9 (b3.keep (Heap.rv he)))
 refine (ae.o (fun us bT=>ae.bO fun e=>?_) fun _ us ak e=>?_:ae (fun us=>us=vs→_) (q3 v st)) _ h1 rfl
 ·rw[n4 bT,e] at r
  refine r.f5 fun a xs nn im bb uq=>?_
  rw[g.2.1,bb.length]
  exact unpackItems_tuple (items:=xs.toArray) aE.h ⟨_,P.rep.cM im,rfl,_,rfl⟩ fun h' he=>go bb he
 ·rw[e] at ak
  obtain ⟨l,ys,m,rfl,ao,bb,uq⟩:=ub ak P r
  rw[g.2.1,bb.length]
  exact kun_itemsOf (items:=ys.toArray) aE.h (listAt ao) fun h' he=>go bb he
theorem Rt:ae (rr w n fr (.Name x p) v st) (bif h3 (gX fr x) then some (d8 x v fr.ls,st) else bif o9 (gX fr x) then (look x fr.cs).bind fun i=>(tJ st.H[i]?).map fun _=>(fr.ls,⟨st.H.set i (.cell (some v)),st.aa⟩) else none) :=
 ae.c (fun q=>ae.bO ⟨fun o=>o,fun _ A c env s x Q aE F P r k=>wpAny_assign_Name (xe F P (A3 (n3 q)) r fun h' az aG aX=>k c h' az aG aX)⟩)
  fun _=>ae.de fun q=>ae.b fun i h1=>ae.m fun u af=>⟨fun o=>o,fun _ A c env s x Q aE F P r k=>wpAny_assign_Name (Rh F P (A3 (wJ q)) h1 (Fg af) r fun h' az aG aX=>k c h' az aG aX)⟩
end
theorem Ru (S:bP w R) {t:PySem.Expr}{v:V}:ae (rr w n fr t v st) (tP R n fr t v st):=by
 have z:=n2 t
 unfold tP
 revert z
 cases e3 t with
 |nm x p=>exact fun z=>by rw[show t=.Name x p from z];exact Rt
 | «at» o nm p=>exact fun z=>by rw[show t=.Attribute o nm p from z];exact ae.b fun y h1=>ae.m fun s af=>Ro S h1 af
 |sub o i p=>exact fun z=>by rw[show t=.Subscript o i p from z];exact ae.cf fun _=>ae.b fun y h1=>ae.b fun k af=>ae.m fun s aB=>Rq S h1 af aB
 |tup bp kd p=>exact fun z=>by rw[show t=.Tuple bp kd p from z];exact ae.cf fun q=>ae.b fun vs h1 z h=>Rr S q h1 h
 |_=>exact fun _=>ae.no
end
section
set_option tactic.hygienic true
section
variable {w:World}{R:dR}{A:Around}{c:br}{st st' : ax}{s:Shared}{ls:List (Str×V)}{n:Nat}{fr:a5}{env:Env}{H:List aj}{h h' : Heap}
theorem aH.A4 {as:List Addr}(R:aH w c ls H h) (off:∀ a∈as,Off c H a) (ar:∀ b aa,b ∉ as→h.get? b=some aa→h'.get? b=some aa):aH w c ls H h':=by
 refine ⟨?_,⟨R.rep.len,fun {i p o} ao aC=>(R.rep.at_ ao aC).mono (fun _ _ x=>x) (fun _ _ x=>x) fun b m aa x=>ar b aa (fun q=>(off b q).1 ⟨i,p,o,ao,aC,m⟩) x,R.rep.sep,fun {b aa} x=>ar b aa (fun q=>?_) (R.rep.cM x),R.rep.ju⟩,R.dh,fun {b aa} x=>ar b aa (fun q=>?_) (R.keep x),R.own,R.fr⟩
 ·obtain ⟨m,gY,bc⟩:=R.ns
  exact ⟨m,gY,o7 bc fun aa e=>ar _ _ (fun q=>(off _ q).2.1 rfl) e⟩
 ·rw[(off b q).2.2.1] at x;exact ba x
 ·rw[(off b q).2.2.2] at x;exact ba x
theorem Off.im {c' : br}{a:Addr}(o:Off c H a) (h1:c'.L=c.L) (af:c'.kept=c.kept) (aB:c'.ρ=c.ρ) (bu:c'.im a=none):Off c' H a:=⟨by rw[aB];exact o.1,by rw[h1];exact o.2.1,bu,by rw[af];exact o.2.2.2⟩
noncomputable def xh:List String:=["enumerate","zip","dict_itemiterator","dict_reverseitemiterator","odict_iterator","itertools.zip_longest","itertools.pairwise"]
theorem Rv {aR:Addr}{x:Value}{o:Obj}{nm:String}{Q:Unit→Shared→Prop}(e:s.heap.get? aR=some o) (aw:o.cls=.type nm) (bc:xh.contains nm=false) (q:Q () s):wpAny (aU w) A (letOwnedTupleGo (.Tuple [] 0 default) (.ref aR) x) Q bo s:=by
 cases x with
 |ref a =>
  refine wpAny_bind (wpAny_load e ?_)
  rw[aw]
  cases hd:o.data with
  |fields vs =>
   show wpAny _ _ (if (xh.contains nm&&_)=true then _ else _) _ _ _
   rw[bc,Bool.false_and,if_neg (by simp)]
   exact wpAny_pure q
  |_=>exact wpAny_pure q
 |_=>exact wpAny_pure q
theorem Rw {t:PySem.Expr}{aR:Addr}{x:Value}{o:Obj}{nm:String}{Q:Unit→Shared→Prop}(e:s.heap.get? aR=some o) (aw:o.cls=.type nm) (bc:xh.contains nm=false) (q:Q () s):wpAny (aU w) A (letOwnedTupleGo t (.ref aR) x) Q bo s:=by
 have k:=Rv (w:=w) (A:=A) (x:=x) e aw bc q
 cases t with
 |Tuple _ _ _=>exact k
 |List _ _=>exact k
 |_=>exact wpAny_pure q
theorem fT.mono {c' : br}{P:Params}{src:Src}{k:Nat}{aR:Addr}{as:List Addr}(it:fT c P h src k aR as) (h1:e9 c.im c'.im) (af:hq c.ρ c'.ρ):(∀ a∈as,∀ o,h.get? a=some o→h'.get? a=some o)→fT c' P h' src k aR as:=by
 induction it with
 |aO a b d=>exact fun e=>.aO (h1 _ _ a) (b.mono h1 af) (d.at (e _ (.head _)))
 |di a b d=>exact fun e=>let ⟨o,x,y⟩:=d;.di (h1 _ _ a) (b.mono h1 af) ⟨o,e _ (.head _) _ x,y⟩
 |ref a d=>exact fun e=>.ref (af _ _ a) (d.at (e _ (.head _)))
 |cw a=>exact fun e=>.cw (e _ (.head _) _ a)
 |ro a b d f g=>exact fun e=>.ro (h1 _ _ a) (b.mono h1 af) (d.at (e _ (.tail _ (.head _)))) (e _ (.head _) _ f) g
 |rp a d f g=>exact fun e=>.rp (af _ _ a) (d.at (e _ (.tail _ (.head _)))) (e _ (.head _) _ f) g
theorem Rx (P:aH w c ls H h) {a:Addr}(z:h.objs.size≤a) : ¬ Own c.ρ H a∧a≠c.L:=by
 refine ⟨fun x=>Nat.lt_irrefl _ (Nat.lt_of_lt_of_le (P.rep.lt x) z),?_⟩
 rintro rfl
 obtain ⟨o,e⟩:=P.wm
 exact Nat.lt_irrefl _ (Nat.lt_of_lt_of_le (Heap.lt_size e) z)
noncomputable abbrev ur (w:World) (A:Around) (s:Shared) (c:br) (ls:List (Str×V)) (H:List aj) (t:PySem.Expr) (src:Src) (k:Nat) (aR:Addr) (as:List Addr) (v:V) (x:Value) (h0:Heap) (tk0:Nat):Prop :=
 ∀ xi:Unit→Shared→Prop,(∀ aK h1 az,b3 s.heap c h1 aK→aH w aK ls H h1→aF w.params aK.im aK.ρ v x→fT aK w.params h1 src (k+1) aR as→(∀ a∈as,Off aK H a)→xi () (a8 s h1 az))→wpAny (aU w) A (letOwnedTupleGo t (.ref aR) x) xi bo (a8 s h0 tk0)
theorem A5 {t:PySem.Expr}{src:Src}{k:Nat}{aR:Addr}{v:V}{x:Value}{h1:Heap}{az:Nat}{nm:String}(off:∀ a∈[aR],Off c H a) (P:aH w c ls H s.heap)
 (ak:Heap.SameBut aR s.heap h1) (r:aF w.params c.im c.ρ v x) (it:fT c w.params h1 src (k+1) aR [aR]) (c8:∃ o,h1.get? aR=some o∧o.cls=.type nm) (bc:xh.contains nm=false) :
 ur w A s c ls H t src k aR [aR] v x h1 az:=by
 intro xi q
 obtain ⟨o,e,aw⟩:=c8
 refine Rw (s:=a8 s h1 az) e aw bc (q c h1 az ?_ ?_ r it off)
 ·exact .of_same ak.2 e
 ·exact P.A4 off fun b aa nb g6=>(ak.2 b fun z=>nb (by rw[z];exact .head _)).trans g6
theorem xj {aR:Addr}{as:List Addr}(m:aR∈as) (off:∀ a∈as,Off c H a) (P:aH w c ls H h) (he:Heap.ExtBut aR h h'):jF as h c h' c∧aH w c ls H h' :=
 ⟨⟨.refl,fun a o q e=>⟨o,he a o (fun z=>q (z▸m)) e⟩⟩,P.A4 off fun b aa nb g6=>he b aa (fun z=>nb (z▸m)) g6⟩
theorem Ry {elts:List PySem.Expr}{cx:Nat}{di:Pos}{src:Src}{k:Nat}{e aR:Addr}{v:V}{x:Value}{h0:Heap}{a:Addr}(off:∀ a∈[e,aR],Off c H a) (P:aH w c ls H s.heap) (ne:e≠aR) (r:aF w.params c.im c.ρ v x)
 (he:IsEnumOut h0 e aR ((k:Int)+1) x s.heap.objs.size) (hit:h0.IsListIter aR a (k+1)) (bT:h0.get? s.heap.objs.size=some {cls:=.type "tuple",data:=.seq #[.int k s.toks,x]}) (ar:∀ b o,b≠e→b≠aR→s.heap.get? b=some o→h0.get? b=some o)
 (mk:∀ aK h1,e9 c.im aK.im→aK.ρ=c.ρ→IsEnum h1 e aR ((k:Int)+1) x→h1.IsListIter aR a (k+1)→fT aK w.params h1 src (k+1) e [e,aR]) :
 ur w A s c ls H (.Tuple elts cx di) src k e [e,aR] (.tup [.int k,v]) (.ref s.heap.objs.size) h0 (s.toks+1):=by
 intro xi q
 refine wpAny_letOwnedTupleGo_enum (s:=a8 s h0 (s.toks+1)) he fun h1 pB xk=>?_
 have Gn:s.heap.objs.size≠e:=fun z=>by
  obtain ⟨o,q⟩:∃ o,s.heap.get? e=some o:=by
   cases y:s.heap.get? e with
   |some o=>exact ⟨o,rfl⟩
   |none =>
    rw[←z] at he
    have:=bT.symm.trans he
    injection this with this
    injection this with t1 _ Gp
    injection t1 with t1
    exact absurd t1 (by decide)
  exact Nat.lt_irrefl _ (z▸Heap.lt_size q)
 have Gq:h1.get? s.heap.objs.size=some (hG [.int k s.toks,x] 0):=(xk.2 _ Gn).trans bT
 have Gr:h1.IsListIter aR a (k+1):=hit.at fun o y=>(xk.2 _ ne.symm).trans y
 have aX:aH w c ls H h1:=P.A4 off fun b aa nb g6=>(xk.2 b fun z=>nb (by rw[z];exact .head _)).trans (ar b aa (fun z=>nb (by rw[z];exact .head _)) (fun z=>nb (by rw[z];exact .tail _ (.head _))) g6)
 obtain ⟨aG,a3⟩:=Rx P (Nat.le_refl _)
 have b8:=aX.Fy Gq aG a3
 have l2:br.le s.heap c {c with im:=eR c.im s.heap.objs.size (hG [.int k s.toks,x] 0)}:=aX.Fz Gq (Heap.iz (Nat.le_refl _))
 have al:lP s.heap h1:=fun b o g6=>by
  by_cases dj:b=e
  ·exact ⟨_,dj▸pB⟩
  ·by_cases eu:b=aR
   ·obtain ⟨o,y,_⟩:=Gr;exact ⟨o,eu▸y⟩
   ·exact ⟨o,(xk.2 b dj).trans (ar b o dj eu g6)⟩
 refine q _ h1 _ ⟨l2,al⟩ b8 (.tup mR (.cons (.int _ _) (.cons (r.mono l2.im fun _ _ x=>x) .nil)) (by unfold aL;simp)) (mk _ h1 l2.im rfl pB Gr) fun b m=>?_
 refine (off b m).im rfl rfl rfl ?_
 show eR c.im _ _ b=none
 unfold eR
 rw[if_neg]
 ·exact (off b m).2.2.1
 ·rintro rfl
  rcases List.mem_cons.mp m with z |m
  ·exact Gn z
  ·rcases List.mem_cons.mp m with z |m
   ·obtain ⟨o,y,k4,_⟩:=hit
    rw[←z] at y
    have:=bT.symm.trans y
    injection this with this
    subst this
    injection k4 with k4
    exact absurd k4 (by decide)
   ·cases m
section
variable {t:PySem.Expr}{src:Src}{k a m:Nat}{aR e:Addr}{Q:Option Value→Shared→Prop}{vs:List V}{xs:List Value}{im:cq}{ρ:c5}{Rz:Params}
theorem A6 (bN:aW Rz im ρ vs xs) (aV:vs[k]?=none):xs.toArray[k]?=none:=by
 have:=bN.length
 simp only[List.getElem?_toArray,List.getElem?_eq_none_iff] at aV ⊢;omega
theorem A7 {x:Value}(bA:xs[k]?=some x):xs.toArray[k]?=some x:=by rw[List.getElem?_toArray];exact bA
theorem Gs (off:∀ a∈[aR],Off c st.H a) (P:aH w c ls st.H s.heap) (aE:dB A n) (ao:s.heap.get? a=some (fE xs m)) (bN:aW w.params c.im c.ρ vs xs) (hit:s.heap.IsListIter aR a k) (mk:∀ h',h'.IsListIter aR a (k+1)→fT c w.params h' src (k+1) aR [aR])
 (ft:∀ h',vs[k]?=none→jF [aR] s.heap c h' c→aH w c ls st.H h'→Q none (a8 s h' s.toks)) (dM:∀ v x h0 tk0,vs[k]?=some v→ur w A s c ls st.H t src k aR [aR] v x h0 tk0→Q (some x) (a8 s h0 tk0)):wpAny (aU w) A (pyNext (.ref aR)) Q bo s:=by
 cases aV:vs[k]? with
 |none=>exact wpAny_pyNext_list_end aE.h hit (listAt ao) (A6 bN aV) fun h' he=>let ⟨a,b⟩:=xj (.head _) off P he;ft h' aV a b
 |some v =>
  obtain ⟨x,bA,r⟩:=bN.get aV
  exact wpAny_pyNext_list_item hit (listAt ao) (A7 bA) fun h' gI ak=>dM v x h' s.toks aV (A5 (nm:="list_iterator") off P ak r (mk h' gI) (let ⟨o,e,f,_⟩:=gI;⟨o,e,f⟩) (by decide))
theorem RA (bT:Aa t=true):∃ aD q p,t=.Tuple aD q p:=by
 cases t <;> first |exact ⟨_,_,_,rfl⟩ |exact dv bT
theorem Gu {old:Value}(off:∀ a∈[e,aR],Off c st.H a) (P:aH w c ls st.H s.heap) (aE:dB A n) (bT:Aa t=true) (ao:s.heap.get? a=some (fE xs m)) (bN:aW w.params c.im c.ρ vs xs) (hit:s.heap.IsListIter aR a k) (rx:IsEnum s.heap e aR (k:Int) old) (ne:e≠aR)
 (mk:∀ aK h1,e9 c.im aK.im→aK.ρ=c.ρ→∀ x,IsEnum h1 e aR ((k:Int)+1) x→h1.IsListIter aR a (k+1)→fT aK w.params h1 src (k+1) e [e,aR])
 (ft:∀ h',vs[k]?=none→jF [e,aR] s.heap c h' c→aH w c ls st.H h'→Q none (a8 s h' s.toks)) (dM:∀ v x h0 tk0,vs[k]?=some v→ur w A s c ls st.H t src k e [e,aR] (.tup [.int k,v]) x h0 tk0→Q (some x) (a8 s h0 tk0)):wpAny (aU w) A (pyNext (.ref e)) Q bo s:=by
 obtain ⟨aD,q,p,rfl⟩:=RA bT
 cases aV:vs[k]? with
 |none=>exact wpAny_pyNext_enum_end aE.h rx hit (listAt ao) (A6 bN aV) fun h' he=>let ⟨a,b⟩:=xj (.tail _ (.head _)) off P he;ft h' aV a b
 |some v =>
  obtain ⟨x,bA,r⟩:=bN.get aV
  exact wpAny_pyNext_enum_item rx hit (listAt ao) (A7 bA) ne fun h' oj gI RB bZ ar=>dM _ _ h' _ aV (Ry off P ne r oj gI RB ar fun aK h1 l1 l2 a b=>mk aK h1 l1 l2 _ a b)
end
theorem Gv {α:Type}{r:Nat}{H:List aj}{f:List V→α}{o:α}(h:((dA H[r]?).map f)=some o):∃ vs,H[r]?=some (.list vs)∧f vs=o:=by
 obtain ⟨vs,h1,af⟩:=Option.map_eq_some_iff.mp h
 exact ⟨vs,kj h1,af⟩
theorem xl {t:PySem.Expr}{src:Src}{k:Nat}{aR:Addr}{as:List Addr}{o:Option V}{Q:Option Value→Shared→Prop}
 (it:fT c w.params s.heap src k aR as):(∀ a∈as,Off c st.H a)→aH w c ls st.H s.heap→itemAt src k st.H=some o→dB A n→i0 src t=true →
 (∀ h',o=none→jF as s.heap c h' c→aH w c ls st.H h'→Q none (a8 s h' s.toks)) →
 (∀ v x h0 tk0,o=some v→ur w A s c ls st.H t src k aR as v x h0 tk0→Q (some x) (a8 s h0 tk0)) →
 wpAny (aU w) A (pyNext (.ref aR)) Q bo s:=by
 induction it with
 |aO im bN hit=>exact fun off P aM aE bT ft dM=>Gs off P aE (P.rep.cM im) bN hit (fun h' gI=>.aO im bN gI) (fun h' q=>ft h' ((cc aM).symm.trans q)) fun v x h0 az q=>dM v x h0 az ((cc aM).symm.trans q)
 | @di vs xs a aR k m im bN hit =>
  intro off P aM aE bT ft dM
  have hl:s.heap.IsTuple a xs.toArray:=⟨_,P.rep.cM im,rfl,_,rfl⟩
  cases aV:vs[k]? with
  |none=>exact wpAny_pyNext_tuple_end aE.h hit hl (A6 bN aV) fun h' he=>let ⟨a,b⟩:=xj (.head _) off P he;ft h' ((cc aM).symm.trans aV) a b
  |some v =>
   obtain ⟨x,bA,r⟩:=bN.get aV
   exact wpAny_pyNext_tuple_item hit hl (A7 bA) fun h' gI ak=>dM v x h' s.toks ((cc aM).symm.trans aV) (A5 (nm:="tuple_iterator") off P ak r (.di im bN gI) (let ⟨o,e,f,_⟩:=gI;⟨o,e,f⟩) (by decide))
 |ref a4 hit =>
  intro off P aM aE bT ft dM
  obtain ⟨vs,jI,e⟩:=Gv aM
  obtain ⟨xs,m,ao,bN,_⟩:=P.rep.at_ a4 jI
  exact Gs off P aE ao bN hit (fun h' gI=>.ref a4 gI) (fun h' q=>ft h' (e.symm.trans q)) fun v x h0 az q=>dM v x h0 az (e.symm.trans q)
 | @cw lo gI aR k hit =>
  intro off P aM aE bT ft dM
  cases z:decide (lo+(k:Int)<gI) with
  |true =>
   have e:some (V.int (lo+k))=o:=by
    have h:(bif decide (lo+(k:Int)<gI) then some (some (V.int (lo+k))) else some none)=some o:=aM
    rw[z] at h;exact cc h
   have z:=of_decide_eq_true z
   refine wpAny_pyNext_range_item hit (by omega) fun h' gI ak=>dM _ _ h' (s.toks+1) e.symm ?_
   refine A5 (nm:="range_iterator") off P ak (.int _ _) (.cw ?_) ⟨_,gI,rfl⟩ (by decide)
   have ao:lo+((k+1:Nat):Int)=lo+k+1:=by omega
   have aC:∀ aM:Int,aM - lo - ((k+1:Nat):Int)=aM - lo - k - 1:=fun aM=>by omega
   rw[ao,aC]
   exact gI
  |false =>
   have e:none=o:=by
    have h:(bif decide (lo+(k:Int)<gI) then some (some (V.int (lo+k))) else some none)=some o:=aM
    rw[z] at h;exact cc h
   have z:=of_decide_eq_false z
   exact wpAny_pyNext_range_end aE.h hit (by omega) fun h' he=>let ⟨a,b⟩:=xj (.head _) off P he;ft h' e.symm a b
 | @ro vs xs a e aR k m old im bN hit rx ne =>
  intro off P aM aE bT ft dM
  have e:=cc aM
  exact Gu off P aE bT (P.rep.cM im) bN hit rx ne (fun aK h1 l1 l2 x a b=>.ro (l1 _ _ im) (bN.mono l1 fun _ _ y=>by rw[l2];exact y) b a ne) (fun h' q=>ft h' (by rw[←e,q];rfl)) fun v x h0 az q=>dM _ x h0 az (by rw[←e,q];rfl)
 |rp a4 hit rx ne =>
  intro off P aM aE bT ft dM
  obtain ⟨vs,jI,e⟩:=Gv aM
  obtain ⟨xs,m,ao,bN,_⟩:=P.rep.at_ a4 jI
  exact Gu off P aE bT ao bN hit rx ne (fun aK h1 l1 l2 x a b=>.rp (by rw[l2];exact a4) b a ne) (fun h' q=>ft h' (by rw[←e,q];rfl)) fun v x h0 az q=>dM _ x h0 az (by rw[←e,q];rfl)
end
end
section
variable {w:World}{R:dR}{A:Around}{c:br}{st st' : ax}{s:Shared}{ls:List (Str×V)}{n:Nat}{fr:a5}{env:Env}{H:List aj}{h h' : Heap}
theorem xm {α:Type}{m:Sem α}{Q:α→Shared→Prop}{E:Value→Shared→Prop}(h:wpAny (aU w) A m Q bo s):wpAny (aU w) A m Q E s:=wpAny_mono h (fun _ _ x=>x) fun _ _ x=>x.elim
theorem Gw {target:PySem.Expr}{it:Value}{body orelse:List Stmt}{Y:Result→Shared→Prop}
 (h:wpAny (aU w) A (pyNext it) (fun r dS=>match r with
  |none=>wpAny (aU w) A (execs orelse env) (fun f gJ=>Y (.ok f) gJ) bo dS
  |some v=>wpAny (aU w) A (letOwnedTupleGo target it v) (fun _ uu=>wpAny (aU w) A (assign target env v) (fun _ jG=>wpAny (aU w) A (execs body env) (fun f gJ=>match f with
   |.next |.cont=>codeAny (aU w) A (.forLoop target it body orelse env) Y gJ
   |.brk=>Y (.ok .next) gJ
   |.ret v=>Y (.ok (.ret v)) gJ) bo jG) bo uu) bo dS) bo s):codeAny (aU w) A (.forLoop target it body orelse env) Y s:=by
 refine codeAny_of_tree ?_
 show wpAny _ A ((forTurn target it body orelse env).onRaise (fun x=>do noteFrame x env;theTreesLotGoes x)) _ _ s
 refine wpAny_noted ?_
 simp only[forTurn]
 refine wpAny_bind (wpAny_standAt (wpAny_bind (wpAny_onRaise (wpAny_mono h (fun r dS k5=>?_) fun _ _ h'=>h'.elim))))
 cases r with
 |none=>exact wpAny_pure ⟨rfl,codeAny_block (xm k5)⟩
 |some v =>
  refine wpAny_bind (wpAny_mono k5 (fun _ uu A8=>?_) fun _ _ h'=>h'.elim)
  refine wpAny_bind (wpAny_mono A8 (fun _ jG oh=>wpAny_bind (wpAny_mono oh (fun f gJ kp=>?_) fun _ _ h'=>h'.elim)) fun _ _ h'=>h'.elim)
  cases f with
  |next=>exact wpAny_pure ⟨rfl,kp⟩
  |cont=>exact wpAny_pure ⟨rfl,kp⟩
  |brk=>exact wpAny_pure kp
  |ret v=>exact wpAny_pure kp
theorem Gx {test:PySem.Expr}{body orelse:List Stmt}{Y:Result→Shared→Prop}
 (h:wpAny (aU w) A (isTrue test env (eval test env)) (fun b dS=>match b with
  |false=>wpAny (aU w) A (execs orelse env) (fun f gJ=>Y (.ok f) gJ) bo dS
  |true=>wpAny (aU w) A (execs body env) (fun f gJ=>match f with
   |.next |.cont=>codeAny (aU w) A (.whileLoop test body orelse env) Y gJ
   |.brk=>Y (.ok .next) gJ
   |.ret v=>Y (.ok (.ret v)) gJ) bo dS) bo s):codeAny (aU w) A (.whileLoop test body orelse env) Y s:=by
 refine codeAny_of_tree ?_
 show wpAny _ A ((whileTurn test body orelse env).onRaise (fun x=>do noteFrame x env;theTreesLotGoes x)) _ _ s
 refine wpAny_noted ?_
 simp only[whileTurn]
 refine wpAny_bind (wpAny_mono h (fun b jG oh=>?_) fun _ _ h'=>h'.elim)
 cases b with
 |false =>
  simp only[Bool.false_eq_true,if_false]
  exact wpAny_bind (wpAny_mono oh (fun f gJ A9=>wpAny_pure A9) fun _ _ h'=>h'.elim)
 |true =>
  simp only[if_true]
  refine wpAny_bind (wpAny_mono oh (fun f gJ kp=>?_) fun _ _ h'=>h'.elim)
  cases f with
  |next=>exact wpAny_pure ⟨rfl,kp⟩
  |cont=>exact wpAny_pure ⟨rfl,kp⟩
  |brk=>exact wpAny_pure kp
  |ret v=>exact wpAny_pure kp
theorem ry {a b:Addr}{o:Obj}(e:h.get? a=some o) (m:b∈[a]):h.get? b≠none:=fun z=>by rw[List.mem_singleton.mp m,e] at z;exact ba z.symm
theorem Gy {a a' b:Addr}{o o' : Obj}(e:h.get? a=some o) (c9:h.get? a'=some o') (m:b∈[a,a']):h.get? b≠none:=(List.mem_cons.mp m).elim (fun z=>z▸ry e (.head _)) (ry c9)
theorem fT.here {P:Params}{src:Src}{k:Nat}{aR:Addr}{as:List Addr}(it:fT c P h src k aR as):∀ a∈as,h.get? a≠none:=by
 induction it with
 |aO a b d=>obtain ⟨o,x,_⟩:=d;exact fun a=>ry x
 |di a b d=>obtain ⟨o,x,_⟩:=d;exact fun a=>ry x
 |ref a d=>obtain ⟨o,x,_⟩:=d;exact fun a=>ry x
 |cw d=>exact fun a=>ry d
 |ro a b d f g=>obtain ⟨o,x,_⟩:=d;exact fun a=>Gy f x
 |rp a d f g=>obtain ⟨o,x,_⟩:=d;exact fun a=>Gy f x
theorem jE.kept {P:Params}{f:cA}{g:Flow}{K:cq}(r:jE c P f g):jE {c with kept:=K} P f g:=by cases r <;> constructor;assumption
theorem Gz {f:cA}{fR:ax}{again:Option (cA×List (Str×V)×ax)}(h:ae (fun z=>z.2.2.aa→fR.aa) again):ae (fun z=>z.2.2.aa→fR.aa) (tR f ls fR again):=by
 cases f with
 |brk=>exact ae.bO fun o=>o
 |ret v=>exact ae.bO fun o=>o
 |_=>exact h
noncomputable def RC (w:World) (c:br) (s:Shared) (f:cA) (ls:List (Str×V)) (fR:ax) (again:Option (cA×List (Str×V)×ax)) (cd:(Result→Shared→Prop)→Prop) (z:cA×List (Str×V)×ax):Prop :=
 ∀(Y:Result→Shared→Prop) (g:Flow),jE c w.params f g→aH w c ls fR.H s.heap→(∀ g,aH w c z.2.1 z.2.2.H s.heap→jE c w.params z.1 g→Y (.ok g) s)→(again=some z→cd Y)→match g with |.next |.cont=>cd Y |.brk=>Y (.ok .next) s |.ret v=>Y (.ok (.ret v)) s
theorem GA {f:cA}{fR:ax}{again:Option (cA×List (Str×V)×ax)}{cd:(Result→Shared→Prop)→Prop}:ae (RC w c s f ls fR again cd) (tR f ls fR again):=by
 intro z h Y g aO P k a
 cases aO with
 |next=>exact a h
 |cont=>exact a h
 |brk=>rw[←cc h] at k;exact k _ P .next
 |ret r=>rw[←cc h] at k;exact k _ P (.ret r)
theorem RD (S:bP w R) {t:PySem.Expr}{src:Src}{k:Nat}{body:List Stmt}:ae (FV w n fr t src k body st) (Am R n fr t src k body st) :=
 ae.de fun bT=>ae.b fun o aM=>by
  cases o with
  |none=>exact ae.bO ⟨fun o=>o,fun aa A c env s aR as Y aE F P it off cx=>Gw (xl (t:=t) it off P aM aE bT (fun h' e aG aX=>wpAny_execs_nil (cx c h' _ _ aG aX .next)) fun v x h0 tk0 e np=>ba e)⟩
  |some v =>
   refine ae.b fun x h1=>ae.b fun y af z h=>?_
   have eg:z.2.2.aa→y.2.2.aa:=Gz (fun z h=>(S.uc z h).1) z h
   refine ⟨fun o=>S.ud h1 (S.m3 af (eg o)),fun aa A c env s aR as Y aE F P it off cx=>Gw (xl (t:=t) it off P aM aE bT (fun h' e aG aX=>ba e.symm) fun pd gq h0 tk0 e np=>?_)⟩
   rw[←cc e] at np
   refine np _ fun aK bX bK aG aX r pC uv=>?_
   refine S.as (s:=a8 s bX bK) h1 (S.m3 af (eg aa)) aE (F.cB aG).kept (aX.hold uv) r fun bw ct cU a3 b8=>?_
   refine S.ex (s:=a8 s ct cU) af (eg aa) aE (((F.cB aG).kept.cB a3).ls x.1) b8 fun da i5 g0 g c4 P3 aO=>?_
   obtain ⟨l6,dQ,f3⟩:=aX.xa uv P3 (a3.trans c4)
   exact GA (s:=a8 s i5 g0) (cd:=fun Y=>codeAny (aU w) A (.forLoop t (.ref aR) body [] env) Y (a8 s i5 g0)) z h Y g aO.kept l6 (fun g ia jJ=>cx _ _ _ g (aG.trans dQ).nb ia jJ)
    fun h=>(S.uc z h).2 aa (s:=a8 s i5 g0) Y aE ((F.cB (aG.trans dQ)).ls y.2.1) l6 (pC.mono dQ.le.im dQ.le.ρ fun a m o e=>(f3 a m (pC.here a m)).2.trans e) (fun a m=>(f3 a m (pC.here a m)).1) fun c' h' az g hF RE RF=>cx c' h' az g ((aG.trans dQ).FU hF) RE RF
theorem RG (S:bP w R) {t:PySem.Expr}{body:List Stmt}:ae (AQ w n fr t body st) (E1 R n fr t body st):=ae.b fun q h1=>by
 obtain ⟨q,s1⟩:=q
 cases q with
 |false=>exact ae.bO ⟨fun o=>S.iG h1 o,fun aa A c env s Y aE F P cx=>Gx (S.et h1 aa aE F P fun aK bX bK aG aX=>wpAny_execs_nil (cx aK bX _ _ aG aX .next))⟩
 |true =>
  refine (ae.b fun y af z h=>?_:ae (AQ w n fr t body st) ((R.ex n fr body s1).bind fun y=>tR y.1 y.2.1 y.2.2 (R.tI n {fr with ls:=y.2.1} t body y.2.2)))
  have eg:z.2.2.aa→y.2.2.aa:=Gz (fun z h=>(S.w0 z h).1) z h
  refine ⟨fun o=>S.iG h1 (S.m3 af (eg o)),fun aa A c env s Y aE F P cx=>Gx (S.et h1 (S.m3 af (eg aa)) aE F P fun aK bX bK aG aX=>?_)⟩
  refine S.ex (s:=a8 s bX bK) af (eg aa) aE (F.cB aG) aX fun da i5 g0 g c4 P3 aO=>?_
  have eC:=aG.trans c4
  exact GA (s:=a8 s i5 g0) (cd:=fun Y=>codeAny (aU w) A (.whileLoop t body [] env) Y (a8 s i5 g0)) z h Y g aO P3 (fun g ia jJ=>cx _ _ _ g eC ia jJ) fun h=>(S.w0 z h).2 aa (s:=a8 s i5 g0) Y aE ((F.cB eC).ls y.2.1) P3 (cx.h9 eC)
theorem GB {elt target iter:PySem.Expr}{ifs:List PySem.Expr}{scope:Scope}{pos:Pos}{it acc:Value}{Y:Result→Shared→Prop}
 (h:wpAny (aU w) A (pyNext it) (fun r dS=>match r with
  |none=>Y (.ok .next) dS
  |some v=>wpAny (aU w) A (letOwnedTupleGo target it v) (fun _ uu=>wpAny (aU w) A (assign target env v) (fun _ jG=>wpAny (aU w) A (forIn ifs true fun c r=>if r=true then do let ok ←isTrue c env (eval c env);pure (ForInStep.yield ok) else pure (ForInStep.yield r)) (fun ok gJ=>match ok with
   |true=>wpAny (aU w) A (eval elt env) (fun x xn=>wpAny (aU w) A (call (.builtin "list.append") [acc,x]) (fun _ GC=>codeAny (aU w) A (.compLoop (.ListComp elt [⟨target,iter,ifs,0⟩] scope pos) 0 it acc env) Y GC) bo xn) bo gJ
   |false=>codeAny (aU w) A (.compLoop (.ListComp elt [⟨target,iter,ifs,0⟩] scope pos) 0 it acc env) Y gJ) bo jG) bo uu) bo dS) bo s) :
 codeAny (aU w) A (.compLoop (.ListComp elt [⟨target,iter,ifs,0⟩] scope pos) 0 it acc env) Y s:=by
 refine codeAny_of_tree ?_
 show wpAny _ A ((compTurn (.ListComp elt [⟨target,iter,ifs,0⟩] scope pos) 0 it acc env).onRaise (fun x=>do noteFrame x env;theTreesLotGoes x)) _ _ s
 refine wpAny_noted ?_
 rw[compTurn_list]
 refine wpAny_bind (wpAny_standAt (wpAny_bind (wpAny_mono h (fun r dS k5=>?_) fun _ _ h'=>h'.elim)))
 cases r with
 |none=>exact wpAny_pure k5
 |some v =>
  refine wpAny_bind (wpAny_mono k5 (fun _ uu A8=>?_) fun _ _ h'=>h'.elim)
  refine wpAny_bind (wpAny_mono A8 (fun _ jG oh=>wpAny_bind (wpAny_mono oh (fun ok gJ kp=>?_) fun _ _ h'=>h'.elim)) fun _ _ h'=>h'.elim)
  cases ok with
  |false=>exact wpAny_pure ⟨rfl,kp⟩
  |true =>
   exact wpAny_bind (wpAny_bind (wpAny_mono kp (fun x xn A9=>wpAny_bind (wpAny_mono A9 (fun _ GC RH=>wpAny_pure (wpAny_pure ⟨rfl,RH⟩)) fun _ _ h'=>h'.elim)) fun _ _ h'=>h'.elim))
theorem RI (S:bP w R) {ifs:List PySem.Expr}:ae (fun q=>q.2.aa→st.aa) (wG R n fr ifs st):=by
 cases ifs with
 |nil=>exact ae.bO fun o=>o
 |cons a r=>cases r with
  |nil=>exact fun q h o=>S.iG h o
  |cons _ _=>exact ae.no
theorem RJ (S:bP w R) {ifs:List PySem.Expr}(aE:dB A n) (F:cO c fr env) (P:aH w c fr.ls st.H s.heap) {Q:Bool→Shared→Prop}:ae (fun q=>q.2.aa→AP w c fr.ls s q.1 q.2 Q→wpAny (aU w) A (forIn ifs true fun c r=>if r=true then do let ok ←isTrue c env (eval c env);pure (ForInStep.yield ok) else pure (ForInStep.yield r)) Q bo s) (wG R n fr ifs st):=by
 cases ifs with
 |nil=>exact ae.bO fun _ k=>wpAny_tests_nil (k c _ s.toks .refl P)
 |cons a r=>cases r with
  |nil=>exact fun q h aa k=>wpAny_tests_one (S.et h aa aE F P k)
  |cons _ _=>exact ae.no
noncomputable def RK (elt t:PySem.Expr) (ifs:List PySem.Expr) (R:dR) (n:Nat) (fr:a5) (src:Src) (k acc:Nat) (q:Bool×ax) (st' : ax):Prop:=(q.1=false∧R.dz n fr elt t ifs src (k+1) acc q.2=some st') ∨
 (q.1=true∧∃ y xs,R.ev n fr elt q.2=some y∧y.2.H[acc]?=some (.list xs)∧R.dz n fr elt t ifs src (k+1) acc ⟨y.2.H.set acc (.list (xs++[y.1])),y.2.aa∧xs.length<aL⟩=some st')
theorem RL {elt t:PySem.Expr}{ifs:List PySem.Expr}{src:Src}{k acc:Nat}{q:Bool×ax}:ae (RK elt t ifs R n fr src k acc q) (bif q.1 then (R.ev n fr elt q.2).bind fun y=>(dA y.2.H[acc]?).bind fun xs=>R.dz n fr elt t ifs src (k+1) acc ⟨y.2.H.set acc (.list (xs++[y.1])),y.2.aa∧xs.length<aL⟩ else R.dz n fr elt t ifs src (k+1) acc q.2) :=
 ae.c (fun dk=>ae.b fun y h1=>ae.b fun xs af z h=>.inr ⟨dk,y,xs,h1,kj af,h⟩) fun dk z h=>.inl ⟨dk,h⟩
theorem RM (S:bP w R) {elt t:PySem.Expr}{ifs:List PySem.Expr}{src:Src}{k acc:Nat}:ae (FW w n fr elt t ifs src k acc st) (An R n fr elt t ifs src k acc st) :=
 ae.de fun bT=>ae.b fun o aM=>by
  obtain ⟨bc,bT⟩:=Bool.and_eq_true_iff.mp bT
  cases o with
  |none=>exact ae.bO ⟨fun o=>o,fun aa A c env s aR as x it sc pos Y aE F P it off n9 cx=>GB (xl (t:=t) it off P aM aE bT (fun h' e aG aX=>cx c h' _ _ aG aX _) fun v x h0 tk0 e np=>ba e)⟩
  |some v =>
   refine ae.b fun df h1=>ae.b fun q af st' h=>?_
   have h:=RL st' h
   have eg:st'.aa→q.2.aa:=fun o=>h.elim (fun h=>S.uf h.2 o) fun h=>by obtain ⟨_,y,xs,aB,_,dC⟩:=h;exact S.dm aB (S.uf dC o).1
   have e7:=RI S q af
   refine ⟨fun o=>S.ud h1 (e7 (eg o)),fun aa A c env s aR as x RN sc pos Y aE F P it off n9 cx=>GB (xl (t:=t) it off P aM aE bT (fun h' e aG aX=>ba e.symm) fun pd y h0 tk0 e np=>?_)⟩
   rw[←cc e] at np
   refine np _ fun aK bX bK aG aX r pC uv=>?_
   refine S.as (s:=a8 s bX bK) h1 (e7 (eg aa)) aE (F.cB aG).kept (aX.hold uv) r fun bw ct cU a3 b8=>?_
   have last:∀{Ba:ax}{jD:br}{uw:Heap}{Bb:Nat},b3 ct bw uw jD→aH w jD df.1 Ba.H uw→R.dz n {fr with ls:=df.1} elt t ifs src (k+1) acc Ba=some st'→codeAny (aU w) A (.compLoop (.ListComp elt [⟨t,RN,ifs,0⟩] sc pos) 0 (.ref aR) x env) Y (a8 s uw Bb):=by
    intro Ba jD uw Bb eC ia h
    obtain ⟨l6,dQ,f3⟩:=aX.xa uv ia (a3.trans eC)
    exact (S.AR st' h).2 aa (s:=a8 s uw Bb) Y aE ((F.cB (aG.trans dQ)).ls df.1) l6 (pC.mono dQ.le.im dQ.le.ρ fun a m o e=>(f3 a m (pC.here a m)).2.trans e) (fun a m=>(f3 a m (pC.here a m)).1) (n9.cB (aG.trans dQ)) fun c' h' az bM vP RO g=>cx c' h' az bM ((aG.trans dQ).FU vP) RO g
   refine RJ S (s:=a8 s ct cU) aE (((F.cB aG).kept.cB a3).ls df.1) b8 q af (eg aa) fun da i5 g0 c4 P3=>?_
   rcases h with ⟨dk,h⟩ |⟨dk,u,zs,aB,bZ,h⟩
   ·rw[dk];exact last c4 P3 h
   ·rw[dk]
    have rz:=S.uf h aa
    refine S.ev (s:=a8 s i5 g0) aB rz.1 aE (((F.cB aG).kept.cB (a3.trans c4)).ls df.1) P3 fun iE RP RQ z dQ l6 v4=>?_
    have RS:aF w.params iE.im iE.ρ (.ref acc) x:=n9.mono (fun _ _ e=>dQ.le.im _ _ (c4.le.im _ _ (a3.le.im _ _ (aG.le.im _ _ e)))) (fun _ _ e=>dQ.le.ρ _ _ (c4.le.ρ _ _ (a3.le.ρ _ _ (aG.le.ρ _ _ e))))
    exact FT (s:=a8 s RP RQ) l6 bZ RS v4 rz.2 fun h' eC ia=>last ((c4.trans dQ).trans eC) ia h
end
section
variable {w:World}{R:dR}{A:Around}{c:br}{st st' : ax}{s:Shared}{ls:List (Str×V)}{n:Nat}{fr:a5}{env:Env}{H:List aj}{h h' : Heap}
theorem GD {P:Addr}(X:eQ w h) (a4:P≠4):h.BuiltinsAt (gl w) P :=
 ⟨4,f3 w.params,(AA w _).trans (by kernel_rfl),by decide,by decide,fun e=>a4 e.symm,X 4 (f3 w.params) (by kernel_rfl) (by kernel_rfl) (by kernel_rfl),by kernel_rfl,by kernel_rfl,by kernel_rfl⟩
theorem hr.triples {im:cq}{q:Str}{ps:List (Nat×Nat)}{xs:List Value}(h:hr im q ps xs):TriplesOk xs:=hr.rec (motive:=fun _ xs _=>TriplesOk xs) trivial (fun _ _ aI=>aI) h
noncomputable def GF (im:cq) (q:Str) (pos:Pos) (ps:List (Nat×Nat)) (xs:List Value):Prop:=(ps.contains (pos.line,pos.col)=true∧∃ a,codeAmong pos xs=some (.ref a)∧mN im a q)∨(ps.contains (pos.line,pos.col)=false∧codeAmong pos xs=none)
theorem RT {pos:Pos}{l c a:Nat}{xs:List Value}:codeAmong pos (rawInt l::rawInt c::.ref a::xs)=if ((l:Int) == pos.line&&(c:Int) == pos.col)=true then some (.ref a) else codeAmong pos xs:=rfl
theorem hr.among {im:cq}{q:Str}{pos:Pos}{ps:List (Nat×Nat)}{xs:List Value}(h:hr im q ps xs):GF im q pos ps xs:=by
 induction h with
 |nil=>exact .inr ⟨rfl,rfl⟩
 | @cons l c a ps xs h b aI =>
  unfold GF
  rw[RT,List.contains_cons]
  by_cases e:l=pos.line∧c=pos.col
  ·rw[e.1,e.2,if_pos (by simp),beq_self_eq_true]
   exact .inl ⟨rfl,a,rfl,h⟩
  ·rw[if_neg (fun z=>e (by simp only[Bool.and_eq_true,beq_iff_eq] at z;exact ⟨Int.ofNat_inj.mp z.1,Int.ofNat_inj.mp z.2⟩)),show ((pos.line,pos.col) == (l,c))=false from beq_false_of_ne fun z=>e ⟨(Prod.mk.inj z).1.symm,(Prod.mk.inj z).2.symm⟩,Bool.false_or]
   exact aI
theorem hr.snoc {im:cq}{q:Str}{a l c:Nat}(z:mN im a q) {ps:List (Nat×Nat)}{xs:List Value}(h:hr im q ps xs):hr im q (ps++[(l,c)]) (xs++[rawInt l,rawInt c,.ref a]) :=
 hr.rec (motive:=fun ps xs _=>hr im q (ps++[(l,c)]) (xs++[rawInt l,rawInt c,.ref a])) (.cons z .nil) (fun h _ aI=>.cons h aI) h
theorem aH.RU (P:aH w c ls H h) {i:Nat}{p:Addr×Addr}{o o' : aj}{im' : cq}{iD:Obj}(a4:c.ρ[i]?=some p) (c8:H[i]?=some o) (Bc:h.get? p.1=some iD) (dn:o.dX p=[p.1]) (e:o'.dX p=o.dX p) (ar:∀ b aa,b≠p.1→h.get? b=some aa→h'.get? b=some aa)
 (b2:∃ aa,h'.get? p.1=some aa) (h1:e9 c.im im') (af:∀ a o,im' a=some o→c.im a=some o∨(h.objs.size≤a∧h'.get? a=some o)) (bR:gU w im' c.ρ h' p o'):aH w {c with im:=im'} ls (H.set i o') h':=by
 obtain ⟨e7,b2⟩:=b2
 have g1:(h'.update p.1 fun _=>iD).get? p.1=some iD:=AG (f:=fun _=>iD) b2 (Heap.get?_some_iff.mp Bc).2
 have aX:aH w {c with im:=im'} ls H (h'.update p.1 fun _=>iD):=P.grow (fun b aa q=>by
  by_cases z:b=p.1
  ·subst z;rw[Bc] at q;obtain rfl:=cc q;exact g1
  ·exact (n6 z).trans (ar b aa z q)) h1 fun a o q=>(af a o q).imp id fun ⟨x,y⟩=>⟨x,(n6 fun z=>by rw[z] at x;exact Nat.lt_irrefl _ (Nat.lt_of_lt_of_le (Heap.lt_size Bc) x)).trans y⟩
 refine aX.upd a4 c8 e (fun b aa nb q=>?_) bR
 rw[dn] at nb
 exact (n6 fun z=>nb (by rw[z];exact .head _)).symm.trans q
theorem GG {im:cq}{a:Addr}{o:Obj}{vs:Array Value}{t:Tok}{q:Str}(e:im a=some o) (h1:o.data=.fields vs) (af:vs[1]?=some (.str q t)):mN im a q:=⟨o,vs,t,e,h1,af⟩
theorem GH {im:cq}{a b:Addr}{o aa:Obj}{G:Prop}(e:eR im a o b=some aa) (dM:b=a→o=aa→G) (ew:im b=some aa→G):G:=by
 unfold eR at e
 split at e
 ·exact dM ‹_› (cc e)
 ·exact ew e
structure Bd (w:World) (c:br) (ls:List (Str×V)) (H:List aj) (s:Shared) (env:Env) (i:Nat) (p:Addr×Addr) (cd:Addr) (rows:List (Nat×Nat)) (xs:List Value):Prop where
 P:aH w c ls H s.heap
 glob:env.globals=3
 xo:env.code=.ref cd
 C:CodeHd s.heap cd p.1
 iw:c.ρ[i]?=some p
 aM:H[i]?=some (.tab (env.qual ++ "<lambda>") rows)
 ao:s.heap.get? p.1=some (tabObj xs.toArray)
 rA:hr c.im (env.qual ++ "<lambda>") rows xs
 c4:(3:Addr)≠p.1
 dQ:p.1≠(4:Addr)
section
variable {ps:Arguments}{body:PySem.Expr}{sc:Scope}{pos:Pos}{rows:List (Nat×Nat)}{i:Nat}{p:Addr×Addr}{cd:Addr}{xs:List Value}{Q:Value→Shared→Prop}{aa:Prop}
theorem RV (L:Bd w c ls H s env i p cd rows xs) {ca:Addr}(rB:closureFor sc env=pure []) (dD:codeAmong pos xs=some (.ref ca)) (gv:mN c.im ca (env.qual ++ "<lambda>")) (k:kn w c ls s (.lam ps body sc) ⟨H,aa⟩ Q) :
 wpAny (aU w) A (makeFunction "<lambda>" (env.qual ++ "<lambda>") ps (.expr body) sc env [] [] [] pos pos.line) Q bo s :=
 have X:eQ w s.heap:=mX L.P.dh fun _ _=>L.P.rep.cM
 kla_makeFunctionHit (mg:=gl w) rB L.glob (vQ X) L.xo L.C L.ao L.rA.triples dD (GD X L.dQ) fun kV h' az ar bZ=>by
  obtain ⟨b8,l2⟩:=(L.P.um ar).tE {cls:=.type "function",data:=.func (kla_fn "<lambda>" (env.qual ++ "<lambda>") ps body sc [] ((gl w "__name__").getD .none) (.ref ca) kV)} rfl
  exact k _ _ _ _ ((b3.keep ar).trans ⟨l2,.push _⟩) b8 (.lam ⟨_,_,_,_,_,mR,gv.mono l2.im⟩)
theorem RW (L:Bd w c ls H s env i p cd rows xs) (rB:closureFor sc env=pure []) (dD:codeAmong pos xs=none) (k:kn w c ls s (.lam ps body sc) ⟨H.set i (.tab (env.qual ++ "<lambda>") (rows++[(pos.line,pos.col)])),aa⟩ Q) :
 wpAny (aU w) A (makeFunction "<lambda>" (env.qual ++ "<lambda>") ps (.expr body) sc env [] [] [] pos pos.line) Q bo s:=by
 have X:eQ w s.heap:=mX L.P.dh fun _ _=>L.P.rep.cM
 refine kla_makeFunction (mg:=gl w) rB L.glob (vQ X) L.xo L.C L.ao L.rA.triples dD L.c4 (GD X L.dQ) fun c' kV h' az bA Be iH RX Bf=>?_
 obtain ⟨bw,t2,vs,t,aC,RY,hd,aV⟩:=RX
 have aC:c'=bw:=Value.ref.inj aC
 subst aC
 have l1:e9 c.im (eR c.im c' t2):=z6 (L.P.Et Be)
 have aX:=L.P.RU (o':=.tab (env.qual ++ "<lambda>") (rows++[(pos.line,pos.col)])) (h':=h') L.iw L.aM L.ao rfl rfl (fun b aa nb e=>bA b aa nb e) ⟨_,Bf⟩ l1 (fun a o e=>GH e (fun dj eu=>.inr ⟨dj▸Be,dj▸eu▸RY⟩) .inl)
  ⟨xs++[rawInt pos.line,rawInt pos.col,.ref c'],by rw[Bf];simp,(L.rA.mono l1).snoc (GG mR hd aV)⟩
 have aG:b3 s.heap c h' {c with im:=eR c.im c' t2}:=⟨⟨rfl,rfl,l1,fun _ _ e=>e,fun a o e=>GH e (fun z _=>.inr (.inl (z▸Heap.iz Be))) .inl⟩,fun b o e=>by
  by_cases z:b=p.1
  ·exact ⟨_,z▸Bf⟩
  ·exact ⟨o,bA b o z e⟩⟩
 obtain ⟨b8,l2⟩:=aX.tE (kla_obj "<lambda>" (env.qual ++ "<lambda>") ps body sc [] ((gl w "__name__").getD .none) c' kV) rfl
 exact k _ _ _ _ (aG.trans ⟨l2,.push _⟩) b8 (.lam ⟨_,_,_,_,_,mR,(GG mR hd aV).mono l2.im⟩)
theorem RZ {y:Nat×Str}{z:Str×List (Nat×Nat)}(F:cO c fr env) (P:aH w c fr.ls H s.heap) (bT:fr.tab=some y) (bZ:wt H[y.1]?=some z) (dk:seq z.1 y.2=true):z.1=env.qual ++ "<lambda>"∧∃ p cd xs,Bd w c fr.ls H s env y.1 p cd z.2 xs:=by
 obtain ⟨eq,cd,p,xo,iw,o,dn,hZ⟩:=F.tab _ _ bT
 have aM:=Oe bZ
 have xp:z.1=env.qual ++ "<lambda>":=(d9.mp dk).trans eq
 rw[xp] at aM
 obtain ⟨xs,ao,rA⟩:=P.rep.at_ iw aM
 have no:∀{a o},(full w.params).get a=some o→o2 o=true→Nat.blt a 955=true→a≠p.1:=fun h1 af aB e=>ba ((P.rep.ju ⟨y.1,p,_,iw,aM,.head _⟩).symm.trans (e▸P.dh _ _ h1 af aB))
 exact ⟨xp,p,cd,xs,P,F.glob,xo,hZ _ (P.rep.cM dn),iw,aM,ao,rA,no (o:=fP w.params) (by kernel_rfl) (by kernel_rfl) (by kernel_rfl),(no (o:=f3 w.params) (by kernel_rfl) (by kernel_rfl) (by kernel_rfl)).symm⟩
theorem R0 {v:V}{q:Str}:(q8 st.H i pos v q rows st).2.aa=st.aa∧(q8 st.H i pos v q rows st).1=v:=by
 unfold q8
 cases rows.contains (pos.line,pos.col) <;> exact ⟨rfl,rfl⟩
theorem R1 (h:Aj ps sc=true):defaultsOf ps env=([],[])∧closureFor sc env=pure []:=by
 obtain ⟨h1,h⟩:=Bool.and_eq_true_iff.mp h
 obtain ⟨af,aB⟩:=Bool.and_eq_true_iff.mp h
 refine ⟨?_,closureFor_none fun x m z=>?_⟩
 ·obtain ⟨_,_,_,_,kd,_,l7⟩:=ps
  rw[show l7=[] from List.isEmpty_iff.mp h1,show kd=[] from List.isEmpty_iff.mp af]
  rfl
 ·have:=List.any_eq_false.mp (rm aB) x m
  rw[z] at this
  exact this rfl
theorem R2 {y:Nat×Str}{z:Str×List (Nat×Nat)}(bT:fr.tab=some y) (bZ:wt st.H[y.1]?=some z) (q:(seq z.1 y.2&&Aj ps sc)=true):f9 w n fr (.Lambda ps body sc pos) st (q8 st.H y.1 pos (.lam ps body sc) z.1 z.2 st):=by
 refine ⟨fun o=>R0.1▸o,fun aa A c env s aE F P Q k=>?_⟩
 obtain ⟨aS,bf⟩:=Bool.and_eq_true_iff.mp q
 obtain ⟨xp,p,cd,xs,L⟩:=RZ F P bT bZ aS
 obtain ⟨R3,rB⟩:=R1 (env:=env) bf
 refine kla_eval R3 ?_
 unfold q8 at k
 rcases L.rA.among (pos:=pos) with ⟨eN,ca,dD,gv⟩ |⟨eN,dD⟩
 ·rw[eN] at k;exact RV L rB dD gv k
 ·rw[eN,xp] at k;exact RW L rB dD k
end
end
section
variable {w:World}{R:dR}{A:Around}{c:br}{st st' : ax}{s:Shared}{ls:List (Str×V)}{n:Nat}{fr:a5}{env:Env}{H:List aj}{h h' : Heap}
theorem R4 {a b:Int}(h0:0≤a) (h1:a≤b) (af:b≤1000000):Builtin.Range.small a b 1=true∧Builtin.Range.rangeSize a b 1=b - a:=by
 have e:Builtin.Range.rangeSize a b 1=b - a:=by
  unfold Builtin.Range.rangeSize
  split
  ·split
   ·omega
   ·omega
  ·omega
 refine ⟨?_,e⟩
 unfold Builtin.Range.small
 rw[e]
 simp only[Builtin.Range.rangeFitsLong,Bool.and_eq_true,Bool.or_eq_true,decide_eq_true_eq]
 refine ⟨⟨⟨⟨?_,?_⟩,?_⟩,?_⟩,.inr ?_⟩
 ·constructor <;> omega
 ·constructor <;> omega
 ·constructor <;> omega
 ·constructor <;> omega
 ·rw[if_pos (by decide),Bool.and_eq_true,decide_eq_true_eq,decide_eq_true_eq];constructor <;> omega
noncomputable def R5 (w:World) (aR:Addr) (h:Heap):Prop:=∀(A:Around) (s:Shared) (E:Value→Shared→Prop) (Q:Value→Shared→Prop),(∀ o,h.get? aR=some o→s.heap.get? aR=some o)→Q (.ref aR) s→wpAny (aU w) A (pyIter (.ref aR)) Q E s
noncomputable def xq (w:World) (A:Around) (c:br) (s:Shared) (x:Value) (src:Src):Prop:=∀ Q:Value→Shared→Prop,(∀ aR h',(∀ b o,s.heap.get? b=some o→h'.get? b=some o)→s.heap.get? aR=none→fT c w.params h' src 0 aR [aR]→R5 w aR h'→Q (.ref aR) (a8 s h' s.toks))→wpAny (aU w) A (pyIter x) Q bo s
theorem rC (o:Obj):s.heap.get? s.heap.objs.size=none∧∀ b aa,s.heap.get? b=some aa→(s.heap.push o).get? b=some aa:=⟨Heap.iz (Nat.le_refl _),fun _ _=>Heap.get?_push_of_some _⟩
theorem GI {a:Addr}{xs:List Value}{m:Nat}{src:Src}(e:s.heap.get? a=some (fE xs m)) (ft:∀ h' aR,h'.IsListIter aR a 0→fT c w.params h' src 0 aR [aR]):xq w A c s (.ref a) src:=fun Q k=>by
 have li:(s.heap.push {cls:=.type "list_iterator",data:=.fields #[.ref a,.int 0 0]}).IsListIter s.heap.objs.size a 0:=⟨_,Heap.get?_push_size _ rfl,rfl,rfl⟩
 exact wpAny_pyIter_list (listAt e) (k s.heap.objs.size _ (rC _).2 (rC default).1 (ft _ _ li) fun A e6 E Q z q=>wpAny_pyIter_listiter (li.at z) q)
theorem R6 {a:Addr}{xs:List Value}{vs:List V}{m:Nat}(im:c.im a=some (hG xs m)) (e:s.heap.get? a=some (hG xs m)) (bb:aW w.params c.im c.ρ vs xs):xq w A c s (.ref a) (.di vs):=fun Q k=>by
 have GJ:(s.heap.push {cls:=.type "tuple_iterator",data:=.fields #[.ref a,.int 0 0]}).IsTupleIter s.heap.objs.size a 0:=⟨_,Heap.get?_push_size _ rfl,rfl,rfl⟩
 exact wpAny_pyIter_tuple (items:=xs.toArray) ⟨_,e,rfl,_,rfl⟩ (k s.heap.objs.size _ (rC _).2 (rC default).1 (.di im bb GJ) fun A e6 E Q z q=>wpAny_pyIter_tupleiter (let ⟨o,a,b⟩:=GJ;⟨o,z o a,b⟩) q)
theorem R7 {lo aM:Int}{a:Addr}{ix lN ka:Tok}(e:s.heap.get? a=some {cls:=.type "range",data:=.fields #[.int lo ix,.int aM lN,.int 1 ka]}) (dj:0≤lo) (eu:lo≤aM) (kq:aM≤1000000):xq w A c s (.ref a) (.cw lo aM):=fun Q k=>by
 obtain ⟨kr,aP⟩:=R4 dj eu kq
 have Bg:IsRangeIter (s.heap.push {cls:=.type "range_iterator",data:=.fields #[rawInt lo,rawInt (Builtin.Range.rangeSize lo aM 1),rawInt 1]}) s.heap.objs.size lo (Builtin.Range.rangeSize lo aM 1) 1:=Heap.get?_push_size _ rfl
 refine wpAny_pyIter_range e kr (k s.heap.objs.size _ (rC _).2 (rC default).1 (.cw (lo:=lo) (k:=0) ?_) fun A e6 E Q z q=>wpAny_pyIter_rangeiter (z _ Bg) q)
 rw[aP] at Bg ⊢
 rw[show lo+((0:Nat):Int)=lo from Int.add_zero lo,show aM - lo - ((0:Nat):Int)=aM - lo from Int.sub_zero _]
 exact Bg
theorem GK {v:V}{x:Value}(P:aH w c ls st.H s.heap) (bN:aF w.params c.im c.ρ v x):ae (xq w A c s x) (srcOf v st) :=
 ae.o (fun vs h=>ae.bO (by rw[wK h] at bN;exact bN.tA fun a xs m im bb z=>GI (P.rep.cM im) fun h' aR q=>.aO im bb q)) fun _ =>
 ae.o (fun vs h=>ae.bO (by rw[n4 h] at bN;exact bN.f5 fun a xs m im bb z=>R6 im (P.rep.cM im) bb)) fun _ =>
 ae.o (fun r h=>ae.m fun vs aV=>by
  rw[kk h] at bN
  refine bN.iy fun p a4=>?_
  obtain ⟨xs,m,ao,bb,uq⟩:=P.rep.at_ a4 (kj aV)
  exact GI ao fun h' aR q=>.ref a4 q) fun _=>ae.b fun y h=>ae.de fun q=>ae.bO (by
  obtain ⟨dj,q⟩:=Bool.and_eq_true_iff.mp q
  obtain ⟨eu,kq⟩:=Bool.and_eq_true_iff.mp q
  rw[Oh h] at bN
  exact bN.NQ fun a ix lN ka im=>R7 (P.rep.cM im) (of_decide_eq_true dj) (of_decide_eq_true eu) (of_decide_eq_true kq))
theorem GL {ρ:c5}{H:List aj}{p:Addr×Addr}{o:aj}{a:Addr}(hN:ρ.length=H.length) (x:Own (ρ++[p]) (H++[o]) a):Own ρ H a∨a∈o.dX p:=by
 obtain ⟨i,q,aa,ao,aC,m⟩:=x
 exact q1 hN (G:=fun _ q aa=>a∈aa.dX q→Own ρ H a∨a∈o.dX p) (fun x y m=>.inl ⟨_,_,_,x,y,m⟩) .inr ao aC m
noncomputable def hO (cells:List (Str×Addr)):List (Str×NameKind)→List (Str×Addr)→List (Str×Addr)
 |[],acc=>acc
 |(x,k)::r,acc=>bif k == .free then hO cells r ((x,(cells.lookup x).getD 0)::acc) else hO cells r acc
theorem GN {cells:List (Str×Addr)}{x:Str}{k:NameKind}{r:List (Str×NameKind)}{acc:List (Str×Addr)}(q:(k == .free)=true):hO cells ((x,k)::r) acc=hO cells r ((x,(cells.lookup x).getD 0)::acc) :=
 congrArg (fun b=>bif b then hO cells r ((x,(cells.lookup x).getD 0)::acc) else hO cells r acc) q
theorem GO {cells:List (Str×Addr)}{x:Str}{k:NameKind}{r:List (Str×NameKind)}{acc:List (Str×Addr)}(q:(k == .free)=false):hO cells ((x,k)::r) acc=hO cells r acc :=
 congrArg (fun b=>bif b then hO cells r ((x,(cells.lookup x).getD 0)::acc) else hO cells r acc) q
theorem xr {cells:List (Str×Addr)}{x:Str}{a:Addr}(e:cells.lookup x=some a):∀{names:List (Str×NameKind)}{acc:List (Str×Addr)},((x,NameKind.free)∈names∨acc.lookup x=some a)→(∀ b,acc.lookup x=some b→b=a)→(hO cells names acc).lookup x=some a
 |[],acc,h,_=>by
  rcases h with h |h
  ·cases h
  ·exact h
 |(y,k)::r,acc,h,u=>by
  cases q:k == .free with
  |true =>
   rw[GN q]
   by_cases z:x=y
   ·subst z
    refine xr e (.inr ?_) fun b g6=>?_
    ·simp[List.lookup_cons,e]
    ·simp[List.lookup_cons,e] at g6;exact g6.symm
   ·have k4:(x == y)=false:=by simpa using z
    refine xr e ?_ fun b g6=>?_
    ·rcases h with h |h
     ·cases h with
      |head=>exact absurd rfl z
      |tail _ h=>exact .inl h
     ·exact .inr (by rw[List.lookup_cons,k4];exact h)
    ·rw[List.lookup_cons,k4] at g6;exact u b g6
  |false =>
   rw[GO q]
   refine xr e ?_ u
   rcases h with h |h
   ·cases h with
    |head=>exact eD q
    |tail _ h=>exact .inl h
   ·exact .inr h
theorem R8 {sc:Scope}(h:∀ x∈sc.names,x.2=.free→(env.cells.lookup x.1).isSome=true):closureFor sc env=pure (hO env.cells sc.names []):=by
 simp only[closureFor]
 generalize sc.names=ns at h
 suffices ∀ acc,(forIn ns acc fun (x:Str×NameKind) (r:List (Str×Addr))=>match x with |(name,kind)=>if (kind == NameKind.free)=true then do let a ←cellOf env name;pure (ForInStep.yield ((name,a)::r)) else pure (ForInStep.yield r))=(pure (hO env.cells ns acc):Sem _) by
  have z:=this []
  simp only[bind_pure]
  exact z
 induction ns with
 |nil=>intro acc;rfl
 |cons x r aI =>
  intro acc
  obtain ⟨y,k⟩:=x
  have aI:=aI fun x m=>h x (.tail _ m)
  rw[List.forIn_cons]
  cases q:k == .free with
  |true =>
   have z:=h (y,k) (.head _) (beq_iff_eq.mp q)
   obtain ⟨a,e⟩:=Option.isSome_iff_exists.mp z
   have e:env.cells.lookup y=some a:=e
   simp only[GN q,q,if_true,cellOf,e,pure_bind,Option.getD_some]
   exact aI _
  |false =>
   simp only[GO q,q,Bool.false_eq_true,if_false,pure_bind]
   exact aI _
theorem R9 {c:br}(F:cO c fr env) (sc:Scope):PySem.relabel sc env=relabel fr sc:=by
 unfold PySem.relabel relabel
 congr 1
 refine List.map_congr_left fun x _=>?_
 obtain ⟨m,k⟩:=x
 dsimp only
 rw[F.kindOf,F.sc,F.kind]
 simp
theorem Bh {α:Type}{p:Str×α→Bool}(a4:∀ x a b,p (x,a)=p (x,b)) {x:Str}{v:α}:∀{l:List (Str×α)},look x (l.filter p)=some v→look x l=some v∧p (x,v)=true
 |[],e=>by exact ba e
 |(y,u)::r,e=>by
  rw[List.filter_cons] at e
  cases q:p (y,u) with
  |true =>
   rw[q,if_pos rfl] at e
   cases z:seq x y with
   |true=>rw[h5 z] at e ⊢;obtain rfl:=cc e;rw[d9.mp z];exact ⟨rfl,q⟩
   |false=>rw[h6 z] at e ⊢;exact Bh a4 e
  |false =>
   rw[q,if_neg (by simp)] at e
   have aI:=Bh a4 e
   cases z:seq x y with
   |true =>
    rw[h5 z]
    have:=aI.2
    rw[d9.mp z,a4 y v u,q] at this;exact dv this
   |false=>rw[h6 z];exact aI
structure Bi (env:Env) (sc:Scope) (g:Comprehension):Prop where
 GP:g.is_async=0
 set:gr g.iter=false
 el:closureFor sc env=pure (hO env.cells sc.names [])
 kind:sc.kind=.function
 loc:∀ x∈sc.names,x.2=.local→sc.names.lookup x.1=some .local
 Sa:∀ x∈sc.names,x.2≠.cell
theorem GQ {sc:Scope}{g:Comprehension}(F:cO c fr env) (q:pf fr sc g.target g.iter g.is_async=true):Bi env sc g:=by
 unfold pf at q
 simp only[Bool.and_eq_true,decide_eq_true_eq,Bool.not_eq_true',beq_iff_eq,List.all_eq_true,Bool.or_eq_true,bne_iff_ne] at q
 obtain ⟨⟨⟨⟨aS,bf⟩,dU⟩,ea⟩,km⟩:=q
 refine ⟨aS,dU,R8 fun x m e=>?_,ea,fun x m e=>lW.trans ((km x m).1.2.resolve_left fun z=>z e),fun x m=>(km x m).1.1⟩
 obtain ⟨i,aM⟩:=Option.isSome_iff_exists.mp ((km x m).2.resolve_left fun z=>z e)
 obtain ⟨p,_,aC⟩:=F.cs _ _ aM
 rw[aC];rfl
noncomputable def ux (aK:br) (H1:List aj) (h1:Heap) (C D:Addr):br:=⟨e5 aK.ρ H1 h1,C,aK.im,aK.ρ++[(D,D)]⟩
section
variable {aK:br}{H1:List aj}{h1 bu:Heap}{C D aR:Addr}
theorem Sb {b:Addr}(e:h1.get? b=none):e5 aK.ρ H1 h1 b=none:=mQ fun o z=>ba (e.symm.trans (oi.mp z).2)
theorem GR (P:aH w aK ls H1 h1) {b:Addr}(e:h1.get? b=none) (z:b≠C):Off ⟨e5 aK.ρ H1 h1,C,aK.im,aK.ρ⟩ H1 b:=⟨(Off.new P e).1,z,(Off.new P e).2.2.1,Sb e⟩
theorem Sd {m:Str→Option Value}(P:aH w aK ls H1 h1) (ar:∀ b o,h1.get? b=some o→bu.get? b=some o) (m7:bu.Ns C m) (om:h1.get? C=none) (Bj:h1.get? D=none) (xt:D≠C) (Bk:bu.get? D=some (fE [] 0)):aH w (ux aK H1 h1 C D) [] (H1++[.list []]) bu :=
 (P.enter (bJ:=[]) (C:=C) (h':=bu) ar m7 (fun x v e=>ba e) om).adopt (h':=bu) (p:=(D,D)) (o:=.list []) (fun a m=>by rw[List.mem_singleton.mp m];exact GR P Bj xt) (fun _ _ _ e=>e) ⟨[],0,Bk,.nil,Nat.zero_le _⟩
theorem Se (P:aH w aK ls H1 h1) (oo:h1.get? aR=none) (Sf:aR≠C) (Sg:aR≠D):∀ a∈[aR],Off (ux aK H1 h1 C D) (H1++[.list []]) a:=fun a m=>by
 rw[List.mem_singleton.mp m]
 obtain ⟨fa,es,fP,f3⟩:=GR (C:=C) P oo Sf
 exact ⟨fun x=>(GL P.rep.len x).elim fa fun y=>Sg (List.mem_singleton.mp y),es,fP,f3⟩
theorem xu:hq aK.ρ (aK.ρ++[(D,D)]):=fun _ _ e=>o8 e
theorem Sh {sc:Scope}(F:cO aK fr env) (k:sc.kind=.function):cO (ux aK H1 h1 C D) ⟨relabel fr sc,pe sc fr.cs,none,[]⟩ (compEnvC sc (hO env.cells sc.names []) C env):=by
 refine ⟨R9 F sc,k,rfl,F.glob,F.blt,fun x i e=>?_,fun _ _ e=>ba e,F.az.mono xu⟩
 obtain ⟨ao,aC⟩:=Bh (fun x a b=>rfl) e
 obtain ⟨p,cL,gH⟩:=F.cs x i ao
 refine ⟨p,xu _ _ cL,xr gH (.inl ?_) fun b e=>ba e⟩
 exact n1 (Od aC)
theorem Si {c' : br}{h' : Heap}{Bl:List aj}{bM:List (Str×V)}(P:aH w aK ls H1 h1) (ar:∀ b o,h1.get? b=some o→bu.get? b=some o) (oo:h1.get? aR=none) (om:h1.get? C=none) (ia:aH w c' bM Bl h') (n:jF [aR] bu (ux aK H1 h1 C D) h' c') :
 aH w {c' with kept:=aK.kept,L:=aK.L} ls Bl h'∧b3 h1 aK h' {c' with kept:=aK.kept,L:=aK.L}∧Off {c' with kept:=aK.kept,L:=aK.L} Bl C∧∃ m,h'.Ns C m:=by
 have new:∀ a o,c'.im a=some o→aK.im a=some o∨h1.get? a=none∨(e5 aK.ρ H1 h1 a=none∧a≠C):=fun a o e=>(n.le.new a o e).imp id fun z=>z.imp (fun z=>mQ fun o q=>ba (z.symm.trans (ar _ _ q))) id
 have gb:hq aK.ρ c'.ρ:=fun i p e=>n.le.ρ _ _ (xu _ _ e)
 have pz:c'.L=C:=n.le.L
 have al:lP h1 h':=fun a o e=>n.aP a o (fun m=>by rw[List.mem_singleton.mp m,oo] at e;exact ba e) (ar _ _ e)
 obtain ⟨m,_,hm⟩:=ia.ns
 exact ⟨P.back ia n.le.kept n.le.im gb new,b3.back (C:=C) P ⟨⟨n.le.kept,n.le.L,n.le.im,gb,new⟩,al⟩,⟨fun x=>(ia.own x).2 pz.symm,(Off.new P om).2.1,pz▸ia.fr.2,(Off.new P om).2.2.2⟩,m,pz▸hm⟩
end
noncomputable def GS (w:World) (A:Around) (c:br) (fr:a5) (env:Env) (s:Shared) (elt:PySem.Expr) (g:Comprehension) (sc:Scope) (pos:Pos) (r:V×ax):Prop :=
 ∀{RR:Value→Addr→Result→Shared→Prop},(∀ eU h' az C m D g,b3 s.heap c h' eU→aH w eU fr.ls r.2.H h'→aF w.params eU.im eU.ρ r.1 (.ref D)→h'.Ns C m→Off eU r.2.H C→s.heap.get? C=none→RR (.ref D) C (.ok g) (a8 s h' az)) →
  wpAny (aU w) A (eval g.iter env) (fun x dS=>wpAny (aU w) A (pyIter x) (fun aR jG=>wpAny (aU w) A (PySem.newList []) (fun acc gJ=>wpAny (aU w) A (newFunctionEnv sc env.globals (hO env.cells sc.names []) [] env.qual none .none (some env)) (fun GU xn =>
   codeAny (aU w) A (.compStart (.ListComp elt [⟨g.target,g.iter,g.ifs,0⟩] sc pos) 0 aR acc {GU with scope:=PySem.relabel sc env}) (RR acc GU.locals) xn) bo gJ) bo jG) bo dS) bo s
theorem Sj (S:bP w R) {elt:PySem.Expr}{g:Comprehension}{sc:Scope}{pos:Pos}{y src fR}(L:Bi env sc g) (h1:R.ev n fr g.iter st=some y) (af:srcOf y.1 y.2=some src)
 (aB:R.dz n ⟨relabel fr sc,pe sc fr.cs,none,[]⟩ elt g.target g.ifs src 0 y.2.H.length ⟨y.2.H++[.list []],y.2.aa⟩=some fR) (aa:fR.aa) (aE:dB A n) (F:cO c fr env) (P:aH w c fr.ls st.H s.heap):GS w A c fr env s elt g sc pos (.ref y.2.H.length,fR):=by
 intro RR fin
 refine S.ev h1 (S.uf aB aa:ax.aa ⟨y.2.H++[.list []],y.2.aa⟩) aE F P fun aK bX bK x aG aX v1=>?_
 refine GK (s:=a8 s bX bK) aX v1 _ af _ fun aR ct ew oo uy self=>?_
 refine wpAny_newObj_type (wpAny_newFunctionEnv L.Sa (fun _ m=>nomatch m) (fun bu m7 pD=>?_) L.kind)
 dsimp only at m7 pD ⊢
 generalize jI:ct.push {cls:=.type "list",dict:=none,data:=.seq ([]:List Value).toArray}=H3 at m7 pD ⊢
 have e1:H3.objs.size=ct.objs.size+1:=by rw[←jI,Heap.size_push]
 have Bm:ct.get? H3.objs.size=none:=Heap.iz (e1▸Nat.le_succ _)
 have GV:ct.get? ct.objs.size=none:=Heap.iz (Nat.le_refl _)
 have Bn:∀ b o,ct.get? b=some o→bu.get? b=some o:=fun b o e=>pD.extBut b o (fun z=>ba (Bm.symm.trans (z▸e))) (Heap.get?_push_of_some _ (jI▸Heap.get?_push_of_some _ e))
 have GW:∀ b o,bX.get? b=some o→bu.get? b=some o:=fun b o e=>Bn b o (ew b o e)
 have om:bX.get? H3.objs.size=none:=mQ fun o e=>ba (Bm.symm.trans (ew _ _ e))
 have Bj:bX.get? ct.objs.size=none:=mQ fun o e=>ba (GV.symm.trans (ew _ _ e))
 have xt:ct.objs.size≠H3.objs.size:=e1▸(Nat.succ_ne_self _).symm
 have Bk:bu.get? ct.objs.size=some (fE [] 0):=pD.extBut _ _ xt (Heap.get?_push_of_some _ (jI▸Heap.get?_push_size _ rfl))
 have Sk:=uy.mono (c':=ux aK y.2.H bX H3.objs.size ct.objs.size) (h':=bu) (fun _ _ e=>e) xu (fun a m o e=>Bn a o e)
 have GX:(aK.ρ++[(ct.objs.size,ct.objs.size)])[y.2.H.length]?=some (ct.objs.size,ct.objs.size):=aX.rep.len▸(List.getElem?_append_right (Nat.le_refl _)).trans (by rw[Nat.sub_self];rfl)
 have loop:codeAny (aU w) A (.compLoop (.ListComp elt [⟨g.target,g.iter,g.ifs,0⟩] sc pos) 0 (.ref aR) (.ref ct.objs.size) (compEnvC sc (hO env.cells sc.names []) H3.objs.size env)) (RR (.ref ct.objs.size) H3.objs.size) (a8 s bu (bK+([]:List (Str×Value)).length)) :=
  (S.AR _ aB).2 aa (s:=a8 s bu (bK+([]:List (Str×Value)).length)) _ aE (Sh (F.cB aG) L.kind) (Sd aX GW m7 om Bj xt Bk) Sk (Se aX oo (fun z=>uy.here aR (.head _) (z▸Bm)) fun z=>uy.here aR (.head _) (z▸GV)) (.ref (p:=(ct.objs.size,ct.objs.size)) GX) fun c' h' az bM eC ia g=>by
   obtain ⟨Sl,Sm,Sn,m,hm⟩:=Si aX GW oo om ia eC
   exact fin _ h' az _ m _ g (aG.trans Sm) Sl (.ref (p:=(ct.objs.size,ct.objs.size)) (eC.le.ρ _ _ GX)) hm Sn (aG.aP.none om)
 exact codeAny_compStart_list loop (self A _ _ _ (fun o e=>Bn _ _ e) loop)
theorem GY (S:bP w R) {elt:PySem.Expr}{gens:List Comprehension}{sc:Scope}:ae (fun r=>∃ g,gens=[g]∧(r.2.aa→st.aa)∧(r.2.aa→∀{A c env s}(pos),dB A n→cO c fr env→aH w c fr.ls st.H s.heap→Bi env sc g∧GS w A c fr env s elt g sc pos r)) (q7 R n fr elt gens sc st) :=
 ae.b fun g cP=>ae.de fun q=>ae.b fun x h1=>ae.b fun src af=>ae.m fun fR aB=>⟨g,mY cP,fun o=>S.dm h1 (S.uf aB o:ax.aa ⟨x.2.H++[.list []],x.2.aa⟩),fun aa A c env s pos aE F P=>⟨GQ F q,Sj S (GQ F q) h1 af aB aa aE F P⟩⟩
end
section
variable {w:World}{R:dR}{A:Around}{c:br}{st st' : ax}{s:Shared}{ls:List (Str×V)}{n:Nat}{fr:a5}{env:Env}{H:List aj}{h h' : Heap}
theorem xv {it:PySem.Expr}(h:gr it=false) (x:Value):foldedSetIterable it env x=pure x:=by
 cases it <;> first |rfl |exact eD h
theorem b3.drop {C:Addr}{jB:Heap}{c' : br}(aG:b3 h c h' c') (ak:Heap.SameBut C h' jB) (e:h.get? C=none):b3 h c jB c' :=
 ⟨aG.le,fun a o q=>let ⟨o',nN⟩:=aG.aP a o q;⟨o',(ak.2 a fun z=>by rw[z,e] at q;exact ba q).trans nN⟩⟩
theorem So (S:bP w R) {elt:PySem.Expr}{gens:List Comprehension}{sc:Scope}{pos:Pos}:ae (f9 w n fr (.ListComp elt gens sc pos) st) (q7 R n fr elt gens sc st):=fun r h=>by
 obtain ⟨g,rfl,o,core⟩:=GY S r h
 refine ⟨o,fun aa A c env s aE F P Q k=>?_⟩
 obtain ⟨L,core⟩:=core aa pos aE F P
 obtain ⟨t,it,ifs,a⟩:=g
 have e:a=0:=L.GP
 subst e
 rw[eval_ListComp]
 exact wpAny_comprehension_free (use:=none) rfl (xv L.set) L.el L.kind L.loc (core (RR:=fun acc C=>compPost (aU w) A bo none Q acc C) fun eU h' az C m D g aG aX v1 hm off e=>⟨m,hm,fun jB ak=>k eU jB az _ (aG.drop ak e) (aX.Gh off ak.2) v1⟩)
theorem Sp {x:Str}{l:List (Str×NameKind)}:n0 x l=false→(l.any fun (n,k)=>n == x&&(k == .local || k == .cell))=false:=by
 induction l with
 |nil=>exact fun _=>rfl
 |cons y r aI =>
  intro e
  obtain ⟨ao,aC⟩:=Bool.or_eq_false_iff.mp (show ((seq y.1 x&&(y.2 == .local || y.2 == .cell)) || n0 x r)=false from e)
  rw[List.any_cons,aI aC,Bool.or_false]
  show (y.1 == x&&(y.2 == .local || y.2 == .cell))=false
  rw[rd,ao]
theorem Sq {elt:PySem.Expr}{gens:List Comprehension}{sc:Scope}{dz di:Pos}{x:Str}{l:Nat}(F:cO c fr env) (bA:look x fr.sc.names=some .local) (hl:di.line=dz.line) (hm:n0 x sc.names=false):swapsWith (.ListComp elt gens sc dz) (some (.Name x di)) l env=pure true:=by
 show (pure (env.blockKind == .function&&env.kindOf x == some .local&&di.line == dz.line&&!(sc.names.any fun (n,k)=>n == x&&(k == .local || k == .cell))):Sem Bool)=pure true
 rw[show env.blockKind=.function by unfold Env.blockKind;rw[F.sc,F.kind];rfl,F.kindOf,bA,hl,Sp hm]
 simp
theorem Sr (S:bP w R) {elt:PySem.Expr}{gens:List Comprehension}{sc:Scope}{dz di pos:Pos}{x:Str}{y}(h:q7 R n fr elt gens sc st=some y) (bA:look x fr.sc.names=some .local) (hl:di.line=dz.line) (hm:n0 x sc.names=false) :
 iF w n fr (exec (.Assign [.Name x di] (.ListComp elt gens sc dz) pos)) st (.next,d8 x y.1 fr.ls,y.2):=by
 obtain ⟨g,rfl,o,core⟩:=GY S y h
 refine ⟨o,fun aa A c env s Q aE F P k=>?_⟩
 obtain ⟨L,core⟩:=core aa dz aE F P
 obtain ⟨t,it,ifs,a⟩:=g
 have e:a=0:=L.GP
 subst e
 rw[exec_Assign_Name_used _ _ _ _ (Sq F bA hl hm)]
 refine wpAny_bind (wpAny_standAt (wpAny_bind ?_))
 show wpAny _ A (do let _ ←comprehension (.ListComp elt [⟨t,it,ifs,0⟩] sc dz) sc env _ (PySem.newList []) false (eval it env) (some (assign (.Name x di) env))) _ _ s
 refine wpAny_bind (wpAny_mono (wpAny_comprehension_free (use:=some (assign (.Name x di) env)) (Q:=fun _ e6=>Q .next e6) rfl (xv L.set) L.el L.kind L.loc (core (RR:=fun acc C=>compPost (aU w) A bo (some (assign (.Name x di) env)) (fun _ e6=>Q .next e6) acc C) ?_)) (fun _ e6 dk=>wpAny_pure (wpAny_pure dk)) fun _ _ e=>e)
 intro eU h' az C m D g aG aX v1 GZ off e
 show wpAny _ A (assign (.Name x di) env (.ref D)) _ _ _
 have G0:∀ a∈[C],Off eU y.2.H a:=fun a m=>by rw[List.mem_singleton.mp m];exact off
 have c8:h'.get? C≠none:=fun z=>by obtain ⟨o,_,_,e,_⟩:=GZ;exact ba (z.symm.trans e)
 refine wpAny_assign_Name (xe (s:=a8 s h' az) (F.cB aG).kept (aX.hold G0) bA v1 fun af cU a3 b8=>?_)
 obtain ⟨P3,c4,fP⟩:=aX.xa G0 b8 a3
 obtain ⟨f3,Ss⟩:=fP C (.head _) c8
 exact ⟨m,o7 GZ fun o e=>Ss.trans e,fun aB ak=>k _ aB cU _ ((aG.trans c4).drop ak e) (P3.Gh f3 ak.2) .next⟩
end
section
variable {w:World}{R:dR}{A:Around}{c:br}{st st' : ax}{s:Shared}{ls:List (Str×V)}{n:Nat}{fr:a5}{env:Env}{H:List aj}{h h' : Heap}
theorem Su {f:PySem.Expr→Option Str}(hf:∀ x p y,f (.Name x p)=some y→y=x) {bp:List PySem.Expr}:ae (fun xs=>(bp.filterMap f).length=bp.length→bp.filterMap f=xs) (jA fr bp):=by
 induction bp with
 |nil=>exact ae.bO fun _=>rfl
 |cons e r aI =>
  refine ae.b fun x bA=>ae.de fun _=>ae.m fun t bT l=>?_
  rw[tZ bA,List.filterMap_cons] at l ⊢
  cases z:f (.Name x.1 x.2) with
  |none =>
   rw[z] at l
   exact absurd (List.length_filterMap_le f r) (Nat.not_le.mpr (l▸Nat.lt_succ_self _))
  |some y=>rw[z] at l;exact congr (congrArg List.cons (hf _ _ y z)) (aI _ bT (Nat.succ.inj l))
theorem Sv {e:PySem.Expr}(h:tH e=true):constantsAlone 8 e=false∧foldedForSure 8 e=false:=by
 cases e with
 |Attribute _ _ _=>exact ⟨rfl,rfl⟩
 |Call _ _ _ _=>exact ⟨rfl,rfl⟩
 |List _ _=>exact ⟨rfl,rfl⟩
 |Name x p =>
  refine ⟨?_,rfl⟩
  show (_ == _)=false
  rw[rd]
  exact rm h
 |_=>exact dv h
theorem Sw {bp vs:List PySem.Expr}{k k' : Nat}{p p' : Pos}{xs:List Str}(h1:jA fr bp=some xs) (af:vs.any tH=true):swappedStores [.Tuple bp k p] (.Tuple vs k' p') env=pure none∨swappedStores [.Tuple bp k p] (.Tuple vs k' p') env=pure (some xs):=by
 obtain ⟨e,m,l⟩:=List.any_eq_true.mp af
 have a1:vs.all (constantsAlone 8)=false:=by
  cases q:vs.all (constantsAlone 8) with
  |false=>rfl
  |true=>have:=List.all_eq_true.mp q e m;rw[(Sv l).1] at this;exact dv this
 unfold swappedStores
 dsimp only
 rw[a1]
 split
 ·exact .inl rfl
 split
 ·exact .inl rfl
 split
 ·exact .inl rfl
 rename_i q
 split
 ·exact .inl rfl
 right
 simp only[Bool.or_eq_true,not_or,bne_iff_ne,ne_eq,Decidable.not_not] at q
 have:=Su (f:=fun |.Name id pos=>if env.kindOf id == some .local&&pos.line == ((bp.head?.map (·.pos.line)).getD 0) then some id else none |_=>none) (fun x p y z=>by
  dsimp only at z
  split at z
  ·exact (cc z).symm
  ·exact ba z) _ h1 q.1
 rw[if_neg (by simp)]
 show pure (some _)=_
 exact congrArg (fun z=>pure (some z)) this
theorem G1 {α:Type}{y:Str}{xs:List Str}:∀{us:List α}{l:List (Str×α)},xs.Nodup→xs.length=us.length→look y (h4 xs us l)=(look y (xs.zip us)).or (look y l):=by
 induction xs with
 |nil=>intro us l _ _;rfl
 |cons x xs aI =>
  intro us l ef e
  cases us with
  |nil=>cases e
  |cons u us =>
   obtain ⟨aG,a3⟩:=List.nodup_cons.mp ef
   rw[show h4 (x::xs) (u::us) l=h4 xs us (d8 x u l) from rfl,aI a3 (Nat.succ.inj e),E9,List.zip_cons_cons]
   cases q:seq y x with
   |false=>rw[h6 q];rfl
   |true =>
    have z:look y (xs.zip us)=none:=mQ fun v z=>aG (d9.mp q▸(List.of_mem_zip (n1 z)).1)
    rw[h5 q,z];rfl
theorem xw {α:Type}{y:Str}{v:α}{l:List (Str×α)}:(l.map (·.1)).Nodup→((y,v)∈l↔look y l=some v):=by
 induction l with
 |nil=>exact fun _=>⟨fun m=>absurd m List.not_mem_nil,fun e=>ba e⟩
 |cons x r aI =>
  intro ef
  obtain ⟨aG,a3⟩:=List.nodup_cons.mp ef
  refine ⟨fun m=>?_,fun e=>n1 e⟩
  cases q:seq y x.1 with
  |true =>
   rw[h5 q]
   rcases List.mem_cons.mp m with e |m
   ·rw[←e]
   ·exact absurd (List.mem_map_of_mem (f:=(·.1)) m) (d9.mp q▸aG)
  |false =>
   rw[h6 q]
   rcases List.mem_cons.mp m with e |m
   ·rw[←e,lV] at q;exact eD q
   ·exact (aI a3).mp m
theorem Sx {α β:Type}{xs:List α}:∀{us:List β},xs.length=us.length→xs.reverse.zip us.reverse=(xs.zip us).reverse:=by
 induction xs with
 |nil=>intro us _;rw[List.reverse_nil,List.zip_nil_left,List.zip_nil_left];rfl
 |cons x xs aI =>
  intro us e
  cases us with
  |nil=>cases e
  |cons u us =>
   rw[List.reverse_cons,List.reverse_cons,List.zip_append (by rw[List.length_reverse,List.length_reverse];exact Nat.succ.inj e),aI (Nat.succ.inj e)]
   exact (List.reverse_cons (a:=(x,u)) (as:=xs.zip us)).symm
theorem uz {α:Type}{l:List α}(h:l.Nodup):l.reverse.Nodup:=l.reverse_perm.nodup_iff.mpr h
theorem Sy {α:Type}{y:Str}{xs:List Str}{us:List α}{l:List (Str×α)}(ef:xs.Nodup) (e:xs.length=us.length):look y (h4 xs.reverse us.reverse l)=look y (h4 xs us l):=by
 rw[G1 (uz ef) (by rw[List.length_reverse,List.length_reverse,e]),G1 ef e,Sx e]
 congr 1
 have aG:((xs.zip us).map (·.1)).Nodup:=by rw[List.map_fst_zip (Nat.le_of_eq e)];exact ef
 apply Option.ext
 intro v
 rw[←xw aG,←xw (by rw[List.map_reverse];exact uz aG),List.mem_reverse]
noncomputable def Bo (w:World) (c:br) (H:List aj) (s:Shared) (l:List (Str×V)) (Q:Unit→Shared→Prop):Prop:=∀ h' az,b3 s.heap c h' c→aH w c l H h'→Q () (a8 s h' az)
theorem Sz (F:cO c fr env) {us:List V}{ys:List Value}(v:aW w.params c.im c.ρ us ys):∀{xs:List Str}{l:List (Str×V)}{s:Shared}{Q:Unit→Shared→Prop},(∀ x∈xs,look x fr.sc.names=some .local)→aH w c l H s.heap→xs.length=us.length→Bo w c H s (h4 xs us l) Q→wpAny (aU w) A (assignInOrder (xs.map fun x=>bindName env x) ys) Q bo s :=
 aW.ind (Q:=fun us ys=>∀{xs:List Str}{l:List (Str×V)}{s:Shared}{Q:Unit→Shared→Prop},(∀ x∈xs,look x fr.sc.names=some .local)→aH w c l H s.heap→xs.length=us.length→Bo w c H s (h4 xs us l) Q→wpAny (aU w) A (assignInOrder (xs.map fun x=>bindName env x) ys) Q bo s)
  (fun {xs l s Q} m P e k=>by rw[List.length_eq_zero_iff.mp e] at k ⊢;exact wpAny_assignInOrder_none (k s.heap s.toks .refl P))
  (fun {u y us ys} a _ aI=>fun {xs l s Q} m P e k=>by
   cases xs with
   |nil=>cases e
   |cons x xs=>exact wpAny_assignInOrder_more (wpAny_bindName (xe (F.ls l) P (m x (.head _)) a fun h1 bK aG aX=>aI (s:=a8 s h1 bK) (fun y q=>m y (.tail _ q)) aX (Nat.succ.inj e) fun af cU a3 b8=>k af cU (aG.trans a3) b8))) v
noncomputable def SA (w:World) (A:Around) (env:Env) (c:br) (H:List aj) (bp:List PySem.Expr) (xs:List Str):Prop:=∀{us:List V}{ys:List Value}{l:List (Str×V)}{s:Shared}{Q:Unit→Shared→Prop},aW w.params c.im c.ρ us ys→aH w c l H s.heap→xs.length=us.length→Bo w c H s (h4 xs us l) Q→wpAny (aU w) A (assignInOrder ((assignEach bp env).map (·.2)) ys) Q bo s
theorem SD (F:cO c fr env) {bp:List PySem.Expr}:ae (SA w A env c H bp) (jA fr bp):=by
 induction bp with
 |nil =>
  refine ae.bO fun {us ys l s Q} v P e k=>?_
  rw[List.length_eq_zero_iff.mp e.symm] at v k
  exact v.tB (wpAny_assignInOrder_none (k s.heap s.toks .refl P))
 |cons t bp aI =>
  refine ae.b fun x bA=>ae.de fun SE=>ae.m fun r bR=>fun {us ys l s Q} v P e k=>?_
  cases us with
  |nil=>cases e
  |cons u us =>
   rw[tZ bA,xg rfl]
   exact v.qZ fun y zs a b=>wpAny_assignInOrder_more (wpAny_assign_Name (xe (F.ls l) P (n3 SE) a fun h1 bK aG aX=>aI r bR (s:=a8 s h1 bK) b aX (Nat.succ.inj e) fun af cU a3 b8=>k af cU (aG.trans a3) b8))
theorem aW.reverse {P:Params}{im:cq}{ρ:c5}{vs:List V}{xs:List Value}(h:aW P im ρ vs xs):aW P im ρ vs.reverse xs.reverse:=aW.ind (Q:=fun vs xs=>aW P im ρ vs.reverse xs.reverse) .nil (fun a _ r=>by rw[List.reverse_cons,List.reverse_cons];exact r.append (.cons a .nil)) h
theorem SF {bp:List PySem.Expr}:ae (fun xs=>∀ x∈xs,look x fr.sc.names=some .local) (jA fr bp):=by
 induction bp with
 |nil=>exact ae.bO fun x m=>nomatch m
 |cons t bp aI=>exact ae.b fun y _=>ae.de fun q=>ae.m fun r bR x m=>(List.mem_cons.mp m).elim (fun e=>e▸n3 q) (aI r bR x)
theorem SG {bp:List PySem.Expr}:ae (fun xs=>bp.any isStar=false∧xs.length=bp.length) (jA fr bp):=by
 induction bp with
 |nil=>exact ae.bO ⟨rfl,rfl⟩
 |cons t bp aI=>exact ae.b fun y bU=>ae.de fun _=>ae.m fun r bR=>⟨by rw[tZ bU,List.any_cons,(aI r bR).1];rfl,congrArg (· + 1) (aI r bR).2⟩
theorem aH.SH {bM:List (Str×V)}(P:aH w c ls H h) (e:∀ y,look y bM=look y ls):aH w c bM H h:=by
 obtain ⟨m,l,bc⟩:=P.ns
 exact ⟨⟨m,fun x v q=>l x v ((e x).symm.trans q),bc⟩,P.rep,P.dh,P.keep,P.own,P.fr⟩
theorem SI (S:bP w R) {bp vs:List PySem.Expr}{tk0 ft:Nat}{di oq pos:Pos}{xs:List Str}{us:List V}{x}(h1:jA fr bp=some xs) (af:mW xs=true) (aB:vs.any tH=true) (bu:R.ev n fr (.Tuple vs tk0 oq) st=some x) (dK:mT x.1=some us) (hl:us.length=xs.length) :
 iF w n fr (exec (.Assign [.Tuple bp ft di] (.Tuple vs tk0 oq) pos)) st (.next,h4 xs us fr.ls,x.2):=by
 refine ⟨fun o=>S.dm bu o,fun aa A c env s Q aE F P k=>?_⟩
 obtain ⟨aS,bf⟩:=SG _ h1
 have pd:∀{aK:br}{z},aF w.params aK.im aK.ρ x.1 z→aF w.params aK.im aK.ρ (.tup us) z:=fun v=>n4 dK▸v
 rcases Sw (env:=env) (k:=ft) (k':=tk0) (p:=di) (p':=oq) h1 aB with hw |hw
 ·refine PyProof.Rows.Assign_Tuple (S.ev bu aa aE F P fun aK bX bK z aG aX v1=>(pd v1).f5 fun a ys nn im bb uq=>Gm aS ?_) rfl hw
  rw[show bp.length=ys.length from bf.symm.trans (hl.symm.trans bb.length)]
  refine unpackItems_tuple (items:=ys.toArray) aE.h ⟨_,aX.rep.cM im,rfl,_,rfl⟩ fun h' he=>?_
  have b8:=aX.um (Heap.rv he)
  exact SD (F.cB aG) _ h1 (s:=a8 s h' bK) bb b8 hl.symm fun af cU a3 P3=>k aK af cU _ (aG.trans ((b3.keep (Heap.rv he)).trans a3)) P3 .next
 ·refine PyProof.Rows.Assign_Tuple_swapped (S.ev bu aa aE F P fun aK bX bK z aG aX v1=>(pd v1).f5 fun a ys nn im bb uq=>?_) rfl hw
  rw[show xs.length=ys.length from hl.symm.trans bb.length]
  refine unpackItems_tuple (items:=ys.toArray) aE.h ⟨_,aX.rep.cM im,rfl,_,rfl⟩ fun h' he=>?_
  have b8:=aX.um (Heap.rv he)
  exact Sz (F.cB aG) (s:=a8 s h' bK) bb.reverse (xs:=xs.reverse) (fun x m=>SF _ h1 x (List.mem_reverse.mp m)) b8 (by rw[List.length_reverse,List.length_reverse,hl]) fun aB cU a3 P3 =>
   k aK aB cU _ (aG.trans ((b3.keep (Heap.rv he)).trans a3)) (P3.SH fun y=>(Sy (xb af) hl.symm).symm) .next
end
section
set_option tactic.hygienic true
section
variable {w:World}{R:dR}{A:Around}{c:br}{st st' : ax}{s:Shared}{ls:List (Str×V)}{n:Nat}{fr:a5}{env:Env}{H:List aj}{h h' : Heap}
noncomputable abbrev Bp (A:Around) (w:World) (env:Env) (Q:Flow→Shared→Prop):Result→Shared→Prop:=fun r e6=>match r with |.ok f=>Q f e6 |.error e=>cameBackBy (aU w) A env bo e e6
theorem G2 (S:bP w R) {t:PySem.Expr}{src:Src}{body:List Stmt}{f z}{as:List Addr}{aR:Addr}{aK:br}{h1 af:Heap}{bK:Tok}{lU:ax}{Q:Flow→Shared→Prop}(aB:R.jw n fr t src 0 body lU=some z) (aa:z.2.2.aa) (aE:dB A n) (F:cO aK fr env) (P:aH w aK fr.ls lU.H h1) (aG:b3 s.heap c h1 aK)
 (ew:∀ b o,h1.get? b=some o→af.get? b=some o) (na:∀ a∈as,h1.get? a=none) (it:fT aK w.params af src 0 aR as) (hf:f=Bp A w env Q) (k:pn w c s z.1 z.2.1 z.2.2 Q):codeAny (aU w) A (.forLoop t (.ref aR) body [] env) f (a8 s af bK) :=
 (S.uc z aB).2 aa (s:=a8 s af bK) f aE F (P.um ew) it (fun a m=>.new P (na a m)) fun c' h' az g eC ia jJ=>hf▸k c' h' az g (aG.trans (jF.cB (.keep ew) eC na)) ia jJ
theorem SJ (S:bP w R) {t it:PySem.Expr}{body:List Stmt}{pos:Pos}{x src z}(ak:gr it=false) (h1:R.ev n fr it st=some x) (af:srcOf x.1 x.2=some src) (aB:R.jw n fr t src 0 body x.2=some z):iF w n fr (exec (.For t it body [] pos)) st z :=
 have o:=(S.uc z aB).1
 ⟨fun aa=>S.dm h1 (o aa),fun aa A c env s Q aE F P k=>wpAny_For (S.ev h1 (o aa) aE F P fun aK bX bK x aG aX v1=>GK (s:=a8 s bX bK) aX v1 _ af _ fun aR ct ew oo uy _ =>
  G2 S (s:=s) aB aa aE (F.cB aG) aX aG ew (fun a m=>List.mem_singleton.mp m▸oo) uy rfl k) (xv ak)⟩
theorem SK {e aR:Addr}{i:Int}{old:Value}{Q:Value→Shared→Prop}(he:IsEnum s.heap e aR i old) (h:Q (.ref e) s):wpAny (aU w) A (pyIter (.ref e)) Q bo s:=by
 have fm:s.TypeIs (.ref e) "enumerate":=⟨_,he,rfl⟩
 refine wpAny_pyIter_slot fm F.slot_enumerate_iter (wpAny_call_entry F.slot_enumerate_iter fm F.entry_enumerate_iter ?_ (F.args_enumerate_iter_1 _))
 show wpAny _ _ (ret (.ref e)) _ _ s
 exact wpAny_pure ⟨_,rfl,"enumerate",_,fm,F.slot_enumerate_next.lookup,h⟩
theorem SM {x:Str}{pos:Pos}{Q:Value→Shared→Prop}(bA:seq x "enumerate" = true) (hl:look x fr.sc.names=some .globalImplicit) (F:cO c fr env) (P:aH w c fr.ls st.H s.heap) (k:Q (.type "enumerate") s):wpAny (aU w) A (eval (.Name x pos) env) Q bo s:=by
 rw[d9.mp bA] at hl ⊢
 have fq:gX fr (Str.ofString "enumerate")=some .globalImplicit:=hl
 refine Ft (st:=st) F P (.obj (.type "enumerate")) ?_ Q fun y m5=>m5.objE k
 unfold pb
 rw[fq]
 kernel_rfl
theorem SN (nm:String) (g:Heap):od w (.type nm) g:=⟨.machine,.inr (.inl rfl),.now⟩
noncomputable def SO (w:World) (A:Around) (c:br) (s:Shared) (y:Value) (src:Src):Prop:=∀ Q:Value→Shared→Prop,(∀ e aR h',(∀ b o,s.heap.get? b=some o→h'.get? b=some o)→(∀ a∈[e,aR],s.heap.get? a=none)→IsEnum h' e aR 0 .none→fT c w.params h' src 0 e [e,aR]→Q (.ref e) (a8 s h' s.toks))→wpAny (aU w) A (call (.type "enumerate") [y]) Q bo s
theorem G3 {a:Addr}(m:a∈[s.heap.objs.size+1,s.heap.objs.size]):s.heap.get? a=none:=(List.mem_cons.mp m).elim (fun e=>e▸Heap.iz (Nat.le_succ _)) fun m=>List.mem_singleton.mp m▸Heap.iz (Nat.le_refl _)
theorem SP {v:V}{x:Value}(P:aH w c ls st.H s.heap) (bN:aF w.params c.im c.ρ v x):ae (SO w A c s x) (tM v st) :=
 ae.o (fun vs h=>ae.bO (by rw[wK h] at bN;exact bN.tA fun a ys m im bb z Q k=>call_enumerate_list (listAt (P.rep.cM im)) fun ct he aM bZ ar=>k _ _ ct ar (fun a m=>G3 m) he (.ro im bb aM he (Nat.succ_ne_self _)))) fun _=>ae.b fun r h=>ae.m fun vs aV=>by
  rw[kk h] at bN
  refine bN.iy fun p a4 Q k=>?_
  obtain ⟨ys,m,aC,bb,uq⟩:=P.rep.at_ a4 (kj aV)
  exact call_enumerate_list (listAt aC) fun ct he aM bZ ar=>k _ _ ct ar (fun a m=>G3 m) he (.rp a4 aM he (Nat.succ_ne_self _))
theorem SQ (S:bP w R) {t e:PySem.Expr}{x:Str}{np pos dz:Pos}{body:List Stmt}{v src z}(bA:seq x "enumerate" = true) (hl:look x fr.sc.names=some .globalImplicit) (ak:isStar e=false) (h1:R.ev n fr e st=some v) (af:tM v.1 v.2=some src) (aB:R.jw n fr t src 0 body v.2=some z) :
 iF w n fr (exec (.For t (.Call (.Name x np) [e] [] dz) body [] pos)) st z:=by
 have o:=(S.uc z aB).1
 have ao:f7 R n fr [e] st=some ([v.1],v.2):=by
  show (match isStar e with |true=>none |false=>(R.ev n fr e st).bind _)=_
  rw[ak,h1];rfl
 refine ⟨fun aa=>S.dm h1 (o aa),fun aa A c env s Q aE F P k=>wpAny_For (Call_ (SM bA hl F P ?_) (call_plain rfl)) (xv rfl)⟩
 refine callWith_of (P:=od w (.type "enumerate")) (by rw[(ob S _ _ ao).2.2.1];rfl) (fun h x=>x) ?_
 have main:wpAny (aU w) A (spliced (backTo dz (starEach [e] env))) (fun vs dS=>od w (.type "enumerate") dS.heap∧wpAny (aU w) A (call (.type "enumerate") ([]++vs)) (fun x dS=>wpAny (aU w) A (pyIter x) (fun it jG=>codeAny (aU w) A (.forLoop t it body [] env) (Bp A w env Q) jG) bo dS) bo dS) bo s :=
  w3 S aE ao (o aa) F P fun aK bX bK xs aG aX v1=>⟨SN _ _,v1.kW fun y n9=>SP (s:=a8 s bX bK) aX n9 _ af _ fun e aR ct ew na he it=>SK (s:=a8 s ct bK) he (G2 S (s:=s) aB aa aE (F.cB aG) aX aG ew na it rfl k)⟩
 rw[w2 ak] at main ⊢
 exact Calls.evalArgs_plain main
theorem SR {t e:PySem.Expr}{l:Nat}(aw:mS e=false):swapsWithSole [t] e l env=pure false:=by
 show swapsWith e (some t) l env=pure false
 cases e <;> first |rfl |exact eD aw
theorem SS (S:bP w R) {t e:PySem.Expr}{pos:Pos}{x y}(h1:R.ev n fr e st=some x) (af:R.as n fr t x.1 x.2=some y) (aw:mS e=false) (hw:∀{c env},cO c fr env→swappedStores [t] e env=pure none) (bT:isStar t=false):iF w n fr (exec (.Assign [t] e pos)) st (.next,y.1,y.2) :=
 ⟨fun o=>S.dm h1 (S.ud af o),fun aa A c env s Q aE F P k=>wpAny_Assign_stores (S.ev h1 (S.ud af aa) aE F P fun aK bX bK x aG aX v1=>by
  rw[xg bT]
  show wpAny _ _ (assign t env x) _ _ _
  exact S.as (s:=a8 s bX bK) af aa aE (F.cB aG) aX v1 fun bw ct cU a3 b8=>k bw ct cU _ (aG.trans a3) b8 .next) (SR aw) (hw F)⟩
noncomputable def Bq (env:Env) (ln:Nat) (t:PySem.Expr):Option Str:=match t with
 |.Name id pos=>if env.kindOf id == some .local&&pos.line == ln then some id else none
 |_=>none
theorem SU {ln:Nat}{t:PySem.Expr}{y:Str}(h:Bq env ln t=some y):∃ p,t=.Name y p∧env.kindOf y=some .local:=by
 cases t with
 |Name id p =>
  have h:(if env.kindOf id == some .local&&p.line == ln then some id else none)=some y:=h
  obtain ⟨h1,af⟩:=Option.ite_none_right_eq_some.mp h
  exact ⟨p,by rw[cc af],by rw[←cc af];exact beq_iff_eq.mp (Bool.and_eq_true_iff.mp h1).1⟩
 |_=>exact ba h
theorem SV (F:cO c fr env) (ln:Nat) {bp:List PySem.Expr}:(bp.filterMap (Bq env ln)).length=bp.length→jA fr bp≠none:=by
 induction bp with
 |nil=>exact fun _ z=>ba z.symm
 |cons t r aI =>
  intro l z
  cases q:Bq env ln t with
  |none =>
   rw[List.filterMap_cons_none q] at l
   exact absurd (Nat.le_trans (Nat.le_of_eq l.symm) (List.length_filterMap_le _ r)) (Nat.not_succ_le_self _)
  |some y =>
   rw[List.filterMap_cons_some q] at l
   obtain ⟨p,rfl,k⟩:=SU q
   have z:(bif h3 (look y fr.sc.names) then (jA fr r).map fun t=>y::t else none)=none:=z
   rw[show look y fr.sc.names=some .local from F.kindOf.symm.trans k] at z
   exact aI (Nat.succ.inj l) (Option.map_eq_none_iff.mp z)
theorem SW {bp:List PySem.Expr}{k:Nat}{p:Pos}{vs:List PySem.Expr}{k' : Nat}{p' : Pos}(F:cO c fr env) (h:jA fr bp=none):swappedStores [.Tuple bp k p] (.Tuple vs k' p') env=pure none:=by
 unfold swappedStores
 dsimp only
 split
 ·rfl
 split
 ·rfl
 rw[if_pos]
 rw[Bool.or_eq_true]
 left
 rw[bne_iff_ne]
 exact fun e=>SV F _ e h
end
end
section
variable {w:World}{R:dR}{A:Around}{c:br}{st st' : ax}{s:Shared}{ls:List (Str×V)}{n:Nat}{fr:a5}{env:Env}{H:List aj}{h h' : Heap}
theorem SX {t:PySem.Expr}{v:V}{r:List (Str×V)×ax}(h:tP R n fr t v st=some r):isStar t=false:=by
 cases t <;> first |rfl |exact ba h
theorem SY {e:PySem.Expr}{l:Nat}(q:mS e=false):swapsWith e none l env=pure false:=by
 cases e <;> first |rfl |exact eD q
theorem S0 {t v:PySem.Expr}(h:f5 v=none):swappedStores [t] v env=pure none:=by
 cases t with
 |Tuple bp k p=>cases v <;> first |rfl |exact ba h.symm
 |List bp p=>cases v <;> first |rfl |exact ba h.symm
 |_=>rfl
theorem S1 {t v:PySem.Expr}(h:f5 t=none) (af:Ab t=false):swappedStores [t] v env=pure none:=by
 cases t <;> first |rfl |exact ba h.symm |exact eD af
section
variable (S:bP w R) (ot:∀{fr t v st r},R.as n fr t v st=some r→isStar t=false) {t e it:PySem.Expr}{p:Pos}
include S ot
theorem Br (aw:mS e=false) (hw:∀{c env},cO c fr env→swappedStores [t] e env=pure none):ae (iF w n fr (exec (.Assign [t] e p)) st) (ra R n fr t e st):=ae.b fun x h1=>ae.m fun y af=>SS S h1 af aw hw (ot af)
theorem S2 {vs:List PySem.Expr}{k:Nat}{oq:Pos}:ae (iF w n fr (exec (.Assign [t] (.Tuple vs k oq) p)) st) (EY R n fr t (.Tuple vs k oq) vs st) :=
 ae.o (fun bp bT=>by
  obtain ⟨az,di,rfl⟩:=N9 bT
  exact ae.o (fun xs b2=>ae.de fun q=>ae.b fun x h1=>ae.b fun us dK=>ae.de fun dU=>ae.bO (SI S b2 (Bool.and_eq_true_iff.mp q).1 (Bool.and_eq_true_iff.mp q).2 h1 dK (Nat.eq_of_beq_eq_true dU))) fun b2=>Br S ot rfl fun F=>SW F b2)
  fun bT=>ae.cf fun q=>Br S ot rfl fun _=>S1 bT q
theorem S3:ae (iF w n fr (exec (.Assign [t] e p)) st) (tQ R n fr t e st):=by
 have z:=n2 e
 have key:f5 e=none→ae (iF w n fr (exec (.Assign [t] e p)) st) (bif mS e then none else ra R n fr t e st):=fun h=>ae.cf fun q=>Br S ot q fun _=>S0 h
 unfold tQ
 cases bA:e3 e with
 |lc elt gens sc dz =>
  rw[bA] at z
  rw[show e=.ListComp elt gens sc dz from z]
  exact ae.b fun x bA=>ae.de fun q=>ae.m fun y bU=>by
   obtain ⟨q,bf⟩:=Bool.and_eq_true_iff.mp q
   obtain ⟨dU,ea⟩:=Bool.and_eq_true_iff.mp q
   rw[tZ bA]
   exact Sr S bU (A3 (n3 bf)) (Nat.eq_of_beq_eq_true dU) (rm ea)
 |tup vs k oq =>
  rw[bA] at z
  rw[show e=.Tuple vs k oq from z]
  exact S2 S ot
 |_=>exact key (by unfold f5;rw[bA];rfl)
omit ot in
theorem S4 {body:List Stmt}:ae (iF w n fr (exec (.For t it body [] p)) st) (EZ R n fr t it body st) :=
 ae.o (fun e he=>ae.b fun x h1=>ae.b fun src af z aB=>jt he fun y bU he=>jt he fun nm bc he=>jt he fun a b2 he=>(ae.de fun q=>ae.bO (fun G4=>by
  have G5:=n2 it
  obtain ⟨aS,q⟩:=Bool.and_eq_true_iff.mp q
  obtain ⟨bf,q⟩:=Bool.and_eq_true_iff.mp q
  obtain ⟨dU,ea⟩:=Bool.and_eq_true_iff.mp q
  have S5:it=.Call y.1 y.2.1 y.2.2.1 y.2.2.2:=by
   cases bA:e3 it with
   |call f args gV p=>rw[bA] at bU G5;rw[←cc bU];exact G5
   |_=>rw[bA] at bU;exact ba bU
  rw[S5,tZ bc,mY b2,List.isEmpty_iff.mp aS,G4]
  exact SQ S bf (Au dU) (G4▸rm ea) h1 af aB):ae (fun b=>b=e→iF w n fr (exec (.For t it body [] p)) st z) _) _ he rfl)
  fun _=>ae.cf fun q=>ae.b fun x h1=>ae.b fun src af z aB=>SJ S q h1 af aB
theorem S6 {e:Stmt}:ae (iF w n fr (exec e) st) (rb R n fr e st):=by
 cases e with
 |Expr e _=>exact ae.cf fun q=>ae.m fun x h1=>⟨fun o=>S.dm h1 o,fun aa A c env s Q aE F P k=>wpAny_Expr_any (S.ev h1 aa aE F P fun aK bX bK x aG aX v1=>k aK bX bK _ aG aX .next) (by unfold interactive;rw[F.sc,F.kind];rfl) (SY q)⟩
 |Assign bp e _=>exact ae.b fun t bT=>by rw[mY bT];exact S3 S ot
 |Return e _=>cases e with
  |none=>exact ae.bO ⟨fun o=>o,fun aa A c env s Q aE F P k=>wpAny_Return_none (k c s.heap s.toks _ .refl P (.ret .none))⟩
  |some e=>exact ae.m fun x h1=>⟨fun o=>S.dm h1 o,fun aa A c env s Q aE F P k=>wpAny_Return_some (S.ev h1 aa aE F P fun aK bX bK x aG aX v1=>k aK bX bK _ aG aX (.ret v1))⟩
 |If t a b _=>exact ae.b fun x h1 z af=>⟨fun o=>S.iG h1 (S.m3 af o),fun aa A c env s Q aE F P k=>wpAny_If (S.et h1 (S.m3 af aa) aE F P fun aK bX bK aG aX=>by
  cases bA:x.1 <;> (rw[bA] at af;exact S.ex (s:=a8 s bX bK) af aa aE (F.cB aG) aX (k.h9 aG)))⟩
 |For t it body o _=>exact ae.de fun q=>by rw[List.isEmpty_iff.mp q];exact S4 S
 |While t body o _=>exact ae.de fun q z h1=>by rw[List.isEmpty_iff.mp q];exact ⟨(S.w0 z h1).1,fun aa A c env s Q aE F P k=>wpAny_While ((S.w0 z h1).2 aa (Bp A w env Q) aE F P k)⟩
 |Pass _=>exact ae.bO ⟨fun o=>o,fun aa A c env s Q aE F P k=>wpAny_Pass (k c s.heap s.toks _ .refl P .next)⟩
 |_=>exact ae.no
end
end
section
variable {w:World}{R:dR}{A:Around}{c:br}{st st' : ax}{s:Shared}{ls:List (Str×V)}{n:Nat}{H:List aj}{h h' : Heap}{r:V}
theorem aH.S7 {g:Str→Option V}(cl:List (Str×Addr)):∀{c:br}{H:List aj},aH w c ls H h→(cl.map (·.2)).Nodup→(∀ x∈cl,Off c H x.2∧gU w c.im c.ρ h (x.2,x.2) (.cell (g x.1))) →
 aH w {c with ρ:=c.ρ++cl.map fun x=>(x.2,x.2)} ls (H++cl.map fun x=>aj.cell (g x.1)) h:=by
 induction cl with
 |nil=>intro c H R _ _;rw[List.map_nil,List.map_nil,List.append_nil,List.append_nil];exact R
 |cons x r aI =>
  intro c H R ef k
  obtain ⟨aG,a3⟩:=List.nodup_cons.mp ef
  have c1:aH w {c with ρ:=c.ρ++[(x.2,x.2)]} ls (H++[aj.cell (g x.1)]) h:=R.adopt (fun a m=>by rw[List.mem_singleton.mp m];exact (k x (.head _)).1) (fun _ _ _ e=>e) ((k x (.head _)).2.mono (fun _ _ e=>e) (fun _ _ e=>o8 e) fun _ _ _ e=>e)
  have AO:=aI c1 a3 fun y m=>⟨⟨fun q=>(GL R.rep.len q).elim (k y (.tail _ m)).1.1 fun q=>aG (List.mem_map.mpr ⟨y,m,List.mem_singleton.mp q⟩),(k y (.tail _ m)).1.2⟩,(k y (.tail _ m)).2.mono (fun _ _ e=>e) (fun _ _ e=>o8 e) fun _ _ _ e=>e⟩
  rw[List.map_cons,List.map_cons,←List.append_cons,←List.append_cons] at *
  exact AO
theorem cellsFrom_names {names:List (Str×NameKind)}:∀{k:Nat}{acc:List (Str×Addr)},(cellsFrom k names acc).map (·.1)=(ee names).reverse++acc.map (·.1):=by
 induction names with
 |nil=>exact fun {k acc}=>rfl
 |cons x r aI =>
  intro k acc
  unfold cellsFrom ee
  split
  ·rw[aI,List.reverse_cons,List.append_assoc];rfl
  ·exact aI
theorem S8 {x:Str}{i:Nat}{cl:List (Str×Addr)}:∀{k:Nat},look x ((cl.map (·.1)).zip (List.range' k (cl.map (·.1)).length))=some i→∃ j y,i=k+j∧cl[j]?=some y∧y.1=x:=by
 induction cl with
 |nil=>exact fun e=>ba e
 |cons y r aI =>
  intro k e
  rw[List.map_cons,List.length_cons,List.range'_succ,List.zip_cons_cons] at e
  cases q:seq x y.1 with
  |true=>rw[h5 q] at e;exact ⟨0,y,(cc e).symm,rfl,(d9.mp q).symm⟩
  |false =>
   rw[h6 q] at e
   obtain ⟨j,z,ao,aC,cL⟩:=aI e
   exact ⟨j+1,z,ao.trans (by omega),aC,cL⟩
theorem S9 (K:hH w c.im):pj c.im 889 885 :=
 ⟨e1 "_law_view" "_law_view" 1918 1922 919 0 3 884 885 true (.ref 886) (.ref 887) (.ref 888),K 889 _ (by kernel_rfl) (by kernel_rfl) (by kernel_rfl),fun h e=>⟨_,_,_,_,_,_,_,_,_,e,rfl,rfl,rfl,rfl,rfl,rfl,rfl,rfl,by decide⟩⟩
theorem Ta (K:hH w c.im):pj c.im 953 951 :=
 ⟨e1 "law" "law" 2021 2024 1052 1 3 950 951 true .none .none (.ref 952),K 953 _ (by kernel_rfl) (by kernel_rfl) (by kernel_rfl),fun h e=>⟨_,_,_,_,_,_,_,_,_,e,rfl,rfl,rfl,rfl,rfl,rfl,rfl,rfl,by decide⟩⟩
structure G6 (fi:eS) (env:Env) (L:Addr):Prop where
 ao:env.scope=fi.fd.scope
 Tb:fi.fd.scope.kind=.function
 aC:env.locals=L
 cL:env.globals=3
 gH:env.builtins=0
 k6:env.code=fi.fd.code
 Bs:env.qual=fi.fd.qualname ++ ".<locals>."
 xx:w5 fi=true
theorem Tc {fi:eS}{env:Env}{L:Addr}{ρ:c5}{i:Nat}{q:Str}(E:G6 fi env L) (az:kl ρ) (K:hH w c.im) (e:fi.tab=some (i,q)):q=env.qual ++ "<lambda>"∧∃ cd p,env.code=.ref cd∧ρ[i]?=some p∧pj c.im cd p.1:=by
 have z:=E.xx
 unfold w5 at z
 rw[e] at z
 obtain ⟨t1,Gp⟩:=Bool.and_eq_true_iff.mp z
 refine ⟨by rw[E.Bs];exact d9.mp t1,k1 Gp fun a b2 t3=>?_⟩
 rw[E.k6,tY b2]
 rcases Bool.or_eq_true_iff.mp t3 with t3 |t3
 ·obtain ⟨bS,fb⟩:=Bool.and_eq_true_iff.mp t3
  obtain ⟨⟨x,ex⟩,_⟩:=az
  rw[show i=0 from Nat.eq_of_beq_eq_true bS,Nat.eq_of_beq_eq_true fb]
  exact ⟨889,(885,x),rfl,ex,S9 K⟩
 ·obtain ⟨bS,fb⟩:=Bool.and_eq_true_iff.mp t3
  obtain ⟨_,x,ex⟩:=az
  rw[show i=1 from Nat.eq_of_beq_eq_true bS,Nat.eq_of_beq_eq_true fb]
  exact ⟨953,(951,x),rfl,ex,Ta K⟩
noncomputable abbrev xy (fi:eS) (args:List V) (k:Nat):a5:=⟨fi.fd.scope,(ee fi.fd.scope.names).zip (List.range' k (ee fi.fd.scope.names).length),fi.tab,hL fi.fd.scope.names (fi.ps.zip args)⟩
theorem Td {f:cA}{g:Flow}(r:jE c w.params f g):aF w.params c.im c.ρ (iB f) (Nm g):=by
 cases r with
 |ret v=>exact v
 |_=>exact .none
theorem G7 (S:bP w R) {fi:eS}{env:Env}{L:Addr}{cl:List (Str×Addr)}{m:Str→Option Value}{args:List V}{h1:Heap}{bK:Tok}{Q:Value→Shared→Prop}{x}
 (bA:R.ex n (xy fi args st.H.length) fi.body ⟨st.H++(ee fi.fd.scope.names).map (fun x=>aj.cell (look x (fi.ps.zip args))),st.aa⟩=some x)
 (aa:x.2.2.aa) (aE:dB A n) (az:kl c.ρ) (P:Rep w c.im c.ρ st.H s.heap) (dh:hH w c.im) (E:G6 fi env L)
 (aZ:s.heap.get? L=none) (ar:∀ b o,s.heap.get? b=some o→h1.get? b=some o) (bc:h1.Ns L m) (gY:kb w.params c.im c.ρ (hL fi.fd.scope.names (fi.ps.zip args)) m)
 (aK:cl.map (·.1)=ee fi.fd.scope.names) (bw:(cl.map (·.2)).Nodup)
 (da:∀ x∈cl,s.heap.get? x.2=none∧x.2≠L∧env.cells.lookup x.1=some x.2∧gU w c.im c.ρ h1 (x.2,x.2) (.cell (look x.1 (fi.ps.zip args))))
 (k:∀ c' h' az z,b3 s.heap ⟨e5 c.ρ st.H s.heap,L,c.im,c.ρ⟩ h' c'→aH w c' x.2.1 x.2.2.H h'→aF w.params c'.im c'.ρ (iB x.1) z→Q z (a8 s h' az)) :
 wpAny (aU w) A (execs fi.body env) (fun g e6=>Q (match g with |.ret v=>v |_=>.none) e6) bo (a8 s h1 bK):=by
 have aX:=(P.enter dh ar bc gY aZ).S7 (g:=fun x=>look x (fi.ps.zip args)) cl bw fun x z4=>by
  obtain ⟨aS,bf,_,ea⟩:=da x z4
  exact ⟨⟨fun o=>let ⟨aa,e⟩:=P.here o;ba (aS.symm.trans e),bf,mQ fun o q=>ba (aS.symm.trans (P.cM q)),mQ fun o q=>ba (aS.symm.trans (oi.mp q).2)⟩,ea⟩
 have Te:(cl.map fun x=>aj.cell (look x.1 (fi.ps.zip args)))=(ee fi.fd.scope.names).map (fun x=>aj.cell (look x (fi.ps.zip args))):=by rw[←aK,List.map_map];rfl
 rw[Te] at aX
 have le:hq c.ρ (c.ρ++cl.map fun x=>(x.2,x.2)):=fun i p e=>by
  rw[List.getElem?_append_left (List.getElem?_eq_some_iff.mp e).1];exact e
 have nb:b3 s.heap ⟨e5 c.ρ st.H s.heap,L,c.im,c.ρ⟩ h1 ⟨e5 c.ρ st.H s.heap,L,c.im,c.ρ++cl.map fun x=>(x.2,x.2)⟩:=⟨⟨rfl,rfl,fun _ _ e=>e,le,fun _ _ e=>.inl e⟩,.of_keep ar⟩
 refine S.ex (s:=a8 s h1 bK) (c:=⟨e5 c.ρ st.H s.heap,L,c.im,c.ρ++cl.map fun x=>(x.2,x.2)⟩) bA aa aE (env:=env) ⟨E.ao,E.Tb,E.aC,E.cL,E.gH,fun x i e=>?_,fun i q e=>Tc (c:=c) E (az.mono le) dh e,az.mono le⟩ aX fun bw af cU g a3 b8 f2=>k _ af cU _ (nb.trans a3) b8 (Td f2)
 have e:look x ((ee fi.fd.scope.names).zip (List.range' st.H.length (ee fi.fd.scope.names).length))=some i:=e
 rw[←aK] at e
 obtain ⟨j,y,rfl,G8,rfl⟩:=S8 e
 refine ⟨(y.2,y.2),?_,(da y (List.mem_of_getElem? G8)).2.2.1⟩
 show (c.ρ++_)[st.H.length+j]?=_
 rw[←P.len,List.getElem?_append_right (Nat.le_add_right _ _),Nat.add_sub_cancel_left,List.getElem?_map,G8]
 rfl
end
section
variable {w:World}{R:dR}{A:Around}{c:br}{st st' : ax}{s:Shared}{ls:List (Str×V)}{n:Nat}{H:List aj}{h h' : Heap}{r:V}
theorem Bt {names:List (Str×NameKind)}{x:Str}{v:V}{l:List (Str×V)}:look x (hL names l)=some v→look x names=some .local∧look x l=some v:=by
 induction l with
 |nil=>exact fun e=>ba e
 |cons y t aI =>
  obtain ⟨y,u⟩:=y
  show look x (bif h3 (look y names) then (y,u)::hL names t else hL names t)=some v→look x names=some .local∧look x ((y,u)::t)=some v
  cases z:seq x y with
  |true =>
   rw[h5 z,←d9.mp z]
   cases q:h3 (look x names) with
   |true=>exact fun e=>⟨n3 q,(h5 (lV _)).symm.trans e⟩
   |false=>exact fun e=>eD ((congrArg h3 (aI e).1).symm.trans q)
  |false =>
   rw[h6 z]
   cases h3 (look y names) with
   |true=>exact fun e=>aI ((h6 z).symm.trans e)
   |false=>exact aI
theorem Tf {x y:Str}(h:seq x y=false):x≠y:=fun e=>by rw[e,lV] at h;exact eD h
theorem Tg {kindOf:Str→Option NameKind}{x:Str}{b:List (Str×Value)}:∀{m:Str→Option Value},x ∉ b.map (·.1)→bindL kindOf b m x=m x:=by
 induction b with
 |nil=>exact fun _=>rfl
 |cons y t aI =>
  intro m q
  rw[List.map_cons,List.mem_cons,not_or] at q
  unfold bindL
  rw[aI q.2]
  split
  ·exact if_neg q.1
  ·rfl
theorem Th {kindOf:Str→Option NameKind}{x:Str}{b:List (Str×Value)}:∀{m:Str→Option Value},x ∉ b.map (·.1)→bindC kindOf b m x=m x:=by
 induction b with
 |nil=>exact fun _=>rfl
 |cons y t aI =>
  intro m q
  rw[List.map_cons,List.mem_cons,not_or] at q
  unfold bindC
  rw[aI q.2]
  split
  ·rfl
  ·exact if_neg q.1
theorem Bu {α β:Type}{ps:List α}{xs:List β}{x:α}(m:x∈(ps.zip xs).map (·.1)):x∈ps:=by
 obtain ⟨y,q,rfl⟩:=List.mem_map.mp m
 exact (List.of_mem_zip q).1
section
variable {P:Params}{im:cq}{ρ:c5}{kindOf:Str→Option NameKind}{x:Str}{v:V}{vs:List V}{xs:List Value}
theorem Ti (bA:kindOf x=some .local) (r:aW P im ρ vs xs):∀{ps:List Str}{m:Str→Option Value},ps.Nodup→look x (ps.zip vs)=some v→∃ y,bindL kindOf (ps.zip xs) m x=some y∧aF P im ρ v y :=
 aW.ind (Q:=fun vs xs=>∀{ps:List Str}{m:Str→Option Value},ps.Nodup→look x (ps.zip vs)=some v→∃ y,bindL kindOf (ps.zip xs) m x=some y∧aF P im ρ v y) (fun {ps m} _ e=>by rw[List.zip_nil_right] at e;exact ba e) (fun {u y us ys} a _ aI=>fun {ps m} ef e=>by
  cases ps with
  |nil=>exact ba e
  |cons p ps =>
   obtain ⟨aG,a3⟩:=List.nodup_cons.mp ef
   rw[List.zip_cons_cons] at e ⊢
   cases z:seq x p with
   |true =>
    rw[h5 z] at e
    have z:=d9.mp z
    subst z
    refine ⟨y,?_,cc e▸a⟩
    show bindL kindOf (ps.zip ys) _ x=_
    rw[Tg fun q=>aG (Bu q),if_pos bA,if_pos rfl]
   |false=>rw[h6 z] at e;exact aI a3 e) r
noncomputable def G9 (P:Params) (im:cq) (ρ:c5) (o:Option V) (b d:Option Value):Prop:=match o with
 |some v=>∃ y,b=some y∧aF P im ρ v y
 |none=>b=d
theorem Tj (bA : ¬ kindOf x=some .local) (r:aW P im ρ vs xs):∀{ps:List Str}{m:Str→Option Value},ps.Nodup→G9 P im ρ (look x (ps.zip vs)) (bindC kindOf (ps.zip xs) m x) (m x) :=
 aW.ind (Q:=fun vs xs=>∀{ps:List Str}{m:Str→Option Value},ps.Nodup→G9 P im ρ (look x (ps.zip vs)) (bindC kindOf (ps.zip xs) m x) (m x)) (fun {ps m} _=>by rw[List.zip_nil_right,List.zip_nil_right];exact rfl) (fun {u y us ys} a _ aI=>fun {ps m} ef=>by
  cases ps with
  |nil=>exact rfl
  |cons p ps =>
   obtain ⟨aG,a3⟩:=List.nodup_cons.mp ef
   rw[List.zip_cons_cons,List.zip_cons_cons]
   cases z:seq x p with
   |true =>
    rw[h5 z]
    have z:=d9.mp z
    subst z
    refine ⟨y,?_,a⟩
    show bindC kindOf (ps.zip ys) _ x=_
    rw[Th fun q=>aG (Bu q),if_neg bA,if_pos rfl]
   |false =>
    rw[h6 z]
    have aI:=aI (ps:=ps) (m:=if kindOf p=some .local then m else fun q=>if q=p then some y else m q) a3
    have e:(if kindOf p=some .local then m else fun q=>if q=p then some y else m q) x=m x:=by
     split
     ·rfl
     ·exact if_neg (Tf z)
    rw[e] at aI
    exact aI) r
theorem Tn (r:aW P im ρ vs xs):∀{ps:List Str},look x (ps.zip vs)=some v→∃ y,look x (ps.zip xs)=some y∧aF P im ρ v y :=
 aW.ind (Q:=fun vs xs=>∀{ps:List Str},look x (ps.zip vs)=some v→∃ y,look x (ps.zip xs)=some y∧aF P im ρ v y) (fun {ps} e=>by rw[List.zip_nil_right] at e;exact ba e) (fun {u y us ys} a _ aI=>fun {ps} e=>by
  cases ps with
  |nil=>exact ba e
  |cons p ps =>
   rw[List.zip_cons_cons] at e ⊢
   cases z:seq x p with
   |true=>rw[h5 z] at e ⊢;exact ⟨y,rfl,cc e▸a⟩
   |false=>rw[h6 z] at e ⊢;exact aI e) r
end
theorem Ha {x:Str}{names:List (Str×NameKind)}:x∈ee names↔(x,NameKind.cell)∈names:=by
 induction names with
 |nil=>exact ⟨fun m=>absurd m List.not_mem_nil,fun m=>absurd m List.not_mem_nil⟩
 |cons y t aI =>
  unfold ee
  split
  ·rename_i q
   rw[List.mem_cons,List.mem_cons,aI,show y=(y.1,NameKind.cell) from Prod.ext rfl (eq_of_beq q)]
   exact or_congr ⟨fun e=>by rw[e],fun e=>(Prod.mk.inj e).1⟩ Iff.rfl
  ·rename_i q
   rw[List.mem_cons,aI]
   exact ⟨.inr,fun m=>m.resolve_left fun e=>q (by rw[←e];rfl)⟩
theorem lookup_mem {α:Type}{x:Str}{v:α}{l:List (Str×α)}(ef:(l.map (·.1)).Nodup) (m:(x,v)∈l):l.lookup x=some v:=by
 rw[lW];exact (xw ef).mp m
theorem To {α β:Type}{ps:List α}:∀{xs:List β},ps.Nodup→((ps.zip xs).map (·.1)).Nodup:=by
 induction ps with
 |nil=>exact fun _=>.nil
 |cons p ps aI =>
  intro xs ef
  cases xs with
  |nil=>exact .nil
  |cons x xs =>
   obtain ⟨aG,a3⟩:=List.nodup_cons.mp ef
   exact List.nodup_cons.mpr ⟨fun m=>aG (Bu m),aI a3⟩
theorem Tp (H l:List aj):tS H l=H++l:=by
 cases l with
 |nil=>exact (List.append_nil H).symm
 |cons o r=>rfl
noncomputable def rD (w:World) (n:Nat) (a:Addr) (args:List V) (st:ax) (r:V×ax):Prop:=(r.2.aa→st.aa)∧(r.2.aa→∀{A:Around}{c:br}{s:Shared}{xs:List Value}(Y:Result→Shared→Prop),dB A (n+1)→kl c.ρ→Rep w c.im c.ρ st.H s.heap→hH w c.im→aW w.params c.im c.ρ args xs →
 (∀ L c' bM h' az x,b3 s.heap ⟨e5 c.ρ st.H s.heap,L,c.im,c.ρ⟩ h' c'→aH w c' bM r.2.H h'→aF w.params c'.im c'.ρ r.1 x→Y (.ok (.ret x)) (a8 s h' az))→codeAny (aU w) A (.call (.ref a) ⟨xs,[]⟩) Y s)
theorem Tq {a:Addr}{args:List V}{r z}(g:rD w n a args st r) (h:fin st.H.length r.1 r.2=some z):rD w n a args st z :=
 ⟨fun o=>g.1 (ui h o),fun aa A c s xs Y aE az P dh bC k=>g.2 (ui h aa) Y aE az P dh bC fun L c' bM h' az x aG aX v1=>by
  obtain ⟨m,_,bc⟩:=aX.ns
  obtain ⟨_,bw,a3,b8,v2,_⟩:=AV (ls:=[]) h ⟨⟨m,(fun x v e=>ba e),bc⟩,aX.rep,aX.dh,aX.keep,aX.own,aX.fr⟩ aG P.len (fun x v e=>ba e) v1
  exact k L bw [] h' az x a3 b8 v2⟩
structure Tr (fi:eS):Prop where
 s1:∀ x∈fi.ps,look x fi.fd.scope.names=some .local∨look x fi.fd.scope.names=some .cell
 s2:(ee fi.fd.scope.names).Nodup
 s3:fi.ps.Nodup
 s4:fi.fd.closure=[]
 s5:w5 fi=true
 s9:∀ x∈ee fi.fd.scope.names,look x fi.fd.scope.names=some .cell
theorem Hb {fi:eS}(h:AW fi=true):Tr fi:=by
 obtain ⟨h1,h⟩:=Bool.and_eq_true_iff.mp h
 obtain ⟨af,h⟩:=Bool.and_eq_true_iff.mp h
 obtain ⟨aB,h⟩:=Bool.and_eq_true_iff.mp h
 obtain ⟨bu,h⟩:=Bool.and_eq_true_iff.mp h
 obtain ⟨dC,eF⟩:=Bool.and_eq_true_iff.mp h
 exact ⟨fun x m=>(Bool.or_eq_true_iff.mp (List.all_eq_true.mp h1 x m)).imp n3 wJ,xb af,xb aB,List.isEmpty_iff.mp bu,dC,fun x m=>wJ (List.all_eq_true.mp eF x m)⟩
section
variable {fi:eS}{a:Addr}{vs:List V}{xs:List Value}{Y:Result→Shared→Prop}{x:cA×List (Str×V)×ax}
theorem xA {fi:eS}(k:Nat):(cellsFrom k fi.fd.scope.names []).map (·.1)=(ee fi.fd.scope.names).reverse:=by rw[cellsFrom_names];exact List.append_nil _
theorem Ts (S:bP w R) (hf:c2 a dF=some fi) (bt:bindArgs fi.fd ⟨xs,[]⟩=pure (fi.ps.zip xs)) (bA:R.ex n (xy fi vs st.H.length) fi.body ⟨st.H++(ee fi.fd.scope.names).map (fun x=>aj.cell (look x (fi.ps.zip vs))),st.aa⟩=some x) (aa:x.2.2.aa) (aE:dB A (n+1)) (az:kl c.ρ)
 (P:Rep w c.im c.ρ st.H s.heap) (dh:hH w c.im) (bC:aW w.params c.im c.ρ vs xs) (k:∀ L c' bM h' az z,b3 s.heap ⟨e5 c.ρ st.H s.heap,L,c.im,c.ρ⟩ h' c'→aH w c' bM x.2.2.H h'→aF w.params c'.im c'.ρ (iB x.1) z→Y (.ok (.ret z)) (a8 s h' az)) :
 codeAny (aU w) A (.call (.ref a) ⟨xs,[]⟩) Y s:=by
 have bh:=w7 (w:=w) hf
 have K:eQ w s.heap:=mX dh fun _ _=>P.cM
 have k7:=Hb bh.sc
 have Hc:∀ k,((cellsFrom k fi.fd.scope.names []).map (·.1)).Nodup:=fun k=>by rw[xA];exact uz k7.s2
 refine codeAny_call_cells aE.depth (bh.get K) rfl (zx K) (Ga K bh.code) bh.body bt k7.s4 (fun x m=>?_) (fun dS gq=>?_) bh.co bh.gen bh.kind
 ·refine (k7.s1 _ (List.of_mem_zip m).1).imp lW.trans fun q=>⟨lW.trans q,?_⟩
  have:x.1∈(cellsFrom (s.heap.objs.size+1) fi.fd.scope.names []).map (·.1):=by
   rw[xA];exact List.mem_reverse.mpr (Ha.mpr (n1 q))
  obtain ⟨y,kY,Tt⟩:=List.mem_map.mp this
  rw[←Tt,lookup_mem (Hc _) kY];rfl
 ·obtain ⟨h1,bK,ao⟩:=gq.toInCall.same
  subst ao
  have kd:∀ y,(callEnvC fi.fd s.heap.objs.size a).kindOf y=look y fi.fd.scope.names:=fun y=>lW
  refine xm (G7 S (env:=callEnvC fi.fd s.heap.objs.size a) (cl:=(cellsFrom (s.heap.objs.size+1) fi.fd.scope.names []).reverse) (Q:=fun v e6=>Y (.ok (.ret v)) e6) bA aa aE.deeper az P dh ⟨rfl,bh.kind,rfl,bh.glob,bh.blt,rfl,rfl,k7.s5⟩ (Heap.iz (Nat.le_refl _)) gq.toInCall.keep gq.toInCall.ns
   (fun y v e=>Ti ((kd y).trans (Bt e).1) bC k7.s3 (Bt e).2) (by rw[List.map_reverse,xA,List.reverse_reverse]) (by rw[List.map_reverse];exact uz (List.pairwise_map.mpr gq.apart)) (fun y kY=>?_) fun c' h' az z=>k _ c' _ h' az z)
  have kY:=List.mem_reverse.mp kY
  have Hd:=lookup_mem (Hc _) kY
  have He:=gq.above y.1 y.2 kY
  have Tu:y.1∈ee fi.fd.scope.names:=by
   have:=List.mem_map_of_mem (f:=(·.1)) kY
   rw[xA] at this
   exact List.mem_reverse.mp this
  refine ⟨Heap.iz (Nat.le_of_lt He),Nat.ne_of_gt He,Hd,?_⟩
  have z:=Tj (m:=fun _=>none) (kindOf:=(callEnvC fi.fd s.heap.objs.size a).kindOf) (x:=y.1) (by rw[kd,k7.s9 _ Tu];decide) bC k7.s3
  have Bv:=gq.cell y.1 y.2 Hd
  revert z
  cases look y.1 (fi.ps.zip vs) with
  |none=>exact fun z=>by rw[show bindC _ _ _ _=none from z] at Bv;exact Bv
  |some v=>exact fun z=>by obtain ⟨u,h1,af⟩:=z;exact ⟨u,h1▸Bv,af⟩
theorem Hf (S:bP w R) (hf:c2 a dF=some fi) (uA:ee fi.fd.scope.names=[]) {ys:List Value}(m5:aW w.params c.im c.ρ vs ys) (Tv:BindsTo s fi.fd ⟨xs,[]⟩ (fi.ps.zip ys)) (bA:R.ex n (xy fi vs st.H.length) fi.body ⟨st.H++(ee fi.fd.scope.names).map (fun x=>aj.cell (look x (fi.ps.zip vs))),st.aa⟩=some x) (aa:x.2.2.aa) (aE:dB A (n+1)) (az:kl c.ρ)
 (P:Rep w c.im c.ρ st.H s.heap) (dh:hH w c.im) (k:∀ L c' bM h' az z,b3 s.heap ⟨e5 c.ρ st.H s.heap,L,c.im,c.ρ⟩ h' c'→aH w c' bM x.2.2.H h'→aF w.params c'.im c'.ρ (iB x.1) z→Y (.ok (.ret z)) (a8 s h' az)) :
 codeAny (aU w) A (.call (.ref a) ⟨xs,[]⟩) Y s:=by
 have bh:=w7 (w:=w) hf
 have K:eQ w s.heap:=mX dh fun _ _=>P.cM
 have k7:=Hb bh.sc
 have Hg:∀{y},(y,NameKind.cell) ∉ fi.fd.scope.names:=fun m=>by have:=Ha.mpr m;rw[uA] at this;exact List.not_mem_nil this
 refine codeAny_call_def aE.depth (bh.get K) rfl (zx K) (Ga K bh.code) bh.body Tv (fun x m q=>Hg (y:=x.1) (q▸m)) (fun x m=>(k7.s1 _ (List.of_mem_zip m).1).elim lW.trans fun q=>absurd (n1 q) Hg) (fun h₀ m7 ar=>?_) bh.co bh.gen bh.kind
 refine xm (G7 S (env:=callEnv fi.fd s.heap.objs.size a) (cl:=[]) (h1:=h₀) (Q:=fun v e6=>Y (.ok (.ret v)) e6) bA aa aE.deeper az P dh ⟨rfl,bh.kind,rfl,bh.glob,bh.blt,rfl,rfl,k7.s5⟩ (Heap.iz (Nat.le_refl _)) ar m7
  (fun y v e=>?_) (by rw[uA];rfl) .nil (fun y kY=>absurd kY List.not_mem_nil) fun c' h' az z=>k _ c' _ h' az z)
 obtain ⟨u,ao,aC⟩:=Tn m5 (Bt e).2
 have ef:((fi.ps.zip ys).map (·.1)).Nodup:=To k7.s3
 exact ⟨u,lookup_mem (by rw[List.map_reverse];exact uz ef) (List.mem_reverse.mpr ((xw ef).mpr ao)),aC⟩
theorem Hh {args:List V}:ae (fun vs=>(vs=args∧args.length=fi.ps.length)∨(vs=args++fi.iY∧args.length+fi.iY.length=fi.ps.length∧(!fi.iY.isEmpty)=true)) (ki fi args) :=
 ae.c (fun q=>ae.bO (.inl ⟨rfl,Nat.eq_of_beq_eq_true q⟩)) fun _=>ae.de fun q=>ae.bO (.inr ⟨rfl,Nat.eq_of_beq_eq_true (Bool.and_eq_true_iff.mp q).1,(Bool.and_eq_true_iff.mp q).2⟩)
theorem Hi (S:bP w R) {args:List V}(hf:c2 a dF=some fi) (aV:ki fi args=some vs) (bA:R.ex n (xy fi vs st.H.length) fi.body ⟨tS st.H ((ee fi.fd.scope.names).map (fun x=>aj.cell (look x (fi.ps.zip vs)))),st.aa⟩=some x):rD w n a args st (iB x.1,x.2.2):=by
 rw[Tp] at bA
 refine ⟨fun o=>(S.m3 bA o:ax.aa ⟨_,st.aa⟩),fun aa A c s xs Y aE az P dh bC k=>?_⟩
 have K:eQ w s.heap:=mX dh fun _ _=>P.cM
 cases hd:fi.iY.isEmpty with
 |true =>
  rcases Hh _ aV with ⟨rfl,l⟩ |⟨_,_,q⟩
  ·exact Ts S hf (Qq w hf hd xs (bC.length.symm.trans l)) bA aa aE az P dh bC k
  ·rw[hd] at q;exact dv q
 |false =>
  obtain ⟨e,uA,iI,hP⟩:=Qs (w:=w) hf (by rw[hd];rfl)
  rcases Hh _ aV with ⟨rfl,l⟩ |⟨rfl,l,_⟩
  ·exact Hf S hf uA bC (iI s xs K (bC.length.symm.trans l)) bA aa aE az P dh k
  ·rw[e] at l bA
   exact Hf S hf uA (ys:=xs++[.none]) (bC.append (.cons .none .nil)) (hP s xs K (bC.length▸l)) bA aa aE az P dh k
theorem rE (S:bP w R) {args:List V}(hf:c2 a dF=some fi):ae (rD w n a args st) (bI R n fi args st) :=
 ae.b fun vs aV=>ae.b fun x bA=>ae.c (fun _ z bZ=>Tq (Hi S hf aV bA) bZ) fun _=>ae.bO (Hi S hf aV bA)
end
theorem rD.Bw {a:Addr}{args:List V}{r:V×ax}{xs:List Value}{Y:Result→Shared→Prop}(g:rD w n a args st r) (aa:r.2.aa) (aE:dB A (n+1)) (az:kl c.ρ) (P:aH w c ls st.H s.heap) (bC:aW w.params c.im c.ρ args xs)
 (k:kn w c ls s r.1 r.2 fun x=>Y (.ok (.ret x))):codeAny (aU w) A (.call (.ref a) ⟨xs,[]⟩) Y s :=
 g.2 aa Y aE az P.rep P.dh bC fun L bw jK af cU x c4 b8 v2=>k _ af cU x (c4.back P) (P.back b8 c4.le.kept c4.le.im c4.le.ρ c4.le.new) v2
end
section
variable {w:World}{R:dR}{A:Around}{c:br}{st st' : ax}{s:Shared}{ls:List (Str×V)}{n:Nat}{H:List aj}{h h' : Heap}{r:V}
theorem Tw {ps:Arguments}{a:Arg}(h:ps.args=[a]) (h1:ps.posonlyargs=[]) (af:ps.vararg=none) (aB:ps.kwonlyargs=[]) (bu:ps.kwarg=none):∃ an p kd l7,ps=⟨[],[⟨a.arg,an,p⟩],none,[],kd,none,l7⟩:=by
 obtain ⟨po,Tx,bC,Tz,kd,kw,l7⟩:=ps
 obtain ⟨x,an,p⟩:=a
 exact ⟨an,p,kd,l7,by rw[show po=[] from h1,show Tx=_ from h,show bC=none from af,show Tz=[] from aB,show kw=none from bu]⟩
theorem TA {ps:Arguments}{sc:Scope}:ae (fun x=>(∃ an p kd l7,ps=⟨[],[⟨x,an,p⟩],none,[],kd,none,l7⟩)∧sc.kind=.function∧sc.isCoroutine=false∧sc.isGenerator=false∧(∀ x∈sc.names,x.2≠.cell)∧look x sc.names=some .local∧(x=⟨⟨[110,97,109,101]⟩⟩∨x=⟨⟨[110,111,100,101]⟩⟩)) (tT ps sc) :=
 ae.b fun a b2=>ae.de fun q=>ae.bO<|by
  obtain ⟨aS,q⟩:=Bool.and_eq_true_iff.mp q
  obtain ⟨bf,q⟩:=Bool.and_eq_true_iff.mp q
  obtain ⟨dU,q⟩:=Bool.and_eq_true_iff.mp q
  obtain ⟨ea,q⟩:=Bool.and_eq_true_iff.mp q
  obtain ⟨km,q⟩:=Bool.and_eq_true_iff.mp q
  obtain ⟨rF,q⟩:=Bool.and_eq_true_iff.mp q
  obtain ⟨xB,q⟩:=Bool.and_eq_true_iff.mp q
  obtain ⟨xC,q⟩:=Bool.and_eq_true_iff.mp q
  obtain ⟨TB,TC⟩:=Bool.and_eq_true_iff.mp q
  exact ⟨Tw (mY b2) (List.isEmpty_iff.mp aS) (Option.isNone_iff_eq_none.mp bf) (List.isEmpty_iff.mp dU) (Option.isNone_iff_eq_none.mp ea),beq_iff_eq.mp km,rm rF,rm xB,fun x m=>bne_iff_ne.mp (List.all_eq_true.mp xC x m),n3 TB,(Bool.or_eq_true_iff.mp TC).imp d9.mp d9.mp⟩
theorem TF {name qual x:Str}{an:Option PySem.Expr}{p:Pos}{kd:List (Option PySem.Expr)}{l7:List PySem.Expr}{body:PySem.Expr}{sc:Scope}{cl:List (Str×Addr)}{pm cd kV y:Value}(h:x=⟨⟨[110,97,109,101]⟩⟩∨x=⟨⟨[110,111,100,101]⟩⟩) :
 bindArgs (kla_fn name qual ⟨[],[⟨x,an,p⟩],none,[],kd,none,l7⟩ body sc cl pm cd kV) ⟨[y],[]⟩=pure [(x,y)]:=by
 rcases h with rfl |rfl <;> kernel_rfl
theorem dB.make {A:Around}{n:Nat}{a:Addr}{xs:List Value}(r:dB A (n+2)):dB (A.under (.builtin "type.__call__" ⟨.ref a::xs,[]⟩)) (n+1) :=
 ⟨by have:=r.d;show A.depth+1+(n+1)<_;omega,by have:=r.u;show A.units+1+10 * (n+1)+100<_;omega,r.h⟩
theorem Hj {b:Nat}{x z:V×ax}(h:nZ b x=some z) (o:z.2.aa):x.2.aa:=(ae.o (fun _ _ z h=>ui h) fun _=>ae.bO id:ae (fun z=>z.2.aa→x.2.aa) (nZ b x)) z h o
theorem TG {b:Nat}{y z:V×ax}{c' : br}{x:Value}(hf:nZ b y=some z) (R:aH w c' ls y.2.H h') (n:b3 h c h' c') (g6:c.ρ.length=b) (r:aF w.params c'.im c'.ρ y.1 x):∃ da,b3 h c h' da∧(∃ xD,aH w da xD z.2.H h')∧aF w.params da.im da.ρ z.1 x:=by
 refine (ae.o (fun i aM z hf=>?_) fun _=>ae.bO ⟨c',n,⟨_,R⟩,r⟩:ae (fun z=>∃ da,b3 h c h' da∧(∃ xD,aH w da xD z.2.H h')∧aF w.params da.im da.ρ z.1 x) (nZ b y)) z hf
 obtain ⟨m,_,bc⟩:=R.ns
 obtain ⟨_,da,dQ,l6,v4,_⟩:=AV (ls:=[]) hf ⟨⟨m,(fun x v e=>ba e),bc⟩,R.rep,R.dh,R.keep,R.own,R.fr⟩ n g6 (fun x v e=>ba e) r
 exact ⟨da,dQ,⟨_,l6⟩,v4⟩
theorem TH {a:Addr}{bY:Heap}(P:aH w c ls st.H bY):∃ c',b3 bY c ((bY.push emptyDict).push (instObj a bY.objs.size)) c'∧aH w c' ls (st.H++[.inst a []]) ((bY.push emptyDict).push (instObj a bY.objs.size))∧c'.ρ[st.H.length]?=some (bY.objs.size+1,bY.objs.size)∧hq c.ρ c'.ρ:=by
 have bA:((bY.push emptyDict).push (instObj a bY.objs.size)).get? (bY.objs.size+1)=some (instObj a bY.objs.size):=by
  have:=Heap.get?_push_size (bY.push emptyDict) (o:=instObj a bY.objs.size) rfl
  rwa [Heap.size_push] at this
 have hd:((bY.push emptyDict).push (instObj a bY.objs.size)).get? bY.objs.size=some emptyDict:=Heap.get?_push_of_some _ (Heap.get?_push_size _ rfl)
 have keep:∀ b o,bY.get? b=some o→((bY.push emptyDict).push (instObj a bY.objs.size)).get? b=some o:=fun b o e=>Heap.get?_push_of_some _ (Heap.get?_push_of_some _ e)
 have le:hq c.ρ (c.ρ++[(bY.objs.size+1,bY.objs.size)]):=fun i q e=>o8 e
 refine ⟨{c with ρ:=c.ρ++[(bY.objs.size+1,bY.objs.size)]},⟨⟨rfl,rfl,fun _ _ x=>x,le,fun _ _ x=>.inl x⟩,.of_keep keep⟩,P.push (p:=(bY.objs.size+1,bY.objs.size)) (o:=.inst a []) keep (fun b m=>?_) ⟨[],0,bA,hd,.nil,Nat.succ_ne_self _⟩,?_,le⟩
 ·exact (List.mem_cons.mp m).elim (fun e=>e▸Nat.le_succ _) fun m=>List.mem_singleton.mp m▸Nat.le_refl _
 ·show (c.ρ++_)[st.H.length]?=_
  rw[←P.rep.len,List.getElem?_append_right (Nat.le_refl _),Nat.sub_self];rfl
theorem TJ {v:V}(h:isNone v=true):v=.none:=by cases v <;> first |rfl |exact dv h
theorem TK (S:bP w R) {a:Addr}{args:List V}{ci fi x}(h1:c2 a hJ=some ci) (af:c2 ci.init dF=some fi) (aB:bI R n fi (.ref st.H.length::args) ⟨st.H++[.inst a []],st.aa⟩=some x) (bc:isNone x.1=true):oa w (n+2) (.obj (.ref a)) args st (.ref st.H.length,x.2):=by
 have g:=rE (w:=w) S af _ aB
 refine ⟨fun o=>(g.1 o:ax.aa ⟨_,st.aa⟩),fun aa A c ls s rG xs aE az P i3 bC Q k=>i3.objE ?_⟩
 have X:=kd_in (h:=s.heap) P.dh fun _ _=>P.rep.cM
 obtain ⟨f1,_,_,f2⟩:=pk w.params h1
 obtain ⟨g1,g2,_⟩:=AB f2
 obtain ⟨c',cB,aX,hN,le⟩:=TH (a:=a) P
 obtain ⟨bY,TL,Bx,tt,os⟩:=s
 refine wpAny_call (make_core (makes_of (M:=aU w) X (n5 f1).2.2.2.2.2) (looks_findIn X g1) (fun self=>bind_fn X self g2) (.inl rfl) ?_)
 refine g.Bw (s:=⟨(bY.push emptyDict).push (instObj a bY.objs.size),TL,Bx,tt,os⟩) aa aE.make (az.mono le) aX (.cons (.ref hN) (bC.cB cB)) fun bw h' az x aG b8 v1=>?_
 rw[TJ bc] at v1
 exact v1.tx ⟨rfl,k bw h' az _ (cB.trans aG) b8 (.ref (aG.le.ρ _ _ hN))⟩
theorem TM (S:bP w R) {ps:Arguments}{body:PySem.Expr}{sc:Scope}{v:V}{x y z}(h1:tT ps sc=some x) (af:R.ev n ⟨sc,[],none,[(x,v)]⟩ body st=some y) (aB:nZ st.H.length y=some z):oa w (n+1) (.lam ps body sc) [v] st z:=by
 refine ⟨fun o=>S.dm af (Hj aB o),fun aa A c ls s rG xs aE az P i3 bC Q k=>bC.kW fun u v1=>i3.Ep fun a lam=>?_⟩
 have K:eQ w s.heap:=mX P.dh fun _ _=>P.rep.cM
 obtain ⟨⟨an,p,kd,l7,rfl⟩,aS,bf,dU,ea,km,rF⟩:=TA _ h1
 obtain ⟨name,qual,pm,lZ,kV,ao,o,vs,t,aC,cL,gH⟩:=lam
 refine wpAny_call (kla_callFunE aE.depth (P.rep.cM ao) rfl bf dU rfl ⟨lZ,o,vs,t,rfl,P.rep.cM aC,cL,gH⟩ ?_)
 rw[TF rF]
 refine wpAny_pure (wpAny_newFunctionEnv ea (fun z m=>by rw[List.mem_singleton.mp m];exact lW.trans km) (fun k5 m7 pD=>⟨(zx K).fresh _ pD,?_⟩) aS)
 have ar:∀ b o,s.heap.get? b=some o→k5.get? b=some o:=fun b o e=>pD.extBut b o (Nat.ne_of_lt (Heap.lt_size e)) (Heap.get?_push_of_some _ e)
 have xc:=P.enter (bJ:=[(x,v)]) ar m7 (fun z xf e=>by
  cases q:seq z x with
  |true=>rw[h5 q] at e;rw[←cc e,d9.mp q];exact ⟨u,by rw[List.reverse_singleton,lW,h5 (lV x)],v1⟩
  |false=>rw[h6 q] at e;exact ba e) (Heap.iz (Nat.le_refl _))
 have nb:b3 s.heap ⟨e5 c.ρ st.H s.heap,s.heap.objs.size,c.im,c.ρ⟩ k5 ⟨e5 c.ρ st.H s.heap,s.heap.objs.size,c.im,c.ρ⟩:=.keep ar
 refine kla_codeExpr (xm (S.ev (s:=a8 s k5 _) af (Hj aB aa) aE.deeper (c:=⟨e5 c.ρ st.H s.heap,s.heap.objs.size,c.im,c.ρ⟩) ⟨rfl,aS,rfl,rfl,rfl,(fun z i e=>ba e),(fun i q e=>ba e),az⟩ xc fun bw ct cU eI a3 b8 v2=>?_))
 have c4:=nb.trans a3
 obtain ⟨da,dQ,⟨xD,l6⟩,v4⟩:=TG aB b8 c4 P.rep.len v2
 exact k _ ct cU eI (dQ.back P) (P.back l6 dQ.le.kept dQ.le.im dQ.le.ρ dQ.le.new) v4
theorem Hk {g:Value}{args:List V}{z}(h:g5 w g args st z):oa w n (.obj g) args st z:=⟨h.1,fun aa A c ls s rG xs aE az P i3 bC Q k=>i3.objE (h.2 aa aE P bC Q k)⟩
theorem TN (S:bP w R) {a:Addr}{args:List V}:ae (oa w (n+1) (.obj (.ref a)) args st) (Ao R n a args st):=ae.b fun ci h1=>ae.b fun fi af=>by
 cases n with
 |zero=>exact ae.no
 |succ n=>exact ae.b fun x aB=>ae.de fun q=>ae.bO (TK S h1 af aB q)
theorem TO (S:bP w R) {x:Value}{args:List V}:ae (oa w (n+1) (.obj x) args st) (E2 R n x args st):=by
 cases x with
 |ref a=>exact ae.o (fun fi hf z bZ=>⟨(rE (w:=w) S hf z bZ).1,fun aa A c ls s rG xs aE az P i3 bC Q k=>i3.objE (wpAny_call ((rE S hf z bZ).Bw aa aE az P bC k))⟩) fun _=>TN S
 |builtin id=>exact fun z h=>Hk (PK z h)
 |type id=>exact fun z h=>Hk (PV z h)
 |_=>exact ae.no
theorem TP (S:bP w R) {g:Addr}{self:V}{args:List V}{fi z}(hf:c2 g dF=some fi) (h:bI R n fi (self::args) st=some z):oa w (n+1) (.fD g self) args st z :=
 ⟨(rE (w:=w) S hf z h).1,fun aa A c ls s rG xs aE az P i3 bC Q k=>i3.Er fun y a ao v1=>wpAny_call (method_call (P.rep.cM ao) ((rE S hf z h).Bw aa aE az P (.cons v1 bC) k))⟩
theorem TQ (S:bP w R) {f:V}{args:List V}:ae (oa w n f args st) (tU R n f args st):=by
 cases n with
 |zero=>exact ae.no
 |succ n =>
  cases f with
  |obj x=>exact TO S
  |lam ps body sc=>exact ae.b fun v aV=>ae.b fun x h1=>ae.b fun y af z aB=>by rw[mY aV];exact TM S h1 af aB
  |fD g self=>exact ae.b fun fi hf z h=>TP S hf h
  |_=>exact ae.no
end
section
variable {w:World}{R:dR}{A:Around}{c:br}{st st' : ax}{s:Shared}{ls:List (Str×V)}{n:Nat}{fr:a5}{env:Env}{H:List aj}{h h' : Heap}{r:V}
theorem TR (S:bP w R) {e:PySem.Expr}:ae (f9 w n fr e st) (pg R n fr e st):=by
 cases e with
 |Name x p=>exact ae.m fun v h=>⟨fun o=>o,fun aa A c env s aE F P Q k=>Ft F P v h Q fun y m5=>k c s.heap s.toks y .refl P m5⟩
 |Constant lZ k p=>exact ae.m fun v h=>⟨fun o=>o,fun aa A c env s aE F P Q k=>OE v h Q fun az y m5=>k c s.heap az y .refl P m5⟩
 |Attribute o nm p=>exact ae.de fun q=>ae.b fun x h1=>ae.m fun u af=>PZ S q h1 af
 |Call f args gV p=>exact QB S
 |Subscript o i p=>exact QU S
 |BinOp l op r p=>exact ae.b fun a h1=>ae.b fun b af z aB=>P1 S h1 af aB
 |UnaryOp op x p=>exact ae.de fun q=>ae.b fun y h1=>ae.m fun i af=>by rw[Pa q];exact P2 S h1 af
 |Compare l ops rs p=>exact ae.b fun op c8=>ae.b fun r bR=>ae.cf fun q=>ae.b fun a h1=>ae.b fun b af=>ae.m fun z aB=>by rw[mY c8,mY bR];exact P4 S q h1 af aB
 |BoolOp op vs p=>exact ae.cf fun q=>ae.b fun v aV=>ae.b fun x h1=>ae.b fun b af=>by rw[wI aV,show op=.And by cases op <;> first |rfl |exact eD q];exact P5 S h1 af
 |IfExp t a b p=>exact ae.b fun q h1=>P6 S h1
 |Tuple aD k p=>exact ae.cf fun q=>ae.m fun x h1=>P7 S q h1
 |List aD p=>exact ae.cf fun q=>ae.m fun x h1=>P8 S q h1
 |Dict b6 vs p=>exact ae.b fun cx h1=>ae.de fun q=>ae.m fun x af=>Q2 S h1 q af
 |ListComp elt gens sc p=>exact So S
 |Lambda ps body sc p=>exact ae.b fun y h1=>ae.b fun z af=>ae.de fun q=>ae.bO (R2 h1 af q)
 |_=>exact ae.no
end
noncomputable def Hl (R:dR):Prop:=∀{n fr t v st r},R.as n fr t v st=some r→isStar t=false
theorem TS {w:World}{R:dR}(S:bP w R) (a:Hl R):bP w (E3 R):=⟨TR S,Rd S,Rg S (S6 S a),Ru S,TQ S,RD S,RG S,RM S⟩
theorem TU (w:World) (n:Nat):bP w (e4 n)∧Hl (e4 n):=by
 induction n with
 |zero=>exact ⟨PX w,fun h=>ba h⟩
 |succ n aI=>exact ⟨TS aI.1 aI.2,fun h=>SX h⟩
section
set_option tactic.hygienic true
theorem By {P:Params}{im:cq}{ρ:c5}:∀{xs:List Value}{ns:List Int},IntsAre xs ns→aW P im ρ (ns.map V.int) xs
 |_,_,.nil=>.nil
 |_,_,.cons i t h=>.cons (.int i t) (By h)
theorem TV {h:Heap}{a:Addr}{m f6:Str→Option Value}(x:h.Ns a m) (y:h.Ns a f6) (n:Str):m n=f6 n:=by
 obtain ⟨o,aD,iw,ao,aC,_,cL⟩:=x
 obtain ⟨o',ZA,ZC,hI,iX,_,TX⟩:=y
 rw[ao] at hI;cases hI
 rw[aC] at iX;cases iX
 rw[←cL,TX]
noncomputable def jL:ax:=⟨[.tab "_law_view.<locals>.<lambda>" [],.tab "law.<locals>.<lambda>" []],True⟩
noncomputable def Bz:Prop:=∀ ns:List Int,ns.length≤63→∃ N st' fi rH t0 aS t1,c2 954 dF=some fi∧bI (e4 N) 200 fi [.aO (ns.map .int)] jL=some (.bool true,st')∧st'.aa∧st'.H[0]?=some (.tab rH t0)∧st'.H[1]?=some (.tab aS t1)
theorem TY (w:World):gl w jr.1.name=some (.ref 954):=by kernel_rfl
open Classical in
noncomputable def l8 (h:Heap):cq:=fun b=>if b=885∨b=951 then none else h.get? b
section
variable {w:World}{h:Heap}
theorem TZ {P:Params}{hs:Addr}{xs:List Value}{ns:List Int}(aZ:h.IsList hs xs.toArray) (w1:Well P h (.ref hs) (ofPy (PyData.list (ns.map PyData.int)))):∃ n,h.get? hs=some (fE xs n):=by
 cases w1 with
 |list ao wl =>
  obtain ⟨o,aC,_,n,cL⟩:=aZ
  rw[ao] at aC;cases aC
  injection cL with cL gH
  exact ⟨0,by rw[ao,cL]⟩
theorem T1:∀ a o,(full w.params).get a=some o→o2 o=true→a≠885∧a≠951:=by
 intro a o e k
 constructor
 ·rintro rfl
  have:(full w.params).get 885=some (iv []):=by kernel_rfl
  rw[this] at e;cases e;cases k
 ·rintro rfl
  have:(full w.params).get 951=some (iv []):=by kernel_rfl
  rw[this] at e;cases e;cases k
theorem T2 {a:Addr}{o:Obj}(e:l8 h a=some o):h.get? a=some o:=by
 unfold l8 at e
 split at e
 ·cases e
 ·exact e
theorem T3 (K:eQ w h):hH w (l8 h):=fun a o ao aC cL=>by
 unfold l8
 obtain ⟨aG,a3⟩:=T1 a o ao aC
 rw[if_neg (fun q=>q.elim aG a3)]
 exact K a o ao aC cL
theorem Hm {a:Addr}(x:Own [(885,885),(951,951)] jL.H a):a=885∨a=951:=by
 obtain ⟨i,p,o,ao,aC,m⟩:=x
 match i with
 |0=>cases ao;cases aC;exact .inl (List.mem_singleton.mp m)
 |1=>cases ao;cases aC;exact .inr (List.mem_singleton.mp m)
 |i+2=>cases ao
theorem T4 (rI:h.get? 885=some (tabObj #[])) (rJ:h.get? 951=some (tabObj #[])):Rep w (l8 h) [(885,885),(951,951)] jL.H h:=by
 refine ⟨rfl,?_,?_,T2,fun {a} x=>if_pos (Hm x)⟩
 ·intro i p o ao aC
  match i with
  |0=>cases ao;cases aC;exact ⟨[],rI,.nil⟩
  |1=>cases ao;cases aC;exact ⟨[],rJ,.nil⟩
  |i+2=>cases ao
 ·intro i j p q o o' a ao aC m hI iX f6
  match i,j with
  |0,0=>rfl
  |1,1=>rfl
  |0,1=>cases ao;cases aC;cases hI;cases iX;cases (List.mem_singleton.mp m).symm.trans (List.mem_singleton.mp f6)
  |1,0=>cases ao;cases aC;cases hI;cases iX;cases (List.mem_singleton.mp m).symm.trans (List.mem_singleton.mp f6)
  |i+2,_=>cases ao
  |0,j+2=>cases hI
  |1,j+2=>cases hI
end
theorem T5 (H:Bz):WalkO lI ta (fun _ _=>True) YP hp.row.toRowW jr.1 jr.2 fun f vs=>PySem.call f vs:=by
 intro w ZD dS mg ZE G Y AD o pm cd doc Dt ZF c8 hd ZG lF T6 cP args vals as T7 T8 T9 Ua Ub
 refine Ground.open G ?_
 intro T B D TE TW
 have Uc:=Top.g T
 have bY:absHeap (full w.params) 955 lf=j8 w.params:=DL w.params
 have K:eQ w dS.heap:=Nj fun b o e=>Y b o (bY▸e)
 have Ud:Value.ref 954=Value.ref AD:=Option.some.inj ((TY w).symm.trans ((TV (vQ K) Uc _).trans T6))
 cases Ud
 have rI:dS.heap.get? 885=some (tabObj #[]):=Y 885 _ (bY▸abs_get (o:=iv []) (by decide) (by kernel_rfl))
 have rJ:dS.heap.get? 951=some (tabObj #[]):=Y 951 _ (bY▸abs_get (o:=iv []) (by decide) (by kernel_rfl))
 wrow_args T7 T8 T9 Ua Ub
 rename_i ns _ _ _ _ _ _ _ hs xs _ aZ ZH w1 uo j6 bR aw _
 obtain ⟨N,st',fi,rH,bz,aS,gc,hf,Ue,Ug,h0,h1⟩:=H ns (by omega)
 obtain ⟨k,hN⟩:=TZ aZ w1
 have P:Rep w (l8 dS.heap) [(885,885),(951,951)] jL.H dS.heap:=T4 rI rJ
 have Hn:hs≠885∧hs≠951:=by
  constructor
  ·rintro rfl;rw[rI] at hN;cases hN
  ·rintro rfl;rw[rJ] at hN;cases hN
 have bZ:xs.length≤aL:=by
  have:=(By (P:=w.params) (im:=l8 dS.heap) (ρ:=[]) j6).length
  rw[List.length_map] at this
  unfold aL;omega
 have bC:aW w.params (l8 dS.heap) [(885,885),(951,951)] [.aO (ns.map .int)] [.ref hs] :=
  .cons (.aO (n:=k) (by unfold l8;rw[if_neg (fun q=>q.elim Hn.1 Hn.2)];exact hN) (By j6) bZ) .nil
 refine wpAny_call ((rE (TU w N).1 hf _ Ue).2 (c:=⟨fun _=>none,0,l8 dS.heap,[(885,885),(951,951)]⟩) Ug _ ⟨by decide,by decide,rfl⟩ ⟨⟨885,rfl⟩,⟨951,rfl⟩⟩ P (T3 K) bC fun L bw jK af cU x c4 b8 v2=>v2.qY ?_)
 have kept:∀ b o,b≠885→b≠951→dS.heap.get? b=some o→af.get? b=some o:=fun b o aG a3 e=>b8.keep (by
  rw[c4.le.kept]
  exact oi.mpr ⟨fun q=>(Hm q).elim aG a3,e⟩)
 have ou:=c4.le.ρ 0 _ rfl
 have l1:=c4.le.ρ 1 _ rfl
 obtain ⟨x0,i6,_⟩:=b8.rep.at_ ou h0
 obtain ⟨df,g1,_⟩:=b8.rep.at_ l1 h1
 have Uh:dS.heap.TableAt 889 885 #[]:=⟨⟨e1 "_law_view" "_law_view" 1918 1922 919 0 3 884 885 true (.ref 886) (.ref 887) (.ref 888),_,K 889 _ (by kernel_rfl) (by kernel_rfl) (by kernel_rfl),rfl,rfl,rfl⟩,rI⟩
 have Ui:dS.heap.TableAt 953 951 #[]:=⟨⟨e1 "law" "law" 2021 2024 1052 1 3 950 951 true .none .none (.ref 952),_,K 953 _ (by kernel_rfl) (by kernel_rfl) (by kernel_rfl),rfl,rfl,rfl⟩,rJ⟩
 have iD:OldK dS.heap af:=by
  refine ⟨fun b o e=>?_,fun b o e=>?_⟩
  ·by_cases dn:b=885
   ·subst dn
    rw[rI] at e;cases e
    exact .inr (.inl ⟨Uh.isCodeTable,rfl,#[],x0.toArray,rfl,by simpa using i6⟩)
   ·by_cases ao:b=951
    ·subst ao
     rw[rJ] at e;cases e
     exact .inr (.inl ⟨Ui.isCodeTable,rfl,#[],df.toArray,rfl,by simpa using g1⟩)
    ·exact .inl (kept b o dn ao e)
  ·by_cases dn:b=885
   ·subst dn;exact ⟨_,i6⟩
   ·by_cases ao:b=951
    ·subst ao;exact ⟨_,g1⟩
    ·exact ⟨o,kept b o dn ao e⟩
 refine ⟨.inl ⟨_,.bool true,[],rfl,?_,.bool _,?_,?_⟩,iD,rfl,.of_eq cP⟩
 ·exact fun _=>rfl
 ·exact postW_of (by wrow_shape) (by wtm_val) (by rfl)
 ·exact fun _=>⟨.nil,fun _ m=>by cases m⟩
theorem Uj (H:Bz):hp.Holds:=head (T5 H)
end
noncomputable def k8 (d:Nat) (P:Nat→Nat→Prop):Prop:=∃ K,∀ N n,K≤N→d≤n→P N n
theorem k8.and {d:Nat}{P Q:Nat→Nat→Prop}:k8 d P→k8 d Q→k8 d fun N n=>P N n∧Q N n
 |⟨K,h⟩,⟨L,g⟩=>⟨K+L,fun N n a b=>⟨h N n (by omega) b,g N n (by omega) b⟩⟩
theorem k8.step {d:Nat}{P Q:Nat→Nat→Prop}:k8 d P→(∀ N n,d≤n→P N n→Q (N+1) n)→k8 d Q
 |⟨K,h⟩,g=>⟨K+1,fun N n a b=>match N,a with |N+1,a=>g N n b (h N n (by omega) b)⟩
theorem k8.mono {d e:Nat}{P:Nat→Nat→Prop}(le:d≤e):k8 d P→k8 e P
 |⟨K,h⟩=>⟨K,fun N n a b=>h N n a (by omega)⟩
theorem uB (N:Nat):(e4 (N+1)).et=q9 (e4 N):=rfl
noncomputable def a5.up (fr:a5) (ls:List (Str×V)):a5:={fr with ls:=ls}
noncomputable def Gt {α:Type}(d:Nat) (f:Nat→Nat→ax→Option α) (H:List aj) (r:ax→α) (H' : List aj):Prop :=
 ∀ aa:Prop,aa→∃ dr:Prop,dr∧k8 d fun N n=>f N n ⟨H,aa⟩=some (r ⟨H',dr⟩)
noncomputable abbrev ai (d:Nat) (fr:a5) (e:PySem.Expr) (H:List aj) (v:V) (H' : List aj):Prop:=Gt d (fun N n st=>(e4 N).ev n fr e st) H (fun s=>(v,s)) H'
noncomputable abbrev GT (d:Nat) (fr:a5) (e:PySem.Expr) (H:List aj) (q:Bool) (H' : List aj):Prop:=Gt d (fun N n st=>(e4 N).et n fr e st) H (fun s=>(q,s)) H'
noncomputable abbrev ab (d:Nat) (fr:a5) (ss:List Stmt) (H:List aj) (f:cA) (ls:List (Str×V)) (H' : List aj):Prop:=Gt d (fun N n st=>(e4 N).ex n fr ss st) H (fun s=>(f,ls,s)) H'
noncomputable abbrev ah (d:Nat) (fr:a5) (e:Stmt) (H:List aj) (f:cA) (ls:List (Str×V)) (H' : List aj):Prop:=Gt d (fun N n st=>rb (e4 N) n fr e st) H (fun s=>(f,ls,s)) H'
noncomputable abbrev bq (d:Nat) (fr:a5) (t:PySem.Expr) (v:V) (H:List aj) (ls:List (Str×V)) (H' : List aj):Prop:=Gt d (fun N n st=>(e4 N).as n fr t v st) H (fun s=>(ls,s)) H'
noncomputable abbrev aq (d:Nat) (f:V) (args:List V) (H:List aj) (v:V) (H' : List aj):Prop:=Gt d (fun N n st=>(e4 N).cl n f args st) H (fun s=>(v,s)) H'
noncomputable abbrev cV (d:Nat) (fr:a5) (t:PySem.Expr) (src:Src) (k:Nat) (body:List Stmt) (H:List aj) (f:cA) (ls:List (Str×V)) (H' : List aj):Prop:=Gt d (fun N n st=>(e4 N).jw n fr t src k body st) H (fun s=>(f,ls,s)) H'
noncomputable abbrev ib (d:Nat) (fr:a5) (t:PySem.Expr) (body:List Stmt) (H:List aj) (f:cA) (ls:List (Str×V)) (H' : List aj):Prop:=Gt d (fun N n st=>(e4 N).tI n fr t body st) H (fun s=>(f,ls,s)) H'
noncomputable abbrev cX (d:Nat) (fr:a5) (elt t:PySem.Expr) (ifs:List PySem.Expr) (src:Src) (k acc:Nat) (H H' : List aj):Prop:=Gt d (fun N n st=>(e4 N).dz n fr elt t ifs src k acc st) H (fun s=>s) H'
noncomputable abbrev GE (d:Nat) (fr:a5) (aD:List PySem.Expr) (H:List aj) (vs:List V) (H' : List aj):Prop:=Gt d (fun N n st=>f7 (e4 N) n fr aD st) H (fun s=>(vs,s)) H'
section
variable {α β:Type}{d e:Nat}{f:Nat→Nat→ax→Option α}{g:Nat→Nat→ax→Option β}{H H1 H2 H' : List aj}{r:ax→α}{eb:ax→β}
theorem Gt.mono (le:d≤e) (h:Gt d f H r H'):Gt e f H r H':=fun aa o=>let ⟨dr,o',x⟩:=h aa o;⟨dr,o',x.mono le⟩
theorem Gt.step (h:Gt d f H r H') (k:∀ N n s e6,d≤n→f N n s=some (r e6)→s.H=H→e6.H=H'→g (N+1) n s=some (eb e6)):Gt d g H eb H':=fun aa o =>
 let ⟨dr,o',x⟩:=h aa o;⟨dr,o',x.step fun N n bc q=>k N n _ _ bc q rfl rfl⟩
theorem Gt.same (h:Gt d f H r H') (k:∀ N n s e6,d≤n→f N n s=some (r e6)→s.H=H→e6.H=H'→g N n s=some (eb e6)):Gt d g H eb H':=fun aa o =>
 let ⟨dr,o',K,x⟩:=h aa o;⟨dr,o',K,fun N n a b=>k N n _ _ b (x N n a b) rfl rfl⟩
theorem Gt.then {gE:Type}{g:Nat→Nat→ax→Option β}{u:Nat→Nat→ax→Option gE}{ov:ax→gE}(h:Gt d f H r H1) (af:Gt d g H1 eb H2)
 (k:∀ N n s s1 s2,d≤n→f N n s=some (r s1)→g N n s1=some (eb s2)→s.H=H→s1.H=H1→s2.H=H2→u (N+1) n s=some (ov s2)):Gt d u H ov H2:=fun aa o =>
 let ⟨e7,fa,x⟩:=h aa o;let ⟨eg,es,y⟩:=af e7 fa;⟨eg,es,(x.and y).step fun N n bc q=>k N n _ _ _ bc q.1 q.2 rfl rfl rfl⟩
theorem Gt.pE {gE:Type}{g:Nat→Nat→ax→Option β}{u:Nat→Nat→ax→Option gE}{ov:ax→gE}(h:Gt d f H r H1) (af:Gt d g H1 eb H2)
 (k:∀ N n s s1 s2,d≤n→f N n s=some (r s1)→g N n s1=some (eb s2)→s.H=H→s1.H=H1→s2.H=H2→u N n s=some (ov s2)):Gt d u H ov H2:=fun aa o =>
 let ⟨e7,fa,x⟩:=h aa o;let ⟨eg,es,y⟩:=af e7 fa;⟨eg,es,let ⟨K,z⟩:=x.and y;⟨K,fun N n a b=>k N n _ _ _ b (z N n a b).1 (z N n a b).2 rfl rfl rfl⟩⟩
theorem Gt.uC {gE js:Type}{u:Nat→Nat→ax→Option gE}{q:Nat→Nat→ax→Option js}{ov:ax→gE}{i2:ax→js}{H3:List aj}(h:Gt d f H r H1) (af:Gt d g H1 eb H2) (aB:Gt d u H2 ov H3)
 (k:∀ N n s s1 s2 s3,d≤n→f N n s=some (r s1)→g N n s1=some (eb s2)→u N n s2=some (ov s3)→s.H=H→s1.H=H1→s2.H=H2→s3.H=H3→q (N+1) n s=some (i2 s3)):Gt d q H i2 H3:=fun aa o =>
 let ⟨e7,fa,x⟩:=h aa o;let ⟨eg,es,y⟩:=af e7 fa;let ⟨ow,fP,z⟩:=aB eg es;⟨ow,fP,((x.and y).and z).step fun N n bc a=>k N n _ _ _ _ bc a.1.1 a.1.2 a.2 rfl rfl rfl rfl⟩
theorem Gt.now (h:∀ N n s,d≤n→s.H=H→f N n s=some (r s)):Gt d f H r H:=fun aa o=>⟨aa,o,0,fun N n _ b=>h N n _ b rfl⟩
theorem Gt.run (k:Nat) (h:∀ N n aa,f (N+k) (n+d) ⟨H,aa⟩=some (r ⟨H',aa⟩)):Gt d f H r H':=fun aa o =>
 ⟨aa,o,k,fun N n a b=>by
  have:=h (N - k) (n - d) aa
  rwa [Nat.sub_add_cancel a,Nat.sub_add_cancel b] at this⟩
theorem Gt.k9 (k:Nat) (p:Prop→Prop) (h:∀ N n aa,f (N+k) (n+d) ⟨H,aa⟩=some (r ⟨H',p aa⟩)) (a4:∀ aa,aa→p aa):Gt d f H r H':=fun aa o =>
 ⟨p aa,a4 aa o,k,fun N n a b=>by
  have:=h (N - k) (n - d) aa
  rwa [Nat.sub_add_cancel a,Nat.sub_add_cancel b] at this⟩
end
theorem uD {op:CmpOp}{a b:V}{H:List aj}{q:Bool}{s:ax}(e:s.H=H) (h:dY op a b ⟨H,True⟩=some (q,⟨H,True⟩)):dY op a b s=some (q,s):=by
 subst e
 exact lM h fun r h' e=>by show Option.map _ _=_;rw[←(qW e).1];exact congrArg (Option.map fun r=>(r,s)) h'
section
variable {α β:Type}{o:Option α}{a:α}
theorem dE {f:α→β}(h:o=some a):o.map f=some (f a):=by rw[h];rfl
theorem rK {y:β}{f:α→β}(h:o=some a):o.elim y f=f a:=by rw[h];rfl
theorem l9 {y:β}{f:α→β}(h:o=none):o.elim y f=y:=by rw[h];rfl
theorem en {b:Bool}{x y:α}(h:b=true):cond b x y=x:=by rw[h];rfl
theorem eU {b:Bool}{x y:α}(h:b=false):cond b x y=y:=by rw[h];rfl
end
theorem xE {q r:Bool}{st:ax}(h:q=r):some (q,st)=some (r,st):=congrArg (fun q=>some (q,st)) h
theorem Uk {v u:V}{nm:Str}{H H2:List aj}{s:ax}(e:s.H=H) (h:mV v nm u ⟨H,True⟩=some ⟨H2,True⟩):mV v nm u s=some ⟨H2,s.aa⟩:=by
 subst e
 exact jt h fun i h1 h=>jt h fun y af h=>jt h fun ci aB h=>(bj h1).trans ((bj af).trans ((bj aB).trans (by
  obtain ⟨q,h⟩:=AK h
  exact (en q).trans (congrArg some (congrArg (fun z=>ax.mk z s.aa) (congrArg ax.H (cc h)))))))
theorem uE {b:Bool}(h:(!b)=true):b=false:=by cases b;rfl;cases h
noncomputable def BA (x e:PySem.Expr):Bool:=match e3 e with
 |.lc _ _ _ _=>false
 |.tup _ _ _=>(f5 x).elim (!Ab x) fun bp=>!(bp.head?.bind ke).isSome&&!bp.isEmpty
 |_=>!mS e
theorem Ul {fr:a5}{bp:List PySem.Expr}(h:(!(bp.head?.bind ke).isSome&&!bp.isEmpty)=true):jA fr bp=none:=by
 cases bp with
 |nil=>exact dv h
 |cons t r =>
  have h:=uE (Bool.and_eq_true_iff.mp h).1
  cases q:ke t with
  |none=>show (ke t).bind _=none;rw[q];rfl
  |some x=>have h:(ke t).isSome=false:=h;rw[q] at h;exact eD h
theorem Um {fr:a5}{x e:PySem.Expr}{p:Pos}{R:dR}{n:Nat}{st:ax}(h:BA x e=true):rb R n fr (.Assign [x] e p) st=ra R n fr x e st:=by
 show tQ R n fr x e st=_
 unfold tQ
 unfold BA at h
 cases q:e3 e with
 |lc _ _ _ _=>rw[q] at h;exact dv h
 |tup vs k di =>
  rw[q] at h
  cases bA:f5 x with
  |none=>rw[bA] at h;exact (l9 bA).trans (eU (uE h))
  |some bp=>rw[bA] at h;exact (rK bA).trans (l9 (Ul h))
 |_=>rw[q] at h;exact eU (uE h)
noncomputable def Un (fr:a5) (e:PySem.Expr) (args:List PySem.Expr):Bool:=!nM fr e args&&(lR e).isNone
section
variable {R:dR}{n:Nat}{fr:a5}{st:ax}{o l r:PySem.Expr}{nm:Str}{ap pos:Pos}{args:List PySem.Expr}{op:CmpOp}
theorem Uo:pg R n fr (.Call (.Attribute o nm ap) args [] pos) st=(bif baseOk o&&Nat.beq ap.endLine pos.line&&Nat.blt args.length 30 then (R.ev n fr o st).bind fun x=>(kf x.1 nm x.2).bind fun g=>bif calleeOk g.1 then (f7 R n fr args x.2).bind fun z=>R.cl n g.1 (g.2++z.1) z.2 else none else none):=rfl
theorem Up:pg R n fr (.Compare l [op] [r] pos) st=(bif gr r then none else (R.ev n fr l st).bind fun a=>(R.ev n fr r a.2).bind fun b=>(dY op a.1 b.1 b.2).map fun q=>(.bool q.1,q.2)):=rfl
theorem eqT:q9 R n fr (.Compare l [op] [r] pos) st=(bif gr r then none else (R.ev n fr l st).bind fun a=>(R.ev n fr r a.2).bind fun b=>dY op a.1 b.1 b.2):=rfl
end
section
variable {d:Nat}{fr:a5}{H H1 H2 H3 H' : List aj}{v a b:V}{vs:List V}{ls bJ jK:List (Str×V)}{f:cA}{e y z:PySem.Expr}{x:Str}{p pos:Pos}{s:Stmt}{ss t:List Stmt}
theorem ey {v:V}:cA.ret v≠.next:=fun z=>cA.noConfusion z
theorem ab.nil:ab d fr [] H .next fr.ls H:=(Gt.now fun N n s _ _=>rfl:Gt d (fun N n st=>some (cA.next,fr.ls,st)) H _ H).step fun N n s e6 _ q _ _=>q
theorem ab.cons (h:ah d fr s H .next bJ H1) (af:ab d (fr.up bJ) ss H1 f jK H2):ab d fr (s::ss) H f jK H2 :=
 h.then af fun N n s s1 s2 _ aS bf _ _ _=>(bj aS).trans bf
theorem Uq {f:cA}(h:f≠.next):Al f=false:=by cases f <;> first |exact absurd rfl h |rfl
theorem ab.stop (h:ah d fr s H f bJ H1) (hf:f≠.next):ab d fr (s::ss) H f bJ H1 :=
 h.step fun N n s s1 _ aS _ _=>(bj aS).trans (eU (Uq hf))
theorem ab.one (h:ah d fr s H .next bJ H1):ab d fr [s] H .next bJ H1:=ab.cons h ab.nil
theorem ab.ret (h:ah d fr s H (.ret v) bJ H1):ab d fr (s::ss) H (.ret v) bJ H1:=ab.stop h ey
theorem ah.expr (h:ai d fr e H v H1) (aw:mS e=false:=by kernel_rfl):ah d fr (.Expr e p) H .next fr.ls H1:=h.same fun N n s s1 _ aS _ _=>(eU aw).trans (dE aS)
theorem ah.ret (h:ai d fr e H v H1):ah d fr (.Return (some e) p) H (.ret v) fr.ls H1:=h.same fun N n s s1 _ aS _ _=>dE aS
theorem ah.cm (h:GT d fr e H true H1) (af:ab d fr ss H1 f bJ H2):ah d fr (.If e ss t p) H f bJ H2:=h.pE af fun N n s s1 s2 _ aS bf _ _ _=>(bj aS).trans bf
theorem ah.iff (h:GT d fr e H false H1) (af:ab d fr t H1 f bJ H2):ah d fr (.If e ss t p) H f bJ H2:=h.pE af fun N n s s1 s2 _ aS bf _ _ _=>(bj aS).trans bf
theorem ah.assign {x:PySem.Expr}(h:ai d fr e H v H1) (af:bq d fr x v H1 bJ H2) (he:BA x e=true:=by kernel_rfl):ah d fr (.Assign [x] e p) H .next bJ H2 :=
 h.pE af fun N n s s1 s2 _ aS bf _ _ _=>(Um he).trans ((bj aS).trans (dE bf))
theorem ah.while (h:ib d fr e ss H f bJ H1):ah d fr (.While e ss [] p) H f bJ H1:=h.same fun N n s s1 _ aS _ _=>aS
theorem GE.nil:GE d fr [] H [] H:=Gt.now fun N n s _ _=>rfl
theorem GE.cons {aD:List PySem.Expr}(h:ai d fr e H v H1) (af:GE d fr aD H1 vs H2) (ak:isStar e=false:=by kernel_rfl):GE d fr (e::aD) H (v::vs) H2 :=
 h.pE af fun N n s s1 s2 _ aS bf _ _ _=>(eU ak:(bif isStar e then none else _)=_).trans ((bj aS).trans (dE bf))
theorem ai.a0 {o:PySem.Expr}{nm:Str}{ap:Pos}{args:List PySem.Expr}{g:V}{first:List V}(h:ai d fr o H v H1) (hm:kf v nm ⟨H1,True⟩=some (g,first)) (b2:GE d fr args H1 vs H2) (aw:aq d g (first++vs) H2 b H3)
 (cP:calleeOk g=true:=by kernel_rfl) (bt:(baseOk o&&Nat.beq ap.endLine pos.line&&Nat.blt args.length 30)=true:=by kernel_rfl):ai d fr (.Call (.Attribute o nm ap) args [] pos) H b H3 :=
 h.uC b2 aw fun N n s s1 s2 s3 _ aS bf dU _ ao _ _=>Uo.trans ((en bt).trans ((bj aS).trans ((bj (by subst ao;exact hm:kf v nm s1=some (g,first))).trans ((en cP).trans ((bj bf).trans dU)))))
theorem ai.bI {g:V}{args:List PySem.Expr}(h:ai d fr e H g H1) (b2:GE d fr args H1 vs H2) (aw:aq d g vs H2 b H3) (he:Un fr e args=true:=by kernel_rfl) (cP:calleeOk g=true:=by kernel_rfl):ai d fr (.Call e args [] pos) H b H3 :=
 h.uC b2 aw fun N n s s1 s2 s3 _ aS bf dU _ _ _ _=>(eU (uE (Bool.and_eq_true_iff.mp he).1)).trans ((en (b:=([]:List Keyword).isEmpty) rfl).trans ((l9 (Option.isNone_iff_eq_none.mp (Bool.and_eq_true_iff.mp he).2)).trans ((bj aS).trans ((en cP).trans ((bj bf).trans dU)))))
theorem ai.name (h:pb fr x ⟨H,True⟩=some v):ai d fr (.Name x p) H v H :=
 (Gt.now (f:=fun N n st=>(pb fr x st).map (·,st)) fun N n s _ q=>dE (by subst q;exact h:pb fr x s=_)).step fun N n s s1 _ q _ _=>q
theorem ai.attr {o:PySem.Expr}{nm:Str}(h:ai d fr o H v H1) (b2:mU v nm ⟨H1,True⟩=some a) (bt:baseOk o=true:=by kernel_rfl):ai d fr (.Attribute o nm p) H a H1 :=
 h.step fun N n s s1 _ aS _ ao=>(en bt).trans ((bj aS).trans (dE (by subst ao;exact b2:mU v nm s1=_)))
theorem ai.sub {o i:PySem.Expr}(h:ai d fr o H v H1) (af:ai d fr i H1 a H2) (cP:jx v a ⟨H2,True⟩=some b) (he:tG i=none:=by kernel_rfl):ai d fr (.Subscript o i p) H b H2 :=
 h.then af fun N n s s1 s2 _ aS bf _ _ aC=>(l9 he).trans ((bj aS).trans ((bj bf).trans (dE (by subst aC;exact cP:jx v a s2=_))))
theorem ai.cmp {op:CmpOp}{l r:PySem.Expr}{q:Bool}(h:ai d fr l H a H1) (af:ai d fr r H1 b H2) (aw:dY op a b ⟨H2,True⟩=some (q,⟨H2,True⟩)) (ak:gr r=false:=by kernel_rfl):ai d fr (.Compare l [op] [r] p) H (.bool q) H2 :=
 h.then af fun N n s s1 s2 _ aS bf _ _ aC=>(Up (pos:=p)).trans ((eU ak).trans ((bj aS).trans ((bj bf).trans (dE (uD aC aw)))))
theorem GT.cmp {op:CmpOp}{l r:PySem.Expr}{q:Bool}(h:ai d fr l H a H1) (af:ai d fr r H1 b H2) (aw:dY op a b ⟨H2,True⟩=some (q,⟨H2,True⟩)) (ak:gr r=false:=by kernel_rfl):GT d fr (.Compare l [op] [r] p) H q H2 :=
 h.then af fun N n s s1 s2 _ aS bf _ _ aC=>(eqT (pos:=p)).trans ((eU ak).trans ((bj aS).trans ((bj bf).trans (uD aC aw))))
theorem GT.BB {l r:PySem.Expr}(h:GT d fr l H false H1):GT d fr (.BoolOp .And [l,r] p) H false H1 :=
 h.step fun N n s s1 _ aS _ _=>by rw[uB];show Option.bind _ _=_;rw[aS];rfl
theorem GT.BC {l r:PySem.Expr}{q:Bool}(h:GT d fr l H true H1) (af:GT d fr r H1 q H2):GT d fr (.BoolOp .And [l,r] p) H q H2 :=
 h.then af fun N n s s1 s2 _ aS bf _ _ _=>by rw[uB];show Option.bind _ _=_;rw[aS];exact bf
theorem GT.BD {l r:PySem.Expr}(h:GT d fr l H true H1):GT d fr (.BoolOp .Or [l,r] p) H true H1 :=
 h.step fun N n s s1 _ aS _ _=>by rw[uB];show Option.bind _ _=_;rw[aS];rfl
theorem GT.uF {l r:PySem.Expr}{q:Bool}(h:GT d fr l H false H1) (af:GT d fr r H1 q H2):GT d fr (.BoolOp .Or [l,r] p) H q H2 :=
 h.then af fun N n s s1 s2 _ aS bf _ _ _=>by rw[uB];show Option.bind _ _=_;rw[aS];exact bf
theorem ai.cm {t l r:PySem.Expr}(h:GT d fr t H true H1) (af:ai d fr l H1 v H2):ai d fr (.IfExp t l r p) H v H2:=h.then af fun N n s s1 s2 _ aS bf _ _ _=>(bj aS).trans bf
theorem ai.iff {t l r:PySem.Expr}(h:GT d fr t H false H1) (af:ai d fr r H1 v H2):ai d fr (.IfExp t l r p) H v H2:=h.then af fun N n s s1 s2 _ aS bf _ _ _=>(bj aS).trans bf
theorem ai.tup {aD:List PySem.Expr}{k:Nat}(h:GE d fr aD H vs H1) (hl:Nat.blt 100 aD.length=false:=by kernel_rfl):ai d fr (.Tuple aD k p) H (.tup vs) H1:=h.step fun N n s s1 _ aS _ _=>(eU hl).trans (dE aS)
theorem ai.list {aD:List PySem.Expr}(h:GE d fr aD H vs H1) (hl:Nat.blt 100 aD.length=false:=by kernel_rfl):ai d fr (.List aD p) H (.ref H1.length) (H1++[.list vs]):=fun aa o =>
 let ⟨dr,o',x⟩:=h aa o;⟨dr,o',x.step fun N n _ aS=>(eU hl).trans (dE aS)⟩
theorem ai.bin {op:Operator}{l r:PySem.Expr}(h:ai d fr l H a H1) (af:ai d fr r H1 b H2) (aw:∀ s:ax,s.H=H2→q5 op a b s=some (v,s)):ai d fr (.BinOp l op r p) H v H2 :=
 h.then af fun N n s s1 s2 _ aS bf _ _ aC=>(bj aS).trans ((bj bf).trans (aw s2 aC))
theorem bq.name {u:V}(h:gX fr x=some .local):bq d fr (.Name x p) u H (d8 x u fr.ls) H :=
 (Gt.now (f:=fun N n st=>tP (e4 N) n fr (.Name x p) u st) (r:=fun s=>(d8 x u fr.ls,s)) fun N n s _ q=>en (by rw[h];rfl)).step fun N n s s1 _ q _ _=>q
theorem bq.attr {o:PySem.Expr}{nm:Str}{u:V}(h:ai d fr o H v H1) (ak:mV v nm u ⟨H1,True⟩=some ⟨H2,True⟩):bq d fr (.Attribute o nm p) u H fr.ls H2:=fun aa o =>
 let ⟨dr,o',x⟩:=h aa o;⟨dr,o',x.step fun N n _ aS=>(bj aS).trans (dE (Uk (s:=⟨H1,dr⟩) rfl ak))⟩
theorem bq.sub {o i:PySem.Expr}{u:V}(h:ai d fr o H v H1) (af:ai d fr i H1 a H2) (ak:∀ s:ax,s.H=H2→nS v a u s=some ⟨H3,s.aa⟩) (aM:nP i=false:=by kernel_rfl):bq d fr (.Subscript o i p) u H fr.ls H3:=fun aa o =>
 let ⟨e7,fa,x⟩:=h aa o;let ⟨eg,es,y⟩:=af e7 fa;⟨eg,es,(x.and y).step fun N n _ q=>(eU aM).trans ((bj q.1).trans ((bj q.2).trans (dE (ak ⟨H2,eg⟩ rfl))))⟩
end
section
set_option backward.match.sparseCases false
section
variable {d a:Nat}{fi:eS}{args vs:List V}{H H' : List aj}{f:cA}{ls:List (Str×V)}{v:V}
theorem BE {R:dR}{n:Nat}{st:ax}:tU R (n+1) (.obj (.ref a)) args st=(c2 a dF).elim (Ao R n a args st) fun fi=>bI R n fi args st:=rfl
theorem Ho {R:dR}{n:Nat}{st:ax}(h:c2 a dF=some fi):tU R (n+1) (.obj (.ref a)) args st=bI R n fi args st:=BE.trans (rK h)
theorem aq.gen {iC:List Str}{cs H1:List aj}{iJ:List (Str×Nat)}{cN:List (Str×V)}{u:V}(hf:c2 a dF=some fi) (aV:ki fi args=some vs) (aw:ee fi.fd.scope.names=iC) (ru:iC.map (fun x=>aj.cell (look x (fi.ps.zip vs)))=cs) (BF:iC.zip (List.range' H.length iC.length)=iJ) (hl:hL fi.fd.scope.names (fi.ps.zip vs)=cN)
 (h:ab d ⟨fi.fd.scope,iJ,fi.tab,cN⟩ fi.body (tS H cs) f ls H1) (ar:∀ aa,(bif fi.jv then fin H.length (iB f) ⟨H1,aa⟩ else some (iB f,⟨H1,aa⟩))=some (u,⟨H',aa⟩)):aq (d+1) (.obj (.ref a)) args H u H':=fun aa o=>by
 subst aw ru BF hl
 obtain ⟨dr,o',K,x⟩:=h aa o
 exact ⟨dr,o',K+1,fun N n g7 b=>match N,n,g7,b with
  |N+1,n+1,g7,b=>BE.trans ((rK hf).trans ((bj aV).trans ((bj (x N n (Nat.le_of_succ_le_succ g7) (Nat.le_of_succ_le_succ b))).trans (ar dr))))⟩
theorem aq.any (hf:c2 a dF=some fi) (aV:ki fi args=some vs) (aw:ee fi.fd.scope.names=[]) (bZ:fi.jv=false)
 (h:ab d ⟨fi.fd.scope,[],fi.tab,hL fi.fd.scope.names (fi.ps.zip vs)⟩ fi.body H f ls H'):aq (d+1) (.obj (.ref a)) args H (iB f) H':=aq.gen hf aV aw rfl rfl rfl h fun aa=>eU bZ
theorem aq.proc (hf:c2 a dF=some fi) (aV:ki fi args=some vs) (aw:ee fi.fd.scope.names=[]) (bZ:fi.jv=false)
 (h:ab d ⟨fi.fd.scope,[],fi.tab,hL fi.fd.scope.names (fi.ps.zip vs)⟩ fi.body H .next ls H'):aq (d+1) (.obj (.ref a)) args H .none H':=aq.any hf aV aw bZ h
theorem aq.fu {cN:List (Str×V)}(hf:c2 a dF=some fi) (aV:ki fi args=some vs) (aw:ee fi.fd.scope.names=[]) (bZ:fi.jv=false) (hl:hL fi.fd.scope.names (fi.ps.zip vs)=cN)
 (h:ab d ⟨fi.fd.scope,[],fi.tab,cN⟩ fi.body H .next ls H'):aq (d+1) (.obj (.ref a)) args H .none H':=aq.any hf aV aw bZ (hl▸h)
theorem aq.hQ {cN:List (Str×V)}(hf:c2 a dF=some fi) (aV:ki fi args=some vs) (aw:ee fi.fd.scope.names=[]) (bZ:fi.jv=false) (hl:hL fi.fd.scope.names (fi.ps.zip vs)=cN)
 (h:ab d ⟨fi.fd.scope,[],fi.tab,cN⟩ fi.body H (.ret v) ls H'):aq (d+1) (.obj (.ref a)) args H v H':=aq.any hf aV aw bZ (hl▸h)
theorem aq.func (hf:c2 a dF=some fi) (aV:ki fi args=some vs) (aw:ee fi.fd.scope.names=[]) (bZ:fi.jv=false)
 (h:ab d ⟨fi.fd.scope,[],fi.tab,hL fi.fd.scope.names (fi.ps.zip vs)⟩ fi.body H (.ret v) ls H'):aq (d+1) (.obj (.ref a)) args H v H':=aq.any hf aV aw bZ h
end
noncomputable abbrev ma:Str:=⟨⟨[97,103,97,105,110]⟩⟩
noncomputable abbrev Hp:Str:=⟨⟨[97,114,103,117,109,101,110,116,115,95,112,108,97,99,101]⟩⟩
noncomputable abbrev ks:Str:=⟨⟨[98,101,104,105,110,100]⟩⟩
noncomputable abbrev Hq:Str:=⟨⟨[99,97,112,116,117,114,101,115]⟩⟩
noncomputable abbrev jM:Str:=⟨⟨[99,97,117,103,104,116]⟩⟩
noncomputable abbrev gK:Str:=⟨⟨[99,101,108,108]⟩⟩
noncomputable abbrev Hr:Str:=⟨⟨[99,101,108,108,95,99,111,117,110,116]⟩⟩
noncomputable abbrev rL:Str:=⟨⟨[99,111,100,101]⟩⟩
noncomputable abbrev Hs:Str:=⟨⟨[99,111,110,115,116,115]⟩⟩
noncomputable abbrev Ht:Str:=⟨⟨[99,111,110,116,114,111,108,115]⟩⟩
noncomputable abbrev jN:Str:=⟨⟨[100,101,112,116,104]⟩⟩
noncomputable abbrev Ur:Str:=⟨⟨[100,101,112,116,104,115]⟩⟩
noncomputable abbrev pF:Str:=⟨⟨[101]⟩⟩
noncomputable abbrev Hu:Str:=⟨⟨[102,105,110,100]⟩⟩
noncomputable abbrev BG:Str:=⟨⟨[102,117,110,99,116,105,111,110]⟩⟩
noncomputable abbrev rM:Str:=⟨⟨[103,108,111,98,97,108]⟩⟩
noncomputable abbrev Hv:Str:=⟨⟨[104,97,110,100,108,101,114,115]⟩⟩
noncomputable abbrev rN:Str:=⟨⟨[104,101,108,100]⟩⟩
noncomputable abbrev Us:Str:=⟨⟨[105,110,110,101,114,95,117,110,105,116]⟩⟩
noncomputable abbrev Hw:Str:=⟨⟨[105,115,95,99,111,110,115,116,97,110,116]⟩⟩
noncomputable abbrev rO:Str:=⟨⟨[105,115,95,115,116,114,105,99,116]⟩⟩
noncomputable abbrev c3:Str:=⟨⟨[107,105,110,100]⟩⟩
noncomputable abbrev i7:Str:=⟨⟨[108,97,98,101,108,115]⟩⟩
noncomputable abbrev pG:Str:=⟨⟨[108,101,102,116]⟩⟩
noncomputable abbrev eo:Str:=⟨⟨[108,105,110,101]⟩⟩
noncomputable abbrev fF:Str:=⟨⟨[108,105,110,101,115]⟩⟩
noncomputable abbrev pH:Str:=⟨⟨[108,111,99,97,108,95,99,111,117,110,116]⟩⟩
noncomputable abbrev rP:Str:=⟨⟨[109,97,100,101]⟩⟩
noncomputable abbrev eh:Str:=⟨⟨[110,97,109,101]⟩⟩
noncomputable abbrev iK:Str:=⟨⟨[112]⟩⟩
noncomputable abbrev Hx:Str:=⟨⟨[112,97,114,97,109,95,112,108,97,99,101,115]⟩⟩
noncomputable abbrev pI:Str:=⟨⟨[112,97,114,97,109,115]⟩⟩
noncomputable abbrev dV:Str:=⟨⟨[112,97,114,116,115]⟩⟩
noncomputable abbrev jO:Str:=⟨⟨[112,108,97,99,101]⟩⟩
noncomputable abbrev Ut:Str:=⟨⟨[112,108,97,99,101,115]⟩⟩
noncomputable abbrev Hy:Str:=⟨⟨[114,101,115,117,108,116]⟩⟩
noncomputable abbrev g8:Str:=⟨⟨[115,99,111,112,101]⟩⟩
noncomputable abbrev ox:Str:=⟨⟨[115,101,101,110]⟩⟩
noncomputable abbrev bk:Str:=⟨⟨[115,101,108,102]⟩⟩
noncomputable abbrev Hz:Str:=⟨⟨[115,101,108,102,95,115,108,111,116]⟩⟩
noncomputable abbrev rQ:Str:=⟨⟨[115,111,114,116]⟩⟩
noncomputable abbrev rR:Str:=⟨⟨[116]⟩⟩
noncomputable abbrev rS:Str:=⟨⟨[117]⟩⟩
noncomputable abbrev HA:Str:=⟨⟨[117,110,105,116,115]⟩⟩
noncomputable abbrev HB:Str:=⟨⟨[117,115,101,115,95,97,114,103,117,109,101,110,116,115]⟩⟩
noncomputable abbrev HC:Str:=⟨⟨[118]⟩⟩
noncomputable abbrev fG:Str:=⟨⟨[118,105,101,119]⟩⟩
noncomputable abbrev m8:Str:=⟨⟨[119]⟩⟩
noncomputable abbrev dN:Str:=⟨⟨[120]⟩⟩
noncomputable def bQ (l:List Stmt) (i:Nat):Stmt:=(l[i]?).getD (.Pass default)
noncomputable def rT (l:List PySem.Expr) (i:Nat):PySem.Expr:=(l[i]?).getD default
noncomputable def eJ:Stmt→PySem.Expr
 |.If e _ _ _=>e
 |.Assign _ e _=>e
 |.Expr e _=>e
 |.For _ e _ _ _=>e
 |.While e _ _ _=>e
 |.Return (some e) _=>e
 |_=>default
noncomputable def sB:Stmt→List Stmt
 |.If _ b _ _=>b
 |.For _ _ b _ _=>b
 |.While _ b _ _=>b
 |_=>[]
noncomputable def HD:Stmt→PySem.Expr×Pos
 |.For t _ _ _ p=>(t,p)
 |_=>default
noncomputable def m9 (e:PySem.Expr):List PySem.Expr:=(e3 e).wF.elim ((f5 e).getD []) fun y=>y.2.1
noncomputable def hK.BH:hK→Option (PySem.Expr×List Comprehension×Scope)
 |.lc e g s _=>some (e,g,s)
 |_=>none
noncomputable def HE (e:PySem.Expr):Option Comprehension:=(e3 e).BH.bind fun y=>kc y.2.1
noncomputable def HF (e:PySem.Expr):Scope:=((e3 e).BH.map fun y=>y.2.2).getD default
noncomputable def HG (e:PySem.Expr):PySem.Expr:=((e3 e).BH.map fun y=>y.1).getD default
noncomputable def BI (e:PySem.Expr):PySem.Expr:=((HE e).map fun g=>g.target).getD default
noncomputable def Uu (e:PySem.Expr):PySem.Expr:=((HE e).bind fun g=>kc g.ifs).getD default
noncomputable def Uv:PySem.Expr→Option (Arguments×PySem.Expr×Scope×Pos)
 |.Lambda a b c d=>some (a,b,c,d)
 |_=>none
noncomputable def nc (l:List Stmt) (i:Nat):V:=match l[i]? with
 |some (.Assign _ (.Lambda ps body sc _) _)=>.lam ps body sc
 |_=>.none
noncomputable def ei:V:=.fin 853 [(c3,.str ⟨⟨[118,105,101,119]⟩⟩),(eo,.int 0),(dV,.aO []),(g8,.none),(pI,.aO []),(rO,.bool false),(pH,.int 0),(rQ,.str BG),
 (Hu,nc gF.1 2),(Hw,nc gF.1 3),(jM,.fin 853 [(c3,.str jM),(eo,.int 0),(dV,.aO []),(g8,.none),(jO,.tup [.str gK,.int 3])])]
noncomputable def rU:V:=nc fC.1 4
structure au where
 aN:List V
 fv:List V
 ln:Int
 con:List V
 d1:List V
 ag:List V
 bH:List V
 dep:V
 bB:List V
structure Pre where
 bz:aj
 gc:aj
 ic:aj
 HH:aj
 HI:aj
 HJ:aj
 HK:aj
 HL:aj
 HM:aj
noncomputable def mk (P:Pre) (S:au) (T:List aj):List aj :=
 P.bz::P.gc::P.ic::P.HH::P.HI::P.HJ::P.HK::P.HL::P.HM ::
 .inst 834 [(g8,ei),(fG,ei),(rL,.ref 11),(Ht,.ref 22),(pH,.int 0),(Hy,.none),(Us,rU)] ::
 .list []::.inst 413 [(rP,.ref 12),(jN,S.dep),(Ur,.ref 21)] ::
 .inst 307 [(eh,.str dN),(pI,.ref 10),(rO,.bool false),(rL,.ref 13),(fF,.ref 14),(eo,.int S.ln),(Hs,.ref 15),(HA,.ref 16),(Ut,.ref 17),(Hv,.ref 18),(pH,.int 0),(Hr,.int 0),(Hq,.ref 19),(HB,.bool false),(Hz,.none),(Hp,.none),(Hx,.ref 20)] ::
 .list S.aN::.list S.fv::.list S.con::.list S.d1::.list S.ag::.list S.bH::.list []::.list []::.list S.bB::T
noncomputable abbrev eO (op:Int) (a:V):V:=.tup [.int op,a]
noncomputable def au.aP (S:au):Nat:=S.aN.length+S.fv.length+S.con.length+S.d1.length+S.ag.length+S.bH.length+S.bB.length
noncomputable def au.emit (S:au) (op:Int) (a:V):au:={S with aN:=S.aN++[eO op a],fv:=S.fv++[.int S.ln]}
noncomputable def au.cI (S:au) (v:V):au:={S with dep:=v}
noncomputable def au.ay (S:au):au:={S with bB:=S.bB++[.none],ag:=S.ag++[.int (-1)]}
noncomputable def au.meet (S:au) (l:Nat) (d:Int):au:={S with bB:=S.bB.set l (.int d)}
noncomputable def au.put (S:au) (l:Nat):au:={S with ag:=S.ag.set l (.int S.aN.length)}
section
variable {P:Pre}{S:au}{T:List aj}{d:Int}{l:Int}{a v:V}
theorem au.lt {S:au}(h:S.aP<aL):S.aN.length<aL∧S.fv.length<aL∧S.con.length<aL∧S.d1.length<aL∧S.ag.length<aL∧S.bH.length<aL∧S.bB.length<aL:=by
 have k:∀{a b c:Nat},a+b<c→a<c∧b<c:=fun h=>⟨Nat.lt_of_le_of_lt (Nat.le_add_right _ _) h,Nat.lt_of_le_of_lt (Nat.le_add_left _ _) h⟩
 let ⟨h,Uw⟩:=k h;let ⟨h,AX⟩:=k h;let ⟨h,px⟩:=k h;let ⟨h,l5⟩:=k h;let ⟨h,l4⟩:=k h;let ⟨df,eI⟩:=k h
 exact ⟨df,eI,l4,l5,px,AX,Uw⟩
theorem xF {α:Type}(l:List α) (x:α):(((l++[x]).length:Nat):Int) - 1=l.length:=by simp
theorem Ux {op:Int}(h:S.aP<aL):aq 2 (.obj (.ref 220)) [.ref 12,.int op,a] (mk P S T) (.int S.aN.length) (mk P (S.emit op a) T):=by
 have z:aq 2 (.obj (.ref 220)) [.ref 12,.int op,a] (mk P S T) (.int ((S.aN++[eO op a]).length - 1)) (mk P (S.emit op a) T) :=
  Gt.k9 20 (fun aa=>(aa∧S.aN.length<aL)∧S.fv.length<aL) (fun N n aa=>by kernel_rfl) fun aa o=>⟨⟨o,(au.lt h).1⟩,(au.lt h).2.1⟩
 rwa [xF] at z
theorem BJ:aq 2 (.obj (.ref 212)) [.ref 12] (mk P S T) (.int S.aN.length) (mk P S T):=Gt.run 20 fun N n aa=>by kernel_rfl
theorem pJ (h:S.aP<aL):aq 3 (.obj (.ref 353)) [.ref 11] (mk P S T) (.int S.ag.length) (mk P S.ay T):=by
 have z:aq 3 (.obj (.ref 353)) [.ref 11] (mk P S T) (.int ((S.ag++[V.int (-1)]).length - 1)) (mk P S.ay T) :=
  Gt.k9 30 (fun aa=>(aa∧S.bB.length<aL)∧S.ag.length<aL) (fun N n aa=>by kernel_rfl) fun aa o=>⟨⟨o,(au.lt h).2.2.2.2.2.2⟩,(au.lt h).2.2.2.2.1⟩
 rwa [xF] at z
theorem Uy (h:S.dep=.int d):aq 1 (.obj (.ref 339)) [.ref 11] (mk P S T) (.bool true) (mk P S T):=by
 obtain ⟨_,_,_,_,_,_,_,_,_⟩:=S;cases h;exact Gt.run 20 fun N n aa=>by kernel_rfl
theorem Uz (h:S.dep=.none):aq 1 (.obj (.ref 339)) [.ref 11] (mk P S T) (.bool false) (mk P S T):=by
 obtain ⟨_,_,_,_,_,_,_,_,_⟩:=S;cases h;exact Gt.run 20 fun N n aa=>by kernel_rfl
noncomputable def gw (op t q:Int):Prop:=∀(N n:Nat) (aa:Prop) (P:Pre) (S:au) (T:List aj) (d:Int) (a:V),(e4 (N+40)).cl (n+4) (.obj (.ref 368)) [.ref 11,.int op,a] ⟨mk P {S with dep:=.int d} T,aa⟩=some (.none,⟨mk P ((S.emit op a).cI (.int (d - t+q))) T,(aa∧S.aN.length<aL)∧S.fv.length<aL⟩)
theorem BK {op t q:Int}(r:gw op t q) (hd:S.dep=.int d) (h:S.aP<aL):aq 4 (.obj (.ref 368)) [.ref 11,.int op,a] (mk P S T) .none (mk P ((S.emit op a).cI (.int (d - t+q))) T):=by
 obtain ⟨_,_,_,_,_,_,_,_,_⟩:=S;cases hd
 exact Gt.k9 40 (fun aa=>(aa∧_)∧_) (fun N n aa=>r N n aa P ⟨_,_,_,_,_,_,_,.none,_⟩ T d a) fun aa o=>⟨⟨o,(au.lt h).1⟩,(au.lt h).2.1⟩
theorem UA {op t q:Int}(r:gw op t q) (hd:S.dep=.int d) (h:S.aP<aL):aq 4 (.obj (.ref 368)) [.ref 11,.int op] (mk P S T) .none (mk P ((S.emit op .none).cI (.int (d - t+q))) T):=by
 obtain ⟨_,_,_,_,_,_,_,_,_⟩:=S;cases hd
 exact Gt.k9 40 (fun aa=>(aa∧_)∧_) (fun N n aa=>r N n aa P ⟨_,_,_,_,_,_,_,.none,_⟩ T d .none) fun aa o=>⟨⟨o,(au.lt h).1⟩,(au.lt h).2.1⟩
theorem UB:gw 6 1 0:=fun N n aa P S T d a=>by kernel_rfl
end
end
section
variable {α:Type}{d:Nat}{f:Nat→Nat→ax→Option α}{H H' : List aj}{r:ax→α}
noncomputable def HN (f:Nat→Nat→ax→Option α) (d:Nat) (H:List aj):Nat→Nat→Prop→Option α:=fun N n aa=>f (N+16) (n+d) ⟨H,aa⟩
noncomputable def HO (r:ax→α) (H:List aj):Nat→Nat→Prop→Option α:=fun _ _ aa=>some (r ⟨H,aa⟩)
theorem ie (h:HN f d H=HO r H':=by kernel_rfl):Gt d f H r H':=Gt.run 16 fun N n aa=>congrFun (congrFun (congrFun h N) n) aa
theorem I (h:HN f d H=HO r H:=by kernel_rfl):Gt d f H r H:=ie h
theorem HP {j n:Nat}:idx (j:Int) n=some j:=by
 unfold idx
 rw[decide_eq_true (Int.natCast_nonneg j)];rfl
theorem mb {r j:Nat}{vs:List V}{v:V}(jI:H[r]?=some (.list vs)) (aV:vs[j]?=some v):jx (.ref r) (.int j) ⟨H,True⟩=some v :=
 (bj (congrArg dA jI)).trans ((bj (HP (n:=vs.length))).trans aV)
theorem rV {j:Nat}{vs:List V}{v:V}(aV:vs[j]?=some v):jx (.aO vs) (.int j) ⟨H,True⟩=some v:=(bj (HP (n:=vs.length))).trans aV
theorem xG {r j:Nat}{vs:List V}{v x:V}(jI:H[r]?=some (.list vs)) (aV:vs[j]?=some v):∀ s:ax,s.H=H→nS (.ref r) (.int j) x s=some ⟨H.set r (.list (vs.set j x)),s.aa⟩:=fun s e=>by
 subst e
 exact (bj (congrArg dA jI)).trans ((en (decide_eq_true (Int.natCast_nonneg j))).trans (dE aV))
end
section
variable {d:Nat}{fr:a5}{H H1 H2 H3:List aj}{v u:V}{ls bJ jK:List (Str×V)}{f:cA}{e t it:PySem.Expr}{p:Pos}{body:List Stmt}{src:Src}{k:Nat}
theorem cV.done (h:itemAt src k H=some none) (bT:i0 src t=true):cV d fr t src k body H .next fr.ls H :=
 (Gt.now (f:=fun N n st=>Am (e4 N) n fr t src k body st) (r:=fun s=>(cA.next,fr.ls,s)) fun N n s _ q=>by
  subst q;exact (en bT).trans (bj h)).step fun N n s s1 _ q _ _=>q
theorem cV.step (h:itemAt src k H=some (some v)) (bT:i0 src t=true) (h1:bq d fr t v H ls H1) (af:ab d (fr.up ls) body H1 .next bJ H2) (aB:cV d (fr.up bJ) t src (k+1) body H2 f jK H3):cV d fr t src k body H f jK H3 :=
 h1.uC af aB fun N n s s1 s2 s3 _ aS bf dU dn _ _ _=>by
  subst dn
  exact (en bT).trans ((bj h).trans ((bj aS).trans ((bj bf).trans dU)))
theorem cV.out (h:itemAt src k H=some (some v)) (bT:i0 src t=true) (h1:bq d fr t v H ls H1) (af:ab d (fr.up ls) body H1 (.ret u) bJ H2):cV d fr t src k body H (.ret u) bJ H2 :=
 h1.then af fun N n s s1 s2 _ aS bf dn _ _=>by
  subst dn
  exact (en bT).trans ((bj h).trans ((bj aS).trans (bj bf)))
noncomputable def HQ (fr:a5) (it:PySem.Expr):Bool:=!gr it&&(Ak fr it).isNone
theorem UC {R:dR}{n:Nat}{st:ax}(h:HQ fr it=true):rb R n fr (.For t it body [] p) st=(R.ev n fr it st).bind fun x=>(srcOf x.1 x.2).bind fun src=>R.jw n fr t src 0 body x.2 :=
 (l9 (Option.isNone_iff_eq_none.mp (Bool.and_eq_true_iff.mp h).2)).trans (eU (uE (Bool.and_eq_true_iff.mp h).1))
theorem ah.for (h:ai d fr it H v H1) (ak:srcOf v ⟨H1,True⟩=some src) (af:cV d fr t src 0 body H1 f ls H2) (he:HQ fr it=true:=by kernel_rfl):ah d fr (.For t it body [] p) H f ls H2 :=
 h.pE af fun N n s s1 s2 _ aS bf _ ao _=>(UC he).trans ((bj aS).trans ((bj (by subst ao;exact ak:srcOf v s1=some src)).trans bf))
theorem ah.BL {ce:PySem.Expr}{dz:Pos}(h:ai d fr e H v H1) (ak:tM v ⟨H1,True⟩=some src) (af:cV d fr t src 0 body H1 f ls H2)
 (he:Ak fr (.Call ce [e] [] dz)=some e:=by kernel_rfl):ah d fr (.For t (.Call ce [e] [] dz) body [] p) H f ls H2 :=
 h.pE af fun N n s s1 s2 _ aS bf _ ao _=>(rK he).trans ((bj aS).trans ((bj (by subst ao;exact ak:tM v s1=some src)).trans bf))
end
section
variable {P:Pre}{S:au}{T:List aj}{d:Int}{l:Nat}{a v:V}
theorem HR:(mk P S T)[15]?=some (.list S.con):=rfl
theorem xH:(mk P S T)[17]?=some (.list S.ag):=rfl
theorem pK:(mk P S T)[21]?=some (.list S.bB):=rfl
theorem HS (h:S.ag[l]?=some (.int (-1))):aq 4 (.obj (.ref 234)) [.ref 12,.int l] (mk P S T) .none (mk P (S.put l) T) :=
 aq.proc (a:=234) (fi:=⟨vR,_,_,D4.1,none,false⟩) rfl rfl (by kernel_rfl) rfl <|
 ab.cons (ah.iff (GT.cmp (ai.sub I I (mb xH h)) (b:=.int 0) I rfl) ab.nil) <|
 ab.one (ah.assign (ai.a0 (v:=.ref 12) I rfl GE.nil (BJ.mono (by omega))) (bq.sub I I (xG xH h)))
theorem HT (h:S.bB[l]?=some .none):aq 2 (.obj (.ref 360)) [.ref 11,.int l,.int d] (mk P S T) .none (mk P (S.meet l d) T) :=
 aq.proc (a:=360) (fi:=⟨tf,_,_,zS.1,none,false⟩) rfl rfl (by kernel_rfl) rfl <|
 ab.cons (ah.iff (GT.BB (GT.cmp (ai.sub I I (mb pK h)) (b:=.none) I rfl)) ab.nil) <|
 ab.one (ah.assign (v:=.int d) I (bq.sub I I (xG pK h)))
theorem UD {H:List aj}:dY .NotEq (.int d) (.int d) ⟨H,True⟩=some (false,⟨H,True⟩):=dE (dE (congrArg some (decide_eq_true rfl)))
theorem UE (h:S.bB[l]?=some (.int d)):aq 2 (.obj (.ref 360)) [.ref 11,.int l,.int d] (mk P S T) .none (mk P (S.meet l d) T) :=
 aq.proc (a:=360) (fi:=⟨tf,_,_,zS.1,none,false⟩) rfl rfl (by kernel_rfl) rfl <|
 ab.cons (ah.iff (GT.BC (GT.cmp (ai.sub I I (mb pK h)) (b:=.none) I rfl) (GT.cmp (ai.sub I I (mb pK h)) (b:=.int d) I UD)) ab.nil) <|
 ab.one (ah.assign (v:=.int d) I (bq.sub I I (xG pK h)))
noncomputable def au.fits (S:au) (l:Nat) (d:Int):Prop:=S.bB[l]?=some .none∨S.bB[l]?=some (.int d)
theorem xI (h:S.fits l d):aq 2 (.obj (.ref 360)) [.ref 11,.int l,.int d] (mk P S T) .none (mk P (S.meet l d) T):=h.elim HT UE
theorem HU (h:S.fits l d):(S.meet l d).bB[l]?=some (.int d):=by
 have:l<S.bB.length:=h.elim (fun h=>(List.getElem?_eq_some_iff.mp h).1) fun h=>(List.getElem?_eq_some_iff.mp h).1
 unfold au.meet
 dsimp only
 rw[List.getElem?_set_self this]
theorem BM (hd:S.dep=.none) (h:S.ag[l]?=some (.int (-1))) (af:S.bB[l]?=some v):aq 5 (.obj (.ref 396)) [.ref 11,.int l] (mk P S T) .none (mk P ((S.put l).cI v) T):=by
 obtain ⟨aN,fv,ln,con,d1,ag,bH,dep,bB⟩:=S;cases hd
 exact aq.proc (a:=396) (fi:=⟨tg,_,_,zT.1,none,false⟩) rfl rfl (by kernel_rfl) rfl <|
  ab.cons (ah.iff (GT.cmp (a:=.none) (b:=.none) I I rfl) ab.nil) <|
  ab.cons (ah.expr (ai.a0 (v:=.ref 12) I rfl (vs:=[.int l]) I (HS h))) <|
  ab.one (ah.assign (ai.sub I I (mb pK af)) (bq.attr (v:=.ref 11) I (by kernel_rfl)))
theorem HV (hd:S.dep=.int d) (h:S.ag[l]?=some (.int (-1))) (af:S.fits l d):aq 5 (.obj (.ref 396)) [.ref 11,.int l] (mk P S T) .none (mk P ((S.meet l d).put l) T):=by
 obtain ⟨aN,fv,ln,con,d1,ag,bH,dep,bB⟩:=S;cases hd
 exact aq.proc (a:=396) (fi:=⟨tg,_,_,zT.1,none,false⟩) rfl rfl (by kernel_rfl) rfl <|
  ab.cons (ah.cm (GT.cmp (a:=.int d) (b:=.none) I I rfl) (ab.one (ah.expr (ai.a0 (v:=.ref 11) I rfl (vs:=[.int l,.int d]) I ((xI af).mono (by omega)))))) <|
  ab.cons (ah.expr (ai.a0 (v:=.ref 12) I rfl (vs:=[.int l]) I (HS h))) <|
  ab.one (ah.assign (ai.sub I I (mb pK (HU af))) (bq.attr (v:=.ref 11) I (by kernel_rfl)))
theorem BN {op:Int}(h:S.aP<aL):aq 3 (.obj (.ref 241)) [.ref 12,.int op,.int l] (mk P S T) (.int S.aN.length) (mk P (S.emit op (.int l)) T) :=
 aq.func (a:=241) (fi:=⟨vS,_,_,D5.1,none,false⟩) rfl rfl (by kernel_rfl) rfl <|
 ab.ret (ah.ret (ai.a0 (v:=.ref 12) I rfl (vs:=[.int op,.int l]) I (Ux h)))
theorem UG {op:Int}(hd:S.dep=.none):aq 5 (.obj (.ref 389)) [.ref 11,.int op,.int l] (mk P S T) .none (mk P S T):=by
 obtain ⟨aN,fv,ln,con,d1,ag,bH,dep,bB⟩:=S;cases hd
 exact I
end
section
set_option backward.match.sparseCases false
section
variable {d:Nat}{fr:a5}{H H1 H2:List aj}{q:Bool}{e:PySem.Expr}
theorem GT.val (h:ai d fr e H (.bool q) H1) (he:wq e=true:=by kernel_rfl):GT d fr e H q H1 :=
 h.step fun N n s s1 _ aS _ _=>by
  have:q9 (e4 N) n fr e s=((e4 N).ev n fr e s).bind fun x=>(pa x.1).map fun b=>(b,x.2):=by cases e <;> first |rfl |cases he
  rw[uB,this,aS];rfl
end
section
variable {P:Pre}{S:au}{T:List aj}{d:Int}{l:Nat}{a v:V}
theorem UH (hd:S.dep=.int d) (h:S.fits l d) (ak:S.aP<aL):aq 5 (.obj (.ref 389)) [.ref 11,.int 58,.int l] (mk P S T) .none (mk P (((S.meet l d).emit 58 (.int l)).cI .none) T):=by
 have uG:(S.meet l d).aP<aL:=by unfold au.aP au.meet at *;simpa using ak
 obtain ⟨aN,fv,ln,con,d1,ag,bH,dep,bB⟩:=S;cases hd
 exact aq.proc (a:=389) (fi:=⟨qI,_,_,vW.1,none,false⟩) rfl rfl (by kernel_rfl) rfl <|
  ab.one (ah.cm (GT.cmp (a:=.int d) (b:=.none) I I rfl) <|
  ab.cons (ah.expr (ai.a0 (v:=.ref 11) I rfl (vs:=[.int l,.int d]) I ((xI h).mono (by omega)))) <|
  ab.cons (ah.expr (ai.a0 (v:=.ref 12) I rfl (vs:=[.int 58,.int l]) I ((BN uG).mono (by omega)))) <|
  ab.one (ah.assign (v:=.none) I (bq.attr (v:=.ref 11) I (by kernel_rfl))))
theorem UI (hd:S.dep=.int d) (h:S.fits l (d - 1)) (ak:S.aP<aL):aq 5 (.obj (.ref 389)) [.ref 11,.int 59,.int l] (mk P S T) .none (mk P (((S.meet l (d - 1)).emit 59 (.int l)).cI (.int (d - 1+0))) T):=by
 have uG:(S.meet l (d - 1)).aP<aL:=by unfold au.aP au.meet at *;simpa using ak
 obtain ⟨aN,fv,ln,con,d1,ag,bH,dep,bB⟩:=S;cases hd
 exact aq.proc (a:=389) (fi:=⟨qI,_,_,vW.1,none,false⟩) rfl rfl (by kernel_rfl) rfl <|
  ab.one (ah.cm (GT.cmp (a:=.int d) (b:=.none) I I rfl) <|
  ab.cons (ah.expr (ai.a0 (v:=.ref 11) I rfl (vs:=[.int l,.int (d - 1)]) I ((xI h).mono (by omega)))) <|
  ab.cons (ah.expr (ai.a0 (v:=.ref 12) I rfl (vs:=[.int 59,.int l]) I ((BN uG).mono (by omega)))) <|
  ab.one (ah.assign (v:=.int (d - 1+0)) I (bq.attr (v:=.ref 11) I (by kernel_rfl))))
theorem UJ (hd:S.dep=.int d) (h:S.fits l d) (ak:S.aP<aL):aq 5 (.obj (.ref 389)) [.ref 11,.int 77,.int l] (mk P S T) .none (mk P (((S.meet l d).emit 77 (.int l)).cI (.int (d - 1+2))) T):=by
 have uG:(S.meet l d).aP<aL:=by unfold au.aP au.meet at *;simpa using ak
 obtain ⟨aN,fv,ln,con,d1,ag,bH,dep,bB⟩:=S;cases hd
 exact aq.proc (a:=389) (fi:=⟨qI,_,_,vW.1,none,false⟩) rfl rfl (by kernel_rfl) rfl <|
  ab.one (ah.cm (GT.cmp (a:=.int d) (b:=.none) I I rfl) <|
  ab.cons (ah.expr (ai.a0 (v:=.ref 11) I rfl (vs:=[.int l,.int d]) I ((xI h).mono (by omega)))) <|
  ab.cons (ah.expr (ai.a0 (v:=.ref 12) I rfl (vs:=[.int 77,.int l]) I ((BN uG).mono (by omega)))) <|
  ab.one (ah.assign (v:=.int (d - 1+2)) I (bq.attr (v:=.ref 11) I (by kernel_rfl))))
noncomputable def g9:V→Bool
 |.str _=>true
 |.int _=>true
 |_=>false
noncomputable def oy:V→V→Bool
 |.str a,.str b=>seq a b
 |.int a,.int b=>decide (a=b)
 |_,_=>false
noncomputable def ht (v:V):List V→Nat
 |[]=>0
 |k::r=>match oy k v with
  |true=>0
  |false=>ht v r+1
noncomputable def ku (v:V):List V→Bool
 |[]=>false
 |k::r=>match oy k v with
  |true=>true
  |false=>ku v r
theorem UK {k v:V}{H:List aj}(h1:g9 k=true) (af:g9 v=true):aq 2 (.obj (.ref 191)) [k,v] H (.bool (oy k v)) H:=by
 cases k <;> cases h1 <;> cases v <;> cases af <;> exact I
noncomputable abbrev fc:Str:=⟨⟨[97,116]⟩⟩
noncomputable abbrev rW:Str:=⟨⟨[107,110,111,119,110]⟩⟩
noncomputable abbrev dw:Str:=⟨⟨[118,97,108,117,101]⟩⟩
noncomputable def ha (l:List Stmt):PySem.Expr:=(HD (bQ l 0)).1
noncomputable def d2 (l:List Stmt):List Stmt:=sB (bQ l 0)
theorem HW {r k:Nat}{H:List aj}:itemAt (.iZ (.ref r)) k H=(dA H[r]?).map fun vs=>(vs[k]?).map fun x=>.tup [.int k,x]:=rfl
theorem HX (aV:g9 v=true):∀(r pre:List V) (ls:List (Str×V)),S.con=pre++r→(∀ x∈r,g9 x=true)→(ls=[(bk,.ref 12),(dw,v)]∨∃ a b,ls=[(bk,.ref 12),(dw,v),(fc,a),(rW,b)]) →
 ∃ bM,(bM=[(bk,.ref 12),(dw,v)]∨∃ a b,bM=[(bk,.ref 12),(dw,v),(fc,a),(rW,b)])∧cV 3 ⟨kT.scope,[],none,ls⟩ (ha kU.1) (.iZ (.ref 15)) pre.length (d2 kU.1) (mk P S T)
  (match ku v r with |true=>.ret (.int (pre.length+ht v r:Nat)) |false=>.next) bM (mk P S T)
 |[],pre,ls,e,_,hl=>⟨ls,hl,cV.done (by rw[HW,dE (congrArg dA HR),e];simp) (by kernel_rfl)⟩
 |k::r,pre,ls,e,bR,hl=>by
  have it:itemAt (.iZ (.ref 15)) pre.length (mk P S T)=some (some (.tup [.int pre.length,k])) :=
   by rw[HW,dE (congrArg dA HR),e];simp
  have ga:bq 3 ⟨kT.scope,[],none,ls⟩ (ha kU.1) (.tup [.int pre.length,k]) (mk P S T) [(bk,.ref 12),(dw,v),(fc,.int pre.length),(rW,k)] (mk P S T):=by
   rcases hl with rfl |⟨a,b,rfl⟩
   ·exact I
   ·exact I
  have test:∀ q,oy k v=q→GT 3 ⟨kT.scope,[],none,[(bk,.ref 12),(dw,v),(fc,.int pre.length),(rW,k)]⟩ (eJ (bQ (d2 kU.1) 0)) (mk P S T) q (mk P S T):=fun q dk =>
   GT.val (dk▸ai.bI (vs:=[k,v]) I I ((UK (bR k (.head _)) aV).mono (by omega)))
  cases dk:oy k v with
  |true =>
   have:=cV.out (fr:=⟨kT.scope,[],none,ls⟩) (t:=ha kU.1) (body:=d2 kU.1) (u:=.int pre.length) it (by kernel_rfl) ga (ab.stop (ah.cm (test _ dk) (ab.ret (ah.ret I))) ey)
   refine ⟨[(bk,.ref 12),(dw,v),(fc,.int pre.length),(rW,k)],.inr ⟨_,_,rfl⟩,?_⟩
   simp only[ku,ht,dk]
   exact this
  |false =>
   obtain ⟨bM,k2,g⟩:=HX aV r (pre++[k]) [(bk,.ref 12),(dw,v),(fc,.int pre.length),(rW,k)] (by simp[e]) (fun x m=>bR x (.tail _ m)) (.inr ⟨_,_,rfl⟩)
   refine ⟨bM,k2,?_⟩
   have g2:=cV.step (fr:=⟨kT.scope,[],none,ls⟩) (t:=ha kU.1) (body:=d2 kU.1) it (by kernel_rfl) ga (ab.one (ah.iff (test _ dk) ab.nil)) (by rw[List.length_append,List.length_singleton] at g;exact g)
   simp only[ku,ht,dk]
   rw[show pre.length+(ht v r+1)=pre.length+1+ht v r by omega]
   exact g2
noncomputable def au.cst (S:au) (v:V):au:=match ku v S.con with
 |true=>S
 |false=>{S with con:=S.con++[v]}
theorem BO {v:V}:∀{l:List V},ku v l=false→ht v l=l.length
 |[],_=>rfl
 |k::r,h=>by
  simp only[ku] at h
  simp only[ht]
  cases q:oy k v with
  |true=>rw[q] at h;cases h
  |false=>rw[q] at h;simp only[List.length_cons];rw[BO h]
theorem HY (aV:g9 v=true) (aw:∀ x∈S.con,g9 x=true) (ak:S.aP<aL):aq 4 (.obj (.ref 248)) [.ref 12,v] (mk P S T) (.int (ht v S.con:Nat)) (mk P (S.cst v) T):=by
 obtain ⟨bM,k2,g⟩:=HX (P:=P) (S:=S) (T:=T) aV S.con [] [(bk,.ref 12),(dw,v)] rfl aw (.inl rfl)
 have dn:hL kT.scope.names ([⟨⟨[115,101,108,102]⟩⟩,⟨⟨[118,97,108,117,101]⟩⟩].zip [.ref 12,v])=[(bk,.ref 12),(dw,v)]:=by kernel_rfl
 cases q:ku v S.con with
 |true =>
  rw[q] at g
  have e:S.cst v=S:=by unfold au.cst;rw[q]
  rw[e]
  refine aq.func (a:=248) (fi:=⟨kT,[⟨⟨[115,101,108,102]⟩⟩,⟨⟨[118,97,108,117,101]⟩⟩],[],kU.1,none,false⟩) (vs:=[.ref 12,v]) (ls:=bM) (by kernel_rfl) rfl (by kernel_rfl) rfl ?_
  dsimp only
  rw[dn]
  simp only[List.length_nil,Nat.zero_add] at g
  exact ab.stop (ah.BL (v:=.ref 15) I (src:=.iZ (.ref 15)) rfl g) ey
 |false =>
  rw[q] at g
  have e:S.cst v={S with con:=S.con++[v]}:=by unfold au.cst;rw[q]
  rw[e,BO q,←xF S.con v]
  refine aq.func (a:=248) (fi:=⟨kT,[⟨⟨[115,101,108,102]⟩⟩,⟨⟨[118,97,108,117,101]⟩⟩],[],kU.1,none,false⟩) (vs:=[.ref 12,v]) (ls:=bM) (by kernel_rfl) rfl (by kernel_rfl) rfl ?_
  dsimp only
  rw[dn]
  refine ab.cons (ah.BL (v:=.ref 15) I (src:=.iZ (.ref 15)) rfl g) ?_
  rcases k2 with rfl |⟨a,b,rfl⟩
  ·exact Gt.k9 20 (fun aa=>aa∧S.con.length<aL) (fun N n aa=>by kernel_rfl) fun aa o=>⟨o,(au.lt ak).2.2.1⟩
  ·exact Gt.k9 20 (fun aa=>aa∧S.con.length<aL) (fun N n aa=>by kernel_rfl) fun aa o=>⟨o,(au.lt ak).2.2.1⟩
end
end
section
variable {P:Pre}{S:au}{T:List aj}{d e:Int}{l:Nat}{a v:V}
theorem HZ:(S.cst v).aP≤S.aP+1:=by
 unfold au.cst
 split
 ·omega
 ·unfold au.aP;simp;omega
theorem pL:(S.cst v).dep=S.dep:=by unfold au.cst;split <;> rfl
theorem UL {op t q:Int}(r:gw op t q) (hd:S.dep=.int d) (aV:g9 v=true) (aw:∀ x∈S.con,g9 x=true) (ak:S.aP+1<aL) :
 aq 5 (.obj (.ref 382)) [.ref 11,.int op,v] (mk P S T) .none (mk P (((S.cst v).emit op (.int (ht v S.con:Nat))).cI (.int (d - t+q))) T):=by
 have af:(S.cst v).aP<aL:=Nat.lt_of_le_of_lt HZ ak
 have aB:(S.cst v).dep=.int d:=pL.trans hd
 have c:=HY (P:=P) (T:=T) aV aw (by omega)
 have ad:=BK (P:=P) (T:=T) (a:=.int (ht v S.con:Nat)) r aB af
 obtain ⟨aN,fv,ln,con,d1,ag,bH,dep,bB⟩:=S;cases hd
 exact aq.proc (a:=382) (fi:=⟨vV,_,_,D9.1,none,false⟩) rfl rfl (by kernel_rfl) rfl <|
  ab.one (ah.cm (GT.cmp (a:=.int d) (b:=.none) I I rfl) <|
  ab.one (ah.expr (ai.a0 (v:=.ref 11) I rfl (GE.cons (v:=.int op) I (GE.cons (ai.a0 (v:=.ref 12) I rfl (vs:=[v]) I c) GE.nil)) ad)))
theorem UM (r:gw 4 0 1) (hd:S.dep=.int d) (aV:g9 v=true) (aw:∀ x∈S.con,g9 x=true) (ak:S.aP+1<aL) :
 aq 5 (.obj (.ref 375)) [.ref 11,v] (mk P S T) .none (mk P (((S.cst v).emit 4 (.int (ht v S.con:Nat))).cI (.int (d - 0+1))) T):=by
 have af:(S.cst v).aP<aL:=Nat.lt_of_le_of_lt HZ ak
 have aB:(S.cst v).dep=.int d:=pL.trans hd
 have c:=HY (P:=P) (T:=T) aV aw (by omega)
 have ad:=BK (P:=P) (T:=T) (a:=.int (ht v S.con:Nat)) r aB af
 obtain ⟨aN,fv,ln,con,d1,ag,bH,dep,bB⟩:=S;cases hd
 exact aq.proc (a:=375) (fi:=⟨vU,_,_,D8.1,none,false⟩) rfl rfl (by kernel_rfl) rfl <|
  ab.one (ah.cm (GT.cmp (a:=.int d) (b:=.none) I I rfl) <|
  ab.one (ah.expr (ai.a0 (v:=.ref 11) I rfl (GE.cons (v:=.int 4) I (GE.cons (ai.a0 (v:=.ref 12) I rfl (vs:=[v]) I c) GE.nil)) ad)))
theorem UN (hd:S.dep=.none) (h:S.ag[l]?=some (.int (-1))) (af:S.bB[l]?=some .none):aq 6 (.obj (.ref 403)) [.ref 11,.int l,.int d] (mk P S T) .none (mk P (((S.meet l d).put l).cI (.int d)) T) :=
 aq.proc (a:=403) (fi:=⟨vX,_,_,Ea.1,none,false⟩) rfl rfl (by kernel_rfl) rfl <|
  ab.cons (ah.expr (ai.a0 (v:=.ref 11) I rfl (vs:=[.int l,.int d]) I ((HT af).mono (by omega)))) <|
  ab.one (ah.expr (ai.a0 (v:=.ref 11) I rfl (vs:=[.int l]) I (BM (S:=S.meet l d) hd h (HU (.inl af)))))
theorem uH (S:au):S.ay.ag[S.ag.length]?=some (.int (-1)):=by unfold au.ay;simp
theorem uI (S:au) (h:S.bB.length=S.ag.length):S.ay.bB[S.ag.length]?=some .none:=by unfold au.ay;rw[←h];simp
theorem UO (hd:S.dep=.int d) (he:S.bB.length=S.ag.length) (ak:S.aP<aL):aq 6 (.obj (.ref 410)) [.ref 11] (mk P S T) (.int S.ag.length) (mk P ((S.ay.meet S.ag.length d).put S.ag.length) T) :=
 aq.func (a:=410) (fi:=⟨th,_,_,zU.1,none,false⟩) rfl rfl (by kernel_rfl) rfl <|
  ab.cons (ah.assign (ai.a0 (v:=.ref 11) I rfl GE.nil ((pJ ak).mono (by omega))) (bq.name (by kernel_rfl))) <|
  ab.cons (ah.expr (ai.a0 (v:=.ref 11) I rfl (vs:=[.int S.ag.length]) I (HV (S:=S.ay) hd (uH S) (.inl (uI S he))))) <|
  ab.ret (ah.ret I)
theorem UP (hd:S.dep=.none) (he:S.bB.length=S.ag.length) (ak:S.aP<aL):aq 6 (.obj (.ref 410)) [.ref 11] (mk P S T) (.int S.ag.length) (mk P ((S.ay.put S.ag.length).cI .none) T) :=
 aq.func (a:=410) (fi:=⟨th,_,_,zU.1,none,false⟩) rfl rfl (by kernel_rfl) rfl <|
  ab.cons (ah.assign (ai.a0 (v:=.ref 11) I rfl GE.nil ((pJ ak).mono (by omega))) (bq.name (by kernel_rfl))) <|
  ab.cons (ah.expr (ai.a0 (v:=.ref 11) I rfl (vs:=[.int S.ag.length]) I (BM (S:=S.ay) hd (uH S) (uI S he)))) <|
  ab.ret (ah.ret I)
theorem UQ (h:S.aP<aL):aq 2 (.obj (.ref 269)) [.ref 12,v] (mk P S T) (.int S.d1.length) (mk P {S with d1:=S.d1++[v]} T):=by
 have z:aq 2 (.obj (.ref 269)) [.ref 12,v] (mk P S T) (.int ((S.d1++[v]).length - 1)) (mk P {S with d1:=S.d1++[v]} T) :=
  Gt.k9 20 (fun aa=>(aa∧S.d1.length<aL)) (fun N n aa=>by kernel_rfl) fun aa o=>⟨o,(au.lt h).2.2.2.1⟩
 rwa [xF] at z
theorem UR {x y z:V}(h:S.aP<aL) {b:Bool}:aq 2 (.obj (.ref 276)) [.ref 12,x,y,z,.int d,.bool b] (mk P S T) .none (mk P {S with bH:=S.bH++[.tup [x,y,z,.int d,.bool b]]} T) :=
 Gt.k9 20 (fun aa=>(aa∧S.bH.length<aL)) (fun N n aa=>by kernel_rfl) fun aa o=>⟨o,(au.lt h).2.2.2.2.2.1⟩
theorem US:gw 4 0 1:=fun N n aa P S T d a=>by kernel_rfl
theorem UT:gw 9 2 2:=fun N n aa P S T d a=>by kernel_rfl
theorem H0:gw 10 3 3:=fun N n aa P S T d a=>by kernel_rfl
theorem UU:gw 17 0 0:=fun N n aa P S T d a=>by kernel_rfl
theorem UW:gw 13 0 1:=fun N n aa P S T d a=>by kernel_rfl
theorem UX:gw 14 1 1:=fun N n aa P S T d a=>by kernel_rfl
theorem UY:gw 18 0 1:=fun N n aa P S T d a=>by kernel_rfl
theorem UZ:gw 20 1 1:=fun N n aa P S T d a=>by kernel_rfl
theorem U0:gw 24 2 1:=fun N n aa P S T d a=>by kernel_rfl
theorem U1:gw 26 3 1:=fun N n aa P S T d a=>by kernel_rfl
theorem U2:gw 67 0 1:=fun N n aa P S T d a=>by kernel_rfl
theorem U3:gw 76 1 1:=fun N n aa P S T d a=>by kernel_rfl
theorem U4:gw 81 2 2:=fun N n aa P S T d a=>by kernel_rfl
theorem U5 (hd:S.dep=.int d) (h:S.aP<aL):aq 4 (.obj (.ref 368)) [.ref 11,.int 66] (mk P S T) .none (mk P ((S.emit 66 .none).cI .none) T):=by
 obtain ⟨_,_,_,_,_,_,_,_,_⟩:=S;cases hd
 exact Gt.k9 40 (fun aa=>(aa∧_)∧_) (fun N n aa=>by kernel_rfl) fun aa o=>⟨⟨o,(au.lt h).1⟩,(au.lt h).2.1⟩
end
section
set_option backward.match.sparseCases false
inductive b9 where
 |t |u |e |x
noncomputable def b9.s:b9→Str
 |.t=>rR
 |.u=>rS
 |.e=>pF
 |.x=>dN
noncomputable def b4 (v:V) (k:Int):V:=match v with
 |.int d=>.int (d+k)
 |v=>v
noncomputable def au.bg (S:au) (op:Int) (a:V) (k:Int):au:=(S.emit op a).cI (b4 S.dep k)
noncomputable def au.dO (S:au) (op:Int) (v:V) (k:Int):au:=(S.cst v).bg op (.int (ht v S.con:Nat)) k
noncomputable def au.l1 (S:au):au:={S with ln:=1}
noncomputable def au.a6 (S:au) (n:b9):au:=match n with
 |.x=>S.bg 13 (.int 3) 1
 |n=>S.dO 18 (.str n.s) 1
noncomputable def iL (S:au):Prop:=∀ x∈S.con,g9 x=true
section
variable {P:Pre}{S:au}{T:List aj}{d e k:Int}{l:Nat}{a v:V}
theorem xJ {op t q:Int}(r:gw op t q) (ar:q - t=k) (hd:S.dep=.int d) (h:S.aP<aL):aq 4 (.obj (.ref 368)) [.ref 11,.int op,a] (mk P S T) .none (mk P (S.bg op a k) T):=by
 have z:=BK (P:=P) (T:=T) (a:=a) r hd h
 unfold au.bg
 rw[hd]
 show aq 4 _ _ _ _ (mk P ((S.emit op a).cI (.int (d+k))) T)
 rw[show d+k=d - t+q by omega];exact z
theorem pM {op t q:Int}(r:gw op t q) (ar:q - t=k) (hd:S.dep=.int d) (h:S.aP<aL):aq 4 (.obj (.ref 368)) [.ref 11,.int op] (mk P S T) .none (mk P (S.bg op .none k) T):=by
 have z:=UA (P:=P) (T:=T) r hd h
 unfold au.bg
 rw[hd]
 show aq 4 _ _ _ _ (mk P ((S.emit op .none).cI (.int (d+k))) T)
 rw[show d+k=d - t+q by omega];exact z
theorem BP {op t q:Int}(r:gw op t q) (ar:q - t=k) (hd:S.dep=.int d) (aV:g9 v=true) (aw:iL S) (ak:S.aP+1<aL):aq 5 (.obj (.ref 382)) [.ref 11,.int op,v] (mk P S T) .none (mk P (S.dO op v k) T):=by
 have z:=UL (P:=P) (T:=T) r hd aV aw ak
 unfold au.dO au.bg
 rw[pL,hd]
 show aq 5 _ _ _ _ (mk P (((S.cst v).emit op _).cI (.int (d+k))) T)
 rw[show d+k=d - t+q by omega];exact z
theorem U6 (hd:S.dep=.int d) (aV:g9 v=true) (aw:iL S) (ak:S.aP+1<aL):aq 5 (.obj (.ref 375)) [.ref 11,v] (mk P S T) .none (mk P (S.dO 4 v 1) T):=by
 have z:=UM (P:=P) (T:=T) US hd aV aw ak
 unfold au.dO au.bg
 rw[pL,hd]
 show aq 5 _ _ _ _ (mk P (((S.cst v).emit 4 _).cI (.int (d+1))) T)
 rw[show d+1=d - 0+1 by omega];exact z
noncomputable abbrev jP:Str:=⟨⟨[119,104,101,114,101]⟩⟩
theorem U7 {s:Str}(f1:ah 5 ⟨qJ.scope,[],none,[(bk,.ref 9),(eh,.str s)]⟩ (bQ vY.1 0) (mk P S T) .next [(bk,.ref 9),(eh,.str s),(rQ,.str rM),(jP,.str s)] (mk P S T))
 (c:aq 5 (.obj (.ref 382)) [.ref 11,.int 18,.str s] (mk P S T) .none (mk P (S.dO 18 (.str s) 1) T)):aq 6 (.obj (.ref 447)) [.ref 9,.str s] (mk P S T) .none (mk P (S.dO 18 (.str s) 1) T):=by
 exact aq.fu (a:=447) (fi:=⟨qJ,[bk,eh],[],vY.1,none,false⟩) (vs:=[.ref 9,.str s]) (by kernel_rfl) rfl (by kernel_rfl) rfl (by kernel_rfl) <|
  ab.cons f1 (ab.one (ah.cm I (ab.one (ah.expr (ai.a0 (v:=.ref 11) I rfl I c)))))
theorem U8 {n:b9}(bc:n≠.x) (hd:S.dep=.int d) (aw:iL S) (ak:S.aP+1<aL):aq 6 (.obj (.ref 447)) [.ref 9,.str n.s] (mk P S T) .none (mk P (S.dO 18 (.str n.s) 1) T):=by
 have c:=BP (P:=P) (T:=T) (k:=1) (v:=.str n.s) UY rfl hd rfl aw ak
 cases n
 case x=>exact absurd rfl bc
 all_goals exact U7 I c
theorem U9 (hd:S.dep=.int d) (ak:S.aP+1<aL):aq 6 (.obj (.ref 447)) [.ref 9,.str dN] (mk P S T) .none (mk P (S.bg 13 (.int 3) 1) T):=by
 have c:=xJ (P:=P) (T:=T) (k:=1) (a:=.int 3) UW rfl hd (by omega)
 exact aq.proc (a:=447) (fi:=⟨qJ,_,_,vY.1,none,false⟩) rfl rfl (by kernel_rfl) rfl <|
  ab.cons (bJ:=[(bk,.ref 9),(eh,.str dN),(rQ,.str gK),(jP,.int 3)]) I <|
  ab.one (ah.iff I (ab.one (ah.expr (ai.a0 (v:=.ref 11) I rfl I (c.mono (by omega))))))
theorem Va (n:b9) (hd:S.dep=.int d) (aw:iL S) (ak:S.aP+1<aL):aq 6 (.obj (.ref 447)) [.ref 9,.str n.s] (mk P S T) .none (mk P (S.a6 n) T):=by
 cases n
 case x=>exact U9 hd ak
 all_goals exact U8 (by intro z;cases z) hd aw ak
end
end
section
variable {d e:Nat}{H H' : List aj}{a b v u:V}{fs:List (Str×V)}{C:Addr}{ci:nO}{nm:Str}{x y z:aj}
theorem fe:(H++[x])[H.length]?=some x:=by simp
theorem H4:(H++[x,y])[H.length]?=some x:=by simp
theorem H5:(H++[x,y])[H.length+1]?=some y:=by simp
theorem rX:(H++[x]).set H.length y=H++[y]:=by simp
theorem cY {i:Nat}(h:H[i]?=some x):(H++H')[i]?=some x:=by
 rw[List.getElem?_append_left (List.getElem?_eq_some_iff.mp h).1];exact h
noncomputable def attrOk (C:Addr) (nm:Str) (fs:List (Str×V)):Bool:=(c2 C hJ).any fun ci=>lS nm ci.as&&Nat.blt fs.length 100
theorem H6 (h:attrOk C nm fs=true) {i:Nat}(aM:H[i]?=some (.inst C fs)):mV (.ref i) nm u ⟨H,True⟩=some ⟨H.set i (.inst C (d8 nm u fs)),True⟩:=by
 exact k1 h fun ci h1 h=>(bj (congrArg lT aM)).trans ((bj h1).trans (en h))
theorem oz (h:attrOk C nm fs=true):mV (.ref H.length) nm u ⟨H++[.inst C fs],True⟩=some ⟨H++[.inst C (d8 nm u fs)],True⟩ :=
 (H6 h fe).trans (congrArg (fun z=>some (ax.mk z True)) rX)
theorem aq.cls {fi:eS}{args:List V}(aw:c2 C dF=none) (h1:c2 C hJ=some ci) (af:c2 ci.init dF=some fi) (h:aq (d+1) (.obj (.ref ci.init)) (.ref H.length::args) (H++[.inst C []]) .none H'):aq (d+2) (.obj (.ref C)) args H (.ref H.length) H':=fun aa o =>
 let ⟨dr,o',K,x⟩:=h aa o;⟨dr,o',K+1,fun N n g7 b=>match N,n,g7,b with
 |N+1,n+2,g7,b=>BE.trans ((l9 aw).trans ((bj h1).trans ((bj af).trans (bj ((Ho af).symm.trans (x (N+1) (n+1) (Nat.le_of_succ_le g7) (Nat.le_of_succ_le_succ b)))))))⟩
theorem Vb (k l p:V):aq 1 (.obj (.ref 850)) [.ref H.length,k,l,p] (H++[.inst 853 []]) .none (H++[.inst 853 [(c3,k),(eo,l),(dV,p),(g8,.none)]]) :=
 aq.fu (a:=850) (fi:=⟨wh,[bk,c3,eo,dV],[],El.1,none,false⟩) (vs:=[.ref H.length,k,l,p]) (cN:=[(bk,.ref H.length),(c3,k),(eo,l),(dV,p)]) (by kernel_rfl) rfl (by kernel_rfl) rfl (by kernel_rfl) <|
  ab.cons (ah.assign (v:=k) I (bq.attr (v:=.ref H.length) (H2:=H++[.inst 853 [(c3,k)]]) I (oz (fs:=[]) (by kernel_rfl)))) <|
  ab.cons (ah.assign (v:=l) I (bq.attr (v:=.ref H.length) (H2:=H++[.inst 853 [(c3,k),(eo,l)]]) I (oz (fs:=[(c3,k)]) (by kernel_rfl)))) <|
  ab.cons (ah.assign (v:=p) I (bq.attr (v:=.ref H.length) (H2:=H++[.inst 853 [(c3,k),(eo,l),(dV,p)]]) I (oz (fs:=[(c3,k),(eo,l)]) (by kernel_rfl)))) <|
  ab.one (ah.assign (v:=.none) I (bq.attr (v:=.ref H.length) (H2:=H++[.inst 853 [(c3,k),(eo,l),(dV,p),(g8,.none)]]) I (oz (fs:=[(c3,k),(eo,l),(dV,p)]) (by kernel_rfl))))
theorem xK (k l p:V):aq 2 (.obj (.ref 853)) [k,l,p] H (.ref H.length) (H++[.inst 853 [(c3,k),(eo,l),(dV,p),(g8,.none)]]) :=
 aq.cls (d:=0) (ci:=⟨850,_,_⟩) rfl rfl rfl (Vb k l p)
end
section
set_option backward.match.sparseCases false
section
variable {d e:Nat}{H H1 H2 H' : List aj}{a b v u r:V}{fs:List (Str×V)}{C:Addr}{ci:nO}{nm:Str}{x y z:aj}
theorem rY {H G:List aj}:(H++G).take H.length=H:=by simp
theorem kv {G:List aj}{b n i:Nat}{vs us:List V}(bt:b≤i) (h:G[i]?=some (.list vs)) (hm:iA (gG G b n) vs=some us):gG G b (n+1) (.ref i)=some (.aO us) :=
 (en (Nat.ble_eq.mpr bt)).trans ((congrArg (wD (gG G b n)) h).trans (dE hm))
theorem rZ {G:List aj}{b n i:Nat}{C:Addr}{vs us:List (Str×V)}(bt:b≤i) (h:G[i]?=some (.inst C vs)) (hm:nY (gG G b n) vs=some us):gG G b (n+1) (.ref i)=some (.fin C us) :=
 (en (Nat.ble_eq.mpr bt)).trans ((congrArg (wD (gG G b n)) h).trans (dE hm))
theorem nd {f:V→Option V}{v u:V}{r t:List V}(h1:f v=some u) (af:iA f r=some t):iA f (v::r)=some (u::t):=(bj h1).trans (dE af)
theorem dx {f:V→Option V}{k:Str}{v u:V}{r t:List (Str×V)}(h1:f v=some u) (af:nY f r=some t):nY f ((k,v)::r)=some ((k,u)::t):=(bj h1).trans (dE af)
theorem r0 {f:V→Option V}:nY f []=some []:=rfl
theorem r1 {f:V→Option V}:iA f []=some []:=rfl
noncomputable def isA:V→Bool
 |.ref _=>false
 |.tup _=>false
 |_=>true
theorem ej {G:List aj}{b n:Nat}{v:V}(h1:isA v=true) (af:cy b v=true):gG G b (n+1) v=some v:=by
 cases v <;> first |exact dv h1 |exact en (y:=none) af
noncomputable abbrev BQ (k:Str) (l:Int) (p:V):aj:=.inst 853 [(c3,.str k),(eo,.int l),(dV,p),(g8,.none)]
noncomputable abbrev ff (k:Str) (l:Int) (ps:List V):V:=.fin 853 [(c3,.str k),(eo,.int l),(dV,.aO ps),(g8,.none)]
theorem pN {b:Nat}{v u:V}{G:List aj}{aa:Prop}(h1:gG G b 8 v=some u) (af:G.take b=H) (aB:H.all (cE b)=true):fin b v ⟨G,aa⟩=some (u,⟨H,aa⟩):=by
 subst af;exact (bj h1).trans (en aB)
theorem H7 {k:Str}{l:Int}{ps us:List V}{aa:Prop}(aw:H.all (cE H.length)=true) (a4:iA (gG ((H++[.list ps])++[BQ k l (.ref H.length)]) H.length 6) ps=some us) :
 fin H.length (.ref (H++[aj.list ps]).length) ⟨(H++[.list ps])++[BQ k l (.ref H.length)],aa⟩=some (ff k l us,⟨H,aa⟩):=by
 refine pN (rZ (by simp) fe (dx (ej rfl rfl) (dx (ej rfl rfl) (dx (kv (Nat.le_refl _) (cY fe) a4) (dx (ej rfl rfl) r0))))) (by simp) aw
theorem Vc {R:dR}{n:Nat}{st:ax}{ps:Arguments}{body:PySem.Expr}{sc:Scope}:tU R (n+1) (.lam ps body sc) [v] st=(tT ps sc).bind fun x=>(R.ev n ⟨sc,[],none,[(x,v)]⟩ body st).bind (nZ st.H.length):=rfl
theorem aq.lam {ps:Arguments}{body:PySem.Expr}{sc:Scope}{x:Str}(bA:tT ps sc=some x) (h:ai d ⟨sc,[],none,[(x,v)]⟩ body H r H1) (hf:∀ aa,nZ H.length (r,⟨H1,aa⟩)=some (u,⟨H2,aa⟩)):aq (d+1) (.lam ps body sc) [v] H u H2:=fun aa o =>
 let ⟨dr,o',K,x⟩:=h aa o;⟨dr,o',K+1,fun N n g7 b=>match N,n,g7,b with
 |N+1,n+1,g7,b=>Vc.trans ((bj bA).trans ((bj (x N n (Nat.le_of_succ_le_succ g7) (Nat.le_of_succ_le_succ b))).trans (hf dr)))⟩
noncomputable abbrev BR:Str:=⟨⟨[105,110,110,101,114]⟩⟩
noncomputable abbrev mc:V:=ff BR 0 []
theorem Vd (aw:H.all (cE H.length)=true):aq 3 rU [v] H mc H :=
 aq.lam (ps:=match rU with |.lam ps _ _=>ps |_=>⟨[],[],none,[],[],none,[]⟩) (body:=match rU with |.lam _ b _=>b |_=>.Constant .none 0 default) (sc:=match rU with |.lam _ _ s=>s |_=>default) (x:=⟨⟨[110,111,100,101]⟩⟩) (by kernel_rfl)
  (ai.bI (g:=.obj (.ref 853)) I (GE.cons (v:=.str BR) I (GE.cons (v:=.int 0) I (GE.cons (ai.list GE.nil) GE.nil))) (xK (.str BR) (.int 0) (.ref H.length))) fun aa=>H7 aw r1
end
end
noncomputable abbrev pO:Str:=⟨⟨[69,120,112,114]⟩⟩
noncomputable abbrev uJ:Str:=⟨⟨[78,97,109,101]⟩⟩
noncomputable abbrev kx:Str:=⟨⟨[78,117,109]⟩⟩
noncomputable abbrev xM:Str:=⟨⟨[70,117,110,99,116,105,111,110]⟩⟩
noncomputable abbrev pP:Str:=⟨⟨[87,104,105,108,101]⟩⟩
noncomputable abbrev nf:Str:=⟨⟨[70,111,114,73,110]⟩⟩
noncomputable abbrev BS:Str:=⟨⟨[84,104,114,111,119]⟩⟩
noncomputable abbrev hb:Str:=⟨⟨[84,114,121]⟩⟩
noncomputable abbrev Ve:Str:=⟨⟨[86,97,114]⟩⟩
noncomputable abbrev Vf:Str:=⟨⟨[77,101,109,98,101,114]⟩⟩
noncomputable abbrev Vg:Str:=⟨⟨[69,108,101,109,101,110,116]⟩⟩
noncomputable abbrev cJ:Str:=⟨⟨[110,111,100,101]⟩⟩
noncomputable abbrev hu:Str:=⟨⟨[116,97,114,103,101,116]⟩⟩
noncomputable abbrev pQ:Str:=⟨⟨[99,111,110,116,114,111,108]⟩⟩
noncomputable abbrev H8:Str:=⟨⟨[116,101,115,116]⟩⟩
noncomputable abbrev ng:Str:=⟨⟨[98,108,111,99,107]⟩⟩
noncomputable abbrev hR:Str:=⟨⟨[108,97,115,116]⟩⟩
noncomputable abbrev pR:Str:=⟨⟨[101,110,100]⟩⟩
noncomputable abbrev uK:Str:=⟨⟨[114,101,115,116]⟩⟩
noncomputable abbrev nh:Str:=⟨⟨[115,116,97,114,116]⟩⟩
noncomputable abbrev pS:Str:=⟨⟨[115,116,111,112]⟩⟩
noncomputable abbrev iM:Str:=⟨⟨[102,105,114,115,116]⟩⟩
noncomputable abbrev xN:Str:=⟨⟨[104,97,110,100,108,101,114]⟩⟩
section
variable {d:Nat}{fr:a5}{H H' : List aj}{ls:List (Str×V)}{e:PySem.Expr}{ss t:List Stmt}{p:Pos}
theorem ab.bx (h:GT d fr e H false H) (af:ab d fr t H .next ls H'):ab d fr [.If e ss t p] H .next ls H':=ab.one (ah.iff h af)
theorem ab.eP (h:GT d fr e H true H) (af:ab d fr ss H .next ls H'):ab d fr [.If e ss t p] H .next ls H':=ab.one (ah.cm h af)
end
section
variable {P:Pre}{S:au}{T:List aj}{d e k:Int}{l:Nat}{a v:V}
noncomputable abbrev cC (n:b9):V:=ff uJ 1 [.str n.s]
theorem r2 (n:b9) (hd:S.dep=.int d) (aw:iL S) (ak:S.aP+1<aL):aq 8 (.obj (.ref 601)) [.ref 9,cC n] (mk P S T) .none (mk P (S.l1.a6 n) T) :=
 aq.fu (a:=601) (fi:=⟨o3,[bk,cJ],[],ti.1,none,false⟩) (vs:=[.ref 9,cC n]) (cN:=[(bk,.ref 9),(cJ,cC n)]) (by kernel_rfl) rfl (by kernel_rfl) rfl (by kernel_rfl) <|
  ab.cons (bJ:=[(bk,.ref 9),(cJ,cC n),(c3,.str uJ),(dV,.aO [.str n.s])]) I <|
  ab.cons (H1:=mk P S.l1 T) (bJ:=[(bk,.ref 9),(cJ,cC n),(c3,.str uJ),(dV,.aO [.str n.s])]) ie <|
  ab.bx I<|ab.eP I<|ab.one (ah.expr (ai.a0 (v:=.ref 9) (first:=[.ref 9]) (vs:=[.str n.s]) I rfl I ((Va (S:=S.l1) n hd aw ak).mono (by omega))))
theorem Vh (hd:S.dep=.int d) (aw:iL S) (ak:S.aP+1<aL):aq 8 (.obj (.ref 601)) [.ref 9,ff kx 1 [.int k]] (mk P S T) .none (mk P (S.l1.dO 4 (.int k) 1) T) :=
 aq.fu (a:=601) (fi:=⟨o3,[bk,cJ],[],ti.1,none,false⟩) (vs:=[.ref 9,ff kx 1 [.int k]]) (cN:=[(bk,.ref 9),(cJ,ff kx 1 [.int k])]) (by kernel_rfl) rfl (by kernel_rfl) rfl (by kernel_rfl) <|
  ab.cons (bJ:=[(bk,.ref 9),(cJ,ff kx 1 [.int k]),(c3,.str kx),(dV,.aO [.int k])]) I <|
  ab.cons (H1:=mk P S.l1 T) (bJ:=[(bk,.ref 9),(cJ,ff kx 1 [.int k]),(c3,.str kx),(dV,.aO [.int k])]) ie <|
  ab.eP I<|ab.one (ah.expr (ai.a0 (v:=.ref 11) (first:=[.ref 11]) (vs:=[.int k]) I rfl I ((U6 (S:=S.l1) hd rfl aw ak).mono (by omega))))
noncomputable def au.unit (S:au) (v:V):au:={S with d1:=S.d1++[v]}
theorem Vi (hd:S.dep=.int d) (ak:S.aP+1<aL) (uL:(mk P S T).all (cE (mk P S T).length)=true):aq 5 (.obj (.ref 622)) [.ref 9,v] (mk P S T) .none (mk P ((S.unit mc).bg 67 (.int S.d1.length) 1) T):=by
 have Vj:(S.unit mc).aP<aL:=by unfold au.aP au.unit at *;simp;omega
 exact aq.fu (a:=622) (fi:=⟨v9,[bk,cJ],[],Ee.1,none,false⟩) (vs:=[.ref 9,v]) (cN:=[(bk,.ref 9),(cJ,v)]) (by kernel_rfl) rfl (by kernel_rfl) rfl (by kernel_rfl) <|
  ab.one (ah.expr (ai.a0 (v:=.ref 11) (first:=[.ref 11]) I rfl
   (GE.cons (v:=.int 67) I (GE.cons (ai.a0 (v:=.ref 12) (first:=[.ref 12]) I rfl (GE.cons (ai.a0 (v:=.ref 9) (first:=[]) I rfl (vs:=[v]) I ((Vd uL).mono (by omega))) GE.nil) ((UQ (by omega)).mono (by omega))) GE.nil))
   (xJ (S:=S.unit mc) U2 rfl hd Vj)))
noncomputable abbrev jQ:V:=ff xM 1 []
theorem Vk (hd:S.dep=.int d) (ak:S.aP+1<aL) (uL:(mk P S.l1 T).all (cE (mk P S.l1 T).length)=true):aq 8 (.obj (.ref 601)) [.ref 9,jQ] (mk P S T) .none (mk P ((S.l1.unit mc).bg 67 (.int S.d1.length) 1) T) :=
 aq.fu (a:=601) (fi:=⟨o3,[bk,cJ],[],ti.1,none,false⟩) (vs:=[.ref 9,jQ]) (cN:=[(bk,.ref 9),(cJ,jQ)]) (by kernel_rfl) rfl (by kernel_rfl) rfl (by kernel_rfl) <|
  ab.cons (bJ:=[(bk,.ref 9),(cJ,jQ),(c3,.str xM),(dV,.aO [])]) I <|
  ab.cons (H1:=mk P S.l1 T) (bJ:=[(bk,.ref 9),(cJ,jQ),(c3,.str xM),(dV,.aO [])]) ie <|
  ab.bx I<|ab.bx I<|ab.bx I<|ab.bx I<|ab.bx I<|ab.bx I<|ab.bx I<|ab.bx I<|ab.one (ah.expr (ai.a0 (v:=.ref 9) (first:=[.ref 9]) (vs:=[jQ]) I rfl I
  (aq.fu (a:=608) (fi:=⟨v8,[bk,cJ],[],Ed.1,none,false⟩) (vs:=[.ref 9,jQ]) (cN:=[(bk,.ref 9),(cJ,jQ)]) (by kernel_rfl) rfl (by kernel_rfl) rfl (by kernel_rfl) <|
   ab.cons (bJ:=[(bk,.ref 9),(cJ,jQ),(c3,.str xM),(dV,.aO [])]) I <|
   ab.bx I<|ab.bx I<|ab.bx I<|ab.bx I<|ab.bx I<|ab.eP I<|ab.one (ah.expr (ai.a0 (v:=.ref 9) (first:=[.ref 9]) (vs:=[jQ]) I rfl I ((Vi (S:=S.l1) hd ak uL).mono (by omega)))))))
end
inductive fU where
 |v |w |x
noncomputable def fU.s:fU→Str
 |.v=>HC
 |.w=>m8
 |.x=>dN
noncomputable def au.fV (S:au) (n:fU):au:=match n with
 |.x=>S.bg 14 (.int 3) 0
 |n=>S.dO 20 (.str n.s) 0
noncomputable def au.pop (S:au):au:=S.bg 6 .none (-1)
noncomputable def au.iN (S:au) (l:Nat):au:=(eM S.dep).elim S fun d=>((S.meet l (d - 1)).emit 59 (.int l)).cI (.int (d - 1))
noncomputable def au.hv (S:au) (l:Nat):au:=(eM S.dep).elim S fun d=>((S.meet l d).emit 77 (.int l)).cI (.int (d+1))
noncomputable def au.jmp (S:au) (l:Nat):au:=(eM S.dep).elim S fun d=>((S.meet l d).emit 58 (.int l)).cI .none
theorem hx {α β:Type}{C:β→Prop}{o:Option α}{y:β}{f:α→β}(bc:C y) (ak:∀ a,C (f a)):C (o.elim y f):=by cases o;exact bc;exact ak _
section
variable {d:Nat}{a b:Nat}{fi:eS}{args:List V}{H H' : List aj}{u v:V}
theorem aq.fD (hf:c2 a dF=some fi) (h:aq d (.obj (.ref a)) (v::args) H u H'):aq d (.fD a v) args H u H':=fun aa o =>
 let ⟨dr,o',K,x⟩:=h aa o;⟨dr,o',K+1,fun N n g7 b=>match N,n,g7,x (N) n (Nat.le_of_succ_le g7) b with
 |N+1,0,g7,x=>ba x
 |N+1,n+1,g7,x=>(bj hf).trans ((Ho hf).symm.trans x)⟩
end
section
variable {P:Pre}{S:au}{T:List aj}{d e k:Int}{l:Nat}{a v:V}
theorem Vl (hd:S.dep=.int d) (h:S.fits l (d - 1)) (ak:S.aP<aL):aq 5 (.obj (.ref 389)) [.ref 11,.int 59,.int l] (mk P S T) .none (mk P (S.iN l) T):=by
 have z:=UI (P:=P) (T:=T) hd h ak
 unfold au.iN;rw[hd];rw[Int.add_zero] at z;exact z
theorem Vm (hd:S.dep=.int d) (h:S.fits l d) (ak:S.aP<aL):aq 5 (.obj (.ref 389)) [.ref 11,.int 77,.int l] (mk P S T) .none (mk P (S.hv l) T):=by
 have z:=UJ (P:=P) (T:=T) hd h ak
 unfold au.hv;rw[hd];rw[show d - 1+2=d+1 by omega] at z;exact z
theorem BU (hd:S.dep=.int d∧S.fits l d∨S.dep=.none) (ak:S.aP<aL):aq 5 (.obj (.ref 389)) [.ref 11,.int 58,.int l] (mk P S T) .none (mk P (S.jmp l) T):=by
 rcases hd with ⟨hd,h⟩ |hd
 ·have z:=UH (P:=P) (T:=T) hd h ak
  unfold au.jmp;rw[hd];exact z
 ·have z:=UG (P:=P) (T:=T) (l:=l) (op:=58) hd
  unfold au.jmp;rw[hd];exact z
theorem xO (hd:S.dep=.int d) (ak:S.aP<aL):aq 4 (.obj (.ref 368)) [.ref 11,.int 6] (mk P S T) .none (mk P S.pop T):=pM UB rfl hd ak
theorem Vn (hd:S.dep=.int d) (ak:S.aP<aL):aq 5 (.obj (.ref 719)) [.ref 9] (mk P S T) .none (mk P S.pop T) :=
 aq.fu (a:=719) (fi:=⟨wb,[bk],[],Eg.1,none,false⟩) (vs:=[.ref 9]) (cN:=[(bk,.ref 9)]) (by kernel_rfl) rfl (by kernel_rfl) rfl (by kernel_rfl) <|
  ab.eP I<|ab.one (ah.expr (ai.a0 (v:=.ref 11) (first:=[.ref 11]) (vs:=[.int 6]) I rfl I (xO hd ak)))
theorem Vo {s:Str}(f1:ah 5 ⟨qK.scope,[],none,[(bk,.ref 9),(jO,.tup [.str rM,.str s])]⟩ (bQ vZ.1 0) (mk P S T) .next [(bk,.ref 9),(jO,.tup [.str rM,.str s]),(rQ,.str rM),(jP,.str s)] (mk P S T))
 (c:aq 5 (.obj (.ref 382)) [.ref 11,.int 20,.str s] (mk P S T) .none (mk P (S.dO 20 (.str s) 0) T)):aq 6 (.obj (.ref 454)) [.ref 9,.tup [.str rM,.str s]] (mk P S T) .none (mk P (S.dO 20 (.str s) 0) T) :=
 aq.fu (a:=454) (fi:=⟨qK,[bk,jO],[],vZ.1,none,false⟩) (vs:=[.ref 9,.tup [.str rM,.str s]]) (by kernel_rfl) rfl (by kernel_rfl) rfl (by kernel_rfl) <|
  ab.cons f1 (ab.one (ah.cm I (ab.one (ah.expr (ai.a0 (v:=.ref 11) I rfl I c)))))
noncomputable abbrev pT:V:=.tup [.str gK,.int 3]
theorem H9 (hd:S.dep=.int d) (ak:S.aP<aL):aq 6 (.obj (.ref 454)) [.ref 9,pT] (mk P S T) .none (mk P (S.bg 14 (.int 3) 0) T) :=
 aq.fu (a:=454) (fi:=⟨qK,[bk,jO],[],vZ.1,none,false⟩) (vs:=[.ref 9,pT]) (cN:=[(bk,.ref 9),(jO,pT)]) (by kernel_rfl) rfl (by kernel_rfl) rfl (by kernel_rfl) <|
  ab.cons (bJ:=[(bk,.ref 9),(jO,pT),(rQ,.str gK),(jP,.int 3)]) I <|
  ab.bx I (ab.one (ah.expr (ai.a0 (v:=.ref 11) (first:=[.ref 11]) (vs:=[.int 14,.int 3]) I rfl I ((xJ UX rfl hd ak).mono (by omega)))))
theorem Ia {s:Str}{Ib:V}{aT:au}(f1:GT 7 ⟨qL.scope,[],none,[(bk,.ref 9),(eh,.str s)]⟩ (eJ (bQ v3.1 0)) (mk P S T) true (mk P S T))
 (f2:GE 7 ⟨qL.scope,[],none,[(bk,.ref 9),(eh,.str s)]⟩ (m9 (eJ (bQ (sB (bQ v3.1 0)) 0))) (mk P S T) [Ib] (mk P S T))
 (c:aq 6 (.obj (.ref 454)) [.ref 9,Ib] (mk P S T) .none (mk P aT T)):aq 8 (.obj (.ref 461)) [.ref 9,.str s] (mk P S T) .none (mk P aT T) :=
 aq.fu (a:=461) (fi:=⟨qL,[bk,eh],[],v3.1,none,false⟩) (vs:=[.ref 9,.str s]) (by kernel_rfl) rfl (by kernel_rfl) rfl (by kernel_rfl) <|
  ab.one (ah.cm f1 (ab.one (ah.expr (ai.a0 (v:=.ref 9) I rfl f2 (c.mono (by omega))))))
theorem Vp (n:fU) (hd:S.dep=.int d) (aw:iL S) (ak:S.aP+1<aL):aq 8 (.obj (.ref 461)) [.ref 9,.str n.s] (mk P S T) .none (mk P (S.fV n) T):=by
 have c:=BP (P:=P) (T:=T) (k:=0) (v:=.str n.s) UZ rfl hd rfl aw ak
 have Vq:=H9 (P:=P) (T:=T) hd (by omega:S.aP<aL)
 cases n
 case x=>exact Ia I I Vq
 all_goals exact Ia I I (Vo I c)
end
noncomputable def r3 (S:au):Prop:=dG 0 S.aN=true∧dG 0 S.fv=true∧dG 0 S.con=true∧dG 0 S.d1=true∧dG 0 S.ag=true∧dG 0 S.bH=true∧dG 0 S.bB=true
structure av (n:Nat) (S aT:au) (k:Nat):Prop where
 con:iL S→iL aT
 len:S.bB.length=S.ag.length→aT.bB.length=aT.ag.length
 aP:aT.aP≤S.aP+k
 ky:r3 S→r3 aT
 old:∀ l,l<n→aT.ag[l]?=S.ag[l]?∧aT.bB[l]?=S.bB[l]?
 eV:S.ag.length≤aT.ag.length
 i8:S.aN.length≤aT.aN.length
theorem ni {b:Nat}:∀{l:List V}{r:List V},dG b l=true→dG b r=true→dG b (l++r)=true
 |[],r,_,h=>h
 |v::l,r,h,g=>by
  obtain ⟨h1,af⟩:=Bool.and_eq_true_iff.mp h
  exact Bool.and_eq_true_iff.mpr ⟨h1,ni af g⟩
theorem BV {b:Nat}{v:V}(aV:cy b v=true):∀{l:List V}{i:Nat},dG b l=true→dG b (l.set i v)=true
 |[],_,h=>h
 |u::l,0,h=>Bool.and_eq_true_iff.mpr ⟨aV,(Bool.and_eq_true_iff.mp h).2⟩
 |u::l,i+1,h=>Bool.and_eq_true_iff.mpr ⟨(Bool.and_eq_true_iff.mp h).1,BV aV (Bool.and_eq_true_iff.mp h).2⟩
section
variable {n m k k' : Nat}{S aT uM:au}{op e:Int}{a v:V}{l:Nat}
theorem av.refl:av n S S 0:=⟨id,id,Nat.le_refl _,id,fun _ _=>⟨rfl,rfl⟩,Nat.le_refl _,Nat.le_refl _⟩
theorem av.trans (x:av n S aT k) (y:av n aT uM k'):av n S uM (k+k') :=
 ⟨fun h=>y.con (x.con h),fun h=>y.len (x.len h),by have:=x.aP;have:=y.aP;omega,fun h=>y.ky (x.ky h),fun l h=>⟨(y.old l h).1.trans (x.old l h).1,(y.old l h).2.trans (x.old l h).2⟩,Nat.le_trans x.eV y.eV,Nat.le_trans x.i8 y.i8⟩
theorem av.less (x:av n S aT k) (h:m≤n):av m S aT k:=⟨x.con,x.len,x.aP,x.ky,fun l q=>x.old l (by omega),x.eV,x.i8⟩
theorem av.more (x:av n S aT k) (h:k≤k'):av n S aT k':=⟨x.con,x.len,Nat.le_trans x.aP (by omega),x.ky,x.old,x.eV,x.i8⟩
theorem av.cI:av n S (S.cI v) 0:=⟨id,id,Nat.le_refl _,id,fun _ _=>⟨rfl,rfl⟩,Nat.le_refl _,Nat.le_refl _⟩
theorem av.l1:av n S S.l1 0:=⟨id,id,Nat.le_refl _,id,fun _ _=>⟨rfl,rfl⟩,Nat.le_refl _,Nat.le_refl _⟩
theorem av.emit (b2:cy 0 a=true):av n S (S.emit op a) 2:=by
 refine ⟨id,id,?_,fun ⟨h1,af,h⟩=>⟨ni h1 (by show ((true&&(cy 0 a&&true))&&true)=true;rw[b2];rfl),ni af rfl,h⟩,fun _ _=>⟨rfl,rfl⟩,Nat.le_refl _,by unfold au.emit;simp⟩
 unfold au.aP au.emit;simp;omega
theorem av.cst (aV:g9 v=true):av n S (S.cst v) 1:=by
 unfold au.cst
 split
 ·exact av.refl.more (by omega)
 ·refine ⟨fun h x m=>?_,id,?_,fun ⟨h1,af,aB,h⟩=>⟨h1,af,ni aB (by cases v <;> first |rfl |cases aV),h⟩,fun _ _=>⟨rfl,rfl⟩,Nat.le_refl _,Nat.le_refl _⟩
  ·rcases List.mem_append.mp m with m |m
   ·exact h x m
   ·rw[List.mem_singleton.mp m];exact aV
  ·unfold au.aP;simp;omega
theorem av.bg (b2:cy 0 a=true):av n S (S.bg op a e) 2:=(av.emit b2).trans av.cI
theorem av.dO (aV:g9 v=true):av n S (S.dO op v e) 3:=((av.cst aV).trans (av.bg rfl)).more (by omega)
theorem av.a6 {q:b9}:av n S (S.a6 q) 3:=by cases q <;> first |exact av.dO rfl |exact (av.bg rfl).more (by omega)
theorem av.fV {q:fU}:av n S (S.fV q) 3:=by cases q <;> first |exact av.dO rfl |exact (av.bg rfl).more (by omega)
theorem av.pop:av n S S.pop 2:=av.bg rfl
theorem av.unit:av n S (S.unit mc) 1:=by
 refine ⟨id,id,?_,fun ⟨h1,af,aB,bu,h⟩=>⟨h1,af,aB,ni bu (by kernel_rfl),h⟩,fun _ _=>⟨rfl,rfl⟩,Nat.le_refl _,Nat.le_refl _⟩
 unfold au.aP au.unit;simp;omega
theorem av.ay (h:n≤S.ag.length) (he:S.bB.length=S.ag.length):av n S S.ay 2:=by
 refine ⟨id,fun h=>by unfold au.ay;simp[h],?_,fun ⟨h1,af,aB,bu,dC,eF,eT⟩=>⟨h1,af,aB,bu,ni dC rfl,eF,ni eT rfl⟩,fun l q=>?_,by unfold au.ay;simp,Nat.le_refl _⟩
 ·unfold au.aP au.ay;simp;omega
 ·unfold au.ay
  exact ⟨List.getElem?_append_left (by omega),List.getElem?_append_left (by omega)⟩
theorem av.meet (h:n≤l):av n S (S.meet l e) 0:=by
 refine ⟨id,fun h=>by unfold au.meet;simp[h],?_,fun ⟨h1,af,aB,bu,dC,eF,eT⟩=>⟨h1,af,aB,bu,dC,eF,BV rfl eT⟩,fun i q=>⟨rfl,?_⟩,Nat.le_refl _,Nat.le_refl _⟩
 ·unfold au.aP au.meet;simp
 ·unfold au.meet;exact List.getElem?_set_ne (by omega)
theorem av.put (h:n≤l):av n S (S.put l) 0:=by
 refine ⟨id,fun h=>by unfold au.put;simp[h],?_,fun ⟨h1,af,aB,bu,dC,eF,eT⟩=>⟨h1,af,aB,bu,BV rfl dC,eF,eT⟩,fun i q=>⟨?_,rfl⟩,by unfold au.put;simp,Nat.le_refl _⟩
 ·unfold au.aP au.put;simp
 ·unfold au.put;exact List.getElem?_set_ne (by omega)
theorem av.iN (h:n≤l):av n S (S.iN l) 2 :=
 hx (C:=fun F=>av n S F 2) (av.refl.more (by omega)) fun d=>((av.meet h).trans ((av.emit rfl).trans av.cI)).more (by omega)
theorem av.hv (h:n≤l):av n S (S.hv l) 2 :=
 hx (C:=fun F=>av n S F 2) (av.refl.more (by omega)) fun d=>((av.meet h).trans ((av.emit rfl).trans av.cI)).more (by omega)
theorem av.jmp (h:n≤l):av n S (S.jmp l) 2 :=
 hx (C:=fun F=>av n S F 2) (av.refl.more (by omega)) fun d=>((av.meet h).trans ((av.emit rfl).trans av.cI)).more (by omega)
end
section
variable {P:Pre}{S:au}{T:List aj}{d e k:Int}{l:Nat}{a v:V}
theorem hS (n:b9):(S.a6 n).dep=b4 S.dep 1:=by
 cases n <;> first |rfl |(show b4 (S.cst _).dep 1=_;rw[pL])
theorem BW (n:fU):(S.fV n).dep=b4 S.dep 0:=by
 cases n <;> first |rfl |(show b4 (S.cst _).dep 0=_;rw[pL])
theorem BX {op:Int}:(S.dO op v k).dep=b4 S.dep k:=by
 show b4 (S.cst v).dep k=_;rw[pL]
theorem Vr (n:b9) (hd:S.dep=.int d) (aw:iL S) (ak:S.aP+10<aL) (h:S.fits l d):aq 10 (.obj (.ref 557)) [.ref 11,cC n,.int l,.bool false,.fD 601 (.ref 9)] (mk P S T) .none (mk P ((S.l1.a6 n).iN l) T):=by
 have s1:av (l+1) S (S.l1.a6 n) 3:=(av.l1.trans av.a6).more (by omega)
 have aK:=r2 (P:=P) (T:=T) n hd aw (by omega)
 have Bx:(S.l1.a6 n).dep=.int (d+1):=by rw[hS];show b4 S.dep 1=_;rw[hd];rfl
 have bw:=Vl (P:=P) (T:=T) (S:=S.l1.a6 n) (l:=l) Bx (by
  have:=(s1.old l (by omega)).2
  rw[show d+1 - 1=d by omega]
  unfold au.fits at h ⊢
  rw[this];exact h) (by have:=s1.aP;omega)
 exact aq.fu (a:=557) (fi:=⟨v7,[rL,cJ,⟨⟨[108,97,98,101,108]⟩⟩,⟨⟨[119,104,101,110]⟩⟩,⟨⟨[112,117,115,104]⟩⟩],[],Ec.1,none,false⟩) (vs:=[.ref 11,cC n,.int l,.bool false,.fD 601 (.ref 9)])
  (cN:=[(rL,.ref 11),(cJ,cC n),(⟨⟨[108,97,98,101,108]⟩⟩,.int l),(⟨⟨[119,104,101,110]⟩⟩,.bool false),(⟨⟨[112,117,115,104]⟩⟩,.fD 601 (.ref 9))]) (by kernel_rfl) rfl (by kernel_rfl) rfl (by kernel_rfl) <|
  ab.bx I<|ab.bx I <|
  ab.cons (ah.expr (ai.bI (g:=.fD 601 (.ref 9)) (vs:=[cC n]) I I (aq.fD (fi:=⟨o3,_,_,ti.1,none,false⟩) rfl (aK.mono (by omega))))) <|
  ab.one (ah.expr (ai.a0 (v:=.ref 11) (first:=[.ref 11]) (vs:=[.int 59,.int l]) I rfl I (bw.mono (by omega))))
end
inductive dH where
 |b7 (n:fU) |var |mem (n:b9) |c6 (a b:b9)
noncomputable def c7:dH→V
 |.b7 n=>ff uJ 1 [.str n.s]
 |.var=>ff Ve 1 [.aO [.tup [.str m8,.none]]]
 |.mem n=>ff Vf 1 [cC n,.str iK]
 |.c6 a b=>ff Vg 1 [cC a,cC b]
noncomputable def au.az (S:au):dH→au
 |.b7 n=>(S.fV n).pop
 |.var=>(S.fV .w).pop
 |.mem n=>(((S.l1.a6 n).bg 9 .none 0).dO 24 (.str iK) (-1)).pop
 |.c6 a b=>((((((S.l1.a6 a).l1.a6 b).bg 81 .none 0).bg 10 .none 0).bg 10 .none 0).bg 26 .none (-2)).pop
section
variable {n k:Nat}{P:Pre}{S:au}{T:List aj}{d e:Int}{l:Nat}{a v:V}
theorem av.az {t:dH}:av n S (S.az t) 20:=by
 cases t
 ·exact (av.fV.trans av.pop).more (by omega)
 ·exact (av.fV.trans av.pop).more (by omega)
 ·exact ((((av.l1.trans av.a6).trans (av.bg rfl)).trans (av.dO rfl)).trans av.pop).more (by omega)
 ·exact (((((((av.l1.trans av.a6).trans (av.l1.trans av.a6)).trans (av.bg rfl)).trans (av.bg rfl)).trans (av.bg rfl)).trans (av.bg rfl)).trans av.pop).more (by omega)
theorem i9:b4 (.int d) e=.int (d+e):=rfl
theorem Vs (hd:S.dep=.int d) (t:dH):(S.az t).dep=.int (d - 1):=by
 cases t
 ·show b4 (S.fV _).dep (-1)=_
  rw[BW,hd,i9,i9];congr 1;omega
 ·show b4 (S.fV _).dep (-1)=_
  rw[BW,hd,i9,i9];congr 1;omega
 ·show b4 (au.dO _ _ _ _).dep (-1)=_
  rw[BX]
  show b4 (b4 (b4 (S.l1.a6 _).dep 0) (-1)) (-1)=_
  rw[hS]
  show b4 (b4 (b4 (b4 S.dep 1) 0) (-1)) (-1)=_
  rw[hd];simp only[i9];congr 1;omega
 ·show b4 (b4 (b4 (b4 (b4 ((S.l1.a6 _).l1.a6 _).dep 0) 0) 0) (-2)) (-1)=_
  rw[hS]
  show b4 (b4 (b4 (b4 (b4 (b4 (S.l1.a6 _).dep 1) 0) 0) 0) (-2)) (-1)=_
  rw[hS]
  show b4 (b4 (b4 (b4 (b4 (b4 (b4 S.dep 1) 1) 0) 0) 0) (-2)) (-1)=_
  rw[hd];simp only[i9];congr 1;omega
theorem Vt (x y:b9) (hd:S.dep=.int d) (aw:iL S) (ak:S.aP+20<aL):aq 10 (.obj (.ref 650)) [.ref 9,c7 (.c6 x y)] (mk P S T) .none (mk P (((S.l1.a6 x).l1.a6 y).bg 81 .none 0) T):=by
 have s1:av 0 S (S.l1.a6 x) 3:=(av.l1.trans av.a6).more (by omega)
 have s2:av 0 S ((S.l1.a6 x).l1.a6 y) 6:=(s1.trans (av.l1.trans av.a6)).more (by omega)
 have ig:(S.l1.a6 x).dep=.int (d+1):=by rw[hS];show b4 S.dep 1=_;rw[hd];rfl
 have kz:((S.l1.a6 x).l1.a6 y).dep=.int (d+1+1):=by rw[hS];show b4 (S.l1.a6 x).dep 1=_;rw[ig];rfl
 exact aq.fu (a:=650) (fi:=⟨wa,[bk,hu],[],Ef.1,none,false⟩) (vs:=[.ref 9,c7 (.c6 x y)]) (cN:=[(bk,.ref 9),(hu,c7 (.c6 x y))]) (by kernel_rfl) rfl (by kernel_rfl) rfl (by kernel_rfl) <|
  ab.cons (ah.expr (ai.a0 (v:=.ref 9) (first:=[.ref 9]) (vs:=[cC x]) I rfl I ((r2 x hd aw (by omega)).mono (by omega)))) <|
  ab.cons (ah.expr (ai.a0 (v:=.ref 9) (first:=[.ref 9]) (vs:=[cC y]) I rfl I ((r2 y ig (s1.con aw) (by have:=s1.aP;omega)).mono (by omega)))) <|
  ab.one (ah.expr (ai.a0 (v:=.ref 11) (first:=[.ref 11]) (vs:=[.int 81]) I rfl I ((pM U4 rfl kz (by have:=s2.aP;omega)).mono (by omega))))
theorem Vu (t:dH) (hd:S.dep=.int d) (aw:iL S) (ak:S.aP+40<aL):aq 12 (.obj (.ref 789)) [.ref 9,c7 t] (mk P S T) .none (mk P (S.az t) T):=by
 have fin:∀{aT:au}{ls},(∃ q,aT.dep=.int q)→aT.aP<aL→ab 11 ⟨nL.scope,[],none,[(bk,.ref 9),(hu,ls)]⟩ [bQ qM.1 1] (mk P aT T) .next [(bk,.ref 9),(hu,ls)] (mk P aT.pop T):=fun dk h=>by
  obtain ⟨q,dk⟩:=dk
  exact ab.one (ah.expr (ai.a0 (v:=.ref 11) (first:=[.ref 11]) (vs:=[.int 6]) I rfl I ((xO dk h).mono (by omega))))
 have sn:∀(n:fU),aq 8 (.obj (.ref 461)) [.ref 9,.str n.s] (mk P S T) .none (mk P (S.fV n) T):=fun n=>Vp n hd aw (by omega)
 have xP:∀ n,(∃ q,(S.fV n).dep=.int q)∧(S.fV n).aP<aL:=fun n=>⟨⟨_,by rw[BW,hd];rfl⟩,by have:=(av.fV (n:=0) (S:=S) (q:=n)).aP;omega⟩
 cases t with
 |b7 n=>exact aq.fu (a:=789) (fi:=⟨nL,[bk,hu],[],qM.1,none,false⟩) (vs:=[.ref 9,c7 (.b7 n)]) (cN:=[(bk,.ref 9),(hu,c7 (.b7 n))]) (by kernel_rfl) rfl (by kernel_rfl) rfl (by kernel_rfl) <|
  ab.cons (ah.iff I (ab.eP I (ab.one (ah.expr (ai.a0 (v:=.ref 9) (first:=[.ref 9]) (vs:=[.str n.s]) I rfl I ((sn n).mono (by omega))))))) (fin (xP n).1 (xP n).2)
 |var=>exact aq.fu (a:=789) (fi:=⟨nL,[bk,hu],[],qM.1,none,false⟩) (vs:=[.ref 9,c7 .var]) (cN:=[(bk,.ref 9),(hu,c7 .var)]) (by kernel_rfl) rfl (by kernel_rfl) rfl (by kernel_rfl) <|
  ab.cons (ah.cm I (ab.one (ah.expr (ai.a0 (v:=.ref 9) (first:=[.ref 9]) (vs:=[.str m8]) I rfl I ((sn .w).mono (by omega)))))) (fin (xP .w).1 (xP .w).2)
 |mem n =>
  have s1:av 0 S (S.l1.a6 n) 3:=(av.l1.trans av.a6).more (by omega)
  have ig:(S.l1.a6 n).dep=.int (d+1):=by rw[hS];show b4 S.dep 1=_;rw[hd];rfl
  have kz:((S.l1.a6 n).bg 9 .none 0).dep=.int (d+1+0):=by show b4 (S.l1.a6 n).dep 0=_;rw[ig];rfl
  have s2:av 0 S ((S.l1.a6 n).bg 9 .none 0) 5:=s1.trans (av.bg rfl)
  have s3:av 0 S (((S.l1.a6 n).bg 9 .none 0).dO 24 (.str iK) (-1)) 8:=s2.trans (av.dO rfl)
  exact aq.fu (a:=789) (fi:=⟨nL,[bk,hu],[],qM.1,none,false⟩) (vs:=[.ref 9,c7 (.mem n)]) (cN:=[(bk,.ref 9),(hu,c7 (.mem n))]) (by kernel_rfl) rfl (by kernel_rfl) rfl (by kernel_rfl) <|
   ab.cons (ah.iff I<|ab.bx I<|ab.eP I <|
    ab.cons (ah.expr (ai.a0 (v:=.ref 9) (first:=[.ref 9]) (vs:=[cC n]) I rfl I ((r2 n hd aw (by omega)).mono (by omega)))) <|
    ab.cons (ah.expr (ai.a0 (v:=.ref 11) (first:=[.ref 11]) (vs:=[.int 9]) I rfl I ((pM UT rfl ig (by have:=s1.aP;omega)).mono (by omega)))) <|
    ab.one (ah.expr (ai.a0 (v:=.ref 11) (first:=[.ref 11]) (vs:=[.int 24,.str iK]) I rfl I ((BP (k:=-1) U0 rfl kz rfl (s2.con aw) (by have:=s2.aP;omega)).mono (by omega)))))
    (fin ⟨_,by rw[BX,kz];rfl⟩ (by have:=s3.aP;omega))
 |c6 x y =>
  have iJ:=Vt (P:=P) (T:=T) x y hd aw (by omega)
  have s1:av 0 S (((S.l1.a6 x).l1.a6 y).bg 81 .none 0) 8:=((av.l1.trans av.a6).trans (av.l1.trans av.a6)).trans (av.bg rfl)
  have ig:(((S.l1.a6 x).l1.a6 y).bg 81 .none 0).dep=.int (d+1+1+0):=by
   show b4 ((S.l1.a6 x).l1.a6 y).dep 0=_
   rw[hS];show b4 (b4 (S.l1.a6 x).dep 1) 0=_
   rw[hS];show b4 (b4 (b4 S.dep 1) 1) 0=_
   rw[hd];rfl
  have kz:((((S.l1.a6 x).l1.a6 y).bg 81 .none 0).bg 10 .none 0).dep=.int (d+1+1+0+0):=by show b4 (au.bg _ _ _ _).dep 0=_;rw[ig];rfl
  have xQ:(((((S.l1.a6 x).l1.a6 y).bg 81 .none 0).bg 10 .none 0).bg 10 .none 0).dep=.int (d+1+1+0+0+0):=by show b4 (au.bg _ _ _ _).dep 0=_;rw[kz];rfl
  have s2:av 0 S ((((S.l1.a6 x).l1.a6 y).bg 81 .none 0).bg 10 .none 0) 10:=s1.trans (av.bg rfl)
  have s3:av 0 S (((((S.l1.a6 x).l1.a6 y).bg 81 .none 0).bg 10 .none 0).bg 10 .none 0) 12:=s2.trans (av.bg rfl)
  have s4:av 0 S ((((((S.l1.a6 x).l1.a6 y).bg 81 .none 0).bg 10 .none 0).bg 10 .none 0).bg 26 .none (-2)) 14:=s3.trans (av.bg rfl)
  exact aq.fu (a:=789) (fi:=⟨nL,[bk,hu],[],qM.1,none,false⟩) (vs:=[.ref 9,c7 (.c6 x y)]) (cN:=[(bk,.ref 9),(hu,c7 (.c6 x y))]) (by kernel_rfl) rfl (by kernel_rfl) rfl (by kernel_rfl) <|
   ab.cons (ah.iff I<|ab.bx I<|ab.bx I <|
    ab.cons (ah.expr (ai.a0 (v:=.ref 9) (first:=[.ref 9]) (vs:=[c7 (.c6 x y)]) I rfl I (iJ.mono (by omega)))) <|
    ab.cons (ah.expr (ai.a0 (v:=.ref 11) (first:=[.ref 11]) (vs:=[.int 10]) I rfl I ((pM H0 rfl ig (by have:=s1.aP;omega)).mono (by omega)))) <|
    ab.cons (ah.expr (ai.a0 (v:=.ref 11) (first:=[.ref 11]) (vs:=[.int 10]) I rfl I ((pM H0 rfl kz (by have:=s2.aP;omega)).mono (by omega)))) <|
    ab.one (ah.expr (ai.a0 (v:=.ref 11) (first:=[.ref 11]) (vs:=[.int 26]) I rfl I ((pM (k:=-2) U1 rfl xQ (by have:=s3.aP;omega)).mono (by omega)))))
    (fin ⟨_,by show b4 (au.bg _ _ _ _).dep (-2)=_;rw[xQ];rfl⟩ (by have:=s4.aP;omega))
end
section
set_option backward.match.sparseCases false
inductive bF where
 |b7 (n:b9) |el |fg (k:Int) |du (n:b9) (b:bF) |fin (t:dH) (n:b9) (b:bF) |dg (b c:bF) |two (a b:bF)
noncomputable def au.cZ (S:au) (l:Nat):au:=(eM S.dep).elim ((S.put l).cI ((S.bB[l]?).getD .none)) fun d=>(S.meet l d).put l
noncomputable def au.mark (S:au):au:=S.ay.cZ S.ag.length
noncomputable def au.fH (S:au) (x y z:Nat) (d:Int):au:={S with bH:=S.bH++[.tup [.int x,.int y,.int z,.int d,.bool false]]}
noncomputable def au.enter (S:au) (l:Nat) (d:Int):au:=((S.meet l d).put l).cI (.int d)
noncomputable def au.md (S:au):Bool:=(eM S.dep).isSome
noncomputable def au.gx (S:au):Int:=match S.dep with
 |.int d=>d
 |_=>0
noncomputable def fw (S:au) (n:b9):au:=(((S.l1.ay.ay).l1.cZ (S.ag.length+1)).l1.a6 n).iN S.ag.length
noncomputable def me (S aT:au):au:=(aT.jmp (S.ag.length+1)).cZ S.ag.length
noncomputable def fh (S:au) (t:dH) (n:b9):au:=((((((S.l1.ay.ay).l1.l1.a6 n).bg 76 .none 0).cZ (S.ag.length+1)).hv S.ag.length).az t)
noncomputable def r4 (S aT:au):au:=((aT.jmp (S.ag.length+1)).cZ S.ag.length).pop
noncomputable def cF (S:au):au:=S.l1.ay.ay.mark
noncomputable def gy (S aT:au):au :=
 let cu:=aT.mark.jmp S.ag.length
 let Vv:=(cu.ay.fH (S.ag.length+2) aT.ag.length cu.ag.length S.gx).enter cu.ag.length (S.gx+1)
 ((Vv.bg 17 (.int 3) 0).bg 14 (.int 3) 0).pop
noncomputable def oA (S aT:au):au:=(aT.jmp S.ag.length).cZ S.ag.length
noncomputable def comp:bF→au→au
 |.b7 n,S=>(S.l1.l1.a6 n).pop
 |.el,S=>((S.l1.l1.unit mc).bg 67 (.int S.d1.length) 1).pop
 |.fg k,S=>((S.l1.l1.dO 4 (.int k) 1).emit 66 .none).cI .none
 |.du n b,S=>me S (comp b (fw S n))
 |.fin t n b,S=>r4 S (comp b (fh S t n))
 |.dg b c,S=>oA S (comp c (gy S (comp b (cF S))))
 |.two a b,S=>match (comp a S).md with
  |true=>comp b (comp a S)
  |false=>comp a S
noncomputable def cQ:bF→Nat
 |.b7 _=>10
 |.el=>10
 |.fg _=>10
 |.du _ b=>cQ b+40
 |.fin _ _ b=>cQ b+80
 |.dg b c=>cQ b+cQ c+60
 |.two a b=>cQ a+cQ b
section
variable {n k:Nat}{S aT:au}{d e:Int}{l:Nat}{a v:V}
theorem fI (hd:S.dep=.int d):S.cZ l=(S.meet l d).put l:=by unfold au.cZ;rw[hd];rfl
theorem la (hd:S.dep=.none) (h:S.bB[l]?=some v):S.cZ l=(S.put l).cI v:=by unfold au.cZ;rw[hd,h];rfl
theorem av.cZ (h:n≤l):av n S (S.cZ l) 0 :=
 hx (C:=fun F=>av n S F 0) ((av.put h).trans av.cI) fun d=>(av.meet h).trans (av.put h)
theorem av.mark (h:n≤S.ag.length) (he:S.bB.length=S.ag.length):av n S S.mark 2:=(av.ay h he).trans (av.cZ h)
theorem av.fH {x y z:Nat}:av n S (S.fH x y z d) 1:=by
 refine ⟨id,id,?_,fun ⟨h1,af,aB,bu,dC,eF,eT⟩=>⟨h1,af,aB,bu,dC,ni eF rfl,eT⟩,fun _ _=>⟨rfl,rfl⟩,Nat.le_refl _,Nat.le_refl _⟩
 unfold au.aP au.fH;simp;omega
theorem av.enter (h:n≤l):av n S (S.enter l d) 0:=((av.meet h).trans (av.put h)).trans av.cI
theorem kA (S:au):S.ay.ag.length=S.ag.length+1:=by unfold au.ay;simp
theorem Ic:(S.iN l).ag=S.ag:=hx (C:=fun F:au=>F.ag=S.ag) rfl fun _=>rfl
theorem Ie:(S.hv l).ag=S.ag:=hx (C:=fun F:au=>F.ag=S.ag) rfl fun _=>rfl
theorem oB:(S.jmp l).ag=S.ag:=hx (C:=fun F:au=>F.ag=S.ag) rfl fun _=>rfl
theorem xR:(S.cst v).ag=S.ag∧(S.cst v).bB=S.bB:=by unfold au.cst;split <;> exact ⟨rfl,rfl⟩
theorem jR (q:b9):(S.a6 q).ag=S.ag∧(S.a6 q).bB=S.bB:=by
 cases q <;> first |exact ⟨rfl,rfl⟩ |exact xR
theorem Ig (q:fU):(S.fV q).ag=S.ag∧(S.fV q).bB=S.bB:=by
 cases q <;> first |exact ⟨rfl,rfl⟩ |exact xR
theorem xS (t:dH):(S.az t).ag=S.ag∧(S.az t).bB=S.bB:=by
 cases t
 ·exact Ig _
 ·exact Ig _
 ·exact ⟨(xR (S:=(S.l1.a6 _).bg 9 .none 0)).1.trans (jR _).1,(xR (S:=(S.l1.a6 _).bg 9 .none 0)).2.trans (jR _).2⟩
 ·exact ⟨(jR _).1.trans (jR (S:=S.l1) _).1,(jR _).2.trans (jR (S:=S.l1) _).2⟩
theorem oC (S:au) (he:S.bB.length=S.ag.length):S.ay.ay.ag[S.ag.length]?=some (.int (-1))∧S.ay.ay.ag[S.ag.length+1]?=some (.int (-1))∧S.ay.ay.bB[S.ag.length]?=some .none∧S.ay.ay.bB[S.ag.length+1]?=some .none∧S.ay.ay.ag.length=S.ag.length+2∧S.ay.ay.bB.length=S.ag.length+2:=by
 unfold au.ay
 dsimp only
 refine ⟨?_,?_,?_,?_,?_,?_⟩
 ·simp
 ·rw[show S.ag.length+1=(S.ag++[V.int (-1)]).length by simp];simp
 ·rw[←he];simp
 ·rw[show S.ag.length+1=(S.bB++[V.none]).length by simp[he]];simp
 ·simp
 ·simp[he]
structure xT (S hc:au) (d:Int):Prop where
 dep:hc.dep=.int d
 iI:hc.ag[S.ag.length]?=some (.int (-1))
 hP:hc.bB[S.ag.length]?=some (.int d)
 a2:hc.bB[S.ag.length+1]?=some (.int d)
 len:hc.ag.length=S.ag.length+2
theorem r5 {i:Nat}(h:i≠l):(S.meet l d).bB[i]?=S.bB[i]?:=List.getElem?_set_ne (fun q=>h q.symm)
theorem oD (h:l<S.bB.length):(S.meet l d).bB[l]?=some (.int d):=List.getElem?_set_self h
theorem xU {i:Nat}(h:i≠l):(S.put l).ag[i]?=S.ag[i]?:=List.getElem?_set_ne (fun q=>h q.symm)
theorem uN (hd:S.dep=.int d):S.iN l=((S.meet l (d - 1)).emit 59 (.int l)).cI (.int (d - 1)):=by unfold au.iN;rw[hd];rfl
theorem r6 (hd:S.dep=.int d):S.hv l=((S.meet l d).emit 77 (.int l)).cI (.int (d+1)):=by unfold au.hv;rw[hd];rfl
theorem pU (hd:S.dep=.int d):S.jmp l=((S.meet l d).emit 58 (.int l)).cI .none:=by unfold au.jmp;rw[hd];rfl
theorem r7 (hd:S.dep=.none):S.jmp l=S:=by unfold au.jmp;rw[hd];rfl
theorem xV (nm:b9) (hd:S.dep=.int d) (he:S.bB.length=S.ag.length):xT S (fw S nm) d∧av S.ag.length S (fw S nm) 9:=by
 obtain ⟨aG,a3,c4,dQ,eC,hF⟩:=oC S.l1 he
 have ao:(S.l1.ay.ay).l1.dep=.int d:=hd
 have aC:((((S.l1.ay.ay).l1.cZ (S.ag.length+1)).l1.a6 nm)).dep=.int (d+1):=by
  rw[hS,fI ao];show b4 ((S.l1.ay.ay).l1).dep 1=_;rw[ao];rfl
 have s0:av S.ag.length S (S.l1.ay.ay).l1 4:=((av.l1.trans (av.ay (Nat.le_refl _) he)).trans ((av.ay (S:=S.l1.ay) (by rw[kA];exact Nat.le_succ _) (by unfold au.ay;simp;exact he)).trans av.l1)).more (by omega)
 refine ⟨⟨?_,?_,?_,?_,?_⟩,?_⟩
 ·unfold fw;rw[uN aC];show V.int (d+1 - 1)=_;congr 1;omega
 ·unfold fw;rw[Ic,(jR nm).1,fI ao]
  exact (xU (by omega)).trans aG
 ·unfold fw;rw[uN aC]
  refine (oD ?_).trans (by congr 2;omega)
  rw[(jR nm).2,fI ao]
  show S.ag.length<((S.l1.ay.ay).bB.set _ _).length
  rw[List.length_set,hF];show S.ag.length<S.ag.length+2;omega
 ·unfold fw;rw[uN aC]
  refine (r5 (by omega)).trans ?_
  rw[(jR nm).2,fI ao]
  exact oD (by show _<(S.l1.ay.ay).bB.length;rw[hF];show S.ag.length+1<S.ag.length+2;omega)
 ·unfold fw;rw[Ic,(jR nm).1,fI ao]
  show ((S.l1.ay.ay).ag.set _ _).length=_
  rw[List.length_set,eC];rfl
 ·exact ((((s0.trans (av.cZ (by omega))).trans av.l1).trans av.a6).trans (av.iN (Nat.le_refl _))).more (by omega)
theorem xT.keep {hc pV:au}(x:xT S hc d) (s:av hc.ag.length hc pV k):pV.ag[S.ag.length]?=some (.int (-1))∧pV.bB[S.ag.length]?=some (.int d)∧pV.bB[S.ag.length+1]?=some (.int d) :=
 have l:=x.len
 ⟨(s.old _ (by omega)).1.trans x.iI,(s.old _ (by omega)).2.trans x.hP,(s.old _ (by omega)).2.trans x.a2⟩
theorem kB (h:S.dep=.int d∨S.dep=.none):(S.jmp l).dep=.none:=by
 rcases h with h |h
 ·rw[pU h];rfl
 ·rw[r7 h];exact h
theorem r8 {i:Nat}(h:i≠l):(S.jmp l).bB[i]?=S.bB[i]? :=
 hx (C:=fun F:au=>F.bB[i]?=S.bB[i]?) rfl fun _=>r5 h
end
end
section
variable {n k:Nat}{S aT:au}{d e:Int}{l:Nat}{a v:V}
theorem xW (t:dH) (nm:b9) (hd:S.dep=.int d) (he:S.bB.length=S.ag.length):xT S (fh S t nm) (d+1)∧av S.ag.length S (fh S t nm) 31:=by
 obtain ⟨aG,a3,c4,dQ,eC,hF⟩:=oC S.l1 he
 have ao:(((S.l1.ay.ay).l1.l1.a6 nm).bg 76 .none 0).dep=.int (d+1+0):=by
  show b4 ((S.l1.ay.ay).l1.l1.a6 nm).dep 0=_
  rw[hS];show b4 (b4 S.dep 1) 0=_;rw[hd];rfl
 rw[Int.add_zero] at ao
 have gc:(((S.l1.ay.ay).l1.l1.a6 nm).bg 76 .none 0).ag=(S.l1.ay.ay).ag∧(((S.l1.ay.ay).l1.l1.a6 nm).bg 76 .none 0).bB=(S.l1.ay.ay).bB:=jR (S:=(S.l1.ay.ay).l1.l1) nm
 have aC:((((S.l1.ay.ay).l1.l1.a6 nm).bg 76 .none 0).cZ (S.ag.length+1)).dep=.int (d+1):=by rw[fI ao];exact ao
 have cL:(((((S.l1.ay.ay).l1.l1.a6 nm).bg 76 .none 0).cZ (S.ag.length+1)).hv S.ag.length).dep=.int (d+1+1):=by rw[r6 aC];rfl
 have s0:av S.ag.length S (S.l1.ay.ay).l1 4:=((av.l1.trans (av.ay (Nat.le_refl _) he)).trans ((av.ay (S:=S.l1.ay) (by rw[kA];exact Nat.le_succ _) (by unfold au.ay;simp;exact he)).trans av.l1)).more (by omega)
 refine ⟨⟨?_,?_,?_,?_,?_⟩,?_⟩
 ·unfold fh;rw[Vs cL];congr 1;omega
 ·unfold fh;rw[(xS t).1,Ie,fI ao]
  refine (xU (by omega)).trans ?_
  show (((S.l1.ay.ay).l1.l1.a6 nm).bg 76 .none 0).ag[_]?=_
  rw[gc.1];exact aG
 ·unfold fh;rw[(xS t).2,r6 aC]
  refine oD ?_
  rw[fI ao]
  show S.ag.length<(List.set _ _ _).length
  rw[List.length_set,gc.2,hF];show S.ag.length<S.ag.length+2;omega
 ·unfold fh;rw[(xS t).2,r6 aC]
  refine (r5 (by omega)).trans ?_
  rw[fI ao]
  exact oD (by rw[gc.2,hF];show S.ag.length+1<S.ag.length+2;omega)
 ·unfold fh;rw[(xS t).1,Ie,fI ao]
  show (List.set _ _ _).length=_
  rw[List.length_set]
  show (((S.l1.ay.ay).l1.l1.a6 nm).bg 76 .none 0).ag.length=_
  rw[gc.1,eC];rfl
 ·exact ((((((s0.trans av.l1).trans av.a6).trans (av.bg rfl)).trans (av.cZ (by omega))).trans (av.hv (Nat.le_refl _))).trans av.az).more (by omega)
structure Ih (S hc:au) (d:Int):Prop where
 dep:hc.dep=.int d
 ao:hc.ag[S.ag.length]?=some (.int (-1))
 aC:hc.fits S.ag.length d
 len:S.ag.length<hc.ag.length
theorem xX (hd:S.dep=.int d) (he:S.bB.length=S.ag.length):Ih S (cF S) d∧av S.ag.length S (cF S) 6∧(cF S).bB[S.ag.length]?=some .none∧(cF S).ag.length=S.ag.length+3:=by
 obtain ⟨aG,a3,c4,dQ,eC,hF⟩:=oC S.l1 he
 have ao:(S.l1.ay.ay).ay.dep=.int d:=hd
 have oE:(S.l1.ay.ay).ag.length=S.ag.length+2:=eC
 have mf:(S.l1.ay.ay).bB.length=S.ag.length+2:=hF
 have aS:(cF S).bB[S.ag.length]?=some .none:=by
  unfold cF au.mark
  rw[fI ao]
  refine (r5 (by rw[eC];show S.ag.length≠S.ag.length+2;omega)).trans ?_
  show ((S.l1.ay.ay).bB++[V.none])[S.ag.length]?=_
  rw[List.getElem?_append_left (by omega)];exact c4
 refine ⟨⟨?_,?_,.inl aS,?_⟩,?_,aS,?_⟩
 ·unfold cF au.mark;rw[fI ao];exact hd
 ·unfold cF au.mark
  rw[fI ao]
  refine (xU (by rw[eC];show S.ag.length≠S.ag.length+2;omega)).trans ?_
  show ((S.l1.ay.ay).ag++[V.int (-1)])[S.ag.length]?=_
  rw[List.getElem?_append_left (by omega)];exact aG
 ·unfold cF au.mark;rw[fI ao]
  show _<(List.set _ _ _).length
  rw[List.length_set];show _<((S.l1.ay.ay).ag++[V.int (-1)]).length;simp[oE];omega
 ·exact ((av.l1.trans (av.ay (Nat.le_refl _) he)).trans ((av.ay (S:=S.l1.ay) (by rw[kA];exact Nat.le_succ _) (by unfold au.ay;simp;exact he)).trans (av.mark (by omega) (by omega)))).more (by omega)
 ·unfold cF au.mark;rw[fI ao]
  show (List.set _ _ _).length=_
  rw[List.length_set];show ((S.l1.ay.ay).ag++[V.int (-1)]).length=_;simp[oE]
theorem BY (h:S.dep=.int d∨S.dep=.none) (he:S.bB.length=S.ag.length):S.mark.dep=S.dep:=by
 unfold au.mark
 rcases h with h |h
 ·rw[fI (S:=S.ay) h];rfl
 ·rw[la (S:=S.ay) h (uI S he),h];rfl
theorem BZ {i:Nat}(aM:i<S.ag.length) (he:S.bB.length=S.ag.length):S.mark.ag[i]?=S.ag[i]?∧S.mark.bB[i]?=S.bB[i]?:=(av.mark (n:=S.ag.length) (Nat.le_refl _) he).old i aM
theorem xY (hd:S.dep=.int d) (oj:aT.bB.length=aT.ag.length) (h' : aT.dep=.int d∨aT.dep=.none) (hl:S.ag.length<aT.ag.length) (h1:aT.ag[S.ag.length]?=some (.int (-1))) (af:aT.bB[S.ag.length]?=some .none) :
 Ih S (gy S aT) d∧av S.ag.length aT (gy S aT) 13:=by
 have gx:S.gx=d:=by unfold au.gx;rw[hd]
 obtain ⟨B0,lY⟩:=BZ hl oj
 have lb:=BY h' oj
 have kr:=av.mark (n:=S.ag.length) (Nat.le_of_lt hl) oj
 have Vw:aT.mark.bB.length=aT.mark.ag.length:=kr.len oj
 have r9:av S.ag.length aT (aT.mark.jmp S.ag.length) 4:=kr.trans (av.jmp (Nat.le_refl _))
 have Vx:(aT.mark.jmp S.ag.length).bB.length=(aT.mark.jmp S.ag.length).ag.length:=r9.len oj
 have lt:S.ag.length<(aT.mark.jmp S.ag.length).ag.length:=Nat.lt_of_lt_of_le hl r9.eV
 have f1:(aT.mark.jmp S.ag.length).ag[S.ag.length]?=some (.int (-1)):=by rw[oB,B0];exact h1
 have f2:(aT.mark.jmp S.ag.length).fits S.ag.length d:=by
  rcases h' with h' |h'
  ·rw[pU (lb.trans h')]
   exact .inr (oD (by rw[Vw];exact Nat.lt_of_lt_of_le hl kr.eV))
  ·rw[r7 (lb.trans h')]
   exact .inl (lY.trans af)
 generalize cL:aT.mark.jmp S.ag.length=cu at *
 have s5:av cu.ag.length cu ((cu.ay.fH (S.ag.length+2) aT.ag.length cu.ag.length S.gx).enter cu.ag.length (S.gx+1)) 3:=(((av.ay (Nat.le_refl _) Vx).trans av.fH).trans (av.enter (Nat.le_refl _))).more (by omega)
 have lH:av cu.ag.length cu (gy S aT) 9:=by
  unfold gy
  rw[cL]
  exact (((s5.trans (av.bg rfl)).trans (av.bg rfl)).trans av.pop).more (by omega)
 have o:=lH.old _ lt
 refine ⟨⟨?_,o.1.trans f1,?_,Nat.lt_of_lt_of_le lt lH.eV⟩,(r9.trans (lH.less (by omega))).more (by omega)⟩
 ·unfold gy
  show b4 (b4 (b4 (V.int (S.gx+1)) 0) 0) (-1)=_
  rw[gx];simp only[i9];congr 1;omega
 ·unfold au.fits at f2 ⊢
  rw[o.2];exact f2
theorem kC {op:Int}:(S.emit op a).aN.length=S.aN.length+1:=by unfold au.emit;simp
theorem Ii {op:Int}(s:av n S aT k):S.aN.length<(aT.bg op a e).aN.length:=by
 show _<(aT.emit op a).aN.length
 rw[kC];exact Nat.lt_succ_of_le s.i8
theorem Ij (hd:S.dep=.int d∨S.dep=.none) (hf:S.fits l d) (hl:l<S.bB.length):(S.jmp l).bB[l]?=some (.int d)∨(S.jmp l).bB[l]?=some .none:=by
 rcases hd with h |h
 ·rw[pU h];exact .inl (oD hl)
 ·rw[r7 h];rcases hf with f |f
  ·exact .inr f
  ·exact .inl f
theorem B1 (h:S.dep=.int d):S.md=true:=by unfold au.md;rw[h];rfl
theorem B2 (h:S.dep=.none):S.md=false:=by unfold au.md;rw[h];rfl
structure Ik (t:bF) (S:au) (d:Int):Prop where
 st:av S.ag.length S (comp t S) (cQ t)
 dep:(comp t S).dep=.int d∨(comp t S).dep=.none
 lt:S.aN.length<(comp t S).aN.length
theorem gL:∀(t:bF) (S:au) (d:Int),S.dep=.int d→S.bB.length=S.ag.length→Ik t S d
 |.b7 q,S,d,hd,he=>by
  have s1:av S.ag.length S (S.l1.l1.a6 q) 3:=(av.l1.trans (av.l1.trans av.a6)).more (by omega)
  refine ⟨(s1.trans av.pop).more (by show _≤10;omega),.inl ?_,Ii s1⟩
  show b4 (S.l1.l1.a6 q).dep (-1)=_
  rw[hS];show b4 (b4 S.dep 1) (-1)=_;rw[hd];simp only[i9];congr 1;omega
 |.el,S,d,hd,he=>by
  have s1:av S.ag.length S ((S.l1.l1.unit mc).bg 67 (.int S.d1.length) 1) 3:=(((av.l1.trans av.l1).trans av.unit).trans (av.bg rfl)).more (by omega)
  refine ⟨(s1.trans av.pop).more (by show _≤10;omega),.inl ?_,Ii s1⟩
  show b4 (b4 S.dep 1) (-1)=_;rw[hd];simp only[i9];congr 1;omega
 |.fg k,S,d,hd,he=>by
  have s1:av S.ag.length S (S.l1.l1.dO 4 (.int k) 1) 3:=((av.l1.trans av.l1).trans (av.dO rfl)).more (by omega)
  refine ⟨((s1.trans (av.emit rfl)).trans av.cI).more (by show _≤10;omega),.inr rfl,?_⟩
  show _<((S.l1.l1.dO 4 (.int k) 1).emit 66 .none).aN.length
  rw[kC];exact Nat.lt_succ_of_le s1.i8
 |.du q b,S,d,hd,he=>by
  obtain ⟨w,s0⟩:=xV q hd he
  have i:=gL b (fw S q) d w.dep (s0.len he)
  obtain ⟨dM,ew,kR⟩:=w.keep i.st
  have s1:av S.ag.length S (comp b (fw S q)) (9+cQ b):=s0.trans (i.st.less (by rw[w.len];omega))
  refine ⟨((s1.trans (av.jmp (Nat.le_succ _))).trans (av.cZ (Nat.le_refl _))).more (by show _≤cQ b+40;omega),.inl ?_,?_⟩
  ·show (me S (comp b (fw S q))).dep=_
   unfold me
   rw[la (kB i.dep) ((r8 (by omega)).trans ew)];rfl
  ·exact Nat.lt_of_lt_of_le (Nat.lt_of_le_of_lt s0.i8 i.lt) ((av.jmp (n:=0) (Nat.zero_le _)).trans (av.cZ (n:=0) (Nat.zero_le _))).i8
 |.fin t q b,S,d,hd,he=>by
  obtain ⟨w,s0⟩:=xW t q hd he
  have i:=gL b (fh S t q) (d+1) w.dep (s0.len he)
  obtain ⟨dM,ew,kR⟩:=w.keep i.st
  have s1:av S.ag.length S (comp b (fh S t q)) (31+cQ b):=s0.trans (i.st.less (by rw[w.len];omega))
  refine ⟨(((s1.trans (av.jmp (Nat.le_succ _))).trans (av.cZ (Nat.le_refl _))).trans av.pop).more (by show _≤cQ b+80;omega),.inl ?_,?_⟩
  ·show (r4 S (comp b (fh S t q))).dep=_
   unfold r4
   rw[la (kB i.dep) ((r8 (by omega)).trans ew)]
   show b4 (V.int (d+1)) (-1)=_
   simp only[i9];congr 1;omega
  ·exact Nat.lt_of_lt_of_le (Nat.lt_of_le_of_lt s0.i8 i.lt) (((av.jmp (n:=0) (Nat.zero_le _)).trans (av.cZ (n:=0) (Nat.zero_le _))).trans av.pop).i8
 |.dg b c,S,d,hd,he=>by
  obtain ⟨w,s0,aS,bf⟩:=xX hd he
  have i:=gL b (cF S) d w.dep (s0.len he)
  have s1:av S.ag.length S (comp b (cF S)) (6+cQ b):=s0.trans (i.st.less (by rw[bf];omega))
  have o:=i.st.old S.ag.length (by rw[bf];omega)
  have l1:S.ag.length<(comp b (cF S)).ag.length:=Nat.lt_of_lt_of_le w.len i.st.eV
  obtain ⟨w',s2⟩:=xY hd (s1.len he) i.dep l1 (o.1.trans w.ao) (o.2.trans aS)
  have s3:=s1.trans s2
  have j:=gL c (gy S (comp b (cF S))) d w'.dep (s3.len he)
  have s4:=s3.trans (j.st.less (Nat.le_of_lt w'.len))
  have o':=j.st.old S.ag.length w'.len
  have f:(comp c (gy S (comp b (cF S)))).fits S.ag.length d:=by
   have:=w'.aC
   unfold au.fits at this ⊢
   rw[o'.2];exact this
  have l2:S.ag.length<(comp c (gy S (comp b (cF S)))).bB.length:=by
   rw[s4.len he];exact Nat.lt_of_lt_of_le w'.len j.st.eV
  refine ⟨((s4.trans (av.jmp (Nat.le_refl _))).trans (av.cZ (Nat.le_refl _))).more (by show _≤cQ b+cQ c+60;omega),?_,?_⟩
  ·show (oA S (comp c (gy S (comp b (cF S))))).dep=_∨(oA S (comp c (gy S (comp b (cF S))))).dep=_
   unfold oA
   rcases Ij j.dep f l2 with h |h
   ·rw[la (kB j.dep) h];exact .inl rfl
   ·rw[la (kB j.dep) h];exact .inr rfl
  ·exact Nat.lt_of_lt_of_le (Nat.lt_of_le_of_lt s3.i8 j.lt) ((av.jmp (n:=0) (Nat.zero_le _)).trans (av.cZ (n:=0) (Nat.zero_le _))).i8
 |.two a b,S,d,hd,he=>by
  have i:=gL a S d hd he
  rcases i.dep with h |h
  ·have j:=gL b (comp a S) d h (i.st.len he)
   have e:comp (.two a b) S=comp b (comp a S):=by show (match (comp a S).md with |true=>_ |false=>_)=_;rw[B1 h]
   have st:=i.st.trans (j.st.less i.st.eV)
   exact ⟨by rw[e];exact st,by rw[e];exact j.dep,by rw[e];exact Nat.lt_of_lt_of_le i.lt j.st.i8⟩
  ·have e:comp (.two a b) S=comp a S:=by show (match (comp a S).md with |true=>_ |false=>_)=_;rw[B2 h]
   exact ⟨by rw[e];exact i.st.more (by show cQ a≤cQ a+cQ b;omega),by rw[e];exact i.dep,by rw[e];exact i.lt⟩
end
section
variable {d a:Nat}{fi:eS}{args vs us:List V}{H H1 H' G:List aj}{f:cA}{ls:List (Str×V)}{v x u:V}{r:Nat}
theorem aq.jv {cN:List (Str×V)}(hf:c2 a dF=some fi) (aV:ki fi args=some vs) (aw:ee fi.fd.scope.names=[]) (bZ:fi.jv=true) (hl:hL fi.fd.scope.names (fi.ps.zip vs)=cN)
 (h:ab d ⟨fi.fd.scope,[],fi.tab,cN⟩ fi.body H f ls H1) (ar:∀ aa,fin H.length (iB f) ⟨H1,aa⟩=some (u,⟨H',aa⟩)):aq (d+1) (.obj (.ref a)) args H u H':=aq.gen hf aV aw rfl rfl hl h fun aa=>(en bZ).trans (ar aa)
theorem aq.bi {id:String}(h:∀ aa,wC id args ⟨H,aa⟩=some (v,⟨H',aa⟩)):aq 1 (.obj (.builtin id)) args H v H':=fun aa o=>⟨aa,o,1,fun N n a b=>match N,n,a,b with
 |N+1,n+1,_,_=>h aa⟩
theorem aq.Il {id:String}{q:Prop}(dk:q) (h:∀ aa,wC id args ⟨H,aa⟩=some (v,⟨H',aa∧q⟩)):aq 1 (.obj (.builtin id)) args H v H':=fun aa o=>⟨aa∧q,⟨o,dk⟩,1,fun N n a b=>match N,n,a,b with
 |N+1,n+1,_,_=>h aa⟩
theorem aq.pop (h:H[r]?=some (.list (vs++[x]))):aq 1 (.obj (.builtin "list.pop")) [.ref r] H x (H.set r (.list vs)):=aq.bi fun aa=>by
 show nW _ _ _=_
 unfold nW
 rw[if_neg (by decide),if_pos rfl]
 exact (bj (congrArg dA h)).trans (by simp)
theorem aq.app (h:H[r]?=some (.list vs)) (ak:vs.length<aL):aq 1 (.obj (.builtin "list.append")) [.ref r,x] H .none (H.set r (.list (vs++[x]))):=aq.Il ak fun aa=>by
 show nX _ _ _ _=_
 unfold nX
 rw[if_pos rfl]
 exact bj (congrArg dA h)
end
section
variable {d:Nat}{fr:a5}{H H1 H2:List aj}{xs:List Str}{us:List V}{bp aD:List PySem.Expr}{az uO:Nat}{di Im p:Pos}
theorem ah.mh (h:ai d fr (.Tuple aD uO Im) H (.tup us) H1) (bA:jA fr bp=some xs) (hd:(mW xs&&aD.any tH)=true) (hl:Nat.beq us.length xs.length=true):ah d fr (.Assign [.Tuple bp az di] (.Tuple aD uO Im) p) H .next (h4 xs us fr.ls) H1 :=
 h.same fun N n s s1 _ aS _ _=>(rK bA).trans ((en hd).trans ((bj aS).trans (en hl)))
end
section
variable {H:List aj}
theorem Io (k l x y:V):aq 3 (.obj (.ref 506)) [k,l,x,y] H (.ref H.length) (H++[.inst 506 [(c3,k),(i7,l),(ks,x),(ma,y)]]) :=
 aq.cls (d:=1) (ci:=⟨496,_,_⟩) rfl rfl rfl <|
 aq.fu (a:=496) (fi:=⟨v5,[bk,c3,i7,ks,ma],[],Eb.1,none,false⟩) (vs:=[.ref H.length,k,l,x,y]) (cN:=[(bk,.ref H.length),(c3,k),(i7,l),(ks,x),(ma,y)]) (by kernel_rfl) rfl (by kernel_rfl) rfl (by kernel_rfl) <|
  ab.cons (ah.assign (v:=k) I (bq.attr (v:=.ref H.length) (H2:=H++[.inst 506 [(c3,k)]]) I (oz (fs:=[]) (by kernel_rfl)))) <|
  ab.cons (ah.assign (v:=l) I (bq.attr (v:=.ref H.length) (H2:=H++[.inst 506 [(c3,k),(i7,l)]]) I (oz (fs:=[(c3,k)]) (by kernel_rfl)))) <|
  ab.cons (ah.assign (v:=x) I (bq.attr (v:=.ref H.length) (H2:=H++[.inst 506 [(c3,k),(i7,l),(ks,x)]]) I (oz (fs:=[(c3,k),(i7,l)]) (by kernel_rfl)))) <|
  ab.one (ah.assign (v:=y) I (bq.attr (v:=.ref H.length) (H2:=H++[.inst 506 [(c3,k),(i7,l),(ks,x),(ma,y)]]) I (oz (fs:=[(c3,k),(i7,l),(ks,x)]) (by kernel_rfl))))
end
section
set_option backward.match.sparseCases false
mutual
theorem nj {b b' : Nat}(h:b≤b'):∀ v:V,cy b v=true→cy b' v=true
 |.ref i,q=>Nat.blt_eq.mpr (Nat.lt_of_lt_of_le (Nat.blt_eq.mp q) h)
 |.tup vs,q=>ja h vs q
 |.aO vs,q=>ja h vs q
 |.fin _ fs,q=>uP h fs q
 |.fd fs,q=>uP h fs q
 |.fD _ s,q=>nj h s q
 |.none,_=>rfl
 |.bool _,_=>rfl
 |.int _,_=>rfl
 |.str _,_=>rfl
 |.obj _,_=>rfl
 |.lam _ _ _,_=>rfl
 |.cw _ _,q=>q
 |.any,q=>q
theorem ja {b b' : Nat}(h:b≤b'):∀ vs:List V,dG b vs=true→dG b' vs=true
 |[],_=>rfl
 |v::r,q=>Bool.and_eq_true_iff.mpr ⟨nj h v (Bool.and_eq_true_iff.mp q).1,ja h r (Bool.and_eq_true_iff.mp q).2⟩
theorem uP {b b' : Nat}(h:b≤b'):∀ fs:List (Str×V),jz b fs=true→jz b' fs=true
 |[],_=>rfl
 |(_,v)::r,q=>Bool.and_eq_true_iff.mpr ⟨nj h v (Bool.and_eq_true_iff.mp q).1,uP h r (Bool.and_eq_true_iff.mp q).2⟩
end
theorem mi {b b' : Nat}(h:b≤b'):∀ o:aj,cE b o=true→cE b' o=true
 |.list vs,q=>ja h vs q
 |.inst _ fs,q=>uP h fs q
 |.dict fs,q=>uP h fs q
 |.cell (some v),q=>nj h v q
 |.cell none,_=>rfl
 |.tab _ _,_=>rfl
 |.dead,_=>rfl
theorem uQ {b b' : Nat}(h:b≤b') {X:List aj}(q:X.all (cE b)=true):X.all (cE b')=true :=
 List.all_eq_true.mpr fun o m=>mi h o (List.all_eq_true.mp q o m)
noncomputable def uR (P:Pre):Prop:=[P.bz,P.gc,P.ic,P.HH,P.HI,P.HJ,P.HK,P.HL,P.HM].all (cE 23)=true
theorem Ip {P:Pre}{S:au}{X:List aj}:(mk P S X).length=22+X.length:=by unfold mk;simp;omega
theorem B3 {P:Pre}{S:au}{X:List aj}(hy:uR P) (bR:r3 S) (hd:cy 0 S.dep=true) (eK:X.all (cE (22+X.length))=true) (h0:0<X.length):(mk P S X).all (cE (22+X.length))=true:=by
 have bt:23≤22+X.length:=by omega
 generalize 22+X.length=b at *
 have m:∀ o,cE 23 o=true→cE b o=true:=fun o=>mi bt o
 unfold uR at hy
 simp only[List.all_cons,List.all_nil,Bool.and_eq_true] at hy
 obtain ⟨h0,h1,af,aB,bu,dC,eF,eT,m4,_⟩:=hy
 obtain ⟨dc,cH,i2,m1,uS,uT,uU⟩:=bR
 unfold mk
 simp only[List.all_cons,Bool.and_eq_true]
 exact ⟨m _ h0,m _ h1,m _ af,m _ aB,m _ bu,m _ dC,m _ eF,m _ eT,m _ m4,m _ (by kernel_rfl),rfl,
  m _ (by show (true&&(cy 23 S.dep&&(true&&true)))=true;rw[nj (Nat.zero_le _) _ hd];rfl),m _ (by kernel_rfl),
  ja (Nat.zero_le _) _ dc,ja (Nat.zero_le _) _ cH,ja (Nat.zero_le _) _ i2,ja (Nat.zero_le _) _ m1,ja (Nat.zero_le _) _ uS,ja (Nat.zero_le _) _ uT,rfl,rfl,ja (Nat.zero_le _) _ uU,eK⟩
noncomputable abbrev kD:Str:=⟨⟨[110,111,100,101,115]⟩⟩
noncomputable def sa (v:V):List V:=(q2 v).getD [v]
noncomputable def a9:bF→V
 |.b7 n=>ff pO 1 [cC n]
 |.el=>ff pO 1 [jQ]
 |.fg k=>ff BS 1 [ff kx 1 [.int k]]
 |.du n b=>ff pP 1 [cC n,a9 b]
 |.fin t n b=>ff nf 1 [c7 t,cC n,a9 b]
 |.dg b c=>.fin 853 [(c3,.str hb),(eo,.int 1),(dV,.aO [.aO (sa (a9 b)),.str dN,.aO (sa (a9 c)),.none]),(g8,ei)]
 |.two a b=>.aO [a9 a,a9 b]
noncomputable def bE (t:bF):List V:=sa (a9 t)
noncomputable def fW:bF→Bool
 |.two _ _=>false
 |_=>true
noncomputable def wf:bF→Bool
 |.du _ b=>fW b&&wf b
 |.fin _ _ b=>fW b&&wf b
 |.dg b c=>wf b&&wf c
 |.two a b=>fW a&&fW b&&(wf a&&wf b)
 |_=>true
noncomputable def bV:bF→Nat
 |.du _ b=>bV b+10
 |.fin _ _ b=>bV b+10
 |.dg b c=>max (bV b) (bV c)+10
 |.two a b=>max (bV a) (bV b)
 |_=>20
structure Inv (P:Pre) (S:au) (aY:List V) (T:List aj) (d:Int) (k:Nat):Prop where
 hy:uR P
 hd:S.dep=.int d
 aw:iL S
 he:S.bB.length=S.ag.length
 bR:r3 S
 ak:S.aP+k+60<aL
 hl:aY.length+k+60<aL
 eK:(aj.list aY::T).all (cE (23+T.length))=true
noncomputable def mj (t:bF):Prop:=∀(P:Pre) (S:au) (aY:List V) (T:List aj) (d:Int),Inv P S aY T d (cQ t)→∃ G:List aj,(aj.list aY::(T++G)).all (cE (23+(T++G).length))=true∧aq (bV t) (.obj (.ref 712)) [.ref 9,a9 t] (mk P S (.list aY::T)) .none (mk P (comp t S) (.list aY::(T++G)))
structure uV (P:Pre) (X:List aj) (nodes:V) (src:Src) (vs:List V):Prop where
 s:∀ S:au,srcOf nodes ⟨mk P S X,True⟩=some src
 i:∀(S:au) (G:List aj) (k:Nat),itemAt src k (mk P S (X++G))=some vs[k]?
 t:∀ t,i0 src t=true
noncomputable def jS (t:bF):Prop:=∀(P:Pre) (S:au) (aY:List V) (T:List aj) (d:Int) (nodes:V) (src:Src),Inv P S aY T d (cQ t)→uV P (.list aY::T) nodes src (bE t)→aq (bV t+3) (.obj (.ref 705)) [.ref 9,nodes] (mk P S (.list aY::T)) .none (mk P (comp t S) (.list aY::T))
section
variable {P:Pre}{S aT:au}{X hT T:List aj}{aY:List V}{d:Int}{D k:Nat}{v nodes:V}{src:Src}{ls:List (Str×V)}
noncomputable abbrev xZ (ls:List (Str×V)):a5:=⟨tj.scope,[],none,ls⟩
noncomputable def Vy (nodes:V) (ls:List (Str×V)):Prop:=ls=[(bk,.ref 9),(kD,nodes)]∨∃ u,ls=[(bk,.ref 9),(kD,nodes),(cJ,u)]
theorem x1 (hd:S.dep=.int d) (c:aq D (.obj (.ref 712)) [.ref 9,v] (mk P S X) .none (mk P aT hT)):ab (D+1) (xZ [(bk,.ref 9),(kD,nodes),(cJ,v)]) (d2 o4.1) (mk P S X) .next [(bk,.ref 9),(kD,nodes),(cJ,v)] (mk P aT hT) :=
 ab.eP (GT.val (ai.a0 (v:=.ref 11) (first:=[.ref 11]) (vs:=[]) I rfl I ((Uy hd).mono (by omega))))
  (ab.one (ah.expr (ai.a0 (v:=.ref 9) (first:=[.ref 9]) (vs:=[v]) I rfl I (c.mono (by omega)))))
theorem Vz (hd:S.dep=.none):ab (D+1) (xZ [(bk,.ref 9),(kD,nodes),(cJ,v)]) (d2 o4.1) (mk P S X) .next [(bk,.ref 9),(kD,nodes),(cJ,v)] (mk P S X) :=
 ab.bx (GT.val (ai.a0 (v:=.ref 11) (first:=[.ref 11]) (vs:=[]) I rfl I ((Uz hd).mono (by omega)))) ab.nil
theorem uW (h:Vy nodes ls):bq (D+1) (xZ ls) (ha o4.1) v (mk P S X) [(bk,.ref 9),(kD,nodes),(cJ,v)] (mk P S X):=by
 rcases h with rfl |⟨u,rfl⟩
 ·exact I
 ·exact I
theorem VA (hy:uR P) (bR:r3 aT) (hd:cy 0 aT.dep=true) (eK:(aj.list aY::T).all (cE (23+T.length))=true) (G:List aj):∀ aa,fin (mk P S (.list aY::T)).length .none ⟨mk P aT (.list aY::(T++G)),aa⟩=some (.none,⟨mk P aT (.list aY::T),aa⟩):=fun aa=>by
 refine pN (ej rfl rfl) ?_ ?_
 ·show (mk P aT (.list aY::T)++G).take (mk P aT (.list aY::T)).length=_
  exact rY
 ·have:=B3 (X:=.list aY::T) hy bR hd (by rw[List.length_cons,Nat.add_comm T.length 1,←Nat.add_assoc];exact eK) (by simp)
  rw[Ip];exact this
end
end
section
variable {P:Pre}{S aT:au}{X hT T:List aj}{aY:List V}{d:Int}{D k:Nat}{v nodes:V}{src:Src}{ls:List (Str×V)}{t a b:bF}
theorem B4 (h:S.dep=.int d∨S.dep=.none):cy 0 S.dep=true:=by rcases h with h |h <;> rw[h] <;> rfl
theorem pW (h:fW t=true):bE t=[a9 t]:=by cases t <;> first |rfl |cases h
theorem oF:bE (.two a b)=[a9 a,a9 b]:=rfl
theorem B5 (n:uV P (.list aY::T) nodes src (bE t)) (i:Inv P S aY T d k) (c:Ik t S d) {ls:List (Str×V)}{G:List aj}
 (g:cV (D+2) (xZ [(bk,.ref 9),(kD,nodes)]) (ha o4.1) src 0 (d2 o4.1) (mk P S (.list aY::T)) .next ls (mk P (comp t S) (.list aY::(T++G)))) :
 aq (D+3) (.obj (.ref 705)) [.ref 9,nodes] (mk P S (.list aY::T)) .none (mk P (comp t S) (.list aY::T)) :=
 aq.jv (fi:=⟨tj,[bk,kD],[],o4.1,none,true⟩) (vs:=[.ref 9,nodes]) (cN:=[(bk,.ref 9),(kD,nodes)]) (by kernel_rfl) rfl (by kernel_rfl) rfl (by kernel_rfl)
  (ab.one (ah.for (v:=nodes) I (n.s _) g)) (VA i.hy (c.st.ky i.bR) (B4 c.dep) i.eK G)
theorem sb (h:fW t=true) (s:mj t):jS t:=fun P S aY T d nodes src i n=>by
 have c:=gL t S d i.hd i.he
 obtain ⟨G,jq,x⟩:=s P S aY T d i
 have lg:itemAt src 0 (mk P S (.list aY::T))=some (some (a9 t)):=by
  have:=n.i S [] 0
  rw[List.append_nil] at this;rw[this,pW h];rfl
 have g4:itemAt src 1 (mk P (comp t S) (.list aY::(T++G)))=some none:=by
  have:=n.i (comp t S) G 1
  refine this.trans ?_;rw[pW h];rfl
 exact B5 n i c ((cV.step lg (n.t _) (uW (.inl rfl)) (x1 i.hd x) (cV.done g4 (n.t _))).mono (by omega))
theorem Inv.next (i:Inv P S aY T d (k+e)) (c:av S.ag.length S aT k) {Iq:Int}(h:aT.dep=.int Iq) {G:List aj}(jq:(aj.list aY::(T++G)).all (cE (23+(T++G).length))=true):Inv P aT aY (T++G) Iq e :=
 ⟨i.hy,h,c.con i.aw,c.len i.he,c.ky i.bR,by have:=i.ak;have:=c.aP;omega,by have:=i.hl;omega,jq⟩
theorem Ir:cQ (.two a b)=cQ a+cQ b:=rfl
theorem VB (b2:mj a) (bt:mj b):jS (.two a b):=fun P S aY T d nodes src i n=>by
 have c:=gL (.two a b) S d i.hd i.he
 have ca:=gL a S d i.hd i.he
 have VC:Inv P S aY T d (cQ a):=⟨i.hy,i.hd,i.aw,i.he,i.bR,by have:=i.ak;rw[Ir] at this;omega,by have:=i.hl;rw[Ir] at this;omega,i.eK⟩
 obtain ⟨G,jq,x⟩:=b2 P S aY T d VC
 have lg:itemAt src 0 (mk P S (.list aY::T))=some (some (a9 a)):=by
  have:=n.i S [] 0
  rw[List.append_nil] at this;rw[this,oF];rfl
 have g4:itemAt src 1 (mk P (comp a S) (.list aY::(T++G)))=some (some (a9 b)):=by
  refine (n.i (comp a S) G 1).trans ?_;rw[oF];rfl
 have le:max (bV a) (bV b)=bV (.two a b):=rfl
 rcases ca.dep with h |h
 ·have e:comp (.two a b) S=comp b (comp a S):=by show (match (comp a S).md with |true=>_ |false=>_)=_;rw[B1 h]
  have ml:Inv P (comp a S) aY (T++G) d (cQ b):=Inv.next (k:=cQ a) i ca.st h jq
  obtain ⟨B6,ZI,y⟩:=bt P (comp a S) aY (T++G) d ml
  have m2:itemAt src 2 (mk P (comp b (comp a S)) (.list aY::((T++G)++B6)))=some none:=by
   rw[List.append_assoc];refine (n.i _ (G++B6) 2).trans ?_;rw[oF];rfl
  refine B5 (G:=G++B6) (ls:=[(bk,.ref 9),(kD,nodes),(cJ,a9 b)]) n i c ?_
  rw[e,←List.append_assoc]
  exact cV.step lg (n.t _) (uW (.inl rfl)) ((x1 i.hd x).mono (by omega)) <|
   cV.step g4 (n.t _) (uW (.inr ⟨_,rfl⟩)) ((x1 h y).mono (by omega)) (cV.done m2 (n.t _))
 ·have e:comp (.two a b) S=comp a S:=by show (match (comp a S).md with |true=>_ |false=>_)=_;rw[B2 h]
  have m2:itemAt src 2 (mk P (comp a S) (.list aY::(T++G)))=some none:=by
   refine (n.i _ G 2).trans ?_;rw[oF];rfl
  refine B5 (G:=G) (ls:=[(bk,.ref 9),(kD,nodes),(cJ,a9 b)]) n i c ?_
  rw[e]
  exact cV.step lg (n.t _) (uW (.inl rfl)) ((x1 i.hd x).mono (by omega)) <|
   cV.step g4 (n.t _) (uW (.inr ⟨_,rfl⟩)) (Vz h) (cV.done m2 (n.t _))
end
section
variable {P:Pre}{S aT:au}{X hT T:List aj}{aY:List V}{d:Int}{D k:Nat}{v nodes:V}{ls:List (Str×V)}{t a b:bF}
noncomputable abbrev VD (kd:Str) (ps:List V) (v:V):a5:=⟨tk.scope,[],none,[(bk,.ref 9),(cJ,v),(c3,.str kd),(dV,.aO ps)]⟩
noncomputable abbrev ez (kd:Str) (ps:List V) (sc:V):V:=.fin 853 [(c3,.str kd),(eo,.int 1),(dV,.aO ps),(g8,sc)]
theorem uX {kd:Str}{ps:List V}{sc:V}(h:ab (D+2) (VD kd ps (ez kd ps sc)) (zW.1.drop 2) (mk P S.l1 X) .next ls (mk P aT hT)):aq (D+3) (.obj (.ref 712)) [.ref 9,ez kd ps sc] (mk P S X) .none (mk P aT hT) :=
 aq.fu (fi:=⟨tk,[bk,cJ],[],zW.1,none,false⟩) (vs:=[.ref 9,ez kd ps sc]) (cN:=[(bk,.ref 9),(cJ,ez kd ps sc)]) (by kernel_rfl) rfl (by kernel_rfl) rfl (by kernel_rfl) <|
  ab.cons (bJ:=[(bk,.ref 9),(cJ,ez kd ps sc),(c3,.str kd),(dV,.aO ps)]) I <|
  ab.cons (H1:=mk P S.l1 X) (bJ:=[(bk,.ref 9),(cJ,ez kd ps sc),(c3,.str kd),(dV,.aO ps)]) ie h
theorem It {v:V}{hc:au}{e:Int}(c:aq 8 (.obj (.ref 601)) [.ref 9,v] (mk P S.l1 X) .none (mk P hc X)) (hd:hc.dep=.int e) (ak:hc.aP<aL):aq 20 (.obj (.ref 712)) [.ref 9,ff pO 1 [v]] (mk P S X) .none (mk P hc.pop X) :=
 uX (D:=17) (kd:=pO) (ps:=[v]) (sc:=.none)<|ab.eP I <|
  ab.cons (ah.expr (ai.a0 (v:=.ref 9) (first:=[.ref 9]) (vs:=[v]) I rfl I (c.mono (by omega)))) <|
  ab.one (ah.expr (ai.a0 (v:=.ref 9) (first:=[.ref 9]) (vs:=[]) I rfl I ((Vn hd ak).mono (by omega))))
theorem x2 (eK:(aj.list aY::T).all (cE (23+T.length))=true):(aj.list aY::(T++[])).all (cE (23+(T++[]).length))=true:=by rw[List.append_nil];exact eK
theorem Iu (n:b9):mj (.b7 n):=fun P S aY T d i=>by
 have ak:S.aP+10+60<aL:=i.ak
 have s1:av 0 S (S.l1.l1.a6 n) 3:=(av.l1.trans (av.l1.trans av.a6)).more (by omega)
 refine ⟨[],x2 i.eK,?_⟩
 rw[List.append_nil]
 exact It (e:=d+1) (r2 (S:=S.l1) n i.hd i.aw (by show S.aP+1<aL;omega)) (by rw[hS];show b4 S.dep 1=_;rw[i.hd];rfl) (by have:=s1.aP;omega)
theorem Iv:mj .el:=fun P S aY T d i=>by
 have ak:S.aP+10+60<aL:=i.ak
 have s1:av 0 S ((S.l1.l1.unit mc).bg 67 (.int S.d1.length) 1) 3:=(((av.l1.trans av.l1).trans av.unit).trans (av.bg rfl)).more (by omega)
 refine ⟨[],x2 i.eK,?_⟩
 rw[List.append_nil]
 refine It (e:=d+1) (Vk (S:=S.l1) i.hd (by show S.aP+1<aL;omega) ?_) (by show b4 S.dep 1=_;rw[i.hd];rfl) (by have:=s1.aP;omega)
 rw[Ip]
 exact B3 i.hy i.bR (B4 (.inl i.hd)) (by rw[List.length_cons,Nat.add_comm T.length 1,←Nat.add_assoc];exact i.eK) (by simp)
theorem Iw (k:Int):mj (.fg k):=fun P S aY T d i=>by
 have ak:S.aP+10+60<aL:=i.ak
 have s1:av 0 S (S.l1.l1.dO 4 (.int k) 1) 3:=((av.l1.trans av.l1).trans (av.dO rfl)).more (by omega)
 have c:=Vh (P:=P) (S:=S.l1) (T:=.list aY::T) (k:=k) i.hd i.aw (by show S.aP+1<aL;omega)
 have z:=U5 (P:=P) (S:=S.l1.l1.dO 4 (.int k) 1) (T:=.list aY::T) (d:=d+1) (by rw[BX];show b4 S.dep 1=_;rw[i.hd];rfl) (by have:=s1.aP;omega)
 refine ⟨[],x2 i.eK,?_⟩
 rw[List.append_nil]
 exact uX (D:=17) (kd:=BS) (ps:=[ff kx 1 [.int k]]) (sc:=.none) <|
  ab.bx I<|ab.bx I<|ab.bx I<|ab.bx I<|ab.bx I<|ab.bx I<|ab.bx I<|ab.bx I<|ab.eP I <|
  ab.cons (ah.expr (ai.a0 (v:=.ref 9) (first:=[.ref 9]) (vs:=[ff kx 1 [.int k]]) I rfl I (c.mono (by omega)))) <|
  ab.one (ah.expr (ai.a0 (v:=.ref 11) (first:=[.ref 11]) (vs:=[.int 66]) I rfl I (z.mono (by omega))))
end
theorem Iy {v:V}(h:cy 0 v=true):dG 0 (sa v)=true:=by
 cases v <;> first |exact h |(show (cy 0 _&&true)=true;rw[h];rfl)
theorem jT:∀ t:bF,cy 0 (a9 t)=true
 |.b7 n=>by cases n <;> rfl
 |.el=>rfl
 |.fg _=>rfl
 |.du n b=>by
  show (true&&(true&&((cy 0 (cC n)&&(cy 0 (a9 b)&&true))&&(true&&true))))=true
  rw[jT b];cases n <;> rfl
 |.fin t n b=>by
  show (true&&(true&&((cy 0 (c7 t)&&(cy 0 (cC n)&&(cy 0 (a9 b)&&true)))&&(true&&true))))=true
  rw[jT b]
  cases t with
  |b7 q=>cases q <;> cases n <;> rfl
  |var=>cases n <;> rfl
  |mem q=>cases q <;> cases n <;> rfl
  |c6 q r=>cases q <;> cases r <;> cases n <;> rfl
 |.dg b c=>by
  have aV:cy 0 ei=true:=by kernel_rfl
  show (true&&(true&&((dG 0 (sa (a9 b))&&(true&&(dG 0 (sa (a9 c))&&(true&&true))))&&(cy 0 ei&&true))))=true
  rw[Iy (jT b),Iy (jT c),aV];rfl
 |.two a b=>by
  show (cy 0 (a9 a)&&(cy 0 (a9 b)&&true))=true
  rw[jT a,jT b];rfl
section
variable {P:Pre}{S aT:au}{X hT T:List aj}{aY:List V}{d:Int}{D k l:Nat}{v w nodes:V}{ls:List (Str×V)}{t b:bF}
theorem uY (h:(∃ d,S.dep=.int d∧S.fits l d)∨S.dep=.none∧∃ v,S.bB[l]?=some v) (a4:S.ag[l]?=some (.int (-1))):aq 5 (.obj (.ref 396)) [.ref 11,.int l] (mk P S T) .none (mk P (S.cZ l) T):=by
 rcases h with ⟨d,hd,hf⟩ |⟨hd,v,aV⟩
 ·rw[fI hd];exact HV hd a4 hf
 ·rw[la hd aV];exact BM hd a4 aV
theorem B7 {p:aj→Bool}{x:aj}(h:X.all p=true) (bA:p x=true):(X++[x]).all p=true:=by
 rw[List.all_append,h];show (true&&(p x&&true))=true;rw[bA];rfl
theorem VE (i:Inv P S aY T d (k+2)) {c:Nat}(aw:c<23+T.length) {y:aj}(bU:cE 0 y=true):Inv P S (aY++[.ref c]) (T++[y]) d k:=by
 refine ⟨i.hy,i.hd,i.aw,i.he,i.bR,by have:=i.ak;omega,by have:=i.hl;simp;omega,?_⟩
 have h:=uQ (b':=23+(T++[y]).length) (by simp) i.eK
 obtain ⟨h1,af⟩:=Bool.and_eq_true_iff.mp (show (dG (23+(T++[y]).length) aY&&T.all (cE (23+(T++[y]).length)))=true from h)
 show (dG (23+(T++[y]).length) (aY++[.ref c])&&(T++[y]).all (cE (23+(T++[y]).length)))=true
 rw[ni h1 (by show (Nat.blt c _&&true)=true;rw[Nat.blt_eq.mpr (by simp;omega)];rfl),B7 af (mi (Nat.zero_le _) _ bU)];rfl
theorem VF (Q:List V):uV P (.list Q::(T++[.list [v]])) (.ref (T.length+23)) (.ref (T.length+23)) [v]:=by
 refine ⟨fun S=>?_,fun S G k=>?_,fun _=>rfl⟩
 ·have e:(mk P S (.list Q::(T++[.list [v]])))[T.length+23]?=some (.list [v]):=fe (H:=mk P S (.list Q::T))
  exact dE (congrArg dA e)
 ·have e:(mk P S (.list Q::(T++[.list [v]])++G))[T.length+23]?=some (.list [v]):=cY (fe (H:=mk P S (.list Q::T)))
  exact dE (congrArg dA e)
theorem Iz (bt:jS b) (h:fW b=true) {c:Nat}(aw:c<23+T.length) (i:Inv P S aY T d (cQ b+2)):aq (bV b+4) (.obj (.ref 754)) [.ref 9,a9 b,.ref c] (mk P S (.list aY::T)) .none (mk P (comp b S) (.list aY::(T++[.list [a9 b]]))):=by
 have j:Inv P S (aY++[.ref c]) (T++[.list [a9 b]]) d (cQ b):=VE i aw (by show (cy 0 (a9 b)&&true)=true;rw[jT b];rfl)
 have st:=bt P S _ _ d _ _ j (by rw[pW h];exact VF _)
 have hl:aY.length<aL:=by have:=i.hl;omega
 exact aq.fu (fi:=⟨wc,[bk,cJ,pQ],[],Eh.1,none,false⟩) (vs:=[.ref 9,a9 b,.ref c]) (cN:=[(bk,.ref 9),(cJ,a9 b),(pQ,.ref c)]) (by kernel_rfl) rfl (by kernel_rfl) rfl (by kernel_rfl) <|
  ab.cons (H1:=mk P S (.list (aY++[.ref c])::T)) (ah.expr (ai.a0 (v:=.ref 22) (g:=.obj (.builtin "list.append")) (first:=[.ref 22]) (vs:=[.ref c]) I rfl I ((aq.app (vs:=aY) rfl hl).mono (by omega)))) <|
  ab.cons (H1:=mk P (comp b S) (.list (aY++[.ref c])::(T++[.list [a9 b]]))) (ah.expr (ai.a0 (v:=.ref 9) (first:=[.ref 9]) (vs:=[.ref (T.length+23)]) I rfl (GE.cons (ai.list (GE.cons I GE.nil)) GE.nil) (st.mono (by omega)))) <|
  ab.one (ah.expr (ai.a0 (v:=.ref 22) (g:=.obj (.builtin "list.pop")) (first:=[.ref 22]) (vs:=[]) I rfl I ((aq.pop (vs:=aY) (x:=.ref c) rfl).mono (by omega))))
end
section
variable {P:Pre}{S aT:au}{X hT T:List aj}{aY:List V}{d:Int}{D k l l1 l2 c:Nat}{kd dp v w nodes sc:V}{ls:List (Str×V)}{t b:bF}{H:List aj}{f:cA}
noncomputable abbrev d3 (kd dp:V) (l1 l2:Nat):aj:=.inst 506 [(c3,kd),(i7,dp),(ks,.int l1),(ma,.int l2)]
theorem x3 (h:H[c]?=some (d3 kd dp l1 l2)):mU (.ref c) ma ⟨H,True⟩=some (.int l2):=by
 exact (bj (congrArg lT h)).trans (by kernel_rfl)
theorem x4 (h:H[c]?=some (d3 kd dp l1 l2)):mU (.ref c) ks ⟨H,True⟩=some (.int l1):=by
 exact (bj (congrArg lT h)).trans (by kernel_rfl)
noncomputable abbrev IA (kd:Str) (ps:List V) (v dp:V) (l1 l2:Nat):a5:=⟨tl.scope,[],none,[(bk,.ref 9),(cJ,v),(i7,dp),(c3,.str kd),(dV,.aO ps),(ks,.int l1),(ma,.int l2)]⟩
theorem IB {kd:Str}{ps:List V}(ak:S.aP+10<aL) (hf:iB f=.none) (h:ab (D+4) (IA kd ps (ez kd ps sc) dp S.ag.length (S.ag.length+1)) (zY.1.drop 3) (mk P (S.ay.ay).l1 X) f ls (mk P aT hT)) :
 aq (D+5) (.obj (.ref 747)) [.ref 9,ez kd ps sc,dp] (mk P S X) .none (mk P aT hT):=by
 have a3:=pJ (P:=P) (S:=S.ay) (T:=X) (by have:=(av.ay (n:=0) (S:=S) (Nat.zero_le _));unfold au.aP au.ay at *;simp;omega)
 rw[kA] at a3
 have e:aq (D+5) (.obj (.ref 747)) [.ref 9,ez kd ps sc,dp] (mk P S X) (iB f) (mk P aT hT) :=
  aq.any (fi:=⟨tl,[bk,cJ,i7],[],zY.1,none,false⟩) (vs:=[.ref 9,ez kd ps sc,dp]) (by kernel_rfl) rfl (by kernel_rfl) rfl <|
  ab.cons (bJ:=[(bk,.ref 9),(cJ,ez kd ps sc),(i7,dp),(c3,.str kd),(dV,.aO ps)]) I <|
  ab.cons (bJ:=[(bk,.ref 9),(cJ,ez kd ps sc),(i7,dp),(c3,.str kd),(dV,.aO ps),(ks,.int S.ag.length),(ma,.int (S.ag.length+1:Nat))])
   (ah.mh (xs:=[ks,ma]) (us:=[.int S.ag.length,.int (S.ag.length+1:Nat)]) (ai.tup (GE.cons (ai.a0 (v:=.ref 11) (first:=[.ref 11]) (vs:=[]) I rfl I ((pJ (by omega)).mono (by omega))) (GE.cons (ai.a0 (v:=.ref 11) (first:=[.ref 11]) (vs:=[]) I rfl I (a3.mono (by omega))) GE.nil))) (by kernel_rfl) (by kernel_rfl) (by kernel_rfl)) <|
  ab.cons (H1:=mk P (S.ay.ay).l1 X) (bJ:=[(bk,.ref 9),(cJ,ez kd ps sc),(i7,dp),(c3,.str kd),(dV,.aO ps),(ks,.int S.ag.length),(ma,.int (S.ag.length+1:Nat))]) ie h
 rw[hf] at e;exact e
end
theorem mm:∀ t:bF,20≤bV t
 |.b7 _=>Nat.le_refl _
 |.el=>Nat.le_refl _
 |.fg _=>Nat.le_refl _
 |.du _ b=>Nat.le_trans (mm b) (Nat.le_add_right _ _)
 |.fin _ _ b=>Nat.le_trans (mm b) (Nat.le_add_right _ _)
 |.dg b _=>Nat.le_trans (Nat.le_trans (mm b) (Nat.le_max_left _ _)) (Nat.le_add_right _ _)
 |.two a _=>Nat.le_trans (mm a) (Nat.le_max_left _ _)
section
variable {P:Pre}{S aT:au}{X hT T:List aj}{aY:List V}{d:Int}{D k l l1 l2 c:Nat}{kd dp v w nodes sc:V}{ls:List (Str×V)}{t b:bF}{H:List aj}{f:cA}
theorem Inv.mono {m:Nat}(i:Inv P S aY T d k) (h:m≤k):Inv P S aY T d m:=⟨i.hy,i.hd,i.aw,i.he,i.bR,by have:=i.ak;omega,by have:=i.hl;omega,i.eK⟩
theorem VG (n:b9) (bt:jS b) (h:fW b=true) (i:Inv P S aY T d (cQ b+20)) (eK:(aj.list aY::(T++[d3 kd dp S.ag.length (S.ag.length+1)])).all (cE (24+T.length))=true) :
 aq (bV b+5) (.obj (.ref 761)) [.ref 9,cC n,a9 b,.ref (T.length+23)] (mk P (S.l1.ay.ay).l1 (.list aY::(T++[d3 kd dp S.ag.length (S.ag.length+1)]))) .none
  (mk P (comp (.du n b) S) (.list aY::((T++[d3 kd dp S.ag.length (S.ag.length+1)])++[.list [a9 b]]))):=by
 have ak:=i.ak
 have ge:=mm b
 obtain ⟨w,s0⟩:=xV n i.hd i.he
 obtain ⟨aG,a3,c4,dQ,eC,hF⟩:=oC S.l1 i.he
 have s1:av S.ag.length S ((S.l1.ay.ay).l1) 4:=((av.l1.trans (av.ay (Nat.le_refl _) i.he)).trans ((av.ay (S:=S.l1.ay) (by rw[kA];exact Nat.le_succ _) (by unfold au.ay;simp;exact i.he)).trans av.l1)).more (by omega)
 have s2:=s1.trans (av.cZ (l:=S.ag.length+1) (by omega))
 have ao:(S.l1.ay.ay).l1.dep=.int d:=i.hd
 have aC:((S.l1.ay.ay).l1.cZ (S.ag.length+1)).dep=.int d:=by rw[fI ao];exact ao
 have f2:((S.l1.ay.ay).l1.cZ (S.ag.length+1)).fits S.ag.length d:=by
  rw[fI ao];exact .inl ((r5 (by omega)).trans c4)
 have aK:=uY (P:=P) (T:=.list aY::(T++[d3 kd dp S.ag.length (S.ag.length+1)])) (S:=(S.l1.ay.ay).l1) (l:=S.ag.length+1) (.inl ⟨d,ao,.inl dQ⟩) a3
 have bw:=Vr (P:=P) (T:=.list aY::(T++[d3 kd dp S.ag.length (S.ag.length+1)])) n aC (s2.con i.aw) (by have:=s2.aP;omega) f2
 have j:Inv P (fw S n) aY (T++[d3 kd dp S.ag.length (S.ag.length+1)]) d (cQ b+2):=by
  refine ⟨i.hy,w.dep,s0.con i.aw,s0.len i.he,s0.ky i.bR,by have:=s0.aP;omega,by have:=i.hl;omega,?_⟩
  have:23+(T++[d3 kd dp S.ag.length (S.ag.length+1)]).length=24+T.length:=by simp;omega
  rw[this];exact eK
 have da:=Iz bt h (c:=T.length+23) (by simp;omega) j
 have mn:=gL b (fw S n) d w.dep (s0.len i.he)
 obtain ⟨dM,ew,kR⟩:=w.keep mn.st
 have kq:(comp b (fw S n)).aP<aL:=by have:=mn.st.aP;have:=s0.aP;omega
 have iE:=BU (P:=P) (T:=.list aY::((T++[d3 kd dp S.ag.length (S.ag.length+1)])++[.list [a9 b]])) (S:=comp b (fw S n)) (l:=S.ag.length+1) (d:=d) (mn.dep.elim (fun q=>.inl ⟨q,.inr kR⟩) .inr) kq
 have jD:=uY (P:=P) (T:=.list aY::((T++[d3 kd dp S.ag.length (S.ag.length+1)])++[.list [a9 b]])) (S:=(comp b (fw S n)).jmp (S.ag.length+1)) (l:=S.ag.length) (.inr ⟨kB mn.dep,_,(r8 (by omega)).trans ew⟩) (by rw[oB];exact dM)
 have i6:∀ aT:au,(mk P aT (.list aY::(T++[d3 kd dp S.ag.length (S.ag.length+1)])))[T.length+23]?=some (d3 kd dp S.ag.length (S.ag.length+1)):=fun aT=>fe (H:=mk P aT (.list aY::T))
 have g1:∀ aT:au,(mk P aT (.list aY::((T++[d3 kd dp S.ag.length (S.ag.length+1)])++[.list [a9 b]])))[T.length+23]?=some (d3 kd dp S.ag.length (S.ag.length+1)):=fun aT=>cY (i6 aT)
 exact aq.fu (fi:=⟨wd,[bk,H8,cJ,pQ],[],Ei.1,none,false⟩) (vs:=[.ref 9,cC n,a9 b,.ref (T.length+23)]) (cN:=[(bk,.ref 9),(H8,cC n),(cJ,a9 b),(pQ,.ref (T.length+23))]) (by kernel_rfl) rfl (by kernel_rfl) rfl (by kernel_rfl) <|
  ab.cons (ah.expr (ai.a0 (v:=.ref 11) (first:=[.ref 11]) (vs:=[.int (S.ag.length+1:Nat)]) I rfl (GE.cons (ai.attr (v:=.ref (T.length+23)) I (x3 (i6 _))) GE.nil) (aK.mono (by omega)))) <|
  ab.cons (ah.expr (ai.bI (vs:=[.ref 11,cC n,.int S.ag.length,.bool false,.fD 601 (.ref 9)]) I (GE.cons (v:=.ref 11) I (GE.cons (v:=cC n) I (GE.cons (ai.attr (v:=.ref (T.length+23)) I (x4 (i6 _))) (GE.cons (v:=.bool false) I (GE.cons (v:=.fD 601 (.ref 9)) I GE.nil))))) (bw.mono (by omega)))) <|
  ab.cons (ah.expr (ai.a0 (v:=.ref 9) (first:=[.ref 9]) (vs:=[a9 b,.ref (T.length+23)]) I rfl I (da.mono (by omega)))) <|
  ab.cons (ah.expr (ai.a0 (v:=.ref 11) (first:=[.ref 11]) (vs:=[.int 58,.int (S.ag.length+1:Nat)]) I rfl (GE.cons (v:=.int 58) I (GE.cons (ai.attr (v:=.ref (T.length+23)) I (x3 (g1 _))) GE.nil)) (iE.mono (by omega)))) <|
  ab.one (ah.expr (ai.a0 (v:=.ref 11) (first:=[.ref 11]) (vs:=[.int S.ag.length]) I rfl (GE.cons (ai.attr (v:=.ref (T.length+23)) I (x4 (g1 _))) GE.nil) (jD.mono (by omega))))
end
noncomputable abbrev sd:Str:=⟨⟨[108,111,111,112]⟩⟩
noncomputable abbrev uZ:Str:=⟨⟨[107,101,121,115]⟩⟩
section
variable {P:Pre}{S aT:au}{X hT T:List aj}{aY:List V}{d:Int}{D k l l1 l2 c:Nat}{kd dp v w nodes sc:V}{ls:List (Str×V)}{t b:bF}{H:List aj}{f:cA}{y:aj}
theorem u0 (h:(aj.list aY::T).all (cE (23+T.length))=true) (bU:cE (24+T.length) y=true):(aj.list aY::(T++[y])).all (cE (23+(T++[y]).length))=true:=by
 have e:23+(T++[y]).length=24+T.length:=by simp;omega
 rw[e]
 exact B7 (X:=.list aY::T) (uQ (by omega) h) bU
theorem Inv.push (i:Inv P S aY T d k) (bU:cE (24+T.length) y=true):Inv P S aY (T++[y]) d k:=⟨i.hy,i.hd,i.aw,i.he,i.bR,i.ak,i.hl,u0 i.eK bU⟩
theorem VH (n:b9) (bt:jS b) (h:fW b=true):mj (.du n b):=fun P S aY T d i=>by
 have ge:=mm b
 have bZ:S.aP+(cQ b+40)+60<aL:=i.ak
 have cI:bV (.du n b)=bV b+10:=rfl
 have g4:Inv P S aY (T++[.list []]) d (cQ b+20):=(i.mono (m:=cQ b+20) (by show _≤cQ b+40;omega)).push rfl
 have aS:cE (24+(T++[aj.list []]).length) (d3 (.str sd) (.ref (T.length+23)) S.ag.length (S.ag.length+1))=true:=by
  show (true&&(Nat.blt _ _&&(true&&(true&&true))))=true
  rw[Nat.blt_eq.mpr (by simp;omega)];rfl
 have eK:=u0 g4.eK aS
 have B8:23+((T++[aj.list []])++[d3 (.str sd) (.ref (T.length+23)) S.ag.length (S.ag.length+1)]).length=24+(T++[aj.list []]).length:=by simp;omega
 have u1:=eK
 rw[B8] at u1
 have u2:=VG n bt h g4 u1
 refine ⟨(([.list []]++[d3 (.str sd) (.ref (T.length+23)) S.ag.length (S.ag.length+1)])++[.list [a9 b]]),?_,?_⟩
 ·rw[←List.append_assoc,←List.append_assoc]
  exact u0 eK (mi (Nat.zero_le _) _ (by show (cy 0 (a9 b)&&true)=true;rw[jT b];rfl))
 ·rw[←List.append_assoc,←List.append_assoc,cI]
  have jw:aq (bV b+6) (.obj (.ref 747)) [.ref 9,ez pP [cC n,a9 b] .none,.ref (T.length+23)] (mk P S.l1 (.list aY::(T++[.list []]))) .none (mk P (comp (.du n b) S) (.list aY::(((T++[.list []])++[d3 (.str sd) (.ref (T.length+23)) S.ag.length (S.ag.length+1)])++[.list [a9 b]]))) :=
   IB (D:=bV b+1) (f:=.next) (S:=S.l1) (by show S.aP+10<aL;omega) rfl <|
    ab.cons (ah.iff I ab.nil) <|
    ab.cons (H1:=mk P (S.l1.ay.ay).l1 (.list aY::((T++[.list []])++[d3 (.str sd) (.ref (T.length+23)) S.ag.length (S.ag.length+1)]))) (ah.assign (v:=.ref ((T++[aj.list []]).length+23)) (ai.bI (g:=.obj (.ref 506)) (vs:=[.str sd,.ref (T.length+23),.int S.ag.length,.int (S.ag.length+1:Nat)]) I I ((Io (H:=mk P (S.l1.ay.ay).l1 (.list aY::(T++[.list []]))) _ _ _ _).mono (by omega))) (bq.name (by kernel_rfl))) <|
    ab.eP I<|ab.one (ah.expr (ai.a0 (v:=.ref 9) (first:=[.ref 9]) (vs:=[cC n,a9 b,.ref ((T++[aj.list []]).length+23)]) I rfl I (u2.mono (by omega))))
  exact (uX (D:=bV b+4) (kd:=pP) (ps:=[cC n,a9 b]) (sc:=.none) <|
   ab.bx I<|ab.bx I<|ab.bx I<|ab.bx I<|ab.eP I <|
   ab.one (ah.expr (ai.a0 (v:=.ref 9) (first:=[.ref 9]) (vs:=[ez pP [cC n,a9 b] .none,.ref (T.length+23)]) I rfl (GE.cons I (GE.cons (ai.list (H1:=mk P S.l1 (.list aY::T)) GE.nil) GE.nil)) (jw.mono (by omega))))).mono (by omega)
end
noncomputable abbrev lh:Str:=⟨⟨[111,119,110,101,114]⟩⟩
section
variable {P:Pre}{S aT:au}{X hT T:List aj}{aY:List V}{d:Int}{D k l l1 l2 c:Nat}{kd dp v w nodes sc:V}{ls:List (Str×V)}{b:bF}{H:List aj}{f:cA}{y:aj}
theorem VI:aq 3 (.obj (.ref 726)) [.ref 9,.aO [.tup [.str m8,.none]]] (mk P S X) .none (mk P S X):=Gt.run 30 fun N n aa=>by kernel_rfl
noncomputable abbrev B9 (t:dH) (n:b9) (v w:V):List (Str×V):=[(bk,.ref 9),(dV,.aO [c7 t,cC n,v]),(pQ,w),(hu,c7 t),(lh,cC n),(cJ,v)]
theorem VJ (t:dH) (n:b9):ah 5 ⟨tm.scope,[],none,B9 t n v w⟩ (bQ zZ.1 1) (mk P S X) .next (B9 t n v w) (mk P S X):=by
 cases t with
 |var=>exact ah.cm I (ab.one (ah.expr (ai.a0 (v:=.ref 9) (first:=[.ref 9]) (vs:=[.aO [.tup [.str m8,.none]]]) I rfl I (VI.mono (by omega)))))
 |_=>exact ah.iff I ab.nil
theorem VK (t:dH) (n:b9) (bt:jS b) (h:fW b=true) (i:Inv P S aY T d (cQ b+60)) (eK:(aj.list aY::(T++[d3 kd dp S.ag.length (S.ag.length+1)])).all (cE (24+T.length))=true) :
 aq (bV b+5) (.obj (.ref 782)) [.ref 9,.aO [c7 t,cC n,a9 b],.ref (T.length+23)] (mk P (S.l1.ay.ay).l1 (.list aY::(T++[d3 kd dp S.ag.length (S.ag.length+1)]))) .none
  (mk P (comp (.fin t n b) S) (.list aY::((T++[d3 kd dp S.ag.length (S.ag.length+1)])++[.list [a9 b]]))):=by
 have ak:=i.ak
 have ge:=mm b
 obtain ⟨w,s0⟩:=xW t n i.hd i.he
 obtain ⟨aG,a3,c4,dQ,eC,hF⟩:=oC S.l1 i.he
 have s1:av S.ag.length S ((S.l1.ay.ay).l1) 4:=((av.l1.trans (av.ay (Nat.le_refl _) i.he)).trans ((av.ay (S:=S.l1.ay) (by rw[kA];exact Nat.le_succ _) (by unfold au.ay;simp;exact i.he)).trans av.l1)).more (by omega)
 have s2:av S.ag.length S ((S.l1.ay.ay).l1.l1.a6 n) 7:=(s1.trans (av.l1.trans av.a6)).more (by omega)
 have s3:av S.ag.length S (((S.l1.ay.ay).l1.l1.a6 n).bg 76 .none 0) 9:=s2.trans (av.bg rfl)
 have s4:=s3.trans (av.cZ (l:=S.ag.length+1) (by omega))
 have s5:=s4.trans (av.hv (l:=S.ag.length) (by omega))
 have ao:(S.l1.ay.ay).l1.dep=.int d:=i.hd
 have aC:((S.l1.ay.ay).l1.l1.a6 n).dep=.int (d+1):=by rw[hS];show b4 S.dep 1=_;rw[i.hd];rfl
 have cL:(((S.l1.ay.ay).l1.l1.a6 n).bg 76 .none 0).dep=.int (d+1):=by
  show b4 ((S.l1.ay.ay).l1.l1.a6 n).dep 0=_;rw[aC,i9];congr 1;omega
 have gc:(((S.l1.ay.ay).l1.l1.a6 n).bg 76 .none 0).ag=(S.l1.ay.ay).ag∧(((S.l1.ay.ay).l1.l1.a6 n).bg 76 .none 0).bB=(S.l1.ay.ay).bB:=jR (S:=(S.l1.ay.ay).l1.l1) n
 have gH:((((S.l1.ay.ay).l1.l1.a6 n).bg 76 .none 0).cZ (S.ag.length+1)).dep=.int (d+1):=by rw[fI cL];exact cL
 have k6:(((((S.l1.ay.ay).l1.l1.a6 n).bg 76 .none 0).cZ (S.ag.length+1)).hv S.ag.length).dep=.int (d+1+1):=by rw[r6 gH];rfl
 have f4:((((S.l1.ay.ay).l1.l1.a6 n).bg 76 .none 0).cZ (S.ag.length+1)).fits S.ag.length (d+1):=by
  rw[fI cL];refine .inl ((r5 (by omega)).trans ?_);rw[gc.2];exact c4
 generalize VL:(aj.list aY::(T++[d3 kd dp S.ag.length (S.ag.length+1)]))=kE at *
 have aK:=r2 (P:=P) (T:=kE) n ao (s1.con i.aw) (by have:=s1.aP;omega)
 have bw:=pM (P:=P) (T:=kE) (k:=0) U3 rfl aC (by have:=s2.aP;omega)
 have da:=uY (P:=P) (T:=kE) (S:=((S.l1.ay.ay).l1.l1.a6 n).bg 76 .none 0) (l:=S.ag.length+1) (.inl ⟨d+1,cL,.inl (by rw[gc.2];exact dQ)⟩) (by rw[gc.1];exact a3)
 have iE:=Vm (P:=P) (T:=kE) gH f4 (by have:=s4.aP;omega)
 have jD:=Vu (P:=P) (T:=kE) t k6 (s5.con i.aw) (by have:=s5.aP;omega)
 subst VL
 have j:Inv P (fh S t n) aY (T++[d3 kd dp S.ag.length (S.ag.length+1)]) (d+1) (cQ b+2):=by
  refine ⟨i.hy,w.dep,s0.con i.aw,s0.len i.he,s0.ky i.bR,by have:=s0.aP;omega,by have:=i.hl;omega,?_⟩
  have:23+(T++[d3 kd dp S.ag.length (S.ag.length+1)]).length=24+T.length:=by simp;omega
  rw[this];exact eK
 have u3:=Iz bt h (c:=T.length+23) (by simp;omega) j
 have mn:=gL b (fh S t n) (d+1) w.dep (s0.len i.he)
 obtain ⟨dM,ew,kR⟩:=w.keep mn.st
 have kq:(comp b (fh S t n)).aP+4<aL:=by have:=mn.st.aP;have:=s0.aP;omega
 have pX:=BU (P:=P) (T:=.list aY::((T++[d3 kd dp S.ag.length (S.ag.length+1)])++[.list [a9 b]])) (S:=comp b (fh S t n)) (l:=S.ag.length+1) (d:=d+1) (mn.dep.elim (fun q=>.inl ⟨q,.inr kR⟩) .inr) (by omega)
 have xC:=(r8 (S:=comp b (fh S t n)) (l:=S.ag.length+1) (i:=S.ag.length) (by omega)).trans ew
 have Ca:=uY (P:=P) (T:=.list aY::((T++[d3 kd dp S.ag.length (S.ag.length+1)])++[.list [a9 b]])) (S:=(comp b (fh S t n)).jmp (S.ag.length+1)) (l:=S.ag.length) (.inr ⟨kB mn.dep,_,xC⟩) (by rw[oB];exact dM)
 have Cb:=xO (P:=P) (T:=.list aY::((T++[d3 kd dp S.ag.length (S.ag.length+1)])++[.list [a9 b]])) (S:=((comp b (fh S t n)).jmp (S.ag.length+1)).cZ S.ag.length) (d:=d+1) (by rw[la (kB mn.dep) xC];rfl)
  (by have:=((av.jmp (n:=0) (S:=comp b (fh S t n)) (l:=S.ag.length+1) (Nat.zero_le _)).trans (av.cZ (l:=S.ag.length) (Nat.zero_le _))).aP;omega)
 have i6:∀ aT:au,(mk P aT (.list aY::(T++[d3 kd dp S.ag.length (S.ag.length+1)])))[T.length+23]?=some (d3 kd dp S.ag.length (S.ag.length+1)):=fun aT=>fe (H:=mk P aT (.list aY::T))
 have g1:∀ aT:au,(mk P aT (.list aY::((T++[d3 kd dp S.ag.length (S.ag.length+1)])++[.list [a9 b]])))[T.length+23]?=some (d3 kd dp S.ag.length (S.ag.length+1)):=fun aT=>cY (i6 aT)
 exact aq.fu (fi:=⟨tm,[bk,dV,pQ],[],zZ.1,none,false⟩) (vs:=[.ref 9,.aO [c7 t,cC n,a9 b],.ref (T.length+23)]) (cN:=[(bk,.ref 9),(dV,.aO [c7 t,cC n,a9 b]),(pQ,.ref (T.length+23))]) (by kernel_rfl) rfl (by kernel_rfl) rfl (by kernel_rfl) <|
  ab.cons (bJ:=B9 t n (a9 b) (.ref (T.length+23))) I <|
  ab.cons (Gt.mono (by omega) (VJ t n)) <|
  ab.cons (ah.expr (ai.a0 (v:=.ref 9) (first:=[.ref 9]) (vs:=[cC n]) I rfl I (aK.mono (by omega)))) <|
  ab.cons (ah.expr (ai.a0 (v:=.ref 11) (first:=[.ref 11]) (vs:=[.int 76]) I rfl I (bw.mono (by omega)))) <|
  ab.cons (ah.expr (ai.a0 (v:=.ref 11) (first:=[.ref 11]) (vs:=[.int (S.ag.length+1:Nat)]) I rfl (GE.cons (ai.attr (v:=.ref (T.length+23)) I (x3 (i6 _))) GE.nil) (da.mono (by omega)))) <|
  ab.cons (ah.expr (ai.a0 (v:=.ref 11) (first:=[.ref 11]) (vs:=[.int 77,.int S.ag.length]) I rfl (GE.cons (v:=.int 77) I (GE.cons (ai.attr (v:=.ref (T.length+23)) I (x4 (i6 _))) GE.nil)) (iE.mono (by omega)))) <|
  ab.cons (ah.expr (ai.a0 (v:=.ref 9) (first:=[.ref 9]) (vs:=[c7 t]) I rfl I (jD.mono (by omega)))) <|
  ab.cons (ah.expr (ai.a0 (v:=.ref 9) (first:=[.ref 9]) (vs:=[a9 b,.ref (T.length+23)]) I rfl I (u3.mono (by omega)))) <|
  ab.cons (ah.expr (ai.a0 (v:=.ref 11) (first:=[.ref 11]) (vs:=[.int 58,.int (S.ag.length+1:Nat)]) I rfl (GE.cons (v:=.int 58) I (GE.cons (ai.attr (v:=.ref (T.length+23)) I (x3 (g1 _))) GE.nil)) (pX.mono (by omega)))) <|
  ab.cons (ah.expr (ai.a0 (v:=.ref 11) (first:=[.ref 11]) (vs:=[.int S.ag.length]) I rfl (GE.cons (ai.attr (v:=.ref (T.length+23)) I (x4 (g1 _))) GE.nil) (Ca.mono (by omega)))) <|
  ab.one (ah.expr (ai.a0 (v:=.ref 11) (first:=[.ref 11]) (vs:=[.int 6]) I rfl I (Cb.mono (by omega))))
end
section
variable {P:Pre}{S aT:au}{X hT T:List aj}{aY:List V}{d:Int}{D k l l1 l2 c:Nat}{kd dp v w nodes sc:V}{ls:List (Str×V)}{b:bF}{H:List aj}{f:cA}{y:aj}
theorem VM (t:dH) (n:b9) (bt:jS b) (h:fW b=true):mj (.fin t n b):=fun P S aY T d i=>by
 have ge:=mm b
 have bZ:S.aP+(cQ b+80)+60<aL:=i.ak
 have cI:bV (.fin t n b)=bV b+10:=rfl
 have g4:Inv P S aY (T++[.list []]) d (cQ b+60):=(i.mono (m:=cQ b+60) (by show _≤cQ b+80;omega)).push rfl
 have aS:cE (24+(T++[aj.list []]).length) (d3 (.str uZ) (.ref (T.length+23)) S.ag.length (S.ag.length+1))=true:=by
  show (true&&(Nat.blt _ _&&(true&&(true&&true))))=true
  rw[Nat.blt_eq.mpr (by simp;omega)];rfl
 have eK:=u0 g4.eK aS
 have B8:23+((T++[aj.list []])++[d3 (.str uZ) (.ref (T.length+23)) S.ag.length (S.ag.length+1)]).length=24+(T++[aj.list []]).length:=by simp;omega
 have u1:=eK
 rw[B8] at u1
 have u2:=VK t n bt h g4 u1
 refine ⟨(([.list []]++[d3 (.str uZ) (.ref (T.length+23)) S.ag.length (S.ag.length+1)])++[.list [a9 b]]),?_,?_⟩
 ·rw[←List.append_assoc,←List.append_assoc]
  exact u0 eK (mi (Nat.zero_le _) _ (by show (cy 0 (a9 b)&&true)=true;rw[jT b];rfl))
 ·rw[←List.append_assoc,←List.append_assoc,cI]
  have jw:aq (bV b+6) (.obj (.ref 747)) [.ref 9,ez nf [c7 t,cC n,a9 b] .none,.ref (T.length+23)] (mk P S.l1 (.list aY::(T++[.list []]))) .none (mk P (comp (.fin t n b) S) (.list aY::(((T++[.list []])++[d3 (.str uZ) (.ref (T.length+23)) S.ag.length (S.ag.length+1)])++[.list [a9 b]]))) :=
   IB (D:=bV b+1) (f:=.ret .none) (ls:=(IA nf [c7 t,cC n,a9 b] (ez nf [c7 t,cC n,a9 b] .none) (.ref (T.length+23)) S.ag.length (S.ag.length+1)).ls) (S:=S.l1) (by show S.aP+10<aL;omega) rfl <|
    ab.stop (ah.cm I (ab.cons (ah.expr (ai.a0 (v:=.ref 9) (first:=[.ref 9]) (vs:=[.aO [c7 t,cC n,a9 b],.ref ((T++[aj.list []]).length+23)]) I rfl
     (GE.cons I (GE.cons (ai.bI (g:=.obj (.ref 506)) (vs:=[.str uZ,.ref (T.length+23),.int S.ag.length,.int (S.ag.length+1:Nat)]) I I ((Io (H:=mk P (S.l1.ay.ay).l1 (.list aY::(T++[.list []]))) _ _ _ _).mono (by omega))) GE.nil)) (u2.mono (by omega))))
     (ab.ret I))) ey
  exact (uX (D:=bV b+4) (kd:=nf) (ps:=[c7 t,cC n,a9 b]) (sc:=.none) <|
   ab.bx I<|ab.bx I<|ab.bx I<|ab.bx I<|ab.eP I <|
   ab.one (ah.expr (ai.a0 (v:=.ref 9) (first:=[.ref 9]) (vs:=[ez nf [c7 t,cC n,a9 b] .none,.ref (T.length+23)]) I rfl (GE.cons I (GE.cons (ai.list (H1:=mk P S.l1 (.list aY::T)) GE.nil) GE.nil)) (jw.mono (by omega))))).mono (by omega)
end
noncomputable abbrev oG:Str:=⟨⟨[97,104,101,97,100]⟩⟩
noncomputable abbrev IC:Str:=⟨⟨[105,115,95,101,109,112,116,121]⟩⟩
section
variable {P:Pre}{S aT:au}{X hT T:List aj}{aY:List V}{d:Int}{D k l l1 l2 c:Nat}{kd dp v w nodes sc:V}{ls:List (Str×V)}{b:bF}{H:List aj}{f:cA}{y:aj}{x z:Int}
theorem ID (h:S.dep=.int d∨S.dep=.none) (he:S.bB.length=S.ag.length) (ak:S.aP<aL):aq 6 (.obj (.ref 410)) [.ref 11] (mk P S T) (.int S.ag.length) (mk P S.mark T):=by
 unfold au.mark
 rcases h with h |h
 ·rw[fI (S:=S.ay) h];exact UO h he ak
 ·rw[la (S:=S.ay) h (uI S he)];exact UP h he ak
theorem IE {vs:List V}:uV P X (.aO vs) (.aO vs) vs:=⟨fun _=>rfl,fun _ _ _=>rfl,fun _=>rfl⟩
theorem u4 (b c:bF):a9 (.dg b c)=ez hb [.aO (bE b),.str dN,.aO (bE c),.none] ei:=rfl
theorem IF (hd:S.dep=.int d∧S.fits l d∨S.dep=.none) (ak:S.aP<aL):aq 6 (.obj (.ref 817)) [.ref 9,.none,v,.int l] (mk P S X) .none (mk P (S.jmp l) X) :=
 aq.proc (fi:=⟨we,_,_,Ej.1,none,false⟩) rfl rfl (by kernel_rfl) rfl <|
  ab.cons (ah.iff I ab.nil) <|
  ab.one (ah.expr (ai.a0 (v:=.ref 11) (first:=[.ref 11]) (vs:=[.int 58,.int l]) I rfl I (BU hd ak)))
theorem VN:aq 2 (.obj (.ref 810)) [.ref 9] (mk P S X) .none (mk P S X):=Gt.run 30 fun N n aa=>by kernel_rfl
theorem VO {b c:bF}(bt:jS c) {cu:au}(aB:cu.dep=.none) (hl:cu.bB.length=cu.ag.length) (bZ:cu.aP+20<aL)
 (i:Inv P ((((((cu.ay.fH l1 l2 cu.ag.length d).enter cu.ag.length (d+1)).bg 17 (.int 3) 0).bg 14 (.int 3) 0)).pop) aY T d (cQ c)) :
 aq (bV c+5) (.obj (.ref 824)) [.ref 9,a9 (.dg b c),.int l1,.int l2,.int d,.none] (mk P cu (.list aY::T)) .none
  (mk P (comp c ((((((cu.ay.fH l1 l2 cu.ag.length d).enter cu.ag.length (d+1)).bg 17 (.int 3) 0).bg 14 (.int 3) 0)).pop)) (.list aY::T)):=by
 have ge:=mm c
 rw[u4]
 have dj:cu.ay.aP<aL:=by unfold au.aP au.ay at *;simp;omega
 have s2:av 0 cu ((cu.ay.fH l1 l2 cu.ag.length d).enter cu.ag.length (d+1)) 3:=(((av.ay (Nat.zero_le _) hl).trans av.fH).trans (av.enter (Nat.zero_le _))).more (by omega)
 have s3:av 0 cu (((cu.ay.fH l1 l2 cu.ag.length d).enter cu.ag.length (d+1)).bg 17 (.int 3) 0) 5:=s2.trans (av.bg rfl)
 have s4:av 0 cu ((((cu.ay.fH l1 l2 cu.ag.length d).enter cu.ag.length (d+1)).bg 17 (.int 3) 0).bg 14 (.int 3) 0) 7:=s3.trans (av.bg rfl)
 have aK:=pJ (P:=P) (S:=cu) (T:=.list aY::T) (by omega)
 have bw:aq 2 (.obj (.ref 276)) [.ref 12,.int l1,.int l2,.int cu.ag.length,.int d,.bool false] (mk P cu.ay (.list aY::T)) .none (mk P (cu.ay.fH l1 l2 cu.ag.length d) (.list aY::T)):=UR dj
 have da:aq 6 (.obj (.ref 403)) [.ref 11,.int cu.ag.length,.int (d+1)] (mk P (cu.ay.fH l1 l2 cu.ag.length d) (.list aY::T)) .none (mk P ((cu.ay.fH l1 l2 cu.ag.length d).enter cu.ag.length (d+1)) (.list aY::T)) :=
  UN (S:=cu.ay.fH l1 l2 cu.ag.length d) aB (uH cu) (uI cu hl)
 have kz:((cu.ay.fH l1 l2 cu.ag.length d).enter cu.ag.length (d+1)).dep=.int (d+1):=rfl
 have iE:=xJ (P:=P) (T:=.list aY::T) (a:=.int 3) (k:=0) UU rfl kz (by have:=s2.aP;omega)
 have xQ:(((cu.ay.fH l1 l2 cu.ag.length d).enter cu.ag.length (d+1)).bg 17 (.int 3) 0).dep=.int (d+1+0):=rfl
 have jD:=H9 (P:=P) (T:=.list aY::T) xQ (by have:=s3.aP;omega)
 have VP:((((cu.ay.fH l1 l2 cu.ag.length d).enter cu.ag.length (d+1)).bg 17 (.int 3) 0).bg 14 (.int 3) 0).dep=.int (d+1+0+0):=rfl
 have u3:=xO (P:=P) (T:=.list aY::T) VP (by have:=s4.aP;omega)
 have pX:=bt P _ aY T d (.aO (bE c)) (.aO (bE c)) i IE
 let N:=ez hb [.aO (bE b),.str dN,.aO (bE c),.none] ei
 let L:List (Str×V):=[(bk,.ref 9),(cJ,N),(nh,.int l1),(pS,.int l2),(jN,.int d),(oG,.none),(xN,.int cu.ag.length),(fG,ei)]
 let se:List (Str×V):=[(bk,.ref 9),(cJ,N),(nh,.int l1),(pS,.int l2),(jN,.int d),(oG,.none),(xN,.int cu.ag.length),(fG,ei),(jO,pT)]
 let nk:List (Str×V):=[(bk,.ref 9),(cJ,N),(nh,.int l1),(pS,.int l2),(jN,.int d),(oG,.none),(xN,.int cu.ag.length),(fG,ei),(jO,pT),(⟨⟨[107,101,112,116]⟩⟩,ei)]
 exact aq.fu (fi:=⟨wg,[bk,cJ,nh,pS,jN,oG],[],Ek.1,none,false⟩) (vs:=[.ref 9,N,.int l1,.int l2,.int d,.none]) (cN:=[(bk,.ref 9),(cJ,N),(nh,.int l1),(pS,.int l2),(jN,.int d),(oG,.none)]) (by kernel_rfl) rfl (by kernel_rfl) rfl (by kernel_rfl) <|
  ab.cons (bJ:=L) (ah.mh (xs:=[xN,fG]) (us:=[.int cu.ag.length,ei]) (ai.tup (GE.cons (ai.a0 (v:=.ref 11) (first:=[.ref 11]) (vs:=[]) I rfl I (aK.mono (by omega))) (GE.cons I GE.nil))) (by kernel_rfl) (by kernel_rfl) (by kernel_rfl)) <|
  ab.cons (ah.expr (ai.a0 (v:=.ref 12) (first:=[.ref 12]) (vs:=[.int l1,.int l2,.int cu.ag.length,.int d,.bool false]) I rfl I (bw.mono (by omega)))) <|
  ab.cons (ah.expr (ai.a0 (v:=.ref 11) (first:=[.ref 11]) (vs:=[.int cu.ag.length,.int (d+1)]) I rfl I (da.mono (by omega)))) <|
  ab.cons (bJ:=se) I <|
  ab.cons (ah.cm I (ab.one (ah.expr (ai.a0 (v:=.ref 11) (first:=[.ref 11]) (vs:=[.int 17,.int 3]) I rfl I (iE.mono (by omega)))))) <|
  ab.cons (ah.expr (ai.a0 (v:=.ref 9) (first:=[.ref 9]) (vs:=[pT]) I rfl I (jD.mono (by omega)))) <|
  ab.cons (ah.expr (ai.a0 (v:=.ref 11) (first:=[.ref 11]) (vs:=[.int 6]) I rfl I (u3.mono (by omega)))) <|
  ab.cons (ah.iff I ab.nil) <|
  ab.cons (bJ:=nk) I <|
  ab.cons (bJ:=nk) I <|
  ab.cons (ah.expr (ai.a0 (v:=.ref 9) (first:=[.ref 9]) (vs:=[.aO (bE c)]) I rfl I (pX.mono (by omega)))) <|
  ab.one (bJ:=nk) I
end
section
variable {P:Pre}{S aT:au}{X hT T:List aj}{aY:List V}{d:Int}{D k l l1 l2:Nat}{kd dp v w nodes sc:V}{ls:List (Str×V)}{b c:bF}{H:List aj}{f:cA}{y:aj}{x z:Int}
theorem VQ (h:x≠z):dY .Eq (.int x) (.int z) ⟨H,True⟩=some (false,⟨H,True⟩):=by
 exact xE (decide_eq_false h)
theorem VR {n:Nat}{dt VS N:V}(hd:S.dep=.int d):ai (n+6) ⟨tn.scope,[],none,[(bk,.ref 9),(cJ,N),(ng,dt),(eh,.str dN),(jM,VS),(hR,.none)]⟩ (rT (m9 (eJ (bQ z0.1 1))) 2) (mk P S T) (.int d) (mk P S T):=by
 obtain ⟨_,_,_,_,_,_,_,_,_⟩:=S
 cases hd
 exact I
theorem VT (bt:jS b) (aw:jS c) (i:Inv P S aY T d (cQ b+cQ c+60)) :
 aq (max (bV b) (bV c)+7) (.obj (.ref 803)) [.ref 9,a9 (.dg b c)] (mk P S.l1 (.list aY::T)) .none (mk P (comp (.dg b c) S) (.list aY::T)):=by
 have ak:=i.ak
 have ZJ:=mm b
 have B0:bV b≤max (bV b) (bV c):=Nat.le_max_left _ _
 have lY:bV c≤max (bV b) (bV c):=Nat.le_max_right _ _
 obtain ⟨w,s0,aS,bf⟩:=xX i.hd i.he
 have ml:=gL b (cF S) d w.dep (s0.len i.he)
 have s1:av S.ag.length S (comp b (cF S)) (6+cQ b):=s0.trans (ml.st.less (by rw[bf];omega))
 have o:=ml.st.old S.ag.length (by rw[bf];omega)
 have l1:S.ag.length<(comp b (cF S)).ag.length:=Nat.lt_of_lt_of_le w.len ml.st.eV
 obtain ⟨w',s2⟩:=xY i.hd (s1.len i.he) ml.dep l1 (o.1.trans w.ao) (o.2.trans aS)
 have s3:=s1.trans s2
 have sf:=gL c (gy S (comp b (cF S))) d w'.dep (s3.len i.he)
 have s4:=s3.trans (sf.st.less (Nat.le_of_lt w'.len))
 have o':=sf.st.old S.ag.length w'.len
 have IG:(comp c (gy S (comp b (cF S)))).fits S.ag.length d:=by
  have:=w'.aC
  unfold au.fits at this ⊢
  rw[o'.2];exact this
 have mf:S.ag.length<(comp c (gy S (comp b (cF S)))).bB.length:=by
  rw[s4.len i.he];exact Nat.lt_of_lt_of_le w'.len sf.st.eV
 -- VU ZK on VU way
 have nJ:av S.ag.length S S.l1.ay.ay 4:=(av.l1.trans (av.ay (Nat.le_refl _) i.he)).trans (av.ay (S:=S.l1.ay) (by rw[kA];exact Nat.le_succ _) (by unfold au.ay;simp;exact i.he)) |>.more (by omega)
 have aK:=pJ (P:=P) (S:=S.l1) (T:=.list aY::T) (by show S.aP<aL;omega)
 have bw:=pJ (P:=P) (S:=S.l1.ay) (T:=.list aY::T) (by have:=(av.ay (n:=0) (S:=S.l1) (Nat.zero_le _) i.he).aP;have:S.l1.aP=S.aP:=rfl;omega)
 rw[kA] at bw
 have ic:S.l1.ay.ay.ag.length=S.ag.length+2:=by rw[kA,kA];rfl
 have da:=ID (P:=P) (S:=S.l1.ay.ay) (T:=.list aY::T) (d:=d) (.inl i.hd) (nJ.len i.he) (by have:=nJ.aP;omega)
 rw[ic] at da
 have VV:Inv P (cF S) aY T d (cQ b):=⟨i.hy,w.dep,s0.con i.aw,s0.len i.he,s0.ky i.bR,by have:=s0.aP;omega,by have:=i.hl;omega,i.eK⟩
 have iE:=bt P (cF S) aY T d (.aO (bE b)) (.aO (bE b)) VV IE
 have pB:=s1.len i.he
 have jD:=ID (P:=P) (S:=comp b (cF S)) (T:=.list aY::T) ml.dep pB (by have:=s1.aP;omega)
 have lb:=BY ml.dep pB
 obtain ⟨fa,es⟩:=BZ l1 pB
 have kr:=av.mark (n:=S.ag.length) (Nat.le_of_lt l1) pB
 have IH:(comp b (cF S)).mark.dep=.int d∨(comp b (cF S)).mark.dep=.none:=by rw[lb];exact ml.dep
 have u3:=IF (P:=P) (X:=.list aY::T) (S:=(comp b (cF S)).mark) (l:=S.ag.length) (d:=d) (v:=.int (S.ag.length+1:Nat)) (IH.elim (fun q=>.inl ⟨q,.inl (es.trans (o.2.trans aS))⟩) .inr) (by have:=kr.aP;have:=s1.aP;omega)
 have r9:av S.ag.length S ((comp b (cF S)).mark.jmp S.ag.length) (cQ b+12):=((s1.trans kr).trans (av.jmp (Nat.le_refl _))).more (by omega)
 have gx:S.gx=d:=by unfold au.gx;rw[i.hd]
 have II:Inv P (gy S (comp b (cF S))) aY T d (cQ c):=⟨i.hy,w'.dep,s3.con i.aw,s3.len i.he,s3.ky i.bR,by have:=s3.aP;omega,by have:=i.hl;omega,i.eK⟩
 have ao:gy S (comp b (cF S))=((((((comp b (cF S)).mark.jmp S.ag.length).ay.fH (S.ag.length+2) (comp b (cF S)).ag.length ((comp b (cF S)).mark.jmp S.ag.length).ag.length d).enter ((comp b (cF S)).mark.jmp S.ag.length).ag.length (d+1)).bg 17 (.int 3) 0).bg 14 (.int 3) 0).pop:=by
  unfold gy;rw[gx]
 rw[ao] at II
 have pX:=VO (b:=b) (l1:=S.ag.length+2) (l2:=(comp b (cF S)).ag.length) aw (kB IH) (r9.len i.he) (by have:=r9.aP;omega) II
 rw[←ao] at pX
 have Ca:=IF (P:=P) (X:=.list aY::T) (S:=comp c (gy S (comp b (cF S)))) (l:=S.ag.length) (d:=d) (v:=.int (S.ag.length+1:Nat)) (sf.dep.elim (fun q=>.inl ⟨q,IG⟩) .inr) (by have:=s4.aP;omega)
 have Cb:=uY (P:=P) (T:=.list aY::T) (S:=(comp c (gy S (comp b (cF S)))).jmp S.ag.length) (l:=S.ag.length) (.inr ⟨kB sf.dep,(Ij sf.dep IG mf).elim (fun h=>⟨_,h⟩) fun h=>⟨_,h⟩⟩) (by rw[oB];exact o'.1.trans w'.ao)
 have ne:(((comp b (cF S)).mark.aN.length:Nat):Int)≠((cF S).aN.length:Nat):=by
  have:=ml.lt;have:=kr.i8;omega
 rw[u4] at pX ⊢
 let N:=ez hb [.aO (bE b),.str dN,.aO (bE c),.none] ei
 let VW:List (Str×V):=[(bk,.ref 9),(cJ,N),(ng,.aO (bE b)),(eh,.str dN),(jM,.aO (bE c)),(hR,.none)]
 let se:List (Str×V):=[(bk,.ref 9),(cJ,N),(ng,.aO (bE b)),(eh,.str dN),(jM,.aO (bE c)),(hR,.none),(pR,.int S.ag.length),(uK,.int (S.ag.length+1:Nat)),(jN,.int d)]
 let nk:List (Str×V):=[(bk,.ref 9),(cJ,N),(ng,.aO (bE b)),(eh,.str dN),(jM,.aO (bE c)),(hR,.none),(pR,.int S.ag.length),(uK,.int (S.ag.length+1:Nat)),(jN,.int d),(oG,.none)]
 let VX:List (Str×V):=[(bk,.ref 9),(cJ,N),(ng,.aO (bE b)),(eh,.str dN),(jM,.aO (bE c)),(hR,.none),(pR,.int S.ag.length),(uK,.int (S.ag.length+1:Nat)),(jN,.int d),(oG,.none),(nh,.int (S.ag.length+2:Nat)),(iM,.int (cF S).aN.length)]
 let VY:List (Str×V):=[(bk,.ref 9),(cJ,N),(ng,.aO (bE b)),(eh,.str dN),(jM,.aO (bE c)),(hR,.none),(pR,.int S.ag.length),(uK,.int (S.ag.length+1:Nat)),(jN,.int d),(oG,.none),(nh,.int (S.ag.length+2:Nat)),(iM,.int (cF S).aN.length),(pS,.int (comp b (cF S)).ag.length),(IC,.bool false)]
 exact aq.fu (fi:=⟨tn,[bk,cJ],[],z0.1,none,false⟩) (vs:=[.ref 9,N]) (cN:=[(bk,.ref 9),(cJ,N)]) (by kernel_rfl) rfl (by kernel_rfl) rfl (by kernel_rfl) <|
  ab.cons (bJ:=VW) I <|
  ab.cons (bJ:=se) (ah.mh (xs:=[pR,uK,jN]) (us:=[.int S.ag.length,.int (S.ag.length+1:Nat),.int d]) (ai.tup (GE.cons (ai.a0 (v:=.ref 11) (first:=[.ref 11]) (vs:=[]) I rfl I (aK.mono (by omega))) (GE.cons (ai.a0 (v:=.ref 11) (first:=[.ref 11]) (vs:=[]) I rfl I (bw.mono (by omega))) (GE.cons (VR (S:=S.l1.ay.ay) i.hd) GE.nil)))) (by kernel_rfl) (by kernel_rfl) (by kernel_rfl)) <|
  ab.cons (bJ:=nk) (ah.assign (v:=.none) (ai.a0 (v:=.ref 9) (first:=[.ref 9]) (vs:=[]) I rfl I (VN.mono (by omega))) (bq.name (by kernel_rfl))) <|
  ab.cons (bJ:=VX) (ah.mh (xs:=[nh,iM]) (us:=[.int (S.ag.length+2:Nat),.int (cF S).aN.length]) (ai.tup (GE.cons (ai.a0 (v:=.ref 11) (first:=[.ref 11]) (vs:=[]) I rfl I (da.mono (by omega))) (GE.cons (ai.a0 (v:=.ref 12) (first:=[.ref 12]) (vs:=[]) I rfl I (BJ.mono (by omega))) GE.nil))) (by kernel_rfl) (by kernel_rfl) (by kernel_rfl)) <|
  ab.cons (ah.iff I ab.nil) <|
  ab.cons (ah.expr (ai.a0 (v:=.ref 9) (first:=[.ref 9]) (vs:=[.aO (bE b)]) I rfl I (iE.mono (by omega)))) <|
  ab.cons (bJ:=VY) (ah.mh (xs:=[pS,IC]) (us:=[.int (comp b (cF S)).ag.length,.bool false]) (ai.tup (GE.cons (ai.a0 (v:=.ref 11) (first:=[.ref 11]) (vs:=[]) I rfl I (jD.mono (by omega))) (GE.cons (ai.cmp (ai.a0 (v:=.ref 12) (first:=[.ref 12]) (vs:=[]) I rfl I (BJ.mono (by omega))) I (VQ ne)) GE.nil))) (by kernel_rfl) (by kernel_rfl) (by kernel_rfl)) <|
  ab.cons (ah.expr (ai.a0 (v:=.ref 9) (first:=[.ref 9]) (vs:=[.none,.int (S.ag.length+1:Nat),.int S.ag.length]) I rfl I (u3.mono (by omega)))) <|
  ab.cons (ah.cm I (ab.cons (ah.expr (ai.a0 (v:=.ref 9) (first:=[.ref 9]) (vs:=[N,.int (S.ag.length+2:Nat),.int (comp b (cF S)).ag.length,.int d,.none]) I rfl I (pX.mono (by omega)))) <|
   ab.one (ah.expr (ai.a0 (v:=.ref 9) (first:=[.ref 9]) (vs:=[.none,.int (S.ag.length+1:Nat),.int S.ag.length]) I rfl I (Ca.mono (by omega)))))) <|
  ab.cons (ah.iff I ab.nil) <|
  ab.one (ah.expr (ai.a0 (v:=.ref 11) (first:=[.ref 11]) (vs:=[.int S.ag.length]) I rfl I (Cb.mono (by omega))))
end
theorem VZ {b c:bF}(bt:jS b) (aw:jS c):mj (.dg b c):=fun P S aY T d i=>by
 have g:=VT bt aw i
 refine ⟨[],x2 i.eK,?_⟩
 rw[List.append_nil]
 show aq (max (bV b) (bV c)+10) _ _ _ _ _
 rw[u4] at g ⊢
 exact (uX (D:=max (bV b) (bV c)+6) (kd:=hb) (ps:=[.aO (bE b),.str dN,.aO (bE c),.none]) (sc:=ei) <|
  ab.bx I<|ab.bx I<|ab.bx I<|ab.bx I<|ab.bx I<|ab.bx I<|ab.bx I<|ab.bx I<|ab.bx I<|ab.bx I<|ab.eP I <|
  ab.one (ah.expr (ai.a0 (v:=.ref 9) (first:=[.ref 9]) (vs:=[ez hb [.aO (bE b),.str dN,.aO (bE c),.none] ei]) I rfl I (g.mono (by omega))))).mono (by omega)
theorem pY:∀ t:bF,wf t=true→(fW t=true→mj t)∧jS t
 |.b7 n,_=>⟨fun _=>Iu n,sb rfl (Iu n)⟩
 |.el,_=>⟨fun _=>Iv,sb rfl Iv⟩
 |.fg k,_=>⟨fun _=>Iw k,sb rfl (Iw k)⟩
 |.du n b,h=>by
  obtain ⟨h1,af⟩:=Bool.and_eq_true_iff.mp h
  have s:=VH n (pY b af).2 h1
  exact ⟨fun _=>s,sb rfl s⟩
 |.fin t n b,h=>by
  obtain ⟨h1,af⟩:=Bool.and_eq_true_iff.mp h
  have s:=VM t n (pY b af).2 h1
  exact ⟨fun _=>s,sb rfl s⟩
 |.dg b c,h=>by
  obtain ⟨h1,af⟩:=Bool.and_eq_true_iff.mp h
  have s:=VZ (pY b h1).2 (pY c af).2
  exact ⟨fun _=>s,sb rfl s⟩
 |.two a b,h=>by
  obtain ⟨h0,aB⟩:=Bool.and_eq_true_iff.mp h
  obtain ⟨h1,af⟩:=Bool.and_eq_true_iff.mp h0
  obtain ⟨bu,dC⟩:=Bool.and_eq_true_iff.mp aB
  exact ⟨(fun q=>Bool.noConfusion q),VB ((pY a bu).1 h1) ((pY b dC).1 af)⟩
section
set_option backward.match.sparseCases false
structure bG where
 b:Bool
 l:List Int
 n:Int
 m:Int
noncomputable def fx:List (Nat×Nat):=match (e4 60).cl 10 (.obj (.ref 890)) [] ⟨[.tab "_law_view.<locals>.<lambda>" []],True⟩ with
 |some (_,⟨.tab _ r::_,_⟩)=>r
 |_=>[]
noncomputable def aJ (A B:aj) (D:bG) (T:List aj):List aj :=
 .tab "_law_view.<locals>.<lambda>" (match D.b with |true=>fx |false=>[])::.tab "law.<locals>.<lambda>" []::.cell (some (.ref 6))::A::.list (D.l.map V.int)::B::.list [.ref 4,.int D.n,.int D.m]::T
noncomputable def bG.take (D:bG) (w:Int):Int×bG:=match D.l with
 |a::r=>((if a<0 then -a else a).fmod w,⟨D.b,r,D.n+1,D.m⟩)
 |[]=>((7 * (D.n+1)+(D.n+1).fdiv 3+D.m).fmod w,⟨D.b,[],D.n+1,D.m⟩)
noncomputable abbrev gM:Str:=⟨⟨[98,111,120]⟩⟩
noncomputable abbrev Cc:Str:=⟨⟨[119,105,100,101]⟩⟩
noncomputable abbrev IJ:Str:=⟨⟨[109,97,110,121]⟩⟩
noncomputable abbrev sg:Str:=⟨⟨[102,111,114,109]⟩⟩
noncomputable abbrev nq:Str:=⟨⟨[100,101,101,112]⟩⟩
noncomputable abbrev jU:Str:=⟨⟨[116,117,114,110]⟩⟩
section
variable {A B:aj}{D:bG}{T:List aj}{w:Int}
theorem oH (hw:0<w):aq 3 (.obj (.ref 864)) [.ref 6,.int w] (aJ A B D T) (.int (D.take w).1) (aJ A B (D.take w).2 T):=by
 obtain ⟨b,l,n,m⟩:=D
 cases l with
 |nil=>exact Gt.k9 40 (fun aa=>(aa∧0<(3:Int)∧(3:Int)<1000)∧0<w) (fun N n aa=>by kernel_rfl) fun aa o=>⟨⟨o,by omega,by omega⟩,hw⟩
 |cons a r =>
  have aw:∀ H:List aj,dY .Gt (.int ((((a::r).map V.int).length:Nat):Int)) (.int 0) ⟨H,True⟩=some (true,⟨H,True⟩):=fun H=>by
   have:(0:Int)<(((a::r).map V.int).length:Nat):=by simp
   exact xE (decide_eq_true this)
  exact aq.hQ (fi:=⟨wi,[gM,Cc],[],Em.1,none,false⟩) (vs:=[.ref 6,.int w]) (cN:=[(gM,.ref 6),(Cc,.int w)]) (by kernel_rfl) rfl (by kernel_rfl) rfl (by kernel_rfl) <|
   ab.cons (H1:=aJ A B ⟨b,a::r,n+1,m⟩ T) (bJ:=[(gM,.ref 6),(Cc,.int w)]) ie <|
   ab.stop (ah.cm (GT.cmp I I (aw _)) (ab.ret (ah.ret (Gt.k9 40 (fun aa=>aa∧0<w) (fun N n aa=>by kernel_rfl) fun aa o=>⟨o,hw⟩)))) ey
theorem ih (hw:0<w):0≤(D.take w).1∧(D.take w).1<w:=by
 unfold bG.take
 split
 ·exact ⟨Int.fmod_nonneg_of_pos _ hw,Int.fmod_lt_of_pos _ hw⟩
 ·exact ⟨Int.fmod_nonneg_of_pos _ hw,Int.fmod_lt_of_pos _ hw⟩
end
end
section
variable {d:Nat}{fr:a5}{H H1 H2 H3 Cd:List aj}{e:PySem.Expr}{args:List PySem.Expr}{pos:Pos}{vs:List V}{g b u:V}
theorem V0 {R:dR}{n:Nat}{st:ax}(he:(lR e).isNone=true):tN R n fr e args [] pos st=(R.ev n fr e st).bind fun g=>bif calleeOk g.1 then (f7 R n fr args g.2).bind fun z=>R.cl n g.1 z.1 z.2 else none:=l9 (Option.isNone_iff_eq_none.mp he)
theorem V1 {R:dR}{n:Nat}{st:ax}(hf:nM fr e args=true):pg R n fr (.Call e args [] pos) st=(tN R n fr e args [] pos st).bind fun x=>fin st.H.length x.1 x.2:=en hf
theorem ai.IK (hf:nM fr e args=true) (h:ai d fr e H g H1) (b2:GE d fr args H1 vs H2) (aw:aq d g vs H2 b H3) (ar:∀ aa,fin H.length b ⟨H3,aa⟩=some (u,⟨Cd,aa⟩))
 (he:(lR e).isNone=true:=by kernel_rfl)
 (cP:calleeOk g=true:=by kernel_rfl):ai d fr (.Call e args [] pos) H u Cd:=fun aa o=>by
 obtain ⟨e7,fa,x⟩:=h aa o
 obtain ⟨eg,es,y⟩:=b2 e7 fa
 obtain ⟨ow,fP,z⟩:=aw eg es
 exact ⟨ow,fP,((x.and y).and z).step fun N n bc a=>(V1 hf).trans ((bj ((V0 he).trans ((bj a.1.1).trans ((en cP).trans ((bj a.1.2).trans a.2))))).trans (ar ow))⟩
end
structure ek (A B:aj) (T:List aj):Prop where
 a:cE 7 A=true
 b:cE 7 B=true
 t:T.all (cE (7+T.length))=true
theorem x5 {b:Nat}:∀ l:List Int,dG b (l.map V.int)=true
 |[]=>rfl
 |_::r=>x5 r
theorem oI {A B:aj}{D:bG}{T:List aj}:(aJ A B D T).length=7+T.length:=by unfold aJ;simp;omega
theorem u5 {A B:aj}{D:bG}{T:List aj}(h:ek A B T):(aJ A B D T).all (cE (aJ A B D T).length)=true:=by
 rw[oI]
 have bt:7≤7+T.length:=by omega
 have m:∀ o,cE 7 o=true→cE (7+T.length) o=true:=fun o=>mi bt o
 unfold aJ
 simp only[List.all_cons,Bool.and_eq_true]
 exact ⟨rfl,rfl,m _ rfl,m _ h.a,x5 _,m _ h.b,m _ rfl,h.t⟩
theorem u6 {G:List aj}{b n:Nat}:∀{ps:List V},(∀ v∈ps,isA v=true∧cy 0 v=true)→iA (gG G b (n+1)) ps=some ps
 |[],_=>rfl
 |v::r,h=>nd (ej (h v (.head _)).1 (nj (Nat.zero_le _) _ (h v (.head _)).2)) (u6 fun u m=>h u (.tail _ m))
section
variable {d:Nat}{fr:a5}{A B:aj}{D D' : bG}{T:List aj}{e:PySem.Expr}{args:List PySem.Expr}{pos:Pos}{ps us:List V}{k:Str}{l:Int}
theorem kF (hf:nM fr e args=true) (h:ai (d+2) fr e (aJ A B D T) (.obj (.ref 853)) (aJ A B D T)) (b2:GE (d+2) fr args (aJ A B D T) [.str k,.int l,.ref (T.length+7)] (aJ A B D' (T++[.list ps]))) (aw:ek A B T) (a4:∀ v∈ps,isA v=true∧cy 0 v=true)
 (he:(lR e).isNone=true:=by kernel_rfl) :
 ai (d+2) fr (.Call e args [] pos) (aJ A B D T) (ff k l ps) (aJ A B D' T) :=
 ai.IK hf h b2 ((xK (H:=aJ A B D' (T++[.list ps])) (.str k) (.int l) (.ref (T.length+7))).mono (by omega)) (fun aa=>H7 (H:=aJ A B D' T) (u5 aw) (u6 a4)) he
theorem IL {J:List aj}(hf:nM fr e args=true) (h:ai (d+2) fr e (aJ A B D T) (.obj (.ref 853)) (aJ A B D T)) (b2:GE (d+2) fr args (aJ A B D T) [.str k,.int l,.ref (aJ A B D' (T++J)).length] (aJ A B D' (T++J)++[.list ps])) (aw:ek A B T) (a4:∀ n b G,b≤7+T.length→b=(aJ A B D' T).length→G=(aJ A B D' (T++J)++[.list ps])++[BQ k l (.ref (aJ A B D' (T++J)).length)]→n=5→iA (gG G b (n+1)) ps=some us)
 (he:(lR e).isNone=true:=by kernel_rfl) :
 ai (d+2) fr (.Call e args [] pos) (aJ A B D T) (ff k l us) (aJ A B D' T):=by
 refine ai.IK hf h b2 ((xK (.str k) (.int l) (.ref (aJ A B D' (T++J)).length)).mono (by omega)) (fun aa=>?_) he
 have ao:(aJ A B D T).length=(aJ A B D' T).length:=rfl
 rw[ao]
 have le:(aJ A B D' T).length≤(aJ A B D' (T++J)).length:=by rw[oI,oI];simp
 refine pN (rZ (Nat.le_trans le (by simp)) fe (dx (ej rfl rfl) (dx (ej rfl rfl) (dx (kv le (cY fe) (a4 5 _ _ (by rw[oI];exact Nat.le_refl _) rfl rfl rfl)) (dx (ej rfl rfl) r0))))) ?_ (u5 aw)
 show ((aJ A B D' T++J++[aj.list ps])++[_]).take (aJ A B D' T).length=_
 rw[List.append_assoc,List.append_assoc];exact rY
end
noncomputable def e8 (i:Int):b9:=match i with
 |0=>.t
 |1=>.u
 |2=>.e
 |_=>.x
section
variable {A B:aj}{D:bG}{T:List aj}{w:Int}
theorem IM (hw:0<w) (ZL:w≤4) (aw:ek A B T):aq 6 (.obj (.ref 871)) [.ref 6,.int w] (aJ A B D T) (cC (e8 (D.take w).1)) (aJ A B (D.take w).2 T):=by
 obtain ⟨h1,af⟩:=ih (D:=D) hw
 have az:=oH (A:=A) (B:=B) (D:=D) (T:=T++[.list [.str rR,.str rS,.str pF,.str dN]]) hw
 generalize D.take w=q at *
 obtain ⟨i,D'⟩:=q
 dsimp only at h1 af az ⊢
 have cP:∀ H:List aj,H[T.length+7]?=some (.list [.str rR,.str rS,.str pF,.str dN])→jx (.ref (T.length+7)) (.int i) ⟨H,True⟩=some (.str (e8 i).s):=fun H e=>by
  have:i=(0:Nat)∨i=(1:Nat)∨i=(2:Nat)∨i=(3:Nat):=by omega
  rcases this with rfl |rfl |rfl |rfl <;> exact mb e rfl
 have t1:jx (.ref (T.length+7)) (.int i) ⟨aJ A B D' (T++[.list [.str rR,.str rS,.str pF,.str dN]]),True⟩=some (.str (e8 i).s):=cP _ (fe (H:=aJ A B D' T))
 exact aq.hQ (fi:=⟨wj,[gM,IJ],[],En.1,none,false⟩) (vs:=[.ref 6,.int w]) (cN:=[(gM,.ref 6),(IJ,.int w)]) (by kernel_rfl) rfl (by kernel_rfl) rfl (by kernel_rfl) <|
  ab.ret (ah.ret (IL (d:=3) (D':=D') (ps:=[.str (e8 i).s]) (us:=[.str (e8 i).s]) (J:=[.list [.str rR,.str rS,.str pF,.str dN]]) (by kernel_rfl) I
   (GE.cons (v:=.str uJ) I (GE.cons (v:=.int 1) I (GE.cons (ai.list (GE.cons (ai.sub (v:=.ref (T.length+7)) (H1:=aJ A B D (T++[.list [.str rR,.str rS,.str pF,.str dN]])) ie
    (ai.bI (g:=.obj (.ref 864)) (vs:=[.ref 6,.int w]) I I (az.mono (by omega))) t1) GE.nil)) GE.nil))) aw (fun n b G bt _ _ _=>nd (ej rfl rfl) r1)))
end
noncomputable abbrev lj:Str:=⟨⟨[105,115,95,99,97,117,103,104,116]⟩⟩
noncomputable def ij (q:Bool) (a b:Int):Int:=match q with |true=>a |false=>b
noncomputable def x6 (i:Int) (cz:bG):dH×bG:=match i with
 |0=>(.b7 .v,cz)
 |1=>(.var,cz)
 |2=>(.mem (e8 (cz.take 3).1),(cz.take 3).2)
 |3=>(.c6 (e8 (cz.take 2).1) (e8 ((cz.take 2).2.take 3).1),((cz.take 2).2.take 3).2)
 |_=>(.b7 .x,cz)
noncomputable def gd (q:Bool) (D:bG):dH×bG:=x6 (D.take (ij q 5 4)).1 (D.take (ij q 5 4)).2
section
variable {A B:aj}{D:bG}{T:List aj}{w:Int}
theorem pZ (n:b9):isA (cC n)=true∧cy 0 (cC n)=true:=by cases n <;> exact ⟨rfl,rfl⟩
theorem V2 {b:Nat}{T:List aj}{D' : bG}{G:List aj}{o:aj}{r:Nat}(bt:b≤r) (h:G[r]?=some (.list [.tup [.str m8,.none]])):iA (gG G b 6) [.ref r]=some [.aO [.tup [.str m8,.none]]] :=
 nd (kv bt h (nd rfl r1)) r1
theorem V3 (q:Bool) (aw:ek A B T):aq 9 (.obj (.ref 878)) [.ref 6,.bool q] (aJ A B D T) (c7 (gd q D).1) (aJ A B (gd q D).2 T):=by
 have cB:∀(cz:bG) (w:Int),0<w→w≤4→aq 6 (.obj (.ref 871)) [.ref 6,.int w] (aJ A B cz T) (cC (e8 (cz.take w).1)) (aJ A B (cz.take w).2 T):=fun cz w h h'=>IM h h' aw
 have key:∀(i:Int) (cz:bG),(0≤i∧i<5)→ab 8 ⟨tp.scope,[],none,[(gM,.ref 6),(lj,.bool q),(sg,.int i)]⟩ (z2.1.drop 1) (aJ A B cz T)
  (.ret (c7 (x6 i cz).1)) [(gM,.ref 6),(lj,.bool q),(sg,.int i)] (aJ A B (x6 i cz).2 T):=fun i cz aM=>by
  have:i=0∨i=1∨i=2∨i=3∨i=4:=by omega
  rcases this with rfl |rfl |rfl |rfl |rfl
  ·exact ab.stop (ah.cm I (ab.ret (ah.ret (kF (d:=6) (ps:=[.str HC]) (D':=cz) (by kernel_rfl) I (GE.cons I (GE.cons I (GE.cons (ai.list (H1:=aJ A B cz T) (GE.cons I GE.nil)) GE.nil))) aw (by intro v m;rw[List.mem_singleton.mp m];exact ⟨rfl,rfl⟩))))) ey
  ·exact ab.cons (ah.iff I ab.nil)<|ab.stop (ah.cm I (ab.ret (ah.ret (IL (d:=6) (J:=[.list [.tup [.str m8,.none]]]) (D':=cz) (ps:=[.ref (aJ A B cz T).length]) (by kernel_rfl) I
    (GE.cons I (GE.cons I (GE.cons (ai.list (GE.cons (ai.list (H1:=aJ A B cz T) (GE.cons I GE.nil)) GE.nil)) GE.nil))) aw (fun n b G bt _ jq bc=>by
     subst bc;subst jq
     exact V2 (T:=T) (D':=cz) (o:=.dead) (by rw[oI];exact bt) (cY (cY (fe (H:=aJ A B cz T))))))))) ey
  ·exact ab.cons (ah.iff I ab.nil)<|ab.cons (ah.iff I ab.nil)<|ab.stop (ah.cm I (ab.ret (ah.ret (kF (d:=6) (ps:=[cC (e8 (cz.take 3).1),.str iK]) (D':=(cz.take 3).2) (by kernel_rfl) I
    (GE.cons I (GE.cons I (GE.cons (ai.list (H1:=aJ A B (cz.take 3).2 T) (GE.cons (ai.bI (g:=.obj (.ref 871)) (vs:=[.ref 6,.int 3]) I I ((cB cz 3 (by omega) (by omega)).mono (by omega))) (GE.cons I GE.nil))) GE.nil))) aw (by
     intro v m
     rcases List.mem_cons.mp m with rfl |m
     ·exact pZ _
     ·rw[List.mem_singleton.mp m];exact ⟨rfl,rfl⟩))))) ey
  ·exact ab.cons (ah.iff I ab.nil)<|ab.cons (ah.iff I ab.nil)<|ab.cons (ah.iff I ab.nil)<|ab.stop (ah.cm I (ab.ret (ah.ret (kF (d:=6) (ps:=[cC (e8 (cz.take 2).1),cC (e8 ((cz.take 2).2.take 3).1)]) (D':=((cz.take 2).2.take 3).2) (by kernel_rfl) I
    (GE.cons I (GE.cons I (GE.cons (ai.list (H1:=aJ A B ((cz.take 2).2.take 3).2 T) (GE.cons (ai.bI (g:=.obj (.ref 871)) (vs:=[.ref 6,.int 2]) I I ((cB cz 2 (by omega) (by omega)).mono (by omega))) (GE.cons (ai.bI (g:=.obj (.ref 871)) (vs:=[.ref 6,.int 3]) I I ((cB (cz.take 2).2 3 (by omega) (by omega)).mono (by omega))) GE.nil))) GE.nil))) aw (by
     intro v m
     rcases List.mem_cons.mp m with rfl |m
     ·exact pZ _
     ·rw[List.mem_singleton.mp m];exact pZ _))))) ey
  ·exact ab.cons (ah.iff I ab.nil)<|ab.cons (ah.iff I ab.nil)<|ab.cons (ah.iff I ab.nil)<|ab.cons (ah.iff I ab.nil)<|ab.ret (ah.ret (kF (d:=6) (ps:=[.str dN]) (D':=cz) (by kernel_rfl) I (GE.cons I (GE.cons I (GE.cons (ai.list (H1:=aJ A B cz T) (GE.cons I GE.nil)) GE.nil))) aw (by intro v m;rw[List.mem_singleton.mp m];exact ⟨rfl,rfl⟩)))
 have az:=oH (A:=A) (B:=B) (D:=D) (T:=T) (w:=ij q 5 4) (by cases q <;> decide)
 have lt:=ih (D:=D) (w:=ij q 5 4) (by cases q <;> decide)
 refine aq.hQ (fi:=⟨tp,[gM,lj],[],z2.1,none,false⟩) (vs:=[.ref 6,.bool q]) (cN:=[(gM,.ref 6),(lj,.bool q)]) (by kernel_rfl) rfl (by kernel_rfl) rfl (by kernel_rfl) <|
  ab.cons (bJ:=[(gM,.ref 6),(lj,.bool q),(sg,.int (D.take (ij q 5 4)).1)]) (ah.assign (ai.bI (g:=.obj (.ref 864)) (vs:=[.ref 6,.int (ij q 5 4)]) I (by cases q <;> exact I) (az.mono (by omega))) (bq.name (by kernel_rfl))) (key _ _ ⟨lt.1,by cases q <;> (have:=lt.2;simp only[ij] at this ⊢;omega)⟩)
end
section
variable {d:Nat}{fr:a5}{H H1 H2 G:List aj}{ls bJ jK:List (Str×V)}{t e:PySem.Expr}{bp:List PySem.Expr}{v u:V}{vs:List V}{i k:Nat}{C:Addr}{fs:List (Str×V)}{nm:Str}{p:Pos}{az:Nat}
noncomputable abbrev ll (d:Nat) (fr:a5) (bp:List PySem.Expr) (vs:List V) (H:List aj) (ls:List (Str×V)) (H' : List aj):Prop:=Gt d (fun N n st=>tO (e4 N) n fr bp vs st) H (fun s=>(ls,s)) H'
theorem ll.nil:ll d fr [] [] H fr.ls H:=Gt.now fun N n s _ _=>rfl
theorem ll.cons (h:bq d fr t v H bJ H1) (af:ll d (fr.up bJ) bp vs H1 jK H2):ll d fr (t::bp) (v::vs) H jK H2 :=
 h.pE af fun N n s s1 s2 _ aS bf _ _ _=>(bj aS).trans bf
theorem bq.tup (ak:bp.any isStar=false) (h:ll d fr bp vs H ls H1):bq d fr (.Tuple bp az p) (.tup vs) H ls H1 :=
 h.step fun N n s s1 _ q _ _=>(eU ak).trans ((bj (o:=q3 (.tup vs) s) rfl).trans q)
theorem V4 (h:H[i]?=some (.inst C fs)) (af:wx (C,fs) nm=some v):mU (.ref i) nm ⟨H,True⟩=some v:=(bj (congrArg lT h)).trans (rK af)
theorem p0:(H++G)[H.length+k]?=G[k]?:=by rw[List.getElem?_append_right (Nat.le_add_right _ _),Nat.add_sub_cancel_left]
theorem V5 {x:aj}:(H++G).set (H.length+k) x=H++G.set k x:=by rw[List.set_append_right _ _ (Nat.le_add_right _ _),Nat.add_sub_cancel_left]
theorem Ce (x y z:V):aq 2 (.obj (.ref 853)) [x,y,z] (H++G) (.ref (H.length+G.length)) (H++(G++[.inst 853 [(c3,x),(eo,y),(dV,z),(g8,.none)]])):=by
 have:=xK (H:=H++G) x y z
 rwa [List.length_append,List.append_assoc] at this
theorem Cf {aD:List PySem.Expr}(h:GE d fr aD H1 vs (H++G)) (hl:Nat.blt 100 aD.length=false:=by kernel_rfl):ai d fr (.List aD p) H1 (.ref (H.length+G.length)) (H++(G++[.list vs])):=by
 have:=ai.list (p:=p) h hl
 rwa [List.length_append,List.append_assoc] at this
theorem bq.at {o:PySem.Expr}(h:ai d fr o H1 (.ref (H.length+k)) (H++G)) (ar:G[k]?=some (.inst C fs)) (af:attrOk C nm fs=true):bq d fr (.Attribute o nm p) u H1 fr.ls (H++G.set k (.inst C (d8 nm u fs))) :=
 bq.attr h (by rw[H6 af (p0.trans ar),V5])
end
section
set_option backward.match.sparseCases false
section
variable {A B:aj}{D:bG}{T:List aj}{w:Int}{H:List aj}
noncomputable def fJ (A B:aj) (R:List (Nat×Nat)) (D:bG) (T:List aj):List aj :=
 .tab "_law_view.<locals>.<lambda>" R::.tab "law.<locals>.<lambda>" []::.cell (some (.ref 6))::A::.list (D.l.map V.int)::B::.list [.ref 4,.int D.n,.int D.m]::T
noncomputable abbrev f1 (m:Nat):List (Str×V):=[(c3,.str fG),(eo,.int 0),(dV,.ref (m+0)),(g8,.none)]
noncomputable abbrev f2 (m:Nat):List (Str×V):=f1 m++[(pI,.ref (m+2)),(rO,.bool false),(pH,.int 0),(rQ,.str BG)]
noncomputable abbrev jC (m:Nat):List (Str×V):=f2 m++[(Hu,nc gF.1 2)]
noncomputable abbrev f4 (m:Nat):List (Str×V):=jC m++[(Hw,nc gF.1 3)]
noncomputable abbrev jJ (m:Nat):List (Str×V):=f4 m++[(jM,.ref (m+4))]
noncomputable abbrev gZ (m:Nat):List (Str×V):=[(c3,.str jM),(eo,.int 0),(dV,.ref (m+3)),(g8,.none)]
noncomputable abbrev mq (ls:List (Str×V)):a5:=⟨tq.scope,[],some (0,"_law_view.<locals>.<lambda>"),ls⟩
noncomputable def V6:PySem.Expr→Pos
 |.List _ p=>p
 |_=>default
theorem IP:ah 4 (mq []) (bQ gF.1 0) H .next [(fG,.ref (H.length+1))] (H++[.list [],.inst 853 (f1 H.length)]):=by
 have l:=Cf (d:=4) (fr:=mq []) (H:=H) (G:=[]) (p:=V6 (rT (m9 (eJ (bQ gF.1 0))) 2)) (H1:=H) (GE.nil.mono (Nat.le_refl 4) |> fun h=>by rw[List.append_nil];exact h)
 exact ah.assign (ai.bI (g:=.obj (.ref 853)) I (GE.cons (v:=.str fG) I (GE.cons (v:=.int 0) I (GE.cons l GE.nil))) ((Ce (H:=H) (G:=[.list []]) _ _ _).mono (by omega))) (bq.name (by kernel_rfl))
theorem IQ:ah 4 (mq [(fG,.ref (H.length+1))]) (bQ gF.1 1) (H++[.list [],.inst 853 (f1 H.length)]) .next [(fG,.ref (H.length+1))] (H++[.list [],.inst 853 (f2 H.length),.list []]):=by
 exact ah.assign (v:=.tup [.ref (H.length+2),.bool false,.int 0,.str BG]) (H1:=H++[.list [],.inst 853 (f1 H.length),.list []])
  (ai.tup (GE.cons (Cf (H:=H) (G:=[.list [],.inst 853 (f1 H.length)]) GE.nil) (GE.cons I (GE.cons I (GE.cons I GE.nil)))))
  (bq.tup (by kernel_rfl) <|
   ll.cons (bq.at (H:=H) (k:=1) (G:=[.list [],.inst 853 (f1 H.length),.list []]) I rfl (by kernel_rfl)) <|
   ll.cons (bq.at (H:=H) (k:=1) (G:=[.list [],.inst 853 (f1 H.length++[(pI,.ref (H.length+2))]),.list []]) I rfl (by kernel_rfl)) <|
   ll.cons (bq.at (H:=H) (k:=1) (G:=[.list [],.inst 853 (f1 H.length++[(pI,.ref (H.length+2)),(rO,.bool false)]),.list []]) I rfl (by kernel_rfl)) <|
   ll.cons (bq.at (H:=H) (k:=1) (G:=[.list [],.inst 853 (f1 H.length++[(pI,.ref (H.length+2)),(rO,.bool false),(pH,.int 0)]),.list []]) I rfl (by kernel_rfl)) <|
   ll.nil)
theorem IS:ah 4 (mq [(fG,.ref (H.length+1))]) (bQ gF.1 4) (H++[.list [],.inst 853 (f4 H.length),.list []]) .next [(fG,.ref (H.length+1))] (H++[.list [],.inst 853 (jJ H.length),.list [],.list [],.inst 853 (gZ H.length)]) :=
 ah.assign (v:=.ref (H.length+4)) (H1:=H++[.list [],.inst 853 (f4 H.length),.list [],.list [],.inst 853 (gZ H.length)])
  (ai.bI (g:=.obj (.ref 853)) I (GE.cons (v:=.str jM) I (GE.cons (v:=.int 0) I (GE.cons (Cf (H:=H) (G:=[.list [],.inst 853 (f4 H.length),.list []]) GE.nil) GE.nil))) ((Ce (H:=H) (G:=[.list [],.inst 853 (f4 H.length),.list [],.list []]) _ _ _).mono (by omega)))
  (bq.at (H:=H) (k:=1) (G:=[.list [],.inst 853 (f4 H.length),.list [],.list [],.inst 853 (gZ H.length)]) I rfl (by kernel_rfl))
theorem IT:ah 4 (mq [(fG,.ref (H.length+1))]) (bQ gF.1 5) (H++[.list [],.inst 853 (jJ H.length),.list [],.list [],.inst 853 (gZ H.length)]) .next [(fG,.ref (H.length+1))] (H++[.list [],.inst 853 (jJ H.length),.list [],.list [],.inst 853 (gZ H.length++[(jO,.tup [.str gK,.int 3])])]) :=
 ah.assign (v:=.tup [.str gK,.int 3]) I
  (bq.at (H:=H) (k:=4) (G:=[.list [],.inst 853 (jJ H.length),.list [],.list [],.inst 853 (gZ H.length)]) (ai.attr (v:=.ref (H.length+1)) I (V4 (p0 (k:=1)) (by kernel_rfl))) rfl (by kernel_rfl))
end
end
section
variable {A B:aj}{D:bG}{T:List aj}{w:Int}{H:List aj}
noncomputable abbrev eG (T:List aj):Nat:=T.length+7
theorem V7:ah 4 (mq [(fG,.ref (eG T+1))]) (bQ gF.1 2) (fJ A B [] D T++[.list [],.inst 853 (f2 (eG T)),.list []]) .next [(fG,.ref (eG T+1))] (fJ A B (fx.take 1) D T++[.list [],.inst 853 (jC (eG T)),.list []]) :=
 ah.assign (v:=nc gF.1 2) (H1:=fJ A B (fx.take 1) D T++[.list [],.inst 853 (f2 (eG T)),.list []]) ie
  (bq.at (H:=fJ A B (fx.take 1) D T) (k:=1) (G:=[.list [],.inst 853 (f2 (eG T)),.list []]) I rfl (by kernel_rfl))
theorem V8:ah 4 (mq [(fG,.ref (eG T+1))]) (bQ gF.1 2) (fJ A B fx D T++[.list [],.inst 853 (f2 (eG T)),.list []]) .next [(fG,.ref (eG T+1))] (fJ A B fx D T++[.list [],.inst 853 (jC (eG T)),.list []]) :=
 ah.assign (v:=nc gF.1 2) (H1:=fJ A B fx D T++[.list [],.inst 853 (f2 (eG T)),.list []]) ie
  (bq.at (H:=fJ A B fx D T) (k:=1) (G:=[.list [],.inst 853 (f2 (eG T)),.list []]) I rfl (by kernel_rfl))
theorem V9:ah 4 (mq [(fG,.ref (eG T+1))]) (bQ gF.1 3) (fJ A B (fx.take 1) D T++[.list [],.inst 853 (jC (eG T)),.list []]) .next [(fG,.ref (eG T+1))] (fJ A B fx D T++[.list [],.inst 853 (f4 (eG T)),.list []]) :=
 ah.assign (v:=nc gF.1 3) (H1:=fJ A B fx D T++[.list [],.inst 853 (jC (eG T)),.list []]) ie
  (bq.at (H:=fJ A B fx D T) (k:=1) (G:=[.list [],.inst 853 (jC (eG T)),.list []]) I rfl (by kernel_rfl))
theorem Wa:ah 4 (mq [(fG,.ref (eG T+1))]) (bQ gF.1 3) (fJ A B fx D T++[.list [],.inst 853 (jC (eG T)),.list []]) .next [(fG,.ref (eG T+1))] (fJ A B fx D T++[.list [],.inst 853 (f4 (eG T)),.list []]) :=
 ah.assign (v:=nc gF.1 3) (H1:=fJ A B fx D T++[.list [],.inst 853 (jC (eG T)),.list []]) ie
  (bq.at (H:=fJ A B fx D T) (k:=1) (G:=[.list [],.inst 853 (jC (eG T)),.list []]) I rfl (by kernel_rfl))
theorem Wb (aa:Prop) (aw:H.all (cE H.length)=true):fin H.length (.ref (H.length+1)) ⟨H++[.list [],.inst 853 (jJ H.length),.list [],.list [],.inst 853 (gZ H.length++[(jO,.tup [.str gK,.int 3])])],aa⟩=some (ei,⟨H,aa⟩):=by
 have aO:∀{k:Nat}{G:List aj}{n:Nat},G[k]?=some (.list [])→gG (H++G) H.length (n+2) (.ref (H.length+k))=some (.aO []):=fun h=>kv (Nat.le_add_right _ _) (p0.trans h) r1
 refine pN (rZ (Nat.le_add_right _ _) (p0 (k:=1)) ?_) rY aw
 refine dx (ej rfl rfl)<|dx (ej rfl rfl)<|dx (aO (k:=0) rfl)<|dx (ej rfl rfl)<|dx (aO (k:=2) rfl)<|dx (ej rfl rfl)<|dx (ej rfl rfl)<|dx (ej rfl rfl) <|
  dx (ej (by kernel_rfl) (by kernel_rfl))<|dx (ej (by kernel_rfl) (by kernel_rfl))<|dx ?_ r0
 refine rZ (Nat.le_add_right _ _) (p0 (k:=4)) ?_
 exact dx (ej rfl rfl)<|dx (ej rfl rfl)<|dx (aO (k:=3) rfl)<|dx (ej rfl rfl)<|dx rfl r0
end
section
variable {A B:aj}{D:bG}{T:List aj}
noncomputable def bG.mr (D:bG):bG:={D with b:=true}
theorem IU (aw:ek A B T):aq 6 (.obj (.ref 890)) [] (aJ A B D T) ei (aJ A B D.mr T):=by
 obtain ⟨b,l,n,m⟩:=D
 have ar:∀ aa,fin (aJ A B ⟨b,l,n,m⟩ T).length (.ref (eG T+1)) ⟨aJ A B ⟨true,l,n,m⟩ T++[.list [],.inst 853 (jJ (eG T)),.list [],.list [],.inst 853 (gZ (eG T)++[(jO,.tup [.str gK,.int 3])])],aa⟩=some (ei,⟨aJ A B ⟨true,l,n,m⟩ T,aa⟩) :=
  fun aa=>Wb (H:=aJ A B ⟨true,l,n,m⟩ T) aa (u5 aw)
 have main:ab 5 (mq []) gF.1 (aJ A B ⟨b,l,n,m⟩ T) (.ret (.ref (eG T+1))) [(fG,.ref (eG T+1))] (aJ A B ⟨true,l,n,m⟩ T++[.list [],.inst 853 (jJ (eG T)),.list [],.list [],.inst 853 (gZ (eG T)++[(jO,.tup [.str gK,.int 3])])]):=by
  cases b with
  |true =>
   exact ab.cons (Gt.mono (by omega) (IP (H:=fJ A B fx ⟨true,l,n,m⟩ T)))<|ab.cons (Gt.mono (by omega) (IQ (H:=fJ A B fx ⟨true,l,n,m⟩ T)))<|ab.cons (Gt.mono (by omega) V8)<|ab.cons (Gt.mono (by omega) Wa) <|
    ab.cons (Gt.mono (by omega) (IS (H:=fJ A B fx ⟨true,l,n,m⟩ T)))<|ab.cons (Gt.mono (by omega) (IT (H:=fJ A B fx ⟨true,l,n,m⟩ T)))<|ab.ret (ah.ret I)
  |false =>
   exact ab.cons (Gt.mono (by omega) (IP (H:=fJ A B [] ⟨true,l,n,m⟩ T)))<|ab.cons (Gt.mono (by omega) (IQ (H:=fJ A B [] ⟨true,l,n,m⟩ T)))<|ab.cons (Gt.mono (by omega) V7)<|ab.cons (Gt.mono (by omega) V9) <|
    ab.cons (Gt.mono (by omega) (IS (H:=fJ A B fx ⟨true,l,n,m⟩ T)))<|ab.cons (Gt.mono (by omega) (IT (H:=fJ A B fx ⟨true,l,n,m⟩ T)))<|ab.ret (ah.ret I)
 exact aq.jv (fi:=⟨tq,[],[],gF.1,some (0,"_law_view.<locals>.<lambda>"),true⟩) (vs:=[]) (cN:=[]) (by kernel_rfl) rfl (by kernel_rfl) rfl (by kernel_rfl) main ar
end
section
variable {d a:Nat}{fi:eS}{args vs:List V}{H H1 H' cs:List aj}{iC:List Str}{f:cA}{ls:List (Str×V)}{u:V}
theorem aq.Wc {cN:List (Str×V)}{iJ:List (Str×Nat)}(hf:c2 a dF=some fi) (aV:ki fi args=some vs) (aw:ee fi.fd.scope.names=iC) (ru:iC.map (fun x=>aj.cell (look x (fi.ps.zip vs)))=cs) (BF:iC.zip (List.range' H.length iC.length)=iJ) (bZ:fi.jv=true) (hl:hL fi.fd.scope.names (fi.ps.zip vs)=cN)
 (h:ab d ⟨fi.fd.scope,iJ,fi.tab,cN⟩ fi.body (tS H cs) f ls H1) (ar:∀ aa,fin H.length (iB f) ⟨H1,aa⟩=some (u,⟨H',aa⟩)):aq (d+1) (.obj (.ref a)) args H u H':=aq.gen hf aV aw ru BF hl h fun aa=>(en bZ).trans (ar aa)
end
noncomputable def cW (f:bG→bF×bG) (D:bG):bF×bG:=match (D.take 2).1 with
 |0=>f (D.take 2).2
 |_=>(.two (f (D.take 2).2).1 (f (f (D.take 2).2).2).1,(f (f (D.take 2).2).2).2)
noncomputable def gf (f:Bool→bG→bF×bG) (q:Bool) (i:Int) (D:bG):bF×bG:=match i with
 |0=>(.b7 (e8 (D.take (ij q 4 3)).1),(D.take (ij q 4 3)).2)
 |1=>match q with
  |true=>(.el,D)
  |false=>(.b7 (e8 (D.take 2).1),(D.take 2).2)
 |2=>(.du (e8 (D.take 2).1) (f q (D.take 2).2).1,(f q (D.take 2).2).2)
 |3=>(.fin (gd q D).1 (e8 ((gd q D).2.take 2).1) (f q ((gd q D).2.take 2).2).1,(f q ((gd q D).2.take 2).2).2)
 |4=>match q with
  |true=>(.el,D)
  |false=>(.dg (cW (f false) D).1 (cW (f true) (cW (f false) D).2).1,(cW (f true) (cW (f false) D).2).2.mr)
 |_=>(.fg (7+(D.take 3).1),(D.take 3).2)
noncomputable def dI:Nat→Bool→bG→bF×bG
 |0,q,D=>gf (fun _ D=>(.el,D)) q (D.take 2).1 (D.take 2).2
 |k+1,q,D=>gf (dI k) q (D.take 6).1 (D.take 6).2
theorem Wd:ee qN.scope.names=[gM,nq]:=by kernel_rfl
section
variable {A B:aj}{D D' : bG}{T:List aj}{q:Bool}{k:Int}{d:Nat}{ls:List (Str×V)}{p:Pos}
noncomputable abbrev bl (T:List aj) (k:Int):List aj:=T++[.cell (some (.ref 6)),.cell (some (.int k))]
noncomputable abbrev hz (T:List aj) (ls:List (Str×V)):a5:=⟨qN.scope,[(gM,T.length+7),(nq,T.length+7+1)],none,ls⟩
theorem x7 {x:Str}{i:Nat}{fr:a5}{H:List aj}{v:V}(ar:gX fr x=some .cell) (hl:look x fr.cs=some i) (aM:H[i]?=some (.cell (some v))):pb fr x ⟨H,True⟩=some v :=
 (eU (congrArg h3 ar)).trans ((en (congrArg o9 ar)).trans ((bj hl).trans (bj (congrArg tJ aM))))
theorem mu:ai d (hz T ls) (.Name gM p) (aJ A B D (bl T k)) (.ref 6) (aJ A B D (bl T k)):=ai.name (x7 (by kernel_rfl) rfl (H4 (H:=aJ A B D T)))
theorem Cg:ai d (hz T ls) (.Name nq p) (aJ A B D (bl T k)) (.int k) (aJ A B D (bl T k)):=ai.name (x7 (by kernel_rfl) rfl (H5 (H:=aJ A B D T)))
theorem IV {n:Nat}{p' ic:Pos}:ai d (hz T ls) (.BinOp (.Name nq p) .Sub (.Constant (.int 1) 0 ic) p') (aJ A B D (bl T (n+1:Nat))) (.int n) (aJ A B D (bl T (n+1:Nat))) :=
 ai.bin (b:=.int 1) Cg I fun s _=>by
  show some (V.int (((n+1:Nat):Int) - 1),s)=_
  have:((n+1:Nat):Int) - 1=n:=by omega
  rw[this]
theorem jV (aw:ek A B T):ek A B (bl T k):=by
 refine ⟨aw.a,aw.b,?_⟩
 have e:7+(bl T k).length=7+T.length+2:=by simp;omega
 rw[e,List.all_append,uQ (b':=7+T.length+2) (by omega) aw.t]
 show (true&&(Nat.blt 6 _&&(true&&true)))=true
 rw[Nat.blt_eq.mpr (by omega)];rfl
theorem mv {v:V}(h:isA v=true∧cy 0 v=true):∀ u∈[v],isA u=true∧cy 0 u=true:=by intro u m;rw[List.mem_singleton.mp m];exact h
theorem oJ {v:V}{vs:List V}(h:isA v=true∧cy 0 v=true) (af:∀ u∈vs,isA u=true∧cy 0 u=true):∀ u∈v::vs,isA u=true∧cy 0 u=true:=by
 intro u m
 rcases List.mem_cons.mp m with rfl |m
 ·exact h
 ·exact af u m
theorem x8 {w:Int}(aw:ek A B T) (h:0<w) (h' : w≤4):aq 6 (.obj (.ref 871)) [.ref 6,.int w] (aJ A B D (bl T k)) (cC (e8 (D.take w).1)) (aJ A B (D.take w).2 (bl T k)):=IM h h' (jV aw)
noncomputable abbrev gz (q:Bool) (i:Int):List (Str×V):=[(lj,.bool q),(sg,.int i)]
theorem IW (aw:ek A B T) (hd:8≤d):ab d (hz T (gz q 0)) (gT.1.drop 1) (aJ A B D (bl T k)) (.ret (a9 (.b7 (e8 (D.take (ij q 4 3)).1)))) (gz q 0) (aJ A B (D.take (ij q 4 3)).2 (bl T k)):=by
 obtain ⟨d,rfl⟩:∃ e,d=e+2:=⟨d - 2,by omega⟩
 have p1:=x8 (D:=D) (k:=k) (w:=ij q 4 3) aw (by cases q <;> decide) (by cases q <;> decide)
 exact ab.stop (ah.cm I (ab.ret (ah.ret (kF (d:=d) (ps:=[cC (e8 (D.take (ij q 4 3)).1)]) (D':=(D.take (ij q 4 3)).2) (T:=bl T k) (by kernel_rfl) I
  (GE.cons I (GE.cons I (GE.cons (ai.list (H1:=aJ A B (D.take (ij q 4 3)).2 (bl T k)) (GE.cons (ai.bI (g:=.obj (.ref 871)) (vs:=[.ref 6,.int (ij q 4 3)]) I (GE.cons mu (GE.cons (by cases q <;> exact I) GE.nil)) (p1.mono (by omega))) GE.nil)) GE.nil))) (jV aw) (mv (pZ _)))))) ey
end
section
variable {A B:aj}{D D' : bG}{T:List aj}{q:Bool}{k:Int}{d:Nat}{ls:List (Str×V)}{p:Pos}
theorem p2 (t:bF):isA (a9 t)=true∧cy 0 (a9 t)=true:=⟨by cases t <;> rfl,jT t⟩
theorem We (t:dH):isA (c7 t)=true∧cy 0 (c7 t)=true:=by
 cases t with
 |b7 q=>cases q <;> exact ⟨rfl,rfl⟩
 |var=>exact ⟨rfl,rfl⟩
 |mem q=>cases q <;> exact ⟨rfl,rfl⟩
 |c6 q r=>cases q <;> cases r <;> exact ⟨rfl,rfl⟩
theorem Wf:∀ u∈([]:List V),isA u=true∧cy 0 u=true:=by intro u m;cases m
theorem Ci {i:Int}{ss:List Stmt}(aw:ek A B T) (hd:8≤d) (aM:i=1∨i=4):ab d (hz T (gz true i)) (gT.1.drop 1) (aJ A B D (bl T k)) (.ret (a9 .el)) (gz true i) (aJ A B D (bl T k)):=by
 obtain ⟨d,rfl⟩:∃ e,d=e+2:=⟨d - 2,by omega⟩
 have r:∀ i,ab (d+2) (hz T (gz true i)) (sB (bQ gT.1 2)) (aJ A B D (bl T k)) (.ret (a9 .el)) (gz true i) (aJ A B D (bl T k)):=fun i =>
  ab.ret (ah.ret (kF (d:=d) (ps:=[jQ]) (D':=D) (T:=bl T k) (by kernel_rfl) I
   (GE.cons I (GE.cons I (GE.cons (ai.list (H1:=aJ A B D (bl T k)) (GE.cons (kF (d:=d) (ps:=[]) (D':=D) (T:=bl T k) (by kernel_rfl) I (GE.cons I (GE.cons I (GE.cons (ai.list (H1:=aJ A B D (bl T k)) GE.nil) GE.nil))) (jV aw) Wf) GE.nil)) GE.nil))) (jV aw) (mv ⟨rfl,rfl⟩)))
 rcases aM with rfl |rfl
 ·exact ab.cons (ah.iff I ab.nil)<|ab.stop (ah.cm I (r _)) ey
 ·exact ab.cons (ah.iff I ab.nil)<|ab.stop (ah.cm I (r _)) ey
theorem IX (aw:ek A B T) (hd:8≤d):ab d (hz T (gz false 1)) (gT.1.drop 1) (aJ A B D (bl T k)) (.ret (a9 (.b7 (e8 (D.take 2).1)))) (gz false 1) (aJ A B (D.take 2).2 (bl T k)):=by
 obtain ⟨d,rfl⟩:∃ e,d=e+2:=⟨d - 2,by omega⟩
 have p1:=x8 (D:=D) (k:=k) (w:=2) aw (by decide) (by decide)
 exact ab.cons (ah.iff I ab.nil)<|ab.cons (ah.iff I ab.nil)<|ab.cons (ah.iff I ab.nil)<|ab.cons (ah.iff I ab.nil)<|ab.cons (ah.iff I ab.nil) <|
  ab.stop (ah.cm I (ab.ret (ah.ret (kF (d:=d) (ps:=[cC (e8 (D.take 2).1)]) (D':=(D.take 2).2) (T:=bl T k) (by kernel_rfl) I
  (GE.cons I (GE.cons I (GE.cons (ai.list (H1:=aJ A B (D.take 2).2 (bl T k)) (GE.cons (ai.bI (g:=.obj (.ref 871)) (vs:=[.ref 6,.int 2]) I (GE.cons mu (GE.cons I GE.nil)) (p1.mono (by omega))) GE.nil)) GE.nil))) (jV aw) (mv (pZ _)))))) ey
theorem Wg (aw:ek A B T) (hd:8≤d):ab d (hz T (gz q 5)) (gT.1.drop 1) (aJ A B D (bl T k)) (.ret (a9 (.fg (7+(D.take 3).1)))) (gz q 5) (aJ A B (D.take 3).2 (bl T k)):=by
 obtain ⟨d,rfl⟩:∃ e,d=e+2:=⟨d - 2,by omega⟩
 have az:=oH (A:=A) (B:=B) (D:=D) (T:=bl T k) (w:=3) (by decide)
 exact ab.cons (ah.iff I ab.nil)<|ab.cons (ah.iff (by cases q <;> exact I) ab.nil)<|ab.cons (ah.iff I ab.nil)<|ab.cons (ah.iff I ab.nil) <|
  ab.stop (ah.cm I (ab.ret (ah.ret (kF (d:=d) (ps:=[ff kx 1 [.int (7+(D.take 3).1)]]) (D':=(D.take 3).2) (T:=bl T k) (by kernel_rfl) I
  (GE.cons I (GE.cons I (GE.cons (ai.list (H1:=aJ A B (D.take 3).2 (bl T k)) (GE.cons (kF (d:=d) (ps:=[.int (7+(D.take 3).1)]) (D':=(D.take 3).2) (T:=bl T k) (by kernel_rfl) I (GE.cons I (GE.cons I (GE.cons (ai.list (H1:=aJ A B (D.take 3).2 (bl T k))
   (GE.cons (ai.bin (a:=.int 7) (b:=.int (D.take 3).1) I (ai.bI (g:=.obj (.ref 864)) (vs:=[.ref 6,.int 3]) I (GE.cons mu (GE.cons I GE.nil)) (az.mono (by omega))) (fun s _=>rfl)) GE.nil)) GE.nil))) (jV aw) (mv ⟨rfl,rfl⟩)) GE.nil)) GE.nil))) (jV aw) (mv ⟨rfl,rfl⟩))))) ey
variable {n:Nat}{f:Bool→bG→bF×bG}
theorem Wh (aw:ek A B T) (hd:8≤d) (hf:∀ D,aq d (.obj (.ref 883)) [.ref 6,.int n,.bool q] (aJ A B D (bl T (n+1:Nat))) (a9 (f q D).1) (aJ A B (f q D).2 (bl T (n+1:Nat)))) :
 ab d (hz T (gz q 2)) (gT.1.drop 1) (aJ A B D (bl T (n+1:Nat))) (.ret (a9 (.du (e8 (D.take 2).1) (f q (D.take 2).2).1))) (gz q 2) (aJ A B (f q (D.take 2).2).2 (bl T (n+1:Nat))):=by
 obtain ⟨d,rfl⟩:∃ e,d=e+2:=⟨d - 2,by omega⟩
 have p1:=x8 (D:=D) (k:=(n+1:Nat)) (w:=2) aw (by decide) (by decide)
 have dW:=hf (D.take 2).2
 exact ab.cons (ah.iff I ab.nil)<|ab.cons (ah.iff (by cases q <;> exact I) ab.nil) <|
  ab.stop (ah.cm I (ab.ret (ah.ret (kF (d:=d) (ps:=[cC (e8 (D.take 2).1),a9 (f q (D.take 2).2).1]) (D':=(f q (D.take 2).2).2) (T:=bl T (n+1:Nat)) (by kernel_rfl) I
  (GE.cons I (GE.cons I (GE.cons (ai.list (H1:=aJ A B (f q (D.take 2).2).2 (bl T (n+1:Nat))) (GE.cons (ai.bI (g:=.obj (.ref 871)) (vs:=[.ref 6,.int 2]) I (GE.cons mu (GE.cons I GE.nil)) (p1.mono (by omega)))
   (GE.cons (ai.bI (g:=.obj (.ref 883)) (vs:=[.ref 6,.int n,.bool q]) I (GE.cons mu (GE.cons IV (GE.cons I GE.nil))) dW) GE.nil))) GE.nil))) (jV aw) (oJ (pZ _) (mv (p2 _))))))) ey
end
section
variable {A B:aj}{D D' : bG}{T:List aj}{q:Bool}{k:Int}{d n:Nat}{ls:List (Str×V)}{p:Pos}{f:Bool→bG→bF×bG}
theorem Wi (aw:ek A B T) (hd:11≤d) (hf:∀ D,aq d (.obj (.ref 883)) [.ref 6,.int n,.bool q] (aJ A B D (bl T (n+1:Nat))) (a9 (f q D).1) (aJ A B (f q D).2 (bl T (n+1:Nat)))) :
 ab d (hz T (gz q 3)) (gT.1.drop 1) (aJ A B D (bl T (n+1:Nat))) (.ret (a9 (.fin (gd q D).1 (e8 ((gd q D).2.take 2).1) (f q ((gd q D).2.take 2).2).1))) (gz q 3++[(hu,c7 (gd q D).1)]) (aJ A B (f q ((gd q D).2.take 2).2).2 (bl T (n+1:Nat))):=by
 obtain ⟨d,rfl⟩:∃ e,d=e+2:=⟨d - 2,by omega⟩
 have ka:=V3 (A:=A) (B:=B) (D:=D) (T:=bl T (n+1:Nat)) q (jV aw)
 have p1:=x8 (D:=(gd q D).2) (k:=(n+1:Nat)) (w:=2) aw (by decide) (by decide)
 have dW:=hf ((gd q D).2.take 2).2
 exact ab.cons (ah.iff I ab.nil)<|ab.cons (ah.iff (by cases q <;> exact I) ab.nil)<|ab.cons (ah.iff I ab.nil) <|
  ab.stop (ah.cm I (ab.cons (bJ:=gz q 3++[(hu,c7 (gd q D).1)]) (ah.assign (v:=c7 (gd q D).1) (ai.bI (g:=.obj (.ref 878)) (vs:=[.ref 6,.bool q]) I (GE.cons mu (GE.cons I GE.nil)) (ka.mono (by omega))) (bq.name (by kernel_rfl))) <|
  ab.ret (ah.ret (kF (d:=d) (ps:=[c7 (gd q D).1,cC (e8 ((gd q D).2.take 2).1),a9 (f q ((gd q D).2.take 2).2).1]) (D':=(f q ((gd q D).2.take 2).2).2) (T:=bl T (n+1:Nat)) (by kernel_rfl) I
  (GE.cons I (GE.cons I (GE.cons (ai.list (H1:=aJ A B (f q ((gd q D).2.take 2).2).2 (bl T (n+1:Nat))) (GE.cons I (GE.cons (ai.bI (g:=.obj (.ref 871)) (vs:=[.ref 6,.int 2]) I (GE.cons mu (GE.cons I GE.nil)) (p1.mono (by omega)))
   (GE.cons (ai.bI (g:=.obj (.ref 883)) (vs:=[.ref 6,.int n,.bool q]) I (GE.cons mu (GE.cons IV (GE.cons I GE.nil))) dW) GE.nil)))) GE.nil))) (jV aw) (oJ (We _) (oJ (pZ _) (mv (p2 _)))))))) ey
end
section
variable {d k acc:Nat}{fr:a5}{H H1 H2 H3:List aj}{elt t it:PySem.Expr}{src:Src}{v x:V}{xs:List V}{ls:List (Str×V)}{nm:Str}{di dz p:Pos}{a:Int}{sc:Scope}
theorem cX.done {ifs:List PySem.Expr}(h:itemAt src k H=some none) (bT:(isNm t&&i0 src t)=true):cX d fr elt t ifs src k acc H H :=
 (Gt.now (f:=fun N n st=>An (e4 N) n fr elt t ifs src k acc st) (r:=fun s=>s) fun N n s _ q=>by
  subst q;exact (en bT).trans (bj h)).step fun N n s s1 _ q _ _=>q
theorem cX.step (h:itemAt src k H=some (some v)) (bT:(isNm t&&i0 src t)=true) (h1:bq d fr t v H ls H1) (af:ai d (fr.up ls) elt H1 x H2) (b2:H2[acc]?=some (.list xs)) (bA:xs.length<aL)
 (aB:cX d (fr.up ls) elt t [] src (k+1) acc (H2.set acc (.list (xs++[x]))) H3):cX d fr elt t [] src k acc H H3:=fun aa o=>by
 obtain ⟨e7,fa,eN⟩:=h1 aa o
 obtain ⟨eg,es,dD⟩:=af e7 fa
 obtain ⟨ow,fP,gv⟩:=aB (eg∧xs.length<aL) ⟨es,bA⟩
 exact ⟨ow,fP,((eN.and dD).and gv).step fun N n bc b=>(en bT).trans ((bj h).trans ((bj b.1.1).trans ((bj (o:=wG (e4 N) n _ [] _) rfl).trans ((bj b.1.2).trans ((bj (congrArg dA b2)).trans b.2)))))⟩
theorem IY {ifs:List PySem.Expr}{R:dR}{n:Nat}{st:ax}:q7 R n fr elt [⟨t,it,ifs,a⟩] sc st=(bif pf fr sc t it a then (R.ev n fr it st).bind fun x=>(srcOf x.1 x.2).bind fun src=>(R.dz n ⟨relabel fr sc,pe sc fr.cs,none,[]⟩ elt t ifs src 0 x.2.H.length ⟨x.2.H++[.list []],x.2.aa⟩).map fun fR=>(.ref x.2.H.length,fR) else none):=rfl
theorem ah.lc {ifs:List PySem.Expr}(h:ai d fr it H v H1) (ak:srcOf v ⟨H1,True⟩=some src) (bt:(Nat.beq di.line dz.line&&!n0 nm sc.names)=true) (ar:gX fr nm=some .local) (c8:pf fr sc t it a=true)
 (af:cX d ⟨relabel fr sc,pe sc fr.cs,none,[]⟩ elt t ifs src 0 H1.length (H1++[.list []]) H2):ah d fr (.Assign [.Name nm di] (.ListComp elt [⟨t,it,ifs,a⟩] sc dz) p) H .next (d8 nm (.ref H1.length) fr.ls) H2:=fun aa o=>by
 obtain ⟨e7,fa,eN⟩:=h aa o
 obtain ⟨eg,es,dD⟩:=af e7 fa
 obtain ⟨K,y⟩:=eN.and dD
 exact ⟨eg,es,K,fun N n g7 IZ=>(en (Bool.and_eq_true_iff.mpr ⟨bt,congrArg h3 ar⟩)).trans (dE (IY.trans ((en c8).trans ((bj (y N n g7 IZ).1).trans ((bj (ak:srcOf v ⟨H1,e7⟩=some src)).trans (dE (y N n g7 IZ).2))))))⟩
end
section
variable {A B:aj}{D D' : bG}{T G:List aj}{q:Bool}{k:Int}{d n:Nat}{ls:List (Str×V)}{p p' ic:Pos}{f:Bool→bG→bF×bG}{fr:a5}
theorem sh (ar:gX fr gM=some .cell) (hl:look gM fr.cs=some (T.length+7)):ai d fr (.Name gM p) (aJ A B D (bl T k++G)) (.ref 6) (aJ A B D (bl T k++G)):=ai.name (x7 ar hl (cY (H4 (H:=aJ A B D T))))
theorem I0 (ar:gX fr nq=some .cell) (hl:look nq fr.cs=some (T.length+7+1)):ai d fr (.Name nq p) (aJ A B D (bl T k++G)) (.int k) (aJ A B D (bl T k++G)):=ai.name (x7 ar hl (cY (H5 (H:=aJ A B D T))))
noncomputable abbrev Wj (j:Nat):Scope:=HF (eJ (bQ gT.1 j))
noncomputable abbrev si (j:Nat):PySem.Expr:=HG (eJ (bQ gT.1 j))
noncomputable abbrev x9 (j:Nat):PySem.Expr:=BI (eJ (bQ gT.1 j))
noncomputable abbrev sj (j:Nat) (T:List aj) (ls:List (Str×V)):a5:=⟨relabel (hz T []) (Wj j),[(gM,T.length+7),(nq,T.length+7+1)],none,ls⟩
theorem I1 (hf:aq d (.obj (.ref 883)) [.ref 6,.int n,.bool false] (aJ A B D (bl T (n+1:Nat)++G)) (a9 (f false D).1) (aJ A B (f false D).2 (bl T (n+1:Nat)++G))) :
 ai d (sj 7 T ls) (si 7) (aJ A B D (bl T (n+1:Nat)++G)) (a9 (f false D).1) (aJ A B (f false D).2 (bl T (n+1:Nat)++G)) :=
 ai.bI (g:=.obj (.ref 883)) (vs:=[.ref 6,.int n,.bool false]) I (GE.cons (sh (by kernel_rfl) (by kernel_rfl)) (GE.cons (ai.bin (b:=.int 1) (I0 (by kernel_rfl) (by kernel_rfl)) I fun s _=>by
  show some (V.int (((n+1:Nat):Int) - 1),s)=_
  have:((n+1:Nat):Int) - 1=n:=by omega
  rw[this]) (GE.cons I GE.nil))) hf
theorem I2 (hf:aq d (.obj (.ref 883)) [.ref 6,.int n,.bool true] (aJ A B D (bl T (n+1:Nat)++G)) (a9 (f true D).1) (aJ A B (f true D).2 (bl T (n+1:Nat)++G))) :
 ai d (sj 8 T ls) (si 8) (aJ A B D (bl T (n+1:Nat)++G)) (a9 (f true D).1) (aJ A B (f true D).2 (bl T (n+1:Nat)++G)) :=
 ai.bI (g:=.obj (.ref 883)) (vs:=[.ref 6,.int n,.bool true]) I (GE.cons (sh (by kernel_rfl) (by kernel_rfl)) (GE.cons (ai.bin (b:=.int 1) (I0 (by kernel_rfl) (by kernel_rfl)) I fun s _=>by
  show some (V.int (((n+1:Nat):Int) - 1),s)=_
  have:((n+1:Nat):Int) - 1=n:=by omega
  rw[this]) (GE.cons I GE.nil))) hf
end
section
variable {A B:aj}{D D' : bG}{T X G:List aj}{q:Bool}{k:Int}{d n:Nat}{ls:List (Str×V)}{p p' ic:Pos}{f:Bool→bG→bF×bG}{fr:a5}
theorem sl {acc:Nat}{x y:aj}(h:acc=X.length+7):(aJ A B D (X++[x])).set acc y=aJ A B D (X++[y]):=by subst h;exact rX (H:=aJ A B D X)
theorem p3 {x:aj}:(aJ A B D (X++[x]))[X.length+7]?=some x:=fe (H:=aJ A B D X)
theorem sm:([]:List V).length<aL:=by unfold aL;decide
theorem Cj {v:V}:[v].length<aL:=by show 1<aL;unfold aL;decide
theorem Ck {H:List aj}:aq 1 (.obj (.type "range")) [.int 1] H (.cw 0 1) H:=I
theorem Cm {H:List aj}:aq 1 (.obj (.type "range")) [.int 2] H (.cw 0 2) H:=I
theorem Cn {g:bG→bF×bG}(h:(D.take 2).1=0):cW g D=g (D.take 2).2:=by unfold cW;rw[h];rfl
theorem Co {g:bG→bF×bG}(h:(D.take 2).1=1):cW g D=(.two (g (D.take 2).2).1 (g (g (D.take 2).2).2).1,(g (g (D.take 2).2).2).2):=by unfold cW;rw[h];rfl
theorem ya {v:aj}(h:ek A B X) (aV:cE 0 v=true):ek A B (X++[v]):=⟨h.a,h.b,B7 (uQ (by simp) h.t) (mi (Nat.zero_le _) _ aV)⟩
theorem Wk (aw:ek A B (bl T (n+1:Nat)++G)) (hd:8≤d)
 (hf:∀ D G,ek A B (bl T (n+1:Nat)++G)→aq d (.obj (.ref 883)) [.ref 6,.int n,.bool false] (aJ A B D (bl T (n+1:Nat)++G)) (a9 (f false D).1) (aJ A B (f false D).2 (bl T (n+1:Nat)++G)))
 (so:∀ D,fW (f false D).1=true) :
 ah d (hz T ls) (bQ gT.1 7) (aJ A B D (bl T (n+1:Nat)++G)) .next (d8 ng (.ref ((bl T (n+1:Nat)++G).length+7)) ls) (aJ A B (cW (f false) D).2 ((bl T (n+1:Nat)++G)++[.list (bE (cW (f false) D).1)])):=by
 have az:=oH (A:=A) (B:=B) (D:=D) (T:=bl T (n+1:Nat)++G) (w:=2) (by decide)
 have lt:=ih (D:=D) (w:=2) (by decide)
 have bA:(D.take 2).1=0∨(D.take 2).1=1:=by omega
 have iJ:∀ us:List V,dG 0 us=true→ek A B (bl T (n+1:Nat)++(G++[.list us])):=fun us h=>by rw[←List.append_assoc];exact ya aw h
 have ao:=fun ls D=>I1 (A:=A) (B:=B) (f:=f) (ls:=ls) (hf D (G++[.list []]) (iJ [] rfl))
 rcases bA with h |h
 ·rw[Cn h,pW (so _)]
  rw[h] at az
  have g1:=cX.step (d:=d) (fr:=sj 7 T []) (H:=aJ A B (D.take 2).2 ((bl T (n+1:Nat)++G)++[.list []])) (k:=0) (src:=.cw 0 1) (t:=x9 7) (elt:=si 7) (acc:=(bl T (n+1:Nat)++G).length+7) (xs:=[]) (v:=.int 0) rfl (by kernel_rfl) (bq.name (by kernel_rfl))
   (by rw[List.append_assoc];exact ao _ (D.take 2).2) (by rw[←List.append_assoc];exact p3) sm (by rw[←List.append_assoc,sl rfl];exact cX.done rfl (by kernel_rfl))
  exact ah.lc (v:=.cw 0 1) (src:=.cw 0 1) (H1:=aJ A B (D.take 2).2 (bl T (n+1:Nat)++G)) (ai.bI (g:=.obj (.type "range")) (vs:=[.int 1]) I (GE.cons (ai.bin (a:=.int 1) (b:=.int 0) I (ai.bI (g:=.obj (.ref 864)) (vs:=[.ref 6,.int 2]) I (GE.cons (sh (by kernel_rfl) rfl) (GE.cons I GE.nil)) (az.mono (by omega))) (fun s _=>by rfl)) GE.nil) (Ck.mono (by omega))) rfl (by kernel_rfl) (by kernel_rfl) (by kernel_rfl) g1
 ·rw[Co h,oF]
  rw[h] at az
  have aC:=fun ls D'=>I1 (A:=A) (B:=B) (f:=f) (ls:=ls) (hf D' (G++[.list [a9 (f false (D.take 2).2).1]]) (iJ [_] (by show (cy 0 _&&true)=true;rw[jT];rfl)))
  have g1:=cX.step (d:=d) (fr:=sj 7 T []) (H:=aJ A B (D.take 2).2 ((bl T (n+1:Nat)++G)++[.list []])) (k:=0) (src:=.cw 0 2) (t:=x9 7) (elt:=si 7) (acc:=(bl T (n+1:Nat)++G).length+7) (xs:=[]) (v:=.int 0) rfl (by kernel_rfl) (bq.name (by kernel_rfl))
   (by rw[List.append_assoc];exact ao _ (D.take 2).2) (by rw[←List.append_assoc];exact p3) sm (by
    rw[←List.append_assoc,sl rfl]
    exact cX.step (k:=1) (v:=.int 1) (xs:=[a9 (f false (D.take 2).2).1]) rfl (by kernel_rfl) (bq.name (by kernel_rfl)) (by rw[List.append_assoc];exact aC _ (f false (D.take 2).2).2) (by rw[←List.append_assoc];exact p3) Cj (by rw[←List.append_assoc,sl rfl];exact cX.done rfl (by kernel_rfl)))
  exact ah.lc (v:=.cw 0 2) (src:=.cw 0 2) (H1:=aJ A B (D.take 2).2 (bl T (n+1:Nat)++G)) (ai.bI (g:=.obj (.type "range")) (vs:=[.int 2]) I (GE.cons (ai.bin (a:=.int 1) (b:=.int 1) I (ai.bI (g:=.obj (.ref 864)) (vs:=[.ref 6,.int 2]) I (GE.cons (sh (by kernel_rfl) rfl) (GE.cons I GE.nil)) (az.mono (by omega))) (fun s _=>by rfl)) GE.nil) (Cm.mono (by omega))) rfl (by kernel_rfl) (by kernel_rfl) (by kernel_rfl) g1
theorem Wl (aw:ek A B (bl T (n+1:Nat)++G)) (hd:8≤d)
 (hf:∀ D G,ek A B (bl T (n+1:Nat)++G)→aq d (.obj (.ref 883)) [.ref 6,.int n,.bool true] (aJ A B D (bl T (n+1:Nat)++G)) (a9 (f true D).1) (aJ A B (f true D).2 (bl T (n+1:Nat)++G)))
 (so:∀ D,fW (f true D).1=true) :
 ah d (hz T ls) (bQ gT.1 8) (aJ A B D (bl T (n+1:Nat)++G)) .next (d8 jM (.ref ((bl T (n+1:Nat)++G).length+7)) ls) (aJ A B (cW (f true) D).2 ((bl T (n+1:Nat)++G)++[.list (bE (cW (f true) D).1)])):=by
 have az:=oH (A:=A) (B:=B) (D:=D) (T:=bl T (n+1:Nat)++G) (w:=2) (by decide)
 have lt:=ih (D:=D) (w:=2) (by decide)
 have bA:(D.take 2).1=0∨(D.take 2).1=1:=by omega
 have iJ:∀ us:List V,dG 0 us=true→ek A B (bl T (n+1:Nat)++(G++[.list us])):=fun us h=>by rw[←List.append_assoc];exact ya aw h
 have ao:=fun ls D=>I2 (A:=A) (B:=B) (f:=f) (ls:=ls) (hf D (G++[.list []]) (iJ [] rfl))
 rcases bA with h |h
 ·rw[Cn h,pW (so _)]
  rw[h] at az
  have g1:=cX.step (d:=d) (fr:=sj 8 T []) (H:=aJ A B (D.take 2).2 ((bl T (n+1:Nat)++G)++[.list []])) (k:=0) (src:=.cw 0 1) (t:=x9 8) (elt:=si 8) (acc:=(bl T (n+1:Nat)++G).length+7) (xs:=[]) (v:=.int 0) rfl (by kernel_rfl) (bq.name (by kernel_rfl))
   (by rw[List.append_assoc];exact ao _ (D.take 2).2) (by rw[←List.append_assoc];exact p3) sm (by rw[←List.append_assoc,sl rfl];exact cX.done rfl (by kernel_rfl))
  exact ah.lc (v:=.cw 0 1) (src:=.cw 0 1) (H1:=aJ A B (D.take 2).2 (bl T (n+1:Nat)++G)) (ai.bI (g:=.obj (.type "range")) (vs:=[.int 1]) I (GE.cons (ai.bin (a:=.int 1) (b:=.int 0) I (ai.bI (g:=.obj (.ref 864)) (vs:=[.ref 6,.int 2]) I (GE.cons (sh (by kernel_rfl) rfl) (GE.cons I GE.nil)) (az.mono (by omega))) (fun s _=>by rfl)) GE.nil) (Ck.mono (by omega))) rfl (by kernel_rfl) (by kernel_rfl) (by kernel_rfl) g1
 ·rw[Co h,oF]
  rw[h] at az
  have aC:=fun ls D'=>I2 (A:=A) (B:=B) (f:=f) (ls:=ls) (hf D' (G++[.list [a9 (f true (D.take 2).2).1]]) (iJ [_] (by show (cy 0 _&&true)=true;rw[jT];rfl)))
  have g1:=cX.step (d:=d) (fr:=sj 8 T []) (H:=aJ A B (D.take 2).2 ((bl T (n+1:Nat)++G)++[.list []])) (k:=0) (src:=.cw 0 2) (t:=x9 8) (elt:=si 8) (acc:=(bl T (n+1:Nat)++G).length+7) (xs:=[]) (v:=.int 0) rfl (by kernel_rfl) (bq.name (by kernel_rfl))
   (by rw[List.append_assoc];exact ao _ (D.take 2).2) (by rw[←List.append_assoc];exact p3) sm (by
    rw[←List.append_assoc,sl rfl]
    exact cX.step (k:=1) (v:=.int 1) (xs:=[a9 (f true (D.take 2).2).1]) rfl (by kernel_rfl) (bq.name (by kernel_rfl)) (by rw[List.append_assoc];exact aC _ (f true (D.take 2).2).2) (by rw[←List.append_assoc];exact p3) Cj (by rw[←List.append_assoc,sl rfl];exact cX.done rfl (by kernel_rfl)))
  exact ah.lc (v:=.cw 0 2) (src:=.cw 0 2) (H1:=aJ A B (D.take 2).2 (bl T (n+1:Nat)++G)) (ai.bI (g:=.obj (.type "range")) (vs:=[.int 2]) I (GE.cons (ai.bin (a:=.int 1) (b:=.int 1) I (ai.bI (g:=.obj (.ref 864)) (vs:=[.ref 6,.int 2]) I (GE.cons (sh (by kernel_rfl) rfl) (GE.cons I GE.nil)) (az.mono (by omega))) (fun s _=>by rfl)) GE.nil) (Cm.mono (by omega))) rfl (by kernel_rfl) (by kernel_rfl) (by kernel_rfl) g1
end
section
variable {A B:aj}{D D' : bG}{T X G:List aj}{q:Bool}{k:Int}{d n:Nat}{ls:List (Str×V)}{f:Bool→bG→bF×bG}
theorem yb {g:bG→bF×bG}(cP:∀ D,fW (g D).1=true∧wf (g D).1=true):wf (cW g D).1=true:=by
 unfold cW
 split
 ·exact (cP _).2
 ·show (fW _&&fW _&&(wf _&&wf _))=true
  rw[(cP _).1,(cP _).1,(cP _).2,(cP _).2];rfl
theorem I3 {i:Int}(hf:∀ q D,fW (f q D).1=true∧wf (f q D).1=true):fW (gf f q i D).1=true∧wf (gf f q i D).1=true:=by
 unfold gf
 split
 ·exact ⟨rfl,rfl⟩
 ·split <;> exact ⟨rfl,rfl⟩
 ·exact ⟨rfl,Bool.and_eq_true_iff.mpr (hf _ _)⟩
 ·exact ⟨rfl,Bool.and_eq_true_iff.mpr (hf _ _)⟩
 ·split
  ·exact ⟨rfl,rfl⟩
  ·exact ⟨rfl,Bool.and_eq_true_iff.mpr ⟨yb (hf false),yb (hf true)⟩⟩
 ·exact ⟨rfl,rfl⟩
theorem u7:∀(k:Nat) (q:Bool) (D:bG),fW (dI k q D).1=true∧wf (dI k q D).1=true
 |0,q,D=>I3 fun _ _=>⟨rfl,rfl⟩
 |k+1,q,D=>I3 fun q D=>u7 k q D
end
section
variable {A B:aj}{D D' : bG}{T X G:List aj}{q:Bool}{k:Int}{d n:Nat}{ls:List (Str×V)}{f:Bool→bG→bF×bG}{fj hg:List V}
noncomputable abbrev fy (T:List aj) (k:Int) (fj hg:List V):List aj:=(bl T k++[.list fj])++[.list hg]
noncomputable abbrev p4 (T:List aj) (k:Int) (fj:List V):List V:=[.ref ((bl T k).length+7),.str dN,.ref ((bl T k++[aj.list fj]).length+7),.none]
theorem Wm (aa:Prop) (aw:ek A B T) (h1:∀ v∈fj,isA v=true∧cy 0 v=true) (af:∀ v∈hg,isA v=true∧cy 0 v=true) :
 fin (aJ A B D T).length (.ref ((aJ A B D' (fy T k fj hg)).length+1)) ⟨aJ A B D' (fy T k fj hg)++[.list (p4 T k fj),.inst 853 [(c3,.str hb),(eo,.int 1),(dV,.ref ((aJ A B D' (fy T k fj hg)).length+0)),(g8,ei)]],aa⟩=some (ez hb [.aO fj,.str dN,.aO hg,.none] ei,⟨aJ A B D' T,aa⟩):=by
 have dn:(aJ A B D T).length=7+T.length:=oI
 have ao:(aJ A B D' (fy T k fj hg)).length=7+T.length+4:=by rw[oI];simp;omega
 have aV:cy 0 ei=true:=by kernel_rfl
 have df:(aJ A B D' (fy T k fj hg)++[.list (p4 T k fj),.inst 853 [(c3,.str hb),(eo,.int 1),(dV,.ref ((aJ A B D' (fy T k fj hg)).length+0)),(g8,ei)]])[(bl T k).length+7]?=some (.list fj):=cY (cY (H:=aJ A B D' (bl T k++[.list fj])) (fe (H:=aJ A B D' (bl T k))))
 have eI:(aJ A B D' (fy T k fj hg)++[.list (p4 T k fj),.inst 853 [(c3,.str hb),(eo,.int 1),(dV,.ref ((aJ A B D' (fy T k fj hg)).length+0)),(g8,ei)]])[(bl T k++[aj.list fj]).length+7]?=some (.list hg):=cY (H:=aJ A B D' (fy T k fj hg)) (p3 (A:=A) (B:=B) (D:=D') (X:=bl T k++[aj.list fj]) (x:=.list hg))
 refine pN (rZ (by rw[dn,ao];omega) (p0 (k:=1)) ?_) ?_ ?_
 ·refine dx (ej rfl rfl)<|dx (ej rfl rfl)<|dx (kv (by rw[dn,ao];omega) (p0 (k:=0)) ?_)<|dx (ej (by kernel_rfl) (nj (Nat.zero_le _) _ aV)) r0
  exact nd (kv (by rw[dn];simp;omega) df (u6 h1))<|nd (ej rfl rfl)<|nd (kv (by rw[dn];simp;omega) eI (u6 af))<|nd (ej rfl rfl) r1
 ·show (aJ A B D' (fy T k fj hg)++_).take (aJ A B D' T).length=_
  have:aJ A B D' (fy T k fj hg)=aJ A B D' T++([.cell (some (.ref 6)),.cell (some (.int k))]++[.list fj]++[.list hg]):=by
   unfold aJ;simp
  rw[this,List.append_assoc];exact rY
 ·exact u5 aw
end
section
variable {A B:aj}{D D' : bG}{T X G:List aj}{q:Bool}{k:Int}{d n:Nat}{ls:List (Str×V)}{f:Bool→bG→bF×bG}{fj hg:List V}
theorem Cp (t:bF):∀ v∈bE t,isA v=true∧cy 0 v=true:=by
 cases t with
 |two a b=>exact oJ (p2 a) (mv (p2 b))
 |_=>exact mv (p2 _)
theorem yc (t:bF):dG 0 (bE t)=true:=by
 have:∀ l:List V,(∀ v∈l,isA v=true∧cy 0 v=true)→dG 0 l=true:=fun l=>by
  induction l with
  |nil=>intro _;rfl
  |cons v r aI=>intro h;exact Bool.and_eq_true_iff.mpr ⟨(h v (.head _)).2,aI fun u m=>h u (.tail _ m)⟩
 exact this _ (Cp t)
noncomputable abbrev lp (q:Bool) (i:Int) (a b:V):List (Str×V):=[(lj,.bool q),(sg,.int i),(ng,a),(jM,b)]
theorem Wn (aw:ek A B T) (hd:8≤d)
 (hf:∀ q D G,ek A B (bl T (n+1:Nat)++G)→aq d (.obj (.ref 883)) [.ref 6,.int n,.bool q] (aJ A B D (bl T (n+1:Nat)++G)) (a9 (f q D).1) (aJ A B (f q D).2 (bl T (n+1:Nat)++G)))
 (so:∀ q D,fW (f q D).1=true) :
 ∃ ls,ab d (hz T (gz false 4)) (gT.1.drop 1) (aJ A B D (bl T (n+1:Nat)))
  (.ret (.ref ((aJ A B (cW (f true) (cW (f false) D).2).2.mr (fy T (n+1:Nat) (bE (cW (f false) D).1) (bE (cW (f true) (cW (f false) D).2).1))).length+1))) ls
  (aJ A B (cW (f true) (cW (f false) D).2).2.mr (fy T (n+1:Nat) (bE (cW (f false) D).1) (bE (cW (f true) (cW (f false) D).2).1))++[.list (p4 T (n+1:Nat) (bE (cW (f false) D).1)),.inst 853 [(c3,.str hb),(eo,.int 1),(dV,.ref ((aJ A B (cW (f true) (cW (f false) D).2).2.mr (fy T (n+1:Nat) (bE (cW (f false) D).1) (bE (cW (f true) (cW (f false) D).2).1))).length+0)),(g8,ei)]]):=by
 have iI:=Wk (A:=A) (B:=B) (D:=D) (G:=[]) (ls:=gz false 4) (d:=d) (f:=f) (n:=n) (T:=T) (by rw[List.append_nil];exact jV aw) hd (hf false) (so false)
 simp only[List.append_nil] at iI
 have aK:ek A B (bl T (n+1:Nat)++[.list (bE (cW (f false) D).1)]):=ya (jV aw) (yc _)
 have hP:=Wl (A:=A) (B:=B) (D:=(cW (f false) D).2) (G:=[.list (bE (cW (f false) D).1)]) (ls:=[(lj,.bool false),(sg,.int 4),(ng,.ref ((bl T (n+1:Nat)).length+7))]) (d:=d) (f:=f) (n:=n) (T:=T) aK hd (hf true) (so true)
 generalize cW (f true) (cW (f false) D).2=cH at *
 generalize cW (f false) D=dc at *
 have bw:ek A B (fy T (n+1:Nat) (bE dc.1) (bE cH.1)):=ya aK (yc _)
 let Y:List aj:=[.list (p4 T (n+1:Nat) (bE dc.1)),.inst 853 [(c3,.str hb),(eo,.int 1),(dV,.ref ((aJ A B cH.2 (fy T (n+1:Nat) (bE dc.1) (bE cH.1))).length+0)),(g8,.none)]]
 have da:ek A B (fy T (n+1:Nat) (bE dc.1) (bE cH.1)++Y):=by
  have e:(fy T (n+1:Nat) (bE dc.1) (bE cH.1)).length=(bl T (n+1:Nat)).length+2:=by simp
  refine ⟨bw.a,bw.b,?_⟩
  rw[List.all_append,uQ (by simp) bw.t]
  have cL:7+(fy T (n+1:Nat) (bE dc.1) (bE cH.1)++Y).length=7+(bl T (n+1:Nat)).length+4:=by rw[List.length_append,e];show 7+(_+2+2)=_;omega
  rw[cL]
  show (true&&((Nat.blt _ _&&(true&&(Nat.blt _ _&&(true&&true))))&&((true&&(true&&(Nat.blt _ _&&(true&&true))))&&true)))=true
  rw[Nat.blt_eq.mpr (by omega),Nat.blt_eq.mpr (by simp;omega),Nat.blt_eq.mpr (by rw[oI,e];omega)];rfl
 let se:List (Str×V):=lp false 4 (.ref ((bl T (n+1:Nat)).length+7)) (.ref ((bl T (n+1:Nat)++[aj.list (bE dc.1)]).length+7))
 let R:Nat:=(aJ A B cH.2 (fy T (n+1:Nat) (bE dc.1) (bE cH.1))).length
 let nk:List (Str×V):=se++[(rP,.ref (R+1))]
 have mr:=IU (A:=A) (B:=B) (D:=cH.2) (T:=fy T (n+1:Nat) (bE dc.1) (bE cH.1)++Y) da
 refine ⟨nk,?_⟩
 exact ab.cons (ah.iff I ab.nil)<|ab.cons (ah.iff I ab.nil)<|ab.cons (ah.iff I ab.nil)<|ab.cons (ah.iff I ab.nil)<|ab.cons (ah.iff I ab.nil)<|ab.cons (ah.iff I ab.nil) <|
  ab.cons iI<|ab.cons (bJ:=se) hP <|
  ab.cons (bJ:=nk) (H1:=aJ A B cH.2 (fy T (n+1:Nat) (bE dc.1) (bE cH.1)++Y)) (ah.assign (v:=.ref (R+1)) (ai.bI (g:=.obj (.ref 853)) (vs:=[.str hb,.int 1,.ref (R+0)]) I (GE.cons I (GE.cons I (GE.cons (ai.list (vs:=p4 T (n+1:Nat) (bE dc.1)) (H1:=aJ A B cH.2 (fy T (n+1:Nat) (bE dc.1) (bE cH.1))) I) GE.nil)))
   ((Ce (H:=aJ A B cH.2 (fy T (n+1:Nat) (bE dc.1) (bE cH.1))) (G:=[.list (p4 T (n+1:Nat) (bE dc.1))]) (.str hb) (.int 1) (.ref (R+0))).mono (by omega))) (bq.name (by kernel_rfl))) <|
  ab.cons (bJ:=nk) (ah.assign (v:=ei) (ai.bI (g:=.obj (.ref 890)) (vs:=[]) I GE.nil (mr.mono (by omega)))
   (bq.at (H:=aJ A B cH.2.mr (fy T (n+1:Nat) (bE dc.1) (bE cH.1))) (k:=1) (G:=Y) I rfl (by kernel_rfl))) <|
  ab.ret (ah.ret I)
end
section
variable {A B:aj}{D D' : bG}{T X G:List aj}{q:Bool}{d n:Nat}{ls:List (Str×V)}{f:Bool→bG→bF×bG}
noncomputable def lq (k:Nat):Int:=match k with |0=>2 |_+1=>6
theorem Wo (k:Nat) (hd:8≤d):ah d (hz T [(lj,.bool q)]) (bQ gT.1 0) (aJ A B D (bl T (k:Nat))) .next (gz q (D.take (lq k)).1) (aJ A B (D.take (lq k)).2 (bl T (k:Nat))):=by
 have az:=oH (A:=A) (B:=B) (D:=D) (T:=bl T (k:Nat)) (w:=lq k) (by cases k with |zero=>exact (by decide:(0:Int)<2) |succ k=>exact (by decide:(0:Int)<6))
 cases k with
 |zero=>exact ah.assign (ai.bI (g:=.obj (.ref 864)) (vs:=[.ref 6,.int 2]) I (GE.cons mu (GE.cons (ai.iff (GT.cmp (a:=.int ((0:Nat):Int)) (b:=.int 0) Cg I (by intros;kernel_rfl)) I) GE.nil)) (az.mono (by omega))) (bq.name (by kernel_rfl))
 |succ k=>exact ah.assign (ai.bI (g:=.obj (.ref 864)) (vs:=[.ref 6,.int 6]) I (GE.cons mu (GE.cons (ai.cm (GT.cmp (a:=.int ((k+1:Nat):Int)) (b:=.int 0) Cg I (by
  have:(0:Int)<((k+1:Nat):Int):=by omega
  exact xE (decide_eq_true this))) I) GE.nil)) (az.mono (by omega))) (bq.name (by kernel_rfl))
theorem I4 {t:bF}{v:V}{H1:List aj}(k:Nat) (hd:8≤d) (h:ab d (hz T (gz q (D.take (lq k)).1)) (gT.1.drop 1) (aJ A B (D.take (lq k)).2 (bl T (k:Nat))) (.ret v) ls H1)
 (ar:∀ aa,fin (aJ A B D T).length v ⟨H1,aa⟩=some (a9 t,⟨aJ A B D' T,aa⟩)):aq (d+1) (.obj (.ref 883)) [.ref 6,.int (k:Nat),.bool q] (aJ A B D T) (a9 t) (aJ A B D' T) :=
 aq.Wc (fi:=⟨qN,[gM,nq,lj],[],gT.1,none,true⟩) (vs:=[.ref 6,.int (k:Nat),.bool q]) (cN:=[(lj,.bool q)]) (cs:=[.cell (some (.ref 6)),.cell (some (.int (k:Nat)))]) (by kernel_rfl) rfl Wd (by kernel_rfl) (by kernel_rfl) rfl (by kernel_rfl)
  (ab.cons (Wo k hd) h) ar
theorem oK {t:bF}{k:Int}(aw:ek A B T) (aa:Prop):fin (aJ A B D T).length (a9 t) ⟨aJ A B D' (bl T k),aa⟩=some (a9 t,⟨aJ A B D' T,aa⟩):=by
 refine pN (ej (p2 t).1 (nj (Nat.zero_le _) _ (p2 t).2)) ?_ (u5 aw)
 show (aJ A B D' T++[_,_]).take (aJ A B D' T).length=_
 exact rY
end
section
variable {A B:aj}
theorem Cq:∀(k:Nat) (q:Bool) (D:bG) (T:List aj),ek A B T→aq (12+k) (.obj (.ref 883)) [.ref 6,.int (k:Nat),.bool q] (aJ A B D T) (a9 (dI k q D).1) (aJ A B (dI k q D).2 T)
 |0,q,D,T,aw=>by
  have lt:=ih (D:=D) (w:=2) (by decide)
  show aq 12 _ _ _ (a9 (gf _ q (D.take 2).1 (D.take 2).2).1) (aJ A B (gf _ q (D.take 2).1 (D.take 2).2).2 T)
  have h:(D.take (lq 0)).1=0∨(D.take (lq 0)).1=1:=by show (D.take 2).1=0∨(D.take 2).1=1;omega
  have key:∀(i:Int) (cz:bG),(i=0∨i=1)→∃ ls,ab 11 (hz T (gz q i)) (gT.1.drop 1) (aJ A B cz (bl T (0:Nat))) (.ret (a9 (gf (fun _ D=>(.el,D)) q i cz).1)) ls (aJ A B (gf (fun _ D=>(.el,D)) q i cz).2 (bl T (0:Nat))):=fun i cz h=>by
   rcases h with rfl |rfl
   ·exact ⟨_,IW aw (by omega)⟩
   ·cases q with
    |true=>exact ⟨_,Ci (ss:=[]) aw (by omega) (.inl rfl)⟩
    |false=>exact ⟨_,IX aw (by omega)⟩
  obtain ⟨ls,g⟩:=key _ (D.take (lq 0)).2 h
  exact I4 0 (by omega) g (oK aw)
 |k+1,q,D,T,aw=>by
  have lt:=ih (D:=D) (w:=6) (by decide)
  show aq (12+k+1) _ _ _ (a9 (gf (dI k) q (D.take 6).1 (D.take 6).2).1) (aJ A B (gf (dI k) q (D.take 6).1 (D.take 6).2).2 T)
  have hf:∀ q D G,ek A B (bl T (k+1:Nat)++G)→aq (12+k) (.obj (.ref 883)) [.ref 6,.int (k:Nat),.bool q] (aJ A B D (bl T (k+1:Nat)++G)) (a9 (dI k q D).1) (aJ A B (dI k q D).2 (bl T (k+1:Nat)++G)):=fun q D G h=>Cq k q D _ h
  have I5:∀ q D,aq (12+k) (.obj (.ref 883)) [.ref 6,.int (k:Nat),.bool q] (aJ A B D (bl T (k+1:Nat))) (a9 (dI k q D).1) (aJ A B (dI k q D).2 (bl T (k+1:Nat))):=fun q D=>Cq k q D _ (jV aw)
  have h:0≤(D.take (lq (k+1))).1∧(D.take (lq (k+1))).1<6:=lt
  have key:∀(i:Int) (cz:bG),(0≤i∧i<6)→∃ ls v H1,ab (12+k) (hz T (gz q i)) (gT.1.drop 1) (aJ A B cz (bl T (k+1:Nat))) (.ret v) ls H1∧∀ aa,fin (aJ A B D T).length v ⟨H1,aa⟩=some (a9 (gf (dI k) q i cz).1,⟨aJ A B (gf (dI k) q i cz).2 T,aa⟩):=fun i cz h=>by
   have:i=0∨i=1∨i=2∨i=3∨i=4∨i=5:=by omega
   rcases this with rfl |rfl |rfl |rfl |rfl |rfl
   ·exact ⟨_,_,_,IW aw (by omega),oK aw⟩
   ·cases q with
    |true=>exact ⟨_,_,_,Ci (ss:=[]) aw (by omega) (.inl rfl),oK aw⟩
    |false=>exact ⟨_,_,_,IX aw (by omega),oK aw⟩
   ·exact ⟨_,_,_,Wh (f:=dI k) aw (by omega) (fun D=>I5 q D),oK aw⟩
   ·exact ⟨_,_,_,Wi (f:=dI k) aw (by omega) (fun D=>I5 q D),oK aw⟩
   ·cases q with
    |true=>exact ⟨_,_,_,Ci (ss:=[]) aw (by omega) (.inr rfl),oK aw⟩
    |false =>
     obtain ⟨ls,g⟩:=Wn (D:=cz) (f:=dI k) (n:=k) aw (by omega) hf (fun q D=>(u7 k q D).1)
     refine ⟨_,_,_,g,fun aa=>?_⟩
     have:=Wm (D:=D) (D':=(cW (dI k true) (cW (dI k false) cz).2).2.mr) (T:=T) (k:=((k+1:Nat):Int)) aa aw (Cp (cW (dI k false) cz).1) (Cp (cW (dI k true) (cW (dI k false) cz).2).1)
     rw[←u4] at this
     exact this
   ·exact ⟨_,_,_,Wg aw (by omega),oK aw⟩
  obtain ⟨ls,v,H1,g,e⟩:=key _ (D.take (lq (k+1))).2 h
  exact I4 (k+1) (by omega) g e
end
section
variable {A B:aj}{D D' : bG}{d:Nat}{ls:List (Str×V)}{us:List V}
noncomputable abbrev ik (ls:List (Str×V)):a5:=⟨qV.scope,[(gM,2)],some (1,"law.<locals>.<lambda>"),ls⟩
noncomputable abbrev I6 (j:Nat):Scope:=HF (eJ (bQ fC.1 j))
noncomputable abbrev p5 (j:Nat):PySem.Expr:=HG (eJ (bQ fC.1 j))
noncomputable abbrev yd (j:Nat):PySem.Expr:=BI (eJ (bQ fC.1 j))
noncomputable abbrev sq (j:Nat) (ls:List (Str×V)):a5:=⟨relabel (ik []) (I6 j),[(gM,2)],none,ls⟩
theorem I7 (dy:cE 7 A=true) (hZ:cE 7 B=true) (dK:dG 0 us=true):ai 15 (sq 1 ls) (p5 1) (aJ A B D [.list us]) (a9 (dI 3 false D).1) (aJ A B (dI 3 false D).2 [.list us]) :=
 ai.bI (g:=.obj (.ref 883)) (vs:=[.ref 6,.int (3:Nat),.bool false]) I I (Cq 3 false D [.list us] ⟨dy,hZ,by show (dG _ us&&true)=true;rw[ja (Nat.zero_le _) _ dK];rfl⟩)
theorem Wq (dy:cE 7 A=true) (hZ:cE 7 B=true):ah 15 (ik ls) (bQ fC.1 1) (aJ A B D []) .next (d8 fF (.ref 7) ls) (aJ A B (cW (dI 3 false) D).2 [.list (bE (cW (dI 3 false) D).1)]):=by
 have az:=oH (A:=A) (B:=B) (D:=D) (T:=[]) (w:=2) (by decide)
 have lt:=ih (D:=D) (w:=2) (by decide)
 have bA:(D.take 2).1=0∨(D.take 2).1=1:=by omega
 have ao:=fun ls D=>I7 (A:=A) (B:=B) (D:=D) (ls:=ls) (us:=[]) dy hZ rfl
 rcases bA with h |h
 ·rw[Cn h,pW (u7 3 false _).1]
  rw[h] at az
  have g1:=cX.step (d:=15) (fr:=sq 1 []) (H:=aJ A B (D.take 2).2 [.list []]) (k:=0) (src:=.cw 0 1) (t:=yd 1) (elt:=p5 1) (acc:=7) (xs:=[]) (v:=.int 0) rfl (by kernel_rfl) (bq.name (by kernel_rfl))
   (ao _ (D.take 2).2) rfl sm (cX.done (H:=aJ A B (dI 3 false (D.take 2).2).2 [.list [a9 (dI 3 false (D.take 2).2).1]]) rfl (by kernel_rfl))
  exact ah.lc (v:=.cw 0 1) (src:=.cw 0 1) (H1:=aJ A B (D.take 2).2 []) (ai.bI (g:=.obj (.type "range")) (vs:=[.int 1]) I (GE.cons (ai.bin (a:=.int 1) (b:=.int 0) I (ai.bI (g:=.obj (.ref 864)) (vs:=[.ref 6,.int 2]) I I (az.mono (by omega))) (fun s _=>by rfl)) GE.nil) (Ck.mono (by omega))) rfl (by kernel_rfl) (by kernel_rfl) (by kernel_rfl) g1
 ·rw[Co h,oF]
  rw[h] at az
  have g1:=cX.step (d:=15) (fr:=sq 1 []) (H:=aJ A B (D.take 2).2 [.list []]) (k:=0) (src:=.cw 0 2) (t:=yd 1) (elt:=p5 1) (acc:=7) (xs:=[]) (v:=.int 0) rfl (by kernel_rfl) (bq.name (by kernel_rfl))
   (ao _ (D.take 2).2) rfl sm (cX.step (k:=1) (v:=.int 1) (xs:=[a9 (dI 3 false (D.take 2).2).1]) (H:=aJ A B (dI 3 false (D.take 2).2).2 [.list [a9 (dI 3 false (D.take 2).2).1]]) rfl (by kernel_rfl) (bq.name (by kernel_rfl)) (I7 dy hZ (by show (cy 0 _&&true)=true;rw[jT];rfl)) rfl Cj
    (cX.done (H:=aJ A B (dI 3 false (dI 3 false (D.take 2).2).2).2 [.list [a9 (dI 3 false (D.take 2).2).1,a9 (dI 3 false (dI 3 false (D.take 2).2).2).1]]) rfl (by kernel_rfl)))
  exact ah.lc (v:=.cw 0 2) (src:=.cw 0 2) (H1:=aJ A B (D.take 2).2 []) (ai.bI (g:=.obj (.type "range")) (vs:=[.int 2]) I (GE.cons (ai.bin (a:=.int 1) (b:=.int 1) I (ai.bI (g:=.obj (.ref 864)) (vs:=[.ref 6,.int 2]) I I (az.mono (by omega))) (fun s _=>by rfl)) GE.nil) (Cm.mono (by omega))) rfl (by kernel_rfl) (by kernel_rfl) (by kernel_rfl) g1
end
noncomputable def nr:Nat→bG→List V×bG
 |0,D=>([],D)
 |n+1,D=>(.str (k0 (D.take 3).1.toNat)::(nr n (D.take 3).2).1,(nr n (D.take 3).2).2)
section
variable {A B L:aj}{D D' : bG}{d:Nat}{ls:List (Str×V)}{us:List V}
theorem Wr {X:List aj}:ai 15 (sq 2 ls) (p5 2) (aJ A B D X) (.str (k0 (D.take 3).1.toNat)) (aJ A B (D.take 3).2 X):=by
 have az:=oH (A:=A) (B:=B) (D:=D) (T:=X) (w:=3) (by decide)
 have lt:=ih (D:=D) (w:=3) (by decide)
 have c:∀ i:Int,0≤i∧i<3→∀ H,aq 1 (.obj (.type "str")) [.int i] H (.str (k0 i.toNat)) H:=fun i h H=>by
  have:i=0∨i=1∨i=2:=by omega
  rcases this with rfl |rfl |rfl <;> exact I
 exact ai.bI (g:=.obj (.type "str")) (vs:=[.int (D.take 3).1]) I (GE.cons (ai.bI (g:=.obj (.ref 864)) (vs:=[.ref 6,.int 3]) I I (az.mono (by omega))) GE.nil) ((c _ lt _).mono (by omega))
theorem Ws {k:Nat}{H:List aj}(h:k<10):itemAt (.cw 0 10) k H=some (some (.int (0+k))):=by
 have:(0:Int)+(k:Int)<10:=by omega
 exact en (decide_eq_true this)
theorem Wt {k:Nat}{H:List aj}(h : ¬ k<10):itemAt (.cw 0 10) k H=some none:=by
 have : ¬ (0:Int)+(k:Int)<10:=by omega
 exact eU (decide_eq_false this)
theorem I8:∀(n k:Nat) (D:bG) (xs:List V) (ls:List (Str×V)),k+n=10→xs.length=k→cX 15 (sq 2 ls) (p5 2) (yd 2) [] (.cw 0 10) k 8 (aJ A B D [L,.list xs]) (aJ A B (nr n D).2 [L,.list (xs++(nr n D).1)])
 |0,k,D,xs,ls,h,bA=>by
  show cX 15 (sq 2 ls) (p5 2) (yd 2) [] (.cw 0 10) k 8 (aJ A B D [L,.list xs]) (aJ A B D [L,.list (xs++[])])
  rw[List.append_nil];exact cX.done (Wt (by omega)) (by kernel_rfl)
 |n+1,k,D,xs,ls,h,bA=>by
  have aI:=I8 n (k+1) (D.take 3).2 (xs++[.str (k0 (D.take 3).1.toNat)]) (d8 jU (.int (0+k)) ls) (by omega) (by simp[bA])
  rw[List.append_assoc] at aI
  exact cX.step (Ws (by omega)) (by kernel_rfl) (bq.name (by kernel_rfl)) Wr rfl (by unfold aL;omega) aI
theorem Wu:ah 15 (ik ls) (bQ fC.1 2) (aJ A B D [L]) .next (d8 ⟨⟨[100,105,103,105,116,115]⟩⟩ (.ref 8) ls) (aJ A B (nr 10 D).2 [L,.list (nr 10 D).1]) :=
 ah.lc (v:=.cw 0 10) (src:=.cw 0 10) (H1:=aJ A B D [L]) I rfl (by kernel_rfl) (by kernel_rfl) (by kernel_rfl) (I8 10 0 D [] [] rfl rfl)
end
theorem I9:∀ l:List Int,∃ m,nU (l.map V.int)=some m
 |[]=>⟨0,rfl⟩
 |a::r=>let ⟨m,h⟩:=I9 r;⟨a+m,by show ((eM (.int a)).bind fun i=>(nU (r.map V.int)).map fun s=>i+s)=_;rw[h];rfl⟩
section
variable {d:Nat}{fr:a5}{H H1 H2:List aj}{l r:PySem.Expr}{a b m:Int}{p:Pos}{vs:List V}{ns:List Int}
theorem ai.mod (h:ai d fr l H (.int a) H1) (af:ai d fr r H1 (.int b) H2) (bt:0<b):ai d fr (.BinOp l .Mod r p) H (.int (a.fmod b)) H2:=fun aa o=>by
 obtain ⟨e7,fa,x⟩:=h aa o
 obtain ⟨eg,es,y⟩:=af e7 fa
 exact ⟨eg∧0<b,⟨es,bt⟩,(x.and y).step fun N n bc q=>(bj q.1).trans (bj q.2)⟩
theorem aq.sum {k:Nat}(h:H[k]?=some (.list vs)) (hm:nU vs=some m):aq 1 (.obj (.builtin "sum")) [.ref k] H (.int m) H:=aq.bi fun aa=>by
 show nW _ _ _=_
 unfold nW
 rw[if_neg (by decide),if_neg (by decide),if_neg (by decide),if_pos rfl]
 exact (bj (congrArg dA h:kg (.ref k) ⟨H,aa⟩=some vs)).trans (dE hm)
noncomputable abbrev kG:Str:=⟨⟨[115,99,114,105,112,116]⟩⟩
noncomputable abbrev oL:aj:=.tab "_law_view.<locals>.<lambda>" []
noncomputable abbrev oM:aj:=.tab "law.<locals>.<lambda>" []
theorem Wv (hm:nU (vs.take 60)=some m):ah 15 (ik [(kG,.aO vs)]) (bQ fC.1 0) [oL,oM,.cell none] .next [(kG,.aO vs)] [oL,oM,.cell (some (.ref 6)),.list (vs.take 60),.list (vs.take 60),.list (vs.take 60),.list [.ref 4,.int 0,.int (m.fmod 997)]] :=
 ah.assign (v:=.ref 6) (H1:=[oL,oM,.cell none,.list (vs.take 60),.list (vs.take 60),.list (vs.take 60),.list [.ref 4,.int 0,.int (m.fmod 997)]])
  (ai.list (H1:=[oL,oM,.cell none,.list (vs.take 60),.list (vs.take 60),.list (vs.take 60)]) (GE.cons (v:=.ref 4) (H1:=[oL,oM,.cell none,.list (vs.take 60),.list (vs.take 60)]) ie (GE.cons (v:=.int 0) I (GE.cons
   (ai.mod (ai.bI (g:=.obj (.builtin "sum")) (vs:=[.ref 5]) (H2:=[oL,oM,.cell none,.list (vs.take 60),.list (vs.take 60),.list (vs.take 60)]) I (GE.cons ie GE.nil) ((aq.sum (k:=5) rfl hm).mono (by omega))) (b:=997) I (by decide)) GE.nil))))
  ie
end
section
variable {A B L Q:aj}{D:bG}{ls:List (Str×V)}
noncomputable def iO:List (Nat×Nat):=((Uv (eJ (bQ fC.1 4))).map fun y=>[(y.2.2.2.line,y.2.2.2.col)]).getD []
noncomputable def hU (A B:aj) (R:List (Nat×Nat)) (D:bG) (L Q:aj):Pre:=⟨.tab "_law_view.<locals>.<lambda>" fx,.tab "law.<locals>.<lambda>" R,.cell (some (.ref 6)),A,.list (D.l.map V.int),B,.list [.ref 4,.int D.n,.int D.m],L,Q⟩
noncomputable def hh:au:=⟨[],[],0,[],[],[],[],.int 0,[]⟩
noncomputable abbrev Ja:Str:=⟨⟨[109,97,107,101,114]⟩⟩
noncomputable abbrev mid (P:Pre):List aj:=(mk P hh [.list []]).set 9 (.inst 834 [(g8,ei),(fG,ei),(rL,.ref 11),(Ht,.ref 22),(pH,.int 0),(Hy,.none)])
theorem Ww (aw:ek A B [L,Q]):ah 15 (ik ls) (bQ fC.1 3) (aJ A B D [L,Q]) .next (d8 Ja (.ref 9) ls) (mid (hU A B [] D L Q)):=by
 have v:=IU (A:=A) (B:=B) (D:=D) (T:=[L,Q]) aw
 have c:aq 15 (.obj (.ref 834)) [ei,.str dN] (aJ A B D.mr [L,Q]) (.ref 9) (mid (hU A B [] D L Q)):=(Gt.run (d:=8) 60 fun N n aa=>by kernel_rfl:aq 8 _ _ _ _ _).mono (by omega)
 exact ah.assign (v:=.ref 9) (ai.bI (g:=.obj (.ref 834)) (vs:=[ei,.str dN]) I (GE.cons (ai.bI (g:=.obj (.ref 890)) (vs:=[]) I GE.nil (v.mono (by omega))) (GE.cons I GE.nil)) c) (bq.name (by kernel_rfl))
noncomputable abbrev Cr:Str:=⟨⟨[100,105,103,105,116,115]⟩⟩
noncomputable abbrev kH (v:V):List (Str×V):=[(kG,v),(fF,.ref 7),(Cr,.ref 8),(Ja,.ref 9)]
theorem Wx {v:V}:ah 15 (ik (kH v)) (bQ fC.1 4) (mid (hU A B [] D L Q)) .next (kH v) (mk (hU A B iO D L Q) hh [.list []]) :=
 ah.assign (v:=rU) (H1:=mid (hU A B iO D L Q)) ie (bq.attr (v:=.ref 9) I (by kernel_rfl))
end
section
variable {D:bG}{q:Bool}{i:Int}{m:Nat}{f:Bool→bG→bF×bG}
theorem Jb {u9:bF→Nat}{g:bG→bF×bG}(cP:∀ D,u9 (g D).1≤m) (af:∀ a b,u9 a≤m→u9 b≤m→u9 (.two a b)≤i.toNat) (h1:m≤i.toNat):u9 (cW g D).1≤i.toNat:=by
 unfold cW
 split
 ·exact Nat.le_trans (cP _) h1
 ·exact af _ _ (cP _) (cP _)
theorem ye {g:bG→bF×bG}(cP:∀ D,cQ (g D).1≤m):cQ (cW g D).1≤m+m:=by
 have:=Jb (i:=((m+m:Nat):Int)) (D:=D) cP (fun a b h1 af=>Nat.add_le_add h1 af) (Nat.le_add_left _ _)
 exact this
theorem yf {g:bG→bF×bG}(cP:∀ D,bV (g D).1≤m):bV (cW g D).1≤m:=by
 have:=Jb (i:=(m:Int)) (D:=D) cP (fun a b h1 af=>Nat.max_le.mpr ⟨h1,af⟩) (Nat.le_refl _)
 exact this
theorem Jc (hf:∀ q D,cQ (f q D).1≤m):cQ (gf f q i D).1≤m+m+(m+m)+80:=by
 unfold gf
 split
 ·exact Nat.le_trans (by decide:10≤80) (Nat.le_add_left _ _)
 ·split <;> exact Nat.le_trans (by decide:10≤80) (Nat.le_add_left _ _)
 ·exact Nat.add_le_add (Nat.le_trans (hf _ _) (Nat.le_trans (Nat.le_add_right _ _) (Nat.le_add_right _ _))) (by decide)
 ·exact Nat.add_le_add (Nat.le_trans (hf _ _) (Nat.le_trans (Nat.le_add_right _ _) (Nat.le_add_right _ _))) (by decide)
 ·split
  ·exact Nat.le_trans (by decide:10≤80) (Nat.le_add_left _ _)
  ·exact Nat.add_le_add (Nat.add_le_add (ye (hf _)) (ye (hf _))) (by decide)
 ·exact Nat.le_trans (by decide:10≤80) (Nat.le_add_left _ _)
theorem Jd (hf:∀ q D,bV (f q D).1≤m) (hm:20≤m):bV (gf f q i D).1≤m+10:=by
 unfold gf
 split
 ·exact Nat.le_trans hm (Nat.le_add_right _ _)
 ·split <;> exact Nat.le_trans hm (Nat.le_add_right _ _)
 ·exact Nat.add_le_add (hf _ _) (Nat.le_refl _)
 ·exact Nat.add_le_add (hf _ _) (Nat.le_refl _)
 ·split
  ·exact Nat.le_trans hm (Nat.le_add_right _ _)
  ·exact Nat.add_le_add (Nat.max_le.mpr ⟨yf (hf _),yf (hf _)⟩) (Nat.le_refl _)
 ·exact Nat.le_trans hm (Nat.le_add_right _ _)
noncomputable def p6:Nat→Nat
 |0=>120
 |k+1=>p6 k+p6 k+(p6 k+p6 k)+80
theorem Cs:∀(k:Nat) (q:Bool) (D:bG),cQ (dI k q D).1≤p6 k
 |0,q,D=>Jc (m:=10) fun _ _=>Nat.le_refl 10
 |k+1,q,D=>Jc fun q D=>Cs k q D
theorem Ct:∀(k:Nat) (q:Bool) (D:bG),bV (dI k q D).1≤30+10 * k
 |0,q,D=>Jd (m:=20) (fun _ _=>Nat.le_refl 20) (Nat.le_refl _)
 |k+1,q,D=>Jd (fun q D=>Ct k q D) (Nat.le_trans (by decide) (Nat.le_add_right _ _))
end
noncomputable abbrev cR (D:bG):bF:=(cW (dI 3 false) D).1
section
variable {A B Q:aj}{D E:bG}{v:V}
theorem Wy {R:List (Nat×Nat)}{t:bF}:uV (hU A B R D (.list (bE t)) Q) [.list []] (.ref 7) (.ref 7) (bE t):=⟨fun _=>rfl,fun _ _ _=>rfl,fun _=>rfl⟩
theorem Je (dy:cE 7 A=true) (hZ:cE 7 B=true) (s7:cE 7 Q=true):Inv (hU A B iO D (.list (bE (cR E))) Q) hh [] [] 0 (cQ (cR E)):=by
 have aw:cQ (cR E)≤18720:=ye (m:=p6 3) fun D=>Cs 3 false D
 refine ⟨?_,rfl,(fun x m=>nomatch m),rfl,⟨rfl,rfl,rfl,rfl,rfl,rfl,rfl⟩,?_,?_,rfl⟩
 ·unfold uR
  simp only[List.all_cons,List.all_nil,Bool.and_eq_true]
  exact ⟨rfl,rfl,rfl,mi (by decide) _ dy,x5 _,mi (by decide) _ hZ,rfl,ja (Nat.zero_le _) _ (yc _),mi (by decide) _ s7,trivial⟩
 ·show 0+cQ (cR E)+60<1048576;omega
 ·show 0+cQ (cR E)+60<1048576;omega
theorem Wz (dy:cE 7 A=true) (hZ:cE 7 B=true) (s7:cE 7 Q=true):ah 70 (ik (kH v)) (bQ fC.1 5) (mk (hU A B iO D (.list (bE (cR E))) Q) hh [.list []]) .next (kH v) (mk (hU A B iO D (.list (bE (cR E))) Q) (comp (cR E) hh) [.list []]):=by
 have b:=(pY (cR E) (yb fun D=>u7 3 false D)).2 _ hh [] [] 0 (.ref 7) (.ref 7) (Je (A:=A) (B:=B) (D:=D) (Q:=Q) (E:=E) dy hZ s7) Wy
 have hd:bV (cR E)≤60:=yf fun D=>Ct 3 false D
 exact ah.expr (ai.a0 (v:=.ref 9) (first:=[.ref 9]) (vs:=[.ref 7]) I rfl I (b.mono (by omega)))
end
noncomputable def nt (op:Int):Bool:=[4,6,9,10,13,14,17,18,20,24,26,66,67,76,81].contains op
noncomputable def mw (op:Int):Bool:=[58,59,77].contains op
noncomputable abbrev kI (ag:List V) (l:Nat):Prop:=∃ p:Nat,ag[l]?=some (.int p)
inductive il (A:Nat→Prop) (ag:List V):V→Prop
 |o {op}:nt op=true→il A ag (eO op .none)
 |i {op i}:nt op=true→il A ag (eO op (.int i))
 |j {op}{l:Nat}:mw op=true→A l∨kI ag l→il A ag (eO op (.int l))
inductive p7 (A:Nat→Prop) (ag:List V):V→Prop
 |mk {x y z:Nat}{d:Int}:A x∨kI ag x→A y∨kI ag y→A z∨kI ag z→p7 A ag (.tup [.int x,.int y,.int z,.int d,.bool false])
structure aA (A:Nat→Prop) (S aT:au):Prop where
 aN:∃ e,aT.aN=S.aN++e∧∀ v∈e,il A aT.ag v
 con:∃ e,aT.con=S.con++e
 bH:∃ e,aT.bH=S.bH++e∧∀ v∈e,p7 A aT.ag v
 len:S.ag.length≤aT.ag.length
 put:∀(l p:Nat),S.ag[l]?=some (.int p)→aT.ag[l]?=some (.int p)
 sr:S.fv.all isA=true∧S.d1.all isA=true→aT.fv.all isA=true∧aT.d1.all isA=true
section
variable {A m6:Nat→Prop}{S aT uM:au}{op e d:Int}{a v:V}{l n m:Nat}{ag yg:List V}
theorem il.mono (h:∀ l,A l∨kI ag l→m6 l∨kI yg l):il A ag v→il m6 yg v
 |.o a=>.o a
 |.i a=>.i a
 |.j a b=>.j a (h _ b)
theorem p7.mono (h:∀ l,A l∨kI ag l→m6 l∨kI yg l):p7 A ag v→p7 m6 yg v
 |.mk a b c=>.mk (h _ a) (h _ b) (h _ c)
theorem su (l:List V) (Q:V→Prop):∃ e,l=l++e∧∀ v∈e,Q v:=⟨[],(List.append_nil l).symm,fun _ m=>nomatch m⟩
theorem Jf {l jW Jg:List V}{Q Cu:V→Prop}(q:∀ v,Q v→Cu v):(∃ e,jW=l++e∧∀ v∈e,Q v)→(∃ e,Jg=jW++e∧∀ v∈e,Cu v)→∃ e,Jg=l++e∧∀ v∈e,Cu v
 |⟨e,h,k⟩,⟨c9,h',k'⟩=>⟨e++c9,by rw[h',h,List.append_assoc],fun v m=>(List.mem_append.mp m).elim (fun m=>q v (k v m)) (k' v)⟩
theorem nu (l:List V):∃ e,l=l++e:=⟨[],(List.append_nil l).symm⟩
theorem aA.of (aw:aT.aN=S.aN) (ar:∃ e,aT.con=S.con++e) (bY:aT.bH=S.bH) (hl:S.ag.length≤aT.ag.length) (a4:∀(l p:Nat),S.ag[l]?=some (.int p)→aT.ag[l]?=some (.int p)) (h1:aT.fv=S.fv:=by rfl) (af:aT.d1=S.d1:=by rfl):aA A S aT :=
 ⟨by rw[aw];exact su _ _,ar,by rw[bY];exact su _ _,hl,a4,fun h=>by rw[h1,af];exact h⟩
theorem aA.close (x:aA A S aT) (h:∀ l,A l→m6 l∨kI aT.ag l):aA m6 S aT :=
 ⟨let ⟨e,q,k⟩:=x.aN;⟨e,q,fun v m=>(k v m).mono fun l q=>q.elim (h l) .inr⟩,x.con,let ⟨e,q,k⟩:=x.bH;⟨e,q,fun v m=>(k v m).mono fun l q=>q.elim (h l) .inr⟩,x.len,x.put,x.sr⟩
theorem aA.refl:aA A S S:=.of rfl (nu _) rfl (Nat.le_refl _) fun _ _ h=>h
theorem aA.trans (x:aA A S aT) (y:aA A aT uM):aA A S uM :=
 ⟨Jf (fun _=>il.mono fun l=>Or.imp id fun ⟨p,h⟩=>⟨p,y.put l p h⟩) x.aN y.aN,let ⟨e,h⟩:=x.con;let ⟨c9,h'⟩:=y.con;⟨e++c9,by rw[h',h,List.append_assoc]⟩,Jf (fun _=>p7.mono fun l=>Or.imp id fun ⟨p,h⟩=>⟨p,y.put l p h⟩) x.bH y.bH,Nat.le_trans x.len y.len,fun l p h=>y.put l p (x.put l p h),fun h=>y.sr (x.sr h)⟩
theorem Jh {l:List V}{v:V}(h:l.all isA=true) (aV:isA v=true):(l++[v]).all isA=true:=by simp[h,aV]
theorem aA.emit (h:il A S.ag (eO op a)):aA A S (S.emit op a):=⟨⟨_,rfl,fun v m=>List.mem_singleton.mp m▸h⟩,nu _,su _ _,Nat.le_refl _,fun _ _ h=>h,fun h=>⟨Jh h.1 rfl,h.2⟩⟩
theorem aA.cI:aA A S (S.cI v):=.of rfl (nu _) rfl (Nat.le_refl _) fun _ _ h=>h
theorem aA.l1:aA A S S.l1:=.of rfl (nu _) rfl (Nat.le_refl _) fun _ _ h=>h
theorem aA.meet:aA A S (S.meet l d):=.of rfl (nu _) rfl (Nat.le_refl _) fun _ _ h=>h
theorem aA.unit (aV:isA v=true):aA A S (S.unit v):=⟨su _ _,nu _,su _ _,Nat.le_refl _,fun _ _ h=>h,fun h=>⟨h.1,Jh h.2 aV⟩⟩
theorem aA.cst:aA A S (S.cst v):=by
 unfold au.cst
 cases ku v S.con with
 |true=>exact aA.refl
 |false=>exact .of rfl ⟨_,rfl⟩ rfl (Nat.le_refl _) fun _ _ h=>h
theorem aA.kJ (h:nt op=true):aA A S (S.bg op .none e):=(aA.emit (.o h)).trans aA.cI
theorem aA.p8 {i:Int}(h:nt op=true):aA A S (S.bg op (.int i) e):=(aA.emit (.i h)).trans aA.cI
theorem aA.dO (h:nt op=true):aA A S (S.dO op v e):=aA.cst.trans (aA.p8 h)
theorem aA.a6 (n:b9):aA A S (S.a6 n):=by cases n <;> first |exact aA.dO rfl |exact aA.p8 rfl
theorem aA.fV (n:fU):aA A S (S.fV n):=by cases n <;> first |exact aA.dO rfl |exact aA.p8 rfl
theorem aA.pop:aA A S S.pop:=aA.kJ rfl
theorem aA.ay:aA A S S.ay:=.of rfl (nu _) rfl (by unfold au.ay;simp) fun _ _ h=>List.getElem?_append_left (List.getElem?_eq_some_iff.mp h).1▸h
theorem aA.putL (h:S.ag[l]?=some (.int (-1))):aA A S (S.put l):=.of rfl (nu _) rfl (by unfold au.put;simp) fun i p k=>(xU (fun q=>by subst q;rw[h] at k;cases k)).trans k
theorem aA.iN (h:A l):aA A S (S.iN l) :=
 hx (C:=fun F=>aA A S F) aA.refl fun _=>(aA.meet.trans (aA.emit (S:=S.meet l _) (.j rfl (.inl h)))).trans aA.cI
theorem aA.hv (h:A l):aA A S (S.hv l) :=
 hx (C:=fun F=>aA A S F) aA.refl fun _=>(aA.meet.trans (aA.emit (S:=S.meet l _) (.j rfl (.inl h)))).trans aA.cI
theorem aA.jmp (h:A l):aA A S (S.jmp l) :=
 hx (C:=fun F=>aA A S F) aA.refl fun _=>(aA.meet.trans (aA.emit (S:=S.meet l _) (.j rfl (.inl h)))).trans aA.cI
theorem aA.cZ (h:S.ag[l]?=some (.int (-1))):aA A S (S.cZ l) :=
 hx (C:=fun F=>aA A S F) ((aA.putL h).trans aA.cI) fun _=>aA.meet.trans (aA.putL (S:=S.meet l _) h)
theorem aA.mark:aA A S S.mark:=aA.ay.trans (aA.cZ (uH S))
theorem aA.fH {x y z:Nat}(h1:A x∨kI S.ag x) (af:A y∨kI S.ag y) (aB:A z∨kI S.ag z):aA A S (S.fH x y z d):=⟨su _ _,nu _,⟨_,rfl,fun v m=>List.mem_singleton.mp m▸.mk h1 af aB⟩,Nat.le_refl _,fun _ _ h=>h,id⟩
theorem aA.enter (h:S.ag[l]?=some (.int (-1))):aA A S (S.enter l d):=(aA.meet.trans (aA.putL (S:=S.meet l _) h)).trans aA.cI
theorem aA.az (t:dH):aA A S (S.az t):=by
 cases t with
 |b7 n=>exact (aA.fV n).trans aA.pop
 |var=>exact (aA.fV .w).trans aA.pop
 |mem n=>exact (((aA.l1.trans (aA.a6 n)).trans (aA.kJ rfl)).trans (aA.dO rfl)).trans aA.pop
 |c6 a b=>exact ((((((aA.l1.trans (aA.a6 a)).trans (aA.l1.trans (aA.a6 b))).trans (aA.kJ rfl)).trans (aA.kJ rfl)).trans (aA.kJ rfl)).trans (aA.kJ rfl)).trans aA.pop
theorem WA:(S.cZ l).ag=S.ag.set l (.int S.aN.length):=hx (C:=fun F:au=>F.ag=S.ag.set l (.int S.aN.length)) rfl fun _=>rfl
theorem p9:(S.cZ l).aN=S.aN:=hx (C:=fun F:au=>F.aN=S.aN) rfl fun _=>rfl
theorem qa (h:l<S.ag.length):(S.cZ l).ag[l]?=some (.int (S.aN.length:Nat)):=by rw[WA];exact List.getElem?_set_self h
theorem yh:(S.cst v).aN=S.aN:=by unfold au.cst;split <;> rfl
theorem nv (n:b9):(S.a6 n).aN.length=S.aN.length+1:=by
 cases n <;> first |exact kC |exact kC.trans (by rw[yh])
theorem yi (n:fU):(S.fV n).aN.length=S.aN.length+1:=by
 cases n <;> first |exact kC |exact kC.trans (by rw[yh])
theorem fX:(S.bg op a e).aN.length=S.aN.length+1:=kC
theorem Cv:(S.dO op v e).aN.length=S.aN.length+1:=kC.trans (by rw[yh])
end
section
set_option backward.match.sparseCases false
noncomputable def mx (ag:List V) (i:Int):V:=match ag[i.toNat]? with |some v=>v |none=>.none
noncomputable def iP (ag:List V) (v:V):V:=match v with
 |.tup [.int op,.int l]=>match mw op with
  |true=>.tup [.int op,mx ag l]
  |false=>v
 |v=>v
noncomputable def hV (ag:List V) (v:V):V:=match v with
 |.tup [.int x,.int y,.int z,d,q]=>.tup [mx ag x,mx ag y,mx ag z,d,q]
 |v=>v
noncomputable def au.dW (S:au):List V:=S.aN.map (iP S.ag)
noncomputable def op:bF→Bool
 |.fg _=>false
 |.dg b c=>op b || op c
 |.two a b=>op a&&op b
 |_=>true
noncomputable def fK:dH→Nat
 |.b7 _=>2 |.var=>2 |.mem _=>4 |.c6 _ _=>7
noncomputable def bD:bF→Nat
 |.b7 _=>2
 |.el=>2
 |.fg _=>2
 |.du _ b=>2+bD b+(op b).toNat
 |.fin t _ b=>3+fK t+bD b+(op b).toNat+1
 |.dg b c=>bD b+(op b).toNat+3+bD c+(op c).toNat
 |.two a b=>bif op a then bD a+bD b else bD a
section
variable (C K:List V)
noncomputable abbrev eW (p:Nat) (op:Int):Prop:=C[p]?=some (eO op .none)
noncomputable abbrev gg (p:Nat) (op:Int) (l:Nat):Prop:=C[p]?=some (eO op (.int l))
noncomputable abbrev nx (p:Nat) (op:Int) (v:V):Prop:=∃ i:Nat,C[p]?=some (eO op (.int i))∧K[i]?=some v
noncomputable def my (p:Nat) (n:b9):Prop:=match n with |.x=>gg C p 13 3 |n=>nx C K p 18 (.str n.s)
noncomputable def va (p:Nat) (n:fU):Prop:=match n with |.x=>gg C p 14 3 |n=>nx C K p 20 (.str n.s)
noncomputable def yj:dH→Nat→Prop
 |.b7 n,p=>va C K p n∧eW C (p+1) 6
 |.var,p=>va C K p .w∧eW C (p+1) 6
 |.mem n,p=>my C K p n∧eW C (p+1) 9∧nx C K (p+2) 24 (.str iK)∧eW C (p+3) 6
 |.c6 a b,p=>my C K p a∧my C K (p+1) b∧eW C (p+2) 81∧eW C (p+3) 10∧eW C (p+4) 10∧eW C (p+5) 26∧eW C (p+6) 6
noncomputable def At:bF→Nat→Prop
 |.b7 n,p=>my C K p n∧eW C (p+1) 6
 |.el,p=>(∃ i:Nat,gg C p 67 i)∧eW C (p+1) 6
 |.fg k,p=>nx C K p 4 (.int k)∧eW C (p+1) 66
 |.du n b,p=>my C K p n∧gg C (p+1) 59 (p+bD (.du n b))∧At b (p+2)∧(op b=true→gg C (p+2+bD b) 58 p)
 |.fin t n b,p=>my C K p n∧eW C (p+1) 76∧gg C (p+2) 77 (p+(3+fK t+bD b+(op b).toNat))∧yj C K t (p+3)∧At b (p+3+fK t)∧(op b=true→gg C (p+3+fK t+bD b) 58 (p+2))∧eW C (p+(3+fK t+bD b+(op b).toNat)) 6
 |.dg b c,p=>At b p∧(op b=true→gg C (p+bD b) 58 (p+bD (.dg b c)))∧gg C (p+bD b+(op b).toNat) 17 3∧gg C (p+bD b+(op b).toNat+1) 14 3∧eW C (p+bD b+(op b).toNat+2) 6∧At c (p+bD b+(op b).toNat+3)∧(op c=true→gg C (p+bD b+(op b).toNat+3+bD c) 58 (p+bD (.dg b c)))
 |.two a b,p=>At a p∧(op a=true→At b (p+bD a))
end
structure cS where
 i:Nat
 j:Nat
 g:Nat
 d:Int
noncomputable def cS.V (h:cS):V:=.tup [.int h.i,.int h.j,.int h.g,.int h.d,.bool false]
noncomputable def ak:bF→Nat→Int→List cS
 |.du _ b,p,d=>ak b (p+2) d
 |.fin t _ b,p,d=>ak b (p+3+fK t) (d+1)
 |.dg b c,p,d=>ak b p d++(⟨p,p+bD b,p+bD b+(op b).toNat,d⟩::ak c (p+bD b+(op b).toNat+3) d)
 |.two a b,p,d=>bif op a then ak a p d++ak b (p+bD a) d else ak a p d
 |_,_,_=>[]
section
variable {a b c:bF}{n:b9}{t:dH}{p k:Nat}{d:Int}
theorem mz:bD (.du n b)=2+bD b+(op b).toNat:=rfl
theorem mA:bD (.fin t n b)=3+fK t+bD b+(op b).toNat+1:=rfl
theorem jX:bD (.dg b c)=bD b+(op b).toNat+3+bD c+(op c).toNat:=rfl
theorem yk (h:op a=true):bD (.two a b)=bD a+bD b:=congrArg (fun q=>bif q then bD a+bD b else bD a) h
theorem yl (h:op a=false):bD (.two a b)=bD a:=congrArg (fun q=>bif q then bD a+bD b else bD a) h
theorem Ji:op (.two a b)=(op a&&op b):=rfl
theorem Cw:ak (.dg b c) p d=ak b p d++(⟨p,p+bD b,p+bD b+(op b).toNat,d⟩::ak c (p+bD b+(op b).toNat+3) d):=rfl
theorem ym (h:op a=true):ak (.two a b) p d=ak a p d++ak b (p+bD a) d:=congrArg (fun q=>bif q then ak a p d++ak b (p+bD a) d else ak a p d) h
theorem yn (h:op a=false):ak (.two a b) p d=ak a p d:=congrArg (fun q=>bif q then ak a p d++ak b (p+bD a) d else ak a p d) h
end
section
variable {A:Nat→Prop}{S aT pV F:au}{k e d:Int}{a v:V}{i l p n m:Nat}
theorem Jj {l jW:List V}(h:∃ e,jW=l++e) {i:Nat}{v:V}(q:l[i]?=some v):jW[i]?=some v:=by
 obtain ⟨e,rfl⟩:=h
 exact (List.getElem?_append_left (List.getElem?_eq_some_iff.mp q).1).trans q
theorem aA.WB (g:aA A S F):∃ e,F.aN=S.aN++e:=let ⟨e,h,_⟩:=g.aN;⟨e,h⟩
theorem WC (h:F.aN[i]?=some v):F.dW[i]?=some (iP F.ag v):=by unfold au.dW;rw[List.getElem?_map,h];rfl
theorem yo (g:aA A (S.emit k a) F):F.dW[S.aN.length]?=some (iP F.ag (eO k a)):=WC (Jj g.WB (by unfold au.emit;simp))
theorem jb (g:aA A (S.bg k .none e) F):eW F.dW S.aN.length k:=yo (aA.cI.trans g)
theorem sv {i:Int}(h:mw k=false) (g:aA A (S.bg k (.int i) e) F):F.dW[S.aN.length]?=some (eO k (.int i)):=(yo (aA.cI.trans g)).trans (by unfold iP;dsimp only;rw[h])
theorem Cx (h:mw k=true) (g:aA A (S.emit k (.int l)) F) (a4:F.ag[l]?=some (.int p)):gg F.dW S.aN.length k p:=(yo g).trans (by
 unfold iP mx;dsimp only;rw[h];dsimp only;rw[Int.toNat_natCast,a4])
theorem WD {k v:V}(aV:g9 v=true) (q:oy k v=true):k=v:=by
 have:(∃ s,v=.str s)∨∃ i,v=.int i:=by cases v <;> first |exact .inl ⟨_,rfl⟩ |exact .inr ⟨_,rfl⟩ |exact dv aV
 rcases this with ⟨s,rfl⟩ |⟨i,rfl⟩
 ·cases k <;> first |exact dv q |exact congrArg _ (d9.mp q)
 ·cases k <;> first |exact dv q |exact congrArg _ (of_decide_eq_true q)
theorem WE {v:V}(aV:g9 v=true):∀{l:List V},ku v l=true→l[ht v l]?=some v:=fun {l}=>by
 induction l with
 |nil=>exact dv
 |cons k r aI =>
  intro h
  unfold ku at h
  unfold ht
  cases q:oy k v with
  |true=>rw[WD aV q];rfl
  |false=>rw[q] at h;exact aI h
theorem WG (aV:g9 v=true):(S.cst v).con[ht v S.con]?=some v:=by
 unfold au.cst
 cases q:ku v S.con with
 |true=>exact WE aV q
 |false=>dsimp only;rw[BO q];simp
theorem yp (aV:g9 v=true) (h:mw k=false) (af:nt k=true) (g:aA A (S.dO k v e) F):nx F.dW F.con S.aN.length k v:=⟨ht v S.con,by
 have:=sv h g;rwa [yh] at this,Jj ((aA.p8 af).trans g).con (WG aV)⟩
theorem sx (n:b9) (g:aA A (S.a6 n) F):my F.dW F.con S.aN.length n:=by
 cases n with
 |x=>exact sv (i:=3) rfl g
 |_=>exact yp rfl rfl rfl g
theorem Jk (n:fU) (g:aA A (S.fV n) F):va F.dW F.con S.aN.length n:=by
 cases n with
 |x=>exact sv (i:=3) rfl g
 |_=>exact yp rfl rfl rfl g
theorem WH (t:dH) (g:aA A (S.az t) F):yj F.dW F.con t S.aN.length:=by
 cases t with
 |b7 n=>exact ⟨Jk n (aA.pop.trans g),yi (S:=S) n▸jb g⟩
 |var=>exact ⟨Jk .w (aA.pop.trans g),yi (S:=S) .w▸jb g⟩
 |mem n =>
  have g3:=aA.pop.trans g
  have g2:=(aA.dO rfl).trans g3
  have ao:=nv (S:=S.l1) n
  have aC:((S.l1.a6 n).bg 9 .none 0).aN.length=S.l1.aN.length+2:=by rw[fX,ao]
  have cL:(((S.l1.a6 n).bg 9 .none 0).dO 24 (.str iK) (-1)).aN.length=S.l1.aN.length+3:=by rw[Cv,aC]
  exact ⟨sx (S:=S.l1) n ((aA.kJ rfl).trans g2),ao▸jb g2,aC▸yp rfl rfl rfl g3,cL▸jb g⟩
 |c6 x y =>
  have mZ:=aA.pop.trans g
  have gZ:=(aA.kJ rfl).trans mZ
  have k3:=(aA.kJ rfl).trans gZ
  have g3:=(aA.kJ rfl).trans k3
  have g2:=(aA.kJ rfl).trans g3
  have ao:=nv (S:=S.l1) x
  have aC:((S.l1.a6 x).l1.a6 y).aN.length=S.l1.aN.length+2:=by rw[nv];exact congrArg (· + 1) ao
  have cL:(((S.l1.a6 x).l1.a6 y).bg 81 .none 0).aN.length=S.l1.aN.length+3:=by rw[fX,aC]
  have gH:((((S.l1.a6 x).l1.a6 y).bg 81 .none 0).bg 10 .none 0).aN.length=S.l1.aN.length+4:=by rw[fX,cL]
  have k6:(((((S.l1.a6 x).l1.a6 y).bg 81 .none 0).bg 10 .none 0).bg 10 .none 0).aN.length=S.l1.aN.length+5:=by rw[fX,gH]
  have Bs:((((((S.l1.a6 x).l1.a6 y).bg 81 .none 0).bg 10 .none 0).bg 10 .none 0).bg 26 .none (-2)).aN.length=S.l1.aN.length+6:=by rw[fX,k6]
  exact ⟨sx (S:=S.l1) x ((aA.l1.trans (aA.a6 y)).trans g2),ao▸sx (S:=(S.l1.a6 x).l1) y g2,aC▸jb g3,cL▸jb k3,gH▸jb gZ,k6▸jb mZ,Bs▸jb g⟩
theorem WI (t:dH):(S.az t).aN.length=S.aN.length+fK t:=by
 cases t with
 |b7 n=>exact fX.trans (congrArg (· + 1) (yi n))
 |var=>exact fX.trans (congrArg (· + 1) (yi .w))
 |mem n=>exact fX.trans (congrArg (· + 1) (Cv.trans (congrArg (· + 1) (fX.trans (congrArg (· + 1) (nv (S:=S.l1) n))))))
 |c6 x y=>exact fX.trans (congrArg (· + 1) (fX.trans (congrArg (· + 1) (fX.trans (congrArg (· + 1) (fX.trans (congrArg (· + 1) (fX.trans (congrArg (· + 1) ((nv (S:=(S.l1.a6 x).l1) y).trans (congrArg (· + 1) (nv (S:=S.l1) x))))))))))))
end
end
noncomputable abbrev No:Nat→Prop:=fun _=>False
noncomputable abbrev vb:Nat→Prop:=fun _=>True
noncomputable def ny (q:Bool) (d:Int):V:=match q with |true=>.int d |false=>.none
structure oN (t:bF) (S:au) (d:Int):Prop where
 eV:aA No S (comp t S)
 len:(comp t S).aN.length=S.aN.length+bD t
 dep:(comp t S).dep=ny (op t) d
 at_:∀ F,aA vb (comp t S) F→At F.dW F.con t S.aN.length
 bH:∀ F,aA vb (comp t S) F→(comp t S).bH.map (hV F.ag)=S.bH.map (hV F.ag)++(ak t S.aN.length d).map cS.V
section
variable {A:Nat→Prop}{S aT pV F:au}{k e d:Int}{a v:V}{i l p n m:Nat}{q:Bool}
theorem aA.all (g:aA A S aT):aA vb S aT:=g.close fun _ _=>.inl trivial
theorem aA.yq (g:aA No S aT):aA A S aT:=g.close fun _ q=>q.elim
theorem yr (h:S.dep=ny q d):(S.jmp l).aN.length=S.aN.length+q.toNat:=by
 cases q with
 |true=>rw[pU h];exact kC
 |false=>rw[r7 h];rfl
theorem yt (h:S.dep=ny q d) (g:aA vb (S.jmp l) F) (a4:F.ag[l]?=some (.int p)) (dk:q=true):gg F.dW S.aN.length 58 p:=by
 subst dk
 rw[pU h] at g
 exact Cx (S:=S.meet l d) rfl (aA.cI.trans g) a4
theorem yu (h:S.dep=ny q d):S.dep=.int d∨S.dep=.none:=by cases q;exact .inr h;exact .inl h
theorem yv:(S.jmp l).bH=S.bH:=hx (C:=fun F:au=>F.bH=S.bH) rfl fun _=>rfl
theorem WJ:(S.iN l).bH=S.bH:=hx (C:=fun F:au=>F.bH=S.bH) rfl fun _=>rfl
theorem WK:(S.hv l).bH=S.bH:=hx (C:=fun F:au=>F.bH=S.bH) rfl fun _=>rfl
theorem qb:(S.cZ l).bH=S.bH:=hx (C:=fun F:au=>F.bH=S.bH) rfl fun _=>rfl
theorem yw:(S.cst v).bH=S.bH:=by unfold au.cst;split <;> rfl
theorem sy (n:b9):(S.a6 n).bH=S.bH:=by cases n <;> first |rfl |exact yw
theorem Jl (n:fU):(S.fV n).bH=S.bH:=by cases n <;> first |rfl |exact yw
theorem WL (t:dH):(S.az t).bH=S.bH:=by
 cases t with
 |b7 n=>exact Jl n
 |var=>exact Jl .w
 |mem n=>exact (yw (S:=(S.l1.a6 n).bg 9 .none 0)).trans (sy n)
 |c6 a b=>exact (sy (S:=(S.l1.a6 a).l1) b).trans (sy a)
theorem aA.c0 (g:aA A S aT) (h:S.ag[l]?=some (.int p)):aT.ag[l]?=some (.int p):=g.put l p h
theorem WM (nm:b9) (b:bF) (hd:S.dep=.int d) (he:S.bB.length=S.ag.length) (i:oN b (fw S nm) d):oN (.du nm b) S d:=by
 obtain ⟨aG,a3,c4,dQ,eC,hF⟩:=oC S.l1 he
 obtain ⟨w,s0⟩:=xV nm hd he
 obtain ⟨dM,ew,kR⟩:=w.keep (gL b (fw S nm) d w.dep (s0.len he)).st
 let B:=comp b (fw S nm)
 let W:=(S.l1.ay.ay).l1.cZ (S.ag.length+1)
 let eH:Nat→Prop:=fun l=>l=S.ag.length∨l=S.ag.length+1
 have hn:W.dep=.int d:=by show (au.cZ _ _).dep=_;rw[fI (S:=(S.l1.ay.ay).l1) hd];exact hd
 have aC:(W.l1.a6 nm).dep=.int (d+1):=by rw[hS];show b4 W.dep 1=_;rw[hn];rfl
 have WN:aA eH S W:=(((aA.l1.trans aA.ay).trans aA.ay).trans aA.l1).trans (aA.cZ a3)
 have WO:aA eH (W.l1.a6 nm) (fw S nm):=aA.iN (.inl rfl)
 have Jm:aA eH W (W.l1.a6 nm):=aA.l1.trans (aA.a6 nm)
 have Jn:aA eH (fw S nm) B:=i.eV.yq
 have yx:aA eH B (B.jmp (S.ag.length+1)):=aA.jmp (.inr rfl)
 have bt:(B.jmp (S.ag.length+1)).ag[S.ag.length]?=some (.int (-1)):=by rw[oB];exact dM
 have vc:aA eH (B.jmp (S.ag.length+1)) (me S B):=aA.cZ bt
 have Jo:W.aN=S.aN:=p9 (S:=(S.l1.ay.ay).l1)
 have Jp:(W.l1.a6 nm).aN.length=S.aN.length+1:=by rw[nv];show W.aN.length+1=_;rw[Jo]
 have yy:(fw S nm).aN.length=S.aN.length+2:=by
  show ((W.l1.a6 nm).iN _).aN.length=_
  rw[uN aC];exact kC.trans (congrArg (· + 1) Jp)
 have Jq:(B.jmp (S.ag.length+1)).aN.length=S.aN.length+bD (.du nm b):=by
  rw[yr i.dep,i.len,yy];simp only[mz,mA,jX];omega
 have yz:W.ag[S.ag.length+1]?=some (.int (S.aN.length:Nat)):=by
  have:=qa (S:=(S.l1.ay.ay).l1) (l:=S.ag.length+1) (by show _<(S.l1.ay.ay).ag.length;rw[eC];exact Nat.lt_succ_self _)
  exact this
 have vd:(me S B).ag[S.ag.length]?=some (.int (S.aN.length+bD (.du nm b):Nat)):=by
  rw[←Jq];exact qa (List.getElem?_eq_some_iff.mp bt).1
 have yA:=((WO.trans Jn).trans yx).trans vc
 have Jr:=(Jm.trans yA).c0 yz
 refine ⟨((WN.trans Jm).trans yA).close ?_,?_,?_,fun F g=>?_,fun F g=>?_⟩
 ·rintro l (rfl |rfl)
  ·exact .inr ⟨_,vd⟩
  ·exact .inr ⟨_,Jr⟩
 ·show (me S B).aN.length=_
  exact (congrArg List.length p9).trans Jq
 ·show (me S B).dep=_
  unfold me
  rw[la (kB (yu i.dep)) ((r8 (by omega)).trans ew)];rfl
 ·have h1:=sx (S:=W.l1) nm (yA.all.trans g)
  have af:=yA.all.trans g
  have aB:gg F.dW (W.l1.a6 nm).aN.length 59 (S.aN.length+bD (.du nm b)):=by
   have ct:aA vb (fw S nm) F:=((Jn.trans yx).trans vc).all.trans g
   have:fw S nm=_:=uN aC
   rw[this] at ct
   exact Cx (S:=(W.l1.a6 nm).meet _ _) rfl (aA.cI.trans ct) (g.c0 vd)
  have bu:=i.at_ F (((yx.trans vc).all).trans g)
  have dC:=yt i.dep (vc.all.trans g) (g.c0 Jr)
  rw[i.len,yy] at dC
  rw[yy] at bu
  rw[Jp] at aB
  have WQ:W.l1.aN.length=S.aN.length:=congrArg List.length Jo
  rw[WQ] at h1
  exact ⟨h1,aB,bu,dC⟩
 ·have:=i.bH F (((yx.trans vc).all).trans g)
  rw[yy] at this
  have dn:(fw S nm).bH=S.bH:=WJ.trans ((sy nm).trans (qb (S:=(S.l1.ay.ay).l1)))
  have ao:(me S B).bH=B.bH:=qb.trans yv
  show (me S B).bH.map _=_
  rw[ao,this,dn];rfl
end
section
variable {A:Nat→Prop}{S aT pV F:au}{k e d:Int}{a v:V}{i l p n m:Nat}{q:Bool}
theorem WR (t:dH) (nm:b9) (b:bF) (hd:S.dep=.int d) (he:S.bB.length=S.ag.length) (i:oN b (fh S t nm) (d+1)):oN (.fin t nm b) S d:=by
 obtain ⟨aG,a3,c4,dQ,eC,hF⟩:=oC S.l1 he
 obtain ⟨w,s0⟩:=xW t nm hd he
 obtain ⟨dM,ew,kR⟩:=w.keep (gL b (fh S t nm) (d+1) w.dep (s0.len he)).st
 let sz:=(S.l1.ay.ay).l1.l1.a6 nm
 let kE:=sz.bg 76 .none 0
 let oO:=kE.cZ (S.ag.length+1)
 let ve:=oO.hv S.ag.length
 let B:=comp b (fh S t nm)
 let J:=B.jmp (S.ag.length+1)
 let K:=J.cZ S.ag.length
 let eH:Nat→Prop:=fun l=>l=S.ag.length∨l=S.ag.length+1
 have ig:kE.dep=.int (d+1+0):=by
  show b4 sz.dep 0=_
  rw[hS];show b4 (b4 S.dep 1) 0=_;rw[hd];rfl
 have kz:oO.dep=.int (d+1+0):=by show (au.cZ _ _).dep=_;rw[fI ig];exact ig
 have gc:kE.ag=(S.l1.ay.ay).ag:=(jR (S:=(S.l1.ay.ay).l1.l1) nm).1
 have i6:aA eH S (S.l1.ay.ay).l1.l1:=(((aA.l1.trans aA.ay).trans aA.ay).trans aA.l1).trans aA.l1
 have g1:aA eH (S.l1.ay.ay).l1.l1 sz:=aA.a6 nm
 have g2:aA eH sz kE:=aA.kJ rfl
 have g3:aA eH kE oO:=aA.cZ (gc▸a3)
 have k3:aA eH oO ve:=aA.hv (.inl rfl)
 have gZ:aA eH ve (fh S t nm):=aA.az t
 have mZ:aA eH (fh S t nm) B:=i.eV.yq
 have Cy:aA eH B J:=aA.jmp (.inr rfl)
 have bt:J.ag[S.ag.length]?=some (.int (-1)):=by show (au.jmp _ _).ag[_]?=_;rw[oB];exact dM
 have Cz:aA eH J K:=aA.cZ bt
 have CA:aA eH K (r4 S B):=aA.pop
 have og:=CA
 have m4:=Cz.trans og
 have eT:=Cy.trans m4
 have eF:=mZ.trans eT
 have dC:=gZ.trans eF
 have bu:=k3.trans dC
 have aB:=g3.trans bu
 have af:=g2.trans aB
 have h1:=g1.trans af
 have ou:sz.aN.length=S.aN.length+1:=nv (S:=(S.l1.ay.ay).l1.l1) nm
 have l1:kE.aN.length=S.aN.length+2:=fX.trans (congrArg (· + 1) ou)
 have l2:oO.aN.length=S.aN.length+2:=(congrArg List.length p9).trans l1
 have oP:ve.aN.length=S.aN.length+3:=by
  show (au.hv _ _).aN.length=_
  rw[r6 kz];exact kC.trans (congrArg (· + 1) l2)
 have lp:(fh S t nm).aN.length=S.aN.length+3+fK t:=(WI t).trans (congrArg (· + fK t) oP)
 have oE:J.aN.length=S.aN.length+(3+fK t+bD b+(op b).toNat):=by
  show (au.jmp _ _).aN.length=_
  rw[yr i.dep,i.len,lp];omega
 have mf:K.aN.length=S.aN.length+(3+fK t+bD b+(op b).toNat):=(congrArg List.length p9).trans oE
 have yz:oO.ag[S.ag.length+1]?=some (.int (S.aN.length+2:Nat)):=by
  rw[←l1];exact qa (by rw[gc,eC];exact Nat.lt_succ_self _)
 have vd:K.ag[S.ag.length]?=some (.int (S.aN.length+(3+fK t+bD b+(op b).toNat):Nat)):=by
  rw[←oE];exact qa (List.getElem?_eq_some_iff.mp bt).1
 refine ⟨(i6.trans h1).close ?_,?_,?_,fun F g=>?_,fun F g=>?_⟩
 ·rintro l (rfl |rfl)
  ·exact .inr ⟨_,og.c0 vd⟩
  ·exact .inr ⟨_,bu.c0 yz⟩
 ·show K.pop.aN.length=_
  rw[show K.pop.aN.length=K.aN.length+1 from fX,mf];simp only[mz,mA,jX];omega
 ·show b4 K.dep (-1)=_
  rw[show K=_ from la (kB (yu i.dep)) ((r8 (by omega)).trans ew)]
  show b4 (V.int (d+1)) (-1)=V.int d
  simp only[i9];congr 1;omega
 ·have aS:=sx (S:=(S.l1.ay.ay).l1.l1) nm (af.all.trans g)
  have bf:eW F.dW sz.aN.length 76:=jb (aB.all.trans g)
  have dU:gg F.dW oO.aN.length 77 (S.aN.length+(3+fK t+bD b+(op b).toNat)):=by
   have h:=dC.all.trans g
   rw[show ve=_ from r6 kz] at h
   exact Cx (S:=oO.meet _ _) rfl (aA.cI.trans h) (g.c0 (og.c0 vd))
  have ea:yj F.dW F.con t ve.aN.length:=WH t (eF.all.trans g)
  have km:=i.at_ F (eT.all.trans g)
  have rF:=yt i.dep (m4.all.trans g) (g.c0 (bu.c0 yz))
  have xB:eW F.dW K.aN.length 6:=jb g
  rw[ou] at bf
  rw[l2] at dU
  rw[oP] at ea
  rw[lp] at km
  rw[i.len,lp] at rF
  rw[mf] at xB
  exact ⟨aS,bf,dU,ea,km,rF,xB⟩
 ·have:=i.bH F (eT.all.trans g)
  rw[lp] at this
  have dn:(fh S t nm).bH=S.bH:=(WL t).trans (WK.trans (qb.trans (sy (S:=(S.l1.ay.ay).l1.l1) nm)))
  have ao:(r4 S B).bH=B.bH:=(qb (S:=J)).trans yv
  show (r4 S B).bH.map _=_
  rw[ao,this,dn];rfl
theorem WS (b c:bF) (hd:S.dep=.int d) (he:S.bB.length=S.ag.length) (i:oN b (cF S) d) (j:oN c (gy S (comp b (cF S))) d):oN (.dg b c) S d:=by
 obtain ⟨aG,a3,c4,dQ,eC,hF⟩:=oC S.l1 he
 obtain ⟨w,s0,aS,bf⟩:=xX hd he
 have ci:=gL b (cF S) d w.dep (s0.len he)
 have o:=ci.st.old S.ag.length (by rw[bf];omega)
 let N:=S.l1.ay.ay
 let B:=comp b (cF S)
 let M:=B.mark
 let J:=M.jmp S.ag.length
 let H:=J.ay.fH (S.ag.length+2) B.ag.length J.ag.length S.gx
 let E:=H.enter J.ag.length (S.gx+1)
 let sA:=E.bg 17 (.int 3) 0
 let yB:=sA.bg 14 (.int 3) 0
 let qc:=gy S B
 let C:=comp c qc
 let K:=C.jmp S.ag.length
 have lJ:B.bB.length=B.ag.length:=ci.st.len (s0.len he)
 have qd:S.ag.length<B.ag.length:=Nat.lt_of_lt_of_le w.len ci.st.eV
 obtain ⟨B0,lY⟩:=BZ qd lJ
 have lb:M.dep=ny (op b) d:=(BY (yu i.dep) lJ).trans i.dep
 obtain ⟨w',s2⟩:=xY hd lJ ci.dep qd (o.1.trans w.ao) (o.2.trans aS)
 have WT:=gL c qc d w'.dep (s2.len lJ)
 have o':=WT.st.old S.ag.length w'.len
 have kr:=av.mark (n:=S.ag.length) (Nat.le_of_lt qd) lJ
 have Js:S.ag.length<M.ag.length:=Nat.lt_of_lt_of_le qd kr.eV
 have ZM:S.ag.length<J.ag.length:=by show _<(au.jmp _ _).ag.length;rw[oB];exact Js
 have WU:S.ag.length<M.bB.length:=by rw[kr.len lJ];exact Js
 have Jt:J.bB[S.ag.length]?=some (ny (op b) d):=by
  cases bt:op b with
  |true=>rw[bt] at lb;show (au.jmp _ _).bB[_]?=_;rw[pU lb];exact oD WU
  |false=>rw[bt] at lb;show (au.jmp _ _).bB[_]?=_;rw[r7 lb];exact lY.trans (o.2.trans aS)
 have WV:qc.bB[S.ag.length]?=some (ny (op b) d):=by
  show ((J.bB++[V.none]).set J.ag.length _)[S.ag.length]?=_
  rw[List.getElem?_set_ne (by omega),List.getElem?_append_left (List.getElem?_eq_some_iff.mp Jt).1];exact Jt
 have gx:S.gx=d:=by unfold au.gx;rw[hd]
 let eH:Nat→Prop:=fun l=>l=S.ag.length∨l=J.ag.length
 have WW:N.ag.length=S.ag.length+2:=eC
 have ps:(cF S).ag[S.ag.length+2]?=some (.int (S.aN.length:Nat)):=by
  have h:(cF S).ag[N.ag.length]?=some (.int (S.aN.length:Nat)):=qa (S:=N.ay) (l:=N.ag.length) (by rw[kA N];exact Nat.lt_succ_self _)
  rwa [WW] at h
 have pm:M.ag[B.ag.length]?=some (.int (B.aN.length:Nat)):=qa (S:=B.ay) (by rw[kA];exact Nat.lt_succ_self _)
 have i6:aA eH S (cF S):=((aA.l1.trans aA.ay).trans aA.ay).trans aA.mark
 have g1:aA eH (cF S) B:=i.eV.yq
 have g2:aA eH B M:=aA.mark
 have g3:aA eH M J:=aA.jmp (.inl rfl)
 have k3:aA eH J J.ay:=aA.ay
 have Ju:=((g1.trans g2).trans g3).c0 ps
 have Jv:=g3.c0 pm
 have gZ:aA eH J.ay H:=aA.fH (.inr ⟨_,k3.c0 Ju⟩) (.inr ⟨_,k3.c0 Jv⟩) (.inl (.inr rfl))
 have dK:H.ag[J.ag.length]?=some (.int (-1)):=uH J
 have mZ:aA eH H E:=aA.enter dK
 have Jw:E.ag[J.ag.length]?=some (.int (J.aN.length:Nat)):=List.getElem?_set_self (List.getElem?_eq_some_iff.mp dK).1
 have Cy:aA eH E sA:=aA.p8 rfl
 have Cz:aA eH sA yB:=aA.p8 rfl
 have CA:aA eH yB qc:=aA.pop
 have WX:aA eH qc C:=j.eV.yq
 have WY:aA eH C K:=aA.jmp (.inl rfl)
 have bZ:K.ag[S.ag.length]?=some (.int (-1)):=by show (au.jmp _ _).ag[_]?=_;rw[oB];exact o'.1.trans w'.ao
 have Jx:aA eH K (oA S C):=aA.cZ bZ
 have CB:=WY.trans Jx
 have Jy:=WX.trans CB
 have og:=CA.trans Jy
 have m4:=Cz.trans og
 have eT:=Cy.trans m4
 have eF:=mZ.trans eT
 have bu:=(k3.trans gZ).trans eF
 have aB:=g3.trans bu
 have af:=g2.trans aB
 have h1:=g1.trans af
 have ou:(cF S).aN.length=S.aN.length:=congrArg List.length (p9 (S:=N.ay))
 have l1:B.aN.length=S.aN.length+bD b:=i.len.trans (congrArg (· + bD b) ou)
 have l2:M.aN.length=S.aN.length+bD b:=(congrArg List.length (p9 (S:=B.ay))).trans l1
 have oP:J.aN.length=S.aN.length+bD b+(op b).toNat:=(yr lb).trans (congrArg (· + (op b).toNat) l2)
 have lp:sA.aN.length=S.aN.length+bD b+(op b).toNat+1:=fX.trans (congrArg (· + 1) oP)
 have oE:yB.aN.length=S.aN.length+bD b+(op b).toNat+2:=fX.trans (congrArg (· + 1) lp)
 have mf:qc.aN.length=S.aN.length+bD b+(op b).toNat+3:=fX.trans (congrArg (· + 1) oE)
 have Jz:K.aN.length=S.aN.length+bD (.dg b c):=by
  show (au.jmp _ _).aN.length=_
  rw[yr j.dep,j.len,mf];simp only[mz,mA,jX];omega
 have sC:(oA S C).ag[S.ag.length]?=some (.int (S.aN.length+bD (.dg b c):Nat)):=by
  rw[←Jz];exact qa (List.getElem?_eq_some_iff.mp bZ).1
 refine ⟨(i6.trans h1).close ?_,(congrArg List.length p9).trans Jz,?_,fun F g=>?_,fun F g=>?_⟩
 ·rintro l (rfl |rfl)
  ·exact .inr ⟨_,sC⟩
  ·exact .inr ⟨_,eT.c0 Jw⟩
 ·show (au.cZ K _).dep=_
  have kd:K.bB[S.ag.length]?=some (ny (op b || op c) d):=by
   have yC:=j.dep
   have cd:C.bB[S.ag.length]?=some (ny (op b) d):=o'.2.trans WV
   cases aw:op c with
   |true=>rw[aw] at yC;show (au.jmp _ _).bB[_]?=_;rw[pU yC,Bool.or_true];exact oD (List.getElem?_eq_some_iff.mp cd).1
   |false=>rw[aw] at yC;show (au.jmp _ _).bB[_]?=_;rw[r7 yC,Bool.or_false];exact cd
  rw[la (kB (yu j.dep)) kd];rfl
 ·have dc:=i.at_ F (af.all.trans g)
  have cH:=yt lb (bu.all.trans g) (g.c0 sC)
  have i2:F.dW[E.aN.length]?=some (eO 17 (.int 3)):=sv (S:=E) rfl (m4.all.trans g)
  have m1:F.dW[sA.aN.length]?=some (eO 14 (.int 3)):=sv (S:=sA) rfl (og.all.trans g)
  have uS:eW F.dW yB.aN.length 6:=jb (Jy.all.trans g)
  have uT:=j.at_ F (CB.all.trans g)
  have uU:=yt j.dep (Jx.all.trans g) (g.c0 sC)
  rw[ou] at dc
  rw[l2] at cH
  rw[show E.aN.length=_ from oP] at i2
  rw[lp] at m1
  rw[oE] at uS
  rw[mf] at uT
  rw[j.len,mf] at uU
  exact ⟨dc,cH,i2,m1,uS,uT,uU⟩
 ·have dc:=i.bH F (af.all.trans g)
  have cH:=j.bH F (CB.all.trans g)
  have ao:qc.bH=B.bH++[.tup [.int (S.ag.length+2:Nat),.int (B.ag.length:Nat),.int (J.ag.length:Nat),.int S.gx,.bool false]]:=by
   show J.bH++_=_
   rw[show J.bH=B.bH from yv.trans (qb (S:=B.ay))]
  have aC:hV F.ag (.tup [.int (S.ag.length+2:Nat),.int (B.ag.length:Nat),.int (J.ag.length:Nat),.int S.gx,.bool false])=cS.V ⟨S.aN.length,S.aN.length+bD b,S.aN.length+bD b+(op b).toNat,d⟩:=by
   unfold hV mx cS.V
   dsimp only
   rw[Int.toNat_natCast,Int.toNat_natCast,Int.toNat_natCast,g.c0 (bu.c0 Ju),g.c0 (bu.c0 Jv),g.c0 (eT.c0 Jw),gx,l1,oP]
  rw[ou] at dc
  rw[mf,ao,List.map_append,List.map_cons,List.map_nil,dc,aC] at cH
  show (oA S C).bH.map _=_
  rw[show (oA S C).bH=C.bH from qb.trans yv,cH,show (cF S).bH=S.bH from qb (S:=N.ay)]
  simp only[Cw,List.map_append,List.map_cons,List.append_assoc,List.cons_append,List.nil_append]
end
section
variable {S F:au}{d:Int}
theorem qe:∀(t:bF) (S:au) (d:Int),S.dep=.int d→S.bB.length=S.ag.length→oN t S d
 |.b7 n,S,d,hd,he=>by
  have l1:(S.l1.l1.a6 n).aN.length=S.aN.length+1:=nv (S:=S.l1.l1) n
  refine ⟨(aA.l1.trans (aA.l1.trans (aA.a6 n))).trans aA.pop,fX.trans (congrArg (· + 1) l1),?_,fun F g=>⟨sx (S:=S.l1.l1) n (aA.pop.trans g),l1▸jb g⟩,fun F g=>?_⟩
  ·show b4 (S.l1.l1.a6 n).dep (-1)=_
   rw[hS];show b4 (b4 S.dep 1) (-1)=V.int d;rw[hd];simp only[i9];congr 1;omega
  ·exact (congrArg _ (sy (S:=S.l1.l1) n)).trans (List.append_nil _).symm
 |.el,S,d,hd,he=>by
  refine ⟨(((aA.l1.trans aA.l1).trans (aA.unit rfl)).trans (aA.p8 (i:=(S.d1.length:Nat)) rfl)).trans aA.pop,fX.trans (congrArg (· + 1) fX),?_,fun F g=>⟨⟨S.d1.length,sv (S:=S.l1.l1.unit mc) rfl (aA.pop.trans g)⟩,?_⟩,fun F g=>(List.append_nil _).symm⟩
  ·show b4 (b4 S.dep 1) (-1)=V.int d;rw[hd];simp only[i9];congr 1;omega
  ·have:=jb g
   rwa [fX] at this
 |.fg k,S,d,hd,he=>by
  have l1:(S.l1.l1.dO 4 (.int k) 1).aN.length=S.aN.length+1:=Cv (S:=S.l1.l1)
  refine ⟨(((aA.l1.trans aA.l1).trans (aA.dO rfl)).trans (aA.emit (.o rfl))).trans aA.cI,kC.trans (congrArg (· + 1) l1),rfl,fun F g=>⟨yp (S:=S.l1.l1) rfl rfl rfl (((aA.emit (.o rfl)).trans aA.cI).trans g),?_⟩,fun F g=>?_⟩
  ·have:eW F.dW _ 66:=yo (aA.cI.trans g)
   rwa [l1] at this
  ·exact (congrArg _ (yw (S:=S.l1.l1))).trans (List.append_nil _).symm
 |.du n b,S,d,hd,he=>let ⟨w,s⟩:=xV n hd he;WM n b hd he (qe b _ d w.dep (s.len he))
 |.fin t n b,S,d,hd,he=>let ⟨w,s⟩:=xW t n hd he;WR t n b hd he (qe b _ (d+1) w.dep (s.len he))
 |.dg b c,S,d,hd,he=>by
  obtain ⟨w,s0,aS,bf⟩:=xX hd he
  have ci:=gL b (cF S) d w.dep (s0.len he)
  have o:=ci.st.old S.ag.length (by rw[bf];omega)
  obtain ⟨w',s2⟩:=xY hd (ci.st.len (s0.len he)) ci.dep (Nat.lt_of_lt_of_le w.len ci.st.eV) (o.1.trans w.ao) (o.2.trans aS)
  exact WS b c hd he (qe b _ d w.dep (s0.len he)) (qe c _ d w'.dep (s2.len (ci.st.len (s0.len he))))
 |.two a b,S,d,hd,he=>by
  have i:=qe a S d hd he
  have dn:comp (.two a b) S=match (comp a S).md with |true=>comp b (comp a S) |false=>comp a S:=rfl
  cases b2:op a with
  |true =>
   have qf:=i.dep
   rw[b2] at qf
   have j:=qe b (comp a S) d qf ((gL a S d hd he).st.len he)
   have e:comp (.two a b) S=comp b (comp a S):=by rw[dn,B1 qf]
   refine ⟨e▸i.eV.trans j.eV,?_,?_,fun F g=>?_,fun F g=>?_⟩
   ·rw[e,j.len,i.len,yk b2];omega
   ·rw[e,j.dep];simp only[Ji,b2,Bool.true_and]
   ·rw[e] at g
    have af:=j.at_ F g
    rw[i.len] at af
    exact ⟨i.at_ F (j.eV.all.trans g),fun _=>af⟩
   ·rw[e] at g ⊢
    have af:=j.bH F g
    rw[i.len,i.bH F (j.eV.all.trans g)] at af
    rw[af];simp only[ym b2,List.map_append,List.append_assoc]
  |false =>
   have qf:=i.dep
   rw[b2] at qf
   have e:comp (.two a b) S=comp a S:=by rw[dn,B2 qf]
   refine ⟨e▸i.eV,?_,?_,fun F g=>?_,fun F g=>?_⟩
   ·rw[e,i.len,yl b2]
   ·rw[e,qf];simp only[Ji,b2,Bool.false_and]
   ·rw[e] at g
    exact ⟨i.at_ F g,fun q=>absurd (b2.symm.trans q) Bool.noConfusion⟩
   ·rw[e] at g ⊢
    rw[i.bH F g];rw[yn b2]
structure Top (t:bF) (F:au):Prop where
 at_:At F.dW F.con t 0
 len:F.dW.length=bD t
 bH:F.bH.map (hV F.ag)=(ak t 0 0).map cS.V
 gh:∀ v∈F.aN,il No F.ag v
 aV:∀ v∈F.bH,p7 No F.ag v
 sr:F.fv.all isA=true∧F.d1.all isA=true
theorem JA (t:bF):Top t (comp t hh):=by
 have c:=qe t hh 0 rfl rfl
 obtain ⟨e,h1,af⟩:=c.eV.aN
 obtain ⟨c9,aB,bu⟩:=c.eV.bH
 exact ⟨c.at_ _ aA.refl,(List.length_map ..).trans (c.len.trans (Nat.zero_add _)),c.bH _ aA.refl,h1▸af,aB▸bu,c.eV.sr ⟨rfl,rfl⟩⟩
end
section
set_option backward.match.sparseCases false
noncomputable abbrev jc:Str:=⟨⟨[102,111,117,110,100]⟩⟩
noncomputable abbrev qg:Str:=⟨⟨[112,99]⟩⟩
noncomputable abbrev JB:Str:=⟨⟨[111,112]⟩⟩
noncomputable abbrev JC:Str:=⟨⟨[97,114,103]⟩⟩
noncomputable abbrev JD:Str:=⟨⟨[97,112,112,101,110,100]⟩⟩
noncomputable abbrev nz (ls:List (Str×V)):a5:=⟨tc.scope,[],none,ls⟩
noncomputable def WZ:PySem.Expr→PySem.Expr
 |.IfExp t _ _ _=>t
 |_=>default
noncomputable def yD (l:List Stmt):PySem.Expr:=WZ (rT (m9 (eJ (bQ l 0))) 0)
section
variable {P:Pre}{F:au}{T H:List aj}{pre:List V}{L r l p d:Nat}{v u x:V}{vs:List V}{op:Int}{ls:List (Str×V)}
theorem qh (h:H[r]?=some (.list vs)):kf (.ref r) JD ⟨H,True⟩=some (.obj (.builtin "list.append"),[.ref r]):=by
 exact (l9 (congrArg lT h)).trans ((bj (congrArg dA h)).trans rfl)
theorem qd {H:List aj}:dY .Lt (.int (p:Nat)) (.int 0) ⟨H,True⟩=some (false,⟨H,True⟩):=by
 exact xE (decide_eq_false (Int.not_lt.mpr (Int.natCast_nonneg p)))
theorem JE (h:F.ag[l]?=some (.int (p:Nat))):aq 3 (.obj (.ref 283)) [.ref 12,.int (l:Nat),v] (mk P F T) (.int (p:Nat)) (mk P F T) :=
 aq.hQ (a:=283) (fi:=⟨vT,[bk,⟨⟨[108,97,98,101,108]⟩⟩,qg],[],D6.1,none,false⟩) (vs:=[.ref 12,.int (l:Nat),v]) (cN:=[(bk,.ref 12),(⟨⟨[108,97,98,101,108]⟩⟩,.int (l:Nat)),(qg,v)]) (by kernel_rfl) rfl (by kernel_rfl) rfl (by kernel_rfl) <|
  ab.cons (ah.iff (GT.cmp (ai.sub I I (mb xH h)) (b:=.int 0) I qd) ab.nil) <|
  ab.ret (ah.ret (ai.sub I I (mb xH h)))
noncomputable def JF (Q:Int→Prop):List Int→Prop
 |[]=>True
 |x::r=>Q x∧JF Q r
theorem CC {Q:Int→Prop}{x:Int}:∀{l:List Int},x∈l→JF Q l→Q x
 |y::r,m,a=>by
  cases m with
  |head=>exact a.1
  |tail _ m=>exact CC m a.2
theorem JG {Q:Int→Prop}(h:nt op=true) (a:Q 4∧Q 6∧Q 9∧Q 10∧Q 13∧Q 14∧Q 17∧Q 18∧Q 20∧Q 24∧Q 26∧Q 66∧Q 67∧Q 76∧Q 81∧True):Q op:=CC (List.contains_iff_mem.mp h) a
theorem W0 {Q:Int→Prop}(h:mw op=true) (a:Q 58∧Q 59∧Q 77∧True):Q op:=CC (List.contains_iff_mem.mp h) a
noncomputable abbrev lr (L:Nat) (k:Int) (op:Int) (a:V):List (Str×V):=[(bk,.ref 12),(jc,.ref L),(qg,.int k),(JB,.int op),(JC,a)]
theorem JH {k:Int}(h:nt op=true):GT 5 (nz (lr L k op v)) (yD (d2 (j9.1.drop 1))) H false H :=
 JG (Q:=fun op=>GT 5 (nz (lr L k op v)) (yD (d2 (j9.1.drop 1))) H false H) h ⟨I,I,I,I,I,I,I,I,I,I,I,I,I,I,I,trivial⟩
theorem W2 {k:Int}(h:mw op=true):GT 5 (nz (lr L k op v)) (yD (d2 (j9.1.drop 1))) H true H :=
 W0 (Q:=fun op=>GT 5 (nz (lr L k op v)) (yD (d2 (j9.1.drop 1))) H true H) h ⟨I,I,I,trivial⟩
theorem JI (h:nt op=true):mw op=false:=JG (Q:=fun op=>mw op=false) h ⟨rfl,rfl,rfl,rfl,rfl,rfl,rfl,rfl,rfl,rfl,rfl,rfl,rfl,rfl,rfl,trivial⟩
theorem JJ {ag:List V}(h:mw op=false):iP ag (eO op v)=eO op v:=by
 cases v <;> first |rfl |(unfold iP;dsimp only;rw[h])
theorem W3 {k:Int}(aV:il No F.ag (eO op v)) (ak:vs.length<aL):ab 6 (nz (lr (mk P F T).length k op v)) (d2 (j9.1.drop 1)) (mk P F T++[.list vs]) .next (lr (mk P F T).length k op v) (mk P F T++[.list (vs++[iP F.ag (eO op v)])]):=by
 have main:∀ u,ai 6 (nz (lr (mk P F T).length k op v)) (rT (m9 (eJ (bQ (d2 (j9.1.drop 1)) 0))) 0) (mk P F T++[.list vs]) u (mk P F T++[.list vs])→ab 6 (nz (lr (mk P F T).length k op v)) (d2 (j9.1.drop 1)) (mk P F T++[.list vs]) .next (lr (mk P F T).length k op v) (mk P F T++[.list (vs++[u])]):=fun u g=>by
  have a:=aq.app (x:=u) (fe (H:=mk P F T) (x:=.list vs)) ak
  rw[rX] at a
  exact ab.one (ah.expr (ai.a0 (v:=.ref (mk P F T).length) (first:=[.ref (mk P F T).length]) (vs:=[u]) I (qh fe) (GE.cons g GE.nil) (a.mono (by decide))))
 cases aV with
 |o h=>exact main _ (ai.iff ((JH h).mono (by decide)) I)
 |i h=>rw[JJ (JI h)];exact main _ (ai.iff ((JH h).mono (by decide)) I)
 | @j op l h a4 =>
  obtain ⟨p,a4⟩:=a4.resolve_left id
  have e:iP F.ag (eO op (.int l))=eO op (.int p):=by unfold iP mx;dsimp only;rw[h];dsimp only;rw[Int.toNat_natCast,a4]
  rw[e]
  exact main _ (ai.cm ((W2 h).mono (by decide)) (ai.tup (GE.cons I (GE.cons (ai.a0 (v:=.ref 12) (first:=[.ref 12]) (vs:=[.int l,.int k]) I rfl I ((JE (T:=T++[.list vs]) a4).mono (by decide))) GE.nil))))
end
end
section
variable {P:Pre}{F:au}{T H:List aj}{pre:List V}{L r l p d:Nat}{v u x:V}{vs:List V}{op:Int}{ls:List (Str×V)}
noncomputable def CD (L:Nat) (ls:List (Str×V)):Prop:=ls=[(bk,.ref 12),(jc,.ref L)]∨∃ a b c,ls=[(bk,.ref 12),(jc,.ref L),(qg,a),(JB,b),(JC,c)]
theorem W4 {k:Int}(h:CD L ls):bq 6 (nz ls) (ha (j9.1.drop 1)) (.tup [.int k,eO op v]) H (lr L k op v) H:=by
 rcases h with rfl |⟨a,b,c,rfl⟩
 ·exact I
 ·exact I
theorem W5 {A:Nat→Prop}{ag:List V}:il A ag v→∃ op a,v=eO op a
 |.o _=>⟨_,_,rfl⟩
 |.i _=>⟨_,_,rfl⟩
 |.j _ _=>⟨_,_,rfl⟩
theorem vf {α:Type}{l pre r:List α}{v:α}(e:l=pre++v::r):l[pre.length]?=some v:=by rw[e];simp
theorem vg {α:Type}{l pre:List α}(e:l=pre++[]):l[pre.length]?=none:=by rw[e];simp
theorem JK (ak:F.aN.length<aL):∀(r pre:List V) (ls:List (Str×V)),F.aN=pre++r→(∀ v∈r,il No F.ag v)→CD (mk P F T).length ls →
 ∃ bM,CD (mk P F T).length bM∧cV 6 (nz ls) (ha (j9.1.drop 1)) (.iZ (.ref 13)) pre.length (d2 (j9.1.drop 1)) (mk P F T++[.list (pre.map (iP F.ag))]) .next bM (mk P F T++[.list F.dW])
 |[],pre,ls,e,_,hl=>⟨ls,hl,by
  have:F.dW=pre.map (iP F.ag):=by unfold au.dW;rw[e,List.append_nil]
  rw[this]
  refine cV.done ?_ (by kernel_rfl)
  show some ((F.aN[pre.length]?).map _)=_
  rw[vg e];rfl⟩
 |v::r,pre,ls,e,bR,hl=>by
  obtain ⟨op,a,rfl⟩:=W5 (bR v (.head _))
  have lt:pre.length<aL:=Nat.lt_of_le_of_lt (by rw[e];simp) ak
  obtain ⟨bM,h',g⟩:=JK ak r (pre++[eO op a]) (lr (mk P F T).length (pre.length:Nat) op a) (by rw[e];simp) (fun u m=>bR u (.tail _ m)) (.inr ⟨_,_,_,rfl⟩)
  refine ⟨bM,h',?_⟩
  have b:=W3 (P:=P) (F:=F) (T:=T) (vs:=pre.map (iP F.ag)) (k:=(pre.length:Nat)) (bR _ (.head _)) (by rw[List.length_map];exact lt)
  rw[List.length_append,List.map_append] at g
  refine cV.step (v:=.tup [.int (pre.length:Nat),eO op a]) ?_ (by kernel_rfl) (W4 hl) b g
  show some ((F.aN[pre.length]?).map _)=_
  rw[vf e];rfl
theorem W6 (ak:F.aN.length<aL) (h:∀ v∈F.aN,il No F.ag v):aq 8 (.obj (.ref 290)) [.ref 12] (mk P F T) (.ref (mk P F T).length) (mk P F T++[.list F.dW]):=by
 obtain ⟨bM,h',g⟩:=JK (P:=P) (T:=T) ak F.aN [] [(bk,.ref 12),(jc,.ref (mk P F T).length)] rfl h (.inl rfl)
 exact (aq.hQ (fi:=⟨tc,[bk],[],j9.1,none,false⟩) (vs:=[.ref 12]) (cN:=[(bk,.ref 12)]) (by kernel_rfl) rfl (by kernel_rfl) rfl (by kernel_rfl) <|
  ab.cons (bJ:=[(bk,.ref 12),(jc,.ref (mk P F T).length)]) (ah.assign (ai.list GE.nil) (bq.name (by kernel_rfl))) <|
  ab.cons (ah.BL (v:=.ref 13) I rfl g) <|
  ab.ret (ah.ret (ai.name (by rcases h' with rfl |⟨a,b,c,rfl⟩ <;> kernel_rfl)))).mono (by decide)
end
noncomputable abbrev JL:Str:=⟨⟨[105,115,95,102,105,110,97,108,108,121]⟩⟩
noncomputable abbrev vh (ls:List (Str×V)):a5:=⟨td.scope,[],none,ls⟩
structure sD (ag:List V) (x y z:Nat) (d:Int) (i j g:Nat):Prop where
 x:ag[x]?=some (.int i)
 y:ag[y]?=some (.int j)
 z:ag[z]?=some (.int g)
 lt:i<j
noncomputable abbrev mB (x y z:Nat) (d:Int):V:=.tup [.int x,.int y,.int z,.int d,.bool false]
section
variable {P:Pre}{F:au}{T H:List aj}{pre:List V}{L r l p x y z i j g:Nat}{v u:V}{vs:List V}{d:Int}{ls:List (Str×V)}
noncomputable abbrev yE (L:Nat) (r:List (Str×V)):List (Str×V):=(bk,.ref 12)::(jc,.ref L)::r
noncomputable abbrev kK (L:Nat) (x y z:Nat) (d:Int) (r:List (Str×V)):List (Str×V):=yE L ((nh,.int x)::(pR,.int y)::(hu,.int z)::(jN,.int d)::(JL,.bool false)::r)
noncomputable def CE (L:Nat) (ls:List (Str×V)):Prop:=ls=yE L []∨∃ x y z d a b,ls=kK L x y z d [(iM,a),(hR,b)]
theorem W7 (h:CE L ls):∃ r,(r=[]∨∃ a b,r=[(iM,a),(hR,b)])∧bq 6 (vh ls) (ha (nK.1.drop 1)) (mB x y z d) H (kK L x y z d r) H:=by
 rcases h with rfl |⟨_,_,_,_,a,b,rfl⟩
 ·exact ⟨[],.inl rfl,I⟩
 ·exact ⟨_,.inr ⟨a,b,rfl⟩,I⟩
theorem W8 (h:sD F.ag x y z d i j g):hV F.ag (mB x y z d)=cS.V ⟨i,j,g,d⟩:=by
 unfold hV mx cS.V
 dsimp only
 rw[Int.toNat_natCast,Int.toNat_natCast,Int.toNat_natCast,h.x,h.y,h.z]
theorem W9 {r:List (Str×V)}(bR:r=[]∨∃ a b,r=[(iM,a),(hR,b)]) (h:sD F.ag x y z d i j g) (ak:vs.length<aL) :
 ab 6 (vh (kK (mk P F T).length x y z d r)) (d2 (nK.1.drop 1)) (mk P F T++[.list vs]) .next (kK (mk P F T).length x y z d [(iM,.int i),(hR,.int j)]) (mk P F T++[.list (vs++[hV F.ag (mB x y z d)])]):=by
 have a:=aq.app (x:=cS.V ⟨i,j,g,d⟩) (fe (H:=mk P F T) (x:=.list vs)) ak
 rw[rX] at a
 rw[W8 h]
 have c0:∀{l p:Nat},F.ag[l]?=some (.int p)→aq 6 (.obj (.ref 283)) [.ref 12,.int l,.int (-1)] (mk P F T++[.list vs]) (.int p) (mk P F T++[.list vs]):=fun h=>(JE (T:=T++[.list vs]) h).mono (by decide)
 have c:dY .Lt (.int (i:Nat)) (.int (j:Nat)) ⟨mk P F T++[.list vs],True⟩=some (true,⟨mk P F T++[.list vs],True⟩):=by show some (decide ((i:Int)<j),_)=_;rw[decide_eq_true (Int.ofNat_lt.mpr h.lt)]
 have t1:∀{ls},h4 [iM,hR] [.int i,.int j] (kK (mk P F T).length x y z d r)=ls→ls=kK (mk P F T).length x y z d [(iM,.int i),(hR,.int j)]→ab 6 (vh (kK (mk P F T).length x y z d r)) (d2 (nK.1.drop 1)) (mk P F T++[.list vs]) .next (kK (mk P F T).length x y z d [(iM,.int i),(hR,.int j)]) (mk P F T++[.list (vs++[cS.V ⟨i,j,g,d⟩])]):=fun {ls} e aC=>by
  subst aC
  refine ab.cons (bJ:=kK (mk P F T).length x y z d [(iM,.int i),(hR,.int j)]) (H1:=mk P F T++[.list vs]) ?_ (ab.eP (GT.cmp (a:=.int (i:Nat)) (b:=.int (j:Nat)) I I c) (ab.one (ah.expr (ai.a0 (v:=.ref (mk P F T).length) (first:=[.ref (mk P F T).length]) (vs:=[cS.V ⟨i,j,g,d⟩]) I (qh fe) (GE.cons (ai.tup (GE.cons I (GE.cons I (GE.cons (ai.a0 (v:=.ref 12) (first:=[.ref 12]) (vs:=[.int z,.int (-1)]) I rfl I (c0 h.z)) I)))) GE.nil) (a.mono (by decide))))))
  have q:ah 6 (vh (kK (mk P F T).length x y z d r)) (bQ (d2 (nK.1.drop 1)) 0) (mk P F T++[.list vs]) .next (h4 [iM,hR] [.int i,.int j] (kK (mk P F T).length x y z d r)) (mk P F T++[.list vs]):=ah.mh (us:=[.int i,.int j]) (xs:=[iM,hR]) (ai.tup (GE.cons (ai.a0 (v:=.ref 12) (first:=[.ref 12]) (vs:=[.int x,.int (-1)]) I rfl I (c0 h.x)) (GE.cons (ai.a0 (v:=.ref 12) (first:=[.ref 12]) (vs:=[.int y,.int (-1)]) I rfl I (c0 h.y)) GE.nil))) (by kernel_rfl) (by kernel_rfl) (by kernel_rfl)
  rw[←e];exact q
 rcases bR with rfl |⟨a,b,rfl⟩
 ·exact t1 rfl rfl
 ·exact t1 rfl rfl
theorem JM (ak:F.bH.length<aL):∀(r pre:List V) (ls),F.bH=pre++r→(∀ v∈r,∃ x y z d i j g,v=mB x y z d∧sD F.ag x y z d i j g)→CE (mk P F T).length ls →
 ∃ bM,CE (mk P F T).length bM∧cV 6 (vh ls) (ha (nK.1.drop 1)) (.ref 18) pre.length (d2 (nK.1.drop 1)) (mk P F T++[.list (pre.map (hV F.ag))]) .next bM (mk P F T++[.list (F.bH.map (hV F.ag))])
 |[],pre,ls,e,_,hl=>⟨ls,hl,by
  have:F.bH=pre:=by rw[e,List.append_nil]
  rw[this]
  refine cV.done ?_ (by kernel_rfl)
  show some (F.bH[pre.length]?)=_
  rw[vg e]⟩
 |v::r,pre,ls,e,bR,hl=>by
  obtain ⟨x,y,z,d,i,j,g,rfl,q⟩:=bR v (.head _)
  have lt:pre.length<aL:=Nat.lt_of_le_of_lt (by rw[e];simp) ak
  obtain ⟨bM,h',k⟩:=JM ak r (pre++[mB x y z d]) (kK (mk P F T).length x y z d [(iM,.int i),(hR,.int j)]) (by rw[e];simp) (fun u m=>bR u (.tail _ m)) (.inr ⟨_,_,_,_,_,_,rfl⟩)
  refine ⟨bM,h',?_⟩
  obtain ⟨eb,lu,t⟩:=W7 (H:=mk P F T++[.list (pre.map (hV F.ag))]) (x:=x) (y:=y) (z:=z) (d:=d) hl
  have b:=W9 (P:=P) (F:=F) (T:=T) (vs:=pre.map (hV F.ag)) lu q (by rw[List.length_map];exact lt)
  rw[List.length_append,List.map_append] at k
  refine cV.step (v:=mB x y z d) ?_ (by kernel_rfl) t b k
  show some (F.bH[pre.length]?)=_
  rw[vf e]
theorem Xa (ak:F.bH.length<aL) (h:∀ v∈F.bH,∃ x y z d i j g,v=mB x y z d∧sD F.ag x y z d i j g):aq 8 (.obj (.ref 297)) [.ref 12] (mk P F T) (.ref (mk P F T).length) (mk P F T++[.list (F.bH.map (hV F.ag))]):=by
 obtain ⟨bM,h',g⟩:=JM (P:=P) (T:=T) ak F.bH [] (yE (mk P F T).length []) rfl h (.inl rfl)
 exact (aq.hQ (fi:=⟨td,[bk],[],nK.1,none,false⟩) (vs:=[.ref 12]) (cN:=[(bk,.ref 12)]) (by kernel_rfl) rfl (by kernel_rfl) rfl (by kernel_rfl) <|
  ab.cons (bJ:=yE (mk P F T).length []) (ah.assign (ai.list GE.nil) (bq.name (by kernel_rfl))) <|
  ab.cons (ah.for (v:=.ref 18) I rfl g) <|
  ab.ret (ah.ret (ai.name (by rcases h' with rfl |⟨_,_,_,_,a,b,rfl⟩ <;> kernel_rfl)))).mono (by decide)
end
noncomputable def Flt (v:V):Prop:=(isA v=true∧cy 0 v=true)∨∃ us,v=.tup us∧∀ u∈us,isA u=true∧cy 0 u=true
section
variable {P:Pre}{F:au}{T H G:List aj}{b n:Nat}{v:V}{vs:List V}{a1 a2 hA jd je jf jg jh ji jj:aj}
theorem Xb (h:Flt v):gG G b (n+2) v=some v:=by
 rcases h with ⟨h1,af⟩ |⟨us,rfl,h⟩
 ·exact ej h1 (nj (Nat.zero_le _) _ af)
 ·show (iA (gG G b (n+1)) us).map V.tup=_
  rw[u6 h];rfl
theorem sE:∀{vs:List V},(∀ v∈vs,Flt v)→iA (gG G b (n+2)) vs=some vs
 |[],_=>rfl
 |v::r,h=>nd (Xb (h v (.head _))) (sE fun u m=>h u (.tail _ m))
theorem JN:∀{vs:List V}{v:V},dG b vs=true→v∈vs→cy b v=true
 |u::r,v,h,m=>by
  obtain ⟨h1,af⟩:=Bool.and_eq_true_iff.mp h
  cases m with
  |head=>exact h1
  |tail _ m=>exact JN af m
theorem JO (h:vs.all isA=true) (af:dG 0 vs=true):∀ v∈vs,Flt v:=fun v m=>.inl ⟨List.all_eq_true.mp h v m,JN af m⟩
theorem Xc (h:iL F):∀ v∈F.con,Flt v:=fun v m=>.inl (by
 have:=h v m
 cases v <;> first |exact ⟨rfl,rfl⟩ |cases this)
theorem yF {x y:V}(h:isA x=true∧cy 0 x=true) (af:isA y=true∧cy 0 y=true):∀ u∈[x,y],isA u=true∧cy 0 u=true:=oJ h (mv af)
theorem Xd (h:∀ v∈F.aN,il No F.ag v):∀ v∈F.dW,Flt v:=fun v m=>by
 obtain ⟨w,Xe,rfl⟩:=List.mem_map.mp m
 cases h w Xe with
 |o q=>exact .inr ⟨_,rfl,yF ⟨rfl,rfl⟩ ⟨rfl,rfl⟩⟩
 |i q=>rw[JJ (JI q)];exact .inr ⟨_,rfl,yF ⟨rfl,rfl⟩ ⟨rfl,rfl⟩⟩
 | @j op l q a4 =>
  obtain ⟨p,a4⟩:=a4.resolve_left id
  have e:iP F.ag (eO op (.int l))=eO op (.int p):=by unfold iP mx;dsimp only;rw[q];dsimp only;rw[Int.toNat_natCast,a4]
  rw[e];exact .inr ⟨_,rfl,yF ⟨rfl,rfl⟩ ⟨rfl,rfl⟩⟩
theorem Xf {l:List cS}:∀ v∈l.map cS.V,Flt v:=fun v m=>by
 obtain ⟨w,_,rfl⟩:=List.mem_map.mp m
 exact .inr ⟨_,rfl,oJ ⟨rfl,rfl⟩ (oJ ⟨rfl,rfl⟩ (oJ ⟨rfl,rfl⟩ (yF ⟨rfl,rfl⟩ ⟨rfl,rfl⟩)))⟩
noncomputable abbrev JP (c k u h l x y:V):List (Str×V):=[(eh,.str dN),(pI,.ref 10),(rL,c),(Hs,k),(HA,u),(Hv,h),(fF,l),(pH,.int 0),(Hr,.int 0),(Hq,x),(rO,.bool false),(HB,.bool false),(Hz,.none),(Hp,.none),(Hx,y)]
noncomputable abbrev sF (c k u h l x y:V):List aj:=[.inst 145 (JP c k u h l x y),.list [],.list [],.list [],.list [],.list [],.list [],.list []]
noncomputable def gN (C K U H L:List V):V:=.fin 145 (JP (.aO C) (.aO K) (.aO U) (.aO H) (.aO L) (.ref 19) (.ref 20))
noncomputable abbrev kL (a1 a2 hA jd je jf jg jh ji jj:aj):List aj:=[.list [],a1,a2,hA,jd,je,jf,jg,jh,ji,jj]
noncomputable abbrev Xg (ls:List (Str×V)):a5:=⟨te.scope,[],none,ls⟩
theorem Xh {hl:List cS}(aw:F.aN.length<aL) (bY:F.bH.length<aL) (h1:∀ v∈F.aN,il No F.ag v) (af:∀ v∈F.bH,∃ x y z d i j g,v=mB x y z d∧sD F.ag x y z d i j g) (aB:F.bH.map (hV F.ag)=hl.map cS.V)
 (bu:iL F) (dC:F.fv.all isA=true∧F.d1.all isA=true) (bR:r3 F) (uL:(mk P F (kL a1 a2 hA jd je jf jg jh ji jj)).all (cE 33)=true) :
 aq 30 (.obj (.ref 304)) [.ref 12] (mk P F (kL a1 a2 hA jd je jf jg jh ji jj)) (gN F.dW F.con F.d1 (hl.map cS.V) F.fv) (mk P F (kL a1 a2 hA jd je jf jg jh ji jj)):=by
 have iJ:aq 8 (.obj (.ref 145)) [.str dN,.ref 10] (mk P F (kL a1 a2 hA jd je jf jg jh ji jj)) (.ref 33) (mk P F (kL a1 a2 hA jd je jf jg jh ji jj++sF (.ref 34) (.ref 35) (.ref 36) (.ref 37) (.ref 38) (.ref 39) (.ref 40))):=Gt.run (d:=8) 60 fun N n aa=>by kernel_rfl
 have aK:=W6 (P:=P) (T:=kL a1 a2 hA jd je jf jg jh ji jj++sF (.ref 34) (.ref 35) (.ref 36) (.ref 37) (.ref 38) (.ref 39) (.ref 40)) aw h1
 have bw:=Xa (P:=P) (T:=kL a1 a2 hA jd je jf jg jh ji jj++sF (.ref 41) (.ref 35) (.ref 36) (.ref 37) (.ref 38) (.ref 39) (.ref 40)++[.list F.dW]) bY af
 rw[aB] at bw
 have main:ab 29 (Xg [(bk,.ref 12)]) zM.1 (mk P F (kL a1 a2 hA jd je jf jg jh ji jj)) (.ret (.ref 33)) [(bk,.ref 12),(rP,.ref 33)] (mk P F (kL a1 a2 hA jd je jf jg jh ji jj)++(sF (.ref 41) (.ref 44) (.ref 45) (.ref 42) (.ref 43) (.ref 19) (.ref 20)++[.list F.dW,.list (hl.map cS.V),.list F.fv,.list F.con,.list F.d1])) :=
  ab.cons (bJ:=[(bk,.ref 12),(rP,.ref 33)]) (ah.assign (v:=.ref 33) (ai.bI (g:=.obj (.ref 145)) (vs:=[.str dN,.ref 10]) I I (iJ.mono (by decide))) (bq.name (by kernel_rfl))) <|
  ab.cons (bJ:=[(bk,.ref 12),(rP,.ref 33)]) (ah.assign (ai.a0 (v:=.ref 12) (first:=[.ref 12]) (vs:=[]) I rfl GE.nil (aK.mono (by decide))) (bq.attr (v:=.ref 33) (H2:=mk P F (kL a1 a2 hA jd je jf jg jh ji jj++sF (.ref 41) (.ref 35) (.ref 36) (.ref 37) (.ref 38) (.ref 39) (.ref 40)++[.list F.dW])) I (by kernel_rfl))) <|
  ab.cons (bJ:=[(bk,.ref 12),(rP,.ref 33)]) (ah.assign (ai.a0 (v:=.ref 12) (first:=[.ref 12]) (vs:=[]) I rfl GE.nil (bw.mono (by decide))) (bq.attr (v:=.ref 33) (H2:=mk P F (kL a1 a2 hA jd je jf jg jh ji jj++sF (.ref 41) (.ref 35) (.ref 36) (.ref 42) (.ref 38) (.ref 39) (.ref 40)++[.list F.dW,.list (hl.map cS.V)])) I (by kernel_rfl))) <|
  (Gt.run (d:=29) 60 fun N n aa=>by kernel_rfl)
 obtain ⟨dc,cH,i2,m1,uS,uT,uU⟩:=bR
 refine aq.jv (fi:=⟨te,[bk],[],zM.1,none,true⟩) (vs:=[.ref 12]) (cN:=[(bk,.ref 12)]) (by kernel_rfl) rfl (by kernel_rfl) rfl (by kernel_rfl) main fun aa=>?_
 have le:∀{i},33≤i→(mk P F (kL a1 a2 hA jd je jf jg jh ji jj)).length≤i:=fun h=>h
 refine pN (rZ (le (Nat.le_refl 33)) rfl ?_) rY uL
 exact dx (ej rfl rfl)<|dx rfl<|dx (kv (le (by decide)) rfl (sE (Xd h1)))<|dx (kv (le (by decide)) rfl (sE (Xc bu)))<|dx (kv (le (by decide)) rfl (sE (JO dC.2 m1))) <|
  dx (kv (le (by decide)) rfl (sE Xf))<|dx (kv (le (by decide)) rfl (sE (JO dC.1 cH)))<|dx (ej rfl rfl)<|dx (ej rfl rfl)<|dx rfl<|dx (ej rfl rfl)<|dx (ej rfl rfl)<|dx (ej rfl rfl)<|dx (ej rfl rfl)<|dx rfl r0
end
section
set_option backward.match.sparseCases false
inductive b0 where
 |z |o |t
noncomputable def b0.s:b0→Str
 |.z=>⟨⟨[48]⟩⟩ |.o=>⟨⟨[49]⟩⟩ |.t=>⟨⟨[50]⟩⟩
inductive b5 where
 |gi (i:b0) |key (i:b0) |bb (i:b0) |qi (i:b0) |un |fn
noncomputable def b5.s:b5→Str
 |.gi i=>i.s
 |.key .z=>⟨⟨[107,48]⟩⟩ |.key .o=>⟨⟨[107,49]⟩⟩ |.key .t=>⟨⟨[107,50]⟩⟩
 |.bb .z=>⟨⟨[101,48]⟩⟩ |.bb .o=>⟨⟨[101,49]⟩⟩ |.bb .t=>⟨⟨[101,50]⟩⟩
 |.qi .z=>⟨⟨[55]⟩⟩ |.qi .o=>⟨⟨[56]⟩⟩ |.qi .t=>⟨⟨[57]⟩⟩
 |.un=>⟨⟨[85,78,68,69,70]⟩⟩ |.fn=>⟨⟨[70]⟩⟩
noncomputable abbrev b5.V (v:b5):V:=.str v.s
noncomputable abbrev yG:Str:=⟨⟨[103,101,116]⟩⟩
noncomputable abbrev sG:Str:=⟨⟨[109,101,109,98,101,114]⟩⟩
noncomputable abbrev sH:Str:=⟨⟨[101,108,101,109,101,110,116]⟩⟩
inductive Row where
 |get (n:b9) |b7 (n:fU) (v:b5) |mem (o:b0) (v:b5) |c6 (o s:b0) (v:b5)
noncomputable def Row.V:Row→V
 |.get n=>.tup [.str yG,.str n.s]
 |.b7 n v=>.tup [.str eh,.str n.s,v.V]
 |.mem o v=>.tup [.str sG,.str o.s,.str iK,v.V]
 |.c6 o s v=>.tup [.str sH,.str o.s,.str s.s,v.V]
structure aQ where
 seen:List Row
 left:List b0
 cells:List b5
 cur:Nat
 held:List Nat
noncomputable def aQ.d4 (w:aQ) (r:Row):aQ:={w with seen:=w.seen++[r]}
noncomputable def aQ.hB (w:aQ):b0×aQ:=match w.left with
 |[]=>(.z,w)
 |d::r=>(d,{w with left:=r})
noncomputable def aQ.put (w:aQ) (v:b5):aQ:={w with cells:=w.cells.set w.cur v}
noncomputable def aQ.fresh (w:aQ) (v:b5):aQ:={w with cells:=w.cells++[v],cur:=w.cells.length}
noncomputable def aQ.hold (w:aQ):aQ:={w with held:=w.held++[w.cur]}
noncomputable def aQ.sets (w:aQ) (n:fU) (v:b5):aQ:=match n with
 |.x=>(w.put v).d4 (.b7 .x v)
 |n=>w.d4 (.b7 n v)
noncomputable def aQ.getD (w:aQ) (n:b9):b0×aQ:=(w.d4 (.get n)).hB
noncomputable def eX:b9→Bool
 |.e=>true
 |_=>false
noncomputable def hC:b9→Bool
 |.x=>true
 |_=>false
noncomputable abbrev Rs:Type:=Option b5×aQ×Nat
noncomputable def Rs.more (c:Nat) (r:Rs):Rs:=(r.1,r.2.1,c+r.2.2)
noncomputable def vi (n:b9) (w:aQ):Rs:=match n with
 |.x=>(none,w.d4 (.get .x),2)
 |.e=>(some (.bb (w.getD .e).1),(w.getD .e).2,1)
 |n=>(none,(w.getD n).2,2)
noncomputable def ec (t:dH) (v:b5) (w:aQ):Rs:=match t with
 |.b7 n=>(none,w.sets n v,2)
 |.var=>(none,w.sets .w v,2)
 |.mem n=>match eX n with
  |true=>(some (.bb (w.getD n).1),(w.getD n).2,1)
  |false=>(none,(w.getD n).2.d4 (.mem (w.getD n).1 v),4)
 |.c6 a b=>match eX a with
  |true=>(some (.bb (w.getD a).1),(w.getD a).2,1)
  |false=>match eX b with
   |true=>(some (.bb ((w.getD a).2.getD b).1),((w.getD a).2.getD b).2,2)
   |false=>(none,((w.getD a).2.getD b).2.d4 (.c6 (w.getD a).1 ((w.getD a).2.getD b).1 v),7)
noncomputable def Rs.seq (r:Rs) (c:Nat) (f:aQ→Rs):Rs:=match r with
 |(some x,w,n)=>(some x,w,n)
 |(none,w,n)=>(f w).more (n+c)
theorem kM {P:Rs→Prop}(s:∀ u w n,P (some u,w,n)) (n:∀ w n,P (none,w,n)) (r:Rs):P r:=by
 obtain ⟨o,_,_⟩:=r
 cases o;exact n _ _;exact s _ _ _
noncomputable def d5 (f:aQ→Rs) (n:b9):Nat→aQ→Rs
 |0,w=>(none,w,0)
 |k+1,w=>match (w.getD n).1 with
  |.z=>(none,(w.getD n).2,2)
  |_=>(((f (w.getD n).2).seq 1 (d5 f n k))).more 2
noncomputable def dT (f:aQ→Rs) (t:dH):List b0→aQ→Rs
 |[],w=>(none,w,2)
 |k::r,w=>((ec t (.key k) w).seq 0 fun w1=>(f w1).seq 1 (dT f t r)).more 1
noncomputable def keysOf:b0→List b0
 |.z=>[] |.o=>[.z] |.t=>[.z,.o]
noncomputable def vj (k:Int):b5:=match k with
 |7=>.qi .z |8=>.qi .o |_=>.qi .t
noncomputable def jY (cf:aQ→b5→aQ) (r:Rs) (f:aQ→Rs):Rs:=match r with
 |(none,w,n)=>(none,w,n+1)
 |(some x,w,n)=>(((f (cf w x)).seq 1 fun w=>(none,w,0))).more (n+3)
noncomputable def fz (cf:aQ→b5→aQ):bF→aQ→Rs
 |.b7 n,w=>vi n w
 |.el,w=>(none,w.hold,2)
 |.fg k,w=>(some (vj k),w,2)
 |.du n b,w=>d5 (fz cf b) n (w.left.length+1) w
 |.fin t n b,w=>(dT (fz cf b) t (keysOf (w.getD n).1) (w.getD n).2).more 2
 |.dg b c,w=>jY cf (fz cf b w) (fz cf c)
 |.two a b,w=>(fz cf a w).seq 0 (fz cf b)
noncomputable abbrev a7:bF→aQ→Rs:=fz aQ.fresh
noncomputable def kN:b9→Bool
 |.t=>true |.u=>true |_=>false
noncomputable def oQ:dH→Bool
 |.mem n=>!hC n
 |.c6 a b=>!hC a&&!hC b
 |_=>true
noncomputable def good:bF→Bool
 |.fg k=>decide (k=7) || (decide (k=8) || decide (k=9))
 |.du n b=>kN n&&good b
 |.fin t n b=>oQ t&&(kN n&&good b)
 |.dg b c=>good b&&good c
 |.two a b=>good a&&good b
 |_=>true
noncomputable def gO:bF→Nat
 |.du _ _=>2
 |.fin _ _ _=>4
 |.dg b c=>gO b+gO c+5
 |.two a b=>gO a+gO b
 |_=>2
noncomputable def fL:bF→Nat
 |.du _ b=>max (3+gO b) (fL b)
 |.fin _ _ b=>max (2 * (9+gO b)) (fL b)
 |.dg b c=>max (fL b) (fL c)
 |.two a b=>max (fL a) (fL b)
 |_=>0
section
variable {w w' : aQ}{r:Rs}{a b c m k:Nat}{f:aQ→Rs}
structure gA (a b:Nat) (w:aQ) (r:Rs):Prop where
 le:r.2.1.left.length≤w.left.length
 c:r.2.2+b * r.2.1.left.length≤a+b * w.left.length
theorem Xi (w:aQ):w.hB.2.left.length≤w.left.length:=by unfold aQ.hB;split <;> simp_all
theorem Xj (w:aQ) (h:w.hB.1≠.z):w.hB.2.left.length+1=w.left.length:=by
 unfold aQ.hB at h ⊢
 split at h
 ·exact absurd rfl h
 ·rename_i af;rw[af];rfl
theorem gA.mono {a' b' : Nat}(x:gA a b w r) (b2:a≤a') (bt:b≤b'):gA a' b' w r:=⟨x.le,by
 obtain ⟨e,rfl⟩:=Nat.exists_eq_add_of_le bt
 have:=x.c
 have af:=Nat.mul_le_mul_left e x.le
 rw[Nat.add_mul,Nat.add_mul];omega⟩
theorem gA.of (h:r.2.2≤a) (af:r.2.1.left.length≤w.left.length):gA a b w r:=⟨af,Nat.add_le_add h (Nat.mul_le_mul_left _ af)⟩
theorem gA.more (x:gA a b w r):gA (c+a) b w (r.more c):=⟨x.le,by have:=x.c;show c+r.2.2+b * r.2.1.left.length≤_;omega⟩
theorem gA.seq {a' : Nat}(x:gA a b w r) (y:∀ w1,w1.left.length≤w.left.length→gA a' b w1 (f w1)):gA (a+c+a') b w (r.seq c f):=by
 obtain ⟨q,w1,n⟩:=r
 have sI:w1.left.length≤w.left.length:=x.le
 have oR:n+b * w1.left.length≤a+b * w.left.length:=x.c
 cases q with
 |some v=>exact ⟨sI,show n+b * w1.left.length≤_ by omega⟩
 |none =>
  have z:=y w1 sI
  have ZN:=z.c
  exact ⟨Nat.le_trans z.le sI,show n+c+(f w1).2.2+b * (f w1).2.1.left.length≤_ by omega⟩
end
end
section
variable {w w' : aQ}{r:Rs}{a b c m k B:Nat}{f:aQ→Rs}{n:b9}{t:dH}
theorem jZ (w:aQ) (n:b9):(w.getD n).2.left.length≤w.left.length:=Xi (w.d4 (.get n))
theorem vk (w:aQ) (n:b9) (h:(w.getD n).1≠.z):(w.getD n).2.left.length+1=w.left.length:=Xj (w.d4 (.get n)) h
theorem JQ (hf:∀ w,gA a b w (f w)) (h1:3+a≤B) (af:b≤B):∀(k:Nat) (w:aQ),gA 2 B w (d5 f n k w)
 |0,w=>.of (Nat.zero_le _) (Nat.le_refl _)
 |k+1,w=>by
  have aI:=JQ hf h1 af k
  have key:(w.getD n).1≠.z→gA 2 B w (((f (w.getD n).2).seq 1 (d5 f n k)).more 2):=fun h=>by
   have p:=vk w n h
   have x:=(((hf (w.getD n).2).mono (Nat.le_refl a) af).seq (c:=1) fun w1 _=>aI w1).more (c:=2)
   refine ⟨Nat.le_trans x.le (by omega),?_⟩
   have:=x.c
   have e:B * w.left.length=B * (w.getD n).2.left.length+B:=by rw[←p,Nat.mul_add,Nat.mul_one]
   omega
  unfold d5
  cases h:(w.getD n).1 with
  |z=>exact .of (Nat.le_refl 2) (jZ w n)
  |o=>exact key (by rw[h];exact b0.noConfusion)
  |t=>exact key (by rw[h];exact b0.noConfusion)
theorem Xk (n:fU) (v:b5):(w.sets n v).left=w.left:=by cases n <;> rfl
theorem Xl (t:dH) (v:b5) (w:aQ):gA 7 b w (ec t v w):=by
 cases t with
 |b7 n=>exact .of (by decide:2≤7) (by show (w.sets n v).left.length≤_;rw[Xk];exact Nat.le_refl _)
 |var=>exact .of (by decide:2≤7) (Nat.le_refl _)
 |mem n =>
  unfold ec
  dsimp only
  split
  ·exact .of (by decide:1≤7) (jZ w n)
  ·exact .of (by decide:4≤7) (jZ w n)
 |c6 x y =>
  unfold ec
  dsimp only
  split
  ·exact .of (by decide:1≤7) (jZ w x)
  ·split
   ·exact .of (by decide:2≤7) (Nat.le_trans (jZ _ y) (jZ w x))
   ·exact .of (by decide:7≤7) (Nat.le_trans (jZ _ y) (jZ w x))
theorem JR (hf:∀ w,gA a b w (f w)):∀(b6:List b0) (w:aQ),gA (2+b6.length * (9+a)) b w (dT f t b6 w)
 |[],w=>.of (Nat.le_add_right _ _) (Nat.le_refl _)
 |k::r,w=>by
  have x:=((Xl (b:=b) t (.key k) w).seq (c:=0) fun w1 _=>(hf w1).seq (c:=1) fun eA _=>JR hf r eA).more (c:=1)
  exact x.mono (by rw[List.length_cons,Nat.add_mul];omega) (Nat.le_refl _)
theorem nA {cf:aQ→b5→aQ}(oS:∀ w v,(cf w v).left=w.left):∀(t:bF) (w:aQ),gA (gO t) (fL t) w (fz cf t w)
 |.b7 n,w=>by
  show gA 2 0 w (vi n w)
  cases n with
  |x=>exact .of (Nat.le_refl 2) (Nat.le_refl _)
  |e=>exact .of (by decide:1≤2) (jZ w .e)
  |t=>exact .of (Nat.le_refl 2) (jZ w .t)
  |u=>exact .of (Nat.le_refl 2) (jZ w .u)
 |.el,w=>.of (Nat.le_refl 2) (Nat.le_refl _)
 |.fg k,w=>.of (Nat.le_refl 2) (Nat.le_refl _)
 |.du n b,w=>JQ (nA oS b) (Nat.le_max_left _ _) (Nat.le_max_right _ _) _ w
 |.fin t n b,w=>by
  have x:=((JR (t:=t) (nA oS b) (keysOf (w.getD n).1) (w.getD n).2).mono (Nat.le_refl _) (Nat.le_max_right (2 * (9+gO b)) _)).more (c:=2)
  refine ⟨Nat.le_trans x.le (jZ w n),?_⟩
  have h1:2 * (9+gO b)≤max (2 * (9+gO b)) (fL b):=Nat.le_max_left _ _
  show ((dT (fz cf b) t (keysOf (w.getD n).1) (w.getD n).2).more 2).2.2+max (2 * (9+gO b)) (fL b) * ((dT (fz cf b) t (keysOf (w.getD n).1) (w.getD n).2).more 2).2.1.left.length≤4+max (2 * (9+gO b)) (fL b) * w.left.length
  have oR:=x.c
  generalize max (2 * (9+gO b)) (fL b)=B at *
  have key:∀ l:Nat,l≤2→(w.getD n).2.left.length+1=w.left.length→2+(2+l * (9+gO b))+B * (w.getD n).2.left.length≤4+B * w.left.length:=fun l hl p=>by
   have e:B * w.left.length=B * (w.getD n).2.left.length+B:=by rw[←p,Nat.mul_add,Nat.mul_one]
   have:=Nat.mul_le_mul_right (9+gO b) hl
   omega
  cases h:(w.getD n).1 with
  |z =>
   rw[h] at oR
   have:=Nat.mul_le_mul_left B (jZ w n)
   have e:(keysOf .z).length * (9+gO b)=0:=Nat.zero_mul _
   rw[e] at oR;omega
  |o=>rw[h] at oR;exact Nat.le_trans oR (key 1 (by decide) (vk w n (by rw[h];exact b0.noConfusion)))
  |t=>rw[h] at oR;exact Nat.le_trans oR (key 2 (by decide) (vk w n (by rw[h];exact b0.noConfusion)))
 |.dg b c,w=>by
  have x:=(nA oS b w).mono (Nat.le_refl _) (Nat.le_max_left (fL b) (fL c))
  have y:=fun w=>(nA oS c w).mono (Nat.le_refl _) (Nat.le_max_right (fL b) (fL c))
  show gA (gO b+gO c+5) (max (fL b) (fL c)) w (jY cf (fz cf b w) (fz cf c))
  generalize max (fL b) (fL c)=B at *
  generalize fz cf b w=r at *
  obtain ⟨q,w1,n⟩:=r
  have sI:w1.left.length≤w.left.length:=x.le
  have oR:n+B * w1.left.length≤gO b+B * w.left.length:=x.c
  cases q with
  |none=>exact ⟨sI,show n+1+B * w1.left.length≤_ by omega⟩
  |some v =>
   have z:=((y (cf w1 v)).seq (c:=1) (f:=fun w=>(none,w,0)) (a':=0) fun eA _=>.of (Nat.le_refl _) (Nat.le_refl _)).more (c:=n+3)
   refine ⟨Nat.le_trans z.le (Nat.le_trans (Nat.le_of_eq (congrArg List.length (oS w1 v))) sI),?_⟩
   have:=z.c
   show ((((fz cf c (cf w1 v)).seq 1 fun w=>(none,w,0))).more (n+3)).2.2+B * ((((fz cf c (cf w1 v)).seq 1 fun w=>(none,w,0))).more (n+3)).2.1.left.length≤_
   have e:(cf w1 v).left=w1.left:=oS w1 v
   rw[e] at this
   omega
 |.two a b,w=>by
  have x:=((nA oS a w).mono (Nat.le_refl _) (Nat.le_max_left (fL a) (fL b))).seq (c:=0) (f:=fz cf b) fun w1 _=>(nA oS b w1).mono (Nat.le_refl _) (Nat.le_max_right (fL a) (fL b))
  exact x
end
section
variable {D:bG}{q:Bool}{i:Int}{m k:Nat}{f:Bool→bG→bF×bG}{g:bG→bF×bG}
theorem CF {i:Int}(h:0≤i∧i<2):kN (e8 i)=true:=by
 have:i=0∨i=1:=by omega
 rcases this with rfl |rfl <;> rfl
theorem JS {i:Int}(h:0≤i∧i<3):hC (e8 i)=false:=by
 have:i=0∨i=1∨i=2:=by omega
 rcases this with rfl |rfl |rfl <;> rfl
theorem sJ {n:b9}(h:kN n=true):hC n=false:=by cases n <;> first |rfl |cases h
theorem Xm:oQ (gd q D).1=true:=by
 unfold gd x6
 split
 ·rfl
 ·rfl
 ·exact congrArg (!·) (JS (ih (by decide)))
 ·show (!_&&!_)=true
  rw[sJ (CF (ih (by decide))),JS (ih (by decide))];rfl
 ·rfl
theorem CG (cP:∀ D,good (g D).1=true):good (cW g D).1=true:=by
 unfold cW
 split
 ·exact cP _
 ·exact Bool.and_eq_true_iff.mpr ⟨cP _,cP _⟩
theorem vl {a b:Bool}(h:a=true) (af:b=true):(a&&b)=true:=by rw[h,af];rfl
theorem JT (hf:∀ q D,good (f q D).1=true):good (gf f q i D).1=true:=by
 unfold gf
 split
 ·rfl
 ·split <;> rfl
 ·exact vl (CF (ih (by decide))) (hf _ _)
 ·exact vl Xm (vl (CF (ih (by decide))) (hf _ _))
 ·split
  ·rfl
  ·exact vl (CG (hf _)) (CG (hf _))
 ·have h:=ih (D:=D) (w:=3) (by decide)
  have:(D.take 3).1=0∨(D.take 3).1=1∨(D.take 3).1=2:=by omega
  show good (.fg (7+(D.take 3).1))=true
  rcases this with e |e |e <;> rw[e] <;> rfl
theorem JU:∀(k:Nat) (q:Bool) (D:bG),good (dI k q D).1=true
 |0,q,D=>JT fun _ _=>rfl
 |k+1,q,D=>JT fun q D=>JU k q D
structure qj (m k:Nat) (t:bF):Prop where
 a:gO t≤m
 b:fL t≤k
theorem vm (cP:∀ D,qj m k (g D).1):qj (m+m) k (cW g D).1:=by
 unfold cW
 split
 ·exact ⟨Nat.le_trans (cP _).a (Nat.le_add_left _ _),(cP _).b⟩
 ·exact ⟨Nat.add_le_add (cP _).a (cP _).a,Nat.max_le.mpr ⟨(cP _).b,(cP _).b⟩⟩
theorem CH (hf:∀ q D,qj m k (f q D).1) (ar:k≤2 * (9+m)):qj (m+m+(m+m)+5) (2 * (9+m)) (gf f q i D).1:=by
 have l2:2≤m+m+(m+m)+5:=Nat.le_trans (by decide) (Nat.le_add_left 5 _)
 have lp:4≤m+m+(m+m)+5:=Nat.le_trans (by decide) (Nat.le_add_left 5 _)
 unfold gf
 split
 ·exact ⟨l2,Nat.zero_le _⟩
 ·split <;> exact ⟨l2,Nat.zero_le _⟩
 ·exact ⟨l2,Nat.max_le.mpr ⟨Nat.le_trans (Nat.add_le_add_left (hf _ _).a 3) (by omega),Nat.le_trans (hf _ _).b ar⟩⟩
 ·exact ⟨lp,Nat.max_le.mpr ⟨Nat.mul_le_mul_left 2 (Nat.add_le_add_left (hf _ _).a 9),Nat.le_trans (hf _ _).b ar⟩⟩
 ·split
  ·exact ⟨l2,Nat.zero_le _⟩
  ·exact ⟨Nat.add_le_add_right (Nat.add_le_add (vm (hf _)).a (vm (hf _)).a) 5,Nat.le_trans (Nat.max_le.mpr ⟨(vm (hf _)).b,(vm (hf _)).b⟩) ar⟩
 ·exact ⟨l2,Nat.zero_le _⟩
theorem Xn:qj 2 0 (dI 0 q D).1:=by
 have h:=ih (D:=D) (w:=2) (by decide)
 have:(D.take 2).1=0∨(D.take 2).1=1:=by omega
 show qj 2 0 (gf _ q (D.take 2).1 (D.take 2).2).1
 rcases this with e |e <;> rw[e]
 ·exact ⟨Nat.le_refl _,Nat.le_refl _⟩
 ·cases q <;> exact ⟨Nat.le_refl _,Nat.le_refl _⟩
theorem JV:qj 466 132 (cR D):=vm fun D=>CH (fun q D=>CH (fun q D=>CH (fun q D=>Xn) (by decide)) (by decide)) (by decide)
theorem Xo:good (cR D)=true:=CG fun D=>JU 3 false D
end
set_option genInjectivity true in
inductive cn where
 |s |l |h |d |k |c (i:Nat) |y (j:Nat) |o
inductive ck where
 |s (v:b5) |k (a:Nat) (l:List b0) |n
noncomputable def ck.V:ck→V
 |.s v=>v.V |.k a _=>.ref a |.n=>.none
noncomputable abbrev sL (d:b0):V:=(b5.key d).V
noncomputable abbrev cg (d:b0):V:=.str d.s
noncomputable abbrev jk (q c:Nat):List (Str×V):=[(ox,.ref q),(pG,.ref (q+1)),(gK,.ref c),(rN,.ref (q+3))]
structure cK (q:Nat) (H:List aj) (w:aQ) (am:Nat→Nat) (ρ:Nat→cn):Prop where
 seen:H[q]?=some (.list (w.seen.map Row.V))
 left:H[q+1]?=some (.list (w.left.map cg))
 held:H[q+3]?=some (.list (w.held.map fun i=>.ref (am i)))
 dict:H[q+4]?=some (.dict (jk q (am w.cur)))
 cell:∀ i v,w.cells[i]?=some v→H[am i]?=some (.list [v.V])
 cur:w.cur<w.cells.length
 iH:∀ i∈w.held,i<w.cells.length
 rs:ρ q=.s
 gb:ρ (q+1)=.l
 gP:ρ (q+3)=.h
 a7:ρ (q+4)=.d
 rc:∀ i,i<w.cells.length→ρ (am i)=.c i
noncomputable def oT:cn→Bool
 |.k=>true |.y _=>true |.o=>true |_=>false
structure fk (ρ:Nat→cn) (H H' : List aj):Prop where
 k:∀ a o,H[a]?=some o→oT (ρ a)=true→H'[a]?=some o
 n:H.length≤H'.length
noncomputable def gB (ρ ρ' : Nat→cn) (H:List aj):Prop:=∀(a:Nat) (o:aj),H[a]?=some o→ρ' a=ρ a
structure cp (cD:Nat→Option aj) (q sk:Nat) (H:List aj) (st:List ck) (w:aQ) (am:Nat→Nat) (ρ:Nat→cn):Prop where
 wr:cK q H w am ρ
 hW:H[sk]?=some (.list (st.map ck.V))
 ip:ρ sk=.k
 keys:∀ j a l,st[j]?=some (.k a l)→H[a]?=some (.list (l.map sL))∧ρ a=.y j
 qk:∀ a o,cD a=some o→H[a]?=some o∧ρ a=.o
section
variable {q sk a b:Nat}{H H' G:List aj}{w w' : aQ}{am bW:Nat→Nat}{ρ ρ' mC:Nat→cn}{o y:aj}{st st' : List ck}{r:Row}{v:b5}{d:b0}{l:List b0}{u xf:cn}
theorem iq {α:Type}{l:List α}{i:Nat}{x:α}(e:l[i]?=some x):i<l.length:=(List.getElem?_eq_some_iff.mp e).1
theorem nB (e:H[a]?=some o):(H.set a y)[a]?=some y:=List.getElem?_set_self (iq e)
theorem eL (h1:ρ b=u) (af:ρ a=xf) (h:u≠xf) (e:H[b]?=some o):(H.set a y)[b]?=some o:=(List.getElem?_set_ne (fun q=>h (h1.symm.trans ((congrArg ρ q.symm).trans af)))).trans e
theorem fk.refl:fk ρ H H:=⟨fun _ _ e _=>e,Nat.le_refl _⟩
theorem fk.ext:fk ρ H (H++G):=⟨fun _ _ e _=>cY e,by rw[List.length_append];exact Nat.le_add_right _ _⟩
theorem fk.set (h:oT (ρ a)=false):fk ρ H (H.set a y):=⟨fun b o e k=>(List.getElem?_set_ne (fun q=>by subst q;rw[h] at k;cases k)).trans e,Nat.le_of_eq List.length_set.symm⟩
theorem fk.trans {JW}(x:fk ρ H H') (e:gB ρ ρ' H) (y:fk ρ' H' JW):fk ρ H JW:=⟨fun a o h k=>y.k a o (x.k a o h k) (by rw[e a o h];exact k),Nat.le_trans x.n y.n⟩
theorem gB.trans (x:gB ρ ρ' H) (n:H.length≤H'.length) (y:gB ρ' mC H'):gB ρ mC H:=fun a o h=>(y a _ (List.getElem?_eq_getElem (Nat.lt_of_lt_of_le (iq h) n))).trans (x a o h)
theorem gB.refl:gB ρ ρ H:=fun _ _ _=>rfl
theorem cK.ext (x:cK q H w am ρ):cK q (H++G) w am ρ:=⟨cY x.seen,cY x.left,cY x.held,cY x.dict,fun i v e=>cY (x.cell i v e),x.cur,x.iH,x.rs,x.gb,x.gP,x.a7,x.rc⟩
theorem cK.d4 (x:cK q H w am ρ):cK q (H.set q (.list (w.seen.map Row.V++[r.V]))) (w.d4 r) am ρ :=
 ⟨(nB x.seen).trans (by unfold aQ.d4;simp),eL x.gb x.rs cn.noConfusion x.left,eL x.gP x.rs cn.noConfusion x.held,eL x.a7 x.rs cn.noConfusion x.dict,fun i v e=>eL (x.rc i (iq e)) x.rs cn.noConfusion (x.cell i v e),x.cur,x.iH,x.rs,x.gb,x.gP,x.a7,x.rc⟩
theorem cK.pop {r:List b0}(x:cK q H w am ρ):cK q (H.set (q+1) (.list (r.map cg))) {w with left:=r} am ρ :=
 ⟨eL x.rs x.gb cn.noConfusion x.seen,nB x.left,eL x.gP x.gb cn.noConfusion x.held,eL x.a7 x.gb cn.noConfusion x.dict,fun i v e=>eL (x.rc i (iq e)) x.gb cn.noConfusion (x.cell i v e),x.cur,x.iH,x.rs,x.gb,x.gP,x.a7,x.rc⟩
theorem cK.hold (x:cK q H w am ρ):cK q (H.set (q+3) (.list ((w.held.map fun i=>V.ref (am i))++[.ref (am w.cur)]))) w.hold am ρ :=
 ⟨eL x.rs x.gP cn.noConfusion x.seen,eL x.gb x.gP cn.noConfusion x.left,(nB x.held).trans (by unfold aQ.hold;simp),eL x.a7 x.gP cn.noConfusion x.dict,fun i v e=>eL (x.rc i (iq e)) x.gP cn.noConfusion (x.cell i v e),x.cur,
  fun i m=>(List.mem_append.mp m).elim (x.iH i) (fun m=>by rw[List.mem_singleton.mp m];exact x.cur),x.rs,x.gb,x.gP,x.a7,x.rc⟩
theorem cK.put (x:cK q H w am ρ):cK q (H.set (am w.cur) (.list [v.V])) (w.put v) am ρ:=by
 have rc:=x.rc _ x.cur
 have ln:(w.put v).cells.length=w.cells.length:=List.length_set
 refine ⟨eL x.rs rc cn.noConfusion x.seen,eL x.gb rc cn.noConfusion x.left,eL x.gP rc cn.noConfusion x.held,eL x.a7 rc cn.noConfusion x.dict,fun i u e=>?_,ln▸x.cur,fun i m=>ln▸x.iH i m,x.rs,x.gb,x.gP,x.a7,fun i h=>x.rc i (ln▸h)⟩
 have aC:(w.cells.set w.cur v)[i]?=some u:=e
 clear e
 rw[List.getElem?_set] at aC
 split at aC
 ·rename_i h
  subst h
  rw[if_pos x.cur] at aC
  cases aC
  exact nB (x.cell _ _ (List.getElem?_eq_getElem x.cur))
 ·rename_i h
  exact eL (x.rc i (iq aC)) rc (fun q=>h (cn.c.inj q).symm) (x.cell i u aC)
theorem cK.other (x:cK q H w am ρ) (h:oT (ρ a)=true):cK q (H.set a y) w am ρ:=by
 have ne:∀{b o u},ρ b=u→oT u=false→H[b]?=some o→(H.set a y)[b]?=some o:=fun {b o u} e k g=>(List.getElem?_set_ne (fun q=>by subst q;rw[e,k] at h;cases h)).trans g
 exact ⟨ne x.rs rfl x.seen,ne x.gb rfl x.left,ne x.gP rfl x.held,ne x.a7 rfl x.dict,fun i v e=>ne (x.rc i (iq e)) rfl (x.cell i v e),x.cur,x.iH,x.rs,x.gb,x.gP,x.a7,x.rc⟩
noncomputable def j0 {α:Type}(f:Nat→α) (n:Nat) (x:α):Nat→α:=fun i=>if i=n then x else f i
theorem ql {α:Type}{f:Nat→α}{n:Nat}{x:α}:j0 f n x n=x:=if_pos rfl
theorem JX {α:Type}{f:Nat→α}{n i:Nat}{x:α}(h:i≠n):j0 f n x i=f i:=if_neg h
theorem gB.up:gB ρ (j0 ρ H.length u) H:=fun a o e=>JX (Nat.ne_of_lt (iq e))
theorem cK.role (x:cK q H w am ρ) (e:gB ρ ρ' H):cK q H w am ρ' :=
 ⟨x.seen,x.left,x.held,x.dict,x.cell,x.cur,x.iH,(e _ _ x.seen).trans x.rs,(e _ _ x.left).trans x.gb,(e _ _ x.held).trans x.gP,(e _ _ x.dict).trans x.a7,fun i h=>(e _ _ (x.cell i _ (List.getElem?_eq_getElem h))).trans (x.rc i h)⟩
theorem cK.fresh (x:cK q H w am ρ):cK q ((H++[aj.list [v.V]]).set (q+4) (.dict (jk q H.length))) (w.fresh v) (j0 am w.cells.length H.length) (j0 ρ H.length (.c w.cells.length)):=by
 have z:=x.role (ρ':=j0 ρ H.length (.c w.cells.length)) gB.up
 have y:=z.ext (G:=[aj.list [v.V]])
 have CI:∀ i,i<w.cells.length→j0 am w.cells.length H.length i=am i:=fun i h=>JX (Nat.ne_of_lt h)
 have ln:(w.fresh v).cells.length=w.cells.length+1:=by unfold aQ.fresh;simp
 refine ⟨eL y.rs y.a7 cn.noConfusion y.seen,eL y.gb y.a7 cn.noConfusion y.left,?_,?_,fun i u e=>?_,by rw[ln];exact Nat.lt_succ_self _,fun i m=>by rw[ln];exact Nat.lt_succ_of_lt (x.iH i m),y.rs,y.gb,y.gP,y.a7,fun i h=>?_⟩
 ·refine (eL y.gP y.a7 cn.noConfusion y.held).trans ?_
  show _=some (aj.list (w.held.map fun i=>V.ref (j0 am w.cells.length H.length i)))
  congr 2
  exact List.map_congr_left fun i m=>by rw[CI i (x.iH i m)]
 ·refine (nB y.dict).trans ?_
  show _=some (aj.dict (jk q (j0 am w.cells.length H.length w.cells.length)))
  rw[ql]
 ·have e:(w.cells++[v])[i]?=some u:=e
  by_cases h:i<w.cells.length
  ·rw[List.getElem?_append_left h] at e
   rw[CI i h]
   exact eL (y.rc i h) y.a7 cn.noConfusion (y.cell i u e)
  ·have lt:=iq e
   rw[List.length_append] at lt
   have aM:i=w.cells.length:=by simp at lt;omega
   subst aM
   rw[List.getElem?_append_right (Nat.le_refl _),Nat.sub_self] at e
   cases e
   rw[ql]
   exact eL (ρ:=j0 ρ H.length (.c w.cells.length)) ql y.a7 cn.noConfusion fe
 ·by_cases aM:i<w.cells.length
  ·rw[CI i aM];exact y.rc i aM
  ·have aM:i=w.cells.length:=by rw[ln] at h;omega
   subst aM
   rw[ql,ql]
end
inductive gj {α:Type}(P Q:α→Prop):Prop
 |mk (a:α) (h:P a) (g:Q a)
inductive mD {α β gE:Type}(P Q:α→β→gE→Prop):Prop
 |mk (a:α) (b:β) (c:gE) (h:P a b c) (g:Q a b c)
inductive Xp {α β gE js:Type}(P Q:α→β→gE→js→Prop):Prop
 |mk (a:α) (b:β) (c:gE) (d:js) (h:P a b c d) (g:Q a b c d)
inductive vn {α β gE js JY:Type}(P Q:α→β→gE→js→JY→Prop):Prop
 |mk (a:α) (b:β) (c:gE) (d:js) (e:JY) (h:P a b c d e) (g:Q a b c d e)
noncomputable abbrev dq:Str:=⟨⟨[119,111,114,108,100]⟩⟩
noncomputable abbrev JZ:Str:=⟨⟨[119,104,97,116]⟩⟩
noncomputable abbrev J0:Str:=⟨⟨[112,111,112]⟩⟩
section
variable {q sk a b i r:Nat}{H H' G:List aj}{w w' : aQ}{am bW:Nat→Nat}{ρ ρ' mC:Nat→cn}{o y:aj}{v:b5}{d:b0}{x u:V}{vs:List V}{fs:List (Str×V)}{s:Str}{n:b9}
theorem iQ (h:H[r]?=some (.dict fs)) (e:look s fs=some x):jx (.ref r) (.str s) ⟨H,True⟩=some x:=by
 exact (bj (congrArg tK h)).trans e
theorem J1 (h:H[r]?=some (.list (x::vs))):jx (.ref r) (.int 0) ⟨H,True⟩=some x:=mb (j:=0) h rfl
theorem CJ (h:H[r]?=some (.list vs)):kf (.ref r) J0 ⟨H,True⟩=some (.obj (.builtin "list.pop"),[.ref r]):=by
 exact (l9 (congrArg lT h)).trans ((bj (congrArg dA h)).trans rfl)
theorem aq.J2 (h:H[r]?=some (.list (x::vs))):aq 1 (.obj (.builtin "list.pop")) [.ref r,.int 0] H x (H.set r (.list vs)):=aq.bi fun aa=>by
 show nX _ _ _ _=_
 unfold nX
 rw[if_neg (by decide),if_pos rfl]
 exact (bj (congrArg dA h)).trans rfl
section
variable {α:Type}{f:α→Str}{l:List α}
theorem yH {H:List aj}{n:Nat}:∀{l:List α},kh (toPy H (n+1)) (l.map fun a=>V.str (f a))=some (l.map fun a=>PyData.str (f a))
 |[]=>rfl
 |a::r=>by
  show (some (PyData.str (f a))).bind (fun d=>(kh (toPy H (n+1)) (r.map fun a=>V.str (f a))).map fun ds=>d::ds)=_
  rw[yH];rfl
theorem vo {ds:List PyData}{n:Nat}(h:H[i]?=some (.list vs)) (af:kh (toPy H n) vs=some ds):toPy H (n+1) (.ref i)=some (.list ds):=by
 exact (bj (congrArg dA h)).trans (dE af)
theorem eq_nil (h:H[i]?=some (.list (l.map fun a=>V.str (f a)))):wy (.ref i) (.ref H.length) (H++[.list []])=some l.isEmpty:=by
 have h1:=vo (n:=5) (cY (H':=[aj.list []]) h) yH
 have af:=vo (n:=5) (fe (H:=H) (x:=.list [])) (ds:=[]) rfl
 show ((toPy _ 6 _).bind fun d=>(toPy _ 6 _).map fun e=>gs d e)=_
 exact (bj h1).trans ((dE af).trans (by cases l <;> rfl))
theorem ne_nil (h:H[i]?=some (.list (l.map fun a=>V.str (f a)))):dY .NotEq (.ref i) (.ref H.length) ⟨H++[.list []],True⟩=some (!l.isEmpty,⟨H++[.list []],True⟩):=by
 exact dE (dE (eq_nil h))
theorem J3 (h:H[i]?=some (.list (l.map fun a=>V.str (f a)))):dY .Eq (.ref i) (.ref H.length) ⟨H++[.list []],True⟩=some (l.isEmpty,⟨H++[.list []],True⟩):=by
 exact dE (eq_nil h)
end
noncomputable abbrev yI (ls:List (Str×V)):a5:=⟨qO.scope,[],none,ls⟩
theorem J4 (x:cK q H w am ρ) (ak:w.seen.length<aL) (n:b9):ah 4 (yI [(dq,.ref (q+4)),(eh,.str n.s)]) (bQ o5.1 0) H .next [(dq,.ref (q+4)),(eh,.str n.s)] (H.set q (.list (w.seen.map Row.V++[(Row.get n).V]))) :=
 ah.expr (ai.a0 (v:=.ref q) (first:=[.ref q]) (vs:=[(Row.get n).V]) (ai.sub I I (iQ (s:=ox) x.dict (by kernel_rfl))) (qh x.seen) I ((aq.app x.seen (by rw[List.length_map];exact ak)).mono (by decide)))
theorem J5 (x:cK q H w am ρ) (ak:w.seen.length<aL) (aV:w.cells[w.cur]?=some v):aq 5 (.obj (.ref 897)) [.ref (q+4),.str dN] H (.tup [v.V,.none]) (H.set q (.list (w.seen.map Row.V++[(Row.get .x).V]))):=by
 have y:=x.d4 (r:=.get .x)
 have d:(H.set q (.list (w.seen.map Row.V++[(Row.get .x).V])))[am w.cur]?=some (.list [v.V]):=y.cell _ _ aV
 exact aq.hQ (fi:=⟨qO,[dq,eh],[],o5.1,none,false⟩) (vs:=[.ref (q+4),.str dN]) (cN:=[(dq,.ref (q+4)),(eh,.str dN)]) (by kernel_rfl) rfl (by kernel_rfl) rfl (by kernel_rfl) <|
  ab.cons (J4 x ak .x)<|ab.stop (ah.cm I (ab.ret (ah.ret (ai.tup (GE.cons (ai.sub (ai.sub I I (iQ (s:=gK) y.dict (by kernel_rfl))) I (J1 d)) I))))) ey
theorem Xq (x:cK q H w am ρ) {n:b9}(bc:hC n=false):gj (fun H'=>ah 4 (yI [(dq,.ref (q+4)),(eh,.str n.s)]) (bQ o5.1 2) H .next [(dq,.ref (q+4)),(eh,.str n.s),(dw,cg w.hB.1)] H') fun H'=>cK q H' w.hB.2 am ρ∧fk ρ H H':=by
 have c:=ne_nil (f:=b0.s) x.left
 have y:=x.ext (G:=[.list []])
 have sk:oT (ρ (q+1))=false:=by rw[x.gb];rfl
 obtain ⟨Xr,lf,ce,Xs,he⟩:=w
 cases lf with
 |nil=>exact ⟨_,ah.assign (ai.iff (GT.cmp (ai.sub I I (iQ (s:=pG) x.dict (by kernel_rfl))) (ai.list GE.nil) c) I) (bq.name (by kernel_rfl)),y,.ext⟩
 |cons d r =>
  refine ⟨_,ah.assign (ai.cm (GT.cmp (ai.sub I I (iQ (s:=pG) x.dict (by kernel_rfl))) (ai.list GE.nil) c) (ai.a0 (v:=.ref (q+1)) (first:=[.ref (q+1)]) (vs:=[.int 0]) (ai.sub I I (iQ (s:=pG) y.dict (by kernel_rfl))) (CJ y.left) I ((aq.J2 y.left).mono (by decide)))) (bq.name (by kernel_rfl)),y.pop,fk.trans .ext .refl (.set sk)⟩
noncomputable def sM (n:b9) (d:b0):V:=match eX n with
 |true=>.tup [.none,(b5.bb d).V]
 |false=>.tup [cg d,.none]
theorem J6 (x:cK q H w am ρ) (ak:w.seen.length<aL) (bc:hC n=false):gj (fun H'=>aq 5 (.obj (.ref 897)) [.ref (q+4),.str n.s] H (sM n (w.getD n).1) H') fun H'=>cK q H' (w.getD n).2 am ρ∧fk ρ H H':=by
 have y:=x.d4 (r:=.get n)
 obtain ⟨H',g,tD,k⟩:=Xq y bc
 have sk:oT (ρ q)=false:=by rw[x.rs];rfl
 refine ⟨H',?_,tD,fk.trans (.set sk) .refl k⟩
 have fin:∀{n:b9}{d:b0},hC n=false→ab 4 (yI [(dq,.ref (q+4)),(eh,.str n.s),(dw,cg d)]) (o5.1.drop 3) H' (.ret (sM n d)) [(dq,.ref (q+4)),(eh,.str n.s),(dw,cg d)] H':=fun {n d} h=>by
  cases n with
  |x=>cases h
  |e=>exact ab.ret (ah.ret (ai.cm I (ai.tup (GE.cons I (GE.cons (ai.bin (a:=.str pF) (b:=cg d) I I (fun s _=>by cases d <;> rfl)) GE.nil)))))
  |t=>exact ab.ret (ah.ret (ai.iff I I))
  |u=>exact ab.ret (ah.ret (ai.iff I I))
 have f0:GT 4 (yI [(dq,.ref (q+4)),(eh,.str n.s)]) (eJ (bQ o5.1 1)) (H.set q (.list (w.seen.map Row.V++[(Row.get n).V]))) false (H.set q (.list (w.seen.map Row.V++[(Row.get n).V]))):=by
  cases n with
  |x=>cases bc
  |_=>exact I
 exact aq.hQ (fi:=⟨qO,[dq,eh],[],o5.1,none,false⟩) (vs:=[.ref (q+4),.str n.s]) (cN:=[(dq,.ref (q+4)),(eh,.str n.s)]) (by kernel_rfl) rfl (by kernel_rfl) rfl (by kernel_rfl) <|
  ab.cons (J4 x ak n)<|ab.cons (ah.iff f0 ab.nil)<|ab.cons g (fin bc)
end
section
set_option backward.match.sparseCases false
noncomputable def Row.w:Row→List Mine.V
 |.get n=>[.str yG,.str n.s]
 |.b7 n _=>[.str eh,.str n.s]
 |.mem o _=>[.str sG,.str o.s,.str iK]
 |.c6 o s _=>[.str sH,.str o.s,.str s.s]
noncomputable def Row.v:Row→b5
 |.get _=>.un |.b7 _ v=>v |.mem _ v=>v |.c6 _ _ v=>v
noncomputable def J7:Row→Bool
 |.get _=>true |_=>false
noncomputable def aQ.row (w:aQ) (r:Row):aQ:=match r with
 |.b7 .x v=>(w.put v).d4 (.b7 .x v)
 |r=>w.d4 r
section
variable {q sk a b i:Nat}{H H' G:List aj}{w w' : aQ}{am bW:Nat→Nat}{ρ ρ' mC:Nat→cn}{o y:aj}{v:b5}{d:b0}{x u:V}{vs:List V}{fs:List (Str×V)}{s:Str}{n:b9}{r:Row}
noncomputable abbrev vp (ls:List (Str×V)):a5:=⟨tr.scope,[],none,ls⟩
noncomputable abbrev mE (q:Nat) (r:Row):List (Str×V):=[(dq,.ref (q+4)),(JZ,.tup r.w),(dw,r.v.V)]
theorem J8 (x:cK q H w am ρ) (ak:w.seen.length<aL) (bR:J7 r=false):ab 5 (vp (mE q r)) (o6.1.drop 1) H .next (mE q r) (H.set q (.list (w.seen.map Row.V++[r.V]))) :=
 ab.one (ah.expr (ai.a0 (v:=.ref q) (first:=[.ref q]) (vs:=[r.V]) (ai.sub I I (iQ (s:=ox) x.dict (by kernel_rfl))) (qh x.seen) (GE.cons (ai.bin (a:=.tup r.w) (b:=.tup [r.v.V]) I I (fun s _=>by cases r <;> first |rfl |cases bR)) GE.nil) ((aq.app x.seen (by rw[List.length_map];exact ak)).mono (by decide))))
theorem J9 (x:cK q H w am ρ) {w1:aQ}{H1 H2:List aj}(f0:ah 5 (vp (mE q r)) (bQ o6.1 0) H .next (mE q r) H1) (g:ab 5 (vp (mE q r)) (o6.1.drop 1) H1 .next (mE q r) H2):aq 6 (.obj (.ref 904)) [.ref (q+4),.tup r.w,r.v.V] H .none H2 :=
 aq.fu (fi:=⟨tr,[dq,JZ,dw],[],o6.1,none,false⟩) (vs:=[.ref (q+4),.tup r.w,r.v.V]) (cN:=mE q r) (by kernel_rfl) rfl (by kernel_rfl) rfl (by kernel_rfl) (ab.cons f0 g)
theorem qm (x:cK q H w am ρ) (ak:w.seen.length<aL) (bR:J7 r=false):gj (fun H'=>aq 6 (.obj (.ref 904)) [.ref (q+4),.tup r.w,r.v.V] H .none H') fun H'=>cK q H' (w.row r) am ρ∧fk ρ H H':=by
 have sk:oT (ρ q)=false:=by rw[x.rs];rfl
 have c0:GT 5 (vp (mE q r)) (eJ (bQ o6.1 0)) H false H→w.row r=w.d4 r→gj (fun H'=>aq 6 (.obj (.ref 904)) [.ref (q+4),.tup r.w,r.v.V] H .none H') fun H'=>cK q H' (w.row r) am ρ∧fk ρ H H':=fun t e=>by
  rw[e]
  exact ⟨_,J9 (w1:=w) x (ah.iff t ab.nil) (J8 x ak bR),x.d4,.set sk⟩
 cases r with
 |get n=>cases bR
 |mem o v=>exact c0 (by cases o <;> exact I) rfl
 |c6 o s v=>exact c0 (by cases o <;> cases s <;> exact I) rfl
 |b7 n v =>
  cases n with
  |v=>exact c0 I rfl
  |w=>exact c0 I rfl
  |x =>
   have y:=x.put (v:=v)
   have c:=x.cell _ _ (List.getElem?_eq_getElem x.cur)
   have Xu:oT (ρ (am w.cur))=false:=by rw[x.rc _ x.cur];rfl
   have f0:ah 5 (vp (mE q (.b7 .x v))) (bQ o6.1 0) H .next (mE q (.b7 .x v)) (H.set (am w.cur) (.list [v.V])) :=
    ah.cm I (ab.one (ah.assign (v:=v.V) I (bq.sub (a:=.int ((0:Nat):Int)) (ai.sub I I (iQ (s:=gK) x.dict (by kernel_rfl))) I (xG c rfl))))
   exact ⟨_,J9 (w1:=w) x f0 (J8 y ak bR),y.d4,fk.trans (.set Xu) .refl (.set sk)⟩
end
end
noncomputable abbrev vq:Str:=⟨⟨[71,69,84,71,76,79,66]⟩⟩
noncomputable abbrev yJ:Str:=⟨⟨[71,69,84,67,69,76,76]⟩⟩
noncomputable abbrev Ka:Str:=⟨⟨[83,69,84,71,76,79,66]⟩⟩
noncomputable abbrev Kb:Str:=⟨⟨[83,69,84,67,69,76,76]⟩⟩
noncomputable abbrev Kc:Str:=⟨⟨[70,82,69,83,72]⟩⟩
noncomputable abbrev Kd:Str:=⟨⟨[67,76,79,83,85,82,69]⟩⟩
noncomputable abbrev Ke:Str:=⟨⟨[67,79,78,83,84]⟩⟩
noncomputable abbrev Kf:Str:=⟨⟨[70,79,82,73,78]⟩⟩
noncomputable abbrev Kg:Str:=⟨⟨[83,87,65,80]⟩⟩
noncomputable abbrev CK:Str:=⟨⟨[82,79,84,51]⟩⟩
noncomputable abbrev CL:Str:=⟨⟨[83,69,84,80,82,79,80]⟩⟩
noncomputable abbrev CM:Str:=⟨⟨[83,69,84,69,76,69,77]⟩⟩
noncomputable abbrev Kh:Str:=⟨⟨[80,79,80]⟩⟩
noncomputable abbrev Ki:Str:=⟨⟨[84,79,75,69,89]⟩⟩
noncomputable abbrev sN:Str:=⟨⟨[78,69,88,84,73,78]⟩⟩
noncomputable abbrev CN:Str:=⟨⟨[74,77,80]⟩⟩
noncomputable abbrev vr:Str:=⟨⟨[74,70]⟩⟩
noncomputable abbrev CO:Str:=⟨⟨[84,72,82,79,87]⟩⟩
noncomputable abbrev nC:Str:=⟨⟨[119,111,114,100]⟩⟩
noncomputable abbrev nD:Str:=⟨⟨[115,116,97,99,107]⟩⟩
noncomputable abbrev kO:Str:=⟨⟨[117,110,105,116]⟩⟩
noncomputable abbrev dd:Str:=⟨⟨[102,97,117,108,116]⟩⟩
noncomputable abbrev Kj:Str:=⟨⟨[116,111,112]⟩⟩
noncomputable abbrev oU:Str:=⟨⟨[107,101,121]⟩⟩
noncomputable abbrev yK:Str:=⟨⟨[115,112,111,116]⟩⟩
noncomputable abbrev Xv:Str:=⟨⟨[105,110,115,101,114,116]⟩⟩
noncomputable abbrev CP (ls:List (Str×V)):a5:=⟨qR.scope,[],none,ls⟩
noncomputable abbrev lx (q sk:Nat) (W:Str) (a U:V) (r:List (Str×V)):List (Str×V):=(dq,.ref (q+4))::(nC,.str W)::(jP,a)::(nD,.ref sk)::(kO,U)::r
section
variable {cD:Nat→Option aj}{q sk i r n:Nat}{H H' H1 G:List aj}{w w' : aQ}{am bW:Nat→Nat}{ρ ρ' mC:Nat→cn}{st st' : List ck}{v:b5}{d:b0}{a x y z u U f:V}{vs:List V}{W:Str}{e:List (Str×V)}{ls:List (Str×V)}{s:ck}{C K d7 j1 L:List V}
theorem cp.upd (x:cp cD q sk H st w am ρ) (y:cK q H' w' bW ρ') (k:fk ρ H H') (e:gB ρ ρ' H):cp cD q sk H' st w' bW ρ' :=
 ⟨y,k.k sk _ x.hW (by rw[x.ip];rfl),(e _ _ x.hW).trans x.ip,fun j a l h=>let ⟨h1,af⟩:=x.keys j a l h;⟨k.k a _ h1 (by rw[af];rfl),(e _ _ h1).trans af⟩,fun a o h=>let ⟨h1,af⟩:=x.qk a o h;⟨k.k a _ h1 (by rw[af];rfl),(e _ _ h1).trans af⟩⟩
theorem cp.set (x:cp cD q sk H st w am ρ) (h:∀(j a:Nat) (l:List b0),st'[j]?=some (.k a l)→st[j]?=some (.k a l)):cp cD q sk (H.set sk (.list (st'.map ck.V))) st' w am ρ :=
 ⟨x.wr.other (by rw[x.ip];rfl),nB x.hW,x.ip,fun j a l e=>let ⟨h1,af⟩:=x.keys j a l (h j a l e);⟨eL af x.ip cn.noConfusion h1,af⟩,fun a o h=>let ⟨h1,af⟩:=x.qk a o h;⟨eL af x.ip cn.noConfusion h1,af⟩⟩
noncomputable def kP:ck→Bool
 |.k _ _=>false |_=>true
theorem yL {ext:List ck}(j a:Nat) (l:List b0) (h:st[j]?=some (.k a l)):(st++ext)[j]?=some (.k a l):=(List.getElem?_append_left (iq h)).trans h
theorem CQ:∀{ext:List ck}(_:ext.all kP=true) (j a:Nat) (l:List b0),(st++ext)[j]?=some (.k a l)→st[j]?=some (.k a l):=fun {ext} he j a l h=>by
 by_cases c:j<st.length
 ·rwa [List.getElem?_append_left c] at h
 ·rw[List.getElem?_append_right (Nat.le_of_not_lt c)] at h
  have:=List.all_eq_true.mp he _ (List.mem_of_getElem? h)
  cases this
theorem cp.push (x:cp cD q sk H st w am ρ) (ak:kP s=true):cp cD q sk (H.set sk (.list (st.map ck.V++[s.V]))) (st++[s]) w am ρ:=by
 have:=x.set (st':=st++[s]) (CQ (by simp[ak]))
 rwa [List.map_append] at this
theorem cp.top (x:cp cD q sk H (st++[s]) w am ρ):H[sk]?=some (.list (st.map ck.V++[s.V])):=by have:=x.hW;rwa [List.map_append] at this
theorem cp.pop (x:cp cD q sk H (st++[s]) w am ρ):cp cD q sk (H.set sk (.list (st.map ck.V))) st w am ρ:=x.set yL
theorem aq.ly (x:cp cD q sk H (st++[s]) w am ρ):aq 1 (.obj (.builtin "list.pop")) [.ref sk] H s.V (H.set sk (.list (st.map ck.V))):=aq.pop x.top
theorem aq.pushS (x:cp cD q sk H st w am ρ) (ak:st.length<aL):aq 1 (.obj (.builtin "list.append")) [.ref sk,s.V] H .none (H.set sk (.list (st.map ck.V++[s.V]))):=aq.app x.hW (by rw[List.length_map];exact ak)
theorem mF (x:cp cD q sk H st w am ρ):kf (.ref sk) JD ⟨H,True⟩=some (.obj (.builtin "list.append"),[.ref sk]):=qh x.hW
theorem j2 (x:cp cD q sk H st w am ρ):kf (.ref sk) J0 ⟨H,True⟩=some (.obj (.builtin "list.pop"),[.ref sk]):=CJ x.hW
theorem Kk {k n:Nat}(h:k+1≤n):idx (-((k+1:Nat):Int)) n=some (n - (k+1)):=by
 unfold idx
 rw[decide_eq_false (by omega),decide_eq_true (by omega)]
 show some _=_
 congr 1;omega
theorem qn (h:H[r]?=some (.list (vs++[x]))):jx (.ref r) (.int (-1)) ⟨H,True⟩=some x:=by
 refine (bj (congrArg dA h)).trans ((bj (f:=fun j=>(vs++[x])[j]?) ((Kk (k:=0) (by simp)).trans (congrArg some ?_))).trans (List.getElem?_concat_length))
 simp
theorem CR {st:ax}{k:Str}{fs Kl:List (Str×V)}(e:st.H=H) (d:H[r]?=some (.dict fs)) (hl:(look k fs).isSome=true) (h:d8 k x fs=Kl):nS (.ref r) (.str k) x st=some ⟨H.set r (.dict Kl),st.aa⟩:=by
 subst e h
 obtain ⟨u,hl⟩:=Option.isSome_iff_exists.mp hl
 exact (bj (congrArg tK d)).trans (dE hl)
theorem jl (ak:ki ⟨qR,[dq,nC,jP,nD,kO],[],qS.1,none,false⟩ [.ref (q+4),.str W,a,.ref sk,U]=some [.ref (q+4),.str W,a,.ref sk,U]:=by rfl)
 (g:ah 8 (CP (lx q sk W a U [(dd,.none)])) (bQ qS.1 1) H .next (lx q sk W a U ((dd,f)::e)) H'):aq 9 (.obj (.ref 930)) [.ref (q+4),.str W,a,.ref sk,U] H f H' :=
 aq.hQ (fi:=⟨qR,[dq,nC,jP,nD,kO],[],qS.1,none,false⟩) (vs:=[.ref (q+4),.str W,a,.ref sk,U]) (cN:=lx q sk W a U []) (by kernel_rfl) ak (by kernel_rfl) rfl (by kernel_rfl) <|
  ab.cons (bJ:=lx q sk W a U [(dd,.none)]) I<|ab.cons g<|ab.ret (ah.ret I)
theorem Xw (x:cp cD q sk H (st++[s]) w am ρ):aq 9 (.obj (.ref 930)) [.ref (q+4),.str Kh,a,.ref sk,U] H .none (H.set sk (.list (st.map ck.V))) :=
 jl (e:=[]) (g:=ah.iff I<|ab.bx I<|ab.bx I<|ab.bx I<|ab.bx I<|ab.bx I<|ab.bx I<|ab.bx I<|ab.bx I<|ab.bx I<|ab.eP I <|
  ab.one (ah.expr (ai.a0 (v:=.ref sk) (first:=[.ref sk]) (vs:=[]) I (j2 x) GE.nil ((aq.ly x).mono (by decide)))))
theorem Xx:aq 9 (.obj (.ref 930)) [.ref (q+4),.str Ki,a,.ref sk,U] H .none H :=
 jl (e:=[]) (g:=ah.iff I<|ab.bx I<|ab.bx I<|ab.bx I<|ab.bx I<|ab.bx I<|ab.bx I<|ab.bx I<|ab.bx I<|ab.bx I<|ab.bx I ab.nil)
theorem Xy {k:Int}{i:Nat}(x:cp cD q sk H st w am ρ) (ak:st.length<aL) (aM:K[i]?=some (.int k)) (ar:k=7∨k=8∨k=9):aq 9 (.obj (.ref 930)) [.ref (q+4),.str Ke,.int i,.ref sk,gN C K d7 j1 L] H .none (H.set sk (.list (st.map ck.V++[(ck.s (vj k)).V]))) :=
 jl (e:=[]) (g:=ah.iff I<|ab.bx I<|ab.bx I<|ab.bx I<|ab.eP I <|
  ab.one (ah.expr (ai.a0 (v:=.ref sk) (first:=[.ref sk]) (vs:=[(ck.s (vj k)).V]) I (mF x) (GE.cons (ai.bI (g:=.obj (.type "str")) (vs:=[.int k]) I (GE.cons (ai.sub (v:=.aO K) (a:=.int i) I I (rV aM)) GE.nil)
   (by rcases ar with rfl |rfl |rfl <;> exact I)) GE.nil) ((aq.pushS x ak).mono (by decide)))))
theorem Xz (x:cp cD q sk H st w am ρ) (ak:st.length<aL) (bY:w.held.length<aL):gj (fun H'=>aq 9 (.obj (.ref 930)) [.ref (q+4),.str Kd,a,.ref sk,U] H .none H') fun H'=>cp cD q sk H' (st++[.s .fn]) w.hold am ρ:=by
 have y:=x.wr.hold
 have z:=x.upd y (.set (by rw[x.wr.gP];rfl)) .refl
 exact ⟨_,jl (e:=[]) (g:=ah.iff I<|ab.bx I<|ab.bx I<|ab.eP I <|
  ab.cons (ah.expr (ai.a0 (v:=.ref (q+3)) (first:=[.ref (q+3)]) (vs:=[.ref (am w.cur)]) (ai.sub I I (iQ (s:=rN) x.wr.dict (by kernel_rfl))) (qh x.wr.held) (GE.cons (ai.sub I I (iQ (s:=gK) x.wr.dict (by kernel_rfl))) GE.nil) ((aq.app x.wr.held (by rw[List.length_map];exact bY)).mono (by decide)))) <|
  ab.one (ah.expr (ai.a0 (v:=.ref sk) (first:=[.ref sk]) (vs:=[(ck.s .fn).V]) I (mF z) I ((aq.pushS z ak).mono (by decide))))),z.push rfl⟩
theorem XA (x:cp cD q sk H st w am ρ):mD (fun H' bW ρ'=>aq 9 (.obj (.ref 930)) [.ref (q+4),.str Kc,a,.ref sk,U] H .none H') fun H' bW ρ'=>cp cD q sk H' st (w.fresh .un) bW ρ':=by
 have y:=x.wr.fresh (v:=.un)
 have d:(H++[aj.list [b5.un.V]])[q+4]?=some (.dict (jk q (am w.cur))):=cY x.wr.dict
 refine ⟨_,_,_,jl (e:=[]) (g:=ah.iff I<|ab.bx I<|ab.eP I <|
  ab.one (ah.assign (v:=.ref H.length) (ai.list (vs:=[b5.un.V]) I) (bq.sub (v:=.ref (q+4)) (a:=.str gK) (H3:=(H++[aj.list [b5.un.V]]).set (q+4) (.dict (jk q H.length))) I I fun s e=>?_))),x.upd y (fk.trans .ext .refl (.set (by rw[x.wr.a7];rfl))) .up⟩
 exact CR e d (by kernel_rfl) (by kernel_rfl)
end
section
variable {d acc a k:Nat}{fr:a5}{H H1 H2 H3:List aj}{elt t it:PySem.Expr}{ifs:List PySem.Expr}{src:Src}{v x:V}{xs:List V}{ls:List (Str×V)}{dz:Pos}{i:Int}{sc:Scope}
theorem ai.lc (h:ai d fr it H v H1) (ak:srcOf v ⟨H1,True⟩=some src) (c8:pf fr sc t it i=true)
 (af:cX d ⟨relabel fr sc,pe sc fr.cs,none,[]⟩ elt t ifs src 0 H1.length (H1++[.list []]) H2):ai d fr (.ListComp elt [⟨t,it,ifs,i⟩] sc dz) H (.ref H1.length) H2:=fun aa o=>by
 obtain ⟨e7,fa,eN⟩:=h aa o
 obtain ⟨eg,es,dD⟩:=af e7 fa
 exact ⟨eg,es,(eN.and dD).step fun N n bc b=>IY.trans ((en c8).trans ((bj b.1).trans ((bj (ak:srcOf v ⟨H1,e7⟩=some src)).trans (dE b.2))))⟩
theorem cX.yM (h:itemAt src k (H1++[.list xs])=some (some v)) (bT:(isNm t&&i0 src t)=true) (h1:bq d fr t v (H1++[.list xs]) ls (H1++[.list xs])) (af:ai d (fr.up ls) elt (H1++[.list xs]) x (H1++[.list xs])) (bA:xs.length<aL)
 (aB:cX d (fr.up ls) elt t [] src (k+1) H1.length (H1++[.list (xs++[x])]) H3):cX d fr elt t [] src k H1.length (H1++[.list xs]) H3 :=
 cX.step h bT h1 af fe bA (by rw[rX];exact aB)
end
section
variable {cD:Nat→Option aj}{q sk i r n:Nat}{H H' H1 G:List aj}{w w' : aQ}{am bW:Nat→Nat}{ρ ρ' mC:Nat→cn}{st st' : List ck}{v:b5}{d o p:b0}{a x y z u U f:V}{vs us:List V}{W:Str}{e:List (Str×V)}{ls:List (Str×V)}{s:ck}{C K d7 j1 L:List V}
noncomputable def gk (n:b9) (d:b0):V:=match eX n with |true=>(b5.bb d).V |false=>.none
noncomputable def fM (n:b9) (d:b0):ck:=match eX n with |true=>.n |false=>.s (.gi d)
theorem Km {n:b9}(x:cp cD q sk H st w am ρ) (ak:st.length<aL) (h1:w.seen.length<aL) (bc:hC n=false) (aM:K[i]?=some (.str n.s)) :
 gj (fun H'=>aq 9 (.obj (.ref 930)) [.ref (q+4),.str vq,.int i,.ref sk,gN C K d7 j1 L] H (gk n (w.getD n).1) H') fun H'=>cp cD q sk H' (st++[fM n (w.getD n).1]) (w.getD n).2 am ρ:=by
 obtain ⟨H1,g,y,k⟩:=J6 x.wr h1 bc
 have z:=x.upd y k .refl
 refine ⟨_,?_,z.push (by unfold fM;cases eX n <;> rfl)⟩
 have e:sM n (w.getD n).1=.tup [(fM n (w.getD n).1).V,gk n (w.getD n).1]:=by unfold sM fM gk;cases eX n <;> rfl
 rw[e] at g
 have g1:ai 8 (CP (lx q sk vq (.int i) (gN C K d7 j1 L) [(dd,.none)])) (eJ (bQ (sB (bQ qS.1 1)) 0)) H (.tup [(fM n (w.getD n).1).V,gk n (w.getD n).1]) H1 :=
  ai.bI (g:=.obj (.ref 897)) (vs:=[.ref (q+4),.str n.s]) I (GE.cons I (GE.cons (ai.iff I (ai.sub (v:=.aO K) (a:=.int i) I I (rV aM))) GE.nil)) (g.mono (by decide))
 exact jl (e:=[(dw,(fM n (w.getD n).1).V)]) (g:=ah.cm I (ab.cons (bJ:=lx q sk vq (.int i) (gN C K d7 j1 L) [(dd,gk n (w.getD n).1),(dw,(fM n (w.getD n).1).V)]) (ah.assign g1 I) (ab.one (ah.expr (ai.a0 (v:=.ref sk) (first:=[.ref sk]) (vs:=[(fM n (w.getD n).1).V]) I (mF z) I ((aq.pushS z ak).mono (by decide)))))))
theorem XB (x:cp cD q sk H st w am ρ) (ak:st.length<aL) (h1:w.seen.length<aL) (aV:w.cells[w.cur]?=some v) :
 gj (fun H'=>aq 9 (.obj (.ref 930)) [.ref (q+4),.str yJ,a,.ref sk,U] H .none H') fun H'=>cp cD q sk H' (st++[.s v]) (w.d4 (.get .x)) am ρ:=by
 have z:=x.upd (x.wr.d4 (r:=.get .x)) (.set (by rw[x.wr.rs];rfl)) .refl
 have g1:ai 8 (CP (lx q sk yJ a U [(dd,.none)])) (eJ (bQ (sB (bQ qS.1 1)) 0)) H (.tup [v.V,.none]) (H.set q (.list (w.seen.map Row.V++[(Row.get .x).V]))) :=
  ai.bI (g:=.obj (.ref 897)) (vs:=[.ref (q+4),.str dN]) I (GE.cons I (GE.cons (ai.cm I I) GE.nil)) ((J5 x.wr h1 aV).mono (by decide))
 exact ⟨_,jl (e:=[(dw,v.V)]) (g:=ah.cm I (ab.cons (bJ:=lx q sk yJ a U [(dd,.none),(dw,v.V)]) (ah.assign g1 I) (ab.one (ah.expr (ai.a0 (v:=.ref sk) (first:=[.ref sk]) (vs:=[(ck.s v).V]) I (mF z) I ((aq.pushS z ak).mono (by decide))))))),z.push rfl⟩
theorem XC {n:fU}(x:cp cD q sk H (st++[.s v]) w am ρ) (h1:w.seen.length<aL) (aM:K[i]?=some (.str n.s)) :
 gj (fun H'=>aq 9 (.obj (.ref 930)) [.ref (q+4),.str Ka,.int i,.ref sk,gN C K d7 j1 L] H .none H') fun H'=>cp cD q sk H' (st++[.s v]) (w.row (.b7 n v)) am ρ:=by
 obtain ⟨H1,g,y,k⟩:=qm (r:=.b7 n v) x.wr h1 rfl
 exact ⟨_,jl (e:=[]) (g:=ah.iff I<|ab.eP I<|ab.one (ah.expr (ai.bI (g:=.obj (.ref 904)) (vs:=[.ref (q+4),.tup [.str eh,.str n.s],v.V]) I
  (GE.cons I (GE.cons (ai.tup (GE.cons I (GE.cons (ai.iff I (ai.sub (v:=.aO K) (a:=.int i) I I (rV aM))) GE.nil))) (GE.cons (ai.sub (a:=.int (-1)) I I (qn x.top)) GE.nil))) (g.mono (by decide))))),x.upd y k .refl⟩
theorem XD (x:cp cD q sk H (st++[.s v]) w am ρ) (h1:w.seen.length<aL) :
 gj (fun H'=>aq 9 (.obj (.ref 930)) [.ref (q+4),.str Kb,a,.ref sk,U] H .none H') fun H'=>cp cD q sk H' (st++[.s v]) (w.row (.b7 .x v)) am ρ:=by
 obtain ⟨H1,g,y,k⟩:=qm (r:=.b7 .x v) x.wr h1 rfl
 exact ⟨_,jl (e:=[]) (g:=ah.iff I<|ab.eP I<|ab.one (ah.expr (ai.bI (g:=.obj (.ref 904)) (vs:=[.ref (q+4),.tup [.str eh,.str dN],v.V]) I
  (GE.cons I (GE.cons (ai.tup (GE.cons I (GE.cons (ai.cm I I) GE.nil))) (GE.cons (ai.sub (a:=.int (-1)) I I (qn x.top)) GE.nil))) (g.mono (by decide))))),x.upd y k .refl⟩
theorem aq.XE (h:H[r]?=some (.list (vs++[x,y]))):aq 1 (.obj (.builtin "list.pop")) [.ref r,.int (-2)] H x (H.set r (.list (vs++[y]))):=aq.bi fun aa=>by
 show nX _ _ _ _=_
 unfold nX
 rw[if_neg (by decide),if_pos rfl]
 refine (bj (congrArg dA h)).trans ((bj ((Kk (k:=1) (by simp)).trans (congrArg some (by simp:_=vs.length)))).trans ?_)
 simp[List.eraseIdx_append_of_length_le]
theorem aq.ins {k:Nat}(h:H[r]?=some (.list (vs++us))) (ar:k=vs.length) (ak:(vs++us).length<aL):aq 1 (.obj (.builtin "list.insert")) [.ref r,.int k,x] H .none (H.set r (.list (vs++x::us))):=aq.Il ak fun aa=>by
 show wB _ _ _ _ _=_
 unfold wB
 rw[if_pos rfl]
 subst ar
 refine (bj (congrArg dA h)).trans ((en (Bool.and_eq_true_iff.mpr ⟨decide_eq_true (Int.natCast_nonneg _),Nat.ble_eq_true_of_le (by simp)⟩)).trans ?_)
 simp
theorem XF {s t:ck}(h1:kP s=true) (af:kP t=true) (x:cp cD q sk H (st++[s,t]) w am ρ) (ak:st.length+1<aL):gj (fun H'=>aq 9 (.obj (.ref 930)) [.ref (q+4),.str Kg,a,.ref sk,U] H .none H') fun H'=>cp cD q sk H' (st++[t,s]) w am ρ:=by
 have e:H[sk]?=some (.list (st.map ck.V++[s.V,t.V])):=by have:=x.hW;rwa [List.map_append] at this
 have y:cp cD q sk (H.set sk (.list (st.map ck.V++[t.V]))) (st++[t]) w am ρ:=by
  have:=x.set (st':=st++[t]) fun j a l h=>yL j a l (CQ (by simp[af]) j a l h)
  rwa [List.map_append] at this
 have z:=y.push h1
 have p:=(aq.pushS (s:=s) y (by simp;omega)).mono (by decide:1≤8)
 refine ⟨_,jl (e:=[]) (g:=ah.iff I<|ab.bx I<|ab.bx I<|ab.bx I<|ab.bx I<|ab.bx I<|ab.eP I <|
  ab.one (ah.expr (ai.a0 (v:=.ref sk) (first:=[.ref sk]) (vs:=[s.V]) I (mF x) (GE.cons (ai.a0 (v:=.ref sk) (first:=[.ref sk]) (vs:=[.int (-2)]) I (j2 x) I ((aq.XE e).mono (by decide))) GE.nil) p))),?_⟩
 have:=z
 rwa [List.append_assoc] at this
end
section
variable {H:List aj}{r:Nat}{vs:List V}
theorem XG (h:H[r]?=some (.list vs)):kf (.ref r) Xv ⟨H,True⟩=some (.obj (.builtin "list.insert"),[.ref r]):=by
 exact (l9 (congrArg lT h)).trans ((bj (congrArg dA h)).trans rfl)
theorem aq.len (h:H[r]?=some (.list vs)) {k:Nat}(ar:vs.length=k:=by simp):aq 1 (.obj (.builtin "len")) [.ref r] H (.int k) H:=aq.bi fun aa=>by
 show nW _ _ _=_
 unfold nW
 rw[if_pos rfl]
 subst ar
 exact dE (congrArg dA h)
end
section
variable {cD:Nat→Option aj}{q sk i r n:Nat}{H H' H1 G:List aj}{w w' : aQ}{am bW:Nat→Nat}{ρ ρ' mC:Nat→cn}{st st' : List ck}{v:b5}{d o p:b0}{a x y z u U f:V}{vs us:List V}{W:Str}{e:List (Str×V)}{ls:List (Str×V)}{s t c:ck}{C K d7 j1 L:List V}
theorem XH (h1:kP s=true) (af:kP t=true) (aB:kP c=true) (x:cp cD q sk H (st++[s,t,c]) w am ρ) (ak:st.length+2<aL):gj (fun H'=>aq 9 (.obj (.ref 930)) [.ref (q+4),.str CK,a,.ref sk,U] H .none H') fun H'=>cp cD q sk H' (st++[c,s,t]) w am ρ:=by
 have gq:cp cD q sk H ((st++[s,t])++[c]) w am ρ:=by rw[List.append_assoc];exact x
 have y:=gq.pop
 have ao:(H.set sk (.list ((st++[s,t]).map ck.V)))[sk]?=some (.list (st.map ck.V++[s.V,t.V])):=by have:=y.hW;rwa [List.map_append] at this ⊢
 have z:=y.set (st':=st++[c,s,t]) fun j a l h=>yL j a l (CQ (by simp[h1,af,aB]) j a l h)
 have ins:=aq.ins (x:=c.V) (k:=st.length) ao (by simp) (by simp;omega)
 have hl:(st++[c,s,t]).map ck.V=st.map ck.V++c.V::[s.V,t.V]:=by simp
 rw[hl] at z
 refine ⟨_,jl (e:=[(Kj,c.V)]) (g:=ah.iff I<|ab.bx I<|ab.bx I<|ab.bx I<|ab.bx I<|ab.bx I<|ab.bx I<|ab.eP I <|
  ab.cons (bJ:=lx q sk CK a U [(dd,.none),(Kj,c.V)]) (ah.assign (ai.a0 (v:=.ref sk) (first:=[.ref sk]) (vs:=[]) I (j2 x) GE.nil ((aq.ly gq).mono (by decide))) (bq.name (by kernel_rfl))) <|
  ab.one (ah.expr (ai.a0 (v:=.ref sk) (first:=[.ref sk]) (vs:=[.int st.length,c.V]) I (XG ao) (GE.cons (ai.bin (a:=.int ((st.length+2:Nat):Int)) (b:=.int 2) (ai.bI (g:=.obj (.builtin "len")) (vs:=[.ref sk]) I I ((aq.len ao).mono (by decide))) I (fun s _=>?_)) (GE.cons I GE.nil)) (ins.mono (by decide))))),z⟩
 show some (V.int _,s)=_
 congr 3;omega
theorem XI (x:cp cD q sk H (st++[.s (.gi o),.s v]) w am ρ) (ak:st.length<aL) (h1:w.seen.length<aL) (aM:K[i]?=some (.str iK)) :
 gj (fun H'=>aq 9 (.obj (.ref 930)) [.ref (q+4),.str CL,.int i,.ref sk,gN C K d7 j1 L] H .none H') fun H'=>cp cD q sk H' (st++[.s v]) (w.row (.mem o v)) am ρ:=by
 have df:cp cD q sk H ((st++[.s (.gi o)])++[.s v]) w am ρ:=by rw[List.append_assoc];exact x
 have eI:=df.pop
 have l4:=eI.pop
 obtain ⟨H1,g,y,k⟩:=qm (r:=.mem o v) l4.wr h1 rfl
 have l5:=l4.upd y k .refl
 exact ⟨_,jl (e:=[(oU,v.V),(lh,cg o)]) (g:=ah.iff I<|ab.bx I<|ab.bx I<|ab.bx I<|ab.bx I<|ab.bx I<|ab.bx I<|ab.bx I<|ab.eP I <|
  ab.cons (bJ:=lx q sk CL (.int i) (gN C K d7 j1 L) [(dd,.none),(oU,v.V),(lh,cg o)]) (ah.mh (us:=[v.V,cg o]) (xs:=[oU,lh]) (ai.tup (GE.cons (ai.a0 (v:=.ref sk) (first:=[.ref sk]) (vs:=[]) I (j2 df) GE.nil ((aq.ly df).mono (by decide))) (GE.cons (ai.a0 (v:=.ref sk) (first:=[.ref sk]) (vs:=[]) I (j2 eI) GE.nil ((aq.ly eI).mono (by decide))) GE.nil))) (by kernel_rfl) (by kernel_rfl) (by kernel_rfl)) <|
  ab.cons (ah.expr (ai.bI (g:=.obj (.ref 904)) (vs:=[.ref (q+4),.tup [.str sG,cg o,.str iK],v.V]) I (GE.cons I (GE.cons (ai.tup (GE.cons I (GE.cons I (GE.cons (ai.sub (v:=.aO K) (a:=.int i) I I (rV aM)) GE.nil)))) I)) (g.mono (by decide)))) <|
  ab.one (ah.expr (ai.a0 (v:=.ref sk) (first:=[.ref sk]) (vs:=[(ck.s v).V]) I (mF l5) I ((aq.pushS l5 ak).mono (by decide))))),l5.push rfl⟩
theorem XJ (x:cp cD q sk H (st++[.s (.gi o),.s (.gi p),.s v]) w am ρ) (ak:st.length<aL) (h1:w.seen.length<aL) :
 gj (fun H'=>aq 9 (.obj (.ref 930)) [.ref (q+4),.str CM,a,.ref sk,U] H .none H') fun H'=>cp cD q sk H' (st++[.s v]) (w.row (.c6 o p v)) am ρ:=by
 have df:cp cD q sk H ((st++[.s (.gi o),.s (.gi p)])++[.s v]) w am ρ:=by rw[List.append_assoc];exact x
 have eI:=df.pop
 have CS:cp cD q sk (H.set sk (.list ((st++[ck.s (.gi o),.s (.gi p)]).map ck.V))) ((st++[.s (.gi o)])++[.s (.gi p)]) w am ρ:=by rw[List.append_assoc];exact eI
 have l4:=CS.pop
 have l5:=l4.pop
 obtain ⟨H1,g,y,k⟩:=qm (r:=.c6 o p v) l5.wr h1 rfl
 have px:=l5.upd y k .refl
 exact ⟨_,jl (e:=[(oU,v.V),(yK,cg p),(lh,cg o)]) (g:=ah.iff I<|ab.bx I<|ab.bx I<|ab.bx I<|ab.bx I<|ab.bx I<|ab.bx I<|ab.bx I<|ab.bx I<|ab.eP I <|
  ab.cons (bJ:=lx q sk CM a U [(dd,.none),(oU,v.V),(yK,cg p),(lh,cg o)]) (ah.mh (us:=[v.V,cg p,cg o]) (xs:=[oU,yK,lh]) (ai.tup (GE.cons (ai.a0 (v:=.ref sk) (first:=[.ref sk]) (vs:=[]) I (j2 df) GE.nil ((aq.ly df).mono (by decide))) (GE.cons (ai.a0 (v:=.ref sk) (first:=[.ref sk]) (vs:=[]) I (j2 CS) GE.nil ((aq.ly CS).mono (by decide))) (GE.cons (ai.a0 (v:=.ref sk) (first:=[.ref sk]) (vs:=[]) I (j2 l4) GE.nil ((aq.ly l4).mono (by decide))) GE.nil)))) (by kernel_rfl) (by kernel_rfl) (by kernel_rfl)) <|
  ab.cons (ah.expr (ai.bI (g:=.obj (.ref 904)) (vs:=[.ref (q+4),.tup [.str sH,cg o,cg p],v.V]) I I (g.mono (by decide)))) <|
  ab.one (ah.expr (ai.a0 (v:=.ref sk) (first:=[.ref sk]) (vs:=[(ck.s v).V]) I (mF px) I ((aq.pushS px ak).mono (by decide))))),px.push rfl⟩
end
noncomputable def b0.n:b0→Nat
 |.z=>0 |.o=>1 |.t=>2
section
variable {cD:Nat→Option aj}{q sk i r n:Nat}{H H' H1 G:List aj}{w w' : aQ}{am bW:Nat→Nat}{ρ ρ' mC:Nat→cn}{st st' : List ck}{v:b5}{d o p:b0}{a x y z u U f:V}{vs us:List V}{W:Str}{e:List (Str×V)}{ls:List (Str×V)}{s t c:ck}{C K d7 j1 L:List V}{l:List b0}
theorem cp.XK (x:cp cD q sk H st w am ρ):cp cD q sk ((H++[aj.list (l.map sL)]).set sk (.list (st.map ck.V++[.ref H.length]))) (st++[.k H.length l]) w am (j0 ρ H.length (.y st.length)):=by
 have ip:j0 ρ H.length (.y st.length) sk=.k:=(gB.up _ _ x.hW).trans x.ip
 refine ⟨((x.wr.role gB.up).ext).other (by rw[ip];rfl),(nB (cY x.hW)).trans (by rw[List.map_append];rfl),ip,fun j a m h=>?_,fun a o h=>let ⟨h1,af⟩:=x.qk a o h;⟨eL ((gB.up (u:=.y st.length) a _ h1).trans af) ip cn.noConfusion (cY h1),(gB.up (u:=.y st.length) a _ h1).trans af⟩⟩
 by_cases c:j<st.length
 ·rw[List.getElem?_append_left c] at h
  obtain ⟨h1,af⟩:=x.keys j a m h
  have aB:=(gB.up (u:=.y st.length) a _ h1).trans af
  exact ⟨eL aB ip cn.noConfusion (cY h1),aB⟩
 ·have lt:=iq h
  rw[List.length_append] at lt
  have dZ:j=st.length:=by simp at lt;omega
  subst dZ
  rw[List.getElem?_append_right (Nat.le_refl _),Nat.sub_self] at h
  cases h
  exact ⟨eL (ρ:=j0 ρ H.length (.y st.length)) ql ip cn.noConfusion fe,ql⟩
theorem Kn:aq 1 (.obj (.type "int")) [cg d] H (.int d.n) H:=by cases d <;> exact I
theorem Ko:aq 1 (.obj (.type "range")) [.int d.n] H (.cw 0 d.n) H:=by cases d <;> exact I
theorem Kp:srcOf (.cw 0 d.n) ⟨H,True⟩=some (.cw 0 d.n):=by cases d <;> rfl
theorem XM (x:cp cD q sk H (st++[.s (.gi d)]) w am ρ) (ak:st.length<aL):mD (fun H' a ρ'=>aq 9 (.obj (.ref 930)) [.ref (q+4),.str Kf,z,.ref sk,U] H .none H') fun H' a ρ'=>cp cD q sk H' (st++[.k a (keysOf d)]) w am ρ':=by
 have y:=x.pop
 have app:=aq.app (x:=.ref (H.set sk (.list (st.map ck.V))).length) (cY (H':=[aj.list ((keysOf d).map sL)]) y.hW) (by rw[List.length_map];exact ak)
 refine ⟨_,_,_,jl (e:=[]) (g:=ah.iff I<|ab.bx I<|ab.bx I<|ab.bx I<|ab.bx I<|ab.eP I <|
  ab.one (ah.expr (ai.a0 (v:=.ref sk) (first:=[.ref sk]) (vs:=[.ref (H.set sk (.list (st.map ck.V))).length]) I (mF x)
   (GE.cons (ai.lc (H1:=H.set sk (.list (st.map ck.V))) (v:=.cw 0 d.n) (src:=.cw 0 d.n) (ai.bI (g:=.obj (.type "range")) (vs:=[.int d.n]) I (GE.cons (ai.bI (g:=.obj (.type "int")) (vs:=[cg d]) I (GE.cons (ai.a0 (v:=.ref sk) (first:=[.ref sk]) (vs:=[]) I (j2 x) GE.nil ((aq.ly x).mono (by decide))) GE.nil) (Kn.mono (by decide))) GE.nil) (Ko.mono (by decide))) Kp (by kernel_rfl) ?_) GE.nil)
   (app.mono (by decide))))),y.XK⟩
 cases d with
 |z=>exact cX.done rfl (by kernel_rfl)
 |o=>exact cX.yM (v:=.int 0) rfl (by kernel_rfl) (bq.name (by kernel_rfl)) I (by unfold aL;decide) (cX.done rfl (by kernel_rfl))
 |t=>exact cX.yM (v:=.int 0) rfl (by kernel_rfl) (bq.name (by kernel_rfl)) I (by unfold aL;decide) (cX.yM (v:=.int 1) rfl (by kernel_rfl) (bq.name (by kernel_rfl)) I (by unfold aL;decide) (cX.done rfl (by kernel_rfl)))
end
noncomputable abbrev XN:Str:=⟨⟨[103,111,97,108]⟩⟩
section
variable {d:Nat}{fr:a5}{H H1 H2 H3 Cd:List aj}{e l r eb:PySem.Expr}{body:List Stmt}{bJ jK:List (Str×V)}{f:cA}{a b c u:V}{op ko:CmpOp}{p:Pos}{q:Bool}
theorem ib.done (h:GT d fr e H false H1):ib d fr e body H .next fr.ls H1:=h.step fun N n s s1 _ aS _ _=>bj aS
theorem ib.step (h:GT d fr e H true H1) (af:ab d fr body H1 .next bJ H2) (aB:ib d (fr.up bJ) e body H2 f jK H3):ib d fr e body H f jK H3 :=
 h.uC af aB fun N n s s1 s2 s3 _ aS bf dU _ _ _ _=>(bj aS).trans ((bj bf).trans dU)
theorem ib.out (h:GT d fr e H true H1) (af:ab d fr body H1 (.ret u) bJ H2):ib d fr e body H (.ret u) bJ H2 :=
 h.then af fun N n s s1 s2 _ aS bf _ _ _=>(bj aS).trans (bj bf)
theorem Kq {R:dR}{n:Nat}{st:ax}:q9 R n fr (.Compare l [op,ko] [r,eb] p) st=EX R n fr l (op,ko) (r,eb) st:=rfl
theorem GT.XO (h:ai d fr l H a H1) (af:ai d fr r H1 b H2) (aw:dY op a b ⟨H2,True⟩=some (false,⟨H2,True⟩)) (ak:gr eb=false:=by kernel_rfl):GT d fr (.Compare l [op,ko] [r,eb] p) H false H2 :=
 h.then af fun N n s s1 s2 _ aS bf _ _ aC=>(Kq (p:=p)).trans ((eU ak).trans ((bj aS).trans ((bj bf).trans (bj (uD aC aw)))))
theorem GT.XQ (h:ai d fr l H a H1) (af:ai d fr r H1 b H2) (aw:dY op a b ⟨H2,True⟩=some (true,⟨H2,True⟩)) (aB:ai d fr eb H2 c H3) (CT:dY ko b c ⟨H3,True⟩=some (q,⟨H3,True⟩)) (ak:gr eb=false:=by kernel_rfl):GT d fr (.Compare l [op,ko] [r,eb] p) H q H3 :=
 h.uC af aB fun N n s s1 s2 s3 _ aS bf dU _ _ aC cL=>(Kq (p:=p)).trans ((eU ak).trans ((bj aS).trans ((bj bf).trans ((bj (uD aC aw)).trans ((bj dU).trans (uD cL CT))))))
end
noncomputable def fl:List cS→Nat→Option (Nat×Int)
 |[],_=>none
 |h::r,p=>match decide (h.i≤p)&&decide (p<h.j) with
  |true=>some (h.g,h.d)
  |false=>fl r p
noncomputable abbrev vt (ls:List (Str×V)):a5:=⟨qT.scope,[],none,ls⟩
noncomputable abbrev lz (U:V) (p sk:Nat) (f:V) (r:List (Str×V)):List (Str×V):=(kO,U)::(fc,.int p)::(nD,.ref sk)::(dd,f)::r
noncomputable abbrev oV (h:cS):List (Str×V):=[(iM,.int h.i),(pR,.int h.j),(XN,.int h.g),(jN,.int h.d),(JL,.bool false)]
section
variable {cD:Nat→Option aj}{q sk p n:Nat}{H H' H1 G:List aj}{w w' : aQ}{am bW:Nat→Nat}{ρ ρ' mC:Nat→cn}{st st' : List ck}{v:b5}{U f:V}{ls:List (Str×V)}{C K d7 j1 L:List V}{h:cS}{hl:List cS}
theorem Kr {a b:Nat}{q:Bool}(e:decide (a≤b)=q):dY .LtE (.int (a:Nat)) (.int (b:Nat)) ⟨H,True⟩=some (q,⟨H,True⟩):=by
 subst e;show some (decide ((a:Int)≤b),_)=_;simp only[Int.ofNat_le]
theorem XR {a b:Nat}{q:Bool}(e:decide (a<b)=q):dY .Lt (.int (a:Nat)) (.int (b:Nat)) ⟨H,True⟩=some (q,⟨H,True⟩):=by
 subst e;show some (decide ((a:Int)<b),_)=_;simp only[Int.ofNat_lt]
theorem Ks {a b:Nat}{q:Bool}(e:decide (b<a)=q):dY .Gt (.int (a:Nat)) (.int (b:Nat)) ⟨H,True⟩=some (q,⟨H,True⟩):=by
 subst e;show some (decide ((b:Int)<a),_)=_;simp only[Int.ofNat_lt]
noncomputable def CU (U:V) (p sk:Nat) (f:V) (ls:List (Str×V)):Prop:=ls=lz U p sk f []∨∃ h,ls=lz U p sk f (oV h)
theorem Kt (hl:CU U p sk f ls):bq 6 (vt ls) (ha lL.1) h.V H (lz U p sk f (oV h)) H:=by
 rcases hl with rfl |⟨h,rfl⟩
 ·exact I
 ·exact I
theorem XS:GT 6 (vt (lz U p sk f (oV h))) (eJ (bQ (d2 lL.1) 0)) H (decide (h.i≤p)&&decide (p<h.j)) H:=by
 cases c:decide (h.i≤p) with
 |false=>exact GT.XO I I (Kr c)
 |true=>exact GT.XQ I I (Kr c) I (XR rfl)
noncomputable def CV (l:List Stmt):Stmt:=bQ (sB (bQ l 0)) 0
theorem XT (base:List ck) (hd:h.d=(base.length:Nat)):∀(ext:List ck) (H:List aj),cp cD q sk H (base++ext) w am ρ →
 gj (fun H'=>ah 6 (vt (lz U p sk f (oV h))) (CV (d2 lL.1)) H .next (lz U p sk f (oV h)) H') fun H'=>cp cD q sk H' base w am ρ:=by
 have key:∀(k:Nat) (ext:List ck) (H:List aj),ext.length=k→cp cD q sk H (base++ext) w am ρ→gj (fun H'=>ib 6 (vt (lz U p sk f (oV h))) (eJ (CV (d2 lL.1))) (sB (CV (d2 lL.1))) H .next (lz U p sk f (oV h)) H') fun H'=>cp cD q sk H' base w am ρ:=by
  intro k
  induction k with
  |zero =>
   intro ext H he x
   cases List.length_eq_zero_iff.mp he
   rw[List.append_nil] at x
   refine ⟨H,ib.done (GT.cmp (a:=.int (base.length:Nat)) (b:=.int h.d) (ai.bI (g:=.obj (.builtin "len")) (vs:=[.ref sk]) I I ((aq.len x.hW).mono (by decide))) I ?_),x⟩
   rw[hd];exact Ks (decide_eq_false (Nat.lt_irrefl _))
  |succ k aI =>
   intro ext H he x
   rcases List.eq_nil_or_concat ext with rfl |⟨ext',s,rfl⟩
   ·cases he
   rw[List.concat_eq_append] at x he
   have gq:cp cD q sk H ((base++ext')++[s]) w am ρ:=by rw[List.append_assoc];exact x
   obtain ⟨H',g,y⟩:=aI ext' _ (by simpa using he) gq.pop
   refine ⟨H',ib.step (GT.cmp (a:=.int ((base.length+(ext'.length+1):Nat):Int)) (b:=.int h.d) (ai.bI (g:=.obj (.builtin "len")) (vs:=[.ref sk]) I I ((aq.len gq.hW).mono (by decide))) I ?_)
    (ab.one (ah.expr (ai.a0 (v:=.ref sk) (first:=[.ref sk]) (vs:=[]) I (j2 gq) GE.nil ((aq.ly gq).mono (by decide))))) g,y⟩
   rw[hd];exact Ks (decide_eq_true (by omega))
 exact fun ext H x=>let ⟨H',g,y⟩:=key _ ext H rfl x;⟨H',ah.while g,y⟩
theorem CW (x:cp cD q sk H st w am ρ) (ak:st.length<aL):∀(r pre:List cS) (ls),hl=pre++r→CU (gN C K d7 (hl.map cS.V) L) p sk v.V ls→(∀ g d,fl r p=some (g,d)→∃ n:Nat,d=n∧n≤st.length) →
 ∃ bM H' z,(z=.next∧fl r p=none∧H'=H∧CU (gN C K d7 (hl.map cS.V) L) p sk v.V bM∨∃ g n:Nat,fl r p=some (g,(n:Int))∧z=.ret (.int g)∧cp cD q sk H' (st.take n++[.s v]) w am ρ) ∧
  cV 6 (vt ls) (ha lL.1) (.aO (hl.map cS.V)) pre.length (d2 lL.1) H z bM H'
 |[],pre,ls,e,k2,_=>⟨ls,H,.next,.inl ⟨rfl,rfl,rfl,k2⟩,cV.done (by
  show some ((hl.map cS.V)[pre.length]?)=_
  rw[List.getElem?_map,vg e];rfl) (by kernel_rfl)⟩
 |h::r,pre,ls,e,k2,bc=>by
  have it:itemAt (.aO (hl.map cS.V)) pre.length H=some (some h.V):=by
   show some ((hl.map cS.V)[pre.length]?)=_
   rw[List.getElem?_map,vf e];rfl
  have t:=XS (U:=gN C K d7 (hl.map cS.V) L) (p:=p) (sk:=sk) (f:=v.V) (h:=h) (H:=H)
  cases c:decide (h.i≤p)&&decide (p<h.j) with
  |false =>
   rw[c] at t
   have nE:fl (h::r) p=fl r p:=by show (match decide (h.i≤p)&&decide (p<h.j) with |true=>some (h.g,h.d) |false=>fl r p)=_;rw[c]
   obtain ⟨bM,H',z,o,g⟩:=CW x ak r (pre++[h]) (lz (gN C K d7 (hl.map cS.V) L) p sk v.V (oV h)) (by rw[e];simp) (.inr ⟨h,rfl⟩) (fun g d q=>bc g d (nE.trans q))
   rw[List.length_append] at g
   exact ⟨bM,H',z,by rw[nE];exact o,cV.step it (by kernel_rfl) (Kt k2) (ab.bx t ab.nil) g⟩
  |true =>
   rw[c] at t
   have nE:fl (h::r) p=some (h.g,h.d):=by show (match decide (h.i≤p)&&decide (p<h.j) with |true=>some (h.g,h.d) |false=>fl r p)=_;rw[c]
   obtain ⟨n,l0,pA⟩:=bc _ _ nE
   have gq:cp cD q sk H (st.take n++st.drop n) w am ρ:=by rw[List.take_append_drop];exact x
   obtain ⟨H1,g,y⟩:=XT (U:=gN C K d7 (hl.map cS.V) L) (f:=v.V) (p:=p) (h:=h) (st.take n) (by rw[l0,List.length_take,Nat.min_eq_left pA]) _ H gq
   refine ⟨_,_,.ret (.int h.g),.inr ⟨h.g,n,by rw[nE,l0],rfl,y.push rfl⟩,cV.out it (by kernel_rfl) (Kt k2) (ab.stop (ah.cm t (ab.cons g (ab.cons (ah.expr (ai.a0 (v:=.ref sk) (first:=[.ref sk]) (vs:=[(ck.s v).V]) I (mF y) I ((aq.pushS y ?_).mono (by decide)))) (ab.ret (ah.ret I))))) ey)⟩
   rw[List.length_take];exact Nat.lt_of_le_of_lt (Nat.min_le_right _ _) ak
theorem XU (x:cp cD q sk H st w am ρ) (ak:st.length<aL) (e:fl hl p=none):aq 7 (.obj (.ref 937)) [gN C K d7 (hl.map cS.V) L,.int p,.ref sk,v.V] H (.int (-1)) H:=by
 obtain ⟨bM,H',z,o,g⟩:=CW (C:=C) (K:=K) (d7:=d7) (L:=L) (v:=v) x ak hl [] _ rfl (.inl rfl) (fun g d h=>by rw[e] at h;cases h)
 rcases o with ⟨rfl,_,rfl,is⟩ |⟨g,n,h,_⟩
 ·exact aq.hQ (fi:=⟨qT,[kO,fc,nD,dd],[],lL.1,none,false⟩) (vs:=[gN C K d7 (hl.map cS.V) L,.int p,.ref sk,v.V]) (cN:=lz (gN C K d7 (hl.map cS.V) L) p sk v.V []) (by kernel_rfl) rfl (by kernel_rfl) rfl (by kernel_rfl) <|
   ab.cons (ah.for (v:=.aO (hl.map cS.V)) I rfl g) (ab.ret (ah.ret I))
 ·rw[e] at h;cases h
theorem XW {g:Nat}(x:cp cD q sk H st w am ρ) (ak:st.length<aL) (e:fl hl p=some (g,(n:Int))) (bc:n≤st.length) :
 gj (fun H'=>aq 7 (.obj (.ref 937)) [gN C K d7 (hl.map cS.V) L,.int p,.ref sk,v.V] H (.int g) H') fun H'=>cp cD q sk H' (st.take n++[.s v]) w am ρ:=by
 obtain ⟨bM,H',z,o,k⟩:=CW (C:=C) (K:=K) (d7:=d7) (L:=L) (v:=v) x ak hl [] _ rfl (.inl rfl) (fun rG d h=>by rw[e] at h;cases h;exact ⟨n,rfl,bc⟩)
 rcases o with ⟨_,h,_⟩ |⟨rG,wY,h,rfl,y⟩
 ·rw[e] at h;cases h
 ·rw[e] at h
  obtain ⟨rfl,pA⟩:=Prod.mk.inj (Option.some.inj h)
  cases Int.ofNat.inj pA
  exact ⟨H',aq.hQ (fi:=⟨qT,[kO,fc,nD,dd],[],lL.1,none,false⟩) (vs:=[gN C K d7 (hl.map cS.V) L,.int p,.ref sk,v.V]) (cN:=lz (gN C K d7 (hl.map cS.V) L) p sk v.V []) (by kernel_rfl) rfl (by kernel_rfl) rfl (by kernel_rfl) <|
   ab.stop (ah.for (v:=.aO (hl.map cS.V)) I rfl k) ey,y⟩
end
structure gQ where
 B:Nat→Option aj
 q:Nat
 s:Nat
 C:List V
 K:List V
 d7:List V
 L:List V
 hl:List cS
noncomputable abbrev gQ.U (X:gQ):V:=gN X.C X.K X.d7 (X.hl.map cS.V) X.L
noncomputable abbrev gQ.R (X:gQ) (H:List aj) (st:List ck) (w:aQ) (am:Nat→Nat) (ρ:Nat→cn):Prop:=cp X.B X.q X.s H st w am ρ
noncomputable abbrev iR (ls:List (Str×V)):a5:=⟨tv.scope,[],none,ls⟩
noncomputable abbrev ed (X:gQ) (p:Nat) (r:List (Str×V)):List (Str×V):=(dq,.ref (X.q+4))::(kO,X.U)::(nD,.ref X.s)::(qg,.int p)::r
noncomputable abbrev fb (k p:Nat) (f:V) (W:Str) (a:V):List (Str×V):=[(jU,.int k),(fc,.int p),(dd,f),(nC,.str W),(jP,a)]
noncomputable def Ku (X:gQ) (p:Nat) (ls:List (Str×V)):Prop:=ls=ed X p []∨∃ k p' f W a,ls=ed X p (fb k p' f W a)
noncomputable abbrev jm:List Stmt:=d2 (qU.1.drop 1)
noncomputable abbrev yN:Stmt:=bQ jm 4
structure gm (k:Nat) (st:List ck) (w:aQ):Prop where
 le:k≤3000
 t:st.length≤k
 s:w.seen.length≤k
 h:w.held.length≤k
section
variable {X:gQ}{H H' H1:List aj}{w w' : aQ}{am bW:Nat→Nat}{ρ ρ' : Nat→cn}{st st' ex:List ck}{v:b5}{a f z:V}{W:Str}{ls bM:List (Str×V)}{op:Int}{k p p' n:Nat}{out:V}{wf:aQ}{aO:cA}{d:b0}{l:List b0}{q:Bool}
theorem cp.ext {G:List aj}{B:Nat→Option aj}{q sk:Nat}(x:cp B q sk H st w am ρ):cp B q sk (H++G) st w am ρ :=
 ⟨x.wr.ext,cY x.hW,x.ip,fun j a l h=>let ⟨h1,af⟩:=x.keys j a l h;⟨cY h1,af⟩,fun a o h=>let ⟨h1,af⟩:=x.qk a o h;⟨cY h1,af⟩⟩
theorem cp.XX {B:Nat→Option aj}{q sk a:Nat}(x:cp B q sk H (st++[.k a (d::l)]) w am ρ):cp B q sk (H.set a (.list (l.map sL))) (st++[.k a l]) w am ρ:=by
 obtain ⟨ao,aC⟩:=x.keys st.length a (d::l) (by simp)
 refine ⟨x.wr.other (by rw[aC];rfl),?_,x.ip,fun j b m h=>?_,fun b o h=>let ⟨h1,af⟩:=x.qk b o h;⟨eL af aC cn.noConfusion h1,af⟩⟩
 ·have:=x.hW
  rw[List.map_append] at this ⊢
  exact eL x.ip aC cn.noConfusion this
 ·by_cases c:j<st.length
  ·rw[List.getElem?_append_left c] at h
   obtain ⟨h1,af⟩:=x.keys j b m (yL j b m h)
   exact ⟨eL af aC (fun q=>Nat.ne_of_lt c (cn.y.inj q)) h1,af⟩
  ·have lt:=iq h
   rw[List.length_append] at lt
   have dZ:j=st.length:=by simp at lt;omega
   subst dZ
   rw[List.getElem?_append_right (Nat.le_refl _),Nat.sub_self] at h
   cases h
   exact ⟨nB ao,aC⟩
theorem Kv {a b:Nat}{q:Bool}(e:decide (a=b)=q):dY .Eq (.int (a:Nat)) (.int (b:Nat)) ⟨H,True⟩=some (q,⟨H,True⟩):=by
 subst e;show some (decide ((a:Int)=b),_)=_;simp only[Int.ofNat_inj]
theorem yO (hf:X.C[p]?=some (eO op a)) (bc:∀ H,aq 2 (.obj (.ref 156)) [.int op] H (.str W) H) {r:List (Str×V)}(bR:r=[]∨∃ p' f mG a',r=[(fc,.int (p' : Nat)),(dd,f),(nC,.str mG),(jP,a')])
 (g:ab 12 (iR (ed X (p+1) (fb k p .none W a))) (jm.drop 4) H aO bM H'):ab 12 (iR (ed X p ((jU,.int k)::r))) jm H aO bM H':=by
 have lt:decide (p=X.C.length)=false:=decide_eq_false (Nat.ne_of_lt (iq hf))
 have dn:(jm.take 1++jm.drop 1)=jm:=List.take_append_drop 1 jm
 have g3:ab 12 (iR (ed X p (fb k p .none W a))) (jm.drop 3) H aO bM H':=ab.cons (bJ:=ed X (p+1) (fb k p .none W a)) (ah.assign (v:=.int (p+1:Nat)) (ai.bin (a:=.int p) (b:=.int 1) I I (fun _ _=>rfl)) (bq.name (by kernel_rfl))) g
 have s2:∀{r:List (Str×V)},(r=[]∨∃ mG a',r=[(nC,.str mG),(jP,a')])→ab 12 (iR (ed X p ((jU,.int k)::(fc,.int p)::(dd,.none)::r))) (jm.drop 2) H aO bM H':=fun {r} bR=>by
  have bf:ah 12 (iR (ed X p ((jU,.int k)::(fc,.int p)::(dd,.none)::r))) (bQ jm 2) H .next (h4 [nC,jP] [.str W,a] (ed X p ((jU,.int k)::(fc,.int p)::(dd,.none)::r))) H :=
   ah.mh (us:=[.str W,a]) (ai.tup (GE.cons (ai.bI (g:=.obj (.ref 156)) (vs:=[.int op]) I (GE.cons (ai.sub (a:=.int 0) (ai.sub (v:=.aO X.C) (a:=.int p) I I (rV hf)) I rfl) GE.nil) ((bc H).mono (by decide))) (GE.cons (ai.sub (a:=.int 1) (ai.sub (v:=.aO X.C) (a:=.int p) I I (rV hf)) I rfl) GE.nil))) (by kernel_rfl) (by kernel_rfl) (by kernel_rfl)
  rcases bR with rfl |⟨mG,a',rfl⟩
  ·exact ab.cons (bJ:=ed X p (fb k p .none W a)) bf g3
  ·exact ab.cons (bJ:=ed X p (fb k p .none W a)) bf g3
 have s0:∀{r:List (Str×V)},ah 12 (iR (ed X p ((jU,.int k)::r))) (bQ jm 0) H .next (ed X p ((jU,.int k)::r)) H:=fun {r} =>
  ah.iff (GT.cmp (a:=.int p) (b:=.int X.C.length) I I (Kv lt)) ab.nil
 rcases bR with rfl |⟨p',f,mG,a',rfl⟩
 ·exact ab.cons s0 (ab.cons (bJ:=ed X p ((jU,.int k)::(fc,.int p)::(dd,.none)::[])) I (s2 (.inl rfl)))
 ·exact ab.cons s0 (ab.cons (bJ:=ed X p ((jU,.int k)::(fc,.int p)::(dd,.none)::[(nC,.str mG),(jP,a')])) I (s2 (.inr ⟨_,_,rfl⟩)))
theorem yP (h:Ku X p ls):∃ r,(r=[]∨∃ (p' : Nat) (f:V) (mG:Str) (a' : V),r=[(fc,.int p'),(dd,f),(nC,.str mG),(jP,a')])∧bq 12 (iR ls) (ha (qU.1.drop 1)) (.int k) H (ed X p ((jU,.int k)::r)) H:=by
 rcases h with rfl |⟨k',p',f,mG,a',rfl⟩
 ·exact ⟨[],.inl rfl,I⟩
 ·exact ⟨_,.inr ⟨p',f,mG,a',rfl⟩,I⟩
end
noncomputable def Run (X:gQ) (out:V) (wf:aQ) (k p:Nat) (st:List ck) (w:aQ):Prop:=∀ H am ρ ls,X.R H st w am ρ→Ku X p ls→gm k st w →
 Xp (fun bM H' bW ρ'=>cV 12 (iR ls) (ha (qU.1.drop 1)) (.cw 0 3000) k jm H (.ret out) bM H') fun bM H' bW ρ'=>cK X.q H' wf bW ρ'∧∀ a o,X.B a=some o→H'[a]?=some o∧ρ' a=.o
noncomputable def lA (X:gQ) (out:V) (wf:aQ) (k p:Nat) (st:List ck) (v:b5) (w:aQ):Prop:=match fl X.hl p with
 |none=>out=.tup [v.V,.int 0]∧wf=w
 |some (g,d)=>∃ n:Nat,d=n∧n≤st.length∧Run X out wf k g (st.take n++[.s v]) w
section
variable {X:gQ}{H H' H1:List aj}{w w' : aQ}{am bW:Nat→Nat}{ρ ρ' : Nat→cn}{st st' jL ex:List ck}{v:b5}{a f z:V}{W:Str}{ls bM:List (Str×V)}{op:Int}{k p p' n:Nat}{out:V}{wf:aQ}{aO:cA}{d:b0}{l:List b0}{q:Bool}
theorem vu (h:k<3000):itemAt (.cw 0 3000) k H=some (some (.int k)):=by
 have:(k:Int)<3000:=by omega
 exact (en (decide_eq_true (show (0:Int)+(k:Int)<3000 by rw[Int.zero_add];exact this))).trans (by rw[Int.zero_add])
theorem sO (ar:k<3000) (hf:X.C[p]?=some (eO op a)) (bc:∀ H,aq 2 (.obj (.ref 156)) [.int op] H (.str W) H) (bZ:gm k st w→gm (k+1) st' w')
 (g:∀ H am ρ,X.R H st w am ρ→gm k st w→mD (fun H' bW ρ'=>ah 12 (iR (ed X (p+1) (fb k p .none W a))) yN H .next (ed X p' (fb k p .none W a)) H') fun H' bW ρ'=>X.R H' st' w' bW ρ')
 (r:Run X out wf (k+1) p' st' w'):Run X out wf k p st w:=fun H am ρ ls x is aP=>by
 obtain ⟨eb,lu,t⟩:=yP (X:=X) (H:=H) (k:=k) is
 obtain ⟨H1,eB,eY,c,y⟩:=g H am ρ x aP
 obtain ⟨bM,H',bW,ρ',gl,wr,b⟩:=r H1 eB eY (ed X p' (fb k p .none W a)) y (.inr ⟨_,_,_,_,_,rfl⟩) (bZ aP)
 exact ⟨bM,H',bW,ρ',cV.step (vu ar) (by kernel_rfl) t (yO hf bc lu (ab.cons c (ab.one (ah.iff I ab.nil)))) gl,wr,b⟩
theorem XY (ar:k<3000):Run X (.tup [.none,.int st.length]) w k X.C.length st w:=fun H am ρ ls x is aP=>by
 obtain ⟨eb,lu,t⟩:=yP (X:=X) (H:=H) (k:=k) is
 have len:=aq.len x.hW (k:=st.length)
 have s0:∀{r:List (Str×V)},ah 12 (iR (ed X X.C.length ((jU,.int k)::r))) (bQ jm 0) H (.ret (.tup [.none,.int st.length])) (ed X X.C.length ((jU,.int k)::r)) H:=fun {r} =>
  ah.cm (GT.cmp (a:=.int X.C.length) (b:=.int X.C.length) I I (Kv (decide_eq_true rfl))) (ab.ret (ah.ret (ai.tup (GE.cons I (GE.cons (ai.bI (g:=.obj (.builtin "len")) (vs:=[.ref X.s]) I I (len.mono (by decide))) GE.nil)))))
 exact ⟨_,H,am,ρ,cV.out (vu ar) (by kernel_rfl) t (ab.ret s0),x.wr,x.qk⟩
theorem Kw (ar:k<3000) (hf:X.C[p]?=some (eO op a)) (bc:∀ H,aq 2 (.obj (.ref 156)) [.int op] H (.str W) H) (bZ:gm k st w→jL.length≤k∧(jL++ex).length≤k+1∧w'.seen.length≤k+1∧w'.held.length≤k+1)
 (g:∀ H am ρ,X.R H st w am ρ→gm k st w→mD (fun H' bW ρ'=>ah 12 (iR (ed X (p+1) (fb k p .none W a))) yN H .next (ed X (p+1) (fb k p v.V W a)) H') fun H' bW ρ'=>X.R H' (jL++ex) w' bW ρ')
 (r:lA X out wf (k+1) p jL v w'):Run X out wf k p st w:=fun H am ρ ls x is aP=>by
 obtain ⟨eb,lu,t⟩:=yP (X:=X) (H:=H) (k:=k) is
 obtain ⟨H1,eB,eY,c,y⟩:=g H am ρ x aP
 obtain ⟨dj,eu,kq,n7⟩:=bZ aP
 have fQ:(jL++ex).length<aL:=by have:=aP.le;unfold aL;omega
 unfold lA at r
 have arg:∀{H},GE 12 (iR (ed X (p+1) (fb k p v.V W a))) (m9 (eJ (bQ (sB (bQ jm 5)) 0))) H [X.U,.int p,.ref X.s,v.V] H:=fun {H}=>I
 cases e:fl X.hl p with
 |none =>
  rw[e] at r
  obtain ⟨rfl,rfl⟩:=r
  have iC:=XU (C:=X.C) (K:=X.K) (d7:=X.d7) (L:=X.L) (v:=v) y fQ e
  exact ⟨_,H1,eB,eY,cV.out (vu ar) (by kernel_rfl) t (yO hf bc lu (ab.cons c (ab.ret (ah.cm I (ab.cons (bJ:=(dq,.ref (X.q+4))::(kO,X.U)::(nD,.ref X.s)::(qg,.int (-1))::fb k p v.V W a) (ah.assign (v:=.int (-1)) (ai.bI (g:=.obj (.ref 937)) I arg (iC.mono (by decide))) (bq.name (by kernel_rfl))) (ab.ret (ah.cm I (ab.ret (ah.ret I))))))))),y.wr,y.qk⟩
 |some uk =>
  obtain ⟨g,d⟩:=uk
  rw[e] at r
  obtain ⟨n,rfl,XZ,r⟩:=r
  obtain ⟨H2,cs,dD⟩:=XW (C:=X.C) (K:=X.K) (d7:=X.d7) (L:=X.L) (v:=v) y fQ e (by rw[List.length_append];omega)
  rw[List.take_append_of_le_length XZ] at dD
  obtain ⟨bM,H',bW,ρ',gl,wr,b⟩:=r H2 eB eY (ed X g (fb k p v.V W a)) dD (.inr ⟨_,_,_,_,_,rfl⟩) ⟨by omega,by rw[List.length_append,List.length_take];show min n _+1≤k+1;omega,kq,n7⟩
  exact ⟨bM,H',bW,ρ',cV.step (vu ar) (by kernel_rfl) t (yO hf bc lu (ab.cons c (ab.one (ah.cm I (ab.cons (bJ:=ed X g (fb k p v.V W a)) (ah.assign (v:=.int g) (ai.bI (g:=.obj (.ref 937)) I arg (cs.mono (by decide))) (bq.name (by kernel_rfl))) (ab.one (ah.iff (GT.cmp (a:=.int g) (b:=.int 0) I I qd) ab.nil))))))) gl,wr,b⟩
structure Kx (W:Str):Prop where
 a:seq W sN=false
 b:seq W CN=false
 c:(seq vr W || seq ⟨⟨[74,84]⟩⟩ W)=false
 d:seq W CO=false
theorem CX {x y:Str}{q:Bool}(e:seq x y=q):dY .Eq (.str x) (.str y) ⟨H,True⟩=some (q,⟨H,True⟩):=by subst e;rfl
theorem X0 {x y z:Str}{q:Bool}(e:(seq y x || seq z x)=q):dY .In (.str x) (.tup [.str y,.str z]) ⟨H,True⟩=some (q,⟨H,True⟩):=by subst e;rfl
theorem CY (hn:Kx W) (g:aq 9 (.obj (.ref 930)) [.ref (X.q+4),.str W,a,.ref X.s,X.U] H f H'):ah 12 (iR (ed X (p+1) (fb k p .none W a))) yN H .next (ed X (p+1) (fb k p f W a)) H' :=
 ah.iff (GT.cmp (a:=.str W) (b:=.str sN) I I (CX hn.a))<|ab.bx (GT.cmp (a:=.str W) (b:=.str CN) I I (CX hn.b))<|ab.bx (GT.cmp (a:=.str W) I I (X0 hn.c))<|ab.bx (GT.cmp (a:=.str W) (b:=.str CO) I I (CX hn.d)) <|
  ab.one (ah.assign (v:=f) (ai.bI (g:=.obj (.ref 930)) (vs:=[.ref (X.q+4),.str W,a,.ref X.s,X.U]) I I (g.mono (by decide))) (bq.name (by kernel_rfl)))
end
section
variable {X:gQ}{H H' H1:List aj}{w w' : aQ}{am bW:Nat→Nat}{ρ ρ' : Nat→cn}{st st' jL ex:List ck}{v:b5}{a f z:V}{W:Str}{ls bM:List (Str×V)}{op c:Int}{k p p' i:Nat}{out:V}{wf:aQ}{aO:cA}{d o e:b0}{l:List b0}{q:Bool}{s t u:ck}
theorem gm.up (z:gm k st w) (ar:k<3000) (a:st'.length≤st.length+1) (b:w'.seen.length≤w.seen.length+1) (c:w'.held.length≤w.held.length+1):gm (k+1) st' w' :=
 ⟨ar,Nat.le_trans a (Nat.add_le_add_right z.t 1),Nat.le_trans b (Nat.add_le_add_right z.s 1),Nat.le_trans c (Nat.add_le_add_right z.h 1)⟩
theorem qo (a:i≤k) (b:k≤3000):i+2<aL:=Nat.lt_of_le_of_lt (Nat.add_le_add_right (Nat.le_trans a b) 2) (by decide)
theorem gm.hs (z:gm k st w):st.length+2<aL:=qo z.t z.le
theorem lB (h:i+2<k):i<k:=Nat.lt_of_le_of_lt (Nat.le_add_right i 2) h
theorem CZ (h:i+2<k):i+1<k:=Nat.lt_of_le_of_lt (Nat.le_succ (i+1)) h
theorem gm.qp (z:gm k st w):w.seen.length<aL:=lB (qo z.s z.le)
theorem gm.lc (z:gm k st w):w.held.length<aL:=lB (qo z.h z.le)
theorem hX:(st++[s]).length=st.length+1:=List.length_append
theorem Ky (w:aQ):w.hB.2.seen=w.seen∧w.hB.2.held=w.held:=by unfold aQ.hB;split <;> exact ⟨rfl,rfl⟩
theorem yQ (r:Row):(w.d4 r).seen.length=w.seen.length+1:=by unfold aQ.d4;simp
theorem C0 (n:b9):(w.getD n).2.seen.length≤w.seen.length+1:=by
 show (w.d4 (.get n)).hB.2.seen.length≤_
 rw[(Ky _).1,yQ];exact Nat.le_refl _
theorem C1 (n:b9):(w.getD n).2.held=w.held:=(Ky (w.d4 (.get n))).2
theorem sP (r:Row):(w.row r).seen.length=w.seen.length+1:=by
 unfold aQ.row
 split <;> exact yQ _
theorem yR (r:Row):(w.row r).held=w.held:=by
 unfold aQ.row
 split <;> rfl
variable (ar:k<3000)
include ar
theorem j3 (hf:X.C[p]?=some (eO op a)) (bc:∀ H,aq 2 (.obj (.ref 156)) [.int op] H (.str W) H) (hn:Kx W) (bZ:gm k st w→gm (k+1) st' w')
 (g:∀ H am ρ,X.R H st w am ρ→gm k st w→mD (fun H' bW ρ'=>aq 9 (.obj (.ref 930)) [.ref (X.q+4),.str W,a,.ref X.s,X.U] H .none H') fun H' bW ρ'=>X.R H' st' w' bW ρ')
 (r:Run X out wf (k+1) (p+1) st' w'):Run X out wf k p st w :=
 sO ar hf bc bZ (fun H am ρ x z=>let ⟨H',bW,ρ',g,y⟩:=g H am ρ x z;⟨H',bW,ρ',CY hn g,y⟩) r
theorem nF (hf:eW X.C p 6) (r:Run X out wf (k+1) (p+1) st w):Run X out wf k p (st++[s]) w :=
 j3 ar hf (W:=Kh) (fun _=>I) ⟨rfl,rfl,rfl,rfl⟩ (fun z=>z.up ar (by rw[hX];exact Nat.le_trans (Nat.le_succ _) (Nat.le_succ _)) (Nat.le_succ _) (Nat.le_succ _)) (fun _ _ _ x _=>⟨_,_,_,Xw x,x.pop⟩) r
theorem X1 (hf:eW X.C p 81) (r:Run X out wf (k+1) (p+1) st w):Run X out wf k p st w :=
 j3 ar hf (W:=Ki) (fun _=>I) ⟨rfl,rfl,rfl,rfl⟩ (fun z=>z.up ar (Nat.le_succ _) (Nat.le_succ _) (Nat.le_succ _)) (fun _ _ _ x _=>⟨_,_,_,Xx,x⟩) r
theorem X2 (aw:c=7∨c=8∨c=9) (hf:nx X.C X.K p 4 (.int c)) (r:Run X out wf (k+1) (p+1) (st++[.s (vj c)]) w):Run X out wf k p st w :=
 let ⟨_,hf,aM⟩:=hf;j3 ar hf (W:=Ke) (fun _=>I) ⟨rfl,rfl,rfl,rfl⟩ (fun z=>z.up ar (Nat.le_of_eq hX) (Nat.le_succ _) (Nat.le_succ _)) (fun _ _ _ x z=>⟨_,_,_,Xy x (lB z.hs) aM aw,x.push rfl⟩) r
theorem X3 (hf:gg X.C p 67 i) (r:Run X out wf (k+1) (p+1) (st++[.s .fn]) w.hold):Run X out wf k p st w :=
 j3 ar (w':=w.hold) hf (W:=Kd) (fun _=>I) ⟨rfl,rfl,rfl,rfl⟩ (fun z=>z.up ar (Nat.le_of_eq hX) (Nat.le_succ _) (by unfold aQ.hold;simp)) (fun _ _ _ x z=>let ⟨H',g,y⟩:=Xz x (lB z.hs) z.lc;⟨H',_,_,g,y⟩) r
theorem X4 (hf:gg X.C p 17 3) (r:Run X out wf (k+1) (p+1) st (w.fresh .un)):Run X out wf k p st w :=
 j3 ar (w':=w.fresh .un) hf (W:=Kc) (fun _=>I) ⟨rfl,rfl,rfl,rfl⟩ (fun z=>z.up ar (Nat.le_succ _) (Nat.le_succ _) (Nat.le_succ _)) (fun _ _ _ x _=>XA x) r
theorem nG {n:b9}(bA:hC n=false) (he:eX n=false) (hf:my X.C X.K p n) (r:Run X out wf (k+1) (p+1) (st++[.s (.gi (w.getD n).1)]) (w.getD n).2):Run X out wf k p st w:=by
 have hf:nx X.C X.K p 18 (.str n.s):=by cases n <;> first |exact hf |cases bA
 obtain ⟨_,hf,aM⟩:=hf
 refine j3 ar hf (W:=vq) (fun _=>I) ⟨rfl,rfl,rfl,rfl⟩ (fun z=>z.up ar (Nat.le_of_eq hX) (C0 n) (by rw[C1];exact Nat.le_succ _)) (fun _ _ _ x z=>?_) r
 obtain ⟨H',g,y⟩:=Km (C:=X.C) (d7:=X.d7) (j1:=X.hl.map cS.V) (L:=X.L) x (lB z.hs) z.qp bA aM
 unfold gk at g
 unfold fM at y
 rw[he] at g y
 exact ⟨H',_,_,g,y⟩
theorem yS (hf:my X.C X.K p .e) (r:lA X out wf (k+1) p st (.bb (w.getD .e).1) (w.getD .e).2):Run X out wf k p st w:=by
 obtain ⟨_,hf,aM⟩:=hf
 refine Kw (ex:=[.n]) ar hf (W:=vq) (fun _=>I) (fun z=>⟨z.t,by rw[hX];exact Nat.add_le_add_right z.t 1,Nat.le_trans (C0 .e) (Nat.add_le_add_right z.s 1),by rw[C1];exact Nat.le_trans z.h (Nat.le_succ _)⟩) (fun _ _ _ x z=>?_) r
 obtain ⟨H',g,y⟩:=Km (n:=.e) (C:=X.C) (d7:=X.d7) (j1:=X.hl.map cS.V) (L:=X.L) x (lB z.hs) z.qp rfl aM
 exact ⟨H',_,_,CY ⟨rfl,rfl,rfl,rfl⟩ g,y⟩
theorem X5 (aV:w.cells[w.cur]?=some v) (hf:my X.C X.K p .x) (r:Run X out wf (k+1) (p+1) (st++[.s v]) (w.d4 (.get .x))):Run X out wf k p st w :=
 j3 ar (a:=.int 3) hf (W:=yJ) (fun _=>I) ⟨rfl,rfl,rfl,rfl⟩ (fun z=>z.up ar (Nat.le_of_eq hX) (Nat.le_of_eq (yQ _)) (Nat.le_succ _)) (fun _ _ _ x z=>let ⟨H',g,y⟩:=XB x (lB z.hs) z.qp aV;⟨H',_,_,g,y⟩) r
theorem Kz {n:fU}(hf:va X.C X.K p n) (r:Run X out wf (k+1) (p+1) (st++[.s v]) (w.row (.b7 n v))):Run X out wf k p (st++[.s v]) w:=by
 have bZ:gm k (st++[.s v]) w→gm (k+1) (st++[ck.s v]) (w.row (.b7 n v)):=fun z=>z.up ar (Nat.le_succ _) (Nat.le_of_eq (sP _)) (by rw[yR];exact Nat.le_succ _)
 have gl:nx X.C X.K p 20 (.str n.s)→Run X out wf k p (st++[.s v]) w:=fun ⟨_,hf,aM⟩ =>
  j3 ar hf (W:=Ka) (fun _=>I) ⟨rfl,rfl,rfl,rfl⟩ bZ (fun _ _ _ x z=>let ⟨H',g,y⟩:=XC x z.qp aM;⟨H',_,_,g,y⟩) r
 cases n with
 |v=>exact gl hf
 |w=>exact gl hf
 |x=>exact j3 ar (a:=.int 3) hf (W:=Kb) (fun _=>I) ⟨rfl,rfl,rfl,rfl⟩ bZ (fun _ _ _ x z=>let ⟨H',g,y⟩:=XD x z.qp;⟨H',_,_,g,y⟩) r
theorem X6 (h1:kP s=true) (af:kP t=true) (hf:eW X.C p 9) (r:Run X out wf (k+1) (p+1) (st++[t,s]) w):Run X out wf k p (st++[s,t]) w :=
 j3 ar hf (W:=Kg) (fun _=>I) ⟨rfl,rfl,rfl,rfl⟩ (fun z=>z.up ar (by rw[List.length_append,List.length_append];exact Nat.le_succ _) (Nat.le_succ _) (Nat.le_succ _)) (fun _ _ _ x z=>let ⟨H',g,y⟩:=XF h1 af x (CZ (Nat.lt_of_le_of_lt (Nat.add_le_add_right (by rw[List.length_append];exact Nat.le_add_right _ _) 2) z.hs));⟨H',_,_,g,y⟩) r
theorem KA (h1:kP s=true) (af:kP t=true) (aB:kP u=true) (hf:eW X.C p 10) (r:Run X out wf (k+1) (p+1) (st++[u,s,t]) w):Run X out wf k p (st++[s,t,u]) w :=
 j3 ar hf (W:=CK) (fun _=>I) ⟨rfl,rfl,rfl,rfl⟩ (fun z=>z.up ar (by rw[List.length_append,List.length_append];exact Nat.le_succ _) (Nat.le_succ _) (Nat.le_succ _)) (fun _ _ _ x z=>let ⟨H',g,y⟩:=XH h1 af aB x (Nat.lt_of_le_of_lt (Nat.add_le_add_right (by rw[List.length_append];exact Nat.le_add_right _ _) 2) z.hs);⟨H',_,_,g,y⟩) r
theorem X7 (hf:nx X.C X.K p 24 (.str iK)) (r:Run X out wf (k+1) (p+1) (st++[.s v]) (w.row (.mem o v))):Run X out wf k p (st++[.s (.gi o),.s v]) w :=
 let ⟨_,hf,aM⟩:=hf;j3 ar hf (W:=CL) (fun _=>I) ⟨rfl,rfl,rfl,rfl⟩ (fun z=>z.up ar (by rw[List.length_append,List.length_append];exact Nat.le_succ_of_le (Nat.le_succ _)) (Nat.le_of_eq (sP _)) (by rw[yR];exact Nat.le_succ _))
  (fun _ _ _ x z=>let ⟨H',g,y⟩:=XI x (Nat.lt_of_le_of_lt (by rw[List.length_append];exact Nat.le_add_right _ _) (lB z.hs)) z.qp aM;⟨H',_,_,g,y⟩) r
theorem X8 (hf:eW X.C p 26) (r:Run X out wf (k+1) (p+1) (st++[.s v]) (w.row (.c6 o e v))):Run X out wf k p (st++[.s (.gi o),.s (.gi e),.s v]) w :=
 j3 ar hf (W:=CM) (fun _=>I) ⟨rfl,rfl,rfl,rfl⟩ (fun z=>z.up ar (by rw[List.length_append,List.length_append];exact Nat.le_succ_of_le (Nat.le_succ_of_le (Nat.le_succ _))) (Nat.le_of_eq (sP _)) (by rw[yR];exact Nat.le_succ _))
  (fun _ _ _ x z=>let ⟨H',g,y⟩:=XJ x (Nat.lt_of_le_of_lt (by rw[List.length_append];exact Nat.le_add_right _ _) (lB z.hs)) z.qp;⟨H',_,_,g,y⟩) r
end
section
variable {X:gQ}{H H' H1:List aj}{w w' : aQ}{am bW:Nat→Nat}{ρ ρ' : Nat→cn}{st st' jL ex:List ck}{v:b5}{f z:V}{W:Str}{ls bM:List (Str×V)}{op c:Int}{a k p p' i:Nat}{out:V}{wf:aQ}{aO:cA}{d o e:b0}{l:List b0}{q:Bool}{s t u:ck}
variable (ar:k<3000)
include ar
theorem X9 (hf:eW X.C p 76) (r:∀ a,Run X out wf (k+1) (p+1) (st++[.k a (keysOf d)]) w):Run X out wf k p (st++[.s (.gi d)]) w:=fun H am ρ ls x is aP=>by
 obtain ⟨eb,lu,t⟩:=yP (X:=X) (H:=H) (k:=k) is
 have le:st.length+1≤k:=by have:=aP.t;rwa [hX] at this
 obtain ⟨H1,a,eY,g,y⟩:=XM (z:=.none) (U:=X.U) x (lB (qo (Nat.le_of_succ_le le) aP.le))
 obtain ⟨bM,H',bW,ρ',gl,wr,b⟩:=r a H1 am eY (ed X (p+1) (fb k p .none Kf .none)) y (.inr ⟨_,_,_,_,_,rfl⟩) (aP.up ar (by rw[hX,hX];exact Nat.le_succ _) (Nat.le_succ _) (Nat.le_succ _))
 exact ⟨bM,H',bW,ρ',cV.step (vu ar) (by kernel_rfl) t (yO hf (fun _=>I) lu (ab.cons (CY ⟨rfl,rfl,rfl,rfl⟩ g) (ab.one (ah.iff I ab.nil)))) gl,wr,b⟩
theorem yT (hf:gg X.C p 58 p') (r:Run X out wf (k+1) p' st w):Run X out wf k p st w :=
 sO ar hf (W:=CN) (fun _=>I) (fun z=>z.up ar (Nat.le_succ _) (Nat.le_succ _) (Nat.le_succ _)) (fun H am ρ x z=>⟨H,am,ρ,ah.iff I<|ab.eP I<|ab.one (ah.assign (v:=.int p') I (bq.name (by kernel_rfl))),x⟩) r
theorem KC {ic:Nat}{b:Bool}(x:X.R H (st++[.s (.gi d)]) w am ρ) (bt:∀ H,dY .NotEq (cg d) (.str ⟨⟨[48]⟩⟩) ⟨H,True⟩=some (!b,⟨H,True⟩)) (a4:ic=match b with |true=>p' |false=>p+1) :
 ah 12 (iR (ed X (p+1) (fb k p .none vr (.int p')))) yN H .next (ed X ic (fb k p .none vr (.int p'))) (H.set X.s (.list (st.map ck.V))):=by
 have pp:=(aq.ly x).mono (by decide:1≤12)
 have nb:∀ H,dY .Eq (.bool !b) (.bool false) ⟨H,True⟩=some (b,⟨H,True⟩):=fun H=>by cases b <;> rfl
 cases b with
 |true=>rw[show ic=p' from a4];exact ah.iff I<|ab.bx I<|ab.eP I<|ab.one (ah.assign (v:=.int p') (ai.cm (GT.cmp (ai.cmp (ai.a0 (v:=.ref X.s) (first:=[.ref X.s]) (vs:=[]) I (j2 x) GE.nil pp) I (bt _)) I (nb _)) I) (bq.name (by kernel_rfl)))
 |false=>rw[show ic=p+1 from a4];exact ah.iff I<|ab.bx I<|ab.eP I<|ab.one (ah.assign (v:=.int (p+1:Nat)) (ai.iff (GT.cmp (ai.cmp (ai.a0 (v:=.ref X.s) (first:=[.ref X.s]) (vs:=[]) I (j2 x) GE.nil pp) I (bt _)) I (nb _)) I) (bq.name (by kernel_rfl)))
theorem KD (z:gm k (st++[s]) w):gm (k+1) st w:=z.up ar (by rw[hX];exact Nat.le_succ_of_le (Nat.le_succ _)) (Nat.le_succ _) (Nat.le_succ _)
theorem Ya (hf:gg X.C p 59 p') (r:Run X out wf (k+1) p' st w):Run X out wf k p (st++[.s (.gi .z)]) w :=
 sO ar hf (W:=vr) (fun _=>I) (KD ar) (fun H am ρ x z=>⟨_,am,ρ,KC ar (b:=true) x (fun _=>rfl) rfl,x.pop⟩) r
theorem Yb (hd:d≠.z) (hf:gg X.C p 59 p') (r:Run X out wf (k+1) (p+1) st w):Run X out wf k p (st++[.s (.gi d)]) w :=
 sO ar hf (W:=vr) (fun _=>I) (KD ar) (fun H am ρ x z=>⟨_,am,ρ,KC ar (b:=false) x (fun _=>by cases d <;> first |rfl |exact absurd rfl hd) rfl,x.pop⟩) r
theorem Yc (hf:eW X.C p 66) (r:lA X out wf (k+1) p st v w):Run X out wf k p (st++[.s v]) w :=
 Kw (ex:=[]) ar hf (W:=CO) (fun _=>I) (fun z=>by
  have h:st.length+1≤k:=by have:=z.t;rwa [hX] at this
  rw[List.append_nil]
  exact ⟨Nat.le_of_succ_le h,Nat.le_succ_of_le (Nat.le_of_succ_le h),Nat.le_succ_of_le z.s,Nat.le_succ_of_le z.h⟩)
  (fun H am ρ x z=>⟨_,am,ρ,ah.iff I<|ab.bx I<|ab.bx I<|ab.eP I<|ab.one (ah.assign (v:=v.V) (ai.a0 (v:=.ref X.s) (first:=[.ref X.s]) (vs:=[]) I (j2 x) GE.nil ((aq.ly x).mono (by decide))) (bq.name (by kernel_rfl))),by rw[List.append_nil];exact x.pop⟩) r
theorem Yd (hf:gg X.C p 77 p') (r:Run X out wf (k+1) p' (st++[.k a []]) w):Run X out wf k p (st++[.k a []]) w :=
 sO ar hf (W:=sN) (fun _=>I) (fun z=>z.up ar (Nat.le_succ _) (Nat.le_succ _) (Nat.le_succ _)) (fun H am ρ x z=>by
  have ao:=(x.keys st.length a [] (by simp)).1
  have df:X.R (H++[.list []]) (st++[.k a []]) w am ρ:=x.ext
  have eI:X.R ((H++[.list []])++[.list []]) (st++[.k a []]) w am ρ:=df.ext
  have aK:=J3 (f:=fun d=>(b5.key d).s) (l:=[]) ao
  have bw:=ne_nil (f:=fun d=>(b5.key d).s) (l:=[]) (df.keys st.length a [] (by simp)).1
  exact ⟨_,am,ρ,ah.cm I<|ab.cons (bJ:=ed X p' (fb k p .none sN (.int p'))) (ah.assign (v:=.int p') (ai.cm (GT.cmp (ai.sub (a:=.int (-1)) I I (qn x.top)) (ai.list GE.nil) aK) I) (bq.name (by kernel_rfl))) <|
   ab.one (ah.iff (GT.cmp (ai.sub (a:=.int (-1)) I I (qn df.top)) (ai.list GE.nil) bw) ab.nil),eI⟩) r
theorem Ye (hf:gg X.C p 77 p') (r:Run X out wf (k+1) (p+1) ((st++[.k a l])++[.s (.key d)]) w):Run X out wf k p (st++[.k a (d::l)]) w :=
 sO ar hf (W:=sN) (fun _=>I) (fun z=>z.up ar (by rw[hX,hX,hX];exact Nat.le_refl _) (Nat.le_succ _) (Nat.le_succ _)) (fun H am ρ x z=>by
  have ao:=(x.keys st.length a (d::l) (by simp)).1
  have df:X.R (H++[.list []]) (st++[.k a (d::l)]) w am ρ:=x.ext
  have eI:X.R ((H++[.list []])++[.list []]) (st++[.k a (d::l)]) w am ρ:=df.ext
  have aK:=J3 (f:=fun d=>(b5.key d).s) (l:=d::l) ao
  have bw:=ne_nil (f:=fun d=>(b5.key d).s) (l:=d::l) (df.keys st.length a (d::l) (by simp)).1
  have aC:=(eI.keys st.length a (d::l) (by simp)).1
  have y:=eI.XX
  have fQ:(st++[ck.k a l]).length<aL:=Nat.lt_of_le_of_lt (by rw[hX,hX];exact Nat.le_refl _) (lB z.hs)
  exact ⟨_,am,ρ,ah.cm I<|ab.cons (bJ:=ed X (p+1) (fb k p .none sN (.int p'))) (ah.assign (v:=.int (p+1:Nat)) (ai.iff (GT.cmp (ai.sub (a:=.int (-1)) I I (qn x.top)) (ai.list GE.nil) aK) I) (bq.name (by kernel_rfl))) <|
   ab.one (ah.cm (GT.cmp (ai.sub (a:=.int (-1)) I I (qn df.top)) (ai.list GE.nil) bw) (ab.one (ah.expr (ai.a0 (v:=.ref X.s) (first:=[.ref X.s]) (vs:=[(ck.s (.key d)).V]) I (mF eI) (GE.cons (ai.a0 (v:=.ref a) (first:=[.ref a]) (vs:=[.int 0]) (ai.sub (a:=.int (-1)) I I (qn eI.top)) (CJ aC) I ((aq.J2 aC).mono (by decide))) GE.nil) ((aq.pushS y fQ).mono (by decide)))))),y.push rfl⟩) r
end
noncomputable def aQ.lC (w:aQ) (v:b5):aQ:=(w.fresh .un).row (.b7 .x v)
noncomputable abbrev cv:bF→aQ→Rs:=fz aQ.lC
section
variable {X:gQ}{w b1 w' : aQ}{out:V}{wf:aQ}{p q e p' c9:Nat}{l jW:List cS}{st ex:List ck}{N C2:Nat→aQ→Prop}{k c n:Nat}{r:Rs}{S aT:Prop}{v:b5}{f:aQ→Rs}{rw' : Row}{nm:b9}
noncomputable def Ok (X:gQ) (out:V) (wf:aQ) (p e:Nat) (l:List cS) (st:List ck) (N:Nat→aQ→Prop) (k:Nat) (r:Rs) (S:Prop):Prop:=match r with
 |(none,w',c)=>N (k+c) w'→S
 |(some v,w',c)=>(∀ q,p≤q→q<e→fl l q=none→lA X out wf (k+c) q st v w')→S
theorem Ok.more (x:Ok X out wf p e l st N (k+c) r aT) (h:aT→S):Ok X out wf p e l st N k (r.more c) S:=by
 obtain ⟨o,w1,n⟩:=r
 cases o with
 |none=>exact fun g=>h (x (by rw[Nat.add_assoc];exact g))
 |some v=>exact fun g=>h (x (by rw[Nat.add_assoc];exact g))
theorem Ok.seq (x:Ok X out wf p e l st C2 k r S) (y:∀ w1 n,r=(none,w1,n)→Ok X out wf p e l st N (k+(n+c)) (f w1) (C2 (k+n) w1)):Ok X out wf p e l st N k (r.seq c f) S:=by
 obtain ⟨o,w1,n⟩:=r
 cases o with
 |none=>exact (y w1 n rfl).more x
 |some v=>exact x
theorem Ok.imp (x:Ok X out wf p e l st N k r aT) (h:aT→S):Ok X out wf p e l st N k r S:=by
 obtain ⟨o,w1,n⟩:=r
 cases o with
 |none=>exact fun g=>h (x g)
 |some v=>exact fun g=>h (x g)
theorem Ok.all {α:Type}{S:α→Prop}(x:∀ a,Ok X out wf p e l st N k r (S a)):Ok X out wf p e l st N k r (∀ a,S a):=by
 obtain ⟨o,w1,n⟩:=r
 cases o with
 |none=>exact fun g a=>x a g
 |some v=>exact fun g a=>x a g
theorem Ok.wide (x:Ok X out wf p' c9 jW st N k r S) (h1:p≤p') (af:c9≤e) (aB:∀ q,p'≤q→q<c9→fl jW q=none→fl l q=none):Ok X out wf p e l st N k r S:=by
 obtain ⟨o,w1,n⟩:=r
 cases o with
 |none=>exact x
 |some v=>exact fun g=>x fun q hP sQ vv=>g q (Nat.le_trans h1 hP) (Nat.lt_of_lt_of_le sQ af) (aB q hP sQ vv)
theorem lA.up (x:lA X out wf k p st v w):lA X out wf k p (st++ex) v w:=by
 unfold lA at x ⊢
 cases e:fl X.hl p with
 |none=>rw[e] at x;exact x
 |some g =>
  rw[e] at x
  obtain ⟨n,h1,af,aB⟩:=x
  exact ⟨n,h1,by rw[List.length_append];exact Nat.le_trans af (Nat.le_add_right _ _),by rw[List.take_append_of_le_length af];exact aB⟩
theorem Ok.up (x:Ok X out wf p e l (st++ex) N k r S):Ok X out wf p e l st N k r S:=by
 obtain ⟨o,w1,n⟩:=r
 cases o with
 |none=>exact x
 |some v=>exact fun g=>x fun q hP sQ vv=>(g q hP sQ vv).up
theorem vw {h:cS}:fl (h::l) q=if h.i≤q∧q<h.j then some (h.g,h.d) else fl l q:=by
 show (match decide (h.i≤q)&&decide (q<h.j) with |true=>some (h.g,h.d) |false=>fl l q)=_
 by_cases a:h.i≤q <;> by_cases b:q<h.j <;> simp[a,b]
theorem vx (h:∀ x∈l,q<x.i∨x.j≤q):fl l q=none:=by
 induction l with
 |nil=>rfl
 |cons a r aI =>
  rw[vw,if_neg (fun y=>(h a (.head _)).elim (fun z=>Nat.not_le.mpr z y.1) (fun z=>Nat.not_lt.mpr z y.2))]
  exact aI fun x m=>h x (.tail _ m)
theorem vy (h:fl l q=none):fl (l++jW) q=fl jW q:=by
 induction l with
 |nil=>rfl
 |cons a r aI =>
  rw[vw] at h
  rw[List.cons_append,vw]
  split at h
  ·cases h
  ·rename_i bc;rw[if_neg bc];exact aI h
theorem sR {a b p m i j:Nat}(h:p+a≤i∧j≤p+a+b) (e:a+b≤m):p≤i∧j≤p+m:=⟨Nat.le_trans (Nat.le_add_right _ _) h.1,Nat.le_trans h.2 (Nat.le_trans (Nat.le_of_eq (Nat.add_assoc p a b)) (Nat.add_le_add_left e p))⟩
theorem vz (t:bF):∀(p:Nat) (d:Int),∀ h∈ak t p d,p≤h.i∧h.j≤p+bD t:=by
 induction t with
 |b7 _=>exact fun _ _ h m=>nomatch m
 |el=>exact fun _ _ h m=>nomatch m
 |fg _=>exact fun _ _ h m=>nomatch m
 |du _ b aI=>exact fun p d h m=>sR (aI (p+2) d h m) (Nat.le_add_right _ _)
 |fin t _ b aI=>exact fun p d h m=>sR (a:=3+fK t) (by have:=aI (p+3+fK t) (d+1) h m;rwa [Nat.add_assoc p] at this) (Nat.le_trans (Nat.le_add_right _ _) (Nat.le_succ _))
 |dg b c qq C3 =>
  refine fun p d h m=>?_
  rcases List.mem_append.mp m with m |m
  ·exact sR (a:=0) (qq p d h m) (by simp only[jX];omega)
  ·cases m with
   |head=>exact ⟨Nat.le_refl _,Nat.add_le_add_left (by simp only[jX];omega) p⟩
   |tail _ m=>exact sR (a:=bD b+(op b).toNat+3) (by have:=C3 _ d h m;simpa only[Nat.add_assoc] using this) (by simp only[jX];omega)
 |two a b yU qq =>
  refine fun p d h m=>?_
  cases e:op a with
  |true =>
   rw[ym e] at m
   rw[yk e]
   rcases List.mem_append.mp m with m |m
   ·exact sR (a:=0) (yU p d h m) (by omega)
   ·exact sR (qq _ d h m) (Nat.le_refl _)
  |false =>
   rw[yn e] at m
   rw[yl e]
   exact yU p d h m
end
section
set_option backward.match.sparseCases false
theorem KG {c:Nat}{f:aQ→Rs}:∀{r:Rs}{v:b5},r.1=some v→(r.seq c f).1=some v
 |(some _,_,_),_,h=>h
theorem Yf {cf:aQ→b5→aQ}(t:bF):∀(w:aQ),op t=false→∃ v,(fz cf t w).1=some v:=by
 induction t with
 |b7 n=>exact fun w h=>eD h
 |el=>exact fun w h=>eD h
 |fg k=>exact fun w _=>⟨_,rfl⟩
 |du n b _=>exact fun w h=>eD h
 |fin t n b _=>exact fun w h=>eD h
 |dg b c qq C3 =>
  refine fun w h=>?_
  obtain ⟨h1,af⟩:=Bool.or_eq_false_iff.mp h
  obtain ⟨v,aV⟩:=qq w h1
  show ∃ v,(jY cf (fz cf b w) (fz cf c)).1=some v
  generalize fz cf b w=r at *
  obtain ⟨o,w1,n⟩:=r
  cases aV
  obtain ⟨u,dK⟩:=C3 (cf w1 v) af
  exact ⟨u,KG dK⟩
 |two a b yU qq =>
  refine fun w h=>?_
  show ∃ v,((fz cf a w).seq 0 (fz cf b)).1=some v
  cases b2:op a with
  |false =>
   obtain ⟨v,aV⟩:=yU w b2
   exact ⟨v,KG aV⟩
  |true =>
   have bt:op b=false:=by have h:(op a&&op b)=false:=h;rwa [b2,Bool.true_and] at h
   generalize fz cf a w=r at *
   induction r using kM with
   |s v w1 n=>exact ⟨v,rfl⟩
   |n w1 n=>exact qq w1 bt
theorem vA {t:bF}{w w1:aQ}{n:Nat}(h:cv t w=(none,w1,n)):op t=true:=by
 cases e:op t with
 |true=>rfl
 |false=>have h:fz aQ.lC t w=_:=h;obtain ⟨v,aV⟩:=Yf (cf:=aQ.lC) t w e;rw[h] at aV;cases aV
theorem KH (w:aQ) (v:b5):(w.lC v).left=w.left:=rfl
section
variable {X:gQ}{w b1 w' : aQ}{out:V}{wf:aQ}{p q e:Nat}{l jW pre post:List cS}{st ex:List ck}{k c n:Nat}{r:Rs}{S aT:Prop}{v:b5}{f:aQ→Rs}{nm:b9}{t:dH}{b:bF}{d:b0}
theorem C4 {a b:ck}:(st++[a])++[b]=st++[a,b]:=List.append_assoc ..
theorem jn {m:Nat}(h:k+(m+1)≤3000):k<3000:=Nat.lt_of_lt_of_le (Nat.lt_add_of_pos_right (Nat.succ_pos m)) h
theorem Yg (bT:yj X.C X.K t p) (cP:oQ t=true) (ar:k+(ec t (.key d) w).2.2≤3000) :
 Ok X out wf p (p+fK t) [] st (fun k w=>Run X out wf k (p+fK t) st w) k (ec t (.key d) w) (Run X out wf k p (st++[.s (.key d)]) w):=by
 have KI:∀{n:fU},va X.C X.K p n→eW X.C (p+1) 6→k+2≤3000→Ok X out wf p (p+2) [] st (fun k w=>Run X out wf k (p+2) st w) k (none,w.sets n (.key d),2) (Run X out wf k p (st++[.s (.key d)]) w):=fun {n} h1 af ar=>by
  have e:w.sets n (.key d)=w.row (.b7 n (.key d)):=by cases n <;> rfl
  rw[e]
  exact fun g=>Kz (jn ar) h1 (nF ar af g)
 cases t with
 |b7 n=>exact KI bT.1 bT.2 ar
 |var=>exact KI bT.1 bT.2 ar
 |mem n =>
  have bA:hC n=false:=by cases n <;> first |rfl |cases cP
  obtain ⟨h1,af,aB,bu⟩:=bT
  cases he:eX n with
  |true =>
   cases n <;> first |cases he |skip
   have dn:ec (.mem .e) (.key d) w=(some (.bb (w.getD .e).1),(w.getD .e).2,1):=rfl
   rw[dn] at ar ⊢
   exact fun g=>yS (jn ar) h1 (g p (Nat.le_refl _) (Nat.lt_add_of_pos_right (Nat.succ_pos _)) rfl).up
  |false =>
   have dn:ec (.mem n) (.key d) w=(none,(w.getD n).2.d4 (.mem (w.getD n).1 (.key d)),4):=by show (match eX n with |true=>_ |false=>_)=_;rw[he]
   rw[dn] at ar ⊢
   refine fun g=>nG (jn ar) bA he h1 ?_
   rw[C4]
   have ar:k+4≤3000:=ar
   exact X6 (k:=k+1) (by omega) rfl rfl af (X7 (k:=k+2) (by omega) aB (nF (k:=k+3) (by omega) bu g))
 |c6 a b =>
  obtain ⟨b2,bt⟩:=Bool.and_eq_true_iff.mp cP
  have KJ:hC a=false:=by cases a <;> first |rfl |cases b2
  have Yh:hC b=false:=by cases b <;> first |rfl |cases bt
  obtain ⟨h1,af,aB,bu,dC,eF,eT⟩:=bT
  cases vB:eX a with
  |true =>
   cases a <;> first |cases vB |skip
   have dn:ec (.c6 .e b) (.key d) w=(some (.bb (w.getD .e).1),(w.getD .e).2,1):=rfl
   rw[dn] at ar ⊢
   exact fun g=>yS (jn ar) h1 (g p (Nat.le_refl _) (Nat.lt_add_of_pos_right (Nat.succ_pos _)) rfl).up
  |false =>
   cases C5:eX b with
   |true =>
    cases b <;> first |cases C5 |skip
    have dn:ec (.c6 a .e) (.key d) w=(some (.bb ((w.getD a).2.getD .e).1),((w.getD a).2.getD .e).2,2):=by show (match eX a with |true=>_ |false=>_)=_;rw[vB];rfl
    rw[dn] at ar ⊢
    refine fun g=>nG (jn ar) KJ vB h1 (yS ar af ?_)
    rw[C4];exact (g (p+1) (Nat.le_succ _) (Nat.add_lt_add_left (by decide:1<7) p) rfl).up
   |false =>
    have dn:ec (.c6 a b) (.key d) w=(none,((w.getD a).2.getD b).2.d4 (.c6 (w.getD a).1 ((w.getD a).2.getD b).1 (.key d)),7):=by show (match eX a with |true=>_ |false=>match eX b with |true=>_ |false=>_)=_;rw[vB,C5]
    rw[dn] at ar ⊢
    refine fun g=>nG (jn ar) KJ vB h1 (nG (k:=k+1) (by have ar:k+7≤3000:=ar;omega) Yh C5 af ?_)
    rw[C4,List.append_assoc]
    have ar:k+7≤3000:=ar
    exact X1 (k:=k+2) (by omega) aB (KA (k:=k+3) (by omega) rfl rfl rfl bu (KA (k:=k+4) (by omega) rfl rfl rfl dC (X8 (k:=k+5) (by omega) eF (nF (k:=k+6) (by omega) eT g))))
noncomputable def j4 (X:gQ) (t:bF):Prop:=∀(p:Nat) (st:List ck) (w:aQ) (k:Nat) (out:V) (wf:aQ) (pre post:List cS),At X.C X.K t p→X.hl=pre++(ak t p st.length++post)→(∀ h∈pre,h.j≤p)→k+(cv t w).2.2≤3000 →
 Ok X out wf p (p+bD t) (ak t p st.length) st (fun k w=>Run X out wf k (p+bD t) st w) k (cv t w) (Run X out wf k p st w)
theorem mH:r.2.2≤(r.seq c f).2.2:=by
 induction r using kM with
 |n w1 n=>exact Nat.le_trans (Nat.le_add_right n c) (Nat.le_add_right _ _)
 |s v w1 n=>exact Nat.le_refl _
theorem vC (h:kN nm=true):eX nm=false:=by cases nm <;> first |rfl |cases h
theorem KL (bt:j4 X b) (bc:kN nm=true) (eZ:At X.C X.K (.du nm b) p) (bY:X.hl=pre++(ak b (p+2) st.length++post)) (a4:∀ h∈pre,h.j≤p+2):∀(fuel:Nat) (w:aQ) (k:Nat),w.left.length<fuel→k+(d5 (cv b) nm fuel w).2.2≤3000 →
 Ok X out wf p (p+bD (.du nm b)) (ak b (p+2) st.length) st (fun k w=>Run X out wf k (p+bD (.du nm b)) st w) k (d5 (cv b) nm fuel w) (Run X out wf k p st w)
 |fuel+1,w,k,hf,ar=>by
  obtain ⟨h1,af,aB,bu⟩:=eZ
  have bA:=sJ bc
  have he:=vC bc
  have key:(w.getD nm).1≠.z→k+((((cv b (w.getD nm).2).seq 1 (d5 (cv b) nm fuel))).more 2).2.2≤3000 →
   Ok X out wf p (p+bD (.du nm b)) (ak b (p+2) st.length) st (fun k w=>Run X out wf k (p+bD (.du nm b)) st w) k ((((cv b (w.getD nm).2).seq 1 (d5 (cv b) nm fuel))).more 2) (Run X out wf k p st w):=fun hd ar=>by
   have ar:k+(2+((cv b (w.getD nm).2).seq 1 (d5 (cv b) nm fuel)).2.2)≤3000:=ar
   have aK:=mH (r:=cv b (w.getD nm).2) (c:=1) (f:=d5 (cv b) nm fuel)
   have nH:=bt (p+2) st (w.getD nm).2 (k+2) out wf pre post aB bY a4 (by omega)
   have lf:=vk w nm hd
   refine (Ok.seq (nH.wide (Nat.le_add_right _ _) (by simp only[mz,mA,jX];omega) fun _ _ _ h=>h) fun w1 n e=>?_).more fun g=>nG (by omega) bA he h1 (Yb (k:=k+1) (by omega) hd af g)
   rw[e] at ar
   have ar:k+(2+(n+1+(d5 (cv b) nm fuel w1).2.2))≤3000:=ar
   have l1:(cv b (w.getD nm).2).2.1.left.length≤_:=(nA KH b (w.getD nm).2).le
   rw[e] at l1
   have l1:w1.left.length≤(w.getD nm).2.left.length:=l1
   exact (KL bt bc ⟨h1,af,aB,bu⟩ bY a4 fuel w1 (k+2+(n+1)) (by omega) (by omega)).imp fun g=>yT (k:=k+2+n) (by omega) (bu (vA e)) g
  have dn:d5 (cv b) nm (fuel+1) w=match (w.getD nm).1 with |.z=>(none,(w.getD nm).2,2) |_=>(((cv b (w.getD nm).2).seq 1 (d5 (cv b) nm fuel))).more 2:=rfl
  rw[dn] at ar ⊢
  cases hd:(w.getD nm).1 with
  |z =>
   rw[hd] at ar
   refine fun g=>nG (jn ar) bA he h1 ?_
   rw[hd]
   exact Ya ar af g
  |o=>rw[hd] at ar;exact key (by rw[hd];exact b0.noConfusion) ar
  |t=>rw[hd] at ar;exact key (by rw[hd];exact b0.noConfusion) ar
end
end
section
variable {X:gQ}{w w' : aQ}{out:V}{wf:aQ}{p q e:Nat}{l jW pre post:List cS}{st ex:List ck}{k c n:Nat}{r:Rs}{S aT:Prop}{v:b5}{f:aQ→Rs}{nm:b9}{t:dH}{b:bF}{d:b0}
theorem KN (bt:j4 X b) (cP:oQ t=true) (eZ:At X.C X.K (.fin t nm b) p) (bY:X.hl=pre++(ak b (p+3+fK t) ((st.length:Nat)+1)++post)) (a4:∀ h∈pre,h.j≤p+3+fK t) (a:Nat):∀(b6:List b0) (w:aQ) (k:Nat),k+(dT (cv b) t b6 w).2.2≤3000 →
 Ok X out wf p (p+bD (.fin t nm b)) (ak b (p+3+fK t) ((st.length:Nat)+1)) st (fun k w=>Run X out wf k (p+bD (.fin t nm b)) st w) k (dT (cv b) t b6 w) (Run X out wf k (p+2) (st++[.k a b6]) w)
 |[],w,k,ar=>by
  obtain ⟨h1,af,aB,bu,dC,eF,eT⟩:=eZ
  exact fun g=>Yd (jn ar) aB (nF (k:=k+1) ar eT (by
   have e:p+(3+fK t+bD b+(op b).toNat)+1=p+bD (.fin t nm b):=by simp only[mz,mA,jX];omega
   rw[e];exact g))
 |d::b6,w,k,ar=>by
  obtain ⟨h1,af,aB,bu,dC,eF,eT⟩:=eZ
  have fQ:(st++[ck.k a b6]).length=st.length+1:=hX
  have ar:k+(1+((ec t (.key d) w).seq 0 fun w1=>(cv b w1).seq 1 (dT (cv b) t b6)).2.2)≤3000:=ar
  have aK:=mH (r:=ec t (.key d) w) (c:=0) (f:=fun w1=>(cv b w1).seq 1 (dT (cv b) t b6))
  have to:=(Yg (X:=X) (out:=out) (wf:=wf) (d:=d) (st:=st++[.k a b6]) (k:=k+1) bu cP (w:=w) (by omega)).up
  refine (Ok.seq (to.wide (e:=p+bD (.fin t nm b)) (l:=ak b (p+3+fK t) ((st.length:Nat)+1)) (show p≤p+3 by omega) (by simp only[mz,mA,jX];omega) fun q _ af _=>vx fun h m=>.inl (Nat.lt_of_lt_of_le af (vz b _ _ h m).1)) fun w1 n ao=>?_).more fun g=>Ye (by omega) aB g
  rw[ao] at ar
  have ar:k+(1+(n+0+((cv b w1).seq 1 (dT (cv b) t b6)).2.2))≤3000:=ar
  have bw:=mH (r:=cv b w1) (c:=1) (f:=dT (cv b) t b6)
  have nH:=bt (p+3+fK t) (st++[.k a b6]) w1 (k+1+(n+0)) out wf pre post dC (by rw[fQ];exact bY) a4 (by omega)
  rw[fQ] at nH
  refine Ok.seq (nH.up.wide (Nat.le_trans (Nat.le_add_right _ _) (Nat.le_add_right _ _)) (by simp only[mz,mA,jX];omega) fun _ _ _ h=>h) fun eA a3 aC=>?_
  rw[aC] at ar
  have ar:k+(1+(n+0+(a3+1+(dT (cv b) t b6 eA).2.2)))≤3000:=ar
  exact (KN bt cP ⟨h1,af,aB,bu,dC,eF,eT⟩ bY a4 a b6 eA (k+1+(n+0)+(a3+1)) (by omega)).imp fun g=>yT (k:=k+1+(n+0)+a3) (by omega) (eF (vA aC)) g
theorem Yi (bt:j4 X b) (cP:oQ t=true) (bc:kN nm=true):j4 X (.fin t nm b):=fun p st w k out wf pre post eZ bY a4 ar=>by
 have ar:k+(2+(dT (cv b) t (keysOf (w.getD nm).1) (w.getD nm).2).2.2)≤3000:=ar
 have go:=fun a=>KN (X:=X) (out:=out) (wf:=wf) (pre:=pre) (post:=post) bt cP eZ bY (fun h m=>Nat.le_trans (a4 h m) (Nat.le_trans (Nat.le_add_right _ _) (Nat.le_add_right _ _))) a (keysOf (w.getD nm).1) (w.getD nm).2 (k+2) (by omega)
 obtain ⟨h1,af,aB,bu,dC,eF,eT⟩:=eZ
 exact (Ok.all go).more fun g=>nG (by omega) (sJ bc) (vC bc) h1 (X9 (k:=k+1) (by omega) af g)
theorem Yj (bt:j4 X b) (bc:kN nm=true):j4 X (.du nm b):=fun p st w k out wf pre post eZ bY a4 ar =>
 KL bt bc eZ bY (fun h m=>Nat.le_trans (a4 h m) (Nat.le_add_right _ _)) (w.left.length+1) w k (Nat.lt_succ_self _) ar
theorem Yk {b c:bF}(bt:j4 X b) (aw:j4 X c):j4 X (.dg b c):=fun p st w k out wf pre post eZ bY a4 ar=>by
 obtain ⟨h1,af,aB,bu,dC,eF,eT⟩:=eZ
 have ar:k+(jY aQ.lC (cv b w) (cv c)).2.2≤3000:=ar
 show Ok X out wf p (p+bD (.dg b c)) _ st _ k (jY aQ.lC (cv b w) (cv c)) _
 have ZO:p+bD b≤p+bD (.dg b c):=by simp only[mz,mA,jX];omega
 have ao:X.hl=pre++(ak b p st.length++((⟨p,p+bD b,p+bD b+(op b).toNat,(st.length:Nat)⟩::ak c (p+bD b+(op b).toNat+3) st.length)++post)):=by
  rw[bY];simp only[Cw,List.append_assoc,List.cons_append]
 have cost:(cv b w).2.2≤(jY aQ.lC (cv b w) (cv c)).2.2:=by
  generalize cv b w=r
  induction r using kM with
  |n w1 n=>exact Nat.le_succ n
  |s v w1 n=>exact Nat.le_trans (Nat.le_add_right n 3) (Nat.le_add_right _ _)
 have nH:=bt p st w k out wf pre _ h1 ao a4 (by omega)
 have aa:∀{w1 n},cv b w=(none,w1,n)→op b=true:=vA
 generalize cv b w=r at *
 induction r using kM with
 |n w1 n =>
  have ar:k+(n+1)≤3000:=ar
  exact fun g=>nH (yT (k:=k+n) (by omega) (af (aa rfl)) g)
 |s v w1 n =>
  have ar:k+(n+3+((cv c (w1.lC v)).seq 1 fun w=>(none,w,0)).2.2)≤3000:=ar
  have aK:=mH (r:=cv c (w1.lC v)) (c:=1) (f:=fun w=>(none,w,0))
  have KO:=vz b p st.length
  have co:=aw (p+bD b+(op b).toNat+3) st (w1.lC v) (k+(n+3)) out wf (pre++(ak b p st.length++[⟨p,p+bD b,p+bD b+(op b).toNat,(st.length:Nat)⟩])) post eF (by rw[ao];simp only[List.append_assoc,List.cons_append,List.nil_append]) (fun h m=>by
   rcases List.mem_append.mp m with m |m
   ·exact Nat.le_trans (a4 h m) (by omega)
   ·rcases List.mem_append.mp m with m |m
    ·exact Nat.le_trans (KO h m).2 (by omega)
    ·rw[List.mem_singleton.mp m];show p+bD b≤_;omega) (by omega)
  have u2:=co.wide (p:=p) (e:=p+bD (.dg b c)) (l:=ak (.dg b c) p st.length) (by omega) (by simp only[mz,mA,jX];omega) fun q a1 a2 hA=>by
   rw[Cw,vy (vx fun h m=>.inr (Nat.le_trans (KO h m).2 (by omega))),vw,if_neg (by dsimp only;omega)]
   exact hA
  refine (Ok.seq (N:=fun k w=>Run X out wf k (p+bD (.dg b c)) st w) u2 fun eA a3 aC=>?_).more fun g=>nH fun q a1 a2 hA=>?_
  ·rw[aC] at ar
   have ar:k+(n+3+(a3+1+0))≤3000:=ar
   exact fun g=>yT (k:=k+(n+3)+a3) (by omega) (eT (vA aC)) g
  ·have nE:fl X.hl q=some (p+bD b+(op b).toNat,((st.length:Nat):Int)):=by
    rw[ao,vy (vx fun h m=>.inr (Nat.le_trans (a4 h m) a1)),vy hA,List.cons_append,vw,if_pos ⟨a1,a2⟩]
   unfold lA
   rw[nE]
   refine ⟨st.length,rfl,Nat.le_refl _,?_⟩
   rw[List.take_length]
   exact X4 (k:=k+n) (by omega) aB (Kz (n:=.x) (k:=k+n+1) (by omega) bu (nF (k:=k+n+2) (by omega) dC g))
theorem Yl {b c:bF}(bt:j4 X b) (aw:j4 X c):j4 X (.two b c):=fun p st w k out wf pre post eZ bY a4 ar=>by
 have ar:k+((cv b w).seq 0 (cv c)).2.2≤3000:=ar
 have aK:=mH (r:=cv b w) (c:=0) (f:=cv c)
 show Ok X out wf p (p+bD (.two b c)) _ st _ k ((cv b w).seq 0 (cv c)) _
 cases aa:op b with
 |true =>
  have hN:bD (.two b c)=bD b+bD c:=yk aa
  have C6:ak (.two b c) p st.length=ak b p st.length++ak c (p+bD b) st.length:=ym aa
  rw[C6] at bY ⊢
  rw[hN]
  have nH:=bt p st w k out wf pre (ak c (p+bD b) st.length++post) eZ.1 (by rw[bY,List.append_assoc]) a4 (by omega)
  refine Ok.seq (nH.wide (Nat.le_refl _) (by omega) fun q _ af aB=>by rw[vy aB];exact vx fun h m=>.inl (Nat.lt_of_lt_of_le af (vz c _ _ h m).1)) fun w1 n e=>?_
  rw[e] at ar
  have ar:k+(n+0+(cv c w1).2.2)≤3000:=ar
  have co:=aw (p+bD b) st w1 (k+(n+0)) out wf (pre++ak b p st.length) post (eZ.2 aa) (by rw[bY];simp only[List.append_assoc]) (fun h m=>by
   rcases List.mem_append.mp m with m |m
   ·exact Nat.le_trans (a4 h m) (Nat.le_add_right _ _)
   ·exact (vz b p _ h m).2) (by omega)
  rw[Nat.add_assoc p] at co
  exact co.wide (Nat.le_add_right _ _) (Nat.le_refl _) fun q h1 _ aB=>by rw[vy (vx fun h m=>.inr (Nat.le_trans (vz b p _ h m).2 h1))];exact aB
 |false =>
  have hN:bD (.two b c)=bD b:=yl aa
  have C6:ak (.two b c) p st.length=ak b p st.length:=yn aa
  rw[C6] at bY ⊢
  rw[hN]
  exact Ok.seq (bt p st w k out wf pre post eZ.1 bY a4 (by omega)) fun w1 n e=>absurd (vA e) (by rw[aa];exact Bool.noConfusion)
theorem qr:∀ t:bF,good t=true→j4 X t
 |.b7 n,_=>fun p st w k out wf pre post eZ bY a4 ar=>by
  cases n with
  |x=>exact fun g H am ρ ls x is aP=>X5 (jn ar) (List.getElem?_eq_getElem x.wr.cur) eZ.1 (nF ar eZ.2 g) H am ρ ls x is aP
  |e=>exact fun g=>yS (jn ar) eZ.1 (g p (Nat.le_refl _) (Nat.lt_add_of_pos_right (Nat.succ_pos _)) rfl)
  |t=>exact fun g=>nG (jn ar) rfl rfl eZ.1 (nF ar eZ.2 g)
  |u=>exact fun g=>nG (jn ar) rfl rfl eZ.1 (nF ar eZ.2 g)
 |.el,_=>fun p st w k out wf pre post eZ bY a4 ar=>by
  obtain ⟨⟨i,h1⟩,af⟩:=eZ
  exact fun g=>X3 (jn ar) h1 (nF ar af g)
 |.fg c,h=>fun p st w k out wf pre post eZ bY a4 ar=>by
  have aw:c=7∨c=8∨c=9:=by
   have h:(decide (c=7) || (decide (c=8) || decide (c=9)))=true:=h
   simpa using h
  exact fun g=>X2 (jn ar) aw eZ.1 (Yc ar eZ.2 (g (p+1) (Nat.le_succ _) (Nat.lt_succ_self _) rfl))
 |.du n b,h=>by
  obtain ⟨h1,af⟩:=Bool.and_eq_true_iff.mp h
  exact Yj (qr b af) h1
 |.fin t n b,h=>by
  obtain ⟨h1,af⟩:=Bool.and_eq_true_iff.mp h
  obtain ⟨af,aB⟩:=Bool.and_eq_true_iff.mp af
  exact Yi (qr b aB) h1 af
 |.dg b c,h=>by
  obtain ⟨h1,af⟩:=Bool.and_eq_true_iff.mp h
  exact Yk (qr b h1) (qr c af)
 |.two b c,h=>by
  obtain ⟨h1,af⟩:=Bool.and_eq_true_iff.mp h
  exact Yl (qr b h1) (qr c af)
end
noncomputable def isKey:b5→Bool
 |.key _=>true |_=>false
noncomputable def keepR:Row→Bool
 |.b7 .x v=>isKey v |_=>true
structure ep (w b1:aQ):Prop where
 left:b1.left=w.left
 cells:b1.cells=w.cells
 cur:b1.cur=w.cur
 held:b1.held=w.held
 seen:b1.seen.filter keepR=w.seen
 ok:w.cur<w.cells.length
section
variable {X:gQ}{w b1 w' : aQ}{out:V}{wf:aQ}{p q e p' c9:Nat}{l jW:List cS}{st ex:List ck}{N C2:Nat→aQ→Prop}{k c n:Nat}{r:Rs}{S aT:Prop}{v:b5}{f:aQ→Rs}{rw' : Row}{nm:b9}
theorem ep.d4 (x:ep w b1) (h:keepR rw'=true):ep (w.d4 rw') (b1.d4 rw'):=⟨x.left,x.cells,x.cur,x.held,by
 show (b1.seen++[rw']).filter keepR=w.seen++[rw']
 rw[List.filter_append,x.seen,List.filter_cons_of_pos h];rfl,x.ok⟩
theorem ep.hB (x:ep w b1):b1.hB.1=w.hB.1∧ep w.hB.2 b1.hB.2:=by
 obtain ⟨Xr,lf,ce,Xs,he⟩:=w
 obtain ⟨ZP,Ym,ZQ,ZR,oj⟩:=b1
 have h:=x.left
 dsimp only at h
 subst h
 cases Ym with
 |nil=>exact ⟨rfl,x⟩
 |cons d r=>exact ⟨rfl,rfl,x.cells,x.cur,x.held,x.seen,x.ok⟩
theorem ep.getD (x:ep w b1) (n:b9):(b1.getD n).1=(w.getD n).1∧ep (w.getD n).2 (b1.getD n).2:=(x.d4 (rw':=.get n) rfl).hB
theorem ep.put (x:ep w b1):ep (w.put v) (b1.put v):=⟨x.left,by show b1.cells.set b1.cur v=w.cells.set w.cur v;rw[x.cells,x.cur],x.cur,x.held,x.seen,by show w.cur<(w.cells.set w.cur v).length;rw[List.length_set];exact x.ok⟩
theorem ep.row (x:ep w b1) (h:keepR rw'=true):ep (w.row rw') (b1.row rw'):=by
 unfold aQ.row
 split
 ·exact x.put.d4 h
 ·exact x.d4 h
theorem ep.hold (x:ep w b1):ep w.hold b1.hold:=⟨x.left,x.cells,x.cur,by show b1.held++[b1.cur]=w.held++[w.cur];rw[x.held,x.cur],x.seen,x.ok⟩
theorem ep.Yn (x:ep w b1) (h:isKey v=false):ep (w.fresh v) ((b1.fresh .un).row (.b7 .x v)):=by
 refine ⟨x.left,?_,?_,x.held,?_,?_⟩
 ·show (b1.cells++[b5.un]).set b1.cells.length v=w.cells++[v]
  rw[x.cells];simp
 ·show b1.cells.length=w.cells.length;rw[x.cells]
 ·show (b1.seen++[Row.b7 .x v]).filter keepR=w.seen
  rw[List.filter_append,x.seen,List.filter_cons_of_neg (by show ¬ isKey v=true;rw[h];exact Bool.noConfusion)];simp
 ·show w.cells.length<(w.cells++[v]).length;simp
structure RR (r aE:Rs):Prop where
 f:aE.1=r.1
 w:ep r.2.1 aE.2.1
 c:aE.2.2=r.2.2
 k:∀ v,r.1=some v→isKey v=false
variable {aE:Rs}{sS:aQ→Rs}
theorem RR.more (x:RR r aE):RR (r.more c) (aE.more c):=⟨x.f,x.w,congrArg (c + ·) x.c,x.k⟩
theorem RR.seq (x:RR r aE) (y:∀ w b1,ep w b1→RR (f w) (sS b1)):RR (r.seq c f) (aE.seq c sS):=by
 obtain ⟨o,w1,n⟩:=r
 obtain ⟨o',Yo,wY⟩:=aE
 obtain ⟨h1,af,aB,bu⟩:=x
 dsimp only at h1 af aB bu
 subst h1
 subst aB
 cases o' with
 |none=>exact (y _ _ af).more
 |some v=>exact ⟨rfl,af,rfl,bu⟩
theorem RR.of (x:ep w b1) {n:Nat}:RR (none,w,n) (none,b1,n):=⟨rfl,x,rfl,fun _ h=>nomatch h⟩
theorem RR.vD (x:ep w b1) {n:Nat}(h:isKey v=false):RR (some v,w,n) (some v,b1,n):=⟨rfl,x,rfl,fun _ e=>by cases e;exact h⟩
theorem KP (h:∀ w b1,ep w b1→RR (f w) (sS b1)):∀(k:Nat) (w b1:aQ),ep w b1→RR (d5 f nm k w) (d5 sS nm k b1)
 |0,w,b1,x=>.of x
 |k+1,w,b1,x=>by
  obtain ⟨e,y⟩:=x.getD nm
  unfold d5
  rw[e]
  have key:=(RR.seq (c:=1) (h _ _ y) (KP h k)).more (c:=2)
  cases (w.getD nm).1 with
  |z=>exact .of y
  |o=>exact key
  |t=>exact key
theorem Yp (t:dH) (d:b0) (x:ep w b1):RR (ec t (.key d) w) (ec t (.key d) b1):=by
 have st:∀ n:fU,RR (none,w.sets n (.key d),2) (none,b1.sets n (.key d),2):=fun n=>by
  have e:∀ w:aQ,w.sets n (.key d)=w.row (.b7 n (.key d)):=fun w=>by cases n <;> rfl
  rw[e,e];exact .of (x.row (by cases n <;> rfl))
 cases t with
 |b7 n=>exact st n
 |var=>exact st .w
 |mem n =>
  obtain ⟨e,y⟩:=x.getD n
  unfold ec
  dsimp only
  rw[e]
  cases eX n with
  |true=>exact .vD y rfl
  |false=>exact .of (y.d4 rfl)
 |c6 a b =>
  obtain ⟨e,y⟩:=x.getD a
  obtain ⟨aC,dD⟩:=y.getD b
  unfold ec
  dsimp only
  rw[e,aC]
  cases eX a with
  |true=>exact .vD y rfl
  |false =>
   cases eX b with
   |true=>exact .vD dD rfl
   |false=>exact .of (dD.d4 rfl)
theorem KQ (h:∀ w b1,ep w b1→RR (f w) (sS b1)) (t:dH):∀(b6:List b0) (w b1:aQ),ep w b1→RR (dT f t b6 w) (dT sS t b6 b1)
 |[],w,b1,x=>.of x
 |k::r,w,b1,x=>(RR.seq (c:=0) (Yp t k x) fun w1 ZS y=>RR.seq (c:=1) (h _ _ y) (KQ h t r)).more (c:=1)
theorem qs:∀(t:bF) (w b1:aQ),ep w b1→RR (a7 t w) (cv t b1)
 |.b7 n,w,b1,x=>by
  show RR (vi n w) (vi n b1)
  unfold vi
  cases n with
  |x=>exact .of (x.d4 rfl)
  |e =>
   obtain ⟨e,y⟩:=x.getD .e
   dsimp only
   rw[e];exact .vD y rfl
  |t=>exact .of (x.getD .t).2
  |u=>exact .of (x.getD .u).2
 |.el,w,b1,x=>.of x.hold
 |.fg k,w,b1,x=>.vD x (by unfold vj;split <;> rfl)
 |.du n b,w,b1,x=>by
  show RR (d5 (a7 b) n (w.left.length+1) w) (d5 (cv b) n (b1.left.length+1) b1)
  rw[x.left];exact KP (qs b) _ w b1 x
 |.fin t n b,w,b1,x=>by
  obtain ⟨e,y⟩:=x.getD n
  show RR ((dT (a7 b) t (keysOf (w.getD n).1) (w.getD n).2).more 2) ((dT (cv b) t (keysOf (b1.getD n).1) (b1.getD n).2).more 2)
  rw[e];exact (KQ (qs b) t _ _ _ y).more
 |.dg b c,w,b1,x=>by
  have h:=qs b w b1 x
  show RR (jY aQ.fresh (a7 b w) (a7 c)) (jY aQ.lC (cv b b1) (cv c))
  generalize a7 b w=r at *
  generalize cv b b1=aE at *
  obtain ⟨o,w1,n⟩:=r
  obtain ⟨o',Yo,wY⟩:=aE
  obtain ⟨h1,af,aB,bu⟩:=h
  dsimp only at h1 af aB bu
  subst h1
  subst aB
  cases o' with
  |none=>exact .of af
  |some v=>exact (RR.seq (c:=1) (qs c _ _ (af.Yn (bu v rfl))) fun w b1 y=>.of y).more
 |.two a b,w,b1,x=>RR.seq (c:=0) (qs a w b1 x) (qs b)
end
structure fN (q:Nat) (H:List aj) (w:aQ) (ρ:Nat→cn) (r:Rs) (H' : List aj) (bW:Nat→Nat) (ρ' : Nat→cn):Prop where
 wr:cK q H' r.2.1 bW ρ'
 d6:fk ρ H H'
 ex:gB ρ ρ' H
 s:r.2.1.seen.length≤w.seen.length+r.2.2
 h:r.2.1.held.length≤w.held.length+r.2.2
noncomputable def dP (w:aQ) (c:Nat):Prop:=w.seen.length+c≤3000∧w.held.length+c≤3000
noncomputable def fO:Option b5→V
 |none=>.none
 |some v=>v.V
noncomputable abbrev yV (ls:List (Str×V)):a5:=⟨ts.scope,[],none,ls⟩
section
variable {q c m:Nat}{H H' H1 H2:List aj}{w w' : aQ}{am bW:Nat→Nat}{ρ ρ' mC:Nat→cn}{t:dH}{d o:b0}{n:b9}{r:Rs}{f:aQ→Rs}{ls:List (Str×V)}{v:V}
theorem dP.lt (x:dP w (c+1)):w.seen.length<aL∧w.held.length<aL:=by
 obtain ⟨a,b⟩:=x
 exact ⟨Nat.lt_of_le_of_lt (Nat.le_trans (Nat.le_add_right _ _) a) (by decide),Nat.lt_of_le_of_lt (Nat.le_trans (Nat.le_add_right _ _) b) (by decide)⟩
theorem Yq (n:b9) (d:b0):sM n d=.tup [(fM n d).V,gk n d]:=by unfold sM fM gk;cases eX n <;> rfl
theorem qt (x:cK q H w am ρ) (ak:w.seen.length<aL) (bc:hC n=false):gj (fun H'=>aq 5 (.obj (.ref 897)) [.ref (q+4),.str n.s] H (.tup [(fM n (w.getD n).1).V,gk n (w.getD n).1]) H') fun H'=>cK q H' (w.getD n).2 am ρ∧fk ρ H H':=by
 rw[←Yq];exact J6 x ak bc
noncomputable abbrev oW (q:Nat) (t:dH) (d:b0) (r:List (Str×V)):List (Str×V):=(dq,.ref (q+4))::(hu,c7 t)::(oU,(b5.key d).V)::r
theorem qu (g:ab 8 (yV (oW q t d [])) qP.1 H (.ret v) ls H'):aq 9 (.obj (.ref 911)) [.ref (q+4),c7 t,(b5.key d).V] H v H' :=
 aq.hQ (fi:=⟨ts,[dq,hu,oU],[],qP.1,none,false⟩) (vs:=[.ref (q+4),c7 t,(b5.key d).V]) (cN:=oW q t d []) (by kernel_rfl) rfl (by kernel_rfl) rfl (by kernel_rfl) g
theorem sT:(w.getD n).2.seen.length≤w.seen.length+1∧(w.getD n).2.held.length≤w.held.length:=⟨C0 n,Nat.le_of_eq (congrArg List.length (C1 n))⟩
theorem C7 (n:fU) (v:b5):w.sets n v=w.row (.b7 n v):=by cases n <;> rfl
theorem KR {n:fU}(t:dH) (bT:c7 t=c7 (.b7 n)∨c7 t=c7 .var∧n=.w) (x:cK q H w am ρ) (ak:dP w 2):gj (fun H'=>aq 9 (.obj (.ref 911)) [.ref (q+4),c7 t,(b5.key d).V] H .none H') fun H'=>fN q H w ρ (none,w.sets n (.key d),2) H' am ρ:=by
 obtain ⟨H',g,y,k⟩:=qm (r:=.b7 n (.key d)) x ak.lt.1 rfl
 have g:=g.mono (by decide:6≤8)
 refine ⟨H',?_,⟨by rw[C7];exact y,k,.refl,by rw[C7];exact Nat.le_trans (Nat.le_of_eq (sP _)) (Nat.le_succ _),by rw[C7];exact Nat.le_trans (Nat.le_of_eq (congrArg List.length (yR _))) (Nat.le_add_right _ _)⟩⟩
 rcases bT with e |⟨e,rfl⟩
 ·have:=qu (v:=.none) (q:=q) (t:=.b7 n) (d:=d) (ab.stop (ah.cm I (ab.cons (ah.expr (ai.bI (g:=.obj (.ref 904)) (vs:=[.ref (q+4),.tup [.str eh,.str n.s],(b5.key d).V]) I (GE.cons I (GE.cons (ai.tup (GE.cons I (GE.cons (ai.cm I I) GE.nil))) I)) g)) (ab.ret (ah.ret I)))) ey)
  rw[e];exact this
 ·have:=qu (v:=.none) (q:=q) (t:=.var) (d:=d) (ab.stop (ah.cm I (ab.cons (ah.expr (ai.bI (g:=.obj (.ref 904)) (vs:=[.ref (q+4),.tup [.str eh,.str m8],(b5.key d).V]) I (GE.cons I (GE.cons (ai.tup (GE.cons I (GE.cons (ai.iff I I) GE.nil))) I)) g)) (ab.ret (ah.ret I)))) ey)
  rw[e];exact this
theorem Yr (bc:hC n=false) (x:cK q H w am ρ) (ak:dP w (ec (.mem n) (.key d) w).2.2):gj (fun H'=>aq 9 (.obj (.ref 911)) [.ref (q+4),c7 (.mem n),(b5.key d).V] H (fO (ec (.mem n) (.key d) w).1) H') fun H'=>fN q H w ρ (ec (.mem n) (.key d) w) H' am ρ:=by
 unfold ec at ak ⊢
 dsimp only at ak ⊢
 have lt:w.seen.length<aL:=by cases he:eX n <;> rw[he] at ak <;> exact ak.lt.1
 obtain ⟨H1,g,y,k⟩:=qt x lt bc
 obtain ⟨dj,eu⟩:=sT (w:=w) (n:=n)
 have s1:ah 8 (yV (oW q (.mem n) d [])) (bQ qP.1 1) H .next (oW q (.mem n) d [(lh,(fM n (w.getD n).1).V),(dd,gk n (w.getD n).1)]) H1 :=
  ah.assign (ai.bI (g:=.obj (.ref 897)) (vs:=[.ref (q+4),.str n.s]) I I (g.mono (by decide))) I
 unfold fM gk at s1
 cases he:eX n with
 |true =>
  rw[he] at s1 ak
  exact ⟨H1,qu (ab.cons (ah.iff I ab.nil) (ab.cons s1 (ab.stop (ah.cm (GT.BD I) (ab.cons (ah.iff I ab.nil) (ab.ret (ah.ret I)))) ey))),y,k,.refl,dj,Nat.le_trans eu (Nat.le_add_right _ _)⟩
 |false =>
  rw[he] at s1 ak
  have ak:dP w 4:=ak
  obtain ⟨H2,g2,dD,ew⟩:=qm (r:=.mem (w.getD n).1 (.key d)) y (Nat.lt_of_le_of_lt dj (CZ (qo (k:=3000) (Nat.le_trans (Nat.le_add_right _ _) ak.1) (Nat.le_refl _)))) rfl
  refine ⟨H2,qu (ab.cons (ah.iff I ab.nil) (ab.cons s1 (ab.stop (ah.cm (GT.uF I I) (ab.cons (ah.cm I (ab.one (ah.expr (ai.bI (g:=.obj (.ref 904)) (vs:=[.ref (q+4),.tup [.str sG,cg (w.getD n).1,.str iK],(b5.key d).V]) I I (g2.mono (by decide)))))) (ab.ret (ah.ret I)))) ey))),dD,k.trans .refl ew,.refl,?_,?_⟩
  ·exact Nat.le_trans (Nat.le_of_eq (sP (.mem (w.getD n).1 (.key d)))) (Nat.le_trans (Nat.add_le_add_right dj 1) (Nat.add_le_add_left (by decide:2≤4) _))
  ·exact Nat.le_trans eu (Nat.le_add_right _ _)
theorem Ys {a b:b9}(b2:hC a=false) (bt:hC b=false) (x:cK q H w am ρ) (ak:dP w (ec (.c6 a b) (.key d) w).2.2):gj (fun H'=>aq 9 (.obj (.ref 911)) [.ref (q+4),c7 (.c6 a b),(b5.key d).V] H (fO (ec (.c6 a b) (.key d) w).1) H') fun H'=>fN q H w ρ (ec (.c6 a b) (.key d) w) H' am ρ:=by
 unfold ec at ak ⊢
 dsimp only at ak ⊢
 have lt:w.seen.length<aL:=by cases he:eX a <;> cases sU:eX b <;> rw[he] at ak <;> (try rw[sU] at ak) <;> exact ak.lt.1
 obtain ⟨H1,g,y,k⟩:=qt x lt b2
 obtain ⟨dj,eu⟩:=sT (w:=w) (n:=a)
 obtain ⟨kq,n7⟩:=sT (w:=(w.getD a).2) (n:=b)
 have s1:ah 8 (yV (oW q (.c6 a b) d [])) (bQ qP.1 1) H .next (oW q (.c6 a b) d [(lh,(fM a (w.getD a).1).V),(dd,gk a (w.getD a).1)]) H1 :=
  ah.assign (ai.bI (g:=.obj (.ref 897)) (vs:=[.ref (q+4),.str a.s]) I I (g.mono (by decide))) I
 unfold fM gk at s1
 cases he:eX a with
 |true =>
  rw[he] at s1 ak
  exact ⟨H1,qu (ab.cons (ah.iff I ab.nil) (ab.cons s1 (ab.stop (ah.cm (GT.BD I) (ab.cons (ah.iff I ab.nil) (ab.ret (ah.ret I)))) ey))),y,k,.refl,dj,Nat.le_trans eu (Nat.le_add_right _ _)⟩
 |false =>
  rw[he] at s1 ak
  have l2:(w.getD a).2.seen.length<aL:=Nat.lt_of_le_of_lt dj (CZ (qo (k:=3000) (by cases sU:eX b <;> rw[sU] at ak <;> exact Nat.le_trans (Nat.le_add_right _ _) ak.1) (Nat.le_refl _)))
  obtain ⟨H2,g2,dD,ew⟩:=qt y l2 bt
  have s2:ah 8 (yV (oW q (.c6 a b) d [(lh,cg (w.getD a).1),(dd,.none)])) (bQ qP.1 3) H1 .next (oW q (.c6 a b) d [(lh,cg (w.getD a).1),(dd,gk b ((w.getD a).2.getD b).1),(yK,(fM b ((w.getD a).2.getD b).1).V)]) H2 :=
   ah.assign (ai.bI (g:=.obj (.ref 897)) (vs:=[.ref (q+4),.str b.s]) I I (g2.mono (by decide))) I
  unfold fM gk at s2
  cases sU:eX b with
  |true =>
   rw[sU] at s2 ak
   exact ⟨H2,qu (ab.cons (ah.iff I ab.nil) (ab.cons s1 (ab.cons (ah.iff (GT.uF I I) ab.nil) (ab.cons s2 (ab.cons (ah.iff I ab.nil) (ab.ret (ah.ret I))))))),dD,k.trans .refl ew,.refl,Nat.le_trans kq (Nat.add_le_add_right dj 1),Nat.le_trans n7 (Nat.le_trans eu (Nat.le_add_right _ _))⟩
  |false =>
   rw[sU] at s2 ak
   have ak:dP w 7:=ak
   obtain ⟨H3,g3,gv,kR⟩:=qm (r:=.c6 (w.getD a).1 ((w.getD a).2.getD b).1 (.key d)) dD (Nat.lt_of_le_of_lt (Nat.le_trans kq (Nat.add_le_add_right dj 1)) (qo (k:=3000) (Nat.le_trans (Nat.le_add_right _ _) ak.1) (Nat.le_refl _))) rfl
   refine ⟨H3,qu (ab.cons (ah.iff I ab.nil) (ab.cons s1 (ab.cons (ah.iff (GT.uF I I) ab.nil) (ab.cons s2 (ab.cons (ah.cm I (ab.one (ah.expr (ai.bI (g:=.obj (.ref 904)) (vs:=[.ref (q+4),.tup [.str sH,cg (w.getD a).1,cg ((w.getD a).2.getD b).1],(b5.key d).V]) I I (g3.mono (by decide)))))) (ab.ret (ah.ret I))))))),gv,(k.trans .refl ew).trans .refl kR,.refl,?_,?_⟩
   ·exact Nat.le_trans (Nat.le_of_eq (sP (.c6 (w.getD a).1 ((w.getD a).2.getD b).1 (.key d)))) (Nat.le_trans (Nat.add_le_add_right (Nat.le_trans kq (Nat.add_le_add_right dj 1)) 1) (Nat.add_le_add_left (by decide:3≤7) _))
   ·exact Nat.le_trans n7 (Nat.le_trans eu (Nat.le_add_right _ _))
theorem Yt (t:dH) (cP:oQ t=true) (x:cK q H w am ρ) (ak:dP w (ec t (.key d) w).2.2):gj (fun H'=>aq 9 (.obj (.ref 911)) [.ref (q+4),c7 t,(b5.key d).V] H (fO (ec t (.key d) w).1) H') fun H'=>fN q H w ρ (ec t (.key d) w) H' am ρ:=by
 cases t with
 |b7 n=>exact KR _ (.inl rfl) x ak
 |var=>exact KR (n:=.w) _ (.inr ⟨rfl,rfl⟩) x ak
 |mem n=>exact Yr (by cases n <;> first |rfl |cases cP) x ak
 |c6 a b =>
  obtain ⟨b2,bt⟩:=Bool.and_eq_true_iff.mp cP
  exact Ys (by cases a <;> first |rfl |cases b2) (by cases b <;> first |rfl |cases bt) x ak
end
noncomputable abbrev Yu:Str:=⟨⟨[114,111,119,115]⟩⟩
noncomputable abbrev hi (ls:List (Str×V)):a5:=⟨tu.scope,[],none,ls⟩
noncomputable abbrev qv (ls:List (Str×V)):a5:=⟨qQ.scope,[],none,ls⟩
noncomputable abbrev nI (q:Nat) (K:Str) (ps:List V) (sc:V) (r:List (Str×V)):List (Str×V):=(dq,.ref (q+4))::(cJ,ez K ps sc)::(c3,.str K)::(Yu,.aO ps)::r
structure vE (ρ:Nat→cn) (H:List aj) (nodes:V) (src:Src) (vs:List V):Prop where
 s:∀ H',fk ρ H H'→srcOf nodes ⟨H',True⟩=some src
 i:∀ H',fk ρ H H'→∀ k:Nat,itemAt src k H'=some vs[k]?
 t:∀ t,i0 src t=true
noncomputable def iS (t:bF):Prop:=∀(q:Nat) (H:List aj) (w:aQ) (am:Nat→Nat) (ρ:Nat→cn),cK q H w am ρ→dP w (a7 t w).2.2→mD (fun H' bW ρ'=>aq (bV t) (.obj (.ref 918)) [.ref (q+4),a9 t] H (fO (a7 t w).1) H') fun H' bW ρ'=>fN q H w ρ (a7 t w) H' bW ρ'
noncomputable def vF (t:bF):Prop:=∀(q:Nat) (H:List aj) (w:aQ) (am:Nat→Nat) (ρ:Nat→cn) (nodes:V) (src:Src),cK q H w am ρ→vE ρ H nodes src (bE t)→dP w (a7 t w).2.2→mD (fun H' bW ρ'=>aq (bV t+3) (.obj (.ref 925)) [.ref (q+4),nodes] H (fO (a7 t w).1) H') fun H' bW ρ'=>fN q H w ρ (a7 t w) H' bW ρ'
section
variable {q c m d n i:Nat}{H H' H1 H2:List aj}{w w' w1:aQ}{am bW eB hj:Nat→Nat}{ρ ρ' eY gR:Nat→cn}{r cH:Rs}{f:aQ→Rs}{ls:List (Str×V)}{v nodes:V}{K:Str}{ps vs:List V}{sc:V}{src:Src}
theorem fN.then {a:Nat}(x:fN q H w ρ (none,w1,n) H1 eB eY) (y:fN q H1 w1 eY cH H2 hj gR) (h:n≤a:=by exact Nat.le_refl _):fN q H w ρ (cH.more a) H2 hj gR :=
 ⟨y.wr,x.d6.trans x.ex y.d6,x.ex.trans x.d6.n y.ex,by have:=x.s;have:=y.s;show cH.2.1.seen.length≤w.seen.length+(a+cH.2.2);dsimp only at *;omega,by have:=x.h;have:=y.h;show cH.2.1.held.length≤w.held.length+(a+cH.2.2);dsimp only at *;omega⟩
theorem fN.cost {a:Nat}{o:Option b5}(x:fN q H w ρ (o,w1,n) H1 eB eY) (h:n≤a):fN q H w ρ (o,w1,a) H1 eB eY:=⟨x.wr,x.d6,x.ex,Nat.le_trans x.s (Nat.add_le_add_left h _),Nat.le_trans x.h (Nat.add_le_add_left h _)⟩
theorem dP.next (s:dP w (n+c)) (x:fN q H w ρ (none,w1,n) H1 eB eY):dP w1 c:=by
 have:=x.s;have:=x.h;obtain ⟨a,b⟩:=s;dsimp only at *;exact ⟨by omega,by omega⟩
theorem dP.le (s:dP w c) (h:n≤c):dP w n:=⟨Nat.le_trans (Nat.add_le_add_left h _) s.1,Nat.le_trans (Nat.add_le_add_left h _) s.2⟩
theorem vE.aO:vE ρ H (.aO vs) (.aO vs) vs:=⟨fun _ _=>rfl,fun _ _ _=>rfl,fun _=>rfl⟩
theorem sV (g:ab d (hi (nI q K ps sc [])) (lK.1.drop 1) H (.ret v) ls H'):aq (d+1) (.obj (.ref 918)) [.ref (q+4),ez K ps sc] H v H' :=
 aq.hQ (fi:=⟨tu,[dq,cJ],[],lK.1,none,false⟩) (vs:=[.ref (q+4),ez K ps sc]) (cN:=[(dq,.ref (q+4)),(cJ,ez K ps sc)]) (by kernel_rfl) rfl (by kernel_rfl) rfl (by kernel_rfl) (ab.cons (bJ:=nI q K ps sc []) I g)
noncomputable def vG (q:Nat) (nodes:V) (ls:List (Str×V)):Prop:=ls=[(dq,.ref (q+4)),(fF,nodes)]∨∃ a b,ls=[(dq,.ref (q+4)),(fF,nodes),(eo,a),(jc,b)]
theorem C8 (h:vG q nodes ls):∃ r,(r=[]∨∃ b,r=[(jc,b)])∧bq d (qv ls) (ha iW.1) v H ((dq,.ref (q+4))::(fF,nodes)::(eo,v)::r) H:=by
 rcases h with rfl |⟨a,b,rfl⟩
 ·exact ⟨[],.inl rfl,(I:bq 0 _ _ _ _ _ _).mono (Nat.zero_le _)⟩
 ·exact ⟨_,.inr ⟨b,rfl⟩,(I:bq 0 _ _ _ _ _ _).mono (Nat.zero_le _)⟩
theorem C9 {r:List (Str×V)}{o:Option b5}(bR:r=[]∨∃ b,r=[(jc,b)]) (g:aq d (.obj (.ref 918)) [.ref (q+4),v] H (fO o) H') :
 (o=none→ab d (qv ((dq,.ref (q+4))::(fF,nodes)::(eo,v)::r)) (d2 iW.1) H .next [(dq,.ref (q+4)),(fF,nodes),(eo,v),(jc,.none)] H') ∧
 ∀ u,o=some u→ab d (qv ((dq,.ref (q+4))::(fF,nodes)::(eo,v)::r)) (d2 iW.1) H (.ret u.V) [(dq,.ref (q+4)),(fF,nodes),(eo,v),(jc,u.V)] H':=by
 have s:ah d (qv ((dq,.ref (q+4))::(fF,nodes)::(eo,v)::r)) (bQ (d2 iW.1) 0) H .next [(dq,.ref (q+4)),(fF,nodes),(eo,v),(jc,fO o)] H':=by
  have e:=ai.bI (d:=d) (fr:=qv ((dq,.ref (q+4))::(fF,nodes)::(eo,v)::r)) (e:=((e3 (eJ (bQ (d2 iW.1) 0))).wF.map fun y=>y.1).getD default) (args:=m9 (eJ (bQ (d2 iW.1) 0))) (pos:=((e3 (eJ (bQ (d2 iW.1) 0))).wF.map fun y=>y.2.2.2).getD default) (g:=.obj (.ref 918)) (vs:=[.ref (q+4),v]) ((I:ai 0 _ _ _ _ _).mono (Nat.zero_le _)) ((I:GE 0 _ _ _ _ _).mono (Nat.zero_le _)) g
  rcases bR with rfl |⟨b,rfl⟩
  ·exact ah.assign e (bq.name (by kernel_rfl))
  ·exact ah.assign e (bq.name (by kernel_rfl))
 refine ⟨fun h=>?_,fun u h=>?_⟩
 ·subst h;exact ab.cons s (ab.one (ah.iff ((I:GT 0 _ _ _ _ _).mono (Nat.zero_le _)) ab.nil))
 ·subst h;exact ab.cons s (ab.ret (ah.cm ((I:GT 0 _ _ _ _ _).mono (Nat.zero_le _)) (ab.ret (ah.ret ((I:ai 0 _ _ _ _ _).mono (Nat.zero_le _))))))
theorem vH {o:Option b5}{z:cA}(bZ:z=(match o with |none=>.next |some u=>.ret u.V)) (hl:vG q nodes ls) (l:vE ρ H nodes src vs) (g:cV d (qv [(dq,.ref (q+4)),(fF,nodes)]) (ha iW.1) src 0 (d2 iW.1) H z ls H'):aq (d+1) (.obj (.ref 925)) [.ref (q+4),nodes] H (fO o) H':=by
 have s:=ah.for (p:=(HD (bQ iW.1 0)).2) (it:=eJ (bQ iW.1 0)) ((I:ai 0 (qv [(dq,.ref (q+4)),(fF,nodes)]) _ H nodes H).mono (Nat.zero_le d)) (l.s H .refl) g
 cases o with
 |none =>
  subst bZ
  exact aq.hQ (fi:=⟨qQ,[dq,fF],[],iW.1,none,false⟩) (vs:=[.ref (q+4),nodes]) (cN:=[(dq,.ref (q+4)),(fF,nodes)]) (by kernel_rfl) rfl (by kernel_rfl) rfl (by kernel_rfl) (ab.cons s (ab.ret (ah.ret ((I:ai 0 _ _ _ _ _).mono (Nat.zero_le _)))))
 |some u =>
  subst bZ
  exact aq.hQ (fi:=⟨qQ,[dq,fF],[],iW.1,none,false⟩) (vs:=[.ref (q+4),nodes]) (cN:=[(dq,.ref (q+4)),(fF,nodes)]) (by kernel_rfl) rfl (by kernel_rfl) rfl (by kernel_rfl) (ab.ret s)
end
section
variable {q c m d n i:Nat}{H H' H1 H2:List aj}{w w' w1:aQ}{am bW eB hj:Nat→Nat}{ρ ρ' eY gR:Nat→cn}{r cH:Rs}{f:aQ→Rs}{ls:List (Str×V)}{v nodes:V}{K:Str}{ps vs:List V}{sc:V}{src:Src}{t a b:bF}{nm:b9}
theorem sW (h:fW t=true) (s:iS t):vF t:=fun q H w am ρ nodes src x l ak=>by
 rw[pW h] at l
 obtain ⟨H',bW,ρ',g,y⟩:=s q H w am ρ x ak
 generalize a7 t w=r at *
 obtain ⟨o,w1,n⟩:=r
 have lg:itemAt src 0 H=some (some (a9 t)):=l.i H .refl 0
 have g4:itemAt src 1 H'=some none:=l.i H' y.d6 1
 refine ⟨H',bW,ρ',?_,y⟩
 obtain ⟨r,bR,az⟩:=C8 (d:=bV t+2) (v:=a9 t) (H:=H) (.inl rfl:vG q nodes _)
 obtain ⟨iI,hP⟩:=C9 (nodes:=nodes) bR (g.mono (Nat.le_add_right (bV t) 2))
 cases o with
 |none=>exact vH rfl (.inr ⟨_,_,rfl⟩) l (cV.step lg (l.t _) az (iI rfl) (cV.done g4 (l.t _)))
 |some u=>exact vH rfl (.inr ⟨_,_,rfl⟩) l (cV.out lg (l.t _) az (hP u rfl))
theorem Yv (b2:iS a) (bt:iS b):vF (.two a b):=fun q H w am ρ nodes src x l ak=>by
 rw[oF] at l
 have ak:dP w ((a7 a w).seq 0 (a7 b)).2.2:=ak
 obtain ⟨H1,eB,eY,g,y⟩:=b2 q H w am ρ x (ak.le mH)
 show mD (fun H' bW ρ'=>aq _ _ _ _ (fO ((a7 a w).seq 0 (a7 b)).1) H') fun H' bW ρ'=>fN q H w ρ ((a7 a w).seq 0 (a7 b)) H' bW ρ'
 have lg:itemAt src 0 H=some (some (a9 a)):=l.i H .refl 0
 have g4:itemAt src 1 H1=some (some (a9 b)):=l.i H1 y.d6 1
 obtain ⟨r,bR,az⟩:=C8 (d:=bV (.two a b)+2) (v:=a9 a) (H:=H) (.inl rfl:vG q nodes _)
 obtain ⟨iI,hP⟩:=C9 (nodes:=nodes) bR (g.mono (Nat.le_trans (Nat.le_max_left _ _) (Nat.le_add_right (bV (.two a b)) 2)))
 generalize a7 a w=r at *
 induction r using kM with
 |s u w1 n=>exact ⟨H1,eB,eY,vH rfl (.inr ⟨_,_,rfl⟩) l (cV.out lg (l.t _) az (hP u rfl)),y⟩
 |n w1 n =>
  have ak:dP w (n+0+(a7 b w1).2.2):=ak
  have Yw:=dP.next (n:=n) ak y
  obtain ⟨H2,hj,gR,g2,dD⟩:=bt q H1 w1 eB eY y.wr Yw
  have m2:itemAt src 2 H2=some none:=l.i H2 (y.d6.trans y.ex dD.d6) 2
  have z:=y.then dD
  refine ⟨H2,hj,gR,?_,z⟩
  show aq _ _ _ _ (fO (a7 b w1).1) H2
  obtain ⟨eb,lu,uO⟩:=C8 (d:=bV (.two a b)+2) (v:=a9 b) (H:=H1) (.inr ⟨a9 a,.none,rfl⟩:vG q nodes _)
  obtain ⟨aK,bw⟩:=C9 (nodes:=nodes) lu (g2.mono (Nat.le_trans (Nat.le_max_right _ _) (Nat.le_add_right (bV (.two a b)) 2)))
  generalize a7 b w1=cH at *
  induction cH using kM with
  |n eA a3=>exact vH rfl (.inr ⟨_,_,rfl⟩) l (cV.step lg (l.t _) az (iI rfl) (cV.step g4 (l.t _) uO (aK rfl) (cV.done m2 (l.t _))))
  |s u eA a3=>exact vH rfl (.inr ⟨_,_,rfl⟩) l (cV.step lg (l.t _) az (iI rfl) (cV.out g4 (l.t _) uO (bw u rfl)))
theorem Yx:(r.seq 1 fun w=>(none,w,0)).1=r.1:=by
 obtain ⟨o,w1,n⟩:=r
 cases o <;> rfl
theorem KS (nm:b9):iS (.b7 nm):=fun q H w am ρ x ak=>by
 have fin:∀{f v:V}{H'},aq 5 (.obj (.ref 897)) [.ref (q+4),.str nm.s] H (.tup [v,f]) H'→aq 20 (.obj (.ref 918)) [.ref (q+4),a9 (.b7 nm)] H f H':=fun {f v H'} g =>
  sV (d:=19) (K:=pO) (ps:=[cC nm]) (sc:=.none) (ab.cons (ah.iff I ab.nil)<|ab.cons (ah.iff I ab.nil)<|ab.cons (ah.iff (GT.BC I I) ab.nil) <|
   ab.cons (bJ:=nI q pO [cC nm] .none [(dw,v),(dd,f)]) (ah.assign (ai.bI (g:=.obj (.ref 897)) (vs:=[.ref (q+4),.str nm.s]) I I (g.mono (by decide))) I) <|
   ab.stop (ah.cm (GT.BD I) (ab.ret (ah.ret I))) ey)
 have go:hC nm=false→w.seen.length<aL→gj (fun H'=>aq 20 (.obj (.ref 918)) [.ref (q+4),a9 (.b7 nm)] H (gk nm (w.getD nm).1) H') fun H'=>∀ n,1≤n→∀ o,fN q H w ρ (o,(w.getD nm).2,n) H' am ρ:=fun bc lt=>by
  obtain ⟨H1,g,y,k⟩:=qt x lt bc
  obtain ⟨dj,eu⟩:=sT (w:=w) (n:=nm)
  exact ⟨H1,fin g,fun n h o=>⟨y,k,.refl,Nat.le_trans dj (Nat.add_le_add_left h _),Nat.le_trans eu (Nat.le_add_right _ _)⟩⟩
 cases nm with
 |x =>
  have lt:=dP.lt (c:=1) ak
  have aV:=List.getElem?_eq_getElem x.cur
  exact ⟨_,am,ρ,fin (J5 x lt.1 aV),x.d4,.set (by rw[x.rs];rfl),.refl,Nat.le_trans (Nat.le_of_eq (yQ _)) (Nat.le_succ _),Nat.le_add_right _ _⟩
 |e=>obtain ⟨H1,g,y⟩:=go rfl (dP.lt (c:=0) ak).1;exact ⟨H1,am,ρ,g,y 1 (Nat.le_refl _) _⟩
 |t=>obtain ⟨H1,g,y⟩:=go rfl (dP.lt (c:=1) ak).1;exact ⟨H1,am,ρ,g,y 2 (by decide) _⟩
 |u=>obtain ⟨H1,g,y⟩:=go rfl (dP.lt (c:=1) ak).1;exact ⟨H1,am,ρ,g,y 2 (by decide) _⟩
theorem KU:iS .el:=fun q H w am ρ x ak=>by
 have bY:w.held.length<aL:=(dP.lt (c:=1) ak).2
 exact ⟨_,am,ρ,sV (d:=19) (K:=pO) (ps:=[jQ]) (sc:=.none) (ab.cons (ah.iff I ab.nil)<|ab.cons (ah.iff I ab.nil)<|ab.stop (ah.cm (GT.BC I I) (ab.cons
  (ah.expr (ai.a0 (v:=.ref (q+3)) (first:=[.ref (q+3)]) (vs:=[.ref (am w.cur)]) (ai.sub I I (iQ (s:=rN) x.dict (by kernel_rfl))) (qh x.held) (GE.cons (ai.sub I I (iQ (s:=gK) x.dict (by kernel_rfl))) GE.nil) ((aq.app x.held (by rw[List.length_map];exact bY)).mono (by decide))))
  (ab.ret (ah.ret I)))) ey),x.hold,.set (by rw[x.gP];rfl),.refl,Nat.le_add_right _ _,by show (w.held++[w.cur]).length≤_;rw[List.length_append];exact Nat.le_succ _⟩
theorem KV {k:Int}(ar:k=7∨k=8∨k=9):iS (.fg k):=fun q H w am ρ x ak =>
 ⟨H,am,ρ,sV (d:=19) (K:=BS) (ps:=[ff kx 1 [.int k]]) (sc:=.none) (ab.stop (ah.cm I (ab.ret (ah.ret (ai.bI (g:=.obj (.type "str")) (vs:=[.int k]) I I (by rcases ar with rfl |rfl |rfl <;> exact I))))) ey),x,.refl,.refl,Nat.le_add_right _ _,Nat.le_add_right _ _⟩
theorem Yy (bt:vF a) (aw:vF b):iS (.dg a b):=fun q H w am ρ x ak=>by
 have ak:dP w (jY aQ.fresh (a7 a w) (a7 b)).2.2:=ak
 show mD (fun H' bW ρ'=>aq (max (bV a) (bV b)+10) (.obj (.ref 918)) [.ref (q+4),a9 (.dg a b)] H (fO (jY aQ.fresh (a7 a w) (a7 b)).1) H') fun H' bW ρ'=>fN q H w ρ (jY aQ.fresh (a7 a w) (a7 b)) H' bW ρ'
 have cost:(a7 a w).2.2≤(jY aQ.fresh (a7 a w) (a7 b)).2.2:=by
  generalize a7 a w=r
  induction r using kM with
  |n w1 n=>exact Nat.le_succ n
  |s v w1 n=>exact Nat.le_trans (Nat.le_add_right n 3) (Nat.le_add_right _ _)
 obtain ⟨H1,eB,eY,g,y⟩:=bt q H w am ρ (.aO (bE a)) (.aO (bE a)) x .aO (ak.le cost)
 have g:=g.mono (show bV a+3≤max (bV a) (bV b)+9 from Nat.add_le_add (Nat.le_max_left _ _) (by decide))
 rw[u4]
 have st:∀{v:V}{ls:List (Str×V)}{H' : List aj},ab (max (bV a) (bV b)+9) (hi (nI q hb [.aO (bE a),.str dN,.aO (bE b),.none] ei [])) (sB (bQ lK.1 2)) H (.ret v) ls H'→aq (max (bV a) (bV b)+9+1) (.obj (.ref 918)) [.ref (q+4),ez hb [.aO (bE a),.str dN,.aO (bE b),.none] ei] H v H':=fun h =>
  sV (ab.cons (ah.iff I ab.nil)<|ab.stop (ah.cm I h) ey)
 have s1:ah (max (bV a) (bV b)+9) (hi (nI q hb [.aO (bE a),.str dN,.aO (bE b),.none] ei [])) (bQ (sB (bQ lK.1 2)) 0) H .next (nI q hb [.aO (bE a),.str dN,.aO (bE b),.none] ei [(jc,fO (a7 a w).1)]) H1 :=
  ah.assign (ai.bI (g:=.obj (.ref 925)) (vs:=[.ref (q+4),.aO (bE a)]) I I g) (bq.name (by kernel_rfl))
 generalize a7 a w=r at *
 induction r using kM with
 |n w1 n =>
  refine ⟨H1,eB,eY,st (ab.cons s1 (ab.cons (ah.iff I ab.nil) (ab.ret (ah.ret I)))),y.cost (Nat.le_succ n)⟩
 |s v w1 n =>
  have ak:dP w (n+3+((a7 b (w1.fresh v)).seq 1 fun w=>(none,w,0)).2.2):=ak
  have df:=y.wr.fresh (v:=v)
  have ig:(H1++[aj.list [v.V]])[q+4]?=some (.dict (jk q (eB w1.cur))):=cY y.wr.dict
  have dM:fk eY H1 ((H1++[aj.list [v.V]]).set (q+4) (.dict (jk q H1.length))):=fk.trans .ext .refl (.set (by rw[y.wr.a7];rfl))
  have eN:fN q H w ρ (none,w1.fresh v,n+3) ((H1++[aj.list [v.V]]).set (q+4) (.dict (jk q H1.length))) _ _:=⟨df,y.d6.trans y.ex dM,y.ex.trans y.d6.n .up,Nat.le_trans y.s (Nat.add_le_add_left (Nat.le_add_right n 3) _),Nat.le_trans y.h (Nat.add_le_add_left (Nat.le_add_right n 3) _)⟩
  obtain ⟨H2,hj,gR,g2,dD⟩:=aw q _ _ _ _ (.aO (bE b)) (.aO (bE b)) df .aO ((dP.next ak eN).le mH)
  have g2:=g2.mono (show bV b+3≤max (bV a) (bV b)+9 from Nat.add_le_add (Nat.le_max_right _ _) (by decide))
  have nE:(jY aQ.fresh (some v,w1,n) (a7 b)).1=(a7 b (w1.fresh v)).1:=Yx (r:=a7 b (w1.fresh v))
  rw[nE]
  refine ⟨H2,hj,gR,st (ab.cons s1 (ab.cons (bJ:=nI q hb [.aO (bE a),.str dN,.aO (bE b),.none] ei [(jc,fO (a7 b (w1.fresh v)).1)]) (ah.cm I (ab.cons (ah.assign (v:=.ref H1.length) (ai.list (vs:=[v.V]) I) (bq.sub (v:=.ref (q+4)) (a:=.str gK) (H3:=(H1++[aj.list [v.V]]).set (q+4) (.dict (jk q H1.length))) I I fun s e=>by
   exact CR e ig (by kernel_rfl) (by kernel_rfl))) (ab.one (ah.assign (ai.bI (g:=.obj (.ref 925)) (vs:=[.ref (q+4),.aO (bE b)]) I I g2) (bq.name (by kernel_rfl)))))) (ab.ret (ah.ret I)))),?_⟩
  have z:=eN.then dD
  show fN q H w ρ (((a7 b (w1.fresh v)).seq 1 fun w=>(none,w,0)).more (n+3)) H2 hj gR
  generalize a7 b (w1.fresh v)=cH at *
  induction cH using kM with
  |n eA a3=>exact z.cost (Nat.add_le_add_left (Nat.le_succ a3) (n+3))
  |s u eA a3=>exact z
end
section
set_option backward.match.sparseCases false
noncomputable abbrev KW:Stmt:=bQ lK.1 7
noncomputable abbrev Dc:PySem.Expr:=eJ KW
noncomputable abbrev yW:List Stmt:=sB KW
noncomputable abbrev mI:List Stmt:=sB (bQ lK.1 6)
noncomputable def vI (o:Option b5) (z:cA):Prop:=z=match o with |none=>.next |some u=>.ret u.V
section
variable {q c m d n i:Nat}{H H' H1 H2:List aj}{w w' w1:aQ}{am bW eB hj:Nat→Nat}{ρ ρ' eY gR:Nat→cn}{r cH:Rs}{f:aQ→Rs}{ls:List (Str×V)}{v nodes:V}{K:Str}{ps vs:List V}{sc:V}{src:Src}{t:dH}{a b:bF}{nm:b9}{d0 ft:b0}
noncomputable abbrev mJ (q:Nat) (nm:b9) (b:bF) (r:List (Str×V)):List (Str×V):=nI q pP [cC nm,a9 b] .none r
noncomputable def Dd (q:Nat) (nm:b9) (b:bF) (k:Nat):Prop:=∀(w:aQ) (H:List aj) (am:Nat→Nat) (ρ:Nat→cn),w.left.length<k+1→cK q H (w.getD nm).2 am ρ→dP w (d5 (a7 b) nm (k+1) w).2.2 →
 vn (fun z bM H' bW ρ'=>vI (d5 (a7 b) nm (k+1) w).1 z) fun z bM H' bW ρ'=>ib (bV b+9) (hi (mJ q nm b [(dw,cg (w.getD nm).1),(dd,.none)])) Dc yW H z bM H'∧fN q H w ρ (d5 (a7 b) nm (k+1) w) H' bW ρ'
theorem KX (bt:iS b) (bc:kN nm=true) (k:Nat) (aI:∀ j,k=j+1→Dd q nm b j):Dd q nm b k:=fun w H am ρ ar x ak=>by
 obtain ⟨dj,eu⟩:=sT (w:=w) (n:=nm)
 have dn:d5 (a7 b) nm (k+1) w=match (w.getD nm).1 with |.z=>(none,(w.getD nm).2,2) |_=>(((a7 b (w.getD nm).2).seq 1 (d5 (a7 b) nm k))).more 2:=rfl
 rw[dn] at ak ⊢
 have key:(w.getD nm).1≠.z→(∀ d H,(w.getD nm).1=d→GT (bV b+9) (hi (mJ q nm b [(dw,cg d),(dd,.none)])) Dc H true H)→dP w ((((a7 b (w.getD nm).2).seq 1 (d5 (a7 b) nm k))).more 2).2.2 →
  vn (fun z bM H' bW ρ'=>vI ((((a7 b (w.getD nm).2).seq 1 (d5 (a7 b) nm k))).more 2).1 z) fun z bM H' bW ρ'=>ib (bV b+9) (hi (mJ q nm b [(dw,cg (w.getD nm).1),(dd,.none)])) Dc yW H z bM H'∧fN q H w ρ ((((a7 b (w.getD nm).2).seq 1 (d5 (a7 b) nm k))).more 2) H' bW ρ':=fun hd bT ak=>by
  have lf:=vk w nm hd
  have tt:=bT _ H rfl
  have ak:dP w (2+((a7 b (w.getD nm).2).seq 1 (d5 (a7 b) nm k)).2.2):=ak
  have aK:=mH (r:=a7 b (w.getD nm).2) (c:=1) (f:=d5 (a7 b) nm k)
  have s1:dP (w.getD nm).2 (a7 b (w.getD nm).2).2.2:=⟨by have:=ak.1;omega,by have:=ak.2;omega⟩
  have l1:(a7 b (w.getD nm).2).2.1.left.length≤_:=(nA (cf:=aQ.fresh) (fun _ _=>rfl) b (w.getD nm).2).le
  obtain ⟨H1,eB,eY,g,y⟩:=bt q H _ am ρ x s1
  have KY:ah (bV b+9) (hi (mJ q nm b [(dw,cg (w.getD nm).1),(dd,.none)])) (bQ yW 0) H .next (mJ q nm b [(dw,cg (w.getD nm).1),(dd,fO (a7 b (w.getD nm).2).1)]) H1 :=
   ah.assign (ai.bI (g:=.obj (.ref 918)) (vs:=[.ref (q+4),a9 b]) I I (g.mono (Nat.le_add_right _ _))) (bq.name (by kernel_rfl))
  generalize a7 b (w.getD nm).2=r at *
  induction r using kM with
  |s u eA n=>exact ⟨_,_,H1,eB,eY,rfl,ib.out tt (ab.cons KY (ab.stop (ah.cm I (ab.ret (ah.ret I))) ey)),⟨y.wr,y.d6,y.ex,by have:=y.s;show eA.seen.length≤w.seen.length+(2+n);dsimp only at this;omega,by have:=y.h;show eA.held.length≤w.held.length+(2+n);dsimp only at this;omega⟩⟩
  |n eA n =>
   have ak:dP w (2+(n+1+(d5 (a7 b) nm k eA).2.2)):=ak
   have ys:eA.seen.length≤(w.getD nm).2.seen.length+n:=y.s
   have KZ:eA.held.length≤(w.getD nm).2.held.length+n:=y.h
   have l1:eA.left.length≤(w.getD nm).2.left.length:=l1
   obtain ⟨H2,g2,eI,ew⟩:=qt (n:=nm) y.wr (Nat.lt_of_le_of_lt (show eA.seen.length≤3000 by have:=ak.1;omega) (by decide)) (sJ bc)
   have lD:ah (bV b+9) (hi (mJ q nm b [(dw,cg (w.getD nm).1),(dd,.none)])) (bQ yW 2) H1 .next (mJ q nm b [(dw,(fM nm (eA.getD nm).1).V),(dd,gk nm (eA.getD nm).1)]) H2 :=
    ah.assign (ai.bI (g:=.obj (.ref 897)) (vs:=[.ref (q+4),.str nm.s]) I I (g2.mono (by omega))) I
   unfold fM gk at lD
   rw[vC bc] at lD
   cases k with
   |zero=>omega
   |succ k =>
    obtain ⟨z,bM,H3,De,Df,bZ,yX,gv⟩:=aI k rfl eA H2 eB eY (by omega) eI ⟨by have:=ak.1;omega,by have:=ak.2;omega⟩
    have Dg:=gv.s
    have Dh:=gv.h
    exact ⟨z,bM,H3,De,Df,bZ,ib.step tt (ab.cons KY (ab.cons (ah.iff I ab.nil) (ab.one lD))) yX,
     ⟨gv.wr,(y.d6.trans y.ex (ew.trans .refl gv.d6)),y.ex.trans y.d6.n (gB.trans .refl ew.n gv.ex),by show _≤w.seen.length+(2+(n+1+(d5 (a7 b) nm (k+1) eA).2.2));exact Nat.le_trans Dg (by omega),by show _≤w.held.length+(2+(n+1+(d5 (a7 b) nm (k+1) eA).2.2));exact Nat.le_trans Dh (by omega)⟩⟩
 cases hd:(w.getD nm).1 with
 |z=>exact ⟨.next,_,H,am,ρ,rfl,ib.done I,x,.refl,.refl,Nat.le_trans dj (Nat.le_succ _),Nat.le_trans eu (Nat.le_add_right _ _)⟩
 |o =>
  rw[hd] at ak
  have:=key (by rw[hd];exact b0.noConfusion) (fun d H e=>by rw[hd] at e;subst e;exact I) ak
  rw[hd] at this;exact this
 |t =>
  rw[hd] at ak
  have:=key (by rw[hd];exact b0.noConfusion) (fun d H e=>by rw[hd] at e;subst e;exact I) ak
  rw[hd] at this;exact this
theorem Yz (bt:iS b) (bc:kN nm=true) (k:Nat):Dd q nm b k:=by
 induction k with
 |zero=>exact KX bt bc 0 fun j e=>nomatch e
 |succ k aI=>exact KX bt bc (k+1) fun j e=>Nat.succ.inj e▸aI
theorem YA (bt:iS b) (bc:kN nm=true):iS (.du nm b):=fun q H w am ρ x ak=>by
 have ak:dP w (d5 (a7 b) nm (w.left.length+1) w).2.2:=ak
 have aK:1≤(d5 (a7 b) nm (w.left.length+1) w).2.2:=by
  unfold d5
  split
  ·exact (by decide:1≤2)
  ·exact Nat.le_trans (by decide:1≤2) (Nat.le_add_right _ _)
 obtain ⟨H1,g1,df,dM⟩:=qt (n:=nm) x (dP.lt (ak.le (n:=0+1) aK)).1 (sJ bc)
 obtain ⟨z,bM,H2,hj,gR,bZ,yX,y⟩:=Yz bt bc w.left.length w H1 am ρ (Nat.lt_succ_self _) df ak
 have lD:ah (bV b+9) (hi (mJ q nm b [])) (bQ lK.1 4) H .next (mJ q nm b [(dw,(fM nm (w.getD nm).1).V),(dd,gk nm (w.getD nm).1)]) H1 :=
  ah.assign (ai.bI (g:=.obj (.ref 897)) (vs:=[.ref (q+4),.str nm.s]) I I (g1.mono (by omega))) I
 unfold fM gk at lD
 rw[vC bc] at lD
 refine ⟨H2,hj,gR,?_,⟨y.wr,dM.trans .refl y.d6,gB.trans .refl dM.n y.ex,y.s,y.h⟩⟩
 show aq (bV b+9+1) (.obj (.ref 918)) [.ref (q+4),ez pP [cC nm,a9 b] .none] H (fO (d5 (a7 b) nm (w.left.length+1) w).1) H2
 generalize (d5 (a7 b) nm (w.left.length+1) w).1=o at *
 have run:∀{v bM},ab (bV b+9) (hi (mJ q nm b [(dw,cg (w.getD nm).1),(dd,.none)])) (lK.1.drop 7) H1 (.ret v) bM H2→aq (bV b+9+1) (.obj (.ref 918)) [.ref (q+4),ez pP [cC nm,a9 b] .none] H v H2:=fun h =>
  sV (ab.cons (ah.iff I ab.nil)<|ab.cons (ah.iff I ab.nil)<|ab.cons (ah.iff (GT.BB I) ab.nil)<|ab.cons lD<|ab.cons (ah.iff (GT.uF I I) ab.nil)<|ab.cons (ah.iff I ab.nil) h)
 cases o with
 |none=>subst bZ;exact run (ab.cons (ah.while yX) (ab.ret (ah.ret I)))
 |some u=>subst bZ;exact run (ab.ret (ah.while yX))
end
end
noncomputable abbrev YB:Stmt:=bQ mI 0
section
variable {q c m d n i:Nat}{H H' H1 H2:List aj}{w w' w1:aQ}{am bW eB hj:Nat→Nat}{ρ ρ' eY gR:Nat→cn}{r cH:Rs}{f:aQ→Rs}{ls:List (Str×V)}{v nodes:V}{K:Str}{ps vs:List V}{sc:V}{src:Src}{t:dH}{a b:bF}{nm:b9}{d0 ft:b0}
noncomputable abbrev iT (q:Nat) (t:dH) (nm:b9) (b:bF) (r:List (Str×V)):List (Str×V):=nI q nf [c7 t,cC nm,a9 b] .none r
theorem drop_cons {b6:List b0}(h:(keysOf d0).drop i=ft::b6):i=ft.n∧(∀ H,itemAt (.cw 0 d0.n) i H=some (some (.int i)))∧(keysOf d0).drop (i+1)=b6:=by
 cases d0 with
 |z=>cases i <;> cases h
 |o =>
  match i with
  |0=>cases h;exact ⟨rfl,fun _=>rfl,rfl⟩
  |i+1=>simp[keysOf] at h
 |t =>
  match i with
  |0=>cases h;exact ⟨rfl,fun _=>rfl,rfl⟩
  |1=>cases h;exact ⟨rfl,fun _=>rfl,rfl⟩
  |i+2=>simp[keysOf] at h
theorem drop_nil (aM:i≤2) (h:(keysOf d0).drop i=[]):∀ H,itemAt (.cw 0 d0.n) i H=some none:=by
 have:i=0∨i=1∨i=2:=by omega
 cases d0 <;> rcases this with rfl |rfl |rfl <;> first |exact fun _=>rfl |cases h
noncomputable def Di (q:Nat) (t:dH) (nm:b9) (b:bF) (d0:b0) (ls:List (Str×V)):Prop:=ls=iT q t nm b [(dw,cg d0),(dd,.none)]∨∃ a,ls=iT q t nm b [(dw,cg d0),(dd,.none),(fc,a)]
theorem Dj (h:Di q t nm b d0 ls):bq d (hi ls) (ha mI) v H (iT q t nm b [(dw,cg d0),(dd,.none),(fc,v)]) H:=by
 rcases h with rfl |⟨a,rfl⟩
 ·exact (I:bq 0 _ _ _ _ _ _).mono (Nat.zero_le _)
 ·exact (I:bq 0 _ _ _ _ _ _).mono (Nat.zero_le _)
theorem YC {d:b0}{i:Nat}{k:b0}{b6:List b0}(h:(keysOf d).drop i=k::b6):i+1≤2:=by
 have h:=congrArg List.length h
 rw[List.length_drop] at h
 have:(keysOf d).length≤2:=by cases d <;> decide
 have:(k::b6).length=b6.length+1:=rfl
 omega
theorem YD {n:Nat}{v:V}{k:b0}{H:List aj}:ai (n+9) (hi (iT q t nm b [(dw,v),(dd,.none),(fc,.int k.n)])) (rT (m9 (eJ (bQ (d2 mI) 0))) 2) H (sL k) H:=by
 cases k <;> exact I
theorem K0 (bt:iS b) (cP:oQ t=true):∀(b6:List b0) (i:Nat) (w:aQ) (H:List aj) (am:Nat→Nat) (ρ:Nat→cn) (ls:List (Str×V)),i≤2→(keysOf d0).drop i=b6→cK q H w am ρ→dP w (dT (a7 b) t b6 w).2.2→Di q t nm b d0 ls →
 vn (fun z bM H' bW ρ'=>vI (dT (a7 b) t b6 w).1 z) fun z bM H' bW ρ'=>cV (bV b+9) (hi ls) (ha mI) (.cw 0 d0.n) i (d2 mI) H z bM H'∧((dT (a7 b) t b6 w).1=none→Di q t nm b d0 bM)∧fN q H w ρ (dT (a7 b) t b6 w) H' bW ρ'
 |[],i,w,H,am,ρ,ls,aM,hd,x,ak,vJ=>⟨.next,ls,H,am,ρ,rfl,cV.done (drop_nil aM hd H) (by kernel_rfl),fun _=>vJ,x,.refl,.refl,Nat.le_add_right _ _,Nat.le_add_right _ _⟩
 |k::b6,i,w,H,am,ρ,ls,aM,hd,x,ak,vJ=>by
  obtain ⟨ao,it,l0⟩:=drop_cons hd
  have gI:=YC hd
  have ak:dP w (1+((ec t (.key k) w).seq 0 fun w1=>(a7 b w1).seq 1 (dT (a7 b) t b6)).2.2):=ak
  have aK:=mH (r:=ec t (.key k) w) (c:=0) (f:=fun w1=>(a7 b w1).seq 1 (dT (a7 b) t b6))
  obtain ⟨H1,g1,eN⟩:=Yt (d:=k) t cP x ⟨by have:=ak.1;omega,by have:=ak.2;omega⟩
  have s1:ah (bV b+9) (hi (iT q t nm b [(dw,cg d0),(dd,.none),(fc,.int k.n)])) (bQ (d2 mI) 0) H .next (iT q t nm b [(dw,cg d0),(dd,fO (ec t (.key k) w).1),(fc,.int k.n)]) H1 :=
   ah.assign (ai.bI (g:=.obj (.ref 911)) (vs:=[.ref (q+4),c7 t,sL k]) I (GE.cons I (GE.cons I (GE.cons YD GE.nil))) (g1.mono (Nat.le_add_left 9 _))) (bq.name (by kernel_rfl))
  rw[←ao] at s1
  show vn (fun z bM H' bW ρ'=>vI ((ec t (.key k) w).seq 0 fun w1=>(a7 b w1).seq 1 (dT (a7 b) t b6)).1 z) fun z bM H' bW ρ'=>_∧(((ec t (.key k) w).seq 0 fun w1=>(a7 b w1).seq 1 (dT (a7 b) t b6)).1=none→_)∧fN q H w ρ (((ec t (.key k) w).seq 0 fun w1=>(a7 b w1).seq 1 (dT (a7 b) t b6)).more 1) H' bW ρ'
  generalize ec t (.key k) w=r at *
  induction r using kM with
  |s u w1 n=>exact ⟨_,_,H1,am,ρ,rfl,cV.out (it H) (by kernel_rfl) (Dj vJ) (ab.cons s1 (ab.cons (bJ:=iT q t nm b [(dw,cg d0),(dd,u.V),(fc,.int i)]) (ah.assign (v:=u.V) (ai.iff I I) (bq.name (by kernel_rfl))) (ab.stop (ah.cm I (ab.ret (ah.ret I))) ey))),(fun h=>nomatch h),eN.cost (Nat.le_add_left n 1)⟩
  |n w1 n =>
   have ak:dP w (1+(n+0+((a7 b w1).seq 1 (dT (a7 b) t b6)).2.2)):=ak
   have bw:=mH (r:=a7 b w1) (c:=1) (f:=dT (a7 b) t b6)
   have ZT:w1.seen.length≤w.seen.length+n:=eN.s
   have ZU:w1.held.length≤w.held.length+n:=eN.h
   obtain ⟨H2,hj,gR,g2,dD⟩:=bt q H1 w1 am ρ eN.wr ⟨by have:=ak.1;omega,by have:=ak.2;omega⟩
   have s2:ah (bV b+9) (hi (iT q t nm b [(dw,cg d0),(dd,.none),(fc,.int i)])) (bQ (d2 mI) 1) H1 .next (iT q t nm b [(dw,cg d0),(dd,fO (a7 b w1).1),(fc,.int i)]) H2 :=
    ah.assign (ai.cm I (ai.bI (g:=.obj (.ref 918)) (vs:=[.ref (q+4),a9 b]) I I (g2.mono (Nat.le_add_right _ _)))) (bq.name (by kernel_rfl))
   show vn (fun z bM H' bW ρ'=>vI ((a7 b w1).seq 1 (dT (a7 b) t b6)).1 z) fun z bM H' bW ρ'=>_∧(((a7 b w1).seq 1 (dT (a7 b) t b6)).1=none→_)∧fN q H w ρ ((((a7 b w1).seq 1 (dT (a7 b) t b6)).more (n+0)).more 1) H' bW ρ'
   generalize a7 b w1=r at *
   have ZV:=dD.s
   have ZW:=dD.h
   induction r using kM with
   |s u eA a3=>exact ⟨_,_,H2,hj,gR,rfl,cV.out (it H) (by kernel_rfl) (Dj vJ) (ab.cons s1 (ab.cons s2 (ab.stop (ah.cm I (ab.ret (ah.ret I))) ey))),(fun h=>nomatch h),⟨dD.wr,eN.d6.trans eN.ex dD.d6,eN.ex.trans eN.d6.n dD.ex,by show eA.seen.length≤w.seen.length+(1+(n+0+a3));omega,by show eA.held.length≤w.held.length+(1+(n+0+a3));omega⟩⟩
   |n eA a3 =>
    have ak:dP w (1+(n+0+(a3+1+(dT (a7 b) t b6 eA).2.2))):=ak
    obtain ⟨z,bM,H3,De,Df,bZ,gl,is,gv⟩:=K0 bt cP b6 (i+1) eA H2 hj gR (iT q t nm b [(dw,cg d0),(dd,.none),(fc,.int i)]) gI l0 dD.wr ⟨by have:=ak.1;omega,by have:=ak.2;omega⟩ (.inr ⟨_,rfl⟩)
    have Dg:=gv.s
    have Dh:=gv.h
    have K1:=eN.ex.trans eN.d6.n dD.ex
    have K2:=eN.d6.trans eN.ex dD.d6
    exact ⟨z,bM,H3,De,Df,bZ,cV.step (it H) (by kernel_rfl) (Dj vJ) (ab.cons s1 (ab.cons s2 (ab.one (ah.iff I ab.nil)))) gl,is,⟨gv.wr,K2.trans K1 gv.d6,K1.trans K2.n gv.ex,by show _≤w.seen.length+(1+(n+0+(a3+1+(dT (a7 b) t b6 eA).2.2)));exact Nat.le_trans Dg (by omega),by show _≤w.held.length+(1+(n+0+(a3+1+(dT (a7 b) t b6 eA).2.2)));exact Nat.le_trans Dh (by omega)⟩⟩
theorem YE (bt:iS b) (cP:oQ t=true) (bc:kN nm=true):iS (.fin t nm b):=fun q H w am ρ x ak=>by
 have ak:dP w (2+(dT (a7 b) t (keysOf (w.getD nm).1) (w.getD nm).2).2.2):=ak
 obtain ⟨H1,g1,df,dM⟩:=qt (n:=nm) x (dP.lt (ak.le (n:=0+1) (by omega))).1 (sJ bc)
 obtain ⟨dj,eu⟩:=sT (w:=w) (n:=nm)
 obtain ⟨z,bM,H2,hj,gR,bZ,gl,is,y⟩:=K0 (nm:=nm) (d0:=(w.getD nm).1) bt cP (keysOf (w.getD nm).1) 0 _ H1 am ρ _ (by decide) rfl df ⟨by have:=ak.1;omega,by have:=ak.2;omega⟩ (.inl rfl)
 have ys:=y.s
 have KZ:=y.h
 have lD:ah (bV b+9) (hi (iT q t nm b [])) (bQ lK.1 4) H .next (iT q t nm b [(dw,(fM nm (w.getD nm).1).V),(dd,gk nm (w.getD nm).1)]) H1 :=
  ah.assign (ai.bI (g:=.obj (.ref 897)) (vs:=[.ref (q+4),.str nm.s]) I I (g1.mono (by omega))) I
 unfold fM gk at lD
 rw[vC bc] at lD
 refine ⟨H2,hj,gR,?_,⟨y.wr,dM.trans .refl y.d6,gB.trans .refl dM.n y.ex,by show _≤w.seen.length+(2+(dT (a7 b) t (keysOf (w.getD nm).1) (w.getD nm).2).2.2);exact Nat.le_trans ys (by omega),by show _≤w.held.length+(2+(dT (a7 b) t (keysOf (w.getD nm).1) (w.getD nm).2).2.2);exact Nat.le_trans KZ (by omega)⟩⟩
 show aq (bV b+9+1) (.obj (.ref 918)) [.ref (q+4),ez nf [c7 t,cC nm,a9 b] .none] H (fO (dT (a7 b) t (keysOf (w.getD nm).1) (w.getD nm).2).1) H2
 have fr:∀{z bM},cV (bV b+9) (hi (iT q t nm b [(dw,cg (w.getD nm).1),(dd,.none)])) (ha mI) (.cw 0 (w.getD nm).1.n) 0 (d2 mI) H1 z bM H2→ah (bV b+9) (hi (iT q t nm b [(dw,cg (w.getD nm).1),(dd,.none)])) YB H1 z bM H2:=fun g =>
  ah.for (v:=.cw 0 (w.getD nm).1.n) (ai.bI (g:=.obj (.type "range")) (vs:=[.int (w.getD nm).1.n]) I (GE.cons (ai.bI (g:=.obj (.type "int")) (vs:=[cg (w.getD nm).1]) I I (Kn.mono (by omega))) GE.nil) (Ko.mono (by omega))) Kp g
 generalize (dT (a7 b) t (keysOf (w.getD nm).1) (w.getD nm).2).1=o at *
 have run:∀{v bM},ab (bV b+9) (hi (iT q t nm b [(dw,cg (w.getD nm).1),(dd,.none)])) mI H1 (.ret v) bM H2→aq (bV b+9+1) (.obj (.ref 918)) [.ref (q+4),ez nf [c7 t,cC nm,a9 b] .none] H v H2:=fun h =>
  sV (ab.cons (ah.iff I ab.nil)<|ab.cons (ah.iff I ab.nil)<|ab.cons (ah.iff (GT.BB I) ab.nil)<|ab.cons lD<|ab.cons (ah.iff (GT.uF I I) ab.nil)<|ab.stop (ah.cm I h) ey)
 cases o with
 |none=>subst bZ;exact run (ab.cons (fr gl) (ab.ret (ah.ret I)))
 |some u=>subst bZ;exact run (ab.ret (fr gl))
theorem qw:∀ t:bF,wf t=true→good t=true→(fW t=true→iS t)∧vF t
 |.b7 n,_,_=>⟨fun _=>KS n,sW rfl (KS n)⟩
 |.el,_,_=>⟨fun _=>KU,sW rfl KU⟩
 |.fg k,_,h=>by
  have aw:k=7∨k=8∨k=9:=by
   have h:(decide (k=7) || (decide (k=8) || decide (k=9)))=true:=h
   simpa using h
  exact ⟨fun _=>KV aw,sW rfl (KV aw)⟩
 |.du n b,h,g=>by
  obtain ⟨h1,af⟩:=Bool.and_eq_true_iff.mp h
  obtain ⟨g1,g2⟩:=Bool.and_eq_true_iff.mp g
  have s:=YA ((qw b af g2).1 h1) g1
  exact ⟨fun _=>s,sW rfl s⟩
 |.fin t n b,h,g=>by
  obtain ⟨h1,af⟩:=Bool.and_eq_true_iff.mp h
  obtain ⟨g1,g2⟩:=Bool.and_eq_true_iff.mp g
  obtain ⟨g2,g3⟩:=Bool.and_eq_true_iff.mp g2
  have s:=YE ((qw b af g3).1 h1) g1 g2
  exact ⟨fun _=>s,sW rfl s⟩
 |.dg b c,h,g=>by
  obtain ⟨h1,af⟩:=Bool.and_eq_true_iff.mp h
  obtain ⟨g1,g2⟩:=Bool.and_eq_true_iff.mp g
  have s:=Yy (qw b h1 g1).2 (qw c af g2).2
  exact ⟨fun _=>s,sW rfl s⟩
 |.two a b,h,g=>by
  obtain ⟨h0,aB⟩:=Bool.and_eq_true_iff.mp h
  obtain ⟨h1,af⟩:=Bool.and_eq_true_iff.mp h0
  obtain ⟨bu,dC⟩:=Bool.and_eq_true_iff.mp aB
  obtain ⟨g1,g2⟩:=Bool.and_eq_true_iff.mp g
  exact ⟨(fun q=>Bool.noConfusion q),Yv ((qw a bu g1).1 h1) ((qw b dC g2).1 af)⟩
end
section
variable {X:gQ}{H H' : List aj}{w ZX:aQ}{YF:Nat→Nat}{YG:Nat→cn}{out:V}{wf:aQ}{t:bF}
theorem YH (fm:X.s=H.length) (x:X.R (H++[.list []]) [] w YF YG) (h1:w.seen=[]) (af:w.held=[]) (r:Run X out wf 0 0 [] w) :
 mD (fun H' bW ρ'=>aq 14 (.obj (.ref 944)) [.ref (X.q+4),X.U] H out H') fun H' bW ρ'=>cK X.q H' wf bW ρ'∧∀ a o,X.B a=some o→H'[a]?=some o∧ρ' a=.o:=by
 obtain ⟨bM,H',bW,ρ',gl,wr,b⟩:=r _ _ _ (ed X 0 []) x (.inl rfl) ⟨Nat.zero_le _,Nat.le_refl _,by rw[h1];exact Nat.le_refl _,by rw[af];exact Nat.le_refl _⟩
 refine ⟨H',bW,ρ',?_,wr,b⟩
 have s0:ah 12 (iR [(dq,.ref (X.q+4)),(kO,X.U)]) (bQ qU.1 0) H .next (h4 [nD,qg] [.ref H.length,.int 0] [(dq,.ref (X.q+4)),(kO,X.U)]) (H++[.list []]) :=
  ah.mh (us:=[.ref H.length,.int 0]) (ai.tup (GE.cons (ai.list GE.nil) I)) (by kernel_rfl) (by kernel_rfl) (by kernel_rfl)
 rw[←fm] at s0
 exact (aq.hQ (fi:=⟨tv,[dq,kO],[],qU.1,none,false⟩) (vs:=[.ref (X.q+4),X.U]) (cN:=[(dq,.ref (X.q+4)),(kO,X.U)]) (by kernel_rfl) rfl (by kernel_rfl) rfl (by kernel_rfl) <|
  ab.cons (bJ:=ed X 0 []) s0<|ab.ret (ah.for (v:=.cw 0 3000) (ai.bI (g:=.obj (.type "range")) (vs:=[.int 3000]) I I I) rfl gl)).mono (by decide)
theorem YI (cP:good t=true) (dy:At X.C X.K t 0) (hl:X.C.length=bD t) (bY:X.hl=ak t 0 0) (aw:(cv t w).2.2<3000):Run X (.tup [fO (cv t w).1,.int 0]) (cv t w).2.1 0 0 [] w:=by
 have e:=qr (X:=X) t cP 0 [] w 0 (.tup [fO (cv t w).1,.int 0]) (cv t w).2.1 [] [] dy (by rw[bY,List.append_nil];rfl) (fun h m=>nomatch m) (by omega)
 generalize cv t w=r at *
 obtain ⟨o,w',c⟩:=r
 rw[Nat.zero_add] at e
 have aw:c<3000:=aw
 cases o with
 |none =>
  refine e ?_
  show Run X _ _ (0+c) (bD t) [] w'
  rw[Nat.zero_add,←hl];exact XY aw
 |some v =>
  refine e fun q _ _ dk=>?_
  unfold lA
  rw[bY]
  have dk:fl (ak t 0 0) q=none:=dk
  rw[dk];exact ⟨rfl,rfl⟩
theorem YJ {D:bG}(h:w.left.length=10):(cv (cR D) w).2.2<3000:=by
 have c:=(nA KH (cR D) w).mono JV.a JV.b
 have:=c.c
 rw[h] at this
 exact Nat.lt_of_le_of_lt (Nat.le_trans (Nat.le_add_right _ _) this) (by decide)
end
noncomputable def K3 (i:Int):b0:=match i with
 |0=>.z |1=>.o |_=>.t
noncomputable def kQ:Nat→bG→List b0
 |0,_=>[]
 |n+1,D=>K3 (D.take 3).1::kQ n (D.take 3).2
theorem K4:∀(n:Nat) (D:bG),(kQ n D).length=n
 |0,_=>rfl
 |n+1,D=>congrArg (· + 1) (K4 n _)
theorem K5:∀(n:Nat) (D:bG),(nr n D).1=(kQ n D).map cg
 |0,_=>rfl
 |n+1,D=>by
  have h:=ih (D:=D) (w:=3) (by decide)
  have e:(D.take 3).1=0∨(D.take 3).1=1∨(D.take 3).1=2:=by omega
  show V.str (k0 (D.take 3).1.toNat)::(nr n (D.take 3).2).1=cg (K3 (D.take 3).1)::(kQ n (D.take 3).2).map cg
  rw[K5 n]
  congr 1
  rcases e with e |e |e <;> rw[e] <;> kernel_rfl
section
variable {P:Pre}{F:au}{A B L:aj}{D E:bG}{ls:List (Str×V)}{v:V}{jo:List V}
noncomputable abbrev sX:Str:=⟨⟨[104,101,114,101]⟩⟩
noncomputable abbrev yY:Str:=⟨⟨[116,104,101,114,101]⟩⟩
noncomputable abbrev sY (q:Nat) (jo:List V):List aj:=[.list [],.list jo,.list [b5.un.V],.list [],.dict (jk q (q+2))]
noncomputable abbrev vK (P:Pre) (F:au) (jo:List V):List aj:=mk P F ([.list []]++(sY 23 jo++sY 28 jo))
theorem YK:ah 90 (ik (kH v)) (bQ fC.1 6) (mk (hU A B iO D L (.list jo)) F [.list []]) .next (kH v++[(sX,.ref 27)]) (mk (hU A B iO D L (.list jo)) F ([.list []]++sY 23 jo)) :=
 Gt.run 40 fun N n aa=>by kernel_rfl
theorem YL:ah 90 (ik (kH v++[(sX,.ref 27)])) (bQ fC.1 7) (mk (hU A B iO D L (.list jo)) F ([.list []]++sY 23 jo)) .next (kH v++[(sX,.ref 27),(yY,.ref 32)]) (vK (hU A B iO D L (.list jo)) F jo) :=
 Gt.run 40 fun N n aa=>by kernel_rfl
noncomputable def hY (q:Nat) (a:Nat):cn:=if a=q then .s else if a=q+1 then .l else if a=q+2 then .c 0 else if a=q+3 then .h else if a=q+4 then .d else .o
theorem oX {q a:Nat}(h:a<q∨q+4<a):hY q a=.o:=by unfold hY;rw[if_neg (by omega),if_neg (by omega),if_neg (by omega),if_neg (by omega),if_neg (by omega)]
theorem K6 {q:Nat}{H:List aj}{ds:List b0}(h0:H[q]?=some (.list [])) (h1:H[q+1]?=some (.list (ds.map cg))) (af:H[q+2]?=some (.list [b5.un.V])) (aB:H[q+3]?=some (.list [])) (bu:H[q+4]?=some (.dict (jk q (q+2)))) :
 cK q H ⟨[],ds,[.un],0,[]⟩ (fun _=>q+2) (hY q):=by
 refine ⟨h0,h1,aB,bu,fun i v e=>?_,Nat.zero_lt_one,(fun i m=>nomatch m),if_pos rfl,?_,?_,?_,fun i h=>?_⟩
 ·cases i with
  |zero=>cases e;exact af
  |succ i=>cases e
 ·unfold hY;rw[if_neg (by omega),if_pos rfl]
 ·unfold hY;rw[if_neg (by omega),if_neg (by omega),if_neg (by omega),if_pos rfl]
 ·unfold hY;rw[if_neg (by omega),if_neg (by omega),if_neg (by omega),if_neg (by omega),if_pos rfl]
 ·have:i=0:=by simp at h;omega
  subst this
  unfold hY;rw[if_neg (by omega),if_neg (by omega),if_pos rfl]
end
noncomputable def Dk (a:Nat):cn:=if a=33 then .k else hY 23 a
noncomputable def yZ (H:List aj) (a:Nat):Option aj:=if a<33∧¬ (23≤a∧a≤27) then H[a]? else none
noncomputable def y0 (F:au) (H:List aj) (hl:List cS):gQ:=⟨yZ H,23,33,F.dW,F.con,F.d1,F.fv,hl⟩
section
variable {P:Pre}{F:au}{A B L Q:aj}{D E:bG}{ls:List (Str×V)}{v:V}{ds:List b0}{H:List aj}{o:Option b5}
theorem YM {hl:List cS}(jI:H.length=33) (x:cK 23 H ⟨[],ds,[.un],0,[]⟩ (fun _=>25) (hY 23)):(y0 F H hl).R (H++[.list []]) [] ⟨[],ds,[.un],0,[]⟩ (fun _=>25) Dk:=by
 have ne:∀{a o},H[a]?=some o→a≠33:=fun h e=>by have:=iq h;omega
 have aE:∀{a o},H[a]?=some o→Dk a=hY 23 a:=fun h=>if_neg (ne h)
 refine ⟨(x.role (ρ':=Dk) fun a o h=>aE h).ext,?_,if_pos rfl,fun j a l h=>?_,fun a o h=>?_⟩
 ·have:(H++[aj.list []])[H.length]?=some (.list []):=fe
  rw[jI] at this;exact this
 ·cases h
 ·have h:yZ H a=some o:=h
  unfold yZ at h
  split at h
  ·rename_i c
   exact ⟨cY h,(aE h).trans (oX (by omega))⟩
  ·cases h
theorem YN {H:List aj}:dY .NotEq (.tup [fO o,.int 0]) (.tup [fO o,.int 0]) ⟨H,True⟩=some (false,⟨H,True⟩):=by
 cases o with
 |none=>rfl
 |some v =>
  show some (!(seq v.s v.s&&(decide ((0:Int)=0)&&true)),_)=_
  rw[lV];rfl
structure Fin (H:List aj) (wf:aQ) (am:Nat→Nat) (ρ:Nat→cn) (wr:aQ) (bW:Nat→Nat) (ρ' : Nat→cn) (t0 t1:aj):Prop where
 m:cK 23 H wf am ρ
 r:cK 28 H wr bW ρ'
 k:ep wr wf
 a:∀ i,i<wf.cells.length→ρ' (am i)=.o
 uo:ρ' 23=.o∧ρ' 24=.o∧ρ' 26=.o∧ρ' 27=.o∧ρ' 0=.o∧ρ' 1=.o
 t0:H[0]?=some t0
 t1:H[1]?=some t1
 s:wr.seen.length≤3000
 h:wr.held.length≤3000
noncomputable abbrev iU (ds:List b0):aQ:=⟨[],ds,[.un],0,[]⟩
theorem YO:ep (iU ds) (iU ds):=⟨rfl,rfl,rfl,rfl,rfl,Nat.zero_lt_one⟩
end
theorem K7:∀ t:bF,0<bD t
 |.b7 _=>Nat.succ_pos 1
 |.el=>Nat.succ_pos 1
 |.fg _=>Nat.succ_pos 1
 |.du _ b=>by rw[mz];omega
 |.fin _ _ b=>by rw[mA];omega
 |.dg b c=>by rw[jX];omega
 |.two a b=>by
  have:=K7 a
  cases e:op a with
  |true=>rw[yk e];omega
  |false=>rw[yl e];omega
theorem oY:∀(t:bF) (p:Nat) (d:Int),∀ h∈ak t p d,h.i<h.j
 |.b7 _,_,_,h,m=>nomatch m
 |.el,_,_,h,m=>nomatch m
 |.fg _,_,_,h,m=>nomatch m
 |.du _ b,p,d,h,m=>oY b _ _ h m
 |.fin _ _ b,p,d,h,m=>oY b _ _ h m
 |.dg b c,p,d,h,m=>by
  rcases List.mem_append.mp m with m |m
  ·exact oY b _ _ h m
  ·cases m with
   |head=>exact Nat.lt_add_of_pos_right (K7 b)
   |tail _ m=>exact oY c _ _ h m
 |.two a b,p,d,h,m=>by
  cases e:op a with
  |true =>
   rw[ym e] at m
   exact (List.mem_append.mp m).elim (oY a _ _ h) (oY b _ _ h)
  |false=>rw[yn e] at m;exact oY a _ _ h m
section
variable {P:Pre}{F:au}{A B L Q:aj}{D E:bG}{ls:List (Str×V)}{v:V}{ds:List b0}{H:List aj}{o:Option b5}{t:bF}
theorem YQ (x:Top t F):∀ v∈F.bH,∃ x y z d i j g,v=mB x y z d∧sD F.ag x y z d i j g:=fun v m=>by
 have AL:=List.mem_map_of_mem (f:=hV F.ag) m
 rw[x.bH] at AL
 obtain ⟨h,YR,e⟩:=List.mem_map.mp AL
 cases x.aV v m with
 | @mk x y z d bA bU bZ =>
  obtain ⟨K8,bA⟩:=bA.resolve_left id
  obtain ⟨py,bU⟩:=bU.resolve_left id
  obtain ⟨sC,bZ⟩:=bZ.resolve_left id
  have q:hV F.ag (mB x y z d)=.tup [.int K8,.int py,.int sC,.int d,.bool false]:=by
   unfold hV mx
   dsimp only
   rw[Int.toNat_natCast,Int.toNat_natCast,Int.toNat_natCast,bA,bU,bZ]
  have q:=e.trans q
  unfold cS.V at q
  injection q with q
  injection q with aS q
  injection q with bf q
  injection aS with aS
  injection bf with bf
  have lt:=oY _ _ _ h YR
  exact ⟨x,y,z,d,K8,py,sC,rfl,bA,bU,bZ,by omega⟩
theorem vL {b:Nat}:∀ l:List b0,dG b (l.map cg)=true
 |[]=>rfl
 |_::r=>vL r
theorem YS {a:Nat}(h:a<33) (af : ¬ (23≤a∧a≤27)):yZ H a=H[a]?:=if_pos ⟨h,af⟩
theorem YT (dy:cE 7 A=true) (hZ:cE 7 B=true):aq 30 (.obj (.ref 304)) [.ref 12] (vK (hU A B iO D (.list (bE (cR E))) (.list (ds.map cg))) (comp (cR E) hh) (ds.map cg))
 (y0 (comp (cR E) hh) H (ak (cR E) 0 0)).U (vK (hU A B iO D (.list (bE (cR E))) (.list (ds.map cg))) (comp (cR E) hh) (ds.map cg)):=by
 have i:=Je (A:=A) (B:=B) (D:=D) (Q:=.list (ds.map cg)) (E:=E) dy hZ (vL ds)
 have c:=gL (cR E) hh 0 rfl rfl
 have di:=JA (cR E)
 have z:(comp (cR E) hh).aP<aL:=Nat.lt_of_le_of_lt (Nat.le_trans c.st.aP (Nat.le_trans (Nat.le_of_eq (Nat.zero_add _)) (ye (m:=p6 3) fun D=>Cs 3 false D))) (by decide)
 obtain ⟨dj,_,_,_,_,YU,_⟩:=au.lt z
 refine Xh (hl:=ak (cR E) 0 0) dj YU di.gh (YQ di) di.bH (c.st.con i.aw) di.sr (c.st.ky i.bR) ?_
 refine B3 (X:=aj.list []::(sY 23 (ds.map cg)++sY 28 (ds.map cg))) i.hy (c.st.ky i.bR) (B4 c.dep) ?_ (Nat.succ_pos _)
 show (true&&(true&&(dG 33 (ds.map cg)&&(true&&(true&&(true&&(true&&(dG 33 (ds.map cg)&&(true&&(true&&(true&&true)))))))))))=true
 rw[vL];rfl
theorem YV (dy:cE 7 A=true) (hZ:cE 7 B=true) (hd:ds.length=10):∃ H' wf am ρ wr bW ρ',ah 90 (ik (kH v++[(sX,.ref 27),(yY,.ref 32)])) (bQ fC.1 8)
 (vK (hU A B iO D (.list (bE (cR E))) (.list (ds.map cg))) (comp (cR E) hh) (ds.map cg)) .next (kH v++[(sX,.ref 27),(yY,.ref 32)]) H'∧Fin H' wf am ρ wr bW ρ' (.tab "_law_view.<locals>.<lambda>" fx) (.tab "law.<locals>.<lambda>" iO):=by
 have un:=fun H=>YT (D:=D) (E:=E) (ds:=ds) (H:=H) dy hZ
 generalize ir:vK (hU A B iO D (.list (bE (cR E))) (.list (ds.map cg))) (comp (cR E) hh) (ds.map cg)=iV at *
 have len:iV.length=33:=by rw[←ir];rfl
 have YW:iV[7]?=some (.list (bE (cR E))):=by rw[←ir];rfl
 have dn:iV[0]?=some (.tab "_law_view.<locals>.<lambda>" fx):=by rw[←ir];rfl
 have ao:iV[1]?=some (.tab "law.<locals>.<lambda>" iO):=by rw[←ir];rfl
 have YX:iV[28]?=some (.list []):=by rw[←ir];rfl
 have YY:iV[29]?=some (.list (ds.map cg)):=by rw[←ir];rfl
 have YZ:iV[30]?=some (.list [b5.un.V]):=by rw[←ir];rfl
 have Y0:iV[31]?=some (.list []):=by rw[←ir];rfl
 have Y1:iV[32]?=some (.dict (jk 28 30)):=by rw[←ir];rfl
 have x0:cK 23 iV (iU ds) (fun _=>25) (hY 23):=K6 (by rw[←ir];rfl) (by rw[←ir];rfl) (by rw[←ir];rfl) (by rw[←ir];rfl) (by rw[←ir];rfl)
 have di:=JA (cR E)
 have good:=Xo (D:=E)
 have Y2:=yb (D:=E) fun D=>u7 3 false D
 have Dl:=qs (cR E) (iU ds) (iU ds) YO
 have cost:=YJ (D:=E) (w:=iU ds) hd
 have run:=YI (X:=y0 (comp (cR E) hh) iV (ak (cR E) 0 0)) good di.at_ di.len rfl cost
 obtain ⟨H1,eB,eY,g1,iu,iI⟩:=YH (H:=iV) len.symm (YM len x0) rfl rfl run
 have iu:cK 23 H1 (cv (cR E) (iU ds)).2.1 eB eY:=iu
 have b:∀{a o},a<33→¬ (23≤a∧a≤27)→iV[a]?=some o→H1[a]?=some o∧eY a=.o:=fun h1 af aB=>iI _ _ ((YS h1 af).trans aB)
 have K9:=b (by decide) (by decide) YX
 have La:=b (by decide) (by decide) YY
 have Lb:=b (by decide) (by decide) YZ
 have Lc:=b (by decide) (by decide) Y0
 have Ld:=b (by decide) (by decide) Y1
 have eI:cK 28 H1 (iU ds) (fun _=>30) (hY 28):=K6 K9.1 La.1 Lb.1 Lc.1 Ld.1
 have Dm:=(b (by decide) (by decide) YW).1
 have Le:∀ H',fk (hY 28) H1 H'→H'[7]?=some (.list (bE (cR E))):=fun H' k=>k.k 7 _ Dm rfl
 have ln:vE (hY 28) H1 (.ref 7) (.ref 7) (bE (cR E)):=⟨fun H' k=>dE (congrArg dA (Le H' k)),fun H' k i=>dE (congrArg dA (Le H' k)),fun _=>rfl⟩
 have y1:(a7 (cR E) (iU ds)).2.2≤3000:=by rw[←Dl.c];exact Nat.le_of_lt cost
 obtain ⟨H2,hj,gR,g2,y⟩:=(qw (cR E) Y2 good).2 28 H1 (iU ds) (fun _=>30) (hY 28) (.ref 7) (.ref 7) eI ln ⟨Nat.le_trans (Nat.le_of_eq (Nat.zero_add _)) y1,Nat.le_trans (Nat.le_of_eq (Nat.zero_add _)) y1⟩
 have cI:bV (cR E)≤60:=yf fun D=>Ct 3 false D
 have no:∀ i,i<(cv (cR E) (iU ds)).2.1.cells.length→hY 28 (eB i)=.o:=fun i h=>by
  have c:=iu.rc i h
  refine oX ?_
  by_cases h1:eB i<28
  ·exact .inl h1
  ·by_cases af:32<eB i
   ·exact .inr af
   ·exfalso
    have:eB i=28∨eB i=29∨eB i=30∨eB i=31∨eB i=32:=by omega
    rcases this with e |e |e |e |e <;> rw[e] at c
    ·rw[K9.2] at c;cases c
    ·rw[La.2] at c;cases c
    ·rw[Lb.2] at c;cases c
    ·rw[Lc.2] at c;cases c
    ·rw[Ld.2] at c;cases c
 have d6:∀{a o},H1[a]?=some o→hY 28 a=.o→H2[a]?=some o∧gR a=.o:=fun h1 af=>⟨y.d6.k _ _ h1 (by rw[af];rfl),(y.ex _ _ h1).trans af⟩
 have t0:=d6 (b (by decide) (by decide) dn).1 (oX (by decide))
 have t1:=d6 (b (by decide) (by decide) ao).1 (oX (by decide))
 have Lf:=d6 iu.seen (oX (by decide))
 have Lg:=d6 iu.left (oX (by decide))
 have Lh:=d6 iu.held (oX (by decide))
 have Li:=d6 iu.dict (oX (by decide))
 refine ⟨H2,(cv (cR E) (iU ds)).2.1,eB,eY,(a7 (cR E) (iU ds)).2.1,hj,gR,ah.iff (GT.cmp (a:=.tup [fO (cv (cR E) (iU ds)).1,.int 0]) (b:=.tup [fO (a7 (cR E) (iU ds)).1,.int 0])
  (ai.bI (g:=.obj (.ref 944)) (vs:=[.ref 27,(y0 (comp (cR E) hh) iV (ak (cR E) 0 0)).U]) I (GE.cons I (GE.cons (ai.a0 (v:=.ref 12) (first:=[.ref 12]) (vs:=[]) ?_ ?_ GE.nil ((un iV).mono (by decide))) GE.nil)) (g1.mono (by decide)))
  (ai.tup (GE.cons (ai.bI (g:=.obj (.ref 925)) (vs:=[.ref 32,.ref 7]) I I (g2.mono (by omega))) I)) (by rw[Dl.f];exact YN)) ab.nil,?_⟩
 ·rw[←ir];exact I
 ·rw[←ir];rfl
 ·exact ⟨⟨Lf.1,Lg.1,Lh.1,Li.1,fun i v e=>(d6 (iu.cell i v e) (no i (iq e))).1,iu.cur,iu.iH,iu.rs,iu.gb,iu.gP,iu.a7,iu.rc⟩,y.wr,Dl.w,fun i h=>(d6 (iu.cell i _ (List.getElem?_eq_getElem h)) (no i h)).2,⟨Lf.2,Lg.2,Lh.2,Li.2,t0.2,t1.2⟩,t0.1,t1.1,Nat.le_trans y.s (Nat.le_trans (Nat.le_of_eq (Nat.zero_add _)) y1),Nat.le_trans y.h (Nat.le_trans (Nat.le_of_eq (Nat.zero_add _)) y1)⟩
end
noncomputable abbrev y2:Str:=⟨⟨[114,111,119]⟩⟩
noncomputable abbrev Lj:Str:=⟨⟨[112,108,97,105,110]⟩⟩
section
variable {d k acc:Nat}{fr:a5}{H H1 H2 H3:List aj}{elt t it c:PySem.Expr}{ifs:List PySem.Expr}{src:Src}{v x:V}{xs:List V}{ls:List (Str×V)}{nm:Str}{di dz p:Pos}{a:Int}{sc:Scope}
theorem cX.Y3 (h:itemAt src k H=some none) (bT:(isNm t&&i0 src t)=true):cX d fr elt t ifs src k acc H H:=cX.done h bT
theorem cX.stepT (h:itemAt src k (H++[.list xs])=some (some v)) (bT:(isNm t&&i0 src t)=true) (h1:bq d fr t v (H++[.list xs]) ls (H++[.list xs])) (aw:GT d (fr.up ls) c (H++[.list xs]) true (H++[.list xs])) (af:ai d (fr.up ls) elt (H++[.list xs]) x (H++[.list xs])) (bA:xs.length<aL)
 (aB:cX d (fr.up ls) elt t [c] src (k+1) H.length (H++[.list (xs++[x])]) H3):cX d fr elt t [c] src k H.length (H++[.list xs]) H3:=fun aa o=>by
 obtain ⟨e7,fa,eN⟩:=h1 aa o
 obtain ⟨eg,es,dD⟩:=aw e7 fa
 obtain ⟨ow,fP,gv⟩:=af eg es
 obtain ⟨rz,f3,Dn⟩:=aB (ow∧xs.length<aL) ⟨fP,bA⟩
 exact ⟨rz,f3,(((eN.and dD).and gv).and Dn).step fun N n bc b=>(en bT).trans ((bj h).trans ((bj b.1.1.1).trans ((bj b.1.1.2).trans ((bj b.1.2).trans ((bj (congrArg dA fe)).trans (by rw[rX];exact b.2))))))⟩
theorem cX.Y4 (h:itemAt src k H=some (some v)) (bT:(isNm t&&i0 src t)=true) (h1:bq d fr t v H ls H) (aw:GT d (fr.up ls) c H false H)
 (aB:cX d (fr.up ls) elt t [c] src (k+1) acc H H3):cX d fr elt t [c] src k acc H H3:=fun aa o=>by
 obtain ⟨e7,fa,eN⟩:=h1 aa o
 obtain ⟨eg,es,dD⟩:=aw e7 fa
 obtain ⟨rz,f3,Dn⟩:=aB eg es
 exact ⟨rz,f3,((eN.and dD).and Dn).step fun N n bc b=>(en bT).trans ((bj h).trans ((bj b.1.1).trans ((bj b.1.2).trans b.2)))⟩
theorem ah.Y5 (h:ai d fr it H v H1) (ak:srcOf v ⟨H1,True⟩=some src) (bt:(Nat.beq di.line dz.line&&!n0 nm sc.names)=true) (ar:gX fr nm=some .local) (c8:pf fr sc t it a=true)
 (af:cX d ⟨relabel fr sc,pe sc fr.cs,none,[]⟩ elt t ifs src 0 H1.length (H1++[.list []]) H2):ah d fr (.Assign [.Name nm di] (.ListComp elt [⟨t,it,ifs,a⟩] sc dz) p) H .next (d8 nm (.ref H1.length) fr.ls) H2:=ah.lc h ak bt ar c8 af
end
section
variable {H H2:List aj}{r:Row}{v:V}{wf:aQ}{ls:List (Str×V)}
noncomputable abbrev Dp (ls:List (Str×V)):a5:=⟨relabel (ik []) (I6 9),[],none,ls⟩
noncomputable abbrev Lk:PySem.Expr:=Uu (eJ (bQ fC.1 9))
noncomputable abbrev Ll:PySem.Expr:=BI (eJ (bQ fC.1 9))
theorem Y6 (r:Row):GT 12 (Dp [(y2,r.V)]) Lk H (keepR r) H:=by
 cases r with
 |get n=>exact I
 |mem o v=>exact I
 |c6 o s v=>exact I
 |b7 n v =>
  cases n with
  |v=>exact I
  |w=>exact I
  |x =>
   cases v with
   |gi i=>cases i <;> exact I
   |key i=>cases i <;> exact I
   |bb i=>cases i <;> exact I
   |qi i=>cases i <;> exact I
   |un=>exact I
   |fn=>exact I
theorem Lm (h:H[23]?=some (.list (wf.seen.map Row.V))) (ak:(wf.seen.filter keepR).length<aL):∀(r pre:List Row) (ls:List (Str×V)),wf.seen=pre++r→(ls=[]∨∃ a,ls=[(y2,a)]) →
 cX 12 (Dp ls) (p5 9) Ll [Lk] (.ref 23) pre.length H.length (H++[.list ((pre.filter keepR).map Row.V)]) (H++[.list ((wf.seen.filter keepR).map Row.V)])
 |[],pre,ls,e,_=>by
  have it:∀ X,itemAt (.ref 23) pre.length (H++[X])=some none:=fun X=>by
   refine (dE (congrArg dA (cY h))).trans ?_
   show some ((wf.seen.map Row.V)[pre.length]?)=_
   rw[List.getElem?_map,vg e];rfl
  rw[show wf.seen=pre by rw[e,List.append_nil]]
  exact cX.Y3 (it _) (by kernel_rfl)
 |r::rs,pre,ls,e,hl=>by
  have it:∀ X,itemAt (.ref 23) pre.length (H++[X])=some (some r.V):=fun X=>by
   refine (dE (congrArg dA (cY h))).trans ?_
   show some ((wf.seen.map Row.V)[pre.length]?)=_
   rw[List.getElem?_map,vf e];rfl
  have aI:=Lm h ak rs (pre++[r]) [(y2,r.V)] (by rw[e];simp) (.inr ⟨_,rfl⟩)
  rw[List.length_append] at aI
  have ix:∀ X,bq 12 (Dp ls) Ll r.V (H++[X]) [(y2,r.V)] (H++[X]):=fun X=>by
   rcases hl with rfl |⟨a,rfl⟩
   ·exact I
   ·exact I
  have c:=fun X=>Y6 (H:=H++[X]) r
  cases ar:keepR r with
  |true =>
   rw[ar] at c
   have aC:(pre++[r]).filter keepR=pre.filter keepR++[r]:=by rw[List.filter_append,List.filter_cons_of_pos ar];rfl
   rw[aC,List.map_append] at aI
   refine cX.stepT (it _) (by kernel_rfl) (ix _) (c _) I ?_ aI
   rw[List.length_map]
   refine Nat.lt_of_le_of_lt ?_ ak
   rw[e,List.filter_append,List.length_append];exact Nat.le_add_right _ _
  |false =>
   rw[ar] at c
   have aC:(pre++[r]).filter keepR=pre.filter keepR:=by rw[List.filter_append,List.filter_cons_of_neg (by rw[ar];exact Bool.noConfusion)];simp
   rw[aC] at aI
   exact cX.Y4 (it _) (by kernel_rfl) (ix _) (c _) aI
noncomputable abbrev y3 (v:V):List (Str×V):=kH v++[(sX,.ref 27),(yY,.ref 32)]
theorem Y7 {am:Nat→Nat}{ρ:Nat→cn}(x:cK 23 H wf am ρ) (ak:(wf.seen.filter keepR).length<aL):ah 90 (ik (y3 v)) (bQ fC.1 9) H .next (y3 v++[(Lj,.ref H.length)]) (H++[.list ((wf.seen.filter keepR).map Row.V)]) :=
 ah.Y5 (v:=.ref 23) (src:=.ref 23) (H1:=H) (ai.sub I I (iQ (s:=ox) x.dict (by kernel_rfl))) (dE (congrArg dA x.seen)) (by kernel_rfl) (by kernel_rfl) (by kernel_rfl) ((Lm x.seen ak wf.seen [] [] rfl (.inl rfl)).mono (by decide))
end
section
set_option backward.match.sparseCases false
noncomputable def Row.py:Row→PyData
 |.get n=>.tuple [.str yG,.str n.s]
 |.b7 n v=>.tuple [.str eh,.str n.s,.str v.s]
 |.mem o v=>.tuple [.str sG,.str o.s,.str iK,.str v.s]
 |.c6 o s v=>.tuple [.str sH,.str o.s,.str s.s,.str v.s]
section
variable {H H1 H2:List aj}{am bW:Nat→Nat}{ρ ρ' : Nat→cn}{fs:List (Str×V)}{s l h ea n a b c:Nat}{hd:List Nat}{cs:List b5}{vs:List V}{ls:List (Str×V)}{wf wr:aQ}{v:V}{t0 t1:aj}
theorem Ln:∀ rows:List Row,kh (toPy H (n+2)) (rows.map Row.V)=some (rows.map Row.py)
 |[]=>rfl
 |r::rs=>by
  have e:toPy H (n+2) r.V=some r.py:=by cases r <;> rfl
  show (toPy H (n+2) r.V).bind (fun d=>(kh (toPy H (n+2)) (rs.map Row.V)).map fun ds=>d::ds)=_
  rw[e,Ln rs];rfl
theorem vM:∀{l:List PyData},(∀ d∈l,gs d d=true)→jy l l=true
 |[],_=>by unfold jy;rfl
 |d::r,h=>by
  unfold jy
  exact vl (h d (.head _)) (vM fun e m=>h e (.tail _ m))
theorem Y8 (s:Str):gs (.str s) (.str s)=true:=by unfold gs;exact lV s
theorem Dq {α:Type}{f:α→Str}(l:List α):∀ d∈l.map (fun a=>PyData.str (f a)),gs d d=true:=fun d m=>by
 obtain ⟨a,_,rfl⟩:=List.mem_map.mp m
 exact Y8 _
theorem Y9 (r:Row):gs r.py r.py=true:=by
 have k:∀ l:List Str,jy (l.map .str) (l.map .str)=true:=fun l=>vM (Dq (f:=id) l)
 cases r with
 |get n=>unfold Row.py gs;exact k [yG,n.s]
 |b7 n v=>unfold Row.py gs;exact k [eh,n.s,v.s]
 |mem o v=>unfold Row.py gs;exact k [sG,o.s,iK,v.s]
 |c6 o s v=>unfold Row.py gs;exact k [sH,o.s,s.s,v.s]
noncomputable abbrev gh (cs:List b5) (i:Nat):b5:=match cs[i]? with |some v=>v |none=>.un
theorem Lo {rows:List Row}{ds:List b0}(h1:H[a]?=some (.list (rows.map Row.V))) (af:H[b]?=some (.list (ds.map cg))) (aB:H[c]?=some (.list (hd.map fun i=>(gh cs i).V))) :
 toPy H 6 (.tup [.ref a,.ref b,.ref c])=some (.tuple [.list (rows.map Row.py),.list (ds.map fun d=>.str d.s),.list (hd.map fun i=>.str (gh cs i).s)]):=by
 have ao:=vo (n:=4) h1 (Ln (n:=2) rows)
 have aC:=vo (n:=4) af (yH (f:=b0.s))
 have cL:=vo (n:=4) aB (yH (f:=fun i=>(gh cs i).s))
 show (kh (toPy H 5) [.ref a,.ref b,.ref c]).map PyData.tuple=_
 show (((toPy H 5 (.ref a)).bind fun d=>(((toPy H 5 (.ref b)).bind fun d=>(((toPy H 5 (.ref c)).bind fun d=>(some []).map fun ds=>d::ds)).map fun ds=>d::ds)).map fun ds=>d::ds)).map PyData.tuple=_
 rw[ao,aC,cL];rfl
noncomputable abbrev Dr:PySem.Expr:=rT (m9 (eJ (bQ z3.1 0))) 2
noncomputable abbrev Za:Scope:=match Dr with |.ListComp _ _ sc _=>sc |_=>default
noncomputable abbrev Zb:PySem.Expr:=match Dr with |.ListComp e _ _ _=>e |_=>default
noncomputable abbrev Lp:PySem.Expr:=match Dr with |.ListComp _ [⟨t,_,_,_⟩] _ _=>t |_=>default
noncomputable abbrev Lq (ls:List (Str×V)):a5:=⟨relabel ⟨tw.scope,[],none,[]⟩ Za,[],none,ls⟩
theorem Lr (bY:H[h]?=some (.list (hd.map fun i=>.ref (am i)))) (aw:∀ i∈hd,H[am i]?=some (.list [(gh cs i).V])) (ak:hd.length<aL):∀(r pre:List Nat) (ls:List (Str×V)),hd=pre++r→(ls=[]∨∃ a,ls=[(gK,a)]) →
 cX 12 (Lq ls) Zb Lp [] (.ref h) pre.length H.length (H++[.list (pre.map fun i=>(gh cs i).V)]) (H++[.list (hd.map fun i=>(gh cs i).V)])
 |[],pre,ls,e,_=>by
  have it:∀ X,itemAt (.ref h) pre.length (H++[X])=some none:=fun X=>by
   refine (dE (congrArg dA (cY bY))).trans ?_
   show some ((hd.map fun i=>V.ref (am i))[pre.length]?)=_
   rw[List.getElem?_map,vg e];rfl
  have c9:hd=pre:=by rw[e,List.append_nil]
  rw[c9]
  exact cX.done (it _) (by kernel_rfl)
 |i::rs,pre,ls,e,hl=>by
  have it:∀ X,itemAt (.ref h) pre.length (H++[X])=some (some (.ref (am i))):=fun X=>by
   refine (dE (congrArg dA (cY bY))).trans ?_
   show some ((hd.map fun i=>V.ref (am i))[pre.length]?)=_
   rw[List.getElem?_map,vf e];rfl
  have aI:=Lr bY aw ak rs (pre++[i]) [(gK,.ref (am i))] (by rw[e];simp) (.inr ⟨_,rfl⟩)
  rw[List.length_append,List.map_append] at aI
  have ix:∀ X,bq 12 (Lq ls) Lp (.ref (am i)) (H++[X]) [(gK,.ref (am i))] (H++[X]):=fun X=>by
   rcases hl with rfl |⟨a,rfl⟩
   ·exact I
   ·exact I
  exact cX.yM (it _) (by kernel_rfl) (ix _) (ai.sub I I (J1 (cY (aw i (by rw[e];simp))))) (Nat.lt_of_le_of_lt (by rw[List.length_map,e];simp) ak) aI
theorem Ls (dk:H[ea]?=some (.dict fs)) (l1:look ox fs=some (.ref s)) (l2:look pG fs=some (.ref l)) (oP:look rN fs=some (.ref h)) (bY:H[h]?=some (.list (hd.map fun i=>.ref (am i)))) (aw:∀ i∈hd,H[am i]?=some (.list [(gh cs i).V])) (ak:hd.length<aL) :
 aq 15 (.obj (.ref 949)) [.ref ea] H (.tup [.ref s,.ref l,.ref H.length]) (H++[.list (hd.map fun i=>(gh cs i).V)]) :=
 (aq.hQ (fi:=⟨tw,[dq],[],z3.1,none,false⟩) (vs:=[.ref ea]) (cN:=[(dq,.ref ea)]) (by kernel_rfl) rfl (by kernel_rfl) rfl (by kernel_rfl) <|
  ab.ret (ah.ret (ai.tup (GE.cons (ai.sub I I (iQ (s:=ox) dk l1)) (GE.cons (ai.sub I I (iQ (s:=pG) dk l2)) (GE.cons (ai.lc (v:=.ref h) (src:=.ref h) (ai.sub I I (iQ (s:=rN) dk oP)) (dE (congrArg dA bY)) (by kernel_rfl) (Lr bY aw ak hd [] [] rfl (.inl rfl))) GE.nil)))))).mono (by decide:13≤15)
noncomputable abbrev Ds (v:V) (n:Nat):List (Str×V):=y3 v++[(Lj,.ref n)]
noncomputable abbrev sZ (n c:Nat):List (Str×V):=[(ox,.ref n),(pG,.ref 24),(gK,.ref c),(rN,.ref 26)]
theorem Zc (hd:H[27]?=some (.dict (jk 23 c))):ah 90 (ik (Ds v n)) (bQ fC.1 10) H .next (Ds v n) (H.set 27 (.dict (sZ n c))) :=
 ah.assign (v:=.ref n) I (bq.sub (v:=.ref 27) (a:=.str ox) I I fun s e=>by
  exact CR e hd (by kernel_rfl) (by kernel_rfl))
theorem Zd (x:Fin H wf am ρ wr bW ρ' t0 t1):∃ H',ab 90 (ik (y3 v)) (fC.1.drop 9) H (.ret (.bool true)) (Ds v H.length) H'∧H'[0]?=some t0∧H'[1]?=some t1:=by
 have hl:(wf.seen.filter keepR).length<aL:=by rw[x.k.seen];exact Nat.lt_of_le_of_lt x.s (by decide)
 have Lu:=Y7 (v:=v) x.m hl
 rw[x.k.seen] at Lu
 have ig:(H++[aj.list (wr.seen.map Row.V)])[27]?=some (.dict (jk 23 (am wf.cur))):=cY x.m.dict
 have Ze:=Zc (v:=v) (n:=H.length) ig
 have ne:∀{a o},a≠27→H[a]?=some o→((H++[aj.list (wr.seen.map Row.V)]).set 27 (.dict (sZ H.length (am wf.cur))))[a]?=some o:=fun h e=>(List.getElem?_set_ne (fun q=>h q.symm)).trans (cY e)
 have Zf:27<H.length:=iq x.m.dict
 have iZ:((H++[aj.list (wr.seen.map Row.V)]).set 27 (.dict (sZ H.length (am wf.cur))))[H.length]?=some (.list (wr.seen.map Row.V)):=(List.getElem?_set_ne (Nat.ne_of_lt Zf)).trans fe
 have Zg:((H++[aj.list (wr.seen.map Row.V)]).set 27 (.dict (sZ H.length (am wf.cur))))[27]?=some (.dict (sZ H.length (am wf.cur))):=nB ig
 have aK:∀{w:aQ}{i:Nat},i<w.cells.length→w.cells[i]?=some (gh w.cells i):=fun {w i} h=>by show _=some (match w.cells[i]? with |some v=>v |none=>.un);rw[List.getElem?_eq_getElem h]
 have Zh:∀ i,i<wf.cells.length→am i≠27:=fun i h e=>by
  have:=x.m.rc i h
  rw[e,x.m.a7] at this;cases this
 have Zi:∀ i,i<wr.cells.length→bW i≠27:=fun i h e=>by
  have:=x.r.rc i h
  rw[e,x.uo.2.2.2.1] at this;cases this
 have Zj:=ne (by decide) x.m.left
 have Zk:=ne (by decide) x.m.held
 have Zl:=ne (by decide) x.r.seen
 have Zm:=ne (by decide) x.r.left
 have Zn:=ne (by decide) x.r.held
 have Zo:=ne (by decide) x.r.dict
 have h0:=ne (by decide) x.t0
 have h1:=ne (by decide) x.t1
 have Zp:=fun i (m:i∈wf.held)=>ne (Zh i (x.m.iH i m)) (x.m.cell i _ (aK (x.m.iH i m)))
 have CT:=fun i (m:i∈wr.held)=>ne (Zi i (x.r.iH i m)) (x.r.cell i _ (aK (x.r.iH i m)))
 generalize (H++[aj.list (wr.seen.map Row.V)]).set 27 (.dict (sZ H.length (am wf.cur)))=H3 at *
 have A1:wf.held.length<aL:=by rw[x.k.held];exact Nat.lt_of_le_of_lt x.h (by decide)
 have dc:=Ls (ea:=27) (s:=H.length) (l:=24) (h:=26) Zg (by kernel_rfl) (by kernel_rfl) (by kernel_rfl) Zk Zp A1
 have cH:=Ls (H:=H3++[.list (wf.held.map fun i=>(gh wf.cells i).V)]) (ea:=32) (s:=28) (l:=29) (h:=31) (cY Zo) (by kernel_rfl) (by kernel_rfl) (by kernel_rfl) (cY Zn) (fun i m=>cY (CT i m)) (Nat.lt_of_le_of_lt x.h (by decide))
 have gc:=Lo (cY (H':=[aj.list (wr.held.map fun i=>(gh wr.cells i).V)]) (cY (H':=[aj.list (wf.held.map fun i=>(gh wf.cells i).V)]) iZ)) (cY (cY Zj)) (cY fe)
 have ic:=Lo (cY (H':=[aj.list (wr.held.map fun i=>(gh wr.cells i).V)]) (cY (H':=[aj.list (wf.held.map fun i=>(gh wf.cells i).V)]) Zl)) (cY (cY Zm)) fe
 rw[x.k.left,x.k.held,x.k.cells] at gc
 have eq:dY .Eq (.tup [.ref H.length,.ref 24,.ref H3.length]) (.tup [.ref 28,.ref 29,.ref (H3++[aj.list (wf.held.map fun i=>(gh wf.cells i).V)]).length]) ⟨(H3++[aj.list (wf.held.map fun i=>(gh wf.cells i).V)])++[aj.list (wr.held.map fun i=>(gh wr.cells i).V)],True⟩=some (true,⟨(H3++[aj.list (wf.held.map fun i=>(gh wf.cells i).V)])++[aj.list (wr.held.map fun i=>(gh wr.cells i).V)],True⟩):=by
  show (((toPy _ 6 _).bind fun d=>(toPy _ 6 _).map fun e=>gs d e).map fun r=>(r,(_:ax)))=_
  rw[x.k.held,x.k.cells] at ic ⊢
  rw[gc,ic]
  show some (gs _ _,_)=_
  have:∀{a b c:List PyData},jy a a=true→jy b b=true→jy c c=true→gs (.tuple [.list a,.list b,.list c]) (.tuple [.list a,.list b,.list c])=true:=fun {a b c} b2 bt aw=>by
   simp only[gs,EF,jy,EE,b2,bt,aw];rfl
  rw[this (vM fun d m=>by obtain ⟨r,_,rfl⟩:=List.mem_map.mp m;exact Y9 r) (vM (Dq (f:=b0.s) _)) (vM (Dq (f:=fun i=>(gh wr.cells i).s) _))]
 exact ⟨_,ab.cons Lu (ab.cons Ze (ab.ret (ah.ret (ai.cmp (ai.bI (g:=.obj (.ref 949)) (vs:=[.ref 27]) I I (dc.mono (by decide))) (ai.bI (g:=.obj (.ref 949)) (vs:=[.ref 32]) I I (cH.mono (by decide))) eq)))),cY (cY h0),cY (cY h1)⟩
end
end
section
variable {ns:List Int}
theorem Zq (ns:List Int):∃ ls H' rH bz aS gc,ab 90 (ik [(kG,.aO (ns.map V.int))]) fC.1 [oL,oM,.cell none] (.ret (.bool true)) ls H'∧H'[0]?=some (.tab rH bz)∧H'[1]?=some (.tab aS gc):=by
 obtain ⟨m,hm⟩:=I9 (ns.take 60)
 have xx:(ns.map V.int).take 60=(ns.take 60).map V.int:=List.map_take.symm
 have Lv:=Wv (vs:=ns.map V.int) (m:=m) (by rw[xx];exact hm)
 rw[xx] at Lv
 generalize ns.take 60=xs at *
 let j5:bG:=⟨false,xs,0,m.fmod 997⟩
 let A:aj:=.list (xs.map V.int)
 have dy:cE 7 A=true:=x5 xs
 let cz:=(cW (dI 3 false) j5).2
 let s6:=(nr 10 cz).2
 have iI:=Wq (A:=A) (B:=A) (D:=j5) (ls:=[(kG,.aO (ns.map V.int))]) dy dy
 have hP:=Wu (A:=A) (B:=A) (D:=cz) (L:=.list (bE (cR j5))) (ls:=[(kG,.aO (ns.map V.int)),(fF,.ref 7)])
 rw[K5] at hP
 have aw:ek A A [.list (bE (cR j5)),.list ((kQ 10 cz).map cg)]:=⟨dy,dy,by
  show (dG _ (bE (cR j5))&&(dG _ ((kQ 10 cz).map cg)&&true))=true
  rw[ja (Nat.zero_le _) _ (yc _),vL];rfl⟩
 have sQ:=Ww (A:=A) (B:=A) (D:=s6) (L:=.list (bE (cR j5))) (Q:=.list ((kQ 10 cz).map cg)) (ls:=[(kG,.aO (ns.map V.int)),(fF,.ref 7),(Cr,.ref 8)]) aw
 have vv:=Wx (A:=A) (B:=A) (D:=s6) (L:=.list (bE (cR j5))) (Q:=.list ((kQ 10 cz).map cg)) (v:=.aO (ns.map V.int))
 have Zr:=Wz (A:=A) (B:=A) (D:=s6) (E:=j5) (Q:=.list ((kQ 10 cz).map cg)) (v:=.aO (ns.map V.int)) dy dy (vL _)
 have Zs:=YK (A:=A) (B:=A) (D:=s6) (F:=comp (cR j5) hh) (L:=.list (bE (cR j5))) (jo:=(kQ 10 cz).map cg) (v:=.aO (ns.map V.int))
 have Dm:=YL (A:=A) (B:=A) (D:=s6) (F:=comp (cR j5) hh) (L:=.list (bE (cR j5))) (jo:=(kQ 10 cz).map cg) (v:=.aO (ns.map V.int))
 obtain ⟨ZY,wf,am,ρ,wr,bW,ρ',Zt,x⟩:=YV (A:=A) (B:=A) (D:=s6) (E:=j5) (ds:=kQ 10 cz) (v:=.aO (ns.map V.int)) dy dy (K4 10 cz)
 obtain ⟨Zu,Zv,t0,t1⟩:=Zd (v:=.aO (ns.map V.int)) x
 exact ⟨_,Zu,_,_,_,_,ab.cons (Lv.mono (by decide))<|ab.cons (bJ:=[(kG,.aO (ns.map V.int)),(fF,.ref 7)]) (iI.mono (by decide))<|ab.cons (bJ:=[(kG,.aO (ns.map V.int)),(fF,.ref 7),(Cr,.ref 8)]) (hP.mono (by decide)) <|
  ab.cons (bJ:=kH (.aO (ns.map V.int))) (sQ.mono (by decide))<|ab.cons (vv.mono (by decide))<|ab.cons (Zr.mono (by decide))<|ab.cons (Zs.mono (by decide))<|ab.cons (Dm.mono (by decide))<|ab.cons Zt Zv,t0,t1⟩
end
theorem Zw:Bz:=fun ns _=>by
 obtain ⟨ls,H',rH,bz,aS,gc,g,t0,t1⟩:=Zq ns
 obtain ⟨dr,o',K,x⟩:=g True trivial
 have x:=x K 200 (Nat.le_refl _) (by decide)
 refine ⟨K,⟨H',dr⟩,⟨qV,[kG],[],fC.1,some (1,"law.<locals>.<lambda>"),false⟩,rH,bz,aS,gc,by kernel_rfl,?_,o',t0,t1⟩
 have e:bI (e4 K) 200 ⟨qV,[kG],[],fC.1,some (1,"law.<locals>.<lambda>"),false⟩ [.aO (ns.map .int)] jL=((e4 K).ex 200 (ik [(kG,.aO (ns.map V.int))]) fC.1 ⟨[oL,oM,.cell none],True⟩).bind fun r=>some (iB r.1,r.2.2):=by kernel_rfl
 exact e.trans (bj x)
theorem law_holds:hp.Holds:=Uj Zw
end Mine
theorem PySem.Challenge.cw_pc0097_01_holds : PySem.Challenge.rw_pc0097_01.Holds :=
  Mine.law_holds
