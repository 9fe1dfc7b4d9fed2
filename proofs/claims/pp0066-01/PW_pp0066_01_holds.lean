import PyProof.Rows.All
import Wide.All
import OpenK.AllK
import Wide.FinOn
import PyProof.InstStoreFacts
import PyProof.ExcBaseAll.Exception
import PyProof.TableCode
import PySem.Challenge.RW_pp0066_01
set_option Elab.async false
set_option linter.all false
set_option tactic.hygienic false
set_option bootstrap.genMatcherCode false
set_option genInjectivity false
set_option genSizeOf false
set_option genCtorIdx false
set_option maxRecDepth 100000
set_option maxHeartbeats 4000000
section
open PySem PySem.W PyProof.Rows
namespace Internal.H
noncomputable def S(x:String):Str:=Str.ofString x
noncomputable def aS(x:String)(k:Nat):Value:=.str (S x) k
noncomputable def I(i:Int)(k:Nat):Value:=.int i k
noncomputable def R(a:Nat):Value:=.ref a
noncomputable def N:Value:=.none
noncomputable def T(l:List Value):Obj:={cls:=.type "tuple",data:=.seq l.toArray}
noncomputable def F(l:List Value):Obj:={cls:=.none,data:=.fields l.toArray}
noncomputable def X(c:String)(l:List Value):Obj:={cls:=.type c,data:=.fields l.toArray}
noncomputable def Vs(k:Nat):List String->List Value
 |[]=>[]|x::r=>aS x k::Vs (k+1) r
noncomputable def ent(P:Params)(e:String×Nat×Value):DictEntry:={hash:=PyData.keyHash P (S e.1),key:=aS e.1 e.2.1,val:=e.2.2}
noncomputable def D(P:Params)(l:List (String×Nat×Value))(n:Nat):Obj:={cls:=.type "dict",data:=.dict (l.map (ent P)).toArray n}
noncomputable def DN(P:Params)(l:List (String×Nat×Value))(n:Nat):Obj:={cls:=.none,data:=.dict (l.map (ent P)).toArray n}
noncomputable def K(nm:String)(k line a:Nat):Obj:=X "code" [aS nm k,aS nm (k+1),aS "/claim/cut.py" (k+2),I line 0,I 0 0,I 0 0,I 0 0,I 0 0,R a,.bool false,I 181 0,R (a+1),N,N,N,N,I ((k+3:Nat):Int) 0,I line 0,aS "/claim/cut.py" (k+4)]
noncomputable def Fr(c l:Nat)(v:Value):Obj:={cls:=.type "frame",slots:=#[some (R c),some (R 3),some (R l),none,some v,none,some (R 0)]}
noncomputable def C(nm:String)(bs mro:List Value)(ns:Nat)(sub:List Value)(b:Option Value)(k q:Nat)(nw:String):Obj:=
 {cls:=.type "type",data:=.cls {name:=S nm,bases:=bs,mro:=mro,ns:=ns,qualname:=S nm,subclasses:=sub},slots:=#[b,none,some (aS nm k),some (aS nm q),some (.builtin nw),some (.bool true)]}
noncomputable def pw:Program:=PySem.Challenge.rw_pp0066_01.row.toRowW.1
noncomputable def fd(i:Nat):Str×Arguments×List Stmt×Scope:=match pw.main.body[i]? with
 |some (.FunctionDef n a b _ _ _ s _ _ _)=>(n,a,b,s)|some (.ClassDef _ _ _ (.FunctionDef n a b _ _ _ s _ _ _::_) _ _ _ _ _ _ _)=>(n,a,b,s)|_=>default
noncomputable def fo(i:Nat)(q:String)(c:Value)(g:Nat)(dv md cd:Value):Obj:=
 {cls:=c,data:=.func {name:=(fd i).1,qualname:=S q,params:=(fd i).2.1,body:=.stmts (fd i).2.2.1,scope:=(fd i).2.2.2,globals:=g,closure:=[],defaults:=dv,kwdefaults:=.none,pyModule:=md,code:=cd}}
noncomputable def dN(i:Nat)(q:String)(a k line na:Nat)(vs:List String)(fs:List Value)(dv md:Value):List Obj:=
 [T [],F fs,T (Vs (k+3) vs),T [],fo i q N 0 N N N,
  X "code" [.str (fd i).1 k,aS q (k+1),aS "/claim/cut.py" (k+2),I line 0,I na 0,I 0 0,I 0 0,I 3 0,R a,.bool true,I 181 0,R (a+1),N,R (a+2),R (a+3),R (a+4),I ((k+3+vs.length:Nat):Int) 0,I line 0,aS "/claim/cut.py" (k+4+vs.length)],
  fo i q (.type "function") 3 dv md (R (a+5))]
noncomputable def PB(i:Nat)(q:String)(a k line na:Nat)(md:Value):List Obj:=
 [T [],F [],fo i q N 0 N N N,
  X "code" [.str (fd i).1 k,aS q (k+1),aS "/claim/cut.py" (k+2),I line 0,I na 0,I 0 0,I 0 0,I 3 0,R a,.bool true,I 181 0,R (a+1),N,N,N,R (a+2),I ((k+3:Nat):Int) 0,I line 0,aS "/claim/cut.py" (k+4)],
  fo i q (.type "function") 3 N md (R (a+3))]
noncomputable def m0:Value:=aS "adacore.errors" 187
noncomputable def m1:Value:=aS "adacore.reader" 299
noncomputable def m2:Value:=aS "adacore.heights" 436
noncomputable def m3:Value:=aS "adacore.names" 480
noncomputable def m4:Value:=aS "adacore.exprs" 589
noncomputable def m5:Value:=aS "adacore.rationals" 825
noncomputable def m6:Value:=aS "adacore.lexer" 848
noncomputable def m7:Value:=aS "adacore.listexpr" 1032
noncomputable def m8:Value:=aS "law_pp0066_01" 1290
noncomputable def cnt(v:Nat):Nat:=[15,35,54,73,92,149,226,282,366,430,514,550,615,700,738].getD v 0
noncomputable def P1(v:Nat):Nat:=[0,10,11,12,13,19,32,46,58,76,88,93,106,119,125].getD v 0
noncomputable def P3(v:Nat):Nat:=[0,1,2,3,4,10,21,28,40,49,61,64,73,86,92].getD v 0
noncomputable def Xl(v:Nat):Value:=[N,m0,m0,m0,m1,m1,m3,m4,m4,m6,m6,m7,m7,m8,m8].getD v N
noncomputable def o2(P:Params)(v:Nat):Obj:=match v with
 |0=>boot_o_2 P|_=>DN P [("type.__subclasses__.Exception.0",214,I 31 0),("type.__subclasses__.Exception.n",215,I 1 0)] 2
noncomputable def e3:List (String×Nat×Value):=[("__doc__",166,N),("__package__",167,N),("__loader__",168,.builtin "__main__.__loader__#opaque"),("__spec__",169,N),("__annotations__",170,R 6),("__builtins__",171,R 4),("__file__",173,aS "/claim/cut.py" 172),("__cached__",174,N),("AdaError",217,R 31),("LexFault",243,R 51),("SyntaxFault",269,R 70),("AdaRaise",298,R 89),("Reader",345,R 109),("token_ahead",354,R 120),("peek_token",361,R 127),("take_token",369,R 134),("here_line",376,R 141),("refuse_here",384,R 148),("is_sign",394,R 156),("is_word",404,R 164),("take_sign",412,R 171),("take_word",420,R 178),("need_sign",428,R 185),("need_name",435,R 192),("MOST_HIGH",439,I 60 438),("MOST_NESTED",441,I 24 440),("tree_parts",451,R 199),("check_height",457,R 204),("open_nest",464,R 211),("close_nest",471,R 218),("bounded_tree",479,R 225),("RESERVED",551,R 226),("BINARY_NAMES",568,R 227),("UNARY_NAMES",573,R 228),("is_reserved",580,R 235),("is_operator_name",588,R 242),("RELATIONS",597,R 243),("NAMES",603,R 244),("WORDS_AS_ATTRIBUTES",609,R 245),("MARK_ATTRIBUTES",612,R 246),("parse_expr",619,R 253),("logical_word",626,R 260),("logical_tree",638,R 267),("relation_sign",646,R 274),("relation_tree",655,R 281),("member_tree",663,R 288),("simple_tree",672,R 295),("term_tree",681,R 302),("factor_tree",690,R 309),("primary_tree",700,R 316),("symbol_name",708,R 323),("parse_name",715,R 330),("name_tree",723,R 337),("selected_tree",734,R 344),("attribute_tree",746,R 351),("extent_tree",754,R 358),("parse_range",762,R 365),("parse_choice",770,R 372),("assoc_here",779,R 379),("assoc_row",788,R 386),("assocs_here",796,R 393),("bracket_tree",805,R 400),("refuse_ranges",815,R 407),("lone_bracket",824,R 414),("GREATEST",830,I 10000000000000000000000000000000000000000000000000000000000000000000000000000000000000000000000000000000000000000000000000000000000000000000000000000000000000000000000000000000000000000000000000000000000000000000000000000000000000000000000000000000000000000000000000000000000000000000000000000000000000000000000000000000000000000000000000000000000000000000000000000000000000000000000000000000000000000000000000000000000000000000000000000000000000000000000000000000000000000000000000000000000000000000000000000000000000000000000000000000000000000000000000000000000000000000000000000000000000000000000000000000000000000000000000000000000000000000000000000000000000000000000000000000000000000000000000000 829),("ratio_divisor",838,R 421),("make_ratio",847,R 428),("SMALL_LETTERS",851,aS "abcdefghijklmnopqrstuvwxyz" 850),("FIGURES",853,aS "0123456789" 852),("BASED_FIGURES",855,aS "0123456789abcdef" 854),("COMPOUNDS",866,R 429),("SINGLES",868,aS "&()*+,-./:;<=>|" 867),("GAPS",870,aS " \t\x0d\n\x0c\x0b" 869),("MOST_FIGURES",872,I 80 871),("MOST_POWER",874,I 400 873),("small_sign",881,R 436),("is_name_letter",888,R 443),("is_name_part",895,R 450),("is_graphic",902,R 457),("name_token",913,R 464),("read_numeral",927,R 471),("power_of",941,R 478),("number_token",960,R 485),("string_token",971,R 492),("is_prefix",981,R 499),("tick_token",991,R 506),("delimiter_token",1000,R 513),("one_token",1011,R 520),("remark_behind",1020,R 527),("tokens_of",1031,R 534),("PRIMARY_LEVEL",1035,I 6 1034),("BINDING",1106,R 535),("SHORT_WORDS",1113,R 550),("LITERAL_BASES",1129,R 551),("MOST_PLACES",1131,I 480 1130),("FIGURE_SIGNS",1133,aS "0123456789abcdef" 1132),("logical_sort",1140,R 558),("binding_of",1147,R 565),("show_within",1155,R 572),("show_logical",1166,R 579),("show_chain",1178,R 586),("figures_of",1188,R 593),("show_based",1198,R 600),("show_whole",1208,R 607),("show_scaled",1223,R 614),("show_real",1234,R 621),("show_literal",1241,R 628),("show_part",1247,R 633),("show_assocs",1253,R 638),("show_named",1259,R 643),("show_bracket",1266,R 650),("show_range",1273,R 657),("show_member",1281,R 664),("show_expr",1289,R 671),("_law_symbols",1297,R 678),("_law_ticks",1303,R 685),("_law_stone",1311,R 692),("_law_part",1319,R 699),("_law_begun",1330,R 706),("_law_brackets",1336,R 711),("_law_point",1345,R 718),("_law_grown",1351,R 723),("_law_heard",1361,R 730),("law",1371,R 737)]
noncomputable def o3(P:Params)(v:Nat):Obj:=match v with
 |0=>boot_o_3 P|v=>D P (("__name__",165,Xl v)::e3.take (P1 v-1)) (P1 v)
noncomputable def P4:List (Nat×Nat):=[(2,20),(7,40),(12,59),(17,78),(25,97),(43,119),(50,126),(52,133),(56,140),(58,147),(60,155),(62,163),(64,170),(69,177),(74,184),(77,191),(84,198),(96,203),(103,210),(107,217),(109,224),(117,234),(119,241),(128,252),(130,259),(138,266),(152,273),(157,280),(173,287),(180,294),(191,301),(197,308),(205,315),(223,322),(229,329),(231,336),(248,343),(258,350),(272,357),(278,364),(285,371),(292,378),(303,385),(311,392),(318,399),(334,406),(338,413),(351,420),(357,427),(378,435),(382,442),(384,449),(386,456),(388,463),(399,470),(420,477),(429,484),(457,491),(468,498),(473,505),(477,512),(483,519),(494,526),(499,533),(521,557),(527,564),(537,571),(541,578),(549,585),(563,592),(569,599),(576,606),(583,613),(595,620),(605,627),(615,632),(620,637),(622,642),(639,649),(649,656),(653,663),(656,670),(680,677),(682,684),(684,691),(689,698),(692,705),(700,710),(708,717),(712,722),(738,729),(745,736)]
noncomputable def Xm(v:Nat):Obj:=F ((P4.take (P3 v)).flatMap fun x=>[I (x.1:Int) 0,I 0 0,R x.2])
noncomputable def Xn(v:Nat):Obj:=C "AdaError" [.type "Exception"] [R 31,.type "Exception",.type "BaseException",.type "object"] 30 ([R 51,R 70,R 89].take (v-1)) (some (R 15)) 189 197 "Exception.__new__"
noncomputable def obs(P:Params)(v:Nat):List Obj:=
 [boot_o_0 P,boot_o_1 P,o2 P v,o3 P v,boot_o_4 P,boot_o_5 P,boot_o_6 P,boot_o_7 P,boot_o_8 P,boot_o_9 P,boot_o_10 P,T [],Xm v,K "<module>" 182 1 11,Fr 13 3 (aS "__main__" 164),T [.type "Exception"],X "builtin_function_or_method" [.builtin "type.__prepare__",.type "type"],D P [("__module__",196,aS "adacore.errors" 187),("__qualname__",198,aS "AdaError" 197),("__firstlineno__",200,I 2 199),("__init__",208,R 28),("__static_attributes__",210,R 29)] 5,T [],F [I 4 0,I 4 0,R 27],K "AdaError" 191 2 18,Fr 20 17 (aS "adacore.errors" 187)]++(dN 1 "AdaError.__init__" 22 201 4 2 ["self","text"] [] N m0++([T [aS "text" 209],D P [("__module__",196,aS "adacore.errors" 187),("__firstlineno__",200,I 2 199),("__init__",208,R 28),("__static_attributes__",210,R 29),("__weakref__",212,R 32),("__doc__",213,N)] 3,Xn v,X "getset_descriptor" [aS "__weakref__" 211,R 31,.builtin "ExceptionGroup.__weakref__",N],X "super" [R 31,R 31,R 31],X "builtin_function_or_method" [.builtin "object.__init_subclass__",R 31],T [R 31],X "builtin_function_or_method" [.builtin "type.__prepare__",.type "type"],D P [("__module__",225,aS "adacore.errors" 187),("__qualname__",227,aS "LexFault" 226),("__firstlineno__",229,I 7 228),("__init__",238,R 48),("__static_attributes__",240,R 49)] 5,T [],F [I 9 0,I 4 0,R 47],K "LexFault" 220 7 38,Fr 40 37 (aS "adacore.errors" 187)]++(dN 2 "LexFault.__init__" 42 230 9 3 ["self","line","text"] [] N m0++([T [aS "line" 239],D P [("__module__",225,aS "adacore.errors" 187),("__firstlineno__",229,I 7 228),("__init__",238,R 48),("__static_attributes__",240,R 49),("__doc__",241,N)] 2,C "LexFault" [R 31] [R 51,R 31,.type "Exception",.type "BaseException",.type "object"] 50 [] (some (R 35)) 218 226 "Exception.__new__",X "super" [R 51,R 51,R 51],X "builtin_function_or_method" [.builtin "object.__init_subclass__",R 51],T [R 31],X "builtin_function_or_method" [.builtin "type.__prepare__",.type "type"],D P [("__module__",251,aS "adacore.errors" 187),("__qualname__",253,aS "SyntaxFault" 252),("__firstlineno__",255,I 12 254),("__init__",264,R 67),("__static_attributes__",266,R 68)] 5,T [],F [I 14 0,I 4 0,R 66],K "SyntaxFault" 246 12 57,Fr 59 56 (aS "adacore.errors" 187)]++(dN 3 "SyntaxFault.__init__" 61 256 14 3 ["self","line","text"] [] N m0++([T [aS "line" 265],D P [("__module__",251,aS "adacore.errors" 187),("__firstlineno__",255,I 12 254),("__init__",264,R 67),("__static_attributes__",266,R 68),("__doc__",267,N)] 2,C "SyntaxFault" [R 31] [R 70,R 31,.type "Exception",.type "BaseException",.type "object"] 69 [] (some (R 54)) 244 252 "Exception.__new__",X "super" [R 70,R 70,R 70],X "builtin_function_or_method" [.builtin "object.__init_subclass__",R 70],T [R 31],X "builtin_function_or_method" [.builtin "type.__prepare__",.type "type"],D P [("__module__",277,aS "adacore.errors" 187),("__qualname__",279,aS "AdaRaise" 278),("__firstlineno__",281,I 17 280),("__init__",291,R 86),("__static_attributes__",295,R 87)] 5,T [],F [I 19 0,I 4 0,R 85],K "AdaRaise" 272 17 76,Fr 78 75 (aS "adacore.errors" 187)]++(dN 4 "AdaRaise.__init__" 80 282 19 4 ["self","name","line","text"] [] N m0++([T (Vs 292 ["line","name","word"]),D P [("__module__",277,aS "adacore.errors" 187),("__firstlineno__",281,I 17 280),("__init__",291,R 86),("__static_attributes__",295,R 87),("__doc__",296,N)] 2,C "AdaRaise" [R 31] [R 89,R 31,.type "Exception",.type "BaseException",.type "object"] 88 [] (some (R 73)) 270 278 "Exception.__new__",X "super" [R 89,R 89,R 89],X "builtin_function_or_method" [.builtin "object.__init_subclass__",R 89],T [],X "builtin_function_or_method" [.builtin "type.__prepare__",.type "type"],D P [("__module__",308,aS "adacore.reader" 299),("__qualname__",310,aS "Reader" 309),("__firstlineno__",312,I 25 311),("__init__",322,R 106),("__static_attributes__",338,R 107)] 5,T [],F [I 27 0,I 4 0,R 105],K "Reader" 303 25 95,Fr 97 94 (aS "adacore.reader" 299),T [I 0 313]]++(dN 6 "Reader.__init__" 100 314 27 3 ["self","tokens","at"] [] (R 99) m1++([T (Vs 323 ["at","deep","nest","parse_choices","parse_declarations","parse_discrete","parse_expr","parse_formals","parse_handled","parse_handlers","parse_item","parse_name","parse_sequence","parse_statements","tokens"]),D P [("__module__",308,aS "adacore.reader" 299),("__firstlineno__",312,I 25 311),("__init__",322,R 106),("__static_attributes__",338,R 107),("__dict__",340,R 110),("__weakref__",342,R 111),("__doc__",343,N)] 4,C "Reader" [.type "object"] [R 109,.type "object"] 108 [] none 301 309 "object.__new__",X "getset_descriptor" [aS "__dict__" 339,R 109,.builtin "function.__dict__",.builtin "function.__dict__#set"],X "getset_descriptor" [aS "__weakref__" 341,R 109,.builtin "ExceptionGroup.__weakref__",N],X "super" [R 109,R 109,R 109],X "builtin_function_or_method" [.builtin "object.__init_subclass__",R 109]]++(dN 7 "token_ahead" 114 346 43 2 ["reader","ahead","spot"] [] N m1++(dN 8 "peek_token" 121 355 50 1 ["reader"] [] N m1++(dN 9 "take_token" 128 362 52 1 ["reader","token"] [] N m1++(dN 10 "here_line" 135 370 56 1 ["reader"] [] N m1++(dN 11 "refuse_here" 142 377 58 2 ["reader","text"] [] N m1++([T [I 0 385]]++(dN 12 "is_sign" 150 386 60 3 ["reader","sign","ahead"] [] (R 149) m1++([T [I 0 395]]++(dN 13 "is_word" 158 396 62 3 ["reader","word","ahead"] [] (R 157) m1++(dN 14 "take_sign" 165 405 64 2 ["reader","sign"] [] N m1++(dN 15 "take_word" 172 413 69 2 ["reader","word"] [] N m1++(dN 16 "need_sign" 179 421 74 2 ["reader","sign"] [] N m1++(dN 17 "need_name" 186 429 77 1 ["reader"] [] N m1++(dN 21 "tree_parts" 193 442 84 1 ["tree","parts","part","one"] [] N m2++(PB 22 "check_height" 200 452 96 2 m2++(dN 23 "open_nest" 205 458 103 1 ["reader"] [] N m2++(dN 24 "close_nest" 212 465 107 1 ["reader"] [] N m2++(dN 25 "bounded_tree" 219 472 109 2 ["reader","tree"] [] N m2++([T (Vs 482 ["abort","abs","abstract","accept","access","aliased","all","and","array","at","begin","body","case","constant","declare","delay","delta","digits","do","else","elsif","end","entry","exception","exit","for","function","generic","goto","if","in","is","limited","loop","mod","new","not","null","of","or","others","out","package","pragma","private","procedure","protected","raise","range","record","rem","renames","requeue","return","reverse","select","separate","subtype","tagged","task","terminate","then","type","until","use","when","while","with","xor"]),T (Vs 552 ["and","or","xor","=","<","<=",">",">=","+","-","&","*","/","mod","rem","**"]),T (Vs 569 ["+","-","abs","not"])]++(dN 30 "is_reserved" 229 574 117 1 ["word"] [] N m3++(dN 31 "is_operator_name" 236 581 119 2 ["text","count"] [] N m3++([T (Vs 591 ["=","/=","<","<=",">",">="]),T (Vs 598 ["name","select","apply","all","tick"]),T (Vs 604 ["range","access","digits","delta","mod"]),T (Vs 610 ["base","class"])]++(dN 37 "parse_expr" 247 613 128 1 ["reader"] [] N m4++(dN 38 "logical_word" 254 620 130 1 ["reader"] [] N m4++(dN 39 "logical_tree" 261 627 138 2 ["reader","tree","sort","word","size","right"] [] N m4++(dN 40 "relation_sign" 268 639 152 1 ["reader","token"] [] N m4++(dN 41 "relation_tree" 275 647 157 2 ["reader","tree","sign"] [] N m4++(dN 42 "member_tree" 282 656 173 1 ["reader","tree"] [] N m4++(dN 43 "simple_tree" 289 664 180 1 ["reader","sign","tree"] [] N m4++(dN 44 "term_tree" 296 673 191 1 ["reader","tree","sign"] [] N m4++(dN 45 "factor_tree" 303 682 197 1 ["reader","word","tree"] [] N m4++(dN 46 "primary_tree" 310 691 205 1 ["reader","kind","value","line"] [] N m4++(dN 47 "symbol_name" 317 701 223 1 ["reader","value"] [] N m4++(dN 48 "parse_name" 324 709 229 1 ["reader"] [] N m4++(dN 49 "name_tree" 331 716 231 1 ["reader","tree"] [] N m4++(dN 50 "selected_tree" 338 724 248 2 ["reader","tree","kind","value","line"] [] N m4++(dN 51 "attribute_tree" 345 735 258 2 ["reader","tree","kind","value","line","rows"] [] N m4++(dN 52 "extent_tree" 352 747 272 2 ["reader","tree"] [] N m4++(dN 53 "parse_range" 359 755 278 1 ["reader","tree"] [] N m4++(dN 54 "parse_choice" 366 763 285 1 ["reader","tree"] [] N m4++(dN 55 "assoc_here" 373 771 292 1 ["reader","first","choices"] [] N m4++(dN 56 "assoc_row" 380 780 303 1 ["reader","rows","one"] [] N m4++(dN 57 "assocs_here" 387 789 311 1 ["reader","rows"] [] N m4++(dN 58 "bracket_tree" 394 797 318 1 ["reader","tree","rows"] [] N m4++(dN 59 "refuse_ranges" 401 806 334 2 ["reader","rows","choices","value"] [] N m4++(dN 60 "lone_bracket" 408 816 338 2 ["reader","tree","rows"] [] N m4++(dN 63 "ratio_divisor" 415 831 351 2 ["a","b"] [] N m5++(dN 64 "make_ratio" 422 839 357 2 ["top","bottom","common"] [] N m5++([T (Vs 856 ["=>","..","**",":=","/=",">=","<=","<<",">>","<>"])]++(dN 74 "small_sign" 430 875 378 1 ["sign"] [] N m6++(dN 75 "is_name_letter" 437 882 382 1 ["sign"] [] N m6++(dN 76 "is_name_part" 444 889 384 1 ["sign"] [] N m6++(dN 77 "is_graphic" 451 896 386 1 ["sign"] [] N m6++(dN 78 "name_token" 458 903 388 3 ["text","at","line","end","name"] [] N m6++(dN 79 "read_numeral" 465 914 399 4 ["text","at","base","line","value","count","end","figure"] [] N m6++(dN 80 "power_of" 472 928 420 3 ["text","at","line","sign","begin","value","count","end"] [] N m6++(dN 81 "number_token" 479 942 429 3 ["text","at","line","base","value","count","end","is_based","places","has_point","part","power","behind"] [] N m6++(dN 82 "string_token" 486 961 457 3 ["text","at","line","signs","end"] [] N m6++(dN 83 "is_prefix" 493 972 468 1 ["tokens","kind","value","line"] [] N m6++(dN 84 "tick_token" 500 982 473 4 ["text","at","line","tokens"] [] N m6++(dN 85 "delimiter_token" 507 992 477 3 ["text","at","line"] [] N m6++(dN 86 "one_token" 514 1001 483 4 ["text","at","line","tokens","sign"] [] N m6++(dN 87 "remark_behind" 521 1012 494 2 ["text","at","end"] [] N m6++(dN 88 "tokens_of" 528 1021 499 1 ["text","tokens","at","line","token"] [] N m6++([D P [("**",1036,R 536),("*",1040,R 537),("/",1044,R 538),("mod",1048,R 539),("rem",1052,R 540),("+",1056,R 541),("-",1060,R 542),("&",1064,R 543),("=",1068,R 544),("/=",1072,R 545),("<",1076,R 546),("<=",1080,R 547),(">",1084,R 548),(">=",1088,R 549)] 14,T [I 5 1037,I 6 1038,I 6 1039],T [I 4 1041,I 4 1042,I 5 1043],T [I 4 1045,I 4 1046,I 5 1047],T [I 4 1049,I 4 1050,I 5 1051],T [I 4 1053,I 4 1054,I 5 1055],T [I 3 1057,I 3 1058,I 4 1059],T [I 3 1061,I 3 1062,I 4 1063],T [I 3 1065,I 3 1066,I 4 1067],T [I 2 1069,I 3 1070,I 3 1071],T [I 2 1073,I 3 1074,I 3 1075],T [I 2 1077,I 3 1078,I 3 1079],T [I 2 1081,I 3 1082,I 3 1083],T [I 2 1085,I 3 1086,I 3 1087],T [I 2 1089,I 3 1090,I 3 1091],D P [("andthen",1107,aS "and then" 1108),("orelse",1109,aS "or else" 1110)] 2,T [I 10 1114,I 2 1115,I 3 1116,I 4 1117,I 5 1118,I 6 1119,I 7 1120,I 8 1121,I 9 1122,I 11 1123,I 12 1124,I 13 1125,I 14 1126,I 15 1127,I 16 1128]]++(dN 96 "logical_sort" 552 1134 521 1 ["tree"] [] N m7++(dN 97 "binding_of" 559 1141 527 1 ["tree"] [] N m7++(dN 98 "show_within" 566 1148 537 2 ["tree","least"] [] N m7++(dN 99 "show_logical" 573 1156 541 1 ["tree","sort","behind","left","right"] [] N m7++(dN 100 "show_chain" 580 1167 549 1 ["tree","behind","level","left","right","sign"] [] N m7++(dN 101 "figures_of" 587 1179 563 3 ["number","base","least","text"] [] N m7++(dN 102 "show_based" 594 1189 569 3 ["base","text","power","sign"] [] N m7++(dN 103 "show_whole" 601 1199 576 1 ["number","base","text","power"] [] N m7++(dN 104 "show_scaled" 608 1209 583 3 ["number","places","base","size","behind","power","more","text","at"] [] N m7++(dN 105 "show_real" 615 1224 595 2 ["top","bottom","base","places","text"] [] N m7++(dN 106 "show_literal" 622 1235 605 1 ["tree"] [] N m7++(PB 107 "show_part" 629 1242 615 1 m7++(PB 108 "show_assocs" 634 1248 620 1 m7++(PB 109 "show_named" 639 1254 622 1 m7++(dN 110 "show_bracket" 644 1260 639 1 ["tree"] [] N m7++(dN 111 "show_range" 651 1267 649 1 ["tree"] [] N m7++(dN 112 "show_member" 658 1274 653 1 ["tree","word"] [] N m7++(dN 113 "show_expr" 665 1282 656 1 ["tree","tag"] [] N m7++(dN 115 "_law_symbols" 672 1292 680 0 [] [] N m8++(dN 116 "_law_ticks" 679 1298 682 0 [] [] N m8++(dN 117 "_law_stone" 686 1304 684 2 ["bag","many"] [] N m8++(dN 118 "_law_part" 693 1312 689 1 ["bag","way"] [] N m8++(dN 119 "_law_begun" 700 1320 692 1 ["bag","word","text","tree","head"] [] N m8++(PB 120 "_law_brackets" 707 1331 700 1 m8++(dN 121 "_law_point" 712 1337 708 1 ["bag","way","word"] [] N m8++(PB 122 "_law_grown" 719 1346 712 1 m8++(dN 123 "_law_heard" 724 1352 738 2 ["text","is_name","reader","tree"] [] N m8++(dN 124 "law" 731 1362 745 1 ["script","bag","text","tree"] [] N m8
 )))))))))))))))))))))))))))))))))))))))))))))))))))))))))))))))))))))))))))))))))))))))))))))))))))))))
noncomputable def p0:Pos:=⟨0,0,0,0⟩
noncomputable def aA:Env:={scope:=pw.main.scope,locals:=mainNs,globals:=mainNs,cells:=[],code:=.ref 13,frame:=some 14}
noncomputable def bd:List Stmt:=behindTheImports pw
noncomputable def cd:Code:=.body bd aA
noncomputable def B:List Frame:=[topFrame p0]
noncomputable def ev:List Obj->List Obj
 |[]=>[]|[a]=>[a]|a::_::l=>a::ev l
noncomputable def bt:Nat->List Obj->BT
 |0,_=>.nil|_,[]=>.nil|n+1,a::l=>.node a (bt n (ev l)) (bt n (ev (l.drop 1)))
noncomputable def tk(v:Nat):Nat:=[187,218,244,270,301,385,482,656,763,875,1001,1107,1224,1320,1372].getD v 0
noncomputable def ps(v:Nat):Pos:=[p0,⟨2,0,6,24⟩,⟨7,0,11,24⟩,⟨12,0,16,24⟩,⟨24,0,24,8⟩,⟨58,0,59,47⟩,⟨113,0,113,8⟩,⟨157,0,172,15⟩,⟨278,0,284,37⟩,⟨377,0,377,10⟩,⟨477,0,482,55⟩,⟨516,0,516,7⟩,⟨583,0,594,63⟩,⟨689,0,691,180⟩,⟨745,0,754,98⟩].getD v p0
noncomputable def st(P:Params)(v:Nat)(os:OsState):SharedT:={tree:=bt 12 ((obs P v).take (cnt v)),n:=cnt v,life:={},gens:=#[],drawn:={},toks:=tk v,os:=os}
noncomputable def sl(i n:Nat):List Stmt:=(bd.drop i).take n
noncomputable abbrev Tb:=String->Option Builtin
noncomputable abbrev Pg(f:Tb->Program->World->Nat->Option Value->Nat->Nat->SharedT->Thread->Option (Flow×SharedT×Code×Pos))(tb:Tb)(k v i n:Nat)(w:World):Prop:=(fun os=>f tb pw w 11 (some (.ref 6)) 1 k (st w.params v os) (piecesOf (sl i n) aA cd (ps v) B))=fun os=>some (.next,st w.params (v+1) os,cd,ps (v+1))
noncomputable abbrev Pc:=Pg PySem.W.Fast.tw10110043849684766642 PySem.W.Fast.tw14364793385576792824
theorem A4{k v i n:Nat}{w:World}(h:Pc k v i n w)(os:OsState):segRun treeTable pw w 11 (some (.ref 6)) 1 k (st w.params v os).abs (piecesOf (sl i n) aA cd (ps v) [topFrame p0])=some (.next,(st w.params (v+1) os).abs,cd,ps (v+1)):=by
 have h2:Pg segRunT treeTable k v i n w:=by
  rw[PySem.W.Fast.te10110043849684766642,PySem.W.Fast.te14364793385576792824];exact h
 exact segRun_of (congrFun h2 os)
theorem Xo(w:World):Pc 238 0 0 2 w:=by kernel_rfl
theorem Xp(w:World):Pc 247 1 2 1 w:=by kernel_rfl
theorem Xq(w:World):Pc 247 2 3 1 w:=by kernel_rfl
theorem Xr(w:World):Pc 259 3 4 2 w:=by kernel_rfl
theorem Xs(w:World):Pc 389 4 6 6 w:=by kernel_rfl
theorem Xu(w:World):Pc 368 5 12 15 w:=by kernel_rfl
theorem Xv(w:World):Pc 399 6 27 15 w:=by kernel_rfl
theorem Xw(w:World):Pc 372 7 42 12 w:=by kernel_rfl
theorem Xx(w:World):Pc 394 8 54 20 w:=by kernel_rfl
theorem Xy(w:World):Pc 391 9 74 12 w:=by kernel_rfl
theorem Ti(w:World):Pc 392 10 86 6 (w.withFollow "special-get-raises" false):=by kernel_rfl
theorem Tj(w:World):Pc 392 10 86 6 (w.withFollow "special-get-raises" true):=by kernel_rfl
theorem Tk(w:World):Pc 392 10 86 6 w:=byRow2 "special-get-raises" (P:=fun w=>Pc 392 10 86 6 w) Ti Tj w
theorem Tl(w:World):Pc 380 11 92 13 (w.withFollow "special-get-raises" false):=by kernel_rfl
theorem Tn(w:World):Pc 380 11 92 13 (w.withFollow "special-get-raises" true):=by kernel_rfl
theorem To(w:World):Pc 380 11 92 13 w:=byRow2 "special-get-raises" (P:=fun w=>Pc 380 11 92 13 w) Tl Tn w
theorem Tp(w:World):Pc 384 12 105 14 w:=by kernel_rfl
theorem Tq(w:World):Pc 181 13 119 6 w:=by kernel_rfl
noncomputable def hH(P:Params):Heap:=⟨(obs P 14).toArray,{}⟩
noncomputable def K0(P:Params):Frag:=(List.range 738).zip (obs P 14)
theorem fin(w:World)(os:OsState):topRun treeTable pw w 11 (some (.ref 6)) 2 (st w.params 14 os).abs ⟨doneF .next,cd,ps 14,[topFrame p0]⟩=some ⟨hH w.params,#[],{},1372,os⟩:=by kernel_rfl
theorem pre(w:World)(os:OsState):topGo treeTable pw w 11 (some (.ref 6)) 12 ⟨boot_heap w.params,#[],boot_drawn,boot_toks,os⟩ (topStub pw)=some ((st w.params 0 os).abs,⟨denote treeTable (.body bd aA),cd,ps 0,[topFrame p0]⟩):=by kernel_rfl
theorem Xz(w:World)(os:OsState):segRun treeTable pw w 11 (some (.ref 6)) 1 1 (st w.params 0 os).abs (blockOf bd aA cd (ps 0) [topFrame p0])=some (.next,(st w.params 0 os).abs,cd,ps 0):=by kernel_rfl
theorem P5:bd=sl 0 2++(sl 2 1++(sl 3 1++(sl 4 2++(sl 6 6++(sl 12 15++(sl 27 15++(sl 42 12++(sl 54 20++(sl 74 12++(sl 86 6++(sl 92 13++(sl 105 14++(sl 119 6++([])))))))))))))):=by kernel_rfl
theorem run(w:World)(os:OsState):topRun treeTable pw w 11 (some (.ref 6)) (12+(1+(238+(247+(247+(259+(389+(368+(399+(372+(394+(391+(392+(380+(384+(181+2)))))))))))))))) ⟨boot_heap w.params,#[],boot_drawn,boot_toks,os⟩ (topStub pw)=some ⟨hH w.params,#[],{},1372,os⟩:=by
 refine go_top (pre w os) (piece_block (Xz w os) ?_);rw[P5];exact piece_app (A4 (Xo w) os) (piece_app (A4 (Xp w) os) (piece_app (A4 (Xq w) os) (piece_app (A4 (Xr w) os) (piece_app (A4 (Xs w) os) (piece_app (A4 (Xu w) os) (piece_app (A4 (Xv w) os) (piece_app (A4 (Xw w) os) (piece_app (A4 (Xx w) os) (piece_app (A4 (Xy w) os) (piece_app (A4 (Tk w) os) (piece_app (A4 (To w) os) (piece_app (A4 (Tp w) os) (piece_app (A4 (Tq w) os) (piece_nil (fin w os)))))))))))))))
theorem wa:namesResolve PySem.Challenge.rw_pp0066_01.row.prog=true:=by rw[PySem.W.Fast.te8377067652309620493];kernel_rfl
theorem wb:(namesMeet PySem.Challenge.rw_pp0066_01.row.prog PySem.Challenge.rw_pp0066_01.row.prog.main.body fun _ n=>attrL n)=true:=by rw[PySem.W.Fast.te17119622794617984870];kernel_rfl
theorem wv:readsOut PySem.Challenge.rw_pp0066_01.row.prog PySem.Challenge.rw_pp0066_01.row.prog.main.body "vars"=false:=by rw[PySem.W.Fast.te13343964577679436407];kernel_rfl
theorem wr:readsOut PySem.Challenge.rw_pp0066_01.row.prog PySem.Challenge.rw_pp0066_01.row.prog.main.body "dir"=false:=by rw[PySem.W.Fast.te13343964577679436407];kernel_rfl
theorem wl:readsOut PySem.Challenge.rw_pp0066_01.row.prog PySem.Challenge.rw_pp0066_01.row.prog.main.body "locals"=false:=by rw[PySem.W.Fast.te13343964577679436407];kernel_rfl
theorem wc:(["vars","dir","locals"]:List Str).filter (readsOut PySem.Challenge.rw_pp0066_01.row.prog PySem.Challenge.rw_pp0066_01.row.prog.main.body)=[]:=by
 rw[List.filter,wv,List.filter,wr,List.filter,wl];rfl
theorem wd:noRoadLSs {strict:=!(importedModules PySem.Challenge.rw_pp0066_01.row.prog.main.body).all cThrough.contains,foot:=none,bare:=[]} PySem.Challenge.rw_pp0066_01.row.prog.main.body=true:=by rw[PySem.W.Fast.te8326940854005059898];kernel_rfl
theorem Wa:PySem.Challenge.rw_pp0066_01.row.wellSaid=true:=by
 unfold OpenRow.wellSaid OpenRow.partSaid looksOpen;rw[wa,wb,wc,wd];kernel_rfl
theorem we:namesMeet PySem.Challenge.rw_pp0066_01.prog PySem.Challenge.rw_pp0066_01.above (fun _ n=>!PySem.Challenge.rw_pp0066_01.own.contains n)=true:=by rw[PySem.W.Fast.te17119622794617984870];kernel_rfl
theorem ws:PySem.Challenge.rw_pp0066_01.wellSaid=true:=by
 unfold OpenLaw.wellSaid;rw[Wa,we,PySem.W.Fast.te8326940854005059898,PySem.W.Fast.te17119622794617984870];kernel_rfl
theorem bare:pw.tablesWhole=true:=by kernel_rfl
noncomputable def vw:Program:=view pw [124]
noncomputable def lo:List Str:=((e3.drop 8).take 116).map fun e=>S e.1
noncomputable def as:List Nat:=List.range 738
theorem Tr(P:Params):as=(K0 P).map (·.1):=by kernel_rfl
noncomputable def hook:Hook:=kHook K0 as Tr
noncomputable def Xt(s:Shared):Bool:=xlAt vw [] s&&recOk (RowW.records PySem.Challenge.rw_pp0066_01.row.toRowW) s
theorem YA(w:World)(os:OsState):(staticsOk (importedModules pw.main.body) (boot_heap w.params) (hH w.params)&&namesBound pw (hH w.params)&&gensDone ⟨hH w.params,#[],{},1372,os⟩&&laidKept (boot_heap w.params) (hH w.params))=true:=by kernel_rfl
theorem YB(w:World)(os:OsState):openSeen vw lo (importedModules pw.main.body) Xt true ⟨hH w.params,#[],{},1372,os⟩=openGood vw lo:=by rw[PySem.W.Fast.te4187177175401517315];kernel_rfl
theorem A5:∀(l pre:List Obj),(l.all fun o=>(alive o).isSome)=true->(List.range' pre.length l.length).map (Heap.get? ⟨(pre++l).toArray,{}⟩)=((List.range' pre.length l.length).zip l).map fun p=>some p.2
 |[],_,_=>rfl|o::l,pre,h=>by
  rw[List.all_cons,Bool.and_eq_true]at h;have ih:=A5 l (pre++[o]) h.2;rw[List.append_assoc,List.length_append]at ih;rw[List.length_cons,List.range'_succ,List.map_cons,List.zip_cons_cons,List.map_cons];refine congr (congrArg List.cons ?_) ih;have e:(pre++o::l)[pre.length]?=some o:=by simp
  unfold Heap.get?;rw[List.getElem?_toArray,e];have h1:=h.1;obtain⟨c,d,dt,sl⟩:=o;cases dt<;>first|rfl| (cases h1;done)
theorem YC(P:Params):((obs P 14).all fun o=>(alive o).isSome)=true:=by kernel_rfl
theorem YD(P:Params):(obs P 14).length=738:=by kernel_rfl
theorem YE(w:World)(os:OsState):hook.obs ⟨hH w.params,#[],{},1372,os⟩=hook.val w:=by
 have:=A5 (obs w.params 14) [] (YC w.params);rw[YD,List.nil_append,List.length_nil,<-List.range_eq_range']at this;exact this
theorem sz(w:World):((boot_heap w.params).isNs mainGlobals&&(#[]:Array GenState).size==0,(boot_heap w.params).objs.size,(boot_heap w.params).nsMap mainGlobals "__annotations__")=(true,11,some (.ref 6)):=by kernel_rfl
theorem P6:opening pw=plainProg pw.main.scope.names:=by kernel_rfl
theorem YF(s:Shared):fenceModules? pw s=some s:=by kernel_rfl
theorem left:LeftO pw vw lo Xt hook.obs hook.val 5000:=
 LeftO.of_pieces (H₀:=boot_heap) (H₁:=hH) (boot_open P6 rfl YF) sz run (by decide +kernel) fun w=>funext fun os=>looks_pair (YA w os) (looks_pair (YB w os) (YE w os))
noncomputable def dl:DefRec:={name:=(fd 124).1,params:=(fd 124).2.1,body:=(fd 124).2.2.1,scope:=(fd 124).2.2.2,pos:=ps 14}
theorem P7:defOf vw PySem.Challenge.rw_pp0066_01.row.name=some (dl,[]):=by kernel_rfl
theorem P8:PySem.Challenge.rw_pp0066_01.row.prog.theDef PySem.Challenge.rw_pp0066_01.row.name=some (dl.params,dl.body,dl.scope):=by kernel_rfl
theorem Ts:kwWritten? dl.params.kwonlyargs dl.params.kw_defaults=some []:=by kernel_rfl
theorem Tt:(!PySem.Challenge.rw_pp0066_01.row.writes||PySem.Challenge.rw_pp0066_01.row.records.isEmpty)=true:=by kernel_rfl
theorem Tu:(chainsOk vw&&opensWell PySem.Challenge.rw_pp0066_01.row.prog&&(frees PySem.Challenge.rw_pp0066_01.row.toRowW&&PySem.Challenge.rw_pp0066_01.row.within.isEmpty))=true:=by kernel_rfl
theorem promised:PySem.Challenge.rw_pp0066_01.row.toRowW.promised:=⟨[.list []],by kernel_rfl,by kernel_rfl⟩
theorem KY:pw=PySem.Challenge.rw_pp0066_01.row.prog:=by kernel_rfl
theorem P9:LeftO PySem.Challenge.rw_pp0066_01.row.prog vw lo Xt hook.obs hook.val 5000:=KY▸left
theorem YG(s:Shared)(e:Xt s=true):XL vw [] (s.heap.nsMap mainGlobals) s.heap:=by
 unfold Xt at e;exact xl_of s (Bool.and_eq_true_iff.mp e).1
theorem YH(s:Shared)(e:Xt s=true):RecFacts (RowW.records PySem.Challenge.rw_pp0066_01.row.toRowW) s.heap:=by
 unfold Xt at e;exact recFacts_of (Bool.and_eq_true_iff.mp e).2
theorem Hl:PySem.Challenge.rw_pp0066_01.row.prog.bare:=⟨rfl,rfl,rfl,rfl,rfl,KY▸bare⟩
theorem hd(call:WalkO vw lo (XL vw []) hook.says PySem.Challenge.rw_pp0066_01.row.toRowW dl [] fun f vs=>PySem.call f vs):PySem.Challenge.rw_pp0066_01.row.Holds:=
 holds_open P9 hook.of hook.keeps YG XL.keeps P7 P8 Ts YH Tt Wa Tu Hl promised call
end Internal.H
end
local macro_rules | `(tactic| omega) => `(tactic| lia)
set_option backward.match.sparseCases false
section
namespace Internal
noncomputable def aL:=@PySem.wpAny_bind
noncomputable def aW:=@PySem.wpAny_pure
noncomputable def be:=@Bool.and_eq_true
noncomputable def dg:=@List.getElem?_eq_some_iff
noncomputable def aY:=@congrArg
noncomputable def aO:=@if_pos
noncomputable def dO:=@List.mem_cons_of_mem
noncomputable def aX:=@absurd
noncomputable def d8:=@List.mem_cons_self
noncomputable def eX:=@PySem.Heap.get?_none_of_le
noncomputable def bJ:=@PySem.wpAny_mono
noncomputable def aV:=@if_neg
noncomputable def b5:=@Nat.le_refl
noncomputable def b8:=@List.mem_cons
noncomputable def eN:=@List.mem_of_getElem?
noncomputable def fQ:=@PySem.Heap.get?_push_of_some
noncomputable def cY:=@Nat.le_trans
noncomputable def dw:=@Nat.le_of_succ_le
noncomputable def ez:=@PySem.Heap.get?_push_size
noncomputable def g7:=@Nat.le_of_ble_eq_true
noncomputable def i4:=@List.getElem?_append_left
noncomputable def g8:=@List.getElem?_set_ne
noncomputable def eO:=@decide_eq_false
noncomputable def de:=@PySem.wpAny_standAt
noncomputable def b9:=@List.append_assoc
noncomputable def cB:=@List.length_append
section
variable{α Z γ δ ε η θ:Type}{G:Prop}
theorem Pa{P:Prop}{Q:α->Prop}(h:P/\∃a,Q a)(k:P->∀a,Q a->G):G:=let⟨p,a,q⟩:=h;k p a q
theorem eP{P:Prop}{Q R:α->Prop}(h:P/\∃a,Q a/\R a)(k:P->∀a,Q a->R a->G):G:=let⟨p,a,q,r⟩:=h;k p a q r
theorem lw{P Q:α->Prop}{R:α->Z->Prop}(h:∃a,P a/\Q a/\∃b,R a b)(k:∀a,P a->Q a->∀b,R a b->G):G:=let⟨a,p,q,b,r⟩:=h;k a p q b r
theorem tJ{P Q:Prop}{R S:α->Prop}(h:P/\Q/\∃a,R a/\S a)(k:P->Q->∀a,R a->S a->G):G:=let⟨p,q,a,r,s⟩:=h;k p q a r s
theorem cH{P Q R:Prop}(h:P/\Q/\R)(k:P->Q->R->G):G:=let⟨p,q,r⟩:=h;k p q r
theorem fK{P Q R S:Prop}(h:P/\Q/\R/\S)(k:P->Q->R->S->G):G:=let⟨p,q,r,s⟩:=h;k p q r s
theorem au{P Q:α->Prop}(h:∃a,P a/\Q a)(k:∀a,P a->Q a->G):G:=let⟨a,p,q⟩:=h;k a p q
theorem d9{P Q R:α->Prop}(h:∃a,P a/\Q a/\R a)(k:∀a,P a->Q a->R a->G):G:=let⟨a,p,q,r⟩:=h;k a p q r
theorem A6{P Q R S:α->Prop}(h:∃a,P a/\Q a/\R a/\S a)(k:∀a,P a->Q a->R a->S a->G):G:=let⟨a,p,q,r,s⟩:=h;k a p q r s
theorem c6{P:α->Z->Prop}(h:∃a b,P a b)(k:∀a b,P a b->G):G:=let⟨a,b,p⟩:=h;k a b p
theorem ji{P Q:α->Z->Prop}(h:∃a b,P a b/\Q a b)(k:∀a b,P a b->Q a b->G):G:=let⟨a,b,p,q⟩:=h;k a b p q
theorem ip{P Q R:α->Z->Prop}(h:∃a b,P a b/\Q a b/\R a b)(k:∀a b,P a b->Q a b->R a b->G):G:=let⟨a,b,p,q,r⟩:=h;k a b p q r
theorem KZ{P Q R S:α->Z->Prop}(h:∃a b,P a b/\Q a b/\R a b/\S a b)(k:∀a b,P a b->Q a b->R a b->S a b->G):G:=let⟨a,b,p,q,r,s⟩:=h;k a b p q r s
theorem K1{P Q R S T:α->Z->Prop}(h:∃a b,P a b/\Q a b/\R a b/\S a b/\T a b)(k:∀a b,P a b->Q a b->R a b->S a b->T a b->G):G:=let⟨a,b,p,q,r,s,t⟩:=h;k a b p q r s t
theorem Pb{P Q R S T aj:α->Z->Prop}(h:∃a b,P a b/\Q a b/\R a b/\S a b/\T a b/\aj a b)(k:∀a b,P a b->Q a b->R a b->S a b->T a b->aj a b->G):G:=let⟨a,b,p,q,r,s,t,u⟩:=h;k a b p q r s t u
theorem Pd{P Q R S T aj aS:α->Z->Prop}(h:∃a b,P a b/\Q a b/\R a b/\S a b/\T a b/\aj a b/\aS a b)(k:∀a b,P a b->Q a b->R a b->S a b->T a b->aj a b->aS a b->G):G:=let⟨a,b,p,q,r,s,t,u,v⟩:=h;k a b p q r s t u v
theorem A7{P:α->Z->γ->Prop}(h:∃a b c,P a b c)(k:∀a b c,P a b c->G):G:=let⟨a,b,c,p⟩:=h;k a b c p
theorem ly{P Q:α->Z->γ->Prop}(h:∃a b c,P a b c/\Q a b c)(k:∀a b c,P a b c->Q a b c->G):G:=let⟨a,b,c,p,q⟩:=h;k a b c p q
theorem km{P Q R:α->Z->γ->Prop}(h:∃a b c,P a b c/\Q a b c/\R a b c)(k:∀a b c,P a b c->Q a b c->R a b c->G):G:=let⟨a,b,c,p,q,r⟩:=h;k a b c p q r
theorem K2{P Q R S:α->Z->γ->Prop}(h:∃a b c,P a b c/\Q a b c/\R a b c/\S a b c)(k:∀a b c,P a b c->Q a b c->R a b c->S a b c->G):G:=let⟨a,b,c,p,q,r,s⟩:=h;k a b c p q r s
theorem Pe{P Q R S T:α->Z->γ->Prop}(h:∃a b c,P a b c/\Q a b c/\R a b c/\S a b c/\T a b c)(k:∀a b c,P a b c->Q a b c->R a b c->S a b c->T a b c->G):G:=let⟨a,b,c,p,q,r,s,t⟩:=h;k a b c p q r s t
theorem Ph{P Q R S T aj:α->Z->γ->Prop}(h:∃a b c,P a b c/\Q a b c/\R a b c/\S a b c/\T a b c/\aj a b c)(k:∀a b c,P a b c->Q a b c->R a b c->S a b c->T a b c->aj a b c->G):G:=let⟨a,b,c,p,q,r,s,t,u⟩:=h;k a b c p q r s t u
theorem A8{P Q R:α->Z->γ->δ->Prop}(h:∃a b c d,P a b c d/\Q a b c d/\R a b c d)(k:∀a b c d,P a b c d->Q a b c d->R a b c d->G):G:=let⟨a,b,c,d,p,q,r⟩:=h;k a b c d p q r
end
inductive AV where
 |none|bool (b:Bool)|int (i:Int)|str (s:List Nat)|tup (l:List AV)|lst (l:List AV)|ref (i:Nat)
noncomputable def AV.ctorIdx(v:AV):Nat:=AV.casesOn v 0 (fun _=>1) (fun _=>2) (fun _=>3) (fun _=>4) (fun _=>5) (fun _=>6)
inductive Cell where
 |list (l:List AV)|dead (l:List AV)|inst (attrs:List (List Nat×AV))|dict (es:List (List Nat×AV))
noncomputable abbrev aC:=List Cell
noncomputable abbrev Loc:=List (Option AV)
inductive aD(α:Type) where
 |ok (a:α) (c:aC)|exc (m:Bool) (c:aC)|fail
noncomputable def aD.ctorIdx{α:Type}(o:aD α):Nat:=aD.casesOn o (fun _ _=>0) (fun _ _=>1) 2
theorem D7{G:Prop}(b:Bool)(h1:b=true->G)(h0:b=false->G):G:=match b,h1,h0 with
 |true,h,_=>h rfl|false,_,h=>h rfl
theorem i5{α:Type}{G:Prop}(o:Option α)(h1:∀x,o=some x->G)(h0:o=none->G):G:=match o,h1,h0 with
 |some x,h,_=>h x rfl|none,_,h=>h rfl
theorem MC{α:Type}{G:Prop}(o:aD α)(h1:∀x c,o = .ok x c->G)(h2:∀m c,o = .exc m c->G)(h0:o = .fail->G):G:=match o,h1,h2,h0 with
 |.ok x c,h,_,_=>h x c rfl|.exc m c,_,h,_=>h m c rfl|.fail,_,_,h=>h rfl
theorem bE{α:Type}{a b:α}(e:some a=some b):a=b:=Option.some.inj e
theorem ak{α:Type}{a:α}{P:Prop}(e:none=some a):P:=nomatch e
theorem eK{P:Prop}(e:false=true):P:=nomatch e
theorem PG{P:Prop}(e:true=false):P:=nomatch e
inductive Wb{α:Type}(a:α)(c:aC):α->aC->Prop
 |rfl:Wb a c a c
theorem jj{α:Type}{a b:α}(e:aD.ok a c=aD.ok b d):Wb a c b d:=by cases e;exact .rfl
theorem MD{α:Type}{a:α}{P:Prop}(e:aD.fail=aD.ok a c):P:=nomatch e
noncomputable def aD.bind{α Z:Type}:aD α->(α->aC->aD Z)->aD Z
 |.ok a c,f=>f a c|.exc m c,U=>.exc m c|.fail,U=>.fail
theorem dc{α Z:Type}{o o':aD α}{f:α->aC->aD Z}(h:o=o'):o.bind f=o'.bind f:=h▸rfl
noncomputable def aD.calm{α:Type}:aD α->aD α
 |.ok a c=>.ok a c|_=>.fail
noncomputable def aD.fm{α:Type}:aD α->aD α
 |.ok a c=>.ok a c|.exc false c=>.exc false c|_=>.fail
noncomputable def bp{α:Type}(c:aC):Option α->aD α
 |some a=>.ok a c|.none=>.fail
mutual
inductive yl where
 |add|sub|mul|mod|pow|fdiv
inductive YI where
 |z
end
mutual
inductive Hd where
 |eq|ne|lt|le|gt|ge|is|wW|nW|oS
inductive YJ where
 |z
end
mutual
inductive wX where
 |len|chr|ord|abs|max|min|isTup|isList
inductive YK where
 |z
end
noncomputable def wX.ctorIdx(b:wX):Nat:=wX.casesOn b 0 1 2 3 4 5 6 7
mutual
inductive PH where
 |lower|find|replace|join
inductive YL where
 |z
end
inductive lM where
 |one (x:Nat)|tup (xs:List Nat)
mutual
inductive Ex where
 |none|bool (b:Bool)|int (i:Int)|str (s:List Nat)|loc (x:Nat)|gl (g:Nat)|bin (o:yl) (a b:Ex)|neg (a:Ex)|not_ (a:Ex)|and_ (a b:Ex)|or_ (a b:Ex)|ite (c:Cd) (a b:Ex)|cmp (o:Hd) (a b:Ex)|ki (eQ fA:Hd) (a b c:Ex)|inD (a:Ex) (g:Nat)|call (f:Nat) (args:List Ex)|mk (args:List Ex)|bi (b:wX) (args:List Ex)|iK (m:PH) (o:Ex) (args:List Ex)|attr (o:Ex) (n:List Nat)|sub (o i:Ex)|jH (o:Ex) (lo hi:Ex)|tup (l:List Ex)|lst (l:List Ex)|dict (ks:List (List Nat)) (vs:List Ex)|comp (gM:List Nat) (n:Nat) (t:lM) (src:Src) (cond:List Cd) (elt:Ex)|jk (n:Nat) (t:lM) (src:Src) (eR:lM) (cz:Src) (elt:Ex)
inductive Cd where
 |not_ (c:Cd)|and_ (l:List Cd)|or_ (l:List Cd)|cmp (o:Hd) (a b:Ex)|ki (eQ fA:Hd) (a b c:Ex)|inD (a:Ex) (g:Nat)|val (e:Ex)
inductive Src where
 |it (e:Ex)|lO (e:Ex)
end
noncomputable def Ex.ctorIdx(e:Ex):Nat:=Ex.casesOn e 0 (fun _=>1) (fun _=>2) (fun _=>3) (fun _=>4) (fun _=>5) (fun _ _ _=>6) (fun _=>7) (fun _=>8) (fun _ _=>9) (fun _ _=>10) (fun _ _ _=>11) (fun _ _ _=>12) (fun _ _ _ _ _=>13) (fun _ _=>14) (fun _ _=>15) (fun _=>16) (fun _ _=>17) (fun _ _ _=>18) (fun _ _=>19) (fun _ _=>20) (fun _ _ _=>21) (fun _=>22) (fun _=>23) (fun _ _=>24) (fun _ _ _ _ _ _=>25) (fun _ _ _ _ _ _=>26)
inductive Sx where
 |expr (e:Ex)|app (x:Nat) (e:Ex)|ext (x:Nat) (e:Ex)|ret (e:Ex)|asg (x:Nat) (e:Ex)|dn (x:Nat) (e:Ex)|iM (xs:List Nat) (e:Ex)|gz (o:Ex) (n:List Nat) (e:Ex)|uU (o i:Ex) (e:Ex)|hJ (x:Nat) (op:yl) (e:Ex)|g9 (o:Ex) (n:List Nat) (op:yl) (e:Ex)|uV (o i:Ex) (op:yl) (e:Ex)|ite (c:Cd) (t e:List Sx)|n4 (c:Cd) (b:List Sx)|i6 (t:lM) (s:Src) (b:List Sx)|raise (h:Nat) (args:List Ex)|uW (b:List Sx)|brk|ag
noncomputable def aw:Nat:=60
mutual
noncomputable def plain:Nat->AV->Bool
 |U,.none=>true|U,.bool bG=>true|U,.int bG=>true|U,.str s=>s.all (·<1114112)|k+1,.tup l=>az k l|k+1,.lst l=>az k l|U,bG=>false
noncomputable def az:Nat->List AV->Bool
 |U,[]=>true|k,a::l=>plain k a&&az k l
end
theorem dU x:az x []=true:=rfl
theorem ax x a l:az x (a::l)=(plain x a&&az x l):=rfl
theorem gN k l:plain k.succ (AV.tup l)=az k l:=rfl
theorem kT k l:plain k.succ (AV.lst l)=az k l:=rfl
mutual
noncomputable def eqB:AV->AV->Bool
 |.none,.none=>true|.bool a,.bool b=>a==b|.bool a,.int j=>(if a then 1 else 0)==j|.int i,.bool b=>i==(if b then 1 else 0)|.int i,.int j=>i==j|.str x,.str y=>x==y|.lst x,.lst y=>oj x y|.tup x,.tup y=>oj x y|U,bG=>false
noncomputable def oj:List AV->List AV->Bool
 |[],[]=>true|a::l,b::m=>eqB a b&&oj l m|[],U::bG=>false|U::bG,[]=>false
end
theorem ME:oj [] []=true:=by intros;rfl
theorem MF a l b m:oj (a::l) (b::m)=(eqB a b&&oj l m):=rfl
theorem Pi:eqB AV.none AV.none=true:=by intros;rfl
theorem Pj a b:eqB (AV.bool a) (AV.bool b)=(a==b):=rfl
theorem Pk i j:eqB (AV.int i) (AV.int j)=(i==j):=rfl
theorem Pl cf y:eqB (AV.str cf) (AV.str y)=(cf==y):=rfl
theorem Pm cf y:eqB (AV.lst cf) (AV.lst y)=oj cf y:=rfl
theorem Pn cf y:eqB (AV.tup cf) (AV.tup y)=oj cf y:=rfl
noncomputable def eqv(a b:AV):Option Bool:=match a,b with
 |.str x,.str y=>some (x==y)|.int x,.int y=>some (x==y)|a,b=>if plain aw a&&plain aw b then some (eqB a b) else .none
noncomputable def c7(c:aC):AV->AV
 |.ref i=>match c[i]? with
  |some (.list l)=>.lst l|some (.dead l)=>.lst l|_=>.ref i
 |v=>v
noncomputable def fz(c:aC):AV->aD AV
 |.ref i=>match c[i]? with
  |some (.list l)=>.ok (.lst l) (c.set i (.dead l))|some (.dead l)=>.ok (.lst l) c|_=>.ok (.ref i) c
 |v=>.ok v c
noncomputable def s7:List AV->aC->aD (List AV)
 |[],c=>.ok [] c|v::l,c=>(fz c v).bind fun v c=>(s7 l c).bind fun l c=>.ok (v::l) c
theorem A9 x:s7 [] x=aD.ok [] x:=rfl
theorem jl x v l:s7 (v::l) x=(fz x v).bind fun v c=>(s7 l c).bind fun l c=>aD.ok (v::l) c:=rfl
noncomputable def aJ:Nat:=100000
noncomputable def truthy(c:aC)(v:AV):Option Bool:=match c7 c v with
 |.none=>some false|.bool b=>some b|.lst l=>if l.length<=aJ then some (!l.isEmpty) else none|_=>none
noncomputable def jh{Z:Type}(a:AV)(f:Int->Option Z):Option Z:=match a with
 |.int x=>f x|_=>none
noncomputable def CB{Z:Type}(a:AV)(f:List Nat->Option Z):Option Z:=match a with
 |.str x=>f x|_=>none
noncomputable def Po{Z:Type}(a:AV)(f:List AV->Option Z):Option Z:=match a with
 |.lst x=>f x|_=>none
noncomputable def TF{Z:Type}(s:List Nat)(f:Nat->Option Z):Option Z:=match s with
 |[x]=>f x|_=>none
noncomputable def DZ{Z:Type}(l:List AV)(f:AV->Option Z):Option Z:=match l with
 |[x]=>f x|_=>none
noncomputable def Pp{Z:Type}(l:List AV)(f:AV->AV->Option Z):Option Z:=match l with
 |[x,y]=>f x y|_=>none
inductive MG{α Z γ:Type}(k:Z->α)(f:Z->Option γ)(r:γ):α->Prop
 |mk (x:Z) (e:f x=some r):MG k f r (k x)
inductive TG{α γ:Type}(f:α->Option γ)(r:γ):List α->Prop
 |mk (x:α) (e:f x=some r):TG f r [x]
inductive Tv{α γ:Type}(f:α->α->Option γ)(r:γ):List α->Prop
 |mk (x y:α) (e:f x y=some r):Tv f r [x,y]
inductive Wc{α:Type}(c:Prop)(x:α):α->Prop
 |mk (q:c):Wc c x x
inductive Pq{α Z:Type}(f:α->Z)(o:Option α):Z->Prop
 |mk (a:α) (e:o=some a):Pq f o (f a)
inductive Pr{α Z:Type}(o:Option α)(f:α->Option Z)(r:Z):Prop
 |mk (a:α) (e:o=some a) (h:f a=some r)
inductive We{α:Type}(o:Option α)(P:α->Prop):Prop
 |mk (a:α) (e:o=some a) (h:P a)
inductive Ps{α Z:Type}(f:α->Z)(l:List α):Z->Prop
 |mk (a:α) (h:a∈l):Ps f l (f a)
theorem gb{Z:Type}{a:AV}{f:Int->Option Z}{r:Z}(h:jh a f=some r):MG AV.int f r a:=by cases a<;>first|exact ak h|exact⟨_,h⟩
theorem yq{Z:Type}{a:AV}{f:List Nat->Option Z}{r:Z}(h:CB a f=some r):MG AV.str f r a:=by cases a<;>first|exact ak h|exact⟨_,h⟩
theorem Pu{Z:Type}{a:AV}{f:List AV->Option Z}{r:Z}(h:Po a f=some r):MG AV.lst f r a:=by cases a<;>first|exact ak h|exact⟨_,h⟩
theorem PI{Z:Type}:∀{a:List Nat}{f:Nat->Option Z}{r:Z},TF a f=some r->TG f r a
 |[U],bG,dy,h=>⟨_,h⟩|[],U,bG,h=>ak h|U::bG::dy,lP,wO,h=>ak h
theorem in1{Z:Type}:∀{a:List AV}{f:AV->Option Z}{r:Z},DZ a f=some r->TG f r a
 |[U],bG,dy,h=>⟨_,h⟩|[],U,bG,h=>ak h|U::bG::dy,lP,wO,h=>ak h
theorem TH{Z:Type}:∀{a:List AV}{f:AV->AV->Option Z}{r:Z},Pp a f=some r->Tv f r a
 |[U,bG],dy,lP,h=>⟨_,_,h⟩|[],U,bG,h=>ak h|[U],bG,dy,h=>ak h|U::bG::dy::lP,wO,He,h=>ak h
theorem fg{α:Type}{c:Prop}[Decidable c]{x r:α}(h:(if c then some x else none)=some r):Wc c x r:=by
 by_cases q:c
 ·obtain rfl:=bE ((aO q).symm.trans h);exact⟨q⟩
 ·exact ak ((aV q).symm.trans h)
theorem i7{α Z:Type}{f:α->Z}:∀{o:Option α}{b:Z},o.map f=some b->Pq f o b
 |some U,bG,h=>by obtain rfl:=bE h;exact⟨_,rfl⟩
theorem qM{α Z:Type}{f:α->Option Z}{b:Z}:∀{o:Option α},o.bind f=some b->Pr o f b
 |some U,h=>⟨_,rfl,h⟩
theorem wY{α Z:Type}{f:α->Z}{l:List α}{b:Z}(h:b∈l.map f):Ps f l b:=by
 obtain⟨a,q,rfl⟩:=List.mem_map.mp h;exact⟨a,q⟩
theorem n5{Z:Type}{a:AV}{f:Int->Option Z}{r:Z}(h:jh a f=some r):∃x,a = .int x/\f x=some r:=by cases gb h;exact⟨_,rfl,‹_›⟩
theorem uX{Z:Type}{a:AV}{f:List Nat->Option Z}{r:Z}(h:CB a f=some r):∃x,a = .str x/\f x=some r:=by cases yq h;exact⟨_,rfl,‹_›⟩
theorem MH{Z:Type}{a:AV}{f:List AV->Option Z}{r:Z}(h:Po a f=some r):∃x,a = .lst x/\f x=some r:=by cases Pu h;exact⟨_,rfl,‹_›⟩
theorem n6{Z:Type}{a:List AV}{f:AV->Option Z}{r:Z}(h:DZ a f=some r):∃x,a=[x]/\f x=some r:=by cases in1 h;exact⟨_,rfl,‹_›⟩
theorem yr{Z:Type}{a:List AV}{f:AV->AV->Option Z}{r:Z}(h:Pp a f=some r):∃x y,a=[x,y]/\f x y=some r:=by cases TH h;exact⟨_,_,rfl,‹_›⟩
theorem Aa{α:Type}{c:Prop}[Decidable c]{x r:α}(h:(if c then some x else none)=some r):c/\x=r:=by cases fg h;exact⟨‹_›,rfl⟩
noncomputable def binop(o:yl)(a b:AV):Option AV:=match o with
 |.add=>match a with
  |.int x=>jh b fun y=>some (.int (x+y))|.str x=>CB b fun y=>if x.length+y.length<=aJ then some (.str (x++y)) else none|.lst x=>Po b fun y=>if x.length+y.length<=aJ then some (.lst (x++y)) else none|_=>none
 |.sub=>jh a fun x=>jh b fun y=>some (.int (x-y))|.mul=>match a with
  |.int x=>jh b fun y=>if x.natAbs<=aJ/\y.natAbs<=aJ then some (.int (x*y)) else none|.str U=>jh b fun y=>if y=0 then some (.str []) else none|_=>none
 |.mod=>jh a fun x=>jh b fun y=>if 0<y/\y<=aJ then some (.int (x % y)) else none|.fdiv=>jh a fun x=>jh b fun y=>if 0<y/\y<=aJ then some (.int (x / y)) else none|.pow=>jh a fun x=>jh b fun y=>if y=0 then some (.int 1) else none
noncomputable def gg(o:yl)(a b:AV):Option AV:=match o with
 |.add=>match a with
  |.int x=>jh b fun y=>some (.int (x+y))|.str x=>CB b fun y=>if x.length+y.length<=aJ then some (.str (x++y)) else none|_=>none
 |.sub=>jh a fun x=>jh b fun y=>some (.int (x-y))|.fdiv=>jh a fun x=>jh b fun y=>if 0<y/\y<=aJ then some (.int (x / y)) else none|_=>none
noncomputable def wZ:List Nat->List Nat->Bool
 |[],U=>true|U::bG,[]=>false|a::l,b::m=>if a<b then true else if a=b then wZ l m else false
theorem Hm a l b m:wZ (a::l) (b::m)=if a<b then true else if a=b then wZ l m else false:=rfl
noncomputable def fp(a:AV)(l:List AV):Option Bool:=
 if plain aw a&&az aw l then some (l.any fun b=>eqB b a) else .none
noncomputable def isNone:AV->Option Bool
 |.none=>some true|.bool U=>some false|.int U=>some false|.str U=>some false|.tup U=>some false|.lst U=>some false|.ref U=>some false
noncomputable def Pv(a b:AV):Option Bool:=CB a fun s=>match b with
 |.str y=>TF s fun x=>some (decide (x∈y))|.tup l=>fp (.str s) l|_=>none
noncomputable def Tw{Z:Type}(a:AV)(x:Option Z):Option Z:=match a with
 |.none=>x|_=>none
theorem D8{Z:Type}{a:AV}{x:Option Z}{r:Z}(h:Tw a x=some r):a = .none/\x=some r:=by
 cases a with
 |none=>exact⟨rfl,h⟩|_=>cases h
noncomputable def dz(o:Hd)(a b:AV):Option Bool:=match o with
 |.eq=>eqv a b|.ne=>(eqv a b).map not|.lt=>jh a fun x=>jh b fun y=>some (decide (x<y))|.le=>match a with
  |.int x=>jh b fun y=>some (decide (x<=y))|.str x=>CB b fun y=>some (wZ x y)|_=>none
 |.gt=>jh a fun x=>jh b fun y=>some (decide (x>y))|.ge=>jh a fun x=>jh b fun y=>some (decide (x≥y))|.is=>Tw b (isNone a)|.wW=>Tw b ((isNone a).map not)|.nW=>Pv a b|.oS=>(Pv a b).map not
noncomputable def place(n:Nat)(i:Int):Option Nat:=
 if 0<=i then(if i.toNat<n then some i.toNat else .none)
 else if -i<=n then some (n-(-i).toNat) else .none
noncomputable def fC(n:Nat)(i:Int):Nat:=(max 0 (min (if i<0 then i+n else i) n)).toNat
noncomputable def qN:AV->Option (Option Int)
 |.none=>some none|.int i=>some (some i)|_=>none
noncomputable def cut{α:Type}(l:List α)(lo hi:Option Int):List α:=
 (l.drop (lo.elim 0 (fC l.length))).take (hi.elim l.length (fC l.length)-lo.elim 0 (fC l.length))
noncomputable def Hn(l:List AV)(lo hi:Option Int):Option (List AV):=match lo,hi with
 |some a,none=>if 1<=a/\a<=l.length then some (l.drop a.toNat) else none|none,some b=>if 0<=b/\b<l.length then some (l.take b.toNat) else none|U,bG=>none
noncomputable def assoc(k:List Nat):List (List Nat×AV)->Option AV
 |[]=>none|(n,v)::r=>if n=k then some v else assoc k r
theorem uY:assoc k ((n,v)::r)=if n=k then some v else assoc k r:=rfl
noncomputable def dC(k:List Nat)(w:AV):List (List Nat×AV)->List (List Nat×AV)
 |[]=>[(k,w)]|(n,v)::r=>if n=k then(n,w)::r else(n,v)::dC k w r
theorem lQ:dC k w ((n,v)::r)=if n=k then(n,w)::r else(n,v)::dC k w r:=rfl
noncomputable def gm(c:aC)(o i:AV):Option AV:=match o,i with
 |.ref j,.str k=>match c[j]? with
  |some (.dict es)=>assoc k es|_=>none
 |o,.int i=>match c7 c o with
  |.tup l=>if l.length<=aJ then(place l.length i).bind (l[·]?) else none|.lst l=>if l.length<=aJ then(place l.length i).bind (l[·]?) else none|.str s=>if s.length<=aJ then(place s.length i).bind fun k=>(s[k]?).map fun x=>.str [x]else none|_=>none
 |U,bG=>none
noncomputable def kj(c:aC)(o lo hi:AV):Option AV:=match qN lo,qN hi with
 |some lo,some hi=>match c7 c o with
  |.tup l=>if l.length<=aJ then(Hn l lo hi).map .tup else none|.lst l=>if l.length<=aJ then some (.lst (cut l lo hi)) else none|.str s=>if s.length<=aJ then some (.str (cut s lo hi)) else none|_=>none
 |U,bG=>none
noncomputable def eY(c:aC)(o:AV)(n:List Nat):Option AV:=match o with
 |.ref j=>match c[j]? with
  |some (.inst at_)=>assoc n at_|_=>none
 |_=>none
noncomputable def db(c:aC)(o:AV)(n:List Nat)(v:AV):Option aC:=match o with
 |.ref j=>match c[j]? with
  |some (.inst at_)=>if(dC n v at_).length<=100 then some (c.set j (.inst (dC n v at_))) else none|_=>none
 |_=>none
noncomputable def eA(c:aC)(o i:AV)(v:AV):Option aC:=match o,i with
 |.ref j,.str k=>match c[j]? with
  |some (.dict es)=>match assoc k es with
   |some U=>if es.length<=aJ then some (c.set j (.dict (dC k v es))) else none|_=>none
  |_=>none
 |.ref j,.int i=>match c[j]? with
  |some (.list l)=>if i<0/\l.length<=aJ then(match place l.length i with
   |some k=>some (c.set j (.list (l.set k v)))|_=>none) else none
  |_=>none
 |U,bG=>none
noncomputable def dictAt(c:aC)(o i:AV):Option AV:=match o,i with
 |.ref j,.str k=>match c[j]? with
  |some (.dict es)=>assoc k es|_=>none
 |U,bG=>none
inductive YM{α:Type}(c:Prop)(x:Option α)(r:α):Prop
 |mk (q:c) (e:x=some r)
theorem Ho{α:Type}{c:Prop}[Decidable c]{x:Option α}{r:α}(h:(if c then x else none)=some r):YM c x r:=by
 by_cases q:c
 ·exact⟨q,(aO q).symm.trans h⟩
 ·exact ak ((aV q).symm.trans h)
inductive D9(l:List AV)(i:Int)(r:AV):Prop
 |mk (k:Nat) (hl:l.length<=aJ) (hk:place l.length i=some k) (hr:l[k]?=some r)
inductive w0(i:Int):AV->AV->Prop
 |tup (l:List AV) (r:AV) (h:D9 l i r):w0 i (.tup l) r|lst (l:List AV) (r:AV) (h:D9 l i r):w0 i (.lst l) r|str (s:List Nat) (k x:Nat) (hl:s.length<=aJ) (hk:place s.length i=some k) (hx:s[k]?=some x):w0 i (.str s) (.str [x])
theorem Da{i:Int}{r:AV}(e:(if l.length<=aJ then(place l.length i).bind (l[·]?) else none)=some r):D9 l i r:=by
 obtain⟨hl,e⟩:=Ho e;obtain⟨k,hk,hr⟩:=qM e;exact⟨k,hl,hk,hr⟩
inductive MI(c:aC)(r:AV):AV->AV->Prop
 |key (j:Nat) (k:List Nat) (es:List (List Nat×AV)) (hj:c[j]?=some (.dict es)) (e:assoc k es=some r):MI c r (.ref j) (.str k)|item (o:AV) (i:Int) (h:w0 i (c7 c o) r):MI c r o (.int i)
theorem Db{i:Int}(e:gm c o (.int i)=some r):w0 i (c7 c o) r:=by
 have e':(match c7 c o with
  |.tup l=>if l.length<=aJ then(place l.length i).bind (l[·]?) else none|.lst l=>if l.length<=aJ then(place l.length i).bind (l[·]?) else none|.str s=>if s.length<=aJ then(place s.length i).bind fun k=>(s[k]?).map fun x=>.str [x]else none|_=>none)=some r:=by cases o<;>exact e
 generalize c7 c o=w at e'⊢;cases w with
 |tup l=>exact .tup _ _ (Da e')|lst l=>exact .lst _ _ (Da e')|str s=>obtain⟨hl,e⟩:=Ho e';obtain⟨k,hk,hr⟩:=qM e;induction i7 hr with|mk x hx=>exact .str _ _ _ hl hk hx
 |_=>exact ak e'
inductive K3(c:aC)(r:AV):AV->AV->Prop
 |mk (j:Nat) (k:List Nat) (es:List (List Nat×AV)) (hj:c[j]?=some (.dict es)) (e:assoc k es=some r):K3 c r (.ref j) (.str k)
theorem Dd(e:dictAt c o i=some r):K3 c r o i:=by
 cases o with
 |ref j=>cases i with
  |str k=>
   replace e:(match c[j]? with|some (.dict es)=>assoc k es|_=>none)=some r:=e
   cases q:c[j]? with
   |none=>rw[q]at e;exact ak e|some x=>rw[q]at e;cases x with
    |dict es=>exact⟨_,_,_,q,e⟩|_=>exact ak e
  |_=>exact ak e
 |_=>exact ak e
theorem Pw(e:gm c o i=some r):MI c r o i:=by
 cases i with
 |int i=>exact .item _ _ (Db e)|str k=>cases o with
  |ref j=>cases Dd (o:=.ref j) (i:=.str k) e with|mk _ _ es q e=>exact .key _ _ _ q e
  |_=>exact ak e
 |_=>cases o<;>exact ak e
inductive De(c:aC)(n:List Nat)(r:AV):AV->Prop
 |mk (j:Nat) (at_:List (List Nat×AV)) (hj:c[j]?=some (.inst at_)) (e:assoc n at_=some r):De c n r (.ref j)
theorem Hp(e:eY c o n=some r):De c n r o:=by
 cases o with
 |ref j=>
  replace e:(match c[j]? with|some (.inst at_)=>assoc n at_|_=>none)=some r:=e
  cases q:c[j]? with
  |none=>rw[q]at e;exact ak e|some x=>rw[q]at e;cases x with
   |inst es=>exact⟨_,_,q,e⟩|_=>exact ak e
 |_=>exact ak e
inductive Px(c:aC)(n:List Nat)(v:AV):AV->aC->Prop
 |mk (j:Nat) (at_:List (List Nat×AV)) (hj:c[j]?=some (.inst at_)) (h:(dC n v at_).length<=100):Px c n v (.ref j) (c.set j (.inst (dC n v at_)))
theorem MJ(e:db c o n v=some d):Px c n v o d:=by
 cases o with
 |ref j=>
  replace e:(match c[j]? with|some (.inst at_)=>if(dC n v at_).length<=100 then some (c.set j (.inst (dC n v at_))) else none|_=>none)=some d:=e
  cases q:c[j]? with
  |none=>rw[q]at e;exact ak e|some x=>rw[q]at e;cases x with
   |inst es=>induction fg e with|mk h=>exact⟨_,_,q,h⟩
   |_=>exact ak e
 |_=>exact ak e
inductive MK(c:aC)(v:AV):AV->AV->aC->Prop
 |key (j:Nat) (k:List Nat) (es:List (List Nat×AV)) (r:AV) (hj:c[j]?=some (.dict es)) (e:assoc k es=some r) (h:es.length<=aJ):MK c v (.ref j) (.str k) (c.set j (.dict (dC k v es)))|item (j:Nat) (i:Int) (l:List AV) (k:Nat) (hj:c[j]?=some (.list l)) (h:i<0/\l.length<=aJ) (hk:place l.length i=some k):MK c v (.ref j) (.int i) (c.set j (.list (l.set k v)))
theorem ML{o i v:AV}(e:eA c o i v=some d):MK c v o i d:=by
 cases o with
 |ref j=>cases i with
  |str k=>
   replace e:(match c[j]? with
    |some (.dict es)=>match assoc k es with
     |some U=>if es.length<=aJ then some (c.set j (.dict (dC k v es))) else none|_=>none
    |_=>none)=some d:=e
   cases q:c[j]? with
   |none=>rw[q]at e;exact ak e|some x=>rw[q]at e;cases x with
    |dict es=>
     dsimp only at e;cases a:assoc k es with
     |none=>rw[a]at e;exact ak e|some r=>rw[a]at e;induction fg e with|mk h=>exact .key _ _ _ _ q a h
    |_=>exact ak e
  |int i=>
   replace e:(match c[j]? with
    |some (.list l)=>if i<0/\l.length<=aJ then(match place l.length i with
     |some k=>some (c.set j (.list (l.set k v)))|_=>none) else none
    |_=>none)=some d:=e
   cases q:c[j]? with
   |none=>rw[q]at e;exact ak e|some x=>rw[q]at e;cases x with
    |list l=>
     obtain⟨h,e⟩:=Ho e;cases a:place l.length i with
     |none=>rw[a]at e;exact ak e|some k=>rw[a]at e;obtain rfl:=bE e;exact .item _ _ _ _ q h a
    |_=>exact ak e
  |_=>exact ak e
 |_=>exact ak e
inductive Hq(l:List AV):Option Int->Option Int->List AV->Prop
 |of (a:Int) (h:1<=a/\a<=l.length):Hq l (some a) none (l.drop a.toNat)|to (b:Int) (h:0<=b/\b<l.length):Hq l none (some b) (l.take b.toNat)
theorem MM(e:Hn l lo hi=some r):Hq l lo hi r:=by
 cases lo with
 |none=>cases hi with
  |none=>exact ak e|some b=>induction fg e with|mk h=>exact .to _ h
 |some a=>cases hi with
  |none=>induction fg e with|mk h=>exact .of _ h
  |some b=>exact ak e
inductive Hr(lo hi:Option Int):AV->AV->Prop
 |tup (l r:List AV) (h:l.length<=aJ) (q:Hq l lo hi r):Hr lo hi (.tup l) (.tup r)|lst (l:List AV) (h:l.length<=aJ):Hr lo hi (.lst l) (.lst (cut l lo hi))|str (l:List Nat) (h:l.length<=aJ):Hr lo hi (.str l) (.str (cut l lo hi))
inductive Tx(c:aC)(o lo hi r:AV):Prop
 |mk (a b:Option Int) (h1:qN lo=some a) (h2:qN hi=some b) (h:Hr a b (c7 c o) r)
theorem K4{o lo hi r:AV}(e:kj c o lo hi=some r):Tx c o lo hi r:=by
 unfold kj at e;cases h1:qN lo with
 |none=>rw[h1]at e;exact ak e|some a=>cases h2:qN hi with
  |none=>rw[h1,h2]at e;exact ak e|some b=>
   rw[h1,h2]at e;refine⟨a,b,h1,h2,?_⟩;dsimp only at e;generalize c7 c o=w at e⊢;cases w with
   |tup l=>obtain⟨h,e⟩:=Ho e;induction i7 e with|mk r q=>exact .tup _ _ h (MM q)
   |lst l=>induction fg e with|mk h=>exact .lst _ h
   |str l=>induction fg e with|mk h=>exact .str _ h
   |_=>exact ak e
noncomputable def w4(x:Nat):Nat:=if 65<=x/\x<=90 then x+32 else x
noncomputable def isAscii(l:List Nat):Bool:=l.all (·<128)
noncomputable def jI(x:Nat):List Nat->Nat->Int
 |[],U=>-1|y::r,k=>if y=x then k else jI x r (k+1)
theorem CC{x y k:Nat}:jI x (y::r) k=if y=x then(k:Int) else jI x r (k+1):=rfl
noncomputable def uZ:List AV->Option (List (List Nat))
 |[]=>some []|.str s::r=>(uZ r).map (s::·)|U::bG=>none
noncomputable def Ab(sep:List Nat):List (List Nat)->List Nat
 |[]=>[]|[a]=>a|a::b::r=>a++sep++Ab sep (b::r)
noncomputable def Ac(v:AV):Option AV:=match v with
 |.str s=>if s.length<=aJ then some (.int s.length) else none|.tup l=>if l.length<=aJ then some (.int l.length) else none|.lst l=>if l.length<=aJ then some (.int l.length) else none|_=>none
noncomputable def iN(v:AV):Option AV:=match v with
 |.tup U=>some (.bool true)|.ref U=>none|_=>some (.bool false)
noncomputable def hM(v:AV):Option AV:=match v with
 |.lst U=>some (.bool true)|.ref U=>none|_=>some (.bool false)
noncomputable def builtin(c:aC)(b:wX)(args:List AV):Option AV:=match b with
 |.len=>DZ args fun v=>Ac (c7 c v)|.chr=>DZ args fun v=>jh v fun i=>if 0<=i/\i<128 then some (.str [i.toNat]) else none|.ord=>DZ args fun v=>CB v fun s=>TF s fun x=>some (.int x)|.abs=>DZ args fun v=>jh v fun i=>some (.int (if i<0 then -i else i))|.max=>Pp args fun v w=>jh v fun a=>jh w fun b=>some (.int (if b>a then b else a))|.min=>Pp args fun v w=>jh v fun a=>jh w fun b=>some (.int (if b<a then b else a))|.isTup=>DZ args fun v=>iN (c7 c v)|.isList=>DZ args fun v=>hM (c7 c v)
noncomputable def Df(sep:List Nat)(v:AV):Option AV:=Po v fun l=>(uZ l).bind fun ss=>if(ss.map List.length).sum+ss.length*sep.length<=aJ then some (.str (Ab sep ss)) else none
noncomputable def method(c:aC)(m:PH)(o:AV)(args:List AV):Option AV:=CB o fun s=>match m with
 |.lower=>if args.isEmpty=true/\isAscii s/\s.length<=aJ then some (.str (s.map w4)) else none|.find=>DZ args fun v=>CB v fun t=>TF t fun x=>some (.int (jI x s 0))|.replace=>Pp args fun v w=>CB v fun t=>CB w fun u=>if t=[34]/\u=[34,34]/\34∉s/\s.length<=aJ then some (.str s) else none|.join=>DZ args fun v=>Df s (c7 c v)
noncomputable def br(J:Loc):lM->AV->Option Loc
 |.one x,v=>some (J.set x (some v))|.tup xs,.tup l=>if xs.length=l.length then some ((xs.zip l).foldl (fun J p=>J.set p.1 (some p.2)) J) else none|.tup U,bG=>none
theorem Hs J x cf:br J (lM.one cf) x=some (List.set J cf (some x)):=rfl
inductive Dg(J:Loc):lM->AV->Loc->Prop
 |one (x:Nat) (v:AV):Dg J (.one x) v (J.set x (some v))|tup (xs:List Nat) (l:List AV) (h:xs.length=l.length):Dg J (.tup xs) (.tup l) ((xs.zip l).foldl (fun J p=>J.set p.1 (some p.2)) J)
theorem Dh(e:br J t v=some aE):Dg J t v aE:=by
 cases t with
 |one x=>obtain rfl:=bE e;exact .one _ _
 |tup xs=>cases v with
  |tup l=>induction fg e with|mk h=>?_;exact .tup _ _ h
  |_=>exact ak e
inductive Ht:AV->Bool->Prop
 |none:Ht .none false|bool (b:Bool):Ht (.bool b) b|lst (l:List AV) (h:l.length<=aJ):Ht (.lst l) (!l.isEmpty)
theorem Py(e:truthy c v=some b):Ht (c7 c v) b:=by
 unfold truthy at e;generalize c7 c v=w at e⊢;cases w with
 |none=>obtain rfl:=bE e;exact .none
 |bool b=>obtain rfl:=bE e;exact .bool _
 |lst l=>induction fg e with|mk h=>?_;exact .lst _ h
 |_=>exact ak e
inductive TI(c:aC):AV->AV->aC->Prop
 |list (i:Nat) (l:List AV) (q:c[i]?=some (.list l)):TI c (.ref i) (.lst l) (c.set i (.dead l))|dead (i:Nat) (l:List AV) (q:c[i]?=some (.dead l)):TI c (.ref i) (.lst l) c|keep (x:AV):TI c x x c
theorem Tz(e:fz c x = .ok x' c'):TI c x x' c':=by
 cases x with
 |ref i=>
  replace e:(match c[i]? with|some (.list l)=>.ok (.lst l) (c.set i (.dead l)) |some (.dead l)=>.ok (.lst l) c|_=>.ok (.ref i) c:aD AV) = .ok x' c':=e
  cases q:c[i]? with
  |none=>rw[q]at e;obtain⟨⟩:=jj e;exact .keep _
  |some y=>rw[q]at e;cases y with
   |list l=>obtain⟨⟩:=jj e;exact .list _ _ q
   |dead l=>obtain⟨⟩:=jj e;exact .dead _ _ q
   |_=>obtain⟨⟩:=jj e;exact .keep _
 |_=>obtain⟨⟩:=jj e;exact .keep _
structure dP where
 call:Nat->List AV->aC->aD AV
 make:List AV->aC->aD AV
 gl:Nat->AV
noncomputable def am(c:aC)(v:AV):Option (List AV):=match c7 c v with
 |.tup l=>some l|.lst l=>some l|_=>none
noncomputable def fq{α:Type}(f:AV->aC->aD (List α)):List AV->aC->aD (List α)
 |[],c=>.ok [] c|v::l,c=>(f v c).bind fun a c=>(fq f l c).bind fun r c=>.ok (a++r) c
theorem yt:∀{α:Type}(f:AV->aC->aD (List α))(x:aC),fq f [] x=aD.ok [] x:=by intros;rfl
theorem u0:∀{α:Type}(f:AV->aC->aD (List α))(x:aC)(v:AV)(l:List AV),fq f (v::l) x=(f v x).bind fun a c=>(fq f l c).bind fun r c=>aD.ok (a++r) c:=by intros;rfl
mutual
noncomputable def ev(W:dP)(J:Loc):Ex->aC->aD AV
 |.none,c=>.ok .none c|.bool b,c=>.ok (.bool b) c|.int i,c=>.ok (.int i) c|.str s,c=>.ok (.str s) c|.loc x,c=>match J[x]? with
  |some (some v)=>.ok v c|_=>.fail
 |.gl g,c=>.ok (W.gl g) c|.bin o a b,c=>(ev W J a c).bind fun x c=>(ev W J b c).bind fun y c=>bp c (binop o (c7 c x) (c7 c y))|.neg a,c=>(ev W J a c).bind fun x c=>match x with
  |.int i=>.ok (.int (-i)) c|_=>.fail
 |.not_ a,c=>(ev W J a c).bind fun x c=>bp c ((truthy c x).map fun b=>.bool (!b))|.and_ a b,c=>(ev W J a c).bind fun x c=>match truthy c x with
  |some true=>ev W J b c|some false=>.ok x c|none=>.fail
 |.or_ a b,c=>(ev W J a c).bind fun x c=>match truthy c x with
  |some true=>.ok x c|some false=>ev W J b c|none=>.fail
 |.ite t a b,c=>(eS W J t c).bind fun x c=>if x then ev W J a c else ev W J b c|.cmp o a b,c=>(ev W J a c).bind fun x c=>(ev W J b c).bind fun y c=>bp c ((dz o (c7 c x) (c7 c y)).map .bool)|.ki eQ fA a b d,c=>(ev W J a c).bind fun x c=>(ev W J b c).bind fun y c=>match dz eQ (c7 c x) (c7 c y) with
  |some true=>(ev W J d c).bind fun z c=>bp c ((dz fA (c7 c y) (c7 c z)).map .bool)|some false=>.ok (.bool false) c|none=>.fail
 |.inD a g,c=>(ev W J a c).bind fun x c=>match x,W.gl g with
  |.str s,.tup l=>bp c ((fp (.str s) l).map .bool)|U,bG=>.fail
 |.call f args,c=>(eV W J args c).bind fun vs c=>W.call f vs c|.mk args,c=>(eV W J args c).bind fun vs c=>W.make vs c|.bi b args,c=>(eV W J args c).bind fun vs c=>bp c (builtin c b vs)|.iK m o args,c=>(ev W J o c).bind fun x c=>match x with
  |.str s=>(eV W J args c).bind fun vs c=>bp c (method c m (.str s) vs)|_=>.fail
 |.attr o n,c=>(ev W J o c).bind fun x c=>bp c (eY c x n)|.sub o i,c=>(ev W J o c).bind fun x c=>(ev W J i c).bind fun y c=>bp c (gm c x y)|.jH o lo hi,c=>(ev W J o c).bind fun x c=>(ev W J lo c).bind fun l c=>(ev W J hi c).bind fun h c=>bp c (kj c x l h)|.tup l,c=>(eV W J l c).bind fun vs c=>(s7 vs c).bind fun vs c=>.ok (.tup vs) c|.lst l,c=>(eV W J l c).bind fun vs c=>(s7 vs c).bind fun vs c=>.ok (.lst vs) c|.dict U bG,dy=>.fail|.comp gM n t s cond elt,c=>(dh W J s c).bind fun l c=>
   (fq (fun v c=>match br (gM.map (fun x=>J[x]?.join)++List.replicate n none) t v with
    |some aE=>(hV W aE cond c).bind fun b c=>if b then(ev W aE elt c).bind fun x c=>(fz c x).bind fun x c=>.ok [x] c else .ok [] c|none=>.fail) l c).calm.bind fun r c=>if r.length<=aJ then .ok (.lst r) c else .fail
 |.jk n t s eR bI elt,c=>(dh W J s c).bind fun l c=>
   (fq (fun v c=>match br (List.replicate n none) t v with
    |some aE=>(dh W aE bI c).bind fun u3 c=>fq (fun v c=>match br aE eR v with
     |some aE=>(ev W aE elt c).bind fun x c=>(fz c x).bind fun x c=>.ok [x] c|none=>.fail) u3 c
    |none=>.fail) l c).calm.bind fun r c=>if r.length<=aJ then .ok (.lst r) c else .fail
noncomputable def eV(W:dP)(J:Loc):List Ex->aC->aD (List AV)
 |[],c=>.ok [] c|e::l,c=>(ev W J e c).bind fun v c=>(eV W J l c).bind fun vs c=>.ok (v::vs) c
noncomputable def eS(W:dP)(J:Loc):Cd->aC->aD Bool
 |.not_ t,c=>(eS W J t c).bind fun b c=>.ok (!b) c|.and_ l,c=>hV W J l c|.or_ l,c=>anyC W J l c|.cmp o a b,c=>(ev W J a c).bind fun x c=>(ev W J b c).bind fun y c=>bp c (dz o (c7 c x) (c7 c y))|.ki eQ fA a b d,c=>(ev W J a c).bind fun x c=>(ev W J b c).bind fun y c=>match dz eQ (c7 c x) (c7 c y) with
  |some true=>(ev W J d c).bind fun z c=>bp c (dz fA (c7 c y) (c7 c z))|some false=>.ok false c|none=>.fail
 |.inD a g,c=>(ev W J a c).bind fun x c=>match x,W.gl g with
  |.str s,.tup l=>bp c (fp (.str s) l)|U,bG=>.fail
 |.val e,c=>(ev W J e c).bind fun x c=>bp c (truthy c x)
noncomputable def hV(W:dP)(J:Loc):List Cd->aC->aD Bool
 |[],c=>.ok true c|t::l,c=>(eS W J t c).bind fun b c=>if b then hV W J l c else .ok false c
noncomputable def anyC(W:dP)(J:Loc):List Cd->aC->aD Bool
 |[],c=>.ok false c|t::l,c=>(eS W J t c).bind fun b c=>if b then .ok true c else anyC W J l c
noncomputable def dh(W:dP)(J:Loc):Src->aC->aD (List AV)
 |.it e,c=>(ev W J e c).bind fun x c=>(fz c x).bind fun x c=>bp c (am c x)|.lO e,c=>(ev W J e c).bind fun x c=>match x with
  |.int i=>if 0<=i/\i<=aJ then .ok ((List.range i.toNat).map fun k=>AV.int (Int.ofNat k)) c else .fail|_=>.fail
end
theorem kU W J x e:dh W J (Src.it e) x=(ev W J e x).bind fun x c=>(fz c x).bind fun x c=>bp c (am c x):=rfl
theorem pW W J x e :
 dh W J (Src.lO e) x =
  (ev W J e x).bind fun x c=>
   match x with
   |AV.int i=>if 0<=i/\i<=↑aJ then aD.ok (List.map (fun k=>AV.int (Int.ofNat k)) (List.range i.toNat)) c else aD.fail|x=>aD.fail:=rfl
theorem u4 W J x:anyC W J [] x=aD.ok false x:=rfl
theorem n7 W J x t l:anyC W J (t::l) x=(eS W J t x).bind fun b c=>if b=true then aD.ok true c else anyC W J l c:=rfl
theorem qO W J x:hV W J [] x=aD.ok true x:=rfl
theorem n8 W J x t l:hV W J (t::l) x=(eS W J t x).bind fun b c=>if b=true then hV W J l c else aD.ok false c:=rfl
theorem K5(W:dP)(J:Loc)(x:aC)(t:Cd):eS W J t.not_ x=(eS W J t x).bind fun b c=>aD.ok (!b) c:=rfl
theorem Ad W J x l:eS W J (Cd.and_ l) x=hV W J l x:=rfl
theorem Ae W J x l:eS W J (Cd.or_ l) x=anyC W J l x:=rfl
theorem fS W J x o a b:eS W J (Cd.cmp o a b) x=(ev W J a x).bind fun x c=>(ev W J b c).bind fun y c=>bp c (dz o (c7 c x) (c7 c y)):=rfl
theorem K6 W J x eQ fA a b d :
 eS W J (Cd.ki eQ fA a b d) x =
  (ev W J a x).bind fun x c=>
   (ev W J b c).bind fun y c=>
    match dz eQ (c7 c x) (c7 c y) with
    |some true=>(ev W J d c).bind fun z c=>bp c (dz fA (c7 c y) (c7 c z))|some false=>aD.ok false c|none=>aD.fail:=rfl
theorem K7 W J x a g :
 eS W J (Cd.inD a g) x =
  (ev W J a x).bind fun x c=>
   match x,W.gl g with
   |AV.str s,AV.tup l=>bp c (fp (AV.str s) l)|x,c=>aD.fail:=rfl
theorem tK W J x e:eS W J (Cd.val e) x=(ev W J e x).bind fun x c=>bp c (truthy c x):=rfl
theorem cI W J x:eV W J [] x=aD.ok [] x:=rfl
theorem bY W J x e l:eV W J (e::l) x=(ev W J e x).bind fun v c=>(eV W J l c).bind fun vs c=>aD.ok (v::vs) c:=rfl
theorem s8 W J x:ev W J Ex.none x=aD.ok AV.none x:=rfl
theorem Hu W J x b:ev W J (Ex.bool b) x=aD.ok (AV.bool b) x:=rfl
theorem mB W J x i:ev W J (Ex.int i) x=aD.ok (AV.int i) x:=rfl
theorem w5 W J x s:ev W J (Ex.str s) x=aD.ok (AV.str s) x:=rfl
theorem cM W J x cf :
 ev W J (Ex.loc cf) x =
  match J[cf]? with
  |some (some v)=>aD.ok v x|x=>aD.fail:=rfl
theorem Di W J x g:ev W J (Ex.gl g) x=aD.ok (W.gl g) x:=rfl
theorem n9 W J x o a b:ev W J (Ex.bin o a b) x=(ev W J a x).bind fun x c=>(ev W J b c).bind fun y c=>bp c (binop o (c7 c x) (c7 c y)):=rfl
theorem MN(W:dP)(J:Loc)(x:aC)(a:Ex) :
 ev W J a.neg x =
  (ev W J a x).bind fun x c=>
   match x with
   |AV.int i=>aD.ok (AV.int (-i)) c|x=>aD.fail:=rfl
theorem UA(W:dP)(J:Loc)(x:aC)(a:Ex):ev W J a.not_ x=(ev W J a x).bind fun x c=>bp c (Option.map (fun b=>AV.bool !b) (truthy c x)):=rfl
theorem Dj(W:dP)(J:Loc)(x:aC)(a b:Ex) :
 ev W J (a.and_ b) x =
  (ev W J a x).bind fun x c=>
   match truthy c x with
   |some true=>ev W J b c|some false=>aD.ok x c|none=>aD.fail:=rfl
theorem Af(W:dP)(J:Loc)(x:aC)(a b:Ex) :
 ev W J (a.or_ b) x =
  (ev W J a x).bind fun x c=>
   match truthy c x with
   |some true=>aD.ok x c|some false=>ev W J b c|none=>aD.fail:=rfl
theorem w6 W J x t a b:ev W J (Ex.ite t a b) x=(eS W J t x).bind fun x c=>if x=true then ev W J a c else ev W J b c:=rfl
theorem w7 W J x o a b:ev W J (Ex.cmp o a b) x=(ev W J a x).bind fun x c=>(ev W J b c).bind fun y c=>bp c (Option.map AV.bool (dz o (c7 c x) (c7 c y))):=rfl
theorem K8 W J x eQ fA a b d :
 ev W J (Ex.ki eQ fA a b d) x =
  (ev W J a x).bind fun x c=>
   (ev W J b c).bind fun y c=>
    match dz eQ (c7 c x) (c7 c y) with
    |some true=>(ev W J d c).bind fun z c=>bp c (Option.map AV.bool (dz fA (c7 c y) (c7 c z)))|some false=>aD.ok (AV.bool false) c|none=>aD.fail:=rfl
theorem Pz(W:dP)(J:Loc)(x:aC)(a:Ex)(g:Nat) :
 ev W J (a.inD g) x =
  (ev W J a x).bind fun x c=>
   match x,W.gl g with
   |AV.str s,AV.tup l=>bp c (Option.map AV.bool (fp (AV.str s) l))|x,c=>aD.fail:=rfl
theorem fL W J x f args:ev W J (Ex.call f args) x=(eV W J args x).bind fun vs c=>W.call f vs c:=rfl
theorem Dk W J x args:ev W J (Ex.mk args) x=(eV W J args x).bind fun vs c=>W.make vs c:=rfl
theorem kn W J x b args:ev W J (Ex.bi b args) x=(eV W J args x).bind fun vs c=>bp c (builtin c b vs):=rfl
theorem K9 W J x m o args :
 ev W J (Ex.iK m o args) x =
  (ev W J o x).bind fun x c=>
   match x with
   |AV.str s=>(eV W J args c).bind fun vs c=>bp c (method c m (AV.str s) vs)|x=>aD.fail:=rfl
theorem tL(W:dP)(J:Loc)(x:aC)(o:Ex)(n:List Nat):ev W J (o.attr n) x=(ev W J o x).bind fun x c=>bp c (eY c x n):=rfl
theorem j2(W:dP)(J:Loc)(x:aC)(o i:Ex):ev W J (o.sub i) x=(ev W J o x).bind fun x c=>(ev W J i c).bind fun y c=>bp c (gm c x y):=rfl
theorem w8(W:dP)(J:Loc)(x:aC)(o lo hi:Ex):ev W J (o.jH lo hi) x=(ev W J o x).bind fun x c=>(ev W J lo c).bind fun l c=>(ev W J hi c).bind fun h c=>bp c (kj c x l h):=rfl
theorem w9 W J x l:ev W J (Ex.tup l) x=(eV W J l x).bind fun vs c=>(s7 vs c).bind fun vs c=>aD.ok (AV.tup vs) c:=rfl
theorem mC W J x l:ev W J (Ex.lst l) x=(eV W J l x).bind fun vs c=>(s7 vs c).bind fun vs c=>aD.ok (AV.lst vs) c:=rfl
theorem Dl W J x gM n t s cond elt :
 ev W J (Ex.comp gM n t s cond elt) x =
  (dh W J s x).bind fun l c=>
   (fq
     (fun v c=>
      match br (List.map (fun x=>J[x]?.join) gM++List.replicate n none) t v with
      |some aE=>(hV W aE cond c).bind fun b c=>if b=true then(ev W aE elt c).bind fun x c=>(fz c x).bind fun x c=>aD.ok [x] c else aD.ok [] c|none=>aD.fail)
     l c).calm.bind
    fun r c=>if r.length<=aJ then aD.ok (AV.lst r) c else aD.fail:=rfl
theorem Dm W J x n t s eR bI elt :
 ev W J (Ex.jk n t s eR bI elt) x =
  (dh W J s x).bind fun l c=>
   (fq
     (fun v c=>
      match br (List.replicate n none) t v with
      |some aE=>
       (dh W aE bI c).bind fun u3 c=>
        fq
         (fun v c=>
          match br aE eR v with
          |some aE=>(ev W aE elt c).bind fun x c=>(fz c x).bind fun x c=>aD.ok [x] c|none=>aD.fail)
         u3 c
      |none=>aD.fail)
     l c).calm.bind
    fun r c=>if r.length<=aJ then aD.ok (AV.lst r) c else aD.fail:=rfl
inductive Fl where
 |nx (J:Loc)|rt (v:AV)|bk (J:Loc)
noncomputable def iq(lf:Nat)(t:Loc->aC->aD Bool)(b:Loc->aC->aD Fl):Nat->Loc->aC->aD Fl
 |0,U,bG=>.fail|n+1,J,c=>(t J c).fm.bind fun x c=>if x then(b J c).fm.bind fun f c=>match f with
   |.nx J=>iq lf t b n J c|.rt v=>.ok (.rt v) c|.bk J=>.ok (.nx J) c
  else .ok (.nx J) c
theorem Hv lf t b x c:iq lf t b 0 x c=aD.fail:=rfl
theorem pY lf t b x c n :
 iq lf t b n.succ x c =
  (t x c).fm.bind fun cf c=>
   if cf=true then
    (b x c).fm.bind fun f c=>
     match f with
     |Fl.nx J=>iq lf t b n J c|Fl.rt v=>aD.ok (Fl.rt v) c|Fl.bk J=>aD.ok (Fl.nx J) c
   else aD.ok (Fl.nx x) c:=rfl
noncomputable def hY(t:lM)(b:Loc->aC->aD Fl):List AV->Loc->aC->aD Fl
 |[],J,c=>.ok (.nx J) c|v::l,J,c=>match br J t v with
  |some J=>(b J c).fm.bind fun f c=>match f with
   |.nx J=>hY t b l J c|.rt v=>.ok (.rt v) c|.bk J=>.ok (.nx J) c
  |none=>.fail
theorem mD t b x c:hY t b [] x c=aD.ok (Fl.nx x) c:=rfl
theorem mE t b x c v l :
 hY t b (v::l) x c =
  match br x t v with
  |some J=>
   (b J c).fm.bind fun f c=>
    match f with
    |Fl.nx J=>hY t b l J c|Fl.rt v=>aD.ok (Fl.rt v) c|Fl.bk J=>aD.ok (Fl.nx J) c
  |none=>aD.fail:=rfl
noncomputable def Dn(xs:List Nat)(J:Loc)(v:AV):Option Loc:=br J (.tup xs) v
noncomputable def gh(c:aC)(v:AV):Option (Nat×List AV):=match v with
 |.ref j=>match c[j]? with
  |some (.list l)=>some (j,l)|_=>none
 |_=>none
noncomputable def wf(l:List AV)(v:AV):Option (List AV):=if l.length<=aJ then some (l++[v]) else none
noncomputable def yu(l:List AV)(v:AV):Option (List AV):=match v with
 |.lst m=>if l.length+m.length<=aJ then some (l++m) else none|_=>none
noncomputable def upd(f:List AV->AV->Option (List AV))(c:aC)(o v:AV):Option aC:=match gh c o with
 |some (j,l)=>(f l v).map fun l'=>c.set j (.list l')|none=>none
mutual
noncomputable def ex(W:dP)(lf:Nat):Sx->Loc->aC->aD Fl
 |.expr e,J,c=>(ev W J e c).bind fun U c=>.ok (.nx J) c|.app x e,J,c=>(ev W J (.loc x) c).bind fun o c=>match gh c o with
  |some U=>(ev W J e c).bind fun v c=>(fz c v).bind fun v c=>match upd wf c o v with
   |some c=>.ok (.nx J) c|none=>.fail
  |none=>.fail
 |.ext x e,J,c=>(ev W J (.loc x) c).bind fun o c=>match gh c o with
  |some U=>(ev W J e c).bind fun v c=>(fz c v).bind fun v c=>match upd yu c o v with
   |some c=>.ok (.nx J) c|none=>.fail
  |none=>.fail
 |.ret e,J,c=>(ev W J e c).bind fun v c=>(fz c v).bind fun v c=>.ok (.rt v) c|.asg x e,J,c=>(ev W J e c).bind fun v c=>.ok (.nx (J.set x (some v))) c|.dn x e,J,c=>match e with
  |.dict ks vs=>(eV W J vs c).calm.bind fun vs c=>(s7 vs c).bind fun vs c=>.ok (.nx (J.set x (some (.ref c.length)))) (c++[.dict (ks.zip vs)])|e=>(ev W J e c).bind fun v c=>match v with
   |.lst l=>.ok (.nx (J.set x (some (.ref c.length)))) (c++[.list l])|_=>.fail
 |.iM xs e,J,c=>(ev W J e c).bind fun v c=>match Dn xs J v with
  |some J=>.ok (.nx J) c|none=>.fail
 |.gz o n e,J,c=>(ev W J e c).bind fun v c=>(fz c v).bind fun v c=>(ev W J o c).bind fun o c=>match db c o n v with
  |some c=>.ok (.nx J) c|none=>.fail
 |.uU o i e,J,c=>(ev W J e c).bind fun v c=>(fz c v).bind fun v c=>(ev W J o c).bind fun o c=>(ev W J i c).bind fun i c=>match eA c o i v with
  |some c=>.ok (.nx J) c|none=>.fail
 |.hJ x op e,J,c=>(ev W J (.loc x) c).bind fun o c=>(ev W J e c).bind fun v c=>match gg op o v with
  |some r=>.ok (.nx (J.set x (some r))) c|none=>.fail
 |.g9 o n op e,J,c=>(ev W J o c).bind fun o c=>match eY c o n with
  |some a=>(ev W J e c).bind fun v c=>match gg op a v with
   |some r=>match db c o n r with
    |some c=>.ok (.nx J) c|none=>.fail
   |none=>.fail
  |none=>.fail
 |.uV o i op e,J,c=>(ev W J o c).bind fun o c=>(ev W J i c).bind fun i c=>match dictAt c o i with
  |some a=>(ev W J e c).bind fun v c=>match gg op a v with
   |some r=>match eA c o i r with
    |some c=>.ok (.nx J) c|none=>.fail
   |none=>.fail
  |none=>.fail
 |.ite t a b,J,c=>(eS W J t c).bind fun x c=>if x then dR W lf a J c else dR W lf b J c|.n4 t b,J,c=>iq lf (fun J c=>eS W J t c) (fun J c=>dR W lf b J c) lf J c|.i6 t s b,J,c=>(dh W J s c).bind fun l c=>hY t (fun J c=>dR W lf b J c) l J c|.raise h args,J,c=>(eV W J args c).bind fun vs c=>match vs with
  |[r,.str U]=>(W.call h [r] c).calm.bind fun x c=>match x with
   |.int U=>.exc true c|_=>.fail
  |_=>.fail
 |.uW b,J,c=>match dR W lf b J c with
  |.ok f c=>.ok f c|.exc false c=>.ok (.rt .none) c|_=>.fail
 |.brk,J,c=>.ok (.bk J) c|.ag,U,bG=>.fail
noncomputable def dR(W:dP)(lf:Nat):List Sx->Loc->aC->aD Fl
 |[],J,c=>.ok (.nx J) c|s::l,J,c=>(ex W lf s J c).bind fun f c=>match f with
  |.nx J=>dR W lf l J c|f=>.ok f c
end
theorem QA W lf x c e:ex W lf (Sx.expr e) x c=(ev W x e c).bind fun cf c=>aD.ok (Fl.nx x) c:=rfl
theorem MO W lf x c nY e :
 ex W lf (Sx.app nY e) x c =
  (ev W x (Ex.loc nY) c).bind fun o c=>
   match gh c o with
   |some val=>
    (ev W x e c).bind fun v c=>
     (fz c v).bind fun v c=>
      match upd wf c o v with
      |some c=>aD.ok (Fl.nx x) c|none=>aD.fail
   |none=>aD.fail:=rfl
theorem QB W lf x c nY e :
 ex W lf (Sx.ext nY e) x c =
  (ev W x (Ex.loc nY) c).bind fun o c=>
   match gh c o with
   |some val=>
    (ev W x e c).bind fun v c=>
     (fz c v).bind fun v c=>
      match upd yu c o v with
      |some c=>aD.ok (Fl.nx x) c|none=>aD.fail
   |none=>aD.fail:=rfl
theorem mF W lf x c e:ex W lf (Sx.ret e) x c=(ev W x e c).bind fun v c=>(fz c v).bind fun v c=>aD.ok (Fl.rt v) c:=rfl
theorem mG W lf x c nY e:ex W lf (Sx.asg nY e) x c=(ev W x e c).bind fun v c=>aD.ok (Fl.nx (List.set x nY (some v))) c:=rfl
theorem QC:∀(W:dP)(lf:Nat)(x:Loc)(c:aC)(nY:Nat)(ks:List (List Nat))(vs:List Ex),ex W lf (Sx.dn nY (Ex.dict ks vs)) x c=(eV W x vs c).calm.bind fun vs c=>(s7 vs c).bind fun vs c=>aD.ok (Fl.nx (List.set x nY (some (AV.ref (List.length c))))) (c++[Cell.dict (ks.zip vs)]):=by intros;rfl
theorem Dp:∀W lf x c nY e,
  (∀(ks:List (List Nat))(vs:List Ex),e=Ex.dict ks vs->False)->
   ex W lf (Sx.dn nY e) x c =
    (ev W x e c).bind fun v c=>
     match v with
     |AV.lst l=>aD.ok (Fl.nx (List.set x nY (some (AV.ref (List.length c))))) (c++[Cell.list l])|x=>aD.fail:=by
 intro W lf x c y e h;cases e<;>first|exact rfl|exact(h _ _ rfl).elim
theorem yv W lf x c xs e :
 ex W lf (Sx.iM xs e) x c =
  (ev W x e c).bind fun v c=>
   match Dn xs x v with
   |some J=>aD.ok (Fl.nx J) c|none=>aD.fail:=rfl
theorem UB W lf x c o n e :
 ex W lf (Sx.gz o n e) x c =
  (ev W x e c).bind fun v c=>
   (fz c v).bind fun v c=>
    (ev W x o c).bind fun o c=>
     match db c o n v with
     |some c=>aD.ok (Fl.nx x) c|none=>aD.fail:=rfl
theorem Ka W lf x c o i e :
 ex W lf (Sx.uU o i e) x c =
  (ev W x e c).bind fun v c=>
   (fz c v).bind fun v c=>
    (ev W x o c).bind fun o c=>
     (ev W x i c).bind fun i c=>
      match eA c o i v with
      |some c=>aD.ok (Fl.nx x) c|none=>aD.fail:=rfl
theorem Dq W lf x c nY op e :
 ex W lf (Sx.hJ nY op e) x c =
  (ev W x (Ex.loc nY) c).bind fun o c=>
   (ev W x e c).bind fun v c=>
    match gg op o v with
    |some r=>aD.ok (Fl.nx (List.set x nY (some r))) c|none=>aD.fail:=rfl
theorem Kb W lf x c o n op e :
 ex W lf (Sx.g9 o n op e) x c =
  (ev W x o c).bind fun o c=>
   match eY c o n with
   |some a=>
    (ev W x e c).bind fun v c=>
     match gg op a v with
     |some r=>
      match db c o n r with
      |some c=>aD.ok (Fl.nx x) c|none=>aD.fail
     |none=>aD.fail
   |none=>aD.fail:=rfl
theorem Kc W lf x c o i op e :
 ex W lf (Sx.uV o i op e) x c =
  (ev W x o c).bind fun o c=>
   (ev W x i c).bind fun i c=>
    match dictAt c o i with
    |some a=>
     (ev W x e c).bind fun v c=>
      match gg op a v with
      |some r=>
       match eA c o i r with
       |some c=>aD.ok (Fl.nx x) c|none=>aD.fail
      |none=>aD.fail
    |none=>aD.fail:=rfl
theorem Dr W lf x c t a b:ex W lf (Sx.ite t a b) x c=(eS W x t c).bind fun cf c=>if cf=true then dR W lf a x c else dR W lf b x c:=rfl
theorem Ds W lf x c t b:ex W lf (Sx.n4 t b) x c=iq lf (fun J c=>eS W J t c) (fun J c=>dR W lf b J c) lf x c:=rfl
theorem qP W lf x c t s b:ex W lf (Sx.i6 t s b) x c=(dh W x s c).bind fun l c=>hY t (fun J c=>dR W lf b J c) l x c:=rfl
theorem Kd W lf x c h args :
 ex W lf (Sx.raise h args) x c =
  (eV W x args c).bind fun vs c=>
   match vs with
   |[r,AV.str s]=>
    (W.call h [r] c).calm.bind fun x c=>
     match x with
     |AV.int i=>aD.exc true c|x=>aD.fail
   |x=>aD.fail:=rfl
theorem Du W lf x c b :
 ex W lf (Sx.uW b) x c =
  match dR W lf b x c with
  |aD.ok f c=>aD.ok f c|aD.exc false c=>aD.ok (Fl.rt AV.none) c|x=>aD.fail:=rfl
theorem Ke W lf x c:ex W lf Sx.brk x c=aD.ok (Fl.bk x) c:=rfl
theorem QD W lf x c:ex W lf Sx.ag x c=aD.fail:=rfl
theorem iO W lf x c:dR W lf [] x c=aD.ok (Fl.nx x) c:=rfl
theorem kq W lf x c s l :
 dR W lf (s::l) x c =
  (ex W lf s x c).bind fun f c=>
   match f with
   |Fl.nx J=>dR W lf l J c|f=>aD.ok f c:=rfl
structure Fn where
 np:Nat
 nl:Nat
 dflt:List AV
 body:List Sx
mutual
noncomputable def aH(n:Nat):AV->Bool
 |.ref i=>decide (i<n)|.tup l=>dW n l|.lst l=>dW n l|_=>true
noncomputable def dW(n:Nat):List AV->Bool
 |[]=>true|a::l=>aH n a&&dW n l
end
theorem Dv n i:aH n (AV.ref i)=decide (i<n):=rfl
theorem nb n l:aH n (AV.tup l)=dW n l:=rfl
theorem yw n l:aH n (AV.lst l)=dW n l:=rfl
theorem cu n:dW n []=true:=rfl
theorem bH n a l:dW n (a::l)=(aH n a&&dW n l):=rfl
noncomputable def ai(n:Nat):Cell->Bool
 |.list l=>dW n l|.dead l=>dW n l|.inst at_=>dW n (at_.map (·.2))|.dict es=>dW n (es.map (·.2))
noncomputable def back{α:Type}(n:Nat)(v:AV)(c:aC)(k:aC->aD α):aD α:=if aH n v&&(c.take n).all (ai n) then k (c.take n) else .fail
noncomputable def d3(W:dP)(lf:Nat)(f:Fn)(args:List AV)(c:aC):aD AV:=
 let args:=args++f.dflt.drop (f.dflt.length-(f.np-args.length))
 if args.length=f.np then
  match dR W lf f.body (args.map some++List.replicate (f.nl-f.np) none) c with
  |.ok (.rt v) c'=>back c.length v c' fun c=>.ok v c|.ok (.nx U) c'=>back c.length .none c' fun c=>.ok .none c|.ok (.bk U) bG=>.fail|.exc U c'=>back c.length .none c' fun c=>.exc false c|.fail=>.fail
 else .fail
noncomputable def fT(W:dP)(lf:Nat)(f:Fn)(args:List AV)(c:aC):aD AV:=
 match d3 W lf f (.ref c.length::args) (c++[.inst []]) with
 |.ok .none c'=>.ok (.ref c.length) c'|_=>.fail
noncomputable def bL(fns:List Fn)(ini:Fn)(gl:Nat->AV)(lf:Nat):Nat->Nat->List AV->aC->aD AV
 |0,U,bG,dy=>.fail|n+1,f,args,c=>match fns[f]? with
  |some F=>d3 {call:=bL fns ini gl lf n,make:=fun args c=>match n with
   |0=>.fail|n+1=>fT {call:=bL fns ini gl lf n,make:=fun U U=>.fail,gl:=gl} lf ini args c,gl:=gl} lf F args c
  |none=>.fail
theorem kW{lf f n:Nat} :
 bL fns ini gl lf (n+1) f args c=match fns[f]? with
  |some F=>d3 {call:=bL fns ini gl lf n,make:=fun args c=>match n with
   |0=>.fail|n+1=>fT {call:=bL fns ini gl lf n,make:=fun U U=>.fail,gl:=gl} lf ini args c,gl:=gl} lf F args c
  |none=>.fail:=by cases n<;>kernel_rfl
end Internal
end
section
open PySem PySem.W PyProof.Rows PySem.Calls PySem.Spec
namespace Internal
theorem j9{M:Model}{α:Type}{A:Around}{a b:Sem α}{Q:α->Shared->Prop}{E:Value->Shared->Prop}{s:Shared}(h:a=b)(k:wpAny M A b Q E s):wpAny M A a Q E s:=h▸k
structure CA where
 ref:Addr
 own:Addr
noncomputable abbrev Mu:=List CA
noncomputable def Cell.live:Cell->Bool
 |.dead U=>false|_=>true
inductive ci(V:Mu)(c:aC)(a:Addr):Prop
 |mk (i:Nat) (p:CA) (x:Cell) (h1:V[i]?=some p) (h2:c[i]?=some x) (h3:x.live=true) (h4:p.own=a)
mutual
inductive VR(h:Heap)(P:Addr->Prop)(V:Mu):Value->AV->Prop
 |none:VR h P V .none .none|bool (b:Bool):VR h P V (.bool b) (.bool b)|int (i:Int) (t:Tok):VR h P V (.int i t) (.int i)|str (l:List Nat) (t:Tok):VR h P V (.str ⟨l.toArray⟩ t) (.str l)|tup {a:Addr} {vs:List Value} {l:List AV}:IsTup h a vs.toArray->¬P a->cN h P V vs l->VR h P V (.ref a) (.tup l)|lst {a:Addr} {vs:List Value} {l:List AV}:h.IsList a vs.toArray->¬P a->cN h P V vs l->VR h P V (.ref a) (.lst l)|ref {i:Nat} {p:CA}:V[i]?=some p->VR h P V (.ref p.ref) (.ref i)
inductive cN(h:Heap)(P:Addr->Prop)(V:Mu):List Value->List AV->Prop
 |nil:cN h P V [] []|cons {v:Value} {vs:List Value} {a:AV} {l:List AV}:VR h P V v a->cN h P V vs l->cN h P V (v::vs) (a::l)
end
noncomputable def Ext(P:Addr->Prop)(F:List Addr)(h h':Heap):Prop:=
 ∀b o,h.get? b=some o->¬P b->(b∉F->h'.get? b=some o)/\∃sl,h'.get? b=some {o with slots:=sl}
theorem Ext.refl:Ext P F h h:=fun U o e U=>⟨fun U=>e,o.slots,e⟩
theorem Ext.of_keeps(k:∀b o,h.get? b=some o->h'.get? b=some o):Ext P F h h':=
 fun b o e U=>⟨fun U=>k b o e,o.slots,k b o e⟩
theorem oU(x:IsTup h a fh)(k:∀o,h.get? a=some o->∃sl,h'.get? a=some {o with slots:=sl}):IsTup h' a fh:=by
 refine lw x fun o ho hc n hd=>?_;obtain⟨sl,e⟩:=k o ho;exact⟨_,e,hc,n,hd⟩
theorem mH{h h':Heap}{a:Addr}{fh:Array Value}(x:h.IsList a fh)(k:∀o,h.get? a=some o->∃sl,h'.get? a=some {o with slots:=sl}):h'.IsList a fh:=by
 refine lw x fun o ho hc n hd=>?_;obtain⟨sl,e⟩:=k o ho;exact⟨_,e,hc,n,hd⟩
noncomputable def nZ(h:Heap)(a:Addr)(fh:Array Value):Prop:=∃n sl,h.get? a=some {cls:=.type "list",dict:=none,data:=.seq fh n,slots:=sl}
theorem nZ.isList(x:nZ h a fh):h.IsList a fh:=let⟨n,_,ho⟩:=x;⟨_,ho,rfl,n,rfl⟩
theorem nZ.slots(x:nZ h a fh)(k:∀o,h.get? a=some o->∃sl,h'.get? a=some {o with slots:=sl}):nZ h' a fh:=by
 refine c6 x fun n sl ho=>?_;obtain⟨PJ,e⟩:=k _ ho;exact⟨n,PJ,e⟩
theorem nZ.keeps(x:nZ h a fh)(k:∀o,h.get? a=some o->h'.get? a=some o):nZ h' a fh:=let⟨n,sl,ho⟩:=x;⟨n,sl,k _ ho⟩
structure Pass(h:Heap)(P:Addr->Prop)(V:Mu)(h':Heap)(P':Addr->Prop)(bT:Mu):Prop where
 ext:∀b o,h.get? b=some o->¬P b->∃sl,h'.get? b=some {o with slots:=sl}
 new:∀b,P' b->P b\/h.get? b=none
 pre:∀(i:Nat) p,V[i]?=some p->bT[i]?=some p
section
variable{h h':Heap}{P P':Addr->Prop}{V bT:Mu}
theorem Pass.s9(k:Pass h P V h' P' bT)(ho:h.get? a=some o)(hp :¬P a) :¬P' a:=fun q=>by
 rcases k.new a q with q|q
 ·exact hp q
 ·rw[ho]at q;cases q
theorem VR.move(kt:∀a fh,IsTup h a fh->¬P a->IsTup h' a fh/\¬P' a)(kl:∀a fh,h.IsList a fh->¬P a->h'.IsList a fh/\¬P' a)(kr:∀(i:Nat) p,V[i]?=some p->bT[i]?=some p)(H:VR h P V v a):VR h' P' bT v a:=
 H.rec (motive_1:=fun v a U=>VR h' P' bT v a) (motive_2:=fun vs l U=>cN h' P' bT vs l) .none .bool .int .str (fun x p U ih=>.tup (kt _ _ x p).1 (kt _ _ x p).2 ih) (fun x p U ih=>.lst (kl _ _ x p).1 (kl _ _ x p).2 ih) (fun e=>.ref (kr _ _ e)) .nil fun U U=>.cons
theorem cN.ind{M:List Value->List AV->Prop}(h0:M [] [])(h1:∀{v vs a l},VR h P V v a->cN h P V vs l->M vs l->M (v::vs) (a::l)){vs:List Value}{l:List AV}(H:cN h P V vs l):M vs l:=
 H.rec (motive_1:=fun U U U=>True) (motive_2:=fun vs l U=>M vs l) trivial (fun U=>trivial) (fun U U=>trivial) (fun U U=>trivial) (fun U U U U=>trivial) (fun U U U U=>trivial) (fun U=>trivial) h0 fun x xs U=>h1 x xs
theorem VR.pass(k:Pass h P V h' P' bT){a:AV}(H:VR h P V v a):VR h' P' bT v a:=
 H.move (fun U U x p=>⟨oU x fun o ho=>k.ext _ o ho p,let⟨_,ho,_⟩:=x;k.s9 ho p⟩) (fun U U x p=>⟨mH x fun o ho=>k.ext _ o ho p,let⟨_,ho,_⟩:=x;k.s9 ho p⟩) k.pre
theorem cN.map(k:∀v a,VR h P V v a->VR h' P' bT v a)(H:cN h P V vs l):cN h' P' bT vs l:=
 H.ind .nil fun x U ih=>.cons (k _ _ x) ih
theorem cN.pass(k:Pass h P V h' P' bT)(H:cN h P V vs l):cN h' P' bT vs l:=H.map fun U U x=>x.pass k
theorem cN.length{vs:List Value}{l:List AV}(H:cN h P V vs l):vs.length=l.length:=H.ind (M:=fun vs l=>vs.length=l.length) rfl fun U U ih=>aY (·+1) ih
inductive MP(h:Heap)(P:Addr->Prop)(V:Mu)(o:Option Value)(a:AV):Prop
 |mk (v:Value) (e:o=some v) (x:VR h P V v a)
inductive YN(h:Heap)(P:Addr->Prop)(V:Mu)(o:Option AV)(v:Value):Prop
 |mk (a:AV) (e:o=some a) (x:VR h P V v a)
theorem cN.get(H:cN h P V vs l):∀{i:Nat}{a:AV},l[i]?=some a->MP h P V vs[i]? a:=
 H.ind (M:=fun vs l=>∀{i:Nat}{a:AV},l[i]?=some a->MP h P V vs[i]? a) (fun e=>ak e) fun x U ih=>by
  intro i a e;cases i with
  |zero=>exact⟨_,rfl,bE e▸x⟩|succ i=>exact ih e
theorem cN.append(H:cN h P V vs l)(y:cN h P V ws m):cN h P V (vs++ws) (l++m):=H.ind (M:=fun vs l=>cN h P V (vs++ws) (l++m)) y fun x U ih=>.cons x ih
theorem cN.take{l:List AV}(H:cN h P V vs l):∀n,cN h P V (vs.take n) (l.take n):=
 H.ind (M:=fun vs l=>∀n,cN h P V (vs.take n) (l.take n)) (fun n=>by rw[List.take_nil,List.take_nil];exact .nil) fun x U ih n=>match n with
  |0=>.nil|n+1=>.cons x (ih n)
theorem cN.drop{l:List AV}(H:cN h P V vs l):∀n,cN h P V (vs.drop n) (l.drop n):=
 H.ind (M:=fun vs l=>∀n,cN h P V (vs.drop n) (l.drop n)) (fun n=>by rw[List.drop_nil,List.drop_nil];exact .nil) fun x xs ih n=>match n with
  |0=>.cons x xs|n+1=>ih n
theorem cN.set{l:List AV}(H:cN h P V vs l):∀n {v:Value} {a:AV},VR h P V v a->cN h P V (vs.set n v) (l.set n a):=
 H.ind (M:=fun vs l=>∀n {v:Value} {a:AV},VR h P V v a->cN h P V (vs.set n v) (l.set n a)) (fun U U U U=>.nil) fun x xs ih n U U y=>match n with
  |0=>.cons y xs|n+1=>.cons x (ih n y)
inductive Hw(i:Int):Value->Prop
 |mk (t:Tok):Hw i (.int i t)
inductive Dw(x:List Nat):Value->Prop
 |mk (t:Tok):Dw x (.str ⟨x.toArray⟩ t)
inductive MQ(h:Heap)(P:Addr->Prop)(V:Mu)(l:List AV):Value->Prop
 |mk (a:Addr) (vs:List Value) (h1:IsTup h a vs.toArray) (h2:cN h P V vs l) (hp :¬P a):MQ h P V l (.ref a)
inductive MR(h:Heap)(P:Addr->Prop)(V:Mu)(l:List AV):Value->Prop
 |mk (a:Addr) (vs:List Value) (h1:h.IsList a vs.toArray) (h2:cN h P V vs l) (hp :¬P a):MR h P V l (.ref a)
inductive MS(V:Mu)(i:Nat):Value->Prop
 |mk (p:CA) (e:V[i]?=some p):MS V i (.ref p.ref)
noncomputable def QE(h:Heap)(P:Addr->Prop)(V:Mu)(v:Value):AV->Prop
 |.none=>v = .none|.bool b=>v = .bool b|.int i=>Hw i v|.str x=>Dw x v|.tup l=>MQ h P V l v|.lst l=>MR h P V l v|.ref i=>MS V i v
theorem VR.inv(H:VR h P V v a):QE h P V v a:=
 H.casesOn (motive_1:=fun v a U=>QE h P V v a) rfl (fun U=>rfl) (fun U t=>.mk t) (fun U t=>.mk t) (fun x p xs=>.mk _ _ x xs p) (fun x p xs=>.mk _ _ x xs p) (fun e=>.mk _ e)
theorem VR.int_is{i:Int}(H:VR h P V v (.int i)):Hw i v:=H.inv
theorem VR.str_is(H:VR h P V v (.str x)):Dw x v:=H.inv
theorem VR.tup_is(H:VR h P V v (.tup l)):MQ h P V l v:=H.inv
theorem VR.lst_is(H:VR h P V v (.lst l)):MR h P V l v:=H.inv
theorem VR.i8{i:Nat}(H:VR h P V v (.ref i)):MS V i v:=H.inv
theorem VR.mI(H:VR h P V v .none):v = .none:=H.inv
theorem VR.Ag(H:VR h P V v (.bool b)):v = .bool b:=H.inv
inductive Ah(h:Heap)(P:Addr->Prop)(V:Mu)(a:AV)(l:List AV):List Value->Prop
 |mk (v:Value) (vs:List Value) (x:VR h P V v a) (xs:cN h P V vs l):Ah h P V a l (v::vs)
noncomputable def Kf(h:Heap)(P:Addr->Prop)(V:Mu)(vs:List Value):List AV->Prop
 |[]=>vs=[]|a::l=>Ah h P V a l vs
theorem cN.inv(H:cN h P V vs l):Kf h P V vs l:=
 H.casesOn (motive_2:=fun vs l U=>Kf h P V vs l) rfl fun x xs=>.mk _ _ x xs
theorem cN.kX(H:cN h P V vs (a::l)):Ah h P V a l vs:=H.inv
theorem cN.nil_inv(H:cN h P V vs []):vs=[]:=H.inv
inductive QG(h:Heap)(P:Addr->Prop)(V:Mu)(a:AV):List Value->Prop
 |mk (v:Value) (x:VR h P V v a):QG h P V a [v]
inductive QH(h:Heap)(P:Addr->Prop)(V:Mu)(a b:AV):List Value->Prop
 |mk (v w:Value) (x:VR h P V v a) (y:VR h P V w b):QH h P V a b [v,w]
theorem cN.one(H:cN h P V vs [x]):QG h P V x vs:=by
 induction H.kX with|mk v vs x xs=>?_;obtain rfl:=xs.nil_inv;exact⟨v,x⟩
theorem cN.two(H:cN h P V vs [x,y]):QH h P V x y vs:=by
 induction H.kX with|mk v vs x xs=>?_;induction xs.one with|mk w y=>?_;exact⟨v,w,x,y⟩
end
inductive qQ(h:Heap)(P:Addr->Prop)(V:Mu):List DictEntry->List (List Nat×AV)->Prop
 |nil:qQ h P V [] []|cons {e:DictEntry} {es:List DictEntry} {k:List Nat} {t:Tok} {a:AV} {l:List (List Nat×AV)} :
  e.key = .str ⟨k.toArray⟩ t->VR h P V e.val a->qQ h P V es l->qQ h P V (e::es) ((k,a)::l)
theorem qQ.pass(k:Pass h P V h' P' bT):∀{es:List DictEntry}{l:List (List Nat×AV)},qQ h P V es l->qQ h' P' bT es l:=
 fun H=>H.rec .nil fun e x U ih=>.cons e (x.pass k) ih
inductive pZ(h:Heap)(P:Addr->Prop)(V:Mu):List (Str×Value)->List (List Nat×AV)->Prop
 |nil:pZ h P V [] []|cons {v:Value} {gi:List (Str×Value)} {k:List Nat} {a:AV} {l:List (List Nat×AV)} :
  VR h P V v a->pZ h P V gi l->pZ h P V ((⟨k.toArray⟩,v)::gi) ((k,a)::l)
theorem pZ.pass(k:Pass h P V h' P' bT):∀{es:List (Str×Value)}{l:List (List Nat×AV)},pZ h P V es l->pZ h' P' bT es l:=
 fun H=>H.rec .nil fun x U ih=>.cons (x.pass k) ih
set_option tactic.hygienic true in
theorem pZ.look(H:pZ h P V gi es):assoc k es=some r->MP h P V (valueAt gi (⟨k.toArray⟩:Str)) r:=by
 induction H with
 |nil=>exact fun e=>ak e|@cons v gi n a l x xs ih=>
  intro e;rw[uY]at e
  split at e
  ·rename_i q;obtain rfl:=bE e;subst q;exact⟨_,by simp[valueAt],x⟩
  ·rename_i q;obtain⟨v',h1,h2⟩:=ih e;refine⟨v',?_,h2⟩;have ne:(⟨n.toArray⟩:Str)≠⟨k.toArray⟩:=fun z=>q (by injection z with z;simpa using z)
   unfold valueAt at h1⊢;rw[List.find?_cons_of_neg (by simpa using ne)]
   exact h1
structure GC where
 prog:Program
 w:PySem.World
 K:Frag
 RC:Addr
 SF:Addr
noncomputable def LX(X:Addr->Prop)(V:Mu)(c:aC)(a:Addr):Prop:=X a\/ci V c a
section
variable(G:GC)
inductive QI(h:Heap)(P:Addr->Prop)(V:Mu)(p:CA)(at_:List (List Nat×AV)):Prop
 |mk (ox od:Obj) (es:Array DictEntry) (n:Nat) (h1:InstAt h p.ref ox G.RC (some od)) (h2:ox.dict=some p.own) (h3:ox.data = .plain) (h4 :¬P p.ref) (h5:od.cls = .type "dict") (h6:od.data = .dict es n) (h7:qQ h P V es.toList at_) (h8:at_.length<=100)
noncomputable def fD(h:Heap)(P:Addr->Prop)(V:Mu)(p:CA):Cell->Prop
 |.list l=>p.ref=p.own/\∃vs,nZ h p.own vs.toArray/\cN h P V vs l|.dead l=>VR h P V (.ref p.ref) (.lst l)|.inst at_=>QI G h P V p at_|.dict es=>p.ref=p.own/\∃gi,h.DictOf (strKind G.prog G.w) p.own gi/\pZ h P V gi es
structure Rel(X:Addr->Prop)(h:Heap)(V:Mu)(c:aC):Prop where
 len:V.length=c.length
 apart:∀(i j:Nat) p q x y,V[i]?=some p->V[j]?=some q->c[i]?=some x->c[j]?=some y->x.live=true->y.live=true->i≠j->p.own≠q.own
 fU:∀a,X a->∃o,h.get? a=some o
 eB:∀a,X a->¬ci V c a
 at_:∀(i:Nat) p x,V[i]?=some p->c[i]?=some x->fD G h (LX X V c) V p x
end
structure bq(F:List Addr)(s:Shared)(V:Mu)(c:aC)(s':Shared)(bT:Mu)(c':aC):Prop where
 same:∃h' tk,s'={s with heap:=h',toks:=tk}
 ext:Ext (ci V c) F s.heap s'.heap
 pre:∀(i:Nat) p,V[i]?=some p->bT[i]?=some p
 new:∀b,ci bT c' b->ci V c b\/s.heap.get? b=none
 there:∀b o,s.heap.get? b=some o->∃o',s'.heap.get? b=some o'
theorem bq.refl:bq F s V c s V c:=⟨⟨_,_,rfl⟩,Ext.refl,fun U U e=>e,fun U p=>.inl p,fun U o e=>⟨o,e⟩⟩
theorem bq.ba(k:bq F s V c s' bT c'):Pass s.heap (LX X V c) V s'.heap (LX X bT c') bT:=
 ⟨fun b o e p=>(k.ext b o e fun q=>p (.inr q)).2,fun b q=>q.elim (fun q=>.inl (.inl q)) fun q=>(k.new b q).imp .inr id,k.pre⟩
theorem Ext.trans(x:Ext P F h h')(y:Ext P' F h' ik)(n:∀b,P' b->P b\/h.get? b=none):Ext P F h ik:=by
 intro b o e p;refine Pa (x b o e p) fun x1 sl x2=>?_;have p' :¬P' b:=fun q=>by
  rcases n b q with q|q
  ·exact p q
  ·rw[e]at q;cases q
 refine Pa (y b _ x2 p') fun U PJ y2=>?_;exact⟨fun hf=>(y b o (x1 hf) p').1 hf,PJ,y2⟩
theorem bq.trans(x:bq F s V c s' bT c')(y:bq F s' bT c' tM CD c''):bq F s V c tM CD c'':=by
 refine⟨?_,x.ext.trans y.ext x.new,fun i p e=>y.pre i p (x.pre i p e),fun b q=>?_,fun b o e=>let⟨o',e'⟩:=x.there b o e;y.there b o' e'⟩
 ·refine c6 x.same fun h1 t1 e1=>?_;refine c6 y.same fun h2 t2 e2=>?_;subst e1;exact⟨h2,t2,e2⟩
 ·rcases y.new b q with q|q
  ·exact x.new b q
  ·by_cases hl:ci V c b
   ·exact .inl hl
   ·right;cases e:s.heap.get? b with
    |none=>rfl|some o=>
     refine Pa (x.ext b o e hl) fun U sl e'=>?_;rw[q]at e';exact ak e'
theorem bq.of_keeps{tk:Nat}(k:∀b o,s.heap.get? b=some o->h'.get? b=some o):bq F s V c {s with heap:=h',toks:=tk} V c:=
 ⟨⟨_,_,rfl⟩,Ext.of_keeps k,fun U U e=>e,fun U p=>.inl p,fun b o e=>⟨o,k b o e⟩⟩
theorem bq.tok{tk:Nat}:bq F s V c {s with toks:=tk} V c:=bq.of_keeps (h':=s.heap) fun U U e=>e
section
variable{G:GC}{X:Addr->Prop}
theorem Pass.keeps(k:∀b o,h.get? b=some o->h'.get? b=some o):Pass h P V h' P V:=
 ⟨fun b o e U=>⟨o.slots,k b o e⟩,fun U p=>.inl p,fun U U e=>e⟩
theorem mJ(I:InstAt h x ox C od)(k:∀b o,h.get? b=some o->h'.get? b=some o):InstAt h' x ox C od:=by
 obtain⟨a,b,c,d⟩:=I;refine⟨k _ _ a,b,c,?_⟩;generalize ox.dict=dd at d⊢;cases dd<;>cases od<;>first|exact k _ _ d|exact d
theorem fD.keeps(k:∀b o,h.get? b=some o->h'.get? b=some o)(H:fD G h P V p x):fD G h' P V p x:=by
 cases x with
 |list l=>refine eP H fun e vs h1 z=>?_;exact⟨e,vs,h1.keeps (k _),z.pass (Pass.keeps k)⟩|dead l=>exact VR.pass (Pass.keeps k) H|inst at_=>obtain⟨ox,od,es,n,I,e1,e2,e3,e4,e5,z,z2⟩:=H;exact⟨ox,od,es,n,mJ I k,e1,e2,e3,e4,e5,z.pass (Pass.keeps k),z2⟩
 |dict es=>refine eP H fun e gi d z=>?_;exact⟨e,gi,d.keep k,z.pass (Pass.keeps k)⟩
theorem fD.own(H:fD G h P V p x)(hl:x.live=true):∃o,h.get? p.own=some o:=by
 cases x with
 |list l=>refine eP H fun e vs nc z=>?_;obtain⟨n,sl,ho⟩:=nc;exact⟨_,ho⟩
 |dead l=>exact eK hl|inst at_=>
  obtain⟨ox,od,es,n,I,e1,_⟩:=H;have:=I.dict;rw[e1]at this;exact⟨_,this⟩
 |dict es=>refine eP H fun e gi d z=>?_;rw[Heap.dictOf_iff]at d;obtain⟨o,ho,_⟩:=d;exact⟨o,ho⟩
theorem Rel.keeps(R:Rel G X h V c)(k:∀b o,h.get? b=some o->h'.get? b=some o):Rel G X h' V c:=by
 refine⟨R.len,R.apart,fun a q=>?_,R.eB,fun i p x e e'=>(R.at_ i p x e e').keeps k⟩;obtain⟨o,ho⟩:=R.fU a q;exact⟨o,k _ _ ho⟩
theorem Rel.fresh(R:Rel G X h V c)(e:h.get? a=none) :¬LX X V c a:=by
 rintro(q|⟨i,p,x,h1,h2,h3,rfl⟩)
 ·obtain⟨o,ho⟩:=R.fU a q;rw[e]at ho;exact ak ho
 ·obtain⟨o,ho⟩:=(R.at_ i p x h1 h2).own h3;rw[e]at ho;exact ak ho
end
inductive MT(G:GC)(B:Heap)(l:List Env)(e:Addr)(h:Heap):Prop
 |mk (f1:B.StaysIn h) (f2:B.get? e=none) (f3:h.FunFrames B l) (oe:Obj) (vs:Array Value) (a0:Value) (h1:h.get? e=some oe) (h2:oe.cls = .ref G.SF) (h3:oe.data = .fields vs) (h4:vs[1]?=some .none) (h5:vs[0]?=some a0)
noncomputable def Ai(G:GC)(m:Bool)(B:Heap)(l:List Env)(e:Addr)(h:Heap):Prop:=match m with
 |true=>MT G B l e h|false=>(∃a0,Heap.FlyingW B l e (.ref G.SF) a0 h)\/∃aA outer L a0,l=aA::outer/\aA.frame=some L/\Heap.HeldW B l e (.ref G.SF) a0 L h
noncomputable abbrev bz(l:List Env):List Addr:=l.filterMap (·.frame)
inductive QJ{α Z:Type}(G:GC)(X:Addr->Prop)(F:List Addr)(Rl:Heap->(Addr->Prop)->Mu->Z->α->Prop)(s:Shared)(V:Mu)(c:aC)(o:aD α)(v:Z)(s':Shared):Prop
 |mk (x:α) (c':aC) (bT:Mu) (h1:o = .ok x c') (h2:bq F s V c s' bT c') (h3:Rel G X s'.heap bT c') (h4:Rl s'.heap (LX X bT c') bT v x)
noncomputable abbrev CE(G:GC)(X:Addr->Prop)(F:List Addr)(s:Shared)(V:Mu)(c:aC)(o:aD AV):Value->Shared->Prop:=QJ G X F VR s V c o
noncomputable abbrev UC(G:GC)(X:Addr->Prop)(F:List Addr)(s:Shared)(V:Mu)(c:aC)(o:aD (List AV)):List Value->Shared->Prop:=QJ G X F cN s V c o
noncomputable abbrev QK(_:Heap)(_:Addr->Prop)(_:Mu)(b x:Bool):Prop:=b=x
noncomputable abbrev UD(G:GC)(X:Addr->Prop)(F:List Addr)(s:Shared)(V:Mu)(c:aC)(o:aD Bool):Bool->Shared->Prop:=QJ G X F QK s V c o
inductive Exc{α:Type}(G:GC)(X:Addr->Prop)(l:List Env)(s:Shared)(V:Mu)(c:aC)(o:aD α)(e:Value)(s':Shared):Prop
 |mk (m:Bool) (c':aC) (bT:Mu) (ea:Addr) (h1:o = .exc m c') (h2:e = .ref ea) (h3:bq (bz l) s V c s' bT c') (B:Heap) (h4:Ai G m B l ea s'.heap) (h5:Rel G X B bT c')
  (h6:∀b o,s.heap.get? b=some o->¬ci V c b->b∉bz l->B.get? b=some o) (h7:∀b o,s.heap.get? b=some o->b∉bz l->∃o',B.get? b=some o')
theorem Exc.lift{α Z:Type}{o:aD α}{o':aD Z}{e:Value}{s':Shared}
  (k:bq (bz l) s V c aT aR a8) (x:Exc G X l aT aR a8 o e s') (h:∀m c',o = .exc m c'->o' = .exc m c'):Exc G X l s V c o' e s':=by
 obtain⟨m,c',bT,ea,h1,h2,h3,B,h4,h5,h6,h7⟩:=x;refine⟨m,c',bT,ea,h _ _ h1,h2,k.trans h3,B,h4,h5,fun b o e n f=>h6 b o ((k.ext b o e n).1 f) (fun q=>?_) f,fun b o e f=>let⟨o',e'⟩:=k.there b o e;h7 b o' e' f⟩;rcases k.new b q with q|q
 ·exact n q
 ·rw[e]at q;cases q
noncomputable def lR(h:Heap)(a:Addr):Prop:=∃o,h.get? a=some o/\(∀xs n,o.data≠.seq xs n)/\o.data≠.plain
structure n3(G:GC)(A:Around)(B:Heap)(l:List Env)(h:Heap)(V:Mu)(c:aC):Prop where
 frames:A.frames=some l
 handled:A.handled=none
 jm:h.FunFrames B l
 base:B.StaysIn h
 bl:∀b,ci V c b->B.get? b=none
 nl:∀b∈bz l,¬ci V c b
 odd:∀b∈bz l,lR h b
theorem n3.step(S:n3 G A B l s.heap V c)(k:bq (bz l) s V c s' bT c'):n3 G A B l s'.heap bT c':=by
 have fb:∀b,s.heap.get? b=none->B.get? b=none:=fun b e=>by
  cases q:B.get? b with
  |none=>rfl|some o=>have:=S.base b o q;rw[e]at this;exact ak this
 refine⟨S.frames,S.handled,?_,fun b o e=>?_,fun b q=>?_,fun b hb q=>?_,fun b hb=>let⟨o,e,z⟩:=S.odd b hb;let⟨sl,e'⟩:=(k.ext b o e (S.nl b hb)).2;⟨_,e',z⟩⟩
 ·have:∀l':List Env,(∀b∈bz l',b∈bz l)->s.heap.FunFrames B l'->s'.heap.FunFrames B l':=by
   intro l';induction l' with
   |nil=>intro _ _;trivial|cons aA r ih=>
    intro hs hf;refine cH hf fun hk nc hr=>?_;refine KZ nc fun L o Hx hn ho hd=>?_;have hL:L∈bz l:=hs L (by simp[Hx])
    refine Pa (k.ext L o ho (S.nl L hL)) fun U sl e=>?_;exact⟨hk,⟨L,_,Hx,hn,e,hd⟩,ih (fun b hb=>hs b (by
     simp only[List.filterMap_cons,Hx];exact dO _ hb)) hr⟩
  exact this l (fun U hb=>hb) S.jm
 ·have hl :¬ci V c b:=fun q=>by rw[S.bl b q]at e;exact ak e
  exact(k.ext b o (S.base b o e) hl).1 fun hf=>by rw[(S.jm.mem hf).1]at e;exact ak e
 ·rcases k.new b q with q|q
  ·exact S.bl b q
  ·exact fb b q
 ·rcases k.new b q with q|q
  ·exact S.nl b hb q
  ·refine eP (S.jm.mem hb) fun U o ho U=>?_;rw[q]at ho;exact ak ho
noncomputable def tO(aA:Env)(h:Heap)(P:Addr->Prop)(m:Str->Option Value)(nm:Str)(w:Value):Prop:=
 (aA.kindOf nm=some .local/\m nm=some w)\/
 ((aA.kindOf nm=some .cell\/aA.kindOf nm=some .free)/\∃a o,aA.cells.lookup nm=some a/\h.get? a=some o/\o.data = .cell (some w)/\¬P a)
structure Lo(aA:Env)(aB:List Str)(J:Loc)(h:Heap)(P:Addr->Prop)(V:Mu)(m:Str->Option Value):Prop where
 ns:h.Ns aA.locals m
 nl :¬P aA.locals
 var:∀(x:Nat) v,J[x]?=some (some v)->∃nm w,aB[x]?=some nm/\tO aA h P m nm w/\VR h P V w v
theorem Lo.pass(D:Lo aA aB J h P V m)(k:Pass h P V h' P' bT):Lo aA aB J h' P' bT m:=by
 obtain⟨⟨o,es,ep,ho,hd,r⟩,nl,var⟩:=D;obtain⟨sl,e⟩:=k.ext _ o ho nl;refine⟨⟨_,es,ep,e,hd,r⟩,k.s9 ho nl,fun x v hx=>?_⟩;refine ip (var x v hx) fun nm w h1 h2 h3=>?_;refine⟨nm,w,h1,?_,h3.pass k⟩;rcases h2 with h2|⟨h2,a,o',ha,om,qR,hp⟩
 ·exact .inl h2
 ·obtain⟨PJ,e'⟩:=k.ext _ o' om hp;exact .inr ⟨h2,a,_,ha,e',qR,k.s9 om hp⟩
structure UE(aA:Env):Prop where
 kind:aA.scope.kind = .function
 glob:aA.globals=mainGlobals
 bi:aA.builtins=builtinsNs
inductive VD(h:Heap)(P:Addr->Prop)(V:Mu):Value->AV->Prop
 |of {v:Value} {a:AV}:VR h P V v a->VD h P V v a|lst {a:Addr} {vs:List Value} {l:List AV}:h.IsList a vs.toArray->cN h P V vs l->VD h P V (.ref a) (.lst l)
set_option tactic.hygienic true in
theorem dK(R:Rel G X h V c)(H:VR h (LX X V c) V v x):VD h (LX X V c) V v (c7 c x):=by
 cases H with
 |ref e=>
  rename_i i p;unfold c7;dsimp only;have hl:i<c.length:=by rw[<-R.len];exact(dg.mp e).1
  have hx:c[i]?=some c[i]:=List.getElem?_eq_getElem hl;have H:=R.at_ i p _ e hx;rw[hx];cases q:c[i]with
  |list l=>rw[q]at H;refine eP H fun e1 vs h1 h2=>?_;rw[e1];exact .lst h1.isList h2|dead l=>rw[q]at H;exact .of H|inst=>exact .of (.ref e)|dict=>exact .of (.ref e)
 |none=>exact .of .none|bool b=>exact .of (.bool b)|int i t=>exact .of (.int i t)|str l t=>exact .of (.str l t)|tup a b d=>exact .of (.tup a b d)|lst a b d=>exact .of (.lst a b d)
mutual
noncomputable def pd:AV->PyData
 |.none=>.none|.bool b=>.bool b|.int i=>.int i|.str s=>.str ⟨s.toArray⟩|.tup l=>.tuple (u5 l)|.lst l=>.list (u5 l)|.ref U=>.none
noncomputable def u5:List AV->List PyData
 |[]=>[]|a::l=>pd a::u5 l
end
theorem QM a l:u5 (a::l)=pd a::u5 l:=rfl
theorem UF l:pd (AV.tup l)=PySem.PyData.tuple (u5 l):=rfl
section
variable{h:Heap}{P:Addr->Prop}{V:Mu}
inductive QN(h:Heap)(v:Value)(d:PyData):Prop
 |mk (as:_) (q:Reads h v d as)
inductive Dx(h:Heap)(vs:List Value)(d:List PyData):Prop
 |mk (as:_) (q:ReadsAll h vs d as)
theorem CF(ht:IsTup h a vs.toArray)(r:Dx h vs d):QN h (.ref a) (.tuple d):=by
 obtain⟨as,q⟩:=r;refine lw ht fun o ho hc n hd=>?_;exact⟨as,Reads.tuple ho hc hd (by simpa using q)⟩
theorem tP(ht:h.IsList a vs.toArray)(r:Dx h vs d):QN h (.ref a) (.list d):=by
 obtain⟨as,q⟩:=r;refine lw ht fun o ho hc n hd=>?_;exact⟨_,Reads.list ho hc hd (by simpa using q)⟩
theorem VR.reads(H:VR h P V v a):∀k:Nat,plain k a=true->QN h v (pd a):=
 H.rec (motive_1:=fun v a U=>∀k:Nat,plain k a=true->QN h v (pd a)) (motive_2:=fun vs l U=>∀k:Nat,az k l=true->Dx h vs (u5 l))
  (fun U U=>⟨_,Reads.none⟩) (fun b U U=>⟨_,Reads.bool b⟩) (fun i t U U=>⟨_,Reads.int i t⟩) (fun l t U U=>⟨_,Reads.str _ t⟩)
  (fun ht U U ih k hk=>match k,hk with
   |0,hk=>eK hk|k+1,hk=>CF ht (ih k hk))
  (fun ht U U ih k hk=>match k,hk with
   |0,hk=>eK hk|k+1,hk=>tP ht (ih k hk))
  (fun U k hk=>match k,hk with
   |0,hk=>eK hk|U+1,hk=>eK hk)
  (fun U U=>⟨_,ReadsAll.nil⟩)
  fun U U i1 i2 k hk=>let⟨_,q⟩:=i1 k ((be _ _).mp hk).1;let⟨_,p⟩:=i2 k ((be _ _).mp hk).2;⟨_,ReadsAll.cons q p⟩
theorem cN.reads(H:cN h P V vs l):∀k:Nat,az k l=true->Dx h vs (u5 l):=
 H.ind (M:=fun vs l=>∀k:Nat,az k l=true->Dx h vs (u5 l)) (fun U U=>⟨_,ReadsAll.nil⟩)
  fun x U i2 k hk=>let⟨_,q⟩:=x.reads k ((be _ _).mp hk).1;let⟨_,p⟩:=i2 k ((be _ _).mp hk).2;⟨_,ReadsAll.cons q p⟩
theorem VD.reads(H:VD h P V v a)(k:Nat)(hk:plain k a=true):QN h v (pd a):=by
 cases H with
 |of H=>exact H.reads k hk|lst ht r=>cases k with
  |zero=>exact eK hk|succ k=>exact tP ht (r.reads k hk)
end
inductive UG(k:Nat)(d:PyData):Prop
 |mk (h1:d.canLay0=true) (h2:d.depth<=k)
inductive QO(k:Nat)(d:List PyData):Prop
 |mk (h1:PyData.canLayAll0 d=true) (h2:PyData.depthAll d<=k)
mutual
theorem jn:∀(k:Nat)(a:AV),plain k a=true->UG k (pd a)
 |k,.none,U=>⟨rfl,Nat.zero_le _⟩|k,.bool b,U=>⟨rfl,Nat.zero_le _⟩|k,.int i,U=>⟨rfl,Nat.zero_le _⟩|k,.str s,hk=>by
  have hs:s.all (·<1114112)=true:=by cases k<;>exact hk
  refine⟨?_,Nat.zero_le _⟩;show PyData.strOk ⟨s.toArray⟩=true;unfold PyData.strOk;simpa using hs
 |0,.tup l,hk=>eK hk|0,.lst l,hk=>eK hk|k,.ref U,hk=>by cases k<;>exact eK hk
 |k+1,.tup l,hk=>let⟨a,b⟩:=p8 k l hk;⟨a,Nat.succ_le_succ b⟩|k+1,.lst l,hk=>let⟨a,b⟩:=p8 k l hk;⟨a,Nat.succ_le_succ b⟩
theorem p8:∀(k:Nat)(l:List AV),az k l=true->QO k (u5 l)
 |k,[],U=>⟨rfl,Nat.zero_le _⟩|k,a::l,hk=>let⟨a1,a2⟩:=jn k a ((be _ _).mp hk).1;let⟨b1,b2⟩:=p8 k l ((be _ _).mp hk).2;⟨(be _ _).mpr ⟨a1,b1⟩,Nat.max_le.mpr ⟨a2,b2⟩⟩
end
theorem str_beq(x y:List Nat):((⟨x.toArray⟩:Str)==⟨y.toArray⟩)=(x==y):=by
 rw[Bool.eq_iff_iff,beq_iff_eq,beq_iff_eq];constructor
 ·intro h;injection h with h;simpa using h
 ·rintro rfl;rfl
theorem ft{k i:Nat}{P:Prop}(h:plain k (.ref i)=true):P:=by cases k<;>exact eK h
mutual
theorem u6:∀(k j:Nat)(a b:AV),plain k a=true->plain j b=true->PyData.eqv (pd a) (pd b)=eqB a b
 |0,j,.tup x,U,ha,hb=>eK ha|0,j,.lst x,U,ha,hb=>eK ha|k+1,j,.tup x,b,ha,hb=>by
  cases b with
  |tup y=>cases j with
   |zero=>exact eK hb|succ j=>exact u7 k j x y ha hb
  |ref i=>exact ft hb|_=>rfl
 |k+1,j,.lst x,b,ha,hb=>by
  cases b with
  |lst y=>cases j with
   |zero=>exact eK hb|succ j=>exact u7 k j x y ha hb
  |ref i=>exact ft hb|_=>rfl
 |k,j,.str x,b,U,hb=>by
  cases b with
  |str y=>exact str_beq x y|ref i=>exact ft hb|_=>rfl
 |k,j,.ref U,b,ha,bG=>ft ha|k,j,.none,b,U,hb=>by cases b<;>first|rfl|exact ft hb
 |k,j,.bool U,b,bG,hb=>by cases b<;>first|rfl|exact ft hb
 |k,j,.int U,b,bG,hb=>by cases b<;>first|rfl|exact ft hb
theorem u7:∀(k j:Nat)(a b:List AV),az k a=true->az j b=true->PyData.eqvAll (u5 a) (u5 b)=oj a b
 |U,bG,[],[],dy,lP=>rfl|U,bG,[],dy::lP,wO,He=>rfl|U,bG,dy::lP,[],wO,He=>rfl|k,j,a::l,b::m,ha,hb=>by
  have ha:=(be _ _).mp ha;have hb:=(be _ _).mp hb;show(PyData.eqv (pd a) (pd b)&&PyData.eqvAll (u5 l) (u5 m))=(eqB a b&&oj l m);rw[u6 k j a b ha.1 hb.1,u7 k j l m ha.2 hb.2]
end
theorem u8(j:Nat)(a:AV)(k:Nat)(ha:plain k a=true):∀l:List AV,az j l=true->((u5 l).any fun y=>PyData.eqv y (pd a))=l.any fun b=>eqB b a
 |[],U=>rfl|b::l,h=>by
  have h:=(be _ _).mp h;rw[QM,List.any_cons,List.any_cons,u6 j k b a h.1 ha,u8 j a k ha l h.2]
inductive Kept(s s':Shared):Prop
 |mk (h':Heap) (tk:Nat) (h1:s'={s with heap:=h',toks:=tk}) (h2:∀b o,s.heap.get? b=some o->h'.get? b=some o)
theorem Kept.refl:Kept s s:=⟨_,_,rfl,fun U U e=>e⟩
theorem Kept.tok{tk:Nat}:Kept s {s with toks:=tk}:=⟨s.heap,tk,rfl,fun U U e=>e⟩
section
variable{G:GC}{A:Around}{E:Value->Shared->Prop}{s:Shared}{P:Addr->Prop}{V:Mu}
theorem Aj{m n:Nat}(hu:A.units+64<cLine)(hm:m<=aw):A.units+min m n<cLine:=by
 unfold aw at hm;have:=Nat.min_le_left m n;omega
inductive Dy:AV->AV->Bool->Prop
 |str (x y:List Nat):Dy (.str x) (.str y) (x==y)|int (x y:Int):Dy (.int x) (.int y) (x==y)|any (a b:AV) (ha:plain aw a=true) (hb:plain aw b=true):Dy a b (eqB a b)
theorem u9(e:(if plain aw a&&plain aw b then some (eqB a b) else none)=some r):Dy a b r:=by
 induction fg e with|mk q=>?_;exact .any _ _ ((be _ _).mp q).1 ((be _ _).mp q).2
theorem Kg(e:eqv a b=some r):Dy a b r:=by
 cases a with
 |str x=>cases b with
  |str y=>obtain rfl:=bE e;exact .str x y
  |_=>exact u9 e
 |int x=>cases b with
  |int y=>obtain rfl:=bE e;exact .int x y
  |_=>exact u9 e
 |_=>exact u9 e
theorem VD.int_inv{i:Int}(H:VD h P V v (.int i)):Hw i v:=by cases H with|of H=>exact H.int_is
theorem VD.str_inv(H:VD h P V v (.str x)):Dw x v:=by cases H with|of H=>exact H.str_is
theorem MU(ha:VD s.heap P V va a)(hb:VD s.heap P V vb b)(e:eqv a b=some r)(hu:A.units+64<cLine)(h:Q (.bool r) s) :
  wpAny (model G.prog G.w) A (compareOp .Eq va vb) Q E s:=by
 cases Kg e with
 |str x y=>induction ha.str_inv;induction hb.str_inv;exact eq_str (by rw[str_beq];exact h)
 |int x y=>induction ha.int_inv;induction hb.int_inv;exact eq_int h|any U bG qa qb=>
  obtain⟨as,ra⟩:=ha.reads _ qa;obtain⟨bs,rb⟩:=hb.reads _ qb;exact SeqAt.compareEq_reads ra rb (jn _ _ qa).1 (jn _ _ qb).1 (Aj hu (jn _ _ qa).2) (by rw[u6 _ _ _ _ qa qb];exact h)
theorem MV(ha:VD s.heap P V va a)(hb:VD s.heap P V vb b)(e:eqv a b=some r)(hu:A.units+64<cLine)(h:Q (.bool (!r)) s) :
  wpAny (model G.prog G.w) A (compareOp .NotEq va vb) Q E s:=by
 cases Kg e with
 |str x y=>induction ha.str_inv;induction hb.str_inv;exact ne_str (by rw[bne,str_beq];exact h)
 |int x y=>induction ha.int_inv;induction hb.int_inv;exact ne_int h|any U bG qa qb=>
  obtain⟨as,ra⟩:=ha.reads _ qa;obtain⟨bs,rb⟩:=hb.reads _ qb;exact SeqAt.compareNe_reads ra rb (jn _ _ qa).1 (jn _ _ qb).1 (Aj hu (jn _ _ qa).2) (by rw[u6 _ _ _ _ qa qb];exact h)
theorem wg:∀(x y:List Nat),wZ x y=!(decide (y<x))
 |[],y=>by
  have :¬y<[]:=List.not_lt_nil y;rw[eO this];cases y<;>rfl
 |a::l,[]=>by rw[decide_eq_true (List.nil_lt_cons a l)];rfl
 |a::l,b::m=>by
  (refine .trans (Hm ..)<|?_;rw[wg l m])
  by_cases h1:a<b
  ·have h2 :¬b<a:=by omega
   have h3 :¬b=a:=by omega
   simp[h1,List.cons_lt_cons_iff,h2,h3]
  ·by_cases h2:a=b
   ·subst h2;simp[List.cons_lt_cons_iff]
   ·have h3:b<a:=by omega
    simp[h1,h2,List.cons_lt_cons_iff,h3]
theorem tQ(ha:VD s.heap P V v a)(e:isNone a=some r):(v == .none)=r:=by
 cases ha with
 |lst=>exact bE e|of H=>cases a with
  |none=>cases H.mI;exact bE e|bool b=>cases H.Ag;exact bE e|int i=>induction H.int_is;exact bE e|str x=>induction H.str_is;exact bE e|tup l=>induction H.tup_is;exact bE e|lst l=>induction H.lst_is;exact bE e|ref i=>induction H.i8;exact bE e
end
noncomputable def QP:yl->Operator
 |.add=>.Add| .sub=>.Sub| .mul=>.Mult| .mod=>.Mod| .pow=>.Pow| .fdiv=>.FloorDiv
noncomputable def QQ:Hd->CmpOp
 |.eq=>.Eq| .ne=>.NotEq| .lt=>.Lt| .le=>.LtE| .gt=>.Gt| .ge=>.GtE| .is=>.Is| .wW=>.IsNot| .nW=>.In| .oS=>.NotIn
noncomputable def jo(o:yl)(po:Operator):Bool:=decide (po=QP o)
noncomputable def ir(o:Hd)(po:CmpOp):Bool:=decide (po=QQ o)
noncomputable def Ak(P:Addr->Prop)(V:Mu)(s:Shared)(r:AV):Value->Shared->Prop:=fun v s'=>Kept s s'/\VR s'.heap P V v r
section
variable{G:GC}{A:Around}{E:Value->Shared->Prop}{s:Shared}{P:Addr->Prop}{V:Mu}
theorem dX:aJ<=sizeLine:=by rw[sizeLine_eq];decide
theorem p9(x y:List Nat):((⟨x.toArray⟩:Str)++(⟨y.toArray⟩:Str))=⟨(x++y).toArray⟩:=by
 show Str.append _ _=_;unfold Str.append;simp
theorem str_len(x:List Nat):(⟨x.toArray⟩:Str).length=x.length:=by simp[Str.length]
inductive QR(h:Heap)(P:Addr->Prop)(V:Mu)(l:List AV):Value->Prop
 |mk (a:Addr) (vs:List Value) (h1:IsTup h a vs.toArray) (h2:cN h P V vs l):QR h P V l (.ref a)
inductive QS(h:Heap)(P:Addr->Prop)(V:Mu)(l:List AV):Value->Prop
 |mk (a:Addr) (vs:List Value) (h1:h.IsList a vs.toArray) (h2:cN h P V vs l):QS h P V l (.ref a)
theorem VD.ua(H:VD h P V v (.tup l)):QR h P V l v:=by
 cases H with|of H=>induction H.tup_is with|mk a vs h1 h2 _=>?_;exact⟨a,vs,h1,h2⟩
theorem VD.lst_inv(H:VD h P V v (.lst l)):QS h P V l v:=by
 cases H with
 |of H=>induction H.lst_is with|mk a vs h1 h2 _=>?_;exact⟨a,vs,h1,h2⟩
 |lst h1 h2=>exact⟨_,_,h1,h2⟩
theorem CG(hP:∀a,P a->∃o,s.heap.get? a=some o) :¬P s.heap.objs.size:=fun q=>by
 obtain⟨o,ho⟩:=hP _ q;exact aX (Heap.lt_size ho) (Nat.lt_irrefl _)
theorem qT{y:Int}(h0:0<y)(h1:y<=aJ):(y==0)=false/\y.natAbs.log2 / 30=0:=by
 refine⟨by rw[beq_eq_false_iff_ne];omega,Nat.div_eq_of_lt ?_⟩
 by_cases hz:y.natAbs=0
 ·rw[hz];decide
 ·exact(Nat.log2_lt hz).mpr (by unfold aJ at h1;omega)
theorem tR{x y:Int}(h0:0<y)(h1:y<=aJ):Builtin.divisionGoesByPylong x y=false:=by
 unfold Builtin.divisionGoesByPylong;simp[(qT h0 h1).1,(qT h0 h1).2]
theorem mul_fits{x y:Int}(q:x.natAbs<=aJ/\y.natAbs<=aJ):IntMulOk x y:=by
 unfold IntMulOk;have h1:Builtin.Int.intBits x<=64:=intBits_le_64 (by unfold aJ at q;omega) (by unfold aJ at q;omega)
 have h2 :¬Builtin.Int.intBits x>shortFactorBits:=by unfold shortFactorBits;omega
 rw[eO h2];simp
theorem Dz(h1:s.heap.IsList a1 vs.toArray)(h2:cN s.heap P V vs x)(h3:s.heap.IsList b1 ws.toArray)(h4:cN s.heap P V ws y)(q:x.length+y.length<=aJ)(hP:∀a,P a->∃o,s.heap.get? a=some o) :
  wpAny (model G.prog G.w) A (binaryOp .Add (.ref a1) (.ref b1)) (Ak P V s (.lst (x++y))) E s:=by
 refine lw (id h1) fun nc ho hc n hd=>?_;obtain⟨cls,dd,data,sl⟩:=nc;refine lw (id h3) fun nc Wf Wg n2 hd2=>?_;obtain⟨EA,UH,data2,Kh⟩:=nc;simp only at hc hd Wg hd2;subst hc hd Wg hd2;have e':vs.toArray++ws.toArray=(vs++ws).toArray:=by simp
 refine concat_meets ⟨_,ho,rfl⟩ ⟨_,Wf,rfl⟩ noFill_list_add seq_list_add PySem.F.slot_list_add PySem.F.entry_list_add (PySem.F.args_list_add_2 _ _) (list_addW a1 b1 vs.toArray ws.toArray n n2 dd UH sl Kh (by
  simp only[List.size_toArray];rw[h2.length,h4.length];exact cY q dX)) ⟨ho,Wf,?_⟩
 rw[e'];have k:∀b o,s.heap.get? b=some o->(s.heap.push {cls:=Value.type "list",data:=Data.seq (vs++ws).toArray}).get? b=some o:=fun b o e=>fQ _ e;exact⟨⟨_,_,rfl,k⟩,.lst ⟨_,ez _ rfl,rfl,_,rfl⟩ (CG hP) ((h2.append h4).pass (Pass.keeps k))⟩
theorem EB(ho:jo o po=true){a b r:AV}(ha:VD s.heap P V va a)(hb:VD s.heap P V vb b)(e:binop o a b=some r)(hP:∀a,P a->∃o,s.heap.get? a=some o) :
  wpAny (model G.prog G.w) A (binaryOp po va vb) (Ak P V s r) E s:=by
 obtain rfl:=of_decide_eq_true ho;cases o with
 |add=>
  cases a with
  |int x=>
   induction gb e with|mk y e=>?_;induction ha.int_inv with|mk t=>?_
   induction hb.int_inv with|mk u=>?_;obtain rfl:=bE e
   exact add_int ⟨.tok,.int _ _⟩
  |str x=>
   induction yq e with|mk y e=>?_;induction ha.str_inv with|mk t=>?_
   induction hb.str_inv with|mk u=>?_;induction fg e with|mk q=>?_
   refine add_str (fun t' tk=>⟨Kept.tok,?_⟩) (by rw[str_len,str_len];exact cY q dX)
   rw[p9];exact .str _ _
  |lst x=>
   induction Pu e with|mk y e=>?_;induction ha.lst_inv with|mk a1 vs h1 h2=>?_
   induction hb.lst_inv with|mk b1 ws h3 h4=>?_;induction fg e with|mk q=>?_
   exact Dz h1 h2 h3 h4 q hP
  |_=>exact ak e
 |sub=>
  induction gb e with|mk x e=>?_;induction gb e with|mk y e=>?_
  induction ha.int_inv with|mk t=>?_;induction hb.int_inv with|mk u=>?_
  obtain rfl:=bE e;exact sub_int ⟨.tok,.int _ _⟩
 |mul=>
  cases a with
  |int x=>
   induction gb e with|mk y e=>?_;induction ha.int_inv with|mk t=>?_
   induction hb.int_inv with|mk u=>?_;induction fg e with|mk q=>?_
   exact mul_int ⟨.tok,.int _ _⟩ (mul_fits q)
  |str x=>
   induction gb e with|mk y e=>?_;induction ha.str_inv with|mk t=>?_
   induction hb.int_inv with|mk u=>?_;induction fg e with|mk q=>?_
   subst q;exact PySem.P.mul_str_none (by decide) (by decide) ⟨.tok,.str [] _⟩
  |_=>exact ak e
 |mod=>
  induction gb e with|mk x e=>?_;induction gb e with|mk y e=>?_
  induction ha.int_inv with|mk t=>?_;induction hb.int_inv with|mk u=>?_
  induction fg e with|mk q=>?_;refine mod_int' (by omega) ⟨.tok,?_⟩
  rw[Int.fmod_eq_emod_of_nonneg _ (by omega)];exact .int _ _
 |fdiv=>
  induction gb e with|mk x e=>?_;induction gb e with|mk y e=>?_
  induction ha.int_inv with|mk t=>?_;induction hb.int_inv with|mk u=>?_
  induction fg e with|mk q=>?_;refine floordiv_int (by omega) ⟨.tok,?_⟩ (.inl (tR q.1 q.2))
  rw[Int.fdiv_eq_ediv_of_nonneg _ (by omega)];exact .int _ _
 |pow=>
  induction gb e with|mk x e=>?_;induction gb e with|mk y e=>?_
  induction ha.int_inv with|mk t=>?_;induction hb.int_inv with|mk u=>?_
  induction fg e with|mk q=>?_;subst q
  refine PyProof.Rows.pow_int (by decide) (by simp) ⟨.tok,?_⟩
  rw[show Int.toNat 0=0 from rfl,Int.pow_zero]
  exact .int _ _
theorem EC(ha:VD s.heap P V va (.str x))(hb:VD s.heap P V vb (.tup l))(q1:plain aw (.str x)=true)(q2:az aw l=true)(hu:A.units+64<cLine) :
  ∃as bs,Reads s.heap va (pd (.str x)) as/\Reads s.heap vb (.tuple (u5 l)) bs/\(pd (.str x)).canLay0=true/\PyData.canLayAll0 (u5 l)=true/\A.units+1+min (PyData.depthAll (u5 l)) (pd (.str x)).depth<cLine:=by
 obtain⟨as,ra⟩:=ha.reads _ q1;have ht:plain (aw+1) (.tup l)=true:=by refine .trans (gN ..)<|?_;exact q2
 obtain⟨bs,rb⟩:=hb.reads _ ht;have la:=jn _ _ q1;have lb:=p8 _ _ q2;rw[UF]at rb;refine⟨as,bs,ra,rb,la.1,lb.1,?_⟩;have:=Nat.min_le_right (PyData.depthAll (u5 l)) (pd (.str x)).depth;have h0:=la.2;unfold aw at h0;omega
theorem iu(ho:ir o po=true)(ha:VD s.heap P V va a)(hb:VD s.heap P V vb b)(e:dz o a b=some r)(hu:A.units+64<cLine)(h:Q (.bool r) s) :
  wpAny (model G.prog G.w) A (compareOp po va vb) Q E s:=by
 obtain rfl:=of_decide_eq_true ho;cases o with
 |eq=>exact MU ha hb e hu h|ne=>
  induction i7 e with|mk r' hr=>?_;exact MV ha hb hr hu h
 |lt=>
  induction gb e with|mk x e=>?_;induction gb e with|mk y e=>?_
  induction ha.int_inv with|mk t=>?_;induction hb.int_inv with|mk u=>?_
  obtain rfl:=bE e;exact lt_int h
 |le=>
  cases a with
  |int x=>
   induction gb e with|mk y e=>?_;induction ha.int_inv with|mk t=>?_
   induction hb.int_inv with|mk u=>?_;obtain rfl:=bE e
   exact le_int h
  |str x=>
   induction yq e with|mk y e=>?_;induction ha.str_inv with|mk t=>?_
   induction hb.str_inv with|mk u=>?_;obtain rfl:=bE e
   refine PySem.P.le_str ?_;simpa[wg]using h
  |_=>exact ak e
 |gt=>
  induction gb e with|mk x e=>?_;induction gb e with|mk y e=>?_
  induction ha.int_inv with|mk t=>?_;induction hb.int_inv with|mk u=>?_
  obtain rfl:=bE e;exact gt_int h
 |ge=>
  induction gb e with|mk x e=>?_;induction gb e with|mk y e=>?_
  induction ha.int_inv with|mk t=>?_;induction hb.int_inv with|mk u=>?_
  obtain rfl:=bE e;exact ge_int h
 |is=>
  obtain⟨rfl,e⟩:=D8 e;cases hb with|of hb=>cases hb.mI;exact is_none (by rw[tQ ha e];exact h)
 |wW=>
  obtain⟨rfl,e⟩:=D8 e;induction i7 e with|mk r' hr=>?_
  cases hb with|of hb=>cases hb.mI;exact isNot_none (by rw[tQ ha hr];exact h)
 |nW=>
  induction yq e with|mk x e=>?_;induction ha.str_inv with|mk t=>?_
  cases b with
  |str y=>
   induction PI e with|mk x e=>?_;induction hb.str_inv with|mk u=>?_
   obtain rfl:=bE e;refine PySem.P.in_str ?_;rw[show(⟨[_].toArray⟩:Str)=⟨#[_]⟩ from rfl,StrLaws.found_one]
   simpa using h
  |tup l=>
   induction fg e with|mk q=>?_;rw[be]at q
   refine K1 (EC (A:=A) ha hb q.1 q.2 hu) fun as bs ra rb l1 l2 hd=>?_;refine SeqAt.in_tuple_reads rb ra l2 l1 hd ?_;rw[u8 _ _ _ q.1 _ q.2];exact h
  |_=>exact ak e
 |oS=>
  induction i7 e with|mk r' e'=>?_;clear e
  induction yq e' with|mk x e=>?_;clear e'
  induction ha.str_inv with|mk t=>?_;cases b with
  |str y=>
   induction PI e with|mk x e=>?_;induction hb.str_inv with|mk u=>?_
   obtain rfl:=bE e;refine PySem.P.notIn_str ?_;rw[show(⟨[_].toArray⟩:Str)=⟨#[_]⟩ from rfl,StrLaws.found_one]
   simpa using h
  |tup l=>
   induction fg e with|mk q=>?_;rw[be]at q
   refine K1 (EC (A:=A) ha hb q.1 q.2 hu) fun as bs ra rb l1 l2 hd=>?_;refine SeqAt.notIn_tuple_reads rb ra l2 l1 hd ?_;rw[u8 _ _ _ q.1 _ q.2];exact h
  |_=>exact ak e
theorem tS(R:Rel G X s.heap V c)(H:VR s.heap (LX X V c) V v x)(e:Internal.truthy c x=some b) :
  wpAny (model G.prog G.w) A (PySem.truthy v) (fun r s'=>Kept s s'/\r=b) E s:=by
 have D:=dK R H;have C:=Py e;clear e H;generalize c7 c x=w at C D;induction C with
 |none=>cases D with|of D=>cases D.mI;exact wpAny_of_eq rfl ⟨.refl,rfl⟩
 |bool b=>cases D with|of D=>cases D.Ag;exact wpAny_truthy_bool ⟨.refl,rfl⟩
 |lst l hl=>
  induction D.lst_inv with|mk a vs h1 h2=>?_;have hs:vs.toArray.size=l.length:=by exact .trans (List.size_toArray ..)<|(h2.length ..)
  refine wpAny_truthy_list h1 (by rw[hs];unfold aJ at hl;omega) ⟨.tok,?_⟩
  cases vs<;>cases l<;>first|rfl| (simp at hs)
theorem MW{i:Int}(H:VR s.heap P V v (.int i)):wpAny (model G.prog G.w) A (unaryOp .USub v) (Ak P V s (.int (-i))) E s:=by
 induction H.int_is;exact neg_int ⟨.tok,.int _ _⟩
theorem place_spec{n:Nat}{i:Int}{k:Nat}(e:place n i=some k):(0<=i/\k=i.toNat/\k<n)\/(i<0/\-i<=n/\k=(i+n).toNat/\k<n):=by
 unfold place at e
 by_cases h:0<=i
 ·induction fg ((aO h).symm.trans e) with|mk h2=>exact .inl ⟨h,rfl,h2⟩
 ·induction fg ((aV h).symm.trans e) with|mk h2=>?_;have h':=Int.lt_of_not_ge h
  have a:=Int.toNat_of_nonneg (a:=-i) (Int.neg_nonneg_of_nonpos (Int.le_of_lt h'));have hq:(-i).toNat<=n:=Int.ofNat_le.mp (a▸h2);have h0:(-i).toNat≠0:=fun z=>by rw[z]at a;omega
  generalize(-i).toNat=q at a hq h0⊢;have e:i+n=((n-q:Nat):Int):=by rw[Int.natCast_sub hq,a,Int.sub_neg,Int.add_comm]
  exact .inr ⟨h',h2,by rw[e];rfl,Nat.sub_lt (Nat.lt_of_lt_of_le (Nat.pos_of_ne_zero h0) hq) (Nat.pos_of_ne_zero h0)⟩
theorem tT{n:Nat}{i:Int}{k:Nat}(e:place n i=some k):seqIndex? i n=some k:=by
 rcases place_spec e with⟨h1,rfl,h2⟩|⟨h1,h2,rfl,h3⟩
 ·exact seqIndex_of h1 (by omega)
 ·exact seqIndex_neg h1 (by omega)
theorem di(h:∀a b p,slice≠.Slice a b none p):subscripted slice false o i=operate [o,i] (getItem o i):=by
 cases slice with
 |Slice a b c p=>cases c with
  |none=>exact aX rfl (h _ _ _)|some U=>rfl
 |_=>rfl
theorem dj{lo hi:Option Expr}{p:Pos}{o i:Value}:subscripted (.Slice lo hi none p) false o i=operate [i,o] (getItem o i):=rfl
theorem Hy(R:Rel G X s.heap V c)(hs:∀a b p,slice≠.Slice a b none p)(ho:VR s.heap (LX X V c) V vo o)(hi:VR s.heap (LX X V c) V vi i)
  (e:gm c o i=some r) :
  wpAny (model G.prog G.w) A (subscriptTail value slice vo vi) (Ak (LX X V c) V s r) E s:=by
 induction Pw e with
 |key j k es hj ea=>
  induction ho.i8 with|mk p hp=>?_;induction hi.str_is with|mk t=>?_
  refine eP (R.at_ _ _ _ hp hj) fun e1 gi hd hk=>?_;obtain⟨v,h1,h2⟩:=hk.look ea;rw[e1];exact tail_any hd.typeIs slot_dict_getitem.lookup (wpAny_getItem_of (strKind_is G.prog G.w _ t) hd.mapOf h1 ⟨.tok,h2⟩) (di hs)
 |item o i h=>
  induction hi.int_is with|mk t=>?_;have D:=dK R ho
  clear e hi ho;generalize c7 c o=w at h D;induction h with
  |tup l r H=>
   induction D.ua with|mk a vs h1 h2=>?_;obtain⟨k,hl,hk,hr⟩:=H
   obtain⟨v,hv,hx⟩:=h2.get hr;have hn:vs.toArray.size=l.length:=by exact .trans (List.size_toArray ..)<|(h2.length ..)
   unfold aJ at hl;have b:=place_spec hk;exact item_tupleT h1 (by omega) (by omega) (by rw[h2.length];exact tT hk) hv ⟨.refl,hx⟩ (di hs)
  |lst l r H=>
   induction D.lst_inv with|mk a vs h1 h2=>?_;obtain⟨k,hl,hk,hr⟩:=H
   obtain⟨v,hv,hx⟩:=h2.get hr;have hn:vs.toArray.size=l.length:=by exact .trans (List.size_toArray ..)<|(h2.length ..)
   unfold aJ at hl;refine tail_any h1.typeIs slot_list_getitem.lookup ?_ (di hs);rcases place_spec hk with⟨b1,rfl,b2⟩|⟨b1,b2,rfl,b3⟩
   ·exact wpAny_getItem_list h1 b1 (by omega) (by simpa using hv) ⟨.refl,hx⟩
   ·exact wpAny_getItem_list_neg h1 b1 (by rw[hn];omega) (by omega) (by rw[hn];simpa using hv) ⟨.refl,hx⟩
  |str l k x hl hk hx=>
   induction D.str_inv with|mk t'=>?_;unfold aJ at hl
   have b:=place_spec hk;refine tail_any (typeIs_str s _ _) PySem.F.slot_str_getitem.lookup (PySem.P.getItem_str (c:=x) ?_ ?_ ⟨.tok,.str [x] _⟩) (di hs)
   ·rw[Bool.or_eq_false_iff];exact⟨eO (by omega),eO (by omega)⟩
   ·rw[str_len,tT hk];simpa using hx
inductive Ki(p:Option Int):Value->Prop
 |mk (q:Option (Int×Tok)) (h:IsPart (partValue q) p) (e:q.map (·.1)=p):Ki p (partValue q)
theorem wh(H:VR h P V v x)(e:qN x=some p):Ki p v:=by
 cases x with
 |none=>cases H.mI;obtain rfl:=bE e;exact⟨none,.none,rfl⟩
 |int i=>induction H.int_is with|mk t=>?_;obtain rfl:=bE e;exact⟨some (i,t),.int _ _,rfl⟩
 |_=>exact ak e
theorem cN.cut(H:cN h P V vs l)(lo hi:Option Int):cN h P V (Internal.cut vs lo hi) (Internal.cut l lo hi):=by
 unfold Internal.cut;rw[H.length];exact(H.drop _).take _
theorem sa(vs:List Value)(lo hi:Option Int):slicePick vs.toArray lo hi none=(Internal.cut vs lo hi).toArray:=by
 refine .trans (slicePick_plain ..)<|?_
 unfold Internal.cut;simp only[List.size_toArray];cases lo<;>cases hi<;>rfl
theorem wi(b n:Nat)(hb:b<=n):Builtin.Slice.sliceAdjust none (some (b:Int)) 1 (n:Int)=(0,(b:Int)):=by
 unfold Builtin.Slice.sliceAdjust;have h1 :¬((1:Int)<0):=by omega
 have h2 :¬((b:Int)<0):=by omega
 simp only[h1,h2,if_false];congr 1;omega
theorem wj(b:Nat):Builtin.Slice.slicePlaces 0 (b:Int) 1=b:=by
 unfold Builtin.Slice.slicePlaces;have h1:(1:Int)>0:=by omega
 simp only[h1,if_true,Int.ediv_one]
 split<;>omega
theorem ub{sl:Addr}{b n:Nat}{u:Tok}{Q:Int×Int×Nat->Shared->Prop}(hs:s.heap.IsSliceOf sl .none (.int b u) .none)(hb:b<=n)(h:Q (0,1,b) s) :
  wpAny (model G.prog G.w) A (Builtin.Slice.sliceApplied (.ref sl) (pure (n:Int))) Q E s:=by
 refine d9 (id hs) fun os MX Wh PL=>?_;unfold Builtin.Slice.sliceApplied Builtin.Slice.sliceFields;refine aL (aL (wpAny_field MX PL (x:=.none) rfl (aL (wpAny_field MX PL (x:=.int b u) rfl (aL (wpAny_field MX PL (x:=.none) rfl (aW ?_)))))));refine aL (slicePart_none ?_);show wpAny _ _ (if((1:Int)==0)=true then _ else _) _ _ s;refine j9 (aV (by decide) ..)<|?_
 refine aL (slicePart_none (aL (slicePart_int (aL (aW ?_)))));show wpAny _ _ (match Builtin.Slice.sliceAdjust none (some (b:Int)) 1 (n:Int) with| (lo,hi)=>pure (lo,(1:Int),Builtin.Slice.slicePlaces lo hi 1)) _ _ s
 rw[wi b n hb];show wpAny _ _ (pure ((0:Int),(1:Int),Builtin.Slice.slicePlaces 0 (b:Int) 1)) _ _ s;rw[wj b];exact aW h
theorem CH(xs:Array Value)(b:Nat):((List.range b).filterMap fun(k:Nat)=>xs[((0:Int)+(k:Int)*1).toNat]?).toArray=(xs.toList.take b).toArray:=by
 have e:(fun(k:Nat)=>xs[((0:Int)+(k:Int)*1).toNat]?)=fun k=>xs[0+k]?:=by
  funext k;have:((0:Int)+(k:Int)*1).toNat=0+k:=by rw[Int.mul_one,Int.zero_add,Nat.zero_add];rfl
  rw[this]
 rw[e];have:=pick_run xs 0 b;rw[List.filterMap_map]at this;have e2:((fun x=>xs[x]?)∘fun x=>0+x)=fun k=>xs[0+k]?:=rfl;rw[e2]at this;rw[this,List.drop_zero]
theorem yx{t sl:Addr}{am:Array Value}{b:Nat}{u:Tok}{Q:Value->Shared->Prop}(ht:IsTup s.heap t am)(hs:s.heap.IsSliceOf sl .none (.int b u) .none)(hb:b<am.size)
  (h:Q (.ref s.heap.objs.size) {s with heap:=s.heap.push {cls:=.type "tuple",data:=.seq (am.toList.take b).toArray}})
  (lu:am.size<=sizeLine):wpAny (model G.prog G.w) A (getItem (.ref t) (.ref sl)) Q E s:=by
 have Al:sizeOk (.seq (am.toList.take b).toArray):=by
  show(am.toList.take b).toArray.size<=sizeLine;rw[List.size_toArray,List.length_take,Array.length_toList];omega
 refine d9 (id hs) fun os MX Wh PL=>?_;have YO:s.TypeIs (.ref sl) "slice":=⟨os,MX,Wh⟩;unfold getItem
 try with_reducible refine wpAny_holding ?_
 first|refine aL (aW ?_) |skip
 refine aL (wpAny_sequenceKey ht.typeIs (by decide) ?_)
 refine aL (wpAny_callSpecial?_slot (name:=Str.ofString "__getitem__") ht.typeIs slot_tuple_getitem
  (wpAny_call_entry slot_tuple_getitem ht.typeIs entry_tuple_getitem ?_ (args_tuple_getitem _ _)))
 show wpAny _ _ (Builtin.Tuple.tupleItemsOf (.ref t)>>=_) _ _ s;refine aL (tupleItemsOf_ ht ?_);refine aL (wpAny_typeOf YO ?_);refine j9 (aO (by decide) ..)<|?_
 refine aL (ub hs (Nat.le_of_lt hb) ?_);have UI :¬(((0:Int)==0&&(1:Int)==1&&b==am.size)=true):=by
  have:(b==am.size)=false:=by rw[beq_eq_false_iff_ne];omega
  rw[this];simp
 show wpAny _ _ (if((0:Int)==0&&(1:Int)==1&&b==am.size)=true then _ else _) _ _ s
 (refine j9 (aV UI ..)<|?_;rw[CH am b])
 first
  |exact aL (m:=Builtin.Tuple.tupleExact _) (wpAny_newObj_type (aW ⟨_,rfl,aW h⟩) Al)|exact aL (m:=Builtin.Tuple.tupleExact _) (wpAny_newObj_type (aL (aW (aW ⟨_,rfl,aW h⟩))) Al)|exact aL (aL (m:=Builtin.Tuple.tupleExact _) (wpAny_newObj_type (aW (aW ⟨_,rfl,aW h⟩)) Al))|exact aL (aL (m:=Builtin.Tuple.tupleExact _) (wpAny_newObj_type (aW ⟨_,rfl,aW h⟩) Al))
theorem oV(l:List Nat)(lo hi:Option Int):(Builtin.Str.strSliceIndices lo hi 1 l.length).filterMap ((⟨l.toArray⟩:Str).cps[·]?)=Internal.cut l lo hi:=by
 have e:Builtin.Str.strSliceIndices lo hi 1 l.length=(List.range (hi.elim l.length (clipAt l.length)-lo.elim 0 (clipAt l.length))).map (lo.elim 0 (clipAt l.length)+·):=by
  rw[<-sliceRange_one];unfold Builtin.Str.strSliceIndices;cases lo<;>cases hi<;>simp[clipAt_cast]
 rw[e];have:=pick_run (α:=Nat) l.toArray (lo.elim 0 (clipAt l.length)) (hi.elim l.length (clipAt l.length)-lo.elim 0 (clipAt l.length));refine .trans (this ..)<|?_
 unfold Internal.cut;cases lo<;>cases hi<;>rfl
theorem CI{l:List Nat}{lo hi:Option Int}(h:(Builtin.Str.strSliceIndices lo hi 1 l.length).length=l.length):Internal.cut l lo hi=l:=by
 have e:=oV l lo hi;have e2:Builtin.Str.strSliceIndices lo hi 1 l.length=(List.range (hi.elim l.length (clipAt l.length)-lo.elim 0 (clipAt l.length))).map (lo.elim 0 (clipAt l.length)+·):=by
  rw[<-sliceRange_one];unfold Builtin.Str.strSliceIndices;cases lo<;>cases hi<;>simp[clipAt_cast]
 rw[e2,List.length_map,List.length_range]at h;have hx:∀i:Int,clipAt l.length i<=l.length:=fun i=>by have:=clipAt_cast l.length i;omega
 have hhi:hi.elim l.length (clipAt l.length)<=l.length:=by cases hi with|none=>exact b5 _|some i=>exact hx i
 unfold Internal.cut;have e3:lo.elim 0 (fC l.length)=lo.elim 0 (clipAt l.length):=by cases lo<;>rfl
 have e4:hi.elim l.length (fC l.length)=hi.elim l.length (clipAt l.length):=by cases hi<;>rfl
 rw[e3,e4]
 by_cases hl:l.length=0
 ·rw[List.length_eq_zero_iff.mp hl];simp
 ·have:lo.elim 0 (clipAt l.length)=0:=by omega
  rw[this,List.drop_zero,Nat.sub_zero,List.take_of_length_le (by omega)]
set_option tactic.hygienic true in
theorem Hz{X:Addr->Prop}{c:aC}(R:Rel G X s.heap V c){value:Expr}{le he:Option Expr}{pp:Pos}{vo vl vh:Value}{o lo hi r:AV}(ho:VR s.heap (LX X V c) V vo o)(hl:VR s.heap (LX X V c) V vl lo)(hh:VR s.heap (LX X V c) V vh hi)
  (e:kj c o lo hi=some r) :
  wpAny (model G.prog G.w) A (subscriptTail value (.Slice le he none pp) vo (.ref s.heap.objs.size)) (Ak (LX X V c) V s r) E {s with heap:=s.heap.push {cls:=.type "slice",data:=.fields #[vl,vh,.none]}}:=by
 have D:=dK R ho;have k1:∀b o,s.heap.get? b=some o->(s.heap.push {cls:=.type "slice",data:=.fields #[vl,vh,.none]}).get? b=some o:=fun b o e=>fQ _ e;have fr :¬LX X V c s.heap.objs.size:=R.fresh (eX (b5 _));have UJ :¬LX X V c (s.heap.push {cls:=.type "slice",data:=.fields #[vl,vh,.none]}).objs.size:=by
  rw[Heap.size_push];exact R.fresh (eX (Nat.le_succ _))
 obtain⟨pl,ph,el,eh,h⟩:=K4 e;clear e;induction wh hl el with|mk ql il TJ=>?_
 induction wh hh eh with|mk qh ih TK=>?_;have kept:∀(o:Obj)(b:Addr)(x:Obj),s.heap.get? b=some x->((s.heap.push {cls:=.type "slice",data:=.fields #[partValue ql,partValue qh,.none]}).push o).get? b=some x:=fun o b x e=>fQ _ (k1 b x e)
 generalize c7 c o=w at h D;clear ho hl hh el eh;induction h with
 |tup l r lu q=>
  induction D.ua with|mk a vs h1 h2=>?_;have hn:vs.toArray.size=l.length:=by exact .trans (List.size_toArray ..)<|(h2.length ..)
  have IA:IsTup (s.heap.push {cls:=.type "slice",data:=.fields #[partValue ql,partValue qh,.none]}) a vs.toArray:=h1.keeps k1;cases q with
  |of i0 hr=>
   induction i7 TJ with|mk IB UK=>?_;obtain⟨i0,ta⟩:=IB;obtain rfl:=UK
   obtain rfl:=Option.map_eq_none_iff.mp TK;dsimp only at hr;refine tail_any IA.typeIs slot_tuple_getitem.lookup (getItem_tuple_from (a:=i0.toNat) (u:=ta) IA ?_ (by omega) (by rw[hn];omega) ⟨⟨_,_,rfl,kept _⟩,.tup ⟨_,ez _ rfl,rfl,_,rfl⟩ UJ ?_⟩ (by rw[hn];exact cY lu dX)) dj
   ·rw[show((i0.toNat:Nat):Int)=i0 by omega]
    exact Heap.IsSliceOf.new ..
   ·simpa using(h2.drop _).pass (Pass.keeps (kept _))
  |to i0 hr=>
   induction i7 TK with|mk IB UK=>?_;obtain⟨i0,ta⟩:=IB;obtain rfl:=UK
   obtain rfl:=Option.map_eq_none_iff.mp TJ;dsimp only at hr;refine tail_any IA.typeIs slot_tuple_getitem.lookup (yx (b:=i0.toNat) (u:=ta) IA ?_ (by rw[hn];omega) ⟨⟨_,_,rfl,kept _⟩,.tup ⟨_,ez _ rfl,rfl,_,rfl⟩ UJ ?_⟩ (by rw[hn];exact cY lu dX)) dj
   ·rw[show((i0.toNat:Nat):Int)=i0 by omega]
    exact Heap.IsSliceOf.new ..
   ·simpa using(h2.take _).pass (Pass.keeps (kept _))
 |lst l lu=>
  induction D.lst_inv with|mk a vs h1 h2=>?_;have hn:vs.toArray.size=l.length:=by exact .trans (List.size_toArray ..)<|(h2.length ..)
  have IA:(s.heap.push {cls:=.type "slice",data:=.fields #[partValue ql,partValue qh,.none]}).IsList a vs.toArray:=let⟨o,ho,r⟩:=h1;⟨o,k1 _ _ ho,r⟩;refine tail_any IA.typeIs slot_list_getitem.lookup (wpAny_getItem_list_slice IA (Heap.IsSliceOf.new ..) il ih .none (by intro h;exact ak h) ?_ (by rw[hn];exact cY lu dX)) dj
  rw[sa];exact⟨⟨_,_,rfl,kept _⟩,.lst ⟨_,ez _ rfl,rfl,_,rfl⟩ UJ ((h2.cut _ _).pass (Pass.keeps (kept _)))⟩
 |str l lu=>
  induction D.str_inv with|mk t=>?_;refine tail_any (typeIs_str _ _ _) PySem.F.slot_str_getitem.lookup (wpAny_getItem_str_slice (l:=ql) (u:=qh) (st:=none) ⟨_,ez _ rfl,rfl,rfl⟩ rfl ?_) dj
  have QT:(Internal.cut l pl ph).length<=aJ:=by
   unfold Internal.cut;rw[List.length_take,List.length_drop];exact cY (Nat.min_le_right _ _) (cY (Nat.sub_le _ _) lu)
  unfold sliceMade
  split
  ·rename_i hw;simp only[Option.map_none,Option.getD_none,BEq.rfl,Bool.true_and,beq_iff_eq]at hw;unfold slicePicked at hw;simp only[Option.map_none,Option.getD_none,str_len,TJ,TK]at hw;refine⟨⟨_,_,rfl,k1⟩,?_⟩;rw[CI hw];exact .str _ _
  ·unfold slicePicked;simp only[Option.map_none,Option.getD_none,str_len,TJ,TK];rw[oV];exact⟨by rw[str_len];exact cY QT dX,⟨_,_,rfl,k1⟩,.str _ _⟩
end
noncomputable def fV:wX->Str
 |.len=>Str.ofString "len"|.chr=>Str.ofString "chr"|.ord=>Str.ofString "ord"|.abs=>Str.ofString "abs"|.max=>Str.ofString "max"|.min=>Str.ofString "min"|.isTup=>Str.ofString "isinstance"|.isList=>Str.ofString "isinstance"
noncomputable def Kj:wX->String
 |.len=>"len"|.chr=>"chr"|.ord=>"ord"|.abs=>"abs"|.max=>"max"|.min=>"min"|.isTup=>"isinstance"|.isList=>"isinstance"
noncomputable def pc:wX->List Value
 |.isTup=>[.type "tuple"]|.isList=>[.type "list"]|_=>[]
noncomputable def Kk:PH->String
 |.lower=>"str.lower"|.find=>"str.find"|.replace=>"str.replace"|.join=>"str.join"
noncomputable def pf:PH->Str
 |.lower=>Str.ofString "lower"|.find=>Str.ofString "find"|.replace=>Str.ofString "replace"|.join=>Str.ofString "join"
section
variable{G:GC}{A:Around}{E:Value->Shared->Prop}{s:Shared}{P:Addr->Prop}{V:Mu}
theorem ku(x:IsTup h a fh):h.IsTuple a fh:=x
theorem IC(D:VD s.heap P V v d)(e:iN d=some r):wpAny (model G.prog G.w) A (call (.builtin "isinstance") [v,.type "tuple"]) (Ak P V s r) E s:=by
 cases D with
 |of D=>cases D with
  |none=>obtain rfl:=bE e;exact IsiPair.NoneType_tuple ⟨.tok,.bool _⟩
  |bool b=>obtain rfl:=bE e;exact IsiPair.bool_tuple ⟨.tok,.bool _⟩
  |int i t=>obtain rfl:=bE e;exact IsiPair.int_tuple ⟨.tok,.bool _⟩
  |str l t=>obtain rfl:=bE e;exact IsiPair.str_tuple ⟨.tok,.bool _⟩
  |tup h1 U bG=>obtain rfl:=bE e;exact IsiPair.isTuple_tuple (ku h1) (fun U U e=>e) ⟨.refl,.bool _⟩
  |lst h1 U bG=>obtain rfl:=bE e;exact IsiPair.isList_tuple h1 (fun U U e=>e) ⟨.tok,.bool _⟩
  |ref U=>exact ak e
 |lst h1 U=>obtain rfl:=bE e;exact IsiPair.isList_tuple h1 (fun U U e=>e) ⟨.tok,.bool _⟩
theorem ID(D:VD s.heap P V v d)(e:hM d=some r):wpAny (model G.prog G.w) A (call (.builtin "isinstance") [v,.type "list"]) (Ak P V s r) E s:=by
 cases D with
 |of D=>cases D with
  |none=>obtain rfl:=bE e;exact IsiPair.NoneType_list ⟨.tok,.bool _⟩
  |bool b=>obtain rfl:=bE e;exact IsiPair.bool_list ⟨.tok,.bool _⟩
  |int i t=>obtain rfl:=bE e;exact IsiPair.int_list ⟨.tok,.bool _⟩
  |str l t=>obtain rfl:=bE e;exact IsiPair.str_list ⟨.tok,.bool _⟩
  |tup h1 U bG=>obtain rfl:=bE e;exact IsiPair.isTuple_list (ku h1) (fun U U e=>e) ⟨.tok,.bool _⟩
  |lst h1 U bG=>obtain rfl:=bE e;exact IsiPair.isList_list h1 (fun U U e=>e) ⟨.refl,.bool _⟩
  |ref U=>exact ak e
 |lst h1 U=>obtain rfl:=bE e;exact IsiPair.isList_list h1 (fun U U e=>e) ⟨.refl,.bool _⟩
theorem MY(D:VD s.heap P V v d)(e:Ac d=some r):wpAny (model G.prog G.w) A (call (.builtin "len") [v]) (Ak P V s r) E s:=by
 cases d with
 |str l=>
  induction D.str_inv with|mk t=>?_;induction fg e with|mk hl=>?_
  unfold aJ at hl;refine PySem.P.len_str (by rw[str_len];omega) ⟨.tok,?_⟩
  rw[str_len];exact .int _ _
 |tup l=>
  induction D.ua with|mk a vs h1 h2=>?_;induction fg e with|mk hl=>?_
  unfold aJ at hl;have hn:vs.toArray.size=l.length:=by exact .trans (List.size_toArray ..)<|(h2.length ..)
  refine len_tuple h1 (by rw[hn];omega) ⟨.tok,?_⟩
  rw[hn];exact .int _ _
 |lst l=>
  induction D.lst_inv with|mk a vs h1 h2=>?_;induction fg e with|mk hl=>?_
  unfold aJ at hl;have hn:vs.toArray.size=l.length:=by exact .trans (List.size_toArray ..)<|(h2.length ..)
  refine call_len_list h1 (by rw[hn];omega) ⟨.tok,?_⟩
  rw[hn];exact .int _ _
 |_=>exact ak e
theorem qU(R:Rel G X s.heap V c)(hh:A.handled=none)(H:cN s.heap (LX X V c) V vs args)(e:builtin c b args=some r) :
  wpAny (model G.prog G.w) A (call (.builtin (Kj b)) (vs++pc b)) (Ak (LX X V c) V s r) E s:=by
 cases b with
 |len=>
  induction in1 e with|mk x e1=>?_;induction H.one with|mk v hv=>?_
  exact MY (dK R hv) e1
 |chr=>
  induction in1 e with|mk x e1=>?_;induction H.one with|mk v hv=>?_
  induction gb e1 with|mk i e2=>?_;induction hv.int_is with|mk t=>?_
  induction fg e2 with|mk hl=>?_;refine PySem.P.chr_of_int ?_ ⟨.tok,.str [_] _⟩
  rw[Bool.or_eq_false_iff];exact⟨eO (by omega),eO (by omega)⟩
 |ord=>
  induction in1 e with|mk x e1=>?_;induction H.one with|mk v hv=>?_
  induction yq e1 with|mk i e2=>?_;induction PI e2 with|mk i e3=>?_
  induction hv.str_is with|mk t=>?_;obtain rfl:=bE e3
  exact PySem.P.ord_of_char ⟨.tok,.int _ _⟩
 |abs=>
  induction in1 e with|mk x e1=>?_;induction H.one with|mk v hv=>?_
  induction gb e1 with|mk i e2=>?_;induction hv.int_is with|mk t=>?_
  obtain rfl:=bE e2;exact call_abs_int fun u tk=>⟨.tok,.int _ _⟩
 |max=>
  induction TH e with|mk x y e1=>?_;induction H.two with|mk v w hv hw=>?_
  induction gb e1 with|mk i e2=>?_;induction gb e2 with|mk j e3=>?_
  induction hv.int_is with|mk t=>?_;induction hw.int_is with|mk u=>?_
  obtain rfl:=bE e3;refine max_two_ints hh fun h' tk hk=>?_
  by_cases c:j>i
  ·rw[aO c,aO c];exact⟨⟨_,_,rfl,hk⟩,.int _ _⟩
  ·rw[aV c,aV c];exact⟨⟨_,_,rfl,hk⟩,.int _ _⟩
 |min=>
  induction TH e with|mk x y e1=>?_;induction H.two with|mk v w hv hw=>?_
  induction gb e1 with|mk i e2=>?_;induction gb e2 with|mk j e3=>?_
  induction hv.int_is with|mk t=>?_;induction hw.int_is with|mk u=>?_
  obtain rfl:=bE e3;refine min_two_ints hh fun h' tk hk=>?_
  by_cases c:j<i
  ·rw[aO c,aO c];exact⟨⟨_,_,rfl,hk⟩,.int _ _⟩
  ·rw[aV c,aV c];exact⟨⟨_,_,rfl,hk⟩,.int _ _⟩
 |isTup=>
  induction in1 e with|mk x e1=>?_;induction H.one with|mk v hv=>?_
  exact IC (dK R hv) e1
 |isList=>
  induction in1 e with|mk x e1=>?_;induction H.one with|mk v hv=>?_
  exact ID (dK R hv) e1
set_option tactic.hygienic true in
theorem jJ(x:Nat):∀(l:List Nat)(k:Nat),(∃i:Nat,jI x l k=((k+i:Nat):Int)/\l[i]?=some x/\∀j,j<i->l[j]?≠some x)\/(jI x l k = -1/\∀i:Nat,l[i]?≠some x)
 |[],k=>.inr ⟨rfl,fun i=>by simp⟩
 |y::r,k=>by
  rw[CC]
  split
  ·rename_i h;exact .inl ⟨0,rfl,by simp[h],fun j hj=>aX hj (Nat.not_lt_zero _)⟩
  ·rename_i h;refine Or.elim (jJ x r (k+1)) (fun ng=>d9 ng fun i h1 h2 h3=>?_) (fun qV=>qV.elim fun h1 h2=>?_)
   ·refine .inl ⟨i+1,?_,by simpa using h2,fun j hj=>?_⟩
    ·refine .trans (h1 ..)<|?_;congr 1;omega
    ·cases j with
     |zero=>simpa using h|succ j=>simpa using h3 j (by omega)
   ·refine .inr ⟨h1,fun i=>?_⟩;cases i with
    |zero=>simpa using h|succ j=>simpa using h2 j
theorem ED(l:List Nat)(x:Nat):(Txt.find ⟨l.toArray⟩ ⟨[x].toArray⟩:Int)=jI x l 0:=by
 have at_:∀i,StrLaws.At ⟨l.toArray⟩ ⟨[x].toArray⟩ (⟨l.toArray⟩:Str).length i↔l[i]?=some x:=fun i=>by
  unfold StrLaws.At;rw[show(⟨[x].toArray⟩:Str)=⟨#[x]⟩ from rfl,StrLaws.subAt_one]
 refine Or.elim (find_whole (⟨l.toArray⟩:Str) (⟨[x].toArray⟩:Str)) (fun ng=>ng.elim fun h1 h2=>?_) (fun qV=>d9 qV fun i h1 h2 h3=>?_)
 ·refine Or.elim (jJ x l 0) (fun ng=>d9 ng fun j h4 h5 h6=>?_) (fun qV=>qV.elim fun h4 h5=>?_)
  ·exact aX ((at_ j).mpr h5) (h2 j)
  ·(refine .trans (h1 ..)<|?_;rw[h4])
 ·refine Or.elim (jJ x l 0) (fun ng=>d9 ng fun j h4 h5 h6=>?_) (fun qV=>qV.elim fun h4 h5=>?_)
  ·(refine .trans (h1 ..)<|?_;rw[h4])
   have YP:=(at_ i).mp h2;rcases Nat.lt_trichotomy i j with h|h|h
   ·exact aX YP (h6 i h)
   ·subst h;simp
   ·exact aX ((at_ j).mpr h5) (h3 j h)
  ·exact aX ((at_ i).mp h2) (h5 i)
theorem join_eq(sep:List Nat):∀ss:List (List Nat),Txt.join ⟨sep.toArray⟩ (ss.map fun x=>⟨x.toArray⟩)=⟨(Ab sep ss).toArray⟩:=by
 intro ss;unfold Txt.join;refine .trans (StrLaws.glued_eq_join ..)<|?_
 induction ss with
 |nil=>rfl|cons a r ih=>
  cases r with
  |nil=>rfl|cons b r=>
   show Str.join _ ((⟨a.toArray⟩:Str)::⟨b.toArray⟩::r.map _)=_;unfold Str.join;rw[show Str.join (⟨sep.toArray⟩:Str) ((⟨b.toArray⟩:Str)::r.map fun x=>⟨x.toArray⟩)=⟨(Ab sep (b::r)).toArray⟩ from ih]
   rw[p9,p9];rfl
theorem qW:∀{l:List AV}{vs:List Value}{ss:List (List Nat)},cN h P V vs l->uZ l=some ss->StrsAre vs (ss.map fun x=>⟨x.toArray⟩)
 |[],U,bG,H,e=>by cases H.nil_inv;obtain rfl:=bE e;exact .nil
 |.str x::l,U,bG,H,e=>by
  induction H.kX with|mk v vs x xs=>?_;induction i7 (show(uZ l).map _=some _ from e) with|mk ss' h1=>?_
  induction x.str_is with|mk t=>?_;exact .cons _ _ (qW xs h1)
theorem EE{l:List Nat}(hl:34∉l):(Builtin.Str.occurrences (⟨l.toArray⟩:Str) ⟨[34].toArray⟩ 0 (⟨l.toArray⟩:Str).length ((⟨l.toArray⟩:Str).length+1)).isEmpty=true:=by
 refine Or.elim (StrLaws.occ_head (⟨l.toArray⟩:Str) ⟨[34].toArray⟩ ((⟨l.toArray⟩:Str).length+1) (by omega)) (fun ng=>ng.elim fun h0 U=>?_) (fun qV=>ip qV fun i r h0 hi U=>?_)
 ·rw[h0];rfl
 ·exfalso;unfold StrLaws.At at hi;rw[show(⟨[34].toArray⟩:Str)=⟨#[34]⟩ from rfl,StrLaws.subAt_one]at hi
  exact hl (eN (by simpa using hi))
theorem CJ(R:Rel G X s.heap V c){r:AV}(ho:VR s.heap (LX X V c) V vo o)(H:cN s.heap (LX X V c) V vs args)(e:method c m o args=some r) :
  wpAny (model G.prog G.w) A (call (.builtin (Kk m)) (vo::vs)) (Ak (LX X V c) V s r) E s:=by
 induction yq e with|mk l e=>?_;induction ho.str_is with|mk t=>?_
 cases m with
 |lower=>
  induction fg e with|mk IB=>?_;obtain⟨h0,hl⟩:=IB
  rw[List.isEmpty_iff]at h0;subst h0;rw[H.nil_inv];refine SCL.lower (by rw[str_len];unfold aJ at hl;omega) fun U=>⟨.tok,?_⟩
  rw[lower_ascii (by
   have:=hl.1;unfold isAscii at this;simpa using this)]
  have:((⟨l.toArray⟩:Str).cps.map lo1)=(l.map w4).toArray:=by simp only[List.map_toArray];rfl
  rw[this];exact .str _ _
 |find=>
  induction in1 e with|mk x e1=>?_;induction H.one with|mk v hv=>?_
  induction yq e1 with|mk x e2=>?_;induction PI e2 with|mk x e3=>?_
  induction hv.str_is with|mk u=>?_;obtain rfl:=bE e3
  refine PySem.SC.find ⟨.tok,?_⟩;rw[ED];exact .int _ _
 |replace=>
  induction TH e with|mk x y e1=>?_;induction H.two with|mk v w hv hw=>?_
  induction yq e1 with|mk x e2=>?_;induction yq e2 with|mk y e3=>?_
  induction fg e3 with|mk IB=>?_;refine fK IB fun fu QU hl U=>?_;subst fu;subst QU
  induction hv.str_is with|mk u=>?_;induction hw.str_is with|mk u'=>?_
  refine call_gives PySem.F.slot_str_replace (typeIs_str _ _ _) PySem.F.entry_str_replace (PySem.F.args_str_replace_3 _ _ _) (gives_str_replace _ _ _ _ _ _ fun h=>?_) ?_
  ·rw[EE hl]at h;exact PG h
  ·rw[EE hl];exact⟨.refl,.str _ _⟩
 |join=>
  induction in1 e with|mk x e1=>?_;induction H.one with|mk v hv=>?_
  have D:=dK R hv;refine au (MH e1) fun l' q e2=>?_;rw[q]at D;induction D.lst_inv with|mk a vs h1 h2=>?_
  obtain⟨ss,YQ,e3⟩:=qM e2;induction fg e3 with|mk hl=>?_
  refine join_list h1 (by simpa using qW h2 YQ) ?_ fun t' k=>⟨.tok,?_⟩
  ·simp only[List.map_map,List.length_map,str_len];have:(List.map (Str.length∘fun x=>(⟨x.toArray⟩:Str)) ss)=ss.map List.length:=by
    apply List.map_congr_left;intro a _;exact str_len a
   rw[this];unfold aJ at hl;omega
  ·rw[join_eq];exact .str _ _
end
set_option backward.match.sparseCases true
structure Tb where
 fns:List (Str×Addr)
 wk:List (Str×Value)
 ab:Str
 atts:List (List Nat)
structure Bs(G:GC)(B:Heap):Prop where
 k:G.K.In B
 lim:B.NoLimit
 top:∃mg mb,B.Ns mainGlobals mg/\B.Ns builtinsNs mb/\∀x:Str,x≠("__name__":Str)->mb x=bootBuiltins x
noncomputable def mK:List Str:=[Str.ofString "len",Str.ofString "chr",Str.ofString "ord",Str.ofString "abs",Str.ofString "max",Str.ofString "min",Str.ofString "isinstance",Str.ofString "tuple",Str.ofString "list",Str.ofString "range"]
noncomputable def eL(A:Around)(D:Nat):Prop:=A.depth+D<=recursionLimit/\A.units+12*D+100<=cLine
structure Wd(G:GC)(T:Tb)(W:dP)(D:Nat):Prop where
 call:∀(f:Nat) nm fa,T.fns[f]?=some (nm,fa)->∀A B l X s V c vs args,Bs G B->n3 G A B l s.heap V c->Rel G X s.heap V c->(∀b,X b->B.get? b=none/\b∉bz l)->eL A D->cN s.heap (LX X V c) V vs args->W.call f args c≠.fail->
  wpAny (model G.prog G.w) A (PySem.call (Value.ref fa) vs) (CE G X (bz l) s V c (W.call f args c)) (Exc G X l s V c (W.call f args c)) s
 make:∀A B l X s V c vs args,Bs G B->n3 G A B l s.heap V c->Rel G X s.heap V c->(∀b,X b->B.get? b=none/\b∉bz l)->eL A D->cN s.heap (LX X V c) V vs args->W.make args c≠.fail->
  wpAny (model G.prog G.w) A (PySem.call (Value.ref G.RC) vs) (CE G X (bz l) s V c (W.make args c)) (Exc G X l s V c (W.make args c)) s
 PM:∀(f:Nat) nm fa,T.fns[f]?=some (nm,fa)->nsIn G.K mainGlobals nm=some (some (.ref fa))/\keepIn G.K (Value.ref fa)=true
 QW:∀(g:Nat) nm v,T.wk[g]?=some (nm,v)->nsIn G.K mainGlobals nm=some (some v)
 glr:∀(g:Nat) nm v B,T.wk[g]?=some (nm,v)->Bs G B->VR B (fun U=>False) [] v (W.gl g)\/∃l a,W.gl g = .tup l/\v = .ref a/\∀A E s x t b (Q:Value->Shared->Prop),B.StaysIn s.heap->fp (.str x) l=some b->
  (∀tk,Q (.bool b) {s with toks:=tk})->wpAny (model G.prog G.w) A (compareOp .In (.str ⟨x.toArray⟩ t) v) Q E s
 TL:nsIn G.K mainGlobals T.ab=some (some (.ref G.RC))/\keepIn G.K (Value.ref G.RC)=true
 TM:∀n∈T.atts,findIn G.K (Value.ref G.RC) (⟨n.toArray⟩:Str)=some none
 cls:plainGet G.K G.RC (Str.ofString "")=true/\hasDictIn G.K G.RC=true
 EA:findIn G.K (Value.ref G.RC) ("__setattr__":Str)=some (some (.builtin "object.__setattr__"))/\plainOver G.K G.RC=true
 bi:∀nm∈mK,nsIn G.K mainGlobals nm=some none
structure cv(aA:Env)(sc:Scope):Prop extends UE aA where
 sc:aA.scope=sc
 fW:∀nm,(aA.scope.names.lookup nm=some .cell\/aA.scope.names.lookup nm=some .free)->(aA.cells.lookup nm).isSome=true
structure gS(G:GC)(A:Around)(B:Heap)(l:List Env)(X:Addr->Prop)(aA:Env)(aB:List Str)(m:Str->Option Value)(J:Loc)(s:Shared)(V:Mu)(c:aC):Prop where
 bs:Bs G B
 eW:n3 G A B l s.heap V c
 rel:Rel G X s.heap V c
 xb:∀b,X b->B.get? b=none/\b∉bz l
 lo:Lo aA aB J s.heap (LX X V c) V m
section
variable{G:GC}{T:Tb}{W:dP}{D:Nat}{A:Around}{B:Heap}{l:List Env}{X:Addr->Prop}{aA:Env}{sc:Scope}{aB:List Str}{m:Str->Option Value}{J:Loc}{s aT:Shared}{V aR:Mu}{c a8:aC}
theorem gS.step(S:gS G A B l X aA aB m J s V c)(k:bq (bz l) s V c aT aR a8)(R:Rel G X aT.heap aR a8):gS G A B l X aA aB m J aT aR a8:=
 ⟨S.bs,S.eW.step k,R,S.xb,S.lo.pass k.ba⟩
theorem gS.base(S:gS G A B l X aA aB m J s V c):∀b,LX X V c b->B.get? b=none:=fun b q=>q.elim (fun q=>(S.xb b q).1) (S.eW.bl b)
theorem CK(S:gS G A B l X aA aB m J s V c):Pass B (fun U=>False) [] s.heap (LX X V c) V:=
 ⟨fun b o e U=>⟨o.slots,S.eW.base b o e⟩,fun b q=>.inr (S.base b q),fun i p e=>by exact ak e⟩
noncomputable def dQ(G:GC)(T:Tb)(W:dP)(A:Around)(B:Heap)(l:List Env)(sc:Scope)(aB:List Str)(e:Ex)(pe:Expr):Prop:=
 ∀X aA m J s V c,cv aA sc->gS G A B l X aA aB m J s V c->ev W J e c≠.fail->
  wpAny (model G.prog G.w) A (eval pe aA) (CE G X (bz l) s V c (ev W J e c)) (Exc G X l s V c (ev W J e c)) s
noncomputable def on(G:GC)(T:Tb)(W:dP)(A:Around)(B:Heap)(l:List Env)(sc:Scope)(aB:List Str)(e:List Ex)(pe:List Expr):Prop:=
 ∀X aA m J s V c pos,cv aA sc->gS G A B l X aA aB m J s V c->eV W J e c≠.fail->
  wpAny (model G.prog G.w) A (spliced (backTo pos (starEach pe aA))) (UC G X (bz l) s V c (eV W J e c)) (Exc G X l s V c (eV W J e c)) s
noncomputable def mL(G:GC)(T:Tb)(W:dP)(A:Around)(B:Heap)(l:List Env)(sc:Scope)(aB:List Str)(e:Cd)(pe:Expr):Prop:=
 ∀X aA m J s V c,cv aA sc->gS G A B l X aA aB m J s V c->eS W J e c≠.fail->
  wpAny (model G.prog G.w) A (PySem.isTrue pe aA (eval pe aA)) (UD G X (bz l) s V c (eS W J e c)) (Exc G X l s V c (eS W J e c)) s
theorem dq{α Z γ:Type}{t:Sem Z}{Rl:Heap->(Addr->Prop)->Mu->Z->α->Prop}{o:aD α}{o':aD γ}{aU:Z->Shared->Prop}{aZ:Shared}{aP:Mu}{aI:aC}
  (k:bq (bz l) aZ aP aI s V c) (h1:wpAny M A t (QJ G X (bz l) Rl s V c o) (Exc G X l s V c o) s) (hE:∀m c',o = .exc m c'->o' = .exc m c')
  (h2:∀b aT x a8 aR,o = .ok x a8->bq (bz l) aZ aP aI aT aR a8->bq (bz l) s V c aT aR a8->Rel G X aT.heap aR a8->Rl aT.heap (LX X aR a8) aR b x->aU b aT):wpAny M A t aU (Exc G X l aZ aP aI o') s:=
 bJ h1 (fun b aT ⟨x,a8,aR,e,k1,R,q⟩=>h2 b aT x a8 aR e (k.trans k1) k1 R q) fun e s' x=>x.lift k hE
theorem aQ{α Z:Type}{o:aD α}{f:α->aC->aD Z}(h:o.bind f≠.fail):o≠.fail:=fun e=>h (by refine .trans (dc (e ..))<|?_;rfl)
theorem ao{α Z:Type}{o:aD α}{f:α->aC->aD Z}{x:α}{c:aC}(e:o = .ok x c):o.bind f=f x c:=by refine .trans (dc (e ..))<|?_;rfl
theorem bC{α Z:Type}{o:aD α}{f:α->aC->aD Z}:∀m c,o = .exc m c->o.bind f = .exc m c:=fun m c e=>by refine .trans (dc (e ..))<|?_;rfl
theorem nh{α:Type}{O O':aD α}(aK:O≠.fail)(e:O=O'):O'≠.fail:=e▸aK
theorem eqQ{α:Type}{O O':aD α}(aK:O≠.fail)(e:O=O'):O=O':=e
theorem c9{α Z:Type}{O:aD Z}{o:aD α}{f:α->aC->aD Z}(hO:O=o.bind f):∀m c,o = .exc m c->O = .exc m c:=fun m c e=>hO.trans (bC m c e)
theorem ix{α Z:Type}{o:aD α}{f:α->aC->aD Z}{x:α}{c:aC}(aK:o.bind f≠.fail)(e:o = .ok x c):f x c≠.fail:=fun q=>aK ((ao e).trans q)
theorem gs{α Z:Type}{O:aD Z}{o:aD α}{f:α->aC->aD Z}{x:α}{c:aC}(hO:O=o.bind f)(e:o = .ok x c):O=f x c:=hO.trans (ao e)
theorem dS{α:Type}{o:Option α}(h:bp c o≠.fail):∃x,o=some x:=by
 cases o with|none=>exact aX rfl h|some x=>exact⟨x,rfl⟩
theorem jK(k:bq (bz l) aZ aP aI s V c)(R:Rel G X s.heap V c)
  (h:wpAny M A t (Ak (LX X V c) V s r) E s) (e:o' = .ok r c):wpAny M A t (CE G X (bz l) aZ aP aI o') E s:=
 bJ h (fun v s' ⟨⟨h',tk,e1,hk⟩,q⟩=>by
  subst e1;exact⟨r,c,V,e,k.trans (bq.of_keeps hk),R.keeps hk,q⟩) fun U U x=>x
theorem pg(k:bq (bz l) aZ aP aI s V c)(R:Rel G X s.heap V c)(q:VR s.heap (LX X V c) V v r)(e:o' = .ok r c):CE G X (bz l) aZ aP aI o' v s:=
 ⟨r,c,V,e,k,R,q⟩
theorem gS.hP(S:gS G A B l X aA aB m J s V c):∀a,LX X V c a->∃o,s.heap.get? a=some o:=fun a q=>by
 cases e:s.heap.get? a with
 |some o=>exact⟨o,rfl⟩|none=>exact aX q (S.rel.fresh e)
theorem wm(hk:aA.scope.kind = .function)(hn:s.heap.Ns aA.locals m)(hv:tO aA s.heap P m nm w)(hc:(nm==("__classdict__":Str))=false)(h:Q w s) :
  wpAny M A (loadName aA nm) Q E s:=by
 rcases hv with⟨h1,h2⟩|⟨h1,a,o,ha,ho,hd,_⟩
 ·exact wpAny_loadName_local hk h1 hn h2 h
 ·rcases h1 with h1|h1
  ·exact wpAny_loadName_cell hk h1 ha ⟨o,ho,hd⟩ h
  ·exact wpAny_loadName_free hk h1 ha ⟨o,ho,hd⟩ h hc
theorem cg(E0:cv aA sc)(bs:Bs G B)(sb:B.StaysIn s.heap)(hn:nsIn G.K mainGlobals nm=some (some v))(hx:sc.names.lookup nm=some .globalImplicit)
  (hd:(nm==("__debug__":Str))=false) (h:Q v s):wpAny M A (eval (.Name nm pos) aA) Q E s:=by
 refine ip bs.top fun mg mb hg hb U=>?_;refine Name_function_global E0.kind (by unfold Env.kindOf;rw[E0.sc];exact hx) (loadGlobal_global (mg:=mg) (by rw[E0.glob];exact hg.keeps sb) (mg_of bs.k hg hn) h) hd
theorem fX(E0:cv aA sc)(bs:Bs G B)(sb:B.StaysIn s.heap)(hn:nsIn G.K mainGlobals nm=some none)(hv:bootBuiltins nm=some v)(YR:nm≠("__name__":Str))(hx:sc.names.lookup nm=some .globalImplicit)
  (hd:(nm==("__debug__":Str))=false) (h:Q v s):wpAny M A (eval (.Name nm pos) aA) Q E s:=by
 refine ip bs.top fun mg mb hg hb YS=>?_;exact Name_function_global E0.kind (by unfold Env.kindOf;rw[E0.sc];exact hx) (loadGlobal_builtin (by rw[E0.glob];exact hg.keeps sb) (mg_none_of bs.k hg hn) (by rw[E0.bi];exact hb.keeps sb) ((YS nm YR).trans hv) h) hd
end
set_option backward.match.sparseCases false
section
variable{G:GC}{T:Tb}{W:dP}{D:Nat}{A:Around}{B:Heap}{l:List Env}{sc:Scope}{aB:List Str}
theorem IE{k:Nat}:dQ G T W A B l sc aB .none (.Constant .none k pos):=fun X aA m J s V c E0 S aK=>by
 rw[s8];exact wpAny_Constant_none ⟨_,_,_,rfl,.refl,S.rel,.none⟩
theorem IF{k:Nat}:dQ G T W A B l sc aB (.bool b) (.Constant (.bool b) k pos):=fun X aA m J s V c E0 S aK=>by
 rw[Hu];exact wpAny_Constant_bool ⟨_,_,_,rfl,.refl,S.rel,.bool b⟩
theorem MZ{i:Int}{k:Nat}:dQ G T W A B l sc aB (.int i) (.Constant (.int i) k pos):=fun X aA m J s V c E0 S aK=>by
 rw[mB];exact wpAny_Constant_int ⟨_,_,_,rfl,.tok,S.rel,.int i _⟩
theorem M0{k:Nat}:dQ G T W A B l sc aB (.str x) (.Constant (.str ⟨x.toArray⟩) k pos):=fun X aA m J s V c E0 S aK=>by
 rw[w5];exact wpAny_Constant_str ⟨_,_,_,rfl,.tok,S.rel,.str x _⟩
theorem uc{x:Nat}(hx:aB[x]?=some nm)(hd:(nm==("__debug__":Str))=false)(hc:(nm==("__classdict__":Str))=false):dQ G T W A B l sc aB (.loc x) (.Name nm pos):=fun X aA m J s V c E0 S aK=>by
 rw[cM]at aK⊢;cases q:J[x]? with
 |none=>rw[q]at aK;exact aX rfl aK|some o=>cases o with
  |none=>rw[q]at aK;exact aX rfl aK|some v=>
   refine ip (S.lo.var x v q) fun QX w h1 h2 h3=>?_;rw[hx]at h1;obtain rfl:=bE h1;exact wpAny_Name (wm E0.kind S.lo.ns h2 hc ⟨_,_,_,rfl,.refl,S.rel,h3⟩) hd
theorem QY(aG:Wd G T W D){g:Nat}(hg:T.wk[g]?=some (nm,v))(hv:∀B,Bs G B->VR B (fun U=>False) [] v (W.gl g))(hx:sc.names.lookup nm=some .globalImplicit)(hd:(nm==("__debug__":Str))=false) :
  dQ G T W A B l sc aB (.gl g) (.Name nm pos):=fun X aA m J s V c E0 S aK=>by
 rw[Di];exact cg E0 S.bs S.eW.base (aG.QW g nm v hg) hx hd ⟨_,_,_,rfl,.refl,S.rel,(hv B S.bs).pass (CK S)⟩
theorem M1(ho:jo o po=true)(ha:dQ G T W A B l sc aB a pa)(hb:dQ G T W A B l sc aB b pb):dQ G T W A B l sc aB (.bin o a b) (.BinOp pa po pb pos):=fun X aA m J s V c E0 S aK=>by
 have hO:=eqQ aK (n9 ..);have aK:=nh aK hO;refine wpAny_BinOp ?_;refine dq .refl (ha X aA m J s V c E0 S (aQ aK)) (c9 hO) fun va aT x a8 aR e k k1 R hx=>?_;have hO:=gs hO e;have aK:=ix aK e;refine dq k (hb X aA m J aT aR a8 E0 (S.step k R) (aQ aK)) (c9 hO) fun vb bI y bf bx e' k' k2 R' hy=>?_;have hO:=gs hO e';have aK:=ix aK e';obtain⟨r,hr⟩:=dS aK;have S':=S.step k' R';exact jK k' R' (EB ho (dK R' (hx.pass k2.ba)) (dK R' hy) hr S'.hP) (hO.trans (by rw[hr];rfl))
theorem EF(ha:dQ G T W A B l sc aB a pa):dQ G T W A B l sc aB (.neg a) (.UnaryOp .USub pa pos):=fun X aA m J s V c E0 S aK=>by
 have hO:=eqQ aK (MN ..);have aK:=nh aK hO;refine wpAny_UnaryOp ?_;refine dq .refl (ha X aA m J s V c E0 S (aQ aK)) (c9 hO) fun va aT x a8 aR e k k1 R hx=>?_;have hO:=gs hO e;have aK:=ix aK e;cases x with
 |int i=>exact jK k R (MW hx) hO|_=>exact aX rfl aK
theorem EG(ha:dQ G T W A B l sc aB a pa):dQ G T W A B l sc aB (.not_ a) (.UnaryOp .Not pa pos):=fun X aA m J s V c E0 S aK=>by
 have hO:=eqQ aK (UA ..);have aK:=nh aK hO;refine wpAny_UnaryOp ?_;refine dq .refl (ha X aA m J s V c E0 S (aQ aK)) (c9 hO) fun va aT x a8 aR e k k1 R hx=>?_;have hO:=gs hO e;have aK:=ix aK e;obtain⟨r,hr⟩:=dS aK;induction i7 hr with|mk b hb=>?_
 refine not_value (bJ (tS R hx hb) (fun t bI h=>?_) fun U U x=>x);obtain⟨⟨h',tk,e1,hk⟩,rfl⟩:=h;subst e1;exact⟨_,_,_,hO.trans (by rw[hb];rfl),k.trans (bq.of_keeps hk),R.keeps hk,.bool _⟩
theorem UL(k:bq (bz l) aZ aP aI s V c)(R:Rel G X s.heap V c)(hx:VR s.heap (LX X V c) V v x)(e:Internal.truthy c x=some b)
  (h:∀s',bq (bz l) s V c s' V c->bq (bz l) aZ aP aI s' V c->Rel G X s'.heap V c->VR s'.heap (LX X V c) V v x->aU b s'):wpAny (model G.prog G.w) A (PySem.truthy v) aU E s:=
 bJ (tS R hx e) (fun t bI qY=>by
  obtain⟨⟨h',tk,e1,hk⟩,rfl⟩:=qY;subst e1;exact h _ (bq.of_keeps hk) (k.trans (bq.of_keeps hk)) (R.keeps hk) (hx.pass (Pass.keeps hk))) fun U U x=>x
theorem yy(pos:Pos)(x y:Sem Value)(r:List (Sem Value)):boolOp pos .And (x::y::r)=(do
  let v <-x
  standAt pos
  let t <-holding [v] (PySem.truthy v)
  match t with
  |false=>pure v|true=>boolOp pos .And (y::r)):=by
 refine aY (Bind.bind x) (funext fun v=>aY (Bind.bind (standAt pos)) (funext fun U=>aY (Bind.bind (holding [v] (PySem.truthy v))) (funext fun t=>?_)));cases t<;>rfl
theorem CL(pos:Pos)(x y:Sem Value)(r:List (Sem Value)):boolOp pos .Or (x::y::r)=(do
  let v <-x
  standAt pos
  let t <-holding [v] (PySem.truthy v)
  match t with
  |true=>pure v|false=>boolOp pos .Or (y::r)):=by
 refine aY (Bind.bind x) (funext fun v=>aY (Bind.bind (standAt pos)) (funext fun U=>aY (Bind.bind (holding [v] (PySem.truthy v))) (funext fun t=>?_)));cases t<;>rfl
noncomputable def restOf(op:BoolOp)(pos:Pos):List Expr->Expr
 |[y]=>y|r=>.BoolOp op r pos
theorem oW(op:BoolOp)(pos:Pos)(y:Expr)(r:List Expr)(aA:Env):eval (restOf op pos (y::r)) aA=boolOp pos op (evalEach (y::r) aA):=by
 cases r with
 |nil=>rfl|cons z r=>rfl
theorem M2(ha:dQ G T W A B l sc aB a pa)(hb:dQ G T W A B l sc aB b (restOf .And pos (pb::r))):dQ G T W A B l sc aB (.and_ a b) (.BoolOp .And (pa::pb::r) pos):=fun X aA m J s V c E0 S aK=>by
 have hO:=eqQ aK (Dj ..);have aK:=nh aK hO;refine j9 (arm_eval_BoolOp ..)<|?_
 show wpAny _ _ (boolOp pos .And (eval pa aA::eval pb aA::evalEach r aA)) _ _ _;refine j9 (yy ..)<|?_
 refine aL (dq .refl (ha X aA m J s V c E0 S (aQ aK)) (c9 hO) fun va aT x a8 aR e k k1 R hx=>?_);have hO:=gs hO e;have aK:=ix aK e;refine i5 (Internal.truthy a8 x) (fun t ht=>?_) (fun ht=>?_)
 ·
  rw[ht]at aK hO;refine aL (de (aL (wpAny_holding (UL k R hx ht fun bI k2 k3 R2 Kl=>?_))));cases t with
  |false=>exact aW (pg k3 R2 Kl hO)|true=>
   show wpAny _ _ (boolOp pos .And (evalEach (pb::r) aA)) _ _ _;refine j9 (.symm (oW ..))<|?_
   exact dq k3 (hb X aA m J bI aR a8 E0 (S.step k3 R2) aK) (fun U U e=>hO.trans e) fun v fi y fY eZ e' k4 U R3 hy=>⟨_,_,_,hO.trans e',k4,R3,hy⟩
 ·rw[ht]at aK hO;exact aX rfl aK
theorem QZ(ha:dQ G T W A B l sc aB a pa)(hb:dQ G T W A B l sc aB b (restOf .Or pos (pb::r))):dQ G T W A B l sc aB (.or_ a b) (.BoolOp .Or (pa::pb::r) pos):=fun X aA m J s V c E0 S aK=>by
 have hO:=eqQ aK (Af ..);have aK:=nh aK hO;refine j9 (arm_eval_BoolOp ..)<|?_
 show wpAny _ _ (boolOp pos .Or (eval pa aA::eval pb aA::evalEach r aA)) _ _ _;refine j9 (CL ..)<|?_
 refine aL (dq .refl (ha X aA m J s V c E0 S (aQ aK)) (c9 hO) fun va aT x a8 aR e k k1 R hx=>?_);have hO:=gs hO e;have aK:=ix aK e;refine i5 (Internal.truthy a8 x) (fun t ht=>?_) (fun ht=>?_)
 ·
  rw[ht]at aK hO;refine aL (de (aL (wpAny_holding (UL k R hx ht fun bI k2 k3 R2 Kl=>?_))));cases t with
  |true=>exact aW (pg k3 R2 Kl hO)|false=>
   show wpAny _ _ (boolOp pos .Or (evalEach (pb::r) aA)) _ _ _;refine j9 (.symm (oW ..))<|?_
   exact dq k3 (hb X aA m J bI aR a8 E0 (S.step k3 R2) aK) (fun U U e=>hO.trans e) fun v fi y fY eZ e' k4 U R3 hy=>⟨_,_,_,hO.trans e',k4,R3,hy⟩
 ·rw[ht]at aK hO;exact aX rfl aK
theorem M3(ht:mL G T W A B l sc aB t pt)(ha:dQ G T W A B l sc aB a pa)(hb:dQ G T W A B l sc aB b pb):dQ G T W A B l sc aB (.ite t a b) (.IfExp pt pa pb pos):=fun X aA m J s V c E0 S aK=>by
 rw[w6]at aK⊢;refine wpAny_IfExp ?_;refine dq .refl (ht X aA m J s V c E0 S (aQ aK)) bC fun v aT x a8 aR e k k1 R hx=>?_;rw[ao e]at aK⊢;cases hx;cases v with
 |true=>exact dq k (ha X aA m J aT aR a8 E0 (S.step k R) aK) (fun U U e=>e) fun v fi y fY eZ e' k4 U R3 hy=>⟨_,_,_,e',k4,R3,hy⟩|false=>exact dq k (hb X aA m J aT aR a8 E0 (S.step k R) aK) (fun U U e=>e) fun v fi y fY eZ e' k4 U R3 hy=>⟨_,_,_,e',k4,R3,hy⟩
theorem fv(r:eL A D):A.units+64<cLine:=by have:=r.2;omega
theorem M4(r:eL A D)(ho:ir o po=true)(hm:behindInMarks po pb=false)(ha:dQ G T W A B l sc aB a pa)(hb:dQ G T W A B l sc aB b pb):dQ G T W A B l sc aB (.cmp o a b) (.Compare pa [po] [pb] pos):=fun X aA m J s V c E0 S aK=>by
 have hO:=eqQ aK (w7 ..);have aK:=nh aK hO;refine wpAny_Compare1 ?_ hm;refine dq .refl (ha X aA m J s V c E0 S (aQ aK)) (c9 hO) fun va aT x a8 aR e k k1 R hx=>?_;have hO:=gs hO e;have aK:=ix aK e;refine dq k (hb X aA m J aT aR a8 E0 (S.step k R) (aQ aK)) (c9 hO) fun vb bI y bf bx e' k' k2 R' hy=>?_;have hO:=gs hO e';have aK:=ix aK e';obtain⟨r',hr⟩:=dS aK;induction i7 hr with|mk b' kw=>?_
 exact iu ho (dK R' (hx.pass k2.ba)) (dK R' hy) kw (fv r) ⟨_,_,_,hO.trans (by rw[kw];rfl),k',R',.bool _⟩
end
theorem ci.EH{i:Nat}(hx:c[i]?=some x)(h:y.live=true->x.live=true)(q:ci V (c.set i y) b):ci V c b:=by
 obtain⟨j,p,z,h1,h2,h3,h4⟩:=q
 by_cases e:i=j
 ·subst e;rw[List.getElem?_set_self (by exact(dg.mp hx).1)]at h2
  obtain rfl:=bE h2;exact⟨i,p,x,h1,hx,h h3,h4⟩
 ·rw[g8 e]at h2;exact⟨j,p,z,h1,h2,h3,h4⟩
theorem fD.wn(hp:∀b,P' b->P b)(H:fD G h P V p x):fD G h P' V p x:=by
 have k:Pass h P V h P' V:=⟨fun b o e U=>⟨o.slots,e⟩,fun b q=>.inl (hp b q),fun U U e=>e⟩;cases x with
 |list l=>refine eP H fun e vs h1 z=>?_;exact⟨e,vs,h1,z.pass k⟩|dead l=>exact VR.pass k H|inst at_=>obtain⟨ox,od,es,n,I,e1,e2,e3,e4,e5,z,z2⟩:=H;exact⟨ox,od,es,n,I,e1,e2,fun q=>e3 (hp _ q),e4,e5,z.pass k,z2⟩
 |dict es=>refine eP H fun e gi d z=>?_;exact⟨e,gi,d,z.pass k⟩
theorem qZ(R:Rel G X h V c)(H:VR h (LX X V c) V v x)(e:fz c x = .ok x' c') :
  Rel G X h V c'/\VR h (LX X V c') V v x'/\(∀b,ci V c' b->ci V c b):=by
 have idem:∀{x},VR h (LX X V c) V v x->Rel G X h V c/\VR h (LX X V c) V v x/\(∀b,ci V c b->ci V c b):=fun H=>⟨R,H,fun U q=>q⟩;induction Tz e with
 |dead i l q=>induction H.i8 with|mk p hp=>exact idem (R.at_ i _ _ hp q)
 |keep x=>exact idem H|list i l q=>
  induction H.i8 with|mk p hp=>?_;have sub:∀b,ci V (c.set i (.dead l)) b->ci V c b:=fun b z=>z.EH q (fun h=>by exact eK h)
  have Q0:∀b,LX X V (c.set i (.dead l)) b->LX X V c b:=fun b z=>z.imp id (sub b);have k:Pass h (LX X V c) V h (LX X V (c.set i (.dead l))) V:=⟨fun b o e U=>⟨o.slots,e⟩,fun b q=>.inl (Q0 b q),fun U U e=>e⟩;refine eP (R.at_ i p _ hp q) fun e1 vs h1 h2=>?_;have lv:ci V c p.own:=⟨i,p,_,hp,q,rfl,rfl⟩;have nl :¬LX X V (c.set i (.dead l)) p.own:=by
   rintro(z|⟨j,p',y,a1,a2,a3,a4⟩)
   ·exact R.eB _ z lv
   ·by_cases ij:i=j
    ·subst ij;rw[List.getElem?_set_self (by exact(dg.mp q).1)]at a2
     obtain rfl:=bE a2;exact eK a3
    ·rw[g8 ij]at a2;exact R.apart j i p' p y _ a1 hp a2 q a3 rfl (Ne.symm ij) a4
  have aS:VR h (LX X V (c.set i (.dead l))) V (.ref p.ref) (.lst l):=by rw[e1];exact .lst h1.isList nl (h2.pass k)
  have ap:∀(i' j:Nat) p q x y,V[i']?=some p->V[j]?=some q->(c.set i (.dead l))[i']?=some x->(c.set i (.dead l))[j]?=some y->x.live=true->y.live=true->i'≠j->p.own≠q.own:=by
   intro i' j p' q' x y a1 a2 a3 a4 a5 a6 a7;have ne:∀{i':Nat}{x:Cell},(c.set i (.dead l))[i']?=some x->x.live=true->c[i']?=some x:=by
    intro i' x a3 a5
    by_cases ij:i=i'
    ·subst ij;rw[List.getElem?_set_self (by exact(dg.mp q).1)]at a3
     obtain rfl:=bE a3;exact eK a5
    ·rwa [g8 ij]at a3
   exact R.apart i' j p' q' x y a1 a2 (ne a3 a5) (ne a4 a6) a5 a6 a7
  refine⟨⟨by(refine .trans (R.len ..)<|?_;rw[List.length_set]),ap,R.fU,fun a ha z=>R.eB a ha (sub a z),fun j p' y a1 a2=>?_⟩,aS,sub⟩
  by_cases ij:i=j
  ·subst ij;rw[List.getElem?_set_self (by exact(dg.mp q).1)]at a2
   obtain rfl:=bE a2;rw[hp]at a1;obtain rfl:=bE a1;exact aS
  ·rw[g8 ij]at a2;exact(R.at_ j p' y a1 a2).wn Q0
theorem gT(c:aC)(x:AV):∃x' c',fz c x = .ok x' c':=by
 cases x with
 |ref i=>
  show ∃x' c',(match c[i]? with|some (.list l)=>.ok (.lst l) (c.set i (.dead l)) |some (.dead l)=>.ok (.lst l) c|_=>.ok (.ref i) c:aD AV) = .ok x' c'
  cases c[i]? with
  |none=>exact⟨_,_,rfl⟩|some y=>cases y<;>exact⟨_,_,rfl⟩
 |_=>exact⟨_,_,rfl⟩
theorem bq.fz(h:∀b,ci V c' b->ci V c b):bq F s V c s V c':=
 ⟨⟨_,_,rfl⟩,Ext.refl,fun U U e=>e,fun b q=>.inl (h b q),fun U o e=>⟨o,e⟩⟩
theorem ud:∀{l:List AV}{vs:List Value}{c c':aC}{l':List AV},Rel G X h V c->cN h (LX X V c) V vs l->s7 l c = .ok l' c'->
  Rel G X h V c'/\cN h (LX X V c') V vs l'/\(∀b,ci V c' b->ci V c b)
 |[],U,bG,dy,lP,R,H,e=>by cases H.nil_inv;induction jj e;exact⟨R,.nil,fun U q=>q⟩
 |a::l,U,c,c',bG,R,H,e=>by
  obtain⟨v,vs,x,xs⟩:=H.kX;obtain⟨x',a8,e1⟩:=gT c a;rw[jl]at e;rw[ao e1]at e;refine cH (qZ R x e1) fun R1 V1 L1=>?_;have k:Pass h (LX X V c) V h (LX X V a8) V:=⟨fun b o e U=>⟨o.slots,e⟩,fun b q=>.inl (q.imp id (L1 b)),fun U U e=>e⟩;refine MC (s7 l a8) (fun u3 bf e2=>?_) (fun m bf e2=>?_) (fun e2=>?_)
  ·
   rw[ao e2]at e;cases jj e;refine cH (ud R1 (xs.pass k) e2) fun R2 V2 L2=>?_;have k2:Pass h (LX X V a8) V h (LX X V c') V:=⟨fun b o e U=>⟨o.slots,e⟩,fun b q=>.inl (q.imp id (L2 b)),fun U U e=>e⟩;exact⟨R2,.cons (V1.pass k2) V2,fun b q=>L1 b (L2 b q)⟩
  ·rw[e2]at e;cases e
  ·rw[e2]at e;exact MD e
theorem iy:∀(l:List AV)(c:aC),∃l' c',s7 l c = .ok l' c'
 |[],c=>⟨_,_,rfl⟩|x::l,c=>by
  refine c6 (gT c x) fun x' a8 e1=>?_;refine c6 (iy l a8) fun l' bf e2=>?_;exact⟨_,_,by exact .trans (jl ..)<|.trans (ao e1 ..)<|(ao e2 ..)⟩
section
variable{G:GC}{T:Tb}{W:dP}{D:Nat}{A:Around}{B:Heap}{l:List Env}{sc:Scope}{aB:List Str}
theorem q9(h:behindInMarks p b=false):lastMarks [o,p] [a,b]=false:=h
theorem IG(r:eL A D)(EI:ir eQ yz=true)(EJ:ir fA qd=true)(hm:behindInMarks qd EL=false)
  (ha:dQ G T W A B l sc aB a pa) (hb:dQ G T W A B l sc aB b pb) (hd:dQ G T W A B l sc aB d EL):dQ G T W A B l sc aB (.ki eQ fA a b d) (.Compare pa [yz,qd] [pb,EL] pos):=fun X aA m J s V c E0 S aK=>by
 have hO:=eqQ aK (K8 ..);have aK:=nh aK hO;refine Compare_chain ?_ (q9 hm);refine dq .refl (ha X aA m J s V c E0 S (aQ aK)) (c9 hO) fun va aT x a8 aR e k k1 R hx=>?_;have hO:=gs hO e;have aK:=ix aK e;refine chain_link ?_;refine dq k (hb X aA m J aT aR a8 E0 (S.step k R) (aQ aK)) (c9 hO) fun vb bI y bf bx e' k' k2 R' hy=>?_;have hO:=gs hO e';have aK:=ix aK e';refine i5 (dz eQ (c7 bf x) (c7 bf y)) (fun t hc=>?_) (fun hc=>?_)
 ·
  rw[hc]at aK hO;refine iu EI (dK R' (hx.pass k2.ba)) (dK R' hy) hc (fv r) (wpAny_truthy_bool ?_);cases t with
  |false=>exact pg k' R' (.bool _) hO|true=>
   refine chain_last ?_;refine dq k' (hd X aA m J bI bx bf E0 (S.step k' R') (aQ aK)) (c9 hO) fun vd fi z fY eZ D0 Q1 k3 Hf hz=>?_;dsimp only at aK⊢;have hO:=gs hO D0;have aK:=ix aK D0;obtain⟨r',hr⟩:=dS aK;induction i7 hr with|mk b' kw=>?_
   exact iu EJ (dK Hf (hy.pass k3.ba)) (dK Hf hz) kw (fv r) (pg Q1 Hf (.bool _) (hO.trans (by rw[kw];rfl)))
 ·rw[hc]at aK hO;exact aX rfl aK
theorem M5(aG:Wd G T W D){g:Nat}(hg:T.wk[g]?=some (nm,v))(hx:sc.names.lookup nm=some .globalImplicit)(hd:(nm==("__debug__":Str))=false)
  (hr:∀B,Bs G B->∃l a,W.gl g = .tup l/\v = .ref a/\∀A E s x t b (Q:Value->Shared->Prop),B.StaysIn s.heap->fp (.str x) l=some b->(∀tk,Q (.bool b) {s with toks:=tk})->wpAny (model G.prog G.w) A (compareOp .In (.str ⟨x.toArray⟩ t) v) Q E s)
  (ha:dQ G T W A B l sc aB a pa):dQ G T W A B l sc aB (.inD a g) (.Compare pa [.In] [.Name nm np] pos):=fun X aA m J s V c E0 S aK=>by
 have hO:=eqQ aK (Pz ..);have aK:=nh aK hO;refine wpAny_Compare1 ?_ rfl;refine dq .refl (ha X aA m J s V c E0 S (aQ aK)) (c9 hO) fun va aT x a8 aR e k k1 R wQ=>?_;have hO:=gs hO e;have aK:=ix aK e;have S':=S.step k R;refine cg E0 S.bs S'.eW.base (aG.QW g nm v hg) hx hd ?_;refine ip (hr B S.bs) fun lk ad h1 fu h2=>?_;subst fu;cases x with
 |str x=>
  rw[h1]at aK hO;obtain⟨r',Q2⟩:=dS aK;induction i7 Q2 with|mk b' kw=>?_
  induction wQ.str_is with|mk t=>?_;refine h2 _ _ _ x t b' _ S'.eW.base kw fun tk=>⟨_,a8,aR,hO.trans (by dsimp only;rw[kw];rfl),k.trans .tok,R,.bool _⟩
 |_=>exact aX rfl aK
theorem ue:on G T W A B l sc aB [] []:=fun X aA m J s V c pos E0 S aK=>by
 rw[cI];exact args_nil ⟨_,_,_,rfl,.refl,S.rel,.nil⟩
theorem mM(hs:∀aA,starEach (pe::fM) aA=(false,eval pe aA)::starEach fM aA)(h:dQ G T W A B l sc aB e pe)(hr:on G T W A B l sc aB es fM):on G T W A B l sc aB (e::es) (pe::fM):=fun X aA m J s V c pos E0 S aK=>by
 have hO:=eqQ aK (bY ..);have aK:=nh aK hO;refine args_cons ?_ (hs aA);refine dq .refl (h X aA m J s V c E0 S (aQ aK)) (c9 hO) fun va aT x a8 aR e k k1 R hx=>?_;have hO:=gs hO e;have aK:=ix aK e;refine dq k (hr X aA m J aT aR a8 pos E0 (S.step k R) (aQ aK)) (c9 hO) fun vb bI y bf bx e' k' k2 R' hy=>?_;have hO:=gs hO e';exact⟨_,_,_,hO,k',R',.cons (hx.pass k2.ba) hy⟩
theorem bg(h:∀x p,pe≠.Starred x p)(aA:Env):starEach (pe::fM) aA=(false,eval pe aA)::starEach fM aA:=by
 cases pe<;>first|rfl|exact aX rfl (h _ _)
theorem uf:∀{es:List Ex}{c c':aC}{x:List AV},eV W J es c = .ok x c'->x.length=es.length
 |[],U,bG,dy,e=>by rw[cI]at e;induction jj e;rfl
 |a::es,c,c',x,e=>by
  rw[bY]at e;refine MC (ev W J a c) (fun v a8 h1=>?_) (fun m bf h1=>?_) (fun h1=>?_)
  ·
   rw[ao h1]at e;cases h2:eV W J es a8 with
   |ok vs bf=>rw[ao h2]at e;induction jj e;simp[uf h2]|exc m bf=>rw[h2]at e;cases e|fail=>rw[h2]at e;exact MD e
  ·rw[h1]at e;cases e
  ·rw[h1]at e;exact MD e
theorem Am:∀{l l':List AV}{c c':aC},s7 l c = .ok l' c'->l'.length=l.length
 |[],U,bG,dy,e=>by rw[A9]at e;induction jj e;rfl
 |a::l,l',c,c',e=>by
  rw[jl]at e;refine c6 (gT c a) fun x' a8 e1=>?_;rw[ao e1]at e;refine c6 (iy l a8) fun u3 bf e2=>?_;rw[ao e2]at e;induction jj e;simp[Am e2]
theorem cC{h:Heap}(o:Obj):∀b x,h.get? b=some x->(h.push o).get? b=some x:=fun b x e=>fQ _ e
theorem M6{es:List Ex}{fM:List Expr}{CM:Nat}{pos:Pos}(lu:es.length<=1000)(h:on G T W A B l sc aB es fM):dQ G T W A B l sc aB (.tup es) (.Tuple fM CM pos):=fun X aA m J s V c E0 S aK=>by
 have hO:=eqQ aK (w9 ..);have aK:=nh aK hO;refine wpAny_Tuple ?_;refine dq .refl (h X aA m J s V c pos E0 S (aQ aK)) (c9 hO) fun vs aT x a8 aR e k k1 R hx=>?_;have hO:=gs hO e;have aK:=ix aK e;refine c6 (iy x a8) fun l' bf e2=>?_;have hO:=gs hO e2;refine cH (ud R hx e2) fun R2 V2 L2=>?_;have hl:vs.length<=1000:=by rw[hx.length,uf e];exact lu
 have kp:=cC (h:=aT.heap) {cls:=.type "tuple",data:=.seq vs.toArray};refine⟨by rw[sizeLine_eq];omega,_,bf,aR,hO,(k.trans (bq.fz L2)).trans (bq.of_keeps kp),R2.keeps kp,.tup ⟨_,ez _ rfl,rfl,_,rfl⟩ (R2.fresh (eX (b5 _))) (V2.pass (Pass.keeps kp))⟩
inductive YT(G:GC)(X:Addr->Prop)(F:List Addr)(s:Shared)(V:Mu)(c:aC)(o:aD AV)(v:Value)(s':Shared):Prop
 |mk (a:Addr) (vs:List Value) (l:List AV) (c':aC) (bT:Mu) (h1:v = .ref a) (h2:o = .ok (.lst l) c') (h3:bq F s V c s' bT c') (h4:Rel G (fun b=>X b\/b=a) s'.heap bT c') (h5:nZ s'.heap a vs.toArray) (h6:cN s'.heap (LX (fun b=>X b\/b=a) bT c') bT vs l) (h7:s.heap.get? a=none)
noncomputable def Q3(G:GC)(T:Tb)(W:dP)(A:Around)(B:Heap)(l:List Env)(sc:Scope)(aB:List Str)(e:Ex)(pe:Expr):Prop:=
 ∀X aA m J s V c,cv aA sc->gS G A B l X aA aB m J s V c->ev W J e c≠.fail->
  wpAny (model G.prog G.w) A (eval pe aA) (YT G X (bz l) s V c (ev W J e c)) (Exc G X l s V c (ev W J e c)) s
theorem Rel.less(R:Rel G X' h V c)(hx:∀b,X b->X' b):Rel G X h V c:=
 ⟨R.len,R.apart,fun a q=>R.fU a (hx a q),fun a q=>R.eB a (hx a q),fun i p x a b=>(R.at_ i p x a b).wn fun b q=>q.imp (hx b) id⟩
theorem Rel.more{X:Addr->Prop}{h:Heap}{V:Mu}{c:aC}{a:Addr}{o:Obj}(R:Rel G X h V c)(hn:h.get? a=none)(hf:a=h.objs.size)(ho:o.isFreed=false):Rel G (fun b=>X b\/b=a) (h.push o) V c:=by
 subst hf;have k:=cC (h:=h) o;have R':=R.keeps k;refine⟨R.len,R.apart,fun b q=>?_,fun b q z=>?_,fun i p x e1 e2=>?_⟩
 ·rcases q with q|rfl
  ·exact R'.fU b q
  ·exact⟨_,ez _ ho⟩
 ·rcases q with q|rfl
  ·exact R.eB b q z
  ·exact R.fresh hn (.inr z)
 ·have H:=R.at_ i p x e1 e2;have kp:Pass h (LX X V c) V (h.push o) (LX (fun b=>X b\/b=h.objs.size) V c) V:=
   ⟨fun b o' e U=>⟨o'.slots,k b o' e⟩,fun b q=>by
    rcases q with(q|rfl) |q
    ·exact .inl (.inl q)
    ·exact .inr hn
    ·exact .inl (.inr q),fun U U e=>e⟩
  cases x with
  |list l=>refine eP H fun e vs h1 z=>?_;exact⟨e,vs,h1.keeps (k _),z.pass kp⟩|dead l=>exact VR.pass kp H|inst at_=>
   obtain⟨ox,od,es,n,I,e1,e2,e3,e4,e5,z,z2⟩:=H;exact⟨ox,od,es,n,mJ I k,e1,e2,kp.s9 I.at_ e3,e4,e5,z.pass kp,z2⟩
  |dict es=>refine eP H fun e gi d z=>?_;exact⟨e,gi,d.keep k,z.pass kp⟩
theorem Q3.toV(h:Q3 G T W A B l sc aB e pe):dQ G T W A B l sc aB e pe:=fun X aA m J s V c E0 S aK=>by
 refine bJ (h X aA m J s V c E0 S aK) (fun v s' ⟨a,vs,l',c',bT,e1,e2,k,R,hl,aS,hn⟩=>?_) fun U U x=>x;subst e1;have R':=R.less (X:=X) (fun b q=>.inl q);refine⟨_,c',bT,e2,k,R',.lst hl.isList ?_ (aS.pass ⟨fun b o e U=>⟨o.slots,e⟩,fun b q=>.inl (q.imp .inl id),fun U U e=>e⟩)⟩;rintro(q|q)
 ·obtain⟨o,ho⟩:=S.rel.fU a q;rw[hn]at ho;exact ak ho
 ·exact R.eB a (.inr rfl) q
theorem EM{es:List Ex}{fM:List Expr}{pos:Pos}(lu:es.length<=1000)(h:on G T W A B l sc aB es fM):Q3 G T W A B l sc aB (.lst es) (.List fM pos):=fun X aA m J s V c E0 S aK=>by
 have hO:=eqQ aK (mC ..);have aK:=nh aK hO;refine wpAny_List ?_;refine dq .refl (h X aA m J s V c pos E0 S (aQ aK)) (c9 hO) fun vs aT x a8 aR e k k1 R hx=>?_;have hO:=gs hO e;have aK:=ix aK e;refine c6 (iy x a8) fun l' bf e2=>?_;have hO:=gs hO e2;refine cH (ud R hx e2) fun R2 V2 L2=>?_;have hl:vs.length<=1000:=by rw[hx.length,uf e];exact lu
 have kp:=cC (h:=aT.heap) {cls:=.type "list",data:=.seq vs.toArray};have ym:aT.heap.get? aT.heap.objs.size=none:=eX (b5 _);refine⟨by rw[sizeLine_eq];omega,_,vs,l',bf,aR,rfl,hO,(k.trans (bq.fz L2)).trans (bq.of_keeps kp),R2.more ym rfl rfl,⟨_,_,ez _ rfl⟩,V2.pass ⟨fun b o e U=>⟨o.slots,kp b o e⟩,fun b q=>?_,fun U U e=>e⟩,?_⟩
 ·rcases q with(q|rfl) |q
  ·exact .inl (.inl q)
  ·exact .inr ym
  ·exact .inl (.inr q)
 ·cases q:s.heap.get? aT.heap.objs.size with
  |none=>rfl|some o=>
   obtain⟨o',e'⟩:=k.there _ o q;rw[ym]at e';exact ak e'
theorem Bs.sd(b:Bs G B)(sb:B.StaysIn h):G.K.In h:=b.k.keeps sb
noncomputable def noStar(fM:List Expr):Prop:=∀aA,∀x∈starEach fM aA,x.1=false
theorem dD(h:∀x p,pe≠.Starred x p)(hs:noStar fM):noStar (pe::fM):=fun aA x hx=>by
 rw[bg h aA]at hx;rcases b8.mp hx with rfl|hx
 ·rfl
 ·exact hs aA x hx
theorem eC:noStar []:=fun aA x hx=>nomatch hx
theorem eD(h:noStar fM)(pos:Pos)(aA:Env):(backTo pos (starEach fM aA)).any (·.1)=false:=by
 rw[List.any_eq_false];intro x hx;unfold backTo at hx;induction wY hx with|mk y hy=>?_
 simp[h aA y hy]
theorem An(r:eL A D)(aG:Wd G T W D){f:Nat}(hf:T.fns[f]?=some (nm,fa))
  (S:gS G A B l X aA aB m J s V c) (aK:((eV W J es c).bind fun vs c=>W.call f vs c)≠.fail) (e:eV W J es c = .ok x a8) (k:bq (bz l) s V c aT aR a8) (R:Rel G X aT.heap aR a8) (hx:cN aT.heap (LX X aR a8) aR vs x) :
  wpAny (model G.prog G.w) A (PySem.call (.ref fa) vs) (CE G X (bz l) s V c ((eV W J es c).bind fun vs c=>W.call f vs c)) (Exc G X l s V c ((eV W J es c).bind fun vs c=>W.call f vs c)) aT:=by
 rw[ao e]at aK⊢;have S':=S.step k R;exact dq k (aG.call f nm fa hf A B l X aT aR a8 vs x S.bs S'.eW R S.xb r hx aK) (fun U U e=>e) fun v fi y fY eZ e' k4 U R3 hy=>⟨_,_,_,e',k4,R3,hy⟩
theorem EN(r:eL A D)(aG:Wd G T W D){f:Nat}(hf:T.fns[f]?=some (nm,fa))(hx:sc.names.lookup nm=some .globalImplicit)(hd:(nm==("__debug__":Str))=false) :
  dQ G T W A B l sc aB (.call f []) (.Call (.Name nm np) [] [] pos):=fun X aA m J s V c E0 S aK=>by
 rw[fL]at aK⊢;refine Call_ (cg E0 S.bs S.eW.base (aG.PM f nm fa hf).1 hx hd ?_) rfl;exact callWith_K0 (S.bs.sd S.eW.base) (aG.PM f nm fa hf).2 (An r aG hf S aK (by exact(cI ..)) .refl S.rel .nil)
theorem Ao(r:eL A D)(aG:Wd G T W D){f:Nat}(hf:T.fns[f]?=some (nm,fa))(hx:sc.names.lookup nm=some .globalImplicit)(hd:(nm==("__debug__":Str))=false)
  (hs:∀x p,pe≠.Starred x p) (wo:noStar pr) (h:on G T W A B l sc aB es (pe::pr)):dQ G T W A B l sc aB (.call f es) (.Call (.Name nm np) (pe::pr) [] pos):=fun X aA m J s V c E0 S aK=>by
 rw[fL]at aK⊢;refine Call_ (cg E0 S.bs S.eW.base (aG.PM f nm fa hf).1 hx hd ?_) rfl;refine callWith_K (S.bs.sd S.eW.base) (aG.PM f nm fa hf).2 ?_ (bg hs aA) (eD wo pos aA);refine dq .refl (h X aA m J s V c pos E0 S (aQ aK)) bC fun vs aT x a8 aR e k k1 R hx=>?_;exact⟨S.bs.sd (S.step k R).eW.base,An r aG hf S aK e k R hx⟩
theorem Q4(r:eL A D)(aG:Wd G T W D)(hx:sc.names.lookup T.ab=some .globalImplicit)(hd:(T.ab==("__debug__":Str))=false)
  (hs:∀x p,pe≠.Starred x p) (wo:noStar pr) (h:on G T W A B l sc aB es (pe::pr)):dQ G T W A B l sc aB (.mk es) (.Call (.Name T.ab np) (pe::pr) [] pos):=fun X aA m J s V c E0 S aK=>by
 rw[Dk]at aK⊢;refine Call_ (cg E0 S.bs S.eW.base aG.TL.1 hx hd ?_) rfl;refine callWith_K (S.bs.sd S.eW.base) aG.TL.2 ?_ (bg hs aA) (eD wo pos aA);refine dq .refl (h X aA m J s V c pos E0 S (aQ aK)) bC fun vs aT x a8 aR e k k1 R hx=>?_;refine⟨S.bs.sd (S.step k R).eW.base,?_⟩;rw[ao e]at aK⊢;have S':=S.step k R;exact dq k (aG.make A B l X aT aR a8 vs x S.bs S'.eW R S.xb r hx aK) (fun U U e=>e) fun v fi y fY eZ e' k4 U R3 hy=>⟨_,_,_,e',k4,R3,hy⟩
theorem wp(b:wX):bootBuiltins (fV b)=some (.builtin (Kj b)):=by cases b<;>decide +kernel
theorem EO(b:wX):fV b∈mK:=by cases b<;>decide +kernel
theorem wq(b:wX):fV b≠("__name__":Str):=by cases b<;>decide +kernel
theorem tU(b:wX):(fV b==("__debug__":Str))=false:=by cases b<;>decide +kernel
theorem Q5(r:eL A D)(aG:Wd G T W D)(hb:pc b=[])(hx:sc.names.lookup (fV b)=some .globalImplicit)
  (hs:∀x p,pe≠.Starred x p) (wo:noStar pr) (h:on G T W A B l sc aB es (pe::pr)):dQ G T W A B l sc aB (.bi b es) (.Call (.Name (fV b) np) (pe::pr) [] pos):=fun X aA m J s V c E0 S aK=>by
 rw[kn]at aK⊢;refine Call_ (fX E0 S.bs S.eW.base (aG.bi _ (EO b)) (wp b) (wq b) hx (tU b) ?_) rfl;refine PyProof.Rows.callWith_builtin1 ?_ (bg hs aA) (eD wo pos aA);refine dq .refl (h X aA m J s V c pos E0 S (aQ aK)) bC fun vs aT x a8 aR e k k1 R hx=>?_;rw[ao e]at aK⊢;obtain⟨r',hr⟩:=dS aK;refine jK k R ?_ (by rw[hr];rfl)
 have:=qU (E:=Exc G X l s V c (bp a8 (builtin a8 b x))) R S.eW.handled hx hr
 rwa [hb,List.append_nil]at this
theorem mN:bootBuiltins (Str.ofString "tuple")=some (.type "tuple")/\bootBuiltins (Str.ofString "list")=some (.type "list"):=by constructor<;>decide +kernel
inductive UM(b:wX)(nm:Str):Prop
 |mk (mem:nm∈mK) (boot:bootBuiltins nm=some (.type (match b with| .isTup=>"tuple" |_=>"list"))) (n:nm≠("__name__":Str)) (d:(nm==("__debug__":Str))=false)
theorem CN(hb:(b = .isTup/\nm=Str.ofString "tuple")\/(b = .isList/\nm=Str.ofString "list")):UM b nm:=by
 rcases hb with⟨rfl,rfl⟩|⟨rfl,rfl⟩
 ·exact⟨by decide +kernel,mN.1,by decide +kernel,by decide +kernel⟩
 ·exact⟨by decide +kernel,mN.2,by decide +kernel,by decide +kernel⟩
theorem M7(r:eL A D)(aG:Wd G T W D)(hb:(b = .isTup/\nm=Str.ofString "tuple")\/(b = .isList/\nm=Str.ofString "list"))(hx:sc.names.lookup (fV b)=some .globalImplicit)(Kl:sc.names.lookup nm=some .globalImplicit)
  (hs:∀x p,pe≠.Starred x p) (h:dQ G T W A B l sc aB e pe):dQ G T W A B l sc aB (.bi b [e]) (.Call (.Name (fV b) np) [pe,.Name nm tp] [] pos):=fun X aA m J s V c E0 S aK=>by
 rw[kn]at aK⊢;refine Call_ (fX E0 S.bs S.eW.base (aG.bi _ (EO b)) (wp b) (wq b) hx (tU b) ?_) rfl;refine PyProof.Rows.callWith_builtin1 ?_ (bg hs aA) rfl;refine args_cons ?_ (bg hs aA);have e1:eV W J [e] c=(ev W J e c).bind fun v c=>.ok [v] c:=by
  refine .trans (bY ..)<|?_;congr 1
 rw[e1]at aK⊢;refine dq .refl (h X aA m J s V c E0 S (aQ (aQ aK))) (fun U U e=>bC _ _ (bC _ _ e)) fun va aT x a8 aR e k k1 R hx=>?_;rw[ao e]at aK⊢;have CO:bp a8 (builtin a8 b [x])≠.fail:=aK;obtain⟨r',hr⟩:=dS CO;have S':=S.step k R;obtain⟨IH,Q6,hn,YU⟩:=CN hb;refine args_cons (fX E0 S.bs S'.eW.base (aG.bi _ IH) Q6 hn Kl YU (args_nil ?_)) rfl;refine jK k R ?_ (show bp a8 (builtin a8 b [x])=_ by rw[hr];rfl)
 have:=qU (E:=Exc G X l s V c (bp a8 (builtin a8 b [x]))) (vs:=[va]) R S.eW.handled (.cons hx .nil) hr;rcases hb with⟨rfl,_⟩|⟨rfl,_⟩<;>exact this
noncomputable def fZ(o:Expr):Bool:=PySem.attributeBase.match_7 (fun _=>Bool) o (fun _ _ _=>true) fun _=>false
theorem UN{α:Type}{o:Expr}(h:fZ o=false)(F:Str->Pos->Pos->α)(w:α):PySem.attributeBase.match_7 (fun _=>α) o F (fun _=>w)=w:=by
 revert h;cases o with
 |Call f as ks p=>cases f with
  |Name n q=>cases as with
   |nil=>cases ks with
    |nil=>exact fun h=>PG h|cons U bG=>exact fun _=>Eq.refl w
   |cons U bG=>exact fun _=>Eq.refl w
  |_=>exact fun _=>Eq.refl w
 |_=>exact fun _=>Eq.refl w
theorem gj(h:fZ o=false):attributeBase o attr aA whole=whole:=UN h _ _
theorem YV{Q7:Bool}(hp:apos.endLine=pos.line):methodCallPos Q7 o aA apos pos=pure pos:=aO (by rw[hp,beq_self_eq_true,Bool.or_true])
theorem kY(ho:fZ o=false)(hs:noStar fM)(hn:fM.length<30)(hp:apos.endLine=pos.line) :
  eval (.Call (.Attribute o name apos) fM [] pos) aA=(do
   let ov <-eval o aA
   standAt apos.atName
   let(f,first) <-holding [ov] (getMethod ov name (do return(<-importBound o aA).getD true))
   callWith pos f first (backTo pos (starEach fM aA)) []):=by
 (refine .trans (arm_eval_Call ..)<|?_;rw[gj ho])
 have wu:(backTo pos (starEach fM aA)).all (!·.1)=true:=by
  rw[List.all_eq_true];intro x hx;have:=eD hs pos aA;rw[List.any_eq_false]at this;have:=this x hx;simpa using this
 have hf:methodCallForm (fM.length+([]:List Keyword).length) (backTo pos (starEach fM aA)) (backToKw pos (keywordEach [] aA))=true:=by
  unfold methodCallForm;rw[wu];simp[backToKw,show keywordEach [] aA=[]from rfl,hn]
 unfold methodCall;rw[hf];unfold calleeOf;rw[YV hp];rfl
end
theorem VR.str_inv(H:VR h P V v (.str x)):Dw x v:=H.str_is
inductive Q8(h:Heap)(P:Addr->Prop)(V:Mu)(o:Option DictEntry)(r:AV):Prop
 |mk (e:DictEntry) (h1:o=some e) (h3:VR h P V e.val r)
theorem tV{n k:List Nat}{t:Tok}:(Value.str ⟨n.toArray⟩ t).isStr ⟨k.toArray⟩=decide (n=k):=by
 simp only[Value.isStr]
 by_cases h:n=k
 ·subst h;simp
 ·rw[eO h,beq_eq_false_iff_ne];intro z;have:=aY Str.cps z;exact h (by simpa using this)
theorem qQ.look(H:qQ h P V es l){r:AV}:assoc k l=some r->Q8 h P V (es.find? (·.key.isStr ⟨k.toArray⟩)) r:=by
 induction H with
 |nil=>exact fun e=>ak e|@cons d es n t a l hk hv U ih=>
  intro e;rw[List.find?_cons,hk,tV];rw[uY]at e
  by_cases q:n=k
  ·obtain rfl:=bE ((aO q).symm.trans e);rw[decide_eq_true q];exact⟨_,rfl,hv⟩
  ·rw[eO q];exact ih ((aV q).symm.trans e)
section
variable{G:GC}{T:Tb}{W:dP}{D:Nat}{A:Around}{B:Heap}{l:List Env}{sc:Scope}{aB:List Str}
theorem EP(k:bq (bz l) aZ aP aI s V c)(R:Rel G X s.heap V c)
  (h:wpAny M A t (Ak (LX X V c) V s r) E aT) (e:o' = .ok r c):wpAny M A t (CE G X (bz l) aZ aP aI o') E aT:=
 bJ h (fun v s' ⟨⟨h',tk,e1,hk⟩,q⟩=>by
  subst e1;exact⟨r,c,V,e,k.trans (bq.of_keeps hk),R.keeps hk,q⟩) fun U U x=>x
theorem VR.handed(H:VR h P V v a):handedIn v=true:=
 H.casesOn (motive_1:=fun v U U=>handedIn v=true) rfl (fun U=>rfl) (fun U U=>rfl) (fun U U=>rfl) (fun U U U=>rfl) (fun U U U=>rfl) fun U=>rfl
theorem wx(aG:Wd G T W D)(bs:Bs G B)(sb:B.StaysIn s.heap)(R:Rel G X s.heap V c)(hn:n∈T.atts)(hv:VR s.heap (LX X V c) V v x)(e:eY c x n=some r){ex:Bool} :
  wpAny (model G.prog G.w) A (getAttr v ⟨n.toArray⟩ ex) (Ak (LX X V c) V s r) E s:=by
 induction Hp e with|mk j at_ hj ea=>?_;induction hv.i8 with|mk p hp=>?_
 obtain⟨ox,od,es,k,I,e1,e2,e3,e4,e5,z,z2⟩:=R.at_ _ _ _ hp hj;obtain⟨en,h1,h3⟩:=z.look ea;have hl:lookIn (⟨n.toArray⟩:Str) od=some (some en.val):=by
  unfold lookIn;rw[e5];dsimp only;rw[h1]
 have hf:handedIn en.val=true:=h3.handed;exact get_value (bs.sd sb) I (plainGet_of (aG.cls.1)).1 (findObj_own aG.cls.2 (aG.TM n hn) rfl hl) hf ⟨.tok,h3⟩
theorem II(aG:Wd G T W D){o:Ex}{po:Expr}{n:List Nat}{pos:Pos}(hb:fZ po=false)(hn:n∈T.atts)(ho:dQ G T W A B l sc aB o po):dQ G T W A B l sc aB (.attr o n) (.Attribute po ⟨n.toArray⟩ pos):=fun X aA m J s V c E0 S aK=>by
 have hO:=eqQ aK (tL ..);have aK:=nh aK hO;refine Attribute_any_ ?_ (by(refine .trans (arm_eval_Attribute ..)<|?_;rw[gj hb]))
 refine dq .refl (ho X aA m J s V c E0 S (aQ aK)) (c9 hO) fun va aT x a8 aR e k k1 R hx=>?_;have hO:=gs hO e;have aK:=ix aK e;obtain⟨r,hr⟩:=dS aK;exact jK k R (wx aG S.bs (S.step k R).eW.base R hn hx hr) (hO.trans (by rw[hr];rfl))
theorem M8(hs:∀a b p,pi≠.Slice a b none p)(ho:dQ G T W A B l sc aB o po)(hi:dQ G T W A B l sc aB i pi):dQ G T W A B l sc aB (.sub o i) (.Subscript po pi pos):=fun X aA m J s V c E0 S aK=>by
 have hO:=eqQ aK (j2 ..);have aK:=nh aK hO;refine Subscript_ ?_;refine dq .refl (ho X aA m J s V c E0 S (aQ aK)) (c9 hO) fun va aT x a8 aR e k k1 R hx=>?_;have hO:=gs hO e;have aK:=ix aK e;refine dq k (hi X aA m J aT aR a8 E0 (S.step k R) (aQ aK)) (c9 hO) fun vb bI y bf bx e' k' k2 R' hy=>?_;have hO:=gs hO e';have aK:=ix aK e';obtain⟨r,hr⟩:=dS aK;exact jK k' R' (Hy R' hs (hx.pass k2.ba) hy hr) (hO.trans (by rw[hr];rfl))
noncomputable def Ap(G:GC)(T:Tb)(W:dP)(A:Around)(B:Heap)(l:List Env)(sc:Scope)(aB:List Str)(e:Ex):Option Expr->Prop
 |none=>e = .none|some pe=>dQ G T W A B l sc aB e pe
theorem Aq(h:Ap G T W A B l sc aB e pe)(E0:cv aA sc)(S:gS G A B l X aA aB m J s V c)(aK:ev W J e c≠.fail) :
  wpAny (model G.prog G.w) A (evalPart pe aA) (CE G X (bz l) s V c (ev W J e c)) (Exc G X l s V c (ev W J e c)) s:=by
 cases pe with
 |none=>
  cases h;rw[s8];exact aW ⟨_,_,_,rfl,.refl,S.rel,.none⟩
 |some pe=>exact h X aA m J s V c E0 S aK
theorem M9{o lo hi:Ex}{po:Expr}{TN TO:Option Expr}{pos sp:Pos}(ho:dQ G T W A B l sc aB o po)(hl:Ap G T W A B l sc aB lo TN)(hh:Ap G T W A B l sc aB hi TO) :
  dQ G T W A B l sc aB (.jH o lo hi) (.Subscript po (.Slice TN TO none sp) pos):=fun X aA m J s V c E0 S aK=>by
 have hO:=eqQ aK (w8 ..);have aK:=nh aK hO;refine Subscript_ ?_;refine dq .refl (ho X aA m J s V c E0 S (aQ aK)) (c9 hO) fun va aT x a8 aR e k k1 R hx=>?_;have hO:=gs hO e;have aK:=ix aK e;refine wpAny_Slice ?_;refine dq k (Aq hl E0 (S.step k R) (aQ aK)) (c9 hO) fun vb bI y bf bx e' k' k2 R' hy=>?_;have hO:=gs hO e';have aK:=ix aK e';refine dq k' (Aq hh E0 (S.step k' R') (aQ aK)) (c9 hO) fun vd fi z fY eZ D0 Q1 k3 Hf hz=>?_;have hO:=gs hO D0;have aK:=ix aK D0;obtain⟨r,hr⟩:=dS aK;refine aW ?_;exact EP (s:=fi) Q1 Hf (Hz Hf ((hx.pass k2.ba).pass k3.ba) (hy.pass k3.ba) hz hr) (hO.trans (by rw[hr];rfl))
theorem Ma(b:PH)(h:Q (.builtin (Kk b),[.str x t]) s):wpAny M A (getMethod (.str x t) (pf b) pl) Q E s:=by
 cases b
 ·exact GM.lower h
 ·exact GM.find h
 ·exact GM.replace h
 ·exact GM.join h
theorem callWith_meth{id:String}{first:List Value}{fM:List Expr}{aA:Env}{Q:Value->Shared->Prop}(wo:noStar fM)
  (h:wpAny M A (spliced (backTo pos (starEach fM aA))) (fun vs aT=>wpAny M A (call (.builtin id) (first++vs)) Q E aT) E s):wpAny M A (callWith pos (.builtin id) first (backTo pos (starEach fM aA)) []) Q E s:=by
 cases fM with
 |nil=>
  refine callWith_method0 ?_;have:∀vs aT,vs=[]->wpAny M A (call (.builtin id) (first++vs)) Q E aT->wpAny M A (call (.builtin id) first) Q E aT:=fun vs aT e h=>by subst e;simpa using h
  have h':wpAny M A (pure ([]:List Value)) (fun vs aT=>wpAny M A (call (.builtin id) (first++vs)) Q E aT) E s:=h;intro Γ p Wi;exact this _ _ rfl (h' Γ p Wi) Γ p Wi
 |cons e r=>
  have he:starEach (e::r) aA=(false,eval e aA)::starEach r aA:=by
   refine bg (fun x p q=>?_) aA;subst q;have:=wo aA _ (d8 (l:=starEach r aA) (a:=(true,eval x aA)));exact PG this
  refine callWith_method1 h he ?_;refine eD (fun aA x hx=>?_) pos aA;refine wo aA x ?_;cases e with
  |Starred x p=>exact dO _ hx|_=>exact dO _ hx
theorem IJ(hb:fZ po=false)(wo:noStar fM)(hn:fM.length<30)(hp:apos.endLine=pos.line)(ho:dQ G T W A B l sc aB o po)(h:on G T W A B l sc aB es fM) :
  dQ G T W A B l sc aB (.iK b o es) (.Call (.Attribute po (pf b) apos) fM [] pos):=fun X aA m J s V c E0 S aK=>by
 have hO:=eqQ aK (K9 ..);have aK:=nh aK hO;refine j9 (kY hb wo hn hp ..)<|?_
 refine aL (dq .refl (ho X aA m J s V c E0 S (aQ aK)) (c9 hO) fun va aT x a8 aR e k k1 R hx=>?_);have hO:=gs hO e;have aK:=ix aK e;refine aL (de ?_);cases x with
 |str x=>?_|_=>exact aX rfl aK
 induction hx.str_inv with|mk t=>?_;dsimp only at aK⊢
 refine aL (wpAny_holding (Ma b ?_));refine callWith_meth wo ?_;refine dq k (h X aA m J aT aR a8 pos E0 (S.step k R) (aQ aK)) (c9 hO) fun vs bI y bf bx e' k' k2 R' hy=>?_;have hO:=gs hO e';have aK:=ix aK e';obtain⟨r,hr⟩:=dS aK;exact jK k' R' (CJ R' (hx.pass k2.ba) hy hr) (hO.trans (by rw[hr];rfl))
noncomputable def ug:Expr->Bool
 |.UnaryOp .Not ..=>false|.BoolOp ..=>false|.IfExp ..=>false|.Compare ..=>false|_=>true
set_option tactic.hygienic true in
theorem qe(h:ug e=true)(aA:Env)(whole:Sem Value):isTrue e aA whole=(do let v <-whole;standAt e.pos;holding [v] (PySem.truthy v)):=by
 cases e<;>first|rfl|exact eK h|skip
 rename_i op _ _;cases op<;>first|rfl|exact eK h
theorem IK(hv:ug pe=true)(h:dQ G T W A B l sc aB e pe):mL G T W A B l sc aB (.val e) pe:=fun X aA m J s V c E0 S aK=>by
 have hO:=eqQ aK (tK ..);have aK:=nh aK hO;refine wpAny_isTrue_value ?_ (qe hv aA _);refine dq .refl (h X aA m J s V c E0 S (aQ aK)) (c9 hO) fun va aT x a8 aR e k k1 R hx=>?_;have hO:=gs hO e;have aK:=ix aK e;obtain⟨b,hb⟩:=dS aK;exact UL k R hx hb fun s' U k' R' U=>⟨_,_,_,hO.trans (by rw[hb];rfl),k',R',rfl⟩
theorem IL(h:mL G T W A B l sc aB t pe):mL G T W A B l sc aB (.not_ t) (.UnaryOp .Not pe pos):=fun X aA m J s V c E0 S aK=>by
 have hO:=eqQ aK (K5 ..);have aK:=nh aK hO;refine wpAny_isTrue_Not ?_;refine dq .refl (h X aA m J s V c E0 S (aQ aK)) (c9 hO) fun va aT x a8 aR e k k1 R hx=>?_;have hO:=gs hO e;cases hx;exact⟨_,_,_,hO,k,R,rfl⟩
noncomputable def AllP(G:GC)(T:Tb)(W:dP)(A:Around)(B:Heap)(l:List Env)(sc:Scope)(aB:List Str)(op:BoolOp)(e:List Cd)(pe:List Expr):Prop:=
 ∀X aA m J s V c,cv aA sc->gS G A B l X aA aB m J s V c->(match op with| .And=>hV W J e c| .Or=>anyC W J e c)≠.fail->
  wpAny (model G.prog G.w) A (allTrue op pe aA) (UD G X (bz l) s V c (match op with| .And=>hV W J e c| .Or=>anyC W J e c)) (Exc G X l s V c (match op with| .And=>hV W J e c| .Or=>anyC W J e c)) s
theorem all_nil:AllP G T W A B l sc aB op [] []:=fun X aA m J s V c E0 S aK=>by
 cases op with
 |And=>exact wpAny_allTrue_And_nil ⟨_,_,_,by dsimp only;exact(qO ..),.refl,S.rel,rfl⟩
 |Or=>exact wpAny_allTrue_Or_nil ⟨_,_,_,by dsimp only;exact(u4 ..),.refl,S.rel,rfl⟩
theorem all_cons(h:mL G T W A B l sc aB t pe)(hr:AllP G T W A B l sc aB op ts fM):AllP G T W A B l sc aB op (t::ts) (pe::fM):=fun X aA m J s V c E0 S aK=>by
 cases op with
 |And=>
  dsimp only at aK⊢;rw[n8]at aK⊢;refine wpAny_allTrue_And_cons ?_;refine dq .refl (h X aA m J s V c E0 S (aQ aK)) bC fun va aT x a8 aR e k k1 R hx=>?_;rw[ao e]at aK⊢;cases hx;cases va with
  |true=>exact dq k (hr X aA m J aT aR a8 E0 (S.step k R) aK) (fun U U e=>e) fun v fi y fY eZ e' k4 U R3 hy=>⟨_,_,_,e',k4,R3,hy⟩|false=>exact⟨_,_,_,rfl,k,R,rfl⟩
 |Or=>
  dsimp only at aK⊢;rw[n7]at aK⊢;refine wpAny_allTrue_Or_cons ?_;refine dq .refl (h X aA m J s V c E0 S (aQ aK)) bC fun va aT x a8 aR e k k1 R hx=>?_;rw[ao e]at aK⊢;cases hx;cases va with
  |true=>exact⟨_,_,_,rfl,k,R,rfl⟩|false=>exact dq k (hr X aA m J aT aR a8 E0 (S.step k R) aK) (fun U U e=>e) fun v fi y fY eZ e' k4 U R3 hy=>⟨_,_,_,e',k4,R3,hy⟩
theorem IM(h:AllP G T W A B l sc aB .And ts fM):mL G T W A B l sc aB (.and_ ts) (.BoolOp .And fM pos):=fun X aA m J s V c E0 S aK=>by
 rw[Ad]at aK⊢;exact wpAny_isTrue_BoolOp (h X aA m J s V c E0 S aK)
theorem Mb(h:AllP G T W A B l sc aB .Or ts fM):mL G T W A B l sc aB (.or_ ts) (.BoolOp .Or fM pos):=fun X aA m J s V c E0 S aK=>by
 rw[Ae]at aK⊢;exact wpAny_isTrue_BoolOp (h X aA m J s V c E0 S aK)
theorem IN(r:eL A D)(ho:ir o po=true)(hm:behindInMarks po pb=false)(ha:dQ G T W A B l sc aB a pa)(hb:dQ G T W A B l sc aB b pb):mL G T W A B l sc aB (.cmp o a b) (.Compare pa [po] [pb] pos):=fun X aA m J s V c E0 S aK=>by
 have hO:=eqQ aK (fS ..);have aK:=nh aK hO;refine wpAny_isTrue_Compare1 ?_ hm;refine dq .refl (ha X aA m J s V c E0 S (aQ aK)) (c9 hO) fun va aT x a8 aR e k k1 R hx=>?_;have hO:=gs hO e;have aK:=ix aK e;refine dq k (hb X aA m J aT aR a8 E0 (S.step k R) (aQ aK)) (c9 hO) fun vb bI y bf bx e' k' k2 R' hy=>?_;have hO:=gs hO e';have aK:=ix aK e';obtain⟨b',kw⟩:=dS aK;exact iu ho (dK R' (hx.pass k2.ba)) (dK R' hy) kw (fv r) (wpAny_truthy_bool ⟨_,_,_,hO.trans (by rw[kw];rfl),k',R',rfl⟩)
theorem EQ(r:eL A D)(EI:ir eQ yz=true)(EJ:ir fA qd=true)(hm:behindInMarks qd EL=false)
  (ha:dQ G T W A B l sc aB a pa) (hb:dQ G T W A B l sc aB b pb) (hd:dQ G T W A B l sc aB d EL):mL G T W A B l sc aB (.ki eQ fA a b d) (.Compare pa [yz,qd] [pb,EL] pos):=fun X aA m J s V c E0 S aK=>by
 have hO:=eqQ aK (K6 ..);have aK:=nh aK hO;refine isTrue_chain ?_ (q9 hm);refine dq .refl (ha X aA m J s V c E0 S (aQ aK)) (c9 hO) fun va aT x a8 aR e k k1 R hx=>?_;have hO:=gs hO e;have aK:=ix aK e;refine test_link ?_;refine dq k (hb X aA m J aT aR a8 E0 (S.step k R) (aQ aK)) (c9 hO) fun vb bI y bf bx e' k' k2 R' hy=>?_;have hO:=gs hO e';have aK:=ix aK e';refine i5 (dz eQ (c7 bf x) (c7 bf y)) (fun t hc=>?_) (fun hc=>?_)
 ·
  rw[hc]at aK hO;refine iu EI (dK R' (hx.pass k2.ba)) (dK R' hy) hc (fv r) (wpAny_truthy_bool ?_);cases t with
  |false=>exact⟨_,_,_,hO,k',R',rfl⟩|true=>
   refine test_last ?_;refine dq k' (hd X aA m J bI bx bf E0 (S.step k' R') (aQ aK)) (c9 hO) fun vd fi z fY eZ D0 Q1 k3 Hf hz=>?_;dsimp only at aK hO;have hO:=gs hO D0;have aK:=ix aK D0;obtain⟨b',kw⟩:=dS aK;exact iu EJ (dK Hf (hy.pass k3.ba)) (dK Hf hz) kw (fv r) (wpAny_truthy_bool ⟨_,_,_,hO.trans (by rw[kw];rfl),Q1,Hf,rfl⟩)
 ·rw[hc]at aK hO;exact aX rfl aK
theorem IP(aG:Wd G T W D){g:Nat}(hg:T.wk[g]?=some (nm,v))(hx:sc.names.lookup nm=some .globalImplicit)(hd:(nm==("__debug__":Str))=false)
  (hr:∀B,Bs G B->∃l a,W.gl g = .tup l/\v = .ref a/\∀A E s x t b (Q:Value->Shared->Prop),B.StaysIn s.heap->fp (.str x) l=some b->(∀tk,Q (.bool b) {s with toks:=tk})->wpAny (model G.prog G.w) A (compareOp .In (.str ⟨x.toArray⟩ t) v) Q E s)
  (ha:dQ G T W A B l sc aB a pa):mL G T W A B l sc aB (.inD a g) (.Compare pa [.In] [.Name nm np] pos):=fun X aA m J s V c E0 S aK=>by
 have hO:=eqQ aK (K7 ..);have aK:=nh aK hO;refine wpAny_isTrue_Compare1 ?_ rfl;refine dq .refl (ha X aA m J s V c E0 S (aQ aK)) (c9 hO) fun va aT x a8 aR e k k1 R wQ=>?_;have hO:=gs hO e;have aK:=ix aK e;have S':=S.step k R;refine cg E0 S.bs S'.eW.base (aG.QW g nm v hg) hx hd ?_;refine ip (hr B S.bs) fun lk ad h1 fu h2=>?_;subst fu;cases x with
 |str x=>
  rw[h1]at aK hO;obtain⟨b',kw⟩:=dS aK;induction wQ.str_is with|mk t=>?_
  refine h2 _ _ _ x t b' _ S'.eW.base kw fun tk=>wpAny_truthy_bool ⟨_,a8,aR,hO.trans (by dsimp only;rw[kw];rfl),k.trans .tok,R,rfl⟩
 |_=>exact aX rfl aK
end
theorem lR.ns(n:h.Ns a m):lR h a:=by
 refine km n fun o es ep ho hd U=>?_;exact⟨o,ho,(fun U U e=>by rw[hd]at e;cases e),(fun e=>by rw[hd]at e;cases e)⟩
theorem lR.fields(ho:h.get? a=some o)(hd:o.data = .fields vs):lR h a:=
 ⟨o,ho,(fun U U e=>by rw[hd]at e;cases e),(fun e=>by rw[hd]at e;cases e)⟩
theorem lR.tup(x:lR h a)(y:IsTup h b fh):b≠a:=by
 rintro rfl;refine d9 x fun o ho h1 U=>?_;refine lw y fun o' om U n hd=>?_;rw[ho]at om;obtain rfl:=bE om;exact h1 _ _ hd
theorem lR.lst(x:lR h a)(y:h.IsList b fh):b≠a:=by
 rintro rfl;refine d9 x fun o ho h1 U=>?_;refine lw y fun o' om U n hd=>?_;rw[ho]at om;obtain rfl:=bE om;exact h1 _ _ hd
theorem ni(x:IsTup h b fh)(hb:Heap.ExtBut a h h')(ho:lR h a):IsTup h' b fh:=by
 have:=ho.tup x;refine au x fun o h1 r=>?_;exact⟨o,hb _ _ this h1,r⟩
theorem lS(x:h.IsList b fh)(hb:Heap.ExtBut a h h')(ho:lR h a):h'.IsList b fh:=by
 have:=ho.lst x;refine au x fun o h1 r=>?_;exact⟨o,hb _ _ this h1,r⟩
theorem nZ.but(x:nZ h b fh)(hb:Heap.ExtBut a h h')(ho:lR h a):nZ h' b fh:=by
 have:=ho.lst x.isList;refine c6 x fun n sl h1=>?_;exact⟨n,sl,hb _ _ this h1⟩
section
variable{h h':Heap}{P:Addr->Prop}{V:Mu}{a:Addr}
theorem VR.but(hb:Heap.ExtBut a h h')(ho:lR h a)(H:VR h P V v x):VR h' P V v x:=
 H.move (fun U U x p=>⟨ni x hb ho,p⟩) (fun U U x p=>⟨lS x hb ho,p⟩) fun U U e=>e
theorem cN.but(hb:Heap.ExtBut a h h')(ho:lR h a)(H:cN h P V vs l):cN h' P V vs l:=H.map fun U U x=>x.but hb ho
theorem qQ.but(hb:Heap.ExtBut a h h')(ho:lR h a)(H:qQ h P V es l):qQ h' P V es l:=H.rec .nil fun e x U ih=>.cons e (x.but hb ho) ih
theorem pZ.but(hb:Heap.ExtBut a h h')(ho:lR h a)(H:pZ h P V es l):pZ h' P V es l:=H.rec .nil fun x U ih=>.cons (x.but hb ho) ih
end
theorem ci.of{V:Mu}{c:aC}{i:Nat}{p:CA}{x:Cell}(h1:V[i]?=some p)(h2:c[i]?=some x)(h3:x.live=true):ci V c p.own:=⟨i,p,x,h1,h2,h3,rfl⟩
theorem lT(I:InstAt h x ox C (some od))(hd:ox.dict=some d)(hb:Heap.ExtBut a h h')(h1:x≠a)(h2:d≠a):InstAt h' x ox C (some od):=by
 obtain⟨e1,e2,e3,e4⟩:=I;refine⟨hb _ _ h1 e1,e2,e3,?_⟩;rw[hd]at e4⊢;exact hb _ _ h2 e4
theorem Rel.but{a:Addr}(R:Rel G X h V c)(hb:Heap.ExtBut a h h')(ho:lR h a)(hl :¬LX X V c a):Rel G X h' V c:=by
 refine⟨R.len,R.apart,fun b q=>?_,R.eB,fun i p x e1 e2=>?_⟩
 ·obtain⟨o,e⟩:=R.fU b q;exact⟨o,hb b o (by rintro rfl;exact hl (.inl q)) e⟩
 have H:=R.at_ i p x e1 e2;cases x with
 |list l=>refine eP H fun e vs h1 z=>?_;exact⟨e,vs,h1.but hb ho,z.but hb ho⟩|dead l=>exact VR.but hb ho H|inst at_=>
  obtain⟨ox,od,es,n,I,q1,q2,q3,q4,q5,z,z2⟩:=H;have hd:p.own≠a:=fun q=>hl (.inr (q▸ci.of e1 e2 rfl));refine⟨ox,od,es,n,lT I q1 hb ?_ hd,q1,q2,q3,q4,q5,z.but hb ho,z2⟩;rintro rfl;refine d9 ho fun o ho U h2=>?_;have:=I.at_;rw[ho]at this;obtain rfl:=bE this;exact h2 q2
 |dict es=>
  refine eP H fun e gi d z=>?_;refine⟨e,gi,?_,z.but hb ho⟩;have hd:p.own≠a:=fun q=>hl (.inr (q▸ci.of e1 e2 rfl));rw[Heap.dictOf_iff]at d⊢;refine au d fun o h1 r=>?_;exact⟨o,hb _ _ hd h1,r⟩
theorem bq.touch{tk:Nat}(k:bq F s V c aT aR a8)(hn:s.heap.get? a=none)(hb:Heap.ExtBut a aT.heap qY):bq F s V c {aT with heap:=qY,toks:=tk} aR a8:=by
 have ne:∀b o,s.heap.get? b=some o->b≠a:=fun b o e=>by rintro rfl;rw[hn]at e;exact ak e
 refine⟨?_,fun b o e hp=>?_,k.pre,k.new,fun b o e=>let⟨o',e'⟩:=k.there b o e;⟨o',hb _ _ (ne b o e) e'⟩⟩
 ·refine c6 k.same fun h' wy e=>?_;subst e;exact⟨_,_,rfl⟩
 ·refine Pa (k.ext b o e hp) fun h1 sl h2=>?_;exact⟨fun hf=>hb _ _ (ne b o e) (h1 hf),sl,hb _ _ (ne b o e) h2⟩
theorem FunFrames.but(hb:Heap.ExtBut a h h')(hs:∀o,h.get? a=some o->(∀vs,o.data≠.fields vs)->∃o',h'.get? a=some o'/\∀vs,o'.data≠.fields vs):∀{l:List Env},h.FunFrames base l->h'.FunFrames base l
 |[],U=>trivial|aA::r,⟨hk,⟨L,o,Hx,hn,ho,hd⟩,hr⟩=>by
  refine⟨hk,?_,FunFrames.but hb hs hr⟩
  by_cases q:L=a
  ·subst q;refine au (hs o ho hd) fun o' h1 h2=>?_;exact⟨L,o',Hx,hn,h1,h2⟩
  ·exact⟨L,o,Hx,hn,hb _ _ q ho,hd⟩
theorem n3.but(S:n3 G A B l h V c)(hb:Heap.ExtBut a h h')(hB:B.get? a=none)
  (hs:∀o,h.get? a=some o->(∀vs,o.data≠.fields vs)->∃o',h'.get? a=some o'/\∀vs,o'.data≠.fields vs) (Mc:a∈bz l->lR h' a):n3 G A B l h' V c:=
 ⟨S.frames,S.handled,FunFrames.but hb hs S.jm,fun b o e=>hb _ _ (by rintro rfl;rw[hB]at e;exact ak e) (S.base b o e),S.bl,S.nl,fun b m=>by
  by_cases q:b=a
  ·subst q;exact Mc m
  ·refine au (S.odd b m) fun o e z=>?_;exact⟨o,hb _ _ q e,z⟩⟩
theorem FunFrames.CP(hb:Heap.ExtBut a h h'):∀{l:List Env},a∉l.filterMap (·.frame)->h.FunFrames base l->h'.FunFrames base l
 |[],U,bG=>trivial|aA::r,ha,⟨hk,⟨L,o,Hx,hn,ho,hd⟩,hr⟩=>by
  rw[List.filterMap_cons,Hx]at ha;exact⟨hk,⟨L,o,Hx,hn,hb _ _ (fun q=>ha (q▸d8)) ho,hd⟩,FunFrames.CP hb (fun q=>ha (dO _ q)) hr⟩
theorem n3.CP(S:n3 G A B l h V c)(hb:Heap.ExtBut a h h')(hB:B.get? a=none)(ha:a∉bz l):n3 G A B l h' V c:=
 ⟨S.frames,S.handled,FunFrames.CP hb ha S.jm,fun b o e=>hb _ _ (by rintro rfl;rw[hB]at e;exact ak e) (S.base b o e),S.bl,S.nl,fun b m=>let⟨o,e,z⟩:=S.odd b m;⟨o,hb _ _ (fun q=>ha (q▸m)) e,z⟩⟩
theorem tO.but(hv:tO aA h P m nm w)(hb:Heap.ExtBut a h h')(ha:∀o,h.get? a=some o->∀w,o.data≠.cell w):tO aA h' P m nm w:=by
 rcases hv with h1|⟨h1,b,o,h2,h3,h4,h5⟩
 ·exact .inl h1
 ·refine .inr ⟨h1,b,o,h2,hb _ _ ?_ h3,h4,h5⟩;rintro rfl;exact ha o h3 _ h4
theorem Lo.but(D:Lo aA aB J h P V m)(hb:Heap.ExtBut a h h')(ho:lR h a)(ha:∀o,h.get? a=some o->∀w,o.data≠.cell w)(aK:aA.locals≠a):Lo aA aB J h' P V m:=by
 refine⟨D.ns.extBut hb aK,D.nl,fun x v hx=>?_⟩;refine ip (D.var x v hx) fun nm w h1 h2 h3=>?_;exact⟨nm,w,h1,h2.but hb ha,h3.but hb ho⟩
theorem qf{h:Heap}{a:Addr}{m:Str->Option Value}(n:h.Ns a m):∀o,h.get? a=some o->∀w,o.data≠.cell w:=by
 refine km n fun o' es ep ho hd U=>?_;intro o e w q;rw[ho]at e;obtain rfl:=bE e;rw[hd]at q;cases q
theorem f0{h:Heap}{a:Addr}{o:Obj}{vs:Array Value}(ho:h.get? a=some o)(hd:o.data = .fields vs):∀o,h.get? a=some o->∀w,o.data≠.cell w:=by
 intro o' e w q;rw[ho]at e;obtain rfl:=bE e;rw[hd]at q;cases q
theorem Lo.store{x:Nat}{v:AV}(D:Lo aA aB J h P V m)(nd:aB.Nodup)(hx:aB[x]?=some nm)
  (hk:aA.kindOf nm=some .local) (hn:h'.Ns aA.locals (fun y=>if y=nm then some w else m y)) (hs:Heap.SameBut aA.locals h h') (hv:VR h P V w v):Lo aA aB (J.set x (some v)) h' P V (fun y=>if y=nm then some w else m y):=by
 have od:lR h aA.locals:=.ns D.ns;refine⟨hn,D.nl,fun y v' hy=>?_⟩
 by_cases q:x=y
 ·subst q;have oX:x<(J.set x (some v)).length:=by
   rcases Nat.lt_or_ge x (J.set x (some v)).length with h|h
   ·exact h
   ·rw[List.getElem?_eq_none h]at hy;exact ak hy
  rw[List.getElem?_set_self (by simpa using oX)]at hy
  cases bE hy;exact⟨nm,w,hx,.inl ⟨hk,by simp⟩,hv.but hs.extBut od⟩
 ·rw[g8 q]at hy;refine ip (D.var y v' hy) fun QX w' h1 h2 h3=>?_;have ne:QX≠nm:=by
   rintro rfl;exact q ((List.getElem?_inj (dg.mp hx).1 nd).mp (hx.trans h1.symm))
  refine⟨QX,w',h1,?_,h3.but hs.extBut od⟩;refine Or.elim h2 (fun ng=>ng.elim fun h2 h4=>?_) (fun h2=>?_)
  ·exact .inl ⟨h2,by simp[ne,h4]⟩
  ·exact tO.but (m:=fun y=>if y=nm then some w else m y) (.inr h2) hs.extBut (qf D.ns)
section
variable{G:GC}{T:Tb}{W:dP}{D:Nat}{A:Around}{B:Heap}{l:List Env}{X:Addr->Prop}{aA:Env}{sc:Scope}{aB:List Str}{m:Str->Option Value}{J:Loc}{s aT:Shared}{V aR:Mu}{c a8:aC}
structure Nm(sc:Scope)(aB:List Str):Prop where
 nd:aB.Nodup
 fn:sc.kind = .function
noncomputable def Own(sc:Scope)(aB:List Str)(x:Nat)(nm:Str):Prop:=aB[x]?=some nm/\sc.names.lookup nm=some .local
theorem gS.store{x:Nat}{tk:Nat}(S:gS G A B l X aA aB m J s V c)(E0:cv aA sc)(N:Nm sc aB)(hB:B.get? aA.locals=none)(hx:Own sc aB x nm)
  (hn:h'.Ns aA.locals (fun y=>if y=nm then some w else m y)) (hs:Heap.SameBut aA.locals s.heap h') (hv:VR s.heap (LX X V c) V w v) :
  gS G A B l X aA aB (fun y=>if y=nm then some w else m y) (J.set x (some v)) {s with heap:=h',toks:=tk} V c:=by
 have od:lR s.heap aA.locals:=.ns S.lo.ns;refine km (id hn) fun o' YW YX om qR U=>?_;refine⟨S.bs,S.eW.but hs.extBut hB (fun o e U=>⟨o',om,fun vs q=>by rw[qR]at q;cases q⟩) (fun U=>.ns hn),S.rel.but hs.extBut od S.lo.nl,S.xb,S.lo.store N.nd hx.1 ?_ hn hs hv⟩
 unfold Env.kindOf;rw[E0.sc];exact hx.2
theorem qg{x:Nat}(S:gS G A B l X aA aB m J s V c)(E0:cv aA sc)(N:Nm sc aB)(hB:B.get? aA.locals=none)(hx:Own sc aB x nm)(hv:VR s.heap (LX X V c) V w v)
  (h:∀h' tk m',Heap.SameBut aA.locals s.heap h'->gS G A B l X aA aB m' (J.set x (some v)) {s with heap:=h',toks:=tk} V c->Q () {s with heap:=h',toks:=tk}):wpAny M A (storeName aA nm w) Q E s:=by
 refine wpAny_storeName_local ?_ S.lo.ns (fun h' hn hs=>h h' _ _ hs (S.store E0 N hB hx hn hs hv)) ?_
 ·unfold Env.kindOf;rw[E0.sc];exact hx.2
 ·rw[E0.kind];rfl
inductive gU(sc:Scope)(aB:List Str):List Nat->List Expr->Prop
 |nil:gU sc aB [] []|cons {x:Nat} {e:Expr} {xs:List Nat} {es:List Expr}:(∃nm p,e=Expr.Name nm p/\Own sc aB x nm)->gU sc aB xs es->gU sc aB (x::xs) (e::es)
noncomputable def lU(sc:Scope)(aB:List Str):lM->Expr->Prop
 |.one x,pt=>∃nm p,pt = .Name nm p/\Own sc aB x nm|.tup xs,pt=>∃fO k p,pt = .Tuple fO k p/\gU sc aB xs fO
theorem nj(aA:Env)(H:gU sc aB xs fO) :
  (assignEach fO aA).length=xs.length/\(assignEach fO aA).findIdx? (·.1)=none/\(assignEach fO aA).map (·.2)=fO.map fun e=>assign e aA:=by
 induction H with
 |nil=>exact⟨rfl,rfl,rfl⟩|cons hx U ih=>
  refine ji hx fun nm p fu U=>?_;subst fu;exact⟨aY (·+1) ih.1,(List.findIdx?_cons (xs:=assignEach _ aA)).trans (aY (Option.map (·+1)) ih.2.1),aY (assign (.Name nm p) aA::·) ih.2.2⟩
theorem uh(E0:cv aA sc)(N:Nm sc aB)(hB:B.get? aA.locals=none)(H:gU sc aB xs fO) :
  ∀{vs:List Value}{as:List AV}{J:Loc}{s:Shared}{m:Str->Option Value}{Q:Unit->Shared->Prop},
   xs.length=as.length->gS G A B l X aA aB m J s V c->cN s.heap (LX X V c) V vs as->
   (∀h' tk m',Heap.ExtBut aA.locals s.heap h'->gS G A B l X aA aB m' ((xs.zip as).foldl (fun J p=>J.set p.1 (some p.2)) J) {s with heap:=h',toks:=tk} V c->Q () {s with heap:=h',toks:=tk})->
   wpAny M A (assignInOrder (fO.map fun e=>assign e aA) vs) Q E s:=by
 induction H with
 |nil=>
  intro vs as J s m Q hl S aS h;cases as with
  |cons U bG=>exact nomatch hl
  |nil=>cases aS.nil_inv;exact wpAny_assignInOrder_none (h s.heap s.toks _ (fun U U U e=>e) S)
 |cons hx U ih=>
  intro vs as J s m Q hl S aS h;refine ji hx fun nm p fu ho=>?_;subst fu;cases as with
  |nil=>exact nomatch hl
  |cons a as=>
   induction aS.kX with|mk v vs x xs=>?_;refine wpAny_assignInOrder_more (wpAny_assign_Name (qg S E0 N hB ho x fun h' tk m' hs S'=>?_))
   refine ih (Nat.succ.inj hl) S' (xs.but hs.extBut (.ns S.lo.ns)) fun ik wy ER hb UO=>?_;exact h ik wy ER (hs.extBut.trans hb) UO
theorem gS.fresh{tk:Nat}(S:gS G A B l X aA aB m J s V c)(hb:Heap.ExtBut s.heap.objs.size s.heap h'):(∀b o,s.heap.get? b=some o->h'.get? b=some o)/\gS G A B l X aA aB m J {s with heap:=h',toks:=tk} V c:=by
 have k:∀b o,s.heap.get? b=some o->h'.get? b=some o:=fun b o e=>hb b o (fun q=>by subst q;exact aX (Heap.lt_size e) (Nat.lt_irrefl _)) e
 exact⟨k,S.step (bq.of_keeps k) (S.rel.keeps k)⟩
theorem nk(ht:lU sc aB t pt)(S:gS G A B l X aA aB m J s V c)(E0:cv aA sc)(N:Nm sc aB)(hB:B.get? aA.locals=none)
  (hv:VR s.heap (LX X V c) V v a) (e:br J t a=some aE)
  (h:∀h' tk m',Heap.ExtBut aA.locals s.heap h'->gS G A B l X aA aB m' aE {s with heap:=h',toks:=tk} V c->Q () {s with heap:=h',toks:=tk}):wpAny (model prog w) A (assign pt aA v) Q E s:=by
 induction Dh e with
 |one x v=>
  refine ji ht fun nm p fu ho=>?_;subst fu;exact wpAny_assign_Name (qg S E0 N hB ho hv fun h' tk m' hs S'=>h h' tk m' hs.extBut S')
 |tup xs l hl=>
  refine ly ht fun fO k p fu ho=>?_;subst fu;induction hv.tup_is with|mk ad vs h1 h3 h2=>?_
  refine cH (nj aA ho) fun q1 q2 q3=>?_;refine assign_Tuple_tuple S.eW.handled h1 (by(refine .trans (q1 ..)<|?_;rw[List.size_toArray,h3.length,hl])) q2 fun h' hb=>?_
  obtain⟨k,S'⟩:=S.fresh (tk:=s.toks) hb;rw[q3];refine uh E0 N hB ho hl S' (by simpa using h3.pass (Pass.keeps k)) fun ik wy ER kw UO=>?_
  exact h ik wy ER (fun b o ne e=>kw b o ne (k b o e)) UO
end
set_option backward.match.sparseCases true
inductive jG(h:Heap)(P:Addr->Prop)(V:Mu)(it:Addr):List AV->Prop
 |lst {a:Addr} {k:Nat} {vs:List Value} {l:List AV}:h.IsListIter it a k->h.IsList a vs.toArray->¬P a->cN h P V (vs.drop k) l->jG h P V it l|tup {a:Addr} {k:Nat} {vs:List Value} {l:List AV}:h.IsTupleIter it a k->IsTup h a vs.toArray->¬P a->cN h P V (vs.drop k) l->jG h P V it l|lO {x n:Nat} {l:List AV}:IsRangeIter h it (x:Int) (n:Int) 1->l=(List.range' x n).map (fun k=>.int (Int.ofNat k))->jG h P V it l
theorem jG.odd(I:jG h P V it l):lR h it/\∀o,h.get? it=some o->∀w,o.data≠.cell w:=by
 cases I with
 |lst h1 U bG dy=>refine d9 h1 fun o ho U hd=>?_;exact⟨.fields ho hd,f0 ho hd⟩|tup h1 U bG dy=>refine d9 h1 fun o ho U hd=>?_;exact⟨.fields ho hd,f0 ho hd⟩|lO h1 U=>exact⟨.fields h1 rfl,f0 h1 rfl⟩
theorem jG.there(I:jG h P V it l):∃o,h.get? it=some o:=let⟨⟨o,ho,_⟩,_⟩:=I.odd;⟨o,ho⟩
theorem jG.pass(I:jG h P V it l)(k:Pass h P V h' P' bT)(hi:∀o,h.get? it=some o->h'.get? it=some o):jG h' P' bT it l:=by
 cases I with
 |lst h1 h2 h3 h4=>exact .lst (h1.at hi) (mH h2 fun o ho=>k.ext _ o ho h3) (let⟨_,ho,_⟩:=h2;k.s9 ho h3) (h4.pass k)|tup h1 h2 h3 h4=>exact .tup (h1.at hi) (oU h2 fun o ho=>k.ext _ o ho h3) (let⟨_,ho,_⟩:=h2;k.s9 ho h3) (h4.pass k)|lO h1 h2=>exact .lO (hi _ h1) h2
theorem jG.but(I:jG h P V it l)(hb:Heap.ExtBut a h h')(ho:lR h a)(aK:it≠a):jG h' P V it l:=by
 cases I with
 |lst h1 h2 h3 h4=>exact .lst (h1.extBut hb aK) (lS h2 hb ho) h3 (h4.but hb ho)|tup h1 h2 h3 h4=>exact .tup (h1.extBut hb aK) (ni h2 hb ho) h3 (h4.but hb ho)|lO h1 h2=>exact .lO (hb _ _ aK h1) h2
set_option tactic.hygienic true in
theorem cN.drop_cons{h:Heap}{P:Addr->Prop}{V:Mu}{vs:List Value}{k:Nat}{x:AV}{l:List AV}(H:cN h P V (vs.drop k) (x::l)):∃v,vs[k]?=some v/\VR h P V v x/\cN h P V (vs.drop (k+1)) l:=by
 generalize hd:vs.drop k=d at H;cases H with
 |cons a b=>
  rename_i v r;have e1:vs[k]?=some v:=by
   have:(vs.drop k)[0]?=some v:=by rw[hd];rfl
   simpa using this
  refine⟨v,e1,a,?_⟩;have:vs.drop (k+1)=r:=by(refine .trans (.symm (List.tail_drop ..))<|?_;rw[hd]);rfl
  rw[this];exact b
theorem cN.drop_nil{h:Heap}{P:Addr->Prop}{V:Mu}{vs:List Value}{k:Nat}(H:cN h P V (vs.drop k) []):vs[k]?=none:=by
 generalize hd:vs.drop k=d at H;cases H with
 |nil=>exact List.getElem?_eq_none (List.drop_eq_nil_iff.mp hd)
section
variable{prog:Program}{w:PySem.World}{A:Around}{E:Value->Shared->Prop}{s:Shared}{P:Addr->Prop}{V:Mu}{it:Addr}
set_option tactic.hygienic true in
theorem jG.next{Q:Option Value->Shared->Prop}(I:jG s.heap P V it (x::l))
  (h:∀v h' tk,Heap.SameBut it s.heap h'->(∃o,h'.get? it=some o)->jG h' P V it l->VR s.heap P V v x->Q (some v) {s with heap:=h',toks:=tk}):wpAny (model prog w) A (pyNext (.ref it)) Q E s:=by
 cases I with
 |lst h1 h2 h3 h4=>
  refine d9 h4.drop_cons fun v e hv hr=>?_;have od:lR s.heap it:=by refine d9 h1 fun o ho U hd=>?_;exact .fields ho hd
  refine wpAny_pyNext_list_item h1 h2 (by simpa using e) fun h' k1 hs=>?_
  exact h v h' s.toks hs (let⟨o,ho,_⟩:=k1;⟨o,ho⟩) (.lst k1 (lS h2 hs.extBut od) h3 (hr.but hs.extBut od)) hv
 |tup h1 h2 h3 h4=>
  refine d9 h4.drop_cons fun v e hv hr=>?_;have od:lR s.heap it:=by refine d9 h1 fun o ho U hd=>?_;exact .fields ho hd
  refine next_tuple_item h1 h2 (by simpa using e) fun h' k1 hs=>?_
  exact h v h' s.toks hs (let⟨o,ho,_⟩:=k1;⟨o,ho⟩) (.tup k1 (ni h2 hs.extBut od) h3 (hr.but hs.extBut od)) hv
 |lO h1 h2=>
  rename_i y n;cases n with
  |zero=>cases h2|succ n=>
   rw[List.range'_succ]at h2;injection h2 with e1 e2
   subst e1;refine wpAny_pyNext_range_item h1 (by omega) fun h' k1 hs=>?_
   refine h _ h' _ hs ⟨_,k1⟩ (.lO (x:=y+1) (n:=n) ?_ e2) (.int _ _);have:((n+1:Nat):Int)-1=n:=by omega
   rw[this]at k1;exact k1
set_option tactic.hygienic true in
theorem jG.done{Q:Option Value->Shared->Prop}(hh:A.handled=none)(I:jG s.heap P V it [])
  (h:∀h',Heap.ExtBut it s.heap h'->Q none {s with heap:=h'}):wpAny (model prog w) A (pyNext (.ref it)) Q E s:=by
 cases I with
 |lst h1 h2 h3 h4=>exact wpAny_pyNext_list_end hh h1 h2 (by simpa using h4.drop_nil) h
 |tup h1 h2 h3 h4=>exact next_tuple_end hh h1 h2 (by simpa using h4.drop_nil) h
 |lO h1 h2=>
  rename_i y n;cases n with
  |zero=>exact wpAny_pyNext_range_end hh h1 (by omega) h
  |succ n=>rw[List.range'_succ]at h2;cases h2
theorem Q9{α:Type}{P:α->Prop}{target:Expr}{F:List Expr->Nat->Pos->α}{B:List Expr->Pos->α}{C:α}(hA:∀x y z,P (F x y z))(hB:∀x y,P (B x y))(hC:P C):P (PySem.letOwnedTupleGo.match_8 (fun _=>α) target F B fun _=>C):=by
 cases target<;>first|exact hC|exact hA _ _ _|exact hB _ _
theorem UP{α:Type}{P:α->Prop}{it:Addr}{v:Value}{F:Addr->Addr->α}{C:α}(hF:∀a,P (F it a))(hC:P C):P (PySem.letOwnedTupleGo.match_5 (fun _=>α) (.ref it,v) F fun _=>C):=by
 cases v<;>first|exact hC|exact hF _
theorem nq(ho:s.heap.get? it=some o)(hc:o.cls = .type n)(hd:o.data = .fields vs)
  (hn:["enumerate","zip","dict_itemiterator","dict_reverseitemiterator","odict_iterator","itertools.zip_longest","itertools.pairwise"].contains n=false) (h:Q () s):wpAny (model prog w) A (letOwnedTupleGo target (.ref it) v) Q E s:=by
 have body:∀a,wpAny (model prog w) A (do
   let o <-load it
   match o.cls,o.data with
   |.type n,.fields vs=>
    if["enumerate","zip","dict_itemiterator","dict_reverseitemiterator","odict_iterator","itertools.zip_longest","itertools.pairwise"].contains n&&vs[0]?==some (rawInt a) then
     rule "for.unpacks-the-owned-tuple"
     updateField it 0 .none
   |U,bG=>pure ()) Q E s:=fun a=>by
  refine aL (wpAny_load ho ?_);rw[hc,hd];dsimp only;rw[hn,Bool.false_and,aV Bool.false_ne_true];exact aW h
 unfold letOwnedTupleGo;refine Q9 (P:=fun t=>wpAny (model prog w) A t Q E s) (fun _ _ _=>?_) (fun _ _=>?_) (aW h)<;>exact UP (P:=fun t=>wpAny (model prog w) A t Q E s) (fun a=>body a) (aW h)
theorem jG.letGo(I:jG s.heap P V it l)(h:Q () s):wpAny (model prog w) A (letOwnedTupleGo target (.ref it) v) Q E s:=by
 cases I with
 |lst h1 U bG dy=>refine d9 h1 fun o ho hc hd=>?_;exact nq ho hc hd (by decide) h
 |tup h1 U bG dy=>refine d9 h1 fun o ho hc hd=>?_;exact nq ho hc hd (by decide) h
 |lO h1 U=>exact nq h1 rfl rfl (by decide) h
theorem jG.again(I:jG s.heap P V it l)(h:Q (.ref it) s):wpAny (model prog w) A (pyIter (.ref it)) Q E s:=by
 cases I with
 |lst h1 U bG dy=>exact wpAny_pyIter_listiter h1 h|tup h1 U bG dy=>exact wpAny_pyIter_tupleiter h1 h|lO h1 U=>exact wpAny_pyIter_rangeiter h1 h
theorem se{d:Nat}(h1:gens[d]?=some ⟨target,iter,ifs,0⟩)(h2:gens[d+1]?=none)(scope:Scope)(pos:Pos)(it acc:Value)(aA:Env) :
  compTurn (.ListComp elt gens scope pos) d it acc aA=(do
   standAt iter.pos
   match <-pyNext it with
   |none=>pure (.done .next)|some v=>
    letOwnedTupleGo target it v
    assign target aA v
    let mut ok:=true
    for c in ifs do
     if ok then ok <-isTrue c aA (eval c aA)
    if ok then
     (do let _ <-call (.builtin "list.append") [acc,<-eval elt aA])
    again (.compLoop (.ListComp elt gens scope pos) d it acc aA)):=by
 unfold compTurn;dsimp only;rw[h1];dsimp only;rw[h2];rfl
theorem ja{d:Nat}(h1:gens[d]?=some ⟨target,iter,ifs,0⟩)(h2:gens[d+1]?=none){it acc:Value}{aA:Env}(I:Nat->Shared->Prop)
  (turn:∀n s,I n s->wpAny (model prog w) A (pyNext it) (fun r aT=>match r with
   |none=>R (.ok .next) aT|some v=>wpAny (model prog w) A (letOwnedTupleGo target it v) (fun U wz=>wpAny (model prog w) A (assign target aA v) (fun U bI=>
    wpAny (model prog w) A (forIn ifs true fun c r=>if r=true then do let ok <-isTrue c aA (eval c aA);pure (ForInStep.yield ok) else pure (ForInStep.yield r)) (fun ok fi=>
     if ok=true then wpAny (model prog w) A (eval elt aA) (fun x xA=>
      wpAny (model prog w) A (call (.builtin "list.append") [acc,x]) (fun U zA=>∃m,m<n/\I m zA) (fun U U=>False) xA) (fun U U=>False) fi
     else ∃m,m<n/\I m fi) (fun U U=>False) bI) (fun U U=>False) wz) (fun U U=>False) aT) (fun U U=>False) s)
  (n:Nat) (h:I n s) :
  codeAny (model prog w) A (.compLoop (.ListComp elt gens scope pos) d it acc aA) R s:=by
 refine codeAny_loop rfl I (fun n s hI=>?_) n h;show wpAny _ A ((compTurn (.ListComp elt gens scope pos) d it acc aA).onRaise (fun x=>do noteFrame x aA;theTreesLotGoes x)) _ _ s
 refine wpAny_noted ?_;refine j9 (se h1 h2 ..)<|?_
 refine aL (de (aL (bJ (turn n s hI) (fun r aT jp=>?_) fun U U h'=>h'.elim)));cases r with
 |none=>exact aW jp|some v=>
  refine aL (bJ jp (fun U wz ES=>?_) fun U U h'=>h'.elim);refine aL (bJ ES (fun U bI qY=>aL (bJ qY (fun ok fi sg=>?_) fun U U h'=>h'.elim)) fun U U h'=>h'.elim);cases ok with
  |false=>exact aW ⟨rfl,sg⟩|true=>
   exact aL (aL (bJ sg (fun x xA Md=>aL (bJ Md (fun U zA IQ=>aW (aW ⟨rfl,IQ⟩)) fun U U h'=>h'.elim)) fun U U h'=>h'.elim))
theorem sh(scope:Scope)(pos:Pos)(it acc:Value)(aA:Env)(hs:∀x,foldedSetIterable bU aA x=pure x) :
  compTurn (.ListComp elt [⟨target,iter,[],0⟩,⟨bh,bU,[],0⟩] scope pos) 0 it acc aA=(do
   standAt iter.pos
   match <-pyNext it with
   |none=>pure (.done .next)|some v=>
    letOwnedTupleGo target it v
    assign target aA v
    let x <-eval bU aA
    standAt bU.pos
    let _ <-runOwn (.compStart (.ListComp elt [⟨target,iter,[],0⟩,⟨bh,bU,[],0⟩] scope pos) 1 (<-holding [x] (pyIter x)) acc aA) aA
    again (.compLoop (.ListComp elt [⟨target,iter,[],0⟩,⟨bh,bU,[],0⟩] scope pos) 0 it acc aA)):=by
 unfold compTurn;dsimp only;simp only[List.getElem?_cons_zero,List.getElem?_cons_succ,hs];rfl
end
set_option backward.match.sparseCases false
section
variable{G:GC}{T:Tb}{W:dP}{D:Nat}{A:Around}{B:Heap}{l:List Env}{X:Addr->Prop}{aA:Env}{sc:Scope}{aB:List Str}{m:Str->Option Value}{J:Loc}{s aT:Shared}{V aR:Mu}{c a8:aC}
theorem gS.but{tk:Nat}(S:gS G A B l X aA aB m J s V c)(hb:Heap.ExtBut a s.heap h')(hf:∃o vs,s.heap.get? a=some o/\o.data = .fields vs)(hl :¬LX X V c a)(hB:B.get? a=none) :
  gS G A B l X aA aB m J {s with heap:=h',toks:=tk} V c:=by
 refine ji hf fun o vs ho hd=>?_;have od:lR s.heap a:=.fields ho hd;have aK:aA.locals≠a:=by
  rintro rfl;refine km S.lo.ns fun o' es ep om qR U=>?_;rw[ho]at om;obtain rfl:=bE om;rw[hd]at qR;cases qR
 refine⟨S.bs,S.eW.CP hb hB fun q=>?_,S.rel.but hb od hl,S.xb,S.lo.but hb od (f0 ho hd) aK⟩;refine eP (S.eW.jm.mem q) fun U o' om qR=>?_;rw[ho]at om;obtain rfl:=bE om;exact qR vs hd
theorem ee(hb:Heap.ExtBut a h h')(ha:P a):Pass h P V h' P V:=
 ⟨fun b o e hp=>⟨o.slots,hb b o (by rintro rfl;exact hp ha) e⟩,fun b q=>.inl q,fun U U e=>e⟩
theorem Rel.TP(R:Rel G X h V c)(ha:X a)(hb:Heap.ExtBut a h h')(he:∃o,h'.get? a=some o):Rel G X h' V c:=by
 have k:Pass h (LX X V c) V h' (LX X V c) V:=ee hb (.inl ha);have own:∀{i:Nat}{p:CA}{x:Cell},V[i]?=some p->c[i]?=some x->x.live=true->p.own≠a:=fun h1 h2 h3 q=>R.eB a ha (q▸ci.of h1 h2 h3);refine⟨R.len,R.apart,fun b q=>?_,R.eB,fun i p x e1 e2=>?_⟩
 ·by_cases e:b=a
  ·subst e;exact he
  ·obtain⟨o,ho⟩:=R.fU b q;exact⟨o,hb b o e ho⟩
 have H:=R.at_ i p x e1 e2;cases x with
 |list l=>refine eP H fun e vs h1 z=>?_;exact⟨e,vs,h1.keeps fun o ho=>hb _ _ (own e1 e2 rfl) ho,z.pass k⟩|dead l=>exact VR.pass k H|inst at_=>
  obtain⟨ox,od,es,n,I,q1,q2,q3,q4,q5,z,z2⟩:=H;exact⟨ox,od,es,n,lT I q1 hb (fun q=>q3 (.inl (q▸ha))) (own e1 e2 rfl),q1,q2,q3,q4,q5,z.pass k,z2⟩
 |dict es=>
  refine eP H fun e gi d z=>?_;refine⟨e,gi,?_,z.pass k⟩;rw[Heap.dictOf_iff]at d⊢;refine au d fun o h1 r=>?_;exact⟨o,hb _ _ (own e1 e2 rfl) h1,r⟩
theorem gS.TP{tk:Nat}(S:gS G A B l X aA aB m J s V c)(ha:X a)(hb:Heap.ExtBut a s.heap h')(he:∃o,h'.get? a=some o/\∀vs,o.data≠.fields vs) :
  gS G A B l X aA aB m J {s with heap:=h',toks:=tk} V c:=by
 refine au he fun o ho hd=>?_;exact⟨S.bs,S.eW.CP hb (S.xb a ha).1 (S.xb a ha).2,S.rel.TP ha hb ⟨o,ho⟩,S.xb,S.lo.pass (ee hb (.inl ha))⟩
theorem tW{E:Value->Shared->Prop}{a:Addr}{am:Array Value}{x:Value}{Q:Value->Shared->Prop}(hl:nZ s.heap a am)
  (hQ:∀h',nZ h' a (am.push x)->Heap.SameBut a s.heap h'->Q .none {s with heap:=h'}) (lu:am.size<=sizeLine) :
  wpAny (model G.prog G.w) A (call (.builtin "list.append") [.ref a,x]) Q E s:=by
 refine c6 hl fun n sl ho=>?_;refine wpAny_call_entry slot_list_append ⟨_,ho,rfl⟩ entry_list_append ?_ (args_list_append _ _);show wpAny _ _ (updateSeq a (·.push x)>>=fun U=>ret .none) _ _ s;refine aL ?_;have e:Obj.mapSeq (·.push x) {cls:=.type "list",dict:=none,data:=.seq am n,slots:=sl}={cls:=.type "list",dict:=none,data:=.seq (am.push x) (n+1),slots:=sl}:=by simp[Obj.mapSeq]
 refine wpAny_updateSeq ho rfl (aW ⟨.none,rfl,hQ _ ⟨n+1,sl,?_⟩ (Heap.SameBut.update ..)⟩)
 (refine .trans (Heap.get?_update_self _ ho (by rw[e];rfl) ..)<|?_;rw[e])
noncomputable def lM.idx:lM->List Nat
 |.one x=>[x]|.tup xs=>xs
theorem jq{x:Nat}:∀(ps:List (Nat×AV))(J:Loc),(∀p∈ps,p.1≠x)->J[x]?=some (some w)->(ps.foldl (fun J p=>J.set p.1 (some p.2)) J)[x]?=some (some w)
 |[],U,bG,e=>e|p::ps,J,h,e=>jq ps (J.set p.1 (some p.2)) (fun q hq=>h q (dO _ hq)) (by refine .trans (g8 (h p d8) ..)<|?_;exact e)
theorem zB{x:Nat}(e:br J t v=some aE)(hx:x∉t.idx)(h:J[x]?=some (some w)):aE[x]?=some (some w):=by
 induction Dh e with
 |one y v=>refine .trans (g8 (by rintro rfl;exact hx (by simp[lM.idx])) ..)<|?_;exact h
 |tup xs l U=>
  refine jq _ _ (fun p hp=>?_) h;rintro rfl;exact hx (List.of_mem_zip hp).1
theorem gS.Ar(S:gS G A B l X aA aB m aE s V c)(e:br J t v=some aE)(hf:∀x∈t.idx,∀v,J[x]?≠some (some v)):gS G A B l X aA aB m J s V c:=by
 refine⟨S.bs,S.eW,S.rel,S.xb,S.lo.ns,S.lo.nl,fun x v hx=>?_⟩;have hn:x∉t.idx:=fun q=>hf x q v hx;exact S.lo.var x v (zB e hn hx)
noncomputable def IR(G:GC)(T:Tb)(W:dP)(A:Around)(B:Heap)(l:List Env)(sc:Scope)(aB:List Str)(cs:List Cd)(fM:List Expr):Prop:=
 (cs=[]/\fM=[])\/∃t pe,cs=[t]/\fM=[pe]/\mL G T W A B l sc aB t pe
theorem Me(h:IR G T W A B l sc aB cs fM)(E0:cv aA sc)(S:gS G A B l X aA aB m J s V c)(aK:hV W J cs c≠.fail) :
  wpAny (model G.prog G.w) A (forIn fM true fun c r=>if r=true then do let ok <-isTrue c aA (eval c aA);pure (ForInStep.yield ok) else pure (ForInStep.yield r))
   (UD G X (bz l) s V c (hV W J cs c)) (Exc G X l s V c (hV W J cs c)) s:=by
 rcases h with⟨rfl,rfl⟩|⟨t,pe,rfl,rfl,h⟩
 ·rw[qO];exact aW ⟨_,_,_,rfl,.refl,S.rel,rfl⟩
 ·have e1:hV W J [t] c=(eS W J t c).bind fun b c=>if b then .ok true c else .ok false c:=by
   refine .trans (n8 ..)<|?_;congr 1
  rw[e1]at aK⊢;refine wpAny_tests_one ?_;refine dq .refl (h X aA m J s V c E0 S (aQ aK)) bC fun va aT x a8 aR e k k1 R hx=>?_;rw[ao e];cases hx;exact⟨va,_,_,by cases va<;>rfl,k,R,rfl⟩
noncomputable def j3(W:dP)(base:Loc)(t:lM)(cond:List Cd)(elt:Ex):AV->aC->aD (List AV):=fun v c=>match br base t v with
 |some aE=>(hV W aE cond c).bind fun b c=>if b then(ev W aE elt c).bind fun x c=>(fz c x).bind fun x c=>.ok [x] c else .ok [] c|none=>.fail
inductive Mf{α Z:Type}(o:aD α)(f:α->aC->aD Z)(b:Z)(c:aC):Prop
 |mk (a:α) (c':aC) (h1:o = .ok a c') (h2:f a c' = .ok b c)
theorem aD.cK{α Z:Type}{o:aD α}{f:α->aC->aD Z}{b:Z}{c:aC}(h:o.bind f = .ok b c):Mf o f b c:=by
 cases o with
 |ok a c'=>exact⟨a,c',rfl,h⟩|exc m c'=>cases h|fail=>exact MD h
theorem ET{α:Type}{o:aD α}{a:α}{c:aC}(h:o = .ok a c):o≠.fail:=by rw[h];intro q;cases q
theorem Exc.absurd{α:Type}{o:aD α}{a:α}{c':aC}{e:Value}{s':Shared}(h:o = .ok a c')(x:Exc G X l s V c o e s'):False:=by
 obtain⟨m,c'',_,_,h1,_⟩:=x;rw[h]at h1;cases h1
theorem As{α Z:Type}{tr:Sem Z}{F:List Addr}{Rl:Heap->(Addr->Prop)->Mu->Z->α->Prop}{o:aD α}{x:α}{c':aC}{Q:Z->Shared->Prop}{E:Value->Shared->Prop}(h1:wpAny M A tr (QJ G X F Rl s V c o) (Exc G X l s V c o) s)(e:o = .ok x c')
  (h2:∀v aT aR,bq F s V c aT aR c'->Rel G X aT.heap aR c'->Rl aT.heap (LX X aR c') aR v x->Q v aT):wpAny M A tr Q E s:=by
 subst e;refine bJ h1 (fun v aT h=>?_) fun U U q=>(Exc.absurd rfl q).elim;obtain⟨x',c'',bT,e,k,R,q⟩:=h;induction jj e;exact h2 v aT bT k R q
theorem jG.fld(I:jG h P V It rem):∃o vs,h.get? It=some o/\o.data = .fields vs:=by
 cases I with
 |lst h1 U bG dy=>refine d9 h1 fun o ho U hd=>?_;exact⟨o,_,ho,hd⟩|tup h1 U bG dy=>refine d9 h1 fun o ho U hd=>?_;exact⟨o,_,ho,hd⟩|lO h1 U=>exact⟨_,_,h1,rfl⟩
theorem jG.step(S:gS G A B l X aA aB m J s V c)(k:bq (bz l) s V c aT aR a8)(I:jG s.heap (LX X V c) V It rem)(n :¬LX X V c It):jG aT.heap (LX X aR a8) aR It rem/\¬LX X aR a8 It:=by
 have nf:It∉bz l:=fun q=>by
  refine eP (S.eW.jm.mem q) fun U o ho hd=>?_;refine ji I.fld fun o' vs om qR=>?_;rw[ho]at om;obtain rfl:=bE om;exact hd _ qR
 obtain⟨o3,YY⟩:=I.there;exact⟨I.pass k.ba fun o ho=>(k.ext _ o ho fun q=>n (.inr q)).1 nf,k.ba.s9 YY n⟩
theorem jG.EU(I:jG h P V It rem)(n:h.Ns L m):It≠L:=by
 rintro rfl;refine km n fun o' es ep om qR U=>?_;refine ji I.fld fun o vs ho hd=>?_;rw[ho]at om;obtain rfl:=bE om;rw[hd]at qR;cases qR
structure Lp(G:GC)(A:Around)(B:Heap)(l:List Env)(X:Addr->Prop)(aA:Env)(aB:List Str)(J:Loc)(It Dc:Addr)(cL:List (Addr×List AV))(s:Shared)(V:Mu)(c:aC)(m:Str->Option Value)(rem:List AV)(ys:List Value)(r:List AV):Prop where
 S:gS G A B l X aA aB m J s V c
 I:jG s.heap (LX X V c) V It rem
 n :¬LX X V c It
 l:nZ s.heap Dc ys.toArray
 y:cN s.heap (LX X V c) V ys r
 H:∀p∈cL,jG s.heap (LX X V c) V p.1 p.2/\¬LX X V c p.1/\p.1≠It
section
variable{It Dc:Addr}{cL:List (Addr×List AV)}{rem rest r:List AV}{ys:List Value}{x:AV}{aE:Loc}{m':Str->Option Value}
theorem Lp.step(aU:Lp G A B l X aA aB J It Dc cL s V c m rem ys r)(hX:X Dc)(k:bq (bz l) s V c aT aR a8)(R:Rel G X aT.heap aR a8):Lp G A B l X aA aB J It Dc cL aT aR a8 m rem ys r:=
 have q:=aU.I.step aU.S k aU.n
 ⟨aU.S.step k R,q.1,q.2,aU.l.slots fun o ho=>(k.ext _ o ho (aU.S.rel.eB Dc hX)).2,aU.y.pass k.ba,fun p hp=>have q:=aU.H p hp;have q':=q.1.step aU.S k q.2.1;⟨q'.1,q'.2,q.2.2⟩⟩
theorem Lp.next{tk:Nat}(aU:Lp G A B l X aA aB J It Dc cL s V c m rem ys r)(D1:B.get? It=none)(hb:Heap.ExtBut It s.heap h1)(I1:jG h1 (LX X V c) V It rest):Lp G A B l X aA aB J It Dc cL {s with heap:=h1,toks:=tk} V c m rest ys r:=
 have od:=aU.I.odd.1
 ⟨aU.S.but hb aU.I.fld aU.n D1,I1,aU.n,aU.l.but hb od,aU.y.but hb od,fun p hp=>have q:=aU.H p hp;⟨q.1.but hb od q.2.2,q.2⟩⟩
theorem Lp.asg{tk:Nat}(aU:Lp G A B l X aA aB J It Dc cL s V c m rem ys r)(hb:Heap.ExtBut aA.locals s.heap h2)(S2:gS G A B l X aA aB m' aE {s with heap:=h2,toks:=tk} V c):Lp G A B l X aA aB aE It Dc cL {s with heap:=h2,toks:=tk} V c m' rem ys r:=
 have od:lR s.heap aA.locals:=.ns aU.S.lo.ns
 ⟨S2,aU.I.but hb od (aU.I.EU aU.S.lo.ns),aU.n,aU.l.but hb od,aU.y.but hb od,fun p hp=>have q:=aU.H p hp;⟨q.1.but hb od (q.1.EU aU.S.lo.ns),q.2⟩⟩
theorem Lp.back(aU:Lp G A B l X aA aB aE It Dc cL s V c m rem ys r)(e:br J t v=some aE)(hf:∀x∈t.idx,∀v,J[x]?≠some (some v)):Lp G A B l X aA aB J It Dc cL s V c m rem ys r:=
 ⟨aU.S.Ar e hf,aU.I,aU.n,aU.l,aU.y,aU.H⟩
theorem Lp.room(aU:Lp G A B l X aA aB J It Dc cL s V c m rem ys r)(ha:all=r++R')(wu:all.length<=aJ):ys.toArray.size<=sizeLine:=by
 rw[List.size_toArray,aU.y.length];refine cY (cY ?_ wu) dX;rw[ha,cB];exact Nat.le_add_right _ _
theorem Lp.app{tk:Nat}(aU:Lp G A B l X aA aB J It Dc cL s V c m rem ys r)(hX:X Dc)(aS:VR s.heap (LX X V c) V w x)(l6:nZ h6 Dc (ys.toArray.push w))(hb:Heap.ExtBut Dc s.heap h6) :
  Lp G A B l X aA aB J It Dc cL {s with heap:=h6,toks:=tk} V c m rem (ys++[w]) (r++[x]):=by
 have pX:=ee (V:=V) hb (P:=LX X V c) (.inl hX);have ne:∀{a},¬LX X V c a->a≠Dc:=fun q z=>q (.inl (z▸hX));refine⟨aU.S.TP hX hb ?_,aU.I.pass pX fun o ho=>hb _ _ (ne aU.n) ho,aU.n,by simpa using l6,(aU.y.pass pX).append (.cons (aS.pass pX) .nil),fun p hp=>have q:=aU.H p hp;⟨q.1.pass pX fun o ho=>hb _ _ (ne q.2.1) ho,q.2⟩⟩
 refine c6 l6 fun nD slD Qa=>?_;exact⟨_,Qa,fun vs q=>by cases q⟩
end
inductive Mg(G:GC)(A:Around)(B:Heap)(l:List Env)(X:Addr->Prop)(aA:Env)(aB:List Str)(J:Loc)(It Dc:Addr)(cL:List (Addr×List AV))(aZ:Shared)(aP:Mu)(aI:aC)(f:AV->aC->aD (List AV))(cE:aC)(all:List AV)(n:Nat)(s:Shared):Prop
 |mk (rem r R':List AV) (ys:List Value) (V:Mu) (c:aC) (m:Str->Option Value) (hn:n=List.length rem) (k:bq (bz l) aZ aP aI s V c) (aU:Lp G A B l X aA aB J It Dc cL s V c m rem ys r) (hm:fq f rem c = .ok R' cE) (ha:all=r++R')
theorem xB{t:lM}{cond:List Cd}{elt:Ex}{x:AV}{a:List AV}{c c':aC}(h:j3 W J t cond elt x c = .ok a c'):∃aE t1 c3,br J t x=some aE/\hV W aE cond c = .ok t1 c3/\(match t1 with|true=>∃x4 c4 x5,ev W aE elt c3 = .ok x4 c4/\fz c4 x4 = .ok x5 c'/\a=[x5] |false=>a=[]/\c'=c3):=by
 unfold j3 at h;cases e:br J t x with
 |none=>rw[e]at h;exact MD h|some aE=>
  rw[e]at h;obtain⟨t1,c3,h1,h2⟩:=aD.cK h;cases t1 with
  |false=>induction jj h2;exact⟨aE,false,_,rfl,h1,rfl,rfl⟩|true=>
   obtain⟨x4,c4,h3,h4⟩:=aD.cK h2;obtain⟨x5,c5,h5,h6⟩:=aD.cK h4;induction jj h6;exact⟨aE,true,c3,rfl,h1,x4,c4,x5,h3,h5,rfl⟩
theorem tX{cL:List (Addr×List AV)}{aZ:Shared}{aP:Mu}{aI:aC}{R:Result->Shared->Prop}{jb target iter:Expr}{ifs:List Expr}{gens:List Comprehension}{d:Nat}(g1:gens[d]?=some ⟨target,iter,ifs,0⟩)(g2:gens[d+1]?=none){scope:Scope}{pos:Pos}{It Dc:Addr}
  {t:lM} {cond:List Cd} {elt:Ex} (ht:lU sc aB t target) (hi:IR G T W A B l sc aB cond ifs) (he:dQ G T W A B l sc aB elt jb) (E0:cv aA sc) (N:Nm sc aB)
  (Mh:B.get? aA.locals=none) (D1:B.get? It=none) (z1:aZ.heap.get? aA.locals=none) (z2:aZ.heap.get? It=none) (z3:aZ.heap.get? Dc=none) (hX:X Dc) {cE:aC} {all:List AV} (wu:all.length<=aJ)
  (hf:∀x∈t.idx,∀v,J[x]?≠some (some v))
  (hR:∀h' wy g dr os bT m',bq (bz l) aZ aP aI ⟨h',g,dr,wy,os⟩ bT cE->gS G A B l X aA aB m' J ⟨h',g,dr,wy,os⟩ bT cE->(∃ys,nZ h' Dc ys.toArray/\cN h' (LX X bT cE) bT ys all)->(∀p∈cL,jG h' (LX X bT cE) bT p.1 p.2/\¬LX X bT cE p.1/\p.1≠It)->R (.ok .next) ⟨h',g,dr,wy,os⟩)
  {rem r R':List AV} {ys:List Value} (k:bq (bz l) aZ aP aI s V c) (S:gS G A B l X aA aB m J s V c) (I:jG s.heap (LX X V c) V It rem) (hI :¬LX X V c It) (hl:nZ s.heap Dc ys.toArray) (hy:cN s.heap (LX X V c) V ys r)
  (hm:fq (j3 W J t cond elt) rem c = .ok R' cE) (ha:all=r++R') (hh:∀p∈cL,jG s.heap (LX X V c) V p.1 p.2/\¬LX X V c p.1/\p.1≠It) :
  codeAny (model G.prog G.w) A (.compLoop (.ListComp jb gens scope pos) d (.ref It) (.ref Dc) aA) R s:=by
 refine ja g1 g2 (Mg G A B l X aA aB J It Dc cL aZ aP aI (j3 W J t cond elt) cE all) ?_ rem.length ⟨rem,r,R',ys,V,c,m,rfl,k,⟨S,I,hI,hl,hy,hh⟩,hm,ha⟩;clear k S I hI hl hy hm ha hh;rintro n s' ⟨rem,r,R',ys,V,c,m,rfl,k,aU,hm,ha⟩;cases rem with
 |nil=>
  rw[yt]at hm;induction jj hm;rw[List.append_nil]at ha;rw[ha]at hR;have od:=aU.I.odd.1;exact aU.I.done aU.S.eW.handled fun h' hb=>hR h' s'.toks _ _ _ V m (k.touch z2 hb) (aU.S.but hb aU.I.fld aU.n D1) ⟨ys,aU.l.but hb od,aU.y.but hb od⟩ fun p hp=>have q:=aU.H p hp;⟨q.1.but hb od q.2.2,q.2⟩
 |cons x rest=>
  rw[u0]at hm;obtain⟨a1,c1,EW,hm⟩:=aD.cK hm;obtain⟨r1,c2,zE,hm⟩:=aD.cK hm;induction jj hm;refine km (xB EW) fun aE t1 c3 kw EW TQ=>?_;refine aU.I.next fun v h1 EY EZ Wj I1 hv=>I1.letGo ?_;have Z1:=aU.next (tk:=EY) D1 EZ.extBut I1;refine nk ht Z1.S E0 N Mh (hv.but EZ.extBut aU.I.odd.1) kw fun h2 yn m2 PN S2=>?_;have Z2:=Z1.asg PN S2;have k2:=(k.touch (tk:=EY) z2 EZ.extBut).touch (tk:=yn) z1 PN;clear aU Z1 k;refine As (Me hi E0 S2 (ET EW)) EW fun ok s3 Wk k3 R3 q=>?_;cases q;have Z3:=Z2.step hX k3 R3;cases t1 with
  |false=>
   obtain⟨rfl,rfl⟩:=TQ;exact⟨rest.length,Nat.lt_succ_self _,rest,r,r1,ys,Wk,_,m2,rfl,k2.trans k3,Z3.back kw hf,zE,ha⟩
  |true=>
   refine km TQ fun x4 c4 x5 Wl YZ fu=>?_;subst fu;refine As (he X aA m2 aE s3 Wk _ E0 Z3.S (ET Wl)) Wl fun w s4 Wm k4 R4 hw=>?_;refine cH (qZ R4 hw YZ) fun R5 V5 L5=>?_;have Z5:=(Z3.step hX k4 R4).step hX (bq.fz L5) R5;exact tW Z5.l (fun h6 l6 Wn=>⟨rest.length,Nat.lt_succ_self _,rest,r++[x5],r1,ys++[w],Wm,_,m2,rfl,(((k2.trans k3).trans k4).trans (bq.fz L5)).touch z3 Wn.extBut,(Z5.app (tk:=s4.toks) hX V5 l6 Wn.extBut).back kw hf,zE,by(refine .trans (ha ..)<|?_;rw[b9])⟩) (Z5.room ha wu)
inductive Y0(G:GC)(X:Addr->Prop)(F:List Addr)(s:Shared)(V:Mu)(c:aC)(o:aD (List AV))(v:Value)(s':Shared):Prop
 |mk (It:Addr) (fh:List AV) (c':aC) (bT:Mu) (h1:v = .ref It) (h2:o = .ok fh c') (h3:bq F s V c s' bT c') (h4:Rel G X s'.heap bT c') (h5:jG s'.heap (LX X bT c') bT It fh) (h6 :¬LX X bT c' It) (h7:s.heap.get? It=none)
noncomputable def xC(G:GC)(T:Tb)(W:dP)(A:Around)(B:Heap)(l:List Env)(sc:Scope)(aB:List Str)(e:Src)(pe:Expr):Prop:=
 ∀X aA m J s V c,cv aA sc->gS G A B l X aA aB m J s V c->dh W J e c≠.fail->
  wpAny (model G.prog G.w) A (eval pe aA) (fun v aT=>wpAny (model G.prog G.w) A (pyIter v) (Y0 G X (bz l) s V c (dh W J e c)) (Exc G X l s V c (dh W J e c)) aT) (Exc G X l s V c (dh W J e c)) s
theorem E1(h:fz c x = .ok x' c')(h':am c' x'=some fh):x' = .tup fh\/x' = .lst fh:=by
 cases x with
 |ref i=>
  unfold fz at h;dsimp only at h;refine i5 (c[i]?) (fun y hc=>?_) (fun hc=>?_)
  ·
   rw[hc]at h;cases y with
   |list l=>induction jj h;obtain rfl:=bE h';exact .inr rfl
   |dead l=>induction jj h;obtain rfl:=bE h';exact .inr rfl
   |inst l=>induction jj h;unfold am c7 at h';dsimp only at h';rw[hc]at h';exact ak h'|dict l=>induction jj h;unfold am c7 at h';dsimp only at h';rw[hc]at h';exact ak h'
  ·rw[hc]at h;induction jj h;unfold am c7 at h';dsimp only at h';rw[hc]at h';exact ak h'
 |tup l=>induction jj h;obtain rfl:=bE h';exact .inl rfl
 |lst l=>induction jj h;obtain rfl:=bE h';exact .inr rfl
 |none=>induction jj h;exact ak h'|bool U=>induction jj h;exact ak h'|int U=>induction jj h;exact ak h'|str U=>induction jj h;exact ak h'
theorem cZ(k:bq F s V c s' bT c')(h:s'.heap.get? a=none):s.heap.get? a=none:=by
 cases q:s.heap.get? a with
 |none=>rfl|some o=>obtain⟨o',e⟩:=k.there _ o q;rw[h]at e;exact ak e
theorem Mi(h:dQ G T W A B l sc aB e pe):xC G T W A B l sc aB (.it e) pe:=fun X aA m J s V c E0 S aK=>by
 rw[kU]at aK⊢;refine dq .refl (h X aA m J s V c E0 S (aQ aK)) bC fun va aT x a8 aR e k k1 R hx=>?_;rw[ao e]at aK⊢;refine c6 (gT a8 x) fun x' bf e2=>?_;rw[ao e2]at aK⊢;obtain⟨fh,hits⟩:=dS aK;refine cH (qZ R hx e2) fun R2 V2 L2=>?_;have fr:aT.heap.get? aT.heap.objs.size=none:=eX (b5 _);rcases E1 e2 hits with rfl|rfl
 ·induction V2.tup_is with|mk ad vs h1 h3 h2=>?_;refine wpAny_pyIter_tuple h1 ?_
  have kp:=cC (h:=aT.heap) {cls:=.type "tuple_iterator",data:=.fields #[.ref ad,.int 0 0]};refine⟨_,fh,bf,aR,rfl,by rw[hits];rfl,(k.trans (bq.fz L2)).trans (bq.of_keeps kp),R2.keeps kp,.tup (k:=0) ⟨_,ez _ rfl,rfl,rfl⟩ (h1.keeps kp) h2 (by simpa using h3.pass (Pass.keeps kp)),R2.fresh fr,cZ k fr⟩
 ·induction V2.lst_is with|mk ad vs h1 h3 h2=>?_;refine wpAny_pyIter_list h1 ?_
  have kp:=cC (h:=aT.heap) {cls:=.type "list_iterator",data:=.fields #[.ref ad,.int 0 0]};refine⟨_,fh,bf,aR,rfl,by rw[hits];rfl,(k.trans (bq.fz L2)).trans (bq.of_keeps kp),R2.keeps kp,.lst (k:=0) ⟨_,ez _ rfl,rfl,rfl⟩ (let⟨o,ho,r⟩:=h1;⟨o,kp _ _ ho,r⟩) h2 (by simpa using h3.pass (Pass.keeps kp)),R2.fresh fr,cZ k fr⟩
theorem IS(aG:Wd G T W D)(hx:sc.names.lookup (Str.ofString "range")=some .globalImplicit)(hs:∀x p,pe≠.Starred x p)(h:dQ G T W A B l sc aB e pe) :
  xC G T W A B l sc aB (.lO e) (.Call (.Name (Str.ofString "range") np) [pe] [] pos):=fun X aA m J s V c E0 S aK=>by
 rw[pW]at aK⊢;refine Call_ (fX E0 S.bs S.eW.base (aG.bi _ (by decide +kernel)) boot_range (by decide +kernel) hx (by decide +kernel) ?_) rfl
 refine PyProof.Rows.callWith_type1 ?_ (bg hs aA) rfl;refine args_cons ?_ (bg hs aA);refine dq .refl (h X aA m J s V c E0 S (aQ aK)) bC fun va aT x a8 aR e k k1 R hx=>args_nil ?_;rw[ao e]at aK⊢;cases x with
 |int i=>
  dsimp only at aK⊢
  by_cases hi:0<=i/\i<=aJ
  case neg=>rw[aV hi]at aK;exact aX rfl aK
  rw[aO hi];induction hx.int_is with|mk t=>?_
  have fr:aT.heap.get? aT.heap.objs.size=none:=eX (b5 _);have kp:=cC (h:=aT.heap) {cls:=.type "range",data:=.fields #[.int 0 aT.toks,.int i t,.int 1 (aT.toks+1)]};refine call_range_1 ?_;have hm:aJ=100000:=rfl;refine wpAny_pyIter_range (IsRange.new ..) (small_one (by decide) (by decide) (by omega) (by omega)) ?_
  have lu:Builtin.Range.rangeSize 0 i 1=(i.toNat:Int):=by refine .trans (rangeSize_one ..)<|?_;split<;>omega
  generalize hH:aT.heap.push {cls:=.type "range",data:=.fields #[.int 0 aT.toks,.int i t,.int 1 (aT.toks+1)]}=H at kp;have TS:=cC (h:=H) {cls:=.type "range_iterator",data:=.fields #[rawInt 0,rawInt (Builtin.Range.rangeSize 0 i 1),rawInt 1]};have kk:∀b x,aT.heap.get? b=some x->(H.push {cls:=.type "range_iterator",data:=.fields #[rawInt 0,rawInt (Builtin.Range.rangeSize 0 i 1),rawInt 1]}).get? b=some x:=fun b x e=>TS b x (kp b x e);have Wo:aT.heap.get? H.objs.size=none:=by rw[<-hH,Heap.size_push];exact eX (Nat.le_succ _)
  refine⟨_,_,a8,aR,rfl,rfl,k.trans (bq.of_keeps (tk:=aT.toks+1+1) kk),R.keeps kk,.lO (x:=0) (n:=i.toNat) ?_ ?_,R.fresh Wo,cZ k Wo⟩
  ·rw[<-lu];exact ez _ rfl
  ·rw[List.range_eq_range']
 |_=>exact aX rfl aK
noncomputable def bD(scope sc:Scope):Scope:=
 {scope with names:=scope.names.map fun(n,k)=>if(k == .free&&sc.kind == .function&&sc.names.lookup n==some .cell) then(n,.cell) else(n,k)}
theorem jr(E0:cv aA sc):relabel scope aA=bD scope sc:=by
 unfold relabel bD Env.kindOf;rw[E0.sc]
structure ui(sc:Scope)(aB:List Str)(scope:Scope)(gM:List Nat)(si own:List Str):Prop where
 kind:scope.kind = .function
 cell:∀x∈scope.names,x.2≠.cell
 loc:∀x∈scope.names,x.2 = .local->scope.names.lookup x.1=some .local
 free:∀x∈scope.names,x.2 = .free->sc.names.lookup x.1=some .cell\/sc.names.lookup x.1=some .free
 UQ:∀(i:Nat) x,gM[i]?=some x->∃nm,aB[x]?=some nm/\si[i]?=some nm/\(nm,NameKind.free)∈scope.names/\((bD scope sc).names.lookup nm=some .cell\/(bD scope sc).names.lookup nm=some .free)
 len:gM.length=si.length
 lk:∀nm,((bD scope sc).names.lookup nm=some .cell\/(bD scope sc).names.lookup nm=some .free)->(nm,NameKind.free)∈scope.names
 nd:(si++own).Nodup
theorem jL(aA:Env):∀(ns:List (Str×NameKind))(cs:List (Str×Addr)),(∀x∈ns,x.2 = .free->(aA.cells.lookup x.1).isSome=true)->
  ∃cl,(forIn ns cs fun x c=>(if x.2==NameKind.free then(do let a <-cellOf aA x.1;pure (ForInStep.yield ((x.1,a)::c))) else pure (ForInStep.yield c):Sem (ForInStep (List (Str×Addr)))))=pure cl/\
   ((∀n a,(n,a)∈cs->aA.cells.lookup n=some a)->∀n a,(n,a)∈cl->aA.cells.lookup n=some a)/\(∀p,p∈cs->p∈cl)/\∀n,(n,NameKind.free)∈ns->∃a,(n,a)∈cl
 |[],cs,U=>⟨cs,rfl,fun h=>h,fun U h=>h,fun U h=>nomatch h⟩
 |(n,k)::ns,cs,h=>by
  by_cases hk:k = .free
  ·subst hk;obtain⟨a,ha⟩:=Option.isSome_iff_exists.mp (h (n,.free) d8 rfl);refine A6 (jL aA ns ((n,a)::cs) fun x hx=>h x (dO _ hx)) fun cl e h1 h2 h3=>?_;refine⟨cl,?_,fun hc=>h1 fun n' a' hm=>?_,fun p hp=>h2 p (dO _ hp),fun n' hm=>?_⟩
   ·refine .trans (List.forIn_cons ..)<|?_
    have:cellOf aA n=pure a:=by unfold cellOf;rw[ha]
    simp only[BEq.rfl,if_true,this,pure_bind];exact e
   ·rcases b8.mp hm with q|hm
    ·cases q;exact ha
    ·exact hc n' a' hm
   ·rcases b8.mp hm with q|hm
    ·cases q;exact⟨a,h2 _ d8⟩
    ·exact h3 n' hm
  ·refine A6 (jL aA ns cs fun x hx=>h x (dO _ hx)) fun cl e h1 h2 h3=>?_;refine⟨cl,?_,h1,h2,fun n' hm=>?_⟩
   ·refine .trans (List.forIn_cons ..)<|?_
    have:(k==NameKind.free)=false:=by simpa using hk
    simp only[this,Bool.false_eq_true,if_false,pure_bind];exact e
   ·rcases b8.mp hm with q|hm
    ·cases q;exact aX rfl hk
    ·exact h3 n' hm
theorem qi(aA:Env)(h:∀x∈scope.names,x.2 = .free->(aA.cells.lookup x.1).isSome=true) :
  ∃cl,closureFor scope aA=pure cl/\∀n,(n,NameKind.free)∈scope.names->(cl.lookup n).isSome=true/\∀a,cl.lookup n=some a->aA.cells.lookup n=some a:=by
 refine A6 (jL aA scope.names [] h) fun cl e h1 h2 h3=>?_;refine⟨cl,?_,fun n hn=>?_⟩
 ·unfold closureFor;have e':=aY (fun x=>x>>=fun cs=>(pure cs:Sem _)) e;simp only[pure_bind]at e';rw[<-e']
 ·obtain⟨a,ha⟩:=h3 n hn;have IA:=h1 fun U U hm=>nomatch hm
  have ex:∀(l:List (Str×Addr)),(n,a)∈l->∃a',l.lookup n=some a'/\(n,a')∈l:=by
   intro l;induction l with
   |nil=>intro hm;cases hm|cons p l ih=>
    obtain⟨n',a'⟩:=p;intro hm
    by_cases q:n=n'
    ·subst q;exact⟨a',by simp[List.lookup_cons],d8⟩
    ·rcases b8.mp hm with z|hm
     ·cases z;exact aX rfl q
     ·refine au (ih hm) fun b e1 e2=>?_;refine⟨b,?_,dO _ e2⟩
      (refine .trans (List.lookup_cons ..)<|?_;rw[show(n==n')=false by simpa using q])
      exact e1
  refine au (ex cl ha) fun a' e1 e2=>?_;refine⟨by rw[e1];rfl,fun b e3=>?_⟩
  rw[e1]at e3;obtain rfl:=bE e3;exact IA n a' e2
noncomputable def ky(J:Loc)(gM:List Nat)(n:Nat):Loc:=gM.map (fun x=>J[x]?.join)++List.replicate n none
theorem qj{gM:List Nat}{n x:Nat}{v:AV}(h:(ky J gM n)[x]?=some (some v)):∃y,gM[x]?=some y/\J[y]?=some (some v):=by
 unfold ky at h;rcases Nat.lt_or_ge x (gM.map (fun x=>J[x]?.join)).length with q|q
 ·rw[i4 q,List.getElem?_map]at h;cases hc:gM[x]? with
  |none=>rw[hc]at h;exact ak h|some y=>
   rw[hc]at h;refine⟨y,rfl,?_⟩;simp only[Option.map_some,Option.some.injEq]at h;cases hy:J[y]? with
   |none=>rw[hy]at h;exact ak h|some z=>rw[hy]at h;simp only[Option.join_some]at h;rw[h]
 ·rw[List.getElem?_append_right q]at h;obtain⟨_,h⟩:=dg.mp h;simp at h
theorem xD{n:Nat}(C:ui sc aB scope gM si own)(pj:∀n,(n,NameKind.free)∈scope.names->(cl.lookup n).isSome=true/\∀a,cl.lookup n=some a->aA.cells.lookup n=some a){tk:Nat}{m':Str->Option Value}
  (E0:cv aA sc) (S:gS G A B l X aA aB m J s V c) (hn:h'.Ns L m') (hk:∀b o,s.heap.get? b=some o->h'.get? b=some o) (fr:s.heap.get? L=none) :
  cv (compEnvC scope cl L aA) (bD scope sc)/\Nm (bD scope sc) (si++own)/\gS G A B l X (compEnvC scope cl L aA) (si++own) m' (ky J gM n) {s with heap:=h',toks:=tk} V c:=by
 refine⟨⟨⟨C.kind,E0.glob,E0.bi⟩,jr E0,fun nm CQ=>?_⟩,⟨C.nd,C.kind⟩,?_⟩
 ·rw[show(compEnvC scope cl L aA).scope=bD scope sc from jr E0]at CQ
  exact(pj nm (C.lk nm CQ)).1
 ·have S':=S.step (bq.of_keeps (F:=bz l) (tk:=tk) hk) (S.rel.keeps hk);refine⟨S'.bs,S'.eW,S'.rel,S'.xb,hn,S.rel.fresh fr,fun x v hx=>?_⟩;refine au (qj hx) fun y h1 h2=>?_;refine ip (S'.lo.var y v h2) fun nm w h3 h4 h5=>?_;refine A6 (C.UQ x y h1) fun QX h6 h7 h8 h9=>?_;rw[h3]at h6;obtain rfl:=bE h6;refine⟨nm,w,by refine .trans (i4 (by rw[<-C.len];exact(dg.mp h1).1) ..)<|?_;exact h7,?_,h5⟩
  rcases h4 with⟨h4,_⟩|⟨h4,a,o,ha,ho,hd,hp⟩
  ·exfalso;have:=C.free _ h8 rfl;unfold Env.kindOf at h4;rw[E0.sc]at h4;rw[h4]at this;rcases this with q|q<;>cases q
  ·refine .inr ⟨?_,a,o,?_,ho,hd,hp⟩
   ·show(compEnvC scope cl L aA).scope.names.lookup nm=_\/(compEnvC scope cl L aA).scope.names.lookup nm=_;rw[show(compEnvC scope cl L aA).scope=bD scope sc from jr E0]
    exact h9
   ·obtain⟨q1,q2⟩:=pj nm h8;obtain⟨b,hb⟩:=Option.isSome_iff_exists.mp q1;have:=q2 b hb;rw[ha]at this;obtain rfl:=bE this;exact hb
theorem gS.push(S:gS G A B l X aA aB m J s V c)(hf:a=s.heap.objs.size)(ho:o.isFreed=false):gS G A B l (fun b=>X b\/b=a) aA aB m J {s with heap:=s.heap.push o} V c:=by
 have fr:s.heap.get? a=none:=by rw[hf];exact eX (b5 _)
 have k:=cC (h:=s.heap) o;have S':=S.step (bq.of_keeps (F:=bz l) (tk:=s.toks) k) (S.rel.keeps k);have kp:Pass s.heap (LX X V c) V (s.heap.push o) (LX (fun b=>X b\/b=a) V c) V:=
  ⟨fun b o' e U=>⟨o'.slots,k b o' e⟩,fun b q=>by
   rcases q with(q|rfl) |q
   ·exact .inl (.inl q)
   ·exact .inr fr
   ·exact .inl (.inr q),fun U U e=>e⟩
 refine⟨S.bs,S'.eW,S.rel.more fr hf ho,fun b q=>?_,S.lo.pass kp⟩;rcases q with q|rfl
 ·exact S.xb b q
 ·refine⟨?_,fun hb=>?_⟩
  ·cases e:B.get? b with
   |none=>rfl|some o=>have:=S.eW.base b o e;rw[fr]at this;exact ak this
  ·refine eP (S.eW.jm.mem hb) fun U o ho U=>?_;rw[fr]at ho;exact ak ho
theorem fw(S:gS G A B l X aA aB m J s V c)(e:s.heap.get? b=none):B.get? b=none:=by
 cases q:B.get? b with
 |none=>rfl|some o=>have:=S.eW.base b o q;rw[e]at this;exact ak this
inductive tY(G:GC)(T:Tb)(W:dP)(A:Around)(B:Heap)(l:List Env)(sc:Scope)(aB:List Str)(e:Ex)(pe:Expr):Prop
 |mk (elt:Expr) (gens:List _) (scope:Scope) (pos:Pos) (he:pe = .ListComp elt gens scope pos) (h:∀X aA m J s V c (use:Option (Value->Sem Unit)) (Q E':Value->Shared->Prop),cv aA sc->gS G A B l X aA aB m J s V c->ev W J e c≠.fail->
  (∀D C cE r ys s' bT m',ev W J e c = .ok (.lst r) cE->bq (bz l) s V c s' bT cE->Rel G (fun b=>X b\/b=D) s'.heap bT cE->nZ s'.heap D ys.toArray->cN s'.heap (LX (fun b=>X b\/b=D) bT cE) bT ys r->
   s.heap.get? D=none->s.heap.get? C=none->s'.heap.Ns C m'->¬LX (fun b=>X b\/b=D) bT cE C->compPost (model G.prog G.w) A E' use Q (.ref D) C (.ok .next) s')->
  (∀e' s',Exc G X l s V c (ev W J e c) e' s'->E' e' s')->
  wpAny (model G.prog G.w) A (comprehension pe scope aA (firstIterPos gens pos) (newList []) (firstAsync gens) (firstIter gens aA) use) Q E' s)
theorem tY.toF(h:tY G T W A B l sc aB e pe):Q3 G T W A B l sc aB e pe:=by
 obtain⟨elt,gens,scope,pos,rfl,h⟩:=h;intro X aA m J s V c E0 S aK;refine j9 (eval_ListComp ..)<|?_
 refine h X aA m J s V c none _ _ E0 S aK (fun D C cE r ys s' bT m' he k R hl hy hD hC hn hX=>?_) fun U U x=>x;refine⟨m',hn,fun ik js=>?_⟩;have od:lR s'.heap C:=.ns hn;refine c6 k.same fun h' tk e1=>?_;subst e1;exact⟨D,ys,r,cE,bT,rfl,he,k.touch (tk:=tk) hC js.extBut,R.but js.extBut od hX,hl.but js.extBut od,hy.but js.extBut od,hD⟩
theorem IT{n:Nat}(C:ui sc aB scope gM si own){cond:List Cd}{elt:Ex}{jb target iter:Expr}{ifs:List Expr}{pos:Pos}
  (E2:xC G T W A B l sc aB src iter) (hs:∀aA x,foldedSetIterable iter aA x=pure x) (ht:lU (bD scope sc) (si++own) t target) (hi:IR G T W A B l (bD scope sc) (si++own) cond ifs) (he:dQ G T W A B l (bD scope sc) (si++own) elt jb)
  (hf:∀x∈t.idx,gM.length<=x) :
  tY G T W A B l sc aB (.comp gM n t src cond elt) (.ListComp jb [⟨target,iter,ifs,0⟩] scope pos):=by
 refine⟨_,_,_,_,rfl,fun X aA m J s V c use Q E' E0 S aK zF zH=>?_⟩;rw[Dl]at aK zF zH;refine au (qi (scope:=scope) aA fun x hx hk=>E0.fW x.1 (by rw[E0.sc];exact C.free x hx hk)) fun cl E3 pj=>?_
 refine wpAny_comprehension_free rfl (hs aA) E3 C.kind C.loc ?_;refine bJ (E2 X aA m J s V c E0 S (aQ aK)) ?_ fun e s' x=>zH e s' (x.lift .refl bC);refine fun v aT h=>bJ h ?_ fun e s' x=>zH e s' (x.lift .refl bC);rintro it bI ⟨It,fh,bf,bx,rfl,e,k,R,I,hI,IU⟩;rw[ao e]at aK zF;have S2:=S.step k R;obtain⟨r,cE,hm⟩:∃r cE,fq (j3 W (ky J gM n) t cond elt) fh bf = .ok r cE:=by
  change ((fq (j3 W (ky J gM n) t cond elt) fh bf).calm.bind _)≠.fail at aK;cases q:fq (j3 W (ky J gM n) t cond elt) fh bf with
  |ok r cE=>exact⟨r,cE,rfl⟩|exc m c=>rw[q]at aK;exact aX rfl aK|fail=>rw[q]at aK;exact aX rfl aK
 change ((fq (j3 W (ky J gM n) t cond elt) fh bf).calm.bind _)≠.fail at aK;have oo:∀f:List AV->aC->aD AV,(fq (j3 W (ky J gM n) t cond elt) fh bf).calm.bind f=(aD.ok r cE).calm.bind f:=fun f=>by rw[hm]
 rw[hm]at aK;have lu:r.length<=aJ:=by
  by_cases q:r.length<=aJ
  ·exact q
  ·exact aX (aV q) aK
 have E5:((aD.ok r cE).calm.bind fun r c=>if r.length<=aJ then aD.ok (AV.lst r) c else aD.fail) = .ok (.lst r) cE:=aO lu;have Au:bI.heap.get? bI.heap.objs.size=none:=eX (b5 _);refine wpAny_newObj_type ?_;have S3:=S2.push (o:={cls:=.type "list",dict:=none,data:=.seq ([]:List Value).toArray}) rfl rfl;have IV:=cC (h:=bI.heap) {cls:=.type "list",dict:=none,data:=.seq ([]:List Value).toArray};have Mj:Pass bI.heap (LX X bx bf) bx (bI.heap.push {cls:=.type "list",dict:=none,data:=.seq ([]:List Value).toArray}) (LX (fun b=>X b\/b=bI.heap.objs.size) bx bf) bx:=
  ⟨fun b o' e U=>⟨o'.slots,IV b o' e⟩,fun b q=>by
   rcases q with(q|rfl) |q
   ·exact .inl (.inl q)
   ·exact .inr Au
   ·exact .inl (.inr q),fun U U e=>e⟩
 obtain⟨oI,UR⟩:=I.there;have I3:=I.pass Mj fun o ho=>IV _ _ ho;have US:=Mj.s9 UR hI;have Qb:nZ (bI.heap.push {cls:=.type "list",dict:=none,data:=.seq ([]:List Value).toArray}) bI.heap.objs.size #[]:=⟨_,_,ez _ rfl⟩;generalize hH:bI.heap.push {cls:=.type "list",dict:=none,data:=.seq ([]:List Value).toArray}=H at S3 IV Mj I3 Qb⊢;refine wpAny_newFunctionEnv C.cell (by intro y hy;simp at hy) (fun jp qk qm=>?_) C.kind
 dsimp only at qk qm⊢;have Qc:H.get? H.objs.size=none:=eX (b5 _);have k4:∀b o,H.get? b=some o->jp.get? b=some o:=fun b o e=>qm.extBut b o (by rintro rfl;rw[Qc]at e;exact ak e) (fQ _ e)
 refine cH (xD (n:=n) (tk:=bI.toks+([]:List (Str×Value)).length) C pj E0 S3 qk k4 Qc) fun E4 N4 S4=>?_;have kD:bq (bz l) s V c {bI with heap:=jp,toks:=bI.toks+([]:List (Str×Value)).length} bx bf:=k.trans (bq.of_keeps fun b o e=>k4 b o (IV b o e))
 have CR:bI.heap.get? H.objs.size=none:=by rw[<-hH,Heap.size_push];exact eX (Nat.le_succ _)
 have Qd:∀x∈t.idx,∀v,(ky J gM n)[x]?≠some (some v):=fun x hx v q=>by
  refine au (qj q) fun y h1 U=>?_;exact aX (dg.mp h1).1 (Nat.not_lt.mpr (hf x hx))
 have I4:jG jp (LX (fun b=>X b\/b=bI.heap.objs.size) bx bf) bx It fh:=I3.pass (Pass.keeps k4) fun o ho=>k4 _ _ ho;have PO :¬LX (fun b=>X b\/b=bI.heap.objs.size) bx bf It:=US;have loop:codeAny (model G.prog G.w) A (.compLoop (.ListComp jb [⟨target,iter,ifs,0⟩] scope pos) 0 (.ref It) (.ref bI.heap.objs.size) (compEnvC scope cl H.objs.size aA))
   (compPost (model G.prog G.w) A E' use Q (.ref bI.heap.objs.size) H.objs.size) {bI with heap:=jp,toks:=bI.toks+([]:List (Str×Value)).length}:=by
  refine tX (cL:=[]) (X:=fun b=>X b\/b=bI.heap.objs.size) (It:=It) (Dc:=bI.heap.objs.size) (rem:=fh) (r:=[]) (R':=r) (ys:=[]) rfl rfl ht hi he E4 N4 (fw S2 CR) (fw S IU) (cZ k CR) IU (cZ k Au) (.inr rfl) lu Qd ?_ kD S4 I4 PO (Qb.slots fun o ho=>⟨o.slots,k4 _ _ ho⟩) .nil hm rfl (fun U h=>nomatch h)
  intro h' wy g dr os bT m' k5 S5 zq U;refine au zq fun ys Y1 Y2=>?_;exact zF _ _ cE r ys _ bT m' ((oo fun r c=>if r.length<=aJ then aD.ok (AV.lst r) c else aD.fail).trans E5) k5 S5.rel Y1 Y2 (cZ k Au) (cZ k CR) S5.lo.ns S5.lo.nl
 exact codeAny_compStart_list loop (I4.again loop)
noncomputable def mO(W:dP)(base:Loc)(t:lM)(bI:Src)(eR:lM)(elt:Ex):AV->aC->aD (List AV):=fun v c=>match br base t v with
 |some aE=>(dh W aE bI c).bind fun u3 c=>fq (fun v c=>match br aE eR v with
  |some aE=>(ev W aE elt c).bind fun x c=>(fz c x).bind fun x c=>.ok [x] c|none=>.fail) u3 c
 |none=>.fail
theorem CS(W:dP)(base:Loc)(t:lM)(elt:Ex):(fun(v:AV)(c:aC)=>match br base t v with
  |some aE=>(ev W aE elt c).bind fun x c=>(fz c x).bind fun x c=>.ok [x] c|none=>.fail)=j3 W base t [] elt:=by
 funext v c;unfold j3;cases br base t v with
 |none=>rfl|some aE=>show _=(hV W aE [] c).bind _;rw[qO];rfl
theorem jc(hs:∀x,foldedSetIterable bU aA x=pure x)(I:Nat->Shared->Prop)
  (turn:∀n s,I n s->wpAny (model G.prog G.w) A (pyNext it) (fun r aT=>match r with
   |none=>R (.ok .next) aT|some v=>wpAny (model G.prog G.w) A (letOwnedTupleGo target it v) (fun U wz=>wpAny (model G.prog G.w) A (assign target aA v) (fun U bI=>
    wpAny (model G.prog G.w) A (eval bU aA) (fun x fi=>wpAny (model G.prog G.w) A (pyIter x) (fun it₂ xA=>
     codeAny (model G.prog G.w) A (.compStart (.ListComp elt [⟨target,iter,[],0⟩,⟨bh,bU,[],0⟩] scope pos) 1 it₂ acc aA) (fun r zA=>match r with| .ok _=>∃m,m<n/\I m zA| .error _=>False) xA) (fun U U=>False) fi) (fun U U=>False) bI) (fun U U=>False) wz) (fun U U=>False) aT) (fun U U=>False) s)
  (n:Nat) (h:I n s) :
  codeAny (model G.prog G.w) A (.compLoop (.ListComp elt [⟨target,iter,[],0⟩,⟨bh,bU,[],0⟩] scope pos) 0 it acc aA) R s:=by
 refine codeAny_loop rfl I (fun n s hI=>?_) n h;show wpAny _ A ((compTurn (.ListComp elt [⟨target,iter,[],0⟩,⟨bh,bU,[],0⟩] scope pos) 0 it acc aA).onRaise (fun x=>do noteFrame x aA;theTreesLotGoes x)) _ _ s
 refine wpAny_noted ?_;refine j9 (sh scope pos it acc aA hs ..)<|?_
 refine aL (de (aL (bJ (turn n s hI) (fun r aT jp=>?_) fun U U h'=>h'.elim)));cases r with
 |none=>exact aW jp|some v=>
  refine aL (bJ jp (fun U wz ES=>?_) fun U U h'=>h'.elim);refine aL (bJ ES (fun U bI qY=>?_) fun U U h'=>h'.elim);refine aL (bJ qY (fun x fi sg=>aL (de ?_)) fun U U h'=>h'.elim);refine aL (wpAny_holding (bJ sg (fun it₂ xA Md=>?_) fun U U h'=>h'.elim));refine aL (wpAny_runOwn (codeAny_mono Md fun r zA IQ=>?_));cases r with
  |ok f=>exact aW ⟨rfl,IQ⟩|error e=>exact IQ.elim
theorem jd
  (h0:codeAny (model G.prog G.w) A (.compLoop (.ListComp elt [⟨target,iter,[],0⟩,⟨bh,bU,[],0⟩] scope pos) 1 it acc aA) R s)
  (h:wpAny (model G.prog G.w) A (pyIter it) (fun UT s'=>codeAny (model G.prog G.w) A (.compLoop (.ListComp elt [⟨target,iter,[],0⟩,⟨bh,bU,[],0⟩] scope pos) 1 UT acc aA) R s')
   (notedBy (model G.prog G.w) A aA fun x s'=>R (.error x) s') s) :
  codeAny (model G.prog G.w) A (.compStart (.ListComp elt [⟨target,iter,[],0⟩,⟨bh,bU,[],0⟩] scope pos) 1 it acc aA) R s:=by
 refine codeAny_of_tree ?_;show wpAny _ _ ((compStart (.ListComp elt [⟨target,iter,[],0⟩,⟨bh,bU,[],0⟩] scope pos) 1 it acc aA).onRaise (fun x=>do noteFrame x aA;standAt theWindowsPlace)) _ _ s
 refine wpAny_notedAt ?_;unfold compStart;show wpAny _ _ (ask>>=_) _ _ s;refine aL (wpAny_askSetting (wpAny_ite ?_))
 split
 ·first
   |exact aL (aW (aW (And.intro rfl h0)))|exact aW (And.intro rfl h0)
 ·first
   |exact aL (wpAny_rule (aL (de (aL (bJ h (fun UT s' h'=>aW (And.intro rfl h')) fun U U x=>x)))))|(refine aL (wpAny_rule ?U);show wpAny bG dy (standAt bU.pos>>=lP) wO He s;exact aL (de (aL (bJ h (fun UT s' h'=>aW (And.intro rfl h')) fun U U x=>x))))
theorem qn{n x:Nat}{v:AV}:(List.replicate n (none:Option AV))[x]?≠some (some v):=fun h=>by
 obtain⟨_,h⟩:=dg.mp h;simp at h
theorem xE(h:mO W base t cz eR elt x c = .ok a c'):∃aE l2 c4,br base t x=some aE/\dh W aE cz c = .ok l2 c4/\fq (j3 W aE eR [] elt) l2 c4 = .ok a c':=by
 unfold mO at h;cases e:br base t x with
 |none=>rw[e]at h;exact MD h|some aE=>
  rw[e]at h;obtain⟨l2,c4,h1,h2⟩:=aD.cK h;rw[CS]at h2;exact⟨aE,l2,c4,rfl,h1,h2⟩
theorem oY{x:Nat}:∀(ps:List (Nat×AV))(J:Loc),(∀p∈ps,p.1≠x)->(ps.foldl (fun J p=>J.set p.1 (some p.2)) J)[x]?=J[x]?
 |[],U,bG=>rfl|p::ps,J,h=>by rw[List.foldl_cons,oY ps _ fun q hq=>h q (dO _ hq),g8 (h p d8)]
theorem xF{x:Nat}(e:br J t v=some aE)(hx:x∉t.idx):aE[x]?=J[x]?:=by
 cases t with
 |one y=>
  unfold br at e;obtain rfl:=bE e;exact(g8 (by rintro rfl;exact hx (by simp[lM.idx])) ..)
 |tup xs=>
  cases v with
  |tup l=>
   unfold br at e;dsimp only at e;induction fg e with|mk _=>?_
   exact oY _ _ fun p hp q=>hx (q▸(List.of_mem_zip hp).1)
  |_=>exact ak e
theorem zI{n:Nat}
  (ht:lU sc aB t target) (uj:xC G T W A B l sc aB cz bU) (E6:∀x,foldedSetIterable bU aA x=pure x)
  (E7:lU sc aB eR bh) (he:dQ G T W A B l sc aB elt jb) (hd:∀x∈eR.idx,x∉t.idx) (E0:cv aA sc) (N:Nm sc aB)
  (Mh:B.get? aA.locals=none) (D1:B.get? It=none) (z1:aZ.heap.get? aA.locals=none) (z2:aZ.heap.get? It=none) (z3:aZ.heap.get? Dc=none) (hX:X Dc) (wu:all.length<=aJ)
  (hR:∀h' wy g dr os bT m',bq (bz l) aZ aP aI ⟨h',g,dr,wy,os⟩ bT cE->gS G A B l X aA aB m' (List.replicate n none) ⟨h',g,dr,wy,os⟩ bT cE->(∃ys,nZ h' Dc ys.toArray/\cN h' (LX X bT cE) bT ys all)->R (.ok .next) ⟨h',g,dr,wy,os⟩)
  {rem:List AV} (k:bq (bz l) aZ aP aI s V c) (aU:Lp G A B l X aA aB (List.replicate n none) It Dc [] s V c m rem [] [])
  (hm:fq (mO W (List.replicate n none) t cz eR elt) rem c = .ok all cE) :
  codeAny (model G.prog G.w) A (.compLoop (.ListComp jb [⟨target,iter,[],0⟩,⟨bh,bU,[],0⟩] scope pos) 0 (.ref It) (.ref Dc) aA) R s:=by
 refine jc E6 (Mg G A B l X aA aB (List.replicate n none) It Dc [] aZ aP aI (mO W (List.replicate n none) t cz eR elt) cE all) ?_ rem.length ⟨rem,[],all,[],V,c,m,rfl,k,aU,hm,rfl⟩;clear k aU hm;rintro n' s' ⟨rem,r0,R',ys,V,c,m,rfl,k,aU,hm,ha⟩;cases rem with
 |nil=>
  rw[yt]at hm;induction jj hm;rw[List.append_nil]at ha;rw[ha]at hR;have od:=aU.I.odd.1;exact aU.I.done aU.S.eW.handled fun h' hb=>hR h' s'.toks _ _ _ V m (k.touch z2 hb) (aU.S.but hb aU.I.fld aU.n D1) ⟨ys,aU.l.but hb od,aU.y.but hb od⟩
 |cons x rest=>
  rw[u0]at hm;obtain⟨a1,c1,EW,hm⟩:=aD.cK hm;obtain⟨r1,c2,zE,hm⟩:=aD.cK hm;cases jj hm;refine km (xE EW) fun aE l2 c4 kw EW TQ=>?_;refine aU.I.next fun v h1 EY EZ Wj I1 hv=>I1.letGo ?_;have Z1:=aU.next (tk:=EY) D1 EZ.extBut I1;refine nk ht Z1.S E0 N Mh (hv.but EZ.extBut aU.I.odd.1) kw fun h2 yn m2 PN S2=>?_;have Z2:=Z1.asg PN S2;have k2:=(k.touch (tk:=EY) z2 EZ.extBut).touch (tk:=yn) z1 PN;clear aU Z1 k;refine bJ (uj X aA m2 aE _ V c E0 S2 (ET EW)) ?_ fun U U q=>(q.absurd EW).elim;refine fun v2 s3 h3=>bJ h3 ?_ fun U U q=>(q.absurd EW).elim;rintro it2 s4 ⟨UU,Y3,c4',Wm,rfl,e4,k4,R4,I4,PO,E8⟩;rw[EW]at e4;cases jj e4;have Z4:=Z2.step hX k4 R4;have UV:It≠UU:=by
   obtain⟨oI2,UW⟩:=Z2.I.there;rintro rfl;dsimp only at E8;rw[UW]at E8;cases E8
  have inner:codeAny (model G.prog G.w) A (.compLoop (.ListComp jb [⟨target,iter,[],0⟩,⟨bh,bU,[],0⟩] scope pos) 1 (.ref UU) (.ref Dc) aA) (fun q zA=>match q with
    |.ok U=>∃m,m<(x::rest).length/\Mg G A B l X aA aB (List.replicate n none) It Dc [] aZ aP aI (mO W (List.replicate n none) t cz eR elt) cE all m zA|.error U=>False) s4:=by
   refine tX (cL:=[(It,rest)]) (It:=UU) (rem:=l2) (R':=a1) (all:=r0++a1) rfl rfl E7 (.inl ⟨rfl,rfl⟩) he E0 N Mh (fw S2 E8) z1 (cZ k2 E8) z3 hX ?_ (fun x hx v q=>qn ((xF kw (hd x hx)).symm.trans q)) ?_ (k2.trans k4) Z4.S I4 PO Z4.l Z4.y TQ rfl fun p hp=>?_
   ·rw[ha,<-b9,cB]at wu;exact cY (Nat.le_add_right _ _) wu
   ·intro h' wy g dr os Y4 m6 k6 S6 zq Y5;refine au zq fun Y6 Y7 Y8=>?_;have q6:=Y5 _ d8;exact⟨rest.length,Nat.lt_succ_self _,rest,r0++a1,r1,Y6,Y4,_,m6,rfl,k6,⟨S6.Ar kw fun x U v q=>qn q,q6.1,q6.2.1,Y7,Y8,fun p hp=>nomatch hp⟩,zE,by(refine .trans (ha ..)<|?_;rw[b9])⟩
   ·rcases List.mem_singleton.mp hp with rfl
    exact⟨Z4.I,Z4.n,UV⟩
  exact jd inner (I4.again inner)
theorem E9{n:Nat}(C:ui sc aB scope [] [] own)
  (E2:xC G T W A B l sc aB src iter) (hs:∀aA x,foldedSetIterable iter aA x=pure x) (ht:lU (bD scope sc) own t target) (uj:xC G T W A B l (bD scope sc) own cz bU) (E6:∀aA x,foldedSetIterable bU aA x=pure x)
  (E7:lU (bD scope sc) own eR bh) (he:dQ G T W A B l (bD scope sc) own elt jb) (hd:∀x∈eR.idx,x∉t.idx) :
  tY G T W A B l sc aB (.jk n t src eR cz elt) (.ListComp jb [⟨target,iter,[],0⟩,⟨bh,bU,[],0⟩] scope pos):=by
 refine⟨_,_,_,_,rfl,fun X aA m J s ν c use Q E' E0 S aK zF zH=>?_⟩;rw[Dm]at aK zF zH;refine au (qi (scope:=scope) aA fun x hx hk=>E0.fW x.1 (by rw[E0.sc];exact C.free x hx hk)) fun cl E3 pj=>?_
 refine wpAny_comprehension_free rfl (hs aA) E3 C.kind C.loc ?_;refine bJ (E2 X aA m J s ν c E0 S (aQ aK)) ?_ fun e s' x=>zH e s' (x.lift .refl bC);refine fun v aT h=>bJ h ?_ fun e s' x=>zH e s' (x.lift .refl bC);rintro it bI ⟨It,fh,bf,bx,rfl,e,k,R,I,hI,IU⟩;rw[ao e]at aK zF;have S2:=S.step k R;change ((fq (mO W (List.replicate n none) t cz eR elt) fh bf).calm.bind _)≠.fail at aK;obtain⟨r,cE,hm⟩:∃r cE,fq (mO W (List.replicate n none) t cz eR elt) fh bf = .ok r cE:=by
  cases q:fq (mO W (List.replicate n none) t cz eR elt) fh bf with
  |ok r cE=>exact⟨r,cE,rfl⟩|exc m c=>rw[q]at aK;exact aX rfl aK|fail=>rw[q]at aK;exact aX rfl aK
 have oo:∀f:List AV->aC->aD AV,(fq (mO W (List.replicate n none) t cz eR elt) fh bf).calm.bind f=(aD.ok r cE).calm.bind f:=fun f=>by rw[hm]
 rw[hm]at aK;have lu:r.length<=aJ:=by
  by_cases q:r.length<=aJ
  ·exact q
  ·exact aX (aV q) aK
 have E5:((aD.ok r cE).calm.bind fun r c=>if r.length<=aJ then aD.ok (AV.lst r) c else aD.fail) = .ok (.lst r) cE:=aO lu;have Au:bI.heap.get? bI.heap.objs.size=none:=eX (b5 _);refine wpAny_newObj_type ?_;have S3:=S2.push (o:={cls:=.type "list",dict:=none,data:=.seq ([]:List Value).toArray}) rfl rfl;have IV:=cC (h:=bI.heap) {cls:=.type "list",dict:=none,data:=.seq ([]:List Value).toArray};have Mj:Pass bI.heap (LX X bx bf) bx (bI.heap.push {cls:=.type "list",dict:=none,data:=.seq ([]:List Value).toArray}) (LX (fun b=>X b\/b=bI.heap.objs.size) bx bf) bx:=
  ⟨fun b o' e U=>⟨o'.slots,IV b o' e⟩,fun b q=>by
   rcases q with(q|rfl) |q
   ·exact .inl (.inl q)
   ·exact .inr Au
   ·exact .inl (.inr q),fun U U e=>e⟩
 obtain⟨oI,UR⟩:=I.there;have I3:=I.pass Mj fun o ho=>IV _ _ ho;have US:=Mj.s9 UR hI;have Qb:nZ (bI.heap.push {cls:=.type "list",dict:=none,data:=.seq ([]:List Value).toArray}) bI.heap.objs.size #[]:=⟨_,_,ez _ rfl⟩;generalize hH:bI.heap.push {cls:=.type "list",dict:=none,data:=.seq ([]:List Value).toArray}=H at S3 IV Mj I3 Qb⊢;refine wpAny_newFunctionEnv C.cell (by intro y hy;simp at hy) (fun jp qk qm=>?_) C.kind
 dsimp only at qk qm⊢;have Qc:H.get? H.objs.size=none:=eX (b5 _);have k4:∀b o,H.get? b=some o->jp.get? b=some o:=fun b o e=>qm.extBut b o (by rintro rfl;rw[Qc]at e;exact ak e) (fQ _ e)
 refine cH (xD (n:=n) (tk:=bI.toks+([]:List (Str×Value)).length) C pj E0 S3 qk k4 Qc) fun E4 N4 S4=>?_;have kD:bq (bz l) s ν c {bI with heap:=jp,toks:=bI.toks+([]:List (Str×Value)).length} bx bf:=k.trans (bq.of_keeps fun b o e=>k4 b o (IV b o e))
 have CR:bI.heap.get? H.objs.size=none:=by rw[<-hH,Heap.size_push];exact eX (Nat.le_succ _)
 have I4:jG jp (LX (fun b=>X b\/b=bI.heap.objs.size) bx bf) bx It fh:=I3.pass (Pass.keeps k4) fun o ho=>k4 _ _ ho;have PO :¬LX (fun b=>X b\/b=bI.heap.objs.size) bx bf It:=US;have zC:=cZ k CR;have zD:=cZ k Au;have Mh:=fw S2 CR;have D1:=fw S IU;generalize Wp:(fun b=>X b\/b=bI.heap.objs.size)=X' at I4 PO S4;have UX:X' bI.heap.objs.size:=by rw[<-Wp];exact .inr rfl
 generalize bI.heap.objs.size=Dc at *;generalize Qe:compEnvC scope cl H.objs.size aA=Qf at *;have Y9:H.objs.size=Qf.locals:=by rw[<-Qe];rfl
 rw[show ky J [] n=List.replicate n none from rfl]at S4
 have loop:codeAny (model G.prog G.w) A (.compLoop (.ListComp jb [⟨target,iter,[],0⟩,⟨bh,bU,[],0⟩] scope pos) 0 (.ref It) (.ref Dc) Qf)
   (compPost (model G.prog G.w) A E' use Q (.ref Dc) H.objs.size)
   {bI with heap:=jp,toks:=bI.toks+([]:List (Str×Value)).length}:=by
  rw[Y9]at zC Mh⊢;refine zI ht uj (E6 _) E7 he hd E4 N4 Mh D1 zC IU zD UX lu ?_ kD ⟨S4,I4,PO,Qb.slots fun o ho=>⟨o.slots,k4 _ _ ho⟩,.nil,fun p hp=>nomatch hp⟩ hm
  intro h' wy g dr os bT m' k6 S6 zq;refine au zq fun ys hl hy=>?_;subst Wp;exact zF _ _ _ r ys _ bT m' ((oo fun r c=>if r.length<=aJ then aD.ok (AV.lst r) c else aD.fail).trans E5) k6 S6.rel hl hy zD zC S6.lo.ns S6.lo.nl
 subst Qe;exact codeAny_compStart_list loop (I4.again loop)
end
section
variable{G:GC}{A:Around}{B:Heap}{l:List Env}{X:Addr->Prop}{aA:Env}{s s' aZ:Shared}{V bT aP:Mu}{c c' aI:aC}
theorem Ai.jm(x:Ai G m B l e h):h.FunFrames B l/\B.StaysIn h/\B.get? e=none:=by
 cases m with
 |true=>obtain⟨f1,f2,f3,_⟩:=x;exact⟨f3,f1,f2⟩
 |false=>
  refine Or.elim x (fun ng=>ng.elim fun a0 x=>?_) (fun qV=>A8 qV fun aA outer L a0 e1 e2 x=>?_)
  ·exact⟨x.2.2.1,x.1,x.2.1⟩
  ·exact⟨x.2.2.1,x.1,x.2.1⟩
theorem qo(k:bq (bz l) aZ aP aI s' bT c')(fl:Ai G m B l e s'.heap)(b6:∀b o,aZ.heap.get? b=some o->¬ci aP aI b->b∉bz l->B.get? b=some o)(b7:∀b o,aZ.heap.get? b=some o->b∉bz l->∃o',B.get? b=some o')
  (st:B.StaysIn ik) (u:s'.heap.UpToSlots ik):bq (bz l) aZ aP aI {s' with heap:=ik} bT c':=by
 have fr:∀b∈bz l,∀o,s'.heap.get? b=some o->∃sl,ik.get? b=some {o with slots:=sl}:=fun b hb o ho=>by
  refine(fl.jm.1.mem hb).elim fun U zJ=>zJ.elim fun o' UY=>UY.elim fun om hd=>?_;rw[ho]at om;obtain rfl:=bE om;exact u b o ho hd
 refine⟨?_,fun b o e hp=>⟨fun hf=>st _ _ (b6 b o e hp hf),?_⟩,k.pre,k.new,fun b o e=>?_⟩
 ·refine k.same.elim fun h' zJ=>zJ.elim fun tk e1=>?_;subst e1;exact⟨_,_,rfl⟩
 ·by_cases hf:b∈bz l
  ·refine(k.ext b o e hp).elim fun U zJ=>zJ.elim fun sl e'=>?_;refine(fr b hf _ e').elim fun PJ D0=>?_;exact⟨PJ,D0⟩
  ·exact⟨o.slots,st _ _ (b6 b o e hp hf)⟩
 ·by_cases hf:b∈bz l
  ·refine(k.there b o e).elim fun o' e'=>?_;refine(fr b hf o' e').elim fun sl D0=>?_;exact⟨_,D0⟩
  ·refine(b7 b o e hf).elim fun o' e'=>?_;exact⟨o',st _ _ e'⟩
noncomputable def Top(l:List Env)(aA:Env):Prop:=∃outer,l=aA::outer/\aA.frame=some aA.locals
theorem Av(hf:aA.frame=some L)(hh:Heap.HeldW B l e cls a0 L s.heap)
  (hQ:∀h',Heap.HeldW B l e cls a0 L h'->s.heap.UpToSlots h'->Q () {s with heap:=h'}):wpAny M A (do
  if(<-field (.ref e) 1) == .none then unsupported "frame.own-activation:exception-without-traceback"
  setFlight (.ref e) aA.frame) Q E s:=by
 rw[hf];refine hh.elim fun f1 zJ=>zJ.elim fun f2 UY=>UY.elim fun f3 Ya=>Ya.elim fun oe Yb=>Yb.elim fun vs Yc=>Yc.elim fun T Yd=>Yd.elim fun oT Ye=>Ye.elim fun ts Yf=>Yf.elim fun he Yg=>Yg.elim fun UZ U0=>U0.elim fun hd U1=>U1.elim fun h1 U2=>U2.elim fun Wq U3=>U3.elim fun Wr U4=>U4.elim fun hT U5=>U5.elim fun TT h3=>?_;refine aL (wpAny_field he hd h1 ?_);refine j9 (aV (show¬((Value.ref T==Value.none)=true) from by simp) ..)<|?_
 have Qg:3<ts.size:=(Array.getElem?_eq_some_iff.mp h3).1;have other:∀b,b≠T->(s.heap.update T (Obj.mapFields (·.setIfInBounds 3 ((some L:Option Addr).elim Value.none fun f=>rawInt f)))).get? b=s.heap.get? b:=
  fun b hb=>Heap.get?_update_other _ _ (Ne.symm hb)
 have xG:∀b o,s.heap.get? b=some o->(∀vs,o.data≠.fields vs)->b≠T:=fun b o hb Qh q=>by
  rw[q,hT]at hb;injection hb with hb;subst hb;exact Qh ts TT
 unfold setFlight;refine aL (wpAny_field he hd h1 ?_);refine j9 (aO (show(Value.ref T !=Value.none)=true from by simp) ..)<|?_
 refine wpAny_setField hT TT Qg (hQ _ ⟨fun b o U6=>(other b fun q=>by rw[q,Wq]at U6;exact ak U6).trans (f1 b o U6),f2,f3.of_keeps fun b o hb Qh=>⟨o,(other b (xG b o hb Qh)).trans hb,rfl⟩,?_⟩
  fun b o hb Qh=>⟨o.slots,(other b (xG b o hb Qh)).trans hb⟩)
 exact⟨oe,vs,T,_,_,(other e (Ne.symm Wr)).trans he,UZ,hd,h1,Wq,Wr,Heap.get?_update_self _ hT (Obj.isFreed_of_fields (Obj.data_mapFields TT _)),Obj.data_mapFields TT _,by simp[Qg]⟩
theorem Exc.through{α Z:Type}{M:Model}{o:aD α}{o':aD Z}{e:Value}(hA:A.frames=some l)(ht:Top l aA)(x:Exc G X l aZ aP aI o e s')(ho:∀m c',o = .exc m c'->m=false/\o' = .exc false c') :
  notedBy M A aA (fun e s'=>cameBackBy M A aA (Exc G X l aZ aP aI o') e s') e s':=by
 obtain⟨m,c',bT,ea,h1,rfl,k,B,fl,R,b6,b7⟩:=x;refine(ho _ _ h1).elim fun fu h2=>?_;subst fu;refine ht.elim fun outer zJ=>zJ.elim fun QU hf=>?_;subst QU;have fin:∀{h' ik:Heap}{a0:Value},s'.heap.UpToSlots h'->h'.UpToSlots ik->Heap.HeldW B (aA::outer) ea (.ref G.SF) a0 aA.locals ik->Exc G X (aA::outer) aZ aP aI o' (.ref ea) {s' with heap:=ik}:=by
  intro h' ik a0 u1 u2 hh;exact⟨false,c',bT,ea,h2,rfl,qo k fl b6 b7 hh.1 (u1.trans u2),B,.inr ⟨aA,outer,aA.locals,a0,rfl,hf,hh⟩,R,b6,b7⟩
 refine Or.elim fl (fun ng=>ng.elim fun a0 fl=>?_) (fun qV=>A8 qV fun Qi Ea L a0 e1 e2 fl=>?_)
 ·refine wpAny_looks_onW hA hf fl fun h' hh u1=>?_;exact Av hf hh fun ik U7 u2=>fin u1 u2 U7
 ·cases e1;rw[hf]at e2;obtain rfl:=bE e2;refine wpAny_noteFrame_againW hf fl.2.2.2 ?_;exact Av hf fl fun ik U7 u2=>fin (.refl _) u2 U7
end
section
variable{G:GC}{T:Tb}{W:dP}{D lf:Nat}{A:Around}{B:Heap}{l:List Env}{sc:Scope}{aB:List Str}
structure Here(G:GC)(A:Around)(B:Heap)(l:List Env)(X:Addr->Prop)(aA:Env)(sc:Scope)(aB:List Str)(cL:List (Addr×List AV))(m:Str->Option Value)(J:Loc)(aZ:Shared)(aP:Mu)(aI:aC)(s:Shared)(V:Mu)(c:aC):Prop where
 cb:cv aA sc
 nm:Nm sc aB
 cw:gS G A B l X aA aB m J s V c
 iz:bq (bz l) aZ aP aI s V c
 new:aZ.heap.get? aA.locals=none
 top:Top l aA
 kz:B.StaysIn aZ.heap/\∀b,ci aP aI b->B.get? b=none
 held:∀p∈cL,jG s.heap (LX X V c) V p.1 p.2/\¬LX X V c p.1
section
variable{X:Addr->Prop}{aA:Env}{cL:List (Addr×List AV)}{m m':Str->Option Value}{J aE:Loc}{aZ s s':Shared}{aP V bT:Mu}{aI c c':aC}
theorem Here.base(H:Here G A B l X aA sc aB cL m J aZ aP aI s V c):B.get? aA.locals=none:=by
 refine H.top.elim fun outer zJ=>zJ.elim fun QU hf=>?_;subst QU;exact(H.cw.eW.jm.mem (b:=aA.locals) (by simp[hf])).1
theorem Here.step(H:Here G A B l X aA sc aB cL m J aZ aP aI s V c)(k:bq (bz l) aZ aP aI s' bT c')(k1:bq (bz l) s V c s' bT c')(R:Rel G X s'.heap bT c'):Here G A B l X aA sc aB cL m J aZ aP aI s' bT c':=
 ⟨H.cb,H.nm,H.cw.step k1 R,k,H.new,H.top,H.kz,fun p hp=>let⟨q1,q2⟩:=H.held p hp;q1.step H.cw k1 q2⟩
theorem Here.fz(H:Here G A B l X aA sc aB cL m J aZ aP aI s V c)(R:Rel G X s.heap V c')(L:∀b,ci V c' b->ci V c b):Here G A B l X aA sc aB cL m J aZ aP aI s V c':=
 H.step (H.iz.trans (bq.fz L)) (bq.fz L) R
theorem Here.store{M:Model}{E:Value->Shared->Prop}{x:Nat}{nm:Str}{w:Value}{v:AV}{Q:Unit->Shared->Prop}(H:Here G A B l X aA sc aB cL m J aZ aP aI s V c)(hx:Own sc aB x nm)(hv:VR s.heap (LX X V c) V w v)
  (h:∀h' tk m',Heap.SameBut aA.locals s.heap h'->Here G A B l X aA sc aB cL m' (J.set x (some v)) aZ aP aI {s with heap:=h',toks:=tk} V c->Q () {s with heap:=h',toks:=tk}):wpAny M A (storeName aA nm w) Q E s:=
 qg H.cw H.cb H.nm H.base hx hv fun h' tk m' hs S'=>h h' tk m' hs
  ⟨H.cb,H.nm,S',H.iz.touch H.new hs.extBut,H.new,H.top,H.kz,fun p hp=>let⟨q1,q2⟩:=H.held p hp;⟨q1.but hs.extBut (.ns H.cw.lo.ns) (q1.EU H.cw.lo.ns),q2⟩⟩
theorem Here.assign(H:Here G A B l X aA sc aB cL m J aZ aP aI s V c)(ht:lU sc aB t pt)(hv:VR s.heap (LX X V c) V v a)(e:br J t a=some aE)
  (h:∀h' tk m',Heap.ExtBut aA.locals s.heap h'->Here G A B l X aA sc aB cL m' aE aZ aP aI {s with heap:=h',toks:=tk} V c->Q () {s with heap:=h',toks:=tk}):wpAny (model G.prog G.w) A (assign pt aA v) Q E s:=
 nk ht H.cw H.cb H.nm H.base hv e fun h' tk m' hs S'=>h h' tk m' hs
  ⟨H.cb,H.nm,S',H.iz.touch H.new hs,H.new,H.top,H.kz,fun p hp=>let⟨q1,q2⟩:=H.held p hp;⟨q1.but hs (.ns H.cw.lo.ns) (q1.EU H.cw.lo.ns),q2⟩⟩
end
inductive Ws(G:GC)(A:Around)(B:Heap)(l:List Env)(X:Addr->Prop)(aA:Env)(sc:Scope)(aB:List Str)(cL:List (Addr×List AV))(aE:Loc)(s:Shared)(V:Mu)(c:aC)(s':Shared)(bT:Mu)(c':aC)(f g:Flow):Prop
 |mk (h:f=g) (m':Str->Option Value) (H:Here G A B l X aA sc aB cL m' aE s V c s' bT c')
inductive Yh(G:GC)(X:Addr->Prop)(F:List Addr)(s:Shared)(V:Mu)(c:aC)(s':Shared)(bT:Mu)(c':aC)(f:Flow)(v:AV):Prop
 |mk (w:Value) (h1:f = .ret w) (h2:bq F s V c s' bT c') (h3:Rel G X s'.heap bT c') (h4:VR s'.heap (LX X bT c') bT w v)
noncomputable def Yi(G:GC)(A:Around)(B:Heap)(l:List Env)(X:Addr->Prop)(aA:Env)(sc:Scope)(aB:List Str)(cL:List (Addr×List AV))(s:Shared)(V:Mu)(c:aC)(s':Shared)(bT:Mu)(c':aC)(f:Flow):Fl->Prop
 |.nx aE=>Ws G A B l X aA sc aB cL aE s V c s' bT c' f .next|.bk aE=>Ws G A B l X aA sc aB cL aE s V c s' bT c' f .brk|.rt v=>Yh G X (bz l) s V c s' bT c' f v
inductive Mk(G:GC)(A:Around)(B:Heap)(l:List Env)(X:Addr->Prop)(aA:Env)(sc:Scope)(aB:List Str)(cL:List (Addr×List AV))(s:Shared)(V:Mu)(c:aC)(o:aD Fl)(f:Flow)(s':Shared):Prop
 |mk (fl:Fl) (c':aC) (bT:Mu) (h:o = .ok fl c') (q:Yi G A B l X aA sc aB cL s V c s' bT c' f fl)
noncomputable def oq(G:GC)(T:Tb)(W:dP)(lf:Nat)(A:Around)(B:Heap)(l:List Env)(sc:Scope)(aB:List Str)(st:Sx)(ps:Stmt):Prop:=
 ∀X aA cL m J aZ aP aI s V c,Here G A B l X aA sc aB cL m J aZ aP aI s V c->ex W lf st J c≠.fail->
  wpAny (model G.prog G.w) A (exec ps aA) (Mk G A B l X aA sc aB cL aZ aP aI (ex W lf st J c)) (Exc G X l aZ aP aI (ex W lf st J c)) s
noncomputable def nr(G:GC)(T:Tb)(W:dP)(lf:Nat)(A:Around)(B:Heap)(l:List Env)(sc:Scope)(aB:List Str)(st:List Sx)(ps:List Stmt):Prop:=
 ∀X aA cL m J aZ aP aI s V c,Here G A B l X aA sc aB cL m J aZ aP aI s V c->dR W lf st J c≠.fail->
  wpAny (model G.prog G.w) A (execs ps aA) (Mk G A B l X aA sc aB cL aZ aP aI (dR W lf st J c)) (Exc G X l aZ aP aI (dR W lf st J c)) s
theorem IW:nr G T W lf A B l sc aB [] []:=fun X aA cL m J aZ aP aI s V c H aK=>by
 rw[iO];exact wpAny_execs_nil ⟨_,_,_,rfl,rfl,_,H⟩
theorem Eb{st:Sx}{ps:Stmt}{Wt:List Sx}{Wu:List Stmt}(h:oq G T W lf A B l sc aB st ps)(hr:nr G T W lf A B l sc aB Wt Wu):nr G T W lf A B l sc aB (st::Wt) (ps::Wu):=fun X aA cL m J aZ aP aI s V c H aK=>by
 rw[kq]at aK⊢;refine wpAny_execs_cons ?_;refine bJ (h X aA cL m J aZ aP aI s V c H (aQ aK)) ?_ fun e s' x=>x.lift .refl bC;rintro f s' ⟨fl,c',bT,e,q⟩;rw[ao e]at aK⊢;cases fl with
 |nx aE=>
  obtain⟨rfl,m',H'⟩:=q;exact hr X aA cL m' aE aZ aP aI s' bT c' H' aK
 |bk aE=>
  obtain⟨rfl,m',H'⟩:=q;exact⟨_,_,_,rfl,rfl,m',H'⟩
 |rt v=>
  obtain⟨w,rfl,q1,q2,q3⟩:=q;exact⟨_,_,_,rfl,w,rfl,q1,q2,q3⟩
theorem Ml(h:dQ G T W A B l sc aB e pe):oq G T W lf A B l sc aB (.ret e) (.Return (some pe) pos):=fun X aA cL m J aZ aP aI s V c H aK=>by
 have hO:=eqQ aK (mF ..);have aK:=nh aK hO;refine wpAny_Return_some ?_;refine dq H.iz (h X aA m J s V c H.cb H.cw (aQ aK)) (c9 hO) fun va aT x a8 aR e k k1 R hx=>?_;have hO:=gs hO e;have aK:=ix aK e;refine(gT a8 x).elim fun x' zJ=>zJ.elim fun bf e2=>?_;have hO:=gs hO e2;refine(qZ R hx e2).elim fun R2 zJ=>zJ.elim fun V2 L2=>?_;exact⟨_,_,_,hO,va,rfl,k.trans (bq.fz L2),R2,V2⟩
theorem Ec:oq G T W lf A B l sc aB (.ret .none) (.Return none pos):=fun X aA cL m J aZ aP aI s V c H aK=>by
 rw[mF,s8];exact wpAny_Return_none ⟨.rt .none,c,V,rfl,_,rfl,H.iz,H.cw.rel,.none⟩
theorem Mm:oq G T W lf A B l sc aB .brk (.Break pos):=fun X aA cL m J aZ aP aI s V c H aK=>by
 rw[Ke];exact wpAny_Break ⟨_,_,_,rfl,rfl,_,H⟩
theorem IX(hi:sc.kind = .function)(hs:∀aA,swapsWith pe none pos.line aA=pure false)(h:dQ G T W A B l sc aB e pe):oq G T W lf A B l sc aB (.expr e) (.Expr pe pos):=fun X aA cL m J aZ aP aI s V c H aK=>by
 have hO:=eqQ aK (QA ..);have aK:=nh aK hO;refine wpAny_Expr_any ?_ ?_ (hs aA)
 ·refine dq H.iz (h X aA m J s V c H.cb H.cw (aQ aK)) (c9 hO) fun va aT x a8 aR e k k1 R hx=>?_;have hO:=gs hO e;exact⟨_,_,_,hO,rfl,_,H.step k k1 R⟩
 ·unfold interactive;rw[H.cb.sc,hi];rfl
theorem Mn{x:Nat}{np pos:Pos}(ho:Own sc aB x nm)(hs:∀aA,swapsWith pe (some (.Name nm np)) pos.line aA=pure false)(h:dQ G T W A B l sc aB e pe):oq G T W lf A B l sc aB (.asg x e) (.Assign [.Name nm np] pe pos):=fun X aA cL m J aZ aP aI s V c H aK=>by
 have hO:=eqQ aK (mG ..);have aK:=nh aK hO;refine wpAny_Assign_Name ?_ (hs aA);refine dq H.iz (h X aA m J s V c H.cb H.cw (aQ aK)) (c9 hO) fun va aT y a8 aR e k k1 R hx=>?_;have hO:=gs hO e;exact(H.step k k1 R).store ho hx fun h' tk m' iL H'=>⟨_,_,_,hO,rfl,m',H'⟩
theorem IY(ht:mL G T W A B l sc aB t pt)(ha:nr G T W lf A B l sc aB a pa)(hb:nr G T W lf A B l sc aB b pb):oq G T W lf A B l sc aB (.ite t a b) (.If pt pa pb pos):=fun X aA cL m J aZ aP aI s V c H aK=>by
 rw[Dr]at aK⊢;refine wpAny_If ?_;refine dq H.iz (ht X aA m J s V c H.cb H.cw (aQ aK)) bC fun va aT y a8 aR e k k1 R hx=>?_;rw[ao e]at aK⊢;cases hx;cases va with
 |true=>exact ha X aA cL m J aZ aP aI aT aR a8 (H.step k k1 R) aK|false=>exact hb X aA cL m J aZ aP aI aT aR a8 (H.step k k1 R) aK
theorem uk{α Z:Type}{o:aD α}{f:α->aC->aD Z}(h:o.fm.bind f≠.fail):o≠.fail:=fun e=>h (by rw[e];rfl)
theorem Aw{α Z:Type}{o:aD α}{f:α->aC->aD Z}{x:α}{c:aC}(e:o = .ok x c):o.fm.bind f=f x c:=by rw[e];rfl
theorem qp{α Z:Type}{o:aD α}{f:α->aC->aD Z}{O:aD Z}(hO:o.fm.bind f=O)(h:O≠.fail):∀m c,o = .exc m c->m=false/\O = .exc false c:=fun m c e=>by
 subst hO;rw[e]at h⊢;cases m with
 |true=>exact aX rfl h|false=>exact⟨rfl,rfl⟩
inductive Mo(G:GC)(A:Around)(B:Heap)(l:List Env)(X:Addr->Prop)(aA:Env)(sc:Scope)(aB:List Str)(cL:List (Addr×List AV))(aZ:Shared)(aP:Mu)(aI:aC)(O:aD Fl)(f:Loc->aC->aD Fl)(s:Shared):Prop
 |mk (J:Loc) (V:Mu) (c:aC) (m:Str->Option Value) (H:Here G A B l X aA sc aB cL m J aZ aP aI s V c) (hO:f J c=O)
inductive U8(G:GC)(A:Around)(B:Heap)(l:List Env)(X:Addr->Prop)(aA:Env)(sc:Scope)(aB:List Str)(cL:List (Addr×List AV))(aZ:Shared)(aP:Mu)(aI:aC)(O:aD Fl)(It:Addr)(f:List AV->Loc->aC->aD Fl)(n:Nat)(s:Shared):Prop
 |mk (rem:List AV) (hn:n=List.length rem) (W:Mo G A B l X aA sc aB ((It,rem)::cL) aZ aP aI O (f rem) s)
inductive U9(G:GC)(A:Around)(B:Heap)(l:List Env)(X:Addr->Prop)(aA:Env)(sc:Scope)(aB:List Str)(cL IZ:List (Addr×List AV))(aZ:Shared)(aP:Mu)(aI:aC)(O:aD Fl)(g:Loc->aC->aD Fl)(f:Flow)(s:Shared):Prop
 |nx (h:f = .next) (W:Mo G A B l X aA sc aB IZ aZ aP aI O g s)|bk (h:f = .brk) (W:Mk G A B l X aA sc aB cL aZ aP aI O .next s)|rt (w:Value) (h:f = .ret w) (W:Mk G A B l X aA sc aB cL aZ aP aI O (.ret w) s)
theorem xH(q:Mk G A B l X aA sc aB IZ aZ aP aI o f s)(hs:∀p∈cL,p∈IZ)
  (hO:(o.fm.bind fun f c=>match f with| .nx J=>g J c| .rt v=>.ok (.rt v) c| .bk J=>.ok (.nx J) c)=O):U9 G A B l X aA sc aB cL IZ aZ aP aI O g f s:=by
 obtain⟨fl,c',bT,e,q⟩:=q;rw[Aw e]at hO;cases fl with
 |nx aE=>
  obtain⟨h,m',H⟩:=q;exact .nx h ⟨aE,bT,c',m',H,hO⟩
 |bk aE=>
  obtain⟨h,m',H⟩:=q;exact .bk h ⟨_,_,_,hO.symm,rfl,m',H.cb,H.nm,H.cw,H.iz,H.new,H.top,H.kz,fun p hp=>H.held p (hs p hp)⟩
 |rt v=>
  obtain⟨w,h,q1,q2,q3⟩:=q;exact .rt w h ⟨_,_,_,hO.symm,w,rfl,q1,q2,q3⟩
theorem Ed{pos:Pos}(ht:mL G T W A B l sc aB t pt)(hb:nr G T W lf A B l sc aB b pb):oq G T W lf A B l sc aB (.n4 t b) (.While pt pb [] pos):=fun X aA cL m J aZ aP aI s V c H aK=>by
 rw[Ds]at aK⊢;generalize hO:iq lf (fun J c=>eS W J t c) (fun J c=>dR W lf b J c) lf J c=O at aK⊢;refine wpAny_While ?_;refine codeAny_whileLoop (fun n=>Mo G A B l X aA sc aB cL aZ aP aI O (iq lf (fun J c=>eS W J t c) (fun J c=>dR W lf b J c) n)) ?_ lf ⟨J,V,c,m,H,hO⟩;clear hO;rintro n s' ⟨J,V,c,m,H,hO⟩;cases n with
 |zero=>rw[Hv]at hO;exact aX hO.symm aK|succ n=>
  rw[pY]at hO;have CO:=aK;rw[<-hO]at CO;refine bJ (ht X aA m J s' V c H.cb H.cw (uk CO)) ?_ fun e tM x=>(x.lift H.iz fun U U e=>e).through H.cw.eW.frames H.top (qp hO aK);rintro va aT ⟨x,a8,aR,e,k1,R,rfl⟩;rw[Aw e]at hO;have H1:=H.step (H.iz.trans k1) k1 R;cases va with
  |false=>
   simp only[Bool.false_eq_true,if_false]at hO⊢;subst hO;exact wpAny_execs_nil ⟨_,_,_,rfl,rfl,_,H1⟩
  |true=>
   simp only[if_true]at hO⊢;have Ee:=aK;rw[<-hO]at Ee;refine bJ (hb X aA cL m J aZ aP aI aT aR a8 H1 (uk Ee)) ?_ fun e tM x=>x.through H.cw.eW.frames H.top (qp hO aK);intro f bI q;rcases xH q (fun U hp=>hp) hO with⟨rfl,W'⟩|⟨rfl,W'⟩|⟨w,rfl,W'⟩
   ·exact⟨n,Nat.lt_succ_self _,W'⟩
   ·exact W'
   ·exact W'
theorem Mp{pos:Pos}(E2:xC G T W A B l sc aB src iter)(hs:∀aA x,foldedSetIterable iter aA x=pure x)(ht:lU sc aB t target)(hb:nr G T W lf A B l sc aB b pb) :
  oq G T W lf A B l sc aB (.i6 t src b) (.For target iter pb [] pos):=fun X aA cL m J aZ aP aI s V c H aK=>by
 rw[qP]at aK⊢;refine wpAny_For ?_ (hs aA);refine bJ (E2 X aA m J s V c H.cb H.cw (aQ aK)) ?_ fun e s' x=>x.lift H.iz bC;refine fun v aT h=>bJ h ?_ fun e s' x=>x.lift H.iz bC;rintro it bI ⟨It,fh,bf,bx,rfl,e,k,R,I,hI,IU⟩;rw[ao e]at aK⊢;generalize hO:hY t (fun J c=>dR W lf b J c) fh J bf=O at aK⊢;have D1:B.get? It=none:=fw H.cw IU;have Qj:aZ.heap.get? It=none:=cZ H.iz IU;have H2:=H.step (H.iz.trans k) k R;have Wv:∀p∈cL,p.1≠It:=fun p hp=>by
  rintro rfl;refine((H.held p hp).1.there).elim fun o ho=>?_;rw[IU]at ho;exact ak ho
 refine codeAny_forLoop_any (U8 G A B l X aA sc aB cL aZ aP aI O It (hY t fun J c=>dR W lf b J c)) ?_ fh.length ⟨fh,rfl,J,bx,bf,m,⟨H2.cb,H2.nm,H2.cw,H2.iz,H2.new,H2.top,H2.kz,fun p hp=>by
  rcases b8.mp hp with rfl|hp
  ·exact⟨I,hI⟩
  ·exact H2.held p hp⟩,hO⟩
 clear hO I hI H2;rintro n s' ⟨rem,rfl,J,V,c,m,H,hO⟩;refine(H.held (It,rem) d8).elim fun I hI=>?_;have od:=I.odd.1;have next:∀{Qk:List AV}{h':Heap}{tk:Nat},Heap.ExtBut It s'.heap h'->(∀p∈(It,Qk)::cL,jG h' (LX X V c) V p.1 p.2/\¬LX X V c p.1)->Here G A B l X aA sc aB ((It,Qk)::cL) m J aZ aP aI {s' with heap:=h',toks:=tk} V c:=
  fun hb hh=>⟨H.cb,H.nm,H.cw.but hb I.fld hI D1,H.iz.touch Qj hb,H.new,H.top,H.kz,hh⟩
 cases rem with
 |nil=>
  rw[mD]at hO;subst hO;refine I.done H.cw.eW.handled fun h' hb=>?_;refine wpAny_execs_nil ⟨_,_,V,rfl,rfl,m,?_⟩;exact⟨H.cb,H.nm,H.cw.but (tk:=s'.toks) hb I.fld hI D1,H.iz.touch (tk:=s'.toks) Qj hb,H.new,H.top,H.kz,fun p hp=>let⟨q1,q2⟩:=H.held p (dO _ hp);⟨q1.but hb od (Wv p hp),q2⟩⟩
 |cons x rest=>
  rw[mE]at hO;refine I.next fun v h1 EY EZ Wj I1 hv=>?_;have H1:Here G A B l X aA sc aB ((It,rest)::cL) m J aZ aP aI {s' with heap:=h1,toks:=EY} V c:=next EZ.extBut fun p hp=>by
   rcases b8.mp hp with rfl|hp
   ·exact⟨I1,hI⟩
   ·refine(H.held p (dO _ hp)).elim fun q1 q2=>?_;exact⟨q1.but EZ.extBut od (Wv p hp),q2⟩
  refine I1.letGo ?_;cases kw:br J t x with
  |none=>rw[kw]at hO;exact aX hO.symm aK|some aE=>
  rw[kw]at hO;refine H1.assign ht (hv.but EZ.extBut od) kw fun h2 yn m2 PN H2=>?_;have Ee:=aK;rw[<-hO]at Ee;refine bJ (hb X aA ((It,rest)::cL) m2 aE aZ aP aI _ V c H2 (uk Ee)) ?_ fun e tM x=>x.through H.cw.eW.frames H.top (qp hO aK);intro f fi q;rcases xH q (fun U hp=>dO _ hp) hO with⟨rfl,W'⟩|⟨rfl,W'⟩|⟨w,rfl,W'⟩
  ·exact⟨rest.length,Nat.lt_succ_self _,rest,rfl,W'⟩
  ·exact W'
  ·exact W'
end
section
variable{G:GC}{A:Around}{B:Heap}{l:List Env}{X:Addr->Prop}{aA:Env}{h h':Heap}{s s' aZ:Shared}{V bT aP:Mu}{c c' aI:aC}
theorem Ef{j:Nat}(hx:c[j]?=some x):(c.set j y)[j]?=some y:=List.getElem?_set_self (dg.mp hx).1
theorem qq{j:Nat}(hx:c[j]?=some x)(lx:x.live=true)(b:Addr)(q:ci V (c.set j y) b):ci V c b:=q.EH hx fun U=>lx
theorem Rel.setCell{j:Nat}(R:Rel G X h V c)(hp:V[j]?=some p)(hx:c[j]?=some x)(lx:x.live=true)(hb:Heap.ExtBut p.own h h')(H:fD G h' (LX X V c) V p y):Rel G X h' V (c.set j y):=by
 have sub:∀b,LX X V (c.set j y) b->LX X V c b:=fun b q=>q.imp id (qq hx lx b);have Ax:LX X V c p.own:=.inr (ci.of hp hx lx);have k:Pass h (LX X V c) V h' (LX X V c) V:=ee hb Ax;refine⟨by(refine .trans (R.len ..)<|?_;rw[List.length_set]),fun i i' p' q' z w a1 a2 a3 a4 a5 a6 a7=>?_,fun b q=>?_,fun b q z=>R.eB b q (qq hx lx b z),fun i p' z a1 a2=>?_⟩
 ·have cell:∀{i:Nat}{z:Cell},(c.set j y)[i]?=some z->z.live=true->∃z',c[i]?=some z'/\z'.live=true:=by
   intro i z a3 a5
   by_cases ij:j=i
   ·subst ij;exact⟨x,hx,lx⟩
   ·rw[g8 ij]at a3;exact⟨z,a3,a5⟩
  refine au (cell a3 a5) fun z' b1 b2=>?_;refine au (cell a4 a6) fun w' b3 b4=>?_;exact R.apart i i' p' q' z' w' a1 a2 b1 b3 b2 b4 a7
 ·obtain⟨o,ho⟩:=R.fU b q;exact⟨o,hb b o (by rintro rfl;exact R.eB _ q (ci.of hp hx lx)) ho⟩
 ·by_cases ij:j=i
  ·subst ij;rw[Ef hx]at a2;obtain rfl:=bE a2;rw[hp]at a1;obtain rfl:=bE a1;exact H.wn sub
  ·rw[g8 ij]at a2;have H':=R.at_ i p' z a1 a2;have own:z.live=true->p'.own≠p.own:=fun lz=>R.apart i j p' p z x a1 hp a2 hx lz lx (Ne.symm ij);refine fD.wn sub ?_;cases z with
   |list l=>refine eP H' fun e vs h1 r=>?_;exact⟨e,vs,h1.keeps fun o ho=>hb _ _ (own rfl) ho,r.pass k⟩|dead l=>exact VR.pass k H'|inst at_=>
    obtain⟨ox,od,es,n,I,q1,q2,q3,q4,q5,r,r2⟩:=H';exact⟨ox,od,es,n,lT I q1 hb (fun q=>q3 (q▸Ax)) (own rfl),q1,q2,q3,q4,q5,r.pass k,r2⟩
   |dict es=>
    refine eP H' fun e gi d r=>?_;refine⟨e,gi,?_,r.pass k⟩;rw[Heap.dictOf_iff]at d⊢;refine au d fun o h1 r'=>?_;exact⟨o,hb _ _ (own rfl) h1,r'⟩
theorem bq.setCell{j:Nat}{tk:Nat}(hp:V[j]?=some p)(hx:c[j]?=some x)(lx:x.live=true)(hb:Heap.ExtBut p.own s.heap h')(he:∃o,h'.get? p.own=some o) :
  bq F s V c {s with heap:=h',toks:=tk} V (c.set j y):=by
 have lv:=ci.of hp hx lx;refine⟨⟨_,_,rfl⟩,fun b o e hl=>?_,fun U U e=>e,fun b q=>.inl (qq hx lx b q),fun b o e=>?_⟩
 ·have:=hb b o (by rintro rfl;exact hl lv) e
  exact⟨fun U=>this,o.slots,this⟩
 ·by_cases q:b=p.own
  ·subst q;exact he
  ·exact⟨o,hb b o q e⟩
inductive Eg(V:Mu)(c:aC)(p:CA)(y:Cell)(i:Nat):CA->Cell->Prop
 |old (q:CA) (z:Cell) (h1:V[i]?=some q) (h2:c[i]?=some z):Eg V c p y i q z|new (e:i=c.length):Eg V c p y i p y
theorem um(hl:V.length=c.length){i:Nat}(h1:(V++[p])[i]?=some q)(h2:(c++[y])[i]?=some z):Eg V c p y i q z:=by
 rcases Nat.lt_trichotomy i c.length with e|e|e
 ·rw[i4 (hl▸e)]at h1;rw[i4 e]at h2;exact .old _ _ h1 h2
 ·subst e;rw[<-hl,List.getElem?_concat_length]at h1;rw[List.getElem?_concat_length]at h2;obtain rfl:=bE h1;obtain rfl:=bE h2;exact .new rfl
 ·rw[List.getElem?_eq_none (by rw[cB,hl];exact e)]at h1;exact ak h1
theorem mP(hl:V.length=c.length)(b:Addr)(q:ci (V++[p]) (c++[y]) b):ci V c b\/b=p.own:=by
 obtain⟨i,p',z,h1,h2,h3,h4⟩:=q;induction um hl h1 h2 with
 |old q z a1 a2=>exact .inl ⟨i,q,z,a1,a2,h3,h4⟩|new=>exact .inr h4.symm
theorem Rel.mQ(R:Rel G (fun b=>X b\/b=p.own) h V c)(hx :¬X p.own)(H:fD G h (LX (fun b=>X b\/b=p.own) V c) (V++[p]) p y):Rel G X h (V++[p]) (c++[y]):=by
 have sub:∀b,LX X (V++[p]) (c++[y]) b->LX (fun b=>X b\/b=p.own) V c b:=fun b q=>by
  rcases q with q|q
  ·exact .inl (.inl q)
  ·rcases mP R.len b q with q|q
   ·exact .inr q
   ·exact .inl (.inr q)
 have pre:∀(i:Nat) q,V[i]?=some q->(V++[p])[i]?=some q:=fun i q e=>by
  refine .trans (i4 (dg.mp e).1 ..)<|?_;exact e
 have k:Pass h (LX (fun b=>X b\/b=p.own) V c) V h (LX X (V++[p]) (c++[y])) (V++[p]):=⟨fun b o e U=>⟨o.slots,e⟩,fun b q=>.inl (sub b q),pre⟩;have old:∀{i:Nat}{q:CA}{z:Cell},V[i]?=some q->c[i]?=some z->z.live=true->q.own≠p.own:=fun h1 h2 h3 e=>R.eB p.own (.inr rfl) (e▸ci.of h1 h2 h3);refine⟨by simp[R.len],fun i i' p' q' z w a1 a2 a3 a4 a5 a6 a7=>?_,fun b q=>R.fU b (.inl q),fun b q z=>?_,fun i q z a1 a2=>?_⟩
 ·have c1:=um R.len a1 a3;have c2:=um R.len a2 a4;clear a1 a2 a3 a4;induction c1 with
  |old p' z b1 b2=>induction c2 with
   |old q' w b3 b4=>exact R.apart i i' p' q' z w b1 b3 b2 b4 a5 a6 a7|new U=>exact old b1 b2 a5
  |new b1=>induction c2 with
   |old q' w b3 b4=>exact(old b3 b4 a6).symm|new b3=>exact aX (b1.trans b3.symm) a7
 ·rcases mP R.len b z with z|rfl
  ·exact R.eB b (.inl q) z
  ·exact hx q
 ·have c1:=um R.len a1 a2;clear a1 a2;induction c1 with
  |old q z b1 b2=>
   have H':=R.at_ i q z b1 b2;cases z with
   |list l=>refine eP H' fun e vs h1 r=>?_;exact⟨e,vs,h1,r.pass k⟩|dead l=>exact VR.pass k H'|inst at_=>obtain⟨ox,od,es,n,I,q1,q2,q3,q4,q5,r,r2⟩:=H';exact⟨ox,od,es,n,I,q1,q2,fun z=>q3 (sub _ z),q4,q5,r.pass k,r2⟩
   |dict es=>refine eP H' fun e gi d r=>?_;exact⟨e,gi,d,r.pass k⟩
  |new U=>exact H.wn sub
theorem bq.mQ(k:bq F aZ aP aI s V c)(hl:V.length=c.length)(hn:aZ.heap.get? p.own=none):bq F aZ aP aI s (V++[p]) (c++[y]):=by
 refine⟨k.same,k.ext,fun i q e=>?_,fun b q=>?_,k.there⟩
 ·have:=k.pre i q e;refine .trans (i4 (dg.mp this).1 ..)<|?_;exact this
 ·rcases mP hl b q with q|rfl
  ·exact k.new b q
  ·exact .inr hn
end
section
variable{G:GC}{T:Tb}{W:dP}{D lf:Nat}{A:Around}{B:Heap}{l:List Env}{sc:Scope}{aB:List Str}
theorem uo{M:Model}{E:Value->Shared->Prop}{s:Shared}{name:Str}{id:String}{pl:Sem Bool}{a:Addr}{fh:Array Value}{Q:Value×List Value->Shared->Prop}(slot:Slot "list" name id)
  (Ua:typeOf (.builtin id)=pure (.type "method_descriptor")) (hl:nZ s.heap a fh) (h:Q (.builtin id,[.ref a]) s):wpAny M A (getMethod (.ref a) name pl) Q E s:=
 getMethod_builtin hl.isList.typeIs PySem.F.plainAttrs_list slot Ua (fun b e=>by cases e;refine c6 hl fun n sl ho=>?_;exact⟨_,ho,rfl⟩) h
theorem xI{c:aC}{o:AV}{j:Nat}{l:List AV}(h:gh c o=some (j,l)):o = .ref j/\c[j]?=some (.list l):=by
 cases o with
 |ref i=>
  replace h:(match c[i]? with|some (.list l)=>some (i,l) |_=>none)=some (j,l):=h
  refine i5 (c[i]?) (fun y q=>?_) (fun q=>?_)
  ·rw[q]at h;cases y with
   |list m=>cases bE h;exact⟨rfl,q⟩|_=>exact ak h
  ·rw[q]at h;exact ak h
 |_=>exact ak h
theorem tZ{x:Nat}{nm:Str}{Km:Str}{id:String}{np apos nu pos:Pos}{e:Ex}{pe:Expr}{st:Sx}{f:List AV->AV->Option (List AV)}(hi:sc.kind = .function)(slot:Slot "list" Km id)(Ua:typeOf (.builtin id)=pure (.type "method_descriptor"))
  (Ub:∀(J:Loc)(c:aC),ex W lf st J c=(ev W J (.loc x) c).bind fun o c=>match gh c o with
   |some U=>(ev W J e c).bind fun v c=>(fz c v).bind fun v c=>match upd f c o v with
    |some c=>.ok (.nx J) c|none=>.fail
   |none=>.fail)
  (Ql:∀{A:Around}{E:Value->Shared->Prop}{s:Shared}{a:Addr}{vs:List Value}{w:Value}{P:Addr->Prop}{V:Mu}{l:List AV}{v:AV}{l':List AV}{Q:Value->Shared->Prop},nZ s.heap a vs.toArray->P a->cN s.heap P V vs l->VR s.heap P V w v->f l v=some l'->
   (∀h' CT,nZ h' a CT.toArray->Heap.SameBut a s.heap h'->cN h' P V CT l'->Q .none {s with heap:=h'})->wpAny (model G.prog G.w) A (call (.builtin id) [.ref a,w]) Q E s)
  (hx:aB[x]?=some nm) (hd:(nm==("__debug__":Str))=false) (hc:(nm==("__classdict__":Str))=false) (hs:∀x p,pe≠.Starred x p) (Qm:apos.endLine=nu.line) (h:dQ G T W A B l sc aB e pe) :
  oq G T W lf A B l sc aB st (.Expr (.Call (.Attribute (.Name nm np) Km apos) [pe] [] nu) pos):=fun X aA cL m J aZ aP aI s V c H aK=>by
 rw[Ub]at aK⊢;refine wpAny_Expr_any ?_ (by unfold interactive;rw[H.cb.sc,hi];rfl) rfl
 refine j9 (kY rfl (dD hs eC) (by simp) Qm ..)<|?_
 refine aL (dq H.iz (uc (T:=T) (W:=W) (pos:=np) hx hd hc X aA m J s V c H.cb H.cw (aQ aK)) bC fun va aT o a8 aR e1 k k1 R hv=>?_);rw[ao e1]at aK⊢;have H1:=H.step k k1 R;refine aL (de ?_);cases Eh:gh a8 o with
 |none=>rw[Eh]at aK;exact aX rfl aK|some q=>
  obtain⟨j,l1⟩:=q;obtain⟨rfl,hj⟩:=xI Eh;rw[Eh]at aK;dsimp only at aK⊢;induction hv.i8 with|mk p hp=>?_
  refine eP (R.at_ _ _ _ hp hj) fun ep vs1 Yj U=>?_;rw[ep];refine aL (wpAny_holding (uo slot Ua Yj ?_));refine callWith_meth (dD hs eC) ?_;refine args_cons ?_ (bg hs aA);refine dq k (h X aA m J aT aR a8 H.cb H1.cw (aQ aK)) bC fun w bI y bf bx e2 k' k2 R2 hy=>args_nil ?_;rw[ao e2]at aK⊢;refine c6 (gT bf y) fun y' fY e3=>?_;rw[ao e3]at aK⊢;refine cH (qZ R2 hy e3) fun R3 V3 L3=>?_;have H3:=(H1.step k' k2 R2).fz R3 L3;unfold upd at aK⊢;cases zK:gh fY (.ref j) with
  |none=>rw[zK]at aK;exact aX rfl aK|some q=>
   obtain⟨j',l3⟩:=q;obtain⟨q',TU⟩:=xI zK;cases q';rw[zK]at aK;dsimp only at aK⊢;cases hf:f l3 y' with
   |none=>rw[hf]at aK;exact aX rfl aK|some l'=>
    have TV:=k2.pre _ _ hp;refine eP (R3.at_ _ _ _ TV TU) fun U vs3 Yk Yl=>?_;have Ax:LX X bx fY p.own:=.inr (ci.of TV TU rfl);refine Ql Yk Ax Yl V3 hf fun h' CT Hg iL Q2=>?_;have R4:=R3.setCell TV TU rfl iL.extBut (y:=.list l') ⟨ep,CT,Hg,Q2⟩;refine c6 Hg fun n sl ho=>?_;have k4:bq (bz l) bI bx fY {bI with heap:=h'} bx (fY.set j (.list l')):=bq.setCell (tk:=bI.toks) TV TU rfl iL.extBut ⟨_,ho⟩
    exact⟨_,_,_,rfl,rfl,m,H3.step (H3.iz.trans k4) k4 R4⟩
theorem Mq{x:Nat}{pe:Expr}(hi:sc.kind = .function)
  (hx:aB[x]?=some nm) (hd:(nm==("__debug__":Str))=false) (hc:(nm==("__classdict__":Str))=false) (hs:∀x p,pe≠.Starred x p) (Qm:apos.endLine=nu.line) (h:dQ G T W A B l sc aB e pe) :
  oq G T W lf A B l sc aB (.app x e) (.Expr (.Call (.Attribute (.Name nm np) (Str.ofString "append") apos) [pe] [] nu) pos):=
 tZ (f:=wf) hi slot_list_append type_list_append (fun J c=>by exact(MO ..)<;>rfl) (fun{A E s a vs w P V l v Ym Q} hl hP hr hw hf hQ=>by
  induction fg (show(if l.length<=aJ then some (l++[v]) else none)=_ from hf) with|mk lu=>?_;refine tW hl (fun h' Hg iL=>?_) (by rw[List.size_toArray,hr.length];exact cY lu dX)
  have k:=ee (V:=V) iL.extBut hP;exact hQ h' (vs++[w]) (by simpa using Hg) iL ((hr.pass k).append (.cons (hw.pass k) .nil))) hx hd hc hs Qm h
theorem up(l:Addr)(am:Array Value)(n:Nat)(b:Addr)(hZ:Array Value)(n2:Nat)(sl:Array (Option Value))(UH:Option Addr)(Kh:Array (Option Value))(hc0 :¬(!am.isEmpty&&Builtin.List.listTooLong (am.size+hZ.size))=true)(Uc:am.size<=sizeLine)(Yn:am.size+hZ.size<=sizeLine+1) :
  Meets (Builtin.«list.extend» ⟨[.ref l,.ref b],[]⟩) (fun U R s=>s.heap.get? l=some {cls:=.type "list",dict:=none,data:=.seq am n,slots:=sl}/\s.heap.get? b=some {cls:=.type "list",dict:=UH,data:=.seq hZ n2,slots:=Kh}/\R (.ok (.ret Value.none)) {s with heap:=s.heap.update l (Obj.mapSeq fun x=>x++hZ),toks:=s.toks}):=
 .of_wp fun prog w A R s h=>by
  obtain⟨hp,g,d,tk,os⟩:=s;obtain⟨hl,hb,h⟩:=h;have f1:=AutoSeq1.idx_int;have f2:=AutoSeq1.sub_tuple_tuple;have f3:=AutoSeq1.sub_list_list;have f4:=AutoSeq1.sub_tuple_list;have f5:=AutoSeq1.sub_list_tuple;have Yo:(am++hZ).size<=sizeLine+1:=by rw[Array.size_append];exact Yn
  wp_walk using(wpAny_updateSeq hl rfl (hz:=Uc) (_hz':=Yo)),AutoSeq1.wpAny_loadPart' hl,AutoSeq1.wpAny_loadPart' hb;exact⟨_,rfl,h⟩
inductive Qn(l:List AV):AV->List AV->Prop
 |mk (m:List AV) (h:l.length+m.length<=aJ):Qn l (.lst m) (l++m)
theorem Qo{l r:List AV}{v:AV}(e:yu l v=some r):Qn l v r:=by
 cases v with
 |lst m=>induction fg e with|mk h=>?_;exact⟨_,h⟩
 |_=>exact ak e
theorem Mr{x:Nat}{pe:Expr}(hi:sc.kind = .function)
  (hx:aB[x]?=some nm) (hd:(nm==("__debug__":Str))=false) (hc:(nm==("__classdict__":Str))=false) (hs:∀x p,pe≠.Starred x p) (Qm:apos.endLine=nu.line) (h:dQ G T W A B l sc aB e pe) :
  oq G T W lf A B l sc aB (.ext x e) (.Expr (.Call (.Attribute (.Name nm np) (Str.ofString "extend") apos) [pe] [] nu) pos):=
 tZ (f:=yu) hi PySem.F.slot_list_extend PySem.F.type_list_extend (fun J c=>by exact(QB ..)<;>rfl) (fun{A E s a vs w P V l v Ym Q} hl hP hr hw hf hQ=>by
  induction Qo hf with|mk m lu=>?_;induction hw.lst_is with|mk b ws h1 h3 h2=>?_
  refine lw (id h1) fun nc ho hc n hd=>?_;obtain⟨cls,dd,data,sl⟩:=nc;simp only at hc hd;subst hc hd;refine c6 (id hl) fun n1 Ww Ud=>?_;have Ms:vs.toArray.size+ws.toArray.size<=sizeLine:=by rw[List.size_toArray,List.size_toArray,hr.length,h3.length];exact cY lu dX
  refine call_meets PySem.F.slot_list_extend ⟨_,Ud,rfl⟩ PySem.F.entry_list_extend (PySem.F.args_list_extend_2 _ _) (up a vs.toArray n1 b ws.toArray n Ww dd sl (extend_door Ms) (cY (Nat.le_add_right _ _) Ms) (Nat.le_succ_of_le Ms)) ⟨Ud,ho,?_⟩;have iL:Heap.SameBut a s.heap (s.heap.update a (Obj.mapSeq fun x=>x++ws.toArray)):=Heap.SameBut.update ..;have k:=ee (V:=V) iL.extBut hP;refine hQ _ (vs++ws) ⟨(if(vs.toArray++ws.toArray).size==vs.toArray.size then n1 else n1+1),Ww,?_⟩ iL ((hr.pass k).append (h3.pass k))
  (refine .trans (Heap.get?_update_self _ Ud (by rw[mapSeq_app];rfl) ..)<|?_;rw[mapSeq_app])
  simp) hx hd hc hs Qm h
end
section
variable{G:GC}{T:Tb}{W:dP}{D lf:Nat}{A:Around}{B:Heap}{l:List Env}{sc:Scope}{aB:List Str}
variable{X:Addr->Prop}{aA:Env}{cL:List (Addr×List AV)}{m:Str->Option Value}{J:Loc}{aZ s s':Shared}{aP V bT:Mu}{aI c c':aC}
theorem Here.cell(H:Here G A B l X aA sc aB cL m J aZ aP aI s V c)(k:bq (bz l) s V c s' bT c')(R:Rel G (fun b=>X b\/b=a) s'.heap bT c')(hn:s.heap.get? a=none)
  (hc:fD G s'.heap (LX (fun b=>X b\/b=a) bT c') (bT++[⟨a,a⟩]) ⟨a,a⟩ y) :
  Here G A B l X aA sc aB cL m J aZ aP aI s' (bT++[⟨a,a⟩]) (c'++[y])/\VR s'.heap (LX X (bT++[⟨a,a⟩]) (c'++[y])) (bT++[⟨a,a⟩]) (.ref a) (.ref c'.length):=by
 have nx :¬X a:=fun q=>by obtain⟨o,ho⟩:=H.cw.rel.fU a q;rw[hn]at ho;exact ak ho
 have R':=Rel.mQ (p:=⟨a,a⟩) R nx hc;have k':=bq.mQ (p:=⟨a,a⟩) (y:=y) k R.len hn;refine⟨H.step (H.iz.trans k') k' R',?_⟩;have e:(bT++[(⟨a,a⟩:CA)])[c'.length]?=some ⟨a,a⟩:=by
  (refine .trans (List.getElem?_append_right (by rw[R.len];exact b5 _) ..)<|?_;rw[show c'.length-bT.length=0 by rw[R.len];omega]);rfl
 exact VR.ref (p:=⟨a,a⟩) e
theorem I0{x:Nat}(ho:Own sc aB x nm)(hs:∀aA,swapsWith pe (some (.Name nm np)) pos.line aA=pure false)(hd:∀ks vs,e≠.dict ks vs)(h:Q3 G T W A B l sc aB e pe):oq G T W lf A B l sc aB (.dn x e) (.Assign [.Name nm np] pe pos):=fun X aA cL m J aZ aP aI s V c H aK=>by
 have e0:ex W lf (.dn x e) J c=(ev W J e c).bind fun v c=>match v with
   |.lst l=>.ok (.nx (J.set x (some (.ref c.length)))) (c++[.list l])|_=>.fail:=by
  rw[Dp];all_goals first|rfl| (intro ks vs q;exact hd ks vs q)
 rw[e0]at aK⊢;refine wpAny_Assign_Name ?_ (hs aA);refine bJ (h X aA m J s V c H.cb H.cw (aQ aK)) ?_ fun e s' x=>x.lift H.iz bC;rintro v aT ⟨a,vs,l1,a8,aR,rfl,e1,k,R,hl,aS,hn⟩;rw[ao e1]at aK⊢;obtain⟨H1,V1⟩:=H.cell (y:=.list l1) k R hn ⟨rfl,vs,hl,aS.pass ⟨fun b o e U=>⟨o.slots,e⟩,fun b q=>.inl q,fun i q e=>by refine .trans (i4 (dg.mp e).1 ..)<|?_;exact e⟩⟩
 exact H1.store ho V1 fun h' tk m' iL H'=>⟨_,_,_,rfl,rfl,m',H'⟩
theorem t6{x:Nat}{st:Sx}{nw:Bool}(ho:Own sc aB x nm)(hs:∀aA,cv aA sc->swapsWith pe (some (.Name nm np)) pos.line aA=pure true)
  (Ub:∀(J:Loc)(c:aC),ex W lf st J c=(ev W J e c).bind fun v c=>match v with
   |.lst l=>if nw then .ok (.nx (J.set x (some (.ref c.length)))) (c++[.list l]) else .ok (.nx (J.set x (some (.lst l)))) c|_=>.fail)
  (h:tY G T W A B l sc aB e pe):oq G T W lf A B l sc aB st (.Assign [.Name nm np] pe pos):=by
 obtain⟨elt,gens,scope,nu,rfl,h⟩:=h;intro X aA cL m J aZ aP aI s V c H aK;rw[Ub]at aK⊢;refine j9 (exec_Assign_Name_used _ _ _ _ (hs aA H.cb) ..)<|?_
 refine aL (de (aL ?_));show wpAny _ A (do let _ <-comprehension (.ListComp elt gens scope nu) scope aA (firstIterPos gens nu) (newList []) (firstAsync gens) (firstIter gens aA) (some (assign (.Name nm np) aA))) _ _ s
 refine aL (bJ (h X aA m J s V c (some (assign (.Name nm np) aA)) (fun U s'=>Mk G A B l X aA sc aB cL aZ aP aI ((ev W J e c).bind fun v c=>match v with
   |.lst l=>if nw then .ok (.nx (J.set x (some (.ref c.length)))) (c++[.list l]) else .ok (.nx (J.set x (some (.lst l)))) c|_=>.fail) .next s') _ H.cb H.cw (aQ aK) (fun D C cE r ys s' bT m' he k R hl hy hD hC hn hX=>?_) fun e' s' x=>x.lift H.iz bC) (fun U s' hq=>aW (aW hq)) fun U U e=>e)
 rw[he];have Wx:aA.locals≠C:=by
  rintro rfl;refine ly H.cw.lo.ns fun o es ep ho U=>?_;rw[hC]at ho;exact ak ho
 have Yp:C∉bz l:=fun q=>by
  refine eP (H.cw.eW.jm.mem q) fun U o ho U=>?_;rw[hC]at ho;exact ak ho
 have sub:∀b,LX X bT cE b->LX (fun b=>X b\/b=D) bT cE b:=fun b q=>q.imp .inl id;have go:∀{aE:Loc}{m' ER:Str->Option Value}{tM:Shared}{CD:Mu}{c'':aC}{ik:Heap},Here G A B l X aA sc aB cL ER aE aZ aP aI tM CD c''->tM.heap.Ns C m'->¬LX X CD c'' C->Heap.SameBut C tM.heap ik->Here G A B l X aA sc aB cL ER aE aZ aP aI {tM with heap:=ik} CD c'':=by
  intro aE m' ER tM CD c'' ik D4 Mt Ue js;have od:lR tM.heap C:=.ns Mt;have Yq:aZ.heap.get? C=none:=cZ H.iz hC;refine⟨D4.cb,D4.nm,⟨D4.cw.bs,?_,D4.cw.rel.but js.extBut od Ue,D4.cw.xb,D4.cw.lo.but js.extBut od (qf Mt) Wx⟩,D4.iz.touch (tk:=tM.toks) Yq js.extBut,D4.new,D4.top,D4.kz,fun p hp=>let⟨q1,q2⟩:=D4.held p hp;⟨q1.but js.extBut od (q1.EU Mt),q2⟩⟩;exact D4.cw.eW.CP js.extBut (fw H.cw hC) Yp
 have sL:∀{ik:Heap},Heap.SameBut aA.locals s'.heap ik->ik.Ns C m':=fun js=>hn.sameBut js (Ne.symm Wx);show wpAny _ A (assign (.Name nm np) aA (.ref D)) _ _ s';refine wpAny_assign_Name ?_;cases nw with
 |false=>
  have R':Rel G X s'.heap bT cE:=R.less fun b q=>.inl q;have H1:=H.step (H.iz.trans k) k R';have nD :¬LX X bT cE D:=by
   rintro(q|q)
   ·obtain⟨o,ho⟩:=H.cw.rel.fU D q;rw[hD]at ho;exact ak ho
   ·exact R.eB D (.inr rfl) q
  refine H1.store ho (.lst hl.isList nD (hy.pass ⟨fun b o e U=>⟨o.slots,e⟩,fun b q=>.inl (sub b q),fun U U e=>e⟩)) fun h' tk ER iL H'=>?_;exact⟨m',sL iL,fun ik js=>⟨_,_,_,rfl,rfl,ER,go H' (sL iL) (fun q=>hX (sub _ q)) js⟩⟩
 |true=>
  obtain⟨H1,V1⟩:=H.cell (y:=.list r) k R hD ⟨rfl,ys,hl,hy.pass ⟨fun b o e U=>⟨o.slots,e⟩,fun b q=>.inl q,fun i q e=>by refine .trans (i4 (dg.mp e).1 ..)<|?_;exact e⟩⟩
  have nX :¬LX X (bT++[⟨D,D⟩]) (cE++[.list r]) C:=fun q=>by
   rcases q with q|q
   ·exact hX (.inl (.inl q))
   ·rcases mP R.len C q with q|q
    ·exact hX (.inr q)
    ·exact hX (.inl (.inr q))
  refine H1.store ho V1 fun h' tk ER iL H'=>?_;exact⟨m',sL iL,fun ik js=>⟨_,_,_,rfl,rfl,ER,go H' (sL iL) nX js⟩⟩
end
section
variable{G:GC}{A:Around}{E:Value->Shared->Prop}{s:Shared}{P:Addr->Prop}{V:Mu}
theorem qr(ho:jo o po=true)(ha:VR s.heap P V va a)(hb:VR s.heap P V vb b)(e:gg o a b=some r) :
  wpAny (model G.prog G.w) A (inplaceOp po va vb) (Ak P V s r) E s:=by
 obtain rfl:=of_decide_eq_true ho;cases o with
 |add=>
  cases a with
  |int x=>
   induction gb e with|mk y e1=>?_;induction ha.int_is with|mk t=>?_
   induction hb.int_is with|mk u=>?_;obtain rfl:=bE e1
   exact wpAny_iadd_int ⟨.tok,.int _ _⟩
  |str x=>
   induction yq e with|mk y e1=>?_;induction ha.str_is with|mk t=>?_
   induction hb.str_is with|mk u=>?_;induction fg e1 with|mk q=>?_
   refine PyProof.Rows.iadd_str (fun t' tk=>⟨Kept.tok,?_⟩) (by rw[str_len,str_len];exact cY q dX)
   rw[p9];exact .str _ _
  |_=>exact ak e
 |sub=>
  induction gb e with|mk x e1=>?_;induction gb e1 with|mk y e2=>?_
  induction ha.int_is with|mk t=>?_;induction hb.int_is with|mk u=>?_
  obtain rfl:=bE e2;exact PyProof.Rows.isub_int ⟨.tok,.int _ _⟩
 |fdiv=>
  induction gb e with|mk x e1=>?_;induction gb e1 with|mk y e2=>?_
  induction ha.int_is with|mk t=>?_;induction hb.int_is with|mk u=>?_
  induction fg e2 with|mk q=>?_;refine PyProof.Rows.ifloordiv_int (by omega) ⟨.tok,?_⟩ (.inl (tR q.1 q.2))
  rw[Int.fdiv_eq_ediv_of_nonneg _ (by omega)];exact .int _ _
 |_=>exact ak e
end
theorem iP(name:Str)(hsh:Int)(key v:Value)(c:Value)(d:Option Addr)(es:Array DictEntry)(n:Nat)(sl:Array (Option Value)) :
  Obj.putName name hsh key v ⟨c,d,.dict es n,sl⟩=⟨c,d,.dict (putL name hsh key v es.toList).toArray (PySem.W.putN name es.toList n),sl⟩:=by
 rw[Obj.putName_eq];obtain⟨es⟩:=es;unfold Obj.putNameByArray PySem.W.putN;have h1:=putL_find name hsh key v es;have h2:=any_of_findIdx name es;simp only[List.findIdx?_toArray];cases h:List.findIdx? (fun x=>x.key.isStr name) es with
 |none=>rw[h]at h1 h2;rw[<-h2,<-h1];simp|some i=>rw[h]at h1 h2;rw[<-h2,<-h1];simp
theorem qQ.put{hsh:Int}(hw:VR h P V w a)(H:qQ h P V es l):qQ h P V (putL ⟨k.toArray⟩ hsh (.str ⟨k.toArray⟩ t) w es) (dC k a l):=by
 induction H with
 |nil=>exact .cons rfl hw .nil|@cons U bG n dy lP wO hk hv hr ih=>
  unfold putL;rw[hk,tV,lQ]
  by_cases q:n=k
  ·rw[decide_eq_true q,aO rfl,aO q];exact .cons rfl hw hr
  ·rw[eO q,aV Bool.false_ne_true,aV q];exact .cons hk hv ih
theorem qQ.noRef(H:qQ h P V es l):es.any (·.refKey)=false:=by
 induction H with
 |nil=>rfl|cons hk U bG ih=>
  (refine .trans (List.any_cons ..)<|?_;rw[ih])
  simp[DictEntry.refKey,hk]
theorem qQ.length(H:qQ h P V es l):es.length=l.length:=
 H.rec (motive:=fun es l U=>es.length=l.length) rfl fun U U U ih=>aY (·+1) ih
section
variable{G:GC}{T:Tb}{W:dP}{D lf:Nat}{A:Around}{B:Heap}{l:List Env}{sc:Scope}{aB:List Str}
theorem zM(aG:Wd G T W D){k:Nat}(X:G.K.In s.heap)(I:InstAt s.heap x ox G.RC (some od))(hd:ox.dict=some dx)(hn:n∈T.atts)
  (ho:od.data = .dict es k) (hr:es.toList.any (·.refKey)=false) (hz:∀hsh key,(putL (⟨n.toArray⟩:Str) hsh key w es.toList).length<=1000)
  (h:∀hsh tk,Q () {s with heap:=s.heap.update dx (Obj.putName ⟨n.toArray⟩ hsh (.str ⟨n.toArray⟩ tk) w),toks:=s.toks+2}):wpAny (model G.prog G.w) A (setAttr (.ref x) ⟨n.toArray⟩ w) Q E s:=by
 have hf:=aG.TM n hn;refine set_plain X I aG.EA.1 (osa_open (s:={s with toks:=s.toks+1}) X I aG.EA.2 (r:=none) (by unfold takerIn;rw[hf];rfl) fun b=>?_)
 obtain⟨cd,hc,qR⟩:=any_some aG.cls.2;have D:s.heap.get? dx=some od:=by
  have:=I.dict;rw[hd]at this;exact this
 obtain⟨hx,pj,UI,-⟩:=I;obtain⟨oc,odi,oda,osl⟩:=ox;dsimp only at pj hd;subst pj hd;refine aL (aW (aL (aL (wpAny_loadPart hx (aL ((looks_clsIn X hc).here (s:={s with toks:=s.toks+1}) ?_))))))
 rw[qR];refine aW (a:=some dx) (aL (aW (aL ?_)));unfold nsSet;refine aL (aL (wpAny_askSetting (aW (aL (wpAny_mkText (aL (wpAny_loadPart D ?_)))))));rw[ho];dsimp only;have c:(!es.any (·.key.isStr ⟨n.toArray⟩)&&es.any (·.refKey))=false:=by
  have Q2:es.any (·.refKey)=false:=by refine .trans (.symm (Array.any_toList ..))<|?_;exact hr
  rw[Q2,Bool.and_false]
 rw[aRefKeyMayBeTheName_at,c];refine wpAny_updatePart D ?_;obtain⟨Wy,TW,Yr,Kh⟩:=od;dsimp only at ho;subst ho;have D':∀hsh key,(s.heap.update dx (Obj.putName ⟨n.toArray⟩ hsh key w)).get? dx=some (⟨Wy,TW,.dict (putL ⟨n.toArray⟩ hsh key w es.toList).toArray (PySem.W.putN ⟨n.toArray⟩ es.toList k),Kh⟩:Obj):=fun hsh key=>by
  (refine .trans (Heap.get?_update_self _ D (by rw[iP];rfl) ..)<|?_;rw[iP])
 refine aL (wpAny_lookBehind (D' _ _) (pastItsLine_dict (by rw[List.size_toArray,sizeLine_eq];first|exact cY (hz _ _) (by omega) |exact Nat.lt_of_le_of_lt (hz _ _) (by omega))) ?_)
 exact aW (h _ _)
end
section
variable{G:GC}{T:Tb}{W:dP}{D lf:Nat}{A:Around}{B:Heap}{l:List Env}{sc:Scope}{aB:List Str}
variable{X:Addr->Prop}{aA:Env}{cL:List (Addr×List AV)}{m:Str->Option Value}{J:Loc}{aZ s s':Shared}{aP V bT:Mu}{aI c c':aC}
theorem Here.turn{j:Nat}{tk:Nat}(H:Here G A B l X aA sc aB cL m J aZ aP aI s V c)(hp:V[j]?=some p)(hx:c[j]?=some x)(lx:x.live=true)(hb:Heap.ExtBut p.own s.heap h')(he:∃o,h'.get? p.own=some o)
  (hc:fD G h' (LX X V c) V p y):Here G A B l X aA sc aB cL m J aZ aP aI {s with heap:=h',toks:=tk} V (c.set j y):=by
 have k:=bq.setCell (F:=bz l) (s:=s) (y:=y) (tk:=tk) hp hx lx hb he;exact H.step (H.iz.trans k) k (H.cw.rel.setCell hp hx lx hb hc)
theorem t7(aG:Wd G T W D)(hn:n∈T.atts)(H:Here G A B l X aA sc aB cL m J aZ aP aI s V c)(ho:VR s.heap (LX X V c) V vo o)(hv:VR s.heap (LX X V c) V w v)(e:db c o n v=some bf)
  (h:∀h' tk,Here G A B l X aA sc aB cL m J aZ aP aI {s with heap:=h',toks:=tk} V bf->Q () {s with heap:=h',toks:=tk}):wpAny (model G.prog G.w) A (setAttr vo ⟨n.toArray⟩ w) Q E s:=by
 induction MJ e with|mk j at_ hj lu=>?_;induction ho.i8 with|mk p hp=>?_
 obtain⟨ox,od,es,k,I,e1,e2,e3,e4,e5,z,z2⟩:=H.cw.rel.at_ _ _ _ hp hj;have Ax:LX X V c p.own:=.inr (ci.of hp hj rfl);refine zM aG (H.cw.bs.sd H.cw.eW.base) I e1 hn e5 z.noRef (fun hsh key=>?_) fun hsh tk=>?_
 ·have:∀es:List DictEntry,(putL (⟨n.toArray⟩:Str) hsh key w es).length<=es.length+1:=by
   intro es;induction es with
   |nil=>exact b5 _|cons e r ih=>
    unfold putL
    split
    ·simp
    ·simp only[List.length_cons];omega
  have h1:=this es.toList;have h2:=z.length;have h3:=z2;omega
 ·have iL:Heap.SameBut p.own s.heap (s.heap.update p.own (Obj.putName ⟨n.toArray⟩ hsh (.str ⟨n.toArray⟩ tk) w)):=Heap.SameBut.update ..;have D:s.heap.get? p.own=some od:=by
   have:=I.dict;rw[e1]at this;exact this
  obtain⟨Wy,TW,Yr,Kh⟩:=od;dsimp only at e4 e5;subst e4 e5;have D':(s.heap.update p.own (Obj.putName ⟨n.toArray⟩ hsh (.str ⟨n.toArray⟩ tk) w)).get? p.own=some (⟨.type "dict",TW,.dict (putL ⟨n.toArray⟩ hsh (.str ⟨n.toArray⟩ tk) w es.toList).toArray (PySem.W.putN ⟨n.toArray⟩ es.toList k),Kh⟩:Obj):=by
   (refine .trans (Heap.get?_update_self _ D (by rw[iP];rfl) ..)<|?_;rw[iP])
  have pX:=ee (V:=V) iL.extBut Ax;have ne:p.ref≠p.own:=by
   intro q;have:=I.at_;rw[q,D]at this;obtain rfl:=bE this;cases e2
  refine h _ _ (H.turn hp hj rfl iL.extBut ⟨_,D'⟩ ⟨ox,(⟨.type "dict",TW,.dict (putL ⟨n.toArray⟩ hsh (.str ⟨n.toArray⟩ tk) w es.toList).toArray (PySem.W.putN ⟨n.toArray⟩ es.toList k),Kh⟩:Obj),(putL ⟨n.toArray⟩ hsh (.str ⟨n.toArray⟩ tk) w es.toList).toArray,PySem.W.putN ⟨n.toArray⟩ es.toList k,⟨iL.extBut _ _ ne I.at_,I.cls,I.no,?_⟩,e1,e2,e3,rfl,rfl,?_,lu⟩)
  ·rw[e1];exact D'
  ·have:=(z.pass pX).put (k:=n) (hsh:=hsh) (t:=tk) (hv.pass pX);simpa using this
theorem I2(aG:Wd G T W D)(hn:n∈T.atts)(hs:∀aA,swapsWith pe (some (.Attribute po ⟨n.toArray⟩ ap)) pos.line aA=pure false)(hw:∀aA,swappedStores [.Attribute po ⟨n.toArray⟩ ap] pe aA=pure none)
  (he:dQ G T W A B l sc aB e pe) (ho:dQ G T W A B l sc aB o po):oq G T W lf A B l sc aB (.gz o n e) (.Assign [.Attribute po ⟨n.toArray⟩ ap] pe pos):=fun X aA cL m J aZ aP aI s V c H aK=>by
 have hO:=eqQ aK (UB ..);have aK:=nh aK hO;refine wpAny_Assign_stores ?_ (hs aA) (hw aA);refine dq H.iz (he X aA m J s V c H.cb H.cw (aQ aK)) (c9 hO) fun va aT x a8 aR e1 k k1 R hx=>?_;have hO:=gs hO e1;have aK:=ix aK e1;refine c6 (gT a8 x) fun x' bf e2=>?_;have hO:=gs hO e2;have aK:=ix aK e2;refine cH (qZ R hx e2) fun R2 V2 L2=>?_;have H2:=(H.step k k1 R).fz R2 L2;show wpAny _ A (do
  let ov <-holding [va] (eval po aA)
  standAt ap.atName
  holding [va,ov] (setAttr ov ⟨n.toArray⟩ va)
  release [va,ov] []) _ _ _
 refine aL (wpAny_holding ?_);have k2:=(k.trans (bq.fz (s:=aT) L2));refine dq k2 (ho X aA m J aT aR bf H.cb H2.cw (aQ aK)) (c9 hO) fun vo fi y fY eZ e3 k3 k4 R3 hy=>?_;have hO:=gs hO e3;have aK:=ix aK e3;have H3:=H2.step k3 k4 R3;refine aL (de (aL (wpAny_holding ?_)));refine i5 (db fY y n x') (fun I5 lV=>?_) (fun lV=>?_)
 ·
  rw[lV]at hO;refine t7 aG hn H3 hy (V2.pass k4.ba) lV fun h' tk H4=>wpAny_releaseD ?_;exact⟨_,_,_,hO,rfl,m,H4⟩
 ·rw[lV]at aK;exact aX rfl aK
set_option tactic.hygienic true in
theorem I6{x:Nat}(Mv:jo o po=true)(ho:Own sc aB x nm)(hc:(nm==("__classdict__":Str))=false)(h:dQ G T W A B l sc aB e pe):oq G T W lf A B l sc aB (.hJ x o e) (.AugAssign (.Name nm np) po pe pos):=fun X aA cL m J aZ aP aI s V c H aK=>by
 have hO:=eqQ aK (Dq ..);have aK:=nh aK hO;refine wpAny_AugAssign_Name ?_;have e0:∃v,J[x]?=some (some v)/\ev W J (.loc x) c = .ok v c:=by
  have:=aQ aK;rw[cM]at this⊢
  split at this
  ·rename_i v q;exact⟨v,q,rfl⟩
  ·exact aX rfl this
 refine au e0 fun v q e0=>?_;have hO:=gs hO e0;have aK:=ix aK e0;refine ip (H.cw.lo.var x v q) fun QX w h1 h2 h3=>?_;rw[ho.1]at h1;obtain rfl:=bE h1;refine wm H.cb.kind H.cw.lo.ns h2 hc ?_;refine dq H.iz (h X aA m J s V c H.cb H.cw (aQ aK)) (c9 hO) fun va aT y a8 aR e1 k k1 R hy=>?_;have hO:=gs hO e1;have aK:=ix aK e1;refine i5 (gg o v y) (fun r hr=>?_) (fun hr=>?_)
 ·
  rw[hr]at hO;refine bJ (qr (P:=LX X aR a8) Mv (h3.pass k1.ba) hy hr) ?_ fun U U x=>x;rintro vr bI ⟨⟨h',tk,rfl,hk⟩,aS⟩;have k2:bq (bz l) aT aR a8 {aT with heap:=h',toks:=tk} aR a8:=bq.of_keeps hk
  have H2:=(H.step k k1 R).step (k.trans k2) k2 (R.keeps hk);exact H2.store ho aS fun ik tk m' iL H'=>⟨_,_,_,hO,rfl,m',H'⟩
 ·rw[hr]at aK;exact aX rfl aK
theorem I7(aG:Wd G T W D)(hn:n∈T.atts)(Mv:jo o po=true)(ho:dQ G T W A B l sc aB ob Uf)(h:dQ G T W A B l sc aB e pe):oq G T W lf A B l sc aB (.g9 ob n o e) (.AugAssign (.Attribute Uf ⟨n.toArray⟩ ap) po pe pos):=fun X aA cL m J aZ aP aI s V c H aK=>by
 rw[Kb]at aK⊢;refine wpAny_AugAssign_AttributeAny ?_;refine dq H.iz (ho X aA m J s V c H.cb H.cw (aQ aK)) bC fun vo aT x a8 aR e1 k k1 R hx=>?_;rw[ao e1]at aK⊢;have H1:=H.step k k1 R;cases ha:eY a8 x n with
 |none=>rw[ha]at aK;exact aX rfl aK|some a=>
  rw[ha]at aK;dsimp only at aK⊢;refine bJ (wx aG H.cw.bs H1.cw.eW.base R hn hx ha) ?_ fun U U x=>x;rintro va bI ⟨⟨h',tk,rfl,hk⟩,Va⟩;have k2:bq (bz l) aT aR a8 {aT with heap:=h',toks:=tk} aR a8:=bq.of_keeps hk
  have H2:=H1.step (k.trans k2) k2 (R.keeps hk);refine dq (k.trans k2) (h X aA m J _ aR a8 H.cb H2.cw (aQ aK)) bC fun vb fi y fY eZ e3 k3 k4 R3 hy=>?_;rw[ao e3]at aK⊢;have H3:=H2.step k3 k4 R3;cases hr:gg o a y with
  |none=>rw[hr]at aK;exact aX rfl aK|some r=>
   rw[hr]at aK;dsimp only at aK⊢;refine bJ (qr (P:=LX X eZ fY) Mv (Va.pass k4.ba) hy hr) ?_ fun U U x=>x;rintro vr xA ⟨⟨h',tk,rfl,hk⟩,aS⟩;have k5:bq (bz l) fi eZ fY {fi with heap:=h',toks:=tk} eZ fY:=bq.of_keeps hk
   have H5:=H3.step (k3.trans k5) k5 (R3.keeps hk);cases lV:db fY x n r with
   |none=>rw[lV]at aK;exact aX rfl aK|some I5=>
    refine t7 aG hn H5 ((hx.pass k2.ba).pass k4.ba |>.pass k5.ba) aS lV fun h' tk H6=>?_
    exact⟨_,_,_,rfl,rfl,m,H6⟩
theorem pZ.length(H:pZ h P V gi es):gi.length=es.length:=
 H.rec (motive:=fun gi es U=>gi.length=es.length) rfl fun U U ih=>aY (·+1) ih
theorem t8{K:Str}{w:Value}:∀{gi:List (Str×Value)},K∉gi.map (·.1)->gi.map (fun kv=>if kv.1=K then(kv.1,w) else kv)=gi
 |[],U=>rfl|kv::r,h=>by
  simp only[List.map_cons,b8,not_or]at h
  (refine .trans (List.map_cons ..)<|?_;rw[aV (fun q=>h.1 q.symm),t8 h.2])
inductive Mw(h:Heap)(P:Addr->Prop)(V:Mu)(K:Str)(w:Value)(k:List Nat)(a:AV)(gi:List (Str×Value))(es:List (List Nat×AV)):Prop
 |mk (h1:pZ h P V (gi.map fun kv=>if kv.1=K then(kv.1,w) else kv) (dC k a es)) (h2:gi.any (fun kv=>kv.1=K)=true)
theorem pZ.Mx(hw:VR h P V w a){es:List (List Nat×AV)}(H:pZ h P V gi es):(gi.map (·.1)).Nodup->∀{r:AV},assoc k es=some r->
  Mw h P V ⟨k.toArray⟩ w k a gi es:=by
 induction H with
 |nil=>exact fun U U e=>ak e|@cons v gi n a' l x xs ih=>
  intro nd r e;rw[List.map_cons,List.nodup_cons]at nd;rw[uY]at e
  by_cases q:n=k
  ·subst q;refine⟨?_,by simp⟩
   rw[lQ,aO rfl,List.map_cons,aO rfl,t8 nd.1];exact .cons hw xs
  ·rw[aV q]at e;have ne:(⟨n.toArray⟩:Str)≠⟨k.toArray⟩:=fun z=>q (by injection z with z;simpa using z)
   obtain⟨h1,h2⟩:=ih nd.2 e;refine⟨?_,by(refine .trans (List.any_cons ..)<|?_;rw[h2,Bool.or_true])⟩
   rw[lQ,aV q,List.map_cons,aV ne];exact .cons x h1
theorem zN{E:Value->Shared->Prop}{s:Shared}{a:Addr}{am:Array Value}{k:Int}{t:Tok}{j:Nat}{v:Value}{Q:Unit->Shared->Prop}(hl:nZ s.heap a am)(h0:k<0)(h1:-(am.size:Int)<=k)(Qp:-(2 ^ 63)<=k)(hj:j=(k+am.size).toNat)
  (hQ:∀h',nZ h' a (am.setIfInBounds j v)->Heap.SameBut a s.heap h'->Q () {s with heap:=h'}):wpAny (model G.prog G.w) A (setItem (.ref a) (.int k t) v) Q E s:=by
 refine c6 (id hl) fun n sl ho=>?_;have hT:=hl.isList.typeIs;unfold setItem
 try with_reducible refine wpAny_holding ?_
 first|refine aL (aW ?_) |skip
 refine aL (wpAny_sequenceKey hT (by decide) ?_)
 refine aL (wpAny_callSpecial?_slot (name:=Str.ofString "__setitem__") hT slot_list_setitem
  (wpAny_call_entry slot_list_setitem hT entry_list_setitem ?_ (args_list_setitem _ _ _)))
 show wpAny _ _ (Builtin.List.listSubscript? (.int k t)>>=_) _ _ s;refine aL (wpAny_listSubscript_int (fitsIndex_neg h0 Qp) ?_);clear Qp;have Qq:=seqIndex_neg h0 h1;rw[<-hj]at Qq;have Ys:j<am.size:=by omega
 obtain⟨i,rfl⟩:∃i:Nat,k=Int.negSucc i:=by
  cases k with
  |ofNat n=>exact aX h0 (Int.not_lt.mpr (Int.natCast_nonneg n))|negSucc n=>exact⟨n,rfl⟩
 show wpAny _ _ ((Builtin.List.listItems (.ref a)>>=fun xs=>pure ((seqIndex? (Int.negSucc i) xs.size).bind fun i=>xs[i]?.map (i,·)))>>=_) _ _ s;refine aL (aL ?_);show wpAny _ _ (seqItems? (.ref a)>>=_) _ _ s;refine aL (wpAny_seqItems ho rfl (aW (aW ?_)));rw[Qq];simp only[Option.bind_some,Array.getElem?_eq_getElem Ys,Option.map_some];have e:Obj.mapSeq (·.setIfInBounds j v) {cls:=.type "list",dict:=none,data:=.seq am n,slots:=sl}={cls:=.type "list",dict:=none,data:=.seq (am.setIfInBounds j v) (if(am.setIfInBounds j v).size==am.size then n else n+1),slots:=sl}:=rfl;have fin:=hQ (s.heap.update a (Obj.mapSeq (·.setIfInBounds j v))) ⟨_,sl,by(refine .trans (Heap.get?_update_self _ ho (by rw[e];rfl) ..)<|?_;rw[e])⟩ (Heap.SameBut.update ..)
 show wpAny _ _ (setSeqItemAt a j v>>=_) _ _ s;refine aL (wpAny_setSeqItemAt ho rfl ?_)
 first
  |exact aL (aW (aW ⟨.none,rfl,aW fin⟩))|exact aW ⟨.none,rfl,aW fin⟩
end
theorem pZ.toList_set{α:Type}(l:List α)(j:Nat)(v:α):(l.toArray.setIfInBounds j v)=(l.set j v).toArray:=by simp
section
variable{G:GC}{T:Tb}{W:dP}{D lf:Nat}{A:Around}{B:Heap}{l:List Env}{sc:Scope}{aB:List Str}
variable{X:Addr->Prop}{aA:Env}{cL:List (Addr×List AV)}{m:Str->Option Value}{J:Loc}{aZ s s':Shared}{aP V bT:Mu}{aI c c':aC}
theorem t9(H:Here G A B l X aA sc aB cL m J aZ aP aI s V c)(ho:VR s.heap (LX X V c) V vo o)(hi:VR s.heap (LX X V c) V vi i)(hv:VR s.heap (LX X V c) V w v)(e:eA c o i v=some bf)
  (h:∀h' tk,Here G A B l X aA sc aB cL m J aZ aP aI {s with heap:=h',toks:=tk} V bf->Q () {s with heap:=h',toks:=tk}):wpAny (model G.prog G.w) A (setItem vo vi w) Q E s:=by
 induction ML e with
 |key j k es r hj hr lu=>
  induction ho.i8 with|mk p hp=>?_;induction hi.str_is with|mk t=>?_
  refine eP (H.cw.rel.at_ _ _ _ hp hj) fun e1 gi hd hk=>?_;have Ax:LX X V c p.own:=.inr (ci.of hp hj rfl);rw[e1];have nd:(gi.map (·.1)).Nodup:=by obtain⟨_,_,_,_,_,_,_,_,nd⟩:=hd;exact nd
  refine wpAny_setItem_pairs (knd:=strKind G.prog G.w) (k:=(⟨k.toArray⟩:Str)) (strKind_is _ _ _ t) hd (fun h' qR iL=>?_) (by rw[hk.length];exact cY lu dX)
  have pX:=ee (V:=V) iL.extBut Ax;obtain⟨q1,q2⟩:=(hk.pass pX).Mx (hv.pass pX) nd hr;have e2:stored gi (⟨k.toArray⟩:Str) w=gi.map fun kv=>if kv.1=(⟨k.toArray⟩:Str) then(kv.1,w) else kv:=by unfold stored;exact(aO q2 ..)
  have hd2:=qR;rw[Heap.dictOf_iff]at hd2;refine au hd2 fun od Mc U=>?_;rw[e2]at qR;exact h h' _ (H.turn hp hj rfl iL.extBut ⟨_,Mc⟩ ⟨e1,_,qR,q1⟩)
 |item j i l1 k hj lu hk=>
  induction ho.i8 with|mk p hp=>?_;induction hi.int_is with|mk t=>?_
  refine eP (H.cw.rel.at_ _ _ _ hp hj) fun e1 vs hl hr=>?_;have Ax:LX X V c p.own:=.inr (ci.of hp hj rfl);rw[e1];have hn:vs.toArray.size=l1.length:=by exact .trans (List.size_toArray ..)<|(hr.length ..)
  unfold aJ at lu;refine Or.elim (place_spec hk) (fun ng=>cH ng fun b1 U U=>?_) (fun qV=>fK qV fun b1 b2 b3 b4=>?_)
  ·omega
  ·refine zN (j:=k) hl b1 (by rw[hn];omega) (by omega) (by rw[hn];exact b3) fun h' Hg iL=>?_
   have pX:=ee (V:=V) iL.extBut Ax;rw[pZ.toList_set]at Hg;refine c6 (id Hg) fun n sl Mc=>?_;exact h h' s.toks (H.turn hp hj rfl iL.extBut ⟨_,Mc⟩ ⟨e1,_,Hg,(hr.pass pX).set k (hv.pass pX)⟩)
theorem I8(hs:∀aA,swapsWith pe (some (.Subscript po pi ap)) pos.line aA=pure false)
  (he:dQ G T W A B l sc aB e pe) (ho:dQ G T W A B l sc aB o po) (hi:dQ G T W A B l sc aB i pi):oq G T W lf A B l sc aB (.uU o i e) (.Assign [.Subscript po pi ap] pe pos):=fun X aA cL m J aZ aP aI s V c H aK=>by
 have hO:=eqQ aK (Ka ..);have aK:=nh aK hO;refine wpAny_Assign_Subscript ?_ (hs aA);refine dq H.iz (he X aA m J s V c H.cb H.cw (aQ aK)) (c9 hO) fun va aT x a8 aR e1 k k1 R hx=>?_;have hO:=gs hO e1;have aK:=ix aK e1;refine c6 (gT a8 x) fun x' bf e2=>?_;have hO:=gs hO e2;have aK:=ix aK e2;refine cH (qZ R hx e2) fun R2 V2 L2=>?_;have H2:=(H.step k k1 R).fz R2 L2;refine dq (k.trans (bq.fz (s:=aT) L2)) (ho X aA m J aT aR bf H.cb H2.cw (aQ aK)) (c9 hO) fun vo fi y fY eZ e3 k3 k4 R3 hy=>?_;have hO:=gs hO e3;have aK:=ix aK e3;have H3:=H2.step k3 k4 R3;refine dq k3 (hi X aA m J fi eZ fY H.cb H3.cw (aQ aK)) (c9 hO) fun vi xA z I5 Wz e4 k5 k6 R4 hz=>?_;have hO:=gs hO e4;have aK:=ix aK e4;have H4:=H3.step k5 k6 R4;refine i5 (eA I5 y z x') (fun Yt lV=>?_) (fun lV=>?_)
 ·rw[lV]at hO;exact t9 H4 (hy.pass k6.ba) hz ((V2.pass k4.ba).pass k6.ba) lV fun h' tk H5=>⟨_,_,_,hO,rfl,m,H5⟩
 ·rw[lV]at aK;exact aX rfl aK
theorem I9(Mv:jo op TX=true)(ha:∀ov iv new,augStore pi ov iv new=(do holding [new,ov,iv] (setItem ov iv new);release [new,ov,iv] [];pure .next))
  (ho:dQ G T W A B l sc aB o po) (hi:dQ G T W A B l sc aB i pi) (he:dQ G T W A B l sc aB e pe):oq G T W lf A B l sc aB (.uV o i op e) (.AugAssign (.Subscript po pi ap) TX pe pos):=fun X aA cL m J aZ aP aI s V c H aK=>by
 rw[Kc]at aK⊢;refine wpAny_AugAssign_SubscriptAny ?_ ha;refine dq H.iz (ho X aA m J s V c H.cb H.cw (aQ aK)) bC fun vo aT x a8 aR e1 k k1 R hx=>?_;rw[ao e1]at aK⊢;have H1:=H.step k k1 R;refine dq k (hi X aA m J aT aR a8 H.cb H1.cw (aQ aK)) bC fun vi bI y bf bx e2 k2 k3 R2 hy=>?_;rw[ao e2]at aK⊢;have H2:=H1.step k2 k3 R2;have Kl:=hx.pass k3.ba;cases hd:dictAt bf x y with
 |none=>rw[hd]at aK;exact aX rfl aK|some a=>
  rw[hd]at aK;dsimp only at aK⊢;have key:∃va,VR bI.heap (LX X bx bf) bx va a/\∀(Q:Value->Shared->Prop)(E:Value->Shared->Prop),Q va {bI with toks:=bI.toks+1}->wpAny (model G.prog G.w) A (getItem vo vi) Q E bI:=by
   induction Dd hd with|mk j kk es hj ea=>?_;induction Kl.i8 with|mk p hp=>?_
   induction hy.str_is with|mk t=>?_;refine eP (R2.at_ _ _ _ hp hj) fun e1 gi Yu hk=>?_;obtain⟨va,q1,q2⟩:=hk.look ea
   refine⟨va,q2,fun Q E hq=>?_⟩;rw[e1];exact wpAny_getItem_of (strKind_is G.prog G.w _ t) Yu.mapOf q1 hq
  refine au key fun va Va key=>?_;refine key _ _ ?_;have k4:bq (bz l) bI bx bf {bI with toks:=bI.toks+1} bx bf:=.tok
  have H3:=H2.step (k2.trans k4) k4 R2;refine dq (k2.trans k4) (he X aA m J _ bx bf H.cb H3.cw (aQ aK)) bC fun vb fi z fY eZ e3 k5 k6 R3 hz=>?_;rw[ao e3]at aK⊢;have H4:=H3.step k5 k6 R3;cases hr:gg op a z with
  |none=>rw[hr]at aK;exact aX rfl aK|some r=>
   rw[hr]at aK;dsimp only at aK⊢;refine bJ (qr (P:=LX X eZ fY) Mv (Va.pass k6.ba) hz hr) ?_ fun U U x=>x;rintro vr xA ⟨⟨h',tk,rfl,hk⟩,aS⟩;have k7:bq (bz l) fi eZ fY {fi with heap:=h',toks:=tk} eZ fY:=bq.of_keeps hk
   have H5:=H4.step (k5.trans k7) k7 (R3.keeps hk);cases lV:eA fY x y r with
   |none=>rw[lV]at aK;exact aX rfl aK|some I5=>exact t9 H5 ((Kl.pass k6.ba).pass k7.ba) ((hy.pass k6.ba).pass k7.ba) aS lV fun h' tk H6=>⟨_,_,_,rfl,rfl,m,H6⟩
theorem Ei(ht:lU sc aB (.tup xs) target)(hs:∀aA,swapsWithSole [target] pe pos.line aA=pure false)(hw:∀aA,swappedStores [target] pe aA=pure none)(h:dQ G T W A B l sc aB e pe) :
  oq G T W lf A B l sc aB (.iM xs e) (.Assign [target] pe pos):=fun X aA cL m J aZ aP aI s V c H aK=>by
 have hO:=eqQ aK (yv ..);have aK:=nh aK hO;refine ly (id ht) fun fO kk p fu UI=>?_;subst fu;refine Assign_Tuple ?_ (hs aA) (hw aA);refine dq H.iz (h X aA m J s V c H.cb H.cw (aQ aK)) (c9 hO) fun va aT x a8 aR e1 k k1 R hx=>?_;have hO:=gs hO e1;have aK:=ix aK e1;refine i5 (Dn xs J x) (fun aE hb=>?_) (fun hb=>?_)
 ·rw[hb]at hO;exact(H.step k k1 R).assign ht hx hb fun h' tk m' kw H'=>⟨_,_,_,hO,rfl,m',H'⟩
 ·rw[hb]at aK;exact aX rfl aK
end
theorem Ay{α:Type}{l:List α}(h:2=l.length):∃v w,l=[v,w]:=by
 cases l with
 |nil=>cases h|cons v r=>
  cases r with
  |nil=>cases h|cons w r=>
   cases r with
   |nil=>exact⟨v,w,rfl⟩|cons z r=>simp at h
theorem Ia{W:dP}{J:Loc}{e1 e2:Ex}(c:aC):eV W J [e1,e2] c=(ev W J e1 c).bind fun v c=>(ev W J e2 c).bind fun w c=>.ok [v,w] c:=by
 refine .trans (bY ..)<|?_
 congr 1;funext v c;refine .trans (dc (bY ..))<|?_
 cases ev W J e2 c with
 |ok w c'=>simp only[aD.bind];rw[cI]|exc m c'=>rfl|fail=>rfl
section
variable{G:GC}{T:Tb}{W:dP}{D lf:Nat}{A:Around}{B:Heap}{l:List Env}{sc:Scope}{aB:List Str}
variable{X:Addr->Prop}{aA:Env}{cL:List (Addr×List AV)}{m:Str->Option Value}{J:Loc}{aZ s s':Shared}{aP V bT:Mu}{aI c c':aC}
theorem Here.keeps{h':Heap}{tk:Nat}(H:Here G A B l X aA sc aB cL m J aZ aP aI s V c)(k:∀b o,s.heap.get? b=some o->h'.get? b=some o):Here G A B l X aA sc aB cL m J aZ aP aI {s with heap:=h',toks:=tk} V c:=by
 have k1:bq (bz l) s V c {s with heap:=h',toks:=tk} V c:=bq.of_keeps k
 exact H.step (H.iz.trans k1) k1 (H.cw.rel.keeps k)
theorem Ib{x y:Nat}{nx ny:Str}{e:Ex}{pe:Expr}{fO:List Expr}{kk:Nat}{tp pos:Pos}(hx:Own sc aB x nx)(hy:Own sc aB y ny)(Ug:x≠y)(hs:∀aA,swapsWithSole [.Tuple fO kk tp] pe pos.line aA=pure false)
  (hw:∀aA,cv aA sc->swappedStores [.Tuple fO kk tp] pe aA=pure (some [nx,ny])) (h:dQ G T W A B l sc aB e pe) :
  oq G T W lf A B l sc aB (.iM [x,y] e) (.Assign [.Tuple fO kk tp] pe pos):=fun X aA cL m J aZ aP aI s V c H aK=>by
 rw[yv]at aK⊢;refine Assign_Tuple_swapped ?_ (hs aA) (hw aA H.cb);refine dq H.iz (h X aA m J s V c H.cb H.cw (aQ aK)) bC fun va aT z a8 aR e1 k k1 R hz=>?_;rw[ao e1]at aK⊢;have H1:=H.step k k1 R;unfold Dn br at aK⊢;cases z with
 |tup l=>
  dsimp only at aK⊢
  by_cases hl:[x,y].length=l.length
  case neg=>rw[aV hl]at aK;exact aX rfl aK
  rw[aO hl];refine c6 (Ay (show 2=l.length from hl)) fun v w fu=>?_;subst fu
  induction hz.tup_is with|mk ad vs h1 h3 h2=>?_;induction h3.two with|mk vv ww hv Yv=>?_
  rw[show[nx,ny].length=([vv,ww].toArray).size from rfl]
  refine unpackItems_tuple H.cw.eW.handled h1 fun h' hb=>?_;have kk:∀b o,aT.heap.get? b=some o->h'.get? b=some o:=fun b o e=>hb b o (fun q=>by subst q;exact aX (Heap.lt_size e) (Nat.lt_irrefl _)) e
  have H2:=H1.keeps (tk:=aT.toks) kk;refine wpAny_assignInOrder_more (wpAny_bindName (H2.store hy (Yv.pass (Pass.keeps kk)) fun ik tk m' iL H3=>?_));refine wpAny_assignInOrder_more (wpAny_bindName (H3.store hx ((hv.pass (Pass.keeps kk)).but iL.extBut (.ns H2.cw.lo.ns)) fun h3 Kn m3 hs3 H4=>?_));refine wpAny_assignInOrder_none ⟨_,_,aR,rfl,rfl,m3,?_⟩;have:([x,y].zip [v,w]).foldl (fun J p=>J.set p.1 (some p.2)) J=(J.set y (some w)).set x (some v):=List.set_comm _ _ Ug;rw[this];exact H4
 |_=>exact aX rfl aK
theorem cN.Uh{h:Heap}{P:Addr->Prop}{V:Mu}{v1 v2:Value}{y1 y2:AV}(aS:cN h P V [v1,v2] [y1,y2]):VR h P V v1 y1/\VR h P V v2 y2:=by
 cases aS with|cons a b=>cases b with|cons c d=>exact⟨a,c⟩
inductive Ic(W:dP)(J:Loc)(e1 e2:Ex)(c:aC):Prop
 |mk (x1:AV) (c1:aC) (x2:AV) (c2:aC) (q1:ev W J e1 c = .ok x1 c1) (q2:ev W J e2 c1 = .ok x2 c2) (q3:eV W J [e1,e2] c = .ok [x1,x2] c2)
theorem Ej{J:Loc}{e1 e2:Ex}{c:aC}(h1:eV W J [e1,e2] c≠.fail)(h2:∀m c',eV W J [e1,e2] c≠.exc m c'):Ic W J e1 e2 c:=by
 refine MC (eV W J [e1,e2] c) (fun vs c2 q=>?_) (fun m c q=>?_) (fun q=>?_)
 ·
  have q':=q;rw[Ia]at q';obtain⟨x1,c1,a1,a2⟩:=aD.cK q';obtain⟨x2,c2',a3,a4⟩:=aD.cK a2;induction jj a4;exact⟨x1,c1,x2,_,a1,a3,q⟩
 ·exact aX q (h2 m c)
 ·exact aX q h1
theorem Ie{x:Nat}{nm:Str}{k1 k2:List Nat}{e1 e2:Ex}{p1 p2:Expr}{XA XB:Nat}{XC TS np dp pos:Pos}(ho:Own sc aB x nm)(hk:k1≠k2)
  (h1:dQ G T W A B l sc aB e1 p1) (h2:dQ G T W A B l sc aB e2 p2) :
  oq G T W lf A B l sc aB (.dn x (.dict [k1,k2] [e1,e2])) (.Assign [.Name nm np] (.Dict [some (.Constant (.str ⟨k1.toArray⟩) XA XC),some (.Constant (.str ⟨k2.toArray⟩) XB TS)] [p1,p2] dp) pos):=fun X aA cL m J aZ aP aI s V c H aK=>by
 rw[QC]at aK⊢;obtain⟨x1,c1,x2,c2,q1,q2,q3⟩:=Ej (fun q=>aK (by rw[q];rfl)) (fun m c q=>aK (by rw[q];rfl))
 rw[q3]at aK⊢;refine c6 (iy [x1,x2] c2) fun CT c3 q4=>?_;have E5:((aD.ok [x1,x2] c2).calm.bind fun vs c=>(s7 vs c).bind fun vs c=>aD.ok (Fl.nx (J.set x (some (.ref c.length)))) (c++[Cell.dict ([k1,k2].zip vs)])) = .ok (Fl.nx (J.set x (some (.ref c3.length)))) (c3++[Cell.dict ([k1,k2].zip CT)]):=by
  show(s7 [x1,x2] c2).bind _=_;refine .trans (dc (q4 ..))<|?_;rfl
 rw[E5];refine wpAny_Assign_Name ?_ rfl;refine wpAny_Dict_pairs (knd:=strKind G.prog G.w) (pairs:=[(eval (.Constant (.str ⟨k1.toArray⟩) XA XC) aA,do let x <-eval p1 aA;standAt dp;pure x),(eval (.Constant (.str ⟨k2.toArray⟩) XB TS) aA,do let x <-eval p2 aA;standAt dp;pure x)]) rfl (by simp) (by simp) ?_
 have Au:s.heap.get? s.heap.objs.size=none:=eX (b5 _);have S1:=H.cw.push (o:={cls:=.type "dict",data:=.dict #[]}) rfl rfl;have kp:=cC (h:=s.heap) {cls:=.type "dict",data:=.dict #[]};have Yw:(s.heap.push {cls:=.type "dict",data:=.dict #[]}).DictOf (strKind G.prog G.w) s.heap.objs.size []:=Heap.DictOf.new s.heap;have kS:bq (bz l) s V c {s with heap:=s.heap.push {cls:=.type "dict",data:=.dict #[]}} V c:=bq.of_keeps kp
 have Yx:s.heap.objs.size∉bz l:=fun q=>by
  refine eP (H.cw.eW.jm.mem q) fun U o ho U=>?_;rw[Au]at ho;exact ak ho
 generalize s.heap.objs.size=Dc at *;have last:∀{s1 s2:Shared}{Ig Ko:Mu}{c1 c2:aC}{gi:List (Str×Value)},bq (bz l) s1 Ig c1 s2 Ko c2->gS G A B l (fun b=>X b\/b=Dc) aA aB m J s1 Ig c1->s1.heap.DictOf (strKind G.prog G.w) Dc gi->s2.heap.DictOf (strKind G.prog G.w) Dc gi:=by
  intro s1 s2 Ig Ko c1 c2 gi k S hd;rw[Heap.dictOf_iff]at hd⊢;refine au hd fun o ho r=>?_;exact⟨o,(k.ext _ o ho (S.rel.eB Dc (.inr rfl))).1 Yx,r⟩
 have Ui:=S1.step (bq.tok (tk:=s.toks+1)) S1.rel;refine evalPairs_cons (wpAny_Constant_str ?_);refine aL ?_;refine As (h1 _ aA m J _ V c H.cb Ui (ET q1)) q1 fun v1 s2 Ig kA R2 V1=>?_;refine aL (de (aW ?_));have S2:=Ui.step kA R2;have D2:=last kA Ui Yw;have Uj:=S2.step (bq.tok (tk:=s2.toks+1)) S2.rel;refine evalPairs_cons (wpAny_Constant_str ?_);refine aL ?_;refine As (h2 _ aA m J _ Ig c1 H.cb Uj (ET q2)) q2 fun v2 s3 Ko kB R3 V2=>?_;refine aL (de (aW ?_));have S3:=Uj.step kB R3;have D3:=last kB Uj D2;refine evalPairs_nil ?_;refine⟨[((⟨k1.toArray⟩:Str),v1),((⟨k2.toArray⟩:Str),v2)],⟨strKind_is _ _ _ _,rfl,strKind_is _ _ _ _,rfl,trivial⟩,D3,fun h' qR iL=>?_⟩;have ne:(⟨k1.toArray⟩:Str)≠⟨k2.toArray⟩:=fun z=>hk (by injection z with z;simpa using z)
 have em:merged [] [((⟨k1.toArray⟩:Str),v1),((⟨k2.toArray⟩:Str),v2)]=[((⟨k1.toArray⟩:Str),v1),((⟨k2.toArray⟩:Str),v2)]:=by
  simp[merged,stored,ne]
 rw[em]at qR;have hD:(fun b=>X b\/b=Dc) Dc:=.inr rfl;have hd2:=qR;rw[Heap.dictOf_iff]at hd2;refine au hd2 fun od Mc U=>?_;refine cH (ud R3 (.cons ((V1.pass (bq.tok (F:=bz l) (tk:=s2.toks+1)).ba).pass kB.ba) (.cons V2 .nil)) q4) fun R4 V4 L4=>?_;have pX:=ee (V:=Ko) iL.extBut (P:=LX (fun b=>X b\/b=Dc) Ko c3) (.inl hD);have R5:=R4.TP hD iL.extBut ⟨od,Mc⟩;have V5:=V4.pass pX;have k4:bq (bz l) s V c s3 Ko c3:=(((kS.trans (bq.tok (tk:=s.toks+1))).trans kA).trans ((bq.tok (tk:=s2.toks+1)).trans kB)).trans (bq.fz L4);have k5:=k4.touch (tk:=s3.toks+2) Au iL.extBut;refine c6 (Ay (Am q4).symm) fun y1 y2 fu=>?_;subst fu;have KV:pZ h' (LX (fun b=>X b\/b=Dc) Ko c3) Ko [((⟨k1.toArray⟩:Str),v1),((⟨k2.toArray⟩:Str),v2)] ([k1,k2].zip [y1,y2]):=by
  have a:=V5.Uh;exact .cons a.1 (.cons a.2 .nil)
 obtain⟨H1,VV⟩:=H.cell (y:=.dict ([k1,k2].zip [y1,y2])) k5 R5 Au ⟨rfl,_,qR,KV.pass ⟨fun b o e U=>⟨o.slots,e⟩,fun b q=>.inl q,fun i q e=>by refine .trans (i4 (dg.mp e).1 ..)<|?_;exact e⟩⟩
 exact H1.store ho VV fun ik tk m' js H'=>⟨_,_,_,rfl,rfl,m',H'⟩
end
section
variable{G:GC}{X:Addr->Prop}{h:Heap}{P P':Addr->Prop}{V:Mu}{c:aC}{n:Nat}
theorem Az{i:Nat}(e:V[i]?=some p)(h:i<n):(V.take n)[i]?=some p:=by refine .trans (List.getElem?_take_of_lt h ..)<|?_;exact e
theorem VR.down(hp:∀a,P' a->P a)(H:VR h P V v x):aH n x=true->VR h P' (V.take n) v x:=
 H.rec (motive_1:=fun v x U=>aH n x=true->VR h P' (V.take n) v x) (motive_2:=fun vs l U=>dW n l=true->cN h P' (V.take n) vs l) (fun U=>.none) (fun b U=>.bool b) (fun i t U=>.int i t) (fun l t U=>.str l t)
  (fun ht hn U ih e=>.tup ht (fun q=>hn (hp _ q)) (ih e)) (fun ht hn U ih e=>.lst ht (fun q=>hn (hp _ q)) (ih e)) (fun e r=>.ref (Az e (of_decide_eq_true r))) (fun U=>.nil)
  fun U U i j e=>.cons (i ((be _ _).mp e).1) (j ((be _ _).mp e).2)
theorem cN.down(hp:∀a,P' a->P a)(H:cN h P V vs l):dW n l=true->cN h P' (V.take n) vs l:=
 H.ind (M:=fun vs l=>dW n l=true->cN h P' (V.take n) vs l) (fun U=>.nil) fun x U ih e=>.cons (x.down hp ((be _ _).mp e).1) (ih ((be _ _).mp e).2)
theorem qQ.down(hp:∀a,P' a->P a)(H:qQ h P V es l):dW n (l.map (·.2))=true->qQ h P' (V.take n) es l:=
 H.rec (motive:=fun es l U=>dW n (l.map (·.2))=true->qQ h P' (V.take n) es l) (fun U=>.nil) fun e x U ih r=>.cons e (x.down hp ((be _ _).mp r).1) (ih ((be _ _).mp r).2)
theorem pZ.down(hp:∀a,P' a->P a)(H:pZ h P V es l):dW n (l.map (·.2))=true->pZ h P' (V.take n) es l:=
 H.rec (motive:=fun es l U=>dW n (l.map (·.2))=true->pZ h P' (V.take n) es l) (fun U=>.nil) fun x U ih r=>.cons (x.down hp ((be _ _).mp r).1) (ih ((be _ _).mp r).2)
theorem bj{α:Type}{l:List α}{n i:Nat}{x:α}(e:(l.take n)[i]?=some x):l[i]?=some x/\i<n:=by
 have:i<(l.take n).length:=(dg.mp e).1;have hn:i<n:=by rw[List.length_take]at this;omega
 rw[List.getElem?_take_of_lt hn]at e;exact⟨e,hn⟩
theorem mR(b:Addr)(q:ci (V.take n) (c.take n) b):ci V c b:=by
 obtain⟨i,p,x,h1,h2,h3,h4⟩:=q;exact⟨i,p,x,(bj h1).1,(bj h2).1,h3,h4⟩
theorem Rel.down(R:Rel G X h V c)(hc:(c.take n).all (ai n)=true):Rel G X h (V.take n) (c.take n):=by
 have sub:∀b,LX X (V.take n) (c.take n) b->LX X V c b:=fun b q=>q.imp id (mR b);refine⟨by(refine .trans (List.length_take ..)<|?_;rw[List.length_take,R.len]),fun i j p q x y a1 a2 a3 a4 a5 a6 a7=>R.apart i j p q x y (bj a1).1 (bj a2).1 (bj a3).1 (bj a4).1 a5 a6 a7,R.fU,fun a q z=>R.eB a q (mR a z),fun i p x a1 a2=>?_⟩
 have H:=R.at_ i p x (bj a1).1 (bj a2).1;have r:ai n x=true:=List.all_eq_true.mp hc x (eN a2);cases x with
 |list l=>refine eP H fun e vs h1 z=>?_;exact⟨e,vs,h1,z.down sub r⟩|dead l=>exact VR.down sub H (by refine .trans (yw ..)<|?_;exact r)
 |inst at_=>obtain⟨ox,od,es,k,I,q1,q2,q3,q4,q5,z,z2⟩:=H;exact⟨ox,od,es,k,I,q1,q2,fun z9=>q3 (sub _ z9),q4,q5,z.down sub r,z2⟩
 |dict es=>refine eP H fun e gi d z=>?_;exact⟨e,gi,d,z.down sub r⟩
theorem bq.down(k:bq F s aP aI s' V c)(hn:n=aP.length):bq F s aP aI s' (V.take n) (c.take n):=
 ⟨k.same,k.ext,fun i p e=>Az (k.pre i p e) (by rw[hn];exact(dg.mp e).1),fun b q=>k.new b (mR b q),k.there⟩
theorem bq.inner(k:bq (L::F) s aP aI s' V c)(hn:s.heap.get? L=none):bq F s aP aI s' V c:=by
 refine⟨k.same,fun b o e hp=>⟨fun hf=>(k.ext b o e hp).1 fun q=>?_,(k.ext b o e hp).2⟩,k.pre,k.new,k.there⟩;rcases b8.mp q with rfl|q
 ·rw[hn]at e;exact ak e
 ·exact hf q
end
section
variable{G:GC}{X:Addr->Prop}{A:Around}{aA:Env}{outer:List Env}{aZ s':Shared}{aP:Mu}{aI:aC}
theorem Ek{α Z:Type}{o:aD α}{o':aD Z}{e:Value}{E:Value->Shared->Prop}(hA:A.frames=some (aA::outer))(hf:aA.frame=some aA.locals)(hn:aZ.heap.get? aA.locals=none)(hl:aI.length=aP.length)(x:Exc G X (aA::outer) aZ aP aI o e s')
  (ho:∀m c',o = .exc m c'->o' = .exc false (c'.take aI.length)/\(c'.take aI.length).all (ai aI.length)=true) :
  wpAny M A (leaving aA e) (fun U tM=>Exc G X outer aZ aP aI o' e tM) E s':=by
 obtain⟨m,c',bT,ea,h1,rfl,k,B,fl,R,b6,b7⟩:=x;obtain⟨h2,h3⟩:=ho _ _ h1;have fr:bz (aA::outer)=aA.locals::bz outer:=by simp[bz,hf]
 have fin:∀{ik:Heap}{a0:Value},s'.heap.UpToSlots ik->Heap.FlyingW B outer ea (.ref G.SF) a0 ik->Exc G X outer aZ aP aI o' (.ref ea) {s' with heap:=ik}:=by
  intro ik a0 u hh;have k1:=qo k fl b6 b7 hh.1 u;rw[fr]at k1 b6 b7;refine⟨false,_,bT.take aI.length,ea,h2,rfl,(k1.inner hn).down hl,B,.inl ⟨a0,hh⟩,R.down h3,fun b o e hl hf=>b6 b o e hl fun q=>?_,fun b o e hf=>b7 b o e fun q=>?_⟩
  ·rcases b8.mp q with rfl|q
   ·rw[hn]at e;exact ak e
   ·exact hf q
  ·rcases b8.mp q with rfl|q
   ·rw[hn]at e;exact ak e
   ·exact hf q
 cases m with
 |true=>
  obtain⟨f1,f2,f3,oe,vs,a0,e1,e2,e3,e4,e5⟩:=fl;refine wpAny_leaving_firstW (a0:=a0) hA f3 hf e1 f1 f2 e3 e4 e5 fun h' hL=>?_;refine fK hL fun k1 nc k3 k4=>?_;refine cH nc fun U U k2=>?_;rw[e2]at k3;exact fin k4 ⟨k1,f2,k2,k3⟩
 |false=>
  refine Or.elim fl (fun ng=>ng.elim fun a0 fl=>?_) (fun qV=>A8 qV fun Qi Ea L a0 e1 e2 fl=>?_)
  ·exact wpAny_leaves_onW hA hf fl fun h' hh u=>fin u hh
  ·cases e1;unfold leaving;refine aL (wpAny_noteFrame_againW e2 fl.2.2.2 ?_);refine wpAny_landsW fl fun h' Yy u=>?_;refine fK Yy fun k1 k2 nc k4=>?_;refine cH nc fun U U k3=>?_;exact fin u ⟨k1,k2,k3,k4⟩
end
theorem jt{α Z:Type}{f g:α->Option Z}:∀{l:List α},(∀x∈l,f x=g x)->l.filterMap f=l.filterMap g
 |[],U=>rfl|x::l,h=>by
  (refine .trans (List.filterMap_cons ..)<|?_;rw[List.filterMap_cons,h x d8,jt fun y hy=>h y (dO _ hy)])
theorem gO:∀{aB:List Str}{vs:List Value}(more:List (Str×Value)),aB.Nodup->aB.length=vs.length->aB.filterMap (fun n=>((aB.zip vs++more).lookup n).map (n,·))=aB.zip vs
 |[],U,bG,dy,lP=>rfl|n::ns,[],U,bG,h=>by cases h
 |n::ns,v::vs,more,nd,h=>by
  rw[List.nodup_cons]at nd;have ih:=gO (aB:=ns) (vs:=vs) more nd.2 (by simpa using h)
  rw[List.zip_cons_cons,List.cons_append,List.filterMap_cons,List.lookup_cons,beq_self_eq_true];simp only[Option.map_some];congr 1;refine Eq.trans (jt fun m hm=>?_) ih;rw[List.lookup_cons,show(m==n)=false from by rw[beq_eq_false_iff_ne];rintro rfl;exact nd.1 hm]
structure El(fd:FuncData)(ns:List Str):Prop where
 po:fd.params.posonlyargs=[]
 ar:fd.params.args.map (·.arg)=ns
 ko:fd.params.kwonlyargs=[]
 va:fd.params.vararg=none
 ka:fd.params.kwarg=none
theorem ju:∀{ns:List Str}{vs:List Value}{n:Str},ns.length=vs.length->n∈ns->((ns.zip vs).lookup n).isNone=false
 |[],U,bG,dy,h=>nomatch h
 |U::bG,[],dy,h,lP=>by cases h
 |m::ns,v::vs,n,h,hm=>by
  rw[List.zip_cons_cons,List.lookup_cons]
  by_cases q:n=m
  ·subst q;simp
  ·rw[show(n==m)=false from by simpa using q]
   rcases b8.mp hm with z|hm
   ·exact aX z q
   ·exact ju (by simpa using h) hm
theorem qs:∀{ns:List Str}{vs:List Value}{n:Str},n∉ns->(ns.zip vs).lookup n=none
 |[],U,bG,dy=>rfl|U::bG,[],dy,lP=>rfl|m::ns,v::vs,n,h=>by
  rw[b8,not_or]at h;rw[List.zip_cons_cons,List.lookup_cons,show(n==m)=false from by simpa using h.1]
  exact qs h.2
theorem filter_none{ns ms:List Str}{vs:List Value}(hs:∀n∈ms,((ns.zip vs).lookup n).isNone=false):ms.filter (fun n=>((ns.zip vs).lookup n).isNone)=[]:=by
 rw[List.filter_eq_nil_iff];intro n hn;rw[hs n hn];decide
noncomputable def Yz(ns:List Str)(vs:List Value)(dv:Value)(r1 r2:List (Str×Value)×List (Str×Value)->Option (Array Value)->Sem (List (Str×Value)))(r3:List (Str×Value)×List Str->Sem (List (Str×Value))):Sem (List (Str×Value)):=
 pure (ns.zip vs,[])>>=fun a=>seqItems? dv>>=fun d=>if(decide (vs.length>ns.length)&&true)=true then r1 a d
  else if(!((ns.take (ns.length-((d.getD #[]).toList.drop ((d.getD #[]).toList.length-ns.length)).length)).filter fun n=>(a.1.lookup n).isNone).isEmpty)=true then r2 a d
  else forIn ((ns.drop (ns.length-((d.getD #[]).toList.drop ((d.getD #[]).toList.length-ns.length)).length)).zip ((d.getD #[]).toList.drop ((d.getD #[]).toList.length-ns.length))) a.1
    (fun x s=>if(s.lookup x.1).isNone=true then pure (ForInStep.yield (s++[(x.1,x.2)])) else pure (ForInStep.yield s))>>=fun s=>pure (s,[])>>=fun s=>
   if(!s.2.isEmpty)=true then r3 s else pure ((ns++[]).filterMap fun n=>(s.1.lookup n).map (n,·))
inductive Uk(ns:List Str)(vs:List Value)(dv:Value)(x:Sem (List (Str×Value))):Prop
 |mk (r1 r2:List (Str×Value)×List (Str×Value)->Option (Array Value)->Sem (List (Str×Value))) (r3:List (Str×Value)×List Str->Sem (List (Str×Value))) (e:x=Yz ns vs dv r1 r2 r3):Uk ns vs dv x
theorem ZA(a1 a2:Str)(ar:List Arg)(x:List (Option Expr))(y:List Expr)(b:FuncBody)(sc:Scope)(gl:Addr)(cl:List (Str×Addr))(dv c1 c2 c3:Value)(an:Option Addr)(c4 c5:Value)(bi:Addr)(vs:List Value) :
 Uk (ar.map fun a=>a.arg) vs dv (bindArgs ⟨a1,a2,⟨[],ar,none,[],x,none,y⟩,b,sc,gl,cl,dv,c1,c2,c3,an,c4,c5,bi⟩ ⟨vs,[]⟩):=.mk _ _ (fun U=>pure []) rfl
theorem My{p:Arguments}(a:p.posonlyargs=[])(b:p.kwonlyargs=[])(c:p.vararg=none)(d:p.kwarg=none):∃x y,p=⟨[],p.args,none,[],x,none,y⟩:=by
 cases p;subst a b c d;exact⟨_,_,rfl⟩
theorem lW{fd:FuncData}{ns:List Str}(P:El fd ns)(vs:List Value):Uk ns vs fd.defaults (bindArgs fd ⟨vs,[]⟩):=by
 refine c6 (My P.po P.ko P.va P.ka) fun x y e=>?_;have q:=ZA fd.1 fd.2 fd.params.args x y fd.4 fd.5 fd.6 fd.7 fd.8 fd.9 fd.10 fd.11 fd.12 fd.13 fd.14 fd.15 vs;rw[P.ar,<-e]at q;exact q
theorem kZ(P:El fd ns)(nd:ns.Nodup)(hd:fd.defaults = .none){vs:List Value}(hl:ns.length=vs.length):BindsTo s fd ⟨vs,[]⟩ (ns.zip vs):=fun M A E Q hq=>by
 induction lW P vs with|mk r1 r2 r3 e=>?_
 (refine j9 (e ..)<|?_;rw[hd])
 refine aL (aW ?_);refine aL (m:=seqItems? Value.none) (show wpAny M A (pure ()>>=fun U=>pure (none:Option (Array Value))) _ E s from aL (aW (aW ?_)))
 have h1:decide (vs.length>ns.length)=false:=eO (by omega)
 have h2:ns.filter (fun n=>((ns.zip vs).lookup n).isNone)=[]:=filter_none fun n hn=>ju hl hn;simp only[List.append_nil,h1,Bool.false_and,Bool.false_eq_true,if_false,Option.getD_none,Array.toList_empty,List.length_nil,List.drop_nil,Nat.sub_zero,List.take_length,h2,List.isEmpty_nil,Bool.not_true,List.zip_nil_right,List.forIn_nil];refine aL (aW (aL (aW ?_)));show wpAny M A (pure (ns.filterMap fun n=>((ns.zip vs).lookup n).map (n,·))) Q E s;have h3:=gO (vs:=vs) [] nd hl;rw[List.append_nil]at h3;rw[h3];exact aW hq
theorem CU(P:El fd (ms++[n]))(nd:(ms++[n]).Nodup){k:Nat}(hd:fd.defaults = .ref d)(ho:s.heap.get? d=some o)(hs:o.data = .seq #[dv] k){vs:List Value}(hl:ms.length=vs.length) :
  BindsTo s fd ⟨vs,[]⟩ ((ms++[n]).zip (vs++[dv])):=fun M A E Q hq=>by
 have nn:n∉ms:=by
  rw[List.nodup_append]at nd;intro h;exact nd.2.2 n h n (by simp) rfl
 have nd':ms.Nodup:=by rw[List.nodup_append]at nd;exact nd.1
 have z1:(ms++[n]).zip vs=ms.zip vs:=by
  have:=List.zip_append (r₁:=[n]) (r₂:=([]:List Value)) hl;simpa using this
 have z2:(ms++[n]).zip (vs++[dv])=ms.zip vs++[(n,dv)]:=List.zip_append hl;induction lW P vs with|mk r1 r2 r3 e=>?_
 (refine j9 (e ..)<|?_;rw[hd])
 refine aL (aW ?_);refine aL (wpAny_seqItems ho hs ?_);have h1:decide (vs.length>(ms++[n]).length)=false:=eO (by simp;omega)
 have h2:ms.filter (fun n=>((ms.zip vs).lookup n).isNone)=[]:=filter_none fun n hn=>ju hl hn;have h3:(some (#[dv]:Array Value)).getD #[]=#[dv]:=rfl;have h4:(1:Nat)-(ms++[n]).length=0:=by simp
 have h5:(ms++[n]).length-1=ms.length:=by simp
 have h6:((ms.zip vs).lookup n).isNone=true:=by rw[qs nn];rfl
 have h7:((ms.zip vs).lookup n)=none:=qs nn;simp only[List.append_nil,z1,h1,h3,Bool.false_and,Bool.false_eq_true,if_false,List.length_cons,List.length_nil,Nat.zero_add,h4,List.drop_zero,h5,List.take_left,List.drop_left,h2,List.isEmpty_nil,Bool.not_true,List.zip_cons_cons,List.zip_nil_right,List.forIn_cons,List.forIn_nil,h7,Option.isNone_none,if_true];refine aL (aL (aW (aW (aL (aW ?_)))));show wpAny M A (pure ((ms++[n]).filterMap fun m=>((ms.zip vs++[(n,dv)]).lookup m).map (m,·))) Q E s;have h8:=gO (aB:=ms++[n]) (vs:=vs++[dv]) [] nd (by simp[hl])
 rw[List.append_nil,z2]at h8;rw[h8,<-z2];exact aW hq
theorem zO(P:El fd (ms++[n]))(nd:(ms++[n]).Nodup){k:Nat}(hd:fd.defaults = .ref d)(ho:s.heap.get? d=some o)(hs:o.data = .seq #[dv] k){vs:List Value}(hl:(ms++[n]).length=vs.length) :
  BindsTo s fd ⟨vs,[]⟩ ((ms++[n]).zip vs):=fun M A E Q hq=>by
 induction lW P vs with|mk r1 r2 r3 e=>?_
 (refine j9 (e ..)<|?_;rw[hd])
 refine aL (aW ?_);refine aL (wpAny_seqItems ho hs ?_);have h1:decide (vs.length>(ms++[n]).length)=false:=eO (by omega)
 have h2:ms.filter (fun m=>(((ms++[n]).zip vs).lookup m).isNone)=[]:=filter_none fun m hm=>ju hl (List.mem_append_left _ hm);have h3:(some (#[dv]:Array Value)).getD #[]=#[dv]:=rfl;have h4:(1:Nat)-(ms++[n]).length=0:=by simp
 have h5:(ms++[n]).length-1=ms.length:=by simp
 have h6:(((ms++[n]).zip vs).lookup n).isNone=false:=ju hl (by simp)
 simp only[List.append_nil,h1,h3,Bool.false_and,Bool.false_eq_true,if_false,List.length_cons,List.length_nil,Nat.zero_add,h4,List.drop_zero,h5,List.take_left,List.drop_left,h2,List.isEmpty_nil,Bool.not_true,List.zip_cons_cons,List.zip_nil_right,List.forIn_cons,List.forIn_nil,h6];refine aL (aL (aW (aW (aL (aW ?_)))));show wpAny M A (pure ((ms++[n]).filterMap fun m=>(((ms++[n]).zip vs).lookup m).map (m,·))) Q E s;have h8:=gO (aB:=ms++[n]) (vs:=vs) [] nd hl;rw[List.append_nil]at h8;rw[h8];exact aW hq
set_option backward.match.sparseCases true
theorem mS{l:List (Str×Addr)}{n:Str}:(l.lookup n).isSome=(l.map (·.1)).contains n:=by
 induction l with
 |nil=>rfl|cons p l ih=>
  obtain⟨m,a⟩:=p;rw[List.lookup_cons,List.map_cons,List.contains_cons]
  by_cases q:n=m
  ·subst q;simp
  ·rw[show(n==m)=false from by simpa using q];simpa using ih
theorem lX{ns:List (Str×NameKind)}{n:Str}(h:((cellsFrom 0 ns []).lookup n).isSome=true)(k:Nat):((cellsFrom k ns []).lookup n).isSome=true:=by
 rw[mS]at h⊢;rw[cellsFrom_names ns k 0 [] [] rfl];exact h
theorem td{kindOf:Str->Option NameKind}{n:Str}:∀{binds:List (Str×Value)}{m:Str->Option Value},n∉binds.map (·.1)->bindL kindOf binds m n=m n
 |[],U,bG=>rfl|(n',v)::r,m,h=>by
  rw[List.map_cons,b8,not_or]at h;unfold bindL;refine .trans (td h.2 ..)<|?_
  split
  ·exact aV h.1
  ·rfl
theorem qt{kindOf:Str->Option NameKind}{n:Str}{w:Value}(hk:kindOf n=some .local):∀{binds:List (Str×Value)}{m:Str->Option Value},(binds.map (·.1)).Nodup->(n,w)∈binds->bindL kindOf binds m n=some w
 |[],U,bG,h=>nomatch h
 |(n',v)::r,m,nd,h=>by
  rw[List.map_cons,List.nodup_cons]at nd;unfold bindL;rcases b8.mp h with e|h
  ·cases e
   (refine .trans (td nd.1 ..)<|?_;rw[aO hk,aO rfl])
  ·exact qt hk nd.2 h
theorem tg{kindOf:Str->Option NameKind}{n:Str}:∀{binds:List (Str×Value)}{m:Str->Option Value},n∉binds.map (·.1)->bindC kindOf binds m n=m n
 |[],U,bG=>rfl|(n',v)::r,m,h=>by
  rw[List.map_cons,b8,not_or]at h;unfold bindC;refine .trans (tg h.2 ..)<|?_
  split
  ·rfl
  ·exact aV h.1
theorem xJ{kindOf:Str->Option NameKind}{n:Str}{w:Value}(hk:kindOf n=some .cell):∀{binds:List (Str×Value)}{m:Str->Option Value},(binds.map (·.1)).Nodup->(n,w)∈binds->bindC kindOf binds m n=some w
 |[],U,bG,h=>nomatch h
 |(n',v)::r,m,nd,h=>by
  rw[List.map_cons,List.nodup_cons]at nd;unfold bindC;rcases b8.mp h with e|h
  ·cases e
   (refine .trans (tg nd.1 ..)<|?_;rw[aV (by rw[hk];decide),aO rfl])
  ·exact xJ hk nd.2 h
inductive PD(K:Frag)(F:Fn)(ns:List Str)(fd:FuncData):Prop
 |no (h1:F.dflt=[]) (h2:fd.defaults = .none):PD K F ns fd|one (ms:List Str) (n:Str) (d:Addr) (o:Obj) (dv:Value) (da:AV) (k:Nat) (e1:ns=ms++[n]) (e2:fd.defaults = .ref d) (e3:K.lookup d=some o) (e4:o.data = .seq #[dv] k) (e5:F.dflt=[da]) (e6:∀h P V,VR h P V dv da):PD K F ns fd
structure iQ(G:GC)(fa:Addr)(F:Fn)(aB:List Str)(fd:FuncData)(body:List Stmt):Prop where
 look:∃o,G.K.lookup fa=some o/\o.data = .func fd
 body:fd.body = .stmts body
 code:codeIn G.K fd.code fd.qualname=true
 glob:fd.globals=mainGlobals
 bi:fd.builtins=builtinsNs
 ZB:fd.closure=[]
 co:fd.scope.isCoroutine=false
 gen:fd.scope.isGenerator=false
 kind:fd.scope.kind = .function
 nd:aB.Nodup
 nl:aB.length=F.nl
 np:F.np<=F.nl
 CV:El fd (aB.take F.np)
 kinds:∀n∈aB.take F.np,fd.scope.names.lookup n=some .local\/fd.scope.names.lookup n=some .cell
 fW:∀nm,(fd.scope.names.lookup nm=some .cell\/fd.scope.names.lookup nm=some .free)->((cellsFrom 0 fd.scope.names []).lookup nm).isSome=true
 dflt:PD G.K F (aB.take F.np) fd
noncomputable def f6(F:Fn)(args:List AV):List AV:=args++F.dflt.drop (F.dflt.length-(F.np-args.length))
noncomputable def Mz(G:GC)(X:Addr->Prop)(l:List Env)(s:Shared)(V:Mu)(c:aC)(O:aD AV)(r:Result)(s':Shared):Prop:=match r with
 |.ok (.ret v)=>CE G X (bz l) s V c O v s'|.ok U=>False|.error e=>Exc G X l s V c O e s'
section
variable{G:GC}{T:Tb}{W:dP}{D lf:Nat}{A:Around}{B:Heap}{l:List Env}{X:Addr->Prop}{s:Shared}{V:Mu}{c:aC}
theorem Em{a n:Nat}(h:a+(1-(1-(n-a)))=n)(q:a≠n):n=a+1:=by
 by_cases h0:n<=a
 ·rw[Nat.sub_eq_zero_of_le h0]at h;exact aX h q
 ·rw[Nat.sub_eq_zero_of_le (show 1<=n-a from Nat.sub_pos_of_lt (Nat.lt_of_not_le h0))]at h;exact h.symm
theorem eL.nW{A:Around}{D:Nat}{aA:Env}(r:eL A (D+1)):eL (A.deeper aA) D:=⟨by have:=r.1;show A.depth+1+D<=_;omega,by have:=r.2;show A.units+3+12*D+100<=_;omega⟩
theorem En{fa:Addr}{F:Fn}{aB:List Str}{fd:FuncData}{body:List Stmt}(Q:iQ G fa F aB fd body)(hk:G.K.In s.heap){P:Addr->Prop}{vs:List Value}{args:List AV}(hv:cN s.heap P V vs args)(hl:(f6 F args).length=F.np) :
  ∃ws,BindsTo s fd ⟨vs,[]⟩ ((aB.take F.np).zip ws)/\cN s.heap P V ws (f6 F args):=by
 have Qr:(aB.take F.np).length=F.np:=by(refine .trans (List.length_take ..)<|?_;rw[Q.nl]);exact Nat.min_eq_left Q.np
 have nd:(aB.take F.np).Nodup:=Q.nd.sublist (List.take_sublist _ _);unfold f6 at hl⊢;cases Q.dflt with
 |no d1 d2=>?_|one ms n d o dv da k e1 e2 e3 e4 e5 e6=>?_
 ·rw[d1]at hl⊢;simp only[List.drop_nil,List.append_nil]at hl⊢;exact⟨vs,kZ Q.CV nd d2 (by(refine .trans (Qr ..)<|?_;rw[hv.length,hl])),hv⟩
 ·rw[e5]at hl⊢;have Ul:F.np=ms.length+1:=by(refine .trans (.symm (Qr ..))<|?_;rw[e1]);simp
  by_cases q:args.length=F.np
  ·have:([da]:List AV).drop ([da].length-(F.np-args.length))=[]:=by rw[q];simp
   rw[this,List.append_nil];refine⟨vs,?_,hv⟩;have P':=Q.CV;rw[e1]at P' nd⊢;exact zO P' nd e2 (hk _ _ e3) e4 (by rw[hv.length,q,Ul];simp)
  ·have ha:args.length=ms.length:=by
    rw[cB,List.length_drop]at hl;exact Nat.succ.inj ((Em hl q).symm.trans Ul)
   have:([da]:List AV).drop ([da].length-(F.np-args.length))=[da]:=by rw[ha,Ul];simp
   rw[this];refine⟨vs++[dv],?_,hv.append (.cons (e6 _ _ _) .nil)⟩;have P':=Q.CV;rw[e1]at P' nd⊢;exact CU P' nd e2 (hk _ _ e3) e4 (by rw[hv.length,ha])
theorem uq{α:Type}{n:Nat}{v:AV}{c:aC}{k:aC->aD α}(h:back n v c k≠.fail):aH n v=true/\(c.take n).all (ai n)=true/\back n v c k=k (c.take n):=by
 unfold back at h⊢
 by_cases q:(aH n v&&(c.take n).all (ai n))=true
 ·rw[aO q];rw[be]at q;exact⟨q.1,q.2,rfl⟩
 ·rw[aV q]at h;exact aX rfl h
theorem mT{fa:Addr}{F:Fn}{aB:List Str}{fd:FuncData}{body:List Stmt}(Q:iQ G fa F aB fd body)(bs:Bs G B)(S:n3 G A B l s.heap V c)(R:Rel G X s.heap V c)(sX:∀b,X b->B.get? b=none/\b∉bz l)(room:A.depth<recursionLimit)
  {vs ws:List Value} {os:List (Option AV)} (hb:BindsTo s fd ⟨vs,[]⟩ ((aB.take F.np).zip ws)) (Um:ws.length=F.np) (ZC:os.length=F.np) (MX:∀(i:Nat)(v:AV),os[i]?=some (some v)->∃w,ws[i]?=some w/\VR s.heap (LX X V c) V w v) {Rp:Result->Shared->Prop}
  (h:∀aA s',aA.frame=some aA.locals->s.heap.get? aA.locals=none->(∀b o,s.heap.get? b=some o->s'.heap.get? b=some o)->
   (∀nm w,(nm,w)∈(aB.take F.np).zip ws->fd.scope.names.lookup nm=some .local->bindL aA.kindOf ((aB.take F.np).zip ws) (fun U=>none) nm=some w)->
   Here G (A.deeper aA) B (aA::l) X aA fd.scope aB [] (bindL aA.kindOf ((aB.take F.np).zip ws) fun U=>none) (os++List.replicate (F.nl-F.np) none) s V c s' V c->
   wpAny (model G.prog G.w) (A.deeper aA) (execs body aA) (fun f s'=>Rp (.ok (.ret (match f with| .ret v=>v|_=>.none))) s')
    (fun e s'=>wpAny (model G.prog G.w) (A.deeper aA) (leaving aA e) (fun U tM=>Rp (.error e) tM) (fun e' tM=>Rp (.error e') tM) s') s') :
  codeAny (model G.prog G.w) A (.call (.ref fa) ⟨vs,[]⟩) Rp s:=by
 have hk:=bs.sd S.base;refine au Q.look fun o ho hd=>?_;have Qr:(aB.take F.np).length=F.np:=by(refine .trans (List.length_take ..)<|?_;rw[Q.nl]);exact Nat.min_eq_left Q.np
 have ZD:(aB.take F.np).Nodup:=Q.nd.sublist (List.take_sublist _ _);have NA:(((aB.take F.np).zip ws).map (·.1)).Nodup:=by
  rw[List.map_fst_zip (by rw[Qr,Um];exact b5 _)];exact ZD
 refine codeAny_call_function room (hk _ _ ho) hd Q.co Q.gen Q.body (codeRec_of hk Q.code) (hb _ _ _ _ ?_);rw[Q.ZB];refine wpAny_newFunctionEnv_cells Q.kind (fun x hx=>?_) fun aA he s' x=>?_
 ·obtain⟨i,hi,hxe⟩:=List.mem_iff_getElem.mp hx;have hm:x.1∈aB.take F.np:=(List.of_mem_zip (a:=x.1) (b:=x.2) hx).1;rcases Q.kinds _ hm with h|h
  ·exact .inl h
  ·exact .inr ⟨h,lX (Q.fW _ (.inl h)) _⟩
 have hL:aA.locals=s.heap.objs.size:=by rw[he];rfl
 have Qs:aA.scope=fd.scope:=by rw[he];rfl
 have Qe:aA.cells=cellsFrom (s.heap.objs.size+1) fd.scope.names []:=by rw[he];rfl
 have ZE:aA.globals=mainGlobals:=by rw[he];exact Q.glob
 have ZF:aA.builtins=builtinsNs:=by rw[he];exact Q.bi
 have ym:aA.frame=some aA.locals:=by rw[he];rfl
 have yo:s.heap.get? aA.locals=none:=by rw[hL];exact eX (b5 _)
 have BL:B.get? aA.locals=none:=by
  cases q:B.get? aA.locals with
  |none=>rfl|some o=>have:=S.base _ _ q;rw[yo]at this;exact ak this
 have keep:=x.toInCall.keep;refine⟨(bs.lim.keeps S.base).keeps keep,codeAny_func ?_⟩;have k0:∀{F:List Addr},bq F s V c s' V c:=by
  intro F;refine ji x.done fun h' tk e ZG=>?_;subst e;exact bq.of_keeps ZG
 have R':Rel G X s'.heap V c:=R.keeps keep;have Qt:∀nm,aA.kindOf nm=fd.scope.names.lookup nm:=fun nm=>by unfold Env.kindOf;rw[Qs]
 have fr:bz (aA::l)=aA.locals::bz l:=by simp[bz,ym]
 have ZH:∀b,X b->B.get? b=none/\b∉bz (aA::l):=fun b q=>⟨(sX b q).1,fun hb=>by
  rw[fr]at hb;rcases b8.mp hb with rfl|hb
  ·exact R.fresh yo (.inl q)
  ·exact(sX b q).2 hb⟩
 refine h aA s' ym yo keep (fun nm w hm hl=>qt ((Qt nm).trans hl) NA hm) ?_;refine⟨⟨⟨by rw[Qs];exact Q.kind,ZE,ZF⟩,Qs,fun nm CQ=>?_⟩,⟨Q.nd,Q.kind⟩,⟨bs,⟨Around.frames_deeper S.frames,S.handled,?_,fun b o e=>keep _ _ (S.base b o e),S.bl,fun b hb=>?_,fun b hb=>?_⟩,R',ZH,⟨x.toInCall.ns,R.fresh yo,fun i v hi=>?_⟩⟩,k0,yo,⟨l,rfl,ym⟩,⟨S.base,S.bl⟩,fun U h=>nomatch h⟩
 ·rw[Qe];rw[Qs]at CQ;exact lX (Q.fW nm CQ) _
 ·exact .cons (by rw[Qs,Q.kind];decide) ym x.toInCall.ns BL (S.jm.of_keeps fun b o e U=>⟨o,keep _ _ e,rfl⟩)
 ·have:bz (aA::l)=aA.locals::bz l:=by simp[bz,ym]
  rw[this]at hb;rcases b8.mp hb with rfl|hb
  ·exact fun q=>R.fresh yo (.inr q)
  ·exact S.nl b hb
 ·rw[fr]at hb;rcases b8.mp hb with rfl|hb
  ·exact .ns x.toInCall.ns
  ·refine au (S.odd b hb) fun o e z=>?_;exact⟨o,keep _ _ e,z⟩
 ·have oX:i<os.length:=by
   rcases Nat.lt_or_ge i os.length with h|h
   ·exact h
   ·rw[List.getElem?_append_right h]at hi;obtain⟨_,hi⟩:=dg.mp hi;simp at hi
  rw[i4 oX]at hi;refine au (MX i v hi) fun w ZI TY=>?_;have PP:i<F.np:=by rw[<-ZC];exact oX
  obtain⟨nm,CQ⟩:∃nm,(aB.take F.np)[i]?=some nm:=⟨_,List.getElem?_eq_getElem (by rw[Qr];exact PP)⟩
  have IH:(nm,w)∈(aB.take F.np).zip ws:=by
   refine eN (i:=i) ?_;rw[List.getElem?_zip_eq_some];exact⟨CQ,ZI⟩
  refine⟨nm,w,(bj CQ).1,?_,TY.pass (Pass.keeps keep)⟩;rcases Q.kinds nm (eN CQ) with h|h
  ·exact .inl ⟨(Qt nm).trans h,qt ((Qt nm).trans h) NA IH⟩
  ·obtain⟨ca,TZ⟩:=Option.isSome_iff_exists.mp (lX (Q.fW nm (.inl h)) (s.heap.objs.size+1));rw[<-Qe]at TZ;refine au (x.cell nm ca TZ) fun oc ZJ XD=>?_;rw[xJ ((Qt nm).trans h) NA IH]at XD;refine .inr ⟨.inl ((Qt nm).trans h),ca,oc,TZ,ZJ,XD,?_⟩;have NB:=x.above nm ca (mem_of_lookup TZ);exact R.fresh (eX (Nat.le_of_lt (hL▸NB)))
theorem BA{fa:Addr}{F:Fn}{aB:List Str}{fd:FuncData}{body:List Stmt}(Q:iQ G fa F aB fd body)
  (xK:∀A' l',eL A' D->nr G T W lf A' B l' fd.scope aB F.body body) (bs:Bs G B) (S:n3 G A B l s.heap V c) (R:Rel G X s.heap V c) (sX:∀b,X b->B.get? b=none/\b∉bz l) (r:eL A (D+1)) {vs:List Value} {args:List AV} (hv:cN s.heap (LX X V c) V vs args) (aK:d3 W lf F args c≠.fail) :
  codeAny (model G.prog G.w) A (.call (.ref fa) ⟨vs,[]⟩) (Mz G X l s V c (d3 W lf F args c)) s:=by
 have e0:d3 W lf F args c=if(f6 F args).length=F.np then(match dR W lf F.body ((f6 F args).map some++List.replicate (F.nl-F.np) none) c with
  |.ok (.rt v) c'=>back c.length v c' fun c=>.ok v c|.ok (.nx U) c'=>back c.length .none c' fun c=>.ok .none c|.ok (.bk U) bG=>.fail|.exc U c'=>back c.length .none c' fun c=>.exc false c|.fail=>.fail) else .fail:=rfl
 by_cases hl:(f6 F args).length=F.np
 case neg=>rw[e0,aV hl]at aK;exact aX rfl aK
 rw[e0,aO hl]at aK⊢;generalize hex:dR W lf F.body ((f6 F args).map some++List.replicate (F.nl-F.np) none) c=O at aK⊢;refine au (En Q (bs.sd S.base) hv hl) fun ws hb hw=>?_;refine mT Q bs S R sX (by have:=r.1;omega) hb (by exact .trans (hw.length ..)<|(hl ..)) (os:=(f6 F args).map some) (by exact .trans (List.length_map ..)<|(hl ..)) (fun i v hi=>?_) fun aA s' ym yo keep U H=>?_
 ·rw[List.getElem?_map]at hi;refine au (Option.map_eq_some_iff.mp hi) fun v' Qu e=>?_;obtain rfl:=bE e;obtain⟨w,q1,q2⟩:=hw.get Qu;exact⟨w,q1,q2⟩
 have Hh:eL (A.deeper aA) D:=r.nW;have Un:dR W lf F.body ((f6 F args).map some++List.replicate (F.nl-F.np) none) c≠.fail:=by
  rw[hex];rintro rfl;exact aK rfl
 have fr:bz (aA::l)=aA.locals::bz l:=by simp[bz,ym]
 refine bJ (xK (A.deeper aA) (aA::l) Hh X aA [] _ _ s V c s' V c H Un) ?_ fun e tM x=>?_
 ·rintro f tM ⟨fl,c',bT,e,q⟩;rw[hex]at e;subst e;cases fl with
  |nx aE=>
   obtain⟨rfl,m',H'⟩:=q;refine cH (uq aK) fun b1 b2 b3=>?_;dsimp only;rw[b3];have k:=H'.iz;rw[fr]at k;exact⟨.none,_,bT.take c.length,rfl,(k.inner yo).down R.len.symm,H'.cw.rel.down b2,.none⟩
  |bk aE=>exact aX rfl aK|rt v=>
   obtain⟨w,rfl,k,R2,aS⟩:=q;refine cH (uq aK) fun b1 b2 b3=>?_;dsimp only;rw[b3];rw[fr]at k;exact⟨v,_,bT.take c.length,rfl,(k.inner yo).down R.len.symm,R2.down b2,aS.down (fun a q=>q.imp id (mR a)) b1⟩
 ·rw[hex]at x;refine Ek (Around.frames_deeper S.frames) ym yo R.len.symm x fun m c' e=>?_;subst e;refine cH (uq aK) fun b1 b2 b3=>?_;exact⟨b3,b2⟩
theorem Qv{fa:Addr}{F:Fn}{aB:List Str}{fd:FuncData}{body:List Stmt}(Q:iQ G fa F aB fd body)
  (xK:∀A' l',eL A' D->nr G T W lf A' B l' fd.scope aB F.body body) (bs:Bs G B) (S:n3 G A B l s.heap V c) (R:Rel G X s.heap V c) (sX:∀b,X b->B.get? b=none/\b∉bz l) (r:eL A (D+1)) {vs:List Value} {args:List AV} (hv:cN s.heap (LX X V c) V vs args) (aK:d3 W lf F args c≠.fail) :
  wpAny (model G.prog G.w) A (PySem.call (Value.ref fa) vs) (CE G X (bz l) s V c (d3 W lf F args c)) (Exc G X l s V c (d3 W lf F args c)) s:=
 wpAny_call (codeAny_mono (BA Q xK bs S R sX r hv aK) fun r s' z=>by
  rcases r with e|f
  ·exact z
  ·cases f<;>exact z)
end
set_option backward.match.sparseCases false
section
variable{G:GC}{T:Tb}{W:dP}{D lf:Nat}{A:Around}{B:Heap}{l:List Env}{X:Addr->Prop}{s:Shared}{V:Mu}{c:aC}
theorem n3.around(S:n3 G A B l h V c)(h1:A'.frames=A.frames)(h2:A'.handled=A.handled):n3 G A' B l h V c:=
 ⟨h1.trans S.frames,h2.trans S.handled,S.jm,S.base,S.bl,S.nl,S.odd⟩
theorem none_inv(H:VR h P V v .none):v = .none:=by cases H;rfl
inductive XE(W:dP)(lf:Nat)(f:Fn)(args:List AV)(c:aC):Prop
 |mk (c':aC) (q:d3 W lf f (.ref c.length::args) (c++[.inst []]) = .ok .none c') (e:fT W lf f args c = .ok (.ref c.length) c'):XE W lf f args c
theorem Qw{W:dP}{lf:Nat}{f:Fn}{args:List AV}{c:aC}(h:fT W lf f args c≠.fail):XE W lf f args c:=by
 unfold fT at h;cases q:d3 W lf f (.ref c.length::args) (c++[.inst []]) with
 |ok a c'=>rw[q]at h;cases a<;>first|exact aX rfl h|exact .mk c' q (by unfold fT;rw[q])
 |_=>rw[q]at h;exact aX rfl h
theorem NC(Q:iQ G fa F aB fd body)(hm:makesIn G.K G.RC=true)(hi:findIn G.K (.ref G.RC) "__init__"=some (some (.ref fa)))(hf:typeIn G.K (.ref fa)=some (.type "function"))
  (xK:∀A' l',eL A' D->nr G T W lf A' B l' fd.scope aB F.body body) (bs:Bs G B) (S:n3 G A B l s.heap V c) (R:Rel G X s.heap V c) (sX:∀b,X b->B.get? b=none/\b∉bz l) (r:eL A (D+2)) (hv:cN s.heap (LX X V c) V vs args) (aK:fT W lf F args c≠.fail) :
  wpAny (model G.prog G.w) A (PySem.call (Value.ref G.RC) vs) (CE G X (bz l) s V c (fT W lf F args c)) (Exc G X l s V c (fT W lf F args c)) s:=by
 have hk:=bs.sd S.base;induction Qw aK with|mk c1 q0 e0=>?_
 obtain⟨hh,g,d,t,os⟩:=s;dsimp only at R S hv hk;refine wpAny_call ?_;refine make_core (makes_of hk hm) (looks_findIn hk hi) (fun self=>bind_fn hk self hf) (.inl rfl) ?_;have Au:hh.get? hh.objs.size=none:=eX (b5 _);have k1:=cC (h:=hh) emptyDict;have k2:=cC (h:=hh.push emptyDict) (instObj G.RC hh.objs.size);have kk:∀b o,hh.get? b=some o->((hh.push emptyDict).push (instObj G.RC hh.objs.size)).get? b=some o:=fun b o e=>k2 b o (k1 b o e);have R1:Rel G (fun b=>X b\/b=hh.objs.size) ((hh.push emptyDict).push (instObj G.RC hh.objs.size)) V c:=(R.more Au rfl rfl).keeps k2;have ZK :¬X hh.objs.size:=fun q=>by obtain⟨o,ho⟩:=R.fU _ q;rw[Au]at ho;exact ak ho
 have hx:((hh.push emptyDict).push (instObj G.RC hh.objs.size)).get? (hh.objs.size+1)=some (instObj G.RC hh.objs.size):=by
  have:=ez (hh.push emptyDict) (o:=instObj G.RC hh.objs.size) rfl
  rwa [Heap.size_push]at this
 have ZL:((hh.push emptyDict).push (instObj G.RC hh.objs.size)).get? hh.objs.size=some emptyDict:=k2 _ _ (ez _ rfl);have XF:hh.get? (hh.objs.size+1)=none:=eX (Nat.le_succ _);have nP :¬LX (fun b=>X b\/b=hh.objs.size) V c (hh.objs.size+1):=by
  rintro((q|q) |q)
  ·exact R.fresh XF (.inl q)
  ·exact aX q (Nat.succ_ne_self _)
  ·exact R.fresh XF (.inr q)
 have ZM:fD G ((hh.push emptyDict).push (instObj G.RC hh.objs.size)) (LX (fun b=>X b\/b=hh.objs.size) V c) (V++[⟨hh.objs.size+1,hh.objs.size⟩]) ⟨hh.objs.size+1,hh.objs.size⟩ (.inst []):=
  ⟨instObj G.RC hh.objs.size,emptyDict,#[],0,⟨hx,rfl,rfl,ZL⟩,rfl,rfl,nP,rfl,rfl,.nil,Nat.zero_le _⟩
 have R2:=Rel.mQ (p:=⟨hh.objs.size+1,hh.objs.size⟩) R1 ZK ZM;have kS:bq (bz l) ⟨hh,g,d,t,os⟩ V c ⟨(hh.push emptyDict).push (instObj G.RC hh.objs.size),g,d,t,os⟩ V c:=bq.of_keeps (s:=⟨hh,g,d,t,os⟩) kk;have k3:=bq.mQ (p:=⟨hh.objs.size+1,hh.objs.size⟩) (y:=.inst []) kS R.len Au;have S2:=S.step k3;have V1:cN ((hh.push emptyDict).push (instObj G.RC hh.objs.size)) (LX X (V++[⟨hh.objs.size+1,hh.objs.size⟩]) (c++[.inst []])) (V++[⟨hh.objs.size+1,hh.objs.size⟩]) (.ref (hh.objs.size+1)::vs) (.ref c.length::args):=by
  have e:(V++[(⟨hh.objs.size+1,hh.objs.size⟩:CA)])[c.length]?=some ⟨hh.objs.size+1,hh.objs.size⟩:=by
   (refine .trans (List.getElem?_append_right (by rw[R.len];exact b5 _) ..)<|?_;rw[show c.length-V.length=0 by rw[R.len];omega]);rfl
  exact .cons (VR.ref (p:=⟨hh.objs.size+1,hh.objs.size⟩) e) (hv.pass k3.ba)
 have CO:d3 W lf F (.ref c.length::args) (c++[.inst []])≠.fail:=by
  rw[q0];exact fun q=>nomatch q
 generalize Hh:A.under (.builtin "type.__call__" ⟨.ref G.RC::vs,[]⟩)=A';have f1:A'.frames=A.frames:=by rw[<-Hh];rfl
 have f2:A'.handled=A.handled:=by rw[<-Hh];rfl
 have f3:A'.depth=A.depth+1:=by rw[<-Hh];rfl
 have f4:A'.units=A.units+1:=by rw[<-Hh];rfl
 have call:=BA (A:=A') Q xK bs (S2.around (A':=A') f1 f2) R2 sX ⟨by have:=r.1;rw[f3];omega,by have:=r.2;rw[f4];omega⟩ V1 CO
 refine codeAny_mono call fun r s' z=>?_;rcases r with e|f
 ·obtain⟨m,c',bT,ea,q,_⟩:=z;exact nomatch q0.symm.trans q
 ·cases f with
  |ret v=>
   obtain⟨a,c',bT,q,k4,R4,V4⟩:=z;induction jj (q0.symm.trans q);refine⟨none_inv V4,?_⟩;have e:=k4.pre c.length _ (show(V++[(⟨hh.objs.size+1,hh.objs.size⟩:CA)])[c.length]?=some ⟨hh.objs.size+1,hh.objs.size⟩ by
    (refine .trans (List.getElem?_append_right (by rw[R.len];exact b5 _) ..)<|?_;rw[show c.length-V.length=0 by rw[R.len];omega]);rfl)
   exact⟨_,_,bT,e0,k3.trans k4,R4,VR.ref (p:=⟨hh.objs.size+1,hh.objs.size⟩) e⟩
  |_=>exact z
end
set_option backward.match.sparseCases true
noncomputable abbrev qu(C P:Addr):List Value:=[.ref C,.ref P,.type "Exception",.type "BaseException",.type "object"]
noncomputable def excIn(K:Frag)(C P fI:Addr):Bool:=match K.lookup C with
 |some ⟨oc,U,.cls cd,sl⟩=>oc == .type "type"&&!cd.abstract&&!cd.hasDel&&cd.hasDict&&(sl.toList[4]?).join==some (.builtin "Exception.__new__")&&cd.mro==qu C P &&
  specialIn K (.ref C) "__call__"==some (some (.builtin "type.__call__"))&&instIn K (.ref C) (.type "type")==some true &&
  findIn K (.ref C) "__setattr__"==some (some (.builtin "object.__setattr__"))&&findIn K (.ref C) "text"==some none&&findIn K (.ref C) "line"==some none &&
  findIn K (.ref C) "__init__"==some (some (.ref fI))&&typeIn K (.ref fI)==some (.type "function")
 |_=>false
inductive Uo(h:Heap)(C:Addr):Prop
 |mk (oc:Value) (od:Option Addr) (cd:ClassData) (sl:_) (h1:h.get? C=some ⟨oc,od,.cls cd,sl⟩) (h2:cd.abstract=false) (h3:cd.hasDel=false) (h4:cd.mro.isEmpty=false) (h5:oc = .type "type")
structure jv(M:Model)(h:Heap)(C:Addr):Prop where
 obj:Uo h C
 made:Looks M h (Bind.madeBy (.ref C)) (some "Exception.__new__")
 base:Looks M h (Bind.staticBase (.ref C)) (.ref C)
 self:Looks M h (isSubtype (.ref C) (.ref C)) true
 exc:Looks M h (isSubtype (.ref C) (.type "Exception")) true
 attr:Looks M h (isSubtype (.ref C) (.type "AttributeError")) false
 name:Looks M h (isSubtype (.ref C) (.type "NameError")) false
 c9:Looks M h (isSubtype (.ref C) (.type "BaseException")) true
 call:Looks M h (specialOf (.ref C) "__call__") (some (.builtin "type.__call__"))
 typ:Looks M h (isInstance (.ref C) (.type "type")) true
 CW:Looks M h (isType (.ref C)) true
structure CX(K:Frag)(C P fI:Addr):Prop where
 cls:∃cd,clsIn K C=some cd/\cd.mro=qu C P/\cd.hasDict=true
 Qx:findIn K (.ref C) "__setattr__"=some (some (.builtin "object.__setattr__"))
 text:findIn K (.ref C) "text"=some none
 line:findIn K (.ref C) "line"=some none
 init:findIn K (.ref C) "__init__"=some (some (.ref fI))
 fn:typeIn K (.ref fI)=some (.type "function")
inductive Up(K:Frag)(C P fI:Addr):Prop
 |mk (oc:Value) (od:Option Addr) (cd:ClassData) (sl:_) (ho:K.lookup C=some ⟨oc,od,.cls cd,sl⟩) (e0:oc = .type "type") (e1:cd.abstract=false) (e2:cd.hasDel=false) (e3:cd.hasDict=true) (e4:(sl.toList[4]?).join=some (.builtin "Exception.__new__")) (e5:cd.mro=qu C P)
  (e6:specialIn K (.ref C) "__call__"=some (some (.builtin "type.__call__"))) (e7:instIn K (.ref C) (.type "type")=some true) (e8:findIn K (.ref C) "__setattr__"=some (some (.builtin "object.__setattr__"))) (e9:findIn K (.ref C) "text"=some none) (Uq:findIn K (.ref C) "line"=some none)
  (Ur:findIn K (.ref C) "__init__"=some (some (.ref fI))) (P4:typeIn K (.ref fI)=some (.type "function"))
set_option tactic.hygienic true in
theorem BC{K:Frag}{C P fI:Addr}(e:excIn K C P fI=true):Up K C P fI:=by
 unfold excIn at e
 split at e
 ·rename_i oc od cd sl ho;simp only[be,Bool.not_eq_true',beq_iff_eq]at e;exact⟨oc,od,cd,sl,ho,e.1.1.1.1.1.1.1.1.1.1.1.1,e.1.1.1.1.1.1.1.1.1.1.1.2,e.1.1.1.1.1.1.1.1.1.1.2,e.1.1.1.1.1.1.1.1.1.2,e.1.1.1.1.1.1.1.1.2,e.1.1.1.1.1.1.1.2,e.1.1.1.1.1.1.2,e.1.1.1.1.1.2,e.1.1.1.1.2,e.1.1.1.2,e.1.1.2,e.1.2,e.2⟩
 ·exact eK e
theorem Ih{K:Frag}{C P fI:Addr}(e:excIn K C P fI=true):CX K C P fI:=by
 obtain⟨oc,od,cd,sl,ho,e0,e1,e2,e3,e4,e5,e6,e7,e8,e9,Uq,Ur,P4⟩:=BC e;exact⟨⟨cd,by unfold clsIn;rw[ho],e5,e3⟩,e8,e9,Uq,Ur,P4⟩
theorem k8{K:Frag}{M:Model}{h:Heap}(X:K.In h){C P fI:Addr}(e:excIn K C P fI=true):jv M h C:=by
 obtain⟨oc,od,cd,sl,ho,e0,e1,e2,e3,e4,e5,e6,e7,e8,e9,Uq,Ur,P4⟩:=BC e;have hc:clsIn K C=some cd:=by unfold clsIn;rw[ho]
 have hm:Looks M h (mroOf (.ref C)) cd.mro:=(looks_clsIn X hc).andThen .now;have ne:cd.mro.isEmpty=false:=by rw[e5];rfl
 have made:Looks M h (Bind.madeBy (.ref C)) (some "Exception.__new__"):=by
  intro A Q E s k q;unfold Bind.madeBy;refine aL (hm A _ E s k ?_);rw[e5,List.forIn_cons];refine aL (aL (aL (aL (wpAny_loadPart (k _ _ (X _ _ ho)) (aW ?_)))));dsimp only;rw[<-Array.getElem?_toList,e4];exact aW (aW (aW q))
 have mr:∀(T:Value)(b:Bool),(qu C P).contains T=b->mroIn K C T=some b:=fun T b q=>by
  unfold mroIn;rw[hc,Option.bind_some,aV (by rw[ne];decide),e5,q]
 refine⟨⟨oc,od,cd,sl,X _ _ ho,e1,e2,ne,e0⟩,made,?_,looks_mroIn X (mr _ _ ?_),looks_mroIn X (mr _ _ ?_),looks_mroIn X (mr _ _ ?_),looks_mroIn X (mr _ _ ?_),looks_mroIn X (mr _ _ ?_),looks_specialIn X e6,looks_instIn X e7,?_⟩
 ·intro A Q E s k q;unfold Bind.staticBase;refine aL (hm A _ E s k ?_);rw[e5,List.forIn_cons];exact aL (aL (aL (made A _ E s k (aW (aW (aW q))))))
 ·simp
 ·rfl
 ·rfl
 ·rfl
 ·rfl
 ·exact(Looks.ld (X _ _ ho)).andThen .now
noncomputable abbrev f7(l:List Value):Obj:={cls:=.type "tuple",data:=.seq l.toArray}
noncomputable abbrev gc(C t:Addr):Obj:={cls:=.ref C,data:=.fields #[.ref t,.none,.none,.none,.bool false,.none]}
noncomputable abbrev newRow:Manifest.Signature:=⟨.any,"Exception","Exception",.cls,[⟨"args",.varPos,false⟩,⟨"kwargs",.varKw,false⟩]⟩
noncomputable def Us(C:Addr)(rest:List Value)(a1 a2:Sem Unit)(a3:Value->String->Sem Unit)(u:Value->Sem Unit):Sem Unit:=
 isType (.ref C)>>=fun x=>if(!x)=true then a1 else isSubtype (.ref C) (.type "Exception")>>=fun y=>if(!y)=true then a2 else Bind.staticBase (.ref C)>>=fun base=>Bind.madeBy base>>=fun m=>match m with|some made=>(if(Manifest.canonical made !=Manifest.canonical "Exception.__new__")=true then a3 base made else Bind.checkArgs "Exception.__new__" newRow ⟨.ref C::rest,[]⟩) |_=>u base
inductive Qy(C:Addr)(rest:List Value)(x:Sem Unit):Prop
 |mk (a1 a2:Sem Unit) (a3:Value->String->Sem Unit) (u:Value->Sem Unit) (e:x=Us C rest a1 a2 a3 u):Qy C rest x
theorem Ii(C:Addr)(rest:List Value):Qy C rest (checkBuiltinCall "Exception.__new__" ⟨.ref C::rest,[]⟩):=by
 have F:=PySem.F.excBase_Exception;unfold checkBuiltinCall;rw[F.newKind,F.newSplit,F.newRow];exact .mk _ _ _ _ ((aO (beq_self_eq_true "__new__")).trans rfl)
theorem ND{M:Model}{A:Around}{E:Value->Shared->Prop}{h:Heap}{g:Array GenState}{d:Drawn}{t:Nat}{os:OsState}{C:Addr}{rest:List Value}{Q:Unit->Shared->Prop}(aG:jv M h C)(hq:Q () ⟨h,g,d,t,os⟩) :
  wpAny M A (checkBuiltinCall "Exception.__new__" ⟨.ref C::rest,[]⟩) Q E ⟨h,g,d,t,os⟩:=by
 induction Ii C rest with|mk a1 a2 a3 u e=>?_;refine j9 e (aL (aG.CW.at (j9 (aV Bool.false_ne_true) (aL (aG.exc.at (j9 (aV Bool.false_ne_true) (aL (aG.base.at (aL (aG.made.at ?_))))))))))
 refine j9 (aV (by simp)) ?_
 exact j9 (show Bind.checkArgs "Exception.__new__" newRow ⟨.ref C::rest,[]⟩=pure () from by kernel_rfl) (aW hq)
section
variable{prog:Program}{w:PySem.World}{A:Around}{R:Result->Shared->Prop}{h:Heap}{g:Array GenState}{d:Drawn}{t:Nat}{os:OsState}{C:Addr}
theorem Qz(aG:jv (model prog w) h C)(Kp:rest.length<=sizeLine)
  (hq:R (.ok (.ret (.ref (h.objs.size+1)))) ⟨(h.push (f7 rest)).push (gc C h.objs.size),g,d,t,os⟩) :
  codeAny (model prog w) A (.call (.builtin "Exception.__new__") ⟨.ref C::rest,[]⟩) R ⟨h,g,d,t,os⟩:=by
 have F:=PySem.F.excBase_Exception;refine codeAny_call_builtin_code (Code.quiet_builtin _ F.quiet) (ND aG ?_);obtain⟨⟨oc,od,cd,sl,hC,e1,e2,e3,e5⟩,made,base,self,exc,attr,name,c9,call,typ,CW⟩:=aG;have XG:=F.ends;have canon:=F.canon;have mh:Looks (model prog w) h (Bind.madeHere "BaseException.__new__" (.ref C)) ():=base.andThen (made.andThen (Looks.of_pure (by simp only[Option.map_some,canon,bne_self_eq_false,Bool.false_eq_true,if_false])))
 refine PySem.codeAny_builtinAt F.entry ?_;unfold Builtin.«BaseException.__new__»;refine PySem.wpAt_bind ?_;show PySem.wpAt _ _ _ (stack>>=_) _ _ _;refine PySem.wpAt_bind (PySem.wpAt_stack fun p below=>PySem.wpAt_of_wpAny ?_)
 wp_walk
 refine PySem.wpAt_of_wpAny ?_;rw[F.owner]
 repeat (first|simp only[bne_self_eq_false,Bool.false_eq_true,if_false,Bool.not_true,Array.append_empty] |lk)
 refine j9 (aV (show¬rest.toArray.size>sizeLine by rw[List.size_toArray];omega) ..)<|?_
 unfold newObjAsIs;refine aL (wpAny_alloc ?_);refine aL (aW (aW ?_));refine aL ?_;show wpAny _ _ (newObjAsIs _ _ _) _ _ _;unfold newObjAsIs classHasDel;refine aL (wpAny_alloc (aL (aL (wpAny_load (fQ _ (fQ _ hC)) (aW ?_)))));rw[e2];refine aW (aW ?_);show R _ _;rw[Heap.size_push];exact hq
noncomputable def XH(C:Addr)(rest:List Value)(a1 b1:Sem Fin)(a2:Value->Sem Fin)(a3:Value->Value->Sem Fin):Sem Fin:=
 mroOf (.ref C)>>=fun m=>if m.isEmpty=true then a1 else Bind.madeBy (.ref C)>>=fun o=>match o with
  |some id=>(pure (Value.builtin id)>>=fun new=>holding [new] (call new (.ref C::rest) [])>>=fun obj=>isInstance obj (.ref C)>>=fun b=>if(!b)=true then a2 obj else holding [obj] (callSpecial? obj "__init__" rest [])>>=fun r=>match r with
   |none=>ret obj|some r=>if(r != .none)=true then a3 obj r else ret obj)
  |none=>b1
inductive Ut(C:Addr)(rest:List Value)(x:Sem Fin):Prop
 |mk (a1 b1:Sem Fin) (a2:Value->Sem Fin) (a3:Value->Value->Sem Fin) (e:x=XH C rest a1 b1 a2 a3):Ut C rest x
theorem RA(C:Addr)(rest:List Value):Ut C rest (Builtin.«type.__call__» ⟨.ref C::rest,[]⟩):=by
 unfold Builtin.«type.__call__»;apply Ut.mk;show(if(Value.ref C==Value.type "type")=true then _ else _)=_;refine(aV (show¬(Value.ref C==Value.type "type")=true from Bool.false_ne_true)).trans ?_
 exact rfl
theorem NE(aG:jv (model prog w) h C)(Kp:rest.length<=sizeLine)(hi:Looks (model prog w) h (typeLookup (.ref C) "__init__") (some init))
  (hb:∀self,Looks (model prog w) h (bindSpecial init self) (init,[self]))
  (hq:codeAny (model prog w) (A.under (.builtin "type.__call__" ⟨.ref C::rest,[]⟩)) (.call init ⟨.ref (h.objs.size+1)::rest,[]⟩) (InitBack (h.objs.size+1) R) ⟨(h.push (f7 rest)).push (gc C h.objs.size),g,d,t,os⟩) :
  codeAny (model prog w) A (.call (.ref C) ⟨rest,[]⟩) R ⟨h,g,d,t,os⟩:=by
 have Y':=aG;obtain⟨⟨oc,od,cd,sl,hC,e1,e2,e4,e5⟩,made,base,self,exc,attr,name,c9,call,typ,CW⟩:=aG;refine codeAny_of_tree ?_;show wpAny _ _ (callAny (.ref C) _) _ _ _;refine nd_load hC ?_;show wpAny _ _ (callAny.viaDunder (.ref C) _) _ _ _;unfold callAny.viaDunder;refine aL (call.at ?_);dsimp only;rw[tc_bind];refine aL (aW (aL (aW ?_)));refine aW (a:=Fin.again (.call (.builtin "type.__call__") ⟨.ref C::rest,[]⟩)) (And.intro rfl ?_);refine codeAny_call_builtin_at (Code.quiet_builtin _ (by decide +kernel)) entry_typeCall (check_slot tc_kind tc_split typ (tc_args _ _ _) ?_)
 induction RA C rest with|mk a1 b1 a2 a3 e0=>?_;refine j9 e0 ?_
 unfold XH;have hm:Looks (model prog w) h (mroOf (.ref C)) cd.mro:=((Looks.ld (part:=none) hC).andThen .now).andThen .now
 repeat (first|simp only[e4,Bool.false_eq_true,if_false] |with_reducible refine wpAny_call ?_|lk)
 refine Qz Y' Kp ?_;have k:∀b o,h.get? b=some o->((h.push (f7 rest)).push (gc C h.objs.size)).get? b=some o:=fun b o e=>fQ _ (fQ _ e);have hx:((h.push (f7 rest)).push (gc C h.objs.size)).get? (h.objs.size+1)=some (gc C h.objs.size):=by heap_get
 have t1:Looks (model prog w) ((h.push (f7 rest)).push (gc C h.objs.size)) (typeOf (.ref (h.objs.size+1))) (.ref C):=(Looks.ld hx).andThen .now;have s1:=self.keeps k;have i1:=hi.keeps k;have b1:=(hb (.ref (h.objs.size+1))).keeps k;unfold isInstance callSpecial? specialOf
 repeat (first|with_reducible refine wpAny_call ?_|lk)
 refine codeAny_mono hq fun r s' z=>?_;rcases r with e| (v|_|_|_)<;>first|exact z|exact z.elim|skip
 obtain⟨rfl,z⟩:=z;exact aW (aW z)
end
end Internal
end
section
open PySem PySem.W PyProof.Rows PySem.Calls PySem.Spec Builtin Builtin.ObjectAttr
namespace Internal
inductive qv(C:Addr)(h:Heap)(x:Addr)(n:Nat):Prop
 |mk (ox:Obj) (vs:Array Value) (a0:Value) (h1:h.get? x=some ox) (h2:ox.cls = .ref C) (h3:ox.data = .fields vs) (h4:vs[0]?=some a0) (h5:vs[1]?=some Value.none)
  (h6:ox.dict=none\/∃dx mA ns,ox.dict=some dx/\dx≠x/\h.Ns1 dx mA/\Within mA ns/\ns.length<=n)
theorem xL{n:Nat}(h1:h.get? x=some ox)(h2:ox.cls = .ref C)(h3:ox.data = .fields vs)(h6:ox.dict=none\/∃dx mA ns,ox.dict=some dx/\dx≠x/\h.Ns1 dx mA/\Within mA ns/\ns.length<=n):∃od,InstAt h x ox C od:=by
 rcases h6 with q|⟨dx,mA,ns,q,_,⟨o,_,_,q2,_⟩,_⟩
 ·exact⟨none,h1,h2,by unfold notCls;rw[h3],by rw[q];trivial⟩
 ·exact⟨some o,h1,h2,by unfold notCls;rw[h3],by rw[q];exact q2⟩
structure zQ(x:Addr)(h h':Heap):Prop where
 keep:∀b o,h.get? b=some o->b≠x->(∀ox,h.get? x=some ox->ox.dict≠some b)->h'.get? b=some o
 dict:∀BD d,h'.get? x=some BD->BD.dict=some d->(∃ox,h.get? x=some ox/\ox.dict=some d)\/h.get? d=none
 there:∀b o,h.get? b=some o->∃o',h'.get? b=some o'
theorem zQ.trans(a:zQ x h h')(b:zQ x h' ik):zQ x h ik:=by
 refine⟨fun y o e n1 n2=>b.keep y o (a.keep y o e n1 n2) n1 fun ox e' q=>?_,fun BD d e q=>?_,fun y o e=>?_⟩
 ·refine Or.elim (a.dict ox y e' q) (fun ng=>au ng fun ZN e0 q0=>?_) (fun e0=>?_)
  ·exact n2 _ e0 q0
  ·rw[e]at e0;cases e0
 ·refine Or.elim (b.dict BD d e q) (fun ng=>au ng fun ZO e1 q1=>?_) (fun e1=>?_)
  ·exact a.dict ZO d e1 q1
  ·refine .inr ?_;cases q2:h.get? d with
   |none=>rfl|some o=>obtain⟨o',e'⟩:=a.there d o q2;rw[e1]at e';exact ak e'
 ·obtain⟨o',e'⟩:=a.there y o e;exact b.there y o' e'
theorem zQ.of_keeps(k:∀b o,h.get? b=some o->h'.get? b=some o)(hx:∃o,h.get? x=some o):zQ x h h':=by
 obtain⟨o,ho⟩:=hx;refine⟨fun b o e U U=>k b o e,fun BD d e q=>?_,fun b o e=>⟨o,k b o e⟩⟩;rw[k _ _ ho]at e;obtain rfl:=bE e;exact .inl ⟨_,ho,q⟩
theorem qv.keeps{n:Nat}(H:qv C h x n)(k:∀b o,h.get? b=some o->h'.get? b=some o):qv C h' x n:=by
 obtain⟨ox,vs,a0,h1,h2,h3,h4,h5,h6⟩:=H;refine⟨ox,vs,a0,k _ _ h1,h2,h3,h4,h5,h6.imp id ?_⟩;intro zq;refine K2 zq fun dx mA ns q1 q2 q3 q4=>?_;exact⟨dx,mA,ns,q1,q2,q3.keeps k,q4⟩
theorem qv.there{n:Nat}(H:qv C h x n):∃o,h.get? x=some o:=let⟨ox,_,_,h1,_,_,_,_,_⟩:=H;⟨ox,h1⟩
section
variable{prog:Program}{w:PySem.World}{A:Around}{K:Frag}{C P fI x:Addr}{s:Shared}{n:Nat}
theorem zR(self:Value):refuseLoop self "__setattr__" (qu C P)=pure ():=by
 refine .trans (refuseLoop_ref ..)<|.trans (refuseLoop_ref ..)<|?_;exact PySem.F.store_Exception.passes self
theorem BE(X:K.In s.heap)(I:InstAt s.heap x ox C od)(EK:CX K C P fI)(ht:findIn K (.ref C) name=some none)
  (h:∀b,wpAny (model prog w) A.in1 (storeInOwnDict (.ref x) (.ref C) (.str name tk) name v b)
   (fun fin s'=>match fin with| .done f=>R (.ok f) s'| .again c'=>c'.quiet=true/\codeAny (model prog w) A c' R s') (fun e s'=>R (.error e) s') s) :
  codeAny (model prog w) A (.call (.builtin "object.__setattr__") ⟨[.ref x,.str name tk,v],[]⟩) R s:=by
 have SF:=PySem.F.store_object;refine d9 EK.cls fun cd hc ho hh=>?_;have ne:cd.mro.isEmpty=false:=by rw[ho];rfl
 have sub:Looks (model prog w) s.heap (isInstance (.ref x) (.type "object")) true:=I.type.andThen (looks_mroIn X (by unfold mroIn;rw[hc,Option.bind_some,aV (by rw[ne];decide),ho];simp))
 refine codeAny_call_builtin SF.slot.plain SF.entry (@check_slot (model prog w) _ _ s "object.__setattr__" "object" "__setattr__" (.ref x) [.str name tk,v] [] _ SF.kind SF.split sub (SF.args (.ref x) (.str name tk) v) ?_);have hm:Looks (model prog w) s.heap (mroOf (.ref C)) cd.mro:=(looks_clsIn X hc).andThen .now;have L3:Looks (model prog w) s.heap (storeTaker? none) none:=.now
 (refine j9 (osa_eq ..)<|?_;rw[refuse_eq])
 refine aL (aL (I.type.here (aL (hm.here ?_))));rw[ho,zR];refine aW (aL (I.type.here (aL ((looks_findIn X ht).here (aL (L3.here ?_))))));exact h _
theorem Ij(X:K.In s.heap)(EK:CX K C P fI)(hn:findIn K (.ref C) name=some none)(H:qv C s.heap x n)(hz:n<=20)
  (h:∀h' tk,qv C h' x (n+1)->zQ x s.heap h'->Q () {s with heap:=h',toks:=tk}):wpAny (model prog w) A (setAttr (.ref x) name v) Q E s:=by
 obtain⟨hp,g,d,t,os⟩:=s;obtain⟨ox,vs,a0,h1,h2,h3,h4,h5,h6⟩:=H;obtain⟨cd,hc,ho,hh⟩:=EK.cls;dsimp only at X h1 h6;refine Or.elim h6 (fun hd=>?_) (fun qV=>Pe qV fun dx mA ns hd aK wo hw hl=>?_)
 ·have I:InstAt hp x ox C none:=⟨h1,h2,by unfold notCls;rw[h3],by rw[hd];trivial⟩
  refine set_plain (s:=⟨hp,g,d,t,os⟩) X I EK.Qx (BE (s:=⟨hp,g,d,t+1,os⟩) X I EK hn fun b=>?_);refine aL (aW (aL (aL (wpAny_loadPart h1 ?_))));rw[h2];refine aL ((looks_clsIn X hc).here (s:=⟨hp,g,d,t+1,os⟩) ?_);rw[hh,hd];dsimp only[Bool.not_true]
  (refine j9 (aV (by decide) ..)<|j9 (aV (by simp[typeHasDict]) ..)<|?_;rw[h3])
  have Kq:(hp.push emptyDict).get? x=some ox:=fQ _ h1;have Uu:x≠hp.objs.size:=Nat.ne_of_lt (Heap.lt_size h1);refine aL (wpAny_alloc ?_);refine aL (wpAny_update' Kq ?_);refine aW ?_;have ZP:((hp.push emptyDict).update x fun o=>{cls:=o.cls,dict:=some hp.objs.size,data:=o.data,slots:=o.slots}).get? hp.objs.size=some emptyDict:=
   (Heap.get?_update_ne _ _ _ _ Uu.symm).trans (Heap.get?_push_at rfl rfl)
  have ZQ:((hp.push emptyDict).update x fun o=>{cls:=o.cls,dict:=some hp.objs.size,data:=o.data,slots:=o.slots}).Ns hp.objs.size (fun U=>none):=
   ⟨_,#[],_,ZP,rfl,fun e he=>aX he (by simp),fun U=>rfl⟩
  have ZR:({cls:=ox.cls,dict:=some hp.objs.size,data:=ox.data,slots:=ox.slots}:Obj).isFreed=false:=Obj.isFreed_of_fields h3;show wpAny _ _ (storeInDict hp.objs.size (.str name t) name v) _ _ _;unfold storeInDict newKeyGuard;refine aL (aW (aL (wpAny_nsSet1 (Heap.Ns1.of_empty ZQ) fun h' PQ hs=>?_)));refine km (PQ.count (Within.cons name v Within.nil)) fun oD ZS ZT Qa Uv NF=>?_;refine aL (wpAny_lookBehind Qa (by rw[Uv];exact pastItsLine_dict (cY NF (by rw[List.length_cons,List.length_nil,sizeLine_eq];omega))) ?_)
  have wQ:h'.get? x=some {cls:=ox.cls,dict:=some hp.objs.size,data:=ox.data,slots:=ox.slots}:=
   (hs.2 x Uu).trans (Heap.get?_update_self _ Kq ZR)
  have kp:∀b ob,hp.get? b=some ob->b≠x->h'.get? b=some ob:=fun b ob hb T3=>
   (hs.2 b (Nat.ne_of_lt (Heap.lt_size hb))).trans ((Heap.get?_update_ne _ _ _ _ T3).trans (fQ _ hb))
  refine aW (h h' _ ⟨_,vs,a0,wQ,h2,h3,h4,h5,.inr ⟨_,_,_,rfl,Uu.symm,PQ,Within.cons name v Within.nil,by simp⟩⟩ ⟨fun b ob hb T3 U=>kp b ob hb T3,fun BD d' e q=>?_,fun b ob hb=>?_⟩)
  ·rw[wQ]at e;obtain rfl:=bE e;obtain rfl:=bE q;exact .inr (eX (b5 _))
  ·by_cases q:b=x
   ·subst q;exact⟨_,wQ⟩
   ·exact⟨ob,kp b ob hb q⟩
 ·refine ly wo fun o es ep q q'=>?_;have wo:hp.Ns1 dx mA:=⟨o,es,ep,q,q'⟩;have I:InstAt hp x ox C (some o):=⟨h1,h2,by unfold notCls;rw[h3],by rw[hd];exact q⟩
  refine set_plain (s:=⟨hp,g,d,t,os⟩) X I EK.Qx (BE (s:=⟨hp,g,d,t+1,os⟩) X I EK hn fun b=>?_);refine aL (aW (aL (aL (wpAny_loadPart h1 ?_))));rw[h2];refine aL ((looks_clsIn X hc).here (s:=⟨hp,g,d,t+1,os⟩) ?_);rw[hh,hd];dsimp only[Bool.not_true];refine j9 (aV (by decide) ..)<|?_
  refine aW ?_;show wpAny _ _ (storeInDict dx (.str name t) name v) _ _ _;unfold storeInDict newKeyGuard;refine aL (aW (aL (wpAny_nsSet1 wo fun h' PQ hs=>?_)));refine km (PQ.count (Within.cons name v hw)) fun oD ZS ZT Qa Uv NF=>?_;refine aL (wpAny_lookBehind Qa (by rw[Uv];exact pastItsLine_dict (cY NF (by rw[List.length_cons,sizeLine_eq];omega))) ?_)
  have wQ:h'.get? x=some ox:=(hs.2 x aK.symm).trans h1;refine aW (h h' _ ⟨_,vs,a0,wQ,h2,h3,h4,h5,.inr ⟨_,_,_,hd,aK,PQ,Within.cons name v hw,by rw[List.length_cons];omega⟩⟩ ⟨fun b ob hb T3 ZU=>(hs.2 b fun e=>ZU ox h1 (by(refine .trans (hd ..)<|?_;rw[e]))).trans hb,fun BD d' e q=>?_,fun b ob hb=>?_⟩)
  ·rw[wQ]at e;obtain rfl:=bE e;exact .inl ⟨_,h1,q⟩
  ·by_cases q:b=dx
   ·subst q;refine ly PQ fun o' YW YX ZV U=>?_;exact⟨o',ZV⟩
   ·exact⟨ob,(hs.2 b q).trans hb⟩
end
end Internal
end
section
open PySem PySem.W PyProof.Rows PySem.Calls PySem.Spec Builtin Builtin.ObjectAttr Builtin.BaseException
namespace Internal
section
variable{prog:Program}{w:PySem.World}{A:Around}{K:Frag}{C P fI x:Addr}{s:Shared}{n:Nat}
theorem Ik(K:Frag):findCls K (.type "Exception") (.type "type") "__init__"=some (.val (.builtin "Exception.__init__")):=by rfl
theorem Eo{M:Model}{A:Around}{E:Value->Shared->Prop}{hp:Heap}{g:Array GenState}{d:Drawn}{t:Nat}{os:OsState}{x:Addr}{tv:Value}{Q:Unit->Shared->Prop}{C:Addr}{ox:Obj}(h1:hp.get? x=some ox)(h2:ox.cls = .ref C){oc:Value}{XI:Option Addr}{cd:ClassData}{sl:_}(hC:hp.get? C=some ⟨oc,XI,.cls cd,sl⟩)(ii:Looks M hp (isInstance (.ref x) (.type "Exception")) true)(hq:Q () ⟨hp,g,d,t,os⟩) :
  wpAny M A (checkBuiltinCall "Exception.__init__" ⟨[.ref x,tv],[]⟩) Q E ⟨hp,g,d,t,os⟩:=by
 have F:=PySem.F.excBase_Exception;simp only[checkBuiltinCall,F.initKind,F.initSplit,F.initRow];refine aL (ii.here ?_);simp only[Bool.not_true,Bool.false_eq_true,if_false];unfold Bind.checkArgs
 repeat (first|with_reducible refine PySem.wpAny_load (s:=⟨hp,g,d,t,os⟩) hC ?_|with_reducible refine PySem.wpAny_loadPart_at hC ?_| (with_reducible refine PySem.wpAny_loadPart_at h1 ?_;rw[h2]) |wp_step)
 exact hq
theorem Ep(M:jv (model prog w) s.heap C)(H:qv C s.heap x n)
  (h:∀h' tk,qv C h' x n->zQ x s.heap h'->Q .none {s with heap:=h',toks:=tk}):wpAny (model prog w) A (PySem.call (.builtin "Exception.__init__") [.ref x,tv]) Q E s:=by
 have F:=PySem.F.excBase_Exception;obtain⟨hp,g,d,t,os⟩:=s;obtain⟨ox,vs,a0,h1,h2,h3,h4,h5,h6⟩:=H;dsimp only at h1 h6 M;obtain⟨od,I⟩:=xL h1 h2 h3 h6;have ii:Looks (model prog w) hp (isInstance (.ref x) (.type "Exception")) true:=I.type.andThen M.exc;obtain⟨oc,XI,cd,sl,hC,e1,e2,e3⟩:=M.obj;refine wpAny_call (codeAny_call_builtin F.init.plain F.initEntry (Eo h1 h2 hC ii ?_))
 repeat (first|with_reducible refine PySem.wpAny_load (s:=⟨hp,g,d,t,os⟩) hC ?_|with_reducible refine PySem.wpAny_loadPart_at hC ?_| (with_reducible refine PySem.wpAny_loadPart_at h1 ?_;rw[h2]) |wp_step)
 have k:=cC (h:=hp) (f7 [tv]);rw[h3];refine aW ?_;rw[h4];refine aW (aL (PySem.wpAny_setField (k _ _ h1) h3 (Array.getElem?_eq_some_iff.mp h4).1 ?_));have wQ:((hp.push (f7 [tv])).update x (Obj.mapFields (·.setIfInBounds 0 (.ref hp.objs.size)))).get? x=some (Obj.mapFields (·.setIfInBounds 0 (.ref hp.objs.size)) ox):=
  Heap.get?_update_self _ (k _ _ h1) (Obj.isFreed_of_fields (Obj.data_mapFields h3 _))
 have kp:∀b o,hp.get? b=some o->b≠x->((hp.push (f7 [tv])).update x (Obj.mapFields (·.setIfInBounds 0 (.ref hp.objs.size)))).get? b=some o:=fun b o e hb=>
  (Heap.get?_update_ne _ _ _ _ hb).trans (k _ _ e)
 have cl:∀f,(Obj.mapFields f ox).cls=ox.cls/\(Obj.mapFields f ox).dict=ox.dict:=fun f=>by
  obtain⟨_,_,dt,_⟩:=ox;dsimp only at h3;subst h3;exact⟨rfl,rfl⟩
 have z:=h ((hp.push (f7 [tv])).update x (Obj.mapFields (·.setIfInBounds 0 (.ref hp.objs.size)))) t
  ⟨_,_,.ref hp.objs.size,wQ,(cl _).1.trans h2,Obj.data_mapFields h3 _,by simp[(Array.getElem?_eq_some_iff.mp h4).1],by simpa using h5,by
   rw[(cl _).2];refine h6.imp id ?_;intro zq;refine K2 zq fun dx mA ns q1 q2 q3 q4=>?_;exact⟨dx,mA,ns,q1,q2,q3.at fun o e=>kp _ _ e q2,q4⟩⟩
  ⟨fun b o e hb U=>kp b o e hb,fun BD d' e q=>by
   rw[wQ]at e;obtain rfl:=bE e;rw[(cl _).2]at q;exact .inl ⟨_,h1,q⟩,fun b o e=>by
   by_cases q:b=x
   ·subst q;exact⟨_,wQ⟩
   ·exact⟨o,kp b o e q⟩⟩
 cases a0 with
 |ref a=>exact PySem.wpAny_letGo (aW z)|_=>exact aW (aW z)
end
structure Lt(B:Heap)(aA:Env)(m:Str->Option Value)(x:Addr)(h:Heap):Prop where
 sb:B.StaysIn h
 ns:h.Ns aA.locals m
 me:aA.locals≠x/\∀ox,h.get? x=some ox->ox.dict≠some aA.locals
 NG:∀b o,B.get? b=some o->b≠x/\∀ox,h.get? x=some ox->ox.dict≠some b
theorem Lt.XJ(H:Lt B aA m x h)(t:zQ x h h'):Lt B aA m x h':=by
 have nn:∀b o,h.get? b=some o->(∀ox,h.get? x=some ox->ox.dict≠some b)->∀ox,h'.get? x=some ox->ox.dict≠some b:=fun b o e n ox e' q=>by
  refine Or.elim (t.dict ox b e' q) (fun ng=>au ng fun ZN e0 q0=>?_) (fun e0=>?_)
  ·exact n _ e0 q0
  ·rw[e]at e0;cases e0
 refine ly H.ns fun o es ep q q'=>?_;exact⟨fun b o e=>t.keep b o (H.sb b o e) (H.NG b o e).1 (H.NG b o e).2,⟨o,es,ep,t.keep _ _ q H.me.1 H.me.2,q'⟩,⟨H.me.1,nn _ _ q H.me.2⟩,fun b o e=>⟨(H.NG b o e).1,nn _ _ (H.sb b o e) (H.NG b o e).2⟩⟩
section
variable{G:GC}{A:Around}{B:Heap}{aA:Env}{sc:Scope}{m:Str->Option Value}{x:Addr}{s:Shared}{n:Nat}{P fI fP:Addr}
theorem nv(E0:cv aA sc)(ns:s.heap.Ns aA.locals m)(hk:sc.names.lookup nm=some .local)(hm:m nm=some w)(hd:(nm==("__debug__":Str))=false)(h:Q w s) :
  wpAny (model G.prog G.w) A (eval (.Name nm pos) aA) Q E s:=
 wpAny_Name (wpAny_loadName_local E0.kind (by unfold Env.kindOf;rw[E0.sc];exact hk) ns hm h) hd
structure RB(K:Frag)(P fP:Addr):Prop where
 ga:specialIn K (.ref P) "__getattribute__"=some (some (.builtin "type.__getattribute__"))
 reads:readsIn K P (.type "type")=true
 init:findCls K (.ref P) (.type "type") "__init__"=some (.val (.ref fP))
 keep:keepIn K (.ref fP)=true
theorem xM(hs:∀x p,e1≠.Starred x p)(iL:∀x p,e2≠.Starred x p)
  (h1:∀(Q:Value->Shared->Prop)(E:Value->Shared->Prop),Q v1 s->wpAny (model G.prog G.w) A (eval e1 aA) Q E s) (h2:∀(Q:Value->Shared->Prop)(E:Value->Shared->Prop),Q v2 s->wpAny (model G.prog G.w) A (eval e2 aA) Q E s) (h:Q [v1,v2] s) :
  wpAny (model G.prog G.w) A (spliced (backTo pos (starEach [e1,e2] aA))) Q E s:=by
 refine args_cons ?_ (bg hs aA);refine h1 _ _ ?_;refine args_cons ?_ (bg iL aA);refine h2 _ _ ?_;exact args_nil h
theorem zT{K:Frag}{pl:Sem Bool}{Q:Value×List Value->Shared->Prop}{E:Value->Shared->Prop}(X:K.In s.heap)(h:Q (.builtin "Exception.__init__",[]) {s with toks:=s.toks+1}):wpAny (model G.prog G.w) A (getMethod (.type "Exception") "__init__" pl) Q E s:=by
 have ht:typeOf (.type "Exception")=pure (.type "type"):=by rfl
 have RD:opaqueClassAbove (.type "Exception")=pure none:=by unfold opaqueClassAbove;dsimp only;rw[show Manifest.isStub "Exception"=false by decide +kernel];rfl
 have L0:Looks (model G.prog G.w) s.heap (typeOf (.type "Exception")) (.type "type"):=Looks.of_pure ht;have hg:findIn K (.type "type") "__getattribute__"=some (some (.builtin "type.__getattribute__")):=type_tga;unfold getMethod specialOf;refine aL (aL (L0.here ((looks_findIn X hg).here ?_)));dsimp only;refine j9 (aO canon_tga ..)<|?_
 refine aL (bJ (Q:=fun v=>Q (v,[])) (E:=E) ?_ (fun U U z=>aW z) fun U U z=>z);have LO:Looks (model G.prog G.w) s.heap (opaqueClassAbove (.type "Exception")) none:=Looks.of_pure RD;refine cls_open X LO L0 hg (looks_hook X (r:=none) (by rfl)) (by show subIn K _ _=_;rfl) (Ik K)
  (aW (by show wpAny _ _ (handedOut _) _ _ _;refine j9 (handedOut_of (by decide +kernel) ..)<|?_;exact aW h))
theorem Er(hi:sc.kind = .function){E:Value->Shared->Prop}(E0:cv aA sc)(bs:Bs G B)(H:Lt B aA m x s.heap)(M:jv (model G.prog G.w) s.heap G.SF)(X:qv G.SF s.heap x n)
  (hg:nsIn G.K mainGlobals "Exception"=some none) (hx:sc.names.lookup (Str.ofString "Exception")=some .globalImplicit) (h1:sc.names.lookup sN=some .local) (h2:sc.names.lookup tN=some .local) (m1:m sN=some (.ref x)) (m2:m tN=some tv)
  (d1:(sN==("__debug__":Str))=false) (d2:(tN==("__debug__":Str))=false) (hp:ap.endLine=cp.line)
  (hs:swapsWith (.Call (.Attribute (.Name "Exception" p1) "__init__" ap) [.Name sN p2,.Name tN p3] [] cp) none sp.line aA=pure false)
  (h:∀h' tk,qv G.SF h' x n->zQ x s.heap h'->Q .next {s with heap:=h',toks:=tk}) :
  wpAny (model G.prog G.w) A (exec (.Expr (.Call (.Attribute (.Name "Exception" p1) "__init__" ap) [.Name sN p2,.Name tN p3] [] cp) sp) aA) Q E s:=by
 have K':=bs.sd H.sb;have T4:noStar [.Name sN p2,.Name tN p3]:=dD (by intro _ _ q;cases q) (dD (by intro _ _ q;cases q) eC)
 refine wpAny_Expr_any ?_ (by unfold interactive;rw[E0.sc,hi];rfl) hs
 refine j9 (kY rfl T4 (by simp) hp ..)<|?_
 refine aL (fX E0 bs H.sb hg (v:=.type "Exception") (by decide +kernel) (by decide +kernel) hx (by decide +kernel) ?_)
 refine aL (de (aL (wpAny_holding (zT (K:=G.K) K' ?_))));refine callWith_meth T4 ?_;refine xM (by intro _ _ q;cases q) (by intro _ _ q;cases q) (fun Q E q=>nv E0 H.ns h1 m1 d1 q) (fun Q E q=>nv E0 H.ns h2 m2 d2 q) ?_
 exact Ep M X fun h' tk X' T=>h h' tk X' T
theorem Es(hi:sc.kind = .function)(E0:cv aA sc)(bs:Bs G B)(H:Lt B aA m x s.heap)(PK:RB G.K P fP)
  (hg:nsIn G.K mainGlobals nP=some (some (.ref P))) (hx:sc.names.lookup nP=some .globalImplicit) (h1:sc.names.lookup sN=some .local) (h2:sc.names.lookup tN=some .local) (m1:m sN=some (.ref x)) (m2:m tN=some tv)
  (d0:(nP==("__debug__":Str))=false) (d1:(sN==("__debug__":Str))=false) (d2:(tN==("__debug__":Str))=false) (hp:ap.endLine=cp.line)
  (hs:swapsWith (.Call (.Attribute (.Name nP p1) "__init__" ap) [.Name sN p2,.Name tN p3] [] cp) none sp.line aA=pure false)
  (h:∀tk,wpAny (model G.prog G.w) A (PySem.call (.ref fP) [.ref x,tv]) (fun U=>Q .next) E {s with toks:=tk}) :
  wpAny (model G.prog G.w) A (exec (.Expr (.Call (.Attribute (.Name nP p1) "__init__" ap) [.Name sN p2,.Name tN p3] [] cp) sp) aA) Q E s:=by
 have K':=bs.sd H.sb;have T4:noStar [.Name sN p2,.Name tN p3]:=dD (by intro _ _ q;cases q) (dD (by intro _ _ q;cases q) eC)
 refine wpAny_Expr_any ?_ (by unfold interactive;rw[E0.sc,hi];rfl) hs
 refine j9 (kY rfl T4 (by simp) hp ..)<|?_
 refine aL (cg E0 bs H.sb hg hx d0 ?_);refine aL (de (aL (wpAny_holding (method_cls (K:=G.K) K' PK.ga (cls_value K' PK.reads PK.init (by rfl) ?_)))))
 refine callWith_K (s:={s with toks:=s.toks+1}) (h₀:=s.heap) K' PK.keep ?_ (bg (by intro _ _ q;cases q) aA) (eD (dD (by intro _ _ q;cases q) eC) cp aA)
 refine xM (s:={s with toks:=s.toks+1}) (by intro _ _ q;cases q) (by intro _ _ q;cases q) (fun Q E q=>nv (s:={s with toks:=s.toks+1}) E0 H.ns h1 m1 d1 q) (fun Q E q=>nv (s:={s with toks:=s.toks+1}) E0 H.ns h2 m2 d2 q) ?_
 exact⟨K',h _⟩
theorem xN(E0:cv aA sc)(bs:Bs G B)(H:Lt B aA m x s.heap)(EK:CX G.K G.SF P fI)(X:qv G.SF s.heap x n)(hz:n<=20)
  (hf:findIn G.K (.ref G.SF) nm=some none) (h1:sc.names.lookup sN=some .local) (h2:sc.names.lookup vN=some .local) (m1:m sN=some (.ref x)) (m2:m vN=some tv)
  (d1:(sN==("__debug__":Str))=false) (d2:(vN==("__debug__":Str))=false)
  (hs:swapsWith (.Name vN p2) (some (.Attribute (.Name sN p1) nm ap)) pos.line aA=pure false) (hw:swappedStores [.Attribute (.Name sN p1) nm ap] (.Name vN p2) aA=pure none)
  (h:∀h' tk,qv G.SF h' x (n+1)->zQ x s.heap h'->Q .next {s with heap:=h',toks:=tk}) :
  wpAny (model G.prog G.w) A (exec (.Assign [.Attribute (.Name sN p1) nm ap] (.Name vN p2) pos) aA) Q E s:=by
 have K':=bs.sd H.sb;refine wpAny_Assign_stores ?_ hs hw;refine nv E0 H.ns h2 m2 d2 ?_;show wpAny _ A (do
  let ov <-holding [tv] (eval (.Name sN p1) aA)
  standAt ap.atName
  holding [tv,ov] (setAttr ov nm tv)
  release [tv,ov] []) _ _ _
 refine aL (wpAny_holding (nv E0 H.ns h1 m1 d1 ?_));refine aL (de (aL (wpAny_holding (Ij K' EK hf X hz fun h' tk X' T=>?_))));exact wpAny_releaseD (h h' tk X' T)
end
end Internal
end
section
open PySem PySem.W PyProof.Rows PySem.Calls PySem.Spec
namespace Internal
inductive Il(sN tN:Str)(body:List Stmt):Prop
 |mk (p1 ap p2 p3 cp sp q1 aq q2 sq:Pos) (h:body=[.Expr (.Call (.Attribute (.Name "Exception" p1) "__init__" ap) [.Name sN p2,.Name tN p3] [] cp) sp,.Assign [.Attribute (.Name sN q1) "text" aq] (.Name tN q2) sq]) (h1:ap.endLine=cp.line) (h2:∀aA,swapsWith (.Call (.Attribute (.Name "Exception" p1) "__init__" ap) [.Name sN p2,.Name tN p3] [] cp) none sp.line aA=pure false) (h3:∀aA,swapsWith (.Name tN q2) (some (.Attribute (.Name sN q1) "text" aq)) sq.line aA=pure false) (h4:∀aA,swappedStores [.Attribute (.Name sN q1) "text" aq] (.Name tN q2) aA=pure none)
structure pn(sc:Scope)(sN tN:Str)(body:List Stmt):Prop where
 kind:sc.kind = .function
 Et:Il sN tN body
 g:sc.names.lookup (Str.ofString "Exception")=some .globalImplicit
 s:sc.names.lookup sN=some .local
 t:sc.names.lookup tN=some .local
 ds:(sN==("__debug__":Str))=false
 dt:(tN==("__debug__":Str))=false
 ne:sN≠tN
section
variable{G:GC}{A:Around}{B:Heap}{l:List Env}{X:Addr->Prop}{V:Mu}{c:aC}{x:Addr}{s:Shared}{n:Nat}{P fI fP:Addr}
noncomputable def T5(B:Heap)(x:Addr)(h:Heap):Prop:=∀b o,B.get? b=some o->b≠x/\∀ox,h.get? x=some ox->ox.dict≠some b
theorem Lt.enter(X:qv C h x n)(f:T5 B x h)(hn:h.get? aA.locals=none)(k:∀b o,h.get? b=some o->h'.get? b=some o)(sb:B.StaysIn h')(ns:h'.Ns aA.locals m):Lt B aA m x h':=by
 obtain⟨ox,vs,a0,h1,h2,h3,h4,h5,h6⟩:=X;have wQ:=k _ _ h1;have un:∀BD,h'.get? x=some BD->BD=ox:=fun BD e=>by rw[wQ]at e;exact(Option.some.inj e).symm
 refine⟨sb,ns,⟨fun e=>?_,fun BD e q=>?_⟩,fun b o e=>⟨(f b o e).1,fun BD e'=>?_⟩⟩
 ·rw[e,h1]at hn;cases hn
 ·rw[un _ e]at q;rcases h6 with q'|⟨dx,mA,ns',q',_,⟨o,_,_,q2,_⟩,_⟩
  ·rw[q']at q;exact ak q
  ·rw[q']at q;obtain rfl:=bE q;rw[hn]at q2;exact ak q2
 ·rw[un _ e'];exact(f b o e).2 ox h1
theorem Eu(Q:iQ G fP F [sN,tN] fd body)(hF:F.np=2)(NH:fd.defaults = .none)(TR:pn fd.scope sN tN body)(hg:nsIn G.K mainGlobals "Exception"=some none)
  (EK:CX G.K G.SF P fI) (EX:excIn G.K G.SF P fI=true) (bs:Bs G B) (S:n3 G A B l s.heap V c) (R:Rel G X s.heap V c) (sX:∀b,X b->B.get? b=none/\b∉bz l) (room:A.depth<recursionLimit) (XN:qv G.SF s.heap x n) (hz:n<=10) (f:T5 B x s.heap)
  (h:∀h' tk,qv G.SF h' x (n+1)->zQ x s.heap h'->Rp (.ok (.ret .none)) {s with heap:=h',toks:=tk}) :
  codeAny (model G.prog G.w) A (.call (.ref fP) ⟨[.ref x,tv],[]⟩) Rp s:=by
 have yn:[sN,tN].take F.np=[sN,tN]:=by rw[hF];rfl
 have P2:=Q.CV;rw[yn]at P2;have hb:BindsTo s fd ⟨[.ref x,tv],[]⟩ (([sN,tN].take F.np).zip [.ref x,tv]):=by
  rw[yn];exact kZ P2 Q.nd NH rfl
 refine mT Q bs S R sX room hb (by rw[hF];rfl) (os:=[none,none]) (by rw[hF];rfl) (fun i v hi=>?_) fun aA s' ym yo keep mm H=>?_
 ·rcases i with _|_|i<;>cases hi
 have m1:=mm sN (.ref x) (by rw[yn];simp) TR.s
 have m2:=mm tN tv (by rw[yn];simp) TR.t
 obtain⟨p1,ap,p2,p3,cp,sp,q1,aq,q2,sq,rfl,xO,w1,w2,w3⟩:=TR.Et;have L0:=Lt.enter (aA:=aA) XN f yo keep H.cw.eW.base H.cw.lo.ns;have X0:=XN.keeps keep;have T0:=zQ.of_keeps keep XN.there;refine c6 H.iz.same fun h0 ZW fu=>?_;subst fu;refine wpAny_execs_cons ?_;refine Er TR.kind H.cb bs L0 (k8 (bs.sd L0.sb) EX) X0 hg TR.g TR.s TR.t m1 m2 TR.ds TR.dt xO (w1 aA) fun h1 EY X1 T1=>?_;have L1:=L0.XJ T1;refine wpAny_execs_cons ?_;refine xN (s:={s with heap:=h1,toks:=EY}) H.cb bs L1 EK X1 (by omega) EK.text TR.s TR.t m1 m2 TR.ds TR.dt (w2 aA) (w3 aA) fun h2 yn X2 T2=>?_
 refine wpAny_execs_nil ?_;exact h h2 yn X2 ((T0.trans T1).trans T2)
end
inductive Im(nP sN lN tN:Str)(body:List Stmt):Prop
 |mk (p1 ap p2 p3 cp sp q1 aq q2 sq:Pos) (h:body=[.Expr (.Call (.Attribute (.Name nP p1) "__init__" ap) [.Name sN p2,.Name tN p3] [] cp) sp,.Assign [.Attribute (.Name sN q1) "line" aq] (.Name lN q2) sq]) (h1:ap.endLine=cp.line) (h2:∀aA,swapsWith (.Call (.Attribute (.Name nP p1) "__init__" ap) [.Name sN p2,.Name tN p3] [] cp) none sp.line aA=pure false) (h3:∀aA,swapsWith (.Name lN q2) (some (.Attribute (.Name sN q1) "line" aq)) sq.line aA=pure false) (h4:∀aA,swappedStores [.Attribute (.Name sN q1) "line" aq] (.Name lN q2) aA=pure none)
structure pq(sc:Scope)(nP sN lN tN:Str)(body:List Stmt):Prop where
 kind:sc.kind = .function
 Et:Im nP sN lN tN body
 g:sc.names.lookup nP=some .globalImplicit
 s:sc.names.lookup sN=some .local
 l:sc.names.lookup lN=some .local
 t:sc.names.lookup tN=some .local
 dp:(nP==("__debug__":Str))=false
 ds:(sN==("__debug__":Str))=false
 dl:(lN==("__debug__":Str))=false
 dt:(tN==("__debug__":Str))=false
inductive Ev(G:GC)(fP:Addr):Prop
 |mk (F:Fn) (sN tN:Str) (fd:FuncData) (body:List Stmt) (h1:iQ G fP F [sN,tN] fd body) (h2:F.np=2) (h3:fd.defaults = .none) (h4:pn fd.scope sN tN body)
inductive Ew(G:GC)(P fI:Addr):Prop
 |mk (F:Fn) (nP sN lN tN:Str) (fd:FuncData) (body:List Stmt) (h1:iQ G fI F [sN,lN,tN] fd body) (h2:F.np=3) (h3:fd.defaults = .none) (h4:pq fd.scope nP sN lN tN body) (h5:nsIn G.K mainGlobals nP=some (some (.ref P)))
structure Faults(G:GC)(P fI fP:Addr):Prop where
 ek:CX G.K G.SF P fI
 ex:excIn G.K G.SF P fI=true
 pk:RB G.K P fP
 gE:nsIn G.K mainGlobals "Exception"=some none
 ZX:Ev G fP
 ZY:Ew G P fI
section
variable{G:GC}{A:Around}{B:Heap}{l:List Env}{X:Addr->Prop}{V:Mu}{c:aC}{x:Addr}{s:Shared}{n:Nat}{P fI fP:Addr}
theorem Ey(FA:Faults G P fI fP)
  (bs:Bs G B) (S:n3 G A B l s.heap V c) (R:Rel G X s.heap V c) (sX:∀b,X b->B.get? b=none/\b∉bz l) (room:A.depth+2<recursionLimit) (XN:qv G.SF s.heap x n) (hz:n<=8) (f:T5 B x s.heap)
  (h:∀h' tk,qv G.SF h' x (n+2)->zQ x s.heap h'->Rp (.ok (.ret .none)) {s with heap:=h',toks:=tk}) :
  codeAny (model G.prog G.w) A (.call (.ref fI) ⟨[.ref x,lv,tv],[]⟩) Rp s:=by
 obtain⟨F,nP,sN,lN,tN,fd,body,Q,hF,NH,TR,ZZ⟩:=FA.ZY;have Kn:[sN,lN,tN].take F.np=[sN,lN,tN]:=by rw[hF];rfl
 have P2:=Q.CV;rw[Kn]at P2;have hb:BindsTo s fd ⟨[.ref x,lv,tv],[]⟩ (([sN,lN,tN].take F.np).zip [.ref x,lv,tv]):=by
  rw[Kn];exact kZ P2 Q.nd NH rfl
 refine mT Q bs S R sX (by omega) hb (by rw[hF];rfl) (os:=[none,none,none]) (by rw[hF];rfl) (fun i v hi=>?_) fun aA s' ym yo keep mm H=>?_
 ·rcases i with _|_|_|i<;>cases hi
 have m1:=mm sN (.ref x) (by rw[Kn];simp) TR.s
 have ml:=mm lN lv (by rw[Kn];simp) TR.l
 have m2:=mm tN tv (by rw[Kn];simp) TR.t
 obtain⟨p1,ap,p2,p3,cp,sp,q1,aq,q2,sq,rfl,xO,w1,w2,w3⟩:=TR.Et;have L0:=Lt.enter (aA:=aA) XN f yo keep H.cw.eW.base H.cw.lo.ns;have X0:=XN.keeps keep;have T0:=zQ.of_keeps keep XN.there;refine c6 H.iz.same fun h0 ZW fu=>?_;subst fu;obtain⟨F',sN',tN',fd',XK,Q',PR,Uw,Z0⟩:=FA.ZX;refine wpAny_execs_cons ?_;refine Es TR.kind H.cb bs L0 FA.pk ZZ TR.g TR.s TR.t m1 m2 TR.dp TR.ds TR.dt xO (w1 aA) fun EY=>?_;refine wpAny_call (Eu (s:={s with heap:=h0,toks:=EY}) (B:=B) (l:=aA::l) (X:=X) (V:=V) (c:=c) Q' PR Uw Z0 FA.gE FA.ek FA.ex bs (n3.around H.cw.eW rfl rfl) H.cw.rel H.cw.xb (by show A.depth+1<_;omega) X0 (by omega) L0.NG fun h1 yn X1 T1=>?_)
 have L1:=L0.XJ T1;refine wpAny_execs_cons ?_;refine xN (s:={s with heap:=h1,toks:=yn}) H.cb bs L1 FA.ek X1 (by omega) FA.ek.line TR.s TR.l m1 ml TR.ds TR.dl (w2 aA) (w3 aA) fun h2 Kn X2 T2=>?_
 refine wpAny_execs_nil ?_;exact h h2 Kn X2 ((T0.trans T1).trans T2)
theorem zU(FA:Faults G P fI fP)
  (bs:Bs G B) (S:n3 G A B l s.heap V c) (R:Rel G X s.heap V c) (sX:∀b,X b->B.get? b=none/\b∉bz l) (room:A.depth+3<recursionLimit)
  (h:∀h' tk x n,s.heap.get? x=none->qv G.SF h' x n->(∀b o,s.heap.get? b=some o->h'.get? b=some o)->Rp (.ok (.ret (.ref x))) {s with heap:=h',toks:=tk}) :
  codeAny (model G.prog G.w) A (.call (.ref G.SF) ⟨[lv,tv],[]⟩) Rp s:=by
 obtain⟨hp,g,d,t,os⟩:=s;have hk:=bs.sd S.base;refine NE (k8 hk FA.ex) (by rw[sizeLine_eq];simp) (looks_findIn hk FA.ek.init) (fun self=>bind_fn hk self FA.ek.fn) ?_
 have k:∀b o,hp.get? b=some o->((hp.push (f7 [lv,tv])).push (gc G.SF hp.objs.size)).get? b=some o:=fun b o e=>fQ _ (fQ _ e);have hx:((hp.push (f7 [lv,tv])).push (gc G.SF hp.objs.size)).get? (hp.objs.size+1)=some (gc G.SF hp.objs.size):=by heap_get
 have XN:qv G.SF ((hp.push (f7 [lv,tv])).push (gc G.SF hp.objs.size)) (hp.objs.size+1) 0:=
  ⟨_,_,_,hx,rfl,rfl,rfl,rfl,.inl rfl⟩
 have fr:hp.get? (hp.objs.size+1)=none:=eX (Nat.le_succ _);have NG:T5 B (hp.objs.size+1) ((hp.push (f7 [lv,tv])).push (gc G.SF hp.objs.size)):=fun b o e=>
  ⟨fun q=>(by have:=S.base b o e;rw[q]at this;dsimp only at this;rw[fr]at this;exact ak this),fun ox e' q=>(by rw[hx]at e';obtain rfl:=bE e';exact ak q)⟩
 have kS:bq (bz l) ⟨hp,g,d,t,os⟩ V c ⟨(hp.push (f7 [lv,tv])).push (gc G.SF hp.objs.size),g,d,t,os⟩ V c:=bq.of_keeps (s:=⟨hp,g,d,t,os⟩) k;have S2:=S.step kS;generalize Hh:A.under (.builtin "type.__call__" ⟨.ref G.SF::[lv,tv],[]⟩)=A';have f1:A'.frames=A.frames:=by rw[<-Hh];rfl
 have f2:A'.handled=A.handled:=by rw[<-Hh];rfl
 have f3:A'.depth=A.depth+1:=by rw[<-Hh];rfl
 refine Ey (s:=⟨_,g,d,t,os⟩) (A:=A') FA bs (S2.around (A':=A') f1 f2) (R.keeps k) sX (by rw[f3];omega) XN (by omega) NG fun h' tk X' T=>?_
 refine⟨rfl,h h' tk _ _ fr X' fun b o e=>T.keep b o (k b o e) (fun q=>?_) fun ox e' q=>?_⟩
 ·rw[q]at e;dsimp only at e;rw[fr]at e;exact ak e
 ·rw[hx]at e';obtain rfl:=bE e';exact ak q
end
set_option backward.match.sparseCases true
theorem CY(hh:A.handled=none)
  (h:wpAny (model prog w) A x (fun v aT=>∃e n,v = .ref e/\jv (model prog w) aT.heap C/\qv C aT.heap e n/\E (.ref e) aT) E s) :
  wpAny (model prog w) A (raiseStmt aA (some x) none) Q E s:=by
 unfold raiseStmt;refine aL (bJ h (fun v aT jp=>?_) fun U U x=>x);obtain⟨e,n,rfl,M,X,hE⟩:=jp;obtain⟨hp,g,d,tk,os⟩:=aT;obtain⟨ox,vs,a0,h1,h2,h3,h4,h5,h6⟩:=X;dsimp only at M h1 h6;obtain⟨od,I⟩:=xL h1 h2 h3 h6;obtain⟨⟨oc,od,cd,sl,hC,e1,e2,e3,rfl⟩,made,base,self,exc,attr,name,c9,call,typ,CW⟩:=M;have ii:Looks (model prog w) hp (isInstance (.ref e) (.type "BaseException")) true:=I.type.andThen c9;have nt:Looks (model prog w) hp (isType (.ref e)) false:=(Looks.ld h1).andThen (Looks.of_pure (by rw[h3]))
 have it:=I.type (M:=model prog w)
 repeat (first|simp only[bne_self_eq_false,Bool.false_eq_true,if_false,Bool.not_true] |lk)
 rw[h3];refine aW ?_;rw[h5];refine aW ?_;refine j9 (aV (by decide) ..)<|?_
 exact aW (wpAny_raiseNew_none hh hE)
set_option backward.match.sparseCases false
section
variable{G:GC}{T:Tb}{W:dP}{D lf:Nat}{A:Around}{B:Heap}{l:List Env}{X:Addr->Prop}{s:Shared}{V:Mu}{c:aC}{sc:Scope}{aB:List Str}
theorem qw:Heap.ExtBut a h (h.hide a):=fun b o ne e=>(Heap.hide_ne h ne).trans e
theorem Rel.hide:∀{as:List Addr}{h:Heap},Rel G X h V c->(∀a∈as,(h.get? a=none\/lR h a)/\¬LX X V c a)->Rel G X (hideAll h as) V c
 |[],U,R,bG=>R|a::r,h,R,H=>by
  obtain⟨h1,h2⟩:=H a (.head _);have R':Rel G X (h.hide a) V c:=by
   rcases h1 with h1|h1
   ·refine R.keeps fun b o e=>?_;exact qw b o (by rintro rfl;rw[h1]at e;exact ak e) e
   ·exact R.but qw h1 h2
  refine Rel.hide (as:=r) R' fun b hb=>⟨?_,(H b (.tail _ hb)).2⟩
  by_cases q:b=a
  ·exact .inl (by rw[q];exact Heap.hide_self h a)
  ·refine Or.elim ((H b (.tail _ hb)).1) (fun z=>?_) (fun qV=>au qV fun o e z=>?_)
   ·exact .inl ((Heap.hide_ne h q).trans z)
   ·exact .inr ⟨o,qw b o q e,z⟩
theorem xP{α:Type}{n:Nat}{o:aD α}(hC:C=G.SF)(ho:o = .exc true c')(k:bq (bz l) aZ aP aI aT bT c')(S:n3 G A B l aT.heap bT c')(R:Rel G X aT.heap bT c')(sX:∀b,X b->B.get? b=none/\b∉bz l)
  (XN:qv C aT.heap e n) (hn:aZ.heap.get? e=none) (hl :¬LX X bT c' e):Exc G X l aZ aP aI o (.ref e) aT:=by
 subst hC;obtain⟨oe,vs,a0,h1,h2,h3,h4,h5,_⟩:=XN;have Ux:lR aT.heap e:=.fields h1 h3;have dq:∀b o,aZ.heap.get? b=some o->b∉bz l->b∉e::bz l:=fun b o e' hb hm=>by
  rcases b8.mp hm with rfl|hm
  ·rw[hn]at e';exact ak e'
  ·exact hb hm
 refine⟨true,c',bT,e,ho,rfl,k,hideAll aT.heap (e::bz l),⟨fun b o q=>of_hideAll _ q,hideAll_none _ (.head _),?_,oe,vs,a0,h1,h2,h3,h5,h4⟩,?_,fun b o q Z6 hf=>?_,fun b o q hf=>?_⟩
 ·exact funFrames_hide S.jm fun aA he a ha=>.tail _ (List.mem_filterMap.mpr ⟨aA,he,ha⟩)
 ·refine R.hide fun a ha=>?_;rcases b8.mp ha with rfl|ha
  ·exact⟨.inr Ux,hl⟩
  ·exact⟨.inr (S.odd a ha),fun q=>q.elim (fun q=>(sX a q).2 ha) (S.nl a ha)⟩
 ·exact hideAll_get _ ((k.ext b o q Z6).1 hf) (dq b o q hf)
 ·obtain⟨o',e'⟩:=k.there b o q;exact⟨o',hideAll_get _ e' (dq b o q hf)⟩
end
inductive Io(G:GC)(T:Tb)(h:Nat)(sc:Scope)(rN tN:Str)(body:List Stmt):Prop
 |mk (nS nH:Str) (fH:Addr) (p1 p2 p3 p4 p5 p6 p7:Pos) (h1:body=[.Return (some (.Call (.Name nS p1) [.Call (.Name nH p2) [.Name rN p3] [] p4,.Name tN p5] [] p6)) p7]) (h2:T.fns[h]?=some (nH,fH)) (h3:sc.names.lookup nS=some .globalImplicit) (h4:sc.names.lookup nH=some .globalImplicit) (h5:(nS==("__debug__":Str))=false) (h6:(nH==("__debug__":Str))=false) (h7:nsIn G.K mainGlobals nS=some (some (.ref G.SF)))
structure ur(G:GC)(T:Tb)(h:Nat)(sc:Scope)(rN tN:Str)(body:List Stmt):Prop where
 Et:Io G T h sc rN tN body
 dr:(rN==("__debug__":Str))=false/\(rN==("__classdict__":Str))=false
 dt:(tN==("__debug__":Str))=false/\(tN==("__classdict__":Str))=false
 keep:keepIn G.K (.ref G.SF)=true
section
variable{G:GC}{T:Tb}{W:dP}{D lf:Nat}{A:Around}{B:Heap}{l:List Env}{X:Addr->Prop}{s:Shared}{V:Mu}{c:aC}{sc:Scope}{aB:List Str}{P fI fP:Addr}
theorem xQ(FA:Faults G P fI fP)(aG:Wd G T W D){h:Nat}(Q:iQ G fR F [rN,tN] fd body)(hF:F.np=2)(NH:fd.defaults = .none)(TR:ur G T h fd.scope rN tN body)
  (bs:Bs G B) (S:n3 G A B l s.heap V c) (R:Rel G X s.heap V c) (sX:∀b,X b->B.get? b=none/\b∉bz l) (hD:4<=D) (r:eL A (D+1)) (hv:cN s.heap (LX X V c) V [rv,tv] [ra,ta]) {i:Int} (hc:W.call h [ra] c = .ok (.int i) c') :
  codeAny (model G.prog G.w) A (.call (.ref fR) ⟨[rv,tv],[]⟩) (fun r s'=>match r with
   |.ok (.ret v)=>∃e n bT,v = .ref e/\bq (bz l) s V c s' bT c'/\Rel G X s'.heap bT c'/\qv G.SF s'.heap e n/\s.heap.get? e=none/\¬LX X bT c' e|.ok U=>False|.error U=>False) s:=by
 have yn:[rN,tN].take F.np=[rN,tN]:=by rw[hF];rfl
 have P2:=Q.CV;rw[yn]at P2;have hb:BindsTo s fd ⟨[rv,tv],[]⟩ (([rN,tN].take F.np).zip [rv,tv]):=by
  rw[yn];exact kZ P2 Q.nd NH rfl
 refine mT Q bs S R sX (by have:=r.1;omega) hb (by rw[hF];rfl) (os:=[some ra,some ta]) (by rw[hF];rfl) (fun i v hi=>?_) fun aA s' ym yo keep mm H=>?_
 ·rcases i with _|_|i<;>cases hi
  ·obtain⟨w,q1,q2⟩:=hv.get (i:=0) rfl;exact⟨w,q1,q2⟩
  ·obtain⟨w,q1,q2⟩:=hv.get (i:=1) rfl;exact⟨w,q1,q2⟩
 obtain⟨nS,nH,fH,p1,p2,p3,p4,p5,p6,p7,rfl,hf,x1,x2,d1,d2,hg⟩:=TR.Et;have r':eL (A.deeper aA) D:=r.nW;have l0:∀c,ev W ([some ra,some ta]++List.replicate (F.nl-F.np) none) (.loc 0) c = .ok ra c:=fun c=>by refine .trans (cM ..)<|?_;rfl
 have l1:∀c,ev W ([some ra,some ta]++List.replicate (F.nl-F.np) none) (.loc 1) c = .ok ta c:=fun c=>by refine .trans (cM ..)<|?_;rfl
 have e0:eV W ([some ra,some ta]++List.replicate (F.nl-F.np) none) [.call h [.loc 0],.loc 1] c = .ok [.int i,ta] c':=by
  have a0:eV W ([some ra,some ta]++List.replicate (F.nl-F.np) none) [.loc 0] c = .ok [ra] c:=by
   refine .trans (bY ..)<|.trans (ao (l0 c) ..)<|.trans (dc (cI ..))<|?_;rfl
  have a1:ev W ([some ra,some ta]++List.replicate (F.nl-F.np) none) (.call h [.loc 0]) c = .ok (.int i) c':=by
   refine .trans (fL ..)<|.trans (ao a0 ..)<|?_;exact hc
  have a2:eV W ([some ra,some ta]++List.replicate (F.nl-F.np) none) [.loc 1] c' = .ok [ta] c':=by
   refine .trans (bY ..)<|.trans (ao (l1 c') ..)<|.trans (dc (cI ..))<|?_;rfl
  exact .trans (bY ..)<|.trans (ao a1 ..)<|(ao a2 ..)
 have Z7:noStar [.Name tN p5]:=dD (by intro _ _ q;cases q) eC
 have EV:on G T W (A.deeper aA) B (aA::l) fd.scope [rN,tN] [.call h [.loc 0],.loc 1] [.Call (.Name nH p2) [.Name rN p3] [] p4,.Name tN p5]:=
  mM (bg (by intro _ _ q;cases q)) (Ao r' aG hf x2 d2 (by intro _ _ q;cases q) eC (mM (bg (by intro _ _ q;cases q)) (uc rfl TR.dr.1 TR.dr.2) ue))
   (mM (bg (by intro _ _ q;cases q)) (uc rfl TR.dt.1 TR.dt.2) ue)
 have K':=bs.sd H.cw.eW.base;refine wpAny_execs_cons ?_;refine wpAny_Return_some ?_;refine Call_ (cg H.cb bs H.cw.eW.base hg x1 d1 ?_) rfl;refine callWith_K (h₀:=s'.heap) K' TR.keep ?_ (bg (by intro _ _ q;cases q) aA) (eD Z7 p6 aA)
 refine bJ (EV X aA _ _ s' V c p6 H.cb H.cw (by rw[e0];intro q;cases q)) ?_ fun e bI x=>(Exc.absurd e0 x).elim
 rintro vs aT ⟨xs,c1,Ig,e1,k1,R1,V1⟩;rw[e0]at e1;induction jj e1;induction V1.two with|mk lv tv' V2 V3=>?_
 have H1:=H.cw.step k1 R1;refine⟨bs.sd H1.eW.base,?_⟩;refine wpAny_call (zU (A:=A.deeper aA) FA bs H1.eW R1 H1.xb (by have:=r.1;show A.depth+1+3<_;omega) fun h' tk x n fx XN kp=>?_)
 have kS:bq (bz (aA::l)) aT Ig c' {aT with heap:=h',toks:=tk} Ig c':=bq.of_keeps kp
 have fr:bz (aA::l)=aA.locals::bz l:=by simp[bz,ym]
 have kk:=(H.iz.trans k1).trans kS;rw[fr]at kk;refine⟨x,n,Ig,rfl,kk.inner yo,R1.keeps kp,XN,?_,R1.fresh fx⟩;cases q:s.heap.get? x with
 |none=>rfl|some o=>
  refine((H.iz.trans k1).there x o q).elim fun o' e'=>?_;rw[fx]at e';exact ak e'
end
inductive Kr(G:GC)(T:Tb)(h:Nat)(fR:Addr):Prop
 |mk (F:Fn) (rN tN:Str) (fd:FuncData) (body:List Stmt) (h1:iQ G fR F [rN,tN] fd body) (h2:F.np=2) (h3:fd.defaults = .none) (h4:ur G T h fd.scope rN tN body)
structure Ez(G:GC)(T:Tb)(h:Nat)(fR:Addr):Prop where
 fn:Kr G T h fR
 keep:keepIn G.K (.ref fR)=true
section
variable{G:GC}{T:Tb}{W:dP}{D lf:Nat}{A:Around}{B:Heap}{l:List Env}{sc:Scope}{aB:List Str}{P fI fP:Addr}
theorem FB(FA:Faults G P fI fP)(aG:Wd G T W D){h:Nat}(RR:Ez G T h fR)(hD:4<=D)(r:eL A (D+1))(hx:sc.names.lookup nR=some .globalImplicit)(hd:(nR==("__debug__":Str))=false)
  (hg:nsIn G.K mainGlobals nR=some (some (.ref fR))) (hs:∀x p,pe≠.Starred x p) (wo:noStar pr) (h0:on G T W A B l sc aB es (pe::pr)) :
  oq G T W lf A B l sc aB (.raise h es) (.Raise (some (.Call (.Name nR np) (pe::pr) [] cp)) none pos):=fun X aA cL m J aZ aP aI s V c H aK=>by
 rw[Kd]at aK⊢;refine j9 (arm_exec_Raise ..)<|?_
 refine aL (de ?_);refine CY (C:=G.SF) H.cw.eW.handled ?_;refine aL ?_;refine Call_ (cg H.cb H.cw.bs H.cw.eW.base hg hx hd ?_) rfl;refine callWith_K (h₀:=s.heap) (H.cw.bs.sd H.cw.eW.base) RR.keep ?_ (bg hs aA) (eD wo cp aA);refine dq H.iz (h0 X aA m J s V c cp H.cb H.cw (aQ aK)) bC fun vs aT x a8 aR e k k1 R hx=>?_;rw[ao e]at aK⊢;have H1:=H.cw.step k1 R;refine⟨H.cw.bs.sd H1.eW.base,?_⟩;obtain⟨ra,t,rfl⟩:∃ra t,x=[ra,.str t]:=by
  rcases x with _|⟨ra,_|⟨ta,_|⟨x3,x4⟩⟩⟩
  ·exact aX rfl aK
  ·exact aX rfl aK
  ·cases ta<;>first|exact aX rfl aK|exact⟨_,_,rfl⟩
  ·cases ta<;>exact aX rfl aK
 induction hx.two with|mk rv tv V1 V2=>?_;dsimp only at aK⊢
 obtain⟨i,c',hc⟩:∃i c',W.call h [ra] a8 = .ok (.int i) c':=by
  cases hw:W.call h [ra] a8 with
  |ok v c'=>
   rw[hw]at aK;cases v<;>first|exact aX rfl aK|exact⟨_,_,rfl⟩
  |exc m c'=>rw[hw]at aK;exact aX rfl aK|fail=>rw[hw]at aK;exact aX rfl aK
 rw[hc];obtain⟨F,rN,tN,fd,body,Q,hF,NH,TR⟩:=RR.fn;refine wpAny_call (codeAny_mono (xQ FA aG Q hF NH TR H.cw.bs H1.eW R H1.xb hD r hx hc) fun q bI z=>?_);rcases q with q|q
 ·exact z.elim
 cases q with
 |ret v=>
  refine Ph z fun e n bT fu k2 R2 XN hn hl=>?_;subst fu;refine aL (de (aW ?_));have H2:=H1.step k2 R2;refine⟨e,n,rfl,k8 (H.cw.bs.sd H2.eW.base) FA.ex,XN,xP rfl rfl (k.trans k2) H2.eW R2 H2.xb XN ?_ hl⟩;cases q:aZ.heap.get? e with
  |none=>rfl|some o=>
   obtain⟨o',e'⟩:=k.there e o q;rw[hn]at e';exact ak e'
 |_=>exact z
end
theorem xR(M:jv (model prog w) s.heap C)(he:s.heap.get? e=some oe)(hc:oe.cls = .ref C)
  (hq:Q true s):wpAny (model prog w) A (excMatches (.ref e) (.ref C)) Q E s:=by
 obtain⟨hp,g,d,tk,os⟩:=s;dsimp only at M he;obtain⟨⟨oc,od,cd,sl,hC,e1,e2,e3,rfl⟩,made,base,self,exc,attr,name,c9,call,typ,CW⟩:=M;have nt:Looks (model prog w) hp (isInstance (.ref C) (.type "tuple")) false:=((Looks.ld (part:=some headPart) hC).andThen .now).andThen (Looks.of_pure tc_notTuple);have te:Looks (model prog w) hp (typeOf (.ref e)) (.ref C):=(Looks.ld (part:=some headPart) he).andThen (Looks.of_pure (by rw[hc]))
 have xc:Looks (model prog w) hp (isExcClass (.ref C)) true:=CW.andThen c9;unfold excMatches
 repeat (first|simp only[List.forIn_cons,List.forIn_nil,Bool.false_eq_true,if_false,Bool.not_true] |lk)
 exact hq
section
variable{G:GC}{T:Tb}{W:dP}{D lf:Nat}{A:Around}{B:Heap}{l:List Env}{sc:Scope}{aB:List Str}{P fI fP:Addr}
theorem zV(FA:Faults G P fI fP){CM:Nat}(E0:cv aA sc)(bs:Bs G B)(hB:∀h',BB.StaysIn h'->B.StaysIn h')
  (hx:sc.names.lookup nS=some .globalImplicit) (hd:(nS==("__debug__":Str))=false) (hg:nsIn G.K mainGlobals nS=some (some (.ref G.SF))) (fl:Heap.FlyingW BB l e (.ref G.SF) a0 s.heap)
  (h:∀h',BB.StaysIn h'->s.heap.UpToSlots h'->Q (.ret .none) {s with heap:=h'}) :
  wpAny (model G.prog G.w) A (handleBy (.ref e) aA [.ExceptHandler (some (.Name nS p1)) none [.Return (some (.Constant .none CM p2)) p3] p4]) Q E s:=by
 have K':=bs.sd (hB _ fl.1);refine au fl.there fun ob Z8 Uy=>?_;refine wpAny_handleBy_cons (codeAny_handlers_test (cg E0 bs (hB _ fl.1) hg hx hd ?_)) (by intro q;cases q)
 refine xR (k8 K' FA.ex) Z8 Uy (codeAny_handlers_suite ?_);refine lands_againW fl fun RE NI NJ=>?_;refine wpAny_execs_cons (wpAny_Return_some ?_);exact aW (h RE NI.1 NJ)
theorem NK(FA:Faults G P fI fP){CM:Nat}(hx:sc.names.lookup nS=some .globalImplicit)(hd:(nS==("__debug__":Str))=false)(hg:nsIn G.K mainGlobals nS=some (some (.ref G.SF)))
  (hb:nr G T W lf A B l sc aB b pb):oq G T W lf A B l sc aB (.uW b) (.Try pb [.ExceptHandler (some (.Name nS p1)) none [.Return (some (.Constant .none CM p2)) p3] p4] [] [] pos):=fun X aA cL m J aZ aP aI s V c H aK=>by
 rw[Du]at aK⊢;generalize hO:dR W lf b J c=O at aK⊢;have Z9:dR W lf b J c≠.fail:=by rw[hO];rintro rfl;exact aK rfl
 refine wpAny_Try_except ?_;refine bJ (hb X aA cL m J aZ aP aI s V c H Z9) ?_ ?_
 ·rintro f aT ⟨fl,c',bT,e,q⟩;rw[hO]at e;subst e;cases fl with
  |nx aE=>
   obtain⟨rfl,m',H'⟩:=q;exact wpAny_execs_nil ⟨_,_,_,rfl,rfl,m',H'⟩
  |bk aE=>
   obtain⟨rfl,m',H'⟩:=q;exact⟨_,_,_,rfl,rfl,m',H'⟩
  |rt v=>
   obtain⟨w,rfl,q1,q2,q3⟩:=q;exact⟨_,_,_,rfl,w,rfl,q1,q2,q3⟩
 ·rintro e aT ⟨mm,c',bT,ea,h1,rfl,k,BB,fl,R,b6,b7⟩;rw[hO]at h1;subst h1;cases mm with
  |true=>exact aX rfl aK|false=>
   refine au H.top fun outer hl hf=>?_;have hA:=H.cw.eW.frames;have hB:∀h',BB.StaysIn h'->B.StaysIn h':=fun h' st b o e=>st b o (b6 b o (H.kz.1 b o e) (fun q=>by rw[H.kz.2 b q]at e;exact ak e) (fun q=>by rw[(H.cw.eW.jm.mem q).1]at e;exact ak e))
   have fin:∀{qY sg:Heap}{a0:Value},aT.heap.UpToSlots qY->qY.UpToSlots sg->Heap.FlyingW BB l ea (.ref G.SF) a0 sg->
     wpAny (model G.prog G.w) A (handleBy (.ref ea) aA [.ExceptHandler (some (.Name nS p1)) none [.Return (some (.Constant .none CM p2)) p3] p4]) (Mk G A B l X aA sc aB cL aZ aP aI (.ok (.rt .none) c')) (Exc G X l aZ aP aI (aD.ok (Fl.rt .none) c')) {aT with heap:=sg}:=by
    intro qY sg a0 u1 u2 fy;refine zV (s:={aT with heap:=sg}) FA H.cb H.cw.bs hB hx hd hg fy fun RE st u=>?_
    exact⟨_,c',bT,rfl,.none,rfl,qo (s':=aT) k fl b6 b7 st ((u1.trans u2).trans u),R.keeps st,.none⟩
   refine Or.elim (id fl) (fun ng=>ng.elim fun a0 fy=>?_) (fun qV=>A8 qV fun Qi Ea L a0 e1 e2 hh=>?_)
   ·subst hl;refine wpAny_looks_onW hA hf fy fun h' hh u1=>?_;exact wpAny_landsW hh fun ik fy u2=>fin u1 u2 fy
   ·rw[hl]at e1;cases e1;rw[hf]at e2;obtain rfl:=bE e2;refine wpAny_noteFrame_againW hf hh.2.2.2 ?_;exact wpAny_landsW hh fun ik fy u2=>fin (.refl _) u2 fy
end
structure Ck where
 T:Tb
 dct:Nat
noncomputable def th(sc:Scope)(nm:Str):Bool:=decide (sc.names.lookup nm=some .globalImplicit)&&!(nm==("__debug__":Str))
noncomputable def oZ(e:Expr):Bool:=e.ctorIdx !=7
noncomputable def mU(e:Expr):Bool:=e.ctorIdx !=26
noncomputable def iA(scope:Scope):List Str:=scope.names.filterMap fun(n,k)=>if k == .free then some n else none
noncomputable def ownOf(scope:Scope):List Str:=scope.names.filterMap fun(n,k)=>if k == .local&&!(n==Str.ofString ".0") then some n else none
noncomputable def FC(sc:Scope)(aB:List Str)(scope:Scope)(gM:List Nat):Prop:=
 scope.kind = .function/\(∀x∈scope.names,x.2≠.cell)/\(∀x∈scope.names,x.2 = .local->scope.names.lookup x.1=some .local)/\
 (∀x∈scope.names,x.2 = .free->sc.names.lookup x.1=some .cell\/sc.names.lookup x.1=some .free)/\gM.length=(iA scope).length/\
 (∀x∈gM.zip (iA scope),aB[x.1]?=some x.2/\(x.2,NameKind.free)∈scope.names/\((bD scope sc).names.lookup x.2=some .cell\/(bD scope sc).names.lookup x.2=some .free))/\
 (∀x∈(bD scope sc).names,(x.2 = .cell\/x.2 = .free)->(x.1,NameKind.free)∈scope.names)/\(iA scope++ownOf scope).Nodup
noncomputable def BF(sc:Scope)(aB:List Str)(scope:Scope)(gM:List Nat):Decidable (FC sc aB scope gM):=by unfold FC;infer_instance
noncomputable def pu(sc:Scope)(aB:List Str)(scope:Scope)(gM:List Nat):Bool:=@decide (FC sc aB scope gM) (BF ..)
theorem dE{α:Type}:∀{l:List (Str×α)}{n:Str}{a:α},l.lookup n=some a->(n,a)∈l
 |(m,b)::r,n,a,h=>by
  rw[List.lookup_cons]at h
  by_cases q:n=m
  ·subst q;simp at h;subst h;exact .head _
  ·rw[show(n==m)=false from by simpa using q]at h
   exact .tail _ (dE h)
theorem ti(h:pu sc aB scope gM=true):ui sc aB scope gM (iA scope) (ownOf scope):=
 have h:=@of_decide_eq_true _ (BF ..) h;have r:=h.2.2.2.2
 ⟨h.1,h.2.1,h.2.2.1,h.2.2.2.1,fun i x hi=>by
  have oX:i<(iA scope).length:=r.1▸(dg.mp hi).1;have hm:=r.2.1 (x,(iA scope)[i]) (eN (i:=i) (List.getElem?_zip_eq_some.mpr ⟨hi,List.getElem?_eq_getElem oX⟩));exact⟨(iA scope)[i],hm.1,List.getElem?_eq_getElem oX,hm.2.1,hm.2.2⟩,r.1,fun nm CQ=>CQ.elim (fun e=>r.2.2.1 _ (dE e) (.inl rfl)) (fun e=>r.2.2.1 _ (dE e) (.inr rfl)),r.2.2.2⟩
theorem df(h:th sc nm=true):sc.names.lookup nm=some .globalImplicit/\(nm==("__debug__":Str))=false:=by
 unfold th at h;simpa using h
theorem map_fst{α Z:Type}{o:Option (α×Z)}{a:α}(h:o.map (·.1)=some a):∃b,o=some (a,b):=by
 cases o with
 |none=>exact ak h|some p=>obtain⟨x,y⟩:=p;obtain rfl:=bE h;exact⟨y,rfl⟩
theorem zW(h:mU pi=true):∀a b p,pi≠.Slice a b none p:=by
 rintro a b p rfl;exact eK h
theorem RF{α:Type}(h:oZ iter=true)(F:List Expr->Nat->Pos->α)(g:Expr->α):PySem.foldedSetIterable.match_3 (fun _=>α) iter F g=g iter:=by
 revert h;cases iter<;>first|exact fun _=>Eq.refl (g _) |exact fun h=>eK h
theorem mV(h:oZ iter=true):∀aA x,foldedSetIterable iter aA x=pure x:=fun aA x=>RF h _ _
structure Uz(G:GC)(T:Tb)(W:dP)(dct:Nat):Prop where
 data:∀(g:Nat) nm v,T.wk[g]?=some (nm,v)->g≠dct->∀B,Bs G B->VR B (fun _=>False) [] v (W.gl g)
 dict:∀nm v,T.wk[dct]?=some (nm,v)->∀B,Bs G B->∃l a,W.gl dct = .tup l/\v = .ref a/\∀A E s x t b (Q:Value->Shared->Prop),B.StaysIn s.heap->fp (.str x) l=some b->
  (∀tk,Q (.bool b) {s with toks:=tk})->wpAny (model G.prog G.w) A (compareOp .In (.str ⟨x.toArray⟩ t) v) Q E s
noncomputable def ot(pe:Expr):Option Scope:=PySem.swapsWith.match_1 (fun _=>Option Scope) pe (fun _ _ s _=>some s) (fun _ _ s _=>some s) (fun _ _ _ s _=>some s) fun _=>none
noncomputable def pv(pe:Expr):Bool:=(ot pe).isNone
theorem nz(h:pv pe=true)(t:Option Expr)(n:Nat)(aA:Env):swapsWith pe t n aA=pure false:=by
 show PySem.swapsWith.match_6 _ (ot pe) _ _=_;unfold pv at h;generalize ot pe=o at h⊢;cases o with
 |none=>rfl|some s=>exact eK h
noncomputable def qx(sc:Scope)(nm:Str)(np:Pos)(pe:Expr):Bool:=(ot pe).any fun scope=>np.line==pe.pos.line&&!(scope.names.any fun(n,k)=>n==nm&&(k == .local||k == .cell))
theorem qy{n:Nat}(hk:sc.kind = .function)(hl:sc.names.lookup nm=some .local)(h:qx sc nm np pe=true)(aA:Env)(E0:cv aA sc):swapsWith pe (some (.Name nm np)) n aA=pure true:=by
 show PySem.swapsWith.match_6 _ (ot pe) _ _=_;unfold qx at h;generalize ot pe=o at h⊢;cases o with
 |none=>exact eK h|some scope=>
  have e1:(aA.blockKind==ScopeKind.function)=true:=by
   unfold Env.blockKind;rw[E0.sc,hk];rfl
  have e2:(aA.kindOf nm==some NameKind.local)=true:=by
   unfold Env.kindOf;rw[E0.sc,hl];rfl
  have h':=Bool.and_eq_true_iff.1 h;show(pure (aA.blockKind == .function&&aA.kindOf nm==some .local&&np.line==pe.pos.line&&!(scope.names.any fun(n,k)=>n==nm&&(k == .local||k == .cell))):Sem Bool)=pure true
  rw[e1,e2,h'.1,h'.2];rfl
theorem RG{α:Type}(h:mU pi=true)(F:Option Expr->Option Expr->Pos->α)(g:Expr->α):PySem.augStore.match_1 (fun _=>α) pi F g=g pi:=by
 revert h;cases pi<;>first|exact fun _=>Eq.refl (g _) |exact fun h=>eK h
theorem us(h:mU pi=true)(ov iv new:Value):augStore pi ov iv new=(do holding [new,ov,iv] (setItem ov iv new);release [new,ov,iv] [];pure .next):=RG h _ _
noncomputable def notStar(e:Expr):Bool:=e.ctorIdx !=22
theorem dL(h:notStar pe=true):∀x p,pe≠.Starred x p:=by
 rintro x p rfl;exact eK h
noncomputable def xS(vs:List Expr):Bool:=vs.all (foldedForSure 8)
noncomputable def RH(x:Expr):Bool:=PySem.swappedStores.match_5 (fun _=>Bool) x (fun _ _=>true) fun _=>false
noncomputable def T6(aA:Env)(line:Nat)(x:Expr):Option Str:=PySem.swappedStores.match_8 (fun _=>Option Str) x (fun id pos=>if aA.kindOf id==some .local&&pos.line==line then some id else none) fun _=>none
theorem qz(ts vs:List Expr)(k k':Nat)(p p':Pos)(aA:Env):swappedStores [.Tuple ts k p] (.Tuple vs k' p') aA =
 if(!(ts.length==2||ts.length==3)||vs.length !=ts.length||aA.blockKind != .function)=true then pure none else
 if vs.any RH=true then pure none else
 let aB:=ts.filterMap (T6 aA ((ts.head?.map (·.pos.line)).getD 0))
 if(aB.length !=ts.length||aB.eraseDups.length !=aB.length)=true then pure none else
 if vs.all (foldedForSure 8)=true then pure none else
 if vs.all (constantsAlone 8)=true then unsupported "assign.tuple-of-constant-expressions:order-of-the-stores" else
 pure (some aB):=rfl
theorem sj{k k':Nat}(h:xS vs=true)(aA:Env):swappedStores [.Tuple ts k p] (.Tuple vs k' p') aA=pure none:=by
 refine .trans (qz ..)<|?_
 by_cases h1:(!(ts.length==2||ts.length==3)||vs.length !=ts.length||aA.blockKind != .function)=true
 ·exact aO h1
 ·refine(aV h1).trans ?_
  by_cases h0:vs.any RH=true
  ·exact aO h0
  ·refine(aV h0).trans ?_;generalize ts.filterMap (T6 aA ((ts.head?.map (·.pos.line)).getD 0))=nm
   by_cases h2:(nm.length !=ts.length||nm.eraseDups.length !=nm.length)=true
   ·exact aO h2
   ·exact(aV h2).trans (aO h)
theorem gu:∀{pr:List Expr},pr.all notStar=true->noStar pr
 |[],_=>eC|_::_,h=>by
  rw[List.all_cons,be]at h;exact dD (dL h.1) (gu h.2)
theorem xT{k k':Nat}(h2:px.line=py.line)(h3:nx≠ny)(c2:[v1,v2].any RH=false)(h6:xS [v1,v2]=false)(h7:[v1,v2].all (constantsAlone 8)=false)(hk:sc.kind = .function)(hx:sc.names.lookup nx=some .local)(hy:sc.names.lookup ny=some .local)(aA:Env)(E0:cv aA sc) :
  swappedStores [.Tuple [.Name nx px,.Name ny py] k p] (.Tuple [v1,v2] k' p') aA=pure (some [nx,ny]):=by
 have nt:∀{b:Bool},b=false->¬b=true:=fun e q=>Bool.false_ne_true (e.symm.trans q);have e1:aA.blockKind=ScopeKind.function:=by
  unfold Env.blockKind;rw[E0.sc,hk];rfl
 have kx:∀{n:Str}{p:Pos},sc.names.lookup n=some .local->p.line=px.line->T6 aA px.line (.Name n p)=some n:=fun{n p} h q=>aO (by
  have e2:aA.kindOf n=some NameKind.local:=by unfold Env.kindOf;rw[E0.sc,h]
  show(aA.kindOf n==some NameKind.local&&p.line==px.line)=true;rw[e2,q];exact beq_self_eq_true px.line)
 have en:[Expr.Name nx px,.Name ny py].filterMap (T6 aA (([Expr.Name nx px,.Name ny py].head?.map (·.pos.line)).getD 0))=[nx,ny]:=
  (List.filterMap_cons_some (kx hx rfl)).trans (aY _ ((List.filterMap_cons_some (kx hy h2.symm)).trans (aY _ List.filterMap_nil)))
 have ed:([nx,ny]:List Str).eraseDups.length=2:=by
  rw[List.eraseDups_cons];simp[Ne.symm h3,List.eraseDups_cons]
 refine .trans (qz ..)<|(aV (by rw[e1];exact Bool.false_ne_true)).trans ((aV (nt c2)).trans ?_)
 dsimp only;rw[en];exact(aV (by rw[ed];exact Bool.false_ne_true)).trans ((aV (nt h6)).trans (aV (nt h7)))
noncomputable def Ip(ts:List Expr)(pe:Expr):Option (List Expr×List Expr):=PySem.swappedStores.match_1 (fun _ _=>Option (List Expr×List Expr)) ts pe (fun ts _ _ vs _ _=>some (ts,vs)) (fun ts _ vs _ _=>some (ts,vs)) fun _ _=>none
theorem o0(h:(Ip ts pe).isNone=true)(aA:Env):swappedStores ts pe aA=pure none:=by
 show PySem.swappedStores.match_10 _ (Ip ts pe) _ _=_;generalize Ip ts pe=o at h⊢;cases o with
 |none=>rfl|some s=>exact eK h
theorem zX(k:Nat)(aA:Env):swapsWith pe (some (.Attribute po n p)) k aA=pure false:=by
 show PySem.swapsWith.match_6 _ (ot pe) _ _=_;generalize ot pe=o;cases o<;>rfl
theorem CZ(k:Nat)(aA:Env):swapsWith pe (some (.Subscript po pi p)) k aA=pure false:=by
 show PySem.swapsWith.match_6 _ (ot pe) _ _=_;generalize ot pe=o;cases o<;>rfl
theorem oA{k':Nat}(k:Nat)(aA:Env):swapsWithSole [.Tuple ts k' p] pe k aA=pure false:=by
 show PySem.swapsWith.match_6 _ (ot pe) _ _=_;generalize ot pe=o;cases o<;>rfl
structure Cx extends Ck where
 nR:Str
 nS:Str
 h:Nat
structure Flt(G:GC)(K:Cx):Prop where
 fa:∃P fI fP,Faults G P fI fP
 rr:∃fR,Ez G K.T K.h fR/\nsIn G.K mainGlobals K.nR=some (some (.ref fR))
 sf:nsIn G.K mainGlobals K.nS=some (some (.ref G.SF))
noncomputable abbrev Pf(P:Prop):Type:=Option (PLift P)
noncomputable def ok{P:Prop}(h:P):Pf P:=some ⟨h⟩
noncomputable def Pf.b{P Q:Prop}(x:Pf P)(f:P->Pf Q):Pf Q:=match x with
 |some h=>f h.down|none=>none
noncomputable def ck(c:Prop)[Decidable c]{Q:Prop}(f:c->Pf Q):Pf Q:=if h:c then f h else none
structure Ct(G:GC)(K:Ck) where
 W:dP
 D:Nat
 A:Around
 B:Heap
 l:List Env
 r:eL A D
 aG:Wd G K.T W D
 aU:Uz G K.T W K.dct
noncomputable def oB(sc:Scope)(aB:List Str)(x:Nat)(nm:Str):Bool:=decide (aB[x]?=some nm)&&decide (sc.names.lookup nm=some .local)
theorem gA{x:Nat}(h:oB sc aB x nm=true):Own sc aB x nm:=by
 unfold oB at h;rw[be,decide_eq_true_eq,decide_eq_true_eq]at h;exact h
section
variable{α:Type}{P:List α->Prop}
noncomputable def gV(l:List α)(h:Pf (P [])):Pf (P l):=List.casesOn (motive:=fun l=>Pf (P l)) l h fun _ _=>none
noncomputable def f8(l:List α)(F:∀a r,Pf (P (a::r))):Pf (P l):=List.casesOn (motive:=fun l=>Pf (P l)) l none F
noncomputable def j4(l:List α)(F:∀a,Pf (P [a])):Pf (P l):=f8 l fun a r=>gV (P:=fun r=>P (a::r)) r (F a)
noncomputable def iR(l:List α)(F:∀a b,Pf (P [a,b])):Pf (P l):=f8 l fun a r=>j4 (P:=fun r=>P (a::r)) r (F a)
end
section
variable{P:Expr->Prop}(pe:Expr)
noncomputable def tj(Fi:∀i k p,Pf (P (.Constant (.int i) k p)))(Fs:∀i k p,Pf (P (.Constant (.str i) k p)))(Fb:∀i k p,Pf (P (.Constant (.bool i) k p)))(Fn:∀k p,Pf (P (.Constant .none k p))):Pf (P pe):=
 PyProof.Rows.litDatum.match_1 (fun e=>Pf (P e)) pe Fi Fs Fb Fn fun _=>none
noncomputable def d5(F:∀n p,Pf (P (.Name n p))):Pf (P pe):=PySem.nameOf?.match_1 (fun e=>Pf (P e)) pe F fun _=>none
noncomputable def RI(F:∀a o b p,Pf (P (.BinOp a o b p))):Pf (P pe):=PyProof.Rows.calc1?.match_4 (fun e=>Pf (P e)) pe F fun _=>none
noncomputable def NL(F:∀o a p,Pf (P (.UnaryOp o a p))):Pf (P pe):=PySem.W.foldable.match_1 (fun e=>Pf (P e)) pe (fun _ _ _=>none) F (fun _ _ _ _=>none) (fun _ _ _=>none) (fun _ _ _=>none) fun _=>none
noncomputable def BG(F:∀a i p,Pf (P (.Subscript a i p))):Pf (P pe):=PySem.W.foldable.match_1 (fun e=>Pf (P e)) pe (fun _ _ _=>none) (fun _ _ _=>none) (fun _ _ _ _=>none) (fun _ _ _=>none) F fun _=>none
noncomputable def ut(F:∀o l p,Pf (P (.BoolOp o l p))):Pf (P pe):=PyProof.Rows.readsX1.match_1 (fun e=>Pf (P e)) pe (fun _ _=>none) (fun _ _ _ _=>none) F (fun _ _ _ _=>none) (fun _ _ _=>none) (fun _ _ _ _=>none) (fun _ _ _=>none) (fun _ _ _=>none) fun _=>none
noncomputable def Ks(F:∀a o l p,Pf (P (.Compare a o l p))):Pf (P pe):=PyProof.Rows.readsX1.match_1 (fun e=>Pf (P e)) pe (fun _ _=>none) F (fun _ _ _=>none) (fun _ _ _ _=>none) (fun _ _ _=>none) (fun _ _ _ _=>none) (fun _ _ _=>none) (fun _ _ _=>none) fun _=>none
noncomputable def VA(F:∀t a b p,Pf (P (.IfExp t a b p))):Pf (P pe):=PySem.W.ktsAttrs.match_1 (fun e=>Pf (P e)) pe (fun _ _ _=>none) (fun _ _ _=>none) (fun _ _ _ _=>none) (fun _ _ _=>none) F (fun _ _ _=>none) (fun _ _ _=>none) (fun _ _ _ _=>none) (fun _ _ _ _=>none) (fun _ _ _ _=>none) (fun _ _ _ _ _=>none) (fun _ _ _ _=>none) (fun _ _ _ _=>none) (fun _ _ _ _=>none) (fun _ _=>none) (fun _ _ _=>none) (fun _ _ _=>none) (fun _ _=>none) (fun _ _=>none) (fun _ _ _=>none) fun _=>none
noncomputable def FD(F:∀f l k p,Pf (P (.Call f l k p))):Pf (P pe):=PySem.Builtin.PlaceNodes.isACallBy.match_3 (fun e=>Pf (P e)) pe F fun _=>none
noncomputable def rA(F:∀o n p,Pf (P (.Attribute o n p))):Pf (P pe):=PySem.W.holdsPat.match_1 (fun e=>Pf (P e)) pe F fun _=>none
noncomputable def BH(F:∀l k p,Pf (P (.Tuple l k p))):Pf (P pe):=PySem.W.isTupleDisplay.match_1 (fun e=>Pf (P e)) pe F fun _=>none
noncomputable def Kt(F:∀l p,Pf (P (.List l p))):Pf (P pe):=PySem.genFold.match_1 (fun e=>Pf (P e)) pe F fun _=>none
noncomputable def NM(F:∀k v p,Pf (P (.Dict k v p))):Pf (P pe):=PySem.W.isDisplay.match_1 (fun e=>Pf (P e)) pe (fun _ _ _=>none) (fun _ _=>none) (fun _ _ _=>none) F fun _=>none
noncomputable def FE(F:∀e g s p,Pf (P (.ListComp e g s p))):Pf (P pe):=PySem.swapsWith.match_1 (fun e=>Pf (P e)) pe F (fun _ _ _ _=>none) (fun _ _ _ _ _=>none) fun _=>none
noncomputable def zY(F:∀a o b p,Pf (P (.Compare a [o] [b] p))):Pf (P pe):=Ks pe fun a o l p=>j4 (P:=fun o=>P (.Compare a o l p)) o fun o=>j4 (P:=fun l=>P (.Compare a [o] l p)) l fun b=>F a o b p
noncomputable def FF(F:∀a o o' b d p,Pf (P (.Compare a [o,o'] [b,d] p))):Pf (P pe):=Ks pe fun a o l p=>iR (P:=fun o=>P (.Compare a o l p)) o fun o o'=>iR (P:=fun l=>P (.Compare a [o,o'] l p)) l fun b d=>F a o o' b d p
noncomputable def Ku(F:∀a n q p,Pf (P (.Compare a [.In] [.Name n q] p))):Pf (P pe):=zY pe fun a o b p=>d5 (P:=fun b=>P (.Compare a [o] [b] p)) b fun n q=>ck (o = .In) fun h=>(F a n q p).b fun g=>ok (h▸g)
noncomputable def mW(F:∀n q l p,Pf (P (.Call (.Name n q) l [] p))):Pf (P pe):=FD pe fun f l k p=>gV (P:=fun k=>P (.Call f l k p)) k (d5 (P:=fun f=>P (.Call f l [] p)) f fun n q=>F n q l p)
noncomputable def uu(F:∀o n q l p,Pf (P (.Call (.Attribute o n q) l [] p))):Pf (P pe):=FD pe fun f l k p=>gV (P:=fun k=>P (.Call f l k p)) k (rA (P:=fun f=>P (.Call f l [] p)) f fun o n q=>F o n q l p)
noncomputable def uv(F:∀n q a l p,Pf (P (.Call (.Name n q) (a::l) [] p))):Pf (P pe):=mW pe fun n q l p=>f8 (P:=fun l=>P (.Call (.Name n q) l [] p)) l fun a l=>F n q a l p
noncomputable def zZ(g:List Comprehension){Q:List Comprehension->Prop}(F:∀t i l g,Pf (Q (⟨t,i,l,0⟩::g))):Pf (Q g):=f8 g fun c g=>@PySem.Comprehension.casesOn (fun c=>Pf (Q (c::g))) c fun t i l a=>ck (a=0) fun h=>(F t i l g).b fun q=>ok (h▸q)
noncomputable def Iq(F:∀e t i l s p,Pf (P (.ListComp e [⟨t,i,l,0⟩] s p))):Pf (P pe):=FE pe fun e g s p=>zZ g (Q:=fun g=>P (.ListComp e g s p)) fun t i l g=>gV (P:=fun g=>P (.ListComp e (⟨t,i,l,0⟩::g) s p)) g (F e t i l s p)
noncomputable def Ir(F:∀e t i t' i' s p,Pf (P (.ListComp e [⟨t,i,[],0⟩,⟨t',i',[],0⟩] s p))):Pf (P pe):=FE pe fun e g s p=>zZ g (Q:=fun g=>P (.ListComp e g s p)) fun t i l g=>gV (P:=fun l=>P (.ListComp e (⟨t,i,l,0⟩::g) s p)) l <|
 zZ g (Q:=fun g=>P (.ListComp e (⟨t,i,[],0⟩::g) s p)) fun t' i' l' g=>gV (P:=fun l'=>P (.ListComp e (⟨t,i,[],0⟩::⟨t',i',l',0⟩::g) s p)) l' (gV (P:=fun g=>P (.ListComp e (⟨t,i,[],0⟩::⟨t',i',[],0⟩::g) s p)) g (F e t i t' i' s p))
end
noncomputable def XM{sc:Scope}{aB:List Str}(x:Nat)(e:Expr):Pf (∃nm p,e=Expr.Name nm p/\Own sc aB x nm):=d5 (P:=fun e=>∃nm p,e=Expr.Name nm p/\Own sc aB x nm) e fun nm p=>ck (oB sc aB x nm=true) fun h=>ok ⟨nm,p,rfl,gA h⟩
noncomputable def Za{sc:Scope}{aB:List Str}(xs:List Nat):(es:List Expr)->Pf (gU sc aB xs es):=
 List.rec (motive:=fun xs=>∀es,Pf (gU sc aB xs es)) (fun es=>gV es (ok .nil)) (fun x _ ih es=>f8 es fun e es=>(XM x e).b fun h=>(ih es).b fun hs=>ok (.cons h hs)) xs
noncomputable def pT(sc:Scope)(aB:List Str)(t:lM)(pt:Expr):Pf (lU sc aB t pt):=
 lM.casesOn (motive:=fun t=>Pf (lU sc aB t pt)) t (fun x=>XM x pt) fun xs=>BH (P:=lU sc aB (.tup xs)) pt fun fO k p=>(Za xs fO).b fun h=>ok ⟨fO,k,p,rfl,h⟩
section
variable(G:GC)(K:Ck)
noncomputable def PE(sc:Scope)(aB:List Str)(e:Ex)(pe:Expr):Prop:=∀c:Ct G K,dQ G K.T c.W c.A c.B c.l sc aB e pe
noncomputable def NO(sc:Scope)(aB:List Str)(e:List Ex)(pe:List Expr):Prop:=∀c:Ct G K,on G K.T c.W c.A c.B c.l sc aB e pe
noncomputable def PC(sc:Scope)(aB:List Str)(e:Cd)(pe:Expr):Prop:=∀c:Ct G K,mL G K.T c.W c.A c.B c.l sc aB e pe
noncomputable def XO(sc:Scope)(aB:List Str)(e:List Cd)(pe:List Expr):Prop:=∀c:Ct G K,∀op,AllP G K.T c.W c.A c.B c.l sc aB op e pe
noncomputable def PS(sc:Scope)(aB:List Str)(e:Src)(pe:Expr):Prop:=∀c:Ct G K,xC G K.T c.W c.A c.B c.l sc aB e pe
noncomputable def XP(sc:Scope)(aB:List Str)(e:Ex)(pe:Expr):Prop:=∀c:Ct G K,tY G K.T c.W c.A c.B c.l sc aB e pe
noncomputable def gB(g:Nat)(sc:Scope)(nm:Str):Bool:=decide (K.T.wk[g]?.map (·.1)=some nm)&&th sc nm
noncomputable def fB(f:Nat)(sc:Scope)(nm:Str):Bool:=decide (K.T.fns[f]?.map (·.1)=some nm)&&th sc nm
variable{G K}
theorem FG{g:Nat}{nm:Str}(h:gB K g sc nm=true):(∃v,K.T.wk[g]?=some (nm,v))/\sc.names.lookup nm=some .globalImplicit/\(nm==("__debug__":Str))=false:=by
 unfold gB at h;rw[be,decide_eq_true_eq]at h;exact⟨map_fst h.1,df h.2⟩
theorem Kv{g:Nat}{nm:Str}(h:fB K g sc nm=true):(∃v,K.T.fns[g]?=some (nm,v))/\sc.names.lookup nm=some .globalImplicit/\(nm==("__debug__":Str))=false:=by
 unfold fB at h;rw[be,decide_eq_true_eq]at h;exact⟨map_fst h.1,df h.2⟩
theorem RJ{g:Nat}(h:gB K g sc nm=true)(h2 :¬g=K.dct):PE G K sc aB (.gl g) (.Name nm p):=fun c=>by
 refine cH (FG h) fun nc b d=>?_;obtain⟨v,a⟩:=nc;exact QY c.aG a (c.aU.data g _ _ a h2) b d
theorem NP{g:Nat}(h:gB K g sc nm=true)(h2:g=K.dct)(ha:PE G K sc aB a pa):PE G K sc aB (.inD a g) (.Compare pa [.In] [.Name nm p] p'):=fun c=>by
 subst h2;refine cH (FG h) fun nc b d=>?_;obtain⟨v,a⟩:=nc;exact M5 c.aG a b d (c.aU.dict _ _ a) (ha c)
theorem NQ{g:Nat}(h:gB K g sc nm=true)(h2:g=K.dct)(ha:PE G K sc aB a pa):PC G K sc aB (.inD a g) (.Compare pa [.In] [.Name nm p] p'):=fun c=>by
 subst h2;refine cH (FG h) fun nc b d=>?_;obtain⟨v,a⟩:=nc;exact IP c.aG a b d (c.aU.dict _ _ a) (ha c)
theorem FH{f:Nat}(h:fB K f sc nm=true)(h0:es.isEmpty=true):PE G K sc aB (.call f es) (.Call (.Name nm p) [] [] p'):=fun c=>by
 obtain rfl:=List.isEmpty_iff.1 h0;refine cH (Kv h) fun nc b d=>?_;obtain⟨v,a⟩:=nc;exact EN c.r c.aG a b d
theorem Iu{f:Nat}(h:fB K f sc nm=true)(h2:(pe::pr).all notStar=true)(hs:NO G K sc aB es (pe::pr)):PE G K sc aB (.call f es) (.Call (.Name nm p) (pe::pr) [] p'):=fun c=>by
 refine cH (Kv h) fun nc b d=>?_;obtain⟨v,a⟩:=nc;rw[List.all_cons,be]at h2;exact Ao c.r c.aG a b d (dL h2.1) (gu h2.2) (hs c)
theorem RK(hn:nm=K.T.ab)(h:th sc nm=true)(h2:(pe::pr).all notStar=true)(hs:NO G K sc aB es (pe::pr)):PE G K sc aB (.mk es) (.Call (.Name nm p) (pe::pr) [] p'):=fun c=>by
 subst hn;rw[List.all_cons,be]at h2;exact Q4 c.r c.aG (df h).1 (df h).2 (dL h2.1) (gu h2.2) (hs c)
theorem RL(hb:pc bi=[])(hn:nm=fV bi)(h:th sc nm=true)(h2:(pe::pr).all notStar=true)(hs:NO G K sc aB es (pe::pr)):PE G K sc aB (.bi bi es) (.Call (.Name nm p) (pe::pr) [] p'):=fun c=>by
 subst hn;rw[List.all_cons,be]at h2;exact Q5 c.r c.aG hb (df h).1 (dL h2.1) (gu h2.2) (hs c)
theorem NR(hb:(bi = .isTup/\tn=Str.ofString "tuple")\/(bi = .isList/\tn=Str.ofString "list"))(hn:nm=fV bi)(h:th sc nm=true)(ht:th sc tn=true)(h2:notStar pe=true)(hs:∃e,es=[e]/\PE G K sc aB e pe):PE G K sc aB (.bi bi es) (.Call (.Name nm p) [pe,.Name tn tp] [] p'):=fun c=>by
 subst hn;obtain⟨e,rfl,hs⟩:=hs;exact M7 c.r c.aG hb (df h).1 (df ht).1 (dL h2) (hs c)
theorem Iv(hn:mn=pf m)(h1:fZ po=false)(h2:fM.all notStar=true)(h3:fM.length<30)(h4:ap.endLine=p.line)(ho:PE G K sc aB o po)(hs:NO G K sc aB es fM):PE G K sc aB (.iK m o es) (.Call (.Attribute po mn ap) fM [] p):=fun c=>by
 subst hn;exact IJ h1 (gu h2) h3 h4 (ho c) (hs c)
theorem Iw(hn:nm=⟨n.toArray⟩)(h1:fZ po=false)(h2:n∈K.T.atts)(ho:PE G K sc aB o po):PE G K sc aB (.attr o n) (.Attribute po nm p):=fun c=>by
 subst hn;exact II c.aG h1 h2 (ho c)
theorem NS(hn:nm=Str.ofString "range")(h:th sc nm=true)(h2:notStar pe=true)(he:PE G K sc aB e pe):PS G K sc aB (.lO e) (.Call (.Name nm p) [pe] [] p'):=fun c=>by
 subst hn;exact IS c.aG (df h).1 (dL h2) (he c)
theorem Ix{n:Nat}(h1:pu sc aB scope []=true)(h2:oZ iter=true)(h3:oZ bU=true)(h4:PS G K sc aB src iter)(h5:lU (bD scope sc) (ownOf scope) t target)
  (h6:PS G K (bD scope sc) (ownOf scope) cz bU) (h7:lU (bD scope sc) (ownOf scope) eR bh) (h8:PE G K (bD scope sc) (ownOf scope) elt jb) (h9:∀x∈eR.idx,x∉t.idx) :
  XP G K sc aB (.jk n t src eR cz elt) (.ListComp jb [⟨target,iter,[],0⟩,⟨bh,bU,[],0⟩] scope pos):=fun c=>by
 have C:=ti h1;have e0:iA scope=[]:=List.eq_nil_of_length_eq_zero C.len.symm;rw[e0]at C;exact E9 C (h4 c) (mV h2) h5 (h6 c) (mV h3) h7 (h8 c) h9
noncomputable def NT(G:GC)(K:Ck)(sc:Scope)(aB:List Str)(e:List Cd)(pe:List Expr):Prop:=∀c:Ct G K,IR G K.T c.W c.A c.B c.l sc aB e pe
noncomputable def Kw(G:GC)(K:Ck)(sc:Scope)(aB:List Str)(e:Ex)(pe:Option Expr):Prop:=∀c:Ct G K,Ap G K.T c.W c.A c.B c.l sc aB e pe
noncomputable def XQ(e:Ex):Pf (e = .none):=Ex.casesOn (motive_1:=fun e=>Pf (e = .none)) e (ok rfl) (fun _=>none) (fun _=>none) (fun _=>none) (fun _=>none) (fun _=>none) (fun _ _ _=>none) (fun _=>none) (fun _=>none)
 (fun _ _=>none) (fun _ _=>none) (fun _ _ _=>none) (fun _ _ _=>none) (fun _ _ _ _ _=>none) (fun _ _=>none) (fun _ _=>none) (fun _=>none) (fun _ _=>none) (fun _ _ _=>none) (fun _ _=>none)
 (fun _ _=>none) (fun _ _ _=>none) (fun _=>none) (fun _=>none) (fun _ _=>none) (fun _ _ _ _ _ _=>none) (fun _ _ _ _ _ _=>none)
noncomputable def BI:wX->Bool
 |.isTup=>false|.isList=>false|_=>true
theorem za(h:BI b=true):pc b=[]:=by cases b<;>first|rfl|exact eK h
noncomputable def RM(b:wX)(tn:Str):Bool:=match b with
 |.isTup=>decide (tn=Str.ofString "tuple")|.isList=>decide (tn=Str.ofString "list")|_=>false
theorem Iy(h:RM b tn=true):(b = .isTup/\tn=Str.ofString "tuple")\/(b = .isList/\tn=Str.ofString "list"):=by
 cases b<;>first|exact .inl ⟨rfl,of_decide_eq_true h⟩|exact .inr ⟨rfl,of_decide_eq_true h⟩|exact eK h
theorem BJ{o:aD (List AV)}{c':aC}{v:AV}(h:(o.calm.bind fun r c=>if r.length<=aJ then .ok (.lst r) c else .fail) = .ok v c'):∃l,v = .lst l:=by
 obtain⟨r,c2,_,a4⟩:=aD.cK h
 split at a4
 ·induction jj a4;exact⟨_,rfl⟩
 ·exact MD a4
theorem FI{W:dP}{J:Loc}{gM:List Nat}{n:Nat}{t:lM}{src:Src}{cond:List Cd}{elt:Ex}{c c':aC}{v:AV}(h:ev W J (.comp gM n t src cond elt) c = .ok v c'):∃l,v = .lst l:=by
 rw[Dl]at h;obtain⟨x,c1,a1,a2⟩:=aD.cK h;exact BJ a2
theorem C0{n:Nat}{v:AV}(h:ev W J (.jk n t src eR cz elt) c = .ok v c'):∃l,v = .lst l:=by
 rw[Dm]at h;obtain⟨x,c1,a1,a2⟩:=aD.cK h;exact BJ a2
structure Rc(G:GC)(K:Ck) where
 E:∀(e:Ex)(sc:Scope)(aB:List Str)(pe:Expr),Pf (PE G K sc aB e pe)
 C:∀(e:Cd)(sc:Scope)(aB:List Str)(pe:Expr),Pf (PC G K sc aB e pe)
section
variable(r:Rc G K)
noncomputable def Kx(sc:Scope)(aB:List Str)(es:List Ex):(pe:List Expr)->Pf (NO G K sc aB es pe):=
 List.rec (motive:=fun es=>∀pe,Pf (NO G K sc aB es pe)) (fun pe=>gV pe (ok fun c=>ue))
  (fun e _ ih pe=>f8 pe fun p pr=>ck (notStar p=true) fun h=>(r.E e sc aB p).b fun he=>(ih pr).b fun hs=>ok fun c=>mM (bg (dL h)) (he c) (hs c)) es
noncomputable def XR(sc:Scope)(aB:List Str)(es:List Cd):(pe:List Expr)->Pf (XO G K sc aB es pe):=
 List.rec (motive:=fun es=>∀pe,Pf (XO G K sc aB es pe)) (fun pe=>gV pe (ok fun c op=>all_nil))
  (fun e _ ih pe=>f8 pe fun p pr=>(r.C e sc aB p).b fun he=>(ih pr).b fun hs=>ok fun c op=>all_cons (he c) (hs c op)) es
noncomputable def VB(sc:Scope)(aB:List Str)(es:List Cd)(pe:List Expr):Pf (NT G K sc aB es pe):=
 List.casesOn (motive:=fun es=>Pf (NT G K sc aB es pe)) es (gV pe (ok fun c=>.inl ⟨rfl,rfl⟩)) fun t ts=>
  List.casesOn (motive:=fun ts=>Pf (NT G K sc aB (t::ts) pe)) ts (j4 pe fun p=>(r.C t sc aB p).b fun h=>ok fun c=>.inr ⟨t,p,rfl,rfl,h c⟩) fun _ _=>none
noncomputable def Zb(sc:Scope)(aB:List Str)(es:List Ex)(pe:Expr):Pf (∃x,es=[x]/\PE G K sc aB x pe):=
 List.casesOn (motive:=fun es=>Pf (∃x,es=[x]/\PE G K sc aB x pe)) es none fun x xs=>
  List.casesOn (motive:=fun xs=>Pf (∃y,x::xs=[y]/\PE G K sc aB y pe)) xs ((r.E x sc aB pe).b fun h=>ok ⟨x,rfl,h⟩) fun _ _=>none
noncomputable def Ky(sc:Scope)(aB:List Str)(e:Ex)(pe:Option Expr):Pf (Kw G K sc aB e pe):=
 Option.casesOn (motive:=fun pe=>Pf (Kw G K sc aB e pe)) pe ((XQ e).b fun h=>ok fun c=>h) fun p=>(r.E e sc aB p).b fun h=>ok h
noncomputable def qS(sc:Scope)(aB:List Str)(s:Src)(pe:Expr):Pf (PS G K sc aB s pe):=
 Src.casesOn (motive_3:=fun s=>Pf (PS G K sc aB s pe)) s (fun e=>(r.E e sc aB pe).b fun h=>ok fun c=>Mi (h c)) fun e=>
  mW pe fun nm q l p=>j4 (P:=fun l=>PS G K sc aB (.lO e) (.Call (.Name nm q) l [] p)) l fun p1=>ck (nm=Str.ofString "range") fun hn=>ck (th sc nm=true) fun h=>ck (notStar p1=true) fun h2=>(r.E e sc aB p1).b fun he=>ok (NS hn h h2 he)
noncomputable def RN(G:GC)(K:Ck)(sc:Scope)(aB:List Str)(e:Ex)(pe:Expr):Prop:=XP G K sc aB e pe/\∀W J c c' v,ev W J e c = .ok v c'->∃l,v = .lst l
noncomputable def VC(sc:Scope)(aB:List Str)(gM:List Nat)(n:Nat)(t:lM)(src:Src)(cond:List Cd)(elt:Ex)(pe:Expr):Pf (RN G K sc aB (.comp gM n t src cond elt) pe):=
 Iq pe fun jb target iter ifs scope _=>ck (pu sc aB scope gM=true) fun h1=>ck (oZ iter=true) fun h2=>(qS r sc aB src iter).b fun h3=>(pT (bD scope sc) (iA scope++ownOf scope) t target).b fun h4=>(VB r (bD scope sc) (iA scope++ownOf scope) cond ifs).b fun h5=>
  (r.E elt (bD scope sc) (iA scope++ownOf scope) jb).b fun h6=>ck (∀x∈t.idx,gM.length<=x) fun h7=>ok ⟨fun c=>IT (ti h1) (h3 c) (mV h2) h4 (h5 c) (h6 c) h7,fun _ _ _ _ _ h=>FI h⟩
noncomputable def RO(sc:Scope)(aB:List Str)(n:Nat)(t:lM)(src:Src)(eR:lM)(cz:Src)(elt:Ex)(pe:Expr):Pf (RN G K sc aB (.jk n t src eR cz elt) pe):=
 Ir pe fun jb target iter bh bU scope _=>ck (pu sc aB scope []=true) fun h1=>ck (oZ iter=true) fun h2=>ck (oZ bU=true) fun h3=>(qS r sc aB src iter).b fun h4=>(pT (bD scope sc) (ownOf scope) t target).b fun h5=>
  (qS r (bD scope sc) (ownOf scope) cz bU).b fun h6=>(pT (bD scope sc) (ownOf scope) eR bh).b fun h7=>(r.E elt (bD scope sc) (ownOf scope) jb).b fun h8=>ck (∀x∈eR.idx,x∉t.idx) fun h9=>ok ⟨Ix h1 h2 h3 h4 h5 h6 h7 h8 h9,fun _ _ _ _ _ h=>C0 h⟩
variable(sc:Scope)(aB:List Str)
noncomputable def qE(e:Ex)(pe:Expr):Pf (PE G K sc aB e pe):=Ex.casesOn (motive_1:=fun e=>Pf (PE G K sc aB e pe)) e
 (tj pe (fun _ _ _=>none) (fun _ _ _=>none) (fun _ _ _=>none) fun _ _=>ok fun c=>IE)
 (fun b=>tj pe (fun _ _ _=>none) (fun _ _ _=>none) (fun b' _ _=>ck (b=b') fun h=>ok fun c=>h▸IF) fun _ _=>none)
 (fun b=>tj pe (fun b' _ _=>ck (b=b') fun h=>ok fun c=>h▸MZ) (fun _ _ _=>none) (fun _ _ _=>none) fun _ _=>none)
 (fun b=>tj pe (fun _ _ _=>none) (fun b' _ _=>ck ((⟨b.toArray⟩:Str)=b') fun h=>ok fun c=>h▸M0) (fun _ _ _=>none) fun _ _=>none)
 (fun x=>d5 pe fun nm _=>ck (aB[x]?=some nm) fun h=>ck ((nm==("__debug__":Str))=false) fun h2=>ck ((nm==("__classdict__":Str))=false) fun h3=>ok fun c=>uc h h2 h3)
 (fun g=>d5 pe fun nm _=>ck (gB K g sc nm=true) fun h=>ck (¬g=K.dct) fun h2=>ok (RJ h h2))
 (fun o a b=>RI pe fun pa po pb _=>ck (jo o po=true) fun h=>(r.E a sc aB pa).b fun ha=>(r.E b sc aB pb).b fun hb=>ok fun c=>M1 h (ha c) (hb c))
 (fun a=>NL pe fun o pa p=>ck (o = .USub) fun h=>(r.E a sc aB pa).b fun ha=>ok fun c=>h▸EF (ha c))
 (fun a=>NL pe fun o pa p=>ck (o = .Not) fun h=>(r.E a sc aB pa).b fun ha=>ok fun c=>h▸EG (ha c))
 (fun a b=>ut pe fun o l pos=>f8 (P:=fun l=>PE G K sc aB (.and_ a b) (.BoolOp o l pos)) l fun pa l=>f8 (P:=fun l=>PE G K sc aB (.and_ a b) (.BoolOp o (pa::l) pos)) l fun pb l=>ck (o = .And) fun h=>(r.E a sc aB pa).b fun ha=>(r.E b sc aB (restOf .And pos (pb::l))).b fun hb=>ok fun c=>h▸M2 (ha c) (hb c))
 (fun a b=>ut pe fun o l pos=>f8 (P:=fun l=>PE G K sc aB (.or_ a b) (.BoolOp o l pos)) l fun pa l=>f8 (P:=fun l=>PE G K sc aB (.or_ a b) (.BoolOp o (pa::l) pos)) l fun pb l=>ck (o = .Or) fun h=>(r.E a sc aB pa).b fun ha=>(r.E b sc aB (restOf .Or pos (pb::l))).b fun hb=>ok fun c=>h▸QZ (ha c) (hb c))
 (fun t a b=>VA pe fun pt pa pb _=>(r.C t sc aB pt).b fun ht=>(r.E a sc aB pa).b fun ha=>(r.E b sc aB pb).b fun hb=>ok fun c=>M3 (ht c) (ha c) (hb c))
 (fun o a b=>zY pe fun pa po pb _=>ck (ir o po=true) fun h=>ck (behindInMarks po pb=false) fun h2=>(r.E a sc aB pa).b fun ha=>(r.E b sc aB pb).b fun hb=>ok fun c=>M4 c.r h h2 (ha c) (hb c))
 (fun eQ fA a b d=>FF pe fun pa yz qd pb EL _=>ck (ir eQ yz=true) fun h=>ck (ir fA qd=true) fun h'=>ck (behindInMarks qd EL=false) fun h2=>(r.E a sc aB pa).b fun ha=>(r.E b sc aB pb).b fun hb=>(r.E d sc aB EL).b fun hd=>ok fun c=>IG c.r h h' h2 (ha c) (hb c) (hd c))
 (fun a g=>Ku pe fun pa nm _ _=>ck (gB K g sc nm=true) fun h=>ck (g=K.dct) fun h2=>(r.E a sc aB pa).b fun ha=>ok (NP h h2 ha))
 (fun f es=>mW pe fun nm q l p=>ck (fB K f sc nm=true) fun h=>List.casesOn (motive:=fun l=>Pf (PE G K sc aB (.call f es) (.Call (.Name nm q) l [] p))) l (ck (es.isEmpty=true) fun h0=>ok (FH h h0))
  fun p1 pr=>ck ((p1::pr).all notStar=true) fun h2=>(Kx r sc aB es (p1::pr)).b fun hs=>ok (Iu h h2 hs))
 (fun es=>uv pe fun nm _ p1 pr _=>ck (nm=K.T.ab) fun hn=>ck (th sc nm=true) fun h=>ck ((p1::pr).all notStar=true) fun h2=>(Kx r sc aB es (p1::pr)).b fun hs=>ok (RK hn h h2 hs))
 (fun b es=>uv pe fun nm q p1 pr p=>ck (nm=fV b) fun hn=>ck (th sc nm=true) fun h=>if hb:BI b=true then ck ((p1::pr).all notStar=true) fun h2=>(Kx r sc aB es (p1::pr)).b fun hs=>ok (RL (za hb) hn h h2 hs)
  else j4 (P:=fun l=>PE G K sc aB (.bi b es) (.Call (.Name nm q) (p1::l) [] p)) pr fun p2=>d5 (P:=fun x=>PE G K sc aB (.bi b es) (.Call (.Name nm q) [p1,x] [] p)) p2 fun tn _=>ck (RM b tn=true) fun hb=>ck (th sc tn=true) fun ht=>ck (notStar p1=true) fun h2=>(Zb r sc aB es p1).b fun he=>ok (NR (Iy hb) hn h ht h2 he))
 (fun m o es=>uu pe fun po mn ap fM p=>ck (mn=pf m) fun hn=>ck (fZ po=false) fun h1=>ck (fM.all notStar=true) fun h2=>ck (fM.length<30) fun h3=>ck (ap.endLine=p.line) fun h4=>(r.E o sc aB po).b fun ho=>(Kx r sc aB es fM).b fun hs=>ok (Iv hn h1 h2 h3 h4 ho hs))
 (fun o n=>rA pe fun po nm _=>ck (nm=⟨n.toArray⟩) fun hn=>ck (fZ po=false) fun h1=>ck (n∈K.T.atts) fun h2=>(r.E o sc aB po).b fun ho=>ok (Iw hn h1 h2 ho))
 (fun o i=>BG pe fun po pi _=>ck (mU pi=true) fun h=>(r.E o sc aB po).b fun ho=>(r.E i sc aB pi).b fun hi=>ok fun c=>M8 (zW h) (ho c) (hi c))
 (fun o lo hi=>BG pe fun po pi p=>PySem.augStore.match_1 (fun pi=>Pf (PE G K sc aB (.jH o lo hi) (.Subscript po pi p))) pi (fun TN TO _=>(r.E o sc aB po).b fun ho=>(Ky r sc aB lo TN).b fun hl=>(Ky r sc aB hi TO).b fun hh=>ok fun c=>M9 (ho c) (hl c) (hh c)) fun _=>none)
 (fun es=>BH pe fun fM _ _=>ck (es.length<=1000) fun h=>(Kx r sc aB es fM).b fun hs=>ok fun c=>M6 h (hs c))
 (fun es=>Kt pe fun fM _=>ck (es.length<=1000) fun h=>(Kx r sc aB es fM).b fun hs=>ok fun c=>(EM h (hs c)).toV)
 (fun _ _=>none)
 (fun gM n t src cond elt=>(VC r sc aB gM n t src cond elt pe).b fun h=>ok fun c=>(h.1 c).toF.toV)
 (fun n t src eR cz elt=>(RO r sc aB n t src eR cz elt pe).b fun h=>ok fun c=>(h.1 c).toF.toV)
noncomputable def qC(e:Cd)(pe:Expr):Pf (PC G K sc aB e pe):=Cd.casesOn (motive_2:=fun e=>Pf (PC G K sc aB e pe)) e
 (fun t=>NL pe fun o pa _=>ck (o = .Not) fun q=>(r.C t sc aB pa).b fun h=>ok fun c=>q▸IL (h c))
 (fun ts=>ut pe fun o fM _=>ck (o = .And) fun q=>(XR r sc aB ts fM).b fun h=>ok fun c=>q▸IM (h c _))
 (fun ts=>ut pe fun o fM _=>ck (o = .Or) fun q=>(XR r sc aB ts fM).b fun h=>ok fun c=>q▸Mb (h c _))
 (fun o a b=>zY pe fun pa po pb _=>ck (ir o po=true) fun h=>ck (behindInMarks po pb=false) fun h2=>(r.E a sc aB pa).b fun ha=>(r.E b sc aB pb).b fun hb=>ok fun c=>IN c.r h h2 (ha c) (hb c))
 (fun eQ fA a b d=>FF pe fun pa yz qd pb EL _=>ck (ir eQ yz=true) fun h=>ck (ir fA qd=true) fun h'=>ck (behindInMarks qd EL=false) fun h2=>(r.E a sc aB pa).b fun ha=>(r.E b sc aB pb).b fun hb=>(r.E d sc aB EL).b fun hd=>ok fun c=>EQ c.r h h' h2 (ha c) (hb c) (hd c))
 (fun a g=>Ku pe fun pa nm _ _=>ck (gB K g sc nm=true) fun h=>ck (g=K.dct) fun h2=>(r.E a sc aB pa).b fun ha=>ok (NQ h h2 ha))
 (fun e=>ck (ug pe=true) fun h=>(r.E e sc aB pe).b fun he=>ok fun c=>IK h (he c))
end
noncomputable def VE(G:GC)(K:Ck)(n:Nat):Rc G K:=Nat.rec ⟨fun _ _ _ _=>none,fun _ _ _ _=>none⟩ (fun _ r=>⟨fun e sc aB pe=>qE r sc aB e pe,fun e sc aB pe=>qC r sc aB e pe⟩) n
noncomputable def pR(G:GC)(K:Ck):Rc G K:=VE G K 60
end
structure Cy(G:GC)(K:Cx) where
 c:Ct G K.toCk
 lf:Nat
 r:eL c.A (c.D+1)
 hD:4<=c.D
 F:Flt G K
section
variable(G:GC)(K:Cx)
noncomputable def PX(sc:Scope)(aB:List Str)(st:Sx)(ps:Stmt):Prop:=∀y:Cy G K,oq G K.T y.c.W y.lf y.c.A y.c.B y.c.l sc aB st ps
noncomputable def Kz(sc:Scope)(aB:List Str)(st:List Sx)(ps:List Stmt):Prop:=∀y:Cy G K,nr G K.T y.c.W y.lf y.c.A y.c.B y.c.l sc aB st ps
variable{G K}
variable{sc:Scope}{aB:List Str}
theorem LA{x:Nat}(nw:Bool)(hk:sc.kind = .function)(ho:oB sc aB x nm=true)(ht:qx sc nm np pe=true)(h:RN G K.toCk sc aB e pe)(hd:nw=true->∀ks vs,e≠.dict ks vs) :
  PX G K sc aB (bif nw then .dn x e else .asg x e) (.Assign [.Name nm np] pe pos):=fun y=>by
 cases nw with
 |false=>
  refine t6 (e:=e) (nw:=false) (gA ho) (qy hk (gA ho).2 ht) (fun J c=>?_) (h.1 y.c);refine .trans (mG ..)<|?_
  cases q:ev y.c.W J e c with
  |ok v c'=>obtain⟨l,rfl⟩:=h.2 _ _ _ _ _ q;rfl
  |exc m c'=>rfl|fail=>rfl
 |true=>exact t6 (e:=e) (nw:=true) (gA ho) (qy hk (gA ho).2 ht) (fun J c=>.trans (Dp _ _ _ _ x e (hd rfl)) rfl) (h.1 y.c)
theorem NU{x:Nat}(h1:sc.kind = .function)(h2:mn=Str.ofString "append")(h3:aB[x]?=some nm)(h4:(nm==("__debug__":Str))=false)(h5:(nm==("__classdict__":Str))=false)(h6:notStar pe=true)(h7:ap.endLine=cp.line)(h:PE G K.toCk sc aB e pe):PX G K sc aB (.app x e) (.Expr (.Call (.Attribute (.Name nm p) mn ap) [pe] [] cp) q):=fun y=>by
 subst h2;exact Mq h1 h3 h4 h5 (dL h6) h7 (h y.c)
theorem NV{x:Nat}(h1:sc.kind = .function)(h2:mn=Str.ofString "extend")(h3:aB[x]?=some nm)(h4:(nm==("__debug__":Str))=false)(h5:(nm==("__classdict__":Str))=false)(h6:notStar pe=true)(h7:ap.endLine=cp.line)(h:PE G K.toCk sc aB e pe):PX G K sc aB (.ext x e) (.Expr (.Call (.Attribute (.Name nm p) mn ap) [pe] [] cp) q):=fun y=>by
 subst h2;exact Mr h1 h3 h4 h5 (dL h6) h7 (h y.c)
theorem Iz{x:Nat}{i1 i2:Nat}(ho:oB sc aB x nm=true)(h1:t1=⟨k1.toArray⟩)(h2:t2=⟨k2.toArray⟩)(h3:k1≠k2)(h4:PE G K.toCk sc aB e1 q1)(h5:PE G K.toCk sc aB e2 q2) :
  PX G K sc aB (.dn x (.dict [k1,k2] [e1,e2])) (.Assign [.Name nm np] (.Dict [some (.Constant (.str t1) i1 p1),some (.Constant (.str t2) i2 p2)] [q1,q2] p3) pos):=fun y=>by
 subst h1;subst h2;exact Ie (gA ho) h3 (h4 y.c) (h5 y.c)
theorem JA{x y:Nat}{k k':Nat}(Ug:x≠y)(h2:px.line=py.line)(h3:nx≠ny)(h4:[v1,v2].any RH=false)(h6:xS [v1,v2]=false)(h7:[v1,v2].all (constantsAlone 8)=false)(hk:sc.kind = .function)(hx:oB sc aB x nx=true)(hy:oB sc aB y ny=true)
  (h:PE G K.toCk sc aB e (.Tuple [v1,v2] k' p')):PX G K sc aB (.iM [x,y] e) (.Assign [.Tuple [.Name nx px,.Name ny py] k p] (.Tuple [v1,v2] k' p') pos):=fun c=>
 Ib (gA hx) (gA hy) Ug (fun aA=>oA _ aA) (fun aA E0=>xT h2 h3 h4 h6 h7 hk (gA hx).2 (gA hy).2 aA E0) (h c.c)
theorem JB(hn:nm=⟨n.toArray⟩)(h2:n∈K.T.atts)(h:PE G K.toCk sc aB e pe)(h':PE G K.toCk sc aB o po):PX G K sc aB (.gz o n e) (.Assign [.Attribute po nm p] pe pos):=fun y=>by
 subst hn;exact I2 y.c.aG h2 (fun aA=>zX _ aA) (fun aA=>o0 rfl aA) (h y.c) (h' y.c)
theorem JC(Mv:jo op pop=true)(hn:nm=⟨n.toArray⟩)(h2:n∈K.T.atts)(h:PE G K.toCk sc aB o po)(h':PE G K.toCk sc aB e pe):PX G K sc aB (.g9 o n op e) (.AugAssign (.Attribute po nm p) pop pe pos):=fun y=>by
 subst hn;exact I7 y.c.aG h2 Mv (h y.c) (h' y.c)
theorem FJ{hh:Nat}(h1:hh=K.h)(h2:nR=K.nR)(h3:th sc nR=true)(h4:(pe::pr).all notStar=true)(h:NO G K.toCk sc aB es (pe::pr)):PX G K sc aB (.raise hh es) (.Raise (some (.Call (.Name nR p) (pe::pr) [] q)) none pos):=fun y=>by
 subst h1;subst h2;refine A7 y.F.fa fun P fI fP FA=>?_;refine au y.F.rr fun fR RR hg=>?_;rw[List.all_cons,be]at h4;exact FB FA y.c.aG RR y.hD y.r (df h3).1 (df h3).2 hg (dL h4.1) (gu h4.2) (h y.c)
theorem NW{k:Nat}(h1:nS=K.nS)(h2:th sc nS=true)(h:Kz G K sc aB b pb):PX G K sc aB (.uW b) (.Try pb [.ExceptHandler (some (.Name nS p1)) none [.Return (some (.Constant .none k p2)) p3] p4] [] [] pos):=fun y=>by
 subst h1;refine A7 y.F.fa fun P fI fP FA=>?_;exact NK FA (df h2).1 (df h2).2 y.F.sf (h y)
theorem NX(h:e = .none):PX G K sc aB (.ret e) (.Return none pos):=fun y=>by
 subst h;exact Ec
theorem JD:PX G K sc aB .ag ps:=fun y X aA cL m J aZ aP aI s V c H aK=>aX (by exact(QD ..)) aK
section
variable{P:Stmt->Prop}(ps:Stmt)
noncomputable def xU(F:∀t e p,Pf (P (.Assign [t] e p))):Pf (P ps):=PySem.bareBody.match_1 (fun s=>Pf (P s)) ps (fun ts e p=>j4 (P:=fun ts=>P (.Assign ts e p)) ts fun t=>F t e p) fun U=>none
noncomputable def FK(F:∀n q e p,Pf (P (.Assign [.Name n q] e p))):Pf (P ps):=xU ps fun t e p=>d5 (P:=fun t=>P (.Assign [t] e p)) t fun n q=>F n q e p
noncomputable def FL(F:∀t o e p,Pf (P (.AugAssign t o e p))):Pf (P ps):=PySem.Builtin.PlaceWords.roleAt.match_7 (fun s=>Pf (P s)) ps F fun U=>none
noncomputable def LB(F:∀n q m ap a cp p,Pf (P (.Expr (.Call (.Attribute (.Name n q) m ap) [a] [] cp) p))):Pf (P ps):=PyProof.Rows.plain0.match_1 (fun s=>Pf (P s)) ps (fun e p=>uu (P:=fun e=>P (.Expr e p)) e fun o m ap l cp=>
 d5 (P:=fun o=>P (.Expr (.Call (.Attribute o m ap) l [] cp) p)) o fun n q=>j4 (P:=fun l=>P (.Expr (.Call (.Attribute (.Name n q) m ap) l [] cp) p)) l fun a=>F n q m ap a cp p) fun U=>none
noncomputable def C1(Fr:∀e p,Pf (P (.Return (some e) p)))(Fn:∀p,Pf (P (.Return none p)))(Fb:∀p,Pf (P (.Break p)))(Fx:∀e p,Pf (P (.Raise (some e) none p)))(Fi:∀t a b p,Pf (P (.If t a b p))):Pf (P ps):=
 PyProof.Rows.leaveStmt.match_1 (fun s=>Pf (P s)) ps Fr Fn Fb Fx Fi fun U=>none
noncomputable def FM(Ff:∀t i b p,Pf (P (.For t i b [] p)))(Fw:∀t b p,Pf (P (.While t b [] p))):Pf (P ps):=
 PySem.W.kpfIfStores.match_1 (fun s=>Pf (P s)) ps (fun U U U U=>none) (fun t i b o p=>gV (P:=fun o=>P (.For t i b o p)) o (Ff t i b p)) (fun t b o p=>gV (P:=fun o=>P (.While t b o p)) o (Fw t b p)) fun U=>none
noncomputable def NY(Fn:∀k q p,Pf (P (.Return (some (.Constant .none k q)) p))):Pf (P ps):=C1 ps (fun e p=>tj (P:=fun e=>P (.Return (some e) p)) e (fun U U U=>none) (fun U U U=>none) (fun U U U=>none) fun k q=>Fn k q p) (fun U=>none) (fun U=>none) (fun U U=>none) fun U U U U=>none
noncomputable def RP(F:∀b n p1 k p2 p3 p4 p,Pf (P (.Try b [.ExceptHandler (some (.Name n p1)) none [.Return (some (.Constant .none k p2)) p3] p4] [] [] p))):Pf (P ps):=
 PySem.W.ktsTry.match_1 (fun s=>Pf (P s)) ps (fun b hs o f p=>gV (P:=fun o=>P (.Try b hs o f p)) o<|gV (P:=fun f=>P (.Try b hs [] f p)) f<|j4 (P:=fun hs=>P (.Try b hs [] [] p)) hs fun h=>
  @ExceptHandler.casesOn (fun h=>Pf (P (.Try b [h] [] [] p))) h fun ty nm body p4=>Option.casesOn (motive:=fun nm=>Pf (P (.Try b [.ExceptHandler ty nm body p4] [] [] p))) nm (Option.casesOn (motive:=fun ty=>Pf (P (.Try b [.ExceptHandler ty none body p4] [] [] p))) ty none fun ty=>
   d5 (P:=fun ty=>P (.Try b [.ExceptHandler (some ty) none body p4] [] [] p)) ty fun n p1=>j4 (P:=fun body=>P (.Try b [.ExceptHandler (some (.Name n p1)) none body p4] [] [] p)) body fun x=>
    NY (P:=fun x=>P (.Try b [.ExceptHandler (some (.Name n p1)) none [x] p4] [] [] p)) x fun k p2 p3=>F b n p1 k p2 p3 p4 p) fun U=>none)
  (fun U U U U=>none) (fun U U U U U=>none) (fun U U U U=>none) (fun U U U=>none) fun U=>none
noncomputable def LC{Q:Option Expr->Prop}(o:Option Expr)(F:∀t k p,Pf (Q (some (.Constant (.str t) k p)))):Pf (Q o):=Option.casesOn (motive:=fun o=>Pf (Q o)) o none fun e=>tj (P:=fun e=>Q (some e)) e (fun U U U=>none) F (fun U U U=>none) fun U U=>none
noncomputable def VF{Q:Expr->Prop}(pe:Expr)(F:∀t1 i1 p1 t2 i2 p2 q1 q2 p,Pf (Q (.Dict [some (.Constant (.str t1) i1 p1),some (.Constant (.str t2) i2 p2)] [q1,q2] p))):Pf (Q pe):=
 NM pe fun k v p=>iR (P:=fun v=>Q (.Dict k v p)) v fun q1 q2=>iR (P:=fun k=>Q (.Dict k [q1,q2] p)) k fun k1 k2=>LC (Q:=fun k1=>Q (.Dict [k1,k2] [q1,q2] p)) k1 fun t1 i1 p1=>LC (Q:=fun k2=>Q (.Dict [some (.Constant (.str t1) i1 p1),k2] [q1,q2] p)) k2 fun t2 i2 p2=>F t1 i1 p1 t2 i2 p2 q1 q2 p
end
structure Rx(G:GC)(K:Cx) where
 X:∀(st:Sx)(sc:Scope)(aB:List Str)(ps:Stmt),Pf (PX G K sc aB st ps)
section
variable(r:Rx G K)(sc:Scope)(aB:List Str)
noncomputable def PT(es:List Sx):(pe:List Stmt)->Pf (Kz G K sc aB es pe):=
 List.rec (motive:=fun es=>∀pe,Pf (Kz G K sc aB es pe)) (fun pe=>gV pe (ok fun c=>IW))
  (fun e U ih pe=>f8 pe fun p pr=>(r.X e sc aB p).b fun he=>(ih pr).b fun hs=>ok fun c=>Eb (he c) (hs c)) es
noncomputable def pE(e:Ex)(pe:Expr):Pf (PE G K.toCk sc aB e pe):=(pR G K.toCk).E e sc aB pe
noncomputable def RQ(xs:List Nat)(e:Ex)(fO vs:List Expr)(k k':Nat)(p p' pos:Pos)(hk:sc.kind = .function)(h:PE G K.toCk sc aB e (.Tuple vs k' p')):Pf (PX G K sc aB (.iM xs e) (.Assign [.Tuple fO k p] (.Tuple vs k' p') pos)):=
 iR (P:=fun xs=>PX G K sc aB (.iM xs e) (.Assign [.Tuple fO k p] (.Tuple vs k' p') pos)) xs fun x y=>iR (P:=fun fO=>PX G K sc aB (.iM [x,y] e) (.Assign [.Tuple fO k p] (.Tuple vs k' p') pos)) fO fun ex ey=>
 d5 (P:=fun ex=>PX G K sc aB (.iM [x,y] e) (.Assign [.Tuple [ex,ey] k p] (.Tuple vs k' p') pos)) ex fun nx px=>d5 (P:=fun ey=>PX G K sc aB (.iM [x,y] e) (.Assign [.Tuple [.Name nx px,ey] k p] (.Tuple vs k' p') pos)) ey fun ny py=>
 (iR (P:=fun vs=>PE G K.toCk sc aB e (.Tuple vs k' p')->PX G K sc aB (.iM [x,y] e) (.Assign [.Tuple [.Name nx px,.Name ny py] k p] (.Tuple vs k' p') pos)) vs fun v1 v2=>
 ck (x≠y) fun h1=>ck (px.line=py.line) fun h2=>ck (nx≠ny) fun h3=>ck ([v1,v2].any RH=false) fun h4=>ck (xS [v1,v2]=false) fun h6=>ck ([v1,v2].all (constantsAlone 8)=false) fun h7=>ck (oB sc aB x nx=true) fun h8=>ck (oB sc aB y ny=true) fun h9=>ok fun h=>JA h1 h2 h3 h4 h6 h7 hk h8 h9 h).b fun g=>ok (g h)
noncomputable def RS(x:Nat)(e:Ex)(nm:Str)(np pos:Pos)(pe:Expr)(ho:oB sc aB x nm=true):Pf (PX G K sc aB (.dn x e) (.Assign [.Name nm np] pe pos)):=
 @Ex.casesOn (fun e=>Pf (PX G K sc aB (.dn x e) (.Assign [.Name nm np] pe pos))) e none (fun U=>none) (fun U=>none) (fun U=>none) (fun U=>none) (fun U=>none) (fun U U U=>none) (fun U=>none) (fun U=>none)
 (fun U U=>none) (fun U U=>none) (fun U U U=>none) (fun U U U=>none) (fun U U U U U=>none) (fun U U=>none) (fun U U=>none) (fun U=>none) (fun U U=>none) (fun U U U=>none) (fun U U=>none)
 (fun U U=>none) (fun U U U=>none) (fun U=>none)
 (fun es=>Kt (P:=fun pe=>PX G K sc aB (.dn x (.lst es)) (.Assign [.Name nm np] pe pos)) pe fun fM U=>ck (es.length<=1000) fun h=>(Kx (pR G K.toCk) sc aB es fM).b fun hs=>ok fun y=>I0 (gA ho) (fun aA=>nz rfl _ _ aA) (fun ks vs q=>nomatch q) (EM h (hs y.c)))
 (fun ks vs=>iR (P:=fun ks=>PX G K sc aB (.dn x (.dict ks vs)) (.Assign [.Name nm np] pe pos)) ks fun k1 k2=>iR (P:=fun vs=>PX G K sc aB (.dn x (.dict [k1,k2] vs)) (.Assign [.Name nm np] pe pos)) vs fun e1 e2=>
  VF (Q:=fun pe=>PX G K sc aB (.dn x (.dict [k1,k2] [e1,e2])) (.Assign [.Name nm np] pe pos)) pe fun t1 U U t2 U U p1 p2 U=>ck (t1=⟨k1.toArray⟩) fun h1=>ck (t2=⟨k2.toArray⟩) fun h2=>ck (k1≠k2) fun h3=>(pE sc aB e1 p1).b fun h4=>(pE sc aB e2 p2).b fun h5=>ok (Iz ho h1 h2 h3 h4 h5))
 (fun a b c d f g=>ck (sc.kind = .function) fun hk=>ck (qx sc nm np pe=true) fun ht=>(VC (pR G K.toCk) sc aB a b c d f g pe).b fun h=>ok (LA true hk ho ht h (fun U ks vs q=>nomatch q)))
 (fun U U U U U U=>none)
noncomputable def Zc(e:Ex)(pe:Expr):Pf (RN G K.toCk sc aB e pe):=
 @Ex.casesOn (fun e=>Pf (RN G K.toCk sc aB e pe)) e none (fun U=>none) (fun U=>none) (fun U=>none) (fun U=>none) (fun U=>none) (fun U U U=>none) (fun U=>none) (fun U=>none)
 (fun U U=>none) (fun U U=>none) (fun U U U=>none) (fun U U U=>none) (fun U U U U U=>none) (fun U U=>none) (fun U U=>none) (fun U=>none) (fun U U=>none) (fun U U U=>none) (fun U U=>none)
 (fun U U=>none) (fun U U U=>none) (fun U=>none) (fun U=>none) (fun U U=>none) (fun a b c d f g=>VC (pR G K.toCk) sc aB a b c d f g pe) fun a b c d f g=>RO (pR G K.toCk) sc aB a b c d f g pe
noncomputable def qX(st:Sx)(ps:Stmt):Pf (PX G K sc aB st ps):=@Sx.casesOn (fun st=>Pf (PX G K sc aB st ps)) st
 (fun e=>PyProof.Rows.plain0.match_1 (fun s=>Pf (PX G K sc aB (.expr e) s)) ps (fun pe U=>ck (sc.kind = .function) fun h1=>ck (pv pe=true) fun h2=>(pE sc aB e pe).b fun h=>ok fun y=>IX h1 (fun aA=>nz h2 _ _ aA) (h y.c)) fun U=>none)
 (fun x e=>LB ps fun nm U mn apos pe nu U=>ck (sc.kind = .function) fun h1=>ck (mn=Str.ofString "append") fun h2=>ck (aB[x]?=some nm) fun h3=>ck ((nm==("__debug__":Str))=false) fun h4=>ck ((nm==("__classdict__":Str))=false) fun h5=>ck (notStar pe=true) fun h6=>ck (apos.endLine=nu.line) fun h7=>(pE sc aB e pe).b fun h=>ok (NU h1 h2 h3 h4 h5 h6 h7 h))
 (fun x e=>LB ps fun nm U mn apos pe nu U=>ck (sc.kind = .function) fun h1=>ck (mn=Str.ofString "extend") fun h2=>ck (aB[x]?=some nm) fun h3=>ck ((nm==("__debug__":Str))=false) fun h4=>ck ((nm==("__classdict__":Str))=false) fun h5=>ck (notStar pe=true) fun h6=>ck (apos.endLine=nu.line) fun h7=>(pE sc aB e pe).b fun h=>ok (NV h1 h2 h3 h4 h5 h6 h7 h))
 (fun e=>C1 ps (fun pe U=>(pE sc aB e pe).b fun h=>ok fun y=>Ml (h y.c)) (fun U=>(XQ e).b fun h=>ok (NX h)) (fun U=>none) (fun U U=>none) fun U U U U=>none)
 (fun x e=>FK ps fun nm np pe pos=>ck (oB sc aB x nm=true) fun ho=>if h2:pv pe=true then(pE sc aB e pe).b fun h=>ok fun y=>Mn (gA ho) (fun aA=>nz h2 _ _ aA) (h y.c)
  else ck (sc.kind = .function) fun hk=>ck (qx sc nm np pe=true) fun ht=>(Zc sc aB e pe).b fun h=>ok (LA false hk ho ht h (fun q=>nomatch q)))
 (fun x e=>FK ps fun nm np pe pos=>ck (oB sc aB x nm=true) fun ho=>RS sc aB x e nm np pos pe ho)
 (fun xs e=>xU ps fun t pe pos=>BH (P:=fun t=>PX G K sc aB (.iM xs e) (.Assign [t] pe pos)) t fun fO k p=>ck (sc.kind = .function) fun hk=>(pE sc aB e pe).b fun h=>if hn:(Ip [.Tuple fO k p] pe).isNone=true then(pT sc aB (.tup xs) (.Tuple fO k p)).b fun ht=>ok fun y=>Ei ht (fun aA=>oA _ aA) (o0 hn) (h y.c)
  else(BH (P:=fun pe=>PE G K.toCk sc aB e pe->PX G K sc aB (.iM xs e) (.Assign [.Tuple fO k p] pe pos)) pe fun vs k' p'=>if hf:xS vs=true then(pT sc aB (.tup xs) (.Tuple fO k p)).b fun ht=>ok fun h y=>Ei ht (fun aA=>oA _ aA) (sj hf) (h y.c)
   else(pE sc aB e (.Tuple vs k' p')).b fun h=>(RQ sc aB xs e fO vs k k' p p' pos hk h).b fun q=>ok fun U=>q).b fun g=>ok (g h))
 (fun o n e=>xU ps fun t pe pos=>rA (P:=fun t=>PX G K sc aB (.gz o n e) (.Assign [t] pe pos)) t fun po nm U=>ck (nm=⟨n.toArray⟩) fun hn=>ck (n∈K.T.atts) fun h2=>(pE sc aB e pe).b fun h=>(pE sc aB o po).b fun h'=>ok (JB hn h2 h h'))
 (fun o i e=>xU ps fun t pe pos=>BG (P:=fun t=>PX G K sc aB (.uU o i e) (.Assign [t] pe pos)) t fun po pi U=>(pE sc aB e pe).b fun h=>(pE sc aB o po).b fun h'=>(pE sc aB i pi).b fun ik=>ok fun y=>I8 (fun aA=>CZ _ aA) (h y.c) (h' y.c) (ik y.c))
 (fun x op e=>FL ps fun t po pe pos=>d5 (P:=fun t=>PX G K sc aB (.hJ x op e) (.AugAssign t po pe pos)) t fun nm U=>ck (jo op po=true) fun h1=>ck (oB sc aB x nm=true) fun h2=>ck ((nm==("__classdict__":Str))=false) fun h3=>(pE sc aB e pe).b fun h=>ok fun y=>I6 h1 (gA h2) h3 (h y.c))
 (fun o n op e=>FL ps fun t po pe pos=>rA (P:=fun t=>PX G K sc aB (.g9 o n op e) (.AugAssign t po pe pos)) t fun Uf nm U=>ck (jo op po=true) fun h1=>ck (nm=⟨n.toArray⟩) fun hn=>ck (n∈K.T.atts) fun h2=>(pE sc aB o Uf).b fun h=>(pE sc aB e pe).b fun h'=>ok (JC h1 hn h2 h h'))
 (fun o i op e=>FL ps fun t TX pe pos=>BG (P:=fun t=>PX G K sc aB (.uV o i op e) (.AugAssign t TX pe pos)) t fun po pi U=>ck (jo op TX=true) fun h1=>ck (mU pi=true) fun h2=>(pE sc aB o po).b fun h=>(pE sc aB i pi).b fun h'=>(pE sc aB e pe).b fun ik=>ok fun y=>I9 h1 (us h2) (h y.c) (h' y.c) (ik y.c))
 (fun t a b=>C1 ps (fun U U=>none) (fun U=>none) (fun U=>none) (fun U U=>none) fun pt pa pb U=>((pR G K.toCk).C t sc aB pt).b fun ht=>(PT r sc aB a pa).b fun ha=>(PT r sc aB b pb).b fun hb=>ok fun y=>IY (ht y.c) (ha y) (hb y))
 (fun t b=>FM ps (fun U U U U=>none) fun pt pb U=>((pR G K.toCk).C t sc aB pt).b fun ht=>(PT r sc aB b pb).b fun hb=>ok fun y=>Ed (ht y.c) (hb y))
 (fun t s b=>FM ps (fun target iter pb U=>(qS (pR G K.toCk) sc aB s iter).b fun hs=>ck (oZ iter=true) fun h2=>(pT sc aB t target).b fun ht=>(PT r sc aB b pb).b fun hb=>ok fun y=>Mp (hs y.c) (mV h2) ht (hb y)) fun U U U=>none)
 (fun h es=>C1 ps (fun U U=>none) (fun U=>none) (fun U=>none) (fun x p=>uv (P:=fun x=>PX G K sc aB (.raise h es) (.Raise (some x) none p)) x fun nR U pe pr U=>ck (h=K.h) fun h1=>ck (nR=K.nR) fun h2=>ck (th sc nR=true) fun h3=>ck ((pe::pr).all notStar=true) fun h4=>(Kx (pR G K.toCk) sc aB es (pe::pr)).b fun hs=>ok (FJ h1 h2 h3 h4 hs)) fun U U U U=>none)
 (fun b=>RP ps fun pb nS U U U U U U=>ck (nS=K.nS) fun h1=>ck (th sc nS=true) fun h2=>(PT r sc aB b pb).b fun hb=>ok (NW h1 h2 hb))
 (C1 ps (fun U U=>none) (fun U=>none) (fun U=>ok fun y=>Mm) (fun U U=>none) fun U U U U=>none)
 (ok JD)
end
noncomputable def VG(G:GC)(K:Cx)(n:Nat):Rx G K:=Nat.rec ⟨fun U U U U=>none⟩ (fun U r=>⟨fun e sc aB pe=>qX r sc aB e pe⟩) n
noncomputable def Zd(es:List Sx)(sc:Scope)(aB:List Str)(pe:List Stmt):Pf (Kz G K sc aB es pe):=PT (VG G K 40) sc aB es pe
end
structure XS(G:GC)(T:Tb):Prop where
 PM:∀(f:Nat) nm fa,T.fns[f]?=some (nm,fa)->nsIn G.K mainGlobals nm=some (some (.ref fa))/\keepIn G.K (Value.ref fa)=true
 QW:∀(g:Nat) nm v,T.wk[g]?=some (nm,v)->nsIn G.K mainGlobals nm=some (some v)
 TL:nsIn G.K mainGlobals T.ab=some (some (.ref G.RC))/\keepIn G.K (Value.ref G.RC)=true
 TM:∀n∈T.atts,findIn G.K (Value.ref G.RC) (⟨n.toArray⟩:Str)=some none
 cls:plainGet G.K G.RC (Str.ofString "")=true/\hasDictIn G.K G.RC=true
 EA:findIn G.K (Value.ref G.RC) ("__setattr__":Str)=some (some (.builtin "object.__setattr__"))/\plainOver G.K G.RC=true
 bi:∀nm∈mK,nsIn G.K mainGlobals nm=some none
inductive RT(G:GC)(K:Cx)(fns:List Fn)(f:Nat)(fa:Addr):Prop
 |mk (F:Fn) (aB:List Str) (fd:FuncData) (body:List Stmt) (h1:fns[f]?=some F) (h2:iQ G fa F aB fd body) (h3:Kz G K fd.scope aB F.body body)
inductive RU(G:GC)(K:Cx)(ini:Fn):Prop
 |mk (fa:Addr) (aB:List Str) (fd:FuncData) (body:List Stmt) (h1:iQ G fa ini aB fd body) (h2:Kz G K fd.scope aB ini.body body) (h3:makesIn G.K G.RC=true) (h4:findIn G.K (.ref G.RC) "__init__"=some (some (.ref fa))) (h5:typeIn G.K (.ref fa)=some (.type "function"))
structure PU(G:GC)(K:Cx)(fns:List Fn)(ini:Fn)(gl:Nat->AV):Prop where
 fn:∀(f:Nat) nm fa,K.T.fns[f]?=some (nm,fa)->RT G K fns f fa
 ini:RU G K ini
 fix:XS G K.T
 wk:∀W:dP,W.gl=gl->Uz G K.T W K.dct
 Ze:Flt G K
section
variable{G:GC}{K:Cx}{fns:List Fn}{ini:Fn}{gl:Nat->AV}{lf:Nat}
theorem eL.less{D D':Nat}(r:eL A D)(h:D'<=D):eL A D':=⟨by have:=r.1;omega,by have:=r.2;omega⟩
theorem NZ(P:PU G K fns ini gl)(W:dP)(hW:W.gl=gl):∀(g:Nat) nm v B,K.T.wk[g]?=some (nm,v)->Bs G B->VR B (fun U=>False) [] v (W.gl g)\/∃l a,W.gl g = .tup l/\v = .ref a/\∀A E s x t b (Q:Value->Shared->Prop),B.StaysIn s.heap->fp (.str x) l=some b->
  (∀tk,Q (.bool b) {s with toks:=tk})->wpAny (model G.prog G.w) A (compareOp .In (.str ⟨x.toArray⟩ t) v) Q E s:=fun g nm v B hg bs=>by
 by_cases q:g=K.dct
 ·subst q;exact .inr ((P.wk W hW).dict nm v hg B bs)
 ·exact .inl ((P.wk W hW).data g nm v hg q B bs)
noncomputable def lA(fns:List Fn)(ini:Fn)(gl:Nat->AV)(lf n:Nat)(mk:List AV->aC->aD AV):dP:={call:=bL fns ini gl lf n,make:=mk,gl:=gl}
noncomputable def BK(fns:List Fn)(ini:Fn)(gl:Nat->AV)(lf n:Nat)(args:List AV)(c:aC):aD AV:=match n with
 |0=>.fail|n+1=>fT (lA fns ini gl lf n fun U U=>.fail) lf ini args c
theorem zb(n f:Nat)(args:List AV)(c:aC):bL fns ini gl lf (n+1) f args c=match fns[f]? with
  |some F=>d3 (lA fns ini gl lf n (BK fns ini gl lf n)) lf F args c|none=>.fail:=by
 refine .trans (kW ..)<|?_;rfl
noncomputable def BM(G:GC)(K:Cx)(W:dP)(D:Nat):Prop:=∀(f:Nat) nm fa,K.T.fns[f]?=some (nm,fa)->∀A B l X s V c vs args,Bs G B->n3 G A B l s.heap V c->Rel G X s.heap V c->(∀b,X b->B.get? b=none/\b∉bz l)->eL A D->cN s.heap (LX X V c) V vs args->W.call f args c≠.fail->
 wpAny (model G.prog G.w) A (PySem.call (Value.ref fa) vs) (CE G X (bz l) s V c (W.call f args c)) (Exc G X l s V c (W.call f args c)) s
noncomputable def FN(G:GC)(W:dP)(D:Nat):Prop:=∀A B l X s V c vs args,Bs G B->n3 G A B l s.heap V c->Rel G X s.heap V c->(∀b,X b->B.get? b=none/\b∉bz l)->eL A D->cN s.heap (LX X V c) V vs args->W.make args c≠.fail->
 wpAny (model G.prog G.w) A (PySem.call (Value.ref G.RC) vs) (CE G X (bz l) s V c (W.make args c)) (Exc G X l s V c (W.make args c)) s
theorem LD(P:PU G K fns ini gl){D:Nat}(hW:W.gl=gl)(h1:BM G K W D)(h2:FN G W D):Wd G K.T W D:=
 ⟨h1,h2,P.fix.PM,P.fix.QW,NZ P W hW,P.fix.TL,P.fix.TM,P.fix.cls,P.fix.EA,P.fix.bi⟩
theorem rB{D:Nat}(h:∀args c,W.make args c = .fail):FN G W D:=fun A B l X s V c vs args U U U U U U aK=>aX (h args c) aK
theorem BN(P:PU G K fns ini gl){W:dP}{D:Nat}(hD:4<=D)(aG:Wd G K.T W D)(hW:W.gl=gl){F:Fn}{sc:Scope}{aB:List Str}{body:List Stmt}(h:Kz G K sc aB F.body body){B:Heap} :
  ∀A' l',eL A' (D+1)->nr G K.T W lf A' B l' sc aB F.body body:=fun A' l' r=>
 h ⟨⟨W,D,A',B,l',r.less (Nat.le_succ _),aG,P.wk W hW⟩,lf,r,hD,P.Ze⟩
theorem FO(P:PU G K fns ini gl):∀n,BM G K (lA fns ini gl lf n fun U U=>.fail) (3*n+4)/\∀mk,BM G K (lA fns ini gl lf n mk) (3*n+4):=by
 have gen:∀n,(∀mk,BM G K (lA fns ini gl lf n mk) (3*n+4))/\FN G (lA fns ini gl lf n (BK fns ini gl lf n)) (3*n+4):=by
  intro n;induction n with
  |zero=>exact⟨fun mk f nm fa U A B l X s V c vs args U U U U U U aK=>aX (by show bL fns ini gl lf 0 f args c = .fail;exact rfl) aK,rB fun U U=>rfl⟩
  |succ n ih=>
   obtain⟨XT,Zf⟩:=ih;refine⟨fun mk f nm fa hf A B l X s V c vs args bs S R sX r hv aK=>?_,fun A B l X s V c vs args bs S R sX r hv aK=>?_⟩
   ·obtain⟨F,aB,fd,body,e,Q,hb⟩:=P.fn f nm fa hf;have e1:(lA fns ini gl lf (n+1) mk).call f args c=d3 (lA fns ini gl lf n (BK fns ini gl lf n)) lf F args c:=by
     show bL fns ini gl lf (n+1) f args c=_
     (refine .trans (zb ..)<|?_;rw[e])
    rw[e1]at aK⊢;exact Qv (D:=3*n+4+1) Q (BN P (by omega) (LD P rfl (XT _) Zf) rfl hb) bs S R sX (r.less (by omega)) hv aK
   ·obtain⟨fa,aB,fd,body,Q,hb,q1,q2,q3⟩:=P.ini;have e1:(lA fns ini gl lf (n+1) (BK fns ini gl lf (n+1))).make args c=fT (lA fns ini gl lf n fun U U=>.fail) lf ini args c:=rfl;rw[e1]at aK⊢;exact NC (D:=3*n+4+1) Q q1 q2 q3 (BN P (by omega) (LD P rfl (XT _) (rB fun U U=>rfl)) rfl hb) bs S R sX (r.less (by omega)) hv aK
 exact fun n=>⟨(gen n).1 _,(gen n).1⟩
end
theorem BO:∀{vs:List Value}{ns:List Int},IntsAre vs ns->cN h P V vs (ns.map .int)
 |_,_,.nil=>.nil|_,_,.cons n t r=>.cons (.int n t) (BO r)
section
variable{G:GC}{K:Cx}{fns:List Fn}{ini:Fn}{gl:Nat->AV}{lf n:Nat}
theorem N0(P:PU G K fns ini gl){f:Nat}(hf:K.T.fns[f]?=some (nm,fa))(bs:Bs G s.heap)(hn:3*n+4+(1+claimMargin)<=recursionLimit)(hu:4+12*(3*n+4)+100<=cLine)(hl:s.heap.IsList a vs.toArray)(hv:IntsAre vs ns)
  (he:bL fns ini gl lf n f [.lst (ns.map .int)] [] = .ok (.bool b) c')
  (h:∀h' tk,(∀b o,s.heap.get? b=some o->h'.get? b=some o)->Q (.bool b) {s with heap:=h',toks:=tk}) :
  wpAny (model G.prog G.w) callerA (PySem.call (Value.ref fa) [.ref a]) Q E s:=by
 have nl:∀b,¬ci [] [] b:=by rintro b ⟨i,p,x,e,_⟩;exact ak e
 have S:n3 G callerA s.heap [] s.heap [] []:=⟨rfl,rfl,trivial,fun _ _ e=>e,fun b q=>aX q (nl b),fun b q=>(nomatch q),fun b q=>(nomatch q)⟩
 have R:Rel G (fun _=>False) s.heap [] []:=⟨rfl,fun i j p q x y e=>(nomatch e),fun a q=>q.elim,fun a q=>q.elim,fun i p x e=>(nomatch e)⟩
 have aS:cN s.heap (LX (fun _=>False) [] []) [] [.ref a] [.lst (ns.map .int)]:=.cons (.lst hl (fun q=>q.elim id (nl a)) (BO hv)) .nil;have W:=(FO (lf:=lf) P n).1 f nm fa hf callerA s.heap [] (fun _=>False) s [] [] [.ref a] [.lst (ns.map .int)] bs S R (fun b q=>q.elim) ⟨by show 1+claimMargin+_<=_;omega,by show 4+12*_+100<=_;omega⟩ aS (by
  show bL fns ini gl lf n f _ _≠_;rw[he];intro q;cases q)
 refine bJ W ?_ ?_
 ·rintro v s' ⟨x,a8,aR,e,k,Zg,VH⟩;have e':aD.ok (AV.bool b) c'=aD.ok x a8:=he.symm.trans e;induction jj e';cases VH;refine c6 k.same fun h' tk fu=>?_;subst fu;exact h h' tk fun b o e=>(k.ext b o e (nl b)).1 (by intro q;cases q)
 ·rintro e s' ⟨m,a8,aR,ea,e1,_⟩;have e':aD.ok (AV.bool b) c'=aD.exc m a8:=he.symm.trans e1;cases e'
end
theorem Pf.get{P:Prop}{x:Pf P}(h:x.isSome=true):P:=by
 cases x with
 |none=>exact eK h|some y=>exact y.down
section
variable{α:Type}{P:Prop}
noncomputable def zc(o:Option α)(F:∀x,o=some x->Pf P):Pf P:=Option.casesOn (motive:=fun q=>o=q->Pf P) o (fun _=>none) F rfl
noncomputable def FP(l:List α)(F:∀x,l=[x]->Pf P):Pf P:=List.casesOn (motive:=fun q=>l=q->Pf P) l (fun _=>none) (fun x r h=>List.casesOn (motive:=fun q=>r=q->Pf P) r (fun e=>F x (e▸h)) (fun _ _ _=>none) rfl) rfl
noncomputable def onSeq(d:Data)(F:∀vs k,d = .seq vs k->Pf P):Pf P:=PyProof.Rows.KTD.datLooks.match_1 (fun q=>d=q->Pf P) d F (fun _ _=>none) rfl
noncomputable def N1(d:Data)(F:∀fd,d = .func fd->Pf P):Pf P:=PySem.Builtin.Asyncio.calledOutOf.match_1 (fun q=>d=q->Pf P) d F (fun _ _=>none) rfl
noncomputable def JE(d:FuncBody)(F:∀b,d = .stmts b->Pf P):Pf P:=PySem.W.ktsMeths.match_1 (fun q=>d=q->Pf P) d F (fun _ _=>none) rfl
noncomputable def LF(v:Value)(F:∀a,v = .ref a->Pf P):Pf P:=PyProof.Rows.KTD.ktReadDatum.match_3 (fun q=>v=q->Pf P) v F (fun _ _=>none) rfl
noncomputable def rC(v:Value)(F:v = .none->Pf P):Pf P:=PySem.Builtin.BaseException.bexcSetTraceback.match_1 (fun q=>v=q->Pf P) v (fun _=>F) (fun _ _=>none) rfl
noncomputable def LG(v:Value)(F:∀i k,v = .int i k->Pf P):Pf P:=PyProof.Rows.ItemKind.int.match_1 (fun q=>v=q->Pf P) v F (fun _ _=>none) rfl
noncomputable def onStr(v:Value)(F:∀i k,v = .str i k->Pf P):Pf P:=PyProof.Rows.ItemKind.str.match_1 (fun q=>v=q->Pf P) v F (fun _ _=>none) rfl
noncomputable def VI(v:Value)(F:∀b,v = .bool b->Pf P):Pf P:=PyProof.Rows.isBoolOf.match_1 (fun q=>v=q->Pf P) v F (fun _ _=>none) rfl
noncomputable def N2(v:AV)(F:∀i,v = .int i->Pf P):Pf P:=@AV.casesOn (fun q=>v=q->Pf P) v (fun _=>none) (fun _ _=>none) F (fun _ _=>none) (fun _ _=>none) (fun _ _=>none) (fun _ _=>none) rfl
end
noncomputable def PV(K:Frag)(v:Value)(a:AV):Prop:=∀(h:Heap)(P:Addr->Prop)(V:Mu),K.In h->(∀a,¬P a)->VR h P V v a
noncomputable def RV(K:Frag)(v:List Value)(a:List AV):Prop:=∀(h:Heap)(P:Addr->Prop)(V:Mu),K.In h->(∀a,¬P a)->cN h P V v a
theorem N3{K:Frag}{a:Addr}{o:Obj}{vs:Array Value}{k:Nat}{l:List AV}(ho:K.lookup a=some o)(hc:o.cls = .type "tuple")(hd:o.data = .seq vs k)(h:RV K vs.toList l):PV K (.ref a) (.tup l):=fun hh P V X nP=>
 .tup ⟨o,X _ _ ho,hc,k,hd⟩ (nP _) (h hh P V X nP)
theorem BP{K:Frag}{v w:Value}{a:AV}(e:v=w)(h:∀(h:Heap)(P:Addr->Prop)(V:Mu),VR h P V w a):PV K v a:=fun _ _ _ _ _=>e▸h _ _ _
noncomputable def Zh(K:Frag)(l:List AV):∀vs,Pf (RV K vs l):=@AV.rec_1 (fun a=>∀v,Pf (PV K v a)) (fun l=>∀vs,Pf (RV K vs l))
 (fun v=>rC v fun e=>ok (BP e fun _ _ _=>.none)) (fun b v=>VI v fun b' e=>ck (b=b') fun q=>ok (BP e fun _ _ _=>q▸.bool _)) (fun b v=>LG v fun b' _ e=>ck (b=b') fun q=>ok (BP e fun _ _ _=>q▸.int _ _))
 (fun x v=>onStr v fun t _ e=>ck ((⟨x.toArray⟩:Str)=t) fun q=>ok (BP e fun _ _ _=>q▸.str _ _))
 (fun l ih v=>LF v fun a e=>zc (K.lookup a) fun o ho=>ck (o.cls = .type "tuple") fun hc=>onSeq o.data fun vs k hd=>(ih vs.toList).b fun h=>ok (e▸N3 ho hc hd h)) (fun _ _ _=>none) (fun _ _=>none)
 (fun vs=>gV (P:=fun vs=>RV K vs []) vs (ok fun U U U U U=>.nil)) (fun a as ha has vs=>f8 (P:=fun vs=>RV K vs (a::as)) vs fun w ws=>(ha w).b fun h=>(has ws).b fun hs=>ok fun hh P V X nP=>.cons (h hh P V X nP) (hs hh P V X nP)) l
noncomputable def pV(K:Frag)(a:AV)(v:Value):Pf (PV K v a):=(Zh K [a] [v]).b fun h=>ok fun hh P V X nP=>Ah.rec (motive:=fun w _=>∀u,w=[u]->VR hh P V u a) (fun v vs x _ u e=>(List.cons.inj e).1▸x) (h hh P V X nP).kX v rfl
theorem mX{α:Type}:∀{l:List α},l≠[]->∃ms n,l=ms++[n]
 |[],h=>aX rfl h|[x],U=>⟨[],x,rfl⟩|x::y::l,U=>let⟨ms,n,e⟩:=mX (l:=y::l) (by simp);⟨x::ms,n,by rw[e];rfl⟩
theorem N5{K:Frag}{F:Fn}{ns:List Str}{fd:FuncData}{i:Int}{d:Addr}{o:Obj}{vs:Array Value}{k t:Nat}(hF:F.dflt=[.int i])(hn:ns≠[])(e2:fd.defaults = .ref d)(ho:K.lookup d=some o)(hd:o.data = .seq vs k)(hv:vs.toList=[.int i t]):PD K F ns fd:=by
 refine c6 (mX hn) fun ms n e3=>?_;refine .one ms n d o (.int i t) (.int i) k e3 e2 ho ?_ hF fun h P V=>.int i t
 (refine .trans (hd ..)<|?_;rw[show vs=#[.int i t]by rw[<-Array.toList_inj];exact hv])
noncomputable def pD(K:Frag)(F:Fn)(ns:List Str)(fd:FuncData):Pf (PD K F ns fd):=if hF:F.dflt.isEmpty=true then rC fd.defaults fun hd=>ok (.no (List.isEmpty_iff.1 hF) hd) else
 FP F.dflt fun x hF=>N2 x fun i e1=>ck (ns≠[]) fun hn=>LF fd.defaults fun d e2=>zc (K.lookup d) fun o ho=>onSeq o.data fun vs k hd=>FP vs.toList fun v hv=>LG v fun j t e4=>ck (i=j) fun e=>ok (N5 (e1▸hF) hn e2 ho hd (e▸e4▸hv))
noncomputable def N6(K:Frag)(F:Fn)(aB:List Str)(fd:FuncData):Prop:=
 codeIn K fd.code fd.qualname=true/\fd.globals=mainGlobals/\fd.builtins=builtinsNs/\fd.closure.isEmpty=true/\fd.scope.isCoroutine=false/\fd.scope.isGenerator=false/\fd.scope.kind = .function/\
 aB.Nodup/\aB.length=F.nl/\F.np<=F.nl/\(fd.params.posonlyargs.isEmpty=true/\fd.params.args.map (·.arg)=aB.take F.np/\fd.params.kwonlyargs.isEmpty=true/\fd.params.vararg.isNone=true/\fd.params.kwarg.isNone=true)/\
 (∀n∈aB.take F.np,fd.scope.names.lookup n=some .local\/fd.scope.names.lookup n=some .cell)/\
 (∀x∈fd.scope.names,(x.2 = .cell\/x.2 = .free)->((cellsFrom 0 fd.scope.names []).lookup x.1).isSome=true)
noncomputable def BQ(K:Frag)(F:Fn)(aB:List Str)(fd:FuncData):Decidable (N6 K F aB fd):=by unfold N6;infer_instance
noncomputable def oC(sc:Scope):List Str:=sc.names.filterMap fun(n,k)=>if k == .local||k == .cell then some n else none
theorem mY(ho:G.K.lookup fa=some o)(hd:o.data = .func fd)(hb:fd.body = .stmts body)(h:N6 G.K F aB fd)(D:PD G.K F (aB.take F.np) fd):iQ G fa F aB fd body:=
 have r:=h.2.2.2;have r':=r.2.2.2;have t:=r'.2.2.2
 ⟨⟨o,ho,hd⟩,hb,h.1,h.2.1,h.2.2.1,List.isEmpty_iff.1 r.1,r.2.1,r.2.2.1,r'.1,r'.2.1,r'.2.2.1,t.1,⟨List.isEmpty_iff.1 t.2.1.1,t.2.1.2.1,List.isEmpty_iff.1 t.2.1.2.2.1,Option.isNone_iff_eq_none.1 t.2.1.2.2.2.1,Option.isNone_iff_eq_none.1 t.2.1.2.2.2.2⟩,t.2.2.1,
  fun nm CQ=>CQ.elim (fun e=>t.2.2.2 _ (dE e) (.inl rfl)) (fun e=>t.2.2.2 _ (dE e) (.inr rfl)),D⟩
noncomputable def JF(G:GC)(fa:Addr){P:Prop}(f:(o:Obj)->(fd:FuncData)->(body:List Stmt)->G.K.lookup fa=some o->o.data = .func fd->fd.body = .stmts body->Pf P):Pf P:=
 zc (G.K.lookup fa) fun o ho=>N1 o.data fun fd hd=>JE fd.body fun body hb=>f o fd body ho hd hb
noncomputable def PF(G:GC)(C:Cx)(fa:Addr)(F:Fn):Prop:=∃aB fd body,iQ G fa F aB fd body/\Kz G C fd.scope aB F.body body
noncomputable def pF(G:GC)(C:Cx)(fa:Addr)(F:Fn):Pf (PF G C fa F):=JF G fa fun o fd body ho hd hb=>@ck (N6 G.K F (oC fd.scope) fd) (BQ ..) _ fun h=>(pD G.K F ((oC fd.scope).take F.np) fd).b fun D=>(Zd F.body fd.scope (oC fd.scope) body).b fun hx=>ok ⟨_,fd,body,mY ho hd hb h D,hx⟩
noncomputable def nD(n:Str):Bool:=!(n==("__debug__":Str))
noncomputable def T7(n:Str):Bool:=!(n==("__debug__":Str))&&!(n==("__classdict__":Str))
noncomputable def zd(sc:Scope)(n:Str):Bool:=decide (sc.names.lookup n=some .local)&&nD n
theorem gP(h:zd sc n=true):sc.names.lookup n=some .local/\(n==("__debug__":Str))=false:=by
 unfold zd nD at h;rw[be,decide_eq_true_eq,Bool.not_eq_true']at h;exact h
theorem FQ(h:T7 n=true):(n==("__debug__":Str))=false/\(n==("__classdict__":Str))=false:=by
 unfold T7 at h;rw[be,Bool.not_eq_true',Bool.not_eq_true']at h;exact h
noncomputable def VJ{P:Stmt->Prop}(ps:Stmt)(F:∀e p1 i ap s p2 t p3 cp sp,Pf (P (.Expr (.Call (.Attribute (.Name e p1) i ap) [.Name s p2,.Name t p3] [] cp) sp))):Pf (P ps):=PyProof.Rows.plain0.match_1 (fun s=>Pf (P s)) ps (fun e sp=>uu (P:=fun e=>P (.Expr e sp)) e fun o i ap l cp=>
 d5 (P:=fun o=>P (.Expr (.Call (.Attribute o i ap) l [] cp) sp)) o fun e p1=>iR (P:=fun l=>P (.Expr (.Call (.Attribute (.Name e p1) i ap) l [] cp) sp)) l fun s t=>d5 (P:=fun s=>P (.Expr (.Call (.Attribute (.Name e p1) i ap) [s,t] [] cp) sp)) s fun s p2=>
 d5 (P:=fun t=>P (.Expr (.Call (.Attribute (.Name e p1) i ap) [.Name s p2,t] [] cp) sp)) t fun t p3=>F e p1 i ap s p2 t p3 cp sp) fun _=>none
noncomputable def VK{P:Stmt->Prop}(ps:Stmt)(F:∀s q1 a aq v q2 sq,Pf (P (.Assign [.Attribute (.Name s q1) a aq] (.Name v q2) sq))):Pf (P ps):=xU ps fun t e sq=>d5 (P:=fun e=>P (.Assign [t] e sq)) e fun v q2=>rA (P:=fun t=>P (.Assign [t] (.Name v q2) sq)) t fun o a aq=>d5 (P:=fun o=>P (.Assign [.Attribute o a aq] (.Name v q2) sq)) o fun s q1=>F s q1 a aq v q2 sq
noncomputable def LH{P:List Stmt->Prop}(body:List Stmt)(F:∀e p1 i ap s p2 t p3 cp sp s4 q1 a aq v q2 sq,Pf (P [.Expr (.Call (.Attribute (.Name e p1) i ap) [.Name s p2,.Name t p3] [] cp) sp,.Assign [.Attribute (.Name s4 q1) a aq] (.Name v q2) sq])):Pf (P body):=
 iR body fun x y=>VJ (P:=fun x=>P [x,y]) x fun e p1 i ap s p2 t p3 cp sp=>VK (P:=fun y=>P [_,y]) y fun s4 q1 a aq v q2 sq=>F e p1 i ap s p2 t p3 cp sp s4 q1 a aq v q2 sq
theorem FR{P:List Stmt->Prop}{e i s t s4 a v e' i' s' t' XU a' v':Str}{p1 ap p2 p3 cp sp q1 aq q2 sq:Pos}(h:e'=e/\i'=i/\s'=s/\t'=t/\XU=s4/\a'=a/\v'=v)(q:P [.Expr (.Call (.Attribute (.Name e p1) i ap) [.Name s p2,.Name t p3] [] cp) sp,.Assign [.Attribute (.Name s4 q1) a aq] (.Name v q2) sq]) :
  P [.Expr (.Call (.Attribute (.Name e' p1) i' ap) [.Name s' p2,.Name t' p3] [] cp) sp,.Assign [.Attribute (.Name XU q1) a' aq] (.Name v' q2) sq]:=by
 rw[h.1,h.2.1,h.2.2.1,h.2.2.2.1,h.2.2.2.2.1,h.2.2.2.2.2.1,h.2.2.2.2.2.2];exact q
noncomputable def VL(sc:Scope)(sN tN:Str)(body:List Stmt):Pf (pn sc sN tN body):=LH body fun e p1 i ap s2 p2 t3 p3 cp sp s4 q1 tx aq t5 q2 sq=>
 ck (e=("Exception":Str)/\i=("__init__":Str)/\s2=sN/\t3=tN/\s4=sN/\tx=("text":Str)/\t5=tN) fun h=>ck (ap.endLine=cp.line) fun h8=>ck (sc.kind = .function) fun h9=>ck (sc.names.lookup (Str.ofString "Exception")=some .globalImplicit) fun PW=>
 ck (zd sc sN=true) fun N7=>ck (zd sc tN=true) fun RW=>ck (sN≠tN) fun T8=>ok (FR (P:=pn sc sN tN) h ⟨h9,⟨_,_,_,_,_,_,_,_,_,_,rfl,h8,fun aA=>rfl,fun aA=>rfl,fun aA=>rfl⟩,PW,(gP N7).1,(gP RW).1,(gP N7).2,(gP RW).2,T8⟩)
noncomputable def VM(K:Frag)(P:Addr)(sc:Scope)(sN lN tN:Str)(body:List Stmt):Pf (∃nP,pq sc nP sN lN tN body/\nsIn K mainGlobals nP=some (some (.ref P))):=LH (P:=fun body=>∃nP,pq sc nP sN lN tN body/\nsIn K mainGlobals nP=some (some (.ref P))) body fun nP p1 i ap s2 p2 t3 p3 cp sp s4 q1 li aq l5 q2 sq=>
 ck (nP=nP/\i=("__init__":Str)/\s2=sN/\t3=tN/\s4=sN/\li=("line":Str)/\l5=lN) fun h=>ck (ap.endLine=cp.line) fun h8=>ck (sc.kind = .function) fun h9=>ck (th sc nP=true) fun PW=>
 ck (zd sc sN=true) fun N7=>ck (zd sc lN=true) fun RW=>ck (zd sc tN=true) fun T8=>ck (nsIn K mainGlobals nP=some (some (.ref P))) fun Zi=>ok (FR (P:=fun body=>∃nP,pq sc nP sN lN tN body/\nsIn K mainGlobals nP=some (some (.ref P))) h ⟨nP,⟨h9,⟨_,_,_,_,_,_,_,_,_,_,rfl,h8,fun aA=>rfl,fun aA=>rfl,fun aA=>rfl⟩,(df PW).1,(gP N7).1,(gP RW).1,(gP T8).1,(df PW).2,(gP N7).2,(gP RW).2,(gP T8).2⟩,Zi⟩)
noncomputable def N8{P:List Stmt->Prop}(body:List Stmt)(F:∀nS p1 nH p2 r3 p3 p4 t5 p5 p6 p7,Pf (P [.Return (some (.Call (.Name nS p1) [.Call (.Name nH p2) [.Name r3 p3] [] p4,.Name t5 p5] [] p6)) p7])):Pf (P body):=j4 body fun x=>
 C1 (P:=fun x=>P [x]) x (fun e p7=>mW (P:=fun e=>P [.Return (some e) p7]) e fun nS p1 l p6=>iR (P:=fun l=>P [.Return (some (.Call (.Name nS p1) l [] p6)) p7]) l fun a b=>d5 (P:=fun b=>P [.Return (some (.Call (.Name nS p1) [a,b] [] p6)) p7]) b fun t5 p5=>
  mW (P:=fun a=>P [.Return (some (.Call (.Name nS p1) [a,.Name t5 p5] [] p6)) p7]) a fun nH p2 l p4=>j4 (P:=fun l=>P [.Return (some (.Call (.Name nS p1) [.Call (.Name nH p2) l [] p4,.Name t5 p5] [] p6)) p7]) l fun r=>
  d5 (P:=fun r=>P [.Return (some (.Call (.Name nS p1) [.Call (.Name nH p2) [r] [] p4,.Name t5 p5] [] p6)) p7]) r fun r3 p3=>F nS p1 nH p2 r3 p3 p4 t5 p5 p6 p7) (fun _=>none) (fun _=>none) (fun _ _=>none) fun _ _ _ _=>none
noncomputable def VN(G:GC)(T:Tb)(hh:Nat)(sc:Scope)(rN tN:Str)(body:List Stmt):Pf (ur G T hh sc rN tN body):=N8 body fun nS p1 nH p2 r3 p3 p4 t5 p5 p6 p7=>
 ck (T.fns[hh]?.map (·.1)=some nH) fun h1=>ck (r3=rN/\t5=tN) fun h=>ck (th sc nS=true) fun h4=>ck (th sc nH=true) fun h5=>ck (nsIn G.K mainGlobals nS=some (some (.ref G.SF))) fun h6=>ck (T7 rN=true) fun h7=>ck (T7 tN=true) fun h8=>ck (keepIn G.K (.ref G.SF)=true) fun h9=>ok (h.elim fun a b=>by
  subst a;subst b;obtain⟨fH,hf⟩:=map_fst h1;exact⟨⟨_,_,fH,_,_,_,_,_,_,_,rfl,hf,(df h4).1,(df h5).1,(df h4).2,(df h5).2,h6⟩,FQ h7,FQ h8,h9⟩)
noncomputable def RX{α:Type}{P:Prop}(l:List α)(F:α->α->Pf P):Pf P:=iR (P:=fun _=>P) l F
noncomputable def VO{α:Type}{P:Prop}(l:List α)(F:α->α->α->Pf P):Pf P:=f8 (P:=fun _=>P) l fun a r=>iR (P:=fun _=>P) r (F a)
noncomputable def f2:Fn:=⟨2,2,[],[]⟩
noncomputable def f3:Fn:=⟨3,3,[],[]⟩
theorem ze{K:Frag}{ns:List Str}{F:Fn}{fd:FuncData}(hF:F.dflt=[])(h:fd.defaults = .none):PD K F ns fd:=.no hF h
noncomputable def RY(G:GC)(fP:Addr):Pf (Ev G fP):=JF G fP fun o fd body ho hd hb=>rC fd.defaults fun hn=>RX (oC fd.scope) fun sN tN=>
 @ck (N6 G.K f2 [sN,tN] fd) (BQ ..) _ fun h=>(VL fd.scope sN tN body).b fun ht=>ok ⟨f2,sN,tN,fd,body,mY ho hd hb h (ze rfl hn),rfl,hn,ht⟩
noncomputable def RZ(G:GC)(fI P:Addr):Pf (Ew G P fI):=JF G fI fun o fd body ho hd hb=>rC fd.defaults fun hn=>VO (oC fd.scope) fun sN lN tN=>
 @ck (N6 G.K f3 [sN,lN,tN] fd) (BQ ..) _ fun h=>(VM G.K P fd.scope sN lN tN body).b fun ht=>ok (ht.elim fun nP q=>⟨f3,nP,sN,lN,tN,fd,body,mY ho hd hb h (ze rfl hn),rfl,hn,q.1,q.2⟩)
noncomputable def R0(G:GC)(T:Tb)(hh:Nat)(fR:Addr):Pf (Kr G T hh fR):=JF G fR fun o fd body ho hd hb=>rC fd.defaults fun hn=>RX (oC fd.scope) fun rN tN=>
 @ck (N6 G.K f2 [rN,tN] fd) (BQ ..) _ fun h=>(VN G T hh fd.scope rN tN body).b fun ht=>ok ⟨f2,rN,tN,fd,body,mY ho hd hb h (ze rfl hn),rfl,hn,ht⟩
noncomputable def VP(G:GC)(C:Cx)(P fI fP fR:Addr)(hi:findCls G.K (.ref P) (.type "type") "__init__"=some (.val (.ref fP))):Pf (Flt G C):=
 ck (excIn G.K G.SF P fI=true) fun h1=>ck (specialIn G.K (.ref P) "__getattribute__"=some (some (.builtin "type.__getattribute__"))) fun h2=>ck (readsIn G.K P (.type "type")=true) fun h3=>ck (keepIn G.K (.ref fP)=true) fun h4=>ck (nsIn G.K mainGlobals "Exception"=some none) fun h5=>
 (RY G fP).b fun h6=>(RZ G fI P).b fun h7=>(R0 G C.T C.h fR).b fun h8=>ck (keepIn G.K (.ref fR)=true) fun h9=>ck (nsIn G.K mainGlobals C.nR=some (some (.ref fR))) fun PW=>ck (nsIn G.K mainGlobals C.nS=some (some (.ref G.SF))) fun N7=>
 ok ⟨⟨P,fI,fP,Ih h1,h1,⟨h2,h3,hi,h4⟩,h5,h6,h7⟩,⟨fR,⟨h8,h9⟩,PW⟩,N7⟩
noncomputable def N9(K:Frag)(T:Tb)(RC:Addr):Prop:=
 (∀x∈T.fns,nsIn K mainGlobals x.1=some (some (.ref x.2))/\keepIn K (.ref x.2)=true)/\(∀x∈T.wk,nsIn K mainGlobals x.1=some (some x.2))/\(nsIn K mainGlobals T.ab=some (some (.ref RC))/\keepIn K (.ref RC)=true)/\
 (∀n∈T.atts,findIn K (.ref RC) ⟨n.toArray⟩=some none)/\(plainGet K RC (Str.ofString "")=true/\hasDictIn K RC=true)/\(findIn K (.ref RC) ("__setattr__":Str)=some (some (.builtin "object.__setattr__"))/\plainOver K RC=true)/\∀n∈mK,nsIn K mainGlobals n=some none
noncomputable def FS(K:Frag)(T:Tb)(RC:Addr):Decidable (N9 K T RC):=by unfold N9;infer_instance
noncomputable def R6(K:Frag)(T:Tb)(RC:Addr):Bool:=@decide (N9 K T RC) (FS ..)
theorem JG(h:R6 G.K T G.RC=true):XS G T:=
 have h:=@of_decide_eq_true _ (FS ..) h
 ⟨fun f nm fa e=>h.1 (nm,fa) (eN e),fun g nm v e=>h.2.1 (nm,v) (eN e),h.2.2.1,h.2.2.2.1,h.2.2.2.2.1,h.2.2.2.2.2.1,h.2.2.2.2.2.2⟩
end Internal
end
section
open PySem
set_option backward.match.sparseCases true
namespace Internal
noncomputable def gQ:List Sx:=[.asg 2 (.bin .add (.attr (.loc 0) [97,116]) (.loc 1)),
 .ite
  (.cmp
   .lt
   (.loc 2)
   (.bi .len [.attr (.loc 0) [116,111,107,101,110,115]]))
  [.ret (.sub (.attr (.loc 0) [116,111,107,101,110,115]) (.loc 2))]
  [],
 .ite
  (.cmp .eq (.attr (.loc 0) [116,111,107,101,110,115]) (.lst []))
  [.ag]
  [],
 .ret
  (.tup
   [.str [],
    .str [],
    .sub
     (.sub (.attr (.loc 0) [116,111,107,101,110,115]) (.neg (.int 1)))
     (.int 2)])]
noncomputable def lB:Fn:=⟨2,3,[],gQ⟩
noncomputable def uw:List Sx:=[.ret (.call 0 [.loc 0,.int 0])]
noncomputable def ux:Fn:=⟨1,1,[],uw⟩
noncomputable def uy:List Sx:=[.asg 1 (.call 0 [.loc 0,.int 0]),
 .g9 (.loc 0) [97,116] .add (.int 1),
 .ret (.loc 1)]
noncomputable def uz:Fn:=⟨1,2,[],uy⟩
noncomputable def xV:List Sx:=[.ret (.sub (.call 0 [.loc 0,.int 0]) (.int 2))]
noncomputable def xW:Fn:=⟨1,1,[],xV⟩
noncomputable def C2:List Sx:=[.ret
 (.cmp
  .eq
  (.jH (.call 0 [.loc 0,.loc 2]) .none (.int 2))
  (.tup [.str [111,112],.loc 1]))]
noncomputable def C3:Fn:=⟨3,3,[.int 0],C2⟩
noncomputable def C4:List Sx:=[.ret
 (.cmp
  .eq
  (.jH (.call 0 [.loc 0,.loc 2]) .none (.int 2))
  (.tup [.str [119,111,114,100],.loc 1]))]
noncomputable def C5:Fn:=⟨3,3,[.int 0],C4⟩
noncomputable def xX:List Sx:=[.ite
  (.not_ (.val (.call 4 [.loc 0,.loc 1])))
  [.ret (.bool false)]
  [],
 .g9 (.loc 0) [97,116] .add (.int 1),
 .ret (.bool true)]
noncomputable def xY:Fn:=⟨2,2,[],xX⟩
noncomputable def xZ:List Sx:=[.ite
  (.not_ (.val (.call 5 [.loc 0,.loc 1])))
  [.ret (.bool false)]
  [],
 .g9 (.loc 0) [97,116] .add (.int 1),
 .ret (.bool true)]
noncomputable def xa:Fn:=⟨2,2,[],xZ⟩
noncomputable def xd:List Sx:=[.ite
 (.not_ (.val (.call 6 [.loc 0,.loc 1])))
 [.raise
  3
  [.loc 0,
   .bin
    .add
    (.str [97,32,115,105,103,110,32,105,115,32,109,105,115,115,105,110,103,58,32])
    (.loc 1)]]
 []]
noncomputable def xe:Fn:=⟨2,2,[],xd⟩
noncomputable def xf:List Sx:=[.ite
  (.cmp
   .ne
   (.sub (.call 1 [.loc 0]) (.int 0))
   (.str [110,97,109,101]))
  [.raise
    3
    [.loc 0,.str [97,32,110,97,109,101,32,105,115,32,109,105,115,115,105,110,103]]]
  [],
 .ret (.sub (.call 2 [.loc 0]) (.int 1))]
noncomputable def xg:Fn:=⟨1,1,[],xf⟩
noncomputable def jM:List Sx:=[.dn 1 (.lst []),
 .i6
  (.one 2)
  (.it (.jH (.loc 0) (.int 1) .none))
  [.ite
   (.val (.bi .isTup [.loc 2]))
   [.app 1 (.loc 2)]
   [.ite
    (.val (.bi .isList [.loc 2]))
    [.i6
     (.one 3)
     (.it (.loc 2))
     [.ite
      (.and_
       [.cmp .eq (.bi .len [.loc 3]) (.int 2),
        .val (.bi .isTup [.sub (.loc 3) (.int 1)]),
        .or_
         [.cmp .is (.sub (.loc 3) (.int 0)) .none,
          .val (.bi .isList [.sub (.loc 3) (.int 0)])]])
      [.ext
        1
        (.bin
         .add
         (.or_ (.sub (.loc 3) (.int 0)) (.lst []))
         (.lst [.sub (.loc 3) (.int 1)]))]
      [.app 1 (.loc 3)]]]
    []]],
 .ret (.loc 1)]
noncomputable def dF:Fn:=⟨1,4,[],jM⟩
noncomputable def iB:List Sx:=[.asg 2 (.lst [.loc 1]),
 .i6
  (.one 3)
  (.lO (.gl 0))
  [.asg
    2
    (.jk
     2
     (.one 0)
     (.it (.loc 2))
     (.one 1)
     (.it (.call 10 [.loc 0]))
     (.loc 1)),
   .ite (.cmp .eq (.loc 2) (.lst [])) [.ret .none] []],
 .ag]
noncomputable def cO:Fn:=⟨2,4,[],iB⟩
noncomputable def xh:List Sx:=[.g9 (.loc 0) [110,101,115,116] .add (.int 1),
 .ite
  (.cmp .gt (.attr (.loc 0) [110,101,115,116]) (.gl 1))
  [.ag]
  []]
noncomputable def xi:Fn:=⟨1,1,[],xh⟩
noncomputable def vA:List Sx:=[.g9 (.loc 0) [110,101,115,116] .sub (.int 1)]
noncomputable def vB:Fn:=⟨1,1,[],vA⟩
noncomputable def eE:List Sx:=[.ite
  (.cmp .eq (.attr (.loc 0) [110,101,115,116]) (.int 0))
  [.expr (.call 11 [.loc 0,.loc 1])]
  [],
 .ret (.loc 1)]
noncomputable def jw:Fn:=⟨2,2,[],eE⟩
noncomputable def sk:List Sx:=[.ret (.cmp .nW (.loc 0) (.gl 2))]
noncomputable def sm:Fn:=⟨1,1,[],sk⟩
noncomputable def lY:List Sx:=[.ite
  (.cmp .eq (.loc 1) (.int 2))
  [.ret (.cmp .nW (.loc 0) (.gl 3))]
  [],
 .ret
  (.and_
   (.cmp .eq (.loc 1) (.int 1))
   (.cmp .nW (.loc 0) (.gl 4)))]
noncomputable def lZ:Fn:=⟨2,2,[],lY⟩
noncomputable def jN:List Sx:=[.ret
 (.call
  14
  [.loc 0,
   .call 19 [.loc 0,.call 21 [.loc 0,.call 22 [.loc 0]]]])]
noncomputable def mZ:Fn:=⟨1,1,[],jN⟩
noncomputable def rD:List Sx:=[.ite (.val (.call 5 [.loc 0,.str [97,110,100]])) [.ag] [],
 .ite (.val (.call 5 [.loc 0,.str [111,114]])) [.ag] [],
 .ite (.val (.call 5 [.loc 0,.str [120,111,114]])) [.ag] [],
 .ret (.tup [.str [],.int 0])]
noncomputable def rE:Fn:=⟨1,1,[],rD⟩
noncomputable def rF:List Sx:=[.asg 2 (.sub (.call 18 [.loc 0]) (.int 0)),
 .n4
  (.val (.bool true))
  [.iM [3,4] (.call 18 [.loc 0]),
   .ite (.cmp .eq (.loc 3) (.str [])) [.ret (.loc 1)] [],
   .ag,
   .ag,
   .ag,
   .ag]]
noncomputable def rG:Fn:=⟨2,6,[],rF⟩
noncomputable def ou:List Sx:=[.asg 1 (.call 1 [.loc 0]),
 .ite
  (.and_
   [.cmp .eq (.sub (.loc 1) (.int 0)) (.str [111,112]),
    .cmp .nW (.sub (.loc 1) (.int 1)) (.gl 5)])
  [.ag]
  [],
 .ret (.str [])]
noncomputable def ow:Fn:=⟨1,2,[],ou⟩
noncomputable def oy:List Sx:=[.asg 2 (.call 20 [.loc 0]),
 .ite
  (.cmp .ne (.loc 2) (.str []))
  [.ag,.ag]
  [.ite
   (.val (.call 5 [.loc 0,.str [105,110]]))
   [.ag,.ag]
   [.ite
    (.and_
     [.val (.call 5 [.loc 0,.str [110,111,116]]),
      .val (.call 5 [.loc 0,.str [105,110],.int 1])])
    [.ag,.ag]
    [.ret (.loc 1)]]],
 .ag,
 .ag]
noncomputable def oz:Fn:=⟨2,3,[],oy⟩
noncomputable def ef:List Sx:=[.asg 1 (.str []),
 .ite
  (.or_
    [.val (.call 4 [.loc 0,.str [43]]),
     .val (.call 4 [.loc 0,.str [45]])])
  [.ag]
  [],
 .asg 2 (.call 23 [.loc 0]),
 .ite (.cmp .ne (.loc 1) (.str [])) [.ag] [],
 .n4
  (.or_
    [.val (.call 4 [.loc 0,.str [43]]),
     .val (.call 4 [.loc 0,.str [45]]),
     .val (.call 4 [.loc 0,.str [38]])])
  [.asg 1 (.sub (.call 2 [.loc 0]) (.int 1)),
   .asg
     2
     (.tup [.str [98,105,110],.loc 1,.loc 2,.call 23 [.loc 0]])],
 .ret (.loc 2)]
noncomputable def lC:Fn:=⟨1,3,[],ef⟩
noncomputable def jx:List Sx:=[.asg 1 (.call 24 [.loc 0]),
 .n4
  (.or_
   [.val (.call 4 [.loc 0,.str [42]]),
    .val (.call 4 [.loc 0,.str [47]]),
    .val (.call 5 [.loc 0,.str [109,111,100]]),
    .val (.call 5 [.loc 0,.str [114,101,109]])])
  [.ag,.ag],
 .ret (.loc 1)]
noncomputable def o4:Fn:=⟨1,3,[],jx⟩
noncomputable def i9:List Sx:=[.ite
  (.or_
   [.val (.call 5 [.loc 0,.str [97,98,115]]),
    .val (.call 5 [.loc 0,.str [110,111,116]])])
  [.ag,.ag]
  [],
 .asg 2 (.call 25 [.loc 0]),
 .ite (.val (.call 6 [.loc 0,.str [42,42]])) [.ag] [],
 .ret (.loc 2)]
noncomputable def lD:Fn:=⟨1,3,[],i9⟩
noncomputable def eG:List Sx:=[.iM [1,2,3] (.call 1 [.loc 0]),
 .ite
  (.or_
    [.cmp .eq (.loc 1) (.str [105,110,116]),
     .cmp .eq (.loc 1) (.str [99,104,97,114])])
  [.g9 (.loc 0) [97,116] .add (.int 1),
   .ret (.tup [.loc 1,.loc 2])]
  [],
 .ite
  (.cmp .eq (.loc 1) (.str [114,101,97,108]))
  [.ag,.ag]
  [],
 .ite
  (.and_
    [.cmp .eq (.loc 1) (.str [115,116,114,105,110,103]),
     .not_ (.val (.call 4 [.loc 0,.str [40],.int 1]))])
  [.g9 (.loc 0) [97,116] .add (.int 1),
   .ret (.tup [.str [115,116,114,105,110,103],.loc 2])]
  [],
 .ite
  (.and_
    [.cmp .eq (.loc 1) (.str [111,112]),
     .cmp .eq (.loc 2) (.str [40])])
  [.ret (.call 36 [.loc 0])]
  [],
 .ite (.val (.call 7 [.loc 0,.str [110,117,108,108]])) [.ag] [],
 .ite (.val (.call 7 [.loc 0,.str [110,101,119]])) [.ag] [],
 .ret (.call 28 [.loc 0])]
noncomputable def jy:Fn:=⟨1,4,[],eG⟩
noncomputable def sn:List Sx:=[.asg 1 (.iK .lower (.sub (.call 1 [.loc 0]) (.int 1)) []),
 .ite
  (.and_
   [.cmp .ne (.loc 1) (.str [47,61]),
    .not_ (.val (.call 16 [.loc 1,.int 1])),
    .not_ (.val (.call 16 [.loc 1,.int 2]))])
  [.ag]
  [],
 .g9 (.loc 0) [97,116] .add (.int 1),
 .ret
  (.bin .add (.bin .add (.str [34]) (.loc 1)) (.str [34]))]
noncomputable def so:Fn:=⟨1,2,[],sn⟩
noncomputable def f9:List Sx:=[.ret (.call 14 [.loc 0,.call 28 [.loc 0]])]
noncomputable def m9:Fn:=⟨1,1,[],f9⟩
noncomputable def gW:List Sx:=[.ite
  (.cmp
   .eq
   (.sub (.call 1 [.loc 0]) (.int 0))
   (.str [115,116,114,105,110,103]))
  [.asg 1 (.tup [.str [110,97,109,101],.call 26 [.loc 0]])]
  [.asg 1 (.tup [.str [110,97,109,101],.call 9 [.loc 0]])],
 .n4
  (.val (.bool true))
  [.ite
    (.val (.call 6 [.loc 0,.str [46]]))
    [.asg 1 (.call 29 [.loc 0,.loc 1])]
    [.ite
     (.val (.call 4 [.loc 0,.str [40]]))
     [.asg
      1
      (.tup [.str [97,112,112,108,121],.loc 1,.call 35 [.loc 0]])]
     [.ite
      (.and_
        [.val (.call 4 [.loc 0,.str [39]]),
         .val (.call 4 [.loc 0,.str [40],.int 1])])
      [.g9 (.loc 0) [97,116] .add (.int 1),
       .ret
         (.tup [.str [113,117,97,108],.loc 1,.call 36 [.loc 0]])]
      [.ite
         (.val (.call 6 [.loc 0,.str [39]]))
         [.asg 1 (.call 30 [.loc 0,.loc 1])]
         [.ret (.loc 1)]]]]]]
noncomputable def o5:Fn:=⟨1,2,[],gW⟩
noncomputable def pB:List Sx:=[.ite
  (.val (.call 7 [.loc 0,.str [97,108,108]]))
  [.ret (.tup [.str [97,108,108],.loc 1])]
  [],
 .iM [2,3,4] (.call 1 [.loc 0]),
 .ite
  (.cmp .eq (.loc 2) (.str [115,116,114,105,110,103]))
  [.ret
    (.tup [.str [115,101,108,101,99,116],.loc 1,.call 26 [.loc 0]])]
  [],
 .ite
  (.cmp .eq (.loc 2) (.str [99,104,97,114]))
  [.g9 (.loc 0) [97,116] .add (.int 1),
   .ret
    (.tup
     [.str [115,101,108,101,99,116],
      .loc 1,
      .bin
       .add
       (.bin .add (.str [39]) (.bi .chr [.loc 3]))
       (.str [39])])]
  [],
 .ret (.tup [.str [115,101,108,101,99,116],.loc 1,.call 9 [.loc 0]])]
noncomputable def pC:Fn:=⟨2,5,[],pB⟩
noncomputable def eM:List Sx:=[.iM [2,3,4] (.call 1 [.loc 0]),
 .ite
  (.and_
    [.cmp .ne (.loc 2) (.str [110,97,109,101]),
     .or_
       [.cmp .ne (.loc 2) (.str [119,111,114,100]),
        .cmp .oS (.loc 3) (.gl 7)]])
  [.raise
     3
     [.loc 0,
      .str
        [97,110,32,97,116,116,114,105,98,117,116,101,32,105,115,32,109,105,115,115,105,110,103]]]
  [],
 .g9 (.loc 0) [97,116] .add (.int 1),
 .dn 5 (.lst []),
 .ite
  (.and_
    [.cmp .oS (.loc 3) (.gl 8),
     .val (.call 6 [.loc 0,.str [40]])])
  [.expr (.call 12 [.loc 0]),
   .app 5 (.call 17 [.loc 0]),
   .n4
     (.val (.call 6 [.loc 0,.str [44]]))
     [.app 5 (.call 17 [.loc 0])],
   .expr (.call 8 [.loc 0,.str [41]]),
   .expr (.call 13 [.loc 0])]
  [],
 .ret (.tup [.str [116,105,99,107],.loc 1,.loc 3,.loc 5])]
noncomputable def jA:Fn:=⟨2,6,[],eM⟩
noncomputable def sr:List Sx:=[.ite (.val (.call 6 [.loc 0,.str [46,46]])) [.ag] [],
 .ite
  (.and_
   [.cmp .nW (.sub (.loc 1) (.int 0)) (.gl 6),
    .val (.call 7 [.loc 0,.str [114,97,110,103,101]])])
  [.ag]
  [],
 .ret (.loc 1)]
noncomputable def su:Fn:=⟨2,2,[],sr⟩
noncomputable def iC:List Sx:=[.ite
  (.val (.call 7 [.loc 0,.str [111,116,104,101,114,115]]))
  [.ag]
  [],
 .asg 1 (.call 31 [.loc 0,.call 22 [.loc 0]]),
 .ite
  (.and_
   [.cmp .ne (.sub (.loc 1) (.int 0)) (.str [114,97,110,103,101]),
    .cmp .ne (.sub (.loc 1) (.int 0)) (.str [115,117,98])])
  [.asg 1 (.call 19 [.loc 0,.call 21 [.loc 0,.loc 1]])]
  [],
 .ret (.call 14 [.loc 0,.loc 1])]
noncomputable def jz:Fn:=⟨1,2,[],iC⟩
noncomputable def jO:List Sx:=[.asg 1 (.call 32 [.loc 0]),
 .ite
  (.and_
    [.not_ (.val (.call 4 [.loc 0,.str [124]])),
     .not_ (.val (.call 4 [.loc 0,.str [61,62]]))])
  [.ite
     (.cmp .eq (.loc 1) (.tup [.str [111,116,104,101,114,115]]))
     [.ag]
     [],
   .ret (.tup [.none,.loc 1])]
  [],
 .dn 2 (.lst [.loc 1]),
 .n4 (.val (.call 6 [.loc 0,.str [124]])) [.ag],
 .expr (.call 8 [.loc 0,.str [61,62]]),
 .ret (.tup [.loc 2,.call 17 [.loc 0]])]
noncomputable def ma:Fn:=⟨1,3,[],jO⟩
noncomputable def xj:List Sx:=[.dn 1 (.lst [.call 33 [.loc 0]]),
 .n4
  (.val (.call 6 [.loc 0,.str [44]]))
  [.asg 2 (.call 33 [.loc 0]),
   .ite
    (.and_
     [.cmp .is (.sub (.loc 2) (.int 0)) .none,
      .cmp
       .wW
       (.sub (.sub (.loc 1) (.neg (.int 1))) (.int 0))
       .none])
    [.ag]
    [],
   .app 1 (.loc 2)],
 .ret (.loc 1)]
noncomputable def o6:Fn:=⟨1,3,[],xj⟩
noncomputable def sv:List Sx:=[.expr (.call 8 [.loc 0,.str [40]]),
 .expr (.call 12 [.loc 0]),
 .asg 1 (.call 34 [.loc 0]),
 .expr (.call 8 [.loc 0,.str [41]]),
 .expr (.call 13 [.loc 0]),
 .ret (.loc 1)]
noncomputable def lE:Fn:=⟨1,2,[],sv⟩
noncomputable def iD:List Sx:=[.expr (.call 8 [.loc 0,.str [40]]),
 .expr (.call 12 [.loc 0]),
 .ite
  (.and_
    [.val (.call 5 [.loc 0,.str [110,117,108,108]]),
     .val (.call 5 [.loc 0,.str [114,101,99,111,114,100],.int 1])])
  [.ag,.ag]
  [.asg 2 (.call 34 [.loc 0]),
   .expr (.call 37 [.loc 0,.loc 2]),
   .ite
     (.and_
      [.cmp .eq (.bi .len [.loc 2]) (.int 1),
       .cmp
        .is
        (.sub (.sub (.loc 2) (.int 0)) (.int 0))
        .none])
     [.asg
       1
       (.call 38 [.loc 0,.sub (.sub (.loc 2) (.int 0)) (.int 1)])]
     [.ag]],
 .expr (.call 8 [.loc 0,.str [41]]),
 .expr (.call 13 [.loc 0]),
 .ret (.loc 1)]
noncomputable def kC:Fn:=⟨1,3,[],iD⟩
noncomputable def pG:List Sx:=[.i6
 (.tup [2,3])
 (.it (.loc 1))
 [.ite
  (.or_
   [.cmp .eq (.sub (.loc 3) (.int 0)) (.str [114,97,110,103,101]),
    .cmp .eq (.sub (.loc 3) (.int 0)) (.str [115,117,98])])
  [.ag]
  []]]
noncomputable def pH:Fn:=⟨2,4,[],pG⟩
noncomputable def rH:List Sx:=[.ite
  (.not_ (.val (.call 7 [.loc 0,.str [119,105,116,104]])))
  [.ite
    (.cmp .nW (.sub (.loc 1) (.int 0)) (.gl 6))
    [.ret (.tup [.str [112,97,114,101,110],.loc 1])]
    [],
   .ret (.loc 1)]
  [],
 .ag,
 .ag,
 .ag,
 .ag]
noncomputable def rI:Fn:=⟨2,3,[],rH⟩
noncomputable def vC:List Sx:=[.ite
  (.ki .le .le (.str [65]) (.loc 0) (.str [90]))
  [.ret
   (.bi
    .chr
    [.bin .add (.bi .ord [.loc 0]) (.int 32)])]
  [],
 .ret (.loc 0)]
noncomputable def vD:Fn:=⟨1,1,[],vC⟩
noncomputable def oE:List Sx:=[.ret
 (.and_
  (.cmp .ne (.loc 0) (.str []))
  (.cmp .nW (.call 39 [.loc 0]) (.gl 9)))]
noncomputable def oF:Fn:=⟨1,1,[],oE⟩
noncomputable def rJ:List Sx:=[.ret
 (.or_
  (.call 40 [.loc 0])
  (.and_
   (.cmp .ne (.loc 0) (.str []))
   (.cmp .nW (.loc 0) (.gl 10))))]
noncomputable def rK:Fn:=⟨1,1,[],rJ⟩
noncomputable def vE:List Sx:=[.ret
 (.and_
  (.cmp .ne (.loc 0) (.str []))
  (.or_
   (.ki
    .le
    .le
    (.int 32)
    (.bi .ord [.loc 0])
    (.int 126))
   (.ki
    .le
    .le
    (.int 160)
    (.bi .ord [.loc 0])
    (.int 255))))]
noncomputable def vF:Fn:=⟨1,1,[],vE⟩
noncomputable def vG:List Sx:=[.asg 3 (.loc 1),
 .asg 4 (.str []),
 .n4
  (.and_
    [.cmp .lt (.loc 3) (.bi .len [.loc 0]),
     .or_
      [.val (.call 41 [.sub (.loc 0) (.loc 3)]),
       .cmp .eq (.sub (.loc 0) (.loc 3)) (.str [95])]])
  [.ite
     (.and_
      [.cmp .eq (.sub (.loc 0) (.loc 3)) (.str [95]),
       .not_
        (.val
         (.call
          41
          [.jH
           (.loc 0)
           (.bin .add (.loc 3) (.int 1))
           (.bin .add (.loc 3) (.int 2))]))])
     [.ag]
     [],
   .hJ 4 .add (.call 39 [.sub (.loc 0) (.loc 3)]),
   .hJ 3 .add (.int 1)],
 .ite
  (.val (.call 15 [.loc 4]))
  [.ret
     (.tup [.tup [.str [119,111,114,100],.loc 4,.loc 2],.loc 3])]
  [],
 .ret (.tup [.tup [.str [110,97,109,101],.loc 4,.loc 2],.loc 3])]
noncomputable def vH:Fn:=⟨3,5,[],vG⟩
noncomputable def rL:List Sx:=[.asg 4 (.int 0),
 .asg 5 (.int 0),
 .asg 6 (.loc 1),
 .n4
  (.cmp .lt (.loc 6) (.bi .len [.loc 0]))
  [.asg
     7
     (.iK .find (.gl 11) [.call 39 [.sub (.loc 0) (.loc 6)]]),
   .ite
     (.and_
      [.cmp .eq (.sub (.loc 0) (.loc 6)) (.str [95]),
       .cmp .gt (.loc 5) (.int 0)])
     [.ag,.ag,.ag]
     [],
   .ite
     (.or_
      [.cmp .lt (.loc 7) (.int 0),
       .and_
        [.cmp .le (.loc 2) (.int 10),
         .cmp .ge (.loc 7) (.int 10)]])
     [.brk]
     [],
   .ite (.cmp .ge (.loc 7) (.loc 2)) [.ag] [],
   .asg
     4
     (.bin .add (.bin .mul (.loc 4) (.loc 2)) (.loc 7)),
   .hJ 5 .add (.int 1),
   .hJ 6 .add (.int 1)],
 .ite
  (.or_
    [.cmp .eq (.loc 5) (.int 0),
     .cmp .gt (.loc 5) (.gl 15)])
  [.ag]
  [],
 .ret (.tup [.loc 4,.loc 5,.loc 6])]
noncomputable def rM:Fn:=⟨4,8,[],rL⟩
noncomputable def zf:List Sx:=[.ite
  (.cmp
   .ne
   (.call
    39
    [.jH (.loc 0) (.loc 1) (.bin .add (.loc 1) (.int 1))])
   (.str [101]))
  [.ret (.tup [.int 0,.loc 1])]
  [],
 .ag,
 .ag,
 .ag,
 .ag,
 .ag]
noncomputable def zg:Fn:=⟨3,8,[],zf⟩
noncomputable def rO:List Sx:=[.asg 3 (.int 10),
 .iM [4,5,6] (.call 44 [.loc 0,.loc 1,.int 10,.loc 2]),
 .asg
  7
  (.cmp
   .eq
   (.jH (.loc 0) (.loc 6) (.bin .add (.loc 6) (.int 1)))
   (.str [35])),
 .ite (.val (.loc 7)) [.ag,.ag,.ag] [],
 .asg 8 (.int 0),
 .asg
  9
  (.and_
   (.cmp
     .eq
     (.jH (.loc 0) (.loc 6) (.bin .add (.loc 6) (.int 1)))
     (.str [46]))
   (.cmp
     .ne
     (.jH
       (.loc 0)
       (.bin .add (.loc 6) (.int 1))
       (.bin .add (.loc 6) (.int 2)))
     (.str [46]))),
 .ite (.val (.loc 9)) [.ag,.ag] [],
 .ite (.val (.loc 7)) [.ag,.ag] [],
 .iM [11,12] (.call 45 [.loc 0,.loc 6,.loc 2]),
 .ite
  (.and_
   [.not_ (.val (.loc 9)),
    .or_
      [.cmp .lt (.loc 11) (.int 0),
       .and_
         [.cmp
           .eq
           (.jH
            (.loc 0)
            (.bin .add (.loc 6) (.int 1))
            (.bin .add (.loc 6) (.int 2)))
           (.str [45]),
          .cmp .gt (.loc 12) (.loc 6)]]])
  [.ag]
  [],
 .ite
  (.or_
   [.val
      (.call
        41
        [.jH (.loc 0) (.loc 12) (.bin .add (.loc 12) (.int 1))]),
    .cmp
      .eq
      (.jH (.loc 0) (.loc 12) (.bin .add (.loc 12) (.int 1)))
      (.str [95])])
  [.ag]
  [],
 .ite
  (.not_ (.val (.loc 9)))
  [.ret
    (.tup
      [.tup
         [.str [105,110,116],
          .bin .mul (.loc 4) (.bin .pow (.loc 3) (.loc 11)),
          .loc 2],
       .loc 12])]
  [],
 .ag,
 .ag]
noncomputable def rP:Fn:=⟨3,13,[],rO⟩
noncomputable def rQ:List Sx:=[.asg 3 (.str []),
 .asg 4 (.bin .add (.loc 1) (.int 1)),
 .n4
  (.and_
    [.cmp .lt (.loc 4) (.bi .len [.loc 0]),
     .val (.call 42 [.sub (.loc 0) (.loc 4)])])
  [.ite
     (.cmp .eq (.sub (.loc 0) (.loc 4)) (.str [34]))
     [.ite
       (.cmp
        .ne
        (.jH
          (.loc 0)
          (.bin .add (.loc 4) (.int 1))
          (.bin .add (.loc 4) (.int 2)))
        (.str [34]))
       [.ret
         (.tup
           [.tup [.str [115,116,114,105,110,103],.loc 3,.loc 2],
            .bin .add (.loc 4) (.int 1)])]
       [],
      .ag]
     [],
   .hJ 3 .add (.sub (.loc 0) (.loc 4)),
   .hJ 4 .add (.int 1)],
 .ag]
noncomputable def rR:Fn:=⟨3,5,[],rQ⟩
noncomputable def iS:List Sx:=[.ite (.cmp .eq (.bi .len [.loc 0]) (.int 0)) [.ag] [],
 .iM
  [1,2,3]
  (.sub
   (.loc 0)
   (.bin .sub (.bi .len [.loc 0]) (.int 1))),
 .ret
  (.or_
   (.cmp .eq (.loc 1) (.str [110,97,109,101]))
   (.or_
    (.cmp .eq (.loc 1) (.str [115,116,114,105,110,103]))
    (.or_
     (.and_
      (.cmp .eq (.loc 1) (.str [111,112]))
      (.cmp .eq (.loc 2) (.str [41])))
     (.and_
      (.cmp .eq (.loc 1) (.str [119,111,114,100]))
      (.cmp .eq (.loc 2) (.str [97,108,108]))))))]
noncomputable def o7:Fn:=⟨1,4,[],iS⟩
noncomputable def vI:List Sx:=[.ite
  (.and_
   [.not_ (.val (.call 48 [.loc 3])),
    .val
     (.call
       42
       [.jH
          (.loc 0)
          (.bin .add (.loc 1) (.int 1))
          (.bin .add (.loc 1) (.int 2))]),
    .cmp
     .eq
     (.jH
       (.loc 0)
       (.bin .add (.loc 1) (.int 2))
       (.bin .add (.loc 1) (.int 3)))
     (.str [39])])
  [.ret
    (.tup
     [.tup
        [.str [99,104,97,114],
         .bi
           .ord
           [.sub (.loc 0) (.bin .add (.loc 1) (.int 1))],
         .loc 2],
      .bin .add (.loc 1) (.int 3)])]
  [],
 .ret
  (.tup
   [.tup [.str [111,112],.str [39],.loc 2],
    .bin .add (.loc 1) (.int 1)])]
noncomputable def vJ:Fn:=⟨4,4,[],vI⟩
noncomputable def mc:List Sx:=[.ite
  (.cmp
   .nW
   (.jH (.loc 0) (.loc 1) (.bin .add (.loc 1) (.int 2)))
   (.gl 12))
  [.ret
    (.tup
     [.tup
       [.str [111,112],
        .jH (.loc 0) (.loc 1) (.bin .add (.loc 1) (.int 2)),
        .loc 2],
      .bin .add (.loc 1) (.int 2)])]
  [],
 .ite
  (.cmp .nW (.sub (.loc 0) (.loc 1)) (.gl 13))
  [.ret
    (.tup
     [.tup [.str [111,112],.sub (.loc 0) (.loc 1),.loc 2],
      .bin .add (.loc 1) (.int 1)])]
  [],
 .ag]
noncomputable def mf:Fn:=⟨3,3,[],mc⟩
noncomputable def xk:List Sx:=[.asg 4 (.sub (.loc 0) (.loc 1)),
 .ite
  (.val (.call 40 [.loc 4]))
  [.ret (.call 43 [.loc 0,.loc 1,.loc 2])]
  [],
 .ite
  (.cmp .nW (.loc 4) (.gl 10))
  [.ret (.call 46 [.loc 0,.loc 1,.loc 2])]
  [],
 .ite
  (.cmp .eq (.loc 4) (.str [34]))
  [.ret (.call 47 [.loc 0,.loc 1,.loc 2])]
  [],
 .ite
  (.cmp .eq (.loc 4) (.str [39]))
  [.ret (.call 49 [.loc 0,.loc 1,.loc 2,.loc 3])]
  [],
 .ret (.call 50 [.loc 0,.loc 1,.loc 2])]
noncomputable def xl:Fn:=⟨4,5,[],xk⟩
noncomputable def iT:List Sx:=[.dn 1 (.lst []),
 .asg 2 (.int 0),
 .asg 3 (.int 1),
 .n4
  (.cmp .lt (.loc 2) (.bi .len [.loc 0]))
  [.ite
   (.cmp .nW (.sub (.loc 0) (.loc 2)) (.gl 14))
   [.ite
     (.cmp .eq (.sub (.loc 0) (.loc 2)) (.str [10]))
     [.ag]
     [],
    .hJ 2 .add (.int 1)]
   [.ite
     (.cmp
       .eq
       (.jH (.loc 0) (.loc 2) (.bin .add (.loc 2) (.int 2)))
       (.str [45,45]))
     [.ag]
     [.iM [4,2] (.call 51 [.loc 0,.loc 2,.loc 3,.loc 1]),
      .app 1 (.loc 4)]]],
 .ret (.loc 1)]
noncomputable def o8:Fn:=⟨1,5,[],iT⟩
noncomputable def rS:List Sx:=[.ite (.inD (.sub (.loc 0) (.int 0)) 17) [.ag] [],
 .ite
  (.and_
   [.cmp .eq (.sub (.loc 0) (.int 0)) (.str [98,105,110]),
    .cmp
     .nW
     (.sub (.loc 0) (.int 1))
     (.tup [.str [97,110,100],.str [111,114],.str [120,111,114]])])
  [.ag]
  [],
 .ret (.str [])]
noncomputable def rT:Fn:=⟨1,1,[],rS⟩
noncomputable def vK:List Sx:=[.asg 3 (.str []),
 .n4
  (.or_
    [.cmp .gt (.loc 0) (.int 0),
     .cmp .lt (.bi .len [.loc 3]) (.loc 2)])
  [.asg
     3
     (.bin
      .add
      (.sub (.gl 19) (.bin .mod (.loc 0) (.loc 1)))
      (.loc 3)),
   .hJ 0 .fdiv (.loc 1)],
 .ret (.loc 3)]
noncomputable def vL:Fn:=⟨3,4,[],vK⟩
noncomputable def vM:List Sx:=[.ite (.cmp .ne (.loc 0) (.int 10)) [.ag] [],
 .ite (.cmp .eq (.loc 2) (.int 0)) [.ret (.loc 1)] [],
 .ag,
 .ag]
noncomputable def vO:Fn:=⟨3,4,[],vM⟩
noncomputable def vP:List Sx:=[.i6
  (.one 1)
  (.it (.gl 18))
  [.asg 2 (.call 54 [.loc 0,.loc 1,.int 1]),
   .asg
    3
    (.bi
     .max
     [.int 0,.bin .sub (.bi .len [.loc 2]) (.gl 15)]),
   .ite
    (.and_
     [.cmp .le (.loc 3) (.gl 16),
      .cmp
       .eq
       (.jH (.loc 2) (.gl 15) .none)
       (.bin .mul (.str [48]) (.loc 3))])
    [.ret
      (.call 55 [.loc 1,.jH (.loc 2) .none (.gl 15),.loc 3])]
    []],
 .ag]
noncomputable def vQ:Fn:=⟨1,4,[],vP⟩
noncomputable def rU:List Sx:=[.ite
  (.cmp .eq (.sub (.loc 0) (.int 0)) (.str [105,110,116]))
  [.ret (.call 56 [.sub (.loc 0) (.int 1)])]
  [],
 .ite
  (.cmp .eq (.sub (.loc 0) (.int 0)) (.str [114,101,97,108]))
  [.ag]
  [],
 .ite
  (.cmp .eq (.sub (.loc 0) (.int 0)) (.str [99,104,97,114]))
  [.ret
    (.bin
     .add
     (.bin
      .add
      (.str [39])
      (.bi .chr [.sub (.loc 0) (.int 1)]))
     (.str [39]))]
  [],
 .ite
  (.cmp
   .eq
   (.sub (.loc 0) (.int 0))
   (.str [115,116,114,105,110,103]))
  [.ret
    (.bin
     .add
     (.bin
      .add
      (.str [34])
      (.iK
       .replace
       (.sub (.loc 0) (.int 1))
       [.str [34],.str [34,34]]))
     (.str [34]))]
  [],
 .ag]
noncomputable def rV:Fn:=⟨1,1,[],rU⟩
noncomputable def xm:List Sx:=[.iM [1,2] (.loc 0),
 .ite
  (.cmp .is (.loc 1) .none)
  [.ret (.call 62 [.loc 2])]
  [],
 .ret
  (.bin
   .add
   (.bin
    .add
    (.iK
     .join
     (.str [32,124,32])
     [.comp [] 1 (.one 0) (.it (.loc 1)) [] (.call 62 [.loc 0])])
    (.str [32,61,62,32]))
   (.call 62 [.loc 2]))]
noncomputable def xn:Fn:=⟨1,3,[],xm⟩
noncomputable def ia:List Sx:=[.ret
 (.iK
  .join
  (.str [44,32])
  [.comp [] 1 (.one 0) (.it (.loc 0)) [] (.call 58 [.loc 0])])]
noncomputable def lF:Fn:=⟨1,1,[],ia⟩
noncomputable def cc:List Sx:=[.ite
  (.cmp .eq (.sub (.loc 0) (.int 0)) (.str [110,97,109,101]))
  [.ret (.sub (.loc 0) (.int 1))]
  [],
 .asg 1 (.call 62 [.sub (.loc 0) (.int 1)]),
 .ite
  (.cmp .eq (.sub (.loc 0) (.int 0)) (.str [115,101,108,101,99,116]))
  [.ret
     (.bin
       .add
       (.bin .add (.loc 1) (.str [46]))
       (.sub (.loc 0) (.int 2)))]
  [],
 .ite
  (.cmp .eq (.sub (.loc 0) (.int 0)) (.str [97,108,108]))
  [.ret (.bin .add (.loc 1) (.str [46,97,108,108]))]
  [],
 .ite
  (.cmp .eq (.sub (.loc 0) (.int 0)) (.str [97,112,112,108,121]))
  [.ret
     (.bin
       .add
       (.bin
         .add
         (.bin .add (.loc 1) (.str [40]))
         (.call 59 [.sub (.loc 0) (.int 2)]))
       (.str [41]))]
  [],
 .ite
  (.cmp .eq (.sub (.loc 0) (.int 0)) (.str [116,105,99,107]))
  [.ite
     (.cmp .eq (.sub (.loc 0) (.int 3)) (.lst []))
     [.ret
        (.bin
          .add
          (.bin .add (.loc 1) (.str [39]))
          (.sub (.loc 0) (.int 2)))]
     [],
   .ret
     (.bin
       .add
       (.bin
         .add
         (.bin
           .add
           (.bin
            .add
            (.bin .add (.loc 1) (.str [39]))
            (.sub (.loc 0) (.int 2)))
           (.str [40]))
         (.iK
           .join
           (.str [44,32])
           [.comp
             []
             1
             (.one 0)
             (.it (.sub (.loc 0) (.int 3)))
             []
             (.call 62 [.loc 0])]))
       (.str [41]))]
  [],
 .ite
  (.cmp
    .nW
    (.sub (.sub (.loc 0) (.int 2)) (.int 0))
    (.tup
      [.str [97,103,103,114],
       .str [101,120,116,101,110,100],
       .str [112,97,114,101,110]]))
  [.ret
     (.bin
       .add
       (.bin .add (.loc 1) (.str [39]))
       (.call 62 [.sub (.loc 0) (.int 2)]))]
  [],
 .ret
  (.bin
    .add
    (.bin
      .add
      (.bin .add (.loc 1) (.str [39,40]))
      (.call 62 [.sub (.loc 0) (.int 2)]))
    (.str [41]))]
noncomputable def mi:Fn:=⟨1,2,[],cc⟩
noncomputable def rW:List Sx:=[.ite
  (.cmp .eq (.sub (.loc 0) (.int 0)) (.str [112,97,114,101,110]))
  [.ret
   (.bin
    .add
    (.bin .add (.str [40]) (.call 62 [.sub (.loc 0) (.int 1)]))
    (.str [41]))]
  [],
 .ag,
 .ag,
 .ag]
noncomputable def rX:Fn:=⟨1,1,[],rW⟩
noncomputable def gX:List Sx:=[.asg 1 (.sub (.loc 0) (.int 0)),
 .ite (.cmp .ne (.call 53 [.loc 0]) (.str [])) [.ag] [],
 .ite (.cmp .eq (.loc 1) (.str [98,105,110])) [.ag] [],
 .ite (.cmp .eq (.loc 1) (.str [117,110])) [.ag,.ag] [],
 .ite
  (.cmp
   .nW
   (.loc 1)
   (.tup [.str [105,110],.str [110,111,116,105,110]]))
  [.ag]
  [],
 .ite
  (.cmp
   .nW
   (.loc 1)
   (.tup [.str [114,97,110,103,101],.str [115,117,98]]))
  [.ag]
  [],
 .ite
  (.cmp
   .nW
   (.loc 1)
   (.tup
    [.str [112,97,114,101,110],
     .str [97,103,103,114],
     .str [101,120,116,101,110,100]]))
  [.ret (.call 61 [.loc 0])]
  [],
 .ite (.cmp .eq (.loc 1) (.str [110,101,119])) [.ag] [],
 .ite (.cmp .eq (.loc 1) (.str [111,116,104,101,114,115])) [.ag] [],
 .ite
  (.cmp
   .nW
   (.loc 1)
   (.tup
    [.str [105,110,116],
     .str [114,101,97,108],
     .str [99,104,97,114],
     .str [115,116,114,105,110,103],
     .str [110,117,108,108]]))
  [.ret (.call 57 [.loc 0])]
  [],
 .ret (.call 60 [.loc 0])]
noncomputable def o9:Fn:=⟨1,2,[],gX⟩
noncomputable def rY:List Sx:=[.ret
 (.lst
  [.str [43],
   .str [65,78,68],
   .str [77,111,100],
   .str [47,61],
   .str [120,111,114],
   .str [65,98,115],
   .str [42,42],
   .str [110,79,84]])]
noncomputable def rZ:Fn:=⟨0,0,[],rY⟩
noncomputable def vR:List Sx:=[.ret
 (.lst
  [.str [102,105,114,115,116],
   .str [114,97,110,103,101],
   .str [112,111,115],
   .str [65,99,99,101,115,115],
   .str [98,97,115,101],
   .str [67,108,97,115,115],
   .str [100,101,108,116,97],
   .str [105,109,97,103,101]])]
noncomputable def vS:Fn:=⟨0,0,[],vR⟩
noncomputable def gn:List Sx:=[.uV (.loc 0) (.str [97,116]) .add (.int 1),
 .ite
  (.cmp
   .le
   (.sub (.loc 0) (.str [97,116]))
   (.bi .len [.sub (.loc 0) (.str [114,111,119])]))
  [.ret
    (.bin
      .mod
      (.sub
        (.sub (.loc 0) (.str [114,111,119]))
        (.bin .sub (.sub (.loc 0) (.str [97,116])) (.int 1)))
      (.loc 1))]
  [],
 .ret
  (.bin
   .mod
   (.bin
     .add
     (.bin
       .add
       (.bin
         .mul
         (.bin .mul (.int 4) (.sub (.loc 0) (.str [97,116])))
         (.sub (.loc 0) (.str [97,116])))
       (.sub (.loc 0) (.str [97,116])))
     (.int 2))
   (.loc 1))]
noncomputable def mj:Fn:=⟨2,2,[],gn⟩
noncomputable def xo:List Sx:=[.asg 1 (.call 65 [.loc 0,.int 6]),
 .ret
  (.sub
   (.lst
    [.tup [.str [120],.tup [.str [110,97,109,101],.str [120]]],
     .tup [.str [55],.tup [.str [105,110,116],.int 7]],
     .tup
      [.str [34,77,111,100,34],
       .tup [.str [115,116,114,105,110,103],.str [77,111,100]]],
     .tup
      [.str [89,46,65,108,108],
       .tup [.str [97,108,108],.tup [.str [110,97,109,101],.str [121]]]],
     .tup
      [.str [40,122,41],
       .tup
        [.str [112,97,114,101,110],.tup [.str [110,97,109,101],.str [122]]]],
     .tup [.str [39,81,39],.tup [.str [99,104,97,114],.int 81]]])
   (.loc 1))]
noncomputable def xp:Fn:=⟨1,2,[],xo⟩
noncomputable def vT:List Sx:=[.ite
  (.cmp .gt (.call 65 [.loc 0,.int 4]) (.int 0))
  [.asg
     1
     (.sub
      (.lst [.str [97],.str [84,97,98],.str [102,95,49]])
      (.call 65 [.loc 0,.int 3])),
   .ret
     (.tup
      [.loc 1,
       .tup [.str [110,97,109,101],.iK .lower (.loc 1) []]])]
  [],
 .asg 1 (.sub (.call 63 []) (.call 65 [.loc 0,.int 8])),
 .iM [2,3] (.call 66 [.loc 0]),
 .asg
  4
  (.tup
    [.str [110,97,109,101],
     .bin
      .add
      (.bin .add (.str [34]) (.iK .lower (.loc 1) []))
      (.str [34])]),
 .ret
  (.tup
    [.bin
      .add
      (.bin
        .add
        (.bin
         .add
         (.bin .add (.str [34]) (.loc 1))
         (.str [34,40]))
        (.loc 2))
      (.str [41]),
     .tup
      [.str [97,112,112,108,121],
       .loc 4,
       .lst [.tup [.none,.loc 3]]]])]
noncomputable def vU:Fn:=⟨1,5,[],vT⟩
noncomputable def pI:List Sx:=[.asg
  1
  (.comp
    [0]
    1
    (.one 1)
    (.lO (.bin .add (.int 1) (.call 65 [.loc 0,.int 2])))
    []
    (.call 66 [.loc 0])),
 .dn
  2
  (.comp
    []
    2
    (.tup [0,1])
    (.it (.loc 1))
    []
    (.tup [.none,.loc 1])),
 .dn 3 (.comp [] 2 (.tup [0,1]) (.it (.loc 1)) [] (.loc 0)),
 .ite
  (.cmp .eq (.call 65 [.loc 0,.int 4]) (.int 3))
  [.uU
     (.loc 3)
     (.neg (.int 1))
     (.bin
      .add
      (.str [78,32,61,62,32])
      (.sub (.loc 3) (.neg (.int 1)))),
   .uU
     (.loc 2)
     (.neg (.int 1))
     (.tup
      [.lst [.tup [.str [110,97,109,101],.str [110]]],
       .sub (.sub (.loc 2) (.neg (.int 1))) (.int 1)])]
  [],
 .ret
  (.tup
    [.bin
      .add
      (.bin
        .add
        (.str [40])
        (.iK .join (.str [44,32]) [.loc 3]))
      (.str [41]),
     .loc 2])]
noncomputable def pJ:Fn:=⟨1,4,[],pI⟩
noncomputable def vV:List Sx:=[.asg 1 (.call 65 [.loc 0,.int 5]),
 .asg 2 (.sub (.call 63 []) (.call 65 [.loc 0,.int 8])),
 .ret
  (.sub
   (.lst
    [.tup [.str [46,70,105,101,108,100],.str [102,105,101,108,100]],
     .tup [.str [46,97,108,108],.str []],
     .tup
      [.bin
        .add
        (.bin
         .add
         (.bin .add (.str [46]) (.str [34]))
         (.loc 2))
        (.str [34]),
       .bin
        .add
        (.bin .add (.str [34]) (.iK .lower (.loc 2) []))
        (.str [34])],
     .tup [.str [46,39,66,39],.str [39,66,39]],
     .tup [.str [46,103],.str [103]]])
   (.loc 1))]
noncomputable def vW:Fn:=⟨1,3,[],vV⟩
noncomputable def gp:List Sx:=[.iM [1,2] (.call 67 [.loc 0]),
 .i6
  (.one 3)
  (.lO (.call 65 [.loc 0,.int 7]))
  [.asg 4 (.call 65 [.loc 0,.int 8]),
   .asg
    5
    (.and_
      (.cmp .eq (.sub (.loc 2) (.int 0)) (.str [116,105,99,107]))
      (.and_
        (.cmp .eq (.sub (.loc 2) (.int 3)) (.lst []))
        (.cmp
          .oS
          (.sub (.loc 2) (.int 2))
          (.tup [.str [98,97,115,101],.str [99,108,97,115,115]])))),
   .ite
    (.cmp .lt (.loc 4) (.int 2))
    [.iM [6,7] (.call 69 [.loc 0]),
     .asg
       2
       (.ite
         (.cmp .eq (.loc 7) (.str []))
         (.tup [.str [97,108,108],.loc 2])
         (.tup [.str [115,101,108,101,99,116],.loc 2,.loc 7]))]
    [.ite
       (.cmp .lt (.loc 4) (.int 4))
       [.asg 8 (.sub (.call 64 []) (.call 65 [.loc 0,.int 8])),
        .iM
          [6,2]
          (.tup
            [.bin .add (.str [39]) (.loc 8),
             .tup
              [.str [116,105,99,107],
               .loc 2,
               .iK .lower (.loc 8) [],
               .lst []]])]
       [.ite
          (.cmp .lt (.loc 4) (.int 7))
          [.iM [6,9] (.call 68 [.loc 0]),
           .ite
             (.and_
              [.val (.loc 5),
               .cmp
                 .ne
                 (.comp
                   []
                   1
                   (.one 0)
                   (.it (.loc 9))
                   [.cmp .wW (.sub (.loc 0) (.int 0)) .none]
                   (.loc 0))
                 (.lst [])])
             [.ret (.tup [.bin .add (.loc 1) (.loc 6),.none])]
             [],
           .asg
             2
             (.ite
              (.val (.loc 5))
              (.tup
                [.str [116,105,99,107],
                 .sub (.loc 2) (.int 1),
                 .sub (.loc 2) (.int 2),
                 .comp
                   []
                   1
                   (.one 0)
                   (.it (.loc 9))
                   []
                   (.sub (.loc 0) (.int 1))])
              (.tup [.str [97,112,112,108,121],.loc 2,.loc 9]))]
          [.iM [10,11] (.call 66 [.loc 0]),
           .ite
             (.cmp .eq (.sub (.loc 10) (.int 0)) (.str [39]))
             [.iM
               [10,11]
               (.tup [.str [120],.tup [.str [110,97,109,101],.str [120]]])]
             [],
           .ite
             (.cmp .eq (.call 65 [.loc 0,.int 3]) (.int 0))
             [.ret
               (.tup
                 [.bin
                    .add
                    (.loc 1)
                    (.sub
                     (.lst [.str [39],.str [46],.str [40,41],.str [39,53]])
                     (.call 65 [.loc 0,.int 4])),
                  .none])]
             [],
           .asg
             11
             (.ite
              (.cmp
                .nW
                (.sub (.loc 11) (.int 0))
                (.tup [.str [110,97,109,101],.str [97,108,108]]))
              (.tup [.str [112,97,114,101,110],.loc 11])
              (.loc 11)),
           .ret
             (.tup
              [.bin
                 .add
                 (.bin
                   .add
                   (.bin .add (.loc 1) (.str [39,40]))
                   (.loc 10))
                 (.str [41]),
               .tup [.str [113,117,97,108],.loc 2,.loc 11]])]]],
   .hJ 1 .add (.loc 6)],
 .ret (.tup [.loc 1,.loc 2])]
noncomputable def mo:Fn:=⟨1,12,[],gp⟩
noncomputable def gq:List Sx:=[.uW
 [.asg 2 (.mk [.call 52 [.loc 0]]),
  .asg
   3
   (.ite (.val (.loc 1)) (.call 27 [.loc 2]) (.call 17 [.loc 2])),
  .ret
   (.ite
    (.cmp
     .eq
     (.attr (.loc 2) [97,116])
     (.bi .len [.attr (.loc 2) [116,111,107,101,110,115]]))
    (.loc 3)
    .none)]]
noncomputable def mq:Fn:=⟨2,4,[],gq⟩
noncomputable def BR:List Sx:=[.dn
  1
  (.dict
   [[114,111,119],[97,116]]
   [.jH (.loc 0) .none (.int 50),.int 0]),
 .iM [2,3] (.call 70 [.loc 1]),
 .ite
  (.cmp .ne (.call 71 [.loc 2,.bool true]) (.loc 3))
  [.ag]
  [],
 .ite (.cmp .is (.loc 3) .none) [.ret (.bool true)] [],
 .ite
  (.or_
   [.cmp .ne (.call 71 [.call 62 [.loc 3],.bool true]) (.loc 3),
    .cmp
      .ne
      (.call
       71
       [.bin .add (.loc 2) (.str [32,43,32,49]),.bool false])
      (.tup
       [.str [98,105,110],
        .str [43],
        .loc 3,
        .tup [.str [105,110,116],.int 1]])])
  [.ag]
  [],
 .ret
  (.cmp
   .eq
   (.call
     71
     [.bin .add (.bin .add (.str [40]) (.loc 2)) (.str [41]),
      .bool false])
   (.ite
     (.cmp .eq (.sub (.loc 3) (.int 0)) (.str [113,117,97,108]))
     (.loc 3)
     (.tup [.str [112,97,114,101,110],.loc 3])))]
noncomputable def LI:Fn:=⟨1,4,[],BR⟩
noncomputable def LJ:List Sx:=[.gz (.loc 0) [116,111,107,101,110,115] (.loc 1),
 .gz (.loc 0) [97,116] (.loc 2),
 .gz (.loc 0) [110,101,115,116] (.int 0),
 .gz (.loc 0) [100,101,101,112] (.int 0),
 .gz (.loc 0) [112,97,114,115,101,95,101,120,112,114] .none,
 .gz (.loc 0) [112,97,114,115,101,95,110,97,109,101] .none,
 .gz (.loc 0) [112,97,114,115,101,95,100,105,115,99,114,101,116,101] .none,
 .gz (.loc 0) [112,97,114,115,101,95,99,104,111,105,99,101,115] .none,
 .gz
  (.loc 0)
  [112,97,114,115,101,95,100,101,99,108,97,114,97,116,105,111,110,115]
  .none,
 .gz (.loc 0) [112,97,114,115,101,95,102,111,114,109,97,108,115] .none,
 .gz
  (.loc 0)
  [112,97,114,115,101,95,115,116,97,116,101,109,101,110,116,115]
  .none,
 .gz (.loc 0) [112,97,114,115,101,95,115,101,113,117,101,110,99,101] .none,
 .gz (.loc 0) [112,97,114,115,101,95,104,97,110,100,108,101,114,115] .none,
 .gz (.loc 0) [112,97,114,115,101,95,104,97,110,100,108,101,100] .none,
 .gz (.loc 0) [112,97,114,115,101,95,105,116,101,109] .none]
noncomputable def ini:Fn:=⟨3,3,[.int 0],LJ⟩
noncomputable def zh:List AV:=[.int 60,
 .int 24,
 .tup
  [.str [97,98,111,114,116],
   .str [97,98,115],
   .str [97,98,115,116,114,97,99,116],
   .str [97,99,99,101,112,116],
   .str [97,99,99,101,115,115],
   .str [97,108,105,97,115,101,100],
   .str [97,108,108],
   .str [97,110,100],
   .str [97,114,114,97,121],
   .str [97,116],
   .str [98,101,103,105,110],
   .str [98,111,100,121],
   .str [99,97,115,101],
   .str [99,111,110,115,116,97,110,116],
   .str [100,101,99,108,97,114,101],
   .str [100,101,108,97,121],
   .str [100,101,108,116,97],
   .str [100,105,103,105,116,115],
   .str [100,111],
   .str [101,108,115,101],
   .str [101,108,115,105,102],
   .str [101,110,100],
   .str [101,110,116,114,121],
   .str [101,120,99,101,112,116,105,111,110],
   .str [101,120,105,116],
   .str [102,111,114],
   .str [102,117,110,99,116,105,111,110],
   .str [103,101,110,101,114,105,99],
   .str [103,111,116,111],
   .str [105,102],
   .str [105,110],
   .str [105,115],
   .str [108,105,109,105,116,101,100],
   .str [108,111,111,112],
   .str [109,111,100],
   .str [110,101,119],
   .str [110,111,116],
   .str [110,117,108,108],
   .str [111,102],
   .str [111,114],
   .str [111,116,104,101,114,115],
   .str [111,117,116],
   .str [112,97,99,107,97,103,101],
   .str [112,114,97,103,109,97],
   .str [112,114,105,118,97,116,101],
   .str [112,114,111,99,101,100,117,114,101],
   .str [112,114,111,116,101,99,116,101,100],
   .str [114,97,105,115,101],
   .str [114,97,110,103,101],
   .str [114,101,99,111,114,100],
   .str [114,101,109],
   .str [114,101,110,97,109,101,115],
   .str [114,101,113,117,101,117,101],
   .str [114,101,116,117,114,110],
   .str [114,101,118,101,114,115,101],
   .str [115,101,108,101,99,116],
   .str [115,101,112,97,114,97,116,101],
   .str [115,117,98,116,121,112,101],
   .str [116,97,103,103,101,100],
   .str [116,97,115,107],
   .str [116,101,114,109,105,110,97,116,101],
   .str [116,104,101,110],
   .str [116,121,112,101],
   .str [117,110,116,105,108],
   .str [117,115,101],
   .str [119,104,101,110],
   .str [119,104,105,108,101],
   .str [119,105,116,104],
   .str [120,111,114]],
 .tup
  [.str [97,110,100],
   .str [111,114],
   .str [120,111,114],
   .str [61],
   .str [60],
   .str [60,61],
   .str [62],
   .str [62,61],
   .str [43],
   .str [45],
   .str [38],
   .str [42],
   .str [47],
   .str [109,111,100],
   .str [114,101,109],
   .str [42,42]],
 .tup [.str [43],.str [45],.str [97,98,115],.str [110,111,116]],
 .tup
  [.str [61],
   .str [47,61],
   .str [60],
   .str [60,61],
   .str [62],
   .str [62,61]],
 .tup
  [.str [110,97,109,101],
   .str [115,101,108,101,99,116],
   .str [97,112,112,108,121],
   .str [97,108,108],
   .str [116,105,99,107]],
 .tup
  [.str [114,97,110,103,101],
   .str [97,99,99,101,115,115],
   .str [100,105,103,105,116,115],
   .str [100,101,108,116,97],
   .str [109,111,100]],
 .tup [.str [98,97,115,101],.str [99,108,97,115,115]],
 .str
  [97,98,99,100,101,102,103,104,105,106,107,108,109,110,111,112,113,114,115,116,117,118,119,120,
   121,122],
 .str [48,49,50,51,52,53,54,55,56,57],
 .str [48,49,50,51,52,53,54,55,56,57,97,98,99,100,101,102],
 .tup
  [.str [61,62],
   .str [46,46],
   .str [42,42],
   .str [58,61],
   .str [47,61],
   .str [62,61],
   .str [60,61],
   .str [60,60],
   .str [62,62],
   .str [60,62]],
 .str [38,40,41,42,43,44,45,46,47,58,59,60,61,62,124],
 .str [32,9,13,10,12,11],
 .int 80,
 .int 400,
 .tup [.str [97,110,100,116,104,101,110],.str [111,114,101,108,115,101]],
 .tup
  [.int 10,
   .int 2,
   .int 3,
   .int 4,
   .int 5,
   .int 6,
   .int 7,
   .int 8,
   .int 9,
   .int 11,
   .int 12,
   .int 13,
   .int 14,
   .int 15,
   .int 16],
 .str [48,49,50,51,52,53,54,55,56,57,97,98,99,100,101,102]]
noncomputable def fns:List Fn:=[lB,ux,uz,xW,C3,C5,xY,xa,xe,xg,dF,cO,xi,vB,jw,sm,lZ,mZ,rE,rG,ow,oz,lC,o4,lD,jy,so,m9,o5,pC,jA,su,jz,ma,o6,lE,kC,pH,rI,vD,oF,rK,vF,vH,rM,zg,rP,rR,o7,vJ,mf,xl,o8,rT,vL,vO,vQ,rV,xn,lF,mi,rX,o9,rZ,vS,mj,xp,vU,pJ,vW,mo,mq,LI]
noncomputable def gl(g:Nat):AV:=zh.getD g .none
noncomputable def FT:List (Str×Addr):=[(Str.ofString "token_ahead",120),(Str.ofString "peek_token",127),(Str.ofString "take_token",134),(Str.ofString "here_line",141),(Str.ofString "is_sign",156),(Str.ofString "is_word",164),(Str.ofString "take_sign",171),(Str.ofString "take_word",178),(Str.ofString "need_sign",185),(Str.ofString "need_name",192),(Str.ofString "tree_parts",199),(Str.ofString "check_height",204),(Str.ofString "open_nest",211),(Str.ofString "close_nest",218),(Str.ofString "bounded_tree",225),(Str.ofString "is_reserved",235),(Str.ofString "is_operator_name",242),(Str.ofString "parse_expr",253),(Str.ofString "logical_word",260),(Str.ofString "logical_tree",267),(Str.ofString "relation_sign",274),(Str.ofString "relation_tree",281),(Str.ofString "simple_tree",295),(Str.ofString "term_tree",302),(Str.ofString "factor_tree",309),(Str.ofString "primary_tree",316),(Str.ofString "symbol_name",323),(Str.ofString "parse_name",330),(Str.ofString "name_tree",337),(Str.ofString "selected_tree",344),(Str.ofString "attribute_tree",351),(Str.ofString "extent_tree",358),(Str.ofString "parse_choice",372),(Str.ofString "assoc_here",379),(Str.ofString "assoc_row",386),(Str.ofString "assocs_here",393),(Str.ofString "bracket_tree",400),(Str.ofString "refuse_ranges",407),(Str.ofString "lone_bracket",414),(Str.ofString "small_sign",436),(Str.ofString "is_name_letter",443),(Str.ofString "is_name_part",450),(Str.ofString "is_graphic",457),(Str.ofString "name_token",464),(Str.ofString "read_numeral",471),(Str.ofString "power_of",478),(Str.ofString "number_token",485),(Str.ofString "string_token",492),(Str.ofString "is_prefix",499),(Str.ofString "tick_token",506),(Str.ofString "delimiter_token",513),(Str.ofString "one_token",520),(Str.ofString "tokens_of",534),(Str.ofString "logical_sort",558),(Str.ofString "figures_of",593),(Str.ofString "show_based",600),(Str.ofString "show_whole",607),(Str.ofString "show_literal",628),(Str.ofString "show_part",633),(Str.ofString "show_assocs",638),(Str.ofString "show_named",643),(Str.ofString "show_bracket",650),(Str.ofString "show_expr",671),(Str.ofString "_law_symbols",678),(Str.ofString "_law_ticks",685),(Str.ofString "_law_stone",692),(Str.ofString "_law_part",699),(Str.ofString "_law_begun",706),(Str.ofString "_law_brackets",711),(Str.ofString "_law_point",718),(Str.ofString "_law_grown",723),(Str.ofString "_law_heard",730),(Str.ofString "law",737)]
noncomputable def BS:List (Str×Value):=[(Str.ofString "MOST_HIGH",Value.int 60 438),(Str.ofString "MOST_NESTED",Value.int 24 440),(Str.ofString "RESERVED",Value.ref 226),(Str.ofString "BINARY_NAMES",Value.ref 227),(Str.ofString "UNARY_NAMES",Value.ref 228),(Str.ofString "RELATIONS",Value.ref 243),(Str.ofString "NAMES",Value.ref 244),(Str.ofString "WORDS_AS_ATTRIBUTES",Value.ref 245),(Str.ofString "MARK_ATTRIBUTES",Value.ref 246),(Str.ofString "SMALL_LETTERS",Value.str (Str.ofString "abcdefghijklmnopqrstuvwxyz") 850),(Str.ofString "FIGURES",Value.str (Str.ofString "0123456789") 852),(Str.ofString "BASED_FIGURES",Value.str (Str.ofString "0123456789abcdef") 854),(Str.ofString "COMPOUNDS",Value.ref 429),(Str.ofString "SINGLES",Value.str (Str.ofString "&()*+,-./:;<=>|") 867),(Str.ofString "GAPS",Value.str (Str.ofString " \t\x0d\n\x0c\x0b") 869),(Str.ofString "MOST_FIGURES",Value.int 80 871),(Str.ofString "MOST_POWER",Value.int 400 873),(Str.ofString "SHORT_WORDS",Value.ref 550),(Str.ofString "LITERAL_BASES",Value.ref 551),(Str.ofString "FIGURE_SIGNS",Value.str (Str.ofString "0123456789abcdef") 1132)]
theorem r4:fns[0]?=some lB:=rfl
theorem sw:fns[10]?=some dF:=rfl
theorem pK:fns[11]?=some cO:=rfl
theorem j5:fns[14]?=some jw:=rfl
theorem sx:fns[17]?=some mZ:=rfl
theorem kE:fns[22]?=some lC:=rfl
theorem vX:fns[23]?=some o4:=rfl
theorem r5:fns[24]?=some lD:=rfl
theorem j6:fns[25]?=some jy:=rfl
theorem lG:fns[27]?=some m9:=rfl
theorem mu:fns[28]?=some o5:=rfl
theorem iU:fns[30]?=some jA:=rfl
theorem pL:fns[32]?=some jz:=rfl
theorem tA:fns[33]?=some ma:=rfl
theorem jP:fns[34]?=some o6:=rfl
theorem r6:fns[35]?=some lE:=rfl
theorem pM:fns[36]?=some kC:=rfl
theorem vY:fns[48]?=some o7:=rfl
theorem vZ:fns[52]?=some o8:=rfl
theorem r7:fns[59]?=some lF:=rfl
theorem lH:fns[60]?=some mi:=rfl
theorem mv:fns[62]?=some o9:=rfl
theorem tB:fns[65]?=some mj:=rfl
theorem tC:fns[70]?=some mo:=rfl
theorem lI:fns[71]?=some mq:=rfl
theorem Na:fns[72]?=some LI:=rfl
end Internal
end
section
open PySem PySem.W PyProof.Rows PySem.Calls PySem.Spec
set_option backward.match.sparseCases true
namespace Internal
noncomputable def JH:Tb:={fns:=FT,wk:=BS,ab:=Str.ofString "Reader",atts:=(["tokens","at","nest","deep","parse_expr","parse_name","parse_discrete","parse_choices","parse_declarations","parse_formals","parse_statements","parse_sequence","parse_handlers","parse_handled","parse_item"]:List String).map fun s=>(Str.ofString s).cps.toList}
noncomputable def JI:Cx:={T:=JH,dct:=17,nR:=Str.ofString "refuse_here",nS:=Str.ofString "SyntaxFault",h:=3}
noncomputable abbrev GG(w:PySem.World):GC:={prog:=PySem.Challenge.pw_pp0066_01,w:=w,K:=Internal.H.K0 w.params,RC:=109,SF:=70}
theorem R7(w:PySem.World):((FT.zip fns).all fun x=>(pF (GG w) JI x.1.2 x.2).isSome)=true:=by kernel_rfl
theorem R8(w:PySem.World):(pF (GG w) JI 106 ini).isSome=true:=by kernel_rfl
theorem R9(p:Params):R6 (Internal.H.K0 p) JH 109=true:=by kernel_rfl
theorem Nb(p:Params):findCls (Internal.H.K0 p) (.ref 31) (.type "type") "__init__"=some (.val (.ref 28)):=by kernel_rfl
theorem Ra(w:PySem.World):(VP (GG w) JI 31 67 28 148 (Nb w.params)).isSome=true:=by kernel_rfl
theorem VQ(p:Params):makesIn (Internal.H.K0 p) 109=true:=by kernel_rfl
theorem VS(p:Params):((List.range BS.length).all fun g=>g==17||(BS[g]?).all fun x=>(pV (Internal.H.K0 p) (gl g) x.2).isSome)=true:=by kernel_rfl
theorem JJ(p:Params):findIn (Internal.H.K0 p) (.ref 109) "__init__"=some (some (.ref 106)):=by kernel_rfl
theorem JK(p:Params):typeIn (Internal.H.K0 p) (.ref 106)=some (.type "function"):=by kernel_rfl
theorem Nc(p:Params):(Internal.H.K0 p).lookup 550=some {cls:=.type "dict",data:=.dict #[{hash:=PyData.keyHash p (Str.ofString "andthen"),key:=.str (Str.ofString "andthen") 1107,val:=.str (Str.ofString "and then") 1108},{hash:=PyData.keyHash p (Str.ofString "orelse"),key:=.str (Str.ofString "orelse") 1109,val:=.str (Str.ofString "or else") 1110}] 2}:=by kernel_rfl
theorem FU{s:Str}{l x:List Nat}(h:s=⟨l.toArray⟩):decide (s=⟨x.toArray⟩)=(l==x):=by
 subst h;refine Bool.eq_iff_iff.2 (decide_eq_true_iff.trans (Iff.trans ⟨fun q=>?_,fun q=>by rw[q]⟩ beq_iff_eq.symm))
 injection q with q;simpa using q
theorem Rb{b:Bool}(hi:fp (.str x) [.str [97,110,100,116,104,101,110],.str [111,114,101,108,115,101]]=some b) :
  (valueAt [(Str.ofString "andthen",Value.str (Str.ofString "and then") 1108),(Str.ofString "orelse",.str (Str.ofString "or else") 1110)] (⟨x.toArray⟩:Str)).isSome=b:=by
 refine(Option.isSome_map ..).trans ((List.isSome_find? ..).trans ?_);show(decide _||(decide _||false))=b
 rw[FU (x:=x) (show Str.ofString "andthen"=⟨[97,110,100,116,104,101,110].toArray⟩ by decide +kernel),FU (x:=x) (show Str.ofString "orelse"=⟨[111,114,101,108,115,101].toArray⟩ by decide +kernel)]
 exact(Aa hi).2
theorem Nd(w:PySem.World)(W:dP)(hW:W.gl=gl):Uz (GG w) JH W 17:=by
 refine⟨fun g nm v hg aK B bs=>?_,fun nm v hg B bs=>?_⟩
 ·have XV:BS[g]?=some (nm,v):=hg;have h:=List.all_eq_true.1 (VS w.params) g (List.mem_range.2 (dg.1 XV).1);rw[XV]at h;rw[hW];exact Pf.get ((Bool.or_eq_true_iff.1 h).resolve_left fun q=>aK (beq_iff_eq.1 q)) _ _ _ bs.k fun U z=>z
 ·cases bE hg;refine⟨_,550,by rw[hW];rfl,rfl,fun A E s x t b Q sb hi hq=>?_⟩
  have hd:s.heap.DictOf (strKind PySem.Challenge.pw_pp0066_01 w) 550 [(Str.ofString "andthen",.str (Str.ofString "and then") 1108),(Str.ofString "orelse",.str (Str.ofString "or else") 1110)]:=
   ⟨_,_,_,sb _ _ (bs.k _ _ (Nc w.params)),⟨rfl,rfl,rfl⟩,rfl,fun e he=>(b8.1 (Array.mem_toList_iff.mpr he)).elim (fun q=>q▸⟨Str.ofString "andthen",strKind_is _ _ _ _,rfl⟩) fun q=>List.mem_singleton.1 q▸⟨Str.ofString "orelse",strKind_is _ _ _ _,rfl⟩,.cons (strKind_is _ _ _ _) rfl (.cons (strKind_is _ _ _ _) rfl .nil),by decide⟩
  refine wpAny_in_of (knd:=strKind PySem.Challenge.pw_pp0066_01 w) (strKind_is _ _ _ _) (by decide) hd.mapOf ?_
  rw[Rb hi];exact hq _
theorem JL{f:Nat}{nm:Str}{fa:Addr}(h:JH.fns[f]?=some (nm,fa)):∃F,fns[f]?=some F:=by
 have oX:f<FT.length:=(dg.mp h).1;have VT:f<fns.length:=oX;exact⟨_,List.getElem?_eq_getElem VT⟩
theorem Nf(w:PySem.World):PU (GG w) JI fns ini gl:=by
 refine⟨fun f nm fa hf=>?_,?_,JG (R9 w.params),Nd w,Pf.get (Ra w)⟩
 ·obtain⟨F,hF⟩:=JL hf;have:=R7 w;rw[List.all_eq_true]at this;have h:=this ((nm,fa),F) (eN (i:=f) (by rw[List.getElem?_zip_eq_some];exact⟨hf,hF⟩))
  refine ly (Pf.get h) fun aB fd body Q c=>?_;exact⟨F,aB,fd,body,hF,Q,c⟩
 ·refine ly (Pf.get (R8 w)) fun aB fd body Q c=>?_;exact⟨106,aB,fd,body,Q,c,VQ w.params,JJ w.params,JK w.params⟩
noncomputable def LK:Nat:=72
noncomputable def VU:Nat:=5000
noncomputable def zi:Nat:=220
theorem Rd(p:Params):nsIn (Internal.H.K0 p) mainGlobals (Str.ofString "law")=some (some (.ref 737)):=by kernel_rfl
noncomputable def Pure:Prop:=∀ns:List Int,ns.length<=63->∃c,bL fns ini gl VU zi LK [.lst (ns.map .int)] [] = .ok (.bool true) c
set_option tactic.hygienic true in
theorem join(v0:Pure):PySem.Challenge.rw_pp0066_01.Holds:=by
 refine holds_law Internal.H.ws fun VW=>?_;clear VW;refine Internal.H.hd ?_;intro w aZ aT mg mb G aG fa o pm cd doc dV kV ho hd Zj hD XW hg args vals as oo VX Zk Um Zl;have KX:=kIn_of aG;have T:=G.T;have Re:mg (Str.ofString "law")=some (.ref fa):=XW;have Zm:fa=737:=by
  have:=(mg_of KX T.g (Rd w.params)).symm.trans Re;injection this with this
  injection this with this
  exact this.symm
 subst Zm;clear aG hD hd Zj ho G XW Re
 wrow_args oo VX Zk Um Zl
 rename_i ns _ _ _ _ _ _ _ a vs _ hl _ _ _ hI _ hlen _;have Rf:ns.length<=63:=by omega
 obtain⟨c,hc⟩:=v0 ns Rf;have bs:Bs (GG w) aT.heap:=⟨KX,T.nolimit,mg,mb,T.g,T.b,T.builtins⟩;refine N0 (G:=GG w) (Nf w) (f:=LK) (nm:=Str.ofString "law") rfl bs (by decide) (by decide) hl hI hc fun h' tk hk=>?_
 refine GoodW.toG ⟨.inl ⟨_,.bool true,[],rfl,?_,.bool true,?_,fun U=>⟨.nil,fun a q=>nomatch q⟩⟩,hk,rfl,hg⟩
 ·exact raisesW_false (by wrow_none_raised)
 ·wrow_post
end Internal
end
section
namespace Internal
inductive V2 where
 |a (v:AV)|tp (l:List V2)|ab|ib|xq|pz|txt (l:List Nat)|pos (k:Nat)|je|fW (j:Nat)
noncomputable def V2.ctorIdx(v:V2):Nat:=V2.casesOn v (fun _=>0) (fun _=>1) 2 3 4 5 (fun _=>6) (fun _=>7) 8 (fun _=>9)
structure S2 where
 rest:List AV
 ne:Nat
 C6:List (Nat×Nat)
inductive O2(α:Type) where
 |ok (x:α) (Y:S2) (L:aC)|exc (m:Bool)|fail
noncomputable def O2.ctorIdx{α:Type}(o:O2 α):Nat:=O2.casesOn o (fun _ _ _=>0) (fun _=>1) 2
noncomputable def O2.bind{α Z:Type}:O2 α->(α->S2->aC->O2 Z)->O2 Z
 |.ok a Y L,f=>f a Y L|.exc m,U=>.exc m|.fail,U=>.fail
theorem dA{α Z:Type}{o o':O2 α}{f:α->S2->aC->O2 Z}(h:o=o'):o.bind f=o'.bind f:=h▸rfl
noncomputable def O2.calm{α:Type}:O2 α->O2 α
 |.ok a Y L=>.ok a Y L|_=>.fail
noncomputable def O2.fm{α:Type}:O2 α->O2 α
 |.ok a Y L=>.ok a Y L|.exc false=>.exc false|_=>.fail
noncomputable def dG{α:Type}(Y:S2)(L:aC):Option α->O2 α
 |some a=>.ok a Y L|.none=>.fail
noncomputable abbrev bS:=List (Option V2)
noncomputable def cV(L:aC):V2->V2
 |.fW j=>match L[j]? with
  |some (.list l)=>.a (.lst l)|some (.dead l)=>.a (.lst l)|_=>.fW j
 |v=>v
theorem Ng L j :
 cV L (V2.fW j) =
  match L[j]? with
  |some (Cell.list l)=>V2.a (AV.lst l)|some (Cell.dead l)=>V2.a (AV.lst l)|x=>V2.fW j:=rfl
noncomputable def BU(L:aC):V2->Option (V2×aC)
 |.fW j=>match L[j]? with
  |some (.list l)=>some (.a (.lst l),L.set j (.dead l))|some (.dead l)=>some (.a (.lst l),L)|_=>none
 |.a v=>some (.a v,L)|.tp l=>some (.tp l,L)|.pz=>some (.pz,L)|.txt l=>some (.txt l,L)|.pos k=>some (.pos k,L)|.je=>some (.je,L)|_=>none
theorem Rg L j :
 BU L (V2.fW j) =
  match L[j]? with
  |some (Cell.list l)=>some (V2.a (AV.lst l),List.set L j (Cell.dead l))|some (Cell.dead l)=>some (V2.a (AV.lst l),L)|x=>none:=rfl
noncomputable def r8:List V2->aC->Option (List V2×aC)
 |[],L=>some ([],L)|v::l,L=>match BU L v with
  |some (v,L)=>match r8 l L with
   |some (l,L)=>some (v::l,L)|none=>none
  |none=>none
theorem Nh x v l :
 r8 (v::l) x =
  match BU x v with
  |some (v,L)=>
   match r8 l L with
   |some (l,L)=>some (v::l,L)|none=>none
  |none=>none:=rfl
noncomputable def fE:List V2->Option (List AV)
 |[]=>some []|.a v::l=>match fE l with
  |some r=>some (v::r)|none=>none
 |U::bG=>none
theorem xr v l :
 fE (V2.a v::l) =
  match fE l with
  |some r=>some (v::r)|none=>none:=rfl
noncomputable def tl(l:List V2):V2:=match fE l with
 |some l=>.a (.tup l)|none=>.tp l
noncomputable def yp{Z:Type}(v:V2)(f:AV->Option Z):Option Z:=match v with
 |.a x=>f x|_=>none
noncomputable def T9{Z:Type}(v:V2)(f:Nat->Option Z):Option Z:=match v with
 |.pos x=>f x|_=>none
theorem v3{Z:Type}{v:V2}{f:AV->Option Z}{r:Z}(h:yp v f=some r):MG V2.a f r v:=by cases v<;>first|exact ak h|exact⟨_,h⟩
theorem Ax{Z:Type}{v:V2}{f:Nat->Option Z}{r:Z}(h:T9 v f=some r):MG V2.pos f r v:=by cases v<;>first|exact ak h|exact⟨_,h⟩
noncomputable def Ni{Z:Type}(l:List V2)(f:V2->Option Z):Option Z:=match l with
 |[x]=>f x|_=>none
noncomputable def FV{Z:Type}(l:List V2)(f:V2->V2->Option Z):Option Z:=match l with
 |[x,y]=>f x y|_=>none
theorem FW{Z:Type}:∀{l:List V2}{f:V2->Option Z}{r:Z},Ni l f=some r->TG f r l
 |[U],bG,dy,h=>⟨_,h⟩|[],U,bG,h=>ak h|U::bG::dy,lP,wO,h=>ak h
theorem zj{Z:Type}:∀{l:List V2}{f:V2->V2->Option Z}{r:Z},FV l f=some r->Tv f r l
 |[U,bG],dy,lP,h=>⟨_,_,h⟩|[],U,bG,h=>ak h|[U],bG,dy,h=>ak h|U::bG::dy::lP,wO,He,h=>ak h
noncomputable def Nj{Z:Type}(k:V2->Bool)(v:V2)(x:Option Z):Option Z:=match k v with
 |true=>x|false=>none
inductive VY{Z:Type}(b:Bool)(x:Option Z)(r:Z):Prop
 |mk (h:b=true) (e:x=some r)
theorem Rh{Z:Type}{k:V2->Bool}{v:V2}{x:Option Z}{r:Z}(h:Nj k v x=some r):VY (k v) x r:=by
 unfold Nj at h;cases q:k v with
 |true=>rw[q]at h;exact⟨rfl,h⟩|false=>rw[q]at h;exact ak h
noncomputable def FX:V2->Bool
 |.ab=>true|_=>false
noncomputable def LL:V2->Bool
 |.xq=>true|_=>false
noncomputable def LM:V2->Bool
 |.pz=>true|_=>false
noncomputable def LN:V2->Bool
 |.ib=>true|_=>false
theorem xt(h:FX v=true):v = .ab:=by cases v<;>first|rfl|exact eK h
theorem FY(h:LL v=true):v = .xq:=by cases v<;>first|rfl|exact eK h
theorem FZ(h:LM v=true):v = .pz:=by cases v<;>first|rfl|exact eK h
theorem F0(h:LN v=true):v = .ib:=by cases v<;>first|rfl|exact eK h
noncomputable def LP:yl->Bool
 |.add=>true|_=>false
noncomputable def JM(f:AV->AV->Option AV)(b:Bool)(x y:V2):Option V2:=match x with
 |.a x=>yp y fun y=>(f x y).map .a|.pos k=>yp y fun y=>jh y fun i=>match b with
  |true=>if 0<=i/\i<=1000 then some (.pos (k+i.toNat)) else none|false=>none
 |.txt l=>yp y fun y=>CB y fun m=>match b with
  |true=>if l.length+m.length<=5000 then some (.txt (l++m)) else none|false=>none
 |_=>none
noncomputable def oG(o:yl)(x y:V2):Option V2:=JM (binop o) (LP o) x y
noncomputable def zk(o:yl)(x y:V2):Option V2:=JM (gg o) (LP o) x y
noncomputable def Zn(s:List Nat)(k:Nat):Hd->Option Bool
 |.lt=>some (!(s.drop k).isEmpty)|_=>none
noncomputable def Zo(k m:Nat):Hd->Option Bool
 |.gt=>some (decide (k>m))|_=>none
noncomputable def eT(s:List Nat)(o:Hd)(x y:V2):Option Bool:=match x with
 |.a x=>yp y fun y=>dz o x y|.pos k=>match y with
  |.je=>Zn s k o|.pos m=>Zo k m o|_=>none
 |_=>none
noncomputable def JN(s:List Nat)(x y:V2):Option V2:=match x with
 |.a o=>yp y fun i=>(gm [] o i).map .a|.tp l=>yp y fun v=>jh v fun i=>if 0<=i/\l.length<=1000 then l[i.toNat]? else none|.txt l=>match l with
  |[]=>T9 y fun k=>(s[k]?).map fun x=>.a (.str [x])|U::bG=>none
 |_=>none
noncomputable def JO(s:List Nat)(x y w:V2):Option V2:=match x with
 |.a o=>yp y fun lo=>yp w fun hi=>(kj [] o lo hi).map .a|.txt l=>match l with
  |[]=>T9 y fun k=>T9 w fun m=>some (.a (.str ((s.drop k).take (m-k))))|U::bG=>none
 |_=>none
noncomputable def jQ:V2->Option Bool
 |.a v=>truthy [] v|_=>none
noncomputable def Ta(L:aC)(b:wX)(args:List V2):Option V2:=match fE (args.map (cV L)) with
 |some l=>match builtin [] b l with
  |some r=>some (.a r)|none=>none
 |none=>match b,args with
  |.len,[.txt []]=>some .je|U,bG=>none
noncomputable def xu(L:aC)(m:PH)(o:List Nat)(args:List V2):Option V2:=match fE (args.map (cV L)) with
 |some l=>match method [] m (.str o) l with
  |some r=>some (.a r)|none=>none
 |none=>none
noncomputable def hZ:V2->Option (List V2)
 |.a (.lst l)=>some (l.map .a)|.a (.tup l)=>some (l.map .a)|_=>none
noncomputable def jR(J:bS):List Nat->List V2->bS
 |x::xs,v::vs=>jR (J.set x (some v)) xs vs|U,bG=>J
theorem F1 J cf xs v vs:jR J (cf::xs) (v::vs)=jR (List.set J cf (some v)) xs vs:=rfl
noncomputable def kF(J:bS):lM->V2->Option bS
 |.one x,v=>some (J.set x (some v))|.tup xs,.a (.tup l)=>if xs.length=l.length then some (jR J xs (l.map .a)) else none|.tup xs,.tp l=>if xs.length=l.length then some (jR J xs l) else none|.tup U,bG=>none
mutual
noncomputable def pN:V2->Bool
 |.a U=>true|.tp l=>j7 l|.pz=>true|.txt U=>true|.pos U=>true|.je=>true|_=>false
noncomputable def j7:List V2->Bool
 |[]=>true|v::l=>pN v&&j7 l
end
theorem zl v l:j7 (v::l)=(pN v&&j7 l):=rfl
noncomputable def tD:V2->Bool
 |.fW U=>false|.tp l=>j7 l|_=>true
structure W2 where
 call:Nat->List V2->S2->O2 V2
 s:List Nat
 gl:Nat->AV
noncomputable def mw(f:V2->S2->aC->O2 (List AV)):List V2->S2->aC->O2 (List AV)
 |[],Y,L=>.ok [] Y L|v::l,Y,L=>(f v Y L).bind fun a Y L=>(mw f l Y L).bind fun r Y L=>.ok (a++r) Y L
theorem JP:∀(f:V2->S2->aC->O2 (List AV))(x:S2)(c:aC),mw f [] x c=O2.ok [] x c:=by intros;rfl
theorem BV:∀(f:V2->S2->aC->O2 (List AV))(x:S2)(c:aC)(v:V2)(l:List V2),mw f (v::l) x c=(f v x c).bind fun a Y L=>(mw f l Y L).bind fun r Y L=>O2.ok (a++r) Y L:=by intros;rfl
noncomputable def aM{α Z:Type}(o:Option α)(f:α->O2 Z):O2 Z:=match o with
 |some a=>f a|none=>.fail
noncomputable def getL(J:bS)(x:Nat):Option V2:=match J[x]? with
 |some o=>o|none=>none
theorem v4{x:Nat}(h:getL J x=some v):J[x]?=some (some v):=by
 unfold getL at h;cases e:J[x]? with
 |none=>rw[e]at h;exact ak h|some o=>rw[e]at h;cases h;rfl
noncomputable def mx(v:V2):Option Int:=yp v fun a=>jh a some
noncomputable def tm(v:V2):Option (List Nat):=yp v fun a=>CB a some
noncomputable def BW(v:V2):Option (List AV):=yp v fun a=>Po a some
noncomputable def F2:AV->Option (List AV)
 |.tup l=>some l|_=>none
noncomputable def tq:V2->Option Unit
 |.ab=>some ()|_=>none
noncomputable def r9:V2->Option Nat
 |.fW j=>some j|_=>none
theorem my{i:Int}(h:mx v=some i):v = .a (.int i):=by
 induction v3 h with|mk a h=>?_;induction gb h with|mk x h=>?_
 obtain rfl:=bE h;rfl
theorem rc{i:List Nat}(h:tm v=some i):v = .a (.str i):=by
 induction v3 h with|mk a h=>?_;induction yq h with|mk x h=>?_
 obtain rfl:=bE h;rfl
theorem F3{i:List AV}(h:BW v=some i):v = .a (.lst i):=by
 induction v3 h with|mk a h=>?_;induction Pu h with|mk x h=>?_
 obtain rfl:=bE h;rfl
theorem F4(h:F2 v=some l):v = .tup l:=by
 cases v with
 |tup l=>obtain rfl:=bE h;rfl
 |_=>exact ak h
theorem rf(h:tq v=some u):v = .ab:=by
 cases v with
 |ab=>rfl|_=>exact ak h
theorem xv{j:Nat}(h:r9 v=some j):v = .fW j:=by
 cases v with
 |fW j=>obtain rfl:=bE h;rfl
 |_=>exact ak h
noncomputable def Nk(L:aC)(v:V2):Option (AV×aC):=(BU L v).bind fun p=>yp p.1 fun a=>some (a,p.2)
theorem zm{p:AV×aC}(h:Nk L v=some p):BU L v=some (.a p.1,p.2):=by
 obtain⟨⟨w,L'⟩,e,h⟩:=qM h;obtain⟨a,h⟩:=v3 h;obtain rfl:=bE h;exact e
noncomputable def listAt(L:aC)(j:Nat):Option (List AV):=match L[j]? with
 |some x=>(match x with
  |.list l=>some l|_=>none)
 |none=>none
theorem listAt_eq{j:Nat}(h:listAt L j=some l):L[j]?=some (.list l):=by
 unfold listAt at h;cases e:L[j]? with
 |none=>rw[e]at h;exact ak h|some x=>
  rw[e]at h;cases x with
  |list l=>obtain rfl:=bE h;rfl
  |_=>exact ak h
noncomputable def F5(L:aC):O2 V2->O2 V2
 |.ok v Y U=>.ok v Y L|.exc U=>.exc false|.fail=>.fail
mutual
noncomputable def bQ(W:W2)(J:bS):Ex->S2->aC->O2 V2
 |.none,Y,L=>.ok (.a .none) Y L|.bool b,Y,L=>.ok (.a (.bool b)) Y L|.int i,Y,L=>.ok (.a (.int i)) Y L|.str s,Y,L=>.ok (.a (.str s)) Y L|.loc x,Y,L=>aM (getL J x) fun v=>.ok v Y L|.gl g,Y,L=>.ok (.a (W.gl g)) Y L|.bin o a b,Y,L=>(bQ W J a Y L).bind fun x Y L=>(bQ W J b Y L).bind fun y Y L=>dG Y L (oG o (cV L x) (cV L y))|.neg a,Y,L=>(bQ W J a Y L).bind fun x Y L=>aM (mx x) fun i=>.ok (.a (.int (-i))) Y L|.not_ U,bG,dy=>.fail|.and_ a b,Y,L=>(bQ W J a Y L).bind fun x Y L=>aM (jQ x) fun t=>match t with
  |true=>bQ W J b Y L|false=>.ok x Y L
 |.or_ a b,Y,L=>(bQ W J a Y L).bind fun x Y L=>aM (jQ x) fun t=>match t with
  |true=>.ok x Y L|false=>bQ W J b Y L
 |.ite t a b,Y,L=>(bu W J t Y L).bind fun x Y L=>match x with
  |true=>bQ W J a Y L|false=>bQ W J b Y L
 |.cmp o a b,Y,L=>(bQ W J a Y L).bind fun x Y L=>(bQ W J b Y L).bind fun y Y L=>aM (eT W.s o (cV L x) (cV L y)) fun r=>.ok (.a (.bool r)) Y L|.ki eQ fA a b d,Y,L=>(bQ W J a Y L).bind fun x Y L=>(bQ W J b Y L).bind fun y Y L=>aM (eT W.s eQ (cV L x) (cV L y)) fun t=>match t with
  |true=>(bQ W J d Y L).bind fun z Y L=>aM (eT W.s fA (cV L y) (cV L z)) fun r=>.ok (.a (.bool r)) Y L|false=>.ok (.a (.bool false)) Y L
 |.inD U bG,dy,lP=>.fail|.call f args,Y,L=>(eH W J args Y L).bind fun vs Y L=>match vs.all tD with
  |true=>F5 L (W.call f vs Y)|false=>.fail
 |.mk U,bG,dy=>.fail|.bi b args,Y,L=>(eH W J args Y L).bind fun vs Y L=>dG Y L (Ta L b vs)|.iK m o args,Y,L=>(bQ W J o Y L).bind fun x Y L=>aM (tm x) fun s=>(eH W J args Y L).bind fun vs Y L=>dG Y L (xu L m s vs)|.attr o n,Y,L=>(bQ W J o Y L).bind fun x Y L=>aM (tq x) fun U=>if n=[110,101,115,116]then .ok (.a (.int Y.ne)) Y L else .fail|.sub o i,Y,L=>(bQ W J o Y L).bind fun x Y L=>(bQ W J i Y L).bind fun y Y L=>dG Y L (JN W.s (cV L x) y)|.jH o lo hi,Y,L=>(bQ W J o Y L).bind fun x Y L=>(bQ W J lo Y L).bind fun l Y L=>(bQ W J hi Y L).bind fun h Y L=>dG Y L (JO W.s (cV L x) l h)|.tup l,Y,L=>(eH W J l Y L).bind fun vs Y L=>aM (r8 vs L) fun p=>.ok (tl p.1) Y p.2|.lst l,Y,L=>(eH W J l Y L).bind fun vs Y L=>aM (r8 vs L) fun p=>aM (fE p.1) fun l=>.ok (.a (.lst l)) Y p.2|.dict U bG,dy,lP=>.fail|.comp gM n t src cond elt,Y,L=>(xw W J src Y L).bind fun l Y L=>
   (mw (fun v Y L=>aM (kF (gM.map (fun x=>J[x]?.join)++List.replicate n none) t v) fun aE=>
    (lJ W aE cond Y L).bind fun b Y L=>match b with
    |true=>(bQ W aE elt Y L).bind fun x Y L=>aM (Nk L x) fun p=>.ok [p.1] Y p.2|false=>.ok [] Y L) l Y L).calm.bind fun r Y L=>if r.length<=1000 then .ok (.a (.lst r)) Y L else .fail
 |.jk U bG dy lP wO He,VZ,ζ7=>.fail
noncomputable def eH(W:W2)(J:bS):List Ex->S2->aC->O2 (List V2)
 |[],Y,L=>.ok [] Y L|e::l,Y,L=>(bQ W J e Y L).bind fun v Y L=>(eH W J l Y L).bind fun vs Y L=>.ok (v::vs) Y L
noncomputable def bu(W:W2)(J:bS):Cd->S2->aC->O2 Bool
 |.not_ t,Y,L=>(bu W J t Y L).bind fun b Y L=>.ok (!b) Y L|.and_ l,Y,L=>lJ W J l Y L|.or_ l,Y,L=>rg W J l Y L|.cmp o a b,Y,L=>(bQ W J a Y L).bind fun x Y L=>(bQ W J b Y L).bind fun y Y L=>dG Y L (eT W.s o (cV L x) (cV L y))|.ki eQ fA a b d,Y,L=>(bQ W J a Y L).bind fun x Y L=>(bQ W J b Y L).bind fun y Y L=>aM (eT W.s eQ (cV L x) (cV L y)) fun t=>match t with
  |true=>(bQ W J d Y L).bind fun z Y L=>dG Y L (eT W.s fA (cV L y) (cV L z))|false=>.ok false Y L
 |.inD a g,Y,L=>(bQ W J a Y L).bind fun x Y L=>aM (tm x) fun s=>aM (F2 (W.gl g)) fun l=>dG Y L (fp (.str s) l)|.val e,Y,L=>(bQ W J e Y L).bind fun x Y L=>dG Y L (jQ x)
noncomputable def lJ(W:W2)(J:bS):List Cd->S2->aC->O2 Bool
 |[],Y,L=>.ok true Y L|t::l,Y,L=>(bu W J t Y L).bind fun b Y L=>match b with
  |true=>lJ W J l Y L|false=>.ok false Y L
noncomputable def rg(W:W2)(J:bS):List Cd->S2->aC->O2 Bool
 |[],Y,L=>.ok false Y L|t::l,Y,L=>(bu W J t Y L).bind fun b Y L=>match b with
  |true=>.ok true Y L|false=>rg W J l Y L
noncomputable def xw(W:W2)(J:bS):Src->S2->aC->O2 (List V2)
 |.it e,Y,L=>(bQ W J e Y L).bind fun x Y L=>aM (BU L x) fun p=>dG Y p.2 (hZ p.1)|.lO e,Y,L=>(bQ W J e Y L).bind fun x Y L=>aM (mx x) fun i=>if 0<=i/\i<=aJ then .ok ((List.range i.toNat).map fun k=>V2.a (.int (Int.ofNat k))) Y L else .fail
end
theorem F6 W J x c e:xw W J (Src.it e) x c=(bQ W J e x c).bind fun x Y L=>aM (BU L x) fun p=>dG Y p.snd (hZ p.fst):=rfl
theorem Nl W J x c e:xw W J (Src.lO e) x c=(bQ W J e x c).bind fun x Y L=>aM (mx x) fun i=>if 0<=i/\i<=↑aJ then O2.ok (List.map (fun k=>V2.a (AV.int (Int.ofNat k))) (List.range i.toNat)) Y L else O2.fail:=rfl
theorem JQ W J x c:rg W J [] x c=O2.ok false x c:=rfl
theorem JR W J x c t l :
 rg W J (t::l) x c =
  (bu W J t x c).bind fun b Y L=>
   match b with
   |true=>O2.ok true Y L|false=>rg W J l Y L:=rfl
theorem BX W J x c:lJ W J [] x c=O2.ok true x c:=rfl
theorem JS W J x c t l :
 lJ W J (t::l) x c =
  (bu W J t x c).bind fun b Y L=>
   match b with
   |true=>lJ W J l Y L|false=>O2.ok false Y L:=rfl
theorem Nn(W:W2)(J:bS)(x:S2)(c:aC)(t:Cd):bu W J t.not_ x c=(bu W J t x c).bind fun b Y L=>O2.ok (!b) Y L:=rfl
theorem No W J x c l:bu W J (Cd.and_ l) x c=lJ W J l x c:=rfl
theorem Np W J x c l:bu W J (Cd.or_ l) x c=rg W J l x c:=rfl
theorem F7 W J x c o a b:bu W J (Cd.cmp o a b) x c=(bQ W J a x c).bind fun x Y L=>(bQ W J b Y L).bind fun y Y L=>dG Y L (eT W.s o (cV L x) (cV L y)):=rfl
theorem Nq W J x c eQ fA a b d :
 bu W J (Cd.ki eQ fA a b d) x c =
  (bQ W J a x c).bind fun x Y L=>
   (bQ W J b Y L).bind fun y Y L=>
    aM (eT W.s eQ (cV L x) (cV L y)) fun t=>
     match t with
     |true=>(bQ W J d Y L).bind fun z Y L=>dG Y L (eT W.s fA (cV L y) (cV L z))|false=>O2.ok false Y L:=rfl
theorem Nr W J x c a g:bu W J (Cd.inD a g) x c=(bQ W J a x c).bind fun x Y L=>aM (tm x) fun s=>aM (F2 (W.gl g)) fun l=>dG Y L (fp (AV.str s) l):=rfl
theorem zn W J x c e:bu W J (Cd.val e) x c=(bQ W J e x c).bind fun x Y L=>dG Y L (jQ x):=rfl
theorem F8 W J x c:eH W J [] x c=O2.ok [] x c:=rfl
theorem rh W J x c e l:eH W J (e::l) x c=(bQ W J e x c).bind fun v Y L=>(eH W J l Y L).bind fun vs Y L=>O2.ok (v::vs) Y L:=rfl
theorem LQ W J x c:bQ W J Ex.none x c=O2.ok (V2.a AV.none) x c:=rfl
theorem LR W J x c b:bQ W J (Ex.bool b) x c=O2.ok (V2.a (AV.bool b)) x c:=rfl
theorem Ri W J x c i:bQ W J (Ex.int i) x c=O2.ok (V2.a (AV.int i)) x c:=rfl
theorem tu W J x c s:bQ W J (Ex.str s) x c=O2.ok (V2.a (AV.str s)) x c:=rfl
theorem eI W J x c nY:bQ W J (Ex.loc nY) x c=aM (getL J nY) fun v=>O2.ok v x c:=rfl
theorem Rj W J x c g:bQ W J (Ex.gl g) x c=O2.ok (V2.a (W.gl g)) x c:=rfl
theorem LS W J x c o a b:bQ W J (Ex.bin o a b) x c=(bQ W J a x c).bind fun x Y L=>(bQ W J b Y L).bind fun y Y L=>dG Y L (oG o (cV L x) (cV L y)):=rfl
theorem Rk(W:W2)(J:bS)(x:S2)(c:aC)(a:Ex):bQ W J a.neg x c=(bQ W J a x c).bind fun x Y L=>aM (mx x) fun i=>O2.ok (V2.a (AV.int (-i))) Y L:=rfl
theorem Rm(W:W2)(J:bS)(x:S2)(c:aC)(a:Ex):bQ W J a.not_ x c=O2.fail:=rfl
theorem Nt(W:W2)(J:bS)(x:S2)(c:aC)(a b:Ex) :
 bQ W J (a.and_ b) x c =
  (bQ W J a x c).bind fun x Y L=>
   aM (jQ x) fun t=>
    match t with
    |true=>bQ W J b Y L|false=>O2.ok x Y L:=rfl
theorem Nu(W:W2)(J:bS)(x:S2)(c:aC)(a b:Ex) :
 bQ W J (a.or_ b) x c =
  (bQ W J a x c).bind fun x Y L=>
   aM (jQ x) fun t=>
    match t with
    |true=>O2.ok x Y L|false=>bQ W J b Y L:=rfl
theorem Nv W J x c t a b :
 bQ W J (Ex.ite t a b) x c =
  (bu W J t x c).bind fun x Y L=>
   match x with
   |true=>bQ W J a Y L|false=>bQ W J b Y L:=rfl
theorem Nw W J x c o a b:bQ W J (Ex.cmp o a b) x c=(bQ W J a x c).bind fun x Y L=>(bQ W J b Y L).bind fun y Y L=>aM (eT W.s o (cV L x) (cV L y)) fun r=>O2.ok (V2.a (AV.bool r)) Y L:=rfl
theorem Nx W J x c eQ fA a b d :
 bQ W J (Ex.ki eQ fA a b d) x c =
  (bQ W J a x c).bind fun x Y L=>
   (bQ W J b Y L).bind fun y Y L=>
    aM (eT W.s eQ (cV L x) (cV L y)) fun t=>
     match t with
     |true=>(bQ W J d Y L).bind fun z Y L=>aM (eT W.s fA (cV L y) (cV L z)) fun r=>O2.ok (V2.a (AV.bool r)) Y L|false=>O2.ok (V2.a (AV.bool false)) Y L:=rfl
theorem Ny(W:W2)(J:bS)(x:S2)(c:aC)(a:Ex)(g:Nat):bQ W J (a.inD g) x c=O2.fail:=rfl
theorem l4 W J x c f args :
 bQ W J (Ex.call f args) x c =
  (eH W J args x c).bind fun vs Y L=>
   match vs.all tD with
   |true=>F5 L (W.call f vs Y)|false=>O2.fail:=rfl
theorem Nz W J x c args:bQ W J (Ex.mk args) x c=O2.fail:=rfl
theorem OA W J x c b args:bQ W J (Ex.bi b args) x c=(eH W J args x c).bind fun vs Y L=>dG Y L (Ta L b vs):=rfl
theorem F9 W J x c m o args:bQ W J (Ex.iK m o args) x c=(bQ W J o x c).bind fun x Y L=>aM (tm x) fun s=>(eH W J args Y L).bind fun vs Y L=>dG Y L (xu L m s vs):=rfl
theorem OB(W:W2)(J:bS)(x:S2)(c:aC)(o:Ex)(n:List Nat):bQ W J (o.attr n) x c=(bQ W J o x c).bind fun x Y L=>aM (tq x) fun x=>if n=[110,101,115,116]then O2.ok (V2.a (AV.int ↑Y.ne)) Y L else O2.fail:=rfl
theorem OC(W:W2)(J:bS)(x:S2)(c:aC)(o i:Ex):bQ W J (o.sub i) x c=(bQ W J o x c).bind fun x Y L=>(bQ W J i Y L).bind fun y Y L=>dG Y L (JN W.s (cV L x) y):=rfl
theorem OD(W:W2)(J:bS)(x:S2)(c:aC)(o lo hi:Ex):bQ W J (o.jH lo hi) x c=(bQ W J o x c).bind fun x Y L=>(bQ W J lo Y L).bind fun l Y L=>(bQ W J hi Y L).bind fun h Y L=>dG Y L (JO W.s (cV L x) l h):=rfl
theorem Fa W J x c l:bQ W J (Ex.tup l) x c=(eH W J l x c).bind fun vs Y L=>aM (r8 vs L) fun p=>O2.ok (tl p.fst) Y p.snd:=rfl
theorem Fc W J x c l:bQ W J (Ex.lst l) x c=(eH W J l x c).bind fun vs Y L=>aM (r8 vs L) fun p=>aM (fE p.fst) fun l=>O2.ok (V2.a (AV.lst l)) Y p.snd:=rfl
theorem OE:∀(W:W2)(J:bS)(x:S2)(c:aC)(ks:List (List Nat))(vs:List Ex),bQ W J (Ex.dict ks vs) x c=O2.fail:=by intros;rfl
theorem Fd W J x c gM n t src cond elt :
 bQ W J (Ex.comp gM n t src cond elt) x c =
  (xw W J src x c).bind fun l Y L=>
   (mw
     (fun v Y L=>
      aM (kF (List.map (fun x=>J[x]?.join) gM++List.replicate n none) t v) fun aE=>
       (lJ W aE cond Y L).bind fun b Y L=>
        match b with
        |true=>(bQ W aE elt Y L).bind fun x Y L=>aM (Nk L x) fun p=>O2.ok [p.fst] Y p.snd|false=>O2.ok [] Y L)
     l Y L).calm.bind
    fun r Y L=>if r.length<=1000 then O2.ok (V2.a (AV.lst r)) Y L else O2.fail:=rfl
theorem OF W J x c n t src eR cz elt:bQ W J (Ex.jk n t src eR cz elt) x c=O2.fail:=rfl
inductive iV where
 |nx (J:bS)|rt (v:V2)|bk (J:bS)
noncomputable def iV.ctorIdx(f:iV):Nat:=iV.casesOn f (fun _=>0) (fun _=>1) (fun _=>2)
noncomputable def fc(t:bS->S2->aC->O2 Bool)(b:bS->S2->aC->O2 iV):Nat->bS->S2->aC->O2 iV
 |0,U,bG,dy=>.fail|n+1,J,Y,L=>(t J Y L).fm.bind fun x Y L=>match x with
  |true=>(b J Y L).fm.bind fun f Y L=>match f with
   |.nx J=>fc t b n J Y L|.rt v=>.ok (.rt v) Y L|.bk J=>.ok (.nx J) Y L
  |false=>.ok (.nx J) Y L
theorem Fe t b x c cf:fc t b 0 x c cf=O2.fail:=rfl
theorem kG t b x c cf n :
 fc t b n.succ x c cf =
  (t x c cf).fm.bind fun nY Y L=>
   match nY with
   |true=>
    (b x Y L).fm.bind fun f Y L=>
     match f with
     |iV.nx J=>fc t b n J Y L|iV.rt v=>O2.ok (iV.rt v) Y L|iV.bk J=>O2.ok (iV.nx J) Y L
   |false=>O2.ok (iV.nx x) Y L:=rfl
noncomputable def l7(t:lM)(b:bS->S2->aC->O2 iV):List V2->bS->S2->aC->O2 iV
 |[],J,Y,L=>.ok (.nx J) Y L|v::l,J,Y,L=>aM (kF J t v) fun J=>(b J Y L).fm.bind fun f Y L=>match f with
  |.nx J=>l7 t b l J Y L|.rt v=>.ok (.rt v) Y L|.bk J=>.ok (.nx J) Y L
theorem Fg t b x c cf:l7 t b [] x c cf=O2.ok (iV.nx x) c cf:=rfl
theorem Fh t b x c cf v l :
 l7 t b (v::l) x c cf =
  aM (kF x t v) fun J=>
   (b J c cf).fm.bind fun f Y L=>
    match f with
    |iV.nx J=>l7 t b l J Y L|iV.rt v=>O2.ok (iV.rt v) Y L|iV.bk J=>O2.ok (iV.nx J) Y L:=rfl
noncomputable def v5:Ex->Bool
 |.dict U bG=>true|_=>false
theorem C7(h:v5 e=false):e≠.dict ks vs:=fun q=>by subst q;exact PG h
noncomputable def Fj:Ex->Option Unit
 |.int i=>if i=1 then some () else none|_=>none
theorem Fk(h:Fj e=some u):e = .int 1:=by
 cases e with
 |int i=>obtain⟨rfl,_⟩:=Aa h;rfl
 |_=>exact ak h
noncomputable def XX(l:List AV):Option (List AV):=match l with
 |U::r=>some r|[]=>none
noncomputable def LU(k:Nat):Option Nat:=match k with
 |k+1=>some k|0=>none
noncomputable def OG(op:yl)(Y:S2):Option S2:=match op with
 |.add=>(XX Y.rest).map fun r=>{Y with rest:=r}
 |_=>none
noncomputable def Fm(op:yl)(Y:S2):Option S2:=match op with
 |.add=>some {Y with ne:=Y.ne+1}
 |.sub=>(LU Y.ne).map fun k=>{Y with ne:=k}
 |_=>none
noncomputable def v6(vs:List V2):Option (List Nat):=match vs with
 |[]=>none|x::l=>(tq x).bind fun U=>match l with
  |[]=>none|y::l=>match l with
   |[]=>tm y|U::bG=>none
theorem zo(h:v6 vs=some s):vs=[.ab,.a (.str s)]:=by
 cases vs with
 |nil=>exact ak h|cons x l=>
  obtain⟨u,e,h⟩:=qM h;cases l with
  |nil=>exact ak h|cons y l=>
   cases l with
   |nil=>rw[rf e,rc h]|cons U bG=>exact ak h
noncomputable def v7:O2 V2->O2 iV
 |.ok v U bG=>aM (mx v) fun U=>.exc true|.exc U=>.fail|.fail=>.fail
mutual
noncomputable def g6(W:W2)(lf:Nat):Sx->bS->S2->aC->O2 iV
 |.expr e,J,Y,L=>(bQ W J e Y L).bind fun U Y L=>.ok (.nx J) Y L|.app x e,J,Y,L=>aM ((getL J x).bind r9) fun j=>aM (listAt L j) fun U=>(bQ W J e Y L).bind fun v Y L=>aM (Nk L v) fun p=>
   aM (listAt p.2 j) fun l=>if l.length<=1000 then .ok (.nx J) Y (p.2.set j (.list (l++[p.1]))) else .fail
 |.ext U bG,dy,lP,wO=>.fail|.ret e,J,Y,L=>(bQ W J e Y L).bind fun v Y L=>aM (BU L v) fun p=>.ok (.rt p.1) Y p.2|.asg x e,J,Y,L=>(bQ W J e Y L).bind fun v Y L=>.ok (.nx (J.set x (some v))) Y L|.dn x e,J,Y,L=>match v5 e with
  |true=>.fail|false=>(bQ W J e Y L).bind fun v Y L=>aM (BW v) fun l=>.ok (.nx (J.set x (some (.fW L.length)))) Y (L++[.list l])
 |.iM xs e,J,Y,L=>(bQ W J e Y L).bind fun v Y L=>aM (kF J (.tup xs) v) fun J=>.ok (.nx J) Y L|.gz U bG dy,lP,wO,He=>.fail|.uU o i e,J,Y,L=>(bQ W J e Y L).bind fun v Y L=>aM (Nk L v) fun p=>(bQ W J o Y p.2).bind fun o Y L=>(bQ W J i Y L).bind fun i Y L=>
   aM (r9 o) fun j=>aM (mx i) fun i=>aM (listAt L j) fun l=>if i<0/\l.length<=aJ then aM (place l.length i) fun k=>.ok (.nx J) Y (L.set j (.list (l.set k p.1))) else .fail
 |.hJ x op e,J,Y,L=>aM (getL J x) fun o=>(bQ W J e Y L).bind fun v Y L=>aM (zk op o v) fun r=>.ok (.nx (J.set x (some r))) Y L|.g9 o n op e,J,Y,L=>(bQ W J o Y L).bind fun o Y L=>aM (tq o) fun U=>aM (Fj e) fun U=>
   if n=[97,116]then aM (OG op Y) fun Y=>.ok (.nx J) Y L
   else if n=[110,101,115,116]then aM (Fm op Y) fun Y=>.ok (.nx J) Y L
   else .fail
 |.uV U bG dy lP,wO,He,VZ=>.fail|.ite t a b,J,Y,L=>(bu W J t Y L).bind fun x Y L=>match x with
  |true=>al W lf a J Y L|false=>al W lf b J Y L
 |.n4 t b,J,Y,L=>fc (fun J Y L=>bu W J t Y L) (fun J Y L=>al W lf b J Y L) lf J Y L|.i6 t s b,J,Y,L=>(xw W J s Y L).bind fun l Y L=>l7 t (fun J Y L=>al W lf b J Y L) l J Y L|.raise h args,J,Y,L=>(eH W J args Y L).bind fun vs Y L=>aM (v6 vs) fun U=>v7 (W.call h [.ab] Y)|.uW U,bG,dy,lP=>.fail|.brk,J,Y,L=>.ok (.bk J) Y L|.ag,U,bG,dy=>.fail
noncomputable def al(W:W2)(lf:Nat):List Sx->bS->S2->aC->O2 iV
 |[],J,Y,L=>.ok (.nx J) Y L|s::l,J,Y,L=>(g6 W lf s J Y L).bind fun f Y L=>match f with
  |.nx J=>al W lf l J Y L|.rt v=>.ok (.rt v) Y L|.bk J=>.ok (.bk J) Y L
end
theorem Fo W lf x c cf e:g6 W lf (Sx.expr e) x c cf=(bQ W x e c cf).bind fun nY Y L=>O2.ok (iV.nx x) Y L:=rfl
theorem LV W lf x c cf zp e:g6 W lf (Sx.app zp e) x c cf=aM ((getL x zp).bind r9) fun j=>aM (listAt cf j) fun nY=>(bQ W x e c cf).bind fun v Y L=>aM (Nk L v) fun p=>aM (listAt p.snd j) fun l=>if l.length<=1000 then O2.ok (iV.nx x) Y (List.set p.snd j (Cell.list (l++[p.fst]))) else O2.fail:=rfl
theorem Rn W lf x c cf zp e:g6 W lf (Sx.ext zp e) x c cf=O2.fail:=rfl
theorem BY W lf x c cf e:g6 W lf (Sx.ret e) x c cf=(bQ W x e c cf).bind fun v Y L=>aM (BU L v) fun p=>O2.ok (iV.rt p.fst) Y p.snd:=rfl
theorem Fp W lf x c cf zp e:g6 W lf (Sx.asg zp e) x c cf=(bQ W x e c cf).bind fun v Y L=>O2.ok (iV.nx (List.set x zp (some v))) Y L:=rfl
theorem LW W lf x c cf zp e :
 g6 W lf (Sx.dn zp e) x c cf =
  match v5 e with
  |true=>O2.fail|false=>(bQ W x e c cf).bind fun v Y L=>aM (BW v) fun l=>O2.ok (iV.nx (List.set x zp (some (V2.fW (List.length L))))) Y (L++[Cell.list l]):=rfl
theorem LY W lf x c cf xs e:g6 W lf (Sx.iM xs e) x c cf=(bQ W x e c cf).bind fun v Y L=>aM (kF x (lM.tup xs) v) fun J=>O2.ok (iV.nx J) Y L:=rfl
theorem Ro W lf x c cf o n e:g6 W lf (Sx.gz o n e) x c cf=O2.fail:=rfl
theorem Rq W lf x c cf o i e:g6 W lf (Sx.uU o i e) x c cf=(bQ W x e c cf).bind fun v Y L=>aM (Nk L v) fun p=>(bQ W x o Y p.snd).bind fun o Y L=>(bQ W x i Y L).bind fun i Y L=>aM (r9 o) fun j=>aM (mx i) fun i=>aM (listAt L j) fun l=>if i<0/\l.length<=aJ then aM (place l.length i) fun k=>O2.ok (iV.nx x) Y (List.set L j (Cell.list (l.set k p.fst))) else O2.fail:=rfl
theorem OH W lf x c cf zp op e:g6 W lf (Sx.hJ zp op e) x c cf=aM (getL x zp) fun o=>(bQ W x e c cf).bind fun v Y L=>aM (zk op o v) fun r=>O2.ok (iV.nx (List.set x zp (some r))) Y L:=rfl
theorem OI W lf x c cf o n op e:g6 W lf (Sx.g9 o n op e) x c cf=(bQ W x o c cf).bind fun o Y L=>aM (tq o) fun nY=>aM (Fj e) fun zp=>if n=[97,116]then aM (OG op Y) fun Y=>O2.ok (iV.nx x) Y L else if n=[110,101,115,116]then aM (Fm op Y) fun Y=>O2.ok (iV.nx x) Y L else O2.fail:=rfl
theorem OJ W lf x c cf o i op e:g6 W lf (Sx.uV o i op e) x c cf=O2.fail:=rfl
theorem zr W lf x c cf t a b :
 g6 W lf (Sx.ite t a b) x c cf =
  (bu W x t c cf).bind fun nY Y L=>
   match nY with
   |true=>al W lf a x Y L|false=>al W lf b x Y L:=rfl
theorem Fq W lf x c cf t b:g6 W lf (Sx.n4 t b) x c cf=fc (fun J Y L=>bu W J t Y L) (fun J Y L=>al W lf b J Y L) lf x c cf:=rfl
theorem OK W lf x c cf t s b:g6 W lf (Sx.i6 t s b) x c cf=(xw W x s c cf).bind fun l Y L=>l7 t (fun J Y L=>al W lf b J Y L) l x Y L:=rfl
theorem OL W lf x c cf h args:g6 W lf (Sx.raise h args) x c cf=(eH W x args c cf).bind fun vs Y L=>aM (v6 vs) fun x=>v7 (W.call h [V2.ab] Y):=rfl
theorem OM W lf x c cf b:g6 W lf (Sx.uW b) x c cf=O2.fail:=rfl
theorem ON W lf x c cf:g6 W lf Sx.brk x c cf=O2.ok (iV.bk x) c cf:=rfl
theorem OO W lf x c cf:g6 W lf Sx.ag x c cf=O2.fail:=rfl
theorem fF W lf x c cf:al W lf [] x c cf=O2.ok (iV.nx x) c cf:=rfl
theorem fG W lf x c cf s l :
 al W lf (s::l) x c cf =
  (g6 W lf s x c cf).bind fun f Y L=>
   match f with
   |iV.nx J=>al W lf l J Y L|iV.rt v=>O2.ok (iV.rt v) Y L|iV.bk J=>O2.ok (iV.bk J) Y L:=rfl
noncomputable def jS(W:W2)(lf:Nat)(f:Fn)(args:List V2)(Y:S2):O2 V2:=
 let args:=args++(f.dflt.drop (f.dflt.length-(f.np-args.length))).map .a
 if args.length=f.np then
  match al W lf f.body (args.map some++List.replicate (f.nl-f.np) none) Y []with
  |.ok (.rt v) Y U=>if pN v then .ok v Y []else .fail|.ok (.nx U) Y bG=>.ok (.a .none) Y []|.ok (.bk U) bG dy=>.fail|.exc U=>.exc false|.fail=>.fail
 else .fail
noncomputable abbrev Prim:=Nat->List V2->S2->Option (O2 V2)
noncomputable def eU(fns:List Fn)(gl:Nat->AV)(lf:Nat)(s:List Nat)(prim:Prim):Nat->Nat->List V2->S2->O2 V2
 |0,U,bG,dy=>.fail|n+1,f,args,Y=>match prim f args Y with
  |some r=>r|none=>match fns[f]? with
   |some F=>jS {call:=eU fns gl lf s prim n,s:=s,gl:=gl} lf F args Y|none=>.fail
theorem Ft fns gl lf s prim x c cf:eU fns gl lf s prim 0 x c cf=O2.fail:=rfl
theorem ri fns gl lf s prim x c cf n :
 eU fns gl lf s prim n.succ x c cf =
  match prim x c cf with
  |some r=>r|none=>
   match fns[x]? with
   |some F=>jS {call:=eU fns gl lf s prim n,s:=s,gl:=gl} lf F c cf|none=>O2.fail:=rfl
structure Cz where
 jf:S2->aC
 inv:S2->Prop
 n0:Nat
 T:List Nat
 p:Nat
 s:List Nat
 H:AV
 it:Nat
 rd:Bool
 gl:Nat->AV
noncomputable def cl(c:aC):Prop:=c.all (ai 0)=true
mutual
noncomputable def iv(z:Cz)(N:Nat):V2->AV
 |.a v=>v|.tp l=>.tup (Hi z N l)|.ab=>.ref 1|.ib=>.ref 0|.xq=>.ref z.it|.pz=>z.H|.txt l=>.str (z.T++l)|.pos k=>.int ((z.p+k:Nat):Int)|.je=>.int (z.T.length:Int)|.fW j=>.ref (N+j)
noncomputable def Hi(z:Cz)(N:Nat):List V2->List AV
 |[]=>[]|v::l=>iv z N v::Hi z N l
end
theorem JT z N l:iv z N (V2.tp l)=AV.tup (Hi z N l):=rfl
theorem Rr z N l:iv z N (V2.txt l)=AV.str (z.T++l):=rfl
theorem Rs z N k:iv z N (V2.pos k)=AV.int ↑(z.p+k):=rfl
theorem Rt z N:iv z N V2.je=AV.int ↑z.T.length:=rfl
theorem LZ z N j:iv z N (V2.fW j)=AV.ref (N+j):=rfl
theorem Ru z N:Hi z N []=[]:=rfl
theorem Rv z N v l:Hi z N (v::l)=iv z N v::Hi z N l:=rfl
theorem qA(z:Cz)(N:Nat)(l:List V2):Hi z N l=l.map (iv z N):=by
 induction l with
 |nil=>refine .trans (Ru ..)<|?_;rfl|cons v l ih=>(refine .trans (Rv ..)<|?_;rw[ih]);rfl
mutual
noncomputable def eJ(z:Cz):V2->Prop
 |.a v=>aH 0 v=true|.tp l=>xx z l/\j7 l=true|.ab=>z.rd=true|_=>True
noncomputable def xx(z:Cz):List V2->Prop
 |[]=>True|v::l=>eJ z v/\xx z l
end
theorem Rw z l:eJ z (V2.tp l)=(xx z l/\j7 l=true):=rfl
theorem OP z:xx z []=True:=rfl
theorem OQ z v l:xx z (v::l)=(eJ z v/\xx z l):=rfl
theorem mz:xx z l↔∀v∈l,eJ z v:=by
 induction l with
 |nil=>rw[OP];simp|cons v l ih=>rw[OQ,ih];simp
theorem bm(n:Nat):aH n .none=true:=rfl
theorem cj(n:Nat)(b:Bool):aH n (.bool b)=true:=rfl
theorem aa(n:Nat)(i:Int):aH n (.int i)=true:=rfl
theorem a9(n:Nat)(l:List Nat):aH n (.str l)=true:=rfl
mutual
theorem gC(n:Nat):∀{v:AV},aH 0 v=true->aH n v=true
 |.none,U=>bm _|.bool U,bG=>cj _ _|.int U,bG=>aa _ _|.str U,bG=>a9 _ _|.tup l,h=>by rw[nb]at h⊢;exact jT n h
 |.lst l,h=>by rw[yw]at h⊢;exact jT n h
 |.ref i,h=>by rw[Dv]at h;simp at h
theorem jT(n:Nat):∀{l:List AV},dW 0 l=true->dW n l=true
 |[],U=>by exact(cu ..)
 |a::l,h=>by
  rw[bH,be]at h⊢;exact⟨gC n h.1,jT n h.2⟩
end
theorem bN(n:Nat)(h:ai 0 x=true):ai n x=true:=by
 cases x<;>(unfold ai at h⊢;exact jT n h)
theorem ae:dW 0 l=true↔∀v∈l,aH 0 v=true:=by
 induction l with
 |nil=>rw[cu];simp|cons v l ih=>rw[bH,be,ih];simp
theorem bv:aH 0 (.tup l)=dW 0 l:=by exact(nb ..)
theorem bP:aH 0 (.lst l)=dW 0 l:=by exact(yw ..)
theorem fe(h:aH 0 v=true):∀i,v≠.ref i:=by
 rintro i rfl;rw[Dv]at h;simp at h
theorem dY:cl (a++b)↔cl a/\cl b:=by unfold cl;rw[List.all_append,be]
theorem jU:cl []:=rfl
theorem gD:cl c↔∀x∈c,ai 0 x=true:=by unfold cl;rw[List.all_eq_true]
theorem Fu{j:Nat}(h:cl c)(hx:ai 0 x=true):cl (c.set j x):=by
 rw[gD]at h⊢;intro y hy;rcases List.mem_or_eq_of_mem_set hy with q|q
 ·exact h y q
 ·rw[q];exact hx
theorem v8{c:aC}{j:Nat}{x:Cell}(h:cl c)(e:c[j]?=some x):ai 0 x=true:=gD.mp h x (eN e)
theorem cn(h:aH 0 v=true):c7 c v=v:=by
 cases v<;>first|rfl|exact aX rfl (fe h _)
theorem cJ(h:aH 0 v=true):fz c v = .ok v c:=by
 cases v<;>first|rfl|exact aX rfl (fe h _)
theorem Fv(hx:aH 0 x=true)(hy:aH 0 y=true)(h:binop o x y=some r):aH 0 r=true:=by
 cases o with
 |add=>
  cases x with
  |int x=>induction gb h with|mk y e=>?_;obtain rfl:=bE e;exact aa _ _
  |str x=>induction yq h with|mk y e=>?_;induction fg e with|mk _=>?_;exact a9 _ _
  |lst x=>
   induction Pu h with|mk y e=>?_;induction fg e with|mk _=>?_
   rw[bP]at hx hy⊢;rw[ae]at hx hy⊢;exact fun v hv=>(List.mem_append.mp hv).elim (hx v) (hy v)
  |_=>exact ak h
 |sub=>induction gb h with|mk x e=>?_;induction gb e with|mk y e1=>?_;obtain rfl:=bE e1;exact aa _ _
 |mul=>
  cases x with
  |int x=>induction gb h with|mk y e=>?_;induction fg e with|mk _=>?_;exact aa _ _
  |str x=>induction gb h with|mk y e=>?_;induction fg e with|mk _=>?_;exact a9 _ _
  |_=>exact ak h
 |mod=>induction gb h with|mk x e=>?_;induction gb e with|mk y e1=>?_;induction fg e1 with|mk _=>?_;exact aa _ _
 |fdiv=>induction gb h with|mk x e=>?_;induction gb e with|mk y e1=>?_;induction fg e1 with|mk _=>?_;exact aa _ _
 |pow=>induction gb h with|mk x e=>?_;induction gb e with|mk y e1=>?_;induction fg e1 with|mk _=>?_;exact aa _ _
theorem Fy(h:gg o x y=some r):aH 0 r=true:=by
 cases o with
 |add=>
  cases x with
  |int x=>induction gb h with|mk y e=>?_;obtain rfl:=bE e;exact aa _ _
  |str x=>induction yq h with|mk y e=>?_;induction fg e with|mk _=>?_;exact a9 _ _
  |_=>exact ak h
 |sub=>induction gb h with|mk x e=>?_;induction gb e with|mk y e1=>?_;obtain rfl:=bE e1;exact aa _ _
 |fdiv=>induction gb h with|mk x e=>?_;induction gb e with|mk y e1=>?_;induction fg e1 with|mk _=>?_;exact aa _ _
 |_=>exact ak h
theorem JU(ho:aH 0 o=true)(h:gm [] o i=some r):gm c o i=some r/\aH 0 r=true:=by
 cases i with
 |int i=>
  have e:gm c o (.int i)=gm [] o (.int i):=by
   cases o<;>first|rfl|exact aX rfl (fe ho _)
  refine⟨e.trans h,?_⟩;have H:=Db h;rw[cn ho]at H;induction H with
  |tup l r H=>obtain⟨k,_,_,e⟩:=H;exact(ae.mp (bv.symm.trans ho)) r (eN e)
  |lst l r H=>obtain⟨k,_,_,e⟩:=H;exact(ae.mp (bP.symm.trans ho)) r (eN e)
  |str=>exact a9 _ _
 |str k=>cases o<;>first|exact ak h|exact aX rfl (fe ho _)
 |_=>cases o<;>exact ak h
theorem JV(ho:aH 0 o=true)(h:kj [] o lo hi=some r):kj c o lo hi=some r/\aH 0 r=true:=by
 have e:kj c o lo hi=kj [] o lo hi:=by unfold kj;rw[cn ho,cn ho]
 refine⟨e.trans h,?_⟩;obtain⟨a,b,_,_,H⟩:=K4 h;rw[cn ho]at H;induction H with
 |tup l r U q=>
  refine bv.trans (ae.mpr fun v hv=>ae.mp (bv.symm.trans ho) v ?_);cases q with
  |of=>exact List.mem_of_mem_drop hv|to=>exact List.mem_of_mem_take hv
 |lst l=>exact bP.trans (ae.mpr fun v hv=>ae.mp (bP.symm.trans ho) v (List.mem_of_mem_drop (List.mem_of_mem_take hv)))|str=>exact a9 _ _
theorem C8(h:aH 0 v=true):truthy c v=truthy [] v:=by
 unfold truthy;rw[cn h,cn h]
set_option tactic.hygienic true in
theorem BZ(h:c7 c v=w)(hw:∀l,w≠.lst l)(hr:∀i,w≠.ref i):v=w:=by
 cases v<;>first|exact h|skip
 rename_i i;replace h:(match c[i]? with|some (.list l)=>.lst l|some (.dead l)=>.lst l|_=>.ref i:AV)=w:=h
 refine i5 (c[i]?) (fun x q=>?_) (fun q=>?_)
 ·rw[q]at h;cases x<;>first|exact aX h.symm (hw _) |exact aX h.symm (hr _)
 ·rw[q]at h;exact aX h.symm (hr _)
theorem B0(hr:∀i,c7 c v≠.ref i):c7 [] (c7 c v)=c7 c v:=by
 generalize c7 c v=w at hr;cases w<;>first|rfl|exact aX rfl (hr _)
theorem Fz(h:Ac v=some r):aH 0 r=true:=by
 cases v with
 |str s=>induction fg h with|mk _=>?_;exact aa _ _
 |tup s=>induction fg h with|mk _=>?_;exact aa _ _
 |lst s=>induction fg h with|mk _=>?_;exact aa _ _
 |_=>exact ak h
theorem GA(h:iN v=some r):aH 0 r=true:=by cases v<;>first| ((first|exact ak h|obtain rfl:=bE h);exact cj _ _) |exact ak h
theorem C9(h:hM v=some r):aH 0 r=true:=by cases v<;>first| ((first|exact ak h|obtain rfl:=bE h);exact cj _ _) |exact ak h
inductive Ry(f:AV->AV):List AV->AV->Prop
 |mk (v:AV):Ry f [v] (f v)
inductive Rz(f:AV->AV):List AV->AV->AV->Prop
 |mk (v w:AV):Rz f [v,w] (f v) (f w)
theorem Ca:∀{l:List AV}{v:AV},l.map f=[v]->Ry f l v
 |[w],v,e=>by obtain rfl:=(List.cons.inj e).1;exact⟨w⟩
theorem OR:∀{l:List AV}{v w:AV},l.map f=[v,w]->Rz f l v w
 |[x,y],v,w,e=>by obtain rfl:=(List.cons.inj e).1;obtain rfl:=(List.cons.inj (List.cons.inj e).2).1;exact⟨x,y⟩
theorem k9{i:Int}(h:c7 c v = .int i):v = .int i:=BZ h (fun U q=>nomatch q) (fun U q=>nomatch q)
theorem qB(h:c7 c v = .str i):v = .str i:=BZ h (fun U q=>nomatch q) (fun U q=>nomatch q)
theorem xy(h:builtin [] b (l.map (c7 c))=some r)(hr:∀v∈l.map (c7 c),∀i,v≠.ref i):builtin c b l=some r/\aH 0 r=true:=by
 have one:∀f:AV->Option AV,DZ (l.map (c7 c)) (fun v=>f (c7 [] v))=some r->(∀v r,f v=some r->aH 0 r=true)->DZ l (fun v=>f (c7 c v))=some r/\aH 0 r=true:=fun f e hf=>by
  refine au (n6 e) fun v e0 e1=>?_;induction Ca e0 with|mk v'=>?_
  rw[B0 (hr _ (by simp))]at e1
  exact⟨e1,hf _ _ e1⟩
 cases b with
 |len=>exact one Ac h fun v r=>Fz|isTup=>exact one iN h fun v r=>GA|isList=>exact one hM h fun v r=>C9|chr=>
  refine au (n6 h) fun v e0 e1=>?_;induction Ca e0 with|mk v'=>?_
  refine au (n5 e1) fun x e2 e3=>?_;obtain rfl:=k9 e2;induction fg e3 with|mk hc=>?_
  exact⟨aO hc,a9 _ _⟩
 |ord=>
  refine au (n6 h) fun v e0 e1=>?_;induction Ca e0 with|mk v'=>?_
  refine au (uX e1) fun x e2 e3=>?_;obtain rfl:=qB e2;induction PI e3 with|mk y e4=>?_
  obtain rfl:=bE e4;exact⟨rfl,aa _ _⟩
 |abs=>
  refine au (n6 h) fun v e0 e1=>?_;induction Ca e0 with|mk v'=>?_
  refine au (n5 e1) fun x e2 e3=>?_;obtain rfl:=k9 e2;obtain rfl:=bE e3;exact⟨rfl,aa _ _⟩
 |max=>
  refine ji (yr h) fun v w e0 e1=>?_;induction OR e0 with|mk v' w'=>?_
  refine au (n5 e1) fun x e2 e3=>?_;refine au (n5 e3) fun y e4 e5=>?_;obtain rfl:=k9 e2;obtain rfl:=k9 e4;obtain rfl:=bE e5;exact⟨rfl,aa _ _⟩
 |min=>
  refine ji (yr h) fun v w e0 e1=>?_;induction OR e0 with|mk v' w'=>?_
  refine au (n5 e1) fun x e2 e3=>?_;refine au (n5 e3) fun y e4 e5=>?_;obtain rfl:=k9 e2;obtain rfl:=k9 e4;obtain rfl:=bE e5;exact⟨rfl,aa _ _⟩
theorem JW(h:Df sep v=some r):aH 0 r=true:=by
 induction Pu h with|mk l e=>?_;obtain⟨ss,_,e1⟩:=qM e
 induction fg e1 with|mk _=>?_;exact a9 _ _
theorem zs(h:method [] m (.str o) (l.map (c7 c))=some r)(hr:∀v∈l.map (c7 c),∀i,v≠.ref i):method c m (.str o) l=some r/\aH 0 r=true:=by
 cases m with
 |lower=>
  induction fg h with|mk IB=>?_;obtain⟨h1,h2⟩:=IB
  refine⟨aO ⟨?_,h2⟩,a9 _ _⟩;rw[List.isEmpty_iff,List.map_eq_nil_iff]at h1;rw[h1];rfl
 |find=>
  refine au (n6 (a:=l.map (c7 c)) h) fun v e0 e1=>?_;induction Ca e0 with|mk v'=>?_
  refine au (uX e1) fun x e2 e3=>?_;obtain rfl:=qB e2;induction PI e3 with|mk y e4=>?_
  obtain rfl:=bE e4;exact⟨rfl,aa _ _⟩
 |replace=>
  refine ji (yr (a:=l.map (c7 c)) h) fun v w e0 e1=>?_;induction OR e0 with|mk v' w'=>?_
  refine au (uX e1) fun x e2 e3=>?_;refine au (uX e3) fun y e4 e5=>?_;obtain rfl:=qB e2;obtain rfl:=qB e4;induction fg e5 with|mk hc=>?_
  exact⟨aO hc,a9 _ _⟩
 |join=>
  refine au (n6 (a:=l.map (c7 c)) h) fun v e0 e1=>?_;induction Ca e0 with|mk v'=>?_
  rw[B0 (hr _ (by simp))]at e1
  exact⟨e1,JW e1⟩
structure Cz.Ok(z:Cz):Prop where
 len:∀Y,z.inv Y->(z.jf Y).length=z.n0
 JX:∀Y,z.inv Y->cl (z.jf Y)
 drop:z.T.drop z.p=z.s/\z.p<=z.T.length
 big:z.T.length<=90000
 pz:aH 0 z.H=true
 Zp:∀g,aH 0 (z.gl g)=true
 nest:z.rd=true->∀Y R,z.inv Y->eY (z.jf Y++R) (.ref 1) [110,101,115,116]=some (.int Y.ne)
 OS:z.rd=true->∀Y R t r,z.inv Y->Y.rest=t::r->∃a:Int,eY (z.jf Y++R) (.ref 1) [97,116]=some (.int a)/\db (z.jf Y++R) (.ref 1) [97,116] (.int (a+1))=some (z.jf {Y with rest:=r}++R)/\z.inv {Y with rest:=r}
 L6:z.rd=true->∀Y R (k:Nat),z.inv Y->db (z.jf Y++R) (.ref 1) [110,101,115,116] (.int k)=some (z.jf {Y with ne:=k}++R)/\z.inv {Y with ne:=k}
noncomputable def St(z:Cz)(R:aC)(Y:S2)(L:aC):aC:=z.jf Y++(R++L)
noncomputable def NN(z:Cz)(R:aC):Nat:=z.n0+R.length
noncomputable def lo1(z:Cz)(R:aC)(J:bS):Loc:=J.map (Option.map (iv z (NN z R)))
noncomputable def lK(z:Cz)(J:bS):Prop:=∀v,some v∈J->eJ z v
noncomputable def cq{α Z:Type}(z:Cz)(R:aC)(Q:α->Z->Prop)(o2:O2 α)(o1:aD Z):Prop:=match o2 with
 |.ok x Y L=>z.inv Y/\cl L/\∃y,o1 = .ok y (St z R Y L)/\Q x y|.exc m=>∃c,o1 = .exc m c/\cl c/\NN z R<=c.length|.fail=>True
theorem bV{α Z:Type}{z:Cz}{R:aC}{Q:α->Z->Prop}{o o':O2 α}{p:aD Z}(h:o=o')(k:cq z R Q o' p):cq z R Q o p:=h▸k
theorem cF{α Z:Type}{z:Cz}{R:aC}{Q:α->Z->Prop}{o:O2 α}{p p':aD Z}(h:p=p')(k:cq z R Q o p'):cq z R Q o p:=h▸k
noncomputable def QV(z:Cz)(R:aC)(v:V2)(x:AV):Prop:=eJ z v/\x=iv z (NN z R) v
noncomputable def XY(z:Cz)(R:aC)(vs:List V2)(xs:List AV):Prop:=(∀v∈vs,eJ z v)/\xs=vs.map (iv z (NN z R))
noncomputable def QL(r r':List AV):Prop:=r'=r/\∀v∈r,aH 0 v=true
noncomputable def Cb(z:Cz)(R:aC)(o2:O2 V2)(o1:aD AV):Prop:=match o2 with
 |.ok v Y U=>z.inv Y/\pN v=true/\eJ z v/\o1 = .ok (iv z 0 v) (z.jf Y++R)|.exc U=>∃c,o1 = .exc false c/\cl c/\c.length=NN z R|.fail=>True
structure WR(z:Cz)(W2:W2)(W1:dP):Prop where
 s:W2.s=z.s
 g2:W2.gl=z.gl
 g1:W1.gl=z.gl
 call:∀f args Y R,z.inv Y->cl R->(∀v∈args,eJ z v)->args.all tD=true->Cb z R (W2.call f args Y) (W1.call f (args.map (iv z 0)) (z.jf Y++R))
section
variable{z:Cz}{R:aC}
theorem cq.bind{α Z γ δ:Type}{Q:α->Z->Prop}{Q':γ->δ->Prop}{o2:O2 α}{o1:aD Z}{f2:α->S2->aC->O2 γ}{f1:Z->aC->aD δ}(h:cq z R Q o2 o1)
  (k:∀x y Y L,z.inv Y->cl L->Q x y->cq z R Q' (f2 x Y L) (f1 y (St z R Y L))):cq z R Q' (o2.bind f2) (o1.bind f1):=by
 cases o2 with
 |ok x Y L=>
  refine tJ h fun h1 h2 y fu h3=>?_;subst fu;exact k x y Y L h1 h2 h3
 |exc m=>
  obtain⟨c,rfl,h⟩:=h;exact⟨c,rfl,h⟩
 |fail=>trivial
theorem cq.fm{α Z:Type}{Q:α->Z->Prop}{o2:O2 α}{o1:aD Z}(h:cq z R Q o2 o1):cq z R Q o2.fm o1.fm:=by
 cases o2 with
 |ok x Y L=>
  refine tJ h fun h1 h2 y fu h3=>?_;subst fu;exact⟨h1,h2,y,rfl,h3⟩
 |exc m=>
  obtain⟨c,rfl,h⟩:=h;cases m with
  |true=>trivial|false=>exact⟨c,rfl,h⟩
 |fail=>trivial
theorem cq.calm{α Z:Type}{Q:α->Z->Prop}{o2:O2 α}{o1:aD Z}(h:cq z R Q o2 o1):cq z R Q o2.calm o1.calm:=by
 cases o2 with
 |ok x Y L=>
  refine tJ h fun h1 h2 y fu h3=>?_;subst fu;exact⟨h1,h2,y,rfl,h3⟩
 |exc m=>trivial|fail=>trivial
theorem Cc(ay:z.inv Y)(hL:cl L)(hv:eJ z v)(e:x=iv z (NN z R) v):cq z R (QV z R) (.ok v Y L) (.ok x (St z R Y L)):=⟨ay,hL,x,rfl,hv,e⟩
theorem pO(ay:z.inv Y)(hL:cl L)(hv:aH 0 v=true):cq z R (QV z R) (.ok (.a v) Y L) (.ok v (St z R Y L)):=⟨ay,hL,v,rfl,hv,rfl⟩
theorem OT(K:z.Ok)(ay:z.inv Y):(St z R Y L).length=NN z R+L.length:=by
 unfold St NN;(refine .trans (cB ..)<|?_;rw[cB,K.len Y ay,Nat.add_assoc])
theorem B1(K:z.Ok){j:Nat}(ay:z.inv Y):(St z R Y L)[NN z R+j]?=L[j]?:=by
 unfold St NN;rw[<-b9,List.getElem?_append_right (by rw[cB,K.len Y ay];exact Nat.le_add_right _ _),cB,K.len Y ay,Nat.add_sub_cancel_left]
theorem zt(K:z.Ok){j:Nat}(ay:z.inv Y):(St z R Y L).set (NN z R+j) x=St z R Y (L.set j x):=by
 unfold St NN;rw[<-b9,<-b9,List.set_append_right _ _ (by rw[cB,K.len Y ay];exact Nat.le_add_right _ _),cB,K.len Y ay,Nat.add_sub_cancel_left]
theorem JY:St z R Y L++[x]=St z R Y (L++[x]):=by unfold St;simp
theorem bn{N:Nat}:iv z N (.a v)=v:=rfl
theorem bK:eJ z (.a v)↔aH 0 v=true:=Iff.rfl
theorem gF{N:Nat}:iv z N .pz=z.H:=rfl
theorem jV(K:z.Ok)(ay:z.inv Y)(hL:cl L)(hv:eJ z v)(e:cV L v=w)(hw:w≠.ab/\w≠.ib/\w≠.xq/\∀j,w≠.fW j):c7 (St z R Y L) (iv z (NN z R) v)=iv z (NN z R) w/\eJ z w:=by
 cases v with
 |a x=>subst e;show c7 _ _=iv z (NN z R) (.a x)/\eJ z (.a x);rw[bn];exact⟨cn (bK.mp hv),hv⟩|fW j=>
  rw[Ng]at e;refine i5 (L[j]?) (fun x q=>?_) (fun q=>?_)
  ·
   rw[q]at e;have hx:=v8 hL q;have q':=B1 (R:=R) K (Y:=Y) (L:=L) (j:=j) ay;rw[q]at q';have e1:iv z (NN z R) (.fW j) = .ref (NN z R+j):=by exact(LZ ..)
   rw[e1];cases x with
   |list l=>dsimp only at e;subst e;rw[bn];unfold c7;dsimp only;rw[q'];exact⟨rfl,bK.mpr (by refine .trans (bP ..)<|?_;exact hx)⟩
   |dead l=>dsimp only at e;subst e;rw[bn];unfold c7;dsimp only;rw[q'];exact⟨rfl,bK.mpr (by refine .trans (bP ..)<|?_;exact hx)⟩
   |inst at_=>exact aX e.symm (hw.2.2.2 j)|dict es=>exact aX e.symm (hw.2.2.2 j)
  ·rw[q]at e;exact aX e.symm (hw.2.2.2 j)
 |tp l=>subst e;show c7 _ _=iv z (NN z R) (.tp l)/\eJ z (.tp l);rw[JT];exact⟨rfl,hv⟩|pz=>subst e;show c7 _ _=iv z (NN z R) .pz/\eJ z .pz;rw[gF];exact⟨cn K.pz,hv⟩|txt l=>subst e;show c7 _ _=iv z (NN z R) (.txt l)/\eJ z (.txt l);rw[Rr];exact⟨rfl,hv⟩|pos k=>subst e;show c7 _ _=iv z (NN z R) (.pos k)/\eJ z (.pos k);rw[Rs];exact⟨rfl,hv⟩|je=>subst e;show c7 _ _=iv z (NN z R) .je/\eJ z .je;rw[Rt];exact⟨rfl,hv⟩|ab=>exact aX e.symm hw.1|ib=>exact aX e.symm hw.2.1|xq=>exact aX e.symm hw.2.2.1
theorem iW:∀{vs:List V2}{l:List AV},fE vs=some l->vs=l.map .a
 |[],l,h=>by obtain rfl:=bE h;rfl
 |.a v::r,l,h=>by
  rw[xr]at h;refine i5 (fE r) (fun r' e=>?_) (fun e=>?_)
  ·
   rw[e]at h;obtain rfl:=bE h;rw[iW e];rfl
  ·rw[e]at h;exact ak h
 |.tp U::bG,dy,h=>by exact ak h
 |.ab::U,bG,h=>by exact ak h
 |.ib::U,bG,h=>by exact ak h
 |.xq::U,bG,h=>by exact ak h
 |.pz::U,bG,h=>by exact ak h
 |.txt U::bG,dy,h=>by exact ak h
 |.pos U::bG,dy,h=>by exact ak h
 |.je::U,bG,h=>by exact ak h
 |.fW U::bG,dy,h=>by exact ak h
theorem rj(K:z.Ok)(ay:z.inv Y)(hL:cl L):∀{vs:List V2}{l:List AV},(∀v∈vs,eJ z v)->fE (vs.map (cV L))=some l->(vs.map (iv z (NN z R))).map (c7 (St z R Y L))=l/\∀v∈l,aH 0 v=true
 |[],l,U,e=>by obtain rfl:=bE e;exact⟨rfl,(fun v h=>nomatch h)⟩
 |v::vs,l,hv,e=>by
  have e':=iW e;rw[List.map_cons]at e';cases l with
  |nil=>cases e'|cons x l=>
   rw[List.map_cons,List.cons.injEq]at e';obtain⟨q1,q2⟩:=e';obtain⟨d1,d2⟩:=jV (R:=R) K ay hL (hv v d8) q1 ⟨(by intro q;cases q),(by intro q;cases q),(by intro q;cases q),(by intro j q;cases q)⟩
   have e2:fE (vs.map (cV L))=some l:=by
    rw[q2];clear q2 e;induction l with
    |nil=>rfl|cons y l ih=>rw[List.map_cons,xr,ih]
   obtain⟨h1,h2⟩:=rj K ay hL (fun w hw=>hv w (dO _ hw)) e2;rw[List.map_cons,List.map_cons,d1,h1,bn];refine⟨rfl,fun w hw=>?_⟩;rcases b8.mp hw with rfl|hw
   ·exact bK.mp d2
   ·exact h2 w hw
inductive OU(L:aC)(j:Nat):V2->aC->Prop
 |list (l:List AV) (q:L[j]?=some (.list l)):OU L j (.a (.lst l)) (L.set j (.dead l))|dead (l:List AV) (q:L[j]?=some (.dead l)):OU L j (.a (.lst l)) L
theorem SA{j:Nat}(e:BU L (.fW j)=some (w,L')):OU L j w L':=by
 rw[Rg]at e;refine i5 (L[j]?) (fun x q=>?_) (fun q=>?_)
 ·rw[q]at e;cases x with
  |list l=>cases bE e;exact .list _ q|dead l=>cases bE e;exact .dead _ q|_=>exact ak e
 ·rw[q]at e;exact ak e
theorem oH(K:z.Ok)(ay:z.inv Y)(hL:cl L)(hv:eJ z v)(e:BU L v=some (w,L')) :
  fz (St z R Y L) (iv z (NN z R) v) = .ok (iv z (NN z R) w) (St z R Y L')/\cl L'/\eJ z w/\pN w=true:=by
 cases v with
 |a x=>cases bE e;rw[bn];exact⟨cJ (bK.mp hv),hL,hv,rfl⟩|fW j=>
  have q':=B1 (R:=R) K (Y:=Y) (L:=L) (j:=j) ay;have e1:iv z (NN z R) (.fW j) = .ref (NN z R+j):=by exact(LZ ..)
  rw[e1];induction SA e with
  |list l q=>
   have hx:=v8 hL q;rw[q]at q';rw[bn];unfold fz;dsimp only;rw[q'];show aD.ok _ ((St z R Y L).set _ _)=_/\_;rw[zt K ay];exact⟨rfl,Fu hL hx,bK.mpr (by refine .trans (bP ..)<|?_;exact hx),rfl⟩
  |dead l q=>
   have hx:=v8 hL q;rw[q]at q';rw[bn];unfold fz;dsimp only;rw[q'];exact⟨rfl,hL,bK.mpr (by refine .trans (bP ..)<|?_;exact hx),rfl⟩
 |tp l=>cases bE e;rw[JT];exact⟨rfl,hL,hv,hv.2⟩|pz=>cases bE e;rw[gF];exact⟨cJ K.pz,hL,hv,rfl⟩|txt l=>cases bE e;rw[Rr];exact⟨rfl,hL,hv,rfl⟩|pos k=>cases bE e;rw[Rs];exact⟨rfl,hL,hv,rfl⟩|je=>cases bE e;rw[Rt];exact⟨rfl,hL,hv,rfl⟩|ab=>exact ak e|ib=>exact ak e|xq=>exact ak e
theorem v9(K:z.Ok)(ay:z.inv Y):∀{vs ws:List V2}{L L':aC},cl L->(∀v∈vs,eJ z v)->r8 vs L=some (ws,L')->
  s7 (vs.map (iv z (NN z R))) (St z R Y L) = .ok (ws.map (iv z (NN z R))) (St z R Y L')/\cl L'/\(∀v∈ws,eJ z v)/\j7 ws=true
 |[],ws,L,L',hL,hv,e=>by cases bE e;exact⟨rfl,hL,(fun v h=>nomatch h),rfl⟩
 |v::vs,ws,L,L',hL,hv,e=>by
  rw[Nh]at e;cases e1:BU L v with
  |none=>rw[e1]at e;exact ak e|some p=>
  obtain⟨w,L1⟩:=p;rw[e1]at e;dsimp only at e;refine i5 (r8 vs L1) (fun p e2=>?_) (fun e2=>?_)
  ·
   obtain⟨ws',L2⟩:=p;rw[e2]at e
   ·cases bE e;refine fK (oH (R:=R) K ay hL (hv v d8) e1) fun h1 h2 h3 h4=>?_;refine fK (v9 K ay h2 (fun x hx=>hv x (dO _ hx)) e2) fun g1 g2 g3 g4=>?_;rw[List.map_cons,jl,h1];refine⟨?_,g2,fun x hx=>?_,by(refine .trans (zl ..)<|?_;rw[h4,g4]);rfl⟩
    ·show(s7 (vs.map (iv z (NN z R))) (St z R Y L1)).bind _=_;refine .trans (dc (g1 ..))<|?_;rfl
    ·rcases b8.mp hx with rfl|hx
     ·exact h3
     ·exact g3 x hx
  ·rw[e2]at e;exact ak e
set_option tactic.hygienic true in
theorem Ce(hv:∀v∈ws,eJ z v)(ho:j7 ws=true){N:Nat}:iv z N (tl ws) = .tup (ws.map (iv z N))/\eJ z (tl ws):=by
 unfold tl
 split
 ·rename_i l e;have e':=iW e;subst e';rw[bn,bK,bv,ae,List.map_map];refine⟨?_,fun v Qu=>bK.mp (hv _ (List.mem_map_of_mem Qu))⟩;congr 1;clear e hv ho;induction l with
  |nil=>rfl|cons x l ih=>
   rw[List.map_cons,<-ih];show x::l=iv z N (.a x)::l;rw[bn]
 ·rw[JT,qA,Rw,mz];exact⟨rfl,hv,ho⟩
noncomputable def good:V2->Bool
 |.ab=>false|.ib=>false|.xq=>false|.fW U=>false|_=>true
theorem kb(h:good w=true):w≠.ab/\w≠.ib/\w≠.xq/\∀j,w≠.fW j:=by
 cases w<;>first| (cases h;done) |exact⟨(by intro q;cases q),(by intro q;cases q),(by intro q;cases q),(by intro j q;cases q)⟩
theorem bR:aJ=100000:=rfl
theorem jB{N:Nat}:iv z N (.tp l) = .tup (l.map (iv z N)):=by(refine .trans (JT ..)<|?_;rw[qA])
theorem iE{N:Nat}:iv z N (.txt l) = .str (z.T++l):=rfl
theorem gG{N k:Nat}:iv z N (.pos k) = .int ((z.p+k:Nat):Int):=rfl
theorem jW{N:Nat}:iv z N .je = .int (z.T.length:Int):=rfl
theorem zu{N j:Nat}:iv z N (.fW j) = .ref (N+j):=rfl
theorem kH{N:Nat}:iv z N .ab = .ref 1:=rfl
theorem xz{N:Nat}(l:List AV):(l.map V2.a).map (iv z N)=l:=by
 induction l with
 |nil=>rfl|cons x l ih=>rw[List.map_cons,List.map_cons,ih,bn]
theorem Cf(h:JM f b x y=some r):good x=true/\good y=true:=by
 cases x with
 |a x=>induction v3 h with|mk y _=>?_;exact⟨rfl,rfl⟩
 |pos x=>induction v3 h with|mk y _=>?_;exact⟨rfl,rfl⟩
 |txt x=>induction v3 h with|mk y _=>?_;exact⟨rfl,rfl⟩
 |_=>exact ak h
theorem yA(h:oG o x y=some r):good x=true/\good y=true:=Cf h
theorem JZ(K:z.Ok){N:Nat}{l m:List Nat}(h:l.length+m.length<=5000):(z.T++l).length+m.length<=aJ:=by
 have:=K.big;rw[cB,bR];omega
theorem yB(K:z.Ok){N:Nat}{x y r:V2}(pj:∀{x' y' r},x = .a x'->y = .a y'->f x' y'=some r->aH 0 r=true)(hi:b=true->∀x y,f (.int x) (.int y)=some (.int (x+y)))
  (hs:b=true->∀x y,f (.str x) (.str y)=if x.length+y.length<=aJ then some (.str (x++y)) else none) (h:JM f b x y=some r):f (iv z N x) (iv z N y)=some (iv z N r)/\eJ z r:=by
 cases x with
 |a x=>
  induction v3 h with|mk y e=>?_;induction i7 e with|mk r' e'=>?_
  rw[bn,bn,bn];exact⟨e',bK.mpr (pj rfl rfl e')⟩
 |pos k=>
  induction v3 h with|mk y e=>?_;induction gb e with|mk i e1=>?_
  cases b with
  |false=>exact ak e1|true=>
   induction fg e1 with|mk q=>?_;rw[gG,bn,gG,hi rfl]
   refine⟨?_,trivial⟩;congr 2;omega
 |txt l=>
  induction v3 h with|mk y e=>?_;induction yq e with|mk m e1=>?_
  cases b with
  |false=>exact ak e1|true=>
   induction fg e1 with|mk q=>?_;rw[iE,bn,iE,hs rfl]
   exact⟨by(refine .trans (aO (JZ (N:=N) K q) ..)<|?_;rw[b9]),trivial⟩
 |_=>exact ak h
theorem zv(K:z.Ok){N:Nat}(hx:eJ z x)(hy:eJ z y)(h:oG o x y=some r):binop o (iv z N x) (iv z N y)=some (iv z N r)/\eJ z r:=
 yB K (fun h1 h2 e=>by subst h1;subst h2;exact Fv (bK.mp hx) (bK.mp hy) e) (fun q x y=>by cases o<;>first|rfl|exact eK q) (fun q x y=>by cases o<;>first|rfl|exact eK q) h
theorem zw(K:z.Ok){N:Nat}(h:zk o x y=some r):gg o (iv z N x) (iv z N y)=some (iv z N r)/\eJ z r:=
 yB K (fun U U e=>Fy e) (fun q x y=>by cases o<;>first|rfl|exact eK q) (fun q x y=>by cases o<;>first|rfl|exact eK q) h
theorem J0(K:z.Ok)(ay:z.inv Y)(hL:cl L)(hx:eJ z x)(hy:eJ z y)(h:oG o (cV L x) (cV L y)=some r) :
  binop o (c7 (St z R Y L) (iv z (NN z R) x)) (c7 (St z R Y L) (iv z (NN z R) y))=some (iv z (NN z R) r)/\eJ z r:=by
 obtain⟨g1,g2⟩:=yA h;obtain⟨d1,d2⟩:=jV (R:=R) K ay hL hx rfl (kb g1);obtain⟨e1,e2⟩:=jV (R:=R) K ay hL hy rfl (kb g2);rw[d1,e1];exact zv K d2 e2 h
theorem yC(h:eT s o x y=some r):good x=true/\good y=true:=by
 cases x with
 |a x=>induction v3 h with|mk y _=>?_;exact⟨rfl,rfl⟩
 |pos k=>cases y with
  |je=>exact⟨rfl,rfl⟩|pos m=>exact⟨rfl,rfl⟩|_=>exact ak h
 |_=>exact ak h
theorem SB(K:z.Ok)(k:Nat):(!(z.s.drop k).isEmpty)=decide (z.p+k<z.T.length):=by
 rw[<-K.drop.1,List.drop_drop];cases q:(z.T.drop (z.p+k)).isEmpty with
 |true=>
  rw[List.isEmpty_iff,List.drop_eq_nil_iff]at q;refine .trans (Bool.not_true ..)<|?_;symm;rw[decide_eq_false_iff_not];omega
 |false=>
  refine .trans (Bool.not_false ..)<|?_;symm;rw[decide_eq_true_eq]
  refine Nat.lt_of_not_le fun hc=>?_;rw[List.drop_eq_nil_of_le hc]at q;exact PG q
theorem zx(K:z.Ok){N:Nat}(h:eT z.s o x y=some r):dz o (iv z N x) (iv z N y)=some r:=by
 cases x with
 |a x=>
  induction v3 h with|mk y e=>?_;rw[bn,bn];exact e
 |pos k=>cases y with
  |je=>
   cases o with
   |lt=>
    obtain rfl:=bE h;rw[gG,jW,SB K];show some (decide _)=some (decide _);congr 1;rw[decide_eq_decide];omega
   |_=>exact ak h
  |pos m=>
   cases o with
   |gt=>
    obtain rfl:=bE h;rw[gG,gG];show some (decide _)=some (decide _);congr 1;rw[decide_eq_decide];omega
   |_=>exact ak h
  |_=>exact ak h
 |_=>exact ak h
theorem kc(K:z.Ok)(ay:z.inv Y)(hL:cl L)(hx:eJ z x)(hy:eJ z y)(h:eT z.s o (cV L x) (cV L y)=some r) :
  dz o (c7 (St z R Y L) (iv z (NN z R) x)) (c7 (St z R Y L) (iv z (NN z R) y))=some r:=by
 obtain⟨g1,g2⟩:=yC h;rw[(jV (R:=R) K ay hL hx rfl (kb g1)).1,(jV (R:=R) K ay hL hy rfl (kb g2)).1];exact zx K h
theorem tw(hi:∀k,i≠.str k)(hk:∀k,i≠.int k):gm c o i=none:=by
 cases i with
 |str k=>exact aX rfl (hi k)|int k=>exact aX rfl (hk k)|_=>cases o<;>rfl
theorem yD(c:aC)(o:AV)(i:Int):gm c o (.int i)=match c7 c o with
 |.tup l=>if l.length<=aJ then(place l.length i).bind (l[·]?) else none|.lst l=>if l.length<=aJ then(place l.length i).bind (l[·]?) else none|.str s=>if s.length<=aJ then(place s.length i).bind fun k=>(s[k]?).map fun x=>.str [x]else none|_=>none:=by cases o<;>rfl
theorem nA(e:c7 c o=w)(hw:∀j,w≠.ref j)(hi:∀k,i≠.str k):gm c o i=gm [] w i:=by
 have e0:c7 [] w=w:=by cases w<;>first|rfl|exact aX rfl (hw _)
 by_cases hk:∃k,i = .int k
 ·obtain⟨k,rfl⟩:=hk
  (refine .trans (yD ..)<|?_;rw[yD,e,e0])
 ·have Tc:∀k,i≠.int k:=fun k q=>hk ⟨k,q⟩
  (refine .trans (tw hi Tc ..)<|?_;rw[tw hi Tc])
theorem yE(e:c7 c o=w)(hw:∀j,w≠.ref j):kj c o lo hi=kj [] w lo hi:=by
 have e0:c7 [] w=w:=by cases w<;>first|rfl|exact aX rfl (hw _)
 unfold kj;rw[e,e0]
theorem Cg(h:JN s x y=some r):good x=true:=by
 cases x<;>first|rfl|exact ak h
theorem gv{n k:Nat}(h:k<n):place n (k:Int)=some k:=by
 unfold place;refine .trans (aO (by omega) ..)<|.trans (aO (by simpa using h) ..)<|?_
 simp
theorem J1(K:z.Ok)(ay:z.inv Y)(hL:cl L)(hx:eJ z x)(hy:eJ z y)(h:JN z.s (cV L x) y=some r) :
  gm (St z R Y L) (iv z (NN z R) x) (iv z (NN z R) y)=some (iv z (NN z R) r)/\eJ z r:=by
 have g:=Cg h;obtain⟨d1,d2⟩:=jV (R:=R) K ay hL hx rfl (kb g);generalize cV L x=w at h g d1 d2;cases w with
 |a o=>
  induction v3 h with|mk i e0=>?_;induction i7 e0 with|mk r' e=>?_
  clear h e0;rw[bn]at d1;rw[bn,bn];have ho:=bK.mp d2;have hi:∀k,i≠.str k:=by
   rintro k rfl;unfold gm at e;cases o<;>first| (exact ak e;done) |exact aX rfl (fe ho _)
  rw[nA d1 (fe ho) hi];exact⟨e,bK.mpr (JU (c:=[]) ho e).2⟩
 |tp l=>
  induction v3 h with|mk v e0=>?_;induction gb e0 with|mk i e=>?_
  clear h e0;replace e:(if 0<=i/\l.length<=1000 then l[i.toNat]? else none)=some r:=e
  by_cases hc:0<=i/\l.length<=1000
  ·rw[aO hc]at e;rw[jB,<-qA]at d1;rw[bn,nA d1 (by intro j q;cases q) (by intro k q;cases q)]
   have oX:i.toNat<l.length:=(dg.mp e).1;obtain⟨j,rfl⟩:∃j:Nat,i=j:=⟨i.toNat,by omega⟩
   refine⟨?_,?_⟩
   ·show(if(Hi z (NN z R) l).length<=aJ then(place (Hi z (NN z R) l).length (j:Int)).bind ((Hi z (NN z R) l)[·]?) else none)=_;rw[qA,List.length_map,aO (by rw[bR];omega),gv (by simpa using oX),Option.bind_some,List.getElem?_map]
    have h':l[j]?=some r:=by simpa using e
    rw[h'];rfl
   ·exact mz.mp d2.1 r (eN e)
  ·rw[aV hc]at e;exact ak e
 |txt l=>cases l with
  |nil=>
   induction Ax h with|mk k e0=>?_;induction i7 e0 with|mk x' e=>?_
   clear h e0;rw[iE,List.append_nil]at d1;rw[gG,nA d1 (by intro j q;cases q) (by intro k q;cases q),bn]
   refine⟨?_,bK.mpr (a9 _ _)⟩;rw[<-K.drop.1,List.getElem?_drop]at e;have oX:z.p+k<z.T.length:=(dg.mp e).1;show(if z.T.length<=aJ then(place z.T.length ((z.p+k:Nat):Int)).bind (fun k=>(z.T[k]?).map fun x=>AV.str [x]) else none)=_;have:=K.big
   (refine .trans (aO (by rw[bR];omega) ..)<|?_;rw[gv oX,Option.bind_some,e]);rfl
  |cons U bG=>exact ak h
 |_=>exact ak h
theorem Ch(h:JO s x y w=some r):good x=true:=by
 cases x<;>first|rfl|exact ak h
theorem kd(n k:Nat):fC n (k:Int)=min k n:=by
 unfold fC;rw[aV (Int.not_lt.mpr (Int.natCast_nonneg _))];rcases Nat.le_total k n with h|h
 ·rw[Nat.min_eq_left h,Int.min_eq_left (Int.ofNat_le.mpr h),Int.max_eq_right (Int.natCast_nonneg _)];rfl
 ·rw[Nat.min_eq_right h,Int.min_eq_right (Int.ofNat_le.mpr h),Int.max_eq_right (Int.natCast_nonneg _)];rfl
theorem J2{l:List Nat}{a b:Nat}:cut l (some (a:Int)) (some (b:Int))=(l.drop a).take (b-a):=by
 unfold cut;show(l.drop (fC l.length (a:Int))).take (fC l.length (b:Int)-fC l.length (a:Int))=_;rw[kd,kd];rcases Nat.le_total a l.length with p|p
 ·rw[Nat.min_eq_left p];rcases Nat.le_total b l.length with q|q
  ·rw[Nat.min_eq_left q]
  ·rw[Nat.min_eq_right q,List.take_of_length_le (Nat.le_of_eq List.length_drop),List.take_of_length_le (by rw[List.length_drop];exact Nat.sub_le_sub_right q a)]
 ·rw[Nat.min_eq_right p,List.drop_of_length_le p,List.drop_of_length_le (b5 _),List.take_nil,List.take_nil]
theorem J3(K:z.Ok)(ay:z.inv Y)(hL:cl L)(hx:eJ z x)(hy:eJ z y)(hw:eJ z w)(h:JO z.s (cV L x) y w=some r) :
  kj (St z R Y L) (iv z (NN z R) x) (iv z (NN z R) y) (iv z (NN z R) w)=some (iv z (NN z R) r)/\eJ z r:=by
 have g:=Ch h;obtain⟨d1,d2⟩:=jV (R:=R) K ay hL hx rfl (kb g);generalize cV L x=v at h g d1 d2;cases v with
 |a o=>
  induction v3 h with|mk lo e0=>?_;induction v3 e0 with|mk hi e1=>?_
  induction i7 e1 with|mk r' e=>?_;clear h e0 e1
  rw[bn]at d1;rw[bn,bn,bn];have ho:=bK.mp d2;rw[yE d1 (fe ho)];exact⟨e,bK.mpr (JV (c:=[]) ho e).2⟩
 |txt l=>cases l with
  |nil=>
   induction Ax h with|mk k e0=>?_;induction Ax e0 with|mk m e=>?_
   obtain rfl:=bE e;rw[iE,List.append_nil]at d1;rw[gG,gG,yE d1 (by intro j q;cases q),bn]
   refine⟨?_,bK.mpr (a9 _ _)⟩;show(if z.T.length<=aJ then some (AV.str (cut z.T (some ((z.p+k:Nat):Int)) (some ((z.p+m:Nat):Int)))) else none)=_;have:=K.big
   (refine .trans (aO (by rw[bR];omega) ..)<|?_;rw[J2,<-K.drop.1,List.drop_drop,Nat.add_sub_add_left])
  |cons U bG=>exact ak h
 |_=>exact ak h
theorem OV(K:z.Ok)(ay:z.inv Y)(hL:cl L)(hv:∀v∈vs,eJ z v)(h:Ta L b vs=some r) :
  builtin (St z R Y L) b (vs.map (iv z (NN z R)))=some (iv z (NN z R) r)/\eJ z r:=by
 unfold Ta at h;refine i5 (fE (vs.map (cV L))) (fun l e=>?_) (fun e=>?_)
 ·
  rw[e]at h;obtain⟨d1,d2⟩:=rj (R:=R) K ay hL hv e;dsimp only at h;cases e':builtin [] b l with
  |none=>rw[e']at h;exact ak h|some r'=>
   rw[e']at h;obtain rfl:=bE h;rw[<-d1]at e' d2;obtain⟨q1,q2⟩:=xy e' fun v hv=>fe (d2 v hv);rw[bn];exact⟨q1,bK.mpr q2⟩
 ·
  rw[e]at h;dsimp only at h
  split at h
  ·obtain rfl:=bE h;rw[List.map_cons,List.map_nil,iE,List.append_nil,jW];refine⟨?_,trivial⟩;show(if z.T.length<=aJ then some (AV.int z.T.length) else none)=_;have:=K.big;exact(aO (by rw[bR];omega) ..)
  ·exact ak h
theorem GB(K:z.Ok)(ay:z.inv Y)(hL:cl L)(hv:∀v∈vs,eJ z v)(h:xu L m o vs=some r) :
  method (St z R Y L) m (.str o) (vs.map (iv z (NN z R)))=some (iv z (NN z R) r)/\eJ z r:=by
 unfold xu at h;refine i5 (fE (vs.map (cV L))) (fun l e=>?_) (fun e=>?_)
 ·
  rw[e]at h;obtain⟨d1,d2⟩:=rj (R:=R) K ay hL hv e;dsimp only at h;cases e':method [] m (.str o) l with
  |none=>rw[e']at h;exact ak h|some r'=>
   rw[e']at h;obtain rfl:=bE h;rw[<-d1]at e' d2;obtain⟨q1,q2⟩:=zs e' fun v hv=>fe (d2 v hv);rw[bn];exact⟨q1,bK.mpr q2⟩
 ·rw[e]at h;exact ak h
theorem kI{N:Nat}(hv:eJ z v)(h:jQ v=some b):truthy c (iv z N v)=some b:=by
 cases v<;>first| (exact ak h;done) |skip
 rw[bn,C8 (bK.mp hv)];exact h
set_option tactic.hygienic true in
theorem zy{N:Nat}(hv:eJ z v)(h:hZ v=some l):am c (iv z N v)=some (l.map (iv z N))/\∀x∈l,eJ z x:=by
 unfold hZ at h
 split at h
 ·obtain rfl:=bE h;rename_i l;rw[bn,xz];refine⟨rfl,fun x hx=>?_⟩;induction wY hx with|mk y hy=>?_
  have:=bK.mp hv;rw[bP,ae]at this;exact bK.mpr (this y hy)
 ·obtain rfl:=bE h;rename_i l;rw[bn,xz];refine⟨rfl,fun x hx=>?_⟩;induction wY hx with|mk y hy=>?_
  have:=bK.mp hv;rw[bv,ae]at this;exact bK.mpr (this y hy)
 ·exact ak h
theorem nB{x:Nat}(h:lK z J)(hv:eJ z v):lK z (J.set x (some v)):=by
 intro w hw;rcases List.mem_or_eq_of_mem_set hw with q|q
 ·exact h w q
 ·obtain rfl:=bE q;exact hv
theorem nC{x:Nat}:lo1 z R (J.set x (some v))=(lo1 z R J).set x (some (iv z (NN z R) v)):=by
 unfold lo1;refine .trans (List.map_set ..)<|?_;rfl
theorem l8:∀{xs:List Nat}{vs:List V2}{J:bS},lK z J->(∀v∈vs,eJ z v)->xs.length=vs.length->
  lo1 z R (jR J xs vs)=(xs.zip (vs.map (iv z (NN z R)))).foldl (fun J p=>J.set p.1 (some p.2)) (lo1 z R J)/\lK z (jR J xs vs)
 |[],[],J,h,U,bG=>⟨rfl,h⟩|x::xs,v::vs,J,h,hv,e=>by
  obtain⟨q1,q2⟩:=l8 (xs:=xs) (vs:=vs) (J:=J.set x (some v)) (nB h (hv v d8)) (fun w hw=>hv w (dO _ hw)) (by simpa using e)
  rw[F1,q1,List.map_cons,List.zip_cons_cons,List.foldl_cons,nC];exact⟨rfl,q2⟩
 |[],U::bG,dy,lP,wO,e=>by cases e
 |U::bG,[],dy,lP,wO,e=>by cases e
inductive vc(J:bS):lM->V2->bS->Prop
 |one (x:Nat) (v:V2):vc J (.one x) v (J.set x (some v))|SD (xs:List Nat) (l:List AV) (h:xs.length=l.length):vc J (.tup xs) (.a (.tup l)) (jR J xs (l.map .a))|tup (xs:List Nat) (l:List V2) (h:xs.length=l.length):vc J (.tup xs) (.tp l) (jR J xs l)
theorem J4(e:kF J t v=some aE):vc J t v aE:=by
 cases t with
 |one x=>obtain rfl:=bE e;exact .one _ _
 |tup xs=>cases v with
  |tp l=>induction fg e with|mk h=>?_;exact .tup _ _ h
  |a w=>cases w with
   |tup l=>induction fg e with|mk h=>?_;exact .SD _ _ h
   |_=>exact ak e
  |_=>exact ak e
theorem l9(h:lK z J)(hv:eJ z v)(e:kF J t v=some aE):br (lo1 z R J) t (iv z (NN z R) v)=some (lo1 z R aE)/\lK z aE:=by
 induction J4 e with
 |one x v=>
  rw[Hs,nC];exact⟨rfl,nB h hv⟩
 |SD xs l hl=>
  ·skip
   have Qu:∀w∈l.map V2.a,eJ z w:=fun w hw=>by
    induction wY hw with|mk y hy=>?_;have:=bK.mp hv
    rw[bv,ae]at this;exact bK.mpr (this y hy)
   obtain⟨q1,q2⟩:=l8 (R:=R) (xs:=xs) h Qu (by simpa using hl)
   rw[xz]at q1;rw[bn];unfold br;dsimp only;rw[aO hl,q1];exact⟨rfl,q2⟩
 |tup xs l hl=>
  ·obtain⟨q1,q2⟩:=l8 (R:=R) (xs:=xs) h (mz.mp hv.1) hl;rw[jB];unfold br;dsimp only;rw[aO (by rw[List.length_map];exact hl),q1]
   exact⟨rfl,q2⟩
end
section
variable{z:Cz}{R:aC}{oJ:W2}{W1:dP}
theorem nE{c:AV->Prop}{o2:Option V2}{o1:Option AV}{Y:S2}{L:aC}(ay:z.inv Y)(hL:cl L)(h:∀r,o2=some r->o1=some (iv z (NN z R) r)/\eJ z r):cq z R (QV z R) (dG Y L o2) (bp (St z R Y L) o1):=by
 cases o2 with
 |none=>trivial|some r=>
  obtain⟨h1,h2⟩:=h r rfl;rw[h1];exact Cc ay hL h2 rfl
theorem nF{o2 o1:Option Bool}{Y:S2}{L:aC}(ay:z.inv Y)(hL:cl L)(h:∀r,o2=some r->o1=some r):cq z R (fun b b'=>b'=b) (dG Y L o2) (bp (St z R Y L) o1):=by
 cases o2 with
 |none=>trivial|some r=>
  rw[h r rfl];exact⟨ay,hL,r,rfl,rfl⟩
theorem ah{α Z γ:Type}{Q:Z->γ->Prop}{o:Option α}{f:α->O2 Z}{y:aD γ}(h:∀a,o=some a->cq z R Q (f a) y):cq z R Q (aM o f) y:=by
 cases o with
 |none=>trivial|some a=>exact h a rfl
theorem kJ{W:W2}{J:bS}{e:Ex}(Y:S2)(L:aC)(h:bQ W J e Y L = .fail){Z:Type}{Q:V2->Z->Prop}{y:aD Z}:cq z R Q (bQ W J e Y L) y:=by refine bV (h ..)<|?_;trivial
theorem tz{f2:V2->S2->aC->O2 (List AV)}{f1:AV->aC->aD (List AV)}(h:∀v Y L,eJ z v->z.inv Y->cl L->cq z R QL (f2 v Y L) (f1 (iv z (NN z R) v) (St z R Y L))) :
  ∀(vs:List V2)(Y:S2)(L:aC),(∀v∈vs,eJ z v)->z.inv Y->cl L->cq z R QL (mw f2 vs Y L) (fq f1 (vs.map (iv z (NN z R))) (St z R Y L))
 |[],Y,L,U,ay,hL=>⟨ay,hL,[],rfl,rfl,fun v hv=>nomatch hv⟩
 |v::vs,Y,L,hv,ay,hL=>by
  (refine bV (BV ..)<|?_;rw[List.map_cons,u0])
  refine(h v Y L (hv v d8) ay hL).bind fun a a' dT L1 h1 h2 ⟨q,qc⟩=>?_;subst q;refine(tz h vs dT L1 (fun w hw=>hv w (dO _ hw)) h1 h2).bind fun r r' sY L2 h3 h4 ⟨q',Zq⟩=>?_;subst q';refine⟨h3,h4,_,rfl,rfl,fun w hw=>?_⟩;rcases List.mem_append.mp hw with q|q
  ·exact qc w q
  ·exact Zq w q
theorem J5{N n:Nat}:((List.range n).map fun k=>V2.a (.int (Int.ofNat k))).map (iv z N)=(List.range n).map fun k=>AV.int (Int.ofNat k):=by
 refine .trans (List.map_map ..)<|?_
 refine List.map_congr_left fun k U=>?_;exact bn
theorem B2{J:bS}{x:Nat}{v:V2}(e:J[x]?=some (some v)):(lo1 z R J)[x]?=some (some (iv z (NN z R) v)):=by
 unfold lo1;(refine .trans (List.getElem?_map ..)<|?_;rw[e]);rfl
theorem B3{J:bS}{x:Nat}{v:V2}(h:lK z J)(e:J[x]?=some (some v)):eJ z v:=h v (eN e)
theorem GD{J:bS}{gM:List Nat}{n:Nat}:lo1 z R (gM.map (fun x=>J[x]?.join)++List.replicate n none)=gM.map (fun x=>(lo1 z R J)[x]?.join)++List.replicate n none:=by
 unfold lo1
 (refine .trans (List.map_append ..)<|?_;rw[List.map_map,List.map_replicate])
 congr 1;refine List.map_congr_left fun x U=>?_;simp only[Function.comp,List.getElem?_map];cases J[x]? with
 |none=>rfl|some o=>cases o<;>rfl
theorem GE{J:bS}{gM:List Nat}{n:Nat}(h:lK z J):lK z (gM.map (fun x=>J[x]?.join)++List.replicate n none):=by
 intro v hv;rcases List.mem_append.mp hv with q|q
 ·refine au (List.mem_map.mp q) fun x U e=>?_;refine i5 (J[x]?) (fun o e'=>?_) (fun e'=>?_)
  ·
   rw[e']at e;cases o with
   |none=>exact ak e|some w=>obtain rfl:=bE e;exact B3 h e'
  ·rw[e']at e;exact ak e
 ·rw[List.mem_replicate]at q;cases q.2
mutual
theorem zz{N N':Nat}:∀{v:V2},pN v=true->iv z N v=iv z N' v
 |.a U,bG=>by(refine .trans (bn ..)<|?_;rw[bn])
 |.tp l,h=>by
  (refine .trans (jB ..)<|?_;rw[jB,ve (l:=l) h])
 |.pz,U=>by(refine .trans (gF ..)<|?_;rw[gF])
 |.txt U,bG=>by(refine .trans (iE ..)<|?_;rw[iE])
 |.pos U,bG=>by(refine .trans (gG ..)<|?_;rw[gG])
 |.je,U=>by(refine .trans (jW ..)<|?_;rw[jW])
 |.ab,h=>eK h|.ib,h=>eK h|.xq,h=>eK h|.fW U,h=>eK h
theorem ve{N N':Nat}:∀{l:List V2},j7 l=true->l.map (iv z N)=l.map (iv z N')
 |[],U=>rfl|v::l,h=>by
  rw[zl,be]at h
  (refine .trans (List.map_cons ..)<|?_;rw[List.map_cons,zz h.1,ve h.2])
end
theorem SE{N N':Nat}{v:V2}(h:tD v=true):iv z N v=iv z N' v:=by
 cases v with
 |fW j=>exact eK h|ab=>(refine .trans (kH ..)<|?_;rw[kH])|ib=>rfl|xq=>rfl|a U=>(refine .trans (bn ..)<|?_;rw[bn])|tp l=>(refine .trans (jB ..)<|?_;rw[jB,ve (l:=l) h])|pz=>(refine .trans (gF ..)<|?_;rw[gF])|txt U=>(refine .trans (iE ..)<|?_;rw[iE])|pos U=>(refine .trans (gG ..)<|?_;rw[gG])|je=>(refine .trans (jW ..)<|?_;rw[jW])
theorem GF{N N':Nat}{l:List V2}(h:l.all tD=true):l.map (iv z N)=l.map (iv z N'):=
 List.map_congr_left fun v hv=>SE (List.all_eq_true.mp h v hv)
theorem GH(hR:cl R)(aG:WR z oJ W1){f:Nat}{vs:List V2}{dT:S2}{L1:aC}(h1:z.inv dT)(h2:cl L1)(q1:∀v∈vs,eJ z v)(PP:vs.all tD=true) :
  cq z R (QV z R) (F5 L1 (oJ.call f vs dT)) (W1.call f (vs.map (iv z (NN z R))) (St z R dT L1)):=by
 have e1:St z R dT L1=z.jf dT++(R++L1):=rfl;have hc:=aG.call f vs dT (R++L1) h1 (dY.mpr ⟨hR,h2⟩) q1 PP;rw[GF (N':=NN z R) PP,<-e1]at hc;cases e:oJ.call f vs dT with
 |ok v sY L2=>
  rw[e]at hc;refine fK hc fun p1 p2 p3 p4=>?_
  (refine cF (p4 ..)<|?_;rw[zz (N':=NN z R) p2])
  exact Cc p1 h2 p3 rfl
 |exc m=>
  rw[e]at hc;refine d9 hc fun c p1 p2 p3=>?_;refine cF (p1 ..)<|?_
  exact⟨c,rfl,p2,by rw[p3];unfold NN;rw[cB];omega⟩
 |fail=>trivial
mutual
theorem dM(K:z.Ok)(hR:cl R)(aG:WR z oJ W1):∀(e:Ex)(J:bS)(Y:S2)(L:aC),lK z J->z.inv Y->cl L->cq z R (QV z R) (bQ oJ J e Y L) (ev W1 (lo1 z R J) e (St z R Y L))
 |.none,J,Y,L,bB,ay,hL=>by refine bV (LQ ..)<|cF (s8 ..)<|?_;exact pO ay hL (bm _)
 |.bool b,J,Y,L,bB,ay,hL=>by refine bV (LR ..)<|cF (Hu ..)<|?_;exact pO ay hL (cj _ _)
 |.int i,J,Y,L,bB,ay,hL=>by refine bV (Ri ..)<|cF (mB ..)<|?_;exact pO ay hL (aa _ _)
 |.str s,J,Y,L,bB,ay,hL=>by refine bV (tu ..)<|cF (w5 ..)<|?_;exact pO ay hL (a9 _ _)
 |.loc x,J,Y,L,bB,ay,hL=>by
  refine bV (eI ..)<|?_
  refine ah fun v e=>?_
  (refine cF (cM ..)<|?_;rw[B2 (v4 e)])
  exact Cc ay hL (B3 bB (v4 e)) rfl
 |.gl g,J,Y,L,bB,ay,hL=>by(refine bV (Rj ..)<|cF (Di ..)<|?_;rw[aG.g1,aG.g2]);exact pO ay hL (K.Zp g)
 |.bin o a b,J,Y,L,bB,ay,hL=>by
  refine bV (LS ..)<|cF (n9 ..)<|?_
  refine(dM K hR aG a J Y L bB ay hL).bind fun x x' dT L1 h1 h2 ⟨q1,q2⟩=>?_;refine(dM K hR aG b J dT L1 bB h1 h2).bind fun y y' sY L2 h3 h4 ⟨q3,q4⟩=>?_;subst q2 q4;exact nE (c:=fun U=>True) h3 h4 fun r e=>J0 K h3 h4 q1 q3 e
 |.neg a,J,Y,L,bB,ay,hL=>by
  refine bV (Rk ..)<|cF (MN ..)<|?_
  refine(dM K hR aG a J Y L bB ay hL).bind fun x x' dT L1 h1 h2 ⟨q1,q2⟩=>?_;subst q2;refine ah fun i e=>?_;rw[my e,bn];exact pO h1 h2 (aa _ _)
 |.and_ a b,J,Y,L,bB,ay,hL=>by
  refine bV (Nt ..)<|cF (Dj ..)<|?_
  refine(dM K hR aG a J Y L bB ay hL).bind fun x x' dT L1 h1 h2 ⟨q1,q2⟩=>?_;subst q2;refine ah fun t e=>?_;rw[kI q1 e];cases t with
  |true=>exact dM K hR aG b J dT L1 bB h1 h2|false=>exact Cc h1 h2 q1 rfl
 |.or_ a b,J,Y,L,bB,ay,hL=>by
  refine bV (Nu ..)<|cF (Af ..)<|?_
  refine(dM K hR aG a J Y L bB ay hL).bind fun x x' dT L1 h1 h2 ⟨q1,q2⟩=>?_;subst q2;refine ah fun t e=>?_;rw[kI q1 e];cases t with
  |true=>exact Cc h1 h2 q1 rfl|false=>exact dM K hR aG b J dT L1 bB h1 h2
 |.ite t a b,J,Y,L,bB,ay,hL=>by
  refine bV (Nv ..)<|cF (w6 ..)<|?_
  refine(Ci K hR aG t J Y L bB ay hL).bind fun x x' dT L1 h1 h2 q=>?_;subst q;cases x' with
  |true=>exact dM K hR aG a J dT L1 bB h1 h2|false=>exact dM K hR aG b J dT L1 bB h1 h2
 |.cmp o a b,J,Y,L,bB,ay,hL=>by
  refine bV (Nw ..)<|cF (w7 ..)<|?_
  refine(dM K hR aG a J Y L bB ay hL).bind fun x x' dT L1 h1 h2 ⟨q1,q2⟩=>?_;refine(dM K hR aG b J dT L1 bB h1 h2).bind fun y y' sY L2 h3 h4 ⟨q3,q4⟩=>?_;subst q2 q4;rw[aG.s];refine ah fun r e=>?_;rw[kc K h3 h4 q1 q3 e];exact pO h3 h4 (cj _ _)
 |.ki eQ fA a b d,J,Y,L,bB,ay,hL=>by
  refine bV (Nx ..)<|cF (K8 ..)<|?_
  refine(dM K hR aG a J Y L bB ay hL).bind fun x x' dT L1 h1 h2 ⟨q1,q2⟩=>?_;refine(dM K hR aG b J dT L1 bB h1 h2).bind fun y y' sY L2 h3 h4 ⟨q3,q4⟩=>?_;subst q2 q4;rw[aG.s];refine ah fun t e=>?_;rw[kc K h3 h4 q1 q3 e];cases t with
  |true=>
   refine(dM K hR aG d J sY L2 bB h3 h4).bind fun w w' SG L3 h5 h6 ⟨q5,q6⟩=>?_;subst q6;refine ah fun r e=>?_;rw[kc K h5 h6 q3 q5 e];exact pO h5 h6 (cj _ _)
  |false=>exact pO h3 h4 (cj _ _)
 |.inD a g,J,Y,L,bB,ay,hL=>kJ Y L (by exact(Ny ..))
 |.call f args,J,Y,L,bB,ay,hL=>by
  refine bV (l4 ..)<|cF (fL ..)<|?_
  refine(rk K hR aG args J Y L bB ay hL).bind fun vs CT dT L1 h1 h2 ⟨q1,q2⟩=>?_;subst q2;cases PP:vs.all tD with
  |true=>exact GH hR aG h1 h2 q1 PP|false=>trivial
 |.mk args,J,Y,L,bB,ay,hL=>kJ Y L (by exact(Nz ..))
 |.bi b args,J,Y,L,bB,ay,hL=>by
  refine bV (OA ..)<|cF (kn ..)<|?_
  refine(rk K hR aG args J Y L bB ay hL).bind fun vs CT dT L1 h1 h2 ⟨q1,q2⟩=>?_;subst q2;exact nE (c:=fun U=>True) h1 h2 fun r e=>OV K h1 h2 q1 e
 |.iK m o args,J,Y,L,bB,ay,hL=>by
  refine bV (F9 ..)<|cF (K9 ..)<|?_
  refine(dM K hR aG o J Y L bB ay hL).bind fun x x' dT L1 h1 h2 ⟨q1,q2⟩=>?_;subst q2;refine ah fun s e=>?_;rw[rc e,bn];refine(rk K hR aG args J dT L1 bB h1 h2).bind fun vs CT sY L2 h3 h4 ⟨q3,q4⟩=>?_;subst q4;exact nE (c:=fun U=>True) h3 h4 fun r e=>GB K h3 h4 q3 e
 |.attr o n,J,Y,L,bB,ay,hL=>by
  refine bV (OB ..)<|cF (tL ..)<|?_
  refine(dM K hR aG o J Y L bB ay hL).bind fun x x' dT L1 h1 h2 ⟨q1,q2⟩=>?_;subst q2;refine ah fun U e=>?_;rw[rf e]at q1⊢
  by_cases hn:n=[110,101,115,116]
  ·(refine bV (aO hn ..)<|?_;rw[hn,kH])
   unfold St;rw[K.nest q1 dT (R++L1) h1];exact pO h1 h2 (aa _ _)
  ·refine bV (aV hn ..)<|?_;trivial
 |.sub o i,J,Y,L,bB,ay,hL=>by
  refine bV (OC ..)<|cF (j2 ..)<|?_
  refine(dM K hR aG o J Y L bB ay hL).bind fun x x' dT L1 h1 h2 ⟨q1,q2⟩=>?_;refine(dM K hR aG i J dT L1 bB h1 h2).bind fun y y' sY L2 h3 h4 ⟨q3,q4⟩=>?_;subst q2 q4;rw[aG.s];exact nE (c:=fun U=>True) h3 h4 fun r e=>J1 K h3 h4 q1 q3 e
 |.jH o lo hi,J,Y,L,bB,ay,hL=>by
  refine bV (OD ..)<|cF (w8 ..)<|?_
  refine(dM K hR aG o J Y L bB ay hL).bind fun x x' dT L1 h1 h2 ⟨q1,q2⟩=>?_;refine(dM K hR aG lo J dT L1 bB h1 h2).bind fun y y' sY L2 h3 h4 ⟨q3,q4⟩=>?_;refine(dM K hR aG hi J sY L2 bB h3 h4).bind fun w w' SG L3 h5 h6 ⟨q5,q6⟩=>?_;subst q2 q4 q6;rw[aG.s];exact nE (c:=fun U=>True) h5 h6 fun r e=>J3 K h5 h6 q1 q3 q5 e
 |.tup l,J,Y,L,bB,ay,hL=>by
  refine bV (Fa ..)<|cF (w9 ..)<|?_
  refine(rk K hR aG l J Y L bB ay hL).bind fun vs CT dT L1 h1 h2 ⟨q1,q2⟩=>?_;subst q2;refine ah fun p e=>?_;refine fK (v9 (R:=R) K h1 h2 q1 e) fun p1 p2 p3 p4=>?_;rw[p1];obtain⟨m1,m2⟩:=Ce (N:=NN z R) p3 p4;exact Cc h1 p2 m2 m1.symm
 |.lst l,J,Y,L,bB,ay,hL=>by
  refine bV (Fc ..)<|cF (mC ..)<|?_
  refine(rk K hR aG l J Y L bB ay hL).bind fun vs CT dT L1 h1 h2 ⟨q1,q2⟩=>?_;subst q2;refine ah fun p e=>ah fun l' e'=>?_;refine fK (v9 (R:=R) K h1 h2 q1 e) fun p1 p2 p3 p4=>?_;rw[p1];rw[iW e']at p3⊢;rw[xz];exact pO h1 p2 (by(refine .trans (bP ..)<|?_;rw[ae]);exact fun v hv=>bK.mp (p3 _ (List.mem_map_of_mem hv)))
 |.dict U bG,J,Y,L,bB,ay,hL=>kJ Y L (by exact(OE ..))
 |.comp gM n t src cond elt,J,Y,L,bB,ay,hL=>by
  refine bV (Fd ..)<|cF (Dl ..)<|?_
  refine(SH K hR aG src J Y L bB ay hL).bind fun l l' dT L1 h1 h2 ⟨q1,q2⟩=>?_;subst q2;refine(tz (fun v Y L hv ay hL=>?_) l dT L1 q1 h1 h2).calm.bind fun r r' sY L2 h3 h4 ⟨q3,q4⟩=>?_
  ·refine ah fun aE e=>?_;obtain⟨b1,b2⟩:=l9 (R:=R) (GE bB) hv e;rw[GD]at b1;rw[b1];refine(AA K hR aG cond aE Y L b2 ay hL).bind fun b b' sY L2 h3 h4 q=>?_;subst q;cases b' with
   |true=>
    refine(dM K hR aG elt aE sY L2 b2 h3 h4).bind fun x x' SG L3 h5 h6 ⟨q5,q6⟩=>?_;subst q6;refine ah fun p e'=>?_;refine fK (oH (R:=R) K h5 h6 q5 (zm e')) fun p1 p2 p3 p4=>?_;rw[p1,bn];exact⟨h5,p2,_,rfl,rfl,fun v hv=>by rw[List.mem_singleton.mp hv];exact bK.mp p3⟩
   |false=>exact⟨h3,h4,_,rfl,rfl,fun v hv=>nomatch hv⟩
  ·subst q3
   by_cases hlen:r'.length<=1000
   ·refine bV (aO hlen ..)<|cF (aO (by rw[bR];omega) ..)<|?_
    exact pO h3 h4 (by(refine .trans (bP ..)<|?_;rw[ae]);exact q4)
   ·refine bV (aV hlen ..)<|?_;trivial
 |.jk U bG dy lP wO He,J,Y,L,bB,ay,hL=>kJ Y L (by exact(OF ..))
 |.not_ U,J,Y,L,bB,ay,hL=>kJ Y L (by exact(Rm ..))
theorem rk(K:z.Ok)(hR:cl R)(aG:WR z oJ W1):∀(es:List Ex)(J:bS)(Y:S2)(L:aC),lK z J->z.inv Y->cl L->cq z R (XY z R) (eH oJ J es Y L) (eV W1 (lo1 z R J) es (St z R Y L))
 |[],J,Y,L,bB,ay,hL=>by refine bV (F8 ..)<|cF (cI ..)<|?_;exact⟨ay,hL,_,rfl,fun v hv=>(nomatch hv),rfl⟩
 |e::es,J,Y,L,bB,ay,hL=>by
  refine bV (rh ..)<|cF (bY ..)<|?_
  refine(dM K hR aG e J Y L bB ay hL).bind fun x x' dT L1 h1 h2 ⟨q1,q2⟩=>?_;refine(rk K hR aG es J dT L1 bB h1 h2).bind fun vs CT sY L2 h3 h4 ⟨q3,q4⟩=>?_;subst q2 q4;refine⟨h3,h4,_,rfl,fun v hv=>?_,rfl⟩;rcases b8.mp hv with rfl|hv
  ·exact q1
  ·exact q3 v hv
theorem Ci(K:z.Ok)(hR:cl R)(aG:WR z oJ W1):∀(t:Cd)(J:bS)(Y:S2)(L:aC),lK z J->z.inv Y->cl L->cq z R (fun b b'=>b'=b) (bu oJ J t Y L) (eS W1 (lo1 z R J) t (St z R Y L))
 |.not_ t,J,Y,L,bB,ay,hL=>by
  refine bV (Nn ..)<|cF (K5 ..)<|?_
  refine(Ci K hR aG t J Y L bB ay hL).bind fun b b' dT L1 h1 h2 q=>?_;subst q;exact⟨h1,h2,_,rfl,rfl⟩
 |.and_ l,J,Y,L,bB,ay,hL=>by refine bV (No ..)<|cF (Ad ..)<|?_;exact AA K hR aG l J Y L bB ay hL
 |.or_ l,J,Y,L,bB,ay,hL=>by refine bV (Np ..)<|cF (Ae ..)<|?_;exact GI K hR aG l J Y L bB ay hL
 |.cmp o a b,J,Y,L,bB,ay,hL=>by
  refine bV (F7 ..)<|cF (fS ..)<|?_
  refine(dM K hR aG a J Y L bB ay hL).bind fun x x' dT L1 h1 h2 ⟨q1,q2⟩=>?_;refine(dM K hR aG b J dT L1 bB h1 h2).bind fun y y' sY L2 h3 h4 ⟨q3,q4⟩=>?_;subst q2 q4;rw[aG.s];exact nF h3 h4 fun r e=>kc K h3 h4 q1 q3 e
 |.ki eQ fA a b d,J,Y,L,bB,ay,hL=>by
  refine bV (Nq ..)<|cF (K6 ..)<|?_
  refine(dM K hR aG a J Y L bB ay hL).bind fun x x' dT L1 h1 h2 ⟨q1,q2⟩=>?_;refine(dM K hR aG b J dT L1 bB h1 h2).bind fun y y' sY L2 h3 h4 ⟨q3,q4⟩=>?_;subst q2 q4;rw[aG.s];refine ah fun t e=>?_;rw[kc K h3 h4 q1 q3 e];cases t with
  |true=>
   refine(dM K hR aG d J sY L2 bB h3 h4).bind fun w w' SG L3 h5 h6 ⟨q5,q6⟩=>?_;subst q6;exact nF h5 h6 fun r e=>kc K h5 h6 q3 q5 e
  |false=>exact⟨h3,h4,_,rfl,rfl⟩
 |.inD a g,J,Y,L,bB,ay,hL=>by
  refine bV (Nr ..)<|cF (K7 ..)<|?_
  refine(dM K hR aG a J Y L bB ay hL).bind fun x x' dT L1 h1 h2 ⟨q1,q2⟩=>?_;subst q2;rw[aG.g1,aG.g2];refine ah fun s e=>ah fun l e'=>?_;rw[rc e,bn,F4 e'];exact nF h1 h2 fun r e=>e
 |.val e,J,Y,L,bB,ay,hL=>by
  refine bV (zn ..)<|cF (tK ..)<|?_
  refine(dM K hR aG e J Y L bB ay hL).bind fun x x' dT L1 h1 h2 ⟨q1,q2⟩=>?_;subst q2;exact nF h1 h2 fun r e=>kI q1 e
theorem AA(K:z.Ok)(hR:cl R)(aG:WR z oJ W1):∀(l:List Cd)(J:bS)(Y:S2)(L:aC),lK z J->z.inv Y->cl L->cq z R (fun b b'=>b'=b) (lJ oJ J l Y L) (hV W1 (lo1 z R J) l (St z R Y L))
 |[],J,Y,L,bB,ay,hL=>by refine bV (BX ..)<|cF (qO ..)<|?_;exact⟨ay,hL,_,rfl,rfl⟩
 |t::l,J,Y,L,bB,ay,hL=>by
  refine bV (JS ..)<|cF (n8 ..)<|?_
  refine(Ci K hR aG t J Y L bB ay hL).bind fun b b' dT L1 h1 h2 q=>?_;subst q;cases b' with
  |true=>exact AA K hR aG l J dT L1 bB h1 h2|false=>exact⟨h1,h2,_,rfl,rfl⟩
theorem GI(K:z.Ok)(hR:cl R)(aG:WR z oJ W1):∀(l:List Cd)(J:bS)(Y:S2)(L:aC),lK z J->z.inv Y->cl L->cq z R (fun b b'=>b'=b) (rg oJ J l Y L) (anyC W1 (lo1 z R J) l (St z R Y L))
 |[],J,Y,L,bB,ay,hL=>by refine bV (JQ ..)<|cF (u4 ..)<|?_;exact⟨ay,hL,_,rfl,rfl⟩
 |t::l,J,Y,L,bB,ay,hL=>by
  refine bV (JR ..)<|cF (n7 ..)<|?_
  refine(Ci K hR aG t J Y L bB ay hL).bind fun b b' dT L1 h1 h2 q=>?_;subst q;cases b' with
  |true=>exact⟨h1,h2,_,rfl,rfl⟩|false=>exact GI K hR aG l J dT L1 bB h1 h2
theorem SH(K:z.Ok)(hR:cl R)(aG:WR z oJ W1):∀(s:Src)(J:bS)(Y:S2)(L:aC),lK z J->z.inv Y->cl L->cq z R (XY z R) (xw oJ J s Y L) (dh W1 (lo1 z R J) s (St z R Y L))
 |.it e,J,Y,L,bB,ay,hL=>by
  refine bV (F6 ..)<|cF (kU ..)<|?_
  refine(dM K hR aG e J Y L bB ay hL).bind fun x x' dT L1 h1 h2 ⟨q1,q2⟩=>?_;subst q2;refine ah fun p e'=>?_;refine fK (oH (R:=R) K h1 h2 q1 e') fun p1 p2 p3 p4=>?_;rw[p1];show cq z R _ _ (bp (St z R dT p.2) (am (St z R dT p.2) (iv z (NN z R) p.1)));cases q:hZ p.1 with
  |none=>trivial|some l=>
   obtain⟨i1,i2⟩:=zy (c:=St z R dT p.2) (N:=NN z R) p3 q;rw[i1];exact⟨h1,p2,_,rfl,i2,rfl⟩
 |.lO e,J,Y,L,bB,ay,hL=>by
  refine bV (Nl ..)<|cF (pW ..)<|?_
  refine(dM K hR aG e J Y L bB ay hL).bind fun x x' dT L1 h1 h2 ⟨q1,q2⟩=>?_;subst q2;refine ah fun i e=>?_;rw[my e,bn]
  by_cases hi:0<=i/\i<=aJ
  ·refine bV (aO hi ..)<|?_
   show cq z R _ _ (if 0<=i/\i<=aJ then _ else _);refine cF (aO hi ..)<|?_
   exact⟨h1,h2,_,rfl,fun v hv=>by induction wY hv with|mk k _=>?_;exact bK.mpr (aa _ _),J5.symm⟩
  ·refine bV (aV hi ..)<|?_;trivial
end
end
section
variable{z:Cz}{R:aC}{oJ:W2}{W1:dP}{lf:Nat}
noncomputable def QF(z:Cz)(R:aC):iV->Fl->Prop
 |.nx J,f=>lK z J/\f = .nx (lo1 z R J)|.rt v,f=>eJ z v/\pN v=true/\f = .rt (iv z (NN z R) v)|.bk J,f=>lK z J/\f = .bk (lo1 z R J)
theorem uA{t2:bS->S2->aC->O2 Bool}{b2:bS->S2->aC->O2 iV}{t1:Loc->aC->aD Bool}{b1:Loc->aC->aD Fl}
  (ht:∀J Y L,lK z J->z.inv Y->cl L->cq z R (fun b b'=>b'=b) (t2 J Y L) (t1 (lo1 z R J) (St z R Y L))) (hb:∀J Y L,lK z J->z.inv Y->cl L->cq z R (QF z R) (b2 J Y L) (b1 (lo1 z R J) (St z R Y L))) :
  ∀(n:Nat)(J:bS)(Y:S2)(L:aC),lK z J->z.inv Y->cl L->cq z R (QF z R) (fc t2 b2 n J Y L) (iq lf t1 b1 n (lo1 z R J) (St z R Y L))
 |0,J,Y,L,U,bG,dy=>by refine bV (Fe ..)<|?_;trivial
 |n+1,J,Y,L,bB,ay,hL=>by
  refine bV (kG ..)<|cF (pY ..)<|?_
  refine(ht J Y L bB ay hL).fm.bind fun x x' dT L1 h1 h2 q=>?_;subst q;cases x' with
  |false=>exact⟨h1,h2,_,rfl,bB,rfl⟩|true=>
   refine(hb J dT L1 bB h1 h2).fm.bind fun f f' sY L2 h3 h4 q=>?_;cases f with
   |nx aE=>
    obtain⟨q1,rfl⟩:=q;exact uA ht hb n aE sY L2 q1 h3 h4
   |rt v=>
    refine cH q fun q1 q2 fu=>?_;subst fu;exact⟨h3,h4,_,rfl,q1,q2,rfl⟩
   |bk aE=>
    obtain⟨q1,rfl⟩:=q;exact⟨h3,h4,_,rfl,q1,rfl⟩
theorem uB{t:lM}{b2:bS->S2->aC->O2 iV}{b1:Loc->aC->aD Fl}(hb:∀J Y L,lK z J->z.inv Y->cl L->cq z R (QF z R) (b2 J Y L) (b1 (lo1 z R J) (St z R Y L))) :
  ∀(vs:List V2)(J:bS)(Y:S2)(L:aC),(∀v∈vs,eJ z v)->lK z J->z.inv Y->cl L->cq z R (QF z R) (l7 t b2 vs J Y L) (hY t b1 (vs.map (iv z (NN z R))) (lo1 z R J) (St z R Y L))
 |[],J,Y,L,U,bB,ay,hL=>by(refine bV (Fg ..)<|?_;rw[List.map_nil,mD]);exact⟨ay,hL,_,rfl,bB,rfl⟩
 |v::vs,J,Y,L,hv,bB,ay,hL=>by
  (refine bV (Fh ..)<|?_;rw[List.map_cons,mE])
  refine ah fun aE e=>?_;obtain⟨V0,V6⟩:=l9 (R:=R) bB (hv v d8) e;rw[V0];refine(hb aE Y L V6 ay hL).fm.bind fun f f' sY L2 h3 h4 q=>?_;cases f with
  |nx aE=>
   obtain⟨q1,rfl⟩:=q;exact uB hb vs aE sY L2 (fun w hw=>hv w (dO _ hw)) q1 h3 h4
  |rt v=>
   refine cH q fun q1 q2 fu=>?_;subst fu;exact⟨h3,h4,_,rfl,q1,q2,rfl⟩
  |bk aE=>
   obtain⟨q1,rfl⟩:=q;exact⟨h3,h4,_,rfl,q1,rfl⟩
theorem B4(K:z.Ok){Y:S2}{L:aC}{j:Nat}{l:List AV}(ay:z.inv Y)(e:L[j]?=some (.list l)):gh (St z R Y L) (.ref (NN z R+j))=some (NN z R+j,l):=by
 unfold gh;dsimp only;rw[B1 K ay,e]
theorem nG{W:W2}{s:Sx}{J:bS}{Y:S2}{L:aC}(h:g6 W lf s J Y L = .fail){Z:Type}{Q:iV->Z->Prop}{y:aD Z}:cq z R Q (g6 W lf s J Y L) y:=by refine bV (h ..)<|?_;trivial
theorem B5{L:aC}{j:Nat}{l:List AV}(h:cl L)(hl:∀v∈l,aH 0 v=true):cl (L.set j (.list l)):=by
 refine Fu h ?_;unfold ai;rw[ae];exact hl
theorem GJ{L:aC}{j:Nat}{l:List AV}(h:cl L)(e:L[j]?=some (.list l)):∀v∈l,aH 0 v=true:=by
 have:=v8 h e;unfold ai at this;rw[ae]at this;exact this
theorem L7{J:bS}{x:Nat}{v:V2}{c:aC}(e:getL J x=some v):ev W1 (lo1 z R J) (.loc x) c = .ok (iv z (NN z R) v) c:=by
 (refine .trans (cM ..)<|?_;rw[B2 (v4 e)])
theorem V7{J:bS}{x j:Nat}(e:(getL J x).bind r9=some j):getL J x=some (.fW j):=by
 obtain⟨v,e,h⟩:=qM e
 (refine .trans (e ..)<|?_;rw[xv h])
theorem J6(K:z.Ok){J:bS}{Y:S2}{L:aC}{j:Nat}{w:AV}(bB:lK z J)(h1:z.inv Y)(p2:cl L)(hw:aH 0 w=true) :
  cq z R (QF z R) (aM (listAt L j) fun l=>if l.length<=1000 then .ok (.nx J) Y (L.set j (.list (l++[w]))) else .fail)
   (match upd wf (St z R Y L) (.ref (NN z R+j)) w with|some c=>.ok (.nx (lo1 z R J)) c|none=>.fail):=by
 refine ah fun l e=>?_;have e5:=listAt_eq e
 by_cases hlen:l.length<=1000
 ·refine bV (aO hlen ..)<|?_
  have e6:upd wf (St z R Y L) (.ref (NN z R+j)) w=some (St z R Y (L.set j (.list (l++[w])))):=by
   unfold upd;rw[B4 K h1 e5];dsimp only;unfold wf;rw[aO (by rw[bR];omega),Option.map_some,zt K h1]
  rw[e6];refine⟨h1,B5 p2 fun y hy=>?_,_,rfl,bB,rfl⟩;rcases List.mem_append.mp hy with q|q
  ·exact GJ p2 e5 y q
  ·rw[List.mem_singleton.mp q];exact hw
 ·refine bV (aV hlen ..)<|?_;trivial
theorem GK(K:z.Ok){J:bS}{Y:S2}{L:aC}{o i:V2}{w:AV}(bB:lK z J)(h1:z.inv Y)(p2:cl L)(hw:aH 0 w=true) :
  cq z R (QF z R) (aM (r9 o) fun j=>aM (mx i) fun i=>aM (listAt L j) fun l=>if i<0/\l.length<=aJ then aM (place l.length i) fun k=>.ok (.nx J) Y (L.set j (.list (l.set k w))) else .fail)
   (match eA (St z R Y L) (iv z (NN z R) o) (iv z (NN z R) i) w with|some c=>.ok (.nx (lo1 z R J)) c|none=>.fail):=by
 refine ah fun j ej=>ah fun k ek=>ah fun l el=>?_;have e5:=listAt_eq el;rw[xv ej,my ek,zu,bn]
 by_cases hk:k<0/\l.length<=aJ
 ·refine bV (aO hk ..)<|?_
  refine ah fun p e6=>?_;have e7:eA (St z R Y L) (.ref (NN z R+j)) (.int k) w=some (St z R Y (L.set j (.list (l.set p w)))):=by
   unfold eA;dsimp only;rw[B1 K h1,e5];dsimp only
   (refine .trans (aO hk ..)<|?_;rw[e6])
   dsimp only;rw[zt K h1]
  rw[e7];refine⟨h1,B5 p2 fun y hy=>?_,_,rfl,bB,rfl⟩;rcases List.mem_or_eq_of_mem_set hy with q|q
  ·exact GJ p2 e5 y q
  ·rw[q];exact hw
 ·refine bV (aV hk ..)<|?_;trivial
theorem GL(K:z.Ok){J:bS}{Y:S2}{L:aC}{x:Nat}{v:V2}(bB:lK z J)(h1:z.inv Y)(h2:cl L)(q1:eJ z v) :
  cq z R (QF z R) (aM (BW v) fun l=>.ok (.nx (J.set x (some (.fW L.length)))) Y (L++[.list l]))
   (match iv z (NN z R) v with| .lst l=>.ok (.nx ((lo1 z R J).set x (some (.ref (St z R Y L).length)))) (St z R Y L++[.list l]) |_=>.fail):=by
 refine ah fun l e=>?_;rw[F3 e]at q1⊢;rw[bn];refine⟨h1,dY.mpr ⟨h2,?_⟩,.nx ((lo1 z R J).set x (some (.ref (NN z R+L.length)))),?_,nB bB (trivial),?_⟩
 ·have hl:=bK.mp q1;unfold cl
  (refine .trans (List.all_cons ..)<|?_;rw[List.all_nil,Bool.and_true])
  unfold ai;rw[bP]at hl;exact hl
 ·show aD.ok (Fl.nx ((lo1 z R J).set x (some (.ref (St z R Y L).length)))) (St z R Y L++[.list l])=_;rw[OT K h1,JY]
 ·rw[nC,zu]
theorem SI{l r:List AV}(h:XX l=some r):∃t,l=t::r:=by
 cases l with
 |nil=>exact ak h|cons t l=>obtain rfl:=bE h;exact⟨t,rfl⟩
theorem J7{n k:Nat}(h:LU n=some k):n=k+1:=by
 cases n with
 |zero=>exact ak h|succ n=>obtain rfl:=bE h;rfl
noncomputable def OW(W:dP)(J:Loc)(o:AV)(n:List Nat)(op:yl)(e:Ex)(c:aC):aD Fl:=match eY c o n with
 |some a=>(ev W J e c).bind fun v c=>match gg op a v with
  |some r=>match db c o n r with
   |some c=>.ok (.nx J) c|none=>.fail
  |none=>.fail
 |none=>.fail
theorem vf{J:Loc}{n:List Nat}{op:yl}{c c':aC}{a r:Int}(h1:eY c (.ref 1) n=some (.int a))(h2:gg op (.int a) (.int 1)=some (.int r))(h3:db c (.ref 1) n (.int r)=some c'):OW W1 J (.ref 1) n op (.int 1) c = .ok (.nx J) c':=by
 unfold OW;rw[h1,mB];dsimp only[aD.bind];rw[h2];dsimp only;rw[h3]
theorem J8(K:z.Ok){J:bS}{Y:S2}{L:aC}{n:List Nat}{op:yl}(bB:lK z J)(h1:z.inv Y)(h2:cl L)(q1:eJ z .ab) :
  cq z R (QF z R) (if n=[97,116]then aM (OG op Y) fun Y=>.ok (.nx J) Y L else if n=[110,101,115,116]then aM (Fm op Y) fun Y=>.ok (.nx J) Y L else .fail) (OW W1 (lo1 z R J) (.ref 1) n op (.int 1) (St z R Y L)):=by
 by_cases hn:n=[97,116]
 ·(refine bV (aO hn ..)<|?_;rw[hn])
  refine ah fun aF e=>?_;cases op with
  |add=>
   induction i7 e with|mk r er=>?_;obtain⟨t,er⟩:=SI er
   refine d9 (K.OS q1 Y (R++L) t r h1 er) fun a a1 a2 a3=>?_;exact⟨a3,h2,_,vf a1 rfl a2,bB,rfl⟩
  |_=>exact ak e
 ·refine bV (aV hn ..)<|?_
  by_cases hm:n=[110,101,115,116]
  ·(refine bV (aO hm ..)<|?_;rw[hm])
   refine ah fun aF e=>?_;cases op with
   |add=>
    obtain rfl:=bE e;obtain⟨n1,n2⟩:=K.L6 q1 Y (R++L) (Y.ne+1) h1;exact⟨n2,h2,_,vf (K.nest q1 Y (R++L) h1) rfl n1,bB,rfl⟩
   |sub=>
    induction i7 e with|mk k ek=>?_;obtain⟨n1,n2⟩:=K.L6 q1 Y (R++L) k h1
    have q:gg .sub (.int Y.ne) (.int 1)=some (.int k):=by
     show some (AV.int ((Y.ne:Int)-1))=_;rw[J7 ek,show((k+1:Nat):Int)-1=(k:Int) by omega]
    exact⟨n2,h2,_,vf (K.nest q1 Y (R++L) h1) q n1,bB,rfl⟩
   |_=>exact ak e
  ·refine bV (aV hm ..)<|?_;trivial
theorem Cj(K:z.Ok)(hR:cl R)(aG:WR z oJ W1){h:Nat}{s:List Nat}{dT:S2}{L1:aC}(h1:z.inv dT)(h2:cl L1)(q1:eJ z .ab) :
  cq z R (QF z R) (v7 (oJ.call h [.ab] dT)) ((W1.call h [.ref 1] (St z R dT L1)).calm.bind fun x c=>match x with| .int _=>.exc true c|_=>.fail):=by
 have hc:=aG.call h [.ab] dT (R++L1) h1 (dY.mpr ⟨hR,h2⟩) (fun v hv=>by rw[List.mem_singleton.mp hv];exact q1) rfl
 cases e:oJ.call h [.ab] dT with
 |exc m=>trivial|fail=>trivial|ok v sY L2=>
  rw[e]at hc;refine ah fun i ei=>?_;refine fK hc fun p1 p2 p3 p4=>?_;rw[List.map_cons,List.map_nil,kH,my ei,bn]at p4;have p5:W1.call h [.ref 1] (St z R dT L1) = .ok (.int i) (z.jf sY++(R++L1)):=p4;rw[p5];refine⟨_,rfl,dY.mpr ⟨K.JX _ p1,dY.mpr ⟨hR,h2⟩⟩,?_⟩;rw[cB,cB,K.len _ p1];unfold NN;omega
mutual
theorem V8(K:z.Ok)(hR:cl R)(aG:WR z oJ W1):∀(s:Sx)(J:bS)(Y:S2)(L:aC),lK z J->z.inv Y->cl L->cq z R (QF z R) (g6 oJ lf s J Y L) (ex W1 lf s (lo1 z R J) (St z R Y L))
 |.expr e,J,Y,L,bB,ay,hL=>by
  refine bV (Fo ..)<|cF (QA ..)<|?_
  refine(dM K hR aG e J Y L bB ay hL).bind fun x x' dT L1 h1 h2 U=>?_;exact⟨h1,h2,_,rfl,bB,rfl⟩
 |.app x e,J,Y,L,bB,ay,hL=>by
  refine bV (LV ..)<|?_
  refine ah fun j e1=>ah fun l0 e2=>?_
  (refine cF (MO ..)<|?_;rw[L7 (V7 e1),zu])
  show cq z R _ _ (match gh (St z R Y L) (.ref (NN z R+j)) with|some _=>_|none=>_)
  rw[B4 K ay (listAt_eq e2)];refine(dM K hR aG e J Y L bB ay hL).bind fun v v' dT L1 h1 h2 ⟨q1,q2⟩=>?_;subst q2;refine ah fun p e4=>?_;refine fK (oH (R:=R) K h1 h2 q1 (zm e4)) fun p1 p2 p3 p4=>?_;rw[p1,bn];exact J6 K bB h1 p2 (bK.mp p3)
 |.ext U bG,J,Y,L,bB,ay,hL=>nG (by exact(Rn ..))
 |.ret e,J,Y,L,bB,ay,hL=>by
  refine bV (BY ..)<|cF (mF ..)<|?_
  refine(dM K hR aG e J Y L bB ay hL).bind fun v v' dT L1 h1 h2 ⟨q1,q2⟩=>?_;subst q2;refine ah fun p e4=>?_;refine fK (oH (R:=R) K h1 h2 q1 e4) fun p1 p2 p3 p4=>?_;rw[p1];exact⟨h1,p2,_,rfl,p3,p4,rfl⟩
 |.asg x e,J,Y,L,bB,ay,hL=>by
  refine bV (Fp ..)<|cF (mG ..)<|?_
  refine(dM K hR aG e J Y L bB ay hL).bind fun v v' dT L1 h1 h2 ⟨q1,q2⟩=>?_;subst q2;exact⟨h1,h2,_,rfl,nB bB q1,by rw[nC]⟩
 |.dn x e,J,Y,L,bB,ay,hL=>by
  refine bV (LW ..)<|?_
  cases hd:v5 e with
  |true=>trivial|false=>
   have e1:ex W1 lf (.dn x e) (lo1 z R J) (St z R Y L)=(ev W1 (lo1 z R J) e (St z R Y L)).bind fun v c=>match v with
     |.lst l=>.ok (.nx ((lo1 z R J).set x (some (.ref c.length)))) (c++[.list l])|_=>.fail:=by
    rw[Dp];all_goals first|rfl|exact fun ks vs=>C7 hd
   refine cF (e1 ..)<|?_
   refine(dM K hR aG e J Y L bB ay hL).bind fun v v' dT L1 h1 h2 ⟨q1,q2⟩=>?_;subst q2;exact GL K bB h1 h2 q1
 |.iM xs e,J,Y,L,bB,ay,hL=>by
  refine bV (LY ..)<|cF (yv ..)<|?_
  refine(dM K hR aG e J Y L bB ay hL).bind fun v v' dT L1 h1 h2 ⟨q1,q2⟩=>?_;subst q2;refine ah fun aE e4=>?_;obtain⟨V0,V6⟩:=l9 (R:=R) bB q1 e4;unfold Dn;rw[V0];exact⟨h1,h2,_,rfl,V6,rfl⟩
 |.gz U bG dy,J,Y,L,bB,ay,hL=>nG (by exact(Ro ..))
 |.uU o i e,J,Y,L,bB,ay,hL=>by
  refine bV (Rq ..)<|cF (Ka ..)<|?_
  refine(dM K hR aG e J Y L bB ay hL).bind fun v v' dT L1 h1 h2 ⟨q1,q2⟩=>?_;subst q2;refine ah fun p e4=>?_;refine fK (oH (R:=R) K h1 h2 q1 (zm e4)) fun p1 p2 p3 p4=>?_;rw[p1,bn];show cq z R _ _ ((ev W1 (lo1 z R J) o (St z R dT p.2)).bind _);refine(dM K hR aG o J dT p.2 bB h1 p2).bind fun ov ov' SG L3 h5 h6 ⟨q5,q6⟩=>?_;refine(dM K hR aG i J SG L3 bB h5 h6).bind fun iw iw' σ4 L4 h7 h8 ⟨q7,q8⟩=>?_;subst q6 q8;exact GK K bB h7 h8 (bK.mp p3)
 |.hJ x op e,J,Y,L,bB,ay,hL=>by
  refine bV (OH ..)<|?_
  refine ah fun o e1=>?_
  (refine cF (Dq ..)<|?_;rw[L7 e1])
  show cq z R _ _ ((ev W1 (lo1 z R J) e (St z R Y L)).bind _);refine(dM K hR aG e J Y L bB ay hL).bind fun v v' dT L1 h1 h2 ⟨q1,q2⟩=>?_;subst q2;refine ah fun r e4=>?_;obtain⟨a1,a2⟩:=zw (N:=NN z R) K e4;rw[a1];exact⟨h1,h2,_,rfl,nB bB a2,by rw[nC]⟩
 |.g9 o n op e,J,Y,L,bB,ay,hL=>by
  refine bV (OI ..)<|cF (Kb ..)<|?_
  refine(dM K hR aG o J Y L bB ay hL).bind fun v v' dT L1 h1 h2 ⟨q1,q2⟩=>?_;subst q2;refine ah fun U er=>ah fun U eo=>?_;rw[rf er]at q1⊢;rw[Fk eo,kH];exact J8 K bB h1 h2 q1
 |.uV U bG dy lP,J,Y,L,bB,ay,hL=>nG (by exact(OJ ..))
 |.ite t a b,J,Y,L,bB,ay,hL=>by
  refine bV (zr ..)<|cF (Dr ..)<|?_
  refine(Ci K hR aG t J Y L bB ay hL).bind fun x x' dT L1 h1 h2 q=>?_;subst q;cases x' with
  |true=>exact rl K hR aG a J dT L1 bB h1 h2|false=>exact rl K hR aG b J dT L1 bB h1 h2
 |.n4 t b,J,Y,L,bB,ay,hL=>by
  refine bV (Fq ..)<|cF (Ds ..)<|?_
  exact uA (fun J Y L bB ay hL=>Ci K hR aG t J Y L bB ay hL) (fun J Y L bB ay hL=>rl K hR aG b J Y L bB ay hL) lf J Y L bB ay hL
 |.i6 t s b,J,Y,L,bB,ay,hL=>by
  refine bV (OK ..)<|cF (qP ..)<|?_
  refine(SH K hR aG s J Y L bB ay hL).bind fun l l' dT L1 h1 h2 ⟨q1,q2⟩=>?_;subst q2;exact uB (fun J Y L bB ay hL=>rl K hR aG b J Y L bB ay hL) l J dT L1 q1 bB h1 h2
 |.raise h args,J,Y,L,bB,ay,hL=>by
  refine bV (OL ..)<|cF (Kd ..)<|?_
  refine(rk K hR aG args J Y L bB ay hL).bind fun vs CT dT L1 h1 h2 ⟨q1,q2⟩=>?_;subst q2;refine ah fun s es=>?_;rw[zo es]at q1⊢;rw[List.map_cons,List.map_cons,List.map_nil,kH,bn];exact Cj (s:=s) K hR aG h1 h2 (q1 _ d8)
 |.uW U,J,Y,L,bB,ay,hL=>nG (by exact(OM ..))
 |.brk,J,Y,L,bB,ay,hL=>by refine bV (ON ..)<|cF (Ke ..)<|?_;exact⟨ay,hL,_,rfl,bB,rfl⟩
 |.ag,J,Y,L,bB,ay,hL=>nG (by exact(OO ..))
theorem rl(K:z.Ok)(hR:cl R)(aG:WR z oJ W1):∀(s:List Sx)(J:bS)(Y:S2)(L:aC),lK z J->z.inv Y->cl L->cq z R (QF z R) (al oJ lf s J Y L) (dR W1 lf s (lo1 z R J) (St z R Y L))
 |[],J,Y,L,bB,ay,hL=>by refine bV (fF ..)<|cF (iO ..)<|?_;exact⟨ay,hL,_,rfl,bB,rfl⟩
 |s::l,J,Y,L,bB,ay,hL=>by
  refine bV (fG ..)<|cF (kq ..)<|?_
  refine(V8 K hR aG s J Y L bB ay hL).bind fun f f' dT L1 h1 h2 q=>?_;cases f with
  |nx aE=>
   obtain⟨q1,rfl⟩:=q;exact rl K hR aG l aE dT L1 q1 h1 h2
  |rt v=>
   refine cH q fun q1 q2 fu=>?_;subst fu;exact⟨h1,h2,_,rfl,q1,q2,rfl⟩
  |bk aE=>
   obtain⟨q1,rfl⟩:=q;exact⟨h1,h2,_,rfl,q1,rfl⟩
end
end
mutual
theorem yF{z:Cz}(K:z.Ok){N:Nat}:∀{v:V2},eJ z v->pN v=true->aH 0 (iv z N v)=true
 |.a v,h,U=>by rw[bn];exact bK.mp h
 |.tp l,h,U=>by
  rw[jB,bv];exact uC K h.1 h.2
 |.pz,U,bG=>by rw[gF];exact K.pz
 |.txt U,bG,dy=>by rw[iE];exact a9 _ _
 |.pos U,bG,dy=>by rw[gG];exact aa _ _
 |.je,U,bG=>by rw[jW];exact aa _ _
 |.ab,U,h=>eK h|.ib,U,h=>eK h|.xq,U,h=>eK h|.fW U,bG,h=>eK h
theorem uC{z:Cz}(K:z.Ok){N:Nat}:∀{l:List V2},xx z l->j7 l=true->dW 0 (l.map (iv z N))=true
 |[],U,bG=>by rw[List.map_nil,cu]
 |v::l,h,h'=>by
  rw[zl,be]at h';rw[List.map_cons,bH,yF K h.1 h'.1,uC K h.2 h'.2];rfl
end
section
variable{z:Cz}{R:aC}{oJ:W2}{W1:dP}{lf:Nat}
theorem B6(K:z.Ok){α:Type}{Y aF:S2}{L:aC}{v:AV}{k:aC->aD α}(ay:z.inv Y)(SJ:z.inv aF)(hR:cl R)(hL:cl L)(hv:aH 0 v=true):back (z.jf Y++R).length v (St z R aF L) k=k (z.jf aF++R):=by
 have e:(St z R aF L).take (z.jf Y++R).length=z.jf aF++R:=by
  unfold St;rw[<-b9,List.take_left' (by(refine .trans (cB ..)<|?_;rw[cB,K.len _ ay,K.len _ SJ]))]
 unfold back;rw[e,gC _ hv,Bool.true_and,aO];rw[List.all_eq_true];intro x hx;exact bN _ (gD.mp (dY.mpr ⟨K.JX _ SJ,hR⟩) x hx)
theorem GN(K:z.Ok){α:Type}{Y:S2}{c:aC}{k:aC->aD α}(ay:z.inv Y)(hc:cl c):back (z.jf Y++R).length .none c k=k (c.take (z.jf Y++R).length):=by
 unfold back;rw[bm,Bool.true_and,aO];rw[List.all_eq_true];intro x hx;exact bN _ (gD.mp hc x (List.mem_of_mem_take hx))
theorem vg{c:aC}{n:Nat}(h:cl c):cl (c.take n):=gD.mpr fun x hx=>gD.mp h x (List.mem_of_mem_take hx)
theorem SK(K:z.Ok)(hR:cl R)(aG:WR z oJ W1){F:Fn}(hd:∀v∈F.dflt,aH 0 v=true){args:List V2}{Y:S2}(ay:z.inv Y)(ha:∀v∈args,eJ z v)(hi:args.all tD=true) :
  Cb z R (jS oJ lf F args Y) (d3 W1 lf F (args.map (iv z 0)) (z.jf Y++R)):=by
 unfold jS d3;rw[List.length_map];dsimp only;generalize hk:F.dflt.drop (F.dflt.length-(F.np-args.length))=ds;have PL:∀v∈ds,aH 0 v=true:=fun v hv=>hd v (by rw[<-hk]at hv;exact List.mem_of_mem_drop hv)
 have el:(args++ds.map V2.a).length=(args.map (iv z 0)++ds).length:=by simp
 by_cases hl:(args++ds.map V2.a).length=F.np
 case neg=>rw[aV hl];trivial
 rw[aO hl,aO (el.symm.trans hl)];have Zr:(args.map (iv z 0)++ds).map some++List.replicate (F.nl-F.np) none=lo1 z R ((args++ds.map V2.a).map some++List.replicate (F.nl-F.np) none):=by
  have e1:∀l:List V2,l.map (Option.map (iv z (NN z R))∘some)=(l.map (iv z (NN z R))).map some:=fun l=>by rw[List.map_map];rfl
  have e2:(ds.map V2.a).map (iv z (NN z R))=ds:=xz ds;unfold lo1;rw[List.map_append (f:=Option.map (iv z (NN z R))),List.map_replicate,List.map_map (f:=some),e1,GF (N':=NN z R) hi,List.map_append (f:=iv z (NN z R)) ,e2,List.map_append];rfl
 have Zs:lK z ((args++ds.map V2.a).map some++List.replicate (F.nl-F.np) none):=by
  intro v hv;rcases List.mem_append.mp hv with q|q
  ·refine au (List.mem_map.mp q) fun w hw e=>?_;cases bE e;rcases List.mem_append.mp hw with q|q
   ·exact ha v q
   ·induction wY q with|mk x hx=>?_;exact bK.mpr (PL x hx)
  ·rw[List.mem_replicate]at q;cases q.2
 have ec:z.jf Y++R=St z R Y []:=by unfold St;rw[List.append_nil]
 have S:=rl (lf:=lf) K hR aG F.body _ Y [] Zs ay jU;rw[<-Zr,<-ec]at S;generalize al oJ lf F.body ((args++ds.map V2.a).map some++List.replicate (F.nl-F.np) none) Y []=o2 at S⊢;cases o2 with
 |ok f aF L'=>
  refine tJ S fun h1 h2 f1 e1 q=>?_;rw[e1];cases f with
  |nx aE=>
   obtain⟨q1,rfl⟩:=q;dsimp only;rw[B6 K ay h1 hR h2 (bm _)];exact⟨h1,rfl,bK.mpr (bm _),by rw[bn]⟩
  |rt v=>
   refine cH q fun q1 q2 fu=>?_;subst fu;dsimp only;rw[aO q2,B6 K ay h1 hR h2 (yF K q1 q2),zz (N:=NN z R) (N':=0) q2];exact⟨h1,q2,q1,rfl⟩
  |bk aE=>trivial
 |exc m=>
  refine d9 S fun c e1 h2 h3=>?_;rw[e1];dsimp only;rw[GN K ay h2];refine⟨_,rfl,vg h2,?_⟩
  (refine .trans (List.length_take ..)<|?_;rw[cB,K.len _ ay])
  unfold NN at h3⊢;omega
 |fail=>trivial
noncomputable def lc(z:Cz)(fns:List Fn)(ini:Fn)(lf kp:Nat)(prim:Prim):Prop:=∀f args Y r,prim f args Y=some r->∀m R,kp<=m->z.inv Y->cl R->(∀v∈args,eJ z v)->args.all tD=true->
 Cb z R r (bL fns ini z.gl lf m f (args.map (iv z 0)) (z.jf Y++R))
theorem jX(K:z.Ok){fns:List Fn}{ini:Fn}{kp:Nat}{prim:Prim}(hF:∀F∈fns,∀v∈F.dflt,aH 0 v=true)(hp:lc z fns ini lf kp prim) :
  ∀n m f args Y R,n+kp<=m->z.inv Y->cl R->(∀v∈args,eJ z v)->args.all tD=true->Cb z R (eU fns z.gl lf z.s prim n f args Y) (bL fns ini z.gl lf m f (args.map (iv z 0)) (z.jf Y++R))
 |0,m,f,args,Y,R,hm,ay,hR,ha,hi=>by rw[Ft];trivial
 |n+1,m,f,args,Y,R,hm,ay,hR,ha,hi=>by
  rw[ri];cases e:prim f args Y with
  |some r=>exact hp f args Y r e m R (by omega) ay hR ha hi
  |none=>
   dsimp only;cases eF:fns[f]? with
   |none=>trivial|some F=>
    dsimp only;obtain⟨m,rfl⟩:∃k,m=k+1:=⟨m-1,by omega⟩
    rw[kW,eF];dsimp only;refine SK K hR ⟨rfl,rfl,rfl,fun f args Y R h1 h2 h3 h4=>?_⟩ (hF F (eN eF)) ay ha hi;exact jX K hF hp n m f args Y R (by omega) h1 h2 h3 h4
end
noncomputable def tk(k:List Nat)(v:AV):AV:=.tup [.str k,v,.int 1]
noncomputable def yG:AV:=tk [] (.str [])
noncomputable def look:List AV->Nat->AV
 |[],U=>yG|t::U,0=>t|U::r,k+1=>look r k
theorem OX head r k:look (head::r) k.succ=look r k:=rfl
theorem qD:∀(l:List AV)(k:Nat),look l k=(l[k]?).getD yG
 |[],k=>rfl|t::l,0=>rfl|t::l,k+1=>by refine .trans (OX ..)<|.trans (qD l k ..)<|?_;simp
noncomputable def op(s:List Nat):AV:=tk [111,112] (.str s)
noncomputable def jY(s:List Nat):AV:=tk [110,97,109,101] (.str s)
noncomputable def Hj(s:List Nat):AV:=tk [119,111,114,100] (.str s)
noncomputable def wR(s:List Nat):AV:=tk [115,116,114,105,110,103] (.str s)
noncomputable def SL(n:Int):AV:=tk [99,104,97,114] (.int n)
noncomputable def Cm(n:Int):AV:=tk [105,110,116] (.int n)
noncomputable def bA(ts:List AV)(a ne:Int):List (List Nat×AV):=
 [([116,111,107,101,110,115],.lst ts),([97,116],.int a),([110,101,115,116],.int ne),([100,101,101,112],.int 0),
  ([112,97,114,115,101,95,101,120,112,114],.none),([112,97,114,115,101,95,110,97,109,101],.none),([112,97,114,115,101,95,100,105,115,99,114,101,116,101],.none),
  ([112,97,114,115,101,95,99,104,111,105,99,101,115],.none),([112,97,114,115,101,95,100,101,99,108,97,114,97,116,105,111,110,115],.none),([112,97,114,115,101,95,102,111,114,109,97,108,115],.none),
  ([112,97,114,115,101,95,115,116,97,116,101,109,101,110,116,115],.none),([112,97,114,115,101,95,115,101,113,117,101,110,99,101],.none),([112,97,114,115,101,95,104,97,110,100,108,101,114,115],.none),
  ([112,97,114,115,101,95,104,97,110,100,108,101,100],.none),([112,97,114,115,101,95,105,116,101,109],.none)]
noncomputable def zP(D:Cell)(ts:List AV):Cz:={jf:=fun Y=>[D,.inst (bA ts ((ts.length-Y.rest.length:Nat):Int) (Y.ne:Int))],inv:=fun Y=>∃pre,ts=pre++Y.rest,n0:=2,T:=[],p:=0,s:=[],H:=.none,it:=0,rd:=true,gl:=gl}
structure Toks(ts:List AV):Prop where
 JX:∀t∈ts,aH 0 t=true
 Q7:ts.length<=1000
 plain:az 59 ts=true
 last:∃pre k v,ts=pre++[tk k v]
theorem nI:∀g,aH 0 (gl g)=true:=by
 intro g;have h:(zh.all fun v=>aH 0 v)=true:=by decide +kernel
 unfold gl;rw[List.getD_eq_getElem?_getD];cases e:zh[g]? with
 |none=>exact bm _|some v=>exact List.all_eq_true.mp h v (eN e)
theorem gw:∀F∈fns,∀v∈F.dflt,aH 0 v=true:=by
 have h:(fns.all fun F=>F.dflt.all fun v=>aH 0 v)=true:=by decide +kernel
 intro F hF v hv;exact List.all_eq_true.mp (List.all_eq_true.mp h F hF) v hv
section
variable{D:Cell}{ts:List AV}
theorem J9(hT:Toks ts){a ne:Int}:ai 0 (.inst (bA ts a ne))=true:=by
 unfold ai bA;rw[ae];intro v hv;simp only[List.map_cons,List.map_nil,b8,List.not_mem_nil,or_false]at hv;rcases hv with rfl|rfl|rfl|rfl|rfl|rfl|rfl|rfl|rfl|rfl|rfl|rfl|rfl|rfl|rfl
 ·(refine .trans (bP ..)<|?_;rw[ae]);exact hT.JX
 ·exact aa _ _
 ·exact aa _ _
 ·exact aa _ _
 all_goals exact bm _
theorem GO(hD:ai 0 D=true)(hT:Toks ts):(zP D ts).Ok:=by
 refine⟨fun Y U=>rfl,fun Y U=>?_,⟨rfl,b5 _⟩,Nat.zero_le _,bm _,nI,fun U Y R U=>rfl,fun U Y R t r hi hr=>?_,fun U Y R k hi=>⟨rfl,hi⟩⟩
 ·unfold cl zP;dsimp only
  (refine .trans (List.all_cons ..)<|?_;rw[List.all_cons,List.all_nil,hD,J9 hT]);rfl
 ·obtain⟨pre,e⟩:=hi;rw[hr]at e;refine⟨((ts.length-Y.rest.length:Nat):Int),rfl,?_,⟨pre++[t],by refine .trans (e ..)<|?_;simp⟩⟩
  have e2:((ts.length-Y.rest.length:Nat):Int)+1=((ts.length-r.length:Nat):Int):=by
   rw[hr,e,cB,List.length_cons,Nat.add_sub_cancel,Nat.add_comm r.length 1,<-Nat.add_assoc,Nat.add_sub_cancel];rfl
  rw[e2];rfl
noncomputable def AB:Prim:=fun f args Y=>if f=0 then FV args fun x y=>Nj FX x (yp y fun w=>jh w fun k=>if 0<=k/\k<=10 then some (.ok (.a (look Y.rest k.toNat)) Y []) else none) else none
theorem AD(hT:Toks ts)(e:ts=pre++rest)(k:Nat):aH 0 (look rest k)=true:=by
 rw[qD];cases q:rest[k]? with
 |none=>rw[Option.getD_none];unfold yG tk;(refine .trans (bv ..)<|?_;rw[ae]);intro v hv;simp at hv;rcases hv with rfl|rfl|rfl<;>first|exact a9 _ _|exact aa _ _
 |some t=>rw[Option.getD_some];exact hT.JX t (by rw[e];exact List.mem_append_right _ (eN q))
theorem ob{α Z:Type}{o:aD α}{f:α->aC->aD Z}{x:α}{c:aC}(e:o = .ok x c):o.bind f=f x c:=by refine .trans (dc (e ..))<|?_;rfl
theorem bM{lf:Nat}(h:ex W lf s J c = .ok (.nx aE) c'):dR W lf (s::l) J c=dR W lf l aE c':=by
 refine .trans (kq ..)<|.trans (dc (h ..))<|?_;rfl
theorem bw{lf:Nat}:dR W lf [s] J c=ex W lf s J c:=by
 refine .trans (kq ..)<|?_
 cases ex W lf s J c with
 |ok f c=>cases f<;>first|rfl|exact iO _ _ _ _
 |exc m c=>rfl|fail=>rfl
theorem ce{lf:Nat}(h:eS W J t c = .ok v c'):ex W lf (.ite t a b) J c=dR W lf (if v then a else b) J c':=by
 refine .trans (Dr ..)<|.trans (dc (h ..))<|?_
 cases v<;>rfl
theorem OY{lf:Nat}(h:ex W lf s J c = .ok (.rt v) c'):dR W lf (s::l) J c = .ok (.rt v) c':=by
 refine .trans (kq ..)<|.trans (ob h ..)<|?_;rfl
noncomputable def nJ:Ex:=.attr (.loc 0) [116,111,107,101,110,115]
noncomputable def SM:List Sx:=[.ite (.cmp .eq nJ (.lst [])) [.ag] [],.ret (.tup [.str [],.str [],.sub (.sub nJ (.neg (.int 1))) (.int 2)])]
theorem yH:gQ = .asg 2 (.bin .add (.attr (.loc 0) [97,116]) (.loc 1))::.ite (.cmp .lt (.loc 2) (.bi .len [nJ])) [.ret (.sub nJ (.loc 2))] []::SM:=rfl
section
variable{W:dP}{c:aC}{ts:List AV}{a:AV}{p j:Int}
theorem B7{J:Loc}(bB:J[0]?=some (some a))(h2:eY c a [116,111,107,101,110,115]=some (.lst ts)):ev W J nJ c = .ok (.lst ts) c:=
 .trans (tL ..)<|.trans (ob (show ev W J (.loc 0) c = .ok a c from by rw[cM,bB])) (by rw[h2];rfl)
theorem GP(h1:eY c a [97,116]=some (.int p)):ex W 5000 (.asg 2 (.bin .add (.attr (.loc 0) [97,116]) (.loc 1))) [some a,some (.int j),none] c = .ok (.nx [some a,some (.int j),some (.int (p+j))]) c:=by
 have l0:ev W [some a,some (.int j),none] (.loc 0) c = .ok a c:=cM ..;have l1:ev W [some a,some (.int j),none] (.loc 1) c = .ok (.int j) c:=cM ..;have la:ev W [some a,some (.int j),none] (.attr (.loc 0) [97,116]) c = .ok (.int p) c:=.trans (tL ..)<|.trans (ob l0) (by rw[h1];rfl)
 exact .trans (mG ..)<|ob (.trans (n9 ..)<|.trans (ob la) (ob l1))
theorem L8(h2:eY c a [116,111,107,101,110,115]=some (.lst ts))(hl:builtin c .len [.lst ts]=some (.int ts.length)):eS W [some a,some (.int j),some (.int p)] (.cmp .lt (.loc 2) (.bi .len [nJ])) c = .ok (decide (p<ts.length)) c:=by
 have l2:ev W [some a,some (.int j),some (.int p)] (.loc 2) c = .ok (.int p) c:=cM ..;have lt:eV W [some a,some (.int j),some (.int p)] [nJ] c = .ok [.lst ts] c:=.trans (bY ..)<|.trans (ob (B7 rfl h2)) (dc (cI ..))
 have ll:ev W [some a,some (.int j),some (.int p)] (.bi .len [nJ]) c = .ok (.int ts.length) c:=.trans (kn ..)<|.trans (ob lt) (by rw[hl];rfl)
 exact .trans (fS ..)<|.trans (ob l2) (ob ll)
theorem SN{r:AV}(h1:eY c a [97,116]=some (.int p))(h2:eY c a [116,111,107,101,110,115]=some (.lst ts))(hl:builtin c .len [.lst ts]=some (.int ts.length))(oX:p+j<ts.length)(hs:gm c (.lst ts) (.int (p+j))=some r)(hr:aH 0 r=true) :
  dR W 5000 gQ [some a,some (.int j),none] c = .ok (.rt r) c:=by
 rw[yH];refine .trans (bM (GP h1)) (OY (.trans (ce (L8 h2 hl)) ?_));rw[decide_eq_true oX,aO rfl];have l2:ev W [some a,some (.int j),some (.int (p+j))] (.loc 2) c = .ok (.int (p+j)) c:=cM ..;have ls:ev W [some a,some (.int j),some (.int (p+j))] (.sub nJ (.loc 2)) c = .ok r c:=.trans (j2 ..)<|.trans (ob (B7 rfl h2))<|.trans (ob l2) (by rw[hs];rfl)
 exact .trans (bw ..)<|.trans (mF ..)<|.trans (ob ls) (ob (cJ hr))
theorem OZ{t:AV}(h1:eY c a [97,116]=some (.int p))(h2:eY c a [116,111,107,101,110,115]=some (.lst ts))(hl:builtin c .len [.lst ts]=some (.int ts.length))(oX :¬p+j<ts.length)(V9:eqv (.lst ts) (.lst [])=some false)(hn:gm c (.lst ts) (.int (-1))=some t)(ht:gm c t (.int 2)=some (.int 1)) :
  dR W 5000 gQ [some a,some (.int j),none] c = .ok (.rt yG) c:=by
 rw[yH];have tf:eS W [some a,some (.int j),some (.int (p+j))] (.cmp .lt (.loc 2) (.bi .len [nJ])) c = .ok false c:=.trans (L8 h2 hl) (by rw[eO oX])
 refine .trans (bM (GP h1)) (.trans (bM (.trans (ce tf) (iO ..))) ?_);have le:ev W [some a,some (.int j),some (.int (p+j))] (.lst []) c = .ok (.lst []) c:=.trans (mC ..) (dc (cI ..));have te:eS W [some a,some (.int j),some (.int (p+j))] (.cmp .eq nJ (.lst [])) c = .ok false c:=.trans (fS ..)<|.trans (ob (B7 rfl h2))<|.trans (ob le) (by show bp c (eqv (.lst ts) (.lst []))=_;rw[V9];rfl)
 refine .trans (bM (.trans (ce te) (iO ..))) (.trans (bw ..) (.trans (mF ..) ?_));have lm:ev W [some a,some (.int j),some (.int (p+j))] (.neg (.int 1)) c = .ok (.int (-1)) c:=.trans (MN ..) (ob (mB ..));have ln:ev W [some a,some (.int j),some (.int (p+j))] (.sub nJ (.neg (.int 1))) c = .ok t c:=.trans (j2 ..)<|.trans (ob (B7 rfl h2))<|.trans (ob lm) (by rw[hn];rfl)
 have l2:ev W [some a,some (.int j),some (.int (p+j))] (.sub (.sub nJ (.neg (.int 1))) (.int 2)) c = .ok (.int 1) c:=.trans (j2 ..)<|.trans (ob ln)<|.trans (ob (mB ..)) (by rw[ht];rfl)
 have es:eV W [some a,some (.int j),some (.int (p+j))] [.str [],.str [],.sub (.sub nJ (.neg (.int 1))) (.int 2)] c = .ok [.str [],.str [],.int 1] c:=
  .trans (bY ..)<|.trans (ob (w5 ..))<|dc<|.trans (bY ..)<|.trans (ob (w5 ..))<|dc<|.trans (bY ..)<|.trans (ob l2) (dc (cI ..))
 refine .trans (ob (.trans (w9 ..) (.trans (ob es) ?_))) (ob (cJ (v:=yG) (by decide)))
 rfl
end
inductive GQ(Y:S2):Nat->List V2->O2 V2->Prop
 |mk (k:Int) (hk:0<=k/\k<=10):GQ Y 0 [.ab,.a (.int k)] (.ok (.a (look Y.rest k.toNat)) Y [])
theorem GR{f:Nat}(e:AB f args Y=some r):GQ Y f args r:=by
 obtain⟨rfl,e2⟩:=Ho (show(if f=0 then _ else _)=_ from e)
 clear e;induction zj e2 with|mk x y e3=>?_
 clear e2;obtain⟨h,e4⟩:=Rh e3;obtain rfl:=xt h;induction v3 e4 with|mk w e5=>?_
 induction gb e5 with|mk k e6=>?_;induction fg e6 with|mk hk=>?_
 exact⟨_,hk⟩
theorem Cn(hD:ai 0 D=true)(hT:Toks ts):lc (zP D ts) fns ini 5000 10 AB:=by
 intro f args Y r e m R hm ay hR ha hi;induction GR e with|mk k hk=>?_
 clear e;obtain⟨pre,PY⟩:=ay;have pj:=AD hT PY k.toNat;refine⟨⟨pre,PY⟩,rfl,bK.mpr pj,?_⟩;obtain⟨m,rfl⟩:∃k,m=k+1:=⟨m-1,by omega⟩
 rw[List.map_cons,List.map_cons,List.map_nil,kH,bn,bn];obtain⟨j,rfl⟩:∃j:Nat,k=j:=⟨k.toNat,by omega⟩
 have ea:ts.length-Y.rest.length=pre.length:=by rw[PY];simp
 have hlen:ts.length=pre.length+Y.rest.length:=by rw[PY];simp
 have O0:cl ((zP D ts).jf Y++R):=dY.mpr ⟨(GO hD hT).JX _ ⟨pre,PY⟩,hR⟩;have XZ:∀n v,assoc n (bA ts (pre.length:Int) (Y.ne:Int))=some v->eY ((zP D ts).jf Y++R) (.ref 1) n=some v:=by
  intro n v h;show assoc n (bA ts ((ts.length-Y.rest.length:Nat):Int) (Y.ne:Int))=some v;rw[ea];exact h
 have h1:eY ((zP D ts).jf Y++R) (.ref 1) [97,116]=some (.int pre.length):=XZ _ _ rfl;have h2:eY ((zP D ts).jf Y++R) (.ref 1) [116,111,107,101,110,115]=some (.lst ts):=XZ _ _ rfl;generalize(zP D ts).jf Y++R=c at *;have L9:∀{α:Type}(v:AV)(k:aC->aD α),aH 0 v=true->back c.length v c k=k c:=by
  intro α v k hv;unfold back;rw[List.take_length,gC _ hv,Bool.true_and,aO];rw[List.all_eq_true];exact fun x hx=>bN _ (gD.mp O0 x hx)
 have La:builtin c .len [.lst ts]=some (.int ts.length):=by
  show(if ts.length<=aJ then some (AV.int ts.length) else none)=_;exact(aO (by have:=hT.Q7;rw[bR];omega) ..)
 have O1:∀i:Nat,i<ts.length->gm c (.lst ts) (.int i)=ts[i]?:=by
  intro i hi;show(if ts.length<=aJ then(place ts.length (i:Int)).bind (ts[·]?) else none)=_
  (refine .trans (aO (by have:=hT.Q7;rw[bR];omega) ..)<|?_;rw[gv hi,Option.bind_some])
 (refine .trans (kW ..)<|?_;rw[r4])
 dsimp only;unfold d3
 by_cases hj:j<Y.rest.length
 ·have GS:ts[pre.length+j]?=some (look Y.rest j):=by
   rw[PY,List.getElem?_append_right (by omega),Nat.add_sub_cancel_left,qD,List.getElem?_eq_getElem hj];rfl
  have oX:((pre.length:Int)+(j:Int)<(ts.length:Int)):=by omega
  have SO:gm c (.lst ts) (.int ((pre.length:Int)+(j:Int)))=some (look Y.rest j):=by
   have:=O1 (pre.length+j) (by omega)
   rw[GS]at this;rw[<-this];rfl
  have Zt:((j:Int)).toNat=j:=by omega
  rw[Zt]at pj⊢;refine .trans (aY (fun o:aD Fl=>match o with| .ok (.rt v) c'=>back c.length v c' fun c=>.ok v c| .ok (.nx _) c'=>back c.length .none c' fun c=>.ok .none c| .ok (.bk _) _=>.fail| .exc _ c'=>back c.length .none c' fun c=>.exc false c| .fail=>.fail) (SN h1 h2 La oX SO pj)) ?_
  exact L9 _ _ pj
 ·have SP:Y.rest[j]?=none:=List.getElem?_eq_none (by omega)
  have e0:look Y.rest ((j:Int)).toNat=yG:=by
   rw[show((j:Int)).toNat=j by omega,qD,SP];rfl
  rw[e0];have oX :¬((pre.length:Int)+(j:Int)<(ts.length:Int)):=by omega
  refine A7 hT.last fun pl kl vl el=>?_;have Vb:plain aw (.lst ts)=true:=by
   show plain 60 (.lst ts)=true;refine .trans (kT ..)<|?_;exact hT.plain
  have V9:eqv (.lst ts) (.lst [])=some false:=by
   show(if plain aw (.lst ts)&&plain aw (.lst []) then some (eqB (.lst ts) (.lst [])) else none)=_;rw[Vb,aO (by rfl)]
   rw[el];show some (oj (pl++[tk kl vl]) [])=_;cases pl<;>rfl
  have Vc:gm c (.lst ts) (.int (-1))=some (tk kl vl):=by
   show(if ts.length<=aJ then(place ts.length (-1)).bind (ts[·]?) else none)=_;have xO:1<=ts.length:=by rw[el];simp
   refine .trans (aO (by have:=hT.Q7;rw[bR];omega) ..)<|?_
   unfold place;rw[aV (by omega),aO (by omega),Option.bind_some,el]
   simp
  have Vd:gm c (tk kl vl) (.int 2)=some (.int 1):=by
   unfold tk;show(if 3<=aJ then(place 3 2).bind ([AV.str kl,vl,.int 1][·]?) else none)=_;rfl
  have Ve:aH 0 yG=true:=by
   unfold yG tk;(refine .trans (bv ..)<|?_;rw[ae]);intro v hv;simp at hv;rcases hv with rfl|rfl|rfl<;>first|exact a9 _ _|exact aa _ _
  refine .trans (aY (fun o:aD Fl=>match o with| .ok (.rt v) c'=>back c.length v c' fun c=>.ok v c| .ok (.nx _) c'=>back c.length .none c' fun c=>.ok .none c| .ok (.bk _) _=>.fail| .exc _ c'=>back c.length .none c' fun c=>.exc false c| .fail=>.fail) (OZ h1 h2 La oX V9 Vc Vd)) ?_
  exact L9 _ _ Ve
end
noncomputable def wT(s:List Nat):AV:=.tup [.str [110,97,109,101],.str s]
noncomputable def im:AV:=op [40]
noncomputable def cQ:AV:=op [41]
noncomputable def B8:AV:=op [44]
noncomputable def sZ:AV:=op [46]
noncomputable def ic:AV:=op [39]
noncomputable def Co:AV:=op [61,62]
noncomputable def Cp:AV:=op [43]
mutual
inductive Pt where
 |x|j8|mod|lg|z|q
inductive ZPt where
 |z
end
noncomputable def Pt.ctorIdx(p:Pt):Nat:=Pt.casesOn p 0 1 2 3 4 5
noncomputable def Pt.text(v:Bool):Pt->List Nat
 |.x=>[120]|.j8=>[55]|.mod=>[34,77,111,100,34]|.lg=>match v with|true=>[89,46,65,108,108] |false=>[121,46,97,108,108]
 |.z=>[40,122,41]|.q=>[39,81,39]
noncomputable def Pt.toks:Pt->List AV
 |.x=>[jY [120]]|.j8=>[Cm 7]|.mod=>[wR [77,111,100]]|.lg=>[jY [121],sZ,Hj [97,108,108]]|.z=>[im,jY [122],cQ]|.q=>[SL 81]
noncomputable def Pt.tree:Pt->AV
 |.x=>wT [120]|.j8=>.tup [.str [105,110,116],.int 7]|.mod=>.tup [.str [115,116,114,105,110,103],.str [77,111,100]]|.lg=>.tup [.str [97,108,108],wT [121]]|.z=>.tup [.str [112,97,114,101,110],wT [122]]|.q=>.tup [.str [99,104,97,114],.int 81]
mutual
inductive Sy where
 |plus|and_|mod|ne|xor|abs|pow|not_
inductive ZSy where
 |z
end
noncomputable def Sy.low:Sy->List Nat
 |.plus=>[43]|.and_=>[97,110,100]|.mod=>[109,111,100]|.ne=>[47,61]|.xor=>[120,111,114]|.abs=>[97,98,115]|.pow=>[42,42]|.not_=>[110,111,116]
noncomputable def Sy.word:Sy->List Nat
 |.plus=>[43]|.and_=>[65,78,68]|.mod=>[77,111,100]|.ne=>[47,61]|.xor=>[120,111,114]|.abs=>[65,98,115]|.pow=>[42,42]|.not_=>[110,79,84]
noncomputable def Sy.text(v:Bool)(s:Sy):List Nat:=match v with|true=>s.word|false=>s.low
noncomputable def Sy.quoted:Sy->List Nat
 |.plus=>[34,43,34]|.and_=>[34,97,110,100,34]|.mod=>[34,109,111,100,34]|.ne=>[34,47,61,34]|.xor=>[34,120,111,114,34]|.abs=>[34,97,98,115,34]|.pow=>[34,42,42,34]|.not_=>[34,110,111,116,34]
mutual
inductive At where
 |first|range|pos|access|base|gd|delta|image
inductive ZAt where
 |z
end
noncomputable def At.low:At->List Nat
 |.first=>[102,105,114,115,116]|.range=>[114,97,110,103,101]|.pos=>[112,111,115]|.access=>[97,99,99,101,115,115]|.base=>[98,97,115,101]|.gd=>[99,108,97,115,115]|.delta=>[100,101,108,116,97]|.image=>[105,109,97,103,101]
noncomputable def At.word:At->List Nat
 |.first=>[102,105,114,115,116]|.range=>[114,97,110,103,101]|.pos=>[112,111,115]|.access=>[65,99,99,101,115,115]|.base=>[98,97,115,101]|.gd=>[67,108,97,115,115]|.delta=>[100,101,108,116,97]|.image=>[105,109,97,103,101]
noncomputable def At.text(v:Bool)(s:At):List Nat:=match v with|true=>s.word|false=>s.low
noncomputable def At.tok:At->AV
 |.first=>jY [102,105,114,115,116]|.range=>Hj [114,97,110,103,101]|.pos=>jY [112,111,115]|.access=>Hj [97,99,99,101,115,115]|.base=>jY [98,97,115,101]|.gd=>jY [99,108,97,115,115]|.delta=>Hj [100,101,108,116,97]|.image=>jY [105,109,97,103,101]
noncomputable def At.mark:At->Bool
 |.base=>true|.gd=>true|_=>false
mutual
inductive s6 where
 |a|tab|f1
inductive Zu where
 |z
end
noncomputable def s6.low:s6->List Nat
 |.a=>[97]|.tab=>[116,97,98]|.f1=>[102,95,49]
noncomputable def s6.word:s6->List Nat
 |.a=>[97]|.tab=>[84,97,98]|.f1=>[102,95,49]
noncomputable def s6.text(v:Bool)(s:s6):List Nat:=match v with|true=>s.word|false=>s.low
inductive Dt where
 |field|all|sy (s:Sy) |b|g
noncomputable def Dt.text(v:Bool):Dt->List Nat
 |.field=>match v with|true=>[46,70,105,101,108,100] |false=>[46,102,105,101,108,100]
 |.all=>[46,97,108,108]|.sy s=>[46,34]++s.text v++[34]|.b=>[46,39,66,39]|.g=>[46,103]
noncomputable def Dt.toks(v:Bool):Dt->List AV
 |.field=>[sZ,jY [102,105,101,108,100]]|.all=>[sZ,Hj [97,108,108]]|.sy s=>[sZ,wR (s.text v)]|.b=>[sZ,SL 66]|.g=>[sZ,jY [103]]
noncomputable def Dt.GT:Dt->List Nat
 |.field=>[102,105,101,108,100]|.all=>[]|.sy s=>s.quoted|.b=>[39,66,39]|.g=>[103]
noncomputable def Dt.put(t:AV):Dt->AV
 |.all=>.tup [.str [97,108,108],t]|d=>.tup [.str [115,101,108,101,99,116],t,.str d.GT]
inductive Bk where
 |one (p:Pt) (nm:Bool)|two (p q:Pt) (nm:Bool)
noncomputable def arr(v:Bool):List Nat:=match v with|true=>[78,32,61,62,32] |false=>[110,32,61,62,32]
noncomputable def cW(v:Bool)(p:Pt)(nm:Bool):List Nat:=match nm with|true=>arr v++p.text v|false=>p.text v
noncomputable def cX(p:Pt)(nm:Bool):List AV:=match nm with|true=>jY [110]::Co::p.toks|false=>p.toks
noncomputable def dB(p:Pt)(nm:Bool):AV:=match nm with|true=>.tup [.lst [wT [110]],p.tree] |false=>.tup [.none,p.tree]
noncomputable def Bk.nm:Bk->Bool
 |.one U nm=>nm|.two U bG nm=>nm
noncomputable def Bk.text(v:Bool):Bk->List Nat
 |.one p nm=>[40]++cW v p nm++[41]|.two p q nm=>[40]++(p.text v++[44,32]++cW v q nm)++[41]
noncomputable def Bk.toks:Bk->List AV
 |.one p nm=>im::(cX p nm++[cQ])|.two p q nm=>im::(p.toks++B8::(cX q nm++[cQ]))
noncomputable def Bk.rows:Bk->List AV
 |.one p nm=>[dB p nm]|.two p q nm=>[dB p false,dB q nm]
theorem Bk.O3(p:Pt)(nm:Bool):(Bk.one p nm).rows=[dB p nm]:=rfl
theorem Bk.O4(p q:Pt)(nm:Bool):(Bk.two p q nm).rows=[dB p false,dB q nm]:=rfl
noncomputable def Bk.cy:Bk->List AV
 |.one p U=>[p.tree]|.two p q U=>[p.tree,q.tree]
theorem Bk.Ja(p:Pt)(nm:Bool):(Bk.one p nm).cy=[p.tree]:=rfl
theorem Bk.Jb(p q:Pt)(nm:Bool):(Bk.two p q nm).cy=[p.tree,q.tree]:=rfl
inductive bO where
 |nm (n:s6)|sy (s:Sy) (p:Pt)|dt (t:bO) (d:Dt)|tick (t:bO) (a:At)|d4 (t:bO) (a:At) (b:Bk)|app (t:bO) (b:Bk)
noncomputable def fk(t:AV)(a:At)(rows:List AV):AV:=.tup [.str [116,105,99,107],t,.str a.low,.lst rows]
noncomputable def rm(t:AV)(rows:List AV):AV:=.tup [.str [97,112,112,108,121],t,.lst rows]
noncomputable def bO.av:bO->AV
 |.nm n=>wT n.low|.sy s p=>rm (wT s.quoted) [.tup [.none,p.tree]]|.dt t d=>d.put t.av|.tick t a=>fk t.av a []|.d4 t a b=>fk t.av a b.cy|.app t b=>rm t.av b.rows
theorem bO.Vf(t:bO)(d:Dt):(t.dt d).av=Dt.put t.av d:=rfl
theorem bO.Vg(t:bO)(a:At):(t.tick a).av=fk t.av a []:=rfl
theorem bO.Vh(t:bO)(a:At)(b:Bk):(t.d4 a b).av=fk t.av a b.cy:=rfl
theorem bO.Vi(t:bO)(b:Bk):(t.app b).av=rm t.av b.rows:=rfl
noncomputable def bO.text(v:Bool):bO->List Nat
 |.nm n=>n.text v|.sy s p=>[34]++s.text v++[34,40]++p.text v++[41]|.dt t d=>t.text v++d.text v|.tick t a=>t.text v++([39]++a.text v)|.d4 t a b=>t.text v++([39]++a.text v)++b.text v|.app t b=>t.text v++b.text v
theorem bO.AE(v:Bool)(s:Sy)(p:Pt):bO.text v (.sy s p)=[34]++s.text v++[34,40]++p.text v++[41]:=rfl
theorem bO.GU(v:Bool)(t:bO)(d:Dt):bO.text v (t.dt d)=bO.text v t++Dt.text v d:=rfl
theorem bO.GV(v:Bool)(t:bO)(a:At):bO.text v (t.tick a)=bO.text v t++([39]++At.text v a):=rfl
theorem bO.AF(v:Bool)(t:bO)(a:At)(b:Bk):bO.text v (t.d4 a b)=bO.text v t++([39]++At.text v a)++Bk.text v b:=rfl
theorem bO.GW(v:Bool)(t:bO)(b:Bk):bO.text v (t.app b)=bO.text v t++Bk.text v b:=rfl
noncomputable def bO.toks(v:Bool):bO->List AV
 |.nm n=>[jY n.low]|.sy s p=>wR (s.text v)::im::(p.toks++[cQ])|.dt t d=>t.toks v++d.toks v|.tick t a=>t.toks v++[ic,a.tok]|.d4 t a b=>t.toks v++ic::a.tok::b.toks|.app t b=>t.toks v++b.toks
theorem bO.O5(v:Bool)(n:s6):bO.toks v (.nm n)=[jY n.low]:=rfl
theorem bO.AG(v:Bool)(s:Sy)(p:Pt):bO.toks v (.sy s p)=wR (s.text v)::im::(p.toks++[cQ]):=rfl
theorem bO.vj(v:Bool)(t:bO)(d:Dt):bO.toks v (t.dt d)=bO.toks v t++Dt.toks v d:=rfl
theorem bO.oK(v:Bool)(t:bO)(a:At):bO.toks v (t.tick a)=bO.toks v t++[ic,a.tok]:=rfl
theorem bO.vk(v:Bool)(t:bO)(a:At)(b:Bk):bO.toks v (t.d4 a b)=bO.toks v t++ic::a.tok::b.toks:=rfl
theorem bO.vm(v:Bool)(t:bO)(b:Bk):bO.toks v (t.app b)=bO.toks v t++b.toks:=rfl
noncomputable def bO.isOpen:bO->Bool
 |.tick U a=>!a.mark|_=>false
noncomputable def bO.ok:bO->Prop
 |.nm U=>True|.sy U bG=>True|.dt t U=>t.ok|.tick t U=>t.ok|.d4 t a b=>t.ok/\a.mark=false/\b.nm=false|.app t b=>t.ok/\t.isOpen=false
noncomputable def bO.size:bO->Nat
 |.nm U=>1|.sy U bG=>2|.dt t U=>t.size+1|.tick t U=>t.size+1|.d4 t U bG=>t.size+1|.app t U=>t.size+1
noncomputable def Pt.mark:Pt->AV
 |.x=>.tup [.str [112,97,114,101,110],wT [120]]|.lg=>.tup [.str [112,97,114,101,110],.tup [.str [97,108,108],wT [121]]]|p=>p.tree
noncomputable def gk(t:AV)(p:Pt):AV:=.tup [.str [113,117,97,108],t,p.mark]
noncomputable def lL(v:Bool)(p:Pt):List Nat:=match v,p with
 |false,.z=>[39,40,122,41]|v,p=>[39,40]++p.text v++[41]
noncomputable def kK(v:Bool)(p:Pt):List AV:=match v,p with
 |false,.z=>[ic,im,jY [122],cQ]|U,p=>ic::im::(p.toks++[cQ])
noncomputable def Lb{Z:Type}(f:Bool->Z):Z×Z:=(f true,f false)
noncomputable def GX{Z:Type}(f:Bool->Z):Z×Z:=(f true,f false)
theorem nK{Z:Type}{f g:Bool->Z}(s:Bool)(h:Lb f=GX g):f s=g s:=match s with
 |true=>aY (fun x=>x.1) h|false=>aY (fun x=>x.2) h
noncomputable def Cq{Z:Type}(f:Pt->Z):Z×Z×Z×Z×Z×Z:=(f .x,f .j8,f .mod,f .lg,f .z,f .q)
noncomputable def tE{Z:Type}(f:Pt->Z):Z×Z×Z×Z×Z×Z:=(f .x,f .j8,f .mod,f .lg,f .z,f .q)
theorem qF{Z:Type}{f g:Pt->Z}(s:Pt)(h:Cq f=tE g):f s=g s:=match s with
 |.x=>aY (fun x=>x.1) h|.j8=>aY (fun x=>x.2.1) h|.mod=>aY (fun x=>x.2.2.1) h|.lg=>aY (fun x=>x.2.2.2.1) h|.z=>aY (fun x=>x.2.2.2.2.1) h|.q=>aY (fun x=>x.2.2.2.2.2) h
noncomputable def SQ{Z:Type}(f:Sy->Z):Z×Z×Z×Z×Z×Z×Z×Z:=(f .plus,f .and_,f .mod,f .ne,f .xor,f .abs,f .pow,f .not_)
noncomputable def Jc{Z:Type}(f:Sy->Z):Z×Z×Z×Z×Z×Z×Z×Z:=(f .plus,f .and_,f .mod,f .ne,f .xor,f .abs,f .pow,f .not_)
theorem Cr{Z:Type}{f g:Sy->Z}(s:Sy)(h:SQ f=Jc g):f s=g s:=match s with
 |.plus=>aY (fun x=>x.1) h|.and_=>aY (fun x=>x.2.1) h|.mod=>aY (fun x=>x.2.2.1) h|.ne=>aY (fun x=>x.2.2.2.1) h|.xor=>aY (fun x=>x.2.2.2.2.1) h|.abs=>aY (fun x=>x.2.2.2.2.2.1) h|.pow=>aY (fun x=>x.2.2.2.2.2.2.1) h|.not_=>aY (fun x=>x.2.2.2.2.2.2.2) h
noncomputable def Zv{Z:Type}(f:At->Z):Z×Z×Z×Z×Z×Z×Z×Z:=(f .first,f .range,f .pos,f .access,f .base,f .gd,f .delta,f .image)
noncomputable def Vj{Z:Type}(f:At->Z):Z×Z×Z×Z×Z×Z×Z×Z:=(f .first,f .range,f .pos,f .access,f .base,f .gd,f .delta,f .image)
theorem Jd{Z:Type}{f g:At->Z}(s:At)(h:Zv f=Vj g):f s=g s:=match s with
 |.first=>aY (fun x=>x.1) h|.range=>aY (fun x=>x.2.1) h|.pos=>aY (fun x=>x.2.2.1) h|.access=>aY (fun x=>x.2.2.2.1) h|.base=>aY (fun x=>x.2.2.2.2.1) h|.gd=>aY (fun x=>x.2.2.2.2.2.1) h|.delta=>aY (fun x=>x.2.2.2.2.2.2.1) h|.image=>aY (fun x=>x.2.2.2.2.2.2.2) h
noncomputable def Vk{Z:Type}(f:s6->Z):Z×Z×Z:=(f .a,f .tab,f .f1)
noncomputable def O6{Z:Type}(f:s6->Z):Z×Z×Z:=(f .a,f .tab,f .f1)
theorem Je{Z:Type}{f g:s6->Z}(s:s6)(h:Vk f=O6 g):f s=g s:=match s with
 |.a=>aY (fun x=>x.1) h|.tab=>aY (fun x=>x.2.1) h|.f1=>aY (fun x=>x.2.2) h
noncomputable def Zw{Z:Type}(f:Fin 2->Z):Z×Z:=(f ⟨0,by decide⟩,f ⟨1,by decide⟩)
noncomputable def Vl{Z:Type}(f:Fin 2->Z):Z×Z:=(f ⟨0,by decide⟩,f ⟨1,by decide⟩)
theorem D5{Z:Type}{f g:Fin 2->Z}(s:Fin 2)(h:Zw f=Vl g):f s=g s:=match s with
 |⟨0,U⟩=>aY (fun x=>x.1) h|⟨1,U⟩=>aY (fun x=>x.2) h
noncomputable def Zx{Z:Type}(f:Fin 3->Z):Z×Z×Z:=(f ⟨0,by decide⟩,f ⟨1,by decide⟩,f ⟨2,by decide⟩)
noncomputable def Vm{Z:Type}(f:Fin 3->Z):Z×Z×Z:=(f ⟨0,by decide⟩,f ⟨1,by decide⟩,f ⟨2,by decide⟩)
theorem Td{Z:Type}{f g:Fin 3->Z}(s:Fin 3)(h:Zx f=Vm g):f s=g s:=match s with
 |⟨0,U⟩=>aY (fun x=>x.1) h|⟨1,U⟩=>aY (fun x=>x.2.1) h|⟨2,U⟩=>aY (fun x=>x.2.2) h
noncomputable def Zy{Z:Type}(f:Fin 5->Z):Z×Z×Z×Z×Z:=(f ⟨0,by decide⟩,f ⟨1,by decide⟩,f ⟨2,by decide⟩,f ⟨3,by decide⟩,f ⟨4,by decide⟩)
noncomputable def Vn{Z:Type}(f:Fin 5->Z):Z×Z×Z×Z×Z:=(f ⟨0,by decide⟩,f ⟨1,by decide⟩,f ⟨2,by decide⟩,f ⟨3,by decide⟩,f ⟨4,by decide⟩)
theorem Zz{Z:Type}{f g:Fin 5->Z}(s:Fin 5)(h:Zy f=Vn g):f s=g s:=match s with
 |⟨0,U⟩=>aY (fun x=>x.1) h|⟨1,U⟩=>aY (fun x=>x.2.1) h|⟨2,U⟩=>aY (fun x=>x.2.2.1) h|⟨3,U⟩=>aY (fun x=>x.2.2.2.1) h|⟨4,U⟩=>aY (fun x=>x.2.2.2.2) h
noncomputable def g'{Z:Type}(f:Pt->Z):Z×Z×Z×Z×Z:=(f .x,f .j8,f .mod,f .lg,f .z)
noncomputable def Vo{Z:Type}(f:Pt->Z):Z×Z×Z×Z×Z:=(f .x,f .j8,f .mod,f .lg,f .z)
theorem Vp{Z:Type}{f g:Pt->Z}(s:Pt)(hs:s≠.q)(h:g' f=Vo g):f s=g s:=by
 cases s with
 |x=>exact aY (fun x=>x.1) h|j8=>exact aY (fun x=>x.2.1) h|mod=>exact aY (fun x=>x.2.2.1) h|lg=>exact aY (fun x=>x.2.2.2.1) h|z=>exact aY (fun x=>x.2.2.2.2) h|q=>exact aX rfl hs
theorem O7{Z:Type}{f g:Bk->Z}(b:Bk)(h1:Cq (fun p=>Lb fun m=>f (.one p m))=tE fun p=>GX fun m=>g (.one p m))(h2:Cq (fun p=>Cq fun q=>Lb fun m=>f (.two p q m))=tE fun p=>tE fun q=>GX fun m=>g (.two p q m)):f b=g b:=match b with
 |.one p m=>nK (f:=fun m=>f (.one p m)) m (qF (f:=fun p=>Lb fun m=>f (.one p m)) p h1)|.two p q m=>nK (f:=fun m=>f (.two p q m)) m (qF (f:=fun q=>Lb fun m=>f (.two p q m)) q (qF (f:=fun p=>Cq fun q=>Lb fun m=>f (.two p q m)) p h2))
theorem B'{Z:Type}{f g:Bk->Z}(b:Bk)(h:b.nm=false)(h1:Cq (fun p=>f (.one p false))=tE fun p=>g (.one p false))(h2:Cq (fun p=>Cq fun q=>f (.two p q false))=tE fun p=>tE fun q=>g (.two p q false)):f b=g b:=by
 cases b with
 |one p m=>cases h;exact qF (f:=fun p=>f (.one p false)) p h1|two p q m=>cases h;exact qF (f:=fun q=>f (.two p q false)) q (qF (f:=fun p=>Cq fun q=>f (.two p q false)) p h2)
theorem C'{Z:Type}{f g:Bk->Z}(b:Bk)(h:b.nm=true)(h1:Cq (fun p=>f (.one p true))=tE fun p=>g (.one p true))(h2:Cq (fun p=>Cq fun q=>f (.two p q true))=tE fun p=>tE fun q=>g (.two p q true)):f b=g b:=by
 cases b with
 |one p m=>cases h;exact qF (f:=fun p=>f (.one p true)) p h1|two p q m=>cases h;exact qF (f:=fun q=>f (.two p q true)) q (qF (f:=fun p=>Cq fun q=>f (.two p q true)) p h2)
theorem Vq{Z:Type}{f g:Dt->Z}(d:Dt)(h:(f .field,f .all,f .b,f .g)=(g .field,g .all,g .b,g .g))(h2:SQ (fun s=>f (.sy s))=Jc fun s=>g (.sy s)):f d=g d:=match d with
 |.field=>aY (fun x=>x.1) h|.all=>aY (fun x=>x.2.1) h|.sy s=>Cr (f:=fun s=>f (.sy s)) s h2|.b=>aY (fun x=>x.2.2.1) h|.g=>aY (fun x=>x.2.2.2) h
noncomputable def G'{Z:Type}(f:Fin 4->Z):Z×Z×Z×Z:=(f ⟨0,by decide⟩,f ⟨1,by decide⟩,f ⟨2,by decide⟩,f ⟨3,by decide⟩)
noncomputable def Vr{Z:Type}(f:Fin 4->Z):Z×Z×Z×Z:=(f ⟨0,by decide⟩,f ⟨1,by decide⟩,f ⟨2,by decide⟩,f ⟨3,by decide⟩)
theorem X3{Z:Type}{f g:Fin 4->Z}(s:Fin 4)(h:G' f=Vr g):f s=g s:=match s with
 |⟨0,U⟩=>aY (fun x=>x.1) h|⟨1,U⟩=>aY (fun x=>x.2.1) h|⟨2,U⟩=>aY (fun x=>x.2.2.1) h|⟨3,U⟩=>aY (fun x=>x.2.2.2) h
noncomputable def I'{Z:Type}(f:At->Z):Z×Z:=(f .base,f .gd)
noncomputable def Vt{Z:Type}(f:At->Z):Z×Z:=(f .base,f .gd)
theorem J'{Z:Type}{f g:At->Z}(s:At)(hs:s.mark=true)(h:I' f=Vt g):f s=g s:=by
 cases s with
 |base=>exact aY (fun x=>x.1) h|gd=>exact aY (fun x=>x.2) h|_=>exact eK hs
noncomputable def M'{Z:Type}(f:At->Z):Z×Z×Z×Z×Z×Z:=(f .first,f .range,f .pos,f .access,f .delta,f .image)
noncomputable def Vu{Z:Type}(f:At->Z):Z×Z×Z×Z×Z×Z:=(f .first,f .range,f .pos,f .access,f .delta,f .image)
theorem X4{Z:Type}{f g:At->Z}(s:At)(hs:s.mark=false)(h:M' f=Vu g):f s=g s:=by
 cases s with
 |first=>exact aY (fun x=>x.1) h
 |range=>exact aY (fun x=>x.2.1) h|pos=>exact aY (fun x=>x.2.2.1) h|access=>exact aY (fun x=>x.2.2.2.1) h|delta=>exact aY (fun x=>x.2.2.2.2.1) h|image=>exact aY (fun x=>x.2.2.2.2.2) h|_=>exact PG hs
noncomputable def Lc{Z:Type}(v:AV)(f:List AV->Option Z):Option Z:=match v with
 |.tup l=>f l|_=>none
theorem Cs{Z:Type}{v:AV}{f:List AV->Option Z}{r:Z}(h:Lc v f=some r):MG AV.tup f r v:=by cases v<;>first|exact ak h|exact⟨_,h⟩
noncomputable def GY(x y:AV):Option (List AV):=match x with
 |.none=>Lc y fun l=>some [.tup l]|.lst cs=>Lc y fun l=>some (cs++[.tup l])|.str s=>some [.tup [.str s,y]]|_=>none
noncomputable def rowOf(l:List AV):Option (List AV):=match l with
 |[]=>some [.tup []]|x::l=>match l with
  |[]=>some [.tup [x]]|y::l=>match l with
   |[]=>GY x y|z::l=>if l.length<=900 then some [.tup (x::y::z::l)]else none
noncomputable def iF(v:AV):Option (List AV):=Lc v rowOf
noncomputable def bW(f:AV->Option (List AV)):List AV->Option (List AV)
 |[]=>some []|a::l=>match f a,bW f l with
  |some x,some y=>some (x++y)|U,bG=>none
theorem uD:∀(f:AV->Option (List AV)),bW f []=some []:=by intros;rfl
theorem gH:∀(f:AV->Option (List AV))(z:AV)(X5:List AV),
 bW f (z::X5) =
  match f z,bW f X5 with
  |some x,some y=>some (x++y)|x,c=>none:=by intros;rfl
noncomputable def eu:AV->Option (List AV)
 |.tup l=>some [.tup l]|.lst l=>bW iF l|_=>some []
noncomputable def kids:AV->Option (List AV)
 |.tup (U::ps)=>bW eu ps|_=>none
theorem oc{α Z:Type}{o:aD α}{f:α->aC->aD Z}{x:α}{c:aC}(e:o = .ok x c):o.fm.bind f=f x c:=by rw[e];rfl
theorem jZ{t:lM}{b:Loc->aC->aD Fl}{v:AV}{l:List AV}{J Ld O8:Loc}{c c':aC}(h:br J t v=some Ld)(h2:b Ld c = .ok (.nx O8) c'):hY t b (v::l) J c=hY t b l O8 c':=by
 (refine .trans (mE ..)<|?_;rw[h])
 dsimp only;exact(oc h2 ..)
section
variable{W:dP}{c:aC}
theorem vn{N:Nat}{x:Cell}(h:N=c.length):(c++[x])[N]?=some x:=by
 subst h;simp
theorem qG{N:Nat}{x y:Cell}(h:N=c.length):(c++[x]).set N y=c++[y]:=by
 subst h
 (refine .trans (List.set_append_right _ _ (b5 _) ..)<|?_;rw[Nat.sub_self]);rfl
noncomputable def yI:List Sx:=[.ite (.and_ [.cmp .eq (.bi .len [.loc 3]) (.int 2),.val (.bi .isTup [.sub (.loc 3) (.int 1)]),.or_ [.cmp .is (.sub (.loc 3) (.int 0)) .none,.val (.bi .isList [.sub (.loc 3) (.int 0)])]])
 [.ext 1 (.bin .add (.or_ (.sub (.loc 3) (.int 0)) (.lst [])) (.lst [.sub (.loc 3) (.int 1)]))] [.app 1 (.loc 3)]]
noncomputable def uE:List Sx:=[.ite (.val (.bi .isTup [.loc 2])) [.app 1 (.loc 2)] [.ite (.val (.bi .isList [.loc 2])) [.i6 (.one 3) (.it (.loc 2)) yI] []]]
theorem GZ:jM=[.dn 1 (.lst []),.i6 (.one 2) (.it (.jH (.loc 0) (.int 1) .none)) uE,.ret (.loc 1)]:=rfl
theorem O9{J:Loc}{N x:Nat}{acc:List AV}{v:AV}(hN:N=c.length)(h1:J[1]?=some (some (.ref N)))(hx:J[x]?=some (some v))(hv:aH 0 v=true)(hs:acc.length<=1000) :
  ex W 5000 (.app 1 (.loc x)) J (c++[.list acc]) = .ok (.nx J) (c++[.list (acc++[v])]):=by
 have d:gh (c++[.list acc]) (.ref N)=some (N,acc):=by unfold gh;dsimp only;rw[vn hN]
 have u:upd wf (c++[.list acc]) (.ref N) v=some (c++[.list (acc++[v])]):=by
  unfold upd;rw[d];dsimp only;unfold wf;rw[aO (by rw[bR];omega),Option.map_some,qG hN]
 have l1:ev W J (.loc 1) (c++[.list acc]) = .ok (.ref N) (c++[.list acc]):=by(refine .trans (cM ..)<|?_;rw[h1])
 have l2:ev W J (.loc x) (c++[.list acc]) = .ok v (c++[.list acc]):=by(refine .trans (cM ..)<|?_;rw[hx])
 refine .trans (MO ..)<|?_
 simp only[l1,l2,aD.bind,d,cJ hv,u]
noncomputable def rn:Cd:=.and_ [.cmp .eq (.bi .len [.loc 3]) (.int 2),.val (.bi .isTup [.sub (.loc 3) (.int 1)]),.or_ [.cmp .is (.sub (.loc 3) (.int 0)) .none,.val (.bi .isList [.sub (.loc 3) (.int 0)])]]
noncomputable def yJ:Ex:=.bin .add (.or_ (.sub (.loc 3) (.int 0)) (.lst [])) (.lst [.sub (.loc 3) (.int 1)])
theorem B9:yI=[.ite rn [.ext 1 yJ] [.app 1 (.loc 3)]]:=rfl
section
variable{J:Loc}{C:aC}{one x y:AV}
theorem vp(h3:J[3]?=some (some one)):ev W J (.loc 3) C = .ok one C:=by(refine .trans (cM ..)<|?_;rw[h3])
theorem G0(i:Int):ev W J (.int i) C = .ok (.int i) C:=by exact(mB ..)
theorem Le{e:Ex}{v:AV}(h:ev W J e C = .ok v C):eV W J [e] C = .ok [v] C:=by refine .trans (bY ..)<|.trans (ob h ..)<|.trans (dc (cI ..))<|?_;rfl
theorem Oa{b:wX}{e:Ex}{v r:AV}(h:ev W J e C = .ok v C)(h2:builtin C b [v]=some r):ev W J (.bi b [e]) C = .ok r C:=by
 refine .trans (kn ..)<|.trans (dc (Le h ..))<|?_;show bp C (builtin C b [v])=_;rw[h2];rfl
theorem Lf{e:Ex}{b:Bool}(h:ev W J e C = .ok (.bool b) C):eS W J (.val e) C = .ok b C:=by refine .trans (tK ..)<|.trans (dc (h ..))<|?_;rfl
theorem G1(h3:J[3]?=some (some (.tup [x,y]))):ev W J (.sub (.loc 3) (.int 0)) C = .ok x C:=by refine .trans (j2 ..)<|.trans (ob (vp h3) ..)<|.trans (ob (G0 _) ..)<|?_;rfl
theorem Lg(h3:J[3]?=some (some (.tup [x,y]))):ev W J (.sub (.loc 3) (.int 1)) C = .ok y C:=by refine .trans (j2 ..)<|.trans (ob (vp h3) ..)<|.trans (ob (G0 _) ..)<|?_;rfl
theorem Lh{l:List AV}(h3:J[3]?=some (some (.tup l)))(hl:l.length<=1000):eS W J (.cmp .eq (.bi .len [.loc 3]) (.int 2)) C = .ok ((l.length:Int)==2) C:=by
 have:=Oa (b:=.len) (r:=.int l.length) (vp (W:=W) (C:=C) h3) (by show(if l.length<=aJ then some (AV.int l.length) else none)=_;exact(aO (by rw[bR];omega) ..))
 refine .trans (fS ..)<|.trans (ob this ..)<|.trans (ob (G0 _) ..)<|?_;rfl
theorem Li{a:Cd}{l:List Cd}{b:Bool}(h:eS W J a C = .ok true C)(hl:hV W J l C = .ok b C):hV W J (a::l) C = .ok b C:=by
 refine .trans (n8 ..)<|.trans (dc (h ..))<|?_;exact hl
theorem Lj{a:Cd}{l:List Cd}(h:eS W J a C = .ok false C):hV W J (a::l) C = .ok false C:=by
 refine .trans (n8 ..)<|.trans (dc (h ..))<|?_;rfl
theorem Vv{a b:Cd}{v w:Bool}(h:eS W J a C = .ok v C)(hb:eS W J b C = .ok w C):eS W J (.or_ [a,b]) C = .ok (v||w) C:=by
 refine .trans (Ae ..)<|.trans (n7 ..)<|.trans (dc (h ..))<|?_
 cases v with
 |true=>rfl|false=>
  show anyC W J [b] C=_;refine .trans (n7 ..)<|.trans (dc (hb ..))<|?_
  cases w with
  |true=>rfl|false=>show anyC W J [] C=_;refine .trans (u4 ..)<|?_;rfl
theorem SR{b:Bool}(h3:J[3]?=some (some (.tup [x,y])))(hx:aH 0 x=true)(hb:isNone x=some b):eS W J (.cmp .is (.sub (.loc 3) (.int 0)) .none) C = .ok b C:=by
 refine .trans (fS ..)<|.trans (ob (G1 h3) ..)<|.trans (ob (show ev W J .none C = .ok .none C by rw[s8]) ..)<|?_
 show bp C (dz .is (c7 C x) (c7 C .none))=_;rw[cn hx];show bp C (isNone x)=_;rw[hb];rfl
theorem Cu(h:aH 0 y=true):∃b,iN y=some (.bool b):=by
 cases y with
 |ref i=>exact aX rfl (fe h i)|tup l=>exact⟨true,rfl⟩|_=>exact⟨false,rfl⟩
theorem SS{b:Bool}(h3:J[3]?=some (some (.tup [x,y])))(hy:aH 0 y=true)(hb:iN y=some (.bool b)):eS W J (.val (.bi .isTup [.sub (.loc 3) (.int 1)])) C = .ok b C:=by
 refine Lf (Oa (Lg h3) ?_);show iN (c7 C y)=_;rw[cn hy,hb]
theorem SU{b:Bool}(h3:J[3]?=some (some (.tup [x,y])))(hx:aH 0 x=true)(hb:hM x=some (.bool b)):eS W J (.val (.bi .isList [.sub (.loc 3) (.int 0)])) C = .ok b C:=by
 refine Lf (Oa (G1 h3) ?_);show hM (c7 C x)=_;rw[cn hx,hb]
theorem G2{b1 b2 b3:Bool}(h3:J[3]?=some (some (.tup [x,y])))(hx:aH 0 x=true)(hy:aH 0 y=true)(h1:iN y=some (.bool b1))(h2:isNone x=some b2)(h4:hM x=some (.bool b3)):eS W J rn C = .ok (b1&&(b2||b3)) C:=by
 unfold rn;refine .trans (Ad ..)<|?_
 refine Li (Lh h3 (g7 rfl)) ?_;have q:=SS (W:=W) (C:=C) h3 hy h1;have p:=Vv (SR (W:=W) (C:=C) h3 hx h2) (SU h3 hx h4);cases b1 with
 |false=>exact Lj q|true=>
  refine Li q ?_;refine .trans (n8 ..)<|.trans (dc (p ..))<|?_
  cases(b2||b3) with
  |false=>rfl|true=>show hV W J [] C=_;refine .trans (qO ..)<|?_;rfl
theorem G3{l:List AV}(h3:J[3]?=some (some (.tup l)))(hl:l.length<=1000)(hn:((l.length:Int)==2)=false):eS W J rn C = .ok false C:=by
 unfold rn;refine .trans (Ad ..)<|?_
 refine Lj ?_;have:=Lh (W:=W) (C:=C) h3 hl;rw[hn]at this;exact this
theorem Lk{cs l:List AV}{v:AV}(h3:J[3]?=some (some (.tup [x,.tup l])))(hv:truthy C x=some (!cs.isEmpty))(hx:cs=[]\/x = .lst cs)(hl:cs.length<=1000):ev W J yJ C = .ok (.lst (cs++[.tup l])) C:=by
 have q1:ev W J (.or_ (.sub (.loc 3) (.int 0)) (.lst [])) C = .ok (.lst cs) C:=by
  refine .trans (Af ..)<|.trans (dc (G1 h3 ..))<|?_
  show(match truthy C x with|some true=>_|some false=>_|none=>_:aD AV)=_
  rw[hv];cases cs with
  |nil=>show ev W J (.lst []) C=_;refine .trans (mC ..)<|.trans (dc (cI ..))<|?_;rfl|cons a r=>
   rcases hx with hx|hx
   ·cases hx
   ·rw[hx];rfl
 have q2:ev W J (.lst [.sub (.loc 3) (.int 1)]) C = .ok (.lst [.tup l]) C:=by refine .trans (mC ..)<|.trans (dc (Le (Lg h3) ..))<|?_;rfl
 unfold yJ;refine .trans (n9 ..)<|.trans (ob q1 ..)<|.trans (ob q2 ..)<|?_
 show bp C (if cs.length+1<=aJ then some (AV.lst (cs++[.tup l])) else none)=_;rw[aO (by rw[bR];omega)];rfl
end
section
variable{J:Loc}{N:Nat}{acc:List AV}{one x y:AV}
theorem Ba(hN:N=c.length)(h1:J[1]?=some (some (.ref N)))(h3:J[3]?=some (some one))(hc:aH 0 one=true)(hs:acc.length+[one].length<=1000)(ht:eS W J rn (c++[.list acc]) = .ok false (c++[.list acc])):dR W 5000 yI J (c++[.list acc]) = .ok (.nx J) (c++[.list (acc++[one])]):=by
 rw[B9,bw,ce ht,aV (by decide),bw]
 exact O9 hN h1 h3 hc (dw hs)
theorem G4{ks:List AV}(hN:N=c.length)(h1:J[1]?=some (some (.ref N)))(hs:acc.length+ks.length<=1000)(ht:eS W J rn (c++[.list acc]) = .ok true (c++[.list acc]))(he:ev W J yJ (c++[.list acc]) = .ok (.lst ks) (c++[.list acc])):dR W 5000 yI J (c++[.list acc]) = .ok (.nx J) (c++[.list (acc++ks)]):=by
 have d:gh (c++[.list acc]) (.ref N)=some (N,acc):=by unfold gh;dsimp only;rw[vn hN]
 have u:upd yu (c++[.list acc]) (.ref N) (.lst ks)=some (c++[.list (acc++ks)]):=by
  unfold upd;rw[d];dsimp only;unfold yu;dsimp only;rw[aO (by rw[bR];omega),Option.map_some,qG hN]
 rw[B9,bw,ce ht,aO rfl,bw,QB];have e1:ev W J (.loc 1) (c++[.list acc]) = .ok (.ref N) (c++[.list acc]):=by(refine .trans (cM ..)<|?_;rw[h1])
 refine .trans (ob e1 ..)<|?_
 rw[d];show((ev W J yJ (c++[.list acc])).bind _:aD Fl)=_;refine .trans (ob he ..)<|?_
 show(match upd yu (c++[.list acc]) (.ref N) (.lst ks) with|some c=>_|none=>_:aD Fl)=_
 rw[u]
theorem SV{ks:List AV}(hN:N=c.length)(h1:J[1]?=some (some (.ref N)))(h3:J[3]?=some (some one))(hc:aH 0 one=true)(hk:iF one=some ks)(hs:acc.length+ks.length<=1000) :
  dR W 5000 yI J (c++[.list acc]) = .ok (.nx J) (c++[.list (acc++ks)]):=by
 induction Cs hk with|mk l hk=>?_;have short:ks=[.tup l]->l.length<=1000->((l.length:Int)==2)=false->dR W 5000 yI J (c++[.list acc]) = .ok (.nx J) (c++[.list (acc++ks)]):=by
  rintro rfl hl hn;exact Ba hN h1 h3 hc hs (G3 h3 hl hn)
 cases l with
 |nil=>obtain rfl:=bE hk;exact short rfl (Nat.zero_le _) rfl
 |cons x l=>
  cases l with
  |nil=>obtain rfl:=bE hk;exact short rfl (g7 rfl) rfl
  |cons y l=>
   cases l with
   |cons z l=>
    induction fg hk with|mk hl=>?_;refine short rfl (by simp only[List.length_cons];omega) ?_
    simp only[List.length_cons,beq_eq_false_iff_ne];omega
   |nil=>
    clear short;rw[bv,ae]at hc;have Vw:=hc x d8;have Te:=hc y (dO _ d8);cases x with
    |none=>
     induction Cs (show Lc y (fun l=>some [AV.tup l])=some ks from hk) with|mk l hk=>?_;obtain rfl:=bE hk
     exact G4 hN h1 hs (G2 h3 Vw Te rfl rfl rfl) (Lk (cs:=[]) (v:=.none) h3 rfl (.inl rfl) (Nat.zero_le _))
    |lst cs=>
     induction Cs (show Lc y (fun l=>some (cs++[AV.tup l]))=some ks from hk) with|mk l hk=>?_;obtain rfl:=bE hk
     have hl:cs.length<=1000:=by rw[cB]at hs;omega
     exact G4 hN h1 hs (G2 h3 Vw Te rfl rfl rfl) (Lk (v:=.none) h3 (by show(if cs.length<=aJ then some (!cs.isEmpty) else none)=_;exact(aO (by rw[bR];omega) ..)) (.inr rfl) hl)
    |str s=>
     obtain rfl:=bE hk;obtain⟨b,hb⟩:=Cu Te;refine Ba hN h1 h3 (by(refine .trans (bv ..)<|?_;rw[ae]);exact hc) hs ?_
     have:=G2 (W:=W) (C:=c++[.list acc]) h3 Vw Te hb rfl rfl
     (refine .trans (this ..)<|?_;rw[Bool.or_false,Bool.and_false])
    |_=>exact ak hk
end
inductive SW(o p:Option (List AV)):List AV->Prop
 |mk (x y:List AV) (e1:o=some x) (e2:p=some y):SW o p (x++y)
theorem gr{f:AV->Option (List AV)}{a:AV}{l ks:List AV}(h:bW f (a::l)=some ks):SW (f a) (bW f l) ks:=by
 rw[gH]at h;cases e1:f a with
 |none=>rw[e1]at h;exact ak h|some x=>cases e2:bW f l with
  |none=>rw[e1,e2]at h;exact ak h|some y=>rw[e1,e2]at h;obtain rfl:=bE h;exact⟨x,y,rfl,rfl⟩
noncomputable def Jf(N:Nat)(J:Loc):Prop:=J.length=4/\J[1]?=some (some (.ref N))
theorem Jf.set{N x:Nat}{J:Loc}{v:AV}(h:Jf N J)(hx:x≠1):Jf N (J.set x (some v)):=by
 refine⟨by refine .trans (List.length_set ..)<|?_;exact h.1,?_⟩
 refine .trans (g8 hx ..)<|?_;exact h.2
theorem Bb{N:Nat}(hN:N=c.length):∀(l:List AV)(J:Loc)(acc ks:List AV),(∀v∈l,aH 0 v=true)->bW iF l=some ks->acc.length+ks.length<=1000->Jf N J->
  ∃aE,hY (.one 3) (fun J c=>dR W 5000 yI J c) l J (c++[.list acc]) = .ok (.nx aE) (c++[.list (acc++ks)])/\Jf N aE
 |[],J,acc,ks,U,hk,bG,hF=>by
  obtain rfl:=bE hk;exact⟨J,by(refine .trans (mD ..)<|?_;rw[List.append_nil]),hF⟩
 |a::l,J,acc,ks,hc,hk,hs,hF=>by
  induction gr hk with|mk x y e1 e2=>?_;rw[cB]at hs
  have PR:=hF.set (v:=a) (x:=3) (by decide)
  have h3:(J.set 3 (some a))[3]?=some (some a):=List.getElem?_set_self (by rw[hF.1];decide)
  have step:=SV (W:=W) (acc:=acc) hN PR.2 h3 (hc a d8) e1 (by omega)
  have hlen:(acc++x).length+y.length<=1000:=by rw[cB];omega
  refine au (Bb hN l (J.set 3 (some a)) (acc++x) y (fun v hv=>hc v (dO _ hv)) e2 hlen PR) fun aE q1 q2=>?_;refine⟨aE,?_,q2⟩
  (refine .trans (jZ (b:=fun J c=>dR W 5000 yI J c) (Ld:=J.set 3 (some a)) rfl step ..)<|.trans (q1 ..)<|?_;rw[b9])
theorem Ob{N:Nat}(hN:N=c.length){J:Loc}{acc ks:List AV}{part:AV}(hF:Jf N J)(h2:J[2]?=some (some part))(hc:aH 0 part=true)(hk:eu part=some ks)(hs:acc.length+ks.length<=1000) :
  ∃aE,dR W 5000 uE J (c++[.list acc]) = .ok (.nx aE) (c++[.list (acc++ks)])/\Jf N aE:=by
 have e2:∀C,ev W J (.loc 2) C = .ok part C:=fun C=>by(refine .trans (cM ..)<|?_;rw[h2])
 have t1:∀b v,builtin (c++[.list acc]) b [part]=some (.bool v)->eS W J (.val (.bi b [.loc 2])) (c++[.list acc]) = .ok v (c++[.list acc]):=by
  intro b v h;have e1:eV W J [.loc 2] (c++[.list acc]) = .ok [part] (c++[.list acc]):=by refine .trans (bY ..)<|.trans (ob (e2 _) ..)<|.trans (dc (cI ..))<|?_;rfl
  have:ev W J (.bi b [.loc 2]) (c++[.list acc]) = .ok (.bool v) (c++[.list acc]):=by(refine .trans (kn ..)<|.trans (ob e1 ..)<|?_;rw[h]);rfl
  refine .trans (tK ..)<|.trans (ob this ..)<|?_;rfl
 unfold uE;rw[bw];cases part with
 |tup l=>
  obtain rfl:=bE hk;rw[ce (t1 .isTup true rfl),aO rfl,bw];exact⟨J,O9 hN hF.2 h2 hc (by omega),hF⟩
 |lst l=>
  rw[ce (t1 .isTup false rfl),aV (by decide),bw,ce (t1 .isList true rfl),aO rfl,bw]
  rw[bP,ae]at hc;refine au (Bb (W:=W) hN l J acc ks hc hk hs hF) fun aE q1 q2=>?_;refine⟨aE,?_,q2⟩;have es:dh W J (.it (.loc 2)) (c++[.list acc]) = .ok l (c++[.list acc]):=by
   refine .trans (kU ..)<|.trans (ob (e2 _) ..)<|?_;rfl
  refine .trans (qP ..)<|.trans (ob es ..)<|?_
  exact q1
 |ref i=>exact aX rfl (fe hc i)|_=>
  obtain rfl:=bE hk;refine⟨J,?_,hF⟩
  (refine .trans (ce (t1 .isTup false rfl) ..)<|?_;rw[aV (by decide),bw,ce (t1 .isList false rfl),aV (by decide),iO,List.append_nil])
theorem Bc{N:Nat}(hN:N=c.length):∀(l:List AV)(J:Loc)(acc ks:List AV),(∀v∈l,aH 0 v=true)->bW eu l=some ks->acc.length+ks.length<=1000->Jf N J->
  ∃aE,hY (.one 2) (fun J c=>dR W 5000 uE J c) l J (c++[.list acc]) = .ok (.nx aE) (c++[.list (acc++ks)])/\Jf N aE
 |[],J,acc,ks,U,hk,bG,hF=>by
  obtain rfl:=bE hk;exact⟨J,by(refine .trans (mD ..)<|?_;rw[List.append_nil]),hF⟩
 |a::l,J,acc,ks,hc,hk,hs,hF=>by
  induction gr hk with|mk x y e1 e2=>?_;rw[cB]at hs
  have PR:=hF.set (v:=a) (x:=2) (by decide)
  have h3:(J.set 2 (some a))[2]?=some (some a):=List.getElem?_set_self (by rw[hF.1];decide)
  refine au (Ob (W:=W) (acc:=acc) hN PR h3 (hc a d8) e1 (by omega)) fun Ld step U'=>?_
  have hlen:(acc++x).length+y.length<=1000:=by rw[cB];omega
  refine au (Bc hN l Ld (acc++x) y (fun v hv=>hc v (dO _ hv)) e2 hlen U') fun aE q1 q2=>?_;refine⟨aE,?_,q2⟩
  (refine .trans (jZ (b:=fun J c=>dR W 5000 uE J c) (Ld:=J.set 2 (some a)) rfl step ..)<|.trans (q1 ..)<|?_;rw[b9])
end
theorem ie{f:AV->Option (List AV)}(hf:∀a x,aH 0 a=true->f a=some x->∀v∈x,aH 0 v=true):∀{l ks:List AV},(∀v∈l,aH 0 v=true)->bW f l=some ks->∀v∈ks,aH 0 v=true
 |[],ks,U,h,v,hv=>by obtain rfl:=bE h;cases hv
 |a::l,ks,hc,h,v,hv=>by
  induction gr h with|mk x y e1 e2=>?_;rcases List.mem_append.mp hv with q|q
  ·exact hf a x (hc a d8) e1 v q
  ·exact ie hf (fun w hw=>hc w (dO _ hw)) e2 v q
theorem gx{a:AV}(ha:aH 0 a=true):∀v∈[a],aH 0 v=true:=fun v hv=>by rw[List.mem_singleton.mp hv];exact ha
theorem vq{x y:AV}{ks:List AV}(ha:aH 0 (.tup [x,y])=true)(h:GY x y=some ks):∀v∈ks,aH 0 v=true:=by
 have hc:=ha;rw[bv,ae]at hc;have hx:=hc x d8;have hy:=hc y (dO _ d8);cases x with
 |none=>
  induction Cs (show Lc y (fun l=>some [AV.tup l])=some ks from h) with|mk l h=>?_;obtain rfl:=bE h;exact gx hy
 |lst cs=>
  induction Cs (show Lc y (fun l=>some (cs++[AV.tup l]))=some ks from h) with|mk l h=>?_;obtain rfl:=bE h
  rw[bP,ae]at hx;exact fun v hv=>(List.mem_append.mp hv).elim (hx v) (gx hy v)
 |str s=>obtain rfl:=bE h;exact gx ha
 |_=>exact ak h
theorem vt{a:AV}{x:List AV}(ha:aH 0 a=true)(h:iF a=some x):∀v∈x,aH 0 v=true:=by
 induction Cs h with|mk l h=>?_;cases l with
 |nil=>obtain rfl:=bE h;exact gx ha
 |cons a l=>
  cases l with
  |nil=>obtain rfl:=bE h;exact gx ha
  |cons b l=>
   cases l with
   |nil=>exact vq ha h|cons c l=>induction fg h with|mk _=>?_;exact gx ha
theorem tF{a:AV}{x:List AV}(ha:aH 0 a=true)(h:eu a=some x):∀v∈x,aH 0 v=true:=by
 cases a with
 |tup l=>
  obtain rfl:=bE h;intro v hv;rw[List.mem_singleton]at hv;subst hv;exact ha
 |lst l=>
  rw[bP,ae]at ha;exact ie (fun a x=>vt) ha h
 |_=>obtain rfl:=bE h;intro v hv;cases hv
inductive Ll(ks:List AV):AV->Prop
 |mk (a:AV) (ps:List AV) (h:bW eu ps=some ks):Ll ks (.tup (a::ps))
theorem G5{t:AV}{ks:List AV}(h:kids t=some ks):Ll ks t:=by
 cases t with
 |tup l=>cases l with
  |nil=>exact ak h|cons a ps=>exact⟨a,ps,h⟩
 |_=>exact ak h
theorem ro{a:AV}{x:List AV}(ha:aH 0 a=true)(h:kids a=some x):∀v∈x,aH 0 v=true:=by
 induction G5 h with|mk a ps h=>?_;rw[bv,ae]at ha
 exact ie (fun a x=>tF) (fun v hv=>ha v (dO _ hv)) h
theorem tG{gl:Nat->AV}{ini:Fn}{m:Nat}{t:AV}{ks:List AV}{c:aC}(ht:aH 0 t=true)(hk:kids t=some ks)(hs:ks.length<=1000)(hc:cl c)(hl:∀l,t = .tup l->l.length<=1000):bL fns ini gl 5000 (m+1) 10 [t] c = .ok (.lst ks) c:=by
 induction G5 hk with|mk h ps hk=>?_
 (refine .trans (kW ..)<|?_;rw[sw])
 dsimp only;unfold d3;generalize({call:=bL fns ini gl 5000 m,make:=_,gl:=gl}:dP)=W;have e:dR W 5000 dF.body ([AV.tup (h::ps)].map some++List.replicate (dF.nl-dF.np) none) c = .ok (.rt (.lst ks)) (c++[.dead ks]):=by
  show dR W 5000 jM [some (.tup (h::ps)),none,none,none] c=_;rw[GZ];have s1:ex W 5000 (.dn 1 (.lst [])) [some (.tup (h::ps)),none,none,none] c = .ok (.nx [some (.tup (h::ps)),some (.ref c.length),none,none]) (c++[.list []]):=by
   have q:ev W [some (.tup (h::ps)),none,none,none] (.lst []) c = .ok (.lst []) c:=by refine .trans (mC ..)<|.trans (dc (cI ..))<|?_;rfl
   have:ex W 5000 (.dn 1 (.lst [])) [some (.tup (h::ps)),none,none,none] c=(ev W [some (.tup (h::ps)),none,none,none] (.lst []) c).bind fun v c=>match v with
     |.lst l=>.ok (.nx ([some (.tup (h::ps)),none,none,none].set 1 (some (.ref c.length)))) (c++[.list l])|_=>.fail:=by
    rw[Dp];all_goals first|rfl| (intro _ _ q;cases q)
   refine .trans (this ..)<|.trans (dc (q ..))<|?_;rfl
  refine .trans (bM s1 ..)<|?_
  have hp:∀v∈ps,aH 0 v=true:=by
   rw[bv,ae]at ht;exact fun v hv=>ht v (dO _ hv)
  refine au (Bc (W:=W) (c:=c) (N:=c.length) rfl ps [some (.tup (h::ps)),some (.ref c.length),none,none] [] ks hp hk (by simpa using hs) ⟨rfl,rfl⟩) fun aE q1 q2=>?_
  have s2:ex W 5000 (.i6 (.one 2) (.it (.jH (.loc 0) (.int 1) .none)) uE) [some (.tup (h::ps)),some (.ref c.length),none,none] (c++[.list []]) = .ok (.nx aE) (c++[.list ks]):=by
   have e0:∀C,ev W [some (.tup (h::ps)),some (.ref c.length),none,none] (.loc 0) C = .ok (.tup (h::ps)) C:=fun C=>by refine .trans (cM ..)<|?_;rfl
   have e1:∀C i,ev W [some (.tup (h::ps)),some (.ref c.length),none,none] (.int i) C = .ok (.int i) C:=fun C i=>by exact(mB ..)
   have e2:∀C,ev W [some (.tup (h::ps)),some (.ref c.length),none,none] .none C = .ok .none C:=fun C=>by exact(s8 ..)
   have e3:∀C,ev W [some (.tup (h::ps)),some (.ref c.length),none,none] (.jH (.loc 0) (.int 1) .none) C = .ok (.tup ps) C:=fun C=>by
    refine .trans (w8 ..)<|.trans (ob (e0 _) ..)<|.trans (ob (e1 _ _) ..)<|.trans (ob (e2 _) ..)<|?_
    show bp C (if(h::ps).length<=aJ then(Hn (h::ps) (some 1) none).map AV.tup else none)=_;rw[aO (by have:=hl _ rfl;rw[bR];omega)]
    unfold Hn;dsimp only;rw[aO ⟨Int.le_refl 1,by simp only[List.length_cons];omega⟩]
    rfl
   have es:dh W [some (.tup (h::ps)),some (.ref c.length),none,none] (.it (.jH (.loc 0) (.int 1) .none)) (c++[.list []]) = .ok ps (c++[.list []]):=by
    refine .trans (kU ..)<|.trans (ob (e3 _) ..)<|?_;rfl
   refine .trans (qP ..)<|.trans (ob es ..)<|?_
   have:=q1;rw[List.nil_append]at this;exact this
  (refine .trans (bM s2 ..)<|.trans (bw ..)<|.trans (mF ..)<|.trans (dc (cM ..))<|?_;rw[q2.2])
  show(match(aD.ok (AV.ref c.length) (c++[Cell.list ks])) with|_=>_:aD Fl)=_
  show((fz (c++[Cell.list ks]) (.ref c.length)).bind fun v c=>aD.ok (Fl.rt v) c)=_;have:fz (c++[Cell.list ks]) (.ref c.length) = .ok (.lst ks) (c++[.dead ks]):=by
   unfold fz;dsimp only;rw[vn rfl];dsimp only;rw[qG rfl]
  refine .trans (dc (this ..))<|?_;rfl
 have Tc:aH 0 (.lst ks)=true:=by
  (refine .trans (bP ..)<|?_;rw[ae])
  exact ro ht (a:=.tup (h::ps)) (by unfold kids;exact hk)
 show(if 1=1 then(match dR W 5000 dF.body ([AV.tup (h::ps)].map some++List.replicate (dF.nl-dF.np) none) c with
  |.ok (.rt v) c'=>back c.length v c' fun c=>.ok v c|.ok (.nx U) c'=>back c.length .none c' fun c=>.ok .none c|.ok (.bk U) bG=>.fail|.exc U c'=>back c.length .none c' fun c=>.exc false c|.fail=>.fail) else .fail)=_
 (refine .trans (aO rfl ..)<|?_;rw[e])
 dsimp only;unfold back;rw[gC _ Tc,List.take_left,Bool.true_and,aO];rw[List.all_eq_true];exact fun x hx=>bN _ (gD.mp hc x hx)
noncomputable def eg(a:AV):Option (List AV):=match a with
 |.tup l=>if l.length<=1000 then(match kids a with
  |some ks=>if ks.length<=1000 then some ks else none|none=>none) else none
 |_=>none
noncomputable def Hk:Nat->List AV->Bool
 |0,U=>false|n+1,l=>match bW eg l with
  |some l'=>decide (l'.length<=1000)&&plain aw (.lst l')&&(l'.isEmpty||Hk n l')|none=>false
theorem G6 x n :
 Hk n.succ x =
  match bW eg x with
  |some l'=>decide (l'.length<=1000)&&plain aw (AV.lst l')&&(l'.isEmpty||Hk n l')|none=>false:=rfl
inductive Vx(n:Nat)(l:List AV):Prop
 |mk (l':List AV) (hk:bW eg l=some l') (hs:l'.length<=1000) (hp:plain aw (.lst l')=true) (hr:l'.isEmpty=true\/Hk n l'=true)
theorem Lm{n:Nat}(h:Hk (n+1) l=true):Vx n l:=by
 rw[G6]at h;refine i5 (bW eg l) (fun l' e=>?_) (fun e=>?_)
 ·
  rw[e]at h;simp only[be,decide_eq_true_eq,Bool.or_eq_true]at h;exact⟨l',e,h.1.1,h.1.2,h.2⟩
 ·rw[e]at h;exact eK h
noncomputable def wU(t:AV):Bool:=Hk 60 [t]
theorem G7{m:Nat}(ha:aH 0 a=true)(h:eg a=some ks)(hc:cl c):bL fns ini gl 5000 (m+1) 10 [a] c = .ok (.lst ks) c/\∀v∈ks,aH 0 v=true:=by
 cases a with
 |tup l=>
  obtain⟨hl,e⟩:=Ho (show(if l.length<=1000 then(match kids (.tup l) with|some ks=>if ks.length<=1000 then some ks else none|none=>none) else none)=some ks from h)
  clear h;refine i5 (kids (.tup l)) (fun ks' hk=>?_) (fun hk=>?_)
  ·
   rw[hk]at e;induction fg e with|mk hs=>?_
   exact⟨tG ha hk hs hc (fun l' q=>by cases q;exact hl),ro ha hk⟩
  ·rw[hk]at e;exact ak e
 |_=>exact ak h
section
variable{W:dP}{c:aC}
theorem oL{f:AV->aC->aD (List AV)}{g:AV->List AV}:∀{l:List AV},(∀v∈l,f v c = .ok (g v) c)->fq f l c = .ok (l.flatMap g) c
 |[],U=>by refine .trans (yt ..)<|?_;rfl
 |v::l,h=>by
  refine .trans (u0 ..)<|.trans (ob (h v d8) ..)<|.trans (ob (oL fun w hw=>h w (dO _ hw)) ..)<|?_
  rw[List.flatMap_cons]
noncomputable def Bd:Ex:=.jk 2 (.one 0) (.it (.loc 2)) (.one 1) (.it (.call 10 [.loc 0])) (.loc 1)
noncomputable def uF:List Sx:=[.asg 2 Bd,.ite (.cmp .eq (.loc 2) (.lst [])) [.ret .none] []]
theorem Jg:iB=[.asg 2 (.lst [.loc 1]),.i6 (.one 3) (.lO (.gl 0)) uF,.ag]:=rfl
theorem j0:∀{l ks:List AV},bW f l=some ks->ks=l.flatMap (fun a=>(f a).getD [])/\∀a∈l,∃x,f a=some x
 |[],ks,h=>by obtain rfl:=bE h;exact⟨rfl,fun a ha=>nomatch ha⟩
 |a::l,ks,h=>by
  induction gr h with|mk x y e1 e2=>?_;obtain⟨q1,q2⟩:=j0 e2
  refine⟨by rw[List.flatMap_cons,<-q1,e1];rfl,fun b hb=>?_⟩
  rcases b8.mp hb with rfl|hb
  ·exact⟨x,e1⟩
  ·exact q2 b hb
theorem Oc{l l':List AV}(h2:J[2]?=some (some (.lst l)))(hl:∀v∈l,aH 0 v=true)(hk:bW eg l=some l')(hs:l'.length<=1000)(hW:∀a∈l,∀ks,eg a=some ks->W.call 10 [a] c = .ok (.lst ks) c/\∀v∈ks,aH 0 v=true) :
  ev W J Bd c = .ok (.lst l') c:=by
 obtain⟨f1,f2⟩:=j0 hk;have e2:ev W J (.loc 2) c = .ok (.lst l) c:=by(refine .trans (cM ..)<|?_;rw[h2])
 have es:dh W J (.it (.loc 2)) c = .ok l c:=by refine .trans (kU ..)<|.trans (ob e2 ..)<|?_;rfl
 unfold Bd;refine .trans (Dm ..)<|.trans (ob es ..)<|?_
 have in1:∀v∈l,(match br (List.replicate 2 none) (.one 0) v with
    |some aE=>(dh W aE (.it (.call 10 [.loc 0])) c).bind fun u3 c=>fq (fun v c=>match br aE (.one 1) v with
     |some aE=>(ev W aE (.loc 1) c).bind fun x c=>(fz c x).bind fun x c=>.ok [x] c|none=>.fail) u3 c
    |none=>.fail) = .ok ((eg v).getD []) c:=by
  intro v hv;obtain⟨ks,e⟩:=f2 v hv;obtain⟨w1,w2⟩:=hW v hv ks e;have b1:br (List.replicate 2 none) (.one 0) v=some [some v,none]:=rfl;rw[b1];dsimp only;have l0:eV W [some v,none] [.loc 0] c = .ok [v] c:=by
   have q:ev W [some v,none] (.loc 0) c = .ok v c:=by refine .trans (cM ..)<|?_;rfl
   refine .trans (bY ..)<|.trans (ob q ..)<|.trans (dc (cI ..))<|?_;rfl
  have c1:ev W [some v,none] (.call 10 [.loc 0]) c = .ok (.lst ks) c:=by exact .trans (fL ..)<|.trans (ob l0 ..)<|(w1 ..)
  have s1:dh W [some v,none] (.it (.call 10 [.loc 0])) c = .ok ks c:=by refine .trans (kU ..)<|.trans (ob c1 ..)<|?_;rfl
  (refine .trans (ob s1 ..)<|?_;rw[e,Option.getD_some])
  refine(oL (g:=fun k=>[k]) fun k hk=>?_).trans ?_
  ·have b2:br [some v,none] (.one 1) k=some [some v,some k]:=rfl;have l1:ev W [some v,some k] (.loc 1) c = .ok k c:=by refine .trans (cM ..)<|?_;rfl
   rw[b2];dsimp only;exact .trans (ob l1 ..)<|(ob (cJ (w2 k hk)) ..)
  ·congr 1;clear w1 w2 c1 s1 e;induction ks with
   |nil=>rfl|cons k ks ih=>(refine .trans (List.flatMap_cons ..)<|?_;rw[ih]);rfl
 rw[oL (g:=fun v=>(eg v).getD []) in1,<-f1];show(if l'.length<=aJ then aD.ok (AV.lst l') c else .fail)=_;exact(aO (by rw[bR];omega) ..)
theorem G8(hc:cl c)(hW:∀a,aH 0 a=true->∀ks,eg a=some ks->W.call 10 [a] c = .ok (.lst ks) c/\∀v∈ks,aH 0 v=true) :
  ∀(is:List AV)(n:Nat)(l:List AV)(x:Option AV),is.length=n->(∀v∈l,aH 0 v=true)->Hk n l=true->hY (.one 3) (fun J c=>dR W 5000 uF J c) is [some r,some t,some (.lst l),x] c = .ok (.rt .none) c
 |[],0,l,x,U,bG,h=>by exact eK h
 |i::is,n+1,l,x,hi,hl,h=>by
  obtain⟨l',hk,hs,hp,hr⟩:=Lm h
  ·clear h;have Hg:∀v∈l',aH 0 v=true:=by
    obtain⟨f1,f2⟩:=j0 hk;rw[f1];intro v hv;refine au (List.mem_flatMap.mp hv) fun a ha X6=>?_;obtain⟨ks,e⟩:=f2 a ha;rw[e]at X6;exact(hW a (hl a ha) ks e).2 v X6
   have b1:br [some r,some t,some (.lst l),x] (.one 3) i=some [some r,some t,some (.lst l),some i]:=rfl;have s1:ex W 5000 (.asg 2 Bd) [some r,some t,some (.lst l),some i] c = .ok (.nx [some r,some t,some (.lst l'),some i]) c:=by
    refine .trans (mG ..)<|.trans (ob (Oc (W:=W) (c:=c) (l':=l') rfl hl hk hs fun a ha ks e=>hW a (hl a ha) ks e) ..)<|?_;rfl
   have e2:ev W [some r,some t,some (.lst l'),some i] (.loc 2) c = .ok (.lst l') c:=by refine .trans (cM ..)<|?_;rfl
   have e3:ev W [some r,some t,some (.lst l'),some i] (.lst []) c = .ok (.lst []) c:=by refine .trans (mC ..)<|.trans (dc (cI ..))<|?_;rfl
   have tc:eS W [some r,some t,some (.lst l'),some i] (.cmp .eq (.loc 2) (.lst [])) c = .ok l'.isEmpty c:=by
    refine .trans (fS ..)<|.trans (ob e2 ..)<|.trans (ob e3 ..)<|?_
    show bp c (if plain aw (.lst l')&&plain aw (.lst []) then some (eqB (.lst l') (.lst [])) else none)=_;rw[hp,aO (show(true&&plain aw (.lst []))=true from rfl)]
    cases l' with
    |nil=>rfl|cons a q=>rfl
   refine D7 l'.isEmpty (fun hE=>?_) (fun hE=>?_)
   ·
    (refine .trans (mE ..)<|?_;rw[b1])
    dsimp only;unfold uF;rw[hE]at tc;have re:ex W 5000 (.ret .none) [some r,some t,some (.lst l'),some i] c = .ok (.rt .none) c:=by refine .trans (mF ..)<|.trans (dc (s8 ..))<|?_;rfl
    rw[bM s1,bw,ce tc,aO rfl,bw,re];rfl
   ·
    rw[hE]at tc;rcases hr with hr|hr
    ·rw[hE]at hr;exact eK hr
    rw[jZ (b:=fun J c=>dR W 5000 uF J c) (O8:=[some r,some t,some (.lst l'),some i]) (c':=c) b1]
    ·exact G8 hc hW is n l' (some i) (by simpa using hi) Hg hr
    ·unfold uF
     (refine .trans (bM s1 ..)<|.trans (bw ..)<|.trans (ce tc ..)<|?_;rw[aV (by decide),iO])
 |[],n+1,l,x,hi,U,bG=>by cases hi
 |U::bG,0,l,x,hi,dy,lP=>by cases hi
end
theorem pQ{m:Nat}(hr:r = .ref 1)(ht:aH 0 t=true)(h:wU t=true)(hc:cl c):bL fns ini gl 5000 (m+2) 11 [r,t] c = .ok .none c:=by
 have hW:∀a,aH 0 a=true->∀ks,eg a=some ks->bL fns ini gl 5000 (m+1) 10 [a] c = .ok (.lst ks) c/\∀v∈ks,aH 0 v=true:=fun a ha ks e=>G7 ha e hc
 (refine .trans (kW ..)<|?_;rw[pK])
 dsimp only;unfold d3;generalize hG:({call:=bL fns ini gl 5000 (m+1),make:=_,gl:=gl}:dP)=W;have Uc:W.call=bL fns ini gl 5000 (m+1):=by rw[<-hG]
 have hg:W.gl=gl:=by rw[<-hG]
 have e:dR W 5000 cO.body ([r,t].map some++List.replicate (cO.nl-cO.np) none) c = .ok (.rt .none) c:=by
  show dR W 5000 iB [some r,some t,none,none] c=_;rw[Jg];have l1:eV W [some r,some t,none,none] [.loc 1] c = .ok [t] c:=by
   have q:ev W [some r,some t,none,none] (.loc 1) c = .ok t c:=by refine .trans (cM ..)<|?_;rfl
   refine .trans (bY ..)<|.trans (ob q ..)<|.trans (dc (cI ..))<|?_;rfl
  have q:ev W [some r,some t,none,none] (.lst [.loc 1]) c = .ok (.lst [t]) c:=by
   refine .trans (mC ..)<|.trans (ob l1 ..)<|?_
   have:s7 [t] c = .ok [t] c:=by refine .trans (jl ..)<|.trans (ob (cJ ht) ..)<|.trans (dc (A9 ..))<|?_;rfl
   exact(ob this ..)
  have s1:ex W 5000 (.asg 2 (.lst [.loc 1])) [some r,some t,none,none] c = .ok (.nx [some r,some t,some (.lst [t]),none]) c:=by refine .trans (mG ..)<|.trans (ob q ..)<|?_;rfl
  have g0:ev W [some r,some t,some (.lst [t]),none] (.gl 0) c = .ok (.int 60) c:=by(refine .trans (Di ..)<|?_;rw[hg]);rfl
  have es:dh W [some r,some t,some (.lst [t]),none] (.lO (.gl 0)) c = .ok ((List.range 60).map fun k=>AV.int (Int.ofNat k)) c:=by refine .trans (pW ..)<|.trans (ob g0 ..)<|?_;rfl
  have s2:ex W 5000 (.i6 (.one 3) (.lO (.gl 0)) uF) [some r,some t,some (.lst [t]),none] c = .ok (.rt .none) c:=by
   refine .trans (qP ..)<|.trans (ob es ..)<|?_
   exact G8 hc (by rw[Uc];exact hW) _ 60 [t] none rfl (fun v hv=>by rw[List.mem_singleton]at hv;subst hv;exact ht) h
  refine .trans (bM s1 ..)<|.trans (kq ..)<|.trans (dc (s2 ..))<|?_;rfl
 show(if 2=2 then(match dR W 5000 cO.body ([r,t].map some++List.replicate (cO.nl-cO.np) none) c with
  |.ok (.rt v) c'=>back c.length v c' fun c=>.ok v c|.ok (.nx U) c'=>back c.length .none c' fun c=>.ok .none c|.ok (.bk U) bG=>.fail|.exc U c'=>back c.length .none c' fun c=>.exc false c|.fail=>.fail) else .fail)=_
 (refine .trans (aO rfl ..)<|?_;rw[e])
 dsimp only;unfold back;rw[bm,List.take_length,Bool.true_and,aO];rw[List.all_eq_true];exact fun x hx=>bN _ (gD.mp hc x hx)
noncomputable def rq:Prim:=fun f args Y=>if f=11 then FV args fun x y=>Nj FX x (yp y fun t=>match wU t with
 |true=>some (.ok (.a .none) Y [])|false=>some .fail) else AB f args Y
theorem G9(hD:ai 0 D=true)(hT:Toks ts):lc (zP D ts) fns ini 5000 10 rq:=by
 intro f args Y r e m R hm ay hR ha hi
 by_cases hf:f=11
 ·subst hf;induction zj (show FV args _=_ from e) with|mk x y e2=>?_
  obtain⟨h,e3⟩:=Rh e2;obtain rfl:=xt h;induction v3 e3 with|mk t e4=>?_
  refine D7 (wU t) (fun h=>?_) (fun h=>?_)
  ·
   rw[h]at e4;obtain rfl:=bE e4;obtain⟨m,rfl⟩:∃k,m=k+2:=⟨m-2,by omega⟩
   refine⟨ay,rfl,bK.mpr (bm _),?_⟩;rw[List.map_cons,List.map_cons,List.map_nil,kH,bn,bn];exact pQ rfl (bK.mp (ha _ (by simp))) h (dY.mpr ⟨(GO hD hT).JX _ ay,hR⟩)
  ·rw[h]at e4;obtain rfl:=bE e4;trivial
 ·exact Cn hD hT _ _ _ _ ((aV hf).symm.trans e) m R hm ay hR ha hi
noncomputable def cP(n:Nat):=eU fns gl 5000 [] rq n
noncomputable def wP(n:Nat):W2:={call:=cP n,s:=[],gl:=gl}
theorem vu(n:Nat):(wP n).call=cP n:=rfl
theorem AH{f:Nat}(hf:f≠0/\f≠11)(args:List V2)(Y:S2):rq f args Y=none:=by
 exact(aV hf.2).trans (aV hf.1)
theorem Ln{n f:Nat}(h:fns[f]?=some F)(hf:f≠0/\f≠11):cP (n+1) f args Y=jS (wP n) 5000 F args Y:=by
 unfold cP
 (refine .trans (ri ..)<|?_;rw[AH hf,h]);rfl
theorem aN{lf:Nat}(h:g6 W lf s J Y L = .ok (.nx aE) aF L'):al W lf (s::l) J Y L=al W lf l aE aF L':=by
 refine .trans (fG ..)<|.trans (dA (h ..))<|?_;rfl
theorem bb{lf:Nat}(h:g6 W lf s J Y L = .ok (.rt v) aF L'):al W lf (s::l) J Y L = .ok (.rt v) aF L':=by
 refine .trans (fG ..)<|.trans (dA (h ..))<|?_;rfl
theorem kL{lf:Nat}(h:g6 W lf s J Y L = .exc m):al W lf (s::l) J Y L = .exc m:=by
 refine .trans (fG ..)<|.trans (dA (h ..))<|?_;rfl
theorem et{n:Nat}(h:t J Y L = .ok false aF L'):fc t b (n+1) J Y L = .ok (.nx J) aF L':=by
 (refine .trans (kG ..)<|?_;rw[h]);rfl
theorem jC{n:Nat}(h:t J Y L = .ok true aF L')(h2:b J aF L' = .ok (.nx aE) fj jg):fc t b (n+1) J Y L=fc t b n aE fj jg:=by
 (refine .trans (kG ..)<|?_;rw[h])
 show((b J aF L').fm.bind _)=_;rw[h2];rfl
theorem Ga{n:Nat}(h:t J Y L = .ok true aF L')(h2:b J aF L' = .ok (.rt v) fj jg):fc t b (n+1) J Y L = .ok (.rt v) fj jg:=by
 (refine .trans (kG ..)<|?_;rw[h])
 show((b J aF L').fm.bind _)=_;rw[h2];rfl
theorem Gb{n:Nat}(h:t J Y L = .ok true aF L')(h2:b J aF L' = .exc false):fc t b (n+1) J Y L = .exc false:=by
 (refine .trans (kG ..)<|?_;rw[h])
 show((b J aF L').fm.bind _)=_;rw[h2];rfl
theorem SX(p:Pt)(n:Nat)(k:Fin 2)(post:List AV)(o):cP (n+30) 17 [.ab] ⟨p.toks++B8::post,k+1,o⟩= .ok (.a p.tree) ⟨B8::post,k+1,o⟩ []:=by
 apply D5 k;(apply qF p;kernel_rfl)
theorem SY(p:Pt)(n:Nat)(k:Fin 2)(post:List AV)(o):cP (n+30) 17 [.ab] ⟨p.toks++cQ::post,k+1,o⟩= .ok (.a p.tree) ⟨cQ::post,k+1,o⟩ []:=by
 apply D5 k;(apply qF p;kernel_rfl)
theorem SZ(p:Pt)(n:Nat)(k:Fin 2)(post:List AV)(o):cP (n+30) 17 [.ab] ⟨jY [110]::Co::post,k+1,o⟩= .ok (.a (wT [110])) ⟨Co::post,k+1,o⟩ []:=by
 apply D5 k;kernel_rfl
theorem Vy(p:Pt)(n:Nat)(k:Fin 2)(post:List AV)(o):cP (n+31) 33 [.ab] ⟨p.toks++B8::post,k+1,o⟩= .ok (.a (dB p false)) ⟨B8::post,k+1,o⟩ []:=by
 apply D5 k;(apply qF p;kernel_rfl)
theorem S0(p:Pt)(nm:Bool)(n:Nat)(k:Fin 2)(post:List AV)(o):cP (n+31) 33 [.ab] ⟨cX p nm++cQ::post,k+1,o⟩= .ok (.a (dB p nm)) ⟨cQ::post,k+1,o⟩ []:=by
 apply D5 k;(apply qF p;apply nK nm;kernel_rfl)
theorem d6{n f:Nat}(h:fns[f]?=some F)(hf:f≠0/\f≠11)(hd:F.dflt.drop (F.dflt.length-(F.np-args.length))=[])(hl:args.length=F.np)
  (hx:al (wP n) 5000 F.body (args.map some++List.replicate (F.nl-F.np) none) Y [] = .ok (.rt v) aF L) (hv:pN v=true):cP (n+1) f args Y = .ok v aF []:=by
 refine .trans (Ln h hf ..)<|?_
 unfold jS;rw[hd,List.map_nil,List.append_nil];dsimp only
 (refine .trans (aO hl ..)<|?_;rw[hx])
 dsimp only;exact(aO hv ..)
theorem vx{n f:Nat}(h:fns[f]?=some F)(hf:f≠0/\f≠11)(hd:F.dflt.drop (F.dflt.length-(F.np-args.length))=[])(hl:args.length=F.np)
  (hx:al (wP n) 5000 F.body (args.map some++List.replicate (F.nl-F.np) none) Y [] = .exc m):cP (n+1) f args Y = .exc false:=by
 refine .trans (Ln h hf ..)<|?_
 unfold jS;rw[hd,List.map_nil,List.append_nil];dsimp only
 (refine .trans (aO hl ..)<|?_;rw[hx])
noncomputable def Bk.inner:Bk->List AV
 |.one p nm=>cX p nm|.two p q nm=>p.toks++B8::cX q nm
theorem Bk.nL(b:Bk)(post:List AV):b.toks++post=im::(b.inner++cQ::post):=by
 cases b<;>simp[Bk.toks,Bk.inner]
theorem iG{n:Nat}{f:Nat}(he:eH (wP n) J es Y L = .ok vs aF L')(hi:vs.all tD=true)(hc:cP n f vs aF = .ok (.a (.bool b)) fj jg):bu (wP n) J (.val (.call f es)) Y L = .ok b fj L':=by
 (refine .trans (zn ..)<|.trans (dA (l4 ..))<|?_;rw[he])
 show(match vs.all tD with|true=>_|false=>_:O2 V2).bind _=_
 rw[hi,vu,hc];rfl
theorem af{n:Nat}{f:Nat}(he:eH (wP n) J es Y L = .ok vs aF L')(hi:vs.all tD=true)(hc:cP n f vs aF = .ok v fj jg):bQ (wP n) J (.call f es) Y L = .ok v fj L':=by
 refine .trans (l4 ..)<|.trans (dA (he ..))<|?_
 show(match vs.all tD with|true=>_|false=>_:O2 V2)=_
 rw[hi,vu,hc];rfl
theorem iX{n:Nat}{f:Nat}(he:eH (wP n) J es Y L = .ok vs aF L')(hi:vs.all tD=true)(hc:cP n f vs aF = .exc m):bQ (wP n) J (.call f es) Y L = .exc false:=by
 refine .trans (l4 ..)<|.trans (dA (he ..))<|?_
 show(match vs.all tD with|true=>_|false=>_:O2 V2)=_
 rw[hi,vu,hc];rfl
section
variable{W:W2}{lf:Nat}{J aE:bS}{Y aF fj:S2}{L L' jg:aC}
theorem dH(h:bQ W J e Y L = .ok v aF L'):eH W J [e] Y L = .ok [v] aF L':=by
 refine .trans (rh ..)<|.trans (dA (h ..))<|?_
 show((eH W J [] aF L').bind fun vs Y L=>O2.ok (v::vs) Y L)=_;refine .trans (dA (F8 ..))<|?_;rfl
theorem Jh(h:bQ W J e Y L = .ok (.a v) aF L'):bQ W J (.lst [e]) Y L = .ok (.a (.lst [v])) aF L':=by
 refine .trans (Fc ..)<|.trans (dA (dH h ..))<|?_;rfl
theorem ru{x:Nat}(h:bQ W J e Y L = .ok (.a v) aF L'):g6 W lf (.dn x (.lst [e])) J Y L = .ok (.nx (J.set x (some (.fW L'.length)))) aF (L'++[.list [v]]):=by
 refine .trans (LW ..)<|?_
 show(bQ W J (.lst [e]) Y L).bind _=_;refine .trans (dA (Jh h ..))<|?_;rfl
theorem dk{x:Nat}(h:bQ W J e Y L = .ok v aF L'):g6 W lf (.asg x e) J Y L = .ok (.nx (J.set x (some v))) aF L':=by
 refine .trans (Fp ..)<|.trans (dA (h ..))<|?_;rfl
theorem cR(h:bQ W J e Y L = .ok v aF L'):g6 W lf (.expr e) J Y L = .ok (.nx J) aF L':=by
 refine .trans (Fo ..)<|.trans (dA (h ..))<|?_;rfl
theorem yK(h:bQ W J e Y L = .exc m):g6 W lf (.expr e) J Y L = .exc m:=by
 refine .trans (Fo ..)<|.trans (dA (h ..))<|?_;rfl
theorem Ji{x:Nat}(h:bQ W J e Y L = .exc m):g6 W lf (.asg x e) J Y L = .exc m:=by
 refine .trans (Fp ..)<|.trans (dA (h ..))<|?_;rfl
theorem gf:g6 W lf (.n4 t b) J Y L=fc (fun J Y L=>bu W J t Y L) (fun J Y L=>al W lf b J Y L) lf J Y L:=by exact(Fq ..)
theorem cr(h:bu W J t Y L = .ok true aF L'):g6 W lf (.ite t a b) J Y L=al W lf a J aF L':=by
 refine .trans (zr ..)<|.trans (dA (h ..))<|?_;rfl
theorem fJ(h:bu W J t Y L = .ok false aF L'):g6 W lf (.ite t a b) J Y L=al W lf b J aF L':=by
 refine .trans (zr ..)<|.trans (dA (h ..))<|?_;rfl
theorem ke{x j:Nat}(hx:J[x]?=some (some (.fW j)))(h0:∃l0,L[j]?=some (.list l0))(h:bQ W J e Y L = .ok (.a v) aF L')(hl:L'[j]?=some (.list l))(hs:l.length<=1000):g6 W lf (.app x e) J Y L = .ok (.nx J) aF (L'.set j (.list (l++[v]))):=by
 obtain⟨l0,h0⟩:=h0;have e1:getL J x=some (.fW j):=by unfold getL;rw[hx]
 have e2:listAt L j=some l0:=by unfold listAt;rw[h0]
 have e3:listAt L' j=some l:=by unfold listAt;rw[hl]
 (refine .trans (LV ..)<|?_;rw[e1])
 show aM (listAt L j) _=_;rw[e2];show(bQ W J e Y L).bind _=_;refine .trans (dA (h ..))<|?_
 show aM (listAt L' j) _=_;rw[e3];exact aO hs
end
theorem V'(n:Nat)(b:Bk)(k:Fin 2)(post:List AV)(o):cP (n+32) 34 [.ab] ⟨b.inner++cQ::post,k+1,o⟩= .ok (.a (.lst b.rows)) ⟨cQ::post,k+1,o⟩ []:=by
 have no:∀L J,bu (wP (n+31)) (some .ab::J) (.val (.call 6 [.loc 0,.str [44]])) ⟨cQ::post,k+1,o⟩ L = .ok false ⟨cQ::post,k+1,o⟩ L:=fun L J=>iG (jg:=[]) rfl rfl (by kernel_rfl)
 cases b with
 |one p nm=>
  refine d6 jP (by decide) rfl rfl (L:=[.dead [dB p nm]]) ?_ rfl
  refine(aN (ru (af rfl rfl (S0 p nm n k post o)))).trans ?_;refine(aN (aE:=[some .ab,some (.fW 0),none]) (aF:=⟨cQ::post,k+1,o⟩) (L':=[.list [dB p nm]]) ?_).trans ?_
  ·refine .trans (gf ..)<|?_
   exact et (n:=4999) (no _ _)
  ·rfl
 |two p q nm=>
  have yes:∀L J,bu (wP (n+31)) (some .ab::J) (.val (.call 6 [.loc 0,.str [44]])) ⟨B8::(cX q nm++cQ::post),k+1,o⟩ L = .ok true ⟨cX q nm++cQ::post,k+1,o⟩ L:=fun L J=>iG (jg:=[]) rfl rfl (by kernel_rfl)
  refine d6 jP (by decide) rfl rfl (L:=[.dead [dB p false,dB q nm]]) ?_ rfl
  have e0:Bk.inner (.two p q nm)++cQ::post=p.toks++B8::(cX q nm++cQ::post):=by simp[Bk.inner]
  rw[e0];refine(aN (ru (af rfl rfl (Vy p n k _ o)))).trans ?_;refine(aN (aE:=[some .ab,some (.fW 0),some (.a (dB q nm))]) (aF:=⟨cQ::post,k+1,o⟩) (L':=[.list [dB p false,dB q nm]]) ?_).trans ?_
  ·refine .trans (gf ..)<|?_
   refine(jC (n:=4999) (aE:=[some .ab,some (.fW 0),some (.a (dB q nm))]) (fj:=⟨cQ::post,k+1,o⟩) (jg:=[.list [dB p false,dB q nm]]) (yes _ _) ?_).trans ?_
   ·refine(aN (dk (af rfl rfl (S0 q nm n k post o)))).trans ?_;refine(aN (aE:=[some .ab,some (.fW 0),some (.a (dB q nm))]) (aF:=⟨cQ::post,k+1,o⟩) (L':=[.list [dB p false]]) ?_).trans ?_
    ·cases nm<;>rfl
    ·rfl
   ·exact et (n:=4998) (no _ _)
  ·rfl
theorem Z'(n:Nat)(b:Bk)(k:Fin 2)(post:List AV)(o):cP (n+33) 35 [.ab] ⟨b.toks++post,k,o⟩= .ok (.a (.lst b.rows)) ⟨post,k,o⟩ []:=by
 rw[Bk.nL];refine d6 r6 (by decide) rfl rfl (L:=[]) ?_ rfl
 refine(aN (cR (af (v:=.a .none) (fj:=⟨b.inner++cQ::post,k,o⟩) (jg:=[]) rfl rfl (by kernel_rfl)))).trans ?_
 refine(aN (cR (af (v:=.a .none) (fj:=⟨b.inner++cQ::post,k+1,o⟩) (jg:=[]) rfl rfl (by apply D5 k;kernel_rfl)))).trans ?_
 refine(aN (dk (af rfl rfl (V' n b k post o)))).trans ?_;refine(aN (cR (af (v:=.a .none) (fj:=⟨post,k+1,o⟩) (jg:=[]) rfl rfl (by kernel_rfl)))).trans ?_
 refine(aN (cR (af (v:=.a .none) (fj:=⟨post,k,o⟩) (jg:=[]) rfl rfl (by kernel_rfl)))).trans ?_
 rfl
inductive jD:List AV->Prop
 |nil:jD []|pl (r):jD (Cp::r)|rp (r):jD (cQ::r)|dt (r):jD (sZ::r)|tk (r):jD (ic::r)
inductive Quiet:List AV->Prop
 |nil:Quiet []|pl (r):Quiet (Cp::r)|rp (r):Quiet (cQ::r)
noncomputable def ι{Z:Type}(f:List AV->Z)(r:List AV):Z×Z×Z×Z×Z:=(f ([]),f (Cp::r),f (cQ::r),f (sZ::r),f (ic::r))
noncomputable def Vz{Z:Type}(f:List AV->Z)(r:List AV):Z×Z×Z×Z×Z:=(f ([]),f (Cp::r),f (cQ::r),f (sZ::r),f (ic::r))
theorem κ{Z:Type}{f g:List AV->Z}(l:List AV)(h:jD l)(k:∀r,ι f r=Vz g r):f l=g l:=by
 cases h with
 |nil=>exact aY (fun x=>x.1) (k [])|pl r=>exact aY (fun x=>x.2.1) (k r)|rp r=>exact aY (fun x=>x.2.2.1) (k r)|dt r=>exact aY (fun x=>x.2.2.2.1) (k r)|tk r=>exact aY (fun x=>x.2.2.2.2) (k r)
noncomputable def ξ{Z:Type}(f:List AV->Z)(r:List AV):Z×Z×Z:=(f ([]),f (Cp::r),f (cQ::r))
noncomputable def WA{Z:Type}(f:List AV->Z)(r:List AV):Z×Z×Z:=(f ([]),f (Cp::r),f (cQ::r))
theorem WB{Z:Type}{f g:List AV->Z}(l:List AV)(h:Quiet l)(k:∀r,ξ f r=WA g r):f l=g l:=by
 cases h with
 |nil=>exact aY (fun x=>x.1) (k [])|pl r=>exact aY (fun x=>x.2.1) (k r)|rp r=>exact aY (fun x=>x.2.2) (k r)
theorem Quiet.soft{r:List AV}(h:Quiet r):jD r:=by cases h<;>constructor
noncomputable def bo:List Sx:=[.ite (.val (.call 6 [.loc 0,.str [46]])) [.asg 1 (.call 29 [.loc 0,.loc 1])]
 [.ite (.val (.call 4 [.loc 0,.str [40]])) [.asg 1 (.tup [.str [97,112,112,108,121],.loc 1,.call 35 [.loc 0]])]
 [.ite (.and_ [.val (.call 4 [.loc 0,.str [39]]),.val (.call 4 [.loc 0,.str [40],.int 1])]) [.g9 (.loc 0) [97,116] .add (.int 1),.ret (.tup [.str [113,117,97,108],.loc 1,.call 36 [.loc 0]])]
 [.ite (.val (.call 6 [.loc 0,.str [39]])) [.asg 1 (.call 30 [.loc 0,.loc 1])] [.ret (.loc 1)]]]]]
noncomputable def iH:Sx:=.ite (.cmp .eq (.sub (.call 1 [.loc 0]) (.int 0)) (.str [115,116,114,105,110,103])) [.asg 1 (.tup [.str [110,97,109,101],.call 26 [.loc 0]])] [.asg 1 (.tup [.str [110,97,109,101],.call 9 [.loc 0]])]
theorem AI:gW=[iH,.n4 (.val (.bool true)) bo]:=rfl
theorem dZ{W:W2}{J:bS}{Y aF fj:S2}{L L' jg:aC}{e:Ex}{es:List Ex}{v:V2}{vs:List V2}(h:bQ W J e Y L = .ok v aF L')(h2:eH W J es aF L' = .ok vs fj jg):eH W J (e::es) Y L = .ok (v::vs) fj jg:=by
 refine .trans (rh ..)<|.trans (dA (h ..))<|?_
 show((eH W J es aF L').bind fun vs Y L=>O2.ok (v::vs) Y L)=_;refine .trans (dA (h2 ..))<|?_;rfl
theorem Gc{W:W2}{J:bS}{Y aF:S2}{L L' jg:aC}{es:List Ex}{vs ws:List V2}(h:eH W J es Y L = .ok vs aF L')(hf:r8 vs L'=some (ws,jg)):bQ W J (.tup es) Y L = .ok (tl ws) aF jg:=by
 refine .trans (Fa ..)<|.trans (dA (h ..))<|?_
 show aM (r8 vs L') _=_;rw[hf];rfl
section
variable(n k:Nat)(t:AV)(o:List (Nat×Nat))(post:List AV)
theorem Jj(v:Bool)(d:Dt):al (wP (n+33)) 5000 bo [some .ab,some (.a t)] ⟨d.toks v++post,k,o⟩ [] = .ok (.nx [some .ab,some (.a (d.put t))]) ⟨post,k,o⟩ []:=by
 apply nK v;apply Vq d<;>kernel_rfl
theorem Gd(h:Quiet post):al (wP (n+33)) 5000 bo [some .ab,some (.a t)] ⟨post,k,o⟩ [] = .ok (.rt (.a t)) ⟨post,k,o⟩ []:=by
 apply WB post h;intro r;kernel_rfl
theorem WC(a:At)(h:a.mark=true\/jD post):cP (n+33) 30 [.ab,.a t] ⟨a.tok::post,k,o⟩= .ok (.a (fk t a [])) ⟨post,k,o⟩ []:=by
 rcases h with h|h
 ·apply J' a h;kernel_rfl
 ·apply κ post h;intro r;apply Jd a;kernel_rfl
theorem Jk(m:s6):g6 (wP (n+33)) 5000 iH [some .ab,none] ⟨jY m.low::post,k,o⟩ [] = .ok (.nx [some .ab,some (.a (wT m.low))]) ⟨post,k,o⟩ []:=by(apply Je m;kernel_rfl)
theorem Jl(v:Bool)(s:Sy):g6 (wP (n+33)) 5000 iH [some .ab,none] ⟨wR (s.text v)::post,k,o⟩ [] = .ok (.nx [some .ab,some (.a (wT s.quoted))]) ⟨post,k,o⟩ []:=by(apply nK v;apply Cr s;kernel_rfl)
theorem yL(b:Bk)(k:Fin 2):al (wP (n+33)) 5000 bo [some .ab,some (.a t)] ⟨b.toks++post,k,o⟩ [] = .ok (.nx [some .ab,some (.a (rm t b.rows))]) ⟨post,k,o⟩ []:=by
 have e1:bu (wP (n+33)) [some .ab,some (.a t)] (.val (.call 6 [.loc 0,.str [46]])) ⟨b.toks++post,k,o⟩ [] = .ok false ⟨b.toks++post,k,o⟩ []:=by rw[Bk.nL];kernel_rfl
 have e2:bu (wP (n+33)) [some .ab,some (.a t)] (.val (.call 4 [.loc 0,.str [40]])) ⟨b.toks++post,k,o⟩ [] = .ok true ⟨b.toks++post,k,o⟩ []:=by rw[Bk.nL];kernel_rfl
 have e3:bQ (wP (n+33)) [some .ab,some (.a t)] (.tup [.str [97,112,112,108,121],.loc 1,.call 35 [.loc 0]]) ⟨b.toks++post,k,o⟩ [] = .ok (.a (rm t b.rows)) ⟨post,k,o⟩ []:=by
  have h:=af (n:=n+33) (J:=[some .ab,some (.a t)]) (f:=35) (es:=[.loc 0]) (vs:=[.ab]) (Y:=⟨b.toks++post,k,o⟩) (L:=[]) rfl rfl (Z' n b k post o);exact Gc (dZ (v:=.a (.str [97,112,112,108,121])) (by exact(tu ..)) (dZ (v:=.a t) (by rfl) (dH h))) rfl
 unfold bo
 (refine .trans (fG ..)<|.trans (dA (fJ e1 ..))<|.trans (dA (fG ..))<|?_;rw[cr e2,fG,dk e3])
 rfl
end
theorem dI{lf:Nat}:∀{l1 l2:List Sx}{J aE:bS}{Y aF:S2}{L L':aC},al W lf l1 J Y L = .ok (.nx aE) aF L'->al W lf (l1++l2) J Y L=al W lf l2 aE aF L'
 |[],l2,J,aE,Y,aF,L,L',h=>by rw[fF]at h;cases h;rfl
 |s::l1,l2,J,aE,Y,aF,L,L',h=>by
  rw[fG]at h;rw[List.cons_append,fG];cases e:g6 W lf s J Y L with
  |ok f dT L1=>
   rw[e]at h;cases f with
   |nx Ld=>exact dI (l1:=l1) h|rt v=>cases h|bk Ld=>cases h
  |exc m=>rw[e]at h;cases h|fail=>rw[e]at h;cases h
noncomputable def yM:List Sx:=[.iM [2,3,4] (.call 1 [.loc 0]),
 .ite (.and_ [.cmp .ne (.loc 2) (.str [110,97,109,101]),.or_ [.cmp .ne (.loc 2) (.str [119,111,114,100]),.cmp .oS (.loc 3) (.gl 7)]]) [.raise 3 [.loc 0,.str [97,110,32,97,116,116,114,105,98,117,116,101,32,105,115,32,109,105,115,115,105,110,103]]] [],
 .g9 (.loc 0) [97,116] .add (.int 1),.dn 5 (.lst [])]
noncomputable def Be:Cd:=.and_ [.cmp .oS (.loc 3) (.gl 8),.val (.call 6 [.loc 0,.str [40]])]
noncomputable def Ge:List Sx:=[.app 5 (.call 17 [.loc 0])]
noncomputable def nM:List Sx:=[.expr (.call 12 [.loc 0]),.app 5 (.call 17 [.loc 0]),.n4 (.val (.call 6 [.loc 0,.str [44]])) Ge,.expr (.call 8 [.loc 0,.str [41]]),.expr (.call 13 [.loc 0])]
noncomputable def Jm:Sx:=.ret (.tup [.str [116,105,99,107],.loc 1,.loc 3,.loc 5])
theorem rx:eM=yM++[.ite Be nM [],Jm]:=rfl
noncomputable def At.kind:At->List Nat
 |.range=>[119,111,114,100]|.access=>[119,111,114,100]|.delta=>[119,111,114,100]|_=>[110,97,109,101]
section
variable(n:Nat)(t:AV)(o:List (Nat×Nat))(post:List AV)
theorem uG(a:At)(k:Nat):al (wP (n+32)) 5000 yM [some .ab,some (.a t),none,none,none,none] ⟨a.tok::post,k,o⟩ [] =
 .ok (.nx [some .ab,some (.a t),some (.a (.str a.kind)),some (.a (.str a.low)),some (.a (.int 1)),some (.fW 0)]) ⟨post,k,o⟩ [.list []]:=by(apply Jd a;kernel_rfl)
theorem yN(a:At)(h:a.mark=false)(k:Nat):bu (wP (n+32)) [some .ab,some (.a t),some (.a (.str a.kind)),some (.a (.str a.low)),some (.a (.int 1)),some (.fW 0)] Be ⟨im::post,k,o⟩ [.list []] = .ok true ⟨post,k,o⟩ [.list []]:=by
 apply X4 a h;kernel_rfl
theorem Gf(b:Bk)(h:b.nm=false)(k:Fin 2):al (wP (n+32)) 5000 nM [some .ab,x1,x2,x3,x4,some (.fW 0)] ⟨b.inner++cQ::post,k,o⟩ [.list []] = .ok (.nx [some .ab,x1,x2,x3,x4,some (.fW 0)]) ⟨post,k,o⟩ [.list b.cy]:=by
 have P6:∀r,cP (n+32) 12 [.ab] ⟨r,k,o⟩= .ok (.a .none) ⟨r,k+1,o⟩ []:=fun r=>by apply D5 k;kernel_rfl
 have no:∀L,bu (wP (n+32)) [some .ab,x1,x2,x3,x4,some (.fW 0)] (.val (.call 6 [.loc 0,.str [44]])) ⟨cQ::post,k+1,o⟩ L = .ok false ⟨cQ::post,k+1,o⟩ L:=fun L=>iG (jg:=[]) rfl rfl (by kernel_rfl)
 have nd:cP (n+32) 8 [.ab,.a (.str [41])] ⟨cQ::post,k+1,o⟩= .ok (.a .none) ⟨post,k+1,o⟩ []:=by kernel_rfl
 have X7:cP (n+32) 13 [.ab] ⟨post,k+1,o⟩= .ok (.a .none) ⟨post,k,o⟩ []:=by kernel_rfl
 unfold nM;refine(aN (cR (af rfl rfl (P6 _)))).trans ?_;cases b with
 |one p nm=>
  cases h;refine(aN (ke (j:=0) (l:=[]) rfl ⟨[],rfl⟩ (af rfl rfl (SY p (n+2) k post o)) rfl (Nat.zero_le _))).trans ?_;refine(aN (aE:=[some .ab,x1,x2,x3,x4,some (.fW 0)]) (aF:=⟨cQ::post,k+1,o⟩) (L':=[.list [p.tree]]) ?_).trans ?_
  ·refine .trans (gf ..)<|?_;exact et (n:=4999) (no _)
  refine(aN (cR (af rfl rfl nd))).trans ?_;refine(aN (cR (af rfl rfl X7))).trans ?_;refine .trans (fF ..)<|?_;rfl
 |two p q nm=>
  cases h;have e0:Bk.inner (.two p q false)++cQ::post=p.toks++B8::(q.toks++cQ::post):=by simp[Bk.inner,cX]
  rw[e0];have yes:∀L,bu (wP (n+32)) [some .ab,x1,x2,x3,x4,some (.fW 0)] (.val (.call 6 [.loc 0,.str [44]])) ⟨B8::(q.toks++cQ::post),k+1,o⟩ L = .ok true ⟨q.toks++cQ::post,k+1,o⟩ L:=fun L=>iG (jg:=[]) rfl rfl (by kernel_rfl)
  refine(aN (ke (j:=0) (l:=[]) rfl ⟨[],rfl⟩ (af rfl rfl (SX p (n+2) k _ o)) rfl (Nat.zero_le _))).trans ?_;refine(aN (aE:=[some .ab,x1,x2,x3,x4,some (.fW 0)]) (aF:=⟨cQ::post,k+1,o⟩) (L':=[.list [p.tree,q.tree]]) ?_).trans ?_
  ·refine .trans (gf ..)<|?_
   refine(jC (n:=4999) (aE:=[some .ab,x1,x2,x3,x4,some (.fW 0)]) (fj:=⟨cQ::post,k+1,o⟩) (jg:=[.list [p.tree,q.tree]]) (yes _) ?_).trans (et (n:=4998) (no _));refine(aN (ke (j:=0) (l:=[p.tree]) rfl ⟨[p.tree],rfl⟩ (af rfl rfl (SY q (n+2) k post o)) rfl (by show(1:Nat)<=1000;decide))).trans ?_
   refine .trans (fF ..)<|?_;rfl
  refine(aN (cR (af rfl rfl nd))).trans ?_;refine(aN (cR (af rfl rfl X7))).trans ?_;refine .trans (fF ..)<|?_;rfl
theorem ry(b:Bk)(h:b.nm=true)(k:Fin 2):al (wP (n+32)) 5000 nM [some .ab,x1,x2,x3,x4,some (.fW 0)] ⟨b.inner++cQ::post,k,o⟩ [.list []] = .exc false:=by
 have P6:∀r,cP (n+32) 12 [.ab] ⟨r,k,o⟩= .ok (.a .none) ⟨r,k+1,o⟩ []:=fun r=>by apply D5 k;kernel_rfl
 have no:∀L r,bu (wP (n+32)) [some .ab,x1,x2,x3,x4,some (.fW 0)] (.val (.call 6 [.loc 0,.str [44]])) ⟨Co::r,k+1,o⟩ L = .ok false ⟨Co::r,k+1,o⟩ L:=fun L r=>iG (jg:=[]) rfl rfl (by kernel_rfl)
 have nd:∀r,cP (n+32) 8 [.ab,.a (.str [41])] ⟨Co::r,k+1,o⟩= .exc false:=fun r=>by kernel_rfl
 unfold nM;refine(aN (cR (af rfl rfl (P6 _)))).trans ?_;cases b with
 |one p nm=>
  cases h;have e0:Bk.inner (.one p true)++cQ::post=jY [110]::Co::(p.toks++cQ::post):=by simp[Bk.inner,cX]
  rw[e0];refine(aN (ke (j:=0) (l:=[]) rfl ⟨[],rfl⟩ (af rfl rfl (SZ .x (n+2) k _ o)) rfl (Nat.zero_le _))).trans ?_;refine(aN (aE:=[some .ab,x1,x2,x3,x4,some (.fW 0)]) (aF:=⟨Co::(p.toks++cQ::post),k+1,o⟩) (L':=[.list [wT [110]]]) ?_).trans ?_
  ·refine .trans (gf ..)<|?_;exact et (n:=4999) (no _ _)
  exact kL (yK (iX rfl rfl (nd _)))
 |two p q nm=>
  cases h;have e0:Bk.inner (.two p q true)++cQ::post=p.toks++B8::(jY [110]::Co::(q.toks++cQ::post)):=by simp[Bk.inner,cX]
  rw[e0];have yes:∀L r,bu (wP (n+32)) [some .ab,x1,x2,x3,x4,some (.fW 0)] (.val (.call 6 [.loc 0,.str [44]])) ⟨B8::r,k+1,o⟩ L = .ok true ⟨r,k+1,o⟩ L:=fun L r=>iG (jg:=[]) rfl rfl (by kernel_rfl)
  refine(aN (ke (j:=0) (l:=[]) rfl ⟨[],rfl⟩ (af rfl rfl (SX p (n+2) k _ o)) rfl (Nat.zero_le _))).trans ?_;refine(aN (aE:=[some .ab,x1,x2,x3,x4,some (.fW 0)]) (aF:=⟨Co::(q.toks++cQ::post),k+1,o⟩) (L':=[.list [p.tree,wT [110]]]) ?_).trans ?_
  ·refine .trans (gf ..)<|?_
   refine(jC (n:=4999) (aE:=[some .ab,x1,x2,x3,x4,some (.fW 0)]) (fj:=⟨Co::(q.toks++cQ::post),k+1,o⟩) (jg:=[.list [p.tree,wT [110]]]) (yes _ _) ?_).trans (et (n:=4998) (no _ _));refine(aN (ke (j:=0) (l:=[p.tree]) rfl ⟨[p.tree],rfl⟩ (af rfl rfl (SZ .x (n+2) k _ o)) rfl (by show(1:Nat)<=1000;decide))).trans ?_
   refine .trans (fF ..)<|?_;rfl
  exact kL (yK (iX rfl rfl (nd _)))
theorem WD(a:At)(ha:a.mark=false)(b:Bk)(h:b.nm=false)(k:Fin 2):cP (n+33) 30 [.ab,.a t] ⟨a.tok::(b.toks++post),k,o⟩= .ok (.a (fk t a b.cy)) ⟨post,k,o⟩ []:=by
 rw[Bk.nL];refine d6 iU (by decide) rfl rfl (L:=[.dead b.cy]) ?_ rfl
 show al (wP (n+32)) 5000 eM [some .ab,some (.a t),none,none,none,none] _ _=_;rw[rx,dI (uG n t o _ a k),fG,cr (yN n t o _ a ha k),Gf n o post b h k];rfl
theorem WE(a:At)(ha:a.mark=false)(b:Bk)(h:b.nm=true)(k:Fin 2):cP (n+33) 30 [.ab,.a t] ⟨a.tok::(b.toks++post),k,o⟩= .exc false:=by
 rw[Bk.nL];refine vx (m:=false) iU (by decide) rfl rfl ?_
 show al (wP (n+32)) 5000 eM [some .ab,some (.a t),none,none,none,none] _ _=_;rw[rx,dI (uG n t o _ a k),fG,cr (yN n t o _ a ha k),ry n o post b h k];rfl
end
mutual
inductive pS where
 |tick|dot|Bf|tH
inductive π where
 |z
end
noncomputable def pS.text:pS->List Nat
 |.tick=>[39]|.dot=>[46]|.Bf=>[40,41]|.tH=>[39,53]
noncomputable def τ{Z:Type}(f:pS->Z):Z×Z×Z×Z:=(f .tick,f .dot,f .Bf,f .tH)
noncomputable def WF{Z:Type}(f:pS->Z):Z×Z×Z×Z:=(f .tick,f .dot,f .Bf,f .tH)
theorem X8{Z:Type}{f g:pS->Z}(s:pS)(h:τ f=WF g):f s=g s:=match s with
 |.tick=>aY (fun x=>x.1) h|.dot=>aY (fun x=>x.2.1) h|.Bf=>aY (fun x=>x.2.2.1) h|.tH=>aY (fun x=>x.2.2.2) h
noncomputable def pS.toks:pS->List AV
 |.tick=>[ic]|.dot=>[sZ]|.Bf=>[im,cQ]|.tH=>[ic,Cm 5]
section
variable(n:Nat)(t:AV)(o:List (Nat×Nat))(post:List AV)
theorem oM(a:At)(k:Nat):al (wP (n+33)) 5000 bo [some .ab,some (.a t)] ⟨ic::a.tok::post,k,o⟩ [] =
  al (wP (n+33)) 5000 [.asg 1 (.call 30 [.loc 0,.loc 1])] [some .ab,some (.a t)] ⟨a.tok::post,k,o⟩ []:=by
 have e1:∀r,bu (wP (n+33)) [some .ab,some (.a t)] (.val (.call 6 [.loc 0,.str [46]])) ⟨ic::r,k,o⟩ [] = .ok false ⟨ic::r,k,o⟩ []:=fun r=>by kernel_rfl
 have e2:∀r,bu (wP (n+33)) [some .ab,some (.a t)] (.val (.call 4 [.loc 0,.str [40]])) ⟨ic::r,k,o⟩ [] = .ok false ⟨ic::r,k,o⟩ []:=fun r=>by kernel_rfl
 have e3:bu (wP (n+33)) [some .ab,some (.a t)] (.and_ [.val (.call 4 [.loc 0,.str [39]]),.val (.call 4 [.loc 0,.str [40],.int 1])]) ⟨ic::a.tok::post,k,o⟩ [] = .ok false ⟨ic::a.tok::post,k,o⟩ []:=by(apply Jd a;kernel_rfl)
 have e4:∀r,bu (wP (n+33)) [some .ab,some (.a t)] (.val (.call 6 [.loc 0,.str [39]])) ⟨ic::r,k,o⟩ [] = .ok true ⟨r,k,o⟩ []:=fun r=>by kernel_rfl
 unfold bo;have one:∀{s:Sx}{J:bS}{Y:S2}{L:aC},al (wP (n+33)) 5000 [s] J Y L=(g6 (wP (n+33)) 5000 s J Y L):=by
  intro s J Y L;refine .trans (fG ..)<|?_
  cases g6 (wP (n+33)) 5000 s J Y L with
  |ok f Y L=>cases f<;>first|rfl| (show al _ _ [] _ _ _=_;rw[al])
  |exc m=>rfl|fail=>rfl
 exact .trans (one ..)<|.trans (fJ (e1 _) ..)<|.trans (one ..)<|.trans (fJ (e2 _) ..)<|.trans (one ..)<|.trans (fJ e3 ..)<|.trans (one ..)<|(cr (e4 _) ..)
theorem Cv(a:At)(k:Nat)(h:a.mark=true\/jD post):al (wP (n+33)) 5000 bo [some .ab,some (.a t)] ⟨ic::a.tok::post,k,o⟩ [] = .ok (.nx [some .ab,some (.a (fk t a []))]) ⟨post,k,o⟩ []:=by
 refine .trans (oM ..)<|.trans (aN (dk (af rfl rfl (WC n k t o post a h))) ..)<|.trans (fF ..)<|?_;rfl
theorem AJ(a:At)(ha:a.mark=false)(b:Bk)(h:b.nm=false)(k:Fin 2):al (wP (n+33)) 5000 bo [some .ab,some (.a t)] ⟨ic::a.tok::(b.toks++post),k,o⟩ [] = .ok (.nx [some .ab,some (.a (fk t a b.cy))]) ⟨post,k,o⟩ []:=by
 refine .trans (oM ..)<|.trans (aN (dk (af rfl rfl (WD n t o post a ha b h k))) ..)<|.trans (fF ..)<|?_;rfl
theorem AK(a:At)(ha:a.mark=false)(b:Bk)(h:b.nm=true)(k:Fin 2):al (wP (n+33)) 5000 bo [some .ab,some (.a t)] ⟨ic::a.tok::(b.toks++post),k,o⟩ [] = .exc false:=by
 exact .trans (oM ..)<|(kL (Ji (iX rfl rfl (WE n t o post a ha b h k))) ..)
theorem Cw(v:Bool)(p:Pt)(hp:p≠.q)(k:Fin 2):al (wP (n+33)) 5000 bo [some .ab,some (.a t)] ⟨kK v p++post,k,o⟩ [] = .ok (.rt (.a (gk t p))) ⟨post,k,o⟩ []:=by
 apply D5 k;apply Vp p hp;apply nK v;kernel_rfl
theorem Gg(b:pS):al (wP (n+33)) 5000 bo [some .ab,some (.a t)] ⟨b.toks,0,o⟩ [] = .exc false:=by
 apply X8 b;kernel_rfl
theorem DA(a:At)(ha:a.mark=false):al (wP (n+33)) 5000 bo [some .ab,some (.a t)] ⟨ic::a.tok::pS.Bf.toks,0,o⟩ [] = .exc false:=by
 apply X4 a ha;kernel_rfl
end
noncomputable def oa(n K:Nat)(t:AV)(Y:S2):O2 iV:=fc (fun J Y L=>bu (wP n) J (.val (.bool true)) Y L) (fun J Y L=>al (wP n) 5000 bo J Y L) K [some .ab,some (.a t)] Y []
theorem rz{n:Nat}{J:bS}{Y:S2}{L:aC}:bu (wP n) J (.val (.bool true)) Y L = .ok true Y L:=by
 refine .trans (zn ..)<|.trans (dA (LR ..))<|?_;rfl
theorem sA{n K:Nat}{t t':AV}{Y aF:S2}(h:al (wP n) 5000 bo [some .ab,some (.a t)] Y [] = .ok (.nx [some .ab,some (.a t')]) aF []):oa n (K+1) t Y=oa n K t' aF:=jC rz h
theorem DB{n K:Nat}{t:AV}{v:V2}{Y aF:S2}(h:al (wP n) 5000 bo [some .ab,some (.a t)] Y [] = .ok (.rt v) aF []):oa n (K+1) t Y = .ok (.rt v) aF []:=Ga rz h
theorem DC{n K:Nat}{t:AV}{Y:S2}(h:al (wP n) 5000 bo [some .ab,some (.a t)] Y [] = .exc false):oa n (K+1) t Y = .exc false:=Gb rz h
theorem sB{n:Nat}{t:AV}{Y aF:S2}(h:g6 (wP n) 5000 iH [some .ab,none] Y [] = .ok (.nx [some .ab,some (.a t)]) aF []) :
  al (wP n) 5000 gW [some .ab,none] Y []=al (wP n) 5000 [.n4 (.val (.bool true)) bo] [some .ab,some (.a t)] aF []:=by
 rw[AI,aN h]
section
variable(n:Nat)(o:List (Nat×Nat))(v:Bool)(k:Fin 2)
theorem Gh{j:Nat}(h:j<4000):5000-j=(5000-(j+1))+1:=by
 rw[Nat.sub_succ,<-Nat.succ_eq_add_one,Nat.succ_pred_eq_of_pos (Nat.sub_pos_of_lt (Nat.lt_trans h (by decide)))]
inductive Lq(n:Nat)(o:List (Nat×Nat))(k:Fin 2)(toks:List AV)(size:Nat)(av:AV)(post:List AV):Prop
 |mk (t0:AV) (D6:S2) (h1:g6 (wP (n+33)) 5000 iH [some .ab,none] ⟨toks,k,o⟩ [] = .ok (.nx [some .ab,some (.a t0)]) D6 []) (j:Nat) (hj:j<size) (h2:oa (n+33) 5000 t0 D6=oa (n+33) (5000-j) av ⟨post,k,o⟩)
theorem Lq.step{n:Nat}{o:List (Nat×Nat)}{k:Fin 2}{toks mid post:List AV}{size:Nat}{av X9:AV}(R:Lq n o k toks size av mid)(hs:size+1<=4000)
  (h:al (wP (n+33)) 5000 bo [some .ab,some (.a av)] ⟨mid,k,o⟩ [] = .ok (.nx [some .ab,some (.a X9)]) ⟨post,k,o⟩ []):Lq n o k toks (size+1) X9 post:=by
 obtain⟨t0,D6,h1,j,hj,h2⟩:=R;refine⟨t0,D6,h1,j+1,Nat.succ_lt_succ hj,h2.trans ?_⟩;rw[Gh (Nat.lt_of_lt_of_le hj (dw hs))];exact sA h
theorem reach:∀(t:bO),t.ok->t.size<=4000->∀post,(t.isOpen=true->jD post)->Lq n o k (t.toks v++post) t.size t.av post
 |.nm m,U,bG,post,dy=>⟨_,_,Jk n k o post m,0,Nat.zero_lt_one,rfl⟩|.sy s p,U,bG,post,dy=>by
  have e:(bO.sy s p).toks v++post=wR (s.text v)::((Bk.one p false).toks++post):=by simp[bO.AG,Bk.toks,cX]
  rw[e];exact⟨_,_,Jl n k o _ v s,1,(by decide:1<2),sA (K:=4999) (yL n (wT s.quoted) o post (.one p false) k)⟩
 |.dt t d,h,hs,post,hp=>by
  rw[bO.vj,b9];exact(reach t h (dw hs) (d.toks v++post) (fun U=>by cases d<;>exact jD.dt _)).step hs (Jj n k t.av o post v d)
 |.tick t a,h,hs,post,hp=>by
  rw[bO.oK,b9];refine(reach t h (dw hs) (ic::a.tok::post) (fun U=>jD.tk _)).step hs (Cv n t.av o post a k ?_);cases q:a.mark with
  |true=>exact .inl rfl|false=>exact .inr (hp (by show(!a.mark)=true;rw[q];rfl))
 |.d4 t a b,h,hs,post,hp=>by
  have e:(bO.d4 t a b).toks v++post=t.toks v++(ic::a.tok::(b.toks++post)):=by simp[bO.vk]
  rw[e];exact(reach t h.1 (dw hs) (ic::a.tok::(b.toks++post)) (fun U=>jD.tk _)).step hs (AJ n t.av o post a h.2.1 b h.2.2 k)
 |.app t b,h,hs,post,hp=>by
  rw[bO.vm,b9];exact(reach t h.1 (dw hs) (b.toks++post) (fun q=>by rw[h.2]at q;exact eK q)).step hs (yL n t.av o post b k)
theorem Gi{t0:AV}{r:V2}{Y D6 aF:S2}(hr:pN r=true)(h1:g6 (wP (n+33)) 5000 iH [some .ab,none] Y [] = .ok (.nx [some .ab,some (.a t0)]) D6 [])(h2:oa (n+33) 5000 t0 D6 = .ok (.rt r) aF []):cP (n+34) 28 [.ab] Y = .ok r aF []:=by
 refine d6 mu (by decide) rfl rfl (L:=[]) ?_ hr
 show al (wP (n+33)) 5000 gW [some .ab,none] _ _=_;rw[sB h1,bb];refine .trans (gf ..)<|?_;exact h2
theorem Gj{t0:AV}{Y D6:S2}(h1:g6 (wP (n+33)) 5000 iH [some .ab,none] Y [] = .ok (.nx [some .ab,some (.a t0)]) D6 [])(h2:oa (n+33) 5000 t0 D6 = .exc false):cP (n+34) 28 [.ab] Y = .exc false:=by
 refine vx (m:=false) mu (by decide) rfl rfl ?_
 show al (wP (n+33)) 5000 gW [some .ab,none] _ _=_;rw[sB h1,kL];refine .trans (gf ..)<|?_;exact h2
theorem Lq.ret{toks mid post:List AV}{size:Nat}{av:AV}{r:V2}(R:Lq n o k toks size av mid)(hs:size<=4000)(hr:pN r=true)(h:al (wP (n+33)) 5000 bo [some .ab,some (.a av)] ⟨mid,k,o⟩ [] = .ok (.rt r) ⟨post,k,o⟩ []):cP (n+34) 28 [.ab] ⟨toks,k,o⟩= .ok r ⟨post,k,o⟩ []:=by
 obtain⟨t0,D6,h1,j,hj,h2⟩:=R;refine Gi n hr h1 (h2.trans ?_);rw[Gh (Nat.lt_of_lt_of_le hj hs)];exact DB h
theorem Lq.exc{toks mid:List AV}{size:Nat}{av:AV}(R:Lq n o k toks size av mid)(hs:size<=4000)(h:al (wP (n+33)) 5000 bo [some .ab,some (.a av)] ⟨mid,k,o⟩ [] = .exc false):cP (n+34) 28 [.ab] ⟨toks,k,o⟩= .exc false:=by
 obtain⟨t0,D6,h1,j,hj,h2⟩:=R;refine Gj n h1 (h2.trans ?_);rw[Gh (Nat.lt_of_lt_of_le hj hs)];exact DC h
theorem Jn(t:bO)(h:t.ok)(hs:t.size<=4000)(post:List AV)(hp:Quiet post):cP (n+34) 28 [.ab] ⟨t.toks v++post,k,o⟩= .ok (.a t.av) ⟨post,k,o⟩ []:=by
 exact(reach n o v k t h hs post fun U=>hp.soft).ret n o k hs rfl (Gd n k t.av o post hp)
theorem DD(t:bO)(h:t.ok)(hs:t.size<=4000)(p:Pt)(hp:p≠.q)(post:List AV):cP (n+34) 28 [.ab] ⟨t.toks v++(kK v p++post),k,o⟩= .ok (.a (gk t.av p)) ⟨post,k,o⟩ []:=by
 exact(reach n o v k t h hs (kK v p++post) fun U=>by cases p<;>cases v<;>exact jD.tk _).ret n o k hs rfl (Cw n t.av o post v p hp k)
end
theorem Gk(n:Nat)(o)(v:Bool)(t:bO)(h:t.ok)(hs:t.size<=4000)(b:pS):cP (n+34) 28 [.ab] ⟨t.toks v++b.toks,0,o⟩= .exc false:=by
 have gen:(t.isOpen=true->jD b.toks)->cP (n+34) 28 [.ab] ⟨t.toks v++b.toks,0,o⟩= .exc false:=fun hp=>by
  exact(reach n o v 0 t h hs b.toks hp).exc n o 0 hs (Gg n t.av o b)
 cases b with
 |tick=>exact gen fun U=>jD.tk _|dot=>exact gen fun U=>jD.dt _|tH=>exact gen fun U=>jD.tk _|Bf=>
  refine D7 t.isOpen (fun q=>?_) (fun q=>?_)
  ·
   cases t with
   |tick t a=>
    have ha:a.mark=false:=by
     have q':(!a.mark)=true:=q;simpa using q'
    have iL:t.size+1<=4000:=hs;have e:(bO.tick t a).toks v++pS.Bf.toks=t.toks v++(ic::a.tok::pS.Bf.toks):=by simp[bO.oK]
    rw[e];exact(reach n o v 0 t h (dw hs) (ic::a.tok::pS.Bf.toks) fun U=>jD.tk _).exc n o 0 (dw hs) (DA n t.av o a ha)
   |_=>exact eK q
  ·exact gen fun q'=>by rw[q]at q';exact eK q'
theorem AL(n:Nat)(o)(v:Bool)(t:bO)(h:t.ok)(hs:t.size<=4000)(a:At)(ha:a.mark=false)(b:Bk)(hb:b.nm=true)(post:List AV):cP (n+34) 28 [.ab] ⟨(bO.tick t a).toks v++(b.toks++post),0,o⟩= .exc false:=by
 have e:(bO.tick t a).toks v++(b.toks++post)=t.toks v++(ic::a.tok::(b.toks++post)):=by simp[bO.oK]
 rw[e];exact(reach n o v 0 t h hs (ic::a.tok::(b.toks++post)) fun U=>jD.tk _).exc n o 0 hs (AK n t.av o post a ha b hb 0)
inductive Start:List AV->Prop
 |nm (m:s6) (r):Start (jY m.low::r)|sy (v:Bool) (s:Sy) (r):Start (wR (s.text v)::im::r)
theorem WG{Z:Type}{f g:List AV->Z}(l:List AV)(h:Start l)(k1:∀r,Vk (fun m=>f (jY m.low::r))=O6 fun m=>g (jY m.low::r))(k2:∀r,Lb (fun v=>SQ fun s=>f (wR (s.text v)::im::r))=GX fun v=>Jc fun s=>g (wR (s.text v)::im::r)):f l=g l:=by
 cases h with
 |nm m r=>exact Je (f:=fun m=>f (jY m.low::r)) m (k1 r)|sy v s r=>exact Cr (f:=fun s=>f (wR (s.text v)::im::r)) s (nK (f:=fun v=>SQ fun s=>f (wR (s.text v)::im::r)) v (k2 r))
theorem bO.start(v:Bool):∀(t:bO)(post:List AV),Start (t.toks v++post)
 |.nm m,post=>.nm m post|.sy s p,post=>.sy v s _|.dt t d,post=>by rw[bO.vj,b9];exact t.start v _
 |.tick t a,post=>by rw[bO.oK,b9];exact t.start v _
 |.d4 t a b,post=>by rw[bO.vk,b9];exact t.start v _
 |.app t b,post=>by rw[bO.vm,b9];exact t.start v _
inductive kM:List AV->Prop
 |of {s}:Start s->kM s|lp (r):kM (im::r)
theorem Xa{Z:Type}{f g:List AV->Z}(l:List AV)(h:kM l)(k0:∀r,f (im::r)=g (im::r))(k1:∀r,Vk (fun m=>f (jY m.low::r))=O6 fun m=>g (jY m.low::r))(k2:∀r,Lb (fun v=>SQ fun s=>f (wR (s.text v)::im::r))=GX fun v=>Jc fun s=>g (wR (s.text v)::im::r)):f l=g l:=by
 cases h with
 |lp r=>exact k0 r|of hs=>exact WG l hs k1 k2
noncomputable def yO:List Sx:=[.iM [1,2,3] (.call 1 [.loc 0]),
 .ite (.or_ [.cmp .eq (.loc 1) (.str [105,110,116]),.cmp .eq (.loc 1) (.str [99,104,97,114])]) [.g9 (.loc 0) [97,116] .add (.int 1),.ret (.tup [.loc 1,.loc 2])] [],
 .ite (.cmp .eq (.loc 1) (.str [114,101,97,108])) [.ag,.ag] [],
 .ite (.and_ [.cmp .eq (.loc 1) (.str [115,116,114,105,110,103]),.not_ (.val (.call 4 [.loc 0,.str [40],.int 1]))]) [.g9 (.loc 0) [97,116] .add (.int 1),.ret (.tup [.str [115,116,114,105,110,103],.loc 2])] [],
 .ite (.and_ [.cmp .eq (.loc 1) (.str [111,112]),.cmp .eq (.loc 2) (.str [40])]) [.ret (.call 36 [.loc 0])] [],
 .ite (.val (.call 7 [.loc 0,.str [110,117,108,108]])) [.ag] [],
 .ite (.val (.call 7 [.loc 0,.str [110,101,119]])) [.ag] []]
theorem AM:eG=yO++[.ret (.call 28 [.loc 0])]:=rfl
theorem vy:i9=[.ite (.or_ [.val (.call 5 [.loc 0,.str [97,98,115]]),.val (.call 5 [.loc 0,.str [110,111,116]])]) [.ag,.ag] [],.asg 2 (.call 25 [.loc 0]),.ite (.val (.call 6 [.loc 0,.str [42,42]])) [.ag] [],.ret (.loc 2)]:=rfl
noncomputable def Bg:Cd:=.or_ [.val (.call 4 [.loc 0,.str [42]]),.val (.call 4 [.loc 0,.str [47]]),.val (.call 5 [.loc 0,.str [109,111,100]]),.val (.call 5 [.loc 0,.str [114,101,109]])]
theorem AN:jx=[.asg 1 (.call 24 [.loc 0]),.n4 Bg [.ag,.ag],.ret (.loc 1)]:=rfl
noncomputable def vz:Cd:=.or_ [.val (.call 4 [.loc 0,.str [43]]),.val (.call 4 [.loc 0,.str [45]]),.val (.call 4 [.loc 0,.str [38]])]
noncomputable def yP:List Sx:=[.asg 1 (.sub (.call 2 [.loc 0]) (.int 1)),.asg 2 (.tup [.str [98,105,110],.loc 1,.loc 2,.call 23 [.loc 0]])]
theorem AO:ef=[.asg 1 (.str []),.ite (.or_ [.val (.call 4 [.loc 0,.str [43]]),.val (.call 4 [.loc 0,.str [45]])]) [.ag] [],.asg 2 (.call 23 [.loc 0]),.ite (.cmp .ne (.loc 1) (.str [])) [.ag] [],.n4 vz yP,.ret (.loc 2)]:=rfl
theorem dJ{W:W2}{lf:Nat}{J:bS}{Y aF:S2}{L L' jg:aC}{e:Ex}{v w:V2}(h:bQ W J e Y L = .ok v aF L')(hf:BU L' v=some (w,jg)):g6 W lf (.ret e) J Y L = .ok (.rt w) aF jg:=by
 refine .trans (BY ..)<|.trans (dA (h ..))<|?_
 show aM (BU L' v) _=_;rw[hf];rfl
theorem Jo{W:W2}{lf:Nat}{J:bS}{Y:S2}{L:aC}{e:Ex}{m:Bool}(h:bQ W J e Y L = .exc m):g6 W lf (.ret e) J Y L = .exc m:=by
 refine .trans (BY ..)<|.trans (dA (h ..))<|?_;rfl
theorem iI{W:W2}{lf:Nat}{J:bS}{Y aF:S2}{L L':aC}{t:Cd}{a:List Sx}(h:bu W J t Y L = .ok false aF L'):g6 W lf (.ite t a []) J Y L = .ok (.nx J) aF L':=by
 exact .trans (fJ h ..)<|(fF ..)
theorem Gl{T:AV}{Y:S2}(hT:wU T=true):rq 11 [.ab,.a T] Y=some (.ok (.a .none) Y []):=by
 have e:rq 11 [.ab,.a T] Y=match wU T with
  |true=>some (.ok (.a .none) Y [])|false=>some .fail:=rfl
 (refine .trans (e ..)<|?_;rw[hT])
section
variable{n k:Nat}{o:List (Nat×Nat)}{start post:List AV}{T:AV}
theorem DE(hs:Start start):∃x y w,al (wP (n+34)) 5000 yO [some .ab,none,none,none] ⟨start,k,o⟩ [] = .ok (.nx [some .ab,x,y,w]) ⟨start,k,o⟩ []:=by
 cases hs with
 |nm m r=>exact⟨some (.a (.str [110,97,109,101])),some (.a (.str m.low)),some (.a (.int 1)),by(apply Je m;kernel_rfl)⟩
 |sy v s r=>exact⟨some (.a (.str [115,116,114,105,110,103])),some (.a (.str (s.text v))),some (.a (.int 1)),by(apply nK v;apply Cr s;kernel_rfl)⟩
theorem Xb(hs:Start start)(hN:cP (n+34) 28 [.ab] ⟨start,k,o⟩= .ok (.a T) ⟨post,k,o⟩ []):cP (n+35) 25 [.ab] ⟨start,k,o⟩= .ok (.a T) ⟨post,k,o⟩ []:=by
 refine A7 (DE (n:=n) (k:=k) (o:=o) hs) fun x y w h=>?_;refine d6 j6 (by decide) rfl rfl (L:=[]) ?_ rfl
 show al (wP (n+34)) 5000 eG [some .ab,none,none,none] _ _=_;rw[AM,dI h];exact bb (dJ (af rfl rfl hN) rfl)
theorem υ(hs:kM start)(hp:Quiet post)(Jp:cP (n+35) 25 [.ab] ⟨start,k,o⟩= .ok (.a T) ⟨post,k,o⟩ []):cP (n+36) 24 [.ab] ⟨start,k,o⟩= .ok (.a T) ⟨post,k,o⟩ []:=by
 refine d6 r5 (by decide) rfl rfl (L:=[]) ?_ rfl
 show al (wP (n+35)) 5000 i9 [some .ab,none,none] _ _=_;have s1:∀J,bu (wP (n+35)) (some .ab::J) (.or_ [.val (.call 5 [.loc 0,.str [97,98,115]]),.val (.call 5 [.loc 0,.str [110,111,116]])]) ⟨start,k,o⟩ [] = .ok false ⟨start,k,o⟩ []:=fun J=>by
  apply Xa start hs<;>intro r<;>kernel_rfl
 have s2:∀J,bu (wP (n+35)) (some .ab::J) (.val (.call 6 [.loc 0,.str [42,42]])) ⟨post,k,o⟩ [] = .ok false ⟨post,k,o⟩ []:=fun J=>by(apply WB post hp;intro r;kernel_rfl)
 rw[vy,aN (iI (s1 _)),aN (aE:=[some .ab,none,some (.a T)]) (dk (af rfl rfl Jp)),aN (iI (s2 _))];exact bb (dJ (v:=.a T) (by refine .trans (eI ..)<|?_;rfl) rfl)
theorem φ(hs:kM start)(hp:Quiet post)(Jp:cP (n+35) 25 [.ab] ⟨start,k,o⟩= .ok (.a T) ⟨post,k,o⟩ []):cP (n+37) 23 [.ab] ⟨start,k,o⟩= .ok (.a T) ⟨post,k,o⟩ []:=by
 refine d6 vX (by decide) rfl rfl (L:=[]) ?_ rfl
 show al (wP (n+36)) 5000 jx [some .ab,none,none] _ _=_;have s2:∀J,bu (wP (n+36)) (some .ab::J) Bg ⟨post,k,o⟩ [] = .ok false ⟨post,k,o⟩ []:=fun J=>by(apply WB post hp;intro r;kernel_rfl)
 rw[AN,aN (dk (af rfl rfl (υ hs hp Jp))),aN (aE:=[some .ab,some (.a T),none]) (aF:=⟨post,k,o⟩) (L':=[])]
 ·exact bb (dJ (v:=.a T) (by refine .trans (eI ..)<|?_;rfl) rfl)
 ·refine .trans (gf ..)<|?_;exact et (n:=4999) (s2 _)
theorem sC(hs:kM start)(hp:Quiet post)(Jp:cP (n+35) 25 [.ab] ⟨start,k,o⟩= .ok (.a T) ⟨post,k,o⟩ []) :
  al (wP (n+37)) 5000 ef [some .ab,none,none] ⟨start,k,o⟩ []=al (wP (n+37)) 5000 [.n4 vz yP,.ret (.loc 2)] [some .ab,some (.a (.str [])),some (.a T)] ⟨post,k,o⟩ []:=by
 have s1:∀J,bu (wP (n+37)) (some .ab::J) (.or_ [.val (.call 4 [.loc 0,.str [43]]),.val (.call 4 [.loc 0,.str [45]])]) ⟨start,k,o⟩ [] = .ok false ⟨start,k,o⟩ []:=fun J=>by
  apply Xa start hs<;>intro r<;>kernel_rfl
 rw[AO,aN (aE:=[some .ab,some (.a (.str [])),none]) (aF:=⟨start,k,o⟩) (L':=[]) (dk (v:=.a (.str [])) (by exact(tu ..))),aN (iI (s1 _)),aN (aE:=[some .ab,some (.a (.str [])),some (.a T)]) (dk (af rfl rfl (φ hs hp Jp))),aN (iI (aF:=⟨post,k,o⟩) (L':=[]) (by kernel_rfl))]
inductive Calm:List AV->Prop
 |nil:Calm []|rp (r):Calm (cQ::r)
noncomputable def χ{Z:Type}(f:List AV->Z)(r:List AV):Z×Z:=(f ([]),f (cQ::r))
noncomputable def WH{Z:Type}(f:List AV->Z)(r:List AV):Z×Z:=(f ([]),f (cQ::r))
theorem WI{Z:Type}{f g:List AV->Z}(l:List AV)(h:Calm l)(k:∀r,χ f r=WH g r):f l=g l:=by
 cases h with
 |nil=>exact aY (fun x=>x.1) (k [])|rp r=>exact aY (fun x=>x.2) (k r)
theorem Calm.quiet{r:List AV}(h:Calm r):Quiet r:=by cases h<;>constructor
theorem Xc(hs:kM start)(hp:Calm post)(Jp:cP (n+35) 25 [.ab] ⟨start,k,o⟩= .ok (.a T) ⟨post,k,o⟩ []):cP (n+38) 22 [.ab] ⟨start,k,o⟩= .ok (.a T) ⟨post,k,o⟩ []:=by
 refine d6 kE (by decide) rfl rfl (L:=[]) ?_ rfl
 show al (wP (n+37)) 5000 ef [some .ab,none,none] _ _=_;have s2:∀J,bu (wP (n+37)) (some .ab::J) vz ⟨post,k,o⟩ [] = .ok false ⟨post,k,o⟩ []:=fun J=>by(apply WI post hp;intro r;kernel_rfl)
 rw[sC hs hp.quiet Jp,aN (aE:=[some .ab,some (.a (.str [])),some (.a T)]) (aF:=⟨post,k,o⟩) (L':=[])]
 ·exact bb (dJ (v:=.a T) (by refine .trans (eI ..)<|?_;rfl) rfl)
 ·refine .trans (gf ..)<|?_;exact et (n:=4999) (s2 _)
noncomputable def d7(T:AV):AV:=.tup [.str [98,105,110],.str [43],T,.tup [.str [105,110,116],.int 1]]
theorem WJ(hs:kM start)(Jp:cP (n+35) 25 [.ab] ⟨start,k,o⟩= .ok (.a T) ⟨[Cp,Cm 1],k,o⟩ []):cP (n+38) 22 [.ab] ⟨start,k,o⟩= .ok (.a (d7 T)) ⟨[],k,o⟩ []:=by
 refine d6 kE (by decide) rfl rfl (L:=[]) ?_ rfl
 show al (wP (n+37)) 5000 ef [some .ab,none,none] _ _=_;rw[sC hs (.pl _) Jp,aN (aE:=[some .ab,some (.a (.str [43])),some (.a (d7 T))]) (aF:=⟨[],k,o⟩) (L':=[])]
 ·exact bb (dJ (v:=.a (d7 T)) (by refine .trans (eI ..)<|?_;rfl) rfl)
 ·refine .trans (gf ..)<|?_
  refine(jC (n:=4999) (aE:=[some .ab,some (.a (.str [43])),some (.a (d7 T))]) (aF:=⟨[Cp,Cm 1],k,o⟩) (L':=[]) (fj:=⟨[],k,o⟩) (jg:=[]) (by kernel_rfl) (by kernel_rfl)).trans ?_
  exact et (n:=4998) (by kernel_rfl)
theorem Gm{T':AV}{Y:S2}(hp:Calm post)(h:cP (n+38) 22 [.ab] Y = .ok (.a T) ⟨post,0,o⟩ [])(hT:wU T=true):cP (n+39) 17 [.ab] Y = .ok (.a T) ⟨post,0,o⟩ []:=by
 refine d6 sx (by decide) rfl rfl (L:=[]) ?_ rfl
 show al (wP (n+38)) 5000 jN [some .ab] _ _=_;have WK:cP (n+38) 21 [.ab,.a T] ⟨post,0,o⟩= .ok (.a T) ⟨post,0,o⟩ []:=by(apply WI post hp;intro r;kernel_rfl)
 have WL:cP (n+38) 19 [.ab,.a T] ⟨post,0,o⟩= .ok (.a T) ⟨post,0,o⟩ []:=by(apply WI post hp;intro r;kernel_rfl)
 have S7:cP (n+38) 14 [.ab,.a T] ⟨post,0,o⟩= .ok (.a T) ⟨post,0,o⟩ []:=by
  refine d6 j5 (by decide) rfl rfl (L:=[]) ?_ rfl
  show al (wP (n+37)) 5000 eE [some .ab,some (.a T)] _ _=_;have WM:cP (n+37) 11 [.ab,.a T] ⟨post,0,o⟩= .ok (.a .none) ⟨post,0,o⟩ []:=by
   show(match rq 11 [.ab,.a T] ⟨post,0,o⟩ with|some r=>r|none=>_:O2 V2)=_
   rw[Gl hT]
  unfold eE;rw[aN (aE:=[some .ab,some (.a T)]) (aF:=⟨post,0,o⟩) (L':=[])]
  ·exact bb (dJ (v:=.a T) (by refine .trans (eI ..)<|?_;rfl) rfl)
  ·have tt:bu (wP (n+37)) [some .ab,some (.a T)] (.cmp .eq (.attr (.loc 0) [110,101,115,116]) (.int 0)) ⟨post,0,o⟩ [] = .ok true ⟨post,0,o⟩ []:=by kernel_rfl
   exact .trans (cr tt ..)<|.trans (aN (cR (af rfl rfl WM)) ..)<|(fF ..)
 unfold jN;refine bb (dJ (af (dZ (v:=.ab) (by refine .trans (eI ..)<|?_;rfl) (dH (af (dZ (v:=.ab) (by refine .trans (eI ..)<|?_;rfl) (dH (af (dZ (v:=.ab) (by refine .trans (eI ..)<|?_;rfl) (dH (af rfl rfl h))) rfl WK))) rfl WL))) rfl S7) rfl)
theorem Od{Y:S2}(h:cP (n+38) 28 [.ab] Y = .ok (.a T) ⟨post,0,o⟩ [])(hT:wU T=true):cP (n+39) 27 [.ab] Y = .ok (.a T) ⟨post,0,o⟩ []:=by
 refine d6 lG (by decide) rfl rfl (L:=[]) ?_ rfl
 show al (wP (n+38)) 5000 f9 [some .ab] _ _=_;have S7:cP (n+38) 14 [.ab,.a T] ⟨post,0,o⟩= .ok (.a T) ⟨post,0,o⟩ []:=by
  refine d6 j5 (by decide) rfl rfl (L:=[]) ?_ rfl
  show al (wP (n+37)) 5000 eE [some .ab,some (.a T)] _ _=_;have WM:cP (n+37) 11 [.ab,.a T] ⟨post,0,o⟩= .ok (.a .none) ⟨post,0,o⟩ []:=by
   show(match rq 11 [.ab,.a T] ⟨post,0,o⟩ with|some r=>r|none=>_:O2 V2)=_
   rw[Gl hT]
  unfold eE;rw[aN (aE:=[some .ab,some (.a T)]) (aF:=⟨post,0,o⟩) (L':=[])]
  ·exact bb (dJ (v:=.a T) (by refine .trans (eI ..)<|?_;rfl) rfl)
  ·have tt:bu (wP (n+37)) [some .ab,some (.a T)] (.cmp .eq (.attr (.loc 0) [110,101,115,116]) (.int 0)) ⟨post,0,o⟩ [] = .ok true ⟨post,0,o⟩ []:=by kernel_rfl
   exact .trans (cr tt ..)<|.trans (aN (cR (af rfl rfl WM)) ..)<|(fF ..)
 unfold f9;exact bb (dJ (af (dZ (v:=.ab) (by refine .trans (eI ..)<|?_;rfl) (dH (af rfl rfl h))) rfl S7) rfl)
theorem Bh{Y:S2}(h:cP (n+38) 28 [.ab] Y = .exc false):cP (n+39) 27 [.ab] Y = .exc false:=by
 refine vx (m:=false) lG (by decide) rfl rfl ?_
 show al (wP (n+38)) 5000 f9 [some .ab] _ _=_;unfold f9;refine kL (Jo ?_);refine .trans (l4 ..)<|.trans (dA (rh ..))<|?_
 have e0:bQ (wP (n+38)) [some .ab] (.loc 0) Y [] = .ok .ab Y []:=by refine .trans (eI ..)<|?_;rfl
 have e1:eH (wP (n+38)) [some .ab] [.call 28 [.loc 0]] Y [] = .exc false:=by
  refine .trans (rh ..)<|.trans (dA (iX rfl rfl h ..))<|?_;rfl
 rw[e0];show((eH (wP (n+38)) [some .ab] [.call 28 [.loc 0]] Y []).bind fun vs Y L=>O2.ok (V2.ab::vs) Y L).bind _=_;rw[e1];rfl
end
inductive Shape:AV->Prop
 |nm (a):Shape (.tup [.str [110,97,109,101],a])|all (a):Shape (.tup [.str [97,108,108],a])|sel (a b):Shape (.tup [.str [115,101,108,101,99,116],a,b])|app (a b):Shape (.tup [.str [97,112,112,108,121],a,b])|tick (a b c):Shape (.tup [.str [116,105,99,107],a,b,c])
theorem yQ:∀t:bO,Shape t.av
 |.nm m=>.nm _|.sy s p=>.app _ _|.dt t .all=>.all _|.dt t .field=>.sel _ _|.dt t (.sy U)=>.sel _ _|.dt t .b=>.sel _ _|.dt t .g=>.sel _ _|.tick t a=>.tick _ _ _|.d4 t a b=>.tick _ _ _|.app t b=>.app _ _
inductive sD:AV->AV->Prop
 |paren {T}:Shape T->sD T (.tup [.str [112,97,114,101,110],T])|qual (a b):sD (.tup [.str [113,117,97,108],a,b]) (.tup [.str [113,117,97,108],a,b])
noncomputable def Xd{Z:Type}(f:AV->Z)(a:AV)(b:AV)(c:AV):Z×Z×Z×Z×Z:=(f (.tup [.str [110,97,109,101],a]),f (.tup [.str [97,108,108],a]),f (.tup [.str [115,101,108,101,99,116],a,b]),f (.tup [.str [97,112,112,108,121],a,b]),f (.tup [.str [116,105,99,107],a,b,c]))
noncomputable def S8{Z:Type}(f:AV->Z)(a:AV)(b:AV)(c:AV):Z×Z×Z×Z×Z:=(f (.tup [.str [110,97,109,101],a]),f (.tup [.str [97,108,108],a]),f (.tup [.str [115,101,108,101,99,116],a,b]),f (.tup [.str [97,112,112,108,121],a,b]),f (.tup [.str [116,105,99,107],a,b,c]))
theorem Xe{Z:Type}{f g:AV->Z}(l:AV)(h:Shape l)(k:∀a b c,Xd f a b c=S8 g a b c):f l=g l:=by
 cases h with
 |nm a=>exact aY (fun x=>x.1) (k a a a)|all a=>exact aY (fun x=>x.2.1) (k a a a)|sel a b=>exact aY (fun x=>x.2.2.1) (k a b a)|app a b=>exact aY (fun x=>x.2.2.2.1) (k a b a)|tick a b c=>exact aY (fun x=>x.2.2.2.2) (k a b c)
theorem Tf{Z:Type}{f g:AV->AV->Z}(T aj:AV)(h:sD T aj)(k1:∀a b c,Xd (fun T=>f T (.tup [.str [112,97,114,101,110],T])) a b c=S8 (fun T=>g T (.tup [.str [112,97,114,101,110],T])) a b c)
  (k2:∀a b,f (.tup [.str [113,117,97,108],a,b]) (.tup [.str [113,117,97,108],a,b])=g (.tup [.str [113,117,97,108],a,b]) (.tup [.str [113,117,97,108],a,b])):f T aj=g T aj:=by
 cases h with
 |paren h=>exact Xe (f:=fun T=>f T (.tup [.str [112,97,114,101,110],T])) T h k1|qual a b=>exact k2 a b
section
variable{n:Nat}{o:List (Nat×Nat)}{start:List AV}{T aj:AV}
theorem ψ(hs:Start start)(hU:sD T aj)(hN:cP (n+34) 28 [.ab] ⟨start,1,o⟩= .ok (.a T) ⟨[cQ],1,o⟩ []):cP (n+39) 32 [.ab] ⟨start,1,o⟩= .ok (.a T) ⟨[cQ],1,o⟩ []:=by
 refine d6 pL (by decide) rfl rfl (L:=[]) ?_ rfl
 show al (wP (n+38)) 5000 iC [some .ab,none] _ _=_;have s1:bu (wP (n+38)) [some .ab,none] (.val (.call 7 [.loc 0,.str [111,116,104,101,114,115]])) ⟨start,1,o⟩ [] = .ok false ⟨start,1,o⟩ []:=by
  apply WG start hs<;>intro r<;>kernel_rfl
 have ω:=Xc (.of hs) (.rp []) (Xb hs hN);have Δ:cP (n+38) 31 [.ab,.a T] ⟨[cQ],1,o⟩= .ok (.a T) ⟨[cQ],1,o⟩ []:=by
  apply Tf T aj hU<;>intros<;>kernel_rfl
 have s3:bu (wP (n+38)) [some .ab,some (.a T)] (.and_ [.cmp .ne (.sub (.loc 1) (.int 0)) (.str [114,97,110,103,101]),.cmp .ne (.sub (.loc 1) (.int 0)) (.str [115,117,98])]) ⟨[cQ],1,o⟩ [] = .ok true ⟨[cQ],1,o⟩ []:=by
  apply Tf T aj hU<;>intros<;>kernel_rfl
 have WK:cP (n+38) 21 [.ab,.a T] ⟨[cQ],1,o⟩= .ok (.a T) ⟨[cQ],1,o⟩ []:=by kernel_rfl
 have WL:cP (n+38) 19 [.ab,.a T] ⟨[cQ],1,o⟩= .ok (.a T) ⟨[cQ],1,o⟩ []:=by kernel_rfl
 have S7:cP (n+38) 14 [.ab,.a T] ⟨[cQ],1,o⟩= .ok (.a T) ⟨[cQ],1,o⟩ []:=by kernel_rfl
 have l0:∀(J:bS)(Y:S2)(L:aC),bQ (wP (n+38)) (some .ab::J) (.loc 0) Y L = .ok .ab Y L:=fun J Y L=>by refine .trans (eI ..)<|?_;rfl
 have l1:∀(Y:S2)(L:aC),bQ (wP (n+38)) [some .ab,some (.a T)] (.loc 1) Y L = .ok (.a T) Y L:=fun Y L=>by refine .trans (eI ..)<|?_;rfl
 unfold iC;rw[aN (iI s1),aN (aE:=[some .ab,some (.a T)]) (dk (af (dZ (l0 _ _ _) (dH (af (dH (l0 _ _ _)) rfl ω))) rfl Δ)),
  aN (aE:=[some .ab,some (.a T)]) (aF:=⟨[cQ],1,o⟩) (L':=[])]
 ·exact bb (dJ (af (dZ (l0 _ _ _) (dH (l1 _ _))) rfl S7) rfl)
 ·exact .trans (cr s3 ..)<|.trans (aN (aE:=[some .ab,some (.a T)]) (dk (af (dZ (l0 _ _ _) (dH (af (dZ (l0 _ _ _) (dH (l1 _ _))) rfl WK))) rfl WL)) ..)<|(fF ..)
theorem DF(hU:sD T aj)(hp:plain aw T=true):dz .eq T (.tup [.str [111,116,104,101,114,115]])=some false:=by
 have e:∀l,T = .tup l->dz .eq T (.tup [.str [111,116,104,101,114,115]])=if plain aw T&&plain aw (.tup [.str [111,116,104,101,114,115]]) then some (eqB T (.tup [.str [111,116,104,101,114,115]])) else none:=by
  rintro l rfl;rfl
 have q:plain aw (.tup [.str [111,116,104,101,114,115]])=true:=by decide
 cases hU with
 |paren h=>cases h<;>((refine .trans (e _ rfl ..)<|?_;rw[hp,q,Bool.and_self,aO rfl]);rfl)|qual a b=>(refine .trans (e _ rfl ..)<|?_;rw[hp,q,Bool.and_self,aO rfl]);rfl
theorem WN(hs:Start start)(hU:sD T aj)(hp:plain aw T=true)(hN:cP (n+34) 28 [.ab] ⟨start,1,o⟩= .ok (.a T) ⟨[cQ],1,o⟩ []):cP (n+40) 33 [.ab] ⟨start,1,o⟩= .ok (.a (.tup [.none,T])) ⟨[cQ],1,o⟩ []:=by
 refine d6 tA (by decide) rfl rfl (L:=[]) ?_ rfl
 show al (wP (n+39)) 5000 jO [some .ab,none,none] _ _=_;have t1:bu (wP (n+39)) [some .ab,some (.a T),none] (.and_ [.not_ (.val (.call 4 [.loc 0,.str [124]])),.not_ (.val (.call 4 [.loc 0,.str [61,62]]))]) ⟨[cQ],1,o⟩ [] = .ok true ⟨[cQ],1,o⟩ []:=by kernel_rfl
 have e1:bQ (wP (n+39)) [some .ab,some (.a T),none] (.loc 1) ⟨[cQ],1,o⟩ [] = .ok (.a T) ⟨[cQ],1,o⟩ []:=by refine .trans (eI ..)<|?_;rfl
 have e2:bQ (wP (n+39)) [some .ab,some (.a T),none] (.tup [.str [111,116,104,101,114,115]]) ⟨[cQ],1,o⟩ [] = .ok (.a (.tup [.str [111,116,104,101,114,115]])) ⟨[cQ],1,o⟩ []:=by kernel_rfl
 have t2:bu (wP (n+39)) [some .ab,some (.a T),none] (.cmp .eq (.loc 1) (.tup [.str [111,116,104,101,114,115]])) ⟨[cQ],1,o⟩ [] = .ok false ⟨[cQ],1,o⟩ []:=by
  refine .trans (F7 ..)<|.trans (dA (e1 ..))<|?_
  show((bQ (wP (n+39)) [some .ab,some (.a T),none] (.tup [.str [111,116,104,101,114,115]]) ⟨[cQ],1,o⟩ []).bind fun y Y L=>dG Y L (eT (wP (n+39)).s .eq (cV L (.a T)) (cV L y)))=_;refine .trans (dA (e2 ..))<|?_
  show dG _ _ (dz .eq T (.tup [.str [111,116,104,101,114,115]]))=_;rw[DF hU hp];rfl
 unfold jO;refine .trans (aN (aE:=[some .ab,some (.a T),none]) (dk (af rfl rfl (ψ hs hU hN))) ..)<|?_
 refine bb ?_;refine .trans (cr t1 ..)<|.trans (aN (iI t2) ..)<|?_
 exact bb (dJ (Gc (dZ (v:=.a .none) (by rw[LQ]) (dH e1)) rfl) rfl)
theorem WO(hs:Start start)(hU:sD T aj)(hp:plain aw T=true)(hN:cP (n+34) 28 [.ab] ⟨start,1,o⟩= .ok (.a T) ⟨[cQ],1,o⟩ []):cP (n+41) 34 [.ab] ⟨start,1,o⟩= .ok (.a (.lst [.tup [.none,T]])) ⟨[cQ],1,o⟩ []:=by
 have no:∀L J,bu (wP (n+40)) (some .ab::J) (.val (.call 6 [.loc 0,.str [44]])) ⟨[cQ],1,o⟩ L = .ok false ⟨[cQ],1,o⟩ L:=fun L J=>iG (jg:=[]) rfl rfl (by kernel_rfl)
 refine d6 jP (by decide) rfl rfl (L:=[.dead [.tup [.none,T]]]) ?_ rfl
 refine(aN (ru (af rfl rfl (WN hs hU hp hN)))).trans ?_;refine(aN (aE:=[some .ab,some (.fW 0),none]) (aF:=⟨[cQ],1,o⟩) (L':=[.list [.tup [.none,T]]]) ?_).trans ?_
 ·refine .trans (gf ..)<|?_
  exact et (n:=4999) (no _ _)
 ·rfl
theorem WP(hs:Start start)(hU:sD T aj)(hp:plain aw T=true)(hN:cP (n+34) 28 [.ab] ⟨start,1,o⟩= .ok (.a T) ⟨[cQ],1,o⟩ []):cP (n+42) 36 [.ab] ⟨im::start,0,o⟩= .ok (.a aj) ⟨[],0,o⟩ []:=by
 refine d6 pM (by decide) rfl rfl (L:=[]) ?_ rfl
 show al (wP (n+41)) 5000 iD [some .ab,none,none] _ _=_;have c8:∀r,cP (n+41) 8 [.ab,.a (.str [40])] ⟨im::r,0,o⟩= .ok (.a .none) ⟨r,0,o⟩ []:=fun r=>by kernel_rfl
 have Θ:∀r,cP (n+41) 12 [.ab] ⟨r,0,o⟩= .ok (.a .none) ⟨r,1,o⟩ []:=fun r=>by kernel_rfl
 have t1:∀J,bu (wP (n+41)) (some .ab::J) (.and_ [.val (.call 5 [.loc 0,.str [110,117,108,108]]),.val (.call 5 [.loc 0,.str [114,101,99,111,114,100],.int 1])]) ⟨start,1,o⟩ [] = .ok false ⟨start,1,o⟩ []:=fun J=>by
  apply WG start hs<;>intro r<;>kernel_rfl
 have Ξ:cP (n+41) 37 [.ab,.a (.lst [.tup [.none,T]])] ⟨[cQ],1,o⟩= .ok (.a .none) ⟨[cQ],1,o⟩ []:=by
  apply Tf T aj hU<;>intros<;>kernel_rfl
 have t2:bu (wP (n+41)) [some .ab,none,some (.a (.lst [.tup [.none,T]]))] (.and_ [.cmp .eq (.bi .len [.loc 2]) (.int 1),.cmp .is (.sub (.sub (.loc 2) (.int 0)) (.int 0)) .none]) ⟨[cQ],1,o⟩ [] = .ok true ⟨[cQ],1,o⟩ []:=by kernel_rfl
 have Φ:cP (n+41) 38 [.ab,.a T] ⟨[cQ],1,o⟩= .ok (.a aj) ⟨[cQ],1,o⟩ []:=by
  apply Tf T aj hU<;>intros<;>kernel_rfl
 have Ψ:eH (wP (n+41)) [some .ab,none,some (.a (.lst [.tup [.none,T]]))] [.loc 0,.sub (.sub (.loc 2) (.int 0)) (.int 1)] ⟨[cQ],1,o⟩ [] = .ok [.ab,.a T] ⟨[cQ],1,o⟩ []:=by kernel_rfl
 have Ω:cP (n+41) 8 [.ab,.a (.str [41])] ⟨[cQ],1,o⟩= .ok (.a .none) ⟨[],1,o⟩ []:=by kernel_rfl
 have c13:cP (n+41) 13 [.ab] ⟨[],1,o⟩= .ok (.a .none) ⟨[],0,o⟩ []:=by kernel_rfl
 unfold iD;rw[aN (cR (af rfl rfl (c8 _))),aN (cR (af rfl rfl (Θ _))),
  aN (aE:=[some .ab,some (.a aj),some (.a (.lst [.tup [.none,T]]))]) (aF:=⟨[cQ],1,o⟩) (L':=[])]
 ·refine .trans (aN (cR (af rfl rfl Ω)) ..)<|.trans (aN (cR (af rfl rfl c13)) ..)<|?_
  exact bb (dJ (v:=.a aj) (by rw[eI];rfl) rfl)
 ·rw[fJ (t1 _),aN (aE:=[some .ab,none,some (.a (.lst [.tup [.none,T]]))]) (dk (af rfl rfl (WO hs hU hp hN))),aN (cR (af rfl rfl Ξ)),
   aN (aE:=[some .ab,some (.a aj),some (.a (.lst [.tup [.none,T]]))]) (aF:=⟨[cQ],1,o⟩) (L':=[])]
  ·exact(fF ..)
  ·exact .trans (cr t2 ..)<|.trans (aN (aE:=[some .ab,some (.a aj),some (.a (.lst [.tup [.none,T]]))]) (dk (af Ψ rfl Φ)) ..)<|(fF ..)
noncomputable def uH:List Sx:=[.iM [1,2,3] (.call 1 [.loc 0]),
 .ite (.or_ [.cmp .eq (.loc 1) (.str [105,110,116]),.cmp .eq (.loc 1) (.str [99,104,97,114])]) [.g9 (.loc 0) [97,116] .add (.int 1),.ret (.tup [.loc 1,.loc 2])] [],
 .ite (.cmp .eq (.loc 1) (.str [114,101,97,108])) [.ag,.ag] [],
 .ite (.and_ [.cmp .eq (.loc 1) (.str [115,116,114,105,110,103]),.not_ (.val (.call 4 [.loc 0,.str [40],.int 1]))]) [.g9 (.loc 0) [97,116] .add (.int 1),.ret (.tup [.str [115,116,114,105,110,103],.loc 2])] []]
theorem yR:eG=uH++[.ite (.and_ [.cmp .eq (.loc 1) (.str [111,112]),.cmp .eq (.loc 2) (.str [40])]) [.ret (.call 36 [.loc 0])] [],
 .ite (.val (.call 7 [.loc 0,.str [110,117,108,108]])) [.ag] [],.ite (.val (.call 7 [.loc 0,.str [110,101,119]])) [.ag] [],.ret (.call 28 [.loc 0])]:=rfl
theorem WQ(hs:Start start)(hU:sD T aj)(hp:plain aw T=true)(hN:cP (n+34) 28 [.ab] ⟨start,1,o⟩= .ok (.a T) ⟨[cQ],1,o⟩ []):cP (n+43) 25 [.ab] ⟨im::start,0,o⟩= .ok (.a aj) ⟨[],0,o⟩ []:=by
 refine d6 j6 (by decide) rfl rfl (L:=[]) ?_ rfl
 show al (wP (n+42)) 5000 eG [some .ab,none,none,none] _ _=_;have h4:∀r,al (wP (n+42)) 5000 uH [some .ab,none,none,none] ⟨im::r,0,o⟩ [] = .ok (.nx [some .ab,some (.a (.str [111,112])),some (.a (.str [40])),some (.a (.int 1))]) ⟨im::r,0,o⟩ []:=fun r=>by kernel_rfl
 have t5:∀r,bu (wP (n+42)) [some .ab,some (.a (.str [111,112])),some (.a (.str [40])),some (.a (.int 1))] (.and_ [.cmp .eq (.loc 1) (.str [111,112]),.cmp .eq (.loc 2) (.str [40])]) ⟨im::r,0,o⟩ [] = .ok true ⟨im::r,0,o⟩ []:=fun r=>by kernel_rfl
 rw[yR,dI (h4 _)];refine bb ?_;refine .trans (cr (t5 _) ..)<|?_
 exact bb (dJ (af rfl rfl (WP hs hU hp hN)) rfl)
theorem WS(hs:Start start)(hU:sD T aj)(hp:plain aw T=true)(hh:wU aj=true)(hN:cP (n+34) 28 [.ab] ⟨start,1,o⟩= .ok (.a T) ⟨[cQ],1,o⟩ []):cP (n+47) 17 [.ab] ⟨im::start,0,o⟩= .ok (.a aj) ⟨[],0,o⟩ []:=
 Gm (n:=n+8) (T':=aj) .nil (Xc (n:=n+8) (.lp _) .nil (WQ hs hU hp hN)) hh
end
noncomputable def Tg(v:AV)(x:List Nat):Bool:=match v with
 |.str s=>s==x|_=>false
noncomputable def Oe(k:List Nat)(v:AV):Bool:=
 k==[110,97,109,101]||(k==[115,116,114,105,110,103]||((k==[111,112]&&Tg v [41])||(k==[119,111,114,100]&&Tg v [97,108,108])))
noncomputable def yS(toks:List AV):Bool:=match toks.getLast? with
 |some (.tup [.str k,v,U])=>Oe k v|_=>false
noncomputable def AP(toks:List AV):Option Bool:=match toks with
 |[]=>none|t::l=>some (yS (t::l))
noncomputable def Bi(pb:Option Bool):Prim:=fun f args Y=>if f=48 then Ni args fun x=>Nj LL x (pb.map fun b=>.ok (.a (.bool b)) Y []) else none
noncomputable def zL(c0:aC)(T:List Nat)(p it:Nat):Cz:={jf:=fun U=>c0,inv:=fun U=>True,n0:=c0.length,T:=T,p:=p,s:=T.drop p,H:=.none,it:=it,rd:=false,gl:=gl}
theorem S9{p it:Nat}(hc:cl c0)(hp:p<=T.length)(hT:T.length<=90000):(zL c0 T p it).Ok:=
 ⟨fun U U=>rfl,fun U U=>hc,⟨rfl,hp⟩,hT,bm _,nI,(fun h=>by exact eK h),(fun h=>by exact eK h),(fun h=>by exact eK h)⟩
noncomputable def fN(t:AV):Prop:=∃k v,t=tk k v/\aH 0 v=true/\((k=[111,112]\/k=[119,111,114,100])->∃s,v = .str s)
theorem fN.clean(h:fN t):aH 0 t=true:=by
 refine ip h fun k v fu hv U=>?_;subst fu;unfold tk
 (refine .trans (bv ..)<|?_;rw[ae])
 intro w hw;simp at hw;rcases hw with rfl|rfl|rfl
 ·exact a9 _ _
 ·exact hv
 ·exact aa _ _
theorem wA{m it:Nat}(ht:fN t)(hc:c[it]?=some (.list (pre++[t])))(hl:pre.length+1<=1000)(pj:cl c):bL fns ini gl 5000 (m+1) 48 [.ref it] c = .ok (.bool (yS (pre++[t]))) c:=by
 refine ip ht fun k v fu hv hs=>?_;subst fu;have e0:yS (pre++[tk k v])=Oe k v:=by unfold yS;rw[List.getLast?_append];rfl
 rw[e0,bL,vY];dsimp only;unfold d3;generalize({call:=bL fns ini gl 5000 m,make:=_,gl:=gl}:dP)=W;have hd:c7 c (.ref it) = .lst (pre++[tk k v]):=by unfold c7;dsimp only;rw[hc]
 have hlen:builtin c .len [.ref it]=some (.int ((pre++[tk k v]).length:Int)):=by
  show(match c7 c (.ref it) with| .str s=>_| .tup l=>_| .lst l=>if l.length<=aJ then some (AV.int l.length) else none|_=>none:Option AV)=_
  rw[hd];dsimp only;exact(aO (by rw[cB,bR];simp;omega) ..)
 have xO:(pre++[tk k v]).length=pre.length+1:=by simp
 have O1:gm c (.ref it) (.int (((pre++[tk k v]).length:Int)-1))=some (tk k v):=by
  refine .trans (nA hd (by intro j q;cases q) (by intro k q;cases q) ..)<|?_
  show(if(pre++[tk k v]).length<=aJ then(place (pre++[tk k v]).length (((pre++[tk k v]).length:Int)-1)).bind ((pre++[tk k v])[·]?) else none)=_
  (refine .trans (aO (by rw[xO,bR];omega) ..)<|?_;rw[xO,show((pre.length+1:Nat):Int)-1=(pre.length:Int) by omega,gv (Nat.lt_succ_self _),Option.bind_some])
  simp
 have lv:∀(a b:AV),∀x,x=0->True:=fun U U U U=>trivial;have E:dR W 5000 iS [some (.ref it),none,none,none] c = .ok (.rt (.bool (Oe k v))) c:=by
  unfold iS;have l0:∀J,ev W (some (.ref it)::J) (.loc 0) c = .ok (.ref it) c:=fun J=>by refine .trans (cM ..)<|?_;rfl
  have i0:∀J i,ev W J (.int i) c = .ok (.int i) c:=fun J i=>by exact(mB ..)
  have s0:∀J s,ev W J (.str s) c = .ok (.str s) c:=fun J s=>by exact(w5 ..)
  have len:∀J,ev W (some (.ref it)::J) (.bi .len [.loc 0]) c = .ok (.int ((pre++[tk k v]).length:Int)) c:=fun J=>by
   have:eV W (some (.ref it)::J) [.loc 0] c = .ok [.ref it] c:=by refine .trans (bY ..)<|.trans (ob (l0 _) ..)<|.trans (dc (cI ..))<|?_;rfl
   (refine .trans (kn ..)<|.trans (ob this ..)<|?_;rw[hlen]);rfl
  have t1:eS W [some (.ref it),none,none,none] (.cmp .eq (.bi .len [.loc 0]) (.int 0)) c = .ok false c:=by
   refine .trans (fS ..)<|.trans (ob (len _) ..)<|.trans (ob (i0 _ _) ..)<|?_
   show bp c (some (((pre++[tk k v]).length:Int)==0))=_;have:(((pre++[tk k v]).length:Int)==0)=false:=by rw[beq_eq_false_iff_ne,xO];omega
   rw[this];rfl
  have e1:ev W [some (.ref it),none,none,none] (.sub (.loc 0) (.bin .sub (.bi .len [.loc 0]) (.int 1))) c = .ok (tk k v) c:=by
   have b1:ev W [some (.ref it),none,none,none] (.bin .sub (.bi .len [.loc 0]) (.int 1)) c = .ok (.int (((pre++[tk k v]).length:Int)-1)) c:=by
    refine .trans (n9 ..)<|.trans (ob (len _) ..)<|.trans (ob (i0 _ _) ..)<|?_;rfl
   (refine .trans (j2 ..)<|.trans (ob (l0 _) ..)<|.trans (ob b1 ..)<|?_;rw[O1]);rfl
  have u1:ex W 5000 (.iM [1,2,3] (.sub (.loc 0) (.bin .sub (.bi .len [.loc 0]) (.int 1)))) [some (.ref it),none,none,none] c = .ok (.nx [some (.ref it),some (.str k),some v,some (.int 1)]) c:=by
   refine .trans (yv ..)<|.trans (ob e1 ..)<|?_;rfl
  refine .trans (bM (ce t1 |>.trans (by rw[aV (by decide),iO])) ..)<|.trans (bM u1 ..)<|.trans (bw ..)<|.trans (mF ..)<|?_
  generalize bB:[some (AV.ref it),some (.str k),some v,some (.int 1)]=J;have q1:ev W J (.loc 1) c = .ok (.str k) c:=by(refine .trans (cM ..)<|?_;rw[<-bB]);rfl
  have q2:ev W J (.loc 2) c = .ok v c:=by(refine .trans (cM ..)<|?_;rw[<-bB]);rfl
  have c1:∀s,ev W J (.cmp .eq (.loc 1) (.str s)) c = .ok (.bool (k==s)) c:=fun s=>by
   refine .trans (w7 ..)<|.trans (ob q1 ..)<|.trans (ob (s0 _ _) ..)<|?_;rfl
  have c2:∀s s',v = .str s'->ev W J (.cmp .eq (.loc 2) (.str s)) c = .ok (.bool (s'==s)) c:=fun s s' h=>by
   subst h;refine .trans (w7 ..)<|.trans (ob q2 ..)<|.trans (ob (s0 _ _) ..)<|?_;rfl
  have orr:∀{a b:Ex}{x y:Bool},ev W J a c = .ok (.bool x) c->(x=false->ev W J b c = .ok (.bool y) c)->ev W J (.or_ a b) c = .ok (.bool (x||y)) c:=by
   intro a b x y ha hb;refine .trans (Af ..)<|.trans (ob ha ..)<|?_
   cases x with
   |true=>rfl|false=>exact hb rfl
  have Sa:∀{a b:Ex}{x y:Bool},ev W J a c = .ok (.bool x) c->(x=true->ev W J b c = .ok (.bool y) c)->ev W J (.and_ a b) c = .ok (.bool (x&&y)) c:=by
   intro a b x y ha hb;refine .trans (Dj ..)<|.trans (ob ha ..)<|?_
   cases x with
   |false=>rfl|true=>exact hb rfl
  have a1:ev W J (.and_ (.cmp .eq (.loc 1) (.str [111,112])) (.cmp .eq (.loc 2) (.str [41]))) c = .ok (.bool (k==[111,112]&&Tg v [41])) c:=by
   refine Sa (c1 _) fun h=>?_;rw[beq_iff_eq]at h;obtain⟨s',rfl⟩:=hs (.inl h);exact c2 _ _ rfl
  have a2:ev W J (.and_ (.cmp .eq (.loc 1) (.str [119,111,114,100])) (.cmp .eq (.loc 2) (.str [97,108,108]))) c = .ok (.bool (k==[119,111,114,100]&&Tg v [97,108,108])) c:=by
   refine Sa (c1 _) fun h=>?_;rw[beq_iff_eq]at h;obtain⟨s',rfl⟩:=hs (.inr h);exact c2 _ _ rfl
  refine .trans (ob (orr (c1 _) fun U=>orr (c1 _) fun U=>orr a1 fun U=>a2) ..)<|?_
  rfl
 show(if 1=1 then(match dR W 5000 iS [some (.ref it),none,none,none] c with
  |.ok (.rt v) c'=>back c.length v c' fun c=>.ok v c|.ok (.nx U) c'=>back c.length .none c' fun c=>.ok .none c|.ok (.bk U) bG=>.fail|.exc U c'=>back c.length .none c' fun c=>.exc false c|.fail=>.fail) else .fail)=_
 (refine .trans (aO rfl ..)<|?_;rw[E])
 dsimp only;unfold back;rw[cj,List.take_length,Bool.true_and,aO];rw[List.all_eq_true];exact fun x hx=>bN _ (gD.mp pj x hx)
theorem qH{α:Type}:∀{l:List α},l≠[]->∃ms n,l=ms++[n]
 |[],h=>aX rfl h|[x],U=>⟨[],x,rfl⟩|x::y::l,U=>let⟨ms,n,e⟩:=qH (l:=y::l) (by simp);⟨x::ms,n,by rw[e];rfl⟩
inductive Gn(pb:Option Bool)(Y:S2):Nat->List V2->O2 V2->Prop
 |mk (b:Bool) (eb:pb=some b):Gn pb Y 48 [.xq] (.ok (.a (.bool b)) Y [])
theorem Jq{f:Nat}(e:Bi pb f args Y=some r):Gn pb Y f args r:=by
 obtain⟨rfl,e2⟩:=Ho (show(if f=48 then _ else _)=_ from e)
 clear e;induction FW e2 with|mk x e3=>?_
 clear e2;obtain⟨h,e4⟩:=Rh e3;obtain rfl:=FY h;induction i7 e4 with|mk b eb=>?_
 exact⟨_,eb⟩
theorem Go{p:Nat}(ht:∀t∈toks,fN t)(hl:toks.length<=1000)(hc:cl (c1++[.list toks])):lc (zL (c1++[.list toks]) T p c1.length) fns ini 5000 10 (Bi (AP toks)):=by
 intro f args Y r e m R hm ay hR ha hi;induction Jq e with|mk b eb=>?_
 clear e;obtain⟨m,rfl⟩:∃k,m=k+1:=⟨m-1,by omega⟩
 refine⟨trivial,rfl,bK.mpr (cj _ _),?_⟩;have:iv (zL (c1++[.list toks]) T p c1.length) 0 .xq = .ref c1.length:=rfl;rw[List.map_cons,List.map_nil,this,bn];have ne:toks≠[]:=by rintro rfl;exact ak eb
 have eb':b=yS toks:=by
  cases toks with
  |nil=>exact aX rfl ne|cons t l=>obtain rfl:=bE eb;rfl
 obtain⟨pre,t,rfl⟩:∃pre t,toks=pre++[t]:=qH ne;subst eb';refine wA (ht t (by simp)) ?_ (by simpa using hl) (dY.mpr ⟨hc,hR⟩)
 show((c1++[.list (pre++[t])])++R)[c1.length]?=_;rw[b9];simp
noncomputable def du(pb:Option Bool)(s:List Nat)(tok:AV)(k:Nat):Prop:=∀n Y,eU fns gl 5000 s (Bi pb) (n+20) 51 [.txt [],.pos 0,.a (.int 1),.xq] Y = .ok (.tp [.a tok,.pos k]) Y []
theorem wB{p m:Nat}{toks:List AV}(ht:∀t∈toks,fN t)(hl:toks.length<=1000)(hc:cl (c1++[.list toks]))(hp:p<=T.length)(hT:T.length<=90000)(hm:30<=m)
  {s:List Nat} (hs:T.drop p=s) {tok:AV} {k:Nat} (h:du (AP toks) s tok k):bL fns ini gl 5000 m 51 [.str T,.int p,.int 1,.ref c1.length] (c1++[.list toks]) = .ok (.tup [tok,.int ((p+k:Nat):Int)]) (c1++[.list toks]):=by
 subst hs;have S:=jX (S9 (p:=p) (it:=c1.length) hc hp hT) gw (Go (p:=p) ht hl hc) 20 m 51 [.txt [],.pos 0,.a (.int 1),.xq] ⟨[],0,[]⟩ [] (by omega) trivial jU (fun v hv=>by
  simp at hv;rcases hv with rfl|rfl|rfl|rfl
  ·exact trivial
  ·exact trivial
  ·exact bK.mpr (aa _ _)
  ·exact trivial) rfl
 have h0:=h 0 ⟨[],0,[]⟩;rw[Nat.zero_add]at h0;have e:eU fns (zL (c1++[.list toks]) T p c1.length).gl 5000 (zL (c1++[.list toks]) T p c1.length).s (Bi (AP toks)) 20 51 [.txt [],.pos 0,.a (.int 1),.xq] ⟨[],0,[]⟩= .ok (.tp [.a tok,.pos k]) ⟨[],0,[]⟩ []:=h0;rw[e]at S;refine fK S fun U U U q=>?_;have q2:bL fns ini gl 5000 m 51 [.str (T++[]),.int p,.int 1,.ref c1.length] ((c1++[.list toks])++[]) = .ok (.tup [tok,.int ((p+k:Nat):Int)]) ((c1++[.list toks])++[]):=q;rw[List.append_nil,List.append_nil]at q2;exact q2
inductive uI:List AV->List Nat->List AV->List Nat->Prop
 |gap (toks s):uI toks (32::s) toks s|tok {toks ch s tok k}:(ch∉[32,9,13,10,12,11])->ch≠45->du (AP toks) (ch::s) tok k->fN tok->1<=k->k<=(ch::s).length->uI toks (ch::s) (toks++[tok]) ((ch::s).drop k)
inductive bX:List AV->List Nat->List AV->List Nat->Prop
 |refl (toks s):bX toks s toks s|step {t1 s1 t2 s2 t3 s3}:uI t1 s1 t2 s2->bX t2 s2 t3 s3->bX t1 s1 t3 s3
theorem bX.trans{t1 s1 t2 s2 t3 s3}(a:bX t1 s1 t2 s2)(b:bX t2 s2 t3 s3):bX t1 s1 t3 s3:=by
 induction a with
 |refl=>exact b|step h U ih=>exact .step h (ih b)
noncomputable def kN:Cd:=.cmp .lt (.loc 2) (.bi .len [.loc 0])
noncomputable def lh:List Sx:=[.ite (.cmp .nW (.sub (.loc 0) (.loc 2)) (.gl 14)) [.ite (.cmp .eq (.sub (.loc 0) (.loc 2)) (.str [10])) [.ag] [],.hJ 2 .add (.int 1)]
 [.ite (.cmp .eq (.jH (.loc 0) (.loc 2) (.bin .add (.loc 2) (.int 2))) (.str [45,45])) [.ag] [.iM [4,2] (.call 51 [.loc 0,.loc 2,.loc 3,.loc 1]),.app 1 (.loc 4)]]]
theorem Gp:iT=[.dn 1 (.lst []),.asg 2 (.int 0),.asg 3 (.int 1),.n4 kN lh,.ret (.loc 1)]:=rfl
section
variable{m:Nat}{c1:aC}{T:List Nat}
noncomputable def wM(m:Nat):dP:={call:=bL fns ini gl 5000 m,make:=fun args c=>match m with
 |0=>.fail|n+1=>fT {call:=bL fns ini gl 5000 n,make:=fun U U=>.fail,gl:=gl} 5000 ini args c,gl:=gl}
theorem uJ{m f:Nat}(h:fns[f]?=some F):bL fns ini gl 5000 (m+1) f args c=d3 (wM m) 5000 F args c:=by
 (refine .trans (kW ..)<|?_;rw[h]);rfl
theorem Gq(h0:J[0]?=some (some (.str T)))(hT:T.length<=900):ev (wM m) J (.bi .len [.loc 0]) c = .ok (.int T.length) c:=by
 have e0:ev (wM m) J (.loc 0) c = .ok (.str T) c:=by(refine .trans (cM ..)<|?_;rw[h0])
 have:eV (wM m) J [.loc 0] c = .ok [.str T] c:=by refine .trans (bY ..)<|.trans (ob e0 ..)<|.trans (dc (cI ..))<|?_;rfl
 refine .trans (kn ..)<|.trans (ob this ..)<|?_
 show bp c (if T.length<=aJ then some (AV.int T.length) else none)=_;rw[aO (by rw[bR];omega)];rfl
set_option tactic.hygienic true in
theorem Jr(hT:T.length<=900)(hc:cl c1)(hm:30<=m){toks Bj:List AV}{s s':List Nat}(hs:uI toks s Bj s'){p:Nat}(hp:p<=T.length)(hd:T.drop p=s)(hl:toks.length<=p)(hk:∀t∈toks,fN t)(x:Option AV) :
  ∃p' x',p'<=T.length/\p<p'/\T.drop p'=s'/\Bj.length<=p'/\(∀t∈Bj,fN t)/\
   dR (wM m) 5000 lh [some (.str T),some (.ref c1.length),some (.int p),some (.int 1),x] (c1++[.list toks]) = .ok (.nx [some (.str T),some (.ref c1.length),some (.int p'),some (.int 1),x']) (c1++[.list Bj])/\
   eS (wM m) [some (.str T),some (.ref c1.length),some (.int p),some (.int 1),x] kN (c1++[.list toks]) = .ok true (c1++[.list toks]):=by
 have pj:cl (c1++[.list toks]):=by
  refine dY.mpr ⟨hc,?_⟩;unfold cl
  (refine .trans (List.all_cons ..)<|?_;rw[List.all_nil,Bool.and_true])
  unfold ai;rw[ae];exact fun t ht=>(hk t ht).clean
 generalize bB:[some (AV.str T),some (.ref c1.length),some (.int (p:Int)),some (.int 1),x]=J;have e0:∀c,ev (wM m) J (.loc 0) c = .ok (.str T) c:=fun c=>by(refine .trans (cM ..)<|?_;rw[<-bB]);rfl
 have e1:∀c,ev (wM m) J (.loc 1) c = .ok (.ref c1.length) c:=fun c=>by(refine .trans (cM ..)<|?_;rw[<-bB]);rfl
 have e2:∀c,ev (wM m) J (.loc 2) c = .ok (.int p) c:=fun c=>by(refine .trans (cM ..)<|?_;rw[<-bB]);rfl
 have e3:∀c,ev (wM m) J (.loc 3) c = .ok (.int 1) c:=fun c=>by(refine .trans (cM ..)<|?_;rw[<-bB]);rfl
 have i0:∀c i,ev (wM m) J (.int i) c = .ok (.int i) c:=fun c i=>by exact(mB ..)
 have s0:∀c l,ev (wM m) J (.str l) c = .ok (.str l) c:=fun c l=>by exact(w5 ..)
 have main:∀ch r,s=ch::r->p<T.length/\(∀c,ev (wM m) J (.sub (.loc 0) (.loc 2)) c = .ok (.str [ch]) c)/\eS (wM m) J kN (c1++[.list toks]) = .ok true (c1++[.list toks]):=by
  rintro ch r rfl;have oX:p<T.length:=by
   refine Nat.lt_of_not_le fun q=>?_;rw[List.drop_eq_nil_of_le q]at hd;cases hd
  have GS:T[p]?=some ch:=by
   have:(T.drop p)[0]?=some ch:=by rw[hd];rfl
   rw[List.getElem?_drop]at this;simpa using this
  refine⟨oX,fun c=>?_,?_⟩
  ·refine .trans (j2 ..)<|.trans (ob (e0 _) ..)<|.trans (ob (e2 _) ..)<|?_
   show bp c (if T.length<=aJ then(place T.length (p:Int)).bind (fun k=>(T[k]?).map fun x=>AV.str [x]) else none)=_;rw[aO (by rw[bR];omega),gv oX,Option.bind_some,GS];rfl
  ·unfold kN;refine .trans (fS ..)<|.trans (ob (e2 _) ..)<|.trans (ob (Gq (by rw[<-bB];rfl) hT) ..)<|?_
   show bp _ (some (decide ((p:Int)<(T.length:Int))))=_;rw[decide_eq_true (by omega)];rfl
 cases hs with
 |gap=>
  refine cH (main 32 s' rfl) fun oX Th ht=>?_;refine⟨p+1,x,by omega,Nat.lt_succ_self _,?_,by omega,hk,?_,ht⟩
  ·(refine .trans (.symm (List.drop_drop ..))<|?_;rw[hd]);rfl
  ·have t1:eS (wM m) J (.cmp .nW (.sub (.loc 0) (.loc 2)) (.gl 14)) (c1++[.list toks]) = .ok true (c1++[.list toks]):=by
    refine .trans (fS ..)<|.trans (ob (Th _) ..)<|?_
    have g:ev (wM m) J (.gl 14) (c1++[.list toks]) = .ok (.str [32,9,13,10,12,11]) (c1++[.list toks]):=by rw[Di];rfl
    refine .trans (ob g ..)<|?_;rfl
   have t2:eS (wM m) J (.cmp .eq (.sub (.loc 0) (.loc 2)) (.str [10])) (c1++[.list toks]) = .ok false (c1++[.list toks]):=by
    refine .trans (fS ..)<|.trans (ob (Th _) ..)<|.trans (ob (s0 _ _) ..)<|?_;rfl
   have s2:ex (wM m) 5000 (.hJ 2 .add (.int 1)) J (c1++[.list toks]) = .ok (.nx [some (.str T),some (.ref c1.length),some (.int ((p+1:Nat):Int)),some (.int 1),x]) (c1++[.list toks]):=by
    (refine .trans (Dq ..)<|.trans (ob (e2 _) ..)<|.trans (ob (i0 _ _) ..)<|?_;rw[<-bB]);rfl
   unfold lh
   (refine .trans (bw ..)<|.trans (ce t1 ..)<|?_;rw[aO rfl,bM ((ce t2).trans (by rw[aV (by decide),iO])),bw,s2])
 |tok h1 h2 h3 h4 h5 h6=>
  rename_i ch r tok k;refine cH (main ch r rfl) fun oX Th ht=>?_;have hdl:(T.drop p).length=T.length-p:=List.length_drop;rw[hd]at hdl;refine⟨p+k,some tok,by omega,by omega,?_,by rw[cB];simp;omega,?_,?_,ht⟩
  ·(refine .trans (.symm (List.drop_drop ..))<|?_;rw[hd])
  ·intro t htm;rcases List.mem_append.mp htm with q|q
   ·exact hk t q
   ·rw[List.mem_singleton]at q;subst q;exact h4
  ·have t1:eS (wM m) J (.cmp .nW (.sub (.loc 0) (.loc 2)) (.gl 14)) (c1++[.list toks]) = .ok false (c1++[.list toks]):=by
    refine .trans (fS ..)<|.trans (ob (Th _) ..)<|?_
    have g:ev (wM m) J (.gl 14) (c1++[.list toks]) = .ok (.str [32,9,13,10,12,11]) (c1++[.list toks]):=by refine .trans (Di ..)<|?_;rfl
    refine .trans (ob g ..)<|?_
    show bp _ (some (decide (ch∈[32,9,13,10,12,11])))=_;rw[eO h1];rfl
   have b1:ev (wM m) J (.bin .add (.loc 2) (.int 2)) (c1++[.list toks]) = .ok (.int ((p+2:Nat):Int)) (c1++[.list toks]):=by
    refine .trans (n9 ..)<|.trans (ob (e2 _) ..)<|.trans (ob (i0 _ _) ..)<|?_;rfl
   have t2:eS (wM m) J (.cmp .eq (.jH (.loc 0) (.loc 2) (.bin .add (.loc 2) (.int 2))) (.str [45,45])) (c1++[.list toks]) = .ok false (c1++[.list toks]):=by
    have q:ev (wM m) J (.jH (.loc 0) (.loc 2) (.bin .add (.loc 2) (.int 2))) (c1++[.list toks]) = .ok (.str (cut T (some (p:Int)) (some ((p+2:Nat):Int)))) (c1++[.list toks]):=by
     refine .trans (w8 ..)<|.trans (ob (e0 _) ..)<|.trans (ob (e2 _) ..)<|.trans (ob b1 ..)<|?_
     show bp _ (if T.length<=aJ then some (AV.str (cut T (some (p:Int)) (some ((p+2:Nat):Int)))) else none)=_;rw[aO (by rw[bR];omega)];rfl
    refine .trans (fS ..)<|.trans (ob q ..)<|.trans (ob (s0 _ _) ..)<|?_
    show bp _ (some (cut T (some (p:Int)) (some ((p+2:Nat):Int))==[45,45]))=_;have ne:(cut T (some (p:Int)) (some ((p+2:Nat):Int))==[45,45])=false:=by
     rw[beq_eq_false_iff_ne];intro q;have e:cut T (some (p:Int)) (some ((p+2:Nat):Int))=(T.drop (fC T.length (p:Int))).take (fC T.length ((p+2:Nat):Int)-fC T.length (p:Int)):=rfl;rw[e,kd,kd,Nat.min_eq_left hp,hd]at q;have:((ch::r).take (min (p+2) T.length-p)).head?=some 45:=by rw[q];rfl
     rw[List.head?_take]at this
     split at this
     ·exact ak this
     ·simp at this;exact h2 this
    rw[ne];rfl
   have ca:=wB (m:=m) hk (by omega) pj hp (by omega) hm hd h3
   have a1:eV (wM m) J [.loc 0,.loc 2,.loc 3,.loc 1] (c1++[.list toks]) = .ok [.str T,.int p,.int 1,.ref c1.length] (c1++[.list toks]):=by
    (refine .trans (bY ..)<|.trans (ob (e0 _) ..)<|.trans (dc (bY ..))<|.trans (dc (ob (e2 _) ..))<|?_;rw[bY,ob (e3 _),bY,ob (e1 _),cI]);rfl
   have c51:ev (wM m) J (.call 51 [.loc 0,.loc 2,.loc 3,.loc 1]) (c1++[.list toks]) = .ok (.tup [tok,.int ((p+k:Nat):Int)]) (c1++[.list toks]):=by
    refine .trans (fL ..)<|.trans (ob a1 ..)<|?_;exact ca
   have u:ex (wM m) 5000 (.iM [4,2] (.call 51 [.loc 0,.loc 2,.loc 3,.loc 1])) J (c1++[.list toks]) = .ok (.nx [some (.str T),some (.ref c1.length),some (.int ((p+k:Nat):Int)),some (.int 1),some tok]) (c1++[.list toks]):=by
    (refine .trans (yv ..)<|.trans (ob c51 ..)<|?_;rw[<-bB]);rfl
   unfold lh
   (refine .trans (bw ..)<|.trans (ce t1 ..)<|?_;rw[aV (by decide),bw,ce t2,aV (by decide),bM u,bw])
   exact O9 rfl rfl rfl h4.clean (by omega)
end
theorem AQ{lf n:Nat}(h:t J c = .ok true c')(h2:b J c' = .ok (.nx aE) c''):iq lf t b (n+1) J c=iq lf t b n aE c'':=by
 exact .trans (pY ..)<|.trans (oc h ..)<|.trans (aO rfl ..)<|(oc h2 ..)
theorem DG{lf n:Nat}(h:t J c = .ok false c'):iq lf t b (n+1) J c = .ok (.nx J) c':=by
 exact .trans (pY ..)<|.trans (oc h ..)<|(aV (by decide) ..)
theorem Js{m:Nat}(hT:T.length<=900)(hc:cl c1)(hm:30<=m)(S:bX toks s fin s') :
  s'=[]->∀(p K:Nat)(x:Option AV),p<=T.length->T.drop p=s->toks.length<=p->(∀t∈toks,fN t)->T.length-p<K->
   (∃aE,iq 5000 (fun J c=>eS (wM m) J kN c) (fun J c=>dR (wM m) 5000 lh J c) K [some (.str T),some (.ref c1.length),some (.int p),some (.int 1),x] (c1++[.list toks]) = .ok (.nx aE) (c1++[.list fin])/\aE[1]?=some (some (.ref c1.length)))/\(∀t∈fin,fN t)/\fin.length<=900:=by
 induction S with
 |refl toks s=>
  rintro rfl p K x hp hd hl hk hK;obtain⟨K,rfl⟩:∃j,K=j+1:=⟨K-1,by omega⟩
  have hge:T.length<=p:=List.drop_eq_nil_iff.mp hd;refine⟨⟨_,DG ?_,rfl⟩,hk,by omega⟩
  have e2:∀c,ev (wM m) [some (.str T),some (.ref c1.length),some (.int p),some (.int 1),x] (.loc 2) c = .ok (.int p) c:=fun c=>by refine .trans (cM ..)<|?_;rfl
  unfold kN;refine .trans (fS ..)<|.trans (ob (e2 _) ..)<|.trans (ob (Gq rfl hT) ..)<|?_
  show bp _ (some (decide ((p:Int)<(T.length:Int))))=_;rw[eO (by omega)];rfl
 |step h hr ih=>
  rintro iL p K x hp hd hl hk hK;obtain⟨K,rfl⟩:∃j,K=j+1:=⟨K-1,by omega⟩
  refine Pd (Jr hT hc hm h hp hd hl hk x) fun p' x' q1 q2 q3 q4 q5 q6 q7=>?_;have:=ih iL p' K x' q1 q3 q4 q5 (by omega)
  rw[AQ (t:=fun J c=>eS (wM m) J kN c) (b:=fun J c=>dR (wM m) 5000 lh J c) q7 q6];exact this
theorem uK{m:Nat}(hT:T.length<=900)(hc:cl c1)(hm:31<=m)(S:bX [] T toks []):bL fns ini gl 5000 m 52 [.str T] c1 = .ok (.lst toks) c1/\(∀t∈toks,fN t)/\toks.length<=900:=by
 obtain⟨m,rfl⟩:∃j,m=j+1:=⟨m-1,by omega⟩
 refine cH (Js (c1:=c1) hT hc (m:=m) (by omega) S rfl 0 5000 none (Nat.zero_le _) rfl (Nat.zero_le _) (fun t h=>nomatch h) (by omega)) fun nc hk hl=>?_;refine au nc fun aE L L1=>?_
 refine⟨?_,hk,hl⟩;refine .trans (uJ vZ ..)<|?_
 have s1:ex (wM m) 5000 (.dn 1 (.lst [])) [some (.str T),none,none,none,none] c1 = .ok (.nx [some (.str T),some (.ref c1.length),none,none,none]) (c1++[.list []]):=by
  have q:ev (wM m) [some (.str T),none,none,none,none] (.lst []) c1 = .ok (.lst []) c1:=by refine .trans (mC ..)<|.trans (dc (cI ..))<|?_;rfl
  have:ex (wM m) 5000 (.dn 1 (.lst [])) [some (.str T),none,none,none,none] c1=(ev (wM m) [some (.str T),none,none,none,none] (.lst []) c1).bind fun v c=>match v with
    |.lst l=>.ok (.nx ([some (.str T),none,none,none,none].set 1 (some (.ref c.length)))) (c++[.list l])|_=>.fail:=by
   rw[Dp];all_goals first|rfl| (intro _ _ q;cases q)
  refine .trans (this ..)<|.trans (ob q ..)<|?_;rfl
 have s2:ex (wM m) 5000 (.asg 2 (.int 0)) [some (.str T),some (.ref c1.length),none,none,none] (c1++[.list []]) = .ok (.nx [some (.str T),some (.ref c1.length),some (.int 0),none,none]) (c1++[.list []]):=by refine .trans (mG ..)<|.trans (dc (mB ..))<|?_;rfl
 have s3:ex (wM m) 5000 (.asg 3 (.int 1)) [some (.str T),some (.ref c1.length),some (.int 0),none,none] (c1++[.list []]) = .ok (.nx [some (.str T),some (.ref c1.length),some (.int 0),some (.int 1),none]) (c1++[.list []]):=by refine .trans (mG ..)<|.trans (dc (mB ..))<|?_;rfl
 have s4:ex (wM m) 5000 (.n4 kN lh) [some (.str T),some (.ref c1.length),some (.int 0),some (.int 1),none] (c1++[.list []]) = .ok (.nx aE) (c1++[.list toks]):=by refine .trans (Ds ..)<|?_;exact L
 have pj:aH 0 (.lst toks)=true:=by(refine .trans (bP ..)<|?_;rw[ae]);exact fun t h=>(hk t h).clean
 have s5:ex (wM m) 5000 (.ret (.loc 1)) aE (c1++[.list toks]) = .ok (.rt (.lst toks)) (c1++[.dead toks]):=by
  have e1:ev (wM m) aE (.loc 1) (c1++[.list toks]) = .ok (.ref c1.length) (c1++[.list toks]):=by(refine .trans (cM ..)<|?_;rw[L1])
  have:fz (c1++[Cell.list toks]) (.ref c1.length) = .ok (.lst toks) (c1++[.dead toks]):=by
   unfold fz;dsimp only;rw[vn rfl];dsimp only;rw[qG rfl]
  exact .trans (mF ..)<|.trans (ob e1 ..)<|(ob this ..)
 have E:dR (wM m) 5000 iT [some (.str T),none,none,none,none] c1 = .ok (.rt (.lst toks)) (c1++[.dead toks]):=by
  rw[Gp,bM s1,bM s2,bM s3,bM s4,bw,s5]
 show(if 1=1 then(match dR (wM m) 5000 iT [some (.str T),none,none,none,none] c1 with
  |.ok (.rt v) c'=>back c1.length v c' fun c=>.ok v c|.ok (.nx U) c'=>back c1.length .none c' fun c=>.ok .none c|.ok (.bk U) bG=>.fail|.exc U c'=>back c1.length .none c' fun c=>.exc false c|.fail=>.fail) else .fail)=_
 (refine .trans (aO rfl ..)<|?_;rw[E])
 dsimp only;unfold back;rw[gC _ pj,List.take_left,Bool.true_and,aO];rw[List.all_eq_true];exact fun x hx=>bN _ (gD.mp hc x hx)
inductive Stop:List Nat->Prop
 |nil:Stop []|tk (r):Stop (39::r)|dt (r):Stop (46::r)|lp (r):Stop (40::r)|rp (r):Stop (41::r)|sp (r):Stop (32::r)
inductive kO:List Nat->Prop
 |cm (r):kO (44::32::r)|rp {r}:Stop r->kO (41::r)
noncomputable def Xf{Z:Type}(f:List Nat->Z)(r:List Nat):Z×Z×Z×Z×Z×Z:=(f ([]),f (39::r),f (46::r),f (40::r),f (41::r),f (32::r))
noncomputable def Sb{Z:Type}(f:List Nat->Z)(r:List Nat):Z×Z×Z×Z×Z×Z:=(f ([]),f (39::r),f (46::r),f (40::r),f (41::r),f (32::r))
theorem Lr{Z:Type}{f g:List Nat->Z}(l:List Nat)(h:Stop l)(k:∀r,Xf f r=Sb g r):f l=g l:=by
 cases h with
 |nil=>exact aY (fun x=>x.1) (k [])|tk r=>exact aY (fun x=>x.2.1) (k r)|dt r=>exact aY (fun x=>x.2.2.1) (k r)|lp r=>exact aY (fun x=>x.2.2.2.1) (k r)|rp r=>exact aY (fun x=>x.2.2.2.2.1) (k r)|sp r=>exact aY (fun x=>x.2.2.2.2.2) (k r)
theorem PZ{Z:Type}{f g:List Nat->Z}(l:List Nat)(h:kO l)(k1:∀r,f (44::32::r)=g (44::32::r))(k2:∀r,Xf (fun r=>f (41::r)) r=Sb (fun r=>g (41::r)) r):f l=g l:=by
 cases h with
 |cm r=>exact k1 r|rp h=>exact Lr (f:=fun r=>f (41::r)) _ h k2
section
variable(v:Bool)(pb:Option Bool)(post:List Nat)
theorem Jt(a:At)(h:Stop post):du pb (a.text v++post) a.tok (a.text v).length:=by
 intro n Y;apply Jd a;apply nK v;apply Lr post h;intro r;kernel_rfl
theorem Of(m:s6)(h:Stop post):du pb (m.text v++post) (jY m.low) (m.text v).length:=by
 intro n Y;apply Je m;apply nK v;apply Lr post h;intro r;kernel_rfl
theorem Gr(s:Sy)(h:Stop post):du pb ((34::s.text v++[34])++post) (wR (s.text v)) (34::s.text v++[34]).length:=by
 intro n Y;apply Cr s;apply nK v;apply Lr post h;intro r;kernel_rfl
theorem DH(h:Stop post):du pb ((match v with|true=>[70,105,101,108,100] |false=>[102,105,101,108,100])++post) (jY [102,105,101,108,100]) 5:=by
 intro n Y;apply nK v;apply Lr post h;intro r;kernel_rfl
theorem Ju(h:Stop post\/kO post):du pb ([97,108,108]++post) (Hj [97,108,108]) 3:=by
 intro n Y;rcases h with h|h
 ·apply Lr post h;intro r;kernel_rfl
 ·apply PZ post h<;>intro r<;>kernel_rfl
theorem Sc(h:Stop post):du pb ([103]++post) (jY [103]) 1:=by
 intro n Y;apply Lr post h;intro r;kernel_rfl
theorem Sd(h:kO post):du pb ([120]++post) (jY [120]) 1:=by
 intro n Y;apply PZ post h<;>intro r<;>kernel_rfl
theorem Se:du pb ((match v with|true=>[89] |false=>[121])++(46::post)) (jY [121]) 1:=by
 intro n Y;(apply nK v;kernel_rfl)
theorem Ls:du pb ([122]++(41::post)) (jY [122]) 1:=by intro n Y;kernel_rfl
theorem Sf:du pb ((match v with|true=>[78] |false=>[110])++(32::post)) (jY [110]) 1:=by
 intro n Y;(apply nK v;kernel_rfl)
theorem Sg(h:kO post):du pb ([55]++post) (Cm 7) 1:=by
 intro n Y;apply PZ post h<;>intro r<;>kernel_rfl
theorem Jv(h:kO post):du pb ([34,77,111,100,34]++post) (wR [77,111,100]) 5:=by
 intro n Y;apply PZ post h<;>intro r<;>kernel_rfl
theorem Gs(x:Nat)(hx:x=66\/x=81):du (some false) ([39,x,39]++post) (SL x) 3:=by
 intro n Y;rcases hx with rfl|rfl<;>kernel_rfl
theorem oN(h:Stop post\/kO post):du pb ([41]++post) cQ 1:=by
 intro n Y;rcases h with h|h
 ·apply Lr post h;intro r;kernel_rfl
 ·apply PZ post h<;>intro r<;>kernel_rfl
theorem Og:du pb ([44]++(32::post)) B8 1:=by intro n Y;kernel_rfl
theorem Oh:du pb ([61,62]++(32::post)) Co 2:=by intro n Y;kernel_rfl
theorem Oi:du pb ([43]++(32::post)) Cp 1:=by intro n Y;kernel_rfl
theorem Jw(d:Dt):du pb ([46]++((d.text v).drop 1++post)) sZ 1:=by
 intro n Y;cases d with
 |sy s=>(apply nK v;apply Cr s;kernel_rfl)|field=>(apply nK v;kernel_rfl)|_=>kernel_rfl
theorem Gu:du pb ([46]++((match v with|true=>[65,108,108] |false=>[97,108,108])++post)) sZ 1:=by intro n Y;(apply nK v;kernel_rfl)
theorem Jx(h:kO post):du pb ((match v with|true=>[65,108,108] |false=>[97,108,108])++post) (Hj [97,108,108]) 3:=by
 intro n Y;apply nK v;apply PZ post h<;>intro r<;>kernel_rfl
theorem Oj(b:Bool)(a:At):du (some b) ([39]++(a.text v++post)) ic 1:=by
 intro n Y;(apply nK b;apply Jd a;apply nK v;kernel_rfl)
theorem Gv(p:Pt)(nm:Bool):du pb ([40]++(cW v p nm++post)) im 1:=by
 intro n Y;(apply qF p;apply nK nm;apply nK v;kernel_rfl)
theorem Jy(m:s6):du pb ([40]++(m.text v++post)) im 1:=by
 intro n Y;(apply Je m;apply nK v;kernel_rfl)
theorem Jz:du pb ([40]++(34::post)) im 1:=by intro n Y;kernel_rfl
theorem KA(b:Bool)(p:Pt)(hp:p≠.q):du (some b) ([39]++(40::(p.text v++post))) ic 1:=by
 intro n Y;(apply Vp p hp;apply nK b;apply nK v;kernel_rfl)
theorem KB(b:Bool):du (some b) ([39]++([40,122,41]++post)) ic 1:=by
 intro n Y;(apply nK b;kernel_rfl)
theorem Bl:du pb ([40]++(122::post)) im 1:=by intro n Y;kernel_rfl
theorem Gw(b:Bool):du (some b) [39] ic 1:=by intro n Y;(apply nK b;kernel_rfl)
theorem Gx:du pb [46] sZ 1:=by intro n Y;kernel_rfl
theorem Gy:du pb [40,41] im 1:=by intro n Y;kernel_rfl
theorem Gz(b:Bool):du (some b) [39,53] ic 1:=by intro n Y;(apply nK b;kernel_rfl)
theorem Sh:du pb [53] (Cm 5) 1:=by intro n Y;kernel_rfl
theorem Si:du pb [49] (Cm 1) 1:=by intro n Y;kernel_rfl
end
noncomputable def HA:List Nat->Bool
 |ch::U=>decide (ch∉[32,9,13,10,12,11])&&decide (ch≠45)|[]=>false
theorem bX.word(hw:HA w=true)(h:du (AP toks) (w++post) tok w.length)(ht:fN tok):bX toks (w++post) (toks++[tok]) post:=by
 cases w with
 |nil=>exact eK hw|cons ch r=>
  unfold HA at hw;rw[be,decide_eq_true_eq,decide_eq_true_eq]at hw;have e:((ch::r)++post).drop (ch::r).length=post:=List.drop_left;have S:=uI.tok (toks:=toks) (ch:=ch) (s:=r++post) (tok:=tok) (k:=(ch::r).length) hw.1 hw.2 h ht (by simp) (by simp)
  have S':uI toks (ch::(r++post)) (toks++[tok]) post:=by
   have:=S;rw[show(ch::(r++post)).drop (ch::r).length=post from e]at this
   exact this
  exact .step S' (.refl _ _)
theorem bX.gap:bX toks (32::post) toks post:=.step (.gap _ _) (.refl _ _)
theorem dm(s):fN (op s):=⟨_,_,rfl,a9 _ _,fun U=>⟨_,rfl⟩⟩
theorem nN(s):fN (jY s):=⟨_,_,rfl,a9 _ _,fun U=>⟨_,rfl⟩⟩
theorem HB(s):fN (Hj s):=⟨_,_,rfl,a9 _ _,fun U=>⟨_,rfl⟩⟩
theorem HC(s):fN (wR s):=⟨_,_,rfl,a9 _ _,fun U=>⟨_,rfl⟩⟩
theorem Lu(n):fN (SL n):=⟨_,_,rfl,aa _ _,fun h=>by rcases h with h|h<;>cases h⟩
theorem HD(n):fN (Cm n):=⟨_,_,rfl,aa _ _,fun h=>by rcases h with h|h<;>cases h⟩
theorem Ol(a:At):fN a.tok:=by cases a<;>first|exact nN _|exact HB _
theorem jE(toks:List AV)(t:AV):AP (toks++[t])=some (yS [t]):=by
 have:AP (toks++[t])=some (yS (toks++[t])):=by cases toks<;>rfl
 refine .trans (this ..)<|?_
 unfold yS;rw[List.getLast?_append];rfl
theorem sE(h:toks≠[]):∃b,AP toks=some b:=by
 refine c6 (qH h) fun pre t fu=>?_;subst fu;exact⟨_,jE pre t⟩
section
variable(v:Bool)(post:List Nat)
theorem Bm(toks:List AV)(p:Pt)(WT:p = .q->AP toks=some false)(h:kO post):bX toks (p.text v++post) (toks++p.toks) post:=by
 cases p with
 |x=>exact .word rfl (Sd _ _ h) (nN _)|j8=>exact .word rfl (Sg _ _ h) (HD _)|mod=>exact .word rfl (Jv _ _ h) (HC _)|lg=>
  have e:Pt.text v .lg++post=(match v with|true=>[89] |false=>[121])++(46::((match v with|true=>[65,108,108] |false=>[97,108,108])++post)):=by cases v<;>rfl
  have e2:toks++Pt.toks .lg=((toks++[jY [121]])++[sZ])++[Hj [97,108,108]]:=by simp[Pt.toks]
  rw[e,e2];refine(bX.word (by cases v<;>rfl) ?_ (nN _)).trans ((bX.word (w:=[46]) rfl (Gu v _ _) (dm _)).trans (bX.word (by cases v<;>rfl) ?_ (HB _)))
  ·have:=Se v (AP toks) ((match v with|true=>[65,108,108] |false=>[97,108,108])++post)
   cases v<;>exact this
  ·have:=Jx v (AP ((toks++[jY [121]])++[sZ])) post h;cases v<;>exact this
 |z=>
  have e:Pt.text v .z++post=[40]++([122]++([41]++post)):=by cases v<;>rfl
  have e2:toks++Pt.toks .z=((toks++[im])++[jY [122]])++[cQ]:=by simp[Pt.toks]
  rw[e,e2];exact(bX.word rfl (Bl _ _) (dm _)).trans ((bX.word rfl (Ls _ _) (nN _)).trans (bX.word rfl (oN _ _ (.inr h)) (dm _)))
 |q=>
  have:=Gs post 81 (.inr rfl);refine .word (w:=[39,81,39]) rfl ?_ (Lu _);rw[WT rfl];exact this
theorem sF(toks:List AV)(p:Pt)(nm:Bool)(WT:AP toks=some false)(h:kO post):bX toks (cW v p nm++post) (toks++cX p nm) post:=by
 cases nm with
 |false=>exact Bm v post toks p (fun U=>WT) h|true=>
  have e:cW v p true++post=(match v with|true=>[78] |false=>[110])++(32::([61,62]++(32::(p.text v++post)))):=by cases v<;>simp[cW,arr]
  have e2:toks++cX p true=((toks++[jY [110]])++[Co])++p.toks:=by simp[cX]
  rw[e,e2];refine(bX.word (by cases v<;>rfl) ?_ (nN _)).trans (bX.gap.trans ((bX.word rfl (Oh _ _) (dm _)).trans (bX.gap.trans (Bm v post _ p (fun U=>?_) h))))
  ·have:=Sf v (AP toks) ([61,62]++(32::(p.text v++post)));cases v<;>exact this
  ·refine .trans (jE ..)<|?_;rfl
theorem nO(toks:List AV)(b:Bk)(h:Stop post):bX toks (b.text v++post) (toks++b.toks) post:=by
 cases b with
 |one p nm=>
  have e:Bk.text v (.one p nm)++post=[40]++(cW v p nm++([41]++post)):=by simp[Bk.text]
  have e2:toks++Bk.toks (.one p nm)=((toks++[im])++cX p nm)++[cQ]:=by simp[Bk.toks]
  rw[e,e2];exact(bX.word rfl (Gv v _ _ p nm) (dm _)).trans ((sF v _ _ p nm (by refine .trans (jE ..)<|?_;rfl) (.rp h)).trans (bX.word rfl (oN _ _ (.inl h)) (dm _)))
 |two p q nm=>
  have e:Bk.text v (.two p q nm)++post=[40]++(p.text v++([44]++(32::(cW v q nm++([41]++post))))):=by simp[Bk.text]
  have e2:toks++Bk.toks (.two p q nm)=((((toks++[im])++p.toks)++[B8])++cX q nm)++[cQ]:=by simp[Bk.toks]
  rw[e,e2];exact(bX.word rfl (Gv v _ _ p false) (dm _)).trans ((sF v _ _ p false (by refine .trans (jE ..)<|?_;rfl) (.cm _)).trans ((bX.word rfl (Og _ _) (dm _)).trans (bX.gap.trans ((sF v _ _ q nm (by refine .trans (jE ..)<|?_;rfl) (.rp h)).trans (bX.word rfl (oN _ _ (.inl h)) (dm _))))))
theorem uL(toks:List AV)(aK:toks≠[])(a:At)(h:Stop post):bX toks (([39]++a.text v)++post) (toks++[ic,a.tok]) post:=by
 obtain⟨b,hb⟩:=sE aK;have e2:toks++[ic,a.tok]=(toks++[ic])++[a.tok]:=by simp
 rw[e2,b9];refine(bX.word rfl ?_ (dm _)).trans (bX.word (by cases a<;>cases v<;>rfl) (Jt v _ post a h) (Ol a))
 rw[hb];exact Oj v post b a
theorem KC(toks:List AV)(d:Dt)(h:Stop post):bX toks (d.text v++post) (toks++d.toks v) post:=by
 have dot:∀r,d.text v=46::r->bX toks (d.text v++post) (toks++[sZ]) (r++post):=fun r e=>by
  have:=Jw v (AP toks) post d;rw[e]at this;rw[e];exact bX.word (w:=[46]) rfl this (dm _)
 cases d with
 |field=>
  refine(dot (match v with|true=>[70,105,101,108,100] |false=>[102,105,101,108,100]) (by cases v<;>rfl)).trans ?_
  have e2:toks++Dt.toks v .field=(toks++[sZ])++[jY [102,105,101,108,100]]:=by simp[Dt.toks]
  rw[e2];have:=DH v (AP (toks++[sZ])) post h;refine bX.word (by cases v<;>rfl) ?_ (nN _)
  cases v<;>exact this
 |all=>
  refine(dot [97,108,108] rfl).trans ?_;have e2:toks++Dt.toks v .all=(toks++[sZ])++[Hj [97,108,108]]:=by simp[Dt.toks]
  rw[e2];exact bX.word rfl (Ju _ _ (.inl h)) (HB _)
 |sy s=>
  refine(dot (34::s.text v++[34]) (by simp[Dt.text])).trans ?_
  have e2:toks++Dt.toks v (.sy s)=(toks++[sZ])++[wR (s.text v)]:=by simp[Dt.toks]
  rw[e2];exact bX.word rfl (Gr v _ post s h) (HC _)
 |b=>
  refine(dot [39,66,39] rfl).trans ?_;have e2:toks++Dt.toks v .b=(toks++[sZ])++[SL 66]:=by simp[Dt.toks]
  rw[e2];refine bX.word (w:=[39,66,39]) rfl ?_ (Lu _);rw[jE];exact Gs post 66 (.inl rfl)
 |g=>
  refine(dot [103] rfl).trans ?_;have e2:toks++Dt.toks v .g=(toks++[sZ])++[jY [103]]:=by simp[Dt.toks]
  rw[e2];exact bX.word rfl (Sc _ _ h) (nN _)
theorem KD(d:Dt)(r:List Nat):Stop (d.text v++r):=by cases d<;>cases v<;>exact .dt _
theorem qI(b:Bk)(r:List Nat):Stop (b.text v++r):=by cases b<;>exact .lp _
theorem gR:∀(t:bO),t.toks v≠[]
 |.nm m=>by simp[bO.O5]
 |.sy s p=>by simp[bO.AG]
 |.dt t d=>by simp[bO.vj,gR t]
 |.tick t a=>by simp[bO.oK]
 |.d4 t a b=>by simp[bO.vk]
 |.app t b=>by simp[bO.vm,gR t]
theorem gY(toks:List AV):∀(t:bO)(post:List Nat),Stop post->bX toks (t.text v++post) (toks++t.toks v) post
 |.nm m,post,h=>bX.word (by cases m<;>cases v<;>rfl) (Of v _ post m h) (nN _)
 |.sy s p,post,h=>by
  have e:bO.text v (.sy s p)++post=(34::s.text v++[34])++(Bk.text v (.one p false)++post):=by simp[bO.AE,Bk.text,cW]
  have e2:toks++bO.toks v (.sy s p)=(toks++[wR (s.text v)])++Bk.toks (.one p false):=by simp[bO.AG,Bk.toks,cX]
  rw[e,e2];exact(bX.word rfl (Gr v _ _ s (qI v _ _)) (HC _)).trans (nO v post _ _ h)
 |.dt t d,post,h=>by
  rw[bO.GU,bO.vj,b9,<-b9 toks];exact(gY toks t _ (KD v d post)).trans (KC v post _ d h)
 |.tick t a,post,h=>by
  rw[bO.GV,bO.oK,b9,<-b9 toks];exact(gY toks t _ (.tk _)).trans (uL v post _ (by simp[gR v t]) a h)
 |.d4 t a b,post,h=>by
  have e:bO.text v (.d4 t a b)++post=t.text v++(([39]++a.text v)++(b.text v++post)):=by simp[bO.AF]
  have e2:toks++bO.toks v (.d4 t a b)=((toks++t.toks v)++[ic,a.tok])++b.toks:=by simp[bO.vk]
  rw[e,e2];exact(gY toks t _ (.tk _)).trans ((uL v _ _ (by simp[gR v t]) a (qI v b post)).trans (nO v post _ b h))
 |.app t b,post,h=>by
  rw[bO.GW,bO.vm,b9,<-b9 toks];exact(gY toks t _ (qI v b post)).trans (nO v post _ b h)
theorem DI(toks:List AV)(aK:toks≠[])(p:Pt)(hp:p≠.q)(h:Stop post):bX toks (lL v p++post) (toks++kK v p) post:=by
 obtain⟨b,hb⟩:=sE aK
 by_cases hz:v=false/\p = .z
 ·obtain⟨rfl,rfl⟩:=hz;have e:lL false .z++post=[39]++([40]++([122]++([41]++post))):=rfl;have e2:toks++kK false .z=(((toks++[ic])++[im])++[jY [122]])++[cQ]:=by simp[kK]
  rw[e,e2];refine(bX.word rfl ?_ (dm _)).trans ((bX.word rfl (Bl _ _) (dm _)).trans ((bX.word rfl (Ls _ _) (nN _)).trans (bX.word rfl (oN _ _ (.inl h)) (dm _))));rw[hb];exact KB post b
 ·have e:lL v p++post=[39]++(Bk.text v (.one p false)++post):=by
   cases v with
   |true=>cases p<;>rfl|false=>cases p<;>first|rfl|exact aX ⟨rfl,rfl⟩ hz
  have e2:toks++kK v p=(toks++[ic])++Bk.toks (.one p false):=by
   cases v with
   |true=>cases p<;>simp[kK,Bk.toks,cX]|false=>cases p<;>first|exact aX ⟨rfl,rfl⟩ hz|simp[kK,Bk.toks,cX]
  rw[e,e2];refine(bX.word rfl ?_ (dm _)).trans (nO v post _ _ h);have:=KA v (41::post) b p hp;rw[hb];have e3:Bk.text v (.one p false)++post=40::(p.text v++41::post):=by simp[Bk.text,cW]
  rw[e3];exact this
end
theorem HE(toks:List AV)(aK:toks≠[])(b:pS):bX toks b.text (toks++b.toks) []:=by
 obtain⟨x,hb⟩:=sE aK;cases b with
 |tick=>
  refine bX.word (w:=[39]) (post:=[]) rfl ?_ (dm _);rw[hb];exact Gw x
 |dot=>exact bX.word (w:=[46]) (post:=[]) rfl (Gx _) (dm _)|Bf=>
  have e2:toks++pS.Bf.toks=(toks++[im])++[cQ]:=by simp[pS.toks]
  rw[e2];exact(bX.word (w:=[40]) (post:=[41]) rfl (Gy _) (dm _)).trans (bX.word (w:=[41]) (post:=[]) rfl (oN _ _ (.inl .nil)) (dm _))
 |tH=>
  have e2:toks++pS.tH.toks=(toks++[ic])++[Cm 5]:=by simp[pS.toks]
  rw[e2];refine(bX.word (w:=[39]) (post:=[53]) rfl ?_ (dm _)).trans (bX.word (w:=[53]) (post:=[]) rfl (Sh _) (HD _));rw[hb];exact Gz x
theorem DJ(toks:List AV):bX toks [32,43,32,49] (toks++[Cp,Cm 1]) []:=by
 have e2:toks++[Cp,Cm 1]=(toks++[Cp])++[Cm 1]:=by simp
 rw[e2];exact bX.gap.trans ((bX.word (w:=[43]) (post:=[32,49]) rfl (Oi _ _) (dm _)).trans (bX.gap.trans (bX.word (w:=[49]) (post:=[]) rfl (Si _) (HD _))))
theorem gy(v:Bool):∀(t:bO)(post:List Nat),bX [] (40::(t.text v++post)) [im] (t.text v++post)
 |.nm m,post=>bX.word (w:=[40]) rfl (Jy v _ post m) (dm _)|.sy s p,post=>by
  have e:bO.text v (.sy s p)++post=34::(s.text v++([34,40]++(p.text v++([41]++post)))):=by simp[bO.AE]
  rw[e];exact bX.word (w:=[40]) rfl (Jz _ _) (dm _)
 |.dt t d,post=>by rw[bO.GU,b9];exact gy v t _
 |.tick t a,post=>by rw[bO.GV,b9];exact gy v t _
 |.d4 t a b,post=>by rw[bO.AF,b9,b9];exact gy v t _
 |.app t b,post=>by rw[bO.GW,b9];exact gy v t _
theorem AR(toks:List AV):bX toks [41] (toks++[cQ]) []:=bX.word (w:=[41]) (post:=[]) rfl (oN _ _ (.inl .nil)) (dm _)
noncomputable def yT:Prim:=fun f args Y=>if f=62 then Ni args fun x=>Nj LM x (some (.ok (.txt []) Y [])) else none
noncomputable def cS(S:List Nat)(n:Nat):=eU fns gl 5000 S yT n
noncomputable def wS(S:List Nat)(n:Nat):W2:={call:=cS S n,s:=S,gl:=gl}
theorem Sj{S:List Nat}{n f:Nat}{args:List V2}{Y:S2}{F:Fn}(h:fns[f]?=some F)(hp:yT f args Y=none):cS S (n+1) f args Y=jS (wS S n) 5000 F args Y:=by
 unfold cS
 (refine .trans (ri ..)<|?_;rw[hp,h]);rfl
theorem HF{S:List Nat}{n f:Nat}{args:List V2}{Y aF:S2}{F:Fn}{v:V2}{L:aC}(h:fns[f]?=some F)(hp:yT f args Y=none)(hd:F.dflt.drop (F.dflt.length-(F.np-args.length))=[])(hl:args.length=F.np)
  (hx:al (wS S n) 5000 F.body (args.map some++List.replicate (F.nl-F.np) none) Y [] = .ok (.rt v) aF L) (hv:pN v=true):cS S (n+1) f args Y = .ok v aF []:=by
 refine .trans (Sj h hp ..)<|?_
 unfold jS;rw[hd,List.map_nil,List.append_nil];dsimp only
 (refine .trans (aO hl ..)<|?_;rw[hx])
 dsimp only;exact(aO hv ..)
theorem nQ{S:List Nat}{n:Nat}{J:bS}{f:Nat}{es:List Ex}{vs:List V2}{Y aF fj:S2}{L L' jg:aC}{v:V2}(he:eH (wS S n) J es Y L = .ok vs aF L')(hi:vs.all tD=true)(hc:cS S n f vs aF = .ok v fj jg):bQ (wS S n) J (.call f es) Y L = .ok v fj L':=by
 refine .trans (l4 ..)<|.trans (dA (he ..))<|?_
 show(match vs.all tD with|true=>_|false=>_:O2 V2)=_
 rw[hi];show(match cS S n f vs aF with| .ok v Y _=>O2.ok v Y L'| .exc _=>.exc false| .fail=>.fail)=_
 rw[hc]
theorem iY{W:W2}{J:bS}{Y aF fj:S2}{L L' jg:aC}{x y:Ex}{l m:List Nat}(hx:bQ W J x Y L = .ok (.txt l) aF L')(hy:bQ W J y aF L' = .ok (.a (.str m)) fj jg)(hl:l.length+m.length<=5000):bQ W J (.bin .add x y) Y L = .ok (.txt (l++m)) fj jg:=by
 refine .trans (LS ..)<|.trans (dA (hx ..))<|?_
 show((bQ W J y aF L').bind fun w Y L=>dG Y L (oG .add (cV L (.txt l)) (cV L w)))=_;refine .trans (dA (hy ..))<|?_
 show dG fj jg (if l.length+m.length<=5000 then some (V2.txt (l++m)) else none)=_;rw[aO hl];rfl
section
variable(S:List Nat)(n:Nat)(Y:S2)
theorem AS(p:Pt):cS S (n+9) 62 [.a p.tree] Y = .ok (.a (.str (p.text false))) Y []:=by(apply qF p;kernel_rfl)
theorem s_row(p:Pt)(nm:Bool):cS S (n+11) 58 [.a (dB p nm)] Y = .ok (.a (.str (cW false p nm))) Y []:=by(apply qF p;apply nK nm;kernel_rfl)
noncomputable def Bk.KE:Bk->List (List Nat)
 |.one p nm=>[cW false p nm]|.two p q nm=>[cW false p false,cW false q nm]
noncomputable def Bk.joined:Bk->List Nat
 |.one p nm=>cW false p nm|.two p q nm=>p.text false++[44,32]++cW false q nm
theorem Sk{f:V2->S2->aC->O2 (List AV)}{Y:S2}{L:aC}:∀{xs:List V2}{rs:List AV},xs.length=rs.length->(∀(i:Nat)(x:V2)(r:AV),xs[i]?=some x->rs[i]?=some r->f x Y L = .ok [r] Y L)->mw f xs Y L = .ok rs Y L
 |[],[],U,bG=>by exact(JP ..)
 |x::xs,r::rs,hl,h=>by
  refine .trans (BV ..)<|.trans (dA (h 0 x r rfl rfl ..))<|?_
  show((mw f xs Y L).bind fun q Y L=>O2.ok ([r]++q) Y L)=_;refine .trans (dA (Sk (by simpa using hl) fun i x r hx hr=>h (i+1) x r hx hr ..))<|?_;rfl
 |[],U::bG,h,dy=>by cases h
 |U::bG,[],h,dy=>by cases h
theorem uM{k g:Nat}{J:bS}{src:Ex}{rows:List AV}{texts:List (List Nat)}(hs:bQ (wS S k) J src Y [] = .ok (.a (.lst rows)) Y [])(hl:rows.length=texts.length)(hl2:texts.length<=1000)
  (hc:∀(i:Nat)(r:AV)(t:List Nat),rows[i]?=some r->texts[i]?=some t->cS S k g [.a r] Y = .ok (.a (.str t)) Y []):bQ (wS S k) J (.comp [] 1 (.one 0) (.it src) [] (.call g [.loc 0])) Y [] = .ok (.a (.lst (texts.map .str))) Y []:=by
 have e1:xw (wS S k) J (.it src) Y [] = .ok (rows.map V2.a) Y []:=by
  refine .trans (F6 ..)<|.trans (dA (hs ..))<|?_;rfl
 refine .trans (Fd ..)<|.trans (dA (e1 ..))<|?_
 refine(aY (fun o:O2 (List AV)=>o.calm.bind fun r Y L=>if r.length<=1000 then O2.ok (V2.a (.lst r)) Y L else .fail) (Sk (rs:=texts.map AV.str) (xs:=rows.map V2.a) (by simp[hl]) fun i x r hx hr=>?_)).trans ?_
 ·rw[List.getElem?_map]at hx hr;induction i7 hx with|mk Sl hrw=>?_
  induction i7 hr with|mk t ht=>?_;have l0:eH (wS S k) [some (.a Sl)] [.loc 0] Y [] = .ok [.a Sl] Y []:=dH (by refine .trans (eI ..)<|?_;rfl)
  have l1:=nQ l0 rfl (hc i Sl t hrw ht);show((lJ (wS S k) [some (.a Sl)] [] Y []).bind fun b Y L=>_:O2 (List AV))=_;refine .trans (dA (BX ..))<|?_
  show((bQ (wS S k) [some (.a Sl)] (.call g [.loc 0]) Y []).bind _:O2 (List AV))=_;refine .trans (dA (l1 ..))<|?_;rfl
 ·show(if(texts.map AV.str).length<=1000 then O2.ok (V2.a (.lst (texts.map AV.str))) Y []else .fail)=_;exact(aO (by simpa using hl2) ..)
theorem uN{k:Nat}{J:bS}{e:Ex}{l:List AV}{HG:List Nat}(he:bQ (wS S k) J e Y [] = .ok (.a (.lst l)) Y [])(hj:method [] .join (.str [44,32]) [.lst l]=some (.str HG)):bQ (wS S k) J (.iK .join (.str [44,32]) [e]) Y [] = .ok (.a (.str HG)) Y []:=by
 have e0:bQ (wS S k) J (.str [44,32]) Y [] = .ok (.a (.str [44,32])) Y []:=by exact(tu ..)
 refine .trans (F9 ..)<|.trans (dA (e0 ..))<|?_
 show((eH (wS S k) J [e] Y []).bind fun vs Y L=>dG Y L (xu L .join [44,32] vs))=_;refine .trans (dA (dH he ..))<|?_
 show dG Y [] (match fE [V2.a (.lst l)]with|some l=>(match method [] .join (.str [44,32]) l with|some r=>some (V2.a r) |none=>none) |none=>none)=_
 show dG Y [] (match method [] .join (.str [44,32]) [.lst l]with|some r=>some (V2.a r) |none=>none)=_
 rw[hj];rfl
theorem HH(b:Bk):cS S (n+12) 59 [.a (.lst b.rows)] Y = .ok (.a (.str b.joined)) Y []:=by
 refine HF r7 rfl rfl rfl (L:=[]) ?_ rfl;show al (wS S (n+11)) 5000 ia [some (.a (.lst b.rows))] Y []=_;unfold ia;refine bb ?_;have h:bQ (wS S (n+11)) [some (.a (.lst b.rows))] (.iK .join (.str [44,32]) [.comp [] 1 (.one 0) (.it (.loc 0)) [] (.call 58 [.loc 0])]) Y [] = .ok (.a (.str b.joined)) Y []:=by
  refine uN S Y (l:=b.KE.map .str) (uM S Y (by refine .trans (eI ..)<|?_;rfl) (by cases b<;>rfl) (by cases b<;>simp[Bk.KE]) ?_) ?_
  ·cases b with
   |one p nm=>
    intro i r t hr ht;rcases i with _|i
    ·obtain rfl:=bE hr;obtain rfl:=bE ht;exact s_row S n Y p nm
    ·exact ak hr
   |two p q nm=>
    intro i r t hr ht;rcases i with _|_|i
    ·obtain rfl:=bE hr;obtain rfl:=bE ht;exact s_row S n Y p false
    ·obtain rfl:=bE hr;obtain rfl:=bE ht;exact s_row S n Y q nm
    ·exact ak hr
  ·apply O7 b<;>kernel_rfl
 refine .trans (BY ..)<|.trans (dA (h ..))<|?_;rfl
end
noncomputable def sG:List Sx:=gX.take 10
theorem sH:gX=sG++[.ret (.call 60 [.loc 0])]:=rfl
noncomputable def uO:List Sx:=cc.take 4
noncomputable def sI:List Sx:=cc.take 5
noncomputable def Om:Ex:=.bin .add (.bin .add (.bin .add (.loc 1) (.str [40])) (.call 59 [.sub (.loc 0) (.int 2)])) (.str [41])
noncomputable def KF:Ex:=.bin .add (.bin .add (.bin .add (.bin .add (.bin .add (.loc 1) (.str [39])) (.sub (.loc 0) (.int 2))) (.str [40])) (.iK .join (.str [44,32]) [.comp [] 1 (.one 0) (.it (.sub (.loc 0) (.int 3))) [] (.call 62 [.loc 0])])) (.str [41])
noncomputable def Bn:Sx:=.ite (.cmp .eq (.sub (.loc 0) (.int 3)) (.lst [])) [.ret (.bin .add (.bin .add (.loc 1) (.str [39])) (.sub (.loc 0) (.int 2)))] []
theorem yU:cc=uO++(.ite (.cmp .eq (.sub (.loc 0) (.int 0)) (.str [97,112,112,108,121])) [.ret Om] []::cc.drop 5):=rfl
theorem wC:cc=sI++(.ite (.cmp .eq (.sub (.loc 0) (.int 0)) (.str [116,105,99,107])) [Bn,.ret KF] []::cc.drop 6):=rfl
noncomputable def lj(rows:List AV):V2:=.tp [.a (.str [97,112,112,108,121]),.pz,.a (.lst rows)]
noncomputable def ff(a:At)(rows:List AV):V2:=.tp [.a (.str [116,105,99,107]),.pz,.a (.str a.low),.a (.lst rows)]
noncomputable def WU:Dt->V2
 |.all=>.tp [.a (.str [97,108,108]),.pz]|d=>.tp [.a (.str [115,101,108,101,99,116]),.pz,.a (.str d.GT)]
noncomputable def HI(p:Pt):V2:=.tp [.a (.str [113,117,97,108]),.pz,.a p.mark]
section
variable(S:List Nat)(n:Nat)(Y:S2)
theorem KG(d:Dt):cS S (n+20) 62 [WU d] Y = .ok (.txt (d.text false)) Y []:=by
 cases d with
 |sy s=>(apply Cr s;kernel_rfl)|_=>kernel_rfl
theorem DK(a:At):cS S (n+20) 62 [ff a []] Y = .ok (.txt ([39]++a.text false)) Y []:=by(apply Jd a;kernel_rfl)
theorem DL(p:Pt)(hp:p≠.q):cS S (n+20) 62 [HI p] Y = .ok (.txt (lL false p)) Y []:=by(apply Vp p hp;kernel_rfl)
theorem sJ(b:Bk):b.joined.length<=40:=by
 cases b with
 |one p nm=>cases p<;>cases nm<;>decide|two p q nm=>cases p<;>cases q<;>cases nm<;>decide
theorem HJ(b:Bk):cS S (n+20) 62 [lj b.rows] Y = .ok (.txt (b.text false)) Y []:=by
 refine HF mv rfl rfl rfl (L:=[]) ?_ rfl;show al (wS S (n+19)) 5000 gX [some (lj b.rows),none] Y []=_;have h1:al (wS S (n+19)) 5000 sG [some (lj b.rows),none] Y [] = .ok (.nx [some (lj b.rows),some (.a (.str [97,112,112,108,121]))]) Y []:=by kernel_rfl
 rw[sH,dI h1];have WV:cS S (n+19) 60 [lj b.rows] Y = .ok (.txt (b.text false)) Y []:=by
  refine HF lH rfl rfl rfl (L:=[]) ?_ rfl;show al (wS S (n+18)) 5000 cc [some (lj b.rows),none] Y []=_;have h2:al (wS S (n+18)) 5000 uO [some (lj b.rows),none] Y [] = .ok (.nx [some (lj b.rows),some (.txt [])]) Y []:=by kernel_rfl
  have t3:bu (wS S (n+18)) [some (lj b.rows),some (.txt [])] (.cmp .eq (.sub (.loc 0) (.int 0)) (.str [97,112,112,108,121])) Y [] = .ok true Y []:=by kernel_rfl
  rw[yU,dI h2];refine bb ?_;refine .trans (cr t3 ..)<|?_
  have st:∀x:List Nat,bQ (wS S (n+18)) [some (lj b.rows),some (.txt [])] (.str x) Y [] = .ok (.a (.str x)) Y []:=fun x=>by exact(tu ..)
  have e1:bQ (wS S (n+18)) [some (lj b.rows),some (.txt [])] (.bin .add (.loc 1) (.str [40])) Y [] = .ok (.txt [40]) Y []:=iY (l:=[]) (by refine .trans (eI ..)<|?_;rfl) (st _) (by decide)
  have e2:bQ (wS S (n+18)) [some (lj b.rows),some (.txt [])] (.call 59 [.sub (.loc 0) (.int 2)]) Y [] = .ok (.a (.str b.joined)) Y []:=by
   have e0:eH (wS S (n+18)) [some (lj b.rows),some (.txt [])] [.sub (.loc 0) (.int 2)] Y [] = .ok [.a (.lst b.rows)] Y []:=by kernel_rfl
   exact nQ e0 rfl (HH S (n+6) Y b)
  have hl:=sJ b;have e3:=iY e1 e2 (by simp;omega)
  have e4:=iY e3 (st [41]) (by simp;omega)
  have e5:[40]++b.joined++[41]=b.text false:=by cases b<;>simp[Bk.text,Bk.joined,cW]
  rw[e5]at e4;exact bb (dJ e4 rfl)
 exact bb (dJ (nQ (dH (by refine .trans (eI ..)<|?_;rfl)) rfl WV) rfl)
theorem KH(a:At)(b:Bk):bu (wS S (n+18)) [some (ff a b.cy),some (.txt [])] (.cmp .eq (.sub (.loc 0) (.int 3)) (.lst [])) Y [] = .ok false Y []:=by
 apply O7 b<;>kernel_rfl
theorem KI(a:At)(b:Bk)(h:b.nm=false):bQ (wS S (n+18)) [some (ff a b.cy),some (.txt [])] (.iK .join (.str [44,32]) [.comp [] 1 (.one 0) (.it (.sub (.loc 0) (.int 3))) [] (.call 62 [.loc 0])]) Y [] = .ok (.a (.str b.joined)) Y []:=by
 refine uN S Y (l:=b.KE.map .str) (uM S Y (rows:=b.cy) (by kernel_rfl) (by cases b<;>rfl) (by cases b<;>simp[Bk.KE]) ?_) ?_
 ·cases b with
  |one p nm=>
   cases h;intro i r t hr ht;rcases i with _|i
   ·obtain rfl:=bE hr;obtain rfl:=bE ht;exact AS S (n+9) Y p
   ·exact ak hr
  |two p q nm=>
   cases h;intro i r t hr ht;rcases i with _|_|i
   ·obtain rfl:=bE hr;obtain rfl:=bE ht;exact AS S (n+9) Y p
   ·obtain rfl:=bE hr;obtain rfl:=bE ht;exact AS S (n+9) Y q
   ·exact ak hr
 ·apply O7 b<;>kernel_rfl
theorem KJ(a:At)(b:Bk)(h:b.nm=false):[39]++a.text false++[40]++b.joined++[41]=([39]++a.text false)++b.text false:=by
 cases b with
 |one p nm=>cases h;simp[Bk.text,Bk.joined,cW]|two p q nm=>cases h;simp[Bk.text,Bk.joined,cW]
theorem On(a:At):(a.text false).length<=10:=by cases a<;>decide
theorem AT(a:At)(b:Bk)(h:b.nm=false):cS S (n+20) 62 [ff a b.cy] Y = .ok (.txt (([39]++a.text false)++b.text false)) Y []:=by
 refine HF mv rfl rfl rfl (L:=[]) ?_ rfl;show al (wS S (n+19)) 5000 gX [some (ff a b.cy),none] Y []=_;have h1:al (wS S (n+19)) 5000 sG [some (ff a b.cy),none] Y [] = .ok (.nx [some (ff a b.cy),some (.a (.str [116,105,99,107]))]) Y []:=by kernel_rfl
 rw[sH,dI h1];have WV:cS S (n+19) 60 [ff a b.cy] Y = .ok (.txt (([39]++a.text false)++b.text false)) Y []:=by
  refine HF lH rfl rfl rfl (L:=[]) ?_ rfl;show al (wS S (n+18)) 5000 cc [some (ff a b.cy),none] Y []=_;have h2:al (wS S (n+18)) 5000 sI [some (ff a b.cy),none] Y [] = .ok (.nx [some (ff a b.cy),some (.txt [])]) Y []:=by kernel_rfl
  have t3:bu (wS S (n+18)) [some (ff a b.cy),some (.txt [])] (.cmp .eq (.sub (.loc 0) (.int 0)) (.str [116,105,99,107])) Y [] = .ok true Y []:=by kernel_rfl
  rw[wC,dI h2];refine bb ?_;refine .trans (cr t3 ..)<|?_
  unfold Bn;refine .trans (aN (iI (KH S n Y a b)) ..)<|?_
  have st:∀x:List Nat,bQ (wS S (n+18)) [some (ff a b.cy),some (.txt [])] (.str x) Y [] = .ok (.a (.str x)) Y []:=fun x=>by exact(tu ..)
  have e1:bQ (wS S (n+18)) [some (ff a b.cy),some (.txt [])] (.bin .add (.loc 1) (.str [39])) Y [] = .ok (.txt [39]) Y []:=iY (l:=[]) (by refine .trans (eI ..)<|?_;rfl) (st _) (by decide)
  have e2:bQ (wS S (n+18)) [some (ff a b.cy),some (.txt [])] (.sub (.loc 0) (.int 2)) Y [] = .ok (.a (.str (a.text false))) Y []:=by kernel_rfl
  have la:=On a;have e3:=iY e1 e2 (by simp;omega)
  have e4:=iY e3 (st [40]) (by simp;omega)
  have hl:=sJ b;have e6:=iY e4 (KI S n Y a b h) (by simp;omega)
  have e7:=iY e6 (st [41]) (by simp;omega)
  rw[KJ a b h]at e7;exact bb (dJ e7 rfl)
 exact bb (dJ (nQ (dH (by refine .trans (eI ..)<|?_;rfl)) rfl WV) rfl)
end
noncomputable def zS(c0:aC)(H:AV)(T:List Nat):Cz:={jf:=fun U=>c0,inv:=fun U=>True,n0:=c0.length,T:=T,p:=0,s:=T,H:=H,it:=0,rd:=false,gl:=gl}
theorem Lv(hc:cl c0)(hH:aH 0 H=true)(hT:T.length<=90000):(zS c0 H T).Ok:=
 ⟨fun U U=>rfl,fun U U=>hc,⟨rfl,Nat.zero_le _⟩,hT,hH,nI,(fun h=>by exact eK h),(fun h=>by exact eK h),(fun h=>by exact eK h)⟩
theorem HK{K:Nat}(hc:cl c0)(h:∀m c,K<=m->cl c->bL fns ini gl 5000 m 62 [H] c = .ok (.str T) c):lc (zS c0 H T) fns ini 5000 K yT:=by
 intro f args Y r e m R hm ay hR ha hi;obtain⟨rfl,e⟩:=Ho (show(if f=62 then _ else _)=_ from e)
 induction FW e with|mk x e=>?_;obtain⟨hx,e⟩:=Rh e
 obtain rfl:=FZ hx;obtain rfl:=bE e;refine⟨trivial,rfl,trivial,?_⟩;rw[List.map_cons,List.map_nil,gF,iE];show bL fns ini gl 5000 m 62 [H] (c0++R) = .ok (.str (T++[])) (c0++R);rw[List.append_nil];exact h m _ hm (dY.mpr ⟨hc,hR⟩)
theorem HL:lc (zS c0 H T) fns ini 5000 0 (fun U U U=>none):=fun f args Y r e=>by exact ak e
theorem HM(m:s6)(Y:S2):eU fns gl 5000 [] (fun U U U=>none) 20 62 [.a (wT m.low)] Y = .ok (.a (.str (m.text false))) Y []:=by(apply Je m;kernel_rfl)
theorem HN(s:Sy)(p:Pt)(Y:S2):eU fns gl 5000 [] (fun U U U=>none) 20 62 [.a (rm (wT s.quoted) [.tup [.none,p.tree]])] Y = .ok (.a (.str (bO.text false (.sy s p)))) Y []:=by(apply Cr s;apply qF p;kernel_rfl)
theorem KL(v:Bool)(d:Dt):(d.text v).length<=20:=by
 cases d with
 |sy s=>cases s<;>cases v<;>decide|_=>cases v<;>decide
theorem Bo(v:Bool)(a:At):(a.text v).length<=10:=by cases a<;>cases v<;>decide
theorem Bp(v:Bool)(p:Pt):(p.text v).length<=5:=by cases p<;>cases v<;>decide
theorem yV(v:Bool)(p:Pt)(nm:Bool):(cW v p nm).length<=10:=by cases p<;>cases v<;>cases nm<;>decide
theorem wD(v:Bool)(b:Bk):(b.text v).length<=40:=by
 cases b with
 |one p nm=>have:=yV v p nm;simp[Bk.text];omega|two p q nm=>have:=yV v q nm;have:=Bp v p;simp[Bk.text];omega
theorem text_len(v:Bool):∀t:bO,(t.text v).length<=60*t.size
 |.nm m=>by
  have:(m.text v).length<=10:=by cases m<;>cases v<;>decide
  show(m.text v).length<=60*1;omega
 |.sy s p=>by
  have h1:(s.text v).length<=10:=by cases s<;>cases v<;>decide
  have h2:=Bp v p;show(bO.text v (.sy s p)).length<=60*2;simp[bO.AE];omega
 |.dt t d=>by
  have:=text_len v t;have:=KL v d;show(t.text v++d.text v).length<=60*(t.size+1);simp;omega
 |.tick t a=>by
  have:=text_len v t;have:=Bo v a;show(t.text v++([39]++a.text v)).length<=60*(t.size+1);simp;omega
 |.d4 t a b=>by
  have:=text_len v t;have:=Bo v a;have:=wD v b;show(t.text v++([39]++a.text v)++b.text v).length<=60*(t.size+1);simp;omega
 |.app t b=>by
  have:=text_len v t;have:=wD v b;show(t.text v++b.text v).length<=60*(t.size+1);simp;omega
theorem sK(p:Pt):aH 0 p.tree=true:=by cases p<;>decide
theorem oO(p:Pt)(nm:Bool):aH 0 (dB p nm)=true:=by cases p<;>cases nm<;>decide
theorem sM(b:Bk):dW 0 b.rows=true:=by
 cases b with
 |one p nm=>rw[Bk.O3,bH,cu,oO];rfl|two p q nm=>rw[Bk.O4,bH,bH,cu,oO,oO];rfl
theorem og(b:Bk):dW 0 b.cy=true:=by
 cases b with
 |one p nm=>rw[Bk.Ja,bH,cu,sK];rfl|two p q nm=>rw[Bk.Jb,bH,bH,cu,sK,sK];rfl
theorem cD:∀t:bO,aH 0 t.av=true
 |.nm m=>by cases m<;>decide
 |.sy s p=>by cases s<;>cases p<;>decide
 |.dt t d=>by
  have:=cD t;rw[bO.Vf];cases d<;>(unfold Dt.put;rw[bv,bH,bH,this];first| (rw[a9,cu];rfl)|(rw[a9,bH,a9,cu];rfl))
 |.tick t a=>by
  have:=cD t;rw[bO.Vg];unfold fk
  (refine .trans (bv ..)<|.trans (bH ..)<|?_;rw[bH,bH,bH,cu,this,a9,a9,bP,cu]);rfl
 |.d4 t a b=>by
  have:=cD t;rw[bO.Vh];unfold fk
  (refine .trans (bv ..)<|.trans (bH ..)<|?_;rw[bH,bH,bH,cu,this,a9,a9,bP,og]);rfl
 |.app t b=>by
  have:=cD t;rw[bO.Vi];unfold rm
  (refine .trans (bv ..)<|.trans (bH ..)<|?_;rw[bH,bH,cu,this,a9,bP,sM]);rfl
theorem nT{t:bO}{K:Nat}(hs:t.size<=1000)(h:∀m c,K<=m->cl c->bL fns ini gl 5000 m 62 [t.av] c = .ok (.str (t.text false)) c){X:V2}{aj:AV}{w:List Nat}(hX:∀c0,eJ (zS c0 t.av (t.text false)) X/\iv (zS c0 t.av (t.text false)) 0 X=aj)(hi:tD X=true)
  (hk:∀S Y,cS S 20 62 [X] Y = .ok (.txt w) Y []):∀m c,K+20<=m->cl c->bL fns ini gl 5000 m 62 [aj] c = .ok (.str (t.text false++w)) c:=by
 intro m c hm hc;have hT:(t.text false).length<=90000:=by have:=text_len false t;omega
 have S:=jX (Lv (c0:=c) (H:=t.av) (T:=t.text false) hc (cD t) hT) gw (HK hc h) 20 m 62 [X] ⟨[],0,[]⟩ [] (by omega) trivial jU (fun v hv=>by rw[List.mem_singleton]at hv;subst hv;exact(hX c).1) (by(refine .trans (List.all_cons ..)<|?_;rw[hi]);rfl)
 have e:eU fns (zS c t.av (t.text false)).gl 5000 (zS c t.av (t.text false)).s yT 20 62 [X] ⟨[],0,[]⟩= .ok (.txt w) ⟨[],0,[]⟩ []:=hk _ _;rw[e]at S;refine fK S fun U U U q=>?_;have q2:bL fns ini gl 5000 m 62 [iv (zS c t.av (t.text false)) 0 X] (c++[]) = .ok (.str (t.text false++w)) (c++[]):=q;rw[(hX c).2,List.append_nil]at q2;exact q2
theorem uP(hU:aH 0 aj=true)(hk:eU fns gl 5000 [] (fun U U U=>none) 20 62 [.a aj] ⟨[],0,[]⟩= .ok (.a (.str w)) ⟨[],0,[]⟩ []):∀m c,20<=m->cl c->bL fns ini gl 5000 m 62 [aj] c = .ok (.str w) c:=by
 intro m c hm hc;have S:=jX (Lv (c0:=c) (H:=.none) (T:=[]) hc (bm _) (Nat.zero_le _)) gw (ini:=ini) (lf:=5000) HL 20 m 62 [.a aj] ⟨[],0,[]⟩ [] (by assumption) trivial jU (fun v hv=>by rw[List.mem_singleton]at hv;subst hv;exact bK.mpr hU) rfl
 have e:eU fns (zS c .none []).gl 5000 (zS c .none []).s (fun U U U=>none) 20 62 [.a aj] ⟨[],0,[]⟩= .ok (.a (.str w)) ⟨[],0,[]⟩ []:=hk;rw[e]at S;refine fK S fun U U U q=>?_;have q2:bL fns ini gl 5000 m 62 [aj] (c++[]) = .ok (.str w) (c++[]):=q;rw[List.append_nil]at q2;exact q2
theorem yW(h:∀v∈l,eJ z v)(ho:j7 l=true):eJ z (.tp l):=by
 exact⟨mz.mpr h,ho⟩
theorem kf:∀(t:bO),t.ok->t.size<=1000->∀m c,20*t.size<=m->cl c->bL fns ini gl 5000 m 62 [t.av] c = .ok (.str (t.text false)) c
 |.nm n,U,bG=>uP (cD (.nm n)) (HM n _)|.sy s p,U,bG=>fun m c hm hc=>uP (cD (.sy s p)) (HN s p _) m c (by have:20*2<=m:=hm;omega) hc
 |.dt t d,h,hs=>by
  have iL:t.size+1<=1000:=hs;refine nT (Nat.le_of_lt (by assumption)) (kf t h (Nat.le_of_lt (by assumption))) (X:=WU d) (fun c0=>⟨?_,?_⟩) (by cases d<;>rfl) fun S Y=>KG S 0 Y d
  ·cases d<;>exact yW (fun v hv=>by simp at hv;rcases hv with rfl|rfl|rfl<;>first|exact bK.mpr (a9 _ _)|(exact trivial)) rfl
  ·cases d<;>(unfold WU;rw[jB];simp only[List.map_cons,List.map_nil,bn,gF];rfl)
 |.tick t a,h,hs=>by
  have iL:t.size+1<=1000:=hs;refine nT (Nat.le_of_lt (by assumption)) (kf t h (Nat.le_of_lt (by assumption))) (X:=ff a []) (fun c0=>⟨?_,?_⟩) rfl fun S Y=>DK S 0 Y a
  ·refine yW (fun v hv=>?_) rfl;simp at hv;rcases hv with rfl|rfl|rfl|rfl
   ·exact bK.mpr (a9 _ _)
   ·exact trivial
   ·exact bK.mpr (a9 _ _)
   ·exact bK.mpr (by exact .trans (bP ..)<|(cu ..))
  ·unfold ff;refine .trans (jB ..)<|?_;simp only[List.map_cons,List.map_nil,bn,gF];rfl
 |.d4 t a b,h,hs=>by
  have iL:t.size+1<=1000:=hs;have e:bO.text false (.d4 t a b)=t.text false++(([39]++a.text false)++b.text false):=by simp[bO.AF]
  rw[e];refine nT (Nat.le_of_lt (by assumption)) (kf t h.1 (Nat.le_of_lt (by assumption))) (X:=ff a b.cy) (fun c0=>⟨?_,?_⟩) rfl fun S Y=>AT S 0 Y a b h.2.2
  ·refine yW (fun v hv=>?_) rfl;simp at hv;rcases hv with rfl|rfl|rfl|rfl
   ·exact bK.mpr (a9 _ _)
   ·exact trivial
   ·exact bK.mpr (a9 _ _)
   ·exact bK.mpr (by refine .trans (bP ..)<|?_;exact og b)
  ·unfold ff;refine .trans (jB ..)<|?_;simp only[List.map_cons,List.map_nil,bn,gF];rfl
 |.app t b,h,hs=>by
  have iL:t.size+1<=1000:=hs;refine nT (Nat.le_of_lt (by assumption)) (kf t h.1 (Nat.le_of_lt (by assumption))) (X:=lj b.rows) (fun c0=>⟨?_,?_⟩) rfl fun S Y=>HJ S 0 Y b
  ·refine yW (fun v hv=>?_) rfl;simp at hv;rcases hv with rfl|rfl|rfl
   ·exact bK.mpr (a9 _ _)
   ·exact trivial
   ·exact bK.mpr (by refine .trans (bP ..)<|?_;exact sM b)
  ·unfold lj;refine .trans (jB ..)<|?_;simp only[List.map_cons,List.map_nil,bn,gF];rfl
theorem lq(p:Pt):aH 0 p.mark=true:=by cases p<;>decide
theorem wE(t:bO)(h:t.ok)(hs:t.size<=999)(p:Pt)(hp:p≠.q):∀m c,20*t.size+20<=m->cl c->bL fns ini gl 5000 m 62 [gk t.av p] c = .ok (.str (t.text false++lL false p)) c:=by
 refine nT (cY (by assumption) (by decide)) (kf t h (cY (by assumption) (by decide))) (X:=HI p) (fun c0=>⟨?_,?_⟩) rfl fun S Y=>DL S 0 Y p hp
 ·refine yW (fun v hv=>?_) rfl;simp at hv;rcases hv with rfl|rfl|rfl
  ·exact bK.mpr (a9 _ _)
  ·exact trivial
  ·exact bK.mpr (lq p)
 ·unfold HI;refine .trans (jB ..)<|?_;simp only[List.map_cons,List.map_nil,bn,gF];rfl
noncomputable def gI:List (Option Nat)->Option Nat
 |[]=>some 0|some a::l=>match gI l with
  |some b=>some (a+b)|none=>none
 |none::U=>none
noncomputable def wt:Nat->AV->Option Nat
 |0,U=>none|n+1,a=>match eg a with
  |some ks=>match az 59 ks with
   |true=>match gI (ks.map (wt n)) with
    |some w=>some (w+1)|none=>none
   |false=>none
  |none=>none
theorem Sm x n :
 wt n.succ x =
  match eg x with
  |some ks=>
   match az 59 ks with
   |true=>
    match gI (List.map (wt n) ks) with
    |some w=>some (w+1)|none=>none
   |false=>none
  |none=>none:=rfl
inductive Sn(o p:Option Nat):Nat->Prop
 |mk (a b:Nat) (e1:o=some a) (e2:p=some b):Sn o p (a+b)
theorem jF{o:Option Nat}{l:List (Option Nat)}{w:Nat}(h:gI (o::l)=some w):Sn o (gI l) w:=by
 cases o with
 |none=>exact ak h|some a=>
  replace h:(match gI l with|some b=>some (a+b) |none=>none)=some w:=h
  cases e:gI l with
  |some b=>
   rw[e]at h;obtain rfl:=bE h;exact⟨a,b,rfl,rfl⟩
  |none=>rw[e]at h;exact ak h
theorem kg{a b:Nat}{o:Option Nat}{l:List (Option Nat)}(h:o=some a)(h2:gI l=some b):gI (o::l)=some (a+b):=by
 subst h;show(match gI l with|some b=>some (a+b) |none=>none)=_;rw[h2]
theorem kP{a:Nat}{o:Option Nat}(h:o=some a):gI [o]=some a:=by subst h;rfl
theorem oP{l ks:List AV}(hl:l.length<=1000)(hk:kids (.tup l)=some ks)(hs:ks.length<=1000):eg (.tup l)=some ks:=by
 show(if l.length<=1000 then(match kids (.tup l) with|some ks=>if ks.length<=1000 then some ks else none|none=>none) else none)=_
 (refine .trans (aO hl ..)<|?_;rw[hk])
 dsimp only;exact(aO hs ..)
theorem oh:∀{l m:List (Option Nat)}{a b:Nat},gI l=some a->gI m=some b->gI (l++m)=some (a+b)
 |[],m,a,b,h,h2=>by obtain rfl:=bE h;rw[List.nil_append,h2,Nat.zero_add]
 |o::l,m,a,b,h,h2=>by
  induction jF h with|mk x y e1 e2=>?_;rw[List.cons_append,kg e1 (oh e2 h2),Nat.add_assoc]
inductive Xg(n:Nat)(a:AV):Nat->Prop
 |mk (ks:List AV) (w:Nat) (h1:eg a=some ks) (h2:az 59 ks=true) (h3:gI (ks.map (wt n))=some w):Xg n a (w+1)
theorem wF{n w:Nat}{a:AV}(h:wt (n+1) a=some w):Xg n a w:=by
 rw[Sm]at h;refine i5 (eg a) (fun ks e=>?_) (fun e=>?_)
 ·
  rw[e]at h;dsimp only at h;cases hp:az 59 ks with
  |false=>rw[hp]at h;exact ak h|true=>
   rw[hp]at h;dsimp only at h;cases e2:gI (ks.map (wt n)) with
   |none=>rw[e2]at h;exact ak h|some w'=>rw[e2]at h;obtain rfl:=bE h;exact⟨ks,w',e,hp,e2⟩
 ·rw[e]at h;exact ak h
theorem sO{n w:Nat}{a:AV}{ks:List AV}(h:eg a=some ks)(hp:az 59 ks=true)(hs:gI (ks.map (wt n))=some w):wt (n+1) a=some (w+1):=by
 (refine .trans (Sm ..)<|?_;rw[h])
 dsimp only;rw[hp];dsimp only;rw[hs]
theorem sP{f g:AV->Option Nat}(h:∀a w,f a=some w->g a=some w):∀{l:List AV}{w:Nat},gI (l.map f)=some w->gI (l.map g)=some w
 |[],w,e=>e|a::l,w,e=>by
  induction jF e with|mk x y e1 e2=>?_;exact kg (h _ _ e1) (sP h e2)
theorem yX:∀{n w:Nat}{a:AV},wt n a=some w->wt (n+1) a=some w
 |0,w,a,h=>by exact ak h
 |n+1,w,a,h=>by
  induction wF h with|mk ks w' h1 h2 h3=>?_;exact sO h1 h2 (sP (fun a w=>yX) h3)
theorem qJ{n m w:Nat}{a:AV}(h:wt n a=some w)(hm:n<=m):wt m a=some w:=by
 induction hm with
 |refl=>exact h|step U ih=>exact yX ih
theorem bc{k:Nat}:∀{l m:List AV},az k l=true->az k m=true->az k (l++m)=true
 |[],m,U,h=>h|a::l,m,h,h2=>by
  rw[ax,be]at h;rw[List.cons_append,ax,h.1,bc h.2 h2];rfl
inductive Xh(n:Nat)(l:List AV):Nat->Prop
 |mk (l':List AV) (w:Nat) (h1:bW eg l=some l') (h2:az 59 l'=true) (h3:gI (l'.map (wt n))=some w) (h4:l'.length<=w):Xh n l (w+l.length)
theorem sQ{n:Nat}:∀{l:List AV}{w:Nat},gI (l.map (wt (n+1)))=some w->Xh n l w
 |[],w,h=>by obtain rfl:=bE h;exact⟨[],0,rfl,by exact(dU ..),rfl,b5 _⟩
 |a::l,w,h=>by
  induction jF h with|mk x y e1 e2=>?_;induction wF e1 with|mk ks w1 k1 k2 k3=>?_
  induction sQ e2 with|mk l' w' q1 q2 q3 q5=>?_;have len:ks.length<=w1:=by
   clear k1 k2 e1;have:∀{l:List AV}{w:Nat},gI (l.map (wt n))=some w->l.length<=w:=by
    intro l;induction l with
    |nil=>intro w _;exact Nat.zero_le _|cons b r ih=>
     intro w hw;induction jF hw with|mk p q f1 f2=>?_
     have:=ih f2;have:1<=p:=by
      cases n with
      |zero=>exact ak f1|succ n=>induction wF f1 with|mk _ _ _ _ _=>?_;omega
     simp;omega
   exact this k3
  rw[show w1+1+(w'+l.length)=w1+w'+(a::l).length from by rw[List.length_cons];omega]
  refine⟨ks++l',w1+w',by(refine .trans (gH ..)<|?_;rw[k1,q1]),bc k2 q2,?_,by rw[cB];omega⟩
  rw[List.map_append];exact oh k3 q3
theorem HO:∀(n:Nat){l:List AV}{w:Nat},gI (l.map (wt n))=some w->w<=1000->Hk (n+1) l=true
 |0,[],w,h,U=>by decide
 |0,a::l,w,h,U=>by
  induction jF h with|mk x y e1 _=>?_;exact ak e1
 |n+1,l,w,h,hw=>by
  induction sQ h with|mk l' w' q1 q2 q3 q5=>?_
  (refine .trans (G6 ..)<|?_;rw[q1])
  dsimp only;have hp:plain aw (.lst l')=true:=by
   show plain 60 (.lst l')=true;refine .trans (kT ..)<|?_;exact q2
  rw[decide_eq_true (by omega),hp,HO n q3 (by omega)]
  simp
theorem yY:∀{n:Nat}{l:List AV},Hk n l=true->Hk (n+1) l=true
 |0,l,h=>by exact eK h
 |n+1,l,h=>by
  obtain⟨l',e,hs,hp,hr⟩:=Lm h;rw[G6,e];simp only[be,decide_eq_true_eq,Bool.or_eq_true];exact⟨⟨hs,hp⟩,hr.imp id yY⟩
theorem AU{n w:Nat}{T:AV}(h:wt n T=some w)(hn:n<=59)(hw:w<=1000):wU T=true:=by
 have h1:gI ([T].map (wt n))=some w:=by
  have:=kg (l:=[]) h rfl;rw[Nat.add_zero]at this;exact this
 have h2:=HO n h1 hw;unfold wU;obtain⟨k,hk⟩:∃k,60=(n+1)+k:=⟨59-n,by omega⟩
 rw[hk];clear hk h1 h;induction k with
 |zero=>exact h2|succ k ih=>exact yY ih
mutual
theorem sR{k:Nat}:∀{v:AV},plain k v=true->plain (k+1) v=true
 |.none,U=>rfl|.bool U,bG=>rfl|.int U,bG=>rfl|.str s,h=>h|.tup l,h=>by
  cases k with
  |zero=>exact eK h|succ k=>rw[gN]at h⊢;exact iZ h
 |.lst l,h=>by
  cases k with
  |zero=>exact eK h|succ k=>rw[kT]at h⊢;exact iZ h
 |.ref i,h=>eK h
theorem iZ{k:Nat}:∀{l:List AV},az k l=true->az (k+1) l=true
 |[],U=>rfl|a::l,h=>by
  rw[ax,be]at h⊢;exact⟨sR h.1,iZ h.2⟩
end
theorem ct{k m:Nat}{v:AV}(h:plain k v=true)(hm:k<=m):plain m v=true:=by
 induction hm with
 |refl=>exact h|step U ih=>exact sR ih
theorem uQ{k m:Nat}{v:List AV}(h:az k v=true)(hm:k<=m):az m v=true:=by
 induction hm with
 |refl=>exact h|step U ih=>exact iZ ih
noncomputable def j1(l:List AV):List AV:=(bW iF l).getD []
noncomputable def nU(l:List AV):Bool:=(bW iF l).isSome&&az 59 (j1 l)&&az 6 l&&(match gI ((j1 l).map (wt 4)) with|some w=>decide (w<=10) |none=>false)&&decide ((j1 l).length<=10)
theorem sS(b:Bk):nU b.rows=true:=by
 apply O7 b<;>kernel_rfl
theorem uR(b:Bk):nU b.cy=true:=by
 apply O7 b<;>kernel_rfl
theorem AW{l:List AV}(h:nU l=true):∃ks w,bW iF l=some ks/\az 59 ks=true/\az 6 l=true/\gI (ks.map (wt 4))=some w/\w<=10/\ks.length<=10:=by
 unfold nU j1 at h;cases e:bW iF l with
 |none=>rw[e]at h;simp at h|some ks=>
  rw[e]at h;simp only[Option.getD_some,be,decide_eq_true_eq]at h;obtain⟨⟨⟨⟨_,h1⟩,h2⟩,h3⟩,h4⟩:=h;cases ew:gI (ks.map (wt 4)) with
  |none=>rw[ew]at h3;exact eK h3|some w=>rw[ew]at h3;exact⟨ks,w,rfl,h1,h2,ew,of_decide_eq_true h3,h4⟩
theorem lr:∀t:bO,∃l,t.av = .tup l
 |.nm U=>⟨_,rfl⟩|.sy U bG=>⟨_,rfl⟩|.dt t d=>by cases d<;>exact⟨_,rfl⟩
 |.tick U bG=>⟨_,rfl⟩|.d4 U bG dy=>⟨_,rfl⟩|.app U bG=>⟨_,rfl⟩
theorem HP{n w:Nat}{tag:List Nat}{T:AV}{l:List AV}(hT:T = .tup l)(h:wt n T=some w)(hp:plain 59 T=true):wt (n+1) (.tup [.str tag,T])=some (w+1):=by
 subst hT;refine sO (ks:=[.tup l]) rfl ?_ (kP h)
 (refine .trans (ax ..)<|?_;rw[hp,dU]);rfl
theorem HQ{n w:Nat}{tag s:List Nat}{T:AV}{l:List AV}(hT:T = .tup l)(h:wt n T=some w)(hp:plain 59 T=true):wt (n+1) (.tup [.str tag,T,.str s])=some (w+1):=by
 subst hT;refine sO (ks:=[.tup l]) rfl ?_ (kP h)
 (refine .trans (ax ..)<|?_;rw[hp,dU]);rfl
theorem wH{n w:Nat}{T:AV}{l rows:List AV}{pre post:List AV}(hT:T = .tup l)(h:wt n T=some w)(hn:4<=n)(hp:plain 59 T=true)(hr:nU rows=true){a:AV}(ha:∀ks,bW iF rows=some ks->ks.length<=10->eg a=some (T::ks)):∃w',wt (n+1) a=some w'/\w'<=w+11:=by
 refine Pb (AW hr) fun ks v h1 h2 h3 h4 h5 h6=>?_;refine⟨_,sO (ha ks h1 h6) ?_ (kg h (sP (fun a w=>fun q=>qJ q hn) h4)),by omega⟩
 (refine .trans (ax ..)<|?_;rw[hp,h2]);rfl
theorem gJ(k:Nat)(s:List Nat):plain k (.str s)=s.all (·<1114112):=rfl
theorem uS(a:At):a.low.all (·<1114112)=true:=by apply Jd a;kernel_rfl
theorem AX(d:Dt):d.GT.all (·<1114112)=true:=by
 apply Vq d<;>kernel_rfl
inductive HR(n:Nat)(a:AV):Prop
 |mk (h1:plain (n+8) a=true) (w:Nat) (h2:wt (n+4) a=some w) (h3:w<=12*n)
noncomputable def DM(s:List Nat):Bool:=s.all (·<1114112)
theorem DO{k:Nat}{tag:List Nat}{T:AV}(ht:DM tag=true)(h:plain k T=true):plain (k+1) (.tup [.str tag,T])=true:=by
 (refine .trans (gN ..)<|.trans (ax ..)<|?_;rw[ax,h,gJ,show tag.all (·<1114112)=true from ht,dU]);rfl
theorem i3{k:Nat}{tag s:List Nat}{T:AV}(ht:DM tag=true)(hs:DM s=true)(h:plain k T=true):plain (k+1) (.tup [.str tag,T,.str s])=true:=by
 (refine .trans (gN ..)<|.trans (ax ..)<|?_;rw[ax,h,gJ,show tag.all (·<1114112)=true from ht,ax,gJ,show s.all (·<1114112)=true from hs,dU]);rfl
theorem sT{k:Nat}{tag s:List Nat}{T:AV}{rows:List AV}(ht:DM tag=true)(hs:DM s=true)(h:plain (k+1) T=true)(hr:az k rows=true):plain (k+2) (.tup [.str tag,T,.str s,.lst rows])=true:=by
 (refine .trans (gN ..)<|.trans (ax ..)<|?_;rw[ax,ax,ax,dU,h,gJ,gJ,show tag.all (·<1114112)=true from ht,show s.all (·<1114112)=true from hs,kT,hr]);rfl
theorem DP{k:Nat}{tag:List Nat}{T:AV}{rows:List AV}(ht:DM tag=true)(h:plain (k+1) T=true)(hr:az k rows=true):plain (k+2) (.tup [.str tag,T,.lst rows])=true:=by
 (refine .trans (gN ..)<|.trans (ax ..)<|?_;rw[ax,ax,dU,h,gJ,show tag.all (·<1114112)=true from ht,kT,hr]);rfl
theorem yZ{tag:List Nat}{T:AV}{l rows ks:List AV}(hT:T = .tup l)(hk:kids (.tup [.str tag,T,.lst rows])=bW eu [T,.lst rows])(h:bW iF rows=some ks)(hl:ks.length<=10):eg (.tup [.str tag,T,.lst rows])=some (T::ks):=by
 refine oP (by simp) ?_ (by simp;omega)
 have f1:eu T=some [T]:=by rw[hT];rfl
 have f2:eu (.lst rows)=some ks:=h
 (refine .trans (hk ..)<|.trans (gH ..)<|?_;rw[f1,gH,f2,uD]);simp
theorem DQ{tag s:List Nat}{T:AV}{l rows ks:List AV}(hT:T = .tup l)(hk:kids (.tup [.str tag,T,.str s,.lst rows])=bW eu [T,.str s,.lst rows])(h:bW iF rows=some ks)(hl:ks.length<=10):eg (.tup [.str tag,T,.str s,.lst rows])=some (T::ks):=by
 refine oP (by simp) ?_ (by simp;omega)
 have f1:eu T=some [T]:=by rw[hT];rfl
 have f2:eu (.lst rows)=some ks:=h;have f3:eu (.str s)=some []:=rfl
 (refine .trans (hk ..)<|.trans (gH ..)<|?_;rw[f1,gH,f3,gH,f2,uD]);simp
theorem So(m:s6):HR 1 (bO.nm m).av:=
 ⟨by apply Je m;kernel_rfl,1,by apply Je m;kernel_rfl,by decide⟩
theorem Sp(s:Sy)(p:Pt):HR 2 (bO.sy s p).av:=by
 refine au (wH (n:=4) (w:=1) (T:=wT s.quoted) (pre:=[]) (post:=[]) rfl (by apply Cr s;kernel_rfl) (by decide) (by apply Cr s;kernel_rfl) (sS (.one p false)) (a:=(bO.sy s p).av) fun ks h1 h6=>yZ rfl rfl h1 h6) fun w hw TY=>?_
 exact⟨by apply qF p;apply Cr s;kernel_rfl,w,qJ hw (by decide),by omega⟩
section
variable{n:Nat}{T:AV}{l:List AV}
theorem Sq(hT:T = .tup l)(A:HR n T)(hn:n<=40)(d:Dt):HR (n+1) (d.put T):=by
 obtain⟨h1,w,h2,h3⟩:=A;have hp:plain 59 T=true:=ct h1 (by omega)
 refine⟨?_,w+1,?_,by omega⟩
 ·show plain ((n+8)+1) (d.put T)=true;cases d with
  |sy s=>exact i3 rfl (AX (.sy s)) h1|field=>exact i3 rfl rfl h1|all=>exact DO rfl h1|b=>exact i3 rfl rfl h1|g=>exact i3 rfl rfl h1
 ·show wt ((n+4)+1) (d.put T)=some (w+1);cases d with
  |all=>exact HP hT h2 hp|_=>exact HQ hT h2 hp
theorem KM(hT:T = .tup l)(A:HR n T)(hn:n<=40)(a:At):HR (n+1) (fk T a []):=by
 obtain⟨h1,w,h2,h3⟩:=A;have hp:plain 59 T=true:=ct h1 (by omega)
 refine⟨sT rfl (uS a) h1 (by exact(dU ..)),w+1,?_,by omega⟩
 subst hT;exact sO (ks:=[.tup l]) rfl (by(refine .trans (ax ..)<|?_;rw[hp,dU]);rfl) (kP h2)
theorem HS(hT:T = .tup l)(A:HR n T)(hn:n<=40)(a:At)(b:Bk):HR (n+1) (fk T a b.cy):=by
 obtain⟨h1,w,h2,h3⟩:=A;have hp:plain 59 T=true:=ct h1 (by omega)
 obtain⟨_,_,_,_,p6,_⟩:=AW (uR b);refine au (wH (pre:=[]) (post:=[]) hT h2 (by omega) hp (uR b) (a:=fk T a b.cy) fun ks e1 e6=>DQ hT rfl e1 e6) fun w' hw TY=>?_
 exact⟨sT rfl (uS a) h1 (uQ p6 (by omega)),w',hw,by omega⟩
theorem Oo(hT:T = .tup l)(A:HR n T)(hn:n<=40)(b:Bk):HR (n+1) (rm T b.rows):=by
 obtain⟨h1,w,h2,h3⟩:=A;have hp:plain 59 T=true:=ct h1 (by omega)
 obtain⟨_,_,_,_,p6,_⟩:=AW (sS b);refine au (wH (pre:=[]) (post:=[]) hT h2 (by omega) hp (sS b) (a:=rm T b.rows) fun ks e1 e6=>yZ hT rfl e1 e6) fun w' hw TY=>?_
 exact⟨DP rfl h1 (uQ p6 (by omega)),w',hw,by omega⟩
end
theorem iJ:∀t:bO,t.size<=40->HR t.size t.av
 |.nm m,U=>So m|.sy s p,U=>Sp s p|.dt t d,hs=>let⟨_,h⟩:=lr t;Sq h (iJ t (dw hs)) (dw hs) d|.tick t a,hs=>let⟨_,h⟩:=lr t;KM h (iJ t (dw hs)) (dw hs) a|.d4 t a b,hs=>let⟨_,h⟩:=lr t;HS h (iJ t (dw hs)) (dw hs) a b|.app t b,hs=>let⟨_,h⟩:=lr t;Oo h (iJ t (dw hs)) (dw hs) b
theorem HT(t:bO)(h:t.size<=40):plain 50 t.av=true:=let⟨h1,_,_,_⟩:=iJ t h;ct h1 (by omega)
theorem HU{n w:Nat}{T:AV}{l:List AV}(hT:T = .tup l)(h:wt n T=some w)(hp:plain 59 T=true)(hn:n<=57)(hw:w<=900):wU T=true/\wU (.tup [.str [112,97,114,101,110],T])=true/\wU (.tup [.str [98,105,110],.str [43],T,.tup [.str [105,110,116],.int 1]])=true:=by
 refine⟨AU h (by omega) (by omega),AU (HP hT h hp) (by omega) (by omega),?_⟩
 have h1:wt n (.tup [.str [105,110,116],.int 1])=some 1:=by
  cases n with
  |zero=>exact ak h|succ n=>exact qJ (n:=1) rfl (by omega)
 subst hT;have:=sO (n:=n) (a:=.tup [.str [98,105,110],.str [43],.tup l,.tup [.str [105,110,116],.int 1]]) (ks:=[.tup l,.tup [.str [105,110,116],.int 1]]) rfl (by(refine .trans (ax ..)<|?_;rw[hp]);rfl) (kg h (kP h1))
 exact AU this (by omega) (by omega)
theorem AY(t:bO)(p:Pt)(h:t.size<=39):plain 50 (gk t.av p)=true/\∃w,wt (t.size+5) (gk t.av p)=some w/\w<=12*t.size+5:=by
 obtain⟨h1,w,h2,h3⟩:=iJ t (by omega)
 obtain⟨l,hl⟩:=lr t;have hp:plain 59 t.av=true:=ct h1 (by omega)
 have hm:plain 49 p.mark=true/\(∃m,p.mark = .tup m)/\∃v,wt 3 p.mark=some v/\v<=4:=by
  cases p<;>exact⟨by decide,⟨_,rfl⟩,_,rfl,by decide⟩
 refine tJ hm fun m1 nc v m3 m4=>?_;obtain⟨m,m2⟩:=nc;constructor
 ·unfold gk;show plain (49+1) _=true
  (refine .trans (gN ..)<|.trans (ax ..)<|?_;rw[ax,ax,dU,ct h1 (by omega),m1]);rfl
 ·refine⟨w+v+1,?_,by omega⟩
  refine sO (ks:=[t.av,p.mark]) ?_ (by(refine .trans (ax ..)<|?_;rw[ax,hp,ct m1 (by decide),dU]);rfl) (kg h2 (kP (qJ m3 (by omega))))
  rw[hl,m2];unfold gk;rw[m2];exact oP (by simp) rfl (by simp)
theorem KN(hd:F.dflt.drop (F.dflt.length-(F.np-args.length))=ds)(hl:(args++ds).length=F.np)
  (hx:dR W 5000 F.body ((args++ds).map some++List.replicate (F.nl-F.np) none) c = .ok (.nx J) c'):d3 W 5000 F args c=back c.length .none c' fun c=>.ok .none c:=by
 unfold d3;rw[hd];dsimp only
 (refine .trans (aO hl ..)<|?_;rw[hx])
theorem qK(hd:F.dflt.drop (F.dflt.length-(F.np-args.length))=ds)(hl:(args++ds).length=F.np)
  (hx:dR W 5000 F.body ((args++ds).map some++List.replicate (F.nl-F.np) none) c = .ok (.rt v) c'):d3 W 5000 F args c=back c.length v c' fun c=>.ok v c:=by
 unfold d3;rw[hd];dsimp only
 (refine .trans (aO hl ..)<|?_;rw[hx])
theorem HV(W:dP)(D:Cell)(toks:List AV):dR W 5000 LJ [some (.ref 1),some (.lst toks),some (.int 0)] [D,.inst []] = .ok (.nx [some (.ref 1),some (.lst toks),some (.int 0)]) [D,.inst (bA toks 0 0)]:=by kernel_rfl
theorem Bq{m:Nat}(hD:ai 0 D=true)(hT:∀t∈toks,aH 0 t=true):(wM (m+1)).make [.lst toks] [D] = .ok (.ref 1) [D,.inst (bA toks 0 0)]:=by
 have e0:(wM (m+1)).make [.lst toks] [D]=fT {call:=bL fns ini gl 5000 m,make:=fun U U=>.fail,gl:=gl} 5000 ini [.lst toks] [D]:=by kernel_rfl
 refine .trans (e0 ..)<|?_
 clear e0;generalize({call:=bL fns ini gl 5000 m,make:=fun U U=>.fail,gl:=gl}:dP)=W;unfold fT;have e:d3 W 5000 ini (.ref [D].length::[.lst toks]) ([D]++[.inst []]) = .ok .none [D,.inst (bA toks 0 0)]:=by
  have q:dR W 5000 ini.body (((AV.ref 1::[AV.lst toks])++[AV.int 0]).map some++List.replicate (ini.nl-ini.np) none) ([D]++[.inst []]) = .ok (.nx [some (.ref 1),some (.lst toks),some (.int 0)]) [D,.inst (bA toks 0 0)]:=HV W D toks;rw[show[D].length=1 from rfl,KN (ds:=[.int 0]) rfl rfl q]
  unfold back;rw[bm,Bool.true_and,aO]
  ·rfl
  ·show([D,Cell.inst (bA toks 0 0)].all (ai 2))=true;have h2:ai 0 (.inst (bA toks 0 0))=true:=by
    unfold ai bA;rw[ae];intro v hv;simp only[List.map_cons,List.map_nil,b8,List.not_mem_nil,or_false]at hv;rcases hv with rfl|rfl|rfl|rfl|rfl|rfl|rfl|rfl|rfl|rfl|rfl|rfl|rfl|rfl|rfl
    ·(refine .trans (bP ..)<|?_;rw[ae]);exact hT
    ·exact aa _ _
    ·exact aa _ _
    ·exact aa _ _
    all_goals exact bm _
   (refine .trans (List.all_cons ..)<|?_;rw[List.all_cons,List.all_nil,bN 2 hD,bN 2 h2]);rfl
 rw[e];rfl
noncomputable def kQ:List Sx:=[.asg 2 (.mk [.call 52 [.loc 0]]),.asg 3 (.ite (.val (.loc 1)) (.call 27 [.loc 2]) (.call 17 [.loc 2])),.ret (.ite (.cmp .eq (.attr (.loc 2) [97,116]) (.bi .len [.attr (.loc 2) [116,111,107,101,110,115]])) (.loc 3) .none)]
theorem oi:gq=[.uW kQ]:=rfl
section
variable{m n:Nat}{D:Cell}{txt:List Nat}{toks:List AV}{T:AV}{b:Bool}
theorem Br(hk:∀t∈toks,fN t)(hl:toks.length<=900)(hp:az 59 toks=true)(aK:toks≠[]):Toks toks:=by
 refine⟨fun t ht=>(hk t ht).clean,by omega,hp,?_⟩
 refine c6 (qH aK) fun pre t fu=>?_;subst fu;refine ji (hk t (by simp)) fun k v fu U=>?_;subst fu
 exact⟨pre,k,v,rfl⟩
theorem sU(hD:ai 0 D=true)(hT:Toks toks){f:Nat}(hm:n+10<=m):Cb (zP D toks) [] (cP n f [.ab] ⟨toks,0,[]⟩) (bL fns ini gl 5000 m f [.ref 1] [D,.inst (bA toks 0 0)]):=by
 have S:=jX (GO hD hT) gw (G9 hD hT) n m f [.ab] ⟨toks,0,[]⟩ [] hm ⟨[],rfl⟩ jU (fun v hv=>by rw[List.mem_singleton]at hv;subst hv;rfl) rfl
 have ec:(zP D toks).jf ⟨toks,0,[]⟩++[]=[D,.inst (bA toks 0 0)]:=by
  refine .trans (List.append_nil ..)<|?_
  show[D,.inst (bA toks ((toks.length-toks.length:Nat):Int) 0)]=_;rw[Nat.sub_self];rfl
 have S2:Cb (zP D toks) [] (cP n f [.ab] ⟨toks,0,[]⟩) (bL fns ini gl 5000 m f [.ref 1] ((zP D toks).jf ⟨toks,0,[]⟩++[])):=S;rw[ec]at S2;exact S2
theorem sV(hD:ai 0 D=true)(hx:txt.length<=900)(S:bX [] txt toks [])(hp:az 59 toks=true)(aK:toks≠[])(hm:n+10<=m)(zE:40<=m)
  (h:cP n (if b then 27 else 17) [.ab] ⟨toks,0,[]⟩= .ok (.a T) ⟨[],0,[]⟩ []) (hc:aH 0 T=true):bL fns ini gl 5000 (m+1) 71 [.str txt,.bool b] [D] = .ok T [D]:=by
 have NF:cl [D]:=by unfold cl;rw[List.all_cons,List.all_nil,hD];rfl
 refine cH (uK (m:=m) (c1:=[D]) hx NF (by omega) S) fun k1 hk hl=>?_
 have hT:=Br hk hl hp aK;have C:=sU (n:=n) (m:=m) (f:=if b then 27 else 17) hD hT hm;rw[h]at C;refine fK C fun U U U q=>?_;have ec:(zP D toks).jf ⟨[],0,[]⟩++[]=[D,.inst (bA toks (toks.length:Int) 0)]:=by refine .trans (List.append_nil ..)<|?_;rfl
 rw[bn,ec]at q;refine .trans (uJ lI ..)<|?_
 obtain⟨m,rfl⟩:∃j,m=j+1:=⟨m-1,by omega⟩
 have s1:ex (wM (m+1)) 5000 (.asg 2 (.mk [.call 52 [.loc 0]])) [some (.str txt),some (.bool b),none,none] [D] = .ok (.nx [some (.str txt),some (.bool b),some (.ref 1),none]) [D,.inst (bA toks 0 0)]:=by
  have e0:ev (wM (m+1)) [some (.str txt),some (.bool b),none,none] (.loc 0) [D] = .ok (.str txt) [D]:=by refine .trans (cM ..)<|?_;rfl
  have e1:eV (wM (m+1)) [some (.str txt),some (.bool b),none,none] [.loc 0] [D] = .ok [.str txt] [D]:=by refine .trans (bY ..)<|.trans (ob e0 ..)<|.trans (dc (cI ..))<|?_;rfl
  have e2:ev (wM (m+1)) [some (.str txt),some (.bool b),none,none] (.call 52 [.loc 0]) [D] = .ok (.lst toks) [D]:=by refine .trans (fL ..)<|.trans (ob e1 ..)<|?_;exact k1
  have e3:eV (wM (m+1)) [some (.str txt),some (.bool b),none,none] [.call 52 [.loc 0]] [D] = .ok [.lst toks] [D]:=by refine .trans (bY ..)<|.trans (ob e2 ..)<|.trans (dc (cI ..))<|?_;rfl
  have e4:ev (wM (m+1)) [some (.str txt),some (.bool b),none,none] (.mk [.call 52 [.loc 0]]) [D] = .ok (.ref 1) [D,.inst (bA toks 0 0)]:=by refine .trans (Dk ..)<|.trans (ob e3 ..)<|?_;exact Bq hD hT.JX
  refine .trans (mG ..)<|.trans (ob e4 ..)<|?_;rfl
 have s2:ex (wM (m+1)) 5000 (.asg 3 (.ite (.val (.loc 1)) (.call 27 [.loc 2]) (.call 17 [.loc 2]))) [some (.str txt),some (.bool b),some (.ref 1),none] [D,.inst (bA toks 0 0)] = .ok (.nx [some (.str txt),some (.bool b),some (.ref 1),some T]) [D,.inst (bA toks (toks.length:Int) 0)]:=by
  have t0:eS (wM (m+1)) [some (.str txt),some (.bool b),some (.ref 1),none] (.val (.loc 1)) [D,.inst (bA toks 0 0)] = .ok b [D,.inst (bA toks 0 0)]:=by
   have:ev (wM (m+1)) [some (.str txt),some (.bool b),some (.ref 1),none] (.loc 1) [D,.inst (bA toks 0 0)] = .ok (.bool b) [D,.inst (bA toks 0 0)]:=by refine .trans (cM ..)<|?_;rfl
   refine .trans (tK ..)<|.trans (ob this ..)<|?_;rfl
  have e2:ev (wM (m+1)) [some (.str txt),some (.bool b),some (.ref 1),none] (.loc 2) [D,.inst (bA toks 0 0)] = .ok (.ref 1) [D,.inst (bA toks 0 0)]:=by refine .trans (cM ..)<|?_;rfl
  have e3:eV (wM (m+1)) [some (.str txt),some (.bool b),some (.ref 1),none] [.loc 2] [D,.inst (bA toks 0 0)] = .ok [.ref 1] [D,.inst (bA toks 0 0)]:=by refine .trans (bY ..)<|.trans (ob e2 ..)<|.trans (dc (cI ..))<|?_;rfl
  have e4:ev (wM (m+1)) [some (.str txt),some (.bool b),some (.ref 1),none] (.ite (.val (.loc 1)) (.call 27 [.loc 2]) (.call 17 [.loc 2])) [D,.inst (bA toks 0 0)] = .ok T [D,.inst (bA toks (toks.length:Int) 0)]:=by
   refine .trans (w6 ..)<|.trans (ob t0 ..)<|?_
   cases b with
   |true=>refine .trans (aO rfl ..)<|.trans (fL ..)<|.trans (ob e3 ..)<|?_;exact q|false=>refine .trans (aV (by decide) ..)<|.trans (fL ..)<|.trans (ob e3 ..)<|?_;exact q
  refine .trans (mG ..)<|.trans (ob e4 ..)<|?_;rfl
 have s3:ex (wM (m+1)) 5000 (.ret (.ite (.cmp .eq (.attr (.loc 2) [97,116]) (.bi .len [.attr (.loc 2) [116,111,107,101,110,115]])) (.loc 3) .none)) [some (.str txt),some (.bool b),some (.ref 1),some T] [D,.inst (bA toks (toks.length:Int) 0)] = .ok (.rt T) [D,.inst (bA toks (toks.length:Int) 0)]:=by
  generalize bB:[some (AV.str txt),some (.bool b),some (.ref 1),some T]=J;generalize hC:[D,Cell.inst (bA toks (toks.length:Int) 0)]=C;have l2:ev (wM (m+1)) J (.loc 2) C = .ok (.ref 1) C:=by(refine .trans (cM ..)<|?_;rw[<-bB]);rfl
  have l3:ev (wM (m+1)) J (.loc 3) C = .ok T C:=by(refine .trans (cM ..)<|?_;rw[<-bB]);rfl
  have a1:ev (wM (m+1)) J (.attr (.loc 2) [97,116]) C = .ok (.int toks.length) C:=by(refine .trans (tL ..)<|.trans (ob l2 ..)<|?_;rw[<-hC]);rfl
  have a2:ev (wM (m+1)) J (.attr (.loc 2) [116,111,107,101,110,115]) C = .ok (.lst toks) C:=by(refine .trans (tL ..)<|.trans (ob l2 ..)<|?_;rw[<-hC]);rfl
  have a3:eV (wM (m+1)) J [.attr (.loc 2) [116,111,107,101,110,115]] C = .ok [.lst toks] C:=by refine .trans (bY ..)<|.trans (ob a2 ..)<|.trans (dc (cI ..))<|?_;rfl
  have a4:ev (wM (m+1)) J (.bi .len [.attr (.loc 2) [116,111,107,101,110,115]]) C = .ok (.int toks.length) C:=by
   refine .trans (kn ..)<|.trans (ob a3 ..)<|?_
   show bp C (if toks.length<=aJ then some (AV.int toks.length) else none)=_;rw[aO (by rw[bR];omega)];rfl
  have t0:eS (wM (m+1)) J (.cmp .eq (.attr (.loc 2) [97,116]) (.bi .len [.attr (.loc 2) [116,111,107,101,110,115]])) C = .ok true C:=by
   refine .trans (fS ..)<|.trans (ob a1 ..)<|.trans (ob a4 ..)<|?_
   show bp C (some ((toks.length:Int)==(toks.length:Int)))=_;rw[beq_self_eq_true];rfl
  have r:ev (wM (m+1)) J (.ite (.cmp .eq (.attr (.loc 2) [97,116]) (.bi .len [.attr (.loc 2) [116,111,107,101,110,115]])) (.loc 3) .none) C = .ok T C:=by
   refine .trans (w6 ..)<|.trans (ob t0 ..)<|.trans (aO rfl ..)<|?_;exact l3
  exact .trans (mF ..)<|.trans (ob r ..)<|(ob (cJ hc) ..)
 have E:dR (wM (m+1)) 5000 gq [some (.str txt),some (.bool b),none,none] [D] = .ok (.rt T) [D,.inst (bA toks (toks.length:Int) 0)]:=by
  have:dR (wM (m+1)) 5000 kQ [some (.str txt),some (.bool b),none,none] [D] = .ok (.rt T) [D,.inst (bA toks (toks.length:Int) 0)]:=by
   unfold kQ;exact .trans (bM s1 ..)<|.trans (bM s2 ..)<|.trans (bw ..)<|(s3 ..)
  rw[oi,bw,Du,this]
 refine .trans (qK (ds:=[]) rfl rfl E ..)<|?_
 show back 1 T [D,Cell.inst (bA toks (toks.length:Int) 0)] (fun c=>aD.ok T c)=_;unfold back;rw[gC 1 hc,Bool.true_and,aO]
 ·rfl
 ·show([D].all (ai 1))=true
  (refine .trans (List.all_cons ..)<|?_;rw[List.all_nil,bN 1 hD]);rfl
theorem DR(hD:ai 0 D=true)(hx:txt.length<=900)(S:bX [] txt toks [])(hp:az 59 toks=true)(aK:toks≠[])(hm:n+10<=m)(zE:40<=m)
  (h:cP n 27 [.ab] ⟨toks,0,[]⟩= .exc false):∃c',bL fns ini gl 5000 (m+1) 71 [.str txt,.bool true] [D] = .ok .none c'/\cl c'/\c'.length=1:=by
 have NF:cl [D]:=by unfold cl;rw[List.all_cons,List.all_nil,hD];rfl
 refine cH (uK (m:=m) (c1:=[D]) hx NF (by omega) S) fun k1 hk hl=>?_
 have hT:=Br hk hl hp aK;have C:=sU (n:=n) (m:=m) (f:=27) hD hT hm;rw[h]at C;refine d9 C fun c' q Xi hq2=>?_;refine⟨c'.take 1,?_,vg Xi,by(refine .trans (List.length_take ..)<|?_;rw[hq2]);rfl⟩
 refine .trans (uJ lI ..)<|?_
 obtain⟨m,rfl⟩:∃j,m=j+1:=⟨m-1,by omega⟩
 have s1:ex (wM (m+1)) 5000 (.asg 2 (.mk [.call 52 [.loc 0]])) [some (.str txt),some (.bool true),none,none] [D] = .ok (.nx [some (.str txt),some (.bool true),some (.ref 1),none]) [D,.inst (bA toks 0 0)]:=by
  have e0:ev (wM (m+1)) [some (.str txt),some (.bool true),none,none] (.loc 0) [D] = .ok (.str txt) [D]:=by refine .trans (cM ..)<|?_;rfl
  have e1:eV (wM (m+1)) [some (.str txt),some (.bool true),none,none] [.loc 0] [D] = .ok [.str txt] [D]:=by refine .trans (bY ..)<|.trans (ob e0 ..)<|.trans (dc (cI ..))<|?_;rfl
  have e2:ev (wM (m+1)) [some (.str txt),some (.bool true),none,none] (.call 52 [.loc 0]) [D] = .ok (.lst toks) [D]:=by refine .trans (fL ..)<|.trans (ob e1 ..)<|?_;exact k1
  have e3:eV (wM (m+1)) [some (.str txt),some (.bool true),none,none] [.call 52 [.loc 0]] [D] = .ok [.lst toks] [D]:=by refine .trans (bY ..)<|.trans (ob e2 ..)<|.trans (dc (cI ..))<|?_;rfl
  have e4:ev (wM (m+1)) [some (.str txt),some (.bool true),none,none] (.mk [.call 52 [.loc 0]]) [D] = .ok (.ref 1) [D,.inst (bA toks 0 0)]:=by refine .trans (Dk ..)<|.trans (ob e3 ..)<|?_;exact Bq hD hT.JX
  refine .trans (mG ..)<|.trans (ob e4 ..)<|?_;rfl
 have s2:ex (wM (m+1)) 5000 (.asg 3 (.ite (.val (.loc 1)) (.call 27 [.loc 2]) (.call 17 [.loc 2]))) [some (.str txt),some (.bool true),some (.ref 1),none] [D,.inst (bA toks 0 0)] = .exc false c':=by
  have t0:eS (wM (m+1)) [some (.str txt),some (.bool true),some (.ref 1),none] (.val (.loc 1)) [D,.inst (bA toks 0 0)] = .ok true [D,.inst (bA toks 0 0)]:=by
   have:ev (wM (m+1)) [some (.str txt),some (.bool true),some (.ref 1),none] (.loc 1) [D,.inst (bA toks 0 0)] = .ok (.bool true) [D,.inst (bA toks 0 0)]:=by refine .trans (cM ..)<|?_;rfl
   refine .trans (tK ..)<|.trans (ob this ..)<|?_;rfl
  have e2:ev (wM (m+1)) [some (.str txt),some (.bool true),some (.ref 1),none] (.loc 2) [D,.inst (bA toks 0 0)] = .ok (.ref 1) [D,.inst (bA toks 0 0)]:=by refine .trans (cM ..)<|?_;rfl
  have e3:eV (wM (m+1)) [some (.str txt),some (.bool true),some (.ref 1),none] [.loc 2] [D,.inst (bA toks 0 0)] = .ok [.ref 1] [D,.inst (bA toks 0 0)]:=by refine .trans (bY ..)<|.trans (ob e2 ..)<|.trans (dc (cI ..))<|?_;rfl
  have e4:ev (wM (m+1)) [some (.str txt),some (.bool true),some (.ref 1),none] (.ite (.val (.loc 1)) (.call 27 [.loc 2]) (.call 17 [.loc 2])) [D,.inst (bA toks 0 0)] = .exc false c':=by
   refine .trans (w6 ..)<|.trans (ob t0 ..)<|.trans (aO rfl ..)<|.trans (fL ..)<|.trans (ob e3 ..)<|?_;exact q
  refine .trans (mG ..)<|.trans (dc (e4 ..))<|?_;rfl
 have E:dR (wM (m+1)) 5000 gq [some (.str txt),some (.bool true),none,none] [D] = .ok (.rt .none) c':=by
  have:dR (wM (m+1)) 5000 kQ [some (.str txt),some (.bool true),none,none] [D] = .exc false c':=by
   unfold kQ;refine .trans (bM s1 ..)<|.trans (kq ..)<|.trans (dc (s2 ..))<|?_;rfl
  rw[oi,bw,Du,this]
 refine .trans (qK (ds:=[]) rfl rfl E ..)<|?_
 show back 1 AV.none c' (fun c=>aD.ok AV.none c)=_;unfold back;rw[bm,Bool.true_and,aO];rw[List.all_eq_true];exact fun x hx=>bN 1 (gD.mp (vg Xi) x hx)
end
noncomputable def bF(row:List Int)(k:Nat):Cell:=.dict [([114,111,119],.lst (row.map .int)),([97,116],.int k)]
noncomputable def raw(row:List Int)(k:Nat):Int:=if k<=row.length then row.getD (k-1) 0 else 4*(k:Int)*k+k+2
noncomputable def tI(row:List Int)(at0:Nat)(O:List (Nat×Nat)):Prop:=∀(i m v:Nat),O[i]?=some (m,v)->0<m/\m<=1000/\raw row (at0+1+i) % (m:Int)=(v:Int)
noncomputable def zG(row:List Int)(at0:Nat)(O:List (Nat×Nat))(T:List Nat):Cz:={jf:=fun Y=>[bF row (at0+(O.length-Y.C6.length))],inv:=fun Y=>∃pre,O=pre++Y.C6,n0:=1,T:=T,p:=0,s:=T,H:=.none,it:=0,rd:=false,gl:=gl}
theorem kh(row:List Int)(k:Nat):ai 0 (bF row k)=true:=by
 unfold ai bF;rw[ae];intro v hv;simp at hv;rcases hv with rfl|rfl
 ·(refine .trans (bP ..)<|?_;rw[ae])
  intro w hw;induction wY hw with|mk i _=>?_
  exact aa _ _
 ·exact aa _ _
theorem HW{row:List Int}{at0:Nat}{O:List (Nat×Nat)}{T:List Nat}(hT:T.length<=90000):(zG row at0 O T).Ok:=
 ⟨fun U U=>rfl,fun Y U=>by unfold cl zG;dsimp only;(refine .trans (List.all_cons ..)<|?_;rw[List.all_nil,kh]);rfl,⟨rfl,Nat.zero_le _⟩,hT,bm _,nI,(fun h=>by exact eK h),(fun h=>by exact eK h),(fun h=>by exact eK h)⟩
noncomputable def Bt:Prim:=fun f args Y=>if f=65 then FV args fun x y=>Nj LN x (yp y fun w=>jh w fun m=>match Y.C6 with
 |(m',v)::o=>if m=(m':Int) then some (.ok (.a (.int v)) {Y with C6:=o} []) else none
 |[]=>none) else none
theorem ya{row:List Int}{k m mm:Nat}{R:aC}(hr:row.length<=1000)(hk:k<=5000)(hm:0<mm)(zE:mm<=1000)(hR:cl R):bL fns ini gl 5000 (m+1) 65 [.ref 0,.int mm] (bF row k::R) = .ok (.int (raw row (k+1) % (mm:Int))) (bF row (k+1)::R):=by
 refine .trans (uJ tB ..)<|?_
 generalize bB:[some (AV.ref 0),some (.int (mm:Int))]=J;have l0:∀c,ev (wM m) J (.loc 0) c = .ok (.ref 0) c:=fun c=>by(refine .trans (cM ..)<|?_;rw[<-bB]);rfl
 have l1:∀c,ev (wM m) J (.loc 1) c = .ok (.int mm) c:=fun c=>by(refine .trans (cM ..)<|?_;rw[<-bB]);rfl
 have i0:∀c i,ev (wM m) J (.int i) c = .ok (.int i) c:=fun c i=>by exact(mB ..)
 have s0:∀c l,ev (wM m) J (.str l) c = .ok (.str l) c:=fun c l=>by exact(w5 ..)
 have s1:ex (wM m) 5000 (.uV (.loc 0) (.str [97,116]) .add (.int 1)) J (bF row k::R) = .ok (.nx J) (bF row (k+1)::R):=by
  refine .trans (Kc ..)<|.trans (ob (l0 _) ..)<|.trans (ob (s0 _ _) ..)<|?_
  have e:dictAt (bF row k::R) (.ref 0) (.str [97,116])=some (.int k):=rfl;rw[e];dsimp only;refine .trans (ob (i0 _ _) ..)<|?_
  rfl
 generalize hC:bF row (k+1)::R=C;have OS:ev (wM m) J (.sub (.loc 0) (.str [97,116])) C = .ok (.int ((k+1:Nat):Int)) C:=by
  (refine .trans (j2 ..)<|.trans (ob (l0 _) ..)<|.trans (ob (s0 _ _) ..)<|?_;rw[<-hC]);rfl
 have Xj:ev (wM m) J (.sub (.loc 0) (.str [114,111,119])) C = .ok (.lst (row.map .int)) C:=by
  (refine .trans (j2 ..)<|.trans (ob (l0 _) ..)<|.trans (ob (s0 _ _) ..)<|?_;rw[<-hC]);rfl
 have WW:ev (wM m) J (.bi .len [.sub (.loc 0) (.str [114,111,119])]) C = .ok (.int row.length) C:=by
  have:eV (wM m) J [.sub (.loc 0) (.str [114,111,119])] C = .ok [.lst (row.map .int)] C:=by refine .trans (bY ..)<|.trans (ob Xj ..)<|.trans (dc (cI ..))<|?_;rfl
  refine .trans (kn ..)<|.trans (ob this ..)<|?_
  show bp C (if(row.map AV.int).length<=aJ then some (AV.int (row.map AV.int).length) else none)=_;rw[aO (by rw[List.length_map,bR];omega),List.length_map];rfl
 have t1:eS (wM m) J (.cmp .le (.sub (.loc 0) (.str [97,116])) (.bi .len [.sub (.loc 0) (.str [114,111,119])])) C = .ok (decide (k+1<=row.length)) C:=by
  refine .trans (fS ..)<|.trans (ob OS ..)<|.trans (ob WW ..)<|?_
  show bp C (some (decide (((k+1:Nat):Int)<=(row.length:Int))))=_;show aD.ok _ C=_;congr 1;rw[decide_eq_decide];omega
 have Lw:∀(e:Ex)(x:Int),ev (wM m) J e C = .ok (.int x) C->ex (wM m) 5000 (.ret (.bin .mod e (.loc 1))) J C = .ok (.rt (.int (x % (mm:Int)))) C:=by
  intro e x h;have:ev (wM m) J (.bin .mod e (.loc 1)) C = .ok (.int (x % (mm:Int))) C:=by
   refine .trans (n9 ..)<|.trans (ob h ..)<|.trans (ob (l1 _) ..)<|?_
   show bp C (if 0<(mm:Int)/\(mm:Int)<=(aJ:Int) then some (AV.int (x % (mm:Int))) else none)=_;rw[aO (by rw[bR];constructor<;>omega)];rfl
  exact .trans (mF ..)<|.trans (ob this ..)<|(ob (cJ (aa _ _)) ..)
 have E:dR (wM m) 5000 gn J (bF row k::R) = .ok (.rt (.int (raw row (k+1) % (mm:Int)))) C:=by
  unfold gn
  (refine .trans (bM s1 ..)<|?_;rw[hC])
  by_cases hle:k+1<=row.length
  ·rw[decide_eq_true hle]at t1;have g:ev (wM m) J (.sub (.sub (.loc 0) (.str [114,111,119])) (.bin .sub (.sub (.loc 0) (.str [97,116])) (.int 1))) C = .ok (.int (raw row (k+1))) C:=by
    have b:ev (wM m) J (.bin .sub (.sub (.loc 0) (.str [97,116])) (.int 1)) C = .ok (.int (k:Int)) C:=by
     refine .trans (n9 ..)<|.trans (ob OS ..)<|.trans (ob (i0 _ _) ..)<|?_
     show bp C (some (AV.int (((k+1:Nat):Int)-1)))=_;rw[show((k+1:Nat):Int)-1=(k:Int) by omega];rfl
    refine .trans (j2 ..)<|.trans (ob Xj ..)<|.trans (ob b ..)<|?_
    show bp C (if(row.map AV.int).length<=aJ then(place (row.map AV.int).length (k:Int)).bind ((row.map AV.int)[·]?) else none)=_;rw[aO (by rw[List.length_map,bR];omega),gv (by rw[List.length_map];omega),Option.bind_some,List.getElem?_map,List.getElem?_eq_getElem (by omega)]
    unfold raw;rw[aO hle,List.getD_eq_getElem?_getD,Nat.add_sub_cancel,List.getElem?_eq_getElem (by omega)];rfl
   (refine .trans (kq ..)<|.trans (dc (ce t1 ..))<|?_;rw[aO rfl,bw,Lw _ _ g]);rfl
  ·rw[eO hle]at t1;have g:ev (wM m) J (.bin .add (.bin .add (.bin .mul (.bin .mul (.int 4) (.sub (.loc 0) (.str [97,116]))) (.sub (.loc 0) (.str [97,116]))) (.sub (.loc 0) (.str [97,116]))) (.int 2)) C = .ok (.int (raw row (k+1))) C:=by
    have b1:ev (wM m) J (.bin .mul (.int 4) (.sub (.loc 0) (.str [97,116]))) C = .ok (.int (4*((k+1:Nat):Int))) C:=by
     refine .trans (n9 ..)<|.trans (ob (i0 _ _) ..)<|.trans (ob OS ..)<|?_
     show bp C (if(4:Int).natAbs<=aJ/\(((k+1:Nat):Int)).natAbs<=aJ then some (AV.int (4*((k+1:Nat):Int))) else none)=_;rw[aO (by rw[bR];constructor<;>omega)];rfl
    have b2:ev (wM m) J (.bin .mul (.bin .mul (.int 4) (.sub (.loc 0) (.str [97,116]))) (.sub (.loc 0) (.str [97,116]))) C = .ok (.int (4*((k+1:Nat):Int)*((k+1:Nat):Int))) C:=by
     refine .trans (n9 ..)<|.trans (ob b1 ..)<|.trans (ob OS ..)<|?_
     show bp C (if(4*((k+1:Nat):Int)).natAbs<=aJ/\(((k+1:Nat):Int)).natAbs<=aJ then some (AV.int (4*((k+1:Nat):Int)*((k+1:Nat):Int))) else none)=_;rw[aO (by rw[bR];constructor<;>omega)];rfl
    have b3:ev (wM m) J (.bin .add (.bin .mul (.bin .mul (.int 4) (.sub (.loc 0) (.str [97,116]))) (.sub (.loc 0) (.str [97,116]))) (.sub (.loc 0) (.str [97,116]))) C = .ok (.int (4*((k+1:Nat):Int)*((k+1:Nat):Int)+((k+1:Nat):Int))) C:=by
     refine .trans (n9 ..)<|.trans (ob b2 ..)<|.trans (ob OS ..)<|?_;rfl
    refine .trans (n9 ..)<|.trans (ob b3 ..)<|.trans (ob (i0 _ _) ..)<|?_
    unfold raw;rw[aV hle];rfl
   exact .trans (bM ((ce t1).trans (by rw[aV (by decide),iO])) ..)<|.trans (bw ..)<|(Lw _ _ g ..)
 show(if 2=2 then(match dR (wM m) 5000 gn [some (.ref 0),some (.int (mm:Int))] (bF row k::R) with
  |.ok (.rt v) c'=>back (bF row k::R).length v c' fun c=>.ok v c|.ok (.nx U) c'=>back (bF row k::R).length .none c' fun c=>.ok .none c|.ok (.bk U) bG=>.fail|.exc U c'=>back (bF row k::R).length .none c' fun c=>.exc false c|.fail=>.fail) else .fail)=_
 (refine .trans (aO rfl ..)<|?_;rw[bB,E])
 dsimp only;rw[<-hC];unfold back;have e1:(bF row (k+1)::R).take (bF row k::R).length=bF row (k+1)::R:=by
  rw[List.length_cons,List.take_succ_cons,List.take_length]
 rw[aa,e1,Bool.true_and,aO]
 (refine .trans (List.all_cons ..)<|?_;rw[bN _ (kh row (k+1)),Bool.true_and,List.all_eq_true])
 exact fun x hx=>bN _ (gD.mp hR x hx)
inductive HX(Y:S2):Nat->List V2->O2 V2->Prop
 |mk (m v:Nat) (o:List (Nat×Nat)) (eo:Y.C6=(m,v)::o):HX Y 65 [.ib,.a (.int m)] (.ok (.a (.int v)) {Y with C6:=o} [])
theorem KO{f:Nat}{args:List V2}{Y:S2}{r:O2 V2}(e:Bt f args Y=some r):HX Y f args r:=by
 obtain⟨rfl,e2⟩:=Ho (show(if f=65 then _ else _)=_ from e)
 clear e;induction zj e2 with|mk x y e3=>?_
 clear e2;obtain⟨h,e4⟩:=Rh e3;obtain rfl:=F0 h;induction v3 e4 with|mk w e5=>?_
 induction gb e5 with|mk mm e6=>?_;clear h e3 e4 e5
 cases eo:Y.C6 with
 |nil=>rw[eo]at e6;exact ak e6|cons x o=>
  obtain⟨m',v⟩:=x;rw[eo]at e6;obtain⟨rfl⟩:=fg e6;exact⟨_,_,_,eo⟩
theorem yb{row:List Int}{at0:Nat}{O:List (Nat×Nat)}{T:List Nat}(hr:row.length<=1000)(hO:tI row at0 O)(hk:at0+O.length<=5000):lc (zG row at0 O T) fns ini 5000 10 Bt:=by
 intro f args Y r e m R hm ay hR ha hi;induction KO e with|mk m' v o eo=>?_
 clear e;obtain⟨pre,oo⟩:=ay;rw[eo]at oo;have GS:O[pre.length]?=some (m',v):=by rw[oo];simp
 refine cH (hO pre.length m' v GS) fun h1 h2 h3=>?_;have hlen:O.length-Y.C6.length=pre.length:=by rw[eo,oo];simp
 have Sr:O.length-o.length=pre.length+1:=by rw[oo];simp;omega
 have hOl:O.length=pre.length+(o.length+1):=by rw[oo];simp
 obtain⟨m,rfl⟩:∃k,m=k+1:=⟨m-1,by omega⟩
 refine⟨⟨pre++[(m',v)],by refine .trans (oo ..)<|?_;simp⟩,rfl,bK.mpr (aa _ _),?_⟩
 have eb:iv (zG row at0 O T) 0 .ib = .ref 0:=rfl;rw[List.map_cons,List.map_cons,List.map_nil,eb,bn,bn];have e1:(zG row at0 O T).jf Y++R=bF row (at0+pre.length)::R:=by
  show[bF row (at0+(O.length-Y.C6.length))]++R=_;rw[hlen];rfl
 have e2:(zG row at0 O T).jf {Y with C6:=o}++R=bF row (at0+pre.length+1)::R:=by
  show[bF row (at0+(O.length-o.length))]++R=_;rw[Sr];rfl
 rw[e1,e2];have S:=ya (m:=m) (k:=at0+pre.length) hr (by omega) h1 h2 hR
 rw[show at0+pre.length+1=at0+1+pre.length by omega]at S⊢
 rw[h3]at S;exact S
noncomputable def Pt.idx:Pt->Nat
 |.x=>0| .j8=>1| .mod=>2| .lg=>3| .z=>4| .q=>5
noncomputable def Sy.idx:Sy->Nat
 |.plus=>0| .and_=>1| .mod=>2| .ne=>3| .xor=>4| .abs=>5| .pow=>6| .not_=>7
noncomputable def At.idx:At->Nat
 |.first=>0| .range=>1| .pos=>2| .access=>3| .base=>4| .gd=>5| .delta=>6| .image=>7
noncomputable def s6.idx:s6->Nat
 |.a=>0| .tab=>1| .f1=>2
theorem Bu{v:Nat}(h:v<6):∃p:Pt,p.idx=v:=by
 rcases v with _|_|_|_|_|_|v
 ·exact⟨.x,rfl⟩
 ·exact⟨.j8,rfl⟩
 ·exact⟨.mod,rfl⟩
 ·exact⟨.lg,rfl⟩
 ·exact⟨.z,rfl⟩
 ·exact⟨.q,rfl⟩
 ·omega
theorem Lx{v:Nat}(h:v<8):∃p:Sy,p.idx=v:=by
 rcases v with _|_|_|_|_|_|_|_|v
 ·exact⟨.plus,rfl⟩
 ·exact⟨.and_,rfl⟩
 ·exact⟨.mod,rfl⟩
 ·exact⟨.ne,rfl⟩
 ·exact⟨.xor,rfl⟩
 ·exact⟨.abs,rfl⟩
 ·exact⟨.pow,rfl⟩
 ·exact⟨.not_,rfl⟩
 ·omega
theorem at_of{v:Nat}(h:v<8):∃p:At,p.idx=v:=by
 rcases v with _|_|_|_|_|_|_|_|v
 ·exact⟨.first,rfl⟩
 ·exact⟨.range,rfl⟩
 ·exact⟨.pos,rfl⟩
 ·exact⟨.access,rfl⟩
 ·exact⟨.base,rfl⟩
 ·exact⟨.gd,rfl⟩
 ·exact⟨.delta,rfl⟩
 ·exact⟨.image,rfl⟩
 ·omega
theorem Ss{v:Nat}(h:v<3):∃p:s6,p.idx=v:=by
 rcases v with _|_|_|v
 ·exact⟨.a,rfl⟩
 ·exact⟨.tab,rfl⟩
 ·exact⟨.f1,rfl⟩
 ·omega
noncomputable def wI(w:Nat)(s:Sy):Dt:=match w with
 |0=>.field|1=>.all|2=>.sy s|3=>.b|_=>.g
noncomputable def cG(S:List Nat)(n:Nat):=eU fns gl 5000 S Bt n
section
variable(S:List Nat)(n:Nat)(r:List AV)(e:Nat)(o:List (Nat×Nat))
theorem WX(v:Fin 3)(m:s6):cG S (n+10) 67 [.ib] ⟨r,e,(4,v.val+1)::(3,m.idx)::o⟩= .ok (.a (.tup [.str ((bO.nm m).text true),(bO.nm m).av])) ⟨r,e,o⟩ []:=by
 apply Td v;apply Je m;kernel_rfl
theorem WY(s:Sy)(p:Pt):cG S (n+10) 67 [.ib] ⟨r,e,(4,0)::(8,s.idx)::(6,p.idx)::o⟩= .ok (.a (.tup [.str ((bO.sy s p).text true),(bO.sy s p).av])) ⟨r,e,o⟩ []:=by
 (apply Cr s;apply qF p;kernel_rfl)
theorem WZ(p:Pt)(q:Fin 4):cG S (n+10) 68 [.ib] ⟨r,e,(2,0)::(6,p.idx)::(4,q.val)::o⟩= .ok (.a (.tup [.str ((Bk.one p (q.val==3)).text true),.lst (Bk.one p (q.val==3)).rows])) ⟨r,e,o⟩ []:=by
 apply X3 q;apply qF p;kernel_rfl
theorem W0(p p2:Pt)(q:Fin 4):cG S (n+10) 68 [.ib] ⟨r,e,(2,1)::(6,p.idx)::(6,p2.idx)::(4,q.val)::o⟩= .ok (.a (.tup [.str ((Bk.two p p2 (q.val==3)).text true),.lst (Bk.two p p2 (q.val==3)).rows])) ⟨r,e,o⟩ []:=by
 apply X3 q;apply qF p;apply qF p2;kernel_rfl
end
noncomputable def Su:Sx:=gp.getD 1 .ag
noncomputable def ig:List Sx:=match Su with
 |.i6 U bG b=>b|_=>[]
noncomputable def yc:List Sx:=ig.drop 2
noncomputable def AZ:Ex:=match ig.getD 1 .ag with
 |.asg U e=>e|_=>.none
theorem yd:gp=[.iM [1,2] (.call 67 [.loc 0]),.i6 (.one 3) (.lO (.call 65 [.loc 0,.int 7])) ig,.ret (.tup [.loc 1,.loc 2])]:=rfl
theorem wJ:ig = .asg 4 (.call 65 [.loc 0,.int 8])::.asg 5 AZ::yc:=rfl
noncomputable def W3:List Sx:=match yc with
 |.ite U bG [.ite dy lP [.ite wO c He]]::VZ=>c|_=>[]
noncomputable def HY:List Sx:=W3.drop 1
theorem DS:W3 = .iM [6,9] (.call 68 [.loc 0])::HY:=rfl
noncomputable def grD:List Sx:=match yc with
 |.ite U bG [.ite dy lP [.ite wO He d]]::VZ=>d|_=>[]
noncomputable def grA:List Sx:=match yc with
 |.ite U a bG::dy=>a|_=>[]
noncomputable def grB:List Sx:=match yc with
 |.ite U bG [.ite dy b lP]::wO=>b|_=>[]
theorem DT:yc=[.ite (.cmp .lt (.loc 4) (.int 2)) grA [.ite (.cmp .lt (.loc 4) (.int 4)) grB [.ite (.cmp .lt (.loc 4) (.int 7)) W3 grD]],.hJ 1 .add (.loc 6)]:=rfl
noncomputable def wG(S:List Nat)(n:Nat):W2:={call:=cG S n,s:=S,gl:=gl}
noncomputable def pS.idx:pS->Nat
 |.tick=>0| .dot=>1| .Bf=>2| .tH=>3
theorem Op{v:Nat}(h:v<4):∃p:pS,p.idx=v:=by
 rcases v with _|_|_|_|v
 ·exact⟨.tick,rfl⟩
 ·exact⟨.dot,rfl⟩
 ·exact⟨.Bf,rfl⟩
 ·exact⟨.tH,rfl⟩
 ·omega
noncomputable def Pt.P0:Pt->Pt
 |.q=>.x|p=>p
theorem Oq(p:Pt):p.P0≠.q:=by cases p<;>(intro h;cases h)
section
variable(S:List Nat)(n:Nat)(r:List AV)(e:Nat)(o:List (Nat×Nat))(T:AV)(b:AV)(x3 x6 x7 x8 x9 gK gL:Option V2)
theorem Sv(i:Fin 2)(w:Fin 5)(s:Sy):al (wG S (n+11)) 5000 yc [some .ib,some (.txt []),some (.a T),x3,some (.a (.int i.val)),some (.a b),x6,x7,x8,x9,gK,gL] ⟨r,e,(5,w.val)::(8,s.idx)::o⟩ [] =
  .ok (.nx [some .ib,some (.txt ((wI w s).text true)),some (.a ((wI w s).put T)),x3,some (.a (.int i.val)),some (.a b),some (.a (.str ((wI w s).text true))),some (.a (.str (wI w s).GT)),x8,x9,gK,gL]) ⟨r,e,o⟩ []:=by
 apply Zz w;apply D5 i;apply Cr s;kernel_rfl
theorem Sw(i:Fin 2)(a:At):al (wG S (n+11)) 5000 yc [some .ib,some (.txt []),some (.a T),x3,some (.a (.int ((i.val+2:Nat):Int))),some (.a b),x6,x7,x8,x9,gK,gL] ⟨r,e,(8,a.idx)::o⟩ [] =
  .ok (.nx [some .ib,some (.txt ([39]++a.text true)),some (.a (fk T a [])),x3,some (.a (.int ((i.val+2:Nat):Int))),some (.a b),some (.a (.str ([39]++a.text true))),x7,some (.a (.str (a.text true))),x9,gK,gL]) ⟨r,e,o⟩ []:=by
 apply D5 i;apply Jd a;kernel_rfl
theorem Os(p:Pt)(y:pS):al (wG S (n+11)) 5000 yc [some .ib,some (.txt []),some (.a T),x3,some (.a (.int 7)),some (.a b),x6,x7,x8,x9,gK,gL] ⟨r,e,(6,p.idx)::(3,0)::(4,y.idx)::o⟩ [] =
  .ok (.rt (.tp [.txt y.text,.a .none])) ⟨r,e,o⟩ []:=by
 apply qF p;apply X8 y;kernel_rfl
theorem Ot(p:Pt)(i:Fin 2):al (wG S (n+11)) 5000 yc [some .ib,some (.txt []),some (.a T),x3,some (.a (.int 7)),some (.a b),x6,x7,x8,x9,gK,gL] ⟨r,e,(6,p.idx)::(3,i.val+1)::o⟩ [] =
  .ok (.rt (.tp [.txt (lL true p.P0),.a (gk T p.P0)])) ⟨r,e,o⟩ []:=by
 apply D5 i;apply qF p;kernel_rfl
theorem Ou(B:Bk):al (wG S (n+11)) 5000 (HY++[.hJ 1 .add (.loc 6)]) [some .ib,some (.txt []),some (.a T),x3,x7,some (.a (.bool false)),some (.a (.str (B.text true))),x8,x9,some (.a (.lst B.rows)),gK,gL] ⟨r,e,o⟩ [] =
  .ok (.nx [some .ib,some (.txt (B.text true)),some (.a (rm T B.rows)),x3,x7,some (.a (.bool false)),some (.a (.str (B.text true))),x8,x9,some (.a (.lst B.rows)),gK,gL]) ⟨r,e,o⟩ []:=by
 apply O7 B<;>kernel_rfl
theorem Ov(a:At)(B:Bk)(h:B.nm=false):al (wG S (n+11)) 5000 (HY++[.hJ 1 .add (.loc 6)]) [some .ib,some (.txt []),some (.a (fk T a [])),x3,x7,some (.a (.bool true)),some (.a (.str (B.text true))),x8,x9,some (.a (.lst B.rows)),gK,gL] ⟨r,e,o⟩ [] =
  .ok (.nx [some .ib,some (.txt (B.text true)),some (.a (fk T a B.cy)),x3,x7,some (.a (.bool true)),some (.a (.str (B.text true))),x8,x9,some (.a (.lst B.rows)),gK,gL]) ⟨r,e,o⟩ []:=by
 apply B' B h<;>kernel_rfl
theorem Ow(B:Bk)(h:B.nm=true):al (wG S (n+11)) 5000 (HY++[.hJ 1 .add (.loc 6)]) [some .ib,some (.txt []),some (.a T),x3,x7,some (.a (.bool true)),some (.a (.str (B.text true))),x8,x9,some (.a (.lst B.rows)),gK,gL] ⟨r,e,o⟩ [] =
  .ok (.rt (.tp [.txt (B.text true),.a .none])) ⟨r,e,o⟩ []:=by
 apply C' B h<;>kernel_rfl
end
theorem ye{lf:Nat}:∀(l1 l2:List Sx)(J:bS)(Y:S2)(L:aC),al W lf (l1++l2) J Y L=(al W lf l1 J Y L).bind fun f Y L=>match f with
  |.nx J=>al W lf l2 J Y L|.rt v=>.ok (.rt v) Y L|.bk J=>.ok (.bk J) Y L
 |[],l2,J,Y,L=>by
  have:al W lf [] J Y L = .ok (.nx J) Y L:=by exact(fF ..)
  rw[this];rfl
 |s::l1,l2,J,Y,L=>by
  have e1:al W lf (s::l1) J Y L=(g6 W lf s J Y L).bind fun f Y L=>match f with
    |.nx J=>al W lf l1 J Y L|.rt v=>.ok (.rt v) Y L|.bk J=>.ok (.bk J) Y L:=by exact(fG ..)<;>rfl
  have e2:al W lf ((s::l1)++l2) J Y L=(g6 W lf s J Y L).bind fun f Y L=>match f with
    |.nx J=>al W lf (l1++l2) J Y L|.rt v=>.ok (.rt v) Y L|.bk J=>.ok (.bk J) Y L:=by rw[List.cons_append,fG]<;>rfl
  rw[e1,e2];cases g6 W lf s J Y L with
  |ok f aF L'=>
   cases f with
   |nx aE=>exact ye l1 l2 aE aF L'|rt v=>rfl|bk aE=>rfl
  |exc m=>rfl|fail=>rfl
theorem oQ{lf:Nat}(h:bu W J t Y L = .ok v aF L'):al W lf (.ite t a b::l) J Y L=al W lf ((if v then a else b)++l) J aF L':=by
 rw[ye];have e1:al W lf (.ite t a b::l) J Y L=(g6 W lf (.ite t a b) J Y L).bind fun f Y L=>match f with
  |.nx J=>al W lf l J Y L|.rt v=>.ok (.rt v) Y L|.bk J=>.ok (.bk J) Y L:=by exact(fG ..)<;>rfl
 refine .trans (e1 ..)<|?_
 cases v with
 |true=>refine .trans (dA (cr h ..))<|?_;rfl|false=>refine .trans (dA (fJ h ..))<|?_;rfl
theorem HZ{n:Nat}{f:Nat}(he:eH (wG S n) J es Y L = .ok vs aF L')(hi:vs.all tD=true)(hc:cG S n f vs aF = .ok v fj jg):bQ (wG S n) J (.call f es) Y L = .ok v fj L':=by
 refine .trans (l4 ..)<|.trans (dA (he ..))<|?_
 show(match vs.all tD with|true=>_|false=>_:O2 V2)=_
 rw[hi];show(match cG S n f vs aF with| .ok v Y _=>O2.ok v Y L'| .exc _=>.exc false| .fail=>.fail)=_
 rw[hc]
section
variable(S:List Nat)(n:Nat)(r:List AV)(e:Nat)(o:List (Nat×Nat))(T:AV)(b:AV)(x3 x6 x7 x8 x9 gK gL:Option V2)
theorem Ox(i:Fin 3)(B:Bk)(O:List (Nat×Nat))(W4:cG S (n+11) 68 [.ib] ⟨r,e,O⟩= .ok (.a (.tup [.str (B.text true),.lst B.rows])) ⟨r,e,o⟩ []) :
  al (wG S (n+11)) 5000 yc [some .ib,some (.txt []),some (.a T),x3,some (.a (.int ((i.val+4:Nat):Int))),some (.a b),x6,x7,x8,x9,gK,gL] ⟨r,e,O⟩ [] =
  al (wG S (n+11)) 5000 (HY++[.hJ 1 .add (.loc 6)]) [some .ib,some (.txt []),some (.a T),x3,some (.a (.int ((i.val+4:Nat):Int))),some (.a b),some (.a (.str (B.text true))),x7,x8,some (.a (.lst B.rows)),gK,gL] ⟨r,e,o⟩ []:=by
 have t1:bu (wG S (n+11)) [some .ib,some (.txt []),some (.a T),x3,some (.a (.int ((i.val+4:Nat):Int))),some (.a b),x6,x7,x8,x9,gK,gL] (.cmp .lt (.loc 4) (.int 2)) ⟨r,e,O⟩ [] = .ok false ⟨r,e,O⟩ []:=by
  apply Td i;kernel_rfl
 have t2:bu (wG S (n+11)) [some .ib,some (.txt []),some (.a T),x3,some (.a (.int ((i.val+4:Nat):Int))),some (.a b),x6,x7,x8,x9,gK,gL] (.cmp .lt (.loc 4) (.int 4)) ⟨r,e,O⟩ [] = .ok false ⟨r,e,O⟩ []:=by
  apply Td i;kernel_rfl
 have t3:bu (wG S (n+11)) [some .ib,some (.txt []),some (.a T),x3,some (.a (.int ((i.val+4:Nat):Int))),some (.a b),x6,x7,x8,x9,gK,gL] (.cmp .lt (.loc 4) (.int 7)) ⟨r,e,O⟩ [] = .ok true ⟨r,e,O⟩ []:=by
  apply Td i;kernel_rfl
 rw[DT,oQ t1,aV (by decide),List.cons_append,List.nil_append,oQ t2,aV (by decide),List.cons_append,List.nil_append,oQ t3,aO rfl,DS,List.cons_append]
 refine aN ?_;have l0:eH (wG S (n+11)) [some .ib,some (.txt []),some (.a T),x3,some (.a (.int ((i.val+4:Nat):Int))),some (.a b),x6,x7,x8,x9,gK,gL] [.loc 0] ⟨r,e,O⟩ [] = .ok [.ib] ⟨r,e,O⟩ []:=dH (by refine .trans (eI ..)<|?_;rfl)
 refine .trans (LY ..)<|.trans (dA (HZ l0 rfl W4 ..))<|?_;rfl
end
theorem cT(row:List Int)(k:Nat){m:Nat}(hm:0<m):∃v,v<m/\raw row k % (m:Int)=(v:Int):=by
 refine⟨(raw row k % (m:Int)).toNat,?_,?_⟩
 ·have h1:=Int.emod_nonneg (raw row k) (show(m:Int)≠0 by omega)
  have h2:=Int.emod_lt_of_pos (raw row k) (show(0:Int)<(m:Int) by omega)
  omega
 ·have h1:=Int.emod_nonneg (raw row k) (show(m:Int)≠0 by omega)
  omega
theorem gZ{k:Nat}:tI row k []:=fun i m v h=>by exact ak h
theorem bZ{row:List Int}{k m v:Nat}{O:List (Nat×Nat)}(hm:0<m)(zE:m<=1000)(h:raw row (k+1) % (m:Int)=(v:Int))(hO:tI row (k+1) O):tI row k ((m,v)::O):=by
 intro i m' v' e;cases i with
 |zero=>cases bE e;exact⟨hm,zE,h⟩|succ i=>
  have:=hO i m' v' e;rw[show k+1+1+i=k+1+(i+1) by omega]at this
  exact this
section
variable{row:List Int}{k m:Nat}{O:List (Nat×Nat)}{T:List Nat}
theorem W5(hr:row.length<=1000)(hO:tI row k O)(hk:k+O.length<=5000)(hT:T.length<=90000){n:Nat}(hm:n+10<=m):WR (zG row k O T) (wG T n) (wM m):=
 ⟨rfl,rfl,rfl,fun f args Y R h1 h2 h3 h4=>jX (HW hT) gw (yb hr hO hk) n m f args Y R hm h1 h2 h3 h4⟩
theorem Sz(Y:S2):St (zG row k O T) [] Y []=[bF row (k+(O.length-Y.C6.length))]:=rfl
theorem yf(hr:row.length<=1000)(hO:tI row k O)(hk:k+O.length<=5000)(hT:T.length<=90000){n:Nat}(hm:n+10<=m)(bB:lK (zG row k O T) O8)(h:al (wG T n) 5000 l O8 ⟨[],0,O⟩ [] = .ok fl ⟨[],0,[]⟩ []) :
  ∃f1,dR (wM m) 5000 l (lo1 (zG row k O T) [] O8) [bF row k] = .ok f1 [bF row (k+O.length)]/\QF (zG row k O T) [] fl f1:=by
 have S:=rl (lf:=5000) (R:=[]) (HW (row:=row) (at0:=k) (O:=O) hT) jU (W5 hr hO hk hT hm) l O8 ⟨[],0,O⟩ [] bB ⟨[],rfl⟩ jU;rw[h]at S;refine tJ S fun U U f1 e q=>?_;rw[Sz,Sz]at e;refine⟨f1,?_,q⟩;have e1:k+(O.length-(S2.mk [] 0 O).C6.length)=k:=by show k+(O.length-O.length)=k;omega
 have e2:k+(O.length-(S2.mk [] 0 []).C6.length)=k+O.length:=rfl;rw[e1,e2]at e;exact e
theorem yg(hr:row.length<=1000)(hO:tI row k O)(hk:k+O.length<=5000){n f:Nat}(hm:n+10<=m)(h:cG [] n f [.ib] ⟨[],0,O⟩= .ok (.a v) ⟨[],0,[]⟩ []):bL fns ini gl 5000 m f [.ref 0] [bF row k] = .ok v [bF row (k+O.length)]:=by
 have S:=jX (HW (row:=row) (at0:=k) (O:=O) (T:=[]) (Nat.zero_le _)) gw (yb hr hO hk) n m f [.ib] ⟨[],0,O⟩ [] hm ⟨[],rfl⟩ jU (fun v hv=>by rw[List.mem_singleton]at hv;subst hv;exact trivial) rfl
 have h':eU fns (zG row k O []).gl 5000 (zG row k O []).s Bt n f [.ib] ⟨[],0,O⟩= .ok (.a v) ⟨[],0,[]⟩ []:=h;rw[h']at S;refine fK S fun U U U q=>?_;have q2:bL fns ini gl 5000 m f [.ref 0] [bF row (k+(O.length-O.length))] = .ok v [bF row (k+O.length)]:=q;rw[Nat.sub_self]at q2;exact q2
end
noncomputable def fr(T:List Nat)(A:AV)(xs:List (Option AV)):Loc:=some (.ref 0)::some (.str T)::some A::xs
noncomputable def KP(X:List Nat)(A:AV)(xs:List (Option AV)):bS:=some .ib::some (.txt X)::some (.a A)::xs.map (Option.map V2.a)
noncomputable def wV(xs:List (Option AV)):Prop:=∀v,some v∈xs->aH 0 v=true
section
variable{row:List Int}{k m:Nat}{O:List (Nat×Nat)}{T X:List Nat}{A:AV}{xs ys:List (Option AV)}
theorem A0:lo1 (zG row k O T) [] (KP X A xs)=fr (T++X) A xs:=by
 unfold lo1 KP fr;have e:(xs.map (Option.map V2.a)).map (Option.map (iv (zG row k O T) (NN (zG row k O T) [])))=xs:=by
  refine .trans (List.map_map ..)<|?_
  refine(List.map_congr_left (g:=id) ?_).trans (List.map_id _);intro x _;cases x with
  |none=>rfl|some v=>show some (iv _ _ (.a v))=some v;rw[bn]
 (refine .trans (List.map_cons ..)<|?_;rw[List.map_cons,List.map_cons,e])
 have e1:iv (zG row k O T) (NN (zG row k O T) []) .ib = .ref 0:=rfl;have e2:iv (zG row k O T) (NN (zG row k O T) []) (.txt X) = .str (T++X):=rfl;show some _::some _::some _::xs=_;rw[e1,e2,bn]
theorem H0{z:Cz}(hA:aH 0 A=true)(hx:wV xs):lK z (KP X A xs):=by
 intro v hv;unfold KP at hv;rw[b8,b8,b8]at hv;rcases hv with h|h|h|h
 ·obtain rfl:=bE h;exact trivial
 ·obtain rfl:=bE h;exact trivial
 ·obtain rfl:=bE h;exact bK.mpr hA
 ·refine au (List.mem_map.mp h) fun y hy e=>?_;cases y with
  |none=>exact ak e|some w=>obtain rfl:=bE e;exact bK.mpr (hx w hy)
theorem Oy{z:Cz}(h:lK z (KP X A xs)):wV xs:=by
 intro v hv;refine bK.mp (h (.a v) ?_);unfold KP;simp only[b8];exact .inr (.inr (.inr (List.mem_map.mpr ⟨some v,hv,rfl⟩)))
theorem qL{A':AV}(hr:row.length<=1000)(hO:tI row k O)(hk:k+O.length<=5000)(hT:T.length<=90000){n:Nat}(hm:n+21<=m)(hA:aH 0 A=true)(hx:wV xs)
  (h:al (wG T (n+11)) 5000 yc (KP [] A xs) ⟨[],0,O⟩ [] = .ok (.nx (KP X A' ys)) ⟨[],0,[]⟩ []) :
  dR (wM m) 5000 yc (fr T A xs) [bF row k] = .ok (.nx (fr (T++X) A' ys)) [bF row (k+O.length)]/\wV ys:=by
 refine au (yf (n:=n+11) hr hO hk hT (by omega) (H0 hA hx) h) fun f1 e q=>?_
 rw[A0,List.append_nil]at e;obtain⟨q1,q2⟩:=q;rw[A0]at q2;subst q2;exact⟨e,Oy q1⟩
theorem wK{v:AV}(hr:row.length<=1000)(hO:tI row k O)(hk:k+O.length<=5000)(hT:T.length<=90000){n:Nat}(hm:n+21<=m)(hA:aH 0 A=true)(hx:wV xs)
  (h:al (wG T (n+11)) 5000 yc (KP [] A xs) ⟨[],0,O⟩ [] = .ok (.rt (.tp [.txt X,.a v])) ⟨[],0,[]⟩ []) :
  dR (wM m) 5000 yc (fr T A xs) [bF row k] = .ok (.rt (.tup [.str (T++X),v])) [bF row (k+O.length)]:=by
 refine au (yf (n:=n+11) hr hO hk hT (by omega) (H0 hA hx) h) fun f1 e q=>?_
 rw[A0,List.append_nil]at e;refine cH q fun q1 q2 q3=>?_;have e2:iv (zG row k O T) (NN (zG row k O T) []) (.tp [.txt X,.a v]) = .tup [.str (T++X),v]:=by
  refine .trans (jB ..)<|?_
  show AV.tup [iv _ _ (.txt X),iv _ _ (.a v)]=_;rw[bn];have:iv (zG row k O T) (NN (zG row k O T) []) (.txt X) = .str (T++X):=rfl;rw[this]
 rw[e2]at q3;subst q3;exact e
end
theorem KQ(W:dP)(t:bO)(T:List Nat)(D:Cell)(x3 x4 x5 x6 x7 x8 x9 gK gL:Option AV):ev W (fr T t.av [x3,x4,x5,x6,x7,x8,x9,gK,gL]) AZ [D] = .ok (.bool t.isOpen) [D]:=by
 cases t with
 |nm n=>kernel_rfl|sy s p=>kernel_rfl|dt t d=>apply Vq d<;>kernel_rfl|tick t a=>(apply Jd a;kernel_rfl)|d4 t a b=>
  apply O7 b<;>kernel_rfl
 |app t b=>kernel_rfl
inductive End:List Nat->AV->Prop
 |good (t:bO):t.ok->t.size<=8->End (t.text true) t.av|qual (t:bO) (p:Pt):t.ok->t.size<=8->p≠.q->End (t.text true++lL true p) (gk t.av p)|bad (t:bO) (b:pS):t.ok->t.size<=8->End (t.text true++b.text) .none|named (t:bO) (a:At) (b:Bk):t.ok->t.size<=8->a.mark=false->b.nm=true->End ((bO.tick t a).text true++b.text true) .none
theorem yh{row:List Int}{k m:Nat}{J:Loc}{y:Nat}{mm:Nat}(h0:J[0]?=some (some (.ref 0)))(hr:row.length<=1000)(hk:k<=5000)(hm:1<=m)(h1:0<mm)(h2:mm<=1000):ev (wM m) J (.call 65 [.loc 0,.int mm]) [bF row k] = .ok (.int (raw row (k+1) % (mm:Int))) [bF row (k+1)]:=by
 obtain⟨m,rfl⟩:∃j,m=j+1:=⟨m-1,by omega⟩
 have e0:ev (wM (m+1)) J (.loc 0) [bF row k] = .ok (.ref 0) [bF row k]:=by(refine .trans (cM ..)<|?_;rw[h0])
 have e1:ev (wM (m+1)) J (.int mm) [bF row k] = .ok (.int mm) [bF row k]:=by exact(mB ..)
 have e2:eV (wM (m+1)) J [.loc 0,.int mm] [bF row k] = .ok [.ref 0,.int mm] [bF row k]:=by(refine .trans (bY ..)<|.trans (ob e0 ..)<|.trans (dc (bY ..))<|.trans (dc (ob e1 ..))<|?_;rw[cI]);rfl
 refine .trans (fL ..)<|.trans (ob e2 ..)<|?_
 exact ya (R:=[]) hr hk h1 h2 jU
theorem nine{xs:List (Option AV)}(h:xs.length=9):∃x3 x4 x5 x6 x7 x8 x9 gK gL,xs=[x3,x4,x5,x6,x7,x8,x9,gK,gL]:=by
 rcases xs with _|⟨x3,_|⟨x4,_|⟨x5,_|⟨x6,_|⟨x7,_|⟨x8,_|⟨x9,_|⟨gK,_|⟨gL,_|⟨y,r⟩⟩⟩⟩⟩⟩⟩⟩⟩⟩<;>first| (simp at h;done) |exact⟨_,_,_,_,_,_,_,_,_,rfl⟩
inductive TA(W:dP)(row:List Int)(hi:Nat)(t:bO)(l:List Sx)(J:Loc)(c:aC):Prop
 |go (t':bO) (ys:List (Option AV)) (k':Nat) (a1:t'.ok) (a2:t'.size<=t.size+1) (a3:ys.length=9) (a4:wV ys) (a5:k'<=hi) (a6:dR W 5000 l J c = .ok (.nx (fr (t'.text true) t'.av ys)) [bF row k'])|stop (T:List Nat) (A:AV) (k':Nat) (a1:End T A) (a2:k'<=hi) (a3:dR W 5000 l J c = .ok (.rt (.tup [.str T,A])) [bF row k'])
section
variable{row:List Int}{k n:Nat}{t:bO}{x3 x6 x7 x8 x9 gK gL:Option AV}
noncomputable abbrev Bv(t:bO)(x3 x6 x7 x8 x9 gK gL:Option AV)(way:Nat)(b:Bool):List (Option AV):=[x3,some (.int way),some (.bool b),x6,x7,x8,x9,gK,gL]
noncomputable def Ly(row:List Int)(k n:Nat)(t:bO)(xs:List (Option AV)):Prop:=TA (wM (n+21)) row (k+8) t yc (fr (t.text true) t.av xs) [bF row k]
theorem wL(hs:t.size<=7):(t.text true).length<=90000:=by have:=text_len true t;omega
theorem Lz(io:t.ok)(hs:t.size<=7)(hr:row.length<=1000)(hk:k<=4900)(i:Fin 2)(cx:wV (Bv t x3 x6 x7 x8 x9 gK gL i.val t.isOpen)):Ly row k n t (Bv t x3 x6 x7 x8 x9 gK gL i.val t.isOpen):=by
 obtain⟨w,h1,e1⟩:=cT row (k+1) (show 0<5 by decide)
 obtain⟨s,h2,e2⟩:=cT row (k+1+1) (show 0<8 by decide)
 obtain⟨s,rfl⟩:=Lx h2;have:=qL (X:=(wI w s).text true) (A':=(wI w s).put t.av) (ys:=[x3,some (.int i.val),some (.bool t.isOpen),some (.str ((wI w s).text true)),some (.str (wI w s).GT),x8,x9,gK,gL]) hr (bZ (by decide) (by decide) e1 (bZ (by decide) (by decide) e2 gZ)) (cY (Nat.add_le_add_right hk _) (g7 rfl)) (wL hs) (b5 (n+21)) (cD t) cx (Sv _ n [] 0 [] t.av (.bool t.isOpen) _ _ _ _ _ _ _ i ⟨w,h1⟩ s)
 exact .go (.dt t (wI w s)) _ _ io (b5 _) rfl this.2 (Nat.add_le_add_left (g7 rfl) k) this.1
theorem MA(io:t.ok)(hs:t.size<=7)(hr:row.length<=1000)(hk:k<=4900)(i:Fin 2)(cx:wV (Bv t x3 x6 x7 x8 x9 gK gL (i.val+2) t.isOpen)):Ly row k n t (Bv t x3 x6 x7 x8 x9 gK gL (i.val+2) t.isOpen):=by
 obtain⟨a,h1,e1⟩:=cT row (k+1) (show 0<8 by decide)
 obtain⟨a,rfl⟩:=at_of h1;have:=qL (X:=[39]++a.text true) (A':=fk t.av a []) (ys:=[x3,some (.int ((i.val+2:Nat):Int)),some (.bool t.isOpen),some (.str ([39]++a.text true)),x7,some (.str (a.text true)),x9,gK,gL]) hr (bZ (by decide) (by decide) e1 gZ) (cY (Nat.add_le_add_right hk _) (g7 rfl)) (wL hs) (b5 (n+21)) (cD t) cx (Sw _ n [] 0 [] t.av (.bool t.isOpen) _ _ _ _ _ _ _ i a)
 exact .go (.tick t a) _ _ io (b5 _) rfl this.2 (Nat.add_le_add_left (g7 rfl) k) this.1
theorem H7(io:t.ok)(hs:t.size<=7)(hr:row.length<=1000)(hk:k<=4900)(i:Fin 3)(cx:wV (Bv t x3 x6 x7 x8 x9 gK gL (i.val+4) t.isOpen))(B:Bk)(O:List (Nat×Nat))(hl:O.length<=7)(hO:tI row k O)(W4:cG (t.text true) (n+11) 68 [.ib] ⟨[],0,O⟩= .ok (.a (.tup [.str (B.text true),.lst B.rows])) ⟨[],0,[]⟩ []) :
  Ly row k n t (Bv t x3 x6 x7 x8 x9 gK gL (i.val+4) t.isOpen):=by
 have h1:=Ox (t.text true) n [] 0 [] t.av (.bool t.isOpen) (x3.map .a) (x6.map .a) (x7.map .a) (x8.map .a) (x9.map .a) (gK.map .a) (gL.map .a) i B O W4;have hT:=wL hs;have hA:=cD t;have hm:k+O.length<=5000:=by omega
 have zE:k+O.length<=k+8:=by omega
 unfold Ly;cases ho:t.isOpen with
 |false=>
  rw[ho]at h1 cx;have:=qL (X:=B.text true) (A':=rm t.av B.rows) (ys:=[x3,some (.int ((i.val+4:Nat):Int)),some (.bool false),some (.str (B.text true)),x7,x8,some (.lst B.rows),gK,gL]) hr hO hm hT (b5 (n+21)) hA cx (h1.trans (Ou _ n [] 0 [] t.av _ _ _ _ _ _ B));exact .go (.app t B) _ _ ⟨io,ho⟩ (b5 _) rfl this.2 zE this.1
 |true=>
  rw[ho]at h1 cx;cases t with
  |tick t0 a=>
   have ha:a.mark=false:=by
    have q':(!a.mark)=true:=ho;simpa using q'
   cases hb:B.nm with
   |false=>
    have:=qL (X:=B.text true) (A':=fk t0.av a B.cy) (ys:=[x3,some (.int ((i.val+4:Nat):Int)),some (.bool true),some (.str (B.text true)),x7,x8,some (.lst B.rows),gK,gL]) hr hO hm hT (b5 (n+21)) hA cx (h1.trans (Ov _ n [] 0 [] t0.av _ _ _ _ _ _ a B hb));exact .go (.d4 t0 a B) _ _ ⟨io,ha,hb⟩ (Nat.le_succ _) rfl this.2 zE this.1
   |true=>
    have:=wK (X:=B.text true) (v:=.none) hr hO hm hT (b5 (n+21)) hA cx (h1.trans (Ow _ n [] 0 [] _ _ _ _ _ _ _ B hb));exact .stop _ _ _ (.named t0 a B io (Nat.le_succ_of_le (dw hs)) ha hb) zE this
  |_=>exact eK ho
theorem H8(io:t.ok)(hs:t.size<=7)(hr:row.length<=1000)(hk:k<=4900)(i:Fin 3)(cx:wV (Bv t x3 x6 x7 x8 x9 gK gL (i.val+4) t.isOpen)):Ly row k n t (Bv t x3 x6 x7 x8 x9 gK gL (i.val+4) t.isOpen):=by
 obtain⟨b,h1,e1⟩:=cT row (k+1) (show 0<2 by decide)
 obtain⟨p,h2,e2⟩:=cT row (k+1+1) (show 0<6 by decide)
 obtain⟨p,rfl⟩:=Bu h2;rcases b with _|_|b
 ·obtain⟨q,h3,e3⟩:=cT row (k+1+1+1) (show 0<4 by decide)
  exact H7 io hs hr hk i cx (.one p (q==3)) _ (g7 rfl) (bZ (by decide) (by decide) e1 (bZ (by decide) (by decide) e2 (bZ (by decide) (by decide) e3 gZ))) (WZ _ (n+1) [] 0 [] p ⟨q,h3⟩)
 ·obtain⟨p2,h3,e3⟩:=cT row (k+1+1+1) (show 0<6 by decide)
  obtain⟨p2,rfl⟩:=Bu h3;obtain⟨q,h4,e4⟩:=cT row (k+1+1+1+1) (show 0<4 by decide)
  exact H7 io hs hr hk i cx (.two p p2 (q==3)) _ (g7 rfl) (bZ (by decide) (by decide) e1 (bZ (by decide) (by decide) e2 (bZ (by decide) (by decide) e3 (bZ (by decide) (by decide) e4 gZ)))) (W0 _ (n+1) [] 0 [] p p2 ⟨q,h4⟩)
 ·exact aX h1 (by omega)
theorem TB(io:t.ok)(hs:t.size<=7)(hr:row.length<=1000)(hk:k<=4900)(cx:wV (Bv t x3 x6 x7 x8 x9 gK gL 7 t.isOpen)):Ly row k n t (Bv t x3 x6 x7 x8 x9 gK gL 7 t.isOpen):=by
 have hT:=wL hs;have hA:=cD t;have iL:t.size<=8:=Nat.le_succ_of_le hs;obtain⟨p,h2,e2⟩:=cT row (k+1) (show 0<6 by decide)
 obtain⟨p,rfl⟩:=Bu h2;obtain⟨i,h3,e3⟩:=cT row (k+1+1) (show 0<3 by decide)
 rcases i with _|i
 ·obtain⟨y,h4,e4⟩:=cT row (k+1+1+1) (show 0<4 by decide)
  obtain⟨y,rfl⟩:=Op h4;have:=wK (X:=y.text) (v:=.none) hr (bZ (by decide) (by decide) e2 (bZ (by decide) (by decide) e3 (bZ (by decide) (by decide) e4 gZ))) (cY (Nat.add_le_add_right hk _) (g7 rfl)) hT (b5 (n+21)) hA cx (Os _ n [] 0 [] t.av (.bool t.isOpen) _ _ _ _ _ _ _ p y)
  exact .stop _ _ _ (.bad t y io iL) (Nat.add_le_add_left (g7 rfl) k) this
 ·have:=wK (X:=lL true p.P0) (v:=gk t.av p.P0) hr (bZ (by decide) (by decide) e2 (bZ (by decide) (by decide) e3 gZ)) (cY (Nat.add_le_add_right hk _) (g7 rfl)) hT (b5 (n+21)) hA cx (Ot _ n [] 0 [] t.av (.bool t.isOpen) _ _ _ _ _ _ _ p ⟨i,Nat.lt_of_succ_lt_succ h3⟩)
  exact .stop _ _ _ (.qual t p.P0 io iL (Oq p)) (Nat.add_le_add_left (g7 rfl) k) this
theorem lt8{P:Nat->Prop}(h0:P 0)(h1:P 1)(h2:P 2)(h3:P 3)(h4:P 4)(h5:P 5)(h6:P 6)(h7:P 7)(w:Nat)(h:w<8):P w:=by
 cases w with
 |zero=>exact h0|succ w=>cases w with
  |zero=>exact h1|succ w=>cases w with
   |zero=>exact h2|succ w=>cases w with
    |zero=>exact h3|succ w=>cases w with
     |zero=>exact h4|succ w=>cases w with
      |zero=>exact h5|succ w=>cases w with
       |zero=>exact h6|succ w=>cases w with
        |zero=>exact h7|succ w=>exact aX h (Nat.not_lt.mpr (Nat.le_add_left 8 w))
theorem TC(io:t.ok)(hs:t.size<=7){way:Nat}(hw:way<8)(hr:row.length<=1000)(hk:k<=4900)(cx:wV (Bv t x3 x6 x7 x8 x9 gK gL way t.isOpen)) :
  Ly row k n t (Bv t x3 x6 x7 x8 x9 gK gL way t.isOpen):=by
 exact lt8 (P:=fun way=>wV (Bv t x3 x6 x7 x8 x9 gK gL way t.isOpen)->Ly row k n t (Bv t x3 x6 x7 x8 x9 gK gL way t.isOpen)) (Lz io hs hr hk 0) (Lz io hs hr hk 1) (MA io hs hr hk 0) (MA io hs hr hk 1) (H8 io hs hr hk 0) (H8 io hs hr hk 1) (H8 io hs hr hk 2) (TB io hs hr hk) way hw cx
end
section
variable{row:List Int}{k m:Nat}
theorem turn(t:bO)(io:t.ok)(hs:t.size<=7)(xs:List (Option AV))(hx:xs.length=9)(cx:wV xs)(hr:row.length<=1000)(hk:k<=4000)(hm:25<=m) :
  TA (wM m) row (k+10) t ig (fr (t.text true) t.av xs) [bF row k]:=by
 obtain⟨x3,x4,x5,x6,x7,x8,x9,gK,gL,rfl⟩:=nine hx;obtain⟨way,hw,ew⟩:=cT row (k+1) (show 0<8 by decide)
 have w1:ev (wM m) (fr (t.text true) t.av [x3,x4,x5,x6,x7,x8,x9,gK,gL]) (.call 65 [.loc 0,.int 8]) [bF row k] = .ok (.int way) [bF row (k+1)]:=by
  have:=yh (m:=m) (k:=k) (row:=row) (J:=fr (t.text true) t.av [x3,x4,x5,x6,x7,x8,x9,gK,gL]) (y:=0) (mm:=8) rfl hr (by omega) (by omega) (by decide) (by decide)
  rw[ew]at this;exact this
 have s1:ex (wM m) 5000 (.asg 4 (.call 65 [.loc 0,.int 8])) (fr (t.text true) t.av [x3,x4,x5,x6,x7,x8,x9,gK,gL]) [bF row k] = .ok (.nx (fr (t.text true) t.av [x3,some (.int way),x5,x6,x7,x8,x9,gK,gL])) [bF row (k+1)]:=by
  refine .trans (mG ..)<|.trans (ob w1 ..)<|?_;rfl
 have s2:ex (wM m) 5000 (.asg 5 AZ) (fr (t.text true) t.av [x3,some (.int way),x5,x6,x7,x8,x9,gK,gL]) [bF row (k+1)] = .ok (.nx (fr (t.text true) t.av [x3,some (.int way),some (.bool t.isOpen),x6,x7,x8,x9,gK,gL])) [bF row (k+1)]:=by
  refine .trans (mG ..)<|.trans (ob (KQ _ _ _ _ _ _ _ _ _ _ _ _ _) ..)<|?_;rfl
 have E:dR (wM m) 5000 ig (fr (t.text true) t.av [x3,x4,x5,x6,x7,x8,x9,gK,gL]) [bF row k]=dR (wM m) 5000 yc (fr (t.text true) t.av [x3,some (.int way),some (.bool t.isOpen),x6,x7,x8,x9,gK,gL]) [bF row (k+1)]:=by
  rw[wJ,bM s1,bM s2]
 have W6:wV [x3,some (.int way),some (.bool t.isOpen),x6,x7,x8,x9,gK,gL]:=by
  intro v hv;simp only[b8,List.not_mem_nil,or_false]at hv;rcases hv with h|h|h|h|h|h|h|h|h
  ·exact cx v (by rw[h];simp)
  ·obtain rfl:=bE h;exact aa _ _
  ·obtain rfl:=bE h;exact cj _ _
  all_goals exact cx v (by rw[h];simp)
 obtain⟨n,rfl⟩:∃n,m=n+21:=⟨m-21,by omega⟩
 have R:=TC (n:=n) (k:=k+1) io hs hw hr (by omega) W6
 rcases R with⟨t',ys,k',a1,a2,a3,a4,a5,a6⟩|⟨T,A,k',a1,a2,a3⟩
 ·exact .go t' ys k' a1 a2 a3 a4 (by omega) (E.trans a6)
 ·exact .stop T A k' a1 (by omega) (E.trans a3)
inductive TD(row:List Int)(hi:Nat)(o:aD Fl):Prop
 |go (t':bO) (ys:List (Option AV)) (k':Nat) (a1:t'.ok) (a2:t'.size<=8) (a3:k'<=hi) (a4:o = .ok (.nx (fr (t'.text true) t'.av ys)) [bF row k'])|stop (T:List Nat) (A:AV) (k':Nat) (a1:End T A) (a2:k'<=hi) (a3:o = .ok (.rt (.tup [.str T,A])) [bF row k'])
theorem grow:∀(l:List AV)(t:bO)(xs:List (Option AV))(k:Nat),(∀v∈l,aH 0 v=true)->t.ok->t.size+l.length<=8->xs.length=9->wV xs->row.length<=1000->k+10*l.length<=4000->25<=m->
  TD row (k+10*l.length) (hY (.one 3) (fun J c=>dR (wM m) 5000 ig J c) l (fr (t.text true) t.av xs) [bF row k])
 |[],t,xs,k,hl,io,hs,hx,cx,hr,hk,hm=>.go t xs k io hs (Nat.le_add_right _ _) (by exact(mD ..))
 |v::l,t,xs,k,hl,io,hs,hx,cx,hr,hk,hm=>by
  rw[List.length_cons]at hs hk;have wQ:(xs.set 0 (some v)).length=9:=by refine .trans (List.length_set ..)<|?_;exact hx
  have W6:wV (xs.set 0 (some v)):=by
   intro w hw;rcases List.mem_or_eq_of_mem_set hw with h|h
   ·exact cx w h
   ·cases bE h;exact hl v d8
  have b0:br (fr (t.text true) t.av xs) (.one 3) v=some (fr (t.text true) t.av (xs.set 0 (some v))):=by
   unfold br fr;rfl
  rcases turn (m:=m) (k:=k) t io (by omega) _ wQ W6 hr (by omega) hm with⟨t',ys,k',a1,a2,a3,a4,a5,a6⟩|⟨T,A,k',a1,a2,a3⟩
  ·have e:=jZ (b:=fun J c=>dR (wM m) 5000 ig J c) (l:=l) b0 a6;rcases grow l t' ys k' (fun w hw=>hl w (dO _ hw)) a1 (by omega) a3 a4 hr (by omega) hm with⟨t2,ys2,k2,c1,c2,c3,c4⟩|⟨T,A,k2,c1,c2,c3⟩
   ·exact .go t2 ys2 k2 c1 c2 (by rw[List.length_cons];omega) (e.trans c4)
   ·exact .stop T A k2 c1 (by rw[List.length_cons];omega) (e.trans c3)
  ·refine .stop T A k' a1 (by rw[List.length_cons];omega) ?_
   (refine .trans (mE ..)<|?_;rw[b0])
   dsimp only;exact(oc a3 ..)
end
theorem End.clean(h:End T A):aH 0 A=true:=by
 cases h with
 |good t U bG=>exact cD t|qual t p U bG dy=>
  unfold gk
  (refine .trans (bv ..)<|?_;rw[ae])
  intro v hv;simp only[b8,List.not_mem_nil,or_false]at hv;rcases hv with rfl|rfl|rfl
  ·exact a9 _ _
  ·exact cD t
  ·exact lq p
 |bad t b U bG=>exact bm _|named t a b U bG dy lP=>exact bm _
theorem kR{n:Nat}(h1:aH n a=true)(h2:aH n b=true):aH n (.tup [a,b])=true:=by
 (refine .trans (nb ..)<|.trans (bH ..)<|?_;rw[bH,cu,h1,h2]);rfl
section
variable{row:List Int}{m:Nat}
theorem begun(hr:row.length<=1000)(hm:25<=m):∃(t:bO)(k:Nat),t.ok/\t.size<=2/\k<=5/\bL fns ini gl 5000 m 67 [.ref 0] [bF row 0] = .ok (.tup [.str (t.text true),t.av]) [bF row k]:=by
 obtain⟨v,h1,e1⟩:=cT row (0+1) (show 0<4 by decide)
 rcases v with _|v
 ·obtain⟨s,h2,e2⟩:=cT row (0+1+1) (show 0<8 by decide)
  obtain⟨s,rfl⟩:=Lx h2;obtain⟨p,h3,e3⟩:=cT row (0+1+1+1) (show 0<6 by decide)
  obtain⟨p,rfl⟩:=Bu h3;exact⟨.sy s p,_,trivial,b5 _,by simp,yg (n:=10) hr (bZ (by decide) (by decide) e1 (bZ (by decide) (by decide) e2 (bZ (by decide) (by decide) e3 gZ))) (by simp) (by omega) (WY [] 0 [] 0 [] s p)⟩
 ·obtain⟨x,h2,e2⟩:=cT row (0+1+1) (show 0<3 by decide)
  obtain⟨x,rfl⟩:=Ss h2;exact⟨.nm x,_,trivial,Nat.le_succ _,by simp,yg (n:=10) hr (bZ (by decide) (by decide) e1 (bZ (by decide) (by decide) e2 gZ)) (by simp) (by omega) (WX [] 0 [] 0 [] ⟨v,by omega⟩ x)⟩
theorem grown(hr:row.length<=1000)(hm:25<=m):∃T A k,End T A/\bL fns ini gl 5000 (m+1) 70 [.ref 0] [bF row 0] = .ok (.tup [.str T,A]) [bF row k]:=by
 refine KZ (begun (row:=row) hr hm) fun t k io hs hk hb=>?_;have fin:∀{T A k'},aH 0 A=true->dR (wM m) 5000 gp [some (.ref 0),none,none,none,none,none,none,none,none,none,none,none] [bF row 0] = .ok (.rt (.tup [.str T,A])) [bF row k']->bL fns ini gl 5000 (m+1) 70 [.ref 0] [bF row 0] = .ok (.tup [.str T,A]) [bF row k']:=by
  intro T A k' hA h;refine .trans (uJ tC ..)<|.trans (qK (ds:=[]) rfl rfl h ..)<|?_
  show back 1 (.tup [.str T,A]) [bF row k'] (fun c=>aD.ok (AV.tup [.str T,A]) c)=_;unfold back;have h1:aH 1 (.tup [.str T,A])=true:=by
   exact kR (a9 _ _) (gC 1 hA)
  have h2:([bF row k'].take 1).all (ai 1)=true:=by
   show([bF row k'].all (ai 1))=true
   (refine .trans (List.all_cons ..)<|?_;rw[List.all_nil,bN 1 (kh row k')]);rfl
  rw[h1,h2,Bool.and_self,aO rfl];rfl
 have xs9:wV [none,none,none,none,none,none,none,none,none]:=by
  intro v hv;simp at hv
 have s1:ex (wM m) 5000 (.iM [1,2] (.call 67 [.loc 0])) [some (.ref 0),none,none,none,none,none,none,none,none,none,none,none] [bF row 0] = .ok (.nx (fr (t.text true) t.av [none,none,none,none,none,none,none,none,none])) [bF row k]:=by
  have e0:ev (wM m) [some (.ref 0),none,none,none,none,none,none,none,none,none,none,none] (.loc 0) [bF row 0] = .ok (.ref 0) [bF row 0]:=by refine .trans (cM ..)<|?_;rfl
  have e1:eV (wM m) [some (.ref 0),none,none,none,none,none,none,none,none,none,none,none] [.loc 0] [bF row 0] = .ok [.ref 0] [bF row 0]:=by refine .trans (bY ..)<|.trans (ob e0 ..)<|.trans (dc (cI ..))<|?_;rfl
  have e2:ev (wM m) [some (.ref 0),none,none,none,none,none,none,none,none,none,none,none] (.call 67 [.loc 0]) [bF row 0] = .ok (.tup [.str (t.text true),t.av]) [bF row k]:=by refine .trans (fL ..)<|.trans (ob e1 ..)<|?_;exact hb
  refine .trans (yv ..)<|.trans (ob e2 ..)<|?_;rfl
 obtain⟨j,hj,ej⟩:=cT row (k+1) (show 0<7 by decide)
 have w1:ev (wM m) (fr (t.text true) t.av [none,none,none,none,none,none,none,none,none]) (.call 65 [.loc 0,.int 7]) [bF row k] = .ok (.int j) [bF row (k+1)]:=by
  have:=yh (m:=m) (k:=k) (row:=row) (J:=fr (t.text true) t.av [none,none,none,none,none,none,none,none,none]) (y:=0) (mm:=7) rfl hr (by omega) (by omega) (by decide) (by decide)
  rw[ej]at this;exact this
 have w2:dh (wM m) (fr (t.text true) t.av [none,none,none,none,none,none,none,none,none]) (.lO (.call 65 [.loc 0,.int 7])) [bF row k] = .ok ((List.range j).map fun i=>AV.int (Int.ofNat i)) [bF row (k+1)]:=by
  refine .trans (pW ..)<|.trans (ob w1 ..)<|?_
  dsimp only;refine .trans (aO (by rw[bR];constructor<;>omega) ..)<|?_
  rfl
 have hlen:((List.range j).map fun i=>AV.int (Int.ofNat i)).length=j:=by simp
 have pj:∀v∈((List.range j).map fun i=>AV.int (Int.ofNat i)),aH 0 v=true:=by
  intro v hv;induction wY hv with|mk i _=>?_
  exact aa _ _
 rcases grow (m:=m) _ t _ (k+1) pj io (by rw[hlen];omega) rfl xs9 hr (by rw[hlen];omega) hm with⟨t',ys,k',a1,a2,a3,a4⟩|⟨T,A,k',a1,a2,a3⟩
 ·have s2:ex (wM m) 5000 (.i6 (.one 3) (.lO (.call 65 [.loc 0,.int 7])) ig) (fr (t.text true) t.av [none,none,none,none,none,none,none,none,none]) [bF row k] = .ok (.nx (fr (t'.text true) t'.av ys)) [bF row k']:=by
   refine .trans (qP ..)<|.trans (ob w2 ..)<|?_;exact a4
  refine⟨t'.text true,t'.av,k',.good t' a1 a2,fin (cD t') ?_⟩;have e1:∀C,ev (wM m) (fr (t'.text true) t'.av ys) (.loc 1) C = .ok (.str (t'.text true)) C:=fun C=>by refine .trans (cM ..)<|?_;rfl
  have e2:∀C,ev (wM m) (fr (t'.text true) t'.av ys) (.loc 2) C = .ok t'.av C:=fun C=>by refine .trans (cM ..)<|?_;rfl
  have e3:∀C,eV (wM m) (fr (t'.text true) t'.av ys) [.loc 1,.loc 2] C = .ok [.str (t'.text true),t'.av] C:=fun C=>by(refine .trans (bY ..)<|.trans (ob (e1 C) ..)<|.trans (dc (bY ..))<|.trans (dc (ob (e2 C) ..))<|?_;rw[cI]);rfl
  have e4:∀C,s7 [.str (t'.text true),t'.av] C = .ok [.str (t'.text true),t'.av] C:=fun C=>by
   (refine .trans (jl ..)<|.trans (ob (cJ (a9 _ _)) ..)<|.trans (dc (jl ..))<|.trans (dc (ob (cJ (cD t')) ..))<|?_;rw[A9]);rfl
  have e5:∀C,ev (wM m) (fr (t'.text true) t'.av ys) (.tup [.loc 1,.loc 2]) C = .ok (.tup [.str (t'.text true),t'.av]) C:=fun C=>by
   exact .trans (w9 ..)<|.trans (ob (e3 C) ..)<|(ob (e4 C) ..)
  rw[yd,bM s1,bM s2,bw,mF,ob (e5 _),ob (cJ (kR (a9 _ _) (cD t')))]
 ·refine⟨T,A,k',a1,fin a1.clean ?_⟩;rw[yd,bM s1,kq];have:ex (wM m) 5000 (.i6 (.one 3) (.lO (.call 65 [.loc 0,.int 7])) ig) (fr (t.text true) t.av [none,none,none,none,none,none,none,none,none]) [bF row k] = .ok (.rt (.tup [.str T,A])) [bF row k']:=by
   refine .trans (qP ..)<|.trans (ob w2 ..)<|?_;exact a3
  refine .trans (dc (this ..))<|?_;rfl
end
theorem wN(b:Bk):az 59 b.toks=true:=by
 cases b with
 |one p nm=>cases p<;>cases nm<;>decide|two p q nm=>cases p<;>cases q<;>cases nm<;>decide
theorem KR(v:Bool)(d:Dt):az 59 (d.toks v)=true:=by
 cases d with
 |sy s=>cases s<;>cases v<;>decide|_=>cases v<;>decide
theorem g5(v:Bool):∀t:bO,az 59 (t.toks v)=true
 |.nm m=>by cases m<;>cases v<;>decide
 |.sy s p=>by cases s<;>cases p<;>cases v<;>decide
 |.dt t d=>bc (g5 v t) (KR v d)|.tick t a=>bc (g5 v t) (by cases a<;>decide)
 |.d4 t a b=>bc (l:=t.toks v) (m:=[ic,a.tok]++b.toks) (g5 v t) (bc (by cases a<;>decide) (wN b))
 |.app t b=>bc (g5 v t) (wN b)
theorem Oz(v:Bool)(p:Pt):az 59 (kK v p)=true:=by cases p<;>cases v<;>decide
theorem H9(b:pS):az 59 b.toks=true:=by cases b<;>decide
mutual
theorem yi:∀{v:AV}{k:Nat},plain k v=true->eqB v v=true
 |.none,U,bG=>by exact(Pi ..)
 |.bool b,U,bG=>by refine .trans (Pj ..)<|?_;cases b<;>rfl
 |.int i,U,bG=>by refine .trans (Pk ..)<|?_;exact beq_self_eq_true i
 |.str s,U,bG=>by refine .trans (Pl ..)<|?_;exact beq_self_eq_true s
 |.tup l,0,h=>Bool.noConfusion (show false=true from h)
 |.lst l,0,h=>Bool.noConfusion (show false=true from h)
 |.tup l,k+1,h=>by refine .trans (Pn ..)<|?_;rw[gN]at h;exact oR h
 |.lst l,k+1,h=>by refine .trans (Pm ..)<|?_;rw[kT]at h;exact oR h
 |.ref i,k,h=>by cases k<;>exact Bool.noConfusion (show false=true from h)
theorem oR:∀{l:List AV}{k:Nat},az k l=true->oj l l=true
 |[],U,bG=>by exact(ME ..)
 |a::l,k,h=>by
  rw[ax,be]at h
  (refine .trans (MF ..)<|?_;rw[yi h.1,oR h.2]);rfl
end
theorem eqv_refl(h:plain aw v=true):eqv v v=some true:=by
 unfold eqv;cases v with
 |str s=>show some (s==s)=_;rw[beq_self_eq_true]|int i=>show some (i==i)=_;rw[beq_self_eq_true]|_=>
  show(if plain aw _&&plain aw _ then some (eqB _ _) else none)=_;rw[h,Bool.and_self,aO rfl,yi h]
structure PA(T:List Nat)(tk:List AV)(A:AV):Prop where
 ne:tk≠[]
 star:∀toks post,Stop post->bX toks (T++post) (toks++tk) post
 W7:∀post,bX [] (40::(T++post)) [im] (T++post)
 name:∀(n:Nat)(o:List (Nat×Nat))(k:Fin 2) post,Quiet post->cP (n+34) 28 [.ab] ⟨tk++post,k,o⟩= .ok (.a A) ⟨post,k,o⟩ []
 start:∀post,Start (tk++post)
 len:T.length<=600
 pl:az 59 tk=true
theorem Bw(v:Bool)(t:bO)(h:t.ok)(hs:t.size<=8):PA (t.text v) (t.toks v) t.av where
 ne:=gR v t
 star:=fun toks post hp=>gY v toks t post hp
 W7:=fun post=>gy v t post
 name:=fun n o k post hp=>Jn n o v k t h (by omega) post hp
 start:=fun post=>t.start v post
 len:=by have:=text_len v t;omega
 pl:=g5 v t
theorem yj(v:Bool)(t:bO)(h:t.ok)(hs:t.size<=8)(p:Pt)(hp:p≠.q):PA (t.text v++lL v p) (t.toks v++kK v p) (gk t.av p) where
 ne:=by simp[gR v t]
 star:=fun toks post Xk=>by
  rw[b9,<-b9 toks];refine(gY v toks t _ (by cases p<;>cases v<;>exact .tk _)).trans (DI v post _ ?_ p hp Xk)
  simp[gR v t]
 W7:=fun post=>by rw[b9];exact gy v t _
 name:=fun n o k post Xk=>by
  rw[b9];exact DD n o v k t h (by omega) p hp post
 start:=fun post=>by rw[b9];exact t.start v _
 len:=by
  have:=text_len v t;have h2:(lL v p).length<=20:=by cases p<;>cases v<;>decide
  rw[cB];omega
 pl:=bc (g5 v t) (Oz v p)
structure KS(A aj:AV):Prop where
 hA:wU A=true
 hU:wU aj=true
 hP:wU (d7 A)=true
 cA:aH 0 A=true
 cU:aH 0 aj=true
 pA:plain 50 A=true
 pU:plain 51 aj=true
 W8:sD A aj
theorem Ha(t:bO)(hs:t.size<=8):KS t.av (.tup [.str [112,97,114,101,110],t.av]):=by
 obtain⟨h1,w,h2,h3⟩:=iJ t (by omega)
 obtain⟨l,hl⟩:=lr t;have hp:=HT t (by omega)
 refine cH (HU hl h2 (ct hp (by omega)) (by omega) (by omega)) fun a1 a2 a3=>?_
 exact⟨a1,a2,a3,cD t,kR (a9 _ _) (cD t),hp,by(refine .trans (gN ..)<|.trans (ax ..)<|?_;rw[ax,dU,hp,gJ]);rfl,.paren (yQ t)⟩
theorem DU(t:bO)(p:Pt)(hs:t.size<=8):KS (gk t.av p) (gk t.av p):=by
 refine eP (AY t p (by omega)) fun h1 w h2 h3=>?_
 refine cH (HU (l:=[.str [113,117,97,108],t.av,p.mark]) rfl h2 (ct h1 (by omega)) (by omega) (by omega)) fun a1 a2 a3=>?_
 have c:aH 0 (gk t.av p)=true:=by unfold gk;(refine .trans (nb ..)<|.trans (bH ..)<|?_;rw[bH,bH,cu,a9,cD,lq]);rfl
 exact⟨a1,a1,a3,c,c,h1,ct h1 (by omega),.qual _ _⟩
section
variable{m:Nat}{D:Cell}{T:List Nat}{tk:List AV}{A aj:AV}
theorem uT(hD:ai 0 D=true)(N:PA T tk A)(hA:wU A=true)(cA:aH 0 A=true)(hm:60<=m):bL fns ini gl 5000 (m+1) 71 [.str T,.bool true] [D] = .ok A [D]:=by
 have S:=N.star [] [] .nil;rw[List.append_nil,List.nil_append]at S;have nm:=N.name 4 [] 0 [] .nil;rw[List.append_nil]at nm;exact sV (n:=39) (b:=true) hD (by have:=N.len;omega) S N.pl N.ne (by omega) (by omega) (Od (n:=0) nm hA) cA
theorem DV(hD:ai 0 D=true)(N:PA T tk A)(hP:wU (d7 A)=true)(cA:aH 0 A=true)(hm:60<=m):bL fns ini gl 5000 (m+1) 71 [.str (T++[32,43,32,49]),.bool false] [D] = .ok (d7 A) [D]:=by
 have S:=(N.star [] [32,43,32,49] (.sp _)).trans (DJ _);rw[List.nil_append]at S;have nm:=N.name 0 [] 0 [Cp,Cm 1] (.pl _);have c:aH 0 (d7 A)=true:=by unfold d7;(refine .trans (nb ..)<|.trans (bH ..)<|?_;rw[bH,bH,bH,cu,cA]);rfl
 exact sV (n:=39) (b:=false) hD (by have:=N.len;simp;omega) S (bc N.pl (by decide)) (by simp) (by omega) (by omega) (Gm (n:=0) (T':=A) .nil (WJ (.of (N.start _)) (Xb (N.start _) nm)) hP) c
theorem DW(hD:ai 0 D=true)(N:PA T tk A)(F:KS A aj)(hm:60<=m):bL fns ini gl 5000 (m+1) 71 [.str ([40]++T++[41]),.bool false] [D] = .ok aj [D]:=by
 have S:=(N.W7 [41]).trans ((N.star [im] [41] (.rp _)).trans (AR _));have nm:=N.name 0 [] 1 [cQ] (.rp _);refine sV (n:=47) (b:=false) hD (by have:=N.len;simp;omega) (by simpa using S) ?_ ?_ (by omega) (by omega) (WS (n:=0) (N.start _) F.W8 (ct F.pA (by decide)) F.hU nm) F.cU
 ·show az 59 (im::(tk++[cQ]))=true
  (refine .trans (ax ..)<|?_;rw[bc N.pl (by decide)]);rfl
 ·simp
end
noncomputable def sW:List Sx:=BR.drop 2
theorem DX:BR = .dn 1 (.dict [[114,111,119],[97,116]] [.jH (.loc 0) .none (.int 50),.int 0])::.iM [2,3] (.call 70 [.loc 1])::sW:=rfl
noncomputable def A1:Cd:=.cmp .ne (.call 71 [.loc 2,.bool true]) (.loc 3)
noncomputable def A2:Cd:=.cmp .ne (.call 71 [.call 62 [.loc 3],.bool true]) (.loc 3)
noncomputable def MB:Ex:=.tup [.str [98,105,110],.str [43],.loc 3,.tup [.str [105,110,116],.int 1]]
noncomputable def A3:Cd:=.cmp .ne (.call 71 [.bin .add (.loc 2) (.str [32,43,32,49]),.bool false]) MB
noncomputable def Bx:Ex:=.call 71 [.bin .add (.bin .add (.str [40]) (.loc 2)) (.str [41]),.bool false]
noncomputable def Hb:Ex:=.ite (.cmp .eq (.sub (.loc 3) (.int 0)) (.str [113,117,97,108])) (.loc 3) (.tup [.str [112,97,114,101,110],.loc 3])
theorem nV:sW=[.ite A1 [.ag] [],.ite (.cmp .is (.loc 3) .none) [.ret (.bool true)] [],.ite (.or_ [A2,A3]) [.ag] [],.ret (.cmp .eq Bx Hb)]:=rfl
theorem KT(h:plain aw v=true):dz .ne v v=some false:=by
 show(eqv v v).map not=_;rw[eqv_refl h];rfl
section
variable{m:Nat}{D:Cell}{T T':List Nat}{tk wy:List AV}{A aj x0 x1:AV}
theorem By(h:ev W J e c = .ok v c')(h2:ev W J f c' = .ok v c'')(hv:aH 0 v=true)(hp:plain aw v=true):eS W J (.cmp .ne e f) c = .ok false c'':=by
 (refine .trans (fS ..)<|.trans (ob h ..)<|.trans (ob h2 ..)<|?_;rw[cn hv,KT hp]);rfl
theorem yk(hD:ai 0 D=true)(N:PA T tk A)(N':PA T' wy A)(F:KS A aj)(hS:bL fns ini gl 5000 (m+1) 62 [A] [D] = .ok (.str T') [D])(hm:60<=m)(hA:∃l,A = .tup l)
  (hU:ev (wM (m+1)) [some x0,some x1,some (.str T),some A] Hb [D] = .ok aj [D]) :
  dR (wM (m+1)) 5000 sW [some x0,some x1,some (.str T),some A] [D] = .ok (.rt (.bool true)) [D]:=by
 generalize bB:[some x0,some x1,some (.str T),some A]=J at hU⊢;have l2:ev (wM (m+1)) J (.loc 2) [D] = .ok (.str T) [D]:=by(refine .trans (cM ..)<|?_;rw[<-bB]);rfl
 have l3:ev (wM (m+1)) J (.loc 3) [D] = .ok A [D]:=by(refine .trans (cM ..)<|?_;rw[<-bB]);rfl
 have b0:∀b,ev (wM (m+1)) J (.bool b) [D] = .ok (.bool b) [D]:=fun b=>by exact(Hu ..)
 have s0:∀l,ev (wM (m+1)) J (.str l) [D] = .ok (.str l) [D]:=fun l=>by exact(w5 ..)
 have pA:plain aw A=true:=ct F.pA (by decide)
 have pU:plain aw aj=true:=ct F.pU (by decide)
 have two:∀(e:Ex)(v:AV)(b:Bool),ev (wM (m+1)) J e [D] = .ok v [D]->eV (wM (m+1)) J [e,.bool b] [D] = .ok [v,.bool b] [D]:=fun e v b h=>by
  (refine .trans (bY ..)<|.trans (ob h ..)<|.trans (dc (bY ..))<|.trans (dc (ob (b0 b) ..))<|?_;rw[cI]);rfl
 have add:∀(e f:Ex)(l r:List Nat),ev (wM (m+1)) J e [D] = .ok (.str l) [D]->ev (wM (m+1)) J f [D] = .ok (.str r) [D]->l.length+r.length<=1000->ev (wM (m+1)) J (.bin .add e f) [D] = .ok (.str (l++r)) [D]:=fun e f l r h1 h2 h3=>by
  refine .trans (n9 ..)<|.trans (ob h1 ..)<|.trans (ob h2 ..)<|?_
  show bp [D] (if l.length+r.length<=aJ then some (AV.str (l++r)) else none)=_;rw[aO (by rw[bR];omega)];rfl
 have t1:eS (wM (m+1)) J A1 [D] = .ok false [D]:=by
  refine By (v:=A) (c':=[D]) ?_ l3 F.cA pA;refine .trans (fL ..)<|.trans (ob (two _ _ _ l2) ..)<|?_
  exact uT hD N F.hA F.cA hm
 have t2:eS (wM (m+1)) J (.cmp .is (.loc 3) .none) [D] = .ok false [D]:=by
  have n0:ev (wM (m+1)) J .none [D] = .ok .none [D]:=by exact(s8 ..)
  obtain⟨l,rfl⟩:=hA;refine .trans (fS ..)<|.trans (ob l3 ..)<|.trans (ob n0 ..)<|?_;rfl
 have t3:eS (wM (m+1)) J A2 [D] = .ok false [D]:=by
  refine By (v:=A) (c':=[D]) ?_ l3 F.cA pA;have e1:ev (wM (m+1)) J (.call 62 [.loc 3]) [D] = .ok (.str T') [D]:=by
   have:eV (wM (m+1)) J [.loc 3] [D] = .ok [A] [D]:=by refine .trans (bY ..)<|.trans (ob l3 ..)<|.trans (dc (cI ..))<|?_;rfl
   refine .trans (fL ..)<|.trans (ob this ..)<|?_;exact hS
  refine .trans (fL ..)<|.trans (ob (two _ _ _ e1) ..)<|?_
  exact uT hD N' F.hA F.cA hm
 have cP:aH 0 (d7 A)=true:=by unfold d7;(refine .trans (nb ..)<|.trans (bH ..)<|?_;rw[bH,bH,bH,cu,F.cA]);rfl
 have pP:plain aw (d7 A)=true:=by
  show plain 60 (d7 A)=true;unfold d7
  (refine .trans (gN ..)<|.trans (ax ..)<|?_;rw[ax,ax,ax,dU,ct F.pA (show 50<=59 by decide)]);rfl
 have t4:eS (wM (m+1)) J A3 [D] = .ok false [D]:=by
  refine By (v:=d7 A) (c':=[D]) (c'':=[D]) ?_ ?_ cP pP
  ·refine .trans (fL ..)<|.trans (ob (two _ _ _ (add _ _ _ _ l2 (s0 _) (by have:=N.len;simp;omega))) ..)<|?_
   exact DV hD N F.hP F.cA hm
  ·have i1:ev (wM (m+1)) J (.tup [.str [105,110,116],.int 1]) [D] = .ok (.tup [.str [105,110,116],.int 1]) [D]:=by kernel_rfl
   have es:eV (wM (m+1)) J [.str [98,105,110],.str [43],.loc 3,.tup [.str [105,110,116],.int 1]] [D] = .ok [.str [98,105,110],.str [43],A,.tup [.str [105,110,116],.int 1]] [D]:=by
    (refine .trans (bY ..)<|.trans (ob (s0 _) ..)<|.trans (dc (bY ..))<|.trans (dc (ob (s0 _) ..))<|?_;rw[bY,ob l3,bY,ob i1,cI]);rfl
   have fs:s7 [.str [98,105,110],.str [43],A,.tup [.str [105,110,116],.int 1]] [D] = .ok [.str [98,105,110],.str [43],A,.tup [.str [105,110,116],.int 1]] [D]:=by
    (refine .trans (jl ..)<|.trans (ob (cJ (a9 _ _)) ..)<|.trans (dc (jl ..))<|.trans (dc (ob (cJ (a9 _ _)) ..))<|?_;rw[jl,ob (cJ F.cA),jl,ob (cJ (by decide)),A9]);rfl
   unfold MB;refine .trans (w9 ..)<|.trans (ob es ..)<|.trans (ob fs ..)<|?_;rfl
 have t5:eS (wM (m+1)) J (.or_ [A2,A3]) [D] = .ok false [D]:=by
  exact .trans (Ae ..)<|.trans (n7 ..)<|.trans (ob t3 ..)<|.trans (aV (by decide) ..)<|.trans (n7 ..)<|.trans (ob t4 ..)<|.trans (aV (by decide) ..)<|(u4 ..)
 have e1:ev (wM (m+1)) J Bx [D] = .ok aj [D]:=by
  unfold Bx;refine .trans (fL ..)<|.trans (ob (two _ _ _ (add _ _ _ _ (add _ _ _ _ (s0 _) l2 (by have:=N.len;simp;omega)) (s0 _) (by have:=N.len;simp;omega))) ..)<|?_
  exact DW hD N F hm
 have e2:ev (wM (m+1)) J (.cmp .eq Bx Hb) [D] = .ok (.bool true) [D]:=by
  (refine .trans (w7 ..)<|.trans (ob e1 ..)<|.trans (ob hU ..)<|?_;rw[cn F.cU])
  show bp [D] ((eqv aj aj).map AV.bool)=_;rw[eqv_refl pU];rfl
 rw[nV,bM ((ce t1).trans (by rw[aV (by decide),iO])),bM ((ce t2).trans (by rw[aV (by decide),iO])),
  bM ((ce t5).trans (by rw[aV (by decide),iO])),bw,mF,ob e2,ob (cJ (cj _ _))]
theorem Bz(hD:ai 0 D=true)(hx:txt.length<=900)(S:bX [] txt toks [])(hp:az 59 toks=true)(aK:toks≠[]){n:Nat}(hm:n+10<=m)(zE:40<=m)
  (h:cP n 27 [.ab] ⟨toks,0,[]⟩= .exc false):∃c',dR (wM (m+1)) 5000 sW [some x0,some x1,some (.str txt),some .none] [D] = .ok (.rt (.bool true)) c':=by
 refine d9 (DR hD hx S hp aK hm zE h) fun c' h1 U U=>?_;refine⟨c',?_⟩;generalize bB:[some x0,some x1,some (.str txt),some .none]=J;have l2:∀c,ev (wM (m+1)) J (.loc 2) c = .ok (.str txt) c:=fun c=>by(refine .trans (cM ..)<|?_;rw[<-bB]);rfl
 have l3:∀c,ev (wM (m+1)) J (.loc 3) c = .ok .none c:=fun c=>by(refine .trans (cM ..)<|?_;rw[<-bB]);rfl
 have b0:∀b c,ev (wM (m+1)) J (.bool b) c = .ok (.bool b) c:=fun b c=>by exact(Hu ..)
 have e0:eV (wM (m+1)) J [.loc 2,.bool true] [D] = .ok [.str txt,.bool true] [D]:=by(refine .trans (bY ..)<|.trans (ob (l2 _) ..)<|.trans (dc (bY ..))<|.trans (dc (ob (b0 _ _) ..))<|?_;rw[cI]);rfl
 have t1:eS (wM (m+1)) J A1 [D] = .ok false c':=by
  refine By (v:=.none) (c':=c') ?_ (l3 _) (bm _) (by decide)
  refine .trans (fL ..)<|.trans (ob e0 ..)<|?_;exact h1
 have t2:eS (wM (m+1)) J (.cmp .is (.loc 3) .none) c' = .ok true c':=by
  have n0:∀c,ev (wM (m+1)) J .none c = .ok .none c:=fun c=>by exact(s8 ..)
  refine .trans (fS ..)<|.trans (ob (l3 _) ..)<|.trans (ob (n0 _) ..)<|?_;rfl
 have r:dR (wM (m+1)) 5000 [.ret (.bool true)] J c' = .ok (.rt (.bool true)) c':=by
  exact .trans (bw ..)<|.trans (mF ..)<|.trans (ob (b0 _ _) ..)<|(ob (cJ (cj _ _)) ..)
 rw[nV,bM ((ce t1).trans (by rw[aV (by decide),iO])),kq,ce t2,aO rfl,r];rfl
end
theorem Hc(W:dP)(D:Cell)(x0 x1 x2:AV)(t:bO):ev W [some x0,some x1,some x2,some t.av] Hb [D] = .ok (.tup [.str [112,97,114,101,110],t.av]) [D]:=by
 have h:=yQ t;generalize t.av=A at h⊢;apply Xe A h;intros;kernel_rfl
theorem DY(W:dP)(D:Cell)(x0 x1 x2 a b:AV):ev W [some x0,some x1,some x2,some (.tup [.str [113,117,97,108],a,b])] Hb [D] = .ok (.tup [.str [113,117,97,108],a,b]) [D]:=by kernel_rfl
theorem KU{k m:Nat}(h:End T A)(hm:210<=m):∃c',dR (wM (m+1)) 5000 sW [some x0,some x1,some (.str T),some A] [bF row k] = .ok (.rt (.bool true)) c':=by
 have hD:=kh row k;have hc:cl [bF row k]:=by unfold cl;(refine .trans (List.all_cons ..)<|?_;rw[List.all_nil,hD]);rfl
 cases h with
 |good t io hs=>
  exact⟨_,yk hD (Bw true t io hs) (Bw false t io hs) (Ha t hs) (kf t io (by omega) (m+1) _ (by omega) hc) (by omega) (lr t) (Hc _ _ _ _ _ t)⟩
 |qual t p io hs hp=>
  exact⟨_,yk hD (yj true t io hs p hp) (yj false t io hs p hp) (DU t p hs) (wE t io (by omega) p hp (m+1) _ (by omega) hc) (by omega) ⟨_,rfl⟩ (DY _ _ _ _ _ _ _)⟩
 |bad t b io hs=>
  have S:=(gY true [] t b.text (by cases b<;>constructor)).trans (HE _ (by rw[List.nil_append];exact gR true t) b)
  rw[List.nil_append]at S;refine Bz (n:=39) hD ?_ S (bc (g5 true t) (H9 b)) (by simp[gR true t]) (by omega) (by omega) (Bh (n:=0) (Gk 4 [] true t io (by omega) b))
  have h1:=text_len true t;have h2:b.text.length<=2:=by cases b<;>decide
  rw[cB];omega
 |named t a b io hs ha hb=>
  have S:=gY true [] (.tick t a) (b.text true) (by have:=qI (v:=true) b [];rwa [List.append_nil]at this)
  have S2:=S.trans (by have:=nO (v:=true) (post:=[]) ([]++(bO.tick t a).toks true) b .nil;rwa [List.append_nil]at this)
  rw[List.nil_append]at S2;have nm:=AL 4 [] true t io (by omega) a ha b hb []
  rw[List.append_nil]at nm;refine Bz (n:=39) hD ?_ S2 (bc (g5 true (.tick t a)) (wN b)) (by simp[gR true (.tick t a)]) (by omega) (by omega) (Bh (n:=0) nm)
  have h1:=text_len true (.tick t a);have h2:=wD true b;have h3:(bO.tick t a).size=t.size+1:=rfl;rw[cB];omega
theorem TE(ns:List Int)(h:ns.length<=63):∃row:List Int,row.length<=63/\kj [] (.lst (ns.map .int)) .none (.int 50)=some (.lst (row.map .int)):=by
 refine⟨ns.take (fC (ns.map AV.int).length 50),?_,?_⟩
 ·rw[List.length_take];omega
 ·show(if(ns.map AV.int).length<=aJ then some (AV.lst (cut (ns.map .int) none (some 50))) else none)=_;refine .trans (aO (by rw[List.length_map,bR];omega) ..)<|?_
  show some (AV.lst (((ns.map AV.int).drop 0).take (fC (ns.map AV.int).length 50-0)))=_;rw[List.drop_zero,Nat.sub_zero,List.map_take]
theorem KW(m:Nat)(hm:211<=m)(ns:List Int)(h:ns.length<=63):bL fns ini gl 5000 (m+1) 72 [.lst (ns.map .int)] [] = .ok (.bool true) []:=by
 refine au (TE ns h) fun row hr W9=>?_;obtain⟨m,rfl⟩:∃j,m=j+1:=⟨m-1,by omega⟩
 refine ly (grown (row:=row) (m:=m) (by omega) (by omega)) fun T A k hE hg=>?_
 obtain⟨c',hl⟩:=KU (row:=row) (k:=k) (m:=m) (x0:=.lst (ns.map .int)) (x1:=.ref 0) hE (by omega)
 have s1:ex (wM (m+1)) 5000 (.dn 1 (.dict [[114,111,119],[97,116]] [.jH (.loc 0) .none (.int 50),.int 0])) [some (.lst (ns.map .int)),none,none,none] [] = .ok (.nx [some (.lst (ns.map .int)),some (.ref 0),none,none]) [bF row 0]:=by
  generalize bB:[some (AV.lst (ns.map .int)),none,none,none]=J;have l0:ev (wM (m+1)) J (.loc 0) [] = .ok (.lst (ns.map .int)) []:=by(refine .trans (cM ..)<|?_;rw[<-bB]);rfl
  have n0:ev (wM (m+1)) J .none [] = .ok .none []:=by exact(s8 ..)
  have i0:∀i,ev (wM (m+1)) J (.int i) [] = .ok (.int i) []:=fun i=>by exact(mB ..)
  have e1:ev (wM (m+1)) J (.jH (.loc 0) .none (.int 50)) [] = .ok (.lst (row.map .int)) []:=by
   (refine .trans (w8 ..)<|.trans (ob l0 ..)<|.trans (ob n0 ..)<|.trans (ob (i0 _) ..)<|?_;rw[W9]);rfl
  have e2:(eV (wM (m+1)) J [.jH (.loc 0) .none (.int 50),.int 0] []).calm = .ok [.lst (row.map .int),.int 0] []:=by
   have:eV (wM (m+1)) J [.jH (.loc 0) .none (.int 50),.int 0] [] = .ok [.lst (row.map .int),.int 0] []:=by
    (refine .trans (bY ..)<|.trans (ob e1 ..)<|.trans (dc (bY ..))<|.trans (dc (ob (i0 _) ..))<|?_;rw[cI]);rfl
   rw[this];rfl
  (refine .trans (QC ..)<|.trans (ob e2 ..)<|?_;rw[<-bB]);rfl
 have s2:ex (wM (m+1)) 5000 (.iM [2,3] (.call 70 [.loc 1])) [some (.lst (ns.map .int)),some (.ref 0),none,none] [bF row 0] = .ok (.nx [some (.lst (ns.map .int)),some (.ref 0),some (.str T),some A]) [bF row k]:=by
  have l1:ev (wM (m+1)) [some (.lst (ns.map .int)),some (.ref 0),none,none] (.loc 1) [bF row 0] = .ok (.ref 0) [bF row 0]:=by refine .trans (cM ..)<|?_;rfl
  have e1:eV (wM (m+1)) [some (.lst (ns.map .int)),some (.ref 0),none,none] [.loc 1] [bF row 0] = .ok [.ref 0] [bF row 0]:=by refine .trans (bY ..)<|.trans (ob l1 ..)<|.trans (dc (cI ..))<|?_;rfl
  have e2:ev (wM (m+1)) [some (.lst (ns.map .int)),some (.ref 0),none,none] (.call 70 [.loc 1]) [bF row 0] = .ok (.tup [.str T,A]) [bF row k]:=by refine .trans (fL ..)<|.trans (ob e1 ..)<|?_;exact hg
  refine .trans (yv ..)<|.trans (ob e2 ..)<|?_;rfl
 have E:dR (wM (m+1)) 5000 BR [some (.lst (ns.map .int)),none,none,none] [] = .ok (.rt (.bool true)) c':=by
  rw[DX,bM s1,bM s2];exact hl
 refine .trans (uJ Na ..)<|.trans (qK (ds:=[]) rfl rfl E ..)<|?_
 show back 0 (.bool true) c' (fun c=>aD.ok (AV.bool true) c)=_;unfold back;rw[cj,List.take_zero];rfl
end Internal
end
section
namespace Internal
theorem v0:Pure:=fun ns h=>⟨[],KW 219 (by decide) ns h⟩
end Internal
theorem PySem.Challenge.cw_pp0066_01_holds : PySem.Challenge.rw_pp0066_01.Holds :=
 Internal.join Internal.v0
end
