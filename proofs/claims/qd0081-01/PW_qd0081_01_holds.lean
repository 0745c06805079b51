import PyProof.Rows.All
import Wide.All
import OpenK.AllK
import PyProof.ExcBaseAll.Exception
import PyProof.InstStoreFacts
import PyProof.ExcInit
import Lean
import PySem.Challenge.RW_qd0081_01
set_option Elab.async false
set_option linter.all false
set_option maxRecDepth 100000
set_option maxHeartbeats 0
set_option compiler.extract_closed false
set_option bootstrap.genMatcherCode false
set_option genSizeOf false
set_option genInjectivity false
set_option genCtorIdx false
namespace ZH
noncomputable def q0:="kindkeep.values"
noncomputable def q1:="kindkeep.runcore"
noncomputable def q2:="kindkeep.runlib"
noncomputable def q3:="__module__"
noncomputable def q4:="__firstlineno__"
noncomputable def q5:="__static_attributes__"
noncomputable def q6:="law_qd0081_01"
noncomputable def q7:="object"
noncomputable def q8:="kindkeep.diags"
noncomputable def q9:="__weakref__"
noncomputable def q10:="__init__"
noncomputable def q11:="type"
noncomputable def q12:="__doc__"
noncomputable def q13:="__qualname__"
noncomputable def q14:="__dict__"
noncomputable def q15:="object.__new__"
noncomputable def q16:="ExceptionGroup.__weakref__"
noncomputable def q17:="type.__subclasses__.Exception.0"
noncomputable def q18:="type.__subclasses__.Exception.n"
noncomputable def q19:="Exception"
noncomputable def q20:="call"
noncomputable def q21:="type.__subclasses__.Exception.1"
noncomputable def q22:="function.__dict__"
noncomputable def q23:="function.__dict__#set"
noncomputable def q24:="KeepError"
noncomputable def q25:="LeftOut"
noncomputable def q26:="RunBound"
noncomputable def q27:="NumberOut"
noncomputable def q28:="HostFault"
noncomputable def q29:="NativeGroup"
noncomputable def q30:="TextLib"
noncomputable def q31:="NumberLib"
noncomputable def q32:="GlobalLib"
noncomputable def q33:="ScriptThrow"
noncomputable def q34:="Watcher"
noncomputable def q35:="RuncoreBinder"
noncomputable def q36:="Hoister"
noncomputable def q37:="Machine"
noncomputable def q38:="BaseException"
noncomputable def q39:="Exception.__new__"
noncomputable def q40:="/claim/cut.py"
noncomputable def q41:="0123456789abcdefghijklmnopqrstuvwxyz"
section
open PySem PySem.W PyProof.Rows
noncomputable abbrev pw:=PySem.Challenge.pw_qd0081_01
noncomputable def z(s:String):Str:=Str.ofString s
noncomputable def de(P:Params)(k:Str)(t:Nat)(v:Value):DictEntry:=⟨PyData.keyHash P k,.str k t,v⟩
noncomputable def NT:List Stmt->Nat->Stmt
|[],_=>default
|x::_,0=>x
|_::l,n+1=>NT l n
noncomputable def dr:Nat->List Stmt->List Stmt
|0,l=>l
|_+1,[]=>[]
|n+1,_::l=>dr n l
noncomputable def tk{α}:Nat->List α->List α
|0,_=>[]
|_+1,[]=>[]
|n+1,x::l=>x::tk n l
noncomputable def bd:List Stmt:=behindTheImports pw
noncomputable def st(i:Nat):Stmt:=NT bd i
noncomputable def me(i j:Nat):Stmt:=match st i with
|.ClassDef _ _ _ b _ _ _ _ _ _ _=>NT b j
|_=>default
noncomputable def nm:Stmt->Str
|.FunctionDef n _ _ _ _ _ _ _ _ _=>n
|_=>default
noncomputable def ar:Stmt->Arguments
|.FunctionDef _ a _ _ _ _ _ _ _ _=>a
|_=>default
noncomputable def bo:Stmt->List Stmt
|.FunctionDef _ _ b _ _ _ _ _ _ _=>b
|_=>default
noncomputable def sc:Stmt->Scope
|.FunctionDef _ _ _ _ _ _ s _ _ _=>s
|_=>default
noncomputable def lo:List (Str×NameKind)->List Str
|[]=>[]
|(a,.local)::l=>a::lo l
|_::l=>lo l
noncomputable def ps:List Str->Nat->List Value
|[],_=>[]
|a::l,t=>.str a t::ps l (t+1)
noncomputable def fd(q:Str)(s:Stmt)(g:Nat)(dv pm cd:Value):Obj:=⟨if g=0 then .none else .type "function",none,.func {name:=nm s,qualname:=q,params:=ar s,body:=.stmts (bo s),scope:=sc s,globals:=g,closure:=[],defaults:=dv,kwdefaults:=.none,pyModule:=pm,code:=cd},#[]⟩
noncomputable def cd(t:Nat)(q:Str)(s:Stmt)(n u:Nat)(a:Nat)(x y w:Value):Obj:=⟨.type "code",none,.fields #[.str (nm s) t,.str q (t+1),.str (z q40) (t+2),.int s.pos.line 0,.int n 0,.int 0 0,.int 0 0,.int 3 0,.ref a,.bool true,.int 181 0,.ref (a+1),.none,x,y,w,.int u 0,.int s.pos.line 0,.str (z q40) (u+1)],#[]⟩
noncomputable def tu(l:List Value):Obj:=⟨.type "tuple",none,.seq ⟨l⟩ 0,#[]⟩
noncomputable def fi(l:List Value):Obj:=⟨.none,none,.fields ⟨l⟩,#[]⟩
noncomputable def fo(a t mt:Nat)(m q:Str)(dv:Value)(s:Stmt):Nat->Obj
|0=>tu []
|1=>fi []
|2=>tu (ps (lo (sc s).names) (t+3))
|3=>tu []
|4=>fd q s 0 .none .none .none
|5=>cd t q s (ar s).args.length (t+3+(lo (sc s).names).length) a (.ref (a+2)) (.ref (a+3)) (.ref (a+4))
|_=>fd q s 3 dv (.str m mt) (.ref (a+5))
noncomputable def fp(a t mt:Nat)(m q:Str)(dv:Value)(f:List Value)(s:Stmt):Nat->Obj
|0=>tu []
|1=>fi f
|2=>fd q s 0 .none .none .none
|3=>cd t q s (ar s).args.length (t+3) a .none .none (.ref (a+2))
|_=>fd q s 3 dv (.str m mt) (.ref (a+3))
noncomputable def x1(o:Obj)(l:List Obj):List Obj:=o::l
noncomputable def x7(f:Nat->Obj)(l:List Obj):List Obj:=f 0::f 1::f 2::f 3::f 4::f 5::f 6::l
noncomputable def x5(f:Nat->Obj)(l:List Obj):List Obj:=f 0::f 1::f 2::f 3::f 4::l
noncomputable def od:Nat->List Obj->List Obj
|0,_=>[]
|_+1,[]=>[]
|_+1,[_]=>[]
|n+1,_::y::l=>y::od n l
noncomputable def ev:Nat->List Obj->List Obj
|0,_=>[]
|_+1,[]=>[]
|_+1,[x]=>[x]
|n+1,x::_::l=>x::ev n l
noncomputable def bt:Nat->Nat->List Obj->BT
|0,_,_=>.nil
|_+1,_,[]=>.nil
|d+1,n,x::l=>.node x (bt d (n/2) (ev n l)) (bt d (n/2) (od n l))
noncomputable def en:Env:={scope:=pw.main.scope,locals:=mainNs,globals:=mainNs,cells:=[],code:=.ref 13,frame:=some 14}
noncomputable def cE:Code:=.body bd en
noncomputable def zs(s:String)(t:Nat):Value:=.str (z s) t
noncomputable def dz(P:Params)(s:String)(t:Nat)(v:Value):DictEntry:=de P (z s) t v
noncomputable def d9(P:Params)(s:String)(t a:Nat):DictEntry:=de P (z s) t (.ref a)
noncomputable def ds(P:Params)(s:String)(t:Nat)(x:String)(a:Nat):DictEntry:=de P (z s) t (.str (z x) a)
noncomputable def di(P:Params)(s:String)(t:Nat)(x:Int)(a:Nat):DictEntry:=de P (z s) t (.int x a)
noncomputable def kB:Obj:=⟨.type "builtin_function_or_method",none,.fields #[.builtin "type.__prepare__",.type q11],#[]⟩
noncomputable def kI(a:Nat):Obj:=⟨.type "builtin_function_or_method",none,.fields #[.builtin "object.__init_subclass__",.ref a],#[]⟩
noncomputable def kS(a:Nat):Obj:=⟨.type "super",none,.fields #[.ref a,.ref a,.ref a],#[]⟩
noncomputable def kC(s:String)(t l a:Nat):Obj:=⟨.type "code",none,.fields #[zs s t,zs s (t+1),zs q40 (t+2),.int l 0,.int 0 0,.int 0 0,.int 0 0,.int 0 0,.ref a,.bool false,.int 181 0,.ref (a+1),.none,.none,.none,.none,.int (t+3) 0,.int l 0,zs q40 (t+4)],#[]⟩
noncomputable def kF(a b:Nat)(s:String)(t:Nat):Obj:=⟨.type "frame",none,.plain,#[some (.ref a),some (.ref 3),some (.ref b),none,some (zs s t),none,some (.ref 0)]⟩
noncomputable def kT(l:List Value):Obj:=⟨.type "tuple",none,.seq ⟨l⟩ 0,#[]⟩
noncomputable def kD(l:List DictEntry)(n:Nat):Obj:=⟨.type "dict",none,.dict ⟨l⟩ n,#[]⟩
noncomputable def kG(s:String)(t a:Nat)(x:String)(y:Value):Obj:=⟨.type "getset_descriptor",none,.fields #[zs s t,.ref a,.builtin x,y],#[]⟩
noncomputable def y7(a t mt:Nat)(m q:String)(i:Nat)(l:List Obj):List Obj:=x7 (fo a t mt (z m) (z q) .none (st i)) l
noncomputable def y5(a t mt:Nat)(m q:String)(f:List Value)(i:Nat)(l:List Obj):List Obj:=x5 (fp a t mt (z m) (z q) .none f (st i)) l
noncomputable def ge(P:Params):List DictEntry:=[dz P q12 166 .none,
dz P "__package__" 167 .none,
dz P "__loader__" 168 (.builtin "__main__.__loader__#opaque"),
dz P "__spec__" 169 .none,
d9 P "__annotations__" 170 6,
d9 P "__builtins__" 171 4,
ds P "__file__" 173 q40 172,
dz P "__cached__" 174 .none,
d9 P "_wall" 193 21,
d9 P q24 226 39,
d9 P q25 253 60,
d9 P q26 280 80,
d9 P q27 307 100,
d9 P q28 334 120,
di P "V_UNDEF" 338 0 337,
di P "V_NULL" 340 1 339,
di P "V_BOOL" 342 2 341,
di P "V_NUM" 344 3 343,
di P "V_NAN" 346 4 345,
di P "V_STR" 348 5 347,
di P "V_OBJ" 350 6 349,
di P "O_PLAIN" 352 0 351,
di P "O_ARRAY" 354 1 353,
di P "O_FUNC" 356 2 355,
di P "O_ERROR" 358 3 357,
di P "P_OBJECT" 360 0 359,
di P "P_ARRAY" 362 1 361,
di P "P_FUNC" 364 2 363,
di P "P_ERROR" 366 3 365,
di P "P_STRING" 368 4 367,
di P "P_NUMBER" 370 5 369,
di P "N_PRINT" 372 101 371,
di P "N_STRING" 374 102 373,
di P "N_NUMBER" 376 103 375,
di P "N_ERROR" 378 104 377,
di P "N_CHAR_AT" 380 201 379,
di P "N_TEXT_INDEX_OF" 382 202 381,
di P "N_TEXT_INCLUDES" 384 203 383,
di P "N_TEXT_SLICE" 386 204 385,
di P "N_UPPER" 388 205 387,
di P "N_LOWER" 390 206 389,
di P "N_TEXT_CONCAT" 392 207 391,
di P "N_NUMBER_TEXT" 394 301 393,
di P "MOST_NUMBER" 396 9007199254740991 395,
di P "MOST_ITEMS" 398 4096 397,
di P "MOST_TEXT" 400 1048576 399,
di P "MOST_NESTED" 402 15 401,
di P "MOST_PLACE" 404 4294967294 403,
ds P "BLANKS" 406 " \t\n\r\u000b\x0c                 　﻿" 405,
ds P "DIGITS" 408 "0123456789abcdef" 407,
d9 P "PREFIX_BASES" 418 123,
d9 P "Thing" 459 140,
d9 P q29 490 161,
d9 P "Heap" 519 182,
d9 P "Env" 549 203,
d9 P "undef_value" 555 214,
d9 P "bool_value" 562 221,
d9 P "num_value" 569 228,
d9 P "new_thing" 579 235,
d9 P "run_of_digits" 587 242,
d9 P "values_place_of" 594 249,
d9 P "text_prop" 603 256,
d9 P "item_prop" 612 263,
d9 P "has_name" 620 270,
d9 P "thing_prop" 630 277,
d9 P "get_prop" 644 284,
d9 P "set_length" 652 291,
d9 P "set_item" 661 298,
d9 P "set_own" 673 305,
d9 P "hide_name" 683 312,
d9 P "is_callable" 691 319,
d9 P "error_text" 703 326,
d9 P "open_text" 711 333,
d9 P "items_text" 725 340,
d9 P "object_text" 736 347,
d9 P "to_text_in" 746 354,
d9 P "to_text" 754 361,
d9 P "trimmed" 763 368,
d9 P "digits_value" 774 375,
d9 P "base_of_prefix" 781 382,
d9 P "is_other_number" 792 389,
d9 P "text_number" 803 396,
d9 P "to_number" 811 403,
d9 P "prim_value" 819 410,
d9 P "text_bound" 826 417,
d9 P "error_thing" 836 424,
di P "DEED_CALL" 840 1 839,
di P "CELL_CONST" 842 2 841,
ds P "DIGIT_SIGNS" 844 q41 843,
d9 P "TEXT_LIB" 852 432,
d9 P "NUMBER_LIB" 854 434,
d9 P "GLOBAL_LIB" 858 438,
d9 P "call_native" 869 445,
d9 P "arg_at" 877 452,
d9 P "runlib_whole_of" 886 459,
d9 P "runlib_place_in" 894 466,
d9 P "front_place" 902 473,
d9 P "text_of_this" 910 480,
d9 P "runlib_joined" 920 487,
d9 P "text_char_at" 930 494,
d9 P "text_index_of" 941 501,
d9 P "text_includes" 950 508,
d9 P "text_slice" 961 515,
d9 P "text_concat" 972 522,
d9 P q30 1000 539,
d9 P "digits_in" 1010 548,
d9 P "number_text" 1020 555,
d9 P q31 1047 572,
d9 P "lib_print" 1055 581,
d9 P "lib_string" 1063 588,
d9 P "lib_number" 1071 595,
d9 P "is_error_child" 1081 602,
d9 P "is_made_error" 1090 609,
d9 P "lib_error" 1101 616,
d9 P q32 1128 633,
d9 P "native_value" 1137 642,
d9 P "put_natives" 1148 649,
d9 P "put_proto" 1157 656,
d9 P "install_protos" 1165 663,
d9 P "install_texts" 1172 670,
d9 P "install_numbers" 1179 677,
d9 P "put_global" 1188 684,
d9 P "install_error" 1197 691,
d9 P "install_globals" 1206 698,
di P "K_NAME" 1210 8 1209,
di P "K_CALL" 1212 18 1211,
di P "K_NONNULL" 1214 32 1213,
di P "K_PAREN" 1216 33 1215,
di P "K_OBJPAT" 1218 34 1217,
di P "K_ARRPAT" 1220 35 1219,
di P "K_BIND" 1222 36 1221,
di P "K_CLASS" 1224 61 1223,
di P "F_ARROW" 1226 4 1225,
di P "F_EXPRBODY" 1228 8 1227,
di P "F_REST" 1230 8192 1229,
d9 P "has" 1238 705,
d9 P "names_in_pattern" 1249 712,
di P "W_CALL" 1253 1 1252,
di P "W_NEW" 1255 6 1254,
di P "C_RETURN" 1257 1 1256,
di P "CELL_DEAD" 1259 0 1258,
di P "CELL_LIVE" 1261 1 1260,
di P "MOST_DEEP" 1263 44 1262,
d9 P q33 1292 729,
d9 P q34 1322 749,
d9 P q35 1363 777,
d9 P "Maker" 1404 805,
d9 P q36 1433 826,
d9 P q37 1536 889,
d9 P "count_step" 1543 900,
d9 P "runcore_value_of" 1553 907,
d9 P "run_node" 1563 914,
d9 P "tell_fault" 1573 921,
d9 P "call_value" 1585 928,
d9 P "call_closure" 1596 935,
d9 P "body_value" 1606 942,
d9 P "runcore_is_this_param" 1614 949,
d9 P "bind_params" 1620 954,
d9 P "param_value" 1632 961,
d9 P "runcore_bind_pattern" 1641 968,
d9 P "_law_places" 1675 983,
d9 P "_law_readings" 1681 990,
d9 P "_law_words" 1687 997,
d9 P "_law_heads" 1693 1004,
ds P "_law_signs" 1695 q41 1694,
d9 P "_law_pull" 1702 1011,
d9 P "_law_word" 1713 1018,
d9 P "_law_whole" 1723 1025,
d9 P "_law_value" 1736 1032,
d9 P "_law_laid" 1747 1039,
d9 P "_law_text" 1753 1044,
d9 P "_law_all" 1759 1049,
d9 P "_law_other" 1769 1056,
d9 P "_law_read" 1775 1061,
d9 P "_law_counted" 1784 1068,
d9 P "_law_number" 1794 1075,
d9 P "_law_reached" 1803 1082,
d9 P "_law_args" 1809 1087,
d9 P "_law_deed" 1815 1092,
d9 P "_law_thrown" 1823 1099,
d9 P "_law_under" 1832 1106,
d9 P "_law_play" 1846 1113,
d9 P "_law_letters" 1860 1120,
d9 P "_law_based" 1875 1127,
d9 P "_law_back" 1889 1134,
d9 P "_law_turn" 1904 1141,
d9 P "law" 1910 1146]
noncomputable def gl:List Nat->List Value
|a::b::r=>.int (.ofNat a) 0::.int 0 0::.ref b::gl r
|_=>[]
noncomputable def TF:List Value:=gl [1,20,5,27,10,48,15,68,20,88,25,108,68,129,82,150,86,171,91,192,96,213,98,220,100,227,104,234,108,241,112,248,118,255,125,262,132,269,134,276,146,283,160,290,167,297,176,304,193,311,197,318,199,325,209,332,213,339,227,346,241,353,256,360,258,367,266,374,278,381,280,388,299,395,316,402,327,409,329,416,333,423,345,444,350,451,352,458,357,465,361,472,365,479,369,486,376,493,381,500,385,507,387,514,393,521,398,528,417,547,429,554,438,561,444,580,447,587,451,594,455,601,465,608,468,615,479,622,491,641,495,648,498,655,501,662,505,669,508,676,511,683,513,690,520,697,541,704,543,711,568,718,572,738,576,759,583,787,590,815,594,836,636,899,642,906,655,913,666,920,669,927,681,934,691,941,700,948,703,953,710,960,721,967,729,989,731,996,733,1003,736,1010,739,1017,747,1024,756,1031,766,1038,777,1043,791,1048,793,1055,802,1060,816,1067,823,1074,828,1081,830,1086,842,1091,863,1098,869,1105,873,1112,885,1119,891,1126,904,1133,916,1140,939,1145]
noncomputable def c2(l:List DictEntry)(n:Nat):Obj:=⟨.none,none,.dict ⟨l⟩ n,#[]⟩
noncomputable def c3(P:Params)(v:Value)(n m:Nat):Obj:=⟨.type "dict",none,.dict ⟨de P (z "__name__") 165 v::tk n (ge P)⟩ m,#[]⟩
noncomputable def hS(n:Nat):Obj:=⟨.none,none,.fields ⟨tk n TF⟩,#[]⟩
noncomputable def SK(l:List Value):Obj:=⟨(.type q11),none,(.cls {name:=(z q24),bases:=[.type q19],mro:=[.ref 39,.type q19,.type q38,.type q7],ns:=38,qualname:=(z q24),hasDict:=true,slotNames:=[],subclasses:=l}),#[(some (.ref 22)),none,(some (zs q24 196)),(some (zs q24 204)),(some (.builtin q39)),(some (.bool true))]⟩
noncomputable def QB(l:List Value):Obj:=⟨(.type q11),none,(.cls {name:=(z q29),bases:=[.type q7],mro:=[.ref 161,.type q7],ns:=160,qualname:=(z q29),hasDict:=true,slotNames:=[],subclasses:=l}),#[none,none,(some (zs q29 460)),(some (zs q29 468)),(some (.builtin q15)),(some (.bool true))]⟩
noncomputable def fr(P:Params)(a b c:Obj)(l:List Obj):List Obj:=boot_o_0 P::boot_o_1 P::a::b::boot_o_4 P::boot_o_5 P::boot_o_6 P::boot_o_7 P::boot_o_8 P::boot_o_9 P::boot_o_10 P::(kT [])::c::(kC "<module>" 182 1 11)::(kF 13 3 "__main__" 164)::l
noncomputable abbrev LO:=Params->List Value->List Value->List Obj->List Obj
noncomputable def n0:LO:=fun P u v l=>y7 15 187 164 "__main__" "_wall" 0<|
x1 (kT [.type q19])<|
x1 kB<|
x1 (kD [ds P q3 203 q8 194,ds P q13 205 q24 204,di P q4 207 5 206,d9 P q10 216 36,d9 P q5 219 37] 5)<|
x1 (kT [])<|
x1 ⟨.none,none,(.fields #[.int 7 0,.int 4 0,.ref 35]),#[]⟩<|
x1 (kC q24 198 5 25)<|
x1 (kF 27 24 q8 194)<|
x1 (kT [zs "" 208])<|
x7 (fo 30 209 194 (z q8) (z "KeepError.__init__") (.ref 29) (me 2 0))<|
x1 (kT [zs "number" 217,zs "text" 218])<|
x1 (kD [ds P q3 203 q8 194,di P q4 207 5 206,d9 P q10 216 36,d9 P q5 219 37,d9 P q9 221 40,dz P q12 222 .none] 3)<|
x1 (SK u)<|
x1 (kG q9 220 39 q16 .none)<|
x1 (kS 39)<|
x1 (kI 39)<|
l
noncomputable def n1:LO:=fun P u v l=>x1 (kT [.ref 39])<|
x1 kB<|
x1 (kD [ds P q3 234 q8 194,ds P q13 236 q25 235,di P q4 238 10 237,d9 P q10 247 57,d9 P q5 250 58] 5)<|
x1 (kT [])<|
x1 ⟨.none,none,(.fields #[.int 12 0,.int 4 0,.ref 56]),#[]⟩<|
x1 (kC q25 229 10 46)<|
x1 (kF 48 45 q8 194)<|
x1 (kT [zs "" 239])<|
x7 (fo 51 240 194 (z q8) (z "LeftOut.__init__") (.ref 50) (me 3 0))<|
x1 (kT [zs "number" 248,zs "text" 249])<|
x1 (kD [ds P q3 234 q8 194,di P q4 238 10 237,d9 P q10 247 57,d9 P q5 250 58,dz P q12 251 .none] 2)<|
x1 ⟨(.type q11),none,(.cls {name:=(z q25),bases:=[.ref 39],mro:=[.ref 60,.ref 39,.type q19,.type q38,.type q7],ns:=59,qualname:=(z q25),hasDict:=true,slotNames:=[],subclasses:=[]}),#[(some (.ref 43)),none,(some (zs q25 227)),(some (zs q25 235)),(some (.builtin q39)),(some (.bool true))]⟩<|
x1 (kS 60)<|
x1 (kI 60)<|
l
noncomputable def n2:LO:=fun P u v l=>x1 (kT [.ref 39])<|
x1 kB<|
x1 (kD [ds P q3 261 q8 194,ds P q13 263 q26 262,di P q4 265 15 264,d9 P q10 274 77,d9 P q5 277 78] 5)<|
x1 (kT [])<|
x1 ⟨.none,none,(.fields #[.int 17 0,.int 4 0,.ref 76]),#[]⟩<|
x1 (kC q26 256 15 66)<|
x1 (kF 68 65 q8 194)<|
x1 (kT [zs "" 266])<|
x7 (fo 71 267 194 (z q8) (z "RunBound.__init__") (.ref 70) (me 4 0))<|
x1 (kT [zs "number" 275,zs "text" 276])<|
x1 (kD [ds P q3 261 q8 194,di P q4 265 15 264,d9 P q10 274 77,d9 P q5 277 78,dz P q12 278 .none] 2)<|
x1 ⟨(.type q11),none,(.cls {name:=(z q26),bases:=[.ref 39],mro:=[.ref 80,.ref 39,.type q19,.type q38,.type q7],ns:=79,qualname:=(z q26),hasDict:=true,slotNames:=[],subclasses:=[]}),#[(some (.ref 63)),none,(some (zs q26 254)),(some (zs q26 262)),(some (.builtin q39)),(some (.bool true))]⟩<|
x1 (kS 80)<|
x1 (kI 80)<|
l
noncomputable def n3:LO:=fun P u v l=>x1 (kT [.ref 39])<|
x1 kB<|
x1 (kD [ds P q3 288 q8 194,ds P q13 290 q27 289,di P q4 292 20 291,d9 P q10 301 97,d9 P q5 304 98] 5)<|
x1 (kT [])<|
x1 ⟨.none,none,(.fields #[.int 22 0,.int 4 0,.ref 96]),#[]⟩<|
x1 (kC q27 283 20 86)<|
x1 (kF 88 85 q8 194)<|
x1 (kT [zs "" 293])<|
x7 (fo 91 294 194 (z q8) (z "NumberOut.__init__") (.ref 90) (me 5 0))<|
x1 (kT [zs "number" 302,zs "text" 303])<|
x1 (kD [ds P q3 288 q8 194,di P q4 292 20 291,d9 P q10 301 97,d9 P q5 304 98,dz P q12 305 .none] 2)<|
x1 ⟨(.type q11),none,(.cls {name:=(z q27),bases:=[.ref 39],mro:=[.ref 100,.ref 39,.type q19,.type q38,.type q7],ns:=99,qualname:=(z q27),hasDict:=true,slotNames:=[],subclasses:=[]}),#[(some (.ref 83)),none,(some (zs q27 281)),(some (zs q27 289)),(some (.builtin q39)),(some (.bool true))]⟩<|
x1 (kS 100)<|
x1 (kI 100)<|
l
noncomputable def n4:LO:=fun P u v l=>x1 (kT [.ref 39])<|
x1 kB<|
x1 (kD [ds P q3 315 q8 194,ds P q13 317 q28 316,di P q4 319 25 318,d9 P q10 328 117,d9 P q5 331 118] 5)<|
x1 (kT [])<|
x1 ⟨.none,none,(.fields #[.int 27 0,.int 4 0,.ref 116]),#[]⟩<|
x1 (kC q28 310 25 106)<|
x1 (kF 108 105 q8 194)<|
x1 (kT [zs "" 320])<|
x7 (fo 111 321 194 (z q8) (z "HostFault.__init__") (.ref 110) (me 6 0))<|
x1 (kT [zs "number" 329,zs "text" 330])<|
x1 (kD [ds P q3 315 q8 194,di P q4 319 25 318,d9 P q10 328 117,d9 P q5 331 118,dz P q12 332 .none] 2)<|
x1 ⟨(.type q11),none,(.cls {name:=(z q28),bases:=[.ref 39],mro:=[.ref 120,.ref 39,.type q19,.type q38,.type q7],ns:=119,qualname:=(z q28),hasDict:=true,slotNames:=[],subclasses:=[]}),#[(some (.ref 103)),none,(some (zs q28 308)),(some (zs q28 316)),(some (.builtin q39)),(some (.bool true))]⟩<|
x1 (kS 120)<|
x1 (kI 120)<|
l
noncomputable def n5:LO:=fun P u v l=>l
noncomputable def n6:LO:=fun P u v l=>x1 (kD [di P "0x" 409 16 410,di P "0o" 411 8 412,di P "0b" 413 2 414] 3)<|
l
noncomputable def n7:LO:=fun P u v l=>x1 (kT [])<|
x1 kB<|
x1 (kD [ds P q3 426 q0 335,ds P q13 428 "Thing" 427,di P q4 430 68 429,d9 P q10 440 137,d9 P q5 452 138] 5)<|
x1 (kT [])<|
x1 ⟨.none,none,(.fields #[.int 70 0,.int 4 0,.ref 136]),#[]⟩<|
x1 (kC "Thing" 421 68 127)<|
x1 (kF 129 126 q0 335)<|
x7 (fo 131 431 335 (z q0) (z "Thing.__init__") .none (me 45 0))<|
x1 (kT [zs "code" 441,zs "getters" 442,zs "home" 443,zs "items" 444,zs "names" 445,zs "native" 446,zs "number" 447,zs "proto" 448,zs "setters" 449,zs "slots" 450,zs "sort" 451])<|
x1 (kD [ds P q3 426 q0 335,di P q4 430 68 429,d9 P q10 440 137,d9 P q5 452 138,d9 P q14 454 141,d9 P q9 456 142,dz P q12 457 .none] 4)<|
x1 ⟨(.type q11),none,(.cls {name:=(z "Thing"),bases:=[.type q7],mro:=[.ref 140,.type q7],ns:=139,qualname:=(z "Thing"),hasDict:=true,slotNames:=[],subclasses:=[]}),#[none,none,(some (zs "Thing" 419)),(some (zs "Thing" 427)),(some (.builtin q15)),(some (.bool true))]⟩<|
x1 (kG q14 453 140 q22 (.builtin q23))<|
x1 (kG q9 455 140 q16 .none)<|
x1 (kS 140)<|
x1 (kI 140)<|
l
noncomputable def n8:LO:=fun P u v l=>x1 (kT [])<|
x1 kB<|
x1 (kD [ds P q3 467 q0 335,ds P q13 469 q29 468,di P q4 471 82 470,d9 P q20 482 158,d9 P q5 483 159] 5)<|
x1 (kT [])<|
x1 ⟨.none,none,(.fields #[.int 84 0,.int 4 0,.ref 157]),#[]⟩<|
x1 (kC q29 462 82 148)<|
x1 (kF 150 147 q0 335)<|
x7 (fo 152 472 335 (z q0) (z "NativeGroup.call") .none (me 46 0))<|
x1 (kT [])<|
x1 (kD [ds P q3 467 q0 335,di P q4 471 82 470,d9 P q20 482 158,d9 P q5 483 159,d9 P q14 485 162,d9 P q9 487 163,dz P q12 488 .none] 4)<|
x1 (QB v)<|
x1 (kG q14 484 161 q22 (.builtin q23))<|
x1 (kG q9 486 161 q16 .none)<|
x1 (kS 161)<|
x1 (kI 161)<|
l
noncomputable def n9:LO:=fun P u v l=>x1 (kT [])<|
x1 kB<|
x1 (kD [ds P q3 498 q0 335,ds P q13 500 "Heap" 499,di P q4 502 86 501,d9 P q10 509 179,d9 P q5 512 180] 5)<|
x1 (kT [])<|
x1 ⟨.none,none,(.fields #[.int 88 0,.int 4 0,.ref 178]),#[]⟩<|
x1 (kC "Heap" 493 86 169)<|
x1 (kF 171 168 q0 335)<|
x7 (fo 173 503 335 (z q0) (z "Heap.__init__") .none (me 47 0))<|
x1 (kT [zs "natives" 510,zs "things" 511])<|
x1 (kD [ds P q3 498 q0 335,di P q4 502 86 501,d9 P q10 509 179,d9 P q5 512 180,d9 P q14 514 183,d9 P q9 516 184,dz P q12 517 .none] 4)<|
x1 ⟨(.type q11),none,(.cls {name:=(z "Heap"),bases:=[.type q7],mro:=[.ref 182,.type q7],ns:=181,qualname:=(z "Heap"),hasDict:=true,slotNames:=[],subclasses:=[]}),#[none,none,(some (zs "Heap" 491)),(some (zs "Heap" 499)),(some (.builtin q15)),(some (.bool true))]⟩<|
x1 (kG q14 513 182 q22 (.builtin q23))<|
x1 (kG q9 515 182 q16 .none)<|
x1 (kS 182)<|
x1 (kI 182)<|
l
noncomputable def Sf:LO:=fun P u v l=>x1 (kT [])<|
x1 kB<|
x1 (kD [ds P q3 527 q0 335,ds P q13 529 "Env" 528,di P q4 531 91 530,d9 P q10 539 200,d9 P q5 542 201] 5)<|
x1 (kT [])<|
x1 ⟨.none,none,(.fields #[.int 93 0,.int 4 0,.ref 199]),#[]⟩<|
x1 (kC "Env" 522 91 190)<|
x1 (kF 192 189 q0 335)<|
x7 (fo 194 532 335 (z q0) (z "Env.__init__") .none (me 48 0))<|
x1 (kT [zs "cells" 540,zs "up" 541])<|
x1 (kD [ds P q3 527 q0 335,di P q4 531 91 530,d9 P q10 539 200,d9 P q5 542 201,d9 P q14 544 204,d9 P q9 546 205,dz P q12 547 .none] 4)<|
x1 ⟨(.type q11),none,(.cls {name:=(z "Env"),bases:=[.type q7],mro:=[.ref 203,.type q7],ns:=202,qualname:=(z "Env"),hasDict:=true,slotNames:=[],subclasses:=[]}),#[none,none,(some (zs "Env" 520)),(some (zs "Env" 528)),(some (.builtin q15)),(some (.bool true))]⟩<|
x1 (kG q14 543 203 q22 (.builtin q23))<|
x1 (kG q9 545 203 q16 .none)<|
x1 (kS 203)<|
x1 (kI 203)<|
y7 208 550 335 q0 "undef_value" 49<|
y7 215 556 335 q0 "bool_value" 50<|
y7 222 563 335 q0 "num_value" 51<|
y7 229 570 335 q0 "new_thing" 52<|
y7 236 580 335 q0 "run_of_digits" 53<|
y7 243 588 335 q0 "values_place_of" 54<|
l
noncomputable def RS:LO:=fun P u v l=>y7 250 595 335 q0 "text_prop" 55<|
y7 257 604 335 q0 "item_prop" 56<|
y7 264 613 335 q0 "has_name" 57<|
y7 271 621 335 q0 "thing_prop" 58<|
y7 278 631 335 q0 "get_prop" 59<|
y7 285 645 335 q0 "set_length" 60<|
y7 292 653 335 q0 "set_item" 61<|
y7 299 662 335 q0 "set_own" 62<|
y7 306 674 335 q0 "hide_name" 63<|
y7 313 684 335 q0 "is_callable" 64<|
y7 320 692 335 q0 "error_text" 65<|
y7 327 704 335 q0 "open_text" 66<|
l
noncomputable def Tt:LO:=fun P u v l=>y7 334 712 335 q0 "items_text" 67<|
y7 341 726 335 q0 "object_text" 68<|
y7 348 737 335 q0 "to_text_in" 69<|
y7 355 747 335 q0 "to_text" 70<|
y7 362 755 335 q0 "trimmed" 71<|
y7 369 764 335 q0 "digits_value" 72<|
y7 376 775 335 q0 "base_of_prefix" 73<|
y7 383 782 335 q0 "is_other_number" 74<|
y7 390 793 335 q0 "text_number" 75<|
y7 397 804 335 q0 "to_number" 76<|
y7 404 812 335 q0 "prim_value" 77<|
y7 411 820 335 q0 "text_bound" 78<|
l
noncomputable def RN:LO:=fun P u v l=>y7 418 827 335 q0 "error_thing" 79<|
x1 (kT [zs "charAt" 845,.int 201 379])<|
x1 (kT [zs "indexOf" 846,.int 202 381])<|
x1 (kT [zs "includes" 847,.int 203 383])<|
x1 (kT [zs "slice" 848,.int 204 385])<|
x1 (kT [zs "toUpperCase" 849,.int 205 387])<|
x1 (kT [zs "toLowerCase" 850,.int 206 389])<|
x1 (kT [zs "concat" 851,.int 207 391])<|
x1 (kT [.ref 425,.ref 426,.ref 427,.ref 428,.ref 429,.ref 430,.ref 431])<|
x1 (kT [zs "toString" 853,.int 301 393])<|
x1 (kT [.ref 433])<|
x1 (kT [zs "print" 855,.int 101 371])<|
x1 (kT [zs "String" 856,.int 102 373])<|
x1 (kT [zs "Number" 857,.int 103 375])<|
x1 (kT [.ref 435,.ref 436,.ref 437])<|
y7 439 859 837 q2 "call_native" 87<|
y7 446 870 837 q2 "arg_at" 88<|
y7 453 878 837 q2 "runlib_whole_of" 89<|
y7 460 887 837 q2 "runlib_place_in" 90<|
y7 467 895 837 q2 "front_place" 91<|
y7 474 903 837 q2 "text_of_this" 92<|
y7 481 911 837 q2 "runlib_joined" 93<|
l
noncomputable def S5:LO:=fun P u v l=>y7 488 921 837 q2 "text_char_at" 94<|
y7 495 931 837 q2 "text_index_of" 95<|
y7 502 942 837 q2 "text_includes" 96<|
y7 509 951 837 q2 "text_slice" 97<|
y7 516 962 837 q2 "text_concat" 98<|
l
noncomputable def Sj:LO:=fun P u v l=>x1 (kT [.ref 161])<|
x1 kB<|
x1 (kD [ds P q3 980 q2 837,ds P q13 982 q30 981,di P q4 984 398 983,d9 P q20 996 536,d9 P q5 997 537] 5)<|
x1 (kT [])<|
x1 ⟨.none,none,(.fields #[.int 400 0,.int 4 0,.ref 535]),#[]⟩<|
x1 (kC q30 975 398 526)<|
x1 (kF 528 525 q2 837)<|
x7 (fo 530 985 837 (z q2) (z "TextLib.call") .none (me 99 0))<|
x1 (kT [])<|
x1 (kD [ds P q3 980 q2 837,di P q4 984 398 983,d9 P q20 996 536,d9 P q5 997 537,dz P q12 998 .none] 2)<|
x1 ⟨(.type q11),none,(.cls {name:=(z q30),bases:=[.ref 161],mro:=[.ref 539,.ref 161,.type q7],ns:=538,qualname:=(z q30),hasDict:=true,slotNames:=[],subclasses:=[]}),#[(some (.ref 523)),none,(some (zs q30 973)),(some (zs q30 981)),(some (.builtin q15)),(some (.bool true))]⟩<|
x1 (kS 539)<|
x1 (kI 539)<|
y7 542 1001 837 q2 "digits_in" 100<|
y7 549 1011 837 q2 "number_text" 101<|
l
noncomputable def R9:LO:=fun P u v l=>x1 (kT [.ref 161])<|
x1 kB<|
x1 (kD [ds P q3 1028 q2 837,ds P q13 1030 q31 1029,di P q4 1032 438 1031,d9 P q20 1043 569,d9 P q5 1044 570] 5)<|
x1 (kT [])<|
x1 ⟨.none,none,(.fields #[.int 440 0,.int 4 0,.ref 568]),#[]⟩<|
x1 (kC q31 1023 438 559)<|
x1 (kF 561 558 q2 837)<|
x7 (fo 563 1033 837 (z q2) (z "NumberLib.call") .none (me 102 0))<|
x1 (kT [])<|
x1 (kD [ds P q3 1028 q2 837,di P q4 1032 438 1031,d9 P q20 1043 569,d9 P q5 1044 570,dz P q12 1045 .none] 2)<|
x1 ⟨(.type q11),none,(.cls {name:=(z q31),bases:=[.ref 161],mro:=[.ref 572,.ref 161,.type q7],ns:=571,qualname:=(z q31),hasDict:=true,slotNames:=[],subclasses:=[]}),#[(some (.ref 556)),none,(some (zs q31 1021)),(some (zs q31 1029)),(some (.builtin q15)),(some (.bool true))]⟩<|
x1 (kS 572)<|
x1 (kI 572)<|
y7 575 1048 837 q2 "lib_print" 103<|
y7 582 1056 837 q2 "lib_string" 104<|
y7 589 1064 837 q2 "lib_number" 105<|
y7 596 1072 837 q2 "is_error_child" 106<|
y7 603 1082 837 q2 "is_made_error" 107<|
l
noncomputable def R1:LO:=fun P u v l=>y7 610 1091 837 q2 "lib_error" 108<|
x1 (kT [.ref 161])<|
x1 kB<|
x1 (kD [ds P q3 1109 q2 837,ds P q13 1111 q32 1110,di P q4 1113 479 1112,d9 P q20 1124 630,d9 P q5 1125 631] 5)<|
x1 (kT [])<|
x1 ⟨.none,none,(.fields #[.int 481 0,.int 4 0,.ref 629]),#[]⟩<|
x1 (kC q32 1104 479 620)<|
x1 (kF 622 619 q2 837)<|
x7 (fo 624 1114 837 (z q2) (z "GlobalLib.call") .none (me 109 0))<|
x1 (kT [])<|
x1 (kD [ds P q3 1109 q2 837,di P q4 1113 479 1112,d9 P q20 1124 630,d9 P q5 1125 631,dz P q12 1126 .none] 2)<|
x1 ⟨(.type q11),none,(.cls {name:=(z q32),bases:=[.ref 161],mro:=[.ref 633,.ref 161,.type q7],ns:=632,qualname:=(z q32),hasDict:=true,slotNames:=[],subclasses:=[]}),#[(some (.ref 617)),none,(some (zs q32 1102)),(some (zs q32 1110)),(some (.builtin q15)),(some (.bool true))]⟩<|
x1 (kS 633)<|
x1 (kI 633)<|
y7 636 1129 837 q2 "native_value" 110<|
y7 643 1138 837 q2 "put_natives" 111<|
y7 650 1149 837 q2 "put_proto" 112<|
l
noncomputable def L5:LO:=fun P u v l=>y7 657 1158 837 q2 "install_protos" 113<|
y7 664 1166 837 q2 "install_texts" 114<|
y7 671 1173 837 q2 "install_numbers" 115<|
y7 678 1180 837 q2 "put_global" 116<|
y7 685 1189 837 q2 "install_error" 117<|
y7 692 1198 837 q2 "install_globals" 118<|
y7 699 1231 1207 "kindkeep.nodes" "has" 131<|
y7 706 1239 1207 "kindkeep.nodes" "names_in_pattern" 132<|
l
noncomputable def NQ:LO:=fun P u v l=>x1 (kT [.type q19])<|
x1 kB<|
x1 (kD [ds P q3 1271 q1 1250,ds P q13 1273 q33 1272,di P q4 1275 568 1274,d9 P q10 1283 726,d9 P q5 1285 727] 5)<|
x1 (kT [])<|
x1 ⟨.none,none,(.fields #[.int 570 0,.int 4 0,.ref 725]),#[]⟩<|
x1 (kC q33 1266 568 716)<|
x1 (kF 718 715 q1 1250)<|
x7 (fo 720 1276 1250 (z q1) (z "ScriptThrow.__init__") .none (me 140 0))<|
x1 (kT [zs "value" 1284])<|
x1 (kD [ds P q3 1271 q1 1250,di P q4 1275 568 1274,d9 P q10 1283 726,d9 P q5 1285 727,d9 P q9 1287 730,dz P q12 1288 .none] 3)<|
x1 ⟨(.type q11),none,(.cls {name:=(z q33),bases:=[.type q19],mro:=[.ref 729,.type q19,.type q38,.type q7],ns:=728,qualname:=(z q33),hasDict:=true,slotNames:=[],subclasses:=[]}),#[(some (.ref 713)),none,(some (zs q33 1264)),(some (zs q33 1272)),(some (.builtin q39)),(some (.bool true))]⟩<|
x1 (kG q9 1286 729 q16 .none)<|
x1 (kS 729)<|
x1 (kI 729)<|
l
noncomputable def I4:LO:=fun P u v l=>x1 (kT [])<|
x1 kB<|
x1 (kD [ds P q3 1300 q1 1250,ds P q13 1302 q34 1301,di P q4 1304 572 1303,d9 P "look" 1314 746,d9 P q5 1315 747] 5)<|
x1 (kT [])<|
x1 ⟨.none,none,(.fields #[.int 574 0,.int 4 0,.ref 745]),#[]⟩<|
x1 (kC q34 1295 572 736)<|
x1 (kF 738 735 q1 1250)<|
x7 (fo 740 1305 1250 (z q1) (z "Watcher.look") .none (me 141 0))<|
x1 (kT [])<|
x1 (kD [ds P q3 1300 q1 1250,di P q4 1304 572 1303,d9 P "look" 1314 746,d9 P q5 1315 747,d9 P q14 1317 750,d9 P q9 1319 751,dz P q12 1320 .none] 4)<|
x1 ⟨(.type q11),none,(.cls {name:=(z q34),bases:=[.type q7],mro:=[.ref 749,.type q7],ns:=748,qualname:=(z q34),hasDict:=true,slotNames:=[],subclasses:=[]}),#[none,none,(some (zs q34 1293)),(some (zs q34 1301)),(some (.builtin q15)),(some (.bool true))]⟩<|
x1 (kG q14 1316 749 q22 (.builtin q23))<|
x1 (kG q9 1318 749 q16 .none)<|
x1 (kS 749)<|
x1 (kI 749)<|
l
noncomputable def TU:LO:=fun P u v l=>x1 (kT [])<|
x1 kB<|
x1 (kD [ds P q3 1330 q1 1250,ds P q13 1332 q35 1331,di P q4 1334 576 1333,d9 P "bind" 1345 767,d9 P "assign" 1355 774,d9 P q5 1356 775] 6)<|
x1 (kT [])<|
x1 ⟨.none,none,(.fields #[.int 578 0,.int 4 0,.ref 766,.int 581 0,.int 4 0,.ref 773]),#[]⟩<|
x1 (kC q35 1325 576 757)<|
x1 (kF 759 756 q1 1250)<|
x7 (fo 761 1335 1250 (z q1) (z "RuncoreBinder.bind") .none (me 142 0))<|
x7 (fo 768 1346 1250 (z q1) (z "RuncoreBinder.assign") .none (me 142 1))<|
x1 (kT [])<|
x1 (kD [ds P q3 1330 q1 1250,di P q4 1334 576 1333,d9 P "bind" 1345 767,d9 P "assign" 1355 774,d9 P q5 1356 775,d9 P q14 1358 778,d9 P q9 1360 779,dz P q12 1361 .none] 4)<|
x1 ⟨(.type q11),none,(.cls {name:=(z q35),bases:=[.type q7],mro:=[.ref 777,.type q7],ns:=776,qualname:=(z q35),hasDict:=true,slotNames:=[],subclasses:=[]}),#[none,none,(some (zs q35 1323)),(some (zs q35 1331)),(some (.builtin q15)),(some (.bool true))]⟩<|
x1 (kG q14 1357 777 q22 (.builtin q23))<|
x1 (kG q9 1359 777 q16 .none)<|
x1 (kS 777)<|
x1 (kI 777)<|
l
noncomputable def RW:LO:=fun P u v l=>x1 (kT [])<|
x1 kB<|
x1 (kD [ds P q3 1371 q1 1250,ds P q13 1373 "Maker" 1372,di P q4 1375 583 1374,d9 P "make" 1386 795,d9 P "up" 1396 802,d9 P q5 1397 803] 6)<|
x1 (kT [])<|
x1 ⟨.none,none,(.fields #[.int 585 0,.int 4 0,.ref 794,.int 588 0,.int 4 0,.ref 801]),#[]⟩<|
x1 (kC "Maker" 1366 583 785)<|
x1 (kF 787 784 q1 1250)<|
x7 (fo 789 1376 1250 (z q1) (z "Maker.make") .none (me 143 0))<|
x7 (fo 796 1387 1250 (z q1) (z "Maker.up") .none (me 143 1))<|
x1 (kT [])<|
x1 (kD [ds P q3 1371 q1 1250,di P q4 1375 583 1374,d9 P "make" 1386 795,d9 P "up" 1396 802,d9 P q5 1397 803,d9 P q14 1399 806,d9 P q9 1401 807,dz P q12 1402 .none] 4)<|
x1 ⟨(.type q11),none,(.cls {name:=(z "Maker"),bases:=[.type q7],mro:=[.ref 805,.type q7],ns:=804,qualname:=(z "Maker"),hasDict:=true,slotNames:=[],subclasses:=[]}),#[none,none,(some (zs "Maker" 1364)),(some (zs "Maker" 1372)),(some (.builtin q15)),(some (.bool true))]⟩<|
x1 (kG q14 1398 805 q22 (.builtin q23))<|
x1 (kG q9 1400 805 q16 .none)<|
x1 (kS 805)<|
x1 (kI 805)<|
l
noncomputable def Sd:LO:=fun P u v l=>x1 (kT [])<|
x1 kB<|
x1 (kD [ds P q3 1412 q1 1250,ds P q13 1414 q36 1413,di P q4 1416 590 1415,d9 P "lay" 1425 823,d9 P q5 1426 824] 5)<|
x1 (kT [])<|
x1 ⟨.none,none,(.fields #[.int 592 0,.int 4 0,.ref 822]),#[]⟩<|
x1 (kC q36 1407 590 813)<|
x1 (kF 815 812 q1 1250)<|
x7 (fo 817 1417 1250 (z q1) (z "Hoister.lay") .none (me 144 0))<|
x1 (kT [])<|
x1 (kD [ds P q3 1412 q1 1250,di P q4 1416 590 1415,d9 P "lay" 1425 823,d9 P q5 1426 824,d9 P q14 1428 827,d9 P q9 1430 828,dz P q12 1431 .none] 4)<|
x1 ⟨(.type q11),none,(.cls {name:=(z q36),bases:=[.type q7],mro:=[.ref 826,.type q7],ns:=825,qualname:=(z q36),hasDict:=true,slotNames:=[],subclasses:=[]}),#[none,none,(some (zs q36 1405)),(some (zs q36 1413)),(some (.builtin q15)),(some (.bool true))]⟩<|
x1 (kG q14 1427 826 q22 (.builtin q23))<|
x1 (kG q9 1429 826 q16 .none)<|
x1 (kS 826)<|
x1 (kI 826)<|
l
noncomputable def Tq:LO:=fun P u v l=>x1 (kT [])<|
x1 kB<|
x1 (kD [ds P q3 1441 q1 1250,ds P q13 1443 q37 1442,di P q4 1445 594 1444,d9 P q10 1453 844,d9 P "value" 1461 851,d9 P "run" 1469 858,d9 P q20 1480 865,d9 P "throw" 1488 872,d9 P "fault" 1498 879,d9 P "look" 1507 886,d9 P q5 1529 887] 11)<|
x1 (kT [])<|
x1 ⟨.none,none,(.fields #[.int 596 0,.int 4 0,.ref 843,.int 619 0,.int 4 0,.ref 850,.int 622 0,.int 4 0,.ref 857,.int 625 0,.int 4 0,.ref 864,.int 628 0,.int 4 0,.ref 871,.int 631 0,.int 4 0,.ref 878,.int 634 0,.int 4 0,.ref 885]),#[]⟩<|
x1 (kC q37 1436 594 834)<|
x1 (kF 836 833 q1 1250)<|
x7 (fo 838 1446 1250 (z q1) (z "Machine.__init__") .none (me 145 0))<|
x7 (fo 845 1454 1250 (z q1) (z "Machine.value") .none (me 145 1))<|
x7 (fo 852 1462 1250 (z q1) (z "Machine.run") .none (me 145 2))<|
x7 (fo 859 1470 1250 (z q1) (z "Machine.call") .none (me 145 3))<|
x7 (fo 866 1481 1250 (z q1) (z "Machine.throw") .none (me 145 4))<|
x7 (fo 873 1489 1250 (z q1) (z "Machine.fault") .none (me 145 5))<|
x7 (fo 880 1499 1250 (z q1) (z "Machine.look") .none (me 145 6))<|
x1 (kT [zs "binder" 1508,zs "calling" 1509,zs "class_protos" 1510,zs "deep" 1511,zs "env" 1512,zs "exprs" 1513,zs "globals" 1514,zs "heap" 1515,zs "hoister" 1516,zs "home" 1517,zs "maker" 1518,zs "most" 1519,zs "most_deep" 1520,zs "out" 1521,zs "protos" 1522,zs "raised" 1523,zs "steps" 1524,zs "stmts" 1525,zs "this" 1526,zs "told" 1527,zs "watch" 1528])<|
x1 (kD [ds P q3 1441 q1 1250,di P q4 1445 594 1444,d9 P q10 1453 844,d9 P "value" 1461 851,d9 P "run" 1469 858,d9 P q20 1480 865,d9 P "throw" 1488 872,d9 P "fault" 1498 879,d9 P "look" 1507 886,d9 P q5 1529 887,d9 P q14 1531 890,d9 P q9 1533 891,dz P q12 1534 .none] 4)<|
x1 ⟨(.type q11),none,(.cls {name:=(z q37),bases:=[.type q7],mro:=[.ref 889,.type q7],ns:=888,qualname:=(z q37),hasDict:=true,slotNames:=[],subclasses:=[]}),#[none,none,(some (zs q37 1434)),(some (zs q37 1442)),(some (.builtin q15)),(some (.bool true))]⟩<|
x1 (kG q14 1530 889 q22 (.builtin q23))<|
x1 (kG q9 1532 889 q16 .none)<|
x1 (kS 889)<|
x1 (kI 889)<|
l
noncomputable def Si:LO:=fun P u v l=>y7 894 1537 1250 q1 "count_step" 146<|
y7 901 1544 1250 q1 "runcore_value_of" 147<|
y7 908 1554 1250 q1 "run_node" 148<|
y7 915 1564 1250 q1 "tell_fault" 149<|
y7 922 1574 1250 q1 "call_value" 150<|
y7 929 1586 1250 q1 "call_closure" 151<|
y7 936 1597 1250 q1 "body_value" 152<|
y7 943 1607 1250 q1 "runcore_is_this_param" 153<|
y5 950 1615 1250 q1 "bind_params" [] 154<|
y7 955 1621 1250 q1 "param_value" 155<|
y7 962 1633 1250 q1 "runcore_bind_pattern" 156<|
l
noncomputable def RR:LO:=fun P u v l=>x1 (kT [.int 3 1644,.int 0 1645])<|
x1 (kT [.int 3 1646,.int 1 1647])<|
x1 (kT [.int 3 1648,(.int (-1) 1650)])<|
x1 (kT [.int 3 1651,.int 2 1652])<|
x1 (kT [.int 3 1653,(.int (-2) 1655)])<|
x1 (kT [.int 3 1656,.int 5 1657])<|
x1 (kT [.int 3 1658,(.int (-9) 1660)])<|
x1 (kT [.int 4 1661,.int 0 1662])<|
x1 (kT [.int 0 1663,.int 0 1664])<|
x1 (kT [.int 1 1665,.int 0 1666])<|
x1 (kT [.int 2 1667,.int 1 1668])<|
x1 (kT [.int 5 1669,zs "-1" 1670])<|
x1 (kT [.int 5 1671,zs "x" 1672])<|
x1 (kT [.int 5 1673,zs " 2 " 1674])<|
x1 ⟨(.type "list"),none,(.seq #[.ref 969,.ref 970,.ref 971,.ref 972,.ref 973,.ref 974,.ref 975,.ref 976,.ref 977,.ref 978,.ref 979,.ref 980,.ref 981,.ref 982] 0),#[]⟩<|
y7 984 1676 1642 q6 "_law_readings" 159<|
y7 991 1682 1642 q6 "_law_words" 160<|
y7 998 1688 1642 q6 "_law_heads" 161<|
y7 1005 1696 1642 q6 "_law_pull" 163<|
y7 1012 1703 1642 q6 "_law_word" 164<|
y7 1019 1714 1642 q6 "_law_whole" 165<|
y7 1026 1724 1642 q6 "_law_value" 166<|
y7 1033 1737 1642 q6 "_law_laid" 167<|
y5 1040 1748 1642 q6 "_law_text" [] 168<|
y5 1045 1754 1642 q6 "_law_all" [] 169<|
l
noncomputable def SG:LO:=fun P u v l=>y7 1050 1760 1642 q6 "_law_other" 170<|
y5 1057 1770 1642 q6 "_law_read" [] 171<|
y7 1062 1776 1642 q6 "_law_counted" 172<|
y7 1069 1785 1642 q6 "_law_number" 173<|
y7 1076 1795 1642 q6 "_law_reached" 174<|
y5 1083 1804 1642 q6 "_law_args" [] 175<|
y5 1088 1810 1642 q6 "_law_deed" [] 176<|
y7 1093 1816 1642 q6 "_law_thrown" 177<|
y7 1100 1824 1642 q6 "_law_under" 178<|
y7 1107 1833 1642 q6 "_law_play" 179<|
y7 1114 1847 1642 q6 "_law_letters" 180<|
y7 1121 1861 1642 q6 "_law_based" 181<|
l
noncomputable def SH:LO:=fun P u v l=>y7 1128 1876 1642 q6 "_law_back" 182<|
y7 1135 1890 1642 q6 "_law_turn" 183<|
y5 1142 1905 1642 q6 "law" [] 184<|
l
noncomputable def m0:LO:=fun P u v l=>n0 P u v l
noncomputable def m1:LO:=fun P u v l=>m0 P u v (n1 P u v l)
noncomputable def m2:LO:=fun P u v l=>m1 P u v (n2 P u v l)
noncomputable def m3:LO:=fun P u v l=>m2 P u v (n3 P u v l)
noncomputable def m4:LO:=fun P u v l=>m3 P u v (n4 P u v l)
noncomputable def m5:LO:=fun P u v l=>m4 P u v (n5 P u v l)
noncomputable def m6:LO:=fun P u v l=>m5 P u v (n6 P u v l)
noncomputable def m7:LO:=fun P u v l=>m6 P u v (n7 P u v l)
noncomputable def m8:LO:=fun P u v l=>m7 P u v (n8 P u v l)
noncomputable def m9:LO:=fun P u v l=>m8 P u v (n9 P u v l)
noncomputable def O3:LO:=fun P u v l=>m9 P u v (Sf P u v l)
noncomputable def P8:LO:=fun P u v l=>O3 P u v (RS P u v l)
noncomputable def O9:LO:=fun P u v l=>P8 P u v (Tt P u v l)
noncomputable def P9:LO:=fun P u v l=>O9 P u v (RN P u v l)
noncomputable def PT:LO:=fun P u v l=>P9 P u v (S5 P u v l)
noncomputable def PZ:LO:=fun P u v l=>PT P u v (Sj P u v l)
noncomputable def OZ:LO:=fun P u v l=>PZ P u v (R9 P u v l)
noncomputable def PK:LO:=fun P u v l=>OZ P u v (R1 P u v l)
noncomputable def PF:LO:=fun P u v l=>PK P u v (L5 P u v l)
noncomputable def PX:LO:=fun P u v l=>PF P u v (NQ P u v l)
noncomputable def O2:LO:=fun P u v l=>PX P u v (I4 P u v l)
noncomputable def PJ:LO:=fun P u v l=>O2 P u v (TU P u v l)
noncomputable def Pj:LO:=fun P u v l=>PJ P u v (RW P u v l)
noncomputable def Pq:LO:=fun P u v l=>Pj P u v (Sd P u v l)
noncomputable def P1:LO:=fun P u v l=>Pq P u v (Tq P u v l)
noncomputable def PI:LO:=fun P u v l=>P1 P u v (Si P u v l)
noncomputable def Pr:LO:=fun P u v l=>PI P u v (RR P u v l)
noncomputable def Pp:LO:=fun P u v l=>Pr P u v (SG P u v l)
noncomputable def S6:LO:=fun P u v l=>Pp P u v (SH P u v l)
noncomputable def kZ(P:Params):=c2 [di P q17 223 39 0,di P q18 224 1 0] 2
noncomputable def t0(P:Params):BT:=bt 11 1147 (fr P (c2 [] 0) (c3 P (zs "__main__" 164) 8 9) (hS 0) [])
noncomputable def t1(P:Params):BT:=bt 11 1147 (fr P (kZ P) (c3 P (zs q8 194) 10 11) (hS 6) (m0 P [] [] []))
noncomputable def t2(P:Params):BT:=bt 11 1147 (fr P (kZ P) (c3 P (zs q8 194) 11 12) (hS 9) (m1 P [.ref 60] [] []))
noncomputable def t3(P:Params):BT:=bt 11 1147 (fr P (kZ P) (c3 P (zs q8 194) 12 13) (hS 12) (m2 P [.ref 60,.ref 80] [] []))
noncomputable def t4(P:Params):BT:=bt 11 1147 (fr P (kZ P) (c3 P (zs q8 194) 13 14) (hS 15) (m3 P [.ref 60,.ref 80,.ref 100] [] []))
noncomputable def t5(P:Params):BT:=bt 11 1147 (fr P (kZ P) (c3 P (zs q0 335) 29 30) (hS 18) (m4 P [.ref 60,.ref 80,.ref 100,.ref 120] [] []))
noncomputable def t6(P:Params):BT:=bt 11 1147 (fr P (kZ P) (c3 P (zs q0 335) 50 51) (hS 18) (m5 P [.ref 60,.ref 80,.ref 100,.ref 120] [] []))
noncomputable def t7(P:Params):BT:=bt 11 1147 (fr P (kZ P) (c3 P (zs q0 335) 51 52) (hS 18) (m6 P [.ref 60,.ref 80,.ref 100,.ref 120] [] []))
noncomputable def t8(P:Params):BT:=bt 11 1147 (fr P (kZ P) (c3 P (zs q0 335) 52 53) (hS 21) (m7 P [.ref 60,.ref 80,.ref 100,.ref 120] [] []))
noncomputable def t9(P:Params):BT:=bt 11 1147 (fr P (kZ P) (c3 P (zs q0 335) 53 54) (hS 24) (m8 P [.ref 60,.ref 80,.ref 100,.ref 120] [] []))
noncomputable def O8(P:Params):BT:=bt 11 1147 (fr P (kZ P) (c3 P (zs q0 335) 54 55) (hS 27) (m9 P [.ref 60,.ref 80,.ref 100,.ref 120] [] []))
noncomputable def PW(P:Params):BT:=bt 11 1147 (fr P (kZ P) (c3 P (zs q0 335) 61 62) (hS 48) (O3 P [.ref 60,.ref 80,.ref 100,.ref 120] [] []))
noncomputable def P5(P:Params):BT:=bt 11 1147 (fr P (kZ P) (c3 P (zs q0 335) 73 74) (hS 84) (P8 P [.ref 60,.ref 80,.ref 100,.ref 120] [] []))
noncomputable def Pe(P:Params):BT:=bt 11 1147 (fr P (kZ P) (c3 P (zs q0 335) 85 86) (hS 120) (O9 P [.ref 60,.ref 80,.ref 100,.ref 120] [] []))
noncomputable def PH(P:Params):BT:=bt 11 1147 (fr P (kZ P) (c3 P (zs q2 837) 99 100) (hS 144) (P9 P [.ref 60,.ref 80,.ref 100,.ref 120] [] []))
noncomputable def Pa(P:Params):BT:=bt 11 1147 (fr P (kZ P) (c3 P (zs q2 837) 104 105) (hS 159) (PT P [.ref 60,.ref 80,.ref 100,.ref 120] [] []))
noncomputable def Pb(P:Params):BT:=bt 11 1147 (fr P (kZ P) (c3 P (zs q2 837) 107 108) (hS 168) (PZ P [.ref 60,.ref 80,.ref 100,.ref 120] [.ref 539] []))
noncomputable def Pn(P:Params):BT:=bt 11 1147 (fr P (kZ P) (c3 P (zs q2 837) 113 114) (hS 186) (OZ P [.ref 60,.ref 80,.ref 100,.ref 120] [.ref 539,.ref 572] []))
noncomputable def GG(P:Params):BT:=bt 11 1147 (fr P (kZ P) (c3 P (zs q2 837) 118 119) (hS 201) (PK P [.ref 60,.ref 80,.ref 100,.ref 120] [.ref 539,.ref 572,.ref 633] []))
noncomputable def Gp(P:Params):BT:=bt 11 1147 (fr P (kZ P) (c3 P (zs q1 1250) 141 142) (hS 225) (PF P [.ref 60,.ref 80,.ref 100,.ref 120] [.ref 539,.ref 572,.ref 633] []))
noncomputable def Pu(P:Params):BT:=bt 11 1147 (fr P (c2 [di P q17 223 39 0,di P q18 224 2 0,di P q21 1289 729 0] 3) (c3 P (zs q1 1250) 144 145) (hS 228) (PX P [.ref 60,.ref 80,.ref 100,.ref 120] [.ref 539,.ref 572,.ref 633] []))
noncomputable def O5(P:Params):BT:=bt 11 1147 (fr P (c2 [di P q17 223 39 0,di P q18 224 2 0,di P q21 1289 729 0] 3) (c3 P (zs q1 1250) 145 146) (hS 231) (O2 P [.ref 60,.ref 80,.ref 100,.ref 120] [.ref 539,.ref 572,.ref 633] []))
noncomputable def Ph(P:Params):BT:=bt 11 1147 (fr P (c2 [di P q17 223 39 0,di P q18 224 2 0,di P q21 1289 729 0] 3) (c3 P (zs q1 1250) 146 147) (hS 234) (PJ P [.ref 60,.ref 80,.ref 100,.ref 120] [.ref 539,.ref 572,.ref 633] []))
noncomputable def PA(P:Params):BT:=bt 11 1147 (fr P (c2 [di P q17 223 39 0,di P q18 224 2 0,di P q21 1289 729 0] 3) (c3 P (zs q1 1250) 147 148) (hS 237) (Pj P [.ref 60,.ref 80,.ref 100,.ref 120] [.ref 539,.ref 572,.ref 633] []))
noncomputable def Px(P:Params):BT:=bt 11 1147 (fr P (c2 [di P q17 223 39 0,di P q18 224 2 0,di P q21 1289 729 0] 3) (c3 P (zs q1 1250) 148 149) (hS 240) (Pq P [.ref 60,.ref 80,.ref 100,.ref 120] [.ref 539,.ref 572,.ref 633] []))
noncomputable def PU(P:Params):BT:=bt 11 1147 (fr P (c2 [di P q17 223 39 0,di P q18 224 2 0,di P q21 1289 729 0] 3) (c3 P (zs q1 1250) 149 150) (hS 243) (P1 P [.ref 60,.ref 80,.ref 100,.ref 120] [.ref 539,.ref 572,.ref 633] []))
noncomputable def Pg(P:Params):BT:=bt 11 1147 (fr P (c2 [di P q17 223 39 0,di P q18 224 2 0,di P q21 1289 729 0] 3) (c3 P (zs q6 1642) 160 161) (hS 276) (PI P [.ref 60,.ref 80,.ref 100,.ref 120] [.ref 539,.ref 572,.ref 633] []))
noncomputable def PY(P:Params):BT:=bt 11 1147 (fr P (c2 [di P q17 223 39 0,di P q18 224 2 0,di P q21 1289 729 0] 3) (c3 P (zs q6 1642) 172 173) (hS 306) (Pr P [.ref 60,.ref 80,.ref 100,.ref 120] [.ref 539,.ref 572,.ref 633] []))
noncomputable def O0(P:Params):BT:=bt 11 1147 (fr P (c2 [di P q17 223 39 0,di P q18 224 2 0,di P q21 1289 729 0] 3) (c3 P (zs q6 1642) 184 185) (hS 342) (Pp P [.ref 60,.ref 80,.ref 100,.ref 120] [.ref 539,.ref 572,.ref 633] []))
noncomputable def Dl(P:Params):BT:=bt 11 1147 (fr P (c2 [di P q17 223 39 0,di P q18 224 2 0,di P q21 1289 729 0] 3) (c3 P (zs q6 1642) 187 188) (hS 351) (S6 P [.ref 60,.ref 80,.ref 100,.ref 120] [.ref 539,.ref 572,.ref 633] []))
noncomputable def sh(P:Params)(t:BT)(n k:Nat)(os:OsState):SharedT:=⟨t,n,(boot_heap P).life,Array.mk [],boot_drawn,k,os⟩
noncomputable abbrev pc(w:World)(os:OsState)(N:Nat)(t:Params->BT)(a b k s:Nat)(x:Pos)(t':Params->BT)(a' b':Nat)(y:Pos):Prop:=segRunT treeTable pw w 11 (some (.ref 6)) 1 N (sh w.params (t w.params) a b os) (piecesOf (tk k (dr s bd)) en cE x [topFrame ⟨0,0,0,0⟩])=some (.next,sh w.params (t' w.params) a' b' os,cE,y)
theorem pk{w:World}{os:OsState}{N a b k s a' b':Nat}{t t':Params->BT}{x y:Pos}(h:Fast.tw10110043849684766642 Fast.tw14364793385576792824 pw w 11 (some (.ref 6)) 1 N (sh w.params (t w.params) a b os) (piecesOf (tk k (dr s bd)) en cE x [topFrame ⟨0,0,0,0⟩])=some (.next,sh w.params (t' w.params) a' b' os,cE,y)):pc w os N t a b k s x t' a' b' y:=by
 delta pc;rw[Fast.te10110043849684766642,Fast.te14364793385576792824];exact h
theorem p0(w:World)(os:OsState):pc w os 270 t0 15 187 3 0 ⟨0,0,0,0⟩ t1 43 227 ⟨5,0,9,24⟩:=pk (by kernel_rfl)
theorem p1(w:World)(os:OsState):pc w os 249 t1 43 227 1 3 ⟨5,0,9,24⟩ t2 63 254 ⟨10,0,14,24⟩:=pk (by kernel_rfl)
theorem p2(w:World)(os:OsState):pc w os 249 t2 63 254 1 4 ⟨10,0,14,24⟩ t3 83 281 ⟨15,0,19,24⟩:=pk (by kernel_rfl)
theorem p3(w:World)(os:OsState):pc w os 249 t3 83 281 1 5 ⟨15,0,19,24⟩ t4 103 308 ⟨20,0,24,24⟩:=pk (by kernel_rfl)
theorem p4(w:World)(os:OsState):pc w os 393 t4 103 308 17 6 ⟨20,0,24,24⟩ t5 123 367 ⟨45,0,45,7⟩:=pk (by kernel_rfl)
theorem p5(w:World)(os:OsState):pc w os 190 t5 123 367 21 23 ⟨45,0,45,7⟩ t6 123 409 ⟨66,0,66,6⟩:=pk (by kernel_rfl)
theorem p6(w:World)(os:OsState):pc w os 56 t6 123 409 1 44 ⟨66,0,66,6⟩ t7 124 419 ⟨67,0,67,12⟩:=byRow2 "special-get-raises" (P:=fun w=>∀os,pc w os 56 t6 123 409 1 44 ⟨66,0,66,6⟩ t7 124 419 ⟨67,0,67,12⟩) (fun w os=>pk (by kernel_rfl)) (fun w os=>pk (by kernel_rfl)) w os
theorem p7(w:World)(os:OsState):pc w os 235 t7 124 419 1 45 ⟨67,0,67,12⟩ t8 145 460 ⟨68,0,81,22⟩:=pk (by kernel_rfl)
theorem p8(w:World)(os:OsState):pc w os 225 t8 145 460 1 46 ⟨68,0,81,22⟩ t9 166 491 ⟨82,0,85,41⟩:=pk (by kernel_rfl)
theorem p9(w:World)(os:OsState):pc w os 223 t9 166 491 1 47 ⟨82,0,85,41⟩ O8 187 520 ⟨86,0,90,25⟩:=pk (by kernel_rfl)
theorem R0(w:World)(os:OsState):pc w os 401 O8 187 520 7 48 ⟨86,0,90,25⟩ PW 250 595 ⟨112,0,117,55⟩:=pk (by kernel_rfl)
theorem S7(w:World)(os:OsState):pc w os 382 PW 250 595 12 55 ⟨112,0,117,55⟩ P5 334 712 ⟨209,0,212,29⟩:=pk (by kernel_rfl)
theorem RY(w:World)(os:OsState):pc w os 380 P5 334 712 12 67 ⟨209,0,212,29⟩ Pe 418 827 ⟨329,0,332,24⟩:=pk (by kernel_rfl)
theorem S2(w:World)(os:OsState):pc w os 370 Pe 418 827 15 79 ⟨329,0,332,24⟩ PH 488 921 ⟨369,0,375,35⟩:=pk (by kernel_rfl)
theorem Tu(w:World)(os:OsState):pc w os 163 PH 488 921 5 94 ⟨369,0,375,35⟩ Pa 523 973 ⟨393,0,397,35⟩:=pk (by kernel_rfl)
theorem TP(w:World)(os:OsState):pc w os 313 Pa 523 973 3 99 ⟨393,0,397,35⟩ Pb 556 1021 ⟨429,0,437,44⟩:=pk (by kernel_rfl)
theorem Sz(w:World)(os:OsState):pc w os 401 Pb 556 1021 6 102 ⟨429,0,437,44⟩ Pn 610 1091 ⟨465,0,467,61⟩:=pk (by kernel_rfl)
theorem TK(w:World)(os:OsState):pc w os 376 Pn 610 1091 5 108 ⟨465,0,467,61⟩ GG 657 1158 ⟨498,0,500,62⟩:=pk (by kernel_rfl)
theorem Sk(w:World)(os:OsState):pc w os 398 GG 657 1158 25 113 ⟨498,0,500,62⟩ Gp 713 1260 ⟨565,0,565,9⟩:=pk (by kernel_rfl)
theorem Sg(w:World)(os:OsState):pc w os 247 Gp 713 1260 3 138 ⟨565,0,565,9⟩ Pu 733 1293 ⟨568,0,571,26⟩:=pk (by kernel_rfl)
theorem RX(w:World)(os:OsState):pc w os 224 Pu 733 1293 1 141 ⟨568,0,571,26⟩ O5 754 1323 ⟨572,0,575,14⟩:=pk (by kernel_rfl)
theorem Sw(w:World)(os:OsState):pc w os 259 O5 754 1323 1 142 ⟨572,0,575,14⟩ Ph 782 1364 ⟨576,0,582,16⟩:=pk (by kernel_rfl)
theorem Tf(w:World)(os:OsState):pc w os 259 Ph 782 1364 1 143 ⟨576,0,582,16⟩ PA 810 1405 ⟨583,0,589,32⟩:=pk (by kernel_rfl)
theorem R3(w:World)(os:OsState):pc w os 223 PA 810 1405 1 144 ⟨583,0,589,32⟩ Px 831 1434 ⟨590,0,593,14⟩:=pk (by kernel_rfl)
theorem TM(w:World)(os:OsState):pc w os 441 Px 831 1434 1 145 ⟨590,0,593,14⟩ PU 894 1537 ⟨594,0,635,41⟩:=pk (by kernel_rfl)
theorem Su(w:World)(os:OsState):pc w os 355 PU 894 1537 12 146 ⟨594,0,635,41⟩ Pg 969 1644 ⟨727,0,727,8⟩:=pk (by kernel_rfl)
theorem SI(w:World)(os:OsState):pc w os 389 Pg 969 1644 12 158 ⟨727,0,727,8⟩ PY 1050 1760 ⟨791,0,792,98⟩:=pk (by kernel_rfl)
theorem S0(w:World)(os:OsState):pc w os 375 PY 1050 1760 12 170 ⟨791,0,792,98⟩ O0 1128 1876 ⟨891,0,903,80⟩:=pk (by kernel_rfl)
theorem Sm(w:World)(os:OsState):pc w os 100 O0 1128 1876 3 182 ⟨891,0,903,80⟩ Dl 1147 1911 ⟨939,0,966,15⟩:=pk (by kernel_rfl)
theorem MD:∀(k s:Nat)(l:List Stmt),dr s l=tk k (dr s l)++dr (s+k) l
|0,s,l=>rfl
|k+1,0,[]=>by rw[Nat.zero_add];rfl
|k+1,0,x::l=>by
 have h:=MD k 0 l;rw[Nat.zero_add] at h ⊢;exact congrArg (x::·) h
|k+1,s+1,[]=>by rw[show s+1+(k+1)=(s+1+k)+1 by omega];rfl
|k+1,s+1,x::l=>by rw[show s+1+(k+1)=(s+(k+1))+1 by omega];exact MD (k+1) s l
noncomputable abbrev C8:List Frame:=[topFrame ⟨0,0,0,0⟩]
theorem ic{w:World}{k s n N:Nat}{S S':SharedT}{r:Shared}{p p':Pos}(h:segRunT treeTable pw w 11 (some (.ref 6)) 1 n S (piecesOf (tk k (dr s bd)) en cE p C8)=some (.next,S',cE,p'))(k':topRun treeTable pw w 11 (some (.ref 6)) N S'.abs (restOf (dr (s+k) bd) en cE p' C8)=some r):topRun treeTable pw w 11 (some (.ref 6)) (n+N) S.abs (restOf (dr s bd) en cE p C8)=some r:=by
 rw[MD k s bd];exact piece_app (segRun_of h) k'
theorem pre(w:World)(os:OsState):topGo treeTable pw w 11 (some (.ref 6)) 12 ⟨boot_heap w.params,Array.mk [],boot_drawn,boot_toks,os⟩ (topStub pw)=some ((sh w.params (t0 w.params) 15 187 os).abs,⟨denote treeTable cE,cE,⟨0,0,0,0⟩,C8⟩):=by
 kernel_rfl
theorem SP(w:World)(os:OsState):segRun treeTable pw w 11 (some (.ref 6)) 1 1 (sh w.params (t0 w.params) 15 187 os).abs (blockOf bd en cE ⟨0,0,0,0⟩ C8)=some (.next,(sh w.params (t0 w.params) 15 187 os).abs,cE,⟨0,0,0,0⟩):=by kernel_rfl
noncomputable def hE(P:Params):Heap:=absHeap (Dl P) 1147 (boot_heap P).life
theorem fin(w:World)(os:OsState):topRun treeTable pw w 11 (some (.ref 6)) 2 (sh w.params (Dl w.params) 1147 1911 os).abs ⟨doneF .next,cE,⟨939,0,966,15⟩,C8⟩=some ⟨hE w.params,Array.mk [],boot_drawn,1911,os⟩:=by kernel_rfl
theorem Nr:dr 185 bd=[]:=by kernel_rfl
theorem Lv(w:World)(os:OsState):topRun treeTable pw w 11 (some (.ref 6)) 8410 ⟨boot_heap w.params,Array.mk [],boot_drawn,boot_toks,os⟩ (topStub pw)=some ⟨hE w.params,Array.mk [],boot_drawn,1911,os⟩:=by
 have h:=go_top (pre w os) (piece_block (SP w os) (ic (s:=0) (p0 w os)<|ic (s:=3) (p1 w os)<|ic (s:=4) (p2 w os)<|ic (s:=5) (p3 w os)<|ic (s:=6) (p4 w os)<|ic (s:=23) (p5 w os)<|ic (s:=44) (p6 w os)<|ic (s:=45) (p7 w os)<|ic (s:=46) (p8 w os)<|ic (s:=47) (p9 w os)<|ic (s:=48) (R0 w os)<|ic (s:=55) (S7 w os)<|ic (s:=67) (RY w os)<|ic (s:=79) (S2 w os)<|ic (s:=94) (Tu w os)<|ic (s:=99) (TP w os)<|ic (s:=102) (Sz w os)<|ic (s:=108) (TK w os)<|ic (s:=113) (Sk w os)<|ic (s:=138) (Sg w os)<|ic (s:=141) (RX w os)<|ic (s:=142) (Sw w os)<|ic (s:=143) (Tf w os)<|ic (s:=144) (R3 w os)<|ic (s:=145) (TM w os)<|ic (s:=146) (Su w os)<|ic (s:=158) (SI w os)<|ic (s:=170) (S0 w os)<|ic (s:=182) (Sm w os)<|(by rw[show dr 185 bd=[] from Nr];exact piece_nil (fin w os))));exact h
noncomputable def vq:Program:={pw with main:={pw.main with body:=[st 184]}}
noncomputable def k0:List Str->List DictEntry->List Str
|_,[]=>[]
|h,e::l=>match e.key with
 |.str s _=>if h.contains s then k0 h l else s::k0 h l
 |_=>k0 h l
theorem TQ(w:World):(fencedOpening treeTable pw w 16858).map (fun s=>(s.heap,s.gens,s.drawn,s.toks))=some (boot_heap w.params,Array.mk [],boot_drawn,boot_toks):=boot_open (by kernel_rfl) (by kernel_rfl) (fun s=>by kernel_rfl) w
theorem Ti(w:World):((boot_heap w.params).isNs mainGlobals&&(Array.mk []:Array GenState).size==0,(boot_heap w.params).objs.size,(boot_heap w.params).nsMap mainGlobals "__annotations__")=(true,11,some (.ref 6)):=by kernel_rfl
theorem R8(w:World)(os:OsState):(staticsOk (importedModules pw.main.body) (boot_heap w.params) (hE w.params)&&namesBound pw (hE w.params)&&gensDone ⟨hE w.params,Array.mk [],boot_drawn,1911,os⟩&&laidKept (boot_heap w.params) (hE w.params))=true:=by kernel_rfl
noncomputable def bn:List Stmt->List Str
|[]=>[]
|.FunctionDef n _ _ _ _ _ _ _ _ _::l=>n::bn l
|.ClassDef n _ _ _ _ _ _ _ _ _ _::l=>n::bn l
|.Assign [.Name n _] _ _::l=>if n=z "__name__" then bn l else n::bn l
|_::l=>bn l
noncomputable def CH:List Str:=bn (tk 184 bd)
theorem SW(w:World)(os:OsState):openSeen vq CH (importedModules pw.main.body) (fun _=>true) true ⟨hE w.params,Array.mk [],boot_drawn,1911,os⟩=openGood vq CH:=by
 rw[Fast.te4187177175401517315];kernel_rfl
abbrev I3(w:World)(h:Heap):Prop:=∀b o,(hE w.params).get? b=some o->h.get? b=some o
theorem left:LeftO pw vq CH (fun _=>true) (fun s=>s.heap) (fun w=>hE w.params) 16858 true:=
 LeftO.of_pieces (H₀:=boot_heap) (H₁:=hE) (gs₀:=Array.mk []) (gs₁:=Array.mk []) (d₀:=boot_drawn) (d₁:=boot_drawn) (k₀:=boot_toks) (k₁:=1911) (M:=8410) TQ Ti Lv (by kernel_rfl) fun w=>funext fun os=>Prod.ext (R8 w os) (Prod.ext (SW w os) rfl)
noncomputable def dl:DefRec:=⟨nm (st 184),ar (st 184),bo (st 184),sc (st 184),(st 184).pos⟩
theorem SX:defOf vq (Str.ofString "law")=some (dl,[]):=by kernel_rfl
theorem TS:pw.theDef (Str.ofString "law")=some (dl.params,dl.body,dl.scope):=by kernel_rfl
theorem Sv:kwWritten? dl.params.kwonlyargs dl.params.kw_defaults=some []:=by kernel_rfl
noncomputable abbrev hU:OpenLaw:=PySem.Challenge.rw_qd0081_01
theorem s2:noClassBlock hU.prog hU.footing=true:=by
 rw[Fast.te8179353310426384613];kernel_rfl
theorem s3:namesMeet hU.prog hU.above (fun _ n=>!hU.own.contains n)=true:=by
 rw[Fast.te17119622794617984870,Fast.te10792542408131684335];kernel_rfl
theorem s4:looksOpen pw=true:=by
 rw[Fast.te12908688711261696721];kernel_rfl
theorem s5:noRoadLSs {strict:=true,foot:=some hU.bound',writes:=hU.writes,may:=hU.may} hU.footing=true:=by
 rw[Fast.te8326940854005059898,Fast.te797321630700447069];kernel_rfl
theorem s6:hU.namesIt=true:=by
 rw[Fast.te16286561074155671207];kernel_rfl
theorem s7:hU.row.toRowW.solid=true:=by
 rw[Fast.te13582783067957832011];kernel_rfl
theorem s8:defStands hU.about hU.above=true:=by
 rw[Fast.te9558739934217749035];kernel_rfl
theorem said:hU.wellSaid=true:=by
 unfold OpenLaw.wellSaid;refine look_both (look_both (look_both (look_both (look_both (look_both (look_both (look_both (look_both (look_both (look_both (look_both (look_both (look_both (look_both (look_both (look_both (look_both ?_ ?_) ?_) ?_) ?_) ?_) ?_) ?_) ?_) ?_) ?_) ?_) ?_) ?_) ?_) ?_) ?_) ?_) ?_
 rotate_left
 ·kernel_rfl
 ·rw[Fast.te10501279942588096481];kernel_rfl
 ·exact s2
 ·kernel_rfl
 ·kernel_rfl
 ·exact s5
 ·exact s8
 ·exact s6
 ·kernel_rfl
 ·rw[Fast.te797321630700447069,Fast.te6984425678791042302];kernel_rfl
 ·kernel_rfl
 ·rw[Fast.te6984425678791042302];kernel_rfl
 ·rw[Fast.te17119622794617984870];kernel_rfl
 ·rw[Fast.te10792542408131684335];kernel_rfl
 ·rw[Fast.te10792542408131684335];kernel_rfl
 ·rw[Fast.te10792542408131684335];kernel_rfl
 ·exact s3
 ·rw[Fast.te17119622794617984870];kernel_rfl
 unfold OpenRow.wellSaid;refine look_both (look_both ?_ ?_) ?_
 rotate_left
 ·rw[Fast.te18344453789297297638];kernel_rfl
 ·kernel_rfl
 unfold OpenRow.partSaid;refine look_both (look_both (look_both (look_both (look_both (look_both (look_both (look_both (look_both (look_both (look_both (look_both (look_both ?_ ?_) ?_) ?_) ?_) ?_) ?_) ?_) ?_) ?_) ?_) ?_) ?_) ?_
 ·exact s4
 ·kernel_rfl
 ·kernel_rfl
 ·kernel_rfl
 ·kernel_rfl
 ·kernel_rfl
 ·kernel_rfl
 ·exact s7
 ·kernel_rfl
 ·kernel_rfl
 ·kernel_rfl
 ·kernel_rfl
 ·kernel_rfl
 ·kernel_rfl
theorem Sx:(chainsOk vq&&opensWell hU.row.prog&&(frees hU.row.toRowW&&hU.row.toRowW.within.isEmpty))=true:=by kernel_rfl
theorem TA:hU.row.toRowW.promised:=⟨[.list [.int 3,.int 1]],by kernel_rfl,by kernel_rfl⟩
theorem Tr:hU.row.prog.bare:=⟨rfl,rfl,rfl,rfl,rfl,by decide+kernel⟩
theorem QX(call:WalkO vq CH (fun _ _=>True) I3 hU.row.toRowW dl [] fun f vs=>PySem.call f vs):hU.Holds:=
 holds_law said fun k1=>holds_open (q:=vq) (loose:=CH) (Xt:=fun _=>true) (XP:=fun _ _=>True) (Yf:=fun s=>s.heap) (Ya:=fun w=>hE w.params) (YP:=I3) (N:=16858) left
 (fun w s e b o h=>by rw[show s.heap=hE w.params from e];exact h) (fun w h h' y k b o e=>k b o (y b o e)) (fun _ _=>trivial) (fun _ _ _ _ _=>trivial) SX TS Sv (fun s _=>recFacts_nil rfl) rfl k1 Sx Tr TA call
end
end ZH
namespace Mine
local macro_rules | `(tactic| walk_at "sy1") => do let l <- ("xq Ts wH Um Un Ue T9 T1 JN T7 Sl S9 Sq R5 SU TY TX Ru SJ Tp Uc Uk UR T5 RQ TC T4 Uo Uj Tc Ul To TV Tn TZ Ug T6 Ub SO RK Rz Rx Rv Ry Te TH RA Ui S1 Tg Ta SA T2 Ud Ua T8 U7 Vn U9 Vq U5 Uh Uy UG UB UD UI Ur Up Uv RC RJ Rm Tb Tx TJ SY Qr Ro QK RE RI Rl RH RG Rr Rw Rt Rq Rp Rn UJ UH Uu Us UE Uz UM UA Uq UC UK UL Uw in_str RB QZ Qy Qc QR Q4 Rk RL QD Rb Qd QW RD RF kX qi R6 SN R2 Vp Vl Vf Vt Vg Vs U6 UU Vj U0 UP UQ UN U4 U2 US Vd Ve UZ UX Vi U3 Vu Vm Vb Vr Vk U1 Vo Vc Ux UO Va UY Vv UW Vh UT U8".splitOn " ").toArray.mapM fun s => `(Lean.Parser.Tactic.simpLemma| ↓$(Lean.mkIdent (.str `Mine s)):ident); `(tactic| (refine (?f : (?G0 = ?g) -> ?G0) ?d; (case d => (simp -dsimp -implicitDefEqProofs only [-eq_self, $l,*]; exact rfl)); refine fun (hh : _ = ?S) => ?k2; refine (?k : ?S); clear hh))
local macro_rules | `(tactic| walk_at "sy2") => do let l <- ("Tw QQ Ql Po OY D4 FL FN NY RM FV".splitOn " ").toArray.mapM fun s => `(Lean.Parser.Tactic.simpLemma| ↓$(Lean.mkIdent (.str `Mine s)):ident); `(tactic| simp -dsimp -implicitDefEqProofs only [$l,*])
local macro_rules | `(tactic| walk_at "sy") => `(tactic| first | (walk_at "sy1"; repeat (walk_at "sy2"; try walk_at "sy1")) | (walk_at "sy2"; repeat (first | walk_at "sy1" | walk_at "sy2")))
local macro_rules | `(tactic| rwa [$rs,*]) => do let x ← rs.getElems.foldrM (fun r x => match r with | `(Lean.Parser.Tactic.rwRule| $t:term) => `($(Lean.mkIdent (.str (.str .anonymous "Mine") "d4")) $t $x) | _ => Lean.Macro.throwUnsupported) (← `(?_)); `(tactic| refine $x)
local macro_rules | `(tactic| symm) => `(tactic| walk_at "sy")
local macro_rules | `(tactic| ac_rfl) => `(tactic| kernel_rfl)
local macro_rules | `(tactic| show $t) => `(tactic| first | refine $t | refine (?_ : $t))
local macro_rules | `(%[ $xs,* | $k ]) => do if k.raw.isIdent then Lean.Macro.throwUnsupported else return (← xs.getElems.foldrM (fun x r => `(.cons $x $r)) k).raw
local macro_rules (kind := Lean.Parser.Term.quotedName) | x => do let ns := (x[0].isNameLit?.getD .anonymous).toString.toList.toArray.map fun c => Lean.Syntax.mkNumLit (toString c.toNat); `([$ns,*])
open PySem PySem.W PyProof.Rows
section
@[elab_as_elim] theorem d4{α:Sort _}{a b:α}{P:α->Prop}(h:b=a)(k:P a):P b:=h▸k
theorem fx{a1 a2:Prop}{P:Prop}(h:a1/\a2)(k:a1->a2->P):P:=k h.1 h.2
theorem fv{aK:Sort _}{a1:aK->Prop}{P:Prop}(h:∃x1,a1 x1)(k:∀x1,a1 x1->P):P:=h.elim k
theorem gp{a1 a2 a3:Prop}{P:Prop}(h:a1/\a2/\a3)(k:a1->a2->a3->P):P:=k h.1 h.2.1 h.2.2
theorem d6{aK:Sort _}{a1 a2:aK->Prop}{P:Prop}(h:∃x1,a1 x1/\a2 x1)(k:∀x1,a1 x1->a2 x1->P):P:=h.elim λx h=>k x h.1 h.2
theorem jb{aK:Sort _}{aT:Sort _}{a1:aK->aT->Prop}{P:Prop}(h:∃x1,∃x2,a1 x1 x2)(k:∀x1 x2,a1 x1 x2->P):P:=h.elim λx h=>fv h (k x)
theorem iS{a1 a2 a3 a4:Prop}{P:Prop}(h:a1/\a2/\a3/\a4)(k:a1->a2->a3->a4->P):P:=k h.1 h.2.1 h.2.2.1 h.2.2.2
theorem kQ{aK:Sort _}{a1 a2 a3:aK->Prop}{P:Prop}(h:∃x1,a1 x1/\a2 x1/\a3 x1)(k:∀x1,a1 x1->a2 x1->a3 x1->P):P:=h.elim λx h=>k x h.1 h.2.1 h.2.2
theorem lx{aK:Sort _}{aT:Sort _}{a1 a2:aK->aT->Prop}{P:Prop}(h:∃x1,∃x2,a1 x1 x2/\a2 x1 x2)(k:∀x1 x2,a1 x1 x2->a2 x1 x2->P):P:=h.elim λx h=>d6 h (k x)
theorem Sr{aK:Sort _}{aT:Sort _}{bk:Sort _}{a1:aK->aT->bk->Prop}{P:Prop}(h:∃x1,∃x2,∃x3,a1 x1 x2 x3)(k:∀x1 x2 x3,a1 x1 x2 x3->P):P:=h.elim λx h=>jb h (k x)
theorem Fu{a1 a2 a3 a4 a5:Prop}{P:Prop}(h:a1/\a2/\a3/\a4/\a5)(k:a1->a2->a3->a4->a5->P):P:=k h.1 h.2.1 h.2.2.1 h.2.2.2.1 h.2.2.2.2
theorem yC{aK:Sort _}{a1 a2 a3 a4:aK->Prop}{P:Prop}(h:∃x1,a1 x1/\a2 x1/\a3 x1/\a4 x1)(k:∀x1,a1 x1->a2 x1->a3 x1->a4 x1->P):P:=h.elim λx h=>k x h.1 h.2.1 h.2.2.1 h.2.2.2
theorem jE{aK:Sort _}{aT:Sort _}{a1 a2 a3:aK->aT->Prop}{P:Prop}(h:∃x1,∃x2,a1 x1 x2/\a2 x1 x2/\a3 x1 x2)(k:∀x1 x2,a1 x1 x2->a2 x1 x2->a3 x1 x2->P):P:=h.elim λx h=>kQ h (k x)
theorem uI{aK:Sort _}{aT:Sort _}{bk:Sort _}{a1 a2:aK->aT->bk->Prop}{P:Prop}(h:∃x1,∃x2,∃x3,a1 x1 x2 x3/\a2 x1 x2 x3)(k:∀x1 x2 x3,a1 x1 x2 x3->a2 x1 x2 x3->P):P:=h.elim λx h=>lx h (k x)
theorem Ss{aK:Sort _}{aT:Sort _}{bk:Sort _}{cf:Sort _}{a1:aK->aT->bk->cf->Prop}{P:Prop}(h:∃x1,∃x2,∃x3,∃x4,a1 x1 x2 x3 x4)(k:∀x1 x2 x3 x4,a1 x1 x2 x3 x4->P):P:=h.elim λx h=>Sr h (k x)
theorem Mc{a1 a2 a3 a4 a5 a6:Prop}{P:Prop}(h:a1/\a2/\a3/\a4/\a5/\a6)(k:a1->a2->a3->a4->a5->a6->P):P:=k h.1 h.2.1 h.2.2.1 h.2.2.2.1 h.2.2.2.2.1 h.2.2.2.2.2
theorem Th{aK:Sort _}{a1 a2 a3 a4 a5:aK->Prop}{P:Prop}(h:∃x1,a1 x1/\a2 x1/\a3 x1/\a4 x1/\a5 x1)(k:∀x1,a1 x1->a2 x1->a3 x1->a4 x1->a5 x1->P):P:=h.elim λx h=>k x h.1 h.2.1 h.2.2.1 h.2.2.2.1 h.2.2.2.2
theorem ym{aK:Sort _}{aT:Sort _}{a1 a2 a3 a4:aK->aT->Prop}{P:Prop}(h:∃x1,∃x2,a1 x1 x2/\a2 x1 x2/\a3 x1 x2/\a4 x1 x2)(k:∀x1 x2,a1 x1 x2->a2 x1 x2->a3 x1 x2->a4 x1 x2->P):P:=h.elim λx h=>yC h (k x)
theorem zb{aK:Sort _}{aT:Sort _}{bk:Sort _}{a1 a2 a3:aK->aT->bk->Prop}{P:Prop}(h:∃x1,∃x2,∃x3,a1 x1 x2 x3/\a2 x1 x2 x3/\a3 x1 x2 x3)(k:∀x1 x2 x3,a1 x1 x2 x3->a2 x1 x2 x3->a3 x1 x2 x3->P):P:=h.elim λx h=>jE h (k x)
theorem R7{aK:Sort _}{aT:Sort _}{bk:Sort _}{cf:Sort _}{cO:Sort _}{a1:aK->aT->bk->cf->cO->Prop}{P:Prop}(h:∃x1,∃x2,∃x3,∃x4,∃x5,a1 x1 x2 x3 x4 x5)(k:∀x1 x2 x3 x4 x5,a1 x1 x2 x3 x4 x5->P):P:=h.elim λx h=>Ss h (k x)
theorem w5{aK:Sort _}{aT:Sort _}{a1 a2 a3 a4 a5:aK->aT->Prop}{P:Prop}(h:∃x1,∃x2,a1 x1 x2/\a2 x1 x2/\a3 x1 x2/\a4 x1 x2/\a5 x1 x2)(k:∀x1 x2,a1 x1 x2->a2 x1 x2->a3 x1 x2->a4 x1 x2->a5 x1 x2->P):P:=h.elim λx h=>Th h (k x)
theorem AM{aK:Sort _}{aT:Sort _}{bk:Sort _}{a1 a2 a3 a4:aK->aT->bk->Prop}{P:Prop}(h:∃x1,∃x2,∃x3,a1 x1 x2 x3/\a2 x1 x2 x3/\a3 x1 x2 x3/\a4 x1 x2 x3)(k:∀x1 x2 x3,a1 x1 x2 x3->a2 x1 x2 x3->a3 x1 x2 x3->a4 x1 x2 x3->P):P:=h.elim λx h=>ym h (k x)
theorem Tv{aK:Sort _}{aT:Sort _}{bk:Sort _}{cf:Sort _}{cO:Sort _}{dR:Sort _}{a1:aK->aT->bk->cf->cO->dR->Prop}{P:Prop}(h:∃x1,∃x2,∃x3,∃x4,∃x5,∃x6,a1 x1 x2 x3 x4 x5 x6)(k:∀x1 x2 x3 x4 x5 x6,a1 x1 x2 x3 x4 x5 x6->P):P:=h.elim λx h=>R7 h (k x)
@[elab_as_elim] theorem SQ{α:Sort _}{G:α->Prop}{x:α}(h:∀P:α->Prop,(∀y,G y->P y)->P x):G x:=h G λ_ g=>g
theorem eP{n a b:Nat}(h:Nat.ble a b=true):n+a<=n+b:=Nat.add_le_add_left (Nat.le_of_ble_eq_true h) n
theorem fY{x a b:Nat}(k:x<=a)(h:Nat.ble a b=true):x<=b:=Nat.le_trans k (Nat.le_of_ble_eq_true h)
theorem ju{a b:Nat}:a<=b+a:=Nat.le_add_left a b
theorem AD{a b:Nat}:a<=a+b:=Nat.le_add_right a b
@[reducible] noncomputable def sH(s:PySem.Shared)(h:PySem.Heap):PySem.Shared:={s with heap:=h}
theorem dt{p:Prop}[Decidable p](h:decide p=true):p:=of_decide_eq_true h
theorem JA{c a b:Prop}[Decidable c](h1:c->a)(h2:¬c->b):if c then a else b:=by
 by_cases h:c
 ·show(if_pos h).symm▸h1 h
 ·show(if_neg h).symm▸h2 h
theorem og{n:Nat}:0<=(n:Int):=Int.natCast_nonneg n
end
section
open PySem PySem.W
noncomputable def mR:List (Addr×List Nat×Addr):=[
 (140,`__init__,137),
 (161,`call,158),
 (182,`__init__,179),
 (203,`__init__,200),
 (539,`call,536),
 (572,`call,569),
 (633,`call,630),
 (749,`look,746),
 (777,`bind,767),
 (777,`assign,774),
 (805,`make,795),
 (805,[117,112],802),
 (826,`lay,823),
 (889,`__init__,844),
 (889,`value,851),
 (889,`run,858),
 (889,`call,865),
 (889,`throw,872),
 (889,`fault,879),
 (889,`look,886)]
noncomputable def jP:List (Addr×List (List Nat)):=[
 (140,[`number,`sort,`names,`slots,`getters,`setters,`proto,`items,`code,`native,`home]),
 (161,[]),
 (182,[`things,`natives]),
 (203,[`cells,[117,112]]),
 (539,[]),
 (572,[]),
 (633,[]),
 (749,[]),
 (777,[]),
 (805,[]),
 (826,[]),
 (889,[`heap,`exprs,`stmts,`steps,`most,`deep,`most_deep,`out,`env,`globals,`this,`home,`told,`watch,`protos,`class_protos,`binder,`maker,`hoister,`raised,`calling])]
noncomputable abbrev jH:Addr:=100
noncomputable abbrev jI:Addr:=120
noncomputable abbrev sG:Addr:=539
noncomputable abbrev ph:Addr:=572
noncomputable abbrev oZ:Addr:=633
noncomputable abbrev fN:Addr:=729
noncomputable abbrev s9:Addr:=749
noncomputable abbrev kL:Addr:=777
noncomputable abbrev xK:Addr:=805
noncomputable abbrev tg:Addr:=826
end
section
open PySem PySem.W PyProof.Rows
inductive eT{α β:Type}(R:α->β->Prop):List α->List β->Prop
 |nil:eT R [] []
 |cons {a b l l'}:R a b->eT R l l'->eT R (a::l) (b::l')
namespace eT
variable{α β γ:Type}{R S:α->β->Prop}
theorem length{l:List α}{l':List β}(h:eT R l l'):l.length=l'.length:=by
 induction h with
 |nil=>rfl
 |cons _ _ ih=>simp[ih]
theorem mono{l:List α}{l':List β}(h:eT R l l')(f:∀a b,R a b->S a b):eT S l l':=by
 induction h with
 |nil=>show .nil
 |cons h _ ih=>show .cons (f _ _ h) ih
theorem append{l m:List α}{l' m':List β}(h:eT R l l')(k:eT R m m'):eT R (l++m) (l'++m'):=by
 induction h with
 |nil=>show k
 |cons h _ ih=>show .cons h ih
theorem get{l:List α}{l':List β}(h:eT R l l'):∀{i:Nat} {a:α},l[i]?=some a->∃b,l'[i]?=some b/\R a b:=by
 induction h with
 |nil=>intro i a e;simp at e
 |cons h _ ih=>
  intro i a e;cases i with
  |zero=>simp at e;subst e;show⟨_,by simp,h⟩
  |succ i=>simp at e;obtain⟨b,hb,r⟩:=ih e;show⟨b,by simpa using hb,r⟩
theorem Ut{l:List α}{l':List β}(h:eT R l l'):∀{i:Nat} {b:β},l'[i]?=some b->∃a,l[i]?=some a/\R a b:=by
 induction h with
 |nil=>intro i a e;simp at e
 |cons h _ ih=>
  intro i b e;cases i with
  |zero=>simp at e;subst e;show⟨_,by simp,h⟩
  |succ i=>simp at e;obtain⟨a,ha,r⟩:=ih e;show⟨a,by simpa using ha,r⟩
theorem take{l:List α}{l':List β}(h:eT R l l'):∀n,eT R (l.take n) (l'.take n):=by
 induction h with
 |nil=>intro n;simp;show .nil
 |cons h _ ih=>intro n;cases n with
  |zero=>show .nil
  |succ n=>show .cons h (ih n)
theorem drop{l:List α}{l':List β}(h:eT R l l'):∀n,eT R (l.drop n) (l'.drop n):=by
 induction h with
 |nil=>intro n;simp;show .nil
 |cons h t ih=>intro n;cases n with
  |zero=>show .cons h t
  |succ n=>simpa using ih n
theorem reverse{l:List α}{l':List β}(h:eT R l l'):eT R l.reverse l'.reverse:=by
 induction h with
 |nil=>show .nil
 |cons h _ ih=>simp only[List.reverse_cons];show ih.append (.cons h .nil)
theorem set{l:List α}{l':List β}(h:eT R l l'){a:α}{b:β}(r:R a b):∀i,eT R (l.set i a) (l'.set i b):=by
 induction h with
 |nil=>intro i;simp;show .nil
 |cons h t ih=>intro i;cases i with
  |zero=>show .cons r t
  |succ i=>show .cons h (ih i)
theorem mem{l:List α}{l':List β}(h:eT R l l'):∀a∈l,∃b∈l',R a b:=by
 induction h with
 |nil=>intro a h;cases h
 |cons h _ ih=>intro a ha;cases ha with
  |head=>show⟨_,.head _,h⟩
  |tail _ ha=>obtain⟨b,hb,r⟩:=ih a ha;show⟨b,.tail _ hb,r⟩
theorem memR{l:List α}{l':List β}(h:eT R l l'):∀b∈l',∃a∈l,R a b:=by
 induction h with
 |nil=>intro a h;cases h
 |cons h _ ih=>intro a ha;cases ha with
  |head=>show⟨_,.head _,h⟩
  |tail _ ha=>obtain⟨b,hb,r⟩:=ih a ha;show⟨b,.tail _ hb,r⟩
end eT
set_option genCtorIdx true in
inductive V where
 |none
 |bool (b:Bool)
 |int (i:Int)
 |str (l:List Nat)
 |tup (xs:List V)
 |lst (xs:List V)
 |dct (kvs:List (V×V))
 |sdct (kvs:List (List Nat×V))
 |loc (l:Nat)
 |inst (C:Addr) (d:Nat)
 |stat (a:Addr)
 |rng (a b:Int)
 deriving Inhabited
inductive fA where
 |lst (xs:List V)
 |sd (kvs:List (List Nat×V))
 |nd (kvs:List (Int×V))
 |dead
 deriving Inhabited
abbrev Hp:=List fA
noncomputable def eh:Nat:=16777216
noncomputable def sv(l:List Nat):Str:=⟨l.toArray⟩
abbrev gd(l:List Nat):Prop:=l.length<=eh/\∀c∈l,c<1114112
theorem lh{a b:List Nat}(h:sv a=sv b):a=b:=by
 unfold sv at h;injection h with h;show List.toArray_inj h
noncomputable abbrev pw:Program:=PySem.Challenge.pw_qd0081_01
structure Bj(K:Frag)(C:Addr)(ns:List (List Nat)):Prop where
 ga:findIn K (.ref C) "__getattribute__" =some (some (.builtin "object.__getattribute__"))
 gt:findIn K (.ref C) "__getattr__" =some none
 hd:hasDictIn K C=true
 sa:findIn K (.ref C) "__setattr__" =some (some (.builtin "object.__setattr__"))
 po:plainOver K C=true
 makes:makesIn K C=true
 own:∀n∈ns,findIn K (.ref C) (sv n)=some none
structure eD where
 w:World
 K:Frag
 h₀:Heap
 mg:Str->Option Value
 mb:Str->Option Value
 inK:K.In h₀
 g:h₀.Ns mainGlobals mg
 b:h₀.Ns builtinsNs mb
 builtins:∀x:Str,x≠ "__name__" ->mb x=bootBuiltins x
 nolimit:h₀.NoLimit
 last:∃o,h₀.get? (h₀.objs.size-1)=some o
 nodigits:∃mc,h₀.Ns cStatics mc/\mc "sys.int_max_str_digits" =none
 cls:∀C ns,(C,ns)∈jP->Bj K C ns
 meth:∀C n f,(C,n,f)∈mR->findIn K (.ref C) (sv n)=some (some (.ref f))/\typeIn K (.ref f)=some (.type "function")
noncomputable abbrev eD.M(B:eD):Model:=model pw B.w
noncomputable def eZ(items:Array Value)(n:Nat):Obj:={cls:=.type "list",data:=.seq items n}
noncomputable def sN(items:Array Value)(n:Nat):Obj:={cls:=.type "tuple",data:=.seq items n}
inductive Rep(B:eD)(F:Addr->Option Obj)(ι:List Addr):V->Value->Prop
 |none:Rep B F ι .none .none
 |bool {b}:Rep B F ι (.bool b) (.bool b)
 |int {i t}:Rep B F ι (.int i) (.int i t)
 |str {l t}:gd l->Rep B F ι (.str l) (.str (sv l) t)
 |tup {xs a items n}:F a=some (sN items n)->eT (Rep B F ι) xs items.toList->xs.length<=eh->Rep B F ι (.tup xs) (.ref a)
 |lst {xs a items n}:F a=some (eZ items n)->eT (Rep B F ι) xs items.toList->xs.length<=eh->Rep B F ι (.lst xs) (.ref a)
 |sdct {kvs vs a o}:F a=some o->o.IsDictOf (strKind pw B.w) vs->vs.map (·.1)=kvs.map (λkv=>sv kv.1)->eT (Rep B F ι) (kvs.map (·.2)) (vs.map (·.2))->(a==sysModules)=false->Rep B F ι (.sdct kvs) (.ref a)
 |loc {l a}:ι[l]?=some a->Rep B F ι (.loc l) (.ref a)
 |inst {C d a dx sl}:F a=some ⟨.ref C,some dx,.plain,sl⟩->ι[d]?=some dx->Rep B F ι (.inst C d) (.ref a)
 |rng {a b r t u v}:F r=some {cls:=.type "range",data:=.fields #[.int a t,.int b u,.int 1 v]}->Rep B F ι (.rng a b) (.ref r)
 |stat {a}:Rep B F ι (.stat a) (.ref a)
theorem Rep.mono{B:eD}{F F':Addr->Option Obj}{ι cP:List Addr}(hF:∀a o,F a=some o->F' a=some o)(aQ:∀(l:Nat) (a:Addr),ι[l]?=some a->cP[l]?=some a){d:V}{v:Value}(h:Rep B F ι d v):Rep B F' cP d v:=by
 induction h using Rep.rec (motive_2:=λxs vs _=>eT (Rep B F' cP) xs vs) with
 |none=>show .none
 |bool=>show .bool
 |int=>show .int
 |str h=>show .str h
 |tup h1 _ k ih=>show .tup (hF _ _ h1) ih k
 |lst h1 _ k ih=>show .lst (hF _ _ h1) ih k
 |sdct h1 h2 h3 _ k ih=>show .sdct (hF _ _ h1) h2 h3 ih k
 |loc h=>show .loc (aQ _ _ h)
 |inst h1 h2=>show .inst (hF _ _ h1) (aQ _ _ h2)
 |rng h1=>show .rng (hF _ _ h1)
 |stat=>show .stat
 |nil=>show .nil
 |cons _ _ ih1 ih2=>show .cons ih1 ih2
def Qa(B:eD)(F:Addr->Option Obj)(ι:List Addr):V->Value->Prop
 |.none,v=>v=.none
 |.bool b,v=>v=.bool b
 |.int i,v=>∃t,v=.int i t
 |.str l,v=>∃t,v=.str (sv l) t/\gd l
 |.tup xs,v=>∃a items n,v=.ref a/\F a=some (sN items n)/\eT (Rep B F ι) xs items.toList/\xs.length<=eh
 |.lst xs,v=>∃a items n,v=.ref a/\F a=some (eZ items n)/\eT (Rep B F ι) xs items.toList/\xs.length<=eh
 |.sdct kvs,v=>∃vs a o,v=.ref a/\F a=some o/\o.IsDictOf (strKind pw B.w) vs/\vs.map (·.1)=kvs.map (λkv=>sv kv.1)/\eT (Rep B F ι) (kvs.map (·.2)) (vs.map (·.2))/\(a==sysModules)=false
 |.loc l,v=>∃a,v=.ref a/\ι[l]?=some a
 |.inst C d,v=>∃a dx sl,v=.ref a/\F a=some ⟨.ref C,some dx,.plain,sl⟩/\ι[d]?=some dx
 |.rng a b,v=>∃r t u w,v=.ref r/\F r=some {cls:=.type "range",data:=.fields #[.int a t,.int b u,.int 1 w]}
 |.stat a,v=>v=.ref a
 |.dct _,_=>False
theorem Rep.inv{B:eD}{F:Addr->Option Obj}{ι:List Addr}{d:V}{v:Value}(r:Rep B F ι d v):Qa B F ι d v:=by
 cases r with
 |none=>rfl
 |bool=>rfl
 |int=>show⟨_,rfl⟩
 |str h=>show⟨_,rfl,h⟩
 |tup h1 h2 h3=>show⟨_,_,_,rfl,h1,h2,h3⟩
 |lst h1 h2 h3=>show⟨_,_,_,rfl,h1,h2,h3⟩
 |sdct h1 h2 h3 h4 h5=>show⟨_,_,_,rfl,h1,h2,h3,h4,h5⟩
 |loc h=>show⟨_,rfl,h⟩
 |inst h1 h2=>show⟨_,_,_,rfl,h1,h2⟩
 |rng h=>show⟨_,_,_,_,rfl,h⟩
 |stat=>rfl
structure Wd where
 F:Addr->Option Obj
 ι:List Addr
abbrev Wd.Rep(W:Wd)(B:eD):V->Value->Prop:=Mine.Rep B W.F W.ι
abbrev Wd.RepL(W:Wd)(B:eD):List V->List Value->Prop:=eT (W.Rep B)
def jv(B:eD)(W:Wd):fA->Obj->Prop
 |.lst xs,o=>∃items n,o=eZ items n/\W.RepL B xs items.toList/\xs.length<=eh
 |.sd kvs,o=>∃vs,o.IsDictOf (strKind pw B.w) vs/\eT (λkv p=>p.1=sv kv.1/\W.Rep B kv.2 p.2) kvs vs
 |.nd kvs,o=>∃vs,o.IsDictOf (intKind pw B.w) vs/\eT (λkv p=>p.1=kv.1/\W.Rep B kv.2 p.2) kvs vs
 |.dead,_=>True
theorem jv.mono{B:eD}{W W':Wd}(h:∀d v,W.Rep B d v->W'.Rep B d v){x:fA}{o:Obj}(r:jv B W x o):jv B W' x o:=by
 cases x with
 |lst xs=>show jE r λi n e r k=>?_;show⟨i,n,e,r.mono h,k⟩
 |sd kvs=>show d6 r λvs e r=>?_;show⟨vs,e,r.mono λa b q=>⟨q.1,h _ _ q.2⟩⟩
 |nd kvs=>show d6 r λvs e r=>?_;show⟨vs,e,r.mono λa b q=>⟨q.1,h _ _ q.2⟩⟩
 |dead=>trivial
noncomputable abbrev frs(stk:List Env):List Addr:=stk.filterMap (·.frame)
inductive Oj(W:Wd)(h:Heap)(env:Env):Prop
 |mk (k:env.scope.kind≠.module) (L:Addr) (o:Obj) (e:env.frame=some L) (g:h.get? L=some o) (d:∀vs,o.data≠.fields vs) (f:W.F L=none) (n:L∉W.ι)
structure ef(B:eD)(stk:List Env)(W:Wd)(J:Hp)(h:Heap):Prop where
 base:∀a o,B.h₀.get? a=some o->W.F a=some o
 frozen:∀a o,W.F a=some o->h.get? a=some o
 len:W.ι.length=J.length
 nodup:W.ι.Nodup
 sep:∀a∈W.ι,W.F a=none
 low:∀a∈W.ι,B.h₀.objs.size<=a
 size:B.h₀.objs.size<=h.objs.size
 objs:∀(l:Nat) (x:fA) (a:Addr),J[l]?=some x->W.ι[l]?=some a->∃o,h.get? a=some o/\jv B W x o
 frames:∀env∈stk,Oj W h env
structure eA(S:List Addr)(W:Wd)(h:Heap)(W':Wd)(h':Heap):Prop where
 F:∀a o,W.F a=some o->W'.F a=some o
 ι:W.ι<+:W'.ι
 newι:∀a∈W'.ι,a∉W.ι->h.get? a=none
 newF:∀a,(W'.F a).isSome=true->W.F a=none->h.get? a=none\/a∈W.ι
 keep:∀a o,h.get? a=some o->a∉W.ι->∃sl,h'.get? a=some {o with slots:=sl}/\(a∉S->sl=o.slots)
namespace eA
variable{S S':List Addr}{W W' W'':Wd}{h h' h'':Heap}
theorem refl(S:List Addr)(W:Wd)(h:Heap):eA S W h W h where
 F _ _ e:=e
 ι:=List.prefix_refl _
 newι _ h k:=absurd h k
 newF _ a b:=by rw[b] at a;cases a
 keep _ o e _:=⟨o.slots,e,λ_=>rfl⟩
theorem ιget(x:eA S W h W' h'):∀(l:Nat) (a:Addr),W.ι[l]?=some a->W'.ι[l]?=some a:=by
 intro l a e;obtain⟨t,ht⟩:=x.ι;rw[<-ht,List.getElem?_append_left (List.getElem?_eq_some_iff.mp e).1];show e
theorem rep{B:eD}(x:eA S W h W' h'){d v}(r:W.Rep B d v):W'.Rep B d v:=r.mono x.F x.ιget
theorem repL{B:eD}(x:eA S W h W' h'){d v}(r:W.RepL B d v):W'.RepL B d v:=eT.mono r λ_ _=>x.rep
theorem memι(x:eA S W h W' h'){a}(e:a∈W.ι):a∈W'.ι:=x.ι.subset e
theorem trans(x:eA S W h W' h')(y:eA S W' h' W'' h''):eA S W h W'' h'' where
 F a o e:=y.F a o (x.F a o e)
 ι:=x.ι.trans y.ι
 newι a m n:=by
  by_cases q:a∈W'.ι
  ·show x.newι a q n
  ·have:=y.newι a m q;cases e:h.get? a with
   |none=>rfl
   |some o=>obtain⟨sl,e',_⟩:=x.keep a o e n;rw[this] at e';cases e'
 newF a m n:=by
  by_cases k:a∈W.ι
  ·show .inr k
  left;cases q:W'.F a with
  |some o=>show(x.newF a (by rw[q];rfl) n).resolve_right k
  |none=>
   rcases y.newF a m q with r|r
   ·cases e:h.get? a with
    |none=>rfl
    |some o=>obtain⟨sl,e',_⟩:=x.keep a o e k;rw[r] at e';cases e'
   ·show x.newι a r k
 keep a o e n:=by
  obtain⟨sl,e1,k1⟩:=x.keep a o e n;have n':a∉W'.ι:=λm=>by have:=x.newι a m n;rw[e] at this;cases this
  obtain⟨sl',e2,k2⟩:=y.keep a _ e1 n';show⟨sl',e2,λf=>(k2 f).trans (k1 f)⟩
theorem outF(x:eA S W h W' h'){a o}(e:h.get? a=some o)(n:a∉W.ι)(f:W.F a=none):W'.F a=none:=by
 cases q:W'.F a with
 |none=>rfl
 |some o'=>
  rcases x.newF a (by rw[q];rfl) f with r|r
  ·rw[e] at r;cases r
  ·show absurd r n
theorem outι(x:eA S W h W' h'){a o}(e:h.get? a=some o)(n:a∉W.ι):a∉W'.ι:=λm=>by
 have:=x.newι a m n;rw[e] at this;cases this
theorem exact_(x:eA S W h W' h'){a o}(e:h.get? a=some o)(n:a∉W.ι)(f:a∉S):h'.get? a=some o:=by
 obtain⟨sl,e',k⟩:=x.keep a o e n;rw[e',k f]
theorem mono(x:eA S W h W' h')(k:∀a o,h.get? a=some o->a∈S->a∈S'):eA S' W h W' h' where
 F:=x.F
 ι:=x.ι
 newι:=x.newι
 newF:=x.newF
 keep a o e n:=let⟨sl,e',f⟩:=x.keep a o e n;⟨sl,e',λg=>f λm=>g (k a o e m)⟩
end eA
noncomputable def Gt:List (List Nat×V):=[
 (`_wall,.stat 21),
 (`KeepError,.stat 39),
 (`LeftOut,.stat 60),
 (`RunBound,.stat 80),
 (`NumberOut,.stat 100),
 (`HostFault,.stat 120),
 (`V_UNDEF,.int 0),
 (`V_NULL,.int 1),
 (`V_BOOL,.int 2),
 (`V_NUM,.int 3),
 (`V_NAN,.int 4),
 (`V_STR,.int 5),
 (`V_OBJ,.int 6),
 (`O_PLAIN,.int 0),
 (`O_ARRAY,.int 1),
 (`O_FUNC,.int 2),
 (`O_ERROR,.int 3),
 (`P_OBJECT,.int 0),
 (`P_ARRAY,.int 1),
 (`P_FUNC,.int 2),
 (`P_ERROR,.int 3),
 (`P_STRING,.int 4),
 (`P_NUMBER,.int 5),
 (`N_PRINT,.int 101),
 (`N_STRING,.int 102),
 (`N_NUMBER,.int 103),
 (`N_ERROR,.int 104),
 (`N_CHAR_AT,.int 201),
 (`N_TEXT_INDEX_OF,.int 202),
 (`N_TEXT_INCLUDES,.int 203),
 (`N_TEXT_SLICE,.int 204),
 (`N_UPPER,.int 205),
 (`N_LOWER,.int 206),
 (`N_TEXT_CONCAT,.int 207),
 (`N_NUMBER_TEXT,.int 301),
 (`MOST_NUMBER,.int 9007199254740991),
 (`MOST_ITEMS,.int 4096),
 (`MOST_TEXT,.int 1048576),
 (`MOST_NESTED,.int 15),
 (`MOST_PLACE,.int 4294967294),
 (`BLANKS,.str [32,9,10,13,11,12,160,5760,8192,8193,8194,8195,8196,8197,8198,8199,8200,8201,8202,8232,8233,8239,8287,12288,65279]),
 (`DIGITS,.str [48,49,50,51,52,53,54,55,56,57,97,98,99,100,101,102]),
 (`PREFIX_BASES,.sdct [([48,120],.int 16),([48,111],.int 8),([48,98],.int 2)]),
 (`Thing,.stat 140),
 (`NativeGroup,.stat 161),
 (`Heap,.stat 182),
 (`Env,.stat 203),
 (`undef_value,.stat 214),
 (`bool_value,.stat 221),
 (`num_value,.stat 228),
 (`new_thing,.stat 235),
 (`run_of_digits,.stat 242),
 (`values_place_of,.stat 249),
 (`text_prop,.stat 256),
 (`item_prop,.stat 263),
 (`has_name,.stat 270),
 (`thing_prop,.stat 277),
 (`get_prop,.stat 284),
 (`set_length,.stat 291),
 (`set_item,.stat 298),
 (`set_own,.stat 305),
 (`hide_name,.stat 312),
 (`is_callable,.stat 319),
 (`error_text,.stat 326),
 (`open_text,.stat 333),
 (`items_text,.stat 340),
 (`object_text,.stat 347),
 (`to_text_in,.stat 354),
 (`to_text,.stat 361),
 (`trimmed,.stat 368),
 (`digits_value,.stat 375),
 (`base_of_prefix,.stat 382),
 (`is_other_number,.stat 389),
 (`text_number,.stat 396),
 (`to_number,.stat 403),
 (`prim_value,.stat 410),
 (`text_bound,.stat 417),
 (`error_thing,.stat 424),
 (`DEED_CALL,.int 1),
 (`CELL_CONST,.int 2),
 (`DIGIT_SIGNS,.str [48,49,50,51,52,53,54,55,56,57,97,98,99,100,101,102,103,104,105,106,107,108,109,110,111,112,113,114,115,116,117,118,119,120,121,122]),
 (`TEXT_LIB,.tup [.tup [.str `charAt,.int 201],.tup [.str `indexOf,.int 202],.tup [.str `includes,.int 203],.tup [.str `slice,.int 204],.tup [.str `toUpperCase,.int 205],.tup [.str `toLowerCase,.int 206],.tup [.str `concat,.int 207]]),
 (`NUMBER_LIB,.tup [.tup [.str `toString,.int 301]]),
 (`GLOBAL_LIB,.tup [.tup [.str `print,.int 101],.tup [.str `String,.int 102],.tup [.str `Number,.int 103]]),
 (`call_native,.stat 445),
 (`arg_at,.stat 452),
 (`runlib_whole_of,.stat 459),
 (`runlib_place_in,.stat 466),
 (`front_place,.stat 473),
 (`text_of_this,.stat 480),
 (`runlib_joined,.stat 487),
 (`text_char_at,.stat 494),
 (`text_index_of,.stat 501),
 (`text_includes,.stat 508),
 (`text_slice,.stat 515),
 (`text_concat,.stat 522),
 (`TextLib,.stat 539),
 (`digits_in,.stat 548),
 (`number_text,.stat 555),
 (`NumberLib,.stat 572),
 (`lib_print,.stat 581),
 (`lib_string,.stat 588),
 (`lib_number,.stat 595),
 (`is_error_child,.stat 602),
 (`is_made_error,.stat 609),
 (`lib_error,.stat 616),
 (`GlobalLib,.stat 633),
 (`native_value,.stat 642),
 (`put_natives,.stat 649),
 (`put_proto,.stat 656),
 (`install_protos,.stat 663),
 (`install_texts,.stat 670),
 (`install_numbers,.stat 677),
 (`put_global,.stat 684),
 (`install_error,.stat 691),
 (`install_globals,.stat 698),
 (`K_NAME,.int 8),
 (`K_CALL,.int 18),
 (`K_NONNULL,.int 32),
 (`K_PAREN,.int 33),
 (`K_OBJPAT,.int 34),
 (`K_ARRPAT,.int 35),
 (`K_BIND,.int 36),
 (`K_CLASS,.int 61),
 (`F_ARROW,.int 4),
 (`F_EXPRBODY,.int 8),
 (`F_REST,.int 8192),
 (`has,.stat 705),
 (`names_in_pattern,.stat 712),
 (`W_CALL,.int 1),
 (`W_NEW,.int 6),
 (`C_RETURN,.int 1),
 (`CELL_DEAD,.int 0),
 (`CELL_LIVE,.int 1),
 (`MOST_DEEP,.int 44),
 (`ScriptThrow,.stat 729),
 (`Watcher,.stat 749),
 (`RuncoreBinder,.stat 777),
 (`Maker,.stat 805),
 (`Hoister,.stat 826),
 (`Machine,.stat 889),
 (`count_step,.stat 900),
 (`runcore_value_of,.stat 907),
 (`run_node,.stat 914),
 (`tell_fault,.stat 921),
 (`call_value,.stat 928),
 (`call_closure,.stat 935),
 (`body_value,.stat 942),
 (`runcore_is_this_param,.stat 949),
 (`bind_params,.stat 954),
 (`param_value,.stat 961),
 (`runcore_bind_pattern,.stat 968),
 (`_law_places,.lst [.tup [.int 3,.int 0],.tup [.int 3,.int 1],.tup [.int 3,.int (-1)],.tup [.int 3,.int 2],.tup [.int 3,.int (-2)],.tup [.int 3,.int 5],.tup [.int 3,.int (-9)],.tup [.int 4,.int 0],.tup [.int 0,.int 0],.tup [.int 1,.int 0],.tup [.int 2,.int 1],.tup [.int 5,.str [45,49]],.tup [.int 5,.str [120]],.tup [.int 5,.str [32,50,32]]]),
 (`_law_readings,.stat 990),
 (`_law_words,.stat 997),
 (`_law_heads,.stat 1004),
 (`_law_signs,.str [48,49,50,51,52,53,54,55,56,57,97,98,99,100,101,102,103,104,105,106,107,108,109,110,111,112,113,114,115,116,117,118,119,120,121,122]),
 (`_law_pull,.stat 1011),
 (`_law_word,.stat 1018),
 (`_law_whole,.stat 1025),
 (`_law_value,.stat 1032),
 (`_law_laid,.stat 1039),
 (`_law_text,.stat 1044),
 (`_law_all,.stat 1049),
 (`_law_other,.stat 1056),
 (`_law_read,.stat 1061),
 (`_law_counted,.stat 1068),
 (`_law_number,.stat 1075),
 (`_law_reached,.stat 1082),
 (`_law_args,.stat 1087),
 (`_law_deed,.stat 1092),
 (`_law_thrown,.stat 1099),
 (`_law_under,.stat 1106),
 (`_law_play,.stat 1113),
 (`_law_letters,.stat 1120),
 (`_law_based,.stat 1127),
 (`_law_back,.stat 1134),
 (`_law_turn,.stat 1141),
 (`law,.stat 1146)]
theorem Ns.slots{h h':Heap}{a:Addr}{m}(x:h.Ns a m)(k:∀o,h.get? a=some o->∃sl,h'.get? a=some {o with slots:=sl}):h'.Ns a m:=by
 show zb x λo es ep e d r=>?_
 show fv (k o e) λsl e'=>?_
 show⟨_,es,ep,e',d,r⟩
theorem IsCell.slots{h h':Heap}{a:Addr}{m}(x:h.IsCell a m)(k:∀o,h.get? a=some o->∃sl,h'.get? a=some {o with slots:=sl}):h'.IsCell a m:=by
 show d6 x λo e d=>?_
 show fv (k o e) λsl e'=>?_
 show⟨_,e',d⟩
structure Fx where
 env:Env
 names:List Str
structure jy(fr:Fx):Prop where
 kind:fr.env.scope.kind=.function
 glob:fr.env.globals=mainGlobals
 blt:fr.env.builtins=builtinsNs
 nodup:fr.names.Nodup
 kinds:∀x∈fr.names,(fr.env.kindOf x=some .local\/((fr.env.kindOf x=some .cell\/fr.env.kindOf x=some .free)/\(fr.env.cells.lookup x).isSome=true))/\(x==("__debug__" :Str))=false/\(x==("__classdict__" :Str))=false
noncomputable def jD(fr:Fx)(m cm:Str->Option Value)(x:Str):Option Value:=if fr.env.kindOf x=some .local then m x else cm x
structure oY(B:eD)(fr:Fx)(W:Wd)(U:List (Option V))(h:Heap)(m cm:Str->Option Value):Prop where
 ns:h.Ns fr.env.locals m
 outι:fr.env.locals∉W.ι
 outF:W.F fr.env.locals=none
 cell:∀n c,fr.env.cells.lookup n=some c->h.IsCell c (cm n)/\c∉W.ι/\W.F c=none/\c≠fr.env.locals
 cinj:∀n n' c,fr.env.cells.lookup n=some c->fr.env.cells.lookup n'=some c->n=n'
 vars:∀(i:Nat) (d:V),U[i]?=some (some d)->∃x v,fr.names[i]?=some x/\jD fr m cm x=some v/\W.Rep B d v
def fX(B:eD)(fr:Fx)(W:Wd)(U:List (Option V))(h:Heap):Prop:=∃m cm,oY B fr W U h m cm
section
variable{B:eD}{stk:List Env}{fr:Fx}{W W':Wd}{U:List (Option V)}{J aa:Hp}{h h':Heap}
theorem oY.ext{S:List Addr}{m cm}(x:oY B fr W U h m cm)(e:eA S W h W' h'):oY B fr W' U h' m cm where
 ns:=Ns.slots x.ns λo q=>d6 (e.keep _ o q x.outι) λsl e' _=>⟨sl,e'⟩
 outι:=by show uI x.ns λo _ _ q _=>?_;show e.outι q x.outι
 outF:=by show uI x.ns λo _ _ q _=>?_;show e.outF q x.outι x.outF
 cell:=λn c q=>by
  show iS (x.cell n c q) λa b d f=>?_
  show⟨IsCell.slots a λo q=>d6 (e.keep _ o q b) λsl e' _=>⟨sl,e'⟩,?_,?_,f⟩
  ·show d6 a λo q _=>?_;show e.outι q b
  ·show d6 a λo q _=>?_;show e.outF q b d
 cinj:=x.cinj
 vars:=λi d q=>jE (x.vars i d q) λn v a b r=>⟨n,v,a,b,e.rep r⟩
theorem fX.ext{S:List Addr}(x:fX B fr W U h)(e:eA S W h W' h'):fX B fr W' U h':=let⟨m,cm,x⟩:=x;⟨m,cm,x.ext e⟩
structure gc(s s':Shared):Prop where
 gens:s'.gens=s.gens
 os:s'.os=s.os
theorem gc.refl(s:Shared):gc s s:=⟨rfl,rfl⟩
theorem gc.trans{s s' s'':Shared}(x:gc s s')(y:gc s' s''):gc s s'':=⟨y.gens.trans x.gens,y.os.trans x.os⟩
structure hH(A:Around)(stk:List Env)(n:Nat):Prop where
 handled:A.handled=none
 frames:A.frames=some stk
 depth:A.depth+3*n+20<recursionLimit
 units:A.units+40*n+100<cLine
theorem ef.ns{m}(x:ef B stk W J h){a}(g:B.h₀.Ns a m):h.Ns a m:=g.keeps λb o e=>x.frozen b o (x.base b o e)
theorem ef.old(x:ef B stk W J h):∀b o,B.h₀.get? b=some o->h.get? b=some o:=λb o e=>x.frozen b o (x.base b o e)
theorem ef.inK(x:ef B stk W J h):B.K.In h:=B.inK.keeps x.old
theorem ef.nolimit(x:ef B stk W J h):h.NoLimit:=B.nolimit.keeps x.old
theorem ef.notMods(x:ef B stk W J h){a:Addr}(m:a∈W.ι):(a==sysModules)=false:=by
 obtain h2:=x.low a m;obtain h3:=modules_low B.nolimit;show beq_eq_false_iff_ne.mpr (Nat.ne_of_gt (Nat.lt_of_lt_of_le h3 h2))
noncomputable def Wd.frz(W:Wd)(a:Addr)(o:Obj):Wd:={W with F:=λb=>if b=a then some o else W.F b}
noncomputable def Wd.trk(W:Wd)(a:Addr):Wd:={W with ι:=W.ι++[a]}
theorem ef.fresh(x:ef B stk W J h):W.F h.objs.size=none/\h.objs.size∉W.ι:=by
 constructor
 ·cases e:W.F h.objs.size with
  |none=>rfl
  |some o=>show absurd (Heap.lt_size (x.frozen _ _ e)) (Nat.lt_irrefl _)
 ·intro m;obtain⟨l,hl,e⟩:=List.getElem_of_mem m;have hl':l<J.length:=by rwa[x.len.symm];show hl
  show d6 (x.objs l J[l] h.objs.size (List.getElem?_eq_getElem hl') (by show d4 (List.getElem?_eq_getElem hl) (d4 e rfl))) λo e' _=>?_
  show absurd (Heap.lt_size e') (Nat.lt_irrefl _)
theorem ef.none_fresh(h:Heap):h.get? h.objs.size=none:=by
 cases e:h.get? h.objs.size with
 |none=>rfl
 |some o=>show absurd (Heap.lt_size e) (Nat.lt_irrefl _)
theorem ef.frz(x:ef B stk W J h)(o:Obj)(hf:o.isFreed=false:=by rfl):ef B stk (W.frz h.objs.size o) J (h.push o) where
 base a b e:=by
  have:=x.base a b e;unfold Wd.frz;dsimp only;rw[if_neg];show this;intro q;rw[q,x.fresh.1] at this;injection this
 frozen a b e:=by
  unfold Wd.frz at e;dsimp only at e
  split at e
  ·rename_i q;subst q;injection e with e;subst e;show Heap.get?_push_size _ hf
  ·show Heap.get?_push_of_some _ (x.frozen a b e)
 len:=x.len
 nodup:=x.nodup
 sep a m:=by
  unfold Wd.frz;dsimp only;rw[if_neg];show x.sep a m;intro q;subst q;show x.fresh.2 m
 low:=x.low
 size:=by rw[Heap.size_push];show Nat.le_succ_of_le x.size
 objs l y a e1 e2:=by
  show d6 (x.objs l y a e1 e2) λob e r=>?_
  show⟨ob,Heap.get?_push_of_some _ e,jv.mono (W:=W) (W':=W.frz h.objs.size o) (λd v q=>Rep.mono ?_ (λ_ _ q=>q) q) r⟩;intro b o' q;unfold Wd.frz;dsimp only;rw[if_neg];show q;intro q';subst q';rw[x.fresh.1] at q;injection q
 frames env m:=by
  obtain⟨k,L,ob,e1,e2,e3,e4,e5⟩:=x.frames env m;show⟨k,L,ob,e1,Heap.get?_push_of_some _ e2,e3,?_,e5⟩;unfold Wd.frz;dsimp only;rw[if_neg];show e4;intro q;clear e1 e4 e5;subst q;show absurd (Heap.lt_size e2) (Nat.lt_irrefl _)
theorem eA.frz{S:List Addr}(x:ef B stk W J h)(o:Obj):eA S W h (W.frz h.objs.size o) (h.push o) where
 F a b e:=by
  unfold Wd.frz;dsimp only;rw[if_neg];show e;intro q;rw[q,x.fresh.1] at e;injection e
 ι:=List.prefix_refl _
 newι _ a b:=absurd a b
 newF a e n:=by
  unfold Wd.frz at e;dsimp only at e
  split at e
  ·rename_i q;clear n;subst q;show .inl (ef.none_fresh h)
  ·rw[n] at e;injection e
 keep a b e n:=⟨b.slots,Heap.get?_push_of_some _ e,λ_=>rfl⟩
theorem ef.trk(x:ef B stk W J h){o:Obj}{y:fA}(hf:o.isFreed=false)(r:jv B (W.trk h.objs.size) y o):ef B stk (W.trk h.objs.size) (J++[y]) (h.push o) where
 base:=x.base
 frozen a b e:=Heap.get?_push_of_some _ (x.frozen a b e)
 len:=by simp[Wd.trk,x.len]
 nodup:=by
  unfold Wd.trk;dsimp only;rw[List.nodup_append];show⟨x.nodup,by simp,?_⟩;intro a m b m';rw[List.mem_singleton] at m';subst m';intro q;subst q;show x.fresh.2 m
 sep a m:=by
  unfold Wd.trk at m ⊢;dsimp only at m ⊢;rcases List.mem_append.mp m with m|m
  ·show x.sep a m
  ·rw[List.mem_singleton] at m;subst m;show x.fresh.1
 low a m:=by
  unfold Wd.trk at m;dsimp only at m;rcases List.mem_append.mp m with m|m
  ·show x.low a m
  ·rw[List.mem_singleton] at m;subst m;show x.size
 size:=by rw[Heap.size_push];show Nat.le_succ_of_le x.size
 objs l z a e1 e2:=by
  unfold Wd.trk at e2;dsimp only at e2
  by_cases q:l<J.length
  ·rw[List.getElem?_append_left q] at e1;rw[List.getElem?_append_left (by rw[x.len];show q)] at e2;show d6 (x.objs l z a e1 e2) λob e r=>?_
   show⟨ob,Heap.get?_push_of_some _ e,jv.mono (W:=W) (W':=W.trk h.objs.size) (λd v q=>Rep.mono (λ_ _ q=>q) ?_ q) r⟩;intro i b w;unfold Wd.trk;dsimp only;rw[List.getElem?_append_left (List.getElem?_eq_some_iff.mp w).1];show w
  ·have hl:=(List.getElem?_eq_some_iff.mp e1).1;obtain this:l=J.length:=by simp at hl;lia
   clear q hl;subst this;rw[List.getElem?_append_right (Nat.le_refl _)] at e1;rw[<-x.len,List.getElem?_append_right (Nat.le_refl _)] at e2;simp at e1 e2;subst e1 e2;show⟨o,Heap.get?_push_size _ hf,r⟩
 frames env m:=by
  obtain⟨k,L,ob,e1,e2,e3,e4,e5⟩:=x.frames env m;show⟨k,L,ob,e1,Heap.get?_push_of_some _ e2,e3,e4,?_⟩;unfold Wd.trk;dsimp only;intro q;rcases List.mem_append.mp q with q|q
  ·show e5 q
  ·rw[List.mem_singleton] at q;clear e1 e4 e5;subst q;show absurd (Heap.lt_size e2) (Nat.lt_irrefl _)
theorem eA.trk{S:List Addr}(_:ef B stk W J h)(o:Obj):eA S W h (W.trk h.objs.size) (h.push o) where
 F a b e:=e
 ι:=List.prefix_append _ _
 newι a m n:=by
  unfold Wd.trk at m;dsimp only at m;rcases List.mem_append.mp m with m|m
  ·show absurd m n
  ·rw[List.mem_singleton] at m;clear n;subst m;show ef.none_fresh h
 newF a e n:=by rw[show(W.trk h.objs.size).F a=W.F a from rfl,n] at e;injection e
 keep a b e n:=⟨b.slots,Heap.get?_push_of_some _ e,λ_=>rfl⟩
theorem ef.junk(x:ef B stk W J h)(o:Obj):ef B stk W J (h.push o) where
 base:=x.base
 frozen a b e:=Heap.get?_push_of_some _ (x.frozen a b e)
 len:=x.len
 nodup:=x.nodup
 sep:=x.sep
 low:=x.low
 size:=by rwa[Heap.size_push ..];show Nat.le_succ_of_le x.size
 objs l y a e1 e2:=let⟨ob,e,r⟩:=x.objs l y a e1 e2;⟨ob,Heap.get?_push_of_some _ e,r⟩
 frames env m:=let⟨k,L,ob,e1,e2,e3,e4,e5⟩:=x.frames env m;⟨k,L,ob,e1,Heap.get?_push_of_some _ e2,e3,e4,e5⟩
theorem eA.junk{S:List Addr}(W:Wd)(h:Heap)(o:Obj):eA S W h W (h.push o) where
 F a b e:=e
 ι:=List.prefix_refl _
 newι a m n:=absurd m n
 newF a e n:=by rw[n] at e;injection e
 keep a b e n:=⟨b.slots,Heap.get?_push_of_some _ e,λ_=>rfl⟩
theorem ef.other(x:ef B stk W J h){a:Addr}(s:Heap.SameBut a h h')(nF:W.F a=none)(aN:a∉W.ι)(fr:∀o,h.get? a=some o->(∀vs,o.data≠.fields vs)->∃o',h'.get? a=some o'/\∀vs,o'.data≠.fields vs):ef B stk W J h' where
 base:=x.base
 frozen b o e:=(s.2 b (by intro q;clear s aN fr;subst q;rw[nF] at e;injection e)).trans (x.frozen b o e)
 len:=x.len
 nodup:=x.nodup
 sep:=x.sep
 low:=x.low
 size:=by rwa[s.1];show x.size
 objs l y b e1 e2:=let⟨ob,e,r⟩:=x.objs l y b e1 e2;⟨ob,(s.2 b (by intro q;clear s nF fr;subst q;show aN (List.mem_of_getElem? e2))).trans e,r⟩
 frames env m:=by
  obtain⟨k,L,ob,e1,e2,e3,e4,e5⟩:=x.frames env m
  by_cases q:L=a
  ·clear s nF aN;subst q;show d6 (fr ob e2 e3) λo' q1 q2=>?_
   show⟨k,L,o',e1,q1,q2,e4,e5⟩
  ·show⟨k,L,ob,e1,(s.2 L q).trans e2,e3,e4,e5⟩
theorem ef.upd(x:ef B stk W J h){l:Nat}{a:Addr}{y:fA}{o:Obj}(s:Heap.SameBut a h h')(e:W.ι[l]?=some a)(ho:h'.get? a=some o)(r:jv B W y o):ef B stk W (J.set l y) h' where
 base:=x.base
 frozen b c q:=(s.2 b (by intro w;clear s ho;subst w;rw[x.sep b (List.mem_of_getElem? e)] at q;injection q)).trans (x.frozen b c q)
 len:=by rwa[List.length_set];show x.len
 nodup:=x.nodup
 sep:=x.sep
 low:=x.low
 size:=by rwa[s.1];show x.size
 objs k z b e1 e2:=by
  by_cases q:k=l
  ·subst q;rw[e] at e2;injection e2 with e2;subst e2
   have hl:=(List.getElem?_eq_some_iff.mp e1).1;rw[List.length_set] at hl;rw[List.getElem?_set_self hl] at e1;injection e1 with e1;subst e1
   show⟨o,ho,r⟩
  ·rw[List.getElem?_set_ne (Ne.symm q)] at e1;show d6 (x.objs k z b e1 e2) λob e' r'=>?_
   show⟨ob,(s.2 b ?_).trans e',r'⟩;intro w;clear s ho;subst w;show fv (List.getElem?_eq_some_iff.mp e) λh1 h2=>?_
   show fv (List.getElem?_eq_some_iff.mp e2) λh3 h4=>?_
   show q ((List.getElem_inj x.nodup).mp (h4.trans h2.symm))
 frames env m:=by
  obtain⟨k,L,ob,e1,e2,e3,e4,e5⟩:=x.frames env m;show⟨k,L,ob,e1,(s.2 L (by intro q;clear s ho;subst q;show e5 (List.mem_of_getElem? e))).trans e2,e3,e4,e5⟩
theorem eA.upd{S:List Addr}{a:Addr}(s:Heap.SameBut a h h')(e:a∈W.ι):eA S W h W h' where
 F a b e:=e
 ι:=List.prefix_refl _
 newι a m n:=absurd m n
 newF a e n:=by rw[n] at e;injection e
 keep b o q n:=⟨o.slots,(s.2 b (by intro w;clear s;subst w;show n e)).trans q,λ_=>rfl⟩
theorem ef.at(x:ef B stk W J h){l:Nat}{y:fA}(e:J[l]?=some y):∃a o,W.ι[l]?=some a/\h.get? a=some o/\jv B W y o:=by
 have hl:=(List.getElem?_eq_some_iff.mp e).1;have hl':l<W.ι.length:=by rwa[x.len];show hl
 show d6 (x.objs l y W.ι[l] e (List.getElem?_eq_getElem hl')) λo q r=>?_
 show⟨_,o,List.getElem?_eq_getElem hl',q,r⟩
theorem ef.none'{B:eD}{stk:List Env}{W:Wd}{J:Hp}{h:Heap}(x:ef B stk W J h){b:Addr}(q:h.get? b=none):b∉W.ι/\W.F b=none:=by
 constructor
 ·intro w;obtain⟨l,hl,e'⟩:=List.getElem_of_mem w;obtain hl':l<J.length:=by rwa[x.len.symm];show hl
  show d6 (x.objs l J[l] b (List.getElem?_eq_getElem hl') (by show d4 (List.getElem?_eq_getElem hl) (d4 e' rfl))) λo' e' _=>?_
  rw[q] at e';injection e'
 ·cases z:W.F b with
  |none=>rfl
  |some y=>have:=x.frozen _ _ z;rw[q] at this;injection this
end
set_option genCtorIdx true in
inductive BO where|add|sub|mul|fdiv|mod|pow
set_option genCtorIdx true in
inductive CO where|eq|ne|lt|le|gt|ge|is|isn|in_|nin
set_option genCtorIdx true in
inductive BF where|len|str|sum|min|chr|ord|range
set_option genCtorIdx true in
inductive BM where|find|lower|upper|strip|split|join|append|pop|reverse|get|remove
inductive fD where|throw (v:V)|num|host
inductive Fl where|next|ret (v:V)
abbrev ew:=List (Option V)
set_option genCtorIdx true in
mutual
inductive Ex where
 |none
 |bool (b:Bool)
 |int (i:Int)
 |str (l:List Nat)
 |lv (i:Nat)
 |gv (i:Nat) (d:V)
 |tup (es:gz)
 |lstF (es:gz)
 |lstT (es:gz)
 |sdT (ks:List (List Nat)) (es:gz)
 |sdF (ks:List (List Nat)) (es:gz)
 |ndT
 |bin (op:BO) (a b:Ex)
 |neg (a:Ex)
 |cmp (op:CO) (a b:Ex)
 |cmp2 (op op2:CO) (a b c:Ex)
 |bop (c:Bool) (es:gz)
 |not (a:Ex)
 |ite (c a b:Ex)
 |sub (a i:Ex)
 |slc (a lo hi:Ex)
 |att (a:Ex) (n:List Nat)
 |call (i:Nat) (a:Addr) (args:gz)
 |callB (f:BF) (args:gz)
 |methB (o:Ex) (m:BM) (args:gz)
 |methP (o:Ex) (n:List Nat) (args:gz)
 |comp (elt:Ex) (t:Nat) (it cond:Ex) (ns:List (List Nat)) (caps:List Nat)
inductive gz where
 |nil
 |cons (e:Ex) (es:gz)
end
mutual
inductive St where
 |bad
 |expr (e:Ex)
 |asg (i:Nat) (e:Ex)
 |asgT (is:List Nat) (e:Ex)
 |asgA (o:Ex) (n:List Nat) (e:Ex)
 |asgS (o k e:Ex)
 |aug (i:Nat) (op:BO) (e:Ex)
 |augS (o k:Ex) (op:BO) (e:Ex)
 |ite (c:Ex) (t f:eu)
 |whl (c:Ex) (b:eu)
 |for1 (i:Nat) (it:Ex) (b:eu)
 |forT (is:List Nat) (it:Ex) (b:eu)
 |ret (e:Ex)
 |raise (k:Nat) (args:gz)
 |try3 (t:Nat) (e:Ex) (sv:List Nat)
inductive eu where
 |nil
 |cons (s:St) (r:eu)
end
noncomputable def j5(f:V->Option PyData):List V->Option (List PyData)
 |[]=>some []
 |x::xs=>(f x).bind λd=>(j5 f xs).map (d::·)
noncomputable def C1{α:Type}(x:Option fA)(k:List V->Option α):Option α:=match x with|some (.lst l)=>k l|_=>none
theorem eC{p:Prop}{β:Type}{b:β}(h:none=some b):p:=nomatch h
theorem j8{β:Type}{c:Prop}[Decidable c]{a b:β}(h:(if c then some a else none)=some b):c/\a=b:=by
 by_cases q:c
 ·rw[if_pos q] at h;show⟨q,Option.some.inj h⟩
 ·rw[if_neg q] at h;show eC h
theorem rm{α:Type}{x:Option fA}{k:List V->Option α}{a:α}(h:C1 x k=some a):∃l,x=some (.lst l)/\k l=some a:=by
 cases x with
 |none=>injection h
 |some x=>cases x<;>first|show⟨_,rfl,h⟩|cases h
noncomputable def HB(f:List V->Option (List PyData))(J:Hp)(d:V):Option PyData:=match d with
 |.none=>some .none
 |.bool b=>some (.bool b)
 |.int i=>some (.int i)
 |.str l=>some (.str (sv l))
 |.tup xs=>(f xs).map .tuple
 |.lst xs=>(f xs).map .list
 |.loc l=>C1 J[l]? λxs=>(f xs).map .list
 |_=>none
noncomputable def fT(J:Hp):Nat->V->Option PyData
 |0=>HB (λ_=>none) J
 |n+1=>HB (j5 (fT J n)) J
noncomputable def truthy(d:V)(J:Hp):Option Bool:=match d with
 |.none=>some false
 |.bool b=>some b
 |.int i=>some (decide (i≠0))
 |.str l=>some (!l.isEmpty)
 |.lst xs=>some (!xs.isEmpty)
 |.tup xs=>some (!xs.isEmpty)
 |.loc l=>C1 J[l]? λxs=>some (!xs.isEmpty)
 |_=>none
noncomputable def eY(kvs:List (List Nat×V))(k:List Nat):Option V:=(kvs.find? λkv=>kv.1==k).map (·.2)
noncomputable def fP(kvs:List (Int×V))(k:Int):Option V:=(kvs.find? λkv=>kv.1==k).map (·.2)
noncomputable def mL(kvs:List (List Nat×V))(k:List Nat)(v:V):List (List Nat×V):=
 if kvs.any (λkv=>kv.1==k) then kvs.map (λkv=>if kv.1==k then(kv.1,v) else kv) else kvs++[(k,v)]
noncomputable def jr(kvs:List (Int×V))(k:Int)(v:V):List (Int×V):=
 if kvs.any (λkv=>kv.1==k) then kvs.map (λkv=>if kv.1==k then(kv.1,v) else kv) else kvs++[(k,v)]
noncomputable def r7:List Nat->List Nat->Bool
 |[],_=>true
 |_::_,[]=>false
 |a::as,b::bs=>if a<b then true else if a=b then r7 as bs else false
noncomputable def yh:V->Option Bool
 |.none=>some true
 |.inst _ _=>some false
 |_=>none
def iP(d:V)(k:List Nat->Prop):Prop:=match d with|.str l=>k l|_=>False
def gI(d:V)(k:Int->Prop):Prop:=match d with|.int i=>k i|_=>False
def kW(d:V)(k:Nat->Prop):Prop:=match d with|.loc l=>k l|_=>False
def i6(x:Option fA)(k:List V->Prop):Prop:=match x with|some (.lst l)=>k l|_=>False
def kJ(x:Option fA)(k:List (List Nat×V)->Prop):Prop:=match x with|some (.sd l)=>k l|_=>False
def xZ(x:Option fA)(k:List (Int×V)->Prop):Prop:=match x with|some (.nd l)=>k l|_=>False
def fj{α:Type}(o:Option α)(k:α->Prop):Prop:=match o with|some a=>k a|none=>False
def C4(ds:List V)(k:Prop):Prop:=match ds with|[]=>k|_=>False
def l6(ds:List V)(k:V->Prop):Prop:=match ds with|[v]=>k v|_=>False
def xQ(ds:List V)(k:V->Prop)(k':V->V->Prop):Prop:=match ds with|[v]=>k v|[v,w]=>k' v w|_=>False
theorem mX{d:V}{k}(h:iP d k):∃l,d=.str l/\k l:=by cases d<;>first|show⟨_,rfl,h⟩|show False.elim h
theorem ng{d:V}{k}(h:gI d k):∃i,d=.int i/\k i:=by cases d<;>first|show⟨_,rfl,h⟩|show False.elim h
theorem yz{d:V}{k}(h:kW d k):∃l,d=.loc l/\k l:=by cases d<;>first|show⟨_,rfl,h⟩|show False.elim h
theorem fw{α:Type}{o:Option α}{k}(h:fj o k):∃a,o=some a/\k a:=by cases o<;>first|show⟨_,rfl,h⟩|show False.elim h
theorem IG{x k}(h:i6 x k):∃l,x=some (.lst l)/\k l:=by
 cases x with
 |none=>show False.elim h
 |some x=>cases x<;>first|show⟨_,rfl,h⟩|show False.elim h
theorem nI{x k}(h:kJ x k):∃l,x=some (.sd l)/\k l:=by
 cases x with
 |none=>show False.elim h
 |some x=>cases x<;>first|show⟨_,rfl,h⟩|show False.elim h
theorem HT{x k}(h:xZ x k):∃l,x=some (.nd l)/\k l:=by
 cases x with
 |none=>show False.elim h
 |some x=>cases x<;>first|show⟨_,rfl,h⟩|show False.elim h
theorem C7{x l k}(e:x=some (fA.lst l))(h:k l):i6 x k:=by rwa[e];show h
theorem tT{x l k}(e:x=some (fA.sd l))(h:k l):kJ x k:=by rwa[e];show h
theorem CV{x l k}(e:x=some (fA.nd l))(h:k l):xZ x k:=by rwa[e];show h
theorem KJ{ds k}(h:C4 ds k):ds=[]/\k:=by
 cases ds with
 |nil=>show⟨rfl,h⟩
 |cons=>show False.elim h
theorem IK{ds k k'}(h:xQ ds k k'):(∃v,ds=[v]/\k v)\/∃v w,ds=[v,w]/\k' v w:=by
 cases ds with
 |nil=>show False.elim h
 |cons v ds=>cases ds with
  |nil=>show .inl ⟨_,rfl,h⟩
  |cons w ds=>cases ds with
   |nil=>show .inr ⟨_,_,rfl,h⟩
   |cons=>show False.elim h
theorem tK{ds k}(h:l6 ds k):∃v,ds=[v]/\k v:=by
 cases ds with
 |nil=>show False.elim h
 |cons v ds=>cases ds with
  |nil=>show⟨_,rfl,h⟩
  |cons=>show False.elim h
def tW(d:V)(k:Addr->Nat->Prop):Prop:=match d with|.inst C d=>k C d|_=>False
theorem sZ{d:V}{k}(h:tW d k):∃C x,d=.inst C x/\k C x:=by cases d<;>first|show⟨_,_,rfl,h⟩|show False.elim h
def Eo(d:V)(k:List V->Prop):Prop:=match d with|.lst l=>k l|_=>False
theorem Bv{d:V}{k}(h:Eo d k):∃l,d=.lst l/\k l:=by cases d<;>first|show⟨_,rfl,h⟩|show False.elim h
def NF(d:V)(k:List Nat->Prop)(k':Int->Prop):Prop:=match d with|.str l=>k l|.int i=>k' i|_=>False
theorem IF{d:V}{k k'}(h:NF d k k'):(∃l,d=.str l/\k l)\/∃i,d=.int i/\k' i:=by cases d<;>first|show .inl ⟨_,rfl,h⟩|show .inr ⟨_,rfl,h⟩|show False.elim h
def S8(a b:V)(k:Int->Int->Prop)(k':List Nat->List Nat->Prop)(k'':List V->List V->Prop):Prop:=match a with
 |.int x=>gI b (k x)
 |.str x=>iP b (k' x)
 |a=>Eo a λx=>Eo b (k'' x)
def gR(op:BO)(a b:V)(J:Hp)(Q:V->Hp->Prop):Prop:=match op with
 |.add=>S8 a b (λx y=>Q (.int (x+y)) J) (λx y=>x.length+y.length<=eh/\Q (.str (x++y)) J) λx y=>x.length+y.length<=eh/\Q (.lst (x++y)) J
 |.sub=>gI a λx=>gI b λy=>Q (.int (x-y)) J
 |.mul=>gI a λx=>gI b λy=>(x.natAbs<2^64\/y.natAbs<2^64)/\Q (.int (x*y)) J
 |.fdiv=>gI a λx=>gI b λy=>0<y/\y<2^64/\Q (.int (x/y)) J
 |.mod=>gI a λx=>gI b λy=>0<y/\Q (.int (x%y)) J
 |.pow=>gI a λx=>gI b λy=>0<=y/\y<=1000/\x.natAbs<2^64/\Q (.int (x^y.toNat)) J
theorem De{op:BO}{a b:V}{J:Hp}{Q:V->Hp->Prop}(h:gR op a b J Q):(∃x y,a=.int x/\b=.int y)\/(∃x y,a=.str x/\b=.str y)\/op=.add/\∃x y,a=.lst x/\b=.lst y:=by
 cases op with
 |add=>cases a<;>first|((show d6 (ng h) ?_;rintro y rfl _);show .inl ⟨_,_,rfl,rfl⟩)|((show d6 (mX h) ?_;rintro y rfl _);show .inr (.inl ⟨_,_,rfl,rfl⟩))|((show d6 (Bv h) ?_;rintro y rfl _);show .inr (.inr ⟨rfl,_,_,rfl,rfl⟩))|show False.elim h
 |_=>(show d6 (ng h) ?_;rintro x rfl h1);(show d6 (ng h1) ?_;rintro y rfl _);show .inl ⟨_,_,rfl,rfl⟩
def iq(op:BO)(a b:V)(J:Hp)(Q:V->Hp->Prop):Prop:=match a with
 |.lst _=>False
 |a=>gR op a b J Q
theorem JZ{op:BO}{a b:V}{J:Hp}{Q:V->Hp->Prop}(h:iq op a b J Q):gR op a b J Q/\∀l,a≠.lst l:=by cases a<;>first|show False.elim h|show⟨h,λ_ e=>V.noConfusion e⟩
noncomputable def Bq(a:Option PyData)(k:List PyData->Option Bool):Option Bool:=match a with
 |some (.list ds)=>k ds
 |some (.tuple ds)=>k ds
 |_=>none
theorem IU{a:Option PyData}{k:List PyData->Option Bool}{r:Bool}(h:Bq a k=some r):(∃ds,a=some (.list ds)/\k ds=some r)\/∃ds,a=some (.tuple ds)/\k ds=some r:=by
 cases a with
 |none=>injection h
 |some a=>cases a<;>first|show .inl ⟨_,rfl,h⟩|show .inr ⟨_,rfl,h⟩|cases h
noncomputable def vW(J:Hp)(x c:V):Option Bool:=(fT J 9 x).bind λd=>Bq (fT J 9 c) λds=>some (ds.any λy=>PyData.eqv y d)
noncomputable def I5{α:Type}(x:Option fA)(k:List (List Nat×V)->α)(z:α):α:=match x with|some (.sd l)=>k l|_=>z
noncomputable def JM{α:Type}(x:Option fA)(k:List (Int×V)->α)(z:α):α:=match x with|some (.nd l)=>k l|_=>z
noncomputable def Lk{α:Type}(k:List Nat)(f:Nat->α)(z:α):α:=match k with|[a]=>f a|_=>z
theorem Ii{α:Type}{x:Option fA}{k:List (List Nat×V)->Option α}{z:Option α}{r:α}(h:I5 x k z=some r):(∃l,x=some (.sd l)/\k l=some r)\/z=some r:=by
 cases x with
 |none=>show .inr h
 |some x=>cases x<;>first|show .inl ⟨_,rfl,h⟩|show .inr h
theorem IL{α:Type}{x:Option fA}{k:List (Int×V)->Option α}{z:Option α}{r:α}(h:JM x k z=some r):(∃l,x=some (.nd l)/\k l=some r)\/z=some r:=by
 cases x with
 |none=>show .inr h
 |some x=>cases x<;>first|show .inl ⟨_,rfl,h⟩|show .inr h
theorem Fo{α:Type}{k:List Nat}{f:Nat->Option α}{r:α}(h:Lk k f none=some r):∃c,k=[c]/\f c=some r:=by
 cases k with
 |nil=>injection h
 |cons a l=>cases l with
  |nil=>show⟨_,rfl,h⟩
  |cons=>injection h
noncomputable def oG(x c:V)(J:Hp):Option Bool:=match x with
 |.str k=>(match c with
  |.str l=>Lk k (λa=>some (l.contains a)) none
  |.sdct kvs=>some (eY kvs k).isSome
  |.loc l=>I5 J[l]? (λkvs=>some (eY kvs k).isSome) (vW J (.str k) (.loc l))
  |c=>vW J (.str k) c)
 |.int k=>(match c with
  |.loc l=>JM J[l]? (λkvs=>some (fP kvs k).isSome) (vW J (.int k) (.loc l))
  |c=>vW J (.int k) c)
 |x=>vW J x c
def GR(d:V)(k:Prop):Prop:=match d with|.none=>k|_=>False
theorem EO{d k}(h:GR d k):d=.none/\k:=by cases d<;>first|show⟨rfl,h⟩|show False.elim h
def H0(a b:V)(k:Int->Int->Prop)(k':List Nat->List Nat->Prop):Prop:=match a with
 |.int x=>gI b (k x)
 |a=>iP a λx=>iP b (k' x)
theorem It{a b:V}{k k'}(h:H0 a b k k'):(∃x y,a=.int x/\b=.int y/\k x y)\/∃x y,a=.str x/\b=.str y/\k' x y:=by
 cases a<;>first|((show d6 (ng h) ?_;rintro y rfl h);show .inl ⟨_,_,rfl,rfl,h⟩)|((show d6 (mX (k:=k' _) h) ?_;rintro y rfl h);show .inr ⟨_,_,rfl,rfl,h⟩)|show False.elim h
def vJ(a b:V)(J:Hp)(k:Int->Int->Prop)(k':List Nat->List Nat->Prop)(k'':PyData->PyData->Prop):Prop:=match a,b with
 |.int x,.int y=>k x y
 |.str x,.str y=>k' x y
 |a,b=>fj (fT J 9 a) λx=>fj (fT J 9 b) (k'' x)
theorem yH{a b:V}{J:Hp}{k k' k''}(h:vJ a b J k k' k''):(∃x y,a=.int x/\b=.int y/\k x y)\/(∃x y,a=.str x/\b=.str y/\k' x y)\/∃x y,fT J 9 a=some x/\fT J 9 b=some y/\k'' x y:=by
 have d:fj (fT J 9 a) (λx=>fj (fT J 9 b) (k'' x))->∃x y,fT J 9 a=some x/\fT J 9 b=some y/\k'' x y:=λh=>
  let⟨x,e,h⟩:=fw h;let⟨y,e',h⟩:=fw h;⟨x,y,e,e',h⟩
 cases a with
 |int x=>cases b<;>first|show .inr (.inr (d h))|show .inl ⟨_,_,rfl,rfl,h⟩
 |str x=>cases b<;>first|show .inr (.inr (d h))|show .inr (.inl ⟨_,_,rfl,rfl,h⟩)
 |_=>show .inr (.inr (d h))
def fa(op:CO)(a b:V)(J:Hp)(Q:V->Hp->Prop):Prop:=match op with
 |.lt=>gI a λx=>gI b λy=>Q (.bool (decide (x<y))) J
 |.le=>H0 a b (λx y=>Q (.bool (decide (x<=y))) J) λx y=>Q (.bool (r7 x y)) J
 |.gt=>gI a λx=>gI b λy=>Q (.bool (decide (y<x))) J
 |.ge=>gI a λx=>gI b λy=>Q (.bool (decide (y<=x))) J
 |.eq=>vJ a b J (λx y=>Q (.bool (decide (x=y))) J) (λx y=>Q (.bool (x==y)) J) λx y=>Q (.bool (PyData.eqv x y)) J
 |.ne=>vJ a b J (λx y=>Q (.bool (decide (x≠y))) J) (λx y=>Q (.bool (x !=y)) J) λx y=>Q (.bool (!PyData.eqv x y)) J
 |.is=>GR b (fj (yh a) λb=>Q (.bool b) J)
 |.in_=>fj (oG a b J) λr=>Q (.bool r) J
 |.nin=>fj (oG a b J) λr=>Q (.bool (!r)) J
 |.isn=>False
noncomputable def iM(i:Int)(n:Nat):Option Nat:=if 0<=i then(if i<n then some i.toNat else none) else if 0<=i+n then some (i+n).toNat else none
noncomputable def gr(i:Int)(n:Nat):Nat:=if i<0 then(i+n).toNat else min i.toNat n
noncomputable def Hn(d:V)(z n:Nat):Option Nat:=match d with|.none=>some z|.int i=>some (gr i n)|_=>none
noncomputable def pE(lo hi:V)(n:Nat):Option (Nat×Nat):=(Hn lo 0 n).bind λi=>(Hn hi n n).map λj=>(i,j)
def tB(xs:List V)(i:V)(J:Hp)(Q:V->Hp->Prop):Prop:=gI i λk=>fj ((iM k xs.length).bind λj=>xs[j]?) λd=>Q d J
def Eg(x:Option fA)(i:V)(J:Hp)(Q:V->Hp->Prop):Prop:=match x with
 |some (.lst xs)=>tB xs i J Q
 |some (.sd kvs)=>iP i λk=>fj (eY kvs k) λd=>Q d J
 |some (.nd kvs)=>gI i λk=>fj (fP kvs k) λd=>Q d J
 |_=>False
theorem Il{x:Option fA}{i:V}{J:Hp}{Q:V->Hp->Prop}(h:Eg x i J Q):(i6 x λxs=>tB xs i J Q)\/(kJ x λkvs=>iP i λk=>fj (eY kvs k) λd=>Q d J)\/xZ x λkvs=>gI i λk=>fj (fP kvs k) λd=>Q d J:=by
 cases x with
 |none=>show False.elim h
 |some x=>cases x<;>first|show .inl h|show .inr (.inl h)|show .inr (.inr h)
def eO(a i:V)(J:Hp)(Q:V->Hp->Prop):Prop:=match a with
 |.tup xs=>tB xs i J Q
 |.lst xs=>tB xs i J Q
 |.str l=>gI i λk=>fj ((iM k l.length).bind λj=>l[j]?) λc=>Q (.str [c]) J
 |.sdct kvs=>iP i λk=>fj (eY kvs k) λd=>Q d J
 |.loc l=>Eg J[l]? i J Q
 |_=>False
def gf(a lo hi:V)(J:Hp)(Q:V->Hp->Prop):Prop:=match a with
 |.str l=>fj (pE lo hi l.length) λp=>Q (.str ((l.take p.2).drop p.1)) J
 |.lst l=>fj (pE lo hi l.length) λp=>Q (.lst ((l.take p.2).drop p.1)) J
 |_=>False
noncomputable def i4(C:Addr)(n:List Nat):Bool:=jP.any λr=>r.1==C&&r.2.contains n
def yc(b:Bool)(k:Prop):Prop:=match b with|true=>k|false=>False
theorem Bd{b k}(h:yc b k):b=true/\k:=by
 cases b with
 |true=>show⟨rfl,h⟩
 |false=>show False.elim h
def fy(a:V)(n:List Nat)(J:Hp)(Q:V->Hp->Prop):Prop:=tW a λC d=>yc (i4 C n) (kJ J[d]? λkvs=>fj (eY kvs n) λv=>Q v J)
theorem BP{C d:Nat}{n:List Nat}{J:Hp}{Q:V->Hp->Prop}{kvs v}(h1:i4 C n=true)(h2:J[d]?=some (.sd kvs))(h3:eY kvs n=some v):fy (.inst C d) n J Q=Q v J:=by
 show yc (i4 C n) (kJ J[d]? _)=_;rwa[h1,h2];show fj (eY kvs n) _=_
 rwa[h3];rfl
noncomputable def ik(n:Nat):List Nat:=(Nat.toDigits 10 n).map Char.toNat
noncomputable def fW(i:Int):List Nat:=if i<0 then 45::ik i.natAbs else ik i.natAbs
noncomputable def vw:List V->Option Int
 |[]=>some 0
 |.int i::r=>(vw r).map (i+·)
 |_::_=>none
def Q5(d:V)(J:Hp)(k:Int->Prop):Prop:=match d with
 |.str l=>k l.length
 |.lst l=>k l.length
 |.tup l=>k l.length
 |.loc i=>i6 J[i]? λl=>k l.length
 |_=>False
def HM(l:List Nat)(k:Nat->Prop):Prop:=match l with|[c]=>k c|_=>False
theorem Af{l k}(h:HM l k):∃c,l=[c]/\k c:=by
 cases l with
 |nil=>show False.elim h
 |cons v ds=>cases ds with
  |nil=>show⟨_,rfl,h⟩
  |cons=>show False.elim h
def je(f:BF)(args:List V)(J:Hp)(Q:V->Hp->Prop):Prop:=match f with
 |.len=>l6 args λa=>Q5 a J λn=>Q (.int n) J
 |.str=>l6 args λa=>gI a λi=>i.natAbs<10^100/\Q (.str (fW i)) J
 |.sum=>l6 args λa=>Eo a λl=>fj (vw l) λn=>Q (.int n) J
 |.min=>xQ args (λ_=>False) λa b=>gI a λa=>gI b λb=>Q (.int (if b<a then b else a)) J
 |.chr=>l6 args λa=>gI a λi=>0<=i/\i<128/\Q (.str [i.toNat]) J
 |.ord=>l6 args λa=>iP a λl=>HM l λc=>Q (.int c) J
 |.range=>l6 args λa=>gI a λn=>n<2^40/\Q (.rng 0 n) J
noncomputable def fE(x l:List Nat)(i:Nat):Int:=match Builtin.Str.occurrences (sv l) (sv x) i l.length 1 with
 |k::_=>k
 |[]=> -1
def eW(l:List Nat):Prop:=∀c∈l,c<128
noncomputable def strip(cs l:List Nat):List Nat:=(Txt.stripChars (sv l) (sv cs)).cps.toList
noncomputable def fC(c:Nat)(l:List Nat):List (List Nat):=(Txt.split (sv l) (sv [c])).map λx=>x.cps.toList
noncomputable def iZ:List V->Option (List (List Nat))
 |[]=>some []
 |.str l::r=>(iZ r).map (l::·)
 |_::_=>none
noncomputable def iW(sep:List Nat)(ls:List (List Nat)):List Nat:=(Txt.join (sv sep) (ls.map sv)).cps.toList
noncomputable def gU(sep:List Nat)(ls:List (List Nat)):Nat:=(ls.map List.length).sum+ls.length*sep.length
noncomputable def Ff:BM->Str
 |.find=> "find" |.lower=> "lower" |.upper=> "upper" |.strip=> "strip" |.split=> "split" |.join=> "join"
 |.append=> "append" |.pop=> "pop" |.reverse=> "reverse" |.remove=> "remove" |.get=> "get"
noncomputable def IP:BM->String
 |.find=> "str.find" |.lower=> "str.lower" |.upper=> "str.upper" |.strip=> "str.strip" |.split=> "str.split" |.join=> "str.join"
 |.append=> "list.append" |.pop=> "list.pop" |.reverse=> "list.reverse" |.remove=> "list.remove" |.get=> "dict.get"
noncomputable def ui(m:BM):Nat:=match m with|.append|.pop|.reverse|.remove=>1|.get=>2|_=>0
noncomputable def td(x:Option fA):Nat:=match x with|some (.lst _)=>1|some (.nd _)=>2|_=>3
theorem L2{x}(h:Nat.beq 0 (td x)=true):False:=by
 cases x with
 |none=>show Bool.noConfusion h
 |some x=>cases x<;>show Bool.noConfusion h
theorem Ln{x}(h:Nat.beq 1 (td x)=true):∃l,x=some (.lst l):=by
 cases x with
 |none=>show Bool.noConfusion h
 |some x=>cases x<;>first|show⟨_,rfl⟩|show Bool.noConfusion h
theorem Nk{x}(h:Nat.beq 2 (td x)=true):∃l,x=some (.nd l):=by
 cases x with
 |none=>show Bool.noConfusion h
 |some x=>cases x<;>first|show⟨_,rfl⟩|show Bool.noConfusion h
noncomputable def lC(m:BM)(d:V)(J:Hp):Bool:=match d with
 |.str _=>Nat.beq (ui m) 0
 |.sdct _=>Nat.beq (ui m) 2
 |.loc k=>Nat.beq (ui m) (td J[k]?)
 |_=>false
def gq(m:BM)(o:V)(args:List V)(J:Hp)(Q:V->Hp->Prop):Prop:=match m with
 |.find=>iP o λl=>xQ args (λa=>iP a λx=>Q (.int (fE x l 0)) J) λa b=>iP a λx=>gI b λi=>0<=i/\i<2^40/\Q (.int (fE x l i.toNat)) J
 |.lower=>iP o λl=>C4 args (eW l/\l.length<=1000000/\Q (.str (l.map lo1)) J)
 |.upper=>iP o λl=>C4 args (eW l/\l.length<=1000000/\Q (.str (l.map up1)) J)
 |.strip=>iP o λl=>l6 args λa=>iP a λcs=>Q (.str (strip cs l)) J
 |.split=>iP o λl=>l6 args λa=>iP a λcs=>HM cs λc=>l.length<=1000000/\Q (.lst ((fC c l).map .str)) J
 |.join=>iP o λsep=>l6 args λa=>match a with
  |.lst l=>fj (iZ l) λls=>gU sep ls<=eh/\Q (.str (iW sep ls)) J
  |a=>kW a λk=>i6 J[k]? λl=>fj (iZ l) λls=>gU sep ls<=eh/\Q (.str (iW sep ls)) J
 |.append=>kW o λk=>l6 args λv=>i6 J[k]? λl=>l.length<=1000000/\Q .none (J.set k (.lst (l++[v])))
 |.pop=>kW o λk=>C4 args (i6 J[k]? λl=>fj l.getLast? λv=>Q v (J.set k (.lst l.dropLast)))
 |.reverse=>kW o λk=>C4 args (i6 J[k]? λl=>Q .none (J.set k (.lst l.reverse)))
 |.remove=>kW o λk=>l6 args λa=>iP a λx=>i6 J[k]? λl=>fj (iZ l) λls=>x∈ls/\Q .none (J.set k (.lst ((ls.erase x).map .str)))
 |.get=>match o with
  |.sdct kvs=>xQ args (λ_=>False) λa d=>iP a λk=>Q ((eY kvs k).getD d) J
  |o=>kW o λl=>xZ J[l]? λkvs=>xQ args (λa=>gI a λk=>Q ((fP kvs k).getD .none) J) λa d=>gI a λk=>Q ((fP kvs k).getD d) J
noncomputable def Al:fD->Addr
 |.throw _=>fN
 |.num=>jH
 |.host=>jI
inductive gH(B:eD)(W:Wd)(h0 h:Heap)(e:Value)(x:fD):Prop
 |mk (a:Addr) (o:Obj) (vs:Array Value) (dx:Addr) (od:Obj) (kvs:List (Str×Value)) (h1:e=.ref a) (h2:h0.get? a=none) (h3:h.get? a=some o) (h4:o.cls=.ref (Al x)) (h5:o.data=.fields vs) (h6:a∉W.ι) (h7:W.F a=none) (h8:B.h₀.objs.size<=a)
  (h9:vs[1]?=some .none\/∃T ot ts,vs[1]?=some (.ref T)/\h0.get? T=none/\T≠a/\h.get? T=some ot/\ot.data=.fields ts/\ts[3]?=some .none/\T∉W.ι/\W.F T=none)
  (h10:o.dict=some dx) (h11:W.F dx=some od) (h12:od.IsDictOf (strKind pw B.w) kvs)
  (h13:match x with|.throw v=>∃u,valueAt kvs (Str.ofString "value")=some u/\W.Rep B v u|_=>True)
theorem gH.back{B:eD}{W:Wd}{h0 h1 h:Heap}{e:Value}{x:fD}(r:gH B W h1 h e x)(k:∀b,h1.get? b=none->h0.get? b=none):gH B W h0 h e x:=by
 obtain⟨a,o,vs,dx,od,kvs,h1,h2,h3,h4,h5,h6,h7,h8,h9,h10,h11,h12,h13⟩:=r;show⟨a,o,vs,dx,od,kvs,h1,k a h2,h3,h4,h5,h6,h7,h8,?_,h10,h11,h12,h13⟩;rcases h9 with h9|⟨T,ot,ts,q1,q2,q3⟩
 ·show .inl h9
 ·show .inr ⟨T,ot,ts,q1,k T q2,q3⟩
theorem eA.fresh{B:eD}{stk:List Env}{S:List Addr}{W W':Wd}{aa:Hp}{h h':Heap}(e:eA S W h W' h')(i:ef B stk W' aa h')(b:Addr)(n:h'.get? b=none):h.get? b=none:=by
 cases q:h.get? b with
 |none=>rfl
 |some o=>
  by_cases w:b∈W.ι
  ·obtain⟨l,hl,e'⟩:=List.getElem_of_mem (e.memι w);have hl':l<aa.length:=by rwa[i.len.symm];show hl
   show d6 (i.objs l aa[l] b (List.getElem?_eq_getElem hl') (by show d4 (List.getElem?_eq_getElem hl) (d4 e' rfl))) λo' e' _=>?_
   rw[n] at e';injection e'
  ·show d6 (e.keep b o q w) λsl e' _=>?_
   rw[n] at e';injection e'
def d7(B:eD)(n:Nat)(a:Addr)(args:List V)(J:Hp)(Q:V->Hp->Prop)(X:fD->Hp->Prop):Prop:=
 ∀(A:Around) (stk:List Env) (W:Wd) (s:Shared) (vs:List Value) (PV PE:Value->Shared->Prop),hH A stk n->ef B stk W J s.heap->W.RepL B args vs->
  (∀v s' W' aa d,eA (frs stk) W s.heap W' s'.heap->ef B stk W' aa s'.heap->W'.Rep B d v->gc s s'->Q d aa->PV v s')->
  (∀e s' W' aa x,eA (frs stk) W s.heap W' s'.heap->ef B stk W' aa s'.heap->gH B W' s.heap s'.heap e x->gc s s'->X x aa->PE e s')->
  wpAny B.M A (call (.ref a) vs) PV PE s
theorem d7.mono{B:eD}{n:Nat}{a:Addr}{args:List V}{J:Hp}{Q Q':V->Hp->Prop}{X X':fD->Hp->Prop}(h:d7 B n a args J Q X)(hq:∀d aa,Q d aa->Q' d aa)(hx:∀x aa,X x aa->X' x aa):
  d7 B n a args J Q' X':=λA stk W s vs PV PE h1 h2 h3 h4 h5=>
 h A stk W s vs PV PE h1 h2 h3 (λv s' W' aa d a b c r q=>h4 v s' W' aa d a b c r (hq _ _ q)) (λe s' W' aa x a b c r q=>h5 e s' W' aa x a b c r (hx _ _ q))
theorem hH.le{A:Around}{stk:List Env}{n m:Nat}(h:hH A stk m)(l:n<=m):hH A stk n:=⟨h.handled,h.frames,by have:=h.depth;lia,by have:=h.units;lia⟩
theorem d7.le{B:eD}{n m:Nat}{a:Addr}{args:List V}{J:Hp}{Q:V->Hp->Prop}{X:fD->Hp->Prop}(h:d7 B n a args J Q X)(l:n<=m):d7 B m a args J Q X:=
 λA stk W s vs PV PE h1 h2 h3 h4 h5=>h A stk W s vs PV PE (h1.le l) h2 h3 h4 h5
noncomputable def iz(C:Addr)(n:List Nat):Option Addr:=(mR.find? λr=>r.1==C&&r.2.1==n).map (·.2.2)
def mr(p:Prop):Prop:=Function.const Prop p ((∀B n a args J Q X,d7 B n a args J Q X)/\(∀m o a J Q,gq m o a J Q)/\(∀m a J Q,je m a J Q)/\(∀o a b J Q,fa o a b J Q)/\(∀o a b J Q,iq o a b J Q)/\(∀a b J Q,eO a b J Q)/\(∀a b c J Q,gf a b c J Q)/\(∀a b J Q,fy a b J Q))
def lu{α:Type}(o:Option α)(f:α->Prop):Prop:=match o with
 |some a=>f a
 |none=>mr False
theorem j7{α:Type}{o:Option α}{f:α->Prop}(h:lu o f):∃a,o=some a/\f a:=by
 cases o with
 |none=>show(show False from h).elim
 |some a=>show⟨a,rfl,h⟩
theorem jc{α:Type}{o:Option α}{f:α->Prop}{a:α}(e:o=some a)(h:f a):lu o f:=by rwa[e];show h
def i5(v:V)(t f:Prop):Prop:=match v with
 |.bool true=>t
 |.bool false=>f
 |_=>mr False
theorem JJ{G:Prop}{v:V}{t f:Prop}(h:i5 v t f)(g:∀b,v=.bool b->(if b=true then t else f)->G):G:=by
 cases v with
 |bool b=>cases b<;>show g _ rfl h
 |_=>show(show False from h).elim
def zX{α:Type}(o:Option (α×Option Nat))(f:α->Prop):Prop:=match o with
 |some (x,none)=>f x
 |_=>False
theorem Hr{α:Type}{o:Option (α×Option Nat)}{f:α->Prop}(h:zX o f):∃x,o=some (x,none)/\f x:=by
 cases o with
 |none=>show False.elim h
 |some p=>
  obtain⟨x,k⟩:=p;cases k with
  |none=>show⟨x,rfl,h⟩
  |some=>show False.elim h
def fin(t:Bool)(d:V)(J:Hp)(Q:V->Hp->Prop):Prop:=match t with
 |false=>Q d J
 |true=>lu (truthy d J) λb=>Q (.bool b) J
def O1(v:V)(t f:Prop):Prop:=match v with
 |.bool true=>t
 |.bool false=>f
 |_=>False
noncomputable def qr(t:Nat)(cond elt:ew->Hp->(V->Hp->Prop)->Prop)(Q:V->Hp->Prop)(U:ew):List V->Hp->List V->Prop
 |[],J,acc=>Q (.lst acc) J
 |x::xs,J,acc=>cond (U.set t (some x)) J λb aa=>O1 b (elt (U.set t (some x)) aa λv af=>qr t cond elt Q U xs af (acc++[v])) (qr t cond elt Q U xs aa acc)
noncomputable def fF(d:V)(J:Hp):Option (List V×Option Nat):=match d with
 |.lst xs=>some (xs,none)
 |.tup xs=>some (xs,none)
 |.str l=>some (l.map λc=> .str [c],none)
 |.rng a b=>if 0<=a/\a<=2^24/\-(2^40)<=b/\b<=2^24 then some ((List.range (b-a).toNat).map λ(k:Nat)=>V.int (a+(k:Int)),none) else none
 |.loc l=>C1 J[l]? λxs=>some (xs,some l)
 |_=>none
def oE(k:Option Nat)(xs:List V)(J:Hp):Prop:=match k with
 |none=>True
 |some l=>J[l]?=some (.lst xs)
def xo(ks:List (List Nat))(vs:List V)(J:Hp)(Q:V->Hp->Prop):Prop:=ks.length=vs.length/\ks.Nodup/\Q (.loc J.length) (J++[.sd (ks.zip vs)])
def ya(ks:List (List Nat))(vs:List V)(J:Hp)(Q:V->Hp->Prop):Prop:=ks.length=vs.length/\ks.Nodup/\Q (.sdct (ks.zip vs)) J
def u3(c:Bool)(d:V)(J:Hp)(a:Prop)(q:V->Prop):Prop:=match d with
 |.bool b=>(match c with
  |true=>i5 (.bool b) a (q (.bool false))
  |false=>i5 (.bool b) (q (.bool true)) a)
 |d=>lu (truthy d J) λb=>if b=c then a else q d
theorem tY{c:Bool}{d:V}{J:Hp}{a:Prop}{q:V->Prop}:u3 c d J a q=lu (truthy d J) λb=>if b=c then a else q d:=by
 cases d with
 |bool b=>cases b<;>cases c<;>first|rfl|(show _=ite _ _ _;first|rw[if_pos rfl];rfl|rw[if_neg (by decide)];rfl)
 |_=>rfl
theorem Ku{b:Bool}{p:Prop}(h:i5 (.bool b) p False):b=true/\p:=by
 cases b with
 |true=>show⟨rfl,h⟩
 |false=>show h.elim
theorem JR{b:Bool}{p:Prop}(h:b=true)(k:p):i5 (.bool b) p False:=by subst h;show k
def CN(o:Option (Option V))(k:V->Prop):Prop:=match o with
 |some (some d)=>k d
 |_=>mr False
theorem JB{G:Prop}{o:Option (Option V)}{k:V->Prop}(h:CN o k)(g:∀d,o=some (some d)->k d->G):G:=by
 cases o with
 |none=>show(show False from h).elim
 |some o=>
  cases o with
  |none=>show(show False from h).elim
  |some d=>show g d rfl h
theorem LW{o:Option (Option V)}{k:V->Prop}{d:V}(e:o=some (some d))(h:k d):CN o k:=by rwa[e];show h
mutual
noncomputable def eg(B:eD)(n:Nat)(X:fD->Hp->Prop):Ex->Bool->ew->Hp->(V->Hp->Prop)->Prop
 |.none,t,_,J,Q=>fin t .none J Q
 |.bool b,t,_,J,Q=>fin t (.bool b) J Q
 |.int i,t,_,J,Q=>fin t (.int i) J Q
 |.str l,t,_,J,Q=>fin t (.str l) J Q
 |.lv i,t,U,J,Q=>CN U[i]? λd=>fin t d J Q
 |.gv _ d,t,_,J,Q=>fin t d J Q
 |.tup es,t,U,J,Q=>fH B n X es U J λds aa=>fin t (.tup ds) aa Q
 |.lstF es,t,U,J,Q=>fH B n X es U J λds aa=>fin t (.lst ds) aa Q
 |.lstT es,t,U,J,Q=>fH B n X es U J λds aa=>fin t (.loc aa.length) (aa++[.lst ds]) Q
 |.sdT ks es,t,U,J,Q=>fH B n X es U J λds aa=>xo ks ds aa λd af=>fin t d af Q
 |.sdF ks es,t,U,J,Q=>fH B n X es U J λds aa=>ya ks ds aa λd af=>fin t d af Q
 |.ndT,t,_,J,Q=>fin t (.loc J.length) (J++[.nd []]) Q
 |.bin op a b,t,U,J,Q=>eg B n X a false U J λda aa=>eg B n X b false U aa λdb af=>gR op da db af λd ak=>fin t d ak Q
 |.neg a,t,U,J,Q=>eg B n X a false U J λda aa=>gI da λi=>fin t (.int (-i)) aa Q
 |.cmp op a b,t,U,J,Q=>eg B n X a false U J λda aa=>eg B n X b false U aa λdb af=>fa op da db af λd ak=>fin t d ak Q
 |.cmp2 op op2 a b c,t,U,J,Q=>eg B n X a false U J λda aa=>eg B n X b false U aa λdb af=>fa op da db af λd ak=>i5 d (eg B n X c false U ak λdc aA=>fa op2 db dc aA λd aP=>fin t d aP Q) (Q (.bool false) ak)
 |.bop c es,t,U,J,Q=>mj B n X c es t U J Q
 |.not a,t,U,J,Q=>eg B n X a t U J λda aa=>lu (truthy da aa) λb=>Q (.bool (!b)) aa
 |.ite c a b,t,U,J,Q=>eg B n X c true U J λdc aa=>i5 dc (eg B n X a t U aa Q) (eg B n X b t U aa Q)
 |.sub a i,t,U,J,Q=>eg B n X a false U J λda aa=>eg B n X i false U aa λdi af=>eO da di af λd ak=>fin t d ak Q
 |.slc a lo hi,t,U,J,Q=>eg B n X a false U J λda aa=>eg B n X lo false U aa λdl af=>eg B n X hi false U af λdh ak=>gf da dl dh ak λd aA=>fin t d aA Q
 |.att a m,t,U,J,Q=>eg B n X a false U J λda aa=>fy da m aa λd af=>fin t d af Q
 |.call _ a args,t,U,J,Q=>fH B n X args U J λds aa=>d7 B n a ds aa (λd af=>fin t d af Q) X
 |.callB f args,t,U,J,Q=>fH B n X args U J λds aa=>je f ds aa λd af=>fin t d af Q
 |.methB o m args,t,U,J,Q=>eg B n X o false U J λd ah=>i5 (.bool (lC m d ah)) (fH B n X args U ah λds aa=>gq m d ds aa λd af=>fin t d af Q) False
 |.methP o m args,t,U,J,Q=>eg B n X o false U J λd ah=>tW d λC dx=>fj (iz C m) λf=>kJ ah[dx]? λkvs=>eY kvs m=none/\fH B n X args U ah λds aa=>d7 B n f (.inst C dx::ds) aa (λd af=>fin t d af Q) X
 |.comp elt k it cond ns caps,t,U,J,Q=>eg B n X it false U J λd aa=>zX (fF d aa) λxs=>qr k (λU J K=>eg B n (λ_ _=>False) cond true U J K) (λU J K=>eg B n (λ_ _=>False) elt false U J K) (λd af=>fin t d af Q) (caps.map (λi=>(U[i]?).join)++List.replicate (ns.length-caps.length) none) xs aa []
noncomputable def fH(B:eD)(n:Nat)(X:fD->Hp->Prop):gz->ew->Hp->(List V->Hp->Prop)->Prop
 |.nil,_,J,Q=>Q [] J
 |.cons e es,U,J,Q=>eg B n X e false U J λd aa=>fH B n X es U aa λds af=>Q (d::ds) af
noncomputable def mj(B:eD)(n:Nat)(X:fD->Hp->Prop)(c:Bool):gz->Bool->ew->Hp->(V->Hp->Prop)->Prop
 |.nil,_,_,_,_=>False
 |.cons e es,t,U,J,Q=>match es with
  |.nil=>eg B n X e t U J Q
  |.cons _ _=>eg B n X e t U J λd aa=>u3 c d aa (mj B n X c es t U aa Q) λd=>Q d aa
end
def G5(fl:Fl)(a:Prop)(b:V->Prop):Prop:=match fl with
 |.next=>a
 |.ret v=>b v
noncomputable def pP(test:ew->Hp->(V->Hp->Prop)->Prop)(body:ew->Hp->(Fl->ew->Hp->Prop)->Prop)(Q:Fl->ew->Hp->Prop):Nat->ew->Hp->Prop
 |0,_,_=>False
 |m+1,U,J=>test U J λb aa=>O1 b (body U aa λfl ag af=>G5 fl (pP test body Q m ag af) λv=>Q (.ret v) ag af) (Q .next U aa)
noncomputable def tX:List Nat->List V->ew->Option ew
 |[],vs,U=>if vs.isEmpty then some U else none
 |i::is,vs,U=>match vs with
  |v::vs=>tX is vs (U.set i (some v))
  |[]=>none
noncomputable def mT(is:List Nat)(v:V)(U:ew):Option ew:=match v with
 |.tup vs=>tX is vs U
 |_=>none
noncomputable def qO(bind:V->ew->Option ew)(k:Option Nat)(all:List V)(body:ew->Hp->(Fl->ew->Hp->Prop)->Prop)(Q:Fl->ew->Hp->Prop):List V->ew->Hp->Prop
 |[],U,J=>oE k all J/\Q .next U J
 |x::xs,U,J=>oE k all J/\fj (bind x U) λag=>body ag J λfl bG aa=>G5 fl (qO bind k all body Q xs bG aa) λv=>Q (.ret v) bG aa
def iu(o k v:V)(J:Hp)(Q:Hp->Prop):Prop:=kW o λl=>NF k (λk=>kJ J[l]? λkvs=>kvs.length<=10000/\Q (J.set l (.sd (mL kvs k v))))
 λk=>xZ J[l]? λkvs=>kvs.length<=10000/\Q (J.set l (.nd (jr kvs k v)))
def mf(o:V)(m:List Nat)(v:V)(J:Hp)(Q:Hp->Prop):Prop:=tW o λC d=>yc (i4 C m) (kJ J[d]? λkvs=>kvs.length<=500/\Q (J.set d (.sd (mL kvs m v))))
def qc(k:Nat)(ds:List V)(J:Hp)(X:fD->Hp->Prop):Prop:=match k with
 |0=>l6 ds λv=>X (.throw v) J
 |1=>l6 ds λv=>iP v λ_=>X .num J
 |2=>l6 ds λv=>iP v λ_=>X .host J
 |_=>False
def sQ(o k:V)(J:Hp)(Q:V->Hp->Prop):Prop:=kW o λl=>iP k λk=>kJ J[l]? λkvs=>fj (eY kvs k) λd=>Q d J
mutual
noncomputable def gV(B:eD)(n:Nat)(X:fD->Hp->Prop):St->ew->Hp->(Fl->ew->Hp->Prop)->Prop
 |.bad,_,_,_=>False
 |.expr e,U,J,Q=>eg B n X e false U J λ_ aa=>Q .next U aa
 |.asg i e,U,J,Q=>eg B n X e false U J λd aa=>Q .next (U.set i (some d)) aa
 |.asgT is e,U,J,Q=>eg B n X e false U J λd aa=>lu (mT is d U) λag=>Q .next ag aa
 |.asgA o m e,U,J,Q=>eg B n X e false U J λd aa=>eg B n X o false U aa λod af=>mf od m d af λak=>Q .next U ak
 |.asgS o k e,U,J,Q=>eg B n X e false U J λd aa=>eg B n X o false U aa λod af=>eg B n X k false U af λkd ak=>iu od kd d ak λaA=>Q .next U aA
 |.aug i op e,U,J,Q=>CN U[i]? λd=>eg B n X e false U J λd' aa=>iq op d d' aa λr af=>Q .next (U.set i (some r)) af
 |.augS o k op e,U,J,Q=>eg B n X o false U J λod aa=>eg B n X k false U aa λkd af=>sQ od kd af λd ak=>eg B n X e false U ak λd' aA=>iq op d d' aA λr aP=>iu od kd r aP λbl=>Q .next U bl
 |.ite c t f,U,J,Q=>eg B n X c true U J λb aa=>i5 b (eH B n X t U aa Q) (eH B n X f U aa Q)
 |.whl c b,U,J,Q=>∃m,pP (λU J K=>eg B n (λ_ _=>False) c true U J K) (λU J K=>eH B n (λ_ _=>False) b U J K) Q m U J
 |.for1 i it b,U,J,Q=>eg B n X it false U J λd aa=>lu (fF d aa) λp=>qO (λv U=>some (U.set i (some v))) p.2 p.1 (λU J K=>eH B n (λ_ _=>False) b U J K) Q p.1 U aa
 |.forT is it b,U,J,Q=>eg B n X it false U J λd aa=>lu (fF d aa) λp=>qO (mT is) p.2 p.1 (λU J K=>eH B n (λ_ _=>False) b U J K) Q p.1 U aa
 |.ret e,U,J,Q=>eg B n X e false U J λd aa=>Q (.ret d) U aa
 |.raise k args,U,J,_=>2<=n/\fH B n X args U J λds aa=>qc k ds aa X
 |.try3 i e sv,U,J,Q=>eg B n (λx aa=>match x with
   |.throw v=>Q .next (U.set i (some (.tup [.str sv,v]))) aa
   |.num=>Q .next (U.set i (some (.tup [.str `out,.none]))) aa
   |.host=>Q .next (U.set i (some (.tup [.str `host,.none]))) aa) e false U J λd aa=>Q .next (U.set i (some d)) aa
noncomputable def eH(B:eD)(n:Nat)(X:fD->Hp->Prop):eu->ew->Hp->(Fl->ew->Hp->Prop)->Prop
 |.nil,U,J,Q=>Q .next U J
 |.cons s r,U,J,Q=>gV B n X s U J λfl ag aa=>match fl with
  |.next=>eH B n X r ag aa Q
  |.ret v=>Q (.ret v) ag aa
end
noncomputable def nD:eu:=%[.asgA (.lv 0) `number (.int 0),.asgA (.lv 0) `text (.lv 1)|.nil]
abbrev eU:=List (List Nat)
noncomputable def gC:eU:=[`self,`text]
noncomputable def nz:eu:=%[.asgA (.lv 0) `number (.int 0),.asgA (.lv 0) `text (.lv 1)|.nil]
noncomputable def gA:eU:=[`self,`text]
noncomputable def kU:eu:=%[.asgA (.lv 0) `number (.lv 1),.asgA (.lv 0) `sort (.lv 2),.asgA (.lv 0) `names (.lstT .nil),.asgA (.lv 0) `slots (.sdT [] .nil),.asgA (.lv 0) `getters (.sdT [] .nil),.asgA (.lv 0) `setters (.sdT [] .nil),.asgA (.lv 0) `proto (.lv 3),.asgA (.lv 0) `items (.lstF .nil),.asgA (.lv 0) `code .none,.asgA (.lv 0) `native (.int 0),.asgA (.lv 0) `home (.neg (.int 1))|.nil]
noncomputable def tr:eU:=[`self,`number,`sort,`proto]
noncomputable def Cg:eu:=%[.asgA (.lv 0) `things (.lstT .nil),.asgA (.lv 0) `natives .ndT|.nil]
noncomputable def Cn:eU:=[`self]
noncomputable def DE:eu:=%[.asgA (.lv 0) `cells (.sdT [] .nil),.asgA (.lv 0) [117,112] (.lv 1)|.nil]
noncomputable def D8:eU:=[`self,[117,112]]
noncomputable def zm:eu:=%[.ret (.tup %[.gv 6 (.int 0),.int 0|.nil])|.nil]
noncomputable def zq:eU:=[]
noncomputable def nP:eu:=%[.ret (.ite (.lv 0) (.tup %[.gv 8 (.int 2),.int 1|.nil]) (.tup %[.gv 8 (.int 2),.int 0|.nil]))|.nil]
noncomputable def ta:eU:=[[98]]
noncomputable def pv:eu:=%[.ite (.bop false %[.cmp .gt (.lv 0) (.gv 35 (.int 9007199254740991)),.cmp .lt (.lv 0) (.bin .sub (.int 0) (.gv 35 (.int 9007199254740991)))|.nil]) %[.raise 1 %[.str [116,104,101,32,110,117,109,98,101,114,32,105,115,32,116,111,111,32,108,97,114,103,101]|.nil]|.nil] .nil,.ret (.tup %[.gv 9 (.int 3),.lv 0|.nil])|.nil]
noncomputable def ur:eU:=[[110]]
noncomputable def oW:eu:=%[.asg 3 (.call 43 140 %[.callB .len %[.att (.lv 0) `things|.nil],.lv 1,.lv 2|.nil]),.expr (.methB (.att (.lv 0) `things) .append %[.lv 3|.nil]),.ret (.lv 3)|.nil]
noncomputable def uN:eU:=[`heap,`sort,`proto,`thing]
noncomputable def kz:eu:=%[.whl (.bop true %[.cmp .lt (.lv 1) (.callB .len %[.lv 0|.nil]),.cmp .in_ (.sub (.lv 0) (.lv 1)) (.str [48,49,50,51,52,53,54,55,56,57])|.nil]) %[.aug 1 .add (.int 1)|.nil],.ret (.lv 1)|.nil]
noncomputable def oH:eU:=[`text,[97,116]]
noncomputable def qY:eu:=%[.ret (.bop false %[.cmp .in_ (.lv 1) (.att (.lv 0) `slots),.cmp .in_ (.lv 1) (.att (.lv 0) `getters),.cmp .in_ (.lv 1) (.att (.lv 0) `setters)|.nil])|.nil]
noncomputable def v8:eU:=[`thing,`name]
noncomputable def Bk:eu:=%[.ite (.cmp .eq (.att (.lv 0) `sort) (.gv 14 (.int 1))) %[.bad,.bad|.nil] .nil,.ite (.cmp .in_ (.lv 1) (.att (.lv 0) `slots)) %[.ret (.tup %[.int 1,.sub (.att (.lv 0) `slots) (.lv 1),.tup %[.gv 6 (.int 0),.int 0|.nil]|.nil])|.nil] .nil,.ite (.cmp .in_ (.lv 1) (.att (.lv 0) `getters)) %[.bad|.nil] .nil,.ite (.cmp .in_ (.lv 1) (.att (.lv 0) `setters)) %[.bad|.nil] .nil,.ret (.tup %[.int 0,.tup %[.gv 6 (.int 0),.int 0|.nil],.tup %[.gv 6 (.int 0),.int 0|.nil]|.nil])|.nil]
noncomputable def BC:eU:=[`thing,`name,`found,`value]
noncomputable def Em:eu:=%[.ite (.cmp .eq (.sub (.lv 1) (.int 0)) (.gv 11 (.int 5))) %[.bad,.bad|.nil] .nil,.ite (.cmp .ne (.sub (.lv 1) (.int 0)) (.gv 12 (.int 6))) %[.bad|.nil] .nil,.asg 5 (.sub (.lv 1) (.int 1)),.whl (.cmp .ge (.lv 5) (.int 0)) %[.asg 6 (.sub (.att (.lv 0) `things) (.lv 5)),.asg 7 (.call 56 277 %[.lv 6,.lv 2|.nil]),.ite (.sub (.lv 7) (.int 0)) %[.ret (.lv 7)|.nil] .nil,.asg 5 (.att (.lv 6) `proto)|.nil],.bad|.nil]
noncomputable def DV:eU:=[`heap,[118],`name,`found,`value,`number,`thing,`answer]
noncomputable def r5:eu:=%[.asg 4 (.sub (.att (.lv 0) `things) (.lv 1)),.ite (.cmp .eq (.att (.lv 4) `sort) (.gv 14 (.int 1))) %[.bad,.bad,.bad|.nil] .nil,.ite (.not (.call 55 270 %[.lv 4,.lv 2|.nil])) %[.expr (.methB (.att (.lv 4) `names) .append %[.lv 2|.nil])|.nil] .nil,.ite (.cmp .in_ (.lv 2) (.att (.lv 4) `getters)) %[.bad|.nil] .nil,.ite (.cmp .in_ (.lv 2) (.att (.lv 4) `setters)) %[.bad|.nil] .nil,.asgS (.att (.lv 4) `slots) (.lv 2) (.lv 3)|.nil]
noncomputable def yt:eU:=[`heap,`number,`name,[118],`thing,`place]
noncomputable def oU:eu:=%[.asg 3 (.sub (.att (.lv 0) `things) (.lv 1)),.ite (.cmp .in_ (.lv 2) (.att (.lv 3) `names)) %[.expr (.methB (.att (.lv 3) `names) .remove %[.lv 2|.nil])|.nil] .nil|.nil]
noncomputable def uQ:eU:=[`heap,`number,`name,`thing]
noncomputable def nQ:eu:=%[.asg 3 (.sub (.call 57 284 %[.lv 0,.lv 1,.str `name|.nil]) (.int 1)),.asg 4 (.ite (.cmp .eq (.sub (.lv 3) (.int 0)) (.gv 6 (.int 0))) (.str `Error) (.call 67 354 %[.lv 0,.lv 3,.lv 2|.nil])),.asg 3 (.sub (.call 57 284 %[.lv 0,.lv 1,.str `message|.nil]) (.int 1)),.asg 5 (.ite (.cmp .eq (.sub (.lv 3) (.int 0)) (.gv 6 (.int 0))) (.str []) (.call 67 354 %[.lv 0,.lv 3,.lv 2|.nil])),.ite (.cmp .eq (.lv 5) (.str [])) %[.ret (.lv 4)|.nil] .nil,.ite (.cmp .eq (.lv 4) (.str [])) %[.ret (.lv 5)|.nil] .nil,.ret (.bin .add (.bin .add (.lv 4) (.str [58,32])) (.lv 5))|.nil]
noncomputable def sW:eU:=[`heap,[118],`seen,`told,`name,`message]
noncomputable def oV:eu:=%[.ite (.cmp .ge (.callB .len %[.lv 1|.nil]) (.gv 38 (.int 15))) %[.bad|.nil] .nil,.expr (.methB (.lv 1) .append %[.att (.lv 0) `number|.nil])|.nil]
noncomputable def uM:eU:=[`thing,`seen]
noncomputable def ny:eu:=%[.ite (.cmp .in_ (.att (.lv 1) `number) (.lv 3)) %[.bad|.nil] .nil,.expr (.call 64 333 %[.lv 1,.lv 3|.nil]),.asg 4 (.lstT .nil),.asg 5 (.int 0),.for1 6 (.att (.lv 1) `items) %[.asg 7 (.ite (.cmp .le (.sub (.lv 6) (.int 0)) (.gv 7 (.int 1))) (.str []) (.call 67 354 %[.lv 0,.lv 6,.lv 3|.nil])),.aug 5 .add (.bin .add (.bin .add (.callB .len %[.lv 7|.nil]) (.callB .len %[.lv 2|.nil])) (.int 1)),.ite (.cmp .gt (.lv 5) (.gv 37 (.int 1048576))) %[.bad|.nil] .nil,.expr (.methB (.lv 4) .append %[.lv 7|.nil])|.nil],.expr (.methB (.lv 3) .pop .nil),.ret (.methB (.lv 2) .join %[.lv 4|.nil])|.nil]
noncomputable def tc:eU:=[`heap,`thing,`sep,`seen,`out,`total,`item,`piece]
noncomputable def f6:eu:=%[.asg 3 (.sub (.att (.lv 0) `things) (.sub (.lv 1) (.int 1))),.ite (.cmp .eq (.att (.lv 3) `sort) (.gv 14 (.int 1))) %[.ret (.call 65 340 %[.lv 0,.lv 3,.str [44],.lv 2|.nil])|.nil] .nil,.ite (.cmp .eq (.att (.lv 3) `sort) (.gv 15 (.int 2))) %[.bad|.nil] .nil,.ite (.cmp .eq (.att (.lv 3) `sort) (.gv 16 (.int 3))) %[.ite (.cmp .in_ (.att (.lv 3) `number) (.lv 2)) %[.bad|.nil] .nil,.expr (.call 64 333 %[.lv 3,.lv 2|.nil]),.asg 4 (.call 63 326 %[.lv 0,.lv 1,.lv 2|.nil]),.expr (.methB (.lv 2) .pop .nil),.ret (.lv 4)|.nil] .nil,.ret (.str [91,111,98,106,101,99,116,32,79,98,106,101,99,116,93])|.nil]
noncomputable def iO:eU:=[`heap,[118],`seen,`thing,`text]
noncomputable def fU:eu:=%[.asg 3 (.sub (.lv 1) (.int 0)),.ite (.cmp .eq (.lv 3) (.gv 6 (.int 0))) %[.ret (.str `undefined)|.nil] .nil,.ite (.cmp .eq (.lv 3) (.gv 7 (.int 1))) %[.ret (.str `null)|.nil] .nil,.ite (.cmp .eq (.lv 3) (.gv 8 (.int 2))) %[.ret (.ite (.sub (.lv 1) (.int 1)) (.str `true) (.str `false))|.nil] .nil,.ite (.cmp .eq (.lv 3) (.gv 9 (.int 3))) %[.ret (.callB .str %[.sub (.lv 1) (.int 1)|.nil])|.nil] .nil,.ite (.cmp .eq (.lv 3) (.gv 10 (.int 4))) %[.ret (.str `NaN)|.nil] .nil,.ite (.cmp .eq (.lv 3) (.gv 11 (.int 5))) %[.ret (.sub (.lv 1) (.int 1))|.nil] .nil,.ret (.call 66 347 %[.lv 0,.lv 1,.lv 2|.nil])|.nil]
noncomputable def iw:eU:=[`heap,[118],`seen,`tag]
noncomputable def sR:eu:=%[.ret (.call 67 354 %[.lv 0,.lv 1,.lstT .nil|.nil])|.nil]
noncomputable def yL:eU:=[`heap,[118]]
noncomputable def sO:eu:=%[.asg 1 (.int 0),.asg 2 (.callB .len %[.lv 0|.nil]),.whl (.bop true %[.cmp .lt (.lv 1) (.lv 2),.cmp .in_ (.sub (.lv 0) (.lv 1)) (.gv 40 (.str [32,9,10,13,11,12,160,5760,8192,8193,8194,8195,8196,8197,8198,8199,8200,8201,8202,8232,8233,8239,8287,12288,65279]))|.nil]) %[.aug 1 .add (.int 1)|.nil],.whl (.bop true %[.cmp .lt (.lv 1) (.lv 2),.cmp .in_ (.sub (.lv 0) (.bin .sub (.lv 2) (.int 1))) (.gv 40 (.str [32,9,10,13,11,12,160,5760,8192,8193,8194,8195,8196,8197,8198,8199,8200,8201,8202,8232,8233,8239,8287,12288,65279]))|.nil]) %[.aug 2 .sub (.int 1)|.nil],.ret (.slc (.lv 0) (.lv 1) (.lv 2))|.nil]
noncomputable def yy:eU:=[`text,`low,`high]
noncomputable def lD:eu:=%[.ite (.cmp .eq (.lv 0) (.str [])) %[.ret (.neg (.int 1))|.nil] .nil,.asg 2 (.int 0),.for1 3 (.methB (.lv 0) .lower .nil) %[.asg 4 (.methB (.gv 41 (.str [48,49,50,51,52,53,54,55,56,57,97,98,99,100,101,102])) .find %[.lv 3|.nil]),.ite (.bop false %[.cmp .lt (.lv 4) (.int 0),.cmp .ge (.lv 4) (.lv 1)|.nil]) %[.ret (.neg (.int 1))|.nil] .nil,.asg 2 (.bin .add (.bin .mul (.lv 2) (.lv 1)) (.lv 4)),.ite (.cmp .gt (.lv 2) (.gv 35 (.int 9007199254740991))) %[.asg 2 (.bin .add (.gv 35 (.int 9007199254740991)) (.int 1))|.nil] .nil|.nil],.ret (.lv 2)|.nil]
noncomputable def pU:eU:=[`text,`base,`total,`letter,`digit]
noncomputable def jV:eu:=%[.ret (.methB (.gv 42 (.sdct [([48,120],.int 16),([48,111],.int 8),([48,98],.int 2)])) .get %[.methB (.slc (.lv 0) (.int 0) (.int 2)) .lower .nil,.int 10|.nil])|.nil]
noncomputable def nv:eU:=[`text]
noncomputable def jz:eu:=%[.ite (.cmp .eq (.lv 0) (.str `Infinity)) %[.ret (.bool true)|.nil] .nil,.asg 1 (.call 51 242 %[.lv 0,.int 0|.nil]),.asg 2 (.lv 1),.ite (.cmp .eq (.slc (.lv 0) (.lv 1) (.bin .add (.lv 1) (.int 1))) (.str [46])) %[.asg 3 (.call 51 242 %[.lv 0,.bin .add (.lv 1) (.int 1)|.nil]),.aug 2 .add (.bin .sub (.bin .sub (.lv 3) (.lv 1)) (.int 1)),.asg 1 (.lv 3)|.nil] .nil,.ite (.cmp .eq (.lv 2) (.int 0)) %[.ret (.bool false)|.nil] .nil,.ite (.cmp .in_ (.slc (.lv 0) (.lv 1) (.bin .add (.lv 1) (.int 1))) (.tup %[.str [101],.str [69]|.nil])) %[.asg 4 (.bin .add (.lv 1) (.int 1)),.ite (.cmp .in_ (.slc (.lv 0) (.lv 4) (.bin .add (.lv 4) (.int 1))) (.tup %[.str [43],.str [45]|.nil])) %[.aug 4 .add (.int 1)|.nil] .nil,.asg 1 (.call 51 242 %[.lv 0,.lv 4|.nil]),.ite (.cmp .eq (.lv 1) (.lv 4)) %[.ret (.bool false)|.nil] .nil|.nil] .nil,.ret (.cmp .eq (.lv 1) (.callB .len %[.lv 0|.nil]))|.nil]
noncomputable def mH:eU:=[`body,[97,116],`digits,`behind,`start]
noncomputable def mq:eu:=%[.asg 1 (.call 69 368 %[.lv 0|.nil]),.ite (.cmp .eq (.lv 1) (.str [])) %[.ret (.tup %[.gv 9 (.int 3),.int 0|.nil])|.nil] .nil,.asg 2 (.call 71 382 %[.lv 1|.nil]),.ite (.cmp .ne (.lv 2) (.int 10)) %[.asg 3 (.call 70 375 %[.slc (.lv 1) (.int 2) .none,.lv 2|.nil]),.ret (.ite (.cmp .ge (.lv 3) (.int 0)) (.call 49 228 %[.lv 3|.nil]) (.tup %[.gv 10 (.int 4),.int 0|.nil]))|.nil] .nil,.asg 4 (.cmp .eq (.sub (.lv 1) (.int 0)) (.str [45])),.ite (.bop false %[.lv 4,.cmp .eq (.sub (.lv 1) (.int 0)) (.str [43])|.nil]) %[.asg 1 (.slc (.lv 1) (.int 1) .none)|.nil] .nil,.asg 3 (.call 70 375 %[.lv 1,.int 10|.nil]),.ite (.cmp .lt (.lv 3) (.int 0)) %[.ite (.call 72 389 %[.lv 1|.nil]) %[.raise 1 %[.str [110,111,32,119,104,111,108,101,32,110,117,109,98,101,114]|.nil]|.nil] .nil,.ret (.tup %[.gv 10 (.int 4),.int 0|.nil])|.nil] .nil,.ret (.call 49 228 %[.ite (.lv 4) (.bin .sub (.int 0) (.lv 3)) (.lv 3)|.nil])|.nil]
noncomputable def rE:eU:=[`text,`body,`base,[110],`minus]
noncomputable def o7:eu:=%[.asg 1 (.sub (.lv 0) (.int 0)),.ite (.cmp .eq (.lv 1) (.gv 9 (.int 3))) %[.ret (.lv 0)|.nil] .nil,.ite (.cmp .eq (.lv 1) (.gv 8 (.int 2))) %[.ret (.tup %[.gv 9 (.int 3),.sub (.lv 0) (.int 1)|.nil])|.nil] .nil,.ite (.cmp .eq (.lv 1) (.gv 11 (.int 5))) %[.ret (.call 73 396 %[.sub (.lv 0) (.int 1)|.nil])|.nil] .nil,.ite (.cmp .eq (.lv 1) (.gv 7 (.int 1))) %[.ret (.tup %[.gv 9 (.int 3),.int 0|.nil])|.nil] .nil,.ret (.tup %[.gv 10 (.int 4),.int 0|.nil])|.nil]
noncomputable def uw:eU:=[[118],`tag]
noncomputable def nX:eu:=%[.ret (.ite (.cmp .eq (.sub (.lv 1) (.int 0)) (.gv 12 (.int 6))) (.tup %[.gv 11 (.int 5),.call 68 361 %[.lv 0,.lv 1|.nil]|.nil]) (.lv 1))|.nil]
noncomputable def sV:eU:=[`heap,[118]]
noncomputable def oh:eu:=%[.ite (.cmp .gt (.callB .len %[.lv 0|.nil]) (.gv 37 (.int 1048576))) %[.bad|.nil] .nil,.ret (.tup %[.gv 11 (.int 5),.lv 0|.nil])|.nil]
noncomputable def r4:eU:=[`text]
noncomputable def mw:eu:=%[.asg 3 (.call 50 235 %[.lv 0,.gv 16 (.int 3),.lv 1|.nil]),.expr (.call 60 305 %[.lv 0,.att (.lv 3) `number,.str `message,.tup %[.gv 11 (.int 5),.lv 2|.nil]|.nil]),.expr (.call 61 312 %[.lv 0,.att (.lv 3) `number,.str `message|.nil]),.ret (.tup %[.gv 12 (.int 6),.att (.lv 3) `number|.nil])|.nil]
noncomputable def rz:eU:=[`heap,`proto,`message,`thing]
noncomputable def iQ:eu:=%[.asg 4 (.methB (.att (.att (.lv 0) `heap) `natives) .get %[.bin .fdiv (.lv 1) (.int 100)|.nil]),.ite (.cmp .is (.lv 4) .none) %[.raise 2 %[.bin .add (.str [110,111,32,110,97,116,105,118,101,32]) (.callB .str %[.lv 1|.nil])|.nil]|.nil] .nil,.ret (.methP (.lv 4) `call %[.lv 0,.lv 1,.lv 2,.lv 3|.nil])|.nil]
noncomputable def mA:eU:=[[109],`number,`this,`args,`group]
noncomputable def vp:eu:=%[.ret (.ite (.cmp .lt (.lv 1) (.callB .len %[.lv 0|.nil])) (.sub (.lv 0) (.lv 1)) (.tup %[.gv 6 (.int 0),.int 0|.nil]))|.nil]
noncomputable def Ac:eU:=[`args,`place]
noncomputable def jB:eu:=%[.ite (.cmp .eq (.sub (.lv 0) (.int 0)) (.gv 6 (.int 0))) %[.ret (.lv 1)|.nil] .nil,.asg 2 (.call 74 403 %[.lv 0|.nil]),.ret (.ite (.cmp .eq (.sub (.lv 2) (.int 0)) (.gv 9 (.int 3))) (.sub (.lv 2) (.int 1)) (.int 0))|.nil]
noncomputable def mI:eU:=[[118],`other,[110]]
noncomputable def jx:eu:=%[.ite (.cmp .lt (.lv 0) (.int 0)) %[.ret (.ite (.cmp .lt (.bin .add (.lv 1) (.lv 0)) (.int 0)) (.int 0) (.bin .add (.lv 1) (.lv 0)))|.nil] .nil,.ret (.ite (.cmp .gt (.lv 0) (.lv 1)) (.lv 1) (.lv 0))|.nil]
noncomputable def mJ:eU:=[[110],`size]
noncomputable def mz:eu:=%[.ite (.cmp .lt (.lv 0) (.int 0)) %[.ret (.int 0)|.nil] .nil,.ret (.ite (.cmp .gt (.lv 0) (.lv 1)) (.lv 1) (.lv 0))|.nil]
noncomputable def rG:eU:=[[110],`size]
noncomputable def lN:eu:=%[.ite (.cmp .le (.sub (.lv 1) (.int 0)) (.gv 7 (.int 1))) %[.expr (.methP (.lv 0) `fault %[.gv 78 (.int 1),.int 0,.str [97,32,109,101,116,104,111,100,32,111,102,32,97,32,116,101,120,116,32,119,97,115,32,116,97,107,101,110,32,111,102,102,32,105,116,115,32,116,101,120,116]|.nil])|.nil] .nil,.ret (.call 68 361 %[.att (.lv 0) `heap,.lv 1|.nil])|.nil]
noncomputable def pR:eU:=[[109],`this]
noncomputable def kA:eu:=%[.asg 2 (.int 0),.for1 3 (.lv 0) %[.aug 2 .add (.bin .add (.callB .len %[.lv 3|.nil]) (.callB .len %[.lv 1|.nil]))|.nil],.ite (.cmp .gt (.lv 2) (.gv 37 (.int 1048576))) %[.bad|.nil] .nil,.ret (.tup %[.gv 11 (.int 5),.methB (.lv 1) .join %[.lv 0|.nil]|.nil])|.nil]
noncomputable def oA:eU:=[`parts,`sep,`total,`part]
noncomputable def lO:eu:=%[.asg 3 (.call 86 459 %[.call 85 452 %[.lv 2,.int 0|.nil],.int 0|.nil]),.ite (.cmp2 .le .lt (.int 0) (.lv 3) (.callB .len %[.lv 1|.nil])) %[.ret (.tup %[.gv 11 (.int 5),.sub (.lv 1) (.lv 3)|.nil])|.nil] .nil,.ret (.tup %[.gv 11 (.int 5),.str []|.nil])|.nil]
noncomputable def pS:eU:=[[109],`text,`args,`place]
noncomputable def lb:eu:=%[.asg 3 (.call 68 361 %[.att (.lv 0) `heap,.call 85 452 %[.lv 2,.int 0|.nil]|.nil]),.asg 4 (.call 88 473 %[.call 86 459 %[.call 85 452 %[.lv 2,.int 1|.nil],.int 0|.nil],.callB .len %[.lv 1|.nil]|.nil]),.ret (.tup %[.gv 9 (.int 3),.methB (.lv 1) .find %[.lv 3,.lv 4|.nil]|.nil])|.nil]
noncomputable def oI:eU:=[[109],`text,`args,`sought,`start]
noncomputable def kM:eu:=%[.ret (.call 48 221 %[.cmp .ge (.sub (.call 92 501 %[.lv 0,.lv 1,.lv 2|.nil]) (.int 1)) (.int 0)|.nil])|.nil]
noncomputable def oC:eU:=[[109],`text,`args]
noncomputable def nU:eu:=%[.asg 3 (.call 87 466 %[.call 86 459 %[.call 85 452 %[.lv 2,.int 0|.nil],.int 0|.nil],.callB .len %[.lv 1|.nil]|.nil]),.asg 4 (.call 87 466 %[.call 86 459 %[.call 85 452 %[.lv 2,.int 1|.nil],.callB .len %[.lv 1|.nil]|.nil],.callB .len %[.lv 1|.nil]|.nil]),.ite (.cmp .lt (.lv 4) (.lv 3)) %[.ret (.tup %[.gv 11 (.int 5),.str []|.nil])|.nil] .nil,.ret (.tup %[.gv 11 (.int 5),.slc (.lv 1) (.lv 3) (.lv 4)|.nil])|.nil]
noncomputable def rU:eU:=[[109],`text,`args,`low,`high]
noncomputable def mC:eu:=%[.asg 3 (.lstT %[.lv 1|.nil]),.for1 4 (.lv 2) %[.expr (.methB (.lv 3) .append %[.call 68 361 %[.att (.lv 0) `heap,.lv 4|.nil]|.nil])|.nil],.ret (.call 90 487 %[.lv 3,.str []|.nil])|.nil]
noncomputable def rD:eU:=[[109],`text,`args,`parts,`arg]
noncomputable def iD:eu:=%[.asg 5 (.call 89 480 %[.lv 1,.lv 3|.nil]),.ite (.cmp .eq (.lv 2) (.gv 27 (.int 201))) %[.ret (.call 91 494 %[.lv 1,.lv 5,.lv 4|.nil])|.nil] .nil,.ite (.cmp .eq (.lv 2) (.gv 28 (.int 202))) %[.ret (.call 92 501 %[.lv 1,.lv 5,.lv 4|.nil])|.nil] .nil,.ite (.cmp .eq (.lv 2) (.gv 29 (.int 203))) %[.ret (.call 93 508 %[.lv 1,.lv 5,.lv 4|.nil])|.nil] .nil,.ite (.cmp .eq (.lv 2) (.gv 30 (.int 204))) %[.ret (.call 94 515 %[.lv 1,.lv 5,.lv 4|.nil])|.nil] .nil,.ite (.cmp .eq (.lv 2) (.gv 31 (.int 205))) %[.ret (.call 76 417 %[.methB (.lv 5) .upper .nil|.nil])|.nil] .nil,.ite (.cmp .eq (.lv 2) (.gv 32 (.int 206))) %[.ret (.call 76 417 %[.methB (.lv 5) .lower .nil|.nil])|.nil] .nil,.ite (.cmp .eq (.lv 2) (.gv 33 (.int 207))) %[.ret (.call 95 522 %[.lv 1,.lv 5,.lv 4|.nil])|.nil] .nil,.raise 2 %[.bin .add (.str [110,111,32,110,97,116,105,118,101,32]) (.callB .str %[.lv 2|.nil])|.nil]|.nil]
noncomputable def lQ:eU:=[`self,[109],`number,`this,`args,`text]
noncomputable def pq:eu:=%[.ite (.cmp .eq (.lv 0) (.int 0)) %[.ret (.str [48])|.nil] .nil,.asg 2 (.ite (.cmp .lt (.lv 0) (.int 0)) (.bin .sub (.int 0) (.lv 0)) (.lv 0)),.asg 3 (.lstT .nil),.whl (.cmp .gt (.lv 2) (.int 0)) %[.expr (.methB (.lv 3) .append %[.sub (.gv 80 (.str [48,49,50,51,52,53,54,55,56,57,97,98,99,100,101,102,103,104,105,106,107,108,109,110,111,112,113,114,115,116,117,118,119,120,121,122])) (.bin .mod (.lv 2) (.lv 1))|.nil]),.asg 2 (.bin .fdiv (.lv 2) (.lv 1))|.nil],.ite (.cmp .lt (.lv 0) (.int 0)) %[.expr (.methB (.lv 3) .append %[.str [45]|.nil])|.nil] .nil,.expr (.methB (.lv 3) .reverse .nil),.ret (.methB (.str []) .join %[.lv 3|.nil])|.nil]
noncomputable def ue:eU:=[[110],`base,`rest,`out]
noncomputable def mE:eu:=%[.ite (.bop true %[.cmp .ne (.sub (.lv 1) (.int 0)) (.gv 9 (.int 3)),.cmp .ne (.sub (.lv 1) (.int 0)) (.gv 10 (.int 4))|.nil]) %[.expr (.methP (.lv 0) `fault %[.gv 78 (.int 1),.int 0,.str [116,111,83,116,114,105,110,103,32,119,97,115,32,116,97,107,101,110,32,111,102,102,32,105,116,115,32,110,117,109,98,101,114]|.nil])|.nil] .nil,.asg 3 (.call 86 459 %[.call 85 452 %[.lv 2,.int 0|.nil],.int 10|.nil]),.ite (.bop false %[.cmp .lt (.lv 3) (.int 2),.cmp .gt (.lv 3) (.int 36)|.nil]) %[.ret (.methP (.lv 0) `throw %[.call 77 424 %[.att (.lv 0) `heap,.methB (.att (.lv 0) `protos) .get %[.gv 20 (.int 3),.neg (.int 1)|.nil],.str [110,111,32,98,97,115,101,32,111,102,32,110,117,109,98,101,114,115]|.nil]|.nil])|.nil] .nil,.ite (.cmp .eq (.sub (.lv 1) (.int 0)) (.gv 10 (.int 4))) %[.ret (.tup %[.gv 11 (.int 5),.str `NaN|.nil])|.nil] .nil,.ret (.tup %[.gv 11 (.int 5),.call 97 548 %[.sub (.lv 1) (.int 1),.lv 3|.nil]|.nil])|.nil]
noncomputable def rJ:eU:=[[109],`this,`args,`base]
noncomputable def hM:eu:=%[.ite (.cmp .eq (.lv 2) (.gv 34 (.int 301))) %[.ret (.call 98 555 %[.lv 1,.lv 3,.lv 4|.nil])|.nil] .nil,.raise 2 %[.bin .add (.str [110,111,32,110,97,116,105,118,101,32]) (.callB .str %[.lv 2|.nil])|.nil]|.nil]
noncomputable def jX:eU:=[`self,[109],`number,`this,`args]
noncomputable def pB:eu:=%[.expr (.methB (.att (.lv 0) `out) .append %[.call 68 361 %[.att (.lv 0) `heap,.call 85 452 %[.lv 1,.int 0|.nil]|.nil]|.nil]),.ret (.tup %[.gv 6 (.int 0),.int 0|.nil])|.nil]
noncomputable def um:eU:=[[109],`args]
noncomputable def nK:eu:=%[.ite (.not (.lv 1)) %[.ret (.tup %[.gv 11 (.int 5),.str []|.nil])|.nil] .nil,.ret (.tup %[.gv 11 (.int 5),.call 68 361 %[.att (.lv 0) `heap,.sub (.lv 1) (.int 0)|.nil]|.nil])|.nil]
noncomputable def te:eU:=[[109],`args]
noncomputable def oa:eu:=%[.ite (.not (.lv 1)) %[.ret (.tup %[.gv 9 (.int 3),.int 0|.nil])|.nil] .nil,.ret (.call 74 403 %[.call 75 410 %[.att (.lv 0) `heap,.sub (.lv 1) (.int 0)|.nil]|.nil])|.nil]
noncomputable def rX:eU:=[[109],`args]
noncomputable def fJ:eu:=%[.ite (.cmp .eq (.lv 2) (.gv 23 (.int 101))) %[.ret (.call 100 581 %[.lv 1,.lv 4|.nil])|.nil] .nil,.ite (.cmp .eq (.lv 2) (.gv 24 (.int 102))) %[.ret (.call 101 588 %[.lv 1,.lv 4|.nil])|.nil] .nil,.ite (.cmp .eq (.lv 2) (.gv 25 (.int 103))) %[.ret (.call 102 595 %[.lv 1,.lv 4|.nil])|.nil] .nil,.ite (.cmp .eq (.lv 2) (.gv 26 (.int 104))) %[.bad|.nil] .nil,.raise 2 %[.bin .add (.str [110,111,32,110,97,116,105,118,101,32]) (.callB .str %[.lv 2|.nil])|.nil]|.nil]
noncomputable def hJ:eU:=[`self,[109],`number,`this,`args]
noncomputable def xr:eu:=%[.asg 2 (.call 50 235 %[.att (.lv 0) `heap,.gv 15 (.int 2),.methB (.att (.lv 0) `protos) .get %[.gv 19 (.int 2),.neg (.int 1)|.nil]|.nil]),.asgA (.lv 2) `native (.lv 1),.ret (.tup %[.gv 12 (.int 6),.att (.lv 2) `number|.nil])|.nil]
noncomputable def xl:eU:=[[109],`number,`thing]
noncomputable def zf:eu:=%[.forT [3,4] (.lv 2) %[.expr (.call 60 305 %[.att (.lv 0) `heap,.sub (.att (.lv 0) `protos) (.lv 1),.lv 3,.call 107 642 %[.lv 0,.lv 4|.nil]|.nil])|.nil]|.nil]
noncomputable def zd:eU:=[[109],`proto,`rows,`name,`number]
noncomputable def Cv:eu:=%[.ite (.cmp .nin (.lv 1) (.att (.lv 0) `protos)) %[.asgS (.att (.lv 0) `protos) (.lv 1) (.att (.call 50 235 %[.att (.lv 0) `heap,.gv 13 (.int 0),.lv 2|.nil]) `number)|.nil] .nil|.nil]
noncomputable def BZ:eU:=[[109],`word,[117,112]]
noncomputable def vr:eu:=%[.expr (.call 109 656 %[.lv 0,.gv 17 (.int 0),.neg (.int 1)|.nil]),.for1 1 (.tup %[.gv 18 (.int 1),.gv 19 (.int 2),.gv 20 (.int 3),.gv 21 (.int 4),.gv 22 (.int 5)|.nil]) %[.expr (.call 109 656 %[.lv 0,.lv 1,.sub (.att (.lv 0) `protos) (.gv 17 (.int 0))|.nil])|.nil]|.nil]
noncomputable def uS:eU:=[[109],`word]
noncomputable def wC:eu:=%[.asgS (.att (.att (.lv 0) `heap) `natives) (.bin .fdiv (.gv 27 (.int 201)) (.int 100)) (.call 96 539 .nil),.expr (.call 108 649 %[.lv 0,.gv 21 (.int 4),.gv 81 (.tup [.tup [.str `charAt,.int 201],.tup [.str `indexOf,.int 202],.tup [.str `includes,.int 203],.tup [.str `slice,.int 204],.tup [.str `toUpperCase,.int 205],.tup [.str `toLowerCase,.int 206],.tup [.str `concat,.int 207]])|.nil])|.nil]
noncomputable def wU:eU:=[[109]]
noncomputable def uc:eu:=%[.asgS (.att (.att (.lv 0) `heap) `natives) (.bin .fdiv (.gv 34 (.int 301)) (.int 100)) (.call 99 572 .nil),.expr (.call 108 649 %[.lv 0,.gv 22 (.int 5),.gv 82 (.tup [.tup [.str `toString,.int 301]])|.nil])|.nil]
noncomputable def tZ:eU:=[[109]]
noncomputable def A3:eu:=%[.asgS (.att (.att (.lv 0) `globals) `cells) (.lv 1) (.lstF %[.lv 2,.gv 79 (.int 2)|.nil])|.nil]
noncomputable def Bx:eU:=[[109],`name,`value]
noncomputable def w7:eu:=%[.asg 1 (.sub (.att (.lv 0) `protos) (.gv 20 (.int 3))),.expr (.call 60 305 %[.att (.lv 0) `heap,.lv 1,.str `name,.tup %[.gv 11 (.int 5),.str `Error|.nil]|.nil]),.expr (.call 60 305 %[.att (.lv 0) `heap,.lv 1,.str `message,.tup %[.gv 11 (.int 5),.str []|.nil]|.nil]),.asg 2 (.call 107 642 %[.lv 0,.gv 26 (.int 104)|.nil]),.expr (.call 60 305 %[.att (.lv 0) `heap,.sub (.lv 2) (.int 1),.str `prototype,.tup %[.gv 12 (.int 6),.lv 1|.nil]|.nil]),.expr (.call 113 684 %[.lv 0,.str `Error,.lv 2|.nil])|.nil]
noncomputable def vI:eU:=[[109],`proto,`made]
noncomputable def ub:eu:=%[.ite (.cmp .is (.att (.lv 0) `globals) .none) %[.asgA (.lv 0) `globals (.call 46 203 %[.none|.nil])|.nil] .nil,.asgS (.att (.att (.lv 0) `heap) `natives) (.bin .fdiv (.gv 23 (.int 101)) (.int 100)) (.call 106 633 .nil),.forT [1,2] (.gv 83 (.tup [.tup [.str `print,.int 101],.tup [.str `String,.int 102],.tup [.str `Number,.int 103]])) %[.expr (.call 113 684 %[.lv 0,.lv 1,.call 107 642 %[.lv 0,.lv 2|.nil]|.nil])|.nil],.expr (.call 113 684 %[.lv 0,.str `undefined,.tup %[.gv 6 (.int 0),.int 0|.nil]|.nil]),.expr (.call 113 684 %[.lv 0,.str `NaN,.tup %[.gv 10 (.int 4),.int 0|.nil]|.nil]),.expr (.call 114 691 %[.lv 0|.nil])|.nil]
noncomputable def ua:eU:=[[109],`name,`number]
noncomputable def mh:eu:=%[.asgA (.lv 0) `value (.lv 1)|.nil]
noncomputable def ji:eU:=[`self,`value]
noncomputable def xx:eu:=%[.asgA (.lv 0) `heap (.call 45 182 .nil),.asgA (.lv 0) `exprs .ndT,.asgA (.lv 0) `stmts .ndT,.asgA (.lv 0) `steps (.int 0),.asgA (.lv 0) `most (.lv 1),.asgA (.lv 0) `deep (.int 0),.asgA (.lv 0) `most_deep (.gv 134 (.int 44)),.asgA (.lv 0) `out (.lstT .nil),.asgA (.lv 0) `env .none,.asgA (.lv 0) `globals .none,.asgA (.lv 0) `this (.call 47 214 .nil),.asgA (.lv 0) `home (.neg (.int 1)),.asgA (.lv 0) `told (.lstT .nil),.asgA (.lv 0) `watch (.call 136 749 .nil),.asgA (.lv 0) `protos .ndT,.asgA (.lv 0) `class_protos .ndT,.asgA (.lv 0) `binder (.call 137 777 .nil),.asgA (.lv 0) `maker (.call 138 805 .nil),.asgA (.lv 0) `hoister (.call 139 826 .nil),.asgA (.lv 0) `raised .none,.asgA (.lv 0) `calling (.int 0)|.nil]
noncomputable def xG:eU:=[`self,`bound]
noncomputable def ku:eu:=%[.raise 0 %[.lv 1|.nil]|.nil]
noncomputable def oN:eU:=[`self,`value]
noncomputable def ky:eu:=%[.expr (.call 144 921 %[.lv 0,.lv 1,.lv 2,.lv 3|.nil])|.nil]
noncomputable def oq:eU:=[`self,`code,`nid,`text]
noncomputable def nt:eu:=%[.expr (.methB (.att (.lv 0) `told) .append %[.tup %[.lv 1,.lv 2|.nil]|.nil]),.expr (.methP (.lv 0) `throw %[.call 77 424 %[.att (.lv 0) `heap,.methB (.att (.lv 0) `protos) .get %[.gv 20 (.int 3),.neg (.int 1)|.nil],.lv 3|.nil]|.nil])|.nil]
noncomputable def rL:eU:=[[109],`code,`nid,`text]
noncomputable def lA:eu:=%[.ret (.sdF [[45,49],[120],[32,50,32]] %[.neg (.int 1),.int 0,.int 2|.nil])|.nil]
noncomputable def pT:eU:=[]
noncomputable def o9:eu:=%[.ret (.lstF %[.str `charAt,.str `indexOf,.str `includes,.str `slice,.str `toUpperCase,.str `toLowerCase,.str `concat|.nil])|.nil]
noncomputable def uP:eU:=[]
noncomputable def pj:eu:=%[.ret (.lstF %[.str [48,120],.str [48,98],.str [48,111],.str [45,48,120],.str [48,88],.str [32],.str [45,73,110,102,105,110,105,116,121],.str [43],.str [9,10,45],.str `Infinity,.str [57,48,48,55,49,57,57,50,53,52,55,52,48,57,57,50],.str [49,69],.str [48,66],.str [45,57,48,48,55,49,57,57,50,53,52,55,52,48,57,57,50]|.nil])|.nil]
noncomputable def uD:eU:=[]
noncomputable def qP:eu:=%[.augS (.lv 0) (.str `next) .add (.int 1),.ret (.ite (.cmp .le (.sub (.lv 0) (.str `next)) (.callB .len %[.sub (.lv 0) (.str `nums)|.nil])) (.sub (.sub (.lv 0) (.str `nums)) (.bin .sub (.sub (.lv 0) (.str `next)) (.int 1))) (.sub (.lv 0) (.str `next)))|.nil]
noncomputable def v9:eU:=[`state]
noncomputable def rt:eu:=%[.asg 1 (.call 157 1011 %[.lv 0|.nil]),.asg 2 (.ite (.cmp .eq (.bin .mod (.lv 1) (.int 2)) (.int 0)) (.str []) (.sub (.call 155 1004 .nil) (.bin .mod (.bin .fdiv (.lv 1) (.int 14)) (.int 14)))),.asg 3 (.ite (.cmp .eq (.bin .mod (.lv 1) (.int 2)) (.int 0)) (.bin .fdiv (.lv 1) (.int 14)) (.bin .fdiv (.lv 1) (.int 196))),.for1 4 (.callB .range %[.ite (.cmp .eq (.bin .mod (.lv 1) (.int 2)) (.int 0)) (.bin .mod (.lv 1) (.int 7)) (.bin .mod (.bin .fdiv (.lv 1) (.int 2)) (.int 5))|.nil]) %[.aug 2 .add (.sub (.str [48,49,97,120,45,46,32,101,43,70]) (.bin .mod (.lv 3) (.int 10))),.asg 3 (.bin .fdiv (.lv 3) (.int 10))|.nil],.ret (.lv 2)|.nil]
noncomputable def wL:eU:=[`state,[118],`out,[113],[105]]
noncomputable def o8:eu:=%[.asg 1 (.call 157 1011 %[.lv 0|.nil]),.asg 2 (.bin .fdiv (.lv 1) (.int 4)),.asg 3 (.cmp .eq (.bin .mod (.bin .fdiv (.lv 2) (.int 2)) (.int 2)) (.int 1)),.ite (.cmp .gt (.bin .mod (.lv 1) (.int 4)) (.int 1)) %[.asg 2 (.bin .add (.bin .mul (.bin .mod (.lv 2) (.int 10000000)) (.int 900719925)) (.call 157 1011 %[.lv 0|.nil]))|.nil] .nil,.ite (.cmp .eq (.bin .mod (.lv 1) (.int 4)) (.int 3)) %[.asg 2 (.bin .sub (.int 9007199254740991) (.bin .mod (.lv 2) (.int 40)))|.nil] .nil,.ret (.ite (.lv 3) (.bin .sub (.int 0) (.lv 2)) (.lv 2))|.nil]
noncomputable def uu:eU:=[`state,[118],[110],`minus]
noncomputable def pb:eu:=%[.asg 3 (.call 157 1011 %[.lv 1|.nil]),.asg 4 (.bin .mod (.lv 3) (.lv 2)),.ite (.cmp .eq (.lv 4) (.int 0)) %[.ret (.tup %[.int 3,.call 159 1025 %[.lv 1|.nil]|.nil])|.nil] .nil,.ite (.bop false %[.cmp .eq (.lv 4) (.int 5),.cmp .gt (.lv 4) (.int 10)|.nil]) %[.ret (.tup %[.int 5,.call 158 1018 %[.lv 1|.nil]|.nil])|.nil] .nil,.asg 5 (.bin .fdiv (.lv 3) (.lv 2)),.asg 6 (.lstF %[.tup %[.int 4,.int 0|.nil],.tup %[.int 4,.int 0|.nil],.tup %[.int 0,.int 0|.nil],.tup %[.int 1,.int 0|.nil],.tup %[.int 2,.bin .mod (.lv 5) (.int 2)|.nil],.tup %[.int 4,.int 0|.nil],.tup %[.int 3,.bin .sub (.bin .mod (.lv 5) (.int 7)) (.int 3)|.nil]|.nil]),.ret (.ite (.cmp .lt (.lv 4) (.int 7)) (.sub (.lv 6) (.lv 4)) (.tup %[.int 6,.sub (.sub (.lv 0) (.str `things)) (.bin .sub (.lv 4) (.int 7))|.nil]))|.nil]
noncomputable def uH:eU:=[`world,`state,`most,[118],`kind,[113],`rows]
noncomputable def qU:eu:=%[.asg 2 (.ite (.cmp .lt (.lv 0) (.int 0)) (.str [45]) (.str [])),.asg 3 (.ite (.cmp .lt (.lv 0) (.int 0)) (.bin .sub (.int 0) (.lv 0)) (.lv 0)),.asg 4 (.int 1),.whl (.cmp .le (.bin .mul (.lv 4) (.lv 1)) (.lv 3)) %[.asg 4 (.bin .mul (.lv 4) (.lv 1))|.nil],.whl (.cmp .gt (.lv 4) (.int 0)) %[.aug 2 .add (.sub (.gv 156 (.str [48,49,50,51,52,53,54,55,56,57,97,98,99,100,101,102,103,104,105,106,107,108,109,110,111,112,113,114,115,116,117,118,119,120,121,122])) (.bin .fdiv (.lv 3) (.lv 4))),.asg 3 (.bin .mod (.lv 3) (.lv 4)),.asg 4 (.bin .fdiv (.lv 4) (.lv 1))|.nil],.ret (.lv 2)|.nil]
noncomputable def wq:eU:=[[110],`base,`out,`rest,`high]
noncomputable def g6:eu:=%[.ite (.bop true %[.cmp .eq (.sub (.lv 1) (.int 0)) (.int 6),.cmp .in_ (.sub (.lv 1) (.int 1)) (.sub (.lv 0) (.str `lists))|.nil]) %[.ret (.methB (.str [44]) .join %[.comp (.ite (.cmp .lt (.sub (.lv 1) (.int 0)) (.int 2)) (.str []) (.call 162 1044 %[.lv 0,.lv 1|.nil])) 1 (.sub (.sub (.lv 0) (.str `lists)) (.sub (.lv 1) (.int 1))) (.bool true) [`world,`item] [0]|.nil])|.nil] .nil,.ite (.bop true %[.cmp .eq (.sub (.lv 1) (.int 0)) (.int 6),.cmp .eq (.sub (.lv 1) (.int 1)) (.sub (.sub (.lv 0) (.str `things)) (.int 2))|.nil]) %[.asg 2 (.ite (.cmp .eq (.sub (.sub (.lv 0) (.str `called)) (.int 0)) (.int 0)) (.str `Error) (.call 162 1044 %[.lv 0,.sub (.lv 0) (.str `called)|.nil])),.asg 3 (.ite (.cmp .eq (.sub (.sub (.lv 0) (.str `said)) (.int 0)) (.int 0)) (.str []) (.call 162 1044 %[.lv 0,.sub (.lv 0) (.str `said)|.nil])),.ret (.bin .add (.bin .add (.lv 2) (.ite (.bop true %[.cmp .ne (.lv 2) (.str []),.cmp .ne (.lv 3) (.str [])|.nil]) (.str [58,32]) (.str []))) (.lv 3))|.nil] .nil,.ite (.cmp .eq (.sub (.lv 1) (.int 0)) (.int 2)) %[.ret (.ite (.cmp .eq (.sub (.lv 1) (.int 1)) (.int 1)) (.str `true) (.str `false))|.nil] .nil,.ite (.cmp .eq (.sub (.lv 1) (.int 0)) (.int 3)) %[.ret (.call 161 1039 %[.sub (.lv 1) (.int 1),.int 10|.nil])|.nil] .nil,.ite (.cmp .eq (.sub (.lv 1) (.int 0)) (.int 5)) %[.ret (.sub (.lv 1) (.int 1))|.nil] .nil,.ret (.sub (.lstF %[.str `undefined,.str `null,.str [],.str [],.str `NaN,.str [],.str [91,111,98,106,101,99,116,32,79,98,106,101,99,116,93]|.nil]) (.sub (.lv 1) (.int 0)))|.nil]
noncomputable def kO:eU:=[`world,[118],`called,`said]
noncomputable def rO:eu:=%[.ret (.bop true %[.cmp .ne (.lv 0) (.str []),.cmp .eq (.callB .len %[.comp (.lv 1) 1 (.lv 0) (.cmp .nin (.lv 1) (.slc (.gv 156 (.str [48,49,50,51,52,53,54,55,56,57,97,98,99,100,101,102,103,104,105,106,107,108,109,110,111,112,113,114,115,116,117,118,119,120,121,122])) .none (.lv 0))) [`base,`letter] [1]|.nil]) (.int 0)|.nil])|.nil]
noncomputable def y4:eU:=[`text,`base]
noncomputable def pf:eu:=%[.asg 1 (.methB (.methB (.lv 0) .lower .nil) .split %[.str [101]|.nil]),.asg 2 (.methB (.sub (.lv 1) (.int 0)) .split %[.str [46]|.nil]),.ite (.cmp .eq (.lv 0) (.str `Infinity)) %[.ret (.bool true)|.nil] .nil,.ite (.bop false %[.cmp .gt (.callB .len %[.lv 1|.nil]) (.int 2),.cmp .gt (.callB .len %[.lv 2|.nil]) (.int 2),.not (.call 163 1049 %[.methB (.str []) .join %[.lv 2|.nil],.int 10|.nil])|.nil]) %[.ret (.bool false)|.nil] .nil,.asg 3 (.sub (.lv 1) (.bin .sub (.callB .len %[.lv 1|.nil]) (.int 1))),.ret (.bop false %[.cmp .eq (.callB .len %[.lv 1|.nil]) (.int 1),.call 163 1049 %[.ite (.cmp .in_ (.slc (.lv 3) .none (.int 1)) (.lstF %[.str [43],.str [45]|.nil])) (.slc (.lv 3) (.int 1) .none) (.lv 3),.int 10|.nil]|.nil])|.nil]
noncomputable def uE:eU:=[`text,`parts,`front,`tail]
noncomputable def qo:eu:=%[.asg 1 (.methB (.lv 0) .strip %[.str [32,9,10]|.nil]),.ite (.cmp .eq (.lv 1) (.str [])) %[.ret (.tup %[.str `value,.tup %[.int 3,.int 0|.nil]|.nil])|.nil] .nil,.asg 2 (.methB (.sdF [[48,120],[48,111],[48,98]] %[.int 16,.int 8,.int 2|.nil]) .get %[.methB (.slc (.lv 1) .none (.int 2)) .lower .nil,.int 10|.nil]),.asg 3 (.cmp .eq (.sub (.lv 1) (.int 0)) (.str [45])),.ite (.cmp .ne (.lv 2) (.int 10)) %[.asg 1 (.methB (.slc (.lv 1) (.int 2) .none) .lower .nil)|.nil] %[.ite (.cmp .in_ (.sub (.lv 1) (.int 0)) (.lstF %[.str [45],.str [43]|.nil])) %[.asg 1 (.slc (.lv 1) (.int 1) .none)|.nil] .nil|.nil],.ite (.call 163 1049 %[.lv 1,.lv 2|.nil]) %[.asg 4 (.ite (.cmp .lt (.callB .len %[.lv 1|.nil]) (.int 18)) (.callB .sum %[.comp (.bin .mul (.methB (.gv 156 (.str [48,49,50,51,52,53,54,55,56,57,97,98,99,100,101,102,103,104,105,106,107,108,109,110,111,112,113,114,115,116,117,118,119,120,121,122])) .find %[.sub (.lv 1) (.lv 2)|.nil]) (.bin .pow (.lv 0) (.bin .sub (.bin .sub (.callB .len %[.lv 1|.nil]) (.int 1)) (.lv 2)))) 2 (.callB .range %[.callB .len %[.lv 1|.nil]|.nil]) (.bool true) [`base,`rest,[105]] [2,1]|.nil]) (.int 9007199254740992)),.ret (.ite (.cmp .gt (.lv 4) (.int 9007199254740991)) (.tup %[.str `out,.none|.nil]) (.tup %[.str `value,.tup %[.int 3,.ite (.lv 3) (.bin .sub (.int 0) (.lv 4)) (.lv 4)|.nil]|.nil]))|.nil] .nil,.ret (.ite (.bop true %[.cmp .eq (.lv 2) (.int 10),.call 164 1056 %[.lv 1|.nil]|.nil]) (.tup %[.str `out,.none|.nil]) (.tup %[.str `value,.tup %[.int 4,.int 0|.nil]|.nil]))|.nil]
noncomputable def wZ:eU:=[`text,`rest,`base,`minus,[110]]
noncomputable def mn:eu:=%[.ite (.cmp .eq (.callB .len %[.lv 1|.nil]) (.int 0)) %[.ret (.tup %[.str `value,.tup %[.int 3,.int 0|.nil]|.nil])|.nil] .nil,.asg 2 (.sub (.lv 1) (.int 0)),.ite (.cmp .gt (.sub (.lv 2) (.int 0)) (.int 4)) %[.ret (.call 165 1061 %[.call 162 1044 %[.lv 0,.lv 2|.nil]|.nil])|.nil] .nil,.ret (.tup %[.str `value,.sub (.lstF %[.tup %[.int 4,.int 0|.nil],.tup %[.int 3,.int 0|.nil],.tup %[.int 3,.sub (.lv 2) (.int 1)|.nil],.lv 2,.lv 2|.nil]) (.sub (.lv 2) (.int 0))|.nil])|.nil]
noncomputable def rB:eU:=[`world,`args,[118]]
noncomputable def nu:eu:=%[.asg 3 (.ite (.cmp .lt (.lv 1) (.callB .len %[.lv 0|.nil])) (.sub (.lv 0) (.lv 1)) (.tup %[.int 0,.int 0|.nil])),.ite (.cmp .eq (.sub (.lv 3) (.int 0)) (.int 0)) %[.ret (.lv 2)|.nil] .nil,.ret (.ite (.cmp .eq (.sub (.lv 3) (.int 0)) (.int 5)) (.sub (.call 153 990 .nil) (.sub (.lv 3) (.int 1))) (.sub (.lv 3) (.int 1)))|.nil]
noncomputable def sX:eU:=[`args,[105],`other,[118]]
noncomputable def ml:eu:=%[.ret (.cmp .ge (.ite (.cmp .ge (.lv 2) (.int 0)) (.lv 0) (.bin .sub (.lv 0) (.lv 1))) (.lv 2))|.nil]
noncomputable def rA:eU:=[[112],`size,`low]
noncomputable def gY:eu:=%[.asg 4 (.call 157 1011 %[.lv 1|.nil]),.ite (.cmp .eq (.lv 2) (.str `concat)) %[.ret (.comp (.call 160 1032 %[.lv 0,.lv 1,.int 13|.nil]) 2 (.callB .range %[.bin .mod (.lv 4) (.int 3)|.nil]) (.bool true) [`world,`state,[105]] [0,1])|.nil] .nil,.ite (.bop false %[.cmp .eq (.lv 2) (.str `charAt),.cmp .eq (.lv 2) (.str `slice)|.nil]) %[.ret (.comp (.sub (.gv 152 (.lst [.tup [.int 3,.int 0],.tup [.int 3,.int 1],.tup [.int 3,.int (-1)],.tup [.int 3,.int 2],.tup [.int 3,.int (-2)],.tup [.int 3,.int 5],.tup [.int 3,.int (-9)],.tup [.int 4,.int 0],.tup [.int 0,.int 0],.tup [.int 1,.int 0],.tup [.int 2,.int 1],.tup [.int 5,.str [45,49]],.tup [.int 5,.str [120]],.tup [.int 5,.str [32,50,32]]])) (.bin .mod (.call 157 1011 %[.lv 0|.nil]) (.int 14))) 1 (.callB .range %[.bin .mod (.lv 4) (.ite (.cmp .eq (.lv 2) (.str `charAt)) (.int 2) (.int 3))|.nil]) (.bool true) [`state,[105]] [1])|.nil] .nil,.ite (.bop false %[.cmp .nin (.lv 2) (.lstF %[.str `indexOf,.str `includes|.nil]),.cmp .eq (.bin .mod (.lv 4) (.int 12)) (.int 11)|.nil]) %[.ret (.lstF .nil)|.nil] .nil,.asg 5 (.bin .fdiv (.lv 4) (.int 12)),.asg 6 (.bin .mod (.lv 5) (.bin .add (.callB .len %[.lv 3|.nil]) (.int 1))),.asg 7 (.ite (.cmp .eq (.bin .mod (.lv 4) (.int 3)) (.int 2)) (.call 160 1032 %[.lv 0,.lv 1,.int 13|.nil]) (.tup %[.int 5,.slc (.lv 3) (.lv 6) (.bin .add (.lv 6) (.bin .mod (.bin .fdiv (.lv 5) (.bin .add (.callB .len %[.lv 3|.nil]) (.int 1))) (.int 3)))|.nil])),.ret (.ite (.cmp .eq (.bin .mod (.lv 4) (.int 2)) (.int 1)) (.lstF %[.lv 7,.sub (.gv 152 (.lst [.tup [.int 3,.int 0],.tup [.int 3,.int 1],.tup [.int 3,.int (-1)],.tup [.int 3,.int 2],.tup [.int 3,.int (-2)],.tup [.int 3,.int 5],.tup [.int 3,.int (-9)],.tup [.int 4,.int 0],.tup [.int 0,.int 0],.tup [.int 1,.int 0],.tup [.int 2,.int 1],.tup [.int 5,.str [45,49]],.tup [.int 5,.str [120]],.tup [.int 5,.str [32,50,32]]])) (.bin .mod (.call 157 1011 %[.lv 1|.nil]) (.int 14))|.nil]) (.lstF %[.lv 7|.nil]))|.nil]
noncomputable def kP:eU:=[`world,`state,`word,`text,[119],[113],`low,`sought]
noncomputable def fK:eu:=%[.asg 4 (.callB .len %[.lv 2|.nil]),.asg 5 (.comp (.lv 0) 0 (.lv 2) (.bool true) [`letter] []),.ite (.cmp .eq (.lv 1) (.str `charAt)) %[.ret (.tup %[.int 5,.methB (.str []) .join %[.comp (.sub (.lv 0) (.lv 2)) 2 (.callB .range %[.lv 4|.nil]) (.cmp .eq (.lv 2) (.call 167 1075 %[.lv 1,.int 0,.int 0|.nil])) [`letters,`args,[112]] [5,3]|.nil]|.nil])|.nil] .nil,.ite (.cmp .eq (.lv 1) (.str `slice)) %[.asg 6 (.call 167 1075 %[.lv 3,.int 0,.int 0|.nil]),.asg 7 (.call 167 1075 %[.lv 3,.int 1,.lv 4|.nil]),.ret (.tup %[.int 5,.methB (.str []) .join %[.comp (.sub (.lv 0) (.lv 4)) 4 (.callB .range %[.lv 4|.nil]) (.bop true %[.call 168 1082 %[.lv 4,.lv 1,.lv 2|.nil],.not (.call 168 1082 %[.lv 4,.lv 1,.lv 3|.nil])|.nil]) [`letters,`size,`low,`high,[112]] [5,4,6,7]|.nil]|.nil])|.nil] .nil,.ite (.cmp .eq (.lv 1) (.str `toUpperCase)) %[.ret (.tup %[.int 5,.methB (.str []) .join %[.comp (.ite (.bop true %[.cmp .le (.str [97]) (.lv 0),.cmp .le (.lv 0) (.str [122])|.nil]) (.callB .chr %[.bin .sub (.callB .ord %[.lv 0|.nil]) (.int 32)|.nil]) (.lv 0)) 0 (.lv 5) (.bool true) [`letter] []|.nil]|.nil])|.nil] .nil,.ite (.cmp .eq (.lv 1) (.str `toLowerCase)) %[.ret (.tup %[.int 5,.methB (.str []) .join %[.comp (.ite (.bop true %[.cmp .le (.str [65]) (.lv 0),.cmp .le (.lv 0) (.str [90])|.nil]) (.callB .chr %[.bin .add (.callB .ord %[.lv 0|.nil]) (.int 32)|.nil]) (.lv 0)) 0 (.lv 5) (.bool true) [`letter] []|.nil]|.nil])|.nil] .nil,.ite (.cmp .eq (.lv 1) (.str `concat)) %[.ret (.tup %[.int 5,.methB (.str []) .join %[.bin .add (.lstF %[.lv 2|.nil]) (.comp (.call 162 1044 %[.lv 0,.lv 1|.nil]) 1 (.lv 3) (.bool true) [`world,`arg] [0])|.nil]|.nil])|.nil] .nil,.asg 8 (.comp (.lv 0) 0 (.call 162 1044 %[.lv 0,.ite (.cmp .gt (.callB .len %[.lv 3|.nil]) (.int 0)) (.sub (.lv 3) (.int 0)) (.tup %[.int 0,.int 0|.nil])|.nil]) (.bool true) [`letter] []),.asg 6 (.callB .min %[.call 167 1075 %[.lv 3,.int 1,.int 0|.nil],.lv 4|.nil]),.asg 9 (.comp (.lv 3) 3 (.callB .range %[.bin .add (.bin .sub (.lv 4) (.callB .len %[.lv 8|.nil])) (.int 1)|.nil]) (.bop true %[.cmp .ge (.lv 3) (.lv 0),.cmp .eq (.slc (.lv 2) (.lv 3) (.bin .add (.lv 3) (.callB .len %[.lv 1|.nil]))) (.lv 1)|.nil]) [`low,`sought,`letters,[112]] [6,8,5]),.ite (.cmp .eq (.lv 1) (.str `includes)) %[.ret (.tup %[.int 2,.ite (.cmp .gt (.callB .len %[.lv 9|.nil]) (.int 0)) (.int 1) (.int 0)|.nil])|.nil] .nil,.ret (.tup %[.int 3,.ite (.cmp .gt (.callB .len %[.lv 9|.nil]) (.int 0)) (.sub (.lv 9) (.int 0)) (.neg (.int 1))|.nil])|.nil]
noncomputable def iG:eU:=[`world,`word,`text,`args,`size,`letters,`low,`high,`sought,`found]
noncomputable def jf:eu:=%[.ite (.lv 1) %[.expr (.methB (.sub (.lv 0) (.str `told)) .append %[.tup %[.int 1,.int 0|.nil]|.nil])|.nil] .nil,.expr (.methB (.sub (.lv 0) (.str `wrongs)) .append %[.sub (.lv 0) (.str `made)|.nil]),.augS (.lv 0) (.str `made) .add (.int 1),.ret (.tup %[.str `throw,.tup %[.int 6,.bin .sub (.sub (.lv 0) (.str `made)) (.int 1)|.nil]|.nil])|.nil]
noncomputable def sU:eU:=[`world,`told]
noncomputable def Ca:eu:=%[.ite (.cmp .eq (.lv 1) (.int 0)) %[.ret (.att (.sub (.att (.att (.lv 0) `heap) `things) (.sub (.sub (.sub (.att (.att (.lv 0) `globals) `cells) (.lv 2)) (.int 0)) (.int 1))) `native)|.nil] .nil,.ret (.att (.sub (.att (.att (.lv 0) `heap) `things) (.sub (.sub (.call 57 284 %[.att (.lv 0) `heap,.tup %[.int 6,.sub (.att (.lv 0) `protos) (.lv 1)|.nil],.lv 2|.nil]) (.int 1)) (.int 1))) `native)|.nil]
noncomputable def Cw:eU:=[[109],`group,`word]
noncomputable def jl:eu:=%[.try3 6 (.tup %[.str `value,.call 84 445 %[.lv 0,.lv 2,.lv 3,.lv 4|.nil]|.nil]) `throw,.ite (.bop false %[.cmp .ne (.lv 6) (.lv 5),.cmp .ne (.att (.lv 0) `told) (.sub (.lv 1) (.str `told)),.cmp .ne (.att (.lv 0) `out) (.sub (.lv 1) (.str `out))|.nil]) %[.bad|.nil] .nil,.ret (.cmp .eq (.callB .len %[.att (.att (.lv 0) `heap) `things|.nil]) (.sub (.lv 1) (.str `made)))|.nil]
noncomputable def wW:eU:=[[109],`world,`number,`this,`args,`wanted,`got]
noncomputable def fM:eu:=%[.asg 4 (.ite (.cmp .eq (.bin .mod (.call 157 1011 %[.lv 2|.nil]) (.int 4)) (.int 3)) (.call 160 1032 %[.lv 1,.lv 2,.int 13|.nil]) (.tup %[.int 5,.call 158 1018 %[.lv 2|.nil]|.nil])),.asg 5 (.call 162 1044 %[.lv 1,.lv 4|.nil]),.asg 6 (.call 169 1087 %[.lv 1,.lv 2,.lv 3,.lv 5|.nil]),.asg 7 (.ite (.cmp .lt (.sub (.lv 4) (.int 0)) (.int 2)) (.call 171 1099 %[.lv 1,.bool true|.nil]) (.tup %[.str `value,.call 170 1092 %[.lv 1,.lv 3,.lv 5,.lv 6|.nil]|.nil])),.ret (.call 173 1113 %[.lv 0,.lv 1,.call 172 1106 %[.lv 0,.int 4,.lv 3|.nil],.lv 4,.lv 6,.lv 7|.nil])|.nil]
noncomputable def rI:eU:=[[109],`world,`state,`word,`this,`text,`args,`wanted]
noncomputable def f3:eu:=%[.asg 3 (.call 157 1011 %[.lv 2|.nil]),.asg 4 (.ite (.cmp .eq (.bin .mod (.lv 3) (.int 5)) (.int 4)) (.call 160 1032 %[.lv 1,.lv 2,.int 13|.nil]) (.tup %[.int 3,.call 159 1025 %[.lv 2|.nil]|.nil])),.asg 5 (.lstF %[.tup %[.int 3,.int 16|.nil],.tup %[.int 3,.int 2|.nil],.tup %[.int 3,.int 36|.nil],.tup %[.int 0,.int 0|.nil],.tup %[.int 3,.bin .add (.int 2) (.bin .mod (.bin .fdiv (.lv 3) (.int 60)) (.int 35))|.nil],.tup %[.int 3,.int 1|.nil],.tup %[.int 3,.int 37|.nil],.tup %[.int 4,.int 0|.nil],.tup %[.int 1,.int 0|.nil],.tup %[.int 5,.str [32,50,32]|.nil],.tup %[.int 2,.int 1|.nil],.tup %[.int 3,.int 8|.nil]|.nil]),.asg 6 (.ite (.cmp .eq (.bin .mod (.bin .fdiv (.lv 3) (.int 60)) (.int 7)) (.int 6)) (.lstF .nil) (.lstF %[.sub (.lv 5) (.bin .mod (.bin .fdiv (.lv 3) (.int 5)) (.int 12))|.nil])),.asg 7 (.call 167 1075 %[.lv 6,.int 0,.int 10|.nil]),.ite (.cmp .nin (.sub (.lv 4) (.int 0)) (.lstF %[.int 3,.int 4|.nil])) %[.asg 8 (.call 171 1099 %[.lv 1,.bool true|.nil])|.nil] %[.ite (.bop false %[.cmp .lt (.lv 7) (.int 2),.cmp .gt (.lv 7) (.int 36)|.nil]) %[.asg 8 (.call 171 1099 %[.lv 1,.bool false|.nil])|.nil] %[.asg 8 (.tup %[.str `value,.tup %[.int 5,.ite (.cmp .eq (.sub (.lv 4) (.int 0)) (.int 4)) (.str `NaN) (.call 161 1039 %[.sub (.lv 4) (.int 1),.lv 7|.nil])|.nil]|.nil])|.nil]|.nil],.ret (.call 173 1113 %[.lv 0,.lv 1,.call 172 1106 %[.lv 0,.int 5,.str `toString|.nil],.lv 4,.lv 6,.lv 8|.nil])|.nil]
noncomputable def uO:eU:=[[109],`world,`state,[118],`this,`bases,`args,`base,`wanted]
noncomputable def iJ:eu:=%[.asg 3 (.call 159 1025 %[.lv 2|.nil]),.asg 4 (.ite (.cmp .lt (.lv 3) (.int 0)) (.bin .sub (.int 0) (.lv 3)) (.lv 3)),.asg 5 (.call 172 1106 %[.lv 0,.int 0,.str `Number|.nil]),.ite (.not (.call 173 1113 %[.lv 0,.lv 1,.call 172 1106 %[.lv 0,.int 0,.str `String|.nil],.tup %[.int 0,.int 0|.nil],.lstF %[.tup %[.int 3,.lv 3|.nil]|.nil],.tup %[.str `value,.tup %[.int 5,.call 161 1039 %[.lv 3,.int 10|.nil]|.nil]|.nil]|.nil])) %[.bad|.nil] .nil,.ite (.not (.call 173 1113 %[.lv 0,.lv 1,.lv 5,.tup %[.int 0,.int 0|.nil],.lstF %[.tup %[.int 5,.bin .add (.str [32]) (.call 161 1039 %[.lv 3,.int 10|.nil])|.nil]|.nil],.tup %[.str `value,.tup %[.int 3,.lv 3|.nil]|.nil]|.nil])) %[.bad|.nil] .nil,.asgT [6,7] (.sub (.lstF %[.tup %[.str [48,120],.int 16|.nil],.tup %[.str [48,111],.int 8|.nil],.tup %[.str [48,66],.int 2|.nil]|.nil]) (.bin .mod (.lv 3) (.int 3))),.ite (.not (.call 173 1113 %[.lv 0,.lv 1,.call 172 1106 %[.lv 0,.int 5,.str `toString|.nil],.tup %[.int 3,.lv 4|.nil],.lstF %[.tup %[.int 3,.lv 7|.nil]|.nil],.tup %[.str `value,.tup %[.int 5,.call 161 1039 %[.lv 4,.lv 7|.nil]|.nil]|.nil]|.nil])) %[.bad|.nil] .nil,.ret (.call 173 1113 %[.lv 0,.lv 1,.lv 5,.tup %[.int 0,.int 0|.nil],.lstF %[.tup %[.int 5,.bin .add (.lv 6) (.call 161 1039 %[.lv 4,.lv 7|.nil])|.nil]|.nil],.tup %[.str `value,.tup %[.int 3,.lv 4|.nil]|.nil]|.nil])|.nil]
noncomputable def w8:eU:=[[109],`world,`state,[110],`size,`count,`head,`base]
noncomputable def f5:eu:=%[.asg 3 (.call 157 1011 %[.lv 2|.nil]),.asg 4 (.bin .mod (.lv 3) (.int 13)),.ite (.cmp .lt (.lv 4) (.int 7)) %[.ret (.call 174 1120 %[.lv 0,.lv 1,.lv 2,.sub (.call 154 997 .nil) (.lv 4)|.nil])|.nil] .nil,.ite (.cmp .eq (.lv 4) (.int 7)) %[.ret (.call 175 1127 %[.lv 0,.lv 1,.lv 2|.nil])|.nil] .nil,.ite (.cmp .eq (.lv 4) (.int 8)) %[.asg 5 (.call 158 1018 %[.lv 2|.nil]),.ret (.call 173 1113 %[.lv 0,.lv 1,.call 172 1106 %[.lv 0,.int 0,.str `Number|.nil],.tup %[.int 0,.int 0|.nil],.lstF %[.tup %[.int 5,.lv 5|.nil]|.nil],.call 165 1061 %[.lv 5|.nil]|.nil])|.nil] .nil,.ite (.cmp .eq (.lv 4) (.int 9)) %[.ret (.call 176 1134 %[.lv 0,.lv 1,.lv 2|.nil])|.nil] .nil,.ite (.cmp .eq (.lv 4) (.int 10)) %[.asg 6 (.sub (.lstF %[.int 200,.int 300,.int 401,.int 105,.int 208,.int 302,.int 0,.int 100|.nil]) (.bin .mod (.bin .fdiv (.lv 3) (.int 13)) (.int 8))),.ret (.call 173 1113 %[.lv 0,.lv 1,.lv 6,.tup %[.int 5,.str [97]|.nil],.lstF .nil,.tup %[.str `host,.none|.nil]|.nil])|.nil] .nil,.asg 7 (.ite (.cmp .in_ (.bin .mod (.bin .fdiv (.lv 3) (.int 13)) (.int 8)) (.lstF %[.int 3,.int 7|.nil])) (.lstF .nil) (.lstF %[.call 160 1032 %[.lv 1,.lv 2,.int 13|.nil]|.nil])),.ite (.cmp .eq (.lv 4) (.int 11)) %[.ret (.call 173 1113 %[.lv 0,.lv 1,.call 172 1106 %[.lv 0,.int 0,.str `Number|.nil],.tup %[.int 0,.int 0|.nil],.lv 7,.call 166 1068 %[.lv 1,.lv 7|.nil]|.nil])|.nil] .nil,.ite (.cmp .gt (.bin .mod (.bin .fdiv (.lv 3) (.int 13)) (.int 8)) (.int 4)) %[.expr (.methB (.sub (.lv 1) (.str `out)) .append %[.call 162 1044 %[.lv 1,.ite (.cmp .gt (.callB .len %[.lv 7|.nil]) (.int 0)) (.sub (.lv 7) (.int 0)) (.tup %[.int 0,.int 0|.nil])|.nil]|.nil]),.ret (.call 173 1113 %[.lv 0,.lv 1,.call 172 1106 %[.lv 0,.int 0,.str `print|.nil],.tup %[.int 0,.int 0|.nil],.lv 7,.tup %[.str `value,.tup %[.int 0,.int 0|.nil]|.nil]|.nil])|.nil] .nil,.asg 8 (.tup %[.int 5,.ite (.cmp .eq (.callB .len %[.lv 7|.nil]) (.int 0)) (.str []) (.call 162 1044 %[.lv 1,.sub (.lv 7) (.int 0)|.nil])|.nil]),.ret (.call 173 1113 %[.lv 0,.lv 1,.call 172 1106 %[.lv 0,.int 0,.str `String|.nil],.tup %[.int 0,.int 0|.nil],.lv 7,.tup %[.str `value,.lv 8|.nil]|.nil])|.nil]
noncomputable def wx:eU:=[[109],`world,`state,[118],`kind,`text,`number,`args,`wanted]
noncomputable def eX:eu:=%[.asg 1 (.sdT [`nums,`next] %[.comp (.bin .mod (.lv 0) (.int 98000000)) 0 (.slc (.lv 0) .none (.int 40)) (.bool true) [[118]] [],.int 0|.nil]),.asg 2 (.call 140 889 %[.int 1|.nil]),.expr (.call 110 663 %[.lv 2|.nil]),.expr (.call 111 670 %[.lv 2|.nil]),.expr (.call 112 677 %[.lv 2|.nil]),.expr (.call 115 698 %[.lv 2|.nil]),.asg 3 (.comp (.att (.call 50 235 %[.att (.lv 0) `heap,.lv 1,.sub (.att (.lv 0) `protos) (.lv 1)|.nil]) `number) 1 (.lstF %[.int 1,.int 1,.int 3,.int 0|.nil]) (.bool true) [[109],`sort] [2]),.asg 4 (.sdT [`things,`lists,`called,`said,`told,`wrongs,`out,`made] %[.lv 3,.ndT,.tup %[.int 0,.int 0|.nil],.tup %[.int 0,.int 0|.nil],.lstT .nil,.lstT .nil,.lstT .nil,.bin .add (.sub (.lv 3) (.int 3)) (.int 1)|.nil]),.asg 5 (.comp (.call 160 1032 %[.lv 0,.lv 1,.int 7|.nil]) 2 (.callB .range %[.bin .mod (.call 157 1011 %[.lv 1|.nil]) (.int 4)|.nil]) (.bool true) [`world,`state,[105]] [4,1]),.asg 6 (.bin .add (.lstF %[.tup %[.int 6,.sub (.lv 3) (.int 0)|.nil]|.nil]) (.comp (.call 160 1032 %[.lv 0,.lv 1,.int 7|.nil]) 2 (.callB .range %[.bin .mod (.call 157 1011 %[.lv 1|.nil]) (.int 3)|.nil]) (.bool true) [`world,`state,[105]] [4,1])),.forT [7,8] (.lstF %[.tup %[.sub (.lv 3) (.int 0),.lv 5|.nil],.tup %[.sub (.lv 3) (.int 1),.lv 6|.nil]|.nil]) %[.asgS (.sub (.lv 4) (.str `lists)) (.lv 7) (.lv 8),.asgA (.sub (.att (.att (.lv 2) `heap) `things) (.lv 7)) `items (.slc (.lv 8) .none .none)|.nil],.forT [9,10] (.lstF %[.tup %[.str `called,.str `name|.nil],.tup %[.str `said,.str `message|.nil]|.nil]) %[.ite (.cmp .eq (.bin .mod (.call 157 1011 %[.lv 1|.nil]) (.int 2)) (.int 1)) %[.asgS (.lv 4) (.lv 9) (.call 160 1032 %[.lv 4,.lv 1,.int 7|.nil]),.expr (.call 60 305 %[.att (.lv 2) `heap,.sub (.lv 3) (.int 2),.lv 10,.sub (.lv 4) (.lv 9)|.nil])|.nil] .nil|.nil],.for1 11 (.callB .range %[.bin .add (.int 3) (.callB .min %[.bin .fdiv (.callB .len %[.sub (.lv 1) (.str `nums)|.nil]) (.int 5),.int 6|.nil])|.nil]) %[.ite (.not (.call 177 1141 %[.lv 2,.lv 4,.lv 1|.nil])) %[.bad|.nil] .nil|.nil],.for1 7 (.sub (.lv 4) (.str `wrongs)) %[.ite (.bop false %[.cmp .ne (.att (.sub (.att (.att (.lv 2) `heap) `things) (.lv 7)) `sort) (.int 3),.cmp .ne (.att (.sub (.att (.att (.lv 2) `heap) `things) (.lv 7)) `proto) (.sub (.att (.lv 2) `protos) (.int 3))|.nil]) %[.bad|.nil] .nil|.nil],.for1 7 (.slc (.lv 3) .none (.int 2)) %[.ite (.cmp .ne (.att (.sub (.att (.att (.lv 2) `heap) `things) (.lv 7)) `items) (.sub (.sub (.lv 4) (.str `lists)) (.lv 7))) %[.bad|.nil] .nil|.nil],.ret (.bool true)|.nil]
noncomputable def I1:eU:=[`script,`state,[109],`things,`world,`first,`second,[107],`items,`field,`word,[105]]
noncomputable def FT:List (Addr×List (List Nat)×Nat×eu):=[(97,gC,2,nD),
 (117,gA,2,nz),
 (137,tr,4,kU),
 (179,Cn,1,Cg),
 (200,D8,2,DE),
 (214,zq,0,zm),
 (221,ta,1,nP),
 (228,ur,1,pv),
 (235,uN,3,oW),
 (242,oH,2,kz),
 (270,v8,2,qY),
 (277,BC,2,Bk),
 (284,DV,3,Em),
 (305,yt,4,r5),
 (312,uQ,3,oU),
 (326,sW,3,nQ),
 (333,uM,2,oV),
 (340,tc,4,ny),
 (347,iO,3,f6),
 (354,iw,3,fU),
 (361,yL,2,sR),
 (368,yy,1,sO),
 (375,pU,2,lD),
 (382,nv,1,jV),
 (389,mH,1,jz),
 (396,rE,1,mq),
 (403,uw,1,o7),
 (410,sV,2,nX),
 (417,r4,1,oh),
 (424,rz,3,mw),
 (445,mA,4,iQ),
 (452,Ac,2,vp),
 (459,mI,2,jB),
 (466,mJ,2,jx),
 (473,rG,2,mz),
 (480,pR,2,lN),
 (487,oA,2,kA),
 (494,pS,3,lO),
 (501,oI,3,lb),
 (508,oC,3,kM),
 (515,rU,3,nU),
 (522,rD,3,mC),
 (536,lQ,5,iD),
 (548,ue,2,pq),
 (555,rJ,3,mE),
 (569,jX,5,hM),
 (581,um,2,pB),
 (588,te,2,nK),
 (595,rX,2,oa),
 (630,hJ,5,fJ),
 (642,xl,2,xr),
 (649,zd,3,zf),
 (656,BZ,3,Cv),
 (663,uS,1,vr),
 (670,wU,1,wC),
 (677,tZ,1,uc),
 (684,Bx,3,A3),
 (691,vI,1,w7),
 (698,ua,1,ub),
 (726,ji,2,mh),
 (844,xG,2,xx),
 (872,oN,2,ku),
 (879,oq,4,ky),
 (921,rL,4,nt),
 (990,pT,0,lA),
 (997,uP,0,o9),
 (1004,uD,0,pj),
 (1011,v9,1,qP),
 (1018,wL,1,rt),
 (1025,uu,1,o8),
 (1032,uH,3,pb),
 (1039,wq,2,qU),
 (1044,kO,2,g6),
 (1049,y4,2,rO),
 (1056,uE,1,pf),
 (1061,wZ,1,qo),
 (1068,rB,2,mn),
 (1075,sX,3,nu),
 (1082,rA,3,ml),
 (1087,kP,4,gY),
 (1092,iG,4,fK),
 (1099,sU,2,jf),
 (1106,Cw,3,Ca),
 (1113,wW,6,jl),
 (1120,rI,4,fM),
 (1127,uO,3,f3),
 (1134,w8,3,iJ),
 (1141,wx,3,f5),
 (1146,I1,1,eX)]
section
variable{α β:Type}{B:eD}{A:Around}{stk:List Env}{W:Wd}{J:Hp}{s:Shared}
inductive mm(B:eD)(stk:List Env)(W:Wd)(s:Shared)(P:Wd->Hp->α->Prop)(a:α)(s':Shared):Prop
 |mk (W':Wd) (aa:Hp) (e:eA (frs stk) W s.heap W' s'.heap) (i:ef B stk W' aa s'.heap) (r:gc s s') (p:P W' aa a)
inductive yb(B:eD)(stk:List Env)(W:Wd)(s:Shared)(X:fD->Hp->Prop)(v:Value)(s':Shared):Prop
 |mk (W':Wd) (aa:Hp) (x:fD) (e:eA (frs stk) W s.heap W' s'.heap) (i:ef B stk W' aa s'.heap) (r:gc s s') (q:gH B W' s.heap s'.heap v x) (p:X x aa)
def d5(B:eD)(A:Around)(stk:List Env)(W:Wd)(s:Shared)(m:Sem α)(P:Wd->Hp->α->Prop)(X:fD->Hp->Prop):Prop:=wpAny B.M A m (mm B stk W s P) (yb B stk W s X) s
variable{P:Wd->Hp->α->Prop}{P':Wd->Hp->β->Prop}{X:fD->Hp->Prop}
theorem d5.pure{a:α}(hI:ef B stk W J s.heap)(h:P W J a):d5 B A stk W s (pure a) P X:=
 wpAny_pure ⟨W,J,.refl ..,hI,.refl _,h⟩
theorem d5.bind{m:Sem α}{k:α->Sem β}(h:d5 B A stk W s m P X)
  (hk:∀a s' W' aa,eA (frs stk) W s.heap W' s'.heap->ef B stk W' aa s'.heap->gc s s'->P W' aa a->d5 B A stk W' s' (k a) P' X):d5 B A stk W s (m>>=k) P' X:=by
 unfold d5 at h ⊢;show wpAny_bind (wpAny_mono h ?_ λ_ _ h=>h);rintro a s' ⟨W',aa,e,i,r,p⟩;show wpAny_mono (hk a s' W' aa e i r p) ?_ ?_
 ·rintro b s'' ⟨W'',af,e',i',r',p'⟩;show⟨W'',af,e.trans e',i',r.trans r',p'⟩
 ·rintro b s'' ⟨W'',af,x,e',i',r',q',p'⟩;show⟨W'',af,x,e.trans e',i',r.trans r',q'.back (eA.fresh e i),p'⟩
theorem d5.mono{m:Sem α}{P':Wd->Hp->α->Prop}{X':fD->Hp->Prop}(h:d5 B A stk W s m P X)(hp:∀W' aa a,P W' aa a->P' W' aa a)(hx:∀x aa,X x aa->X' x aa):d5 B A stk W s m P' X':=by
 show wpAny_mono h ?_ ?_
 ·rintro b s'' ⟨W'',af,e',i',r',p'⟩;show⟨W'',af,e',i',r',hp _ _ _ p'⟩
 ·rintro b s'' ⟨W'',af,x,e',i',r',q,p'⟩;show⟨W'',af,x,e',i',r',q,hx _ _ p'⟩
theorem d5.hold{vs:List Value}{m:Sem α}(h:d5 B A stk W s m P X):d5 B A stk W s (holding vs m) P X:=wpAny_holding h
theorem d5.at{pos:Pos}{k:Unit->Sem β}(h:d5 B A stk W s (k ()) P' X):d5 B A stk W s (standAt pos>>=k) P' X:=wpAny_bind (wpAny_standAt h)
theorem d5.pt{k:Unit->Sem β}(h:d5 B A stk W s (k ()) P' X):d5 B A stk W s (point>>=k) P' X:=wpAny_bind (wpAny_point h)
theorem d5.rule{tag:String}{k:Unit->Sem β}(h:d5 B A stk W s (k ()) P' X):d5 B A stk W s (PySem.rule tag>>=k) P' X:=wpAny_bind (wpAny_rule h)
inductive RV(B:eD)(Q:V->Hp->Prop)(W:Wd)(J:Hp)(v:Value):Prop
 |mk (d:V) (r:W.Rep B d v) (q:Q d J)
theorem RV.e{B:eD}{Q:V->Hp->Prop}{W:Wd}{J:Hp}{v:Value}{R:Prop}(h:RV B Q W J v)(g:∀d,W.Rep B d v->Q d J->R):R:=let⟨d,r,q⟩:=h;g d r q
inductive P7(B:eD)(Q:List V->Hp->Prop)(W:Wd)(J:Hp)(v:List Value):Prop
 |mk (d:List V) (r:W.RepL B d v) (q:Q d J)
theorem P7.e{B:eD}{Q:List V->Hp->Prop}{W:Wd}{J:Hp}{v:List Value}{R:Prop}(h:P7 B Q W J v)(g:∀d,W.RepL B d v->Q d J->R):R:=let⟨d,r,q⟩:=h;g d r q
theorem eM{v:α}{n:Nat}(hI:ef B stk W J s.heap)(h:P W J v):
  mm B stk W s P v {s with toks:=n}:=⟨W,J,.refl ..,hI,⟨rfl,rfl⟩,h⟩
theorem eR{v:α}(hI:ef B stk W J s.heap)(h:P W J v):
  mm B stk W s P v s:=⟨W,J,.refl ..,hI,⟨rfl,rfl⟩,h⟩
theorem Ai{vs keep:List Value}:∀(l:List Value) {k:Unit->Sem β},d5 B A stk W s (k ()) P' X->d5 B A stk W s (PySem.release.go keep l>>=k) P' X:=by
 intro l
 induction l with
 |nil=>intro k h;show h
 |cons a r ih=>
  intro k h;cases r with
  |nil=>show h
  |cons b r=>
   show d5 B A stk W s ((holding ((b::r)++keep) point>>=λ_=>PySem.release.go keep (b::r))>>=k) P' X;rwa[bind_assoc ..];show wpAny_bind (wpAny_holding (wpAny_point (ih h)))
theorem d5.release{vs keep:List Value}{k:Unit->Sem β}(h:d5 B A stk W s (k ()) P' X):d5 B A stk W s (PySem.release vs keep>>=k) P' X:=
 Ai (vs:=[]) _ h
theorem d5.operate{l:List Value}{m:Sem Value}{P:Wd->Hp->Value->Prop}(h:d5 B A stk W s m P X):d5 B A stk W s (operate l m) P X:=by
 unfold PySem.operate;show d5.bind (d5.hold h) λa s' W' aa e i r p=>?_
 show d5.release (d5.pure i p)
end
end
variable{Q Qe:V->Hp->Prop}{X:fD->Hp->Prop}{l caps word cs:List Nat}{J aa τ av ah:Hp}{E:Value->Shared->Prop}{B:eD}{n k i m c j num np kk:Nat}{outer:List Env}{ls ks ns' ts:List (List Nat)}{α β:Type}{s s' ae s₀:Shared}{A:Around}{a L T it Cc dx N:Addr}{pos tp:Pos}{env:Env}{h h' h'':Heap}{xs:List V}{a0 a1 a2 a3 a4 a5 a6 a7 a8 a9 a10:Option V}{U ag:ew}{d:V}{W W' ao W₀ W'':Wd}{va vb:Value}{kvs:List (List Nat×V)}{o oe:Obj}{csc:Scope}{vs bs:List Value}{wa:(V->Hp->Prop)->Prop}{b ab:Bool}{wp:Bool->(V->Hp->Prop)->Prop}{R:Result->Shared->Prop}{ve se:Expr}{wb:Hp->(V->Hp->Prop)->Prop}{K:Hp->Prop}{items:Array Value}{name tn q:Str}{es:gz}{p G t f:Prop}{cm:Str->Option Value}{L0:List Int}{proto sort y:Int}{op:BO}{col:Option Bool}{body:List Stmt}{k5 k3 k2 k1:Option Value}{prog:Program}{dd:Option Addr}{sn:List Str}
section
open PySem PySem.W PyProof.Rows
section
variable{stk:List Env}
theorem Rep.isTup{v:Value}(hI:ef B stk W J s.heap)(r:W.Rep B (.tup xs) v):∃a items n,v=.ref a/\W.RepL B xs items.toList/\s.heap.get? a=some (sN items n)/\xs.length<=eh/\items.size=xs.length:=by
 show AM r.inv ?_;clear r;rintro _ _ _ rfl h1 h4 h5;show⟨_,_,_,rfl,h4,hI.frozen _ _ h1,h5,by rwa[Array.length_toList.symm];show h4.length.symm⟩
theorem Rep.isLst{v:Value}(hI:ef B stk W J s.heap)(r:W.Rep B (.lst xs) v):∃a items n,v=.ref a/\W.RepL B xs items.toList/\s.heap.get? a=some (eZ items n)/\xs.length<=eh/\items.size=xs.length:=by
 show AM r.inv ?_;clear r;rintro _ _ _ rfl h1 h4 h5;show⟨_,_,_,rfl,h4,hI.frozen _ _ h1,h5,by rw[<-Array.length_toList];show h4.length.symm⟩
theorem Rep.isLoc{l:Nat}{v:Value}{y:fA}(hI:ef B stk W J s.heap)(r:W.Rep B (.loc l) v)(e:J[l]?=some y):∃a o,v=.ref a/\W.ι[l]?=some a/\s.heap.get? a=some o/\jv B W y o:=by
 show d6 r.inv ?_;clear r;rintro _ rfl h;show jE (hI.at e) λa o e1 e2 e3=>?_
 rw[h] at e1;injection e1 with e1;subst e1
 show⟨_,o,rfl,h,e2,e3⟩
section
variable{P:Value->Prop}{PL:List Value->Prop}{v:Value}{ds:List V}
theorem gZ{k}(h:gI d k)(r:W.Rep B d v)(g:∀i t,k i->P (.int i t)):P v:=by
 show d6 (ng h) ?_;rintro i rfl h;show fv r.inv ?_;clear r;rintro t rfl;show g i t h
theorem iH{k}(h:iP d k)(r:W.Rep B d v)(g:∀l t,gd l->k l->P (.str (sv l) t)):P v:=by
 show d6 (mX h) ?_;rintro i rfl h;show d6 r.inv ?_;clear r;rintro t rfl z;show g i t z h
theorem pD{k}(h:kW d k)(r:W.Rep B d v)(g:∀l a,W.ι[l]?=some a->k l->P (.ref a)):P v:=by
 show d6 (yz h) ?_;rintro i rfl h;show d6 r.inv ?_;clear r;rintro t rfl z;show g i t z h
theorem zJ{k}(h:C4 ds k)(r:W.RepL B ds vs)(g:k->PL []):PL vs:=by
 obtain⟨rfl,h⟩:=KJ h;cases r;show g h
theorem ll{k}(h:l6 ds k)(r:W.RepL B ds vs)(g:∀d v,W.Rep B d v->k d->PL [v]):PL vs:=by
 show d6 (tK h) ?_;rintro d rfl h;cases r with
 |cons r r'=>cases r';show g d _ r h
theorem wt{k k'}(h:xQ ds k k')(r:W.RepL B ds vs)(g:∀d v,W.Rep B d v->k d->PL [v])(g':∀d v e u,W.Rep B d v->W.Rep B e u->k' d e->PL [v,u]):PL vs:=by
 rcases IK h with⟨d,rfl,h⟩|⟨d,e,rfl,h⟩
 ·cases r with
  |cons r r'=>cases r';show g d _ r h
 ·cases r with
  |cons r r'=>cases r' with
   |cons r' r''=>cases r'';show g' d _ e _ r r' h
theorem nW{l:Nat}{k}(hI:ef B stk W J s.heap)(e:W.ι[l]?=some a)(h:i6 J[l]? k)(g:∀xs items n,s.heap.get? a=some (eZ items n)->W.RepL B xs items.toList->xs.length<=eh->items.size=xs.length->k xs->G):G:=by
 show d6 (IG h) λxs e1 h=>?_
 obtain⟨a',o,e2,e3,items,n,rfl,h4,h5⟩:=hI.at e1;rw[e] at e2;injection e2 with e2;subst e2
 show g xs items n e3 h4 h5 (by rwa[Array.length_toList.symm];show h4.length.symm) h
theorem Jo(hI:ef B stk W J s.heap)(r:W.Rep B (.tup xs) v)(g:∀a items n,W.RepL B xs items.toList->s.heap.get? a=some (sN items n)->xs.length<=eh->items.size=xs.length->P (.ref a)):P v:=by
 obtain⟨a,items,n,rfl,h1,h2,h3,h4⟩:=Rep.isTup hI r;show g a items n h1 h2 h3 h4
theorem zE(hI:ef B stk W J s.heap)(r:W.Rep B (.lst xs) v)(g:∀a items n,W.RepL B xs items.toList->s.heap.get? a=some (eZ items n)->xs.length<=eh->items.size=xs.length->P (.ref a)):P v:=by
 obtain⟨a,items,n,rfl,h1,h2,h3,h4⟩:=Rep.isLst hI r;show g a items n h1 h2 h3 h4
end
theorem jK(e:h.get? a=some (eZ items n)):h.IsList a items:=⟨_,e,rfl,n,rfl⟩
theorem y9(e:h.get? a=some (sN items n)):IsTup h a items:=⟨_,e,rfl,n,rfl⟩
theorem gm:sizeLine=eh:=dt rfl
theorem gb(l:List Nat):(sv l).length=l.length:=by simp[sv,Str.length]
theorem KP(l:List Nat):(sv l).cps.toList=l:=rfl
theorem lj{v:Value}{P:Wd->Hp->Bool->Prop}(hI:ef B stk W J s.heap)(r:W.Rep B d v)(e:truthy d J=some b)(h:P W J b):d5 B A stk W s (PySem.truthy v) P X:=by
 cases d with
 |none=>obtain rfl:=r.inv;(injection e with e;subst e);show PyProof.Rows.truthy_none (eR hI h)
 |bool x=>obtain rfl:=r.inv;(injection e with e;subst e);show wpAny_truthy_bool (eR hI h)
 |int i=>
  show fv r.inv ?_;clear r;rintro _ rfl;injection e with e;subst e;show PySem.P.truthy_int (eR hI ?_)
  have:(i !=0)=decide (i≠0):=by by_cases q:i=0<;>simp[q]
  rwa[this];show h
 |str l=>
  show d6 r.inv ?_;rintro _ rfl hl;injection e with e;subst e
  show PySem.P.truthy_str ?_ (eM hI ?_)
  ·rwa[gb ..];obtain this:=hl.1;unfold eh at this;lia
  ·rwa[gb ..];cases l with
   |nil=>show h
   |cons a l=>show h
 |lst xs=>
  obtain⟨a,items,n,rfl,h4,hl,h5,h6⟩:=Rep.isLst hI r;injection e with e;subst e
  show wpAny_truthy_list (jK hl) (by rwa[h6];unfold eh at h5;lia) (eM hI ?_);obtain this:items.isEmpty=xs.isEmpty:=by
   cases xs with
   |nil=>simpa [Array.isEmpty] using h6
   |cons x xs=>simp[Array.isEmpty,h6]
  rwa[this];show h
 |tup xs=>
  obtain⟨a,items,n,rfl,h4,hl,h5,h6⟩:=Rep.isTup hI r;injection e with e;subst e
  show truthy_tuple (y9 hl) (by rwa[h6];unfold eh at h5;lia) (eM hI ?_);obtain this:items.isEmpty=xs.isEmpty:=by
   cases xs with
   |nil=>simpa [Array.isEmpty] using h6
   |cons x xs=>simp[Array.isEmpty,h6]
  rwa[this];show h
 |loc l=>
  show d6 (rm e) λxs hx e=>?_
  ·injection e with e;subst e
   obtain⟨a,o,rfl,h1,h2,items,n,rfl,h4,h5⟩:=Rep.isLoc hI r hx;have h6:items.size=xs.length:=by rwa[Array.length_toList.symm];show h4.length.symm
   show wpAny_truthy_list ⟨_,h2,rfl,n,rfl⟩ (by rwa[h6];unfold eh at h5;lia) (eM hI ?_);obtain this:items.isEmpty=xs.isEmpty:=by
    cases xs with
    |nil=>simpa [Array.isEmpty] using h6
    |cons x xs=>simp[Array.isEmpty,h6]
   rwa[this];show h
 |_=>cases e
noncomputable def yg:BO->Operator
 |.add=> .Add|.sub=> .Sub|.mul=> .Mult|.fdiv=> .FloorDiv|.mod=> .Mod|.pow=> .Pow
theorem log2_lt(h:n<2^k)(h0:0<k):n.log2<k:=by
 by_cases q:n=0
 ·clear h;subst q;simpa using h0
 ·show(Nat.log2_lt q).mpr h
theorem EU(x y:List Nat):sv x++sv y=sv (x++y):=by
 apply PySem.Str.ext';rwa[PySem.Str.cps_append ..];simp[sv]
theorem sM{x y:List Nat}{t u:Tok}(hI:ef B stk W J s.heap)(hx:gd x)(hy:gd y)(h:x.length+y.length<=eh/\Q (.str (x++y)) J):
  (if(sv x).length==0 then Made.val (.str (sv y) u) else if(sv y).length==0 then Made.val (.str (sv x) t) else Made.str (sv x++sv y)).post
   (mm B stk W s (RV B Q)) s:=by
 rwa[gb ..,gb ..]
 by_cases q1:x.length=0
 ·obtain this:x=[]:=List.length_eq_zero_iff.mp q1;clear hx q1;subst this;show eR hI ⟨_,.str hy,by simpa using h.2⟩
 ·rwa[if_neg (by simpa using q1)]
  by_cases q2:y.length=0
  ·obtain this:y=[]:=List.length_eq_zero_iff.mp q2;clear hy q2;subst this;show eR hI ⟨_,.str hx,by simpa using h.2⟩
  ·rwa[if_neg (by simpa using q2)];obtain e:(sv x++sv y)=sv (x++y):=EU x y;rwa[e];have hl:gd (x++y):=⟨by rwa[List.length_append];show h.1,λc hc=>(List.mem_append.mp hc).elim (hx.2 c) (hy.2 c)⟩;show⟨by rwa[gb ..,gm];show hl.1,eM hI ⟨_,.str hl,h.2⟩⟩
theorem M8{x:Int}(h:y.natAbs<2^64):Builtin.divisionGoesByPylong x y=false:=by
 show PyProof.noPylong_of_log2 ?_
 by_cases h0:y.natAbs=0
 ·rwa[h0];decide+kernel
 ·obtain h64:y.natAbs.log2<64:=(Nat.log2_lt h0).mpr h;show fY ‹_› rfl
theorem CC{a b r:Int}{aU aH:Tok}(hI:ef B stk W J s.heap)(h:gR op (.int a) (.int b) J Q):
  d5 B A stk W s (binaryOp (yg op) (.int a aU) (.int b aH)) (RV B Q) X/\d5 B A stk W s (inplaceOp (yg op) (.int a aU) (.int b aH)) (RV B Q) X:=by
 cases op
 ·show⟨PySem.P.add_int (eM hI ⟨_,.int,h⟩),PySem.P.iadd_int (eM hI ⟨_,.int,h⟩)⟩
 ·show⟨PySem.P.sub_int (eM hI ⟨_,.int,h⟩),PySem.P.isub_int (eM hI ⟨_,.int,h⟩)⟩
 ·show fx h λh1 h=>?_
  have hm:IntMulOk a b:=h1.elim (λq=> .of_left (intBits_le_64 (by omega) (by grind))) λq=> .of_right (intBits_le_64 (by omega) (by lia))
  show⟨PySem.P.mul_int (eM hI ⟨_,.int,h⟩) hm,PySem.P.imul_int (eM hI ⟨_,.int,h⟩) hm⟩
 ·show gp h λh1 h2 h=>?_
  rw[<-Int.fdiv_eq_ediv_of_nonneg _ (Int.le_of_lt h1)] at h;show⟨floordiv_int (by lia) (eM hI ⟨_,.int,h⟩) (.inl (M8 (by grind))),ifloordiv_int (by lia) (eM hI ⟨_,.int,h⟩) (.inl (M8 (by lia)))⟩
 ·show fx h λh1 h=>?_
  rw[<-Int.fmod_eq_emod_of_nonneg _ (Int.le_of_lt h1)] at h;show⟨mod_int' (by lia) (eM hI ⟨_,.int,h⟩),imod_int (by lia) (eM hI ⟨_,.int,h⟩)⟩
 ·show iS h λh1 h2 h3 h=>?_
  show⟨pow_int_small h1 (by lia) h3 (eM hI ⟨_,.int,h⟩),ipow_int_small h1 (by lia) h3 (eM hI ⟨_,.int,h⟩)⟩
theorem Dd{x y:List Nat}{aU aH:Tok}(hI:ef B stk W J s.heap)(hx:gd x)(hy:gd y)(h:gR op (.str x) (.str y) J Q):
  d5 B A stk W s (binaryOp (yg op) (.str (sv x) aU) (.str (sv y) aH)) (RV B Q) X/\d5 B A stk W s (inplaceOp (yg op) (.str (sv x) aU) (.str (sv y) aH)) (RV B Q) X:=by
 cases op<;>first|show False.elim h|skip
 show⟨PySem.P.add_str (sM hI hx hy h),PySem.P.iadd_str (sM hI hx hy h)⟩
theorem jS{v:α}{P:Wd->Hp->α->Prop}(hI:ef B stk W J s.heap)(h:P (W.frz s.heap.objs.size o) J v)(hf:o.isFreed=false:=by rfl):
  mm B stk W s P v {s with heap:=s.heap.push o,toks:=n}:=
 ⟨_,J,.frz hI o,hI.frz o hf,⟨rfl,rfl⟩,h⟩
theorem kN(W:Wd)(a:Addr)(o:Obj):(W.frz a o).F a=some o:=by simp[Wd.frz]
theorem KC{a b:V}(hI:ef B stk W J s.heap)(ra:W.Rep B a va)(rb:W.Rep B b vb)(h:gR op a b J Q):
  d5 B A stk W s (binaryOp (yg op) va vb) (RV B Q) X:=by
 rcases De h with⟨i,j,rfl,rfl⟩|⟨i,j,rfl,rfl⟩|⟨rfl,x,y,rfl,rfl⟩
 ·show fv ra.inv ?_;clear ra;rintro _ rfl;show fv rb.inv ?_;clear rb;rintro _ rfl;show(CC (r:=0) hI h).1
 ·show d6 ra.inv ?_;clear ra;rintro _ rfl ha;show d6 rb.inv ?_;clear rb;rintro _ rfl hb;show(Dd hI ha hb h).1
 ·obtain⟨a1,i1,n1,rfl,l1,e1,z1,y1⟩:=Rep.isLst hI ra;obtain⟨a2,i2,n2,rfl,l2,e2,z2,y2⟩:=Rep.isLst hI rb;have w:=eA.frz (S:=frs stk) hI (eZ (i1++i2) 0);show PySem.P.add_list e1 e2 (jS hI ⟨.lst (x++y),.lst (kN ..) ?_ ?_,h.2⟩) (by rwa[gm];have:=h.1;simp_all)
  ·rwa[Array.toList_append];show(w.repL l1).append (w.repL l2)
  ·rwa[List.length_append];show h.1
theorem Cz{a b:V}(hI:ef B stk W J s.heap)(ra:W.Rep B a va)(rb:W.Rep B b vb)(h:iq op a b J Q):
  d5 B A stk W s (inplaceOp (yg op) va vb) (RV B Q) X:=by
 show fx (JZ h) λh hl=>?_
 rcases De h with⟨i,j,rfl,rfl⟩|⟨i,j,rfl,rfl⟩|⟨rfl,x,y,rfl,rfl⟩
 ·show fv ra.inv ?_;clear ra;rintro _ rfl;show fv rb.inv ?_;clear rb;rintro _ rfl;show(CC (r:=0) hI h).2
 ·show d6 ra.inv ?_;clear ra;rintro _ rfl ha;show d6 rb.inv ?_;clear rb;rintro _ rfl hb;show(Dd hI ha hb h).2
 ·show(hl _ rfl).elim
end
section
variable{stk:List Env}
def xD(h:Heap)(v:Value)(x:PyData)(n:Nat):Prop:=∃as,Reads h v x as/\x.canLay0=true/\x.depth<=n
def AL(h:Heap)(v:List Value)(x:List PyData)(n:Nat):Prop:=∃as,ReadsAll h v x as/\PyData.canLayAll0 x=true/\PyData.depthAll x<=n
theorem MY{f:V->Option PyData}(ih:∀d x v,f d=some x->W.Rep B d v->xD h v x n):
  ∀(xs:List V) (ds:List PyData) (vs:List Value),j5 f xs=some ds->W.RepL B xs vs->AL h vs ds n:=by
 intro xs
 induction xs with
 |nil=>intro ds vs e r;cases r;(injection e with e;subst e);show⟨_,.nil,rfl,Nat.zero_le _⟩
 |cons x xs ihx=>
  intro ds vs e r;cases r with
  |cons r1 r2=>
  show d6 (Option.bind_eq_some_iff.mp e) λd e1 e=>?_
  show d6 (Option.map_eq_some_iff.mp e) λds' e2 e=>?_
  ·subst e;show kQ (ih _ _ _ e1 r1) λa1 p1 p2 p3=>?_
   show kQ (ihx _ _ e2 r2) λa2 q1 q2 q3=>?_
   show⟨_,.cons p1 q1,?_,?_⟩
   ·simp[PyData.canLayAll0,p2,q2]
   ·simp only[PyData.depthAll];lia
theorem H6(h:gd l):PyData.strOk (sv l)=true:=by
 show(l.toArray.all λc=>decide (c<0x110000))=true;rw[Array.all_eq_true_iff_forall_mem];intro c hc;show decide_eq_true (h.2 c (by simpa using hc))
theorem CZ(hI:ef B stk W J h){f:List V->Option (List PyData)}(ih:∀xs ds vs,f xs=some ds->W.RepL B xs vs->∃m,n=m+1/\AL h vs ds m){x:PyData}{v:Value}(e:HB f J d=some x)(r:W.Rep B d v):xD h v x n:=by
 cases d with
 |none=>(injection e with e;subst e);obtain rfl:=r.inv;show⟨_,.none,rfl,Nat.zero_le _⟩
 |bool b=>(injection e with e;subst e);obtain rfl:=r.inv;show⟨_,.bool _,rfl,Nat.zero_le _⟩
 |int i=>(injection e with e;subst e);(show fv r.inv ?_;rintro _ rfl);show⟨_,.int _ _,rfl,Nat.zero_le _⟩
 |str l=>(injection e with e;subst e);(show d6 r.inv ?_;rintro _ rfl hl);show⟨_,.str _ _,by rw[PyData.canLay0];show H6 hl,Nat.zero_le _⟩
 |tup xs=>
  show d6 (Option.map_eq_some_iff.mp e) ?_;clear e;rintro ds e' rfl;show AM r.inv ?_;clear r;rintro _ _ _ rfl h1 h2 h3;obtain⟨m,rfl,as,q1,q2,q3⟩:=ih _ _ _ e' h2;show⟨as,.tuple (hI.frozen _ _ h1) rfl rfl q1,q2,by simp only[PyData.depth];show Nat.lt_succ_of_le ‹_›⟩
 |lst xs=>
  show d6 (Option.map_eq_some_iff.mp e) ?_;clear e;rintro ds e' rfl;show AM r.inv ?_;clear r;rintro _ _ _ rfl h1 h2 h3;obtain⟨m,rfl,as,q1,q2,q3⟩:=ih _ _ _ e' h2;show⟨_,.list (hI.frozen _ _ h1) rfl rfl q1,q2,by simp only[PyData.depth];show Nat.lt_succ_of_le ‹_›⟩
 |loc l=>
  show d6 (rm e) λxs hx e=>?_
  show d6 (Option.map_eq_some_iff.mp e) ?_;clear e;rintro ds e' rfl;show d6 r.inv ?_;clear r;rintro _ rfl hl;obtain⟨a,o,e1,e2,items,k,rfl,e3,e4⟩:=hI.at hx;rw[hl] at e1;injection e1 with e1;subst e1
  obtain⟨m,rfl,as,q1,q2,q3⟩:=ih _ _ _ e' e3;show⟨_,.list e2 rfl rfl q1,q2,by simp only[PyData.depth];show Nat.lt_succ_of_le ‹_›⟩
 |_=>cases e
theorem kf{h:Heap}(hI:ef B stk W J h):∀(n:Nat) (d:V) (x:PyData) (v:Value),fT J n d=some x->W.Rep B d v->xD h v x n
 |0,_,_,_,e,r=>CZ hI (λ_ _ _ e=>by injection e) e r
 |n+1,_,_,_,e,r=>CZ hI (λxs ds vs e r=>⟨n,rfl,MY (kf hI n) xs ds vs e r⟩) e r
noncomputable def OA:CO->CmpOp
 |.eq=> .Eq|.ne=> .NotEq|.lt=> .Lt|.le=> .LtE|.gt=> .Gt|.ge=> .GtE|.is=> .Is|.isn=> .IsNot|.in_=> .In|.nin=> .NotIn
theorem vF(hA:hH A stk n):A.units+30<cLine:=by have:=hA.units;lia
theorem uy{a b:V}{x y:PyData}(hA:hH A stk n)(hI:ef B stk W J s.heap)(ra:W.Rep B a va)(rb:W.Rep B b vb)(ea:fT J 9 a=some x)(eb:fT J 9 b=some y):
  (Q (.bool (PyData.eqv x y)) J->d5 B A stk W s (compareOp .Eq va vb) (RV B Q) X)/\(Q (.bool (!PyData.eqv x y)) J->d5 B A stk W s (compareOp .NotEq va vb) (RV B Q) X):=by
 show kQ (kf hI _ _ _ _ ea ra) λas q1 q2 q3=>?_
 show kQ (kf hI _ _ _ _ eb rb) λbs p1 p2 p3=>?_
 have u:A.units+min x.depth y.depth<cLine:=by have:=vF hA;lia
 show⟨λh=>PySem.SeqAt.compareEq_reads q1 p1 q2 p2 u (eR hI ⟨_,.bool,h⟩),λh=>PySem.SeqAt.compareNe_reads q1 p1 q2 p2 u (eR hI ⟨_,.bool,h⟩)⟩
theorem la{a b:V}{r:Bool}(hA:hH A stk n)(hI:ef B stk W J s.heap)(ra:W.Rep B a va)(rb:W.Rep B b vb)(e:vW J a b=some r):
  (Q (.bool r) J->d5 B A stk W s (compareOp .In va vb) (RV B Q) X)/\(Q (.bool (!r)) J->d5 B A stk W s (compareOp .NotIn va vb) (RV B Q) X):=by
 show d6 (Option.bind_eq_some_iff.mp e) λd ea e=>?_
 show kQ (kf hI _ _ _ _ ea ra) λas q1 q2 q3=>?_
 rcases IU e with⟨ds,eb,e⟩|⟨ds,eb,e⟩
 ·injection e with e;subst e
  show kQ (kf hI _ _ _ _ eb rb) λbs p1 p2 p3=>?_
  have u:A.units+1+min (PyData.depthAll ds) d.depth<cLine:=by have:=vF hA;lia
  show⟨λh=>PySem.SeqAt.in_list_reads p1 q1 p2 q2 u (eR hI ⟨_,.bool,h⟩),λh=>PySem.SeqAt.notIn_list_reads p1 q1 p2 q2 u (eR hI ⟨_,.bool,h⟩)⟩
 ·injection e with e;subst e
  show kQ (kf hI _ _ _ _ eb rb) λbs p1 p2 p3=>?_
  have u:A.units+1+min (PyData.depthAll ds) d.depth<cLine:=by have:=vF hA;lia
  show⟨λh=>PySem.SeqAt.in_tuple_reads p1 q1 p2 q2 u (eR hI ⟨_,.bool,h⟩),λh=>PySem.SeqAt.notIn_tuple_reads p1 q1 p2 q2 u (eR hI ⟨_,.bool,h⟩)⟩
abbrev lT(B:eD)(W:Wd):List Nat×V->Str×Value->Prop:=λkv p=>p.1=sv kv.1/\W.Rep B kv.2 p.2
abbrev zN(B:eD)(W:Wd):Int×V->Int×Value->Prop:=λkv p=>p.1=kv.1/\W.Rep B kv.2 p.2
theorem lJ{vs:List (Str×Value)}(r:eT (lT B W) kvs vs)(k:List Nat):
  (∃d u,eY kvs k=some d/\valueAt vs (sv k)=some u/\W.Rep B d u)\/(eY kvs k=none/\valueAt vs (sv k)=none):=by
 induction r with
 |nil=>show .inr ⟨rfl,rfl⟩
 |@cons a b l l' h t ih=>
  by_cases q:a.1=k
  ·left;show⟨a.2,b.2,?_,?_,h.2⟩
   ·unfold eY;rwa[List.find?_cons_of_pos (by simp[q])];rfl
   ·unfold valueAt;rwa[List.find?_cons_of_pos (by simp[h.1,q])];rfl
  ·obtain e1:eY (a::l) k=eY l k:=by unfold eY;show d4 (List.find?_cons_of_neg (by simpa using q)) rfl
   obtain e2:valueAt (b::l') (sv k)=valueAt l' (sv k):=by
    unfold valueAt;rw[List.find?_cons_of_neg];simp only[h.1,decide_eq_true_eq];intro w;show q (lh w)
   rwa[e1,e2];show ih
theorem tP{kvs:List (Int×V)}{vs:List (Int×Value)}(r:eT (zN B W) kvs vs)(k:Int):
  (∃d u,fP kvs k=some d/\valueAt vs k=some u/\W.Rep B d u)\/(fP kvs k=none/\valueAt vs k=none):=by
 induction r with
 |nil=>show .inr ⟨rfl,rfl⟩
 |@cons a b l l' h t ih=>
  by_cases q:a.1=k
  ·left;show⟨a.2,b.2,?_,?_,h.2⟩
   ·unfold fP;rwa[List.find?_cons_of_pos (by simp[q])];rfl
   ·unfold valueAt;rwa[List.find?_cons_of_pos (by simp[h.1,q])];rfl
  ·obtain e1:fP (a::l) k=fP l k:=by unfold fP;show d4 (List.find?_cons_of_neg (by simpa using q)) rfl
   obtain e2:valueAt (b::l') k=valueAt l' k:=by
    unfold valueAt;rw[List.find?_cons_of_neg];simp only[h.1,decide_eq_true_eq];show q
   rwa[e1,e2];show ih
theorem He{F:Addr->Option Obj}:∀{kvs:List (List Nat×V)} {vs:List (Str×Value)},vs.map (·.1)=kvs.map (λkv=>sv kv.1)->eT (W.Rep B) (kvs.map (·.2)) (vs.map (·.2))->eT (lT B W) kvs vs:=by
 intro kvs
 induction kvs with
 |nil=>intro vs e _;cases vs with
  |nil=>show .nil
  |cons=>injection e
 |cons a l ih=>intro vs e r;cases vs with
  |nil=>injection e
  |cons b l'=>
   injection e with e1 e2
   cases r with
   |cons r1 r2=>show .cons ⟨e1,r1⟩ (ih e2 r2)
theorem Rep.isSdct{v:Value}(hI:ef B stk W J s.heap)(r:W.Rep B (.sdct kvs) v):∃a vs,v=.ref a/\s.heap.DictOf (strKind pw B.w) a vs/\eT (lT B W) kvs vs/\(a==sysModules)=false:=by
 obtain⟨_,_,_,e,h1,h2,h3,h4,h5⟩:=r.inv;show⟨_,_,e,Heap.dictOf_iff.mpr ⟨_,hI.frozen _ _ h1,h2⟩,He (F:=W.F) h3 h4,h5⟩
theorem Fw{l:Nat}{k}(hI:ef B stk W J s.heap)(e:W.ι[l]?=some a)(h:kJ J[l]? k)(g:∀kvs vs,s.heap.DictOf (strKind pw B.w) a vs->eT (lT B W) kvs vs->(a==sysModules)=false->k kvs->G):G:=by
 show d6 (nI h) λxs e1 h=>?_
 obtain⟨a',o,e2,e3,vs,e4,r⟩:=hI.at e1;rw[e] at e2;injection e2 with e2;subst e2
 show g xs vs (Heap.dictOf_iff.mpr ⟨_,e3,e4⟩) r (hI.notMods (List.mem_of_getElem? e)) h
theorem AY{l:Nat}{k}(hI:ef B stk W J s.heap)(e:W.ι[l]?=some a)(h:xZ J[l]? k)(g:∀kvs vs,s.heap.DictOf (intKind pw B.w) a vs->eT (zN B W) kvs vs->(a==sysModules)=false->k kvs->G):G:=by
 show d6 (HT h) λxs e1 h=>?_
 obtain⟨a',o,e2,e3,vs,e4,r⟩:=hI.at e1;rw[e] at e2;injection e2 with e2;subst e2
 show g xs vs (Heap.dictOf_iff.mpr ⟨_,e3,e4⟩) r (hI.notMods (List.mem_of_getElem? e)) h
theorem qV{y}:r7 [] y=true:=rfl
theorem Ov{a as}:r7 (a::as) []=false:=rfl
theorem qH{a as b bs}:r7 (a::as) (b::bs)=if a<b then true else if a=b then r7 as bs else false:=rfl
theorem JX(x y:List Nat):r7 x y=true↔¬(y<x):=by
 induction x generalizing y with
 |nil=>simp[qV]
 |cons a as ih=>
  cases y with
  |nil=>simp[Ov]
  |cons b bs=>
   rw[show((b::bs)<(a::as))↔(b<a\/(b=a/\bs<as)) from List.cons_lt_cons_iff];simp only[qH]
   by_cases h1:a<b
   ·have:¬b<a:=by lia
    have:¬b=a:=by show Nat.ne_of_gt ‹_›
    simp[*]
   ·by_cases h2:a=b
    ·clear h1;subst h2;simpa using ih bs
    ·have:b<a:=by lia
     simp[*]
theorem MJ(x y:List Nat):r7 x y= !decide (y<x):=by
 obtain this:=JX x y;cases h:r7 x y<;>by_cases q:y<x<;>simp_all
theorem wj{l:Nat}(hI:ef B stk W J s.heap)(e:W.ι[l]?=some a):(a==sysModules)=false:=hI.notMods (List.mem_of_getElem? e)
theorem JO{a:V}(hI:ef B stk W J s.heap)(ra:W.Rep B a va)(e:yh a=some b)(h:Q (.bool b) J):d5 B A stk W s (compareOp .Is va .none) (RV B Q) X:=by
 cases ra<;>first|(cases e;done)|(cases e;show wpAny_is_plain rfl (eR hI ⟨_,Rep.bool,h⟩))
theorem I6{k:List Nat}{t:Tok}{vs:List (Str×Value)}(hI:ef B stk W J s.heap)(hd:s.heap.DictOf (strKind pw B.w) a vs)(hr:eT (lT B W) kvs vs)(lo:(a==sysModules)=false):
  (Q (.bool (eY kvs k).isSome) J->d5 B A stk W s (compareOp .In (.str (sv k) t) (.ref a)) (RV B Q) X)/\(Q (.bool (!(eY kvs k).isSome)) J->d5 B A stk W s (compareOp .NotIn (.str (sv k) t) (.ref a)) (RV B Q) X):=by
 have q:(valueAt vs (sv k)).isSome=(eY kvs k).isSome:=by
  rcases lJ hr k with⟨d,u,e1,e2,_⟩|⟨e1,e2⟩<;>rw[e1,e2]<;>rfl
 show⟨λh=>wpAny_in_of (strKind_is ..) lo hd.mapOf (eM hI ⟨_,.bool,by rwa[q];show h⟩),λh=>wpAny_notIn_of (strKind_is ..) lo hd.mapOf (eM hI ⟨_,.bool,by rwa[q];show h⟩)⟩
theorem Fm{a b:V}{r:Bool}(hA:hH A stk n)(hI:ef B stk W J s.heap)(ra:W.Rep B a va)(rb:W.Rep B b vb)(e:oG a b J=some r):
  (Q (.bool r) J->d5 B A stk W s (compareOp .In va vb) (RV B Q) X)/\(Q (.bool (!r)) J->d5 B A stk W s (compareOp .NotIn va vb) (RV B Q) X):=by
 cases a with
 |str k=>
  show d6 ra.inv ?_;rintro _ rfl _;cases b with
  |str l=>
   show d6 (Fo e) ?_;clear ra;rintro c rfl e;injection e with e;subst e;show d6 rb.inv ?_;clear rb;rintro _ rfl _
   have q:(!(Builtin.Str.occurrences (sv l) (sv [c]) 0 (sv l).length 1).isEmpty)=l.contains c:=by
    rwa[(show sv [c]=(⟨#[c]⟩:Str) from rfl),PySem.StrLaws.found_one ..,KP ..];simp[List.contains_eq_mem]
   show⟨λh=>PySem.P.in_str (eR hI ⟨_,.bool,by rwa[q];show h⟩),λh=>PySem.P.notIn_str (eR hI ⟨_,.bool,by rwa[q];show h⟩)⟩
  |sdct kvs=>
   injection e with e;subst e
   show ym (Rep.isSdct hI rb) ?_;clear rb;rintro a vs rfl hd hr lo;show I6 hI hd hr lo
  |loc l=>
   rcases Ii e with⟨kvs,hk,e⟩|e
   ·injection e with e;subst e
    obtain⟨a,o,rfl,h1,h2,vs,h3,hr⟩:=Rep.isLoc hI rb hk;show I6 hI (Heap.dictOf_iff.mpr ⟨_,h2,h3⟩) hr (wj hI h1)
   ·show la hA hI ra rb e
  |_=>show la hA hI ra rb e
 |int k=>
  cases b with
  |loc l=>
   rcases IL e with⟨kvs,hk,e⟩|e
   ·injection e with e;subst e;show fv ra.inv ?_;clear ra;rintro _ rfl
    obtain⟨a,o,rfl,h1,h2,vs,h3,hr⟩:=Rep.isLoc hI rb hk;have hd:s.heap.DictOf (intKind pw B.w) a vs:=Heap.dictOf_iff.mpr ⟨_,h2,h3⟩;have lo:=wj hI h1;have q:(valueAt vs k).isSome=(fP kvs k).isSome:=by
     rcases tP hr k with⟨d,u,e1,e2,_⟩|⟨e1,e2⟩<;>rw[e1,e2]<;>rfl
    show⟨λh=>wpAny_in_of (intKind_is ..) lo hd.mapOf (eM hI ⟨_,.bool,by rwa[q];show h⟩),λh=>wpAny_notIn_of (intKind_is ..) lo hd.mapOf (eM hI ⟨_,.bool,by rwa[q];show h⟩)⟩
   ·show la hA hI ra rb e
  |_=>show la hA hI ra rb e
 |_=>show la hA hI ra rb e
theorem mW{op:CO}{a b:V}(hA:hH A stk n)(hI:ef B stk W J s.heap)(ra:W.Rep B a va)(rb:W.Rep B b vb)(h:fa op a b J Q):
  d5 B A stk W s (compareOp (OA op) va vb) (RV B Q) X:=by
 cases op with
 |lt=>apply gZ h ra;intro x _ h;apply gZ h rb;intro y _ h;show PySem.P.lt_int (eR hI ⟨_,.bool,h⟩)
 |gt=>apply gZ h ra;intro x _ h;apply gZ h rb;intro y _ h;show PySem.P.gt_int (eR hI ⟨_,.bool,h⟩)
 |ge=>apply gZ h ra;intro x _ h;apply gZ h rb;intro y _ h;show PySem.P.ge_int (eR hI ⟨_,.bool,h⟩)
 |le=>
  rcases It h with⟨x,y,rfl,rfl,h⟩|⟨x,y,rfl,rfl,h⟩
  ·show fv ra.inv ?_;clear ra;rintro _ rfl;show fv rb.inv ?_;clear rb;rintro _ rfl;show PySem.P.le_int (eR hI ⟨_,.bool,h⟩)
  ·show d6 ra.inv ?_;clear ra;rintro _ rfl _;show d6 rb.inv ?_;clear rb;rintro _ rfl _;show PySem.P.le_str (eR hI ⟨_,.bool,?_⟩);have h:Q (.bool (r7 x y)) J:=h;rw[MJ] at h;show h
 |eq=>
  rcases yH h with⟨x,y,rfl,rfl,h⟩|⟨x,y,rfl,rfl,h⟩|⟨x,y,ex,ey,h⟩
  ·show fv ra.inv ?_;clear ra;rintro _ rfl;show fv rb.inv ?_;clear rb;rintro _ rfl;show PySem.P.eq_int (eR hI ⟨_,.bool,h⟩)
  ·show d6 ra.inv ?_;clear ra;rintro _ rfl _;show d6 rb.inv ?_;clear rb;rintro _ rfl _;show PySem.P.eq_str (eR hI ⟨_,.bool,h⟩)
  ·show(uy hA hI ra rb ex ey).1 h
 |ne=>
  rcases yH h with⟨x,y,rfl,rfl,h⟩|⟨x,y,rfl,rfl,h⟩|⟨x,y,ex,ey,h⟩
  ·show fv ra.inv ?_;clear ra;rintro _ rfl;show fv rb.inv ?_;clear rb;rintro _ rfl;show PySem.P.ne_int (eR hI ⟨_,.bool,?_⟩)
   (rwa[(show(x !=y)=decide (x≠y) from by by_cases q:x=y<;>simp[q])]);show h
  ·show d6 ra.inv ?_;clear ra;rintro _ rfl _;show d6 rb.inv ?_;clear rb;rintro _ rfl _;show PySem.P.ne_str (eR hI ⟨_,.bool,h⟩)
  ·show(uy hA hI ra rb ex ey).2 h
 |is=>
  show fx (EO h) ?_;rintro rfl h;show d6 (fw h) λb e h=>?_
  obtain rfl:=rb.inv;show JO hI ra e h
 |in_=>show d6 (fw h) λr e h=>?_;show(Fm hA hI ra rb e).1 h
 |nin=>show d6 (fw h) λr e h=>?_;show(Fm hA hI ra rb e).2 h
 |isn=>show False.elim h
end
section
variable{stk:List Env}
theorem vU(slice:Expr)(o i:Value):∃ops,subscripted slice false o i=operate ops (getItem o i):=by
 cases slice with
 |Slice l u t p=>cases t<;>show⟨_,rfl⟩
 |_=>show⟨_,rfl⟩
theorem lH{o i:Value}{T id:String}(hT:s.TypeIs o T)(hl:typeLookup (.type T) "__getitem__" =pure (some (.builtin id)))(h:d5 B A stk W s (getItem o i) (RV B Q) X):d5 B A stk W s (subscriptTail ve se o i) (RV B Q) X:=by
 show fv (vU se o i) λops e=>?_
 show tail_any hT hl h e
theorem uU{k:Int}(h:iM k n=some j):seqIndex? k n=some j/\j<n/\-(n:Int)<=k/\k<n:=by
 unfold iM at h;unfold seqIndex?
 split at h
 ·rename_i h0
  split at h
  ·rename_i h1;injection h with h;subst h
   have:¬k<0:=by show Int.not_lt.mpr ‹_›
   simp only[this,if_false];rwa[if_pos (by simp;simp_all)];show⟨rfl,by simp_all,by lia,h1⟩
  ·injection h
 ·rename_i h0
  split at h
  ·rename_i h1;injection h with h;subst h
   have:k<0:=by show Int.not_le.mp ‹_›
   simp only[this,if_true];rwa[if_pos (by simp;lia)];show⟨rfl,by lia,by lia,by lia⟩
  ·injection h
theorem xt(h:gd l)(m:c∈l):gd [c]:=⟨by simp[eh],λd hd=>by rw[List.mem_singleton] at hd;subst hd;show h.2 _ m⟩
theorem H8{k:Int}{t:Tok}(hI:ef B stk W J s.heap)(e:s.heap.get? a=some (eZ items n))(r:W.RepL B xs items.toList)(z:xs.length<=eh)(hp:iM k xs.length=some j)(hx:xs[j]?=some d)(h:Q d J):d5 B A stk W s (getItem (.ref a) (.int k t)) (RV B Q) X:=by
 show iS (uU hp) λh1 h2 h3 h4=>?_
 show d6 (r.get hx) λv hv rv=>?_
 have hs:items.size=xs.length:=by rwa[Array.length_toList.symm];show r.length.symm
 have hv':items[j]?=some v:=by rwa[Array.getElem?_toList.symm];show hv
 unfold iM at hp
 by_cases h0:0<=k
 ·rw[if_pos h0,if_pos h4] at hp;injection hp with hp;clear hx h1 h2 hv;subst hp
  show wpAny_getItem_list (jK e) h0 (by unfold eh at z;lia) hv' (eR hI ⟨_,rv,h⟩)
 ·rw[if_neg h0,if_pos (by simp_all)] at hp;injection hp with hp;clear hx h1 h2 hv;subst hp
  show wpAny_getItem_list_neg (jK e) (Int.not_le.mp ‹_›) (by rwa[hs];show h3) (by unfold eh at z;lia) (by rwa[hs];show hv') (eR hI ⟨_,rv,h⟩)
theorem vE{T:Type}[DecidableEq T]{knd:KeyKind pw B.w T}{k:T}{vs:List (T×Value)}{vi:Value}{x:Option V}(hI:ef B stk W J s.heap)(hd:s.heap.DictOf knd a vs)(hk:knd.is k vi=true)(f:(∃d u,x=some d/\valueAt vs k=some u/\W.Rep B d u)\/(x=none/\valueAt vs k=none))(e:x=some d)(h:Q d J):d5 B A stk W s (subscriptTail ve se (.ref a) vi) (RV B Q) X:=by
 rcases f with⟨d',u,e1,e2,e3⟩|⟨e1,e2⟩
 ·rw[e] at e1;injection e1 with e1;subst e1
  show lH hd.typeIs PySem.F.slot_dict_getitem.lookup (wpAny_getItem_of hk hd.mapOf e2 (eM hI ⟨_,e3,h⟩))
 ·rw[e] at e1;injection e1
theorem BW{k:Int}{t:Tok}(hI:ef B stk W J s.heap)(e:s.heap.get? a=some (eZ items n))(r:W.RepL B xs items.toList)(z:xs.length<=eh)(h:fj ((iM k xs.length).bind λj=>xs[j]?) λd=>Q d J):d5 B A stk W s (subscriptTail ve se (.ref a) (.int k t)) (RV B Q) X:=by
 show d6 (fw h) λd e' h=>?_
 show d6 (Option.bind_eq_some_iff.mp e') λj e1 e2=>?_
 show lH (jK e).typeIs PySem.F.slot_list_getitem.lookup (H8 hI e r z e1 e2 h)
theorem Lb{a i:V}{vi:Value}(hI:ef B stk W J s.heap)(ra:W.Rep B a va)(ri:W.Rep B i vi)(h:eO a i J Q):
  d5 B A stk W s (subscriptTail ve se va vi) (RV B Q) X:=by
 cases a with
 |tup xs=>
  apply gZ h ri;intro k _ h;show d6 (fw h) λd e h=>?_
  show d6 (Option.bind_eq_some_iff.mp e) λj e1 e2=>?_
  apply Jo hI ra;intro x items n h4 hl h5 h6;show iS (uU e1) λq1 q2 q3 q4=>?_
  show d6 (h4.get e2) λv hv rv=>?_
  show lH (y9 hl).typeIs PySem.F.slot_tuple_getitem.lookup ?_;show getItem_tuple (y9 hl) (by unfold eh at h5;lia) (by unfold eh at h5;lia) (by rwa[h6];show q1) (by rwa[Array.getElem?_toList.symm];show hv) (eR hI ⟨_,rv,h⟩)
 |lst xs=>
  apply gZ h ri;intro k _ h;apply zE hI ra;intro x items n h4 hl h5 h6;show BW hI hl h4 h5 h
 |str l=>
  apply gZ h ri;intro k _ h;show d6 (fw h) λd e h=>?_
  show d6 (Option.bind_eq_some_iff.mp e) λj e1 e2=>?_
  show d6 ra.inv ?_;clear ra;rintro _ rfl hl;show iS (uU e1) λq1 q2 q3 q4=>?_
  show lH (typeIs_str ..) PySem.F.slot_str_getitem.lookup ?_;show PySem.P.getItem_str ?_ ?_ (eM hI ⟨_,.str (xt hl (List.mem_of_getElem? e2)),h⟩)
  ·obtain this:=hl.1;unfold eh at this;simp;lia
  ·rwa[gb ..,q1];show(by simpa [sv] using e2)
 |sdct kvs=>
  apply iH h ri;intro k _ _ h;show d6 (fw h) λd e h=>?_
  show ym (Rep.isSdct hI ra) ?_;clear ra;rintro x vs rfl hd hr lo;show vE hI hd (strKind_is ..) (lJ hr k) e h
 |loc l=>
  show d6 ra.inv ?_;clear ra;rintro a rfl he;rcases Il h with h|h|h
  ·show nW hI he h λxs items n h1 h2 h3 _ h=>by
    apply gZ h ri;intro k _ h;show BW hI h1 h2 h3 h
  ·show Fw hI he h λkvs vs hd hr _ h=>by
    apply iH h ri;intro k _ _ h;show d6 (fw h) λd e h=>?_
    show vE hI hd (strKind_is ..) (lJ hr k) e h
  ·show AY hI he h λkvs vs hd hr _ h=>by
    apply gZ h ri;intro k _ h;show d6 (fw h) λd e h=>?_
    show vE hI hd (intKind_is ..) (tP hr k) e h
 |_=>show False.elim h
end
section
variable{stk:List Env}
theorem Hc(i:Int)(n:Nat):gr i n=clipAt n i:=by
 unfold gr clipAt;rw[Int.max_comm,<-Int.toNat_eq_max,Int.toNat_natCast]
 by_cases h:i<0
 ·rw[if_pos h,if_pos h,Int.min_eq_left (by lia)]
 ·rw[if_neg h,if_neg h,Int.min_def,Nat.min_def]
  by_cases q:i<=n
  ·rw[if_pos q,if_pos (Int.toNat_le.mpr q)]
  ·rw[if_neg q,if_neg (λk=>q (Int.toNat_le.mp k)),Int.toNat_natCast]
theorem AG{v:Value}{z:Nat}(e:Hn d z n=some i)(r:W.Rep B d v):∃q:Option (Int×Tok),v=partValue q/\i=(q.map (·.1)).elim z (clipAt n):=by
 cases d with
 |none=>(injection e with e;subst e);obtain rfl:=r.inv;show⟨none,rfl,rfl⟩
 |int i=>(injection e with e;subst e);(show fv r.inv ?_;rintro t rfl);show⟨some (_,t),rfl,Hc ..⟩
 |_=>cases e
theorem wy{lo hi:V}{vl vh:Value}{p:Nat×Nat}(h:pE lo hi n=some p)(rl:W.Rep B lo vl)(rh:W.Rep B hi vh):∃q q':Option (Int×Tok),vl=partValue q/\vh=partValue q'/\p=((q.map (·.1)).elim 0 (clipAt n),(q'.map (·.1)).elim n (clipAt n)):=by
 show d6 (Option.bind_eq_some_iff.mp h) λi e1 h1=>?_
 show d6 (Option.map_eq_some_iff.mp h1) λj e2 e3=>?_
 show d6 (AG e1 rl) λq k1 k2=>?_
 show d6 (AG e2 rh) λq' k3 k4=>?_
 show⟨q,q',k1,k3,by show d4 e3.symm (d4 k2 (d4 k4 rfl))⟩
theorem J9{a lo hi:V}(h:gf a lo hi J Q):(∃l p,a=.str l/\pE lo hi l.length=some p/\Q (.str ((l.take p.2).drop p.1)) J)\/∃l p,a=.lst l/\pE lo hi l.length=some p/\Q (.lst ((l.take p.2).drop p.1)) J:=by
 cases a<;>first|(show d6 (fw h) λp e h=>?_;show .inl ⟨_,p,rfl,e,h⟩)|(show d6 (fw h) λp e h=>?_;show .inr ⟨_,p,rfl,e,h⟩)|show False.elim h
theorem yw(q:Option (Int×Tok)):IsPart (partValue q) (q.map (·.1)):=by
 cases q with
 |none=>show .none
 |some q=>show .int ..
theorem LS(l u:Option Int)(n:Nat):Builtin.Str.strSliceIndices l u 1 n=sliceRange (l.elim 0 (clipAt n):Nat) (u.elim n (clipAt n):Nat) 1:=by
 cases l<;>cases u<;>simp[Builtin.Str.strSliceIndices,clipAt_cast]
theorem K4(u:Option Int)(n:Nat):u.elim n (clipAt n)<=n:=by
 cases u with
 |none=>show Nat.le_refl _
 |some i=>show clipAt n i<=n;unfold clipAt;omega
theorem KL{m:List Nat}(h:gd l)(k:m.length<=l.length)(k':∀c∈m,c∈l):gd m:=⟨Nat.le_trans k h.1,λc hc=>h.2 c (k' c hc)⟩
noncomputable def nj(a b:Value):Obj:={cls:=.type "slice",data:=.fields #[a,b,.none]}
theorem JY{a lo hi:V}{vl vh:Value}(hI:ef B stk W J s.heap)(ra:W.Rep B a va)(rl:W.Rep B lo vl)(rh:W.Rep B hi vh)(h:gf a lo hi J Q):
  d5 B A stk W {s with heap:=s.heap.push (nj vl vh)} (subscriptTail ve se va (.ref s.heap.objs.size)) (RV B Q) X:=by
 have hI':ef B stk W J ({s with heap:=s.heap.push (nj vl vh)}:Shared).heap:=hI.junk _;have hs:({s with heap:=s.heap.push (nj vl vh)}:Shared).heap.get? s.heap.objs.size=some (nj vl vh):=Heap.get?_push_size _ rfl;generalize ({s with heap:=s.heap.push (nj vl vh)}:Shared)=s' at hI' hs ⊢;generalize s.heap.objs.size=sl at hs ⊢;rcases J9 h with⟨l,p,rfl,e,h⟩|⟨l,p,rfl,e,h⟩
 ·show jE (wy e rl rh) ?_;clear rl rh;rintro tl th rfl rfl rfl
  ·show d6 ra.inv ?_;rintro _ rfl hc;generalize hl:tl.map (·.1)=p at h ⊢;generalize hh:th.map (·.1)=q at h ⊢;show lH (typeIs_str ..) PySem.F.slot_str_getitem.lookup ?_;show wpAny_getItem_str_slice (l:=tl) (u:=th) (st:=none) ⟨_,hs,rfl,rfl⟩ rfl ?_;unfold sliceMade slicePicked;rwa[hl,hh,gb ..];obtain e3:((none:Option (Int×Tok)).map (·.1)).getD 1=1:=rfl;rwa[e3,LS ..,sliceRange_one ..];have e4:List.filterMap ((sv l).cps[·]?) ((List.range (q.elim l.length (clipAt l.length)-p.elim 0 (clipAt l.length))).map (p.elim 0 (clipAt l.length)+·))=(l.take (q.elim l.length (clipAt l.length))).drop (p.elim 0 (clipAt l.length)):=by
    show d4 (show(sv l).cps=l.toArray from rfl) (d4 (pick_run ..) (d4 List.drop_take rfl))
   have hle:=K4 q l.length;generalize p.elim 0 (clipAt l.length)=x at e4 h ⊢;generalize q.elim l.length (clipAt l.length)=y at e4 h hle ⊢;rwa[e4];simp only[List.length_map,List.length_range]
   by_cases g:y-x=l.length
   ·obtain hx:x=0\/l=[]:=by
     cases l with
     |nil=>show .inr rfl
     |cons a l=>left;simp at g hle;lia
    rwa[if_pos (by simpa using g)];obtain this:(l.take y).drop x=l:=by
     clear e ra hc e4 h hle;rcases hx with rfl|rfl
     ·have:y=l.length:=by assumption
      rwa[this];simp
     ·simp
    rw[this] at h;show eR hI' ⟨_,.str hc,h⟩
   ·rwa[if_neg (by simpa using g)];have ok:gd ((l.take y).drop x):=KL hc (by simp;lia) λc hc=>List.mem_of_mem_take (List.mem_of_mem_drop hc)
    show⟨by show(sv _).length<=_;rwa[gb ..,gm];show ok.1,eM hI' ⟨_,.str ok,h⟩⟩
 ·show jE (wy e rl rh) ?_;clear rl rh e;rintro tl th rfl rfl rfl
  ·generalize hl:tl.map (·.1)=p at h ⊢;generalize hh:th.map (·.1)=q at h ⊢;obtain⟨a,items,n,rfl,h4,hg,h5,h6⟩:=Rep.isLst hI' ra;show lH (jK hg).typeIs PySem.F.slot_list_getitem.lookup ?_;have w:=eA.frz (S:=frs stk) hI' (eZ (slicePick items p q none) 0);obtain e4:slicePick items p q none=((items.toList.take (q.elim l.length (clipAt l.length))).drop (p.elim 0 (clipAt l.length))).toArray:=by
    show d4 (slicePick_plain ..) (d4 h6 (d4 List.drop_take rfl))
   show wpAny_getItem_list_slice (jK hg) ⟨_,hs,rfl,rfl⟩ (hl▸yw tl) (hh▸yw th) .none (by simp) (jS hI' ⟨.lst _,.lst (kN ..) ?_ ?_,h⟩) (by rwa[gm,h6];show h5)
   ·rw[e4] at w ⊢;show w.repL ((h4.take _).drop _)
   ·simp;lia
theorem sq{vs:List (Str×Value)}(hd:o.IsDictOf (strKind pw B.w) vs):lookIn name o=some (valueAt vs name):=by
 show w5 hd λes ep hc hdat hk hp hn=>?_
 unfold lookIn;rwa[hdat];dsimp only;obtain e1:(λe:DictEntry=>e.key.isStr name)=λe=>(strKind pw B.w).is name e.key:=by
  funext e;cases e.key<;>rfl
 have e2:=hp.find name;rwa[e1];cases q:es.toList.find? (λe=>(strKind pw B.w).is name e.key) with
 |some e=>rw[q] at e2;rwa[e2.symm];rfl
 |none=>
  rw[q] at e2;dsimp only
  rewrite [if_neg];rwa[e2.symm];rfl
  rwa[propext List.any_eq_true];rintro⟨e,he,hr⟩;show d6 (hk e (Array.mem_toList_iff.mp he)) λk hk1 _=>?_
  show fv (Value.isStrOf_shape hk1) λt ht=>?_
  unfold DictEntry.refKey at hr;rw[ht] at hr;injection hr
theorem yS{C:Addr}{n:List Nat}(h:i4 C n=true):∃ns,(C,ns)∈jP/\n∈ns:=by
 unfold i4 at h;obtain⟨⟨C',ns⟩,m,q⟩:=List.any_eq_true.mp h;simp only[Bool.and_eq_true,beq_iff_eq,List.contains_iff_mem] at q;clear h;obtain⟨rfl,q⟩:=q;show⟨ns,m,q⟩
theorem Rep.isInst{C d:Nat}{v:Value}{y:fA}(hI:ef B stk W J s.heap)(r:W.Rep B (.inst C d) v)(e:J[d]?=some y):
  ∃a dx od sl,v=.ref a/\W.ι[d]?=some dx/\s.heap.get? dx=some od/\jv B W y od/\InstAt s.heap a ⟨.ref C,some dx,.plain,sl⟩ C (some od):=by
 show zb r.inv ?_;clear r;rintro a dx sl rfl h1 h2;show jE (hI.at e) λb o e1 e2 e3=>?_
 rw[h2] at e1;injection e1 with e1;subst e1
 show⟨a,dx,o,sl,rfl,h2,e2,e3,⟨hI.frozen _ _ h1,rfl,rfl,e2⟩⟩
theorem v7{v:Value}(r:W.Rep B d v):handedIn v=true:=by cases r<;>rfl
theorem B7{a:V}{n:List Nat}(hI:ef B stk W J s.heap)(ra:W.Rep B a va)(h:fy a n J Q):
  d5 B A stk W s (getAttr va (sv n) true) (RV B Q) X:=by
 show lx (sZ h) ?_;clear h;rintro C d rfl h1;show fx (Bd h1) λho h2=>?_
 show d6 (nI h2) λkvs hk h3=>?_
 show d6 (fw h3) λv hv h=>?_
 obtain⟨x,dx,od,sl,rfl,h1,h2,⟨vs,h3,hr⟩,I⟩:=Rep.isInst hI ra hk;show d6 (yS ho) λns m1 m2=>?_
 have P:=B.cls C ns m1;rcases lJ hr n with⟨d',u,e1,e2,e3⟩|⟨e1,e2⟩
 ·rw[hv] at e1;injection e1 with e1;subst e1
  have hl:lookIn (sv n) od=some (some u):=by show d4 (sq (B:=B) h3) (d4 e2 rfl)
  show get_value hI.inK I P.ga (findObj_own P.hd (P.own n m2) rfl hl) (v7 e3) (eM hI ⟨_,e3,h⟩)
 ·rw[hv] at e1;injection e1
end
section
variable{stk:List Env}
abbrev RU(Q:Hp->Prop):Wd->Hp->Unit->Prop:=λ_ J _=>Q J
theorem Aa{vs:List (Str×Value)}{v:Value}{t:Tok}(hd:o.IsDictOf (strKind pw B.w) vs):
  (Obj.putName name (PyData.keyHash B.w.params name) (.str name t) v o).IsDictOf (strKind pw B.w) (stored vs name v):=by
 show w5 hd λes ep hc hdat hk hp hn=>?_
 obtain⟨c,d,dt,sl⟩:=o;simp only at hdat;subst hdat;rwa[Obj.putName_eq];unfold Obj.putNameByArray;have e1:(λe:DictEntry=>e.key.isStr name)=λe=>(strKind pw B.w).is name e.key:=by
  funext e;cases e.key<;>rfl
 rwa[e1];have hidx:(es.findIdx? λe=>(strKind pw B.w).is name e.key)=vs.findIdx? λkv=>decide (kv.1=name):=by
  rwa[(hp.findIdx name).symm];clear hk hp hd hc;obtain⟨l⟩:=es;simp
 show gp hc λc1 c2 c3=>?_
 dsimp only;cases hi:es.findIdx? λe=>(strKind pw B.w).is name e.key with
 |some i=>
  dsimp only;show⟨_,ep,⟨c1,c2,c3⟩,rfl,hk.modify _ _,?_,?_⟩
  ·rewrite [stored];rwa[if_pos (any_of_findIdx_some (hidx▸hi))]
   have hl:(es.toList.findIdx? λe=>(strKind pw B.w).is name e.key)=some i:=by rwa[hi.symm];clear hk hp hd hc hidx c1 c2 c3 hi;obtain⟨l⟩:=es;simp
   obtain this:=hp.modify hn hl v;clear hk hp hd hc hidx c1 c2 c3 hi hl;obtain⟨l⟩:=es
   simpa using this
  ·rewrite [stored];rwa[if_pos (any_of_findIdx_some (hidx▸hi)),keys_map_store ..];show hn
 |none=>
  have hnot:name∉vs.map (·.1):=not_mem_of_findIdx_none (hidx▸hi);have hany:¬(vs.any λkv=>decide (kv.1=name))=true:=by
   rwa[propext List.any_eq_true];rintro⟨kv,hkv,he⟩;show hnot (List.mem_map.mpr ⟨kv,hkv,of_decide_eq_true he⟩)
  dsimp only;show⟨_,ep+1,⟨c1,c2,c3⟩,rfl,hk.push (k:=name) (strKind_is ..) _,?_,?_⟩
  ·rewrite [stored];rwa[if_neg hany]
   obtain this:=hp.append (strKind_is pw B.w name t) (PyData.keyHash B.w.params name) v;clear hk hp hd hc hidx c1 c2 c3 hi;obtain⟨l⟩:=es
   simpa using this
  ·rewrite [stored];rwa[if_neg hany,List.map_append,propext List.nodup_append]
   show⟨hn,by simp,?_⟩;intro a ha b hb;simp only[List.map_cons,List.map_nil,List.mem_singleton] at hb;clear e1 hidx hi hany;subst hb;show λe=>hnot (e▸ha)
theorem za{vs:List (Str×Value)}(r:eT (lT B W) kvs vs){k:List Nat}{v:Value}(rv:W.Rep B d v):
  eT (lT B W) (mL kvs k d) (stored vs (sv k) v):=by
 have hany:(kvs.any λkv=>kv.1==k)=(vs.any λkv=>decide (kv.1=sv k)):=by
  clear rv
  induction r with
  |nil=>rfl
  |@cons a b _ _ h _ ih=>
   rwa[List.any_cons,List.any_cons,ih];obtain e:(a.1==k)=decide (b.1=sv k):=by
    rwa[h.1]
    by_cases q:a.1=k
    ·rwa[q];simp
    ·show d4 (beq_eq_false_iff_ne.mpr q) (d4 (decide_eq_false λw=>q (lh w)) rfl)
   show d4 e rfl
 unfold mL stored;rwa[hany]
 by_cases g:(vs.any λkv=>decide (kv.1=sv k))=true
 ·rwa[if_pos g,if_pos g];clear hany g
  induction r with
  |nil=>show .nil
  |@cons a b l l' h t ih=>
   simp only[List.map_cons];show .cons ?_ ih
   by_cases q:a.1=k
   ·rwa[if_pos (by simp[q]),if_pos (by rw[h.1,q])];show⟨h.1,rv⟩
   ·rwa[if_neg (by simpa using q),if_neg (by rw[h.1];intro w;show q (lh w))];show h
 ·rwa[if_neg g,if_neg g];show r.append (.cons ⟨rfl,rv⟩ .nil)
theorem E3{kvs:List (Int×V)}{vs:List (Int×Value)}(r:eT (zN B W) kvs vs){k:Int}{v:Value}(rv:W.Rep B d v):
  eT (zN B W) (jr kvs k d) (stored vs k v):=by
 have hany:(kvs.any λkv=>kv.1==k)=(vs.any λkv=>decide (kv.1=k)):=by
  clear rv
  induction r with
  |nil=>rfl
  |@cons a b _ _ h _ ih=>
   rwa[List.any_cons,List.any_cons,ih];obtain e:(a.1==k)=decide (b.1=k):=by rwa[h.1];rfl
   show d4 e rfl
 unfold jr stored;rwa[hany]
 by_cases g:(vs.any λkv=>decide (kv.1=k))=true
 ·rwa[if_pos g,if_pos g];clear hany g
  induction r with
  |nil=>show .nil
  |@cons a b l l' h t ih=>
   simp only[List.map_cons];show .cons ?_ ih
   by_cases q:a.1=k
   ·rwa[if_pos (by simp[q]),if_pos (by rw[h.1,q])];show⟨h.1,rv⟩
   ·rwa[if_neg (by simpa using q),if_neg (by rw[h.1];show q)];show h
 ·rwa[if_neg g,if_neg g];show r.append (.cons ⟨rfl,rv⟩ .nil)
theorem qM{l:Nat}{y:fA}{P:Wd->Hp->α->Prop}{v:α}(hI:ef B stk W J s.heap)(hs:Heap.SameBut a s.heap h')(e:W.ι[l]?=some a)(ho:h'.get? a=some o)(r:jv B W y o)(h:P W (J.set l y) v):
  mm B stk W s P v {s with heap:=h',toks:=n}:=
 ⟨W,_,.upd hs (List.mem_of_getElem? e),hI.upd hs e ho r,⟨rfl,rfl⟩,h⟩
theorem uo{o k v:V}{vo vk vv:Value}{Q:Hp->Prop}(hI:ef B stk W J s.heap)(ro:W.Rep B o vo)(rk:W.Rep B k vk)(rv:W.Rep B v vv)(h:iu o k v J Q):
  d5 B A stk W s (setItem vo vk vv) (RU Q) X:=by
 apply pD h ro;intro l a he h;rcases IF h with⟨k,rfl,h⟩|⟨k,rfl,h⟩
 ·show d6 rk.inv ?_;clear rk;rintro _ rfl _;show Fw hI he h λkvs vs hd hr _ h=>?_
  show wpAny_setItem_pairs (hsz:=by rwa[gm,hr.length.symm];obtain this:=h.1;unfold eh;show fY ‹_› rfl) (strKind_is ..) hd λh' hm hs=>?_
  show d6 (Heap.dictOf_iff.mp hm) λo' e1 e2=>?_
  show qM (y:=.sd _) hI hs he e1 ⟨_,e2,za hr rv⟩ h.2
 ·show fv rk.inv ?_;clear rk;rintro _ rfl;show AY hI he h λkvs vs hd hr _ h=>?_
  show wpAny_setItem_pairs (hsz:=by rwa[gm,hr.length.symm];obtain this:=h.1;unfold eh;show fY ‹_› rfl) (intKind_is ..) hd λh' hm hs=>?_
  show d6 (Heap.dictOf_iff.mp hm) λo' e1 e2=>?_
  show qM (y:=.nd _) hI hs he e1 ⟨_,e2,E3 hr rv⟩ h.2
theorem Mr{C x:Addr}{od:Obj}{sl:Array (Option Value)}{tk:Tok}{v:Value}{vs:List (Str×Value)}{K:Frag}(X:K.In s.heap)(I:InstAt s.heap x ⟨.ref C,some dx,.plain,sl⟩ C (some od))(hp:plainOver K C=true)(hd:hasDictIn K C=true)(ht:takerIn K C name=some none)(h2:s.heap.get? dx=some od)(h3:od.IsDictOf (strKind pw B.w) vs)(hz:vs.length<=10000)(h:∀h' o',Heap.SameBut dx s.heap h'->h'.get? dx=some o'->o'.IsDictOf (strKind pw B.w) (stored vs name v)->R (.ok (.ret .none)) {s with heap:=h',toks:=s.toks+1}):
  codeAny (model pw B.w) A (.call (.builtin "object.__setattr__") ⟨[.ref x,.str name tk,v],[]⟩) R s:=by
 show osa_open X I hp ht λb=>?_
 show d6 (any_some hd) λcd hc hd'=>?_
 have hD:=Aa (B:=B) (name:=name) (v:=v) (t:=s.toks) h3;show w5 (id h3) λes ep hx1 hx2 hx3 hx4 hx5=>?_
 show w5 (id hD) λes' ep' hy1 hy2 hy3 hy4 hy5=>?_
 obtain hfree:(Obj.putName name (PyData.keyHash B.w.params name) (.str name s.toks) v od).isFreed=false:=Obj.isFreed_of_dict hy2;have hg:=Heap.get?_update_self (Obj.putName name (PyData.keyHash B.w.params name) (.str name s.toks) v) h2 hfree;obtain hsz:es'.size<=sizeLine:=by
  obtain this:=hy4.length;obtain this:=stored_length_le vs name v;obtain e0:es'.size=es'.toList.length:=by simp
  rwa[gm];unfold eh;lia
 obtain hno:(es.any (·.refKey))=false:=by
  rwa[propext Bool.eq_false_iff];intro q;obtain⟨i,hi,hr⟩:=Array.any_eq_true.mp q;show d6 (hx3 es[i] (Array.getElem_mem hi)) λk hk1 _=>?_
  show fv (Value.isStrOf_shape hk1) λt ht=>?_
  unfold DictEntry.refKey at hr;rw[ht] at hr;injection hr
 show wpAny_bind (wpAny_pure (wpAny_bind (wpAny_bind (wpAny_loadPart I.at_ (wpAny_bind ((looks_clsIn X hc).here ?_))))));rwa[hd'];show wpAny_pure (a:=some dx) (wpAny_bind (wpAny_pure (wpAny_bind ?_)));unfold nsSet;show wpAny_bind (wpAny_bind (wpAny_askSetting (wpAny_pure (wpAny_bind (wpAny_mkText (wpAny_bind (wpAny_loadPart h2 ?_)))))));rwa[hx2];dsimp only;rwa[aRefKeyMayBeTheName_at ..,hno,Bool.and_false ..];show wpAny_updatePart h2 ?_;show wpAny_bind (wpAny_lookBehind hg (by rwa[hy2];show pastItsLine_dict (Nat.le_succ_of_le hsz)) ?_);show wpAny_pure (h _ _ (Heap.SameBut.update ..) hg hD)
theorem B9{o v:V}{vo vv:Value}{n:List Nat}{Q:Hp->Prop}(hI:ef B stk W J s.heap)(ro:W.Rep B o vo)(rv:W.Rep B v vv)(h:mf o n v J Q):
  d5 B A stk W s (setAttr vo (sv n) vv) (RU Q) X:=by
 show lx (sZ h) ?_;clear h;rintro C d rfl h1;show fx (Bd h1) λho h2=>?_
 ·show d6 (nI h2) λkvs hk h=>?_
  ·obtain⟨x,dx,od,sl,rfl,h1,h2,⟨vs,h3,hr⟩,I⟩:=Rep.isInst hI ro hk;show d6 (yS ho) λns m1 m2=>?_
   have P:=B.cls C ns m1;obtain ht:takerIn B.K C (sv n)=some none:=by unfold takerIn;rwa[P.own n m2];rfl
   show set_plain hI.inK I P.sa ?_;show Mr (s:={s with toks:=s.toks+1}) (B:=B) hI.inK I P.po P.hd ht h2 h3 (by rwa[hr.length.symm];obtain this:=h.1;show fY ‹_› rfl) λh' o' hs e1 e2=>?_
   show qM (y:=.sd _) hI hs h1 e1 ⟨_,e2,za hr rv⟩ h.2
end
section
variable{stk:List Env}
theorem eD.size_of(B:eD)(k:∀b o,B.h₀.get? b=some o->h.get? b=some o):B.h₀.objs.size<=h.objs.size:=by
 obtain⟨o,e⟩:=B.last;obtain h1:B.h₀.objs.size-1<h.objs.size:=Heap.lt_size (k _ _ e);obtain h2:B.h₀.objs.size-1<B.h₀.objs.size:=Heap.lt_size e;omega
theorem ef.kept(x:ef B stk W J h)(k:∀b o,h.get? b=some o->h'.get? b=some o):ef B stk W J h' where
 base:=x.base
 frozen a o e:=k _ _ (x.frozen a o e)
 len:=x.len
 nodup:=x.nodup
 sep:=x.sep
 low:=x.low
 size:=B.size_of λb o e=>k _ _ (x.old b o e)
 objs l y a e1 e2:=let⟨ob,e,r⟩:=x.objs l y a e1 e2;⟨ob,k _ _ e,r⟩
 frames env m:=let⟨kd,L,ob,e1,e2,e3,e4,e5⟩:=x.frames env m;⟨kd,L,ob,e1,k _ _ e2,e3,e4,e5⟩
theorem eA.kept{S:List Addr}(k:∀b o,h.get? b=some o->h'.get? b=some o):eA S W h W h' where
 F a b e:=e
 ι:=List.prefix_refl _
 newι a m n:=absurd m n
 newF a e n:=by rw[n] at e;injection e
 keep a b e n:=⟨b.slots,k _ _ e,λ_=>rfl⟩
theorem yT{P:Wd->Hp->α->Prop}{v:α}(hI:ef B stk W J s.heap)(k:∀b o,s.heap.get? b=some o->h'.get? b=some o)(h:P W J v):
  mm B stk W s P v {s with heap:=h',toks:=n}:=
 ⟨W,J,.kept k,hI.kept k,⟨rfl,rfl⟩,h⟩
theorem DA(i:Int):PySem.Str.ofString (toString i)=sv (fW i):=by
 obtain e:(PySem.Str.ofString (toString i)).cps.toList=fW i:=by
  rwa[signs_ofString ..];unfold fW ik;cases i with
  |ofNat m=>
   rwa[if_neg (by simp)];show(Nat.repr m).toList.map Char.toNat=_
   rwa[Nat.toList_repr];rfl
  |negSucc m=>
   rwa[if_pos (Int.negSucc_lt_zero m)];show("-" ++Nat.repr (m+1)).toList.map Char.toNat=_
   rwa[String.toList_append,Nat.toList_repr];rfl
 apply PySem.Str.ext';rwa[(Array.toArray_toList (xs:=(PySem.Str.ofString (toString i)).cps)).symm,e];rfl
theorem Bc(h:c∈ik n):48<=c/\c<=57:=by
 unfold ik at h;show d6 (List.mem_map.mp h) ?_;clear h;rintro ch hc rfl;show digit_range (Nat.isDigit_of_mem_toDigits (dt rfl) (dt rfl) hc)
theorem BB(hk:1<=k)(h:n<10^k):(ik n).length<=k:=by
 unfold ik;rwa[List.length_map ..];show toDigits_len_pow (dt rfl) hk h
theorem DY{i:Int}(h:i.natAbs<10^100):gd (fW i):=by
 obtain hl:=BB (k:=100) (dt rfl) h;have hd:∀c∈ik i.natAbs,c<1114112:=λc hc=>by have:=Bc hc;lia
 unfold fW
 split
 ·show⟨by simp only[List.length_cons,eh];show Nat.lt_of_le_of_lt ‹_› (dt rfl),?_⟩;intro c hc;rcases List.mem_cons.mp hc with rfl|hc
  ·show dt rfl
  ·show hd c hc
 ·show⟨by simp only[eh];show fY ‹_› rfl,hd⟩
theorem F9:∀{xs:List V} {vs:List Value} {n:Int},W.RepL B xs vs->vw xs=some n->∃ps:List (Int×Tok),vs=ps.map (λp=> .int p.1 p.2)/\(ps.map (·.1)).sum=n:=by
 intro xs
 induction xs with
 |nil=>intro vs n r e;cases r;(injection e with e;subst e);show⟨[],rfl,rfl⟩
 |cons x xs ih=>
  intro vs n r e;cases r with
  |cons r1 r2=>
  cases x<;>first|show eC e|skip
  show d6 (Option.map_eq_some_iff.mp e) λm e1 e2=>?_
  show d6 (ih r2 e1) λps e3 e4=>?_
  show fv r1.inv ?_;clear r1;rintro _ rfl;show⟨(_,_)::ps,by rwa[e3];rfl,by simp[e4,e2]⟩
theorem Cq(ps:List (Int×Tok)):preSum (numAt ps.toArray) ps.length=(ps.map (·.1)).sum:=by
 obtain this:∀k,k<=ps.length->preSum (numAt ps.toArray) k=((ps.take k).map (·.1)).sum:=by
  intro k
  induction k with
  |zero=>intro _;rfl
  |succ k ih=>
   intro h
   rewrite [preSum];rwa[ih (Nat.le_of_lt ‹_›),List.take_add_one,List.map_append,List.sum_append]
   congr 1
   unfold numAt;rwa[List.getElem?_toArray,List.getElem?_eq_getElem (by assumption)];simp
 show d4 (this _ (Nat.le_refl _)) (d4 List.take_length rfl)
noncomputable def Ha:BF->Value
 |.len=> .builtin "len" |.str=> .type "str" |.sum=> .builtin "sum" |.min=> .builtin "min" |.chr=> .builtin "chr" |.ord=> .builtin "ord" |.range=> .type "range"
theorem CU{l:Addr}(hI:ef B stk W J s.heap)(e:s.heap.get? l=some (eZ items n))(z:items.size<=eh)(h:Q (.int items.size) J):
  d5 B A stk W s (call (.builtin "len") [.ref l]) (RV B Q) X:=
 PySem.Calls.call_len_list (jK e) (by unfold eh at z;lia) (eM hI ⟨_,.int,h⟩)
theorem one(r:W.RepL B [d] vs):∃v,vs=[v]/\W.Rep B d v:=by
 cases r with
 |cons r1 r2=>cases r2;show⟨_,rfl,r1⟩
theorem PQ{e:V}(r:W.RepL B [d,e] vs):∃v u,vs=[v,u]/\W.Rep B d v/\W.Rep B e u:=by
 cases r with
 |cons r1 r2=>show d6 (one r2) λu e r3=>?_;clear r2;subst e;show⟨_,_,rfl,r1,r3⟩
theorem MU{f:BF}{ds:List V}(hA:hH A stk n)(hI:ef B stk W J s.heap)(r:W.RepL B ds vs)(h:je f ds J Q):
  d5 B A stk W s (call (Ha f) vs) (RV B Q) X:=by
 cases f with
 |len=>
  apply ll h r;intro d v r1 h;cases d with
  |str l=>
   obtain⟨_,rfl,hl⟩:=r1.inv;show PySem.P.len_str ?_ (eM hI ⟨_,.int,?_⟩)
   ·rwa[gb ..];obtain this:=hl.1;unfold eh at this;lia
   ·rwa[gb ..];show h
  |lst l=>
   apply zE hI r1;intro a items n h4 hl h5 h6;show CU hI hl (by rwa[h6];show h5) (by rwa[h6];show h)
  |tup l=>
   apply Jo hI r1;intro a items n h4 hl h5 h6;show PyProof.Rows.len_tuple (y9 hl) (by rwa[h6];unfold eh at h5;lia) (eM hI ⟨_,.int,by rwa[h6];show h⟩)
  |loc i=>
   obtain⟨a,rfl,he⟩:=r1.inv;show nW hI he h λl items n h2 h4 h5 h6 h=>CU hI h2 (by rwa[h6];show h5) (by rwa[h6];show h)
  |_=>show False.elim h
 |str=>
  apply ll h r;intro d v r1 h;apply gZ h r1;intro i _ h;show PySem.P.str_of_int ?_ (eM hI ⟨_,?_,h.2⟩)
  ·obtain this:(10:Nat)^100<2^1920:=by decide+kernel
   show log2_lt (Nat.lt_trans h.1 this) (dt rfl)
  ·show W.Rep B _ (.str (PySem.Str.ofString (toString _)) _);rwa[DA ..];show .str (DY h.1)
 |sum=>
  apply ll h r;intro d v r1 h;obtain⟨l,rfl,h⟩:=Bv h;obtain⟨n,e,h⟩:=fw h;apply zE hI r1;intro a items k h4 hl h5 h6;obtain⟨ps,e1,e2⟩:=F9 h4 e;obtain e3:items=intItems ps.toArray:=by
   apply Array.toList_inj.mp;rwa[e1];simp[intItems]
  rw[e3] at hl;show PySem.sum_intListG hA.handled (jK hl) λh' tk t' k=>yT hI k ⟨.int n,?_,h⟩
  rwa[(show ps.toArray.size=ps.length from List.size_toArray ..),Cq ..,e2];show .int
 |min=>
  apply wt h r
  ·intro _ _ _ h;show False.elim h
  intro a v b u r1 r2 h;apply gZ h r1;intro a _ h;apply gZ h r2;intro b _ h;show min_two_ints hA.handled λh' tk k=>yT hI k ?_
  split
  ·rename_i q;rw[if_pos q] at h;show⟨_,.int,h⟩
  ·rename_i q;rw[if_neg q] at h;show⟨_,.int,h⟩
 |chr=>
  apply ll h r;intro d v r1 h;apply gZ h r1;intro i _ h;obtain⟨h1,h2,h⟩:=h;show PySem.P.chr_of_int (by simp;lia) (eM hI ⟨_,.str (l:=[_]) ⟨by simp[eh],?_⟩,h⟩);intro c hc;rw[List.mem_singleton] at hc;lia
 |ord=>
  apply ll h r;intro d v r1 h;apply iH h r1;intro l _ _ h;obtain⟨c,rfl,h⟩:=Af h;show PySem.P.ord_of_char (eM hI ⟨_,.int,h⟩)
 |range=>
  apply ll h r;intro d v r1 h;apply gZ h r1;intro i _ h;show PySem.call_range_1 (jS hI ⟨_,.rng (kN ..),h.2⟩)
end
end
section
open PySem PySem.W PyProof.Rows PySem.Builtin PySem.Builtin.Str
section
variable{stk:List Env}
theorem tI(x:Str):sv x.cps.toList=x:=by
 obtain⟨a⟩:=x;simp[sv]
theorem CI{x:Str}(h:gd x.cps.toList):gd (strSub x i j).cps.toList:=by
 show⟨?_,λc hc=>h.2 c ?_⟩
 ·obtain this:=h.1;unfold strSub;simp only[Array.length_toList,Array.size_extract] at this ⊢;lia
 ·unfold strSub at hc;simp only[Array.mem_toList_iff] at hc ⊢;obtain⟨k,hk,rfl⟩:=Array.mem_extract_iff_getElem.mp hc;show Array.getElem_mem _
theorem F2(h:gd l):gd (strip cs l):=by
 unfold strip Txt.stripChars;rwa[PyProof.Rows.stripBy_eq ..];show CI h
theorem Fd{p:List Nat}(h:gd l)(m:p∈fC c l):gd p:=by
 unfold fC at m;show d6 (List.mem_map.mp m) ?_;rintro x hx rfl;unfold Txt.split at hx
 split at hx
 ·rw[List.mem_singleton] at hx;clear m;subst hx;show h
 split at hx
 ·rw[List.mem_singleton] at hx;clear m;subst hx;show h
 ·unfold partsBetween at hx;show d6 (List.mem_map.mp hx) ?_;clear m hx;rintro⟨i,j⟩ _ rfl;show CI h
theorem E7:(fC c l).length<=l.length+2:=by
 unfold fC Txt.split;rwa[List.length_map ..]
 split
 ·simp
 split
 ·simp
 ·rwa[length_partsBetween ..];obtain this:=StrLaws.occ_length_le (sv l) (sv [c]) 0 (sv l).length ((sv l).length+1);rw[gb] at this ⊢;show Nat.lt_succ_of_le ‹_›
theorem EL(sep:Str):∀ys:List Str,(∀c∈sep.cps.toList,c<1114112)->(∀y∈ys,∀c∈y.cps.toList,c<1114112)->∀c∈(Str.join sep ys).cps.toList,c<1114112:=by
 intro ys h1
 induction ys with
 |nil=>intro _ c hc;show absurd hc (by simp[Str.join,Str.empty])
 |cons a r ih=>
  intro h2 c hc;cases r with
  |nil=>show h2 a (.head _) c hc
  |cons b r=>
   obtain e:(Str.join sep (a::b::r))=a++sep++Str.join sep (b::r):=rfl;rw[e,Str.cps_append,Str.cps_append] at hc;simp only[Array.toList_append,List.mem_append] at hc;rcases hc with(hc|hc)|hc
   ·show h2 a (.head _) c hc
   ·show h1 c hc
   ·show ih (λy hy=>h2 y (.tail _ hy)) c hc
theorem B3(sep:Str):∀ys:List Str,(Str.join sep ys).length<=(ys.map (·.length)).sum+ys.length*sep.length:=by
 intro ys
 induction ys with
 |nil=>simp[Str.join,Str.empty,Str.length]
 |cons a r ih=>
  cases r with
  |nil=>simp[Str.join]
  |cons b r=>
   obtain e:(Str.join sep (a::b::r))=a++sep++Str.join sep (b::r):=rfl;rwa[e,Str.length_append ..,Str.length_append ..,List.map_cons,List.sum_cons,List.length_cons,Nat.add_mul ..];lia
theorem HJ{sep:List Nat}(h1:gd sep)(h2:∀y∈ls,gd y)(h3:gU sep ls<=eh):gd (iW sep ls):=by
 obtain e:iW sep ls=(Str.join (sv sep) (ls.map sv)).cps.toList:=by
  unfold iW Txt.join;show d4 (StrLaws.glued_eq_join ..) rfl
 rwa[e];constructor
 ·have:=B3 (sv sep) (ls.map sv);rw[List.length_map,gb,List.map_map] at this;obtain e2:ls.map ((λx=>x.length)∘sv)=ls.map List.length:=List.map_congr_left λa _=>gb a
  rw[e2] at this;unfold gU at h3;rwa[Array.length_toList];show Nat.le_trans this h3
 ·show EL _ _ h1.2 ?_;intro y hy;show d6 (List.mem_map.mp hy) ?_;clear hy;rintro l hl rfl;show(h2 l hl).2
theorem AR:∀{l:List V} {vs:List Value} {ls:List (List Nat)},iZ l=some ls->W.RepL B l vs->StrsAre vs (ls.map sv)/\(∀y∈ls,gd y)/\l=ls.map .str:=by
 intro l
 induction l with
 |nil=>intro vs ls e r;cases r;(injection e with e;subst e);show⟨.nil,by simp,rfl⟩
 |cons d l ih=>
  intro vs ls e r;cases r with
  |cons r1 r2=>
  cases d<;>first|show eC e|skip
  show d6 (Option.map_eq_some_iff.mp e) λm e1 e2=>?_
  clear e;subst e2;show gp (ih e1 r2) λq1 q2 q3=>?_
  show d6 r1.inv ?_;clear r1;rintro _ rfl h;show⟨.cons _ _ q1,λy hy=>by cases hy with|head=>show h|tail _ hy=>show q2 y hy,by rwa[q3];rfl⟩
theorem zu{m:BM}{P:Prop}(h:lC m d J=true)(k:(∃k xs,d=.loc k/\J[k]?=some (.lst xs))->P)(hm:ui m=1:=by rfl):P:=by
 apply k;cases d with
 |loc i=>
  have h:Nat.beq (ui m) (td J[i]?)=true:=h;rw[hm] at h;obtain⟨l,e⟩:=Ln h;show⟨i,l,rfl,e⟩
 |str=>rw[show lC m _ J=Nat.beq (ui m) 0 from rfl,hm] at h;show Bool.noConfusion h
 |sdct=>rw[show lC m _ J=Nat.beq (ui m) 2 from rfl,hm] at h;show Bool.noConfusion h
 |_=>show Bool.noConfusion h
theorem pL{m:BM}{v:Value}(r:W.Rep B d v)(hm:ui m=0)(h:lC m d J=true):∃l t,v=.str (sv l) t:=by
 cases d with
 |str l=>(show d6 r.inv ?_;rintro _ rfl _);show⟨_,_,rfl⟩
 |loc i=>
  have h:Nat.beq (ui m) (td J[i]?)=true:=h;rw[hm] at h;show(L2 h).elim
 |sdct=>rw[show lC m _ J=Nat.beq (ui m) 2 from rfl,hm] at h;show Bool.noConfusion h
 |_=>show Bool.noConfusion h
theorem Mi{m:BM}{v:Value}{pl:Sem Bool}{Q:Value×List Value->Shared->Prop}(hI:ef B stk W J s.heap)(r:W.Rep B d v)(h:lC m d J=true)(hq:Q (.builtin (IP m),[v]) s):wpAny B.M A (getMethod v (Ff m) pl) Q E s:=by
 have onList:∀{k:Nat} {name:Str} {id:String},W.Rep B (.loc k) v->(∃xs,J[k]?=some (.lst xs))->Slot "list" name id->typeOf (.builtin id)=pure (.type "method_descriptor")->Q (.builtin id,[v]) s->wpAny B.M A (getMethod v name pl) Q E s:=by
  intro k name id r ⟨xs,e⟩ sl ty hq;obtain⟨a,o,rfl,h1,h2,items,n,rfl,h4,h5⟩:=Rep.isLoc hI r e;show getMethod_builtin (jK h2).typeIs F.plainAttrs_list sl ty (λb e=>by injection e with e;subst e;show⟨_,h2,rfl⟩) hq
 have onList':∀{name:Str} {id:String},(∃k xs,d=.loc k/\J[k]?=some (.lst xs))->Slot "list" name id->typeOf (.builtin id)=pure (.type "method_descriptor")->Q (.builtin id,[v]) s->wpAny B.M A (getMethod v name pl) Q E s:=by
  intro name id ⟨k,xs,e1,e2⟩ sl ty hq;clear h;subst e1;show onList r ⟨xs,e2⟩ sl ty hq
 have onDict:∀{T:Type} [DecidableEq T] {knd:KeyKind pw B.w T} {a:Addr} {vs:List (T×Value)},v=.ref a->s.heap.DictOf knd a vs->Q (.builtin "dict.get",[v]) s->wpAny B.M A (getMethod v "get" pl) Q E s:=by
  intro T _ knd a vs e hd hq;show getMethod_builtin (T:= "dict") (by rwa[e];show hd.typeIs) F.plainAttrs_dict F.slot_dict_get F.type_dict_get (λb e'=>?_) hq;rw[e] at e';injection e' with e';subst e'
  show hd.mapOf.noDict _ rfl
 cases m
 case find=>show jb (pL r rfl h) ?_;clear r onList onList' onDict;rintro _ _ rfl;show GM.find hq
 case lower=>show jb (pL r rfl h) ?_;clear r onList onList' onDict;rintro _ _ rfl;show GM.lower hq
 case upper=>show jb (pL r rfl h) ?_;clear r onList onList' onDict;rintro _ _ rfl;show GM.upper hq
 case strip=>show jb (pL r rfl h) ?_;clear r onList onList' onDict;rintro _ _ rfl;show GM.strip hq
 case split=>show jb (pL r rfl h) ?_;clear r onList onList' onDict;rintro _ _ rfl;show GM.split hq
 case join=>show jb (pL r rfl h) ?_;clear r onList onList' onDict;rintro _ _ rfl;show GM.join hq
 case append=>show zu h λe=>onList' e F.slot_list_append F.type_list_append hq
 case pop=>show zu h λe=>onList' e F.slot_list_pop F.type_list_pop hq
 case reverse=>show zu h λe=>onList' e F.slot_list_reverse F.type_list_reverse hq
 case remove=>show zu h λe=>onList' e F.slot_list_remove F.type_list_remove hq
 case get=>
  clear onList';cases d
  case sdct kvs=>
   show ym (Rep.isSdct hI r) λa vs e hd _ _=>?_
   show onDict e hd hq
  case loc k=>
   show fv (Nk h) λ_ e=>?_
   ·obtain⟨a,o,e1,h1,h2,vs,h3,h4⟩:=Rep.isLoc hI r e;show onDict e1 (Heap.dictOf_iff.mpr ⟨o,h2,h3⟩) hq
  all_goals show Bool.noConfusion h
end
section
variable{stk:List Env}
theorem C3{f:Obj->Obj}(e:h.get? a=some o)(hf:(f o).isFreed=false):Heap.SameBut a h (h.update a f)/\(h.update a f).get? a=some (f o):=
 ⟨⟨Heap.size_update _ _ _,λ_ hb=>Heap.get?_update_other h f (Ne.symm hb)⟩,Heap.get?_update_self f e hf⟩
theorem lU{its:Array Value}{ys:List V}{f:Array Value->Array Value}{v:Value}{P:Wd->Hp->Value->Prop}(hI:ef B stk W J s.heap)(ea:W.ι[k]?=some a)(ho:s.heap.get? a=some (eZ items n))(hf:f items=its)(r:W.RepL B ys its.toList)(z:ys.length<=eh)(h:P W (J.set k (.lst ys)) v):
  mm B stk W s P v {s with heap:=s.heap.update a (Obj.mapSeq f)}:=by
 have e:Obj.mapSeq f (eZ items n)=eZ its (if its.size==items.size then n else n+1):=by clear r;subst hf;rfl
 obtain⟨h1,h2⟩:=C3 (f:=Obj.mapSeq f) ho (by rwa[e];rfl);rw[e] at h2;show qM (n:=s.toks) (y:=.lst ys) hI h1 ea h2 ⟨_,_,rfl,r,z⟩ h
theorem En(items:Array Value):(items.eraseIdxIfInBounds (items.size-1)).toList=items.toList.dropLast:=by
 unfold Array.eraseIdxIfInBounds
 split
 ·show d4 Array.toList_eraseIdx (d4 List.eraseIdx_length_sub_one.symm (d4 Array.length_toList rfl))
 ·rename_i h;have:items.toList=[]:=by rwa[(propext List.length_eq_zero_iff).symm,Array.length_toList];omega
  rwa[this];rfl
theorem eT.dropLast{R:α->β->Prop}{l:List α}{l':List β}(h:eT R l l'):eT R l.dropLast l'.dropLast:=by
 induction h with
 |nil=>show .nil
 |cons h t ih=>
  cases t with
  |nil=>show .nil
  |cons=>show .cons h ih
theorem eT.last{R:α->β->Prop}{l:List α}{l':List β}{a:α}(h:eT R l l')(e:l.getLast?=some a):∃b,l'.getLast?=some b/\R a b:=by
 induction h with
 |nil=>injection e
 |cons h t ih=>
  cases t with
  |nil=>(injection e with e;subst e);show⟨_,rfl,h⟩
  |cons=>show ih e
theorem IA{x:Str}:∀{items:List Value} {ls:List Str} {i:Nat},StrsAre items ls->ls.idxOf? x=some i->StrsAre (items.eraseIdx i) (ls.erase x):=by
 intro items ls i h e
 induction h generalizing i with
 |nil=>show nomatch e
 |cons y t r ih=>
  by_cases h:y=x
  ·rw[List.idxOf?_cons,if_pos (by simpa using h)] at e;injection e with e;subst e
   rwa[h,List.erase_cons_head ..];show r
  ·rw[List.idxOf?_cons] at e;rw[if_neg (by simpa using h)] at e;show d6 (Option.map_eq_some_iff.mp e) λj e1 e2=>?_
   clear e;subst e2;rwa[List.erase_cons_tail (by simpa using h)];show .cons y t (ih e1)
theorem u7{items:List Value}{ls:List Str}(h:StrsAre items ls):∀{i:Nat} {v:Value},items[i]?=some v->∃y t,ls[i]?=some y/\v=.str y t:=by
 induction h with
 |nil=>intro i v e;simp at e
 |cons y t _ ih=>
  intro i v e;cases i with
  |zero=>simp at e;show⟨y,t,by simp,e.symm⟩
  |succ i=>simp at e;show lx (ih e) λy' t' e1 e2=>?_;show⟨y',t',by simpa using e1,e2⟩
theorem Cs{items:List Value}{ls:List Str}(h:StrsAre items ls):items.length=ls.length:=by
 induction h with
 |nil=>rfl
 |cons y t _ ih=>simp[ih]
theorem Bf:∀{vs:List Value},StrsAre vs (ls.map sv)->(∀y∈ls,gd y)->W.RepL B (ls.map .str) vs:=by
 induction ls with
 |nil=>intro vs h _;cases h;show .nil
 |cons a l ih=>
  intro vs h k;cases h with
  |cons y t h=>show .cons (.str (k a (.head _))) (ih h λy m=>k y (.tail _ m))
theorem uq:∀(l:List (Str×Tok)),StrsAre (strValues l) (l.map (·.1))
 |[]=> .nil
 |(x,t)::r=> .cons x t (uq r)
theorem HF{x:List Nat}:∀{ls:List (List Nat)},(ls.map sv).erase (sv x)=(ls.erase x).map sv:=by
 intro ls
 induction ls with
 |nil=>rfl
 |cons a l ih=>
  by_cases h:a=x
  ·clear ih;subst h;simp
  ·obtain h':sv a≠sv x:=λe=>h (lh e)
   rwa[List.map_cons,List.erase_cons_tail (by simpa using h'),ih,List.erase_cons_tail (by simpa using h)];rfl
theorem qQ{lv:List (Str×Tok)}(hI:ef B stk W J s.heap)(hl:gd l)(z:l.length<=1000000)(e:lv.map (·.1)=Txt.split (sv l) (sv [c]))(h:Q (.lst ((fC c l).map .str)) J):
  wants (mm B stk W s (RV B Q)) (λ_ _=>False) (.ok (.ret (.ref s.heap.objs.size))) {s with toks:=k,heap:=s.heap.push {cls:=.type "list",data:=.seq (strValues lv).toArray}}:=by
 show jS hI ⟨_,.lst (kN ..) ?_ ?_,h⟩
 ·show Bf ?_ λy m=>Fd hl m
  show StrsAre (strValues lv) _;obtain this:(fC c l).map sv=lv.map (·.1):=by
   rwa[e];unfold fC;rwa[List.map_map];show(List.map_congr_left λa _=>tI a).trans (List.map_id _)
  rwa[this];show uq _
 ·rwa[List.length_map ..];obtain this:=E7 (c:=c) (l:=l);unfold eh;lia
theorem Gg{t u:Tok}(hI:ef B stk W J s.heap)(hl:gd l)(z:l.length<=1000000)(h:Q (.lst ((fC c l).map .str)) J):
  d5 B A stk W s (call (.builtin "str.split") [.str (sv l) t,.str (sv [c]) u]) (RV B Q) X:=by
 obtain zl:(sv l).length<=1000000:=by rwa[gb ..];show z
 obtain z24:sizeLine=16777216:=gm;obtain hn:(partsBetween (sv l) (occurrences (sv l) (sv [c]) 0 (sv l).length ((sv l).length+1)) (sv [c]).length).length<=sizeLine:=by
  obtain e1:=StrLaws.occ_length_le (sv l) (sv [c]) 0 (sv l).length ((sv l).length+1);rwa[length_partsBetween ..];lia
 have hy:((sv [c]).length==0)=false:=rfl;cases h1:(decide ((sv l).length<(sv [c]).length)||decide (strKind (sv l)<strKind (sv [c])))
 ·cases hf:(occurrences (sv l) (sv [c]) 0 (sv l).length ((sv l).length+1)).isEmpty
  ·show call_meets F.slot_str_split (typeIs_str _ _ _) F.entry_str_split (F.args_str_split_2 _ _) (meets_str_split_sep (sv l) (sv [c]) t u h1 hy hf (fY ‹_› rfl) hn) ?_;show wants _ _ _ {s with toks:=_,heap:=s.heap.push {cls:=.type "list",data:=.seq (strsFrom s.toks (partsBetween (sv l) (occurrences (sv l) (sv [c]) 0 (sv l).length ((sv l).length+1)) (sv [c]).length)).toArray}}
   rwa[strsFrom_eq ..];show qQ hI hl z ((numbered_texts _ _).trans ((if_neg (ne_true_of_eq_false h1)).trans (if_neg (ne_true_of_eq_false hf))).symm) h
  ·show call_meets F.slot_str_split (typeIs_str _ _ _) F.entry_str_split (F.args_str_split_2 _ _) (meets_str_split_not_found (sv l) (sv [c]) t u h1 hy hf)
    (qQ (k:=s.toks) (lv:=[(sv l,t)]) hI hl z ((if_neg (ne_true_of_eq_false h1)).trans (if_pos hf)).symm h)
 ·show call_meets F.slot_str_split (typeIs_str _ _ _) F.entry_str_split (F.args_str_split_2 _ _) (meets_str_split_cannot_occur (sv l) (sv [c]) t u h1)
   (qQ (k:=s.toks) (lv:=[(sv l,t)]) hI hl z (if_pos h1).symm h)
end
section
variable{stk:List Env}
theorem ND(a:eW l)(h:gd l):Txt.lower (sv l)=sv (l.map lo1)/\gd (l.map lo1):=by
 show⟨?_,by rwa[List.length_map ..];show h.1,?_⟩
 ·rwa[lower_ascii (x:=sv l) a];unfold sv;show d4 List.map_toArray rfl
 ·intro c m;show d6 (List.mem_map.mp m) ?_;clear m;rintro d hd rfl;obtain this:=a d hd;unfold lo1;split<;>lia
theorem Nl(a:eW l)(h:gd l):Txt.upper (sv l)=sv (l.map up1)/\gd (l.map up1):=by
 show⟨?_,by rwa[List.length_map ..];show h.1,?_⟩
 ·rwa[upper_ascii (x:=sv l) a];unfold sv;show d4 List.map_toArray rfl
 ·intro c m;show d6 (List.mem_map.mp m) ?_;clear m;rintro d hd rfl;obtain this:=a d hd;unfold up1;split<;>grind
theorem yq(h:n<=1000000):tooLong n=false:=by
 unfold tooLong;obtain this:=gm;unfold eh at this;simp;show fY ‹_› rfl
theorem Az{sep:List Nat}{t:Tok}(hI:ef B stk W J s.heap)(hs:gd sep)(ho:s.heap.get? a=some (eZ items n))(r:W.RepL B xs items.toList)(e:iZ xs=some ls)(h1:gU sep ls<=eh)(h:Q (.str (iW sep ls)) J):d5 B A stk W s (call (.builtin "str.join") [.str (sv sep) t,.ref a]) (RV B Q) X:=by
 show gp (AR e r) λq1 q2 q3=>?_
 show join_list (jK ho) q1 ?_ λt' k=>eM hI ⟨.str (iW sep ls),?_,h⟩
 ·rwa[List.length_map ..,gb ..,List.map_map];obtain e2:ls.map ((λx=>x.length)∘sv)=ls.map List.length:=List.map_congr_left λa _=>gb a
  obtain e3:(List.map ((λx:Str=>x.length)∘sv) ls).sum=(ls.map List.length).sum:=by show d4 e2 rfl
  show Nat.le_trans (Nat.le_of_eq (congrArg (·+ls.length*sep.length) e3)) h1
 ·obtain this:Txt.join (sv sep) (ls.map sv)=sv (iW sep ls):=(tI _).symm;rwa[this];show .str (HJ hs q2 h1)
theorem Ny{T:Type}[DecidableEq T]{knd:KeyKind pw B.w T}{k:T}{vs:List (T×Value)}{key:Value}{x:Option V}{P:V->Hp->Prop}(hI:ef B stk W J s.heap)(hk:knd.is k key=true)(hd:s.heap.DictOf knd a vs)(nm:(a==sysModules)=false)(hf:∀y,x=some y->∃v,valueAt vs k=some v/\W.Rep B y v)(hn:x=none->valueAt vs k=none)(h:P (x.getD .none) J):d5 B A stk W s (call (.builtin "dict.get") [.ref a,key]) (RV B P) X:=by
 show call_meetsIn F.slot_dict_get hd.typeIs F.entry_dict_get (F.args_dict_get_2 _ _) (meets_dict_get knd a hk nm) ⟨_,hd.mapOf,?_⟩;show eM hI ⟨_,?_,h⟩;cases x with
 |none=>rwa[hn rfl];show .none
 |some y=>show d6 (hf y rfl) λv e r=>?_;rwa[e];show r
theorem CB{T:Type}[DecidableEq T]{knd:KeyKind pw B.w T}{k:T}{vs:List (T×Value)}{key dv:Value}{x:Option V}{P:V->Hp->Prop}(hI:ef B stk W J s.heap)(hk:knd.is k key=true)(hd:s.heap.DictOf knd a vs)(nm:(a==sysModules)=false)(rd:W.Rep B d dv)(hf:∀y,x=some y->∃v,valueAt vs k=some v/\W.Rep B y v)(hn:x=none->valueAt vs k=none)(h:P (x.getD d) J):d5 B A stk W s (call (.builtin "dict.get") [.ref a,key,dv]) (RV B P) X:=by
 show call_meetsIn F.slot_dict_get hd.typeIs F.entry_dict_get (F.args_dict_get_3 _ _ _) (meets_dict_get_default knd a hk nm dv) ⟨_,hd.mapOf,?_⟩;show eM hI ⟨_,?_,h⟩;cases x with
 |none=>rwa[hn rfl];show rd
 |some y=>show d6 (hf y rfl) λv e r=>?_;rwa[e];show r
theorem u2{kx:Option V}{vx:Option Value}(h:(∃d u,kx=some d/\vx=some u/\W.Rep B d u)\/(kx=none/\vx=none)):(∀y,kx=some y->∃v,vx=some v/\W.Rep B y v)/\(kx=none->vx=none):=by
 rcases h with⟨d,u,e1,e2,r⟩|⟨e1,e2⟩
 ·show⟨λy e=>by rw[e1] at e;injection e with e;subst e;show⟨u,e2,r⟩,λe=>by rw[e1] at e;injection e⟩
 ·show⟨λy e=>(by rw[e1] at e;injection e),λ_=>e2⟩
noncomputable def SM(x:Str):Value->Bool
 |.str z _=>z==x
 |_=>false
theorem EZ{x:Str}:∀{l:List Str} {j:Nat},l.idxOf? x=some j->j<l.length/\l[j]?=some x/\∀k,k<j->l[k]?≠some x:=by
 intro l
 induction l with
 |nil=>intro j e;show nomatch e
 |cons a l ih=>
  intro j e;rw[List.idxOf?_cons] at e
  by_cases q:a=x
  ·rw[if_pos (by simpa using q)] at e;injection e with e;subst e
   show⟨by simp,by simp[q],λk h=>absurd h (Nat.not_lt_zero _)⟩
  ·rw[if_neg (by simpa using q)] at e;show d6 (Option.map_eq_some_iff.mp e) λi e1 e2=>?_
   clear e;subst e2;show gp (ih e1) λh1 h2 h3=>?_
   show⟨by simp;assumption,by simpa using h2,λk h=>?_⟩;cases k with
   |zero=>simpa using q
   |succ k=>simpa using h3 k (Nat.le_of_lt_succ ‹_›)
theorem Gs(items:Array Value)(j:Nat):(items.eraseIdxIfInBounds j).toList=items.toList.eraseIdx j:=by
 unfold Array.eraseIdxIfInBounds
 split
 ·show d4 Array.toList_eraseIdx rfl
 ·rw[List.eraseIdx_of_length_le];rwa[Array.length_toList];show Nat.le_of_not_lt ‹_›
theorem NG{m:BM}{o:V}{ds:List V}{v:Value}(hI:ef B stk W J s.heap)(ro:W.Rep B o v)(r:W.RepL B ds vs)(h:gq m o ds J Q):
  d5 B A stk W s (call (.builtin (IP m)) (v::vs)) (RV B Q) X:=by
 cases m with
 |find=>
  apply iH h ro;intro l _ hl h;apply wt h r
  ·intro a v r1 h;apply iH h r1;intro x _ _ h;show SC.find (eM hI ⟨_,.int,h⟩)
  ·intro a v b u r1 r2 h;apply iH h r1;intro x _ _ h;apply gZ h r2;intro i _ h;show gp h λh1 h2 g3=>?_
   show call_gives F.slot_str_find (typeIs_str _ _ _) F.entry_str_find (F.args_str_find_3 _ _ _) (gives_str_find_from _ _ _ _ _ _) (eM hI ⟨_,.int,?_⟩);have e:∀n,fromIndex n i=i.toNat:=by
    intro n;unfold fromIndex;rwa[if_neg (Int.not_lt.mpr ‹_›)];congr 1;lia
   rwa[e ..,gb ..];show g3
 |lower=>
  apply iH h ro;intro l _ hl h;apply zJ h r;intro h;show fx (ND h.1 hl) λe1 e2=>?_
  show SC.lower (by rwa[e1,gb ..,List.length_map ..];show yq h.2.1) (eM hI ⟨.str _,?_,h.2.2⟩);rwa[e1];show .str e2
 |upper=>
  apply iH h ro;intro l _ hl h;apply zJ h r;intro h;show fx (Nl h.1 hl) λe1 e2=>?_
  show SC.upper (by rwa[e1,gb ..,List.length_map ..];show yq h.2.1) (eM hI ⟨.str _,?_,h.2.2⟩);rwa[e1];show .str e2
 |strip=>
  apply iH h ro;intro l _ hl h;apply ll h r;intro a v r1 h;apply iH h r1;intro x _ _ h;show SC.stripChars (λt' k=>eM hI ⟨_,?_,h⟩) (by rwa[gm,gb ..];show hl.1);rwa[(tI (Txt.stripChars _ _)).symm];show .str (F2 hl)
 |split=>
  apply iH h ro;intro l _ hl h;apply ll h r;intro a v r1 h;apply iH h r1;intro x _ _ h;show d6 (Af h) ?_;rintro c rfl h;show Gg hI hl h.1 h.2
 |join=>
  apply iH h ro;intro l _ hl h;apply ll h r;intro a v r1 h;cases a with
  |lst x=>
   show d6 (fw h) λls e h=>?_
   apply zE hI r1;intro a items n h4 hl2 h5 h6;show Az hI hl hl2 h4 e h.1 h.2
  |loc k=>
   show d6 r1.inv ?_;clear r1;rintro a rfl he;show nW hI he h λx items n h2 h4 h5 h6 h=>?_
   show d6 (fw h) λls e h=>?_
   show Az hI hl h2 h4 e h.1 h.2
  |_=>show False.elim h
 |append=>
  apply pD h ro;intro k a he h;apply ll h r;intro d v r1 h;show nW hI he h λl items n h2 h4 h5 h6 h=>?_
  have z:items.size<=1000000:=by rwa[h6];show h.1
  show call_meets F.slot_list_append (jK h2).typeIs F.entry_list_append (F.args_list_append_2 _ _) (AutoListH.list_append_list_val_0 a items n _ (by rwa[gm];unfold eh;show fY ‹_› rfl)) ⟨h2,?_⟩;show lU hI he h2 rfl ?_ ?_ ⟨_,.none,h.2⟩
  ·rwa[Array.toList_push];show h4.append (.cons r1 .nil)
  ·rwa[List.length_append,h4.length,Array.length_toList];unfold eh;simp;show fY ‹_› rfl
 |pop=>
  apply pD h ro;intro k a he h;apply zJ h r;intro h;show nW hI he h λl items n h2 h4 h5 h6 h=>?_
  show d6 (fw h) λd e2 h=>?_
  show d6 (eT.last h4 e2) λy ey ry=>?_
  show call_meets F.slot_list_pop (jK h2).typeIs F.entry_list_pop (F.args_list_pop_1 _) (MeetsSeq.list_pop_last a items n y ?_ (by rwa[gm,h6];show h5)) ⟨h2,?_⟩
  ·rw[List.getLast?_eq_getElem?] at ey;rwa[Array.getElem?_toList.symm];show ey
  ·show lU hI he h2 rfl (by rwa[En ..];show h4.dropLast) (by rwa[List.length_dropLast];show Nat.le_trans (Nat.sub_le ..) ‹_›) ⟨_,ry,h⟩
 |reverse=>
  apply pD h ro;intro k a he h;apply zJ h r;intro h;show nW hI he h λl items n h2 h4 h5 h6 h=>?_
  show call_meets F.slot_list_reverse (jK h2).typeIs F.entry_list_reverse (F.args_list_reverse_1 _) (AutoSeq1.list_reverse_list_0 a items n (by rwa[gm,h6];show h5)) ⟨h2,?_⟩;show lU hI he h2 rfl (by rwa[Array.toList_reverse];show h4.reverse) (by rwa[List.length_reverse];show h5) ⟨_,.none,h⟩
 |remove=>
  apply pD h ro;intro k a he h;apply ll h r;intro d v r1 h;apply iH h r1;intro x _ _ h;show nW hI he h λl items n h2 h4 h5 h6 h=>?_
  show kQ (fw h) λls e2 hm g=>?_
  obtain hz:items.size<=eh:=by rwa[h6];show h5
  show gp (AR e2 h4) λq1 q2 q3=>?_
  obtain⟨j,hj⟩:∃j,(ls.map sv).idxOf? (sv x)=some j:=by
   cases q:(ls.map sv).idxOf? (sv x) with
   |some j=>show⟨j,rfl⟩
   |none=>show absurd (List.mem_map_of_mem hm) (List.idxOf?_eq_none_iff.mp q)
  have e3:=IA q1 hj;rw[HF] at e3;have r3:=Bf (B:=B) (W:=W) e3 λy m=>q2 y (List.mem_of_mem_erase m)
  show gp (EZ hj) λg1 g2 g3=>?_
  have zl:items.size=(ls.map sv).length:=by rwa[Array.length_toList.symm];show Cs q1
  show call_meets F.slot_list_remove (jK h2).typeIs F.entry_list_remove (F.args_list_remove_2 _ _) (MeetsSeq.list_remove a items n _ (SM (sv x)) (λy my=>?_) j (by rwa[zl];show g1) ?_ (λk hk lt=>?_) (by rwa[gm];show hz)) ⟨h2,?_⟩
  ·obtain⟨i,hi,ei⟩:=List.getElem_of_mem (Array.mem_toList_iff.mpr my);show lx (u7 q1 (by show d4 (List.getElem?_eq_getElem hi) (d4 ei rfl))) ?_;clear my ei;rintro z tz _ rfl;show eqGives_str _ _ _ _
  ·show lx (u7 q1 (i:=j) (v:=items[j]'(by rwa[zl];show g1)) (by rwa[Array.getElem?_toList];show Array.getElem?_eq_getElem _)) λz tz hz1 hz2=>?_
   rwa[hz2];rw[g2] at hz1;injection hz1 with hz1;clear hz2;subst hz1
   show beq_self_eq_true _
  ·show lx (u7 q1 (i:=k) (v:=items[k]) (by rwa[Array.getElem?_toList];show Array.getElem?_eq_getElem _)) λz tz hz1 hz2=>?_
   rwa[hz2];have:=g3 k lt;rw[hz1] at this;show(z==sv x)=false
   simpa using this
  ·show lU hI he h2 rfl (by rwa[Gs ..];show r3) ?_ ⟨_,.none,g⟩;rwa[r3.length,List.length_eraseIdx]
   split<;>(have e9:=Array.length_toList (xs:=items);lia)
 |get=>
  cases o with
  |sdct kvs=>
   apply wt h r
   ·intro _ _ _ h;show False.elim h
   intro a v d u r1 r2 h;apply iH h r1;intro x _ _ h;show ym (Rep.isSdct hI ro) ?_;clear ro;rintro a vs rfl hd hr nm;show fx (u2 (lJ hr x)) λf1 f2=>?_
   show CB hI (strKind_is ..) hd nm r2 f1 f2 h
  |loc l=>
   show d6 ro.inv ?_;clear ro;rintro a rfl he;show AY hI he h λkvs vs hd hr nm h=>?_
   apply wt h r
   ·intro a v r1 h;apply gZ h r1;intro x _ h;show fx (u2 (tP hr x)) λf1 f2=>?_
    show Ny hI (intKind_is ..) hd nm f1 f2 h
   ·intro a v d u r1 r2 h;apply gZ h r1;intro x _ h;show fx (u2 (tP hr x)) λf1 f2=>?_
    show CB hI (intKind_is ..) hd nm r2 f1 f2 h
  |_=>show False.elim h
end
end
section
open PySem PySem.W PyProof.Rows PySem.Builtin
noncomputable def jO:BF->Str
 |.len=> "len" |.str=> "str" |.sum=> "sum" |.min=> "min" |.chr=> "chr" |.ord=> "ord" |.range=> "range"
def Ib(B:eD)(a:Addr):Prop:=∃o fd,B.h₀.get? a=some o/\o.data=.func fd
def Mu(B:eD)(C:Addr):Prop:=∃o cd,B.h₀.get? C=some o/\o.cls=.type "type" /\o.data=.cls cd
structure o6(B:eD):Prop where
 glob:∀(i:Nat) (n:List Nat) (d:V),Gt[i]?=some (n,d)->∃v,B.mg (sv n)=some v/\Rep B B.h₀.get? [] d v
 noglob:∀f:BF,B.mg (jO f)=none
 callee:∀(i:Nat) (n:List Nat) (a:Addr),Gt[i]?=some (n,.stat a)->Ib B a\/Mu B a
 methods:∀r∈mR,Ib B r.2.2
section
variable{stk:List Env}{fr:Fx}
theorem Kr:∀f:BF,bootBuiltins (jO f)=some (Ha f):=by
 intro f;cases f<;>(unfold bootBuiltins;ac_rfl)
theorem KD:∀f:BF,jO f≠ "__name__" :=by
 intro f;cases f<;>decide+kernel
theorem ef.globals(G:o6 B)(hI:ef B stk W J s.heap){n:List Nat}(e:Gt[i]?=some (n,d)):∃v,B.mg (sv n)=some v/\W.Rep B d v:=by
 show d6 (G.glob i n d e) λv e1 r=>?_
 show⟨v,e1,r.mono hI.base λl a e=>by simp at e⟩
theorem yv{x:Str}{P:Wd->Hp->Value->Prop}(hI:ef B stk W J s.heap)(ok:jy fr)(hF:fX B fr W U s.heap)(hn:fr.names[i]?=some x)(e:U[i]?=some (some d))(h:∀v,W.Rep B d v->P W J v):
  d5 B A stk W s (loadName fr.env x) P X:=by
 show jb hF λm cm F=>?_
 show jE (F.vars i d e) λy v e1 e2 r=>?_
 rw[hn] at e1;injection e1 with e1;subst e1
 show gp (ok.kinds x (List.mem_of_getElem? hn)) λhk hd hc=>?_
 unfold jD at e2;rcases hk with hk|⟨hk,hs⟩
 ·rw[if_pos hk] at e2;show wpAny_loadName_local ok.kind hk F.ns e2 (eR hI (h _ r))
 ·show fv (Option.isSome_iff_exists.mp hs) λc hl=>?_
  rw[if_neg (by rcases hk with hk|hk<;>rw[hk]<;>show dt rfl)] at e2;show fx (F.cell x c hl) λhc1 _=>?_
  rw[e2] at hc1;rcases hk with hk|hk
  ·show wpAny_loadName_cell ok.kind hk hl hc1 (eR hI (h _ r))
  ·show wpAny_loadName_free ok.kind hk hl hc1 (eR hI (h _ r)) hc
theorem q8{x:Str}{v:Value}{P:Wd->Hp->Value->Prop}(hI:ef B stk W J s.heap)(ok:jy fr)(hk:fr.env.kindOf x=some .globalImplicit)(e:B.mg x=some v)(h:P W J v):
  d5 B A stk W s (loadName fr.env x) P X:=
 ks_loadName_global ok.kind hk (Calls.loadGlobal_global (mg:=B.mg) (by rwa[ok.glob];show hI.ns B.g) e (eR hI h))
theorem Cr{f:BF}{P:Wd->Hp->Value->Prop}(G:o6 B)(hI:ef B stk W J s.heap)(ok:jy fr)(hk:fr.env.kindOf (jO f)=some .globalImplicit)(h:P W J (Ha f)):
  d5 B A stk W s (loadName fr.env (jO f)) P X:=
 ks_loadName_global ok.kind hk (Calls.loadGlobal_builtin (mg:=B.mg) (mb:=B.mb) (by rwa[ok.glob];show hI.ns B.g) (G.noglob f) (by rwa[ok.blt];show hI.ns B.b) (by rwa[B.builtins _ (KD f)];show Kr f) (eR hI h))
theorem nS{x:Str}{P:Wd->Hp->Value->Prop}(hd:(x==("__debug__" :Str))=false)(h:d5 B A stk W s (loadName fr.env x) P X):d5 B A stk W s (eval (.Name x pos) fr.env) P X:=wpAny_Name h hd
theorem zW{ds:List V}(hI:ef B stk W J s.heap)(r:W.RepL B ds vs)(z:ds.length<=eh)(h:Q (.tup ds) J):d5 B A stk W s (newTuple vs) (RV B Q) X:=by
 show wpAny_newTuple (jS hI ⟨_,.tup (kN ..) ?_ z,h⟩ rfl) (by rw[<-r.length,gm];show z);show(eA.frz (S:=[]) hI _).repL r
theorem zP{ds:List V}(hI:ef B stk W J s.heap)(r:W.RepL B ds vs)(z:ds.length<=eh)(h:Q (.lst ds) J):d5 B A stk W s (newList vs) (RV B Q) X:=by
 show wpAny_newList (jS hI ⟨_,.lst (kN ..) ?_ z,h⟩ rfl) (by rwa[r.length.symm,gm];show z);show(eA.frz (S:=[]) hI _).repL r
theorem vj{v:α}{y:fA}{P:Wd->Hp->α->Prop}(hI:ef B stk W J s.heap)(hr:jv B (W.trk s.heap.objs.size) y o)(h:P (W.trk s.heap.objs.size) (J++[y]) v)(hf:o.isFreed=false:=by rfl):
  mm B stk W s P v {s with heap:=s.heap.push o,toks:=n}:=
 ⟨_,_,.trk hI o,hI.trk hf hr,⟨rfl,rfl⟩,h⟩
theorem An(hI:ef B stk W J s.heap):(W.trk s.heap.objs.size).ι[J.length]?=some s.heap.objs.size:=by
 unfold Wd.trk;dsimp only;rwa[hI.len.symm,List.getElem?_append_right (Nat.le_refl _)];simp
theorem BQ{ds:List V}(hI:ef B stk W J s.heap)(r:W.RepL B ds vs)(z:ds.length<=eh)(h:Q (.loc J.length) (J++[.lst ds])):d5 B A stk W s (newList vs) (RV B Q) X:=by
 show wpAny_newList (vj (y:=.lst ds) hI ⟨_,0,rfl,?_,z⟩ ⟨_,.loc (An hI),h⟩ rfl) (by rw[<-r.length,gm];show z);show(eA.trk (S:=[]) hI (eZ vs.toArray 0)).repL r
end
section
variable{stk:List Env}{fr:Fx}
theorem ef.adopt(x:ef B stk W J h){y:fA}(ho:h.get? a=some o)(nF:W.F a=none)(aN:a∉W.ι)(low:B.h₀.objs.size<=a)(nf:a∉frs stk)(r:jv B (W.trk a) y o):
  ef B stk (W.trk a) (J++[y]) h where
 base:=x.base
 frozen:=x.frozen
 len:=by simp[Wd.trk,x.len]
 nodup:=by
  unfold Wd.trk;dsimp only;rw[List.nodup_append];show⟨x.nodup,by simp,?_⟩;intro b m c m';rw[List.mem_singleton] at m';subst m';intro q;clear ho nF low nf r;subst q;show aN m
 sep b m:=by
  unfold Wd.trk at m ⊢;dsimp only at m ⊢;rcases List.mem_append.mp m with m|m
  ·show x.sep b m
  ·rw[List.mem_singleton] at m;clear ho aN low nf r;subst m;show nF
 low b m:=by
  unfold Wd.trk at m;dsimp only at m;rcases List.mem_append.mp m with m|m
  ·show x.low b m
  ·rw[List.mem_singleton] at m;clear ho nF aN nf r;subst m;show low
 size:=x.size
 objs l z b e1 e2:=by
  unfold Wd.trk at e2;dsimp only at e2
  by_cases q:l<J.length
  ·rw[List.getElem?_append_left q] at e1;rw[List.getElem?_append_left (by rw[x.len];show q)] at e2;show d6 (x.objs l z b e1 e2) λob e r=>?_
   show⟨ob,e,jv.mono (W:=W) (W':=W.trk a) (λd v q=>Rep.mono (λ_ _ q=>q) ?_ q) r⟩;intro i b w;unfold Wd.trk;dsimp only;rw[List.getElem?_append_left (List.getElem?_eq_some_iff.mp w).1];show w
  ·have hl:=(List.getElem?_eq_some_iff.mp e1).1;obtain this:l=J.length:=by simp at hl;lia
   clear q hl;subst this;rw[List.getElem?_append_right (Nat.le_refl _)] at e1;rw[<-x.len,List.getElem?_append_right (Nat.le_refl _)] at e2;simp at e1 e2;subst e1 e2;show⟨o,ho,r⟩
 frames env m:=by
  obtain⟨k,L,ob,e1,e2,e3,e4,e5⟩:=x.frames env m;show⟨k,L,ob,e1,e2,e3,e4,?_⟩;unfold Wd.trk;dsimp only;intro q;rcases List.mem_append.mp q with q|q
  ·show e5 q
  ·rw[List.mem_singleton] at q;clear ho nF aN low r;subst q;show nf (List.mem_filterMap.mpr ⟨env,m,e1⟩)
theorem ef.settle(x:ef B stk W J h)(ho:h.get? a=some o)(nF:W.F a=none)(aN:a∉W.ι)(nf:a∉frs stk):ef B stk (W.frz a o) J h where
 base b c e:=by
  have:=x.base b c e;unfold Wd.frz;dsimp only;rw[if_neg];show this;intro q;rw[q,nF] at this;injection this
 frozen b c e:=by
  unfold Wd.frz at e;dsimp only at e
  split at e
  ·rename_i q;clear nF aN nf;subst q;injection e with e;subst e;show ho
  ·show x.frozen b c e
 len:=x.len
 nodup:=x.nodup
 sep b m:=by
  unfold Wd.frz;dsimp only;rw[if_neg];show x.sep b m;intro q;clear ho nF nf;subst q;show aN m
 low:=x.low
 size:=x.size
 objs l y b e1 e2:=by
  show d6 (x.objs l y b e1 e2) λob e r=>?_
  show⟨ob,e,jv.mono (W:=W) (W':=W.frz a o) (λd v q=>Rep.mono ?_ (λ_ _ q=>q) q) r⟩;intro c o' q;unfold Wd.frz;dsimp only;rw[if_neg];show q;intro q';clear ho aN nf e2;subst q';rw[nF] at q;injection q
 frames env m:=by
  obtain⟨k,L,ob,e1,e2,e3,e4,e5⟩:=x.frames env m;show⟨k,L,ob,e1,e2,e3,?_,e5⟩;unfold Wd.frz;dsimp only;rw[if_neg];show e4;intro q;clear ho nF aN;subst q;show nf (List.mem_filterMap.mpr ⟨env,m,e1⟩)
theorem eA.adopt{S:List Addr}(x:eA S W h W' h')(n:h.get? a=none)(s:Heap.SameBut a h' h''):eA S W h (W'.trk a) h'' where
 F:=x.F
 ι:=x.ι.trans (List.prefix_append _ _)
 newι b m k:=by
  unfold Wd.trk at m;dsimp only at m;rcases List.mem_append.mp m with m|m
  ·show x.newι b m k
  ·rw[List.mem_singleton] at m;clear s;subst m;show n
 newF b e k:=x.newF b e k
 keep b o e k:=by
  show d6 (x.keep b o e k) λsl e' f=>?_
  show⟨sl,(s.2 b (by intro q;clear s;subst q;rw[n] at e;injection e)).trans e',f⟩
theorem eA.settle{S:List Addr}(x:eA S W h W' h')(n:h.get? a=none)(s:Heap.SameBut a h' h'')(nF:W'.F a=none):eA S W h (W'.frz a o) h'' where
 F b c e:=by
  have:=x.F b c e;unfold Wd.frz;dsimp only;rw[if_neg];show this;intro q;clear n s;subst q;rw[nF] at this;injection this
 ι:=x.ι
 newι:=x.newι
 newF b e k:=by
  unfold Wd.frz at e;dsimp only at e
  split at e
  ·rename_i q;clear s nF;subst q;show .inl n
  ·show x.newF b e k
 keep b o e k:=by
  show d6 (x.keep b o e k) λsl e' f=>?_
  show⟨sl,(s.2 b (by intro q;clear s nF;subst q;rw[n] at e;injection e)).trans e',f⟩
theorem eA.rest{S:List Addr}(x:eA S W (h.push o) W' h')(n:∀a∈W.ι,a<h.objs.size):eA S W h W' h' where
 F:=x.F
 ι:=x.ι
 newι a m k:=by
  cases e:h.get? a with
  |none=>rfl
  |some c=>
   have:=x.newι a m k;rw[Heap.get?_push_of_some _ e] at this;injection this
 newF a e k:=by
  cases q:h.get? a with
  |none=>show .inl rfl
  |some c=>
   rcases x.newF a e k with r|r
   ·rw[Heap.get?_push_of_some _ q] at r;injection r
   ·show .inr r
 keep a c e k:=x.keep a c (Heap.get?_push_of_some _ e) k
end
section
variable{stk:List Env}{fr:Fx}
noncomputable def fk:Obj:={cls:=.type "dict",data:=.dict #[]}
theorem kh{K:Type}[DecidableEq K](knd:KeyKind pw B.w K):fk.IsDictOf knd []:=by
 show d6 (Heap.dictOf_iff.mp (Heap.DictOf.new (knd:=knd) B.h₀)) λo ho hd=>?_
 rw[Heap.get?_push_size _ rfl] at ho;injection ho with ho;subst ho;show hd
theorem K6(hI:ef B stk W J s.heap)(h:Q (.loc J.length) (J++[.sd []])):d5 B A stk W s (eval (.Dict [] [] pos) env) (RV B Q) X:=
 wpAny_Dict_empty (vj (y:=.sd []) hI ⟨[],kh _,.nil⟩ ⟨_,.loc (An hI),h⟩)
theorem JT(hI:ef B stk W J s.heap)(h:Q (.loc J.length) (J++[.nd []])):d5 B A stk W s (eval (.Dict [] [] pos) env) (RV B Q) X:=
 wpAny_Dict_empty (vj (y:=.nd []) hI ⟨[],kh _,.nil⟩ ⟨_,.loc (An hI),h⟩)
theorem J6(hI:ef B stk W J s.heap)(h:Q (.sdct []) J):d5 B A stk W s (eval (.Dict [] [] pos) env) (RV B Q) X:=
 wpAny_Dict_empty (jS hI ⟨_,.sdct (vs:=[]) (kN ..) (kh _) rfl .nil (beq_eq_false_iff_ne.mpr (Nat.ne_of_gt (Nat.lt_of_lt_of_le (modules_low B.nolimit) hI.size))),h⟩)
def zM(B:eD)(ks:List (List Nat))(Q:List V->Hp->Prop):Wd->Hp->List (Value×Value)->Prop:=
 λW J vs=>eT (λk p=>∃t,p.1=Value.str (sv k) t) ks vs/\∃ds,W.RepL B ds (vs.map (·.2))/\Q ds J
theorem DG{K:Type}[DecidableEq K]{kvs:List (K×Value)}{k:K}{v:Value}(h:k∉kvs.map (·.1)):stored kvs k v=kvs++[(k,v)]:=by
 unfold stored;rw[if_neg];intro q;show d6 (List.any_eq_true.mp q) ?_;rintro⟨a,b⟩ m e;show h (List.mem_map.mpr ⟨_,m,by simpa using e⟩)
theorem wX{K:Type}[DecidableEq K]:∀(more acc:List (K×Value)),((acc++more).map (·.1)).Nodup->merged acc more=acc++more:=by
 intro more
 induction more with
 |nil=>intro acc _;simp[merged]
 |cons p r ih=>
  intro acc n;show merged (stored acc p.1 p.2) r=_
  rw[DG,ih]
  ·simp
  ·simpa using n
  ·rw[List.map_append,List.nodup_append] at n;intro m;show n.2.2 _ m _ (by simp) rfl
theorem B5{vs:List (Value×Value)}(r:eT (λk p=>∃t,p.1=Value.str (sv k) t) ks vs):
  Carries (strKind pw B.w) vs ((ks.map sv).zip (vs.map (·.2))):=by
 induction r with
 |nil=>trivial
 |@cons k p l l' h t ih=>
  obtain⟨x,y⟩:=p;obtain⟨t,rfl⟩:=h;show⟨strKind_is ..,rfl,ih⟩
theorem K8:∀{ds:List V} {us:List Value},ks.length=ds.length->W.RepL B ds us->eT (lT B W) (ks.zip ds) ((ks.map sv).zip us):=by
 induction ks with
 |nil=>intro ds us _ _;show .nil
 |cons k ks ih=>
  intro ds us e r;cases r with
  |nil=>simp at e
  |cons r1 r2=>show .cons ⟨rfl,r1⟩ (ih (by simpa using e) r2)
theorem BK(hI:ef B stk W J h):h.objs.size∉frs stk:=by
 intro m;show d6 (List.mem_filterMap.mp m) λenv me e=>?_
 obtain⟨_,L,o,e1,e2,_⟩:=hI.frames env me;rw[e1] at e;injection e with e;clear e1;subst e
 show absurd (Heap.lt_size e2) (Nat.lt_irrefl _)
theorem we{us:List Value}(n:ks.Nodup)(e:ks.length=us.length):(((ks.map sv).zip us).map (·.1)).Nodup:=by
 rwa[List.map_fst_zip (by rw[List.length_map];simp_all)];show List.Pairwise.map sv (λ_ _ h e=>h (lh e)) n
theorem Bw{keys:List (Option Expr)}{values:List Expr}{pairs:List (Sem Value×Sem Value)}{Qs:List V->Hp->Prop}{P:Wd->Hp->Value->Prop}(hshape:(evalEachOpt keys env).zip ((evalEach values env).map λv=>do let x<-v;standAt pos;pure x)=pairs.map λp=>(some p.1,p.2))(h0:pairs≠[])(hlen:pairs.length<=15)(hI:ef B stk W J s.heap)(hx:d5 B A stk W {s with heap:=s.heap.push fk} (evalPairs pairs) (zM B ks Qs) X)(hp:∀(ae:Shared) ao ah ds us h' o,eA (frs stk) W s.heap ao ae.heap->eA (frs stk) W s.heap ao h'->ef B stk ao ah h'->ao.F s.heap.objs.size=none->s.heap.objs.size∉ao.ι->h'.get? s.heap.objs.size=some o->
   o.IsDictOf (strKind pw B.w) (merged [] ((ks.map sv).zip us))->ks.length=us.length->ao.RepL B ds us->Qs ds ah->
   ∃W' aa,eA (frs stk) W s.heap W' h'/\ef B stk W' aa h'/\P W' aa (.ref s.heap.objs.size)):
  d5 B A stk W s (eval (.Dict keys values pos) env) P X:=by
 show wpAny_Dict_pairs (knd:=strKind pw B.w) hshape h0 hlen ?_;show wpAny_mono hx ?_ ?_
 ·rintro vs ae ⟨ao,ah,e,i,r,hk,ds,rd,hq⟩;have hg:(s.heap.push fk).get? s.heap.objs.size=some fk:=Heap.get?_push_size _ rfl;have aN:s.heap.objs.size∉W.ι:=hI.fresh.2;obtain nF:W.F s.heap.objs.size=none:=hI.fresh.1;obtain nf:=BK hI;obtain g1:=e.exact_ hg aN nf;have f1:=e.outF hg aN nF;have f2:=e.outι hg aN;show⟨_,B5 hk,Heap.dictOf_iff.mpr ⟨_,g1,kh _⟩,?_⟩;intro h' hd hs;show d6 (Heap.dictOf_iff.mp hd) λo ho hdo=>?_
  obtain i':ef B stk ao ah h':=i.other hs f1 f2 λo0 _ _=>⟨o,ho,by
   show jE hdo λes ep _ hdd _=>?_
   intro vs q;rw[hdd] at q;injection q⟩
  have e0:eA (frs stk) W s.heap ao ae.heap:=(eA.junk W s.heap fk).trans e
  obtain e1:eA (frs stk) W s.heap ao h':=⟨e0.F,e0.ι,e0.newι,e0.newF,λb c q k=>by
   show d6 (e0.keep b c q k) λsl q' f=>?_
   show⟨sl,(hs.2 b ?_).trans q',f⟩
   intro w;clear k q' f;subst w;rw[ef.none_fresh] at q;injection q⟩
  show jE (hp ae ao ah ds (vs.map (·.2)) h' o e0 e1 i' f1 f2 ho hdo (by rwa[List.length_map ..];show hk.length) rd hq) λW' aa a1 a2 a3=>?_
  show⟨W',aa,a1,a2,⟨r.gens,r.os⟩,a3⟩
 ·rintro x ae ⟨ao,ah,y,e,i,r,q,q'⟩;show⟨ao,ah,y,(eA.junk W s.heap fk).trans e,i,⟨r.gens,r.os⟩,q.back (eA.fresh (eA.junk (S:=[]) W s.heap fk) (hI.junk _)),q'⟩
end
section
variable{stk:List Env}{fr:Fx}
theorem IY{v:Value}(r:W.Rep B d v):(W.trk a).Rep B d v:=Rep.mono (λ_ _ q=>q) (λi b w=>by
 unfold Wd.trk;dsimp only
 rwa[List.getElem?_append_left (List.getElem?_eq_some_iff.mp w).1];show w) r
theorem vn(n:W.F a=none){v:Value}(r:W.Rep B d v):(W.frz a o).Rep B d v:=Rep.mono (λb c q=>by
 unfold Wd.frz;dsimp only;rw[if_neg];show q
 intro q';subst q';rw[n] at q;injection q) (λ_ _ w=>w) r
theorem M9:∀{kvs:List (List Nat×V)} {vs:List (Str×Value)},eT (lT B W) kvs vs->eT (lT B (W.trk a)) kvs vs:=
 λr=>r.mono λ_ _ q=>⟨q.1,IY q.2⟩
theorem Ke{keys:List (Option Expr)}{values:List Expr}{pairs:List (Sem Value×Sem Value)}(hshape:(evalEachOpt keys env).zip ((evalEach values env).map λv=>do let x<-v;standAt pos;pure x)=pairs.map λp=>(some p.1,p.2))(h0:pairs≠[])(hlen:pairs.length<=15)(hI:ef B stk W J s.heap)(hx:d5 B A stk W {s with heap:=s.heap.push fk} (evalPairs pairs) (zM B ks λds aa=>xo ks ds aa Q) X):
  d5 B A stk W s (eval (.Dict keys values pos) env) (RV B Q) X:=by
 show Bw hshape h0 hlen hI hx ?_;intro ae ao ah ds us h' o e0 e1 i nF aN ho hd hk rd hq;show gp hq λq1 q2 q3=>?_
 obtain hn:=we q2 hk;rw[wX _ [] (by simpa using hn)] at hd;obtain i2:=i.adopt (y:=.sd (ks.zip ds)) ho nF aN hI.size (BK hI) ⟨_,hd,M9 (K8 q1 rd)⟩;show⟨_,_,e1.adopt (ef.none_fresh _) (Heap.SameBut.refl _ _),i2,.loc ah.length,.loc ?_,q3⟩;unfold Wd.trk;dsimp only;rwa[i.len.symm,List.getElem?_append_right (Nat.le_refl _)];simp
theorem J5{keys:List (Option Expr)}{values:List Expr}{pairs:List (Sem Value×Sem Value)}(hshape:(evalEachOpt keys env).zip ((evalEach values env).map λv=>do let x<-v;standAt pos;pure x)=pairs.map λp=>(some p.1,p.2))(h0:pairs≠[])(hlen:pairs.length<=15)(hI:ef B stk W J s.heap)(hx:d5 B A stk W {s with heap:=s.heap.push fk} (evalPairs pairs) (zM B ks λds aa=>ya ks ds aa Q) X):
  d5 B A stk W s (eval (.Dict keys values pos) env) (RV B Q) X:=by
 show Bw hshape h0 hlen hI hx ?_;intro ae ao ah ds us h' o e0 e1 i nF aN ho hd hk rd hq;show gp hq λq1 q2 q3=>?_
 obtain hn:=we q2 hk;rw[wX _ [] (by simpa using hn)] at hd;obtain i2:=i.settle ho nF aN (BK hI);show⟨_,_,e1.settle (o:=o) (ef.none_fresh _) (Heap.SameBut.refl _ _) nF,i2,.sdct (ks.zip ds),.sdct (kN ..) hd ?_ ?_ ?_,q3⟩
 ·show(((ks.map sv).zip us).map (·.1))=_;rwa[List.map_fst_zip (by rw[List.length_map];simp_all)];obtain this:(ks.zip ds).map (λkv=>sv kv.1)=((ks.zip ds).map (·.1)).map sv:=by rwa[List.map_map];rfl
  show d4 this (d4 (List.map_fst_zip (by simp_all)) rfl)
 ·show eT _ ((ks.zip ds).map (·.2)) (((ks.map sv).zip us).map (·.2));rwa[List.map_snd_zip (by simp_all),List.map_snd_zip (by rw[List.length_map];simp_all)];show rd.mono λ_ _ q=>vn nF q
 ·show beq_eq_false_iff_ne.mpr (Nat.ne_of_gt (Nat.lt_of_lt_of_le (modules_low B.nolimit) hI.size))
end
def jJ(B:eD)(f:Value):Prop:=∀(A:Around) (E:Value->Shared->Prop) (s:Shared) (Q:Keeper->Shared->Prop),(∀b o,B.h₀.get? b=some o->s.heap.get? b=some o)->(∀k,Q k s)->wpAny B.M A (keeperOf f) Q E s
section
variable{stk:List Env}{fr:Fx}
theorem u6(x:Ib B a):jJ B (.ref a):=by
 show lx x λo fd e d=>?_
 intro A E s Q k h;unfold keeperOf;show wpAny_bind (wpAny_load (k _ _ e) ?_);rwa[d];show wpAny_pure (h _)
theorem zS(x:Mu B a):jJ B (.ref a):=by
 show jE x λo fd e c d=>?_
 intro A E s Q k h;unfold keeperOf;show wpAny_bind (wpAny_load (k _ _ e) ?_);rwa[d];obtain hT:s.TypeIs (.ref a) "type" :=⟨o,k _ _ e,c⟩;show wpAny_bind (wpAny_specialOf hT tc_lookup ?_);show wpAny_pure (h _)
theorem rC(id:String):jJ B (.builtin id):=λ_ _ _ _ _ h=>wpAny_pure (h _)
theorem DO(id:String):jJ B (.type id):=λ_ _ _ _ _ h=>wpAny_pure (h _)
theorem nM{f:Value}{first:List Value}{args:List (Bool×Sem Value)}{P:Wd->Hp->Value->Prop}(hc:jJ B f)(hplain:args.any (·.1)=false)(h:d5 B A stk W s (evalArgs f true args []) (λW' aa a=>a.kw=[]/\∀s',eA (frs stk) W s.heap W' s'.heap->ef B stk W' aa s'.heap->d5 B A stk W' s' (call f (first++a.pos)) P X) X):
  d5 B A stk W s (callWith pos f first args []) P X:=by
 unfold callWith;show d5.bind (d5.hold h) λa s' W' aa e i r hz=>fx hz λhk hq=>?_
 show d5.at ?_;simp only[hplain,List.any_nil,Bool.or_false];have hq':=hq s' e i;have tail:∀{t:Sem Value},d5 B A stk W' s' t P X->d5 B A stk W' s' (t>>=λr=>holding [r] point>>=λ_=>pure r) P X:=
  λht=>d5.bind ht λv s2 W2 aG e2 i2 r2 p2=>wpAny_bind (wpAny_holding (wpAny_point (d5.pure i2 p2)))
 show wpAny_bind (hc _ _ _ _ i.old λk=>?_);rwa[hk];cases k
 ·show wpAny_ite (JA (λ_=>tail hq') λ_=>tail (by unfold callMarked;show Calls.wpAny_keep hq'))
 ·show wpAny_ite (JA (λ_=>tail hq') λ_=>tail (by unfold callMarked;show Calls.wpAny_keep hq'))
 ·show tail hq'
 ·show tail (d5.operate hq')
inductive GN(B:eD)(n:Nat)(Q:List V->Hp->Prop)(W:Wd)(J:Hp)(vs:List Value):Prop
 |mk (ds:List V) (r:W.RepL B ds vs) (l:ds.length=n) (q:Q ds J)
theorem GN.e{Q:List V->Hp->Prop}{R:Prop}(h:GN B n Q W J vs)(g:∀ds,W.RepL B ds vs->ds.length=n->Q ds J->R):R:=let⟨d,r,l,q⟩:=h;g d r l q
theorem zr{f:Value}{P:Wd->Hp->List Value->Prop}(hI:ef B stk W J s.heap)(h:P W J []):
  d5 B A stk W s (evalArgs f true [] []) (λW' aa a=>a.kw=[]/\P W' aa a.pos) X:=by
 show PyProof.Rows.evalArgs_nil3 ?_;show⟨W,J,.refl ..,hI,.refl _,rfl,h⟩
theorem zp{f:Value}{x:Sem Value}{args:List (Bool×Sem Value)}{P:Wd->Hp->List Value->Prop}(h:d5 B A stk W s (spliced ((false,x)::args)) P X):
  d5 B A stk W s (evalArgs f true ((false,x)::args) []) (λW' aa a=>a.kw=[]/\P W' aa a.pos) X:=by
 show Calls.evalArgs_plain (wpAny_mono h ?_ λ_ _ x=>x);rintro a s' ⟨W',aa,e,i,r,p⟩;show⟨W',aa,e,i,r,rfl,p⟩
theorem vC{x:Sem Value}{rest:List (Bool×Sem Value)}{P:Wd->Hp->List Value->Prop}(h:d5 B A stk W s x (λW' aa v=>∀s',eA (frs stk) W s.heap W' s'.heap->ef B stk W' aa s'.heap->d5 B A stk W' s' (spliced rest) (λW'' af vs=>P W'' af (v::vs)) X) X):
  d5 B A stk W s (spliced ((false,x)::rest)) P X:=by
 rw[spliced];show d5.bind h λv s' W' aa e i r hq=>?_
 simp only[Bool.false_eq_true,if_false];show wpAny_bind (wpAny_pure ?_);show d5.bind (d5.hold (hq s' e i)) λvs s2 W2 aG e2 i2 r2 p2=>d5.pure i2 p2
theorem BR{ds:List V}(hA:hH A stk n)(hI:ef B stk W J s.heap)(r:W.RepL B ds vs)(h:d7 B n a ds J Q X):
  d5 B A stk W s (call (.ref a) vs) (RV B Q) X:=
 h A stk W s vs _ _ hA hI r (λ_ _ W' aa d e i r k q=>⟨W',aa,e,i,k,d,r,q⟩) (λ_ _ W' aa x e i r k q=>⟨W',aa,x,e,i,k,r,q⟩)
end
inductive gx(B:eD)(W:Wd)(xs:List V):Option Nat->Nat->Obj->Prop
 |lst {l i o:_}:W.Rep B (.lst xs) (.ref l)->o.cls=.type "list_iterator" ->o.data=.fields #[.ref l,.int (i:Nat) 0]->gx B W xs none i o
 |loc {k l i o:_}:W.ι[k]?=some l->o.cls=.type "list_iterator" ->o.data=.fields #[.ref l,.int (i:Nat) 0]->gx B W xs (some k) i o
 |tup {l i o:_}:W.Rep B (.tup xs) (.ref l)->o.cls=.type "tuple_iterator" ->o.data=.fields #[.ref l,.int (i:Nat) 0]->gx B W xs none i o
 |strA {l:List Nat} {t i o:_}:gd l->xs=l.map (λc=>V.str [c])->o.cls=.type "str_ascii_iterator" ->o.data=.fields #[.str (sv l) t,.int (i:Nat) 0]->gx B W xs none i o
 |strW {l:List Nat} {t i o:_}:gd l->xs=l.map (λc=>V.str [c])->o.cls=.type "str_iterator" ->o.data=.fields #[.str (sv l) t,.int (i:Nat) 0]->gx B W xs none i o
 |rng {a:Int} {n i o:_}:xs=(List.range n).map (λ(k:Nat)=>V.int (a+(k:Int)))->i<=n->o={cls:=.type "range_iterator",data:=.fields #[.int (a+(i:Int)) 0,.int ((n:Int)-(i:Int)) 0,.int 1 0]}->gx B W xs none i o
section
variable{stk:List Env}{fr:Fx}
theorem gx.mono{k:Option Nat}(x:gx B W xs k i o){S:List Addr}(e:eA S W h W' h'):gx B W' xs k i o:=by
 cases x with
 |lst a b c=>show .lst (e.rep a) b c
 |loc a b c=>show .loc (e.ιget _ _ a) b c
 |tup a b c=>show .tup (e.rep a) b c
 |strA a b c d=>show .strA a b c d
 |strW a b c d=>show .strW a b c d
 |rng a b c=>show .rng a b c
theorem wB{v:Value}{k:Option Nat}{Q:Value->Shared->Prop}(hI:ef B stk W J s.heap)(r:W.Rep B d v)(e:fF d J=some (xs,k))(h:∀o,gx B W xs k 0 o->o.isFreed=false->Q (.ref s.heap.objs.size) {s with heap:=s.heap.push o}):wpAny B.M A (pyIter v) Q E s:=by
 cases d with
 |lst=>
  cases e;obtain⟨a,items,n,rfl,h4,hl,h5,h6⟩:=Rep.isLst hI r;show wpAny_pyIter_list (jK hl) (h _ (.lst r rfl rfl) rfl)
 |tup=>
  cases e;obtain⟨a,items,n,rfl,h4,hl,h5,h6⟩:=Rep.isTup hI r;show wpAny_pyIter_tuple (y9 hl) (h _ (.tup r rfl rfl) rfl)
 |str=>
  cases e;cases r with
  |str hl=>
  cases ha:(sv ‹List Nat›).cps.all (·<128)
  ·show wpAny_pyIter_wide ha (h _ (.strW hl rfl rfl rfl) rfl)
  ·show wpAny_pyIter_ascii ha (h _ (.strA hl rfl rfl rfl) rfl)
 |rng=>
  show fx (j8 e) λq e=>?_
  ·cases e;cases r with
   |rng hr=>
   obtain hr':=hI.frozen _ _ hr;rename_i a b _ t u v;obtain sm:Builtin.Range.small a b 1=true:=small_one (by lia) (by lia) (by lia) (by lia);show wpAny_pyIter_range hr' sm (h _ ?_ rfl);show .rng rfl (Nat.zero_le _) ?_;rwa[rangeSize_one ..];obtain this:(if a<b then b-a else 0)=((b-a).toNat:Int):=by split<;>lia
   rwa[this];simp[rawInt]
 |loc=>
  show d6 (rm e) λ_ q e=>?_
  ·cases e;obtain⟨a,o,rfl,h1,h2,items,n,rfl,h4,h5⟩:=Rep.isLoc hI r q;show wpAny_pyIter_list (jK h2) (h _ (.loc h1 rfl rfl) rfl)
 |_=>show eC e
end
section
variable{stk:List Env}{fr:Fx}
theorem oK{k:Option Nat}{x:V}{Q:Option Value->Shared->Prop}(hI:ef B stk W J s.heap)(ho:s.heap.get? it=some o)(r:gx B W xs k i o)(st:oE k xs J)(e:xs[i]?=some x)(h:∀h' v m o',h'.get? it=some o'->gx B W xs k (i+1) o'->Heap.SameBut it s.heap h'->(∃fs,o'.data=.fields fs)->W.Rep B x v->Q (some v) {s with heap:=h',toks:=m}):wpAny B.M A (pyNext (.ref it)) Q E s:=by
 cases r with
 |lst a b c=>
  obtain⟨l,items,n',e1,h4,hl,h5,h6⟩:=Rep.isLst hI a;injection e1 with e1;subst e1
  show d6 (h4.get e) λv ev rv=>?_
  show wpAny_pyNext_list_item (i:=i) ⟨o,ho,b,c⟩ (jK hl) (by rwa[Array.getElem?_toList.symm];show ev) λh' hit hs=>?_
  show kQ hit λo' g1 g2 g3=>?_
  show h h' v s.toks o' g1 (.lst a g2 g3) hs ⟨_,g3⟩ rv
 |loc a b c=>
  obtain⟨l,ol,e1,hl,items,n',rfl,h4,h5⟩:=hI.at st;rw[a] at e1;injection e1 with e1;subst e1
  show d6 (h4.get e) λv ev rv=>?_
  show wpAny_pyNext_list_item (i:=i) ⟨o,ho,b,c⟩ (jK hl) (by rwa[Array.getElem?_toList.symm];show ev) λh' hit hs=>?_
  show kQ hit λo' g1 g2 g3=>?_
  show h h' v s.toks o' g1 (.loc a g2 g3) hs ⟨_,g3⟩ rv
 |tup a b c=>
  obtain⟨l,items,n',e1,h4,hl,h5,h6⟩:=Rep.isTup hI a;injection e1 with e1;subst e1
  show d6 (h4.get e) λv ev rv=>?_
  show wpAny_pyNext_tuple_item (i:=i) ⟨o,ho,b,c⟩ (y9 hl) (by rwa[Array.getElem?_toList.symm];show ev) λh' hit hs=>?_
  show kQ hit λo' g1 g2 g3=>?_
  show h h' v s.toks o' g1 (.tup a g2 g3) hs ⟨_,g3⟩ rv
 |@strA l t _ _ a b c d=>
  clear st;subst b;rw[List.getElem?_map] at e;show d6 (Option.map_eq_some_iff.mp e) ?_;clear e;rintro ch ec rfl;show wpAny_pyNext_ascii_item (i:=i) ⟨o,ho,c,d⟩ (c:=ch) (by show(sv l).cps[i]?=_;rwa[Array.getElem?_toList.symm];show ec) λh' hit hs=>?_
  show kQ hit λo' g1 g2 g3=>?_
  show h h' _ _ o' g1 (.strA a rfl g2 g3) hs ⟨_,g3⟩ (.str (l:=[ch]) (xt a (List.mem_of_getElem? ec)))
 |@strW l t _ _ a b c d=>
  clear st;subst b;rw[List.getElem?_map] at e;show d6 (Option.map_eq_some_iff.mp e) ?_;clear e;rintro ch ec rfl;show wpAny_pyNext_wide_item (i:=i) ⟨o,ho,c,d⟩ (c:=ch) (by show(sv l).cps[i]?=_;rwa[Array.getElem?_toList.symm];show ec) λh' hit hs=>?_
  show kQ hit λo' g1 g2 g3=>?_
  show h h' _ _ o' g1 (.strW a rfl g2 g3) hs ⟨_,g3⟩ (.str (l:=[ch]) (xt a (List.mem_of_getElem? ec)))
 |@rng a n' _ _ b c d=>
  clear st;subst b d;rw[List.getElem?_map] at e;show d6 (Option.map_eq_some_iff.mp e) ?_;rintro j ej rfl;have hj:=List.getElem?_eq_some_iff.mp ej;obtain hlt:i<n':=by have:=hj.1;rw[List.length_range] at this;show this
  obtain hji:j=i:=by have:=hj.2;simp at this;show this.symm
  clear c ej e hj;subst hji;show wpAny_pyNext_range_item (x:=a+(j:Int)) (left:=(n':Int)-(j:Int)) (step:=1) ho (by simp_all) λh' hit hs=>?_
  show h h' _ _ _ hit (.rng rfl hlt ?_) hs ⟨_,rfl⟩ .int;obtain e1:a+(j:Int)+1=a+((j+1:Nat):Int):=by lia
  obtain e2:(n':Int)-(j:Int)-1=(n':Int)-((j+1:Nat):Int):=by lia
  rwa[e1,e2];rfl
theorem pX{k:Option Nat}{Q:Option Value->Shared->Prop}(hA:hH A stk n)(hI:ef B stk W J s.heap)(ho:s.heap.get? it=some o)(r:gx B W xs k i o)(st:oE k xs J)(e:xs[i]?=none)(h:∀h',Heap.ExtBut it s.heap h'->Q none {s with heap:=h'}):wpAny B.M A (pyNext (.ref it)) Q E s:=by
 have hh:=hA.handled;have el:=List.getElem?_eq_none_iff.mp e;cases r with
 |lst a b c=>
  obtain⟨l,items,n',e1,h4,hl,h5,h6⟩:=Rep.isLst hI a;injection e1 with e1;subst e1
  show wpAny_pyNext_list_end hh (i:=i) ⟨o,ho,b,c⟩ (jK hl) (Array.getElem?_eq_none (by simp_all)) h
 |loc a b c=>
  obtain⟨l,ol,e1,hl,items,n',rfl,h4,h5⟩:=hI.at st;rw[a] at e1;injection e1 with e1;subst e1
  obtain z:items.size=xs.length:=by rw[<-Array.length_toList];show h4.length.symm
  show wpAny_pyNext_list_end hh (i:=i) ⟨o,ho,b,c⟩ (jK hl) (Array.getElem?_eq_none (by simp_all)) h
 |tup a b c=>
  obtain⟨l,items,n',e1,h4,hl,h5,h6⟩:=Rep.isTup hI a;injection e1 with e1;subst e1
  show wpAny_pyNext_tuple_end hh (i:=i) ⟨o,ho,b,c⟩ (y9 hl) (Array.getElem?_eq_none (by simp_all)) h
 |@strA l t _ _ a b c d=>
  clear e st;subst b;rw[List.length_map] at el;show wpAny_pyNext_ascii_end hh (i:=i) ⟨o,ho,c,d⟩ (Array.getElem?_eq_none (by show l.toArray.size<=i;simpa using el)) h
 |@strW l t _ _ a b c d=>
  clear e st;subst b;rw[List.length_map] at el;show wpAny_pyNext_wide_end hh (i:=i) ⟨o,ho,c,d⟩ (Array.getElem?_eq_none (by show l.toArray.size<=i;simpa using el)) h
 |@rng a n' _ _ b c d=>
  clear e st;subst b d;rw[List.length_map,List.length_range] at el;show wpAny_pyNext_range_end hh (x:=a+(i:Int)) (left:=(n':Int)-(i:Int)) (step:=1) ho (by lia) h
theorem ef.extBut(hI:ef B stk W J h)(x:Heap.ExtBut a h h')(nF:W.F a=none)(aN:a∉W.ι)(nf:a∉frs stk):ef B stk W J h' where
 base:=hI.base
 frozen b o e:=x b o (by intro q;clear x aN nf;subst q;rw[nF] at e;injection e) (hI.frozen b o e)
 len:=hI.len
 nodup:=hI.nodup
 sep:=hI.sep
 low:=hI.low
 size:=B.size_of λb o e=>x b o (by intro q;clear x aN nf;subst q;rw[hI.base _ _ e] at nF;injection nF) (hI.old b o e)
 objs l y b e1 e2:=let⟨ob,e,r⟩:=hI.objs l y b e1 e2;⟨ob,x b ob (by intro q;clear x nF nf;subst q;show aN (List.mem_of_getElem? e2)) e,r⟩
 frames env m:=by
  obtain⟨kd,L,ob,e1,e2,e3,e4,e5⟩:=hI.frames env m;show⟨kd,L,ob,e1,x L ob (by intro q;clear x nF aN;subst q;show nf (List.mem_filterMap.mpr ⟨env,m,e1⟩)) e2,e3,e4,e5⟩
theorem eA.extBut{S:List Addr}(e:eA S W h W' h')(n:h.get? a=none)(x:Heap.ExtBut a h' h''):eA S W h W' h'' where
 F:=e.F
 ι:=e.ι
 newι:=e.newι
 newF:=e.newF
 keep b o q k:=by
  show d6 (e.keep b o q k) λsl q' f=>?_
  show⟨sl,x b _ (by intro w;clear x;subst w;rw[n] at q;injection q) q',f⟩
end
end
section
open PySem PySem.W PyProof.Rows
theorem fg(h:false=true):p:=nomatch h
theorem eV{c:Prop}[Decidable c]{f:c->Bool}(h:(if q:c then f q else false)=true):∃q,f q=true:=by
 by_cases q:c
 ·rw[dif_pos q] at h;show⟨q,h⟩
 ·rw[dif_neg q] at h;show fg h
noncomputable def qB(d:V)(k:Bool->Bool):Bool:=if q:d.ctorIdx=1 then V.bool.elim (motive_1:=λ_=>Bool) d q k else false
theorem Qm{P:V->Prop}{k}(h:qB d k=true)(g:∀b,k b=true->P (.bool b)):P d:=by
 obtain⟨i,h⟩:=eV h;show V.bool.elim (motive_1:=λd=>∀i,V.bool.elim (motive_1:=λ_=>Bool) d i k=true->P d) d i (λb _ h=>g b h) i h
noncomputable def qI(d:V)(k:Int->Bool):Bool:=if q:d.ctorIdx=2 then V.int.elim (motive_1:=λ_=>Bool) d q k else false
theorem Rh{P:V->Prop}{k}(h:qI d k=true)(g:∀b,k b=true->P (.int b)):P d:=by
 obtain⟨i,h⟩:=eV h;show V.int.elim (motive_1:=λd=>∀i,V.int.elim (motive_1:=λ_=>Bool) d i k=true->P d) d i (λb _ h=>g b h) i h
noncomputable def qS(d:V)(k:List Nat->Bool):Bool:=if q:d.ctorIdx=3 then V.str.elim (motive_1:=λ_=>Bool) d q k else false
theorem QM{P:V->Prop}{k}(h:qS d k=true)(g:∀b,k b=true->P (.str b)):P d:=by
 obtain⟨i,h⟩:=eV h;show V.str.elim (motive_1:=λd=>∀i,V.str.elim (motive_1:=λ_=>Bool) d i k=true->P d) d i (λb _ h=>g b h) i h
noncomputable def qT(d:V)(k:List V->Bool):Bool:=if q:d.ctorIdx=4 then V.tup.elim (motive_1:=λ_=>Bool) d q k else false
theorem QF{P:V->Prop}{k}(h:qT d k=true)(g:∀b,k b=true->P (.tup b)):P d:=by
 obtain⟨i,h⟩:=eV h;show V.tup.elim (motive_1:=λd=>∀i,V.tup.elim (motive_1:=λ_=>Bool) d i k=true->P d) d i (λb _ h=>g b h) i h
noncomputable def qL(d:V)(k:List V->Bool):Bool:=if q:d.ctorIdx=5 then V.lst.elim (motive_1:=λ_=>Bool) d q k else false
theorem Qh{P:V->Prop}{k}(h:qL d k=true)(g:∀b,k b=true->P (.lst b)):P d:=by
 obtain⟨i,h⟩:=eV h;show V.lst.elim (motive_1:=λd=>∀i,V.lst.elim (motive_1:=λ_=>Bool) d i k=true->P d) d i (λb _ h=>g b h) i h
noncomputable def qD(d:V)(k:List (List Nat×V)->Bool):Bool:=if q:d.ctorIdx=7 then V.sdct.elim (motive_1:=λ_=>Bool) d q k else false
theorem Ra{P:V->Prop}{k}(h:qD d k=true)(g:∀b,k b=true->P (.sdct b)):P d:=by
 obtain⟨i,h⟩:=eV h;show V.sdct.elim (motive_1:=λd=>∀i,V.sdct.elim (motive_1:=λ_=>Bool) d i k=true->P d) d i (λb _ h=>g b h) i h
noncomputable def qA(d:V)(k:Addr->Bool):Bool:=if q:d.ctorIdx=10 then V.stat.elim (motive_1:=λ_=>Bool) d q k else false
theorem Qb{P:V->Prop}{k}(h:qA d k=true)(g:∀b,k b=true->P (.stat b)):P d:=by
 obtain⟨i,h⟩:=eV h;show V.stat.elim (motive_1:=λd=>∀i,V.stat.elim (motive_1:=λ_=>Bool) d i k=true->P d) d i (λb _ h=>g b h) i h
noncomputable def qN(d:V):Bool:=decide (d.ctorIdx=0)
theorem QA{P:V->Prop}(h:qN d=true)(g:P .none):P d:=V.none.elim (motive_1:=P) d (of_decide_eq_true h) g
theorem b2{a:Bool}(h:(a&&b)=true):a=true/\b=true:=(Bool.and_eq_true ..).mp h
theorem b3{a c:Bool}(h:(a&&b&&c)=true):a=true/\b=true/\c=true:=let⟨x,y⟩:=b2 h;let⟨u,v⟩:=b2 x;⟨u,v,y⟩
noncomputable def l0(l:List α)(k:Bool):Bool:=match l with|[]=>k|_=>false
noncomputable def lc(l:List α)(k:α->List α->Bool):Bool:=match l with|a::r=>k a r|[]=>false
theorem iy{P:List α->Prop}{l:List α}{k}(h:l0 l k=true)(g:k=true->P []):P l:=by
 cases l with
 |nil=>show g h
 |cons=>show fg h
theorem jR{P:List α->Prop}{l:List α}{k}(h:lc l k=true)(g:∀a r,k a r=true->P (a::r)):P l:=by
 cases l with
 |nil=>show fg h
 |cons=>show g _ _ h
mutual
noncomputable def Fp:V->V->Bool
 |.none,y=>qN y
 |.bool a,y=>qB y λb=>a==b
 |.int a,y=>qI y λb=>decide (a=b)
 |.str a,y=>qS y λb=>decide (a=b)
 |.tup a,y=>qT y λb=>D9 a b
 |.lst a,y=>qL y λb=>D9 a b
 |.sdct a,y=>qD y λb=>EF a b
 |.stat a,y=>qA y λb=>decide (a=b)
 |_,_=>false
noncomputable def D9:List V->List V->Bool
 |[],y=>l0 y true
 |a::x,y=>lc y λb z=>Fp a b&&D9 x z
noncomputable def EF:List (List Nat×V)->List (List Nat×V)->Bool
 |[],y=>l0 y true
 |(k,a)::x,y=>lc y λp z=>decide (k=p.1)&&Fp a p.2&&EF x z
end
mutual
theorem wN:∀(x y:V),Fp x y=true->x=y
 |.none,y,h=>by apply QA h;rfl
 |.bool a,y,h=>by apply Qm h;intro b h;show d4 (eq_of_beq h) rfl
 |.int a,y,h=>by apply Rh h;intro b h;show d4 (of_decide_eq_true h) rfl
 |.str a,y,h=>by apply QM h;intro b h;show d4 (of_decide_eq_true h) rfl
 |.tup a,y,h=>by apply QF h;intro b h;show d4 (xH _ _ h) rfl
 |.lst a,y,h=>by apply Qh h;intro b h;show d4 (xH _ _ h) rfl
 |.sdct a,y,h=>by apply Ra h;intro b h;show d4 (yd _ _ h) rfl
 |.stat a,y,h=>by apply Qb h;intro b h;show d4 (of_decide_eq_true h) rfl
 |.dct _,_,h=>fg h
 |.loc _,_,h=>fg h
 |.inst _ _,_,h=>fg h
 |.rng _ _,_,h=>fg h
theorem xH:∀(x y:List V),D9 x y=true->x=y
 |[],y,h=>by apply iy h;intro _;rfl
 |a::x,y,h=>by apply jR h;intro b z h;show d4 (wN _ _ (b2 h).1) (d4 (xH _ _ (b2 h).2) rfl)
theorem yd:∀(x y:List (List Nat×V)),EF x y=true->x=y
 |[],y,h=>by apply iy h;intro _;rfl
 |(k,a)::x,y,h=>by
  apply jR h;intro p z h;show d4 (of_decide_eq_true (b3 h).1) (d4 (wN _ _ (b3 h).2.1) (d4 (yd _ _ (b3 h).2.2) rfl))
end
noncomputable def xS(csc sc:Scope):Scope:=
 {csc with names:=csc.names.map λ(n,k)=>if(k==.free&&sc.kind==.function&&sc.names.lookup n==some .cell) then(n,.cell) else(n,k)}
noncomputable def CP(l:List Nat):Bool:=decide (l.length<=eh)&&l.all λc=>decide (c<1114112)
theorem wF(h:CP l=true):gd l:=by
 unfold CP at h;rw[Bool.and_eq_true,decide_eq_true_eq,List.all_eq_true] at h;show⟨h.1,λc m=>by simpa using h.2 c m⟩
noncomputable def Bp:BO->Operator
 |.add=> .Add|.sub=> .Sub|.mul=> .Mult|.fdiv=> .FloorDiv|.mod=> .Mod|.pow=> .Pow
noncomputable def nZ:CO->CmpOp
 |.eq=> .Eq|.ne=> .NotEq|.lt=> .Lt|.le=> .LtE|.gt=> .Gt|.ge=> .GtE|.is=> .Is|.isn=> .IsNot|.in_=> .In|.nin=> .NotIn
noncomputable def nO(e:Expr)(k:Nat):Bool:= !(Nat.beq e.ctorIdx k)
noncomputable def tL(e:Expr):Bool:=nO e 22
noncomputable def jN(e:Expr):Bool:=nO e 7
noncomputable def iT(e:Expr):Bool:=nO e 8&&nO e 9&&nO e 10
noncomputable def CD(e:Expr):Bool:=nO e 26
noncomputable def II(e:Ex):Bool:=if q:e.ctorIdx=1 then Ex.bool.elim (motive_1:=λ_=>Bool) e q id else false
noncomputable def Bl(e:Ex):Bool:=decide (e.ctorIdx=0)
noncomputable def qe(sc:Scope)(i:Nat)(id:Str)(d:V):Bool:=match Gt[i]? with
 |some p=>id==sv p.1&&Fp p.2 d&&sc.names.lookup id==some .globalImplicit&& !(id==("__debug__" :Str))
 |none=>false
noncomputable def ki(ns:List (List Nat))(i:Nat)(id:Str):Bool:=match ns[i]? with
 |some l=>id==sv l
 |none=>false
noncomputable def kn(l:List Nat):Bool:= !(sv l==("__debug__" :Str))&& !(sv l==("__classdict__" :Str))
noncomputable def Jw(ns:List (List Nat))(sc csc:Scope)(i:Nat)(l:List Nat):Bool:=
 (match ns[i]? with|some l'=>decide (l'=l)|none=>false)&&csc.names.lookup (sv l)==some .free&&(sc.names.lookup (sv l)==some .cell||sc.names.lookup (sv l)==some .free)
noncomputable def xg(ns:List (List Nat))(sc csc:Scope):List Nat->List (List Nat)->Bool
 |[],l=>lc l λ_ r=>l0 r true
 |i::is,l=>lc l λl ls=>Jw ns sc csc i l&&xg ns sc csc is ls
noncomputable def AE(ns:List (List Nat))(sc:Scope)(k:Nat)(ns':List (List Nat))(caps:List Nat)(tn:Str)(csc:Scope):Bool:=
 csc.kind==.function&&ki ns' k tn&&decide (k=caps.length)&&csc.names.lookup tn==some .local&&xg ns sc csc caps ns'&&decide ns'.Nodup&&ns'.all kn
  &&csc.names.all (λx=>x.2 !=.cell&&(x.2 !=.local||csc.names.lookup x.1==some .local)&&(x.2 !=.free||csc.names.lookup x.1==some .free&&ns'.any λl=>x.1==sv l))
noncomputable def qx(e:Expr)(k:Const->Bool):Bool:=if q:e.ctorIdx=19 then Expr.Constant.elim (motive_1:=λ_=>Bool) e q λc _ _=>k c else false
theorem l4{P:Expr->Prop}{e:Expr}{k}(h:qx e k=true)(g:∀c n q,k c=true->P (.Constant c n q)):P e:=by
 obtain⟨i,h⟩:=eV h;show Expr.Constant.elim (motive_1:=λe=>∀i,Expr.Constant.elim (motive_1:=λ_=>Bool) e i (λc _ _=>k c)=true->P e) e i (λc n q _ h=>g c n q h) i h
noncomputable def ip(e:Expr)(k:Str->Bool):Bool:=if q:e.ctorIdx=23 then Expr.Name.elim (motive_1:=λ_=>Bool) e q λx _=>k x else false
theorem gG{P:Expr->Prop}{e:Expr}{k}(h:ip e k=true)(g:∀x q,k x=true->P (.Name x q)):P e:=by
 obtain⟨i,h⟩:=eV h;show Expr.Name.elim (motive_1:=λe=>∀i,Expr.Name.elim (motive_1:=λ_=>Bool) e i (λx _=>k x)=true->P e) e i (λx q _ h=>g x q h) i h
noncomputable def AX(e:Expr)(k:List Expr->Bool):Bool:=if q:e.ctorIdx=25 then Expr.Tuple.elim (motive_1:=λ_=>Bool) e q λl _ _=>k l else false
theorem vO{P:Expr->Prop}{e:Expr}{k}(h:AX e k=true)(g:∀l n q,k l=true->P (.Tuple l n q)):P e:=by
 obtain⟨i,h⟩:=eV h;show Expr.Tuple.elim (motive_1:=λe=>∀i,Expr.Tuple.elim (motive_1:=λ_=>Bool) e i (λl _ _=>k l)=true->P e) e i (λl n q _ h=>g l n q h) i h
noncomputable def IJ(e:Expr)(k:List Expr->Bool):Bool:=if q:e.ctorIdx=24 then Expr.List.elim (motive_1:=λ_=>Bool) e q λl _=>k l else false
theorem FR{P:Expr->Prop}{e:Expr}{k}(h:IJ e k=true)(g:∀l q,k l=true->P (.List l q)):P e:=by
 obtain⟨i,h⟩:=eV h;show Expr.List.elim (motive_1:=λe=>∀i,Expr.List.elim (motive_1:=λ_=>Bool) e i (λl _=>k l)=true->P e) e i (λl q _ h=>g l q h) i h
noncomputable def zy(e:Expr)(k:List (Option Expr)->List Expr->Bool):Bool:=if q:e.ctorIdx=6 then Expr.Dict.elim (motive_1:=λ_=>Bool) e q λa l _=>k a l else false
theorem xk{P:Expr->Prop}{e:Expr}{k}(h:zy e k=true)(g:∀a l q,k a l=true->P (.Dict a l q)):P e:=by
 obtain⟨i,h⟩:=eV h;show Expr.Dict.elim (motive_1:=λe=>∀i,Expr.Dict.elim (motive_1:=λ_=>Bool) e i (λa l _=>k a l)=true->P e) e i (λa l q _ h=>g a l q h) i h
noncomputable def Ly(e:Expr)(k:Expr->Operator->Expr->Bool):Bool:=if q:e.ctorIdx=2 then Expr.BinOp.elim (motive_1:=λ_=>Bool) e q λl o r _=>k l o r else false
theorem LM{P:Expr->Prop}{e:Expr}{k}(h:Ly e k=true)(g:∀l o r q,k l o r=true->P (.BinOp l o r q)):P e:=by
 obtain⟨i,h⟩:=eV h;show Expr.BinOp.elim (motive_1:=λe=>∀i,Expr.BinOp.elim (motive_1:=λ_=>Bool) e i (λl o r _=>k l o r)=true->P e) e i (λl o r q _ h=>g l o r q h) i h
noncomputable def NL(e:Expr)(k:UnaryOp->Expr->Bool):Bool:=if q:e.ctorIdx=3 then Expr.UnaryOp.elim (motive_1:=λ_=>Bool) e q λo x _=>k o x else false
theorem Jz{P:Expr->Prop}{e:Expr}{k}(h:NL e k=true)(g:∀o x q,k o x=true->P (.UnaryOp o x q)):P e:=by
 obtain⟨i,h⟩:=eV h;show Expr.UnaryOp.elim (motive_1:=λe=>∀i,Expr.UnaryOp.elim (motive_1:=λ_=>Bool) e i (λo x _=>k o x)=true->P e) e i (λo x q _ h=>g o x q h) i h
noncomputable def Ip(e:Expr)(k:Expr->List CmpOp->List Expr->Bool):Bool:=if q:e.ctorIdx=15 then Expr.Compare.elim (motive_1:=λ_=>Bool) e q λl o r _=>k l o r else false
theorem Gm{P:Expr->Prop}{e:Expr}{k}(h:Ip e k=true)(g:∀l o r q,k l o r=true->P (.Compare l o r q)):P e:=by
 obtain⟨i,h⟩:=eV h;show Expr.Compare.elim (motive_1:=λe=>∀i,Expr.Compare.elim (motive_1:=λ_=>Bool) e i (λl o r _=>k l o r)=true->P e) e i (λl o r q _ h=>g l o r q h) i h
noncomputable def Ms(e:Expr)(k:BoolOp->List Expr->Bool):Bool:=if q:e.ctorIdx=0 then Expr.BoolOp.elim (motive_1:=λ_=>Bool) e q λo l _=>k o l else false
theorem Me{P:Expr->Prop}{e:Expr}{k}(h:Ms e k=true)(g:∀o l q,k o l=true->P (.BoolOp o l q)):P e:=by
 obtain⟨i,h⟩:=eV h;show Expr.BoolOp.elim (motive_1:=λe=>∀i,Expr.BoolOp.elim (motive_1:=λ_=>Bool) e i (λo l _=>k o l)=true->P e) e i (λo l q _ h=>g o l q h) i h
noncomputable def PO(e:Expr)(k:Expr->Expr->Expr->Bool):Bool:=if q:e.ctorIdx=5 then Expr.IfExp.elim (motive_1:=λ_=>Bool) e q λx y z _=>k x y z else false
theorem Ox{P:Expr->Prop}{e:Expr}{k}(h:PO e k=true)(g:∀x y z q,k x y z=true->P (.IfExp x y z q)):P e:=by
 obtain⟨i,h⟩:=eV h;show Expr.IfExp.elim (motive_1:=λe=>∀i,Expr.IfExp.elim (motive_1:=λ_=>Bool) e i (λx y z _=>k x y z)=true->P e) e i (λx y z q _ h=>g x y z q h) i h
noncomputable def Bm(e:Expr)(k:Expr->Expr->Bool):Bool:=if q:e.ctorIdx=21 then Expr.Subscript.elim (motive_1:=λ_=>Bool) e q λx y _=>k x y else false
theorem wR{P:Expr->Prop}{e:Expr}{k}(h:Bm e k=true)(g:∀x y q,k x y=true->P (.Subscript x y q)):P e:=by
 obtain⟨i,h⟩:=eV h;show Expr.Subscript.elim (motive_1:=λe=>∀i,Expr.Subscript.elim (motive_1:=λ_=>Bool) e i (λx y _=>k x y)=true->P e) e i (λx y q _ h=>g x y q h) i h
noncomputable def xA(e:Expr)(k:Expr->Str->Pos->Bool):Bool:=if q:e.ctorIdx=20 then Expr.Attribute.elim (motive_1:=λ_=>Bool) e q λx n q=>k x n q else false
theorem qk{P:Expr->Prop}{e:Expr}{k}(h:xA e k=true)(g:∀x n q,k x n q=true->P (.Attribute x n q)):P e:=by
 obtain⟨i,h⟩:=eV h;show Expr.Attribute.elim (motive_1:=λe=>∀i,Expr.Attribute.elim (motive_1:=λ_=>Bool) e i (λx n q=>k x n q)=true->P e) e i (λx n q _ h=>g x n q h) i h
noncomputable def LQ(e:Expr)(k:Expr->List Expr->List Keyword->Pos->Bool):Bool:=if q:e.ctorIdx=16 then Expr.Call.elim (motive_1:=λ_=>Bool) e q λf l w q=>k f l w q else false
theorem LY{P:Expr->Prop}{e:Expr}{k}(h:LQ e k=true)(g:∀f l w q,k f l w q=true->P (.Call f l w q)):P e:=by
 obtain⟨i,h⟩:=eV h;show Expr.Call.elim (motive_1:=λe=>∀i,Expr.Call.elim (motive_1:=λ_=>Bool) e i (λf l w q=>k f l w q)=true->P e) e i (λf l w q _ h=>g f l w q h) i h
noncomputable def Pt(e:Expr)(k:Expr->List Comprehension->Scope->Bool):Bool:=if q:e.ctorIdx=8 then Expr.ListComp.elim (motive_1:=λ_=>Bool) e q λx g c _=>k x g c else false
theorem I9{P:Expr->Prop}{e:Expr}{k}(h:Pt e k=true)(f:∀x g c q,k x g c=true->P (.ListComp x g c q)):P e:=by
 obtain⟨i,h⟩:=eV h;show Expr.ListComp.elim (motive_1:=λe=>∀i,Expr.ListComp.elim (motive_1:=λ_=>Bool) e i (λx g c _=>k x g c)=true->P e) e i (λx g c q _ h=>f x g c q h) i h
noncomputable def PG(e:Expr)(k:Option Expr->Option Expr->Option Expr->Bool):Bool:=if q:e.ctorIdx=26 then Expr.Slice.elim (motive_1:=λ_=>Bool) e q λl u t _=>k l u t else false
theorem OQ{P:Expr->Prop}{e:Expr}{k}(h:PG e k=true)(g:∀l u t q,k l u t=true->P (.Slice l u t q)):P e:=by
 obtain⟨i,h⟩:=eV h;show Expr.Slice.elim (motive_1:=λe=>∀i,Expr.Slice.elim (motive_1:=λ_=>Bool) e i (λl u t _=>k l u t)=true->P e) e i (λl u t q _ h=>g l u t q h) i h
noncomputable def JI(c:Const)(k:Bool->Bool):Bool:=match c with|.bool b=>k b|_=>false
noncomputable def M0(c:Const)(k:Int->Bool):Bool:=match c with|.int b=>k b|_=>false
noncomputable def DM(c:Const)(k:Str->Bool):Bool:=match c with|.str b=>k b|_=>false
noncomputable def zx(c:Const):Bool:=match c with|.none=>true|_=>false
theorem KO{P:Const->Prop}{c:Const}{k}(h:JI c k=true)(g:∀b,k b=true->P (.bool b)):P c:=by cases c<;>first|show g _ h|show fg h
theorem Ml{P:Const->Prop}{c:Const}{k}(h:M0 c k=true)(g:∀b,k b=true->P (.int b)):P c:=by cases c<;>first|show g _ h|show fg h
theorem Au{P:Const->Prop}{c:Const}{k}(h:DM c k=true)(g:∀b,k b=true->P (.str b)):P c:=by cases c<;>first|show g _ h|show fg h
theorem ti{c:Const}(h:zx c=true):c=.none:=by cases c<;>first|rfl|show fg h
noncomputable def l1(l:List α)(k:α->Bool):Bool:=lc l λa r=>l0 r (k a)
theorem rW{P:List α->Prop}{l:List α}{k}(h:l1 l k=true)(g:∀a,k a=true->P [a]):P l:=by
 apply jR h;intro a _ h;apply iy h;show g a
noncomputable def l2(l:List α)(k:α->α->Bool):Bool:=lc l λa r=>l1 r (k a)
theorem DN{P:List α->Prop}{l:List α}{k}(h:l2 l k=true)(g:∀a b,k a b=true->P [a,b]):P l:=by
 apply jR h;intro a _ h;apply rW h;show g a
noncomputable def Gq(o:Option α)(k:α->Bool):Bool:=match o with|some a=>k a|none=>false
theorem zL{P:Option α->Prop}{o:Option α}{k}(h:Gq o k=true)(g:∀a,k a=true->P (some a)):P o:=by
 cases o with
 |none=>show fg h
 |some=>show g _ h
noncomputable def G1(o:Option α)(k:Bool):Bool:=match o with|none=>k|some _=>false
theorem zv{P:Option α->Prop}{o:Option α}{k}(h:G1 o k=true)(g:k=true->P none):P o:=by
 cases o with
 |none=>show g h
 |some=>show fg h
noncomputable def qp(e:Expr)(k:Expr->List Expr->Pos->Bool):Bool:=LQ e λf l w q=>l0 w (k f l q)
theorem pC{P:Expr->Prop}{e:Expr}{k}(h:qp e k=true)(g:∀f l q,k f l q=true->P (.Call f l [] q)):P e:=by
 apply LY h;intro f l _ q h;apply iy h;show g f l q
noncomputable def Nu(e:Expr)(k:Option Expr->Option Expr->Bool):Bool:=PG e λl u t=>G1 t (k l u)
theorem Np{P:Expr->Prop}{e:Expr}{k}(h:Nu e k=true)(g:∀l u q,k l u=true->P (.Slice l u none q)):P e:=by
 apply OQ h;intro l u _ q h;apply zv h;show g l u q
noncomputable def Mv(g:Comprehension)(k:Str->Expr->List Expr->Bool):Bool:=ip g.target λx=>decide (g.is_async=0)&&k x g.iter g.ifs
theorem Gy{P:Comprehension->Prop}{c:Comprehension}{k}(h:Mv c k=true)(g:∀x q i f,k x i f=true->P ⟨.Name x q,i,f,0⟩):P c:=by
 obtain⟨t,i,f,a⟩:=c;show gG (P:=λt=>P ⟨t,i,f,a⟩) h λx q h=>?_
 show fx ((Bool.and_eq_true ..).mp h) λh1 h2=>?_
 obtain z0:=of_decide_eq_true h1;clear h h1;subst z0;show g _ _ _ _ h2
theorem b4{a c d:Bool}(h:(a&&b&&c&&d)=true):a=true/\b=true/\c=true/\d=true:=let⟨x,y⟩:=b2 h;let⟨u,v,w⟩:=b3 x;⟨u,v,w,y⟩
theorem b5{a c d e:Bool}(h:(a&&b&&c&&d&&e)=true):a=true/\b=true/\c=true/\d=true/\e=true:=let⟨x,y⟩:=b2 h;let⟨u,v,w,z⟩:=b4 x;⟨u,v,w,z,y⟩
theorem b6{a c d e f:Bool}(h:(a&&b&&c&&d&&e&&f)=true):a=true/\b=true/\c=true/\d=true/\e=true/\f=true:=let⟨x,y⟩:=b2 h;let⟨u,v,w,z,t⟩:=b5 x;⟨u,v,w,z,t,y⟩
noncomputable def FO:UnaryOp->Bool|.USub=>true|_=>false
noncomputable def E9:UnaryOp->Bool|.Not=>true|_=>false
theorem E8{o}(h:FO o=true):o=.USub:=by cases o<;>first|rfl|show fg h
theorem EY{o}(h:E9 o=true):o=.Not:=by cases o<;>first|rfl|show fg h
noncomputable def ni(e:Expr):Bool:= !(qp e λf l _=>ip f λ_=>l0 l true)
mutual
noncomputable def ff(ns:List (List Nat))(sc:Scope):Ex->Expr->Bool
 |.none,e=>qx e zx
 |.bool b,e=>qx e λc=>JI c λx=>x==b
 |.int i,e=>qx e λc=>M0 c λj=>decide (j=i)
 |.str l,e=>qx e λc=>DM c λx=>CP l&&x==sv l
 |.lv i,e=>ip e λid=>ki ns i id
 |.gv i d,e=>ip e λid=>qe sc i id d
 |.tup es,e=>AX e λl=>decide (l.length<=100)&&ig ns sc es l
 |.lstF es,e=>IJ e λl=>decide (l.length<=100)&&ig ns sc es l
 |.lstT es,e=>IJ e λl=>decide (l.length<=100)&&ig ns sc es l
 |.sdT ks es,e=>zy e λkl l=>qt ns sc es ks kl l
 |.sdF ks es,e=>zy e λkl l=>qt ns sc es ks kl l
 |.ndT,e=>zy e λkl l=>l0 kl (l0 l true)
 |.bin op a b,e=>Ly e λl o r=>ff ns sc a l&&ff ns sc b r&&o==Bp op
 |.neg a,e=>NL e λo x=>FO o&&ff ns sc a x
 |.cmp op a b,e=>Ip e λl os rs=>l1 os λo=>l1 rs λr=>ff ns sc a l&&ff ns sc b r&&o==nZ op&&jN r
 |.cmp2 op op2 a b c,e=>Ip e λl os rs=>l2 os λo o2=>l2 rs λr r2=>ff ns sc a l&&ff ns sc b r&&ff ns sc c r2&&o==nZ op&&o2==nZ op2&&jN r2
 |.bop c es,e=>Ms e λo l=>ig ns sc es l&&o==(if c then .And else .Or)
 |.not a,e=>NL e λo x=>E9 o&&ff ns sc a x
 |.ite c a b,e=>PO e λx y z=>ff ns sc c x&&ff ns sc a y&&ff ns sc b z
 |.sub a i,e=>Bm e λx y=>ff ns sc a x&&ff ns sc i y
 |.slc a lo hi,e=>Bm e λx y=>Nu y λl u=>ff ns sc a x&&(match l with|some l=>ff ns sc lo l|none=>Bl lo)&&(match u with|some u=>ff ns sc hi u|none=>Bl hi)
 |.att a m,e=>xA e λx n _=>ff ns sc a x&&n==sv m&&ni x
 |.call i a es,e=>qp e λf l _=>ip f λid=>qe sc i id (.stat a)&&ig ns sc es l&&decide (l.length<30)
 |.callB f es,e=>qp e λg l _=>ip g λid=>id==jO f&&sc.names.lookup id==some .globalImplicit&&ig ns sc es l&&decide (l.length<30)
 |.methB o m es,e=>qp e λg l pos=>xA g λx n ap=>ff ns sc o x&&n==Ff m&&ni x&&ig ns sc es l&&decide (l.length<30)&&decide (ap.endLine=pos.line)
 |.methP o m es,e=>qp e λg l pos=>xA g λx n ap=>ff ns sc o x&&n==sv m&&ni x&&ig ns sc es l&&decide (l.length<30)&&decide (ap.endLine=pos.line)
 |.comp elt k it cond ns' caps,e=>Pt e λel gs csc=>l1 gs λg=>Mv g λtn iter ifs=>
   ff ns sc it iter&&jN iter&&AE ns sc k ns' caps tn csc&&(match ifs with|[]=>II cond|[c]=>ff ns' (xS csc sc) cond c|_=>false)&&ff ns' (xS csc sc) elt el
noncomputable def ig(ns:List (List Nat))(sc:Scope):gz->List Expr->Bool
 |.nil,l=>l0 l true
 |.cons x xs,l=>lc l λe r=>tL e&&ff ns sc x e&&ig ns sc xs r
noncomputable def qt(ns:List (List Nat))(sc:Scope):gz->List (List Nat)->List (Option Expr)->List Expr->Bool
 |.nil,ks,kl,l=>l0 ks (l0 kl (l0 l true))
 |.cons x xs,ks,kl,l=>lc ks λk ks=>lc kl λke kl=>lc l λe r=>Gq ke λke=>qx ke λc=>DM c λs=>CP k&&s==sv k&&ff ns sc x e&&qt ns sc xs ks kl r&&decide (ks.length<15)
end
structure Cx(B:eD)(A:Around)(stk:List Env)(fr:Fx)(ns:List (List Nat))(sc:Scope)(n:Nat)(U:ew)(W:Wd)(J:Hp)(h:Heap):Prop where
 good:o6 B
 ok:jy fr
 names:fr.names=ns.map sv
 scope:fr.env.scope=sc
 hA:hH A stk n
 hI:ef B stk W J h
 hF:fX B fr W U h
section
variable{stk:List Env}{fr:Fx}{ns:List (List Nat)}{sc:Scope}
theorem Cx.step(c:Cx B A stk fr ns sc n U W J h)(e:eA (frs stk) W h W' h')(i:ef B stk W' aa h'):Cx B A stk fr ns sc n U W' aa h':=
 ⟨c.good,c.ok,c.names,c.scope,c.hA,i,c.hF.ext e⟩
theorem d5.monoE{m:Sem α}{P P':Wd->Hp->α->Prop}(h:d5 B A stk W s m P X)(hp:∀W' aa a (s':Shared),eA (frs stk) W s.heap W' s'.heap->P W' aa a->P' W' aa a):d5 B A stk W s m P' X:=by
 show wpAny_mono h ?_ λ_ _ h=>h
 rintro b s'' ⟨W'',af,e',i',r',p'⟩;show⟨W'',af,e',i',r',hp _ _ _ s'' e' p'⟩
theorem d5.truth{e:Expr}{m:Sem Value}(ht:isTrue e env m=(do let v<-m;standAt e.pos;holding [v] (PySem.truthy v)))(h:d5 B A stk W s m (RV B λd J=>fin true d J Q) X):
  d5 B A stk W s (isTrue e env m) (λ_ J b=>Q (.bool b) J) X:=by
 rwa[ht];show d5.bind h λv s' W' aa e i r hz=>hz.e λd rd q=>d5.at (d5.hold ?_)
 show d6 (j7 q) λb hb q=>?_
 show lj i rd hb q
def f7(B:eD)(A:Around)(stk:List Env)(W:Wd)(s:Shared)(env:Env)(e:Expr)(wp:Bool->(V->Hp->Prop)->Prop)(X:fD->Hp->Prop):Prop:=
 ∀Q:V->Hp->Prop,(wp false Q->d5 B A stk W s (eval e env) (RV B Q) X)/\(wp true Q->d5 B A stk W s (isTrue e env (eval e env)) (λ_ J b=>Q (.bool b) J) X)
theorem f7.plain{e:Expr}(ht:∀m,isTrue e env m=(do let v<-m;standAt e.pos;holding [v] (PySem.truthy v)))(h:∀t Q,wp t Q->d5 B A stk W s (eval e env) (RV B λd J=>fin t d J Q) X):f7 B A stk W s env e wp X:=
 λQ=>⟨λq=>h false Q q,λq=>d5.truth (ht _) (h true Q q)⟩
theorem Ia{x:Str}(c:Cx B A stk fr ns sc n U W J h)(e:ki ns i x=true):fr.names[i]?=some x:=by
 unfold ki at e
 split at e
 ·rename_i l hl;rwa[c.names,List.getElem?_map,hl,beq_iff_eq.mp e];rfl
 ·injection e
theorem Dv{x:Str}(c:Cx B A stk fr ns sc n U W J h)(e:qe sc i x d=true):∃l,Gt[i]?=some (l,d)/\x=sv l/\fr.env.kindOf x=some .globalImplicit/\(x==("__debug__" :Str))=false:=by
 unfold qe at e
 split at e
 ·rename_i p hp;simp only[Bool.and_eq_true,Bool.not_eq_true',beq_iff_eq] at e;obtain⟨⟨⟨e1,e2⟩,e3⟩,e4⟩:=e;obtain⟨l,d'⟩:=p;cases wN _ _ e2;show⟨l,hp,e1,by unfold Env.kindOf;rwa[c.scope];show e3,e4⟩
 ·cases e
def jk(B:eD)(A:Around)(stk:List Env)(W:Wd)(s:Shared)(env:Env)(l:List Expr)(wp:(List V->Hp->Prop)->Prop)(X:fD->Hp->Prop):Prop:=
 ∀(pos:Pos) (Q:List V->Hp->Prop),wp Q->d5 B A stk W s (spliced (backTo pos (starEach l env))) (GN B l.length Q) X/\(backTo pos (starEach l env)).any (·.1)=false
  /\(∀f,d5 B A stk W s (evalArgs f true (backTo pos (starEach l env)) []) (λW' aa a=>a.kw=[]/\GN B l.length Q W' aa a.pos) X)
theorem yQ{e:Expr}{l:List Expr}(h:tL e=true):starEach (e::l) env=(false,eval e env)::starEach l env:=by
 cases e<;>first|rfl|show Bool.noConfusion h
theorem yG{m:Sem Value}{l:List (Bool×Sem Value)}:backTo pos ((false,m)::l)=(false,m)::backTo pos l:=rfl
theorem uX(hI:ef B stk W J s.heap):jk B A stk W s env [] (λQ=>Q [] J) X:=
 λ_ _ q=>⟨d5.pure hI ⟨[],.nil,rfl,q⟩,rfl,λ_=>zr hI ⟨[],.nil,rfl,q⟩⟩
theorem l5{e:Expr}{l:List Expr}{wp1:(V->Hp->Prop)->Prop}{wp2:Hp->(List V->Hp->Prop)->Prop}(hn:tL e=true)(h1:∀Q,wp1 Q->d5 B A stk W s (eval e env) (RV B Q) X)(h2:∀s' W' aa,eA (frs stk) W s.heap W' s'.heap->ef B stk W' aa s'.heap->jk B A stk W' s' env l (wp2 aa) X)(hany:∀pos,(backTo pos (starEach l env)).any (·.1)=false):
  jk B A stk W s env (e::l) (λQ=>wp1 λd aa=>wp2 aa λds af=>Q (d::ds) af) X:=by
 intro pos Q q;rwa[yQ hn,yG];have key:d5 B A stk W s (spliced ((false,eval e env)::backTo pos (starEach l env))) (GN B (e::l).length Q) X:=by
  show vC (d5.mono (h1 _ q) ?_ λ_ _ x=>x);rintro W' aa v ⟨d,rd,q'⟩ s' e' i';show d5.monoE ((h2 s' W' aa e' i') pos _ q').1 ?_;rintro W'' af vs s'' e'' ⟨ds,rds,hl,q''⟩;show⟨d::ds,.cons (e''.rep rd) rds,by show d4 List.length_cons (d4 List.length_cons (d4 hl rfl)),q''⟩
 show⟨key,hany pos,λf=>zp key⟩
end
section
variable{stk:List Env}{fr:Fx}{ns:List (List Nat)}{sc:Scope}
abbrev mv(B:eD)(stk:List Env)(W:Wd)(s:Shared)(f:Shared->Wd->Hp->Prop):Prop:=
 ∀(s':Shared) (W':Wd) (aa:Hp),eA (frs stk) W s.heap W' s'.heap->ef B stk W' aa s'.heap->f s' W' aa
theorem ET{k pos}(hI:ef B stk W J s.heap):f7 B A stk W s env (.Constant .none k pos) (λt Q=>fin t .none J Q) X:=
 .plain (λ_=>rfl) λ_ _ q=>d5.pure hI ⟨_,.none,q⟩
theorem NI{b k pos}(hI:ef B stk W J s.heap):f7 B A stk W s env (.Constant (.bool b) k pos) (λt Q=>fin t (.bool b) J Q) X:=
 .plain (λ_=>rfl) λ_ _ q=>d5.pure hI ⟨_,.bool,q⟩
theorem N5{i k pos}(hI:ef B stk W J s.heap):f7 B A stk W s env (.Constant (.int i) k pos) (λt Q=>fin t (.int i) J Q) X:=
 .plain (λ_=>rfl) λ_ _ q=>wpAny_Constant_int (eM hI ⟨_,.int,q⟩)
theorem DL{l k pos}(hI:ef B stk W J s.heap)(hl:gd l):f7 B A stk W s env (.Constant (.str (sv l)) k pos) (λt Q=>fin t (.str l) J Q) X:=
 .plain (λ_=>rfl) λ_ _ q=>Calls.Constant_str (eM hI ⟨_,.str hl,q⟩)
theorem Qt{x:Str}(c:Cx B A stk fr ns sc n U W J s.heap)(e:ki ns i x=true):f7 B A stk W s fr.env (.Name x pos) (λt Q=>CN U[i]? λd=>fin t d J Q) X:=by
 have hn:=Ia c e;show .plain (λ_=>rfl) λt Q q=>?_
 show JB q λd hd q=>?_
 show gp (c.ok.kinds x (List.mem_of_getElem? hn)) λ_ hdb _=>?_
 show nS hdb (yv c.hI c.ok c.hF hn hd λv r=>⟨_,r,q⟩)
theorem Qx{x:Str}(c:Cx B A stk fr ns sc n U W J s.heap)(e:qe sc i x d=true):f7 B A stk W s fr.env (.Name x pos) (λt Q=>fin t d J Q) X:=by
 show yC (Dv c e) ?_;clear e;rintro l h1 rfl h2 h3;show d6 (c.hI.globals c.good h1) λv e1 r=>?_
 show .plain (λ_=>rfl) λt Q q=>nS h3 (q8 c.hI c.ok h2 e1 ⟨_,r,q⟩)
theorem EI{l:List Expr}{wp:(List V->Hp->Prop)->Prop}(hl:l.length<=100)(h:jk B A stk W s env l wp X):
  f7 B A stk W s env (.Tuple l k pos) (λt Q=>wp λds aa=>fin t (.tup ds) aa Q) X:=by
 show .plain (λ_=>rfl) λt Q q=>?_
 rwa[arm_eval_Tuple ..];show d5.at (d5.bind (h pos _ q).1 λvs s' W' aa e i r hz=>hz.e λds rd hn q'=>?_);show zW i rd (by rwa[hn];unfold eh;show fY ‹_› rfl) q'
theorem LX{l:List Expr}{wp:(List V->Hp->Prop)->Prop}(hl:l.length<=100)(h:jk B A stk W s env l wp X):
  f7 B A stk W s env (.List l pos) (λt Q=>wp λds aa=>fin t (.lst ds) aa Q) X:=by
 show .plain (λ_=>rfl) λt Q q=>?_
 rw[arm_eval_List];show d5.at (d5.bind (h pos _ q).1 λvs s' W' aa e i r hz=>hz.e λds rd hn q'=>?_);show zP i rd (by rw[hn];unfold eh;show fY ‹_› rfl) q'
theorem Mb{l:List Expr}{wp:(List V->Hp->Prop)->Prop}(hl:l.length<=100)(h:jk B A stk W s env l wp X):
  f7 B A stk W s env (.List l pos) (λt Q=>wp λds aa=>fin t (.loc aa.length) (aa++[.lst ds]) Q) X:=by
 show .plain (λ_=>rfl) λt Q q=>?_
 rwa[arm_eval_List ..];show d5.at (d5.bind (h pos _ q).1 λvs s' W' aa e i r hz=>hz.e λds rd hn q'=>?_);show BQ i rd (by rwa[hn];unfold eh;show fY ‹_› rfl) q'
theorem OR(hI:ef B stk W J s.heap):f7 B A stk W s env (.Dict [] [] pos) (λt Q=>fin t (.loc J.length) (J++[.nd []]) Q) X:=
 .plain (λ_=>rfl) λ_ _ q=>JT hI q
theorem OH{l r:Expr}(ha:∀Q,wa Q->d5 B A stk W s (eval l env) (RV B Q) X)(hb:mv B stk W s λs' W' aa=>∀Q,wb aa Q->d5 B A stk W' s' (eval r env) (RV B Q) X):
  f7 B A stk W s env (.BinOp l (Bp op) r pos) (λt Q=>wa λda aa=>wb aa λdb af=>gR op da db af λd ak=>fin t d ak Q) X:=by
 show .plain (λ_=>rfl) λt Q q=>?_
 rwa[arm_eval_BinOp ..];show d5.bind (ha _ q) λva s' W' aa e i r hz=>hz.e λda ra q'=>?_
 show d5.bind (d5.hold (hb s' W' aa e i _ q')) λvb aq ay au aw aE aO hz=>hz.e λdb rb az=>?_
 show d5.at (d5.operate ?_);show KC aE (aw.rep ra) rb az
theorem N7{x:Expr}(ha:∀Q,wa Q->d5 B A stk W s (eval x env) (RV B Q) X):
  f7 B A stk W s env (.UnaryOp .USub x pos) (λt Q=>wa λda aa=>gI da λi=>fin t (.int (-i)) aa Q) X:=by
 show .plain (λ_=>rfl) λt Q q=>?_
 rwa[arm_eval_UnaryOp ..];show d5.bind (ha _ q) λva s' W' aa e i r hz=>hz.e λda ra q'=>d5.at (d5.hold ?_)
 show d6 (ng q') ?_;rintro _ rfl q';clear hz;cases ra;show PyProof.Rows.neg_int (eM i ⟨_,.int,q'⟩)
theorem sF{op:CO}{r:Expr}{t:Sem Value}(h:jN r=true):markedEach [nZ op] [r] [t]=[t]:=by
 cases r<;>first|rfl|show Bool.noConfusion h
theorem OX{op:CO}{l r:Expr}(hA:hH A stk n)(hs:jN r=true)(ha:∀Q,wa Q->d5 B A stk W s (eval l env) (RV B Q) X)(hb:mv B stk W s λs' W' aa=>∀Q,wb aa Q->d5 B A stk W' s' (eval r env) (RV B Q) X):
  f7 B A stk W s env (.Compare l [nZ op] [r] pos) (λt Q=>wa λda aa=>wb aa λdb af=>fa op da db af λd ak=>fin t d ak Q) X:=by
 have key:∀t Q,(wa λda aa=>wb aa λdb af=>fa op da db af λd ak=>fin t d ak Q)->d5 B A stk W s (eval l env>>=λa=>holding [a] (eval r env)>>=λb=>standAt pos>>=λ_=>operate [a,b] (compareOp (nZ op) a b)) (RV B λd J=>fin t d J Q) X:=by
  intro t Q q;show d5.bind (ha _ q) λva s' W' aa e i r hz=>hz.e λda ra q'=>?_
  show d5.bind (d5.hold (hb s' W' aa e i _ q')) λvb aq ay au aw aE aO hz=>hz.e λdb rb az=>?_
  show d5.at (d5.operate (mW hA aE (aw.rep ra) rb az))
 intro Q;constructor
 ·intro q;rwa[arm_eval_Compare ..,(show evalEach [r] env=[eval r env] from rfl),sF hs];show key false Q q
 ·intro q;rwa[arm_isTrue_Compare ..,(show evalEach [r] env=[eval r env] from rfl),sF hs];show d5.bind (ha _ q) λva s' W' aa e i r hz=>hz.e λda ra q'=>?_
  show d5.bind (d5.hold (hb s' W' aa e i _ q')) λvb aq ay au aw aE aO hz=>hz.e λdb rb az=>?_
  show d5.at (d5.bind (d5.operate (mW hA aE (aw.rep ra) rb az)) λvc aI bg ak aC aF bw hz=>hz.e λdc rc aJ=>d5.hold ?_);show d6 (j7 aJ) λb hb aJ=>?_
  show lj aF rc hb aJ
end
section
variable{stk:List Env}{fr:Fx}{ns:List (List Nat)}{sc:Scope}
theorem d5.truthB{k:Bool->Sem β}{P':Wd->Hp->β->Prop}(h:d5 B A stk W s (k b) P' X):d5 B A stk W s (holding vs (PySem.truthy (.bool b))>>=k) P' X:=wpAny_bind (wpAny_holding (wpAny_truthy_bool h))
theorem Lu{op op2:CO}{l r r2:Expr}{wc:Hp->(V->Hp->Prop)->Prop}(hA:hH A stk n)(hs:jN r2=true)(ha:∀Q,wa Q->d5 B A stk W s (eval l env) (RV B Q) X)(hb:mv B stk W s λs' W' aa=>∀Q,wb aa Q->d5 B A stk W' s' (eval r env) (RV B Q) X)(hc:mv B stk W s λs' W' aa=>∀Q,wc aa Q->d5 B A stk W' s' (eval r2 env) (RV B Q) X):
  f7 B A stk W s env (.Compare l [nZ op,nZ op2] [r,r2] pos) (λt Q=>wa λda aa=>wb aa λdb af=>fa op da db af λd ak=>i5 d (wc ak λdc aA=>fa op2 db dc aA λd aP=>fin t d aP Q) (Q (.bool false) ak)) X:=by
 have sh:markedEach [nZ op,nZ op2] [r,r2] (evalEach [r,r2] env)=[eval r env,eval r2 env]:=by
  show eval r env::markedEach [nZ op2] [r2] [eval r2 env]=_;show d4 (sF hs) rfl
 intro Q;constructor
 ·intro q;rwa[arm_eval_Compare ..,sh];show d5.bind (ha _ q) λva s' W' aa e i r hz=>hz.e λda ra q'=>?_
  show d5.bind (d5.hold (hb s' W' aa e i _ q')) λvb aq ay au aw aE aO hz=>hz.e λdb rb az=>?_
  show d5.at (d5.bind (d5.hold (mW hA aE (aw.rep ra) rb az)) λvc aI bg ak aC aF bw hz=>hz.e λdc rc aJ=>?_);show d5.release (JJ aJ λb hb' aR=>?_);subst hb';cases rc;show d5.truthB ?_;clear aJ hz;cases b
  ·show d5.pure aF ⟨_,.bool,aR⟩
  ·show d5.bind (d5.hold (hc aI _ _ ((e.trans aw).trans aC) aF _ aR)) λvd bH bx aP bh bO dH hz=>hz.e λdd rd bI=>d5.at (d5.operate (mW hA bO (bh.rep (aC.rep rb)) rd bI))
 ·intro q;rwa[arm_isTrue_Compare ..,sh];show d5.bind (ha _ q) λva s' W' aa e i r hz=>hz.e λda ra q'=>?_
  show d5.bind (d5.hold (hb s' W' aa e i _ q')) λvb aq ay au aw aE aO hz=>hz.e λdb rb az=>?_
  show d5.at (d5.bind (d5.hold (mW hA aE (aw.rep ra) rb az)) λvc aI bg ak aC aF bw hz=>hz.e λdc rc aJ=>?_);show d5.release (JJ aJ λb hb' aR=>?_);subst hb';cases rc;show d5.truthB ?_;clear aJ hz;cases b
  ·show d5.pure aF aR
  ·show d5.bind (d5.hold (hc aI _ _ ((e.trans aw).trans aC) aF _ aR)) λvd bH bx aP bh bO dH hz=>hz.e λdd rd bI=>?_
   show d5.at (d5.bind (d5.operate (mW hA bO (bh.rep (aC.rep rb)) rd bI)) λvf dW dX bl cJ bP dY hz=>hz.e λdf rf cg=>d5.hold ?_);show d6 (j7 cg) λb hb cg=>?_
   show lj bP rf hb cg
def vZ(B:eD)(A:Around)(stk:List Env)(W:Wd)(s:Shared)(env:Env)(c:Bool)(l:List Expr)(wp:Bool->(V->Hp->Prop)->Prop)(X:fD->Hp->Prop):Prop:=
 ∀Q:V->Hp->Prop,(wp false Q->∀pos,d5 B A stk W s (boolOp pos (if c then .And else .Or) (evalEach l env)) (RV B Q) X)/\(wp true Q->d5 B A stk W s (allTrue (if c then .And else .Or) l env) (λ_ J b=>Q (.bool b) J) X)
theorem K1{c:Bool}{e:Expr}(h:f7 B A stk W s env e wp X):vZ B A stk W s env c [e] wp X:=by
 intro Q;show⟨λq pos=>(h Q).1 q,λq=>?_⟩;show d5.bind ((h Q).2 q) λb s' W' aa e i r q'=>?_
 cases c<;>cases b<;>show d5.pure i q'
theorem Iv{c:Bool}{e e':Expr}{l:List Expr}{wr:Hp->Bool->(V->Hp->Prop)->Prop}(h:f7 B A stk W s env e wp X)(hr:mv B stk W s λs' W' aa=>vZ B A stk W' s' env c (e'::l) (wr aa) X):
  vZ B A stk W s env c (e::e'::l) (λt Q=>wp t λd aa=>u3 c d aa (wr aa t Q) λd=>Q d aa) X:=by
 intro Q;constructor
 ·intro q pos;show d5 B A stk W s (boolOp pos (if c then .And else .Or) (eval e env::eval e' env::evalEach l env)) (RV B Q) X
  show d5.bind ((h _).1 q) λv s' W' aa ex i r hz=>hz.e λd rd q'=>d5.at ?_
  rw[tY] at q';show d6 (j7 q') λb hb q'=>?_
  show d5.bind (d5.hold (lj (P:=λW J b'=>RV B (λd J=>b'=b/\if b=c then wr J false Q else Q d J) W J v) i rd hb ⟨d,rd,rfl,q'⟩)) λb' aV aX aA aY aZ cK hz=>hz.e λd rd qq=>fx qq λhb' az=>?_
  subst hb'
  by_cases w:b'=c
  ·rw[if_pos w] at az;subst w;obtain this:=(hr aV _ _ (ex.trans aY) aZ Q).1 az pos;clear hb hr q q' hz qq;cases b'<;>show this
  ·rw[if_neg w] at az;obtain this:d5 B A stk aX aV (pure v) (RV B Q) X:=d5.pure aZ ⟨_,rd,az⟩;clear hb q' hz qq;cases b'<;>cases c<;>first|show absurd rfl w|show this
 ·intro q;show d5 B A stk W s (allTrue (if c then .And else .Or) (e::e'::l) env) _ X
  show d5.bind ((h _).2 q) λb s' W' aa ex i r q'=>?_
  rw[tY] at q';have az:if b=c then wr aa true Q else Q (.bool b) aa:=q'
  by_cases w:b=c
  ·rw[if_pos w] at az;subst w;obtain this:=(hr s' _ _ ex i Q).2 az;clear hr q q';cases b<;>show this
  ·rw[if_neg w] at az;obtain this:d5 B A stk W' s' (pure b) (λ_ J b=>Q (.bool b) J) X:=d5.pure i az;clear q' az;cases b<;>cases c<;>first|show absurd rfl w|show this
theorem OT{c:Bool}{l:List Expr}(h:vZ B A stk W s env c l wp X):f7 B A stk W s env (.BoolOp (if c then .And else .Or) l pos) wp X:=
 λQ=>⟨λq=>(h Q).1 q pos,λq=>(h Q).2 q⟩
theorem Od{x:Expr}(h:f7 B A stk W s env x wp X):
  f7 B A stk W s env (.UnaryOp .Not x pos) (λt Q=>wp t λda aa=>lu (truthy da aa) λb=>Q (.bool (!b)) aa) X:=by
 intro Q;constructor
 ·intro q;rwa[arm_eval_UnaryOp ..];show d5.bind ((h _).1 q) λv s' W' aa ex i r hz=>hz.e λd rd q'=>d5.at (d5.hold ?_)
  show d6 (j7 q') λb hb q'=>?_
  show d5.hold (d5.bind (lj (P:=λW J b'=>Q (.bool (!b')) J) i rd hb q') λb' aV aX aA aY aZ cK q'=>d5.pure aZ ⟨_,.bool,q'⟩)
 ·intro q;rwa[arm_isTrue_UnaryOp ..];show d5.bind ((h _).2 q) λb s' W' aa ex i r q'=>?_
  show d5.pure i q'
theorem OS{x y z:Expr}{wc:Bool->(V->Hp->Prop)->Prop}{wa wb:Hp->Bool->(V->Hp->Prop)->Prop}(hc:f7 B A stk W s env x wc X)(ha:mv B stk W s λs' W' aa=>f7 B A stk W' s' env y (wa aa) X)(hb:mv B stk W s λs' W' aa=>f7 B A stk W' s' env z (wb aa) X):
  f7 B A stk W s env (.IfExp x y z pos) (λt Q=>wc true λdc aa=>match dc with
  |.bool true=>wa aa t Q
  |.bool false=>wb aa t Q
  |_=>False) X:=by
 intro Q;constructor
 ·intro q;rwa[arm_eval_IfExp ..];show d5.bind ((hc _).2 q) λb s' W' aa ex i r q'=>?_
  cases b
  ·show((hb s' W' aa ex i) Q).1 q'
  ·show((ha s' W' aa ex i) Q).1 q'
 ·intro q;rwa[arm_isTrue_IfExp ..];show d5.bind ((hc _).2 q) λb s' W' aa ex i r q'=>?_
  cases b
  ·show((hb s' W' aa ex i) Q).2 q'
  ·show((ha s' W' aa ex i) Q).2 q'
end
theorem DC:mR.all (λr=>jP.any λq=>q.1==r.1)=true:=by decide+kernel
section
variable{stk:List Env}{fr:Fx}{ns:List (List Nat)}{sc:Scope}
theorem mO{C f:Addr}{m:List Nat}(e:iz C m=some f):(C,m,f)∈mR/\∃q,(C,q)∈jP:=by
 unfold iz at e;show d6 (Option.map_eq_some_iff.mp e) λr e1 e2=>?_
 have h1:=List.find?_some e1;have h2:=List.mem_of_find?_eq_some e1;simp only[Bool.and_eq_true,beq_iff_eq] at h1;obtain⟨a,b,c⟩:=r;show fx h1 λh3 h4=>?_
 dsimp only at h3 h4 e2;clear e e1 h1;subst h3 h4 e2;show⟨h2,?_⟩;obtain this:=List.all_eq_true.mp DC _ h2;show d6 (List.any_eq_true.mp this) ?_;rintro⟨C',q⟩ m1 m2;show⟨q,by simp only[beq_iff_eq] at m2;rwa[m2.symm];show m1⟩
theorem J7{C d f:Addr}{m:List Nat}{v:Value}{pl:Sem Bool}{Q:Value×List Value->Shared->Prop}(hI:ef B stk W J s.heap)(r:W.Rep B (.inst C d) v)(e:iz C m=some f)(ek:J[d]?=some (.sd kvs))(en:eY kvs m=none)(hq:Q (.ref f,[v]) s):wpAny B.M A (getMethod v (sv m) pl) Q E s:=by
 obtain⟨x,dx,od,sl,rfl,h1,h2,⟨vs,h3,hr⟩,I⟩:=Rep.isInst hI r ek;obtain⟨m1,q,m2⟩:=mO e;have P:=B.cls C q m2;show fx (B.meth _ _ _ m1) λf1 f2=>?_
 rcases lJ hr m with⟨d',u,e1,e2,e3⟩|⟨e1,e2⟩
 ·rw[en] at e1;injection e1
 ·show method_fn hI.inK I P.ga P.gt f1 f2 ?_ hq;show(lookIn (sv m) od).map (·.isSome)=some false
  rwa[sq (B:=B) h3,e2];rfl
theorem d5.err(e:eA (frs stk) W s.heap W' h')(i:ef B stk W' aa h')(r:gc s s')(hs:s'.heap=h':=by rfl):∀(x:Value) (s'':Shared),
  yb B stk W' s' X x s''->yb B stk W s X x s'':=by
 rintro x s'' ⟨W'',af,y,e',i',r',q,q'⟩;subst hs;show⟨W'',af,y,e.trans e',i',r.trans r',q.back (eA.fresh e i),q'⟩
theorem d5.from{P:Wd->Hp->α->Prop}{m:Sem α}(e:eA (frs stk) W s.heap W' s'.heap)(i:ef B stk W' aa s'.heap)(r:gc s s')(h:d5 B A stk W' s' m P X):
  wpAny B.M A m (mm B stk W s P) (yb B stk W s X) s':=by
 show wpAny_mono h ?_ ?_
 ·rintro a s'' ⟨W'',af,e',i',r',p⟩;show⟨W'',af,e.trans e',i',r.trans r',p⟩
 ·rintro x s'' ⟨W'',af,y,e',i',r',q,q'⟩;show⟨W'',af,y,e.trans e',i',r.trans r',q.back (eA.fresh e i),q'⟩
theorem Ou{x y:Expr}(ha:∀Q,wa Q->d5 B A stk W s (eval x env) (RV B Q) X)(hb:mv B stk W s λs' W' aa=>∀Q,wb aa Q->d5 B A stk W' s' (eval y env) (RV B Q) X):
  f7 B A stk W s env (.Subscript x y pos) (λt Q=>wa λda aa=>wb aa λdi af=>eO da di af λd ak=>fin t d ak Q) X:=by
 show .plain (λ_=>rfl) λt Q q=>?_
 have e:eval (.Subscript x y pos) env=(eval x env>>=λo=>holding [o] (eval y env)>>=λi=>standAt pos>>=λ_=>subscriptTail x y o i):=rfl;rwa[e];show d5.bind (ha _ q) λva s' W' aa e i r hz=>hz.e λda ra q'=>?_
 show d5.bind (d5.hold (hb s' W' aa e i _ q')) λvb aq ay au aw aE aO hz=>hz.e λdb rb az=>d5.at ?_
 show Lb aE (aw.rep ra) rb az
theorem OG{x:Expr}{l u:Option Expr}{p:Pos}{wl wh:Hp->(V->Hp->Prop)->Prop}(ha:∀Q,wa Q->d5 B A stk W s (eval x env) (RV B Q) X)(hl:mv B stk W s λs' W' aa=>∀Q,wl aa Q->d5 B A stk W' s' (valueOrNone (evalOpt l env)) (RV B Q) X)(hu:mv B stk W s λs' W' aa=>∀Q,wh aa Q->d5 B A stk W' s' (valueOrNone (evalOpt u env)) (RV B Q) X):
  f7 B A stk W s env (.Subscript x (.Slice l u none p) pos) (λt Q=>wa λda aa=>wl aa λdl af=>wh af λdh ak=>gf da dl dh ak λd aA=>fin t d aA Q) X:=by
 show .plain (λ_=>rfl) λt Q q=>?_
 have e:eval (.Subscript x (.Slice l u none p) pos) env=(eval x env>>=λo=>holding [o] (valueOrNone (evalOpt l env)>>=λa=>holding [a] (valueOrNone (evalOpt u env))>>=λb=>holding [a,b] (pure .none)>>=λc=>newFields "slice" [a,b,c])
   >>=λi=>standAt pos>>=λ_=>subscriptTail x (.Slice l u none p) o i):=rfl
 rwa[e];show d5.bind (ha _ q) λva s' W' aa e i r hz=>hz.e λda ra q'=>?_
 show wpAny_bind (wpAny_holding ?_);show wpAny_bind (wpAny_mono (hl s' W' aa e i _ q') ?_ λ_ _ h=>h);rintro vl aq ⟨ay,au,aw,aE,aO,dl,rl,az⟩;show wpAny_bind (wpAny_mono (wpAny_holding (hu aq ay au (e.trans aw) aE _ az)) ?_ (d5.err aw aE aO));rintro vh aI ⟨bg,ak,aC,aF,bw,dh,rh,aJ⟩;obtain cQ:=aw.trans aC;have cj:=aO.trans bw;show wpAny_bind (wpAny_holding (wpAny_pure ?_));show wpAny_newObj_type ?_ (by size_fits);show wpAny_bind (wpAny_standAt ?_);obtain hx:=JY (A:=A) (X:=X) (ve:=x) (se:=.Slice l u none p) aF (aC.rep (aw.rep ra)) (aC.rep rl) rh aJ;show d5.from (cQ.trans (eA.junk bg aI.heap _)) (aF.junk _) ⟨cj.gens,cj.os⟩ hx
theorem wg{x:Expr}{m:Str}{ev:Sem Value}(hn:ni x=true):attributeBase x m env ev=ev:=by
 cases x with
 |Call f l w q=>cases f with
  |Name=>cases l with
   |nil=>cases w with
    |nil=>show Bool.noConfusion hn
    |cons=>rfl
   |cons=>rfl
  |_=>rfl
 |_=>rfl
theorem Oe{x:Expr}{m:List Nat}(hn:ni x=true)(ha:∀Q,wa Q->d5 B A stk W s (eval x env) (RV B Q) X):
  f7 B A stk W s env (.Attribute x (sv m) pos) (λt Q=>wa λda aa=>fy da m aa λd af=>fin t d af Q) X:=by
 show .plain (λ_=>rfl) λt Q q=>?_
 rwa[arm_eval_Attribute ..];rwa[wg hn];show d5.bind (ha _ q) λva s' W' aa e i r hz=>hz.e λda ra q'=>d5.at ?_
 show d5.bind (d5.hold (B7 i ra q')) λv aq ay au aw aE aO bQ=>?_
 show wpAny_bind (wpAny_letTemporaryGo (d5.pure aE bQ))
end
section
variable{stk:List Env}{fr:Fx}{ns:List (List Nat)}{sc:Scope}
theorem MR{x:Str}{l:List Expr}{p:Pos}{wp:Hp->(List V->Hp->Prop)->Prop}(c:Cx B A stk fr ns sc n U W J s.heap)(hg:qe sc i x (.stat a)=true)(h:mv B stk W s λs' W' aa=>jk B A stk W' s' fr.env l (wp aa) X):f7 B A stk W s fr.env (.Call (.Name x p) l [] pos) (λt Q=>wp J λds aa=>d7 B n a ds aa (λd af=>fin t d af Q) X) X:=by
 show .plain (λ_=>rfl) λt Q q=>?_
 rw[arm_eval_Call_Name'];show yC (Dv c hg) ?_;clear hg;rintro y h1 rfl h2 h3;show d6 (c.hI.globals c.good h1) λv e1 r=>?_
 cases r;have hc:jJ B (.ref a):=(c.good.callee _ _ _ h1).elim u6 zS;show d5.bind (nS (P:=λW' aa v=>v=.ref a/\W'=W/\aa=J) h3 (q8 c.hI c.ok h2 e1 ⟨rfl,rfl,rfl⟩)) λv s' W' aa e i r hz=>gp hz λhv hW cR=>?_
 clear hz;subst hv hW cR;show gp (h s' _ _ e i pos _ q) λ_ hp ha=>?_
 show nM hc hp (d5.monoE (ha _) ?_);rintro ay au ar aq aw ⟨hk,ds,rd,hl,hq⟩;show⟨hk,λaI aC aF=>BR c.hA aF rd hq⟩
theorem J1{f:BF}{l:List Expr}{p:Pos}{wp:Hp->(List V->Hp->Prop)->Prop}(c:Cx B A stk fr ns sc n U W J s.heap)(hg:fr.env.kindOf (jO f)=some .globalImplicit)(h:mv B stk W s λs' W' aa=>jk B A stk W' s' fr.env l (wp aa) X):f7 B A stk W s fr.env (.Call (.Name (jO f) p) l [] pos) (λt Q=>wp J λds aa=>je f ds aa λd af=>fin t d af Q) X:=by
 show .plain (λ_=>rfl) λt Q q=>?_
 rwa[arm_eval_Call_Name' ..];have hdb:(jO f==("__debug__" :Str))=false:=by clear hg q;cases f<;>decide+kernel
 obtain hc:jJ B (Ha f):=by clear hg q hdb;cases f<;>first|show rC _|show DO _
 show d5.bind (nS (P:=λW' aa v=>v=Ha f/\W'=W/\aa=J) hdb (Cr c.good c.hI c.ok hg ⟨rfl,rfl,rfl⟩)) λv s' W' aa e i r hz=>gp hz λhv hW cR=>?_
 clear hz;subst hv hW cR;show gp (h s' _ _ e i pos _ q) λ_ hp ha=>?_
 show nM hc hp (d5.monoE (ha _) ?_);rintro ay au ar aq aw ⟨hk,ds,rd,hl,hq⟩;show⟨hk,λaI aC aF=>MU c.hA aF rd hq⟩
theorem HX{l:List Expr}(hp:(backTo pos (starEach l env)).any (·.1)=false)(hl:k<30):methodCallForm k (backTo pos (starEach l env)) []=true:=by
 unfold methodCallForm;obtain this:(backTo pos (starEach l env)).all (λx=> !x.1)=true:=by
  rw[List.all_eq_true];intro x hx;have:=List.any_eq_false.mp hp x hx
  simpa using this
 simp only[this,List.all_nil,List.isEmpty_nil,if_true,Bool.true_and]
 simpa using hl
theorem E2{x:Expr}{m:Str}{l:List Expr}{ap:Pos}{P:Wd->Hp->Value->Prop}{wa:V->Hp->Prop}(hn:ni x=true)(hl:l.length<30)(hpos:ap.endLine=pos.line)(hx:d5 B A stk W s (eval x env) (RV B wa) X)(hm:∀d v s' W' aa,eA (frs stk) W s.heap W' s'.heap->ef B stk W' aa s'.heap->W'.Rep B d v->wa d aa->∃f,jJ B f/\(∀pl Q' E',Q' (f,[v]) s'->wpAny B.M A (getMethod v m pl) Q' E' s')/\
   (backTo pos (starEach l env)).any (·.1)=false/\
   d5 B A stk W' s' (evalArgs f true (backTo pos (starEach l env)) []) (λay au a=>a.kw=[]/\∀aq,eA (frs stk) W' s'.heap ay aq.heap->ef B stk ay au aq.heap->d5 B A stk ay aq (call f (v::a.pos)) P X) X):
  d5 B A stk W s (eval (.Call (.Attribute x m ap) l [] pos) env) P X:=by
 rwa[arm_eval_Call ..,wg hn];show d5.bind hx λv s' W' aa e i r hz=>hz.e λd rd q=>d5.at ?_
 show yC (hm d v s' W' aa e i rd q) λf hc hg hp ha=>?_
 unfold methodCall;obtain ft:methodCallForm (l.length+([]:List Keyword).length) (backTo pos (starEach l env)) (backToKw pos (keywordEach [] env))=true:=HX hp (by simpa using hl);rwa[ft];show wpAny_bind (wpAny_holding ?_);unfold calleeOf;rwa[if_pos rfl];show hg _ _ _ ?_;dsimp only;unfold methodCallPos;rwa[if_pos (by simp[hpos])];show wpAny_bind (wpAny_pure (nM hc hp ha))
end
section
variable{stk:List Env}{fr:Fx}{ns:List (List Nat)}{sc:Scope}
structure hO(W:Wd)(h:Heap)(a:Addr)(o:Obj):Prop where
 at_:h.get? a=some o
 outι:a∉W.ι
 outF:W.F a=none
theorem hO.ext(x:hO W h a o)(e:eA (frs stk) W h W' h')(nf:a∉frs stk):hO W' h' a o:=
 ⟨e.exact_ x.at_ x.outι nf,e.outι x.at_ x.outι,e.outF x.at_ x.outι x.outF⟩
theorem hO.same{b:Addr}(x:hO W h a o)(s:Heap.SameBut b h h')(ne:a≠b):hO W h' a o:=⟨(s.2 a ne).trans x.at_,x.outι,x.outF⟩
theorem hO.extBut{b:Addr}(x:hO W h a o)(s:Heap.ExtBut b h h')(ne:a≠b):hO W h' a o:=⟨s a o ne x.at_,x.outι,x.outF⟩
theorem hO.new(hI:ef B stk W J h)(o:Obj)(hf:o.isFreed=false:=by rfl):hO W (h.push o) h.objs.size o:=⟨Heap.get?_push_size _ hf,hI.fresh.2,hI.fresh.1⟩
theorem hO.push{o':Obj}(x:hO W h a o):hO W (h.push o') a o:=⟨Heap.get?_push_of_some _ x.at_,x.outι,x.outF⟩
theorem ef.notFrs(hI:ef B stk W J h)(e:h.get? a=none):a∉frs stk:=by
 intro m;show d6 (List.mem_filterMap.mp m) λenv me e'=>?_
 obtain⟨_,L,o,e1,e2,_⟩:=hI.frames env me;rw[e1] at e';injection e' with e';clear m;subst e'
 rw[e] at e2;injection e2
theorem eA.other{S:List Addr}(x:eA S W h W' h')(n:h.get? a=none)(s:Heap.SameBut a h' h''):eA S W h W' h'' where
 F:=x.F
 ι:=x.ι
 newι:=x.newι
 newF:=x.newF
 keep b o e k:=by
  show d6 (x.keep b o e k) λsl e' f=>?_
  show⟨sl,(s.2 b (by intro q;clear s;subst q;rw[n] at e;injection e)).trans e',f⟩
theorem rS{x:Str}{v:Value}{Q:Unit->Shared->Prop}(hI:ef B stk W J s.heap)(ok:jy fr)(hF:fX B fr W U s.heap)(hn:fr.names[i]?=some x)(hnf:fr.env.kindOf x≠some .free)(r:W.Rep B d v)(h:∀h' m c,Heap.SameBut c s.heap h'->(fr.env.kindOf x=some .local/\c=fr.env.locals\/fr.env.kindOf x≠some .local/\fr.env.cells.lookup x=some c)->ef B stk W J h'->fX B fr W (U.set i (some d)) h'->Q () {s with heap:=h',toks:=m}):
  wpAny B.M A (storeName fr.env x v) Q E s:=by
 show jb hF λm cm F=>?_
 show gp (ok.kinds x (List.mem_of_getElem? hn)) λhk hd hc=>?_
 have nd:∀j y,fr.names[j]?=some y->y=x->j=i:=by
  intro j y e1 e2;clear hnf h hk hd hc;subst e2;show fv (List.getElem?_eq_some_iff.mp e1) λh1 h2=>?_
  show fv (List.getElem?_eq_some_iff.mp hn) λh3 h4=>?_
  show(List.getElem_inj ok.nodup).mp (h2.trans h4.symm)
 have vars:∀(slot':Str->Option Value),(∀y,y≠x->slot' y=jD fr m cm y)->slot' x=some v->∀(j:Nat) (d':V),(U.set i (some d))[j]?=some (some d')->∃y u,fr.names[j]?=some y/\slot' y=some u/\W.Rep B d' u:=by
  intro slot' h1 h2 j d' e
  by_cases q:j=i
  ·clear h nd;subst q;have hl:=(List.getElem?_eq_some_iff.mp e).1;rw[List.length_set] at hl;rw[List.getElem?_set_self hl] at e;injection e with e;injection e with e;subst e
   show⟨x,v,hn,h2,r⟩
  ·rw[List.getElem?_set_ne (Ne.symm q)] at e;show jE (F.vars j d' e) λy u e1 e2 e3=>?_
   show⟨y,u,e1,?_,e3⟩;rwa[h1 y (λw=>q (nd j y e1 w))];show e2
 rcases hk with hk|⟨hk,hs⟩
 ·show wpAny_storeName_local hk F.ns (λh' hn' hs'=>?_) (by rwa[ok.kind];rfl);have hI':ef B stk W J h':=hI.other hs' F.outF F.outι λo _ _=>by
   show zb hn' λo' es ep q1 q2 _=>?_
   show⟨o',q1,by intro vs w;rw[q2] at w;injection w⟩
  show h h' _ fr.env.locals hs' (.inl ⟨hk,rfl⟩) hI' ⟨_,cm,⟨hn',F.outι,F.outF,λnm c e=>?_,F.cinj,?_⟩⟩
  ·show iS (F.cell nm c e) ?_;rintro⟨o,q1,q2⟩ q3 q4 q5;show⟨⟨o,(hs'.2 c q5).trans q1,q2⟩,q3,q4,q5⟩
  ·show vars _ (λy hy=>?_) ?_
   ·unfold jD
    split
    ·show if_neg hy
    ·rfl
   ·unfold jD;rwa[if_pos hk];show if_pos rfl
 ·show fv (Option.isSome_iff_exists.mp hs) λc hl=>?_
  show iS (F.cell x c hl) λhc1 hc2 hc3 hc4=>?_
  have nl:fr.env.kindOf x≠some .local:=by rcases hk with hk|hk<;>rw[hk]<;>show dt rfl
  obtain fin:∀h',h'.IsCell c (some v)->Heap.SameBut c s.heap h'->Q () {s with heap:=h'}:=by
   intro h' hn' hs';obtain hI':ef B stk W J h':=hI.other hs' hc3 hc2 λo _ _=>by
    show d6 hn' λo' q1 q2=>?_
    show⟨o',q1,by intro vs w;rw[q2] at w;injection w⟩
   show h h' s.toks c hs' (.inr ⟨nl,hl⟩) hI' ⟨m,λy=>if y=x then some v else cm y,⟨?_,F.outι,F.outF,λnm c' e=>?_,F.cinj,?_⟩⟩
   ·show uI F.ns λo es ep q1 q2=>?_
    show⟨o,es,ep,(hs'.2 _ (Ne.symm hc4)).trans q1,q2⟩
   ·show iS (F.cell nm c' e) ?_;rintro⟨o,q1,q2⟩ q3 q4 q5
    by_cases w:nm=x
    ·clear hn hnf h hd hc nd vars hk hs hc1 nl;subst w;rw[hl] at e;injection e with e;clear q1;subst e
     rwa[if_pos rfl];show⟨hn',q3,q4,q5⟩
    ·rwa[if_neg w];obtain this:c'≠c:=λz=>w (F.cinj nm x c' e (by rwa[z];show hl))
     show⟨⟨o,(hs'.2 c' this).trans q1,q2⟩,q3,q4,q5⟩
   ·show vars _ (λy hy=>?_) ?_
    ·unfold jD
     split
     ·rfl
     ·show if_neg hy
    ·unfold jD;rwa[if_neg nl];show if_pos rfl
  rcases hk with hk|hk
  ·show wpAny_storeName_cell ok.kind hk hl hc1 fin
  ·show absurd hk hnf
end
theorem z5:∀(l:List (Str×NameKind)) (acc:List (Str×Addr)),(∀x∈l,x.2=.free->(env.cells.lookup x.1).isSome=true)->(∀n c,acc.lookup n=some c->env.cells.lookup n=some c)->
  ∃cl,(forIn l acc λ(x:Str×NameKind) (cs:List (Str×Addr))=>(if(x.2==.free)=true then(cellOf env x.1>>=λc=>pure (ForInStep.yield ((x.1,c)::cs))) else pure (ForInStep.yield cs):Sem (ForInStep (List (Str×Addr)))))=pure cl/\
   (∀n c,cl.lookup n=some c->env.cells.lookup n=some c)/\(∀n,(acc.lookup n).isSome=true->(cl.lookup n).isSome=true)/\∀x∈l,x.2=.free->(cl.lookup x.1).isSome=true:=by
 intro l
 induction l with
 |nil=>intro acc _ h;show⟨acc,rfl,h,λ_ h=>h,λx hx=>absurd hx List.not_mem_nil⟩
 |cons x r ih=>
  intro acc h1 h2;rwa[List.forIn_cons ..]
  by_cases q:x.2=.free
  ·show fv (Option.isSome_iff_exists.mp (h1 x (.head _) q)) λc hc=>?_
   obtain e:cellOf env x.1=pure c:=by unfold cellOf;show d4 hc rfl
   show yC (ih ((x.1,c)::acc) (λy hy=>h1 y (.tail _ hy)) (λn c' hn=>by
    rw[List.lookup_cons] at hn
    split at hn
    ·rename_i w;cases hn;rwa[beq_iff_eq.mp w];show hc
    ·show h2 n c' hn)) λcl e1 e2 e3 e4=>?_
   show⟨cl,?_,e2,λn hn=>e3 n ?_,λy hy hf=>?_⟩
   ·rwa[if_pos (by simp[q]),e];show e1
   ·rwa[List.lookup_cons];split
    ·rfl
    ·show hn
   ·cases hy with
    |head=>show e3 _ (by rwa[List.lookup_cons];simp)
    |tail _ hy=>show e4 y hy hf
  ·show yC (ih acc (λy hy=>h1 y (.tail _ hy)) h2) λcl e1 e2 e3 e4=>?_
   show⟨cl,?_,e2,e3,λy hy hf=>?_⟩
   ·rwa[if_neg (by simpa using q)];show e1
   ·cases hy with
    |head=>show absurd hf q
    |tail _ hy=>show e4 y hy hf
theorem D0(h:∀x∈csc.names,x.2=.free->(env.cells.lookup x.1).isSome=true):
  ∃cl,closureFor csc env=pure cl/\(∀n c,cl.lookup n=some c->env.cells.lookup n=some c)/\∀x∈csc.names,x.2=.free->(cl.lookup x.1).isSome=true:=by
 show yC (z5 csc.names [] h (λn c e=>by simp at e)) λcl e1 e2 _ e4=>?_
 show⟨cl,?_,e2,e4⟩;unfold closureFor;show(bind_pure _).trans e1
theorem yf{ns:List (List Nat)}{sc:Scope}:∀{caps:List Nat} {ns':List (List Nat)},xg ns sc csc caps ns'=true->
  ns'.length=caps.length+1/\∀(j:Nat) (l:List Nat),ns'[j]?=some l->j<caps.length->∃i,caps[j]?=some i/\ns[i]?=some l/\csc.names.lookup (sv l)=some .free/\(sc.names.lookup (sv l)=some .cell\/sc.names.lookup (sv l)=some .free):=by
 intro caps
 induction caps with
 |nil=>
  intro ns' h;apply jR h;intro a r h;apply iy h;intro _;show⟨rfl,λj l _ hj=>absurd hj (Nat.not_lt_zero _)⟩
 |cons i is ih=>
  intro ns' h;apply jR h;intro a r h
  ·show fx (b2 h) λh1 h2=>?_
   show fx (ih h2) λe1 e2=>?_
   show⟨by simp[e1],?_⟩;intro j l hl hj;cases j with
   |zero=>
    simp at hl;subst hl;unfold Jw at h1;simp only[Bool.and_eq_true,Bool.or_eq_true,beq_iff_eq] at h1;show fx h1 ?_;rintro⟨q1,q2⟩ q3;show⟨i,by simp,?_,q2,q3⟩
    split at q1
    ·rename_i l' hl';rwa[hl'];rw[decide_eq_true_eq] at q1;show d4 q1 rfl
    ·injection q1
   |succ j=>
    simp at hl hj;show fv (e2 j l hl hj) λi' q=>?_
    show⟨i',by simpa using q⟩
theorem sk{x:Str}(h:csc.names.lookup x=some .free)(hk:env.scope.kind=.function)(hc:env.scope.names.lookup x=some .cell\/env.scope.names.lookup x=some .free):
  (relabel csc env).names.lookup x=some .cell\/(relabel csc env).names.lookup x=some .free:=by
 unfold relabel;dsimp only;generalize csc.names=l at h
 induction l with
 |nil=>simp at h
 |cons p r ih=>
  obtain⟨y,k⟩:=p;rw[List.lookup_cons] at h;rwa[List.map_cons];cases q:x==y with
  |true=>
   rw[q] at h;injection h with h;subst h
   obtain q':=beq_iff_eq.mp q;subst q';rcases hc with hc|hc
   ·left;obtain this:(NameKind.free==NameKind.free&&env.scope.kind==.function&&env.kindOf x==some .cell)=true:=by rwa[hk];unfold Env.kindOf;rwa[hc];rfl
    dsimp only;show d4 (if_pos this) (d4 List.lookup_cons (d4 q rfl))
   ·right;obtain this:¬(NameKind.free==NameKind.free&&env.scope.kind==.function&&env.kindOf x==some .cell)=true:=by rwa[hk];unfold Env.kindOf;rwa[hc];show dt rfl
    dsimp only;show d4 (if_neg this) (d4 List.lookup_cons (d4 q rfl))
  |false=>
   rw[q] at h;obtain this:=ih h;dsimp only
   split<;>(rw[List.lookup_cons,q];show this)
section
variable{stk:List Env}{fr:Fx}{ns:List (List Nat)}{sc:Scope}
structure jL(ns:List (List Nat))(sc:Scope)(k:Nat)(ns':List (List Nat))(caps:List Nat)(tn:Str)(csc:Scope):Prop where
 kind:csc.kind=.function
 tgt:∃l,ns'[k]?=some l/\tn=sv l
 k:k=caps.length
 loc:csc.names.lookup tn=some .local
 caps:xg ns sc csc caps ns'=true
 nodup:ns'.Nodup
 plain:∀l∈ns',kn l=true
 nocell:∀x∈csc.names,x.2≠.cell
 locals:∀x∈csc.names,x.2=.local->csc.names.lookup x.1=some .local
 frees:∀x∈csc.names,x.2=.free->csc.names.lookup x.1=some .free/\∃l∈ns',x.1=sv l
theorem G8(h:AE ns sc k ns' caps tn csc=true):jL ns sc k ns' caps tn csc:=by
 unfold AE at h;simp only[Bool.and_eq_true,decide_eq_true_eq,beq_iff_eq] at h;obtain⟨⟨⟨⟨⟨⟨⟨h1,h2⟩,h3⟩,h4⟩,h5⟩,h6⟩,h7⟩,h8⟩:=h;have h8':=λx hx=>List.all_eq_true.mp h8 x hx
 show⟨h1,?_,h3,h4,h5,h6,λl m=>List.all_eq_true.mp h7 l m,λx hx=>?_,λx hx hl=>?_,λx hx hf=>?_⟩
 ·unfold ki at h2
  split at h2
  ·rename_i l hl;show⟨l,hl,by simpa using h2⟩
  ·cases h2
 ·have:=h8' x hx;simp only[Bool.and_eq_true,bne_iff_ne] at this;show this.1.1
 ·have:=h8' x hx;simp only[Bool.and_eq_true,Bool.or_eq_true,bne_iff_ne,beq_iff_eq] at this;show this.1.2.resolve_left (λq=>q hl)
 ·have:=h8' x hx;simp only[Bool.and_eq_true,Bool.or_eq_true,bne_iff_ne,beq_iff_eq] at this;obtain⟨h9,this⟩:=this.2.resolve_left (λq=>q hf);obtain⟨l,m,e⟩:=List.any_eq_true.mp this;show⟨h9,l,m,by simpa using e⟩
noncomputable def fS(csc:Scope)(cl:List (Str×Addr))(L:Addr)(env:Env)(ns':List (List Nat)):Fx:=⟨compEnvC csc cl L env,ns'.map sv⟩
theorem jL.names(c:jL ns sc k ns' caps tn csc)(e:ns'[j]?=some l):
  (j=k/\sv l=tn)\/∃i,caps[j]?=some i/\ns[i]?=some l/\csc.names.lookup (sv l)=some .free/\(sc.names.lookup (sv l)=some .cell\/sc.names.lookup (sv l)=some .free):=by
 show fx (yf c.caps) λh1 h2=>?_
 by_cases q:j<caps.length
 ·show .inr (h2 j l e q)
 ·left;obtain hj:=(List.getElem?_eq_some_iff.mp e).1;obtain this:j=k:=by rwa[c.k];lia
  subst this;show d6 c.tgt λl' e1 e2=>?_
  rw[e] at e1;injection e1 with e1;subst e1
  show⟨rfl,e2.symm⟩
theorem jL.fxok{cl:List (Str×Addr)}(c:jL ns sc k ns' caps tn csc)(ok:jy fr)(hsc:fr.env.scope=sc)(hcl:∀x∈csc.names,x.2=.free->(cl.lookup x.1).isSome=true):jy (fS csc cl L fr.env ns') where
 kind:=c.kind
 glob:=ok.glob
 blt:=ok.blt
 nodup:=List.Pairwise.map sv (λ_ _ h e=>h (lh e)) c.nodup
 kinds:=by
  intro x hx;show d6 (List.mem_map.mp hx) ?_;clear hx;rintro l hl rfl;have hp:=c.plain l hl;unfold kn at hp;simp only[Bool.and_eq_true,Bool.not_eq_true'] at hp;show⟨?_,hp.1,hp.2⟩;obtain⟨j,hj,e⟩:=List.getElem_of_mem hl;rcases c.names (j:=j) (l:=l) (by show d4 (List.getElem?_eq_getElem hj) (d4 e rfl)) with⟨_,e'⟩|⟨i,_,_,e2,e3⟩
  ·left;rwa[e'];show lookup_relabel_local (env:=fr.env) c.loc
  ·right;obtain hk:=sk (env:=fr.env) e2 ok.kind (by rwa[hsc];show e3);show⟨hk,?_⟩;show d6 (lx (List.lookup_eq_some_iff.mp e2) λa b c d=>(⟨(_,NameKind.free),by rwa[c];simp,rfl⟩:∃p,p∈csc.names/\p=(sv l,NameKind.free))) λp hp1 hp2=>?_
   subst hp2;show hcl _ hp1 rfl
theorem jL.froK{cl:List (Str×Addr)}(c:jL ns sc k ns' caps tn csc)(ok:jy fr)(hsc:fr.env.scope=sc)(hns:fr.names=ns.map sv)(hcl:∀n c,cl.lookup n=some c->fr.env.cells.lookup n=some c){h0:Heap}(hF:fX B fr W U h0)(k0:∀b o,h0.get? b=some o->h.get? b=some o)(nL:h0.get? L=none)(hL:h.Ns L λ_=>none)(b9:L∉W.ι)(oF:W.F L=none):fX B (fS csc cl L fr.env ns') W (caps.map (λi=>(U[i]?).join)++List.replicate (ns'.length-caps.length) none) h:=by
 show jb hF λm cm F=>?_
 show⟨λ_=>none,cm,hL,b9,oF,λn' c' e=>?_,λn1 n2 c' e1 e2=>F.cinj _ _ _ (hcl _ _ e1) (hcl _ _ e2),λj d e=>?_⟩
 ·show iS (F.cell n' c' (hcl _ _ e)) ?_;rintro⟨o,q1,q2⟩ q3 q4 q5;show⟨⟨o,k0 _ _ q1,q2⟩,q3,q4,?_⟩;intro w;have w':c'=L:=w;clear hL b9 oF e w;subst w';rw[nL] at q1;injection q1
 ·by_cases q:j<caps.length
  ·rw[List.getElem?_append_left (by simpa using q),List.getElem?_map] at e;obtain hj:∃l,ns'[j]?=some l:=by
    show fx (yf c.caps) λh1 _=>?_
    show⟨ns'[j]'(by lia),List.getElem?_eq_getElem _⟩
   show fv hj λl hl=>?_
   show yC ((yf c.caps).2 j l hl q) λi e1 e2 e3 e4=>?_
   rw[e1] at e;simp only[Option.map_some,Option.some.injEq] at e;obtain e':U[i]?=some (some d):=by
    cases w:U[i]? with
    |none=>rw[w] at e;injection e
    |some y=>rw[w] at e;show d4 (show y=some d from e) rfl
   show jE (F.vars i d e') λx v q1 q2 q3=>?_
   rw[hns,List.getElem?_map,e2] at q1;injection q1 with q1;subst q1
   show⟨sv l,v,by show(ns'.map sv)[j]?=_;rwa[List.getElem?_map,hl];rfl,?_,q3⟩;unfold jD at q2 ⊢;rw[if_neg (by unfold Env.kindOf;rwa[hsc];rcases e4 with e4|e4<;>rw[e4]<;>show dt rfl)] at q2;have hk:=sk (env:=fr.env) e3 ok.kind (by rwa[hsc];show e4);rw[if_neg]
   ·show q2
   ·show ¬((relabel csc fr.env).names.lookup (sv l)=some .local);rcases hk with hk|hk<;>rw[hk]<;>show dt rfl
  ·rw[List.getElem?_append_right (by simpa using q)] at e;obtain this:=List.mem_of_getElem? e;have:=List.eq_of_mem_replicate this;injection this
end
section
variable{stk:List Env}{fr:Fx}{ns:List (List Nat)}{sc:Scope}
theorem fX.weak(x:fX B fr W U h)(k:∀(j:Nat) (d:V),ag[j]?=some (some d)->U[j]?=some (some d)):fX B fr W ag h:=by
 show jb x λm cm F=>?_
 show⟨m,cm,F.ns,F.outι,F.outF,F.cell,F.cinj,λj d e=>F.vars j d (k j d e)⟩
theorem fX.push(x:fX B fr W U h):fX B fr W U (h.push o):=x.ext (eA.junk (S:=[]) W h o)
theorem fX.other(x:fX B fr W U h)(s:Heap.ExtBut a h h')(n1:fr.env.locals≠a)(n2:∀y c,fr.env.cells.lookup y=some c->c≠a):fX B fr W U h':=by
 show jb x λm cm F=>?_
 show⟨m,cm,?_,F.outι,F.outF,λy c e=>?_,F.cinj,F.vars⟩
 ·show uI F.ns λo es ep q1 q2=>?_
  show⟨o,es,ep,s _ _ n1 q1,q2⟩
 ·show iS (F.cell y c e) ?_;rintro⟨o,q1,q2⟩ q3 q4 q5;show⟨⟨o,s c o (n2 y c e) q1,q2⟩,q3,q4,q5⟩
theorem By{Z:Value->Shared->Prop}:∀(x:Value) (s'':Shared),yb B stk W s (λ_ _=>False) x s''->Z x s'':=by
 rintro x s'' ⟨_,_,_,_,_,_,_,f⟩;show f.elim
structure JK(B:eD)(stk:List Env)(cfr:Fx)(bu:ew)(ae:Shared)(ao:Wd)(it ax:Addr)(xs:List V)(i:Nat)(acc:List V)(W:Wd)(J:Hp)(s:Shared):Prop where
 e:eA (frs stk) ao ae.heap W s.heap
 inv:ef B stk W J s.heap
 rest:gc ae s
 it:∃o,hO W s.heap it o/\gx B W xs none i o
 ax:∃items m,hO W s.heap ax (eZ items m)/\W.RepL B acc items.toList
 len:acc.length<=i
 ile:i<=xs.length
 fr:fX B cfr W bu s.heap
inductive Rg(B:eD)(stk:List Env)(fr:Fx)(k:Nat)(condW eltW:ew->Hp->(V->Hp->Prop)->Prop)(Q:V->Hp->Prop)(bu:ew)(ae:Shared)(ao:Wd)(it ax:Addr)(xs:List V)(n:Nat)(s:Shared):Prop
 |mk (i:Nat) (acc:List V) (W:Wd) (J:Hp) (e:n=xs.length-i) (h:JK B stk fr bu ae ao it ax xs i acc W J s) (q:qr k condW eltW Q bu (xs.drop i) J acc)
theorem Bn{el iter:Expr}{lp:Pos}{ifs:List Expr}{cl:List (Str×Addr)}{ax:Addr}{bu:ew}{condW eltW:ew->Hp->(V->Hp->Prop)->Prop}(hA:hH A stk n)(co:jL ns sc k ns' caps tn csc)(ok:jy (fS csc cl L fr.env ns'))(hk:∀d,bu[k]?≠some (some d))(hx:xs.length<=eh)(nit:ae.heap.get? it=none)(nax:ae.heap.get? ax=none)(nL:ae.heap.get? L=none)(fit:it∉frs stk)(fax:ax∉frs stk)(d1:it≠ax)(d2:it≠L)(d3:ax≠L)(hcells:∀y c,cl.lookup y=some c->ae.heap.get? c≠none)(hc:∀ag W J s K,ef B stk W J s.heap->fX B (fS csc cl L fr.env ns') W ag s.heap->condW ag J K->
   d5 B A stk W s (forIn ifs true λc r=>if r=true then do let ok<-isTrue c (compEnvC csc cl L fr.env) (eval c (compEnvC csc cl L fr.env));pure (ForInStep.yield ok) else pure (ForInStep.yield r)) (λ_ J b=>K (.bool b) J) (λ_ _=>False)) (he:∀ag W J s K,ef B stk W J s.heap->fX B (fS csc cl L fr.env ns') W ag s.heap->eltW ag J K->d5 B A stk W s (eval el (compEnvC csc cl L fr.env)) (RV B K) (λ_ _=>False)) (hdone:∀W J s acc items m,eA (frs stk) ao ae.heap W s.heap->ef B stk W J s.heap->gc ae s->hO W s.heap ax (eZ items m)->W.RepL B acc items.toList->acc.length<=xs.length->fX B (fS csc cl L fr.env ns') W bu s.heap->Q (.lst acc) J->R (.ok .next) s) {acc:List V} (h:JK B stk (fS csc cl L fr.env ns') bu ae ao it ax xs i acc W J s) (hq:qr k condW eltW Q bu (xs.drop i) J acc):
  codeAny B.M A (.compLoop (.ListComp el [⟨.Name tn tp,iter,ifs,0⟩] csc lp) 0 (.ref it) (.ref ax) (compEnvC csc cl L fr.env)) R s:=by
 show codeAny_compLoop_tests (Rg B stk (fS csc cl L fr.env ns') k condW eltW Q bu ae ao it ax xs) ?_ (xs.length-i) ⟨i,acc,W,J,rfl,h,hq⟩;clear h hq;rintro n' s ⟨i,acc,W,J,hn',h,hq⟩;show d6 h.it λo po ro=>?_
 show lx h.ax λitems m pa ra=>?_
 have ncell:∀a,ae.heap.get? a=none->∀y c,(fS csc cl L fr.env ns').env.cells.lookup y=some c->c≠a:=λa na y c e w=>hcells y c e (w▸na)
 cases e:xs[i]? with
 |none=>
  obtain el':=List.getElem?_eq_none_iff.mp e;rw[List.drop_eq_nil_of_le el'] at hq;show pX hA h.inv po.at_ ro trivial e λh' hb=>?_
  obtain i':=h.inv.extBut hb po.outF po.outι fit;show hdone W J _ acc items m (h.e.extBut nit hb) i' ⟨h.rest.gens,h.rest.os⟩ (pa.extBut hb (Ne.symm d1)) ra (Nat.le_trans h.len h.ile) (h.fr.other hb (Ne.symm d2) (ncell it nit)) hq
 |some x=>
  have hi:=(List.getElem?_eq_some_iff.mp e).1;obtain hd:xs.drop i=x::xs.drop (i+1):=by
   rwa[List.drop_eq_getElem_cons hi]
   congr 1
   show(List.getElem?_eq_some_iff.mp e).2
  rw[hd] at hq;show oK h.inv po.at_ ro trivial e λba v bY bq bZ aO aq dI rx=>?_
  obtain aE:ef B stk W J ba:=h.inv.other aq po.outF po.outι λob q1 q2=>by
   rw[po.at_] at q1;injection q1 with q1;subst q1
   exfalso;cases ro<;>first|(rename_i z;show q2 _ z)|(rename_i z;subst z;show q2 _ rfl)
  obtain aw:=h.e.other nit aq;obtain cS:=h.fr.other aq.extBut (Ne.symm d2) (ncell it nit);obtain cT:=pa.same aq (Ne.symm d1);obtain cU:hO W ba it bq:=⟨bZ,po.outι,po.outF⟩;show d6 co.tgt ?_;rintro tl ht1 rfl;have hn:(fS csc cl L fr.env ns').names[k]?=some (sv tl):=by show(ns'.map sv)[k]?=_;rwa[List.getElem?_map,ht1];rfl
  have hkl:(fS csc cl L fr.env ns').env.kindOf (sv tl)=some .local:=lookup_relabel_local (env:=fr.env) co.loc;show wpAny_bind (wpAny_standAt ?_);show wpAny_bindName ?_;show rS (s:={s with heap:=ba,toks:=bY}) (fr:=fS csc cl L fr.env ns') aE ok cS hn (by rwa[hkl];show dt rfl) rx λb0 dJ c bp cV aF bU=>?_
  obtain hcL:c=L:=(cV.resolve_right λq=>q.1 hkl).2;rw[hcL] at bp;obtain aC:=aw.other nL bp;obtain cW:=cT.same bp d3;obtain cX:=cU.same bp d2;show wpAny_mono (hc _ W J {s with heap:=b0,toks:=dJ} _ aF bU hq) ?_ By;rintro b aV ⟨aX,aA,aY,aZ,aR,hb⟩;have cn:=aC.trans aY;have cq:=cW.ext aY fax;have cu:=cX.ext aY fit;have bL:=bU.ext aY;have cv:gx B aX xs none (i+1) bq:=aO.mono aY;have cw:=aY.repL ra;have bz:gc ae aV:=⟨aR.gens.trans h.rest.gens,aR.os.trans h.rest.os⟩;have wk:∀(j:Nat) (d:V),bu[j]?=some (some d)->(bu.set k (some x))[j]?=some (some d):=by
   intro j d ej
   by_cases w:j=k
   ·clear hq ht1 co hn bU hb bL;subst w;show absurd ej (hk d)
   ·rwa[List.getElem?_set_ne (Ne.symm w)];show ej
  cases b with
  |false=>
   rwa[if_neg (by simp)];show⟨xs.length-(i+1),by lia,i+1,acc,aX,aA,rfl,⟨cn,aZ,bz,⟨bq,cu,cv⟩,⟨items,m,cq,cw⟩,by have:=h.len;show Nat.le_trans ‹_› (Nat.le_add_right ..),hi,bL.weak wk⟩,hb⟩
  |true=>
   rwa[if_pos rfl];show wpAny_mono (he _ aX aA aV _ aZ bL hb) ?_ By;rintro w bH ⟨bx,aP,bh,bO,bI,d,rd,cY⟩;have bj:=cq.ext bh fax;obtain cZ:=cu.ext bh fit;obtain c6:=bL.ext bh;obtain c7:=bh.repL cw;obtain zi:items.size<=eh:=by
    obtain z1:items.size=acc.length:=by rwa[Array.length_toList.symm];show ra.length.symm
    have:=h.len;obtain this:=h.ile;lia
   show call_meets PySem.F.slot_list_append (jK bj.at_).typeIs PySem.F.entry_list_append (PySem.F.args_list_append_2 _ _) (AutoListH.list_append_list_val_0 ax items m w (by rwa[gm];show zi)) ⟨bj.at_,?_⟩;have eo:Obj.mapSeq (λx_1=>x_1.push w) (eZ items m)=eZ (items.push w) (if(items.push w).size==items.size then m else m+1):=rfl;show fx (C3 (f:=Obj.mapSeq λx_1=>x_1.push w) bj.at_ (by rwa[eo];rfl)) λbM cy=>?_
   rw[eo] at cy;obtain bP:=bO.other bM bj.outF bj.outι λob q1 q2=>⟨_,cy,by intro vs z;injection z⟩
   show⟨xs.length-(i+1),by lia,i+1,acc++[d],bx,aP,rfl,⟨(cn.trans bh).other nax bM,bP,⟨bI.gens.trans bz.gens,bI.os.trans bz.os⟩,⟨bq,cZ.same bM d1,cv.mono bh⟩,⟨_,_,⟨cy,bj.outι,bj.outF⟩,?_⟩,?_,hi,?_⟩,cY⟩
   ·rwa[Array.toList_push];show c7.append (.cons rd .nil)
   ·rwa[List.length_append];obtain this:=h.len;simp;assumption
   ·show(c6.weak wk).other bM.extBut (Ne.symm d3) (ncell ax nax)
end
section
variable{stk:List Env}{fr:Fx}{ns:List (List Nat)}{sc:Scope}
theorem zU{k:Option Nat}{Q:Value->Shared->Prop}(ho:s.heap.get? it=some o)(r:gx B W xs k i o)(h:Q (.ref it) s):wpAny B.M A (pyIter (.ref it)) Q E s:=by
 cases r with
 |lst a b c=>show wpAny_pyIter_listiter ⟨o,ho,b,c⟩ h
 |loc a b c=>show wpAny_pyIter_listiter ⟨o,ho,b,c⟩ h
 |tup a b c=>show wpAny_pyIter_tupleiter ⟨o,ho,b,c⟩ h
 |strA a b c d=>show wpAny_pyIter_striter_ascii ⟨o,ho,c,d⟩ h
 |strW a b c d=>show wpAny_pyIter_striter_wide ⟨o,ho,c,d⟩ h
 |rng a b c=>subst c;show wpAny_pyIter_rangeiter ho h
theorem Gv{v:Value}{k:Option Nat}(r:W.Rep B d v)(e:fF d J=some (xs,k))(hk:k=none):xs.length<=eh:=by
 cases d with
 |lst=>clear hk;cases e;show AM r.inv λ_ _ _ _ _ _ z=>?_;show z
 |tup=>clear hk;cases e;show AM r.inv λ_ _ _ _ _ _ z=>?_;show z
 |str=>clear hk;cases e;show d6 r.inv λ_ _ z=>?_;rwa[List.length_map ..];show z.1
 |rng=>show fx (j8 e) λq e=>?_;clear hk;cases e;rwa[List.length_map ..,List.length_range];unfold eh;omega
 |loc=>show d6 (rm e) λ_ _ e=>?_;cases e;cases hk
 |_=>show eC e
theorem BU{el iter:Expr}{lp:Pos}{ifs:List Expr}{use:Option (Value->Sem Unit)}{Qf:Value->Shared->Prop}{Ef:Value->Shared->Prop}{condW eltW:ew->Hp->(V->Hp->Prop)->Prop}{first:Sem Value}(c:Cx B A stk fr ns sc n U W J s.heap)(co:jL ns sc k ns' caps tn csc)(hset:jN iter=true)(hfree:∀x∈csc.names,x.2=.free->(fr.env.cells.lookup x.1).isSome=true)(hfirst:d5 B A stk W s first (RV B λd aa=>zX (fF d aa) λxs=>qr k condW eltW Q (caps.map (λi=>(U[i]?).join)++List.replicate (ns'.length-caps.length) none) xs aa []) X)(hE:∀x s'',yb B stk W s X x s''->Ef x s'')(hc:∀cl L ag W J s K,jy (fS csc cl L fr.env ns')->ef B stk W J s.heap->fX B (fS csc cl L fr.env ns') W ag s.heap->condW ag J K->
   d5 B A stk W s (forIn ifs true λc r=>if r=true then do let ok<-isTrue c (compEnvC csc cl L fr.env) (eval c (compEnvC csc cl L fr.env));pure (ForInStep.yield ok) else pure (ForInStep.yield r)) (λ_ J b=>K (.bool b) J) (λ_ _=>False)) (he:∀cl L ag W J s K,jy (fS csc cl L fr.env ns')->ef B stk W J s.heap->fX B (fS csc cl L fr.env ns') W ag s.heap->eltW ag J K->d5 B A stk W s (eval el (compEnvC csc cl L fr.env)) (RV B K) (λ_ _=>False)) (hfin:∀(W':Wd) (aa:Hp) (s':Shared) (v:Value) (d:V) (L:Addr) (m:Str->Option Value),eA (frs stk) W s.heap W' s'.heap->ef B stk W' aa s'.heap->gc s s'->W'.Rep B d v->Q d aa->s.heap.get? L=none->s'.heap.Ns L m->L∉W'.ι->W'.F L=none->
   match use with
   |none=>∀h',Heap.SameBut L s'.heap h'->Qf v {s' with heap:=h'}
   |some u=>wpAny B.M A (u v) (λ_ s''=>∃m,s''.heap.Ns L m/\∀h',Heap.SameBut L s''.heap h'->Qf .none {s'' with heap:=h'}) Ef s'):
  wpAny B.M A (comprehension (.ListComp el [⟨.Name tn tp,iter,ifs,0⟩] csc lp) csc fr.env pos (newList []) false first use) Qf Ef s:=by
 show kQ (D0 hfree) λcl hcl hcl2 hcl3=>?_
 obtain hs:∀x,foldedSetIterable iter fr.env x=pure x:=by
  intro x;unfold foldedSetIterable;cases iter<;>first|rfl|show Bool.noConfusion hset
 show wpAny_comprehension_free (g:=⟨.Name tn tp,iter,ifs,0⟩) (gs:=[]) rfl hs hcl co.kind co.locals ?_;show wpAny_mono hfirst ?_ hE;rintro v ae ⟨ao,ah,aS,bc,bJ,d,rd,hq⟩;show d6 (Hr hq) λxs hitems hq=>?_
 ·show wB bc rd hitems λo ro nf=>?_
  show wpAny_newList ?_ (by show 0<=sizeLine;show Nat.zero_le _);have aE:=bc.junk o;have aF:=aE.junk (eZ #[] 0);have hx:xs.length<=eh:=Gv rd hitems rfl;generalize hit:ae.heap.objs.size=it;generalize hax:(ae.heap.push o).objs.size=ax;have nit:ae.heap.get? it=none:=by rwa[hit.symm];show ef.none_fresh _
  have szax:ax=it+1:=by show d4 hax.symm (d4 (Heap.size_push ..) (d4 hit rfl))
  have above:∀b,it<=b->ae.heap.get? b=none:=by
   intro b hb;cases q:ae.heap.get? b with
   |none=>rfl
   |some y=>show absurd (Heap.lt_size q) (Nat.not_lt.mpr (hit▸hb))
  have nax:ae.heap.get? ax=none:=above ax (by rwa[szax];show Nat.le_succ it);obtain d1:it≠ax:=by rwa[szax];show Nat.ne_of_lt (Nat.lt_succ_self it)
  show wpAny_newFunctionEnv co.nocell (λx hx=>absurd hx List.not_mem_nil) (λh' hns hsb=>?_) co.kind;dsimp only at hns hsb ⊢;change h'.Ns ((ae.heap.push o).push (eZ #[] 0)).objs.size _ at hns;change Heap.SameBut ((ae.heap.push o).push (eZ #[] 0)).objs.size (((ae.heap.push o).push (eZ #[] 0)).push {cls:=.type "dict",data:=.dict #[]}) h' at hsb;generalize hL:((ae.heap.push o).push (eZ #[] 0)).objs.size=L at hns hsb ⊢;have szL:L=it+2:=by show d4 hL.symm (d4 (Heap.size_push ..) (d4 (Heap.size_push ..) (d4 hit rfl)))
  have nL:ae.heap.get? L=none:=above L (by rwa[szL];show Nat.le_add_right it 2);have d2:it≠L:=by rwa[szL];show Nat.ne_of_lt (Nat.lt_add_of_pos_right (dt rfl))
  have d3:ax≠L:=by rwa[szL,szax];show Nat.ne_of_lt (Nat.lt_succ_self _)
  obtain aZ:=aF.junk {cls:=.type "dict",data:=.dict #[]};obtain eJ:eA (frs stk) ao ae.heap ao (((ae.heap.push o).push (eZ #[] 0)).push {cls:=.type "dict",data:=.dict #[]}):=((eA.junk ao ae.heap o).trans (eA.junk ao _ (eZ #[] 0))).trans (eA.junk ao _ _);have fr3:=aF.fresh;rw[hL] at fr3;have eL:eA (frs stk) ao ae.heap ao h':=eJ.other nL hsb;obtain iL:ef B stk ao ah h':=aZ.other hsb fr3.1 fr3.2 λob _ _=>by
   show zb hns λo' es ep q1 q2 _=>?_
   show⟨o',q1,by intro vs w;rw[q2] at w;injection w⟩
  have fr1:=bc.fresh;rw[hit] at fr1;have fr2:=aE.fresh;rw[hax] at fr2;have git:h'.get? it=some o:=by
   show d4 (hsb.2 it d2) (d4 (Heap.get?_push_of_some _ (Heap.get?_push_of_some _ (by rw[<-hit];show Heap.get?_push_size _ nf))) rfl)
  obtain gax:h'.get? ax=some (eZ #[] 0):=by
   show d4 (hsb.2 ax d3) (d4 (Heap.get?_push_of_some _ (by rw[<-hax];show Heap.get?_push_size _ rfl)) rfl)
  have okc:jy (fS csc cl L fr.env ns'):=co.fxok c.ok c.scope hcl3;have hF1:=c.hF.ext aS;have frc:fX B (fS csc cl L fr.env ns') ao (caps.map (λi=>(U[i]?).join)++List.replicate (ns'.length-caps.length) none) h':=
   co.froK c.ok c.scope c.names hcl2 hF1 (λb ob e=>by
    rwa[hsb.2 b (by intro w;clear hL hns hsb szL d2 d3 fr3 okc;subst w;rw[nL] at e;injection e)]
    show Heap.get?_push_of_some _ (Heap.get?_push_of_some _ (Heap.get?_push_of_some _ e))) nL hns fr3.2 fr3.1
  obtain hcells:∀y ca,cl.lookup y=some ca->ae.heap.get? ca≠none:=by
   intro y ca e;show jb hF1 λm cm F=>?_
   show fx (F.cell y ca (hcl2 _ _ e)) ?_;rintro⟨ob,q1,_⟩ _;rwa[q1];show Option.some_ne_none _
  obtain hk:∀d,(caps.map (λi=>(U[i]?).join)++List.replicate (ns'.length-caps.length) none)[k]?≠some (some d):=by
   intro d w;rw[co.k,List.getElem?_append_right (by simp)] at w;obtain this:=List.eq_of_mem_replicate (List.mem_of_getElem? w);injection this
  have loop0:=Bn (A:=A) (stk:=stk) (W:=ao) (J:=ah) (i:=0) (acc:=[]) (s:={ae with heap:=h',toks:=ae.toks+([]:List (Str×Value)).length}) (el:=el) (iter:=iter) (tp:=tp) (lp:=lp) (ifs:=ifs) (condW:=condW) (eltW:=eltW) (Q:=Q) (xs:=xs)
   (R:=compPost B.M A Ef use Qf (.ref ax) L) c.hA co okc hk hx nit nax nL (bc.notFrs nit) (bc.notFrs nax) d1 d2 d3 hcells
   (λag W J s K a b d=>hc cl L ag W J s K okc a b d) (λag W J s K a b d=>he cl L ag W J s K okc a b d)
   (λbx aP bH acc items m a1 a2 a3 a4 a5 a6 a7 a8=>?_)
   (h:=⟨eL,iL,⟨rfl,rfl⟩,⟨o,⟨git,fr1.2,fr1.1⟩,ro⟩,⟨#[],0,⟨gax,fr2.2,fr2.1⟩,.nil⟩,Nat.le_refl _,Nat.zero_le _,frc⟩) hq
  ·clear hns hsb szL nL d2 d3 fr3 okc frc;subst hL;show codeAny_compStart_list loop0 (zU (s:={ae with heap:=h',toks:=ae.toks+([]:List (Str×Value)).length}) git ro loop0)
  ·
   obtain bP:=a2.settle a4.at_ a4.outF a4.outι (bc.notFrs nax);obtain cJ:eA (frs stk) ao ae.heap (bx.frz ax (eZ items m)) bH.heap:=a1.settle nax (Heap.SameBut.refl _ _) a4.outF;show jb a7 λm7 cm7 F7=>?_
   have nsL:bH.heap.Ns L m7:=F7.ns;obtain oL:L∉(bx.frz ax (eZ items m)).ι:=F7.outι;obtain fL:(bx.frz ax (eZ items m)).F L=none:=by
    unfold Wd.frz;dsimp only;rwa[if_neg (Ne.symm d3)];show F7.outF
   obtain nL0:s.heap.get? L=none:=by
    cases q:s.heap.get? L with
    |none=>rfl
    |some y=>
     by_cases w:L∈W.ι
     ·show absurd (aS.memι w) (λz=>by
       obtain this:=eL.memι z
       show fr3.2 this)
     ·show d6 (aS.keep L y q w) λsl q' _=>?_
      rw[nL] at q';injection q'
   have fin:=hfin _ aP bH (.ref ax) (.lst acc) L m7 (aS.trans cJ) bP (bJ.trans a3) (.lst (kN ..) (a5.mono λ_ _ q=>vn a4.outF q) (Nat.le_trans a6 hx)) a8 nL0 nsL oL fL;cases use with
   |none=>show⟨m7,nsL,fin⟩
   |some u=>show fin
end
section
theorem EH{x:Str}{Q:Value->Shared->Prop}(h:Q (.str x s.toks) {s with toks:=s.toks+1}):wpAny B.M A (mkText x) Q E s:=λ_ _ _=>h
noncomputable def qh(ks:List (List Nat))(l:List Expr)(pos:Pos)(env:Env):List (Sem Value×Sem Value):=(ks.zip l).map λp=>(mkText (sv p.1),do let x<-eval p.2 env;standAt pos;pure x)
theorem FY{P:List (List Nat)->List (Option Expr)->List Expr->Prop}{ns:List (List Nat)}{sc:Scope}{x:Ex}{xs:gz}{kl:List (Option Expr)}{l:List Expr}(h:qt ns sc (.cons x xs) ks kl l=true)(g:∀k ks n q kl e l,CP k=true->ff ns sc x e=true->qt ns sc xs ks kl l=true->ks.length<15->P (k::ks) (some (.Constant (.str (sv k)) n q)::kl) (e::l)):P ks kl l:=by
 apply jR h;intro k ks h;apply jR h;intro _ kl h;apply jR h;intro e l h;apply zL h;intro _ h;apply l4 h;intro _ n q h;apply Au h;intro _ h;obtain z0:=eq_of_beq (b5 h).2.1;subst z0;show g _ _ _ _ _ _ _ (b5 h).1 (b5 h).2.2.1 (b5 h).2.2.2.1 (of_decide_eq_true (b5 h).2.2.2.2)
theorem BN{P:List (List Nat)->List (Option Expr)->List Expr->Prop}{ns:List (List Nat)}{sc:Scope}{kl:List (Option Expr)}{l:List Expr}(h:qt ns sc .nil ks kl l=true)(g:P [] [] []):P ks kl l:=by
 apply iy h;intro h;apply iy h;intro h;apply iy h;intro _;show g
theorem x9{P:List Expr->Prop}{ns:List (List Nat)}{sc:Scope}{l:List Expr}(h:ig ns sc .nil l=true)(g:P []):P l:=by apply iy h;intro _;show g
theorem pJ{P:List Expr->Prop}{ns:List (List Nat)}{sc:Scope}{x:Ex}{xs:gz}{l:List Expr}(h:ig ns sc (.cons x xs) l=true)(g:∀e r,tL e=true->ff ns sc x e=true->ig ns sc xs r=true->P (e::r)):P l:=by
 apply jR h;intro e r h;show g e r (b3 h).1 (b3 h).2.1 (b3 h).2.2
theorem rp{ns:List (List Nat)}{sc:Scope}{pos:Pos}{env:Env}:∀(es:gz) {ks:List (List Nat)} {kl:List (Option Expr)} {l:List Expr},qt ns sc es ks kl l=true->
  (evalEachOpt kl env).zip ((evalEach l env).map λv=>do let x<-v;standAt pos;pure x)=(qh ks l pos env).map (λp=>(some p.1,p.2))/\ks.length=l.length/\ks.length<=15
 |.nil,ks,kl,l,h=>by apply BN h;show⟨rfl,rfl,Nat.zero_le _⟩
 |.cons x xs,ks,kl,l,h=>by
  apply FY h;intro k ks _ _ kl e l h1 h3 h4 h5;show gp (rp xs (env:=env) (pos:=pos) h4) λe1 e2 e3=>?_
  show⟨?_,by simp[e2],by simp;show Nat.le_of_lt_succ ‹_›⟩;unfold qh at e1 ⊢;rw[List.zip_cons_cons,List.map_cons,List.map_cons,<-e1];rfl
theorem Dc{x:Ex}(h:Bl x=true):x=.none:=Ex.none.elim (motive_1:=λx=>x=.none) x (of_decide_eq_true h) rfl
theorem Kf{x:Ex}(h:II x=true):x=.bool true:=by
 obtain⟨i,h⟩:=eV h;show Ex.bool.elim (motive_1:=λx=>∀i,Ex.bool.elim (motive_1:=λ_=>Bool) x i id=true->x=.bool true) x i (λb _ h=>congrArg _ h) i h
abbrev SE(B:eD)(x:Ex):Prop:=∀{ns:List (List Nat)} {sc:Scope} {e:Expr} {fr:Fx} {A:Around} {stk:List Env} {W:Wd} {J:Hp} {s:Shared} {U:ew} {n:Nat} {X:fD->Hp->Prop},
 ff ns sc x e=true->Cx B A stk fr ns sc n U W J s.heap->f7 B A stk W s fr.env e (λt Q=>eg B n X x t U J Q) X
abbrev SL(B:eD)(es:gz):Prop:=∀{ns:List (List Nat)} {sc:Scope} {l:List Expr} {fr:Fx} {A:Around} {stk:List Env} {W:Wd} {J:Hp} {s:Shared} {U:ew} {n:Nat} {X:fD->Hp->Prop},
 ig ns sc es l=true->Cx B A stk fr ns sc n U W J s.heap->jk B A stk W s fr.env l (λQ=>fH B n X es U J Q) X
abbrev SB(B:eD)(es:gz):Prop:=∀{ns:List (List Nat)} {sc:Scope} {l:List Expr} {fr:Fx} {A:Around} {stk:List Env} {W:Wd} {J:Hp} {s:Shared} {U:ew} {n:Nat} {X:fD->Hp->Prop} {c:Bool},
 ig ns sc es l=true->Cx B A stk fr ns sc n U W J s.heap->vZ B A stk W s fr.env c l (λt Q=>mj B n X c es t U J Q) X
abbrev SD(B:eD)(es:gz):Prop:=∀{ns:List (List Nat)} {sc:Scope} {ks:List (List Nat)} {kl:List (Option Expr)} {l:List Expr} {fr:Fx} {A:Around} {stk:List Env} {W:Wd} {J:Hp} {s:Shared} {U:ew} {n:Nat} {X:fD->Hp->Prop} {Q:List V->Hp->Prop} {pos:Pos},
 qt ns sc es ks kl l=true->Cx B A stk fr ns sc n U W J s.heap->fH B n X es U J Q->d5 B A stk W s (evalPairs (qh ks l pos fr.env)) (zM B ks Q) X
theorem yr{ns:List (List Nat)}{sc:Scope}{pos:Pos}{env:Env}:∀(es:gz) {l:List Expr},ig ns sc es l=true->(backTo pos (starEach l env)).any (·.1)=false
 |.nil,l,h=>by apply x9 h;rfl
 |.cons x xs,l,h=>by
  apply pJ h;intro e r h1 h2 h3;rwa[yQ h1,yG];show yr xs h3
theorem SL.nil:SL B .nil:=by
 intro ns sc l fr A stk W J s U n X h c;apply x9 h;show uX c.hI
theorem SL.cons{x:Ex}{xs:gz}(hx:SE B x)(hxs:SL B xs):SL B (.cons x xs):=by
 intro ns sc l fr A stk W J s U n X h c;apply pJ h;intro e r h1 h2 h3;show l5 (wp1:=λQ=>eg B n X x false U J Q) (wp2:=λaa Q=>fH B n X xs U aa Q) h1 (λQ q=>((hx h2 c) Q).1 q) (λs' W' aa e i=>hxs h3 (c.step e i)) (λpos=>yr xs h3)
theorem SB.one{x:Ex}(hx:SE B x):SB B %[x|.nil]:=by
 intro ns sc l fr A stk W J s U n X cc h c;apply pJ h;intro e r h1 h2 h3;apply x9 h3;show K1 (wp:=λt Q=>eg B n X x t U J Q) (hx h2 c)
theorem SB.cons{x y:Ex}{ys:gz}(hx:SE B x)(hxs:SB B (.cons y ys)):SB B (.cons x (.cons y ys)):=by
 intro ns sc l fr A stk W J s U n X cc h c;apply pJ h;intro e r h1 h2 h3;have h3':=h3;revert h3;apply pJ h3';intro e' l' _ _ _ h3;show Iv (wp:=λt Q=>eg B n X x t U J Q) (wr:=λaa t Q=>mj B n X cc (.cons y ys) t U aa Q) (hx h2 c) (λs' W' aa e i=>hxs h3 (c.step e i))
theorem SD.nil:SD B .nil:=by
 intro ns sc ks kl l fr A stk W J s U n X Q pos h c q;apply BN h;show(d5.pure c.hI ⟨.nil,[],.nil,q⟩)
theorem SD.cons{x:Ex}{xs:gz}(hx:SE B x)(hxs:SD B xs):SD B (.cons x xs):=by
 intro ns sc ks kl l fr A stk W J s U n X Q pos h c q;apply FY h;intro k ks' _ _ kl' e' l' h1 h3 h4 h5;unfold qh;rwa[List.zip_cons_cons,List.map_cons];rw[evalPairs];show wpAny_bind (EH ?_);have aS:eA (frs stk) W s.heap W ({s with toks:=s.toks+1}:Shared).heap:=.refl ..;show d5.from aS c.hI ⟨rfl,rfl⟩ ?_;show d5.bind (d5.hold (d5.bind (((hx h3 (c.step aS c.hI)) _).1 q) λv s' W' aa e i r p=>d5.at (d5.pure (P:=RV B _) i p))) λvv aq ay au aw aE aO hz=>hz.e λd rd az=>?_
 show d5.bind (d5.hold (hxs (pos:=pos) h4 (c.step (aS.trans aw) aE) az)) λvs aI bg ak aC aF bw hz=>fx hz λhk hz=>d6 hz λds rds aJ=>?_
 show d5.pure aF ⟨.cons ⟨_,rfl⟩ hk,d::ds,.cons (aC.rep rd) rds,aJ⟩
end
section
theorem SE.bin{a b:Ex}(sa:SE B a)(sb:SE B b):SE B (.bin op a b):=by
 intro ns sc e fr A stk W J s U n X h c;apply LM h;intro _ _ _ _ g;show gp (b3 g) λh1 h2 g=>?_
 obtain rfl:=eq_of_beq g;show OH (wa:=λQ=>eg B n X a false U J Q) (wb:=λaa Q=>eg B n X b false U aa Q) (λQ q=>((sa h1 c) Q).1 q) (λs' W' aa e i Q q=>((sb h2 (c.step e i)) Q).1 q)
theorem SE.cmp{op:CO}{a b:Ex}(sa:SE B a)(sb:SE B b):SE B (.cmp op a b):=by
 intro ns sc e fr A stk W J s U n X h c;apply Gm h;intro _ _ _ _ g1x;apply rW g1x;intro _ g2x;apply rW g2x;intro _ g;show iS (b4 g) λh1 h2 g h4=>?_
 clear g2x;obtain rfl:=eq_of_beq g;show OX (wa:=λQ=>eg B n X a false U J Q) (wb:=λaa Q=>eg B n X b false U aa Q) c.hA h4 (λQ q=>((sa h1 c) Q).1 q) (λs' W' aa e i Q q=>((sb h2 (c.step e i)) Q).1 q)
theorem SE.cmp2{op op2:CO}{a b x:Ex}(sa:SE B a)(sb:SE B b)(sx:SE B x):SE B (.cmp2 op op2 a b x):=by
 intro ns sc e fr A stk W J s U n X h c;apply Gm h;intro _ _ _ _ g1x;apply DN g1x;intro _ _ g2x;apply DN g2x;intro _ _ g;show Mc (b6 g) λh1 h2 h3 g g' h6=>?_
 obtain rfl:=eq_of_beq g;clear g2x;obtain rfl:=eq_of_beq g';show Lu (wa:=λQ=>eg B n X a false U J Q) (wb:=λaa Q=>eg B n X b false U aa Q) (wc:=λaa Q=>eg B n X x false U aa Q) c.hA h6 (λQ q=>((sa h1 c) Q).1 q) (λs' W' aa e i Q q=>((sb h2 (c.step e i)) Q).1 q) (λs' W' aa e i Q q=>((sx h3 (c.step e i)) Q).1 q)
theorem SE.neg{a:Ex}(sa:SE B a):SE B (.neg a):=by
 intro ns sc e fr A stk W J s U n X h c;apply Jz h;intro _ _ _ g1x;obtain⟨g1,h⟩:=b2 g1x;clear g1x;obtain rfl:=E8 g1;show N7 (wa:=λQ=>eg B n X a false U J Q) (λQ q=>((sa h c) Q).1 q)
theorem SE.not{a:Ex}(sa:SE B a):SE B (.not a):=by
 intro ns sc e fr A stk W J s U n X h c;apply Jz h;intro _ _ _ g1x;obtain⟨g1,h⟩:=b2 g1x;clear g1x;obtain rfl:=EY g1;show Od (wp:=λt Q=>eg B n X a t U J Q) (sa h c)
theorem SE.ite{x a b:Ex}(sx:SE B x)(sa:SE B a)(sb:SE B b):SE B (.ite x a b):=by
 intro ns sc e fr A stk W J s U n X h c;apply Ox h;intro _ _ _ _ g;show gp (b3 g) λh1 h2 h3=>?_
 show OS (wc:=λt Q=>eg B n X x t U J Q) (wa:=λaa t Q=>eg B n X a t U aa Q) (wb:=λaa t Q=>eg B n X b t U aa Q) (sx h1 c) (λs' W' aa e i=>sa h2 (c.step e i)) (λs' W' aa e i=>sb h3 (c.step e i))
theorem SE.bop{cc:Bool}(sb:SB B es):SE B (.bop cc es):=by
 intro ns sc e fr A stk W J s U n X h c;apply Me h;intro _ _ _ g;obtain⟨h1,g⟩:=b2 g;obtain rfl:=eq_of_beq g;show OT (wp:=λt Q=>mj B n X cc es t U J Q) (sb h1 c)
theorem SE.sub{a b:Ex}(sa:SE B a)(sb:SE B b):SE B (.sub a b):=by
 intro ns sc e fr A stk W J s U n X h c;apply wR h;intro _ _ _ g;have h:=b2 g;show Ou (wa:=λQ=>eg B n X a false U J Q) (wb:=λaa Q=>eg B n X b false U aa Q) (λQ q=>((sa h.1 c) Q).1 q) (λs' W' aa e i Q q=>((sb h.2 (c.step e i)) Q).1 q)
theorem Fy{ns:List (List Nat)}{sc:Scope}{fr:Fx}{stk:List Env}{x:Ex}{l:Option Expr}(sx:SE B x)(h:(match l with|some l=>ff ns sc x l|none=>Bl x)=true)(c:Cx B A stk fr ns sc n U W J s.heap)(q:eg B n X x false U J Q):d5 B A stk W s (valueOrNone (evalOpt l fr.env)) (RV B Q) X:=by
 cases l with
 |none=>(have z0:=Dc h;subst z0);show d5.pure c.hI ⟨_,.none,q⟩
 |some l=>show((sx h c) Q).1 q
theorem SE.slc{a l u:Ex}(sa:SE B a)(sl:SE B l)(su:SE B u):SE B (.slc a l u):=by
 intro ns sc e fr A stk W J s U n X h c;apply wR h;intro _ _ _ g1x;apply Np g1x;intro _ _ _ g;show gp (b3 g) λh1 h2 h3=>?_
 show OG (wa:=λQ=>eg B n X a false U J Q) (wl:=λaa Q=>eg B n X l false U aa Q) (wh:=λaa Q=>eg B n X u false U aa Q) (λQ q=>((sa h1 c) Q).1 q)
  (λs' W' aa e i Q q=>Fy sl h2 (c.step e i) q) (λs' W' aa e i Q q=>Fy su h3 (c.step e i) q)
theorem SE.att{a:Ex}{m:List Nat}(sa:SE B a):SE B (.att a m):=by
 intro ns sc e fr A stk W J s U n X h c;apply qk h;intro _ _ _ g;show gp (b3 g) λh1 g h3=>?_
 obtain rfl:=eq_of_beq g;show Oe (wa:=λQ=>eg B n X a false U J Q) h3 (λQ q=>((sa h1 c) Q).1 q)
theorem SE.tup(sl:SL B es):SE B (.tup es):=by
 intro ns sc e fr A stk W J s U n X h c;apply vO h;intro _ _ _ g;obtain⟨h1,h2⟩:=b2 g;have h1:=of_decide_eq_true h1;show EI (wp:=λQ=>fH B n X es U J Q) h1 (sl h2 c)
theorem SE.lstF(sl:SL B es):SE B (.lstF es):=by
 intro ns sc e fr A stk W J s U n X h c;apply FR h;intro _ _ g;obtain⟨h1,h2⟩:=b2 g;have h1:=of_decide_eq_true h1;show LX (wp:=λQ=>fH B n X es U J Q) h1 (sl h2 c)
theorem SE.lstT(sl:SL B es):SE B (.lstT es):=by
 intro ns sc e fr A stk W J s U n X h c;apply FR h;intro _ _ g;obtain⟨h1,h2⟩:=b2 g;have h1:=of_decide_eq_true h1;show Mb (wp:=λQ=>fH B n X es U J Q) h1 (sl h2 c)
theorem SE.call(sl:SL B es):SE B (.call i a es):=by
 intro ns sc e fr A stk W J s U n X h c;apply pC h;intro _ _ _ g1x;apply gG g1x;intro _ _ g;show gp (b3 g) λh1 h2 h3=>?_
 show MR (wp:=λaa Q=>fH B n X es U aa Q) c h1 (λs' W' aa e i=>sl h2 (c.step e i))
theorem SE.callB{f:BF}(sl:SL B es):SE B (.callB f es):=by
 intro ns sc e fr A stk W J s U n X h c;apply pC h;intro _ _ _ g1x;apply gG g1x;intro _ _ g;show iS (b4 g) λg h1 h2 h3=>?_
 obtain rfl:=eq_of_beq g;have h1:=eq_of_beq h1;show J1 (wp:=λaa Q=>fH B n X es U aa Q) c (by unfold Env.kindOf;rwa[c.scope];show h1) (λs' W' aa e i=>sl h2 (c.step e i))
theorem SE.methB{o:Ex}{m:BM}(so:SE B o)(sl:SL B es):SE B (.methB o m es):=by
 intro ns sc e fr A stk W J s U n X h c;apply pC h;intro _ _ _ g1x;apply qk g1x;intro _ _ _ g;show Mc (b6 g) λh1 g h3 h4 h5 h6=>?_
 obtain rfl:=eq_of_beq g;have h5:=of_decide_eq_true h5;have h6:=of_decide_eq_true h6;show .plain (λ_=>rfl) λt Q q=>?_
 show E2 h3 h5 h6 (((so h1 c) _).1 q) ?_;intro d v s' W' aa e i rd qab;show fx (Ku qab) λqa qb=>?_
 obtain⟨_,hp,ha⟩:=sl h4 (c.step e i) _ _ qb;show⟨.builtin (IP m),rC _,λpl Q' E' hq=>Mi i rd qa hq,hp,d5.monoE (ha _) ?_⟩;rintro ay au ar aq aw ⟨hk,ds,rds,hl,hq⟩;show⟨hk,λaI aC aF=>NG aF (aw.rep rd) rds hq⟩
theorem SE.methP{o:Ex}{m:List Nat}(so:SE B o)(sl:SL B es):SE B (.methP o m es):=by
 intro ns sc e fr A stk W J s U n X h c;apply pC h;intro _ _ _ g1x;apply qk g1x;intro _ _ _ g;show Mc (b6 g) λh1 g h3 h4 h5 h6=>?_
 obtain rfl:=eq_of_beq g;have h5:=of_decide_eq_true h5;have h6:=of_decide_eq_true h6;show .plain (λ_=>rfl) λt Q q=>?_
 show E2 h3 h5 h6 (((so h1 c) _).1 q) ?_;rintro d v s' W' aa e i rd aB;show lx (sZ aB) ?_;clear aB;rintro C dx rfl k1;show d6 (fw k1) λf hm k2=>?_
 ·show kQ (nI k2) λkvs hk0 qa qb=>?_
  ·obtain⟨_,hp,ha⟩:=sl h4 (c.step e i) _ _ qb;show⟨.ref f,u6 (c.good.methods _ (mO hm).1),λpl Q' E' hq=>J7 i rd hm hk0 qa hq,hp,d5.monoE (ha _) ?_⟩;rintro ay au ar aq aw ⟨hk,ds,rds,hl,hq⟩;show⟨hk,λaI aC aF=>BR c.hA aF (.cons (aw.rep rd) rds) hq⟩
end
section
theorem SE.none:SE B .none:=by
 intro ns sc e fr A stk W J s U n X h c;apply l4 h;intro _ _ _ g1x;obtain rfl:=ti g1x;show ET c.hI
theorem SE.bool:SE B (.bool b):=by
 intro ns sc e fr A stk W J s U n X h c;apply l4 h;intro _ _ _ g1x;apply KO g1x;intro _ g;clear h g1x;obtain rfl:=eq_of_beq g;show NI c.hI
theorem SE.int{i:Int}:SE B (.int i):=by
 intro ns sc e fr A stk W J s U n X h c;apply l4 h;intro _ _ _ g1x;apply Ml g1x;intro _ g;clear h g1x;obtain rfl:=of_decide_eq_true g;show N5 c.hI
theorem SE.str:SE B (.str l):=by
 intro ns sc e fr A stk W J s U n X h c;apply l4 h;intro _ _ _ g1x;apply Au g1x;intro _ g;obtain⟨h1,g'⟩:=b2 g;clear g;obtain rfl:=eq_of_beq g';show DL c.hI (wF h1)
theorem SE.lv:SE B (.lv i):=by
 intro ns sc e fr A stk W J s U n X h c;apply gG h;intro _ _ h;show Qt c h
theorem SE.gv:SE B (.gv i d):=by
 intro ns sc e fr A stk W J s U n X h c;apply gG h;intro _ _ h;show Qx c h
theorem SE.ndT:SE B .ndT:=by
 intro ns sc e fr A stk W J s U n X h c;apply xk h;intro kl l pos g1x;apply iy g1x;intro g2x;apply iy g2x;intro _;show OR c.hI
theorem BS{ns:List (List Nat)}{sc:Scope}{kl:List (Option Expr)}{l:List Expr}(h:qt ns sc es [] kl l=true):es=.nil/\kl=[]/\l=[]:=by
 cases es with
 |nil=>show BN (P:=λ_ kl l=>gz.nil=.nil/\kl=[]/\l=[]) h ⟨rfl,rfl,rfl⟩
 |cons x xs=>show fg h
theorem SE.sdT(sd:SD B es):SE B (.sdT ks es):=by
 intro ns sc e fr A stk W J s U n X h c;apply xk h;intro kl l pos h;show .plain (λ_=>rfl) λt Q q=>?_
 cases ks with
 |nil=>
  show gp (BS h) ?_;clear sd h;rintro rfl rfl rfl;show K6 c.hI q.2.2
 |cons k ks=>
  show gp (rp (pos:=pos) (env:=fr.env) es h) λh1 h2 h3=>?_
  show Ke h1 ?_ (by unfold qh;rw[List.length_map,List.length_zip];simp_all) c.hI (sd (pos:=pos) (s:={s with heap:=s.heap.push fk}) h (c.step (eA.junk W s.heap fk) (c.hI.junk _)) q);cases l with
  |nil=>injection h2
  |cons a l=>show List.cons_ne_nil _ _
theorem SE.sdF(sd:SD B es):SE B (.sdF ks es):=by
 intro ns sc e fr A stk W J s U n X h c;apply xk h;intro kl l pos h;show .plain (λ_=>rfl) λt Q q=>?_
 cases ks with
 |nil=>
  show gp (BS h) ?_;clear sd h;rintro rfl rfl rfl;show J6 c.hI q.2.2
 |cons k ks=>
  show gp (rp (pos:=pos) (env:=fr.env) es h) λh1 h2 h3=>?_
  show J5 h1 ?_ (by unfold qh;rwa[List.length_map ..,List.length_zip];simp_all) c.hI (sd (pos:=pos) (s:={s with heap:=s.heap.push fk}) h (c.step (eA.junk W s.heap fk) (c.hI.junk _)) q);cases l with
  |nil=>injection h2
  |cons a l=>show List.cons_ne_nil _ _
section
variable{ns:List (List Nat)}{sc:Scope}{fr:Fx}{stk:List Env}
theorem yA(c:Cx B A stk fr ns sc n U W J s.heap)(co:jL ns sc k ns' caps tn csc):
  ∀x∈csc.names,x.2=.free->(fr.env.cells.lookup x.1).isSome=true:=by
 intro x hx hf;obtain⟨h1,l,hl,e⟩:=co.frees x hx hf;obtain⟨j,hj,ej⟩:=List.getElem_of_mem hl;rcases co.names (j:=j) (l:=l) (by show d4 (List.getElem?_eq_getElem hj) (d4 ej rfl)) with⟨_,e'⟩|⟨i,_,e2,_,e4⟩
 ·rw[e,e',co.loc] at h1;injection h1 with h1;injection h1
 ·obtain hn:fr.names[i]?=some (sv l):=by rwa[c.names,List.getElem?_map,e2];rfl
  show gp (c.ok.kinds _ (List.mem_of_getElem? hn)) λhk _ _=>?_
  rwa[e];rcases hk with hk|⟨_,hs⟩
  ·unfold Env.kindOf at hk;rw[c.scope] at hk;rw[hk] at e4;rcases e4 with e4|e4<;>cases e4
  ·show hs
theorem yk{ifs:List Expr}{cond:Ex}(sc1:SE B cond)(c:Cx B A stk fr ns sc n U W J s.heap)(h:(match ifs with|[]=>II cond|[c]=>ff ns' (xS csc sc) cond c|_=>false)=true):
  ∀cl L ag W J s K,jy (fS csc cl L fr.env ns')->ef B stk W J s.heap->fX B (fS csc cl L fr.env ns') W ag s.heap->eg B n (λ_ _=>False) cond true ag J K->
   d5 B A stk W s (forIn ifs true λc r=>if r=true then do let ok<-isTrue c (compEnvC csc cl L fr.env) (eval c (compEnvC csc cl L fr.env));pure (ForInStep.yield ok) else pure (ForInStep.yield r)) (λ_ J b=>K (.bool b) J) (λ_ _=>False):=by
 intro cl L ag W J s K ok hI hF q;cases ifs with
 |nil=>
  have z0:=Kf h;clear sc1 h;subst z0;have q':K (.bool true) J:=q;show wpAny_tests_nil (eR (P:=λ_ J b=>K (.bool b) J) hI q')
 |cons x r=>cases r with
 |nil=>
  have cx:Cx B A stk (fS csc cl L fr.env ns') ns' (xS csc sc) n ag W J s.heap:=⟨c.good,ok,rfl,by rwa[c.scope.symm];rfl,c.hA,hI,hF⟩;show wpAny_tests_one (((sc1 h cx) K).2 q)
 |cons _ _=>injection h
theorem Bz{el:Expr}{elt:Ex}(se:SE B elt)(c:Cx B A stk fr ns sc n U W J s.heap)(h:ff ns' (xS csc sc) elt el=true):
  ∀cl L ag W J s K,jy (fS csc cl L fr.env ns')->ef B stk W J s.heap->fX B (fS csc cl L fr.env ns') W ag s.heap->eg B n (λ_ _=>False) elt false ag J K->
   d5 B A stk W s (eval el (compEnvC csc cl L fr.env)) (RV B K) (λ_ _=>False):=by
 intro cl L ag W J s K ok hI hF q;obtain cx:Cx B A stk (fS csc cl L fr.env ns') ns' (xS csc sc) n ag W J s.heap:=⟨c.good,ok,rfl,by rwa[c.scope.symm];rfl,c.hA,hI,hF⟩;show((se h cx) K).1 q
end
theorem SE.comp{elt it cond:Ex}(se:SE B elt)(si:SE B it)(sc1:SE B cond):SE B (.comp elt k it cond ns' caps):=by
 intro ns sc e fr A stk W J s U n X h c;apply I9 h;intro _ _ _ _ g1;apply rW g1;intro _ g2;apply Gy g2;intro _ _ _ _ g;show Fu (b5 g) λh1 h2 h3 h4 h5=>?_
 show .plain (λ_=>rfl) λt Q q=>?_
 have co:=G8 h3;rwa[arm_eval_ListComp ..];show BU (use:=Option.none) (Q:=λd af=>fin t d af Q) (condW:=λU J K=>eg B n (λ_ _=>False) cond true U J K) (eltW:=λU J K=>eg B n (λ_ _=>False) elt false U J K) c co h2 (yA c co)
  (((si h1 c) _).1 q) (λ_ _ h=>h) (yk sc1 c h4) (Bz se c h5) ?_
 intro W' aa s' v d L m e i r rd q' nL nsL b9 oF h' hs;show⟨W',aa,e.other nL hs,i.extBut hs.extBut oF b9 (c.hI.notFrs nL),⟨r.gens,r.os⟩,d,rd,q'⟩
end
theorem SB.nil:SB B .nil:=by
 intro ns sc l fr A stk W J s U n X cc h c Q;show⟨λq=>?_,λq=>?_⟩
 ·show False.elim q
 ·show False.elim q
mutual
theorem sE:∀x:Ex,SE B x
 |.none=>SE.none
 |.bool _=>SE.bool
 |.int _=>SE.int
 |.str _=>SE.str
 |.lv _=>SE.lv
 |.gv _ _=>SE.gv
 |.tup es=>SE.tup (sL es)
 |.lstF es=>SE.lstF (sL es)
 |.lstT es=>SE.lstT (sL es)
 |.sdT _ es=>SE.sdT (sD es)
 |.sdF _ es=>SE.sdF (sD es)
 |.ndT=>SE.ndT
 |.bin _ a b=>SE.bin (sE a) (sE b)
 |.neg a=>SE.neg (sE a)
 |.cmp _ a b=>SE.cmp (sE a) (sE b)
 |.cmp2 _ _ a b c=>SE.cmp2 (sE a) (sE b) (sE c)
 |.bop _ es=>SE.bop (sB es)
 |.not a=>SE.not (sE a)
 |.ite c a b=>SE.ite (sE c) (sE a) (sE b)
 |.sub a b=>SE.sub (sE a) (sE b)
 |.slc a l u=>SE.slc (sE a) (sE l) (sE u)
 |.att a _=>SE.att (sE a)
 |.call _ _ es=>SE.call (sL es)
 |.callB _ es=>SE.callB (sL es)
 |.methB o _ es=>SE.methB (sE o) (sL es)
 |.methP o _ es=>SE.methP (sE o) (sL es)
 |.comp e _ i c _ _=>SE.comp (sE e) (sE i) (sE c)
theorem sL:∀es:gz,SL B es
 |.nil=>SL.nil
 |.cons x xs=>SL.cons (sE x) (sL xs)
theorem sB:∀es:gz,SB B es
 |.nil=>SB.nil
 |.cons x xs=>match xs with
  |.nil=>SB.one (sE x)
  |.cons y ys=>SB.cons (sE x) (sB (.cons y ys))
theorem sD:∀es:gz,SD B es
 |.nil=>SD.nil
 |.cons x xs=>SD.cons (sE x) (sD xs)
end
noncomputable def MC(e:Expr):Bool:=nO e 25
noncomputable def fR(ns:List (List Nat))(sc:Scope)(i:Nat)(x:Str):Bool:=ki ns i x&&(sc.names.lookup x==some .local||sc.names.lookup x==some .cell)
noncomputable def xi(ns:List (List Nat))(sc:Scope):List Nat->List Expr->Bool
 |[],ts=>l0 ts true
 |i::is,ts=>lc ts λt ts=>ip t λx=>fR ns sc i x&&xi ns sc is ts
noncomputable def gn:Nat->Addr
 |0=>fN
 |1=>jH
 |_=>jI
noncomputable def iC(sc:Scope)(k:Nat)(x:Str):Bool:=Gt.any λp=>x==sv p.1&&Fp p.2 (.stat (gn k))&&sc.names.lookup x==some .globalImplicit&& !(x==("__debug__" :Str))&&decide (k<3)
noncomputable def Ll(s:Stmt)(k:Option Expr->Bool):Bool:=if q:s.ctorIdx=3 then Stmt.Return.elim (motive_2:=λ_=>Bool) s q λv _=>k v else false
theorem Mj{P:Stmt->Prop}{s:Stmt}{k}(h:Ll s k=true)(g:∀v q,k v=true->P (.Return v q)):P s:=by
 obtain⟨i,h⟩:=eV h;show Stmt.Return.elim (motive_2:=λs=>∀i,Stmt.Return.elim (motive_2:=λ_=>Bool) s i (λv _=>k v)=true->P s) s i (λv q _ h=>g v q h) i h
noncomputable def Nm(s:Stmt)(k:List Expr->Expr->Bool):Bool:=if q:s.ctorIdx=5 then Stmt.Assign.elim (motive_2:=λ_=>Bool) s q λt v _=>k t v else false
theorem Lo{P:Stmt->Prop}{s:Stmt}{k}(h:Nm s k=true)(g:∀t v q,k t v=true->P (.Assign t v q)):P s:=by
 obtain⟨i,h⟩:=eV h;show Stmt.Assign.elim (motive_2:=λs=>∀i,Stmt.Assign.elim (motive_2:=λ_=>Bool) s i (λt v _=>k t v)=true->P s) s i (λt v q _ h=>g t v q h) i h
noncomputable def Hg(s:Stmt)(k:Expr->Operator->Expr->Bool):Bool:=if q:s.ctorIdx=7 then Stmt.AugAssign.elim (motive_2:=λ_=>Bool) s q λt o v _=>k t o v else false
theorem Gx{P:Stmt->Prop}{s:Stmt}{k}(h:Hg s k=true)(g:∀t o v q,k t o v=true->P (.AugAssign t o v q)):P s:=by
 obtain⟨i,h⟩:=eV h;show Stmt.AugAssign.elim (motive_2:=λs=>∀i,Stmt.AugAssign.elim (motive_2:=λ_=>Bool) s i (λt o v _=>k t o v)=true->P s) s i (λt o v q _ h=>g t o v q h) i h
noncomputable def Hy(s:Stmt)(k:Expr->Expr->List Stmt->List Stmt->Bool):Bool:=if q:s.ctorIdx=9 then Stmt.For.elim (motive_2:=λ_=>Bool) s q λt i b o _=>k t i b o else false
theorem E5{P:Stmt->Prop}{s:Stmt}{k}(h:Hy s k=true)(g:∀t i b o q,k t i b o=true->P (.For t i b o q)):P s:=by
 obtain⟨i,h⟩:=eV h;show Stmt.For.elim (motive_2:=λs=>∀i,Stmt.For.elim (motive_2:=λ_=>Bool) s i (λt i b o _=>k t i b o)=true->P s) s i (λt i b o q _ h=>g t i b o q h) i h
noncomputable def MX(s:Stmt)(k:Expr->List Stmt->List Stmt->Bool):Bool:=if q:s.ctorIdx=11 then Stmt.While.elim (motive_2:=λ_=>Bool) s q λt b o _=>k t b o else false
theorem MI{P:Stmt->Prop}{s:Stmt}{k}(h:MX s k=true)(g:∀t b o q,k t b o=true->P (.While t b o q)):P s:=by
 obtain⟨i,h⟩:=eV h;show Stmt.While.elim (motive_2:=λs=>∀i,Stmt.While.elim (motive_2:=λ_=>Bool) s i (λt b o _=>k t b o)=true->P s) s i (λt b o q _ h=>g t b o q h) i h
noncomputable def Pk(s:Stmt)(k:Expr->List Stmt->List Stmt->Bool):Bool:=if q:s.ctorIdx=12 then Stmt.If.elim (motive_2:=λ_=>Bool) s q λt b o _=>k t b o else false
theorem OD{P:Stmt->Prop}{s:Stmt}{k}(h:Pk s k=true)(g:∀t b o q,k t b o=true->P (.If t b o q)):P s:=by
 obtain⟨i,h⟩:=eV h;show Stmt.If.elim (motive_2:=λs=>∀i,Stmt.If.elim (motive_2:=λ_=>Bool) s i (λt b o _=>k t b o)=true->P s) s i (λt b o q _ h=>g t b o q h) i h
noncomputable def Mt(s:Stmt)(k:Option Expr->Option Expr->Bool):Bool:=if q:s.ctorIdx=16 then Stmt.Raise.elim (motive_2:=λ_=>Bool) s q λx c _=>k x c else false
theorem Mz{P:Stmt->Prop}{s:Stmt}{k}(h:Mt s k=true)(g:∀x c q,k x c=true->P (.Raise x c q)):P s:=by
 obtain⟨i,h⟩:=eV h;show Stmt.Raise.elim (motive_2:=λs=>∀i,Stmt.Raise.elim (motive_2:=λ_=>Bool) s i (λx c _=>k x c)=true->P s) s i (λx c q _ h=>g x c q h) i h
noncomputable def Mq(s:Stmt)(k:List Stmt->List ExceptHandler->List Stmt->List Stmt->Bool):Bool:=if q:s.ctorIdx=17 then Stmt.Try.elim (motive_2:=λ_=>Bool) s q λb hs o f _=>k b hs o f else false
theorem M5{P:Stmt->Prop}{s:Stmt}{k}(h:Mq s k=true)(g:∀b hs o f q,k b hs o f=true->P (.Try b hs o f q)):P s:=by
 obtain⟨i,h⟩:=eV h;show Stmt.Try.elim (motive_2:=λs=>∀i,Stmt.Try.elim (motive_2:=λ_=>Bool) s i (λb hs o f _=>k b hs o f)=true->P s) s i (λb hs o f q _ h=>g b hs o f q h) i h
noncomputable def NM(s:Stmt)(k:Expr->Bool):Bool:=if q:s.ctorIdx=24 then Stmt.Expr.elim (motive_2:=λ_=>Bool) s q λv _=>k v else false
theorem Nf{P:Stmt->Prop}{s:Stmt}{k}(h:NM s k=true)(g:∀v q,k v=true->P (.Expr v q)):P s:=by
 obtain⟨i,h⟩:=eV h;show Stmt.Expr.elim (motive_2:=λs=>∀i,Stmt.Expr.elim (motive_2:=λ_=>Bool) s i (λv _=>k v)=true->P s) s i (λv q _ h=>g v q h) i h
noncomputable def u4(s:Stmt)(k:Expr->Expr->Bool):Bool:=Nm s λt v=>l1 t λt=>k t v
theorem oo{P:Stmt->Prop}{s:Stmt}{k}(h:u4 s k=true)(g:∀t v q,k t v=true->P (.Assign [t] v q)):P s:=by
 apply Lo h;intro _ v q h;apply rW h;intro t h;show g t v q h
noncomputable def Eu(h:ExceptHandler)(k:Str->Option Str->Str->Str->Expr->Bool):Bool:=match h with
 |.ExceptHandler c n b _=>Gq c λc=>ip c λc=>l1 b λa=>u4 a λx v=>ip x λx=>AX v λl=>l2 l λt e=>qx t λt=>DM t λt=>k c n x t e
theorem Ba{P:ExceptHandler->Prop}{h:ExceptHandler}{k}(g:Eu h k=true)(f:∀c cp n x xp t kt pt e tn tp ap hp,k c n x t e=true->P (.ExceptHandler (some (.Name c cp)) n [.Assign [.Name x xp] (.Tuple [.Constant (.str t) kt pt,e] tn tp) ap] hp)):P h:=by
 obtain⟨c,n,b,hp⟩:=h;apply zL g;intro c h;apply gG h;intro c cp h;apply rW h;intro _ h;apply oo h;intro _ _ ap h;apply gG h;intro x xp h;apply vO h;intro _ tn tp h;apply DN h;intro _ e h;apply l4 h;intro _ kt pt h;apply Au h;intro t h;show f c cp n x xp t kt pt e tn tp ap hp h
noncomputable def EJ(e:Ex):Bool:=decide (e.ctorIdx=26)
theorem GI{e:Ex}(h:EJ e=true):∃a b c d f g,e=.comp a b c d f g:=Ex.comp.elim (motive_1:=λe=>∃a b c d f g,e=.comp a b c d f g) e (of_decide_eq_true h) λ_ _ _ _ _ _=>⟨_,_,_,_,_,_,rfl⟩
noncomputable def F0(err:Str)(e:Expr):Bool:=xA e λr n _=>ip r λr=>r==err&&n==("value" :Str)
theorem HQ{P:Expr->Prop}{err:Str}{e:Expr}(h:F0 err e=true)(f:∀p q,P (.Attribute (.Name err p) "value" q)):P e:=by
 apply qk h;intro _ _ q g;apply gG g;intro _ p g;have z0:=eq_of_beq (b2 g).1;clear h;subst z0;obtain z0:=eq_of_beq (b2 g).2;clear g;subst z0;show f p q
noncomputable def Qn(ns:List (List Nat))(sc:Scope)(i:Nat)(l:List Nat)(hs:List ExceptHandler):Bool:=lc hs λh0 hs=>l2 hs λh1 h2=>
 Eu h0 (λc n x t e=>Gq n λerr=>F0 err e&&sc.names.lookup err==some .local&& !(ns.any λl=>err==sv l)&& !(err==("__debug__" :Str))&&(iC sc 0 c&&fR ns sc i x&&t==sv l&&CP l))
 &&Eu h1 (λc n x t e=>G1 n (qx e λz=>zx z&&(iC sc 1 c&&fR ns sc i x&&t==sv `out)))
 &&Eu h2 (λc n x t e=>G1 n (qx e λz=>zx z&&(iC sc 2 c&&fR ns sc i x&&t==sv `host)))
mutual
noncomputable def DX(ns:List (List Nat))(sc:Scope):St->Stmt->Bool
 |.bad,_=>true
 |.expr e,s=>NM s λv=>ff ns sc e v&&iT v
 |.asg i e,s=>u4 s λt v=>ip t λx=>fR ns sc i x&&ff ns sc e v&&(iT v||EJ e)
 |.asgT is e,s=>u4 s λt v=>AX t λts=>xi ns sc is ts&&ff ns sc e v&&iT v&&MC v
 |.asgA o m e,s=>u4 s λt v=>xA t λx n _=>ff ns sc o x&&n==sv m&&ff ns sc e v&&iT v
 |.asgS o k e,s=>u4 s λt v=>Bm t λx y=>ff ns sc o x&&ff ns sc k y&&CD y&&ff ns sc e v&&iT v
 |.aug i op e,s=>Hg s λt o v=>ip t λx=>fR ns sc i x&&o==Bp op&&ff ns sc e v
 |.augS o k op e,s=>Hg s λt o' v=>Bm t λx y=>ff ns sc o x&&ff ns sc k y&&CD y&&o'==Bp op&&ff ns sc e v
 |.ite c t f,s=>Pk s λx b o=>ff ns sc c x&&iK ns sc t b&&iK ns sc f o
 |.whl c b,s=>MX s λx b' o=>l0 o (ff ns sc c x&&iK ns sc b b')
 |.for1 i it b,s=>Hy s λt y b' o=>ip t λx=>l0 o (fR ns sc i x&&ff ns sc it y&&jN y&&iK ns sc b b')
 |.forT is it b,s=>Hy s λt y b' o=>AX t λts=>l0 o (xi ns sc is ts&&ff ns sc it y&&jN y&&iK ns sc b b')
 |.ret e,s=>Ll s λv=>match v with|some v=>ff ns sc e v|none=>Bl e
 |.raise k es,s=>Mt s λx c=>G1 c (Gq x λx=>qp x λf l _=>ip f λx=>iC sc k x&&ig ns sc es l&&decide (l.length=1))
 |.try3 i e l,s=>Mq s λb hs o f=>l1 b λa=>l0 o (l0 f (u4 a λt v=>ip t λx=>fR ns sc i x&&ff ns sc e v&&iT v&&Qn ns sc i l hs))
noncomputable def iK(ns:List (List Nat))(sc:Scope):eu->List Stmt->Bool
 |.nil,l=>l0 l true
 |.cons s r,l=>lc l λx xs=>DX ns sc s x&&iK ns sc r xs
end
theorem xE{P:List Stmt->Prop}{ns:List (List Nat)}{sc:Scope}{l:List Stmt}(h:iK ns sc .nil l=true)(g:P []):P l:=by apply iy h;intro _;show g
theorem tO{P:List Stmt->Prop}{ns:List (List Nat)}{sc:Scope}{s:St}{r:eu}{l:List Stmt}(h:iK ns sc (.cons s r) l=true)(g:∀x xs,DX ns sc s x=true->iK ns sc r xs=true->P (x::xs)):P l:=by
 apply jR h;intro x xs h;show g x xs (b2 h).1 (b2 h).2
structure gX where
 B:eD
 A:Around
 stk₀:List Env
 fr:Fx
 ns:List (List Nat)
 sc:Scope
 n:Nat
 s₀:Shared
 W₀:Wd
noncomputable abbrev gX.stk(C:gX):List Env:=C.fr.env::C.stk₀
structure gX.Ok(C:gX):Prop where
 good:o6 C.B
 ok:jy C.fr
 names:C.fr.names=C.ns.map sv
 scope:C.fr.env.scope=C.sc
 hA:hH C.A C.stk C.n
 frame:C.fr.env.frame=some C.fr.env.locals
 newL:C.s₀.heap.get? C.fr.env.locals=none
 newC:∀y c,C.fr.env.cells.lookup y=some c->C.s₀.heap.get? c=none
structure At(C:gX)(W:Wd)(J:Hp)(U:ew)(s:Shared):Prop where
 e:eA (frs C.stk₀) C.W₀ C.s₀.heap W s.heap
 inv:ef C.B C.stk W J s.heap
 rest:gc C.s₀ s
 fr:fX C.B C.fr W U s.heap
structure XB(C:gX)(W:Wd)(h:Heap)(W':Wd)(h':Heap):Prop where
 F:∀a o,W.F a=some o->W'.F a=some o
 ι:W.ι<+:W'.ι
 keep:∀a o,h.get? a=some o->a∉W.ι->C.fr.env.locals≠a->(∀y c,C.fr.env.cells.lookup y=some c->c≠a)->a∉frs C.stk->h'.get? a=some o
 some_:∀a o,h.get? a=some o->(h'.get? a).isSome=true
 outι:∀a o,h.get? a=some o->a∉W.ι->a∉W'.ι
 outF:∀a o,h.get? a=some o->a∉W.ι->W.F a=none->W'.F a=none
inductive Jr{α:Type}(C:gX)(W:Wd)(s:Shared)(P:Wd->Hp->ew->α->Prop)(a:α)(s':Shared):Prop
 |mk (W':Wd) (aa:Hp) (ag:ew) (q:At C W' aa ag s') (x:XB C W s.heap W' s'.heap) (p:P W' aa ag a)
inductive EE(C:gX)(X:fD->Hp->Prop)(v:Value)(s':Shared):Prop
 |mk (W':Wd) (aa:Hp) (x:fD) (e:eA (frs C.stk₀) C.W₀ C.s₀.heap W' s'.heap) (i:ef C.B C.stk W' aa s'.heap) (r:gc C.s₀ s') (q:gH C.B W' C.s₀.heap s'.heap v x) (p:X x aa)
def eF(C:gX)(W:Wd)(s:Shared)(m:Sem α)(P:Wd->Hp->ew->α->Prop)(X:fD->Hp->Prop):Prop:=
 wpAny C.B.M C.A m (Jr C W s P) (EE C X) s
section
variable{C:gX}
theorem At.cx(a:At C W J U s)(c:C.Ok):Cx C.B C.A C.stk C.fr C.ns C.sc C.n U W J s.heap:=⟨c.good,c.ok,c.names,c.scope,c.hA,a.inv,a.fr⟩
theorem gX.Ok.frs(c:C.Ok):∀a o,C.s₀.heap.get? a=some o->a∈frs C.stk->a∈frs C.stk₀:=by
 intro a o e m;unfold Mine.frs gX.stk at m;rw[List.filterMap_cons,c.frame] at m;cases m with
 |head=>rw[c.newL] at e;injection e
 |tail _ m=>show m
theorem eA.after{S S':List Addr}(x:eA S W h W' h')(y:eA S' W' h' W'' h'')(k:∀a o,h.get? a=some o->a∈S'->a∈S):eA S W h W'' h'' where
 F a o e:=y.F a o (x.F a o e)
 ι:=x.ι.trans y.ι
 newι a m n:=by
  by_cases q:a∈W'.ι
  ·show x.newι a q n
  ·have:=y.newι a m q;cases e:h.get? a with
   |none=>rfl
   |some o=>show d6 (x.keep a o e n) λsl e' _=>?_;rw[this] at e';injection e'
 newF a m n:=by
  by_cases k:a∈W.ι
  ·show .inr k
  left;cases q:W'.F a with
  |some o=>show(x.newF a (by rwa[q];rfl) n).resolve_right k
  |none=>
   rcases y.newF a m q with r|r
   ·cases e:h.get? a with
    |none=>rfl
    |some o=>show d6 (x.keep a o e k) λsl e' _=>?_;rw[r] at e';injection e'
   ·show x.newι a r k
 keep a o e n:=by
  show d6 (x.keep a o e n) λsl e1 k1=>?_
  obtain n':a∉W'.ι:=λm=>by have:=x.newι a m n;rw[e] at this;injection this
  show d6 (y.keep a _ e1 n') λsl' e2 k2=>?_
  show⟨sl',e2,λf=>(k2 λm=>f (k a o e m)).trans (k1 f)⟩
theorem At.step(a:At C W J U s)(c:C.Ok)(e:eA (frs C.stk) W s.heap W' s'.heap)(i:ef C.B C.stk W' aa s'.heap)(r:gc s s'):At C W' aa U s':=
 ⟨a.e.after e c.frs,i,a.rest.trans r,a.fr.ext e⟩
theorem XB.refl(C:gX)(W:Wd)(h:Heap):XB C W h W h:=
 ⟨λ_ _ e=>e,List.prefix_refl _,λ_ _ e _ _ _ _=>e,λ_ _ e=>by rwa[e];rfl,λ_ _ _ n=>n,λ_ _ _ _ n=>n⟩
theorem XB.trans(x:XB C W h W' h')(y:XB C W' h' W'' h''):XB C W h W'' h'' where
 F a o e:=y.F a o (x.F a o e)
 ι:=x.ι.trans y.ι
 keep a o e n n1 n2 n3:=y.keep a o (x.keep a o e n n1 n2 n3) (x.outι a o e n) n1 n2 n3
 some_ a o e:=by
  obtain⟨o',e'⟩:=Option.isSome_iff_exists.mp (x.some_ a o e);show y.some_ a o' e'
 outι a o e n:=by
  obtain⟨o',e'⟩:=Option.isSome_iff_exists.mp (x.some_ a o e);show y.outι a o' e' (x.outι a o e n)
 outF a o e n f:=by
  obtain⟨o',e'⟩:=Option.isSome_iff_exists.mp (x.some_ a o e);show y.outF a o' e' (x.outι a o e n) (x.outF a o e n f)
theorem XB.of(i':ef C.B C.stk W' aa h')(e:eA (frs C.stk) W h W' h'):XB C W h W' h' where
 F:=e.F
 ι:=e.ι
 keep a o q n _ _ n3:=e.exact_ q n n3
 some_ a o q:=by
  by_cases m:a∈W.ι
  ·obtain⟨l,hl,e'⟩:=List.getElem_of_mem (e.memι m);have hl':l<aa.length:=by rwa[i'.len.symm];show hl
   show d6 (i'.objs l aa[l] a (List.getElem?_eq_getElem hl') (by show d4 (List.getElem?_eq_getElem hl) (d4 e' rfl))) λo' e' _=>?_
   rwa[e'];rfl
  ·show d6 (e.keep a o q m) λsl e' _=>?_
   rwa[e'];rfl
 outι a o q n:=e.outι q n
 outF a o q n f:=e.outF q n f
theorem XB.same{b:Addr}(s:Heap.SameBut b h h')(hb:b=C.fr.env.locals\/∃y,C.fr.env.cells.lookup y=some b)(g:(h'.get? b).isSome=true):XB C W h W h' where
 F _ _ e:=e
 ι:=List.prefix_refl _
 keep a o q n n1 n2 _:=by
  rwa[s.2 a (by
   clear s g;rcases hb with rfl|⟨y,hy⟩
   ·show Ne.symm n1
   ·show Ne.symm (n2 y b hy))]
  show q
 some_ a o q:=by
  by_cases w:a=b
  ·rwa[w];show g
  ·rwa[s.2 a w,q];rfl
 outι _ _ _ n:=n
 outF _ _ _ _ f:=f
theorem eF.of{m:Sem α}{P:Wd->Hp->α->Prop}(c:C.Ok)(a:At C W J U s)(h:d5 C.B C.A C.stk W s m P X):eF C W s m (λW' aa ag v=>ag=U/\P W' aa v) X:=by
 show wpAny_mono h ?_ ?_
 ·rintro v s' ⟨W',aa,e,i,r,p⟩;show⟨W',aa,U,a.step c e i r,.of i e,rfl,p⟩
 ·rintro v s' ⟨W',aa,x,e,i,r,q,p⟩;show⟨W',aa,x,a.e.after e c.frs,i,a.rest.trans r,q.back (eA.fresh a.e a.inv),p⟩
theorem eF.bind{m:Sem α}{k:α->Sem β}{P:Wd->Hp->ew->α->Prop}{P':Wd->Hp->ew->β->Prop}(h:eF C W s m P X)(hk:∀a s' W' aa ag,At C W' aa ag s'->P W' aa ag a->eF C W' s' (k a) P' X):eF C W s (m>>=k) P' X:=by
 show wpAny_bind (wpAny_mono h ?_ λ_ _ h=>h);rintro a s' ⟨W',aa,ag,q,x,p⟩;show wpAny_mono (hk a s' W' aa ag q p) ?_ λ_ _ h=>h
 rintro b s'' ⟨W'',af,bG,q',x',p'⟩;show⟨W'',af,bG,q',x.trans x',p'⟩
theorem eF.pure{a:α}{P:Wd->Hp->ew->α->Prop}(q:At C W J U s)(h:P W J U a):eF C W s (pure a) P X:=wpAny_pure ⟨W,J,U,q,.refl ..,h⟩
theorem eF.hold{m:Sem α}{P:Wd->Hp->ew->α->Prop}(h:eF C W s m P X):eF C W s (holding vs m) P X:=wpAny_holding h
theorem eF.at{k:Unit->Sem β}{P:Wd->Hp->ew->β->Prop}(h:eF C W s (k ()) P X):eF C W s (standAt pos>>=k) P X:=wpAny_bind (wpAny_standAt h)
theorem eF.mono{m:Sem α}{P P':Wd->Hp->ew->α->Prop}{X':fD->Hp->Prop}(h:eF C W s m P X)(hp:∀W' aa ag a,P W' aa ag a->P' W' aa ag a)(hx:∀x aa,X x aa->X' x aa):eF C W s m P' X':=by
 show wpAny_mono h ?_ ?_
 ·rintro a s' ⟨W',aa,ag,q,x,p⟩;show⟨W',aa,ag,q,x,hp _ _ _ _ p⟩
 ·rintro a s' ⟨W',aa,x,e,i,r,q,p⟩;show⟨W',aa,x,e,i,r,q,hx _ _ p⟩
theorem eF.release_go{keep:List Value}{P:Wd->Hp->ew->β->Prop}:∀(l:List Value) {k:Unit->Sem β},eF C W s (k ()) P X->eF C W s (PySem.release.go keep l>>=k) P X:=by
 intro l
 induction l with
 |nil=>intro k h;show h
 |cons a r ih=>
  intro k h;cases r with
  |nil=>show h
  |cons b r=>
   show eF C W s ((holding ((b::r)++keep) point>>=λ_=>PySem.release.go keep (b::r))>>=k) P X;rwa[bind_assoc ..];show wpAny_bind (wpAny_holding (wpAny_point (ih h)))
theorem eF.release{keep:List Value}{k:Unit->Sem β}{P:Wd->Hp->ew->β->Prop}(h:eF C W s (k ()) P X):eF C W s (PySem.release vs keep>>=k) P X:=eF.release_go _ h
def O4(B:eD)(W:Wd):Fl->Flow->Prop
 |.next,.next=>True
 |.ret d,.ret v=>W.Rep B d v
 |_,_=>False
inductive oD(C:gX)(Q:Fl->ew->Hp->Prop)(W':Wd)(aa:Hp)(ag:ew)(f:Flow):Prop
 |mk (fl:Fl) (r:O4 C.B W' fl f) (q:Q fl ag aa)
theorem oD.e{C:gX}{Q:Fl->ew->Hp->Prop}{f:Flow}{R:Prop}(h:oD C Q W' aa ag f)(g:∀fl,O4 C.B W' fl f->Q fl ag aa->R):R:=let⟨d,r,q⟩:=h;g d r q
theorem vy{x:Str}(c:C.Ok)(h:fR C.ns C.sc i x=true):C.fr.names[i]?=some x/\C.fr.env.kindOf x≠some .free:=by
 unfold fR at h;simp only[Bool.and_eq_true,Bool.or_eq_true,beq_iff_eq] at h;show fx h λh1 h2=>?_
 constructor
 ·unfold ki at h1
  split at h1
  ·rename_i l hl;rwa[c.names,List.getElem?_map,hl,beq_iff_eq.mp h1];rfl
  ·injection h1
 ·unfold Env.kindOf;rwa[c.scope];rcases h2 with h2|h2<;>rw[h2]<;>show dt rfl
theorem yX{x:Str}{v:Value}{Q:Unit->Shared->Prop}(c:C.Ok)(a:At C W J U s)(h:fR C.ns C.sc i x=true)(r:W.Rep C.B d v)(k:∀s' b,Heap.SameBut b s.heap s'.heap->(b=C.fr.env.locals\/∃y,C.fr.env.cells.lookup y=some b)->XB C W s.heap W s'.heap->At C W J (U.set i (some d)) s'->Q () s'):wpAny C.B.M C.A (bindName C.fr.env x v) Q E s:=by
 show fx (vy c h) λh1 h2=>?_
 show wpAny_bindName (rS a.inv c.ok a.fr h1 h2 r λh' m b hs hb i' f'=>?_);have hb':b=C.fr.env.locals\/∃y,C.fr.env.cells.lookup y=some b:=by
  clear hs;rcases hb with⟨_,rfl⟩|⟨_,hb⟩
  ·show .inl rfl
  ·show .inr ⟨_,hb⟩
 show k _ b hs hb' (.same hs hb' ?_) ?_
 ·show jb f' λm cm F=>?_
  clear hs hb;rcases hb' with rfl|⟨y,hy⟩
  ·show uI F.ns λo _ _ q _=>?_
   rwa[q];rfl
  ·show fx (F.cell y b hy) ?_;rintro⟨o,q,_⟩ _;rwa[q];rfl
 ·show⟨a.e.other ?_ hs,i',⟨a.rest.gens,a.rest.os⟩,f'⟩;clear hs hb';rcases hb with⟨_,rfl⟩|⟨_,hb⟩
  ·show c.newL
  ·show c.newC _ _ hb
theorem qm{x:Str}{v:Value}{Q:Unit->Shared->Prop}(c:C.Ok)(a:At C W J U s)(h:fR C.ns C.sc i x=true)(r:W.Rep C.B d v)(k:∀s',XB C W s.heap W s'.heap->At C W J (U.set i (some d)) s'->Q () s'):wpAny C.B.M C.A (bindName C.fr.env x v) Q E s:=
 yX c a h r λs' _ _ _ x a'=>k s' x a'
end
end
variable{C:gX}
section
open PySem PySem.W PyProof.Rows
theorem j4{v:Expr}{t:Option Expr}{l:Nat}(h:iT v=true):swapsWith v t l env=pure false:=by
 cases v<;>first|rfl|show Bool.noConfusion h
section
variable{Q:Fl->ew->Hp->Prop}
abbrev SS(C:gX)(st:St):Prop:=∀{x:Stmt} {W:Wd} {J:Hp} {U:ew} {s:Shared} {X:fD->Hp->Prop} {Q:Fl->ew->Hp->Prop},DX C.ns C.sc st x=true->C.Ok->At C W J U s->gV C.B C.n X st U J Q->eF C W s (exec x C.fr.env) (oD C Q) X
abbrev nA(C:gX)(st:eu):Prop:=∀{x:List Stmt} {W:Wd} {J:Hp} {U:ew} {s:Shared} {X:fD->Hp->Prop} {Q:Fl->ew->Hp->Prop},iK C.ns C.sc st x=true->C.Ok->At C W J U s->eH C.B C.n X st U J Q->eF C W s (execs x C.fr.env) (oD C Q) X
theorem jA{x:Ex}{e:Expr}(h:ff C.ns C.sc x e=true)(c:C.Ok)(a:At C W J U s)(q:eg C.B C.n X x false U J Qe):d5 C.B C.A C.stk W s (eval e C.fr.env) (RV C.B Qe) X:=((sE x h (a.cx c)) Qe).1 q
theorem Jf{x:Ex}{e:Expr}(h:ff C.ns C.sc x e=true)(c:C.Ok)(a:At C W J U s)(q:eg C.B C.n X x true U J Qe):
  d5 C.B C.A C.stk W s (isTrue e C.fr.env (eval e C.fr.env)) (λ_ aa b=>Qe (.bool b) aa) X:=((sE x h (a.cx c)) Qe).2 q
theorem eF.go{m:Sem α}{k:α->Sem β}{P:Wd->Hp->α->Prop}{P':Wd->Hp->ew->β->Prop}(c:C.Ok)(a:At C W J U s)(h:d5 C.B C.A C.stk W s m P X)(hk:∀v s' W' aa,At C W' aa U s'->eA (frs C.stk) W s.heap W' s'.heap->P W' aa v->eF C W' s' (k v) P' X):eF C W s (m>>=k) P' X:=by
 show wpAny_bind (wpAny_mono h ?_ ?_)
 ·rintro v s' ⟨W',aa,e,i,r,p⟩;show wpAny_mono (hk v s' W' aa (a.step c e i r) e p) ?_ λ_ _ h=>h
  rintro b s'' ⟨W'',af,bG,q',x',p'⟩;show⟨W'',af,bG,q',(XB.of i e).trans x',p'⟩
 ·rintro v s' ⟨W',aa,x,e,i,r,q,p⟩;show⟨W',aa,x,a.e.after e c.frs,i,a.rest.trans r,q.back (eA.fresh a.e a.inv),p⟩
theorem eF.goV{m:Sem Value}{k:Value->Sem β}{P':Wd->Hp->ew->β->Prop}(c:C.Ok)(a:At C W J U s)(h:d5 C.B C.A C.stk W s m (RV C.B Qe) X)(hk:∀v s' W' aa d,At C W' aa U s'->eA (frs C.stk) W s.heap W' s'.heap->W'.Rep C.B d v->Qe d aa->eF C W' s' (k v) P' X):eF C W s (m>>=k) P' X:=
 eF.go c a h λv s' W' aa a' e hz=>hz.e λd r q=>hk v s' W' aa d a' e r q
theorem nh(a:At C W J U s)(x:XB C W₀ s₀.heap W s.heap)(q:Q .next U J):Jr C W₀ s₀ (oD C Q) .next s:=⟨W,J,U,a,x,.next,trivial,q⟩
theorem SS.bad:SS C .bad:=by
 intro x W J U s X Q h c a q;show(show False from q).elim
theorem SS.expr{e:Ex}:SS C (.expr e):=by
 intro x W J U s X Q h c a q;apply Nf h;intro v pos g;rwa[arm_exec_Expr ..];show eF.at ?_;rwa[if_neg (by unfold interactive;rw[c.ok.kind];simp),j4 (b2 g).2];show wpAny_bind (wpAny_pure ?_);simp only[Bool.false_eq_true,if_false];show eF.goV c a (jA (b2 g).1 c a q) λv s' W' aa d a' _ rd q'=>wpAny_dropValue (nh a' (.refl ..) q')
theorem SS.ret{e:Ex}:SS C (.ret e):=by
 intro x W J U s X Q h c a q;apply Mj h;intro v pos h;cases v with
 |none=>
  obtain z0:=Dc h;clear h;subst z0;show wpAny_Return_none ⟨W,J,U,a,.refl ..,.ret .none,.none,q⟩
 |some v=>
  show wpAny_Return_some (wpAny_mono (eF.of c a (jA h c a q)) ?_ λ_ _ h=>h);rintro u s' ⟨W',aa,ag,a',x',bR,d,rd,q'⟩;show⟨W',aa,_,a',x',.ret d,rd,bR▸q'⟩
theorem SS.ite{e:Ex}{t f:eu}(st:nA C t)(sf:nA C f):SS C (.ite e t f):=by
 intro x W J U s X Q h c a q;apply OD h;intro _ _ _ _ g;rwa[arm_exec_If ..];show eF.at (eF.go c a (Jf (b3 g).1 c a q) λb s' W' aa a' _ q'=>?_);cases b
 ·show sf (b3 g).2.2 c a' q'
 ·show st (b3 g).2.1 c a' q'
theorem EP{x:Str}{p:Pos}{v:Value}(c:C.Ok)(a:At C W J U s)(h:fR C.ns C.sc i x=true)(r:W.Rep C.B d v)(q:Q .next (U.set i (some d)) J):
  eF C W s (assign (.Name x p) C.fr.env v>>=λ_=>pure Flow.next) (oD C Q) X:=by
 show eF C W s ((standAt p>>=λ_=>bindName C.fr.env x v)>>=λ_=>pure Flow.next) (oD C Q) X;rwa[bind_assoc ..];show eF.at (wpAny_bind (qm c a h r λs' x' a'=>wpAny_pure (nh a' x' q)))
theorem SS.aug{e:Ex}:SS C (.aug i op e):=by
 intro x W J U s X Q h c a q;apply Gx h;intro _ o _ _ g;apply gG g;intro y _ g;show gp (b3 g) λh1 h2 h3=>?_
 obtain z0:=eq_of_beq h2;clear g h2;subst z0;show JB q λd hd q=>?_
 rwa[arm_exec_AugAssign ..];show eF.at (eF.goV c a (yv (P:=RV C.B λd J=>eg C.B C.n X e false U J λd' aa=>iq op d d' aa λr af=>Q .next (U.set i (some r)) af) a.inv c.ok a.fr (vy c h1).1 hd λv r=>⟨_,r,q⟩) λv ae ao ah d aD _ rv q=>?_);show eF.goV c aD (d5.hold (jA h3 c aD q)) λu aq ay au d' aL aw ru az=>?_
 show eF.at (eF.goV c aL (d5.operate (Cz aL.inv (aw.rep rv) ru az)) λw aI bg ak dr bf _ rr aJ=>eF.at (wpAny_bind (qm c bf h1 rr λs' x' a'=>wpAny_pure (nh a' x' aJ))))
end
section
variable{Q:Fl->ew->Hp->Prop}
theorem i8{t:Expr}{v:Expr}{P:Wd->Hp->ew->Flow->Prop}(hv:swapsWith v (some t) pos.line C.fr.env=pure false)(hs:swappedStores [t] v C.fr.env=pure none)(ht:(match t with|.Starred .. =>false|_=>true)=true)(h:eF C W s (eval v C.fr.env>>=λu=>assign t C.fr.env u>>=λ_=>pure Flow.next) P X):eF C W s (exec (.Assign [t] v pos) C.fr.env) P X:=by
 rwa[arm_exec_Assign ..];show eF.at ?_;show eF C W s (swapsWith v (some t) pos.line C.fr.env>>=_) P X
 rwa[hv];show wpAny_bind (wpAny_pure ?_);simp only[Bool.false_eq_true,if_false];rwa[hs];obtain e:(assignEach [t] C.fr.env).map (·.2)=[assign t C.fr.env]:=by clear h;cases t<;>first|rfl|show Bool.noConfusion ht
 rwa[e];show h
theorem SS.asgA{o e:Ex}{m:List Nat}:SS C (.asgA o m e):=by
 intro x W J U s X Q h c a q;apply oo h;intro _ _ _ g;apply qk g;intro _ _ _ g;show iS (b4 g) λh1 h2 h3 h4=>?_
 have z0:=eq_of_beq h2;clear g h2;subst z0;show i8 (j4 h4) rfl rfl (eF.goV c a (jA h3 c a q) λv ae ao ah d aD _ rd aB=>?_);show(?_:eF C ao ae ((holding [v] (eval _ C.fr.env)>>=λov=>standAt _>>=λ_=>holding [v,ov] (setAttr ov (sv m) v)>>=λ_=>release [v,ov] [])>>=λ_=>pure Flow.next) (oD C Q) X);rwa[bind_assoc ..];show eF.goV c aD (d5.hold (jA h1 c aD aB)) λu aq ay au od aL aw ru az=>?_
 show(?_:eF C ay aq ((standAt _>>=λ_=>holding [v,u] (setAttr u (sv m) v)>>=λ_=>release [v,u] [])>>=λ_=>pure Flow.next) (oD C Q) X);rwa[bind_assoc ..];show eF.at ?_;rwa[bind_assoc ..];show eF.go c aL (d5.hold (B9 aL.inv ru (aw.rep rd) az)) λw aI bg ak bf _ aJ=>eF.release (eF.pure bf ⟨.next,trivial,aJ⟩)
theorem SS.asgS{o k e:Ex}:SS C (.asgS o k e):=by
 intro x W J U s X Q h c a q;apply oo h;intro _ _ _ g;apply wR g;intro x y ps g;show Fu (b5 g) λh1 h2 h3 h4 h5=>?_
 show i8 (j4 h5) rfl rfl (eF.goV c a (jA h4 c a q) λu ae ao ah d aD _ rd aB=>?_);rwa[assign_Subscript ..,bind_assoc ..];show eF.goV c aD (d5.hold (jA h1 c aD aB)) λov aq ay au od aL aw ro az=>?_
 rwa[bind_assoc ..];show eF.goV c aL (d5.hold (jA h2 c aL az)) λiv aI bg ak kd bf aC rk aJ=>?_
 rwa[bind_assoc ..];show eF.at ?_;rwa[bind_assoc ..];show eF.go c bf (d5.hold (uo bf.inv (aC.rep ro) rk (aC.rep (aw.rep rd)) aJ)) λw aV aX aA bK _ aR=>eF.release (eF.pure bK ⟨.next,trivial,aR⟩)
theorem wO{env:Env}:∀{is:List Nat} {ts:List Expr},xi C.ns C.sc is ts=true->(assignEach ts env).findIdx? (·.1)=none/\(assignEach ts env).length=is.length
 |[],ts,h=>by apply iy h;intro _;show⟨rfl,rfl⟩
 |i::is,ts,h=>by
  apply jR h;intro t ts h;apply gG h;intro x p h;obtain⟨h1,h2⟩:=wO (env:=env) (b2 h).2;show⟨?_,by show(assignEach ts env).length+1=_;rwa[h2];rfl⟩;show List.findIdx? (·.1) ((false,assign (.Name x p) env)::assignEach ts env)=none
  rwa[List.findIdx?_cons];simp[h1]
theorem FF{E:Value->Shared->Prop}{Qk:Unit->Shared->Prop}(c:C.Ok):∀{is:List Nat} {ts:List Expr} {ds:List V} {vs:List Value} {U ag:ew} {s:Shared},xi C.ns C.sc is ts=true->At C W J U s->W.RepL C.B ds vs->tX is ds U=some ag->
  (∀s',XB C W s.heap W s'.heap->At C W J ag s'->Qk () s')->wpAny C.B.M C.A (assignInOrder ((assignEach ts C.fr.env).map (·.2)) vs) Qk E s:=by
 intro is
 induction is with
 |nil=>
  intro ts ds vs U ag s h a r e k;apply iy h;intro _;cases r with
  |nil=>(injection e with e;subst e);show wpAny_pure (k s (.refl ..) a)
  |cons _ _=>injection e
 |cons i is ih=>
  intro ts ds vs U ag s h a r e k;apply jR h;intro t ts h;apply gG h;intro x p h;cases r with
  |nil=>injection e
  |@cons d v ds' vs' r1 r2=>
   show(?_:wpAny _ _ (holding vs' (standAt p>>=λ_=>bindName C.fr.env x v)>>=λ_=>assignInOrder ((assignEach ts C.fr.env).map (·.2)) vs') _ _ s);show wpAny_bind (wpAny_holding (wpAny_bind (wpAny_standAt (qm c a (b2 h).1 r1 λs' x' a'=>ih (b2 h).2 a' r2 e λs'' x'' a''=>k s'' (x'.trans x'') a''))))
end
section
variable{Q:Fl->ew->Hp->Prop}
theorem At.fresh(a:At C W J U s){b:Addr}(n:s.heap.get? b=none):C.s₀.heap.get? b=none:=by
 cases q:C.s₀.heap.get? b with
 |none=>rfl
 |some o=>
  by_cases w:b∈C.W₀.ι
  ·have m:=a.e.memι w;obtain⟨l,hl,e⟩:=List.getElem_of_mem m;have hl':l<J.length:=by rwa[a.inv.len.symm];show hl
   show d6 (a.inv.objs l J[l] b (List.getElem?_eq_getElem hl') (by show d4 (List.getElem?_eq_getElem hl) (d4 e rfl))) λo' e' _=>?_
   rw[n] at e';injection e'
  ·show d6 (a.e.keep b o q w) λsl e' _=>?_
   rw[n] at e';injection e'
theorem At.frame_ne(a:At C W J U s){b:Addr}(n:s.heap.get? b=none):C.fr.env.locals≠b/\∀y c,C.fr.env.cells.lookup y=some c->c≠b:=by
 show jb a.fr λm cm F=>?_
 constructor
 ·show uI F.ns λo _ _ q _=>?_
  intro w;rw[w,n] at q;injection q
 ·intro y c e w;show fx (F.cell y c e) ?_;rintro⟨o,q,_⟩ _;rw[w,n] at q;injection q
theorem At.extBut'(a:At C W J U s){b:Addr}(hF:W.F b=none)(hb:b∉W.ι)(n0:C.s₀.heap.get? b=none)(nf:b∉frs C.stk)(n1:C.fr.env.locals≠b)(n2:∀y c,C.fr.env.cells.lookup y=some c->c≠b)(x:Heap.ExtBut b s.heap h'):At C W J U {s with heap:=h',toks:=m}:=
 ⟨a.e.extBut n0 x,a.inv.extBut x hF hb nf,⟨a.rest.gens,a.rest.os⟩,a.fr.other x n1 n2⟩
theorem At.extBut(a:At C W J U s){b:Addr}(n:s.heap.get? b=none)(x:Heap.ExtBut b s.heap h'):At C W J U {s with heap:=h',toks:=m}:=by
 obtain hb:b∉W.ι:=by
  intro w;obtain⟨l,hl,e⟩:=List.getElem_of_mem w;obtain hl':l<J.length:=by rwa[a.inv.len.symm];show hl
  show d6 (a.inv.objs l J[l] b (List.getElem?_eq_getElem hl') (by show d4 (List.getElem?_eq_getElem hl) (d4 e rfl))) λo' e' _=>?_
  rw[n] at e';injection e'
 obtain hF:W.F b=none:=by
  cases q:W.F b with
  |none=>rfl
  |some o=>have:=a.inv.frozen _ _ q;rw[n] at this;injection this
 show fx (a.frame_ne n) λn1 n2=>?_
 show⟨a.e.extBut (a.fresh n) x,a.inv.extBut x hF hb (a.inv.notFrs n),⟨a.rest.gens,a.rest.os⟩,a.fr.other x n1 n2⟩
theorem XB.other{b:Addr}(x:XB C W h W' h')(n:h.get? b=none)(s:Heap.ExtBut b h' h''):XB C W h W' h'' where
 F:=x.F
 ι:=x.ι
 keep a o q n0 n1 n2 n3:=s a o (by intro w;clear s;subst w;rw[n] at q;injection q) (x.keep a o q n0 n1 n2 n3)
 some_ a o q:=by
  show fv (Option.isSome_iff_exists.mp (x.some_ a o q)) λo' e'=>?_
  rwa[s a o' (by intro w;clear s;subst w;rw[n] at q;injection q) e'];rfl
 outι:=x.outι
 outF:=x.outF
theorem uJ:∀{is:List Nat} {ds:List V} {U ag:ew},tX is ds U=some ag->is.length=ds.length
 |[],ds,_,_,h=>by
  cases ds with
  |nil=>rfl
  |cons=>injection h
 |i::is,ds,U,ag,h=>by
  cases ds with
  |nil=>injection h
  |cons d ds=>show congrArg (·+1) (uJ (is:=is) (ds:=ds) h)
theorem AP{is:List Nat}{ts:List Expr}{p:Pos}{v:Value}{Qk:Unit->Shared->Prop}(c:C.Ok)(h:xi C.ns C.sc is ts=true)(a:At C W J U s)(r:W.Rep C.B d v)(e:mT is d U=some ag)(hk:∀s',XB C W s.heap W s'.heap->At C W J ag s'->Qk () s'):wpAny C.B.M C.A (assign (.Tuple ts k p) C.fr.env v) Qk E s:=by
 cases d
 case tup ds=>
  obtain⟨x,items,n,rfl,h4,hl,h5,h6⟩:=Rep.isTup a.inv r;obtain⟨e1,e2⟩:=wO (C:=C) (env:=C.fr.env) h;show assign_Tuple_tuple c.hA.handled (y9 hl) (by show d4 e2 (d4 (uJ e) (d4 h6 rfl))) e1 λh' hx=>?_
  show FF c h (a.extBut (m:=s.toks) (ef.none_fresh _) hx) h4 e λs' x' a'=>hk s' (((XB.refl C W s.heap).other (ef.none_fresh _) hx).trans x') a'
 all_goals show eC e
theorem SS.asgT{is:List Nat}{e:Ex}:SS C (.asgT is e):=by
 intro x W J U s X Q h c a q;apply oo h;intro _ v pos g;apply vO g;intro ts k p g;show iS (b4 g) λh1 h2 h3 h4=>?_
 obtain hs:swappedStores [.Tuple ts k p] v C.fr.env=pure none:=by clear g h2 h3;cases v<;>first|rfl|show Bool.noConfusion h4
 show i8 (j4 h3) hs rfl (eF.goV c a (jA h2 c a q) λv ae ao ah d aD _ rd aB=>?_);show d6 (j7 aB) λag hb aB=>?_
 show wpAny_bind (AP c h1 aD rd hb λs' x' a'=>wpAny_pure (nh a' x' aB))
theorem Hx{x:Str}{px:Pos}{e:Ex}{v:Expr}(c:C.Ok)(a:At C W J U s)(hs:fR C.ns C.sc i x=true)(h:ff C.ns C.sc e v=true)(hv:EJ e=true)(q:eg C.B C.n X e false U J λd aa=>Q .next (U.set i (some d)) aa):
  eF C W s (evalThenUse v C.fr.env (λu=>assignAll u ((assignEach [.Name x px] C.fr.env).map (·.2)))>>=λ_=>pure Flow.next) (oD C Q) X:=by
 show Tv (GI hv) ?_;clear hv;rintro elt k it cond ns' caps rfl;apply I9 h;intro el _ csc lp g1;apply rW g1;intro _ g2;apply Gy g2;intro tn tp iter ifs g3;show Fu (b5 g3) λh1 h2 h3 h4 h5=>?_
 have co:=G8 h3;have cx:=a.cx c;have ev:evalThenUse (.ListComp el [⟨.Name tn tp,iter,ifs,0⟩] csc lp) C.fr.env (λu=>assignAll u ((assignEach [.Name x px] C.fr.env).map (·.2)))=
   (comprehension (.ListComp el [⟨.Name tn tp,iter,ifs,0⟩] csc lp) csc C.fr.env iter.pos (newList []) false (eval iter C.fr.env) (some λu=>assign (.Name x px) C.fr.env u)>>=λ_=>pure ()):=rfl
 rwa[ev];show wpAny_bind (wpAny_bind ?_);show BU (use:=some λu=>assign (.Name x px) C.fr.env u) (Q:=λd af=>fin false d af λd aa=>Q .next (U.set i (some d)) aa) (condW:=λU J K=>eg C.B C.n (λ_ _=>False) cond true U J K) (eltW:=λU J K=>eg C.B C.n (λ_ _=>False) elt false U J K) cx co h2 (yA cx co)
  (((sE it h1 cx) _).1 q) ?_ (yk (sE cond) cx h4) (Bz (sE elt) cx h5) ?_
 ·rintro y s'' ⟨W'',af,z,e'',i'',r'',qy,qz⟩;show⟨W'',af,z,a.e.after e'' c.frs,i'',a.rest.trans r'',qy.back (eA.fresh a.e a.inv),qz⟩
 ·intro W' aa s' v d L m e' i' r' rd q' nL nsL b9 oF;obtain a':=a.step c e' i' r';show fx (a.frame_ne nL) λn1 n2=>?_
  show wpAny _ _ (standAt px>>=λ_=>bindName C.fr.env x v) _ _ s';show wpAny_bind (wpAny_standAt (yX c a' hs rd λaq b cz hb bA aL=>?_));obtain hbL:L≠b:=by
   clear cz;rcases hb with rfl|⟨y,hy⟩
   ·show Ne.symm n1
   ·show Ne.symm (n2 y b hy)
  show⟨m,?_,λh' hs'=>?_⟩
  ·show uI nsL λo es ep q1 q2=>?_
   show⟨o,es,ep,(cz.2 L hbL).trans q1,q2⟩
  ·show wpAny_pure (wpAny_pure ?_);show nh (aL.extBut' (m:=aq.toks) oF b9 (a.fresh nL) (a.inv.notFrs nL) n1 n2 hs'.extBut) (((XB.of i' e').trans bA).other nL hs'.extBut) q'
theorem SS.asg{e:Ex}:SS C (.asg i e):=by
 intro x W J U s X Q h c a q;apply oo h;intro _ v pos g;apply gG g;intro y p g;obtain⟨k1,k2,k3⟩:=b3 g;have plain:eF C W s (eval v C.fr.env>>=λu=>assign (.Name y p) C.fr.env u>>=λ_=>pure Flow.next) (oD C Q) X:=
  eF.goV c a (jA k2 c a q) λu ae ao ah d aD _ rd aB=>EP c aD k1 rd aB
 by_cases hv:iT v=true
 ·show i8 (j4 hv) rfl rfl plain
 ·have hv':iT v=false:=by simpa using hv
  obtain sw:∃b,swapsWith v (some (.Name y p)) pos.line C.fr.env=pure b:=by
   clear g k2 k3 plain hv;cases v<;>first|show⟨_,rfl⟩|show Bool.noConfusion hv'
  obtain⟨b,hb⟩:=sw;cases b
  ·show i8 hb rfl rfl plain
  ·rwa[arm_exec_Assign ..];show eF.at ?_;show(?_:eF C W s (swapsWith v (some (.Name y p)) pos.line C.fr.env>>=_) _ X);rwa[hb];show wpAny_bind (wpAny_pure (Hx c a k1 k2 (by rw[hv'] at k3;show k3) q))
end
theorem Iy{stk:List Env}{o k:V}{vo vk:Value}(hI:ef B stk W J s.heap)(ro:W.Rep B o vo)(rk:W.Rep B k vk)(h:sQ o k J Q):
  d5 B A stk W s (getItem vo vk) (RV B Q) X:=by
 show d6 (yz h) ?_;rintro l rfl g1;show d6 (mX g1) ?_;clear h g1;rintro k rfl g2;show d6 (nI g2) λkvs hx g3=>?_
 show d6 (fw g3) λd e h=>?_
 cases rk;obtain⟨a,o,rfl,h1,h2,vs,h3,hr⟩:=Rep.isLoc hI ro hx;obtain hd:s.heap.DictOf (strKind pw B.w) a vs:=Heap.dictOf_iff.mpr ⟨_,h2,h3⟩;rcases lJ hr k with⟨d',u,e1,e2,e3⟩|⟨e1,e2⟩
 ·rw[e] at e1;injection e1 with e1;subst e1
  show wpAny_getItem_of (strKind_is ..) hd.mapOf e2 (eM hI ⟨_,e3,h⟩)
 ·rw[e] at e1;injection e1
section
variable{Q:Fl->ew->Hp->Prop}
theorem SS.augS{o k e:Ex}:SS C (.augS o k op e):=by
 intro x W J U s X Q h c a q;apply Gx h;intro _ _ v pos g;apply wR g;intro x y sp g;show Fu (b5 g) λh1 h2 h3 h4 h5=>?_
 obtain z0:=eq_of_beq h4;clear h4;subst z0;rwa[arm_exec_AugAssign_3 ..];show eF.at (eF.goV c a (jA h1 c a q) λov ae ao ah od aD _ ro aB=>?_);show eF.goV c aD (d5.hold (jA h2 c aD aB)) λiv aq ay au kd aL aw rk az=>?_
 obtain inner:d5 C.B C.A C.stk ay aq (standAt sp>>=λ_=>getItem ov iv>>=λold=>holding [old] (eval v C.fr.env)>>=λw=>standAt pos>>=λ_=>operate [old,w] (inplaceOp (Bp op) old w)) (RV C.B λr aa=>iu od kd r aa λbl=>Q .next U bl) X:=by
  show d5.at (d5.bind (Iy aL.inv (aw.rep ro) rk az) λold aI bg ak aC aF bw hz=>hz.e λd rd aJ=>?_);show d5.bind (d5.hold (jA h5 c (aL.step c aC aF bw) aJ)) λw aV aX aA aY aZ cK hz=>hz.e λd' rd' aR=>d5.at (d5.operate (Cz aZ (aY.rep rd) rd' aR))
 show eF.goV c aL (d5.hold inner) λnw aI bg ak r bf aC rr aJ=>eF.at ?_
 obtain es:augStore y ov iv nw=(holding [nw,ov,iv] (setItem ov iv nw)>>=λ_=>release [nw,ov,iv] []>>=λ_=>pure .next):=by
  clear h2 g;cases y<;>first|rfl|show Bool.noConfusion h3
 rwa[es];show eF.go c bf (d5.hold (uo bf.inv (aC.rep (aw.rep ro)) (aC.rep rk) rr aJ)) λw aV aX aA bK _ aR=>eF.release (eF.pure bK ⟨.next,trivial,aR⟩)
theorem nA.nil:nA C .nil:=by
 intro x W J U s X Q h c a q;apply xE h;show(eF.pure a ⟨.next,trivial,q⟩)
theorem nA.cons{st:St}{r:eu}(hs:SS C st)(hr:nA C r):nA C (.cons st r):=by
 intro x W J U s X Q h c a q;apply tO h;intro x xs h1 h2;show eF.bind (hs h1 c a q) λf ae ao ah cA aD hz=>hz.e λfl hf aB=>?_
 cases fl<;>cases f<;>first|show False.elim hf|show hr h2 c aD aB|show eF.pure aD ⟨_,hf,aB⟩
end
section
variable{Q:Fl->ew->Hp->Prop}
theorem r9{Z:Value->Shared->Prop}:∀(x:Value) (s'':Shared),EE C (λ_ _=>False) x s''->Z x s'':=by
 rintro x s'' ⟨_,_,_,_,_,_,_,f⟩;show f.elim
inductive Q6(C:gX)(e:Ex)(b:eu)(Q:Fl->ew->Hp->Prop)(W₀:Wd)(s₀:Shared)(m:Nat)(s:Shared):Prop
 |mk (W:Wd) (J:Hp) (U:ew) (a:At C W J U s) (x:XB C W₀ s₀.heap W s.heap) (q:pP (λU J K=>eg C.B C.n (λ_ _=>False) e true U J K) (λU J K=>eH C.B C.n (λ_ _=>False) b U J K) Q m U J)
theorem SS.whl{e:Ex}{b:eu}(sb:nA C b):SS C (.whl e b):=by
 intro x W₀ c8 c9 s₀ X Q h c a q;apply MI h;intro _ _ _ _ g1;apply iy g1;intro g2;have h:=b2 g2;obtain⟨m,q⟩:=q;show wpAny_While ?_;show codeAny_whileLoop (Q6 C e b Q W₀ s₀) ?_ m ⟨W₀,c8,c9,a,.refl ..,q⟩;clear a q;rintro m s ⟨W,J,U,a,x,q⟩;cases m with
 |zero=>show(show False from q).elim
 |succ m=>
  show wpAny_mono (eF.of c a (Jf h.1 c a q)) ?_ r9;rintro bb ae ⟨ao,ah,cA,aD,bS,bR,aB⟩;rw[bR] at aD;cases bb
  ·show wpAny_pure (nh aD (x.trans bS) aB)
  ·show wpAny_mono (sb h.2 c aD aB) ?_ r9;rintro f aq ⟨ay,au,bN,aL,bA,fl,hf,az⟩;cases fl<;>cases f<;>first|show False.elim hf|show⟨m,Nat.lt_succ_self m,ay,au,bN,aL,(x.trans bS).trans bA,az⟩|show⟨ay,au,bN,aL,(x.trans bS).trans bA,_,hf,az⟩
structure Jt(C:gX)(it:Addr)(xs:List V)(k:Option Nat)(i:Nat)(W:Wd)(J:Hp)(U:ew)(s:Shared):Prop where
 a:At C W J U s
 cur:∃o,hO W s.heap it o/\gx C.B W xs k i o
 new:C.s₀.heap.get? it=none
 nf:it∉frs C.stk
 nl:C.fr.env.locals≠it
 nc:∀y c,C.fr.env.cells.lookup y=some c->c≠it
theorem gx.monoX{k:Option Nat}(x:gx C.B W xs k i o)(e:XB C W h W' h'):gx C.B W' xs k i o:=by
 have aQ:∀(l:Nat) (a:Addr),W.ι[l]?=some a->W'.ι[l]?=some a:=by
  intro l a q;show fv e.ι λt ht=>?_
  rwa[ht.symm,List.getElem?_append_left (List.getElem?_eq_some_iff.mp q).1];show q
 cases x with
 |lst a b c=>show .lst (Rep.mono e.F aQ a) b c
 |loc a b c=>show .loc (aQ _ _ a) b c
 |tup a b c=>show .tup (Rep.mono e.F aQ a) b c
 |strA a b c d=>show .strA a b c d
 |strW a b c d=>show .strW a b c d
 |rng a b c=>show .rng a b c
theorem hO.x(x:hO W h a o)(e:XB C W h W' h')(nl:C.fr.env.locals≠a)(nc:∀y c,C.fr.env.cells.lookup y=some c->c≠a)(nf:a∉frs C.stk):hO W' h' a o:=
 ⟨e.keep a o x.at_ x.outι nl nc nf,e.outι a o x.at_ x.outι,e.outF a o x.at_ x.outι x.outF⟩
inductive Qw(C:gX)(bind:V->ew->Option ew)(b:eu)(k:Option Nat)(Q:Fl->ew->Hp->Prop)(W₀:Wd)(h₀:Heap)(it:Addr)(xs:List V)(n:Nat)(s:Shared):Prop
 |mk (i:Nat) (W:Wd) (J:Hp) (U:ew) (e:n=xs.length+1-i) (hi:i<=xs.length) (l:Jt C it xs k i W J U s) (x:XB C W₀ h₀ W s.heap) (q:qO bind k xs (λU J K=>eH C.B C.n (λ_ _=>False) b U J K) Q (xs.drop i) U J)
theorem Kg{target:Expr}{bind:V->ew->Option ew}{b:eu}{k:Option Nat}{h₀:Heap}(c:C.Ok)(sb:nA C b)(hb:iK C.ns C.sc b body=true)(hbind:∀{W J U ag s d v} {Qk:Unit->Shared->Prop} {E:Value->Shared->Prop},At C W J U s->W.Rep C.B d v->bind d U=some ag->(∀s',XB C W s.heap W s'.heap->At C W J ag s'->Qk () s')->wpAny C.B.M C.A (assign target C.fr.env v) Qk E s)(hlet:∀(v:Value) (s:Shared) (Q:Unit->Shared->Prop) (E:Value->Shared->Prop) (W:Wd) (i:Nat) (o:Obj),s.heap.get? it=some o->gx C.B W xs k i o->Q () s->wpAny C.B.M C.A (letOwnedTupleGo target (.ref it) v) Q E s)(nit:h₀.get? it=none)(hR:∀W J U s f,At C W J U s->XB C W₀ h₀ W s.heap->oD C Q W J U f->R (.ok f) s)(hi:i<=xs.length)(a:Jt C it xs k i W J U s)(hx:XB C W₀ h₀ W s.heap)(q:qO bind k xs (λU J K=>eH C.B C.n (λ_ _=>False) b U J K) Q (xs.drop i) U J):
  codeAny C.B.M C.A (.forLoop target (.ref it) body [] C.fr.env) R s:=by
 show codeAny_forLoop_any (Qw C bind b k Q W₀ h₀ it xs) ?_ (xs.length+1-i) ⟨i,W,J,U,rfl,hi,a,hx,q⟩;clear a hx q hi;rintro n s ⟨i,W,J,U,hn,hi,l,hx,q⟩;show d6 l.cur λo po ro=>?_
 cases e:xs[i]? with
 |none=>
  obtain el:=List.getElem?_eq_none_iff.mp e;rw[List.drop_eq_nil_of_le el] at q;show pX c.hA l.a.inv po.at_ ro q.1 e λh' hb=>?_
  show wpAny_pure (hR _ _ _ _ _ (l.a.extBut' (m:=s.toks) po.outF po.outι l.new l.nf l.nl l.nc hb) (hx.other nit hb) ⟨.next,trivial,q.2⟩)
 |some x=>
  have hlt:=(List.getElem?_eq_some_iff.mp e).1;obtain hd:xs.drop i=x::xs.drop (i+1):=by
   rwa[List.drop_eq_getElem_cons hlt]
   congr 1
   show(List.getElem?_eq_some_iff.mp e).2
  rw[hd] at q;show fx q λst q=>?_
  show oK l.a.inv po.at_ ro st e λba v bY bq bZ aO aq dI rx=>?_
  obtain aL:=l.a.extBut' (m:=bY) po.outF po.outι l.new l.nf l.nl l.nc aq.extBut;have bA:=hx.other nit aq.extBut;obtain bQ:hO W ba it bq:=⟨bZ,po.outι,po.outF⟩;show hlet v {s with heap:=ba,toks:=bY} _ _ W (i+1) bq bZ aO ?_;show d6 (fw q) λag hb' q=>?_
  ·show hbind aL rx hb' λaI dK bf=>?_
   show wpAny_mono (sb hb c bf q) ?_ r9;rintro f aV ⟨aX,aA,dg,bK,cB,fl,hf,aR⟩;have x':=dK.trans cB;cases fl<;>cases f<;>first|show False.elim hf|show⟨xs.length+1-(i+1),by grind,i+1,aX,aA,dg,rfl,hlt,⟨bK,⟨bq,bQ.x x' l.nl l.nc l.nf,aO.monoX x'⟩,l.new,l.nf,l.nl,l.nc⟩,bA.trans x',aR⟩|show hR _ _ _ _ _ bK (bA.trans x') ⟨_,hf,aR⟩
end
section
variable{Q:Fl->ew->Hp->Prop}
theorem uL(h:Heap)(o:Obj):Heap.ExtBut h.objs.size h (h.push o):=λ_ _ _ e=>Heap.get?_push_of_some _ e
theorem Dp{target iter:Expr}{bind:V->ew->Option ew}{it:Ex}{b:eu}(c:C.Ok)(sb:nA C b)(hb:iK C.ns C.sc b body=true)(hi:ff C.ns C.sc it iter=true)(hs:jN iter=true)(hbind:∀{W J U ag s d v} {Qk:Unit->Shared->Prop} {E:Value->Shared->Prop},At C W J U s->W.Rep C.B d v->bind d U=some ag->(∀s',XB C W s.heap W s'.heap->At C W J ag s'->Qk () s')->wpAny C.B.M C.A (assign target C.fr.env v) Qk E s)(hlet:∀(xs:List V) (k:Option Nat) (it:Addr) (v:Value) (s:Shared) (Q:Unit->Shared->Prop) (E:Value->Shared->Prop) (W:Wd) (i:Nat) (o:Obj),s.heap.get? it=some o->gx C.B W xs k i o->Q () s->wpAny C.B.M C.A (letOwnedTupleGo target (.ref it) v) Q E s)(a:At C W J U s)(q:eg C.B C.n X it false U J λd aa=>lu (fF d aa) λp=>qO bind p.2 p.1 (λU J K=>eH C.B C.n (λ_ _=>False) b U J K) Q p.1 U aa):eF C W s (exec (.For target iter body [] pos) C.fr.env) (oD C Q) X:=by
 rwa[arm_exec_For ..];show eF.at (eF.goV c a (jA hi c a q) λv ae ao ah d aD _ rd aB=>?_);obtain hf:foldedSetIterable iter C.fr.env v=pure v:=by
  unfold foldedSetIterable;clear hi;cases iter<;>first|rfl|show Bool.noConfusion hs
 rwa[hf];show wpAny_bind (wpAny_pure ?_);show wpAny_bind (wpAny_standAt ?_);show d6 (j7 aB) ?_;rintro⟨xs,k⟩ hitems aB
 ·show wpAny_bind (wpAny_holding (wB aD.inv rd hitems λo ro nf=>?_));have nit:=ef.none_fresh ae.heap;obtain aL:=aD.extBut (m:=ae.toks) nit (uL ae.heap o);show fx (aD.frame_ne nit) λn1 n2=>?_
  show wpAny_runOwn ?_;show Kg (W₀:=ao) (h₀:=ae.heap) (i:=0) (Q:=Q) (bind:=bind) c sb hb hbind (hlet xs k _) nit (λW J U s f a x p=>⟨W,J,U,a,x,p⟩) (Nat.zero_le _)
   ⟨aL,⟨o,.new aD.inv o nf,ro⟩,aD.fresh nit,aD.inv.notFrs nit,n1,n2⟩ ((XB.refl C ao ae.heap).other nit (uL ae.heap o)) (by rwa[List.drop_zero];show aB)
theorem SS.for1{it:Ex}{b:eu}(sb:nA C b):SS C (.for1 i it b):=by
 intro x W J U s X Q h c a q;apply E5 h;intro _ _ _ _ _ g1;apply gG g1;intro _ _ g2;apply iy g2;intro g3;show iS (b4 g3) λh1 h2 h3 h4=>?_
 show Dp (bind:=λv U=>some (U.set i (some v))) c sb h4 h2 h3 ?_ ?_ a q
 ·intro W J U ag s d v Qk E a r e k;injection e with e;subst e
  show wpAny_bind (wpAny_standAt (qm c a h1 r k))
 ·intro xs k it v s Q E W i o _ _ h;show wpAny_pure h
theorem SS.forT{is:List Nat}{it:Ex}{b:eu}(sb:nA C b):SS C (.forT is it b):=by
 intro x W J U s X Q h c a q;apply E5 h;intro _ _ _ _ _ g1;apply vO g1;intro _ _ _ g2;apply iy g2;intro g3;show iS (b4 g3) λh1 h2 h3 h4=>?_
 show Dp (bind:=mT is) c sb h4 h2 h3 ?_ ?_ a q
 ·intro W J U ag s d v Qk E a r e k;show AP c h1 a r e k
 ·intro xs k it v s Q E W i o ho ro h;unfold letOwnedTupleGo;dsimp only;cases v
  case ref a=>
   show wpAny_bind (wpAny_load ho ?_);obtain key:∃n vs,o.cls=.type n/\o.data=.fields vs/\(["enumerate", "zip", "dict_itemiterator", "dict_reverseitemiterator", "odict_iterator", "itertools.zip_longest", "itertools.pairwise"].contains n)=false:=by
    cases ro with
    |lst a b c=>show⟨_,_,b,c,dt rfl⟩
    |loc a b c=>show⟨_,_,b,c,dt rfl⟩
    |tup a b c=>show⟨_,_,b,c,dt rfl⟩
    |strA a b c d=>show⟨_,_,c,d,dt rfl⟩
    |strW a b c d=>show⟨_,_,c,d,dt rfl⟩
    |rng a b c=>clear ho;subst c;show⟨_,_,rfl,rfl,dt rfl⟩
   show jE key λn vs e1 e2 e3=>?_
   rw[e1,e2];dsimp only;rwa[e3];show wpAny_pure h
  all_goals show wpAny_pure h
end
structure xc(C:gX):Prop where
 raise:∀k es,SS C (.raise k es)
 try3:∀i e l,SS C (.try3 i e l)
mutual
theorem sS{C:gX}(r:xc C):∀x:St,SS C x
 |.bad=>SS.bad
 |.expr _=>SS.expr
 |.asg _ _=>SS.asg
 |.asgT _ _=>SS.asgT
 |.asgA _ _ _=>SS.asgA
 |.asgS _ _ _=>SS.asgS
 |.aug _ _ _=>SS.aug
 |.augS _ _ _ _=>SS.augS
 |.ite _ t f=>SS.ite (AF r t) (AF r f)
 |.whl _ b=>SS.whl (AF r b)
 |.for1 _ _ b=>SS.for1 (AF r b)
 |.forT _ _ b=>SS.forT (AF r b)
 |.ret _=>SS.ret
 |.raise k es=>r.raise k es
 |.try3 i e l=>r.try3 i e l
theorem AF{C:gX}(r:xc C):∀x:eu,nA C x
 |.nil=>nA.nil
 |.cons x xs=>nA.cons (sS r x) (AF r xs)
end
theorem qC{x:Str}:∀(names:List (Str×NameKind)) (k:Nat) (acc:List (Str×Addr)),(acc.lookup x).isSome=true->((cellsFrom k names acc).lookup x).isSome=true
 |[],_,_,h=>h
 |(y,kd)::r,k,acc,h=>by
  unfold cellsFrom
  split
  ·show qC r _ _ ?_;rwa[List.lookup_cons];split
   ·rfl
   ·show h
  ·show qC r _ _ h
theorem qs{x:Str}:∀(names:List (Str×NameKind)) (k:Nat) (acc:List (Str×Addr)),names.lookup x=some .cell->((cellsFrom k names acc).lookup x).isSome=true
 |[],_,_,h=>by simp at h
 |(y,kd)::r,k,acc,h=>by
  rw[List.lookup_cons] at h;unfold cellsFrom
  split at h
  ·rename_i q;injection h with h;subst h
   rwa[if_pos (by rfl)];show qC r _ _ (by rwa[List.lookup_cons,q];rfl)
  ·split
   ·show qs r _ _ h
   ·show qs r _ _ h
theorem Lc{cs:List (Str×Addr)}(h:cs.Pairwise λx y=>x.2≠y.2):∀p∈cs,∀q∈cs,p.2=q.2->p=q:=by
 induction cs with
 |nil=>intro p hp;cases hp
 |cons a r ih=>
  intro p hp q hq e;obtain⟨h1,h2⟩:=List.pairwise_cons.mp h;rcases List.mem_cons.mp hp with ep|hp'
  ·rcases List.mem_cons.mp hq with eq|hq'
   ·show d4 ep (d4 eq rfl)
   ·show absurd e (ep▸h1 q hq')
  ·rcases List.mem_cons.mp hq with eq|hq'
   ·show absurd e.symm (eq▸h1 p hp')
   ·show ih h2 p hp' q hq' e
theorem z6{cs:List (Str×Addr)}(h:cs.Pairwise λx y=>x.2≠y.2){n n':Str}{c:Addr}(e:cs.lookup n=some c)(e':cs.lookup n'=some c):n=n':=
 congrArg Prod.fst (Lc h _ (mem_of_lookup e) _ (mem_of_lookup e') rfl)
inductive QO(B:eD)(a:Addr)(ns:List (List Nat))(np:Nat)(b:eu):Prop
 |mk (o:Obj) (fd:FuncData) (body:List Stmt) (e1:B.h₀.get? a=some o) (e2:o.data=.func fd) (e3:fd.body=.stmts body) (e4:B.h₀.CodeRec fd.code fd.qualname) (e5:fd.closure=[]) (e6:fd.globals=mainGlobals) (e7:fd.builtins=builtinsNs) (e8:fd.scope.kind=.function)
  (e9:fd.scope.isCoroutine=false) (e10:fd.scope.isGenerator=false) (e11:iK ns fd.scope b body=true) (C6:∀l∈ns,kn l=true/\(fd.scope.names.lookup (sv l)=some .local\/fd.scope.names.lookup (sv l)=some .cell))
  (e13:∀vals:List Value,vals.length=np->∀s:Shared,(∀b o,B.h₀.get? b=some o->s.heap.get? b=some o)->BindsTo s fd ⟨vals,[]⟩ (((ns.take np).map sv).zip vals))
structure pz(B:eD)(a:Addr)(ns:List (List Nat))(np:Nat)(b:eu):Prop where
 ex:QO B a ns np b
 np:np<=ns.length
 nodup:ns.Nodup
theorem hH.deeper{stk:List Env}(h:hH A stk (n+1)):hH (A.deeper env) (env::stk) n where
 handled:=h.handled
 frames:=by show A.frames.map (env::·)=_;rwa[h.frames];rfl
 depth:=by have:=h.depth;show A.depth+1+3*n+20<_;lia
 units:=by have:=h.units;show A.units+3+40*n+100<_;lia
theorem Es{w:World}{fd:FuncData}{vals:List Value}{binds:List (Str×Value)}(hroom:A.depth<recursionLimit)(ho:s.heap.get? a=some o)(hdata:o.data=.func fd)(hlim:s.heap.NoLimit)(hcd:s.heap.CodeRec fd.code fd.qualname)(hbody:fd.body=.stmts body)(hbind:BindsTo s fd ⟨vals,[]⟩ binds)(hclo:fd.closure=[])(hkind:∀x∈binds,fd.scope.names.lookup x.1=some .local\/(fd.scope.names.lookup x.1=some .cell/\((cellsFrom (s.heap.objs.size+1) fd.scope.names []).lookup x.1).isSome=true))(h:∀ae,InCallC s (callEnvC fd s.heap.objs.size a).locals (bindL (callEnvC fd s.heap.objs.size a).kindOf binds λ_=>none) (callEnvC fd s.heap.objs.size a).cells
    (bindC (callEnvC fd s.heap.objs.size a).kindOf binds λ_=>none) ae->
   wpAny (model prog w) (A.deeper (callEnvC fd s.heap.objs.size a)) (execs body (callEnvC fd s.heap.objs.size a)) (λf s'=>R (.ok (.ret (match f with|.ret v=>v|_=> .none))) s')
    (λe s'=>wpAny (model prog w) (A.deeper (callEnvC fd s.heap.objs.size a)) (leaving (callEnvC fd s.heap.objs.size a) e) (λ_ s''=>R (.error e) s'') (λe' s''=>R (.error e') s'') s') ae) (hco:fd.scope.isCoroutine=false) (hgen:fd.scope.isGenerator=false) (hk:fd.scope.kind=.function):codeAny (model prog w) A (.call (.ref a) ⟨vals,[]⟩) R s:=by
 show codeAny_call_function hroom ho hdata hco hgen hbody hcd (hbind _ _ _ _ ?_);rwa[hclo];show wpAny_newFunctionEnv_cells hk hkind λenv he s' x=>?_
 subst he;show⟨hlim.keeps x.toInCall.keep,codeAny_func (h s' x)⟩
section
variable{stk:List Env}
theorem z9{m:Str->Option Value}{cs:List (Str×Addr)}(x:InCallC s L m cs cm ae):eA (frs stk) W s.heap W ae.heap:=.kept x.toInCall.keep
theorem Io{m:Str->Option Value}(hI:ef B stk W J s.heap)(x:InCallC s env.locals m env.cells cm ae)(hk:env.scope.kind=.function)(hf:env.frame=some env.locals):ef B (env::stk) W J ae.heap:=by
 have k:=hI.kept x.toInCall.keep;have nL:s.heap.get? env.locals=none:=by
  cases q:s.heap.get? env.locals with
  |none=>rfl
  |some o=>show absurd (Heap.lt_size q) (Nat.not_lt.mpr x.toInCall.fresh)
 show zb x.toInCall.ns λo es ep e1 e2 e3=>?_
 show⟨k.base,k.frozen,k.len,k.nodup,k.sep,k.low,k.size,k.objs,λe me=>?_⟩;clear x;rcases List.mem_cons.mp me with rfl|me
 ·show⟨by rwa[hk];decide,e.locals,o,hf,e1,(by intro vs w;rw[e2] at w;injection w),?_,?_⟩
  ·cases q:W.F e.locals with
   |none=>rfl
   |some y=>have:=hI.frozen _ _ q;rw[nL] at this;injection this
  ·intro w;obtain⟨l,hl,e'⟩:=List.getElem_of_mem w;have hl':l<J.length:=by rwa[hI.len.symm];show hl
   show d6 (hI.objs l J[l] e.locals (List.getElem?_eq_getElem hl') (by show d4 (List.getElem?_eq_getElem hl) (d4 e' rfl))) λo' e' _=>?_
   rw[nL] at e';injection e'
 ·show k.frames e me
end
def CM(B:eD):Prop:=∀(A:Around) (stk:List Env) (env:Env) (n:Nat) (W₀ W:Wd) (J:Hp) (s₀ s:Shared) (e:Value) (x:fD),hH A stk (n+1)->env.scope.kind=.function->env.frame=some env.locals->s₀.heap.get? env.locals=none->
 eA (frs stk) W₀ s₀.heap W s.heap->ef B (env::stk) W J s.heap->gH B W s₀.heap s.heap e x->
 wpAny B.M (A.deeper env) (leaving env e) (λ_ s'=>eA (frs stk) W₀ s₀.heap W s'.heap/\ef B stk W J s'.heap/\gH B W s₀.heap s'.heap e x/\gc s s') (λ_ _=>False) s
theorem Hl{kindOf:Str->Option NameKind}:∀{xs:List Str} {vs:List Value} {m:Str->Option Value},xs.Nodup->∀(i:Nat) (x:Str) (v:Value),xs[i]?=some x->vs[i]?=some v->kindOf x=some .local->bindL kindOf (xs.zip vs) m x=some v:=by
 obtain out:∀{xs:List Str} {vs:List Value} {m:Str->Option Value} {x:Str},x∉xs->bindL kindOf (xs.zip vs) m x=m x:=by
  intro xs
  induction xs with
  |nil=>intro vs m x _;rfl
  |cons y ys ih=>
   intro vs m x n;cases vs with
   |nil=>rfl
   |cons u us=>
    rw[List.zip_cons_cons,bindL,ih (λq=>n (.tail _ q))]
    split
    ·show if_neg (λq:x=y=>n (by rw[q];show .head _))
    ·rfl
 intro xs
 induction xs with
 |nil=>intro vs m _ i x v e;simp at e
 |cons y ys ih=>
  intro vs m nd i x v e1 e2 hk;obtain⟨n1,n2⟩:=List.nodup_cons.mp nd;cases vs with
  |nil=>simp at e2
  |cons u us=>
   rw[List.zip_cons_cons,bindL];cases i with
   |zero=>
    simp at e1 e2;subst e1 e2;rw[out n1,if_pos hk];show if_pos rfl
   |succ i=>show ih n2 i x v (by simpa using e1) (by simpa using e2) hk
theorem Im{kindOf:Str->Option NameKind}:∀{xs:List Str} {vs:List Value} {m:Str->Option Value},xs.Nodup->∀(i:Nat) (x:Str) (v:Value),xs[i]?=some x->vs[i]?=some v->kindOf x≠some .local->bindC kindOf (xs.zip vs) m x=some v:=by
 obtain out:∀{xs:List Str} {vs:List Value} {m:Str->Option Value} {x:Str},x∉xs->bindC kindOf (xs.zip vs) m x=m x:=by
  intro xs
  induction xs with
  |nil=>intro vs m x _;rfl
  |cons y ys ih=>
   intro vs m x n;cases vs with
   |nil=>rfl
   |cons u us=>
    rwa[List.zip_cons_cons];rewrite [bindC];rwa[ih (λq=>n (.tail _ q))]
    split
    ·rfl
    ·show if_neg (λq:x=y=>n (by rwa[q];show .head _))
 intro xs
 induction xs with
 |nil=>intro vs m _ i x v e;simp at e
 |cons y ys ih=>
  intro vs m nd i x v e1 e2 hk;obtain⟨n1,n2⟩:=List.nodup_cons.mp nd;cases vs with
  |nil=>simp at e2
  |cons u us=>
   rwa[List.zip_cons_cons];rw[bindC];cases i with
   |zero=>
    simp at e1 e2;subst e1 e2;rwa[out n1,if_neg hk];show if_pos rfl
   |succ i=>show ih n2 i x v (by simpa using e1) (by simpa using e2) hk
noncomputable def iY(np:Nat)(ns:List (List Nat))(args:List V):ew:=args.map some++List.replicate (ns.length-np) none
def mU(B:eD)(n:Nat)(a:Addr)(args:List V)(J:Hp)(Q:V->Hp->Prop)(X:fD->Hp->Prop):Prop:=
 ∀(A:Around) (stk:List Env) (W:Wd) (s:Shared) (vs:List Value) (PV PE:Value->Shared->Prop),hH A stk n->ef B stk W J s.heap->W.RepL B args vs->
  (∀v s' W' aa d,eA (frs stk) W s.heap W' s'.heap->ef B stk W' aa s'.heap->W'.Rep B d v->gc s s'->Q d aa->PV v s')->
  (∀e s' W' aa x,eA (frs stk) W s.heap W' s'.heap->ef B stk W' aa s'.heap->gH B W' s.heap s'.heap e x->gc s s'->X x aa->PE e s')->
  codeAny B.M A (.call (.ref a) ⟨vs,[]⟩) (λr s'=>match r with|.ok (.ret v)=>PV v s'|.ok _=>False|.error e=>PE e s') s
theorem mU.call{args:List V}(h:mU B n a args J Q X):d7 B n a args J Q X:=
 λA stk W s vs PV PE h1 h2 h3 h4 h5=>wpAny_call (h A stk W s vs PV PE h1 h2 h3 h4 h5)
theorem DS{ns:List (List Nat)}{b:eu}{args:List V}{stk:List Env}(G:o6 B)(f:pz B a ns np b)(hn:args.length=np)(hA:hH A stk (n+1))(bB:eA (frs stk) W₀ s₀.heap W s.heap)(hI:ef B stk W J s.heap)(dM:gc s₀ s)(rv:W.RepL B args vs)(hbody:∀(env:Env) (sc:Scope) (ae:Shared) (body:List Stmt),let C:gX:=⟨B,A.deeper env,stk,⟨env,ns.map sv⟩,ns,sc,n,s₀,W₀⟩;C.Ok->At C W J (iY np ns args) ae->(∀q o,s.heap.get? q=some o->ae.heap.get? q=some o)->
   (∀q o,s.heap.get? q=some o->C.fr.env.locals≠q/\∀y c,C.fr.env.cells.lookup y=some c->c≠q)->iK C.ns C.sc b body=true->
   wpAny B.M C.A (execs body C.fr.env) (λfl s'=>R (.ok (.ret (match fl with|.ret v=>v|_=> .none))) s')
    (λe s'=>wpAny B.M C.A (leaving C.fr.env e) (λ_ s''=>R (.error e) s'') (λe' s''=>R (.error e') s'') s') ae):
  codeAny B.M A (.call (.ref a) ⟨vs,[]⟩) R s:=by
 obtain⟨o,fd,body,e1,e2,e3,e4,e5,e6,e7,e8,e9,e10,e11,C6,e13⟩:=f.ex;obtain hv:vs.length=np:=by rwa[rv.length.symm];show hn
 obtain hd:=hA.depth;obtain⟨cc,oc,cvs,ct,c1,c2,c3,c4⟩:=e4;show Es (binds:=((ns.take np).map sv).zip vs) (by lia) (hI.old _ _ e1) e2 hI.nolimit ⟨cc,oc,cvs,ct,c1,hI.old _ _ c2,c3,c4⟩ e3 (e13 vs hv s hI.old) e5 ?_ ?_ e9 e10 e8
 ·intro x hx;obtain hm:=(List.of_mem_zip (a:=x.1) (b:=x.2) hx).1;show d6 (List.mem_map.mp hm) λl hl' e=>?_
  rcases(C6 l (List.mem_of_mem_take hl')).2 with q|q
  ·left;rwa[e.symm];show q
  ·right;rwa[e.symm];show⟨q,qs _ _ _ q⟩
 ·intro ae x;generalize hE:callEnvC fd s.heap.objs.size a=env at x ⊢;have k1:env.scope=fd.scope:=by rwa[hE.symm];rfl
  have k2:env.frame=some env.locals:=by rwa[hE.symm];rfl
  obtain k3:env.globals=mainGlobals:=by rwa[hE.symm];show e6
  obtain k4:env.builtins=builtinsNs:=by rwa[hE.symm];show e7
  obtain k5:env.cells=cellsFrom (s.heap.objs.size+1) fd.scope.names []:=by rwa[hE.symm];rfl
  have hk:env.scope.kind=.function:=by rwa[k1];show e8
  have old:∀b,s.heap.objs.size<=b->s.heap.get? b=none:=by
   intro b hb;cases q:s.heap.get? b with
   |none=>rfl
   |some y=>show absurd (Heap.lt_size q) (Nat.not_lt.mpr hb)
  have nL:=old _ x.toInCall.fresh;have nC:∀y c,env.cells.lookup y=some c->s.heap.get? c=none:=λy c e=>old c (Nat.le_trans x.toInCall.fresh (Nat.le_of_lt (x.above _ _ (mem_of_lookup e))))
  have notW:∀b,s.heap.get? b=none->b∉W.ι/\W.F b=none:=by
   intro b q;constructor
   ·intro w;obtain⟨l,hl,e'⟩:=List.getElem_of_mem w;have hl':l<J.length:=by rwa[hI.len.symm];show hl
    show d6 (hI.objs l J[l] b (List.getElem?_eq_getElem hl') (by show d4 (List.getElem?_eq_getElem hl) (d4 e' rfl))) λo' e' _=>?_
    rw[q] at e';injection e'
   ·cases z:W.F b with
    |none=>rfl
    |some y=>have:=hI.frozen _ _ z;rw[q] at this;injection this
  obtain ok:jy ⟨env,ns.map sv⟩:={
   kind:=hk,glob:=k3,blt:=k4
   nodup:=List.Pairwise.map sv (λ_ _ h e=>h (lh e)) f.nodup
   kinds:=by
    intro y hy;show d6 (List.mem_map.mp hy) ?_;clear hy;rintro l hl' rfl;show fx (C6 l hl') λq1 q2=>?_
    unfold kn at q1;simp only[Bool.and_eq_true,Bool.not_eq_true'] at q1;show⟨?_,q1.1,q1.2⟩;unfold Env.kindOf;dsimp only;rwa[k1,k5];rcases q2 with q2|q2
    ·show .inl q2
    ·show .inr ⟨.inl q2,qs _ _ _ q2⟩}
  let C:gX:=⟨B,A.deeper env,stk,⟨env,ns.map sv⟩,ns,fd.scope,n,s₀,W₀⟩
  obtain dj:s₀.heap.get? env.locals=none:=eA.fresh bB hI _ nL;obtain cok:C.Ok:=⟨G,ok,rfl,k1,hA.deeper,k2,dj,λy c e=>eA.fresh bB hI _ (nC y c e)⟩;obtain inv:=Io hI x hk k2;obtain fr:fX B ⟨env,ns.map sv⟩ W (iY np ns args) ae.heap:=by
   show⟨_,_,x.toInCall.ns,(notW _ nL).1,(notW _ nL).2,λy c e=>⟨x.cell y c e,(notW _ (nC y c e)).1,(notW _ (nC y c e)).2,Nat.ne_of_gt (x.above _ _ (mem_of_lookup e))⟩,λy y' c e e'=>z6 x.apart e e',λi d e=>?_⟩;have hi:i<np:=by
    by_cases q:i<args.length
    ·simp_all
    ·unfold iY at e;rw[List.getElem?_append_right (by simpa using q)] at e;obtain this:=List.eq_of_mem_replicate (List.mem_of_getElem? e);injection this
   obtain e':args[i]?=some d:=by
    unfold iY at e;rw[List.getElem?_append_left (by simp;simp_all),List.getElem?_map] at e;show d6 (Option.map_eq_some_iff.mp e) λy q1 q2=>?_
    injection q2 with q2;clear e;subst q2;show q1
   show d6 (rv.get e') λv ev r=>?_
   have hin:i<ns.length:=Nat.lt_of_lt_of_le hi f.np;show⟨sv ns[i],v,by rwa[List.getElem?_map,List.getElem?_eq_getElem hin];rfl,?_,r⟩;have et:((ns.take np).map sv)[i]?=some (sv ns[i]):=by rwa[List.getElem?_map,List.getElem?_take,if_pos hi,List.getElem?_eq_getElem hin];rfl
   have nd:((ns.take np).map sv).Nodup:=List.Pairwise.map sv (λ_ _ h e=>h (lh e)) (f.nodup.sublist (List.take_sublist _ _));unfold jD
   split
   ·rename_i q;show Hl nd i _ v et ev q
   ·rename_i q;show Im nd i _ v et ev q
  show lx x.done λhh tk hs _=>?_
  obtain rest:gc s ae:=by rwa[hs];show⟨rfl,rfl⟩
  obtain at_:At C W J (iY np ns args) ae:=⟨bB.trans (z9 x),inv,dM.trans rest,fr⟩;show hbody env fd.scope ae body cok at_ x.toInCall.keep ?_ e11;intro q o hq;show⟨λw=>by rw[<-w] at hq;show absurd (nL.symm.trans hq) (by simp),λy c e w=>by rw[<-w] at hq;show absurd ((nC y c e).symm.trans hq) (by simp)⟩
theorem ef.tail{stk:List Env}(i:ef B (env::stk) W J h):ef B stk W J h:=⟨i.base,i.frozen,i.len,i.nodup,i.sep,i.low,i.size,i.objs,λe m=>i.frames e (.tail _ m)⟩
theorem EW{ns:List (List Nat)}{b:eu}{args:List V}(G:o6 B)(hl:CM B)(hr:∀C:gX,C.B=B->xc C)(f:pz B a ns np b)(hn:args.length=np)(h:eH B n X b (iY np ns args) J (λfl _ aa=>match fl with|.next=>Q .none aa|.ret d=>Q d aa)):mU B (n+1) a args J Q X:=by
 intro A stk W s vs PV PE hA hI rv hQ hX;show DS G f hn hA (.refl ..) hI ⟨rfl,rfl⟩ rv λenv sc ae body cok at_ _ _ e11=>?_
 show wpAny_mono (AF (hr _ rfl) b (X:=X) e11 cok at_ h) ?_ ?_
 ·rintro fl s' ⟨W',aa,ag,a',x',fl',hf,q⟩;cases fl'<;>cases fl<;>first|show False.elim hf|show hQ .none s' W' aa .none a'.e a'.inv.tail .none a'.rest q|show hQ _ s' W' aa _ a'.e a'.inv.tail hf a'.rest q
 ·rintro e s' ⟨W',aa,y,e',i',r',ex,q⟩;show wpAny_mono (hl A stk env n W W' aa s s' e y hA cok.ok.kind cok.frame cok.newL e' i' ex) ?_ (λ_ _ f=>f.elim);rintro _ s'' ⟨q1,q2,q3,q4⟩;show hX e s'' W' aa y q1 q2 q3 (r'.trans q4) q
section
variable{M:Model}
structure q9(l:List Addr)(h:Heap)(e:Addr)(oe:Obj)(vs:Array Value)(skip:Addr->Prop)(h':Heap):Prop where
 exc:∃T oT ts,h.get? T=none/\T≠e/\h'.get? e=some {oe with data:=.fields (vs.setIfInBounds 1 (.ref T))}/\h'.get? T=some oT/\oT.data=.fields ts/\ts[3]?=some .none
 keep:∀b o,b≠e->¬skip b->h.get? b=some o->∃sl,h'.get? b=some {o with slots:=sl}/\(b∉l->sl=o.slots)
 some_:∀b o,h.get? b=some o->(h'.get? b).isSome=true
theorem EN{vs:Array Value}(hd:o.data=.fields vs)(f:Array Value->Array Value):Obj.mapFields f o={o with data:=.fields (f vs)}:=by
 obtain⟨c,d,dt,sl⟩:=o;subst hd;rfl
theorem mM{base:Heap}{e:Addr}{vs:Array Value}{head:Value}{hadNext:Bool}{Q:Unit->Shared->Prop}(hfr:A.frames=some (env::outer))(hl:s.heap.FunFrames base (env::outer))(hf:env.frame=some L)(he:s.heap.get? e=some oe)(hd:oe.data=.fields vs)(hsz:1<vs.size)(h:∀h',q9 ((env::outer).filterMap (·.frame)) s.heap e oe vs (λ_=>False) h'->Q () {s with heap:=h'}):
  wpAny M A (do let a<-frameOf env;let pl<-entryPlaceOf L hadNext;let b<-EntryCells.newEntry head a .none (rawInt L) .none pl;setField (.ref e) 1 b) (λ_ s'=>wpAny M A (setFlight (.ref e) none) Q E s') E s:=by
 have hene:e∉(env::outer).filterMap (·.frame):=λhm=>by
  obtain⟨_,o,ho,hnf⟩:=hl.mem hm;rw[he] at ho;injection ho with ho;subst ho;show hnf vs hd
 show wpAny_bind (wpAny_frameOf_fun hfr hl hf λaM ae=>?_);show wpAny_bind (wpAny_entryPlaceOf λpl hpl=>?_);unfold EntryCells.newEntry newFields;show wpAny_bind (wpAny_newObj_type ?_ (hpl.sizeOk5 _ _ _ _ _));have aS:aM.get? e=some oe:=(ae.2.1 e hene).trans he;have eN:=Heap.get?_push_of_some (h:=aM) {cls:=.type "traceback",dict:=none,data:=.fields ([head,.ref L,.none,rawInt L,.none]++(if pl.isEmpty then List.replicate 6 Value.none else pl)).toArray} aS;show wpAny_setField eN hd hsz ?_;have neT:aM.objs.size≠e:=Nat.ne_of_gt (Heap.lt_size aS);have b7:=Obj.data_mapFields hd (·.setIfInBounds 1 (Value.ref aM.objs.size));have aC:=Heap.get?_update_self (Obj.mapFields (·.setIfInBounds 1 (Value.ref aM.objs.size))) eN (Obj.isFreed_of_fields b7)
 have cL:=(Heap.get?_update_other (aM.push {cls:=.type "traceback",dict:=none,data:=.fields ([head,.ref L,.none,rawInt L,.none]++(if pl.isEmpty then List.replicate 6 Value.none else pl)).toArray})
  (Obj.mapFields (·.setIfInBounds 1 (Value.ref aM.objs.size))) (Ne.symm neT)).trans (Heap.get?_push_size aM rfl)
 unfold setFlight;show wpAny_bind (wpAny_field aC b7 (x:=.ref aM.objs.size) (by simp[hsz]) ?_);rwa[if_pos (show(Value.ref aM.objs.size !=Value.none)=true from by simp)];show wpAny_setField cL rfl (by simp only[List.size_toArray,List.length_append,List.length_cons,List.length_nil]<;>lia) (h _ ?_);have kp:∀b o,b≠e->aM.get? b=some o->b≠aM.objs.size:=λb o _ hb=>Nat.ne_of_lt (Heap.lt_size hb)
 show⟨⟨aM.objs.size,_,_,?_,neT,?_,Heap.get?_update_self _ cL (Obj.isFreed_of_fields (Obj.data_mapFields rfl _)),Obj.data_mapFields rfl _,by simp⟩,λb o hb _ hbo=>?_,λb o hbo=>?_⟩
 ·rwa[ae.1];show ef.none_fresh _
 ·rwa[Heap.get?_update_other _ _ neT,aC];rw[EN hd]
 ·obtain⟨sl,q⟩:=ae.2.2 b o hbo;have q':=kp b _ hb q;show⟨sl,?_,λnm=>?_⟩
  ·rwa[Heap.get?_update_other _ _ (Ne.symm q'),Heap.get?_update_other _ _ (Ne.symm hb)];show Heap.get?_push_of_some _ q
  ·have:=ae.2.1 b nm;rw[q,hbo] at this;have:=Option.some.inj this;show congrArg (·.slots) this
 ·by_cases w:b=e
  ·rwa[w,Heap.get?_update_other _ _ neT,aC];rfl
  ·obtain⟨sl,q⟩:=ae.2.2 b o hbo;have q':=kp b _ w q;rwa[Heap.get?_update_other _ _ (Ne.symm q'),Heap.get?_update_other _ _ (Ne.symm w),Heap.get?_push_of_some _ q];rfl
theorem BY{base:Heap}{e:Addr}{vs:Array Value}{Q:Unit->Shared->Prop}(hfr:A.frames=some (env::outer))(hl:s.heap.FunFrames base (env::outer))(hf:env.frame=some L)(he:s.heap.get? e=some oe)(hd:oe.data=.fields vs)(h1:vs[1]?=some .none)(h:∀h',q9 ((env::outer).filterMap (·.frame)) s.heap e oe vs (λ_=>False) h'->Q () {s with heap:=h'}):wpAny M A (leaving env (.ref e)) Q E s:=by
 unfold leaving noteFrame;simp only[hf];show wpAny_bind (wpAny_bind (wpAny_field he hd h1 ?_));rwa[if_neg (dt rfl)];show mM hfr hl hf he hd (Array.getElem?_eq_some_iff.mp h1).1 h
theorem Cf{base:Heap}{e:Addr}{oT:Obj}{vs ts:Array Value}{Q:Unit->Shared->Prop}(hfr:A.frames=some (env::outer))(hl:s.heap.FunFrames base (env::outer))(hf:env.frame=some L)(he:s.heap.get? e=some oe)(hd:oe.data=.fields vs)(h1:vs[1]?=some (.ref T))(hTe:T≠e)(hT:s.heap.get? T=some oT)(hdT:oT.data=.fields ts)(h3:ts[3]?=some .none)(h:∀h',q9 ((env::outer).filterMap (·.frame)) s.heap e oe vs (λb=>b=T) h'->Q () {s with heap:=h'}):wpAny M A (leaving env (.ref e)) Q E s:=by
 unfold leaving noteFrame;simp only[hf];show wpAny_bind (wpAny_bind (wpAny_field he hd h1 ?_));rwa[if_pos (show(Value.ref T !=Value.none)=true from by simp)];show wpAny_bind (wpAny_field hT hdT h3 ?_);rwa[if_neg (show ¬((Value.none==rawInt L)=true) from by simp[rawInt])];show wpAny_bind (wpAny_setField hT hdT (Array.getElem?_eq_some_iff.mp h3).1 ?_);have other:∀b,b≠T->(s.heap.update T (Obj.mapFields (·.setIfInBounds 3 Value.none))).get? b=s.heap.get? b:=λb hb=>Heap.get?_update_other _ _ (Ne.symm hb)
 have selfT:=Heap.get?_update_self (Obj.mapFields (·.setIfInBounds 3 Value.none)) hT (Obj.isFreed_of_fields (Obj.data_mapFields hdT _));obtain nr:∀b o,s.heap.get? b=some o->(∀vs,o.data≠.fields vs)->b≠T:=λb o hb hnf q=>by
  rw[q,hT] at hb;injection hb with hb;subst hb;show hnf ts hdT
 show mM (s:={s with heap:=s.heap.update T (Obj.mapFields (·.setIfInBounds 3 Value.none))}) hfr (hl.of_keeps λb o hb hnf=>⟨o,(other b (nr b o hb hnf)).trans hb,rfl⟩) hf ((other e (Ne.symm hTe)).trans he) hd (Array.getElem?_eq_some_iff.mp h1).1 λh' g=>h h' ?_
 show⟨?_,λb o hb ht hbo=>g.keep b o hb (λq=>q) ((other b ht).trans hbo),λb o hbo=>?_⟩
 ·obtain⟨T',oT',ts',q1,q2,q3,q4,q5,q6⟩:=g.exc;show⟨T',oT',ts',?_,q2,q3,q4,q5,q6⟩
  by_cases w:T'=T
  ·rw[w] at q1;rw[show({s with heap:=s.heap.update T (Obj.mapFields (·.setIfInBounds 3 Value.none))}:Shared).heap.get? T=_ from selfT] at q1;injection q1
  ·rwa[(other T' w).symm];show q1
 ·by_cases w:b=T
  ·rwa[w];show g.some_ T _ selfT
  ·show g.some_ b o ((other b w).trans hbo)
end
theorem vN{stk:List Env}{base:Heap}(hb:∀a,base.get? a=none)(hI:ef B stk W J h):h.FunFrames base stk:=by
 obtain this:∀l:List Env,(∀e∈l,e∈stk)->h.FunFrames base l:=by
  intro l
  induction l with
  |nil=>intro _;trivial
  |cons e r ih=>
   intro k;obtain⟨q1,L,o,q2,q3,q4,_⟩:=hI.frames e (k e (.head _));show⟨q1,⟨L,o,q2,hb L,q3,q4⟩,ih λx hx=>k x (.tail _ hx)⟩
 show this stk λ_ h=>h
theorem q9.fin{stk:List Env}{x:fD}{od:Obj}{vs:Array Value}{kvs:List (Str×Value)}(eE:eA (frs (env::stk)) W₀ s₀.heap W s.heap)(hI:ef B (env::stk) W J s.heap)(hx:match x with|.throw v=>∃u,valueAt kvs (Str.ofString "value")=some u/\W.Rep B v u|_=>True)(n0:s₀.heap.get? a=none)(ho:s.heap.get? a=some o)(hc:o.cls=.ref (Al x))(hd:o.data=.fields vs)(aQ:a∉W.ι)(hF:W.F a=none)(hlow:B.h₀.objs.size<=a)(hsz:1<vs.size)(hdict:o.dict=some dx)(hdx:W.F dx=some od)(hod:od.IsDictOf (strKind pw B.w) kvs)(skip:Addr->Prop)(h':Heap)(hs:∀b,skip b->s₀.heap.get? b=none/\b∉W.ι/\W.F b=none/\∃ob ts,s.heap.get? b=some ob/\ob.data=.fields ts)(g:q9 ((env::stk).filterMap (·.frame)) s.heap a o vs skip h'):
  eA (frs (env::stk)) W₀ s₀.heap W h'/\ef B (env::stk) W J h'/\gH B W s₀.heap h' (.ref a) x:=by
 have fl:∀b,b∈(env::stk).filterMap (·.frame)->W.F b=none/\b∉W.ι/\∃ob,s.heap.get? b=some ob/\∀vs,ob.data≠.fields vs:=by
  intro b m;show d6 (List.mem_filterMap.mp m) λe me eb=>?_
  obtain⟨_,L,ob,e1,e2,e3,e4,e5⟩:=hI.frames e me;rw[e1] at eb;injection eb with eb;clear m;subst eb
  show⟨e4,e5,ob,e2,e3⟩
 have exact_:∀b ob,s.heap.get? b=some ob->b≠a->¬skip b->b∉(env::stk).filterMap (·.frame)->h'.get? b=some ob:=by
  intro b ob e1 e2 e3 e4;show d6 (g.keep b ob e2 e3 e1) λsl q k=>?_
  show d4 q (d4 (k e4) rfl)
 have frozen:∀b ob,W.F b=some ob->h'.get? b=some ob:=λb ob q=>exact_ b ob (hI.frozen b ob q) (by intro w;clear n0 ho aQ hlow g exact_;subst w;rw[hF] at q;injection q) (λw=>by have:=(hs b w).2.2.1;rw[q] at this;injection this)
  (λw=>by have:=(fl b w).1;rw[q] at this;injection this)
 show⟨⟨eE.F,eE.ι,eE.newι,eE.newF,λb ob q k=>?_⟩,⟨hI.base,frozen,hI.len,hI.nodup,hI.sep,hI.low,B.size_of λb ob q=>frozen b ob (hI.base b ob q),λl y b e1 e2=>?_,λe me=>?_⟩,?_⟩
 ·show d6 (eE.keep b ob q k) λsl q1 q2=>?_
  show d6 (g.keep b _ (by intro w;clear ho aQ hF hlow g exact_;subst w;rw[n0] at q;cases q) (λw=>by have:=(hs b w).1;rw[q] at this;cases this) q1) λsl' q3 q4=>?_
  show⟨sl',q3,λnf=>(q4 nf).trans (q2 nf)⟩
 ·show d6 (hI.objs l y b e1 e2) λob q1 q2=>?_
  have mb:=List.mem_of_getElem? e2;show⟨ob,exact_ b ob q1 (by intro w;clear n0 ho hF hlow g exact_;subst w;show aQ mb) (λw=>(hs b w).2.1 mb) (λw=>(fl b w).2.1 mb),q2⟩
 ·obtain⟨k1,L,ob,e1,e2,e3,e4,e5⟩:=hI.frames e me;show d6 (g.keep L ob (by intro w;clear n0 aQ hF hlow g exact_;subst w;rw[ho] at e2;cases e2;show e3 _ hd) (λw=>by obtain⟨_,_,_,o2,ts,z1,z2⟩:=hs L w;rw[e2] at z1;cases z1;show e3 _ z2) e2) λsl q1 _=>?_
  show⟨k1,L,_,e1,q1,e3,e4,e5⟩
 ·obtain⟨T',oT',ts',q1,q2,q3,q4,q5,q6⟩:=g.exc;show fx (hI.none' q1) λdk hT'F=>?_
  show⟨a,_,_,dx,od,kvs,rfl,n0,q3,hc,rfl,aQ,hF,hlow,.inr ⟨T',oT',ts',by simp[hsz],eA.fresh eE hI T' q1,q2,q4,q5,q6,dk,hT'F⟩,hdict,hdx,hod,hx⟩
theorem eA.more{stk:List Env}(e:eA (frs stk) W h W' h'):eA (frs (env::stk)) W h W' h':=
 ⟨e.F,e.ι,e.newι,e.newF,λb ob q k=>by
  show d6 (e.keep b ob q k) λsl q1 q2=>?_
  show⟨sl,q1,λnf=>q2 λm=>nf ?_⟩;unfold frs;rwa[List.filterMap_cons];cases env.frame with
  |none=>show m
  |some _=>show .tail _ m⟩
theorem eA.less{stk:List Env}(e:eA (frs (env::stk)) W h W' h')(hf:env.frame=some env.locals)(nL:h.get? env.locals=none):eA (frs stk) W h W' h':=
 ⟨e.F,e.ι,e.newι,e.newF,λb ob q k=>by
  show d6 (e.keep b ob q k) λsl q1 q2=>?_
  show⟨sl,q1,λnf=>q2 λm=>?_⟩;unfold frs at m;rw[List.filterMap_cons,hf] at m;cases m with
  |head=>rw[nL] at q;injection q
  |tail _ m=>show nf m⟩
theorem Kj(B:eD):CM B:=by
 intro A stk env n W₀ W J s₀ s e x hA hk hf nL eE hI ex;obtain⟨a,o,vs,dx,od,kvs,rfl,n0,ho,hc,hd,aQ,hF,hlow,htr,hdict,hdx,hod,hx⟩:=ex;obtain hb:∀a,(({objs:=#[]}:Heap)).get? a=none:=by intro a;rfl
 have hfr:(A.deeper env).frames=some (env::stk):=Around.frames_deeper hA.frames;have hl:=vN hb hI;obtain hsz:1<vs.size:=by
  rcases htr with h1|⟨T,_,_,h1,_⟩<;>show(Array.getElem?_eq_some_iff.mp h1).1
 obtain up:eA (frs (env::stk)) W₀ s₀.heap W s.heap:=eE.more;have fin:∀(skip:Addr->Prop) h',(∀b,skip b->s₀.heap.get? b=none/\b∉W.ι/\W.F b=none/\∃ob ts,s.heap.get? b=some ob/\ob.data=.fields ts)->q9 ((env::stk).filterMap (·.frame)) s.heap a o vs skip h'->
   eA (frs stk) W₀ s₀.heap W h'/\ef B stk W J h'/\gH B W s₀.heap h' (.ref a) x/\gc s {s with heap:=h'}:=λskip h' hs g=>
  let⟨q1,q2,q3⟩:=g.fin up hI hx n0 ho hc hd aQ hF hlow hsz hdict hdx hod skip h' hs
  ⟨q1.less hf nL,q2.tail,q3,rfl,rfl⟩
 rcases htr with h1|⟨T,oT,ts,h1,nT,hTe,hT,hdT,h3,aW,hTF⟩
 ·show BY hfr hl hf ho hd h1 λh' g=>fin _ h' (λ_ f=>f.elim) g
 ·show Cf hfr hl hf ho hd h1 hTe hT hdT h3 λh' g=>fin _ h' (λb q=>by clear h1 hTe h3 g;subst q;show⟨nT,aW,hTF,oT,ts,hT,hdT⟩) g
theorem Gd(C:Addr)(rest:List Value)(kw:List (Str×Value)):(Code.builtin "type.__call__" ⟨.ref C::rest,kw⟩).frames=0:=by
 ac_rfl
theorem E1(C:Addr)(rest:List Value)(kw:List (Str×Value)):(Code.builtin "type.__call__" ⟨.ref C::rest,kw⟩).weight<=2:=by
 have:(Code.builtin "type.__call__" ⟨.ref C::rest,kw⟩).weight=1:=by ac_rfl
 show Nat.succ_pos _
theorem K7(C:Addr)(rest:List Value)(kw:List (Str×Value)):(Code.builtin "type.__call__" ⟨.ref C::rest,kw⟩).envs=[]:=by
 ac_rfl
theorem hH.make{stk:List Env}{C:Addr}{rest:List Value}{kw:List (Str×Value)}(h:hH A stk (n+1)):hH (A.under (.builtin "type.__call__" ⟨.ref C::rest,kw⟩)) stk n where
 handled:=h.handled
 frames:=by
  show pushEnvs (Code.builtin "type.__call__" ⟨.ref C::rest,kw⟩).envs A.frames=_;rwa[K7 ..];show h.frames
 depth:=by
  obtain this:=h.depth;obtain this:=E1 C rest kw;show A.depth+(Code.builtin "type.__call__" ⟨.ref C::rest,kw⟩).weight+3*n+20<_
  lia
 units:=by
  obtain this:=h.units;show A.units+(1+3*(Code.builtin "type.__call__" ⟨.ref C::rest,kw⟩).frames)+40*n+100<_
  rwa[Gd ..];lia
noncomputable def qK:List Nat:=[95,95,105,110,105,116,95,95]
theorem Hm:sv qK=("__init__" :Str):=by decide+kernel
theorem Ay{stk:List Env}(hI:ef B stk W J h)(C:Addr):∃W',eA (frs stk) W h W' ((h.push fk).push (instObj C h.objs.size))/\
  ef B stk W' (J++[.sd []]) ((h.push fk).push (instObj C h.objs.size))/\W'.Rep B (.inst C J.length) (.ref (h.objs.size+1)):=by
 have i1:=hI.trk (o:=fk) (y:=.sd []) rfl ⟨[],kh _,.nil⟩;obtain e1:=eA.trk (S:=frs stk) hI fk;obtain i2:=i1.frz (instObj C h.objs.size);obtain e2:=eA.frz (S:=frs stk) i1 (instObj C h.objs.size);show⟨_,e1.trans e2,i2,?_⟩;obtain hs:(h.push fk).objs.size=h.objs.size+1:=Heap.size_push ..;rwa[hs.symm];show Rep.inst (dx:=h.objs.size) (sl:=#[]) ?_ ?_
 ·show(if _=_ then _ else _)=_;show d4 (if_pos rfl) rfl
 ·show(W.ι++[h.objs.size])[J.length]?=_;rwa[hI.len.symm,List.getElem?_append_right (Nat.le_refl _)];simp
theorem y3{C:Addr}{f:Addr}{args:List V}(hi:(C,qK,f)∈mR)(hC:∃q,(C,q)∈jP)(hf:mU B n f (.inst C J.length::args) (J++[.sd []]) (λd aa=>d=.none/\Q (.inst C J.length) aa) X):mU B (n+1) C args J Q X:=by
 intro A stk W s vs PV PE hA hI rv hQ hX;show fx (B.meth _ _ _ hi) λf1 f2=>?_
 rw[Hm] at f1;show fv hC λq hq=>?_
 have P:=B.cls _ _ hq;obtain⟨hh,g,d,t,os⟩:=s;show kQ (Ay hI C) λW1 e0 i0 r0=>?_
 show make_core (init:=.ref f) (makes_of hI.inK P.makes) (looks_findIn hI.inK f1) (λself=>bind_fn hI.inK self f2) (.inl rfl) ?_;show codeAny_mono (hf (A.under (.builtin "type.__call__" ⟨.ref C::vs,[]⟩)) stk W1 ⟨(hh.push fk).push (instObj C hh.objs.size),g,d,t,os⟩ (.ref (hh.objs.size+1)::vs) (λv s'=>v=.none/\PV (.ref (hh.objs.size+1)) s') PE hA.make i0 %[r0|(e0.repL rv)] ?_ ?_) ?_
 ·rintro v s' W' aa d' e i r rr ⟨rfl,q⟩;cases r;show⟨rfl,hQ _ s' W' aa _ (e0.trans e) i (e.rep r0) ⟨rr.gens,rr.os⟩ q⟩
 ·intro e s' W' aa x ee i ex rr q;show hX e s' W' aa x (e0.trans ee) i (ex.back (eA.fresh e0 i0)) ⟨rr.gens,rr.os⟩ q
 ·intro r s' z;rcases r with e|(v|_|_|_)<;>first|show z|show z.elim
theorem Eb{C:Addr}(hi:findIn B.K (.ref C) "__init__" =some (some (.builtin "object.__init__")))(hC:∃q,(C,q)∈jP)(hf:Q (.inst C J.length) (J++[.sd []])):mU B (n+1) C [] J Q X:=by
 intro A stk W s vs PV PE hA hI rv hQ hX;cases rv;show fv hC λq hq=>?_
 obtain P:=B.cls _ _ hq;clear hX;obtain⟨hh,g,d,t,os⟩:=s;show kQ (Ay hI C) λW1 e0 i0 r0=>?_
 have Y:=makes_of (M:=B.M) hI.inK P.makes;show make_core Y (looks_findIn hI.inK hi) (λself=>Looks.of_pure (oi_bind self)) (.inr ⟨rfl,rfl⟩) ?_;obtain hx:((hh.push fk).push (instObj C hh.objs.size)).get? (hh.objs.size+1)=some (instObj C hh.objs.size):=by
  obtain hs:(hh.push fk).objs.size=hh.objs.size+1:=Heap.size_push ..;rwa[hs.symm];show Heap.get?_push_size _ rfl
 obtain t1:Looks B.M ((hh.push fk).push (instObj C hh.objs.size)) (typeOf (.ref (hh.objs.size+1))) (.ref C):=(Looks.ld hx).andThen .now;obtain t2:Looks B.M ((hh.push fk).push (instObj C hh.objs.size)) (isInstance (.ref (hh.objs.size+1)) (.type "object")) true:=t1.andThen (Y.top.keeps λb o e=>Heap.get?_push_of_some _ (Heap.get?_push_of_some _ e));show codeAny_call_builtin oi_plain entry_oi (@check_slot B.M _ _ _ "object.__init__" "object" "__init__" (.ref (hh.objs.size+1)) [] [] _ oi_kind oi_split t2 (oi_args (.ref (hh.objs.size+1))) ?_);rwa[oi_run ..];show wpAny_pure (And.intro rfl (hQ _ _ W1 _ _ e0 i0 r0 ⟨rfl,rfl⟩ hf))
end
section
open PySem PySem.W
noncomputable abbrev fO:List Value:=[.type "Exception",.type "BaseException",.type "object"]
inductive N1(B:eD)(C:Addr):Prop
 |mk (nm q:Str) (N:Addr) (bs:List Value) (pre:List Addr) (sn:List Str) (sub:List Value) (ab:Bool) (col:Option Bool) (dd:Option Addr) (k0 k1 k2 k3 k5:Option Value) (h:B.K.lookup C=some (excClassObj nm q C N bs (pre.map Value.ref++fO) true sn sub ab col dd k0 k1 k2 k3 k5 "Exception.__new__"))
structure jd(B:eD)(C:Addr)(f:Addr):Prop where
 at_:N1 B C
 sa:findIn B.K (.ref C) "__setattr__" =some (some (.builtin "object.__setattr__"))
 init:findIn B.K (.ref C) "__init__" =some (some (.ref f))
 fn:typeIn B.K (.ref f)=some (.type "function")
theorem lL{pre:List Addr}{X:String}(h:fO.contains (.type X)=b):(pre.map Value.ref++fO).contains (.type X)=b:=by
 induction pre with
 |nil=>show h
 |cons a r ih=>rwa[List.map_cons,List.cons_append,List.contains_cons,ih];rfl
section
variable{w:World}{g:Array GenState}{d:Drawn}{t:Nat}{os:OsState}
variable{nm:Str}{C:Addr}{pre:List Addr}{sub:List Value}{k0:Option Value}
theorem K9{rest:List Value}(hC:h.get? C=some (excClassObj nm q C N bs (pre.map Value.ref++fO) true sn sub ab col dd k0 k1 k2 k3 k5 "Exception.__new__"))(hq:R (.ok (.ret (.ref (h.objs.size+1)))) ⟨(h.push {cls:=.type "tuple",data:=.seq rest.toArray}).push
   {cls:=.ref C,data:=.fields #[.ref h.objs.size,.none,.none,.none,.bool false,.none]},g,d,t,os⟩) (hrest:rest.length<=sizeLine:=by size_fits):
  codeAny (model prog w) A (.builtin "Exception.__new__" ⟨.ref C::rest,[]⟩) R ⟨h,g,d,t,os⟩:=by
 have Fn:=F.excBase_Exception;obtain hends:=Fn.ends;obtain hcB:(Value.ref C::(pre.map Value.ref++fO)).contains (.type "Exception")=true:=by show d4 List.contains_cons (d4 (lL (b:=true) (by decide+kernel)) (d4 (Bool.or_true ..) rfl))
 obtain hcA:(Value.ref C::(pre.map Value.ref++fO)).contains (.type "AttributeError")=false:=by rwa[List.contains_cons,lL (b:=false) (by decide+kernel)];rfl
 obtain hcN:(Value.ref C::(pre.map Value.ref++fO)).contains (.type "NameError")=false:=by rwa[List.contains_cons,lL (b:=false) (by decide+kernel)];rfl
 show codeAny_builtinAt Fn.entry ?_;unfold Builtin.«BaseException.__new__»;show PySem.wpAt_bind ?_;show PySem.wpAt _ _ _ (stack>>=_) _ _ _
 show PySem.wpAt_bind (PySem.wpAt_stack λp below=>PySem.wpAt_of_wpAny ?_)
 wp_walk
 show PySem.wpAt_of_wpAny ?_;rwa[Fn.owner]
 repeat (first|with_reducible show wpAny_madeHere_exc Fn.canon hC ?_|with_reducible show wpAny_loadPart_at hC ?_|(with_reducible show wpAny_isSubtype_exc hC ?_;first|rw[hcB]|rw[hcA]|rw[hcN])|wp_step)
 show R _ _;rwa[Heap.size_push ..];show hq
theorem ze{K:Frag}{rest:List Value}{fI:Addr}{Q:Fin->Shared->Prop}(X:K.In h)(hi:findIn K (.ref C) "__init__" =some (some (.ref fI)))(hf:typeIn K (.ref fI)=some (.type "function"))(hC:h.get? C=some (excClassObj nm q C N bs (pre.map Value.ref++fO) true sn sub ab col dd k0 k1 k2 k3 k5 "Exception.__new__"))(hq:∀h' e,Heap.MadeExcOf h h' e (.ref C) rest->h.objs.size<=e->
   wpAny (model prog w) A (call (.ref fI) (.ref e::rest)) (λr s'=>r=.none/\Q (.done (.ret (.ref e))) s') E ⟨h',g,d,t,os⟩) (hrest:rest.length<=sizeLine:=by size_fits):
  wpAny (model prog w) A (Builtin.«type.__call__» ⟨.ref C::rest,[]⟩) Q E ⟨h,g,d,t,os⟩:=by
 have Fn:=F.excBase_Exception
 repeat (first|with_reducible show wpAny_loadPart_at hC ?_|with_reducible show wpAny_madeBy_exc hC ?_|wp_step)
 show codeAny_call_builtin_code (Code.quiet_builtin _ Fn.quiet) (wpAny_check_new_subU Fn (lL (b:=true) (by decide+kernel)) .base hC ?_);show K9 hC ?_ hrest;show wpAny _ _ _ _ _ _
 have k:∀b o,h.get? b=some o->((h.push {cls:=.type "tuple",data:=.seq rest.toArray}).push {cls:=.ref C,data:=.fields #[.ref h.objs.size,.none,.none,.none,.bool false,.none]}).get? b=some o:=
  λb o e=>Heap.get?_push_of_some _ (Heap.get?_push_of_some _ e)
 have dm:=k _ _ hC;have cM:=X.keeps k
 have hget:((h.push {cls:=.type "tuple",data:=.seq rest.toArray}).push
   {cls:=.ref C,data:=.fields #[.ref h.objs.size,.none,.none,.none,.bool false,.none]}).get? (h.objs.size+1)=some
   {cls:=.ref C,data:=.fields #[.ref h.objs.size,.none,.none,.none,.bool false,.none]}:=by heap_get
 have hcC:(Value.ref C::(pre.map Value.ref++fO)).contains (.ref C)=true:=by simp
 unfold isInstance
 repeat (first|with_reducible show wpAny_loadPart_at hget ?_|(with_reducible show wpAny_isSubtype_exc dm ?_;rwa[hcC])|wp_step)
 show wpAny _ _ (typeLookup (.ref C) _) _ _ _;show(looks_findIn cM hi).here ?_;show wpAny_holding (wpAny_bind ((bind_fn cM _ hf).here ?_));show wpAny_bind (wpAny_mono (hq _ (h.objs.size+1) ⟨λb o hb=>Heap.get?_push_of_some _ (Heap.get?_push_of_some _ hb),Heap.get?_none_of_le (Nat.le_succ _),h.objs.size,hget,Heap.get?_none_of_le (Nat.le_refl _),?_⟩ ?_) (λr s' hr=>?_) λ_ _ x=>x)
 ·show Heap.get?_push_of_some _ (Heap.get?_push_at rfl rfl)
 ·show Nat.le_succ _
 ·obtain⟨rfl,hQ⟩:=hr
  wp_walk
  show hQ
theorem IE{K:Frag}{rest:List Value}{fI:Addr}{Q:Value->Shared->Prop}(X:K.In h)(hi:findIn K (.ref C) "__init__" =some (some (.ref fI)))(hf:typeIn K (.ref fI)=some (.type "function"))(hC:h.get? C=some (excClassObj nm q C N bs (pre.map Value.ref++fO) true sn sub ab col dd k0 k1 k2 k3 k5 "Exception.__new__"))(hq:∀h' e,Heap.MadeExcOf h h' e (.ref C) rest->h.objs.size<=e->
   wpAny (model prog w) (A.under (.builtin "type.__call__" ⟨.ref C::rest,[]⟩)) (call (.ref fI) (.ref e::rest)) (λr s'=>r=.none/\Q (.ref e) s') E ⟨h',g,d,t,os⟩) (hrest:rest.length<=sizeLine:=by size_fits):
  wpAny (model prog w) A (call (.ref C) rest) Q E ⟨h,g,d,t,os⟩:=by
 obtain f1:=tc_lookup;obtain f2:=tc_bind (.ref C);obtain hT:(⟨h,g,d,t,os⟩:Shared).TypeIs (.ref C) "type" :=⟨_,hC,rfl⟩;show wpAny_call (codeAny_of_tree ?_);show wpAny _ _ (callAny (.ref C) _) _ _ _
 repeat (any_goals (first|assumption|with_reducible show wpAny_loadPart_at hC ?_|wp_step))
 show⟨rfl,?_⟩;show codeAny_call_builtin_at (Code.quiet_builtin _ (by decide+kernel)) entry_typeCall (wpAny_check_type_call_sub hC (ze (hrest:=hrest) X hi hf hC λh' e hm hl=>?_));show hq h' e hm hl
end
end
section
open PySem PySem.W PyProof.Rows
open Builtin Builtin.ObjectAttr
theorem wi(self:Value):∀pre:List Addr,refuseLoop self "__setattr__" (pre.map Value.ref++fO)=pure ()
 |[]=>F.store_Exception.passes self
 |a::r=>by rwa[List.map_cons,List.cons_append,refuseLoop_ref ..];show wi self r
section
variable{w:World}{K:Frag}
variable{nm:Str}{C x:Addr}{pre:List Addr}{sub:List Value}{k0:Option Value}
theorem CK{ox:Obj}{od:Option Obj}{tk:Tok}{v:Value}(X:K.In s.heap)(I:InstAt s.heap x ox C od)(hC:K.lookup C=some (excClassObj nm q C N bs (pre.map Value.ref++fO) true sn sub ab col dd k0 k1 k2 k3 k5 "Exception.__new__"))(ht:takerIn K C name=some none)(h:∀b,wpAny (model prog w) A.in1 (storeInOwnDict (.ref x) (.ref C) (.str name tk) name v b)
   (λfin s'=>match fin with|.done f=>R (.ok f) s'|.again c'=>c'.quiet=true/\codeAny (model prog w) A c' R s') (λe s'=>R (.error e) s') s):
  codeAny (model prog w) A (.call (.builtin "object.__setattr__") ⟨[.ref x,.str name tk,v],[]⟩) R s:=by
 have SF:=F.store_object;have hc:clsIn K C=some {name:=nm,bases:=bs,mro:=.ref C::(pre.map Value.ref++fO),ns:=N,qualname:=q,hasDict:=true,slotNames:=sn,subclasses:=sub,abstract:=ab,collection:=col,hasDel:=false}:=by unfold clsIn;show d4 hC rfl
 obtain hobj:(Value.ref C::(pre.map Value.ref++fO)).contains (.type "object")=true:=by show d4 List.contains_cons (d4 (lL (b:=true) (by decide+kernel)) (d4 (Bool.or_true ..) rfl))
 obtain sub':Looks (model prog w) s.heap (isInstance (.ref x) (.type "object")) true:=I.type.andThen (looks_mroIn X (by unfold mroIn;rwa[hc,Option.bind_some ..,if_neg (by simp)];show congrArg some hobj));show codeAny_call_builtin SF.slot.plain SF.entry (@check_slot (model prog w) _ _ s "object.__setattr__" "object" "__setattr__" (.ref x) [.str name tk,v] [] _ SF.kind SF.split sub' (SF.args (.ref x) (.str name tk) v) ?_);show d6 (Option.bind_eq_some_iff.mp ht) λattr ha hr=>?_
 obtain hm:Looks (model prog w) s.heap (mroOf (.ref C)) (.ref C::(pre.map Value.ref++fO)):=(looks_clsIn X hc).andThen .now;obtain L3:Looks (model prog w) s.heap (storeTaker? attr) none:=by
  cases attr with
  |none=>show .now
  |some a=>
   show d6 (Option.map_eq_some_iff.mp hr) λb hb e=>?_
   show(looks_takesIn X hb).andThen ?_;clear hb;cases b
   ·show .now
   ·injection e
 rwa[osa_eq ..,refuse_eq ..];show wpAny_bind (wpAny_bind (I.type.here (wpAny_bind (hm.here ?_))));rwa[refuseLoop_ref ..,wi ..];show wpAny_pure (wpAny_bind (I.type.here (wpAny_bind ((looks_findIn X ha).here (wpAny_bind (L3.here ?_))))));show h _
theorem yJ{Q:PySem.Fin->Shared->Prop}{od:Obj}{tk:Tok}{v:Value}{vs:List (Str×Value)}(h2:s.heap.get? dx=some od)(h3:od.IsDictOf (strKind pw B.w) vs)(hz:vs.length<=10000)(h:∀h' o',Heap.SameBut dx s.heap h'->h'.get? dx=some o'->o'.IsDictOf (strKind pw B.w) (stored vs name v)->Q (.done (.ret .none)) {s with heap:=h',toks:=s.toks+1}):
  wpAny (model pw B.w) A (storeInDict dx (.str name tk) name v) Q E s:=by
 have hD:=Aa (B:=B) (name:=name) (v:=v) (t:=s.toks) h3;show w5 (id h3) λes ep hx1 hx2 hx3 hx4 hx5=>?_
 show w5 (id hD) λes' ep' hy1 hy2 hy3 hy4 hy5=>?_
 obtain hfree:(Obj.putName name (PyData.keyHash B.w.params name) (.str name s.toks) v od).isFreed=false:=Obj.isFreed_of_dict hy2;have hg:=Heap.get?_update_self (Obj.putName name (PyData.keyHash B.w.params name) (.str name s.toks) v) h2 hfree;obtain hsz:es'.size<=sizeLine:=by
  obtain this:=hy4.length;obtain this:=stored_length_le vs name v;obtain e0:es'.size=es'.toList.length:=by simp
  rwa[gm];unfold eh;lia
 obtain hno:(es.any (·.refKey))=false:=by
  rwa[propext Bool.eq_false_iff];intro q;obtain⟨i,hi,hr⟩:=Array.any_eq_true.mp q;show d6 (hx3 es[i] (Array.getElem_mem hi)) λk hk1 _=>?_
  show fv (Value.isStrOf_shape hk1) λt ht=>?_
  unfold DictEntry.refKey at hr;rw[ht] at hr;injection hr
 show wpAny_bind (wpAny_pure (wpAny_bind ?_));unfold nsSet;show wpAny_bind (wpAny_bind (wpAny_askSetting (wpAny_pure (wpAny_bind (wpAny_mkText (wpAny_bind (wpAny_loadPart h2 ?_)))))));rwa[hx2];dsimp only;rwa[aRefKeyMayBeTheName_at ..,hno,Bool.and_false ..];show wpAny_updatePart h2 ?_;show wpAny_bind (wpAny_lookBehind hg (by rwa[hy2];show pastItsLine_dict (Nat.le_succ_of_le hsz)) ?_);show wpAny_pure (h _ _ (Heap.SameBut.update ..) hg hD)
theorem H5{vs:Array Value}{v:Value}{Q:Unit->Shared->Prop}{f:Addr}(P:jd B C f)(X:B.K.In s.heap)(ht:takerIn B.K C name=some none)(hx:s.heap.get? x=some {cls:=.ref C,data:=.fields vs})(h:∀h' od m,Heap.SameBut x (s.heap.push fk) ((s.heap.push fk).update x λo=>{o with dict:=some s.heap.objs.size})->Heap.SameBut s.heap.objs.size ((s.heap.push fk).update x λo=>{o with dict:=some s.heap.objs.size}) h'->
   h'.get? x=some {cls:=.ref C,dict:=some s.heap.objs.size,data:=.fields vs}->h'.get? s.heap.objs.size=some od->od.IsDictOf (strKind pw B.w) [(name,v)]->Q () {s with heap:=h',toks:=m}):
  wpAny B.M A (setAttr (.ref x) name v) Q E s:=by
 obtain⟨nm,q,N,bs,pre,sn,sub,ab,col,dd,k0,k1,k2,k3,k5,hC⟩:=P.at_;obtain⟨hh,g,d,t,os⟩:=s;have X:B.K.In hh:=X;have I:InstAt hh x {cls:=.ref C,data:=.fields vs} C none:=⟨hx,rfl,rfl,trivial⟩;obtain hc:clsIn B.K C=some {name:=nm,bases:=bs,mro:=.ref C::(pre.map Value.ref++fO),ns:=N,qualname:=q,hasDict:=true,slotNames:=sn,subclasses:=sub,abstract:=ab,collection:=col,hasDel:=false}:=by unfold clsIn;show d4 hC rfl
 show set_plain (s:=⟨hh,g,d,t,os⟩) X I P.sa ?_;show CK (s:=⟨hh,g,d,t+1,os⟩) X I hC ht λb=>?_
 have hxs:x≠hh.objs.size:=Nat.ne_of_lt (Heap.lt_size hx);have cC:(hh.push fk).get? x=some {cls:=.ref C,data:=.fields vs}:=Heap.get?_push_of_some _ hx;obtain dn:=Heap.get?_update_self (λo:Obj=>{o with dict:=some hh.objs.size}) cC rfl;have ae:Heap.SameBut x (hh.push fk) ((hh.push fk).update x λo=>{o with dict:=some hh.objs.size}):=Heap.SameBut.update ..;obtain bW:((hh.push fk).update x λo=>{o with dict:=some hh.objs.size}).get? hh.objs.size=some fk:=(ae.2 _ (Ne.symm hxs)).trans (Heap.get?_push_size _ rfl);unfold storeInOwnDict;show wpAny_bind (wpAny_pure ?_);show wpAny_bind ?_;show wpAny _ _ (instanceDict x true) _ _ _
 unfold instanceDict;show wpAny_bind (wpAny_loadPart hx (wpAny_bind ((looks_clsIn X hc).here ?_)));show wpAny _ _ (alloc fk>>=λd=>update x (λo=>{o with dict:=some d})>>=λ_=>pure (some d)) _ _ _
 show wpAny_bind (wpAny_alloc (wpAny_bind (wpAny_update cC ?_)));show wpAny_pure ?_;show yJ (s:=⟨(hh.push fk).update x λo=>{o with dict:=some hh.objs.size},g,d,t+1,os⟩) bW (kh (B:=B) _) (dt rfl) λh' o' hs e1 e2=>?_
 show h h' o' _ ae hs ((hs.2 x hxs).trans dn) e1 e2
end
section
variable{C x:Addr}
theorem Hw{vs:Array Value}{v:Value}{Q:Unit->Shared->Prop}{f:Addr}{od:Obj}{kvs:List (Str×Value)}(P:jd B C f)(X:B.K.In s.heap)(ht:takerIn B.K C name=some none)(hx:s.heap.get? x=some {cls:=.ref C,dict:=some dx,data:=.fields vs})(hd:s.heap.get? dx=some od)(hk:od.IsDictOf (strKind pw B.w) kvs)(hz:kvs.length<=10000)(h:∀h' od' m,Heap.SameBut dx s.heap h'->h'.get? dx=some od'->od'.IsDictOf (strKind pw B.w) (stored kvs name v)->Q () {s with heap:=h',toks:=m}):
  wpAny B.M A (setAttr (.ref x) name v) Q E s:=by
 obtain⟨nm,q,N,bs,pre,sn,sub,ab,col,dd,k0,k1,k2,k3,k5,hC⟩:=P.at_;obtain⟨hh,g,d,t,os⟩:=s;have X:B.K.In hh:=X;have I:InstAt hh x {cls:=.ref C,dict:=some dx,data:=.fields vs} C (some od):=⟨hx,rfl,rfl,hd⟩;obtain hc:clsIn B.K C=some {name:=nm,bases:=bs,mro:=.ref C::(pre.map Value.ref++fO),ns:=N,qualname:=q,hasDict:=true,slotNames:=sn,subclasses:=sub,abstract:=ab,collection:=col,hasDel:=false}:=by unfold clsIn;show d4 hC rfl
 show set_plain (s:=⟨hh,g,d,t,os⟩) X I P.sa ?_;show CK (s:=⟨hh,g,d,t+1,os⟩) X I hC ht λb=>?_
 unfold storeInOwnDict;show wpAny_bind (wpAny_pure ?_);show wpAny_bind ?_;show wpAny _ _ (instanceDict x true) _ _ _
 unfold instanceDict;show wpAny_bind (wpAny_loadPart hx (wpAny_bind ((looks_clsIn X hc).here ?_)));show wpAny_pure (a:=some dx) ?_;show yJ (s:=⟨hh,g,d,t+1,os⟩) hd hk hz λh' o' hs e1 e2=>h h' o' _ hs e1 e2
end
end
section
open PySem PySem.W PyProof.Rows
theorem fX.same{fr:Fx}{b:Addr}(x:fX B fr W U h)(s:Heap.SameBut b h h')(n1:b≠fr.env.locals)(n2:∀y c,fr.env.cells.lookup y=some c->c≠b):fX B fr W U h':=by
 show jb x λm cm F=>?_
 show⟨m,cm,?_,F.outι,F.outF,λnm c q=>?_,F.cinj,F.vars⟩
 ·show uI F.ns λo es ep e r=>?_
  show⟨o,es,ep,(s.2 _ (Ne.symm n1)).trans e,r⟩
 ·show fx (F.cell nm c q) ?_;rintro⟨o,e1,e2⟩ r;show⟨⟨o,(s.2 _ (n2 nm c q)).trans e1,e2⟩,r⟩
structure qj(C:gX)(W:Wd)(a:Addr):Prop where
 new:C.s₀.heap.get? a=none
 outι:a∉W.ι
 outF:W.F a=none
 loc:C.fr.env.locals≠a
 cell:∀y c,C.fr.env.cells.lookup y=some c->c≠a
 frm:a∉frs C.stk
 low:C.B.h₀.objs.size<=a
section
variable{x:Addr}
theorem qj.get(w:qj C W a)(e:h.get? a=some o)(b:XB C W h W' h'):h'.get? a=some o:=b.keep a o e w.outι w.loc w.cell w.frm
theorem qj.step(w:qj C W a)(e:h.get? a=some o)(b:XB C W h W' h'):qj C W' a:=
 ⟨w.new,b.outι a o e w.outι,b.outF a o e w.outι w.outF,w.loc,w.cell,w.frm,w.low⟩
theorem qj.fresh(_:C.Ok)(t:At C W J U s):qj C W s.heap.objs.size where
 new:=eA.fresh t.e t.inv _ (ef.none_fresh _)
 outι:=t.inv.fresh.2
 outF:=t.inv.fresh.1
 loc:=by
  show jb t.fr λm cm F=>?_
  show uI F.ns λo es ep e _=>?_
  show Nat.ne_of_lt (Heap.lt_size e)
 cell y c q:=by
  show jb t.fr λm cm F=>?_
  show fx (F.cell y c q) ?_;rintro⟨o,e,_⟩ _;show Nat.ne_of_lt (Heap.lt_size e)
 frm:=t.inv.notFrs (ef.none_fresh _)
 low:=t.inv.size
theorem At.own(t:At C W J U s)(w:qj C W a)(sb:Heap.SameBut a s.heap h')(k:∀o,s.heap.get? a=some o->(∀vs,o.data≠.fields vs)->∃o',h'.get? a=some o'/\∀vs,o'.data≠.fields vs):At C W J U {s with heap:=h',toks:=n} where
 e:=t.e.other w.new sb
 inv:=t.inv.other sb w.outF w.outι k
 rest:=⟨t.rest.gens,t.rest.os⟩
 fr:=t.fr.same sb (Ne.symm w.loc) w.cell
theorem At.junk(_:C.Ok)(t:At C W J U s)(o:Obj):At C W J U {s with heap:=s.heap.push o} where
 e:=t.e.trans (eA.junk _ _ _)
 inv:=t.inv.junk o
 rest:=⟨t.rest.gens,t.rest.os⟩
 fr:=t.fr.ext (eA.junk (S:=[]) _ _ o)
noncomputable abbrev Ez(T:Addr):Array Value:=#[.ref T,.none,.none,.none,.bool false,.none]
def uF(C:gX)(W:Wd)(Cc x T:Addr)(h:Heap)(kvs:List (Str×Value)):Prop:=
 qj C W x/\((kvs=[]/\h.get? x=some {cls:=.ref Cc,data:=.fields (Ez T)})\/
  ∃dx od,h.get? x=some {cls:=.ref Cc,dict:=some dx,data:=.fields (Ez T)}/\h.get? dx=some od/\od.IsDictOf (strKind pw C.B.w) kvs/\dx≠x/\qj C W dx)
theorem uF.step{kvs:List (Str×Value)}(e:uF C W Cc x T h kvs)(b:XB C W h W' h'):uF C W' Cc x T h' kvs:=by
 (show fx e ?_;rintro w (⟨k,q⟩|⟨dx,od,q1,q2,q3,q4,q5⟩))
 ·show⟨w.step q b,.inl ⟨k,w.get q b⟩⟩
 ·show⟨w.step q1 b,.inr ⟨dx,od,w.get q1 b,q5.get q2 b,q3,q4,q5.step q2 b⟩⟩
theorem KW{f:Addr}{kvs:List (Str×Value)}{v:Value}{Q:Unit->Shared->Prop}(c:C.Ok)(t:At C W J U s)(P:jd C.B Cc f)(ht:takerIn C.B.K Cc name=some none)(e:uF C W Cc x T s.heap kvs)(hz:kvs.length<=100)(h:∀h' m,At C W J U {s with heap:=h',toks:=m}->uF C W Cc x T h' (stored kvs name v)->Q () {s with heap:=h',toks:=m}):
  wpAny C.B.M C.A (setAttr (.ref x) name v) Q E s:=by
 (show fx e ?_;rintro w (⟨rfl,q⟩|⟨dx,od,q1,q2,q3,q4,q5⟩))
 ·show H5 P t.inv.inK ht q λh' od m s1 s2 g1 g2 g3=>?_
  have wd:=qj.fresh c t;have t1:=t.junk c fk
  obtain t2:=t1.own (n:=s.toks) w s1 (by
   intro o' g k;rw[show o'=_ from(Option.some.inj ((Heap.get?_push_of_some _ q).symm.trans g)).symm] at k
   show absurd rfl (k _))
  obtain t3:=t2.own (n:=m) wd s2 (by
   intro o' _ _;show jE g3 λes ep _ e2 _=>?_
   show⟨od,g2,by intro vs z;rw[e2] at z;injection z⟩)
  show h h' m t3 ⟨w,.inr ⟨_,od,g1,g2,?_,Nat.ne_of_gt (Heap.lt_size q),wd⟩⟩;show g3
 ·show Hw P t.inv.inK ht q1 q2 q3 (fY ‹_› rfl) λh' od' m s1 g1 g2=>?_
  obtain t1:=t.own (n:=m) q5 s1 (by
   intro o' _ _;show jE g2 λes ep _ e2 _=>?_
   show⟨od',g1,by intro vs z;rw[e2] at z;injection z⟩)
  show h h' m t1 ⟨w,.inr ⟨dx,od',(s1.2 x (Ne.symm q4)).trans q1,g1,g2,q4,q5⟩⟩
end
theorem nE{M:Model}{keep:List Value}{Q:β->Shared->Prop}:∀(l:List Value) {k:Unit->Sem β},wpAny M A (k ()) Q E s->wpAny M A (PySem.release.go keep l>>=k) Q E s:=by
 intro l
 induction l with
 |nil=>intro k h;show h
 |cons a r ih=>
  intro k h;cases r with
  |nil=>show h
  |cons b r=>
   show wpAny M A ((holding ((b::r)++keep) point>>=λ_=>PySem.release.go keep (b::r))>>=k) Q E s;rwa[bind_assoc ..];show wpAny_bind (wpAny_holding (wpAny_point (ih h)))
section
variable{x:Addr}
theorem xv{f:Addr}{kvs:List (Str×Value)}{m:List Nat}{e:Ex}{st:Stmt}(hc:DX C.ns C.sc (.asgA (.lv 0) m e) st=true)(c:C.Ok)(t:At C W J U s)(bR:U[0]?=some (some (.stat x)))(P:jd C.B Cc f)(ht:takerIn C.B.K Cc (sv m)=some none)(eo:uF C W Cc x T s.heap kvs)(hz:kvs.length<=100)(q:eg C.B C.n (λ_ _=>False) e false U J Qe):
  wpAny C.B.M C.A (exec st C.fr.env) (λfl s'=>fl=.next/\∃W' aa v d,At C W' aa U s'/\W'.Rep C.B d v/\Qe d aa/\uF C W' Cc x T s'.heap (stored kvs (sv m) v)) (λ_ _=>False) s:=by
 apply oo hc;intro _ v pos g1;apply qk g1;intro xe _ pp g2;show iS (b4 g2) λh1 h2 h3 h4=>?_
 clear g2;obtain rfl:=eq_of_beq h2;obtain hv:=j4 (env:=C.fr.env) (t:=some (.Attribute xe (sv m) pp)) (l:=pos.line) h4;rwa[arm_exec_Assign ..];show wpAny_bind (wpAny_standAt ?_);show wpAny _ _ (swapsWith v (some (.Attribute xe (sv m) pp)) pos.line C.fr.env>>=_) _ _ _
 rwa[hv];show wpAny_bind (wpAny_pure ?_);simp only[Bool.false_eq_true,if_false];rwa[(show swappedStores [.Attribute xe (sv m) pp] v C.fr.env=pure none from rfl)];rwa[(show(assignEach [.Attribute xe (sv m) pp] C.fr.env).map (·.2)=[assign (.Attribute xe (sv m) pp) C.fr.env] from rfl)];show wpAny _ _ (eval v C.fr.env>>=λu=>assign (.Attribute xe (sv m) pp) C.fr.env u>>=λ_=>pure Flow.next) _ _ _
 show wpAny_bind (wpAny_mono (eF.of c t (jA h3 c t q)) ?_ ?_)
 ·rintro bT ae ⟨ao,ah,cA,aU,xb,cG,d,rd,qd⟩;subst cG;obtain dp:=eo.step xb;show wpAny _ _ ((holding [bT] (eval xe C.fr.env)>>=λov=>standAt _>>=λ_=>holding [bT,ov] (setAttr ov (sv m) bT)>>=λ_=>release [bT,ov] [])>>=λ_=>pure Flow.next) _ _ _
  rwa[bind_assoc ..];have hx:=eF.of c aU (jA (x:=.lv 0) (X:=λ_ _=>False) (Qe:=λd' af=>d'=.stat x/\af=ah) h1 c aU<|by show CN _ _;rwa[bR];show⟨rfl,rfl⟩);show wpAny_bind (wpAny_holding (wpAny_mono hx ?_ ?_))
  ·rintro ov aq ⟨ay,au,bN,aH,bC,cH,br,dq,bW,cI⟩;clear aU t bR q hx;subst cH bW cI;cases dq;obtain bX:=dp.step bC;rwa[bind_assoc ..];show wpAny_bind (wpAny_standAt ?_);rwa[bind_assoc ..];show wpAny_bind (wpAny_holding ?_);show KW c aH P ht bX hz λh' m' dN du=>?_
   show nE _ (wpAny_pure ⟨rfl,ay,au,bT,d,dN,?_,qd,du⟩)
   show Rep.mono bC.F (λl b e=>by
    show fv bC.ι λtt ht'=>?_
    rwa[ht'.symm,List.getElem?_append_left (List.getElem?_eq_some_iff.mp e).1];show e) rd
  ·rintro e s' ⟨_,_,_,_,_,_,_,f⟩;show f.elim
 ·rintro e s' ⟨_,_,_,_,_,_,_,f⟩;show f.elim
end
theorem Ge(kvs:List (Str×Value))(k:Str)(v:Value):stored kvs k v≠[]:=by
 unfold stored
 split
 ·rename_i q;intro w;cases kvs with
  |nil=>simp at q
  |cons p r=>simp at w
 ·simp
structure LI(stk:List Env)(h₀:Heap)(W:Wd)(B:eD)(a:Addr):Prop where
 new:h₀.get? a=none
 outι:a∉W.ι
 outF:W.F a=none
 frm:a∉frs stk
 low:B.h₀.objs.size<=a
theorem qj.pri(c:C.Ok)(w:qj C W a):LI C.stk₀ C.s₀.heap W C.B a:=⟨w.new,w.outι,w.outF,λm=>w.frm (by unfold Mine.frs gX.stk;rwa[List.filterMap_cons,c.frame];show .tail _ m),w.low⟩
def rP(B:eD)(stk:List Env)(h₀:Heap)(W:Wd)(Cc x T:Addr)(h:Heap)(kvs:List (Str×Value)):Prop:=
 LI stk h₀ W B x/\∃dx od,h.get? x=some {cls:=.ref Cc,dict:=some dx,data:=.fields (Ez T)}/\h.get? dx=some od/\od.IsDictOf (strKind pw B.w) kvs/\dx≠x/\LI stk h₀ W B dx
theorem uF.done{x:Addr}{kvs:List (Str×Value)}(c:C.Ok)(e:uF C W Cc x T h kvs)(ne:kvs≠[]):rP C.B C.stk₀ C.s₀.heap W Cc x T h kvs:=by
 (show fx e ?_;rintro w (⟨k,_⟩|⟨dx,od,q1,q2,q3,q4,q5⟩))
 ·show absurd k ne
 ·show⟨w.pri c,dx,od,q1,q2,q3,q4,q5.pri c⟩
section
variable{stk:List Env}{fI x:Addr}{v:Value}{PV:Value->Shared->Prop}
theorem yn{args:List Value}(hI:ef B stk W J s.heap)(mk:Heap.MadeExcOf s.heap h' x (.ref Cc) args)(lo:s.heap.objs.size<=x)(c:C.Ok)(hB:C.B=B)(h1:C.stk₀=stk)(h2:C.s₀=s)(k:∀q o,h'.get? q=some o->ae.heap.get? q=some o)(p:∀q o,h'.get? q=some o->C.fr.env.locals≠q/\∀y c,C.fr.env.cells.lookup y=some c->c≠q):∃T,uF C W Cc x T ae.heap []:=by
 subst hB h1 h2;show kQ mk.there λT e1 e2 e3=>?_
 have nf:=hI.notFrs mk.new;show⟨T,⟨mk.new,?_,?_,(p _ _ e1).1,(p _ _ e1).2,?_,?_⟩,.inl ⟨rfl,k _ _ e1⟩⟩
 ·intro w;obtain⟨l,hl,e'⟩:=List.getElem_of_mem w;have hl':l<J.length:=by rwa[hI.len.symm];show hl
  show d6 (hI.objs l J[l] x (List.getElem?_eq_getElem hl') (by show d4 (List.getElem?_eq_getElem hl) (d4 e' rfl))) λo' e' _=>?_
  rw[mk.new] at e';injection e'
 ·cases z:W.F x with
  |none=>rfl
  |some y=>have:=hI.frozen _ _ z;rw[mk.new] at this;injection this
 ·intro m;unfold Mine.frs gX.stk at m;rw[List.filterMap_cons,c.frame] at m;rcases List.mem_cons.mp m with m|m
  ·show(p _ _ e1).1 m.symm
  ·show nf m
 ·show Nat.le_trans hI.size lo
theorem Gf{ns:List (List Nat)}{m:List Nat}(G:o6 B)(f:pz B fI ns 2 %[.asgA (.lv 0) m (.lv 1)|.nil])(P:jd B Cc fI)(ht:takerIn B.K Cc (sv m)=some none)(hA:hH A stk (n+1))(hI:ef B stk W J s.heap)(rv:W.Rep B d v)(mk:Heap.MadeExcOf s.heap h' x (.ref Cc) [v])(lo:s.heap.objs.size<=x)(h:∀s' W' T u,eA (frs stk) W s.heap W' s'.heap->ef B stk W' J s'.heap->gc s s'->rP B stk s.heap W' Cc x T s'.heap [(sv m,u)]->W'.Rep B d u->PV .none s'):
  wpAny B.M A (call (.ref fI) [.ref x,v]) PV E {s with heap:=h'}:=by
 obtain bB:eA (frs stk) W s.heap W h':=.kept mk.keeps;show wpAny_call (DS (args:=[.stat x,d]) (s:={s with heap:=h'}) (s₀:=s) (W₀:=W) G f rfl hA bB (hI.kept mk.keeps) ⟨rfl,rfl⟩ (.cons .stat (.cons rv .nil)) ?_);intro env sc ae body C c t k p ck;obtain⟨T,eo⟩:=yn (C:=C) hI mk lo c rfl rfl rfl k p;apply tO ck;intro st _ ck1 ck;apply xE ck;show wpAny_bind (wpAny_mono (xv (e:=.lv 1) (Qe:=λd' aa=>d'=d/\aa=J) ck1 c t rfl P ht eo (dt rfl) ⟨rfl,rfl⟩) ?_ λ_ _ f=>f.elim);clear hI rv t;rintro fl s' ⟨rfl,W',aa,u,d',t',ru,⟨rfl,rfl⟩,eo'⟩;obtain ed:=eo'.done c (by simp[stored]);show wpAny_pure (h s' W' T u t'.e t'.inv.tail t'.rest ed ru)
theorem yR{ns:List (List Nat)}{m0 m:List Nat}(G:o6 B)(f:pz B fI ns 2 %[.asgA (.lv 0) m0 (.int 0),.asgA (.lv 0) m (.lv 1)|.nil])(P:jd B Cc fI)(ht0:takerIn B.K Cc (sv m0)=some none)(ht:takerIn B.K Cc (sv m)=some none)(hA:hH A stk (n+1))(hI:ef B stk W J s.heap)(rv:W.Rep B d v)(mk:Heap.MadeExcOf s.heap h' x (.ref Cc) [v])(lo:s.heap.objs.size<=x)(h:∀s' W' T kvs,eA (frs stk) W s.heap W' s'.heap->ef B stk W' J s'.heap->gc s s'->rP B stk s.heap W' Cc x T s'.heap kvs->PV .none s'):
  wpAny B.M A (call (.ref fI) [.ref x,v]) PV E {s with heap:=h'}:=by
 obtain bB:eA (frs stk) W s.heap W h':=.kept mk.keeps;show wpAny_call (DS (args:=[.stat x,d]) (s:={s with heap:=h'}) (s₀:=s) (W₀:=W) G f rfl hA bB (hI.kept mk.keeps) ⟨rfl,rfl⟩ (.cons .stat (.cons rv .nil)) ?_);intro env sc ae body C c t k p ck;obtain⟨T,eo⟩:=yn (C:=C) hI mk lo c rfl rfl rfl k p;apply tO ck;intro st _ ck1 ck;apply tO ck;intro st2 _ ck2 ck;apply xE ck;show wpAny_bind (wpAny_mono (xv (e:=.int 0) (Qe:=λ_ aa=>aa=J) ck1 c t rfl P ht0 eo (dt rfl) rfl) ?_ λ_ _ f=>f.elim);rintro fl s' ⟨rfl,W',aa,u,d',t',ru,rfl,eo'⟩;show wpAny_bind (wpAny_mono (xv (e:=.lv 1) (Qe:=λ_ af=>af=aa) ck2 c t' rfl P ht eo' (by simp[stored]) rfl) ?_ λ_ _ f=>f.elim);clear t' hI t;rintro fl aq ⟨rfl,ay,au,dZ,br,aH,dT,rfl,bX⟩;obtain ed:=bX.done c (Ge _ _ _);show wpAny_pure (h aq ay T _ aH.e aH.inv.tail aH.rest ed)
end
end
section
open PySem PySem.W
section
variable{M:Model}
variable{nm:Str}{C:Addr}{pre:List Addr}{sub:List Value}{k0:Option Value}
theorem zg{x:Sem Value}{Q:Flow->Shared->Prop}(hh:A.handled=none)(h:wpAny M A x (λv ae=>∃e t dx,v=.ref e/\ae.heap.get? C=some (excClassObj nm q C N bs (pre.map Value.ref++fO) true sn sub ab col dd k0 k1 k2 k3 k5 "Exception.__new__")/\
   ae.heap.get? e=some {cls:=.ref C,dict:=some dx,data:=.fields #[.ref t,.none,.none,.none,.bool false,.none]}/\E (.ref e) ae) E s):
  wpAny M A (raiseStmt env (some x) none) Q E s:=by
 obtain hcB:(Value.ref C::(pre.map Value.ref++fO)).contains (.type "BaseException")=true:=by show d4 List.contains_cons (d4 (lL (b:=true) (by decide+kernel)) (d4 (Bool.or_true ..) rfl))
 unfold raiseStmt;show wpAny_bind (wpAny_mono h (λv ae aM=>?_) λ_ _ x=>x);show AM aM ?_;rintro e t dx rfl hC he hE;clear aM;obtain⟨hp,g,d,tk,os⟩:=ae
 repeat (first|with_reducible show wpAny_loadPart_at he ?_|with_reducible show wpAny_loadPart_at hC ?_|(with_reducible show wpAny_isSubtype_exc hC ?_;rwa[hcB])|wp_step)
 show wpAny_raiseNew_none hh hE
theorem BH{f:Value}{args:List (Bool×Sem Value)}{P:Value->Shared->Prop}(hc:jJ B f)(hplain:args.any (·.1)=false)(h:wpAny B.M A (evalArgs f true args []) (λa s'=>a.kw=[]/\(∀b o,B.h₀.get? b=some o->s'.heap.get? b=some o)/\wpAny B.M A (call f a.pos) P E s') E s):
  wpAny B.M A (callWith pos f [] args []) P E s:=by
 unfold callWith;show wpAny_bind (wpAny_holding (wpAny_mono h ?_ λ_ _ h=>h));rintro a s' ⟨hk,hi,hq⟩;show wpAny_bind (wpAny_standAt ?_);simp only[hplain,List.any_nil,Bool.or_false];have tail:∀{t:Sem Value},wpAny B.M A t P E s'->wpAny B.M A (t>>=λr=>holding [r] point>>=λ_=>pure r) P E s':=
  λht=>wpAny_bind (wpAny_mono ht (λv s2 p2=>wpAny_bind (wpAny_holding (wpAny_point (wpAny_pure p2)))) λ_ _ h=>h)
 show wpAny_bind (hc _ _ _ _ hi λk=>?_);rwa[hk];cases k
 ·show wpAny_ite (JA (λ_=>tail hq) λ_=>tail (by unfold callMarked;show Calls.wpAny_keep hq))
 ·show wpAny_ite (JA (λ_=>tail hq) λ_=>tail (by unfold callMarked;show Calls.wpAny_keep hq))
 ·show tail hq
 ·show tail ?_;unfold operate;show wpAny_bind (wpAny_holding (wpAny_mono hq (λv s2 p2=>?_) λ_ _ h=>h));show nE _ (wpAny_pure p2)
end
end
section
open PySem PySem.W PyProof.Rows
noncomputable abbrev lZ:List Nat:=[118,97,108,117,101]
noncomputable abbrev tD:List Nat:=[116,101,120,116]
noncomputable abbrev mY:List Nat:=[110,117,109,98,101,114]
structure lB(B:eD):Prop where
 sub:∀i j,i<3->j<3->mroIn B.K (gn i) (.ref (gn j))=some (decide (i=j))
 ga:findIn B.K (.ref fN) "__getattribute__" =some (some (.builtin "BaseException.__getattribute__"))
 be:mroIn B.K fN (.type "BaseException")=some true
 gt:findIn B.K (.ref fN) "__getattr__" =some none
 own:findIn B.K (.ref fN) (sv lZ)=some none
 hd:hasDictIn B.K fN=true
 c0:jd B fN 726
 v0:takerIn B.K fN (sv lZ)=some none
 f0:∃ns,pz B 726 ns 2 (.cons (.asgA (.lv 0) lZ (.lv 1)) .nil)
 c1:jd B jH 97
 n1:takerIn B.K jH (sv mY)=some none
 t1:takerIn B.K jH (sv tD)=some none
 f1:∃ns,pz B 97 ns 2 (.cons (.asgA (.lv 0) mY (.int 0)) (.cons (.asgA (.lv 0) tD (.lv 1)) .nil))
 c2:jd B jI 117
 n2:takerIn B.K jI (sv mY)=some none
 t2:takerIn B.K jI (sv tD)=some none
 f2:∃ns,pz B 117 ns 2 (.cons (.asgA (.lv 0) mY (.int 0)) (.cons (.asgA (.lv 0) tD (.lv 1)) .nil))
section
variable{Q:Fl->ew->Hp->Prop}
abbrev Jj(C:gX)(X:fD->Hp->Prop)(e:Value)(s':Shared):Prop:=
 EE C X e s'
theorem vg{y:Addr}{x:fD}{kvs:List (Str×Value)}(t:At C W J U s)(c:C.Ok)(e:eA (frs C.stk) W s.heap W' s'.heap)(i:ef C.B C.stk W' J s'.heap)(r:gc s s')(d:rP C.B C.stk s.heap W' (Al x) y T s'.heap kvs)(hv:match x with|.throw v=>∃u,valueAt kvs (Str.ofString "value")=some u/\W'.Rep C.B v u|_=>True)(hx:X x J):Jj C X (.ref y) s':=by
 obtain⟨p,dx,od,e1,e2,e3,e4,pd⟩:=d;obtain i2:=i.settle e2 pd.outF pd.outι pd.frm;obtain e5:eA (frs C.stk) W s.heap (W'.frz dx od) s'.heap:=eA.settle e pd.new (Heap.SameBut.refl ..) pd.outF;obtain n0:=eA.fresh t.e t.inv _ p.new;show⟨W'.frz dx od,J,x,t.e.after e5 c.frs,i2,t.rest.trans r,⟨y,_,Ez T,dx,od,kvs,rfl,n0,e1,rfl,rfl,p.outι,?_,p.low,.inl rfl,rfl,?_,e3,?_⟩,hx⟩
 ·show(if y=dx then some od else W'.F y)=none;rwa[if_neg (Ne.symm e4)];show p.outF
 ·show(if dx=dx then some od else W'.F dx)=some od;show d4 (if_pos rfl) rfl
 ·cases x with
  |throw v=>show d6 hv λu h1 h2=>?_;show⟨u,h1,vn pd.outF h2⟩
  |_=>trivial
theorem rn{sc:Scope}{x:Str}(h:iC sc k x=true):∃(i:Nat) (l:List Nat),Gt[i]?=some (l,.stat (gn k))/\x=sv l/\sc.names.lookup x=some .globalImplicit/\(x==("__debug__" :Str))=false/\k<3:=by
 unfold iC at h;show d6 (List.any_eq_true.mp h) λp hp h=>?_
 simp only[Bool.and_eq_true,beq_iff_eq,Bool.not_eq_true',decide_eq_true_eq] at h;show fx h ?_;rintro⟨⟨⟨h1,h2⟩,h3⟩,h4⟩ h5;obtain⟨i,hi,e⟩:=List.getElem_of_mem hp;obtain this:=wN _ _ h2;show⟨i,p.1,?_,h1,h3,h4,h5⟩;show d4 (List.getElem?_eq_getElem hi) (d4 e (d4 this.symm rfl))
theorem FQ{ds:List V}(h:qc k ds J X):∃d,ds=[d]:=by
 cases k with
 |zero=>show d6 (tK h) λd e _=>⟨d,e⟩
 |succ k=>cases k with
 |zero=>show d6 (tK h) λd e _=>⟨d,e⟩
 |succ k=>cases k with
 |zero=>show d6 (tK h) λd e _=>⟨d,e⟩
 |succ k=>show False.elim h
theorem qG{y:Str}{yp cp:Pos}{l:List Expr}{f:Addr}(P:jd C.B (gn k) f)(h1:iC C.sc k y=true)(h2:ig C.ns C.sc es l=true)(c:C.Ok)(t:At C W J U s)(q:fH C.B C.n X es U J λds aa=>qc k ds aa X)(hm:∀ay au aq d v h' e,At C ay au U aq->ay.Rep C.B d v->qc k [d] au X->Heap.MadeExcOf aq.heap h' e (.ref (gn k)) [v]->aq.heap.objs.size<=e->
   ∀PV:Value->Shared->Prop,(∀s' W' T kvs,rP C.B C.stk aq.heap W' (gn k) e T s'.heap kvs->Jj C X (.ref e) s'->ef C.B C.stk W' au s'.heap->PV .none s')->
    wpAny C.B.M (C.A.under (.builtin "type.__call__" ⟨.ref (gn k)::[v],[]⟩)) (call (.ref f) [.ref e,v]) PV (Jj C X) {aq with heap:=h'}):
  eF C W s (exec (.Raise (some (.Call (.Name y yp) l [] cp)) none pos) C.fr.env) (oD C Q) X:=by
 obtain⟨nm,qn,N,bs,pre,sn,sub,ab,col,dd,k0,k1,k2,k3,k5,hC⟩:=P.at_;show w5 (rn h1) ?_;clear h1;rintro i nmL g1 rfl g2 g3 g4;show wpAny _ _ (do standAt pos;raiseStmt C.fr.env (some (do let v<-eval (.Call (.Name (sv nmL) yp) l [] cp) C.fr.env;standAt pos;pure v)) none) _ _ s
 show wpAny_bind (wpAny_standAt ?_);show zg (nm:=nm) (q:=qn) (C:=gn k) (N:=N) (bs:=bs) (pre:=pre) (sn:=sn) (sub:=sub) (ab:=ab) (col:=col) (dd:=dd) (k0:=k0) (k1:=k1) (k2:=k2) (k3:=k3) (k5:=k5) c.hA.handled ?_
 show wpAny_bind (wpAny_mono (Q:=λv ae=>∃e T dx,v=.ref e/\ae.heap.get? (gn k)=some (excClassObj nm qn (gn k) N bs (pre.map Value.ref++fO) true sn sub ab col dd k0 k1 k2 k3 k5 "Exception.__new__")/\
   ae.heap.get? e=some {cls:=.ref (gn k),dict:=some dx,data:=.fields #[.ref T,.none,.none,.none,.bool false,.none]}/\Jj C X (.ref e) ae) ?_ (λv ae aM=>wpAny_bind (wpAny_standAt (wpAny_pure aM))) λ_ _ x=>x)
 rwa[arm_eval_Call_Name' ..];show d6 (t.inv.globals c.good g1) λv e1 r=>?_
 cases r;have hc:jJ C.B (.ref (gn k)):=(c.good.callee _ _ _ g1).elim u6 zS;show wpAny_bind (wpAny_mono (eF.of c t (nS (P:=λW' aa v=>v=.ref (gn k)/\W'=W/\aa=J) g3 (q8 t.inv c.ok (by unfold Env.kindOf;rwa[c.scope];show g2) e1 ⟨rfl,rfl,rfl⟩))) ?_ λ_ _ x=>x);rintro _ ae ⟨_,_,_,aU,xb,rfl,rfl,rfl,rfl⟩;show gp (sL es h2 (aU.cx c) cp _ q) λ_ hp ha=>?_
 show BH hc hp (wpAny_mono (eF.of c aU (ha _)) ?_ λ_ _ x=>x);clear aU q t;rintro ar aq ⟨ay,au,bN,aH,bC,rfl,hk,ds,rd,hl,hq⟩;show⟨hk,aH.inv.old,?_⟩;show fv (FQ hq) ?_;clear hl;rintro d rfl;obtain⟨apos,akw⟩:=ar;dsimp only at hk rd ⊢;subst hk;cases rd with
 |cons rd rd0=>
  cases rd0;clear bC;obtain⟨cD,gg,dr,tk,os⟩:=aq;have cN:C.B.K.In cD:=aH.inv.inK;show IE cN P.init P.fn (cN _ _ hC) (λh' e mk lo=>?_);show hm ay au ⟨cD,gg,dr,tk,os⟩ d _ h' e aH rd hq mk lo _ λs' W' T kvs ed o i=>⟨rfl,e,T,?_⟩
  obtain⟨p,dx,od,q1,q2⟩:=ed;show⟨dx,rfl,i.inK _ _ hC,q1,o⟩
end
theorem IT(u:Value):valueAt [(sv lZ,u)] (Str.ofString "value")=some u:=by
 obtain this:sv lZ=Str.ofString "value" :=by decide+kernel
 rwa[this];simp[valueAt]
theorem SS.raise(F:lB C.B):SS C (.raise k es):=by
 intro st W J U s X Q h c t q;apply Mz h;intro _ _ pos g1;apply zv g1;intro g2;apply zL g2;intro _ g3;apply pC g3;intro _ l cp g4;apply gG g4;intro y yp g5;show gp (b3 g5) λh1 h2 _=>?_
 show fx q λhn q=>?_
 show w5 (rn h1) λ_ _ _ _ _ _ hk=>?_
 obtain rfl|rfl|rfl:k=0\/k=1\/k=2:=by lia
 ·show qG (k:=0) F.c0 h1 h2 c t q λay au aq d v h' e aH rd hq mk lo PV hPV=>?_
  show fv F.f0 λns f=>?_
  show Gf (n:=0) c.good f F.c0 F.v0 (hH.make (c.hA.le hn)) aH.inv rd mk lo λs' W' T u e' i' r' ed ru=>hPV s' W' T _ ed (vg (x:=.throw d) aH c e' i' r' ed ⟨u,IT u,ru⟩ hq) i'
 ·show qG (k:=1) F.c1 h1 h2 c t q λay au aq d v h' e aH rd hq mk lo PV hPV=>?_
  show fv F.f1 λns f=>?_
  show yR (n:=0) c.good f F.c1 F.n1 F.t1 (hH.make (c.hA.le hn)) aH.inv rd mk lo λs' W' T kvs e' i' r' ed=>hPV s' W' T _ ed (vg (x:=.num) aH c e' i' r' ed trivial ?_) i'
  show d6 (mX hq) λ_ _ hq=>?_;show hq
 ·show qG (k:=2) F.c2 h1 h2 c t q λay au aq d v h' e aH rd hq mk lo PV hPV=>?_
  show fv F.f2 λns f=>?_
  show yR (n:=0) c.good f F.c2 F.n2 F.t2 (hH.make (c.hA.le hn)) aH.inv rd mk lo λs' W' T kvs e' i' r' ed=>hPV s' W' T _ ed (vg (x:=.host) aH c e' i' r' ed trivial ?_) i'
  show d6 (mX hq) λ_ _ hq=>?_;show hq
section
variable{M:Model}
theorem Eh{base:Heap}{e:Addr}{vs:Array Value}{Q:Unit->Shared->Prop}(hfr:A.frames=some (env::outer))(hl:s.heap.FunFrames base (env::outer))(hf:env.frame=some L)(he:s.heap.get? e=some oe)(hd:oe.data=.fields vs)(h1:vs[1]?=some .none)(h:∀h',q9 ((env::outer).filterMap (·.frame)) s.heap e oe vs (λ_=>False) h'->Q () {s with heap:=h'}):wpAny M A (noteFrame (.ref e) env) (λ_ s'=>wpAny M A (setFlight (.ref e) none) Q E s') E s:=by
 unfold noteFrame;simp only[hf];show wpAny_bind (wpAny_field he hd h1 ?_);rwa[if_neg (dt rfl)];show mM hfr hl hf he hd (Array.getElem?_eq_some_iff.mp h1).1 h
theorem ES{base:Heap}{e:Addr}{oT:Obj}{vs ts:Array Value}{Q:Unit->Shared->Prop}(hfr:A.frames=some (env::outer))(hl:s.heap.FunFrames base (env::outer))(hf:env.frame=some L)(he:s.heap.get? e=some oe)(hd:oe.data=.fields vs)(h1:vs[1]?=some (.ref T))(hTe:T≠e)(hT:s.heap.get? T=some oT)(hdT:oT.data=.fields ts)(h3:ts[3]?=some .none)(h:∀h',q9 ((env::outer).filterMap (·.frame)) s.heap e oe vs (λb=>b=T) h'->Q () {s with heap:=h'}):wpAny M A (noteFrame (.ref e) env) (λ_ s'=>wpAny M A (setFlight (.ref e) none) Q E s') E s:=by
 unfold noteFrame;simp only[hf];show wpAny_bind (wpAny_field he hd h1 ?_);rwa[if_pos (show(Value.ref T !=Value.none)=true from by simp)];show wpAny_bind (wpAny_field hT hdT h3 ?_);rwa[if_neg (show ¬((Value.none==rawInt L)=true) from by simp[rawInt])];show wpAny_bind (wpAny_setField hT hdT (Array.getElem?_eq_some_iff.mp h3).1 ?_);have other:∀b,b≠T->(s.heap.update T (Obj.mapFields (·.setIfInBounds 3 Value.none))).get? b=s.heap.get? b:=λb hb=>Heap.get?_update_other _ _ (Ne.symm hb)
 have selfT:=Heap.get?_update_self (Obj.mapFields (·.setIfInBounds 3 Value.none)) hT (Obj.isFreed_of_fields (Obj.data_mapFields hdT _));obtain nr:∀b o,s.heap.get? b=some o->(∀vs,o.data≠.fields vs)->b≠T:=λb o hb hnf q=>by
  rw[q,hT] at hb;injection hb with hb;subst hb;show hnf ts hdT
 show mM (s:={s with heap:=s.heap.update T (Obj.mapFields (·.setIfInBounds 3 Value.none))}) hfr (hl.of_keeps λb o hb hnf=>⟨o,(other b (nr b o hb hnf)).trans hb,rfl⟩) hf ((other e (Ne.symm hTe)).trans he) hd (Array.getElem?_eq_some_iff.mp h1).1 λh' g=>h h' ?_
 show⟨?_,λb o hb ht hbo=>g.keep b o hb (λq=>q) ((other b ht).trans hbo),λb o hbo=>?_⟩
 ·obtain⟨T',oT',ts',q1,q2,q3,q4,q5,q6⟩:=g.exc;show⟨T',oT',ts',?_,q2,q3,q4,q5,q6⟩
  by_cases w:T'=T
  ·rw[w] at q1;rw[show({s with heap:=s.heap.update T (Obj.mapFields (·.setIfInBounds 3 Value.none))}:Shared).heap.get? T=_ from selfT] at q1;injection q1
  ·rwa[(other T' w).symm];show q1
 ·by_cases w:b=T
  ·rwa[w];show g.some_ T _ selfT
  ·show g.some_ b o ((other b w).trans hbo)
end
theorem NA{stk:List Env}{e:Value}{x:fD}{P:Shared->Prop}(hfr:A.frames=some (env::stk))(hf:env.frame=some env.locals)(eE:eA (frs (env::stk)) W₀ s₀.heap W s.heap)(hI:ef B (env::stk) W J s.heap)(ex:gH B W s₀.heap s.heap e x)(hP:∀h',eA (frs (env::stk)) W₀ s₀.heap W h'->ef B (env::stk) W J h'->gH B W s₀.heap h' e x->P {s with heap:=h'}):
  wpAny B.M A (noteFrame e env) (λ_ aq=>wpAny B.M A (setFlight e none) (λ_ aI=>P aI) E aq) E s:=by
 obtain⟨a,o,vs,dx,od,kvs,rfl,n0,ho,hc,hd,aQ,hF,hlow,htr,hdict,hdx,hod,hx⟩:=ex;obtain hb:∀a,(({objs:=#[]}:Heap)).get? a=none:=by intro a;rfl
 have hl:=vN hb hI;obtain hsz:1<vs.size:=by
  rcases htr with h1|⟨T,_,_,h1,_⟩<;>show(Array.getElem?_eq_some_iff.mp h1).1
 have fin:∀(skip:Addr->Prop) h',(∀b,skip b->s₀.heap.get? b=none/\b∉W.ι/\W.F b=none/\∃ob ts,s.heap.get? b=some ob/\ob.data=.fields ts)->q9 ((env::stk).filterMap (·.frame)) s.heap a o vs skip h'->P {s with heap:=h'}:=λskip h' hs g=>
  let⟨q1,q2,q3⟩:=g.fin eE hI hx n0 ho hc hd aQ hF hlow hsz hdict hdx hod skip h' hs
  hP h' q1 q2 q3
 rcases htr with h1|⟨T,oT,ts,h1,nT,hTe,hT,hdT,h3,aW,hTF⟩
 ·show Eh hfr hl hf ho hd h1 λh' g=>fin _ h' (λ_ f=>f.elim) g
 ·show ES hfr hl hf ho hd h1 hTe hT hdT h3 λh' g=>fin _ h' (λb q=>by clear h1 hTe h3 g;subst q;show⟨nT,aW,hTF,oT,ts,hT,hdT⟩) g
section
variable{M:Model}{g:Array GenState}{d:Drawn}{t:Nat}{os:OsState}
variable{nm:Str}{C:Addr}{pre:List Addr}{sub:List Value}{k0:Option Value}
theorem B6{e Ce:Addr}{Q:Bool->Shared->Prop}(hC:h.get? C=some (excClassObj nm q C N bs (pre.map Value.ref++fO) true sn sub ab col dd k0 k1 k2 k3 k5 "Exception.__new__"))(he:h.get? e=some oe)(hcls:oe.cls=.ref Ce)(hs:Looks M h (isSubtype (.ref Ce) (.ref C)) b)(hq:Q b ⟨h,g,d,t,os⟩):wpAny M A (excMatches (.ref e) (.ref C)) Q E ⟨h,g,d,t,os⟩:=by
 obtain hcB:(Value.ref C::(pre.map Value.ref++fO)).contains (.type "BaseException")=true:=by show d4 List.contains_cons (d4 (lL (b:=true) (by decide+kernel)) (d4 (Bool.or_true ..) rfl))
 obtain f:=tc_notTuple;unfold excMatches
 repeat (first|(with_reducible show wpAny_loadPart_at he ?_;rwa[hcls])|with_reducible show wpAny_loadPart_at hC ?_|(with_reducible show wpAny_isSubtype_exc hC ?_;rwa[hcB])|with_reducible show hs.here ?_|wp_step)
 clear hs;cases b
 ·repeat (first|wp_step)
  show hq
 ·repeat (first|wp_step)
  show hq
end
section
variable{e:Value}{x:fD}
theorem At.anew(t:At C W J U s)(n0:C.s₀.heap.get? a=none)(aN:a∉W.ι)(nF:W.F a=none)(nl:C.fr.env.locals≠a)(nc:∀y c,C.fr.env.cells.lookup y=some c->c≠a)(sb:Heap.SameBut a s.heap h')(k:∀o,s.heap.get? a=some o->(∀vs,o.data≠.fields vs)->∃o',h'.get? a=some o'/\∀vs,o'.data≠.fields vs):At C W J U {s with heap:=h',toks:=n} where
 e:=t.e.other n0 sb
 inv:=t.inv.other sb nF aN k
 rest:=⟨t.rest.gens,t.rest.os⟩
 fr:=t.fr.same sb (Ne.symm nl) nc
theorem XB.anew(x:XB C W h W' h')(n:h.get? a=none)(sb:Heap.SameBut a h' h'')(g:(h''.get? a).isSome=true):XB C W h W' h'' where
 F:=x.F
 ι:=x.ι
 keep b o q n1 n2 n3 n4:=by
  rwa[sb.2 b (by intro w;clear sb g;subst w;rw[n] at q;injection q)];show x.keep b o q n1 n2 n3 n4
 some_ b o q:=by
  by_cases w:b=a
  ·rwa[w];show g
  ·rwa[sb.2 b w];show x.some_ b o q
 outι:=x.outι
 outF:=x.outF
structure Hd(C:gX)(W:Wd)(s:Shared)(ao:Wd)(ah:Hp)(U:ew)(e:Value)(x:fD)(ae:Shared):Prop where
 at_:At C ao ah U ae
 xb:XB C W s.heap ao ae.heap
 ex:gH C.B ao s.heap ae.heap e x
theorem At.notFields(t:At C W J U s){vs:Array Value}(ho:s.heap.get? a=some o)(hd:o.data=.fields vs):C.fr.env.locals≠a/\(∀y c,C.fr.env.cells.lookup y=some c->c≠a)/\a∉frs C.stk:=by
 show jb t.fr λm cm F=>?_
 show⟨?_,λy c q w=>?_,λm=>?_⟩
 ·intro w;show zb F.ns λo' es ep e1 e2 _=>?_
  rw[w,ho] at e1;injection e1 with e1;subst e1
  rw[hd] at e2;injection e2
 ·show fx (F.cell y c q) ?_;rintro⟨o',e1,e2⟩ _;rw[w,ho] at e1;injection e1 with e1;subst e1
  rw[hd] at e2;injection e2
 ·show d6 (List.mem_filterMap.mp m) λenv me e'=>?_
  obtain⟨_,L,o',e1,e2,e3,_⟩:=t.inv.frames env me;rw[e1] at e';injection e' with e';clear m;subst e'
  rw[ho] at e2;injection e2 with e2;subst e2
  show e3 _ hd
theorem Hd.flight{P:Shared->Prop}(hs:∀b,s.heap.get? b=none->C.s₀.heap.get? b=none)(d:Hd C W s ao ah U e x ae)(hP:∀h',Hd C W s ao ah U e x {ae with heap:=h'}->P {ae with heap:=h'}):
  wpAny C.B.M A (setFlight e none) (λ_ aq=>P aq) E ae:=by
 obtain⟨t,xb,a,o,vs,dx,od,kvs,rfl,n0,ho,hc,hd,aQ,hF,hlow,htr,hdict,hdx,hod,hx⟩:=d;rcases htr with h1|⟨T,oT,ts,h1,nT,hTe,hT,hdT,h3,aW,hTF⟩
 ·unfold setFlight;show wpAny_bind (wpAny_field ho hd h1 ?_);rwa[if_neg (dt rfl)];show wpAny_pure (hP ae.heap ⟨t,xb,a,o,vs,dx,od,kvs,rfl,n0,ho,hc,hd,aQ,hF,hlow,.inl h1,hdict,hdx,hod,hx⟩)
 ·have hsz:=(Array.getElem?_eq_some_iff.mp h3).1;show wpAny_setFlight_none ho hd h1 hT hdT hsz ?_;have sb:Heap.SameBut T ae.heap (ae.heap.update T (Obj.mapFields (·.setIfInBounds 3 .none))):=Heap.SameBut.update ..;have gT:=Heap.get?_update_self (Obj.mapFields (·.setIfInBounds 3 Value.none)) hT (Obj.isFreed_of_fields (Obj.data_mapFields hdT _));show gp (t.notFields hT hdT) λq1 q2 _=>?_
  show hP _ ⟨t.anew (n:=ae.toks) (hs T nT) aW hTF q1 q2 sb (by intro o' g k;rw[hT] at g;injection g with g;subst g;show absurd hdT (k _)),xb.anew nT sb (by rwa[gT];rfl),?_⟩;show⟨a,o,vs,dx,od,kvs,rfl,n0,(sb.2 a (Ne.symm hTe)).trans ho,hc,hd,aQ,hF,hlow,.inr ⟨T,_,_,h1,nT,hTe,gT,Obj.data_mapFields hdT _,by simp[hsz],aW,hTF⟩,hdict,hdx,hod,hx⟩
end
theorem HS:sv lZ=("value" :Str):=by decide+kernel
section
variable{e:Value}{x:fD}
theorem xj{y:Str}{p:Pos}{Q:Value->Shared->Prop}(c:C.Ok)(t:At C W J U s)(hg:iC C.sc k y=true)(h:Q (.ref (gn k)) s):wpAny C.B.M A (eval (.Name y p) C.fr.env) Q E s:=by
 show w5 (rn hg) ?_;clear hg;rintro i l g1 rfl g2 g3 g4;show d6 (t.inv.globals c.good g1) λv e1 r=>?_
 cases r;show wpAny_Name (ks_loadName_global c.ok.kind (by unfold Env.kindOf;rwa[c.scope];show g2) (Calls.loadGlobal_global (mg:=C.B.mg) (by rwa[c.ok.glob];show t.inv.ns C.B.g) e1 h)) g3
theorem FG{y:Str}{v:Value}{Q:Unit->Shared->Prop}(c:C.Ok)(a:At C W J U s)(h:fR C.ns C.sc i y=true)(r:W.Rep C.B d v)(k:∀s',XB C W s.heap W s'.heap->At C W J (U.set i (some d)) s'->Q () s'):wpAny C.B.M A (bindName C.fr.env y v) Q E s:=by
 show fx (vy c h) λh1 h2=>?_
 show wpAny_bindName (rS a.inv c.ok a.fr h1 h2 r λh' m b hs hb i' f'=>?_);have hb':b=C.fr.env.locals\/∃y,C.fr.env.cells.lookup y=some b:=by
  clear hs;rcases hb with⟨_,rfl⟩|⟨_,hb⟩
  ·show .inl rfl
  ·show .inr ⟨_,hb⟩
 show k _ (.same hs hb' ?_) ?_
 ·show jb f' λm cm F=>?_
  clear hs hb;rcases hb' with rfl|⟨y,hy⟩
  ·show uI F.ns λo _ _ q _=>?_
   rwa[q];rfl
  ·show fx (F.cell y b hy) ?_;rintro⟨o,q,_⟩ _;rwa[q];rfl
 ·show⟨a.e.other ?_ hs,i',⟨a.rest.gens,a.rest.os⟩,f'⟩;clear hs hb';rcases hb with⟨_,rfl⟩|⟨_,hb⟩
  ·show c.newL
  ·show c.newC _ _ hb
theorem xF{y:Str}{p:Pos}{v:Expr}{Qv:V->Hp->Prop}{P:Flow->Shared->Prop}(c:C.Ok)(t:At C W J U s)(hst:fR C.ns C.sc i y=true)(hn:iT v=true)(hv:wpAny C.B.M A (eval v C.fr.env) (mm C.B C.stk W s (RV C.B Qv)) E s)(hP:∀W' aa s' d,At C W' aa (U.set i (some d)) s'->XB C W s.heap W' s'.heap->Qv d aa->P .next s'):
  wpAny C.B.M A (execs [.Assign [.Name y p] v pos] C.fr.env) P E s:=by
 show wpAny_execs_cons ?_;obtain hw:=j4 (env:=C.fr.env) (t:=some (.Name y p)) (l:=pos.line) hn;rwa[arm_exec_Assign ..];show wpAny_bind (wpAny_standAt ?_);show wpAny _ _ (swapsWith v (some (.Name y p)) pos.line C.fr.env>>=_) _ _ _
 rwa[hw];show wpAny_bind (wpAny_pure ?_);rwa[if_neg Bool.false_ne_true];rwa[(show swappedStores [.Name y p] v C.fr.env=pure none from rfl)];rwa[(show(assignEach [.Name y p] C.fr.env).map (·.2)=[assign (.Name y p) C.fr.env] from rfl)];show wpAny _ _ (eval v C.fr.env>>=λu=>assign (.Name y p) C.fr.env u>>=λ_=>pure Flow.next) _ _ _
 show wpAny_bind (wpAny_mono hv ?_ λ_ _ h=>h)
 ·rintro u ae ⟨ao,ah,aS,bc,bJ,d,rd,qd⟩;obtain aU:=t.step c aS bc bJ;obtain bS:=XB.of bc aS;show wpAny _ _ ((standAt p>>=λ_=>bindName C.fr.env y u)>>=λ_=>pure Flow.next) _ _ _
  rwa[bind_assoc ..];show wpAny_bind (wpAny_standAt (wpAny_bind (FG c aU hst rd λs' x' a'=>wpAny_pure ?_)));show wpAny_pure (hP ao ah s' d a' (bS.trans x') qd)
end
theorem lB.cls(F:lB B)(hk:k<3):∃f,jd B (gn k) f:=by
 cases k with
 |zero=>show⟨_,F.c0⟩
 |succ k=>cases k with
 |zero=>show⟨_,F.c1⟩
 |succ k=>cases k with
 |zero=>show⟨_,F.c2⟩
 |succ k=>show absurd hk (Nat.not_lt.mpr ju)
section
variable{e:Value}{x:fD}{Q:Flow->Shared->Prop}
variable{y:Str}{p:Pos}{rest:List ExceptHandler}{b8:Stmt}
theorem tv{P:Bool->Shared->Prop}(F:lB C.B)(t:At C W J U s)(ho:s.heap.get? a=some o)(hc:o.cls=.ref (gn j))(hj:j<3)(hk:k<3)(hb:b=decide (j=k))(q:P b s):
  wpAny C.B.M A (excMatches (.ref a) (.ref (gn k))) P E s:=by
 show fv (F.cls hk) λf P'=>?_
 obtain⟨nm,qn,N,bs,pre,sn,sub,ab,col,dd,k0,k1,k2,k3,k5,hC⟩:=P'.at_;obtain⟨hh,g,d,tk,os⟩:=s;subst hb;show B6 (t.inv.inK _ _ hC) ho hc (looks_mroIn t.inv.inK (F.sub j k hj hk)) q
theorem sC{nm:Option Str}(F:lB C.B)(c:C.Ok)(t:At C W J U s)(hg:iC C.sc k y=true)(ho:s.heap.get? a=some o)(hc:o.cls=.ref (gn j))(hj:j<3)(hk:k<3)(ne:j≠k)(h:wpAny C.B.M A (handleBy (.ref a) C.fr.env rest) Q E s):wpAny C.B.M A (handleBy (.ref a) C.fr.env (.ExceptHandler (some (.Name y p)) nm body pos::rest)) Q E s:=by
 show wpAny_handleBy_cons (codeAny_handlers_test (xj c t hg (tv (b:=false) F t ho hc hj hk (by simp[ne]) ?_))) (by intro q;injection q);show h
theorem wM(F:lB C.B)(c:C.Ok)(t:At C W J U s)(hg:iC C.sc k y=true)(ho:s.heap.get? a=some o)(hc:o.cls=.ref (gn k))(hk:k<3)(h:wpAny C.B.M (A.mark (some (.ref a))) (setFlight (.ref a) none) (λ_ ae=>wpAny C.B.M (A.mark (some (.ref a))) (execs (b8::body) C.fr.env) Q (notedBy C.B.M (A.mark (some (.ref a))) C.fr.env (cameBackBy C.B.M A C.fr.env E)) ae) (notedBy C.B.M (A.mark (some (.ref a))) C.fr.env (cameBackBy C.B.M A C.fr.env E)) s):
  wpAny C.B.M A (handleBy (.ref a) C.fr.env (.ExceptHandler (some (.Name y p)) none (b8::body) pos::rest)) Q E s:=by
 show wpAny_handleBy_cons (codeAny_handlers_test (xj c t hg (tv (b:=true) F t ho hc hk hk (by simp) ?_))) (by intro q;injection q);show codeAny_handlers_suite h
theorem FZ{n:Str}(F:lB C.B)(c:C.Ok)(t:At C W J U s)(hg:iC C.sc k y=true)(ho:s.heap.get? a=some o)(hc:o.cls=.ref (gn k))(hk:k<3)(h:∀E',wpAny C.B.M (A.mark (some (.ref a))) (setFlight (.ref a) none) (λ_ ae=>wpAny C.B.M (A.mark (some (.ref a))) (storeName C.fr.env n (.ref a)) (λ_ aq=>
   wpAny C.B.M (A.mark (some (.ref a))) (execs (b8::body) C.fr.env) (λf aI=>wpAny C.B.M A (do bindName C.fr.env n .none;unbindBehindTheSuite C.fr.env n pos) (λ_ aV=>Q f aV) E aI) (λ_ _=>False) aq) E' ae) E' s):
  wpAny C.B.M A (handleBy (.ref a) C.fr.env (.ExceptHandler (some (.Name y p)) (some n) (b8::body) pos::rest)) Q E s:=by
 show wpAny_handleBy_cons (codeAny_handlers_test (xj c t hg (tv (b:=true) F t ho hc hk hk (by simp) ?_))) (by intro q;injection q);show codeAny_handlers_suite_as (wpAny_mono (h _) (λ_ ae aM=>wpAny_mono aM (λ_ aq ba=>wpAny_mono ba (λf aI b0=>b0) λ_ _ f=>f.elim) λ_ _ f=>f) λ_ _ f=>f)
end
section
variable{e:Value}{x:fD}{Q:Flow->Shared->Prop}{m m':Str->Option Value}
theorem At.loc(c:C.Ok)(t:At C W J U s)(F:oY C.B C.fr W U s.heap m cm)(hn:h'.Ns C.fr.env.locals m')(hs:Heap.SameBut C.fr.env.locals s.heap h')(hm:∀y∈C.fr.names,m' y=m y):
  At C W J U {s with heap:=h',toks:=n}/\oY C.B C.fr W U h' m' cm/\XB C W s.heap W h':=by
 have F':oY C.B C.fr W U h' m' cm:=by
  show⟨hn,F.outι,F.outF,λnm c q=>?_,F.cinj,λi d q=>?_⟩
  ·show iS (F.cell nm c q) ?_;rintro⟨o,e1,e2⟩ q3 q4 q5;show⟨⟨o,(hs.2 c q5).trans e1,e2⟩,q3,q4,q5⟩
  ·show jE (F.vars i d q) λy v e1 e2 r=>?_
   show⟨y,v,e1,?_,r⟩;unfold jD at e2 ⊢;rwa[hm y (List.mem_of_getElem? e1)];show e2
 have hd:∃o',h'.get? C.fr.env.locals=some o'/\∀vs,o'.data≠.fields vs:=by
  show zb hn λo' es ep q1 q2 _=>?_
  show⟨o',q1,by intro vs w;rw[q2] at w;injection w⟩
 show⟨⟨t.e.other c.newL hs,t.inv.other hs F.outF F.outι λ_ _ _=>hd,⟨t.rest.gens,t.rest.os⟩,⟨m',cm,F'⟩⟩,F',.same hs (.inl rfl) ?_⟩;show d6 hd λo' q1 _=>?_
 rwa[q1];rfl
theorem gH.same{h0:Heap}{m:Str->Option Value}(r:gH B W h0 h e x)(hL:h.Ns L m)(s:Heap.SameBut L h h'):gH B W h0 h' e x:=by
 obtain⟨a,o,vs,dx,od,kvs,rfl,n0,ho,hc,hd,aQ,hF,hlow,htr,hdict,hdx,hod,hx⟩:=r;show zb hL λoL es ep l1 l2 _=>?_
 have ne:∀b ob ws,h.get? b=some ob->ob.data=.fields ws->b≠L:=by
  intro b ob ws q1 q2 w;rw[w,l1] at q1;injection q1 with q1;subst q1
  rw[l2] at q2;injection q2
 show⟨a,o,vs,dx,od,kvs,rfl,n0,(s.2 a (ne a o vs ho hd)).trans ho,hc,hd,aQ,hF,hlow,?_,hdict,hdx,hod,hx⟩;rcases htr with h1|⟨T,oT,ts,h1,nT,hTe,hT,hdT,h3,aW,hTF⟩
 ·show .inl h1
 ·show .inr ⟨T,oT,ts,h1,nT,hTe,(s.2 T (ne T oT ts hT hdT)).trans hT,hdT,h3,aW,hTF⟩
theorem Hd.loc(c:C.Ok)(d:Hd C W s ao ah U e x ae)(F:oY C.B C.fr ao U ae.heap m cm)(hn:h'.Ns C.fr.env.locals m')(hs:Heap.SameBut C.fr.env.locals ae.heap h')(hm:∀y∈C.fr.names,m' y=m y):
  Hd C W s ao ah U e x {ae with heap:=h',toks:=n}/\oY C.B C.fr ao U h' m' cm:=by
 show gp (d.at_.loc c F (n:=n) hn hs hm) λt f b=>?_
 show⟨⟨t,d.xb.trans b,d.ex.same F.ns hs⟩,f⟩
theorem Gh{w:World}{K:Frag}{x C:Addr}{ox:Obj}{od:Option Obj}{expr:Bool}{Q:Value->Shared->Prop}{v:Value}(Y:K.In s.heap)(I:InstAt s.heap x ox C od)(hga:findIn K (.ref C) "__getattribute__" =some (some (.builtin "BaseException.__getattribute__")))(hgt:findIn K (.ref C) "__getattr__" =some none)(hb:mroIn K C (.type "BaseException")=some true)(hf:findObj K C od name=some (.value v))(hh:handedIn v=true)(h:Q v {s with toks:=s.toks+1}):wpAny (model prog w) A (getAttr (.ref x) name expr) Q E s:=by
 have T:=I.type (M:=model prog w);have sl:=F.excAttr_ValueError.ga;show wpAny_bind (wpAny_mkText (wpAny_holding (wpAny_bind (T _ _ _ _ (λ_ _ e=>e) (wpAny_bind (looks_findIn Y hga _ _ _ _ (λ_ _ e=>e) ?_))))));dsimp only;rwa[(show(onTheHeap (Value.ref C)&&Value.builtin "BaseException.__getattribute__" ==Value.builtin "object.__getattribute__")=false from by rw[show(Value.builtin "BaseException.__getattribute__" ==Value.builtin "object.__getattribute__")=false from by decide+kernel,Bool.and_false]),if_neg (dt rfl)];show wpAny_bind (looks_hook (mc:=.ref C) Y (r:=none) (by rwa[if_pos (by rfl)];show hgt) _ _ _ _ (λ_ _ e=>e) (wpAny_bind (wpAny_attempt (wpAny_holding ?_))));unfold callGetattribute;rwa[(show(expr&&onTheHeap (Value.builtin "BaseException.__getattribute__"))=false from Bool.and_false _),if_neg (dt rfl)];unfold boundAndCalled;rwa[sl.bind ..];show wpAny_bind (wpAny_pure ?_);show wpAny _ _ (call (.builtin "BaseException.__getattribute__") [.ref x,.str name s.toks]) _ _ _
 show wpAny_call ?_;show codeAny_call_builtin sl.plain PySem.F.entry_bexc_ga ?_;show @check_slot (model prog w) _ _ {s with toks:=s.toks+1} "BaseException.__getattribute__" "BaseException" "__getattribute__" (.ref x) [.str name s.toks] [] _ (by decide+kernel) (by decide+kernel) (T.andThen (looks_mroIn Y hb)) (PySem.F.args_bexc_ga _ _) ?_;obtain L1:=looks_find (M:=model prog w) Y I hf;unfold Builtin.«object.__getattribute__»;show wpAny_bind (wpAny_pure ?_);show wpAny_bind (wpAny_pure (wpAny_bind (T _ _ _ _ (λ_ _ e=>e) (wpAny_bind (L1 _ _ _ _ (λ_ _ e=>e) ?_)))));show wpAny_pure ?_;show wpAny _ _ (handedOut v) _ _ _
 rwa[handedOut_of hh];show wpAny_pure h
theorem D3{B:eD}{stk:List Env}{fr:Fx}{W₀:Wd}{h₀:Heap}{v:V}{er:Str}{p p2:Pos}{Q:V->Hp->Prop}{X:fD->Hp->Prop}(F:lB B)(hI:ef B stk W J s.heap)(hk:fr.env.scope.kind=.function)(hl:fr.env.kindOf er=some .local)(hdb:(er==("__debug__" :Str))=false)
  (hn:s.heap.Ns fr.env.locals m) (hm:m er=some e) (ex:gH B W₀ h₀ s.heap e (.throw v)) (hF:∀a o,W₀.F a=some o->W.F a=some o) (hr:∀u,W₀.Rep B v u->W.Rep B v u) (q:Q v J):
  d5 B A stk W s (eval (.Attribute (.Name er p) "value" p2) fr.env) (RV B Q) X:=by
 obtain⟨a,o,vs,dx,od,kvs,rfl,n0,ho,hc,hd,aQ,hFa,hlow,htr,hdict,hdx,hod,u,hu,ru⟩:=ex;rwa[arm_eval_Attribute ..];obtain e1:attributeBase (.Name er p) "value" fr.env (eval (.Name er p) fr.env)=eval (.Name er p) fr.env:=rfl;rwa[e1];obtain hdx':=hI.frozen _ _ (hF _ _ hdx);obtain I:InstAt s.heap a o fN (some od):=by
  obtain⟨oc,od',oda,osl⟩:=o;dsimp only at hc hd hdict;subst hdict hd;show⟨ho,hc,rfl,hdx'⟩
 obtain hl':lookIn ("value" :Str) od=some (some u):=by
  rwa[sq (B:=B) hod];show congrArg some hu
 obtain hown:findIn B.K (.ref fN) ("value" :Str)=some none:=by rwa[HS.symm];show F.own
 obtain g:d5 B A stk W s (getAttr (.ref a) "value" true) (RV B Q) X:=Gh hI.inK I F.ga F.gt F.be (findObj_own F.hd hown rfl hl') (v7 (hr u ru)) (eM hI ⟨_,hr u ru,q⟩);obtain fin:d5 B A stk W s (standAt p2.atName>>=λ_=>holding [.ref a] (getAttr (.ref a) "value" true)>>=λr=>letTemporaryGo (.Name er p) (.ref a) r>>=λ_=>pure r) (RV B Q) X:=
  d5.at (d5.bind (d5.hold g) λv aq ay au aw aE aO bQ=>wpAny_bind (wpAny_letTemporaryGo (d5.pure aE bQ)))
 show wpAny_bind (wpAny_Name (wpAny_loadName_local hk hl hn hm fin) hdb)
end
section
variable{e:Value}{x:fD}{m m':Str->Option Value}
theorem gH.ext{h0:Heap}{S:List Addr}(r:gH B W h0 h e x)(u:eA S W h W' h')(nf:∀a o vs,h.get? a=some o->o.data=.fields vs->a∉S):gH B W' h0 h' e x:=by
 obtain⟨a,o,vs,dx,od,kvs,rfl,n0,ho,hc,hd,aQ,hF,hlow,htr,hdict,hdx,hod,hx⟩:=r;show⟨a,o,vs,dx,od,kvs,rfl,n0,u.exact_ ho aQ (nf a o vs ho hd),hc,hd,u.outι ho aQ,u.outF ho aQ hF,hlow,?_,hdict,u.F _ _ hdx,hod,?_⟩
 ·rcases htr with h1|⟨T,oT,ts,h1,nT,hTe,hT,hdT,h3,aW,hTF⟩
  ·show .inl h1
  ·show .inr ⟨T,oT,ts,h1,nT,hTe,u.exact_ hT aW (nf T oT ts hT hdT),hdT,h3,u.outι hT aW,u.outF hT aW hTF⟩
 ·cases x with
  |throw v=>show d6 hx λw h1 h2=>?_;show⟨w,h1,u.rep h2⟩
  |_=>trivial
theorem vL{y:Str}{p:Pos}{k1 k2:Nat}{p1 p2:Pos}{P:Flow->Shared->Prop}(c:C.Ok)(d:Hd C W s ao ah U e x ae)(hst:fR C.ns C.sc i y=true)(hl:gd l)(hP:∀W' s',At C W' ah (U.set i (some (.tup [.str l,.none]))) s'->XB C W s.heap W' s'.heap->P .next s'):
  wpAny C.B.M A (execs [.Assign [.Name y p] (.Tuple [.Constant (.str (sv l)) k1 p1,.Constant .none k2 p2] kk tp) pos] C.fr.env) P E ae:=by
 have ar:jk C.B A C.stk ao ae C.fr.env [.Constant (.str (sv l)) k1 p1,.Constant .none k2 p2] (λQ=>Q [.str l,.none] ah) (λ_ _=>False):=
  l5 (wp1:=λQ=>Q (.str l) ah) (wp2:=λaa Q=>Q [.none] aa) rfl (λQ q=>((DL d.at_.inv hl) Q).1 q) (λs' W' aa e i=>l5 (wp1:=λQ=>Q .none aa) (wp2:=λaf Q=>Q [] af) rfl (λQ q=>((ET i) Q).1 q) (λs'' W'' af e' i'=>uX i') (λ_=>rfl)) (λ_=>rfl)
 have hv:=((EI (B:=C.B) (A:=A) (stk:=C.stk) (W:=ao) (s:=ae) (env:=C.fr.env) (k:=kk) (pos:=tp) (X:=λ_ _=>False) (by simp) ar) (λdd aa=>dd=.tup [.str l,.none]/\aa=ah)).1 ⟨rfl,rfl⟩;show xF c d.at_ hst rfl (wpAny_mono hv (λ_ _ h=>h) ?_) λW' aa s' dd t' x' q=>?_
 ·rintro e s' ⟨_,_,_,_,_,_,_,f⟩;show f.elim
 ·clear ar hv;obtain⟨rfl,rfl⟩:=q;show hP W' s' t' (d.xb.trans x')
theorem B1{y er:Str}{p:Pos}{k1:Nat}{p1 p2 p3:Pos}{v:V}{P:Flow->Shared->Prop}(F:lB C.B)(c:C.Ok)(d:Hd C W s ao ah U e (.throw v) ae)(hst:fR C.ns C.sc i y=true)(hl:gd l)(hk:C.fr.env.kindOf er=some .local)(hdb:(er==("__debug__" :Str))=false)(hF:oY C.B C.fr ao U ae.heap m cm)(hm:m er=some e)(hP:∀W' s',At C W' ah (U.set i (some (.tup [.str l,v]))) s'->XB C W s.heap W' s'.heap->P .next s'):
  wpAny C.B.M A (execs [.Assign [.Name y p] (.Tuple [.Constant (.str (sv l)) k1 p1,.Attribute (.Name er p3) "value" p2] kk tp) pos] C.fr.env) P E ae:=by
 have ar:jk C.B A C.stk ao ae C.fr.env [.Constant (.str (sv l)) k1 p1,.Attribute (.Name er p3) "value" p2] (λQ=>Q [.str l,v] ah) (λ_ _=>False):=by
  show l5 (wp1:=λQ=>Q (.str l) ah) (wp2:=λaa Q=>Q [v] aa) rfl (λQ q=>((DL d.at_.inv hl) Q).1 q) (λs' W' aa u i=>?_) (λ_=>rfl);show l5 (wp1:=λQ=>Q v aa) (wp2:=λaf Q=>Q [] af) rfl (λQ q=>?_) (λs'' W'' af e' i'=>uX i') (λ_=>rfl);have ex:=d.ex.ext u (λa o vs ho hd=>(d.at_.notFields ho hd).2.2);show D3 F i c.ok.kind hk hdb (Ns.slots hF.ns λo q=>let⟨sl,e',_⟩:=u.keep _ o q hF.outι;⟨sl,e'⟩) hm ex (λ_ _ h=>h) (λ_ h=>h) q
 have hv:=((EI (B:=C.B) (A:=A) (stk:=C.stk) (W:=ao) (s:=ae) (env:=C.fr.env) (k:=kk) (pos:=tp) (X:=λ_ _=>False) (by simp) ar) (λdd aa=>dd=.tup [.str l,v]/\aa=ah)).1 ⟨rfl,rfl⟩;show xF c d.at_ hst rfl (wpAny_mono hv (λ_ _ h=>h) ?_) λW' aa s' dd t' x' q=>?_
 ·rintro e s' ⟨_,_,_,_,_,_,_,f⟩;show f.elim
 ·clear ar hv;obtain⟨rfl,rfl⟩:=q;show hP W' s' t' (d.xb.trans x')
end
theorem SS.try3(F:lB C.B){ex:Ex}:SS C (.try3 i ex l):=by
 intro st W J U s X Q h c t q;show SQ (x:=st) λP fin=>?_
 apply M5 h;intro _ hs _ _ pos2 k1;apply rW k1;intro _ k2;apply iy k2;intro k3;apply iy k3;intro k4;apply oo k4;intro _ v pos k5;apply gG k5;intro y p k6;show iS (b4 k6) λh1 h2 h3 k7=>?_
 apply jR k7;intro e0 _ k8;apply DN k8;intro e1 e2 k9;show gp (b3 k9) λj0 j1 j2=>?_
 apply Ba j0;intro c0 pc0 _ x0 p0 t0 k0 q0 _ pn pa0 kt0 ps0 m0;apply zL m0;intro er m1;show Fu (b5 m1) λm2 hl m3 hdb m4=>?_
 show iS (b4 m4) λg0 s0 m5 okl=>?_
 apply HQ m2;intro _ _;clear m0 m1 m4;obtain rfl:=eq_of_beq m5;apply Ba j1;intro c1 pc1 _ x1 p1 t1 k1 q1 _ _ _ _ _ n0;apply zv n0;intro n1;apply l4 n1;intro _ _ _ n2;show fx (b2 n2) λn3 n4=>?_
 obtain rfl:=ti n3;show gp (b3 n4) λg1 s1 n5=>?_
 clear n0 n1 n4 n2;obtain rfl:=eq_of_beq n5;apply Ba j2;intro c2 pc2 _ x2 p2 t2 k2 q2 _ _ _ _ _ o0;apply zv o0;intro o1;apply l4 o1;intro _ _ _ o2;show fx (b2 o2) λo3 o4=>?_
 obtain rfl:=ti o3;show gp (b3 o4) λg2 s2 o5=>?_
 clear o0 o1 o4 o2;obtain rfl:=eq_of_beq o5;have hl:=eq_of_beq hl;obtain hnot:=(Bool.not_eq_true' ..).mp m3;have hdb:=(Bool.not_eq_true' ..).mp hdb;have hk:C.fr.env.kindOf er=some .local:=by unfold Env.kindOf;rwa[c.scope];show hl
 have hp:(C.fr.env.scope.kind==.class||(C.fr.env.scope.kind==.module&&C.fr.env.locals !=C.fr.env.globals))=false:=by rwa[c.ok.kind];rfl
 have nn:∀z∈C.fr.names,z≠er:=by
  intro z hz w;rw[c.names] at hz;show d6 (List.mem_map.mp hz) λm hm e=>?_
  have:=List.any_eq_false.mp hnot m hm;rw[e,w] at this;simp at this
 show fin _ (wpAny_Try_except ?_);obtain hv:=(((sE ex h2 (t.cx c)) _).1 q);show xF (Qv:=λd aa=>Q .next (U.set i (some d)) aa) c t h1 h3 (wpAny_mono hv (λ_ _ h=>h) ?_) λW' aa s' d t' x' q'=>?_
 ·rintro e ae ⟨ao,ah,x,aS,bc,bJ,dy,aB⟩;show NA (P:=λaI=>wpAny C.B.M C.A (handleBy e C.fr.env _) _ _ aI) c.hA.frames c.frame aS bc dy λh' aw aE dA=>?_
  obtain aO:gc s {ae with heap:=h'}:=⟨bJ.gens,bJ.os⟩;have d:Hd C W s ao ah U e x {ae with heap:=h'}:=⟨t.step c aw aE aO,XB.of aE aw,dA⟩;have hs0:∀b,s.heap.get? b=none->C.s₀.heap.get? b=none:=λb n=>eA.fresh t.e t.inv b n
  obtain⟨a,o,vs,dx,od,kvs,rfl,n0,ho,hc,hd,_⟩:=id d.ex;cases x with
  |throw u=>
   show FZ (k:=0) F c d.at_ g0 ho hc (dt rfl) λE'=>d.flight hs0 λba br=>?_
   show jb br.at_.fr λm cm Fr=>?_
   show wpAny_storeName_local hk Fr.ns (λb0 dB bp=>?_) hp;obtain⟨b7,dO⟩:=br.loc c Fr (n:=_) dB bp (λz hz=>if_neg (nn z hz));show B1 F c b7 s0 (wF okl) hk hdb dO (if_pos rfl) λW' s' t' x'=>?_
   show jb t'.fr λm' cm' Fr'=>?_
   show wpAny_nameGoes_keeps hk Fr'.ns hp λd0 w dE dG=>?_
   obtain⟨dP,_,cB⟩:=t'.loc c Fr' (n:=_) dE dG (λz hz=>if_neg (nn z hz));show⟨W',ah,_,dP,x'.trans cB,.next,trivial,aB⟩
  |num=>
   show sC (k:=0) (j:=1) F c d.at_ g0 ho hc (dt rfl) (dt rfl) (dt rfl) ?_;show wM (k:=1) F c d.at_ g1 ho hc (dt rfl) (d.flight hs0 λba br=>?_);show vL c br s1 (wF (by decide+kernel)) λW' s' t' x'=>⟨W',ah,_,t',x',.next,trivial,aB⟩
  |host=>
   show sC (k:=0) (j:=2) F c d.at_ g0 ho hc (dt rfl) (dt rfl) (dt rfl) ?_;show sC (k:=1) (j:=2) F c d.at_ g1 ho hc (dt rfl) (dt rfl) (dt rfl) ?_;show wM (k:=2) F c d.at_ g2 ho hc (dt rfl) (d.flight hs0 λba br=>?_);show vL c br s2 (wF (by decide+kernel)) λW' s' t' x'=>⟨W',ah,_,t',x',.next,trivial,aB⟩
 ·show wpAny_pure ⟨W',aa,_,t',x',.next,trivial,q'⟩
theorem raises(F:lB C.B):xc C:=⟨λ_ _=>SS.raise F,λ_ _ _=>SS.try3 F⟩
structure d8(B:eD):Prop where
 good:o6 B
 exc:lB B
 fns:∀r∈FT,pz B r.1 r.2.1 r.2.2.1 r.2.2.2
 init0:∀C∈[sG,ph,oZ,s9,kL,xK,tg],findIn B.K (.ref C) "__init__" =some (some (.builtin "object.__init__"))
def fe(Q:V->Hp->Prop):Fl->ew->Hp->Prop:=λfl _ aa=>match fl with|.next=>Q .none aa|.ret d=>Q d aa
section
variable{args:List V}
theorem d8.code(T:d8 B){ns:List (List Nat)}{b:eu}(hm:(a,ns,np,b)∈FT)(hn:args.length=np)(h:eH B n X b (iY np ns args) J (fe Q)):mU B (n+1) a args J Q X:=
 EW T.good (Kj B) (λC e=>raises (by rwa[e];show T.exc)) (T.fns _ hm) hn h
theorem d8.call(T:d8 B){ns:List (List Nat)}{b:eu}(hm:(a,ns,np,b)∈FT)(hn:args.length=np)(h:eH B n X b (iY np ns args) J (fe Q)):d7 B (n+1) a args J Q X:=(T.code hm hn h).call
theorem d8.make(T:d8 B){C f:Addr}{ns:List (List Nat)}{b:eu}(hi:(C,qK,f)∈mR)(hC:∃q,(C,q)∈jP)(hm:(f,ns,np,b)∈FT)(hn:args.length+1=np)(h:eH B n X b (iY np ns (.inst C J.length::args)) (J++[.sd []]) (fe λd aa=>d=.none/\Q (.inst C J.length) aa)):d7 B (n+2) C args J Q X:=
 (y3 hi hC (T.code hm (by simpa using hn) h)).call
end
section
noncomputable def eS(d:V)(k:List Nat->Option β):Option β:=match d with|.str l=>k l|_=>none
noncomputable def eI(d:V)(k:Int->Option β):Option β:=match d with|.int l=>k l|_=>none
noncomputable def Bi(d:V)(k:Nat->Option β):Option β:=match d with|.loc l=>k l|_=>none
noncomputable def LL(x:Option fA)(k:List V->Option β):Option β:=match x with|some (.lst l)=>k l|_=>none
noncomputable def ER(x:Option fA)(k:List (List Nat×V)->Option β):Option β:=match x with|some (.sd l)=>k l|_=>none
noncomputable def LA(x:Option fA)(k:List (Int×V)->Option β):Option β:=match x with|some (.nd l)=>k l|_=>none
noncomputable def e1(ds:List V)(k:V->Option β):Option β:=match ds with|[v]=>k v|_=>none
noncomputable def C6(ds:List V)(k:V->Option β)(k':V->V->Option β):Option β:=match ds with|[v]=>k v|[v,w]=>k' v w|_=>none
theorem Ht{k:List Nat->Option β}{b:β}(h:eS d k=some b)(g:∀l,d=.str l->k l=some b->G):G:=by cases d<;>first|show g _ rfl h|show eC h
theorem hV{k:Int->Option β}{b:β}(h:eI d k=some b)(g:∀l,d=.int l->k l=some b->G):G:=by cases d<;>first|show g _ rfl h|show eC h
theorem wu{k:Nat->Option β}{b:β}(h:Bi d k=some b)(g:∀l,d=.loc l->k l=some b->G):G:=by cases d<;>first|show g _ rfl h|show eC h
theorem JC{x}{k:List V->Option β}{b:β}(h:LL x k=some b)(g:∀l,x=some (.lst l)->k l=some b->G):G:=by
 cases x with
 |none=>show eC h
 |some x=>cases x<;>first|show g _ rfl h|show eC h
theorem zI{x}{k:List (List Nat×V)->Option β}{b:β}(h:ER x k=some b)(g:∀l,x=some (.sd l)->k l=some b->G):G:=by
 cases x with
 |none=>show eC h
 |some x=>cases x<;>first|show g _ rfl h|show eC h
theorem Jh{x}{k:List (Int×V)->Option β}{b:β}(h:LA x k=some b)(g:∀l,x=some (.nd l)->k l=some b->G):G:=by
 cases x with
 |none=>show eC h
 |some x=>cases x<;>first|show g _ rfl h|show eC h
theorem OM{ds:List V}{k:V->Option β}{k'}{b:β}(h:C6 ds k k'=some b)(g:∀v,ds=[v]->k v=some b->G)(g':∀v w,ds=[v,w]->k' v w=some b->G):G:=by
 cases ds with
 |nil=>show eC h
 |cons v ds=>cases ds with
  |nil=>show g _ rfl h
  |cons w ds=>cases ds with
   |nil=>show g' _ _ rfl h
   |cons=>show eC h
theorem LN{ds:List V}{k:V->Option β}{b:β}(h:e1 ds k=some b)(g:∀v,ds=[v]->k v=some b->G):G:=by
 cases ds with
 |nil=>show eC h
 |cons v ds=>cases ds with
  |nil=>show g _ rfl h
  |cons=>show eC h
theorem gN{k i}(e:d=.int i)(h:k i):gI d k:=by rwa[e];show h
theorem Gb{k i}(e:d=.str i)(h:k i):iP d k:=by rwa[e];show h
theorem zV{k i}(e:d=.loc i)(h:k i):kW d k:=by rwa[e];show h
theorem vu{k C x}(e:d=.inst C x)(h:k C x):tW d k:=by rwa[e];show h
theorem LU{d:List V}{k i}(e:d=[i])(h:k i):l6 d k:=by rwa[e];show h
theorem zC{a:V}(h:some a=some d)(q:Q d J):Q a J:=by injection h with h;subst h;show q
theorem mV{a d:Bool}(h:some a=some d)(q:Q (.bool d) J):Q (.bool a) J:=by injection h with h;subst h;show q
theorem lY{a:V}(h:some (a,J)=some (d,aa))(q:Q d aa):Q a J:=by cases h;show q
theorem EG{Q:Hp->Prop}(h:J=aa)(q:Q aa):Q J:=by rwa[h];show q
end
noncomputable def Jq(op:BO)(a b:V):Option V:=match op with
 |.add=>eI a λx=>eI b λy=>some (.int (x+y))
 |.sub=>eI a λx=>eI b λy=>some (.int (x-y))
 |.fdiv=>eI a λx=>eI b λy=>if 0<y/\y<2^30 then some (.int (x/y)) else none
 |.mod=>eI a λx=>eI b λy=>if 0<y then some (.int (x%y)) else none
 |_=>none
theorem HK{a b r:V}(h:Jq op a b=some r)(q:Q r J):gR op a b J Q:=by
 cases op with
 |add=>show hV h λx hx g=>hV g λy hy g=>by clear h;subst hx hy;show zC g q
 |sub=>show hV h λx hx g=>hV g λy hy g=>gN hx (gN hy (zC g q))
 |fdiv=>show hV h λx hx g=>hV g λy hy g=>let⟨c,g⟩:=j8 g;gN hx (gN hy ⟨c.1,by omega,zC (congrArg some g) q⟩)
 |mod=>show hV h λx hx g=>hV g λy hy g=>let⟨c,g⟩:=j8 g;gN hx (gN hy ⟨c,zC (congrArg some g) q⟩)
 |_=>show eC h
noncomputable def Nj(a b:V)(k:Int->Int->Bool)(k':List Nat->List Nat->Bool):Option Bool:=match a with
 |.int x=>eI b λy=>some (k x y)
 |a=>eS a λx=>eS b λy=>some (k' x y)
theorem I7{a b:V}{k k'}{r:Bool}(h:Nj a b k k'=some r)(g:∀x y,a=.int x->b=.int y->some (k x y)=some r->G)(g':∀x y,a=.str x->b=.str y->some (k' x y)=some r->G):G:=by
 cases a with
 |int x=>show hV h λy hy h=>g x y rfl hy h
 |str x=>show Ht (d:=b) (k:=λy=>some (k' x y)) h λy hy h=>g' x y rfl hy h
 |_=>show eC h
noncomputable def QH(a:V):V->Option Bool
 |.none=>yh a
 |_=>none
noncomputable def Ja(op:CO)(a b:V)(J:Hp):Option Bool:=match op with
 |.lt=>eI a λx=>eI b λy=>some (decide (x<y))
 |.le=>eI a λx=>eI b λy=>some (decide (x<=y))
 |.gt=>eI a λx=>eI b λy=>some (decide (y<x))
 |.ge=>eI a λx=>eI b λy=>some (decide (y<=x))
 |.eq=>Nj a b (λx y=>decide (x=y)) λx y=>x==y
 |.ne=>Nj a b (λx y=>decide (x≠y)) λx y=>x !=y
 |.is=>QH a b
 |.in_=>oG a b J
 |.nin=>(oG a b J).map (!·)
 |_=>none
theorem g8{o:Option α}{a:α}{k:α->Prop}(e:o=some a)(h:k a):fj o k:=by subst e;show h
theorem L4{a b:V}{k k' x y}(hx:a=.int x)(hy:b=.int y)(h:k x y):H0 a b k k':=by rwa[hx,hy];show h
theorem CF{a b:V}{J k k' k'' x y}(hx:a=.int x)(hy:b=.int y)(h:k x y):vJ a b J k k' k'':=by rwa[hx,hy];show h
theorem CS{a b:V}{J k k' k'' x y}(hx:a=.str x)(hy:b=.str y)(h:k' x y):vJ a b J k k' k'':=by rwa[hx,hy];show h
theorem IX{op:CO}{a b:V}{r:Bool}(h:Ja op a b J=some r)(q:Q (.bool r) J):fa op a b J Q:=by
 cases op with
 |lt=>show hV h λx hx g=>hV g λy hy g=>gN hx (gN hy (mV g q))
 |le=>show hV h λx hx g=>hV g λy hy g=>L4 hx hy (mV g q)
 |gt=>show hV h λx hx g=>hV g λy hy g=>gN hx (gN hy (mV g q))
 |ge=>show hV h λx hx g=>hV g λy hy g=>gN hx (gN hy (mV g q))
 |eq=>show I7 h (λx y hx hy g=>CF hx hy (mV g q)) λx y hx hy g=>CS hx hy (mV g q)
 |ne=>show I7 h (λx y hx hy g=>CF hx hy (mV g q)) λx y hx hy g=>CS hx hy (mV g q)
 |is=>cases b with
  |none=>show g8 h q
  |_=>show eC h
 |in_=>show g8 h q
 |nin=>show let⟨b',h1,h2⟩:=Option.map_eq_some_iff.mp h;g8 h1 (mV (congrArg some h2) q)
 |isn=>show eC h
noncomputable def As(k:Int)(xs:List V):Option V:=if 0<=k then xs[k.toNat]? else(iM k xs.length).bind λj=>xs[j]?
theorem FD{k:Int}:As k xs=(iM k xs.length).bind λj=>xs[j]?:=by
 unfold As
 split
 ·rename_i h;unfold iM;rwa[if_pos h]
  by_cases h2:k<xs.length
  ·rwa[if_pos h2];rfl
  ·rwa[if_neg h2,List.getElem?_eq_none (by simp_all)];rfl
 ·rfl
noncomputable def Fq(x:Option fA)(i:V):Option V:=match x with
 |some (.lst xs)=>eI i λk=>As k xs
 |some (.sd kvs)=>eS i λk=>eY kvs k
 |some (.nd kvs)=>eI i λk=>fP kvs k
 |_=>none
noncomputable def Jk(a i:V)(J:Hp):Option V:=match a with
 |.tup xs=>eI i λk=>As k xs
 |.lst xs=>eI i λk=>As k xs
 |.sdct kvs=>eS i λk=>eY kvs k
 |.loc l=>Fq J[l]? i
 |_=>none
theorem vA{i r:V}(h:(eI i λk=>As k xs)=some r)(q:Q r J):tB xs i J Q:=hV h λk hk g=>gN hk (g8 (FD▸g) q)
theorem KZ{x:Option fA}{i r:V}(h:Fq x i=some r)(q:Q r J):Eg x i J Q:=by
 cases x with
 |none=>show eC h
 |some x=>cases x with
  |lst xs=>show vA h q
  |sd kvs=>show Ht h λk hk g=>Gb hk (g8 g q)
  |nd kvs=>show hV h λk hk g=>gN hk (g8 g q)
  |dead=>show eC h
theorem Hu{a i r:V}(h:Jk a i J=some r)(q:Q r J):eO a i J Q:=by
 cases a with
 |tup xs=>show vA h q
 |lst xs=>show vA h q
 |sdct kvs=>show Ht h λk hk g=>Gb hk (g8 g q)
 |loc l=>show KZ h q
 |_=>show eC h
noncomputable def w9(c:Bool)(k:Option β):Option β:=match c with|true=>k|false=>none
theorem vX{c:Bool}{k:Option β}{d:β}(h:w9 c k=some d)(g:c=true->k=some d->G):G:=by
 cases c with
 |true=>show g rfl h
 |false=>show eC h
noncomputable def JD(d:V)(k:Addr->Nat->Option β):Option β:=match d with|.inst C x=>k C x|_=>none
theorem Et{k:Addr->Nat->Option β}{c:β}(h:JD d k=some c)(g:∀C x,d=.inst C x->k C x=some c->G):G:=by cases d<;>first|show g _ _ rfl h|show eC h
theorem Dj{b k}(e:b=true)(h:k):yc b k:=by rwa[e];show h
noncomputable def IZ(a:V)(m:List Nat)(J:Hp):Option V:=JD a λC d=>w9 (i4 C m) (ER J[d]? λkvs=>eY kvs m)
theorem Ic{a r:V}{m:List Nat}(h:IZ a m J=some r)(q:Q r J):fy a m J Q:=
 Et h λC d hd g=>vX g λe1 g=>zI g λkvs e2 g=>vu hd (Dj e1 (tT e2 (g8 g q)))
noncomputable def Ng(m:BM)(o:V)(args:List V)(J:Hp):Option (V×Hp):=match m with
 |.append=>Bi o λk=>e1 args λv=>LL J[k]? λl=>if l.length<=1000000 then some (.none,J.set k (.lst (l++[v]))) else none
 |.get=>Bi o λl=>LA J[l]? λkvs=>C6 args (λa=>eI a λk=>some ((fP kvs k).getD .none,J)) λa d=>eI a λk=>some ((fP kvs k).getD d,J)
 |_=>none
theorem JU{m:BM}{o r:V}{args:List V}(h:Ng m o args J=some (r,aa))(q:Q r aa):gq m o args J Q:=by
 cases m with
 |append=>show wu h λk hk g=>LN g λv hv g=>JC g λl e g=>let⟨c,g⟩:=j8 g;zV hk (LU hv (C7 e ⟨c,lY (congrArg some g) q⟩))
 |get=>
  show wu h λk hk g=>Jh g λl e g=>?_
  subst hk;show CV e (OM g (λa ha g=>by clear h;subst ha;show hV g λi hi g=>gN hi (lY g q)) λa d ha g=>by clear h;subst ha;show hV g λi hi g=>gN hi (lY g q))
 |_=>show eC h
noncomputable def GD(o k v:V)(J:Hp):Option Hp:=Bi o λl=>match k with
 |.str k=>ER J[l]? λkvs=>if kvs.length<=10000 then some (J.set l (.sd (mL kvs k v))) else none
 |.int k=>LA J[l]? λkvs=>if kvs.length<=10000 then some (J.set l (.nd (jr kvs k v))) else none
 |_=>none
theorem Fg{o k v:V}{Q:Hp->Prop}(h:GD o k v J=some aa)(q:Q aa):iu o k v J Q:=by
 show wu h λl hl g=>zV hl ?_
 cases k with
 |str k=>show zI g λkvs e g=>let⟨c,g⟩:=j8 g;tT e ⟨c,EG g q⟩
 |int k=>show Jh g λkvs e g=>let⟨c,g⟩:=j8 g;CV e ⟨c,EG g q⟩
 |_=>show eC g
noncomputable def FE(o:V)(m:List Nat)(v:V)(J:Hp):Option Hp:=JD o λC d=>w9 (i4 C m) (ER J[d]? λkvs=>if kvs.length<=500 then some (J.set d (.sd (mL kvs m v))) else none)
theorem Gi{o v:V}{m:List Nat}{Q:Hp->Prop}(h:FE o m v J=some aa)(q:Q aa):mf o m v J Q:=
 Et h λC d hd g=>vX g λe1 g=>zI g λkvs e2 g=>let⟨c,g⟩:=j8 g;vu hd (Dj e1 (tT e2 ⟨c,EG g q⟩))
noncomputable def qZ(a:Addr):Option (List (List Nat)×Nat×eu):=(FT.find? λr=>r.1==a).map (·.2)
noncomputable def ql:List Addr:=[sG,ph,oZ,s9,kL,xK,tg]
section
variable{γ:Type}
noncomputable def oB(o:Option (α×β))(k:α->β->Option γ):Option γ:=match o with|some (a,b)=>k a b|none=>none
theorem gD{o:Option (α×β)}{k:α->β->Option γ}{c:γ}(h:oB o k=some c)(g:∀a b,o=some (a,b)->k a b=some c->G):G:=by
 cases o with
 |none=>show eC h
 |some x=>show g x.1 x.2 rfl h
noncomputable def oM(o:Option α)(k:α->γ):Option γ:=match o with|some a=>some (k a)|none=>none
theorem kR{o:Option α}{k:α->γ}{c:γ}(h:oM o k=some c)(g:∀a,o=some a->some (k a)=some c->G):G:=by
 cases o with
 |none=>show eC h
 |some x=>show g x rfl h
noncomputable def oO(o:Option α)(k:α->Option γ):Option γ:=match o with|some a=>k a|none=>none
theorem Ep{o:Option α}{k:α->Option γ}{c:γ}(h:oO o k=some c)(g:∀a,o=some a->k a=some c->G):G:=by
 cases o with
 |none=>show eC h
 |some x=>show g x rfl h
noncomputable def oT(o:Option (Bool×Hp))(t f:Hp->Option γ):Option γ:=match o with|some (true,J)=>t J|some (false,J)=>f J|none=>none
theorem Iq{o:Option (Bool×Hp)}{t f:Hp->Option γ}{c:γ}(h:oT o t f=some c)(g:∀J,o=some (true,J)->t J=some c->G)(g':∀J,o=some (false,J)->f J=some c->G):G:=by
 cases o with
 |none=>show eC h
 |some x=>obtain⟨b,J⟩:=x;cases b<;>first|show g _ rfl h|show g' _ rfl h
noncomputable def oF(o:Option (Fl×ew×Hp))(t:ew->Hp->Option γ)(f:V->ew->Hp->Option γ):Option γ:=match o with|some (.next,U,J)=>t U J|some (.ret d,U,J)=>f d U J|none=>none
theorem AK{o:Option (Fl×ew×Hp)}{t:ew->Hp->Option γ}{f:V->ew->Hp->Option γ}{c:γ}(h:oF o t f=some c)(g:∀U J,o=some (.next,U,J)->t U J=some c->G)(g':∀d U J,o=some (.ret d,U,J)->f d U J=some c->G):G:=by
 cases o with
 |none=>show eC h
 |some x=>obtain⟨b,U,J⟩:=x;cases b<;>first|show g _ _ rfl h|show g' _ _ _ rfl h
end
section
noncomputable def oJ(o:Option (Option V))(k:V->Option (V×Hp)):Option (V×Hp):=match o with|some (some d)=>k d|_=>none
theorem Qz{o k c}(h:oJ o k=some c)(g:∀d,o=some (some d)->k d=some c->G):G:=by
 cases o with
 |none=>show eC h
 |some x=>cases x with
  |none=>show eC h
  |some d=>show g d rfl h
noncomputable def Ag(ks:List (List Nat))(es:gz)(J:Hp):Option (V×Hp):=match ks with
 |[]=>(match es with|.nil=>some (.loc J.length,J++[.sd []])|_=>none)
 |_=>none
theorem N0{ks es J c}(h:Ag ks es J=some c)(g:ks=[]->es=.nil->some (V.loc J.length,J++[.sd []])=some c->G):G:=by
 cases ks with
 |cons=>show eC h
 |nil=>cases es with
  |nil=>show g rfl rfl h
  |cons=>show eC h
noncomputable def oX(x:Option (List V×Option Nat))(k:List V->Option (Fl×ew×Hp)):Option (Fl×ew×Hp):=match x with|some (xs,none)=>k xs|_=>none
theorem NJ{x k c}(h:oX x k=some c)(g:∀xs,x=some (xs,none)->k xs=some c->G):G:=by
 cases x with
 |none=>show eC h
 |some x=>obtain⟨xs,y⟩:=x;cases y with
  |none=>show g xs rfl h
  |some y=>show eC h
noncomputable def vP(ds:List V)(k:Option (V×Hp)):Option (V×Hp):=match ds with|[]=>k|_=>none
theorem KX{ds k c}(h:vP ds k=some c)(g:ds=[]->k=some c->G):G:=by
 cases ds with
 |nil=>show g rfl h
 |cons=>show eC h
noncomputable def Fi(d:V)(k:Option (V×Hp)):Option (V×Hp):=match d with|.none=>k|_=>none
theorem Oa{d k c}(h:Fi d k=some c)(g:d=.none->k=some c->G):G:=by cases d<;>first|show g rfl h|show eC h
end
mutual
noncomputable def gQ:Nat->Nat->Ex->ew->Hp->Option (V×Hp)
 |_,0,_,_,_=>none
 |n,k+1,e,U,J=>match e with
  |.none=>some (.none,J)
  |.bool b=>some (.bool b,J)
  |.int i=>some (.int i,J)
  |.str l=>some (.str l,J)
  |.lv i=>oJ U[i]? λd=>some (d,J)
  |.gv _ d=>some (d,J)
  |.tup es=>oM (pe n k es U J) λr=>(.tup r.1,r.2)
  |.lstF es=>oM (pe n k es U J) λr=>(.lst r.1,r.2)
  |.lstT es=>oM (pe n k es U J) λr=>(.loc r.2.length,r.2++[.lst r.1])
  |.sdT ks es=>Ag ks es J
  |.ndT=>some (.loc J.length,J++[.nd []])
  |.bin op a b=>oB (gQ n k a U J) λx aj=>oB (gQ n k b U aj) λy aG=>oM (Jq op x y) λr=>(r,aG)
  |.neg a=>oB (gQ n k a U J) λx aj=>eI x λi=>some (.int (-i),aj)
  |.cmp op a b=>oB (gQ n k a U J) λx aj=>oB (gQ n k b U aj) λy aG=>oM (Ja op x y aG) λr=>(.bool r,aG)
  |.bop c es=>DB n k c es U J
  |.not a=>oB (gQ n k a U J) λd aj=>oM (truthy d aj) λb=>(.bool (!b),aj)
  |.ite c a b=>oT (Gw n k c U J) (λaj=>gQ n k a U aj) λaj=>gQ n k b U aj
  |.sub a b=>oB (gQ n k a U J) λx aj=>oB (gQ n k b U aj) λy aG=>oM (Jk x y aG) λr=>(r,aG)
  |.att a m=>oB (gQ n k a U J) λx aj=>oM (IZ x m aj) λr=>(r,aj)
  |.call _ a es=>oB (pe n k es U J) λds aj=>fz n k a ds aj
  |.callB .len es=>oB (pe n k es U J) λds aj=>e1 ds λd=>Bi d λl=>LL aj[l]? λxs=>some (.int xs.length,aj)
  |.methB o m es=>oB (gQ n k o U J) λd aj=>w9 (lC m d aj) (oB (pe n k es U aj) λds aG=>Ng m d ds aG)
  |.methP o m es=>oB (gQ n k o U J) λd aj=>JD d λC dx=>oO (iz C m) λf=>ER aj[dx]? λkvs=>w9 (eY kvs m).isNone (oB (pe n k es U aj) λds aG=>fz n k f (.inst C dx::ds) aG)
  |_=>none
termination_by structural _ k=>k
noncomputable def pe:Nat->Nat->gz->ew->Hp->Option (List V×Hp)
 |_,0,_,_,_=>none
 |n,k+1,es,U,J=>match es with
  |.nil=>some ([],J)
  |.cons e r=>oB (gQ n k e U J) λd aj=>oB (pe n k r U aj) λds aG=>some (d::ds,aG)
termination_by structural _ k=>k
noncomputable def Gw:Nat->Nat->Ex->ew->Hp->Option (Bool×Hp)
 |_,0,_,_,_=>none
 |n,k+1,e,U,J=>oB (gQ n k e U J) λd aj=>oM (truthy d aj) λb=>(b,aj)
termination_by structural _ k=>k
noncomputable def DB:Nat->Nat->Bool->gz->ew->Hp->Option (V×Hp)
 |_,0,_,_,_,_=>none
 |n,k+1,c,es,U,J=>match es with
  |.nil=>none
  |.cons e .nil=>gQ n k e U J
  |.cons e r=>oB (gQ n k e U J) λd aj=>oO (truthy d aj) λb=>if b=c then DB n k c r U aj else some (d,aj)
termination_by structural _ k=>k
noncomputable def fz:Nat->Nat->Addr->List V->Hp->Option (V×Hp)
 |_,0,_,_,_=>none
 |0,_+1,_,_,_=>none
 |n+1,k+1,a,ds,J=>match qZ a with
  |some (ns,np,b)=>w9 (decide (ds.length=np)) (oF (lS n k b (iY np ns ds) J) (λ_ aj=>some (.none,aj)) λd _ aj=>some (d,aj))
  |none=>match ql.contains a with
   |true=>vP ds (some (.inst a J.length,J++[.sd []]))
   |false=>oO (iz a qK) λf=>oB (fz n k f (.inst a J.length::ds) (J++[.sd []])) λd aj=>Fi d (some (.inst a J.length,aj))
termination_by structural _ k=>k
noncomputable def NS:Nat->Nat->St->ew->Hp->Option (Fl×ew×Hp)
 |_,0,_,_,_=>none
 |n,k+1,s,U,J=>match s with
  |.expr e=>oM (gQ n k e U J) λr=>(.next,U,r.2)
  |.asg i e=>oM (gQ n k e U J) λr=>(.next,U.set i (some r.1),r.2)
  |.asgA o m e=>oB (gQ n k e U J) λd aj=>oB (gQ n k o U aj) λod aG=>oM (FE od m d aG) λcF=>(.next,U,cF)
  |.asgS o q e=>oB (gQ n k e U J) λd aj=>oB (gQ n k o U aj) λod aG=>oB (gQ n k q U aG) λkd cF=>oM (GD od kd d cF) λdQ=>(.next,U,dQ)
  |.ite c t f=>oT (Gw n k c U J) (λaj=>lS n k t U aj) λaj=>lS n k f U aj
  |.whl c b=>JE n k c b U J
  |.for1 i it b=>oB (gQ n k it U J) λd aj=>oX (fF d aj) λxs=>wJ n k (λv U=>some (U.set i (some v))) b xs U aj
  |.forT is it b=>oB (gQ n k it U J) λd aj=>oX (fF d aj) λxs=>wJ n k (mT is) b xs U aj
  |.ret e=>oM (gQ n k e U J) λr=>(.ret r.1,U,r.2)
  |_=>none
termination_by structural _ k=>k
noncomputable def lS:Nat->Nat->eu->ew->Hp->Option (Fl×ew×Hp)
 |_,0,_,_,_=>none
 |n,k+1,s,U,J=>match s with
  |.nil=>some (.next,U,J)
  |.cons x r=>oF (NS n k x U J) (λbD aj=>lS n k r bD aj) λd bD aj=>some (.ret d,bD,aj)
termination_by structural _ k=>k
noncomputable def wJ:Nat->Nat->(V->ew->Option ew)->eu->List V->ew->Hp->Option (Fl×ew×Hp)
 |_,0,_,_,_,_,_=>none
 |n,k+1,bind,b,xs,U,J=>match xs with
  |[]=>some (.next,U,J)
  |x::r=>oO (bind x U) λbD=>oF (lS n k b bD J) (λbE aG=>wJ n k bind b r bE aG) λd bE aG=>some (.ret d,bE,aG)
termination_by structural _ k=>k
noncomputable def JE:Nat->Nat->Ex->eu->ew->Hp->Option (Fl×ew×Hp)
 |_,0,_,_,_,_=>none
 |n,k+1,c,b,U,J=>oT (Gw n k c U J) (λaj=>oF (lS n k b U aj) (λbE aG=>JE n k c b bE aG) λd bE aG=>some (.ret d,bE,aG)) λaj=>some (.next,U,aj)
termination_by structural _ k=>k
end
structure lF(B:eD)(k:Nat):Prop where
 x:∀{n e U J d aa},gQ n k e U J=some (d,aa)->∀X t Q,fin t d aa Q->eg B n X e t U J Q
 xs:∀{n es U J ds aa},pe n k es U J=some (ds,aa)->∀X Q,Q ds aa->fH B n X es U J Q
 t:∀{n e U J b aa},Gw n k e U J=some (b,aa)->∀X Q,Q (.bool b) aa->eg B n X e true U J Q
 bs:∀{n c es U J d aa},DB n k c es U J=some (d,aa)->∀X t Q,fin t d aa Q->mj B n X c es t U J Q
 call:∀{n a ds J d aa},fz n k a ds J=some (d,aa)->∀X (Q:V->Hp->Prop),Q d aa->mU B n a ds J Q X
 s:∀{n s U J fl ag aa},NS n k s U J=some (fl,ag,aa)->∀X Q,Q fl ag aa->gV B n X s U J Q
 ss:∀{n s U J fl ag aa},lS n k s U J=some (fl,ag,aa)->∀X Q,Q fl ag aa->eH B n X s U J Q
 for_:∀{n bind b xs U J fl ag aa},wJ n k bind b xs U J=some (fl,ag,aa)->∀all Q,Q fl ag aa->qO bind none all (λU J K=>eH B n (λ_ _=>False) b U J K) Q xs U J
 w:∀{n c b U J fl ag aa},JE n k c b U J=some (fl,ag,aa)->∀Q,Q fl ag aa->∃m,pP (λU J K=>eg B n (λ_ _=>False) c true U J K) (λU J K=>eH B n (λ_ _=>False) b U J K) Q m U J
theorem GB(B:eD):lF B 0 where
 x h:=eC h
 xs h:=eC h
 t h:=eC h
 bs h:=eC h
 call {n a ds J d aa} h:=by cases n<;>show eC h
 s h:=eC h
 ss h:=eC h
 for_ h:=eC h
 w h:=eC h
section
theorem Oh(I:lF B k){n es U J ds aa}(h:pe n (k+1) es U J=some (ds,aa))(X)(Q:List V->Hp->Prop)(q:Q ds aa):fH B n X es U J Q:=by
 cases es with
 |nil=>cases (show some ([],J)=some (ds,aa) from h);show q
 |cons e r=>show gD h λd aj e1 g=>gD g λes aG e2 g=>I.x e1 X false _ (I.xs e2 X _ (by clear h e2;cases g;show q))
theorem Qo(I:lF B k){n e U J b aa}(h:Gw n (k+1) e U J=some (b,aa))(X)(Q:V->Hp->Prop)(q:Q (.bool b) aa):eg B n X e true U J Q:=
 gD h λd aj e1 g=>kR g λb' h1 h2=>I.x e1 X true _ (jc h1 (by clear e1 g h1;cases h2;show q))
theorem M3(h:Q d J):fin false d J Q:=h
theorem OP(I:lF B k){n c es U J d aa}(h:DB n (k+1) c es U J=some (d,aa))(X)(t:Bool)(Q:V->Hp->Prop)(q:fin t d aa Q):mj B n X c es t U J Q:=by
 cases es with
 |nil=>show eC h
 |cons e r=>
  cases r with
  |nil=>show I.x h X t Q q
  |cons e' r=>
   show gD h λd1 aj e1 g=>Ep g λb hb g=>I.x e1 X t (λd aa=>u3 c d aa (mj B n X c (.cons e' r) t U aa Q) (λd=>Q d aa)) ?_
   cases t with
   |false=>
    show M3 (Eq.mpr (tY (J:=aj)) (jc hb ?_))
    by_cases hc:b=c
    ·rw[if_pos hc] at g ⊢;show I.bs g X false Q q
    ·rw[if_neg hc] at g ⊢;show lY g q
   |true=>
    show jc hb (Eq.mpr (tY (d:=.bool b) (J:=aj)) (jc (a:=b) rfl ?_))
    by_cases hc:b=c
    ·rw[if_pos hc] at g ⊢;show I.bs g X true Q q
    ·rw[if_neg hc] at g ⊢;clear e1;cases g;show d6 (j7 q) λb' hb' q=>?_
     cases hb.symm.trans hb';show q
theorem vt{r:List (List Nat)×Nat×eu}(h:qZ a=some r):(a,r)∈FT:=by
 unfold qZ at h;show d6 (Option.map_eq_some_iff.mp h) λx h1 h2=>?_
 obtain this:=List.find?_some h1;obtain m:=List.mem_of_find?_eq_some h1;obtain⟨y,z⟩:=x;have:y=a:=by simpa using this
 dsimp only at h2;clear h h1;subst this h2;show m
theorem Ka:∀C∈ql,(jP.any λc=>c.1==C)=true:=by decide+kernel
theorem Dt{C:Addr}(h:(jP.any λc=>c.1==C)=true):∃q,(C,q)∈jP:=by
 show d6 (List.any_eq_true.mp h) λx h1 h2=>?_
 obtain⟨y,z⟩:=x;have:y=C:=by simpa using h2
 clear h h2;subst this;show⟨z,h1⟩
theorem HW{n a ds J c ns np b}(hf:qZ a=some (ns,np,b))(h:fz (n+1) (k+1) a ds J=some c):w9 (decide (ds.length=np)) (oF (lS n k b (iY np ns ds) J) (λ_ aj=>some (V.none,aj)) λd _ aj=>some (d,aj))=some c:=by
 have g:(match qZ a with
  |some (ns,np,b)=>w9 (decide (ds.length=np)) (oF (lS n k b (iY np ns ds) J) (λ_ aj=>some (.none,aj)) λd _ aj=>some (d,aj))
  |none=>match ql.contains a with
   |true=>vP ds (some (.inst a J.length,J++[.sd []]))
   |false=>oO (iz a qK) λf=>oB (fz n k f (.inst a J.length::ds) (J++[.sd []])) λd aj=>Fi d (some (.inst a J.length,aj)))=some c:=h
 rw[hf] at g;show g
theorem Hk{n a ds J c}(hf:qZ a=none)(h:fz (n+1) (k+1) a ds J=some c):(match ql.contains a with
   |true=>vP ds (some (V.inst a J.length,J++[.sd []]))
   |false=>oO (iz a qK) λf=>oB (fz n k f (.inst a J.length::ds) (J++[.sd []])) λd aj=>Fi d (some (.inst a J.length,aj)))=some c:=by
 have g:(match qZ a with
  |some (ns,np,b)=>w9 (decide (ds.length=np)) (oF (lS n k b (iY np ns ds) J) (λ_ aj=>some (.none,aj)) λd _ aj=>some (d,aj))
  |none=>match ql.contains a with
   |true=>vP ds (some (.inst a J.length,J++[.sd []]))
   |false=>oO (iz a qK) λf=>oB (fz n k f (.inst a J.length::ds) (J++[.sd []])) λd aj=>Fi d (some (.inst a J.length,aj)))=some c:=h
 rw[hf] at g;show g
theorem Ky(T:d8 B)(I:lF B k){n a ds J d aa}(h:fz n (k+1) a ds J=some (d,aa))(X)(Q:V->Hp->Prop)(q:Q d aa):mU B n a ds J Q X:=by
 cases n with
 |zero=>show eC h
 |succ n=>
  cases hf:qZ a with
  |some r=>
   obtain⟨ns,np,b⟩:=r;show vX (HW hf h) λhl g=>T.code (vt hf) (of_decide_eq_true hl) (AK g (λU aj e1 g=>I.ss e1 X _ (lY (Q:=Q) g q)) λv U aj e1 g=>I.ss e1 X _ (lY (Q:=Q) g q))
  |none=>
   have h:=Hk hf h;cases hi:ql.contains a with
   |true=>
    rw[hi] at h;show KX h λe g=>?_
    clear h;subst e;have hi':a∈ql:=by simpa using hi
    show Eb (T.init0 a hi') (Dt (Ka a hi')) (lY (Q:=Q) g q)
   |false=>
    rw[hi] at h;show Ep h λf hf g=>gD g λv aj e1 g=>Oa g λhv g=>y3 (mO hf).1 (mO hf).2 (I.call e1 X _ ⟨hv,lY (Q:=Q) g q⟩)
end
section
theorem lF.x0(I:lF B k){n e U J d aa}(h:gQ n k e U J=some (d,aa))(X)(Q:V->Hp->Prop)(q:Q d aa):eg B n X e false U J Q:=I.x h X false Q q
theorem gy{t:Bool}{a:V}(h:some (a,J)=some (d,aa))(q:fin t d aa Q):fin t a J Q:=by cases h;show q
theorem Ij{t:Bool}(q:fin t (.bool b) J Q):Q (.bool b) J:=by cases t<;>show q
theorem QN(I:lF B k){n e U J d aa}(h:gQ n (k+1) e U J=some (d,aa))(X)(t:Bool)(Q:V->Hp->Prop)(q:fin t d aa Q):eg B n X e t U J Q:=by
 cases e with
 |none=>show gy h q
 |bool=>show gy h q
 |int=>show gy h q
 |str=>show gy h q
 |lv i=>show Qz h λd e1 g=>LW e1 (gy g q)
 |gv=>show gy h q
 |tup es=>show kR h λr h1 g=>I.xs h1 X _ (gy g q)
 |lstF es=>show kR h λr h1 g=>I.xs h1 X _ (gy g q)
 |lstT es=>show kR h λr h1 g=>I.xs h1 X _ (gy g q)
 |sdT ks es=>show N0 h λe1 e2 g=>by clear h;subst e1 e2;show⟨rfl,.nil,gy g q⟩
 |ndT=>show gy h q
 |bin op a b=>show gD h λx aj e1 g=>gD g λy aG e2 g=>kR g λr h1 g=>I.x0 e1 X _ (I.x0 e2 X _ (HK h1 (gy g q)))
 |neg a=>show gD h λx aj e1 g=>hV g λi hi g=>I.x0 e1 X _ (gN hi (gy g q))
 |cmp op a b=>show gD h λx aj e1 g=>gD g λy aG e2 g=>kR g λr h1 g=>I.x0 e1 X _ (I.x0 e2 X _ (IX h1 (gy g q)))
 |bop c es=>show I.bs h X t Q q
 |not a=>
  show gD h λx aj e1 g=>kR g λb h1 g=>I.x e1 X t _ ?_
  have aB:=Ij (gy g q);cases t with
  |false=>show jc h1 aB
  |true=>show jc h1 (jc (o:=truthy (.bool b) aj) (a:=b) rfl aB)
 |ite c a b=>show Iq h (λaj e1 g=>I.t e1 X _ (I.x g X t Q q)) λaj e1 g=>I.t e1 X _ (I.x g X t Q q)
 |sub a b=>show gD h λx aj e1 g=>gD g λy aG e2 g=>kR g λr h1 g=>I.x0 e1 X _ (I.x0 e2 X _ (Hu h1 (gy g q)))
 |att a m=>show gD h λx aj e1 g=>kR g λr h1 g=>I.x0 e1 X _ (Ic h1 (gy g q))
 |call i a es=>show gD h λds aj e1 g=>I.xs e1 X _ (I.call g X _ q).call
 |callB f es=>
  cases f with
  |len=>
   show gD h λds aj e1 g=>LN g λd hd g=>wu g λl hl g=>JC g λxs e2 g9=>I.xs e1 X _ ?_
   clear e1;subst hd hl;show C7 e2 (gy g9 q)
  |_=>show eC h
 |methB o m es=>show gD h λx aj e1 g=>vX g λhb g=>gD g λds aG e2 g=>I.x0 e1 X _ (JR hb (I.xs e2 X _ (JU g q)))
 |methP o m es=>show gD h λx aj e1 g=>Et g λC dx hd g=>Ep g λf e2 g=>zI g λkvs e3 g=>vX g λhn g=>gD g λds aG e4 g=>I.x0 e1 X _ (vu hd (g8 e2 (tT e3 ⟨Option.isNone_iff_eq_none.mp hn,I.xs e4 X _ (I.call g X _ q).call⟩)))
 |_=>show eC h
theorem kY{fl fl':Fl}{Q:Fl->ew->Hp->Prop}(h:some (fl,U,J)=some (fl',ag,aa))(q:Q fl' ag aa):Q fl U J:=by cases h;show q
theorem Qp(I:lF B k){n s U J fl ag aa}(h:NS n (k+1) s U J=some (fl,ag,aa))(X)(Q:Fl->ew->Hp->Prop)(q:Q fl ag aa):gV B n X s U J Q:=by
 cases s with
 |expr e=>show kR h λr h1 g=>I.x0 h1 X _ (kY g q)
 |asg i e=>show kR h λr h1 g=>I.x0 h1 X _ (kY g q)
 |asgA o m e=>show gD h λd aj e1 g=>gD g λod aG e2 g=>kR g λcF h1 g=>I.x0 e1 X _ (I.x0 e2 X _ (Gi h1 (kY g q)))
 |asgS o k e=>show gD h λd aj e1 g=>gD g λod aG e2 g=>gD g λkd cF e3 g=>kR g λdQ h1 g=>I.x0 e1 X _ (I.x0 e2 X _ (I.x0 e3 X _ (Fg h1 (kY g q))))
 |ite c t f=>show Iq h (λaj e1 g=>I.t e1 X _ (I.ss g X Q q)) λaj e1 g=>I.t e1 X _ (I.ss g X Q q)
 |whl c b=>show I.w h Q q
 |for1 i it b=>show gD h λd aj e1 g=>NJ g λxs e2 g=>I.x0 e1 X _ (jc e2 (I.for_ g _ Q q))
 |forT is it b=>show gD h λd aj e1 g=>NJ g λxs e2 g=>I.x0 e1 X _ (jc e2 (I.for_ g _ Q q))
 |ret e=>show kR h λr h1 g=>I.x0 h1 X _ (kY g q)
 |_=>show eC h
theorem Ob(I:lF B k){n s U J fl ag aa}(h:lS n (k+1) s U J=some (fl,ag,aa))(X)(Q:Fl->ew->Hp->Prop)(q:Q fl ag aa):eH B n X s U J Q:=by
 cases s with
 |nil=>show kY (Q:=Q) h q
 |cons x r=>show AK h (λbD aj e1 g=>I.s e1 X _ (I.ss g X Q q)) λd bD aj e1 g=>I.s e1 X _ (kY (Q:=Q) g q)
theorem MV(I:lF B k){n bind b xs U J fl ag aa}(h:wJ n (k+1) bind b xs U J=some (fl,ag,aa))(all)(Q:Fl->ew->Hp->Prop)(q:Q fl ag aa):qO bind none all (λU J K=>eH B n (λ_ _=>False) b U J K) Q xs U J:=by
 cases xs with
 |nil=>show⟨trivial,kY (Q:=Q) h q⟩
 |cons x r=>show Ep h λbD e0 g=>⟨trivial,g8 e0 (AK g (λbE aG e1 g=>I.ss e1 _ _ (I.for_ g all Q q)) λd bE aG e1 g=>I.ss e1 _ _ (kY (Q:=Q) g q))⟩
theorem Q7(I:lF B k){n c b U J fl ag aa}(h:JE n (k+1) c b U J=some (fl,ag,aa))(Q:Fl->ew->Hp->Prop)(q:Q fl ag aa):∃m,pP (λU J K=>eg B n (λ_ _=>False) c true U J K) (λU J K=>eH B n (λ_ _=>False) b U J K) Q m U J:=
 Iq h (λaj e1 g=>AK g (λbE aG e2 g=>let⟨m,hm⟩:=I.w g Q q;⟨m+1,I.t e1 _ _ (I.ss e2 _ _ hm)⟩) λd bE aG e2 g=>⟨1,I.t e1 _ _ (I.ss e2 _ _ (kY (Q:=Q) g q))⟩) λaj e1 g=>⟨1,I.t e1 _ _ (kY (Q:=Q) g q)⟩
theorem DU(T:d8 B):∀k,lF B k
 |0=>GB B
 |k+1=>
  have I:=DU T k
  ⟨QN I,Oh I,Qo I,OP I,Ky T I,Qp I,Ob I,MV I,Q7 I⟩
theorem gF(T:d8 B){ds:List V}(h:fz n k a ds J=some (d,aa))(q:Q d aa):d7 B n a ds J Q X:=((DU T k).call h X Q q).call
end
noncomputable def Pl{α:Type}(_:α):Type:=Unit
noncomputable def pW(a:α)(_:Pl a):α:=Function.const (Prop->Prop) a mr
noncomputable def FK(t:Bool)(Q:V->Hp->Prop)(_:Pl Q):V->Hp->Prop:=Function.const (Prop->Prop) (λd J=>fin t d J Q) mr
noncomputable def kb(i:Nat)(U:ew)(R:Fl->ew->Hp->Prop):V->Hp->Prop:=Function.const (Prop->Prop) (λd J=>R .next (U.set i (some d)) J) mr
noncomputable def PD(U:ew)(R:Fl->ew->Hp->Prop):V->Hp->Prop:=Function.const (Prop->Prop) (λd J=>R (.ret d) U J) mr
noncomputable def P6(U:ew)(R:Fl->ew->Hp->Prop):V->Hp->Prop:=Function.const (Prop->Prop) (λ_ J=>R .next U J) mr
noncomputable def O7(B:eD)(n:Nat)(X:fD->Hp->Prop)(a b:eu)(U:ew)(R:Fl->ew->Hp->Prop):V->Hp->Prop:=Function.const (Prop->Prop) (λd J=>i5 d (eH B n X a U J R) (eH B n X b U J R)) mr
noncomputable def Pf(B:eD)(n:Nat)(X:fD->Hp->Prop)(a b:Ex)(t:Bool)(U:ew)(Q:V->Hp->Prop):V->Hp->Prop:=Function.const (Prop->Prop) (λd J=>i5 d (eg B n X a t U J Q) (eg B n X b t U J Q)) mr
noncomputable def Pw(B:eD)(n:Nat)(X:fD->Hp->Prop)(es:gz)(U:ew)(Q:List V->Hp->Prop):V->Hp->Prop:=Function.const (Prop->Prop) (λd J=>fH B n X es U J λds aa=>Q (d::ds) aa) mr
noncomputable def PM(B:eD)(n:Nat)(a:Nat)(Q:V->Hp->Prop)(X:fD->Hp->Prop):List V->Hp->Prop:=Function.const (Prop->Prop) (λds J=>d7 B n a ds J Q X) mr
theorem Vd{a b:eu}{R:Fl->ew->Hp->Prop}:O7 B n X a b U R d J=i5 d (eH B n X a U J R) (eH B n X b U J R):=rfl
theorem Ve{a b:Ex}{t:Bool}:Pf B n X a b t U Q d J=i5 d (eg B n X a t U J Q) (eg B n X b t U J Q):=rfl
theorem UZ{es:gz}{Q:List V->Hp->Prop}:Pw B n X es U Q d J=fH B n X es U J λds aa=>Q (d::ds) aa:=rfl
theorem UX{a:Nat}{ds:List V}:PM B n a Q X ds J=d7 B n a ds J Q X:=rfl
theorem Uy{K:V->Hp->Prop}:pW K () d J=K d J:=rfl
theorem UG:pW K () J=K J:=rfl
theorem T2:i5 (.bool true) t f=t:=rfl
theorem Ud:i5 (.bool false) t f=f:=rfl
theorem Uh{a:α}{f:α->Prop}:lu (some a) f=f a:=rfl
def rH(p:Prop)(b:Bool)(_:b=true↔p)(t f:Prop):Prop:=i5 (.bool b) t f
theorem U7:i5 (.bool b) t f=rH (b=true) b Iff.rfl t f:=rfl
theorem Vn[Decidable p]{h}:rH (decide p=true) (decide p) h t f=rH p (decide p) decide_eq_true_iff t f:=rfl
theorem eB{hb:b=true↔p}(h1:p->t)(h2:¬p->f):rH p b hb t f:=by
 cases b with
 |true=>show h1 (hb.mp rfl)
 |false=>show h2 (λh=>nomatch hb.mpr h)
theorem U5{h}:rH p true h t f=t:=rfl
theorem Vq{h}:rH p false h t f=f:=rfl
theorem U9{a:α}[Decidable (a=a)]{h}:rH (a=a) (decide (a=a)) h t f=t:=by unfold rH;rwa[decide_eq_true rfl];rfl
theorem fh{hb:b=true↔p}(h:p)(k:t):rH p b hb t f:=eB (λ_=>k) (λn=>absurd h n)
theorem ez{hb:b=true↔p}(h:¬p)(k:f):rH p b hb t f:=eB (λy=>absurd y h) (λ_=>k)
theorem KV{hb:b=true↔p}(h:p):rH p b hb t f=t:=by have z0:=hb.mpr h;subst z0;rfl
theorem Dq{hb:b=true↔p}(h:¬p):rH p b hb t f=f:=by
 cases b with
 |true=>show absurd (hb.mp rfl) h
 |false=>rfl
section
variable{t:Bool}{Qs:List V->Hp->Prop}{R:Fl->ew->Hp->Prop}
theorem Ui:fin false d J Q=Q d J:=rfl
theorem S1:fin true (.bool b) J Q=Q (.bool b) J:=rfl
theorem Tg{i:Int}:fin true (.int i) J Q=Q (.bool (decide (i≠0))) J:=rfl
theorem Ta:fin true (.str l) J Q=Q (.bool (!l.isEmpty)) J:=rfl
theorem UB:truthy .none J=some false:=rfl
theorem UD:truthy (.bool b) J=some b:=rfl
theorem UI{i:Int}:truthy (.int i) J=some (decide (i≠0)):=rfl
theorem Ur:truthy (.str l) J=some (!l.isEmpty):=rfl
theorem Up{l:List V}:truthy (.lst l) J=some (!l.isEmpty):=rfl
theorem Uv{l:List V}:truthy (.tup l) J=some (!l.isEmpty):=rfl
theorem UJ{x:Int}:gR .add (.int x) (.int y) J Q=Q (.int (x+y)) J:=rfl
theorem UH{x:Int}:gR .sub (.int x) (.int y) J Q=Q (.int (x-y)) J:=rfl
theorem Uu{x:Int}:gR .mul (.int x) (.int y) J Q=((x.natAbs<2^64\/y.natAbs<2^64)/\Q (.int (x*y)) J):=rfl
theorem Us{x:Int}:gR .fdiv (.int x) (.int y) J Q=(0<y/\y<2^64/\Q (.int (x/y)) J):=rfl
theorem UE{x:Int}:gR .mod (.int x) (.int y) J Q=(0<y/\Q (.int (x%y)) J):=rfl
theorem Uz{x:Int}:gR .pow (.int x) (.int y) J Q=(0<=y/\y<=1000/\x.natAbs<2^64/\Q (.int (x^y.toNat)) J):=rfl
theorem UM{x y:List Nat}:gR .add (.str x) (.str y) J Q=(x.length+y.length<=eh/\Q (.str (x++y)) J):=rfl
theorem UA{x y:List V}:gR .add (.lst x) (.lst y) J Q=(x.length+y.length<=eh/\Q (.lst (x++y)) J):=rfl
theorem Uq{x:Int}{b:V}:iq op (.int x) b J Q=gR op (.int x) b J Q:=rfl
theorem UC{x:List Nat}{b:V}:iq op (.str x) b J Q=gR op (.str x) b J Q:=rfl
theorem SA{l:List V}:fin true (.lst l) J Q=Q (.bool (!l.isEmpty)) J:=rfl
theorem SJ:eg B n X (.none) t U J Q=fin t (.none) J Q:=rfl
theorem Tp{b}:eg B n X (.bool b) t U J Q=fin t (.bool b) J Q:=rfl
theorem Uc{i}:eg B n X (.int i) t U J Q=fin t (.int i) J Q:=rfl
theorem Uk{l}:eg B n X (.str l) t U J Q=fin t (.str l) J Q:=rfl
theorem UR{i d}:eg B n X (.gv i d) t U J Q=fin t d J Q:=rfl
theorem Vp:eg B n X (.lv 0) t (some d::U) J Q=fin t d J Q:=rfl
theorem Vl:eg B n X (.lv 1) t (a0::some d::U) J Q=fin t d J Q:=rfl
theorem Vf:eg B n X (.lv 2) t (a0::a1::some d::U) J Q=fin t d J Q:=rfl
theorem Vt:eg B n X (.lv 3) t (a0::a1::a2::some d::U) J Q=fin t d J Q:=rfl
theorem Vg:eg B n X (.lv 4) t (a0::a1::a2::a3::some d::U) J Q=fin t d J Q:=rfl
theorem Vs:eg B n X (.lv 5) t (a0::a1::a2::a3::a4::some d::U) J Q=fin t d J Q:=rfl
theorem U6:eg B n X (.lv 6) t (a0::a1::a2::a3::a4::a5::some d::U) J Q=fin t d J Q:=rfl
theorem UU:eg B n X (.lv 7) t (a0::a1::a2::a3::a4::a5::a6::some d::U) J Q=fin t d J Q:=rfl
theorem Vj:eg B n X (.lv 8) t (a0::a1::a2::a3::a4::a5::a6::a7::some d::U) J Q=fin t d J Q:=rfl
theorem U0:eg B n X (.lv 9) t (a0::a1::a2::a3::a4::a5::a6::a7::a8::some d::U) J Q=fin t d J Q:=rfl
theorem UP:eg B n X (.lv 10) t (a0::a1::a2::a3::a4::a5::a6::a7::a8::a9::some d::U) J Q=fin t d J Q:=rfl
theorem UQ:eg B n X (.lv 11) t (a0::a1::a2::a3::a4::a5::a6::a7::a8::a9::a10::some d::U) J Q=fin t d J Q:=rfl
theorem UN{i e}:gV B n X (.asg i e) U J R=eg B n X e false U J (kb i U R):=rfl
theorem U4:FK t Q () d J=fin t d J Q:=rfl
theorem U2:PD U R d J=R (.ret d) U J:=rfl
theorem US:P6 U R d J=R .next U J:=rfl
theorem Vi:kb 0 (a0::U) R d J=R .next (some d::U) J:=rfl
theorem U3:kb 1 (a0::a1::U) R d J=R .next (a0::some d::U) J:=rfl
theorem Vu:kb 2 (a0::a1::a2::U) R d J=R .next (a0::a1::some d::U) J:=rfl
theorem Vm:kb 3 (a0::a1::a2::a3::U) R d J=R .next (a0::a1::a2::some d::U) J:=rfl
theorem Vb:kb 4 (a0::a1::a2::a3::a4::U) R d J=R .next (a0::a1::a2::a3::some d::U) J:=rfl
theorem Vr:kb 5 (a0::a1::a2::a3::a4::a5::U) R d J=R .next (a0::a1::a2::a3::a4::some d::U) J:=rfl
theorem Vk:kb 6 (a0::a1::a2::a3::a4::a5::a6::U) R d J=R .next (a0::a1::a2::a3::a4::a5::some d::U) J:=rfl
theorem U1:kb 7 (a0::a1::a2::a3::a4::a5::a6::a7::U) R d J=R .next (a0::a1::a2::a3::a4::a5::a6::some d::U) J:=rfl
theorem Vo:kb 8 (a0::a1::a2::a3::a4::a5::a6::a7::a8::U) R d J=R .next (a0::a1::a2::a3::a4::a5::a6::a7::some d::U) J:=rfl
theorem Vc:kb 9 (a0::a1::a2::a3::a4::a5::a6::a7::a8::a9::U) R d J=R .next (a0::a1::a2::a3::a4::a5::a6::a7::a8::some d::U) J:=rfl
theorem Ux:kb 10 (a0::a1::a2::a3::a4::a5::a6::a7::a8::a9::a10::U) R d J=R .next (a0::a1::a2::a3::a4::a5::a6::a7::a8::a9::some d::U) J:=rfl
theorem UO{a11:Option V}:kb 11 (a0::a1::a2::a3::a4::a5::a6::a7::a8::a9::a10::a11::U) R d J=R .next (a0::a1::a2::a3::a4::a5::a6::a7::a8::a9::a10::some d::U) J:=rfl
theorem Va{d op e}:gV B n X (.aug 0 op e) (some d::U) J R=eg B n X e false (some d::U) J λd' aa=>iq op d d' aa (kb 0 (some d::U) R):=rfl
theorem UY{d op e}:gV B n X (.aug 1 op e) (a0::some d::U) J R=eg B n X e false (a0::some d::U) J λd' aa=>iq op d d' aa (kb 1 (a0::some d::U) R):=rfl
theorem Vv{d op e}:gV B n X (.aug 2 op e) (a0::a1::some d::U) J R=eg B n X e false (a0::a1::some d::U) J λd' aa=>iq op d d' aa (kb 2 (a0::a1::some d::U) R):=rfl
theorem UW{d op e}:gV B n X (.aug 3 op e) (a0::a1::a2::some d::U) J R=eg B n X e false (a0::a1::a2::some d::U) J λd' aa=>iq op d d' aa (kb 3 (a0::a1::a2::some d::U) R):=rfl
theorem Vh{d op e}:gV B n X (.aug 4 op e) (a0::a1::a2::a3::some d::U) J R=eg B n X e false (a0::a1::a2::a3::some d::U) J λd' aa=>iq op d d' aa (kb 4 (a0::a1::a2::a3::some d::U) R):=rfl
theorem UT{d op e}:gV B n X (.aug 5 op e) (a0::a1::a2::a3::a4::some d::U) J R=eg B n X e false (a0::a1::a2::a3::a4::some d::U) J λd' aa=>iq op d d' aa (kb 5 (a0::a1::a2::a3::a4::some d::U) R):=rfl
theorem U8{d op e}:gV B n X (.aug 6 op e) (a0::a1::a2::a3::a4::a5::some d::U) J R=eg B n X e false (a0::a1::a2::a3::a4::a5::some d::U) J λd' aa=>iq op d d' aa (kb 6 (a0::a1::a2::a3::a4::a5::some d::U) R):=rfl
theorem T5{es}:eg B n X (.tup es) t U J Q=fH B n X es U J λds aa=>fin t (.tup ds) aa Q:=rfl
theorem RQ{es}:eg B n X (.lstF es) t U J Q=fH B n X es U J λds aa=>fin t (.lst ds) aa Q:=rfl
theorem TC{es}:eg B n X (.lstT es) t U J Q=fH B n X es U J λds aa=>fin t (.loc aa.length) (aa++[.lst ds]) Q:=rfl
theorem Tw:eg B n X (.sdT [] .nil) t U J Q=fin t (.loc J.length) (J++[.sd []]) Q:=by
 show xo [] [] J (λd af=>fin t d af Q)=_;simp[xo]
theorem T4:eg B n X .ndT t U J Q=fin t (.loc J.length) (J++[.nd []]) Q:=rfl
theorem JF{ks es}:eg B n X (.sdT ks es) t U J Q=fH B n X es U J λds aa=>xo ks ds aa (FK t Q ()):=rfl
theorem Uo{ks es}:eg B n X (.sdF ks es) t U J Q=fH B n X es U J λds aa=>ya ks ds aa (FK t Q ()):=rfl
theorem Uj{op a b}:eg B n X (.bin op a b) t U J Q=eg B n X a false U J λda aa=>eg B n X b false U aa λdb af=>gR op da db af (FK t Q ()):=rfl
theorem Tc{i}:eg B n X (.neg (.int i)) t U J Q=fin t (.int (-i)) J Q:=rfl
theorem Ul{op a b}:eg B n X (.cmp op a b) t U J Q=eg B n X a false U J λda aa=>eg B n X b false U aa λdb af=>fa op da db af (FK t Q ()):=rfl
theorem To{op op2 a b c}:eg B n X (.cmp2 op op2 a b c) t U J Q=eg B n X a false U J λda aa=>eg B n X b false U aa λdb af=>fa op da db af λd ak=>
  i5 d (eg B n X c false U ak λdc aA=>fa op2 db dc aA (FK t Q ())) (Q (.bool false) ak):=rfl
theorem TV{c es}:eg B n X (.bop c es) t U J Q=mj B n X c es t U J Q:=rfl
theorem Tn{a}:eg B n X (.not a) true U J Q=eg B n X a true U J λda aa=>lu (truthy da aa) λb=>Q (.bool (!b)) aa:=rfl
theorem TZ{c a b}:eg B n X (.ite c a b) t U J Q=eg B n X c true U J (Pf B n X a b t U Q):=rfl
theorem Ug{a i}:eg B n X (.sub a i) t U J Q=eg B n X a false U J λda aa=>eg B n X i false U aa λdi af=>eO da di af (FK t Q ()):=rfl
theorem T6{a l h}:eg B n X (.slc a l h) t U J Q=eg B n X a false U J λda aa=>eg B n X l false U aa λdl af=>eg B n X h false U af λdh ak=>gf da dl dh ak (FK t Q ()):=rfl
theorem Ub{a m}:eg B n X (.att a m) t U J Q=eg B n X a false U J λda aa=>fy da m aa (FK t Q ()):=rfl
theorem SO{i a es}:eg B n X (.call i a es) t U J Q=fH B n X es U J (PM B n a (FK t Q ()) X):=rfl
theorem RK{f es}:eg B n X (.callB f es) t U J Q=fH B n X es U J λds aa=>je f ds aa (FK t Q ()):=rfl
def mB(m:BM)(d:V)(J:Hp)(k:Prop):Prop:=i5 (.bool (lC m d J)) k False
theorem lP{m:BM}{k:Prop}(h:lC m d J=true):mB m d J k=k:=by unfold mB;rwa[h];rfl
theorem Rz{o m es}:eg B n X (.methB o m es) t U J Q=eg B n X o false U J λd ah=>mB m d ah (fH B n X es U ah λds aa=>gq m d ds aa (FK t Q ())):=rfl
def mP(B:eD)(n:Nat)(X:fD->Hp->Prop)(d:V)(m:List Nat)(es:gz)(U:ew)(ah:Hp)(Q:V->Hp->Prop):Prop:=tW d λC dx=>fj (iz C m) λf=>kJ ah[dx]? λkvs=>eY kvs m=none/\fH B n X es U ah λds aa=>d7 B n f (.inst C dx::ds) aa Q X
theorem HO{C dx:Nat}{m es f kvs}(h1:iz C m=some f)(h2:J[dx]?=some (.sd kvs))(h3:eY kvs m=none):mP B n X (.inst C dx) m es U J Q=fH B n X es U J λds aa=>d7 B n f (.inst C dx::ds) aa Q X:=by
 show fj (iz C m) _=_;rwa[h1];show kJ J[dx]? _=_
 rwa[h2];show propext ⟨λh=>h.2,λh=>⟨h3,h⟩⟩
theorem Rx{o m es}:eg B n X (.methP o m es) t U J Q=eg B n X o false U J λd ah=>mP B n X d m es U ah (FK t Q ()):=rfl
def ka(B:eD)(n:Nat)(e c:Ex)(k:Nat)(Q:V->Hp->Prop)(U:ew)(xs:List V)(J:Hp)(acc:List V):Prop:=qr k (λU J K=>eg B n (λ_ _=>False) c true U J K) (λU J K=>eg B n (λ_ _=>False) e false U J K) Q U xs J acc
theorem NW{e k it c ns caps}:eg B n X (.comp e k it c ns caps) t U J Q=eg B n X it false U J λd aa=>zX (fF d aa) λxs=>ka B n e c k (FK t Q ()) (caps.map (λi=>(U[i]?).join)++List.replicate (ns.length-caps.length) none) xs aa []:=rfl
theorem ko{e c k acc}:ka B n e c k Q U [] J acc=Q (.lst acc) J:=rfl
theorem hK{e c k x xs acc}:ka B n e c k Q U (x::xs) J acc=eg B n (λ_ _=>False) c true (U.set k (some x)) J λb aa=>i5 b (eg B n (λ_ _=>False) e false (U.set k (some x)) aa λv af=>ka B n e c k Q U xs af (acc++[v])) (ka B n e c k Q U xs aa acc):=rfl
theorem Te:fH B n X .nil U J Qs=Qs [] J:=rfl
theorem Ry{e es}:fH B n X (.cons e es) U J Qs=eg B n X e false U J (Pw B n X es U Qs):=rfl
theorem TH{c e}:mj B n X c %[e|.nil] t U J Q=eg B n X e t U J Q:=rfl
theorem Ua{q:V->Prop}:u3 true (.bool b) J p q=i5 (.bool b) p (q (.bool false)):=rfl
theorem T8{q:V->Prop}:u3 false (.bool b) J p q=i5 (.bool b) (q (.bool true)) p:=rfl
theorem RA{c e e' es}:mj B n X c (.cons e (.cons e' es)) t U J Q=eg B n X e t U J λd aa=>u3 c d aa (mj B n X c (.cons e' es) t U aa Q) (λd=>Q d aa):=rfl
def seq(B:eD)(n:Nat)(X:fD->Hp->Prop)(r:eu)(R:Fl->ew->Hp->Prop):Fl->ew->Hp->Prop:=λfl ag aa=>G5 fl (eH B n X r ag aa R) λv=>R (.ret v) ag aa
theorem wH{r:eu}:seq B n X r R .next U J=eH B n X r U J R:=rfl
theorem Um{r:eu}{v:V}:seq B n X r R (.ret v) U J=R (.ret v) U J:=rfl
theorem Ts:eH B n X .nil U J R=R .next U J:=rfl
theorem xq{s r}:eH B n X (.cons s r) U J R=gV B n X s U J (seq B n X r R):=congrArg (gV B n X s U J) (funext λfl=>by cases fl<;>rfl)
theorem Un:fe Q .next U J=Q .none J:=rfl
theorem Ue:fe Q (.ret d) U J=Q d J:=rfl
theorem Sl{e}:gV B n X (.expr e) U J R=eg B n X e false U J (P6 U R):=rfl
theorem S9{is e}:gV B n X (.asgT is e) U J R=eg B n X e false U J λd aa=>lu (mT is d U) λag=>R .next ag aa:=rfl
theorem Sq{o m e}:gV B n X (.asgA o m e) U J R=eg B n X e false U J λd aa=>eg B n X o false U aa λod af=>mf od m d af (pW (λak=>R .next U ak) ()):=rfl
theorem R5{o k e}:gV B n X (.asgS o k e) U J R=eg B n X e false U J λd aa=>eg B n X o false U aa λod af=>eg B n X k false U af λkd ak=>iu od kd d ak (pW (λaA=>R .next U aA) ()):=rfl
theorem SU{o k op e}:gV B n X (.augS o k op e) U J R=eg B n X o false U J λod aa=>eg B n X k false U aa λkd af=>sQ od kd af (pW (λd ak=>eg B n X e false U ak λd' aA=>iq op d d' aA λr aP=>iu od kd r aP (pW (λbl=>R .next U bl) ())) ()):=rfl
theorem TY{c a b}:gV B n X (.ite c a b) U J R=eg B n X c true U J (O7 B n X a b U R):=rfl
theorem TX{e}:gV B n X (.ret e) U J R=eg B n X e false U J (PD U R):=rfl
theorem Ru{k es}:gV B n X (.raise k es) U J R=(2<=n/\fH B n X es U J λds aa=>qc k ds aa X):=rfl
def wz(B:eD)(n:Nat)(c:Ex)(b:eu)(R:Fl->ew->Hp->Prop)(m:Nat)(U:ew)(J:Hp):Prop:=pP (λU J K=>eg B n (λ_ _=>False) c true U J K) (λU J K=>eH B n (λ_ _=>False) b U J K) R m U J
def NN(B:eD)(n:Nat)(c:Ex)(b:eu)(R:Fl->ew->Hp->Prop)(m:Nat):Fl->ew->Hp->Prop:=λfl ag aa=>G5 fl (wz B n c b R m ag aa) λv=>R (.ret v) ag aa
theorem T9{c b m}:NN B n c b R m .next U J=wz B n c b R m U J:=rfl
theorem T1{c b m v}:NN B n c b R m (.ret v) U J=R (.ret v) U J:=rfl
theorem rg{c b}:gV B n X (.whl c b) U J R=∃m,wz B n c b R m U J:=rfl
theorem il{c b}:wz B n c b R (m+1) U J=eg B n (λ_ _=>False) c true U J λd aa=>i5 d (eH B n (λ_ _=>False) b U aa (NN B n c b R m)) (R .next U aa):=rfl
def For(B:eD)(n:Nat)(bind:V->ew->Option ew)(k:Option Nat)(all:List V)(b:eu)(R:Fl->ew->Hp->Prop)(xs:List V)(U:ew)(J:Hp):Prop:=qO bind k all (λU J K=>eH B n (λ_ _=>False) b U J K) R xs U J
def Fs(B:eD)(n:Nat)(bind:V->ew->Option ew)(k:Option Nat)(all:List V)(b:eu)(R:Fl->ew->Hp->Prop)(xs:List V):Fl->ew->Hp->Prop:=λfl ag aa=>G5 fl (For B n bind k all b R xs ag aa) λv=>R (.ret v) ag aa
theorem JN{bind k all b xs}:Fs B n bind k all b R xs .next U J=For B n bind k all b R xs U J:=rfl
theorem T7{bind k all b xs v}:Fs B n bind k all b R xs (.ret v) U J=R (.ret v) U J:=rfl
theorem SN{i it b}:gV B n X (.for1 i it b) U J R=eg B n X it false U J λd aa=>lu (fF d aa) λp=>For B n (λv U=>some (U.set i (some v))) p.2 p.1 b R p.1 U aa:=rfl
theorem R2{is it b}:gV B n X (.forT is it b) U J R=eg B n X it false U J λd aa=>lu (fF d aa) λp=>For B n (mT is) p.2 p.1 b R p.1 U aa:=rfl
theorem mZ{bind k all b}:For B n bind k all b R [] U J=(oE k all J/\R .next U J):=rfl
theorem jU{bind k all b x xs}:For B n bind k all b R (x::xs) U J=(oE k all J/\lu (bind x U) λag=>eH B n (λ_ _=>False) b ag J (Fs B n bind k all b R xs)):=rfl
theorem OC{i e l}:gV B n X (.try3 i e l) U J R=eg B n (λx aa=>match x with
   |.throw v=>R .next (U.set i (some (.tup [.str l,v]))) aa
   |.num=>R .next (U.set i (some (.tup [.str `out,.none]))) aa
   |.host=>R .next (U.set i (some (.tup [.str `host,.none]))) aa) e false U J λd aa=>R .next (U.set i (some d)) aa:=rfl
end
section
theorem d8.fn(T:d8 B){r:List (List Nat)×Nat×eu}{args:List V}(h:qZ a=some r)(hn:(args.length==r.2.1)=true)(U:ew)(e:iY r.2.1 r.1 args=U)(q:eH B n X r.2.2 U J (fe Q)):d7 B (n+1) a args J Q X:=
 T.call (vt h) (beq_iff_eq.mp hn) (by rwa[e];show q)
theorem yP:iM (i:Int) m=if i<m then some i else none:=by
 unfold iM;rwa[if_pos (Int.natCast_nonneg i)];simp
theorem ow{l:List V}(h:i<l.length):tB l (.int i) J Q=Q l[i] J:=by
 show fj ((iM i l.length).bind λj=>l[j]?) _=_;rwa[yP,if_pos h,Option.bind_some ..,List.getElem?_eq_getElem h];rfl
theorem UK{a:V}{l:List V}:eO (.tup (a::l)) (.int 0) J Q=Q a J:=ow (l:=a::l) (i:=0) (by simp)
theorem UL{a b:V}{l:List V}:eO (.tup (a::b::l)) (.int 1) J Q=Q b J:=ow (l:=a::b::l) (i:=1) (by simp)
theorem Uw{a b c:V}{l:List V}:eO (.tup (a::b::c::l)) (.int 2) J Q=Q c J:=ow (l:=a::b::c::l) (i:=2) (by simp)
theorem gM{l:List V}(h:i<l.length):eO (.lst l) (.int i) J Q=Q l[i] J:=ow h
theorem xN(h:i<l.length):eO (.str l) (.int i) J Q=Q (.str [l[i]]) J:=by
 show fj ((iM i l.length).bind λj=>l[j]?) _=_;rwa[yP,if_pos h,Option.bind_some ..,List.getElem?_eq_getElem h];rfl
theorem in_str{a:Nat}:oG (.str [a]) (.str l) J=some (l.contains a):=rfl
theorem RB{x:List Nat}:gq .find (.str l) [.str x] J Q=Q (.int (fE x l 0)) J:=rfl
theorem QZ{x:List Nat}{i:Int}:gq .find (.str l) [.str x,.int i] J Q=(0<=i/\i<2^40/\Q (.int (fE x l i.toNat)) J):=rfl
theorem Qy:gq .lower (.str l) [] J Q=(eW l/\l.length<=1000000/\Q (.str (l.map lo1)) J):=rfl
theorem Qc:gq .upper (.str l) [] J Q=(eW l/\l.length<=1000000/\Q (.str (l.map up1)) J):=rfl
theorem QR{c:List Nat}:gq .strip (.str l) [.str c] J Q=Q (.str (strip c l)) J:=rfl
theorem Q4:gq .split (.str l) [.str [c]] J Q=(l.length<=1000000/\Q (.lst ((fC c l).map .str)) J):=rfl
theorem Rk{k:List Nat}:gq .get (.sdct kvs) [.str k,d] J Q=Q ((eY kvs k).getD d) J:=rfl
theorem RL{k:Prop}:mB .find (.str l) J k=k:=rfl
theorem QD{k:Prop}:mB .lower (.str l) J k=k:=rfl
theorem Rb{k:Prop}:mB .upper (.str l) J k=k:=rfl
theorem Qd{k:Prop}:mB .strip (.str l) J k=k:=rfl
theorem QW{k:Prop}:mB .split (.str l) J k=k:=rfl
theorem RD{k:Prop}:mB .join (.str l) J k=k:=rfl
theorem RF{l:List (List Nat×V)}{k:Prop}:mB .get (.sdct l) J k=k:=rfl
theorem kX:fF (.str l) J=some (l.map λc=> .str [c],none):=rfl
theorem qi{l:List V}:fF (.lst l) J=some (l,none):=rfl
theorem R6{l:List V}:fF (.tup l) J=some (l,none):=rfl
theorem GL(h:m<=1000000):fF (.rng 0 m) J=some ((List.range m).map λ(k:Nat)=>V.int k,none):=by
 show ite _ _ _=_;rwa[if_pos (by lia)];simp
theorem lR{all:List V}{b:eu}{R:Fl->ew->Hp->Prop}:For B n (λv U=>some (U.set i (some v))) none all b R [] U J=R .next U J:=by
 rwa[mZ];simp[oE]
theorem jh{all:List V}{x:V}{b:eu}{R:Fl->ew->Hp->Prop}:For B n (λv U=>some (U.set i (some v))) none all b R (x::xs) U J=eH B n (λ_ _=>False) b (U.set i (some x)) J (Fs B n (λv U=>some (U.set i (some v))) none all b R xs):=by
 rw[jU];simp[oE,lu]
theorem gh{a b:α}{l:List α}:(a::l).set 0 b=b::l:=rfl
theorem ia{a b:α}{l:List α}:(a::l).set (i+1) b=a::l.set i b:=rfl
theorem lX:gr (i:Int) m=min i m:=by
 unfold gr;rwa[if_neg (by simp)];simp
theorem u9{l:List α}:l.take (min j l.length)=l.take j:=by
 by_cases h:j<=l.length
 ·show d4 (Nat.min_eq_left h) rfl
 ·show d4 (Nat.min_eq_right (by lia)) (d4 List.take_length (d4 (List.take_of_length_le (by lia)) rfl))
theorem HZ{l:List α}:l.drop (min j l.length)=l.drop j:=by
 by_cases h:j<=l.length
 ·show d4 (Nat.min_eq_left h) rfl
 ·show d4 (Nat.min_eq_right (by lia)) (d4 List.drop_length (d4 (List.drop_of_length_le (by lia)) rfl))
theorem Ds{l:List α}:(l.take (gr j l.length)).drop (gr i l.length)=(l.take j).drop i:=by
 rwa[lX,lX,u9]
 by_cases h:i<=l.length
 ·show d4 (Nat.min_eq_left h) rfl
 ·show d4 (Nat.min_eq_right (by lia)) (d4 (List.drop_of_length_le (by rw[List.length_take];lia)) (d4 (List.drop_of_length_le (by rw[List.length_take];grind)) rfl))
theorem D4:gf (.str l) (.int i) (.int j) J Q=Q (.str ((l.take j).drop i)) J:=congrArg (λx=>Q (.str x) J) Ds
theorem FL:gf (.str l) (.int i) .none J Q=Q (.str (l.drop i)) J:=by
 show Q (.str ((l.take l.length).drop (gr i l.length))) J=_;show d4 List.take_length (d4 lX (d4 HZ rfl))
theorem FN:gf (.str l) .none (.int j) J Q=Q (.str (l.take j)) J:=by
 show Q (.str (l.take (gr j l.length))) J=_;show d4 lX (d4 u9 rfl)
theorem NY{l:List V}:gf (.lst l) (.int i) (.int j) J Q=Q (.lst ((l.take j).drop i)) J:=congrArg (λx=>Q (.lst x) J) Ds
theorem RM{l:List V}:gf (.lst l) .none .none J Q=Q (.lst l) J:=congrArg (λx=>Q (.lst x) J) (List.take_length (l:=l))
theorem FV{l:List V}:gf (.lst l) .none (.int j) J Q=Q (.lst (l.take j)) J:=by
 show Q (.lst (l.take (gr j l.length))) J=_;show d4 lX (d4 u9 rfl)
def Jm(B:eD)(n:Nat)(e c:Ex)(k:Nat)(Q:V->Hp->Prop)(U:ew)(ns:List (List Nat))(caps:List Nat)(d:V)(aa:Hp):Prop:=zX (fF d aa) λxs=>ka B n e c k Q (caps.map (λi=>(U[i]?).join)++List.replicate (ns.length-caps.length) none) xs aa []
theorem Rv{e:Ex}{it c:Ex}{ns:List (List Nat)}{t:Bool}:eg B n X (.comp e kk it c ns caps) t U J Q=eg B n X it false U J λd aa=>Jm B n e c kk (FK t Q ()) U ns caps d aa:=NW
theorem gk{e:Ex}{c:Ex}{ns:List (List Nat)}{l:List V}(h:fF d J=some (l,none))(bR:caps.map (λi=>(U[i]?).join)++List.replicate (ns.length-caps.length) none=ag):Jm B n e c kk Q U ns caps d J=ka B n e c kk Q ag l J []:=by
 unfold Jm;rwa[h,bR];rfl
end
section
theorem CY{a b:List Nat}:PyData.eqv (.str (sv a)) (.str (sv b))=(a==b):=by
 rw[PyData.eqv]
 by_cases h:a=b
 ·subst h;simp
 ·obtain this:sv a≠sv b:=λe=>h (lh e)
  show d4 (beq_eq_false_iff_ne.mpr h) (d4 (beq_eq_false_iff_ne.mpr this) rfl)
theorem Lh{a b:Int}:PyData.eqv (.int a) (.int b)=(a==b):=by rw[PyData.eqv]
theorem wm{f x xs}:j5 f (x::xs)=(f x).bind λd=>(j5 f xs).map (d::·):=rfl
theorem ja{m:Nat}:∀ls:List (List Nat),j5 (fT J (m+1)) (ls.map .str)=some (ls.map λl=> .str (sv l))
 |[]=>rfl
 |l::r=>by
  rwa[List.map_cons,wm,ja r];rfl
theorem tA{m:Nat}:∀ls:List Int,j5 (fT J (m+1)) (ls.map .int)=some (ls.map λl=> .int l)
 |[]=>rfl
 |l::r=>by
  rwa[List.map_cons,wm,tA r];rfl
theorem DK{k:List Nat}:((ls.map λl=>PyData.str (sv l)).any λy=>PyData.eqv y (.str (sv k)))=ls.contains k:=by
 rwa[List.any_map,List.contains_eq_any_beq]
 congr 1
 funext x
 rewrite [Function.comp];rwa[CY]
 show Bool.beq_comm ..
theorem Jg{k:Int}{ls:List Int}:((ls.map λl=>PyData.int l).any λy=>PyData.eqv y (.int k))=ls.contains k:=by
 rwa[List.any_map,List.contains_eq_any_beq]
 congr 1
 funext x
 rewrite [Function.comp];rwa[Lh]
 show Bool.beq_comm ..
theorem HA{k:List Nat}:vW J (.str k) (.tup (ls.map .str))=some (ls.contains k):=by
 show Bq ((j5 (fT J 8) (ls.map .str)).map .tuple) _=_;rwa[ja ..];show congrArg some DK
theorem A5{k:List Nat}:vW J (.str k) (.lst (ls.map .str))=some (ls.contains k):=by
 show Bq ((j5 (fT J 8) (ls.map .str)).map .list) _=_;rwa[ja ..];show congrArg some DK
theorem Ao{k:Int}{ls:List Int}:vW J (.int k) (.lst (ls.map .int))=some (ls.contains k):=by
 show Bq ((j5 (fT J 8) (ls.map .int)).map .list) _=_;rwa[tA ..];show congrArg some Jg
theorem pQ(h:J[k]?=some (.lst xs)):fT J 9 (.loc k)=(j5 (fT J 8) xs).map .list:=by
 show C1 J[k]? _=_;rwa[h];rfl
theorem MA{m:List Nat}(h:J[k]?=some (.lst (ls.map .str))):oG (.str m) (.loc k) J=some (ls.contains m):=by
 show I5 J[k]? _ (Bq (fT J 9 (.loc k)) _)=_;rwa[pQ h,h,ja ..];show congrArg some DK
theorem Mo{m:Int}{ls:List Int}(h:J[k]?=some (.lst (ls.map .int))):oG (.int m) (.loc k) J=some (ls.contains m):=by
 show JM J[k]? _ (Bq (fT J 9 (.loc k)) _)=_;rwa[pQ h,h,tA ..];show congrArg some Jg
theorem L8{m:List Nat}(h:J[k]?=some (.sd kvs)):oG (.str m) (.loc k) J=some (eY kvs m).isSome:=by
 show I5 J[k]? _ _=_;rwa[h];rfl
theorem MT{m:Int}{kvs:List (Int×V)}(h:J[k]?=some (.nd kvs)):oG (.int m) (.loc k) J=some (fP kvs m).isSome:=by
 show JM J[k]? _ _=_;rwa[h];rfl
theorem nB{a b:V}{r:Bool}(e:oG a b J=some r):fa .in_ a b J Q=Q (.bool r) J:=by
 show fj (oG a b J) _=_;rwa[e];rfl
theorem C9{a b:V}{r:Bool}(e:oG a b J=some r):fa .nin a b J Q=Q (.bool (!r)) J:=by
 show fj (oG a b J) _=_;rwa[e];rfl
theorem Lf{k:List Nat}:fa .in_ (.str k) (.tup (ls.map .str)) J Q=Q (.bool (ls.contains k)) J:=nB HA
theorem Kt{k:List Nat}:fa .in_ (.str k) (.lst (ls.map .str)) J Q=Q (.bool (ls.contains k)) J:=nB A5
theorem Hh{k:List Nat}:fa .nin (.str k) (.lst (ls.map .str)) J Q=Q (.bool (!ls.contains k)) J:=C9 A5
theorem HR{k:Int}{ls:List Int}:fa .nin (.int k) (.lst (ls.map .int)) J Q=Q (.bool (!ls.contains k)) J:=C9 Ao
theorem Ro{a:Nat}:fa .in_ (.str [a]) (.str l) J Q=Q (.bool (l.contains a)) J:=rfl
theorem QK{a:Nat}:fa .nin (.str [a]) (.str l) J Q=Q (.bool (!l.contains a)) J:=rfl
theorem QQ{k a b:List Nat}:fa .in_ (.str k) (.tup [.str a,.str b]) J Q=Q (.bool ([a,b].contains k)) J:=Lf (ls:=[a,b])
theorem Ql{k a b:List Nat}:fa .in_ (.str k) (.lst [.str a,.str b]) J Q=Q (.bool ([a,b].contains k)) J:=Kt (ls:=[a,b])
theorem Po{k a b:List Nat}:fa .nin (.str k) (.lst [.str a,.str b]) J Q=Q (.bool (!([a,b].contains k))) J:=Hh (ls:=[a,b])
theorem OY{k a b:Int}:fa .nin (.int k) (.lst [.int a,.int b]) J Q=Q (.bool (!([a,b].contains k))) J:=HR (ls:=[a,b])
theorem RE{a b:Int}:fa .eq (.int a) (.int b) J Q=Q (.bool (decide (a=b))) J:=rfl
theorem RI{a b:Int}:fa .ne (.int a) (.int b) J Q=Q (.bool (decide (a≠b))) J:=rfl
theorem Rl{a b:Int}:fa .lt (.int a) (.int b) J Q=Q (.bool (decide (a<b))) J:=rfl
theorem RH{a b:Int}:fa .le (.int a) (.int b) J Q=Q (.bool (decide (a<=b))) J:=rfl
theorem RG{a b:Int}:fa .gt (.int a) (.int b) J Q=Q (.bool (decide (b<a))) J:=rfl
theorem Rr{a b:Int}:fa .ge (.int a) (.int b) J Q=Q (.bool (decide (b<=a))) J:=rfl
theorem Rw{a b:List Nat}:fa .le (.str a) (.str b) J Q=Q (.bool (r7 a b)) J:=rfl
theorem Rt{a b:List Nat}:fa .eq (.str a) (.str b) J Q=Q (.bool (a==b)) J:=rfl
theorem Rq{a b:List Nat}:fa .ne (.str a) (.str b) J Q=Q (.bool (a !=b)) J:=rfl
theorem Rp:fa .is .none .none J Q=Q (.bool true) J:=rfl
theorem Rn{C d:Nat}:fa .is (.inst C d) .none J Q=Q (.bool false) J:=rfl
theorem RC:je .len [.str l] J Q=Q (.int l.length) J:=rfl
theorem RJ{l:List V}:je .len [.lst l] J Q=Q (.int l.length) J:=rfl
theorem Rm{l:List V}:je .len [.tup l] J Q=Q (.int l.length) J:=rfl
theorem Tb{i:Int}:je .str [.int i] J Q=(i.natAbs<10^100/\Q (.str (fW i)) J):=rfl
theorem Tx{a b:Int}:je .min [.int a,.int b] J Q=Q (.int (if b<a then b else a)) J:=rfl
theorem TJ{i:Int}:je .chr [.int i] J Q=(0<=i/\i<128/\Q (.str [i.toNat]) J):=rfl
theorem SY:je .ord [.str [c]] J Q=Q (.int c) J:=rfl
theorem Qr{i:Int}:je .range [.int i] J Q=(i<2^40/\Q (.rng 0 i) J):=rfl
end
end
section
open PySem PySem.W PyProof.Rows
section
theorem BI(T:d8 B)(q:Q (.tup [.int 2,.int (if b then 1 else 0)]) J):d7 B (n+1) 221 [.bool b] J Q X:=by
 show T.fn (r:=(ta,1,nP)) rfl rfl [_] rfl ?_;rw[nP];symm;cases b<;>show q
theorem IM(T:d8 B){args:List V}(q:Q ((args[i]?).getD (.tup [.int 0,.int 0])) J):d7 B (n+1) 452 [.lst args,.int i] J Q X:=by
 show T.fn (r:=(Ac,2,vp)) rfl rfl [_,_] rfl ?_;rw[vp];symm;show eB (λh=>?_) (λh=>?_)
 ·have h':i<args.length:=by simp_all
  rw[gM h'];rw[List.getElem?_eq_getElem h'] at q;show q
 ·rw[List.getElem?_eq_none (by simp_all)] at q;show q
theorem wK(T:d8 B){i:Int}(q:Q (.int (gr i m)) J):d7 B (n+1) 466 [.int i,.int m] J Q X:=by
 show T.fn (r:=(mJ,2,jx)) rfl rfl [_,_] rfl ?_;rw[jx];symm;unfold gr at q;show eB (λh=>?_) (λh=>?_)
 ·rw[if_pos h] at q;show eB (λh'=>?_) (λh'=>?_)
  ·rw[show((i+(m:Int)).toNat:Int)=0 by lia] at q;show q
  ·rw[show((i+(m:Int)).toNat:Int)=m+i by lia] at q;show q
 ·rw[if_neg h] at q;show eB (λh'=>?_) (λh'=>?_)
  ·rw[show((min i.toNat m:Nat):Int)=m by grind] at q;show q
  ·rw[show((min i.toNat m:Nat):Int)=i by grind] at q;show q
noncomputable def mQ(i:Int)(m:Nat):Nat:=min i.toNat m
theorem zc(T:d8 B){i:Int}(q:Q (.int (mQ i m)) J):d7 B (n+1) 473 [.int i,.int m] J Q X:=by
 show T.fn (r:=(rG,2,mz)) rfl rfl [_,_] rfl ?_;rw[mz];symm;unfold mQ at q;show eB (λh=>?_) (λh=>?_)
 ·rw[show((min i.toNat m:Nat):Int)=0 by lia] at q;show q
 ·show eB (λh'=>?_) (λh'=>?_)
  ·rw[show((min i.toNat m:Nat):Int)=m by lia] at q;show q
  ·rw[show((min i.toNat m:Nat):Int)=i by lia] at q;show q
end
section
noncomputable def eG:Int:=9007199254740991
theorem Ck(T:d8 B){i:Int}(h1: -eG<=i->i<=eG->Q (.tup [.int 3,.int i]) J)(h2:¬(-eG<=i/\i<=eG)->X .num J):d7 B (n+3) 228 [.int i] J Q X:=by
 unfold eG at h1 h2;show T.fn (r:=(ur,1,pv)) rfl rfl [_] rfl ?_;rw[pv];symm;show eB (λh=>?_) (λh=>eB (λh'=>?_) (λh'=>h1 (Int.not_lt.mp ‹_›) (Int.not_lt.mp ‹_›)))
 ·show⟨by show ju,h2 (by simp_all)⟩
 ·show⟨by show ju,h2 (by simp_all)⟩
noncomputable def fq(c:Nat):Bool:=[48,49,50,51,52,53,54,55,56,57].contains c
noncomputable def rd(l:List Nat)(i:Nat):Nat:=i+((l.drop i).takeWhile fq).length
theorem Kh(h:i<l.length):rd l i=if fq l[i] then rd l (i+1) else i:=by
 unfold rd;rwa[List.drop_eq_getElem_cons h,List.takeWhile_cons]
 split
 ·rwa[List.length_cons];lia
 ·rfl
theorem Ni(h:¬i<l.length):rd l i=i:=by
 unfold rd;rwa[List.drop_eq_nil_of_le (Nat.le_of_not_lt ‹_›)];rfl
theorem v3(T:d8 B)(q:Q (.int (rd l i)) J):d7 B (n+1) 242 [.str l,.int i] J Q X:=by
 show T.fn (r:=(oH,2,kz)) rfl rfl [_,_] rfl ?_;rw[kz];symm;rwa[rg];obtain⟨k,hk⟩:∃k,l.length-i=k:=⟨_,rfl⟩
 induction k generalizing i with
 |zero=>
  rw[Ni (by omega)] at q;show⟨1,?_⟩;rwa[il];symm;show ez (by omega) ?_;show q
 |succ k ih=>
  have hi:i<l.length:=by omega
  rw[Kh hi] at q
  by_cases hd:fq l[i]=true
  ·rw[if_pos hd] at q;obtain⟨m,hm⟩:=ih q (by omega);show⟨m+1,?_⟩;rwa[il];symm
   (show fh (Int.ofNat_lt.mpr ‹_›) ?_;rwa[xN hi])
   symm;show fh hd hm
  ·rw[if_neg hd] at q;show⟨1,?_⟩;rwa[il];symm
   (show fh (Int.ofNat_lt.mpr ‹_›) ?_;rwa[xN hi])
   symm;show ez hd q
end
section
noncomputable def GQ:List Nat:=[32,9,10,13,11,12,160,5760,8192,8193,8194,8195,8196,8197,8198,8199,8200,8201,8202,8232,8233,8239,8287,12288,65279]
noncomputable def gS(c:Nat):Bool:=GQ.contains c
noncomputable def gw(l:List Nat):List Nat:=((l.dropWhile gS).reverse.dropWhile gS).reverse
noncomputable def oy(l:List Nat)(i:Nat):Nat:=i+((l.drop i).takeWhile gS).length
theorem HP(h:i<l.length):oy l i=if gS l[i] then oy l (i+1) else i:=by
 unfold oy;rwa[List.drop_eq_getElem_cons h,List.takeWhile_cons]
 split
 ·rwa[List.length_cons];lia
 ·rfl
theorem Kn(h:¬i<l.length):oy l i=i:=by
 unfold oy;rwa[List.drop_eq_nil_of_le (Nat.le_of_not_lt ‹_›)];rfl
theorem Hj(l:List Nat):l.drop (oy l 0)=l.dropWhile gS:=by
 unfold oy;rwa[List.drop_zero,Nat.zero_add ..]
 induction l with
 |nil=>rfl
 |cons a r ih=>
  rwa[List.takeWhile_cons,List.dropWhile_cons]
  split
  ·rwa[List.length_cons,List.drop_succ_cons];show ih
  ·rfl
noncomputable def xV(l:List Nat):List Nat:=(l.reverse.dropWhile gS).reverse
theorem GS:xV (l++[c])=if gS c then xV l else l++[c]:=by
 unfold xV;rw[List.reverse_append,List.reverse_cons,List.reverse_nil,List.nil_append,List.singleton_append,List.dropWhile_cons]
 split
 ·rfl
 ·show d4 List.reverse_cons (d4 (List.reverse_reverse ..) rfl)
theorem vz{p:Nat}(h1:p<=j)(h2:j<l.length):(l.take (j+1)).drop p=(l.take j).drop p++[l[j]]:=by
 show d4 (List.take_succ_eq_append_getElem h2) (d4 (List.drop_append_of_le_length (by rw[List.length_take];lia)) rfl)
theorem mK{i:Int}(e:i=(j:Int))(h:j<l.length):eO (.str l) (.int i) J Q=Q (.str [l[j]]) J:=by subst e;show xN h
theorem FH(T:d8 B)(q:Q (.str (gw l)) J):d7 B (n+1) 368 [.str l] J Q X:=by
 show T.fn (r:=(yy,1,sO)) rfl rfl [_,none,none] rfl ?_;rw[sO];symm;rwa[rg];have q':Q (.str (xV (l.drop (oy l 0)))) J:=by rwa[Hj ..];show q
 obtain⟨i,hi⟩:∃i:Nat,(0:Int)=i/\i=0:=⟨0,rfl,rfl⟩;obtain⟨hi1,hi2⟩:=hi;rw[<-hi2] at q';rwa[hi1];have hle:i<=l.length:=by simp_all
 clear hi1 hi2 q;obtain⟨k,hk⟩:∃k,l.length-i=k:=⟨_,rfl⟩;have second:∀{p:Nat},p<=l.length->Q (.str (xV (l.drop p))) J->gV B n X (.whl (.bop true (.cons (.cmp .lt (.lv 1) (.lv 2)) (.cons (.cmp .in_ (.sub (.lv 0) (.bin .sub (.lv 2) (.int 1))) (.gv 40 (.str GQ))) .nil))) (.cons (.aug 2 .sub (.int 1)) .nil)) [some (.str l),some (.int p),some (.int l.length)] J (seq B n X (.cons (.ret (.slc (.lv 0) (.lv 1) (.lv 2))) .nil) (fe Q)):=by
  intro p hp q;rwa[rg];obtain⟨j,hj1,hj2⟩:∃j:Nat,l.length=j/\j<=l.length:=⟨_,rfl,Nat.le_refl _⟩;have q1:Q (.str (xV ((l.take j).drop p))) J:=by rwa[hj1.symm,List.take_length];show q
  have e:(l.length:Int)=(j:Int):=by simp_all
  rwa[e];clear hj1 e q;obtain⟨k,hk⟩:∃k,j-p=k:=⟨_,rfl⟩
  induction k generalizing j with
  |zero=>
   show⟨1,?_⟩;rwa[il];symm;show ez (by lia) ?_;have:(l.take j).drop p=[]:=by rwa[propext List.drop_eq_nil_iff,List.length_take];grind
   rw[this] at q1;rwa[this];show q1
  |succ k ih=>
   obtain⟨j,rfl⟩:∃j',j=j'+1:=⟨j-1,by lia⟩;have hjl:j<l.length:=by assumption
   rw[vz (by omega) hjl,GS] at q1
   by_cases hb:gS l[j]=true
   ·rw[if_pos hb] at q1;obtain⟨m,hm⟩:=ih j (Nat.le_of_lt ‹_›) q1 (by omega);show⟨m+1,?_⟩;rwa[il];symm
    (show fh (by omega) ?_;rwa[mK (j:=j) (by simp) hjl])
    symm;show fh hb ?_;rwa[(show((j+1:Nat):Int)-1=j by simp)];show hm
   ·rw[if_neg hb,<-vz (by omega) hjl] at q1;show⟨1,?_⟩;rwa[il];symm
    (show fh (by omega) ?_;rwa[mK (j:=j) (by simp) hjl])
    symm;show ez hb ?_;show q1
 induction k generalizing i with
 |zero=>
  rw[Kn (by lia)] at q';show⟨1,?_⟩;rwa[il];symm;show ez (by lia) ?_;show second hle q'
 |succ k ih=>
  have hil:i<l.length:=by grind
  rw[HP hil] at q'
  by_cases hb:gS l[i]=true
  ·rw[if_pos hb] at q';obtain⟨m,hm⟩:=ih (i+1) q' (by assumption) (by grind);show⟨m+1,?_⟩;rwa[il];symm
   (show fh (Int.ofNat_lt.mpr ‹_›) ?_;rwa[xN hil])
   symm;show fh hb hm
  ·rw[if_neg hb] at q';show⟨1,?_⟩;rwa[il];symm
   (show fh (Int.ofNat_lt.mpr ‹_›) ?_;rwa[xN hil])
   symm;show ez hb (second hle q')
end
section
noncomputable def lM:List Nat:=[48,49,50,51,52,53,54,55,56,57,97,98,99,100,101,102]
noncomputable def yW(b:Int):Int->List Nat->Option Int
 |t,[]=>some t
 |t,c::r=>let d:=fE [c] lM 0;if d<0\/b<=d then none else yW b (if t*b+d>eG then eG+1 else t*b+d) r
theorem Ey{b t c r}:yW b t (c::r)=if fE [c] lM 0<0\/b<=fE [c] lM 0 then none else yW b (if t*b+fE [c] lM 0>eG then eG+1 else t*b+fE [c] lM 0) r:=rfl
noncomputable def mG(b:Int)(l:List Nat):Int:=if l=[] then -1 else(yW b 0 (l.map lo1)).getD (-1)
theorem pV(T:d8 B){b:Int}(hl:eW l)(hz:l.length<=1000000)(hb:2<=b/\b<=36)(q:Q (.int (mG b l)) J):d7 B (n+1) 375 [.str l,.int b] J Q X:=by
 show T.fn (r:=(pU,2,lD)) rfl rfl [_,_,none,none,none] rfl ?_;rw[lD];symm;unfold mG at q;show eB (λh=>?_) (λh=>?_)
 ·rw[if_pos (by simpa using h)] at q;show q
 ·rw[if_neg (by simpa using h)] at q;show⟨hl,hz,?_⟩;have main:∀(xs all:List V) (r:List Nat) (t:Int) (w1 w2:Option V),xs=r.map (λc=>V.str [c])->0<=t->t<=eG+1->Q (.int ((yW b t r).getD (-1))) J->
    For B n (λv U=>some (U.set 3 (some v))) none all %[.asg 4 (.methB (.gv 41 (.str lM)) .find %[.lv 3|.nil]),.ite (.bop false %[.cmp .lt (.lv 4) (.int 0),.cmp .ge (.lv 4) (.lv 1)|.nil]) %[.ret (.neg (.int 1))|.nil] .nil,.asg 2 (.bin .add (.bin .mul (.lv 2) (.lv 1)) (.lv 4)),.ite (.cmp .gt (.lv 2) (.gv 35 (.int 9007199254740991))) %[.asg 2 (.bin .add (.gv 35 (.int 9007199254740991)) (.int 1))|.nil] .nil|.nil]
     (seq B n X %[.ret (.lv 2)|.nil] (fe Q)) xs [some (.str l),some (.int b),some (.int t),w1,w2] J:=by
   intro xs all r
   induction r generalizing xs with
   |nil=>
    intro t w1 w2 e _ _ q;subst e;rwa[List.map_nil,lR];symm;show q
   |cons c r ih=>
    intro t w1 w2 e h0 h1 q;subst e;rwa[List.map_cons,jh];simp only[ia,gh];symm;rw[Ey] at q;show eB (λhd=>?_) (λhd=>eB (λhd2=>?_) (λhd2=>?_))
    ·rw[if_pos (.inl hd)] at q;show q
    ·rw[if_pos (.inr hd2)] at q;show q
    ·rw[if_neg (by intro w;rcases w with w|w;show hd w;show hd2 w)] at q;show⟨.inr (by grind),?_⟩;obtain hp:0<=t*b:=Int.mul_nonneg h0 (by lia);show eB (λh2=>?_) (λh2=>?_)
     ·rw[if_pos (show t*b+fE [c] lM 0>eG from h2)] at q;show ih _ _ _ _ rfl (dt rfl) (dt rfl) q
     ·rw[if_neg (show ¬t*b+fE [c] lM 0>eG from h2)] at q;show ih _ _ _ _ rfl ?_ ?_ q
      ·obtain this:¬fE [c] lM 0<0:=hd;lia
      ·obtain this:¬eG<t*b+fE [c] lM 0:=h2
       grind
  show main _ _ _ _ _ _ rfl (dt rfl) (dt rfl) q
noncomputable def zF:List (List Nat×V):=[([48,120],.int 16),([48,111],.int 8),([48,98],.int 2)]
noncomputable def fQ(l:List Nat):Int:=let k:=(l.take 2).map lo1;if k=[48,120] then 16 else if k=[48,111] then 8 else if k=[48,98] then 2 else 10
theorem yZ(l:List Nat):(eY zF ((l.take 2).map lo1)).getD (.int 10)=.int (fQ l):=by
 unfold fQ eY zF;generalize (l.take 2).map lo1=k;dsimp only
 by_cases h1:k=[48,120]
 ·subst h1;rfl
 ·by_cases h2:k=[48,111]
  ·clear h1;subst h2;rfl
  ·by_cases h3:k=[48,98]
   ·clear h1 h2;subst h3;rfl
   ·rwa[if_neg h1,if_neg h2,if_neg h3];obtain e1:(([48,120]:List Nat)==k)=false:=by simpa using λe=>h1 (by simp[e])
    obtain e2:(([48,111]:List Nat)==k)=false:=by simpa using λe=>h2 (by simp[e])
    obtain e3:(([48,98]:List Nat)==k)=false:=by simpa using λe=>h3 (by simp[e])
    simp only[List.find?_cons,e1,e2,e3];rfl
theorem wY(h:eW l):eW (l.take k):=λc hc=>h c (List.mem_of_mem_take hc)
theorem jo(h:eW l):eW (l.drop k):=λc hc=>h c (List.mem_of_mem_drop hc)
theorem OU:gf (.str l) (.int 0) (.int 2) J Q=Q (.str (l.take 2)) J:=D4 (i:=0) (j:=2)
theorem zt:gf (.str l) (.int 1) .none J Q=Q (.str (l.drop 1)) J:=FL (i:=1)
theorem Ji:gf (.str l) (.int 2) .none J Q=Q (.str (l.drop 2)) J:=FL (i:=2)
theorem Ol:gf (.str l) .none (.int 2) J Q=Q (.str (l.take 2)) J:=FN (j:=2)
theorem OF:gf (.str l) .none (.int 1) J Q=Q (.str (l.take 1)) J:=FN (j:=1)
theorem uW(T:d8 B)(hl:eW l)(q:Q (.int (fQ l)) J):d7 B (n+1) 382 [.str l] J Q X:=by
 show T.fn (r:=(nv,1,jV)) rfl rfl [_] rfl ?_;rw[jV];symm;rwa[OU];symm;show⟨wY hl,?_,?_⟩
 ·rwa[List.length_take];lia
 ·have e:=yZ l;unfold zF at e;rwa[e];show q
end
section
theorem zH(T:d8 B){x:Int}(i:Nat)(e:x=(i:Int))(q:Q (.int (rd l i)) J):d7 B (n+1) 242 [.str l,.int x] J Q X:=by
 subst e;show v3 T q
theorem OK:i<=rd l i:=by unfold rd;show AD
theorem NZ:gf (.str l) (.int i) (.int (i+1)) J Q=Q (.str ((l.take (i+1)).drop i)) J:=D4 (i:=i) (j:=i+1)
theorem Ed{x:Int}(e:x=(i:Int))(e':y=(i:Int)+1):gf (.str l) (.int x) (.int y) J Q=Q (.str ((l.take (i+1)).drop i)) J:=by
 subst e e';show NZ
noncomputable def mi(l:List Nat)(i:Nat):List Nat:=(l.take (i+1)).drop i
noncomputable def kE:List Nat:=[73,110,102,105,110,105,116,121]
noncomputable def Bo(l:List Nat)(s:Nat):Bool:=if rd l s=s then false else decide (rd l s=l.length)
noncomputable def G2(l:List Nat)(a:Nat):Nat:=if [[43],[45]].contains (mi l a) then a+1 else a
noncomputable def uj(l:List Nat)(a d:Nat):Bool:=if d=0 then false else if [[101],[69]].contains (mi l a) then Bo l (G2 l (a+1)) else decide (a=l.length)
noncomputable def kj(l:List Nat):Bool:=
 if l==kE then true else
 if(mi l (rd l 0)==[46])=true then uj l (rd l (rd l 0+1)) (rd l (rd l 0+1)-1) else uj l (rd l 0) (rd l 0)
theorem D2(T:d8 B)(q:Q (.bool (kj l)) J):d7 B (n+2) 389 [.str l] J Q X:=by
 show T.fn (r:=(mH,1,jz)) rfl rfl [_,none,none,none,none] rfl ?_;rw[jz];symm;show eB (λh=>?_) (λh=>?_)
 ·rw[show kj l=_ from if_pos (show(l==kE)=true from h)] at q;show q
 ·rw[show kj l=_ from if_neg (show ¬(l==kE)=true from h)] at q;show zH T 0 rfl ?_;generalize hA:rd l 0=a at q ⊢;symm;rwa[Ed rfl rfl];symm;have tail:∀(a1 d:Nat) (w1 w2:Option V),Q (.bool (uj l a1 d)) J->
    eH B (n+1) X (.cons (.ite (.cmp .eq (.lv 2) (.int 0)) (.cons (.ret (.bool false)) .nil) .nil) (.cons (.ite (.cmp .in_ (.slc (.lv 0) (.lv 1) (.bin .add (.lv 1) (.int 1))) (.tup (.cons (.str [101]) (.cons (.str [69]) .nil)))) (.cons (.asg 4 (.bin .add (.lv 1) (.int 1))) (.cons (.ite (.cmp .in_ (.slc (.lv 0) (.lv 4) (.bin .add (.lv 4) (.int 1))) (.tup (.cons (.str [43]) (.cons (.str [45]) .nil)))) (.cons (.aug 4 .add (.int 1)) .nil) .nil) (.cons (.asg 1 (.call 51 242 (.cons (.lv 0) (.cons (.lv 4) .nil)))) (.cons (.ite (.cmp .eq (.lv 1) (.lv 4)) (.cons (.ret (.bool false)) .nil) .nil) .nil)))) .nil) (.cons (.ret (.cmp .eq (.lv 1) (.callB .len (.cons (.lv 0) .nil)))) .nil)))
     [some (.str l),some (.int a1),some (.int d),w1,w2] J (fe Q):=by
   intro a1 d w1 w2 q;symm;show eB (λh=>?_) (λh=>?_)
   ·rw[show uj l a1 d=_ from if_pos (by simp_all)] at q;show q
   ·rw[show uj l a1 d=_ from if_neg (by simp_all)] at q;rwa[Ed rfl rfl];symm;show eB (λh2=>?_) (λh2=>?_)
    ·rw[if_pos (show([[101],[69]].contains (mi l a1))=true from h2)] at q;rwa[Ed (i:=a1+1) (by simp) (by simp)];symm;show eB (λh3=>?_) (λh3=>?_)
     ·rw[show G2 l (a1+1)=_ from if_pos (show([[43],[45]].contains (mi l (a1+1)))=true from h3)] at q;show zH T (a1+1+1) (by simp) ?_;symm;show eB (λh=>?_) (λh=>?_)
      ·rw[show Bo l _=_ from if_pos (by lia)] at q;show q
      ·rw[show Bo l _=_ from if_neg (by lia)] at q;rw[show ∀a b:Nat,decide ((a:Int)=b)=decide (a=b) from λa b=>by simp[Int.ofNat_inj]];show q
     ·rw[show G2 l (a1+1)=_ from if_neg (show ¬([[43],[45]].contains (mi l (a1+1)))=true from h3)] at q;show zH T (a1+1) (by simp) ?_;symm;show eB (λh=>?_) (λh=>?_)
      ·rw[show Bo l _=_ from if_pos (by lia)] at q;show q
      ·rw[show Bo l _=_ from if_neg (by lia)] at q;rw[show ∀a b:Nat,decide ((a:Int)=b)=decide (a=b) from λa b=>by simp[Int.ofNat_inj]];show q
    ·rw[if_neg (show ¬([[101],[69]].contains (mi l a1))=true from h2)] at q;rw[show ∀a b:Nat,decide ((a:Int)=b)=decide (a=b) from λa b=>by simp[Int.ofNat_inj]];show q
  show eB (λhd=>?_) (λhd=>?_)
  ·rw[if_pos (show(mi l a==[46])=true from hd)] at q;show zH T (a+1) (by simp) ?_;obtain hg:=OK (l:=l) (i:=a+1);generalize hB:rd l (a+1)=b at q hg ⊢;obtain this:=tail b (b-1) (some (.int b)) none q;obtain e:((a:Int)+((b:Int)-a-1))=((b-1:Nat):Int):=by lia
   revert this;symm;rwa[e];show id
  ·rw[if_neg (show ¬(mi l a==[46])=true from hd)] at q;obtain this:=tail a a none none q;revert this;symm;show id
end
section
noncomputable def rQ:Option Int->V
 |some i=> .tup [.int 3,.int i]
 |none=> .tup [.int 4,.int 0]
noncomputable def pA(i:Int):Option (Option Int):=if -eG<=i/\i<=eG then some (some i) else none
noncomputable def A6(m:Bool)(b:List Nat):Option (Option Int):=if mG 10 b<0 then(if kj b then none else some none) else pA (if m then 0-mG 10 b else mG 10 b)
noncomputable def GP(d:Int):Option (Option Int):=if 0<=d then pA d else some none
noncomputable def yu(b:List Nat):List Nat:=if b[0]?==some 45||b[0]?==some 43 then b.drop 1 else b
noncomputable def tb(b:List Nat):Option (Option Int):=if b=[] then some (some 0) else if fQ b≠10 then GP (mG (fQ b) (b.drop 2)) else A6 (b[0]?==some 45) (yu b)
noncomputable def oj(l:List Nat):Option (Option Int):=tb (gw l)
theorem Bb(T:d8 B){i:Int}(h1:∀v,pA i=some v->Q (rQ v) J)(h2:pA i=none->X .num J):d7 B (n+3) 228 [.int i] J Q X:=by
 unfold pA at h1 h2;show Ck T (λa b=>h1 _ (if_pos ⟨a,b⟩)) (λh=>h2 (if_neg h))
theorem IS:∀c∈gw l,c∈l:=by
 intro c h;unfold gw at h;rw[List.mem_reverse] at h;have:=(List.dropWhile_sublist _).subset h;rw[List.mem_reverse] at this;show(List.dropWhile_sublist _).subset this
theorem Hi:(gw l).length<=l.length:=by
 unfold gw;rwa[List.length_reverse];have h1:=(List.dropWhile_sublist (l:=(l.dropWhile gS).reverse) gS).length_le;rw[List.length_reverse] at h1;show Nat.le_trans h1 (List.dropWhile_sublist _).length_le
theorem xX(l:List Nat):2<=fQ l/\fQ l<=36:=by
 unfold fQ;dsimp only
 split
 ·show dt rfl
 ·split
  ·show dt rfl
  ·split<;>show dt rfl
theorem zj(T:d8 B)(ha:eW l)(hz:l.length<=1000000)(h1:∀v,oj l=some v->Q (rQ v) J)(h2:oj l=none->X .num J):d7 B (n+4) 396 [.str l] J Q X:=by
 show T.fn (r:=(rE,1,mq)) rfl rfl [_,none,none,none,none] rfl ?_;rw[mq];symm;show(FH T (n:=n+2) ?_);have ha':eW (gw l):=λc hc=>ha c (IS c hc)
 have hz':(gw l).length<=1000000:=Nat.le_trans Hi hz;have h1:∀v,tb (gw l)=some v->Q (rQ v) J:=h1;have h2:tb (gw l)=none->X .num J:=h2;generalize gw l=b at h1 h2 ha' hz' ⊢;generalize e:tb b=o at h1 h2;symm;show eB (λh=>?_) (λh=>?_)
 ·show h1 _ (e.symm.trans (if_pos (by simpa using h)))
 ·have hb:¬b=[]:=by simpa using h
  have e:=(if_neg hb).symm.trans e;show uW T (n:=n+2) ha' ?_;symm;show eB (λh3=>?_) (λh3=>?_)
  ·have e:=(if_pos h3).symm.trans e;rwa[Ji];symm;show pV T (n:=n+2) (jo ha') (by rwa[List.length_drop];show Nat.le_trans (Nat.sub_le ..) ‹_›) (xX b) ?_;symm;show eB (λh4=>?_) (λh4=>?_)
   ·have e:=(if_pos h4).symm.trans e;show Bb T (λv hv=>?_) λhv=>h2 (e.symm.trans hv)
    symm;show h1 v (e.symm.trans hv)
   ·show h1 _ (e.symm.trans (if_neg h4))
  ·have e:=(if_neg h3).symm.trans e;obtain⟨c,r,rfl⟩:∃c r,b=c::r:=by
    cases b with
    |nil=>show absurd rfl hb
    |cons c r=>show⟨c,r,rfl⟩
   have hs:∀Q':V->Hp->Prop,eO (.str (c::r)) (.int 0) J Q'=Q' (.str [c]) J:=λQ'=>mK (j:=0) rfl (by simp)
   rwa[hs ..];symm;obtain e1:(([c]:List Nat)==[45])=((c::r)[0]?==some 45):=by simp
   obtain e2:(([c]:List Nat)==[43])=((c::r)[0]?==some 43):=by simp
   rwa[e1];have fin:∀b':List Nat,eW b'->b'.length<=1000000->
     A6 ((c::r)[0]?==some 45) b'=o->
     eH B (n+3) X (.cons (.asg 3 (.call 70 375 (.cons (.lv 1) (.cons (.int 10) .nil)))) (.cons (.ite (.cmp .lt (.lv 3) (.int 0)) (.cons (.ite (.call 72 389 (.cons (.lv 1) .nil)) (.cons (.raise 1 (.cons (.str [110,111,32,119,104,111,108,101,32,110,117,109,98,101,114]) .nil)) .nil) .nil) (.cons (.ret (.tup (.cons (.gv 10 (.int 4)) (.cons (.int 0) .nil)))) .nil)) .nil) (.cons (.ret (.call 49 228 (.cons (.ite (.lv 4) (.bin .sub (.int 0) (.lv 3)) (.lv 3)) .nil))) .nil)))
      [some (.str l),some (.str b'),some (.int (fQ (c::r))),none,some (.bool ((c::r)[0]?==some 45))] J (fe Q):=by
    intro b' hb1 hb2 e;symm;show pV T (n:=n+2) hb1 hb2 (dt rfl) ?_;symm;show eB (λh4=>?_) (λh4=>?_)
    ·have e:=(if_pos h4).symm.trans e;show D2 T (n:=n+1) ?_;symm;show eB (λh5=>?_) (λh5=>?_)
     ·show⟨by show ju,h2 (e.symm.trans (if_pos h5))⟩
     ·show h1 _ (e.symm.trans (if_neg h5))
    ·have e:=(if_neg h4).symm.trans e;show eB (λh5=>?_) (λh5=>?_)
     ·rw[if_pos h5] at e;show Bb T (λv hv=>?_) λhv=>h2 (e.symm.trans hv)
      symm;show h1 v (e.symm.trans hv)
     ·rw[if_neg h5] at e;show Bb T (λv hv=>?_) λhv=>h2 (e.symm.trans hv)
      symm;show h1 v (e.symm.trans hv)
   show eB (λh5=>?_) (λh5=>?_)
   ·rwa[zt];rw[show yu (c::r)=_ from if_pos ((Bool.or_eq_true ..).mpr (.inl h5))] at e;have:=fin ((c::r).drop 1) (jo ha') (by rwa[List.length_drop];show Nat.le_of_lt ‹_›) e;rw[h5] at this ⊢;revert this;symm;show id
   ·rwa[hs ..];symm;rwa[e2];have h5':((c::r)[0]?==some 45)=false:=by simpa using h5
    show eB (λh6=>?_) (λh6=>?_)
    ·rwa[zt];rw[show yu (c::r)=_ from if_pos ((Bool.or_eq_true ..).mpr (.inr h6))] at e;have:=fin ((c::r).drop 1) (jo ha') (by rwa[List.length_drop];show Nat.le_of_lt ‹_›) e;rw[h5'] at this ⊢;revert this;symm;show id
    ·obtain h6':((c::r)[0]?==some 43)=false:=by simpa using h6
     rw[show yu (c::r)=_ from if_neg (by rw[h5',h6'];show dt rfl)] at e;have:=fin (c::r) ha' hz' e;rw[h5'] at this ⊢;revert this;symm;show id
end
section
set_option genCtorIdx true in
inductive SV where
 |undef
 |null
 |bool (b:Bool)
 |num (i:Int)
 |nan
 |str (l:List Nat)
 |obj (k:Nat)
noncomputable def tm(b:Bool):Int:=if b then 1 else 0
noncomputable def SV.v:SV->V
 |.undef=> .tup [.int 0,.int 0]
 |.null=> .tup [.int 1,.int 0]
 |.bool b=> .tup [.int 2,.int (tm b)]
 |.num i=> .tup [.int 3,.int i]
 |.nan=> .tup [.int 4,.int 0]
 |.str l=> .tup [.int 5,.str l]
 |.obj k=> .tup [.int 6,.int k]
def S3(l:List Nat):Prop:=eW l/\l.length<=1000000
def SV.ok:SV->Prop
 |.str l=>S3 l
 |_=>True
noncomputable def Ap:SV->Option (Option Int)
 |.num i=>some (some i)
 |.bool b=>some (some (tm b))
 |.str l=>oj l
 |.null=>some (some 0)
 |_=>some none
theorem ux(T:d8 B){v:SV}(ok:v.ok)(h1:∀r,Ap v=some r->Q (rQ r) J)(h2:Ap v=none->X .num J):d7 B (n+5) 403 [v.v] J Q X:=by
 show T.fn (r:=(uw,1,o7)) rfl rfl [_,none] rfl ?_;rw[o7];cases v with
 |str l=>
  simp only[SV.v];symm;show zj T ok.1 ok.2 (λr hr=>?_) h2;symm;show h1 r hr
 |num i=>simp only[SV.v];symm;show h1 _ rfl
 |bool b=>simp only[SV.v];symm;show h1 _ rfl
 |null=>simp only[SV.v];symm;show h1 _ rfl
 |undef=>simp only[SV.v];symm;show h1 _ rfl
 |nan=>simp only[SV.v];symm;show h1 _ rfl
 |obj k=>simp only[SV.v];symm;show h1 _ rfl
noncomputable def hG(v:SV)(o:Int):Option Int:=match v with
 |.undef=>some o
 |v=>(Ap v).map λr=>r.getD 0
theorem jq(T:d8 B){v:SV}{o r:Int}(ok:v.ok)(h:hG v o=some r)(q:Q (.int r) J):d7 B (n+6) 459 [v.v,.int o] J Q X:=by
 show T.fn (r:=(mI,2,jB)) rfl rfl [_,_,none] rfl ?_;rw[jB];have main:∀{v:SV},v.ok->(Ap v).map (λr=>r.getD 0)=some r->d7 B (n+5) 403 [v.v] J (pW (λd ak=>fin false d ak λd aa=>eH B (n+5) X %[.ret (.ite (.cmp .eq (.sub (.lv 2) (.int 0)) (.gv 9 (.int 3))) (.sub (.lv 2) (.int 1)) (.int 0))|.nil] [some v.v,some (.int o),some d] aa (fe Q)) ()) X:=by
  intro v ok h;show d6 (Option.map_eq_some_iff.mp h) λa ha e=>?_
  show ux T ok (λr' hr=>?_) (λhr=>by rw[ha] at hr;injection hr);rw[ha] at hr;injection hr with hr;subst hr
  cases a with
  |none=>simp only[rQ];symm;clear h;subst e;show q
  |some i=>simp only[rQ];symm;clear h;subst e;show q
 cases v with
 |undef=>simp only[SV.v];symm;(injection h with h;subst h);show q
 |null=>show main ok h
 |bool b=>show main ok h
 |num i=>show main ok h
 |nan=>show main ok h
 |str l=>show main ok h
 |obj k=>show main ok h
end
section
noncomputable def jn(s:List Nat):List (List Nat)->List Nat
 |[]=>[]
 |[x]=>x
 |x::r=>x++s++jn s r
theorem vD(s:List Nat):∀ls:List (List Nat),(Str.join (sv s) (ls.map sv)).cps.toList=jn s ls
 |[]=>rfl
 |[x]=>rfl
 |x::y::r=>by
  obtain ih:=vD s (y::r);show((sv x++sv s++Str.join (sv s) (sv y::r.map sv)):Str).cps.toList=x++s++jn s (y::r)
  rwa[ih.symm];show(((sv x).cps++(sv s).cps)++(Str.join (sv s) ((y::r).map sv)).cps).toList=_
  simp[sv]
theorem zT(s:List Nat)(ls:List (List Nat)):iW s ls=jn s ls:=by
 unfold iW Txt.join;show d4 (StrLaws.glued_eq_join ..) (d4 (vD ..) rfl)
theorem Mg{l r}:iZ (.str l::r)=(iZ r).map (l::·):=rfl
theorem qR:∀ls:List (List Nat),iZ (ls.map .str)=some ls
 |[]=>rfl
 |l::r=>by rw[List.map_cons,Mg,qR r];rfl
theorem ID{s x y r}:jn s (x::y::r)=x++s++jn s (y::r):=rfl
theorem tM:∀cs:List Nat,jn [] (cs.map λc=>[c])=cs
 |[]=>rfl
 |[c]=>rfl
 |c::d::r=>by
  have:=tM (d::r);rwa[List.map_cons,List.map_cons];rwa[ID];rw[List.map_cons] at this;rwa[this];rfl
theorem jG{x:fA}:(J++x::τ)[J.length]?=some x:=by simp
theorem wo{x y:fA}:(J++x::τ).set J.length y=J++y::τ:=by simp
theorem w0{v:V}:gq .append (.loc J.length) [v] (J++.lst xs::τ) Q=(xs.length<=1000000/\Q .none (J++.lst (xs++[v])::τ)):=by
 show i6 _ (λl=>l.length<=1000000/\Q .none ((J++.lst xs::τ).set J.length (.lst (l++[v]))))=_;rwa[jG];show(xs.length<=1000000/\Q .none ((J++.lst xs::τ).set J.length (.lst (xs++[v]))))=_;show d4 wo rfl
theorem Lz:gq .reverse (.loc J.length) [] (J++.lst xs::τ) Q=Q .none (J++.lst xs.reverse::τ):=by
 show i6 _ (λl=>Q .none ((J++.lst xs::τ).set J.length (.lst l.reverse)))=_;rwa[jG];show Q .none ((J++.lst xs::τ).set J.length (.lst xs.reverse))=_;show d4 wo rfl
theorem xO{s:List Nat}:gq .join (.str s) [.loc J.length] (J++.lst (ls.map .str)::τ) Q=(gU s ls<=eh/\Q (.str (jn s ls)) (J++.lst (ls.map .str)::τ)):=by
 show i6 _ (λl=>fj (iZ l) λl'=>gU s l'<=eh/\Q (.str (iW s l')) (J++.lst (ls.map .str)::τ))=_;rwa[jG];show fj (iZ (ls.map .str)) _=_;rwa[qR ..];show(_/\Q (.str (iW s ls)) _)=_;show d4 (zT ..) rfl
theorem xW{s:List Nat}:gq .join (.str s) [.lst (ls.map .str)] J Q=(gU s ls<=eh/\Q (.str (jn s ls)) J):=by
 show fj (iZ (ls.map .str)) (λls=>gU s ls<=eh/\Q (.str (iW s ls)) J)=_;rwa[qR ..];show(_/\Q (.str (iW s ls)) _)=_;show d4 (zT ..) rfl
theorem tN{k:Prop}:mB .append (.loc J.length) (J++.lst xs::τ) k=k:=lP (by show Nat.beq _ (td (J++.lst xs::τ)[J.length]?)=true;show d4 jG rfl)
theorem Ki{k:Prop}:mB .reverse (.loc J.length) (J++.lst xs::τ) k=k:=lP (by show Nat.beq _ (td (J++.lst xs::τ)[J.length]?)=true;show d4 jG rfl)
noncomputable def g7:List Nat:=[48,49,50,51,52,53,54,55,56,57,97,98,99,100,101,102,103,104,105,106,107,108,109,110,111,112,113,114,115,116,117,118,119,120,121,122]
noncomputable def sg(d:Nat):Nat:=g7.getD d 0
noncomputable def gi(b:Nat):Nat->Nat->List Nat
 |0,_=>[]
 |f+1,r=>if r=0 then [] else sg (r%b)::gi b f (r/b)
noncomputable def fV(i:Int)(b:Nat):List Nat:=if i=0 then [48] else(if i<0 then [45] else [])++(gi b 64 i.natAbs).reverse
theorem Fz(cs:List Nat):(cs.map λc=>V.str [c])=(cs.map λc=>[c]).map .str:=by simp[List.map_map,Function.comp]
theorem Cm(cs:List Nat):gU [] (cs.map λc=>[c])=cs.length:=by
 unfold gU
 induction cs with
 |nil=>rfl
 |cons c r ih=>simp only[List.map_cons,List.sum_cons,List.length_cons,List.length_nil] at ih ⊢;lia
theorem iU{b f r}:gi b (f+1) r=if r=0 then [] else sg (r%b)::gi b f (r/b):=rfl
theorem C0(b:Nat):∀f r,(gi b f r).length<=f
 |0,_=>Nat.zero_le _
 |f+1,r=>by
  rwa[iU]
  split
  ·simp
  ·rwa[List.length_cons];obtain this:=C0 b f (r/b);show Nat.lt_succ_of_le ‹_›
theorem B2(T:d8 B){i:Int}{b:Nat}(hi:i.natAbs<2^64)(hb:2<=b/\b<=36)(q:∀τ,Q (.str (fV i b)) (J++τ)):d7 B (n+1) 548 [.int i,.int b] J Q X:=by
 show T.fn (r:=(ue,2,pq)) rfl rfl [_,_,none,none] rfl ?_;rw[pq];symm;show eB (λh=>?_) (λh=>?_)
 ·have:=q [];rw[List.append_nil] at this;unfold fV at this;rw[if_pos h] at this;show this
 ·have q':∀τ,Q (.str ((if i<0 then [45] else [])++(gi b 64 i.natAbs).reverse)) (J++τ):=by
   intro τ;have:=q τ;unfold fV at this;rw[if_neg h] at this;show this
  clear q;have main:∀(k r:Nat) (xs:List Nat),r<2^k->xs.length+k<=100->(∀τ,Q (.str ((if i<0 then [45] else [])++(xs++gi b k r).reverse)) (J++τ))->
    ∃m,wz B n (.cmp .gt (.lv 2) (.int 0)) (.cons (.expr (.methB (.lv 3) .append (.cons (.sub (.gv 80 (.str g7)) (.bin .mod (.lv 2) (.lv 1))) .nil))) (.cons (.asg 2 (.bin .fdiv (.lv 2) (.lv 1))) .nil))
     (seq B n X %[.ite (.cmp .lt (.lv 0) (.int 0)) %[.expr (.methB (.lv 3) .append %[.str [45]|.nil])|.nil] .nil,.expr (.methB (.lv 3) .reverse .nil),.ret (.methB (.str []) .join %[.lv 3|.nil])|.nil] (fe Q)) m [some (.int i),some (.int b),some (.int r),some (.loc J.length)] (J++[.lst (xs.map λc=> .str [c])]):=by
   intro k;have stop:∀(r:Nat) (xs:List Nat),r=0->xs.length<=100->(∀τ,Q (.str ((if i<0 then [45] else [])++xs.reverse)) (J++τ))->∃m,wz B n (.cmp .gt (.lv 2) (.int 0)) %[.expr (.methB (.lv 3) .append %[.sub (.gv 80 (.str g7)) (.bin .mod (.lv 2) (.lv 1))|.nil]),.asg 2 (.bin .fdiv (.lv 2) (.lv 1))|.nil]
     (seq B n X %[.ite (.cmp .lt (.lv 0) (.int 0)) %[.expr (.methB (.lv 3) .append %[.str [45]|.nil])|.nil] .nil,.expr (.methB (.lv 3) .reverse .nil),.ret (.methB (.str []) .join %[.lv 3|.nil])|.nil] (fe Q)) m [some (.int i),some (.int b),some (.int r),some (.loc J.length)] (J++[.lst (xs.map λc=> .str [c])]):=by
    intro r xs hr hx q;show⟨1,?_⟩;rwa[il];symm;show ez (by simp_all) ?_;have fin:∀ys:List Nat,ys.length<=1000->(∀τ,Q (.str ys.reverse) (J++τ))->eH B n X %[.expr (.methB (.lv 3) .reverse .nil),.ret (.methB (.str []) .join %[.lv 3|.nil])|.nil] [some (.int i),some (.int b),some (.int r),some (.loc J.length)] (J++[.lst (ys.map λc=> .str [c])]) (fe Q):=by
     intro ys hy q;symm;rwa[Ki,Lz];symm;rwa[List.map_reverse.symm,Fz ..,xO,Cm ..,tM ..];show⟨by rwa[List.length_reverse];unfold eh;show fY ‹_› rfl,?_⟩;symm;show q _
    show eB (λh=>?_) (λh=>?_)
    ·rwa[tN,w0];show⟨by rwa[List.length_map ..];show fY ‹_› rfl,?_⟩;have:=fin (xs++[45]) (by rwa[List.length_append,List.length_singleton];show Nat.lt_of_le_of_lt ‹_› (dt rfl)) (λτ=>by have:=q τ;rw[if_pos h] at this;rwa[List.reverse_append];show this);rw[List.map_append] at this;revert this;symm;show id
    ·show fin xs (fY ‹_› rfl) (λτ=>by have:=q τ;rw[if_neg h] at this;show this)
   induction k with
   |zero=>
    intro r xs hr hx q;show stop r xs (by simp_all) (by assumption) λτ=>?_
    have:=q τ;rw[show gi b 0 r=[] from rfl,List.append_nil] at this;show this
   |succ k ih=>
    intro r xs hr hx q
    by_cases h0:r=0
    ·show stop r xs h0 (by lia) λτ=>?_
     have:=q τ;rw[iU,if_pos h0,List.append_nil] at this;show this
    ·obtain hlt:r%b<36:=Nat.lt_of_lt_of_le (Nat.mod_lt _ (by lia)) hb.2;have hs:r%b<g7.length:=hlt
     obtain⟨m,hm⟩:=ih (r/b) (xs++[g7[r%b]]) (by
      obtain this:r/b<=r/2:=Nat.div_le_div_left hb.1 (dt rfl);obtain this:2^(k+1)=2*2^k:=by rwa[Nat.pow_succ ..];lia
      lia) (by rwa[List.length_append,List.length_singleton];lia) (λτ=>by
       have:=q τ;rw[iU,if_neg h0] at this;rwa[List.append_assoc ..,List.singleton_append];rw[show sg (r%b)=g7[r%b] by unfold sg;rwa[List.getD_eq_getElem?_getD,List.getElem?_eq_getElem hs];rfl] at this
       show this)
     show⟨m+1,?_⟩;rwa[il];symm
     (show fh (by lia) ?_;rwa[tN])
     show⟨by lia,?_⟩;rwa[mK (j:=r%b) (by simp) hs];symm;rwa[w0];show⟨by rwa[List.length_map ..];lia,?_⟩;symm;show⟨by lia,by lia,?_⟩;rw[List.map_append] at hm;rwa[(show((r:Int)/(b:Int))=((r/b:Nat):Int) by simp)];show hm
  rwa[rg];show eB (λh'=>?_) (λh'=>?_)
  ·obtain this:=main 64 i.natAbs [] hi (dt rfl) (by intro τ;rwa[List.nil_append ..];show q' τ);rwa[(show(0-i)=(i.natAbs:Int) by grind)];show this
  ·have:=main 64 i.natAbs [] hi (dt rfl) (by intro τ;rwa[List.nil_append ..];show q' τ);rw[Int.natAbs_of_nonneg (Int.not_lt.mp ‹_›)] at this;show this
end
section
structure S where
 L:List Int:=[]
 nx:Nat:=0
 A0:List V:=[]
 A1:List V:=[]
 cl:Option V:=none
 sd:Option V:=none
 mout:List V:=[]
 mtold:List V:=[]
 ths:List V:=[]
 lists:List (Int×V):=[]
 called:V:=.tup [.int 0,.int 0]
 said:V:=.tup [.int 0,.int 0]
 wtold:List V:=[]
 wrongs:List V:=[]
 wout:List V:=[]
 made:Int:=22
@[reducible] noncomputable def S.pn(s:S)(i:Nat):S:={s with nx:=i}
noncomputable def qJ:List Nat:=[110,97,109,101]
noncomputable def nH:List Nat:=[109,101,115,115,97,103,101]
noncomputable def tR(d:Nat)(num sort proto:Int)(items:List V)(native:Int):fA:=.sd [(`number,.int num),(`sort,.int sort),(`names,.loc (d+1)),(`slots,.loc (d+2)),(`getters,.loc (d+3)),(`setters,.loc (d+4)),(`proto,.int proto),(`items,.lst items),(`code,.none),(`native,.int native),(`home,.int (-1))]
noncomputable def mD:List (List Nat×V):=[(`heap,.inst 182 2),(`exprs,.loc 5),(`stmts,.loc 6),(`steps,.int 0),(`most,.int 1),(`deep,.int 0),(`most_deep,.int 44),(`out,.loc 7),(`env,.none),(`globals,.inst 203 87),(`this,.tup [.int 0,.int 0]),(`home,.int (-1)),(`told,.loc 8),(`watch,.inst 749 9),(`protos,.loc 10),(`class_protos,.loc 11),(`binder,.inst 777 12),(`maker,.inst 805 13),(`hoister,.inst 826 14),(`raised,.none),(`calling,.int 0)]
noncomputable def base:List V:=[.inst 140 15,.inst 140 20,.inst 140 25,.inst 140 30,.inst 140 35,.inst 140 40,.inst 140 46,.inst 140 51,.inst 140 56,.inst 140 61,.inst 140 66,.inst 140 71,.inst 140 76,.inst 140 82,.inst 140 90,.inst 140 95,.inst 140 100,.inst 140 105,.inst 140 110,.inst 140 115,.inst 140 120,.inst 140 125]
noncomputable def wD(s:S):List (List Nat×V):=[(`things,.lst [.int 18,.int 19,.int 20,.int 21]),(`lists,.loc 130),(`called,s.called),(`said,s.said),(`told,.loc 131),(`wrongs,.loc 132),(`out,.loc 133),(`made,.int s.made)]
noncomputable def P(s:S):Hp:=[.sd [(`nums,.lst (s.L.map .int)),(`next,.int s.nx)],
 .sd mD,
 .sd [(`things,.loc 3),(`natives,.loc 4)],
 .lst (base++s.ths),
 .nd [(2,.inst 539 45),(3,.inst 572 81),(1,.inst 633 89)],
 .nd [],
 .nd [],
 .lst s.mout,
 .lst s.mtold,
 .sd [],
 .nd [(0,.int 0),(1,.int 1),(2,.int 2),(3,.int 3),(4,.int 4),(5,.int 5)],
 .nd [],
 .sd [],
 .sd [],
 .sd [],
 tR 15 0 0 (-1) [] 0,
 .lst [],
 .sd [],
 .sd [],
 .sd [],
 tR 20 1 0 0 [] 0,
 .lst [],
 .sd [],
 .sd [],
 .sd [],
 tR 25 2 0 0 [] 0,
 .lst [],
 .sd [],
 .sd [],
 .sd [],
 tR 30 3 0 0 [] 0,
 .lst [.str `name,.str `message],
 .sd [(`name,.tup [.int 5,.str `Error]),(`message,.tup [.int 5,.str []])],
 .sd [],
 .sd [],
 tR 35 4 0 0 [] 0,
 .lst [.str `charAt,.str `indexOf,.str `includes,.str `slice,.str `toUpperCase,.str `toLowerCase,.str `concat],
 .sd [(`charAt,.tup [.int 6,.int 6]),(`indexOf,.tup [.int 6,.int 7]),(`includes,.tup [.int 6,.int 8]),(`slice,.tup [.int 6,.int 9]),(`toUpperCase,.tup [.int 6,.int 10]),(`toLowerCase,.tup [.int 6,.int 11]),(`concat,.tup [.int 6,.int 12])],
 .sd [],
 .sd [],
 tR 40 5 0 0 [] 0,
 .lst [.str `toString],
 .sd [(`toString,.tup [.int 6,.int 13])],
 .sd [],
 .sd [],
 .sd [],
 tR 46 6 2 2 [] 201,
 .lst [],
 .sd [],
 .sd [],
 .sd [],
 tR 51 7 2 2 [] 202,
 .lst [],
 .sd [],
 .sd [],
 .sd [],
 tR 56 8 2 2 [] 203,
 .lst [],
 .sd [],
 .sd [],
 .sd [],
 tR 61 9 2 2 [] 204,
 .lst [],
 .sd [],
 .sd [],
 .sd [],
 tR 66 10 2 2 [] 205,
 .lst [],
 .sd [],
 .sd [],
 .sd [],
 tR 71 11 2 2 [] 206,
 .lst [],
 .sd [],
 .sd [],
 .sd [],
 tR 76 12 2 2 [] 207,
 .lst [],
 .sd [],
 .sd [],
 .sd [],
 .sd [],
 tR 82 13 2 2 [] 301,
 .lst [],
 .sd [],
 .sd [],
 .sd [],
 .sd [(`cells,.loc 88),([117,112],.none)],
 .sd [(`print,.lst [.tup [.int 6,.int 14],.int 2]),(`String,.lst [.tup [.int 6,.int 15],.int 2]),(`Number,.lst [.tup [.int 6,.int 16],.int 2]),(`undefined,.lst [.tup [.int 0,.int 0],.int 2]),(`NaN,.lst [.tup [.int 4,.int 0],.int 2]),(`Error,.lst [.tup [.int 6,.int 17],.int 2])],
 .sd [],
 tR 90 14 2 2 [] 101,
 .lst [],
 .sd [],
 .sd [],
 .sd [],
 tR 95 15 2 2 [] 102,
 .lst [],
 .sd [],
 .sd [],
 .sd [],
 tR 100 16 2 2 [] 103,
 .lst [],
 .sd [],
 .sd [],
 .sd [],
 tR 105 17 2 2 [] 104,
 .lst [.str `prototype],
 .sd [(`prototype,.tup [.int 6,.int 3])],
 .sd [],
 .sd [],
 tR 110 18 1 1 s.A0 0,
 .lst [],
 .sd [],
 .sd [],
 .sd [],
 tR 115 19 1 1 s.A1 0,
 .lst [],
 .sd [],
 .sd [],
 .sd [],
 tR 120 20 3 3 [] 0,
 .lst (s.cl.toList.map (λ_=> .str qJ)++s.sd.toList.map λ_=> .str nH),
 .sd (s.cl.toList.map (λv=>(qJ,v))++s.sd.toList.map λv=>(nH,v)),
 .sd [],
 .sd [],
 tR 125 21 0 0 [] 0,
 .lst [],
 .sd [],
 .sd [],
 .sd [],
 .nd s.lists,
 .lst s.wtold,
 .lst s.wrongs,
 .lst s.wout,
 .sd (wD s)]
noncomputable def I8:List V:=[.inst 140 15,.inst 140 20,.inst 140 25,.inst 140 30,.inst 140 35,.inst 140 40,.inst 140 46,.inst 140 51,.inst 140 56,.inst 140 61,.inst 140 66,.inst 140 71,.inst 140 76,.inst 140 82,.inst 140 90,.inst 140 95,.inst 140 100,.inst 140 105]
noncomputable def P0(s:S):Hp:=[.sd [(`nums,.lst (s.L.map .int)),(`next,.int s.nx)],
 .sd mD,
 .sd [(`things,.loc 3),(`natives,.loc 4)],
 .lst (I8),
 .nd [(2,.inst 539 45),(3,.inst 572 81),(1,.inst 633 89)],
 .nd [],
 .nd [],
 .lst s.mout,
 .lst s.mtold,
 .sd [],
 .nd [(0,.int 0),(1,.int 1),(2,.int 2),(3,.int 3),(4,.int 4),(5,.int 5)],
 .nd [],
 .sd [],
 .sd [],
 .sd [],
 tR 15 0 0 (-1) [] 0,
 .lst [],
 .sd [],
 .sd [],
 .sd [],
 tR 20 1 0 0 [] 0,
 .lst [],
 .sd [],
 .sd [],
 .sd [],
 tR 25 2 0 0 [] 0,
 .lst [],
 .sd [],
 .sd [],
 .sd [],
 tR 30 3 0 0 [] 0,
 .lst [.str `name,.str `message],
 .sd [(`name,.tup [.int 5,.str `Error]),(`message,.tup [.int 5,.str []])],
 .sd [],
 .sd [],
 tR 35 4 0 0 [] 0,
 .lst [.str `charAt,.str `indexOf,.str `includes,.str `slice,.str `toUpperCase,.str `toLowerCase,.str `concat],
 .sd [(`charAt,.tup [.int 6,.int 6]),(`indexOf,.tup [.int 6,.int 7]),(`includes,.tup [.int 6,.int 8]),(`slice,.tup [.int 6,.int 9]),(`toUpperCase,.tup [.int 6,.int 10]),(`toLowerCase,.tup [.int 6,.int 11]),(`concat,.tup [.int 6,.int 12])],
 .sd [],
 .sd [],
 tR 40 5 0 0 [] 0,
 .lst [.str `toString],
 .sd [(`toString,.tup [.int 6,.int 13])],
 .sd [],
 .sd [],
 .sd [],
 tR 46 6 2 2 [] 201,
 .lst [],
 .sd [],
 .sd [],
 .sd [],
 tR 51 7 2 2 [] 202,
 .lst [],
 .sd [],
 .sd [],
 .sd [],
 tR 56 8 2 2 [] 203,
 .lst [],
 .sd [],
 .sd [],
 .sd [],
 tR 61 9 2 2 [] 204,
 .lst [],
 .sd [],
 .sd [],
 .sd [],
 tR 66 10 2 2 [] 205,
 .lst [],
 .sd [],
 .sd [],
 .sd [],
 tR 71 11 2 2 [] 206,
 .lst [],
 .sd [],
 .sd [],
 .sd [],
 tR 76 12 2 2 [] 207,
 .lst [],
 .sd [],
 .sd [],
 .sd [],
 .sd [],
 tR 82 13 2 2 [] 301,
 .lst [],
 .sd [],
 .sd [],
 .sd [],
 .sd [(`cells,.loc 88),([117,112],.none)],
 .sd [(`print,.lst [.tup [.int 6,.int 14],.int 2]),(`String,.lst [.tup [.int 6,.int 15],.int 2]),(`Number,.lst [.tup [.int 6,.int 16],.int 2]),(`undefined,.lst [.tup [.int 0,.int 0],.int 2]),(`NaN,.lst [.tup [.int 4,.int 0],.int 2]),(`Error,.lst [.tup [.int 6,.int 17],.int 2])],
 .sd [],
 tR 90 14 2 2 [] 101,
 .lst [],
 .sd [],
 .sd [],
 .sd [],
 tR 95 15 2 2 [] 102,
 .lst [],
 .sd [],
 .sd [],
 .sd [],
 tR 100 16 2 2 [] 103,
 .lst [],
 .sd [],
 .sd [],
 .sd [],
 tR 105 17 2 2 [] 104,
 .lst [.str `prototype],
 .sd [(`prototype,.tup [.int 6,.int 3])],
 .sd [],
 .sd []]
end
section
variable{s:S}
theorem lV:fy (.inst 889 1) `heap (P s++τ) Q=Q (.inst 182 2) (P s++τ):=by ac_rfl
theorem Lm:fy (.inst 889 1) `out (P s++τ) Q=Q (.loc 7) (P s++τ):=by ac_rfl
theorem Jx:fy (.inst 889 1) `told (P s++τ) Q=Q (.loc 8) (P s++τ):=by ac_rfl
theorem Dr:fy (.inst 889 1) `protos (P s++τ) Q=Q (.loc 10) (P s++τ):=by ac_rfl
theorem kr:fy (.inst 182 2) `things (P s++τ) Q=Q (.loc 3) (P s++τ):=by ac_rfl
theorem Qg:fy (.inst 182 2) `natives (P s++τ) Q=Q (.loc 4) (P s++τ):=by ac_rfl
theorem Df:eO (.loc 134) (.str `things) (P s++τ) Q=Q (.lst [.int 18,.int 19,.int 20,.int 21]) (P s++τ):=by ac_rfl
theorem rR:eO (.loc 134) (.str `lists) (P s++τ) Q=Q (.loc 130) (P s++τ):=by ac_rfl
theorem Dz:eO (.loc 134) (.str `called) (P s++τ) Q=Q (s.called) (P s++τ):=by ac_rfl
theorem Jv:eO (.loc 134) (.str `said) (P s++τ) Q=Q (s.said) (P s++τ):=by ac_rfl
theorem Jy:eO (.loc 134) (.str `told) (P s++τ) Q=Q (.loc 131) (P s++τ):=by ac_rfl
theorem Du:eO (.loc 134) (.str `wrongs) (P s++τ) Q=Q (.loc 132) (P s++τ):=by ac_rfl
theorem LC:eO (.loc 134) (.str `out) (P s++τ) Q=Q (.loc 133) (P s++τ):=by ac_rfl
theorem ED:eO (.loc 134) (.str `made) (P s++τ) Q=Q (.int s.made) (P s++τ):=by ac_rfl
theorem D6:eO (.loc 0) (.str `nums) (P s++τ) Q=Q (.lst (s.L.map .int)) (P s++τ):=by ac_rfl
theorem DH:eO (.loc 0) (.str `next) (P s++τ) Q=Q (.int s.nx) (P s++τ):=by ac_rfl
theorem Aw{v:V}(h:(base++s.ths)[i]?=some v):eO (.loc 3) (.int i) (P s++τ) Q=Q v (P s++τ):=by
 obtain e:eO (.loc 3) (.int i) (P s++τ) Q=match (iM i (base++s.ths).length).bind λj=>(base++s.ths)[j]? with|some d=>Q d (P s++τ)|none=>False:=by ac_rfl
 rwa[e,FD.symm];unfold As;show d4 (if_pos (og)) (d4 (Int.toNat_natCast ..) (d4 h rfl))
theorem IV:eO (.loc 3) (.int 18) (P s++τ) Q=Q (.inst 140 110) (P s++τ):=Aw (i:=18) rfl
theorem Hq:eO (.loc 3) (.int 19) (P s++τ) Q=Q (.inst 140 115) (P s++τ):=Aw (i:=19) rfl
theorem Qu:eO (.loc 3) (.int 20) (P s++τ) Q=Q (.inst 140 120) (P s++τ):=Aw (i:=20) rfl
theorem Q9:eO (.loc 3) (.int 21) (P s++τ) Q=Q (.inst 140 125) (P s++τ):=Aw (i:=21) rfl
theorem MN:je .len [.loc 3] (P s++τ) Q=Q (.int (base++s.ths).length) (P s++τ):=by ac_rfl
theorem MH{k:Prop}:mB .append (.loc 7) (P s++τ) k=k:=lP (by ac_rfl)
theorem N8{v:V}:gq .append (.loc 7) [v] (P s++τ) Q=(s.mout.length<=1000000/\Q .none (P {s with mout:=s.mout++[v]}++τ)):=by ac_rfl
theorem J8{k:Prop}:mB .append (.loc 8) (P s++τ) k=k:=lP (by ac_rfl)
theorem NK{v:V}:gq .append (.loc 8) [v] (P s++τ) Q=(s.mtold.length<=1000000/\Q .none (P {s with mtold:=s.mtold++[v]}++τ)):=by ac_rfl
theorem Ig{k:Prop}:mB .append (.loc 131) (P s++τ) k=k:=lP (by ac_rfl)
theorem KH{v:V}:gq .append (.loc 131) [v] (P s++τ) Q=(s.wtold.length<=1000000/\Q .none (P {s with wtold:=s.wtold++[v]}++τ)):=by ac_rfl
theorem FI{k:Prop}:mB .append (.loc 132) (P s++τ) k=k:=lP (by ac_rfl)
theorem Iu{v:V}:gq .append (.loc 132) [v] (P s++τ) Q=(s.wrongs.length<=1000000/\Q .none (P {s with wrongs:=s.wrongs++[v]}++τ)):=by ac_rfl
theorem JW{k:Prop}:mB .append (.loc 133) (P s++τ) k=k:=lP (by ac_rfl)
theorem Gu{v:V}:gq .append (.loc 133) [v] (P s++τ) Q=(s.wout.length<=1000000/\Q .none (P {s with wout:=s.wout++[v]}++τ)):=by ac_rfl
theorem Om{k:Prop}:mB .append (.loc 3) (P s++τ) k=k:=lP (by ac_rfl)
theorem QU{v:V}:gq .append (.loc 3) [v] (P s++τ) Q=((base++s.ths).length<=1000000/\Q .none (P {s with ths:=s.ths++[v]}++τ)):=by
 obtain this:∀l:List V,l=base++(s.ths++[v])->((P s++τ).set 3 (.lst l))=P {s with ths:=s.ths++[v]}++τ:=by intro l e;subst e;ac_rfl
 show((base++s.ths).length<=1000000/\Q .none ((P s++τ).set 3 (.lst ((base++s.ths)++[v]))))=_;show d4 (this _ (by rw[List.append_assoc])) rfl
theorem LZ{K:V->Hp->Prop}:sQ (.loc 0) (.str `next) (P s++τ) K=K (.int s.nx) (P s++τ):=by ac_rfl
theorem Lr:iu (.loc 0) (.str `next) (.int i) (P s++τ) K=(2<=10000/\K (P (s.pn i)++τ)):=by ac_rfl
theorem LK{K:V->Hp->Prop}:sQ (.loc 134) (.str `made) (P s++τ) K=K (.int s.made) (P s++τ):=by ac_rfl
theorem Nh{i:Int}:iu (.loc 134) (.str `made) (.int i) (P s++τ) K=(8<=10000/\K (P {s with made:=i}++τ)):=by ac_rfl
end
section
variable{s:S}
theorem Oi:fz 6 100 1106 [.inst 889 1,.int 4,.str `charAt] (P s++τ)=some (.int 201,P s++τ):=by ac_rfl
theorem Oq:fz 6 100 1106 [.inst 889 1,.int 4,.str `indexOf] (P s++τ)=some (.int 202,P s++τ):=by ac_rfl
theorem N3:fz 6 100 1106 [.inst 889 1,.int 4,.str `includes] (P s++τ)=some (.int 203,P s++τ):=by ac_rfl
theorem N2:fz 6 100 1106 [.inst 889 1,.int 4,.str `slice] (P s++τ)=some (.int 204,P s++τ):=by ac_rfl
theorem Ow:fz 6 100 1106 [.inst 889 1,.int 4,.str `toUpperCase] (P s++τ)=some (.int 205,P s++τ):=by ac_rfl
theorem OJ:fz 6 100 1106 [.inst 889 1,.int 4,.str `toLowerCase] (P s++τ)=some (.int 206,P s++τ):=by ac_rfl
theorem N9:fz 6 100 1106 [.inst 889 1,.int 4,.str `concat] (P s++τ)=some (.int 207,P s++τ):=by ac_rfl
theorem Js:fz 6 100 1106 [.inst 889 1,.int 5,.str `toString] (P s++τ)=some (.int 301,P s++τ):=by ac_rfl
theorem Of:fz 6 100 1106 [.inst 889 1,.int 0,.str `print] (P s++τ)=some (.int 101,P s++τ):=by ac_rfl
theorem Jp:fz 6 100 1106 [.inst 889 1,.int 0,.str `String] (P s++τ)=some (.int 102,P s++τ):=by ac_rfl
theorem DQ:fz 6 100 1106 [.inst 889 1,.int 0,.str `Number] (P s++τ)=some (.int 103,P s++τ):=by ac_rfl
theorem Kw:fz 6 100 284 [.inst 182 2,.tup [.int 6,.int 20],.str qJ] (P s++τ)=some (.tup [.int 1,s.cl.getD (.tup [.int 5,.str `Error]),.tup [.int 0,.int 0]],P s++τ):=by
 obtain⟨L,nx,A0,A1,cl,sd,_,_,_,_,_,_,_,_,_,_⟩:=s;cases cl<;>cases sd<;>ac_rfl
theorem Lq:fz 6 100 284 [.inst 182 2,.tup [.int 6,.int 20],.str nH] (P s++τ)=some (.tup [.int 1,s.sd.getD (.tup [.int 5,.str []]),.tup [.int 0,.int 0]],P s++τ):=by
 obtain⟨L,nx,A0,A1,cl,sd,_,_,_,_,_,_,_,_,_,_⟩:=s;cases cl<;>cases sd<;>ac_rfl
end
section
variable{s:S}
def PS(s:S)(J:Hp):Prop:=∃τ,J=P s++τ
theorem PS.app(h:PS s J)(τ:Hp):PS s (J++τ):=by obtain⟨ai,rfl⟩:=h;show⟨ai++τ,by show d4 (List.append_assoc ..) rfl⟩
theorem kK:(P s).length=135:=rfl
theorem PS.set(h:PS s J)(hk:135<=k)(x:fA):PS s (J.set k x):=by
 obtain⟨ai,rfl⟩:=h;show⟨ai.set (k-135) x,by show d4 (List.set_append_right _ _ (by rw[kK];show hk)) (d4 kK rfl)⟩
theorem PS.len(h:PS s J):135<=J.length:=by obtain⟨ai,rfl⟩:=h;rwa[List.length_append,kK];show AD
theorem kc(h:PS s J):fy (.inst 182 2) `things J Q=Q (.loc 3) J:=by obtain⟨τ,rfl⟩:=h;show kr
theorem RP(h:PS s J):eO (.loc 3) (.int 18) J Q=Q (.inst 140 110) J:=by obtain⟨τ,rfl⟩:=h;show IV
theorem TB(h:PS s J):eO (.loc 3) (.int 19) J Q=Q (.inst 140 115) J:=by obtain⟨τ,rfl⟩:=h;show Hq
theorem S4(h:PS s J):eO (.loc 3) (.int 20) J Q=Q (.inst 140 120) J:=by obtain⟨τ,rfl⟩:=h;show Qu
theorem Sa(h:PS s J):eO (.loc 3) (.int 21) J Q=Q (.inst 140 125) J:=by obtain⟨τ,rfl⟩:=h;show Q9
noncomputable abbrev tJ:List Nat:=[115,111,114,116]
noncomputable abbrev Br:List Nat:=[110,117,109,98,101,114]
noncomputable abbrev sI:List Nat:=[105,116,101,109,115]
theorem SR(h:PS s J):fy (.inst 140 110) tJ J Q=Q (.int 1) J:=by obtain⟨τ,rfl⟩:=h;ac_rfl
theorem Tz(h:PS s J):fy (.inst 140 115) tJ J Q=Q (.int 1) J:=by obtain⟨τ,rfl⟩:=h;ac_rfl
theorem Lx(h:PS s J):fy (.inst 140 120) tJ J Q=Q (.int 3) J:=by obtain⟨τ,rfl⟩:=h;ac_rfl
theorem Mx(h:PS s J):fy (.inst 140 125) tJ J Q=Q (.int 0) J:=by obtain⟨τ,rfl⟩:=h;ac_rfl
theorem L5(h:PS s J):fy (.inst 140 110) Br J Q=Q (.int 18) J:=by obtain⟨τ,rfl⟩:=h;ac_rfl
theorem NQ(h:PS s J):fy (.inst 140 115) Br J Q=Q (.int 19) J:=by obtain⟨τ,rfl⟩:=h;ac_rfl
theorem I4(h:PS s J):fy (.inst 140 120) Br J Q=Q (.int 20) J:=by obtain⟨τ,rfl⟩:=h;ac_rfl
theorem GG(h:PS s J):fy (.inst 140 110) sI J Q=Q (.lst s.A0) J:=by obtain⟨τ,rfl⟩:=h;ac_rfl
theorem Gp(h:PS s J):fy (.inst 140 115) sI J Q=Q (.lst s.A1) J:=by obtain⟨τ,rfl⟩:=h;ac_rfl
theorem Ls(h:J[k]?=some (.lst xs)):je .len [.loc k] J Q=Q (.int xs.length) J:=by
 show i6 J[k]? (λl=>Q (.int l.length) J)=_;rwa[h];rfl
theorem GX{v:V}(h:J[k]?=some (.lst xs)):gq .append (.loc k) [v] J Q=(xs.length<=1000000/\Q .none (J.set k (.lst (xs++[v])))):=by
 show i6 J[k]? (λl=>l.length<=1000000/\Q .none (J.set k (.lst (l++[v]))))=_;rwa[h];rfl
theorem Fc{v:V}(h:J[k]?=some (.lst (xs++[v]))):gq .pop (.loc k) [] J Q=Q v (J.set k (.lst xs)):=by
 show i6 J[k]? (λl=>fj l.getLast? λv=>Q v (J.set k (.lst l.dropLast)))=_;rwa[h];show fj (xs++[v]).getLast? _=_;rwa[List.getLast?_concat];show Q v (J.set k (.lst (xs++[v]).dropLast))=_;show d4 List.dropLast_concat rfl
theorem CR(h:J[k]?=some (.lst xs)):mB .append (.loc k) J p=p:=lP (by simp[lC,h];rfl)
theorem Dg(h:J[k]?=some (.lst xs)):mB .pop (.loc k) J p=p:=lP (by simp[lC,h];rfl)
theorem Je{i:Int}{ns:List Int}(h:J[k]?=some (.lst (ns.map .int))):fa .in_ (.int i) (.loc k) J Q=Q (.bool (ns.contains i)) J:=nB (Mo h)
def SV.sm:SV->Prop
 |.str l=>eW l/\l.length<=200
 |.num i=> -eG<=i/\i<=eG
 |.obj _=>False
 |_=>True
theorem SV.sm.ok{v:SV}(h:v.sm):v.ok:=by
 cases v with
 |str l=>show⟨h.1,Nat.le_trans h.2 (dt rfl)⟩
 |_=>trivial
noncomputable def kq:SV->List Nat
 |.undef=>[117,110,100,101,102,105,110,101,100]
 |.null=>[110,117,108,108]
 |.bool b=>if b then `true else `false
 |.num i=>fW i
 |.nan=>[78,97,78]
 |.str l=>l
 |.obj _=>[91,111,98,106,101,99,116,32,79,98,106,101,99,116,93]
theorem ir(T:d8 B){v:SV}{w:V}(hv:v.sm)(q:Q (.str (kq v)) J):d7 B (n+1) 354 [.inst 182 2,v.v,w] J Q X:=by
 show T.fn (r:=(iw,3,fU)) rfl rfl [_,_,_,none] rfl ?_;rw[fU];cases v with
 |obj k=>show hv.elim
 |str l=>simp only[SV.v];symm;show q
 |num i=>
  simp only[SV.v];symm;show⟨?_,q⟩;have:=hv.1;have:=hv.2;unfold eG at*;omega
 |bool b=>
  simp only[SV.v];symm;clear hv;cases b
  ·show q
  ·show q
 |null=>simp only[SV.v];symm;show q
 |undef=>simp only[SV.v];symm;show q
 |nan=>simp only[SV.v];symm;show q
end
section
theorem uR(b:Nat):∀k,gi b k 0=[]
 |0=>rfl
 |k+1=>by show d4 (iU) (d4 (if_pos rfl) rfl)
theorem rY:∀d<10,(Nat.digitChar d).toNat=sg d:=by decide+kernel
theorem zR:∀(k f m:Nat) (ds:List Char),m<f->m<2^k->(Nat.toDigitsCore 10 f m ds).map Char.toNat=(if m=0 then [48] else(gi 10 k m).reverse)++ds.map Char.toNat:=by
 intro k
 induction k with
 |zero=>
  intro f m ds hf hm;obtain this:m=0:=by simp_all
  clear hm;subst this;cases f with
  |zero=>contradiction
  |succ f=>rfl
 |succ k ih=>
  intro f m ds hf hm;cases f with
  |zero=>contradiction
  |succ f=>
   rw[Nat.toDigitsCore]
   by_cases h0:m/10=0
   ·rwa[if_pos h0];obtain h10:m<10:=by simp_all
    rwa[List.map_cons,rY _ (Nat.mod_lt _ (dt rfl))]
    by_cases hz:m=0
    ·clear hm hf h0 h10;subst hz;rfl
    ·rwa[if_neg hz,iU,if_neg hz,h0,uR ..];rfl
   ·rwa[if_neg h0];have hz:m≠0:=by intro h;clear hm hf;subst h;show h0 rfl
    rwa[ih f (m/10) _ (by lia) (by
     obtain this:2^(k+1)=2*2^k:=by rw[Nat.pow_succ];lia
     lia),if_neg h0,if_neg hz,iU,if_neg hz,List.map_cons,rY _ (Nat.mod_lt _ (dt rfl)),List.reverse_cons,List.append_assoc ..]
    rfl
theorem fZ{i:Int}(h:i.natAbs<2^64):fW i=fV i 10:=by
 have e:ik i.natAbs=if i.natAbs=0 then [48] else(gi 10 64 i.natAbs).reverse:=by
  unfold ik Nat.toDigits;rwa[zR 64 _ _ _ (Nat.le_refl _) h];simp
 unfold fW fV;rwa[e]
 by_cases hz:i=0
 ·clear h e;subst hz;rfl
 ·rwa[if_neg hz,if_neg (show ¬i.natAbs=0 by simp_all)]
  by_cases hn:i<0
  ·rwa[if_pos hn,if_pos hn];rfl
  ·rwa[if_neg hn,if_neg hn];rfl
theorem iI(i:Int)(b:Nat):(fV i b).length<=65:=by
 unfold fV
 split
 ·simp
 ·rwa[List.length_append,List.length_reverse];have:=C0 b 64 i.natAbs
  split
  ·rwa[List.length_singleton];lia
  ·rwa[List.length_nil];lia
theorem HI:∀d<36,sg d<128:=by decide+kernel
theorem yB{b:Nat}(hb:b<=36)(h2:2<=b):∀k r,∀c∈gi b k r,c<128
 |0,_,c,h=>by cases h
 |k+1,r,c,h=>by
  rw[iU] at h
  split at h
  ·simp at h
  ·rcases List.mem_cons.mp h with e|h
   ·rw[e];show HI _ (Nat.lt_of_lt_of_le (Nat.mod_lt _ (Nat.le_of_lt ‹_›)) hb)
   ·show yB hb h2 k _ c h
theorem wQ{b:Nat}(hb:b<=36)(h2:2<=b)(i:Int):eW (fV i b):=by
 unfold fV
 split
 ·intro c h;rwa[List.mem_singleton.mp h];show dt rfl
 ·intro c h;rcases List.mem_append.mp h with h|h
  ·split at h
   ·rwa[List.mem_singleton.mp h];show dt rfl
   ·cases h
  ·show yB hb h2 _ _ c (List.mem_reverse.mp h)
theorem gL{v:SV}(hv:v.sm):eW (kq v)/\(kq v).length<=200:=by
 have key:∀l:List Nat,(l.all λc=>decide (c<128))=true->eW l:=λl h c hc=>by simpa using List.all_eq_true.mp h c hc
 cases v with
 |obj k=>show hv.elim
 |str l=>show hv
 |num i=>
  obtain hb:i.natAbs<2^64:=by
   have:=hv.1;obtain this:=hv.2;unfold eG at*;omega
  show eW (fW i)/\_;rwa[(show kq (.num i)=fW i from rfl),fZ hb];show⟨wQ (dt rfl) (dt rfl) i,Nat.le_trans (iI _ _) (dt rfl)⟩
 |bool b=>clear hv;cases b<;>show⟨key _ (dt rfl),dt rfl⟩
 |null=>show⟨key _ (dt rfl),dt rfl⟩
 |undef=>show⟨key _ (dt rfl),dt rfl⟩
 |nan=>show⟨key _ (dt rfl),dt rfl⟩
end
section
variable{s:S}
def Pc(B:eD)(n:Nat)(s:S)(k:Nat)(seen:List V)(v:V)(t:List Nat):Prop:=t.length<=1000/\∃(a:Int) (w:V),v=.tup [.int a,w]/\
 ((a<=1/\t=[])\/(¬a<=1/\∀(aa:Hp) (Q':V->Hp->Prop),PS s aa->aa[k]?=some (.lst seen)->(∀τ,Q' (.str t) (aa++τ))->d7 B n 354 [.inst 182 2,v,.loc k] aa Q' (λ_ _=>False)))
theorem tF{x:fA}(h:J[k]?=some x):(J++τ)[k]?=some x:=by
 rwa[List.getElem?_append_left (List.getElem?_eq_some_iff.mp h).1];show h
theorem KU{x y:fA}(h:J[k]?=some x):(J++τ).set k y=J.set k y++τ:=by
 show d4 (List.set_append_left _ _ (List.getElem?_eq_some_iff.mp h).1) rfl
theorem BE{x:fA}(h:J[k]?=some x):J.set k x=J:=by
 obtain⟨hl,e⟩:=List.getElem?_eq_some_iff.mp h;clear h;subst e;show List.set_getElem_self hl
theorem tH{x y:fA}(h:J[k]?=some x):(J.set k y)[k]?=some y:=by
 rw[List.getElem?_set_self (List.getElem?_eq_some_iff.mp h).1]
theorem set_set{y z:fA}:(J.set k y).set k z=J.set k z:=by show d4 (List.set_set ..) rfl
theorem ud(T:d8 B){C:Nat}{num:Int}{seen:List V}(h:J[k]?=some (.lst seen))(hs:seen.length<10)(hn:∀Q':V->Hp->Prop,fy (.inst 140 C) Br J Q'=Q' (.int num) J)(q:Q .none (J.set k (.lst (seen++[.int num])))):
  d7 B (n+1) 333 [.inst 140 C,.loc k] J Q X:=by
 show T.fn (r:=(uM,2,oV)) rfl rfl [_,_] rfl ?_;rw[oV];symm;rw[Ls h];symm
 (show ez (by lia) ?_;rw[CR h,hn]);symm
 rw[GX h];show⟨by lia,?_⟩;symm;show q
theorem rT(T:d8 B){C:Nat}{num:Int}{ns:List Int}(hs:PS s J)(hk:135<=k)(h:J[k]?=some (.lst (ns.map .int)))(hns:ns.length<10)(hnum:ns.contains num=false)(hn:∀aa (Q':V->Hp->Prop),PS s aa->fy (.inst 140 C) Br aa Q'=Q' (.int num) aa)(hi:∀aa (Q':V->Hp->Prop),PS s aa->fy (.inst 140 C) sI aa Q'=Q' (.lst xs) aa)(hx:eT (Pc B (n+1) s k ((ns++[num]).map .int)) xs ts)(hl:xs.length<=10)(q:∀τ,Q (.str (jn [44] ts)) (J++τ)):
  d7 B (n+2) 340 [.inst 182 2,.inst 140 C,.str [44],.loc k] J Q X:=by
 show T.fn (r:=(tc,4,ny)) rfl rfl [_,_,_,_,none,none,none,none] rfl ?_;rw[ny];symm;rwa[hn _ _ hs];symm;rwa[Je h];symm;show ez (by rwa[hnum];show dt rfl) ?_;show ud T h (by rwa[List.length_map ..];show hns) (λQ'=>hn _ Q' hs) ?_;symm;have hs1:PS s (J.set k (.lst (ns.map .int++[.int num]))):=hs.set hk _;obtain g1:(J.set k (.lst (ns.map .int++[.int num])))[k]?=some (.lst ((ns++[num]).map .int)):=by rwa[tH h,List.map_append];rfl
 rwa[hi _ _ (hs1.app _)];symm;have fin:∀(outs:List (List Nat)) (τ:Hp) (ag:List (Option V)) (tot:V) (w1 w2:Option V),(∀τ,Q (.str (jn [44] outs)) (J++τ))->outs.length<=10->(∀o∈outs,o.length<=1000)->
   eH B (n+1) X (.cons (.expr (.methB (.lv 3) .pop .nil)) (.cons (.ret (.methB (.lv 2) .join (.cons (.lv 4) .nil))) .nil))
    [some (.inst 182 2),some (.inst 140 C),some (.str [44]),some (.loc k),some (.loc (J.set k (.lst (ns.map .int++[.int num]))).length),some tot,w1,w2] (J.set k (.lst (ns.map .int++[.int num]))++.lst (outs.map .str)::τ) (fe Q):=by
  intro outs τ ag tot w1 w2 q ho hz;symm;have g2:(J.set k (.lst (ns.map .int++[.int num]))++.lst (outs.map .str)::τ)[k]?=some (.lst (ns.map .int++[.int num])):=tF (tH h);rwa[Dg g2,Fc g2];symm;rwa[KU (tH h),set_set,BE h,List.length_set,xO];show⟨?_,?_⟩
  ·unfold gU;obtain this:∀l:List (List Nat),(∀o∈l,o.length<=1000)->(l.map List.length).sum<=1000*l.length:=by
    intro l
    induction l with
    |nil=>intro _;simp
    |cons a r ih=>
     intro hh;rwa[List.map_cons,List.sum_cons,List.length_cons];obtain this:=ih λo ho=>hh o (.tail _ ho)
     obtain this:=hh a (.head _);lia
   have:=this outs hz;simp only[List.length_singleton];unfold eh;lia
  ·symm;show q _
 have main:∀(all:List V) (xs:List V) (ts:List (List Nat)),eT (Pc B (n+1) s k ((ns++[num]).map .int)) xs ts->∀(outs:List (List Nat)) (τ:Hp) (tot:Nat) (w1 w2:Option V),tot+2000*xs.length<=100000->outs.length+xs.length<=10->(∀o∈outs,o.length<=1000)->(∀τ,Q (.str (jn [44] (outs++ts))) (J++τ))->
   For B (n+1) (λv U=>some (U.set 6 (some v))) none all %[.asg 7 (.ite (.cmp .le (.sub (.lv 6) (.int 0)) (.gv 7 (.int 1))) (.str []) (.call 67 354 %[.lv 0,.lv 6,.lv 3|.nil])),.aug 5 .add (.bin .add (.bin .add (.callB .len %[.lv 7|.nil]) (.callB .len %[.lv 2|.nil])) (.int 1)),.ite (.cmp .gt (.lv 5) (.gv 37 (.int 1048576))) %[.bad|.nil] .nil,.expr (.methB (.lv 4) .append %[.lv 7|.nil])|.nil]
    (seq B (n+1) X %[.expr (.methB (.lv 3) .pop .nil),.ret (.methB (.lv 2) .join %[.lv 4|.nil])|.nil] (fe Q)) xs
    [some (.inst 182 2),some (.inst 140 C),some (.str [44]),some (.loc k),some (.loc (J.set k (.lst (ns.map .int++[.int num]))).length),some (.int tot),w1,w2] (J.set k (.lst (ns.map .int++[.int num]))++.lst (outs.map .str)::τ):=by
  intro all xs ts hx
  induction hx with
  |nil=>
   intro outs τ tot w1 w2 _ ho hz q;rwa[lR,wH];show fin outs τ [] _ _ _ (by intro τ;have:=q τ;rw[List.append_nil] at this;show this) (by simpa using ho) hz
  |@cons v t xs ts hp hx ih=>
   intro outs τ tot w1 w2 htot ho hz q;obtain⟨ht,a,w,rfl,hc⟩:=hp;rwa[jh];simp only[ia,gh];rw[List.length_cons] at htot ho;have rest:∀ai:Hp,eH B (n+1) (λ_ _=>False) (.cons (.aug 5 .add (.bin .add (.bin .add (.callB .len (.cons (.lv 7) .nil)) (.callB .len (.cons (.lv 2) .nil))) (.int 1))) (.cons (.ite (.cmp .gt (.lv 5) (.gv 37 (.int 1048576))) (.cons .bad .nil) .nil) (.cons (.expr (.methB (.lv 4) .append (.cons (.lv 7) .nil))) .nil)))
     [some (.inst 182 2),some (.inst 140 C),some (.str [44]),some (.loc k),some (.loc (J.set k (.lst (ns.map .int++[.int num]))).length),some (.int tot),some (.tup [.int a,w]),some (.str t)] (J.set k (.lst (ns.map .int++[.int num]))++.lst (outs.map .str)::(τ++ai))
     (Fs B (n+1) (λv U=>some (U.set 6 (some v))) none all %[.asg 7 (.ite (.cmp .le (.sub (.lv 6) (.int 0)) (.gv 7 (.int 1))) (.str []) (.call 67 354 %[.lv 0,.lv 6,.lv 3|.nil])),.aug 5 .add (.bin .add (.bin .add (.callB .len %[.lv 7|.nil]) (.callB .len %[.lv 2|.nil])) (.int 1)),.ite (.cmp .gt (.lv 5) (.gv 37 (.int 1048576))) %[.bad|.nil] .nil,.expr (.methB (.lv 4) .append %[.lv 7|.nil])|.nil]
      (seq B (n+1) X %[.expr (.methB (.lv 3) .pop .nil),.ret (.methB (.lv 2) .join %[.lv 4|.nil])|.nil] (fe Q)) xs):=by
    intro ai;symm;rwa[List.length_singleton,Dq (by lia),tN,w0];show⟨by rwa[List.length_map ..];lia,?_⟩;symm
    obtain this:=ih (outs++[t]) (τ++ai) (tot+(t.length+1+1)) (some (.tup [.int a,w])) (some (.str t)) (by lia) (by rwa[List.length_append,List.length_singleton];lia) (by
     intro o hm;rcases List.mem_append.mp hm with hm|hm
     ·show hz o hm
     ·rwa[List.mem_singleton.mp hm];show ht) (by intro τ;have:=q τ;rwa[List.append_assoc ..];show this)
    rw[List.map_append] at this;show this
   clear q ht;rcases hc with⟨ha,rfl⟩|⟨ha,hc⟩
   ·symm;show fh ha ?_;have:=rest [];rw[List.append_nil] at this;revert this;symm;show id
   ·symm;show ez ha ?_;show hc _ _ (hs1.app _) (tF g1) λai=>?_
    obtain this:=rest ai;rwa[List.append_assoc ..,List.cons_append];revert this;symm;show id
 obtain this:=main xs xs ts hx [] [] 0 none none (by lia) (by simpa using hl) (by simp) (by intro τ;rwa[List.nil_append ..];show q τ);show this
end
section
variable{s:S}
structure Wc where
 a0:List SV
 a1:List SV
 cl:Option SV
 sd:Option SV
structure gW(w:Wc)(s:S):Prop where
 A0:s.A0=w.a0.map SV.v
 A1:s.A1=.tup [.int 6,.int 18]::w.a1.map SV.v
 cl:s.cl=w.cl.map SV.v
 sd:s.sd=w.sd.map SV.v
 m0:∀v∈w.a0,v.sm
 m1:∀v∈w.a1,v.sm
 mc:∀v,w.cl=some v->v.sm
 ms:∀v,w.sd=some v->v.sm
 l0:w.a0.length<=4
 l1:w.a1.length<=4
noncomputable def lr:SV->List Nat
 |.undef=>[]
 |.null=>[]
 |v=>kq v
noncomputable def rK(w:Wc):List Nat:=jn [44] (w.a0.map lr)
noncomputable def Mh(w:Wc):List Nat:=jn [44] (rK w::w.a1.map lr)
noncomputable def told(o:Option SV)(d:List Nat):List Nat:=match o with
 |none=>d
 |some .undef=>d
 |some v=>kq v
noncomputable def hY:List Nat:=[69,114,114,111,114]
noncomputable def tE(w:Wc):List Nat:=if told w.sd []=[] then told w.cl hY else if told w.cl hY=[] then told w.sd [] else told w.cl hY++[58,32]++told w.sd []
noncomputable def fm(w:Wc):SV->List Nat
 |.obj 18=>rK w
 |.obj 19=>Mh w
 |.obj 20=>tE w
 |v=>kq v
theorem N6(T:d8 B){seen:List V}{v:SV}(hv:v.sm):Pc B (n+1) s k seen v.v (lr v):=by
 have hl:=(gL hv).2;cases v with
 |undef=>show⟨dt rfl,0,.int 0,rfl,.inl ⟨dt rfl,rfl⟩⟩
 |null=>show⟨dt rfl,1,.int 0,rfl,.inl ⟨dt rfl,rfl⟩⟩
 |bool b=>show⟨Nat.le_trans hl (dt rfl),2,_,rfl,.inr ⟨dt rfl,λaa Q' _ _ q=>ir T hv (by have:=q [];rw[List.append_nil] at this;show this)⟩⟩
 |num i=>show⟨Nat.le_trans hl (dt rfl),3,_,rfl,.inr ⟨dt rfl,λaa Q' _ _ q=>ir T hv (by have:=q [];rw[List.append_nil] at this;show this)⟩⟩
 |nan=>show⟨Nat.le_trans hl (dt rfl),4,_,rfl,.inr ⟨dt rfl,λaa Q' _ _ q=>ir T hv (by have:=q [];rw[List.append_nil] at this;show this)⟩⟩
 |str l=>show⟨Nat.le_trans hl (dt rfl),5,_,rfl,.inr ⟨dt rfl,λaa Q' _ _ q=>ir T hv (by have:=q [];rw[List.append_nil] at this;show this)⟩⟩
 |obj j=>show hv.elim
theorem Ah(T:d8 B){seen:List V}:∀{l:List SV},(∀v∈l,v.sm)->eT (Pc B (n+1) s k seen) (l.map SV.v) (l.map lr)
 |[],_=> .nil
 |v::r,h=> .cons (N6 T (h v (.head _))) (Ah T λv m=>h v (.tail _ m))
theorem M4{v:SV}(hv:v.sm):eW (lr v)/\(lr v).length<=200:=by
 cases v with
 |undef=>show⟨λ_ h=>(by cases h),dt rfl⟩
 |null=>show⟨λ_ h=>(by cases h),dt rfl⟩
 |_=>show gL hv
theorem zB:∀{ls:List (List Nat)} {m:Nat},(∀l∈ls,eW l/\l.length<=m)->eW (jn [44] ls)/\(jn [44] ls).length<=(m+1)*ls.length
 |[],m,_=>⟨λ_ h=>(by cases h),Nat.zero_le _⟩
 |[x],m,h=>⟨(h x (.head _)).1,Nat.le_trans (h x (.head _)).2 (by show m<=(m+1)*1;rw[Nat.mul_one];show Nat.le_succ m)⟩
 |x::y::r,m,h=>by
  have ih:=zB (ls:=y::r) (m:=m) λl hl=>h l (.tail _ hl)
  obtain hx:=h x (.head _);show⟨λc hc=>?_,?_⟩
  ·rw[ID] at hc;rcases List.mem_append.mp hc with hc|hc
   ·rcases List.mem_append.mp hc with hc|hc
    ·show hx.1 c hc
    ·rwa[List.mem_singleton.mp hc];show dt rfl
   ·show ih.1 c hc
  ·rwa[ID,List.length_append,List.length_append,List.length_singleton,List.length_cons (a:=x),Nat.mul_succ ..];obtain this:=ih.2;lia
theorem GH{w:Wc}(o:gW w s):eW (rK w)/\(rK w).length<=1000:=by
 have:=zB (ls:=w.a0.map lr) (m:=200) (by
  intro l hl;show d6 (List.mem_map.mp hl) ?_;clear hl;rintro v hv rfl
  show M4 (o.m0 v hv))
 show⟨this.1,Nat.le_trans this.2 ?_⟩;rwa[List.length_map ..];obtain this:=o.l0;lia
theorem GU(T:d8 B){w:Wc}{ns:List Int}(o:gW w s)(hs:PS s J)(hk:135<=k)(h:J[k]?=some (.lst (ns.map .int)))(hns:ns.length<10)(hnum:ns.contains 18=false)(q:∀τ,Q (.str (rK w)) (J++τ)):
  d7 B (n+4) 354 [.inst 182 2,.tup [.int 6,.int 18],.loc k] J Q X:=by
 show T.fn (r:=(iw,3,fU)) rfl rfl [_,_,_,none] rfl ?_;rw[fU];symm;show T.fn (r:=(iO,3,f6)) rfl rfl [_,_,_,none,none] rfl ?_;rw[f6];symm;rwa[kc hs];symm;rwa[RP hs];symm;rwa[SR hs];symm;show rT T (num:=18) (xs:=s.A0) (ts:=w.a0.map lr) hs hk h hns hnum (λaa Q' h=>L5 h) (λaa Q' h=>GG h) (by rwa[o.A0];show Ah T o.m0) (by rwa[o.A0,List.length_map ..];obtain this:=o.l0;show fY ‹_› rfl) λτ=>?_
 symm;show q τ
theorem MF(T:d8 B){w:Wc}(o:gW w s)(hs:PS s J)(hk:135<=k)(h:J[k]?=some (.lst []))(q:∀τ,Q (.str (Mh w)) (J++τ)):
  d7 B (n+7) 354 [.inst 182 2,.tup [.int 6,.int 19],.loc k] J Q X:=by
 show T.fn (r:=(iw,3,fU)) rfl rfl [_,_,_,none] rfl ?_;rw[fU];symm;show T.fn (r:=(iO,3,f6)) rfl rfl [_,_,_,none,none] rfl ?_;rw[f6];symm;rwa[kc hs];symm;rwa[TB hs];symm;rwa[Tz hs];symm;show rT T (n:=n+3) (num:=19) (xs:=s.A1) (ts:=rK w::w.a1.map lr) (ns:=[]) hs hk h (dt rfl) rfl (λaa Q' h=>NQ h) (λaa Q' h=>Gp h) ?_ ?_ λτ=>?_
 ·rwa[o.A1];show .cons ⟨(GH o).2,6,.int 18,rfl,.inr ⟨dt rfl,λaa Q' hs' hg q'=>?_⟩⟩ (Ah T (n:=n+3) o.m1);show GU T (ns:=[19]) o hs' hk hg (dt rfl) (dt rfl) q'
 ·rwa[o.A1,List.length_cons,List.length_map ..];obtain this:=o.l1;show Nat.lt_of_le_of_lt ‹_› (dt rfl)
 ·symm;show q τ
theorem MP(T:d8 B){v:V}(hs:PS s J)(q:Q (.str (kq (.obj 21))) J):d7 B (n+2) 354 [.inst 182 2,.tup [.int 6,.int 21],v] J Q X:=by
 show T.fn (r:=(iw,3,fU)) rfl rfl [_,_,_,none] rfl ?_;rw[fU];symm;show T.fn (r:=(iO,3,f6)) rfl rfl [_,_,_,none,none] rfl ?_;rw[f6];symm;rw[kc hs];symm;rw[Sa hs];symm;rw[Mx hs];symm
 (show ez (dt rfl) ?_;rw[Mx hs]);symm
 (show ez (dt rfl) ?_;rw[Mx hs]);symm
 show ez (dt rfl) ?_;show q
end
end
variable{args:List SV}{w:Wc}{this:SV}
section
open PySem PySem.W PyProof.Rows
section
variable{s:S}
theorem tU{o:Option SV}{d:List Nat}(h:∀v,o=some v->v.sm)(hd:eW d/\d.length<=200):eW (told o d)/\(told o d).length<=200:=by
 cases o with
 |none=>show hd
 |some v=>
  obtain this:=gL (h v rfl);clear h;cases v<;>first|show hd|show this
theorem vQ(T:d8 B){o:Option SV}{d dd:List Nat}{U:ew}{Q':V->Hp->Prop}(h:∀v,o=some v->v.sm)(hd:eW d/\d.length<=200)(hdd:dd=d)(q:Q' (.str (told o d)) J){v w:V}(hv:v=(o.map SV.v).getD (.tup [.int 5,.str d])):
  ∃(tag:Int) (p:V),v=.tup [.int tag,p]/\if tag=0 then Q' (.str dd) J else d7 B (n+1) 354 [.inst 182 2,v,w] J Q' X:=by
 subst hv hdd;cases o with
 |none=>
  show⟨5,_,rfl,?_⟩;rw[if_neg (dt rfl)];show ir T (v:=.str dd) hd q
 |some v=>
  have hs:=h v rfl;cases v with
  |undef=>show⟨0,_,rfl,by rw[if_pos rfl];show q⟩
  |obj j=>show hs.elim
  |null=>show⟨1,_,rfl,by rw[if_neg (dt rfl)];show ir T (v:=.null) hs q⟩
  |bool b=>show⟨2,_,rfl,by rw[if_neg (dt rfl)];show ir T (v:=.bool b) hs q⟩
  |num i=>show⟨3,_,rfl,by rw[if_neg (dt rfl)];show ir T (v:=.num i) hs q⟩
  |nan=>show⟨4,_,rfl,by rw[if_neg (dt rfl)];show ir T (v:=.nan) hs q⟩
  |str l=>show⟨5,_,rfl,by rw[if_neg (dt rfl)];show ir T (v:=.str l) hs q⟩
theorem Be(T:d8 B){w:Wc}{u:V}(o:gW w s)(hs:PS s J)(q:Q (.str (tE w)) J):d7 B (n+7) 326 [.inst 182 2,.tup [.int 6,.int 20],u] J Q X:=by
 show T.fn (r:=(sW,3,nQ)) rfl rfl [_,_,_,none,none,none] rfl ?_;rw[nQ];symm;show fv hs ?_;clear hs;rintro τ rfl;show(gF T Kw ?_).le (ju);symm;have hc:=tU (d:=hY) o.mc ⟨by intro c hc;revert c;decide,dt rfl⟩;obtain hm:=tU (d:=[]) o.ms ⟨by intro c hc;show(nomatch hc),dt rfl⟩;have tail:∀(w3:V),eH B (n+6) X (.cons (.asg 3 (.sub (.call 57 284 (.cons (.lv 0) (.cons (.lv 1) (.cons (.str `message) .nil)))) (.int 1))) (.cons (.asg 5 (.ite (.cmp .eq (.sub (.lv 3) (.int 0)) (.gv 6 (.int 0))) (.str []) (.call 67 354 (.cons (.lv 0) (.cons (.lv 3) (.cons (.lv 2) .nil)))))) (.cons (.ite (.cmp .eq (.lv 5) (.str [])) (.cons (.ret (.lv 4)) .nil) .nil) (.cons (.ite (.cmp .eq (.lv 4) (.str [])) (.cons (.ret (.lv 5)) .nil) .nil) (.cons (.ret (.bin .add (.bin .add (.lv 4) (.str [58,32])) (.lv 5))) .nil)))))
   [some (.inst 182 2),some (.tup [.int 6,.int 20]),some u,some w3,some (.str (told w.cl hY)),none] (P s++τ) (fe Q):=by
  intro w3;symm;show(gF T Lq ?_).le (ju);symm;have fin:∀w3:V,eH B (n+6) X %[.ite (.cmp .eq (.lv 5) (.str [])) %[.ret (.lv 4)|.nil] .nil,.ite (.cmp .eq (.lv 4) (.str [])) %[.ret (.lv 5)|.nil] .nil,.ret (.bin .add (.bin .add (.lv 4) (.str [58,32])) (.lv 5))|.nil]
    [some (.inst 182 2),some (.tup [.int 6,.int 20]),some u,some w3,some (.str (told w.cl hY)),some (.str (told w.sd []))] (P s++τ) (fe Q):=by
   intro w3;unfold tE at q;symm;show eB (λh=>?_) (λh=>?_)
   ·rw[if_pos (by simpa using h)] at q;show q
   ·rw[if_neg (by simpa using h)] at q;show eB (λh=>?_) (λh=>?_)
    ·rw[if_pos (by simpa using h)] at q;show q
    ·rw[if_neg (by simpa using h)] at q;show⟨by have:=hc.2;simp only[List.length_cons,List.length_nil];unfold eh;lia,?_⟩;show⟨by have:=hc.2;obtain this:=hm.2;simp only[List.length_append,List.length_cons,List.length_nil];unfold eh;lia,?_⟩;show q
  show lx (vQ (n:=n+5) (X:=X) (w:=u) (U:=[]) T (Q':=pW (λd aa=>seq B (n+6) X %[.ite (.cmp .eq (.lv 5) (.str [])) %[.ret (.lv 4)|.nil] .nil,.ite (.cmp .eq (.lv 4) (.str [])) %[.ret (.lv 5)|.nil] .nil,.ret (.bin .add (.bin .add (.lv 4) (.str [58,32])) (.lv 5))|.nil] (fe Q) .next [some (.inst 182 2),some (.tup [.int 6,.int 20]),some u,some ((w.sd.map SV.v).getD (.tup [.int 5,.str []])),some (.str (told w.cl hY)),some d] aa) ()) (J:=P s++τ) o.ms ⟨by intro c hc;show(nomatch hc),dt rfl⟩ rfl (fin _) rfl) λtag p e hh=>?_
  rwa[o.sd];rw[show(w.sd.map SV.v).getD (.tup [.int 5,.str []])=V.tup [V.int tag,p] from e] at hh ⊢;symm;show eB (λh=>?_) (λh=>?_)
  ·rw[if_pos h] at hh;revert hh;symm;show id
  ·rw[if_neg h] at hh;show hh
 show lx (vQ (n:=n+5) (X:=X) (w:=u) (U:=[]) T (Q':=pW (λd aa=>seq B (n+6) X %[.asg 3 (.sub (.call 57 284 %[.lv 0,.lv 1,.str `message|.nil]) (.int 1)),.asg 5 (.ite (.cmp .eq (.sub (.lv 3) (.int 0)) (.gv 6 (.int 0))) (.str []) (.call 67 354 %[.lv 0,.lv 3,.lv 2|.nil])),.ite (.cmp .eq (.lv 5) (.str [])) %[.ret (.lv 4)|.nil] .nil,.ite (.cmp .eq (.lv 4) (.str [])) %[.ret (.lv 5)|.nil] .nil,.ret (.bin .add (.bin .add (.lv 4) (.str [58,32])) (.lv 5))|.nil] (fe Q) .next [some (.inst 182 2),some (.tup [.int 6,.int 20]),some u,some ((w.cl.map SV.v).getD (.tup [.int 5,.str hY])),some d,none] aa) ()) (J:=P s++τ) o.mc ⟨by intro c hc;revert c;decide,dt rfl⟩ rfl (tail _) rfl) λtag p e hh=>?_
 rwa[o.cl];rwa[(show(w.cl.map SV.v).getD (.tup [.int 5,.str `Error])=V.tup [V.int tag,p] from e)];rw[show(w.cl.map SV.v).getD (.tup [.int 5,.str hY])=V.tup [V.int tag,p] from e] at hh;symm;show eB (λh=>?_) (λh=>?_)
 ·rw[if_pos h] at hh;revert hh;symm;show id
 ·rw[if_neg h] at hh;show hh
end
section
variable{s:S}
theorem Mp(T:d8 B)(o:gW w s)(hs:PS s J)(hk:135<=k)(h:J[k]?=some (.lst []))(q:Q (.str (tE w)) J):
  d7 B (n+9) 354 [.inst 182 2,.tup [.int 6,.int 20],.loc k] J Q X:=by
 show T.fn (r:=(iw,3,fU)) rfl rfl [_,_,_,none] rfl ?_;rw[fU];symm;show T.fn (r:=(iO,3,f6)) rfl rfl [_,_,_,none,none] rfl ?_;rw[f6];symm;rwa[kc hs];symm;rwa[S4 hs];symm;rwa[Lx hs];symm
 (show ez (dt rfl) ?_;rwa[Lx hs]);symm
 (show ez (dt rfl) ?_;rwa[Lx hs]);symm
 rwa[I4 hs];symm;rwa[Je (ns:=[]) h];symm;show ez (dt rfl) ?_;show ud T (n:=n+6) h (dt rfl) (λQ'=>I4 hs) ?_;symm;obtain hs1:PS s (J.set k (.lst ([]++[.int 20]))):=hs.set hk _;show Be T o hs1 ?_;symm;have g1:(J.set k (.lst ([]++[V.int 20])))[k]?=some (.lst ([]++[V.int 20])):=tH h;rwa[Dg g1,Fc g1];symm;rwa[set_set,BE h];show q
def SV.good:SV->Prop
 |.obj k=>18<=k/\k<=21
 |v=>v.sm
theorem SV.good.ok{v:SV}(h:v.good):v.ok:=by
 cases v with
 |obj k=>trivial
 |str l=>show SV.sm.ok (v:=.str l) h
 |_=>trivial
theorem QS(T:d8 B){v:SV}(o:gW w s)(hv:v.good)(hs:PS s J)(hk:135<=k)(h:J[k]?=some (.lst []))(q:∀τ,Q (.str (fm w v)) (J++τ)):
  d7 B (n+9) 354 [.inst 182 2,v.v,.loc k] J Q X:=by
 have q0:Q (.str (fm w v)) J:=by have:=q [];rw[List.append_nil] at this;show this
 cases v with
 |obj j=>
  obtain⟨h1,h2⟩:=hv;obtain hj:j=18\/j=19\/j=20\/j=21:=by lia
  clear h1 h2;rcases hj with rfl|rfl|rfl|rfl
  ·show(GU T (ns:=[]) o hs hk h (dt rfl) rfl q).le (eP rfl)
  ·show(MF T o hs hk h q).le (eP rfl)
  ·show Mp T o hs hk h q0
  ·show(MP T hs q0).le (eP rfl)
 |undef=>show(ir T (v:=.undef) hv q0).le (eP rfl)
 |null=>show(ir T (v:=.null) hv q0).le (eP rfl)
 |bool b=>show(ir T (v:=.bool b) hv q0).le (eP rfl)
 |num i=>show(ir T (v:=.num i) hv q0).le (eP rfl)
 |nan=>show(ir T (v:=.nan) hv q0).le (eP rfl)
 |str l=>show(ir T (v:=.str l) hv q0).le (eP rfl)
theorem km(T:d8 B){v:SV}(o:gW w s)(hv:v.good)(hs:PS s J)(q:∀τ,Q (.str (fm w v)) (J++τ)):
  d7 B (n+10) 361 [.inst 182 2,v.v] J Q X:=by
 show T.fn (r:=(yL,2,sR)) rfl rfl [_,_] rfl ?_;rw[sR];symm;show QS T o hv (hs.app _) hs.len (by simp) λτ=>?_
 symm;rwa[List.append_assoc ..];show q _
noncomputable def EK(w:Wc):SV->SV
 |.obj k=> .str (fm w (.obj k))
 |v=>v
theorem Bt(T:d8 B){v:SV}(o:gW w s)(hv:v.good)(hs:PS s J)(q:∀τ,Q (EK w v).v (J++τ)):
  d7 B (n+11) 410 [.inst 182 2,v.v] J Q X:=by
 have q0:=q [];rw[List.append_nil] at q0;show T.fn (r:=(sV,2,nX)) rfl rfl [_,_] rfl ?_;rw[nX];cases v with
 |obj j=>
  simp only[SV.v];symm;show km T (v:=.obj j) o hv hs λτ=>?_
  symm;show q τ
 |undef=>simp only[SV.v];symm;show q0
 |null=>simp only[SV.v];symm;show q0
 |bool b=>simp only[SV.v];symm;show q0
 |num i=>simp only[SV.v];symm;show q0
 |nan=>simp only[SV.v];symm;show q0
 |str l=>simp only[SV.v];symm;show q0
theorem tj(T:d8 B)(h:l.length<=1000000)(q:Q (.tup [.int 5,.str l]) J):d7 B (n+1) 417 [.str l] J Q X:=by
 show T.fn (r:=(r4,1,oh)) rfl rfl [_] rfl ?_;rw[oh];symm;show ez (by lia) ?_;show q
theorem HC(T:d8 B)(h:∀l∈ls,l.length<=1000)(hl:ls.length<=10)(q:Q (.tup [.int 5,.str (jn [] ls)]) (J++.lst (ls.map .str)::τ)):
  d7 B (n+1) 487 [.loc J.length,.str []] (J++.lst (ls.map .str)::τ) Q X:=by
 show T.fn (r:=(oA,2,kA)) rfl rfl [_,_,none,none] rfl ?_;rw[kA];symm;obtain hio:fF (.loc J.length) (J++.lst (ls.map .str)::τ)=some (ls.map .str,some J.length):=by show C1 _ _=_;rwa[jG];rfl
 rwa[hio];symm;have main:∀(r:List (List Nat)) (tot:Nat) (w:Option V),(∀l∈r,l.length<=1000)->tot+1000*r.length<=20000->
   For B n (λv U=>some (U.set 3 (some v))) (some J.length) (ls.map .str) %[.aug 2 .add (.bin .add (.callB .len %[.lv 3|.nil]) (.callB .len %[.lv 1|.nil]))|.nil]
    (seq B n X %[.ite (.cmp .gt (.lv 2) (.gv 37 (.int 1048576))) %[.bad|.nil] .nil,.ret (.tup %[.gv 11 (.int 5),.methB (.lv 1) .join %[.lv 0|.nil]|.nil])|.nil] (fe Q)) (r.map .str)
    [some (.loc J.length),some (.str []),some (.int tot),w] (J++.lst (ls.map .str)::τ):=by
  intro r
  induction r with
  |nil=>
   intro tot w _ ht;rwa[List.map_nil,mZ,wH];show⟨jG,?_⟩;symm
   (show ez (by lia) ?_;rwa[xO])
   show⟨?_,?_⟩
   ·unfold gU;obtain this:∀l:List (List Nat),(∀o∈l,o.length<=1000)->(l.map List.length).sum<=1000*l.length:=by
     intro l
     induction l with
     |nil=>intro _;simp
     |cons a r ih=>
      intro hh;rwa[List.map_cons,List.sum_cons,List.length_cons];obtain this:=ih λo ho=>hh o (.tail _ ho)
      obtain this:=hh a (.head _);lia
    obtain this:=this ls h;simp only[List.length_nil];unfold eh;lia
   ·symm;show q
  |cons a r ih=>
   intro tot w ha ht;rwa[List.map_cons,jU];show⟨jG,?_⟩;symm;simp only[ia,gh];symm;obtain h1:=ha a (.head _);rw[List.length_cons] at ht;obtain this:=ih (tot+(a.length+0)) (some (.str a)) (λl hl=>ha l (.tail _ hl)) (by lia);show this
 obtain this:=main ls 0 none h (by lia);show this
end
section
variable{s:S}
theorem Kp{m:List Nat}{v:V}(ha:i4 140 m=true)(hl:kvs.length<=500):mf (.inst 140 J.length) m v (J++.sd kvs::τ) K=K (J++.sd (mL kvs m v)::τ):=by
 show yc _ (kJ _ _)=_;rwa[ha,jG];show propext ⟨λh=>by rw[<-wo];show h.2,λh=>⟨hl,by rwa[wo];show h⟩⟩
theorem LR{m:List Nat}{v:V}(ha:i4 140 m=true)(hf:eY kvs m=some v):fy (.inst 140 J.length) m (J++.sd kvs::τ) Q=Q v (J++.sd kvs::τ):=BP ha jG hf
theorem ix{m:List Nat}{v:V}(ha:i4 140 m=true)(hl:kvs.length<=500)(hn:(kvs.any λkv=>kv.1==m)=false):mf (.inst 140 J.length) m v (J++.sd kvs::τ) K=K (J++.sd (kvs++[(m,v)])::τ):=by
 rwa[Kp ha hl];unfold mL;rwa[hn];rfl
theorem Ir(T:d8 B){num:Int}(q:Q (.inst 140 J.length) (J++[tR J.length num sort proto [] 0,.lst [],.sd [],.sd [],.sd []])):d7 B (n+2) 140 [.int num,.int sort,.int proto] J Q X:=by
 show T.make (f:=137) (ns:=tr) (np:=4) (b:=kU) (by decide+kernel) (Dt (by decide+kernel)) (vt rfl) rfl ?_;show eH B n X kU [some (.inst 140 J.length),some (.int num),some (.int sort),some (.int proto)] (J++.sd []::[]) _
 rw[kU];symm
 try simp only[List.append_assoc,List.cons_append,List.nil_append]
 rw[ix (by decide+kernel) (Nat.le_of_ble_eq_true rfl) (by ac_rfl)];symm
 try simp only[List.append_assoc,List.cons_append,List.nil_append]
 rw[ix (by decide+kernel) (Nat.le_of_ble_eq_true rfl) (by ac_rfl)];symm
 try simp only[List.append_assoc,List.cons_append,List.nil_append]
 rw[ix (by decide+kernel) (Nat.le_of_ble_eq_true rfl) (by ac_rfl)];symm
 try simp only[List.append_assoc,List.cons_append,List.nil_append]
 rw[ix (by decide+kernel) (Nat.le_of_ble_eq_true rfl) (by ac_rfl)];symm
 try simp only[List.append_assoc,List.cons_append,List.nil_append]
 rw[ix (by decide+kernel) (Nat.le_of_ble_eq_true rfl) (by ac_rfl)];symm
 try simp only[List.append_assoc,List.cons_append,List.nil_append]
 rw[ix (by decide+kernel) (Nat.le_of_ble_eq_true rfl) (by ac_rfl)];symm
 try simp only[List.append_assoc,List.cons_append,List.nil_append]
 rw[ix (by decide+kernel) (Nat.le_of_ble_eq_true rfl) (by ac_rfl)];symm
 try simp only[List.append_assoc,List.cons_append,List.nil_append]
 rw[ix (by decide+kernel) (Nat.le_of_ble_eq_true rfl) (by ac_rfl)];symm
 try simp only[List.append_assoc,List.cons_append,List.nil_append]
 rw[ix (by decide+kernel) (Nat.le_of_ble_eq_true rfl) (by ac_rfl)];symm
 try simp only[List.append_assoc,List.cons_append,List.nil_append]
 rw[ix (by decide+kernel) (Nat.le_of_ble_eq_true rfl) (by ac_rfl)];symm
 try simp only[List.append_assoc,List.cons_append,List.nil_append]
 rw[ix (by decide+kernel) (Nat.le_of_ble_eq_true rfl) (by ac_rfl)];symm;show⟨trivial,?_⟩;simp only[List.length_append,List.length_cons,List.length_nil,List.nil_append,List.cons_append];obtain key:∀x,x=tR J.length num sort proto [] 0->Q (.inst 140 J.length) (J++x::[.lst [],.sd [],.sd [],.sd []]):=by
  intro x hx;subst hx;show q
 show key _ (by ac_rfl)
end
section
variable{s:S}
theorem QC(h:PS s J):je .len [.loc 3] J Q=Q (.int (base++s.ths).length) J:=by obtain⟨τ,rfl⟩:=h;show MN
theorem P4{v:V}(h:PS s J)(hv:(base++s.ths)[i]?=some v):eO (.loc 3) (.int i) J Q=Q v J:=by show fv h ?_;clear h;rintro τ rfl;show Aw hv
theorem gj{l:Hp}:(J++l)[J.length+j]?=l[j]?:=by
 rwa[List.getElem?_append_right (AD)];congr 1;simp
theorem sj{l:Hp}{x:fA}:(J++l).set (J.length+j) x=J++l.set j x:=by
 rwa[List.set_append_right _ _ (AD)];congr 2;simp
theorem sJ{m:List Nat}(h:J[k]?=some (.sd kvs)):fa .in_ (.str m) (.loc k) J Q=Q (.bool (eY kvs m).isSome) J:=nB (L8 h)
theorem ON{m:List Nat}(h:J[k]?=some (.lst (ls.map .str))):fa .in_ (.str m) (.loc k) J Q=Q (.bool (ls.contains m)) J:=nB (MA h)
theorem Kz{m:List Nat}{v:V}(h:J[k]?=some (.sd kvs))(hl:kvs.length<=10000):iu (.loc k) (.str m) v J K=K (J.set k (.sd (mL kvs m v))):=by
 show kJ J[k]? _=_;rwa[h];show propext ⟨λh=>h.2,λh=>⟨hl,h⟩⟩
theorem LG{x:List Nat}(h:J[k]?=some (.lst (ls.map .str))):gq .remove (.loc k) [.str x] J Q=(x∈ls/\Q .none (J.set k (.lst ((ls.erase x).map .str)))):=by
 show i6 J[k]? (λl=>fj (iZ l) λls=>x∈ls/\Q .none (J.set k (.lst ((ls.erase x).map .str))))=_;rwa[h];show fj (iZ (ls.map .str)) _=_;rwa[qR ..];rfl
theorem KR(h:J[k]?=some (.lst xs)):mB .remove (.loc k) J p=p:=lP (by simp[lC,h];rfl)
theorem Cj(T:d8 B)(hl:s.ths.length<=100000)(q:Q (.inst 140 (P s++τ).length) (P {s with ths:=s.ths++[.inst 140 (P s++τ).length]}++(τ++[tR (P s++τ).length (base++s.ths).length sort proto [] 0,.lst [],.sd [],.sd [],.sd []]))):
  d7 B (n+3) 235 [.inst 182 2,.int sort,.int proto] (P s++τ) Q X:=by
 show T.fn (r:=(uN,3,oW)) rfl rfl [_,_,_,none] rfl ?_;rw[oW];symm;have hs:PS s (P s++τ):=⟨τ,rfl⟩;rw[kc hs];symm;rw[QC hs];symm;show Ir T ?_;symm;rw[kc (hs.app _)];symm;rw[List.append_assoc,Om,QU];show⟨by rw[List.length_append];have:base.length=22:=rfl;lia,?_⟩;symm;show q
noncomputable abbrev wI(L:Nat)(num sort proto:Int)(names:List V)(slots:List (List Nat×V)):Hp:=[tR L num sort proto [] 0,.lst names,.sd slots,.sd [],.sd []]
theorem pF{L:Nat}{num:Int}{l:Hp}{m:List Nat}{v:V}(ha:i4 140 m=true)(hf:(match tR L num sort proto [] 0 with|.sd kvs=>eY kvs m|_=>none)=some v)(hL:L=J.length):fy (.inst 140 L) m (J++tR L num sort proto [] 0::l) Q=Q v (J++tR L num sort proto [] 0::l):=by
 subst hL;unfold tR at hf ⊢;show LR ha hf
theorem x8(T:d8 B){num:Int}{name:List Nat}(q:Q (.bool false) (J++wI J.length num sort proto [] [])):d7 B (n+1) 270 [.inst 140 J.length,.str name] (J++wI J.length num sort proto [] []) Q X:=by
 show T.fn (r:=(v8,2,qY)) rfl rfl [_,_] rfl ?_;rw[qY];symm;rwa[pF (v:=.loc (J.length+2)) (by decide+kernel) (by ac_rfl) rfl];symm;rwa[sJ (kvs:=[]) (by rw[gj];rfl)];symm;rwa[(show(eY [] name).isSome=false from rfl)];symm;rwa[pF (v:=.loc (J.length+3)) (by decide+kernel) (by ac_rfl) rfl];symm;rwa[sJ (kvs:=[]) (by rw[gj];rfl)];symm;rwa[(show(eY [] name).isSome=false from rfl)];symm;rwa[pF (v:=.loc (J.length+4)) (by decide+kernel) (by ac_rfl) rfl];symm;rwa[sJ (kvs:=[]) (by rw[gj];rfl)];symm;show q
theorem zk(T:d8 B){N:Nat}{name:List Nat}{v:V}(hs:PS s J)(hN:(base++s.ths)[N]?=some (.inst 140 J.length))(h1:¬sort=1)(q:Q .none (J++wI J.length N sort proto [.str name] [(name,v)])):d7 B (n+2) 305 [.inst 182 2,.int N,.str name,v] (J++wI J.length N sort proto [] []) Q X:=by
 show T.fn (r:=(yt,4,r5)) rfl rfl [_,_,_,_,none,none] rfl ?_;rw[r5];symm;rwa[kc (hs.app _)];symm;rwa[P4 (hs.app _) hN];symm;rwa[pF (v:=.int sort) (by decide+kernel) (by ac_rfl) rfl];symm;show ez h1 ?_;show x8 T ?_;symm;rwa[pF (v:=.loc (J.length+1)) (by decide+kernel) (by ac_rfl) rfl];symm;rwa[CR (xs:=[]) (by rw[gj];rfl),GX (xs:=[]) (by rw[gj];rfl)];show⟨dt rfl,?_⟩;symm;rwa[sj];show fy (.inst 140 J.length) _ (J++tR J.length N sort proto [] 0::[.lst [.str name],.sd [],.sd [],.sd []]) _
 rwa[pF (v:=.loc (J.length+3)) (by decide+kernel) (by ac_rfl) rfl];symm;rwa[sJ (kvs:=[]) (by rw[gj];rfl)];symm;rwa[(show(eY [] name).isSome=false from rfl)];symm;rwa[pF (v:=.loc (J.length+4)) (by decide+kernel) (by ac_rfl) rfl];symm;rwa[sJ (kvs:=[]) (by rw[gj];rfl)];symm;rwa[(show(eY [] name).isSome=false from rfl)];symm;rwa[pF (v:=.loc (J.length+2)) (by decide+kernel) (by ac_rfl) rfl];symm;rwa[Kz (kvs:=[]) (by rw[gj];rfl) (dt rfl)];symm;rwa[sj];show q
theorem EM(T:d8 B){N:Nat}{name:List Nat}{slots:List (List Nat×V)}(hs:PS s J)(hN:(base++s.ths)[N]?=some (.inst 140 J.length))(q:Q .none (J++wI J.length N sort proto [] slots)):d7 B (n+2) 312 [.inst 182 2,.int N,.str name] (J++wI J.length N sort proto [.str name] slots) Q X:=by
 show T.fn (r:=(uQ,3,oU)) rfl rfl [_,_,_,none] rfl ?_;rw[oU];symm;rwa[kc (hs.app _)];symm;rwa[P4 (hs.app _) hN];symm;rwa[pF (v:=.loc (J.length+1)) (by decide+kernel) (by ac_rfl) rfl];symm;rwa[ON (ls:=[name]) (by rw[gj];rfl)];symm;show fh (by simp) ?_;rwa[pF (v:=.loc (J.length+1)) (by decide+kernel) (by ac_rfl) rfl];symm;rwa[KR (xs:=[.str name]) (by rw[gj];rfl),LG (ls:=[name]) (by rw[gj];rfl)];show⟨by simp,?_⟩;symm;rwa[sj];obtain this:[name].erase name=[]:=by simp
 rwa[this];show q
theorem rF(T:d8 B){m:List Nat}(hl:s.ths.length<=100000)(q:Q (.tup [.int 6,.int (base++s.ths).length]) (P {s with ths:=s.ths++[.inst 140 (P s++τ).length]}++(τ++wI (P s++τ).length (base++s.ths).length 3 3 [] [(nH,.tup [.int 5,.str m])]))):
  d7 B (n+4) 424 [.inst 182 2,.int 3,.str m] (P s++τ) Q X:=by
 show T.fn (r:=(rz,3,mw)) rfl rfl [_,_,_,none] rfl ?_;rw[mw];symm;show Cj T hl ?_;symm;obtain⟨L,hL⟩:∃L,L=(P s++τ).length:=⟨_,rfl⟩;rw[<-hL] at q ⊢;generalize hs':({s with ths:=s.ths++[.inst 140 L]}:S)=s' at q ⊢;have hL':L=(P s'++τ).length:=by rw[hL,List.length_append,List.length_append,kK,kK]
 have hN:(base++s'.ths)[(base++s.ths).length]?=some (.inst 140 L):=by
  rwa[hs'.symm,(List.append_assoc ..).symm];simp
 generalize (base++s.ths).length=N at q hN ⊢;rw[<-List.append_assoc] at q ⊢;have ps:PS s' (P s'++τ):=⟨τ,rfl⟩;generalize P s'++τ=J at q hL' ps ⊢;clear hL hs';subst hL';rwa[pF (v:=.int N) (by decide+kernel) (by ac_rfl) rfl];symm;show(zk T ps hN (dt rfl) ?_).le (Nat.le_succ _);symm;rwa[pF (v:=.int N) (by decide+kernel) (by ac_rfl) rfl];symm;show(EM T ps hN ?_).le (Nat.le_succ _);symm;rwa[pF (v:=.int N) (by decide+kernel) (by ac_rfl) rfl];symm;show q
end
section
variable{s:S}
theorem nY(h:PS s J):mP B n X (.inst 889 1) `throw es U J Q=fH B n X es U J λds aa=>d7 B n 872 (.inst 889 1::ds) aa Q X:=by
 show fv h ?_;clear h;rintro τ rfl;show HO (kvs:=mD) (by decide+kernel) rfl (by decide+kernel)
theorem jZ(h:PS s J):mP B n X (.inst 889 1) `fault es U J Q=fH B n X es U J λds aa=>d7 B n 879 (.inst 889 1::ds) aa Q X:=by
 show fv h ?_;clear h;rintro τ rfl;show HO (kvs:=mD) (by decide+kernel) rfl (by decide+kernel)
theorem ij(h:PS s J):fy (.inst 889 1) `heap J Q=Q (.inst 182 2) J:=by obtain⟨τ,rfl⟩:=h;show lV
theorem qg(h:PS s J):fy (.inst 889 1) `protos J Q=Q (.loc 10) J:=by obtain⟨τ,rfl⟩:=h;show Dr
theorem Bg(h:PS s J):mB .get (.loc 10) J p=p:=by show fv h ?_;clear h;rintro τ rfl;show lP (by ac_rfl)
theorem BJ(h:PS s J):gq .get (.loc 10) [.int 3,d] J Q=Q (.int 3) J:=by obtain⟨τ,rfl⟩:=h;ac_rfl
theorem CA(T:d8 B){C d:Nat}{v:V}(q:X (.throw v) J):d7 B (n+3) 872 [.inst C d,v] J Q X:=by
 show T.fn (r:=(oN,2,ku)) rfl rfl [_,_] rfl ?_;rw[ku];symm;show⟨by show ju,q⟩
noncomputable def thr(s:S)(τ:Hp)(told:List V)(slots:List (List Nat×V)):Hp:=P {s with mtold:=s.mtold++told,ths:=s.ths++[.inst 140 (P s++τ).length]}++(τ++wI (P s++τ).length (base++s.ths).length 3 3 [] slots)
noncomputable def u5(s:S):V:=.tup [.int 6,.int (base++s.ths).length]
theorem Dk(T:d8 B){m:List Nat}(hl:s.ths.length<=100000)(ht:s.mtold.length<=1000000)(q:∀slots,X (.throw (u5 s)) (thr s τ [.tup [.int 1,.int 0]] slots)):
  d7 B (n+6) 879 [.inst 889 1,.int 1,.int 0,.str m] (P s++τ) Q X:=by
 show T.fn (r:=(oq,4,ky)) rfl rfl [_,_,_,_] rfl ?_;rw[ky];symm;show T.fn (r:=(rL,4,nt)) rfl rfl [_,_,_,_] rfl ?_;rw[nt];symm;rwa[Jx];symm;rwa[J8,NK];show⟨ht,?_⟩;symm;have ps:PS {s with mtold:=s.mtold++[.tup [.int 1,.int 0]]} (P {s with mtold:=s.mtold++[.tup [.int 1,.int 0]]}++τ):=⟨τ,rfl⟩;rwa[nY ps];symm;rwa[ij ps];symm;rwa[qg ps];symm;rwa[Bg ps,BJ ps];symm;show rF T hl ?_;symm;show(CA T (n:=n+1) ?_).le (Nat.le_refl _);have:=q [(nH,.tup [.int 5,.str m])];unfold thr at this;obtain e:(P {s with mtold:=s.mtold++[.tup [.int 1,.int 0]]}++τ).length=(P s++τ).length:=by rw[List.length_append,List.length_append,kK,kK]
 rw[<-e] at this;show this
theorem pZ(T:d8 B){v:SV}(o:gW w s)(hv:v.good)(hl:s.ths.length<=100000)(ht:s.mtold.length<=1000000)(q:(∀h:v=.undef\/v=.null,∀slots,X (.throw (u5 s)) (thr s τ [.tup [.int 1,.int 0]] slots)))(q2:¬(v=.undef\/v=.null)->∀ai,Q (.str (fm w v)) (P s++τ++ai)):
  d7 B (n+11) 480 [.inst 889 1,v.v] (P s++τ) Q X:=by
 have ps:PS s (P s++τ):=⟨τ,rfl⟩;show T.fn (r:=(pR,2,lN)) rfl rfl [_,_] rfl ?_;rw[lN];have bad:∀{m:List Nat} {Q':V->Hp->Prop},(v=.undef\/v=.null)->d7 B (n+10) 879 [.inst 889 1,.int 1,.int 0,.str m] (P s++τ) Q' X:=λh=>(Dk T hl ht (q h)).le (eP rfl)
 have fine:∀{Q':V->Hp->Prop},¬(v=.undef\/v=.null)->(∀d aa,Q d aa->Q' d aa)->d7 B (n+10) 361 [.inst 182 2,v.v] (P s++τ) Q' X:=λh hq=>km T o hv ps λai=>hq _ _ (q2 h ai)
 cases v with
 |undef=>
  simp only[SV.v];symm;rwa[jZ ps];symm;show bad (.inl rfl)
 |null=>
  simp only[SV.v];symm;rwa[jZ ps];symm;show bad (.inr rfl)
 |bool b=>
  simp only[SV.v] at fine ⊢;symm
  (show ez (dt rfl) ?_;rwa[ij ps]);symm
  show fine (by simp) (λd aa h=>by symm;show h)
 |num i=>
  simp only[SV.v] at fine ⊢;symm
  (show ez (dt rfl) ?_;rwa[ij ps]);symm
  show fine (by simp) (λd aa h=>by symm;show h)
 |nan=>
  simp only[SV.v] at fine ⊢;symm
  (show ez (dt rfl) ?_;rwa[ij ps]);symm
  show fine (by simp) (λd aa h=>by symm;show h)
 |str l=>
  simp only[SV.v] at fine ⊢;symm
  (show ez (dt rfl) ?_;rwa[ij ps]);symm
  show fine (by simp) (λd aa h=>by symm;show h)
 |obj j=>
  simp only[SV.v] at fine ⊢;symm
  (show ez (dt rfl) ?_;rwa[ij ps]);symm
  show fine (by simp) (λd aa h=>by symm;show h)
end
section
variable{s:S}
noncomputable def eK(args:List SV)(i:Nat):SV:=(args[i]?).getD .undef
theorem ma(T:d8 B)(q:Q (eK args i).v J):d7 B (n+1) 452 [.lst (args.map SV.v),.int i] J Q X:=by
 show IM T ?_;unfold eK at q;rwa[List.getElem?_map];cases h:args[i]? with
 |none=>rw[h] at q;show q
 |some v=>rw[h] at q;show q
theorem ie(h:∀v∈args,v.good)(i:Nat):(eK args i).good:=by
 unfold eK;cases e:args[i]? with
 |none=>trivial
 |some v=>show h v (List.mem_of_getElem? e)
noncomputable def w6(l:List Nat)(r:Int):List Nat:=if 0<=r/\r<l.length then(l[r.toNat]?).toList else []
theorem FC(T:d8 B){r:Int}(ha:∀v∈args,v.good)(hr:hG (eK args 0) 0=some r)(q:Q (.tup [.int 5,.str (w6 l r)]) J):
  d7 B (n+7) 494 [.inst 889 1,.str l,.lst (args.map SV.v)] J Q X:=by
 show T.fn (r:=(pS,3,lO)) rfl rfl [_,_,_,none] rfl ?_;rw[lO];symm;show(ma T (i:=0) ?_).le (eP rfl);symm;show jq T (ie ha 0).ok hr ?_;symm;unfold w6 at q;show eB (λh1=>?_) (λh1=>?_)
 ·show eB (λh2=>?_) (λh2=>?_)
  ·have hj:r.toNat<l.length:=by simp_all
   rw[if_pos ⟨h1,h2⟩,List.getElem?_eq_getElem hj] at q;rwa[mK (j:=r.toNat) (by lia) hj];symm;show q
  ·rw[if_neg (by intro h;show h2 h.2)] at q;show q
 ·rw[if_neg (by intro h;show h1 h.1)] at q;show q
noncomputable def sY(l t:List Nat)(r:Int):Int:=fE t l (mQ r l.length)
theorem wV(T:d8 B){r:Int}(o:gW w s)(ps:PS s J)(ha:∀v∈args,v.good)(hl:l.length<=1000000)(hr:hG (eK args 1) 0=some r)(q:∀τ,Q (.tup [.int 3,.int (sY l (fm w (eK args 0)) r)]) (J++τ)):
  d7 B (n+11) 501 [.inst 889 1,.str l,.lst (args.map SV.v)] J Q X:=by
 show T.fn (r:=(oI,3,lb)) rfl rfl [_,_,_,none,none] rfl ?_;rw[lb];symm;rwa[ij ps];symm;show(ma T (i:=0) ?_).le (eP rfl);symm;show km T o (ie ha 0) ps λτ=>?_
 symm;show(ma T (i:=1) ?_).le (eP rfl);symm;show(jq T (ie ha 1).ok hr ?_).le (eP rfl);symm;show(zc T ?_).le (eP rfl);symm;show⟨by show og,by unfold mQ;lia,?_⟩;rwa[Int.toNat_natCast ..];show q τ
theorem Er(T:d8 B){r:Int}(o:gW w s)(ps:PS s J)(ha:∀v∈args,v.good)(hl:l.length<=1000000)(hr:hG (eK args 1) 0=some r)(q:∀τ,Q (SV.bool (decide (0<=sY l (fm w (eK args 0)) r))).v (J++τ)):
  d7 B (n+12) 508 [.inst 889 1,.str l,.lst (args.map SV.v)] J Q X:=by
 show T.fn (r:=(oC,3,kM)) rfl rfl [_,_,_] rfl ?_;rw[kM];symm;show wV T o ps ha hl hr λτ=>?_
 symm;show(BI T ?_).le (eP rfl);have:=q τ;simp only[SV.v,tm] at this;revert this;symm;show id
noncomputable def pI(l:List Nat)(a b:Int):List Nat:=if gr b l.length<gr a l.length then [] else(l.take (gr b l.length)).drop (gr a l.length)
theorem J2(T:d8 B){a b:Int}(ha:∀v∈args,v.good)(h0:hG (eK args 0) 0=some a)(h1:hG (eK args 1) l.length=some b)(q:Q (.tup [.int 5,.str (pI l a b)]) J):
  d7 B (n+7) 515 [.inst 889 1,.str l,.lst (args.map SV.v)] J Q X:=by
 show T.fn (r:=(rU,3,nU)) rfl rfl [_,_,_,none,none] rfl ?_;rw[nU];symm;show(ma T (i:=0) ?_).le (eP rfl);symm;show jq T (ie ha 0).ok h0 ?_;symm;show(wK T ?_).le (eP rfl);symm;show(ma T (i:=1) ?_).le (eP rfl);symm;show jq T (ie ha 1).ok h1 ?_;symm;show(wK T ?_).le (eP rfl);symm;unfold pI at q;show eB (λh=>?_) (λh=>?_)
 ·rw[if_pos (by simp_all)] at q;show q
 ·rw[if_neg (by simp_all)] at q;show q
theorem Iw(T:d8 B)(o:gW w s)(ps:PS s J)(ha:∀v∈args,v.good)(hl:l.length<=1000)(hn:args.length<=5)(ht:∀v:SV,v.good->(fm w v).length<=1000)(q:∀τ,Q (.tup [.int 5,.str (jn [] (l::args.map (fm w)))]) (J++τ)):
  d7 B (n+11) 522 [.inst 889 1,.str l,.lst (args.map SV.v)] J Q X:=by
 show T.fn (r:=(rD,3,mC)) rfl rfl [_,_,_,none,none] rfl ?_;rw[mC];symm;have main:∀(all:List V) (as:List SV) (ls:List (List Nat)) (τ:Hp) (w4:Option V),(∀v∈as,v.good)->(∀l∈ls,l.length<=1000)->ls.length+as.length<=10->(∀τ,Q (.tup [.int 5,.str (jn [] (ls++as.map (fm w)))]) (J++τ))->
   For B (n+10) (λv U=>some (U.set 4 (some v))) none all %[.expr (.methB (.lv 3) .append %[.call 68 361 %[.att (.lv 0) `heap,.lv 4|.nil]|.nil])|.nil]
    (seq B (n+10) X %[.ret (.call 90 487 %[.lv 3,.str []|.nil])|.nil] (fe Q)) (as.map SV.v)
    [some (.inst 889 1),some (.str l),some (.lst (args.map SV.v)),some (.loc J.length),w4] (J++.lst (ls.map .str)::τ):=by
  intro all as
  induction as with
  |nil=>
   intro ls τ w4 _ h2 h3 q;rwa[List.map_nil,lR];symm;show(HC T h2 (by simpa using h3) ?_).le (eP rfl);symm;have:=q (.lst (ls.map .str)::τ);rw[List.map_nil,List.append_nil] at this;show this
  |cons v as ih=>
   intro ls τ w4 h1 h2 h3 q;rwa[List.map_cons,jh];simp only[ia,gh];symm;rwa[tN];have ps':PS s (J++.lst (ls.map .str)::τ):=ps.app _;rwa[ij ps'];symm;have hv:=h1 v (.head _);show km T o hv ps' λai=>?_
   symm;rwa[List.append_assoc ..,List.cons_append,w0];rw[List.length_cons] at h3;show⟨by rwa[List.length_map ..];lia,?_⟩;symm
   obtain this:=ih (ls++[fm w v]) (τ++ai) (some v.v) (λu hu=>h1 u (.tail _ hu)) (by
    intro l hl;rcases List.mem_append.mp hl with hl|hl
    ·show h2 l hl
    ·rwa[List.mem_singleton.mp hl];show ht v hv) (by rwa[List.length_append,List.length_singleton];lia) (by
    intro τ;have:=q τ;rw[List.map_cons] at this;rwa[List.append_assoc ..]
    show this)
   rw[List.map_append] at this;show this
 obtain this:=main (args.map SV.v) args [l] [] none ha (by intro x hx;rwa[List.mem_singleton.mp hx];show hl) (by rwa[List.length_singleton];lia) q;show this
end
section
variable{s:S}
inductive TR(w:Wc)(num:Nat)(l:List Nat)(args:List SV)(r:SV):Prop
 |t1 (e:num=201) (h:∃p,hG (eK args 0) 0=some p/\r=.str (w6 l p))
 |t2 (e:num=202) (h:∃p,hG (eK args 1) 0=some p/\r=.num (sY l (fm w (eK args 0)) p))
 |t3 (e:num=203) (h:∃p,hG (eK args 1) 0=some p/\r=.bool (decide (0<=sY l (fm w (eK args 0)) p)))
 |t4 (e:num=204) (h:∃a b,hG (eK args 0) 0=some a/\hG (eK args 1) l.length=some b/\r=.str (pI l a b))
 |t5 (e:num=205) (h:r=.str (l.map up1))
 |t6 (e:num=206) (h:r=.str (l.map lo1))
 |t7 (e:num=207) (h:r=.str (jn [] (l::args.map (fm w))))
def mN(w:Wc):Prop:=∀v:SV,v.good->eW (fm w v)/\(fm w v).length<=1000
theorem yF(T:d8 B){r:SV}(o:gW w s)(ht:this.good)(ha:∀v∈args,v.good)(hn:args.length<=5)(hw:mN w)(hl:s.ths.length<=100000)(hm:s.mtold.length<=1000000)(x:this=.undef\/this=.null->∀slots,X (.throw (u5 s)) (thr s τ [.tup [.int 1,.int 0]] slots))(h:¬(this=.undef\/this=.null)->TR w num (fm w this) args r)(q:¬(this=.undef\/this=.null)->∀ai,Q r.v (P s++τ++ai)):
  d7 B (n+13) 536 [.inst 539 45,.inst 889 1,.int num,this.v,.lst (args.map SV.v)] (P s++τ) Q X:=by
 obtain ps:PS s (P s++τ):=⟨τ,rfl⟩;show T.fn (r:=(lQ,5,iD)) rfl rfl [_,_,_,_,_,none] rfl ?_;rw[iD];symm;show(pZ T o ht hl hm x λhnn ai=>?_).le (Nat.le_succ _);obtain hr:=h hnn;have hq:=q hnn;have hlen:=hw this ht;symm;have hq':∀bF,Q r.v ((P s++τ++ai)++bF):=by intro bF;rw[List.append_assoc];show hq _
 have ps':PS s (P s++τ++ai):=ps.app _;have hq0:=hq' [];rw[List.append_nil] at hq0;generalize P s++τ++ai=aa at hq' hq0 ps' ⊢;have hQ:∀{x bF},r=x->Q x.v (aa++bF):=λe=>e▸hq' _
 have hZ:∀{x},r=x->Q x.v aa:=λe=>e▸hq0
 clear hq' hq0 hq q h x hnn hl hm;cases hr with
 |t1 e h=>
  show fh (by rw[e];rfl) ?_;show d6 h λp h1 e2=>(FC T ha h1 ?_).le (eP rfl)
  symm;show hZ e2
 |t2 e h=>
  show ez (by rw[e];show dt rfl) (fh (by rw[e];rfl) ?_);show d6 h λp h1 e2=>(wV T o ps' ha (Nat.le_trans hlen.2 (dt rfl)) h1 λbF=>?_).le (Nat.le_succ _)
  symm;show hQ e2
 |t3 e h=>
  show ez (by rw[e];show dt rfl) (ez (by rw[e];show dt rfl) (fh (by rw[e];rfl) ?_));show d6 h λp h1 e2=>(Er T o ps' ha (Nat.le_trans hlen.2 (dt rfl)) h1 λbF=>?_).le (Nat.le_refl _)
  symm;show hQ e2
 |t4 e h=>
  show ez (by rw[e];show dt rfl) (ez (by rw[e];show dt rfl) (ez (by rw[e];show dt rfl) (fh (by rw[e];rfl) ?_)));show jE h λa b h1 h2 e2=>(J2 T ha h1 h2 ?_).le (eP rfl)
  symm;show hZ e2
 |t5 e e2=>
  show ez (by rw[e];show dt rfl) (ez (by rw[e];show dt rfl) (ez (by rw[e];show dt rfl) (ez (by rw[e];show dt rfl) (fh (by rw[e];rfl) ?_))));show⟨hlen.1,Nat.le_trans hlen.2 (dt rfl),?_⟩;show(tj T (by rw[List.length_map];show Nat.le_trans hlen.2 (dt rfl)) ?_).le (eP rfl);symm;show hZ e2
 |t6 e e2=>
  show ez (by rw[e];show dt rfl) (ez (by rw[e];show dt rfl) (ez (by rw[e];show dt rfl) (ez (by rw[e];show dt rfl) (ez (by rw[e];show dt rfl) (fh (by rw[e];rfl) ?_)))));show⟨hlen.1,Nat.le_trans hlen.2 (dt rfl),?_⟩;show(tj T (by rw[List.length_map];show Nat.le_trans hlen.2 (dt rfl)) ?_).le (eP rfl);symm;show hZ e2
 |t7 e e2=>
  show ez (by rw[e];show dt rfl) (ez (by rw[e];show dt rfl) (ez (by rw[e];show dt rfl) (ez (by rw[e];show dt rfl) (ez (by rw[e];show dt rfl) (ez (by rw[e];show dt rfl) (fh (by rw[e];rfl) ?_))))));show(Iw T o ps' ha hlen.2 hn (λv hv=>(hw v hv).2) λbF=>?_).le (Nat.le_succ _);symm;show hQ e2
end
section
variable{s:S}
theorem mu(T:d8 B){r:Int}(ht:this.good)(ha:∀v∈args,v.good)(hl:s.ths.length<=100000)(hm:s.mtold.length<=1000000)(hr:hG (eK args 0) 10=some r)(x1:(∀i,this≠.num i)->this≠.nan->∀slots,X (.throw (u5 s)) (thr s τ [.tup [.int 1,.int 0]] slots))(x2:((∃i,this=.num i)\/this=.nan)->(r<2\/36<r)->∀slots,X (.throw (u5 s)) (thr s τ [] slots))(q1:2<=r->r<=36->this=.nan->Q (.tup [.int 5,.str `NaN]) (P s++τ))(q2:2<=r->r<=36->∀i,this=.num i->∀ai,Q (.tup [.int 5,.str (fV i r.toNat)]) (P s++τ++ai)):
  d7 B (n+12) 555 [.inst 889 1,this.v,.lst (args.map SV.v)] (P s++τ) Q X:=by
 have ps:PS s (P s++τ):=⟨τ,rfl⟩;show T.fn (r:=(rJ,3,mE)) rfl rfl [_,_,_,none] rfl ?_;rw[mE];have bad:∀{m:List Nat} {Q':V->Hp->Prop},(∀i,this≠.num i)->this≠.nan->d7 B (n+11) 879 [.inst 889 1,.int 1,.int 0,.str m] (P s++τ) Q' X:=λh1 h2=>(Dk T hl hm (x1 h1 h2)).le (eP rfl)
 have back:∀{m:List Nat} {Q':V->Hp->Prop},((∃i,this=.num i)\/this=.nan)->(r<2\/36<r)->(∀d aa,(∀Q'',d7 B (n+11) 872 [.inst 889 1,d] aa Q'' X)->Q' d aa)->d7 B (n+11) 424 [.inst 182 2,.int 3,.str m] (P s++τ) Q' X:=by
  intro m Q' hk h hq;show(rF T hl ?_).le (eP rfl);show hq _ _ λQ''=>(CA T ?_).le (eP rfl)
  have:=x2 hk h [(nH,.tup [.int 5,.str m])];unfold thr at this;rw[List.append_nil] at this;show this
 cases this with
 |undef=>simp only[SV.v];symm;rwa[jZ ps];symm;show bad (by simp) (by simp)
 |null=>simp only[SV.v];symm;rwa[jZ ps];symm;show bad (by simp) (by simp)
 |bool b=>simp only[SV.v];symm;rwa[jZ ps];symm;show bad (by simp) (by simp)
 |str l=>simp only[SV.v];symm;rwa[jZ ps];symm;show bad (by simp) (by simp)
 |obj j=>simp only[SV.v];symm;rwa[jZ ps];symm;show bad (by simp) (by simp)
 |nan=>
  simp only[SV.v];symm;show(ma T (i:=0) ?_).le (eP rfl);symm;show(jq T (ie ha 0).ok hr ?_).le (eP rfl);symm;show eB (λh=>?_) (λh=>eB (λh'=>?_) (λh'=>?_))
  ·rwa[nY ps];symm;rwa[ij ps];symm;rwa[qg ps];symm;rwa[Bg ps,BJ ps];symm;show back (.inr rfl) (.inl h) λd aa hd=>?_
   symm;show hd _
  ·rwa[nY ps];symm;rwa[ij ps];symm;rwa[qg ps];symm;rwa[Bg ps,BJ ps];symm;show back (.inr rfl) (.inr h') λd aa hd=>?_
   symm;show hd _
  ·show q1 (Int.not_lt.mp ‹_›) (Int.not_lt.mp ‹_›) rfl
 |num i=>
  simp only[SV.v];symm;show(ma T (i:=0) ?_).le (eP rfl);symm;show(jq T (ie ha 0).ok hr ?_).le (eP rfl);symm;show eB (λh=>?_) (λh=>eB (λh'=>?_) (λh'=>?_))
  ·rwa[nY ps];symm;rwa[ij ps];symm;rwa[qg ps];symm;rwa[Bg ps,BJ ps];symm;show back (.inl ⟨i,rfl⟩) (.inl h) λd aa hd=>?_
   symm;show hd _
  ·rwa[nY ps];symm;rwa[ij ps];symm;rwa[qg ps];symm;rwa[Bg ps,BJ ps];symm;show back (.inl ⟨i,rfl⟩) (.inr h') λd aa hd=>?_
   symm;show hd _
  ·obtain hi:i.natAbs<2^64:=by
    have:=ht.1;obtain this:=ht.2;unfold eG at*;lia
   obtain e:r=(r.toNat:Int):=by grind
   rwa[e];show(B2 T hi (by lia) λai=>?_).le (eP rfl);symm;show q2 (Int.not_lt.mp ‹_›) (Int.not_lt.mp ‹_›) i rfl ai
end
section
variable{s:S}
theorem Ax(T:d8 B)(h:d7 B (n+12) 555 [.inst 889 1,this.v,.lst (args.map SV.v)] (P s++τ) Q X):
  d7 B (n+13) 569 [.inst 572 81,.inst 889 1,.int 301,this.v,.lst (args.map SV.v)] (P s++τ) Q X:=by
 show T.fn (r:=(jX,5,hM)) rfl rfl [_,_,_,_,_] rfl ?_;rw[hM];symm;show h.mono (λd aa h=>by symm;show h) (λ_ _ h=>h)
theorem ou(T:d8 B){i:Int}{a b c:V}(h:¬i=301)(hi:i.natAbs<10000)(q:X .host J):d7 B (n+3) 569 [a,b,.int i,c,d] J Q X:=by
 show T.fn (r:=(jX,5,hM)) rfl rfl [_,_,_,_,_] rfl ?_;rw[hM];symm;show ez h ?_;show⟨by show ju,Nat.lt_of_lt_of_le hi (dt rfl),?_,q⟩;have:(fW i).length<=65:=by rwa[fZ (Nat.lt_of_lt_of_le hi (dt rfl))];show iI _ _
 simp only[List.length_cons,List.length_nil];unfold eh;lia
theorem Ct(T:d8 B)(o:gW w s)(ha:∀v∈args,v.good)(hm:s.mout.length<=1000000)(q:∀ai,Q (.tup [.int 0,.int 0]) (P {s with mout:=s.mout++[.str (fm w (eK args 0))]}++(τ++ai))):
  d7 B (n+11) 581 [.inst 889 1,.lst (args.map SV.v)] (P s++τ) Q X:=by
 have ps:PS s (P s++τ):=⟨τ,rfl⟩;show T.fn (r:=(um,2,pB)) rfl rfl [_,_] rfl ?_;rw[pB];symm;rw[Lm];symm;rw[MH,ij ps];symm;show(ma T (i:=0) ?_).le (eP rfl);symm;show km T o (ie ha 0) ps λai=>?_
 symm;rw[List.append_assoc,N8];show⟨hm,?_⟩;symm;show q ai
noncomputable def strA(w:Wc):List SV->List Nat
 |[]=>[]
 |v::_=>fm w v
theorem BG(T:d8 B)(o:gW w s)(ps:PS s J)(ha:∀v∈args,v.good)(q:∀τ,Q (.tup [.int 5,.str (strA w args)]) (J++τ)):
  d7 B (n+11) 588 [.inst 889 1,.lst (args.map SV.v)] J Q X:=by
 have q0:=q [];rw[List.append_nil] at q0;show T.fn (r:=(te,2,nK)) rfl rfl [_,_] rfl ?_;rw[nK];cases args with
 |nil=>
  rwa[List.map_nil];symm;show fh (dt rfl) ?_;show q0
 |cons v r=>
  rwa[List.map_cons];symm
  (show ez (by simp) ?_;rwa[ij ps]);symm
  obtain hs:∀Q':V->Hp->Prop,eO (.lst (v.v::r.map SV.v)) (.int 0) J Q'=Q' v.v J:=λQ'=>gM (i:=0) (by simp)
  rwa[hs ..];symm;show km T o (ha v (.head _)) ps λτ=>?_
  symm;show q τ
noncomputable def Aq(w:Wc):List SV->Option (Option Int)
 |[]=>some (some 0)
 |v::_=>Ap (EK w v)
theorem AA(T:d8 B)(o:gW w s)(hw:mN w)(ps:PS s J)(ha:∀v∈args,v.good)(h1:∀r τ,Aq w args=some r->Q (rQ r) (J++τ))(h2:∀τ,Aq w args=none->X .num (J++τ)):
  d7 B (n+12) 595 [.inst 889 1,.lst (args.map SV.v)] J Q X:=by
 show T.fn (r:=(rX,2,oa)) rfl rfl [_,_] rfl ?_;rw[oa];cases args with
 |nil=>
  rwa[List.map_nil];symm;show fh (dt rfl) ?_;have:=h1 (some 0) [] rfl;rw[List.append_nil] at this;show this
 |cons v r=>
  rwa[List.map_cons];symm
  (show ez (by simp) ?_;rwa[ij ps]);symm
  obtain hs:∀Q':V->Hp->Prop,eO (.lst (v.v::r.map SV.v)) (.int 0) J Q'=Q' v.v J:=λQ'=>gM (i:=0) (by simp)
  rwa[hs ..];symm;have hv:=ha v (.head _);show Bt T o hv ps λτ=>?_
  symm;obtain ok:(EK w v).ok:=by
   cases v with
   |obj k=>show⟨(hw _ hv).1,Nat.le_trans (hw _ hv).2 (dt rfl)⟩
   |str l=>show hv.ok
   |_=>trivial
  show(ux T ok (λr hr=>?_) (λhr=>h2 τ hr)).le (eP rfl);symm;show h1 r τ hr
noncomputable def Ho:List (Int×V):=[(2,.inst 539 45),(3,.inst 572 81),(1,.inst 633 89)]
theorem Nd(h:PS s J):fy (.inst 182 2) `natives J Q=Q (.loc 4) J:=by obtain⟨τ,rfl⟩:=h;show Qg
theorem Nn:mB .get (.loc 4) (P s++τ) p=p:=lP (by ac_rfl)
theorem M1{i:Int}:gq .get (.loc 4) [.int i] (P s++τ) Q=Q ((fP Ho i).getD .none) (P s++τ):=by ac_rfl
noncomputable abbrev OB:List Nat:=[99,97,108,108]
theorem iN(T:d8 B){i:Int}{g d f:Nat}{this args:V}(hg:fP Ho (i/100)=some (.inst g d))(hf:iz g OB=some f)(hd:(P s++τ)[d]?=some (.sd []))(h:d7 B n f [.inst g d,.inst 889 1,.int i,this,args] (P s++τ) Q X):d7 B (n+1) 445 [.inst 889 1,.int i,this,args] (P s++τ) Q X:=by
 have ps:PS s (P s++τ):=⟨τ,rfl⟩;show T.fn (r:=(mA,4,iQ)) rfl rfl [_,_,_,_,none] rfl ?_;rw[iQ];symm;rwa[ij ps];symm;rwa[Nd ps];symm;rwa[Nn];show⟨dt rfl,dt rfl,?_⟩;rwa[M1,hg];simp only[Option.getD_some];symm;rwa[HO hf hd rfl];symm;show h.mono (λd aa h=>by symm;show h) (λ_ _ h=>h)
theorem uk(T:d8 B){i:Int}{this args:V}(hg:fP Ho (i/100)=none)(hi:i.natAbs<10000)(q:X .host (P s++τ)):d7 B (n+3) 445 [.inst 889 1,.int i,this,args] (P s++τ) Q X:=by
 have ps:PS s (P s++τ):=⟨τ,rfl⟩;show T.fn (r:=(mA,4,iQ)) rfl rfl [_,_,_,_,none] rfl ?_;rw[iQ];symm;rwa[ij ps];symm;rwa[Nd ps];symm;rwa[Nn];show⟨dt rfl,dt rfl,?_⟩;rwa[M1,hg];simp only[Option.getD_none];symm;show⟨by show ju,Nat.lt_of_lt_of_le hi (dt rfl),?_,q⟩;obtain this:(fW i).length<=65:=by rwa[fZ (Nat.lt_of_lt_of_le hi (dt rfl))];show iI _ _
 simp only[List.length_cons,List.length_nil];unfold eh;lia
end
section
variable{s:S}
theorem A7(T:d8 B){i:Int}{a b c:V}(h:i≠101/\i≠102/\i≠103/\i≠104)(hi:i.natAbs<10000)(q:X .host J):d7 B (n+3) 630 [a,b,.int i,c,d] J Q X:=by
 show T.fn (r:=(hJ,5,fJ)) rfl rfl [_,_,_,_,_] rfl ?_;rw[fJ];symm;show ez h.1 (ez h.2.1 (ez h.2.2.1 (ez h.2.2.2 ?_)));show⟨by show ju,Nat.lt_of_lt_of_le hi (dt rfl),?_,q⟩;obtain this:(fW i).length<=65:=by rwa[fZ (Nat.lt_of_lt_of_le hi (dt rfl))];show iI _ _
 simp only[List.length_cons,List.length_nil];unfold eh;lia
theorem Kd(T:d8 B){a b c:V}(h:d7 B n 581 [b,d] J Q X):d7 B (n+1) 630 [a,b,.int 101,c,d] J Q X:=by
 show T.fn (r:=(hJ,5,fJ)) rfl rfl [_,_,_,_,_] rfl ?_;rw[fJ];symm;show h.mono (λd aa h=>by symm;show h) (λ_ _ h=>h)
theorem JP(T:d8 B){a b c:V}(h:d7 B n 588 [b,d] J Q X):d7 B (n+1) 630 [a,b,.int 102,c,d] J Q X:=by
 show T.fn (r:=(hJ,5,fJ)) rfl rfl [_,_,_,_,_] rfl ?_;rw[fJ];symm;show h.mono (λd aa h=>by symm;show h) (λ_ _ h=>h)
theorem J3(T:d8 B){a b c:V}(h:d7 B n 595 [b,d] J Q X):d7 B (n+1) 630 [a,b,.int 103,c,d] J Q X:=by
 show T.fn (r:=(hJ,5,fJ)) rfl rfl [_,_,_,_,_] rfl ?_;rw[fJ];symm;show h.mono (λd aa h=>by symm;show h) (λ_ _ h=>h)
theorem A2(T:d8 B){i:Int}(o:gW w s)(hl:eW l/\l.length<=200)(h:¬(201<=i/\i<=207))(hi:i.natAbs<10000)(q:∀ai,X .host (P s++τ++ai))(l1:s.ths.length<=100000)(l2:s.mtold.length<=1000000):
  d7 B (n+13) 536 [.inst 539 45,.inst 889 1,.int i,(SV.str l).v,d] (P s++τ) Q X:=by
 show T.fn (r:=(lQ,5,iD)) rfl rfl [_,_,_,_,_,none] rfl ?_;rw[iD];symm;show(pZ T (v:=.str l) o hl l1 l2 (λh=>by rcases h with h|h<;>cases h) λ_ ai=>?_).le (Nat.le_succ _);symm;show ez (by lia) (ez (by lia) (ez (by lia) (ez (by lia) (ez (by lia) (ez (by lia) (ez (by lia) ?_))))));show⟨by show ju,Nat.lt_of_lt_of_le hi (dt rfl),?_,q ai⟩;obtain this:(fW i).length<=65:=by rwa[fZ (Nat.lt_of_lt_of_le hi (dt rfl))];show iI _ _
 simp only[List.length_cons,List.length_nil];unfold eh;lia
set_option genCtorIdx true in
inductive Oc where
 |val (v:SV)
 |print (t:List Nat)
 |thr (tell:Bool)
 |num
 |host
noncomputable def lW(b:Bool):List V:=if b then [.tup [.int 1,.int 0]] else []
def R4(s:S)(τ:Hp)(oc:Oc)(Q:V->Hp->Prop)(X:fD->Hp->Prop):Prop:=match oc with
 |.val v=>∀ai,Q v.v (P s++(τ++ai))
 |.print t=>∀ai,Q SV.undef.v (P {s with mout:=s.mout++[.str t]}++(τ++ai))
 |.thr b=>∀slots,X (.throw (u5 s)) (Mine.thr s τ (lW b) slots)
 |.num=>∀ai,X .num (P s++(τ++ai))
 |.host=>∀ai,X .host (P s++(τ++ai))
def mx(B:eD)(n:Nat)(s:S)(τ:Hp)(i:Int)(this:SV)(args:List SV)(oc:Oc):Prop:=
 ∀(Q:V->Hp->Prop) (X:fD->Hp->Prop),R4 s τ oc Q X->d7 B n 445 [.inst 889 1,.int i,this.v,.lst (args.map SV.v)] (P s++τ) Q X
structure rj(s:S):Prop where
 ths:s.ths.length<=100000
 told:s.mtold.length<=1000000
 out:s.mout.length<=1000000
theorem Iz(T:d8 B){r:SV}(o:gW w s)(sm:rj s)(ht:this.good)(ha:∀v∈args,v.good)(hn:args.length<=5)(hw:mN w)(hnum:num/100=2)(hnn:¬(this=.undef\/this=.null))(h:TR w num (fm w this) args r):mx B (n+14) s τ num this args (.val r):=by
 intro Q X hq;show iN T (g:=539) (d:=45) (f:=536) (by rwa[(show((num:Int)/100)=((num/100:Nat):Int) by simp),hnum];rfl) (by decide+kernel) rfl ?_;show yF T o ht ha hn hw sm.ths sm.told (λh=>absurd h hnn) (λ_=>h) λ_ ai=>by rwa[List.append_assoc ..];show hq ai
theorem Am(T:d8 B)(o:gW w s)(sm:rj s)(ht:this.good)(ha:∀v∈args,v.good)(hn:args.length<=5)(hw:mN w)(hnum:num/100=2)(hnn:this=.undef\/this=.null):mx B (n+14) s τ num this args (.thr true):=by
 intro Q X hq;show iN T (g:=539) (d:=45) (f:=536) (by rwa[(show((num:Int)/100)=((num/100:Nat):Int) by simp),hnum];rfl) (by decide+kernel) rfl ?_;show yF T (r:=.undef) o ht ha hn hw sm.ths sm.told (λ_=>hq) (λh=>absurd hnn h) λh=>absurd hnn h
theorem Hv(T:d8 B){r:Int}{oc:Oc}(sm:rj s)(ht:this.good)(ha:∀v∈args,v.good)(hr:hG (eK args 0) 10=some r)(h:(∀i,this≠.num i)->this≠.nan->oc=.thr true)(h1:(∃i,this=.num i)\/this=.nan->(r<2\/36<r)->oc=.thr false)(h2:2<=r->r<=36->this=.nan->oc=.val (.str `NaN))(h3:2<=r->r<=36->∀i,this=.num i->oc=.val (.str (fV i r.toNat))):
  mx B (n+14) s τ 301 this args oc:=by
 intro Q X hq;show iN T (g:=572) (d:=81) (f:=569) (by ac_rfl) (by decide+kernel) rfl ?_;show Ax T ?_
 by_cases c1:(∀i,this≠.num i)/\this≠.nan
 ·have:=h c1.1 c1.2;clear h h1 h2 h3;subst this;show mu T ht ha sm.ths sm.told hr (λ_ _=>hq) (λhk=>by rcases hk with⟨i,hk⟩|hk;show absurd hk (c1.1 i);show absurd hk c1.2) (λ_ _ h=>absurd h c1.2) (λ_ _ i h=>absurd h (c1.1 i))
 ·obtain c2:(∃i,this=.num i)\/this=.nan:=by
   cases this with
   |num i=>show .inl ⟨i,rfl⟩
   |nan=>show .inr rfl
   |_=>show absurd ⟨by simp,by simp⟩ c1
  by_cases c3:r<2\/36<r
  ·obtain this:=h1 c2 c3;clear h h1;subst this;show mu T ht ha sm.ths sm.told hr (λa b=>absurd ⟨a,b⟩ c1) (λ_ _=>hq) (λa b=>absurd c3 (by simp_all)) (λa b=>absurd c3 (by simp_all))
  ·show mu T ht ha sm.ths sm.told hr (λa b=>absurd ⟨a,b⟩ c1) (λ_ a=>absurd a c3) (λ_ _ e=>?_) (λa b i e ai=>?_)
   ·obtain this:=h2 (by assumption) (by assumption) e;clear h h1 h2 h3;subst this;have:=hq [];rw[List.append_nil] at this;show this
   ·obtain this:=h3 a b i e;clear h h1 h2 h3;subst this;rwa[List.append_assoc ..];show hq ai
theorem GW(T:d8 B)(o:gW w s)(sm:rj s)(ha:∀v∈args,v.good):mx B (n+14) s τ 101 this args (.print (fm w (eK args 0))):=by
 intro Q X hq;show iN T (g:=633) (d:=89) (f:=630) (by ac_rfl) (by decide+kernel) rfl ?_;show(Kd T (n:=n+11) (Ct T o ha sm.out hq)).le (Nat.le_succ _)
theorem vR(T:d8 B)(o:gW w s)(ha:∀v∈args,v.good):mx B (n+14) s τ 102 this args (.val (.str (strA w args))):=by
 intro Q X hq;show iN T (g:=633) (d:=89) (f:=630) (by ac_rfl) (by decide+kernel) rfl ?_;show(JP T (n:=n+11) (BG T o ⟨τ,rfl⟩ ha λai=>by rwa[List.append_assoc ..];show hq ai)).le (Nat.le_succ _)
noncomputable def IH:Option Int->SV
 |some i=> .num i
 |none=> .nan
theorem qw(T:d8 B)(o:gW w s)(hw:mN w)(ha:∀v∈args,v.good):mx B (n+14) s τ 103 this args (match Aq w args with|some r=> .val (IH r)|none=> .num):=by
 intro Q X hq;show iN T (g:=633) (d:=89) (f:=630) (by ac_rfl) (by decide+kernel) rfl ?_;show(J3 T (n:=n+12) (AA T o hw ⟨τ,rfl⟩ ha (λr ai hr=>?_) (λai hr=>?_))).le (Nat.le_refl _)
 ·rw[hr] at hq;rwa[List.append_assoc ..];have:=hq ai;clear hq hr;cases r<;>show this
 ·rw[hr] at hq;rwa[List.append_assoc ..];show hq ai
theorem J0(T:d8 B){i:Int}(o:gW w s)(sm:rj s)(hl:eW l/\l.length<=200)(hi:i∈[200,300,401,105,208,302,0,100]):mx B (n+14) s τ i (.str l) args .host:=by
 intro Q X hq;have hq0:X .host (P s++τ):=by have:=hq [];rw[List.append_nil] at this;show this
 simp only[List.mem_cons,List.mem_nil_iff,or_false] at hi;rcases hi with rfl|rfl|rfl|rfl|rfl|rfl|rfl|rfl
 ·show iN T (g:=539) (d:=45) (f:=536) (by ac_rfl) (by decide+kernel) rfl (A2 T o hl (dt rfl) (dt rfl) (λai=>by rwa[List.append_assoc ..];show hq ai) sm.ths sm.told)
 ·show iN T (g:=572) (d:=81) (f:=569) (by ac_rfl) (by decide+kernel) rfl ((ou T (dt rfl) (dt rfl) hq0).le (eP rfl))
 ·show(uk T (by decide+kernel) (dt rfl) hq0).le (eP rfl)
 ·show iN T (g:=633) (d:=89) (f:=630) (by ac_rfl) (by decide+kernel) rfl ((A7 T (dt rfl) (dt rfl) hq0).le (eP rfl))
 ·show iN T (g:=539) (d:=45) (f:=536) (by ac_rfl) (by decide+kernel) rfl (A2 T o hl (dt rfl) (dt rfl) (λai=>by rwa[List.append_assoc ..];show hq ai) sm.ths sm.told)
 ·show iN T (g:=572) (d:=81) (f:=569) (by ac_rfl) (by decide+kernel) rfl ((ou T (dt rfl) (dt rfl) hq0).le (eP rfl))
 ·show(uk T (by decide+kernel) (dt rfl) hq0).le (eP rfl)
 ·show iN T (g:=633) (d:=89) (f:=630) (by ac_rfl) (by decide+kernel) rfl ((A7 T (dt rfl) (dt rfl) hq0).le (eP rfl))
end
end
variable{s1:S}{oc:Oc}
section
open PySem PySem.W PyProof.Rows
section
variable{s:S}
def oR(s:S):Prop:=∀x∈s.L,0<=x/\x<98000000
theorem gK(T:d8 B)(hL:oR s)(hn:s.nx<=1000)(q:∀v:Int,0<=v->v<98000000->Q (.int v) (P (s.pn (s.nx+1))++τ)):d7 B (n+1) 1011 [.loc 0] (P s++τ) Q X:=by
 show T.fn (r:=(v9,1,qP)) rfl rfl [_] rfl ?_;rw[qP];symm;rwa[LZ];symm;rwa[(show((s.nx:Int)+1)=((s.nx+1:Nat):Int) by simp),Lr];show⟨dt rfl,?_⟩;symm;rwa[DH];symm;rwa[D6];symm;show eB (λh=>?_) (λh=>?_)
 ·rwa[D6];symm;rwa[DH];symm;have hl:s.nx<(s.L.map V.int).length:=by
   obtain this:((s.nx+1:Nat):Int)<=((s.L.map V.int).length:Int):=h;lia
  obtain e:(((s.nx+1:Nat):Int)-1)=(s.nx:Int):=by simp
  obtain hl':s.nx<s.L.length:=by rw[List.length_map] at hl;show hl
  show eO (.lst (s.L.map V.int)) (.int (((s.nx+1:Nat):Int)-1)) _ _;rwa[e,gM hl];symm;rwa[List.getElem_map ..];have:=hL _ (List.getElem_mem hl');show q _ this.1 this.2
 ·rwa[DH];symm;show q _ (og) (by show(((s.nx+1:Nat):Int))<_;lia)
theorem js{x:Int}(h0:0<=x)(h:x<=1000000):fF (.rng 0 x) J=some ((List.range x.toNat).map λ(k:Nat)=>V.int k,none):=by
 obtain⟨m,rfl⟩:∃m:Nat,x=m:=⟨x.toNat,by lia⟩;show d4 (GL (by lia)) (d4 (Int.toNat_natCast ..) rfl)
noncomputable def yj:List Nat:=[48,49,97,120,45,46,32,101,43,70]
noncomputable def iX:List (List Nat):=[[48,120],[48,98],[48,111],[45,48,120],[48,88],[32],[45,73,110,102,105,110,105,116,121],[43],[9,10,45],`Infinity,[57,48,48,55,49,57,57,50,53,52,55,52,48,57,57,50],[49,69],[48,66],[45,57,48,48,55,49,57,57,50,53,52,55,52,48,57,57,50]]
def tf(l:List Nat):Prop:=∃h r,l=h++r/\(∀c∈r,c∈yj)/\((h=[]/\r.length<=6)\/(h∈iX/\r.length<=4))
theorem J4(T:d8 B)(q:Q (.lst (iX.map .str)) J):d7 B (n+1) 1004 [] J Q X:=by
 show T.fn (r:=(uD,0,pj)) rfl rfl [] rfl ?_;rw[pj];symm;show q
theorem y6{h:List Nat}{R:Fl->ew->Hp->Prop}:∀(m:Nat) (all xs:List V) (qv:Int) (r:List Nat) (w:Option V),xs.length=m->0<=qv->(h++r).length+m<=100->(∀c∈r,c∈yj)->(∀r' w3 w4,(∀c∈r',c∈yj)->r'.length=r.length+m->R .next [a0,a1,some (.str (h++r')),some w3,w4] J)->
  For B n (λv U=>some (U.set 4 (some v))) none all %[.aug 2 .add (.sub (.str [48,49,97,120,45,46,32,101,43,70]) (.bin .mod (.lv 3) (.int 10))),.asg 3 (.bin .fdiv (.lv 3) (.int 10))|.nil] R xs [a0,a1,some (.str (h++r)),some (.int qv),w] J:=by
 intro m
 induction m with
 |zero=>
  intro all xs qv r w hx _ _ hr q;cases xs with
  |cons _ _=>injection hx
  |nil=>rwa[lR];show q r _ _ hr rfl
 |succ m ih=>
  intro all xs qv r w hx hq hz hr q;cases xs with
  |nil=>injection hx
  |cons x xs=>
   rwa[jh];simp only[ia,gh];symm;show⟨dt rfl,?_⟩;have hj:(qv%10).toNat<yj.length:=by show _<10;lia
   rwa[(show([48,49,97,120,45,46,32,101,43,70]:List Nat)=yj from rfl),mK (j:=(qv%10).toNat) (by lia) hj];symm;show⟨by rwa[List.length_singleton];unfold eh;lia,dt rfl,dt rfl,?_⟩;rwa[List.append_assoc ..];show ih all xs (qv/10) (r++[yj[(qv%10).toNat]]) (some x) (by simpa using hx) (by lia) ?_ ?_ ?_
   ·rwa[(List.append_assoc ..).symm,List.length_append,List.length_singleton];lia
   ·intro c hc;rcases List.mem_append.mp hc with hc|hc
    ·show hr c hc
    ·rwa[List.mem_singleton.mp hc];show List.getElem_mem hj
   ·intro r' w3 w4 h1 h2;show q r' w3 w4 h1 (by rwa[h2,List.length_append,List.length_singleton];lia)
theorem vK(T:d8 B)(hL:oR s)(hn:s.nx<=1000)(q:∀l,tf l->Q (.str l) (P (s.pn (s.nx+1))++τ)):d7 B (n+2) 1018 [.loc 0] (P s++τ) Q X:=by
 show T.fn (r:=(wL,1,rt)) rfl rfl [_,none,none,none,none] rfl ?_;rw[rt];symm;show gK T hL hn λv h0 h1=>?_
 symm;show⟨dt rfl,eB (λhe=>?_) (λhe=>?_)⟩
 ·show⟨dt rfl,?_⟩;show fh he ?_;show⟨dt rfl,dt rfl,dt rfl,?_⟩;show fh he ?_;show⟨dt rfl,?_⟩;show⟨by grind,?_⟩;rwa[js (Int.emod_nonneg _ (dt rfl)) (by grind)];symm;show y6 (h:=[]) (v%7).toNat _ _ _ [] _ (by simp) (by lia) (by simp only[List.nil_append,List.length_nil];grind) (by simp) λr' w3 w4 h3 h4=>?_
  symm;show q _ ⟨[],r',rfl,h3,.inl ⟨rfl,by rwa[h4,List.length_nil];grind⟩⟩
 ·show J4 T ?_;symm;show⟨dt rfl,dt rfl,dt rfl,?_⟩;have hj:(v/14%14).toNat<iX.length:=by show _<14;lia
  obtain hs:∀J (Q':V->Hp->Prop),eO (.lst (iX.map .str)) (.int (v/14%14)) J Q'=Q' (.str iX[(v/14%14).toNat]) J:=by
   intro J Q';have:=gM (J:=J) (Q:=Q') (l:=iX.map V.str) (i:=(v/14%14).toNat) (by rwa[List.length_map ..];show hj);rw[show(((v/14%14).toNat:Nat):Int)=v/14%14 by lia,List.getElem_map] at this;show this
  rwa[hs ..];symm;show⟨dt rfl,?_⟩;show ez he ?_;show⟨dt rfl,dt rfl,dt rfl,?_⟩;show ez he ?_;show⟨dt rfl,dt rfl,dt rfl,by grind,?_⟩;rwa[js (Int.emod_nonneg _ (dt rfl)) (by grind)];symm;obtain hh:iX[(v/14%14).toNat].length<=20:=by
   obtain this:∀h∈iX,h.length<=20:=dt rfl;show this _ (List.getElem_mem hj)
  rwa[(show(V.str iX[(v/14%14).toNat])=V.str (iX[(v/14%14).toNat]++[]) by rw[List.append_nil])];show y6 (h:=iX[(v/14%14).toNat]) (v/2%5).toNat _ _ _ [] _ (by simp) (by lia) (by rwa[List.append_nil ..];lia) (by simp) λr' w3 w4 h3 h4=>?_
  symm;show q _ ⟨_,r',rfl,h3,.inr ⟨List.getElem_mem hj,by rwa[h4,List.length_nil];grind⟩⟩
end
section
variable{s:S}
theorem xB(T:d8 B)(hL:oR s)(hn:s.nx+1<=1000)(q:∀(i:Int) (nx:Nat),-eG<=i->i<=eG->nx<=s.nx+2->Q (.int i) (P (s.pn nx)++τ)):d7 B (n+2) 1025 [.loc 0] (P s++τ) Q X:=by
 show T.fn (r:=(uu,1,o8)) rfl rfl [_,none,none,none] rfl ?_;rw[o8];symm;show gK T hL (Nat.le_of_lt ‹_›) λv h0 h1=>?_
 symm;show⟨dt rfl,dt rfl,dt rfl,dt rfl,dt rfl,dt rfl,?_⟩;have fin:∀(m:Int) (nx:Nat) (b:Bool) (w1:V),0<=m->m<=eG->nx<=s.nx+2->eH B (n+1) X (.cons (.ret (.ite (.lv 3) (.bin .sub (.int 0) (.lv 2)) (.lv 2))) .nil) [some (.loc 0),some w1,some (.int m),some (.bool b)] (P (s.pn nx)++τ) (fe Q):=by
  intro m nx b w1 hm hm2 hx;unfold eG at hm2;symm;cases b
  ·show ez (dt rfl) ?_;show q m nx (by unfold eG;lia) (by unfold eG;assumption) hx
  ·show fh (dt rfl) ?_;show q (0-m) nx (by unfold eG;simp_all) (by unfold eG;lia) hx
 have fin2:∀(m:Int) (nx:Nat) (b:Bool),0<=m->m<=eG->nx<=s.nx+2->eH B (n+1) X %[.ite (.cmp .eq (.bin .mod (.lv 1) (.int 4)) (.int 3)) %[.asg 2 (.bin .sub (.int 9007199254740991) (.bin .mod (.lv 2) (.int 40)))|.nil] .nil,.ret (.ite (.lv 3) (.bin .sub (.int 0) (.lv 2)) (.lv 2))|.nil] [some (.loc 0),some (.int v),some (.int m),some (.bool b)] (P (s.pn nx)++τ) (fe Q):=by
  intro m nx b hm hm2 hx;unfold eG at hm2;symm;show⟨dt rfl,eB (λh=>?_) (λh=>?_)⟩
  ·show⟨dt rfl,?_⟩;show fin (9007199254740991-m%40) nx b (.int v) (by grind) (by unfold eG;grind) hx
  ·show fin m nx b (.int v) hm (by unfold eG;assumption) hx
 show eB (λh=>?_) (λh=>?_)
 ·show⟨dt rfl,.inr (dt rfl),?_⟩;show gK T (s:=(s.pn (s.nx+1))) hL hn λv' h0' h1'=>?_
  symm;show fin2 (v/4%10000000*900719925+v') (s.nx+1+1) (decide (v/4/2%2=1)) (by lia) (by unfold eG;lia) (Nat.le_refl _)
 ·show fin2 (v/4) (s.nx+1) (decide (v/4/2%2=1)) (by lia) (by unfold eG;lia) (Nat.le_succ _)
def fG(most:Int):SV->Prop
 |.str l=>tf l
 |.num i=> -eG<=i/\i<=eG
 |.obj k=>most=13/\18<=k/\k<=21
 |_=>True
theorem lz(T:d8 B){most:Int}(hmost:most=7\/most=13)(hL:oR s)(hn:s.nx+3<=1000)(q:∀(v:SV) (nx:Nat),fG most v->nx<=s.nx+3->Q v.v (P (s.pn nx)++τ)):d7 B (n+3) 1032 [.loc 134,.loc 0,.int most] (P s++τ) Q X:=by
 show T.fn (r:=(uH,3,pb)) rfl rfl [_,_,_,none,none,none,none] rfl ?_;rw[pb];symm;show(gK T hL (by lia) λv h0 h1=>?_).le (Nat.le_succ _);symm;have hm0:0<most:=by lia
 obtain hb:=Int.emod_nonneg v (show most≠0 by lia);obtain hc:=Int.emod_lt_of_pos v hm0;show⟨hm0,eB (λh=>?_) (λh=>eB (λh2=>?_) (λh2=>?_))⟩
 ·show xB T (s:=(s.pn (s.nx+1))) hL (by show s.nx+1+1<=1000;show Nat.le_of_lt ‹_›) λi nx i1 i2 i3=>?_
  symm;show q (.num i) nx ⟨i1,i2⟩ (by have:nx<=s.nx+1+2:=i3;assumption)
 ·show vK T (s:=(s.pn (s.nx+1))) hL (by show s.nx+1<=1000;lia) λl hl=>?_
  symm;show q (.str l) _ hl (by show s.nx+1+1<=_;show Nat.le_succ _)
 ·show eB (λh3=>?_) (λh3=>?_)
  ·show vK T (s:=(s.pn (s.nx+1))) hL (by show s.nx+1<=1000;lia) λl hl=>?_
   symm;show q (.str l) _ hl (by show s.nx+1+1<=_;show Nat.le_succ _)
  ·show⟨hm0,by lia,by decide,by decide,?_⟩;generalize hk:v%most=kd at*;generalize v/most=qv;show eB (λh4=>?_) (λh4=>?_)
   ·have key:∀(rows:List V) (i:Nat) (sv:SV) (J:Hp) (Q':V->Hp->Prop),kd=(i:Int)->(rows[i]?)=some sv.v->eO (.lst rows) (.int kd) J Q'=Q' sv.v J:=by
     intro rows i sv J Q' e1 e2;show fv (List.getElem?_eq_some_iff.mp e2) λhi e3=>?_
     clear hk hb hc h h2 h3 h4;subst e1;show d4 (gM hi) (d4 e3 rfl)
    obtain hq2:=Int.emod_nonneg qv (show(2:Int)≠0 by decide);obtain hq3:=Int.emod_lt_of_pos qv (show(0:Int)<2 by decide);have hkd:kd=1\/kd=2\/kd=3\/kd=4\/kd=6:=by lia
    rcases hkd with e|e|e|e|e
    ·rwa[key _ 1 .nan _ _ e rfl];symm;show q .nan _ trivial (eP rfl)
    ·rwa[key _ 2 .undef _ _ e rfl];symm;show q .undef _ trivial (eP rfl)
    ·rwa[key _ 3 .null _ _ e rfl];symm;show q .null _ trivial (eP rfl)
    ·(rwa[key _ 4 (.bool (decide (qv%2=1))) _ _ e (by
      obtain this:tm (decide (qv%2=1))=qv%2:=by unfold tm;by_cases hh:qv%2=1<;>simp[hh];lia
      show some (V.tup [.int 2,.int (qv%2)])=some (V.tup [.int 2,.int (tm (decide (qv%2=1)))])
      rw[this])])
     symm;show q (.bool _) _ trivial (eP rfl)
    ·rwa[key _ 6 (.num (qv%7-3)) _ _ e rfl];symm;show q (.num _) _ ⟨by unfold eG;grind,by unfold eG;grind⟩ (eP rfl)
   ·have h13:most=13:=by grind
    rwa[Df];symm;obtain hkd:kd=7\/kd=8\/kd=9\/kd=10:=by lia
    have key:∀(i j:Nat) (J:Hp) (Q':V->Hp->Prop),kd-7=(i:Int)->([V.int 18,.int 19,.int 20,.int 21][i]?)=some (V.int j)->eO (.lst [.int 18,.int 19,.int 20,.int 21]) (.int (kd-7)) J Q'=Q' (.int j) J:=by
     intro i j J Q' e1 e2;show fv (List.getElem?_eq_some_iff.mp e2) λhi e3=>?_
     show d4 e1 (d4 (gM hi) (d4 e3 rfl))
    rcases hkd with e|e|e|e
    ·rwa[key 0 18 _ _ (by simp_all) rfl];symm;show q (.obj 18) _ ⟨h13,by decide,by decide⟩ (eP rfl)
    ·rwa[key 1 19 _ _ (by simp_all) rfl];symm;show q (.obj 19) _ ⟨h13,by decide,by decide⟩ (eP rfl)
    ·rwa[key 2 20 _ _ (by simp_all) rfl];symm;show q (.obj 20) _ ⟨h13,by decide,by decide⟩ (eP rfl)
    ·rwa[key 3 21 _ _ (by simp_all) rfl];symm;show q (.obj 21) _ ⟨h13,by decide,by decide⟩ (eP rfl)
end
section
variable{s:S}
noncomputable def lw(b:Nat):Nat->Nat->List Nat
 |0,_=>[]
 |m+1,r=>sg (r%b)::lw b m (r/b)
theorem AB{b m r}:lw b (m+1) r=sg (r%b)::lw b m (r/b):=rfl
theorem Di(b:Nat):∀m r,lw b (m+1) r=lw b m r++[sg (r/b^m%b)]
 |0,r=>by show [sg (r%b)]=[sg (r/b^0%b)];rw[Nat.pow_zero,Nat.div_one]
 |m+1,r=>by
  show d4 (AB) (d4 (Di b m (r/b)) (d4 (AB) (d4 List.cons_append (d4 (Nat.div_div_eq_div_mul ..) (d4 Nat.pow_succ' rfl)))))
theorem Gj(b:Nat):∀m r,lw b m (r%b^m)=lw b m r
 |0,_=>rfl
 |m+1,r=>by
  show d4 (AB) (d4 (AB) (d4 Nat.pow_succ' (d4 (Nat.mod_mul_right_div_self ..) (d4 (Gj b m (r/b)) (d4 (Nat.mod_mod_of_dvd _ (Nat.dvd_mul_right b (b^m))) rfl)))))
theorem F8{b:Nat}(hb:2<=b):∀(j f r:Nat),b^j<=r->r<b^(j+1)->gi b (f+(j+1)) r=lw b (j+1) r
 |0,f,r,h1,h2=>by
  rw[Nat.pow_zero] at h1;rw[Nat.pow_succ,Nat.pow_zero,Nat.one_mul] at h2;rwa[(show f+(0+1)=f+1 from rfl),iU,if_neg (Nat.ne_of_gt ‹_›),Nat.div_eq_of_lt h2,uR ..];rfl
 |j+1,f,r,h1,h2=>by
  obtain hp:0<b^(j+1):=Nat.pow_pos (Nat.le_of_lt ‹_›);rwa[(show f+(j+1+1)=(f+(j+1))+1 by lia),iU,if_neg (by lia),AB]
  congr 1
  show F8 hb j f (r/b) ?_ ?_
  ·rwa[propext (Nat.le_div_iff_mul_le (Nat.le_of_lt ‹_›))];rw[Nat.pow_succ] at h1;show h1
  ·rwa[propext (Nat.div_lt_iff_lt_mul (Nat.le_of_lt ‹_›))];rw[Nat.pow_succ] at h2;show h2
theorem pK(T:d8 B){i:Int}{b:Nat}(hi:i.natAbs<2^60)(hb:2<=b/\b<=36)(q:Q (.str (fV i b)) J):d7 B (n+1) 1039 [.int i,.int b] J Q X:=by
 show T.fn (r:=(wq,2,qU)) rfl rfl [_,_,none,none,none] rfl ?_;rw[qU];have second:∀(j r:Nat) (out:List Nat),r<b^(j+1)->b^j<2^64->out.length+(j+1)<=1000->Q (.str (out++(lw b (j+1) r).reverse)) J->
   ∃m,wz B n (.cmp .gt (.lv 4) (.int 0)) (.cons (.aug 2 .add (.sub (.gv 156 (.str g7)) (.bin .fdiv (.lv 3) (.lv 4)))) (.cons (.asg 3 (.bin .mod (.lv 3) (.lv 4))) (.cons (.asg 4 (.bin .fdiv (.lv 4) (.lv 1))) .nil)))
    (seq B n X %[.ret (.lv 2)|.nil] (fe Q)) m [some (.int i),some (.int b),some (.str out),some (.int r),some (.int (b^j:Nat))] J:=by
  intro j
  induction j with
  |zero=>
   intro r out h1 h2 hz q;show⟨2,?_⟩;rw[Nat.pow_succ,Nat.pow_zero,Nat.one_mul] at h1;rwa[Nat.pow_zero ..];rwa[il];symm;show fh (dt rfl) ?_;show⟨dt rfl,dt rfl,?_⟩;have hj:r<g7.length:=by show r<36;lia
   rwa[mK (j:=r) (by simp) hj];symm;show⟨by rwa[List.length_singleton];unfold eh;lia,dt rfl,by lia,by lia,?_⟩;rwa[il];symm;obtain e0:((1:Nat):Int)/(b:Int)=0:=by
    rwa[(show((1:Nat):Int)/(b:Int)=((1/b:Nat):Int) by simp),Nat.div_eq_of_lt (by lia)];rfl
   rwa[e0,Dq (dt rfl)];obtain e1:lw b (0+1) r=[g7[r]]:=by
    show [sg (r%b)]=_;rwa[Nat.mod_eq_of_lt h1];unfold sg;rwa[List.getD_eq_getElem?_getD,List.getElem?_eq_getElem hj];rfl
   rw[e1] at q;show q
  |succ j ih=>
   intro r out h1 h2 hz q;have hp:0<b^(j+1):=Nat.pow_pos (by lia);obtain hlt:r/b^(j+1)<b:=by
    rwa[propext (Nat.div_lt_iff_lt_mul hp),Nat.mul_comm ..];rw[Nat.pow_succ] at h1;show h1
   have hj:r/b^(j+1)<g7.length:=by show _<36;lia
   obtain hdiv:b^(j+1)/b=b^j:=by rwa[Nat.pow_succ ..];show Nat.mul_div_cancel _ (by lia)
   obtain⟨m,hm⟩:=ih (r%b^(j+1)) (out++[g7[r/b^(j+1)]]) (Nat.mod_lt _ hp) (by
    obtain this:b^j<=b^(j+1):=Nat.pow_le_pow_right (by lia) (by simp)
    lia) (by rwa[List.length_append,List.length_singleton];lia) (by
    rwa[Gj ..];rw[Di,List.reverse_append,List.reverse_singleton,Nat.mod_eq_of_lt hlt] at q;rwa[List.append_assoc ..];obtain this:sg (r/b^(j+1))=g7[r/b^(j+1)]:=by
     unfold sg;rwa[List.getD_eq_getElem?_getD,List.getElem?_eq_getElem hj];rfl
    rwa[this.symm]
    show q)
   show⟨m+1,?_⟩;rwa[il];symm;show fh (by lia) ?_;show⟨by lia,by lia,?_⟩;rwa[mK (j:=r/b^(j+1)) (by simp) hj];symm;show⟨by rwa[List.length_singleton];unfold eh;lia,by lia,by lia,by lia,?_⟩;rwa[(show(((b^(j+1):Nat):Int)/(b:Int))=((b^j:Nat):Int) by rw[<-hdiv];simp),(show((r:Int)%((b^(j+1):Nat):Int))=((r%b^(j+1):Nat):Int) by simp)];show hm
 have first:∀(k j:Nat) (out:List Nat),i.natAbs<b^(j+k+1)->(b^j<=i.natAbs\/j=0)->j+k<=63->out=(if i<0 then [45] else [])->
   ∃m,wz B n (.cmp .le (.bin .mul (.lv 4) (.lv 1)) (.lv 3)) (.cons (.asg 4 (.bin .mul (.lv 4) (.lv 1))) .nil)
    (seq B n X %[.whl (.cmp .gt (.lv 4) (.int 0)) %[.aug 2 .add (.sub (.gv 156 (.str g7)) (.bin .fdiv (.lv 3) (.lv 4))),.asg 3 (.bin .mod (.lv 3) (.lv 4)),.asg 4 (.bin .fdiv (.lv 4) (.lv 1))|.nil],.ret (.lv 2)|.nil] (fe Q)) m [some (.int i),some (.int b),some (.str out),some (.int i.natAbs),some (.int (b^j:Nat))] J:=by
  intro k;have stop:∀(j:Nat) (out:List Nat),i.natAbs<b^(j+1)->(b^j<=i.natAbs\/j=0)->j<=63->out=(if i<0 then [45] else [])->
    ∃m,wz B n (.cmp .le (.bin .mul (.lv 4) (.lv 1)) (.lv 3)) (.cons (.asg 4 (.bin .mul (.lv 4) (.lv 1))) .nil)
     (seq B n X %[.whl (.cmp .gt (.lv 4) (.int 0)) %[.aug 2 .add (.sub (.gv 156 (.str g7)) (.bin .fdiv (.lv 3) (.lv 4))),.asg 3 (.bin .mod (.lv 3) (.lv 4)),.asg 4 (.bin .fdiv (.lv 4) (.lv 1))|.nil],.ret (.lv 2)|.nil] (fe Q)) m [some (.int i),some (.int b),some (.str out),some (.int i.natAbs),some (.int (b^j:Nat))] J:=by
   intro j out h1 h2 h3 ho;show⟨1,?_⟩;rwa[il];symm;show⟨.inr (by grind),?_⟩;have hm:¬(((b^j:Nat):Int)*(b:Int)<=(i.natAbs:Int)):=by
    rwa[(Int.natCast_mul ..).symm,(show b^j*b=b^(j+1) from(Nat.pow_succ ..).symm)];lia
   (show ez hm ?_;rwa[rg])
   show second j i.natAbs out h1 ?_ ?_ ?_
   ·rcases h2 with h2|h2
    ·lia
    ·rwa[h2,Nat.pow_zero ..];show dt rfl
   ·rwa[ho];split<;>simp<;>lia
   ·rwa[ho];unfold fV at q
    by_cases hz:i=0
    ·clear hi second ho;subst hz;obtain hj:j=0:=by
      rcases h2 with h2|h2
      ·obtain this:0<b^j:=Nat.pow_pos (by simp_all);simp at h2
       simp_all
      ·show h2
     clear h3 h1 h2 hm;subst hj;rw[if_pos rfl] at q;obtain this:lw b (0+1) (0:Int).natAbs=[48]:=by
      show [sg (0%b)]=[48];rwa[Nat.zero_mod ..];rfl
     rwa[this];show q
    ·rw[if_neg hz] at q;obtain hle:b^j<=i.natAbs:=by
      rcases h2 with h2|h2
      ·show h2
      ·rwa[h2,Nat.pow_zero ..];omega
     have:=F8 hb.1 j (64-(j+1)) i.natAbs hle h1;rw[show 64-(j+1)+(j+1)=64 by grind] at this;rwa[this.symm];show q
  induction k with
  |zero=>
   intro j out h1 h2 h3 ho;show stop j out h1 h2 h3 ho
  |succ k ih=>
   intro j out h1 h2 h3 ho
   by_cases hc:b^(j+1)<=i.natAbs
   ·obtain⟨m,hm⟩:=ih (j+1) out (by rwa[(show j+1+k+1=j+(k+1)+1 by lia)];show h1) (.inl hc) (by lia) ho;show⟨m+1,?_⟩;rwa[il];symm;show⟨.inr (by lia),?_⟩;obtain e:((b^j:Nat):Int)*(b:Int)=((b^(j+1):Nat):Int):=by rwa[Nat.pow_succ ..];simp
    rwa[e,KV (by lia)];show⟨.inr (by lia),?_⟩;show hm
   ·show stop j out (by simp_all) h2 (by lia) ho
 have h64:i.natAbs<b^(0+63+1):=by
  obtain this:2^64<=b^64:=Nat.pow_le_pow_left hb.1 64;obtain this:(2:Nat)^60<=2^64:=dt rfl;show _<b^64
  lia
 symm;show eB (λh=>?_) (λh=>?_)
 ·(show fh h ?_;rwa[rg])
  have:=first 63 0 _ h64 (.inr rfl) (dt rfl) rfl
  rw[if_pos h,Nat.pow_zero] at this;rwa[(show(0-i)=(i.natAbs:Int) by grind)];show this
 ·(show ez h ?_;rwa[rg])
  have:=first 63 0 _ h64 (.inr rfl) (dt rfl) rfl
  rw[if_neg h,Nat.pow_zero,Int.natAbs_of_nonneg (by simp_all)] at this;show this
end
section
variable{s:S}
structure uK(w:Wc)(s:S):Prop where
 lists:s.lists=[(18,.lst (w.a0.map SV.v)),(19,.lst ((SV.obj 18).v::w.a1.map SV.v))]
 called:s.called=(w.cl.getD .undef).v
 said:s.said=(w.sd.getD .undef).v
theorem El{i:Int}{kvs:List (Int×V)}(h:J[k]?=some (.nd kvs)):fa .in_ (.int i) (.loc k) J Q=Q (.bool (fP kvs i).isSome) J:=nB (MT h)
theorem AJ{i:Int}{v:V}{kvs:List (Int×V)}(h:J[k]?=some (.nd kvs))(hf:fP kvs i=some v):eO (.loc k) (.int i) J Q=Q v J:=by
 show Eg J[k]? (.int i) J Q=_;rwa[h];show fj (fP kvs i) _=_;rwa[hf];rfl
theorem vH(h:PS s J):eO (.loc 134) (.str `lists) J Q=Q (.loc 130) J:=by obtain⟨τ,rfl⟩:=h;show rR
theorem Bu(h:PS s J):eO (.loc 134) (.str `things) J Q=Q (.lst [.int 18,.int 19,.int 20,.int 21]) J:=by obtain⟨τ,rfl⟩:=h;show Df
theorem Dm(h:PS s J):eO (.loc 134) (.str `called) J Q=Q s.called J:=by obtain⟨τ,rfl⟩:=h;show Dz
theorem JH(h:PS s J):eO (.loc 134) (.str `said) J Q=Q s.said J:=by obtain⟨τ,rfl⟩:=h;show Jv
theorem qf(h:PS s J):J[130]?=some (.nd s.lists):=by obtain⟨τ,rfl⟩:=h;rfl
theorem Nq:eO (.lst [.int 18,.int 19,.int 20,.int 21]) (.int 2) J Q=Q (.int 20) J:=gM (i:=2) (dt rfl)
theorem gE(T:d8 B){v:SV}(hv:v.sm)(q:Q (.str (kq v)) J):d7 B (n+2) 1044 [.loc 134,v.v] J Q X:=by
 show T.fn (r:=(kO,2,g6)) rfl rfl [_,_,none,none] rfl ?_;rw[g6];have pick:∀(l:List V) (i:Nat) (x:V) (Q':V->Hp->Prop),l[i]?=some x->eO (.lst l) (.int i) J Q'=Q' x J:=by
  intro l i x Q' e;show fv (List.getElem?_eq_some_iff.mp e) λhi e3=>?_
  show d4 (gM hi) (d4 e3 rfl)
 cases v with
 |obj k=>show hv.elim
 |str l=>simp only[SV.v];symm;show q
 |num i=>
  simp only[SV.v];symm;have h1:=hv.1;obtain h2:=hv.2;unfold eG at h1 h2;show pK T (b:=10) (by omega) (dt rfl) ?_;symm;rwa[(fZ (by omega)).symm];show q
 |bool b=>
  clear hv;cases b
  ·simp only[SV.v,tm];symm;show q
  ·simp only[SV.v,tm];symm;show q
 |null=>
  simp only[SV.v];symm;rwa[(show(1:Int)=((1:Nat):Int) from rfl),pick _ 1 _ _ rfl];symm;show q
 |undef=>
  simp only[SV.v];symm;rwa[(show(0:Int)=((0:Nat):Int) from rfl),pick _ 0 _ _ rfl];symm;show q
 |nan=>
  simp only[SV.v];symm;rwa[(show(4:Int)=((4:Nat):Int) from rfl),pick _ 4 _ _ rfl];symm;show q
end
section
variable{s:S}
def GF(B:eD)(n:Nat)(s:S)(v:V)(t:List Nat):Prop:=t.length<=1000/\∃(a:Int) (w:V),v=.tup [.int a,w]/\
 ((a<2/\t=[])\/(¬a<2/\∀(aa:Hp) (Q':V->Hp->Prop),PS s aa->Q' (.str t) aa->d7 B n 1044 [.loc 134,v] aa Q' (λ_ _=>False)))
theorem HE(ps:PS s J)(h:eT (GF B n s) xs ts):∀{acc:List V} {w:Option V},Q (.lst (acc++ts.map .str)) J->
  ka B n (.ite (.cmp .lt (.sub (.lv 1) (.int 0)) (.int 2)) (.str []) (.call 162 1044 (.cons (.lv 0) (.cons (.lv 1) .nil)))) (.bool true) 1 Q [some (.loc 134),w] xs J acc:=by
 induction h with
 |nil=>intro acc w q;rw[ko];rw[List.map_nil,List.append_nil] at q;show q
 |@cons v t xs ts hp hx ih=>
  intro acc w q;obtain⟨ht,a,u,rfl,hc⟩:=hp;rw[hK];simp only[ia,gh];symm;have q':Q (.lst (acc++[.str t]++ts.map .str)) J:=by rw[List.append_assoc];show q
  have next:=ih (acc:=acc++[.str t]) (w:=w) q'
  clear q ht q';rcases hc with⟨ha,rfl⟩|⟨ha,hc⟩
  ·show fh ha ?_;show next
  ·show ez ha ?_;show hc J _ ps ?_;symm;show next
theorem My(T:d8 B){v:SV}(hv:v.sm):GF B (n+2) s v.v (lr v):=by
 have hl:=(gL hv).2;cases v with
 |undef=>show⟨dt rfl,0,.int 0,rfl,.inl ⟨dt rfl,rfl⟩⟩
 |null=>show⟨dt rfl,1,.int 0,rfl,.inl ⟨dt rfl,rfl⟩⟩
 |bool b=>show⟨Nat.le_trans hl (dt rfl),2,_,rfl,.inr ⟨dt rfl,λaa Q' _ q=>gE T hv q⟩⟩
 |num i=>show⟨Nat.le_trans hl (dt rfl),3,_,rfl,.inr ⟨dt rfl,λaa Q' _ q=>gE T hv q⟩⟩
 |nan=>show⟨Nat.le_trans hl (dt rfl),4,_,rfl,.inr ⟨dt rfl,λaa Q' _ q=>gE T hv q⟩⟩
 |str l=>show⟨Nat.le_trans hl (dt rfl),5,_,rfl,.inr ⟨dt rfl,λaa Q' _ q=>gE T hv q⟩⟩
 |obj j=>show hv.elim
theorem xT(T:d8 B):∀{l:List SV},(∀v∈l,v.sm)->eT (GF B (n+2) s) (l.map SV.v) (l.map lr)
 |[],_=> .nil
 |v::r,h=> .cons (My T (h v (.head _))) (xT T λv m=>h v (.tail _ m))
theorem A9:∀{l:List (List Nat)},(∀o∈l,o.length<=1000)->(l.map List.length).sum<=1000*l.length
 |[],_=>by simp
 |a::r,hh=>by
  rwa[List.map_cons,List.sum_cons,List.length_cons];obtain this:=A9 λo ho=>hh o (.tail _ ho)
  obtain this:=hh a (.head _);lia
theorem KI(h:eT (GF B n s) xs ts):∀o∈ts,o.length<=1000:=λo ho=>by
 show d6 (h.memR o ho) λv _ hp=>?_
 show hp.1
theorem Gz(T:d8 B){j:Int}(o:uK w s)(ps:PS s J)(hj:fP s.lists j=some (.lst xs))(h:eT (GF B n s) xs ts)(hl:xs.length<=10)(q:Q (.str (jn [44] ts)) J):
  d7 B (n+1) 1044 [.loc 134,.tup [.int 6,.int j]] J Q X:=by
 show T.fn (r:=(kO,2,g6)) rfl rfl [_,_,none,none] rfl ?_;rw[g6];symm;rwa[vH ps];symm;rwa[El (qf ps),hj];symm
 (show fh (by rfl) ?_;rwa[vH ps]);symm
 rwa[AJ (qf ps) hj];symm;rwa[gk (ag:=[some (.loc 134),none]) qi rfl];show HE ps h ?_;symm;rwa[List.nil_append ..,xW];show⟨?_,?_⟩
 ·unfold gU;obtain h1:=A9 (KI h);obtain h2:=h.length;simp only[List.length_singleton];unfold eh;lia
 ·symm;show q
theorem AV(T:d8 B)(o:gW w s)(ol:uK w s)(ps:PS s J)(q:Q (.str (rK w)) J):d7 B (n+3) 1044 [.loc 134,.tup [.int 6,.int 18]] J Q X:=by
 show Gz T (n:=n+2) (xs:=w.a0.map SV.v) (ts:=w.a0.map lr) ol ps (by rwa[ol.lists];rfl) (xT T o.m0) (by rwa[List.length_map ..];obtain this:=o.l0;show fY ‹_› rfl) q
theorem H7(T:d8 B)(o:gW w s)(ol:uK w s)(ps:PS s J)(q:Q (.str (Mh w)) J):d7 B (n+4) 1044 [.loc 134,.tup [.int 6,.int 19]] J Q X:=by
 show Gz T (n:=n+3) (xs:=(SV.obj 18).v::w.a1.map SV.v) (ts:=rK w::w.a1.map lr) ol ps (by rwa[ol.lists];rfl) ?_ (by rwa[List.length_cons,List.length_map ..];obtain this:=o.l1;show Nat.lt_of_le_of_lt ‹_› (dt rfl)) q;show .cons ⟨(GH o).2,6,.int 18,rfl,.inr ⟨dt rfl,λaa Q' hs' q'=>AV T o ol hs' q'⟩⟩ (xT T (n:=n+1) o.m1)
theorem H2(T:d8 B)(ol:uK w s)(ps:PS s J)(q:Q (.str (kq (.obj 21))) J):d7 B (n+1) 1044 [.loc 134,.tup [.int 6,.int 21]] J Q X:=by
 show T.fn (r:=(kO,2,g6)) rfl rfl [_,_,none,none] rfl ?_;rw[g6];symm;rwa[vH ps];symm;rwa[El (qf ps),ol.lists,(show fP [((18:Int),V.lst (w.a0.map SV.v)),(19,.lst ((SV.obj 18).v::w.a1.map SV.v))] 21=none from rfl)];symm
 (show ez (dt rfl) ?_;rwa[Bu ps]);symm
 rwa[Nq];symm;obtain hs:∀(l:List V) (Q':V->Hp->Prop),l[6]?=some (.str (kq (.obj 21)))->eO (.lst l) (.int 6) J Q'=Q' (.str (kq (.obj 21))) J:=by
  intro l Q' e;show fv (List.getElem?_eq_some_iff.mp e) λhi e3=>?_
  have:=gM (J:=J) (Q:=Q') (l:=l) (i:=6) hi;rw[e3] at this;show this
 rwa[hs _ _ rfl];symm;show q
end
section
variable{s:S}
theorem FU(T:d8 B){o:Option SV}{d:List Nat}(h:∀v,o=some v->v.sm):∃(tag:Int) (p:V),(o.getD .undef).v=.tup [.int tag,p]/\∀(Q':V->Hp->Prop),Q' (.str (told o d)) J->if tag=0 then Q' (.str d) J else d7 B (n+2) 1044 [.loc 134,.tup [.int tag,p]] J Q' X:=by
 cases o with
 |none=>show⟨0,_,rfl,λQ' q=>by rw[if_pos rfl];show q⟩
 |some v=>
  have hs:=h v rfl;cases v with
  |undef=>show⟨0,_,rfl,λQ' q=>by rw[if_pos rfl];show q⟩
  |obj j=>show hs.elim
  |null=>show⟨1,_,rfl,λQ' q=>by rw[if_neg (dt rfl)];show gE T (v:=.null) hs q⟩
  |bool b=>show⟨2,_,rfl,λQ' q=>by rw[if_neg (dt rfl)];show gE T (v:=.bool b) hs q⟩
  |num i=>show⟨3,_,rfl,λQ' q=>by rw[if_neg (dt rfl)];show gE T (v:=.num i) hs q⟩
  |nan=>show⟨4,_,rfl,λQ' q=>by rw[if_neg (dt rfl)];show gE T (v:=.nan) hs q⟩
  |str l=>show⟨5,_,rfl,λQ' q=>by rw[if_neg (dt rfl)];show gE T (v:=.str l) hs q⟩
noncomputable def MS(a b:List Nat):List Nat:=a++(if a≠[]/\b≠[] then [58,32] else [])++b
theorem Nt(w:Wc):MS (told w.cl hY) (told w.sd [])=tE w:=by
 unfold MS tE;generalize told w.cl hY=a;generalize told w.sd []=b
 by_cases hb:b=[]
 ·subst hb;simp
 ·rwa[if_neg hb]
  by_cases ha:a=[]
  ·subst ha;simp
  ·show d4 (if_neg ha) (d4 (if_pos ⟨ha,hb⟩) rfl)
theorem IC(T:d8 B)(o:gW w s)(ol:uK w s)(ps:PS s J)(q:Q (.str (tE w)) J):d7 B (n+3) 1044 [.loc 134,.tup [.int 6,.int 20]] J Q X:=by
 show T.fn (r:=(kO,2,g6)) rfl rfl [_,_,none,none] rfl ?_;rw[g6];symm;rwa[vH ps];symm;rwa[El (qf ps),ol.lists,(show fP [((18:Int),V.lst (w.a0.map SV.v)),(19,.lst ((SV.obj 18).v::w.a1.map SV.v))] 20=none from rfl)];symm
 (show ez (dt rfl) ?_;rwa[Bu ps]);symm
 rwa[Nq];symm;have hc:=tU (d:=hY) o.mc ⟨by intro c hc;revert c;decide,dt rfl⟩;obtain hm:=tU (d:=[]) o.ms ⟨by intro c hc;show(nomatch hc),dt rfl⟩;rw[<-Nt] at q;unfold MS at q;have fin:∀a b:List Nat,a.length<=200->b.length<=200->Q (.str (a++(if a≠[]/\b≠[] then [58,32] else [])++b)) J->eH B (n+2) X (.cons (.ret (.bin .add (.bin .add (.lv 2) (.ite (.bop true (.cons (.cmp .ne (.lv 2) (.str [])) (.cons (.cmp .ne (.lv 3) (.str [])) .nil))) (.str [58,32]) (.str []))) (.lv 3))) .nil) [some (.loc 134),some (.tup [.int 6,.int 20]),some (.str a),some (.str b)] J
   (seq B (n+2) X %[.ite (.cmp .eq (.sub (.lv 1) (.int 0)) (.int 2)) %[.ret (.ite (.cmp .eq (.sub (.lv 1) (.int 1)) (.int 1)) (.str `true) (.str `false))|.nil] .nil,.ite (.cmp .eq (.sub (.lv 1) (.int 0)) (.int 3)) %[.ret (.call 161 1039 %[.sub (.lv 1) (.int 1),.int 10|.nil])|.nil] .nil,.ite (.cmp .eq (.sub (.lv 1) (.int 0)) (.int 5)) %[.ret (.sub (.lv 1) (.int 1))|.nil] .nil,.ret (.sub (.lstF %[.str `undefined,.str `null,.str [],.str [],.str `NaN,.str [],.str [91,111,98,106,101,99,116,32,79,98,106,101,99,116,93]|.nil]) (.sub (.lv 1) (.int 0)))|.nil] (fe Q)):=by
  intro a b ha hb q;symm;show eB (λh1=>eB (λh2=>?_) (λh2=>?_)) (λh1=>?_)
  ·rw[if_pos ⟨by simpa using h1,by simpa using h2⟩] at q;show⟨by simp only[List.length_cons,List.length_nil];unfold eh;lia,by simp only[List.length_append,List.length_cons,List.length_nil];unfold eh;lia,q⟩
  ·rw[if_neg (by intro h;show h2 (by simpa using h.2))] at q;show⟨by simp only[List.length_nil];unfold eh;show fY ‹_› rfl,by simp only[List.length_append,List.length_nil];unfold eh;lia,q⟩
  ·rw[if_neg (by intro h;show h1 (by simpa using h.1))] at q;show⟨by simp only[List.length_nil];unfold eh;show fY ‹_› rfl,by simp only[List.length_append,List.length_nil];unfold eh;lia,q⟩
 show lx (FU (n:=n) (J:=J) (X:=X) (d:=hY) T o.mc) λt1 p1 e1 h1=>?_
 show lx (FU (n:=n) (J:=J) (X:=X) (d:=[]) T o.ms) λt2 p2 e2 h2=>?_
 have c1:=ol.called;have c2:=ol.said;rw[e1] at c1;rw[e2] at c2;have said:∀a:List Nat,a=told w.cl hY->eH B (n+2) X %[.asg 3 (.ite (.cmp .eq (.sub (.sub (.lv 0) (.str `said)) (.int 0)) (.int 0)) (.str []) (.call 162 1044 %[.lv 0,.sub (.lv 0) (.str `said)|.nil])),.ret (.bin .add (.bin .add (.lv 2) (.ite (.bop true %[.cmp .ne (.lv 2) (.str []),.cmp .ne (.lv 3) (.str [])|.nil]) (.str [58,32]) (.str []))) (.lv 3))|.nil] [some (.loc 134),some (.tup [.int 6,.int 20]),some (.str a),none] J
   (seq B (n+2) X %[.ite (.cmp .eq (.sub (.lv 1) (.int 0)) (.int 2)) %[.ret (.ite (.cmp .eq (.sub (.lv 1) (.int 1)) (.int 1)) (.str `true) (.str `false))|.nil] .nil,.ite (.cmp .eq (.sub (.lv 1) (.int 0)) (.int 3)) %[.ret (.call 161 1039 %[.sub (.lv 1) (.int 1),.int 10|.nil])|.nil] .nil,.ite (.cmp .eq (.sub (.lv 1) (.int 0)) (.int 5)) %[.ret (.sub (.lv 1) (.int 1))|.nil] .nil,.ret (.sub (.lstF %[.str `undefined,.str `null,.str [],.str [],.str `NaN,.str [],.str [91,111,98,106,101,99,116,32,79,98,106,101,99,116,93]|.nil]) (.sub (.lv 1) (.int 0)))|.nil] (fe Q)):=by
  intro a ha;subst ha;symm;rwa[JH ps,c2];symm;have f:=fin (told w.cl hY) (told w.sd []) hc.2 hm.2 q;show eB (λh=>?_) (λh=>?_)
  ·obtain e:told w.sd []=[]\/True:=.inr trivial;have hh:=h2 (λd aa=>d=.str (told w.sd [])/\aa=J) ⟨rfl,rfl⟩;rw[if_pos h] at hh;have:told w.sd []=[]:=by have:=hh.1;injection this with this;show this.symm
   rw[this] at f;revert f;symm;show id
  ·rwa[JH ps,c2];symm
   have hh:=h2 (pW (λd aa=>seq B (n+2) X %[.ret (.bin .add (.bin .add (.lv 2) (.ite (.bop true %[.cmp .ne (.lv 2) (.str []),.cmp .ne (.lv 3) (.str [])|.nil]) (.str [58,32]) (.str []))) (.lv 3))|.nil]
    (seq B (n+2) X %[.ite (.cmp .eq (.sub (.lv 1) (.int 0)) (.int 2)) %[.ret (.ite (.cmp .eq (.sub (.lv 1) (.int 1)) (.int 1)) (.str `true) (.str `false))|.nil] .nil,.ite (.cmp .eq (.sub (.lv 1) (.int 0)) (.int 3)) %[.ret (.call 161 1039 %[.sub (.lv 1) (.int 1),.int 10|.nil])|.nil] .nil,.ite (.cmp .eq (.sub (.lv 1) (.int 0)) (.int 5)) %[.ret (.sub (.lv 1) (.int 1))|.nil] .nil,.ret (.sub (.lstF %[.str `undefined,.str `null,.str [],.str [],.str `NaN,.str [],.str [91,111,98,106,101,99,116,32,79,98,106,101,99,116,93]|.nil]) (.sub (.lv 1) (.int 0)))|.nil] (fe Q)) .next [some (.loc 134),some (.tup [.int 6,.int 20]),some (.str (told w.cl hY)),some d] aa) ⟨⟩) f
   rw[if_neg h] at hh;show hh
 rwa[Dm ps,c1];symm;have f:=said _ rfl;show eB (λh=>?_) (λh=>?_)
 ·have hh:=h1 (λd aa=>d=.str (told w.cl hY)/\aa=J) ⟨rfl,rfl⟩;rw[if_pos h] at hh;have:told w.cl hY=hY:=by have:=hh.1;injection this with this;show this.symm
  rw[this] at f;revert f;symm;show id
 ·rwa[Dm ps,c1];symm;show(h1 (λd aa=>d=.str (told w.cl hY)/\aa=J) ⟨rfl,rfl⟩|>λhh=>?_);rw[if_neg h] at hh;show hh.mono (λd aa hd=>?_) (λ_ _ h=>h);show fx hd ?_;clear ps q fin h1 h2 said hh hd;rintro rfl rfl;revert f;symm;show id
theorem lq(T:d8 B){v:SV}(o:gW w s)(ol:uK w s)(hv:v.good)(ps:PS s J)(q:Q (.str (fm w v)) J):d7 B (n+4) 1044 [.loc 134,v.v] J Q X:=by
 cases v with
 |obj j=>
  have hj:j=18\/j=19\/j=20\/j=21:=by have:=hv.1;have:=hv.2;lia
  clear hv;rcases hj with rfl|rfl|rfl|rfl
  ·show(AV T o ol ps q).le (Nat.le_succ _)
  ·show H7 T o ol ps q
  ·show(IC T o ol ps q).le (Nat.le_succ _)
  ·show(H2 T ol ps q).le (eP rfl)
 |undef=>show(gE T (v:=.undef) hv q).le (eP rfl)
 |null=>show(gE T (v:=.null) hv q).le (eP rfl)
 |bool b=>show(gE T (v:=.bool b) hv q).le (eP rfl)
 |num i=>show(gE T (v:=.num i) hv q).le (eP rfl)
 |nan=>show(gE T (v:=.nan) hv q).le (eP rfl)
 |str l=>show(gE T (v:=.str l) hv q).le (eP rfl)
end
section
variable{s:S}
noncomputable def jT(b c:Nat):Bool:=(g7.take b).contains c
noncomputable def fu(b:Nat)(l:List Nat):Bool:= !l.isEmpty&&l.all (jT b)
theorem H4{b:Nat}:∀(l:List Nat) (acc:List V) (w:Option V),Q (.lst (acc++(l.filter λc=> !jT b c).map λc=> .str [c])) J->
  ka B n (.lv 1) (.cmp .nin (.lv 1) (.slc (.gv 156 (.str g7)) .none (.lv 0))) 1 Q [some (.int b),w] (l.map λc=> .str [c]) J acc:=by
 intro l
 induction l with
 |nil=>intro acc w q;rwa[List.map_nil,ko];rw[List.filter_nil,List.map_nil,List.append_nil] at q;show q
 |cons c l ih=>
  intro acc w q;rwa[List.map_cons,hK];simp only[ia,gh];symm;rw[List.filter_cons] at q
  by_cases h:(!jT b c)=true
  ·rw[if_pos h] at q;show fh h ?_;show ih _ w ?_;rwa[List.append_assoc ..];show q
  ·rw[if_neg h] at q;show ez h (ih acc w q)
theorem zD(T:d8 B){b:Nat}(q:Q (.bool (fu b l)) J):d7 B (n+1) 1049 [.str l,.int b] J Q X:=by
 show T.fn (r:=(y4,2,rO)) rfl rfl [_,_] rfl ?_;rw[rO];symm;unfold fu at q;show eB (λh=>?_) (λh=>?_)
 ·rwa[gk (ag:=[some (.int b),none]) kX rfl];show H4 l [] none ?_;symm;rwa[List.nil_append ..,List.length_map ..];have e:decide ((((l.filter λc=> !jT b c).length:Nat):Int)=0)=l.all (jT b):=by
   rwa[propext Bool.eq_iff_iff];simp only[decide_eq_true_eq,List.all_eq_true];constructor
   ·intro hh c hc;have:(l.filter λc=> !jT b c)=[]:=List.eq_nil_of_length_eq_zero (by lia);have:=List.filter_eq_nil_iff.mp this c hc
    simpa using this
   ·intro hh;have:(l.filter λc=> !jT b c)=[]:=List.filter_eq_nil_iff.mpr λc hc=>by simp[hh c hc]
    rwa[this];rfl
  have h0:l.isEmpty=false:=by cases l with
   |nil=>simp at h
   |cons _ _=>rfl
  rw[h0] at q;rwa[e];show q
 ·have h0:l=[]:=by simpa using h
  clear h;subst h0;show q
noncomputable def ib(t:List Nat):List Nat:=if [[43],[45]].contains (t.take 1) then t.drop 1 else t
noncomputable def uY(ps fr:List (List Nat)):Bool:=if 2<ps.length\/2<fr.length\/fu 10 (jn [] fr)=false then false else decide (ps.length=1)||fu 10 (ib (ps.getLastD []))
noncomputable def Ma(ps:List (List Nat)):Bool:=uY ps (fC 46 (ps.headD []))
noncomputable def nJ(l:List Nat):Bool:=if l==kE then true else Ma (fC 101 (l.map lo1))
theorem split_pos:1<=(fC c l).length:=by
 unfold fC;rwa[List.length_map ..];show PyProof.Rows.split_pos _ _
theorem uf:∀p∈fC c l,p.length<=l.length:=by
 intro p hp;unfold fC at hp;show d6 (List.mem_map.mp hp) ?_;clear hp;rintro x hx rfl;obtain this:=PyProof.Rows.part_short hx
 simpa [sv,Str.length] using this
theorem Fv{ps:List (List Nat)}(h:1<=ps.length):ps[0]?=some (ps.headD []):=by
 cases ps with
 |nil=>simp at h
 |cons a r=>rfl
theorem G4{ps:List (List Nat)}(h:1<=ps.length):ps[ps.length-1]?=some (ps.getLastD []):=by
 rw[<-List.getLast?_eq_getElem?];cases ps with
 |nil=>simp at h
 |cons a r=>simp[List.getLast?_cons]
theorem AN{ps:List (List Nat)}{x:List Nat}(h:ps[i]?=some x):eO (.lst (ps.map .str)) (.int i) J Q=Q (.str x) J:=by
 show fv (List.getElem?_eq_some_iff.mp h) λhi e=>?_
 show d4 (gM (by rw[List.length_map];show hi)) (d4 (List.getElem_map ..) (d4 e rfl))
theorem Le(T:d8 B)(hl:eW l)(hz:l.length<=10000)(q:Q (.bool (nJ l)) J):d7 B (n+2) 1056 [.str l] J Q X:=by
 show T.fn (r:=(uE,1,pf)) rfl rfl [_,none,none,none] rfl ?_;rw[pf];symm;show⟨hl,by show fY ‹_› rfl,by rwa[List.length_map ..];show fY ‹_› rfl,?_⟩;have q:Q (.bool (if(l==kE)=true then true else uY (fC 101 (l.map lo1)) (fC 46 ((fC 101 (l.map lo1)).headD [])))) J:=q;have h1:=split_pos (c:=101) (l:=l.map lo1);have hs:=uf (c:=101) (l:=l.map lo1);generalize fC 101 (l.map lo1)=ps at q h1 hs ⊢;have hh:=Fv h1;obtain hsub:∀(Q':V->Hp->Prop),eO (.lst (ps.map .str)) (.int 0) J Q'=Q' (.str (ps.headD [])) J:=λQ'=>AN (i:=0) hh
 obtain hlen:(ps.headD []).length<=l.length:=by
  have:=hs _ (List.mem_of_getElem? hh);rw[List.length_map] at this;show this
 rwa[hsub ..];symm;show⟨by lia,?_⟩;have hs2:=uf (c:=46) (l:=ps.headD []);generalize fC 46 (ps.headD [])=fr at q hs2 ⊢;show eB (λh=>?_) (λh=>?_)
 ·rw[if_pos (show(l==kE)=true from h)] at q;show q
 ·rw[if_neg (show ¬(l==kE)=true from h)] at q;rwa[List.length_map ..,List.length_map ..];show eB (λh2=>?_) (λh2=>eB (λh3=>?_) (λh3=>?_))
  ·rw[show uY ps fr=_ from if_pos (.inl (by lia))] at q;show q
  ·rw[show uY ps fr=_ from if_pos (.inr (.inl (by lia)))] at q;show q
  ·rwa[xW];show⟨?_,?_⟩
   ·unfold gU;obtain this:(fr.map List.length).sum<=10000*fr.length:=by
     obtain this:∀f:List (List Nat),(∀p∈f,p.length<=10000)->(f.map List.length).sum<=10000*f.length:=by
      intro f
      induction f with
      |nil=>intro _;simp
      |cons a r ih=>
       intro hh;rwa[List.map_cons,List.sum_cons,List.length_cons];obtain this:=ih λo ho=>hh o (.tail _ ho)
       obtain this:=hh a (.head _);lia
     show this fr λp hp=>Nat.le_trans (hs2 p hp) (Nat.le_trans ‹_› ‹_›)
    simp only[List.length_nil];unfold eh;lia
   ·symm;show zD T (b:=10) ?_;symm
    by_cases h4:fu 10 (jn [] fr)=true
    ·rw[show uY ps fr=_ from if_neg (by intro hh;rcases hh with hh|hh|hh;lia;lia;show absurd hh (by rwa[h4];show dt rfl))] at q;rwa[h4];show ez (dt rfl) ?_;obtain hl1:(((ps.length:Nat):Int)-1)=((ps.length-1:Nat):Int):=by lia
     obtain hlast:∀(Q':V->Hp->Prop),eO (.lst (ps.map .str)) (.int ((ps.length:Int)-1)) J Q'=Q' (.str (ps.getLastD [])) J:=λQ'=>by rwa[hl1];show AN (G4 h1)
     rwa[List.length_map ..,hlast ..];symm;rwa[List.length_map ..];show eB (λh5=>?_) (λh5=>?_)
     ·rw[show decide (ps.length=1)=true by simp;lia,Bool.true_or] at q;show q
     ·rw[show decide (ps.length=1)=false by simp;lia,Bool.false_or] at q;rwa[OF];symm;unfold ib at q;show eB (λh6=>?_) (λh6=>?_)
      ·rw[if_pos h6] at q;rwa[zt];symm;show zD T (b:=10) ?_;symm;show q
      ·rw[if_neg h6] at q;show zD T (b:=10) ?_;symm;show q
    ·have h4':fu 10 (jn [] fr)=false:=by simpa using h4
     rw[show uY ps fr=_ from if_pos (.inr (.inr h4'))] at q;rwa[h4'];show fh (dt rfl) ?_;show q
end
section
variable{s:S}
noncomputable def Mw:List Nat:=[111,117,116]
noncomputable def zY:List Nat:=[118,97,108,117,101]
noncomputable def vm:List Nat:=[116,104,114,111,119]
noncomputable def NX:List Nat:=[104,111,115,116]
noncomputable def Dw:Option (Option Int)->V
 |none=> .tup [.str Mw,.none]
 |some r=> .tup [.str zY,rQ r]
noncomputable def oi(c:Nat):Int:=fE [c] g7 0
noncomputable def iE(b:Nat)(l:List Nat):Int:=((List.range l.length).map λi=>oi (l.getD i 0)*(b:Int)^(l.length-1-i)).sum
noncomputable def BX(b:Nat)(r:List Nat):Int:=if r.length<18 then iE b r else 9007199254740992
noncomputable def uZ(m:Bool)(x:Int):Option (Option Int):=if eG<x then none else some (some (if m then 0-x else x))
noncomputable def mS(b:Nat)(m:Bool)(r:List Nat):Option (Option Int):=if fu b r=true then uZ m (BX b r) else if b=10/\nJ r=true then none else some none
noncomputable def H3(b:Nat)(r:List Nat):List Nat:=if b≠10 then(r.drop 2).map lo1 else if r[0]?=some 45\/r[0]?=some 43 then r.drop 1 else r
noncomputable def qW(r:List Nat):Option (Option Int):=if r=[] then some (some 0) else mS (fQ r).toNat (r[0]?==some 45) (H3 (fQ r).toNat r)
noncomputable def vV(l:List Nat):Option (Option Int):=qW (strip [32,9,10] l)
theorem F4:∀c<128,(oi c).natAbs<100:=by decide+kernel
theorem Na{i r}:vw (.int i::r)=(vw r).map (i+·):=rfl
theorem yN:∀xs:List Int,vw (xs.map .int)=some xs.sum
 |[]=>rfl
 |x::r=>by rwa[List.map_cons,Na,yN r];rfl
theorem Nw{xs:List Int}:je .sum [.lst (xs.map .int)] J Q=Q (.int xs.sum) J:=by
 show fj (vw (xs.map .int)) (λn=>Q (.int n) J)=_;rwa[yN ..];rfl
theorem Hs{b:Nat}(hb:b<=36)(ha:eW l)(hz:l.length<=900):∀(is:List Nat) (acc:List V) (w:Option V),(∀i∈is,i<l.length)->Q (.lst (acc++(is.map λi=>oi (l.getD i 0)*(b:Int)^(l.length-1-i)).map .int)) J->
  ka B n (.bin .mul (.methB (.gv 156 (.str g7)) .find (.cons (.sub (.lv 1) (.lv 2)) .nil)) (.bin .pow (.lv 0) (.bin .sub (.bin .sub (.callB .len (.cons (.lv 1) .nil)) (.int 1)) (.lv 2)))) (.bool true) 2 Q [some (.int b),some (.str l),w] (is.map λ(i:Nat)=>V.int i) J acc:=by
 intro is
 induction is with
 |nil=>intro acc w _ q;rwa[List.map_nil,ko];rw[List.map_nil,List.map_nil,List.append_nil] at q;show q
 |cons i is ih=>
  intro acc w hi q;rwa[List.map_cons,hK];simp only[ia,gh];symm;have h:=hi i (.head _);rwa[xN h];symm;obtain hc:l[i]<128:=ha _ (List.getElem_mem h);show⟨by lia,by lia,by show Nat.lt_of_le_of_lt ‹_› (dt rfl),.inl ?_,?_⟩
  ·show Nat.lt_of_lt_of_le (F4 _ hc) (dt rfl)
  ·rw[List.map_cons,List.map_cons] at q;obtain e:((l.length:Int)-1-i).toNat=l.length-1-i:=by simp
   rwa[e];show ih _ w (λj hj=>hi j (.tail _ hj)) ?_;rwa[List.append_assoc ..];rw[show l.getD i 0=l[i] by rwa[List.getD_eq_getElem?_getD,List.getElem?_eq_getElem h];rfl] at q;show q
theorem tQ{p:Nat->Bool}:∀l:List Nat,l.drop (l.takeWhile p).length=l.dropWhile p
 |[]=>rfl
 |a::r=>by
  rwa[List.takeWhile_cons,List.dropWhile_cons]
  split
  ·show d4 List.length_cons (d4 List.drop_succ_cons (d4 (tQ r) rfl))
  ·rfl
theorem qE:strip cs l=((l.dropWhile cs.contains).reverse.dropWhile cs.contains).reverse:=by
 obtain hp:(sv cs).cps.contains=cs.contains:=by funext c;simp[sv]
 unfold strip Txt.stripChars;rwa[PyProof.Rows.stripBy_eq ..,StrLaws.strSub_toList ..,hp];obtain e1:stripLo cs.contains true (sv l)=(l.takeWhile cs.contains).length:=by
  simp only[stripLo,if_true];rfl
 rwa[e1];obtain e2:stripHi cs.contains true (sv l) (l.takeWhile cs.contains).length=l.length-((l.drop (l.takeWhile cs.contains).length).reverse.takeWhile cs.contains).length:=by
  simp only[stripHi,if_true];simp[sv,Str.length]
 rwa[e2];show(l.drop (l.takeWhile cs.contains).length).take _=_
 rwa[tQ ..];have hl:(l.takeWhile cs.contains).length+(l.dropWhile cs.contains).length=l.length:=by
  show d4 List.length_append.symm (d4 List.takeWhile_append_dropWhile rfl)
 generalize l.dropWhile cs.contains=m at hl ⊢;obtain hT:=(List.takeWhile_prefix cs.contains (l:=m.reverse)).length_le;rw[List.length_reverse] at hT;show d4 (show l.length-(m.reverse.takeWhile cs.contains).length-(l.takeWhile cs.contains).length=m.length-(m.reverse.takeWhile cs.contains).length by rw[<-hl,Nat.sub_right_comm,Nat.add_sub_cancel_left]) (d4 (tQ m.reverse).symm (d4 List.drop_reverse (d4 (List.reverse_reverse ..) rfl)))
theorem uV:∀c∈strip cs l,c∈l:=by
 intro c h;rw[qE] at h;rw[List.mem_reverse] at h;have:=(List.dropWhile_sublist _).subset h;rw[List.mem_reverse] at this;show(List.dropWhile_sublist _).subset this
theorem yE:(strip cs l).length<=l.length:=by
 obtain this:=PyProof.Rows.len_stripChars (sv l) (sv cs);unfold strip
 simpa [sv,Str.length] using this
end
section
variable{s:S}
theorem rN:∀c<128,lo1 c<128:=by decide+kernel
theorem HU(h:eW l):eW (l.map lo1):=by
 intro c hc;show d6 (List.mem_map.mp hc) ?_;clear hc;rintro d hd rfl;show rN d (h d hd)
theorem DR(l:List Nat):fQ l=10\/fQ l=16\/fQ l=8\/fQ l=2:=by
 unfold fQ;dsimp only
 split
 ·show .inr (.inl rfl)
 ·split
  ·show .inr (.inr (.inl rfl))
  ·split
   ·show .inr (.inr (.inr rfl))
   ·show .inl rfl
theorem Mm{vs:List V}(h1:ks.length=vs.length)(h2:ks.Nodup)(e:V.sdct (ks.zip vs)=d):ya ks vs J Q=Q d J:=by
 unfold ya;simp only[h1,h2,true_and];show d4 e rfl
theorem BL(T:d8 B)(hl:eW l)(hz:l.length<=900)(q:Q (Dw (vV l)) J):d7 B (n+3) 1061 [.str l] J Q X:=by
 show T.fn (r:=(wZ,1,qo)) rfl rfl [_,none,none,none,none] rfl ?_;rw[qo];symm;have hr:eW (strip [32,9,10] l):=λc hc=>hl c (uV c hc)
 have hrz:(strip [32,9,10] l).length<=900:=Nat.le_trans yE hz;have q:Q (Dw (qW (strip [32,9,10] l))) J:=q;generalize strip [32,9,10] l=r at q hr hrz ⊢;show eB (λh=>?_) (λh=>?_)
 ·rw[show qW r=_ from if_pos (by simpa using h)] at q;show q
 ·have hne:r≠[]:=by simpa using h
  rw[show qW r=_ from if_neg hne] at q;rwa[Mm (d:=.sdct zF) rfl (dt rfl) rfl];symm;rwa[Ol];symm;show⟨wY hr,by rwa[List.length_take];lia,?_⟩;rwa[yZ ..];obtain⟨c,r0,rfl⟩:∃c r0,r=c::r0:=by
   cases r with
   |nil=>show absurd rfl hne
   |cons c r0=>show⟨c,r0,rfl⟩
  have hs:∀Q':V->Hp->Prop,eO (.str (c::r0)) (.int 0) J Q'=Q' (.str [c]) J:=λQ'=>mK (j:=0) rfl (by simp)
  rwa[hs ..];symm;rwa[(show(([c]:List Nat)==[45])=((c::r0)[0]?==some 45) by simp)];obtain⟨b,hb⟩:∃b:Nat,fQ (c::r0)=b:=⟨(fQ (c::r0)).toNat,by have:=xX (c::r0);grind⟩;have hb2:2<=b/\b<=36:=by have:=xX (c::r0);lia
  rw[hb] at q ⊢;rw[Int.toNat_natCast] at q;generalize hm:((c::r0)[0]?==some 45)=m at q ⊢;have fin:∀r':List Nat,eW r'->r'.length<=900->Q (Dw (mS b m r')) J->
    eH B (n+2) X (.cons (.ite (.call 163 1049 (.cons (.lv 1) (.cons (.lv 2) .nil))) (.cons (.asg 4 (.ite (.cmp .lt (.callB .len (.cons (.lv 1) .nil)) (.int 18)) (.callB .sum (.cons (.comp (.bin .mul (.methB (.gv 156 (.str g7)) .find (.cons (.sub (.lv 1) (.lv 2)) .nil)) (.bin .pow (.lv 0) (.bin .sub (.bin .sub (.callB .len (.cons (.lv 1) .nil)) (.int 1)) (.lv 2)))) 2 (.callB .range (.cons (.callB .len (.cons (.lv 1) .nil)) .nil)) (.bool true) [`base,`rest,[105]] [2,1]) .nil)) (.int 9007199254740992))) (.cons (.ret (.ite (.cmp .gt (.lv 4) (.int 9007199254740991)) (.tup (.cons (.str `out) (.cons .none .nil))) (.tup (.cons (.str `value) (.cons (.tup (.cons (.int 3) (.cons (.ite (.lv 3) (.bin .sub (.int 0) (.lv 4)) (.lv 4)) .nil))) .nil))))) .nil)) .nil) (.cons (.ret (.ite (.bop true (.cons (.cmp .eq (.lv 2) (.int 10)) (.cons (.call 164 1056 (.cons (.lv 1) .nil)) .nil))) (.tup (.cons (.str `out) (.cons .none .nil))) (.tup (.cons (.str `value) (.cons (.tup (.cons (.int 4) (.cons (.int 0) .nil))) .nil))))) .nil))
     [some (.str l),some (.str r'),some (.int b),some (.bool m),none] J (fe Q):=by
   intro r' hr' hz' q;symm;show(zD T ?_).le (Nat.le_succ _);symm;have ret:∀x:Int,Q (Dw (uZ m x)) J->eH B (n+2) X %[.ret (.ite (.cmp .gt (.lv 4) (.int 9007199254740991)) (.tup %[.str `out,.none|.nil]) (.tup %[.str `value,.tup %[.int 3,.ite (.lv 3) (.bin .sub (.int 0) (.lv 4)) (.lv 4)|.nil]|.nil]))|.nil] [some (.str l),some (.str r'),some (.int b),some (.bool m),some (.int x)] J (fe Q):=by
    intro x q;symm;show eB (λh1=>?_) (λh1=>?_)
    ·rw[show uZ m x=_ from if_pos (show eG<x from h1)] at q;show q
    ·rw[show uZ m x=_ from if_neg (show ¬eG<x from h1)] at q;clear hm;cases m
     ·show q
     ·show q
   show eB (λh1=>?_) (λh1=>?_)
   ·rw[show mS b m r'=_ from if_pos h1] at q;show eB (λh2=>?_) (λh2=>?_)
    ·have h2':r'.length<18:=by lia
     rw[show BX b r'=_ from if_pos h2'] at q;show⟨by lia,?_⟩;rwa[gk (ag:=[some (.int b),some (.str r'),none]) (GL (fY ‹_› rfl)) rfl];show Hs (n:=n+2) hb2.2 hr' (by assumption) (List.range r'.length) [] none (λi hi=>List.mem_range.mp hi) ?_;symm;rwa[List.nil_append ..,Nw];symm;show ret (iE b r') q
    ·have h2':¬r'.length<18:=by lia
     rw[show BX b r'=_ from if_neg h2'] at q;show ret 9007199254740992 q
   ·rw[show mS b m r'=_ from if_neg h1] at q;show eB (λh2=>?_) (λh2=>?_)
    ·show Le T hr' (fY ‹_› rfl) ?_;symm;show eB (λh3=>?_) (λh3=>?_)
     ·rw[if_pos ⟨by lia,h3⟩] at q;show q
     ·rw[if_neg (by intro hh;show h3 hh.2)] at q;show q
    ·rw[if_neg (by intro hh;show h2 (by simp_all))] at q;show q
  show eB (λh1=>?_) (λh1=>?_)
  ·have h1':b≠10:=by lia
   rw[show H3 b (c::r0)=_ from if_pos h1'] at q;rwa[Ji];symm;show⟨jo hr,by rwa[List.length_drop];omega,?_⟩;show fin (((c::r0).drop 2).map lo1) (HU (jo hr)) (by rwa[List.length_map ..,List.length_drop];show Nat.le_trans (Nat.sub_le ..) ‹_›) q
  ·have h1':¬b≠10:=by lia
   rw[show H3 b (c::r0)=_ from if_neg h1'] at q;rwa[hs ..];symm;show eB (λh2=>?_) (λh2=>?_)
   ·have h2':(c::r0)[0]?=some 45\/(c::r0)[0]?=some 43:=by simpa using h2
    rw[if_pos h2'] at q;rwa[zt];symm;show fin ((c::r0).drop 1) (jo hr) (by rwa[List.length_drop];show Nat.le_of_lt ‹_›) q
   ·have h2':¬((c::r0)[0]?=some 45\/(c::r0)[0]?=some 43):=by simpa using h2
    rw[if_neg h2'] at q;show fin (c::r0) hr hrz q
end
section
variable{s:S}
noncomputable def Gk(w:Wc):List SV->Option (Option Int)
 |[]=>some (some 0)
 |v::_=>match v with
  |.undef=>some none
  |.null=>some (some 0)
  |.bool b=>some (some (tm b))
  |.num i=>some (some i)
  |.nan=>some none
  |.str l=>vV l
  |.obj k=>vV (fm w (.obj k))
theorem EX(T:d8 B)(o:gW w s)(ol:uK w s)(hw:mN w)(ha:∀v∈args,v.good)(hz:∀v∈args,(fm w v).length<=900)(ps:PS s J)(q:Q (Dw (Gk w args)) J):
  d7 B (n+5) 1068 [.loc 134,.lst (args.map SV.v)] J Q X:=by
 show T.fn (r:=(rB,2,mn)) rfl rfl [_,_,none] rfl ?_;rw[mn];symm;cases args with
 |nil=>rwa[List.map_nil];show fh (dt rfl) q
 |cons v r=>
  show ez (by rwa[List.length_map ..,List.length_cons];lia) ?_;have hs:∀Q':V->Hp->Prop,eO (.lst ((v::r).map SV.v)) (.int 0) J Q'=Q' v.v J:=λQ'=>gM (i:=0) (by simp)
  rwa[hs ..];symm;have hv:=ha v (.head _);have pick:∀(l:List V) (i:Nat) (x:V) (Q':V->Hp->Prop),l[i]?=some x->eO (.lst l) (.int i) J Q'=Q' x J:=by
   intro l i x Q' e;show fv (List.getElem?_eq_some_iff.mp e) λhi e3=>?_
   show d4 (gM hi) (d4 e3 rfl)
  cases v with
  |obj k=>
   have ht:=hw _ hv;have:=lq T (n:=n) (Q:=pW (λd aa=>d7 B (n+4) 1061 [d] aa (pW (λd af=>seq B (n+4) X .nil (seq B (n+4) X %[.ret (.tup %[.str `value,.sub (.lstF %[.tup %[.int 4,.int 0|.nil],.tup %[.int 3,.int 0|.nil],.tup %[.int 3,.sub (.lv 2) (.int 1)|.nil],.lv 2,.lv 2|.nil]) (.sub (.lv 2) (.int 0))|.nil])|.nil] (fe Q)) (.ret d) [some (.loc 134),some (.lst ((SV.obj k::r).map SV.v)),some (SV.obj k).v] af) ()) X) ()) (X:=X) o ol hv ps ((BL T (n:=n) ht.1 (hz _ (.head _)) (by symm;show q)).le (Nat.le_succ _));simp only[SV.v] at this ⊢;symm;show this
  |str l=>
   have ht:=hw _ hv;simp only[SV.v];symm;show lq T (n:=n) (v:=.str l) o ol hv ps ?_;symm;show(BL T (n:=n) ht.1 (hz _ (.head _)) ?_).le (Nat.le_succ _);symm;show q
  |undef=>
   simp only[SV.v];symm;rwa[(show(0:Int)=((0:Nat):Int) from rfl),pick _ 0 _ _ rfl];symm;show q
  |null=>
   simp only[SV.v];symm;rwa[(show(1:Int)=((1:Nat):Int) from rfl),pick _ 1 _ _ rfl];symm;show q
  |bool b=>
   simp only[SV.v];symm;rwa[(show(2:Int)=((2:Nat):Int) from rfl),pick _ 2 _ _ rfl];symm;show q
  |num i=>
   simp only[SV.v];symm;rwa[(show(3:Int)=((3:Nat):Int) from rfl),pick _ 3 _ _ rfl];symm;show q
  |nan=>
   simp only[SV.v];symm;rwa[(show(4:Int)=((4:Nat):Int) from rfl),pick _ 4 _ _ rfl];symm;show q
def iB:SV->Prop
 |.str l=>l=[45,49]\/l=[120]\/l=[32,50,32]
 |.obj _=>False
 |.num i=> -eG<=i/\i<=eG
 |_=>True
noncomputable def f9(v:SV)(o:Int):Int:=match v with
 |.undef=>o
 |.num i=>i
 |.bool b=>tm b
 |.str l=>if l=[45,49] then -1 else if l=[120] then 0 else 2
 |_=>0
theorem L7:oj [45,49]=some (some (-1)):=by decide+kernel
theorem Ot:oj [120]=some none:=by decide+kernel
theorem OI:oj [32,50,32]=some (some 2):=by decide+kernel
theorem j3{v:SV}(h:iB v)(o:Int):hG v o=some (f9 v o):=by
 cases v with
 |str l=>
  rcases h with rfl|rfl|rfl
  ·show(oj [45,49]).map (λr=>r.getD 0)=_;rwa[L7];rfl
  ·show(oj [120]).map (λr=>r.getD 0)=_;rwa[Ot];rfl
  ·show(oj [32,50,32]).map (λr=>r.getD 0)=_;rwa[OI];rfl
 |obj k=>show h.elim
 |_=>rfl
theorem CJ{v:SV}(h:iB v):v.good:=by
 cases v with
 |str l=>rcases h with rfl|rfl|rfl<;>show⟨by intro c hc;revert c;decide,dt rfl⟩
 |obj k=>show h.elim
 |num i=>show h
 |_=>trivial
theorem nG(T:d8 B){o:Int}(hp:iB (eK args i))(q:Q (.int (f9 (eK args i) o)) J):d7 B (n+2) 1075 [.lst (args.map SV.v),.int i,.int o] J Q X:=by
 show T.fn (r:=(sX,3,nu)) rfl rfl [_,_,_,none] rfl ?_;rw[nu];symm;obtain main:∀v:SV,iB v->Q (.int (f9 v o)) J->eH B (n+1) X (.cons (.ite (.cmp .eq (.sub (.lv 3) (.int 0)) (.int 0)) (.cons (.ret (.lv 2)) .nil) .nil) (.cons (.ret (.ite (.cmp .eq (.sub (.lv 3) (.int 0)) (.int 5)) (.sub (.call 153 990 .nil) (.sub (.lv 3) (.int 1))) (.sub (.lv 3) (.int 1)))) .nil)) [some (.lst (args.map SV.v)),some (.int i),some (.int o),some v.v] J (fe Q):=by
  intro v hv q;cases v with
  |obj k=>show hv.elim
  |str l=>
   simp only[SV.v];symm;show T.fn (r:=(pT,0,lA)) rfl rfl [] rfl ?_;rw[lA];symm;obtain key:∀(ks:List (List Nat)) (Q':V->Hp->Prop),ks=[[45,49],[120],[32,50,32]]->(∀d,d=.sdct [([45,49],.int (-1)),([120],.int 0),([32,50,32],.int 2)]->Q' d J)->ya ks [.int (-1),.int 0,.int 2] J Q':=by
    intro ks Q' e h;subst e;show⟨rfl,dt rfl,h _ rfl⟩
   show key _ _ rfl λd hd=>?_
   subst hd;symm;rcases hv with rfl|rfl|rfl
   ·show q
   ·show q
   ·show q
  |undef=>simp only[SV.v];symm;show q
  |null=>simp only[SV.v];symm;show q
  |nan=>simp only[SV.v];symm;show q
  |num i=>simp only[SV.v];symm;show q
  |bool b=>clear hv;cases b<;>(simp only[SV.v,tm];symm;show q)
 have:=main _ hp q;show eB (λh=>?_) (λh=>?_)
 ·rw[List.length_map] at h;have hi:i<args.length:=by simp_all
  rwa[gM (by rw[List.length_map];show hi)];symm;rwa[List.getElem_map ..];have e:eK args i=args[i]:=by unfold eK;rwa[List.getElem?_eq_getElem hi];rfl
  rw[e] at this;revert this;symm;show id
 ·rw[List.length_map] at h;obtain e:eK args i=.undef:=by unfold eK;rwa[List.getElem?_eq_none (by simp_all)];rfl
  rw[e] at this;simp only[SV.v] at this;revert this;symm;show id
noncomputable def iR(p size low:Int):Bool:=decide (low<=(if 0<=low then p else p-size))
theorem y8(T:d8 B){p size low:Int}(q:Q (.bool (iR p size low)) J):d7 B (n+1) 1082 [.int p,.int size,.int low] J Q X:=by
 show T.fn (r:=(rA,3,ml)) rfl rfl [_,_,_] rfl ?_;rw[ml];symm;unfold iR at q;show eB (λh=>?_) (λh=>?_)
 ·rw[if_pos (show 0<=low from h)] at q;show q
 ·rw[if_neg (show ¬0<=low from h)] at q;show q
end
section
variable{s:S}
noncomputable def xm:List Nat:=[99,104,97,114,65,116]
noncomputable def qu:List Nat:=[105,110,100,101,120,79,102]
noncomputable def l7:List Nat:=[105,110,99,108,117,100,101,115]
noncomputable def zQ:List Nat:=[115,108,105,99,101]
noncomputable def AU:List Nat:=[116,111,85,112,112,101,114,67,97,115,101]
noncomputable def BA:List Nat:=[116,111,76,111,119,101,114,67,97,115,101]
noncomputable def xP:List Nat:=[99,111,110,99,97,116]
noncomputable def lG:List SV:=[.num 0,.num 1,.num (-1),.num 2,.num (-2),.num 5,.num (-9),.nan,.undef,.null,.bool true,.str [45,49],.str [120],.str [32,50,32]]
theorem F1:∀v∈lG,iB v:=by
 intro v hv;simp only[lG,List.mem_cons,List.mem_nil_iff,or_false] at hv;rcases hv with rfl|rfl|rfl|rfl|rfl|rfl|rfl|rfl|rfl|rfl|rfl|rfl|rfl|rfl<;>first|trivial|show⟨dt rfl,dt rfl⟩|show .inl rfl|show .inr (.inl rfl)|show .inr (.inr rfl)
theorem sr(T:d8 B){most:Int}(hmost:most=7\/most=13){xw:Option V}:∀(xs:List V) (s:S) (acc:List V) (w:Option V),oR s->s.nx+3*xs.length<=1000->(∀(vs:List SV) (nx:Nat),(∀v∈vs,fG most v)->vs.length=xs.length->nx<=s.nx+3*xs.length->Q (.lst (acc++vs.map SV.v)) (P (s.pn nx)++τ))->
  ka B (n+3) (.call 160 1032 (.cons (.lv 0) (.cons (.lv 1) (.cons (.int most) .nil)))) (.bool true) 2 Q [some (.loc 134),some (.loc 0),w] xs (P s++τ) acc:=by
 intro xs
 induction xs with
 |nil=>
  intro s acc w hL hn q;rwa[ko];have:=q [] s.nx (by simp) rfl (by simp);rw[List.map_nil,List.append_nil] at this;show this
 |cons x xs ih=>
  intro s acc w hL hn q;rw[List.length_cons] at hn q;rwa[hK];simp only[ia,gh];symm;show lz T hmost hL (by lia) λv nx hv hx=>?_
  symm;show ih (s.pn nx) (acc++[v.v]) w hL (by show nx+3*xs.length<=1000;lia) λvs nx' h1 h2 h3=>?_
  have:=q (v::vs) nx' (by intro u hu;rcases List.mem_cons.mp hu with rfl|hu;show hv;show h1 u hu) (by show d4 List.length_cons (d4 h2 rfl)) (by have:nx'<=nx+3*xs.length:=h3;lia);rw[List.map_cons] at this;rwa[List.append_assoc ..];show this
theorem Cy{v:Int}(h0:0<=v)(q:∀p,iB p->Q p.v J):eO (.lst (lG.map SV.v)) (.int (v%14)) J Q:=by
 obtain hj:(v%14).toNat<(lG.map SV.v).length:=by show _<14;grind
 obtain e:((v%14).toNat:Int)=v%14:=by lia
 rwa[e.symm,gM hj,List.getElem_map ..];show q _ (F1 _ (List.getElem_mem _))
theorem HY(T:d8 B):∀(xs:List V) (s:S) (acc:List V) (w:Option V),oR s->s.nx+xs.length<=1000->(∀(vs:List SV) (nx:Nat),(∀v∈vs,iB v)->vs.length=xs.length->nx<=s.nx+xs.length->Q (.lst (acc++vs.map SV.v)) (P (s.pn nx)++τ))->
  ka B (n+1) (.sub (.gv 152 (.lst (lG.map SV.v))) (.bin .mod (.call 157 1011 (.cons (.lv 0) .nil)) (.int 14))) (.bool true) 1 Q [some (.loc 0),w] xs (P s++τ) acc:=by
 intro xs
 induction xs with
 |nil=>
  intro s acc w hL hn q;rwa[ko];have:=q [] s.nx (by simp) rfl (by simp);rw[List.map_nil,List.append_nil] at this;show this
 |cons x xs ih=>
  intro s acc w hL hn q;rw[List.length_cons] at hn q;rwa[hK];simp only[ia,gh];symm;show gK T hL (by lia) λv h0 h1=>?_
  symm;show⟨dt rfl,?_⟩;show Cy h0 λp hp=>?_
  symm;show ih (s.pn (s.nx+1)) (acc++[p.v]) w hL (by show s.nx+1+xs.length<=1000;lia) λvs nx' h1 h2 h3=>?_
  have:=q (p::vs) nx' (by intro u hu;rcases List.mem_cons.mp hu with rfl|hu;show hp;show h1 u hu) (by show d4 List.length_cons (d4 h2 rfl)) (by have:nx'<=s.nx+1+xs.length:=h3;lia);rw[List.map_cons] at this;rwa[List.append_assoc ..];show this
theorem zh(T:d8 B)(hL:oR s)(hn:s.nx+10<=1000)(q:∀(vs:List SV) (nx:Nat),(∀v∈vs,fG 13 v)->vs.length<=2->nx<=s.nx+7->Q (.lst (vs.map SV.v)) (P (s.pn nx)++τ)):
  d7 B (n+4) 1087 [.loc 134,.loc 0,.str xP,.str l] (P s++τ) Q X:=by
 show T.fn (r:=(kP,4,gY)) rfl rfl [_,_,_,_,none,none,none,none] rfl ?_;rw[gY];symm;show(gK T hL (by lia) λv h0 h1=>?_).le (eP rfl);symm;show fh (dt rfl) ?_;show⟨dt rfl,by grind,?_⟩;rwa[gk (ag:=[some (.loc 134),some (.loc 0),none]) (js (Int.emod_nonneg _ (dt rfl)) (by grind)) rfl];show sr T (.inr rfl) (xw:=none) _ (s.pn (s.nx+1)) [] none hL ?_ λvs nx h1 h2 h3=>?_
 ·show s.nx+1+3*_<=1000;rwa[List.length_map ..,List.length_range];lia
 ·symm;rw[List.length_map,List.length_range] at h2 h3;rwa[List.nil_append ..];show q vs nx h1 (by grind) (by have:nx<=s.nx+1+3*(v%3).toNat:=h3;lia)
theorem yU(T:d8 B){w:List Nat}(hw:(w=xm/\m=1)\/(w=zQ/\m=2))(hL:oR s)(hn:s.nx+10<=1000)(q:∀(vs:List SV) (nx:Nat),(∀v∈vs,iB v)->vs.length<=m->nx<=s.nx+7->Q (.lst (vs.map SV.v)) (P (s.pn nx)++τ)):
  d7 B (n+4) 1087 [.loc 134,.loc 0,.str w,.str l] (P s++τ) Q X:=by
 show T.fn (r:=(kP,4,gY)) rfl rfl [_,_,_,_,none,none,none,none] rfl ?_;rw[gY];symm;show(gK T hL (by lia) λv h0 h1=>?_).le (eP rfl);symm;have done:∀x:Int,0<=x->x<=m->Jm B (n+3) (.sub (.gv 152 (.lst (lG.map SV.v))) (.bin .mod (.call 157 1011 %[.lv 0|.nil]) (.int 14))) (.bool true) 1
   (pW (λd ak=>fin false d ak λd aa=>Q d aa) ()) [some (.loc 134),some (.loc 0),some (.str w),some (.str l),some (.int v),none,none,none] [`state,[105]] [1] (.rng 0 x) (P (s.pn (s.nx+1))++τ):=by
  intro x hx0 hx1;obtain hm:m<=2:=by lia
  rw[gk (ag:=[some (.loc 0),none]) (js (by assumption) (by lia)) rfl];show HY T (n:=n+2) _ (s.pn (s.nx+1)) [] none hL ?_ λvs nx h1 h2 h3=>?_
  ·show s.nx+1+_<=1000;rw[List.length_map,List.length_range];lia
  ·symm;rw[List.length_map,List.length_range] at h2 h3;rw[List.nil_append];show q vs nx h1 (by simp_all) (by have:nx<=s.nx+1+x.toNat:=h3;lia)
 clear q;rcases hw with⟨rfl,rfl⟩|⟨rfl,rfl⟩
 ·show ez (dt rfl) (fh (dt rfl) (fh (dt rfl) ?_));show⟨dt rfl,by grind,?_⟩;show done _ (Int.emod_nonneg _ (dt rfl)) (by grind)
 ·show ez (dt rfl) (ez (dt rfl) (fh (dt rfl) (ez (dt rfl) ?_)));show⟨dt rfl,by lia,?_⟩;show done _ (Int.emod_nonneg _ (dt rfl)) (by grind)
end
section
variable{s:S}
theorem MK{x:Int}(hx:0<=x)(hy:0<=y):gf (.str l) (.int x) (.int y) J Q=Q (.str ((l.take y.toNat).drop x.toNat)) J:=by
 obtain⟨i,rfl⟩:∃i:Nat,x=i:=⟨x.toNat,by lia⟩;obtain⟨j,rfl⟩:∃j:Nat,y=j:=⟨y.toNat,by lia⟩;show d4 D4 (d4 (Int.toNat_natCast ..) (d4 (Int.toNat_natCast ..) rfl))
def MQ(l:List Nat)(vs:List SV):Prop:=vs=[]\/∃a,(fG 13 a\/∃t,a=.str t/\t.length<=2/\∀c∈t,c∈l)/\(vs=[a]\/∃p,iB p/\vs=[a,p])
theorem uh(T:d8 B){w:List Nat}(hw:w=AU\/w=BA)(hL:oR s)(hn:s.nx+10<=1000)(q:Q (.lst []) (P (s.pn (s.nx+1))++τ)):
  d7 B (n+4) 1087 [.loc 134,.loc 0,.str w,.str l] (P s++τ) Q X:=by
 show T.fn (r:=(kP,4,gY)) rfl rfl [_,_,_,_,none,none,none,none] rfl ?_;rw[gY];symm;show(gK T hL (by lia) λv h0 h1=>?_).le (eP rfl);symm;rcases hw with rfl|rfl
 ·show ez (dt rfl) (ez (dt rfl) (ez (dt rfl) (fh (dt rfl) ?_)));show q
 ·show ez (dt rfl) (ez (dt rfl) (ez (dt rfl) (fh (dt rfl) ?_)));show q
theorem yl(T:d8 B){w:List Nat}(hw:w=qu\/w=l7)(hz:l.length<=1000)(hL:oR s)(hn:s.nx+10<=1000)(q:∀(vs:List SV) (nx:Nat),MQ l vs->nx<=s.nx+7->Q (.lst (vs.map SV.v)) (P (s.pn nx)++τ)):
  d7 B (n+4) 1087 [.loc 134,.loc 0,.str w,.str l] (P s++τ) Q X:=by
 show T.fn (r:=(kP,4,gY)) rfl rfl [_,_,_,_,none,none,none,none] rfl ?_;rw[gY];symm;show(gK T hL (by lia) λv h0 h1=>?_).le (eP rfl);symm;have go:w=qu\/w=l7:=hw;have c1:¬(w==[99,111,110,99,97,116])=true:=by clear go;rcases hw with rfl|rfl<;>show dt rfl
 have c2:¬(w==[99,104,97,114,65,116])=true:=by clear go c1;rcases hw with rfl|rfl<;>show dt rfl
 have c3:¬(w==[115,108,105,99,101])=true:=by clear go c1 c2;rcases hw with rfl|rfl<;>show dt rfl
 obtain c4:¬(!([`indexOf,`includes]:List (List Nat)).contains w)=true:=by clear go c1 c2 c3;rcases hw with rfl|rfl<;>show dt rfl
 show ez c1 (ez c2 (ez c3 (ez c4 ⟨dt rfl,?_⟩)));have tail:∀(a:SV) (nx0:Nat),(fG 13 a\/∃t,a=.str t/\t.length<=2/\∀c∈t,c∈l)->nx0<=s.nx+4->
   eH B (n+3) X (.cons (.ret (.ite (.cmp .eq (.bin .mod (.lv 4) (.int 2)) (.int 1)) (.lstF (.cons (.lv 7) (.cons (.sub (.gv 152 (.lst (lG.map SV.v))) (.bin .mod (.call 157 1011 (.cons (.lv 1) .nil)) (.int 14))) .nil))) (.lstF (.cons (.lv 7) .nil)))) .nil)
    [some (.loc 134),some (.loc 0),some (.str w),some (.str l),some (.int v),some (.int (v/12)),some (.int (v/12%((l.length:Int)+1))),some a.v] (P (s.pn nx0)++τ) (fe Q):=by
  intro a nx0 ha hx;symm;show⟨dt rfl,eB (λh=>?_) (λh=>?_)⟩
  ·show(gK T (s:=(s.pn nx0)) hL (by show nx0<=1000;lia) λu u0 u1=>?_).le (eP rfl);symm;show⟨dt rfl,Cy u0 λp hp=>?_⟩;symm;show q [a,p] (nx0+1) (.inr ⟨a,ha,.inr ⟨p,hp,rfl⟩⟩) (by lia)
  ·show q [a] nx0 (.inr ⟨a,ha,.inl rfl⟩) (by lia)
 show eB (λh=>?_) (λh=>?_)
 ·show q [] (s.nx+1) (.inl rfl) (eP rfl)
 ·show⟨dt rfl,dt rfl,by simp,dt rfl,eB (λh2=>?_) (λh2=>?_)⟩
  ·show lz T (s:=(s.pn (s.nx+1))) (.inr rfl) hL (by show s.nx+1+3<=1000;lia) λa nx ha hx=>?_
   show tail a nx (.inl ha) (by have:nx<=s.nx+1+3:=hx;assumption)
  ·show⟨by simp,by lia,dt rfl,?_⟩;have e1:0<=v/12%((l.length:Int)+1):=Int.emod_nonneg _ (by lia);have e2:0<=v/12/((l.length:Int)+1)%3:=Int.emod_nonneg _ (dt rfl);obtain e3:v/12/((l.length:Int)+1)%3<3:=Int.emod_lt_of_pos _ (dt rfl);generalize v/12/((l.length:Int)+1)%3=z at e2 e3 ⊢;rwa[MK e1 (Int.add_nonneg e1 e2)];show tail (.str _) (s.nx+1) (.inr ⟨_,rfl,?_,?_⟩) (eP rfl)
   ·rwa[List.length_drop,List.length_take];omega
   ·intro c hc;show List.mem_of_mem_take (List.mem_of_mem_drop hc)
end
section
variable{s:S}
theorem jW{g:α->V}{p:α->Bool}{f:α->V}{e c:Ex}:∀(as:List α) (acc:List V),
  (∀a∈as,∀K:V->Hp->Prop,K (.bool (p a)) J->eg B n (λ_ _=>False) c true (U.set kk (some (g a))) J K)->
  (∀a∈as,p a=true->∀K:V->Hp->Prop,K (f a) J->eg B n (λ_ _=>False) e false (U.set kk (some (g a))) J K)->
  Q (.lst (acc++(as.filter p).map f)) J->ka B n e c kk Q U (as.map g) J acc:=by
 intro as
 induction as with
 |nil=>intro acc _ _ q;rwa[List.map_nil,ko];rw[List.filter_nil,List.map_nil,List.append_nil] at q;show q
 |cons a as ih=>
  intro acc hc he q;rwa[List.map_cons,hK];show hc a (.head _) _ ?_;rw[List.filter_cons] at q;have rest:=λacc=>ih acc (λb m=>hc b (.tail _ m)) (λb m=>he b (.tail _ m))
  cases h:p a with
  |false=>
   rw[h] at q;show rest acc q
  |true=>
   rw[h] at q;show he a (.head _) h _ ?_;show rest _ ?_;rwa[List.append_assoc ..];show q
theorem oP(l:List α):l.filter (λ_=>true)=l:=List.filter_eq_self.mpr λ_ _=>rfl
theorem gJ{w:Option V}(q:Q (.lst (l.map λc=> .str [c])) J):ka B n (.lv 0) (.bool true) 0 Q [w] (l.map λc=> .str [c]) J []:=by
 show jW (p:=λ_=>true) (f:=λc=> .str [c]) l [] (λa _ K h=>?_) (λa _ _ K h=>?_) ?_
 ·simp only[gh];symm;show h
 ·simp only[gh];symm;show h
 ·rwa[oP ..];show q
theorem xI{x:Int}(h:x<=1000000)(h2: -1000000<=x):fF (.rng 0 x) J=some ((List.range x.toNat).map λ(k:Nat)=>V.int k,none):=by
 by_cases h0:0<=x
 ·show js h0 h
 ·show ite _ _ _=_;rwa[if_pos (by lia)];simp
theorem uz(h:i<l.length):eO (.lst (l.map λc=> .str [c])) (.int i) J Q=Q (.str [l[i]]) J:=by
 show d4 (gM (by rw[List.length_map];show h)) (d4 (List.getElem_map ..) rfl)
theorem l9(h1:∀x∈ls,x.length<=1000)(h2:ls.length<=1001)(q:Q (.str (jn [] ls)) J):gq .join (.str []) [.lst (ls.map .str)] J Q:=by
 rw[xW];show⟨?_,q⟩;unfold gU;obtain this:=A9 h1;simp only[List.length_nil];unfold eh;lia
theorem Cd(T:d8 B)(hz:l.length<=1000)(hp:iB (eK args 0))(q:Q (.tup [.int 5,.str (w6 l (f9 (eK args 0) 0))]) J):
  d7 B (n+3) 1092 [.loc 134,.str xm,.str l,.lst (args.map SV.v)] J Q X:=by
 show T.fn (r:=(iG,4,fK)) rfl rfl [_,_,_,_,none,none,none,none,none,none] rfl ?_;rw[fK];symm;rwa[gk (ag:=[none]) kX rfl];show gJ ?_;symm;show fh (dt rfl) ⟨by lia,?_⟩;rwa[gk (ag:=[some (.lst (l.map λc=> .str [c])),some (.lst (args.map SV.v)),none]) (xI (by lia) (og)) rfl];rwa[Int.toNat_natCast ..];obtain hf:∀i∈List.range l.length,i<l.length:=λi hi=>List.mem_range.mp hi
 show jW (p:=λ(i:Nat)=>decide ((i:Int)=f9 (eK args 0) 0)) (f:=λi=> .str [l.getD i 0]) _ [] (λi _ K h=>?_) (λi hi _ K h=>?_) ?_
 ·simp only[ia,gh];symm;show nG T (i:=0) hp ?_;symm;show h
 ·simp only[ia,gh];symm;have hi:=hf i hi;rwa[uz hi];symm;have e:l.getD i 0=l[i]:=by rwa[List.getD_eq_getElem?_getD,List.getElem?_eq_getElem hi];rfl
  rw[e] at h;show h
 ·symm;rwa[List.nil_append ..,(show(λi=>V.str [l.getD i 0])=V.str∘(λi=>[l.getD i 0]) from rfl),List.map_map.symm];show l9 ?_ ?_ ?_
  ·intro x hx;show d6 (List.mem_map.mp hx) ?_;clear hx;rintro i _ rfl;simp
  ·rwa[List.length_map ..];obtain this:=List.length_filter_le (λ(i:Nat)=>decide ((i:Int)=f9 (eK args 0) 0)) (List.range l.length);rw[List.length_range] at this;lia
  ·symm;obtain key:∀(r:Int) (m:Nat),m<=l.length->jn [] (((List.range m).filter λ(i:Nat)=>decide ((i:Int)=r)).map λi=>[l.getD i 0])=if 0<=r/\r<m then [l.getD r.toNat 0] else []:=by
    intro r m
    induction m with
    |zero=>intro _;rwa[if_neg (by simp)];rfl
    |succ m ih=>
     intro hm;rwa[List.range_succ,List.filter_append ..,List.map_append,List.filter_cons,List.filter_nil]
     by_cases h:(m:Int)=r
     ·rwa[if_pos (by simpa using h)];have e:(List.range m).filter (λ(i:Nat)=>decide ((i:Int)=r))=[]:=by
       rwa[propext List.filter_eq_nil_iff];intro i hi;obtain this:=List.mem_range.mp hi;simp;lia
      rwa[e,if_pos (by lia)];clear ih e;subst h;simp[show ∀s x,jn s [x]=x from λ_ _=>rfl]
     ·rwa[if_neg (by simpa using h),List.map_nil,List.append_nil ..,ih (Nat.le_of_lt ‹_›)]
      by_cases h2:0<=r/\r<m
      ·show d4 (if_pos h2) (d4 (if_pos (by lia)) rfl)
      ·show d4 (if_neg h2) (d4 (if_neg (by lia)) rfl)
   rwa[key _ _ (Nat.le_refl _)];unfold w6 at q
   by_cases h:0<=f9 (eK args 0) 0/\f9 (eK args 0) 0<l.length
   ·rw[if_pos h] at q ⊢;have hlt:(f9 (eK args 0) 0).toNat<l.length:=by simp_all
    rw[List.getElem?_eq_getElem hlt] at q;rwa[List.getD_eq_getElem?_getD,List.getElem?_eq_getElem hlt];show q
   ·rw[if_neg h] at q ⊢;show q
end
section
variable{s:S}
theorem E6(l:List Nat)(d:Nat):∀(m a b:Nat),m<=l.length->((List.range m).filter λi=>decide (a<=i)&& !decide (b<=i)).map (λi=>l.getD i d)=(l.take (min b m)).drop a:=by
 intro m
 induction m with
 |zero=>intro a b _;simp
 |succ m ih=>
  intro a b hm;obtain hg:l.getD m d=l[m]:=by rwa[List.getD_eq_getElem?_getD,List.getElem?_eq_getElem (by assumption)];rfl
  rwa[List.range_succ,List.filter_append ..,List.map_append,ih a b (Nat.le_of_lt ‹_›),List.filter_cons,List.filter_nil]
  by_cases hb:b<=m
  ·show d4 (if_neg (by simp[hb])) (d4 List.map_nil (d4 (List.append_nil ..) (d4 (Nat.min_eq_left hb) (d4 (Nat.min_eq_left (Nat.le_trans ‹_› (Nat.le_add_right ..))) rfl))))
  ·rwa[Nat.min_eq_right (by lia),Nat.min_eq_right (Nat.lt_of_not_le ‹_›)]
   by_cases ha:a<=m
   ·show d4 (if_pos (by simp[ha,hb])) (d4 (vz ha (by assumption)) (d4 List.map_cons (d4 List.map_nil (d4 hg rfl))))
   ·show d4 (if_neg (by simp[ha])) (d4 List.map_nil (d4 (List.append_nil ..) (d4 (List.drop_of_length_le (by rw[List.length_take];lia)) (d4 (List.drop_of_length_le (by rw[List.length_take];lia)) rfl))))
theorem uB{low:Int}(h:i<m):iR i m low=decide (gr low m<=i):=by
 unfold iR gr
 by_cases h0:low<0
 ·rwa[if_neg (show ¬0<=low by show Int.not_le.mpr ‹_›),if_pos h0];show decide_eq_decide.mpr (by lia)
 ·rwa[if_pos (show 0<=low by show Int.not_lt.mp ‹_›),if_neg h0];show decide_eq_decide.mpr (by grind)
theorem HH{low:Int}:low<0\/True->gr low m<=m:=by
 intro _;unfold gr
 split<;>grind
theorem Cp{a b:Int}:jn [] (((List.range l.length).filter λ(i:Nat)=>iR i l.length a&& !iR i l.length b).map λi=>[l.getD i 0])=pI l a b:=by
 obtain e:((List.range l.length).filter λ(i:Nat)=>iR i l.length a&& !iR i l.length b)=(List.range l.length).filter λi=>decide (gr a l.length<=i)&& !decide (gr b l.length<=i):=by
  apply List.filter_congr;intro i hi;have:=List.mem_range.mp hi;show d4 (uB this) (d4 (uB this) rfl)
 rwa[e,(show(λi=>[l.getD i 0])=(λc=>[c])∘(λi=>l.getD i 0) from rfl),List.map_map.symm,tM ..,E6 l 0 _ _ _ (Nat.le_refl _)];unfold pI;rwa[Nat.min_eq_left (HH (.inr trivial))]
 split
 ·show d4 (List.drop_of_length_le (by rw[List.length_take];grind)) rfl
 ·rfl
theorem A8(T:d8 B)(hz:l.length<=1000)(hp0:iB (eK args 0))(hp1:iB (eK args 1))(q:Q (.tup [.int 5,.str (pI l (f9 (eK args 0) 0) (f9 (eK args 1) l.length))]) J):
  d7 B (n+3) 1092 [.loc 134,.str zQ,.str l,.lst (args.map SV.v)] J Q X:=by
 show T.fn (r:=(iG,4,fK)) rfl rfl [_,_,_,_,none,none,none,none,none,none] rfl ?_;rw[fK];symm;rwa[gk (ag:=[none]) kX rfl];show gJ ?_;symm;show ez (dt rfl) (fh (dt rfl) ?_);show nG T (i:=0) hp0 ?_;symm;show nG T (i:=1) hp1 ?_;symm;show⟨by lia,?_⟩;rwa[gk (ag:=[some (.lst (l.map λc=> .str [c])),some (.int l.length),some (.int (f9 (eK args 0) 0)),some (.int (f9 (eK args 1) l.length)),none]) (xI (by lia) (og)) rfl];rwa[Int.toNat_natCast ..];show jW (p:=λ(i:Nat)=>iR i l.length (f9 (eK args 0) 0)&& !iR i l.length (f9 (eK args 1) l.length)) (f:=λi=> .str [l.getD i 0]) _ [] (λi _ K h=>?_) (λi hi _ K h=>?_) ?_
 ·simp only[ia,gh];symm;show(y8 T (n:=n+1) ?_).le (Nat.le_refl _);symm;show eB (λh1=>?_) (λh1=>?_)
  ·show(y8 T (n:=n+1) ?_).le (Nat.le_refl _);symm;rw[h1,Bool.true_and] at h;show h
  ·rw[Bool.not_eq_true] at h1;rw[h1,Bool.false_and] at h;show h
 ·simp only[ia,gh];symm;have hi:=List.mem_range.mp hi;rwa[uz hi];symm;obtain e:l.getD i 0=l[i]:=by rwa[List.getD_eq_getElem?_getD,List.getElem?_eq_getElem hi];rfl
  rw[e] at h;show h
 ·symm;rwa[List.nil_append ..,(show(λi=>V.str [l.getD i 0])=V.str∘(λi=>[l.getD i 0]) from rfl),List.map_map.symm];show l9 ?_ ?_ ?_
  ·intro x hx;show d6 (List.mem_map.mp hx) ?_;clear hx;rintro i _ rfl;simp
  ·rwa[List.length_map ..];obtain this:=List.length_filter_le (λ(i:Nat)=>iR i l.length (f9 (eK args 0) 0)&& !iR i l.length (f9 (eK args 1) l.length)) (List.range l.length);rw[List.length_range] at this;lia
  ·symm;rwa[Cp];show q
theorem C5{f:Nat->Nat}(l:List Nat):jn [] (l.map λc=>[f c])=l.map f:=by
 show d4 (show(λc=>[f c])=(λc=>[c])∘f from rfl) (d4 List.map_map.symm (d4 (tM ..) rfl))
theorem zZ(T:d8 B){args:V}(ha:eW l)(hz:l.length<=1000)(q:Q (.tup [.int 5,.str (l.map up1)]) J):
  d7 B (n+3) 1092 [.loc 134,.str AU,.str l,args] J Q X:=by
 show T.fn (r:=(iG,4,fK)) rfl rfl [_,_,_,_,none,none,none,none,none,none] rfl ?_;rw[fK];symm;rwa[gk (ag:=[none]) kX rfl];show gJ ?_;symm;show ez (dt rfl) (ez (dt rfl) (fh (dt rfl) ?_));rwa[gk (ag:=[none]) qi rfl];show jW (p:=λ_=>true) (f:=λc=> .str [up1 c]) l [] (λc _ K h=>?_) (λc hc _ K h=>?_) ?_
 ·simp only[gh];symm;show h
 ·simp only[gh];symm;obtain hc:=ha c hc;unfold up1 at h;show eB (λh1=>eB (λh2=>?_) (λh2=>?_)) (λh1=>?_)
  ·simp[qV,qH] at h1 h2;rw[if_pos (by lia)] at h;show⟨by lia,by lia,?_⟩;rwa[(show((c:Int)-32).toNat=c-32 by grind)];show h
  ·simp[qV,qH] at h1 h2;rw[if_neg (by lia)] at h;show h
  ·simp[qV,qH] at h1;rw[if_neg (by lia)] at h;show h
 ·symm;rwa[List.nil_append ..,oP ..,(show(λc=>V.str [up1 c])=V.str∘(λc=>[up1 c]) from rfl),List.map_map.symm];show l9 ?_ (by rwa[List.length_map ..];show fY ‹_› rfl) ?_
  ·intro x hx;show d6 (List.mem_map.mp hx) ?_;clear hx;rintro i _ rfl;simp
  ·symm;rwa[C5 ..];show q
theorem AH(T:d8 B){args:V}(ha:eW l)(hz:l.length<=1000)(q:Q (.tup [.int 5,.str (l.map lo1)]) J):
  d7 B (n+3) 1092 [.loc 134,.str BA,.str l,args] J Q X:=by
 show T.fn (r:=(iG,4,fK)) rfl rfl [_,_,_,_,none,none,none,none,none,none] rfl ?_;rw[fK];symm;rwa[gk (ag:=[none]) kX rfl];show gJ ?_;symm;show ez (dt rfl) (ez (dt rfl) (ez (dt rfl) (fh (dt rfl) ?_)));rwa[gk (ag:=[none]) qi rfl];show jW (p:=λ_=>true) (f:=λc=> .str [lo1 c]) l [] (λc _ K h=>?_) (λc hc _ K h=>?_) ?_
 ·simp only[gh];symm;show h
 ·simp only[gh];symm;have hc:=ha c hc;unfold lo1 at h;show eB (λh1=>eB (λh2=>?_) (λh2=>?_)) (λh1=>?_)
  ·simp[qV,qH] at h1 h2;rw[if_pos (by lia)] at h;show⟨by show og,by lia,?_⟩;rwa[(show((c:Int)+32).toNat=c+32 by lia)];show h
  ·simp[qV,qH] at h1 h2;rw[if_neg (by lia)] at h;show h
  ·simp[qV,qH] at h1;rw[if_neg (by lia)] at h;show h
 ·symm;rwa[List.nil_append ..,oP ..,(show(λc=>V.str [lo1 c])=V.str∘(λc=>[lo1 c]) from rfl),List.map_map.symm];show l9 ?_ (by rwa[List.length_map ..];show fY ‹_› rfl) ?_
  ·intro x hx;show d6 (List.mem_map.mp hx) ?_;clear hx;rintro i _ rfl;simp
  ·symm;rwa[C5 ..];show q
theorem zo(T:d8 B)(o:gW w s)(ol:uK w s)(hw:mN w)(ha:∀v∈args,v.good)(hn:args.length<=5)(hz:l.length<=1000)(ps:PS s J)(q:Q (.tup [.int 5,.str (jn [] (l::args.map (fm w)))]) J):
  d7 B (n+5) 1092 [.loc 134,.str xP,.str l,.lst (args.map SV.v)] J Q X:=by
 show T.fn (r:=(iG,4,fK)) rfl rfl [_,_,_,_,none,none,none,none,none,none] rfl ?_;rw[fK];symm;rwa[gk (ag:=[none]) kX rfl];show gJ ?_;symm;show ez (dt rfl) (ez (dt rfl) (ez (dt rfl) (ez (dt rfl) (fh (dt rfl) ?_))));rwa[gk (ag:=[some (.loc 134),none]) qi rfl];show jW (p:=λ_=>true) (f:=λv=> .str (fm w v)) args [] (λv _ K h=>?_) (λv hv _ K h=>?_) ?_
 ·simp only[ia,gh];symm;show h
 ·simp only[ia,gh];symm;show lq T o ol (ha v hv) ps ?_;symm;show h
 ·symm;rwa[List.nil_append ..,oP ..,(show(λv=>V.str (fm w v))=V.str∘(fm w) from rfl),List.map_map.symm];show⟨by simp only[List.length_map,List.length_singleton];unfold eh;lia,?_⟩;rwa[(show([V.str l]++List.map V.str (List.map (fm w) args))=(l::args.map (fm w)).map V.str from rfl)];show l9 ?_ (by simp only[List.length_cons,List.length_map];show Nat.lt_of_le_of_lt ‹_› (dt rfl)) ?_
  ·intro x hx;clear q;rcases List.mem_cons.mp hx with rfl|hx
   ·show hz
   ·show d6 (List.mem_map.mp hx) ?_;clear hx;rintro v hv rfl;show(hw v (ha v hv)).2
  ·symm;show q
end
section
variable{s:S}
theorem Ab(x y:Str)(hi:Nat):∀(l:List Nat) (st:Array Nat×Nat),st.1.size=1->(forIn l st (StrLaws.occBody x y hi 1)).run.fst=st.1
 |[],_,_=>rfl
 |a::l,st,h=>by
  rw[List.forIn_cons];unfold StrLaws.occBody;rw[if_neg (by rw[h];simp)];show Ab x y hi l _ h
theorem y0(x y:Str)(hi:Nat):∀(l:List Nat) (free:Nat),(∀i∈l,free<=i)->(forIn l ((#[]:Array Nat),free) (StrLaws.occBody x y hi 1)).run.fst.toList=(l.filter λi=>decide (i+y.length<=hi)&&Builtin.Str.subAt x y i).head?.toList
 |[],_,_=>rfl
 |a::l,free,hf=>by
  rwa[List.forIn_cons ..,List.filter_cons];unfold StrLaws.occBody
  by_cases h:a+y.length<=hi/\Builtin.Str.subAt x y a=true
  ·rwa[if_pos ⟨⟨⟨Nat.zero_lt_one,hf a (.head _)⟩,h.1⟩,h.2⟩,if_pos (by simp[h.1,h.2])];have:=Ab x y hi l ((#[]:Array Nat).push a,a+y.length) rfl;unfold StrLaws.occBody at this;show congrArg Array.toList this
  ·rwa[if_neg (λk=>h ⟨k.1.2,k.2⟩),if_neg (λk=>h (by simpa using k))];have:=y0 x y hi l free λi m=>hf i (.tail _ m)
   unfold StrLaws.occBody at this;show this
theorem L6{p:Nat->Bool}(h:k<=m):(List.range k).filter p=(List.range m).filter λi=>decide (i<k)&&p i:=by
 obtain⟨j,rfl⟩:∃j,m=k+j:=⟨m-k,by simp_all⟩;rwa[List.range_eq_range',List.range_eq_range',List.range'_append_1.symm,List.filter_append ..,Nat.zero_add ..]
 rwa[(show(List.range' k j).filter (λi=>decide (i<k)&&p i)=[] from List.filter_eq_nil_iff.mpr λi hi=>by
  obtain this:=(List.mem_range'_1.mp hi).1
  rw[decide_eq_false (Nat.not_lt_of_le ‹_›)];simp),List.append_nil ..]
 apply List.filter_congr;intro i hi;obtain this:=(List.mem_range'_1.mp hi).2;show d4 (decide_eq_true (by simp_all)) (d4 (Bool.true_and ..) rfl)
theorem NV{p:Nat->Bool}(h:k<=m):(List.range' k (m-k)).filter p=(List.range m).filter λi=>decide (k<=i)&&p i:=by
 obtain⟨j,rfl⟩:∃j,m=k+j:=⟨m-k,by simp_all⟩;rwa[Nat.add_sub_cancel_left ..,List.range_eq_range',List.range'_append_1.symm,List.filter_append ..,Nat.zero_add ..]
 rwa[(show(List.range' 0 k).filter (λi=>decide (k<=i)&&p i)=[] from List.filter_eq_nil_iff.mpr λi hi=>by
  obtain this:=(List.mem_range'_1.mp hi).2
  rw[decide_eq_false (by simp_all)];simp),List.nil_append ..]
 apply List.filter_congr;intro i hi;obtain this:=(List.mem_range'_1.mp hi).1;show d4 (decide_eq_true (by assumption)) (d4 (Bool.true_and ..) rfl)
noncomputable def wG(l t:List Nat)(r:Int):List Nat:=(List.range (l.length+1-t.length)).filter λp=>decide (r<=(p:Int))&&((l.take (p+t.length)).drop p==t)
noncomputable def Pm(l:List Nat):Int:=match l with
 |i::_=>i
 |[]=> -1
theorem Nz{t:List Nat}:Builtin.Str.subAt (sv l) (sv t) i=((l.take (i+t.length)).drop i==t):=by
 rwa[StrLaws.subAt_eq ..,List.drop_take];simp[sv,Str.length]
theorem OO{n i:Nat}{r:Int}:(if(n:Int)<r then(n:Int) else r)<=i↔min r.toNat n<=i:=by
 by_cases h:(n:Int)<r
 ·show d4 (if_pos h) (d4 (Nat.min_eq_right (by lia)) Int.ofNat_le)
 ·show d4 (if_neg h) (d4 (Nat.min_eq_left (by lia)) Int.toNat_le.symm)
theorem CL{t:List Nat}{r:Int}:Pm (wG l t (if(l.length:Int)<r then l.length else r))=fE t l (mQ r l.length):=by
 obtain hf:mQ r l.length<=l.length+1:=by unfold mQ;lia
 obtain e:(wG l t (if(l.length:Int)<r then l.length else r)).head?.toList=Builtin.Str.occurrences (sv l) (sv t) (mQ r l.length) l.length 1:=by
  rwa[StrLaws.occ_eq ..,y0 _ _ _ _ _ (λi hi=>(List.mem_range'_1.mp hi).1),NV hf];unfold wG;rwa[L6 (show l.length+1-t.length<=l.length+1 by show Nat.sub_le ..)]
  congr 2
  apply List.filter_congr;intro i hi;obtain this:=List.mem_range.mp hi;rwa[Nz];obtain hs:(sv t).length=t.length:=by simp[sv,Str.length]
  rwa[hs];unfold mQ;rwa[(Bool.and_assoc ..).symm,(Bool.and_assoc ..).symm]
  congr 1
  show Bool.eq_iff_iff.mpr ((Bool.and_eq_true_iff.trans (and_congr decide_eq_true_iff decide_eq_true_iff)).trans ((and_comm.trans (and_congr OO ?_)).trans (Bool.and_eq_true_iff.trans (and_congr decide_eq_true_iff decide_eq_true_iff)).symm));show Nat.lt_sub_iff_add_lt.trans Nat.lt_succ_iff
 unfold fE;rwa[e.symm];cases wG l t (if(l.length:Int)<r then l.length else r)<;>rfl
theorem uv:∀a b:List Nat,PyData.eqvAll (a.map λc=> .str (sv [c])) (b.map λc=> .str (sv [c]))=(a==b)
 |[],[]=>rfl
 |[],_::_=>rfl
 |_::_,[]=>rfl
 |x::a,y::b=>by
  rwa[List.map_cons,List.map_cons];rewrite [PyData.eqvAll];rwa[uv a b,CY];simp
theorem Cu{a b:List Nat}:fa .eq (.lst (a.map λc=> .str [c])) (.lst (b.map λc=> .str [c])) J Q=Q (.bool (a==b)) J:=by
 have d:∀a:List Nat,fT J 9 (.lst (a.map λc=>V.str [c]))=some (.list (a.map λc=> .str (sv [c]))):=by
  intro a;rwa[(show(a.map λc=>V.str [c])=(a.map λc=>[c]).map V.str by rw[List.map_map];rfl),(show fT J 9 (.lst ((a.map λc=>[c]).map .str))=(j5 (fT J 8) ((a.map λc=>[c]).map .str)).map .list from rfl),ja ..,List.map_map];rfl
 show fj (fT J 9 (.lst (a.map λc=>V.str [c]))) (λx=>fj (fT J 9 (.lst (b.map λc=>V.str [c]))) λy=>Q (.bool (PyData.eqv x y)) J)=_;rwa[d ..,d ..];show Q (.bool (PyData.eqv _ _)) J=_
 rewrite [PyData.eqv];show d4 (uv ..) rfl
theorem B4{x:Int}(i j:Nat)(e1:x=i)(e2:y=j):gf (.lst (l.map λc=> .str [c])) (.int x) (.int y) J Q=Q (.lst (((l.take j).drop i).map λc=> .str [c])) J:=by
 subst e1 e2;show d4 NY (d4 List.map_take.symm (d4 List.map_drop.symm rfl))
theorem JV{t:List Nat}{r:Int}(hl:l.length<=1000)(ht:t.length<=1000)(q:Q (.lst ((wG l t r).map λ(i:Nat)=> .int i)) J):
  ka B n (.lv 3) (.bop true (.cons (.cmp .ge (.lv 3) (.lv 0)) (.cons (.cmp .eq (.slc (.lv 2) (.lv 3) (.bin .add (.lv 3) (.callB .len (.cons (.lv 1) .nil)))) (.lv 1)) .nil))) 3 Q [some (.int r),some (.lst (t.map λc=> .str [c])),some (.lst (l.map λc=> .str [c])),none] ((List.range (l.length+1-t.length)).map λ(i:Nat)=>V.int i) J []:=by
 show jW (p:=λ(p:Nat)=>decide (r<=(p:Int))&&((l.take (p+t.length)).drop p==t)) (f:=λi=> .int i) _ [] (λi hi K h=>?_) (λi hi _ K h=>?_) ?_
 ·simp only[ia,gh];symm;show eB (λh1=>?_) (λh1=>?_)
  ·rw[B4 i (i+t.length) rfl (by rw[List.length_map];simp)];symm;rw[Cu];symm;rw[decide_eq_true h1,Bool.true_and] at h;show h
  ·rw[decide_eq_false h1,Bool.false_and] at h;show h
 ·simp only[ia,gh];symm;show h
 ·show q
theorem Gr(h:i<args.length):(args.map SV.v)[i]'(by rwa[List.length_map ..];show h)=(eK args i).v:=by
 rwa[List.getElem_map ..];unfold eK;rwa[List.getElem?_eq_getElem h];rfl
noncomputable def eQ:Nat->eu->eu
 |0,b=>b
 |m+1,.cons _ r=>eQ m r
 |_+1,.nil=> .nil
theorem fb{b}:eQ 0 b=b:=rfl
theorem fc{m x r}:eQ (m+1) (.cons x r)=eQ m r:=rfl
noncomputable def oQ:eu->eu
 |.cons (.ite _ b _) _=>b
 |.cons (.for1 _ _ b) _=>b
 |.cons (.forT _ _ b) _=>b
 |b=>b
theorem pO{e b c r}:oQ (.cons (.ite e b c) r)=b:=rfl
theorem ly{e b c r}:oQ (.cons (.for1 e b c) r)=c:=rfl
theorem lK{e b c r}:oQ (.cons (.forT e b c) r)=c:=rfl
noncomputable def Jd(word:List Nat)(f:List Nat):SV:=if word=l7 then .bool (decide (0<f.length)) else .num (Pm f)
theorem RZ{K:V->Hp->Prop}(h:∀x,x=l->K (.str x) J):K (.str l) J:=h l rfl
theorem yK(T:d8 B)(hword:word=qu\/word=l7)(o:gW w s)(ol:uK w s)(hw:mN w)(hg:(eK args 0).good)(hp:iB (eK args 1))(hz:l.length<=1000)(ps:PS s J)(q:Q (Jd word (wG l (fm w (eK args 0)) (if(l.length:Int)<f9 (eK args 1) 0 then l.length else f9 (eK args 1) 0))).v J):
  d7 B (n+5) 1092 [.loc 134,.str word,.str l,.lst (args.map SV.v)] J Q X:=by
 show T.fn (r:=(iG,4,fK)) rfl rfl [_,_,_,_,none,none,none,none,none,none] rfl ?_;rw[fK];symm;rwa[gk (ag:=[none]) kX rfl];show gJ ?_;symm;have c1:¬(word==[99,104,97,114,65,116])=true:=by clear q;rcases hword with rfl|rfl<;>show dt rfl
 have c2:¬(word==[115,108,105,99,101])=true:=by clear q c1;rcases hword with rfl|rfl<;>show dt rfl
 have c3:¬(word==[116,111,85,112,112,101,114,67,97,115,101])=true:=by clear q c1 c2;rcases hword with rfl|rfl<;>show dt rfl
 have c4:¬(word==[116,111,76,111,119,101,114,67,97,115,101])=true:=by clear q c1 c2 c3;rcases hword with rfl|rfl<;>show dt rfl
 have c5:¬(word==[99,111,110,99,97,116])=true:=by clear q c1 c2 c3 c4;rcases hword with rfl|rfl<;>show dt rfl
 show ez c1 (ez c2 (ez c3 (ez c4 (ez c5 ?_))));have ht:=(hw _ hg).2;have rest:eH B (n+4) X (eQ 8 fK) [some (.loc 134),some (.str word),some (.str l),some (.lst (args.map SV.v)),some (.int l.length),some (.lst (l.map λc=> .str [c])),none,none,some (.lst ((fm w (eK args 0)).map λc=> .str [c])),none] J (fe Q):=by
  simp only[fK,fb,fc];symm;show(nG T (n:=n+2) (i:=1) hp ?_).le (Nat.le_refl _);symm;rwa[List.length_map ..];show⟨by lia,?_⟩;rwa[gk (ag:=[some (.int (if(l.length:Int)<f9 (eK args 1) 0 then l.length else f9 (eK args 1) 0)),some (.lst ((fm w (eK args 0)).map λc=> .str [c])),some (.lst (l.map λc=> .str [c])),none]) (xI (by lia) (by lia)) rfl];rwa[(show((l.length:Int)-((fm w (eK args 0)).length:Int)+1).toNat=l.length+1-(fm w (eK args 0)).length by lia)];show JV hz ht ?_;symm;rwa[List.length_map ..];generalize wG l (fm w (eK args 0)) (if(l.length:Int)<f9 (eK args 1) 0 then l.length else f9 (eK args 1) 0)=f at q;unfold Jd at q;clear c1 c2 c3 c4 c5;rcases hword with rfl|rfl
  ·rw[if_neg (dt rfl)] at q;show ez (dt rfl) (eB (λh=>?_) (λh=>?_))
   ·cases f with
    |nil=>show absurd h (dt rfl)
    |cons i f=>
     have hs:∀Q':V->Hp->Prop,eO (.lst ((i::f).map λ(i:Nat)=>V.int i)) (.int 0) J Q'=Q' (.int i) J:=λQ'=>gM (i:=0) (by simp)
     rwa[hs ..];symm;show q
   ·cases f with
    |nil=>show q
    |cons i f=>show absurd (show(0:Int)<((i::f).length:Int) by rwa[List.length_cons];simp) h
  ·rw[if_pos rfl] at q;show fh (dt rfl) (eB (λh=>?_) (λh=>?_))
   ·rw[show decide (0<f.length)=true from decide_eq_true (by simp_all)] at q;show q
   ·rw[show decide (0<f.length)=false from decide_eq_false (by simp_all)] at q;show q
 show eB (λh=>?_) (λh=>?_)
 ·rw[List.length_map] at h;have h':0<args.length:=by simp_all
  obtain hs:∀Q':V->Hp->Prop,eO (.lst (args.map SV.v)) (.int 0) J Q'=Q' (eK args 0).v J:=λQ'=>by rwa[(Gr h').symm];show gM (i:=0) (by rwa[List.length_map ..];show h')
  rwa[hs ..];symm;show lq T o ol hg ps ?_;symm;rwa[gk (ag:=[none]) kX rfl];show gJ rest
 ·obtain e:eK args 0=.undef:=by
   rw[List.length_map] at h;unfold eK;rwa[List.getElem?_eq_none (by simp_all)];rfl
  show lq T (v:=.undef) o ol trivial ps (RZ λtt ht=>?_);rw[e,<-ht] at rest;symm;rwa[gk (ag:=[none]) kX rfl];show gJ rest
end
section
variable{s:S}
mutual
noncomputable def nd:PyData->Bool
 |.dict _=>false
 |.list xs=>vM xs
 |.tuple xs=>vM xs
 |_=>true
noncomputable def vM:List PyData->Bool
 |[]=>true
 |x::xs=>nd x&&vM xs
end
theorem zA{x xs}:vM (x::xs)=(nd x&&vM xs):=rfl
mutual
theorem qX:∀d:PyData,nd d=true->PyData.eqv d d=true
 |.none,_=>rfl
 |.bool b,_=>by rw[PyData.eqv];show beq_self_eq_true b
 |.int i,_=>by rw[PyData.eqv];show beq_self_eq_true i
 |.str x,_=>by rw[PyData.eqv];show beq_self_eq_true x
 |.list xs,h=>by rw[PyData.eqv];show tx xs h
 |.tuple xs,h=>by rw[PyData.eqv];show tx xs h
 |.dict _,h=>nomatch h
theorem tx:∀xs:List PyData,vM xs=true->PyData.eqvAll xs xs=true
 |[],_=>rfl
 |x::xs,h=>by
  rw[zA,Bool.and_eq_true] at h;rw[PyData.eqvAll,qX x h.1,tx xs h.2];rfl
end
theorem NP{x:PyData}(h:fT J 9 (.tup xs)=some x)(hx:nd x=true):fa .ne (.tup xs) (.tup xs) J Q=Q (.bool false) J:=by
 show fj (fT J 9 (.tup xs)) (λa=>fj (fT J 9 (.tup xs)) λb=>Q (.bool (!PyData.eqv a b)) J)=_;rwa[h];show Q (.bool (!PyData.eqv x x)) J=_;rwa[qX x hx];rfl
theorem GV{a b:Nat}{x:PyData}(ha:fT J 9 (.loc a)=some x)(hb:fT J 9 (.loc b)=some x)(hx:nd x=true):fa .ne (.loc a) (.loc b) J Q=Q (.bool false) J:=by
 show fj (fT J 9 (.loc a)) (λa=>fj (fT J 9 (.loc b)) λb=>Q (.bool (!PyData.eqv a b)) J)=_;rwa[ha,hb];show Q (.bool (!PyData.eqv x x)) J=_;rwa[qX x hx];rfl
theorem uT(T:d8 B)(h1:s.wtold.length<=1000000)(h2:s.wrongs.length<=1000000)(q:Q (.tup [.str vm,.tup [.int 6,.int s.made]]) (P {s with wtold:=s.wtold++lW b,wrongs:=s.wrongs++[.int s.made],made:=s.made+1}++τ)):
  d7 B (n+1) 1099 [.loc 134,.bool b] (P s++τ) Q X:=by
 show T.fn (r:=(sU,2,jf)) rfl rfl [_,_] rfl ?_;have rest:∀l:List V,l=s.wtold++lW b->eH B n X (eQ 1 jf) [some (.loc 134),some (.bool b)] (P {s with wtold:=l}++τ) (fe Q):=by
  intro l hl;subst hl;simp only[jf,fb,fc];symm;rwa[Du];symm;rwa[FI,ED];symm;rwa[Iu];show⟨h2,?_⟩;symm;rwa[LK];symm;rwa[Nh];show⟨dt rfl,?_⟩;symm;rwa[ED];symm;rwa[(show s.made+1-1=s.made by simp)];show q
 simp only[jf];symm;cases b with
 |true=>
  show fh (dt rfl) ?_;rwa[Jy];symm;rwa[Ig,KH];show⟨h1,rest _ rfl⟩
 |false=>
  show ez (dt rfl) ?_;show rest s.wtold (by simp[lW])
structure HD(s:S):Prop where
 told:∃k,s.mtold=List.replicate k (.tup [.int 1,.int 0])
 wtold:s.wtold=s.mtold
 out:∃ls:List (List Nat),s.mout=ls.map .str
 wout:s.wout=s.mout
 made:s.made=22+s.ths.length
noncomputable def uA(s:S):Oc->V
 |.val v=> .tup [.str zY,v.v]
 |.print _=> .tup [.str zY,SV.undef.v]
 |.thr _=> .tup [.str vm,u5 s]
 |.num=> .tup [.str Mw,.none]
 |.host=> .tup [.str NX,.none]
def uC(s:S)(τ:Hp)(oc:Oc)(s1:S)(av:Hp):Prop:=match oc with
 |.print t=>s1={s with mout:=s.mout++[.str t]}/\∃ai,av=τ++ai
 |.thr b=>s1={s with mtold:=s.mtold++lW b,ths:=s.ths++[.inst 140 (P s++τ).length]}/\∃slots,av=τ++wI (P s++τ).length (base++s.ths).length 3 3 [] slots
 |_=>s1=s/\∃ai,av=τ++ai
theorem Kk(oc:Oc):∃xs x,uA s oc=.tup xs/\fT J 9 (.tup xs)=some x/\nd x=true:=by
 cases oc with
 |val v=>cases v<;>show⟨_,_,rfl,rfl,rfl⟩
 |_=>show⟨_,_,rfl,rfl,rfl⟩
theorem z7:∀k,∃ds,j5 (fT J 8) (List.replicate k (V.tup [.int 1,.int 0]))=some ds/\vM ds=true
 |0=>⟨[],rfl,rfl⟩
 |k+1=>by
  show d6 (z7 k) λds h1 h2=>?_
  show⟨.tuple [.int 1,.int 0]::ds,?_,?_⟩
  ·rw[List.replicate_succ,wm,h1];rfl
  ·rw[zA,h2];rfl
theorem AW:∀ls:List (List Nat),vM (ls.map λl=> .str (sv l))=true
 |[]=>rfl
 |l::r=>by rw[List.map_cons,zA,AW r];rfl
theorem Co(T:d8 B){a b c:V}(e:HD s1)(q:Q (.bool true) (P s1++av)):eH B n X (eQ 1 jl) [some (.inst 889 1),some (.loc 134),some a,some b,some c,some (uA s oc),some (uA s oc)] (P s1++av) (fe Q):=by
 simp only[jl,fb,fc];symm;show jE (Kk (s:=s) (J:=P s1++av) oc) λxs x e1 e2 e3=>?_
 rwa[e1,NP e2 e3];symm;rwa[Jx];symm;rwa[Jy];symm;show fv e.told λk hk=>?_
 show d6 (z7 (J:=P s1++av) k) λds d1 d2=>?_
 obtain t1:fT (P s1++av) 9 (.loc 8)=some (.list ds):=by
  rwa[pQ (show(P s1++av)[8]?=some (.lst s1.mtold) from rfl),hk,d1];rfl
 obtain t2:fT (P s1++av) 9 (.loc 131)=some (.list ds):=by
  rwa[pQ (show(P s1++av)[131]?=some (.lst s1.wtold) from rfl),e.wtold,hk,d1];rfl
 rwa[GV t1 t2 d2];symm;rwa[Lm];symm;rwa[LC];symm;show fv e.out λls hl=>?_
 obtain o1:fT (P s1++av) 9 (.loc 7)=some (.list (ls.map λl=> .str (sv l))):=by
  rwa[pQ (show(P s1++av)[7]?=some (.lst s1.mout) from rfl),hl,ja ..];rfl
 obtain o2:fT (P s1++av) 9 (.loc 133)=some (.list (ls.map λl=> .str (sv l))):=by
  rwa[pQ (show(P s1++av)[133]?=some (.lst s1.wout) from rfl),e.wout,hl,ja ..];rfl
 rwa[GV o1 o2 (AW _)];symm;rwa[lV];symm;rwa[kr];symm;rwa[MN];symm;rwa[ED];symm;rwa[(show decide (((base++s1.ths).length:Int)=s1.made)=true from decide_eq_true (by rw[e.made,List.length_append];show(((22+s1.ths.length:Nat)):Int)=_;simp))];show q
theorem i7(T:d8 B){i:Int}(h:mx B (n+14) s τ i this args oc)(q:∀s1 av,uC s τ oc s1 av->HD s1/\Q (.bool true) (P s1++av)):
  d7 B (n+15) 1113 [.inst 889 1,.loc 134,.int i,this.v,.lst (args.map SV.v),uA s oc] (P s++τ) Q X:=by
 show T.fn (r:=(wW,6,jl)) rfl rfl [_,_,_,_,_,_,none] rfl ?_;have go:∀{X':fD->Hp->Prop} (s1:S) (av:Hp),uC s τ oc s1 av->eH B (n+14) X' (eQ 1 jl) [some (.inst 889 1),some (.loc 134),some (.int i),some this.v,some (.lst (args.map SV.v)),some (uA s oc),some (uA s oc)] (P s1++av) (fe Q):=λs1 av ho=>
  Co T (q s1 av ho).1 (q s1 av ho).2
 simp only[jl];rwa[xq,OC];symm;show h _ _ ?_;cases oc with
 |val v=>intro ai;show go s _ ⟨rfl,ai,rfl⟩
 |print t=>intro ai;show go _ _ ⟨rfl,ai,rfl⟩
 |num=>intro ai;show go s _ ⟨rfl,ai,rfl⟩
 |host=>intro ai;show go s _ ⟨rfl,ai,rfl⟩
 |thr b=>intro slots;show go _ _ ⟨rfl,slots,rfl⟩
end
section
variable{s:S}
structure Wv(w:Wc):Prop where
 v0:∀v∈w.a0,fG 7 v
 v1:∀v∈w.a1,fG 7 v
 vc:∀v,w.cl=some v->fG 7 v
 vs:∀v,w.sd=some v->fG 7 v
 z0:w.a0.length<=3
 z1:w.a1.length<=2
theorem Fh:∀c∈yj,9<=c/\c<128:=dt rfl
theorem AO:∀h∈iX,(∀c∈h,9<=c/\c<128)/\h.length<=17:=dt rfl
theorem pM(h:tf l):eW l/\l.length<=21:=by
 show jE h ?_;rintro a r rfl hr hh;clear h;rcases hh with⟨rfl,hl⟩|⟨ha,hl⟩
 ·show⟨λc hc=>(Fh c (hr c hc)).2,by rwa[List.nil_append ..];show fY ‹_› rfl⟩
 ·show⟨λc hc=>?_,by rwa[List.length_append];have:=(AO a ha).2;lia⟩;rcases List.mem_append.mp hc with hc|hc
  ·show((AO a ha).1 c hc).2
  ·show(Fh c (hr c hc)).2
theorem jY{m:Int}{v:SV}(h:fG m v):v.good:=by
 cases v with
 |str l=>show⟨(pM h).1,Nat.le_trans (pM h).2 (dt rfl)⟩
 |num i=>show h
 |obj k=>show⟨h.2.1,h.2.2⟩
 |_=>trivial
theorem sP{v:SV}(h:fG 7 v):v.sm:=by
 cases v with
 |obj k=>show absurd h.1 (dt rfl)
 |str l=>show jY h
 |num i=>show h
 |_=>trivial
theorem Jc{v:SV}(h:fG 7 v):eW (kq v)/\(kq v).length<=66:=by
 show⟨(gL (sP h)).1,?_⟩;cases v with
 |str l=>show Nat.le_trans (pM h).2 (dt rfl)
 |num i=>
  have h1:=h.1;have h2:=h.2;unfold eG at h1 h2;show(fW i).length<=66
  rwa[fZ (by omega)];show Nat.le_trans (iI _ _) (dt rfl)
 |bool b=>clear h;cases b<;>show dt rfl
 |obj k=>show absurd h.1 (dt rfl)
 |_=>show dt rfl
theorem D1{v:SV}(h:fG 7 v):eW (lr v)/\(lr v).length<=66:=by
 cases v with
 |undef=>show⟨λc hc=>(nomatch hc),dt rfl⟩
 |null=>show⟨λc hc=>(nomatch hc),dt rfl⟩
 |_=>show Jc h
theorem EV{o:Option SV}{d:List Nat}(h:∀v,o=some v->fG 7 v)(hd:eW d/\d.length<=66):eW (told o d)/\(told o d).length<=66:=by
 cases o with
 |none=>show hd
 |some v=>
  cases v with
  |undef=>show hd
  |_=>show Jc (h _ rfl)
theorem zK(hw:Wv w){v:SV}(hv:v.good):eW (fm w v)/\(fm w v).length<=900:=by
 have m0:eW (rK w)/\(rK w).length<=201:=by
  have:=zB (ls:=w.a0.map lr) (m:=66) (by
   intro l hl;show d6 (List.mem_map.mp hl) ?_;clear hl;rintro v hv rfl
   show D1 (hw.v0 v hv))
  rw[List.length_map] at this;show⟨this.1,Nat.le_trans this.2 ?_⟩;obtain this:=hw.z0;lia
 cases v with
 |obj k=>
  have hk:k=18\/k=19\/k=20\/k=21:=by have:=hv.1;obtain this:=hv.2;lia
  clear hv;rcases hk with rfl|rfl|rfl|rfl
  ·show⟨m0.1,Nat.le_trans m0.2 (dt rfl)⟩
  ·have:=zB (ls:=rK w::w.a1.map lr) (m:=201) (by
    intro l hl;rcases List.mem_cons.mp hl with rfl|hl
    ·show m0
    ·show d6 (List.mem_map.mp hl) ?_;clear hl;rintro v hv rfl
     show⟨(D1 (hw.v1 v hv)).1,Nat.le_trans (D1 (hw.v1 v hv)).2 (dt rfl)⟩)
   rw[List.length_cons,List.length_map] at this;show⟨this.1,Nat.le_trans this.2 ?_⟩;obtain this:=hw.z1;lia
  ·have c:=EV (d:=hY) hw.vc ⟨by intro c hc;revert c;decide,dt rfl⟩;have d:=EV (d:=[]) hw.vs ⟨λc hc=>(nomatch hc),dt rfl⟩;show eW (tE w)/\(tE w).length<=900
   unfold tE
   split
   ·show⟨c.1,Nat.le_trans c.2 (dt rfl)⟩
   ·split
    ·show⟨d.1,Nat.le_trans d.2 (dt rfl)⟩
    ·show⟨λx hx=>?_,?_⟩
     ·rcases List.mem_append.mp hx with hx|hx
      ·rcases List.mem_append.mp hx with hx|hx
       ·show c.1 x hx
       ·obtain this:∀y∈([58,32]:List Nat),y<128:=dt rfl;show this x hx
      ·show d.1 x hx
     ·simp only[List.length_append,List.length_cons,List.length_nil];have:=c.2;obtain this:=d.2;lia
  ·show⟨by show eW (kq (.obj 21));intro c hc;revert c;decide,by show(kq (.obj 21)).length<=900;decide⟩
 |undef=>show⟨(gL (v:=.undef) hv).1,Nat.le_trans (gL (v:=.undef) hv).2 (dt rfl)⟩
 |null=>show⟨(gL (v:=.null) hv).1,Nat.le_trans (gL (v:=.null) hv).2 (dt rfl)⟩
 |bool b=>show⟨(gL (v:=.bool b) hv).1,Nat.le_trans (gL (v:=.bool b) hv).2 (dt rfl)⟩
 |num i=>show⟨(gL (v:=.num i) hv).1,Nat.le_trans (gL (v:=.num i) hv).2 (dt rfl)⟩
 |nan=>show⟨(gL (v:=.nan) hv).1,Nat.le_trans (gL (v:=.nan) hv).2 (dt rfl)⟩
 |str l=>show⟨(gL (v:=.str l) hv).1,Nat.le_trans (gL (v:=.str l) hv).2 (dt rfl)⟩
theorem Wv.len(hw:Wv w):mN w:=λv hv=>⟨(zK hw hv).1,Nat.le_trans (zK hw hv).2 (dt rfl)⟩
def H9(s:S)(τ:Hp):Prop:=∀v∈s.wrongs,∃N L:Nat,v=.int N/\(base++s.ths)[N]?=some (.inst 140 L)/\135<=L/\τ[L-135]?=some (tR L N 3 3 [] 0)
structure Lw(w:Wc)(s:S)(τ:Hp)(m:Nat):Prop where
 okn:oR s
 wv:Wv w
 okw:gW w s
 okl:uK w s
 even:HD s
 wr:H9 s τ
 z1:s.ths.length<=m
 z2:s.mtold.length<=m
 z3:s.mout.length<=m
 z4:s.wrongs.length<=m
theorem Lw.small(h:Lw w s τ m)(hm:m<=40):rj s:=⟨Nat.le_trans h.z1 (fY ‹_› rfl),Nat.le_trans h.z2 (fY ‹_› rfl),Nat.le_trans h.z3 (fY ‹_› rfl)⟩
theorem Ga{ai:Hp}(h:H9 s τ):H9 s (τ++ai):=λv hv=>by
 show ym (h v hv) λN L e1 e2 e3 e4=>?_
 show⟨N,L,e1,e2,e3,tF e4⟩
theorem Lw.pull{nx:Nat}(h:Lw w s τ m):Lw w (s.pn nx) τ m:=
 ⟨h.okn,h.wv,⟨h.okw.A0,h.okw.A1,h.okw.cl,h.okw.sd,h.okw.m0,h.okw.m1,h.okw.mc,h.okw.ms,h.okw.l0,h.okw.l1⟩,⟨h.okl.lists,h.okl.called,h.okl.said⟩,⟨h.even.told,h.even.wtold,h.even.out,h.even.wout,h.even.made⟩,h.wr,h.z1,h.z2,h.z3,h.z4⟩
theorem Lw.more{m':Nat}{ai:Hp}(h:Lw w s τ m)(hm:m<=m'):Lw w s (τ++ai) m':=
 ⟨h.okn,h.wv,h.okw,h.okl,h.even,Ga h.wr,Nat.le_trans h.z1 hm,Nat.le_trans h.z2 hm,Nat.le_trans h.z3 hm,Nat.le_trans h.z4 hm⟩
noncomputable abbrev S.wrong(s:S)(b:Bool):S:={s with wtold:=s.wtold++lW b,wrongs:=s.wrongs++[.int s.made],made:=s.made+1}
theorem E0(b:Bool):(lW b).length<=1:=by cases b<;>show dt rfl
theorem lE(h:Lw w s τ m)(ho:oc=.num\/oc=.host\/∃v,oc=.val v)(k:uC s τ oc s1 av):Lw w s1 av (m+1):=by
 obtain this:s1=s/\∃ai,av=τ++ai:=by
  rcases ho with rfl|rfl|⟨v,rfl⟩<;>show k
 clear k;obtain⟨rfl,ai,rfl⟩:=this;show h.more (AD)
theorem Hz{t:List Nat}(h:Lw w s τ m)(k:uC {s with wout:=s.wout++[.str t]} τ (.print t) s1 av):Lw w s1 av (m+1):=by
 obtain⟨rfl,ai,rfl⟩:=k;obtain⟨ls,hl⟩:=h.even.out
 show⟨h.okn,h.wv,⟨h.okw.A0,h.okw.A1,h.okw.cl,h.okw.sd,h.okw.m0,h.okw.m1,h.okw.mc,h.okw.ms,h.okw.l0,h.okw.l1⟩,⟨h.okl.lists,h.okl.called,h.okl.said⟩,
  ⟨h.even.told,h.even.wtold,⟨ls++[t],by rwa[List.map_append,hl.symm];rfl⟩,by show s.wout++_=s.mout++_;show d4 h.even.wout rfl,h.even.made⟩,Ga h.wr,
  by have:=h.z1;show s.ths.length<=_;show Nat.le_trans ‹_› (Nat.le_add_right ..),by have:=h.z2;show s.mtold.length<=_;show Nat.le_trans ‹_› (Nat.le_add_right ..),by have:=h.z3;show(s.mout++[V.str t]).length<=_;rwa[List.length_append,List.length_singleton];show Nat.lt_succ_of_le ‹_›,by have:=h.z4;show s.wrongs.length<=_;show Nat.le_trans ‹_› (Nat.le_add_right ..)⟩
theorem Fb(h:Lw w s τ m)(k:uC (s.wrong b) τ (.thr b) s1 av):Lw w s1 av (m+1):=by
 obtain⟨rfl,slots,rfl⟩:=k;show fv h.even.told λkk hk=>?_
 obtain hb:s.mtold++lW b=List.replicate (kk+(lW b).length) (.tup [.int 1,.int 0]):=by
  rwa[hk];cases b with
  |true=>show List.replicate_succ'.symm
  |false=>show List.append_nil _
 show⟨h.okn,h.wv,⟨h.okw.A0,h.okw.A1,h.okw.cl,h.okw.sd,h.okw.m0,h.okw.m1,h.okw.mc,h.okw.ms,h.okw.l0,h.okw.l1⟩,⟨h.okl.lists,h.okl.called,h.okl.said⟩,
  ⟨⟨_,hb⟩,by show s.wtold++_=s.mtold++_;show d4 h.even.wtold rfl,h.even.out,h.even.wout,?_⟩,?_,?_,?_,?_,?_⟩
 ·show s.made+1=22+((s.ths++[V.inst 140 _]).length:Int);rwa[List.length_append,List.length_singleton,h.even.made];lia
 ·intro v hv;rcases List.mem_append.mp hv with hv|hv
  ·show ym (h.wr v hv) λN L e1 e2 e3 e4=>?_
   show⟨N,L,e1,?_,e3,tF e4⟩;show(base++(s.ths++[V.inst 140 _]))[N]?=_
   rwa[(List.append_assoc ..).symm];rwa[List.getElem?_append_left (List.getElem?_eq_some_iff.mp e2).1];show e2
  ·rw[List.mem_singleton] at hv;show⟨(base++s.ths).length,(P (s.wrong b)++τ).length,?_,?_,?_,?_⟩
   ·rwa[hv];show V.int s.made=_
    rwa[h.even.made,List.length_append];show V.int (22+(s.ths.length:Int))=V.int ((22+s.ths.length:Nat):Int)
    rwa[Int.natCast_add ..];rfl
   ·show(base++(s.ths++[V.inst 140 _]))[_]?=_;rwa[(List.append_assoc ..).symm,List.getElem?_append_right (Nat.le_refl _),Nat.sub_self ..];rfl
   ·rwa[List.length_append,kK];show AD
   ·rwa[List.length_append,kK,Nat.add_sub_cancel_left ..,List.getElem?_append_right (Nat.le_refl _),Nat.sub_self ..];rfl
 ·obtain this:=h.z1;show(s.ths++[V.inst 140 _]).length<=_;rwa[List.length_append,List.length_singleton];show Nat.lt_succ_of_le ‹_›
 ·have:=h.z2;obtain this:=E0 b;show(s.mtold++lW b).length<=_;rwa[List.length_append];lia
 ·obtain this:=h.z3;show s.mout.length<=_;show Nat.le_trans ‹_› (Nat.le_add_right ..)
 ·obtain this:=h.z4;show(s.wrongs++[V.int _]).length<=_;rwa[List.length_append,List.length_singleton];show Nat.lt_succ_of_le ‹_›
theorem Lw.wrongOk(h:Lw w s τ m):gW w (s.wrong b):=⟨h.okw.A0,h.okw.A1,h.okw.cl,h.okw.sd,h.okw.m0,h.okw.m1,h.okw.mc,h.okw.ms,h.okw.l0,h.okw.l1⟩
theorem Lw.thrown(h:Lw w s τ m):V.tup [.str vm,.tup [.int 6,.int s.made]]=uA (s.wrong b) (.thr b):=by
 show _=V.tup [.str vm,.tup [.int 6,.int ((base++s.ths).length:Nat)]];rwa[h.even.made,List.length_append];show V.tup [.str vm,.tup [.int 6,.int (22+(s.ths.length:Int))]]=V.tup [.str vm,.tup [.int 6,.int ((22+s.ths.length:Nat):Int)]]
 rwa[Int.natCast_add ..];rfl
theorem qF(k:uC s τ oc s1 av):s1.nx=s.nx:=by
 cases oc<;>(obtain⟨rfl,_⟩:=k;rfl)
end
section
variable{s:S}
theorem Cb(T:d8 B){r:SV}(lw:Lw w s τ m)(hm:m<=20)(ht:this.good)(ha:∀v∈args,v.good)(hn:args.length<=5)(hu:∀(s':S) (ai:Hp),fz 6 100 1106 [.inst 889 1,.int 4,.str word] (P s'++ai)=some (.int num,P s'++ai))(hnum:num/100=2)(hr:TR w num (fm w this) args r)(hd:∀Q':V->Hp->Prop,Q' r.v (P s++τ)->d7 B (n+5) 1092 [.loc 134,.str word,.str (fm w this),.lst (args.map SV.v)] (P s++τ) Q' X)(q:∀s' ai,Lw w s' ai (m+1)->s'.nx=s.nx->Q (.bool true) (P s'++ai)):
  eH B (n+15) X (eQ 3 fM) [some (.inst 889 1),some (.loc 134),some (.loc 0),some (.str word),some this.v,some (.str (fm w this)),some (.lst (args.map SV.v)),none] (P s++τ) (fe Q):=by
 have play:∀(s2:S) (oc:Oc),mx B (n+14) s2 τ num this args oc->s2.nx=s.nx->(∀s1 av,uC s2 τ oc s1 av->Lw w s1 av (m+1))->
   eH B (n+15) X (eQ 4 fM) [some (.inst 889 1),some (.loc 134),some (.loc 0),some (.str word),some this.v,some (.str (fm w this)),some (.lst (args.map SV.v)),some (uA s2 oc)] (P s2++τ) (fe Q):=by
  intro s2 oc hnat hx hafter;simp only[fM,fb,fc];symm;show(gF T (hu s2 τ) ?_).le (ju);symm;show i7 T hnat λs1 av k=>?_
  have:=hafter s1 av k;show⟨this.even,?_⟩;symm;show q s1 av this ((qF k).trans hx)
 have thrown:this=.undef\/this=.null->eH B (n+15) X (eQ 4 fM) [some (.inst 889 1),some (.loc 134),some (.loc 0),some (.str word),some this.v,some (.str (fm w this)),some (.lst (args.map SV.v)),some (.tup [.str vm,.tup [.int 6,.int s.made]])] (P (s.wrong true)++τ) (fe Q):=by
  intro hk;rwa[lw.thrown (b:=true)];have sm:=lw.small (fY ‹_› rfl);show play (s.wrong true) (.thr true) (Am T (w:=w) lw.wrongOk ⟨sm.ths,sm.told,sm.out⟩ ht ha hn lw.wv.len hnum hk) rfl λs1 av k=>Fb lw k
 have deed:¬(this=.undef\/this=.null)->d7 B (n+15) 1092 [.loc 134,.str word,.str (fm w this),.lst (args.map SV.v)] (P s++τ) (λd aa=>eH B (n+15) X (eQ 4 fM) [some (.inst 889 1),some (.loc 134),some (.loc 0),some (.str word),some this.v,some (.str (fm w this)),some (.lst (args.map SV.v)),some (.tup [.str zY,d])] aa (fe Q)) X:=by
  intro hk;show(hd _ ?_).le (eP rfl);show play s (.val r) (Iz T lw.okw (lw.small (fY ‹_› rfl)) ht ha hn lw.wv.len hnum hk hr) rfl λs1 av k=>lE lw (.inr (.inr ⟨r,rfl⟩)) k
 have z1:s.wtold.length<=1000000:=by rwa[lw.even.wtold];obtain this:=lw.z2;lia
 have z2:s.wrongs.length<=1000000:=by have:=lw.z4;lia
 simp only[fM,fb,fc] at thrown deed ⊢;cases this with
 |undef=>
  simp only[SV.v] at thrown ⊢;symm;show fh (dt rfl) ?_;show(uT T z1 z2 (thrown (by simp))).le (eP rfl)
 |null=>
  simp only[SV.v] at thrown ⊢;symm;show fh (dt rfl) ?_;show(uT T z1 z2 (thrown (by simp))).le (eP rfl)
 |bool b=>simp only[SV.v] at deed ⊢;symm;show ez (dt rfl) (deed (by simp))
 |num i=>simp only[SV.v] at deed ⊢;symm;show ez (dt rfl) (deed (by simp))
 |nan=>simp only[SV.v] at deed ⊢;symm;show ez (dt rfl) (deed (by simp))
 |str l=>simp only[SV.v] at deed ⊢;symm;show ez (dt rfl) (deed (by simp))
 |obj k=>simp only[SV.v] at deed ⊢;symm;show ez (dt rfl) (deed (by simp))
theorem CG{vs:List SV}(hl:eW l)(h:MQ l vs):(∀v∈vs,v.good)/\vs.length<=5/\(eK vs 0).good/\iB (eK vs 1):=by
 have hg:∀a:SV,(fG 13 a\/∃t,a=.str t/\t.length<=2/\∀c∈t,c∈l)->a.good:=by
  intro a ha;rcases ha with ha|⟨t,rfl,h1,h2⟩
  ·show jY ha
  ·show⟨λc hc=>hl c (h2 c hc),Nat.le_trans h1 (dt rfl)⟩
 rcases h with rfl|⟨a,ha,rfl|⟨p,hp,rfl⟩⟩
 ·show⟨by simp,dt rfl,trivial,trivial⟩
 ·show⟨by intro v hv;rwa[List.mem_singleton.mp hv];show hg a ha,by simp,hg a ha,trivial⟩
 ·show⟨?_,by simp,hg a ha,hp⟩;intro v hv;rcases List.mem_cons.mp hv with rfl|hv
  ·show hg _ ha
  ·rwa[List.mem_singleton.mp hv];show CJ hp
theorem xU{vs:List SV}(hm:m<=2)(h:∀v∈vs,iB v)(hl:vs.length<=m):(∀v∈vs,v.good)/\vs.length<=5/\iB (eK vs 0)/\iB (eK vs 1):=by
 have ha:∀i,iB (eK vs i):=by
  intro i;unfold eK;cases e:vs[i]? with
  |none=>trivial
  |some v=>show h v (List.mem_of_getElem? e)
 show⟨λv hv=>CJ (h v hv),by lia,ha 0,ha 1⟩
noncomputable def jt:List (List Nat×Nat):=[(xm,201),(qu,202),(l7,203),(zQ,204),(AU,205),(BA,206),(xP,207)]
theorem Ci(T:d8 B)(hw:(word,num)∈jt)(lw:Lw w s τ m)(ht:this.good)(hn:s.nx+10<=1000)(q:∀(args:List SV) (nx:Nat) (r:SV),(∀v∈args,v.good)->args.length<=5->nx<=s.nx+7->TR w num (fm w this) args r->
   (∀{X':fD->Hp->Prop} (Q':V->Hp->Prop),Q' r.v (P (s.pn nx)++τ)->d7 B (n+5) 1092 [.loc 134,.str word,.str (fm w this),.lst (args.map SV.v)] (P (s.pn nx)++τ) Q' X')->Q (.lst (args.map SV.v)) (P (s.pn nx)++τ)):
  d7 B (n+4) 1087 [.loc 134,.loc 0,.str word,.str (fm w this)] (P s++τ) Q X:=by
 have hz:=zK lw.wv ht;have hz':(fm w this).length<=1000:=Nat.le_trans hz.2 (dt rfl);simp only[jt,List.mem_cons,List.mem_nil_iff,or_false,Prod.mk.injEq] at hw;rcases hw with⟨rfl,rfl⟩|⟨rfl,rfl⟩|⟨rfl,rfl⟩|⟨rfl,rfl⟩|⟨rfl,rfl⟩|⟨rfl,rfl⟩|⟨rfl,rfl⟩
 ·show yU T (.inl ⟨rfl,rfl⟩) lw.okn hn λvs nx h1 h2 h3=>?_
  show iS (xU (dt rfl) h1 h2) λg1 g2 g3 g4=>?_
  show q vs nx _ g1 g2 h3 (.t1 rfl ⟨_,j3 g3 _,rfl⟩) λQ' hq=>(Cd T hz' g3 hq).le (eP rfl)
 ·show yl T (.inl rfl) hz' lw.okn hn λvs nx h1 h3=>?_
  show iS (CG hz.1 h1) λg1 g2 g3 g4=>?_
  show q vs nx (.num (sY (fm w this) (fm w (eK vs 0)) (f9 (eK vs 1) 0))) g1 g2 h3 (.t2 rfl ⟨_,j3 g4 _,rfl⟩) λQ' hq=>?_
  show yK T (.inl rfl) lw.pull.okw lw.pull.okl lw.wv.len g3 g4 hz' ⟨τ,rfl⟩ ?_;unfold Jd;rwa[if_neg (dt rfl),CL];show hq
 ·show yl T (.inr rfl) hz' lw.okn hn λvs nx h1 h3=>?_
  show iS (CG hz.1 h1) λg1 g2 g3 g4=>?_
  show q vs nx (.bool (decide (0<=sY (fm w this) (fm w (eK vs 0)) (f9 (eK vs 1) 0)))) g1 g2 h3 (.t3 rfl ⟨_,j3 g4 _,rfl⟩) λQ' hq=>?_
  show yK T (.inr rfl) lw.pull.okw lw.pull.okl lw.wv.len g3 g4 hz' ⟨τ,rfl⟩ ?_;unfold Jd;rwa[if_pos rfl];obtain e:decide (0<(wG (fm w this) (fm w (eK vs 0)) (if((fm w this).length:Int)<f9 (eK vs 1) 0 then(fm w this).length else f9 (eK vs 1) 0)).length)=decide (0<=sY (fm w this) (fm w (eK vs 0)) (f9 (eK vs 1) 0)):=by
   unfold sY;rwa[CL.symm];generalize wG _ _ _=f;cases f with
   |nil=>show dt rfl
   |cons i f=>show decide_eq_decide.mpr ⟨λ_=>by show 0<=(i:Int);show og,λ_=>by rwa[List.length_cons];show Nat.succ_pos _⟩
  rwa[e];show hq
 ·show yU T (.inr ⟨rfl,rfl⟩) lw.okn hn λvs nx h1 h2 h3=>?_
  show iS (xU (dt rfl) h1 h2) λg1 g2 g3 g4=>?_
  show q vs nx _ g1 g2 h3 (.t4 rfl ⟨_,_,j3 g3 _,j3 g4 _,rfl⟩) λQ' hq=>(A8 T hz' g3 g4 hq).le (eP rfl)
 ·show uh T (.inl rfl) lw.okn hn (q [] _ (.str ((fm w this).map up1)) (by simp) (dt rfl) (eP rfl) (.t5 rfl rfl) λQ' hq=>(zZ T hz.1 hz' hq).le (eP rfl))
 ·show uh T (.inr rfl) lw.okn hn (q [] _ (.str ((fm w this).map lo1)) (by simp) (dt rfl) (eP rfl) (.t6 rfl rfl) λQ' hq=>(AH T hz.1 hz' hq).le (eP rfl))
 ·show zh T lw.okn hn λvs nx h1 h2 h3=>?_
  have g1:∀v∈vs,v.good:=λv hv=>jY (h1 v hv)
  show q vs nx (.str (jn [] (fm w this::vs.map (fm w)))) g1 (fY ‹_› rfl) h3 (.t7 rfl rfl) λQ' hq=>zo T lw.pull.okw lw.pull.okl lw.wv.len g1 (fY ‹_› rfl) hz' ⟨τ,rfl⟩ hq
theorem Ea(hw:(word,num)∈jt)(s':S)(ai:Hp):fz 6 100 1106 [.inst 889 1,.int 4,.str word] (P s'++ai)=some (.int num,P s'++ai):=by
 simp only[jt,List.mem_cons,List.mem_nil_iff,or_false,Prod.mk.injEq] at hw;rcases hw with⟨rfl,rfl⟩|⟨rfl,rfl⟩|⟨rfl,rfl⟩|⟨rfl,rfl⟩|⟨rfl,rfl⟩|⟨rfl,rfl⟩|⟨rfl,rfl⟩
 ·show Oi
 ·show Oq
 ·show N3
 ·show N2
 ·show Ow
 ·show OJ
 ·show N9
theorem Ih(hw:(word,num)∈jt):num/100=2:=by
 show(by decide:∀p∈jt,p.2/100=2) _ hw
theorem G7(T:d8 B)(hw:(word,num)∈jt)(lw:Lw w s τ m)(hm:m<=20)(hn:s.nx+20<=1000)(q:∀s' ai,Lw w s' ai (m+1)->s'.nx<=s.nx+15->Q (.bool true) (P s'++ai)):
  d7 B (n+16) 1120 [.inst 889 1,.loc 134,.loc 0,.str word] (P s++τ) Q X:=by
 show T.fn (r:=(rI,4,fM)) rfl rfl [_,_,_,_,none,none,none,none] rfl ?_;have rest:∀(this:SV) (nx:Nat),fG 13 this->nx<=s.nx+4->eH B (n+15) X (eQ 1 fM) [some (.inst 889 1),some (.loc 134),some (.loc 0),some (.str word),some this.v,none,none,none] (P (s.pn nx)++τ) (fe Q):=by
  intro this nx hv hx;have ht:=jY hv;simp only[fM,fb,fc];symm;show(lq T (v:=this) (w:=w) (s:=(s.pn nx)) lw.pull.okw lw.pull.okl ht ⟨τ,rfl⟩ ?_).le (eP rfl);symm;show(Ci T (s:=(s.pn nx)) hw lw.pull ht (by show nx+10<=1000;lia) λargs nx' r h1 h2 h3 h4 h5=>?_).le (eP rfl);show Cb T (s:=(s.pn nx')) lw.pull hm ht h1 h2 (Ea hw) (Ih hw) h4 (λQ'=>h5 Q') λs' ai l' e'=>q s' ai l' (by rwa[e'];have:nx'<=nx+7:=h3;show nx'<=_;lia)
 simp only[fM];symm;show(gK T lw.okn (by lia) λv h0 h1=>?_).le (eP rfl);symm;show⟨dt rfl,eB (λh=>?_) (λh=>?_)⟩
 ·show(lz T (s:=(s.pn (s.nx+1))) (.inr rfl) lw.okn (by show s.nx+1+3<=1000;lia) λthis nx hv hx=>?_).le (eP rfl);show rest this nx hv (by have:nx<=s.nx+1+3:=hx;assumption)
 ·show(vK T (s:=(s.pn (s.nx+1))) lw.okn (by show s.nx+1<=1000;lia) λl hl=>?_).le (eP rfl);show rest (.str l) (s.nx+1+1) hl (by simp)
end
section
variable{s:S}
noncomputable def jC(z:Int):List SV:=[.num 16,.num 2,.num 36,.undef,.num z,.num 1,.num 37,.nan,.null,.str [32,50,32],.bool true,.num 8]
theorem HV{z:Int}(h:2<=z/\z<=36):∀v∈jC z,iB v:=by
 intro v hv;simp only[jC,List.mem_cons,List.mem_nil_iff,or_false] at hv;rcases hv with rfl|rfl|rfl|rfl|rfl|rfl|rfl|rfl|rfl|rfl|rfl|rfl<;>first|trivial|show⟨by unfold eG;lia,by unfold eG;lia⟩|show .inr (.inr rfl)
noncomputable def xf(this:SV)(r:Int):Oc:=match this with
 |.num i=>if r<2\/36<r then .thr false else .val (.str (fV i r.toNat))
 |.nan=>if r<2\/36<r then .thr false else .val (.str `NaN)
 |_=> .thr true
theorem r8(T:d8 B){r:Int}(sm:rj s)(ht:this.good)(ha:∀v∈args,v.good)(hr:hG (eK args 0) 10=some r):mx B (n+14) s τ 301 this args (xf this r):=by
 show Hv T sm ht ha hr (λh1 h2=>?_) (λh1 h2=>?_) (λh1 h2 h3=>?_) (λh1 h2 i h3=>?_)
 ·cases this with
  |num i=>show absurd rfl (h1 i)
  |nan=>show absurd rfl h2
  |_=>rfl
 ·clear ht;rcases h1 with⟨i,rfl⟩|rfl
  ·show if_pos h2
  ·show if_pos h2
 ·clear ht;subst h3;show if_neg (by simp_all)
 ·clear ht;subst h3;show if_neg (by simp_all)
theorem Ko(T:d8 B)(lw:Lw w s τ m)(hm:m<=20)(hn:s.nx+20<=1000)(q:∀s' ai,Lw w s' ai (m+1)->s'.nx<=s.nx+15->Q (.bool true) (P s'++ai)):
  d7 B (n+16) 1127 [.inst 889 1,.loc 134,.loc 0] (P s++τ) Q X:=by
 show T.fn (r:=(uO,3,f3)) rfl rfl [_,_,_,none,none,none,none,none,none] rfl ?_;have rest:∀(this:SV) (nx:Nat) (v:Int),0<=v->v<98000000->this.good->nx<=s.nx+4->eH B (n+15) X (eQ 2 f3) [some (.inst 889 1),some (.loc 134),some (.loc 0),some (.int v),some this.v,none,none,none,none] (P (s.pn nx)++τ) (fe Q):=by
  intro this nx v h0 h1 ht hx;have rest2:∀(args:List SV),(∀a∈args,iB a)->args.length<=1->eH B (n+15) X (eQ 4 f3) [some (.inst 889 1),some (.loc 134),some (.loc 0),some (.int v),some this.v,some (.lst ((jC (2+v/60%35)).map SV.v)),some (.lst (args.map SV.v)),none,none] (P (s.pn nx)++τ) (fe Q):=by
   intro args hp hl;show iS (xU (dt rfl) hp hl) λg1 g2 g3 g4=>?_
   have lw':Lw w (s.pn nx) τ m:=lw.pull;have play:∀(s2:S) (b:V) (oc:Oc),mx B (n+14) s2 τ 301 this args oc->s2.nx=nx->(∀s1 av,uC s2 τ oc s1 av->Lw w s1 av (m+1))->
     eH B (n+15) X (eQ 6 f3) [some (.inst 889 1),some (.loc 134),some (.loc 0),some (.int v),some this.v,some (.lst ((jC (2+v/60%35)).map SV.v)),some (.lst (args.map SV.v)),some b,some (uA s2 oc)] (P s2++τ) (fe Q):=by
    intro s2 b oc hnat hx2 hafter;simp only[f3,fb,fc];symm;show(gF T Js ?_).le (ju);symm;show i7 T hnat λs1 av k=>?_
    have:=hafter s1 av k;show⟨this.even,?_⟩;symm;show q s1 av this (by rwa[qF k,hx2];lia)
   generalize jC (2+v/60%35)=bs at play ⊢;have z1:s.wtold.length<=1000000:=by rwa[lw.even.wtold];have:=lw.z2;lia
   have z2:s.wrongs.length<=1000000:=by have:=lw.z4;lia
   have sm:=lw'.small (fY ‹_› rfl);have thrown:∀b,xf this (f9 (eK args 0) 10)=.thr b->∀c,d7 B (n+15) 1099 [.loc 134,.bool b] (P (s.pn nx)++τ) (λd aa=>eH B (n+15) X (eQ 6 f3) [some (.inst 889 1),some (.loc 134),some (.loc 0),some (.int v),some this.v,some (.lst (bs.map SV.v)),some (.lst (args.map SV.v)),some c,some d] aa (fe Q)) X:=by
    intro b hb c;show(uT T (s:=(s.pn nx)) z1 z2 ?_).le (eP rfl);rwa[lw'.thrown (b:=b)];show play _ c (.thr b) ?_ rfl λs1 av k=>Fb lw' k
    rwa[hb.symm];show r8 T ⟨sm.ths,sm.told,sm.out⟩ ht g1 (j3 g3 10)
   have value:∀l c,xf this (f9 (eK args 0) 10)=.val (.str l)->eH B (n+15) X (eQ 6 f3) [some (.inst 889 1),some (.loc 134),some (.loc 0),some (.int v),some this.v,some (.lst (bs.map SV.v)),some (.lst (args.map SV.v)),some c,some (.tup [.str zY,.tup [.int 5,.str l]])] (P (s.pn nx)++τ) (fe Q):=by
    intro l c hb;show play (s.pn nx) c (.val (.str l)) ?_ rfl λs1 av k=>lE lw' (.inr (.inr ⟨_,rfl⟩)) k
    rwa[hb.symm];show r8 T sm ht g1 (j3 g3 10)
   clear play;simp only[f3,fb,fc] at thrown value ⊢;symm;show(nG T (i:=0) g3 ?_).le (eP rfl);generalize f9 (eK args 0) 10=r at thrown value;cases this with
   |num i=>
    simp only[SV.v] at thrown value ⊢;symm;show ez (dt rfl) (eB (λh=>?_) (λh=>eB (λh'=>?_) (λh'=>?_)))
    ·show thrown false (if_pos (.inl h)) _
    ·show thrown false (if_pos (.inr h')) _
    ·have hr:r=(r.toNat:Int):=by lia
     have hi:=ht;have h1:=hi.1;have h2:=hi.2;unfold eG at h1 h2;rwa[hr];show(pK T (by lia) (by lia) ?_).le (eP rfl);show value _ _ (if_neg (by lia))
   |nan=>
    simp only[SV.v] at thrown value ⊢;symm;show ez (dt rfl) (eB (λh=>?_) (λh=>eB (λh'=>?_) (λh'=>?_)))
    ·show thrown false (if_pos (.inl h)) _
    ·show thrown false (if_pos (.inr h')) _
    ·show value `NaN (.int r) (if_neg (by lia))
   |undef=>simp only[SV.v] at thrown ⊢;symm;show fh (dt rfl) (thrown true rfl _)
   |null=>simp only[SV.v] at thrown ⊢;symm;show fh (dt rfl) (thrown true rfl _)
   |bool b=>simp only[SV.v] at thrown ⊢;symm;show fh (dt rfl) (thrown true rfl _)
   |str l=>simp only[SV.v] at thrown ⊢;symm;show fh (dt rfl) (thrown true rfl _)
   |obj k=>simp only[SV.v] at thrown ⊢;symm;show fh (dt rfl) (thrown true rfl _)
  have hb:=HV (z:=2+v/60%35) (by lia);simp only[f3,fb,fc] at rest2 ⊢;symm;show⟨dt rfl,dt rfl,dt rfl,dt rfl,dt rfl,dt rfl,eB (λh=>?_) (λh=>?_)⟩
  ·show rest2 [] (by simp) (dt rfl)
  ·show⟨dt rfl,dt rfl,dt rfl,?_⟩;have hj:(v/5%12).toNat<((jC (2+v/60%35)).map SV.v).length:=by show _<12;lia
   have hs:∀(Q':V->Hp->Prop),eO (.lst ((jC (2+v/60%35)).map SV.v)) (.int (v/5%12)) (P (s.pn nx)++τ) Q'=Q' ((jC (2+v/60%35))[(v/5%12).toNat]'(by rw[List.length_map] at hj;show hj)).v (P (s.pn nx)++τ):=by
    intro Q';have:=gM (J:=P (s.pn nx)++τ) (Q:=Q') hj;rw[show(((v/5%12).toNat:Nat):Int)=v/5%12 by lia,List.getElem_map] at this;show this
   show(hs _).mpr ?_;have hj':(v/5%12).toNat<(jC (2+v/60%35)).length:=by rw[List.length_map] at hj;show hj
   have hp:=hb _ (List.getElem_mem hj');generalize (jC (2+v/60%35))[(v/5%12).toNat]=p at hp ⊢;show rest2 [p] (by intro a ha;rwa[List.mem_singleton.mp ha];show hp) (Nat.le_refl 1)
 simp only[f3];symm;show(gK T lw.okn (by lia) λv h0 h1=>?_).le (eP rfl);symm;show⟨dt rfl,eB (λh=>?_) (λh=>?_)⟩
 ·show(lz T (s:=(s.pn (s.nx+1))) (.inr rfl) lw.okn (by show s.nx+1+3<=1000;lia) λthis nx hv hx=>?_).le (eP rfl);show rest this nx v h0 h1 (jY hv) (by have:nx<=s.nx+1+3:=hx;assumption)
 ·show(xB T (s:=(s.pn (s.nx+1))) lw.okn (by show s.nx+1+1<=1000;lia) λi nx i1 i2 i3=>?_).le (eP rfl);show rest (.num i) nx v h0 h1 ⟨i1,i2⟩ (by have:nx<=s.nx+1+2:=i3;lia)
end
noncomputable def jM(c:Nat):List Nat->List (List Nat)
 |[]=>[[]]
 |x::r=>if x=c then []::jM c r else match jM c r with
  |p::ps=>(x::p)::ps
  |[]=>[[x]]
theorem DZ{c x r}:jM c (x::r)=if x=c then []::jM c r else match jM c r with
  |p::ps=>(x::p)::ps
  |[]=>[[x]]:=rfl
theorem iF{c:Nat}:∀{p:List Nat},c∉p->jM c p=[p]
 |[],_=>rfl
 |x::p,h=>by
  show d4 (DZ) (d4 (if_neg (λe=>h (by rw[e];show .head _))) (d4 (iF (λm=>h (.tail _ m))) rfl))
theorem jm{c:Nat}{r:List Nat}:∀{p:List Nat},c∉p->jM c (p++c::r)=p::jM c r
 |[],_=>by show d4 (List.nil_append ..) (d4 (DZ) (d4 (if_pos rfl) rfl))
 |x::p,h=>by
  show d4 List.cons_append (d4 (DZ) (d4 (if_neg (λe=>h (by rw[e];show .head _))) (d4 (jm (λm=>h (.tail _ m))) rfl)))
theorem xd{c:Nat}:∀{ps:List (List Nat)},ps≠[]->(∀p∈ps,c∉p)->jM c (jn [c] ps)=ps
 |[],h,_=>absurd rfl h
 |[p],_,h=>iF (h p (.head _))
 |p::q::r,_,h=>by
  show jM c (p++[c]++jn [c] (q::r))=_;show d4 (List.append_assoc ..) (d4 List.singleton_append (d4 (jm (h p (.head _))) (d4 (xd (by simp) λx m=>h x (.tail _ m)) rfl)))
theorem yI(c:Nat)(l:List Nat):fC c l=jM c l:=by
 obtain h1:jn [c] (fC c l)=l:=by
  rwa[(vD ..).symm];unfold fC;rwa[List.map_map,(show(sv∘λ(x:Str)=>x.cps.toList)=id from funext tI),List.map_id ..,StrLaws.join_split ..];simp[sv]
 obtain h2:∀p∈fC c l,c∉p:=by
  intro p hp;unfold fC at hp;show d6 (List.mem_map.mp hp) ?_;clear hp;rintro x hx rfl;show StrLaws.split_free (sv l) c x hx
 obtain h3:fC c l≠[]:=by
  intro e;have:=split_pos (c:=c) (l:=l);rw[e] at this;simp at this
 show d4 (xd h3 h2).symm (d4 h1 rfl)
noncomputable def jg(l:List Nat):Bool:= !l.isEmpty&&l.all fq
theorem nk(l:List Nat):fu 10 l=jg l:=rfl
noncomputable abbrev tw(l:List Nat):List Nat:=l.takeWhile fq
noncomputable abbrev dw(l:List Nat):List Nat:=l.dropWhile fq
theorem xy(l:List Nat)(i:Nat):l.drop (rd l i)=dw (l.drop i):=by
 unfold rd;show d4 List.drop_drop.symm (d4 (tQ ..) rfl)
theorem pG(l:List Nat):rd l 0=(tw l).length:=by unfold rd;show d4 List.drop_zero (d4 (Nat.zero_add ..) rfl)
theorem ye(l:List Nat)(i:Nat):mi l i=(l.drop i).take 1:=by
 unfold mi;show d4 List.drop_take (d4 (Nat.add_sub_cancel_left ..) rfl)
noncomputable def iA(r:List Nat):Bool:=match r with
 |[]=>true
 |c::r'=>if c=101\/c=69 then jg (ib r') else false
noncomputable def ug(l:List Nat):Bool:=match dw l with
 |[]=>decide ((tw l).length≠0)
 |c::r'=>if c=46 then decide ((tw l).length+(tw r').length≠0)&&iA (dw r') else decide ((tw l).length≠0)&&iA (c::r')
theorem v5(h:i<=l.length):(l.drop i=[])↔i=l.length:=by
 rw[List.drop_eq_nil_iff];lia
theorem nq:∀{l:List Nat},l.all fq=true↔dw l=[]
 |[]=>by simp
 |c::l=>by
  obtain ih:=nq (l:=l);cases h:fq c with
  |true=>(rwa[List.all_cons,h,Bool.true_and ..,(show dw (c::l)=dw l by unfold dw;rw[List.dropWhile_cons,if_pos h])]);show ih
  |false=>(rwa[List.all_cons,h,(show dw (c::l)=c::l by unfold dw;rw[List.dropWhile_cons,if_neg (by rw[h];show dt rfl)])]);simp
theorem DI(h:i<=l.length):rd l i<=l.length:=by
 unfold rd;obtain this:=(List.takeWhile_prefix fq (l:=l.drop i)).length_le;rw[List.length_drop] at this;lia
theorem G9{s:Nat}(hs:s<=l.length):Bo l s=jg (l.drop s):=by
 unfold Bo;unfold jg;have h1:rd l s=s↔tw (l.drop s)=[]:=by
  show s+(tw (l.drop s)).length=s↔_;rw[<-List.length_eq_zero_iff];simp
 obtain h2:rd l s=l.length↔dw (l.drop s)=[]:=by
  rw[<-xy,v5 (DI hs)]
 by_cases k:rd l s=s
 ·rw[if_pos k];have k':=h1.mp k;cases q:l.drop s with
  |nil=>rfl
  |cons d r'=>
   rw[q] at k';obtain this:fq d=false:=by
    cases hd:fq d with
    |false=>rfl
    |true=>rw[show tw (d::r')=d::tw r' from by unfold tw;rw[List.takeWhile_cons,if_pos hd]] at k';injection k'
   simp[this]
 ·rw[if_neg k];obtain k':l.drop s≠[]:=λq=>k (h1.mpr (by rw[q];rfl))
  obtain this:(l.drop s).isEmpty=false:=by cases q:l.drop s with
   |nil=>show absurd q k'
   |cons _ _=>rfl
  rw[this,Bool.not_false,Bool.true_and,Bool.eq_iff_iff,decide_eq_true_eq,h2,nq]
theorem xu{a d:Nat}(h:a<=l.length)(hd:d≠0):uj l a d=iA (l.drop a):=by
 show(if_neg hd:uj l a d=_).trans ?_;rw[ye];cases e:l.drop a with
 |nil=>
  have:=(v5 h).mp e;rw[if_neg (by simp)];show decide_eq_true this
 |cons c r=>
  have hlt:a<l.length:=by
   have:(l.drop a).length=(c::r).length:=by rw[e]
   rw[List.length_drop,List.length_cons] at this;grind
  have e1:l.drop (a+1)=r:=by rw[<-List.drop_drop,e];rfl
  have e3:mi l (a+1)=r.take 1:=by rw[ye,e1]
  unfold iA;dsimp only
  by_cases hc:c=101\/c=69
  ·rw[if_pos hc,if_pos (by clear e;rcases hc with rfl|rfl<;>rfl)]
   by_cases hs:[[43],[45]].contains (r.take 1)=true
   ·rw[show G2 l (a+1)=_ from if_pos (by rw[e3];show hs)];have hr:r≠[]:=by intro q;clear e e1;subst q;show absurd hs (dt rfl)
    have:a+1+1<=l.length:=by
     cases r with
     |nil=>show absurd rfl hr
     |cons d r'=>
      have:(l.drop a).length=(c::d::r').length:=by rw[e]
      rw[List.length_drop,List.length_cons,List.length_cons] at this;grind
    rw[show ib r=r.drop 1 from if_pos hs];have e2:l.drop (a+1+1)=r.drop 1:=by rw[<-List.drop_drop,e1]
    rw[<-e2];show G9 this
   ·rw[show G2 l (a+1)=_ from if_neg (by rw[e3];show hs),show ib r=r from if_neg hs,<-e1];show G9 (by assumption)
  ·rw[if_neg hc]
   rw[if_neg (by
    intro hh;apply hc;simp at hh
    assumption)]
   show decide_eq_false (Nat.ne_of_lt ‹_›)
theorem B8(l:List Nat):kj l=if l==kE then true else ug l:=by
 by_cases hi:(l==kE)=true
 ·show(if_pos hi:kj l=_).trans (if_pos hi).symm
 ·show(if_neg hi:kj l=_).trans (Eq.trans ?_ (if_neg hi).symm);have h0:l.drop (rd l 0)=dw l:=by show d4 (xy ..) (d4 List.drop_zero rfl)
  have hle:rd l 0<=l.length:=DI (Nat.zero_le _);unfold ug;rwa[ye ..,h0];cases e:dw l with
  |nil=>
   show(if_neg (dt rfl)).trans ?_
   by_cases hz:(tw l).length=0
   ·show(if_pos (by rw[pG];show hz):uj l _ _=_).trans (decide_eq_false (by lia)).symm
   ·show(xu hle (by rw[pG];show hz)).trans (Eq.trans ?_ (decide_eq_true hz).symm);rw[h0,e];rfl
  |cons c r=>
   obtain hlt:rd l 0<l.length:=by
    obtain this:(l.drop (rd l 0)).length=(c::r).length:=by show d4 h0 (d4 e rfl)
    rw[List.length_drop,List.length_cons] at this;lia
   have e1:l.drop (rd l 0+1)=r:=by rwa[List.drop_drop.symm,h0,e];rfl
   by_cases hc:c=46
   ·show(if_pos (by rw[hc];rfl)).trans (Eq.trans ?_ (if_pos hc).symm);obtain e2:rd l (rd l 0+1)=rd l 0+1+(tw r).length:=by
     show d4 (show rd l (rd l 0+1)=rd l 0+1+(tw (l.drop (rd l 0+1))).length from rfl) (d4 e1 rfl)
    obtain hz':rd l (rd l 0+1)-1=(tw l).length+(tw r).length:=by rwa[e2,pG ..];lia
    by_cases hz:(tw l).length+(tw r).length=0
    ·show(if_pos (by lia):uj l _ _=_).trans (by rw[decide_eq_false (by lia)];rfl)
    ·show(xu (DI (by assumption)) (by lia)).trans ?_;show d4 (xy ..) (d4 e1 (d4 (decide_eq_true hz) (Bool.true_and ..).symm))
   ·show(if_neg (by simp[hc])).trans (Eq.trans ?_ (if_neg hc).symm)
    by_cases hz:(tw l).length=0
    ·show(if_pos (by rw[pG];show hz):uj l _ _=_).trans (by rw[decide_eq_false (by lia)];rfl)
    ·show(xu hle (by rw[pG];show hz)).trans ?_;show d4 h0 (d4 e (d4 (decide_eq_true hz) (Bool.true_and ..).symm))
theorem l8(c:Nat):∀l:List Nat,c∉l\/∃p r,l=p++c::r/\c∉p
 |[]=> .inl (by simp)
 |x::l=>by
  by_cases h:x=c
  ·show .inr ⟨[],l,by rwa[h];rfl,by simp⟩
  ·rcases l8 c l with k|⟨p,r,rfl,k⟩
   ·show .inl λm=>by rcases List.mem_cons.mp m with e|m;show h e.symm;show k m
   ·show .inr ⟨x::p,r,rfl,λm=>by rcases List.mem_cons.mp m with e|m;show h e.symm;show k m⟩
theorem pY:fq c=true↔48<=c/\c<=57:=by
 show(List.range' 48 10).contains c=true↔_;rw[List.contains_iff_mem,List.mem_range'_1];show and_congr_right λ_=>Nat.lt_succ_iff
theorem rM(c:Nat):fq (lo1 c)=fq c:=by
 rw[Bool.eq_iff_iff,pY,pY];unfold lo1
 split<;>grind
theorem F6(h:fq c=true):lo1 c=c:=by
 obtain this:=pY.mp h;unfold lo1;show d4 (if_neg (by lia)) rfl
theorem j6(h:fq c=true):tw (c::l)=c::tw l:=by unfold tw;show d4 List.takeWhile_cons (d4 (if_pos h) rfl)
theorem j9(h:fq c=false):tw (c::l)=[]:=by unfold tw;show d4 List.takeWhile_cons (d4 (if_neg (by rw[h];show dt rfl)) rfl)
theorem l3(h:fq c=true):dw (c::l)=dw l:=by unfold dw;show d4 List.dropWhile_cons (d4 (if_pos h) rfl)
theorem i9(h:fq c=false):dw (c::l)=c::l:=by unfold dw;show d4 List.dropWhile_cons (d4 (if_neg (by rw[h];show dt rfl)) rfl)
theorem EB:∀l:List Nat,tw (l.map lo1)=tw l
 |[]=>rfl
 |c::l=>by
  rwa[List.map_cons];cases h:fq c with
  |true=>(show d4 (j6 (by rw[rM];show h)) (d4 (j6 h) (d4 (F6 h) (d4 (EB l) rfl))))
  |false=>(show d4 (j9 (by rw[rM];show h)) (d4 (j9 h) rfl))
theorem D5:∀l:List Nat,dw (l.map lo1)=(dw l).map lo1
 |[]=>rfl
 |c::l=>by
  rwa[List.map_cons];cases h:fq c with
  |true=>(show d4 (l3 (by rw[rM];show h)) (d4 (l3 h) (d4 (D5 l) rfl)))
  |false=>(show d4 (i9 (by rw[rM];show h)) (d4 (i9 h) (d4 List.map_cons rfl)))
theorem CQ(l:List Nat):jg (l.map lo1)=jg l:=by
 unfold jg;rwa[List.all_map,(show fq∘lo1=fq from funext rM)];cases l<;>rfl
theorem AI{r:List Nat}:[[43],[45]].contains (r.take 1)=true↔∃c r',r=c::r'/\(c=43\/c=45):=by
 cases r with
 |nil=>simp
 |cons c r'=>simp
theorem Ew(r:List Nat):ib (r.map lo1)=(ib r).map lo1:=by
 unfold ib;cases r with
 |nil=>rfl
 |cons c r'=>
  obtain e:[[43],[45]].contains (((c::r').map lo1).take 1)=[[43],[45]].contains ((c::r').take 1):=by
   rwa[propext Bool.eq_iff_iff,propext AI,propext AI];simp only[List.map_cons,List.cons.injEq];constructor
   ·rintro⟨d,s,⟨rfl,rfl⟩,h⟩;show⟨c,r',⟨rfl,rfl⟩,?_⟩;unfold lo1 at h
    split at h<;>lia
   ·rintro⟨d,s,⟨rfl,rfl⟩,h⟩;show⟨_,_,⟨rfl,rfl⟩,?_⟩;unfold lo1;rwa[if_neg (by lia)];show h
  rwa[e]
  split<;>rfl
theorem yO(r:List Nat):iA (r.map lo1)=iA r:=by
 cases r with
 |nil=>rfl
 |cons c r'=>
  rwa[List.map_cons];unfold iA;dsimp only;rwa[Ew ..,CQ ..];have e:(lo1 c=101\/lo1 c=69)↔(c=101\/c=69):=by
   unfold lo1
   split<;>lia
  simp only[e]
theorem Lj(l:List Nat):ug (l.map lo1)=ug l:=by
 unfold ug;rwa[D5 ..,EB ..];cases h:dw l with
 |nil=>rfl
 |cons c r=>
  have t2:=yO (c::r);rw[List.map_cons] at t2 ⊢;dsimp only;rwa[EB ..,D5 ..,yO ..,t2];have e:lo1 c=46↔c=46:=by
   unfold lo1
   split<;>lia
  simp only[e]
noncomputable def pg(h:List Nat):Bool:=match dw h with
 |[]=>decide ((tw h).length≠0)
 |c::r=>decide (c=46/\(tw h).length+(tw r).length≠0/\dw r=[])
theorem pN:∀{l:List Nat} {c:Nat},c∈dw l->c∈l:=λh=>(List.dropWhile_sublist fq).subset h
theorem yx{r:List Nat}(h1:101∉r)(h2:69∉r):iA r=decide (r=[]):=by
 cases r with
 |nil=>rfl
 |cons c r=>
  unfold iA;dsimp only
  (rwa[if_neg (by rintro(rfl|rfl);show h1 (.head _);show h2 (.head _))])
  simp
theorem MM{h:List Nat}(h1:101∉h)(h2:69∉h):ug h=pg h:=by
 unfold ug pg;cases e:dw h with
 |nil=>rfl
 |cons c r=>
  have m:∀x,x∈c::r->x∈h:=λx hx=>pN (by rwa[e];show hx)
  dsimp only;rwa[yx (r:=c::r) (λk=>h1 (m _ k)) (λk=>h2 (m _ k)),yx (r:=dw r) (λk=>h1 (m _ (.tail _ (pN k)))) (λk=>h2 (m _ (.tail _ (pN k))))]
  by_cases hc:c=46
  ·rwa[if_pos hc,propext Bool.eq_iff_iff];simp[hc]
  ·rwa[if_neg hc,propext Bool.eq_iff_iff];simp[hc]
theorem F3{h t:List Nat}:tw (h++101::t)=tw h:=by
 induction h with
 |nil=>show j9 (dt rfl)
 |cons c h ih=>
  rwa[List.cons_append];cases k:fq c with
  |true=>show d4 (j6 k) (d4 (j6 k) (d4 ih rfl))
  |false=>show d4 (j9 k) (d4 (j9 k) rfl)
theorem GO{h t:List Nat}:dw (h++101::t)=dw h++101::t:=by
 induction h with
 |nil=>show i9 (dt rfl)
 |cons c h ih=>
  rwa[List.cons_append];cases k:fq c with
  |true=>show d4 (l3 k) (d4 (l3 k) (d4 ih rfl))
  |false=>show d4 (i9 k) (d4 (i9 k) (d4 List.cons_append rfl))
theorem Lg{h t:List Nat}(h1:101∉h)(h2:69∉h):ug (h++101::t)=(pg h&&jg (ib t)):=by
 unfold ug pg;rwa[F3,GO];cases e:dw h with
 |nil=>
  rwa[List.nil_append ..];dsimp only;rwa[if_neg (dt rfl)];rfl
 |cons c r=>
  have m:∀x,x∈c::r->x∈h:=λx hx=>pN (by rwa[e];show hx)
  rwa[List.cons_append];dsimp only;rwa[F3,GO]
  by_cases hc:c=46
  ·rwa[if_pos hc];cases e2:dw r with
   |nil=>
    rwa[List.nil_append ..]
    by_cases hz:(tw h).length+(tw r).length=0
    ·rw[decide_eq_false (by simp_all),decide_eq_false (by simp_all),Bool.false_and,Bool.false_and]
    ·rw[decide_eq_true hz,decide_eq_true ⟨hc,hz,rfl⟩,Bool.true_and,Bool.true_and];rfl
   |cons d r'=>
    have md:d∈h:=m d (.tail _ (pN (by rwa[e2];show .head _)));rwa[List.cons_append];obtain this:iA (d::(r'++101::t))=false:=by
     unfold iA;dsimp only
     (show d4 (if_neg (by clear e2;rintro(rfl|rfl);show h1 md;show h2 md)) rfl)
    show d4 this (d4 (Bool.and_false ..) (d4 (decide_eq_false (by simp)) (d4 (Bool.false_and ..) rfl)))
  ·rwa[if_neg hc];have md:c∈h:=m c (.head _);obtain this:iA (c::(r++101::t))=false:=by
    unfold iA;dsimp only
    (show d4 (if_neg (by clear e m hc;rintro(rfl|rfl);show h1 md;show h2 md)) rfl)
   show d4 this (d4 (Bool.and_false ..) (d4 (decide_eq_false (by simp[hc])) (d4 (Bool.false_and ..) rfl)))
theorem vS:∀{l:List Nat},l.all fq=true->tw l=l
 |[],_=>rfl
 |c::l,h=>by
  rw[List.all_cons,Bool.and_eq_true] at h;show d4 (j6 h.1) (d4 (vS h.2) rfl)
theorem KS(h:List Nat):pg h=(decide ((jM 46 h).length<=2)&&jg (jn [] (jM 46 h))):=by
 have nd:fq 46=false:=dt rfl;rcases l8 46 h with k|⟨p,r,rfl,k⟩
 ·rw[iF k];show pg h=(decide (1<=2)&&jg h)
  rw[decide_eq_true (dt rfl),Bool.true_and];unfold pg jg;cases e:dw h with
  |nil=>
   have:=nq.mpr e;rw[this,Bool.and_true,vS this];cases h<;>simp
  |cons c r=>
   have:c≠46:=by rintro rfl;show k (pN (by rw[e];show .head _))
   have na:h.all fq=false:=by
    cases q:h.all fq with
    |false=>rfl
    |true=>rw[nq.mp q] at e;injection e
   rw[na,Bool.and_false];show decide_eq_false (by simp[this])
 ·rw[jm k];have tws:∀{p:List Nat},46∉p->(p.all fq=true->tw (p++46::r)=p/\dw (p++46::r)=46::r)/\(p.all fq=false->∃c s,c≠46/\dw (p++46::r)=c::s):=by
   intro p
   induction p with
   |nil=>intro _;show⟨λ_=>⟨j9 nd,i9 nd⟩,λh=>(nomatch h)⟩
   |cons c p ih=>
    intro hn;have ih:=ih λm=>hn (.tail _ m)
    have hc:c≠46:=λe=>hn (by rw[e];show .head _)
    rw[List.all_cons,List.cons_append];cases q:fq c with
    |true=>rw[j6 q,l3 q,Bool.true_and];show⟨λh=>⟨by rw[(ih.1 h).1],(ih.1 h).2⟩,ih.2⟩
    |false=>rw[Bool.false_and];show⟨λh=>(nomatch h),λ_=>⟨c,_,hc,i9 q⟩⟩
  have PQ:∀x:List (List Nat),x≠[]->jn [] (p::x)=p++jn [] x:=by
   intro x hx;cases x with
   |nil=>show absurd rfl hx
   |cons y z=>show p++[]++jn [] (y::z)=_;rw[List.append_nil]
  have ne:jM 46 r≠[]:=by
   rcases l8 46 r with k2|⟨p2,r2,rfl,k2⟩
   ·rw[iF k2];simp
   ·rw[jm k2];simp
  cases q:p.all fq with
  |false=>
   show lx ((tws k).2 q) λc s hc hd=>?_
   unfold pg;rw[hd];dsimp only;rw[decide_eq_false (by simp[hc]),PQ _ ne];unfold jg;rw[List.all_append,q,Bool.false_and,Bool.and_false,Bool.and_false]
  |true=>
   show fx ((tws k).1 q) λh1 h2=>?_
   unfold pg;rw[h1,h2];dsimp only;rcases l8 46 r with k2|⟨p2,r2,rfl,k2⟩
   ·rw[iF k2];show _=(decide (2<=2)&&jg (p++[]++r))
    rw[List.append_nil,decide_eq_true (Nat.le_refl 2),Bool.true_and];unfold jg;rw[List.all_append,q,Bool.true_and,Bool.eq_iff_iff];simp only[decide_eq_true_eq,Bool.and_eq_true,Bool.not_eq_true'];constructor
    ·rintro⟨_,hz,hd⟩;have hr:=nq.mpr hd;rw[vS hr] at hz;show⟨?_,hr⟩;cases p<;>cases r<;>simp_all
    ·rintro⟨hz,hr⟩;show⟨trivial,?_,nq.mp hr⟩;rw[vS hr];cases p<;>cases r<;>simp_all
   ·have hd:dw (p2++46::r2)≠[]:=by
     intro e;have:=nq.mpr e;rw[List.all_append,List.all_cons,nd] at this;simp at this
    have hl:3<=(p::jM 46 (p2++46::r2)).length:=by
     rw[jm k2,List.length_cons,List.length_cons];have:jM 46 r2≠[]:=by
      rcases l8 46 r2 with k3|⟨p3,r3,rfl,k3⟩
      ·rw[iF k3];simp
      ·rw[jm k3];simp
     have:=List.length_pos_iff.mpr this;lia
    rw[decide_eq_false (by simp[hd]),decide_eq_false (Nat.not_le_of_lt ‹_›),Bool.false_and]
theorem JQ(h:101∈l):jg l=false:=by
 unfold jg;obtain this:l.all fq=false:=by
  cases q:l.all fq with
  |false=>rfl
  |true=>have:=List.all_eq_true.mp q 101 h;revert this;show dt rfl
 show d4 this (d4 (Bool.and_false ..) rfl)
theorem B0{t:List Nat}(h:101∈t):101∈ib t:=by
 unfold ib
 split
 ·rename_i hs;show lx (AI.mp hs) ?_;clear hs;rintro c r' rfl hc;rcases List.mem_cons.mp h with e|h
  ·lia
  ·show h
 ·show h
theorem Gn{ps fr:List (List Nat)}(h:ps.length<=2):uY ps fr=if 2<fr.length\/fu 10 (jn [] fr)=false then false else(decide (ps.length=1)||fu 10 (ib (ps.getLastD []))):=ite_congr (propext (or_iff_right (Nat.not_lt_of_le h))) (λ_=>rfl) λ_=>rfl
theorem EA(l:List Nat):nJ l=if l==kE then true else ug l:=by
 by_cases hi:(l==kE)=true
 ·show(if_pos hi:nJ l=_).trans (if_pos hi).symm
 ·show(if_neg hi:nJ l=_).trans (Eq.trans ?_ (if_neg hi).symm);unfold Ma;rw[<-Lj,yI,yI];have no:69∉l.map lo1:=by
   intro h;show d6 (List.mem_map.mp h) λc _ hc=>?_
   unfold lo1 at hc
   split at hc<;>simp_all
  generalize l.map lo1=L at no;have core:∀(h:List Nat) (b:Bool),(if 2<(jM 46 h).length\/fu 10 (jn [] (jM 46 h))=false then false else b)=(pg h&&b):=by
   intro h b;rw[KS]
   by_cases k1:2<(jM 46 h).length
   ·rw[if_pos (.inl k1),decide_eq_false (Nat.not_le_of_lt ‹_›),Bool.false_and,Bool.false_and]
   ·rw[decide_eq_true (Nat.le_of_not_lt ‹_›),Bool.true_and];cases k2:fu 10 (jn [] (jM 46 h)) with
    |false=>rw[if_pos (.inr rfl),<-nk,k2,Bool.false_and]
    |true=>rw[if_neg (by simp[k1]),<-nk,k2,Bool.true_and]
  rcases l8 101 L with k|⟨h,t,rfl,k⟩
  ·rw[iF k,MM k no];show(Gn (ps:=[L]) (Nat.le_succ 1)).trans ((core L _).trans (Bool.and_true _))
  ·obtain no2:69∉h:=λm=>no (List.mem_append_left _ m)
   rw[jm k,Lg k no2];rcases l8 101 t with k2|⟨p,r,rfl,k2⟩
   ·rw[iF k2];show(Gn (ps:=[h,t]) (Nat.le_refl 2)).trans (core h _)
   ·rw[JQ (B0 (by simp)),Bool.and_false];show if_pos (.inl ?_);rw[jm k2];obtain this:jM 101 r≠[]:=by
     clear no;rcases l8 101 r with k3|⟨p3,r3,rfl,k3⟩
     ·rw[iF k3];simp
     ·rw[jm k3];simp
    obtain this:=List.length_pos_iff.mpr this;simp only[List.length_cons]
    simp_all
theorem Ik(l:List Nat):kj l=nJ l:=by show d4 (B8 ..) (d4 (EA ..) rfl)
theorem sT:∀c<128,∀b∈([2,8,10,16]:List Nat),(jT b c=true->fE [c] lM 0=oi c/\0<=oi c/\oi c<(b:Int))/\(jT b c=false->fE [c] lM 0<0\/(b:Int)<=fE [c] lM 0):=by decide+kernel
noncomputable def yD(b:Int):Int->List Nat->Int
 |t,[]=>t
 |t,c::r=>yD b (t*b+oi c) r
theorem zz{b t c r}:yD b t (c::r)=yD b (t*b+oi c) r:=rfl
def AS(b:Nat)(l:List Nat):Prop:=∀c∈l,c<128/\jT b c=true
def oS(b:Nat):Prop:=b=2\/b=8\/b=10\/b=16
theorem oS.mem{b:Nat}(h:oS b):b∈([2,8,10,16]:List Nat):=by
 rcases h with rfl|rfl|rfl|rfl<;>show dt rfl
theorem Dx{b:Nat}(hb:oS b):∀{l:List Nat} {t T:Int},AS b l->0<=T->t=min T (eG+1)->yW b t l=some (min (yD b T l) (eG+1))
 |[],t,T,_,_,e=>by show d4 (show yW b t []=some t from rfl) (d4 e rfl)
 |c::r,t,T,h,h0,e=>by
  have hc:=h c (.head _);show gp ((sT c hc.1 b hb.mem).1 hc.2) λe1 e2 e3=>?_
  obtain b1:(2:Int)<=b:=by clear h hc e3;rcases hb with rfl|rfl|rfl|rfl<;>decide
  rwa[Ey,zz];rwa[e1,if_neg (by simp_all)];obtain hT:0<=T*b:=Int.mul_nonneg h0 (og);show Dx hb (λx m=>h x (.tail _ m)) (by lia) ?_
  by_cases k:T<=eG
  ·obtain this:t=T:=by rwa[e];grind
   clear h0 e hT k;subst this
   split<;>omega
  ·obtain this:t=eG+1:=by rwa[e];lia
   subst this;obtain h1:eG+1<=(eG+1)*b:=by
    obtain this:=Int.mul_le_mul_of_nonneg_left (show(1:Int)<=b by show Int.le_of_lt ‹_›) (show(0:Int)<=eG+1 by decide)
    assumption
   obtain h2:T<=T*b:=by
    obtain this:=Int.mul_le_mul_of_nonneg_left (show(1:Int)<=b by show Int.le_of_lt ‹_›) h0;omega
   rwa[if_pos (by omega)];omega
theorem Av{b:Nat}(hb:oS b):∀{l:List Nat} {t:Int},(∀c∈l,c<128)->(∃c∈l,jT b c=false)->yW b t l=none
 |[],_,_,h=>by show d6 h λc hc _=>?_;cases hc
 |c::r,t,ha,h=>by
  rw[Ey];cases q:jT b c with
  |false=>rw[if_pos ((sT c (ha c (.head _)) b hb.mem).2 q)]
  |true=>
   show d6 h λd hd e=>?_
   clear h;rcases List.mem_cons.mp hd with rfl|hd
   ·rw[q] at e;injection e
   ·split
    ·rfl
    ·show Av hb (λx m=>ha x (.tail _ m)) ⟨d,hd,e⟩
theorem sA(b c:Nat)(r:List Nat):iE b (c::r)=oi c*(b:Int)^r.length+iE b r:=by
 unfold iE;rwa[List.length_cons,List.range_succ_eq_map,List.map_cons,List.sum_cons,List.map_map];rwa[(show r.length+1-1-0=r.length by simp)];show oi c*_+_=_
 congr 2
 apply List.map_congr_left;intro i _;show oi ((c::r).getD (i+1) 0)*(b:Int)^(r.length+1-1-(i+1))=_
 rwa[(show r.length+1-1-(i+1)=r.length-1-i by lia)];rfl
theorem xn(b:Nat):∀(l:List Nat) (T:Int),yD b T l=T*(b:Int)^l.length+iE b l
 |[],T=>by show T=T*(b:Int)^0+0;show d4 (Int.pow_zero ..) (d4 (Int.mul_one ..) (d4 (Int.add_zero ..) rfl))
 |c::r,T=>by
  rw[zz,xn b r,sA,List.length_cons,Int.pow_succ,Int.add_mul,Int.mul_assoc,Int.mul_comm (b:Int),Int.add_assoc]
theorem pH{b:Nat}(hb:oS b):∀{l:List Nat},AS b l->0<=iE b l
 |[],_=>Int.le_refl 0
 |c::r,h=>by
  rw[sA];have hc:=h c (.head _);obtain this:=(sT c hc.1 b hb.mem).1 hc.2;obtain h2:=pH hb (l:=r) λx m=>h x (.tail _ m)
  obtain this:0<=oi c*(b:Int)^r.length:=Int.mul_nonneg this.2.1 (Int.pow_nonneg (og));lia
theorem nN{b:Nat}(ha:∀c∈l,c<128)(h:fu b l=true):AS b l:=by
 unfold fu at h;rw[Bool.and_eq_true,List.all_eq_true] at h;show λc hc=>⟨ha c hc,h.2 c hc⟩
theorem Ks{b:Nat}(hl:l≠[])(h:fu b l=false):∃c∈l,jT b c=false:=by
 show Classical.byContradiction λk=>?_
 have:fu b l=true:=by
  unfold fu;have e:l.isEmpty=false:=by cases l with
   |nil=>show absurd rfl hl
   |cons _ _=>rfl
  rwa[e,Bool.not_false,Bool.true_and ..,propext List.all_eq_true];intro c hc;cases q:jT b c with
  |true=>rfl
  |false=>show absurd ⟨c,hc,q⟩ k
 rw[this] at h;injection h
theorem xR{b:Nat}(hb:oS b){x:List Nat}(ha:∀c∈x.map lo1,c<128):mG b x=if fu b (x.map lo1)=true then min (iE b (x.map lo1)) (eG+1) else -1:=by
 unfold mG
 by_cases hx:x=[]
 ·clear ha;subst hx;rw[if_pos rfl];rfl
 ·rw[if_neg hx];obtain hx':x.map lo1≠[]:=by simpa using hx
  generalize x.map lo1=y at*;cases q:fu b y with
  |true=>
   rw[if_pos rfl,Dx hb (nN ha q) (T:=0) (dt rfl) (dt rfl),xn,Int.zero_mul,Int.zero_add];rfl
  |false=>
   rw[if_neg (dt rfl),Av hb ha (Ks hx' q)];rfl
def jQ(l:List Nat):Prop:=∀c∈l,c<128/\gS c=[32,9,10].contains c
theorem lI{p q:Nat->Bool}:∀{l:List Nat},(∀c∈l,p c=q c)->l.dropWhile p=l.dropWhile q
 |[],_=>rfl
 |c::l,h=>by
  show d4 List.dropWhile_cons (d4 List.dropWhile_cons (d4 (h c (.head _)) (d4 (lI λx m=>h x (.tail _ m)) rfl)))
theorem DF(h:jQ l):strip [32,9,10] l=gw l:=by
 rwa[qE];unfold gw;obtain e:=lI (l:=l) (p:=gS) (q:=[32,9,10].contains) λc m=>(h c m).2
 rwa[e.symm]
 congr 1
 show(lI λc m=>(h c ?_).2).symm;rw[List.mem_reverse] at m;show(List.dropWhile_sublist _).subset m
noncomputable def gu(r:List Nat):Nat:=(fQ r).toNat
noncomputable def fB(r:List Nat):List Nat:=if gu r≠10 then(r.drop 2).map lo1 else if r[0]?=some 45\/r[0]?=some 43 then r.drop 1 else r
theorem Ar(r:List Nat):fQ r=gu r/\oS (gu r):=by
 rcases DR r with h|h|h|h<;>(unfold gu oS;rw[h];show⟨rfl,dt rfl⟩)
theorem JS(h:fu 10 l=true):l.map lo1=l:=by
 rw[nk] at h;unfold jg at h;rw[Bool.and_eq_true,List.all_eq_true] at h;show(List.map_congr_left λc hc=>F6 (h.2 c hc)).trans (List.map_id _)
theorem HN(l:List Nat):fu 10 (l.map lo1)=fu 10 l:=by show d4 (nk ..) (d4 (nk ..) (d4 (CQ ..) rfl))
theorem K2(hc:jQ l)(hlong:fu (gu (strip [32,9,10] l)) (fB (strip [32,9,10] l))=true->(fB (strip [32,9,10] l)).length<18\/eG<iE (gu (strip [32,9,10] l)) (fB (strip [32,9,10] l))):vV l=oj l:=by
 show qW (strip [32,9,10] l)=tb (gw l);rwa[(DF hc).symm];have hr:∀c∈strip [32,9,10] l,c<128:=λc m=>(hc c (uV c m)).1
 generalize strip [32,9,10] l=r at*
 by_cases h0:r=[]
 ·show(if_pos h0:qW r=_).trans (if_pos h0:tb r=_).symm
 ·show(if_neg h0:qW r=_).trans (Eq.trans ?_ (if_neg h0:tb r=_).symm);show fx (Ar r) λeb hb=>?_
  show mS (gu r) (r[0]?==some 45) (fB r)=_;have pos:(0:Int)<eG:=dt rfl;have fin:∀(b:Nat) (x:List Nat) (m:Bool),oS b->AS b x->(x.length<18\/eG<iE b x)->uZ m (BX b x)=pA (if m=true then 0-min (iE b x) (eG+1) else min (iE b x) (eG+1)):=by
   intro b x m hb ho h2;have h3:=pH hb ho;have hn:BX b x=iE b x\/eG<iE b x/\BX b x=9007199254740992:=by
    by_cases k:x.length<18
    ·show .inl (if_pos k)
    ·show .inr ⟨h2.resolve_left k,if_neg k⟩
   clear h2 ho;generalize iE b x=S at*;generalize BX b x=N at*
   by_cases k:eG<S
   ·have k2:eG<N:=by
     rcases hn with e|⟨_,e⟩<;>rw[e]
     ·show k
     ·show dt rfl
    show(if_pos k2:uZ m N=_).trans ?_;rwa[(show min S (eG+1)=eG+1 by lia)];cases m<;>show dt rfl
   ·have e:N=S:=hn.resolve_right λh=>k h.1
    show(if_neg (by rw[e];show k):uZ m N=_).trans ?_;rwa[e,(show min S (eG+1)=S by lia)];cases m
    ·show(if_pos (show -eG<=S/\S<=eG by lia):pA S=_).symm
    ·show(if_pos (show -eG<=0-S/\0-S<=eG by lia):pA (0-S)=_).symm
  by_cases h10:gu r=10
  ·have hne:¬fQ r≠10:=by rwa[eb,h10];show dt rfl
   rwa[if_neg hne,h10];have ed:fB r=yu r:=by
    unfold fB yu;rwa[if_neg (by rw[h10];show dt rfl)];simp only[Bool.or_eq_true,beq_iff_eq]
   rwa[ed.symm];have ha:∀c∈fB r,c<128:=by
    intro c m;rw[ed] at m;unfold yu at m
    split at m
    ·show hr c (List.mem_of_mem_drop m)
    ·show hr c m
   have ha':∀c∈(fB r).map lo1,c<128:=by
    intro c m;show d6 (List.mem_map.mp m) ?_;clear m;rintro d hd rfl;show rN d (ha d hd)
   have dv:=xR (b:=10) (.inr (.inr (.inl rfl))) ha';rw[HN] at dv;rw[show mG ((10:Nat):Int) (fB r)=mG 10 (fB r) from rfl] at dv;rw[h10] at hlong;generalize fB r=x at*;cases q:fu 10 x with
   |true=>
    rw[q,if_pos rfl,JS q] at dv;have ho:=nN ha q;have h3:=pH (.inr (.inr (.inl rfl))) ho;show(if_pos q:mS 10 _ x=_).trans (Eq.trans ?_ (if_neg (by rw[dv];grind):A6 _ x=_).symm);rwa[dv];show fin 10 x (r[0]?==some 45) (.inr (.inr (.inl rfl))) ho (hlong q)
   |false=>
    rw[q,if_neg (dt rfl)] at dv;show(if_neg (by rw[q];show dt rfl):mS 10 _ x=_).trans (Eq.trans ?_ (if_pos (by rw[dv];show dt rfl):A6 _ x=_).symm);rwa[Ik ..]
    by_cases k:nJ x=true
    ·show d4 (if_pos ⟨rfl,k⟩) (d4 (if_pos k) rfl)
    ·show d4 (if_neg (λh=>k h.2)) (d4 (if_neg k) rfl)
  ·have hne:fQ r≠10:=by rwa[eb];lia
   rwa[if_pos hne];have ed:fB r=(r.drop 2).map lo1:=by unfold fB;show d4 (if_pos h10) rfl
   have ha':∀c∈(r.drop 2).map lo1,c<128:=by
    intro c m;show d6 (List.mem_map.mp m) ?_;clear m;rintro d hd rfl;show rN d (hr d (List.mem_of_mem_drop hd))
   have dv:=xR hb ha';rwa[eb,dv];rw[<-ed] at ha' ⊢;have hm:(r[0]?==some 45)=false:=by
    cases r with
    |nil=>rfl
    |cons c r'=>
     have:lo1 c=48:=by
      unfold fQ at hne;dsimp only at hne;cases r' with
      |nil=>simp at hne
      |cons d r2=>
       simp only[List.take_succ_cons,List.take_zero,List.map_cons,List.map_nil,List.cons.injEq,and_true] at hne;show Classical.byContradiction λk=>hne ?_
       show d4 (if_neg (λh=>k h.1)) (d4 (if_neg (λh=>k h.1)) (d4 (if_neg (λh=>k h.1)) rfl))
     have:c=48:=by
      unfold lo1 at this
      split at this<;>simp_all
     clear hlong hr h0 eb hb h10 hne ed ha' dv;subst this;rfl
   rwa[hm];generalize fB r=x at*;cases q:fu (gu r) x with
   |true=>
    have ho:=nN ha' q;have h3:=pH hb ho;show(if_pos q:mS (gu r) false x=_).trans (d4 (if_pos rfl) ?_);show Eq.trans (fin (gu r) x false hb ho (hlong q)) (if_pos (show 0<=min (iE (gu r) x) (eG+1) by grind):GP _=_).symm
   |false=>show(if_neg (by rw[q];show dt rfl):mS (gu r) false x=_).trans ((if_neg λh=>h10 h.1).trans rfl)
def Rd(l:List Nat):Prop:=jQ l/\(l.length<18\/44∈l\/58∈l\/tf l)
theorem Ft:∀c∈[9,10,32,43,44,45,46,48,49,50,51,52,53,54,55,56,57,58,66,69,70,73,78,79,88,91,93,97,98,99,100,101,102,105,106,108,110,111,114,115,116,117,120,121],c<128/\gS c=[32,9,10].contains c:=dt rfl
theorem jj(h:∀c∈l,c∈[9,10,32,43,44,45,46,48,49,50,51,52,53,54,55,56,57,58,66,69,70,73,78,79,88,91,93,97,98,99,100,101,102,105,106,108,110,111,114,115,116,117,120,121]):jQ l:=λc m=>Ft c (h c m)
theorem kg{a b:List Nat}(h1:jQ a)(h2:jQ b):jQ (a++b):=λc m=>by
 rcases List.mem_append.mp m with m|m
 ·show h1 c m
 ·show h2 c m
theorem rZ:jQ []:=λc m=>(nomatch m)
theorem q7(h:tf l):jQ l:=by
 obtain⟨a,r,rfl,hr,hh⟩:=h;have c1:∀c∈yj,c<128/\gS c=[32,9,10].contains c:=dt rfl;have c2:∀h∈iX,∀c∈h,c<128/\gS c=[32,9,10].contains c:=dt rfl;show kg ?_ λc m=>c1 c (hr c m)
 rcases hh with⟨rfl,_⟩|⟨ha,_⟩
 ·show rZ
 ·show c2 a ha
theorem Bs(i:Int):jQ (fV i 10):=by
 obtain hs:∀k r,∀c∈gi 10 k r,c<128/\gS c=[32,9,10].contains c:=by
  intro k
  induction k with
  |zero=>intro r c m;cases m
  |succ k ih=>
   intro r c m;rw[iU] at m
   split at m
   ·cases m
   ·rcases List.mem_cons.mp m with rfl|m
    ·obtain this:∀d<10,sg d<128/\gS (sg d)=[32,9,10].contains (sg d):=by decide+kernel
     show this _ (Nat.mod_lt _ (dt rfl))
    ·show ih _ c m
 unfold fV
 split
 ·show jj (dt rfl)
 ·show kg ?_ λc m=>hs _ _ c (List.mem_reverse.mp m)
  split
  ·show jj (dt rfl)
  ·show rZ
theorem yM:∀(k j r:Nat),r<10^j->(gi 10 k r).length<=j
 |0,_,_,_=>Nat.zero_le _
 |k+1,0,r,h=>by
  obtain this:r=0:=by rw[Nat.pow_zero] at h;simp_all
  clear h;subst this;rwa[uR ..];show Nat.le_refl 0
 |k+1,j+1,r,h=>by
  rw[iU]
  split
  ·show Nat.zero_le _
  ·rwa[List.length_cons];obtain this:=yM k j (r/10) (by rw[Nat.pow_succ] at h;lia);show Nat.lt_succ_of_le ‹_›
theorem E4{i:Int}(h: -eG<=i/\i<=eG):(fW i).length<=17:=by
 have h1:=h.1;obtain h2:=h.2;unfold eG at h1 h2;rwa[fZ (by omega)];unfold fV
 split
 ·show dt rfl
 ·rwa[List.length_append,List.length_reverse];obtain this:=yM 64 16 i.natAbs (by omega);obtain this:(if i<0 then [45] else []:List Nat).length<=1:=by split<;>show dt rfl
  omega
theorem GC{v:SV}(h:fG 7 v):jQ (kq v):=by
 cases v with
 |str l=>show q7 h
 |num i=>
  have h1:=h.1;have h2:=h.2;unfold eG at h1 h2;show jQ (fW i)
  rwa[fZ (by omega)];show Bs i
 |bool b=>clear h;cases b<;>show jj (dt rfl)
 |obj k=>show absurd h.1 (dt rfl)
 |_=>show jj (dt rfl)
theorem FP{v:SV}(h:fG 7 v):Rd (kq v):=by
 show⟨GC h,?_⟩;cases v with
 |str l=>show .inr (.inr (.inr h))
 |num i=>show .inl (Nat.lt_of_le_of_lt (E4 h) (dt rfl))
 |bool b=>left;clear h;cases b<;>show dt rfl
 |obj k=>show absurd h.1 (dt rfl)
 |_=>left;show dt rfl
theorem vG:Rd []:=⟨rZ,.inl (dt rfl)⟩
theorem GY{v:SV}(h:fG 7 v):Rd (lr v):=by
 cases v with
 |undef=>show vG
 |null=>show vG
 |_=>show FP h
theorem Ej:∀{ls:List (List Nat)},(∀l∈ls,Rd l)->Rd (jn [44] ls)
 |[],_=>vG
 |[l],h=>h l (.head _)
 |l::m::r,h=>by
  have ih:=Ej (ls:=m::r) λx hx=>h x (.tail _ hx)
  show⟨kg (kg (h l (.head _)).1 (jj (dt rfl))) ih.1,.inr (.inl ?_)⟩;show 44∈l++[44]++jn [44] (m::r)
  simp
theorem CW{o:Option SV}{d:List Nat}(h:∀v,o=some v->fG 7 v)(hd:Rd d):Rd (told o d):=by
 cases o with
 |none=>show hd
 |some v=>
  cases v with
  |undef=>show hd
  |_=>show FP (h _ rfl)
theorem MZ(hw:Wv w)(hk:18<=k/\k<=21):Rd (fm w (.obj k)):=by
 have r0:Rd (rK w):=Ej λl hl=>by
  show d6 (List.mem_map.mp hl) ?_;clear hl;rintro v hv rfl;show GY (hw.v0 v hv)
 obtain hk':k=18\/k=19\/k=20\/k=21:=by lia
 clear hk;rcases hk' with rfl|rfl|rfl|rfl
 ·show r0
 ·show Ej λl hl=>by
   rcases List.mem_cons.mp hl with rfl|hl
   ·show r0
   ·show d6 (List.mem_map.mp hl) ?_;clear hl;rintro v hv rfl;show GY (hw.v1 v hv)
 ·have c:=CW (d:=hY) hw.vc ⟨jj (dt rfl),.inl (dt rfl)⟩;have d:=CW (d:=[]) hw.vs vG;show Rd (tE w)
  unfold tE
  split
  ·show c
  ·split
   ·show d
   ·show⟨kg (kg c.1 (jj (dt rfl))) d.1,.inr (.inr (.inl ?_))⟩;simp
 ·show⟨jj (by show ∀c∈kq (.obj 21),_;show dt rfl),.inl (by show(kq (.obj 21)).length<18;show dt rfl)⟩
theorem DD(hc:[32,9,10].contains c=false)(h:c∈l):c∈strip [32,9,10] l:=by
 have kd:∀m:List Nat,c∈m->c∈m.dropWhile ([32,9,10]:List Nat).contains:=by
  intro m
  induction m with
  |nil=>intro h;show h
  |cons x m ih=>
   intro h;rw[List.dropWhile_cons]
   split
   ·rename_i hx;rcases List.mem_cons.mp h with rfl|h
    ·rw[hc] at hx;injection hx
    ·show ih h
   ·show h
 rw[qE,List.mem_reverse];show kd _ ?_;rw[List.mem_reverse];show kd _ h
theorem GZ{r:List Nat}(h:c∈r)(hb:gu r≠10)(hc:c=44\/c=58):c∈r.drop 2:=by
 match r with
 |[]=>cases h
 |[x]=>
  exfalso;apply hb;unfold gu fQ;simp
 |x::y::r2=>
  have hl:(lo1 x=48/\(lo1 y=120\/lo1 y=111\/lo1 y=98)):=by
   show Classical.byContradiction λk=>hb ?_
   unfold gu fQ;simp only[List.take_succ_cons,List.take_zero,List.map_cons,List.map_nil,List.cons.injEq,and_true];rwa[if_neg (λh=>k ⟨h.1,.inl h.2⟩),if_neg (λh=>k ⟨h.1,.inr (.inl h.2)⟩),if_neg (λh=>k ⟨h.1,.inr (.inr h.2)⟩)];rfl
  obtain hx:c≠x:=by
   clear h hb;rintro rfl;have:=hl.1;unfold lo1 at this
   split at this<;>simp_all
  obtain hy:c≠y:=by
   clear h hb;rintro rfl;have:=hl.2;unfold lo1 at this
   split at this<;>lia
  rcases List.mem_cons.mp h with e|h
  ·show absurd e hx
  ·rcases List.mem_cons.mp h with e|h
   ·show absurd e hy
   ·show h
theorem wA(hc:c=44\/c=58)(h:c∈l):fu (gu (strip [32,9,10] l)) (fB (strip [32,9,10] l))=false:=by
 have h1:=DD (by rcases hc with rfl|rfl<;>show dt rfl) h;generalize strip [32,9,10] l=r at h1;have h2:c∈fB r:=by
  unfold fB
  split
  ·rename_i hb;have:=GZ h1 hb hc;show List.mem_map.mpr ⟨c,this,by clear h h1 this;rcases hc with rfl|rfl<;>rfl⟩
  ·split
   ·rename_i _ hs;cases r with
    |nil=>cases h1
    |cons x r'=>
     rcases List.mem_cons.mp h1 with e|h1
     ·clear h1;subst e;simp at hs;lia
     ·show h1
   ·show h1
 cases q:fu (gu r) (fB r) with
 |false=>rfl
 |true=>
  have:=Ar r;unfold fu at q;rw[Bool.and_eq_true,List.all_eq_true] at q;have:=q.2 c h2;obtain⟨_,hb⟩:=Ar r;rcases hb with e|e|e|e<;>(rw[e] at this;rcases hc with rfl|rfl<;>revert this<;>show dt rfl)
theorem AZ(hc:[32,9,10].contains c=false):strip [32,9,10] (c::l)<+:c::l:=by
 rwa[qE,List.dropWhile_cons,if_neg (by rw[hc];show dt rfl)];show List.reverse_suffix.mp (by rwa[List.reverse_reverse ..];show List.dropWhile_suffix _)
theorem yi{x:List Nat}{d:Nat}(hd:d=57)(h:AS 10 (d::x))(hl:17<=x.length):eG<iE 10 (d::x):=by
 subst hd;rwa[sA ..];obtain h1:=pH (b:=10) (.inr (.inr (.inl rfl))) (l:=x) λc m=>h c (.tail _ m)
 obtain h2:(10:Int)^17<=((10:Nat):Int)^x.length:=by
  obtain this:=Nat.pow_le_pow_right (show 0<10 by decide) hl;obtain e:((10^x.length:Nat):Int)=((10:Nat):Int)^x.length:=by show d4 (Int.natCast_pow ..) rfl
  rwa[e.symm];show Int.ofNat_lt.mpr ‹_›
 obtain h3:oi 57=9:=by decide+kernel
 rwa[h3];unfold eG
 grind
theorem BV(r:List Nat):(fB r).length<=r.length:=by
 unfold fB
 split
 ·rwa[List.length_map ..,List.length_drop];show Nat.sub_le ..
 ·split
  ·rwa[List.length_drop];show Nat.sub_le ..
  ·show Nat.le_refl _
theorem K0(h:Rd l)(q:fu (gu (strip [32,9,10] l)) (fB (strip [32,9,10] l))=true):(fB (strip [32,9,10] l)).length<18\/eG<iE (gu (strip [32,9,10] l)) (fB (strip [32,9,10] l)):=by
 show fx h λhc h=>?_
 have hlen:(fB (strip [32,9,10] l)).length<=l.length:=Nat.le_trans (BV _) yE;rcases h with h|h|h|h
 ·show .inl (Nat.lt_of_le_of_lt ‹_› ‹_›)
 ·rw[wA (.inl rfl) h] at q;injection q
 ·rw[wA (.inr rfl) h] at q;injection q
 ·by_cases hz:(fB (strip [32,9,10] l)).length<18
  ·show .inl hz
  ·right;show jE h ?_;rintro a r rfl hr hh;have ha:a=[57,48,48,55,49,57,57,50,53,52,55,52,48,57,57,50]\/a=[45,57,48,48,55,49,57,57,50,53,52,55,52,48,57,57,50]:=by
    clear q hc h;rcases hh with⟨rfl,hl⟩|⟨ha,hl⟩
    ·rw[List.nil_append] at hlen hz;omega
    ·rw[List.length_append] at hlen;obtain this:∀h∈iX,h.length<14\/(h=[57,48,48,55,49,57,57,50,53,52,55,52,48,57,57,50]\/h=[45,57,48,48,55,49,57,57,50,53,52,55,52,48,57,57,50]):=dt rfl;rcases this a ha with k|k
     ·lia
     ·show k
   obtain⟨c,d,s,e,hcd⟩:∃c d s,a++r=c::d::s/\((c=57/\d=48)\/(c=45/\d=57)):=by
    clear q hc hlen h hz hh;rcases ha with rfl|rfl
    ·show⟨57,48,_,rfl,.inl ⟨rfl,rfl⟩⟩
    ·show⟨45,57,_,rfl,.inr ⟨rfl,rfl⟩⟩
   rw[e] at hc q hz hlen ⊢;clear e ha hh hr;have hd:=BV (strip [32,9,10] (c::d::s));have okc:∀x∈strip [32,9,10] (c::d::s),x<128:=λx m=>(hc x (uV x m)).1
   have hp:=AZ (c:=c) (l:=d::s) (by clear hlen hz q hc hd okc;rcases hcd with⟨rfl,_⟩|⟨rfl,_⟩<;>show dt rfl);generalize strip [32,9,10] (c::d::s)=z at*;show fv hp λt ht=>?_
   cases z with
   |nil=>simp only[List.length_nil] at hd;contradiction
   |cons x z=>cases z with
   |nil=>simp only[List.length_cons,List.length_nil] at hd;omega
   |cons y s2=>
    injection ht with e1 ht
    injection ht with e2 ht
    subst e1 e2;clear hd hc ht hlen hp;rcases hcd with⟨rfl,rfl⟩|⟨rfl,rfl⟩
    ·have hb:gu (57::48::s2)=10:=rfl;have hdg:fB (57::48::s2)=57::48::s2:=rfl;rw[hdg] at hz;rw[hb,hdg] at q ⊢;show yi rfl (nN okc q) (by simp only[List.length_cons] at hz ⊢;simp_all)
    ·obtain hb:gu (45::57::s2)=10:=rfl;have hdg:fB (45::57::s2)=57::s2:=rfl;rw[hdg] at hz;rw[hb,hdg] at q ⊢;show yi rfl (nN (λc m=>okc c (.tail _ m)) q) (by simp only[List.length_cons] at hz;simp_all)
theorem xC(h:Rd l):vV l=oj l:=K2 h.1 (K0 h)
theorem HL(hw:Wv w)(h:∀v∈args,fG 13 v):Gk w args=Aq w args:=by
 cases args with
 |nil=>rfl
 |cons v r=>
  have hv:=h v (.head _);cases v with
  |str l=>show xC ⟨q7 hv,.inr (.inr (.inr hv))⟩
  |obj k=>show xC (MZ hw ⟨hv.2.1,hv.2.2⟩)
  |_=>rfl
theorem Dh(h:∀c∈l,gS c=false):gw l=l:=by
 have d:∀m:List Nat,(∀c∈m,gS c=false)->m.dropWhile gS=m:=by
  intro m hm;cases m with
  |nil=>rfl
  |cons c m=>(show d4 List.dropWhile_cons (d4 (if_neg (by rw[hm c (.head _)];show dt rfl)) rfl))
 unfold gw;show d4 (d l h) (d4 (d l.reverse (λc m=>h c (List.mem_reverse.mp m))) (d4 (List.reverse_reverse ..) rfl))
theorem EC(h:∀c∈l,gS c=false):gw (32::l)=l:=by
 obtain e:gw (32::l)=gw l:=by
  unfold gw;show d4 List.dropWhile_cons (d4 (if_pos (dt rfl)) rfl)
 show d4 e (d4 (Dh h) rfl)
theorem BD(b:Int)(c:Nat):∀(l:List Nat) (T:Int),yD b T (l++[c])=yD b T l*b+oi c
 |[],T=>rfl
 |d::l,T=>by rw[List.cons_append,zz,zz,BD b c l]
theorem nR:∀d<16,oi (sg d)=(d:Int)/\sg d<128/\lo1 (sg d)=sg d/\gS (sg d)=false:=by decide+kernel
theorem Oy:∀b∈([2,8,10,16]:List Nat),∀d<b,jT b (sg d)=true:=by decide+kernel
theorem LD:∀d<10,fq (sg d)=true:=by decide+kernel
theorem tG{b:Nat}(hb:0<b):∀{k r c:Nat},c∈gi b k r->∃d,d<b/\c=sg d
 |0,_,_,h=>by cases h
 |k+1,r,c,h=>by
  rw[iU] at h
  split at h
  ·cases h
  ·rcases List.mem_cons.mp h with rfl|h
   ·show⟨_,Nat.mod_lt _ hb,rfl⟩
   ·show tG hb h
theorem CT{b:Nat}(hb:oS b):∀(k r:Nat),r<2^k->yD b 0 (gi b k r).reverse=r
 |0,r,h=>by
  obtain this:r=0:=by rw[Nat.pow_zero] at h;simp_all
  clear h;subst this;rfl
 |k+1,r,h=>by
  have b2:2<=b/\b<=16:=by rcases hb with rfl|rfl|rfl|rfl<;>show dt rfl
  rw[iU]
  split
  ·rename_i h0;clear h;subst h0;rfl
  ·rwa[List.reverse_cons,BD ..];obtain this:r/b<2^k:=by
    rwa[propext (Nat.div_lt_iff_lt_mul (by lia))];rw[Nat.pow_succ] at h;show Nat.lt_of_lt_of_le h (Nat.mul_le_mul_left _ b2.1)
   rwa[CT hb k (r/b) this,(nR (r%b) (Nat.lt_of_lt_of_le (Nat.mod_lt _ (by lia)) b2.2)).1];have:=Nat.div_add_mod r b;rw[Nat.mul_comm] at this;show d4 (Int.natCast_mul ..).symm (d4 (Int.natCast_add ..).symm (d4 this rfl))
theorem Ad{b r:Nat}(h:r≠0):(gi b 64 r).reverse≠[]:=by
 intro e;have:gi b 64 r=[]:=List.reverse_eq_nil_iff.mp e;rw[show(64:Nat)=63+1 from rfl,iU] at this;rw[if_neg h] at this;injection this
theorem yY{b r:Nat}(hb:oS b)(h0:r≠0)(hr:(r:Int)<=eG):mG b (gi b 64 r).reverse=r:=by
 have b2:2<=b/\b<=16:=by rcases hb with rfl|rfl|rfl|rfl<;>show dt rfl
 have hm:∀c∈(gi b 64 r).reverse,∃d,d<b/\c=sg d:=λc m=>tG (by lia) (List.mem_reverse.mp m)
 have hl:(gi b 64 r).reverse.map lo1=(gi b 64 r).reverse:=by
  show(List.map_congr_left λc m=>?_).trans (List.map_id _);show d6 (hm c m) ?_;clear m;rintro d hd rfl;show(nR d (by lia)).2.2.1
 have ha:∀c∈(gi b 64 r).reverse.map lo1,c<128:=by
  rwa[hl];intro c m;show d6 (hm c m) ?_;clear m;rintro d hd rfl;show(nR d (by lia)).2.1
 rwa[xR hb ha,hl];have hall:fu b (gi b 64 r).reverse=true:=by
  unfold fu;have e:(gi b 64 r).reverse.isEmpty=false:=by
   cases q:(gi b 64 r).reverse with
   |nil=>show absurd q (Ad h0)
   |cons _ _=>rfl
  rwa[e,Bool.not_false,Bool.true_and ..,propext List.all_eq_true];intro c m;show d6 (hm c m) ?_;clear m;rintro d hd rfl;show Oy b hb.mem d hd
 rwa[if_pos hall];have hs:iE b (gi b 64 r).reverse=r:=by
  have:=xn b (gi b 64 r).reverse 0;rw[Int.zero_mul,Int.zero_add] at this;rwa[this.symm];show CT hb 64 r ?_;unfold eG at hr;lia
 rwa[hs];lia
theorem Ec(h:∀c∈l,c<58):fQ l=10:=by
 obtain hn:∀k:List Nat,(∀c∈k,c<58)->k≠[48,120]/\k≠[48,111]/\k≠[48,98]:=by
  intro k hk;show⟨?_,?_,?_⟩<;>(rintro rfl;have:=hk _ (.tail _ (.head _));contradiction)
 unfold fQ;dsimp only;obtain e:(l.take 2).map lo1=l.take 2:=by
  show(List.map_congr_left λc m=>?_).trans (List.map_id _);obtain this:=h c (List.mem_of_mem_take m);unfold lo1;rwa[if_neg (by lia)];rfl
 rwa[e];show gp (hn (l.take 2) λc m=>h c (List.mem_of_mem_take m)) λh1 h2 h3=>?_
 show d4 (if_neg h1) (d4 (if_neg h2) (d4 (if_neg h3) rfl))
theorem LH{i:Int}(h: -eG<=i/\i<=eG):oj (32::fV i 10)=some (some i):=by
 have h1:=h.1;obtain h2:=h.2
 by_cases h0:i=0
 ·clear h h1 h2;subst h0;decide+kernel
 ·have hm:∀c∈(gi 10 64 i.natAbs).reverse,∃d,d<10/\c=sg d:=λc m=>tG (dt rfl) (List.mem_reverse.mp m)
  have hd:∀c∈(gi 10 64 i.natAbs).reverse,fq c=true:=λc m=>by
   show d6 (hm c m) ?_;clear m;rintro d hd rfl;show LD d hd
  have hdig:fV i 10=(if i<0 then [45] else [])++(gi 10 64 i.natAbs).reverse:=by
   unfold fV;show d4 (if_neg h0) rfl
  have hne:=Ad (b:=10) (r:=i.natAbs) (by simp_all);have dv:=yY (b:=10) (r:=i.natAbs) (.inr (.inr (.inl rfl))) (by simp_all) (by omega);rw[show mG ((10:Nat):Int) (gi 10 64 i.natAbs).reverse=mG 10 (gi 10 64 i.natAbs).reverse from rfl] at dv;have hb:∀c∈fV i 10,gS c=false/\c<58:=by
   intro c m;rw[hdig] at m;rcases List.mem_append.mp m with m|m
   ·split at m
    ·rwa[List.mem_singleton.mp m];show dt rfl
    ·cases m
   ·show d6 (hm c m) λd hd' e=>?_
    obtain this:=pY.mp (hd c m);show⟨by rwa[e];show(nR d (fY ‹_› rfl)).2.2.2,by lia⟩
  show tb (gw (fV i 10))=_;rwa[EC λc m=>(hb c m).1];obtain e0:¬fV i 10=[]:=by
   rwa[hdig];intro e;show hne (List.append_eq_nil_iff.mp e).2
  show(if_neg e0:tb _=_).trans (d4 (Ec λc m=>(hb c m).2) (d4 (if_neg (show ¬((10:Int)≠10) by decide)) (d4 hdig ?_)));obtain first:∀z:List Nat,z≠[]->(∀c∈z,fq c=true)->(z[0]?==some 45)=false/\(z[0]?==some 43)=false:=by
   intro z hz hzd;cases z with
   |nil=>show absurd rfl hz
   |cons c z=>
    obtain this:=pY.mp (hzd c (.head _));show⟨by simp;lia,by simp;lia⟩
  have hf:=first _ hne hd
  by_cases hi:i<0
  ·rwa[if_pos hi];show A6 true (gi 10 64 i.natAbs).reverse=_
   show(if_neg (by rw[dv];simp):A6 true _=_).trans (d4 dv ?_);show d4 (show(0:Int)-(i.natAbs:Int)=i by grind) (if_pos h)
  ·rwa[if_neg hi,List.nil_append ..];rwa[hf.1,(show yu (gi 10 64 i.natAbs).reverse=_ from if_neg (by rw[hf.1,hf.2];show dt rfl))];show(if_neg (by rw[dv];simp):A6 false _=_).trans (d4 dv ?_);show d4 (show(i.natAbs:Int)=i by lia) (if_pos h)
theorem Gl{b r:Nat}{x y:Nat}(hb:oS b)(hr:(r:Int)<=eG)(hx:(x=48/\y=120/\b=16)\/(x=48/\y=111/\b=8)\/(x=48/\y=66/\b=2)):oj ([x,y]++fV (r:Int) b)=some (some (r:Int)):=by
 by_cases h0:r=0
 ·clear hr;subst h0;clear hb;rcases hx with⟨rfl,rfl,rfl⟩|⟨rfl,rfl,rfl⟩|⟨rfl,rfl,rfl⟩<;>decide+kernel
 ·have hdig:fV (r:Int) b=(gi b 64 r).reverse:=by
   unfold fV;show d4 (if_neg (by simp_all)) (d4 (if_neg (by simp)) (d4 (List.nil_append ..) (d4 (Int.natAbs_natCast ..) rfl)))
  have dv:=yY hb h0 hr;have hm:∀c∈(gi b 64 r).reverse,gS c=false:=by
   intro c m;have b2:2<=b/\b<=16:=by clear hx hdig dv m;rcases hb with rfl|rfl|rfl|rfl<;>show dt rfl
   show d6 (tG (by lia) (List.mem_reverse.mp m)) ?_;clear m;rintro d hd rfl;show(nR d (by lia)).2.2.2
  rwa[hdig];generalize (gi b 64 r).reverse=z at dv hm;have hn:pA (r:Int)=some (some (r:Int)):=by
   unfold pA;show if_pos ⟨by unfold eG;show og,hr⟩
  show tb (gw _)=_;clear hb hdig;rcases hx with⟨rfl,rfl,rfl⟩|⟨rfl,rfl,rfl⟩|⟨rfl,rfl,rfl⟩
  all_goals
   rw[Dh (by
    intro c m;rcases List.mem_cons.mp m with rfl|m
    ·show dt rfl
    ·rcases List.mem_cons.mp m with rfl|m
     ·show dt rfl
     ·show hm c m)]
   show(if_neg (by simp):tb _=_).trans ?_
  ·show d4 (show fQ ([48,120]++z)=16 from rfl) (d4 (if_pos (dt rfl)) (d4 (show List.drop 2 ([48,120]++z)=z from rfl) (d4 (show mG 16 z=(r:Int) from dv) ((if_pos og:GP _=_).trans hn))))
  ·show d4 (show fQ ([48,111]++z)=8 from rfl) (d4 (if_pos (dt rfl)) (d4 (show List.drop 2 ([48,111]++z)=z from rfl) (d4 (show mG 8 z=(r:Int) from dv) ((if_pos og:GP _=_).trans hn))))
  ·show d4 (show fQ ([48,66]++z)=2 from rfl) (d4 (if_pos (dt rfl)) (d4 (show List.drop 2 ([48,66]++z)=z from rfl) (d4 (show mG 2 z=(r:Int) from dv) ((if_pos og:GP _=_).trans hn))))
section
variable{s:S}
theorem tS(h:Lw w s τ m){v:SV}(k:uC s τ (.val v) s1 av):Lw w s1 av m/\s1.nx=s.nx:=by
 obtain⟨rfl,ai,rfl⟩:=k;show⟨h.more (Nat.le_refl _),rfl⟩
theorem yV(i:Int){b:Nat}(hb:2<=b/\b<=36)(h:List Nat)(hh:(∀c∈h,c<128)/\h.length<=4):(SV.str (h++fV i b)).good:=by
 show⟨λc m=>?_,?_⟩
 ·rcases List.mem_append.mp m with m|m
  ·show hh.1 c m
  ·show wQ hb.2 hb.1 i c m
 ·rwa[List.length_append];obtain this:=iI i b;obtain this:=hh.2;lia
theorem z8:Aq w [.str l]=oj l:=rfl
theorem C2(T:d8 B){i:Int}(lw:Lw w s τ k)(hg:(SV.str l).good)(h:oj l=some (some i)):mx B (n+14) s τ 103 this [.str l] (.val (.num i)):=by
 have:=qw T (n:=n) (s:=s) (τ:=τ) (w:=w) (this:=this) (args:=[.str l]) lw.okw lw.wv.len (by intro v hv;rwa[List.mem_singleton.mp hv];show hg);rw[z8,h] at this;show this
theorem MO(T:d8 B)(lw:Lw w s τ m)(hm:m<=20)(hn:s.nx+20<=1000)(q:∀s' ai,Lw w s' ai m->s'.nx<=s.nx+15->Q (.bool true) (P s'++ai)):
  d7 B (n+16) 1134 [.inst 889 1,.loc 134,.loc 0] (P s++τ) Q X:=by
 show T.fn (r:=(w8,3,iJ)) rfl rfl [_,_,_,none,none,none,none,none] rfl ?_;have rest:∀(i:Int) (s:S) (τ:Hp),-eG<=i/\i<=eG->Lw w s τ m->(∀s' ai,Lw w s' ai m->s'.nx=s.nx->Q (.bool true) (P s'++ai))->
   eH B (n+15) X (eQ 2 iJ) [some (.inst 889 1),some (.loc 134),some (.loc 0),some (.int i),some (.int (i.natAbs:Nat)),none,none,none] (P s++τ) (fe Q):=by
  intro i s τ hi lw q;have h1:=hi.1;have h2:=hi.2;have hz:i.natAbs<2^60:=by unfold eG at h1 h2;lia
  have hzi:((i.natAbs:Nat):Int).natAbs<2^60:=by rwa[Int.natAbs_natCast ..];show hz
  have r6:∀(s1:S) (av:Hp) (x y b:Nat),Lw w s1 av m->s1.nx=s.nx->((x=48/\y=120/\b=16)\/(x=48/\y=111/\b=8)\/(x=48/\y=66/\b=2))->
    eH B (n+15) X (eQ 6 iJ) [some (.inst 889 1),some (.loc 134),some (.loc 0),some (.int i),some (.int (i.natAbs:Nat)),some (.int 103),some (.str [x,y]),some (.int b)] (P s1++av) (fe Q):=by
   intro s1 av x y b lw1 hx1 hxy;have hb:oS b:=by unfold oS;lia
   have hb2:2<=b/\b<=36:=by clear hxy;rcases hb with rfl|rfl|rfl|rfl<;>show dt rfl
   obtain hl:(fV (i.natAbs:Nat) b).length<=65:=iI _ _;simp only[iJ,fb,fc];symm;show(gF T Js ?_).le (ju);symm;show(pK T (n:=n) hzi hb2 ?_).le (eP rfl);symm;obtain sm1:=lw1.small (fY ‹_› rfl);have nb:=r8 T (n:=n) (s:=s1) (τ:=av) (this:=.num (i.natAbs:Nat)) (args:=[.num b]) (r:=b) sm1 ⟨by unfold eG;show og,by unfold eG at h1 h2 ⊢;lia⟩ (by intro v hv;rwa[List.mem_singleton.mp hv];show⟨by unfold eG;show og,by unfold eG;lia⟩) rfl;obtain eo:xf (.num (i.natAbs:Nat)) (b:Int)=.val (.str (fV (i.natAbs:Nat) b)):=by
    show(if(b:Int)<2\/36<(b:Int) then Oc.thr false else _)=_;show d4 (if_neg (by lia)) (d4 (Int.toNat_natCast ..) rfl)
   rw[eo] at nb;show i7 T (n:=n) (this:=.num (i.natAbs:Nat)) (args:=[.num b]) nb λs2 cb k2=>?_
   show fx (tS lw1 k2) λlw2 hx2=>?_
   show⟨lw2.even,?_⟩;symm;show(pK T (n:=n) hzi hb2 ?_).le (eP rfl);symm;show⟨by simp only[List.length_cons,List.length_nil];unfold eh;lia,?_⟩
   have hg:(SV.str ([x,y]++fV (i.natAbs:Nat) b)).good:=yV _ hb2 [x,y] ⟨by
    intro c hc
    rcases hxy with⟨rfl,rfl,_⟩|⟨rfl,rfl,_⟩|⟨rfl,rfl,_⟩<;>(simp at hc;lia),by simp⟩
   show i7 T (n:=n) (this:=.undef) (args:=[.str ([x,y]++fV (i.natAbs:Nat) b)]) (oc:=.val (.num (i.natAbs:Nat))) (C2 T lw2 hg (Gl hb (by lia) hxy)) λs3 dU k3=>?_
   show fx (tS lw2 k3) λlw3 hx3=>?_
   show⟨lw3.even,?_⟩;symm;show q s3 dU lw3 (hx3.trans (hx2.trans hx1))
  obtain hl10:(fV i 10).length<=65:=iI _ _;simp only[iJ,fb,fc] at r6 ⊢;symm;show(gF T DQ ?_).le (ju);symm;show(gF T Jp ?_).le (ju);symm;show(pK T (n:=n) (b:=10) hz (dt rfl) ?_).le (eP rfl);symm;have ns:=vR T (n:=n) (s:=s) (τ:=τ) (w:=w) (this:=.undef) (args:=[.num i]) lw.okw (by intro v hv;rwa[List.mem_singleton.mp hv];show hi);rw[show strA w [.num i]=fV i 10 from fZ (fY ‹_› rfl)] at ns;show i7 T (n:=n) (this:=.undef) (args:=[.num i]) ns λs1 av k1=>?_
  show fx (tS lw k1) λlw1 hx1=>?_
  show⟨lw1.even,?_⟩;symm;show(pK T (n:=n) (b:=10) hz (dt rfl) ?_).le (eP rfl);symm;show⟨by simp only[List.length_cons,List.length_nil];unfold eh;lia,?_⟩;obtain hg:(SV.str ([32]++fV i 10)).good:=yV _ (dt rfl) [32] ⟨dt rfl,dt rfl⟩;show i7 T (n:=n) (this:=.undef) (args:=[.str ([32]++fV i 10)]) (oc:=.val (.num i)) (C2 T lw1 hg (LH hi)) λs2 cb k2=>?_
  show fx (tS lw1 k2) λlw2 hx2=>?_
  show⟨lw2.even,?_⟩;symm;show⟨dt rfl,?_⟩;obtain hmod:i%3=0\/i%3=1\/i%3=2:=by lia
  have pick:∀(j:Nat) (a:V) (l:List V) (Q':V->Hp->Prop),i%3=(j:Int)->l[j]?=some a->Q' a (P s2++cb)->eO (.lst l) (.int (i%3)) (P s2++cb) Q':=by
   intro j a l Q' e1 e2 h;show fv (List.getElem?_eq_some_iff.mp e2) λhj e3=>?_
   rwa[e1,gM hj,e3];show h
  rcases hmod with e|e|e
  ·show pick 0 _ _ _ e rfl ?_;show r6 s2 cb 48 120 16 lw2 (hx2.trans hx1) (.inl ⟨rfl,rfl,rfl⟩)
  ·show pick 1 _ _ _ e rfl ?_;show r6 s2 cb 48 111 8 lw2 (hx2.trans hx1) (.inr (.inl ⟨rfl,rfl,rfl⟩))
  ·show pick 2 _ _ _ e rfl ?_;show r6 s2 cb 48 66 2 lw2 (hx2.trans hx1) (.inr (.inr ⟨rfl,rfl,rfl⟩))
 simp only[iJ,fb,fc] at rest ⊢;symm;show(xB T (n:=n) lw.okn (by lia) λi nx i1 i2 i3=>?_).le (eP rfl);symm;have fin:=rest i (s.pn nx) τ ⟨i1,i2⟩ lw.pull λs' ai l e=>q s' ai l (by rwa[e];show nx<=_;lia)
 show eB (λh=>?_) (λh=>?_)
 ·rwa[(show(0-i)=((i.natAbs:Nat):Int) by grind)];revert fin;symm;show id
 ·rw[show((i.natAbs:Nat):Int)=i by lia] at fin;revert fin;symm;show id
end
section
variable{s:S}
theorem Lw.succ(h:Lw w s τ m):Lw w s τ (m+1):=by
 have:=h.more (m':=m+1) (ai:=[]) (AD);rw[List.append_nil] at this;show this
theorem Jn(x:Option (Option Int)):Dw x=uA s (match x with|some r=> .val (IH r)|none=> .num):=by
 cases x with
 |none=>rfl
 |some r=>cases r<;>rfl
theorem KY(T:d8 B)(q:Q (.lst (jt.map λp=> .str p.1)) J):d7 B (n+1) 997 [] J Q X:=by
 show T.fn (r:=(uP,0,o9)) rfl rfl [] rfl ?_;rw[o9];symm;show q
theorem FJ(h:Lw w s τ m){x:Option (Option Int)}(k:uC s τ (match x with|some r=> .val (IH r)|none=> .num) s1 av):Lw w s1 av (m+1):=by
 cases x with
 |none=>show lE h (.inl rfl) k
 |some r=>show lE h (.inr (.inr ⟨_,rfl⟩)) k
theorem GA(T:d8 B){v kd:Int}(lw:Lw w s τ m)(hm:m<=20)(ha:args=[]\/∃a,args=[a]/\fG 13 a)(q:∀s' ai,Lw w s' ai (m+1)->s'.nx=s.nx->Q (.bool true) (P s'++ai)):
  eH B (n+16) X (eQ 8 f5) [some (.inst 889 1),some (.loc 134),some (.loc 0),some (.int v),some (.int kd),a5,a6,some (.lst (args.map SV.v)),a8] (P s++τ) (fe Q):=by
 have hv:∀a∈args,fG 13 a:=by
  intro a h;rcases ha with rfl|⟨b,rfl,hb⟩
  ·cases h
  ·rwa[List.mem_singleton.mp h];show hb
 have hg:∀a∈args,a.good:=λa h=>jY (hv a h)
 have hg0:(eK args 0).good:=ie hg 0;have sm:=lw.small (fY ‹_› rfl);have out:eH B (n+16) X (eQ 1 (oQ (eQ 9 f5))) [some (.inst 889 1),some (.loc 134),some (.loc 0),some (.int v),some (.int kd),a5,a6,some (.lst (args.map SV.v)),a8] (P {s with wout:=s.wout++[.str (fm w (eK args 0))]}++τ) (fe Q):=by
  simp only[f5,fb,fc,pO];symm;show(gF T Of ?_).le (ju);symm;obtain lwo:gW w {s with wout:=s.wout++[.str (fm w (eK args 0))]}:=⟨lw.okw.A0,lw.okw.A1,lw.okw.cl,lw.okw.sd,lw.okw.m0,lw.okw.m1,lw.okw.mc,lw.okw.ms,lw.okw.l0,lw.okw.l1⟩;show(i7 T (n:=n+1) (this:=.undef) (args:=args) (GW T lwo ⟨sm.ths,sm.told,sm.out⟩ hg) λs1 av k1=>?_);have lw1:=Hz lw k1;show⟨lw1.even,?_⟩;symm;obtain e:=qF k1;show q s1 av lw1 e
 have text:∀t:List Nat,t=strA w args->eH B (n+16) X (eQ 11 f5) [some (.inst 889 1),some (.loc 134),some (.loc 0),some (.int v),some (.int kd),a5,a6,some (.lst (args.map SV.v)),some (.tup [.int 5,.str t])] (P s++τ) (fe Q):=by
  intro t ht;subst ht;simp only[f5,fb,fc,pO];symm;show(gF T Jp ?_).le (ju);symm;show(i7 T (n:=n+1) (this:=.undef) (args:=args) (vR T lw.okw hg) λs1 av k1=>?_);have lw1:=lE lw (.inr (.inr ⟨_,rfl⟩)) k1;show⟨lw1.even,?_⟩;symm;show q s1 av lw1 (qF k1)
 have hs:∀(h:0<args.length) (Q':V->Hp->Prop) (aa:Hp),Q' (eK args 0).v aa->eO (.lst (args.map SV.v)) (.int 0) aa Q':=λh Q' aa hq=>by
  have:=gM (J:=aa) (Q:=Q') (l:=args.map SV.v) (i:=0) (by rwa[List.length_map ..];show h);rw[Gr h] at this;show this.mpr hq
 have e0:¬0<args.length->eK args 0=.undef:=λh=>by unfold eK;rwa[List.getElem?_eq_none (Nat.le_of_not_lt ‹_›)];rfl
 simp only[f5,fb,fc,pO] at out text ⊢;symm;show eB (λh=>?_) (λh=>?_)
 ·show(gF T DQ ?_).le (ju);symm;show(EX T lw.okw lw.okl lw.wv.len hg (λa h=>(zK lw.wv (hg a h)).2) ⟨τ,rfl⟩ ?_).le (eP rfl);symm;rwa[HL lw.wv hv];rw[Jn (s:=s)];show(i7 T (n:=n+1) (this:=.undef) (args:=args) (qw T lw.okw lw.wv.len hg) λs1 av k1=>?_);have lw1:=FJ lw k1;show⟨lw1.even,?_⟩;symm;show q s1 av lw1 (qF k1)
 ·show⟨dt rfl,dt rfl,dt rfl,eB (λh2=>?_) (λh2=>?_)⟩
  ·rwa[LC];symm;rwa[JW];have z:s.wout.length<=1000000:=by rwa[lw.even.wout];show sm.out
   show eB (λh3=>?_) (λh3=>?_)
   ·rw[List.length_map] at h3;show hs (by simp_all) _ _ ?_;symm;show(lq T lw.okw lw.okl hg0 ⟨τ,rfl⟩ ?_).le (eP rfl);symm;rwa[Gu];show⟨z,out⟩
   ·rw[List.length_map] at h3;rw[e0 (by simp_all)] at out;show(lq T (v:=.undef) lw.okw lw.okl trivial ⟨τ,rfl⟩ ?_).le (eP rfl);symm;rwa[Gu];show⟨z,out⟩
  ·show eB (λh3=>?_) (λh3=>?_)
   ·rw[List.length_map] at h3;obtain this:args=[]:=List.length_eq_zero_iff.mp (by simp_all);have:=text [] (by rwa[this];rfl);revert this;symm;show id
   ·rw[List.length_map] at h3;show hs (by lia) _ _ ?_;symm;show(lq T lw.okw lw.okl hg0 ⟨τ,rfl⟩ ?_).le (eP rfl);symm
    obtain this:=text (fm w (eK args 0)) (by
     clear hv hg hg0 out text hs e0;rcases ha with rfl|⟨a,rfl,_⟩
     ·show absurd rfl h3
     ·rfl)
    revert this;symm;show id
end
section
variable{s:S}
theorem ME(T:d8 B)(lw:Lw w s τ m)(hm:m<=20)(hn:s.nx+30<=1000)(q:∀s' ai,Lw w s' ai (m+1)->s'.nx<=s.nx+20->Q (.bool true) (P s'++ai)):
  d7 B (n+17) 1141 [.inst 889 1,.loc 134,.loc 0] (P s++τ) Q X:=by
 show T.fn (r:=(wx,3,f5)) rfl rfl [_,_,_,none,none,none,none,none,none] rfl ?_;have args:∀(v kd:Int) (args:List SV) (nx:Nat),nx<=s.nx+4->(args=[]\/∃a,args=[a]/\fG 13 a)->
   eH B (n+16) X (eQ 8 f5) [some (.inst 889 1),some (.loc 134),some (.loc 0),some (.int v),some (.int kd),none,none,some (.lst (args.map SV.v)),none] (P (s.pn nx)++τ) (fe Q):=by
  intro v kd args nx hx ha;show GA T (s:=(s.pn nx)) lw.pull hm ha λs' ai l e=>q s' ai l (by rwa[e];show nx<=_;lia)
 have bad:∀(v kd i:Int),i∈([200,300,401,105,208,302,0,100]:List Int)->
   eH B (n+16) X (eQ 1 (oQ (eQ 6 f5))) [some (.inst 889 1),some (.loc 134),some (.loc 0),some (.int v),some (.int kd),none,some (.int i),none,none] (P (s.pn (s.nx+1))++τ) (fe Q):=by
  intro v kd i hi;have lw':Lw w (s.pn (s.nx+1)) τ m:=lw.pull;simp only[f5,fb,fc,pO];symm;show(i7 T (n:=n+1) (this:=.str [97]) (args:=[]) (J0 T lw'.okw (lw'.small (fY ‹_› rfl)) ⟨λc hc=>by rwa[List.mem_singleton.mp hc];decide,dt rfl⟩ hi) λs1 av k1=>?_);have lw1:=lE lw' (.inr (.inl rfl)) k1;show⟨lw1.even,?_⟩;symm;have e:=qF k1;show q s1 av lw1 (by rwa[e];show s.nx+1<=_;show eP rfl)
 simp only[f5,fb,fc,pO] at args bad ⊢;symm;show(gK T lw.okn (by lia) λv h0 h1=>?_).le (eP rfl);symm;have lw':Lw w (s.pn (s.nx+1)) τ m:=lw.pull;obtain hn':((s.pn (s.nx+1)):S).nx=s.nx+1:=rfl;show⟨dt rfl,eB (λh=>?_) (λh=>?_)⟩
 ·show(KY T ?_).le (eP rfl);symm;have hj:(v%13).toNat<(jt.map λp=>V.str p.1).length:=by show _<7;simp_all
  have hs:∀(Q':V->Hp->Prop),eO (.lst (jt.map λp=>V.str p.1)) (.int (v%13)) (P (s.pn (s.nx+1))++τ) Q'=Q' (.str (jt[(v%13).toNat]'(by rw[List.length_map] at hj;show hj)).1) (P (s.pn (s.nx+1))++τ):=by
   intro Q';have:=gM (J:=P (s.pn (s.nx+1))++τ) (Q:=Q') hj;rw[show(((v%13).toNat:Nat):Int)=v%13 by lia,List.getElem_map] at this;show this
  show(hs _).mpr ?_;symm;have hj':(v%13).toNat<jt.length:=by rw[List.length_map] at hj;show hj
  show(G7 T (s:=(s.pn (s.nx+1))) (num:=jt[(v%13).toNat].2) (List.getElem_mem hj') lw' hm (by show s.nx+1+20<=1000;lia) λs' ai l e=>by
   symm
   show q s' ai l (by have:s'.nx<=s.nx+1+15:=e;lia))
 ·show eB (λh7=>?_) (λh7=>eB (λh8=>?_) (λh8=>eB (λh9=>?_) (λh9=>eB (λh10=>?_) (λh10=>?_))))
  ·show(Ko T (s:=(s.pn (s.nx+1))) lw' hm (by show s.nx+1+20<=1000;lia) λs' ai l e=>by
    symm
    show q s' ai l (by have:s'.nx<=s.nx+1+15:=e;lia))
  ·show(vK T (s:=(s.pn (s.nx+1))) lw.okn (by show s.nx+1<=1000;lia) λl hl=>?_).le (eP rfl);symm;show(gF T DQ ?_).le (ju);symm;have lw2:Lw w (s.pn (s.nx+1+1)) τ m:=lw.pull;show(BL T (pM hl).1 (Nat.le_trans (pM hl).2 (dt rfl)) ?_).le (eP rfl);symm;rwa[xC ⟨q7 hl,.inr (.inr (.inr hl))⟩];rw[Jn (s:=(s.pn (s.nx+1+1)))];obtain hg:∀a∈[SV.str l],a.good:=by intro a ha;rwa[List.mem_singleton.mp ha];show jY (m:=13) hl
   have nn:=qw T (n:=n+1) (s:=(s.pn (s.nx+1+1))) (τ:=τ) (w:=w) (this:=.undef) (args:=[.str l]) lw2.okw lw2.wv.len hg;rw[z8] at nn;show(i7 T (n:=n+1) (this:=.undef) (args:=[.str l]) nn λs1 av k1=>?_);have lw3:=FJ lw2 k1;show⟨lw3.even,?_⟩;symm;have e:=qF k1;show q s1 av lw3 (by rwa[e];show s.nx+1+1<=_;simp)
  ·show(MO T (s:=(s.pn (s.nx+1))) lw' hm (by show s.nx+1+20<=1000;lia) λs' ai l e=>by
    symm
    show q s' ai l.succ (by have:s'.nx<=s.nx+1+15:=e;lia))
  ·show⟨dt rfl,dt rfl,dt rfl,?_⟩;have hj:(v/13%8).toNat<(([200,300,401,105,208,302,0,100]:List Int).map V.int).length:=by show _<8;grind
   have hj':(v/13%8).toNat<([200,300,401,105,208,302,0,100]:List Int).length:=hj;have hs:∀(Q':V->Hp->Prop),eO (.lst (([200,300,401,105,208,302,0,100]:List Int).map V.int)) (.int (v/13%8)) (P (s.pn (s.nx+1))++τ) Q'=Q' (.int ([200,300,401,105,208,302,0,100]:List Int)[(v/13%8).toNat]) (P (s.pn (s.nx+1))++τ):=by
    intro Q';have:=gM (J:=P (s.pn (s.nx+1))++τ) (Q:=Q') hj;rw[show(((v/13%8).toNat:Nat):Int)=v/13%8 by omega,List.getElem_map] at this;show this
   show(hs _).mpr ?_;have:=bad v (v%13) _ (List.getElem_mem hj');revert this;symm;show id
  ·show⟨dt rfl,dt rfl,dt rfl,?_⟩;obtain hin:∀(z:Int) (Q':V->Hp->Prop),fa .in_ (.int z) (.lst [.int 3,.int 7]) (P (s.pn (s.nx+1))++τ) Q'=Q' (.bool (([3,7]:List Int).contains z)) (P (s.pn (s.nx+1))++τ):=by
    intro z Q';show nB (Ao (ls:=[3,7]))
   rwa[hin ..];symm;show eB (λh11=>?_) (λh11=>?_)
   ·obtain this:=args v (v%13) [] (s.nx+1) (eP rfl) (.inl rfl);revert this;symm;show id
   ·show(lz T (s:=(s.pn (s.nx+1))) (.inr rfl) lw.okn (by show s.nx+1+3<=1000;lia) λa nx hv hx=>?_).le (eP rfl);symm;obtain this:=args v (v%13) [a] nx (by have:nx<=s.nx+1+3:=hx;assumption) (.inr ⟨a,rfl,hv⟩);revert this;symm;show id
end
section
variable{s:S}
noncomputable def Ee:Nat->eu->eu
 |0,_=> .nil
 |m+1,.cons x r=> .cons x (Ee m r)
 |_+1,.nil=> .nil
theorem NR(T:d8 B){R:Fl->ew->Hp->Prop}:∀(m k:Nat) (b:eu) (U ag:ew) (J aa:Hp),lS n k (Ee m b) U J=some (.next,ag,aa)->eH B n X (eQ m b) ag aa R->eH B n X b U J R:=by
 intro m
 induction m with
 |zero=>
  intro k b U ag J aa h q;cases k with
  |zero=>show eC h
  |succ k=>cases Option.some.inj (show some (Fl.next,U,J)=some (Fl.next,ag,aa) from h);show q
 |succ m ih=>
  intro k b U ag J aa h q;cases k with
  |zero=>show eC h
  |succ k=>cases b with
  |nil=>cases Option.some.inj (show some (Fl.next,U,J)=some (Fl.next,ag,aa) from h);show q
  |cons x r=>
  rwa[xq];show AK h (λbD aj e1 g=>(DU T k).s e1 X _ (ih k r bD ag aj aa g q)) λd bD aj e1 g=>Bool.noConfusion (show false=true from congrArg (λx:Option (Fl×ew×Hp)=>x.elim true λy=>Fl.rec (motive:=λ_=>Bool) true (λ_=>false) y.1) g)
noncomputable def s0(L:List Int):S:={L:=L}
theorem OL{L:List Int}{a11:Option V}{z:V}:lS (n+18) 1000 (Ee 5 (eQ 1 eX)) [some z,some (.loc 0),none,a3,a4,a5,a6,a7,a8,a9,a10,a11] [.sd [(`nums,.lst (L.map .int)),(`next,.int 0)]]=
  some (.next,[some z,some (.loc 0),some (.inst 889 1),a3,a4,a5,a6,a7,a8,a9,a10,a11],P0 (s0 L)):=by ac_rfl
end
section
variable{s:S}
noncomputable def mF(d:Nat)(num sort proto:Int):Hp:=[tR d num sort proto [] 0,.lst [],.sd [],.sd [],.sd []]
noncomputable def Ae(L:List Int)(th:List V)(l:Hp):Hp:=(P0 (s0 L)).set 3 (.lst (I8++th))++l
noncomputable abbrev xa:Ex:=.att (.call 50 235 %[.att (.lv 0) `heap,.lv 1,.sub (.att (.lv 0) `protos) (.lv 1)|.nil]) `number
theorem Rf{L:List Int}:gQ (n+18) 200 xa [some (.inst 889 1),some (.int 1)] (P0 (s0 L))=some (.int 18,Ae L [.inst 140 110] (mF 110 18 1 1)):=by ac_rfl
theorem Qj{L:List Int}:gQ (n+18) 200 xa [some (.inst 889 1),some (.int 1)] (Ae L [.inst 140 110] (mF 110 18 1 1))=some (.int 19,Ae L [.inst 140 110,.inst 140 115] (mF 110 18 1 1++mF 115 19 1 1)):=by ac_rfl
theorem QP{L:List Int}:gQ (n+18) 200 xa [some (.inst 889 1),some (.int 3)] (Ae L [.inst 140 110,.inst 140 115] (mF 110 18 1 1++mF 115 19 1 1))=some (.int 20,Ae L [.inst 140 110,.inst 140 115,.inst 140 120] (mF 110 18 1 1++mF 115 19 1 1++mF 120 20 3 3)):=by ac_rfl
theorem QY{L:List Int}:gQ (n+18) 200 xa [some (.inst 889 1),some (.int 0)] (Ae L [.inst 140 110,.inst 140 115,.inst 140 120] (mF 110 18 1 1++mF 115 19 1 1++mF 120 20 3 3))=some (.int 21,Ae L [.inst 140 110,.inst 140 115,.inst 140 120,.inst 140 125] (mF 110 18 1 1++mF 115 19 1 1++mF 120 20 3 3++mF 125 21 0 0)):=by ac_rfl
theorem L9{vs:List V}(h1:ks.length=vs.length)(h2:ks.Nodup)(e1:V.loc J.length=d)(e2:J++[.sd (ks.zip vs)]=aa)(q:Q d aa):xo ks vs J Q:=by
 subst e1 e2;show⟨h1,h2,q⟩
theorem Dn{i:Int}{v:V}:iu (.loc 130) (.int i) v (P s++τ) K=(s.lists.length<=10000/\K (P {s with lists:=jr s.lists i v}++τ)):=by ac_rfl
theorem Q0:mf (.inst 140 110) sI (.lst xs) (P s++τ) K=(11<=500/\K (P {s with A0:=xs}++τ)):=by ac_rfl
theorem Rc:mf (.inst 140 115) sI (.lst xs) (P s++τ) K=(11<=500/\K (P {s with A1:=xs}++τ)):=by ac_rfl
theorem IB{v:V}:iu (.loc 134) (.str `called) v (P s++τ) K=(8<=10000/\K (P {s with called:=v}++τ)):=by ac_rfl
theorem NU{v:V}:iu (.loc 134) (.str `said) v (P s++τ) K=(8<=10000/\K (P {s with said:=v}++τ)):=by ac_rfl
theorem Kb{v:V}(h1:s.cl=none)(h2:s.sd=none):fz 6 200 305 [.inst 182 2,.int 20,.str qJ,v] (P s++τ)=some (.none,P {s with cl:=some v}++τ):=by
 obtain⟨L,nx,A0,A1,cl,sd,_,_,_,_,_,_,_,_,_,_⟩:=s;dsimp only at h1 h2;subst h1 h2;ac_rfl
theorem Mn{v:V}(h2:s.sd=none):fz 6 200 305 [.inst 182 2,.int 20,.str nH,v] (P s++τ)=some (.none,P {s with sd:=some v}++τ):=by
 obtain⟨L,nx,A0,A1,cl,sd,_,_,_,_,_,_,_,_,_,_⟩:=s;dsimp only at h2;subst h2;cases cl<;>ac_rfl
theorem zO:∀(l:List Int) (acc:List V) (w:Option V),Q (.lst (acc++(l.map (·%98000000)).map .int)) J->ka B n (.bin .mod (.lv 0) (.int 98000000)) (.bool true) 0 Q [w] (l.map .int) J acc
 |[],acc,w,q=>by rwa[List.map_nil,ko];rw[List.map_nil,List.map_nil,List.append_nil] at q;show q
 |i::l,acc,w,q=>by
  rwa[List.map_cons,hK];simp only[gh];symm;show⟨dt rfl,?_⟩;show zO l _ w ?_;rwa[List.append_assoc ..];show q
theorem F5(T:d8 B)(q:eH B (n+18) X (eQ 8 eX) [some (.lst (L0.map .int)),some (.loc 0),some (.inst 889 1),some (.lst [.int 18,.int 19,.int 20,.int 21]),some (.loc 134),none,none,none,none,none,none,none] (P (s0 ((L0.take 40).map (·%98000000)))++[]) (fe Q)):
  eH B (n+18) X eX [some (.lst (L0.map .int)),none,none,none,none,none,none,none,none,none,none,none] [] (fe Q):=by
 have r1:∀L:List Int,L=(L0.take 40).map (·%98000000)->eH B (n+18) X (eQ 1 eX) [some (.lst (L0.map .int)),some (.loc 0),none,none,none,none,none,none,none,none,none,none] [.sd [(`nums,.lst (L.map .int)),(`next,.int 0)]] (fe Q):=by
  intro L hL;subst hL;generalize (L0.take 40).map (·%98000000)=L at q;show NR T 5 1000 _ _ _ _ _ OL ?_;simp only[eX,fb,fc];symm;rwa[gk (ag:=[some (.inst 889 1),none]) qi rfl];have I:=DU T 200;have tt:∀(a b:V) (J:Hp) (K:V->Hp->Prop),K (.bool true) J->eg B (n+18) (λ_ _=>False) (.bool true) true [some a,some b] J K:=by
   intro a b J K h;symm;show h
  rwa[hK];show tt _ _ _ _ (I.x Rf _ false _ ?_);show ka B (n+18) _ _ _ _ _ _ _ _
  rwa[hK];show tt _ _ _ _ (I.x Qj _ false _ ?_);show ka B (n+18) _ _ _ _ _ _ _ _
  rwa[hK];show tt _ _ _ _ (I.x QP _ false _ ?_);show ka B (n+18) _ _ _ _ _ _ _ _
  rwa[hK];show tt _ _ _ _ (I.x QY _ false _ ?_);show ka B (n+18) _ _ _ _ _ _ _ _
  rwa[ko];symm;rwa[JF];symm;obtain hs:∀(J:Hp) (Q':V->Hp->Prop),eO (.lst [.int 18,.int 19,.int 20,.int 21]) (.int 3) J Q'=Q' (.int 21) J:=λJ Q'=>gM (i:=3) (dt rfl)
  show(congrArg id (hs _ _)).mpr ?_;symm;show L9 (d:=.loc 134) (aa:=P (s0 L)++[]) rfl (dt rfl) (by ac_rfl) (by ac_rfl) ?_;show q
 simp only[eX,fb,fc] at r1 ⊢;symm;rwa[JF];symm;obtain h40:∀(l:List V) (Q':V->Hp->Prop),gf (.lst l) .none (.int 40) [] Q'=Q' (.lst (l.take 40)) []:=λl Q'=>FV (j:=40)
 rwa[h40 ..];symm;rwa[gk (ag:=[none]) qi rfl,List.map_take.symm];show zO _ [] none ?_;symm;show L9 (d:=.loc 0) rfl (dt rfl) rfl rfl ?_;show r1 _ rfl
end
section
variable{s:S}
theorem yo:∀vs:List SV,∃ds,j5 (fT J 8) (vs.map SV.v)=some ds/\vM ds=true
 |[]=>⟨[],rfl,rfl⟩
 |v::r=>by
  show d6 (yo r) λds h1 h2=>?_
  obtain⟨d,h3,h4⟩:∃d,fT J 8 v.v=some d/\nd d=true:=by cases v<;>show⟨_,rfl,rfl⟩
  show⟨d::ds,?_,?_⟩
  ·rw[List.map_cons,wm,h3,h1];rfl
  ·rw[zA,h4,h2];rfl
theorem CX{vs:List SV}:fa .ne (.lst (vs.map SV.v)) (.lst (vs.map SV.v)) J Q=Q (.bool false) J:=by
 show d6 (yo (J:=J) vs) λds h1 h2=>?_
 obtain h:fT J 9 (.lst (vs.map SV.v))=some (.list ds):=by
  rwa[(show fT J 9 (.lst (vs.map SV.v))=(j5 (fT J 8) (vs.map SV.v)).map .list from rfl),h1];rfl
 show fj (fT J 9 (.lst (vs.map SV.v))) (λa=>fj (fT J 9 (.lst (vs.map SV.v))) λb=>Q (.bool (!PyData.eqv a b)) J)=_;rwa[h];show Q (.bool (!PyData.eqv (.list ds) (.list ds))) J=_;rwa[qX (.list ds) h2];rfl
noncomputable abbrev jF(a b c d e:Option V)(x y z u:Option V)(L0:List Int):ew:=[some (.lst (L0.map .int)),some (.loc 0),some (.inst 889 1),some (.lst [.int 18,.int 19,.int 20,.int 21]),some (.loc 134),a,b,x,y,z,u,c]
theorem G3(T:d8 B){a b c x y z u:Option V}(lw:Lw w s τ m)(q:Q (.bool true) (P s++τ)):
  eH B n X (eQ 14 eX) (jF a b c none none x y z u L0) (P s++τ) (fe Q):=by
 simp only[eX,fb,fc,ly,lK];symm;obtain h2:∀(l:List V) (Q':V->Hp->Prop),gf (.lst l) .none (.int 2) (P s++τ) Q'=Q' (.lst (l.take 2)) (P s++τ):=λl Q'=>FV (j:=2)
 rwa[h2 ..];symm;show For B n _ none _ _ _ [.int 18,.int 19] _ _
 have ps:PS s (P s++τ):=⟨τ,rfl⟩;rwa[jh];simp only[ia,gh];symm;rwa[lV];symm;rwa[kr];symm;rwa[IV];symm;rwa[GG ps,lw.okw.A0];symm;rwa[rR];symm;rwa[AJ (qf ps) (v:=.lst (w.a0.map SV.v)) (by rw[lw.okl.lists];rfl)];symm;rwa[CX];symm;rwa[jh];simp only[ia,gh];symm;rwa[lV];symm;rwa[kr];symm;rwa[Hq];symm;rwa[Gp ps,lw.okw.A1];symm;rwa[rR];symm;rwa[AJ (qf ps) (v:=.lst ((SV.obj 18::w.a1).map SV.v)) (by rw[lw.okl.lists];rfl)];symm;rwa[(show V.lst (V.tup [.int 6,.int 18]::w.a1.map SV.v)=.lst ((SV.obj 18::w.a1).map SV.v) from rfl),CX];symm;rwa[lR];symm;show q
theorem DJ(T:d8 B){a b c x y z u:Option V}(lw:Lw w s τ m)(q:Q (.bool true) (P s++τ)):
  eH B n X (eQ 13 eX) (jF a b c none none x y z u L0) (P s++τ) (fe Q):=by
 obtain last:∀x,eH B n X (eQ 14 eX) (jF a b c none none x y z u L0) (P s++τ) (fe Q):=λx=>G3 T lw q
 obtain ps:PS s (P s++τ):=⟨τ,rfl⟩;have loop:∀(xs:List V) (x:Option V),(∀v∈xs,∃N L:Nat,v=.int N/\(base++s.ths)[N]?=some (.inst 140 L)/\135<=L/\τ[L-135]?=some (tR L N 3 3 [] 0))->
   For B n (λv U=>some (U.set 7 (some v))) (some 132) s.wrongs (oQ (eQ 13 eX)) (seq B n X (eQ 14 eX) (fe Q)) xs (jF a b c none none x y z u L0) (P s++τ):=by
  intro xs
  induction xs with
  |nil=>
   intro x _;rwa[mZ];show⟨rfl,last x⟩
  |cons v xs ih=>
   intro x h;rwa[jU];show⟨rfl,?_⟩;show ym (h v (.head _)) ?_;rintro N L rfl e2 e3 e4;have next:=ih (some (.int N)) λv m=>h v (.tail _ m)
   have e5:(P s++τ)[L]?=some (tR L N 3 3 [] 0):=by
    rwa[List.getElem?_append_right (by rw[kK];show e3),kK];show e4
   obtain MB:∀Q':V->Hp->Prop,fy (.inst 140 L) tJ (P s++τ) Q'=Q' (.int 3) (P s++τ):=by
    intro Q';have ha:i4 140 tJ=true:=by decide+kernel
    unfold tR at e5;show BP ha e5 rfl
   obtain NB:∀Q':V->Hp->Prop,fy (.inst 140 L) `proto (P s++τ) Q'=Q' (.int 3) (P s++τ):=by
    intro Q';obtain ha:i4 140 [112,114,111,116,111]=true:=by decide+kernel
    unfold tR at e5;show BP ha e5 rfl
   simp only[eX,fb,fc,ly,lK,ia,gh] at next ⊢
   symm;rwa[lV];symm;rwa[kr];symm;rwa[Aw e2];symm;rwa[MB ..];symm;rwa[lV];symm;rwa[kr];symm;rwa[Aw e2];symm;rwa[NB ..];symm;rwa[Dr];symm;obtain hp:∀Q':V->Hp->Prop,eO (.loc 10) (.int 3) (P s++τ) Q'=Q' (.int 3) (P s++τ):=λQ'=>by ac_rfl
   rwa[hp ..];symm;show next
 have:=loop s.wrongs x lw.wr;simp only[eX,fb,fc,ly,lK] at this ⊢;symm;rwa[Du];symm;obtain hi:fF (.loc 132) (P s++τ)=some (s.wrongs,some 132):=rfl;rwa[hi];show this
theorem Fj(T:d8 B){a b x y z u:Option V}(hL:s.L.length<=40)(lw:Lw w s τ 0)(hn:s.nx<=60)(q:∀aa,Q (.bool true) aa):
  eH B (n+18) X (eQ 12 eX) (jF a b none none none x y z u L0) (P s++τ) (fe Q):=by
 have loop:∀(all xs:List V) (s:S) (τ:Hp) (m:Nat) (c:Option V),m+xs.length<=9->Lw w s τ m->s.nx<=60+20*m->
   For B (n+18) (λv U=>some (U.set 11 (some v))) none all (oQ (eQ 12 eX)) (seq B (n+18) X (eQ 13 eX) (fe Q)) xs (jF a b c none none x y z u L0) (P s++τ):=by
  intro all xs
  induction xs with
  |nil=>
   intro s τ m c _ lw _;rwa[lR];show DJ T lw (q _)
  |cons v xs ih=>
   intro s τ m c hm lw hx;rw[List.length_cons] at hm;rwa[jh];have next:=λs' ai l e=>ih s' ai (m+1) (some v) (by lia) l e
   simp only[eX,fb,fc,ly,lK,ia,gh] at next ⊢
   symm;show(ME T (n:=n) lw (by lia) (by lia) λs' ai l e=>?_).le (by simp);symm;show next s' ai l (by lia)
 obtain hlen:s.L.length/5<9:=by lia
 have main:=λxs=>loop xs xs s τ 0 none
 simp only[eX,fb,fc,ly,lK] at main ⊢;symm;rwa[D6];symm;rwa[List.length_map ..];show⟨dt rfl,dt rfl,?_⟩
 by_cases h:(6:Int)<(s.L.length:Int)/5
 ·rwa[if_pos h];show⟨by simp,?_⟩;rwa[js (by simp) (by simp)];show main _ (by rwa[List.length_map ..,List.length_range];simp) lw (by omega)
 ·rwa[if_neg h];show⟨by omega,?_⟩;rwa[js (by lia) (by lia)];show main _ (by rwa[List.length_map ..,List.length_range];lia) lw (by omega)
end
section
variable{s:S}
theorem DP(T:d8 B){vs0 vs1:List SV}{a b x y:Option V}(hL:s.L.length<=40)(hok:oR s)(hn:s.nx<=40)(e:s={(s0 s.L) with nx:=s.nx,A0:=vs0.map SV.v,A1:=.tup [.int 6,.int 18]::vs1.map SV.v,lists:=[(18,.lst (vs0.map SV.v)),(19,.lst (.tup [.int 6,.int 18]::vs1.map SV.v))]})(h0:∀v∈vs0,fG 7 v)(h1:∀v∈vs1,fG 7 v)(z0:vs0.length<=3)(z1:vs1.length<=2)(q:∀aa,Q (.bool true) aa):
  eH B (n+18) X (eQ 11 eX) (jF a b none none none x y none none L0) (P s++[]) (fe Q):=by
 have last:∀(c d:Option SV) (nx:Nat) (z u:Option V),(∀v,c=some v->fG 7 v)->(∀v,d=some v->fG 7 v)->nx<=s.nx+8->
   eH B (n+18) X (eQ 12 eX) (jF a b none none none x y z u L0) (P {s with nx:=nx,cl:=c.map SV.v,sd:=d.map SV.v,called:=(c.getD .undef).v,said:=(d.getD .undef).v}++[]) (fe Q):=by
  intro c d nx z u hc hd hx;show Fj T (w:=⟨vs0,vs1,c,d⟩) hL ⟨hok,⟨h0,h1,hc,hd,z0,z1⟩,?_,?_,?_,?_,?_,?_,?_,?_⟩ (by show nx<=60;omega) q
  ·show⟨by show d4 e rfl,by show d4 e rfl,rfl,rfl,λv hv=>sP (h0 v hv),λv hv=>sP (h1 v hv),λv hv=>sP (hc v hv),λv hv=>sP (hd v hv),by show vs0.length<=4;show fY ‹_› rfl,by show vs1.length<=4;show fY ‹_› rfl⟩
  ·show⟨by rwa[e];rfl,rfl,rfl⟩
  ·show⟨⟨0,by rwa[e];rfl⟩,by rwa[e];rfl,⟨[],by rwa[e];rfl⟩,by rwa[e];rfl,by rwa[e];rfl⟩
  ·intro v hv;rw[e] at hv;cases hv
  all_goals (rw[e];show Nat.le_refl 0)
 have xh:∀(i:Nat) (v:V) (Q':V->Hp->Prop) (J:Hp),([V.int 18,.int 19,.int 20,.int 21][i]?)=some v->Q' v J->eO (.lst [.int 18,.int 19,.int 20,.int 21]) (.int i) J Q':=by
  intro i v Q' J e1 h;show fv (List.getElem?_eq_some_iff.mp e1) λhj e3=>?_
  rwa[gM hj,e3];show h
 have second:∀(c:Option SV) (nx:Nat),(∀v,c=some v->fG 7 v)->nx<=s.nx+4->∀z u,
   For B (n+18) (mT [9,10]) none [.tup [.str `called,.str qJ],.tup [.str `said,.str nH]] (oQ (eQ 11 eX)) (seq B (n+18) X (eQ 12 eX) (fe Q)) [.tup [.str `said,.str nH]]
    (jF a b none none none x y z u L0) (P {s with nx:=nx,cl:=c.map SV.v,called:=(c.getD .undef).v}++[]):=by
  intro c nx hc hx z u;have Ag:s.sd=none:=by rwa[e];rfl
  obtain said0:s.said=(SV.undef).v:=by rwa[e];rfl
  rwa[jU];show⟨trivial,?_⟩;have lt:=λd nx z u=>last c d nx z u hc
  simp only[eX,fb,fc,ly,lK] at lt ⊢;show eH B (n+18) _ _ [some (.lst (L0.map .int)),some (.loc 0),some (.inst 889 1),some (.lst [.int 18,.int 19,.int 20,.int 21]),some (.loc 134),a,b,x,y,some (.str `said),some (.str nH),none] _ _
  symm;show(gK T (s:={s with nx:=nx,cl:=c.map SV.v,called:=(c.getD .undef).v}) hok (by show nx<=1000;omega) λv v0 v1=>?_).le (eP rfl);symm;show⟨dt rfl,eB (λh=>?_) (λh=>?_)⟩
  ·show(lz T (s:={s with nx:=nx+1,cl:=c.map SV.v,called:=(c.getD .undef).v}) (.inl rfl) hok (by show nx+1+3<=1000;omega) λd nx' hd hx'=>?_).le (eP rfl);symm;rwa[NU];show⟨dt rfl,?_⟩;symm;rwa[lV];symm;show xh 2 _ _ _ rfl ?_;symm;rwa[Jv];symm;show(gF T (Mn (s:={s with nx:=nx',cl:=c.map SV.v,called:=(c.getD .undef).v,said:=d.v}) Ag) ?_).le (ju);symm;rwa[mZ];show⟨trivial,?_⟩;show lt (some d) nx' _ _ (by intro v hv;injection hv with hv;subst hv;show hd) (by have:nx'<=nx+1+3:=hx';omega)
  ·rwa[mZ];show⟨trivial,?_⟩;have:=lt none (nx+1) (some (.str `said)) (some (.str nH)) (λv hv=>nomatch hv) (by omega);have e2:({s with nx:=nx+1,cl:=c.map SV.v,sd:=Option.map SV.v none,called:=(c.getD .undef).v,said:=(Option.getD none SV.undef).v}:S)={s with nx:=nx+1,cl:=c.map SV.v,called:=(c.getD .undef).v}:=by
    show({s with nx:=nx+1,cl:=c.map SV.v,sd:=none,called:=(c.getD .undef).v,said:=SV.undef.v}:S)=_;show d4 Ag.symm (d4 said0.symm rfl)
   rw[e2] at this;show this
 have cl0:s.cl=none:=by rwa[e];rfl
 obtain Ag:s.sd=none:=by rwa[e];rfl
 obtain called0:s.called=(SV.undef).v:=by rwa[e];rfl
 simp only[eX,fb,fc,ly,lK] at second ⊢;symm;rwa[jU];show⟨trivial,?_⟩;show eH B (n+18) _ _ [some (.lst (L0.map .int)),some (.loc 0),some (.inst 889 1),some (.lst [.int 18,.int 19,.int 20,.int 21]),some (.loc 134),a,b,x,y,some (.str `called),some (.str qJ),none] _ _
 symm;show(gK T hok (fY ‹_› rfl) λv v0 v1=>?_).le (eP rfl);symm;show⟨dt rfl,eB (λh=>?_) (λh=>?_)⟩
 ·show(lz T (s:=(s.pn (s.nx+1))) (.inl rfl) hok (by show s.nx+1+3<=1000;omega) λd nx' hd hx'=>?_).le (eP rfl);symm;rwa[IB];show⟨dt rfl,?_⟩;symm;rwa[lV];symm;show xh 2 _ _ _ rfl ?_;symm;rwa[Dz];symm;show(gF T (Kb (s:={s with nx:=nx',called:=d.v}) cl0 Ag) ?_).le (ju);symm;show second (some d) nx' (by intro v hv;injection hv with hv;subst hv;show hd) (by have:nx'<=s.nx+1+3:=hx';assumption) _ _
 ·have:=second none (s.nx+1) (λv hv=>nomatch hv) (eP rfl) (some (.str `called)) (some (.str qJ));obtain e2:({s with nx:=s.nx+1,cl:=Option.map SV.v none,called:=(Option.getD none SV.undef).v}:S)=(s.pn (s.nx+1)):=by
   show({s with nx:=s.nx+1,cl:=none,called:=SV.undef.v}:S)=_;show d4 cl0.symm (d4 called0.symm rfl)
  rw[e2] at this;show this
end
section
variable{s:S}
noncomputable def lg:eu->St
 |.cons x _=>x
 |.nil=> .bad
noncomputable def tC:eu->eu
 |.cons (.forT _ _ b) _=>b
 |b=>b
theorem K3{b:eu}{R:Fl->ew->Hp->Prop}(e:eQ k b=.cons (lg (eQ k b)) (eQ (k+1) b))(h:gV B n X (lg (eQ k b)) U J (seq B n X (eQ (k+1) b) R)):eH B n X (eQ k b) U J R:=by
 rwa[e,xq];show h
theorem xh{ls:List V}{v:V}(e1:ls[i]?=some v)(h:Q v J):eO (.lst ls) (.int i) J Q:=by
 obtain⟨hj,e3⟩:=List.getElem?_eq_some_iff.mp e1;rwa[gM hj,e3];show h
section
variable{K:Fl->ew->Hp->Prop}{ls:List V}{l0 u:V}
noncomputable abbrev lk(l0 u:V)(ls:List V)(a b x y:Option V):ew:=[some l0,some (.loc 0),some u,some (.lst ls),some (.loc 134),a,b,x,y,none,none,none]
theorem Qq(T:d8 B)(hok:oR s)(hn:s.nx+13<=1000)(q:∀(vs:List SV) (nx:Nat),(∀v∈vs,fG 7 v)->vs.length<=3->nx<=s.nx+10->K .next (lk l0 u ls (some (.lst (vs.map SV.v))) none none none) (P (s.pn nx)++τ)):
  gV B (n+18) X (lg (eQ 8 eX)) (lk l0 u ls none none none none) (P s++τ) K:=by
 simp only[eX,fb,fc,lg];symm;show(gK T hok (by lia) λv v0 v1=>?_).le (eP rfl);symm;show⟨dt rfl,by grind,?_⟩;rwa[gk (ag:=[some (.loc 134),some (.loc 0),none]) (js (Int.emod_nonneg _ (dt rfl)) (by grind)) rfl];show sr T (n:=n+15) (.inl rfl) (xw:=none) _ (s.pn (s.nx+1)) [] none hok ?_ λvs nx' g1 g2 g3=>?_
 ·show s.nx+1+3*_<=1000;rwa[List.length_map ..,List.length_range];lia
 ·symm;rw[List.length_map,List.length_range] at g2 g3;rwa[List.nil_append ..];show q vs nx' g1 (by grind) (by have:nx'<=s.nx+1+3*(v%4).toNat:=g3;lia)
theorem QL(T:d8 B){a:V}(hok:oR s)(hn:s.nx+13<=1000)(h0:ls[0]?=some (.int 18))(q:∀(vs:List SV) (nx:Nat),(∀v∈vs,fG 7 v)->vs.length<=2->nx<=s.nx+7->K .next (lk l0 u ls (some a) (some (.lst (.tup [.int 6,.int 18]::vs.map SV.v))) none none) (P (s.pn nx)++τ)):
  gV B (n+18) X (lg (eQ 9 eX)) (lk l0 u ls (some a) none none none) (P s++τ) K:=by
 simp only[eX,fb,fc,lg];symm;show xh h0 ?_;symm;show(gK T (n:=n) hok (by lia) λv v0 v1=>?_).le (by simp);symm;show⟨dt rfl,by grind,?_⟩;rwa[gk (ag:=[some (.loc 134),some (.loc 0),none]) (js (by grind) (by grind)) rfl];show sr T (n:=n+15) (.inl rfl) (xw:=none) _ (s.pn (s.nx+1)) [] none hok ?_ λvs nx' g1 g2 g3=>?_
 ·show s.nx+1+3*_<=1000;rwa[List.length_map ..,List.length_range];lia
 ·symm;rw[List.length_map,List.length_range] at g2 g3;rwa[List.nil_append ..];show⟨by simp only[List.length_map,List.length_singleton];unfold eh;grind,?_⟩;show q vs nx' g1 (by grind) (by have:nx'<=s.nx+1+3*(v%3).toNat:=g3;lia)
theorem M6{a b:V}(h0:ls[0]?=some (.int 18))(h1:ls[1]?=some (.int 19))(q:For B n (mT [7,8]) none [.tup [.int 18,a],.tup [.int 19,b]] (tC (eQ 10 eX)) K [.tup [.int 18,a],.tup [.int 19,b]] (lk l0 u ls (some a) (some b) none none) J):
  gV B n X (lg (eQ 10 eX)) (lk l0 u ls (some a) (some b) none none) J K:=by
 simp only[eX,fb,fc,lg,tC] at q ⊢;symm;show xh h0 ?_;symm;show xh h1 ?_;symm;show q
theorem ML{a b:Option V}(hl:s.lists.length<=10000)(q:K .next (lk l0 (.inst 889 1) ls a b (some (.int 18)) (some (.lst xs))) (P {s with lists:=jr s.lists 18 (.lst xs),A0:=xs}++τ)):
  eH B n X (tC (eQ 10 eX)) (lk l0 (.inst 889 1) ls a b (some (.int 18)) (some (.lst xs))) (P s++τ) K:=by
 simp only[eX,fb,fc,tC];symm;rwa[rR];symm;rwa[Dn];show⟨hl,?_⟩;symm;rwa[lV];symm;rwa[kr];symm;rwa[IV];symm;rwa[Q0];show⟨dt rfl,?_⟩;symm;show q
theorem Nb{a b:Option V}(hl:s.lists.length<=10000)(q:K .next (lk l0 (.inst 889 1) ls a b (some (.int 19)) (some (.lst xs))) (P {s with lists:=jr s.lists 19 (.lst xs),A1:=xs}++τ)):
  eH B n X (tC (eQ 10 eX)) (lk l0 (.inst 889 1) ls a b (some (.int 19)) (some (.lst xs))) (P s++τ) K:=by
 simp only[eX,fb,fc,tC];symm;rwa[rR];symm;rwa[Dn];show⟨hl,?_⟩;symm;rwa[lV];symm;rwa[kr];symm;rwa[Hq];symm;rwa[Rc];show⟨dt rfl,?_⟩;symm;show q
theorem N4{as bs:List V}(hl:s.lists=[])(h0:ls[0]?=some (.int 18))(h1:ls[1]?=some (.int 19))(q:K .next (lk l0 (.inst 889 1) ls (some (.lst as)) (some (.lst bs)) (some (.int 19)) (some (.lst bs))) (P {s with lists:=[(18,.lst as),(19,.lst bs)],A0:=as,A1:=bs}++τ)):
  gV B n X (lg (eQ 10 eX)) (lk l0 (.inst 889 1) ls (some (.lst as)) (some (.lst bs)) none none) (P s++τ) K:=by
 show M6 h0 h1 ?_;rwa[jU];show⟨trivial,?_⟩;show jc (a:=lk l0 (.inst 889 1) ls (some (.lst as)) (some (.lst bs)) (some (.int 18)) (some (.lst as))) rfl ?_;show ML (by rwa[hl];show Nat.zero_le _) ?_;rwa[JN];rwa[jU];show⟨trivial,?_⟩;show jc (a:=lk l0 (.inst 889 1) ls (some (.lst as)) (some (.lst bs)) (some (.int 19)) (some (.lst bs))) rfl ?_;show Nb (s:={s with lists:=jr s.lists 18 (.lst as),A0:=as}) (by show(jr s.lists 18 (.lst as)).length<=10000;rwa[hl];show Nat.le_of_ble_eq_true rfl) ?_;rwa[JN];rwa[mZ];show⟨trivial,?_⟩;obtain e:jr (jr s.lists 18 (.lst as)) 19 (.lst bs)=[(18,.lst as),(19,.lst bs)]:=by rwa[hl];rfl
 show K .next _ (P {s with lists:=jr (jr s.lists 18 (.lst as)) 19 (.lst bs),A0:=as,A1:=bs}++τ);rwa[e];show q
end
theorem Kx(T:d8 B){L:List Int}(hL:L.length<=40)(hok:∀i∈L,0<=i/\i<98000000)(q:∀aa,Q (.bool true) aa):
  eH B (n+18) X (eQ 8 eX) (jF none none none none none none none none none L0) (P (s0 L)++[]) (fe Q):=by
 have step:∀{k:Nat} {U:ew} {J:Hp},eQ k eX=.cons (lg (eQ k eX)) (eQ (k+1) eX)->gV B (n+18) X (lg (eQ k eX)) U J (seq B (n+18) X (eQ (k+1) eX) (fe Q))->eH B (n+18) X (eQ k eX) U J (fe Q):=λe h=>K3 e h
 show step rfl (Qq T hok (Nat.le_of_ble_eq_true rfl) ?_);intro vs0 nx h0 z0 x0;rwa[wH];show step rfl (QL T hok ?_ rfl ?_)
 ·show nx+13<=1000;obtain this:nx<=0+10:=x0;omega
 intro vs1 nx' h1 z1 x1;rwa[wH];show step rfl (N4 rfl rfl rfl ?_);rwa[wH];show DP T (L0:=L0) hL hok ?_ rfl h0 h1 z0 z1 q;obtain this:nx<=0+10:=x0;obtain this:nx'<=nx+7:=x1;show nx'<=40
 omega
theorem T3(T:d8 B)(q:∀aa,Q (.bool true) aa):d7 B (n+19) 1146 [.lst (L0.map .int)] [] Q X:=by
 show T.fn (r:=(I1,1,eX)) rfl rfl [_,none,none,none,none,none,none,none,none,none,none,none] rfl ?_;show F5 T ?_;show Kx T (by rwa[List.length_map ..,List.length_take];lia) (λi hi=>?_) q;show d6 (List.mem_map.mp hi) ?_;clear hi;rintro j _ rfl;show⟨Int.emod_nonneg _ (dt rfl),Int.emod_lt_of_pos _ (dt rfl)⟩
end
noncomputable def gO(P:Params)(a:Nat):Obj:=((ZH.Dl P).get a).getD default
noncomputable def PB(x:Option Obj):Bool:=x.any λo=>(alive o).isSome
theorem Ek{o:Obj}(h:(alive o).isSome=true):alive o=some o:=by
 obtain⟨c,d,dt,sl⟩:=o;cases dt<;>first|rfl|show fg h
noncomputable def oz(P:Params)(l:List Nat):Bool:=l.all λa=>PB ((ZH.Dl P).get a)&&decide (a<1147)
theorem jw{P:Params}{l:List Nat}(h:oz P l=true){a:Nat}(m:a∈l):(ZH.hE P).get? a=some (gO P a):=by
 obtain⟨h1,h2⟩:=b2 (List.all_eq_true.mp h a m);obtain⟨o,e,g⟩:=(Option.any_eq_true ..).mp h1;obtain this:gO P a=o:=by unfold gO;rwa[e];rfl
 rwa[this];show(abs_get (of_decide_eq_true h2) e).trans (Ek g)
noncomputable def KA:List Nat:=[39,100,120,140,161,182,203,539,572,633,729,749,777,805,826,889,
 38,99,119,139,160,181,202,538,571,632,728,748,776,804,825,888,
 97,117,726,137,158,179,200,536,569,630,746,767,774,795,802,823,844,851,858,865,872,879,886]
noncomputable def FA:List Nat:=FT.map (·.1)
theorem JG(P:Params):oz P KA=true:=by ac_rfl
theorem OW(P:Params):oz P FA=true:=by ac_rfl
theorem rq(P:Params):oz P [0,1,2,3,123,1146]=true:=by ac_rfl
noncomputable def KF(P:Params):Frag:=KA.map λa=>(a,gO P a)
theorem Ei{β:Type}{f:Nat->β}{o:β}{a:Nat}{l:List Nat}(h:(l.map λb=>(b,f b)).lookup a=some o):a∈l/\o=f a:=by
 obtain⟨l1,l2,e,_⟩:=List.lookup_eq_some_iff.mp h;obtain⟨b,m,q⟩:=List.mem_map.mp (show(a,o)∈l.map λb=>(b,f b) from e▸List.mem_append_right _ (.head _));injection q with q1 q2;clear h e;subst q1;show⟨m,q2.symm⟩
theorem Oo(P:Params):(KF P).In (ZH.hE P):=λa o e=>by
 obtain⟨m,q⟩:=Ei e;rwa[q];show jw (JG P) m
noncomputable def vB(v:Value)(k:String->Bool):Bool:=match v with|.builtin t=>k t|_=>false
noncomputable def vT(v:Value)(k:String->Bool):Bool:=match v with|.type t=>k t|_=>false
noncomputable def tV(v:Value)(k:Str->Bool):Bool:=match v with|.str j _=>k j|_=>false
noncomputable def rV(v:Value)(k:Addr->Bool):Bool:=match v with|.ref j=>k j|_=>false
theorem Mf{v k}(h:vB v k=true):∃j,v=.builtin j/\k j=true:=by cases v<;>first|show⟨_,rfl,h⟩|show fg h
theorem Ak{v k}(h:vT v k=true):∃j,v=.type j/\k j=true:=by cases v<;>first|show⟨_,rfl,h⟩|show fg h
theorem A4{v k}(h:tV v k=true):∃j t,v=.str j t/\k j=true:=by cases v<;>first|show⟨_,_,rfl,h⟩|show fg h
theorem Fe{v k}(h:rV v k=true):∃j,v=.ref j/\k j=true:=by cases v<;>first|show⟨_,rfl,h⟩|show fg h
noncomputable def dD(d:Data)(k:Array DictEntry->Bool):Bool:=match d with|.dict es _=>k es|_=>false
noncomputable def dS(d:Data):Bool:=match d with|.seq _ _=>true|_=>false
noncomputable def dF(d:Data):Bool:=match d with|.func _=>true|_=>false
noncomputable def dC(d:Data):Bool:=match d with|.cls _=>true|_=>false
theorem NO{d k}(h:dD d k=true):∃es n,d=.dict es n/\k es=true:=by cases d<;>first|show⟨_,_,rfl,h⟩|show fg h
theorem LB{d}(h:dS d=true):∃es n,d=.seq es n:=by cases d<;>first|show⟨_,_,rfl⟩|show fg h
theorem Nc{d}(h:dF d=true):∃f,d=.func f:=by cases d<;>first|show⟨_,rfl⟩|show fg h
theorem LJ{d}(h:dC d=true):∃f,d=.cls f:=by cases d<;>first|show⟨_,rfl⟩|show fg h
noncomputable def uG(x:Option (Option Value)):Bool:=x.any Option.isNone
noncomputable def Dy(s:String)(x:Option (Option Value)):Bool:=x.any λy=>y.any λv=>vB v (s==·)
noncomputable def Mk(f:Addr)(x:Option (Option Value)):Bool:=x.any λy=>y.any λv=>rV v (f==·)
noncomputable def MW(x:Option Value):Bool:=x.any λv=>vT v (·== "function")
theorem kH{x}(h:uG x=true):x=some none:=by rcases x with _|_|_<;>first|rfl|show fg h
theorem tq{s x}(h:Dy s x=true):x=some (some (.builtin s)):=by
 rcases x with _|_|v<;>first|show fg h|skip
 obtain⟨t,rfl,g⟩:=Mf h;show d4 (eq_of_beq g) rfl
theorem FW{f x}(h:Mk f x=true):x=some (some (.ref f)):=by
 rcases x with _|_|v<;>first|show fg h|skip
 obtain⟨t,rfl,g⟩:=Fe h;show d4 (eq_of_beq g) rfl
theorem Hb{x}(h:MW x=true):x=some (.type "function"):=by
 rcases x with _|v<;>first|show fg h|skip
 obtain⟨t,rfl,g⟩:=Ak h;show d4 (eq_of_beq g) rfl
noncomputable def Lp(K:Frag)(r:Addr×List (List Nat)):Bool:=Dy "object.__getattribute__" (findIn K (.ref r.1) "__getattribute__")&&uG (findIn K (.ref r.1) "__getattr__")&&hasDictIn K r.1&&
 Dy "object.__setattr__" (findIn K (.ref r.1) "__setattr__")&&plainOver K r.1&&makesIn K r.1&&r.2.all λn=>uG (findIn K (.ref r.1) (sv n))
theorem Md{K:Frag}{C:Addr}{ns:List (List Nat)}(h:Lp K (C,ns)=true):Bj K C ns:=by
 obtain⟨h,h7⟩:=b2 h;obtain⟨h1,h2,h3,h4,h5,h6⟩:=b6 h;show⟨tq h1,kH h2,h3,tq h4,h5,h6,λn m=>kH (List.all_eq_true.mp h7 n m)⟩
noncomputable def methB(K:Frag)(r:Addr×List Nat×Addr):Bool:=Mk r.2.2 (findIn K (.ref r.1) (sv r.2.1))&&MW (typeIn K (.ref r.2.2))
theorem QT(P:Params):jP.all (Lp (KF P))=true:=by ac_rfl
theorem OE(P:Params):mR.all (methB (KF P))=true:=by ac_rfl
noncomputable def Aj(o:Obj):Array DictEntry:=match o.data with
 |.dict es _=>es
 |_=>#[]
noncomputable def Py(o:Obj):Bool:=dD o.data λes=>es.all λe=>tV e.key λ_=>true
theorem JL{h:Heap}{a:Addr}{o:Obj}(e:h.get? a=some o)(b:Py o=true):h.Ns a (nsFind (Aj o)):=by
 obtain⟨es,ep,q,b⟩:=NO b;show⟨o,es,ep,e,q,λx hx=>?_,λ_=>by unfold Aj;show d4 q rfl⟩;obtain⟨j,t,k,_⟩:=A4 (Array.all_eq_true_iff_forall_mem.mp b x hx);show⟨j,t,k⟩
theorem P2(P:Params):Py (gO P 3)=true:=by ac_rfl
theorem xJ{h h':Heap}(k:∀b o,h.get? b=some o->h'.get? b=some o){a:Addr}{o:Obj}{m}(e:h.get? a=some o)(n:h'.Ns a m):h.Ns a m:=by
 obtain⟨o',es,ep,e',r⟩:=n;show⟨_,es,ep,Option.some.inj ((k _ _ e).symm.trans e')▸e,r⟩
noncomputable def QG(l:List Nat):Bool:=decide (l.length<=eh)&&l.all λc=>decide (c<1114112)
noncomputable def IQ(k:String)(o:Obj):Bool:=vT o.cls (·==k)&&o.dict.isNone&&dS o.data&&o.slots.size==0
noncomputable def I2(o:Obj):List Value:=match o.data with|.seq is _=>is.toList|_=>[]
theorem GK{k:String}{o:Obj}{R:Prop}(h:IQ k o=true)(r:∀is n,o={cls:=.type k,data:=.seq is n}->I2 o=is.toList->R):R:=by
 obtain⟨h1,h2,h3,h4⟩:=b4 h;clear h;obtain⟨c,d,dt,sl⟩:=o;obtain⟨t,e1,g⟩:=Ak h1;obtain⟨is,n,e2⟩:=LB h3;show r is n ?_ (congrArg (λx=>I2 ⟨c,d,x,sl⟩) e2:);show d4 (show c=.type k from e1.trans (by rw[eq_of_beq g])) (d4 (show d=none from Option.isNone_iff_eq_none.mp h2) (d4 (show dt=_ from e2) (d4 (show sl=#[] from Array.eq_empty_of_size_eq_zero (eq_of_beq h4)) rfl)))
noncomputable def iV(v:Value)(k:Int->Bool):Bool:=match v with|.int j _=>k j|_=>false
noncomputable def nV(v:Value):Bool:=match v with|.none=>true|_=>false
noncomputable def bV(v:Value)(k:Bool->Bool):Bool:=match v with|.bool j=>k j|_=>false
theorem Q2{P:Value->Prop}{v k}(h:iV v k=true)(g:∀j t,k j=true->P (.int j t)):P v:=by cases v<;>first|show g _ _ h|show fg h
theorem Ri{P:Value->Prop}{v k}(h:tV v k=true)(g:∀j t,k j=true->P (.str j t)):P v:=let⟨j,t,e,q⟩:=A4 h;e▸g j t q
theorem Q1{P:Value->Prop}{v}(h:nV v=true)(g:P .none):P v:=by cases v<;>first|show g|show fg h
theorem Q3{P:Value->Prop}{v k}(h:bV v k=true)(g:∀j,k j=true->P (.bool j)):P v:=by cases v<;>first|show g _ h|show fg h
theorem AQ{P:Value->Prop}{v k}(h:rV v k=true)(g:∀j,k j=true->P (.ref j)):P v:=let⟨j,e,q⟩:=Fe h;e▸g j q
mutual
noncomputable def IW(P:Params):V->Value->Bool
 |.int i,v=>iV v λj=>decide (i=j)
 |.str l,v=>tV v λs=>s==sv l&&QG l
 |.none,v=>nV v
 |.bool b,v=>bV v λc=>b==c
 |.stat a,v=>rV v λb=>a==b
 |.sdct l,v=>rV v λb=>b==123&&EF l [([48,120],.int 16),([48,111],.int 8),([48,98],.int 2)]
 |.tup xs,v=>rV v λa=>oz P [a]&&IQ "tuple" (gO P a)&&decide (xs.length<=eh)&&zw P xs (I2 (gO P a))
 |.lst xs,v=>rV v λa=>oz P [a]&&IQ "list" (gO P a)&&decide (xs.length<=eh)&&zw P xs (I2 (gO P a))
 |.dct _,_=>false
 |.loc _,_=>false
 |.inst _ _,_=>false
 |.rng _ _,_=>false
noncomputable def zw(P:Params):List V->List Value->Bool
 |[],l=>l0 l true
 |x::xs,l=>lc l λv vs=>IW P x v&&zw P xs vs
end
noncomputable def OV(P:Params)(v:Option Value)(d:V):Bool:=v.any (IW P d)
noncomputable def mg(P:Params):Str->Option Value:=nsFind (Aj (gO P 3))
noncomputable def FX(o:Obj):Bool:=dF o.data
noncomputable def PN(o:Obj):Bool:=vT o.cls (·== "type")&&dC o.data
noncomputable def QV(P:Params):V->Bool
 |.stat a=>PB ((ZH.Dl P).get a)&&decide (a<1147)&&(FX (gO P a)||PN (gO P a))
 |_=>true
theorem Jb(P:Params):Gt.all (λp=>OV P (mg P (sv p.1)) p.2&&QV P p.2)=true:=by ac_rfl
theorem Kq(P:Params)(f:BF):mg P (jO f)=none:=by cases f<;>ac_rfl
theorem Sy(P:Params):mR.all (λr=>KA.contains r.2.2&&FX (gO P r.2.2))=true:=by ac_rfl
theorem Bh{o:Obj}(h:FX o=true):∃fd,o.data=.func fd:=Nc h
theorem MG{o:Obj}(h:PN o=true):∃cd,o.cls=.type "type" /\o.data=.cls cd:=by
 obtain⟨h1,h2⟩:=b2 h;obtain⟨t,e,g⟩:=Ak h1;obtain⟨cd,e2⟩:=LJ h2;show⟨cd,eq_of_beq g▸e,e2⟩
theorem Ld(P:Params):gO P 123=⟨.type "dict",none,.dict #[ZH.de P (ZH.z "0x") 409 (.int 16 410),ZH.de P (ZH.z "0o") 411 (.int 8 412),ZH.de P (ZH.z "0b") 413 (.int 2 414)] 3,#[]⟩:=by ac_rfl
theorem Li(w:World):(gO w.params 123).IsDictOf (strKind pw w) [(sv [48,120],.int 16 410),(sv [48,111],.int 8 412),(sv [48,98],.int 2 414)]:=by
 rwa[Ld ..];show⟨_,_,⟨rfl,rfl,rfl⟩,rfl,?_,.cons (by ac_rfl) rfl (.cons (by ac_rfl) rfl (.cons (by ac_rfl) rfl .nil)),by decide+kernel⟩;intro e he;simp only[List.mem_toArray,List.mem_cons,List.not_mem_nil,or_false] at he;rcases he with rfl|rfl|rfl<;>show⟨_,by ac_rfl,rfl⟩
mutual
theorem G6{B:eD}:∀{d:V} {v:Value},IW B.w.params d v=true->Rep B (ZH.hE B.w.params).get? [] d v
 |.int i,v,h=>by
  apply Q2 h;intro j t g;show of_decide_eq_true g▸.int
 |.str l,v,h=>by
  apply Ri h;intro j t g;rwa[eq_of_beq (b2 g).1];show .str ⟨of_decide_eq_true (b2 (b2 g).2).1,λc hc=>of_decide_eq_true (List.all_eq_true.mp (b2 (b2 g).2).2 c hc)⟩
 |.none,v,h=>by
  apply Q1 h;show .none
 |.bool b,v,h=>by
  apply Q3 h;intro j g;show eq_of_beq g▸.bool
 |.stat a,v,h=>by
  apply AQ h;intro j g;show eq_of_beq g▸.stat
 |.sdct l,v,h=>by
  apply AQ h;intro j g;rwa[eq_of_beq (b2 g).1,yd _ _ (b2 g).2];show .sdct (jw (rq _) (dt rfl)) (Li B.w) rfl (.cons .int (.cons .int (.cons .int .nil))) (dt rfl)
 |.tup xs,v,h=>by
  apply AQ h;intro j g;have g:=b4 g;apply GK g.2.1;intro is n e1 e2;show .tup ((jw g.1 (.head _)).trans (congrArg some e1)) (xY (e2▸g.2.2.2)) (of_decide_eq_true g.2.2.1)
 |.lst xs,v,h=>by
  apply AQ h;intro j g;have g:=b4 g;apply GK g.2.1;intro is n e1 e2;show .lst ((jw g.1 (.head _)).trans (congrArg some e1)) (xY (e2▸g.2.2.2)) (of_decide_eq_true g.2.2.1)
 |.dct _,_,h=>fg h
 |.loc _,_,h=>fg h
 |.inst _ _,_,h=>fg h
 |.rng _ _,_,h=>fg h
theorem xY{B:eD}:∀{ds:List V} {vs:List Value},zw B.w.params ds vs=true->eT (Rep B (ZH.hE B.w.params).get? []) ds vs
 |[],vs,h=>by apply iy h;intro _;show .nil
 |x::xs,vs,h=>by
  apply jR h;intro v vs h;show .cons (G6 (b2 h).1) (xY (b2 h).2)
end
section
variable(w:World)(mb:Str->Option Value)
noncomputable def xM(hb:(ZH.hE w.params).Ns builtinsNs mb)(hbo:∀x:Str,x≠ "__name__" ->mb x=bootBuiltins x)(hl:(ZH.hE w.params).NoLimit)(hd:∃mc,(ZH.hE w.params).Ns cStatics mc/\mc "sys.int_max_str_digits" =none):eD where
 w:=w
 K:=KF w.params
 h₀:=ZH.hE w.params
 mg:=mg w.params
 mb:=mb
 inK:=Oo _
 g:=JL (jw (rq _) (dt rfl)) (P2 _)
 b:=hb
 builtins:=hbo
 nolimit:=hl
 last:=⟨_,by rwa[(show(ZH.hE w.params).objs.size=1147 from absHeap_size ..)];show jw (rq _) (dt rfl)⟩
 nodigits:=hd
 cls:=λC ns m=>Md (List.all_eq_true.mp (QT _) _ m)
 meth:=λC n f m=>by
  have h:=b2 (List.all_eq_true.mp (OE w.params) _ m);show⟨FW h.1,Hb h.2⟩
end
section
variable{w:World}{mb:Str->Option Value}{hb:(ZH.hE w.params).Ns builtinsNs mb}{hbo:∀x:Str,x≠ "__name__" ->mb x=bootBuiltins x}{hl:(ZH.hE w.params).NoLimit}{hd:∃mc,(ZH.hE w.params).Ns cStatics mc/\mc "sys.int_max_str_digits" =none}
theorem Kl:o6 (xM w mb hb hbo hl hd) where
 glob i n d e:=by
  obtain⟨v,e1,e2⟩:=(Option.any_eq_true ..).mp (b2 (List.all_eq_true.mp (Jb w.params) _ (List.mem_of_getElem? e))).1;show⟨v,e1,G6 (B:=xM w mb hb hbo hl hd) e2⟩
 noglob f:=Kq w.params f
 callee i n a e:=by
  obtain⟨h1,h2⟩:=b2 (b2 (List.all_eq_true.mp (Jb w.params) _ (List.mem_of_getElem? e))).2;have q:(ZH.hE w.params).get? a=some (gO w.params a):=jw (l:=[a]) (by unfold oz;rwa[List.all_cons,h1];rfl) (.head _);rcases(Bool.or_eq_true ..).mp h2 with k|k
  ·obtain⟨fd,k⟩:=Bh k;show .inl ⟨_,fd,q,k⟩
  ·obtain⟨cd,k1,k2⟩:=MG k;show .inr ⟨_,cd,q,k1,k2⟩
 methods r m:=by
  obtain⟨h1,h2⟩:=b2 (List.all_eq_true.mp (Sy w.params) r m);obtain⟨fd,k⟩:=Bh h2;show⟨_,fd,jw (JG _) (List.contains_iff_mem.mp h1),k⟩
end
noncomputable def TL:FuncData:={name:=default,qualname:=default,params:=default,body:=.stmts [],scope:=default,globals:=0,closure:=[],defaults:=.none,kwdefaults:=.none,pyModule:=.none,code:=.none}
noncomputable def vY(o:Obj):FuncData:=match o.data with|.func fd=>fd|_=>TL
theorem LF{o:Obj}(h:FX o=true):o.data=.func (vY o):=by
 obtain⟨fd,e⟩:=Bh h;unfold vY;show d4 e rfl
noncomputable def DW(fd:FuncData):List Stmt:=match fd.body with|.stmts l=>l|_=>[]
noncomputable def DT(fd:FuncData):Bool:=match fd.body with|.stmts _=>true|_=>false
theorem Km{fd:FuncData}(h:DT fd=true):fd.body=.stmts (DW fd):=by
 unfold DT at h;unfold DW;generalize fd.body=b at h;cases b<;>first|rfl|show fg h
noncomputable def dL(d:Data)(k:Array Value->Bool):Bool:=match d with|.fields vs=>k vs|_=>false
theorem Nv{d k}(h:dL d k=true):∃vs,d=.fields vs/\k vs=true:=by cases d<;>first|show⟨_,rfl,h⟩|show fg h
noncomputable def I0(P:Params)(cd:Value)(q:Str):Bool:=rV cd λc=>oz P [c]&&dL (gO P c).data λvs=>(vs[1]?:Option Value).any λv=>tV v (·==q)
theorem KQ{P:Params}{cd:Value}{q:Str}(h:I0 P cd q=true):(ZH.hE P).CodeRec cd q:=by
 apply AQ h;intro c h;obtain⟨vs,e,h2⟩:=Nv (b2 h).2;obtain⟨v,e',h2⟩:=(Option.any_eq_true ..).mp h2;obtain⟨j,t,rfl,h2⟩:=A4 h2;show⟨_,_,_,_,rfl,jw (b2 h).1 (.head _),e,eq_of_beq h2▸e'⟩
noncomputable def PC(k:Option NameKind):Bool:=k==some .local||k==some .cell
theorem Nx{k}(h:PC k=true):k=some .local\/k=some .cell:=((Bool.or_eq_true ..).mp h).imp eq_of_beq eq_of_beq
noncomputable def Sn(sc:Scope):Bool:=sc.kind==.function&& !sc.isCoroutine&& !sc.isGenerator
noncomputable def Sb(P:Params)(fd:FuncData)(r:List (List Nat)×Nat×eu):Bool:=
 DT fd&&I0 P fd.code fd.qualname&&fd.closure.isEmpty&&decide (fd.globals=mainGlobals)&&decide (fd.builtins=builtinsNs)&&Sn fd.scope&&iK r.1 fd.scope r.2.2 (DW fd)&&
  r.1.all (λl=>kn l&&PC (fd.scope.names.lookup (sv l)))&&decide (r.2.1<=r.1.length)&&decide r.1.Nodup
noncomputable def Pd(P:Params)(r:Addr×List (List Nat)×Nat×eu):Bool:=FX (gO P r.1)&&Sb P (vY (gO P r.1)) r.2
abbrev Jl(P:Params)(r:Addr×List (List Nat)×Nat×eu):Prop:=
 ∀vals:List Value,vals.length=r.2.2.1->∀s:Shared,(∀b o,(ZH.hE P).get? b=some o->s.heap.get? b=some o)->BindsTo s (vY (gO P r.1)) ⟨vals,[]⟩ (((r.2.1.take r.2.2.1).map sv).zip vals)
theorem Og{B:eD}(hh:B.h₀=ZH.hE B.w.params){r:Addr×List (List Nat)×Nat×eu}(hm:r∈FT)(h:Pd B.w.params r=true)(hb:Jl B.w.params r):pz B r.1 r.2.1 r.2.2.1 r.2.2.2:=by
 obtain⟨a,ns,np,b⟩:=r;obtain⟨h0,h⟩:=b2 h;obtain⟨h,h7,h8,h9,h10⟩:=b5 h;obtain⟨h1,h2,h3,h4,h5,h6⟩:=b6 h;obtain q:B.h₀.get? a=some (gO B.w.params a):=hh▸jw (OW _) (List.mem_map.mpr ⟨_,hm,rfl⟩)
 have h6:=b3 h6;show⟨⟨_,_,_,q,LF h0,Km h1,hh▸KQ h2,List.isEmpty_iff.mp h3,of_decide_eq_true h4,of_decide_eq_true h5,eq_of_beq h6.1,(Bool.not_eq_true' _).mp h6.2.1,(Bool.not_eq_true' _).mp h6.2.2,h7,λl hl=>(b2 (List.all_eq_true.mp h8 l hl)).imp_right Nx,λvals hv s k=>hb vals hv s (hh▸k)⟩,of_decide_eq_true h9,of_decide_eq_true h10⟩
theorem Q8(P:Params):FT.all (Pd P)=true:=by ac_rfl
noncomputable def Ju(a:Nat):Bool:=a==97||a==117
noncomputable def Fn(n:Nat):List (Addr×List (List Nat)×Nat×eu):=FT.filter λr=>r.2.2.1==n&& !Ju r.1
theorem om{α β:Type}{f g:α->β}{l:List α}(h:l.map f=l.map g):∀r∈l,f r=g r:=List.map_inj_left.mp h
noncomputable abbrev gB(P:Params)(vs:List Value)(r:Addr×List (List Nat)×Nat×eu):Sem (List (Str×Value)):=bindArgs (vY (gO P r.1)) ⟨vs,[]⟩
noncomputable abbrev gP(vs:List Value)(r:Addr×List (List Nat)×Nat×eu):Sem (List (Str×Value)):=pure (((r.2.1.take r.2.2.1).map sv).zip vs)
theorem RT(P:Params):(Fn 0).map (gB P [])=(Fn 0).map (gP []):=by ac_rfl
theorem So(P:Params)(a:Value):(Fn 1).map (gB P [a])=(Fn 1).map (gP [a]):=by ac_rfl
theorem TN(P:Params)(a b:Value):(Fn 2).map (gB P [a,b])=(Fn 2).map (gP [a,b]):=by ac_rfl
theorem Td(P:Params)(a b c:Value):(Fn 3).map (gB P [a,b,c])=(Fn 3).map (gP [a,b,c]):=by ac_rfl
theorem Tj(P:Params)(a b c d:Value):(Fn 4).map (gB P [a,b,c,d])=(Fn 4).map (gP [a,b,c,d]):=by ac_rfl
theorem TO(P:Params)(a b c d e:Value):(Fn 5).map (gB P [a,b,c,d,e])=(Fn 5).map (gP [a,b,c,d,e]):=by ac_rfl
theorem Se(P:Params)(a b c d e f:Value):(Fn 6).map (gB P [a,b,c,d,e,f])=(Fn 6).map (gP [a,b,c,d,e,f]):=by ac_rfl
theorem TG:FT.all (λr=>decide (r.2.2.1<=6))=true:=by ac_rfl
theorem LV(P:Params)(a b:Value){s:Shared}(k:∀b o,(ZH.hE P).get? b=some o->s.heap.get? b=some o):BindsTo s (vY (gO P 97)) ⟨[a,b],[]⟩ (((gC.take 2).map sv).zip [a,b]):=
 BindsTo.of_defaults (T:=90) (o:=gO P 90) (by ac_rfl) (k _ _ (jw (l:=[90]) (by ac_rfl) (.head _))) (items:=#[.str (ZH.z "") 293]) (n:=0) (by ac_rfl) rfl (by ac_rfl)
theorem KG(P:Params)(a b:Value){s:Shared}(k:∀b o,(ZH.hE P).get? b=some o->s.heap.get? b=some o):BindsTo s (vY (gO P 117)) ⟨[a,b],[]⟩ (((gA.take 2).map sv).zip [a,b]):=
 BindsTo.of_defaults (T:=110) (o:=gO P 110) (by ac_rfl) (k _ _ (jw (l:=[110]) (by ac_rfl) (.head _))) (items:=#[.str (ZH.z "") 320]) (n:=0) (by ac_rfl) rfl (by ac_rfl)
theorem Qi:FT.all (λr=> !Ju r.1||(r.1==97&&r.2.1==gC&&r.2.2.1==2)||(r.1==117&&r.2.1==gA&&r.2.2.1==2))=true:=by ac_rfl
@[elab_as_elim] theorem O6{R:List α->Prop}{l:List α}(h:l.length=0)(g:R []):R l:=(List.length_eq_zero_iff.mp h)▸g
@[elab_as_elim] theorem Pz{R:List α->Prop}{l:List α}(h:l.length=n+1)(g:∀a l,l.length=n->R (a::l)):R l:=by
 cases l with
 |nil=>show absurd h (Nat.succ_ne_zero n).symm
 |cons a l=>show g a l (Nat.succ.inj h)
@[elab_as_elim] theorem PR{R:List α->Prop}{l:List α}(h:l.length=2)(g:∀a b,R [a,b]):R l:=Pz h λa _ h=>Pz h λb _ h=>O6 h (g a b)
@[elab_as_elim] theorem CE{R:List α->Prop}{l:List α}(h:l.length<=n+1)(g0:R [])(g:∀a l,l.length<=n->R (a::l)):R l:=by
 cases l with
 |nil=>show g0
 |cons a l=>show g a l (Nat.le_of_succ_le_succ h)
@[elab_as_elim] theorem RO{R:List α->Prop}{l:List α}(h:l.length<=0)(g:R []):R l:=O6 (Nat.le_zero.mp h) g
theorem Sp{R:List α->Prop}(h0:R [])(h1:∀a,R [a])(h2:∀a b,R [a,b])(h3:∀a b c,R [a,b,c])(h4:∀a b c d,R [a,b,c,d])(h5:∀a b c d e,R [a,b,c,d,e])(h6:∀a b c d e f,R [a,b,c,d,e,f]){l:List α}(h:l.length<=6):R l:=
 CE h h0 λa _ h=>CE h (h1 a) λb _ h=>CE h (h2 a b) λc _ h=>CE h (h3 a b c) λd _ h=>CE h (h4 a b c d) λe _ h=>CE h (h5 a b c d e) λf _ h=>RO h (h6 a b c d e f)
theorem binds{P:Params}{r:Addr×List (List Nat)×Nat×eu}(m:r∈FT):Jl P r:=by
 intro vals hv s k;have q:=List.all_eq_true.mp Qi r m;rw[Bool.or_eq_true,Bool.or_eq_true] at q;rcases q with(q|q)|q
 ·show .of_eq (Sp (R:=λl=>r∈Fn l.length->gB P l r=gP l r) (λz=>om (RT P) r z) (λa z=>om (So P a) r z) (λa b z=>om (TN P a b) r z) (λa b c z=>om (Td P a b c) r z) (λa b c d z=>om (Tj P a b c d) r z) (λa b c d e z=>om (TO P a b c d e) r z) (λa b c d e f z=>om (Se P a b c d e f) r z) (hv▸of_decide_eq_true (List.all_eq_true.mp TG r m)) (List.mem_filter.mpr ⟨m,?_⟩));rwa[hv,beq_self_eq_true ..,Bool.true_and ..];show q
 ·obtain⟨e1,e2,e3⟩:=b3 q;rwa[eq_of_beq e1,eq_of_beq e2,eq_of_beq e3];show PR (R:=λvals=>BindsTo s (vY (gO P 97)) ⟨vals,[]⟩ (((gC.take 2).map sv).zip vals)) (hv.trans (eq_of_beq e3)) λx y=>LV P x y k
 ·obtain⟨e1,e2,e3⟩:=b3 q;rwa[eq_of_beq e1,eq_of_beq e2,eq_of_beq e3];show PR (R:=λvals=>BindsTo s (vY (gO P 117)) ⟨vals,[]⟩ (((gA.take 2).map sv).zip vals)) (hv.trans (eq_of_beq e3)) λx y=>KG P x y k
noncomputable def QJ(P:Params):Bool:=
 Dy "BaseException.__getattribute__" (findIn (KF P) (.ref 729) "__getattribute__")&&(mroIn (KF P) 729 (.type "BaseException")==some true)&&uG (findIn (KF P) (.ref 729) "__getattr__")&&uG (findIn (KF P) (.ref 729) (sv lZ))&&hasDictIn (KF P) 729&&
 uG (takerIn (KF P) 729 (sv lZ))&&uG (takerIn (KF P) 100 (sv mY))&&uG (takerIn (KF P) 100 (sv tD))&&uG (takerIn (KF P) 120 (sv mY))&&uG (takerIn (KF P) 120 (sv tD))&&
 ([(729,726),(100,97),(120,117)]:List (Nat×Nat)).all λp=>Dy "object.__setattr__" (findIn (KF P) (.ref p.1) "__setattr__")&&Mk p.2 (findIn (KF P) (.ref p.1) "__init__")&&MW (typeIn (KF P) (.ref p.2))
theorem Rj(P:Params):QJ P=true:=by ac_rfl
theorem QI(P:Params):([0,1,2]:List Nat).all (λi=>([0,1,2]:List Nat).all λj=>mroIn (KF P) (gn i) (.ref (gn j))==some (decide (i=j)))=true:=by ac_rfl
theorem Sh(P:Params):(KF P).lookup 729=some (excClassObj (ZH.z "ScriptThrow") (ZH.z "ScriptThrow") 729 728 [.type "Exception"] (([]:List Addr).map Value.ref++fO) true [] [] false none none (some (.ref 713)) none (some (.str (ZH.z "ScriptThrow") 1264)) (some (.str (ZH.z "ScriptThrow") 1272)) (some (.bool true)) "Exception.__new__"):=by ac_rfl
theorem MB(P:Params):(KF P).lookup 100=some (excClassObj (ZH.z "NumberOut") (ZH.z "NumberOut") 100 99 [.ref 39] (([39]:List Addr).map Value.ref++fO) true [] [] false none none (some (.ref 83)) none (some (.str (ZH.z "NumberOut") 281)) (some (.str (ZH.z "NumberOut") 289)) (some (.bool true)) "Exception.__new__"):=by ac_rfl
theorem NB(P:Params):(KF P).lookup 120=some (excClassObj (ZH.z "HostFault") (ZH.z "HostFault") 120 119 [.ref 39] (([39]:List Addr).map Value.ref++fO) true [] [] false none none (some (.ref 103)) none (some (.str (ZH.z "HostFault") 308)) (some (.str (ZH.z "HostFault") 316)) (some (.bool true)) "Exception.__new__"):=by ac_rfl
theorem Oz(P:Params):([sG,ph,oZ,s9,kL,xK,tg]:List Nat).all (λC=>Dy "object.__init__" (findIn (KF P) (.ref C) "__init__"))=true:=by ac_rfl
section
variable{w:World}{mb:Str->Option Value}{hb:(ZH.hE w.params).Ns builtinsNs mb}{hbo:∀x:Str,x≠ "__name__" ->mb x=bootBuiltins x}{hl:(ZH.hE w.params).NoLimit}{hd:∃mc,(ZH.hE w.params).Ns cStatics mc/\mc "sys.int_max_str_digits" =none}
theorem zG{r:Addr×List (List Nat)×Nat×eu}(m:r∈FT):pz (xM w mb hb hbo hl hd) r.1 r.2.1 r.2.2.1 r.2.2.2:=Og rfl m (List.all_eq_true.mp (Q8 w.params) r m) (binds m)
theorem LP:lB (xM w mb hb hbo hl hd):=by
 have h:=Rj w.params;obtain h10:=(b2 h).2;have h':=b6 (b2 h).1;have h:=b5 h'.1;have cl:∀C f,(C,f)∈([(729,726),(100,97),(120,117)]:List (Nat×Nat))->findIn (KF w.params) (.ref C) "__setattr__" =some (some (.builtin "object.__setattr__"))/\findIn (KF w.params) (.ref C) "__init__" =some (some (.ref f))/\typeIn (KF w.params) (.ref f)=some (.type "function"):=λC f m=>
  have q:=b3 (List.all_eq_true.mp h10 _ m)
  ⟨tq q.1,FW q.2.1,Hb q.2.2⟩
 have sub:=QI w.params
 exact{
  sub:=λi j hi hj=>by
   have mem:∀k,k<3->k∈([0,1,2]:List Nat):=dt rfl;show eq_of_beq (List.all_eq_true.mp (List.all_eq_true.mp sub i (mem i hi)) j (mem j hj))
  ga:=tq h.1
  be:=eq_of_beq h.2.1
  gt:=kH h.2.2.1
  own:=kH h.2.2.2.1
  hd:=h.2.2.2.2
  c0:=⟨⟨_,_,_,_,_,_,_,_,_,_,_,_,_,_,_,Sh w.params⟩,(cl _ _ (.head _)).1,(cl _ _ (.head _)).2.1,(cl _ _ (.head _)).2.2⟩
  v0:=kH h'.2.1
  f0:=⟨ji,zG (r:=(726,ji,2,mh)) (List.mem_of_getElem? (i:=59) rfl)⟩
  c1:=⟨⟨_,_,_,_,_,_,_,_,_,_,_,_,_,_,_,MB w.params⟩,(cl _ _ (.tail _ (.head _))).1,(cl _ _ (.tail _ (.head _))).2.1,(cl _ _ (.tail _ (.head _))).2.2⟩
  n1:=kH h'.2.2.1
  t1:=kH h'.2.2.2.1
  f1:=⟨gC,zG (r:=(97,gC,2,nD)) (.head _)⟩
  c2:=⟨⟨_,_,_,_,_,_,_,_,_,_,_,_,_,_,_,NB w.params⟩,(cl _ _ (.tail _ (.tail _ (.head _)))).1,(cl _ _ (.tail _ (.tail _ (.head _)))).2.1,(cl _ _ (.tail _ (.tail _ (.head _)))).2.2⟩
  n2:=kH h'.2.2.2.2.1
  t2:=kH h'.2.2.2.2.2
  f2:=⟨gA,zG (r:=(117,gA,2,nz)) (.tail _ (.head _))⟩}
theorem HG:d8 (xM w mb hb hbo hl hd) where
 good:=Kl
 exc:=LP
 fns _ m:=zG m
 init0 C m:=tq (List.all_eq_true.mp (Oz w.params) C m)
end
theorem NH{P:WData->Prop}{x:WData}(h:WShape.has [] x .int=true)(g:∀i,P (.int i)):P x:=by
 cases x<;>first|show g _|show fg h
theorem Kc{xs:List WData}{P:Prop}(h:WShape.hasItems [] xs .int=true)(g:∀l:List Int,xs=l.map WData.int->P):P:=by
 induction xs generalizing P with
 |nil=>show g [] rfl
 |cons x xs ih=>
  have h:=b2 h;show ih h.2 λl e=>?_
  rw[e] at g;revert g;apply NH h.1;show λi g=>g (i::l) rfl
theorem K5{P:WData->Prop}{x:WData}(h:WShape.has [] x (.list .int)=true)(g:∀l:List Int,P (.list (l.map WData.int))):P x:=by
 cases x with
 |list xs=>show Kc ((Bool.or_false _).symm.trans h) λl e=>e▸g l
 |_=>show fg h
theorem La{P:List WData->Prop}{args:List WData}(h:WShape.hasAll [] args [.list .int]=true)(g:∀l:List Int,P [.list (l.map WData.int)]):P args:=by
 cases args with
 |nil=>show fg h
 |cons x r=>
  have h:=b2 h;cases r with
  |nil=>apply K5 h.1;show g
  |cons _ _=>show fg h.2
theorem GJ{P:Params}{F:Addr->Option Obj}:∀{l:List Int} {vs:List Value},WellAll P h vs (l.map WData.int)->eT (Rep B F []) (l.map V.int) vs:=by
 intro l
 induction l with
 |nil=>intro vs w;cases w;show .nil
 |cons i l ih=>
  intro vs w;cases w with
  |cons a r=>cases a;show .cons .int (ih r)
theorem KN{R:Prop}{args:List WData}(h:ZH.hU.row.toRowW.claim.pre args=true)(g:∀l:List Int,l.length<=63->args=[.list (l.map WData.int)]->R):R:=by
 have h:=b2 (show(WShape.hasAll [] args [.list .int]&&(ZH.hU.row.toRowW.pre).holds [] {args:=args})=true from h);revert g;have h2:=h.2;revert h2;apply La h.1;intro l h2 g;show g l (Nat.le_of_not_lt λc=>?_) rfl;rw[show ZH.hU.row.toRowW.pre=.and (.not (.lt (.lit (.int 63)) (.len (.arg 0)))) (.lit (.bool true)) from rfl] at h2;obtain hl:less? (.int 63) (.int (l.length:Int))=some (decide ((63:Int)<l.length)):=rfl;obtain c':(63:Int)<(l.length:Int):=by show Int.ofNat_lt.mpr ‹_›
 simp[WTm.holds,WTm.value,hl,c'] at h2
theorem Hf(args:List WData):ZH.hU.row.toRowW.claim.post args (.bool true) args=true:=by ac_rfl
theorem D7(args:List WData)(c:ExcName):ZH.hU.row.toRowW.claim.raises args c=false:=by ac_rfl
noncomputable abbrev NC:Prop:=∀{B:eD} {L0:List Int} {X:fD->Hp->Prop} {Q:V->Hp->Prop},d8 B->(∀aa,Q (.bool true) aa)->d7 B 19 1146 [.lst (L0.map .int)] [] Q X
theorem Kv(law:NC){C:_}{M:_}(T:d8 B)(Y:∀b o,B.h₀.get? b=some o->s.heap.get? b=some o)(sz:B.h₀.objs.size<=s.heap.objs.size)(g:s.gens=#[]){l:List Int}(hlen:l.length<=63){b:Addr}(hobj:s.heap.get? b=some {cls:=Value.type "list",data:=Data.seq vs.toArray})(hall:WellAll B.w.params s.heap vs (l.map .int)):
  wpAny (model ZH.hU.row.prog B.w) callerA (PySem.call (.ref 1146) [.ref b])
   (λv s'=>GoodWG ZH.hU.row.toRowW.claim C M [.list (l.map .int)] s (Except.ok (Flow.ret v)) s')
   (λe s'=>GoodWG ZH.hU.row.toRowW.claim C M [.list (l.map .int)] s (Except.error e) s') s:=by
 obtain I:ef B [] ⟨s.heap.get?,[]⟩ [] s.heap:={
  base:=Y
  frozen:=λ_ _ e=>e
  len:=rfl
  nodup:=.nil
  sep:=λ_ h=>nomatch h
  low:=λ_ h=>nomatch h
  size:=sz
  objs:=λ_ _ _ h=>nomatch h
  frames:=λ_ h=>nomatch h}
 show law (L0:=l) (X:=λ_ _=>False) (Q:=λd _=>d=.bool true) T (λ_=>rfl) callerA [] _ s [.ref b] _ _ ⟨rfl,rfl,dt rfl,dt rfl⟩ I %[.lst (n:=0) hobj (GJ hall) ?_|.nil] ?_ λ_ _ _ _ _ _ _ _ _ f=>f.elim
 ·rwa[List.length_map ..];show Nat.le_trans hlen (dt rfl)
 ·intro v s' W' aa d e i r q k;subst k;cases r;show⟨.inl ⟨_,.bool true,[],rfl,D7 _,.bool true,Hf _,λ_=>⟨.nil,λ_ m=>nomatch m⟩⟩,.of_keep (λa o h=>e.exact_ h (λm=>nomatch m) (λm=>nomatch m)),q.os,.of_eq (q.gens.trans g)⟩
theorem M7{w:World}{mg:Str->Option Value}(Y:ZH.I3 w h)(G:h.Ns mainGlobals mg)(e:mg ZH.dl.name=some (.ref a)):a=1146:=by
 have e1:nsFind (Aj (gO w.params 3)) ZH.dl.name=some (.ref 1146):=by ac_rfl
 obtain n1:h.Ns mainGlobals (nsFind (Aj (gO w.params 3))):=(JL (jw (rq w.params) (dt rfl)) (P2 w.params)).keeps Y;rw[n1.eq_nsMap] at e1;rw[G.eq_nsMap,e1] at e;injection e with e;injection e with e;show e.symm
theorem Ie{R:List Value->Prop}{P:Params}{vals:List Value}{ds:List WData}(w:WellAll P h vals [.list ds])(g:∀b vs,h.get? b=some {cls:=Value.type "list",data:=Data.seq vs.toArray}->WellAll P h vs ds->R [.ref b]):R vals:=by
 cases w with
 |cons v n=>
  cases n;cases v with
  |list o a=>show g _ _ o a
theorem QE(law:NC):
  WalkO ZH.vq ZH.CH (λ_ _=>True) ZH.I3 ZH.hU.row.toRowW ZH.dl [] λf vs=>PySem.call f vs:=by
 intro w s₀ ae mg' mb G Y a o pm cd doc dV kV ho hd hcd hdf hmg hgens args vals as hpre hlay hr hwell hlow;rwa[M7 Y G.T.g hmg];apply KN hpre;intro l hlen e;rw[e] at hwell ⊢;apply Ie hwell;intro b vs hobj hall;obtain⟨ob,eb⟩:∃o,(ZH.hE w.params).get? builtinsNs=some o:=⟨_,jw (rq _) (dt rfl)⟩;obtain⟨os,es⟩:∃o,(ZH.hE w.params).get? cStatics=some o:=⟨_,jw (rq _) (dt rfl)⟩;show Kv law (B:=xM w mb (xJ Y eb G.T.b) G.T.builtins (let⟨mc,n,q⟩:=G.T.nolimit;⟨mc,xJ Y es n,q⟩) (let⟨mc,n,q⟩:=G.T.nodigits;⟨mc,xJ Y es n,q⟩)) HG Y ?_ hgens hlen hobj hall;obtain e:=Y 1146 _ (jw (rq w.params) (dt rfl));show(ZH.hE w.params).objs.size<=_
 rwa[(show(ZH.hE w.params).objs.size=1147 from absHeap_size ..)];show Heap.lt_size e
end
end Mine
theorem PySem.Challenge.cw_qd0081_01_holds : PySem.Challenge.rw_qd0081_01.Holds := by
  exact ZH.QX (Mine.QE fun T q => Mine.T3 (n := 0) T q)
