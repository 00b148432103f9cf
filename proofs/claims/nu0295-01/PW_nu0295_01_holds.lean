import PyProof.Rows.All
import Wide.All
import OpenK.AllK
import Wide.FinOn
import Lean
import PySem.Challenge.RW_nu0295_01
set_option tactic.hygienic false
set_option maxRecDepth 100000
set_option maxHeartbeats 0
set_option Elab.async false
set_option linter.all false
set_option genInjectivity false
set_option genSizeOf false
set_option genCtorIdx false
set_option bootstrap.genMatcherCode false
open PySem PySem.W PyProof.Rows
namespace Internal
open _root_.Option renaming some->ae,none->ah,some->aC,casesOn->a_,map_eq_some_iff->anA,map->aoD,map_some->apL,isSome_iff_exists->apS
open _root_.Bool renaming true->af,false->ag,and_eq_true->aP,casesOn->aS,false_ne_true->anI,noConfusion->anS,false_eq_true->aoG,and_true->aoY,and_false->aoZ,not_eq_true'->apn,or_eq_true->apx,or_false->apC
open PySem renaming Addr->ai,Value->aj,Params->aw,Expr->az,Shared->aA,Heap->aD,World->aF,OsState->aM,eval->aN,Stmt->aQ,NameKind->aR,wpAny_bind->aV,PyData->aW,Around->a9,wpAny_pure->bf,call->bo,model->bp,DictEntry->bw,assign->bE,valueAt->bO,Builtin->bP,sizeLine_eq->bQ,evalEach->bR,compareOp->anv,starEach->anx,BoolOp->anD,standAt->anE,markedEach->anF,wpAny_standAt->anG,storedH->anP,backTo->anQ,Keeper->anR,FuncData->aoa,intKind->aob,mainGlobals->aoq,wpAny_holding->aor,callEnvC->aos,treeTable->aoH,strKind_is->aoI,sysModules->aoJ,swappedStores->aoK,intKind_is->aph,wpAny_mono->api,assignEach->apj,wpAny_truthy_bool->apI
open _root_.Nat renaming le_of_eq->ak,le_trans->aq,add_le_add->ar,le_refl->av,add->ax,le_of_ble_eq_true->ay,beq->aG,sub->aJ,ble->a0,le_antisymm->a7,le_max_right->a8,mul->bb,mul_le_mul_right->bc,le_add_right->bq,le_max_left->bv,le_succ->bz,add_le_add_left->bF,zero_le->bH,le_of_lt_succ->alT,le_of_add_right_le->ank,succ_le_succ->ano,min_eq_left->anp,casesOn->ant,le_of_succ_le_succ->anu,le_succ_of_le->anJ,add_mul->anM,max_le->anY,add_assoc->aoc,add_comm->aod,eq_of_beq_eq_true->aog,succ->aon,zero_add->aoo,mul_add->aop,le_of_add_le_add_right->aou,ne_of_lt->aoz,le_of_lt->aoA,le_of_succ_le->aoF,not_lt->aoT,add_right_comm->aoX,add_le_add_right->apg,le_total->apk,sub_eq_zero_of_le->apl,lt_of_le_of_lt->apt,lt_of_lt_of_le->apu,succ_ne_self->apw,lt_succ_self->apz,lt_of_succ_lt_succ->apE,mul_le_mul_left->apF,zero_mul->apG,add_mul_mod_self_left->apH,sub_add_cancel->apJ,succ_eq_add_one->apQ,le_of_not_lt->apU
open PySem.Str renaming ofString->au
open _root_.Exists renaming elim->aB
open _root_.List renaming casesOn->aE,mem_cons->aI,mem_append_right->aK,map_cons->aL,mem_append_left->aU,length_map->aX,mem_cons_of_mem->aY,mem_cons_self->a4,nodup_cons->bh,cons->bj,append_assoc->bk,mem_append->bn,all_eq_true->br,lookup_cons->bu,length_append->bA,append_nil->bB,mem_map->bC,mem_singleton->bD,map_append->bG,reverse_cons->bM,length_reverse->bN,mem_map_of_mem->bS,length->aln,range->anq,getElem?_eq_some_iff->anB,length_cons->anC,flatMap_append->anK,map_fst_zip->anV,Sublist->anW,reverse_append->anX,mem_singleton_self->anZ,getElem?_map->aoh,mem_of_getElem?->aoi,nodup_append->aoj,map_map->aok,nodup_nil->aol,any_cons->aox,zip_cons_cons->aoB,length_drop->aoC,lookup->aoL,map_snd_zip->aoQ,range_succ_eq_map->aoR,map_reverse->aoU,eraseDups_cons->aoV,take_append_drop->aoW,flatMap_cons->apa,range_succ->apb,reverse_singleton->apc,singleton_append->apd,drop_zero->apf,map_inj_left->apm,any_eq_true->apo,find?_cons->apq,mem_filter->apr,getElem?_eq_none_iff->apv,filterMap_cons_some->apA,length_take->apB,mem_flatMap->apD,mem_iff_getElem?->apM,getElem?_zip_eq_some->apN,getElem?_eq_getElem->apO,map_congr_left->apP,drop_eq_nil_of_le->apR,mem_reverse->apT,filter_cons_of_neg->apV,eq_nil_of_length_eq_zero->aqc
open _root_.Int renaming natCast_nonneg->aH,le_refl->aO,le_trans->bg,le_of_eq->bt,add_le_add->bx,ofNat_le->bJ,ofNat_lt->anH,le_antisymm->anL,add_le_add_left->aoe,le_of_add_le_add_right->aov,toNat_natCast->ape,eq_ofNat_of_zero_le->apy
open PySem.Expr renaming casesOn->aT
open PySem.W.Fast renaming tw14364793385576792824->aZ,tw10110043849684766642->a3,sEq_iff->apK,te14364793385576792824->apW,tw12908688711261696721->apX,tw2436336058641802641->apY,tw2368527892694137696->apZ,tw17960256430627541270->aqa,tw9446332074065402090->aqb
open PySem.W renaming SharedT->a5,piecesOf->a6,piece_app->bl,segRun_of->bm,Looks->bI,instObj->anl,emptyDict->anw,boot_heap->anN,dictOf->anO
open PySem.Heap renaming lt_size->bK,get?_push_of_some->anm,get?_push_size->anr,SameBut->aof
open PySem.Value renaming type->bL,casesOn->anT,int->anU,ref->aot,str->aoM
open _root_.Prod renaming fst->ans,snd->aom
open PySem.PyData renaming keyHash->anz,depthAll->aoP,canLayAll0->aps
open PySem.Data renaming seq->aow,fields->aoS
open _root_.Array renaming length_toList->aoy,getElem?_toList->aoN
open _root_.Decidable renaming em->aoE
open PySem.Spec renaming countIn->aoO
local macro_rules |`(tactic|cbv)=>`(tactic|kernel_rfl)
local macro_rules |`(tactic|k_is)=>`(tactic|simp+arith)
noncomputable section
set_option backward.match.sparseCases false
noncomputable abbrev dW:Program:=PySem.Challenge.pw_nu0295_01
noncomputable def b8(s:String):Str:=au s
noncomputable def F5:List aQ->Nat->aQ
 |[],_=>.Pass ⟨0,0,0,0⟩
 |s::_,0=>s
 |_::r,n+1=>F5 r n
noncomputable def b3(i:Nat):aQ:=F5 dW.main.body i
noncomputable def e6(i j:Nat):aQ:=match b3 i with
 |.ClassDef _ _ _ b _ _ _ _ _ _ _=>F5 b j
 |s=>s
noncomputable def oF(s:aQ):DefRec:=match s with
 |.FunctionDef name args body _ _ _ a _ _ pos=>⟨name,args,body,a,pos⟩
 |_=>⟨b8 "",⟨[],[],ah,[],[],ah,[]⟩,[],⟨.module,[],ag,ag,[]⟩,⟨0,0,0,0⟩⟩
noncomputable def LW(s:aQ)(a:Str):aoa:={name:=(oF s).name,qualname:=a,params:=(oF s).params,body:=.stmts (oF s).body,scope:=(oF s).scope,globals:=0,closure:=[],defaults:=.none,kwdefaults:=.none}
noncomputable def w1(s:aQ)(a:Str)(b pm code:aj):aoa:={name:=(oF s).name,qualname:=a,params:=(oF s).params,body:=.stmts (oF s).body,scope:=(oF s).scope,globals:=3,closure:=[],defaults:=b,kwdefaults:=.none,pyModule:=pm,code}
noncomputable def i_(i:Int):aj:=.int i 0
noncomputable def gW(s:String)(t:Nat):aj:=.str (b8 s) t
noncomputable def lG(l:List aj):Obj:={cls:=.type "tuple",data:=.seq l.toArray 0}
noncomputable def nd(l:List aj):Obj:={cls:=.none,data:=.fields l.toArray}
noncomputable def vt(c:String)(l:List aj):Obj:={cls:=.type c,data:=.fields l.toArray}
noncomputable def LX(l:List (Option aj)):Obj:={cls:=.type "frame",slots:=l.toArray}
noncomputable def ja(P:aw)(s:String)(t:Nat)(v:aj):bw:=⟨anz P (b8 s),.str (b8 s) t,v⟩
noncomputable def hl(c:aj)(l:List bw)(n:Nat):Obj:={cls:=c,data:=.dict l.toArray n}
noncomputable def LY(f:aoa):Obj:={cls:=.none,data:=.func f}
noncomputable def rZ(f:aoa):Obj:={cls:=.type "function",data:=.func f}
noncomputable def vu(name:Str)(b m:List aj)(n:ai)(c:Str)(hd:Bool)(sub:List aj)(ab a:Bool)(sl:List (Option aj)):Obj:=
 {cls:=.type "type",data:=.cls {name:=name,bases:=b,mro:=m,ns:=n,qualname:=c,hasDict:=hd,subclasses:=sub,abstract:=ab,hasDel:=a},slots:=sl.toArray}
noncomputable def y8:String:="/claim/cut.py"
noncomputable def t4(i:Nat)(n q:String)(a:Nat)(l c t:Int)(u:Nat):Obj:=vt "code" [gW n a,gW q (a+1),gW y8 (a+2),i_ l,i_ c,i_ 0,i_ 0,i_ 3,.ref (i-3),.bool af,i_ 181,.ref (i-2),.none,.none,.none,.ref (i-1),i_ t,i_ l,gW y8 u]
noncomputable def mP(i:Nat)(n:String)(a:Nat)(l c t:Int)(u:Nat):Obj:=vt "code" [gW n a,gW n (a+1),gW y8 (a+2),i_ l,i_ c,i_ 0,i_ 0,i_ 0,.ref (i-2),.bool ag,i_ 181,.ref (i-1),.none,.none,.none,.none,i_ t,i_ l,gW y8 u]
noncomputable def b0:Obj:=lG []
noncomputable def c':Obj:=nd []
noncomputable def LZ(i k:Nat)(q m:String)(t:Nat):Obj:=rZ (w1 (b3 k) (b8 q) .none (gW m t) (.ref (i-1)))
noncomputable def fz(k l:Nat)(q:String):Obj:=LY (LW (e6 k l) (b8 q))
noncomputable def cx(l:List String)(t:Nat):Obj:=lG (l.zipIdx.map λa=>gW a.1 (t+a.2))
noncomputable def gC(x:Int)(s:Nat)(y:Int)(t:Nat):Obj:=lG [.int x s,.int y t]
noncomputable def O(o:Obj)(a b:BT):BT:=.node o a b
noncomputable def lf(o:Obj):BT:=.node o .nil .nil
noncomputable def ed:aj:=gW "gemrows.compileflow" 312
noncomputable def eg:aj:=gW "gemrows.rows" 1121
noncomputable def eI:aj:=gW "gemrows.compile" 1727
noncomputable def mj:aj:=gW "gemrows.errors" 224
noncomputable def kf:aj:=gW "gemrows.nodes" 758
noncomputable def jb:aj:=gW "law_nu0295_01" 2108
noncomputable def nf(a:Nat):Obj:=vt "builtin_function_or_method" [.builtin "object.__init_subclass__",.ref a]
noncomputable def ng:Obj:=vt "builtin_function_or_method" [.builtin "type.__prepare__",.type "type"]
noncomputable def qY(t a:Nat):Obj:=vt "getset_descriptor" [gW "__weakref__" t,.ref a,.builtin "ExceptionGroup.__weakref__",.none]
noncomputable def r0(t a:Nat):Obj:=vt "getset_descriptor" [gW "__dict__" t,.ref a,.builtin "function.__dict__",.builtin "function.__dict__#set"]
noncomputable def nh(a:Nat):Obj:=vt "super" [.ref a,.ref a,.ref a]
noncomputable def ni(a b:Nat)(m:aj):Obj:=LX [ae (.ref a),ae (.ref 3),ae (.ref b),ah,ae m,ah,ae (.ref 0)]
noncomputable def qZ(a b:Nat)(q:String)(c:Nat)(m:aj)(e:Nat):Obj:=rZ (w1 (e6 a b) (b8 q) (.ref c) m (.ref e))
noncomputable def s8(n:String)(a b c d:Nat):Obj:=vu (b8 n) [.type "object"] [.ref a,.type "object"] b (b8 n) af [] ag ag [ah,ah,ae (gW n c),ae (gW n d),ae (.builtin "object.__new__"),ae (.bool af)]
noncomputable def oG:List Nat->List aj
 |a::b::c::r=>i_ a::i_ b::.ref c::oG r
 |_=>[]
noncomputable def gG(i k l:Nat)(q:String)(m:aj):Obj:=rZ (w1 (e6 k l) (b8 q) .none m (.ref (i-1)))
noncomputable def ih(P:aw)(t:Nat)(v:aj):bw:=ja P "__module__" t v
noncomputable def nj(P:aw)(t:Nat)(x:String)(u:Nat):bw:=ja P "__qualname__" t (gW x u)
noncomputable def ii(P:aw)(t:Nat)(i:Int)(u:Nat):bw:=ja P "__firstlineno__" t (.int i u)
noncomputable def ij(P:aw)(t a:Nat):bw:=ja P "__static_attributes__" t (.ref a)
noncomputable def jc(P:aw)(t a:Nat):bw:=ja P "__init__" t (.ref a)
noncomputable def bU(P:aw)(x:String)(t a:Nat):bw:=ja P x t (.ref a)
noncomputable def nk(k:Nat):Str:=(oF (b3 k)).name
noncomputable def L0(s:Str)(t:Nat):aj:=.str s t
noncomputable def ff(k:Nat):Obj:=LY (LW (b3 k) (nk k))
noncomputable def fA(i k:Nat)(m:aj):Obj:=rZ (w1 (b3 k) (nk k) .none m (.ref (i-1)))
noncomputable def L1(i:Nat)(n q:Str)(a:Nat)(l c t:Int)(u:Nat):Obj:=vt "code" [L0 n a,L0 q (a+1),gW y8 (a+2),i_ l,i_ c,i_ 0,i_ 0,i_ 3,.ref (i-5),.bool af,i_ 181,.ref (i-4),.none,.ref (i-3),.ref (i-2),.ref (i-1),i_ t,i_ l,gW y8 u]
noncomputable def fU(i k a:Nat)(l c:Int)(t:Nat):Obj:=L1 i (nk k) (nk k) a l c t (t+1)
noncomputable def fE(i j k:Nat)(q:String)(a:Nat)(l c:Int)(t:Nat):Obj:=L1 i (oF (e6 j k)).name (b8 q) a l c t (t+1)
noncomputable def e7(P:aw)(k t a:Nat):bw:=⟨anz P (nk k),.str (nk k) t,.ref a⟩
noncomputable def iv:String:="compiler"
noncomputable def fv:String:="self"
noncomputable def hz:String:="name"
noncomputable def kA:String:="value"
noncomputable def kT:String:="wanted"
noncomputable def oH:String:="target"
noncomputable def mQ:String:="maker"
noncomputable def nq:String:="body"
noncomputable def pB:String:="block"
noncomputable def w2:String:="receiver"
noncomputable def qp:String:="kind"
noncomputable def ha:String:="dict"
noncomputable def t5:String:="params"
noncomputable def C3(P:aw):Obj:=hl (.type ha) [bU P "nil" 760 391,bU P "true" 762 392,bU P "false" 764 393,bU P fv 766 394,bU P "retry" 768 395,bU P "int" 770 396,bU P "sym" 773 397,bU P "str" 776 398,bU P "dstr" 779 399,bU P "array" 782 400,bU P "hash" 785 401,bU P "range" 788 402,bU P "splat" 793 403,bU P "lvar" 796 404,bU P "ivar" 799 405,bU P "gvar" 802 406,bU P "const" 805 407,bU P "t_local" 809 409,bU P "t_ivar" 812 410,bU P "t_gvar" 815 411,bU P "t_const" 818 412,bU P "t_index" 821 413,bU P "t_attr" 825 414,bU P "t_splat" 829 415,bU P "t_group" 832 416,bU P "assign" 835 417,bU P "masgn" 839 418,bU P "opasgn" 843 419,e7 P 3 848 420,bU P "vcall" 855 421,bU P pB 858 422,bU P "blockpass" 862 423,bU P "and" 865 424,bU P "or" 869 425,bU P "not" 873 427,bU P "super" 876 428,bU P "yield" 880 429,bU P "lambda" 883 430,bU P "defined" 887 431,bU P "seq" 890 432,bU P "if" 893 433,bU P "while" 898 434,bU P "case" 903 435,bU P "casein" 908 436,bU P "matchp" 913 437,bU P "matchq" 917 438,bU P "begin" 921 439,bU P "break" 927 440,bU P "next" 930 441,bU P "return" 933 442,bU P "def" 936 443,bU P "class" 942 445,bU P "module" 946 446,bU P "sclass" 949 447,bU P "alias" 952 448,bU P "undef" 955 449,bU P "p_value" 957 450,bU P "p_bind" 959 451,bU P "p_pin" 961 452,bU P "p_alt" 963 453,bU P "p_as" 965 454,bU P "p_array" 968 455,bU P "p_hash" 973 456] 63
noncomputable def C4(P:aw):Obj:=hl (.type ha) [bU P "push" 1500 820,bU P "text" 1504 821,bU P "pop" 1508 822,bU P "dup" 1512 823,bU P "dup2" 1516 824,bU P "swap" 1520 825,bU P "tuck" 1524 755,bU P fv 1526 826,bU P "getl" 1530 827,bU P "setl" 1534 828,bU P "geti" 1538 829,bU P "seti" 1542 830,bU P "getg" 1546 831,bU P "setg" 1550 832,bU P "getc" 1554 833,bU P "getcin" 1558 834,bU P "setc" 1562 835,bU P "list" 1566 762,bU P "append" 1568 837,bU P "joinlists" 1572 838,bU P "spread" 1576 839,bU P "table" 1580 769,bU P "range" 1582 840,bU P "totext" 1586 841,bU P "texts" 1590 762,bU P "send" 1592 776,bU P "super" 1594 783,bU P "zsuper" 1596 790,bU P "yield" 1598 797,bU P "jump" 1600 842,bU P "jumpif" 1604 843,bU P "jumpunless" 1608 844,bU P "jumpnil" 1612 845,bU P "lambda" 1616 846,bU P "def" 1620 848,bU P "sdef" 1624 849,bU P "class" 1628 804,bU P "module" 1630 850,bU P "sclass" 1634 851,bU P "alias" 1638 852,bU P "undef" 1642 853,bU P "leave" 1646 854,bU P "out" 1650 855,bU P "again" 1654 856,bU P "caught" 1658 857,bU P "setcaught" 1662 858,bU P "defined" 1666 811,bU P "spreadto" 1668 818,bU P "respond" 1670 859,bU P "islist" 1674 860,bU P "istable" 1678 861,bU P "listfits" 1682 863,bU P "listat" 1685 864,bU P "listpart" 1688 865,bU P "tablehas" 1691 866,bU P "tableat" 1694 867,bU P "tablerest" 1697 868,bU P "tableonly" 1700 869,bU P "nomatch" 1703 870,bU P "blockgiven" 1706 871] 60
noncomputable def Tv(P:aw):List bw:=[e7 P 0 193 21,e7 P 2 204 29,e7 P 3 215 37,e7 P 4 223 44,bU P "GemError" 253 62,bU P "BadSyntax" 279 82,bU P "BadRows" 295 94,bU P "BadArgument" 311 106,bU P "Loop" 372 146,bU P "Part" 439 195,bU P "EnsuredPart" 473 223,bU P "HandlerPart" 509 249,e7 P 15 517 258,e7 P 16 525 265,e7 P 17 535 272,e7 P 18 544 279,e7 P 19 558 286,e7 P 20 567 293,e7 P 21 583 300,e7 P 22 600 307,e7 P 23 613 314,e7 P 24 626 321,e7 P 25 637 328,e7 P 26 650 335,e7 P 27 666 342,e7 P 28 685 349,e7 P 29 706 356,e7 P 30 718 363,e7 P 31 728 370,e7 P 32 743 377,e7 P 33 749 382,e7 P 34 757 389,bU P "FIELDS" 989 390,bU P "OWN_NAMES" 996 457,bU P "Node" 1039 483,bU P "Params" 1083 515,e7 P 40 1094 526,e7 P 41 1100 531,e7 P 42 1114 538,e7 P 43 1120 543,bU P "JUMPS" 1127 544,bU P "DEFINED_ON_TOP" 1130 545,bU P "Row" 1176 570,bU P "Catch" 1221 598,bU P "Code" 1285 633,bU P "Label" 1320 661,e7 P 51 1327 672,bU P "Maker" 1415 730,e7 P 53 1422 741,e7 P 54 1429 748,e7 P 55 1436 755,e7 P 56 1443 762,e7 P 57 1450 769,e7 P 58 1457 776,e7 P 59 1464 783,e7 P 60 1471 790,e7 P 61 1478 797,e7 P 62 1485 804,e7 P 63 1492 811,e7 P 64 1499 818,bU P "EFFECTS" 1718 819,e7 P 66 1726 878,bU P "SEEN_OUTSIDE" 1731 879,bU P "Slots" 1781 910,bU P "Compiler" 2025 1086,e7 P 71 2031 1095,e7 P 72 2040 1102,e7 P 73 2049 1109,e7 P 74 2058 1116,e7 P 75 2067 1123,e7 P 76 2078 1130,e7 P 77 2089 1137,e7 P 78 2107 1144,e7 P 80 2118 1151,e7 P 81 2126 1158,e7 P 82 2133 1165,e7 P 83 2139 1170,e7 P 84 2145 1175,e7 P 85 2151 1180,e7 P 86 2160 1187,e7 P 87 2168 1194,e7 P 88 2182 1201,e7 P 89 2188 1206,e7 P 90 2199 1213,e7 P 91 2216 1220,e7 P 92 2222 1227,e7 P 93 2237 1234]
noncomputable def Tw(P:aw)(nm:aj):List bw:=[ja P "__name__" 165 nm,ja P "__doc__" 166 .none,ja P "__package__" 167 .none,ja P "__loader__" 168 (.builtin "__main__.__loader__#opaque"),ja P "__spec__" 169 .none,bU P "__annotations__" 170 6,bU P "__builtins__" 171 4,ja P "__file__" 173 (gW "/claim/cut.py" 172),ja P "__cached__" 174 .none]
noncomputable def lj(P:aw)(nm:aj)(k:Nat):Obj:={cls:=.type ha,data:=.dict (Tw P nm++(Tv P).take k).toArray (9+k)}
noncomputable def Tx:List aj:=oG [1,0,20,5,0,28,10,0,36,12,0,43,17,0,50,22,0,71,27,0,90,29,0,102,32,0,114,48,0,156,69,0,205,77,0,231,87,0,257,90,0,264,93,0,271,100,0,278,103,0,285,116,0,292,121,0,299,133,0,306,149,0,313,162,0,320,177,0,327,187,0,334,197,0,341,220,0,348,243,0,355,279,0,362,287,0,369,294,0,376,314,0,381,328,0,388,341,0,463,353,0,493,364,0,525,378,0,530,390,0,537,404,0,542,419,0,551,430,0,580,441,0,608,459,0,643,468,0,671,470,0,678,511,0,740,513,0,747,515,0,754,517,0,761,519,0,768,521,0,775,523,0,782,525,0,789,527,0,796,529,0,803,531,0,810,533,0,817,536,0,877,541,0,885,561,0,920,714,0,1094,716,0,1101,719,0,1108,721,0,1115,724,0,1122,727,0,1129,735,0,1136,740,0,1143,756,0,1150,763,0,1157,765,0,1164,768,0,1169,770,0,1174,794,0,1179,803,0,1186,812,0,1193,814,0,1200,849,0,1205,871,0,1212,876,0,1219,926,0,1226,928,0,1233]
noncomputable def Tz(k:Nat):Obj:=nd (Tx.take (3*k))
noncomputable def TA(k:Nat):Obj:=vu (b8 "GemError") [.type "ValueError"] [.ref 62,.type "ValueError",.type "Exception",.type "BaseException",.type "object"] 61 (b8 "GemError") af ([.ref 82,.ref 94,.ref 106].take k) ag ag [ae (.ref 45),ah,ae (gW "GemError" 226),ae (gW "GemError" 234),ae (.builtin "ValueError.__new__"),ae (.bool af)]
noncomputable def TB(k:Nat):Obj:=vu (b8 "Part") [.type "object"] [.ref 195,.type "object"] 194 (b8 "Part") af ([.ref 223,.ref 249].take k) ag ag [ah,ah,ae (gW "Part" 373),ae (gW "Part" 381),ae (.builtin "object.__new__"),ae (.bool af)]
noncomputable def TC(P:aw)(a b d c:Obj):BT:=O b0 (O (qY 249 62) (O (fz 11 1 "Loop.open") (O b0 (O (fE 511 39 1 "Params.plain" 1064 362 1 1068) (lf b0) .nil) (lf (ff 57))) (O b0 (O ng (lf (fA 1151 80 jb)) .nil) (lf c'))) (O (fE 191 12 4 "Part.catch" 417 66 4 426) (O (ff 24) (O b0 (lf (r0 2019 1086)) .nil) (lf (gC 0 1547 1 1548))) (O (cx [kA,nq] 950) (O c' (lf c') .nil) (lf b0)))) (O (nh 94) (O c' (O b0 (O (fA 543 43 kf) (lf b0) .nil) (lf c')) (O (cx [oH] 830) (O (fU 671 51 1321 468 1 1325) (lf (cx ["env","verb",kA] 2155)) .nil) (lf b0))) (O (vu (b8 "EnsuredPart") [.ref 195] [.ref 223,.ref 195,.type "object"] 222 (b8 "EnsuredPart") af [] ag ag [ae (.ref 200),ah,ae (gW "EnsuredPart" 440),ae (gW "EnsuredPart" 448),ae (.builtin "object.__new__"),ae (.bool af)]) (O c' (O (nd (oG [443,4,615,454,4,622,457,4,629])) (lf (cx [iv,"tree",kT] 2062)) .nil) (lf (gC 1 1683 1 1684))) (O (fE 479 38 1 "Node.part" 1020 351 2 1025) (lf b0) (lf b0))))
noncomputable def TD(P:aw)(a b d c:Obj):BT:=O (hl (.type ha) [ih P 233 mj,nj P 235 "GemError" 234,ii P 237 17 236,jc P 246 59,ij P 248 60] 5) (O (gG 79 7 0 "BadSyntax.__init__" mj) (O (gG 143 11 3 "Loop.finish" ed) (O (fU 271 17 526 93 2 533) (O b0 (lf (fE 1039 70 15 "Compiler.start" 1943 662 1 1948)) .nil) (lf (fA 783 59 eg))) (O (cx ["parts"] 780) (O b0 (lf c') .nil) (lf (r0 1775 910)))) (O b0 (O (fA 335 26 ed) (O (cx [fv,"place"] 1204) (lf b0) .nil) (lf (hl (.type ha) [bU P "def" 1620 848,bU P "sdef" 1624 849,bU P "class" 1628 804,bU P "module" 1630 850,bU P "sclass" 1634 851,bU P "alias" 1638 852,bU P "undef" 1642 853,bU P "leave" 1646 854,bU P "out" 1650 855,bU P "again" 1654 856,bU P "caught" 1658 857,bU P "setcaught" 1662 858,bU P "defined" 1666 811,bU P "spreadto" 1668 818,bU P "respond" 1670 859,bU P "islist" 1674 860,bU P "istable" 1678 861] 17))) (O (mP 463 "Node" 999 341 0 1002 1003) (O b0 (lf b0) .nil) (lf (fE 975 70 6 "Compiler.slot" 1856 594 2 1862))))) (O (hl (.type ha) [ih P 321 ed,nj P 323 "Loop" 322,ii P 325 32 324,jc P 336 122,bU P "open" 344 129,bU P "close" 352 136,bU P "finish" 360 143,ij P 365 144] 8) (O b0 (O (cx [iv,"node",kT,"test",nq,"negate",mQ,"base","start","over","done"] 587) (O (fE 559 47 0 "Row.__init__" 1144 421 6 1153) (lf (cx [fv,"count"] 1996)) .nil) (lf b0)) (O (cx [kA] 888) (O (lG [.none,.none,.none]) (lf (ff 88)) .nil) (lf b0))) (O (gG 239 14 0 "HandlerPart.__init__" ed) (O b0 (O (gG 623 49 1 "Code.catch_at" eg) (lf (ff 77)) .nil) (lf (cx [pB,"lambda"] 1729))) (O b0 (lf (cx ["row"] 1433)) (lf (cx [fv,"nodes","tree"] 1905)))))
noncomputable def TE(P:aw)(a b d c:Obj):BT:=O c' (O (mP 71 "BadSyntax" 256 22 0 259 260) (O (fE 135 11 2 "Loop.close" 345 43 2 350) (O (ff 16) (O (nf 515) (lf (fz 70 14 "Compiler.defaults")) .nil) (lf (fU 775 58 1451 521 1 1455))) (O b0 (O (cx [fv] 1301) (lf b0) .nil) (lf (cx [fv,hz,"scope","depth"] 1765)))) (O (nf 195) (O (fU 327 25 627 177 3 635) (O c' (lf (fA 1095 71 eI)) .nil) (lf (gC 1 1577 1 1578))) (O (cx ["const","pre","rest","post"] 969) (O (cx [fv,"code"] 1379) (lf b0) .nil) (lf (fz 70 5 "Compiler.told"))))) (O (ni 102 99 mj) (O (cx [fv,mQ] 396) (O c' (O (mP 551 "Row" 1133 419 0 1136 1137) (lf c') .nil) (lf (cx ["row"] 1489))) (O (cx [kA] 863) (O (ni 678 675 eg) (lf b0) .nil) (lf b0))) (O (mP 231 "HandlerPart" 476 77 0 479 480) (O (cx [iv,"classes","error","found",mQ,"item"] 710) (O (fE 615 49 0 "Code.__init__" 1234 443 9 1246) (lf b0) .nil) (lf (gC 0 1707 1 1708))) (O (nf 483) (lf c') (lf c'))))
noncomputable def TF(P:aw)(a b d c:Obj):BT:=O (cx [fv,"reason"] 242) (O (hl (.type ha) [ih P 287 mj,nj P 289 "BadRows" 288,ii P 291 27 290,ij P 292 92] 4) (O b0 (O (fA 279 18 ed) (O b0 (lf (gG 1047 70 16 "Compiler.code" eI)) .nil) (lf b0)) (O (cx ["scope",hz] 806) (O (qY 1316 661) (lf (fA 1175 84 jb)) .nil) (lf (nd (oG [563,4,929,571,4,937,574,4,945,578,4,953,584,4,961,590,4,968,594,4,975,598,4,982,601,4,989,604,4,996,608,4,1003,629,4,1010,637,4,1018,644,4,1025,653,4,1032,662,4,1039,667,4,1046,674,4,1053,689,4,1060,696,4,1067,706,4,1074,712,4,1082]))))) (O c' (O b0 (O (r0 1215 598) (lf c') .nil) (lf (gC 1 1651 0 1652))) (O (fz 38 0 "Node.__init__") (lf (gG 727 52 6 "Maker.done" eg)) (lf (gG 983 70 7 "Compiler.hidden" eI))))) (O b0 (O (fz 12 3 "Part.finish") (O b0 (O (gG 567 47 1 "Row.with_target" eg) (lf (cx [fv,w2,hz,"count",pB] 2004)) .nil) (lf (gC 1 1513 2 1514))) (O (cx [nq,"rescues","other","ensure"] 922) (O b0 (lf b0) .nil) (lf b0))) (O (cx ["again","kept"] 504) (O (ff 32) (O (cx ["catches","children",qp,hz,"number",t5,"rows","slots","starts"] 1269) (lf (fU 1143 78 2090 740 3 2105)) .nil) (lf b0)) (O (fz 39 0 "Params.__init__") (lf b0) (lf (cx [fv,t5,nq,qp,hz,"own","within"] 1914)))))
noncomputable def TG(P:aw)(b c d a:Obj):BT:=O (ff 3) (O ng (O c' (O b0 (O (s8 "Params" 515 514 1040 1048) (lf b0) .nil) (lf c')) (O (ff 34) (O (mP 643 "Label" 1288 459 0 1291 1292) (lf b0) .nil) (lf (fE 899 69 1 "Slots.add" 1754 550 2 1759)))) (O a (O c' (O (nd (oG [432,4,587,439,4,594])) (lf b0) .nil) (lf (gC 1 1563 0 1564))) (O (cx [hz] 960) (O (fE 707 52 3 "Maker.place" 1368 490 2 1373) (lf (fU 1219 91 2200 876 2 2214)) .nil) (lf b0)))) (O (hl (.type ha) [ih P 303 mj,nj P 305 "BadArgument" 304,ii P 307 29 306,ij P 308 104] 4) (O (fE 163 12 0 "Part.__init__" 385 50 2 390) (O (ff 20) (O ng (lf (fz 70 18 "Compiler.store_name")) .nil) (lf (fU 803 62 1479 529 1 1483))) (O (cx [oH,"op",kA] 844) (O (hl (.type ha) [ih P 1335 eg,nj P 1337 "Maker" 1336,ii P 1339 470 1338,jc P 1346 686,bU P "put" 1360 694,bU P "label" 1367 701,bU P "place" 1375 708,bU P "child" 1383 715,bU P "catch" 1395 722,bU P "done" 1401 727,ij P 1408 728] 11) (lf (fA 1187 86 jb)) .nil) (lf (lG [.none,.none,.none])))) (O ng (O (fU 355 29 686 243 5 704) (O c' (lf (fA 1123 75 eI)) .nil) (lf (gC 1 1695 1 1696))) (O (s8 "Node" 483 482 997 1005) (lf (ff 53)) (lf (fz 70 9 "Compiler.save")))))
noncomputable def TH(P:aw)(a b d c:Obj):BT:=O (ni 50 47 mj) (O (nh 82) (O (r0 366 146) (O (cx [iv,"index","part"] 539) (O (fA 531 41 kf) (lf (cx [fv,nq,hz,qp] 1954)) .nil) (lf b0)) (O (cx [kA] 794) (O (cx ["place"] 1312) (lf b0) .nil) (lf b0))) (O (fz 13 0 "EnsuredPart.__init__") (O b0 (O (gG 595 48 1 "Catch.covers" eg) (lf (ff 73)) .nil) (lf (gC 1 1635 1 1636))) (O b0 (lf b0) (lf (cx [fv] 1868))))) (O (ni 114 111 ed) (O b0 (O (fA 307 22 ed) (O (cx [fv,oH] 1159) (lf (gG 1075 70 20 "Compiler.one_more" eI)) .nil) (lf (C4 P))) (O (cx ["subject","whens","other"] 904) (O b0 (lf c') .nil) (lf (lG [.bool af])))) (O b0 (O b0 (O b0 (lf c') .nil) (lf b0)) (O b0 (lf (fA 755 55 eg)) (lf (gG 1011 70 11 "Compiler.arguments" eI)))))
noncomputable def TI(P:aw)(a b d c:Obj):BT:=O (fU 43 4 216 12 2 221) (O (cx [fv,"line","reason"] 269) (O (cx [fv,iv] 356) (O c' (O b0 (lf c') .nil) (lf (cx ["row"] 1461))) (O b0 (O (gG 651 50 0 "Label.__init__" eg) (lf (ff 82)) .nil) (lf (gG 907 69 2 "Slots.find" eI)))) (O b0 (O (cx [iv,"node",kT,mQ,"base","index","handler"] 641) (O (fE 587 48 0 "Catch.__init__" 1189 432 6 1198) (lf b0) .nil) (lf (gC 1 1605 0 1606))) (O ng (O (gG 715 52 4 "Maker.child" eg) (lf (fA 1227 92 jb)) .nil) (lf c')))) (O (nh 106) (O (gG 171 12 1 "Part.open" ed) (O (fU 299 21 568 121 3 581) (O c' (lf (fE 1067 70 19 "Compiler.store_index" 1981 696 2 1990)) .nil) (lf (fA 811 63 eg))) (O (cx [kA] 874) (O b0 (lf b0) .nil) (lf (lG [.none,.none,.none])))) (O (cx [fv,"height","kept","again"] 489) (O (fA 363 30 ed) (O (cx [fv,"place","sorts"] 1252) (lf b0) .nil) (lf b0)) (O b0 (lf (fU 747 54 1423 513 1 1427)) (lf (fE 1003 70 10 "Compiler.list_of" 1890 608 2 1899)))))
noncomputable def TJ(P:aw)(a b d c:Obj):BT:=O (qZ 6 0 "GemError.__init__" 52 mj 58) (O (ni 90 87 mj) (O (nd (oG [50,4,163,55,4,170,58,4,177,63,4,184,66,4,191])) (O b0 (O b0 (lf b0) .nil) (lf (ff 61))) (O (cx [hz] 816) (O c' (lf (t4 1179 "_law_begin" "_law_begin" 2146 794 4 2149 2150)) .nil) (lf (lG [gW "program" 1794,.none,.ref 922,.none])))) (O (fE 219 13 1 "EnsuredPart.finish" 461 75 2 466) (O (ff 28) (O b0 (lf (fU 1115 74 2050 721 3 2056)) .nil) (lf (gC 1 1671 1 1672))) (O c' (lf (r0 1409 730)) (lf b0)))) (O b0 (O c' (O b0 (O (r0 1170 570) (lf (qZ 70 21 "Compiler.send_to" 1076 eI 1082)) .nil) (lf (gC 0 1531 1 1532))) (O (cx ["singleton",hz,t5,nq] 937) (O (fz 52 2 "Maker.label") (lf (ff 90)) .nil) (lf (lG [.bool af])))) (O (nf 249) (O c' (O (qY 1281 633) (lf (cx ["box","many","figure"] 2113)) .nil) (lf (fz 69 0 "Slots.__init__"))) (O c' (lf b0) (lf (qZ 70 12 "Compiler.block_of" 1012 eI 1018)))))
noncomputable def TK(P:aw)(a b d c:Obj):BT:=O (cx [iv,hz,"argc",qp] 209) (O (nf 62) (O (gG 129 11 1 "Loop.open" ed) (O (fU 257 15 510 87 2 515) (O (cx [pB,"optional","post","required","rest"] 1071) (lf (fE 1025 70 13 "Compiler.block" 1924 644 2 1931)) .nil) (lf (fA 769 57 eg))) (O (cx [iv,oH] 753) (O b0 (lf c') .nil) (lf b0))) (O (cx ["first","height","pieces"] 429) (O (fA 321 24 ed) (O (hl (.type ha) [ih P 1184 eg,nj P 1186 "Catch" 1185,ii P 1188 430 1187,jc P 1200 588,bU P "covers" 1208 595,ij P 1214 596] 6) (lf (nh 1086)) .nil) (lf (gC 0 1555 1 1556))) (O (cx [hz] 956) (O b0 (lf b0) .nil) (lf (fE 961 70 4 "Compiler.body" 1839 584 3 1845))))) (O (lG [.ref 62]) (O b0 (O (cx [iv,qp,"at"] 562) (O (cx ["method_of","const_of"] 1128) (lf (cx [fv,oH,hz] 1975)) .nil) (lf b0)) (O (cx [oH,kA] 836) (O b0 (lf (ff 86)) .nil) (lf (fE 929 70 0 "Compiler.__init__" 1795 563 6 1804)))) (O (nf 223) (O b0 (O (ni 608 605 eg) (lf (ff 75)) .nil) (lf (gC 1 1689 1 1690))) (O (cx [qp,"line","own","parts"] 1028) (lf (cx ["argc"] 1419)) (lf (cx [fv,hz,"depth","index"] 1883)))))
noncomputable def TL(P:aw)(a b d c:Obj):BT:=O (nd [i_ 19,i_ 4,.ref 58]) (O (hl (.type ha) [ih P 261 mj,ii P 265 22 264,jc P 274 79,ij P 276 80,ja P "__doc__" 277 .none] 2) (O (hl (.type ha) [ih P 321 ed,ii P 325 32 324,jc P 336 122,bU P "open" 344 129,bU P "close" 352 136,bU P "finish" 360 143,ij P 365 144,bU P "__dict__" 367 147,bU P "__weakref__" 369 148,ja P "__doc__" 370 .none] 4) (O b0 (O (ff 41) (lf b0) .nil) (lf c')) (O (cx ["pairs"] 786) (O (fE 657 50 1 "Label.told" 1305 464 1 1309) (lf (t4 1169 "_law_seq" "_law_seq" 2134 768 4 2137 2138)) .nil) (lf (nh 910)))) (O (cx [fv,"height","node"] 455) (O c' (O (fz 48 1 "Catch.covers") (lf (cx [iv,"tree",kT] 2044)) .nil) (lf (gC 1 1625 1 1626))) (O b0 (O (fE 721 52 5 "Maker.catch" 1384 499 6 1393) (lf (fU 1233 93 2223 928 1 2235)) .nil) (lf b0)))) (O (nd (oG [34,4,121,40,4,128,43,4,135,46,4,142])) (O (fE 177 12 2 "Part.close" 401 58 2 406) (O (ff 22) (O b0 (lf (fz 70 20 "Compiler.one_more")) .nil) (lf (fU 817 64 1493 533 1 1497))) (O (cx ["test","yes","no"] 894) (O c' (lf (fA 1201 88 jb)) .nil) (lf (fE 945 70 2 "Compiler.put_at" 1818 574 6 1827)))) (O c' (O (fU 369 31 719 287 4 726) (O c' (lf (fA 1137 77 eI)) .nil) (lf ng)) (O b0 (lf (ff 55)) (lf (fz 70 11 "Compiler.arguments")))))
noncomputable def TM(P:aw)(a b d c:Obj):BT:=O b0 (O b0 (O b0 (O (fA 265 16 ed) (O c' (lf (gG 1033 70 14 "Compiler.defaults" eI)) .nil) (lf b0)) (O b0 (O (fz 50 0 "Label.__init__") (lf (cx ["box"] 2130)) .nil) (lf (fz 69 2 "Slots.find")))) (O ng (O b0 (O b0 (lf c') .nil) (lf (gC 1 1587 1 1588))) (O (cx ["def","class","module","sclass",pB,"lambda"] 990) (O (fz 52 4 "Maker.child") (lf (ff 92)) .nil) (lf (gG 969 70 5 "Compiler.told" eI))))) (O (hl (.type ha) [ih P 303 mj,ii P 307 29 306,ij P 308 104,ja P "__doc__" 309 .none] 2) (O (fz 12 1 "Part.open") (O b0 (O (lG [.none,.none,.none,.int 0 1143]) (lf b0) .nil) (lf (ff 63))) (O (cx ["left","right"] 870) (O c' (lf (fU 1193 87 2161 812 2 2166)) .nil) (lf (fE 937 70 1 "Compiler.put" 1807 571 5 1815)))) (O b0 (O (ff 30) (O b0 (lf (fU 1129 76 2068 727 3 2076)) .nil) (lf c')) (O ng (lf b0) (lf b0))))
noncomputable def TN(P:aw)(a b d c:Obj):BT:=O (fz 6 0 "GemError.__init__") (O c' (O (hl (.type ha) [ih P 380 ed,nj P 382 "Part" 381,ii P 384 48 383,jc P 392 164,bU P "open" 400 171,bU P "close" 408 178,bU P "finish" 416 185,bU P "catch" 428 192,ij P 432 193] 9) (O c' (O (fU 537 42 1101 390 1 1112) (lf c') .nil) (lf (cx ["row"] 1475))) (O (cx [hz] 810) (O (nf 661) (lf c') .nil) (lf (ni 920 917 eI)))) (O b0 (O (cx [iv,"node",kT,nq,"rescues","other","ensure",mQ,"base","again",oH,"done","part"] 670) (O (nh 598) (lf b0) .nil) (lf (gC 1 1659 1 1660))) (O (qZ 38 0 "Node.__init__" 466 kf 472) (lf (hl (.type ha) [ih P 1335 eg,ii P 1339 470 1338,jc P 1346 686,bU P "put" 1360 694,bU P "label" 1367 701,bU P "place" 1375 708,bU P "child" 1383 715,bU P "catch" 1395 722,bU P "done" 1401 727,ij P 1408 728,bU P "__dict__" 1410 731,bU P "__weakref__" 1412 732,ja P "__doc__" 1413 .none] 4)) (lf c')))) (O (fE 121 11 0 "Loop.__init__" 326 34 5 334) (O (gG 185 12 3 "Part.finish" ed) (O (fU 313 23 601 149 3 611) (O (hl (.type ha) [ih P 1138 eg,ii P 1142 419 1141,jc P 1155 560,bU P "with_target" 1163 567,ij P 1169 568,bU P "__dict__" 1171 571,bU P "__weakref__" 1173 572,ja P "__doc__" 1174 .none] 4) (lf (fz 70 21 "Compiler.send_to")) .nil) (lf (gC 2 1521 2 1522))) (O (cx [kA] 931) (O (cx [fv] 1364) (lf (cx ["code","spot","way","stack","one"] 2192)) .nil) (lf (fE 953 70 3 "Compiler.node" 1830 578 3 1836)))) (O (vu (b8 "HandlerPart") [.ref 195] [.ref 249,.ref 195,.type "object"] 248 (b8 "HandlerPart") af [] ag ag [ae (.ref 226),ah,ae (gW "HandlerPart" 474),ae (gW "HandlerPart" 482),ae (.builtin "object.__new__"),ae (.bool af)]) (O (fA 377 32 ed) (O (s8 "Code" 633 632 1222 1230) (lf b0) .nil) (lf (cx [fv,"names","outer",hz] 1747))) (O (qZ 39 0 "Params.__init__" 498 kf 504) (lf (fU 761 56 1437 517 1 1441)) (lf (fz 70 12 "Compiler.block_of")))))
noncomputable def TO(P:aw)(a b d c:Obj):BT:=O (rZ (w1 (b3 3) (b8 "call") (.ref 30) (gW "gemrows.compilematch" 194) (.ref 36))) (O b0 (O b0 (O (cx [iv,"part"] 521) (O (qY 1079 515) (lf (cx [fv,hz,kA] 1937)) .nil) (lf b0)) (O (fA 389 34 ed) (O b0 (lf (fU 1157 81 2119 763 2 2124)) .nil) (lf b0))) (O (qY 435 195) (O b0 (O (ni 580 577 eg) (lf (ff 71)) .nil) (lf (gC 2 1569 1 1570))) (O (cx ["patterns"] 964) (O b0 (lf b0) .nil) (lf (cx [fv,kT] 1851))))) (O c' (O b0 (O (fA 293 20 ed) (O b0 (lf (gG 1061 70 18 "Compiler.store_name" eI)) .nil) (lf b0)) (O (cx [hz] 856) (O (nd (oG [472,4,685,480,4,693,487,4,700,490,4,707,495,4,714,499,4,721,502,4,726])) (lf c') .nil) (lf c'))) (O b0 (O b0 (O b0 (lf c') .nil) (lf (gC 1 1701 1 1702))) (O (qY 1035 483) (lf (fA 741 53 eg)) (lf (gG 997 70 9 "Compiler.save" eI)))))
noncomputable def TP(P:aw)(a b d c:Obj):BT:=O b0 (O (lG [.ref 62]) (O (nh 146) (O (ff 18) (O c' (lf (fz 70 16 "Compiler.code")) .nil) (lf (fU 789 60 1465 525 1 1469))) (O (cx [hz] 800) (O (s8 "Label" 661 660 1286 1294) (lf (ff 84)) .nil) (lf (hl (.type ha) [ih P 1789 eI,nj P 1791 "Compiler" 1790,ii P 1793 561 1792,jc P 1806 930,bU P "put" 1817 938,bU P "put_at" 1829 946,bU P "node" 1838 954,bU P nq 1847 962,bU P "told" 1855 969,bU P "slot" 1864 976,bU P "hidden" 1871 983,bU P "load" 1879 990,bU P "save" 1889 997,bU P "list_of" 1901 1004,bU P "arguments" 1910 1011,bU P "block_of" 1923 1019,bU P pB 1933 1026,bU P "defaults" 1942 1033,bU P "start" 1950 1040,bU P "code" 1960 1047,bU P "store" 1971 1054,bU P "store_name" 1980 1061,bU P "store_index" 1992 1068,bU P "one_more" 2000 1075,bU P "send_to" 2011 1083,ij P 2018 1084] 26)))) (O (gG 213 13 0 "EnsuredPart.__init__" ed) (O (fU 341 27 651 197 3 664) (O (hl (.type ha) [ih P 1184 eg,ii P 1188 430 1187,jc P 1200 588,bU P "covers" 1208 595,ij P 1214 596,bU P "__dict__" 1216 599,bU P "__weakref__" 1218 600,ja P "__doc__" 1219 .none] 4) (lf (fA 1109 73 eI)) .nil) (lf (gC 0 1643 1 1644))) (O (cx [fv,qp,"parts","line"] 1013) (lf (fz 52 6 "Maker.done")) (lf (fz 70 7 "Compiler.hidden"))))) (O c' (O (cx [fv,iv] 412) (O c' (O (fz 47 1 "Row.with_target") (lf b0) .nil) (lf (gC 0 1505 1 1506))) (O (cx [kA,"pattern"] 914) (O (fE 693 52 1 "Maker.put" 1347 480 5 1358) (lf (t4 1205 "_law_read_begin" "_law_read_begin" 2183 849 2 2186 2187)) .nil) (lf c'))) (O (fE 245 14 1 "HandlerPart.finish" 496 84 2 501) (O (cx [iv,kA,"subject","found",mQ,"base","following","here","over"] 732) (O (fE 629 49 2 "Code.with_rows" 1258 457 5 1266) (lf b0) .nil) (lf (mP 885 "Slots" 1734 541 0 1737 1738))) (O (cx [fv,"required","optional","rest","post",pB] 1055) (lf c') (lf b0))))
noncomputable def TQ(P:aw)(a b d c:Obj):BT:=O (lG [.type "ValueError"]) (O (fz 7 0 "BadSyntax.__init__") (O (fz 11 3 "Loop.finish") (O b0 (O (fU 525 40 1084 364 1 1092) (lf b0) .nil) (lf (ff 59))) (O (cx [hz] 774) (O c' (lf (fA 1165 82 jb)) .nil) (lf (hl (.type ha) [ih P 1739 eI,ii P 1743 541 1742,jc P 1753 893,bU P "add" 1761 900,bU P "find" 1771 907,ij P 1774 908,bU P "__dict__" 1776 911,bU P "__weakref__" 1778 912,ja P "__doc__" 1779 .none] 4)))) (O (mP 205 "EnsuredPart" 442 69 0 445 446) (O (ff 26) (O b0 (lf (fU 1101 72 2032 716 3 2038)) .nil) (lf (gC 1 1613 1 1614))) (O b0 (O c' (lf c') .nil) (lf b0)))) (O b0 (O c' (O b0 (O b0 (lf b0) .nil) (lf c')) (O (cx ["args"] 881) (O (fE 685 52 0 "Maker.__init__" 1340 472 1 1344) (lf (cx ["tree","env",qp,"parts","outcome","item","found",kA] 2172)) .nil) (lf c'))) (O (fz 14 0 "HandlerPart.__init__") (O c' (O (fz 49 1 "Code.catch_at") (lf (cx [iv,"tree",kT,"items","item"] 2082)) .nil) (lf (fU 877 66 1719 536 1 1724))) (O (mP 493 "Params" 1042 353 0 1045 1046) (lf b0) (lf b0))))
noncomputable def TR(P:aw)(a b d c:Obj):BT:=O (hl (.type ha) [ih P 233 mj,ii P 237 17 236,jc P 246 59,ij P 248 60,bU P "__weakref__" 250 63,ja P "__doc__" 251 .none] 3) (O (hl (.type ha) [ih P 287 mj,ii P 291 27 290,ij P 292 92,ja P "__doc__" 293 .none] 2) (O (ni 156 153 ed) (O (fU 285 19 545 103 4 556) (O (ff 43) (lf (fE 1053 70 17 "Compiler.store" 1961 674 2 1969)) .nil) (lf (fA 797 61 eg))) (O (cx [w2,"args"] 822) (O b0 (lf b0) .nil) (lf c'))) (O (cx ["node"] 469) (O (fA 349 28 ed) (O (hl (.type ha) [ih P 1229 eg,nj P 1231 "Code" 1230,ii P 1233 441 1232,jc P 1248 616,bU P "catch_at" 1257 623,bU P "with_rows" 1268 630,ij P 1278 631] 7) (lf b0) .nil) (lf (gC 1 1679 1 1680))) (O b0 (lf (nh 730)) (lf (fE 989 70 8 "Compiler.load" 1872 601 2 1877))))) (O (cx [fv,mQ] 340) (O b0 (O (cx [iv,"node",kT,mQ,"base","index","loop"] 617) (O (nh 570) (lf (hl (.type ha) [ih P 1789 eI,ii P 1793 561 1792,jc P 1806 930,bU P "put" 1817 938,bU P "put_at" 1829 946,bU P "node" 1838 954,bU P nq 1847 962,bU P "told" 1855 969,bU P "slot" 1864 976,bU P "hidden" 1871 983,bU P "load" 1879 990,bU P "save" 1889 997,bU P "list_of" 1901 1004,bU P "arguments" 1910 1011,bU P "block_of" 1923 1019,bU P pB 1933 1026,bU P "defaults" 1942 1033,bU P "start" 1950 1040,bU P "code" 1960 1047,bU P "store" 1971 1054,bU P "store_name" 1980 1061,bU P "store_index" 1992 1068,bU P "one_more" 2000 1075,bU P "send_to" 2011 1083,ij P 2018 1084,bU P "__dict__" 2020 1087,bU P "__weakref__" 2022 1088,ja P "__doc__" 2023 .none] 4)) .nil) (lf (gC 0 1539 1 1540))) (O (cx [hz,"superclass",nq] 943) (O (gG 701 52 2 "Maker.label" eg) (lf (fA 1213 90 jb)) .nil) (lf c'))) (O c' (O (t4 381 "store_many" "store_many" 744 314 2 747 748) (O (nf 633) (lf (ff 80)) .nil) (lf (gG 893 69 0 "Slots.__init__" eI))) (O b0 (lf (cx ["row"] 1447)) (lf c'))))
noncomputable def TS(P:aw)(a b d c:Obj):BT:=O c' (O (nh 62) (O (fE 128 11 1 "Loop.open" 337 40 2 342) (O (ff 15) (O (gG 512 39 1 "Params.plain" kf) (lf (fz 70 13 "Compiler.block")) .nil) (lf (fU 768 57 1444 519 1 1448))) (O c' (O (hl (.type ha) [ih P 1293 eg,nj P 1295 "Label" 1294,ii P 1297 459 1296,jc P 1304 651,bU P "told" 1311 658,ij P 1313 659] 6) (lf b0) .nil) (lf (cx [fv,hz] 1757)))) (O (gG 192 12 4 "Part.catch" ed) (O (fU 320 24 614 162 3 624) (O ng (lf (qY 2021 1086)) .nil) (lf (gC 1 1551 0 1552))) (O (cx ["new","old"] 953) (O (cx [fv,"label"] 1371) (lf (cx ["code","env","stack","slots","spot","way","step","row","following",kA,"asked"] 2203)) .nil) (lf (fz 70 4 "Compiler.body"))))) (O (nf 94) (O (cx [fv,"height"] 388) (O c' (O (cx ["jump","jumpif","jumpunless","jumpnil"] 1123) (lf c') .nil) (lf (cx ["row"] 1482))) (O (cx ["targets"] 833) (O (fA 672 51 eg) (lf b0) .nil) (lf (fz 70 0 "Compiler.__init__")))) (O (nh 223) (O (cx [iv,"rescues","handler",kT,"done",mQ,"way","error","other_way","classes",oH,nq,"found","following","later"] 689) (O (mP 608 "Code" 1224 441 0 1227 1228) (lf b0) .nil) (lf (gC 1 1686 1 1687))) (O (gG 480 38 1 "Node.part" kf) (lf c') (lf c'))))
noncomputable def TT(P:aw)(a b d c:Obj):BT:=O b0 (O (cx ["line"] 275) (O (cx ["done","height","start",kT] 361) (O (fA 272 17 ed) (O c' (lf (gG 1040 70 15 "Compiler.start" eI)) .nil) (lf b0)) (O (cx ["items"] 783) (O (fz 50 1 "Label.told") (lf (ff 83)) .nil) (lf (qY 1777 910)))) (O c' (O b0 (O b0 (lf c') .nil) (lf (gC 0 1621 1 1622))) (O (ni 463 460 kf) (O (fz 52 5 "Maker.catch") (lf (ff 93)) .nil) (lf (gG 976 70 6 "Compiler.slot" eI))))) (O b0 (O (fz 12 2 "Part.close") (O b0 (O (qZ 47 0 "Row.__init__" 553 eg 559) (lf b0) .nil) (lf (ff 64))) (O (cx ["items"] 891) (O b0 (lf (fU 1200 88 2169 814 2 2180)) .nil) (lf (fz 70 2 "Compiler.put_at")))) (O b0 (O (ff 31) (O b0 (lf (fU 1136 77 2079 735 3 2087)) .nil) (lf b0)) (O b0 (lf b0) (lf b0))))
noncomputable def TU(P:aw)(a b d c:Obj):BT:=O (cx [iv,"subject"] 219) (O (ni 71 68 mj) (O (gG 136 11 2 "Loop.close" ed) (O (fU 264 16 518 90 1 523) (O b0 (lf (fE 1032 70 14 "Compiler.defaults" 1934 653 1 1940)) .nil) (lf (fA 776 58 eg))) (O b0 (O b0 (lf c') .nil) (lf b0))) (O (lG [.ref 195]) (O (fA 328 25 ed) (O (cx [fv,"sort","first","last",oH,"depth"] 1192) (lf b0) .nil) (lf (gC 2 1583 1 1584))) (O (cx ["const","pairs","rest"] 974) (O b0 (lf b0) .nil) (lf (fE 968 70 5 "Compiler.told" 1848 590 2 1853))))) (O b0 (O b0 (O (cx [iv,"node",kT,"test","yes","no",mQ,"base","otherwise","done"] 571) (O (ni 551 548 eg) (lf (cx [fv,oH,w2,"args","kept","count"] 1984)) .nil) (lf b0)) (O (cx ["left","right"] 866) (O b0 (lf (ff 87)) .nil) (lf (fz 70 1 "Compiler.put")))) (O (ni 231 228 ed) (O b0 (O (gG 616 49 0 "Code.__init__" eg) (lf (ff 76)) .nil) (lf b0)) (O b0 (lf (cx [pB] 1426)) (lf (cx [fv,"nodes","count","is_list","tree","joins"] 1893)))))
noncomputable def TV(P:aw)(a b d c:Obj):BT:=O b0 (O b0 (O ng (O b0 (O (ff 42) (lf b0) .nil) (lf c')) (O (hl (.type ha) [bU P "t_local" 809 409,bU P "t_ivar" 812 410,bU P "t_gvar" 815 411,bU P "t_const" 818 412,bU P "t_index" 821 413,bU P "t_attr" 825 414,bU P "t_splat" 829 415,bU P "t_group" 832 416,bU P "assign" 835 417,bU P "masgn" 839 418,bU P "opasgn" 843 419,e7 P 3 848 420,bU P "vcall" 855 421,bU P pB 858 422,bU P "blockpass" 862 423,bU P "and" 865 424,bU P "or" 869 425] 17) (O (nh 661) (lf b0) .nil) (lf (mP 920 "Compiler" 1784 561 0 1787 1788)))) (O (cx [fv,iv] 464) (O c' (O (qY 1217 598) (lf (cx [iv,"tree",kT] 2053)) .nil) (lf (gC 1 1655 0 1656))) (O (fE 472 38 0 "Node.__init__" 1010 343 4 1017) (lf (cx ["catches","children","height","line","rows","starts"] 1402)) (lf b0)))) (O (fz 11 0 "Loop.__init__") (O (fE 184 12 3 "Part.finish" 409 63 2 414) (O (ff 23) (O (cx ["a","b","c","line","op"] 1164) (lf b0) .nil) (lf (gC 2 1517 4 1518))) (O (cx [kA] 928) (O c' (lf c') .nil) (lf (fz 70 3 "Compiler.node")))) (O (hl (.type ha) [ih P 481 ed,ii P 485 77 484,jc P 495 239,bU P "finish" 503 246,ij P 506 247,ja P "__doc__" 507 .none] 2) (O (fU 376 32 729 294 4 741) (O (hl (.type ha) [ih P 1229 eg,ii P 1233 441 1232,jc P 1248 616,bU P "catch_at" 1257 623,bU P "with_rows" 1268 630,ij P 1278 631,bU P "__dict__" 1280 634,bU P "__weakref__" 1282 635,ja P "__doc__" 1283 .none] 4) (lf (fA 1144 78 eI)) .nil) (lf c')) (O (fE 504 39 0 "Params.__init__" 1052 355 6 1061) (lf (ff 56)) (lf b0))))
noncomputable def TW(P:aw)(a b d c:Obj):BT:=O (fU 36 3 206 10 4 213) (O (hl (.type ha) [ih P 261 mj,nj P 263 "BadSyntax" 262,ii P 265 22 264,jc P 274 79,ij P 276 80] 5) (O (cx [fv,mQ] 348) (O c' (O (r0 1077 515) (lf c') .nil) (lf (cx ["row"] 1454))) (O (fU 388 34 750 328 2 755) (O (ni 643 640 eg) (lf (ff 81)) .nil) (lf (gG 900 69 1 "Slots.add" eI)))) (O (r0 433 195) (O (cx [iv,"node",kT,mQ,"base"] 630) (O (mP 580 "Catch" 1179 430 0 1182 1183) (lf c') .nil) (lf (hl (.type ha) [bU P "list" 1566 762,bU P "append" 1568 837,bU P "joinlists" 1572 838,bU P "spread" 1576 839,bU P "table" 1580 769,bU P "range" 1582 840,bU P "totext" 1586 841,bU P "texts" 1590 762,bU P "send" 1592 776,bU P "super" 1594 783,bU P "zsuper" 1596 790,bU P "yield" 1598 797,bU P "jump" 1600 842,bU P "jumpif" 1604 843,bU P "jumpunless" 1608 844,bU P "jumpnil" 1612 845,bU P "lambda" 1616 846] 17))) (O (cx [kA] 962) (O (gG 708 52 3 "Maker.place" eg) (lf (fA 1220 91 jb)) .nil) (lf c')))) (O b0 (O (gG 164 12 0 "Part.__init__" ed) (O (fU 292 20 559 116 2 565) (O (hl (.type ha) [ih P 1138 eg,nj P 1140 "Row" 1139,ii P 1142 419 1141,jc P 1155 560,bU P "with_target" 1163 567,ij P 1169 568] 6) (lf (fE 1060 70 18 "Compiler.store_name" 1972 689 2 1978)) .nil) (lf (fA 804 62 eg))) (O (cx [w2,hz,"args",pB,"safe"] 849) (O b0 (lf b0) .nil) (lf b0))) (O (hl (.type ha) [ih P 481 ed,nj P 483 "HandlerPart" 482,ii P 485 77 484,jc P 495 239,bU P "finish" 503 246,ij P 506 247] 6) (O (fA 356 29 ed) (O (cx [fv,qp,hz,t5,"slots","rows","catches","children","starts"] 1237) (lf b0) .nil) (lf (gC 1 1698 1 1699))) (O (r0 1033 483) (lf (fU 740 53 1416 511 1 1420)) (lf (fE 996 70 9 "Compiler.save" 1880 604 2 1887)))))
noncomputable def TX(P:aw)(a b d c:Obj):BT:=O (cx [""] 238) (O (nf 82) (O (qY 368 146) (O b0 (O b0 (lf b0) .nil) (lf (ff 60))) (O (cx [hz] 797) (O (hl (.type ha) [ih P 1293 eg,ii P 1297 459 1296,jc P 1304 651,bU P "told" 1311 658,ij P 1313 659,bU P "__dict__" 1315 662,bU P "__weakref__" 1317 663,ja P "__doc__" 1318 .none] 4) (lf c') .nil) (lf ng))) (O (fE 212 13 0 "EnsuredPart.__init__" 452 71 3 458) (O (ff 27) (O (cx ["depth","first","last","sort",oH] 1209) (lf (fU 1108 73 2041 719 3 2047)) .nil) (lf (gC 0 1639 1 1640))) (O c' (lf c') (lf b0)))) (O b0 (O c' (O b0 (O b0 (lf (lG [.none])) .nil) (lf (gC 0 1501 1 1502))) (O (cx ["subject","arms","other"] 909) (O (fz 52 1 "Maker.put") (lf (ff 89)) .nil) (lf b0))) (O (fz 14 1 "HandlerPart.finish") (O c' (O (fz 49 2 "Code.with_rows") (lf (cx [iv,"tree",kT,w2,hz,"args",pB,"safe","end","count","told",qp] 2093)) .nil) (lf (nd (oG [543,4,892,550,4,899,554,4,906])))) (O c' (lf b0) (lf (lG [.none])))))
noncomputable def TY(P:aw)(a b d c:Obj):BT:=O (LZ 44 4 "subject_test" "gemrows.compilematch" 194) (O b0 (O b0 (O (cx [iv,"index","ways","at"] 529) (O (ff 40) (lf (cx [fv,"label"] 1946)) .nil) (lf b0)) (O (cx [kA] 771) (O b0 (lf (fU 1164 82 2127 765 1 2131)) .nil) (lf (cx ["names","outer"] 1772)))) (O (nd (oG [71,4,212,75,4,219])) (O b0 (O (gG 588 48 0 "Catch.__init__" eg) (lf (ff 72)) .nil) (lf (gC 1 1609 0 1610))) (O (hl (.type ha) [ih P 1004 kf,nj P 1006 "Node" 1005,ii P 1008 341 1007,jc P 1019 473,bU P "part" 1027 480,ij P 1032 481] 6) (O b0 (lf b0) .nil) (lf (cx [fv,hz,"found"] 1859))))) (O (nf 106) (O b0 (O (fA 300 21 ed) (O (cx [fv,"op","a","b","c","line"] 1147) (lf (gG 1068 70 19 "Compiler.store_index" eI)) .nil) (lf b0)) (O (cx ["args",pB] 877) (O (fz 52 0 "Maker.__init__") (lf c') .nil) (lf b0))) (O b0 (O b0 (O b0 (lf c') .nil) (lf (ff 66))) (O (nd (oG [355,4,504,362,4,511])) (lf (fA 748 54 eg)) (lf (gG 1004 70 10 "Compiler.list_of" eI)))))
noncomputable def TZ(P:aw)(a b d c:Obj):BT:=O (cx ["reason"] 247) (O b0 (O (mP 156 "Part" 375 48 0 378 379) (O (ff 19) (O c' (lf (fz 70 17 "Compiler.store")) .nil) (lf (fU 796 61 1472 527 1 1476))) (O (cx [hz] 819) (O (cx ["told"] 1324) (lf (fA 1180 85 jb)) .nil) (lf b0))) (O (gG 220 13 1 "EnsuredPart.finish" ed) (O (fU 348 28 667 220 3 683) (O ng (lf (fA 1116 74 eI)) .nil) (lf (gC 1 1675 1 1676))) (O (cx [fv,hz] 1023) (lf (qY 1411 730)) (lf (fz 70 8 "Compiler.load"))))) (O c' (O (cx [fv,mQ,"sort",oH,"first","last"] 420) (O c' (O (qY 1172 570) (lf (cx [qp,mQ,t5,"scope","table","ways"] 2012)) .nil) (lf (gC 1 1535 0 1536))) (O (hl (.type ha) [bU P "class" 942 445,bU P "module" 946 446,bU P "sclass" 949 447,bU P "alias" 952 448,bU P "undef" 955 449,bU P "p_value" 957 450,bU P "p_bind" 959 451,bU P "p_pin" 961 452,bU P "p_alt" 963 453,bU P "p_as" 965 454,bU P "p_array" 968 455,bU P "p_hash" 973 456] 12) (O (fE 700 52 2 "Maker.label" 1361 487 1 1365) (lf (fU 1212 90 2189 871 4 2197)) .nil) (lf b0))) (O b0 (O (ff 33) (O (nh 633) (lf b0) .nil) (lf (fE 892 69 0 "Slots.__init__" 1744 543 3 1751))) (O (cx [fv] 1067) (lf c') (lf b0))))
noncomputable def T0(P:aw)(a b d c:Obj):BT:=O b0 (O (lG [.ref 62]) (O b0 (O (fA 258 15 ed) (O (hl (.type ha) [ih P 1047 kf,ii P 1051 353 1050,jc P 1063 505,bU P "plain" 1070 512,ij P 1076 513,bU P "__dict__" 1078 516,bU P "__weakref__" 1080 517,ja P "__doc__" 1081 .none] 4) (lf (gG 1026 70 13 "Compiler.block" eI)) .nil) (lf b0)) (O b0 (O (nd (oG [461,4,650,464,4,657])) (lf (cx ["verb","amount"] 2122)) .nil) (lf (fz 69 1 "Slots.add")))) (O (hl (.type ha) [ih P 380 ed,ii P 384 48 383,jc P 392 164,bU P "open" 400 171,bU P "close" 408 178,bU P "finish" 416 185,bU P "catch" 428 192,ij P 432 193,bU P "__dict__" 434 196,bU P "__weakref__" 436 197,ja P "__doc__" 437 .none] 4) (O b0 (O b0 (lf (nf 1086)) .nil) (lf (gC 1 1559 1 1560))) (O (cx [kA] 958) (O (fz 52 3 "Maker.place") (lf (ff 91)) .nil) (lf (qZ 70 4 "Compiler.body" 955 eI 961))))) (O ng (O (fz 12 0 "Part.__init__") (O b0 (O b0 (lf b0) .nil) (lf (ff 62))) (O (cx ["targets",kA] 840) (O ng (lf (fU 1186 86 2152 803 3 2158)) .nil) (lf (qZ 70 0 "Compiler.__init__" 923 eI 929)))) (O (lG [.ref 195]) (O (ff 29) (O b0 (lf (fU 1122 75 2059 724 3 2065)) .nil) (lf (gC 1 1692 1 1693))) (O (hl (.type ha) [ih P 1004 kf,ii P 1008 341 1007,jc P 1019 473,bU P "part" 1027 480,ij P 1032 481,bU P "__dict__" 1034 484,bU P "__weakref__" 1036 485,ja P "__doc__" 1037 .none] 4) (lf b0) (lf b0))))
noncomputable def T1(P:aw)(a b d c:Obj):BT:=O (mP 50 "GemError" 228 17 0 231 232) (O (vu (b8 "BadSyntax") [.ref 62] [.ref 82,.ref 62,.type "ValueError",.type "Exception",.type "BaseException",.type "object"] 81 (b8 "BadSyntax") af [] ag ag [ae (.ref 66),ah,ae (gW "BadSyntax" 254),ae (gW "BadSyntax" 262),ae (.builtin "ValueError.__new__"),ae (.bool af)]) (O (s8 "Loop" 146 145 314 322) (O c' (O (t4 530 "pattern_names" "pattern_names" 1095 378 1 1098 1099) (lf c') .nil) (lf (cx ["row"] 1468))) (O (cx ["first","last","open"] 789) (O (gG 658 50 1 "Label.told" eg) (lf (fA 1170 83 jb)) .nil) (lf (nf 910)))) (O b0 (O (cx [iv,"node",kT,"ensure",mQ,"base",oH,"done","part","way"] 654) (O (fE 594 48 1 "Catch.covers" 1201 439 2 1206) (lf b0) .nil) (lf (gC 0 1631 1 1632))) (O (lG [.ref 465,.int 0 1009]) (O (gG 722 52 5 "Maker.catch" eg) (lf (fA 1234 93 jb)) .nil) (lf c')))) (O (mP 114 "Loop" 316 32 0 319 320) (O (gG 178 12 2 "Part.close" ed) (O (fU 306 22 584 133 3 598) (O c' (lf (fE 1074 70 20 "Compiler.one_more" 1993 706 2 1998)) .nil) (lf (fA 818 64 eg))) (O (cx ["test",nq,"negate"] 899) (O (cx [fv,"op","a","b","c","row","taken","told"] 1350) (lf b0) .nil) (lf (qZ 70 2 "Compiler.put_at" 939 eI 945)))) (O (cx [fv,iv] 499) (O (fA 370 31 ed) (O (cx [fv,"rows","catches","starts","children"] 1261) (lf b0) .nil) (lf (hl (.type ha) [ih P 1739 eI,nj P 1741 "Slots" 1740,ii P 1743 541 1742,jc P 1753 893,bU P "add" 1761 900,bU P "find" 1771 907,ij P 1774 908] 7))) (O (lG [.ref 495,.ref 496,.none,.ref 497,.none]) (lf (fU 754 55 1430 515 1 1434)) (lf (fE 1010 70 11 "Compiler.arguments" 1902 629 2 1908)))))
noncomputable def T2(P:aw)(a b d c:Obj):BT:=O (ff 4) (O c' (O c' (O b0 (O (cx ["thing","found","item",hz,kA] 1087) (lf b0) .nil) (lf c')) (O b0 (O (fE 650 50 0 "Label.__init__" 1298 461 1 1302) (lf b0) .nil) (lf (fE 906 69 2 "Slots.find" 1762 554 2 1769)))) (O (hl (.type ha) [ih P 447 ed,nj P 449 "EnsuredPart" 448,ii P 451 69 450,jc P 460 213,bU P "finish" 468 220,ij P 470 221] 6) (O c' (O (fz 48 0 "Catch.__init__") (lf (cx [iv,kA,kT] 2035)) .nil) (lf (gC 0 1601 0 1602))) (O b0 (O (fE 714 52 4 "Maker.child" 1376 495 2 1381) (lf (fU 1226 92 2217 926 0 2220)) .nil) (lf b0)))) (O (vu (b8 "BadArgument") [.ref 62] [.ref 106,.ref 62,.type "ValueError",.type "Exception",.type "BaseException",.type "object"] 105 (b8 "BadArgument") af [] ag ag [ae (.ref 97),ah,ae (gW "BadArgument" 296),ae (gW "BadArgument" 304),ae (.builtin "ValueError.__new__"),ae (.bool af)]) (O (fE 170 12 1 "Part.open" 393 55 2 398) (O (ff 21) (O b0 (lf (fz 70 19 "Compiler.store_index")) .nil) (lf (fU 810 63 1486 531 1 1490))) (O (hl (.type ha) [bU P "not" 873 427,bU P "super" 876 428,bU P "yield" 880 429,bU P "lambda" 883 430,bU P "defined" 887 431,bU P "seq" 890 432,bU P "if" 893 433,bU P "while" 898 434,bU P "case" 903 435,bU P "casein" 908 436,bU P "matchp" 913 437,bU P "matchq" 917 438,bU P "begin" 921 439,bU P "break" 927 440,bU P "next" 930 441,bU P "return" 933 442,bU P "def" 936 443] 17) (O (cx [fv] 1343) (lf (fA 1194 87 jb)) .nil) (lf (qZ 70 1 "Compiler.put" 931 eI 937)))) (O c' (O (fU 362 30 707 279 4 716) (O c' (lf (fA 1130 76 eI)) .nil) (lf (cx ["row","told"] 1722))) (O (hl (.type ha) [ih P 1047 kf,nj P 1049 "Params" 1048,ii P 1051 353 1050,jc P 1063 505,bU P "plain" 1070 512,ij P 1076 513] 6) (lf (ff 54)) (lf (fz 70 10 "Compiler.list_of")))))
noncomputable def T3(P:aw)(a b d c:Obj):BT:=O (fE 58 6 0 "GemError.__init__" 239 19 2 244) (O (mP 90 "BadRows" 282 27 0 285 286) (O b0 (O (cx [iv,"height",kT,"label",mQ,"extra","held","turn"] 548) (O (fA 538 42 kf) (lf (cx [fv,oH,qp,w2,hz] 1964)) .nil) (lf b0)) (O (cx [hz] 813) (O b0 (lf (ff 85)) .nil) (lf b0))) (O (fz 13 1 "EnsuredPart.finish") (O b0 (O (nf 598) (lf (ff 74)) .nil) (lf (gC 1 1663 0 1664))) (O b0 (lf (s8 "Maker" 730 729 1328 1336)) (lf (cx [fv,hz] 1875))))) (O (gG 122 11 0 "Loop.__init__" ed) (O b0 (O (fA 314 23 ed) (O (s8 "Row" 570 569 1131 1139) (lf (fE 1082 70 21 "Compiler.send_to" 2001 712 5 2009)) .nil) (lf (gC 0 1527 1 1528))) (O (cx [kA] 934) (O b0 (lf b0) .nil) (lf (qZ 70 3 "Compiler.node" 947 eI 953)))) (O (nh 249) (O b0 (O (r0 1279 633) (lf c') .nil) (lf b0)) (O b0 (lf (fA 762 56 eg)) (lf (fE 1018 70 12 "Compiler.block_of" 1911 637 6 1921)))))
noncomputable def T4(P:aw)(a b d c:Obj):BT:=O b0 (O (nd [i_ 24,i_ 4,.ref 78]) (O (fz 11 2 "Loop.close") (O b0 (O (nh 515) (lf b0) .nil) (lf (ff 58))) (O (C3 P) (O c' (lf (fA 1158 81 jb)) .nil) (lf c'))) (O (nh 195) (O (ff 25) (O b0 (lf (t4 1094 "has_splat" "has_splat" 2026 714 1 2029 2030)) .nil) (lf (gC 2 1573 1 1574))) (O (cx ["pattern",hz] 966) (O c' (lf c') .nil) (lf b0)))) (O (mP 102 "BadArgument" 298 29 0 301 302) (O c' (O b0 (O (nd (oG [421,4,559,428,4,566])) (lf b0) .nil) (lf c')) (O (cx [t5,nq] 859) (O (mP 678 "Maker" 1330 470 0 1333 1334) (lf (cx [hz,"error"] 2164)) .nil) (lf (cx [fv,"op","a","b","c"] 1810)))) (O (nd (oG [79,4,238,84,4,245])) (O c' (O (fz 49 0 "Code.__init__") (lf (cx [iv,"tree",kT,"scope",hz] 2071)) .nil) (lf (gC 1 1704 0 1705))) (O (nh 483) (lf b0) (lf b0))))
noncomputable def T5(P:aw)(a b d c:Obj):BT:=O c' (O ng (O (nf 146) (O (fU 278 18 536 100 2 542) (O (cx [nq,"found","waiting","here","names",hz,"within","part"] 1104) (lf (fE 1046 70 16 "Compiler.code" 1951 667 3 1958)) .nil) (lf (fA 790 60 eg))) (O (cx [hz] 803) (O (r0 1314 661) (lf (t4 1174 "_law_one" "_law_one" 2140 770 4 2143 2144)) .nil) (lf b0))) (O b0 (O (fA 342 27 ed) (O (s8 "Catch" 598 597 1177 1185) (lf b0) .nil) (lf (gC 1 1647 0 1648))) (O b0 (lf (t4 726 "done" "Maker.done" 1396 502 5 1399 1400)) (lf (fE 982 70 7 "Compiler.hidden" 1865 598 1 1869))))) (O (cx [fv,"height",kT,"start","done"] 329) (O b0 (O (cx [iv,"node",kT,mQ,"base","index","loop"] 604) (O (fE 566 47 1 "Row.with_target" 1156 428 2 1161) (lf c') .nil) (lf (gC 1 1509 0 1510))) (O (cx [kA,"pattern"] 918) (O (qZ 52 1 "Maker.put" 687 eg 693) (lf (fA 1206 89 jb)) .nil) (lf (cx [fv,"tree",kT] 1833)))) (O (gG 246 14 1 "HandlerPart.finish" ed) (O b0 (O (gG 630 49 2 "Code.with_rows" eg) (lf (ff 78)) .nil) (lf (ni 885 882 eI))) (O b0 (lf (cx ["row"] 1440)) (lf c'))))
noncomputable def T6(P:aw)(a b d c:Obj):BT:=O ng (O (fE 78 7 0 "BadSyntax.__init__" 266 24 3 272) (O (fE 142 11 3 "Loop.finish" 353 46 2 358) (O (ff 17) (O (fA 526 40 kf) (lf (fz 70 15 "Compiler.start")) .nil) (lf (fU 782 59 1458 523 1 1462))) (O (cx ["text"] 777) (O (cx [fv] 1308) (lf b0) .nil) (lf (s8 "Slots" 910 909 1732 1740)))) (O (ni 205 202 ed) (O (fU 334 26 638 187 3 648) (O c' (lf (fA 1102 72 eI)) .nil) (lf (gC 0 1617 1 1618))) (O (nd (oG [343,4,472,351,4,479])) (O (cx [fv,"sort","first","last",oH,"depth"] 1387) (lf (cx ["script","box","deep","tree","mine","theirs","due","table","made"] 2226)) .nil) (lf (fz 70 6 "Compiler.slot"))))) (O ng (O (cx [fv,mQ] 404) (O c' (O (fz 47 0 "Row.__init__") (lf c') .nil) (lf (cx ["row"] 1496))) (O (cx [t5,nq] 884) (O (gG 686 52 0 "Maker.__init__" eg) (lf b0) .nil) (lf (cx [fv,"tree","op","a","b","c"] 1821)))) (O (fE 238 14 0 "HandlerPart.__init__" 486 79 4 493) (O (cx [iv,"item","subject","found"] 722) (O (fE 622 49 1 "Code.catch_at" 1249 454 3 1255) (lf b0) .nil) (lf (fA 878 66 eg))) (O (ni 493 490 kf) (lf c') (lf c'))))
noncomputable def T7(P:aw)(b c a d:Obj):BT:=O a (O (vu (b8 "BadRows") [.ref 62] [.ref 94,.ref 62,.type "ValueError",.type "Exception",.type "BaseException",.type "object"] 93 (b8 "BadRows") af [] ag ag [ae (.ref 85),ah,ae (gW "BadRows" 280),ae (gW "BadRows" 288),ae (.builtin "ValueError.__new__"),ae (.bool af)]) (O b0 (O (fA 286 19 ed) (O (t4 542 "param_names" "param_names" 1115 404 1 1118 1119) (lf (gG 1054 70 17 "Compiler.store" eI)) .nil) (lf b0)) (O (cx [w2,hz] 826) (O (ff 51) (lf c') .nil) (lf (cx [fv,"table",qp,t5,"own","outer"] 1798)))) (O (hl (.type ha) [ih P 447 ed,ii P 451 69 450,jc P 460 213,bU P "finish" 468 220,ij P 470 221,ja P "__doc__" 471 .none] 2) (O b0 (O b0 (lf c') .nil) (lf (hl (.type ha) [bU P "listfits" 1682 863,bU P "listat" 1685 864,bU P "listpart" 1688 865,bU P "tablehas" 1691 866,bU P "tableat" 1694 867,bU P "tablerest" 1697 868,bU P "tableonly" 1700 869,bU P "nomatch" 1703 870,bU P "blockgiven" 1706 871] 9))) (O (fz 38 1 "Node.part") (lf (nf 730)) (lf (gG 990 70 8 "Compiler.load" eI))))) (O b0 (O (fz 12 4 "Part.catch") (O b0 (O (nf 570) (lf (s8 "Compiler" 1086 1085 1782 1790)) .nil) (lf (gC 1 1543 0 1544))) (O (cx [hz,nq] 947) (O b0 (lf b0) .nil) (lf (cx [fv,"tree",kT] 1842)))) (O (cx [iv,"part"] 513) (O (fA 382 33 ed) (O b0 (lf (fU 1150 80 2110 756 2 2116)) .nil) (lf b0)) (O (fz 39 1 "Params.plain") (lf b0) (lf (cx [fv,pB,t5,nq] 1927)))))
noncomputable def T(P:aw)(a b d c:Obj):BT:=O (boot_o_0 P) (O (boot_o_1 P) (O a (O (boot_o_7 P) (O b0 (TC P a b d c) (TD P a b d c)) (O b0 (TE P a b d c) (TF P a b d c))) (O b0 (O (ff 0) (TG P a b d c) (TH P a b d c)) (O (ff 2) (TI P a b d c) (TJ P a b d c)))) (O (boot_o_5 P) (O (boot_o_9 P) (O (cx ["k"] 190) (TK P a b d c) (TL P a b d c)) (O (cx [iv,kA,kT] 199) (TM P a b d c) (TN P a b d c))) (O (mP 13 "<module>" 182 1 0 185 186) (O (LZ 21 0 "_wall" "__main__" 164) (TO P a b d c) (TP P a b d c)) (O (rZ (w1 (b3 2) (b8 "value_or_nil") (.ref 22) (gW "gemrows.compilematch" 194) (.ref 28))) (TQ P a b d c) (TR P a b d c))))) (O (boot_o_2 P) (O (boot_o_4 P) (O (boot_o_8 P) (O c' (TS P a b d c) (TT P a b d c)) (O c' (TU P a b d c) (TV P a b d c))) (O b (O (fU 20 0 187 1 1 191) (TW P a b d c) (TX P a b d c)) (O (fU 28 2 196 5 3 202) (TY P a b d c) (TZ P a b d c)))) (O (boot_o_6 P) (O (boot_o_10 P) (O b0 (T0 P a b d c) (T1 P a b d c)) (O b0 (T2 P a b d c) (T3 P a b d c))) (O (LX [ae (.ref 13),ae (.ref 3),ae (.ref 3),ah,ae (gW "__main__" 164),ah,ae (.ref 0)]) (O (lG [.bool af]) (T4 P a b d c) (T5 P a b d c)) (O (cx ["call"] 205) (T6 P a b d c) (T7 P a b d c)))))
noncomputable def iW:Env:={scope:=dW.main.scope,locals:=mainNs,globals:=mainNs,cells:=[],code:=.ref 13,frame:=ae 14}
noncomputable def F6:List aQ:=behindTheImports dW
noncomputable def fi:Code:=.body F6 iW
noncomputable def b9:List Frame:=[topFrame ⟨0,0,0,0⟩]
noncomputable def kg(P:aw)(os:aM)(nm:aj)(c d a b n tk:Nat):a5:=⟨T P (lj P nm c) (Tz d) (TA a) (TB b),n,{},⟨[]⟩,{},tk,os⟩
noncomputable def AB(P:aw)(os:aM):a5:=kg P os (gW "__main__" 164) 0 0 0 0 15 187
noncomputable def eD(P:aw)(os:aM):a5:=kg P os mj 5 5 0 0 66 254
theorem T'(w:aF):(λos=>a3 aZ dW w 11 (ae (.ref 6)) 1 364 (AB (w).params os) (a6 [b3 0,b3 1,b3 2,b3 3,b3 4,b3 5,b3 6] iW fi ⟨0,0,0,0⟩ b9))=λos=>ae (.next,eD (w).params os,fi,⟨17,0,21,28⟩):=by cbv
noncomputable def eE(P:aw)(os:aM):a5:=kg P os mj 6 6 1 0 85 280
theorem T_(w:aF):(λos=>a3 aZ dW w 11 (ae (.ref 6)) 1 247 (eD (w).params os) (a6 [b3 7] iW fi ⟨17,0,21,28⟩ b9))=λos=>ae (.next,eE (w).params os,fi,⟨22,0,26,24⟩):=by cbv
noncomputable def hb(P:aw)(os:aM):a5:=kg P os mj 7 7 2 0 97 296
theorem Ua(w:aF):(λos=>a3 aZ dW w 11 (ae (.ref 6)) 1 214 (eE (w).params os) (a6 [b3 8] iW fi ⟨22,0,26,24⟩ b9))=λos=>ae (.next,hb (w).params os,fi,⟨27,0,28,8⟩):=by cbv
noncomputable def hn(P:aw)(os:aM):a5:=kg P os ed 8 8 3 0 109 314
theorem Ub(w:aF):(λos=>a3 aZ dW w 11 (ae (.ref 6)) 1 223 (hb (w).params os) (a6 [b3 9,b3 10] iW fi ⟨27,0,28,8⟩ b9))=λos=>ae (.next,hn (w).params os,fi,⟨31,0,31,8⟩):=by cbv
noncomputable def iX(P:aw)(os:aM):a5:=kg P os ed 9 9 3 0 151 373
theorem Uc(w:aF):(λos=>a3 aZ dW w 11 (ae (.ref 6)) 1 325 (hn (w).params os) (a6 [b3 11] iW fi ⟨31,0,31,8⟩ b9))=λos=>ae (.next,iX (w).params os,fi,⟨32,0,47,12⟩):=by cbv
noncomputable def kB(P:aw)(os:aM):a5:=kg P os ed 10 10 3 0 200 440
theorem Ud(w:aF):(λos=>a3 aZ dW w 11 (ae (.ref 6)) 1 357 (iX (w).params os) (a6 [b3 12] iW fi ⟨32,0,47,12⟩ b9))=λos=>ae (.next,kB (w).params os,fi,⟨48,0,68,63⟩):=by cbv
noncomputable def ml(P:aw)(os:aM):a5:=kg P os ed 11 11 3 1 226 474
theorem Ue(w:aF):(λos=>a3 aZ dW w 11 (ae (.ref 6)) 1 279 (kB (w).params os) (a6 [b3 13] iW fi ⟨48,0,68,63⟩ b9))=λos=>ae (.next,ml (w).params os,fi,⟨69,0,76,39⟩):=by cbv
noncomputable def mR(P:aw)(os:aM):a5:=kg P os ed 15 15 3 2 273 536
theorem Uf(w:aF):(λos=>a3 aZ dW w 11 (ae (.ref 6)) 1 373 (ml (w).params os) (a6 [b3 14,b3 15,b3 16,b3 17] iW fi ⟨69,0,76,39⟩ b9))=λos=>ae (.next,mR (w).params os,fi,⟨93,0,99,24⟩):=by cbv
noncomputable def mm(P:aw)(os:aM):a5:=kg P os ed 26 26 3 2 350 686
theorem Ug(w:aF):(λos=>a3 aZ dW w 11 (ae (.ref 6)) 1 393 (mR (w).params os) (a6 [b3 18,b3 19,b3 20,b3 21,b3 22,b3 23,b3 24,b3 25,b3 26,b3 27,b3 28] iW fi ⟨93,0,99,24⟩ b9))=λos=>ae (.next,mm (w).params os,fi,⟨220,0,242,21⟩):=by cbv
noncomputable def n8(P:aw)(os:aM):a5:=kg P os kf 32 32 3 2 390 760
theorem Uh(w:aF):(λos=>a3 aZ dW w 11 (ae (.ref 6)) 1 212 (mm (w).params os) (a6 [b3 29,b3 30,b3 31,b3 32,b3 33,b3 34,b3 35] iW fi ⟨220,0,242,21⟩ b9))=λos=>ae (.next,n8 (w).params os,fi,⟨338,0,338,8⟩):=by cbv
noncomputable def nr(P:aw)(os:aM):a5:=kg P os kf 33 32 3 2 457 990
theorem Ui(w:aF):(λos=>a3 aZ dW (w.withFollow "special-get-raises" ag) 11 (ae (.ref 6)) 1 1419 (n8 (w.withFollow "special-get-raises" ag).params os) (a6 [b3 36] iW fi ⟨338,0,338,8⟩ b9))=λos=>ae (.next,nr (w.withFollow "special-get-raises" ag).params os,fi,⟨339,0,339,6⟩):=by cbv
theorem Uj(w:aF):(λos=>a3 aZ dW (w.withFollow "special-get-raises" af) 11 (ae (.ref 6)) 1 1419 (n8 (w.withFollow "special-get-raises" af).params os) (a6 [b3 36] iW fi ⟨338,0,338,8⟩ b9))=λos=>ae (.next,nr (w.withFollow "special-get-raises" af).params os,fi,⟨339,0,339,6⟩):=by cbv
theorem Uk:∀w:aF,(λos=>a3 aZ dW w 11 (ae (.ref 6)) 1 1419 (n8 (w).params os) (a6 [b3 36] iW fi ⟨338,0,338,8⟩ b9))=λos=>ae (.next,nr (w).params os,fi,⟨339,0,339,6⟩):=byRow2 "special-get-raises" Ui Uj
noncomputable def s9(P:aw)(os:aM):a5:=kg P os kf 35 33 3 2 488 1040
theorem Ul(w:aF):(λos=>a3 aZ dW w 11 (ae (.ref 6)) 1 280 (nr (w).params os) (a6 [b3 37,b3 38] iW fi ⟨339,0,339,6⟩ b9))=λos=>ae (.next,s9 (w).params os,fi,⟨341,0,352,56⟩):=by cbv
noncomputable def q0(P:aw)(os:aM):a5:=kg P os eg 40 38 3 2 544 1123
theorem Um(w:aF):(λos=>a3 aZ dW w 11 (ae (.ref 6)) 1 399 (s9 (w).params os) (a6 [b3 39,b3 40,b3 41,b3 42,b3 43,b3 44] iW fi ⟨341,0,352,56⟩ b9))=λos=>ae (.next,q0 (w).params os,fi,⟨416,0,416,8⟩):=by cbv
noncomputable def qq(P:aw)(os:aM):a5:=kg P os eg 43 39 3 2 575 1177
theorem Un(w:aF):(λos=>a3 aZ dW w 11 (ae (.ref 6)) 1 291 (q0 (w).params os) (a6 [b3 45,b3 46,b3 47] iW fi ⟨416,0,416,8⟩ b9))=λos=>ae (.next,qq (w).params os,fi,⟨419,0,429,62⟩):=by cbv
noncomputable def s_(P:aw)(os:aM):a5:=kg P os eg 44 40 3 2 603 1222
theorem Uo(w:aF):(λos=>a3 aZ dW w 11 (ae (.ref 6)) 1 263 (qq (w).params os) (a6 [b3 48] iW fi ⟨419,0,429,62⟩ b9))=λos=>ae (.next,s_ (w).params os,fi,⟨430,0,440,16⟩):=by cbv
noncomputable def ta(P:aw)(os:aM):a5:=kg P os eg 45 41 3 2 638 1286
theorem Up(w:aF):(λos=>a3 aZ dW w 11 (ae (.ref 6)) 1 306 (s_ (w).params os) (a6 [b3 49] iW fi ⟨430,0,440,16⟩ b9))=λos=>ae (.next,ta (w).params os,fi,⟨441,0,458,16⟩):=by cbv
noncomputable def vv(P:aw)(os:aM):a5:=kg P os eg 47 43 3 2 673 1328
theorem Uq(w:aF):(λos=>a3 aZ dW w 11 (ae (.ref 6)) 1 282 (ta (w).params os) (a6 [b3 50,b3 51] iW fi ⟨441,0,458,16⟩ b9))=λos=>ae (.next,vv (w).params os,fi,⟨468,0,469,59⟩):=by cbv
noncomputable def t6(P:aw)(os:aM):a5:=kg P os eg 48 44 3 2 735 1416
theorem Ur(w:aF):(λos=>a3 aZ dW w 11 (ae (.ref 6)) 1 425 (vv (w).params os) (a6 [b3 52] iW fi ⟨468,0,469,59⟩ b9))=λos=>ae (.next,t6 (w).params os,fi,⟨470,0,510,84⟩):=by cbv
noncomputable def C5(P:aw)(os:aM):a5:=kg P os eg 60 56 3 2 819 1500
theorem Us(w:aF):(λos=>a3 aZ dW w 11 (ae (.ref 6)) 1 349 (t6 (w).params os) (a6 [b3 53,b3 54,b3 55,b3 56,b3 57,b3 58,b3 59,b3 60,b3 61,b3 62,b3 63,b3 64] iW fi ⟨470,0,510,84⟩ b9))=λos=>ae (.next,C5 (w).params os,fi,⟨533,0,534,59⟩):=by cbv
noncomputable def C6(P:aw)(os:aM):a5:=kg P os eg 61 56 3 2 872 1719
theorem Ut(w:aF):(λos=>a3 aZ dW (w.withFollow "special-get-raises" ag) 11 (ae (.ref 6)) 1 1348 (C5 (w.withFollow "special-get-raises" ag).params os) (a6 [b3 65] iW fi ⟨533,0,534,59⟩ b9))=λos=>ae (.next,C6 (w.withFollow "special-get-raises" ag).params os,fi,⟨535,0,535,7⟩):=by cbv
theorem Uu(w:aF):(λos=>a3 aZ dW (w.withFollow "special-get-raises" af) 11 (ae (.ref 6)) 1 1348 (C5 (w.withFollow "special-get-raises" af).params os) (a6 [b3 65] iW fi ⟨533,0,534,59⟩ b9))=λos=>ae (.next,C6 (w.withFollow "special-get-raises" af).params os,fi,⟨535,0,535,7⟩):=by cbv
theorem Uv:∀w:aF,(λos=>a3 aZ dW w 11 (ae (.ref 6)) 1 1348 (C5 (w).params os) (a6 [b3 65] iW fi ⟨533,0,534,59⟩ b9))=λos=>ae (.next,C6 (w).params os,fi,⟨535,0,535,7⟩):=byRow2 "special-get-raises" Ut Uu
noncomputable def L2(P:aw)(os:aM):a5:=kg P os eI 64 58 3 2 915 1782
theorem Uw(w:aF):(λos=>a3 aZ dW w 11 (ae (.ref 6)) 1 343 (C6 (w).params os) (a6 [b3 66,b3 67,b3 68,b3 69] iW fi ⟨535,0,535,7⟩ b9))=λos=>ae (.next,L2 (w).params os,fi,⟨541,0,560,19⟩):=by cbv
noncomputable def L3(P:aw)(os:aM):a5:=kg P os eI 65 59 3 2 1091 2026
theorem Ux(w:aF):(λos=>a3 aZ dW w 11 (ae (.ref 6)) 1 951 (L2 (w).params os) (a6 [b3 70] iW fi ⟨541,0,560,19⟩ b9))=λos=>ae (.next,L3 (w).params os,fi,⟨561,0,713,93⟩):=by cbv
noncomputable def L4(P:aw)(os:aM):a5:=kg P os jb 77 71 3 2 1171 2140
theorem Uy(w:aF):(λos=>a3 aZ dW w 11 (ae (.ref 6)) 1 382 (L3 (w).params os) (a6 [b3 71,b3 72,b3 73,b3 74,b3 75,b3 76,b3 77,b3 78,b3 79,b3 80,b3 81,b3 82,b3 83] iW fi ⟨561,0,713,93⟩ b9))=λos=>ae (.next,L4 (w).params os,fi,⟨768,0,769,121⟩):=by cbv
noncomputable def y9(P:aw)(os:aM):a5:=kg P os jb 87 81 3 2 1235 2238
theorem Uz(w:aF):(λos=>a3 aZ dW w 11 (ae (.ref 6)) 1 313 (L4 (w).params os) (a6 [b3 84,b3 85,b3 86,b3 87,b3 88,b3 89,b3 90,b3 91,b3 92,b3 93] iW fi ⟨768,0,769,121⟩ b9))=λos=>ae (.next,y9 (w).params os,fi,⟨928,0,939,87⟩):=by cbv
section head
variable(w:aF)(os:aM)
theorem kC{n:Nat}{s:a5}{t:Thread}{r:Option (Flow×a5×Code×Pos)}(h:a3 aZ dW w 11 (ae (.ref 6)) 1 n s t=r):segRunT aoH dW w 11 (ae (.ref 6)) 1 n s t=r:=by rw[PySem.W.Fast.te10110043849684766642,apW];exact h
noncomputable def St(k:Nat):Nat:=k
theorem UA:(λos=>PySem.W.Fast.tw15667345088766844465 aZ dW w 11 (ae (.ref 6)) 12 ⟨anN w.params,⟨[]⟩,boot_drawn,boot_toks,os⟩ (topStub dW))=λos=>ae ((AB w.params os).abs,⟨PySem.W.Fast.tw11892475500146522536 aZ fi,fi,⟨0,0,0,0⟩,b9⟩):=by cbv
theorem pre:topGo aoH dW w 11 (ae (.ref 6)) 12 ⟨anN w.params,⟨[]⟩,boot_drawn,boot_toks,os⟩ (topStub dW)=ae ((AB w.params os).abs,⟨denote aoH fi,fi,⟨0,0,0,0⟩,b9⟩):=by rw[PySem.W.Fast.te15667345088766844465,apW,PySem.W.Fast.te11892475500146522536];exact congrFun (UA w) os
theorem UB:segRun aoH dW w 11 (ae (.ref 6)) 1 1 (AB w.params os).abs (blockOf F6 iW fi ⟨0,0,0,0⟩ b9)=ae (.next,(AB w.params os).abs,fi,⟨0,0,0,0⟩):=by cbv
theorem UC:topRun aoH dW w 11 (ae (.ref 6)) 2 (y9 w.params os).abs (restOf [] iW fi ⟨928,0,939,87⟩ b9)=ae (y9 w.params os).abs:=by cbv
theorem UD:F6=[b3 0,b3 1,b3 2,b3 3,b3 4,b3 5,b3 6]++([b3 7]++([b3 8]++([b3 9,b3 10]++([b3 11]++([b3 12]++([b3 13]++([b3 14,b3 15,b3 16,b3 17]++([b3 18,b3 19,b3 20,b3 21,b3 22,b3 23,b3 24,b3 25,b3 26,b3 27,b3 28]++([b3 29,b3 30,b3 31,b3 32,b3 33,b3 34,b3 35]++([b3 36]++([b3 37,b3 38]++([b3 39,b3 40,b3 41,b3 42,b3 43,b3 44]++([b3 45,b3 46,b3 47]++([b3 48]++([b3 49]++([b3 50,b3 51]++([b3 52]++([b3 53,b3 54,b3 55,b3 56,b3 57,b3 58,b3 59,b3 60,b3 61,b3 62,b3 63,b3 64]++([b3 65]++([b3 66,b3 67,b3 68,b3 69]++([b3 70]++([b3 71,b3 72,b3 73,b3 74,b3 75,b3 76,b3 77,b3 78,b3 79,b3 80,b3 81,b3 82,b3 83]++([b3 84,b3 85,b3 86,b3 87,b3 88,b3 89,b3 90,b3 91,b3 92,b3 93]++[]))))))))))))))))))))))):=by cbv
theorem UE:topRun aoH dW w 11 (ae (.ref 6)) (12+(1+(364+(247+(214+(223+(325+(357+(279+(373+(393+(212+(1419+(280+(399+(291+(263+(306+(282+(425+(349+(1348+(343+(951+(382+(313+2)))))))))))))))))))))))))) ⟨anN w.params,⟨[]⟩,boot_drawn,boot_toks,os⟩ (topStub dW)=ae (y9 w.params os).abs:=
 go_top (pre w os) (piece_block (UB w os) (UD▸(bl (bm (kC w (congrFun (T' w) os))) (bl (bm (kC w (congrFun (T_ w) os))) (bl (bm (kC w (congrFun (Ua w) os))) (bl (bm (kC w (congrFun (Ub w) os))) (bl (bm (kC w (congrFun (Uc w) os))) (bl (bm (kC w (congrFun (Ud w) os))) (bl (bm (kC w (congrFun (Ue w) os))) (bl (bm (kC w (congrFun (Uf w) os))) (bl (bm (kC w (congrFun (Ug w) os))) (bl (bm (kC w (congrFun (Uh w) os))) (bl (bm (kC w (congrFun (Uk w) os))) (bl (bm (kC w (congrFun (Ul w) os))) (bl (bm (kC w (congrFun (Um w) os))) (bl (bm (kC w (congrFun (Un w) os))) (bl (bm (kC w (congrFun (Uo w) os))) (bl (bm (kC w (congrFun (Up w) os))) (bl (bm (kC w (congrFun (Uq w) os))) (bl (bm (kC w (congrFun (Ur w) os))) (bl (bm (kC w (congrFun (Us w) os))) (bl (bm (kC w (congrFun (Uv w) os))) (bl (bm (kC w (congrFun (Uw w) os))) (bl (bm (kC w (congrFun (Ux w) os))) (bl (bm (kC w (congrFun (Uy w) os))) (bl (bm (kC w (congrFun (Uz w) os))) (UC w os)))))))))))))))))))))))))))
end head
noncomputable def H₁(P:aw):aD:=(y9 P default).abs.heap
noncomputable def t7:Program:={dW with main:={dW.main with body:=[b3 93]}}
noncomputable def w3:List Str:=(dW.main.scope.names.filter λx=>x.2==.local&&!(x.1==au "law"||x.1==au "__name__")).map (·.1)
noncomputable def C7(_:aA):Bool:=af
def w4(w:aF)(h:aD):Prop:=∀b a,(H₁ w.params).get? b=ae a->h.get? b=ae a
theorem UF(w:aF):((anN w.params).isNs aoq&&(Array.mk ([]:List GenState)).size==0,(anN w.params).objs.size,(anN w.params).nsMap aoq (au "__annotations__"))=(af,11,ae (aot 6)):=by cbv
noncomputable def F7(w:aF)(os:aM):aA:=⟨H₁ w.params,⟨[]⟩,{},2238,os⟩
theorem UG(w:aF):(λos=>staticsOk (importedModules dW.main.body) (anN w.params) (H₁ w.params)&&namesBound dW (H₁ w.params)&&gensDone (F7 w os)&&laidKept (anN w.params) (H₁ w.params))=λ_=>af:=by cbv
theorem UH(w:aF):(λos=>PySem.W.Fast.tw4187177175401517315 t7 w3 (importedModules dW.main.body) C7 af (F7 w os))=λ_=>openGood t7 w3:=by cbv
theorem UI(w:aF):(λos=>openSeen t7 w3 (importedModules dW.main.body) C7 af (F7 w os))=λ_=>openGood t7 w3:=by rw[PySem.W.Fast.te4187177175401517315];exact UH w
theorem left:LeftO dW t7 w3 C7 (λs=>s.heap) (λw=>H₁ w.params) 11000 af:=
 LeftO.of_pieces (H₀:=anN) (H₁:=H₁) (gs₀:=⟨[]⟩) (gs₁:=⟨[]⟩) (d₀:=boot_drawn) (d₁:={}) (k₀:=boot_toks) (k₁:=2238) (m₀:=11) (ann:=ae (.ref 6))
  (boot_open (by cbv) (by decide) (λ_=>by cbv)) UF UE (by decide+kernel)
  (λw=>funext λos=>looks_pair (congrFun (UG w) os) (looks_pair (congrFun (UI w) os) rfl))
noncomputable abbrev kh:OpenLaw:=PySem.Challenge.rw_nu0295_01
noncomputable def dL:DefRec:=oF (b3 93)
abbrev Walk:Prop:=WalkO t7 w3 (λ_ _=>True) w4 kh.row.toRowW dL [] (λf a=>bo f a)
theorem UJ:defOf t7 kh.row.name=ae (dL,[]):=by cbv
theorem tb:kh.row.prog.theDef kh.row.name=ae (dL.params,dL.body,dL.scope):=by rw[PySem.W.Fast.te10235530238920679567];cbv
theorem UK:(chainsOk t7&&opensWell kh.row.prog&&(frees kh.row.toRowW&&kh.row.within.isEmpty))=af:=by cbv
theorem hd(L5:kh.wellSaid=af)(walk:Walk):kh.Holds:=
 holds_law L5 λf=>PySem.W.holds_open (r:=kh.row) (q:=t7) (loose:=w3) (Xt:=C7) (XP:=λ_ _=>True) (Yf:=λs=>s.heap) (Ya:=λa=>H₁ a.params) (YP:=w4) (d:=dL) (kwd:=[]) (N:=11000)
  left (λa s e b c h=>by rw[e];exact h) (λa h g x k b c e=>k b c (x b c e)) (λ_ _=>trivial) (λ_ _ _ _ _=>trivial)
  UJ tb (by cbv) (λs _=>recFacts_nil rfl) rfl f UK ⟨rfl,rfl,rfl,rfl,rfl,by decide+kernel⟩ ⟨[.list []],by decide+kernel,by decide+kernel⟩ walk
theorem UM:apX PySem.Challenge.pw_nu0295_01=af:=by
 delta apX
 repeat' (with_reducible refine look_both ?_ ?_)
 all_goals cbv
theorem UN:apY (apZ kh)=af:=by
 delta apY
 repeat' (with_reducible refine look_both ?_ ?_)
 .exact UM
 all_goals cbv
theorem UO:aqa (apZ kh)=af:=by
 delta aqa
 repeat' (with_reducible refine look_both ?_ ?_)
 .exact UN
 all_goals cbv
theorem UP:aqb kh=af:=by
 delta aqb
 repeat' (with_reducible refine look_both ?_ ?_)
 .exact UO
 all_goals cbv
theorem L5:kh.wellSaid=af:=by rw[PySem.W.Fast.te9446332074065402090];exact UP
theorem B{b:Sort _}{a:b}:a=a:=rfl
theorem cn{n m:Nat}(h:a0 n m=af):n<=m:=ay h
theorem fa{a n m:Nat}(h:a<=n)(e:a0 n m=af):a<=m:=aq h (cn e)
theorem L6{a n b m:Nat}(h:a+n<=b)(e:a0 m n=af):a+m<=b:=aq (bF (cn e) a) h
theorem fw{a n m:Nat}(h:n<=a)(e:a0 m n=af):a=a-m+m:=(apJ (aq (cn e) h)).symm
theorem w5{a b n m:Nat}(h:n+a<=b)(e:a0 m n=af):b=b-m+m:=fw (aq (bq n a) h) e
theorem Tm{a b:Nat}(h:a=b):b<=a:=ak h.symm
theorem w6{a b n m:Nat}(h:a<=n)(g:b=a)(e:a0 n m=af):b<=m:=g▸fa h e
theorem F8{a b n m:Nat}(h:a<=n)(g:a=b)(e:a0 n m=af):b<=m:=g▸fa h e
theorem AC{a b c n:Nat}(h:a+(b+n)<=c):a+n+b<=c:=aq (ak ((aoc a n b).trans (congrArg (a+·) (aod n b)))) h
theorem w7{a b c n:Nat}(h:a+(b+n)<=c):a+b<=c:=aq (bF (bq b n) a) h
theorem oI(i:Int):i<=i+1:=Int.le_add_of_nonneg_right (by decide)
theorem C8(i:Int)(a:Nat):i<=i+a:=Int.le_add_of_nonneg_right (aH a)
theorem vw{a b:Nat}(h:a<b):(a:Int)<b:=anH.2 h
theorem g0{a b:Nat}(h:a<=b):(a:Int)<=b:=bJ.2 h
theorem Ty{i m n:Int}(h:i<m)(e:decide (m<=n)=af):i<n:=Int.lt_of_lt_of_le h (of_decide_eq_true e)
theorem cY{a b e f:Nat}(h:a<=b)(g:e+b<=f+a:=by k_is):e<=f:=aou (aq g (bF h f))
theorem dp{a b c d e f:Nat}(h:a<=b)(k:c<=d)(g:e+b+d<=f+a+c:=by k_is):e<=f:=aou (aou (aq g (ar (bF h f) k)))
theorem c0{a b c d i j e f:Nat}(h:a<=b)(k:c<=d)(l:i<=j)(g:e+b+d+j<=f+a+c+i:=by k_is):e<=f:=aou (aou (aou (aq g (ar (ar (bF h f) k) l))))
theorem g4{a b e f:Int}(h:a<=b)(g:e+b<=f+a:=by k_is):e<=f:=aov (bg g (aoe h f))
theorem h9{a b c d e f:Int}(h:a<=b)(k:c<=d)(g:e+b+d<=f+a+c:=by k_is):e<=f:=aov (aov (bg g (bx (aoe h f) k)))
theorem jz{a b c d i j e f:Int}(h:a<=b)(k:c<=d)(l:i<=j)(g:e+b+d+j<=f+a+c+i:=by k_is):e<=f:=aov (aov (aov (bg g (bx (bx (aoe h f) k) l))))
theorem cV{C:Prop}{b:Type _}{a:b}(h:ah=ae a):C:=Option.noConfusion B (heq_of_eq h)
theorem gS{C:Prop}{b:Type _}{a:b}(h:ae a=ah):C:=cV h.symm
theorem d8{C:Prop}(h:ag=af):C:=(anI h).elim
theorem kD{C:Prop}(h:af=ag):C:=d8 h.symm
theorem eB(x y:Nat):x<=x-y+y:=Nat.le_add_of_sub_le (av _)
theorem sB{x y:Nat}(h:y<=x):x-y+y<=x:=ak (apJ h)
theorem n9(a b:Nat):max a b=a/\b<=a\/max a b=b/\a<=b:=(apk b a).elim (λh=>.inl ⟨Nat.max_eq_left h,h⟩) λh=>.inr ⟨Nat.max_eq_right h,h⟩
theorem kU(x y:Nat):x-y+y=x\/x-y=0/\x<=y:=(apk y x).elim (λh=>.inl (apJ h)) λh=>.inr ⟨apl h,h⟩
theorem eP{d3 a C:Prop}(h:d3/\a)(k:d3->a->C):C:=k h.1 h.2
theorem gu{d:Sort _}{d3:d->Prop}{C:Prop}(h:∃a,d3 a)(k:∀a,d3 a->C):C:=aB h λb c=>k b c
theorem iw{d3 a b C:Prop}(h:d3/\a/\b)(k:d3->a->b->C):C:=k h.1 h.2.1 h.2.2
section
variable{jq:Sort _}{d3 eK fg P3:jq->Prop}{C:Prop}
theorem c_(h:∃a,d3 a/\eK a)(k:∀a,d3 a->eK a->C):C:=aB h λc b=>k c b.1 b.2
theorem lI(h:∃a,d3 a/\eK a/\fg a)(k:∀a,d3 a->eK a->fg a->C):C:=aB h λc b=>k c b.1 b.2.1 b.2.2
theorem tc(h:∃a,d3 a/\eK a/\fg a/\P3 a)(k:∀a,d3 a->eK a->fg a->P3 a->C):C:=aB h λc b=>k c b.1 b.2.1 b.2.2.1 b.2.2.2
end
section
variable{jq ll:Sort _}{d3 eK fg P3 jP nt vx AD:jq->ll->Prop}{C:Prop}
theorem lZ(h:∃b a,d3 b a/\eK b a)(k:∀b a,d3 b a->eK b a->C):C:=aB h λd e=>aB e λf c=>k d f c.1 c.2
theorem gT(h:∃b a,d3 b a/\eK b a/\fg b a)(k:∀b a,d3 b a->eK b a->fg b a->C):C:=aB h λd e=>aB e λf c=>k d f c.1 c.2.1 c.2.2
theorem y'(h:∃b a,d3 b a/\eK b a/\fg b a/\P3 b a)(k:∀b a,d3 b a->eK b a->fg b a->P3 b a->C):C:=aB h λd e=>aB e λf c=>k d f c.1 c.2.1 c.2.2.1 c.2.2.2
theorem UQ(h:∃b a,d3 b a/\eK b a/\fg b a/\P3 b a/\jP b a/\nt b a/\vx b a/\AD b a)(k:∀b a,d3 b a->eK b a->fg b a->P3 b a->jP b a->nt b a->vx b a->AD b a->C):C:=aB h λd e=>aB e λf c=>k d f c.1 c.2.1 c.2.2.1 c.2.2.2.1 c.2.2.2.2.1 c.2.2.2.2.2.1 c.2.2.2.2.2.2.1 c.2.2.2.2.2.2.2
end
section
variable{jq ll r1:Sort _}{d3 eK fg P3 jP nt:jq->ll->r1->Prop}{C:Prop}
theorem r2(h:∃b a c,d3 b a c/\eK b a c)(k:∀b a c,d3 b a c->eK b a c->C):C:=aB h λf g=>aB g λi j=>aB j λe d=>k f i e d.1 d.2
theorem AE(h:∃b a c,d3 b a c/\eK b a c/\fg b a c)(k:∀b a c,d3 b a c->eK b a c->fg b a c->C):C:=aB h λf g=>aB g λi j=>aB j λe d=>k f i e d.1 d.2.1 d.2.2
theorem mn(h:∃b a c,d3 b a c/\eK b a c/\fg b a c/\P3 b a c)(k:∀b a c,d3 b a c->eK b a c->fg b a c->P3 b a c->C):C:=aB h λf g=>aB g λi j=>aB j λe d=>k f i e d.1 d.2.1 d.2.2.1 d.2.2.2
theorem w8(h:∃b a c,d3 b a c/\eK b a c/\fg b a c/\P3 b a c/\jP b a c)(k:∀b a c,d3 b a c->eK b a c->fg b a c->P3 b a c->jP b a c->C):C:=aB h λf g=>aB g λi j=>aB j λe d=>k f i e d.1 d.2.1 d.2.2.1 d.2.2.2.1 d.2.2.2.2
theorem AF(h:∃b a c,d3 b a c/\eK b a c/\fg b a c/\P3 b a c/\jP b a c/\nt b a c)(k:∀b a c,d3 b a c->eK b a c->fg b a c->P3 b a c->jP b a c->nt b a c->C):C:=aB h λf g=>aB g λi j=>aB j λe d=>k f i e d.1 d.2.1 d.2.2.1 d.2.2.2.1 d.2.2.2.2.1 d.2.2.2.2.2
end
section
variable{jq ll r1 w9:Sort _}{d3 eK fg P3 jP:jq->ll->r1->w9->Prop}{C:Prop}
theorem t8(h:∃b a c d,d3 b a c d/\eK b a c d)(k:∀b a c d,d3 b a c d->eK b a c d->C):C:=aB h λi l=>aB l λm n=>aB n λf j=>aB j λg e=>k i m f g e.1 e.2
theorem F9(h:∃b a c d,d3 b a c d/\eK b a c d/\fg b a c d)(k:∀b a c d,d3 b a c d->eK b a c d->fg b a c d->C):C:=aB h λi l=>aB l λm n=>aB n λf j=>aB j λg e=>k i m f g e.1 e.2.1 e.2.2
theorem C9(h:∃b a c d,d3 b a c d/\eK b a c d/\fg b a c d/\P3 b a c d)(k:∀b a c d,d3 b a c d->eK b a c d->fg b a c d->P3 b a c d->C):C:=aB h λi l=>aB l λm n=>aB n λf j=>aB j λg e=>k i m f g e.1 e.2.1 e.2.2.1 e.2.2.2
theorem kV(h:∃b a c d,d3 b a c d/\eK b a c d/\fg b a c d/\P3 b a c d/\jP b a c d)(k:∀b a c d,d3 b a c d->eK b a c d->fg b a c d->P3 b a c d->jP b a c d->C):C:=aB h λi l=>aB l λm n=>aB n λf j=>aB j λg e=>k i m f g e.1 e.2.1 e.2.2.1 e.2.2.2.1 e.2.2.2.2
end
section
variable{jq ll r1 w9 F_ UR:Sort _}{d3 eK:jq->ll->r1->w9->F_->UR->Prop}{C:Prop}
theorem Ga(h:∃c a e d ei b,d3 c a e d ei b/\eK c a e d ei b)(k:∀c a e d ei b,d3 c a e d ei b->eK c a e d ei b->C):C:=aB h λl j=>aB j λp o=>aB o λg i=>aB i λr s=>aB s λn q=>aB q λm f=>k l p g r n m f.1 f.2
end
section
variable{jq ll r1 w9 F_:Sort _}{d3 eK fg P3 jP nt:jq->ll->r1->w9->F_->Prop}{C:Prop}
theorem US(h:∃b a c d ei,d3 b a c d ei/\eK b a c d ei/\fg b a c d ei/\P3 b a c d ei/\jP b a c d ei)(k:∀b a c d ei,d3 b a c d ei->eK b a c d ei->fg b a c d ei->P3 b a c d ei->jP b a c d ei->C):C:=aB h λj m=>aB m λn p=>aB p λf l=>aB l λg i=>aB i λo e=>k j n f g o e.1 e.2.1 e.2.2.1 e.2.2.2.1 e.2.2.2.2
theorem UT(h:∃b a c d ei,d3 b a c d ei/\eK b a c d ei/\fg b a c d ei/\P3 b a c d ei/\jP b a c d ei/\nt b a c d ei)(k:∀b a c d ei,d3 b a c d ei->eK b a c d ei->fg b a c d ei->P3 b a c d ei->jP b a c d ei->nt b a c d ei->C):C:=aB h λj m=>aB m λn p=>aB p λf l=>aB l λg i=>aB i λo e=>k j n f g o e.1 e.2.1 e.2.2.1 e.2.2.2.1 e.2.2.2.2.1 e.2.2.2.2.2
end
theorem vy{i e:Sort _}{d3:i->e->Prop}{C:Prop}(h:∃b a,d3 b a)(k:∀b a,d3 b a->C):C:=aB h λc d=>aB d λf g=>k c f g
theorem jQ{d3 b c a C:Prop}(h:d3/\b/\c/\a)(k:d3->b->c->a->C):C:=k h.1 h.2.1 h.2.2.1 h.2.2.2
theorem L8{d:Sort _}{d3:Prop}{c e:d->Prop}{C:Prop}(h:d3/\∃a,c a/\e a)(k:d3->∀a,c a->e a->C):C:=aB (h.2) λf b=>k h.1 f b.1 b.2
theorem mq{n i l:Sort _}{d3:n->i->l->Prop}{C:Prop}(h:∃b a c,d3 b a c)(k:∀b a c,d3 b a c->C):C:=aB h λe g=>aB g λj m=>aB m λd f=>k e j d f
theorem AG{d3 b d a c C:Prop}(h:d3/\b/\d/\a/\c)(k:d3->b->d->a->c->C):C:=k h.1 h.2.1 h.2.2.1 h.2.2.2.1 h.2.2.2.2
theorem Gb{f c:Sort _}{d3:Prop}{d g:f->c->Prop}{C:Prop}(h:d3/\∃b a,d b a/\g b a)(k:d3->∀b a,d b a->g b a->C):C:=aB (h.2) λi j=>aB j λl e=>k h.1 i l e.1 e.2
theorem AH{o r j m:Sort _}{d3:o->r->j->m->Prop}{C:Prop}(h:∃b a d c,d3 b a d c)(k:∀b a d c,d3 b a d c->C):C:=aB h λi g=>aB g λn l=>aB l λe f=>aB f λp q=>k i n e p q
theorem L9{d3 b e a c d C:Prop}(h:d3/\b/\e/\a/\c/\d)(k:d3->b->e->a->c->d->C):C:=k h.1 h.2.1 h.2.2.1 h.2.2.2.1 h.2.2.2.2.1 h.2.2.2.2.2
theorem C'{e c:Sort _}{d3:Prop}{g i f:e->c->Prop}{C:Prop}(h:d3/\∃b a,g b a/\i b a/\f b a)(k:d3->∀b a,g b a->i b a->f b a->C):C:=aB (h.2) λj l=>aB l λm d=>k h.1 j m d.1 d.2.1 d.2.2
theorem td{d3 b e a c d f C:Prop}(h:d3/\b/\e/\a/\c/\d/\f)(k:d3->b->e->a->c->d->f->C):C:=k h.1 h.2.1 h.2.2.1 h.2.2.2.1 h.2.2.2.2.1 h.2.2.2.2.2.1 h.2.2.2.2.2.2
theorem L'{d3 b f a c e g d C:Prop}(h:d3/\b/\f/\a/\c/\e/\g/\d)(k:d3->b->f->a->c->e->g->d->C):C:=k h.1 h.2.1 h.2.2.1 h.2.2.2.1 h.2.2.2.2.1 h.2.2.2.2.2.1 h.2.2.2.2.2.2.1 h.2.2.2.2.2.2.2
inductive J where
 |none
 |bool (b:Bool)
 |int (i:Int)
 |str (s:Str)
 |ref (a:ai)
 |glob (a:ai)
 |blt (s:String)
 |typ (s:String)
 |tup (vs:List J)
 |lst (vs:List J)
 |jA (cG:List Str) (vs:List J)
 |obj (C:ai) (cG:List Str) (vs:List J)
inductive hg where
 |list (vs:List J)
 |inst (C:ai) (fs:List (Str×J))
 |eJ (es:List (Str×J))
 |iM (es:List (Int×J))
 |ki (es:List ((Int×Int)×J))
abbrev bW:=ai->Option hg
noncomputable def bW.set(H:bW)(a:ai)(o:hg):bW:=λb=>if b=a then ae o else H b
noncomputable def bW.del(H:bW)(a:ai):bW:=λb=>if b=a then ah else H b
abbrev bT:=bW->Prop
abbrev cZ:=J->bT
set_option genCtorIdx true in
inductive d6 where
 |un
 |Y (v:J)
 |q1
 |iN (v:J)
 |gl (v:J)
abbrev Loc:=List (Str×d6)
def sEq(a b:Str):Bool:=PySem.W.Fast.sEq a b
def look{a:Type}(x:Str):List (Str×a)->Option a
 |[]=>ah
 |(y,v)::r=>match sEq y x with
  |true=>ae v
  |false=>look x r
def put{a:Type}(x:Str)(v:a):List (Str×a)->List (Str×a)
 |[]=>[(x,v)]
 |(y,u)::r=>match sEq y x with
  |true=>(y,v)::r
  |false=>(y,u)::put x v r
def pD(x:Str):List Str->List J->Option J
 |y::cG,v::vs=>match sEq y x with
  |true=>ae v
  |false=>pD x cG vs
 |_,_=>ah
noncomputable def kW{c:Type}(a:ai):List (ai×c)->Option c
 |[]=>ah
 |(b,v)::r=>match aG b a with
  |true=>ae v
  |false=>kW a r
noncomputable def UU(l:List String):J:=.tup (l.map λs=>.str (au s))
noncomputable def UV(p:Int×Int):J:=cond (decide (p.1=100)) (.glob p.2.toNat) (.tup [.int p.1,.int p.2])
noncomputable def AI(p:String×Nat):Str×J:=(au p.1,.glob p.2)
noncomputable def L_(l:List String):List Str:=l.map au
noncomputable def n'(p:String×Nat):Str×Nat:=(au p.1,p.2)
noncomputable def t9:J:=.jA (L_ ["nil","true","false","self","retry","int","sym","str","dstr","array","hash","range","splat","lvar","ivar","gvar","const","t_local","t_ivar","t_gvar","t_const","t_index","t_attr","t_splat","t_group","assign","masgn","opasgn","call","vcall","block","blockpass","and","or","not","super","yield","lambda","defined","seq","if","while","case","casein","matchp","matchq","begin","break","next","return","def","class","module","sclass","alias","undef","p_value","p_bind","p_pin","p_alt","p_as","p_array","p_hash"]) ([[],[],[],[],[],["value"],["name"],["text"],["parts"],["items"],["pairs"],["first","last","open"],["value"],["name"],["name"],["name"],["scope","name"],["name"],["name"],["name"],["name"],["receiver","args"],["receiver","name"],["target"],["targets"],["target","value"],["targets","value"],["target","op","value"],["receiver","name","args","block","safe"],["name"],["params","body"],["value"],["left","right"],["left","right"],["value"],["args","block"],["args"],["params","body"],["value"],["items"],["test","yes","no"],["test","body","negate"],["subject","whens","other"],["subject","arms","other"],["value","pattern"],["value","pattern"],["body","rescues","other","ensure"],["value"],["value"],["value"],["singleton","name","params","body"],["name","superclass","body"],["name","body"],["value","body"],["new","old"],["name"],["value"],["name"],["value"],["patterns"],["pattern","name"],["const","pre","rest","post"],["const","pairs","rest"]].map UU)
noncomputable def w':J:=.jA (L_ ["push","text","pop","dup","dup2","swap","tuck","self","getl","setl","geti","seti","getg","setg","getc","getcin","setc","list","append","joinlists","spread","table","range","totext","texts","send","super","zsuper","yield","jump","jumpif","jumpunless","jumpnil","lambda","def","sdef","class","module","sclass","alias","undef","leave","out","again","caught","setcaught","defined","spreadto","respond","islist","istable","listfits","listat","listpart","tablehas","tableat","tablerest","tableonly","nomatch","blockgiven"]) ([(0,1),(0,1),(1,0),(1,2),(2,4),(2,2),(100,755),(0,1),(0,1),(1,0),(0,1),(1,0),(0,1),(1,0),(0,1),(1,1),(1,0),(100,762),(2,1),(2,1),(1,1),(100,769),(2,1),(1,1),(100,762),(100,776),(100,783),(100,790),(100,797),(0,0),(1,0),(1,0),(1,1),(0,1),(0,1),(1,1),(100,804),(0,1),(1,1),(0,1),(0,1),(1,0),(1,0),(1,0),(1,1),(1,0),(100,811),(100,818),(1,1),(1,1),(1,1),(1,1),(1,1),(1,1),(1,1),(1,1),(1,1),(1,1),(1,0),(0,1)].map UV)
noncomputable def vz:List (Str×J):=[("_wall",21),("value_or_nil",29),("call",37),("subject_test",44),("GemError",62),("BadSyntax",82),("BadRows",94),("BadArgument",106),("Loop",146),("Part",195),("EnsuredPart",223),("HandlerPart",249),("enter",258),("end",265),("way_out",272),("way_back",279),("jump_to",286),("innermost",293),("compile_if",300),("compile_while",307),("compile_break",314),("compile_next",321),("compile_return",328),("compile_retry",335),("compile_begin",342),("compile_rescued",349),("compile_handlers",356),("class_tests",363),("test_jump",370),("splat_tests",377),("store_many",382),("store_one",389)].map AI++[(au "FIELDS",t9)]++[(au "OWN_NAMES",.tup [.str (au "def"),.str (au "class"),.str (au "module"),.str (au "sclass"),.str (au "block"),.str (au "lambda")])]++[("Node",483),("Params",515),("nodes_in",526),("pattern_names",531),("locals_of",538),("param_names",543)].map AI++[(au "JUMPS",.tup [.str (au "jump"),.str (au "jumpif"),.str (au "jumpunless"),.str (au "jumpnil")])]++[(au "DEFINED_ON_TOP",.tup [.str (au "method_of"),.str (au "const_of")])]++[("Row",570),("Catch",598),("Code",633),("Label",661),("place_of",672),("Maker",730),("given",741),("passed",748),("tuck_effect",755),("list_effect",762),("table_effect",769),("send_effect",776),("super_effect",783),("zsuper_effect",790),("yield_effect",797),("class_effect",804),("defined_effect",811),("spreadto_effect",818)].map AI++[(au "EFFECTS",w')]++[("effect_of",878)].map AI++[(au "SEEN_OUTSIDE",.tup [.str (au "block"),.str (au "lambda")])]++[("Slots",910),("Compiler",1086),("has_splat",1095),("push_value",1102),("do_plain",1109),("do_array",1116),("do_gvar",1123),("do_const",1130),("do_seq",1137),("do_call",1144),("_law_take",1151),("_law_call",1158),("_law_mark",1165),("_law_seq",1170),("_law_one",1175),("_law_begin",1180),("_law_asked",1187),("_law_fits",1194),("_law_read",1201),("_law_read_begin",1206),("_law_left",1213),("_law_run",1220),("_law_fresh",1227),("law",1234)].map AI
def mr:List (ai×aQ×List J):=[(21,b3 0,[]),
 (29,b3 2,[.bool af]),
 (37,b3 3,[.str (au "call")]),
 (44,b3 4,[]),
 (59,e6 6 0,[.str (au "")]),
 (79,e6 7 0,[]),
 (122,e6 11 0,[]),
 (129,e6 11 1,[]),
 (136,e6 11 2,[]),
 (143,e6 11 3,[]),
 (164,e6 12 0,[]),
 (171,e6 12 1,[]),
 (178,e6 12 2,[]),
 (185,e6 12 3,[]),
 (192,e6 12 4,[]),
 (213,e6 13 0,[]),
 (220,e6 13 1,[]),
 (239,e6 14 0,[]),
 (246,e6 14 1,[]),
 (258,b3 15,[]),
 (265,b3 16,[]),
 (272,b3 17,[]),
 (279,b3 18,[]),
 (286,b3 19,[]),
 (293,b3 20,[]),
 (300,b3 21,[]),
 (307,b3 22,[]),
 (314,b3 23,[]),
 (321,b3 24,[]),
 (328,b3 25,[]),
 (335,b3 26,[]),
 (342,b3 27,[]),
 (349,b3 28,[]),
 (356,b3 29,[]),
 (363,b3 30,[]),
 (370,b3 31,[]),
 (377,b3 32,[]),
 (382,b3 33,[]),
 (389,b3 34,[]),
 (473,e6 38 0,[.tup [],.int 0]),
 (480,e6 38 1,[]),
 (505,e6 39 0,[.tup [],.tup [],.none,.tup [],.none]),
 (512,e6 39 1,[]),
 (526,b3 40,[]),
 (531,b3 41,[]),
 (538,b3 42,[]),
 (543,b3 43,[]),
 (560,e6 47 0,[.none,.none,.none,.int 0]),
 (567,e6 47 1,[]),
 (588,e6 48 0,[]),
 (595,e6 48 1,[]),
 (616,e6 49 0,[]),
 (623,e6 49 1,[]),
 (630,e6 49 2,[]),
 (651,e6 50 0,[]),
 (658,e6 50 1,[]),
 (672,b3 51,[]),
 (686,e6 52 0,[]),
 (694,e6 52 1,[.none,.none,.none]),
 (701,e6 52 2,[]),
 (708,e6 52 3,[]),
 (715,e6 52 4,[]),
 (722,e6 52 5,[]),
 (727,e6 52 6,[]),
 (741,b3 53,[]),
 (748,b3 54,[]),
 (755,b3 55,[]),
 (762,b3 56,[]),
 (769,b3 57,[]),
 (776,b3 58,[]),
 (783,b3 59,[]),
 (790,b3 60,[]),
 (797,b3 61,[]),
 (804,b3 62,[]),
 (811,b3 63,[]),
 (818,b3 64,[]),
 (878,b3 66,[]),
 (893,e6 69 0,[]),
 (900,e6 69 1,[]),
 (907,e6 69 2,[]),
 (930,e6 70 0,[.str (au "program"),.none,.tup [],.none]),
 (938,e6 70 1,[.none,.none,.none]),
 (946,e6 70 2,[.none,.none,.none]),
 (954,e6 70 3,[.bool af]),
 (962,e6 70 4,[.bool af]),
 (969,e6 70 5,[]),
 (976,e6 70 6,[]),
 (983,e6 70 7,[]),
 (990,e6 70 8,[]),
 (997,e6 70 9,[]),
 (1004,e6 70 10,[]),
 (1011,e6 70 11,[]),
 (1019,e6 70 12,[.none]),
 (1026,e6 70 13,[]),
 (1033,e6 70 14,[]),
 (1040,e6 70 15,[]),
 (1047,e6 70 16,[]),
 (1054,e6 70 17,[]),
 (1061,e6 70 18,[]),
 (1068,e6 70 19,[]),
 (1075,e6 70 20,[]),
 (1083,e6 70 21,[.none]),
 (1095,b3 71,[]),
 (1102,b3 72,[]),
 (1109,b3 73,[]),
 (1116,b3 74,[]),
 (1123,b3 75,[]),
 (1130,b3 76,[]),
 (1137,b3 77,[]),
 (1144,b3 78,[]),
 (1151,b3 80,[]),
 (1158,b3 81,[]),
 (1165,b3 82,[]),
 (1170,b3 83,[]),
 (1175,b3 84,[]),
 (1180,b3 85,[]),
 (1187,b3 86,[]),
 (1194,b3 87,[]),
 (1201,b3 88,[]),
 (1206,b3 89,[]),
 (1213,b3 90,[]),
 (1220,b3 91,[]),
 (1227,b3 92,[]),
 (1234,b3 93,[])]
noncomputable def za:List (ai×List (Str×ai)):=[(62,[(au "__init__",59)]),
 (82,[("__init__",79)].map n'),
 (94,[("__init__",59)].map n'),
 (106,[("__init__",59)].map n'),
 (146,[("__init__",122),("open",129),("close",136),("finish",143)].map n'),
 (195,[("__init__",164),("open",171),("close",178),("finish",185),("catch",192)].map n'),
 (223,[("__init__",213),("finish",220),("open",171),("close",178),("catch",192)].map n'),
 (249,[("__init__",239),("finish",246),("open",171),("close",178),("catch",192)].map n'),
 (483,[("__init__",473),("part",480)].map n'),
 (515,[("__init__",505),("plain",512)].map n'),
 (570,[("__init__",560),("with_target",567)].map n'),
 (598,[("__init__",588),("covers",595)].map n'),
 (633,[("__init__",616),("catch_at",623),("with_rows",630)].map n'),
 (661,[("__init__",651),("told",658)].map n'),
 (730,[("__init__",686),("put",694),("label",701),("place",708),("child",715),("catch",722),("done",727)].map n'),
 (910,[("__init__",893),("add",900),("find",907)].map n'),
 (1086,[("__init__",930),("put",938),("put_at",946),("node",954),("body",962),("told",969),("slot",976),("hidden",983),("load",990),("save",997),("list_of",1004),("arguments",1011),("block_of",1019),("block",1026),("defaults",1033),("start",1040),("code",1047),("store",1054),("store_name",1061),("store_index",1068),("one_more",1075),("send_to",1083)].map n')]
noncomputable def UW:List (ai×List ai):=[(62,[62]),(82,[82,62]),(94,[94,62]),(106,[106,62]),(146,[146]),(195,[195]),(223,[223,195]),(249,[249,195]),(483,[483]),(515,[515]),(570,[570]),(598,[598]),(633,[633]),(661,[661]),(730,[730]),(910,[910]),(1086,[1086])]
noncomputable def t':List (ai×List Str):=[(483,[au "kind",au "parts",au "line",au "own"]),
 (146,[au "height",au "wanted",au "start",au "done"]),
 (195,[au "height",au "first",au "pieces"]),
 (223,[au "height",au "first",au "pieces",au "node"]),
 (249,[au "height",au "first",au "pieces",au "kept",au "again"]),
 (570,[au "op",au "a",au "b",au "c",au "line"]),
 (598,[au "sort",au "first",au "last",au "target",au "depth"]),
 (633,[au "kind",au "name",au "params",au "slots",au "rows",au "catches",au "children",au "starts",au "number"]),
 (661,[au "place"]),
 (730,[au "rows",au "catches",au "children",au "starts",au "line",au "height"]),
 (910,[au "names",au "outer"]),
 (1086,[au "table",au "kind",au "params",au "maker",au "scope",au "ways"])]
def r3(C:ai)(x:Str):Bool:=match kW C t' with
 |some l=>l.any (sEq x)
 |none=>ag
def b6(b:Bool)(x y:bT):bT:=match b with
 |true=>x
 |false=>y
noncomputable def AJ:List (Str×J):=[(au "len",.blt "len"),(au "isinstance",.blt "isinstance"),(au "min",.blt "min"),(au "int",.typ "int"),(au "str",.typ "str"),(au "list",.typ "list"),(au "tuple",.typ "tuple"),(au "range",.typ "range")]
def r4(x:Str):Option J:=match look x vz with
 |some a=>ae a
 |none=>look x AJ
def nameP(b:Loc)(x:Str)(k:cZ):bT:=match sEq x (au "__debug__")with
 |true=>λ_=>False
 |false=>match look x b with
  |some (.Y a)=>k a
  |some (.iN a)=>k a
  |some (.gl a)=>k a
  |_=>λ_=>False
def Ma(c:Const)(k:cZ):bT:=match c with
 |.none=>k .none
 |.bool b=>k (.bool b)
 |.int a=>k (.int a)
 |.str s=>k (.str s)
 |_=>λ_=>False
noncomputable def jB(C:ai):Bool:=(kW C t').isSome
noncomputable def Gc(C:ai):Bool:=aG C 483||aG C 570||aG C 598||aG C 633||aG C 146
def Gd(H:bW)(v:J)(C:ai)(c:List Str)(vs:List J):Prop:=v=.obj C c vs\/∃a b,v=.ref a/\H a=ae (.inst C b)/\c=b.map (·.1)/\vs=b.map (·.2)
def b4(v:J)(x:Str)(k:cZ):bT:=λe=>∃c d b a,Gd e v c d b/\r3 c x=af/\pD x d b=ae a/\k a e
def ej(v:J)(x:Str)(u:J)(k:bT):bT:=λd=>∃a b c,v=.ref a/\d a=ae (.inst b c)/\r3 b x=af/\c.length<=100/\k (d.set a (.inst b (put x u c)))
def mS(C:ai)(x:Str):Option ai:=(kW C za).bind (look x)
class inductive t_(H:bW)(v:J)(x:Str)(k:J×List J->bT):Prop
 |own (C:ai) (cG:List Str) (vs:List J) (f:ai):Gd H v C cG vs->jB C=af->mS C x=ae f->(∀k∈cG,sEq k x=ag)->k (.glob f,[v]) H->t_ H v x k
 |cls (C f:ai):v=.glob C->jB C=af->sEq x (au "__init__")=af->mS C x=ae f->k (.glob f,[]) H->t_ H v x k
 |app (a:ai) (vs:List J):v=.ref a->H a=ae (.list vs)->sEq x (au "append")=af->k (.blt "list.append",[v]) H->t_ H v x k
 |pop (a:ai) (vs:List J):v=.ref a->H a=ae (.list vs)->sEq x (au "pop")=af->k (.blt "list.pop",[v]) H->t_ H v x k
 |upd (a:ai) (es:List (Str×J)):v=.ref a->H a=ae (.eJ es)->sEq x (au "update")=af->k (.blt "dict.update",[v]) H->t_ H v x k
 |AK (a:ai) (es:List (Int×J)):v=.ref a->H a=ae (.iM es)->sEq x (au "get")=af->k (.blt "dict.get",[v]) H->t_ H v x k
 |Mb (a:ai) (es:List ((Int×Int)×J)):v=.ref a->H a=ae (.ki es)->sEq x (au "get")=af->k (.blt "dict.get",[v]) H->t_ H v x k
def methP(v:J)(x:Str)(k:J×List J->bT):bT:=λa=>t_ a v x k
def eX(o:hg)(k:cZ):bT:=λb=>∀a,b a=ah->k (.ref a) (b.set a o)
def g6(v:J)(k:Bool->bT):bT:=match v with
 |.bool b=>k b
 |.none=>k ag
 |_=>λ_=>False
noncomputable def AL(C D:ai):Bool:=match kW C UW with
 |some l=>l.any (aG D)
 |none=>ag
def ua(a:ai):Bool:=(kW a mr).isSome
noncomputable def AM(C D:ai):Option Bool:=match jB C with
 |true=>ae (AL C D)
 |false=>ah
noncomputable def Ge(D:ai):Option hg->Option Bool
 |some (.inst a _)=>AM a D
 |_=>ah
noncomputable def Mc(H:bW)(D:ai):J->Option Bool
 |.ref a=>Ge D (H a)
 |.obj b _ _=>AM b D
 |.int _=>ae ag
 |.none=>ae ag
 |.bool _=>ae ag
 |.str _=>ae ag
 |_=>ah
def Gf:J->Option Bool
 |.tup _=>ae af
 |.glob a=>if ua a then ae ag else ah
 |_=>ah
noncomputable def C_(D:ai)(r:Option Bool):Option Bool:=match jB D with
 |true=>r
 |false=>ah
def Da(H:bW)(v t:J):Option Bool:=match t with
 |.glob a=>C_ a (Mc H a v)
 |.typ t=>if t="tuple" then Gf v else ah
 |_=>ah
theorem Dc(h:AM C D=ae c):jB C=af/\AL C D=c:=by
 unfold AM at h;cases a:jB C with
 |true=>rw[a]at h;exact⟨B,aC.inj h⟩
 |false=>rw[a]at h;cases h
theorem Md(h:C_ D r=ae c):jB D=af/\r=ae c:=by
 unfold C_ at h;cases a:jB D with
 |true=>rw[a]at h;exact⟨B,h⟩
 |false=>rw[a]at h;cases h
theorem UX(h:Ge D o=ae c):∃C fs,o=ae (.inst C fs)/\AM C D=ae c:=by
 induction o using a_ with
 |none=>cases h
 |some o=>
  induction o using hg.casesOn with
  |inst C fs=>exact⟨C,fs,B,h⟩
  |_=>cases h
theorem Me(g:H a=ae o):Da H (.ref a) (.glob D)=Da (λ_=>ae o) (.ref a) (.glob D):=congrArg (λb=>C_ D (Ge D b)) g
set_option genCtorIdx true in
inductive dj where
 |li (vs:List J)
 |cb (vs:List J)
noncomputable def AN:Option hg->Option dj
 |some (.list a)=>ae (.li a)
 |_=>ah
noncomputable def iO(H:bW):J->Option dj
 |.ref a=>AN (H a)
 |.lst b=>ae (.li b)
 |.tup b=>ae (.cb b)
 |_=>ah
theorem kj{H:bW}{a:ai}{vs:List J}(g:H a=ae (.list vs)):iO H (.ref a)=ae (.li vs):=congrArg AN g
theorem Mf(h:AN o=ae q):∃vs,o=ae (.list vs)/\q=.li vs:=by
 match o,h with
 |some (.list vs),h=>exact⟨vs,B,(aC.inj h).symm⟩
noncomputable def qr{a b:Type}(f:a->Option b):List a->Option (List b)
 |[]=>ae []
 |x::r=>match f x with
  |some y=>match qr f r with
   |some c=>ae (y::c)
   |none=>ah
  |none=>ah
theorem UY{a c:Type}{f:a->Option c}{x:a}{r:List a}:qr f (x::r)=(match f x with|some y=>(match qr f r with|some b=>ae (y::b)|none=>ah)|none=>ah):=rfl
noncomputable def oJ(H:bW):Nat->J->Option aW
 |0,_=>ah
 |n+1,d=>match d with
  |.none=>ae .none
  |.bool b=>ae (.bool b)
  |.int e=>ae (.int e)
  |.str s=>ae (.str s)
  |.tup c=>(qr (oJ H n) c).map .tuple
  |.lst c=>(qr (oJ H n) c).map .list
  |.ref a=>match H a with
   |some (.list c)=>(qr (oJ H n) c).map .list
   |_=>ah
  |_=>ah
noncomputable def vA(H:bW)(a b:J):Option Bool:=match oJ H 6 a,oJ H 6 b with
 |some x,ae y=>if SeqAt.shaped x&&SeqAt.shaped y then ae (x.eqv y)else ah
 |_,_=>ah
noncomputable def kk(H:bW)(a b:J):Option Bool:=match iO H a,iO H b with
 |some (.li c),ae (.li d)=>if c.length=d.length then vA H a b else ae ag
 |_,_=>vA H a b
noncomputable def strsOf:List J->Option (List Str)
 |[]=>ae []
 |.str s::r=>(strsOf r).map λl=>s::l
 |_=>ah
def oK(H:bW)(a c:J):Option Bool:=match a with
 |.str s=>match c with
  |.tup d=>(strsOf d).bind λl=>if(s::l).all aW.strOk then ae (l.any (sEq s))else ah
  |.jA e b=>ae (pD s e b).isSome
  |.ref x=>match H x with
   |some (.eJ f)=>ae (look s f).isSome
   |_=>ah
  |_=>ah
 |_=>ah
noncomputable def mu(a b:J):Option Bool:=match b with
 |.none=>match a with|.none=>ae af|.blt _=>ah|_=>ae ag
 |.bool y=>match a with|.bool x=>ae (x==y)|.blt _=>ah|.typ _=>ah|_=>ae ag
 |_=>ah
noncomputable def zb(a b:J)(f:Int->Int->Bool):Option Bool:=match a with
 |.int x=>match b with
  |.int y=>ae (f x y)
  |_=>ah
 |_=>ah
def mT(H:bW)(op:CmpOp)(a b:J):Option Bool:=match op with
 |.Is=>mu a b
 |.IsNot=>(mu a b).map (!·)
 |.Eq=>kk H a b
 |.NotEq=>(kk H a b).map (!·)
 |.In=>oK H a b
 |.NotIn=>(oK H a b).map (!·)
 |.Lt=>zb a b λx y=>decide (x<y)
 |.LtE=>zb a b λx y=>decide (x<=y)
 |.Gt=>zb a b λx y=>decide (y<x)
 |.GtE=>zb a b λx y=>decide (y<=x)
def cp(op:CmpOp)(a b:J)(k:Bool->bT):bT:=λd=>∃c,mT d op a b=ae c/\k c d
class inductive qt(H:bW)(op:Operator)(a b:J)(k:cZ):Prop
 |add (x y:Int):op=.Add->a=.int x->b=.int y->k (.int (x+y)) H->qt H op a b k
 |sub (x y:Int):op=.Sub->a=.int x->b=.int y->k (.int (x-y)) H->qt H op a b k
 |mul (x y:Int):op=.Mult->a=.int x->b=.int y->-100000000<=x->x<=100000000->k (.int (x*y)) H->qt H op a b k
 |div (x y:Int):op=.FloorDiv->a=.int x->b=.int y->0<y->y<1000->k (.int (x.fdiv y)) H->qt H op a b k
 |mod (x y:Int):op=.Mod->a=.int x->b=.int y->0<y->y<1000->k (.int (x.fmod y)) H->qt H op a b k
 |str (x y:Str):op=.Add->a=.str x->b=.str y->x.length+y.length<=16000000->k (.str (x++y)) H->qt H op a b k
 |lst (vs us:List J):op=.Add->iO H a=ae (.li vs)->iO H b=ae (.li us)->vs.length+us.length<=16000000->eX (.list (vs++us)) k H->qt H op a b k
def d4(op:Operator)(a b:J)(k:cZ):bT:=λc=>qt c op a b k
noncomputable def idx(n:Nat)(i:Int):Option Nat:=if 0<=i then(if i<n then ae i.toNat else ah)else(if 0<=i+n then ae (i+n).toNat else ah)
noncomputable def jr{a:Type}(x:Int):List (Int×a)->Option a
 |[]=>ah
 |(y,v)::r=>if y=x then ae v else jr x r
noncomputable def lp{a:Type}(x:Int)(v:a):List (Int×a)->List (Int×a)
 |[]=>[(x,v)]
 |(y,u)::r=>if y=x then(y,v)::r else(y,u)::lp x v r
noncomputable def nu{a:Type}(x:Int×Int):List ((Int×Int)×a)->Option a
 |[]=>ah
 |(y,v)::r=>if y=x then ae v else nu x r
noncomputable def r5{a:Type}(x:Int×Int)(v:a):List ((Int×Int)×a)->List ((Int×Int)×a)
 |[]=>[(x,v)]
 |(y,u)::r=>if y=x then(y,v)::r else(y,u)::r5 x v r
noncomputable def lq:dj->List J
 |.li a=>a
 |.cb a=>a
def Gg(o i:J):Option J:=match o with
 |.jA b a=>match i with
  |.str s=>pD s b a
  |_=>ah
 |_=>ah
class inductive zc(H:bW)(o i:J)(k:cZ):Prop
 |seq (q:dj) (j:Int) (n:Nat) (v:J):iO H o=ae q->i=.int j->(lq q).length<=16000000->idx (lq q).length j=ae n->(lq q)[n]?=ae v->k v H->zc H o i k
 |iM (a:ai) (es:List (Int×J)) (j:Int) (v:J):o=.ref a->i=.int j->H a=ae (.iM es)->jr j es=ae v->k v H->zc H o i k
 |eJ (a:ai) (es:List (Str×J)) (j:Str) (v:J):o=.ref a->i=.str j->H a=ae (.eJ es)->look j es=ae v->k v H->zc H o i k
 |jA (v:J):Gg o i=ae v->k v H->zc H o i k
def cF(o i:J)(k:cZ):bT:=λa=>zc a o i k
class inductive zd(H:bW)(o i u:J)(k:bT):Prop
 |list (a:ai) (vs:List J) (j:Int):o=.ref a->i=.int j->H a=ae (.list vs)->0<=j->j<vs.length->vs.length<=16000000->k (H.set a (.list (vs.set j.toNat u)))->zd H o i u k
 |eJ (a:ai) (es:List (Str×J)) (j:Str):o=.ref a->i=.str j->H a=ae (.eJ es)->es.length<=1000->k (H.set a (.eJ (put j u es)))->zd H o i u k
 |iM (a:ai) (es:List (Int×J)) (j:Int):o=.ref a->i=.int j->H a=ae (.iM es)->es.length<=16000000->k (H.set a (.iM (lp j u es)))->zd H o i u k
 |ki (a:ai) (es:List ((Int×Int)×J)) (q:Int×Int):o=.ref a->i=.tup [.int q.1,.int q.2]->H a=ae (.ki es)->es.length<=16000000->k (H.set a (.ki (r5 q u es)))->zd H o i u k
def lJ(o i u:J)(k:bT):bT:=λa=>zd a o i u k
noncomputable def clamp(n:Nat)(i:Int):Nat:=if 0<=i then min i.toNat n else(i+n).toNat
noncomputable def Mg(n:Nat):J->Option Nat
 |.none=>ae 0
 |.int a=>if-16000000<=a/\a<=16000000 then ae (clamp n a)else ah
 |_=>ah
noncomputable def Dd(n:Nat):J->Option Nat
 |.none=>ae n
 |.int a=>if-16000000<=a/\a<=16000000 then ae (clamp n a)else ah
 |_=>ah
def mv(o l u:J)(k:cZ):bT:=λb=>∃a x y,iO b o=ae (.li a)/\a.length<=16000000/\Mg a.length l=ae x/\Dd a.length u=ae y/\eX (.list ((a.take y).drop x)) k b
noncomputable def Gh:J->Option Nat
 |.jA a _=>ae a.length
 |_=>ah
theorem UZ(h:Gh v=ae n):∃a vs,v=.jA a vs/\n=a.length:=by
 induction v using J.casesOn with
 |jA a vs=>exact⟨a,vs,B,(aC.inj h).symm⟩
 |_=>exact cV h
noncomputable def lenOf(H:bW)(v:J):Option Nat:=(Gh v).or ((iO H v).map λs=>(lq s).length)
noncomputable def De(i:Int):Str:=au (toString i)
def r6(v:J)(k:cZ):bT:=λb=>match v with
 |.ref a=>match b a with
  |some (.list c)=>k (.lst c) (b.del a)
  |_=>k v b
 |v=>k v b
def l0:List J->(List J->bT)->bT
 |[],k=>k []
 |v::r,k=>r6 v λa=>l0 r λb=>k (a::b)
class inductive q2(H:bW)(b:String)(args:List J)(k:cZ):Prop
 |len (v:J) (n:Nat):b="len"->args=[v]->lenOf H v=ae n->n<=16000000->k (.int n) H->q2 H b args k
 |ze (v t:J) (c:Bool):b="isinstance"->args=[v,t]->Da H v t=ae c->k (.bool c) H->q2 H b args k
 |min (x y:Int):b="min"->args=[.int x,.int y]->k (.int (if y<x then y else x)) H->q2 H b args k
 |app (a:ai) (v:J) (vs:List J):b="list.append"->args=[.ref a,v]->H a=ae (.list vs)->vs.length<=16000000->k .none (H.set a (.list (vs++[v])))->q2 H b args k
 |pop (a:ai) (v:J) (vs:List J):b="list.pop"->args=[.ref a]->H a=ae (.list (vs++[v]))->vs.length<=16000000->k v (H.set a (.list vs))->q2 H b args k
 |Mh (a:ai) (v:J) (vs:List J):b="list.pop"->args=[.ref a,.int 0]->H a=ae (.list (v::vs))->vs.length<=16000000->k v (H.set a (.list vs))->q2 H b args k
 |Mi (a:ai) (i:J) (es:List ((Int×Int)×J)) (q:Int×Int):b="dict.get"->args=[.ref a,i]->H a=ae (.ki es)->i=.tup [.int q.1,.int q.2]->k ((nu q es).getD J.none) H->q2 H b args k
 |AK (a:ai) (j:Int) (d:J) (es:List (Int×J)):b="dict.get"->args=[.ref a,.int j,d]->H a=ae (.iM es)->k ((jr j es).getD d) H->q2 H b args k
 |upd (a c:ai) (es fs:List (Str×J)):b="dict.update"->args=[.ref a,.ref c]->H a=ae (.eJ es)->H c=ae (.eJ fs)->a≠c->es.length+fs.length<=1000->k .none (H.set a (.eJ (fs.foldl (λe q=>put q.1 q.2 e) es)))->q2 H b args k
def Mj(b:String)(args:List J)(k:cZ):bT:=λa=>q2 a b args k
class inductive w_(H:bW)(t:String)(args:List J)(k:cZ):Prop
 |int (b:Bool):t="int"->args=[.bool b]->k (.int (if b then 1 else 0)) H->w_ H t args k
 |str (i:Int):t="str"->args=[.int i]->0<=i->i<=1000000->k (.str (De i)) H->w_ H t args k
 |list (v:J) (s:dj):t="list"->args=[v]->iO H v=ae s->(lq s).length<=16000000->eX (.list (lq s)) k H->w_ H t args k
 |tup (vs:List J):t="tuple"->args=[.tup vs]->k (.tup vs) H->w_ H t args k
def Mk(t:String)(args:List J)(k:cZ):bT:=λa=>w_ a t args k
abbrev l1:=ai->List J->cZ->bT
def lK(C:ai)(v:J)(k:cZ):bT:=match Gc C with
 |true=>λb=>match v with
  |.ref x=>match b x with
   |some (.inst c a)=>c=C/\k (.obj C (a.map (·.1)) (a.map (·.2))) (b.del x)
   |_=>False
  |_=>False
 |false=>k v
def jR(c:l1)(f:J)(args:List J)(k:cZ):bT:=match f with
 |.glob a=>match jB a with
  |true=>match mS a (au "__init__")with
   |some h=>(match aG a 633 with|true=>l0 args|false=>λ(e:List J->bT)=>e args) λi=>eX (.inst a []) λx=>c h (x::i) λ(r:J)(g:bW)=>r=J.none/\lK a x k g
   |none=>λ_=>False
  |false=>c a args k
 |.blt b=>Mj b args k
 |.typ d=>Mk d args k
 |_=>λ_=>False
noncomputable def qu(x st:Int)(n:Nat):List J:=(anq n).map λ(k:Nat)=>.int (x+st*(k:Int))
class inductive Df(f:J)(vs:List J)(k:bT->List J->bT)(H:bW):Prop
 |up (h:Int):f=.typ "range"->vs=[.int h]->-1000000<=h/\h<=1000000->k (λ_=>True) (qu 0 1 h.toNat) H->Df f vs k H
 |Gi (l h:Int):f=.typ "range"->vs=[.int l,.int h,.int (-1)]->-1000000<=l/\l<=1000000->-1000000<=h/\h<=1000000->k (λ_=>True) (qu l (-1) (l-h).toNat) H->Df f vs k H
def nv(f:J)(vs:List J)(k:bT->List J->bT):bT:=λa=>Df f vs k a
def iY(v:J)(k:bT->List J->bT):bT:=λa=>∃s,iO a v=ae s/\(lq s).length<=16000000/\k (λb=>iO b v=iO a v) (lq s) a
structure cD where
 cQ:Loc->bT
 ef:cZ
 mU:Loc->bT
 ct:Loc->bT
def forL(src:bT)(body:J->Loc->cD->bT)(κ:cD):List J->Loc->bT
 |[],c=>λb=>src b/\κ.cQ c b
 |v::vs,c=>λb=>src b/\body v c ⟨λa=>forL src body κ vs a,κ.ef,λa=>κ.cQ a,λa=>forL src body κ vs a⟩ b
def ix(src:bT)(body:J->(Option J->bT)->bT)(k:List J->bT):List J->List J->bT
 |[],b=>λa=>src a/\k b a
 |v::vs,b=>λa=>src a/\body v (λr=>ix src body k vs (match r with|some x=>b++[x]|none=>b)) a
def q3(c:Loc->(Bool->bT)->bT)(body:Loc->cD->bT)(κ:cD):Nat->Loc->bT
 |0,_=>λ_=>False
 |n+1,d=>c d λb=>b6 b (body d ⟨λa=>q3 c body κ n a,κ.ef,λa=>κ.cQ a,λa=>q3 c body κ n a⟩) (κ.cQ d)
def setName(a:Loc)(x:Str)(v:J)(k:Loc->bT):bT:=match look x a with
 |some .un=>k (put x (.Y v) a)
 |some (.Y _)=>k (put x (.Y v) a)
 |some .q1=>k (put x (.iN v) a)
 |some (.iN _)=>k (put x (.iN v) a)
 |_=>λ_=>False
def Gj(b:Loc):az->Bool
 |.Name x _=>match look x b with
  |some (.gl (.typ a))=>a="range"
  |_=>ag
 |_=>ag
def xc(b:Loc)(x:Str×aR):d6:=match x.2 with
 |.free=>(match look x.1 b with|some (.iN a)=>.iN a|_=>.un)
 |.globalImplicit=>(match r4 x.1 with|some a=>.gl a|none=>.un)
 |_=>.un
def q4(sc:Scope)(a:Loc):Loc:=sc.names.map λx=>(x.1,xc a x)
def Dg(a:Loc):List (Str×aR)->Bool
 |[]=>af
 |(n,k)::r=>!(r.any λb=>sEq b.1 n)&&(match k with
  |.local=>af
  |.free=>(match look n a with|some (.iN _)=>af|_=>ag)
  |.globalImplicit=>(r4 n).isSome
  |_=>ag)&&Dg a r
def xd(a:Loc)(x:Str):Bool:=match look x a with
 |some .un=>af
 |_=>ag
def ub(sc:Scope)(a:Loc)(x:Str):Bool:=(match sc.kind with|.function=>af|_=>ag)&&Dg a sc.names&&xd (q4 sc a) x
noncomputable def Gk(es:List az)(p:Pos):Bool:=match es with
 |[]=>!(aG p.line 777||aG p.line 797||aG p.line 861||aG p.line 862)
 |_=>aG p.line 929
noncomputable def Gl(p:Pos):Bool:=aG p.line 802||aG p.line 830
noncomputable def vB:az->Bool
 |.Call (.Name _ _) [] [] _=>ag
 |_=>af
noncomputable def Ml:Option az->Bool
 |some (.Constant (.str _) _ _)=>af
 |_=>ag
noncomputable def zf:List (Option az)->List az->Bool
 |[],[]=>af
 |k::cG,_::r=>Ml k&&zf cG r
 |_,_=>ag
noncomputable def jd:List az->Bool
 |[]=>af
 |.Starred _ _::_=>ag
 |_::r=>jd r
mutual
def ev(d:l1):Nat->az->Loc->cZ->bT
 |0,_,_,_=>λ_=>False
 |n+1,e,g,k=>match e with
  |.Constant c _ _=>Ma c k
  |.Name x _=>nameP g x k
  |.Attribute e x _=>match vB e with
   |true=>ev d n e g λi=>b4 i x k
   |false=>λ_=>False
  |.Call f as j o=>match j with
   |[]=>match f with
    |.Attribute q x ap=>match vB q&&aG ap.endLine o.line&&a0 as.length 10&&jd as with
     |true=>ev d n q g λgD=>methP gD x λA=>l2 d n as g λh=>jR d A.1 (A.2++h) k
     |false=>λ_=>False
    |f=>match a0 as.length 10&&jd as with
     |true=>ev d n f g λF=>l2 d n as g λh=>jR d F h k
     |false=>λ_=>False
   |_=>λ_=>False
  |.Compare l I u _=>ev d n l g λi=>vC d n i I u g λc=>k (.bool c)
  |.BoolOp op p _=>vD d n op p g k
  |.BinOp l op r _=>ev d n l g λa=>ev d n r g λb=>d4 op a b k
  |.UnaryOp op x _=>match op with
   |.USub=>ev d n x g λi=>match i with
    |.int v=>k (.int (-v))
    |_=>λ_=>False
   |_=>λ_=>False
  |.IfExp w a b _=>iZ d n w g λc=>b6 c (ev d n a g k) (ev d n b g k)
  |.Subscript i s _=>match s with
   |.Slice l E st _=>match st with
    |none=>ev d n i g λq=>vE d n l g λD=>vE d n E g λL=>mv q D L k
    |some _=>λ_=>False
   |s=>ev d n i g λq=>ev d n s g λv=>cF q v k
  |.List p o=>l2 d n p g λh m=>h.length<=16000000/\(match Gk p o with|true=>eX (.list h) k m|false=>k (.lst h) m)
  |.Tuple p _ o=>l2 d n p g λh m=>h.length<=16000000/\(match Gl o with|true=>l0 h (λM=>k (.tup M)) m|false=>k (.tup h) m)
  |.Dict j h o=>match j,h with
   |[],[]=>match aG o.line 877 with
    |true=>eX (.ki []) k
    |false=>eX (.iM []) k
   |j,h=>match zf j h&&a0 j.length 15 with
    |true=>xe d n j h g λC=>eX (.eJ (C.foldl (λe z=>put z.1 z.2 e) [])) k
    |false=>λ_=>False
  |.ListComp y G sc _=>match G with
   |[⟨w,it,H,a⟩]=>match a with
    |0=>match w with
     |.Name x _=>match ub sc g x with
      |true=>q5 d n it g λN h m=>h.length<=16000000/\ix N (λi t=>match H with
       |[]=>ev d n y (put x (.Y i) (q4 sc g)) λr=>t (ae r)
       |[c]=>iZ d n c (put x (.Y i) (q4 sc g)) λb=>b6 b (ev d n y (put x (.Y i) (q4 sc g)) λr=>t (ae r)) (t ah)
       |_=>λ_=>False) (λu=>k (.lst u)) h [] m
      |false=>λ_=>False
     |_=>λ_=>False
    |_=>λ_=>False
   |_=>λ_=>False
  |_=>λ_=>False
def vE(b:l1):Nat->Option az->Loc->cZ->bT
 |0,_,_,_=>λ_=>False
 |n+1,e,a,k=>match e with
  |none=>k .none
  |some e=>ev b n e a k
def l2(b:l1):Nat->List az->Loc->(List J->bT)->bT
 |0,_,_,_=>λ_=>False
 |n+1,f,a,k=>match f with
  |[]=>k []
  |e::r=>ev b n e a λd=>l2 b n r a λc=>k (d::c)
def xe(c:l1):Nat->List (Option az)->List az->Loc->(List (Str×J)->bT)->bT
 |0,_,_,_,_=>λ_=>False
 |n+1,a,d,b,k=>match a,d with
  |[],[]=>k []
  |some (.Constant (.str s) _ _)::a,e::r=>ev c n e b λg=>xe c n a r b λf=>k ((s,g)::f)
  |_,_=>λ_=>False
def q5(b:l1):Nat->az->Loc->(bT->List J->bT)->bT
 |0,_,_,_=>λ_=>False
 |n+1,e,a,k=>match e with
  |.Call f as d i=>match Gj a f with
   |true=>match d with
    |[]=>match jd as with
     |true=>ev b n f a λh=>l2 b n as a λg=>nv h g k
     |false=>λ_=>False
    |_=>λ_=>False
   |false=>ev b n (.Call f as d i) a λc=>iY c k
  |e=>ev b n e a λc=>iY c k
def vC(e:l1):Nat->J->List CmpOp->List az->Loc->(Bool->bT)->bT
 |0,_,_,_,_,_=>λ_=>False
 |n+1,g,f,b,d,k=>match f,b with
  |[op],[r]=>ev e n r d λa=>cp op g a k
  |op::AO::f,r::dq::b=>ev e n r d λa=>cp op g a λc=>b6 c (vC e n a (AO::f) (dq::b) d k) (k ag)
  |_,_=>λ_=>False
def vD(c:l1):Nat->anD->List az->Loc->cZ->bT
 |0,_,_,_,_=>λ_=>False
 |n+1,op,f,a,k=>match f with
  |[]=>λ_=>False
  |[e]=>ev c n e a k
  |e::c8::r=>ev c n e a λd=>g6 d λb=>match op with
   |.And=>b6 b (vD c n op (c8::r) a k) (k d)
   |.Or=>b6 b (k d) (vD c n op (c8::r) a k)
def iZ(c:l1):Nat->az->Loc->(Bool->bT)->bT
 |0,_,_,_=>λ_=>False
 |n+1,e,a,k=>match e with
  |.UnaryOp .Not x _=>iZ c n x a λb=>k (!b)
  |.BoolOp op g _=>vF c n op g a k
  |.IfExp _ _ _ _=>λ_=>False
  |.Compare l h f _=>ev c n l a λd=>vC c n d h f a k
  |e=>ev c n e a λd=>g6 d k
def vF(c:l1):Nat->anD->List az->Loc->(Bool->bT)->bT
 |0,_,_,_,_=>λ_=>False
 |n+1,op,d,a,k=>match d with
  |[]=>k (match op with|.And=>af|.Or=>ag)
  |e::r=>iZ c n e a λb=>match op with
   |.And=>b6 b (vF c n op r a k) (k ag)
   |.Or=>b6 b (k af) (vF c n op r a k)
end
def asg(b:l1)(n:Nat)(t:az)(u:J)(a:Loc)(k:Loc->bT):bT:=match t with
 |.Name x _=>setName a x u k
 |.Attribute d x _=>ev b n d a λgD=>ej gD x u (k a)
 |.Subscript d c _=>match c with
  |.Slice _ _ _ _=>λ_=>False
  |c=>ev b n d a λgD=>ev b n c a λe=>lJ gD e u (k a)
 |_=>λ_=>False
def zg(b:l1)(n:Nat):List az->List J->Loc->(Loc->bT)->bT
 |[],[],a,k=>k a
 |t::ts,v::vs,a,k=>asg b n t v a λc=>zg b n ts vs c k
 |_,_,_,_=>λ_=>False
def jC(c:l1)(n:Nat)(ts:List az)(v:J)(b:Loc)(k:Loc->bT):bT:=match v with
 |.tup a=>λd=>ts.length=a.length/\zg c n ts a b k d
 |_=>λ_=>False
noncomputable def zh(v:az):Bool:=match v with
 |.ListComp _ _ _ _=>ag
 |.SetComp _ _ _ _=>ag
 |.DictComp _ _ _ _ _=>ag
 |_=>af
noncomputable def AP(v:az):Bool:=match v with
 |.Tuple a _ _=>a.all (foldedForSure 8)||!(a.all (constantsAlone 8))
 |_=>af
noncomputable def r7(t:az):Bool:=match t with
 |.Tuple _ _ _=>ag
 |.List _ _=>ag
 |.Starred _ _=>ag
 |_=>af
def Dh(op:Operator)(a b:J)(k:cZ):bT:=match op,a,b with
 |.Add,.int d,.int c=>k (.int (d+c))
 |_,_,_=>λ_=>False
theorem U0(h:Dh op a b k H):∃i j,op=.Add/\a=.int i/\b=.int j/\k (.int (i+j)) H:=by
 induction op using Operator.casesOn with
 |Add=>
  induction a using J.casesOn with
  |int i=>
   induction b using J.casesOn with
   |int j=>exact⟨i,j,B,B,B,h⟩
   |_=>exact False.elim h
  |_=>exact False.elim h
 |_=>exact False.elim h
mutual
def ex(g:l1):Nat->aQ->Loc->cD->bT
 |0,_,_,_=>λ_=>False
 |n+1,s,d,f=>match s with
  |.Expr e _=>match e with
   |.Call _ _ _ _=>ev g n e d λ_=>f.cQ d
   |_=>λ_=>False
  |.Pass _=>f.cQ d
  |.Break _=>f.mU d
  |.Continue _=>f.ct d
  |.Return i _=>match i with
   |some e=>ev g n e d f.ef
   |none=>f.ef .none
  |.Assign j i _=>match j with
   |[h]=>match h with
    |.Tuple j _ _=>match jd j&&AP i&&zh i with
     |true=>ev g n i d λl=>jC g n j l d f.cQ
     |false=>λ_=>False
    |h=>match r7 h with
     |true=>ev g n i d λl=>asg g n h l d f.cQ
     |false=>λ_=>False
   |_=>λ_=>False
  |.AugAssign h op i _=>match h with
   |.Name x _=>nameP d x λa=>ev g n i d λb=>Dh op a b λr=>setName d x r f.cQ
   |_=>λ_=>False
  |.If h a b _=>iZ g n h d λc=>b6 c (cq g n a d f) (cq g n b d f)
  |.While h b k _=>match k with
   |[]=>λt=>∃m,q3 (λd=>iZ g n h d) (λd f=>cq g n b d f) f m d t
   |_=>λ_=>False
  |.For h it b k _=>match k with
   |[]=>q5 g n it d λq p=>forL q (λi d f=>match h with
     |.Tuple j _ _=>(match jd j with|true=>jC g n j i d λo=>cq g n b o f|false=>λ_=>False)
     |h=>(match r7 h with|true=>asg g n h i d λo=>cq g n b o f|false=>λ_=>False)) f p d
   |_=>λ_=>False
  |_=>λ_=>False
def cq(c:l1):Nat->List aQ->Loc->cD->bT
 |0,_,_,_=>λ_=>False
 |n+1,d,b,a=>match d with
  |[]=>a.cQ b
  |s::r=>ex c n s b ⟨λe=>cq c n r e a,a.ef,a.mU,a.ct⟩
end
noncomputable def cD.top(k:cZ):cD:=⟨λ_=>k .none,k,λ_ _=>False,λ_ _=>False⟩
def qv(s:aQ):List Str:=(oF s).params.args.map (·.arg)
def xf(s:aQ):List aQ:=(oF s).body
def oL(s:aQ):Scope:=(oF s).scope
noncomputable def Gm(ps:List Str)(args ds:List J):Option (List (Str×J)):=
 let a:=args++ds.drop (ds.length-(ps.length-args.length))
 if ps.length=a.length/\args.length<=ps.length then ae (ps.zip a)else ah
def slot0(bs:List (Str×J))(x:Str×aR):Option (Str×d6):=match x.2 with
 |.local=>ae (x.1,match look x.1 bs with|some a=>.Y a|none=>.un)
 |.cell=>ae (x.1,match look x.1 bs with|some a=>.iN a|none=>.q1)
 |.globalImplicit=>(r4 x.1).map λa=>(x.1,.gl a)
 |_=>ah
def AQ(s:aQ)(args ds:List J):Option Loc:=(Gm (qv s) args ds).map λbs=>(oL s).names.filterMap (slot0 bs)
def U:Nat->l1
 |0,_,_,_=>λ_=>False
 |n+1,f,args,k=>match kW f mr with
  |some (s,a)=>match AQ s args a with
   |some b=>cq (U n) 200 (xf s) b (cD.top k)
   |none=>λ_=>False
  |none=>λ_=>False
set_option tactic.hygienic true
noncomputable def zi:aj->aj
 |.int a _=>.int a 0
 |.str s _=>.str s 0
 |b=>b
noncomputable def zj(P:aw):BT:=(y9 P default).tree
noncomputable def U1:List ai:=[(0,1),(2,2),(20,3),(28,3),(36,2),(43,2),(50,1),(52,1),(58,2),(61,2),(71,1),(78,2),(81,2),(90,1),(93,2),(102,1),(105,2),(114,1),(121,2),(128,2),(135,2),(142,2),(145,2),(156,1),(163,2),(170,2),(177,2),(184,2),(191,2),(194,2),(205,1),(212,2),(219,2),(222,2),(231,1),(238,2),(245,2),(248,2),(257,2),(264,2),(271,2),(278,2),(285,2),(292,2),(299,2),(306,2),(313,2),(320,2),(327,2),(334,2),(341,2),(348,2),(355,2),(362,2),(369,2),(376,2),(381,2),(388,20),(409,17),(427,17),(445,13),(463,1),(465,2),(472,2),(479,2),(482,2),(493,1),(495,4),(504,2),(511,2),(514,2),(525,2),(530,2),(537,2),(542,4),(551,1),(553,1),(559,2),(566,2),(569,2),(580,1),(587,2),(594,2),(597,2),(608,1),(615,2),(622,2),(629,2),(632,2),(643,1),(650,2),(657,2),(660,2),(671,2),(678,1),(685,3),(693,2),(700,2),(707,2),(714,2),(721,2),(726,2),(729,2),(740,2),(747,2),(754,2),(761,2),(768,2),(775,2),(782,2),(789,2),(796,2),(803,2),(810,2),(817,19),(837,10),(848,14),(863,10),(877,3),(885,1),(892,2),(899,2),(906,2),(909,2),(920,1),(922,2),(929,3),(937,3),(945,3),(953,3),(961,2),(968,2),(975,2),(982,2),(989,2),(996,2),(1003,2),(1010,3),(1018,2),(1025,2),(1032,2),(1039,2),(1046,2),(1053,2),(1060,2),(1067,2),(1074,3),(1082,2),(1085,2),(1094,2),(1101,2),(1108,2),(1115,2),(1122,2),(1129,2),(1136,2),(1143,2),(1150,2),(1157,2),(1164,2),(1169,2),(1174,2),(1179,2),(1186,2),(1193,2),(1200,2),(1205,2),(1212,2),(1219,2),(1226,2),(1233,2)].flatMap λa:Nat×Nat=>(anq a.2).map (a.1+·)
noncomputable def gH(P:aw):Frag:=U1.map λa=>(a,((zj P).get a).getD b0)
theorem Mm(P:aw):(gH P).map (λp=>(zj P).get p.1)=(gH P).map λp=>ae p.2:=by cbv
theorem Mn(P:aw):((gH P).map (λp=>Nat.blt p.1 1235)).all id=af:=by cbv
theorem Mo(P:aw):((gH P).map (λp=>alive p.2))=(gH P).map λp=>ae p.2:=by cbv
theorem lookup_mem:∀{K:Frag},K.lookup a=ae o->(a,o)∈K
 |(b,x)::r,e=>by
  simp only[aoL]at e;split at e
  .rename_i c;cases e;exact(beq_iff_eq.mp c)▸(.head _)
  .exact .tail _ (lookup_mem e)
theorem Gn(w:aF)(c:w4 w h):(gH w.params).In h:=by intro a o e;have m:=lookup_mem e;have b:=apm.mp (Mo w.params) _ m;have d:Nat.blt a 1235=af:=br.mp (Mn w.params) _ (bS (f:=λg:ai×Obj=>Nat.blt g.1 1235) m);refine c a o ((?_:(absHeap (zj w.params) 1235 _).get? a=ae o));exact(abs_get (ay d) (apm.mp (Mm w.params) _ m))▸b
noncomputable def Di(K:Frag)(C:ai)(x:Str):Bool:=plainGet K C x&&hasDictIn K C&&decide (findIn K (.ref C) x=ae ah)&&
 decide (findIn K (.ref C) (au "__setattr__")=ae (ae (.builtin "object.__setattr__")))&&plainOver K C&&decide (takerIn K C x=ae ah)
noncomputable def Go(K:Frag)(C:ai)(x:Str)(f:ai):Bool:=plainGet K C x&&hasDictIn K C&&decide (findIn K (.ref C) x=ae (ae (.ref f)))&&isFn K (.ref f)
theorem U2(P:aw):(t'.all λp=>p.2.all λx=>Di (gH P) p.1 x)=af:=by cbv
theorem U3(P:aw):((za.filter λp=>(kW p.1 t').isSome).all λp=>p.2.all λq=>Go (gH P) p.1 q.1 q.2)=af:=by cbv
noncomputable abbrev eY:=ai->Option Obj
def cS(Z Z':eY):Prop:=∀a b,Z a=ae b->Z' a=ae b
theorem cS.refl(Z:eY):cS Z Z:=λ_ _ e=>e
theorem cS.trans(x:cS Z Z')(y:cS Z' Gp):cS Z Gp:=λa b e=>y a b (x a b e)
def hJ(p:aw)(a:List Str)(es:List bw):Prop:=es.map (λe=>(e.hash,zi e.key))=a.map λk=>(anz p k,aoM k 0)
mutual
noncomputable def dw(p:aw)(Z:eY):J->aj->Prop
 |.none,c=>c=.none
 |.bool b,c=>c=.bool b
 |.int k,c=>∃i,c=.int k i
 |.str s,c=>∃i,c=.str s i
 |.ref a,c=>c=.ref a
 |.glob a,c=>c=.ref a
 |.blt s,c=>c=.builtin s/\handedIn (.builtin s)=af
 |.typ s,c=>c=.type s
 |.tup e,c=>∃a g xs n,c=.ref a/\Z a=ae g/\g.cls=.type "tuple"/\g.data=.seq xs n/\cX p Z e xs.toList
 |.lst e,c=>∃a g xs n,c=.ref a/\Z a=ae g/\g.cls=.type "list"/\g.data=.seq xs n/\cX p Z e xs.toList
 |.jA h e,c=>∃a f n,c=.ref a/\Z a=ae (anO f n)/\hJ p h f/\cX p Z e (f.map (·.val))/\h.Nodup/\3<a
 |.obj j h e,c=>∃a d f n,c=.ref a/\Z a=ae (anl j d)/\Z d=ae (anO f n)/\hJ p h f/\cX p Z e (f.map (·.val))
noncomputable def cX(p:aw)(Z:eY):List J->List aj->Prop
 |[],xs=>xs=[]
 |v::vs,xs=>∃x r,xs=x::r/\dw p Z v x/\cX p Z vs r
end
mutual
theorem dw.mono(L:cS Z Z'):∀(v:J){x:aj},dw p Z v x->dw p Z' v x
 |.none,x,h=>h
 |.bool _,x,h=>h
 |.int _,x,h=>h
 |.str _,x,h=>h
 |.ref _,x,h=>h
 |.glob _,x,h=>h
 |.blt _,x,h=>h
 |.typ _,x,h=>h
 |.tup b,x,h=>kV h λa k xs n f i e c g=>⟨a,k,xs,n,f,L _ _ i,e,c,cX.mono L b g⟩
 |.lst b,x,h=>kV h λa k xs n f i e c g=>⟨a,k,xs,n,f,L _ _ i,e,c,cX.mono L b g⟩
 |.jA _ b,x,h=>w8 h λa j n f i e c g=>⟨a,j,n,f,L _ _ i,e,cX.mono L b c,g⟩
 |.obj _ _ b,x,h=>kV h λa d j n f i e c g=>⟨a,d,j,n,f,L _ _ i,L _ _ e,c,cX.mono L b g⟩
theorem cX.mono(L:cS Z Z'):∀(vs:List J){xs:List aj},cX p Z vs xs->cX p Z' vs xs
 |[],xs,h=>h
 |v::vs,xs,h=>gT h λx r b c a=>⟨x,r,b,dw.mono L v c,cX.mono L vs a⟩
end
theorem dw.handed:∀{v:J}{x:aj},dw p Z v x->handedIn x=af
 |.none,x,h=>by cases h;rfl
 |.bool _,x,h=>by cases h;rfl
 |.int _,x,h=>by obtain⟨e,rfl⟩:=h;rfl
 |.str _,x,h=>by obtain⟨e,rfl⟩:=h;rfl
 |.ref _,x,h=>by cases h;rfl
 |.glob _,x,h=>by cases h;rfl
 |.blt _,x,h=>by obtain⟨rfl,h⟩:=h;exact h
 |.typ _,x,h=>by cases h;rfl
 |.tup c,x,h=>by refine t8 h λa g xs n b h=>?_;obtain rfl:=b;rfl
 |.lst c,x,h=>by refine t8 h λa g xs n b h=>?_;obtain rfl:=b;rfl
 |.jA _ c,x,h=>by refine r2 h λa f n i h=>?_;obtain rfl:=i;rfl
 |.obj _ _ c,x,h=>by refine t8 h λa d f n b h=>?_;obtain rfl:=b;rfl
section U4
theorem cX.nil:cX p Z [] []:=rfl
theorem cX.cons{v:J}{vs:List J}{x:aj}{xs:List aj}(h:dw p Z v x)(r:cX p Z vs xs):cX p Z (v::vs) (x::xs):=⟨x,xs,B,h,r⟩
theorem cX.length:∀{vs:List J}{xs:List aj},cX p Z vs xs->vs.length=xs.length
 |[],xs,h=>by cases h;rfl
 |v::vs,xs,h=>by obtain⟨x,r,rfl,_,h⟩:=h;simp[cX.length h]
theorem cX.append:∀{vs us:List J}{xs c:List aj},cX p Z vs xs->cX p Z us c->cX p Z (vs++us) (xs++c)
 |[],us,xs,c,h,k=>by cases h;exact k
 |v::vs,us,xs,c,h,k=>by refine gT h λx r d a b=>?_;obtain rfl:=d;exact .cons a (cX.append b k)
theorem cX.get:∀{vs:List J}{xs:List aj}{n:Nat}{v:J},cX p Z vs xs->vs[n]?=ae v->∃x,xs[n]?=ae x/\dw p Z v x
 |[],xs,n,v,h,e=>by simp at e
 |u::vs,xs,0,v,h,e=>by refine gT h λx r c a b=>?_;obtain rfl:=c;simp at e;subst e;exact⟨x,B,a⟩
 |u::vs,xs,n+1,v,h,e=>by refine gT h λx r c a b=>?_;obtain rfl:=c;simp at e;refine c_ (cX.get b e) λy d f=>?_;exact⟨y,by exact d,f⟩
theorem cX.set:∀{vs:List J}{xs:List aj}(n:Nat){v:J}{x:aj},cX p Z vs xs->dw p Z v x->cX p Z (vs.set n v) (xs.set n x)
 |[],xs,n,v,x,h,e=>by cases h;simp;exact .nil
 |u::vs,xs,0,v,x,h,e=>by refine gT h λy r c a b=>?_;obtain rfl:=c;exact .cons e b
 |u::vs,xs,n+1,v,x,h,e=>by refine gT h λy r c a b=>?_;obtain rfl:=c;exact .cons a (cX.set n b e)
theorem cX.take:∀{vs:List J}{xs:List aj}(n:Nat),cX p Z vs xs->cX p Z (vs.take n) (xs.take n)
 |[],xs,n=>λh=>by cases h;simp;exact .nil
 |u::vs,xs,0=>λh=>by simp;exact .nil
 |u::vs,xs,n+1=>λh=>by refine gT h λy r c a b=>?_;obtain rfl:=c;exact .cons a (cX.take n b)
theorem cX.drop:∀{vs:List J}{xs:List aj}(n:Nat),cX p Z vs xs->cX p Z (vs.drop n) (xs.drop n)
 |[],xs,n=>λh=>by cases h;simp;exact .nil
 |u::vs,xs,0=>λh=>h
 |u::vs,xs,n+1=>λh=>by refine gT h λy r c a b=>?_;obtain rfl:=c;exact cX.drop n b
theorem cX.split:∀{vs us:List J}{xs:List aj},cX p Z (vs++us) xs->∃e f,xs=e++f/\cX p Z vs e/\cX p Z us f
 |[],us,xs,h=>⟨[],xs,B,.nil,h⟩
 |v::vs,us,xs,h=>by refine gT h λx r g a b=>?_;obtain rfl:=g;refine gT (cX.split b) λe f g c d=>?_;obtain rfl:=g;exact⟨x::e,f,B,.cons a c,d⟩
theorem cX.one(h:cX p Z [v] xs):∃x,xs=[x]/\dw p Z v x:=by refine gT h λx r c a b=>?_;obtain rfl:=c;cases b;exact⟨x,B,a⟩
end U4
noncomputable def n_(w:aF)(Z:eY)(j:ai->Option ai)(h:aD)(a:ai):hg->Prop
 |.list i=>∃xs n,IsL h a xs n/\cX w.params Z i xs.toList
 |.inst k g=>∃d e n,h.get? a=ae (anl k d)/\j d=ae a/\h.get? d=ae (anO e n)/\hJ w.params (g.map (·.1)) e/\cX w.params Z (g.map (·.2)) (e.map (·.val))
 |.eJ b=>∃c,h.DictOf (strKind dW w) a c/\c.map (·.1)=b.map (·.1)/\cX w.params Z (b.map (·.2)) (c.map (·.2))
 |.iM b=>∃c,h.DictOf (aob dW w) a c/\c.map (·.1)=b.map (·.1)/\cX w.params Z (b.map (·.2)) (c.map (·.2))
 |.ki b=>∃xs:List (List Int×ai×aj),aD.DictOfH (tupleKind (aob dW w)) h a xs/\xs.map (·.1)=b.map (λf=>[f.1.1,f.1.2])/\cX w.params Z (b.map (·.2)) (xs.map (·.2.2))/\∀x∈xs,(Z x.2.1).isSome=af
structure fO(w:aF)(os:aM)(P Z:eY)(ck:ai->Option ai)(H:bW)(s:aA):Prop where
 j3:∀b o,P b=ae o->s.heap.get? b=ae o
 gw:∀b o,Z b=ae o->s.heap.get? b=ae o
 base:∀b o,(H₁ w.params).get? b=ae o->Z b=ae o
 abs:∀a ao,H a=ae ao->n_ w Z ck s.heap a ao
 hK:∀b o,P b=ae o->Z b=ah/\H b=ah/\ck b=ah
 j4:∀b o,Z b=ae o->H b=ah/\ck b=ah
 jD:∀b a,ck b=ae a->H b=ah/\∃o,s.heap.get? b=ae o
 gens:s.gens=#[]
 os_:s.os=os
theorem DictOf.Dj{c:Program}{w:aF}{K:Type}[DecidableEq K]{knd:KeyKind c w K}{h h':aD}{a:ai}{b:List (K×aj)}(k:∀o,h.get? a=ae o->h'.get? a=ae o)(x:h.DictOf knd a b):h'.DictOf knd a b:=
 let⟨o,e,f,d,r⟩:=x;⟨o,e,f,k _ d,r⟩
theorem DictOfH.Dj(k:∀o,h.get? a=ae o->h'.get? a=ae o)(k':∀x∈xs,∀o,h.get? x.2.1=ae o->h'.get? x.2.1=ae o)
  (x:aD.DictOfH (tupleKind (aob dW w)) h a xs):aD.DictOfH (tupleKind (aob dW w)) h' a xs:=
 AF x λo f j c i d l g m=>⟨o,f,j,k _ c,i,d,l,λx ce=>r2 (g x ce) λo p n e b=>⟨o,p,n,k' x ce _ e,b⟩,m⟩
theorem n_.keep{w:aF}{Z Z':eY}{l p:ai->Option ai}{h h':aD}{a:ai}:∀{ao:hg},(∀b o,Z b=ae o->h.get? b=ae o/\h'.get? b=ae o)->(∀o,h.get? a=ae o->h'.get? a=ae o)->
  (∀d o,l d=ae a->h.get? d=ae o->h'.get? d=ae o)->cS Z Z'->(∀d,l d=ae a->p d=ae a)->n_ w Z l h a ao->n_ w Z' p h' a ao:=by
 intro ao u k v L lH x
 induction ao using hg.casesOn with
 |list z=>exact lZ x λxs n c i=>⟨xs,n,k _ c,i.mono L⟩
 |inst y A=>exact w8 x λd r n c f g i s=>⟨d,r,n,k _ c,lH _ f,v _ _ f g,i,s.mono L⟩
 |eJ q=>exact lI x λm c f g=>⟨m,DictOf.Dj k c,f,g.mono L⟩
 |iM q=>exact lI x λm c f g=>⟨m,DictOf.Dj k c,f,g.mono L⟩
 |ki q=>exact tc x λxs c f g i=>⟨xs,DictOfH.Dj k (λx ce o e=>by
   cases j:Z x.2.1 with
   |none=>have:=i x ce;replace this:=j▸this;exact d8 this
   |some t=>have:=u _ _ j;replace e:=this.1▸e;cases e;exact this.2) c,f,g.mono L,λx ce=>by
   cases j:Z x.2.1 with
   |none=>have:=i x ce;replace this:=j▸this;exact d8 this
   |some t=>refine(L _ _ j)▸?_;rfl⟩
theorem n_.alive(x:n_ w Z ck h a ao):∃o,h.get? a=ae o:=by
 induction ao using hg.casesOn with
 |list d=>exact lZ x λ_ _ b _=>⟨_,b⟩
 |inst f g=>exact r2 x λ_ _ _ b _=>⟨_,b⟩
 |eJ c=>exact c_ x λ_ b _=>r2 b λ_ _ _ e _=>⟨_,e⟩
 |iM c=>exact c_ x λ_ b _=>r2 b λ_ _ _ e _=>⟨_,e⟩
 |ki c=>exact c_ x λ_ b _=>r2 b λ_ _ _ e _=>⟨_,e⟩
section rs
variable{w:aF}{os:aM}{P Z:eY}{ck:ai->Option ai}{H:bW}{s s':aA}
structure Out(P Z:eY)(ck:ai->Option ai)(H:bW)(a:ai):Prop where
 p:P a=ah
 z:Z a=ah
 h:H a=ah
 o:ck a=ah
theorem none_of(h:∀y,x=ae y->False):x=ah:=by cases x with|none=>rfl|some y=>exact(h y B).elim
theorem fO.out(R:fO w os P Z ck H s)(h:s.heap.get? a=ah):Out P Z ck H a:=
 ⟨none_of λc e=>(by rw[R.j3 _ _ e]at h;exact gS h),none_of λc e=>(by rw[R.gw _ _ e]at h;exact gS h),
  none_of λc e=>(by obtain⟨x,b⟩:=(R.abs _ _ e).alive;rw[b]at h;exact gS h),none_of λc e=>(by obtain⟨x,b⟩:=(R.jD _ _ e).2;rw[b]at h;exact gS h)⟩
theorem vG(h:aD):h.get? h.objs.size=ah:=none_of λa e=>Nat.lt_irrefl _ (bK e)
theorem fO.move(R:fO w os P Z ck H s)(k:∀b o,¬Out P Z ck H b->s.heap.get? b=ae o->s'.heap.get? b=ae o)(g:s'.gens=s.gens)(q:s'.os=s.os):fO w os P Z ck H s' where
 j3:=λb o e=>k b o (λx=>by replace e:=x.p▸e;exact cV e) (R.j3 b o e)
 gw:=λb o e=>k b o (λx=>by replace e:=x.z▸e;exact cV e) (R.gw b o e)
 base:=R.base
 abs:=λa i e=>(R.abs a i e).keep (λb o c=>⟨R.gw b o c,k b o (λx=>by replace c:=x.z▸c;exact cV c) (R.gw b o c)⟩) (λo h=>k a o (λx=>by replace e:=x.h▸e;exact cV e) h) (λd o f h=>k d o (λx=>by replace f:=x.o▸f;exact cV f) h) (cS.refl Z) (λ_ e=>e)
 hK:=R.hK
 j4:=R.j4
 jD:=λb a e=>⟨(R.jD b a e).1,let⟨o,h⟩:=(R.jD b a e).2;⟨o,k b o (λx=>by replace e:=x.o▸e;exact cV e) h⟩⟩
 gens:=g.trans R.gens
 os_:=q.trans R.os_
theorem fO.upd(R:fO w os P Z ck H s)(m:c=a\/ck c=ae a)(i:(H a).isSome=af)(k:∀b o,b≠c->¬Out P Z ck H b->s.heap.get? b=ae o->s'.heap.get? b=ae o)
  (C:∃o,s'.heap.get? c=ae o)(n:n_ w Z ck s'.heap a ao)(g:s'.gens=s.gens)(q:s'.os=s.os):fO w os P Z ck (H.set a ao) s':=by
 have A:c=a\/H c=ah:=m.imp id λe=>(R.jD _ _ e).1;have t:ck a=ah:=none_of λy e=>by replace i:=((R.jD _ _ e).1)▸i;exact d8 i
 have u:∀b o,P b=ae o->b≠c/\b≠a:=λb o e=>by
  refine iw (R.hK _ _ e) λch cf eC=>?_;have l:b≠a:=λx=>by replace cf:=x▸cf;replace i:=cf▸i;exact d8 i
  refine⟨λx=>?_,l⟩;rcases m with y|y
  .exact l (x.trans y)
  .rw [x,y]at eC;exact gS eC
 have r:∀b o,Z b=ae o->b≠c/\b≠a:=λb o e=>by
  refine eP (R.j4 _ _ e) λcf eC=>?_;have l:b≠a:=λx=>by replace cf:=x▸cf;replace i:=cf▸i;exact d8 i
  refine⟨λx=>?_,l⟩;rcases m with y|y
  .exact l (x.trans y)
  .rw [x,y]at eC;exact gS eC
 refine⟨λb o e=>k b o (u b o e).1 (λx=>by replace e:=x.p▸e;exact cV e) (R.j3 b o e),λb o e=>k b o (r b o e).1 (λx=>by replace e:=x.z▸e;exact cV e) (R.gw b o e),R.base,λb z e=>?_,
  λb o e=>⟨(R.hK b o e).1,?_,(R.hK b o e).2.2⟩,λb o e=>⟨?_,(R.j4 b o e).2⟩,λb v e=>⟨?_,?_⟩,g.trans R.gens,q.trans R.os_⟩
 .replace e:(if b=a then ae ao else H b)=ae z:=e;split at e
  .rename_i x;cases e;cases x;exact n
  .rename_i x;refine(R.abs b z e).keep (λb o f=>⟨R.gw b o f,k b o (r b o f).1 (λx=>by replace f:=x.z▸f;exact cV f) (R.gw b o f)⟩) (λo h=>k b o (λy=>?_) (λy=>by replace e:=y.h▸e;exact cV e) h) (λd o j h=>k d o (λy=>?_) (λy=>by replace j:=y.o▸j;exact cV j) h) (cS.refl Z) (λ_ e=>e)
   .rcases A with f|f
    .exact x (y.trans f)
    .rw [y,f]at e;exact cV e
   .rcases m with f|f
    .rw [y,f,t]at j;exact cV j
    .rw [y,f]at j;cases j;exact x B
 .show (if b=a then ae ao else H b)=ah;rw[if_neg (u b o e).2];exact(R.hK b o e).2.1
 .show (if b=a then ae ao else H b)=ah;rw[if_neg (r b o e).2];exact(R.j4 b o e).1
 .show (if b=a then ae ao else H b)=ah;rw[if_neg (λx=>by rw[x,t]at e;exact cV e)];exact(R.jD b v e).1
 .by_cases x:b=c
  .exact x▸C
  .obtain ⟨o,h⟩:=(R.jD b v e).2;exact⟨o,k b o x (λy=>by replace e:=y.o▸e;exact cV e) h⟩
noncomputable def eY.set(Z:eY)(a:ai)(o:Obj):eY:=λb=>if b=a then ae o else Z b
theorem cS.set(h:Z a=ah):cS Z (Z.set a o):=λb x e=>by refine(?_:(if b=a then ae o else Z b)=ae x);rw[if_neg (λy=>by rw[y,h]at e;exact cV e)];exact e
theorem eY.Gr(Z:eY)(a:ai)(o:Obj):Z.set a o a=ae o:=if_pos B
theorem fO.AS(R:fO w os P Z ck H s)(x:Out P Z ck H a)(h:s.heap.get? a=ae o):fO w os P (Z.set a o) ck H s:=by
 have le:=cS.set (o:=o) x.z;refine⟨R.j3,λb y e=>?_,λb y e=>le _ _ (R.base b y e),λb f e=>(R.abs b f e).keep (λb o d=>⟨R.gw b o d,R.gw b o d⟩) (λ_ h=>h) (λ_ _ _ h=>h) le (λ_ e=>e),λb y e=>⟨?_,(R.hK b y e).2⟩,λb y e=>?_,R.jD,R.gens,R.os_⟩
 .replace e:(if b=a then ae o else Z b)=ae y:=e;split at e
  .rename_i c;cases e;exact c▸h
  .exact R.gw b y e
 .refine (?_:(if b=a then ae o else Z b)=ah);rw[if_neg (λc=>by rw[c,x.p]at e;exact cV e)];exact(R.hK b y e).1
 .replace e:(if b=a then ae o else Z b)=ae y:=e;split at e
  .rename_i c;exact c▸(⟨x.h,x.o⟩)
  .exact R.j4 b y e
theorem fO.new(R:fO w os P Z ck H s)(x:Out P Z ck H a)(n:n_ w Z ck s.heap a ao):fO w os P Z ck (H.set a ao) s:=by
 refine⟨R.j3,R.gw,R.base,λb f e=>?_,λb d e=>⟨(R.hK b d e).1,?_,(R.hK b d e).2.2⟩,λb d e=>⟨?_,(R.j4 b d e).2⟩,λb g e=>⟨?_,(R.jD b g e).2⟩,R.gens,R.os_⟩
 .replace e:(if b=a then ae ao else H b)=ae f:=e;split at e
  .rename_i c;cases e;rw[c];exact n
  .exact R.abs b f e
 .show (if b=a then ae ao else H b)=ah;rw[if_neg (λc=>by rw[c,x.p]at e;exact cV e)];exact(R.hK b d e).2.1
 .show (if b=a then ae ao else H b)=ah;rw[if_neg (λc=>by rw[c,x.z]at e;exact cV e)];exact(R.j4 b d e).1
 .show (if b=a then ae ao else H b)=ah;rw[if_neg (λc=>by rw[c,x.o]at e;exact cV e)];exact(R.jD b g e).1
theorem fO.own(R:fO w os P Z ck H s)(x:Out P Z ck H d)(h:∃o,s.heap.get? d=ae o):fO w os P Z (λb=>if b=d then ae a else ck b) H s:=by
 refine⟨R.j3,R.gw,R.base,λb k e=>(R.abs b k e).keep (λb o i=>⟨R.gw b o i,R.gw b o i⟩) (λ_ h=>h) (λ_ _ _ h=>h) (cS.refl Z) (λc g=>?_),λb o e=>⟨(R.hK b o e).1,(R.hK b o e).2.1,?_⟩,λb o e=>⟨(R.j4 b o e).1,?_⟩,λb j e=>?_,R.gens,R.os_⟩
 .show (if c=d then ae a else ck c)=_;rw[if_neg (λf=>by rw[f,x.o]at g;exact cV g)];exact g
 .show (if b=d then ae a else ck b)=ah;rw[if_neg (λf=>by rw[f,x.p]at e;exact cV e)];exact(R.hK b o e).2.2
 .show (if b=d then ae a else ck b)=ah;rw[if_neg (λf=>by rw[f,x.z]at e;exact cV e)];exact(R.j4 b o e).2
 .replace e:(if b=d then ae a else ck b)=ae j:=e;split at e
  .rename_i f;rw[f];exact⟨x.h,h⟩
  .exact R.jD b j e
theorem fO.del(R:fO w os P Z ck H s)(a:ai):fO w os P Z (λb=>if ck b=ae a then ah else ck b) (H.del a) s:=by
 refine⟨R.j3,R.gw,R.base,λb i e=>?_,λb d e=>⟨(R.hK b d e).1,?_,?_⟩,λb d e=>⟨?_,?_⟩,λb g e=>?_,R.gens,R.os_⟩
 .replace e:(if b=a then ah else H b)=ae i:=e;split at e
  .exact cV e
  .rename_i k;refine(R.abs b i e).keep (λb d f=>⟨R.gw b d f,R.gw b d f⟩) (λ_ h=>h) (λ_ _ _ h=>h) (cS.refl Z) (λc j=>?_);show(if ck c=ae a then ah else ck c)=_;rw[if_neg (λf=>by rw[j]at f;cases f;exact k B)];exact j
 .show (if b=a then ah else H b)=ah;split
  .rfl
  .exact (R.hK b d e).2.1
 .show (if ck b=ae a then ah else ck b)=ah;rw[(R.hK b d e).2.2];rfl
 .show (if b=a then ah else H b)=ah;split
  .rfl
  .exact (R.j4 b d e).1
 .show (if ck b=ae a then ah else ck b)=ah;rw[(R.j4 b d e).2];rfl
 .replace e:(if ck b=ae a then ah else ck b)=ae g:=e;split at e
  .exact cV e
  .exact ⟨by refine(?_:(if b=a then ah else H b)=ah);split;rfl;exact(R.jD b g e).1,(R.jD b g e).2⟩
theorem fO.lL(R:fO w os P Z ck H s):(gH w.params).In s.heap:=Gn w λb a e=>R.gw b a (R.base b a e)
theorem fO.Gs(R:fO w os P Z ck H s):w4 w s.heap:=λb a e=>R.gw b a (R.base b a e)
end rs
set_option tactic.hygienic false
section
variable{w:aF}{os:aM}{A:a9}{P Z:eY}{H:bW}{s s':aA}{env:Env}{S:Loc}{d n:Nat}{own:Bool}{ck:ai->Option ai}
def vI(p:aw)(Z:eY)(h:aD)(env:Env)(m:Str->Option aj)(x:Str):d6->Prop
 |.gl b=>env.kindOf x=ae .globalImplicit/\r4 x=ae b
 |.Y b=>env.kindOf x=ae .local/\∃a,m x=ae a/\dw p Z b a
 |.un=>env.kindOf x=ae .local
 |.iN b=>env.kindOf x=ae .cell/\∃c a,env.cells.lookup x=ae c/\h.IsCell c (ae a)/\dw p Z b a
 |.q1=>env.kindOf x=ae .cell/\∃c a,env.cells.lookup x=ae c/\h.IsCell c a
def Own(env:Env)(b:ai):Prop:=b=env.locals\/∃x,env.cells.lookup x=ae b
structure l4(p:aw)(P Z:eY)(ck:ai->Option ai)(H:bW)(h:aD)(env:Env)(S:Loc)(own:Bool):Prop where
 kind:env.scope.kind=.function
 glob:env.globals=aoq/\env.builtins=builtinsNs
 out:Out P Z ck H env.locals
 up:1235<=env.locals
 cells:∀x c,env.cells.lookup x=ae c->c≠env.locals/\Z c=ah/\H c=ah/\ck c=ah/\(own=af->P c=ah)/\∃o,h.get? c=ae o
 uc:∀x y c,env.cells.lookup x=ae c->env.cells.lookup y=ae c->x=y
 names:∃m,h.Ns env.locals m/\∀x sl,look x S=ae sl->vI p Z h env m x sl
def cj(w:aF)(os:aM)(P Z:eY)(H:bW)(env:Env)(S:Loc)(own:Bool)(s:aA):Prop:=∃ck,fO w os P Z ck H s/\l4 w.params P Z ck H s.heap env S own
theorem IsCell.keep{h h':aD}{c:ai}{u:Option aj}(k:∀o,h.get? c=ae o->h'.get? c=ae o)(x:h.IsCell c u):h'.IsCell c u:=let⟨o,a,b⟩:=x;⟨o,k _ a,b⟩
theorem vI.keep{p:aw}{Z Z':eY}{h h':aD}{env:Env}{m:Str->Option aj}{x:Str}{sl:d6}(k:∀c o,(∃x,env.cells.lookup x=ae c)->h.get? c=ae o->h'.get? c=ae o)(le:cS Z Z')(n:vI p Z h env m x sl):vI p Z' h' env m x sl:=by
 induction sl using d6.casesOn with
 |gl i=>exact n
 |un=>exact n
 |q1=>exact Gb n λa c b e f=>⟨a,c,b,e,IsCell.keep (λo g=>k c o ⟨x,e⟩ g) f⟩
 |Y i=>exact L8 n λa b e f=>⟨a,b,e,f.mono le⟩
 |iN i=>exact C' n λa c b e f r=>⟨a,c,b,e,IsCell.keep (λo g=>k c o ⟨x,e⟩ g) f,r.mono le⟩
theorem l4.keep(F:l4 p P Z ck H h env S own)(k:∀b o,Own env b->h.get? b=ae o->h'.get? b=ae o)
  (le:cS Z Z')(g:Out iP Z' ik bV env.locals)(a:∀x c,env.cells.lookup x=ae c->Z' c=ah/\bV c=ah/\ik c=ah/\(own=af->iP c=ah)):l4 p iP Z' ik bV h' env S own where
 kind:=F.kind
 glob:=F.glob
 out:=g
 up:=F.up
 cells:=λx c e=>⟨(F.cells x c e).1,(a x c e).1,(a x c e).2.1,(a x c e).2.2.1,(a x c e).2.2.2,let⟨o,f⟩:=(F.cells x c e).2.2.2.2.2;⟨o,k _ _ (.inr ⟨x,e⟩) f⟩⟩
 uc:=F.uc
 names:=by refine c_ F.names λm j n=>?_;refine r2 j λo i q e r=>?_;exact⟨m,⟨o,i,q,k _ _ (.inl B) e,r⟩,λx l f=>(n x l f).keep (λc o h=>k c o (.inr h)) le⟩
theorem l4.Ms(F:l4 p P Z ck H h env S own)(j:∀m,h.Ns env.locals m->h'.Ns env.locals m)
  (k:∀b o,(∃x,env.cells.lookup x=ae b)->h.get? b=ae o->h'.get? b=ae o)
  (le:cS Z Z')(g:Out iP Z' ik bV env.locals)(a:∀x c,env.cells.lookup x=ae c->Z' c=ah/\bV c=ah/\ik c=ah/\(own=af->iP c=ah)):l4 p iP Z' ik bV h' env S own where
 kind:=F.kind
 glob:=F.glob
 out:=g
 up:=F.up
 cells:=λx c e=>⟨(F.cells x c e).1,(a x c e).1,(a x c e).2.1,(a x c e).2.2.1,(a x c e).2.2.2,let⟨o,f⟩:=(F.cells x c e).2.2.2.2.2;⟨o,k _ _ ⟨x,e⟩ f⟩⟩
 uc:=F.uc
 names:=by exact c_ F.names λm N n=>⟨m,j m N,λx i f=>(n x i f).keep (λc o h=>k c o h) le⟩
theorem l4.alive(F:l4 p P Z ck H h env S own)(x:Own env b):∃o,h.get? b=ae o:=by
 rcases x with rfl|⟨x,e⟩
 .refine c_ F.names λm a n=>?_;refine r2 a λo c f e r=>?_;exact⟨o,e⟩
 .exact (F.cells x b e).2.2.2.2.2
theorem l4.zk(F:l4 p P Z ck H h env S own)(x:Own env b):Z b=ah/\H b=ah/\ck b=ah:=by
 rcases x with rfl|⟨x,e⟩
 .exact ⟨F.out.z,F.out.h,F.out.o⟩
 .exact ⟨(F.cells x b e).2.1,(F.cells x b e).2.2.1,(F.cells x b e).2.2.2.1⟩
section st
theorem cj.ext(h:cj w os P Z H env S own s)(k:∀b o,s.heap.get? b=ae o->s'.heap.get? b=ae o)(g:s'.gens=s.gens)(q:s'.os=s.os):cj w os P Z H env S own s':=
 let⟨ck,i,f⟩:=h
 ⟨ck,i.move (λb o _=>k b o) g q,f.keep (λb o _=>k b o) (cS.refl Z) f.out λx c e=>let a:=f.cells x c e;⟨a.2.1,a.2.2.1,a.2.2.2.1,a.2.2.2.2.1⟩⟩
theorem cj.toks(a:cj w os P Z H env S own s):cj w os P Z H env S own {s with toks:=t}:=a.ext (λ_ _ e=>e) B B
theorem cj.lL(a:cj w os P Z H env S own s):(gH w.params).In s.heap:=let⟨_,b,_⟩:=a;b.lL
theorem cj.gw(a:cj w os P Z H env S own s)(e:Z b=ae o):s.heap.get? b=ae o:=let⟨_,c,_⟩:=a;c.gw b o e
theorem cj.U6(j:cj w os P Z H env S own s)(k:∀b o,s.heap.get? b=ae o->s'.heap.get? b=ae o)(g:s'.gens=s.gens)(q:s'.os=s.os)(h0:s.heap.get? a=ah)(h1:s'.heap.get? a=ae o):
  cS Z (Z.set a o)/\cj w os P (Z.set a o) H env S own s':=by
 match j with
 |⟨ck,i,f⟩=>
 have x:=i.out h0;have l:fO w os P Z ck H s':=i.move (λb o _=>k b o) g q;have ne:∀b,Own env b->b≠a:=λb h e=>by refine gu (f.alive h) λy q=>?_;rw[e,h0]at q;exact cV q
 refine⟨cS.set x.z,ck,l.AS x h1,f.keep (λb o _=>k b o) (cS.set x.z) ⟨f.out.p,?_,f.out.h,f.out.o⟩ λy c e=>⟨?_,(f.cells y c e).2.2.1,(f.cells y c e).2.2.2.1,(f.cells y c e).2.2.2.2.1⟩⟩
 .show (if _ then _ else _)=ah;rw[if_neg (ne _ (.inl B))];exact f.out.z
 .show (if _ then _ else _)=ah;rw[if_neg (ne _ (.inr ⟨y,e⟩))];exact(f.cells y c e).2.1
theorem cj.Mt(j:cj w os P Z H env S own s)(k:∀b o,s.heap.get? b=ae o->s'.heap.get? b=ae o)(g:s'.gens=s.gens)(q:s'.os=s.os)(h0:s.heap.get? a=ah)(n:∀ck,n_ w Z ck s'.heap a ao):
  H a=ah/\cj w os P Z (H.set a ao) env S own s':=by
 match j with
 |⟨ck,i,f⟩=>
 have x:=i.out h0;have l:fO w os P Z ck H s':=i.move (λb o _=>k b o) g q;have ne:∀b,Own env b->b≠a:=λb h e=>by refine gu (f.alive h) λy q=>?_;rw[e,h0]at q;exact cV q
 refine⟨x.h,ck,l.new x (n ck),f.keep (λb o _=>k b o) (cS.refl Z) ⟨f.out.p,f.out.z,?_,f.out.o⟩ λy c e=>⟨(f.cells y c e).2.1,?_,(f.cells y c e).2.2.2.1,(f.cells y c e).2.2.2.2.1⟩⟩
 .show (if _ then _ else _)=ah;rw[if_neg (ne _ (.inl B))];exact f.out.h
 .show (if _ then _ else _)=ah;rw[if_neg (ne _ (.inr ⟨y,e⟩))];exact(f.cells y c e).2.2.1
theorem cj.U7(j:cj w os P Z H env S own s)(k:∀b o,b≠env.locals->s.heap.get? b=ae o->s'.heap.get? b=ae o)(t:∀m,s.heap.Ns env.locals m->s'.heap.Ns env.locals m)(g:s'.gens=s.gens)(q:s'.os=s.os)(h0:s.heap.get? a=ah)(n:∀ck,n_ w Z ck s'.heap a ao):
  H a=ah/\cj w os P Z (H.set a ao) env S own s':=by
 match j with
 |⟨ck,i,f⟩=>
 have x:=i.out h0;have l:fO w os P Z ck H s':=i.move (λb o no e=>k b o (λx=>no (x▸f.out)) e) g q;have ne:∀b,Own env b->b≠a:=λb h e=>by refine gu (f.alive h) λy q=>?_;rw[e,h0]at q;exact cV q
 refine⟨x.h,ck,l.new x (n ck),f.Ms t (λb o h e=>k b o (λx=>?_) e) (cS.refl Z) ⟨f.out.p,f.out.z,?_,f.out.o⟩ λy c e=>⟨(f.cells y c e).2.1,?_,(f.cells y c e).2.2.2.1,(f.cells y c e).2.2.2.2.1⟩⟩
 .refine gu h λy r=>?_;exact(f.cells y b r).1 x
 .show (if _ then _ else _)=ah;rw[if_neg (ne _ (.inl B))];exact f.out.h
 .show (if _ then _ else _)=ah;rw[if_neg (ne _ (.inr ⟨y,e⟩))];exact(f.cells y c e).2.2.1
theorem cj.Dk(a:cj w os P Z H env S own s)(c:o.isFreed=ag):cS Z (Z.set s.heap.objs.size o)/\cj w os P (Z.set s.heap.objs.size o) H env S own {s with heap:=s.heap.push o}:=
 a.U6 (λb f e=>anm o e) B B (vG s.heap) (anr _ c)
theorem cj.U8(a:cj w os P Z H env S own s)(n:∀ck,n_ w Z ck (s.heap.push o) s.heap.objs.size ao):H s.heap.objs.size=ah/\cj w os P Z (H.set s.heap.objs.size ao) env S own {s with heap:=s.heap.push o}:=
 a.Mt (λb c e=>anm o e) B B (vG s.heap) n
theorem cj.upd(D:cj w os P Z H env S own s)(i:(H a).isSome=af)
  (t:∀ck,fO w os P Z ck H s->(c=a\/ck c=ae a)/\n_ w Z ck s'.heap a ao)(k:∀b o,b≠c->b≠env.locals->s.heap.get? b=ae o->s'.heap.get? b=ae o)(F:∀m,s.heap.Ns env.locals m->s'.heap.Ns env.locals m)
  (G:∃o,s'.heap.get? c=ae o)(g:s'.gens=s.gens)(q:s'.os=s.os):cj w os P Z (H.set a ao) env S own s':=by
 match D with
 |⟨ck,v,f⟩=>
 refine eP (t ck v) λr n=>?_;have l:∀b,Own env b->b≠c/\b≠a:=λb h=>by
  refine iw (f.zk h) λI j u=>?_;have C:b≠a:=λx=>by replace j:=x▸j;replace i:=j▸i;exact d8 i
  refine⟨λx=>?_,C⟩;rcases r with y|y
  .exact C (x.trans y)
  .rw [x,y]at u;exact gS u
 refine⟨ck,v.upd r i (λb o h no e=>k b o h (λx=>no (x▸f.out)) e) G n g q,f.Ms F (λb o h e=>k b o (l b (.inr h)).1 (λx=>?_) e) (cS.refl Z) ⟨f.out.p,f.out.z,?_,f.out.o⟩ λy c e=>⟨(f.cells y c e).2.1,?_,(f.cells y c e).2.2.2.1,(f.cells y c e).2.2.2.2.1⟩⟩
 .refine gu h λy E=>?_;exact(f.cells y b E).1 x
 .show (if _ then _ else _)=ah;rw[if_neg (l _ (.inl B)).2];exact f.out.h
 .show (if _ then _ else _)=ah;rw[if_neg (l _ (.inr ⟨y,e⟩)).2];exact(f.cells y c e).2.2.1
theorem cj.vJ(k:cj w os P Z H env S own s)(f:(H a).isSome=af)
  (t:∀ck,fO w os P Z ck H s->(c=a\/ck c=ae a)/\n_ w Z ck s'.heap a ao)(i:aof c s.heap s'.heap)
  (r:∃o,s'.heap.get? c=ae o)(g:s'.gens=s.gens)(q:s'.os=s.os):cj w os P Z (H.set a ao) env S own s':=by
 refine k.upd f t (λb o h _ e=>(i.2 b h).trans e) (λm N=>?_) r g q
 match k with
 |⟨ck,p,j⟩=>
 refine eP (t ck p) λl n=>N.sameBut i λx=>?_;rcases l with y|y
 .have:=j.out.h;rw[x,y]at this;replace f:=this▸f;exact d8 f
 .have:=j.out.o;rw[x,y]at this;exact gS this
end st
abbrev Wp(w:aF){a:Type}(A:a9)(t:Sem a)(Q:a->aA->Prop)(s:aA):Prop:=wpAny (bp dW w) A t Q (λ_ _=>False) s
end
theorem kE(h:sEq a b=af):a=b:=apK.mp h
theorem zl(h:sEq a b=ag):a≠b:=λe=>anS (h.symm.trans (apK.mpr e:sEq a b=af))
theorem xg(a:Str):sEq a a=af:=apK.mpr B
theorem AU:∀{l:List (Str×α)},look x l=ae v->∃i:Nat,l[i]?=ae (x,v)
 |(b,u)::r,e=>by
  dsimp only[look]at e;cases a:sEq b x with
  |true=>replace e:=a▸e;cases e;rw[kE a];exact⟨0,B⟩
  |false=>replace e:=a▸e;refine gu (AU e) λi h=>?_;exact⟨i+1,h⟩
theorem ud:∀{l:List (ai×α)},kW a l=ae v->(a,v)∈l
 |(b,u)::r,e=>by
  dsimp only[kW]at e;cases c:aG b a with
  |true=>replace e:=c▸e;cases e;exact(aog c)▸(.head _)
  |false=>replace e:=c▸e;exact .tail _ (ud e)
noncomputable def zm:List ai:=[21,29,37,44,62,82,94,106,146,195,223,249,258,265,272,279,286,293,300,307,314,321,328,335,342,349,356,363,370,377,382,389,390,457,483,515,526,531,538,543,544,545,570,598,633,661,672,730,741,748,755,762,769,776,783,790,797,804,811,818,819,878,879,910,1086,1095,1102,1109,1116,1123,1130,1137,1144,1151,1158,1165,1170,1175,1180,1187,1194,1201,1206,1213,1220,1227,1234]
theorem U9(P:aw):(vz.map (·.1)).map (nsIn (gH P) 3)=zm.map λa=>ae (ae (.ref a)):=by cbv
noncomputable def Mu:J->aj
 |.blt s=>.builtin s
 |.typ s=>.type s
 |_=>.none
theorem U'(P:aw):(AJ.map (·.1)).map (λx=>(nsIn (gH P) 3 x,nsIn (gH P) 0 x))=AJ.map λq=>(ae ah,ae (ae (Mu q.2))):=by cbv
theorem Gu(P:aw)(e:(gH P).lookup a=ae o):(H₁ P).get? a=ae o:=by have m:=lookup_mem e;have b:=apm.mp (Mo P) _ m;have c:Nat.blt a 1235=af:=br.mp (Mn P) _ (bS (f:=λd:ai×Obj=>Nat.blt d.1 1235) m);refine(?_:(absHeap (zj P) 1235 _).get? a=ae o);exact(abs_get (ay c) (apm.mp (Mm P) _ m))▸b
noncomputable def Mv:aj->Bool|.none=>af|_=>ag
noncomputable def Mw(b:Bool):aj->Bool|.bool c=>b==c|_=>ag
noncomputable def Mx(i:Int):aj->Bool|.int j _=>i==j|_=>ag
def My(s:Str):aj->Bool|.str t _=>sEq s t|_=>ag
noncomputable def Gv(f:ai->Bool):aj->Bool|.ref b=>f b|_=>ag
noncomputable def Mz:aj->Bool|.type t=>t=="tuple"|_=>ag
noncomputable def Dl:Data->Option (Array aj)|.seq xs _=>ae xs|_=>ah
noncomputable def xh{a:Type}(f:a->Bool):Option a->Bool|some x=>f x|none=>ag
noncomputable def U_(o:Option Obj)(f:List aj->Bool):Bool:=xh (λo=>Mz o.cls&&xh (λxs=>f xs.toList) (Dl o.data)) o
theorem Va:∀{x:aj},Mv x=af->x=.none:=by intro x h;induction x using anT<;>first|rfl|exact d8 h
theorem Vb:∀{x:aj},Mw b x=af->x=.bool b:=by intro x h;induction x using anT<;>first|exact d8 h|exact congrArg aj.bool (eq_of_beq h).symm
theorem Vc:∀{x:aj},Mx i x=af->∃t,x=.int i t:=by intro x h;induction x using anT<;>first|exact d8 h|exact⟨_,congrArg (λa=>anU a _) (eq_of_beq h).symm⟩
theorem Vd:∀{x:aj},My s x=af->∃t,x=.str s t:=by intro x h;induction x using anT<;>first|exact d8 h|exact⟨_,congrArg (λa=>aoM a _) (kE h).symm⟩
theorem MA:∀{x:aj},Gv f x=af->∃a,x=.ref a/\f a=af:=by intro x h;induction x using anT<;>first|exact d8 h|exact⟨_,rfl,h⟩
theorem Ve:∀{x:aj},Mz x=af->x=.type "tuple":=by intro x h;induction x using anT<;>first|exact d8 h|exact congrArg bL (eq_of_beq h)
theorem MB:∀{d:Data},Dl d=ae xs->∃n,d=.seq xs n:=by intro d h;induction d using Data.casesOn<;>first|exact cV h|exact⟨_,congrArg (λa=>aow a _) (aC.inj h)⟩
theorem Dm:∀{o:Option α},xh f o=af->∃x,o=ae x/\f x=af
 |some x=>λh=>⟨x,B,h⟩
 |none=>λh=>d8 h
mutual
def Gw(K:Frag):J->aj->Bool
 |.none,c=>Mv c
 |.bool b,c=>Mw b c
 |.int e,c=>Mx e c
 |.str s,c=>My s c
 |.glob a,c=>Gv (aG a) c
 |.tup d,c=>Gv (λa=>U_ (K.lookup a) (zn K d)) c
 |_,_=>ag
def zn(K:Frag):List J->List aj->Bool
 |[],xs=>match xs with|[]=>af|_=>ag
 |v::vs,xs=>match xs with|x::r=>Gw K v x&&zn K vs r|[]=>ag
end
mutual
theorem Vf{p:aw}{Z:eY}{K:Frag}(X:∀a o,K.lookup a=ae o->Z a=ae o):∀(v:J)(x:aj),Gw K v x=af->dw p Z v x
 |.none=>λx h=>Va h
 |.bool b=>λx h=>Vb h
 |.int b=>λx h=>Vc h
 |.str b=>λx h=>Vd h
 |.glob a=>λx h=>c_ (MA h) λb e c=>e.trans (congrArg aot (aog c).symm)
 |.ref _=>λx h=>d8 h
 |.blt _=>λx h=>d8 h
 |.typ _=>λx h=>d8 h
 |.lst _=>λx h=>d8 h
 |.jA _ _=>λx h=>d8 h
 |.obj _ _ _=>λx h=>d8 h
 |.tup f=>λx h=>c_ (MA h) λa e c=>c_ (Dm c) λo g c=>c_ (Dm (aP _ _▸c).2) λxs d i=>aB (MB d) λn d=>⟨a,o,xs,n,e,X _ _ g,Ve (aP _ _▸c).1,d,vL X f _ i⟩
theorem vL{p:aw}{Z:eY}{K:Frag}(X:∀a o,K.lookup a=ae o->Z a=ae o):∀(vs:List J)(xs:List aj),zn K vs xs=af->cX p Z vs xs
 |[]=>λxs h=>by cases xs with|nil=>rfl|cons _ _=>exact d8 h
 |v::vs=>λxs h=>by
  induction xs using aE with
  |nil=>exact d8 h
  |cons x r=>have h:=(aP ..).mp (show(Gw K v x&&zn K vs r)=af from h);exact⟨x,r,B,Vf X v x h.1,vL X vs r h.2⟩
end
noncomputable def Dn(o:Obj):List bw:=match o.data with|.dict a _=>a.toList|_=>[]
noncomputable def Do:J->List Str
 |.jA a _=>a
 |_=>[]
theorem Vg(p:aw):(Dn (C3 p)).map (λe=>(e.hash,zi e.key))=(Do t9).map λk=>(anz p k,aoM k 0):=by cbv
theorem Vh(p:aw):(Dn (C4 p)).map (λe=>(e.hash,zi e.key))=(Do w').map λk=>(anz p k,aoM k 0):=by cbv
def AV:List Str->Bool
 |[]=>af
 |k::r=>!(r.any (sEq k))&&AV r
theorem AW:∀{l:List Str},AV l=af->l.Nodup
 |[]=>λ_=>.nil
 |k::r=>λh=>by dsimp only[AV]at h;rw[aP,apn]at h;refine bh.mpr ⟨λm=>?_,AW h.2⟩;rw[apo.mpr ⟨k,m,xg k⟩]at h;cases h.1
theorem Vi:(Do t9).Nodup:=AW B
theorem Vj:(Do w').Nodup:=AW B
theorem Vk{p:aw}{Z:eY}(X:∀a o,(gH p).lookup a=ae o->Z a=ae o):dw p Z t9 (.ref 390):=
 ⟨390,Dn (C3 p),_,B,X 390 (C3 p) B,Vg p,vL (K:=gH p) X _ _ B,Vi,by decide⟩
theorem Vl{p:aw}{Z:eY}(X:∀a o,(gH p).lookup a=ae o->Z a=ae o):dw p Z w' (.ref 819):=
 ⟨819,Dn (C4 p),_,B,X 819 (C4 p) B,Vh p,vL (K:=gH p) X _ _ B,Vj,by decide⟩
theorem Vm(X:∀a o,(gH p).lookup a=ae o->Z a=ae o):cX p Z (vz.map (·.2)) (zm.map .ref):=by
 have b:=Vl X;have:(vz.map (·.2))=(vz.take 32).map (·.2)++(t9::(((vz.drop 33).take 27).map (·.2)++(w'::((vz.drop 61).map (·.2))))):=by cbv
 refine this▸?_;have:zm.map aot=(zm.take 32).map .ref++(.ref 390::(((zm.drop 33).take 27).map .ref++(.ref 819::((zm.drop 61).map .ref)))):=by cbv
 refine this▸(cX.append (vL X _ _ B) (cX.cons (Vk X) (cX.append (vL X _ _ B) (cX.cons b (vL X _ _ B)))))
section
variable{w:aF}{os:aM}{P Z:eY}{H:bW}{s:aA}{env:Env}{S:Loc}{own:Bool}{A:a9}
theorem cj.amv(b:cj w os P Z H env S own s):∀a o,(gH w.params).lookup a=ae o->Z a=ae o:=let⟨_,c,_⟩:=b;λa o e=>c.base a o (Gu _ e)
theorem Vn(X:(gH w.params).In h)(i:∀a o,(gH w.params).lookup a=ae o->Z a=ae o)(g:env.globals=aoq/\env.builtins=builtinsNs)(e:r4 x=ae v):
  ∃u,bI (bp dW w) h (loadGlobal env x) u/\dw w.params Z v u:=by
 dsimp only[r4]at e;cases b:look x vz with
 |some q=>replace e:=b▸e;cases e;obtain⟨d,c⟩:=AU b;refine c_ ((Vm i).get (n:=d) (v:=v) (by rw[aoh,c];rfl)) λu f j=>?_;replace f:=aoh▸f;refine c_ (anA.mp f) λa m k=>?_;obtain rfl:=k;have:=congrArg (λl=>l[d]?) (U9 w.params);simp only[aoh,c,m,apL,aC.injEq]at this;refine⟨_,?_,j⟩;dsimp only[loadGlobal];exact g.1▸((looks_nsIn X (this:nsIn (gH w.params) aoq x=_)).andThen .now)
 |none=>
  replace e:=b▸e;replace e:look x AJ=ae v:=e;refine gu (AU e) λd c=>?_;have:=congrArg (λl=>l[d]?) (U' w.params);simp only[aoh,c,apL,aC.injEq,Prod.mk.injEq]at this;refine⟨Mu v,?_,?_⟩
  .dsimp only[loadGlobal];rw[g.1,g.2];exact(looks_nsIn X (this.1:nsIn (gH w.params) aoq x=_)).andThen ((looks_nsIn X (this.2:nsIn (gH w.params) builtinsNs x=_)).andThen .now)
  .have p:(AJ.all λb=>match b.2 with|.blt s=>handedIn (.builtin s)|.typ _=>af|_=>ag)=af:=by decide+kernel
   have:=br.mp p _ (aoi c)
   induction v using J.casesOn<;>first|exact⟨rfl,this⟩|rfl|exact d8 this
theorem Vo(h:nameP S x k H):(x==au "__debug__")=ag:=by
 dsimp only[nameP]at h;cases a:sEq x (au "__debug__")with
 |true=>rw[a]at h;exact h.elim
 |false=>exact beq_eq_false_iff_ne.mpr (zl a)
theorem MC(q:cj w os P Z H env S own s)(h:nameP S x k H)(d:∀v u,dw w.params Z v u->k v H->Q u s):Wp w A (loadName env x) Q s:=by
 refine c_ q λy j b=>c_ b.names λm N n=>?_;dsimp only[nameP]at h;cases i:sEq x (au "__debug__")with
 |true=>replace h:=i▸h;exact h.elim
 |false=>
 replace h:=i▸h;dsimp only at h;cases f:look x S with
 |none=>replace h:=f▸h;exact h.elim
 |some o=>
  replace h:=f▸h;have cQ:=n x o f
  induction o using d6.casesOn with
  |un=>exact h.elim
  |q1=>exact h.elim
  |Y v=>exact eP cQ λa g=>c_ g λu e r=>wpAny_loadName_local b.kind a N e (d _ _ r h)
  |iN v=>exact eP cQ λa g=>gT g λc u e t r=>wpAny_loadName_cell b.kind a e t (d _ _ r h)
  |gl v=>exact c_ (Vn (Z:=Z) j.lL (λa p e=>j.base a p (Gu _ e)) b.glob cQ.2) λu l r=>ks_loadName_global b.kind cQ.1 (l.here (d _ _ r h))
end
section
variable{w:aF}{os:aM}{A:a9}{P Z:eY}{H:bW}{s s':aA}{env:Env}{S:Loc}{d n:Nat}{own:Bool}{ck:ai->Option ai}
theorem Vp(h:zi v=.str x t):∃a,v=.str x a:=by
 match v,h with
 |.str y t,h=>cases h;exact⟨_,B⟩
theorem hJ.cons(h:hJ p (k::cG) es):∃e r t,es=e::r/\e.hash=anz p k/\e.key=.str k t/\hJ p cG r:=by
 induction es using aE with
 |nil=>cases h
 |cons e r=>unfold hJ at h;simp only[aL,bj.injEq,Prod.mk.injEq]at h;refine eP h λg a=>?_;obtain⟨b,c⟩:=g;exact gu (Vp c) λt f=>⟨e,r,t,B,b,f,a⟩
theorem MD:(aoM k t).isStr x=sEq k x:=by
 refine(?_:(k==x)=sEq k x);cases a:sEq k x with
 |true=>exact(kE a)▸(beq_self_eq_true _)
 |false=>exact beq_eq_false_iff_ne.mpr (zl a)
theorem hJ.noRef:∀{a:List Str}{es:List bw},hJ p a es->es.any (·.refKey)=ag
 |[],es,h=>by cases es with|nil=>rfl|cons _ _=>cases h
 |k::a,es,h=>by refine mn h.cons λe r g f i c b=>?_;obtain rfl:=f;rw[aox,hJ.noRef b];unfold bw.refKey;refine c▸?_;rfl
theorem hJ.find:∀{f:List Str}{vs:List J}{es:List bw},hJ p f es->cX p Z vs (es.map (·.val))->
  (∀u,pD x f vs=ae u->∃e,es.find? (·.key.isStr x)=ae e/\dw p Z u e.val)/\((∀k∈f,sEq k x=ag)->es.find? (·.key.isStr x)=ah)
 |[],vs,es,h,r=>by
  induction es using aE with
  |nil=>exact⟨λu c=>(by exact cV c),λ_=>B⟩
  |cons _ _=>cases h
 |k::f,vs,es,h,r=>by
  refine mn h.cons λe D F v z o l=>?_;obtain rfl:=v
  induction vs with
  |nil=>cases r
  |cons E vs=>
   refine gT r λy C j a b=>?_;rw[aL,bj.injEq]at j;obtain⟨rfl,rfl⟩:=j;refine eP (hJ.find (x:=x) l b) λm q=>?_;have hs:e.key.isStr x=sEq k x:=by exact o▸MD
   rw[apq,hs];refine⟨λu c=>?_,λg=>?_⟩
   .dsimp only[pD]at c;cases i:sEq k x with
    |true=>replace c:=i▸c;cases c;exact⟨e,B,a⟩
    |false=>replace c:=i▸c;exact m u c
   .exact (g k (.head _))▸(q λk t=>g k (.tail _ t))
theorem hJ.getL{p:aw}{Z:eY}{x:Str}{c:List Str}{vs:List J}{es:List bw}(h:hJ p c es)(r:cX p Z vs (es.map (·.val))):
  (∀u,pD x c vs=ae u->∃v,PySem.W.getL x es=ae (ae v)/\dw p Z u v)/\((∀k∈c,sEq k x=ag)->PySem.W.getL x es=ae ah):=by
 refine eP (hJ.find (x:=x) h r) λg j=>⟨λu i=>?_,λf=>?_⟩
 .exact c_ (g u i) λe a b=>⟨e.val,by unfold PySem.W.getL;rw[a],b⟩
 .unfold PySem.W.getL;rw[j f,h.noRef];rfl
theorem Gy(x:Str):∀fs:List (Str×J),look x fs=pD x (fs.map (·.1)) (fs.map (·.2))
 |[]=>rfl
 |(y,v)::r=>by refine(?_:(match sEq y x with|true=>ae v|false=>look x r)=(match sEq y x with|true=>ae v|false=>pD x (r.map (·.1)) (r.map (·.2))));rw[Gy x r]
theorem Gz:∀{fs:List (Str×α)},look x fs=ah->∀k∈fs.map (·.1),sEq k x=ag
 |[]=>λ_ k h=>by cases h
 |(y,v)::r=>λe k h=>by
  dsimp only[look]at e;cases a:sEq y x with
  |true=>replace e:=a▸e;exact gS e
  |false=>
   replace e:=a▸e;rcases aI.mp h with rfl|h
   .exact a
   .exact Gz e k h
theorem Vq:sEq a b=sEq b a:=by
 cases c:sEq a b with
 |true=>rw[kE c,xg]
 |false=>
  cases e:sEq b a with
  |true=>exact absurd (kE e).symm (zl c)
  |false=>rfl
theorem ME(h:r3 C x=af)(p:aw):Di (gH p) C x=af:=by
 unfold r3 at h;cases e:kW C t' with
 |none=>replace h:=e▸h;exact d8 h
 |some l=>rw[e]at h;refine c_ (apo.mp h) λy a ce=>?_;have:=br.mp (br.mp (U2 p) _ (ud e)) y a;exact(kE ce)▸this
theorem Vr(h:jB C=af)(e:mS C x=ae f)(p:aw):Go (gH p) C x f=af:=by
 unfold mS at e;cases a:kW C za with
 |none=>replace e:=a▸e;exact cV e
 |some c=>replace e:=a▸e;refine gu (AU (e:look x c=ae f)) λg b=>?_;have:=br.mp (br.mp (U3 p) _ (apr.mpr ⟨ud a,h⟩)) _ (aoi b);exact this
section
theorem Dp{v:J}{u:aj}(j:cj w os P Z H env S own s)(r:dw w.params Z v u){C:ai}{e:List Str}{vs:List J}
  (h:v=.obj C e vs\/∃a fs,v=.ref a/\H a=ae (.inst C fs)/\e=fs.map (·.1)/\vs=fs.map (·.2)):
  ∃a d es n,u=.ref a/\InstAt s.heap a (anl C d) C (ae (anO es n))/\hJ w.params e es/\cX w.params Z vs (es.map (·.val)):=by
 refine c_ j λck f m=>?_;rcases h with rfl|⟨a,fs,rfl,h,rfl,rfl⟩
 .refine kV r λa d es n l c i b g=>?_;obtain rfl:=l;exact⟨a,d,es,n,B,⟨f.gw _ _ c,B,B,f.gw _ _ i⟩,b,g⟩
 .cases r;exact w8 (f.abs _ _ h) λd es n c i b g k=>⟨a,d,es,n,B,⟨c,B,B,b⟩,g,k⟩
theorem Vs{v:J}{u:aj}{x:Str}{k:cZ}(c:cj w os P Z H env S own s)(r:dw w.params Z v u)(h:b4 v x k H){Q:aj->aA->Prop}
  (p:∀g b s',cj w os P Z H env S own s'->dw w.params Z g b->k g H->Q b s'):Wp w A (getAttr u x af) Q s:=by
 refine C9 h λE F I y i l cv z=>?_;refine C9 (Dp c r i) λa d G n D t K C=>?_;obtain rfl:=D;refine c_ ((K.getL C).1 y cv) λb m e=>?_;have f:=ME l w.params;simp only[Di,aP,decide_eq_true_eq]at f;obtain⟨⟨⟨⟨⟨q,o⟩,j⟩,L⟩,N⟩,M⟩:=f;exact get_value c.lL t (plainGet_of q).1 (findObj_own o j B m) e.handed (p _ _ _ c.toks e z)
end
theorem Vt:typeOf (.builtin "list.append")=pure (.type "method_descriptor")/\typeOf (.builtin "list.pop")=pure (.type "method_descriptor")/\typeOf (.builtin "dict.get")=pure (.type "method_descriptor")/\typeOf (.builtin "dict.update")=pure (.type "method_descriptor"):=
 ⟨by cbv,by cbv,by cbv,by cbv⟩
noncomputable def xi(f:ai):aj->Bool
 |.ref a=>aG a f
 |_=>ag
noncomputable def MF(f:ai):Option CFound->Bool
 |some (.val a)=>xi f a
 |_=>ag
theorem Vu(h:MF f o=af):o=ae (.val (.ref f)):=by
 induction o using a_ with
 |none=>exact d8 h
 |some c=>
  induction c using CFound.casesOn with
  |val a=>
   induction a using anT with
   |ref b=>exact aog h▸B
   |_=>exact d8 h
  |_=>exact d8 h
noncomputable def MG(K:Frag)(C:ai)(x:Str)(f:ai):Bool:=decide (specialIn K (.ref C) (au "__getattribute__")=ae (ae (.builtin "type.__getattribute__")))&&readsIn K C (.type "type")&&
 MF f (findCls K (.ref C) (.type "type") x)
theorem Vv(P:aw):((za.filter λp=>(kW p.1 t').isSome).all λp=>(p.2.filter λq=>sEq q.1 (au "__init__")).all λq=>MG (gH P) p.1 q.1 q.2)=af:=by cbv
section
theorem Vw(h:jB C=af)(e:mS C x=ae f):∃a,(C,a)∈(za.filter λp=>(kW p.1 t').isSome)/\(x,f)∈a:=by
 unfold mS at e;cases b:kW C za with
 |none=>replace e:=b▸e;exact cV e
 |some a=>rw[b]at e;exact gu (AU (e:look x a=ae f)) λg c=>⟨a,apr.mpr ⟨ud b,h⟩,aoi c⟩
theorem xj{a:ai}{vs:List J}(b:cj w os P Z H env S own s)(h:H a=ae (.list vs)):∃xs n,IsL s.heap a xs n/\cX w.params Z vs xs.toList:=let⟨_,c,_⟩:=b;c.abs _ _ h
theorem GA{a:ai}{o:Obj}{x y:Str}{id:String}{pl:Sem Bool}(e:sEq x y=af)(c:s.heap.get? a=ae o)(f:o.cls=.type "dict")(g:o.dict=ah)(sl:Slot "dict" y id)(i:typeOf (.builtin id)=pure (.type "method_descriptor")){Q:aj×List aj->aA->Prop}(h:Q (.builtin id,[.ref a]) s):Wp w A (getMethod (.ref a) x pl) Q s:=by obtain rfl:=kE e;exact getMethod_builtin (T:="dict") (⟨o,c,f⟩:∃o,_) PySem.F.plainAttrs_dict sl i (λb e=>by cases e;exact⟨o,c,g⟩) h
theorem Vx{v:J}{u:aj}{x:Str}{pl:Sem Bool}{C f:ai}{b:List Str}{vs:List J}(e:cj w os P Z H env S own s)(r:dw w.params Z v u)(i:Gd H v C b vs)(m:jB C=af)(j:mS C x=ae f)(q:∀k∈b,sEq k x=ag){Q:aj×List aj->aA->Prop}(h:Q (.ref f,[u]) s):Wp w A (getMethod u x pl) Q s:=by refine C9 (Dp e r i) λa d o n D p K z=>?_;obtain rfl:=D;have c:=Vr m j w.params;simp only[Go,aP,decide_eq_true_eq]at c;refine eP c λy t=>?_;obtain⟨⟨g,E⟩,l⟩:=y;exact method_fn e.lL p (plainGet_of g).1 (plainGet_of g).2 l (beq_iff_eq.mp t) (by refine(?_:(lookIn x (anO o n)).map _=_);rw[lookIn_dict,(K.getL z).2 q];rfl) h
theorem GB(b:cj w os P Z H env S own s)(l:jB C=af)(ce:sEq x (au "__init__")=af)(g:mS C x=ae f)(h:∀tk,Q (.ref f,[]) {s with toks:=tk}):Wp w A (getMethod (.ref C) x pl) Q s:=by refine c_ (Vw l g) λo j m=>?_;have a:=br.mp (br.mp (Vv w.params) _ j) _ (apr.mpr ⟨m,ce⟩);simp only[MG,aP,decide_eq_true_eq]at a;exact a.elim λc i=>c.elim λk e=>method_cls b.lL k (cls_value b.lL e (Vu i) B (h _))
theorem Vy(b:cj w os P Z H env S own s)(r:dw w.params Z v u)(h:methP v x k H)
  (m:∀fs f xs s',cj w os P Z H env S own s'->dw w.params Z fs.1 f->cX w.params Z fs.2 xs->k fs H->Q (f,xs) s'):Wp w A (getMethod u x pl) Q s:=by
 refine jQ Vt λt1 c5 D jU=>?_
 induction h using t_.casesOn with
 |own M R z f L t q N c=>exact Vx b r L t q N (m (.glob f,[v]) _ _ _ b B (.cons r .nil) c)
 |cls M f e t ce q c=>obtain rfl:=e▸r;exact GB b t ce q λtk=>m (.glob f,[]) _ _ _ b.toks B .nil c
 |app a z e i ce c=>have j:=r;obtain rfl:=e▸r;obtain⟨xs,n,g,l⟩:=xj b i;obtain rfl:=kE ce;exact getMethod_list_of PySem.F.slot_list_append t1 g.isList ⟨_,g,B⟩ (m (.blt "list.append",[v]) _ _ _ b ⟨B,by decide⟩ (.cons j .nil) c)
 |pop a z e i ce c=>have j:=r;obtain rfl:=e▸r;obtain⟨xs,n,g,l⟩:=xj b i;obtain rfl:=kE ce;exact getMethod_list_of PySem.F.slot_list_pop c5 g.isList ⟨_,g,B⟩ (m (.blt "list.pop",[v]) _ _ _ b ⟨B,by decide⟩ (.cons j .nil) c)
 |upd a o e i ce c=>have j:=r;obtain rfl:=e▸r;obtain⟨G,⟨y,o,I,g,⟨l,p,C⟩,E⟩,_⟩:=b.elim λck b=>b.1.abs _ _ i;exact GA ce g l p PySem.F.slot_dict_update jU (m (.blt "dict.update",[v]) _ _ _ b ⟨B,by decide⟩ (.cons j .nil) c)
 |AK a o e i ce c=>have j:=r;obtain rfl:=e▸r;obtain⟨G,⟨y,o,I,g,⟨l,p,C⟩,E⟩,_⟩:=b.elim λck b=>b.1.abs _ _ i;exact GA ce g l p PySem.F.slot_dict_get D (m (.blt "dict.get",[v]) _ _ _ b ⟨B,by decide⟩ (.cons j .nil) c)
 |Mb a o e i ce c=>have j:=r;obtain rfl:=e▸r;obtain⟨G,⟨y,o,I,g,⟨l,p,C⟩,E⟩,_⟩:=b.elim λck b=>b.1.abs _ _ i;exact GA ce g l p PySem.F.slot_dict_get D (m (.blt "dict.get",[v]) _ _ _ b ⟨B,by decide⟩ (.cons j .nil) c)
end
noncomputable def others(h₀ h:aD)(xs:List ai):List (ai×Obj):=(anq h.objs.size).filterMap λb=>if b∈xs\/(h₀.get? b).isSome=af then ah else(h.get? b).map λa=>(b,a)
set_option tactic.hygienic true in
theorem Dq:p∈others h₀ h xs↔(p.1∉xs/\h₀.get? p.1=ah)/\h.get? p.1=ae p.2:=by
 unfold others;rw[List.mem_filterMap];constructor
 .rintro ⟨b,b_,e⟩
  split at e
  .exact cV e
  .rename_i a;refine c_ (anA.mp e) λi f g=>?_;obtain rfl:=g;rw[not_or]at a;exact⟨⟨a.1,by simpa using a.2⟩,f⟩
 .rintro ⟨⟨a,c⟩,e⟩
  refine⟨p.1,List.mem_range.mpr (bK e),?_⟩;rw[if_neg (by rw[not_or];exact⟨a,by rw[c];decide⟩),e];rfl
theorem MH(p:aw):(H₁ p).objs.size=1235:=absHeap_size _ _ _
theorem MI(f:L∈xs):News h₀ L h (others h₀ h xs):=λj i=>by refine eP (Dq.mp i) λg b=>?_;refine eP g λa c=>?_;exact⟨b,λe=>a (e▸f),c⟩
theorem news_one(hd:h.get? d=ae o)(c:d≠L)(h0:h₀.get? d=ah):News h₀ L h ((d,o)::others h₀ h [d,L]):=λb a=>by
 rcases aI.mp a with rfl|a
 .exact ⟨hd,c,h0⟩
 .exact MI (by simp) b a
theorem Vz:Upd d o eM ((d,o)::others h₀ h [d,L]) ((d,eM)::others h₀ h [d,L]):=
 .head λb a e=>(Dq.mp a).1.1 (by rw[e];simp)
structure VA(L:ai)(m:Str->Option aj)(d:ai)(eM:Obj)(h h':aD):Prop where
 here:h'.get? d=ae eM
 same:∀b o,b≠d->b≠L->h.get? b=ae o->h'.get? b=ae o
 ns:h'.Ns L m
theorem VB(k:∀b o,h₀.get? b=ae o->h.get? b=ae o)(F:Fr h₀ L h' m)(N:News h₀ L h' ((d,eM)::others h₀ h [d,L])):VA L m d eM h h':=
 ⟨(N _ (.head _)).1,λb o f c e=>by
  cases a:h₀.get? b with
  |none=>exact(N (b,o) (.tail _ (Dq.mpr ⟨⟨by simp[f,c],a⟩,e⟩))).1
  |some x=>have:=k _ _ a;replace this:=e▸this;cases this;exact F.keep _ _ a,F.ns⟩
theorem hJ.MJ(r:dw p Z v u):∀{fs:List (Str×J)}{es:List bw},hJ p (fs.map (·.1)) es->cX p Z (fs.map (·.2)) (es.map (·.val))->
  hJ p ((put x v fs).map (·.1)) (putL x (anz p x) (.str x tk) u es)/\cX p Z ((put x v fs).map (·.2)) ((putL x (anz p x) (.str x tk) u es).map (·.val))
 |[],es,h,d=>by
  induction es using aE with
  |nil=>exact⟨B,.cons r .nil⟩
  |cons _ _=>cases h
 |(y,w)::fs,es,h,d=>by
  refine mn (hJ.cons (show hJ p (y::fs.map (·.1)) es from h)) λe a t o g c f=>?_;obtain rfl:=o;refine gT (show cX p Z (w::fs.map (·.2)) (e.val::a.map (·.val))from d) λb bs j l i=>?_;rw[bj.injEq]at j;obtain⟨rfl,rfl⟩:=j;refine eP (hJ.MJ (x:=x) (tk:=tk) r f i) λk m=>?_;have hs:e.key.isStr x=sEq y x:=by exact c▸MD
  dsimp only[putL,put];rw[hs];cases q:sEq y x with
  |true=>refine⟨?_,.cons r i⟩;refine(?_:hJ p (y::fs.map (·.1)) ({e with val:=u}::a));unfold hJ;rw[aL,g,c];rw[(f:a.map (λe=>(e.hash,zi e.key))=_)];rfl
  |false=>refine⟨?_,.cons l m⟩;refine(?_:hJ p (y::(put x v fs).map (·.1)) (e::putL x (anz p x) (.str x tk) u a));unfold hJ;rw[aL,g,c];rw[(k:(putL x (anz p x) (.str x tk) u a).map (λe=>(e.hash,zi e.key))=_)];rfl
theorem hJ.length(h:hJ p cG es):es.length=cG.length:=by have:=congrArg aln h;simpa using this
theorem MK(x:Str)(v:α):∀a:List (Str×α),(put x v a).length<=a.length+1
 |[]=>av _
 |(y,u)::r=>by
  dsimp only[put];cases b:sEq y x with
  |true=>simp
  |false=>have:=MK x v r;simp;exact this
section
theorem VC(M:cj w os P Z H env S own s)(r:dw w.params Z v u)(cm:dw w.params Z y z)(h:ej v x y k H)
  (ct:∀Y s',cj w os P Z Y env S own s'->k Y->Q () s'):Wp w A (setAttr u x z) Q s:=by
 refine w8 h λa bV l cg i bd b5 cu=>?_;obtain rfl:=cg;cases r;refine c_ (id M) λck f j=>w8 (f.abs _ _ i) λd cb n D p a1 E o=>?_;have I:=ME bd w.params;simp only[Di,aP,decide_eq_true_eq]at I;refine eP I λF cw=>?_;refine eP F λF cA=>?_;obtain⟨⟨⟨cP,b7⟩,cI⟩,cc⟩:=F;refine c_ j.names λm N cK=>?_;have ne:d≠env.locals:=λb=>by have:=j.out.o;rw[<-b,p]at this;exact gS this
 have cv:(PySem.W.getL x cb).isSome=af:=by
  cases e:look x l with
  |none=>rw[(E.getL o).2 (Gz e)];rfl
  |some u=>refine c_ ((E.getL o).1 u (Gy x l▸e)) λv a2 _=>?_;rw[a2];rfl
 refine eP (hJ.MJ (x:=x) (tk:=s.toks+1) cm E o) λR co=>?_;have bZ:(H₁ w.params).get? d=ah:=none_of λap e=>by have:=(f.j4 _ _ (f.base _ _ e)).2;replace this:=p▸this;exact gS this
 refine set_dict (h₀:=H₁ w.params) (K:=gH w.params) (L:=env.locals) (m:=m) ⟨N,f.Gs,by rw[MH];exact j.up⟩ (Gn w λ_ _ e=>e) (news_one a1 ne bZ) ⟨D,B,B,a1⟩ B cc cA cw b7 cv B Vz ?_ (λcM cr cs=>?_)
 .refine R.length▸?_;have:=MK x y l;simp;exact dp b5 this
 .have g:=VB f.Gs cr cs;refine ct _ _ (M.upd (c:=d) (ao:=.inst bV (put x y l)) (by rw[i];rfl) (λcC cd=>?_) g.same (λb2 cy=>?_) ⟨_,g.here⟩ B B) cu
  .refine mn (cd.abs _ _ i) λq cR cT V X cJ _=>?_;have:q=d:=by rw[D]at V;replace b:=aC.inj V;injection b with dC C;replace C:=aC.inj C;exact C.symm
   subst this;have ca:a≠env.locals:=λb=>by have:=j.out.h;rw[<-b,i]at this;exact gS this
   have bY:a≠q:=λb=>by have:=(f.jD _ _ p).1;rw[<-b,i]at this;exact gS this
   exact⟨.inr X,q,_,_,g.same a _ bY ca D,X,g.here,R,co⟩
  .refine mn N λap cU cW ch cf eC hY=>mn cy λcG cL cE G t cN ci=>?_;replace G:=ch▸G;cases G;replace t:=cf▸t;cases t;have:b2=m:=funext λx=>(ci x).symm.trans (hY x);exact this▸g.ns
end
def hL(w:aF)(os:aM)(P Z:eY)(env:Env)(S:Loc)(own:Bool)(k:cZ)(Q:aj->aA->Prop):Prop:=
 ∀a b s' c x,cS Z a->cj w os P a b env S own s'->dw w.params a c x->k c b->Q x s'
def fK(A:a9)(d:Nat):Prop:=A.handled=ah/\A.depth+3*d+5<=recursionLimit/\A.units+12*d+205<=cLine
def xo(A:a9)(d:Nat):Prop:=A.handled=ah/\A.depth+3*d+3<=recursionLimit/\A.units+12*d+200<=cLine
section
theorem hJ.pairs:∀{a:List Str}{es:List bw},hJ w.params a es->Pairs (strKind dW w) es (a.zip (es.map (·.val)))/\KeysOf (strKind dW w) es.toArray
 |[],es,h=>by
  induction es using aE with
  |nil=>exact⟨.nil,λe l=>by simp at l⟩
  |cons _ _=>cases h
 |k::a,es,h=>by
  refine mn h.cons λe r o m f c g=>?_;obtain rfl:=m;refine eP (hJ.pairs g) λj i=>?_;have b:(strKind dW w).is k e.key=af:=by exact c▸(aoI ..)
  refine⟨.cons b B j,λx ce=>?_⟩;rcases aI.mp (by simpa using ce)with rfl|ce
  .exact ⟨k,b,f⟩
  .exact i x (by simpa using ce)
theorem hJ.dictOf{w:aF}{b:List Str}{es:List bw}{n:Nat}{h:aD}{a:ai}(K:hJ w.params b es)(O:b.Nodup)(e:h.get? a=ae (anO es n)):h.DictOf (strKind dW w) a (b.zip (es.map (·.val))):=
 ⟨_,es.toArray,n,e,⟨B,B,B⟩,B,K.pairs.2,K.pairs.1,by rw[anV (by simp[K.length])];exact O⟩
noncomputable def Ds:dj->String
 |.li _=>"list"
 |.cb _=>"tuple"
theorem r8(p:cj w os P Z H env S own s)(r:dw w.params Z v u)(h:iO H v=ae q):
  ∃a o xs n,u=.ref a/\s.heap.get? a=ae o/\o.cls=.type (Ds q)/\o.data=.seq xs n/\cX w.params Z (lq q) xs.toList:=by
 refine c_ p λck i t=>?_
 induction v using J.casesOn with
 |ref b=>exact c_ (Mf (show AN (H b)=ae q from h)) λl e eq=>lZ (i.abs _ _ e) λxs n m d=>eq▸⟨b,_,xs,n,r,m,B,B,d⟩
 |lst l=>exact aC.inj h▸kV r λa o xs n f g c k j=>⟨a,o,xs,n,f,i.gw _ _ g,c,k,j⟩
 |tup l=>exact aC.inj h▸kV r λa o xs n f g c k j=>⟨a,o,xs,n,f,i.gw _ _ g,c,k,j⟩
 |_=>exact cV h
theorem cj.newList(f:cj w os P Z H env S own s){a:ai}{vs:List J}{xs:Array aj}{n:Nat}(k:∀b o,s.heap.get? b=ae o->s'.heap.get? b=ae o)(g:s'.gens=s.gens)(q:s'.os=s.os)(h0:s.heap.get? a=ah)
  (h1:IsL s'.heap a xs n)(r:cX w.params Z vs xs.toList){c:cZ}(h:eX (.list vs) c H){Q:aj->aA->Prop}(i:hL w os P Z env S own c Q):Q (.ref a) s':=by
 exact eP (f.Mt (ao:=.list vs) k g q h0 λck=>⟨xs,n,h1,r⟩) λe j=>i _ _ _ (.ref a) _ (cS.refl Z) j B (h a e)
theorem VL{v:J}{u:aj}{k:cZ}(i:cj w os P Z H env S own s)(r:dw w.params Z v u){n:Nat}(h:lenOf H v=ae n)(L:n<=16000000)(y:k (.int n) H){Q:aj->aA->Prop}(q:hL w os P Z env S own k Q):
  Wp w A (bo (.builtin "len") [u]) Q s:=by
 have F:∀{b:dj},iO H v=ae b->n=(lq b).length->Wp w A (bo (.builtin "len") [u]) Q s:=by
  intro b e l;refine kV (r8 i r e) λa o xs m W j f t x=>?_;obtain rfl:=W;have E:n=xs.size:=by rw[l,x.length];simp
  subst E
  induction b using dj.casesOn with
  |li z=>exact Calls.call_len_list ⟨o,j,f,m,t⟩ (by lia) (q _ _ _ (.int xs.size) _ (cS.refl Z) i.toks ⟨_,B⟩ y)
  |cb z=>exact len_tuple ⟨o,j,f,m,t⟩ (by lia) (q _ _ _ (.int xs.size) _ (cS.refl Z) i.toks ⟨_,B⟩ y)
 unfold lenOf at h;generalize e:Gh v=o at h
 induction o using a_ with
 |some m=>
  obtain rfl:=aC.inj h;refine lZ (UZ e) λg z b c=>?_;subst b c;refine mn r λa p m R j f N=>iw N λt x C=>?_;obtain rfl:=R;have V:=hJ.dictOf (w:=w) f x (i.gw j);have l:(g.zip (p.map (·.val))).length=g.length:=by simp[f.length]
  have X:(g.zip (p.map (·.val))).length<=16000000:=by rw[l];exact L
  have G:(a==aoJ)=ag:=by
   have:a≠aoJ:=λe=>by rw[e]at C;exact absurd C (by decide)
   exact beq_eq_false_iff_ne.mpr this
  have I:((g.zip (p.map (·.val))).length:Int)<2^63:=by lia
  exact call_len_dict G V I (q _ _ _ (.int g.length) _ (cS.refl Z) i.toks (by rw[l];exact⟨_,B⟩) y)
 |none=>exact c_ (anA.mp h) λb D M=>F D M.symm
theorem ML{K:Type}[DecidableEq K](q:K×aj)(us:List (K×aj))(k:K):bO (q::us) k=if q.1=k then ae q.2 else bO us k:=by
 unfold bO;rw[apq];by_cases h:q.1=k
 .simp [h]
 .simp [h]
theorem GE{κ g i:Type}[DecidableEq g]{p:aw}{Z:eY}{key:κ->g}{gk:i->g}{gv:i->aj}{j:g}{L:List (κ×J)->Option J}{M:List i->Option aj}(q:L []=ah)(t:M []=ah)(o:∀y v es,L ((y,v)::es)=if key y=j then ae v else L es)(z:∀b us,M (b::us)=if gk b=j then ae (gv b)else M us):
  ∀{es:List (κ×J)}{us:List i},us.map gk=es.map (λe=>key e.1)->cX p Z (es.map (·.2)) (us.map gv)->(∀v,L es=ae v->∃u,M us=ae u/\dw p Z v u)/\(L es=ah->M us=ah):=by
 intro es
 induction es with
 |nil=>
  intro us h r
  induction us using aE with
  |nil=>exact⟨λv e=>cV (q.symm.trans e),λ_=>t⟩
  |cons _ _=>exact nomatch h
 |cons e es C=>
  intro us h r
  induction us using aE with
  |nil=>exact nomatch h
  |cons b us=>
   have l:gk b=key e.1:=(bj.inj h).1;refine gT r λx xs k a m=>?_;have f:=C (bj.inj h).2 ((bj.inj k).2▸m);rw[o e.1 e.2,z,l];by_cases c:key e.1=j
   .rw [if_pos c,if_pos c];exact⟨λv f=>⟨_,B,(bj.inj k).1▸aC.inj f▸a⟩,λf=>gS f⟩
   .rw [if_neg c,if_neg c];exact f
theorem MM{p:aw}{Z:eY}(j:Int):∀{es:List (Int×J)}{us:List (Int×aj)},us.map (·.1)=es.map (·.1)->cX p Z (es.map (·.2)) (us.map (·.2))->
  (∀v,jr j es=ae v->∃u,bO us j=ae u/\dw p Z v u)/\(jr j es=ah->bO us j=ah):=GE (L:=jr j) (M:=λus=>bO us j) B B (λ_ _ _=>B) (λb us=>ML ..)
theorem Dt{p:aw}{Z:eY}(j:Str):∀{es:List (Str×J)}{us:List (Str×aj)},us.map (·.1)=es.map (·.1)->cX p Z (es.map (·.2)) (us.map (·.2))->
  (∀v,look j es=ae v->∃u,bO us j=ae u/\dw p Z v u)/\(look j es=ah->bO us j=ah):=GE (L:=look j) (M:=λus=>bO us j) B B (λy v es=>by show(match sEq y j with|true=>ae v|false=>look j es)=_;cases c:sEq y j with|true=>rw[if_pos (kE c)]|false=>rw[if_neg (zl c)]) (λb us=>ML ..)
theorem GF(x:Str):∀(a:List Str)(vs:List J),a.length=vs.length->pD x a vs=look x (a.zip vs)
 |[],vs=>λh=>by induction vs using aE<;>rfl
 |k::a,[]=>λh=>by cases h
 |k::a,v::vs=>λh=>by refine(?_:(match sEq k x with|true=>ae v|false=>pD x a vs)=(match sEq k x with|true=>ae v|false=>look x (a.zip vs)));rw[GF x a vs (by simpa using h)]
theorem VP{p:aw}{Z:eY}(q:Int×Int){es:List ((Int×Int)×J)}{xs:List (List Int×ai×aj)}(h:xs.map (·.1)=es.map (λq=>[q.1.1,q.1.2]))(r:cX p Z (es.map (·.2)) (xs.map (·.2.2))):
  (∀v,nu q es=ae v->∃u,(atKey xs [q.1,q.2]).map (·.2)=ae u/\dw p Z v u)/\(nu q es=ah->atKey xs [q.1,q.2]=ah):=by
 have a:=GE (p:=p) (Z:=Z) (key:=λy:Int×Int=>[y.1,y.2]) (gk:=(·.1)) (gv:=λx:List Int×ai×aj=>x.2.2) (j:=[q.1,q.2]) (L:=nu q) (M:=λb=>(atKey b [q.1,q.2]).map (·.2)) B B (λy v es=>by
  show(if y=q then ae v else nu q es)=_;by_cases c:y=q
  .rw [if_pos c,if_pos (by rw[c])]
  .rw [if_neg c,if_neg (λe=>c (Prod.ext (bj.inj e).1 (bj.inj (bj.inj e).2).1))]) (λx b=>by
  unfold atKey;rw[apq];by_cases c:x.1=[q.1,q.2]
  .rw [if_pos c,decide_eq_true c];rfl
  .rw [if_neg c,decide_eq_false c]) h r
 exact⟨a.1,λe=>Option.map_eq_none_iff.mp (a.2 e)⟩
end
def AZ:List ai:=t'.map (·.1)
def MN(K:Frag)(C D:ai):Bool:=match AL C D with
 |true=>isIn K (.ref C) D
 |false=>kin_not K C D&&(plainGet K C (au "__class__")&&hasDictIn K C&&decide (findIn K (.ref C) (au "__class__")=ae (ae (.builtin "object.__class__")))&&
   decide (specialIn K (.builtin "object.__class__") (au "__get__")=ae (ae (.builtin "getset_descriptor.__get__")))&&decide (takesIn K (.builtin "object.__class__")=ae af)&&decide (mroIn K C (.type "object")=ae af))
theorem VQ(P:aw):(AZ.all λC=>AZ.all λD=>MN (gH P) C D)=af:=by cbv
noncomputable def VR(K:Frag)(D:ai):Bool:=[bL "int",.type "NoneType",.type "bool",.type "str"].all λa=>decide (kitOne K a (.ref D)=ae ag)
theorem VS(P:aw):(AZ.all λD=>VR (gH P) D)=af:=by cbv
theorem A0(h:jB C=af):C∈AZ:=by
 unfold jB at h;cases e:kW C t' with
 |none=>replace h:=e▸h;exact d8 h
 |some l=>exact bC.mpr ⟨_,ud e,B⟩
section
theorem MO(b:cj w os P Z H env S own s)(o:u=.ref a)(g:InstAt s.heap a (anl C MP) C (ae (anO es n)))(m:jB C=af)(il:jB D=af)(h:k (.bool (AL C D)) H)(c:hL w os P Z env S own k Q):
  Wp w A (bo (.builtin "isinstance") [u,.ref D]) Q s:=by
 subst o;have f:=br.mp (br.mp (VQ w.params) _ (A0 m)) _ (A0 il);unfold MN at f;cases i:AL C D with
 |true=>rw[i]at f h;exact isi_call b.lL (λM=>g.type) f (by intro e;cases e) (c _ _ _ (.bool af) _ (cS.refl Z) b B h)
 |false=>rw[i]at f h;simp only[aP,decide_eq_true_eq]at f;refine iw f λl x v=>?_;refine eP x λt y=>?_;obtain⟨⟨⟨q,p⟩,j⟩,r⟩:=t;exact kin_callC b.lL g l q p j r y v (c _ _ _ (.bool ag) _ (cS.refl Z) b.toks B h)
theorem VT(f:cj w os P Z H env S own s)(r:dw w.params Z v u)(il:jB D=af)(h:Mc H D v=ae c)(m:k (.bool c) H)(j:hL w os P Z env S own k Q):Wp w A (bo (.builtin "isinstance") [u,.ref D]) Q s:=by
 have fin:∀{g u:aj}{o:aD->Prop},g∈[bL "int",.type "NoneType",.type "bool",.type "str"]->KitX (gH w.params) u g o->o s.heap->u≠.builtin "__main__.__loader__#opaque"->ae ag=ae c->Wp w A (bo (.builtin "isinstance") [u,.ref D]) Q s:=
  λE y F ne qx=>kia_one y f.lL F (of_decide_eq_true (br.mp (br.mp (VS w.params) _ (A0 il)) _ E)) ne λtk=>j _ _ _ (.bool ag) _ (cS.refl Z) f.toks B (aC.inj qx▸m)
 induction v using J.casesOn with
 |ref a=>exact lZ (UX h) λp C t hs=>F9 (Dp f r (.inr ⟨a,C,B,t,B,B⟩)) λb z q n i l _=>MO f i l (Dc hs).1 il ((Dc hs).2▸m) j
 |obj p G I=>exact F9 (Dp f r (.inl B)) λb z q n i l _=>MO f i l (Dc h).1 il ((Dc h).2▸m) j
 |int L=>exact aB r λg e=>e▸fin (.head _) kitx_int trivial nofun h
 |none=>exact r▸fin (.tail _ (.head _)) kitx_none trivial nofun h
 |bool b=>exact r▸fin (.tail _ (.tail _ (.head _))) kitx_bool trivial nofun h
 |str x=>exact aB r λg e=>e▸fin (.tail _ (.tail _ (.tail _ (.head _)))) kitx_str trivial nofun h
 |_=>exact cV h
theorem VV(f:cj w os P Z H env S own s)(r:dw w.params Z v u)(h:Gf v=ae c)(i:k (.bool c) H)(g:hL w os P Z env S own k Q)
  (fn:∀a,ua a=af->(∀tk,Q (.bool ag) {s with toks:=tk})->Wp w A (bo (.builtin "isinstance") [.ref a,.type "tuple"]) Q s):Wp w A (bo (.builtin "isinstance") [u,.type "tuple"]) Q s:=by
 induction v using J.casesOn with
 |tup p=>exact kV r λa l xs n e m j o q=>e▸IsiPair.isTuple_tuple ⟨l,f.gw m,j,n,o⟩ (λ_ _ e=>e) (g _ _ _ (.bool af) _ (cS.refl Z) f B (aC.inj h▸i))
 |glob a=>
  replace h:(if ua a then ae ag else ah)=ae c:=h;by_cases b:ua a=af
  .rw [if_pos b]at h;exact r▸fn a b λtk=>g _ _ _ (.bool ag) _ (cS.refl Z) f.toks B (aC.inj h▸i)
  .rw [if_neg b]at h;exact cV h
 |_=>exact cV h
theorem VW(f:cj w os P Z H env S own s)(r:dw w.params Z v u)(e:dw w.params Z t y)(h:Da H v t=ae c)(i:k (.bool c) H)(g:hL w os P Z env S own k Q)
  (fn:∀a,ua a=af->(∀tk,Q (.bool ag) {s with toks:=tk})->Wp w A (bo (.builtin "isinstance") [.ref a,.type "tuple"]) Q s):
  Wp w A (bo (.builtin "isinstance") [u,y]) Q s:=by
 induction t using J.casesOn with
 |glob j=>exact(show y=.ref j from e)▸VT f r (Md h).1 (Md h).2 i g
 |typ t=>
  replace h:(if t="tuple" then Gf v else ah)=ae c:=h;by_cases b:t="tuple"
  .rw [if_pos b]at h;rw[show y=.type t from e,b];exact VV f r h i g fn
  .rw [if_neg b]at h;exact cV h
 |_=>exact cV h
end
namespace MQ
open PySem
theorem VX:typeLookup (.type "function") "__getattribute__"=pure (ae (.builtin "object.__getattribute__")):=by rw[typeLookup_type,builtinLookup_eq_fast];cbv
theorem Du:PySem.Slot "function" "__getattribute__" "object.__getattribute__":=
 .of (owner:="object") (n:="__getattribute__") VX (by decide+kernel) (by decide+kernel) (by decide+kernel) (by first|exact .inl (by decide+kernel)|exact .inr (by decide+kernel)) (by rw[isSubtype_type];cbv)
theorem VY:entryFor table "object.__getattribute__"=ae bP.«object.__getattribute__»:=entryFor_of_tree B
theorem VZ(a b:aj):argsOk "object.__getattribute__" ⟨[a,b],[]⟩:=by unfold argsOk;cbv
theorem V0:typeLookup (.type "function") "__class__"=pure (ae (.builtin "object.__class__")):=by rw[typeLookup_type,builtinLookup_eq_fast];cbv
theorem V1:isSubtype (.type "function") (.type (".".intercalate ("object.__class__".cutAt '.').dropLast))=pure af:=by rw[PySem.F.owner_object_class,isSubtype_type];cbv
section
variable{prog:Program}{E:aj->aA->Prop}{h:aD}{g:Array GenState}{d:Drawn}{t:Nat}{a:ai}{o:Obj}
theorem V2(ce:h.get? a=ae o)(b:o.cls=.type "function")(f:R (.ok (.ret (.type "function"))) ⟨h,g,d,t,os⟩):
  codeAny (bp prog w) A (.call (.builtin "getset_descriptor.__get__") ⟨[.builtin "object.__class__",.ref a,.type "function"],[]⟩) R ⟨h,g,d,t,os⟩:=by
 have l5:(⟨h,g,d,t,os⟩:aA).TypeIs (.ref a) "function":=⟨_,ce,b⟩;have c:(⟨h,g,d,t,os⟩:aA).TypeIs (.builtin "object.__class__") "getset_descriptor":=PySem.F.typeOf_object_class;have e:=V1;refine codeAny_call_builtin PySem.F.slot_gs_get.plain PySem.F.entry_gs_get (PySem.F.slot_gs_get.check _ _ _ _ _ _ _ _ c (PySem.F.args_gs_get ..) ?_)
 repeat (any_goals (first|assumption|wp_step))
 refine⟨Code.quiet_builtin _ (by decide+kernel),codeAny_builtin PySem.F.entry_object_class ?_⟩
 repeat (any_goals (first|assumption|wp_step))
theorem V3(ce:h.get? a=ae o)(b:o.cls=.type "function")(e:Q (.done (.ret (.type "function"))) ⟨h,g,d,t,os⟩):
  wpAny (bp prog w) A (bP.«object.__getattribute__» ⟨[.ref a,.str "__class__" tk],[]⟩) Q E ⟨h,g,d,t,os⟩:=by
 have l5:(⟨h,g,d,t,os⟩:aA).TypeIs (.ref a) "function":=⟨_,ce,b⟩;have f:(⟨h,g,d,t,os⟩:aA).TypeIs (.builtin "object.__class__") "getset_descriptor":=PySem.F.typeOf_object_class;have j:=V0;have k:=PySem.F.typeOf_object_class;have c:=PySem.F.slot_gs_get.lookup;have i:=PySem.F.slot_gs_set.lookup
 repeat (any_goals (first|assumption|wp_step))
 refine V2 ce b ?_
 repeat (any_goals (first|assumption|wp_step))
theorem V4(ce:h.get? a=ae o)(b:o.cls=.type "function")(c:R (.ok (.ret (.type "function"))) ⟨h,g,d,t,os⟩):
  codeAny (bp prog w) A (.call (.builtin "object.__getattribute__") ⟨[.ref a,.str "__class__" tk],[]⟩) R ⟨h,g,d,t,os⟩:=
 codeAny_call_builtin Du.plain VY (Du.check _ _ _ _ _ _ _ _ (⟨_,ce,b⟩:(⟨h,g,d,t,os⟩:aA).TypeIs (.ref a) "function") (VZ ..) (V3 ce b c))
theorem V5(ce:h.get? a=ae o)(b:o.cls=.type "function")(f:Q (.type "function") ⟨h,g,d,t,os⟩):wpAny (bp prog w) A (getAttrBy (.ref a) (.str "__class__" tk) ag) Q E ⟨h,g,d,t,os⟩:=by
 have l5:(⟨h,g,d,t,os⟩:aA).TypeIs (.ref a) "function":=⟨_,ce,b⟩;have c:=Du.lookup;have e:=Du.bind (.ref a)
 repeat (any_goals (first|assumption|wp_step))
 refine V4 ce b ?_
 repeat (any_goals (first|assumption|wp_step))
theorem V6(ce:h.get? a=ae o)(b:o.cls=.type "function")(c:Q (ae (.type "function")) ⟨h,g,d,t+1,os⟩):wpAny (bp prog w) A (getAttr? (.ref a) "__class__") Q E ⟨h,g,d,t,os⟩:=by
 delta getAttr? getAttrBy?
 repeat (any_goals (first|assumption|with_reducible apply V5 ce b|wp_step))
end
end MQ
theorem V7{K:Frag}{a:ai}:KitX K (.ref a) (.type "function") (KitAt a "function"):=kitx_of kitAt_ty (λ{_ _ _ _ _ s} e k=>by obtain⟨h,g,d,f,os⟩:=s;refine c_ e λi b c=>?_;exact MQ.V6 b c k)
def V8:aj:=gW "__main__" 164
def GG:aj:=gW "gemrows.compilematch" 194
noncomputable def V9(p:String×Nat×aj×Nat):Str×aj×aj×aj:=(au p.1,cond (aG p.2.1 0) .none (.ref p.2.1),p.2.2.1,.ref p.2.2.2)
def uh:List (Str×aj×aj×aj):=[("_wall",0,V8,20),
 ("value_or_nil",22,GG,28),
 ("call",30,GG,36),
 ("subject_test",0,GG,43),
 ("GemError.__init__",52,mj,58),
 ("BadSyntax.__init__",0,mj,78),
 ("Loop.__init__",0,ed,121),
 ("Loop.open",0,ed,128),
 ("Loop.close",0,ed,135),
 ("Loop.finish",0,ed,142),
 ("Part.__init__",0,ed,163),
 ("Part.open",0,ed,170),
 ("Part.close",0,ed,177),
 ("Part.finish",0,ed,184),
 ("Part.catch",0,ed,191),
 ("EnsuredPart.__init__",0,ed,212),
 ("EnsuredPart.finish",0,ed,219),
 ("HandlerPart.__init__",0,ed,238),
 ("HandlerPart.finish",0,ed,245),
 ("enter",0,ed,257),
 ("end",0,ed,264),
 ("way_out",0,ed,271),
 ("way_back",0,ed,278),
 ("jump_to",0,ed,285),
 ("innermost",0,ed,292),
 ("compile_if",0,ed,299),
 ("compile_while",0,ed,306),
 ("compile_break",0,ed,313),
 ("compile_next",0,ed,320),
 ("compile_return",0,ed,327),
 ("compile_retry",0,ed,334),
 ("compile_begin",0,ed,341),
 ("compile_rescued",0,ed,348),
 ("compile_handlers",0,ed,355),
 ("class_tests",0,ed,362),
 ("test_jump",0,ed,369),
 ("splat_tests",0,ed,376),
 ("store_many",0,ed,381),
 ("store_one",0,ed,388),
 ("Node.__init__",466,kf,472),
 ("Node.part",0,kf,479),
 ("Params.__init__",498,kf,504),
 ("Params.plain",0,kf,511),
 ("nodes_in",0,kf,525),
 ("pattern_names",0,kf,530),
 ("locals_of",0,kf,537),
 ("param_names",0,kf,542),
 ("Row.__init__",553,eg,559),
 ("Row.with_target",0,eg,566),
 ("Catch.__init__",0,eg,587),
 ("Catch.covers",0,eg,594),
 ("Code.__init__",0,eg,615),
 ("Code.catch_at",0,eg,622),
 ("Code.with_rows",0,eg,629),
 ("Label.__init__",0,eg,650),
 ("Label.told",0,eg,657),
 ("place_of",0,eg,671),
 ("Maker.__init__",0,eg,685),
 ("Maker.put",687,eg,693),
 ("Maker.label",0,eg,700),
 ("Maker.place",0,eg,707),
 ("Maker.child",0,eg,714),
 ("Maker.catch",0,eg,721),
 ("Maker.done",0,eg,726),
 ("given",0,eg,740),
 ("passed",0,eg,747),
 ("tuck_effect",0,eg,754),
 ("list_effect",0,eg,761),
 ("table_effect",0,eg,768),
 ("send_effect",0,eg,775),
 ("super_effect",0,eg,782),
 ("zsuper_effect",0,eg,789),
 ("yield_effect",0,eg,796),
 ("class_effect",0,eg,803),
 ("defined_effect",0,eg,810),
 ("spreadto_effect",0,eg,817),
 ("effect_of",0,eg,877),
 ("Slots.__init__",0,eI,892),
 ("Slots.add",0,eI,899),
 ("Slots.find",0,eI,906),
 ("Compiler.__init__",923,eI,929),
 ("Compiler.put",931,eI,937),
 ("Compiler.put_at",939,eI,945),
 ("Compiler.node",947,eI,953),
 ("Compiler.body",955,eI,961),
 ("Compiler.told",0,eI,968),
 ("Compiler.slot",0,eI,975),
 ("Compiler.hidden",0,eI,982),
 ("Compiler.load",0,eI,989),
 ("Compiler.save",0,eI,996),
 ("Compiler.list_of",0,eI,1003),
 ("Compiler.arguments",0,eI,1010),
 ("Compiler.block_of",1012,eI,1018),
 ("Compiler.block",0,eI,1025),
 ("Compiler.defaults",0,eI,1032),
 ("Compiler.start",0,eI,1039),
 ("Compiler.code",0,eI,1046),
 ("Compiler.store",0,eI,1053),
 ("Compiler.store_name",0,eI,1060),
 ("Compiler.store_index",0,eI,1067),
 ("Compiler.one_more",0,eI,1074),
 ("Compiler.send_to",1076,eI,1082),
 ("has_splat",0,eI,1094),
 ("push_value",0,eI,1101),
 ("do_plain",0,eI,1108),
 ("do_array",0,eI,1115),
 ("do_gvar",0,eI,1122),
 ("do_const",0,eI,1129),
 ("do_seq",0,eI,1136),
 ("do_call",0,eI,1143),
 ("_law_take",0,jb,1150),
 ("_law_call",0,jb,1157),
 ("_law_mark",0,jb,1164),
 ("_law_seq",0,jb,1169),
 ("_law_one",0,jb,1174),
 ("_law_begin",0,jb,1179),
 ("_law_asked",0,jb,1186),
 ("_law_fits",0,jb,1193),
 ("_law_read",0,jb,1200),
 ("_law_read_begin",0,jb,1205),
 ("_law_left",0,jb,1212),
 ("_law_run",0,jb,1219),
 ("_law_fresh",0,jb,1226),
 ("law",0,jb,1233)].map V9
def fdOf(s:aQ)(i:Str×aj×aj×aj):aoa:=w1 s i.1 i.2.1 i.2.2.1 i.2.2.2
theorem V'(P:aw):mr.map (λq=>(gH P).lookup q.1)=(mr.zip uh).map λq=>ae (rZ (fdOf q.1.2.1 q.2)):=by cbv
theorem V_:mr.length=uh.length:=by decide+kernel
theorem Wa(P:aw):((mr.zip uh).all λq=>codeIn (gH P) q.2.2.2.2 q.2.1)=af:=by cbv
def Dv(K:Frag)(c:aj)(ds:List J):Bool:=match c with
 |.none=>ds.isEmpty
 |.ref a=>xh (λb=>xh (λxs=>zn K ds xs.toList) (Dl b.data)) (K.lookup a)
 |_=>ag
theorem Wb{K:Frag}{ds:List J}:∀{v:aj},Dv K v ds=af->v=.none/\ds.isEmpty=af\/∃a,v=.ref a/\xh (λo=>xh (λxs=>zn K ds xs.toList) (Dl o.data)) (K.lookup a)=af:=by
 intro v h
 induction v using anT with
 |none=>exact .inl ⟨B,h⟩
 |ref a=>exact .inr ⟨a,B,h⟩
 |_=>exact d8 h
theorem Wc(P:aw):((mr.zip uh).all λq=>Dv (gH P) q.2.2.1 q.1.2.2)=af:=by cbv
def vO(s:aQ):Arguments:=(oF s).params
noncomputable def isFun:ScopeKind->Bool|.function=>af|_=>ag
noncomputable def MS:aR->Bool|.local=>af|.cell=>af|_=>ag
def plainDef(s:aQ):Bool:=(vO s).posonlyargs.isEmpty&&(vO s).vararg.isNone&&(vO s).kwonlyargs.isEmpty&&(vO s).kwarg.isNone&&!(oL s).isGenerator&&!(oL s).isCoroutine&&isFun (oL s).kind&&
 AV ((oL s).names.map (·.1))&&(qv s).all λx=>(oL s).names.any λa=>sEq a.1 x&&MS a.2
theorem Wd:(mr.all λq=>plainDef q.2.1)=af:=by cbv
end
noncomputable def GH(P:aw):Frag:=[(1,boot_o_1 P)]
theorem We(P:aw)(e:(GH P).lookup a=ae o):(H₁ P).get? a=ae o:=by
 have m:=lookup_mem e;rw[GH,bD,Prod.mk.injEq]at m;obtain⟨rfl,rfl⟩:=m;refine(?_:(absHeap (zj P) 1235 _).get? 1=ae _);rw[abs_get (by decide) (by cbv:(zj P).get 1=ae (boot_o_1 P))]
 cbv
theorem Dw(h:kW a mr=ae (s,ds)):∃i,((a,s,ds),i)∈mr.zip uh/\∀P,(gH P).lookup a=ae (rZ (fdOf s i)):=by
 have m:=ud h;obtain⟨n,b⟩:=apM.mp m;have cv:n<uh.length:=by exact V_▸((anB.mp b).1)
 have c:(mr.zip uh)[n]?=ae ((a,s,ds),uh[n]):=by rw[apN];exact⟨b,apO cv⟩
 refine⟨uh[n],aoi c,λP=>?_⟩;have:=congrArg (λl=>l[n]?) (V' P);simp only[aoh,b,c,apL,aC.injEq]at this;exact this
noncomputable def nx{K:Type}[DecidableEq K](k:K)(u:aj):List (K×aj)->List (K×aj)
 |[]=>[(k,u)]
 |(y,v)::r=>if y=k then(y,u)::r else(y,v)::nx k u r
theorem MT{K:Type}[DecidableEq K]{k:K}{u:aj}:∀{us:List (K×aj)},k∉us.map (·.1)->us.map (λa=>if a.1=k then(a.1,u)else a)=us
 |[]=>λ_=>B
 |q::r=>λh=>by rw[aL,aI,not_or]at h;rw[aL,if_neg (λe=>h.1 e.symm),MT h.2]
set_option tactic.hygienic true in
theorem Dx{K:Type}[DecidableEq K]{k:K}{u:aj}:∀{us:List (K×aj)},(us.map (·.1)).Nodup->stored us k u=nx k u us
 |[]=>λ_=>B
 |(y,v)::r=>λO=>by
  rw[aL,bh]at O;have a:=Dx (k:=k) (u:=u) O.2;unfold stored at a⊢;dsimp only[nx];by_cases c:y=k
  .subst c;simp only[aox,decide_true,Bool.true_or,if_true,aL];rw[MT O.1]
  .simp only[aox,c,decide_false,Bool.false_or,if_false,aL];split
   .rename_i b;rw[if_pos b]at a;rw[a]
   .rename_i b;rw[if_neg b]at a;rw[<-a];rfl
theorem MU{K:Type}[DecidableEq K]{k:K}{u:aj}:∀us:List (K×aj),(nx k u us).map (·.1)=if k∈us.map (·.1)then us.map (·.1)else us.map (·.1)++[k]
 |[]=>rfl
 |(y,v)::r=>by
  dsimp only[nx];by_cases c:y=k
  .simp [c]
  .simp only[c,if_false,aL,MU r,aI,Ne.symm c,false_or];split<;>simp
set_option tactic.hygienic true in
theorem Wf{K:Type}[DecidableEq K]{k:K}{u:aj}{us:List (K×aj)}(O:(us.map (·.1)).Nodup):((nx k u us).map (·.1)).Nodup:=by
 rw[MU];split
 .exact O
 .rename_i h;rw[aoj];exact⟨O,by simp,λa d b c=>by simp only[bD]at c;subst c;exact λe=>h (e▸d)⟩
theorem MV{κ:Type}[DecidableEq κ]{p:aw}{Z:eY}{x:κ}{v:J}{u:aj}{pt:List (κ×J)->List (κ×J)}(l:pt []=[(x,v)])(n:∀e es,pt (e::es)=if e.1=x then(e.1,v)::es else e::pt es)(r:dw p Z v u):
  ∀{es:List (κ×J)}{us:List (κ×aj)},us.map (·.1)=es.map (·.1)->cX p Z (es.map (·.2)) (us.map (·.2))->(nx x u us).map (·.1)=(pt es).map (·.1)/\cX p Z ((pt es).map (·.2)) ((nx x u us).map (·.2)):=by
 intro es
 induction es with
 |nil=>
  intro us h d
  induction us using aE with
  |nil=>rw[l];exact⟨B,.cons r .nil⟩
  |cons _ _=>exact nomatch h
 |cons e es m=>
  intro us h d
  induction us using aE with
  |nil=>exact nomatch h
  |cons f us=>
   have k:f.1=e.1:=(bj.inj h).1;refine gT d λb bs g a i=>?_;have j:=m (bj.inj h).2 ((bj.inj g).2▸i);rw[show nx x u (f::us)=if f.1=x then(f.1,u)::us else(f.1,f.2)::nx x u us from B,n,k];by_cases c:e.1=x
   .rw [if_pos c,if_pos c];exact⟨congrArg (bj e.1) (bj.inj h).2,.cons r ((bj.inj g).2▸i)⟩
   .rw [if_neg c,if_neg c];exact⟨congrArg (bj e.1) j.1,.cons ((bj.inj g).1▸a) j.2⟩
theorem MW(r:dw p Z v u):∀{es:List (Str×J)}{us:List (Str×aj)},us.map (·.1)=es.map (·.1)->cX p Z (es.map (·.2)) (us.map (·.2))->
  (nx x u us).map (·.1)=(put x v es).map (·.1)/\cX p Z ((put x v es).map (·.2)) ((nx x u us).map (·.2)):=MV (pt:=put x v) B (λe es=>by show(match sEq e.1 x with|true=>(e.1,v)::es|false=>e::put x v es)=_;cases c:sEq e.1 x with|true=>rw[if_pos (kE c)]|false=>rw[if_neg (zl c)]) r
theorem Wg{x:Int}(r:dw p Z v u):∀{es:List (Int×J)}{us:List (Int×aj)},us.map (·.1)=es.map (·.1)->cX p Z (es.map (·.2)) (us.map (·.2))->
  (nx x u us).map (·.1)=(lp x v es).map (·.1)/\cX p Z ((lp x v es).map (·.2)) ((nx x u us).map (·.2)):=MV (pt:=lp x v) B (λ_ _=>B) r
theorem GI{w:aF}{Z:eY}:∀{fs:List (Str×J)}{gs:List (Str×aj)}{es:List (Str×J)}{us:List (Str×aj)},gs.map (·.1)=fs.map (·.1)->cX w.params Z (fs.map (·.2)) (gs.map (·.2))->us.map (·.1)=es.map (·.1)->cX w.params Z (es.map (·.2)) (us.map (·.2))->(us.map (·.1)).Nodup->
  (merged us gs).map (·.1)=(fs.foldl (λe q=>put q.1 q.2 e) es).map (·.1)/\cX w.params Z ((fs.foldl (λe q=>put q.1 q.2 e) es).map (·.2)) ((merged us gs).map (·.2))
 |[],gs,es,us,h,d,i,g,O=>by
  induction gs using aE with
  |nil=>exact⟨i,g⟩
  |cons _ _=>cases h
 |f::fs,gs,es,us,h,d,i,g,O=>by
  induction gs using aE with
  |nil=>cases h
  |cons c gs=>
   rw[aL,aL,bj.injEq]at h;refine gT d λb bs j a m=>?_;rw[aL,bj.injEq]at j;obtain⟨rfl,rfl⟩:=j;refine eP (MW (x:=f.1) a i g) λl o=>?_;have e:stored us c.1 c.2=nx f.1 c.2 us:=by exact h.1▸(Dx O)
   have n:((nx f.1 c.2 us).map (·.1)).Nodup:=by exact Wf O
   have k:=GI h.2 m l o n;have em:merged us (c::gs)=merged (nx f.1 c.2 us) gs:=by refine(?_:merged (stored us c.1 c.2) gs=_);rw[e]
   exact em▸k
section
variable{w:aF}{os:aM}{P Z:eY}{H:bW}{s s':aA}{env:Env}{S:Loc}{own:Bool}{A:a9}{d:Nat}
theorem Wi(c:cj w os P Z H env S own s)(h:ua a=af):∃fd,s.heap.get? a=ae (rZ fd):=by
 unfold ua at h;cases e:kW a mr with
 |none=>replace h:=e▸h;exact d8 h
 |some b=>exact c_ (Dw (s:=b.1) (ds:=b.2) e) λf _ k=>⟨_,c.lL _ _ (k w.params)⟩
theorem Wj(P:aw):kitOne (gH P) (.type "function") (.type "tuple")=ae ag:=by cbv
theorem cX.two(h:cX p Z [v,u] xs):∃x y,xs=[x,y]/\dw p Z v x/\dw p Z u y:=by refine gT h λx r f a b=>?_;obtain rfl:=f;refine c_ b.one λy e c=>?_;obtain rfl:=e;exact⟨x,y,B,a,c⟩
theorem cX.three(h:cX p Z [v,u,t] xs):∃x y z,xs=[x,y,z]/\dw p Z v x/\dw p Z u y/\dw p Z t z:=by refine gT h λx r e a b=>?_;obtain rfl:=e;refine gT (cX.two b) λy z e c d=>?_;obtain rfl:=e;exact⟨x,y,z,B,a,c,d⟩
theorem Wk{a:ai}{vs:List J}{v:J}{u:aj}{k:cZ}(e:cj w os P Z H env S own s)(r:dw w.params Z v u)(h:H a=ae (.list vs))(g:vs.length<=16000000)(i:k .none (H.set a (.list (vs++[v])))){Q:aj->aA->Prop}(f:hL w os P Z env S own k Q):
  Wp w A (bo (.builtin "list.append") [.ref a,u]) Q s:=by
 refine lZ (xj e h) λxs n b d=>?_;have cv:xs.size=vs.length:=by rw[d.length];simp
 refine call_meets PySem.F.slot_list_append (⟨_,b,B⟩) PySem.F.entry_list_append (PySem.F.args_list_append_2 ..) (PySem.list_append a xs n u (bQ▸(w6 g cv B))) ⟨b,?_⟩;refine f _ _ _ .none _ (cS.refl Z) (e.vJ (c:=a) (ao:=.list (vs++[v])) (by refine h▸?_;rfl) (λj l=>⟨.inl B,_,_,IsL.update b _,?_⟩) (aof.update ..) ⟨_,IsL.update b _⟩ B B) B i;simp only[Array.toList_push];exact d.append (.cons r .nil)
theorem Wl{a:ai}{vs:List J}{v:J}{k:cZ}(i:cj w os P Z H env S own s)(h:H a=ae (.list (vs++[v])))(m:vs.length<=16000000)(o:k v (H.set a (.list vs))){Q:aj->aA->Prop}(l:hL w os P Z env S own k Q):
  Wp w A (bo (.builtin "list.pop") [.ref a]) Q s:=by
 refine lZ (xj i h) λxs n b d=>gT (cX.split d) λg y e f j=>?_;refine c_ j.one λx p r=>?_;obtain rfl:=p;have cv:xs.size=g.length+1:=by have:=congrArg aln e;simpa using this
 have q:xs[xs.size-1]?=ae x:=by rw[<-aoN,e,cv];simp
 refine call_meets PySem.F.slot_list_pop (⟨_,b,B⟩) PySem.F.entry_list_pop (PySem.F.args_list_pop_1 _) (PySem.MeetsSeq.list_pop_last a xs n x q (by refine bQ▸?_;have:=f.length;exact c0 m (ak cv) (ak this.symm))) ⟨b,?_⟩;refine l _ _ _ v _ (cS.refl Z) (i.vJ (c:=a) (ao:=.list vs) (by rw[h];rfl) (λt u=>⟨.inl B,_,_,IsL.update b _,?_⟩) (aof.update ..) ⟨_,IsL.update b _⟩ B B) r o;have:(xs.eraseIdxIfInBounds (xs.size-1)).toList=g:=by simp[e,cv,List.eraseIdx_append_of_length_le]
 rw[this];exact f
theorem Wm{a:ai}{vs:List J}{v:J}{k:cZ}{tk:Tok}(i:cj w os P Z H env S own s)(h:H a=ae (.list (v::vs)))(l:vs.length<=16000000)(m:k v (H.set a (.list vs))){Q:aj->aA->Prop}(j:hL w os P Z env S own k Q):
  Wp w A (bo (.builtin "list.pop") [.ref a,.int 0 tk]) Q s:=by
 refine lZ (xj i h) λxs n b d=>gT d λx g e p f=>?_;have cv:xs.size=g.length+1:=by have:=congrArg aln e;simpa using this
 have o:xs[0]?=ae x:=by rw[<-aoN,e];rfl
 refine call_meets PySem.F.slot_list_pop (⟨_,b,B⟩) PySem.F.entry_list_pop (PySem.F.args_list_pop_2 ..) (PySem.MeetsSeq.list_pop_at a xs n 0 tk 0 x (by decide) (by refine cv▸?_;unfold seqIndex?;simp) o (by refine bQ▸?_;have:=f.length;exact c0 l (ak cv) (ak this.symm))) ⟨b,?_⟩;refine j _ _ _ v _ (cS.refl Z) (i.vJ (c:=a) (ao:=.list vs) (by refine h▸?_;rfl) (λq r=>⟨.inl B,_,_,IsL.update b _,?_⟩) (aof.update ..) ⟨_,IsL.update b _⟩ B B) p m;have:(xs.eraseIdxIfInBounds 0).toList=g:=by simp[e]
 rw[this];exact f
theorem MX{u:aj}{q:Int×Int}(g:cj w os P Z H env S own s)(r:dw w.params Z (.tup [.int q.1,.int q.2]) u):∃t,u=.ref t/\(∃o,Z t=ae o)/\IsTupleKey (aob dW w) s.heap [q.1,q.2] t:=by refine kV r λt o xs n e c f l h=>?_;refine gT (cX.two h) λa b k i j=>?_;obtain⟨t1,rfl⟩:=i;obtain⟨c5,rfl⟩:=j;exact⟨t,e,⟨o,c⟩,o,xs,n,g.gw c,f,l,k▸.cons (aph ..) (.cons (aph ..) .nil)⟩
theorem Dy(g:cj w os P Z H env S own s)(h:(H a).isSome=af):(a==aoJ)=ag:=by
 refine beq_eq_false_iff_ne.mpr λe=>c_ g λk f j=>?_;have i:∃b,(H₁ w.params).get? aoJ=ae b:=by obtain⟨b,c⟩:∃b,(GH w.params).lookup aoJ=ae b:=⟨_,B⟩;exact⟨b,We w.params c⟩
 obtain⟨b,c⟩:=i;have:=(f.j4 _ _ (f.base _ _ c)).1;replace this:=e▸this;replace h:=this▸h;exact d8 h
theorem Wn{a:ai}{i:J}{y:aj}{es:List ((Int×Int)×J)}{q:Int×Int}{k:cZ}(b:cj w os P Z H env S own s)(o:fK A d)(t:dw w.params Z i y)(h1:H a=ae (.ki es))(h2:i=.tup [.int q.1,.int q.2])(c:k ((nu q es).getD J.none) H){Q:aj->aA->Prop}(g:hL w os P Z env S own k Q):Wp w A (bo (.builtin "dict.get") [.ref a,y]) Q s:=by
 refine lI (MX b (h2▸t)) λv z L u=>?_;obtain rfl:=z;refine lI (b.elim λI b=>b.1.abs _ _ h1) λC f l r=>eP r λn G=>?_;have m:A.in1.units<cLine:=by have:=o.2.2;simp;exact cY this
 refine call_meetsIn PySem.F.slot_dict_get f.typeIs PySem.F.entry_dict_get (PySem.F.args_dict_get_2 ..) (meetsH_dict_get (tupleKind (aob dW w)) _ v (Dy b (by refine h1▸?_;rfl))) ⟨m,[q.1,q.2],C,u,f,?_⟩;have j:=VP (p:=w.params) (Z:=Z) q l n;cases e:nu q es with
 |none=>replace c:=e▸c;exact(j.2 e)▸(g _ _ _ .none _ (cS.refl Z) b.toks B c)
 |some h=>rw[e]at c;exact c_ (j.1 h e) λE D x=>D▸(g _ _ _ h _ (cS.refl Z) b.toks x c)
theorem Wo(b:cj w os P Z H env S own s)(q:dw w.params Z df z)(h1:H a=ae (.iM es))(c:k ((jr j es).getD df) H)(g:hL w os P Z env S own k Q):Wp w A (bo (.builtin "dict.get") [.ref a,.int j t,z]) Q s:=by
 refine lI (b.elim λv b=>b.1.abs _ _ h1) λu h l o=>call_meetsIn PySem.F.slot_dict_get h.typeIs PySem.F.entry_dict_get (PySem.F.args_dict_get_3 ..) (meets_dict_get_default (aob dW w) a (aph _ _ j t) (Dy b (by refine h1▸?_;rfl)) z) ⟨_,h.mapOf,?_⟩;have i:=MM (p:=w.params) (Z:=Z) j l o;cases e:jr j es with
 |none=>replace c:=e▸c;exact(i.2 e)▸(g _ _ _ df _ (cS.refl Z) b.toks q c)
 |some f=>rw[e]at c;exact c_ (i.1 f e) λr n m=>n▸(g _ _ _ f _ (cS.refl Z) b.toks m c)
theorem Wq{a b:ai}{es fs:List (Str×J)}{k:cZ}(g:cj w os P Z H env S own s)(h1:H a=ae (.eJ es))(h2:H b=ae (.eJ fs))(ne:a≠b)(cv:es.length+fs.length<=1000)(p:k .none (H.set a (.eJ (fs.foldl (λe q=>put q.1 q.2 e) es)))){Q:aj->aA->Prop}(x:hL w os P Z env S own k Q):Wp w A (bo (.builtin "dict.update") [.ref a,.ref b]) Q s:=by
 refine lI (g.elim λn g=>g.1.abs _ _ h1) λi h j z=>lI (g.elim λn g=>g.1.abs _ _ h2) λgs v m r=>?_;have E:i.length=es.length:=(aX (f:=ans)).symm.trans ((congrArg aln j).trans (aX _));have C:gs.length=fs.length:=(aX (f:=ans)).symm.trans ((congrArg aln m).trans (aX _));have O:(i.map (·.1)).Nodup:=by refine mn h λl ch cf eC hY M D=>iw D λI R t=>?_;exact t
 obtain⟨u,G⟩:=GI m r j z O;refine call_meetsIn PySem.F.slot_dict_update h.typeIs PySem.F.entry_dict_update (PySem.F.args_dict_update_2 ..) (meets_dict_update (strKind dW w) a b ne (Dy g (by rw[h2];rfl))) ⟨i,gs,h,v,by rw[bQ];exact c0 cv (ak E) (ak C),λN o V y=>?_⟩;exact x _ _ _ .none _ (cS.refl Z) (g.vJ (c:=a) (ao:=.eJ _) (by rw[h1];rfl) (λn L=>⟨.inl B,_,o,u,G⟩) y (let⟨l,_,_,e,_⟩:=o;⟨l,e⟩) B B) B p
set_option tactic.hygienic true in
theorem Wr(b:cj w os P Z H env S own s)(f:fK A d)(h:k (.int (if y<x then y else x)) H)(e:hL w os P Z env S own k Q):Wp w A (bo (.builtin "min") [.int x t1,.int y c5]) Q s:=by
 refine min_two_ints f.1 λg tk a=>?_;split
 .rename_i c;exact e _ _ _ (.int _) _ (cS.refl Z) (b.ext a B B) ⟨_,B⟩ (by rw[if_pos c]at h;exact h)
 .rename_i c;exact e _ _ _ (.int _) _ (cS.refl Z) (b.ext a B B) ⟨_,B⟩ (by rw[if_neg c]at h;exact h)
theorem Ws(l:cj w os P Z H env S own s)(C:fK A d)(r:cX w.params Z args xs)(h:Mj b args k H)(o:hL w os P Z env S own k Q):
  Wp w A (bo (.builtin b) xs) Q s:=by
 induction h using q2.casesOn with
 |len t n ch cf f i g=>obtain⟨x,rfl,u⟩:=(cf▸r).one;exact ch▸VL l u f i g o
 |ze t D c ch cf f i=>refine gT (cX.two (cf▸r)) λx y j u q=>?_;obtain rfl:=j;exact ch▸VW l u q f i o λa I G=>(Wi l I).elim λW E=>kia_one V7 l.lL ⟨_,E,B⟩ (Wj _) (λe=>nomatch e) G
 |min x y ch cf h=>refine gT (cX.two (cf▸r)) λx y j m p=>?_;obtain rfl:=j;obtain⟨t1,rfl⟩:=m;obtain⟨c5,rfl⟩:=p;exact ch▸Wr l C h o
 |app a t z ch cf f i g=>refine gT (cX.two (cf▸r)) λx y j m q=>?_;obtain rfl:=j;obtain rfl:=m;exact ch▸Wk l q f i g o
 |pop a t z ch cf f i g=>refine c_ ((cf▸r).one) λx M j=>?_;obtain rfl:=M;obtain rfl:=j;exact ch▸Wl l f i g o
 |Mh a t z ch cf f i g=>refine gT (cX.two (cf▸r)) λx y j m p=>?_;obtain rfl:=j;obtain rfl:=m;obtain⟨D,rfl⟩:=p;exact ch▸Wm l f i g o
 |Mi a V v X ch cf f i g=>refine gT (cX.two (cf▸r)) λx y j m q=>?_;obtain rfl:=j;obtain rfl:=m;exact ch▸Wn l C q f i g o
 |AK a N d v ch cf f g=>refine mn (cX.three (cf▸r)) λx y R m p F L=>?_;obtain rfl:=m;obtain rfl:=p;obtain⟨D,rfl⟩:=F;exact ch▸Wo l L f g o
 |upd a c v Y ch cf f i ne cv g=>refine gT (cX.two (cf▸r)) λx y j m p=>?_;obtain rfl:=j;obtain rfl:=m;obtain rfl:=p;exact ch▸Wq l f i ne cv g o
end
section
variable{w:aF}{os:aM}{A:a9}{P Z:eY}{H:bW}{s s':aA}{env:Env}{S:Loc}{d n:Nat}{own:Bool}{ck:ai->Option ai}
section
theorem MY(g:∀v u x,dw w.params Z v u->f v=ae x->∃as,Reads h u x as):∀(vs:List J)(us:List aj)(xs:List aW),cX w.params Z vs us->qr f vs=ae xs->∃as,ReadsAll h us xs as
 |[],_,_,rfl,rfl=>⟨_,.nil⟩
 |v::vs,_,xs,⟨u,us,rfl,a,b⟩,e=>by
  dsimp only[qr]at e;cases c:f v with
  |none=>rw[c]at e;exact cV e
  |some y=>
   cases i:qr f vs with
   |none=>rw[c,i]at e;exact cV e
   |some l=>rw[c,i]at e;refine gu (g v u y a c) λas j=>?_;obtain⟨bs,k⟩:=MY g vs us l b i;exact aC.inj e▸⟨_,.cons j k⟩
theorem GL{a:ai}{xs:Array aj}{n:Nat}{vs:List J}{u:aj}{F:List aW->aW}{x:aW}(mk:∀{us as},ReadsAll s.heap xs.toList us as->∃bs,Reads s.heap (.ref a) (F us) bs)
  (g:∀v u x,dw w.params Z v u->oJ H n v=ae x->∃as,Reads s.heap u x as)(c:u=.ref a)(r:cX w.params Z vs xs.toList)(h:(qr (oJ H n) vs).map F=ae x):∃as,Reads s.heap u x as:=by
 refine c_ (anA.mp h) λe b f=>?_;obtain rfl:=f;obtain⟨as,i⟩:=MY g vs _ e r b;exact c▸mk i
theorem A3(c:cj w os P Z H env S own s):∀(n:Nat)(v:J)(u:aj)(x:aW),dw w.params Z v u->oJ H n v=ae x->∃as,Reads s.heap u x as
 |0=>λv u x r h=>cV h
 |n+1=>λv u x r h=>by
  induction v using J.casesOn with
  |none=>obtain rfl:=r;exact aC.inj h▸⟨_,.none⟩
  |bool b=>obtain rfl:=r;exact aC.inj h▸⟨_,.bool b⟩
  |int o=>obtain⟨k,rfl⟩:=r;exact aC.inj h▸⟨_,.int o k⟩
  |str y=>obtain⟨k,rfl⟩:=r;exact aC.inj h▸⟨_,.str y k⟩
  |tup i=>refine kV r λa f xs m j ch cf eC hY=>?_;exact GL (λg=>⟨_,.tuple (c.gw ch) cf eC g⟩) (A3 c n) j hY h
  |lst i=>refine kV r λa f xs m j ch cf eC hY=>?_;exact GL (λg=>⟨_,.list (c.gw ch) cf eC g⟩) (A3 c n) j hY h
  |ref a=>
   have h:(match H a with|some (.list i)=>(qr (oJ H n) i).map .list|_=>ah)=ae x:=h;generalize e:H a=f at h
   induction f using a_ with
   |none=>exact cV h
   |some f=>
    induction f using hg.casesOn with
    |list i=>exact lZ (xj c e) λxs m l g=>GL (λp=>⟨_,.list l B B p⟩) (A3 c n) r g h
    |_=>exact cV h
  |_=>exact cV h
theorem Wt(h:(match x,y with|some x,ae y=>if SeqAt.shaped x&&SeqAt.shaped y then ae (x.eqv y)else ah|_,_=>ah)=ae e):∃a b,x=ae a/\y=ae b/\(if SeqAt.shaped a&&SeqAt.shaped b then ae (a.eqv b)else ah)=ae e:=by
 induction x using a_ with
 |none=>exact cV h
 |some x=>induction y using a_ with
  |none=>exact cV h
  |some y=>exact⟨x,y,B,B,h⟩
theorem Wu(g:cj w os P Z H env S own s)(j:fK A d)(r:dw w.params Z a u)(k:dw w.params Z b v)(h:vA H a b=ae c):
  (Q (.bool c) s->Wp w A (anv .Eq u v) Q s)/\(Q (.bool (!c)) s->Wp w A (anv .NotEq u v) Q s):=by
 refine gT (Wt h) λx y ce l h=>?_;by_cases hs:(SeqAt.shaped x&&SeqAt.shaped y)=af
 .obtain rfl:=aC.inj ((if_pos hs).symm.trans h);replace hs:=(aP ..).mp hs;refine aB (A3 g 6 a u x r ce) λas e=>aB (A3 g 6 b v y k l) λbs f=>?_;have i:A.units+64<cLine:=cY j.2.2;exact⟨eq_dataH e f hs.1 hs.2 i,ne_dataH e f hs.1 hs.2 i⟩
 .exact cV ((if_neg hs).symm.trans h)
theorem Wv(h:strsOf us=ae l):us=l.map .str:=by
 induction us generalizing l with
 |nil=>cases h;rfl
 |cons a us c=>
  induction a using J.casesOn with
  |str y=>refine c_ (anA.mp (h:(strsOf us).map (λl=>y::l)=ae l)) λf b e=>?_;obtain rfl:=e;refine(c b)▸?_;rfl
  |_=>exact cV h
theorem MZ:∀{l:List Str}{xs:List aj},cX w.params Z (l.map .str) xs->ReadsAll h xs (l.map .str) []
 |[],xs,r=>by cases r;exact .nil
 |y::l,xs,r=>by refine gT r λx f e c b=>?_;obtain rfl:=e;obtain⟨a,rfl⟩:=c;exact .cons (as:=[]) (.str y a) (MZ b)
theorem countIn_strs(x:Str):∀l:List Str,0<=aoO (.str x) (l.map .str)/\(aoO (.str x) (l.map .str)≠0↔l.any (sEq x)=af)
 |[]=>⟨by refine(?_:(0:Int)<=0);exact aH _,by refine(?_:(0:Int)≠0↔ag=af);simp⟩
 |y::l=>by
  refine eP (countIn_strs x l) λa f=>?_;have e:aoO (.str x) ((y::l).map .str)=(if(y==x)=af then 1 else 0)+aoO (.str x) (l.map .str):=B;rw[e,aox];cases c:sEq x y with
  |true=>
   have:(y==x)=af:=by exact(kE c)▸(beq_self_eq_true _)
   rw[if_pos this];exact⟨by exact g4 a,by simp;lia⟩
  |false=>have:¬(y==x)=af:=λb=>zl c (eq_of_beq b).symm;rw[if_neg this];exact⟨by exact g4 a,by rw[Bool.false_or];rw[<-f];simp+arith⟩
theorem M0:∀{l:List Str},l.all aW.strOk=af->aps (l.map .str)=af
 |[]=>λ_=>B
 |y::l=>λh=>by rw[List.all_cons,aP]at h;simp only[aL,aps,aW.canLay0,h.1,M0 h.2,Bool.and_self]
theorem M1:∀(l:List Str),aoP (l.map .str)<=1
 |[]=>by show 0<=1;exact cn B
 |y::l=>by have:=M1 l;simp only[aL,aoP,aW.depth];exact this
theorem oP{u v:aj}{e a:Bool}(h:ae a=ae e)(p:plainIs u v=af)(q:(u==v)=a):plainIs u v=af/\(u==v)=e:=⟨p,q.trans (aC.inj h)⟩
theorem Ww(r:dw p Z a u)(h:mu a .none=ae e):plainIs u .none=af/\(u==.none)=e:=by
 induction a using J.casesOn with
 |blt f=>exact cV h
 |int f=>obtain⟨g,rfl⟩:=r;exact oP h B B
 |str f=>obtain⟨g,rfl⟩:=r;exact oP h B B
 |tup c=>refine t8 r λ_ _ _ _ b _=>?_;obtain rfl:=b;exact oP h B B
 |lst c=>refine t8 r λ_ _ _ _ b _=>?_;obtain rfl:=b;exact oP h B B
 |jA i c=>refine r2 r λ_ _ _ j _=>?_;obtain rfl:=j;exact oP h B B
 |obj k i c=>refine t8 r λ_ _ _ _ b _=>?_;obtain rfl:=b;exact oP h B B
 |_=>obtain rfl:=r;exact oP h B B
theorem Wx(r:dw p Z a u)(h:mu a (.bool y)=ae e):plainIs u (.bool y)=af/\(u==.bool y)=e:=by
 induction a using J.casesOn with
 |blt f=>exact cV h
 |typ f=>exact cV h
 |bool x=>obtain rfl:=r;exact oP h B (by induction x using aS<;>cases y<;>rfl)
 |int f=>obtain⟨g,rfl⟩:=r;exact oP h B B
 |str f=>obtain⟨g,rfl⟩:=r;exact oP h B B
 |tup c=>refine t8 r λ_ _ _ _ b _=>?_;obtain rfl:=b;exact oP h B B
 |lst c=>refine t8 r λ_ _ _ _ b _=>?_;obtain rfl:=b;exact oP h B B
 |jA i c=>refine r2 r λ_ _ _ j _=>?_;obtain rfl:=j;exact oP h B B
 |obj k i c=>refine t8 r λ_ _ _ _ b _=>?_;obtain rfl:=b;exact oP h B B
 |_=>obtain rfl:=r;exact oP h B B
theorem Dz(r:dw p Z a u)(c:dw p Z b v)(h:mu a b=ae e):plainIs u v=af/\(u==v)=e:=by
 induction b using J.casesOn with
 |none=>obtain rfl:=c;exact Ww r h
 |bool y=>obtain rfl:=c;exact Wx r h
 |_=>exact cV h
theorem Wy(h:zb a b f=ae c):∃x y,a=.int x/\b=.int y/\f x y=c:=by
 induction a using J.casesOn with
 |int x=>induction b using J.casesOn with
  |int y=>exact⟨x,y,B,B,aC.inj h⟩
  |_=>exact cV h
 |_=>exact cV h
theorem DA(k:∀{x y t e},Q (.bool (f x y)) s->Wp w A (anv op (.int x t) (.int y e)) Q s)(r:dw w.params Z a u)(i:dw w.params Z b v)(h:zb a b f=ae c)(j:Q (.bool c) s):Wp w A (anv op u v) Q s:=by refine gT (Wy h) λx y m l g=>?_;obtain rfl:=m;obtain rfl:=l;obtain rfl:=g;obtain⟨t,rfl⟩:=r;obtain⟨e,rfl⟩:=i;exact k j
theorem WA{x y:Option dj}{D:Option Bool}{e:Bool}(h:(match x,y with|some (.li vs),ae (.li us)=>if vs.length=us.length then D else ae ag|_,_=>D)=ae e):D=ae e\/∃vs us,x=ae (.li vs)/\y=ae (.li us)/\vs.length≠us.length/\e=ag:=by
 induction x using a_ with
 |none=>exact .inl h
 |some x=>induction x using dj.casesOn with
  |cb _=>exact .inl h
  |li vs=>induction y using a_ with
   |none=>exact .inl h
   |some y=>induction y using dj.casesOn with
    |cb _=>exact .inl h
    |li us=>
     by_cases n:vs.length=us.length
     .exact .inl ((if_pos n).symm.trans h)
     .exact .inr ⟨vs,us,B,B,n,(aC.inj ((if_neg n).symm.trans h)).symm⟩
theorem M2{a b:J}{u v:aj}{e:Bool}(c:cj w os P Z H env S own s)(q:fK A d)(r:dw w.params Z a u)(t:dw w.params Z b v)(h:kk H a b=ae e){Q:aj->aA->Prop}:(Q (.bool e) s->Wp w A (anv .Eq u v) Q s)/\(Q (.bool (!e)) s->Wp w A (anv .NotEq u v) Q s):=by
 refine(WA h).elim (λh=>Wu c q r t h) λh=>y' h λN R E M ne h=>?_
 .obtain rfl:=h
  .refine kV (r8 c r E) λx l xs n g j i p I=>?_;obtain rfl:=g;refine kV (r8 c t M) λy C G z g D m k F=>?_;obtain rfl:=g;have kZ:(xs.size !=G.size)=af:=bne_iff_ne.mpr λL=>ne (I.length.trans (L.trans F.length.symm));have o:A.units<cLine:=apt (bq _ 65) (cY q.2.2);exact⟨λf=>SeqAt.RcAt.lists_lengths ⟨l,j,i,n,p⟩ ⟨C,D,m,z,k⟩ kZ o dW w _ _ f,λf=>SeqAt.RcNeAt.lists_lengths ⟨l,j,i,n,p⟩ ⟨C,D,m,z,k⟩ kZ o dW w _ _ f⟩
theorem GM(h:(a&&b)=af):a=af/\b=af:=(aP ..).mp h
theorem M3(h:a=af)(q:b=af):(a&&b)=af:=(aP ..).mpr ⟨h,q⟩
theorem M4(key:(∀v,look x es=ae v->∃u,bO us x=ae u/\dw p Z v u)/\(look x es=ah->bO us x=ah)):(bO us x).isSome=(look x es).isSome:=by
 cases a:look x es with
 |none=>refine(key.2 a)▸?_;rfl
 |some y=>refine c_ (key.1 y a) λb e _=>?_;refine e▸?_;rfl
theorem M5(x:Str)(l:List Str):decide (aoO (.str x) (l.map .str)≠0)=l.any (sEq x):=by
 have:=(countIn_strs x l).2;cases a:l.any (sEq x)with
 |true=>exact decide_eq_true (this.mpr a)
 |false=>exact decide_eq_false λe=>anS ((this.mp e).symm.trans a)
theorem M6(m:s.heap.MapOf (strKind dW w) a (bO A1))(nm:(a==aoJ)=ag)(ee:(bO A1 x).isSome=e):((∀tk,Q (.bool e) {s with toks:=tk})->Wp w A (anv .In (.str x t) (.ref a)) Q s)/\((∀tk,Q (.bool (!e)) {s with toks:=tk})->Wp w A (anv .NotIn (.str x t) (.ref a)) Q s):=
 ⟨λb=>wpAny_in_of (aoI dW w x t) nm m (ee▸b _),λb=>wpAny_notIn_of (aoI dW w x t) nm m (ee▸b _)⟩
theorem M7(f:cj w os P Z H env S own s)(V:fK A d)(r:dw w.params Z a u)(G:dw w.params Z b v)(h:oK H a b=ae e):((∀tk,Q (.bool e) {s with toks:=tk})->Wp w A (anv .In u v) Q s)/\((∀tk,Q (.bool (!e)) {s with toks:=tk})->Wp w A (anv .NotIn u v) Q s):=by
 induction a using J.casesOn with
 |str x=>
  obtain⟨N,rfl⟩:=r
  induction b using J.casesOn with
  |tup R=>
   refine c_ (Option.bind_eq_some_iff.mp h) λl cv z=>?_;clear h;obtain rfl:=Wv cv;by_cases i:((x::l).all aW.strOk)=af
   .rw [if_pos i]at z;obtain rfl:=aC.inj z;refine kV G λa q xs n Y j c g D=>?_;obtain rfl:=Y;have i:=GM i;have s1:SeqAt.shaped (.tuple (l.map .str))=af:=M3 (M0 i.2) (decide_eq_true (ano (aq (M1 l) (cn B:1<=63))));have s2:SeqAt.shaped (.str x)=af:=M3 i.1 (decide_eq_true (cn B));have M:∀y∈l.map aW.str,SeqAt.noMix y (.str x)=af:=λy ao=>(bC.mp ao).elim λa1 t=>t.2▸B;have L:Reads s.heap (.ref a) (.tuple (l.map .str)) []:=.tuple (f.gw j) c g (MZ D);have I:A.units+65<cLine:=cY V.2.2;exact⟨λE=>in_tuple_dataH L (.str x N) s1 s2 I M (M5 x l▸E s.toks),λE=>notIn_tuple_dataH L (.str x N) s1 s2 I M (M5 x l▸E s.toks)⟩
   .rw [if_neg i]at z;exact cV z
  |jA o C=>
   obtain rfl:=aC.inj h;refine AF G λa k m X j c g D W=>?_;obtain rfl:=X;have F:o.length=C.length:=by have:=g.length;rw[this];simp[c.length]
   have ap:=Dt (p:=w.params) (Z:=Z) x (es:=o.zip C) (us:=o.zip (k.map (·.val))) (by rw[anV (by simp[c.length]),anV (ak F)]) (by rw[aoQ (ak F.symm),aoQ (by simp[c.length])];exact g);exact M6 (hJ.dictOf (w:=w) c D (f.gw j)).mapOf (beq_eq_false_iff_ne.mpr λe=>absurd (e▸W) (by decide)) ((M4 ap).trans (congrArg Option.isSome (GF x o C F).symm))
  |ref y=>
   have h:(match H y with|some (.eJ k)=>ae (look x k).isSome|_=>ah)=ae e:=h;generalize t:H y=q at h
   induction q using a_ with
   |none=>exact cV h
   |some q=>
    induction q using hg.casesOn with
    |eJ k=>obtain rfl:=aC.inj h;obtain rfl:=G;exact lI (f.elim λck f=>f.1.abs _ _ t) λR j c g=>M6 j.mapOf (Dy f (by refine t▸?_;rfl)) (M4 (Dt (p:=w.params) (Z:=Z) x c g))
    |_=>exact cV h
  |_=>exact cV h
 |_=>exact cV h
theorem DC(h:o.map (!·)=ae c):o=ae (!c):=by
 induction o using a_ with
 |none=>exact cV h
 |some e=>exact congrArg ae ((Bool.not_not e).symm.trans (congrArg (!·) (aC.inj h)))
theorem DD(g:cj w os P Z H env S own s)(i:fK A d)(r:dw w.params Z a u)(e:dw w.params Z b v)(h:cp op a b k H)
  (l:∀c tk,cj w os P Z H env S own {s with toks:=tk}->k c H->Q (.bool c) {s with toks:=tk}):Wp w A (anv op u v) Q s:=by
 obtain⟨c,f,m⟩:=h;have fin:∀tk,Q (.bool c) {s with toks:=tk}:=λtk=>l c tk g.toks m;have j:∀tk,Q (.bool (!!c)) {s with toks:=tk}:=λtk=>(Bool.not_not c).symm▸fin tk;clear m l
 induction op using CmpOp.casesOn with
 |Is=>exact wpAny_is_plain (Dz r e f).1 ((Dz r e f).2.symm▸fin s.toks)
 |IsNot=>exact wpAny_isNot_plain (Dz r e (DC f)).1 ((Dz r e (DC f)).2.symm▸j s.toks)
 |Eq=>exact(M2 g i r e f).1 (fin s.toks)
 |NotEq=>exact(M2 g i r e (DC f)).2 (j s.toks)
 |In=>exact(M7 g i r e f).1 fin
 |NotIn=>exact(M7 g i r e (DC f)).2 j
 |Lt=>exact DA lt_int r e f (fin s.toks)
 |LtE=>exact DA le_int r e f (fin s.toks)
 |Gt=>exact DA gt_int r e f (fin s.toks)
 |GtE=>exact DA ge_int r e f (fin s.toks)
end
section
theorem cj.fr(b:cj w os P Z H env S own s):∃m,Fr (H₁ w.params) env.locals s.heap m:=by exact c_ b λck c a=>c_ a.names λm N n=>⟨m,N,c.Gs,by rw[MH];exact a.up⟩
theorem cj.WB(j:cj w os P Z H env S own s)(F:Fr (H₁ w.params) env.locals h' m)(h:Fr (H₁ w.params) env.locals s.heap m)(N:News (H₁ w.params) env.locals h' ((a,o)::others (H₁ w.params) s.heap [env.locals]))
  (h0:s.heap.get? a=ah)(n:∀ck,h'.get? a=ae o->n_ w Z ck h' a ao):
  H a=ah/\cj w os P Z (H.set a ao) env S own {s with heap:=h',toks:=tk}:=by
 refine j.U7 (λb x k e=>?_) (λp i=>?_) B B h0 λck=>n ck (N _ (.head _)).1
 .cases f:(H₁ w.params).get? b with
  |some y=>have:=h.keep _ _ f;replace this:=e▸this;cases this;exact F.keep _ _ f
  |none=>exact(N (b,x) (.tail _ (Dq.mpr ⟨⟨by simp[k],f⟩,e⟩))).1
 .refine mn h.ns λt u z ch cf eC hY=>mn i λC v r g c q l=>?_;replace g:=ch▸g;cases g;replace c:=cf▸c;cases c;have:p=m:=funext λx=>(l x).symm.trans (hY x);exact this▸F.ns
set_option tactic.hygienic true in
theorem WC(h1:-100000000<=x)(h2:x<=100000000):bP.Int.intBits x<=64:=by
 unfold bP.Int.intBits;split
 .exact cn B
 .rename_i ne;have:x.natAbs.log2<27:=(Nat.log2_lt (by intro e;exact ne (by rw[beq_iff_eq];(simp+arith at e⊢;exact e)))).mpr (by lia);exact apu this (cn B)
theorem WD(c:cj w os P Z H env S own s)(b7:fK A d)(r:dw w.params Z a u)(j:dw w.params Z b v)(h:d4 op a b k H)(g:hL w os P Z env S own k Q):
  Wp w A (binaryOp op u v) Q s:=by
 induction h using qt.casesOn with
 |add x y e ch cf h=>obtain⟨o,rfl⟩:=ch▸r;obtain⟨p,rfl⟩:=cf▸j;exact e▸add_int (g _ _ _ (.int _) _ (cS.refl Z) c.toks ⟨_,B⟩ h)
 |sub x y e ch cf h=>obtain⟨o,rfl⟩:=ch▸r;obtain⟨p,rfl⟩:=cf▸j;exact e▸sub_int (g _ _ _ (.int _) _ (cS.refl Z) c.toks ⟨_,B⟩ h)
 |mul x y e ch cf f i a2=>obtain⟨o,rfl⟩:=ch▸r;obtain⟨p,rfl⟩:=cf▸j;exact e▸mul_int (g _ _ _ (.int _) _ (cS.refl Z) c.toks ⟨_,B⟩ a2) (IntMulOk.of_left (WC f i))
 |div x y e ch cf f i l=>obtain⟨o,rfl⟩:=ch▸r;obtain⟨p,rfl⟩:=cf▸j;exact e▸floordiv_int (Ne.symm (Int.ne_of_lt f)) (g _ _ _ (.int _) _ (cS.refl Z) c.toks ⟨_,B⟩ l) (.inl (PyProof.noPylong_small (by lia)))
 |mod x y e ch cf f i l=>obtain⟨o,rfl⟩:=ch▸r;obtain⟨p,rfl⟩:=cf▸j;exact e▸mod_int' (Ne.symm (Int.ne_of_lt f)) (g _ _ _ (.int _) _ (cS.refl Z) c.toks ⟨_,B⟩ l)
 |str x y e ch cf f i=>refine gu (ch▸r) λo z=>?_;obtain rfl:=z;refine gu (cf▸j) λp z=>?_;obtain rfl:=z;exact e▸add_str (λb5 tk=>g _ _ _ (.str _) _ (cS.refl Z) c.toks ⟨_,B⟩ i) (by rw[bQ];exact fa f B)
 |lst q G e f i l bV=>refine kV (r8 c r f) λx R xs n t M I X F=>?_;obtain rfl:=t;refine kV (r8 c j i) λy bZ E bY t b2 V N D=>?_;obtain rfl:=t;obtain⟨m,C⟩:=c.fr;have bd:q.length=xs.toList.length:=F.length;have a1:G.length=E.toList.length:=D.length;refine e▸add_lists (vs:=xs.toList) (ws:=E.toList) C (MI (xs:=[env.locals]) (.head _)) ⟨R,M,I,n,X⟩ ⟨bZ,b2,V,bY,N⟩ (λca L W=>?_) (by rw[bQ];exact c0 l (ak bd.symm) (ak a1.symm));exact eP (c.WB (ao:=.list (q++G)) (tk:=s.toks) L C W (vG _) λck Y=>⟨_,0,Y,by have:=F.append D;simpa[lq]using this⟩) λe ap=>g _ _ _ (.ref _) _ (cS.refl Z) ap B (bV _ e)
theorem A5(hs:∀l u st p,sl≠.Slice l u st p)(o i:aj):subscripted sl ag o i=operate [o,i] (getItem o i):=by induction sl using aT<;>first|rfl|exact absurd rfl (hs _ _ _ _)
set_option tactic.hygienic true in
theorem WF(h:idx n j=ae i):seqIndex? j n=ae i:=by
 unfold idx at h;unfold seqIndex?;dsimp only;split at h
 .rename_i a;split at h
  .rename_i b;cases h;have e:(if j<0 then j+(n:Int)else j)=j:=if_neg (Int.not_lt.mpr a);rw[e,if_pos (by simp[a,b])]
  .exact cV h
 .rename_i a;split at h
  .rename_i b;cases h;have e:(if j<0 then j+(n:Int)else j)=j+n:=if_pos (g4 (Int.lt_of_not_ge a));have c:j+(n:Int)<n:=by exact g4 (Int.lt_of_not_ge a)
   rw[e,if_pos (by simp[b,c])]
  .exact cV h
theorem WG(h:Gg o i=ae v):∃a vs j,o=.jA a vs/\i=.str j/\pD j a vs=ae v:=by
 induction o using J.casesOn with
 |jA a vs=>induction i using J.casesOn with
  |str j=>exact⟨a,vs,j,B,B,h⟩
  |_=>exact cV h
 |_=>exact cV h
theorem M'(h:idx n j=ae i):(0<=j/\j<n/\i=j.toNat)\/(j<0/\0<=j+n/\i=(j+n).toNat):=by
 unfold idx at h;by_cases b:0<=j
 .rw [if_pos b]at h;by_cases a:j<n
  .rw [if_pos a]at h;exact .inl ⟨b,a,(aC.inj h).symm⟩
  .rw [if_neg a]at h;exact cV h
 .rw [if_neg b]at h;by_cases a:0<=j+n
  .rw [if_pos a]at h;exact .inr ⟨Int.not_le.mp b,a,(aC.inj h).symm⟩
  .rw [if_neg a]at h;exact cV h
theorem M_{j:Int}{n:Nat}(cv:n<=16000000)(c:j<n):j<2^63:=Int.lt_of_lt_of_le c (bg (bJ.mpr cv) (by decide))
theorem Na{j:Int}{n:Nat}(cv:n<=16000000)(c:0<=j+n):-2^63<=j:=bg (by decide:(-2^63:Int)<=-16000000) (h9 c (bJ.mpr cv))
theorem DE{n i:Nat}{j:Int}(hs:∀l u st p,sl≠.Slice l u st p)(c:s.heap.get? x=ae o)(a:o.cls=.type (Ds q))(f:o.data=.seq xs n)(cv:xs.size<=16000000)(hi:idx xs.size j=ae i)(h:xs[i]?=ae z)(fin:Q z s):Wp w A (subscriptTail value sl (.ref x) (.int j t)) Q s:=by
 induction q using dj.casesOn with
 |li k=>
  refine tail_any (T:="list") ⟨o,c,a⟩ slot_list_getitem.lookup ?_ (A5 hs ..);rcases M' hi with⟨g,e,rfl⟩|⟨g,e,rfl⟩
  .exact wpAny_getItem_list ⟨o,c,a,n,f⟩ g (M_ cv e) h fin
  .exact wpAny_getItem_list_neg ⟨o,c,a,n,f⟩ g (g4 e) (Na cv e) h fin
 |cb k=>refine tail_any (T:="tuple") ⟨o,c,a⟩ slot_tuple_getitem.lookup ?_ (A5 hs ..);have b:(-2^63:Int)<=j/\j<(2^63:Int):=(M' hi).elim (λq=>⟨bg (by decide) q.1,M_ cv q.2.1⟩) λq=>⟨Na cv q.2.1,Int.lt_trans q.1 (by decide)⟩;exact getItem_tuple (j:=i) ⟨o,c,a,n,f⟩ b.1 b.2 (WF hi) h fin
theorem WH(hs:∀l u st p,sl≠.Slice l u st p)(c:cj w os P Z H env S own s)(r:dw w.params Z a u)(L:dw w.params Z b v)(h:cF a b k H)(G:hL w os P Z env S own k Q):
  Wp w A (subscriptTail value sl u v) Q s:=by
 induction h using zc.casesOn with
 |seq bZ g ao y e ch cv V bd q=>
  refine kV (r8 c r e) λx bY xs n a1 i f j I=>?_;obtain rfl:=a1;refine gu (ch▸L) λC a2=>?_;obtain rfl:=a2;refine c_ (I.get bd) λD t z=>?_;have Y:xs[ao]?=ae D:=by exact aoN▸t
  have fin:Q D s:=G _ _ _ y _ (cS.refl Z) c z q;rw[I.length.trans aoy]at V cv;exact DE hs i f j cv V Y fin
 |iM a F g y e ch cf o q=>obtain rfl:=e▸r;obtain⟨C,rfl⟩:=ch▸L;obtain⟨W,i,f,j⟩:=c.elim λck c=>c.1.abs _ _ cf;obtain⟨D,t,z⟩:=(MM (p:=w.params) (Z:=Z) g f j).1 y o;exact tail_any (T:="dict") i.typeIs slot_dict_getitem.lookup (wpAny_getItem_of (aph dW w g C) i.mapOf t (G _ _ _ y _ (cS.refl Z) c.toks z q)) (A5 hs ..)
 |eJ a F g y e ch cf o q=>obtain rfl:=e▸r;obtain⟨C,rfl⟩:=ch▸L;obtain⟨W,i,f,j⟩:=c.elim λck c=>c.1.abs _ _ cf;obtain⟨D,t,z⟩:=(Dt (p:=w.params) (Z:=Z) g f j).1 y o;exact tail_any (T:="dict") i.typeIs slot_dict_getitem.lookup (wpAny_getItem_of (aoI dW w g C) i.mapOf t (G _ _ _ y _ (cS.refl Z) c.toks z q)) (A5 hs ..)
 |jA y o q=>
  refine mq (WG o) λE M g N=>iw N λe ch o=>?_;refine mn (e▸r) λa F m ap i f N=>iw N λj I b2=>?_;obtain rfl:=ap;obtain⟨C,rfl⟩:=ch▸L;have X:=hJ.dictOf (w:=w) f I (c.gw i);have R:E.length=M.length:=by have:=j.length;rw[this];simp[f.length]
  have bV:=Dt (p:=w.params) (Z:=Z) g (es:=E.zip M) (us:=E.zip (F.map (·.val))) (by rw[anV (by simp[f.length]),anV (ak R)]) (by rw[aoQ (Tm R),aoQ (by simp[f.length])];exact j);exact c_ (bV.1 y (GF g E M R▸o)) λD t z=>tail_any (T:="dict") X.typeIs slot_dict_getitem.lookup (wpAny_getItem_of (aoI dW w g C) X.mapOf t (G _ _ _ y _ (cS.refl Z) c.toks z q)) (A5 hs ..)
end
section
theorem Array.WI(xs:Array aj)(n:Nat)(v:aj):(xs.setIfInBounds n v).toList=xs.toList.set n v:=by simp
theorem Nb(r:dw p Z v u):∀{es:List ((Int×Int)×J)}{xs:List (List Int×ai×aj)},xs.map (·.1)=es.map (λq=>[q.1.1,q.1.2])->cX p Z (es.map (·.2)) (xs.map (·.2.2))->(xs.map (·.1)).Nodup->
  (anP xs [q.1,q.2] t u).map (·.1)=(r5 q v es).map (λq=>[q.1.1,q.1.2])/\cX p Z ((r5 q v es).map (·.2)) ((anP xs [q.1,q.2] t u).map (·.2.2))
 |[],xs,h,d,O=>by
  induction xs using aE with
  |nil=>exact⟨B,.cons r .nil⟩
  |cons _ _=>cases h
 |(y,w)::es,xs,h,d,O=>by
  induction xs using aE with
  |nil=>cases h
  |cons x xs=>
   rw[aL,aL,bj.injEq]at h;rw[aL,bh]at O;refine gT d λb bs j a i=>?_;rw[aL,bj.injEq]at j;obtain⟨rfl,rfl⟩:=j;refine eP (Nb (q:=q) (t:=t) r h.2 i O.2) λm o=>?_;obtain⟨l,f,g⟩:=x;obtain rfl:l=[y.1,y.2]:=h.1;by_cases c:y=q
   .subst c;have e:anP (([y.1,y.2],f,g)::xs) [y.1,y.2] t u=([y.1,y.2],f,u)::xs:=by unfold anP;rw[if_pos (by unfold atKey;simp),aL];rw[map_putAt_of_not_mem xs _ u O.1];simp[putAt]
    refine e▸?_;dsimp only[r5];simp only[if_true];exact⟨by simp[h.2],.cons r i⟩
   .have ne:¬([y.1,y.2]=[q.1,q.2]):=λe=>c (by simp at e;exact Prod.ext e.1 e.2);have e:anP (([y.1,y.2],f,g)::xs) [q.1,q.2] t u=([y.1,y.2],f,g)::anP xs [q.1,q.2] t u:=by
     have k:atKey (([y.1,y.2],f,g)::xs) [q.1,q.2]=atKey xs [q.1,q.2]:=by unfold atKey;rw[apq];simp[ne]
     unfold anP;refine k▸?_;split
     .rw [aL];simp only[putAt,ne,if_false]
     .rfl
    refine e▸?_;dsimp only[r5];simp only[c,if_false];exact⟨by simp[m],.cons a o⟩
theorem WJ{xs:List (List Int×ai×aj)}{k:List Int}{t:ai}{u:aj}{Z:eY}(h:∀x∈xs,(Z x.2.1).isSome=af)(b:(Z t).isSome=af):∀x∈anP xs k t u,(Z x.2.1).isSome=af:=by
 intro x ce;unfold anP at ce;split at ce
 .refine c_ (bC.mp ce) λy a c=>?_;obtain rfl:=c;unfold putAt;split
  .exact h y a
  .exact h y a
 .rcases bn.mp ce with ce|ce
  .exact h x ce
  .exact (bD.mp ce)▸b
theorem WK{a b y:J}{u v z:aj}{k:bT}(g:cj w os P Z H env S own s)(cc:fK A d)(r:dw w.params Z a u)(V:dw w.params Z b v)(W:dw w.params Z y z)(h:lJ a b y k H){Q:Unit->aA->Prop}
  (R:∀a2 s',cj w os P Z a2 env S own s'->k a2->Q () s'):Wp w A (setItem u v z) Q s:=by
 induction h using zd.casesOn with
 |list x b7 C fc ch e D p ap ci=>obtain rfl:=fc▸r;refine lZ (xj g e) λxs n X bV=>?_;refine gu (ch▸V) λq t=>?_;obtain rfl:=t;have cv:xs.size=b7.length:=(bV.length.trans aoy).symm;refine ki_setAt (n:=n) X D (by lia) (cv▸p) (R _ _ (g.vJ (c:=x) (ao:=.list _) (by rw[e];rfl) (λck Y=>⟨.inl B,_,_,IsL.update X _,?_⟩) (aof.update ..) ⟨_,IsL.update X _⟩ B B) ci);rw[Array.WI];exact bV.set _ W
 |eJ x F C fc ch e D p=>
  obtain rfl:=fc▸r;obtain⟨o,l,j,I⟩:=g.elim λck g=>g.1.abs _ _ e;refine gu (ch▸V) λq t=>?_;obtain rfl:=t;have O:(o.map (·.1)).Nodup:=by refine AF l λi ch cf eC hY bY a1 b2 E=>?_;exact E
  have L:o.length=F.length:=(aX (f:=ans)).symm.trans ((congrArg aln j).trans (aX _));obtain⟨G,M⟩:=Dx (u:=z) O▸MW (x:=C) W j I;exact wpAny_setItem_pairs (aoI dW w C q) l (λbZ m N=>R _ _ (g.vJ (c:=x) (ao:=.eJ _) (by rw[e];rfl) (λck Y=>⟨.inl B,_,m,G,M⟩) N (let⟨i,_,_,e,_⟩:=m;⟨i,e⟩) B B) p) (bQ▸(w6 D L B))
 |iM x F C fc ch e D p=>
  obtain rfl:=fc▸r;obtain⟨o,l,j,I⟩:=g.elim λck g=>g.1.abs _ _ e;refine gu (ch▸V) λq t=>?_;obtain rfl:=t;have O:(o.map (·.1)).Nodup:=by refine AF l λi ch cf eC hY bY a1 b2 E=>?_;exact E
  have L:o.length=F.length:=(aX (f:=ans)).symm.trans ((congrArg aln j).trans (aX _));obtain⟨G,M⟩:=Dx (u:=z) O▸Wg (x:=C) W j I;exact wpAny_setItem_pairs (aph dW w C q) l (λbZ m N=>R _ _ (g.vJ (c:=x) (ao:=.iM _) (by rw[e];rfl) (λck Y=>⟨.inl B,_,m,G,M⟩) N (let⟨i,_,_,e,_⟩:=m;⟨i,e⟩) B B) p) (bQ▸(w6 D L B))
 |ki x F bd fc ch e p ap=>
  obtain rfl:=fc▸r;refine lI (MX g (ch▸V)) λq t cb cd=>?_;obtain rfl:=t;refine gu cb λi cg=>?_;refine tc (g.elim λck g=>g.1.abs _ _ e) λo l j I ca=>?_;have b5:A.in1.units<cLine:=by have:=cc.2.2;simp;exact cY this
  have O:(o.map (·.1)).Nodup:=by refine AF l λi ch cf eC hY bY a1 b2 E=>?_;exact E
  have L:o.length=F.length:=(aX (f:=ans)).symm.trans ((congrArg aln j).trans (aX _));exact eP (Nb (q:=bd) (t:=q) W j I O) λG M=>wpAny_setItem_heap (knd:=tupleKind (aob dW w)) b5 cd l (λbZ m N=>R _ _ (g.vJ (c:=x) (ao:=.ki _) (by rw[e];rfl) (λck Y=>⟨.inl B,_,m,G,M,WJ ca (by refine cg▸?_;rfl)⟩) N (let⟨i,_,_,e,_⟩:=m;⟨i,e⟩) B B) ap) (bQ▸(w6 p L B))
theorem WL(e:cj w os P Z H env S own s)(M:fK A d)(r:cX w.params Z args xs)(h:Mk b args k H)(f:hL w os P Z env S own k Q):
  Wp w A (bo (.type b) xs) Q s:=by
 induction h using w_.casesOn with
 |int b ch cf h=>obtain⟨x,rfl,rfl⟩:=(cf▸r).one;exact ch▸call_int_bool (f _ _ _ (.int _) _ (cS.refl Z) e.toks ⟨_,B⟩ h)
 |str y ch cf u z j=>
  refine c_ ((cf▸r).one) λx t E=>?_;obtain rfl:=t;obtain⟨V,rfl⟩:=E;refine ch▸PySem.P.str_of_int ?_ (f _ _ _ (.str _) _ (cS.refl Z) e.toks ⟨_,B⟩ j);by_cases c:y.natAbs=0
  .refine c▸?_;decide
  .exact apu ((Nat.log2_lt c).mpr (by lia:y.natAbs<2^20)) (cn B)
 |list N C ch cf u z j=>refine c_ ((cf▸r).one) λx t g=>?_;obtain rfl:=t;refine kV (r8 e g u) λa v D n q m i o p=>?_;obtain rfl:=q;have l:=p.length;simp only[aoy]at l;exact ch▸call_list_seq a (T:=Ds C) (by induction C using dj.casesOn<;>simp[Ds]) m i o (λG R F I=>e.newList (s':={s with heap:=G}) F rfl rfl (vG _) I p j f) (bQ▸(F8 z l rfl))
 |tup L ch cf h=>obtain⟨x,rfl,g⟩:=(cf▸r).one;refine kV (id g) λa v D n q m i o p=>?_;obtain rfl:=q;exact ch▸call_tuple_same ⟨v,e.gw m,i,n,o⟩ (f _ _ _ (.tup _) _ (cS.refl Z) e g h)
end
section
theorem Out.WM{ck:ai->Option ai}{a b:ai}{o:Obj}(x:Out P Z ck H b)(h:b≠a):Out (P.set a o) Z ck H b:=⟨by show(if _ then _ else _)=ah;rw[if_neg h];exact x.p,x.z,x.h,x.o⟩
set_option tactic.hygienic true in
theorem cj.WN(m:cj w os P Z H env S own s)(k:∀b o,s.heap.get? b=ae o->s'.heap.get? b=ae o)(g:s'.gens=s.gens)(q:s'.os=s.os)(h0:s.heap.get? a=ah)(h1:s'.heap.get? a=ae o):
  P a=ah/\cj w os (P.set a o) Z H env S own s':=by
 refine c_ m λck j i=>?_;have x:=j.out h0;have f:fO w os P Z ck H s':=j.move (λb o _=>k b o) g q;have ne:∀b,Own env b->b≠a:=λb h e=>by refine gu (i.alive h) λy q=>?_;rw[e,h0]at q;exact cV q
 refine⟨x.p,ck,⟨λb y e=>?_,f.gw,f.base,f.abs,λb y e=>?_,f.j4,f.jD,f.gens,f.os_⟩,i.keep (λb o _=>k b o) (cS.refl Z) (i.out.WM (ne _ (.inl B))) λy c e=>⟨(i.cells y c e).2.1,(i.cells y c e).2.2.1,(i.cells y c e).2.2.2.1,λl=>?_⟩⟩
 .replace e:(if b=a then ae o else P b)=ae y:=e;split at e
  .rename_i q;cases e;exact q▸h1
  .exact f.j3 b y e
 .replace e:(if b=a then ae o else P b)=ae y:=e;split at e
  .rename_i q;exact q▸(⟨x.z,x.h,x.o⟩)
  .exact f.hK b y e
 .show (if _ then _ else _)=ah;rw[if_neg (ne _ (.inr ⟨y,e⟩))];exact(i.cells y c e).2.2.2.2.1 l
set_option tactic.hygienic true in
theorem cj.DG(v:cj w os (P.set a o) Z H env S own s)(no:¬Own env a)(k:∀b x,b≠a->s.heap.get? b=ae x->s'.heap.get? b=ae x)(g:s'.gens=s.gens)(q:s'.os=s.os)(h1:s'.heap.get? a=ae eM):
  cj w os (P.set a eM) Z H env S own s':=by
 refine c_ v λck f i=>iw (f.hK a o (if_pos B)) λm r l=>⟨ck,⟨λb y e=>?_,λb y e=>?_,f.base,λb C e=>?_,λb y e=>?_,f.j4,λb x e=>⟨(f.jD b x e).1,?_⟩,g.trans f.gens,q.trans f.os_⟩,i.keep (λb y z e=>k b y (λh=>no (h▸z)) e) (cS.refl Z) ?_ λy c e=>⟨(i.cells y c e).2.1,(i.cells y c e).2.2.1,(i.cells y c e).2.2.2.1,λu=>?_⟩⟩
 .replace e:(if b=a then ae eM else P b)=ae y:=e;split at e
  .rename_i q;cases e;exact q▸h1
  .rename_i h;exact k b y h (f.j3 b y (by show(if b=a then ae o else P b)=ae y;rw[if_neg h];exact e))
 .exact k b y (λh=>by rw[h,m]at e;exact cV e) (f.gw b y e)
 .exact (f.abs b C e).keep (λb y j=>⟨f.gw b y j,k b y (λh=>by rw[h,m]at j;exact cV j) (f.gw b y j)⟩) (λy h=>k b y (λh=>by rw[h,r]at e;exact cV e) h) (λd y t h=>k d y (λh=>by rw[h,l]at t;exact cV t) h) (cS.refl Z) (λ_ e=>e)
 .replace e:(if b=a then ae eM else P b)=ae y:=e;split at e
  .rename_i q;rw[q];exact⟨m,r,l⟩
  .rename_i h;exact f.hK b y (by show(if b=a then ae o else P b)=ae y;rw[if_neg h];exact e)
 .exact gu ((f.jD b x e).2) λy h=>⟨y,k b y (λh=>by rw[h,l]at e;exact cV e) h⟩
 .have h:env.locals≠a:=λh=>no (.inl h.symm);refine⟨?_,i.out.z,i.out.h,i.out.o⟩;have:=i.out.p;show(if _ then _ else _)=ah;rw[if_neg h];replace this:(if env.locals=a then ae o else P env.locals)=ah:=this;rw[if_neg h]at this;exact this
 .have h:c≠a:=λh=>no (.inr ⟨y,h▸e⟩);have:=(i.cells y c e).2.2.2.2.1 u;show(if _ then _ else _)=ah;rw[if_neg h];replace this:(if c=a then ae o else P c)=ah:=this;rw[if_neg h]at this;exact this
theorem cj.q7(b:cj w os (P.set a o) Z H env S own s):s.heap.get? a=ae o:=let⟨_,c,_⟩:=b;c.j3 _ _ (if_pos B)
theorem xr(c:P a=ah):(∀b y,P b=ae y->(P.set a o) b=ae y)/\∀b,(P.set a o) b=ah->P b=ah:=
 ⟨λb y e=>by show(if _ then _ else _)=_;rw[if_neg (λh=>by rw[h,c]at e;exact cV e)];exact e,λb e=>by
  replace e:(if b=a then ae o else P b)=ah:=e;split at e
  .exact gS e
  .exact e⟩
theorem fO.nz(R:fO w os (P.set a o) Z ck H s)(c:P a=ah):fO w os P Z ck H s:=
 ⟨λb y e=>R.j3 b y ((xr c).1 b y e),R.gw,R.base,R.abs,λb y e=>R.hK b y ((xr c).1 b y e),R.j4,R.jD,R.gens,R.os_⟩
theorem l4.nz(F:l4 p (P.set a o) Z ck H h env S own)(b:P a=ah):l4 p P Z ck H h env S own:=
 F.keep (λ_ _ _ e=>e) (cS.refl Z) ⟨(xr b).2 _ F.out.p,F.out.z,F.out.h,F.out.o⟩ λy c e=>⟨(F.cells y c e).2.1,(F.cells y c e).2.2.1,(F.cells y c e).2.2.2.1,λf=>(xr b).2 _ ((F.cells y c e).2.2.2.2.1 f)⟩
theorem cj.nz(e:cj w os (P.set a o) Z H env S own s)(b:P a=ah):cj w os P Z H env S own s:=let⟨ck,f,c⟩:=e;⟨ck,f.nz b,c.nz b⟩
theorem cj.A6(r:cj w os (P.set a o) Z H env S own s)(no:¬Own env a)(f:P a=ah)(k:∀b x,b≠a->s.heap.get? b=ae x->s'.heap.get? b=ae x)(g:s'.gens=s.gens)(q:s'.os=s.os):cj w os P Z H env S own s':=by
 match r with
 |⟨ck,l,j⟩=>
 refine iw (l.hK a o (if_pos B)) λv p t=>⟨ck,(l.nz f).move (λb x m e=>k b x (λh=>m (h▸⟨f,v,p,t⟩)) e) g q,(j.nz f).keep (λb y u e=>k b y (λh=>no (h▸u)) e) (cS.refl Z) (j.nz f).out λy c e=>?_⟩;have i:=(j.nz f).cells y c e;exact⟨i.2.1,i.2.2.1,i.2.2.2.1,i.2.2.2.2.1⟩
theorem WO(x st:Int)(n:Nat):qu x st (n+1)=.int x::qu (x+st) st n:=by
 unfold qu;rw[aoR,aL,aok];congr 1
 .simp
 .apply apP;intro k _;simp only[Function.comp,apQ];congr 1;have:st*((k+1:Nat):Int)=st+st*k:=by rw[Int.natCast_add,Int.mul_add];simp;k_is
  rw[this];k_is
inductive l6(p:aw)(Z:eY)(h:aD)(it:ai):bT->List J->Prop
 |li {v:J} {l:ai} {i:Nat} {all:List J}:h.IsListIter it l i->dw p Z v (.ref l)->l6 p Z h it (λH=>iO H v=ae (.li all)) (all.drop i)
 |cb {t:ai} {i:Nat} {all:List J}:h.IsTupleIter it t i->dw p Z (.tup all) (.ref t)->l6 p Z h it (λ_=>True) (all.drop i)
 |hZ {x st:Int} {n:Nat}:IsRangeIter h it x n st->l6 p Z h it (λ_=>True) (qu x st n)
theorem l6.keep{p:aw}{Z Z':eY}{h h':aD}{it:ai}{src:bT}{vs:List J}(x:l6 p Z h it src vs)(le:cS Z Z')(k:∀o,h.get? it=ae o->h'.get? it=ae o):l6 p Z' h' it src vs:=by
 induction x using l6.casesOn with
 |li a b=>refine c_ a λo e r=>?_;exact .li ⟨o,k _ e,r⟩ (b.mono le)
 |cb a b=>refine c_ a λo e r=>?_;exact .cb ⟨o,k _ e,r⟩ (b.mono le)
 |hZ a=>exact .hZ (k _ a)
set_option tactic.hygienic true in
theorem Nc{it:ai}{o:Obj}{src:bT}{vs:List J}(j:cj w os (P.set it o) Z H env S own s)(no:¬Own env it)(I:P it=ah)(ao:A.handled=ah)(x:l6 w.params Z s.heap it src vs)(hs:src H){Q:Option aj->aA->Prop}
  (Y:vs=[]->∀s',cj w os P Z H env S own s'->Q ah s')
  (F:∀v r,vs=v::r->∀s' u C,cj w os (P.set it C) Z H env S own s'->dw w.params Z v u->l6 w.params Z s'.heap it src r->(∀(t:az)(Q':Unit->aA->Prop),Q' () s'->Wp w A (letOwnedTupleGo t (.ref it) u) Q' s')->Q (ae u) s'):Wp w A (pyNext (.ref it)) Q s:=by
 induction x using l6.casesOn with
 |li a b=>
  rename_i v l f all;obtain⟨x,N,xs,n,e,G,E,M,p⟩:=r8 j b hs;cases e;have m:s.heap.IsList l xs:=⟨N,G,E,n,M⟩;have len:all.length=xs.size:=by have:=p.length;simpa[lq]using this
  cases c:all[f]? with
  |none=>have L:all.drop f=[]:=apR (by rw[apv]at c;exact c);refine wpAny_pyNext_list_end ao a m (by rw[Array.getElem?_eq_none_iff];rw[apv]at c;exact len▸c) λz k=>Y L _ (j.A6 no I (λb y g e=>k b y g e) B B)
  |some y=>
   refine c_ (p.get (c:(lq (dj.li all))[f]?=ae y)) λap R X=>?_;have hd:all.drop f=y::all.drop (f+1):=by obtain⟨V,rfl⟩:=anB.mp c;exact List.drop_eq_getElem_cons V
   refine wpAny_pyNext_list_item a m (aoN▸R) λz i D=>?_;exact c_ (id i) λC W a1=>F _ _ hd _ _ C (j.DG no (λb y g e=>(D.2 b g).trans e) B B W) X (.li i b) λt Q' h=>letGo_listiter i h
 |cb a b=>
  rename_i t f all;obtain⟨x,N,xs,n,e,G,E,M,p⟩:=r8 (q:=.cb all) j b B;cases e;have m:s.heap.IsTuple t xs:=⟨N,G,E,n,M⟩;have len:all.length=xs.size:=by have:=p.length;simpa[lq]using this
  cases c:all[f]? with
  |none=>have L:all.drop f=[]:=apR (by rw[apv]at c;exact c);refine wpAny_pyNext_tuple_end ao a m (by rw[Array.getElem?_eq_none_iff];rw[apv]at c;exact len▸c) λz k=>Y L _ (j.A6 no I (λb y g e=>k b y g e) B B)
  |some y=>
   refine c_ (p.get (c:(lq (dj.cb all))[f]?=ae y)) λap R X=>?_;have hd:all.drop f=y::all.drop (f+1):=by refine gu (anB.mp c) λV a2=>?_;obtain rfl:=a2;exact List.drop_eq_getElem_cons V
   refine wpAny_pyNext_tuple_item a m (aoN▸R) λz i D=>?_;exact c_ (id i) λC W a1=>F _ _ hd _ _ C (j.DG no (λb y g e=>(D.2 b g).trans e) B B W) X (.cb i b) λt Q' h=>letGo_tupleiter i h
 |hZ a=>
  rename_i x st n
  induction n using ant with
  |zero=>exact wpAny_pyNext_range_end ao a (aH _) λz k=>Y B _ (j.A6 no I (λb y g e=>k b y g e) B B)
  |succ n=>
   refine wpAny_pyNext_range_item a (by k_is) λz i D=>?_;have e:((n+1:Nat):Int)-1=(n:Int):=by k_is
   rw[e]at i;exact F _ _ (WO x st n) _ _ _ (j.DG no (λb y g e=>(D.2 b g).trans e) B B i) ⟨_,B⟩ (.hZ i) λt Q' h=>by induction t using aT<;>exact bf h
end
theorem vP(x y:Str)(v:α):∀S:List (Str×α),look y (put x v S)=if sEq x y then ae v else look y S
 |[]=>by refine(?_:(match sEq x y with|true=>ae v|false=>ah)=_);cases sEq x y<;>rfl
 |(z,u)::r=>by
  dsimp only[put];cases c:sEq z x with
  |true=>have:=kE c;subst this;refine(?_:(match sEq z y with|true=>ae v|false=>look y r)=if sEq z y then ae v else(match sEq z y with|true=>ae u|false=>look y r));cases sEq z y<;>rfl
  |false=>
   refine(?_:(match sEq z y with|true=>ae u|false=>look y (put x v r))=if sEq x y then ae v else(match sEq z y with|true=>ae u|false=>look y r));refine(vP x y v r)▸?_;cases a:sEq z y with
   |true=>
    have:=kE a;subst this;have ne:sEq x z=ag:=by exact Vq▸c
    simp only[ne]
    rfl
   |false=>rfl
section
set_option tactic.hygienic true in
theorem DH(a2:cj w os P Z H env S own s)(r:dw w.params Z v u)(ao:own=af\/env.kindOf x≠ae .cell)(h:setName S x v k H)
  (R:∀W s',cj w os P Z H env W own s'->k W H->Q () s'):Wp w A (storeName env x u) Q s:=by
 refine c_ a2 λck V g=>c_ g.names λm N n=>?_;have b7:(env.kindOf x=ae .local/\k (put x (.Y v) S) H)\/((env.kindOf x=ae .cell/\∃c u,env.cells.lookup x=ae c/\s.heap.IsCell c u)/\k (put x (.iN v) S) H):=by
  dsimp only[setName]at h;cases e:look x S with
  |none=>rw[e]at h;exact h.elim
  |some o=>
   replace h:=e▸h;have G:=n x _ e
   induction o using d6.casesOn with
   |gl _=>exact h.elim
   |un=>exact .inl ⟨G,h⟩
   |Y L=>exact .inl ⟨G.1,h⟩
   |q1=>exact .inr ⟨G,h⟩
   |iN L=>refine C' G λa c u e t _=>?_;exact .inr ⟨⟨a,c,_,e,t⟩,h⟩
 have names:∀{p:aD}{I:Str->Option aj}{s0:d6},vI w.params Z p env I x s0->(∀y o,sEq x y=ag->vI w.params Z s.heap env m y o->vI w.params Z p env I y o)->∀y o,look y (put x s0 S)=ae o->vI w.params Z p env I y o:=by
  intro p I s0 ce b5 y o e;rw[vP]at e;split at e
  .rename_i c;cases e;exact(kE c)▸ce
  .rename_i c;exact b5 y o (by cases i:sEq x y with|true=>exact absurd i c|false=>rfl) (n y o e)
 rcases b7 with⟨C,h⟩|⟨⟨C,c,ca,z,bY⟩,h⟩
 .refine wpAny_storeName_local C N (λp a1 D=>R _ _ ⟨ck,V.move (λb f no e=>(D.2 b (λx=>no (x▸g.out))).trans e) B B,?_⟩ h) (by refine g.kind▸?_;rfl);have q:∀c f,(∃x,env.cells.lookup x=ae c)->s.heap.get? c=ae f->p.get? c=ae f:=λc f⟨y,e⟩ i=>(D.2 c (g.cells y c e).1).trans i;refine⟨g.kind,g.glob,g.out,g.up,λy c e=>?_,g.uc,_,a1,names (s0:=.Y v) ⟨C,u,if_pos B,r⟩ λy o ne F=>?_⟩
  .have j:=g.cells y c e;exact⟨j.1,j.2.1,j.2.2.1,j.2.2.2.1,j.2.2.2.2.1,let⟨f,i⟩:=j.2.2.2.2.2;⟨f,q c f ⟨y,e⟩ i⟩⟩
  .have X:=F.keep (h':=p) (Z':=Z) q (cS.refl Z);have bd:¬y=x:=λe=>by rw[e,xg]at ne;exact kD ne
   induction o using d6.casesOn with
   |Y L=>exact L8 X λa E e t=>⟨a,E,by refine(?_:(if y=x then ae u else m y)=_);rw[if_neg bd];exact e,t⟩
   |_=>exact X
 .have bV:own=af:=ao.resolve_right λi=>i C;refine wpAny_storeName_cell g.kind C z bY λp M D=>R _ _ ⟨ck,V.move (λb f no e=>(D.2 b (λx=>no ?_)).trans e) B B,?_⟩ h
  .have j:=g.cells _ _ z;exact x▸(⟨j.2.2.2.2.1 bV,j.2.1,j.2.2.1,j.2.2.2.1⟩)
  .have q:∀y,sEq x y=ag->∀l f,env.cells.lookup y=ae l->s.heap.get? l=ae f->p.get? l=ae f:=λy ne l f e i=>(D.2 l (λap=>by have:=g.uc x y l (ap▸z) e;rw[this,xg]at ne;exact kD ne)).trans i
   refine⟨g.kind,g.glob,g.out,g.up,λy l e=>?_,g.uc,m,N.sameBut D (λe=>(g.cells _ _ z).1 e.symm),names (s0:=.iN v) ⟨C,c,u,z,M,r⟩ λy o ne F=>?_⟩
   .have j:=g.cells y l e;refine⟨j.1,j.2.1,j.2.2.1,j.2.2.2.1,j.2.2.2.2.1,?_⟩;cases i:sEq x y with
    |true=>have:=kE i;subst this;replace e:=z▸e;cases e;refine c_ M λf i _=>?_;exact⟨f,i⟩
    |false=>obtain⟨f,bZ⟩:=j.2.2.2.2.2;exact⟨f,q y i l f e bZ⟩
   .induction o using d6.casesOn with
    |q1=>exact Gb F λa l E e t=>⟨a,l,E,e,IsCell.keep (λf i=>q y ne l f e i) t⟩
    |iN L=>exact C' F λa l E e t b2=>⟨a,l,E,e,IsCell.keep (λf i=>q y ne l f e i) t,b2⟩
    |_=>exact F
end
section
def i0(w:aF)(os:aM)(d:Nat):Prop:=∀{A:a9}{f:ai}{args:List J}{k:cZ}{P Z:eY}{ck:ai->Option ai}{H:bW}{s:aA}{xs:List aj}{e:Result->aA->Prop},xo A d->U d f args k H->fO w os P Z ck H s->cX w.params Z args xs->
 (∀a g b s' c x,cS Z a->fO w os P a g b s'->dw w.params a c x->k c b->e (.ok (.ret x)) s')->codeAny (bp dW w) A (.call (.ref f) ⟨xs,[]⟩) e s
set_option tactic.hygienic true in
open Classical in
theorem cj.enter(o:cj w os P Z H env S own s):∃m ck,fO w os m Z ck H s/\∀Z' i j s',cS Z Z'->fO w os m Z' i j s'->cj w os P Z' j env S own s':=by
 refine c_ o λck g h=>⟨λb=>if Own env b then s.heap.get? b else P b,ck,⟨λb a e=>?_,g.gw,g.base,g.abs,λb a e=>?_,g.j4,g.jD,g.gens,g.os_⟩,λZ' i j s' le f=>?_⟩
 .replace e:(if Own env b then s.heap.get? b else P b)=ae a:=e;split at e
  .exact e
  .exact g.j3 b a e
 .replace e:(if Own env b then s.heap.get? b else P b)=ae a:=e;split at e
  .rename_i q;exact h.zk q
  .exact g.hK b a e
 .have sub:∀b a,P b=ae a->(λb=>if Own env b then s.heap.get? b else P b) b=ae a:=λb a e=>by
   refine(?_:(if Own env b then s.heap.get? b else P b)=ae a);split
   .exact g.j3 b a e
   .exact e
  have k:∀b,Own env b->∀a,s.heap.get? b=ae a->(Z' b=ah/\j b=ah/\i b=ah)/\s'.heap.get? b=ae a:=λb l a e=>by
   have:(λb=>if Own env b then s.heap.get? b else P b) b=ae a:=by refine(?_:(if Own env b then s.heap.get? b else P b)=ae a);rw[if_pos l];exact e
   exact⟨f.hK b a this,f.j3 b a this⟩
  refine⟨i,⟨λb a e=>f.j3 b a (sub b a e),f.gw,f.base,f.abs,λb a e=>f.hK b a (sub b a e),f.j4,f.jD,f.gens,f.os_⟩,h.keep (λb a l e=>(k b l a e).2) le ?_ λy c e=>?_⟩
  .obtain ⟨a,e⟩:=h.alive (.inl B);have:=(k _ (.inl B) a e).1;exact⟨h.out.p,this.1,this.2.1,this.2.2⟩
  .obtain ⟨a,r⟩:=h.alive (.inr ⟨y,e⟩);have:=(k _ (.inr ⟨y,e⟩) a r).1;exact⟨this.1,this.2.1,this.2.2,(h.cells y c e).2.2.2.2.1⟩
theorem cj.WQ(o:cj w os P Z H env S own s){a:ai}{vs:List J}(h:H a=ae (.list vs)):∃Z',cS Z Z'/\cj w os P Z' (H.del a) env S own s/\dw w.params Z' (.lst vs) (.ref a):=by
 refine c_ o λck i f=>lZ (i.abs _ _ h) λxs n l q=>?_;have k:Z a=ah:=none_of λg e=>by rw[(i.j4 _ _ e).1]at h;exact cV h
 have u:P a=ah:=none_of λg e=>by replace h:=((i.hK _ _ e).2.1)▸h;exact cV h
 have m:ck a=ah:=none_of λg e=>by rw[(i.jD _ _ e).1]at h;exact cV h
 have le:=cS.set (o:=⟨.type "list",ah,.seq xs n,#[]⟩) k;have t:=(i.del a).AS (o:=⟨.type "list",ah,.seq xs n,#[]⟩) ⟨u,k,if_pos B,by show(if ck a=ae a then ah else ck a)=ah;rw[m];rfl⟩ l;have j:∀b,Own env b->b≠a:=λb r e=>by have:=(f.zk r).2.1;rw[e,h]at this;exact gS this
 refine⟨_,le,⟨_,t,f.keep (λ_ _ _ e=>e) le ⟨f.out.p,?_,?_,?_⟩ λy c e=>⟨?_,?_,?_,(f.cells y c e).2.2.2.2.1⟩⟩,a,_,xs,n,B,if_pos B,B,B,q.mono le⟩
 .show (if _ then _ else _)=ah;rw[if_neg (j _ (.inl B))];exact f.out.z
 .show (if _ then _ else _)=ah;rw[if_neg (j _ (.inl B))];exact f.out.h
 .show (if _ then _ else _)=ah;rw[f.out.o];rfl
 .show (if _ then _ else _)=ah;rw[if_neg (j _ (.inr ⟨y,e⟩))];exact(f.cells y c e).2.1
 .show (if _ then _ else _)=ah;rw[if_neg (j _ (.inr ⟨y,e⟩))];exact(f.cells y c e).2.2.1
 .show (if _ then _ else _)=ah;rw[(f.cells y c e).2.2.2.1];rfl
theorem WR(b:cj w os P Z H env S own s)(r:dw w.params Z v u)(h:r6 v k H):∃Z' f c,cS Z Z'/\cj w os P Z' f env S own s/\dw w.params Z' c u/\k c f:=by
 unfold r6 at h
 induction v using J.casesOn with
 |ref a=>
  dsimp only at h;cases e:H a with
  |none=>rw[e]at h;exact⟨Z,H,_,cS.refl Z,b,r,h⟩
  |some i=>
   rw[e]at h
   induction i with
   |list l=>cases r;exact lI (b.WQ e) λZ' le j g=>⟨Z',_,_,le,j,g,h⟩
   |_=>exact⟨Z,H,_,cS.refl Z,b,r,h⟩
 |_=>exact⟨Z,H,_,cS.refl Z,b,r,h⟩
theorem GQ:∀{vs:List J}{xs:List aj}{Z:eY}{H:bW}{k:List J->bT},cj w os P Z H env S own s->cX w.params Z vs xs->l0 vs k H->∃Z' e a,cS Z Z'/\cj w os P Z' e env S own s/\cX w.params Z' a xs/\k a e
 |[],xs,Z,H,k,b,r,h=>⟨Z,H,[],cS.refl Z,b,r,h⟩
 |v::vs,xs,Z,H,k,b,r,h=>by refine gT r λx D o m q=>?_;obtain rfl:=o;exact mn (WR b m (h:r6 v (λc=>l0 vs λu=>k (c::u)) H)) λC E c le y j p=>mn (GQ y (q.mono le) p) λl g a f i t z=>⟨l,g,c::a,le.trans f,i,.cons (j.mono f) t,z⟩
theorem cj.WU(D:cj w os P Z H env S own s)(h:H a=ae (.inst C fs)):∃Z',cS Z Z'/\cj w os P Z' (H.del a) env S own s/\dw w.params Z' (.obj C (fs.map (·.1)) (fs.map (·.2))) (.ref a):=by
 match D with
 |⟨ck,j,f⟩=>
 refine w8 (j.abs _ _ h) λd l n v g E F G=>?_;have r:Z a=ah:=none_of λi e=>by replace h:=((j.j4 _ _ e).1)▸h;exact cV h
 have M:P a=ah:=none_of λi e=>by replace h:=((j.hK _ _ e).2.1)▸h;exact cV h
 have u:ck a=ah:=none_of λi e=>by replace h:=((j.jD _ _ e).1)▸h;exact cV h
 have x:Z d=ah:=none_of λi e=>by replace g:=((j.j4 _ _ e).2)▸g;exact cV g
 have dv:P d=ah:=none_of λi e=>by replace g:=((j.hK _ _ e).2.2)▸g;exact cV g
 have m:H d=ah:=(j.jD _ _ g).1;have ne:a≠d:=λe=>by rw[e,m]at h;exact cV h
 have t:(Z.set a (anl C d)) d=ah:=by show(if _ then _ else _)=ah;rw[if_neg ne.symm];exact x
 have o:=cS.set (o:=anO l n) t;have I:=(j.del a).AS (o:=anl C d) ⟨M,r,if_pos B,by show(if ck a=ae a then ah else ck a)=ah;rw[u];rfl⟩ v;have L:=I.AS (a:=d) (o:=anO l n) ⟨dv,t,by show(if _ then _ else _)=ah;rw[if_neg ne.symm];exact m,by show(if ck d=ae a then ah else ck d)=ah;rw[if_pos g]⟩ E;have k:∀b,Own env b->b≠a/\b≠d:=λb q=>⟨λe=>(by have:=(f.zk q).2.1;rw[e,h]at this;exact gS this),λe=>(by have:=(f.zk q).2.2;rw[e,g]at this;exact gS this)⟩;have le:=(cS.set (o:=anl C d) r).trans o;refine⟨_,le,⟨_,L,f.keep (λ_ _ _ e=>e) le ⟨f.out.p,?_,?_,?_⟩ λy c e=>⟨?_,?_,?_,(f.cells y c e).2.2.2.2.1⟩⟩,a,d,l,n,B,o _ _ (if_pos B),if_pos B,F,G.mono le⟩
 .show (if _ then _ else(if _ then _ else _))=ah;rw[if_neg (k _ (.inl B)).2,if_neg (k _ (.inl B)).1];exact f.out.z
 .show (if _ then _ else _)=ah;rw[if_neg (k _ (.inl B)).1];exact f.out.h
 .show (if _ then _ else _)=ah;rw[f.out.o];rfl
 .show (if _ then _ else(if _ then _ else _))=ah;rw[if_neg (k _ (.inr ⟨y,e⟩)).2,if_neg (k _ (.inr ⟨y,e⟩)).1];exact(f.cells y c e).2.1
 .show (if _ then _ else _)=ah;rw[if_neg (k _ (.inr ⟨y,e⟩)).1];exact(f.cells y c e).2.2.1
 .show (if _ then _ else _)=ah;rw[(f.cells y c e).2.2.2.1];rfl
theorem WW(g:cj w os P Z H env S own s)(r:dw w.params Z v u)(h:lK C v k H):∃Z' f b,cS Z Z'/\cj w os P Z' f env S own s/\dw w.params Z' b u/\k b f:=by
 unfold lK at h;cases c:Gc C with
 |false=>replace h:=c▸h;exact⟨Z,H,v,cS.refl Z,g,r,h⟩
 |true=>
  replace h:=c▸h
  induction v using J.casesOn with
  |ref a=>
   dsimp only at h;cases e:H a with
   |none=>rw[e]at h;exact h.elim
   |some j=>
    replace h:=e▸h
    induction j using hg.casesOn with
    |inst m o=>cases r;obtain⟨rfl,h⟩:=h;exact lI (g.WU e) λZ' le l i=>⟨Z',_,_,le,l,i,h⟩
    |_=>exact h.elim
  |_=>exact h.elim
end
noncomputable def GS(K:Frag)(C:ai):Bool:=makesIn K C&&(match mS C (au "__init__")with
 |some a=>decide (findIn K (.ref C) (au "__init__")=ae (ae (.ref a)))&&decide (typeIn K (.ref a)=ae (.type "function"))
 |none=>ag)
theorem Ni(P:aw):(AZ.all λC=>GS (gH P) C)=af:=by cbv
theorem WX(A:a9)(C:ai)(xs:List aj):(A.under (.builtin "type.__call__" ⟨.ref C::xs,[]⟩)).depth=A.depth+1/\(A.under (.builtin "type.__call__" ⟨.ref C::xs,[]⟩)).units<=A.units+5/\(A.under (.builtin "type.__call__" ⟨.ref C::xs,[]⟩)).handled=A.handled:=by
 refine⟨?_,?_,B⟩
 .refine (?_:A.depth+Code.weight _=_);have:Code.weight (.builtin "type.__call__" ⟨.ref C::xs,[]⟩)=1:=by cbv
  rw[this]
 .refine (?_:A.units+Code.cUnits _<=_);have:Code.cUnits (.builtin "type.__call__" ⟨.ref C::xs,[]⟩)=1:=by cbv
  refine this▸?_;k_is
section
theorem fK.WY(r:fK A d):xo A d:=⟨r.1,by have:=r.2.1;exact L6 this B,by have:=r.2.2;exact L6 this B⟩
theorem fK.type(r:fK A d)(C:ai)(xs:List aj):xo (A.under (.builtin "type.__call__" ⟨.ref C::xs,[]⟩)) d:=by exact iw (WX A C xs) λb c a=>⟨a.trans r.1,by refine b▸?_;have:=r.2.1;exact aq (by k_is) this,by have:=r.2.2;exact dp c this⟩
theorem cj.WZ(o:cj w os P Z H env S own s)(C:ai):H (s.heap.objs.size+1)=ah/\cj w os P Z (H.set (s.heap.objs.size+1) (.inst C [])) env S own {s with heap:=(s.heap.push anw).push (anl C s.heap.objs.size)}:=by
 refine c_ o λck l g=>?_;have k:∀b f,s.heap.get? b=ae f->((s.heap.push anw).push (anl C s.heap.objs.size)).get? b=ae f:=λb f e=>anm _ (anm _ e);have v:(s.heap.push anw).objs.size=s.heap.objs.size+1:=aD.size_push ..;have hd:((s.heap.push anw).push (anl C s.heap.objs.size)).get? s.heap.objs.size=ae anw:=anm _ (anr _ B);have ce:((s.heap.push anw).push (anl C s.heap.objs.size)).get? (s.heap.objs.size+1)=ae (anl C s.heap.objs.size):=v▸anr _ B;have m:s.heap.get? (s.heap.objs.size+1)=ah:=none_of λf e=>absurd (Nat.lt_of_succ_lt (bK e)) (Nat.lt_irrefl _);have r:=l.out (vG s.heap);have i:=l.out m;have t:fO w os P Z ck H {s with heap:=(s.heap.push anw).push (anl C s.heap.objs.size)}:=l.move (λb f _=>k b f) B B;have x:=(t.own (a:=s.heap.objs.size+1) r ⟨_,hd⟩).new (a:=s.heap.objs.size+1) (ao:=.inst C []) ⟨i.p,i.z,i.h,by show(if _ then _ else _)=ah;rw[if_neg (apw _)];exact i.o⟩ ⟨_,[],0,ce,if_pos B,hd,B,B⟩;have j:∀b,Own env b->b≠s.heap.objs.size/\b≠s.heap.objs.size+1:=λb u=>by refine gu (g.alive u) λy q=>?_;have:=bK q;exact⟨aoz this,aoz (Nat.lt_succ_of_lt this)⟩
 refine⟨i.h,_,x,g.keep (λb f _=>k b f) (cS.refl Z) ⟨g.out.p,g.out.z,?_,?_⟩ λy c e=>⟨(g.cells y c e).2.1,?_,?_,(g.cells y c e).2.2.2.2.1⟩⟩
 .show (if _ then _ else _)=ah;rw[if_neg (j _ (.inl B)).2];exact g.out.h
 .show (if _ then _ else _)=ah;rw[if_neg (j _ (.inl B)).1];exact g.out.o
 .show (if _ then _ else _)=ah;rw[if_neg (j _ (.inr ⟨y,e⟩)).2];exact(g.cells y c e).2.2.1
 .show (if _ then _ else _)=ah;rw[if_neg (j _ (.inr ⟨y,e⟩)).1];exact(g.cells y c e).2.2.2.1
theorem W0(N:i0 w os d)(a:cj w os P Z H env S own s)(l:fK A d)(E:dw w.params Z f jS)(r:cX w.params Z args xs)(h:jR (U d) f args k H)(j:hL w os P Z env S own k Q):
  Wp w A (bo jS xs) Q s:=by
 unfold jR at h
 induction f using J.casesOn with
 |glob c=>
  cases E;dsimp only at h;cases v:jB c with
  |true=>
   replace h:=v▸h;dsimp only at h;cases F:mS c (au "__init__")with
   |some bY=>
    rw[F]at h;dsimp only at h;have m:=br.mp (Ni w.params) _ (A0 v);unfold GS at m;rw[F,aP]at m;refine eP m λap L=>?_;simp only[aP,decide_eq_true_eq]at L;have b2:∃i M t,cS Z i/\cj w os P i M env S own s/\cX w.params i t xs/\eX (.inst c []) (λx=>U d bY (x::t) λ(r:J)(H:bW)=>r=J.none/\lK c x k H) M:=by
     cases R:aG c 633 with
     |true=>rw[R]at h;exact GQ a r h
     |false=>replace h:=R▸h;exact⟨Z,H,args,cS.refl Z,a,r,h⟩
    refine mn b2 λi M t bd b7 W a2=>eP (b7.WZ c) λa1 X=>lZ X.enter λao ck C q=>?_;obtain⟨hh,cd,cH,b5,cg⟩:=s;refine wpAny_call (make_core (makes_of a.lL ap) (looks_findIn a.lL L.1) (λself=>bind_fn a.lL self L.2) (.inl B) ?_);refine N (l.type c xs) (a2 _ a1) C (.cons B W) λo G p D y x e I z g=>?_;obtain⟨rfl,g⟩:=g;cases z;refine⟨B,?_⟩;exact mn (WW (v:=.ref (hh.objs.size+1)) (u:=.ref (hh.objs.size+1)) (q o G p D e I) B g) λY bZ ca bV V cb cc=>j Y bZ _ ca _ ((bd.trans e).trans bV) V cb cc
   |none=>replace h:=F▸h;exact h.elim
  |false=>replace h:=v▸h;exact lZ a.enter λao ck C q=>wpAny_call (N l.WY h C r λo G p D y x e I z g=>j _ _ _ y _ e (q o G p D e I) z g)
 |blt b=>obtain⟨rfl,_⟩:=E;exact Ws a l r h j
 |typ b5=>cases E;exact WL a l r h j
 |_=>exact h.elim
end
section
noncomputable abbrev uk(w:aF)(os:aM)(P Z:eY)(env:Env)(S:Loc)(own:Bool)(k:Bool->bT)(Q:Bool->aA->Prop):Prop:=
 ∀c a s' b,cS Z c->cj w os P c a env S own s'->k b a->Q b s'
theorem hL.later(h:hL w os P Z env S own k Q)(le:cS Z Z'):hL w os P Z' env S own k Q:=λg b s' c x a e r f=>h g b s' c x (le.trans a) e r f
noncomputable def A9(pos:Pos)(env:Env):List (Option az)->List az->List (Sem aj×Sem aj)
 |some k::cG,e::r=>(aN k env,do let x<-aN e env;anE pos;pure x)::A9 pos env cG r
 |_,_=>[]
theorem W2(h:Ml k=af):∃e,k=ae e:=by
 induction k using a_ with
 |none=>exact d8 h
 |some e=>exact⟨e,B⟩
theorem W3:∀{es:List az},zf a es=af->((evalEachOpt a env).zip ((bR es env).map λv=>do let x<-v;anE pos;pure x))=(A9 pos env a es).map (λp=>(ae p.1,p.2))/\(A9 pos env a es).length=a.length:=by
 induction a with
 |nil=>intro es _;induction es using aE<;>exact⟨B,B⟩
 |cons k a b=>
  intro es h
  induction es using aE with
  |nil=>exact d8 h
  |cons e es=>have f:=Bool.and_eq_true_iff.mp h;refine gu (W2 f.1) λc g=>?_;obtain rfl:=g;have b:=b (es:=es) f.2;exact⟨congrArg ((ae (aN c env),aN e env >>= λx=>anE pos >>= λ_=>pure x)::·) b.1,congrArg (·+1) b.2⟩
structure gU(w:aF)(os:aM)(d n:Nat):Prop where
 e:∀{A:a9}{e:az}{S:Loc}{k:cZ}{P Z:eY}{H:bW}{own:Bool}{env:Env}{s:aA}{Q:aj->aA->Prop},fK A d->ev (U d) n e S k H->cj w os P Z H env S own s->hL w os P Z env S own k Q->Wp w A (aN e env) Q s
 l:∀{A:a9}{es:List az}{pos:Pos}{S:Loc}{k:List J->bT}{P Z:eY}{H:bW}{own:Bool}{env:Env}{s:aA}{Q:List aj->aA->Prop},fK A d->l2 (U d) n es S k H->cj w os P Z H env S own s->
  (∀Z' bV s' vs xs,cS Z Z'->cj w os P Z' bV env S own s'->cX w.params Z' vs xs->k vs bV->Q xs s')->Wp w A (spliced (anQ pos (anx es env))) Q s
 o:∀{A:a9}{e:Option az}{S:Loc}{k:cZ}{P Z:eY}{H:bW}{own:Bool}{env:Env}{s:aA}{Q:aj->aA->Prop},fK A d->vE (U d) n e S k H->cj w os P Z H env S own s->hL w os P Z env S own k Q->Wp w A (evalPart e env) Q s
 c:∀{A:a9}{v:J}{u:aj}{ops:List CmpOp}{rs:List az}{pos:Pos}{S:Loc}{k:Bool->bT}{P Z:eY}{H:bW}{own:Bool}{env:Env}{s:aA},fK A d->vC (U d) n v ops rs S k H->cj w os P Z H env S own s->dw w.params Z v u->
  (∀{Q:aj->aA->Prop},uk w os P Z env S own k (λb s'=>Q (.bool b) s')->Wp w A (compareChain pos u ops (anF ops rs (bR rs env))) Q s)/\
  (∀{Q:Bool->aA->Prop},uk w os P Z env S own k Q->Wp w A (testChain pos u ops (anF ops rs (bR rs env))) Q s)
 b:∀{A:a9}{op:anD}{es:List az}{pos:Pos}{S:Loc}{k:cZ}{P Z:eY}{H:bW}{own:Bool}{env:Env}{s:aA}{Q:aj->aA->Prop},fK A d->vD (U d) n op es S k H->cj w os P Z H env S own s->hL w os P Z env S own k Q->Wp w A (aN (.BoolOp op es pos) env) Q s
 t:∀{A:a9}{e:az}{S:Loc}{k:Bool->bT}{P Z:eY}{H:bW}{own:Bool}{env:Env}{s:aA}{Q:Bool->aA->Prop},fK A d->iZ (U d) n e S k H->cj w os P Z H env S own s->uk w os P Z env S own k Q->Wp w A (isTrue e env (aN e env)) Q s
 a:∀{A:a9}{op:anD}{es:List az}{pos:Pos}{S:Loc}{k:Bool->bT}{P Z:eY}{H:bW}{own:Bool}{env:Env}{s:aA}{whole:Sem aj}{Q:Bool->aA->Prop},fK A d->vF (U d) n op es S k H->cj w os P Z H env S own s->uk w os P Z env S own k Q->Wp w A (isTrue (.BoolOp op es pos) env whole) Q s
 i:∀{A:a9}{e:az}{S:Loc}{k:bT->List J->bT}{P Z:eY}{H:bW}{own:Bool}{env:Env}{s:aA}{Q:aj->aA->Prop},fK A d->q5 (U d) n e S k H->cj w os P Z H env S own s->
  (∀Z' bV s' src vs it o,cS Z Z'->P it=ah->¬Own env it->cj w os (P.set it o) Z' bV env S own s'->l6 w.params Z' s'.heap it src vs->k src vs bV->Q (.ref it) s')->Wp w A (aN e env) (λx dg=>Wp w A (pyIter x) Q dg) s
 dd:∀{A:a9}{cG:List (Option az)}{es:List az}{pos:Pos}{S:Loc}{k:List (Str×J)->bT}{P Z:eY}{H:bW}{own:Bool}{env:Env}{s:aA}{Q:List (aj×aj)->aA->Prop},fK A d->xe (U d) n cG es S k H->cj w os P Z H env S own s->
  (∀Z' bV s' ps us xs,cS Z Z'->cj w os P Z' bV env S own s'->Carries (strKind dW w) xs us->us.map (·.1)=ps.map (·.1)->cX w.params Z' (ps.map (·.2)) (us.map (·.2))->k ps bV->Q xs s')->
  Wp w A (evalPairs (A9 pos env cG es)) Q s
theorem noStar(h:ev dy n e S k H):(∀x p,e≠.Starred x p)/\(∀l k p,e≠.Set l k p):=by
 induction n using ant with
 |zero=>exact(show False from h).elim
 |succ n=>constructor<;>(intros;rintro rfl;exact(show False from h).elim)
theorem Nj(h:∀x p,e≠.Starred x p):anx (e::r) env=(ag,aN e env)::anx r env:=by induction e using aT<;>first|rfl|exact absurd rfl (h _ _)
theorem W4(h:∀l k p,r≠.Set l k p):anF [op] [r] [t]=[t]:=by
 have:behindInMarks op r=ag:=by induction r using aT<;>first|rfl|exact absurd rfl (h _ _ _)
 refine(?_:[markedBehindIn op r t]=[t]);dsimp only[markedBehindIn];rw[this]
theorem W5(h1:∀x p,e≠.UnaryOp .Not x p)(h2:∀o l p,e≠.BoolOp o l p)(g:∀a b c p,e≠.IfExp a b c p)(f:∀a b c p,e≠.Compare a b c p):
  isTrue e env whole=(do let v<-whole;anE e.pos;holding [v] (truthy v)):=by
 induction e using aT with
 |UnaryOp op x p=>induction op using UnaryOp.casesOn<;>first|rfl|exact absurd rfl (h1 _ _)
 |BoolOp o l p=>exact absurd B (h2 _ _ _)
 |IfExp a b c p=>exact absurd B (g _ _ _ _)
 |Compare a b c p=>exact absurd B (f _ _ _ _)
 |_=>rfl
theorem gU.zero:gU w os d 0 where
 e:=λ_ h=>(show False from h).elim
 l:=λ_ h=>(show False from h).elim
 o:=λ_ h=>(show False from h).elim
 c:=λ_ h=>(show False from h).elim
 b:=λ_ h=>(show False from h).elim
 t:=λ_ h=>(show False from h).elim
 a:=λ_ h=>(show False from h).elim
 i:=λ_ h=>(show False from h).elim
 dd:=λ_ h=>(show False from h).elim
end
section
theorem GU(a:cj w os P Z H env S own s)(r:dw w.params Z v u)(h:g6 v k H)(c:uk w os P Z env S own k Q):Wp w A (truthy u) Q s:=by
 unfold g6 at h
 induction v using J.casesOn with
 |bool b=>cases r;exact apI (c _ _ _ b (cS.refl Z) a h)
 |none=>cases r;exact truthy_none (c _ _ _ ag (cS.refl Z) a h)
 |_=>exact h.elim
theorem gU.GV(u:gU w os d n)(p:fK A d)(h:l2 (U d) (n+1) es S k H)(j:cj w os P Z H env S own s)
  (m:∀Z' g s' vs xs,cS Z Z'->cj w os P Z' g env S own s'->cX w.params Z' vs xs->k vs g->Q xs s'):Wp w A (spliced (anQ pos (anx es env))) Q s:=by
 induction es using aE with
 |nil=>exact args_nil (m Z H s [] [] (cS.refl Z) j B h)
 |cons e r=>replace h:ev (U d) n e S (λq=>l2 (U d) n r S λvs=>k (q::vs)) H:=h;refine args_cons ?_ (Nj (noStar h).1);exact u.e p h j λI H₁ M q x D E v C=>u.l p C E λL G N vs xs f y z F=>m _ _ _ _ _ (D.trans f) y (.cons (v.mono f) z) F
theorem gU.W6(m:gU w os d n){A:a9}{e:Option az}{S:Loc}{k:cZ}{P Z:eY}{H:bW}{own:Bool}{env:Env}{s:aA}{Q:aj->aA->Prop}(j:fK A d)(h:vE (U d) (n+1) e S k H)(f:cj w os P Z H env S own s)(g:hL w os P Z env S own k Q):Wp w A (evalPart e env) Q s:=by
 induction e using a_ with
 |none=>exact bf (g _ _ _ .none _ (cS.refl Z) f B h)
 |some e=>exact m.e j h f g
theorem W7:∃a rest,anF (op::ops) (e::es) (t::ts)=a::rest:=by induction ops using aE<;>cases es<;>cases ts<;>exact⟨_,_,B⟩
theorem gU.W8(D:gU w os d n)(g:fK A d)(h:vC (U d) (n+1) v ops rs S k H)(F:cj w os P Z H env S own s)(r:dw w.params Z v u):
  (∀{Q:aj->aA->Prop},uk w os P Z env S own k (λb s'=>Q (.bool b) s')->Wp w A (compareChain pos u ops (anF ops rs (bR rs env))) Q s)/\
  (∀{Q:Bool->aA->Prop},uk w os P Z env S own k Q->Wp w A (testChain pos u ops (anF ops rs (bR rs env))) Q s):=by
 induction ops using aE with
 |nil=>induction rs using aE<;>exact(show False from h).elim
 |cons op ops=>
  induction rs using aE with
  |nil=>induction ops using aE<;>exact(show False from h).elim
  |cons e rs=>
   induction ops using aE with
   |nil=>
    induction rs using aE with
    |nil=>
     replace h:ev (U d) n e S (λG=>cp op v G k) H:=h;have E:anF [op] [e] (bR [e] env)=[aN e env]:=W4 (noStar h).2;rw[E];constructor
     .intro Q q;refine chain_last (D.e g h F λI H₁ L V x f C m z=>DD C g (r.mono f) m z λc tk p y=>?_);exact q _ _ _ c f p y
     .intro Q q;refine test_last (D.e g h F λI H₁ L V x f C m z=>DD C g (r.mono f) m z λc tk p y=>?_);exact apI (q _ _ _ c f p y)
    |cons j rs=>exact(show False from h).elim
   |cons W ops=>
    induction rs using aE with
    |nil=>exact(show False from h).elim
    |cons j rs=>
     replace h:ev (U d) n e S (λG=>cp op v G λc=>b6 c (vC (U d) n G (W::ops) (j::rs) S k) (k ag)) H:=h;refine vy (W7 (op:=W) (ops:=ops) (e:=j) (es:=rs) (t:=aN j env) (ts:=bR rs env)) λa1 rest E=>?_;have ao:anF (op::W::ops) (e::j::rs) (bR (e::j::rs) env)=aN e env::a1::rest:=by rw[<-E];rfl
     refine ao▸?_;constructor
     .intro Q q;refine chain_link (D.e g h F λI H₁ L V x f C m z=>DD C g (r.mono f) m z λc tk p y=>apI ?_);cases c with
      |true=>have:=(D.c (pos:=pos) g y p m).1 (Q:=Q) λX Y ap b M R N=>q _ _ _ b (f.trans M) R N;rw[show bR (j::rs) env=aN j env::bR rs env from B,E]at this;exact this
      |false=>exact q _ _ _ ag f p y
     .intro Q q;refine test_link (D.e g h F λI H₁ L V x f C m z=>DD C g (r.mono f) m z λc tk p y=>apI ?_);cases c with
      |true=>have:=(D.c (pos:=pos) g y p m).2 (Q:=Q) λX Y ap b M R N=>q _ _ _ b (f.trans M) R N;rw[show bR (j::rs) env=aN j env::bR rs env from B,E]at this;exact this
      |false=>exact q _ _ _ ag f p y
end
section
theorem gU.jf(y:gU w os d n)(q:fK A d)(h:vD (U d) (n+1) op es S k H)(C:cj w os P Z H env S own s)(p:hL w os P Z env S own k Q):Wp w A (aN (.BoolOp op es pos) env) Q s:=by
 induction es using aE with
 |nil=>exact(h:False).elim
 |cons e r=>
  induction r using aE with
  |nil=>exact BoolOp_one (y.e q (h:ev (U d) n e S k H) C p)
  |cons L r=>
   induction op using anD.casesOn with
   |And=>
    replace h:ev (U d) n e S (λf=>g6 f λb=>b6 b (vD (U d) n .And (L::r) S k) (k f)) H:=h;refine BoolOp_and (y.e q h C λN H₁ X f x u I j F=>GU I j F λV M ao b g m v=>?_);cases b with
    |true=>exact y.b q v m λR W Y f x D G z E=>p _ _ _ _ _ ((u.trans g).trans D) G z E
    |false=>exact p _ _ _ _ _ (u.trans g) m (j.mono g) v
   |Or=>
    replace h:ev (U d) n e S (λf=>g6 f λb=>b6 b (k f) (vD (U d) n .Or (L::r) S k)) H:=h;refine BoolOp_or (y.e q h C λN H₁ X f x u I j F=>GU I j F λV M ao b g m v=>?_);cases b with
    |false=>exact y.b q v m λR W Y f x D G z E=>p _ _ _ _ _ ((u.trans g).trans D) G z E
    |true=>exact p _ _ _ _ _ (u.trans g) m (j.mono g) v
theorem gU.W_(u:gU w os d n)(q:fK A d)(h:vF (U d) (n+1) op es S k H)(p:cj w os P Z H env S own s)(f:uk w os P Z env S own k Q):Wp w A (isTrue (.BoolOp op es pos) env whole) Q s:=by
 induction es using aE with
 |nil=>induction op using anD.casesOn with
  |And=>exact isTrue_and_nil (f _ _ _ af (cS.refl Z) p h)
  |Or=>exact isTrue_or_nil (f _ _ _ ag (cS.refl Z) p h)
 |cons e r=>
  induction op using anD.casesOn with
  |And=>
   replace h:iZ (U d) n e S (λb=>b6 b (vF (U d) n .And r S k) (k ag)) H:=h;refine isTrue_and (u.t q h p λC H₁ E b j m g=>?_);cases b with
   |true=>exact u.a q g m λD z F b v x y=>f _ _ _ _ (j.trans v) x y
   |false=>exact f _ _ _ ag j m g
  |Or=>
   replace h:iZ (U d) n e S (λb=>b6 b (k af) (vF (U d) n .Or r S k)) H:=h;refine isTrue_or (u.t q h p λC H₁ E b j m g=>?_);cases b with
   |false=>exact u.a q g m λD z F b v x y=>f _ _ _ _ (j.trans v) x y
   |true=>exact f _ _ _ af j m g
theorem gU.Xa(r:gU w os d n){A:a9}{e:az}{S:Loc}{k:Bool->bT}{P Z:eY}{H:bW}{own:Bool}{env:Env}{s:aA}{Q:Bool->aA->Prop}(g:fK A d)(h:iZ (U d) (n+1) e S k H)(v:cj w os P Z H env S own s)(z:uk w os P Z env S own k Q):Wp w A (isTrue e env (aN e env)) Q s:=by
 by_cases E:∃x f,e=.UnaryOp .Not x f
 .refine vy E λx f a1=>?_;obtain rfl:=a1;replace h:iZ (U d) n x S (λb=>k (!b)) H:=h;exact isTrue_not (r.t g h v λX H₁ Y b p q j=>z _ _ _ _ p q j)
 .by_cases M:∃u l f,e=.BoolOp u l f
  .refine mq M λu l f a2=>?_;obtain rfl:=a2;exact r.a g (h:vF (U d) n u l S k H) v z
  .by_cases C:∃a b c f,e=.IfExp a b c f
   .refine AH C λa b c f R=>?_;obtain rfl:=R;exact(h:False).elim
   .by_cases V:∃a b c f,e=.Compare a b c f
    .refine AH V λl N L f R=>?_;obtain rfl:=R;replace h:ev (U d) n l S (λm=>vC (U d) n m N L S k) H:=h;refine(?_:Wp w A (do testChain f (<-aN l env) N (anF N L (bR L env))) Q s);exact aV (r.e g h v λX H₁ Y m x p q F j=>(r.c g j q F).2 λap ao bV b D G W=>z _ _ _ _ (p.trans D) G W)
    .rw [W5 (λx f e=>E ⟨x,f,e⟩) (λx y f e=>M ⟨x,y,f,e⟩) (λx y I f e=>C ⟨x,y,I,f,e⟩) (λx y I f e=>V ⟨x,y,I,f,e⟩)];have bd:ev (U d) n e S (λm=>g6 m k) H:=by
      induction e using aT with
      |UnaryOp op x f=>induction op using UnaryOp.casesOn with
       |Not=>exact absurd ⟨_,_,B⟩ E
       |_=>exact h
      |BoolOp u l f=>exact absurd ⟨_,_,_,B⟩ M
      |IfExp=>exact absurd ⟨_,_,_,_,B⟩ C
      |Compare=>exact absurd ⟨_,_,_,_,B⟩ V
      |_=>exact h
     refine aV (r.e g bd v λX H₁ Y m x p q F j=>aV (anG (aor ?_)));exact GU q F j λap ao bV b D G W=>z _ _ _ _ (p.trans D) G W
theorem gU.Xb(y:gU w os d n)(v:fK A d)(h:xe (U d) (n+1) f es S k H)(q:cj w os P Z H env S own s)
  (u:∀Z' p s' ps us xs,cS Z Z'->cj w os P Z' p env S own s'->Carries (strKind dW w) xs us->us.map (·.1)=ps.map (·.1)->cX w.params Z' (ps.map (·.2)) (us.map (·.2))->k ps p->Q xs s'):
  Wp w A (evalPairs (A9 pos env f es)) Q s:=by
 induction f using aE with
 |nil=>induction es using aE with
  |nil=>exact evalPairs_nil (u Z H s [] [] [] (cS.refl Z) q trivial B B h)
  |cons e r=>exact(show False from h).elim
 |cons z f=>
  induction es using aE with
  |nil=>
   induction z using a_ with
   |none=>exact(show False from h).elim
   |some j=>
    induction j using aT with
    |Constant c F W=>induction c using Const.casesOn<;>exact(show False from h).elim
    |_=>exact(show False from h).elim
  |cons e r=>
   induction z using a_ with
   |none=>exact(show False from h).elim
   |some j=>
    induction j using aT with
    |Constant c F W=>
     induction c using Const.casesOn with
     |str x=>replace h:ev (U d) n e S (λg=>xe (U d) n f r S λps=>k ((x,g)::ps)) H:=h;refine evalPairs_cons (wpAny_Constant_str (aV (y.e v h q.toks λY H₁ ap g G M R C L=>aV (anG (bf ?_)))));exact y.dd v L R λao X a1 ps us xs m D I N E V=>u _ _ _ ((x,g)::ps) ((x,G)::us) _ (M.trans m) D ⟨(beq_self_eq_true x:(x==x)=af),B,I⟩ (by simp[N]) (.cons (C.mono m) E) V
     |_=>exact(show False from h).elim
    |_=>exact(show False from h).elim
end
section
theorem Xc{h:aD}{M:Model}{a:ai}{s:aQ}{i}(e:h.get? a=ae (rZ (fdOf s i))):bI M h (keeperOf (.ref a)) .frame:=by refine(?_:bI M h (load a >>= _) _);exact(bI.ld e).andThen (bI.now)
theorem Xd(m:Makes M h C):bI M h (keeperOf (.ref C)) .machine:=by refine AH m.obj λf b g c a=>eP a λe _=>(?_:bI M h (load C >>= _) _);exact(bI.ld e).andThen (m.call.andThen bI.now)
theorem Xe{h:aD}(X:(gH w.params).In h){f:J}{o:aj}{args:List J}{k:cZ}(j:dw w.params Z f o)(a:jR (U d) f args k H):∃e,(e=anR.frame\/e=anR.machine\/e=anR.boundFrame)/\bI (bp dW w) h (keeperOf o) e:=by
 unfold jR at a
 induction f using J.casesOn with
 |glob c=>
  cases j;dsimp only at a;cases i:jB c with
  |true=>
   replace a:=i▸a;dsimp only at a;cases q:mS c (au "__init__")with
   |some u=>have g:=br.mp (Ni w.params) _ (A0 i);unfold GS at g;rw[q,aP]at g;exact⟨_,.inr (.inl B),Xd (makes_of X g.1)⟩
   |none=>replace a:=q▸a;exact a.elim
  |false=>
   replace a:=i▸a
   induction d using ant with
   |zero=>exact(a:False).elim
   |succ d=>
    replace a:(match kW c mr with
     |some (s,p)=>match AQ s args p with
      |some S=>cq (U d) 200 (xf s) S (cD.top k)
      |none=>λ_=>False
     |none=>λ_=>False) H:=a
    cases m:kW c mr with
    |none=>replace a:=m▸a;exact a.elim
    |some l=>exact c_ (Dw (s:=l.1) (ds:=l.2) m) λt _ r=>⟨_,.inl B,Xc (X _ _ (r w.params))⟩
 |blt b=>obtain⟨rfl,_⟩:=j;exact⟨_,.inr (.inl B),bI.now⟩
 |typ v=>cases j;exact⟨_,.inr (.inl B),bI.now⟩
 |_=>exact a.elim
theorem DL:∀{es:List az},jd es=af->anx es env=es.map λe=>(ag,aN e env)
 |[]=>λ_=>B
 |e::r=>λh=>by
  have a:(∀x c,e≠.Starred x c)/\jd r=af:=by induction e using aT<;>first|exact⟨λ_ _ b=>az.noConfusion b,h⟩|exact anS h
  rw[Nj a.1,DL a.2];rfl
theorem DM:∀{es:List az},anQ pos (es.map λe=>(ag,aN e env))=es.map λe=>(ag,aN e env)
 |[]=>rfl
 |e::r=>congrArg (bj _) DM
theorem Nk(h:jd es=af):((anQ pos (anx es env)).any (·.1))=ag:=by rw[DL h,DM];simp
theorem Xf(h:jd es=af)(cv:a0 es.length 10=af):methodCallForm (es.length+([]:List Keyword).length) (anQ pos (anx es env)) (backToKw pos (keywordEach [] env))=af:=by rw[DL h,DM];have:es.length<=10:=ay cv;have e:keywordEach [] env=[]:=B;simp[methodCallForm,backToKw,e];exact cY this
theorem Nl(h:jd es=af)(x:Wp w A (spliced (anQ pos (anx es env))) (λvs s'=>Q ⟨vs,[]⟩ s') s):Wp w A (evalArgs f af (anQ pos (anx es env)) []) Q s:=by
 rw[DL h,DM]at x⊢
 induction es using aE with
 |nil=>replace x:Wp w A (spliced []) (λvs s'=>Q ⟨vs,[]⟩ s') s:=x;refine(?_:Wp w A (evalArgs f af [] []) Q s);unfold evalArgs;refine aV (api x (λvs s' h=>?_) λ_ _ e=>e);refine aV (bf ?_);exact aor (aV (bf (aV (bf (bf h)))))
 |cons e r=>exact Calls.evalArgs_plain x
theorem Nm(q:gU w os d n)(j:i0 w os d)(c:fK A d)(o:cj w os P Z H env S own s)(hs:jd es=af)
  (g:dw w.params Z f jS)(r:cX w.params Z fs first)(h:l2 (U d) n es S (λvs=>jR (U d) f (fs++vs) k) H)(p:hL w os P Z env S own k Q):Wp w A (callWith pos jS first (anQ pos (anx es env)) []) Q s:=by
 refine callWith_of (P:=λh=>∃a,(a=anR.frame\/a=anR.machine\/a=anR.boundFrame)/\bI (bp dW w) h (keeperOf jS) a) (by rw[Nk hs];rfl) (λ_ h=>h) (Nl hs ?_);refine q.l c h o λt H₁ u vs xs b i m e=>⟨Xe i.lL (g.mono b) e,?_⟩;exact W0 j i c (g.mono b) (cX.append (r.mono b) m) e (p.later b)
theorem Nn(h:vB o=af):attributeBase o x env whole=whole:=by
 induction o using aT with
 |Call f as a c=>
  induction f using aT with
  |Name y b=>
   induction as using aE with
   |nil=>
    induction a using aE with
    |nil=>exact d8 h
    |cons _ _=>rfl
   |cons _ _=>rfl
  |_=>rfl
 |_=>rfl
theorem Xg(b:gU w os d n)(c:i0 w os d)(a:fK A d)(i:cj w os P Z H env S own s)(q:∀o x p,f≠.Attribute o x p)(hs:jd es=af)
  (h:ev (U d) n f S (λl=>l2 (U d) n es S λvs=>jR (U d) l vs k) H)(j:hL w os P Z env S own k Q):Wp w A (aN (.Call f es [] pos) env) Q s:=by
 refine Call_ (b.e a h i λu H₁ v y x r t g m=>Nm b c a t hs g .nil m (j.later r)) ?_
 induction f using aT<;>first|rfl|exact absurd rfl (q _ _ _)
theorem Xh(b:gU w os d n)(c:i0 w os d)(a:fK A d)(j:cj w os P Z H env S own s)(m:vB o=af)(y:aG apos.endLine pos.line=af)(hs:jd es=af)(cv:a0 es.length 10=af)
  (h:ev (U d) n o S (λgD=>methP gD x λfs=>l2 (U d) n es S λvs=>jR (U d) fs.1 (fs.2++vs) k) H)(l:hL w os P Z env S own k Q):Wp w A (aN (.Call (.Attribute o x apos) es [] pos) env) Q s:=by
 refine MethodCall_ (pl:=do return (<-importBound o env).getD af) (b.e a h j λz H₁ D E C q u g p=>Vy u g p λfs f xs F i t sb v=>Nm b c a i hs t sb v (l.later q)) ?_;show(do let gD<-attributeBase o x env (aN o env);anE apos.atName;methodCall o x apos pos env gD (es.length+([]:List Keyword).length) (anQ pos (anx es env)) (backToKw pos (keywordEach [] env)))=_;rw[Nn m];refine bind_congr λgD=>bind_congr λ_=>?_;unfold methodCall;rw[Xf hs cv];have r:(apos.endLine==pos.line)=af:=beq_iff_eq.mpr (aog y);refine bind_congr λzp=>?_;unfold methodCallPos;rw[r]
 rfl
end
section
noncomputable abbrev DN(w:aF)(os:aM)(P Z:eY)(env:Env)(S:Loc)(own:Bool)(k:bT->List J->bT)(Q:aj->aA->Prop):Prop:=
 ∀a e s' c b it f,cS Z a->P it=ah->¬Own env it->cj w os (P.set it f) a e env S own s'->l6 w.params a s'.heap it c b->k c b e->Q (.ref it) s'
theorem cj.zq(b:cj w os P Z H env S own s):¬Own env s.heap.objs.size:=λh=>by exact c_ b λck c a=>gu (a.alive h) λf e=>absurd (bK e) (Nat.lt_irrefl _)
theorem cj.guard(a:cj w os P Z H env S own s)(c:o.isFreed=ag):P s.heap.objs.size=ah/\cj w os (P.set s.heap.objs.size o) Z H env S own {s with heap:=s.heap.push o}:=
 a.WN (λb x e=>anm _ e) B B (vG s.heap) (anr _ c)
theorem Xi(g:cj w os P Z H env S own s)(r:dw w.params Z v u)(h:iY v k H)(y:DN w os P Z env S own k Q):Wp w A (pyIter u) Q s:=by
 refine lI h λC c G j=>?_;refine kV (r8 g r c) λa f xs m D t q z I=>?_;obtain rfl:=D
 induction C using dj.casesOn with
 |li l=>refine wpAny_pyIter_list (items:=xs) ⟨f,t,q,m,z⟩ ?_;have e:∃f:Obj,f={cls:=bL "list_iterator",data:=aoS #[aot a,anU 0 0]}:=⟨_,B⟩;refine eP (g.guard (o:={cls:=bL "list_iterator",data:=aoS #[aot a,anU 0 0]}) B) λp o=>?_;rw[c]at j;exact y Z H _ _ _ _ _ (cS.refl Z) p g.zq o (.li (i:=0) ⟨_,anr _ B,B,B⟩ r) j
 |cb l=>
  refine wpAny_pyIter_tuple (items:=xs) ⟨f,t,q,m,z⟩ (eP (g.guard (o:={cls:=bL "tuple_iterator",data:=aoS #[aot a,anU 0 0]}) B) λp o=>?_);have F:v=.tup l:=by
   induction v using J.casesOn with
   |ref b=>exact c_ (Mf (show AN (H b)=_ from c)) λ_ _ e=>nomatch e
   |tup E=>cases aC.inj c;rfl
   |lst E=>exact nomatch aC.inj c
   |_=>exact cV c
  subst F;have e:(λx=>iO x (.tup l)=iO H (.tup l))=λ(_:bW)=>True:=funext λx=>propext ⟨λ_=>trivial,λ_=>B⟩;rw[e]at j;exact y Z H _ _ _ _ _ (cS.refl Z) p g.zq o (.cb (i:=0) ⟨_,anr _ B,B,B⟩ r) j
theorem GW{l h st:Int}(hs:st=1\/st=-1):bP.Range.rangeSize l h st=((if st=1 then(h-l).toNat else(l-h).toNat:Nat):Int):=by
 unfold bP.Range.rangeSize;rcases hs with rfl|rfl
 .rw [if_pos (by exact aH _),if_pos B];split<;>simp<;>lia
 .rw [if_neg (by decide:¬((-1:Int)>0)),if_neg (by decide:¬((-1:Int)=1)),show(-(-1:Int))=1 from B,Int.ediv_one];split<;>lia
theorem No{l h st:Int}(hs:st=1\/st=-1)(h1:-1000000<=l/\l<=1000000)(h2:-1000000<=h/\h<=1000000):bP.Range.small l h st=af:=by
 unfold bP.Range.small;have b:∀c:Int,-3000000<=c->c<=3000000->bP.Range.rangeFitsLong c=af:=λc a b=>by unfold bP.Range.rangeFitsLong;simp;exact⟨g4 a,g4 b⟩
 simp only[GW (l:=l) (h:=h) hs];rcases hs with rfl|rfl<;>simp only[aP,apx]<;>refine⟨⟨⟨⟨?_,?_⟩,?_⟩,?_⟩,.inr ?_⟩<;>first|(apply b<;>(try split)<;>(first|(refine(g4 h1.1 ?_)<;>(k_is;done))|(refine(g4 h1.2 ?_)<;>(k_is;done))|(refine(g4 h2.1 ?_)<;>(k_is;done))|(refine(g4 h2.2 ?_)<;>(k_is;done))|(k_is;done)|lia))|(simp only[gt_iff_lt];rw[if_pos (by lia)];apply b<;>lia)|(simp only[gt_iff_lt];rw[if_neg (by lia)];apply b<;>lia)
theorem Xj:bP.divisionGoesByPylong x (-1)=ag:=by
 unfold bP.divisionGoesByPylong;have e:((if((-1:Int)==0)=af then 0 else(-1:Int).natAbs.log2/30+1)>300)=False:=by have:(-1:Int).natAbs.log2/30+1=1:=B;rw[this];simp
 dsimp only[e];rfl
noncomputable abbrev Np(l u st:Int)(b a c:Tok):Obj:={cls:=bL "range",data:=aoS #[anU l b,anU u a,anU st c]}
theorem Nq{l u st:Int}{m tk:Nat}(c:cj w os P Z H env S own s)(le:cS fP Z)(sd:bP.Range.small l u st=af)(e:bP.Range.rangeSize l u st=(m:Int))(h:k (λ_=>True) (qu l st m) H)(f:DN w os P fP env S own k Q):
  Wp w A (pyIter (.ref s.heap.objs.size)) Q {s with heap:=s.heap.push (Np l u st GX GY GZ),toks:=tk}:=by
 refine(c.Dk (o:=Np l u st GX GY GZ) B).elim λi a=>wpAny_pyIter_range (anr _ B) sd ?_;exact e▸((a.toks.guard (o:={cls:=.type "range_iterator",dict:=ah,data:=.fields #[rawInt l,rawInt m,rawInt st],slots:=#[]}) B).elim λg b=>f _ _ _ _ _ _ _ (le.trans i) g (a.toks (t:=tk)).zq b (.hZ (anr _ B)) h)
theorem Xk{i:eY}{o:J}{x:aj}{vs:List J}{xs:List aj}{k:bT->List J->bT}{Q:aj->aA->Prop}(j:cj w os P Z H env S own s)(le:cS i Z)(r₁:dw w.params Z o x)(r₂:cX w.params Z vs xs)(h:nv o vs k H)(m:DN w os P i env S own k Q):x=.type "range"/\Wp w A (bo (.type "range") xs) (λx t=>Wp w A (pyIter x) Q t) s:=by
 induction h using Df.casesOn with
 |up h ch cf b c=>refine gT ((cf▸r₂:cX w.params Z [.int h] xs)) λ_ _ e g hY=>?_;obtain⟨y,eC⟩:=g;rw[e,eC,hY];exact⟨(ch▸r₁:dw w.params Z (.typ "range") x),call_range_1 (Nq j le (No (.inl B) ⟨by decide,by decide⟩ b) ((GW (.inl B)).trans (by rw[if_pos B,Int.sub_zero])) c m)⟩
 |Gi l h ch cf v z c=>refine gT ((cf▸r₂:cX w.params Z [.int l,.int h,.int (-1)] xs)) λ_ _ e g a=>gT a λ_ _ f r a=>gT a λ_ _ p C hY=>?_;refine gu g λy eC=>?_;obtain⟨E,q⟩:=r;refine gu C λD u=>?_;rw[e,eC,f,q,p,u,hY];exact⟨(ch▸r₁:dw w.params Z (.typ "range") x),call_range_3 (by decide) (Nq j le (No (.inr B) v z) (GW (.inr B)) c m) (.inl Xj)⟩
theorem gU.Xn(F:gU w os d n)(a2:i0 w os d){A:a9}{e:az}{S:Loc}{k:bT->List J->bT}{P Z:eY}{H:bW}{own:Bool}{env:Env}{s:aA}{Q:aj->aA->Prop}(y:fK A d)(h:q5 (U d) (n+1) e S k H)(L:cj w os P Z H env S own s)
  (M:DN w os P Z env S own k Q):Wp w A (aN e env) (λx m=>Wp w A (pyIter x) Q m) s:=by
 have gen:∀{e:az},ev (U d) n e S (λr=>iY r k) H->Wp w A (aN e env) (λx m=>Wp w A (pyIter x) Q m) s:=λh=>
  F.e y h L λX H₁ m r x D E u C=>Xi E u C λI G N ao g it Y p=>M I G N ao g it Y (D.trans p)
 induction e using aT with
 |Call f as v a1=>
  replace h:(match Gj S f with
   |true=>match v with
    |[]=>match jd as with
     |true=>ev (U d) n f S λj=>l2 (U d) n as S λg=>nv j g k
     |false=>λ_=>False
    |_=>λ_=>False
   |false=>ev (U d) n (.Call f as v a1) S λr=>iY r k) H:=h
  cases z:Gj S f with
  |false=>replace h:=z▸h;exact gen h
  |true=>
   replace h:=z▸h
   induction v using aE with
   |cons _ _=>exact False.elim h
   |nil=>
    cases hs:jd as with
    |false=>exact False.elim ((hs▸h:(match ag with
     |true=>ev (U d) n f S λj=>l2 (U d) n as S λg=>nv j g k
     |false=>λ_=>False) H))
    |true=>
     replace h:ev (U d) n f S (λj=>l2 (U d) n as S λg=>nv j g k) H:=(hs▸h:(match af with
     |true=>ev (U d) n f S λj=>l2 (U d) n as S λg=>nv j g k
     |false=>λ_=>False) H)
     refine Call_ (F.e y h L λX H₁ m j x D E u C=>?_) (by induction f using aT<;>first|rfl|exact d8 z);refine callWith_of (P:=λh=>∃q,(q=anR.frame\/q=anR.machine\/q=anR.boundFrame)/\bI (bp dW w) h (keeperOf x) q) (by rw[Nk hs];rfl) (λ_ h=>h) (Nl hs (F.l y C E λI G N g xs p V W ap=>?_));obtain⟨e,R⟩:=Xk V (D.trans p) (u.mono p) W ap M;exact e▸⟨⟨_,.inr (.inl B),bI.now⟩,R⟩
 |_=>exact gen h
end
section
variable{k:cZ}{Q:aj->aA->Prop}
theorem Nr(n:Nat)(i:Int):(if i<0 then n-(-i).toNat else min i.toNat n)=clamp n i:=by
 by_cases h:0<=i
 .exact (if_neg (Int.not_lt.mpr h)).trans (if_pos h).symm
 .have k:=Int.not_le.mp h;exact aB (apy (Int.neg_nonneg_of_nonpos (Int.le_of_lt k))) λm e=>(if_pos k).trans (((congrArg (λa:Int=>n-a.toNat) e).trans ((Int.toNat_sub n m).symm.trans (congrArg Int.toNat ((congrArg ((n:Int)-·) e).symm.trans ((Int.sub_neg ..).trans (Int.add_comm ..)))))).trans (if_neg h).symm)
theorem Xo(r:dw w.params Z l mx)(g:dw w.params Z u DO)(h:Mg n l=ae x)(h':Dd n u=ae y):∃lo hi,IsPart mx lo/\IsPart DO hi/\sliceBounds lo hi ah n=((x:Int),(y:Int),1):=by
 have a:∃lo,IsPart mx lo/\kms_lo lo n=x:=by
  induction l using J.casesOn with
  |none=>exact⟨ah,r▸.none,aC.inj h⟩
  |int f=>
   by_cases c:-16000000<=f/\f<=16000000
   .exact aB r λi e=>⟨ae f,e▸.int ..,(Nr n f).trans (aC.inj ((if_pos c).symm.trans h))⟩
   .exact cV ((if_neg c).symm.trans h)
  |_=>exact cV h
 have b:∃hi,IsPart DO hi/\kms_hi hi n=y:=by
  induction u using J.casesOn with
  |none=>exact⟨ah,g▸.none,aC.inj h'⟩
  |int f=>
   by_cases c:-16000000<=f/\f<=16000000
   .exact aB g λi e=>⟨ae f,e▸.int ..,(Nr n f).trans (aC.inj ((if_pos c).symm.trans h'))⟩
   .exact cV ((if_neg c).symm.trans h')
  |_=>exact cV h'
 exact c_ a λlo m ch=>c_ b λhi j cf=>⟨lo,hi,m,j,by rw[kms_bounds,ch,cf]⟩
theorem cj.Nt(a:cj w os P Z H env S own s){vs:List J}{xs:Array aj}(r:cX w.params Z vs xs.toList)(h:eX (.list vs) k H)(c:hL w os P Z env S own k Q):Q (.ref s.heap.objs.size) {s with heap:=s.heap.push {cls:=bL "list",data:=aow xs}}:=
 a.newList (s':={s with heap:=s.heap.push {cls:=bL "list",data:=aow xs}}) (n:=0) (λb f e=>anm _ e) B B (vG _) (anr _ B) r h c
theorem Xp(g:gU w os d n)(f:fK A d)(ap:cj w os P Z H env S own s)(h:ev (U d) n v S (λo=>vE (U d) n l S λq=>vE (U d) n u S λC=>mv o q C k) H)(a1:hL w os P Z env S own k Q):
  Wp w A (aN (.Subscript v (.Slice l u ah p) pos) env) Q s:=by
 refine Subscript_ (g.e f h ap λcg H₁ co o x bV b5 I bd=>wpAny_Slice (g.o f bd b5 λci cd cr q cc j L M b7=>g.o f b7 L λV cm bZ C Y c D N a2=>bf ?_));refine w8 a2 λr a b R i t y bY=>?_;refine kV (r8 D ((I.mono j).mono c) R) λW lo xs m b2 ch cf eC hY=>?_;obtain rfl:=b2;have len:r.length=xs.size:=by have:=hY.length;simpa[lq]using this
 rw[len]at i t y;refine gT (Xo (M.mono c) N t y) λE cb ao X F=>eP (D.Dk (o:={cls:=bL "slice",data:=aoS #[cc,Y,aj.none]}) B) λz G=>tail_any (ops:=[.ref bZ.heap.objs.size,.ref W]) (T:="list") ⟨lo,anm _ ch,cf⟩ slot_list_getitem.lookup ?_ B;refine wpAny_getItem_list_slice (lo:=E) (hi:=cb) (st:=ah) (items:=xs) ⟨lo,anm _ ch,cf,m,eC⟩ (aD.IsSliceOf.new ..) ao X .none (by simp) ?_ (by rw[bQ];exact fa i B);refine(kmk_pick_nat xs F)▸?_;have ca:cX w.params V ((r.take b).drop a) ((xs.toList.drop a).take (b-a)).toArray.toList:=by rw[List.drop_take];exact cX.take _ (cX.drop _ hY)
 exact G.Nt (ca.mono z) bY (a1.later (((bV.trans j).trans c).trans z))
theorem Xw(r:gU w os d n)(p:fK A d)(m:cj w os P Z H env S own s)(h:l2 (U d) n es S (λvs H=>vs.length<=16000000/\(match Gk es pos with|true=>eX (.list vs) k H|false=>k (.lst vs) H)) H)(e:hL w os P Z env S own k Q):
  Wp w A (aN (.List es pos) env) Q s:=by
 refine wpAny_List_spliced (r.l p h m λt H₁ u vs xs g i b q=>?_);refine eP q λcv a=>⟨by rw[bQ];exact F8 cv b.length B,?_⟩;cases f:Gk es pos with
 |true=>replace a:=f▸a;exact i.Nt (xs:=xs.toArray) b a (e.later g)
 |false=>replace a:=f▸a;exact eP (i.Dk (o:={cls:=bL "list",data:=aow xs.toArray}) B) λc j=>e _ _ _ (.lst vs) _ (g.trans c) j ⟨_,_,_,_,B,eY.Gr ..,B,B,by exact b.mono c⟩ a
theorem Xx(C:gU w os d n)(v:fK A d)(t:cj w os P Z H env S own s)(h:l2 (U d) n es S (λvs H=>vs.length<=16000000/\(match Gl pos with|true=>l0 vs (λus=>k (.tup us)) H|false=>k (.tup vs) H)) H)(u:hL w os P Z env S own k Q):
  Wp w A (aN (.Tuple es c pos) env) Q s:=by
 refine wpAny_Tuple_spliced (C.l v h t λD H₁ f vs xs q r i y=>?_);refine eP y λcv g=>⟨by rw[bQ];exact F8 cv i.length B,?_⟩;have fin:∀{a:eY}{e:bW}{us:List J},cS Z a->cj w os P a e env S own f->cX w.params a us xs->k (.tup us) e->Q (.ref f.heap.objs.size) {f with heap:=f.heap.push {cls:=bL "tuple",data:=aow xs.toArray}}:=by intro a e us le j m V;exact eP (j.Dk (o:={cls:=bL "tuple",data:=aow xs.toArray}) B) λb z=>u _ _ _ (.tup us) _ (le.trans b) z ⟨_,_,_,_,B,eY.Gr ..,B,B,by exact m.mono b⟩ V
 cases p:Gl pos with
 |true=>rw[p]at g;exact mn (GQ r i g) λa e us b j m x=>fin (q.trans b) j m x
 |false=>rw[p]at g;exact fin q r i g
theorem Nu{K:Type}[DecidableEq K]{b:Program}{knd:PySem.KeyKind b w K}{h:aD}{a:ai}(e:h.get? a=ae anw):h.DictOf knd a []:=
 ⟨_,_,_,e,⟨B,B,B⟩,B,(λx h=>nomatch h),.nil,aol⟩
theorem cj.Xy(v:cj w os (P.set a o) Z H env S own s)(no:¬Own env a)(i:P a=ah)(k:∀b x,b≠a->s.heap.get? b=ae x->s'.heap.get? b=ae x)(g:s'.gens=s.gens)(q:s'.os=s.os)(n:∀ck,n_ w Z ck s'.heap a ao):
  H a=ah/\cj w os P Z (H.set a ao) env S own s':=by
 refine c_ v λck m u=>iw (m.hK a o (if_pos B)) λr j l=>?_;have x:Out P Z ck H a:=⟨i,r,j,l⟩;have D:fO w os P Z ck H s':=(m.nz i).move (λb x t e=>k b x (λh=>t (h▸⟨i,r,j,l⟩)) e) g q;have ne:∀b,Own env b->b≠a:=λb h e=>no (e▸h);have f:=u.nz i;refine⟨j,ck,D.new x (n ck),f.keep (λb o C e=>k b o (ne b C) e) (cS.refl Z) ⟨f.out.p,f.out.z,?_,f.out.o⟩ λy c e=>⟨(f.cells y c e).2.1,?_,(f.cells y c e).2.2.2.1,(f.cells y c e).2.2.2.2.1⟩⟩
 .show (if _ then _ else _)=ah;rw[if_neg (ne _ (.inl B))];exact f.out.h
 .show (if _ then _ else _)=ah;rw[if_neg (ne _ (.inr ⟨y,e⟩))];exact(f.cells y c e).2.2.1
theorem Nv{o:hg}(a:cj w os P Z H env S own s){pos:Pos}(b:o=.iM []\/o=.ki [])(h:eX o k H)(c:hL w os P Z env S own k Q):Wp w A (aN (.Dict [] [] pos) env) Q s:=by
 refine wpAny_Dict_empty ?_;have hd:(s.heap.push anw).get? s.heap.objs.size=ae anw:=anr _ B;have n:∀ck,n_ w Z ck (s.heap.push anw) s.heap.objs.size o:=by
  rcases b with rfl|rfl
  .exact λck=>⟨[],Nu hd,B,B⟩
  .exact λck=>⟨[],⟨_,_,_,hd,⟨B,B,B⟩,B,B,(λx h=>nomatch h),aol⟩,B,B,λx h=>nomatch h⟩
 exact eP (a.U8 n) λe f=>c _ _ _ (.ref _) _ (cS.refl Z) f B (h _ e)
theorem Xz(N:gU w os d n)(v:fK A d){a:List (Option az)}{es:List az}{pos:Pos}(i:cj w os P Z H env S own s)(hd:zf a es=af)(cv:a.length<=15)(u:a≠[])(h:xe (U d) n a es S (λps=>eX (.eJ (ps.foldl (λe q=>put q.1 q.2 e) [])) k) H)(t:hL w os P Z env S own k Q):
  Wp w A (aN (.Dict a es pos) env) Q s:=by
 refine eP (W3 (pos:=pos) (env:=env) hd) λI f=>wpAny_Dict_pairs (knd:=strKind dW w) I (λe=>u (aqc (by rw[<-f,e];rfl))) (w6 cv f B) ?_;obtain⟨R,L⟩:=i.guard (o:={cls:=bL "dict",data:=Data.dict #[]}) B;refine N.dd v h L λr W j ps c xs l g y D m M=>⟨c,y,Nu g.q7,λE C V=>?_⟩;exact eP (GI (w:=w) (Z:=r) (fs:=ps) (gs:=c) (es:=[]) (us:=[]) D m B B aol) λp G=>eP (g.Xy (s':={j with heap:=E,toks:=j.toks+xs.length}) (ao:=.eJ (ps.foldl (λe q=>put q.1 q.2 e) [])) i.zq R (λb x z e=>(V.2 b z).trans e) B B λck=>⟨_,C,p,G⟩) λe F=>t _ _ _ (.ref _) _ l F B (M _ e)
end
section
open Classical in
set_option tactic.hygienic true in
theorem XA(R:fO w os P Z ck H s)(F:l4 w.params P Z ck H s.heap env S own):∃i,fO w os i Z ck H s/\(∀b,¬Own env b->i b=P b)/\(∀b,Own env b->i b=s.heap.get? b)/\∀Z' g j s',cS Z Z'->fO w os i Z' g j s'->cj w os P Z' j env S own s':=by
 refine⟨λb=>if Own env b then s.heap.get? b else P b,⟨λb a e=>?_,R.gw,R.base,R.abs,λb a e=>?_,R.j4,R.jD,R.gens,R.os_⟩,λb h=>if_neg h,λb h=>if_pos h,λZ' g j s' le f=>?_⟩
 .replace e:(if Own env b then s.heap.get? b else P b)=ae a:=e;split at e
  .exact e
  .exact R.j3 b a e
 .replace e:(if Own env b then s.heap.get? b else P b)=ae a:=e;split at e
  .rename_i m;exact F.zk m
  .exact R.hK b a e
 .have sub:∀b a,P b=ae a->(λb=>if Own env b then s.heap.get? b else P b) b=ae a:=λb a e=>by
   show(if Own env b then s.heap.get? b else P b)=ae a;split
   .exact R.j3 b a e
   .exact e
  have k:∀b,Own env b->∀a,s.heap.get? b=ae a->(Z' b=ah/\j b=ah/\g b=ah)/\s'.heap.get? b=ae a:=λb l a e=>by
   have:(λb=>if Own env b then s.heap.get? b else P b) b=ae a:=by show(if Own env b then s.heap.get? b else P b)=ae a;rw[if_pos l];exact e
   exact⟨f.hK b a this,f.j3 b a this⟩
  refine⟨g,⟨λb a e=>f.j3 b a (sub b a e),f.gw,f.base,f.abs,λb a e=>f.hK b a (sub b a e),f.j4,f.jD,f.gens,f.os_⟩,F.keep (λb a l e=>(k b l a e).2) le ?_ λy c e=>?_⟩
  .obtain ⟨a,e⟩:=F.alive (.inl B);have:=(k _ (.inl B) a e).1;exact⟨F.out.p,this.1,this.2.1,this.2.2⟩
  .obtain ⟨a,o⟩:=F.alive (.inr ⟨y,e⟩);have:=(k _ (.inr ⟨y,e⟩) a o).1;exact⟨this.1,this.2.1,this.2.2,(F.cells y c e).2.2.2.2.1⟩
set_option tactic.hygienic true in
theorem fO.G0(R:fO w os P Z ck H s)(x:Out P Z ck H a)(h:s.heap.get? a=ae o):fO w os (P.set a o) Z ck H s:=
 ⟨λb y e=>by
  replace e:(if b=a then ae o else P b)=ae y:=e;split at e
  .rename_i c;cases e;exact c▸h
  .exact R.j3 b y e,R.gw,R.base,R.abs,λb y e=>by
  replace e:(if b=a then ae o else P b)=ae y:=e;split at e
  .rename_i c;exact c▸(⟨x.z,x.h,x.o⟩)
  .exact R.hK b y e,R.j4,R.jD,R.gens,R.os_⟩
theorem Nw(h:a≠b):(P.set a x).set b y=(P.set b y).set a x:=by
 funext c;show(if c=b then ae y else if c=a then ae x else P c)=if c=a then ae x else if c=b then ae y else P c
 by_cases f:c=b
 .subst f;rw[if_pos B,if_neg (Ne.symm h),if_pos B]
 .rw [if_neg f];by_cases e:c=a
  .rw [if_pos e,if_pos e]
  .rw [if_neg e,if_neg e,if_neg f]
theorem cj.weaken(f:cj w os P Z H env cI own s)(h:∀y sl,look y S=ae sl->look y cI=ae sl\/(sl=.un/\∃v,look y cI=ae (.Y v))):cj w os P Z H env S own s:=by
 refine c_ f λck g a=>c_ a.names λm N c=>⟨ck,g,a.kind,a.glob,a.out,a.up,a.cells,a.uc,m,N,λy sl e=>?_⟩;rcases h y sl e with b|⟨rfl,v,b⟩
 .exact c y sl b
 .exact (c y _ b).1
theorem Nx(h:xd S x=af):∀y sl,look y S=ae sl->look y (put x (.Y v) S)=ae sl\/(sl=.un/\∃b,look y (put x (.Y v) S)=ae (.Y b)):=by
 intro y sl e;rw[vP];cases a:sEq x y with
 |true=>
  have:=kE a;subst this;dsimp only[xd]at h;replace h:=e▸h
  induction sl using d6.casesOn with
  |un=>exact .inr ⟨B,v,B⟩
  |_=>exact d8 h
 |false=>exact .inl e
theorem Wp.to(h:Wp w A t Q s):wpAny (bp dW w) A t Q E s:=api h (λ_ _ x=>x) λ_ _ x=>x.elim
theorem l6.self{it:ai}{src:bT}{vs:List J}{Q:aj->aA->Prop}(x:l6 w.params Z s.heap it src vs)(h:Q (.ref it) s):Wp w A (pyIter (.ref it)) Q s:=by
 induction x using l6.casesOn with
 |li a b=>exact wpAny_pyIter_listiter a h
 |cb a b=>exact wpAny_pyIter_tupleiter a h
 |hZ a=>exact wpAny_pyIter_rangeiter a h
noncomputable def my(env:Env):List (Str×aR)->List (Str×ai)->List (Str×ai)
 |[],a=>a
 |(n,.free)::r,a=>my env r (match env.cells.lookup n with|some c=>(n,c)::a|none=>a)
 |_::r,a=>my env r a
theorem G1:∀(g:List (Str×aR))(b:List (Str×ai)),(∀n,(n,aR.free)∈g->∃c,env.cells.lookup n=ae c)->
  (forIn g b (λ(q:Str×aR) r=>(match q with|(name,kind)=>if(kind==.free)=af then do let a<-cellOf env name;pure (ForInStep.yield ((name,a)::r))else pure (ForInStep.yield r):Sem (ForInStep (List (Str×ai))))))=pure (my env g b)
 |[]=>λb _=>B
 |(n,k)::r=>λb h=>by
  rw[List.forIn_cons]
  induction k using aR.casesOn with
  |free=>
   refine gu (h n (a4 ..)) λc e=>?_;have ch:cellOf env n=pure c:=by dsimp only[cellOf];rw[e]
   have cf:my env ((n,.free)::r) b=my env r ((n,c)::b):=by show my env r (match env.cells.lookup n with|some c=>(n,c)::b|none=>b)=_;rw[e]
   rw[cf,<-G1 r _ λi f=>h i (aY _ f)];show((do let a<-cellOf env n;pure (ForInStep.yield ((n,a)::b))) >>= _)=_;rw[ch]
   rfl
  |_=>rw[show my env ((n,_)::r) b=my env r b from B,<-G1 r _ λi f=>h i (aY _ f)];rfl
theorem XB(h:∀n,(n,aR.free)∈sc.names->∃c,env.cells.lookup n=ae c):closureFor sc env=pure (my env sc.names []):=by dsimp only[closureFor];have:=G1 (env:=env) sc.names [] h;rw[bind_pure];exact this
theorem DP:∀(g:List (Str×aR))(b:List (Str×ai))(x:Str)(c:ai),(my env g b).lookup x=ae c->b.lookup x=ae c\/env.cells.lookup x=ae c
 |[]=>λb x c h=>.inl h
 |(n,k)::r=>λb x c h=>by
  induction k using aR.casesOn with
  |free=>
   rcases DP r _ x c h with a|a
   .cases e:env.cells.lookup n with
    |none=>replace a:=e▸a;exact .inl a
    |some i=>
     rw[e]at a;dsimp only at a;rw[bu]at a;cases f:x==n with
     |true=>replace a:=f▸a;have:=beq_iff_eq.mp f;subst this;exact .inr (e.trans a)
     |false=>replace a:=f▸a;exact .inl a
   .exact .inr a
  |_=>exact DP r b x c h
theorem Ny:∀(l:List (Str×aR))(a:List (Str×ai))(x:Str)(c:ai),env.cells.lookup x=ae c->(x,aR.free)∈l\/a.lookup x=ae c->(∀b,a.lookup x=ae b->b=c)->(my env l a).lookup x=ae c
 |[]=>λa x c _ h _=>h.resolve_left (by simp)
 |(n,k)::r=>λa x c e h i=>by
  have step:∀f,(x,aR.free)∈r\/f.lookup x=ae c->(∀b,f.lookup x=ae b->b=c)->(my env r f).lookup x=ae c:=λf=>Ny r f x c e
  induction k using aR.casesOn with
  |free=>
   show(my env r (match env.cells.lookup n with|some c=>(n,c)::a|none=>a)).lookup x=ae c;by_cases j:x=n
   .subst j;rw[e];have:((x,c)::a).lookup x=ae c:=by rw[bu,beq_self_eq_true]
    exact step _ (.inr this) λb g=>by replace g:=this▸g;cases g;rfl
   .have hh:(x,aR.free)∈r\/a.lookup x=ae c:=by
     rcases h with h|h
     .rcases aI.mp h with h|h
      .cases h;exact absurd B j
      .exact .inl h
     .exact .inr h
    cases g:env.cells.lookup n with
    |none=>exact step _ hh i
    |some b=>
     have:((n,b)::a).lookup x=a.lookup x:=by
      rw[bu];have:(x==n)=ag:=by simpa using j
      rw[this]
     exact step _ (this▸hh) (this▸i)
  |_=>
   refine step a ?_ i;rcases h with h|h
   .rcases aI.mp h with h|h
    .cases h
    .exact .inl h
   .exact .inr h
end
section
theorem XC{o:Option d6}(h:(match o with|some (.iN _)=>af|_=>ag)=af):∃v,o=ae (.iN v):=by
 induction o using a_ with
 |none=>exact d8 h
 |some y=>induction y using d6.casesOn with
  |iN v=>exact⟨v,B⟩
  |_=>exact d8 h
theorem Bb:∀{a:List (Str×aR)},Dg S a=af->∀{x:Str}{k:aR},(x,k)∈a->a.lookup x=ae k/\(k=.local\/(k=.free/\∃v,look x S=ae (.iN v))\/(k=.globalImplicit/\∃v,r4 x=ae v))
 |(n,k)::r,h,x,k',hm=>by
  replace h:(!(r.any λb=>sEq b.1 n)&&(match(generalizing:=false) k with
   |.local=>af
   |.free=>(match look n S with|some (.iN _)=>af|_=>ag)
   |.globalImplicit=>(r4 n).isSome
   |_=>ag)&&Dg S r)=af:=h
  replace h:=(aP ..).mp h;have f:=h.2;replace h:=(aP ..).mp h.1;have i:=(apn _).mp h.1;replace h:=h.2;rcases aI.mp hm with e|e
  .cases e;refine⟨by rw[bu,beq_self_eq_true],?_⟩
   induction k using aR.casesOn with
   |«local»=>exact .inl B
   |free=>refine .inr (.inl ⟨B,?_⟩);exact XC h
   |globalImplicit=>exact .inr (.inr ⟨B,apS.mp h⟩)
   |_=>exact d8 h
  .refine eP (Bb f e) λc g=>⟨?_,g⟩;rw[bu];have:(x==n)=ag:=by
    cases j:x==n with
    |false=>rfl
    |true=>have:=beq_iff_eq.mp j;subst this;have:=List.any_eq_false.mp i _ e;rw[xg]at this;exact absurd B this
   exact this▸c
theorem Nz:∀{c:List (Str×aR)}{x:Str}{sl:d6},look x (c.map λq=>(q.1,xc S q))=ae sl->∃k,(x,k)∈c/\sl=xc S (x,k)
 |(n,k)::r,x,sl,h=>by
  replace h:(match sEq n x with|true=>ae (xc S (n,k))|false=>look x (r.map λq=>(q.1,xc S q)))=ae sl:=h;cases q:sEq n x with
  |true=>replace h:=q▸h;cases h;have:=kE q;subst this;exact⟨k,a4 ..,B⟩
  |false=>replace h:=q▸h;refine c_ (Nz h) λe a b=>?_;exact⟨e,aY _ a,b⟩
theorem NA{sc:Scope}{x:Str}{k:aR}:∀{b:List (Str×aR)},b.lookup x=ae k->
  (b.map λ(n,k)=>if(k==aR.free&&env.scope.kind==.function&&env.kindOf n==ae .cell)then(n,aR.cell)else(n,k)).lookup x=ae (if(k==aR.free&&env.scope.kind==.function&&env.kindOf x==ae .cell)=af then .cell else k)
 |(n,k')::r,h=>by
  show aoL x ((if(k'==aR.free&&env.scope.kind==.function&&env.kindOf n==ae .cell)=af then(n,aR.cell)else(n,k'))::_)=_;rw[bu]at h;cases a:x==n with
  |true=>replace h:=a▸h;cases h;have:=beq_iff_eq.mp a;subst this;split<;>rw[bu,beq_self_eq_true]
  |false=>rw[a]at h;split<;>rw[bu,a]<;>exact NA (sc:=sc) h
theorem XD{sc:Scope}{x:Str}{C:ai}{o:eY}(F:l4 w.params P Z ck H s.heap env S own)(E:ub sc S x=af)(v:Out o Z ck H C)(no:¬Own env C)(up:1235<=C)(N:s.heap.Ns C λ_=>ah):
  l4 w.params o Z ck H s.heap (compEnvC sc (my env sc.names []) C env) (q4 sc S) ag:=by
 refine eP ((aP ..).mp E) λG lj=>?_;refine eP ((aP ..).mp G) λeO f_=>?_;refine c_ F.names λm L D=>?_;have cl:∀{y:Str}{c:ai},(my env sc.names []).lookup y=ae c->env.cells.lookup y=ae c:=λ{y c} e=>(DP _ _ _ _ e).resolve_left (by simp);refine⟨?_,F.glob,v,up,λy c e=>?_,λy q c e j=>F.uc y q c (cl e) (cl j),_,N,λy M e=>?_⟩
 .show (relabel sc env).kind=.function;show sc.kind=.function;cases f:sc.kind<;>replace eO:=f▸eO<;>first|rfl|exact d8 eO
 .have h:=F.cells y c (cl e);exact⟨λf=>no (show Own env C from(show c=C from f)▸.inr ⟨y,cl e⟩),h.2.1,h.2.2.1,h.2.2.2.1,(λf=>nomatch f),h.2.2.2.2.2⟩
 .refine c_ (Nz e) λk p z=>?_;obtain rfl:=z;obtain⟨l,c⟩:=Bb f_ p;have i:(compEnvC sc (my env sc.names []) C env).kindOf y=ae (if(k==aR.free&&env.scope.kind==.function&&env.kindOf y==ae .cell)=af then .cell else k):=NA (sc:=sc) l;rcases c with rfl|⟨rfl,b,g⟩|⟨rfl,b,g⟩
  .exact i
  .have bX:=D y _ g;refine C' bX λa c t j u r=>?_;have:xc S (y,.free)=.iN b:=by show(match look y S with|some (.iN b)=>d6.iN b|_=>.un)=_;rw[g]
   refine this▸?_;have I:env.scope.kind=.function:=F.kind;refine⟨by rw[i,a,I];rfl,c,t,Ny _ _ _ _ j (.inl p) (by simp),u,r⟩
  .have:xc S (y,.globalImplicit)=.gl b:=by show(match r4 y with|some b=>d6.gl b|none=>.un)=_;rw[g]
   exact this▸⟨i,g⟩
end
section
noncomputable abbrev iz(xs:Array aj)(n:Nat):Obj:={cls:=.type "list",dict:=ah,data:=.seq xs n,slots:=#[]}
theorem XE(f:cj w os (P.set a (iz xs m)) Z H env S own s)(no:¬Own env a)(cv:xs.size<=16000000)
  (h:∀s' g,cj w os (P.set a (iz (xs.push u) g)) Z H env S own s'->Q .none s'):Wp w A (bo (.builtin "list.append") [.ref a,u]) Q s:=by
 have c:IsL s.heap a xs m:=f.q7;refine call_meets PySem.F.slot_list_append (show s.TypeIs (.ref a) "list" from⟨_,c,B⟩) PySem.F.entry_list_append (PySem.F.args_list_append_2 ..) (PySem.list_append a xs m u (bQ▸(fa cv B))) ⟨c,?_⟩;exact h _ _ (f.DG no (λb j i e=>((aof.update ..).2 b i).trans e) B B (IsL.update c _))
noncomputable def se(d n:Nat)(f:az)(x:Str)(g:List az)(a:Loc)(v:J)(e:Option J->bT):bT:=match g with
 |[]=>ev (U d) n f (put x (.Y v) a) λr=>e (ae r)
 |[c]=>iZ (U d) n c (put x (.Y v) a) λb=>b6 b (ev (U d) n f (put x (.Y v) a) λr=>e (ae r)) (e ah)
 |_=>λ_=>False
class inductive G3(w:aF)(os:aM)(P Z:eY)(it acc:ai)(src:bT)(F:List J->List J->bT)(env:Env)(S:Loc)(s:aA):Nat->Prop
 |mk {Z' bV eM xs m nA rs}:cS Z Z'->cj w os ((P.set acc (iz xs m)).set it eM) Z' bV env S ag s->l6 w.params Z' s.heap it src nA->cX w.params Z' rs xs.toList->rs.length+nA.length<=16000000->F nA rs bV->G3 w os P Z it acc src F env S s nA.length
theorem XF(D:gU w os d n)(p:fK A d){F:List J->bT}{T:aA->Prop}{E:aj->aA->Prop}{X:aj->Sem aj}(ce:xd S x=af)(ap:env.kindOf x=ae .local)
  (R:cj w os P Z H env S ag s)(bV:dw w.params Z v u)(h:se d n elt x ifs S v (λy=>F (match y with|some z=>rs++[z]|none=>rs)) H)
  (L:∀f g a,cS Z f->cj w os P f g env S ag a->F rs g->T a)
  (N:∀f g a y z,cS Z f->cj w os P f g env S ag a->dw w.params f y z->F (rs++[y]) g->Wp w A (X z) (λ_=>T) a):
  wpAny (bp dW w) A (bE (.Name x px) env u) (λ_ a1=>wpAny (bp dW w) A (forIn ifs af λc r=>if r=af then do let m<-isTrue c env (aN c env);pure (ForInStep.yield m)else pure (ForInStep.yield r)) (λm o=>
   if m=af then wpAny (bp dW w) A (aN elt env) (λx a=>wpAny (bp dW w) A (X x) (λ_=>T) E a) E o else T o) E a1) E s:=by
 have a2:setName S x v (λC Q=>C=put x (.Y v) S/\H=Q) H:=by
  unfold setName;unfold xd at ce;cases q:look x S with
  |none=>replace ce:=q▸ce;exact d8 ce
  |some bY=>replace ce:=q▸ce;induction bY using d6.casesOn with
   |un=>exact⟨B,B⟩
   |_=>exact d8 ce
 refine Wp.to (assign_Name (DH R bV (.inr (by refine ap▸?_;intro e;cases e)) a2 λC o k M=>?_));replace k:=M.1▸k;have G:∀{f g a},cS Z f->cj w os P f g env (put x (.Y v) S) ag a->ev (U d) n elt (put x (.Y v) S) (λy=>F (rs++[y])) g->wpAny (bp dW w) A (aN elt env) (λx a=>wpAny (bp dW w) A (X x) (λ_=>T) E a) E a:=
  λj i l=>Wp.to (D.e p l i λbZ b5 b2 y z I V W bd=>Wp.to (N _ _ _ _ _ (j.trans I) (V.weaken (Nx ce)) W bd))
 induction ifs using aE with
 |nil=>exact bf (G (cS.refl _) k h)
 |cons c ao=>
  induction ao using aE with
  |cons _ _=>exact False.elim h
  |nil=>
   rw[List.forIn_cons];refine aV (aV (Wp.to (D.t p (show iZ (U d) n c (put x (.Y v) S) (λb=>b6 b (ev (U d) n elt (put x (.Y v) S) λy=>F (rs++[y])) (F rs)) H from h) k λf g a b j i l=>bf (bf ?_))))
   induction b using aS with
   |true=>exact G j i l
   |false=>exact L _ _ _ j (i.weaken (Nx ce)) l
theorem XJ(b7:gU w os d n)(I:fK A d){b iter:az}{x:Str}{px pos:Pos}{f:List az}{sc:Scope}{it acc:ai}{o:Obj}{src:bT}{vs:List J}{c:List J->bT}{R:Result->aA->Prop}(qy:it≠acc)(bZ:P it=ah)(cc:P acc=ah)(a2:¬Own env it)(Y:¬Own env acc)(ce:xd S x=af)(bd:env.kindOf x=ae .local)
  (ao:cj w os ((P.set acc (iz #[] 0)).set it o) Z H env S ag s)(hit:l6 w.params Z s.heap it src vs)(cv:vs.length<=16000000)(h:ix src (se d n b x f S) c vs [] H)
  (oe:∀Z' D s' rs xs m,cS Z Z'->cj w os (P.set acc (iz xs m)) Z' D env S ag s'->cX w.params Z' rs xs.toList->c rs D->R (.ok .next) s'):
  codeAny (bp dW w) A (.compLoop (.ListComp b [⟨.Name x px,iter,f,0⟩] sc pos) 0 (.ref it) (.ref acc) env) R s:=by
 refine codeAny_compLoop_tests (λk s=>G3 w os P Z it acc src (ix src (se d n b x f S) c) env S s k) (λk s Q=>?_) vs.length (.mk (rs:=[]) (cS.refl Z) ao hit B (by simpa using cv) h) (λt=>B);generalize notedBy (bp dW w) A env (λe s'=>R (.error e) s')=E
 induction Q using G3.casesOn with
 |@mk cd H₁ ci xs m M rs u b2 ap i ca q=>
 have cb:(P.set acc (iz xs m)) it=ah:=(if_neg qy).trans bZ;refine Wp.to (Nc b2 a2 cb I.1 ap (by induction M using aE<;>exact q.1) (λe bY j=>?_) λt r e bY W co j b5 L _=>?_)
 .exact oe _ _ _ _ _ _ u j i (e▸q:ix src (se d n b x f S) c [] rs H₁).2
 .have z:=j.q7;have N:r.length<M.length:=e▸apz _;have p:rs.length+(r.length+1)<=16000000:=(e▸ca:rs.length+(t::r).length<=16000000);refine XF b7 I ce bd j b5 (F:=λk=>ix src (se d n b x f S) c r k) (e▸q:ix src (se d n b x f S) c (t::r) rs H₁).2 (λV bV X a g v=>?_) λV bV X y C a g a1 v=>?_
  .exact ⟨_,N,.mk (u.trans a) g (L.keep a λo e=>(z.symm.trans e)▸g.q7) (i.mono a) (w7 p) v⟩
  .have G:=g;rw[Nw (Ne.symm qy)]at G;refine XE (u:=C) G Y (by rw[<-aoy,<-i.length];exact aq (bq ..) p) λcm cg l=>?_;replace l:=(Nw qy)▸l;exact⟨_,N,.mk (xs:=xs.push C) (rs:=rs++[y]) (u.trans a) l (L.keep a λo e=>(z.symm.trans e)▸l.q7) (by rw[Array.toList_push];exact(i.mono a).append (.cons a1 .nil)) (by simp only[bA,anC,List.length_nil];exact AC p) v⟩
end
section
variable{k:cZ}{Q:aj->aA->Prop}
theorem NF{n:Nat}{k:bT->List J->bT}(h:q5 dy n e S k H):∀env x,foldedSetIterable e env x=pure x:=by
 intro env x
 induction n using ant with
 |zero=>exact False.elim h
 |succ n=>
  induction e using aT with
  |Set l k a=>exact((noStar (show ev dy n (.Set l k a) S _ H from h)).2 _ _ _ B).elim
  |_=>rfl
theorem XO(F:l4 w.params P Z ck H s.heap env S own)(cf:∀b,Own env b->∀o,s.heap.get? b=ae o->Pb b=ae o)(sub:∀b o,Pa b=ae o->Pb b=ae o)(h:∀b,Own env b->P b=ah->Pa b=ah)(le:cS Z Z')(a:fO w os Pb Z' ik bV s'):cj w os Pa Z' bV env S own s':=by
 have g:∀b,Own env b->∀o,s.heap.get? b=ae o->(Z' b=ah/\bV b=ah/\ik b=ah)/\s'.heap.get? b=ae o:=λb f o e=>⟨a.hK b o (cf b f o e),a.j3 b o (cf b f o e)⟩;refine⟨ik,⟨λb o e=>a.j3 b o (sub b o e),a.gw,a.base,a.abs,λb o e=>a.hK b o (sub b o e),a.j4,a.jD,a.gens,a.os_⟩,F.keep (λb o f e=>(g b f o e).2) le ?_ λy c e=>?_⟩
 .obtain ⟨o,e⟩:=F.alive (.inl B);have:=(g _ (.inl B) o e).1;exact⟨h _ (.inl B) F.out.p,this.1,this.2.1,this.2.2⟩
 .obtain ⟨o,j⟩:=F.alive (.inr ⟨y,e⟩);have:=(g _ (.inr ⟨y,e⟩) o j).1;exact⟨this.1,this.2.1,this.2.2,λi=>h _ (.inr ⟨y,e⟩) ((F.cells y c e).2.2.2.2.1 i)⟩
set_option tactic.hygienic true in
theorem NG(cs:gU w os d n)(cd:fK A d)(ao:ub sc S x=af)
  (h:q5 (U d) n zr S (λsrc vs H=>vs.length<=16000000/\ix src (se d n elt x ifs (q4 sc S)) (λrs=>k (.lst rs)) vs [] H) H)(cc:cj w os P Z H env S own s)
  (dd:∀Z' a2 s' rs acc C l m,cS Z Z'->P C=ah->¬Own env C->cj w os (P.set C l) Z' a2 env S own s'->(∀h:aD,h.get? C=ae l->h.Ns C m)->dw w.params Z' (.lst rs) (.ref acc)->k (.lst rs) a2->compPost (bp dW w) A (λ_ _=>False) use Q (.ref acc) C (.ok .next) s'):
  Wp w A (comprehension (.ListComp elt [⟨.Name x px,zr,ifs,0⟩] sc pos) sc env (firstIterPos [⟨.Name x px,zr,ifs,0⟩] pos) (newList []) ag (aN zr env) use) Q s:=by
 refine eP ((aP ..).mp ao) λdk lj=>?_;refine eP ((aP ..).mp dk) λeO f_=>?_;have cr:sc.kind=.function:=by cases j:sc.kind<;>replace eO:=j▸eO<;>first|rfl|exact d8 eO
 have dc:∀n,(n,aR.free)∈sc.names->∃c,env.cells.lookup n=ae c:=by
  intro y t;refine eP (Bb f_ t) λ_ c=>?_;rcases c with c|⟨_,dr,dm⟩|⟨c,_⟩
  .cases c
  .exact c_ cc λck G M=>c_ M.names λm N bV=>Gb (bV y _ dm) λ_ c _ e _=>⟨c,e⟩
  .cases c
 have cU:∀y∈sc.names,y.2≠.cell:=by
  rintro⟨y,k⟩ t e
  dsimp only at e;subst e;refine eP (Bb f_ t) λ_ c=>?_;rcases c with c|⟨c,_⟩|⟨c,_⟩<;>cases c
 refine wpAny_comprehension_free (cl:=my env sc.names []) B (NF h env) (XB dc) cr (λy t e=>by obtain⟨y,k⟩:=y;dsimp only at e;subst e;exact(Bb f_ t).1) (cs.i cd h cc λL H₁ f src vs it g di E no b2 hit b7=>eP b7 λcT b7=>wpAny_newObj_type (wpAny_newFunctionEnv cU (by intro y t;cases t) (λq cM da=>?_) cr));refine eP (b2.guard (o:=iz #[] 0) B) λV ci=>?_;have cg:=b2.zq;have mW:=ci.zq;refine c_ (id ci) λck cy r=>?_;have R:=cy.out (vG _);have I:f.heap.get? it=ae g:=b2.q7;have bd:it≠f.heap.objs.size:=aoz (bK I);have F:(f.heap.push (iz #[] 0)).objs.size=f.heap.objs.size+1:=aD.size_push ..;have v:∀b g,(f.heap.push (iz #[] 0)).get? b=ae g->q.get? b=ae g:=λb g e=>
  (da.2 b (aoz (bK e))).trans (anm _ e)
 have G:fO w os ((P.set it g).set f.heap.objs.size (iz #[] 0)) L ck H₁ {f with heap:=q,toks:=f.toks+0}:=cy.move (λb g _ e=>v b g e) B B;have M:l4 w.params ((P.set it g).set f.heap.objs.size (iz #[] 0)) L ck H₁ q env S own:=r.keep (λb g _ e=>v b g e) (cS.refl _) r.out λy c e=>⟨(r.cells y c e).2.1,(r.cells y c e).2.2.1,(r.cells y c e).2.2.2.1,(r.cells y c e).2.2.2.2.1⟩;have c4:P f.heap.objs.size=ah:=(xr E).2 _ V;have dh:(({f with heap:=q,toks:=f.toks+0}:aA)).heap.get? it=ae g:=v _ _ (anm _ I);have c8:q.get? f.heap.objs.size=ae (iz #[] 0):=v _ _ (anr _ B);have a1:=G.hK it g (by show(if it=f.heap.objs.size then _ else(if it=it then ae g else P it))=_;rw[if_neg bd,if_pos B]);have ap:=G.hK f.heap.objs.size (iz #[] 0) (if_pos B);have ca:=(G.nz V).nz E;have cw:=(M.nz V).nz E;refine tc (XA ca cw) λo c9 ch cf dq=>?_;have cA:o it=ah:=(ch _ no).trans E;have X:o f.heap.objs.size=ah:=(ch _ cg).trans c4;have b5:o (f.heap.push (iz #[] 0)).objs.size=ah:=(ch _ mW).trans ((xr E).2 _ ((xr V).2 _ R.p));have df:Out ((o.set f.heap.objs.size (iz #[] 0)).set it g) L ck H₁ (f.heap.push (iz #[] 0)).objs.size:=by
  refine⟨?_,R.z,R.h,R.o⟩;have cP:(f.heap.push (iz #[] 0)).objs.size≠it:=λe=>by have:=bK I;rw[<-e,F]at this;exact absurd this (aoT.mpr (bz _))
  have c3:(f.heap.push (iz #[] 0)).objs.size≠f.heap.objs.size:=by rw[F];exact apw _
  show(if _ then _ else(if _ then _ else _))=ah;rw[if_neg cP,if_neg c3];exact b5
 have up:1235<=(f.heap.push (iz #[] 0)).objs.size:=by exact gu (r.alive (.inl B)) λy e=>aoA (apt r.up (bK e))
 have ct:=XD (s:={f with heap:=q,toks:=f.toks+0}) M ao df mW up cM;have cC:=(c9.G0 (a:=f.heap.objs.size) (o:=iz #[] 0) ⟨X,ap.1,ap.2.1,ap.2.2⟩ c8).G0 (a:=it) (o:=g) ⟨by show(if it=_ then _ else o it)=ah;rw[if_neg bd];exact cA,a1.1,a1.2.1,a1.2.2⟩ dh;have cu:∀b,b≠(f.heap.push (iz #[] 0)).objs.size->¬Own env b->¬Own (compEnvC sc (my env sc.names []) (f.heap.push (iz #[] 0)).objs.size env) b:=by
  rintro b u cm (h|⟨y,h⟩)
  .exact u h
  .exact cm (.inr ⟨y,(DP _ _ _ _ h).resolve_left (by simp)⟩)
 have cb:l6 w.params L q it src vs:=hit.keep (cS.refl _) λg e=>v _ _ (anm _ e);obtain⟨D,cJ,cW⟩:∃D,look x (q4 sc S)=ae D/\D=.un:=by
  unfold xd at lj;cases j:look x (q4 sc S)with
  |none=>replace lj:=j▸lj;exact d8 lj
  |some D=>replace lj:=j▸lj;induction D using d6.casesOn with
   |un=>exact⟨_,B,B⟩
   |_=>exact d8 lj
 subst cW;have cK:(compEnvC sc (my env sc.names []) (f.heap.push (iz #[] 0)).objs.size env).kindOf x=ae .local:=by exact c_ ct.names λm N bV=>bV x _ cJ
 have loop:=XJ cs cd (A:=A) (P:=o) (R:=compPost (bp dW w) A (λ_ _=>False) use Q (.ref f.heap.objs.size) (f.heap.push (iz #[] 0)).objs.size) (iter:=zr) (px:=px) (pos:=pos) (sc:=sc) bd cA X
  (cu _ (λe=>by have:=bK I;rw[e,F]at this;exact absurd this (aoT.mpr (bz _))) no) (cu _ (by rw[F];exact(apw _).symm) cg) lj cK ⟨ck,cC,ct⟩ cb cT b7 (λZ' a2 s' rs xs m le cN sf cR=>by
   refine c_ cN λdn Y co=>?_;refine c_ co.names λpI cE _=>?_;refine r2 cE λl c1 cG c2 cI=>?_;have W:=Y.hK _ _ (if_pos B);have bY:=co.out;have ne:(f.heap.push (iz #[] 0)).objs.size≠f.heap.objs.size:=by rw[F];exact apw _
   have bZ:cS Z' (Z'.set f.heap.objs.size (iz xs m)):=cS.set W.1;have cL:=((Y.nz X).AS (a:=f.heap.objs.size) (o:=iz xs m) ⟨X,W.1,W.2.1,W.2.2⟩ (Y.j3 _ _ (if_pos B))).G0 (a:=(f.heap.push (iz #[] 0)).objs.size) (o:=l) ⟨b5,by show(if _ then _ else _)=ah;rw[if_neg ne];exact bY.z,bY.h,bY.o⟩ c2;have sub:∀b g,P b=ae g->o b=ae g:=λb g e=>by
    by_cases j:Own env b
    .rw [cf b j];exact ca.j3 b g e
    .rw [ch b j];exact e
   have db:P (f.heap.push (iz #[] 0)).objs.size=ah:=by rw[<-ch _ mW];exact b5
   have dg:=XO (s:={f with heap:=q,toks:=f.toks+0}) (s':=s') (Pa:=P.set (f.heap.push (iz #[] 0)).objs.size l) (Pb:=o.set (f.heap.push (iz #[] 0)).objs.size l) cw (λb u g e=>by
     show(if _ then _ else _)=_;rw[if_neg (show ¬b=(f.heap.push (iz #[] 0)).objs.size from λj=>mW (j▸u)),cf b u];exact e) (λb g e=>by
     replace e:(if b=_ then ae l else P b)=ae g:=e;show(if b=_ then ae l else o b)=ae g;split at e
     .rename_i j;rw[if_pos j];exact e
     .rename_i j;rw[if_neg j];exact sub b g e) (λb u e=>by
     show(if _ then _ else _)=ah;rw[if_neg (show ¬b=(f.heap.push (iz #[] 0)).objs.size from λj=>mW (j▸u))];exact e) (le.trans bZ) cL
   exact dd _ _ _ rs _ _ l pI ((di.trans le).trans bZ) db mW dg (λh e=>⟨l,c1,cG,e,cI⟩) ⟨_,_,xs,m,B,eY.Gr ..,B,B,sf.mono bZ⟩ cR)
 exact codeAny_compStart_list loop (Wp.to (l6.self cb loop))
theorem X6(t:gU w os d n)(l:fK A d)(o:ub sc S x=af)
  (h:q5 (U d) n zr S (λsrc vs H=>vs.length<=16000000/\ix src (se d n elt x ifs (q4 sc S)) (λrs=>k (.lst rs)) vs [] H) H)(g:cj w os P Z H env S own s)(i:hL w os P Z env S own k Q):
  Wp w A (aN (.ListComp elt [⟨.Name x px,zr,ifs,0⟩] sc pos) env) Q s:=
 NG t l o h g (use:=ah) λz y s' rs D u v m le f no a j r q=>⟨m,j _ a.q7,λC c=>i _ _ _ (.lst rs) _ le (a.A6 no f (λb x p e=>(c.2 b p).trans e) B B) r q⟩
end
section
variable{k:cZ}{Q:aj->aA->Prop}
theorem X7(t:gU w os d n)(l:i0 w os d)(q:fK A d)(h:ev (U d) (n+1) (.Call f as cG p) S k H)(m:cj w os P Z H env S own s)(o:hL w os P Z env S own k Q):Wp w A (aN (.Call f as cG p) env) Q s:=by
 induction cG using aE with
 |cons _ _=>induction f using aT<;>exact False.elim h
 |nil=>
  by_cases i:∃b x c,f=.Attribute b x c
  .refine mq i λb x c v=>?_;obtain rfl:=v;replace h:(match vB b&&aG c.endLine p.line&&a0 as.length 10&&jd as with
     |true=>ev (U d) n b S λgD=>methP gD x λr=>l2 (U d) n as S λj=>jR (U d) r.1 (r.2++j) k
     |false=>λ_=>False) H:=h
   cases a:(vB b&&aG c.endLine p.line&&a0 as.length 10&&jd as)with
   |false=>rw[a]at h;exact h.elim
   |true=>rw[a]at h;simp only[aP]at a;exact Xh t l q m a.1.1.1 a.1.1.2 a.2 a.1.2 h o
  .have g:(match a0 as.length 10&&jd as with
     |true=>ev (U d) n f S λu=>l2 (U d) n as S λj=>jR (U d) u j k
     |false=>λ_=>False) H:=by
    induction f using aT<;>first|exact h|exact absurd ⟨_,_,_,rfl⟩ i
   cases a:(a0 as.length 10&&jd as)with
   |false=>rw[a]at g;exact g.elim
   |true=>rw[a]at g;simp only[aP]at a;exact Xg t l q m (λb x c e=>i ⟨b,x,c,e⟩) a.2 g o
theorem gU.X8(q:gU w os d n)(cc:i0 w os d)(p:fK A d){e:az}(h:ev (U d) (n+1) e S k H)(j:cj w os P Z H env S own s)(m:hL w os P Z env S own k Q):Wp w A (aN e env) Q s:=by
 induction e using aT with
 |Constant c a u=>
  replace h:Ma c k H:=h
  induction c using Const.casesOn with
  |none=>exact wpAny_Constant_none (m _ _ _ .none _ (cS.refl Z) j B h)
  |bool b=>exact wpAny_Constant_bool (m _ _ _ (.bool b) _ (cS.refl Z) j B h)
  |int R=>exact wpAny_Constant_int (m _ _ _ (.int R) _ (cS.refl Z) j.toks ⟨_,B⟩ h)
  |str x=>exact wpAny_Constant_str (m _ _ _ (.str x) _ (cS.refl Z) j.toks ⟨_,B⟩ h)
  |_=>exact h.elim
 |Name x u=>replace h:nameP S x k H:=h;exact wpAny_Name (MC j h λv E r bY=>m _ _ _ v E (cS.refl Z) j r bY) (Vo h)
 |Attribute e x u=>
  replace h:(match vB e with
   |true=>ev (U d) n e S λv=>b4 v x k
   |false=>λ_=>False) H:=h
  cases g:vB e with
  |false=>rw[g]at h;exact h.elim
  |true=>rw[g]at h;refine Attribute_any_ (q.e p h j λX H₁ ao v E C D F z=>Vs D F z λcE co s' cr cy bY=>m _ _ _ cE co C cr cy bY) ?_;show(do let N<-attributeBase e x env (aN e env);anE u.atName;let r<-holding [N] (getAttr N x af);letTemporaryGo e N r;pure r)=_;rw[Nn g]
 |Call f as I u=>exact X7 q cc p h j m
 |Compare l bZ Y u=>replace h:ev (U d) n l S (λv=>vC (U d) n v bZ Y S λc=>k (.bool c)) H:=h;show Wp w A (do compareChain u (<-aN l env) bZ (anF bZ Y (bR Y env))) Q s;exact aV (q.e p h j λX H₁ ao v x C D F z=>(q.c p z D F).1 λca b2 cb b M W ap=>m _ _ _ (.bool b) _ (C.trans M) W B ap)
 |BoolOp op bd u=>exact q.b p (show vD (U d) n op bd S k H from h) j m
 |BinOp l op r u=>replace h:ev (U d) n l S (λa=>ev (U d) n r S λb=>d4 op a b k) H:=h;exact wpAny_BinOp (q.e p h j λX H₁ ao a x C D F z=>q.e p z D λca b2 cb b y M W a2 ap=>WD W p (F.mono M) a2 ap (m.later (C.trans M)))
 |UnaryOp op x u=>
  induction op using UnaryOp.casesOn with
  |USub=>
   replace h:ev (U d) n x S (λv=>match v with
    |.int R=>k (.int (-R))
    |_=>λ_=>False) H:=h
   refine UnaryOp_ (q.e p h j λX H₁ ao v y C D F z=>?_)
   induction v using J.casesOn with
   |int R=>obtain⟨V,rfl⟩:=F;exact PySem.P.neg_int (m _ _ _ (.int _) _ C D.toks ⟨_,B⟩ z)
   |_=>exact z.elim
  |_=>exact(show False from h).elim
 |IfExp V a b u=>
  replace h:iZ (U d) n V S (λc=>b6 c (ev (U d) n a S k) (ev (U d) n b S k)) H:=h;refine IfExp_ (q.t p h j λX H₁ ao c C D z=>?_)
  induction c using aS with
  |true=>exact q.e p z D (m.later C)
  |false=>exact q.e p z D (m.later C)
 |Subscript v a1 u=>
  by_cases hs:∃l E st g,a1=.Slice l E st g
  .refine AH hs λl E st g cw=>?_;obtain rfl:=cw
   induction st using a_ with
   |none=>exact Xp q p j (show ev (U d) n v S (λN=>vE (U d) n l S λcm=>vE (U d) n E S λcA=>mv N cm cA k) H from h) m
   |some _=>exact False.elim h
  .have b7:∀l E st g,a1≠.Slice l E st g:=λl E st g e=>hs ⟨l,E,st,g,e⟩;have L:ev (U d) n v S (λN=>ev (U d) n a1 S λR=>cF N R k) H:=by induction a1 using aT<;>first|exact h|exact absurd rfl (b7 _ _ _ _)
   exact Subscript_ (q.e p L j λX H₁ ao a x C D F z=>q.e p z D λca b2 cb b y M W a2 ap=>WH b7 W (F.mono M) a2 ap (m.later (C.trans M)))
 |List bd u=>exact Xw q p j h m
 |Tuple bd c u=>exact Xx q p j h m
 |Dict I G u=>
  by_cases bV:I=[]/\G=[]
  .refine eP bV λcu cC=>?_;obtain rfl:=cu;obtain rfl:=cC;replace h:(match aG u.line 877 with
    |true=>eX (.ki []) k
    |false=>eX (.iM []) k) H:=h
   cases g:aG u.line 877 with
   |true=>rw[g]at h;exact Nv j (.inr B) h m
   |false=>rw[g]at h;exact Nv j (.inl B) h m
  .have L:(match zf I G&&a0 I.length 15 with
    |true=>xe (U d) n I G S λcg=>eX (.eJ (cg.foldl (λ(e:List (Str×J))(g:Str×J)=>put g.1 g.2 e) [])) k
    |false=>λ_=>False) H:=by
    induction I using aE with
    |nil=>induction G using aE with
     |nil=>exact absurd ⟨B,B⟩ bV
     |cons _ _=>exact h
    |cons _ _=>exact h
   cases g:(zf I G&&a0 I.length 15)with
   |false=>replace L:=g▸L;exact L.elim
   |true=>
    replace L:=g▸L;rw[aP]at g;obtain⟨b5,cG⟩:=g;refine Xz q p j b5 (ay cG) (λe=>?_) L m;subst e
    induction G using aE with
    |nil=>exact bV ⟨B,B⟩
    |cons _ _=>exact anS b5
 |ListComp ci cs sc u=>
  induction cs using aE with
  |nil=>exact(show False from h).elim
  |cons cd gs=>
   obtain⟨V,it,ct,a⟩:=cd
   induction gs using aE with
   |cons _ _=>exact(show False from h).elim
   |nil=>
    replace h:(match a with
     |0=>match V with
      |.Name x _=>match ub sc S x with
       |true=>q5 (U d) n it S λcI G H=>G.length<=16000000/\ix cI (se d n ci x ct (q4 sc S)) (λY=>k (.lst Y)) G [] H
       |false=>λ_=>False
      |_=>λ_=>False
     |_=>λ_=>False) H:=h
    split at h
    .induction V using aT with
     |Name x cJ=>
      dsimp only at h;cases g:ub sc S x with
      |false=>rw[g]at h;exact h.elim
      |true=>rw[g]at h;exact X6 q p g h j m
     |_=>exact h.elim
    .exact h.elim
 |_=>exact(show False from h).elim
theorem gU.succ(m:gU w os d n)(p:i0 w os d):gU w os d (n+1)where
 e:=λf h g j=>m.X8 p f h g j
 l:=λf h g j=>m.GV f h g j
 o:=λf h g j=>m.W6 f h g j
 c:=λf h g r=>m.W8 f h g r
 b:=λf h g j=>m.jf f h g j
 t:=λf h g j=>m.Xa f h g j
 a:=λf h g j=>m.W_ f h g j
 i:=λf h g j=>m.Xn p f h g j
 dd:=λf h g j=>m.Xb f h g j
theorem gU.all(f:i0 w os d):∀n,gU w os d n
 |0=>gU.zero
 |n+1=>(gU.all f n).succ f
end
section
abbrev zt(w:aF)(os:aM)(P Z:eY)(env:Env)(k:Loc->bT)(Q:Unit->aA->Prop):Prop:=∀c a s' b,cS Z c->cj w os P c a env b af s'->k b a->Q () s'
noncomputable def X9(i:az)(v gD a:aj):List aj:=augStore.match_1 (λ_=>List aj) i (λ_ _ _=>[a,v,gD]) λ_=>[v,gD,a]
theorem DZ(F:i0 w os d)(j:fK A d)(h:asg (U d) n t u S k H)(q:cj w os P Z H env S af s)(r:dw w.params Z u x)(v:zt w os P Z env k Q):Wp w A (bE t env x) Q s:=by
 have D:=gU.all F n
 induction t using aT with
 |Name y m=>exact assign_Name (DH q r (.inl B) h λa2 s' f i=>v _ _ _ _ (cS.refl Z) f i)
 |Attribute a y m=>replace h:ev (U d) n a S (λgD=>ej gD y u (k S)) H:=h;show Wp w A (do let gD<-holding [x] (aN a env);anE m.atName;holding [x,gD] (setAttr gD y x);release [x,gD] []) Q s;refine aV (aor (D.e j h q λL H₁ N V M g C p z=>aV (anG (aV (aor ?_)))));exact VC C p (r.mono g) z λR s' f i=>wpAny_release (v _ _ _ _ g f i)
 |Subscript a c m=>
  by_cases hs:∃l u st E,c=.Slice l u st E
  .refine AH hs λl u st E W=>?_;obtain rfl:=W;exact False.elim h
  .have X:ev (U d) n a S (λgD=>ev (U d) n c S λb=>lJ gD b u (k S)) H:=by induction c using aT<;>first|exact h|exact absurd ⟨_,_,_,_,rfl⟩ hs
   show Wp w A (do let gD<-holding [x] (aN a env);let b<-holding [x,gD] (aN c env);anE m;holding [x,gD,b] (setItem gD b x);release (X9 c x gD b) []) Q s;refine aV (aor (D.e j X q λL H₁ N V M g C p z=>aV (aor (D.e j z C λap ao bd bV a1 o G I Y=>aV (anG (aV (aor ?_)))))));exact WK G j (p.mono o) I ((r.mono g).mono o) Y λR s' f i=>wpAny_release (v _ _ _ _ (g.trans o) f i)
 |_=>exact False.elim h
theorem D0:∀{ts:List az},jd ts=af->apj ts env=ts.map λt=>(ag,bE t env)
 |[]=>λ_=>B
 |e::r=>λh=>by
  have a:(∀x c,e≠.Starred x c)/\jd r=af:=by induction e using aT<;>first|exact⟨λ_ _ b=>az.noConfusion b,h⟩|exact anS h
  have:apj (e::r) env=(ag,bE e env)::apj r env:=by induction e using aT<;>first|rfl|exact absurd rfl (a.1 _ _)
  rw[this,D0 a.2];rfl
theorem NQ(c:i0 w os d)(e:fK A d):∀{ts:List az}{us:List J}{xs:List aj}{S:Loc}{Z:eY}{H:bW}{s:aA}{k:Loc->bT}{Q:Unit->aA->Prop},zg (U d) n ts us S k H->cj w os P Z H env S af s->cX w.params Z us xs->zt w os P Z env k Q->Wp w A (assignInOrder (ts.map λt=>bE t env) xs) Q s
 |[],us,xs,S,Z,H,s,k,Q,h,a,r,b=>by
  induction us using aE with
  |nil=>cases r;exact wpAny_assignInOrder_none (b _ _ _ _ (cS.refl Z) a h)
  |cons _ _=>exact(show False from h).elim
 |t::ts,us,xs,S,Z,H,s,k,Q,h,a,r,b=>by
  induction us using aE with
  |nil=>exact(show False from h).elim
  |cons l us=>refine gT r λx F p o u=>?_;obtain rfl:=p;replace h:asg (U d) n t l S (λv=>zg (U d) n ts us v k) H:=h;refine assignInOrder_cons (DZ c e h a o λC H₁ D E f z q=>?_);exact NQ c e q z (u.mono f) λm i y j g=>b m i y j (f.trans g)
theorem NS(o:i0 w os d)(j:fK A d)(hs:jd ts=af)(h:jC (U d) n ts u S k H)(g:cj w os P Z H env S af s)(r:dw w.params Z u x)(y:zt w os P Z env k Q):Wp w A (bE (.Tuple ts c p) env x) Q s:=by
 induction u using J.casesOn with
 |tup t=>
  refine eP h λcv h=>?_;refine kV r λa f xs m C q l z i=>?_;obtain rfl:=C;have len:t.length=xs.size:=by rw[i.length,aoy]
  refine wpAny_assign_Tuple j.1 ⟨f,g.gw q,l,m,z⟩ (by rw[D0 hs,aX,cv,len]) (by rw[D0 hs];simp[List.findIdx?_eq_none_iff]) λD v=>?_;rw[D0 hs,aok];exact NQ o j h (g.ext (s':={s with heap:=D}) (λb f e=>v b f (aoz (bK e)) e) B B) i y
 |_=>exact h.elim
end
section
theorem D2(h:zh v=af):swapsWith v t l env=pure ag:=by induction v using aT<;>first|rfl|exact anS h
theorem Hb(h:r7 t=af):aoK [t] v env=pure ah:=by induction t using aT<;>first|rfl|exact anS h
theorem Hc(h:r7 t=af):apj [t] env=[(ag,bE t env)]:=by induction t using aT<;>first|rfl|exact anS h
set_option tactic.hygienic true in
theorem Hd(c:apj [t] env=[(ag,bE t env)])(h1:swapsWith v (ae t) pos.line env=pure b)(h2:aoK [t] v env=pure ah)
  (h:if b=af then Wp w A (evalThenUse v env λu=>bE t env u) (λ_ s'=>Q .next s') s else Wp w A (aN v env) (λu a=>Wp w A (bE t env u) (λ_=>Q .next) a) s):Wp w A (exec (.Assign [t] v pos) env) Q s:=by
 rw[exec_Assign];refine aV (anG ?_);rw[show swapsWithSole [t] v pos.line env=pure b from h1];refine aV (bf ?_)
 induction b with
 |true=>rw[if_pos B]at h⊢;refine c▸(aV (api (show Wp w A (evalThenUse v env λv=>assignAll v [bE t env]) (λ_ s'=>Q .next s') s from h) (λ_ _ x=>bf x) λ_ _ x=>x))
 |false=>rw[if_neg (by simp)]at h⊢;refine aV (api h (λv a e=>?_) λ_ _ x=>x);rw[h2,c];refine aV (bf ?_);show Wp w A (do assignAll v [bE t env];pure .next) Q a;exact aV (api e (λ_ _ x=>bf x) λ_ _ x=>x)
theorem X'(h:ev (U d) (n+1) (.ListComp elt gens sc p) S k H):∃x px it b,gens=[⟨.Name x px,it,b,0⟩]/\ub sc S x=af/\q5 (U d) n it S (λsrc vs H=>vs.length<=16000000/\ix src (se d n elt x b (q4 sc S)) (λrs=>k (.lst rs)) vs [] H) H:=by
 induction gens using aE with
 |nil=>exact(show False from h).elim
 |cons f gs=>
  obtain⟨e,it,b,a⟩:=f
  induction gs using aE with
  |cons _ _=>exact(show False from h).elim
  |nil=>
   replace h:(match a with
    |0=>match e with
     |.Name x _=>match ub sc S x with
      |true=>q5 (U d) n it S λsrc vs H=>vs.length<=16000000/\ix src (se d n elt x b (q4 sc S)) (λrs=>k (.lst rs)) vs [] H
      |false=>λ_=>False
     |_=>λ_=>False
    |_=>λ_=>False) H:=h
   split at h
   .induction e using aT with
    |Name x px=>
     dsimp only at h;cases c:ub sc S x with
     |false=>rw[c]at h;exact h.elim
     |true=>rw[c]at h;exact⟨x,px,it,b,B,c,h⟩
    |_=>exact h.elim
   .exact h.elim
set_option tactic.hygienic true in
theorem X_(f:i0 w os d)(g:fK A d)(a:r7 t=af)(h:ev (U d) n v S (λu=>asg (U d) n t u S k) H)(I:cj w os P Z H env S af s)(L:zt w os P Z env k λ_ s'=>Q .next s'):Wp w A (exec (.Assign [t] v pos) env) Q s:=by
 have plain:Wp w A (aN v env) (λu G=>Wp w A (bE t env u) (λ_=>Q .next) G) s:=(gU.all f n).e g h I λcb H₁ G y cc bY b7 W a2=>DZ f g a2 b7 W λF D R o l=>L F D R o (bY.trans l);by_cases M:zh v=af
 .exact Hd (b:=ag) (Hc a) (D2 M) (Hb a) (by rw[if_neg (by simp)];exact plain)
 .induction n using ant with
  |zero=>exact False.elim h
  |succ n=>
  induction v using aT with
  |ListComp z bd sc q=>
   by_cases ce:∃x j,t=.Name x j
   .refine vy ce λy i ap=>?_;obtain rfl:=ap;refine Hd (Hc a) (show swapsWith (.ListComp z bd sc q) (ae (.Name y i)) pos.line env=pure _ from B) (Hb a) ?_;split
    .refine F9 (X' h) λx j it N b5 bV c=>?_;obtain rfl:=b5;show Wp w A (do let _<-comprehension (.ListComp z [⟨.Name x j,it,N,0⟩] sc q) sc env (firstIterPos [⟨.Name x j,it,N,0⟩] q) (newList []) ag (aN it env) (ae λu=>bE (.Name y i) env u)) (λ_ s'=>Q .next s') s;refine aV (NG (k:=λu=>asg (U d) (n+1) (.Name y i) u S k) (gU.all f n) g bV c I (Q:=λ_ s'=>Wp w A (pure PUnit.unit) (λ_ s'=>Q .next s') s') λcm ci s' cd ca C cg m le Y no ao a1 r b2=>?_);show Wp w A (bE (.Name y i) env (.ref ca)) (λ_ p=>∃m,p.heap.Ns C m/\∀c,aof C p.heap c->Wp w A (pure PUnit.unit) (λ_ s'=>Q .next s') {p with heap:=c}) s';refine DZ (k:=k) (n:=n+1) f g b2 ao r λF D R o l E V=>⟨m,a1 _ E.q7,λc X=>bf ?_⟩;exact L _ _ _ o (le.trans l) (E.A6 no Y (λb x bZ e=>(X.2 b bZ).trans e) B B) V
    .exact plain
   .refine Hd (b:=ag) (Hc a) ?_ (Hb a) (by rw[if_neg (by simp)];exact plain)
    induction t using aT<;>first|rfl|exact absurd ⟨_,_,rfl⟩ ce
  |SetComp=>exact(show False from h).elim
  |DictComp=>exact(show False from h).elim
  |_=>exact absurd B M
end
section
noncomputable def Hg(env:Env)(a:Nat)(e:az):Option Str:=aoK.match_8 (λ_=>Option Str) e (λid pos=>if(env.kindOf id==ae .local&&pos.line==a)=af then ae id else ah) λ_=>ah
theorem Yc{a b c d:Nat}(h:¬(a !=b||c !=d)=af):a=b/\c=d:=by simp only[apx,bne_iff_ne,ne_eq,not_or,Decidable.not_not]at h;exact h
theorem Yd(h:¬(!p||q||r)=af):p=af:=by cases p<;>first|rfl|exact(h rfl).elim
theorem Ye{f:Sort _}{A b9 C D E:Prop}[Decidable A][Decidable b9][Decidable C][Decidable D][Decidable E]{x y z r:f}(e:r=if A then x else if b9 then x else if C then x else if D then x else if E then y else z):r=x\/(¬A/\¬C/\¬D/\r=if E then y else z):=by
 by_cases a:A
 .exact .inl (e.trans (if_pos a))
 .replace e:=e.trans (if_neg a);by_cases b:b9
  .exact .inl (e.trans (if_pos b))
  .replace e:=e.trans (if_neg b);by_cases c:C
   .exact .inl (e.trans (if_pos c))
   .replace e:=e.trans (if_neg c);by_cases d:D
    .exact .inl (e.trans (if_pos d))
    .exact .inr ⟨a,c,d,e.trans (if_neg d)⟩
theorem Yg(g:AP v=af):aoK [.Tuple ts c p] v env=pure ah\/∃names,aoK [.Tuple ts c p] v env=pure (ae names)/\(names.length=2\/names.length=3)/\
  names.length=ts.length/\names.eraseDups.length=names.length/\∃q,names=ts.filterMap (Hg env q):=by
 induction v using aT with
 |Tuple f o j=>refine(Ye (r:=aoK [.Tuple ts c p] (.Tuple f o j) env) B).imp id λh=>jQ h λl a i e=>?_;replace g:(f.all (foldedForSure 8)||!(f.all (constantsAlone 8)))=af:=g;have m:¬(f.all (constantsAlone 8))=af:=λb=>((apx ..).mp g).elim i λk=>d8 ((congrArg (!·) b).symm.trans k);have a:=Yc a;exact⟨_,e.trans (if_neg m),((apx ..).mp (Yd l)).imp (λb=>a.1.trans (beq_iff_eq.mp b)) (λb=>a.1.trans (beq_iff_eq.mp b)),a.1,a.2,_,B⟩
 |_=>exact .inl B
theorem Hi(h:Hg env line t=ae x):(∃p,t=.Name x p)/\env.kindOf x=ae .local:=by
 induction t using aT with
 |Name id pos=>
  replace h:(if(env.kindOf id==ae .local&&pos.line==line)=af then ae id else ah)=ae x:=h;by_cases a:(env.kindOf id==ae .local&&pos.line==line)=af
  .have e:=aC.inj ((if_pos a).symm.trans h);exact⟨⟨pos,congrArg (λy=>az.Name y pos) e⟩,e▸beq_iff_eq.mp ((aP ..).mp a).1⟩
  .exact cV ((if_neg a).symm.trans h)
 |_=>exact cV h
theorem cj.same(a:cj w os P Z H env cI af s)(h:∀y,look y S=look y cI):cj w os P Z H env S af s:=a.weaken λy b e=>.inl ((h y)▸e)
end
section
def xv(env:Env)(S:Loc):Prop:=∀y a,env.kindOf y=ae .local->look y S=ae a->a=.un\/∃b,a=.Y b
theorem cj.NT(e:cj w os P Z H env S af s):xv env S:=by
 refine c_ e λck g c=>c_ c.names λm N b=>?_;intro y sl V q;have cQ:=b y sl q
 induction sl using d6.casesOn with
 |gl _=>refine eP cQ λa _=>?_;replace a:=V▸a;cases a
 |un=>exact .inl B
 |Y f=>exact .inr ⟨f,B⟩
 |q1=>refine eP cQ λa _=>?_;rw[V]at a;cases a
 |iN _=>refine eP cQ λa _=>?_;replace a:=V▸a;cases a
theorem xv.put(L:xv env S):xv env (put x (.Y v) S):=by
 intro y sl V q;rw[vP]at q;split at q
 .cases q;exact .inr ⟨v,B⟩
 .exact L y sl V q
theorem Yh(L:xv env S)(b:env.kindOf x=ae .local)(h:setName S x v k H):k (put x (.Y v) S) H/\∃sl,look x S=ae sl:=by
 unfold setName at h;cases a:look x S with
 |none=>replace h:=a▸h;exact h.elim
 |some sl=>replace h:=a▸h;rcases L x sl b a with rfl|⟨c,rfl⟩<;>exact⟨h,_,rfl⟩
theorem Yi(L:xv env S)(a:env.kindOf x=ae .local)(q:look x S=ae sl)(h:k (put x (.Y v) S) H):setName S x v k H:=by unfold setName;refine q▸?_;rcases L x sl a q with rfl|⟨b,rfl⟩<;>exact h
noncomputable def putAll(qs:List (Str×J))(S:Loc):Loc:=qs.foldl (λS a=>put a.1 (.Y a.2) S) S
theorem NU:∀{qs:List (Str×J)}{xs:List aj}{S:Loc}{s:aA}{Q:Unit->aA->Prop},cj w os P Z H env S af s->cX w.params Z (qs.map (·.2)) xs->(∀q∈qs,env.kindOf q.1=ae .local/\∃sl,look q.1 S=ae sl)->
  (∀s',cj w os P Z H env (putAll qs S) af s'->Q () s')->Wp w A (assignInOrder (qs.map λq=>bindName env q.1) xs) Q s
 |[],xs,S,s,Q,a,r,_,b=>by cases r;exact wpAny_assignInOrder_none (b _ a)
 |(x,v)::qs,xs,S,s,Q,a,r,h,b=>by
  refine gT r λy z m j p=>?_;obtain rfl:=m;refine eP (h (x,v) (a4 ..)) λt o=>gu o λsl g=>assignInOrder_cons (wpAny_bindName (DH a j (.inl B) (Yi (k:=λf i=>f=put x (.Y v) S/\i=H) a.NT t g ⟨B,B⟩) λf s' l e=>?_));obtain⟨rfl,_⟩:=e;refine NU l p (λq c=>⟨(h q (aY _ c)).1,?_⟩) b;refine gu ((h q (aY _ c)).2) λC u=>?_;rw[vP];split
  .exact ⟨_,B⟩
  .exact ⟨_,u⟩
set_option tactic.hygienic true in
theorem NV:∀{qs:List (Str×Pos)}{vs:List J}{S:Loc}{k:Loc->bT},xv env S->(∀q∈qs,env.kindOf q.1=ae .local)->zg (U d) n (qs.map λq=>.Name q.1 q.2) vs S k H->qs.length=vs.length/\k (putAll ((qs.map (·.1)).zip vs) S) H/\∀q∈qs,∃sl,look q.1 S=ae sl
 |[],vs,S,k,L,b,h=>by
  induction vs using aE with
  |nil=>exact⟨B,h,λq a=>by cases a⟩
  |cons _ _=>exact(show False from h).elim
 |(x,p)::qs,vs,S,k,L,b,h=>by
  induction vs using aE with
  |nil=>exact(show False from h).elim
  |cons m vs=>
   replace h:setName S x m (λr=>zg (U d) n (qs.map λq=>.Name q.1 q.2) vs r k) H:=h;refine eP (Yh L (b _ (a4 ..)) h) λg l=>gu l λsl e=>iw (NV L.put (λq a=>b q (aY _ a)) g) λi j t=>⟨by simp[i],j,λq a=>?_⟩;rcases aI.mp a with rfl|a
   .exact ⟨sl,e⟩
   .refine gu (t q a) λo f=>?_;rw[vP]at f;split at f
    .rename_i c;exact(kE c)▸(⟨sl,e⟩)
    .exact ⟨o,f⟩
theorem D3:∀{qs:List (Str×J)}{y:Str}{S:Loc},(∀q∈qs,sEq q.1 y=ag)->look y (putAll qs S)=look y S
 |[],_,_,_=>rfl
 |(x,v)::qs,y,S,h=>by show look y (putAll qs (put x (.Y v) S))=_;rw[D3 λq a=>h q (aY _ a),vP,h (x,v) (a4 ..)];rfl
theorem Hj:∀{qs:List (Str×J)}{x:Str}{v:J}{S:Loc},(qs.map (·.1)).Nodup->(x,v)∈qs->look x (putAll qs S)=ae (.Y v)
 |(y,u)::qs,x,v,S,O,h=>by
  rw[aL,bh]at O;show look x (putAll qs (put y (.Y u) S))=_;rcases aI.mp h with e|h
  .cases e;rw[D3 λa b=>?_,vP,xg];rfl;cases c:sEq a.1 y with
   |false=>rfl
   |true=>exact absurd (show y∈qs.map (·.1)from kE c▸bS b) O.1
  .exact Hj O.2 h
theorem Yj(O:(qs.map (·.1)).Nodup):look y (putAll qs S)=look y (putAll qs.reverse S):=by
 by_cases h:∃c,(y,c)∈qs
 .obtain ⟨c,h⟩:=h;rw[Hj O h,Hj (by rw[aoU];exact List.pairwise_reverse.mpr (O.imp λh e=>h e.symm)) (apT.mpr h)]
 .have f:∀a∈qs,sEq a.1 y=ag:=λa b=>by
   cases g:sEq a.1 y with
   |false=>rfl
   |true=>exact absurd ⟨a.2,by exact(kE g)▸b⟩ h
  rw[D3 f,D3 λa b=>f a (apT.mp b)]
theorem cX.rev:∀{vs:List J}{xs:List aj},cX p Z vs xs->cX p Z vs.reverse xs.reverse
 |[],xs,h=>by cases h;rfl
 |v::vs,xs,h=>by refine gT h λx r c a b=>?_;obtain rfl:=c;rw[bM,bM];exact(cX.rev b).append (.cons a .nil)
theorem Yk{l:List Str}(h:l.eraseDups.length=l.length)(h2:l.length=2\/l.length=3):l.Nodup:=by
 rcases h2 with h2|h2
 .obtain ⟨a,b,rfl⟩:∃a b,l=[a,b]:=by
   match l,h2 with
   |[a,b],_=>exact⟨a,b,B⟩
  by_cases e:b=a
  .subst e;simp[aoV]at h
  .simp [Ne.symm e]
 .obtain ⟨a,b,c,rfl⟩:∃a b c,l=[a,b,c]:=by
   match l,h2 with
   |[a,b,c],_=>exact⟨a,b,c,B⟩
  by_cases e:b=a
  .subst e;by_cases f:c=b
   .subst f;simp[aoV]at h
   .simp [aoV,f]at h
  .by_cases f:c=a
   .subst f;simp[aoV,e]at h
   .by_cases g:c=b
    .subst g;simp[aoV,e]at h
    .simp [Ne.symm e,Ne.symm f,Ne.symm g]
theorem NX(b:∀t x,f t=ae x->∃p,t=.Name x p):∀{ts:List az},(ts.filterMap f).length=ts.length->∃qs:List (Str×Pos),ts=qs.map (λq=>.Name q.1 q.2)/\ts.filterMap f=qs.map (·.1)/\∀q∈qs,f (.Name q.1 q.2)=ae q.1
 |[]=>λ_=>⟨[],B,B,λq a=>by cases a⟩
 |t::ts=>λh=>by
  cases e:f t with
  |none=>rw[List.filterMap_cons_none e,anC]at h;have:=List.length_filterMap_le f ts;lia
  |some x=>
   rw[apA e,anC,anC]at h;refine lI (NX b (by(simp+arith at h⊢;exact h):(ts.filterMap f).length=ts.length)) λqs i j g=>?_;refine gu (b t x e) λp c=>?_;obtain rfl:=c;refine⟨(x,p)::qs,by rw[aL,<-i],by rw[apA e,aL,j],λq a=>?_⟩;rcases aI.mp a with rfl|a
   .exact e
   .exact g q a
set_option tactic.hygienic true in
theorem Yl(L:i0 w os d)(l:fK A d){ts:List az}{c:Nat}{p pos:Pos}{v:az}{k:Loc->bT}{Q:Flow->aA->Prop}(hs:jd ts=af)(b7:AP v=af)(a1:zh v=af)(h:ev (U d) n v S (λu=>jC (U d) n ts u S k) H)(G:cj w os P Z H env S af s)(ap:zt w os P Z env k λ_ s'=>Q .next s'):
  Wp w A (exec (.Assign [.Tuple ts c p] v pos) env) Q s:=by
 have Y:=gU.all L n;rcases Yg (ts:=ts) (c:=c) (p:=p) (env:=env) b7 with e|⟨names,e,cy,a2,ld,z,X⟩
 .exact Assign_Tuple (Y.e l h G λM H₁ R u x F q t o=>NS L l hs o q t λb2 cb cs cu bY=>ap b2 cb cs cu (F.trans bY)) (show swapsWith v (ae (.Tuple ts c p)) pos.line env=pure ag from D2 a1) e
 .refine Assign_Tuple_swapped (names:=names) (Y.e l h G λM H₁ R u x F q t o=>?_) (show swapsWith v (ae (.Tuple ts c p)) pos.line env=pure ag from D2 a1) e;refine lI (NX (f:=Hg env z) (λcC x e=>(Hi e).1) (ts:=ts) (X▸a2)) λg t1 c5 I=>?_
  induction u using J.casesOn with
  |tup i=>
   refine eP o λcv D=>?_;refine kV t λa E xs m cA co b5 cw W=>?_;obtain rfl:=cA;have len:i.length=xs.size:=by rw[W.length,aoy]
   rw[show names.length=xs.size by rw[a2,cv,len]];refine wpAny_unpackItems_tuple l.1 ⟨E,q.gw co,b5,m,cw⟩ λcg bZ=>?_;have V:cj w os P M H₁ env S af {R with heap:=cg}:=q.ext (λb E e=>bZ b E (aoz (bK e)) e) B B;replace D:=t1▸D;refine iw (NV V.NT (λj r=>(Hi (I j r)).2) D) λct cd cr=>?_;have r:names=g.map (·.1):=X.trans c5;have O:names.Nodup:=Yk ld cy;have bV:(g.map (·.1)).length=i.length:=by rw[aX,ct]
   have C:((g.map (·.1)).zip i).map (·.1)=names:=by rw[anV (ak bV),r]
   have ca:((g.map (·.1)).zip i).map (·.2)=i:=aoQ (Tm bV);have ci:=NU (A:=A) (qs:=((g.map (·.1)).zip i).reverse) (xs:=xs.toList.reverse) (Q:=λ_ s'=>Q .next s') V (by rw[aoU,ca];exact cX.rev W) (λj cm=>by
    have N:j.1∈names:=by exact C▸(bS (apT.mp cm))
    rw[r]at N;refine c_ (bC.mp N) λbd ao e=>e▸?_;exact⟨(Hi (I bd ao)).2,cr bd ao⟩) λs' cc=>ap _ _ _ _ F (cc.same λy=>Yj (C▸O)) cd
   rw[show names.reverse.map (λn=>bindName env n)=((g.map (·.1)).zip i).reverse.map λj=>bindName env j.1 by rw[<-C,<-aoU,aok];rfl];exact ci
  |_=>exact o.elim
end
section
structure uo(w:aF)(os:aM)(P Z:eY)(env:Env)(κ:cD)(Q:Flow->aA->Prop):Prop where
 cQ:∀{Z' bV s' cI},cS Z Z'->cj w os P Z' bV env cI af s'->κ.cQ cI bV->Q .next s'
 ef:∀{Z' bV s' cI v x},cS Z Z'->cj w os P Z' bV env cI af s'->dw w.params Z' v x->κ.ef v bV->Q (.ret x) s'
 mU:∀{Z' bV s' cI},cS Z Z'->cj w os P Z' bV env cI af s'->κ.mU cI bV->Q .brk s'
 ct:∀{Z' bV s' cI},cS Z Z'->cj w os P Z' bV env cI af s'->κ.ct cI bV->Q .cont s'
theorem uo.later(h:uo w os P Z env κ Q)(le:cS Z Z'):uo w os P Z' env κ Q:=⟨λl=>h.cQ (le.trans l),λl=>h.ef (le.trans l),λl=>h.mU (le.trans l),λl=>h.ct (le.trans l)⟩
structure sg(w:aF)(os:aM)(d n:Nat):Prop where
 x:∀{A:a9}{st:aQ}{S:Loc}{κ:cD}{P Z:eY}{H:bW}{env:Env}{s:aA}{Q:Flow->aA->Prop},fK A d->ex (U d) n st S κ H->cj w os P Z H env S af s->uo w os P Z env κ Q->Wp w A (exec st env) Q s
 l:∀{A:a9}{ss:List aQ}{S:Loc}{κ:cD}{P Z:eY}{H:bW}{env:Env}{s:aA}{Q:Flow->aA->Prop},fK A d->cq (U d) n ss S κ H->cj w os P Z H env S af s->uo w os P Z env κ Q->Wp w A (execs ss env) Q s
theorem sg.GV(g:sg w os d n)(e:fK A d)(h:cq (U d) (n+1) ss S κ H)(f:cj w os P Z H env S af s)(c:uo w os P Z env κ Q):Wp w A (execs ss env) Q s:=by
 induction ss using aE with
 |nil=>exact wpAny_execs_nil (c.cQ (cS.refl Z) f h)
 |cons st r=>replace h:ex (U d) n st S ⟨λi=>cq (U d) n r i κ,κ.ef,κ.mU,κ.ct⟩ H:=h;exact wpAny_execs_cons (g.x e h f ⟨λl b a=>g.l e a b (c.later l),λl b r a=>c.ef l b r a,λl b a=>c.mU l b a,λl b a=>c.ct l b a⟩)
theorem Yn(G:sg w os d n)(z:i0 w os d)(x:fK A d)(h:q3 (λS=>iZ (U d) n t S) (λS κ=>cq (U d) n b S κ) κ m S H)(D:cj w os P Z H env S af s)(o:uo w os P Z env κ Q):Wp w A (exec (.While t b [] pos) env) Q s:=by
 refine wpAny_While (codeAny_whileLoop (λa s=>∃v u e,cS Z v/\cj w os P v u env e af s/\q3 (λS=>iZ (U d) n t S) (λS κ=>cq (U d) n b S κ) κ a e u) (λa s C=>?_) m ⟨Z,H,S,cS.refl Z,D,h⟩);refine AE C λL H₁ p j F k=>?_
 induction a using ant with
 |zero=>exact False.elim k
 |succ a=>
  replace k:iZ (U d) n t p (λE=>b6 E (cq (U d) n b p ⟨λe=>q3 (λS=>iZ (U d) n t S) (λS κ=>cq (U d) n b S κ) κ a e,κ.ef,λe=>κ.cQ e,λe=>q3 (λS=>iZ (U d) n t S) (λS κ=>cq (U d) n b S κ) κ a e⟩) (κ.cQ p)) H₁:=k;refine Wp.to ((gU.all z n).t x k F λM I N c i q y=>?_)
  induction c using aS with
  |true=>rw[if_pos B];refine Wp.to (G.l x y q ⟨λl f g=>⟨a,apz a,_,_,_,(j.trans i).trans l,f,g⟩,λl f r g=>o.ef ((j.trans i).trans l) f r g,λl f g=>o.cQ ((j.trans i).trans l) f g,λl f g=>⟨a,apz a,_,_,_,(j.trans i).trans l,f,g⟩⟩)
  |false=>rw[if_neg (by simp)];exact wpAny_execs_nil (o.cQ (j.trans i) q y)
noncomputable def eG(d n:Nat)(t:az)(b:List aQ)(v:J)(S:Loc)(κ:cD):bT:=match t with
 |.Tuple c _ _=>(match jd c with|true=>jC (U d) n c v S λa=>cq (U d) n b a κ|false=>λ_=>False)
 |t=>(match r7 t with|true=>asg (U d) n t v S λa=>cq (U d) n b a κ|false=>λ_=>False)
theorem Yo(i:i0 w os d)(j:fK A d)(h:eG d n t b v S κ H)(k:cj w os P Z H env S af s)(r:dw w.params Z v u)(l:zt w os P Z env (λf=>cq (U d) n b f κ) Q):Wp w A (bE t env u) Q s:=by
 by_cases m:∃e c o,t=.Tuple e c o
 .refine mq m λe c o p=>?_;obtain rfl:=p;replace h:(match jd e with|true=>jC (U d) n e v S λf=>cq (U d) n b f κ|false=>λ_=>False) H:=h;cases a:jd e with
  |false=>rw[a]at h;exact h.elim
  |true=>rw[a]at h;exact NS i j a h k r l
 .have g:(match r7 t with|true=>asg (U d) n t v S λf=>cq (U d) n b f κ|false=>λ_=>False) H:=by induction t using aT<;>first|exact h|exact absurd ⟨_,_,_,rfl⟩ m
  cases a:r7 t with
  |false=>rw[a]at g;exact g.elim
  |true=>rw[a]at g;exact DZ i j g k r l
theorem Yp(cg:sg w os d n)(F:i0 w os d)(k:fK A d)(h:q5 (U d) n iter S (λsrc vs=>forL src (eG d n t b) κ vs S) H)(a1:cj w os P Z H env S af s)(p:uo w os P Z env κ Q):Wp w A (exec (.For t iter b [] pos) env) Q s:=by
 refine wpAny_For ((gU.all F n).i k h a1 λY H₁ cu src vs it o bY E no cb hit b5=>?_) (NF h env);refine codeAny_forLoop_any (λM s=>∃q L a cd z,M=z.length/\cS Z q/\cj w os (P.set it cd) q L env a af s/\l6 w.params q s.heap it src z/\forL src (eG d n t b) κ z a L) (λM s V=>?_) vs.length ⟨Y,H₁,S,o,vs,B,bY,cb,hit,b5⟩;refine US V λct G ao cA a2 bd f W bZ C=>?_;obtain rfl:=bd;have cm:src G:=by induction a2 using aE<;>exact C.1
 refine Wp.to (Nc W no E k.1 bZ cm (λe b7 j=>?_) λbV r e b7 cs I j cc N ap=>?_)
 .subst e;exact wpAny_execs_nil (p.cQ f j C.2)
 .subst e;have b2:eG d n t b bV ao ⟨λa=>forL src (eG d n t b) κ r a,κ.ef,λa=>κ.cQ a,λa=>forL src (eG d n t b) κ r a⟩ G:=C.2;refine Wp.to (ap t _ (Wp.to (Yo F k b2 j cc λco cy cw cr c R ci=>Wp.to (cg.l k ci R ⟨λ{m x X u} l g D=>?_,λl v ca y=>p.ef ((f.trans c).trans l) (v.nz E) ca y,λl v y=>p.cQ ((f.trans c).trans l) (v.nz E) y,λ{m x X u} l g D=>?_⟩))))
  .exact ⟨r.length,by simp,m,x,u,I,r,B,(f.trans c).trans l,g,N.keep (c.trans l) (λo e=>by rw[j.q7]at e;cases e;exact g.q7),D⟩
  .exact ⟨r.length,by simp,m,x,u,I,r,B,(f.trans c).trans l,g,N.keep (c.trans l) (λo e=>by rw[j.q7]at e;cases e;exact g.q7),D⟩
end
section
theorem cj.inter(a:cj w os P Z H env S af s):interactive env=ag:=by refine c_ a λck c b=>?_;dsimp only[interactive];refine b.kind▸?_;rfl
theorem sg.Yr(I:sg w os d n)(D:i0 w os d)(q:fK A d){st:aQ}{κ:cD}{Q:Flow->aA->Prop}(h:ex (U d) (n+1) st S κ H)(j:cj w os P Z H env S af s)(o:uo w os P Z env κ Q):Wp w A (exec st env) Q s:=by
 have G:=gU.all D n
 induction st using aQ.casesOn with
 |Expr e p=>
  induction e using aT with
  |Call f as Y i=>replace h:ev (U d) n (.Call f as Y i) S (λ_=>κ.cQ S) H:=h;exact wpAny_Expr_any (G.e q h j λL H₁ N k x u z V C=>o.cQ u z C) j.inter (D2 B)
  |_=>exact(show False from h).elim
 |Pass p=>exact aV (anG (bf (o.cQ (cS.refl Z) j h)))
 |Break p=>exact aV (anG (bf (o.mU (cS.refl Z) j h)))
 |Continue p=>exact aV (anG (bf (o.ct (cS.refl Z) j h)))
 |Return k p=>
  induction k using a_ with
  |none=>show Wp w A (do anE p;return .ret .none) Q s;exact aV (anG (bf (o.ef (v:=.none) (cS.refl Z) j B h)))
  |some e=>replace h:ev (U d) n e S κ.ef H:=h;show Wp w A (do anE p;return .ret (<-aN e env)) Q s;exact aV (anG (aV (G.e q h j λL H₁ N k x u z V C=>bf (o.ef u z V C))))
 |Assign t k p=>
  induction t using aE with
  |nil=>exact(show False from h).elim
  |cons g t=>
   induction t using aE with
   |cons _ _=>induction g using aT<;>exact(show False from h).elim
   |nil=>
    by_cases X:∃t c i,g=.Tuple t c i
    .refine mq X λt c i ca=>?_;obtain rfl:=ca;replace h:(match jd t&&AP k&&zh k with
     |true=>ev (U d) n k S λE=>jC (U d) n t E S κ.cQ
     |false=>λ_=>False) H:=h
     cases i:(jd t&&AP k&&zh k)with
     |false=>rw[i]at h;exact h.elim
     |true=>rw[i]at h;simp only[aP]at i;exact Yl D q i.1.1 i.1.2 i.2 h j λbZ bd s' W l F v=>o.cQ l F v
    .have v:(match r7 g with
     |true=>ev (U d) n k S λE=>asg (U d) n g E S κ.cQ
     |false=>λ_=>False) H:=by induction g using aT<;>first|exact h|exact absurd ⟨_,_,_,rfl⟩ X
     cases i:r7 g with
     |false=>rw[i]at v;exact v.elim
     |true=>rw[i]at v;exact X_ D q i v j λbZ bd s' W l F v=>o.cQ l F v
 |AugAssign g op k p=>
  induction g using aT with
  |Name x i=>replace h:nameP S x (λa=>ev (U d) n k S λb=>Dh op a b λr=>setName S x r κ.cQ) H:=h;refine wpAny_AugAssign_Name (MC j h λa E a2 b2=>G.e q b2 j λL H₁ N b y u z b5 R=>?_);refine y' (U0 R) λbY ao ch cf eC R=>aB (show dw w.params _ (.int bY) E from cf▸a2) λt1 bV=>aB (show dw w.params _ (.int ao) y from eC▸b5) λc5 a1=>?_;rw[ch,bV,a1];exact iadd_int (DH (v:=.int _) (z.toks) (show ∃g,_=anU _ g from⟨_,B⟩) (.inl B) R λW s' F b7=>o.cQ u F b7)
  |_=>exact(show False from h).elim
 |If g a b p=>
  replace h:iZ (U d) n g S (λc=>b6 c (cq (U d) n a S κ) (cq (U d) n b S κ)) H:=h;refine wpAny_If (G.t q h j λL H₁ N c u z C=>?_)
  induction c using aS with
  |true=>rw[if_pos B];exact I.l q C z (o.later u)
  |false=>rw[if_neg (by simp)];exact I.l q C z (o.later u)
 |While g b M p=>
  induction M using aE with
  |nil=>obtain⟨m,h⟩:∃m,q3 (λS=>iZ (U d) n g S) (λS κ=>cq (U d) n b S κ) κ m S H:=h;exact Yn I D q h j o
  |cons _ _=>exact(show False from h).elim
 |For g it b M p=>
  induction M using aE with
  |nil=>exact Yp I D q (show q5 (U d) n it S (λcb ap=>forL cb (eG d n g b) κ ap S) H from h) j o
  |cons _ _=>exact(show False from h).elim
 |_=>exact(show False from h).elim
theorem sg.all(b:i0 w os d):∀n,sg w os d n
 |0=>⟨λ_ h=>(show False from h).elim,λ_ h=>(show False from h).elim⟩
 |n+1=>⟨λa h c e=>(sg.all b n).Yr b a h c e,λa h c e=>(sg.all b n).GV a h c e⟩
end
section
noncomputable def qz(l:List (Str×aj))(sl:List (Str×aj)):List (Str×aj):=l.foldl (λsl a=>if(sl.lookup a.1).isNone then sl++[a]else sl) sl
theorem N3:∀(l sl:List (Str×aj)),(forIn l sl λx s=>if(aoL x.fst s).isNone=af then pure (ForInStep.yield (s++[(x.fst,x.snd)]))else pure (ForInStep.yield s))=(pure (qz l sl):Sem (List (Str×aj)))
 |[]=>λ_=>B
 |q::l=>λsl=>by rw[List.forIn_cons];show _=(pure (qz l (if(sl.lookup q.1).isNone then sl++[q]else sl)):Sem (List (Str×aj)));rw[<-N3 l];split<;>rfl
noncomputable def sh(as:List Arg):List Str:=as.map (·.arg)
noncomputable def Be(as:List Arg)(r:Option (Array aj)):List aj:=(r.getD #[]).toList.drop ((r.getD #[]).toList.length-(sh as).length)
theorem Ys{n q:Str}{as:List Arg}{kd:List (Option az)}{dd:List az}{bd:FuncBody}{sc:Scope}{g:ai}{cl:List (Str×ai)}{df kdf dc pm:aj}{an:Option ai}{co ct:aj}{bi:ai}{xs:List aj}:∃X a:Option (Array aj)->Sem (List (Str×aj)),
  bindArgs ⟨n,q,⟨[],as,ah,[],kd,ah,dd⟩,bd,sc,g,cl,df,kdf,dc,pm,an,co,ct,bi⟩ ⟨xs,[]⟩=seqItems? df >>= λr=>if(decide (xs.length>(sh as).length)&&af)=af then X r else
   if(!(((sh as).take ((sh as).length-(Be as r).length)).filter λn=>(((sh as).zip xs).lookup n).isNone).isEmpty)=af then a r else
   (forIn (((sh as).drop ((sh as).length-(Be as r).length)).zip (Be as r)) ((sh as).zip xs) λx s=>if(aoL x.fst s).isNone=af then pure (ForInStep.yield (s++[(x.fst,x.snd)]))else pure (ForInStep.yield s)) >>= λsl=>pure ((sh as++[]).filterMap λn=>(sl.lookup n).map (n,·)):=⟨_,_,B⟩
theorem Yt{a:Arguments}(k:a.posonlyargs=[])(l:a.kwonlyargs=[])(i:a.vararg=ah)(j:a.kwarg=ah):a=⟨[],a.args,ah,[],a.kw_defaults,ah,a.defaults⟩:=by
 induction a using Arguments.casesOn with
 |mk b c d e f g h=>
 rw[show b=[]from k,show d=ah from i,show e=[]from l,show g=ah from j]
theorem Yu{fd:aoa}{ps:List Str}{xs ds:List aj}{Q:List (Str×aj)->aA->Prop}(p:fd.params.posonlyargs=[])(a:fd.params.args.map (·.arg)=ps)(j:fd.params.kwonlyargs=[])(f:fd.params.vararg=ah)(h:fd.params.kwarg=ah)
  (hd:∀Q:Option (Array aj)->aA->Prop,(∀r,(r.getD #[]).toList=ds->Q r s)->Wp w A (seqItems? fd.defaults) Q s)(o:xs.length<=ps.length)(m:ds.length<=ps.length)
  (k:(ps.take (ps.length-ds.length)).filter (λn=>((ps.zip xs).lookup n).isNone)=[])
  (l:Q (ps.filterMap λn=>((qz ((ps.drop (ps.length-ds.length)).zip ds) (ps.zip xs)).lookup n).map (n,·)) s):Wp w A (bindArgs fd ⟨xs,[]⟩) Q s:=by
 rw[show fd=_ from congrArg (λi=>aoa.mk fd.name fd.qualname i fd.body fd.scope fd.globals fd.closure fd.defaults fd.kwdefaults fd.doc fd.pyModule fd.annotations fd.code fd.closureTuple fd.builtins) (Yt p j f h)];refine vy (Ys (n:=fd.name) (q:=fd.qualname) (as:=fd.params.args) (kd:=fd.params.kw_defaults) (dd:=fd.params.defaults) (bd:=fd.body) (sc:=fd.scope) (g:=fd.globals) (cl:=fd.closure) (df:=fd.defaults) (kdf:=fd.kwdefaults) (dc:=fd.doc) (pm:=fd.pyModule) (an:=fd.annotations) (co:=fd.code) (ct:=fd.closureTuple) (bi:=fd.builtins) (xs:=xs)) λu t e=>?_;rw[e,show sh fd.params.args=ps from a];refine aV (hd _ λr b=>?_);have c:Be fd.params.args r=ds:=by unfold Be;rw[show sh fd.params.args=ps from a,b,apl m];rfl
 rw[c,if_neg (by rw[decide_eq_false (Nat.not_lt_of_le o)];exact anI),if_neg (k▸anI),N3,bB];exact aV (bf (bf l))
theorem N4:∀{l sl:List (Str×aj)},(∀q∈l,(sl.lookup q.1).isSome=af)->qz l sl=sl
 |[],_,_=>rfl
 |q::l,sl,h=>by show qz l (if(sl.lookup q.1).isNone then sl++[q]else sl)=sl;have:=h q (a4 ..);rw[if_neg (by cases e:sl.lookup q.1<;>simp_all)];exact N4 λq a=>h q (aY _ a)
theorem Yv{l r:List (Str×aj)}{x:Str}:(l++r).lookup x=(l.lookup x).or (r.lookup x):=by
 induction l with
 |nil=>rfl
 |cons a l b=>rw[List.cons_append,bu,bu];cases x==a.1<;>simp[b]
theorem N5:∀{l sl:List (Str×aj)},(l.map (·.1)).Nodup->(∀q∈l,sl.lookup q.1=ah)->qz l sl=sl++l
 |[],sl,_,_=>by simp[qz]
 |q::l,sl,O,h=>by
  rw[aL,bh]at O;show qz l (if(sl.lookup q.1).isNone then sl++[q]else sl)=_;rw[if_pos (by rw[h q (a4 ..)];rfl),N5 O.2 (λa b=>?_)]
  .simp
  .rw [Yv,h a (aY _ b)];show aoL a.1 [q]=ah;rw[bu];have:(a.1==q.1)=ag:=by
    cases c:a.1==q.1 with
    |false=>rfl
    |true=>exact absurd (show q.1∈l.map (·.1)from(beq_iff_eq.mp c)▸bS b) O.1
   refine this▸?_;rfl
theorem Yw:qz (l++r) sl=qz r (qz l sl):=List.foldl_append ..
theorem N6:∀{a:List Str}{b:List aj}{x:Str},a.length=b.length->x∈a->((a.zip b).lookup x).isSome=af
 |y::a,v::b,x,h,c=>by
  rw[aoB,bu];cases e:x==y with
  |true=>rfl
  |false=>
   rcases aI.mp c with rfl|c
   .rw [beq_self_eq_true]at e;exact kD e
   .exact N6 (by simpa using h) c
theorem N7:∀{a:List Str}{b:List aj}{x:Str},x∉a->(a.zip b).lookup x=ah
 |[],_,_,_=>rfl
 |_::_,[],_,_=>rfl
 |y::a,v::b,x,h=>by
  rw[aoB,bu];have:(x==y)=ag:=by
   cases c:x==y with
   |false=>rfl
   |true=>exact absurd (beq_iff_eq.mp c▸a4 ..) h
  exact this▸(N7 λe=>h (aY _ e))
theorem N8:∀{ps:List Str}{vs:List aj},ps.Nodup->ps.length=vs.length->∀{l:List (Str×aj)},(∀x∈ps,l.lookup x=(ps.zip vs).lookup x)->ps.filterMap (λn=>(l.lookup n).map (n,·))=ps.zip vs
 |[],[]=>λ_ _ _ _=>B
 |[],_::_=>λ_ h=>nomatch h
 |_::_,[]=>λ_ h=>nomatch h
 |p::ps,v::vs=>λO h l cv=>by
  rw[bh]at O;have e:l.lookup p=ae v:=by rw[cv p (a4 ..),aoB,bu,beq_self_eq_true]
  rw[apA (by rw[e];rfl),N8 O.2 (by simpa using h) (λx ce=>?_)]
  .rfl
  .rw [cv x (aY _ ce),aoB,bu];have:(x==p)=ag:=by
    cases a:x==p with
    |false=>rfl
    |true=>exact absurd (beq_iff_eq.mp a▸ce) O.1
   rw[this]
theorem Yx{ps:List Str}{xs ds:List aj}(O:ps.Nodup)(b:xs.length<=ps.length)(u:ds.length<=ps.length)(i:ps.length<=xs.length+ds.length):
  (ps.take (ps.length-ds.length)).filter (λn=>((ps.zip xs).lookup n).isNone)=[]/\ps.filterMap (λn=>((qz ((ps.drop (ps.length-ds.length)).zip ds) (ps.zip xs)).lookup n).map (n,·))=ps.zip (xs++ds.drop (ds.length-(ps.length-xs.length))):=by
 have h:ps.zip xs=(ps.take xs.length).zip xs:=by have:=List.zip_append (l₁:=ps.take xs.length) (r₁:=ps.drop xs.length) (l₂:=xs) (r₂:=([]:List aj)) (by simp;exact anp b);rw[aoW,bB]at this;refine this▸?_;simp
 have p:∀n∈ps.take xs.length,((ps.zip xs).lookup n).isSome=af:=λn c=>by exact h▸(N6 (by simp;exact anp b) c)
 have m:((ps.take xs.length)++(ps.drop xs.length)).Nodup:=by rw[aoW];exact O
 have q:(ps.drop xs.length).Nodup:=(aoj.mp m).2.1;have o:ps.length-ds.length<=xs.length:=by(simp+arith at i⊢;exact i)
 refine⟨List.filter_eq_nil_iff.mpr λn c=>?_,?_⟩
 .have g:n∈ps.take xs.length:=by
   have:ps.take (ps.length-ds.length)=(ps.take xs.length).take (ps.length-ds.length):=by rw[List.take_take,anp o]
   rw[this]at c;exact List.mem_of_mem_take c
  obtain⟨y,e⟩:=apS.mp (p n g);refine e▸?_;simp
 .have l:ds.length-(ds.length-(ps.length-xs.length))=ps.length-xs.length:=Nat.sub_sub_self (Nat.sub_le_iff_le_add'.mpr i);have t:xs.length-(ps.length-ds.length)=ds.length-(ps.length-xs.length):=by exact a7 (c0 (ar (eB ps.length ds.length) (sB o)) (eB ds.length (ps.length-xs.length)) (sB b)) ((kU ps.length ds.length).elim (λk=>(kU ds.length (ps.length-xs.length)).elim (λa=>c0 (ar (ak k) (eB xs.length (ps.length-ds.length))) (ak a) (eB ps.length xs.length)) λa=>cY (ak a.1)) λk=>(kU ds.length (ps.length-xs.length)).elim (λa=>c0 (ar (ak a) (eB xs.length (ps.length-ds.length))) (sB u) (eB ps.length xs.length)) λa=>cY (ak a.1))
  have z:ps.drop (ps.length-ds.length)=(ps.take xs.length).drop (ps.length-ds.length)++ps.drop xs.length:=by
   have:ps.drop (ps.length-ds.length)=((ps.take xs.length)++(ps.drop xs.length)).drop (ps.length-ds.length):=by rw[aoW]
   rw[this,List.drop_append_of_le_length (by simp;lia)]
  have r:(ps.drop (ps.length-ds.length)).zip ds=((ps.take xs.length).drop (ps.length-ds.length)).zip (ds.take (ds.length-(ps.length-xs.length)))++(ps.drop xs.length).zip (ds.drop (ds.length-(ps.length-xs.length))):=by rw[z,<-List.zip_append (by rw[aoC,apB,apB,anp b,anp (Nat.sub_le ..)];exact t),aoW]
  have v:∀f∈((ps.take xs.length).drop (ps.length-ds.length)).zip (ds.take (ds.length-(ps.length-xs.length))),((ps.zip xs).lookup f.1).isSome=af:=λf j=>
   p f.1 (List.mem_of_mem_drop (List.of_mem_zip j).1)
  have fin:qz ((ps.drop (ps.length-ds.length)).zip ds) (ps.zip xs)=ps.zip (xs++ds.drop (ds.length-(ps.length-xs.length))):=by
   rw[r,Yw,N4 v,N5]
   .rw [h,<-List.zip_append (by simp;exact anp b),aoW]
   .rw [anV (by rw[aoC,aoC,l];exact av _)];exact q
   .intro f j;exact h▸(N7 λg=>(aoj.mp m).2.2 _ g _ (List.of_mem_zip j).1 B)
  rw[fin];exact N8 O (by rw[bA,aoC,l,Nat.add_sub_cancel' b]) λx _=>B
end
section
theorem D8[BEq a][LawfulBEq a]:∀{l:List (a×β)}{x:a}{k:β},(l.map (·.1)).Nodup->(x,k)∈l->l.lookup x=ae k
 |(y,v)::l,x,k,O,h=>by
  rw[aL,bh]at O;rw[bu];rcases aI.mp h with e|h
  .cases e;rw[beq_self_eq_true]
  .have:(x==y)=ag:=by
    cases b:x==y with
    |false=>rfl
    |true=>exact absurd (show y∈l.map (·.1)from(beq_iff_eq.mp b)▸bS h) O.1
   exact this▸(D8 O.2 h)
theorem N_{kindOf:Str->Option aR}:∀{bs:List (Str×aj)}{m:Str->Option aj}{x:Str},(bs.map (·.1)).Nodup->kindOf x=ae .local->bindL kindOf bs m x=match bs.lookup x with|some u=>ae u|none=>m x
 |[],m,x,_,_=>rfl
 |(y,v)::bs,m,x,O,V=>by
  rw[aL,bh]at O;show bindL kindOf bs (if kindOf y=ae .local then λa=>if a=y then ae v else m a else m) x=_;rw[N_ O.2 V,bu];cases a:x==y with
  |true=>
   have:=beq_iff_eq.mp a;subst this;have:bs.lookup x=ah:=by
    cases e:bs.lookup x with
    |none=>rfl
    |some u=>exact absurd (bS (f:=(·.1)) (mem_of_lookup e)) O.1
   rw[this,if_pos V];show(if x=x then ae v else m x)=_;rw[if_pos B]
  |false=>
   have ne:¬x=y:=λe=>by rw[e,beq_self_eq_true]at a;exact kD a
   cases bs.lookup x with
   |some u=>rfl
   |none=>
    dsimp only;split
    .exact if_neg ne
    .rfl
theorem Oa{kindOf:Str->Option aR}:∀{bs:List (Str×aj)}{m:Str->Option aj}{x:Str},(bs.map (·.1)).Nodup->kindOf x=ae .cell->bindC kindOf bs m x=match bs.lookup x with|some u=>ae u|none=>m x
 |[],m,x,_,_=>rfl
 |(y,v)::bs,m,x,O,V=>by
  rw[aL,bh]at O;show bindC kindOf bs (if kindOf y=ae .local then m else λa=>if a=y then ae v else m a) x=_;rw[Oa O.2 V,bu];cases a:x==y with
  |true=>
   have:=beq_iff_eq.mp a;subst this;have:bs.lookup x=ah:=by
    cases e:bs.lookup x with
    |none=>rfl
    |some u=>exact absurd (bS (f:=(·.1)) (mem_of_lookup e)) O.1
   rw[this,if_neg (by rw[V];simp)];show(if x=x then ae v else m x)=_;rw[if_pos B]
  |false=>
   have ne:¬x=y:=λe=>by rw[e,beq_self_eq_true]at a;exact kD a
   cases bs.lookup x with
   |some u=>rfl
   |none=>
    dsimp only;split
    .rfl
    .exact if_neg ne
theorem D9:∀(a:List (Str×aR))(n:Nat)(acc:List (Str×ai))(x:Str),(x,aR.cell)∈a\/(acc.lookup x).isSome=af->((cellsFrom n a acc).lookup x).isSome=af
 |[]=>λn acc x h=>h.resolve_left (by simp)
 |(y,k)::a=>λn acc x h=>by
  show((if k==.cell then cellsFrom (n+1) a ((y,n)::acc)else cellsFrom n a acc).lookup x).isSome=af;by_cases b:(k==.cell)=af
  .rw [if_pos b];refine D9 a _ _ x ?_;rw[bu];cases c:x==y with
   |true=>exact .inr B
   |false=>
    rcases h with h|h
    .rcases aI.mp h with e|h
     .cases e;rw[beq_self_eq_true]at c;exact kD c
     .exact .inl h
    .exact .inr h
  .rw [if_neg b];refine D9 a _ _ x ?_;rcases h with h|h
   .rcases aI.mp h with e|h
    .cases e;exact absurd B b
    .exact .inl h
   .exact .inr h
theorem Ob:∀{ps:List Str}{vs:List J}{xs:List aj},cX p Z vs xs->∀{x:Str},(match look x (ps.zip vs)with|some v=>∃u,(ps.zip xs).lookup x=ae u/\dw p Z v u|none=>(ps.zip xs).lookup x=ah)
 |[],vs,xs,r,x=>rfl
 |_::_,[],xs,r,x=>by cases r;rfl
 |q::ps,v::vs,xs,r,x=>by
  refine gT r λy g f e c=>?_;obtain rfl:=f;rw[aoB,aoB,bu];show match(match sEq q x with|true=>ae v|false=>look x (ps.zip vs))with|some v=>_|none=>_
  cases a:sEq q x with
  |true=>have:=kE a;subst this;rw[beq_self_eq_true];exact⟨y,B,e⟩
  |false=>
   have:(x==q)=ag:=by
    cases b:x==q with
    |false=>rfl
    |true=>rw[beq_iff_eq.mp b,xg]at a;exact kD a
   rw[this];exact Ob c
theorem Hn:∀{g:List (Str×aR)}{x:Str}{sl:d6},look x (g.filterMap (slot0 bs))=ae sl->∃k,(x,k)∈g/\slot0 bs (x,k)=ae (x,sl)
 |(n,k)::r,x,sl,h=>by
  cases e:slot0 bs (n,k)with
  |none=>replace h:=(List.filterMap_cons_none e)▸h;exact c_ (Hn h) λf a b=>⟨f,aY _ a,b⟩
  |some c=>
   rw[apA e]at h;obtain⟨y,i⟩:=c;have j:y=n:=by
    induction k using aR.casesOn with
    |«local»=>exact(congrArg ans (aC.inj e)).symm
    |cell=>exact(congrArg ans (aC.inj e)).symm
    |globalImplicit=>exact aB (anA.mp (e:(r4 n).map _=_)) λ_ e=>(congrArg ans e.2).symm
    |_=>exact cV e
   subst j;replace h:(match sEq y x with|true=>ae i|false=>look x (r.filterMap (slot0 bs)))=ae sl:=h;cases c:sEq y x with
   |true=>replace h:=c▸h;cases h;have:=kE c;subst this;exact⟨k,a4 ..,e⟩
   |false=>rw[c]at h;refine c_ (Hn h) λf a b=>?_;exact⟨f,aY _ a,b⟩
theorem Yz{fd:aoa}{a:ai}{ps:List Str}{vs:List J}{xs:List aj}(R:fO w os P Z ck H s)(up:1235<=s.heap.objs.size)(E:fd.scope.kind=.function)(I:fd.globals=3/\fd.builtins=0)(O:(fd.scope.names.map (·.1)).Nodup)(D:ps.Nodup)(r:cX w.params Z vs xs)(cv:ps.length=xs.length)
  (x:InCallC s (aos fd s.heap.objs.size a).locals (bindL (aos fd s.heap.objs.size a).kindOf (ps.zip xs) λ_=>ah) (aos fd s.heap.objs.size a).cells (bindC (aos fd s.heap.objs.size a).kindOf (ps.zip xs) λ_=>ah) s'):
  l4 w.params P Z ck H s'.heap (aos fd s.heap.objs.size a) (fd.scope.names.filterMap (slot0 (ps.zip vs))) af:=by
 have v:∀b,s.heap.objs.size<=b->Out P Z ck H b:=λb h=>R.out (none_of λi e=>absurd (bK e) (aoT.mpr h));have q:((ps.zip xs).map (·.1)).Nodup:=by rw[anV (ak cv)];exact D
 refine⟨E,I,v _ (av _),up,λy c e=>?_,λy C c e F=>name_of_addr x.apart (mem_of_lookup e) (mem_of_lookup F),_,x.toInCall.ns,λy L e=>?_⟩
 .have g:=x.above _ _ (mem_of_lookup e);have i:=v c (aoA g);exact c_ (x.cell _ _ e) λG z _=>⟨Nat.ne_of_gt g,i.z,i.h,i.o,λ_=>i.p,G,z⟩
 .refine c_ (Hn e) λk t hs=>?_;have f:(aos fd s.heap.objs.size a).kindOf y=ae k:=D8 O t;have j:=Ob (Z:=Z) (ps:=ps) r (x:=y)
  induction k using aR.casesOn with
  |«local»=>
   obtain rfl:=congrArg aom (aC.inj hs);cases o:look y (ps.zip vs)with
   |none=>exact f
   |some u=>replace j:=o▸j;exact aB j λm h=>⟨f,m,by rw[N_ q f,h.1],h.2⟩
  |cell=>
   obtain rfl:=congrArg aom (aC.inj hs);refine aB (apS.mp (D9 fd.scope.names (s.heap.objs.size+1) [] y (.inl t))) λc g=>?_;have l:=x.cell _ _ (show(aos fd s.heap.objs.size a).cells.lookup y=ae c from g);replace l:=Oa q f▸l;cases o:look y (ps.zip vs)with
   |none=>exact⟨f,c,_,g,l⟩
   |some u=>replace j:=o▸j;exact aB j λm h=>⟨f,c,m,g,by rw[h.1]at l;exact l,h.2⟩
  |globalImplicit=>refine aB (anA.mp (hs:(r4 y).map _=_)) λu h=>?_;obtain rfl:=congrArg aom h.2;exact⟨f,h.1⟩
  |_=>exact cV hs
end
section
noncomputable def Ho(x:Data):Bool:=match x with
 |.dict a _=>a.all (λe=>match e.key with|.str _ _=>af|_=>ag)&&(nsFind a (au "sys.recursionlimit")).isNone
 |_=>ag
noncomputable def Hq(o:Obj):Bool:=Ho o.data
theorem YA(q:o.data=.dict es oM):Hq o=(es.all (λe=>match e.key with|.str _ _=>af|_=>ag)&&(nsFind es (au "sys.recursionlimit")).isNone):=congrArg Ho q
theorem YB(q:Ho o.data=ag):Hq o=ag:=q
theorem YC(P:aw):Hq (boot_o_2 P)=af:=by cbv
theorem YD(P:aw):(gH P).lookup 2=ae (boot_o_2 P):=by cbv
theorem noLimit(X:(gH w.params).In h):h.NoLimit:=by
 have e:=X _ _ (YD w.params);have b:=YC w.params;revert e b;generalize boot_o_2 w.params=o;intro e b;cases c:o.data with
 |dict a i=>
  have b:(a.all (λe=>match e.key with|.str _ _=>af|_=>ag)&&(nsFind a (au "sys.recursionlimit")).isNone)=af:=YA c▸b;replace b:=(aP ..).mp b;refine⟨λn=>nsFind a n,⟨o,a,i,e,c,λx ce=>?_,λ_=>B⟩,Option.isNone_iff_eq_none.mp b.2⟩;have:=Array.all_eq_true_iff_forall_mem.mp b.1 x ce;cases g:x.key with
  |str n f=>exact⟨n,f,B⟩
  |_=>replace this:=g▸this;exact d8 this
 |_=>replace b:=(YB (c▸B)).symm.trans b;exact d8 b
theorem fO.size(R:fO w os P Z ck H s):1235<=s.heap.objs.size:=by exact c_ (Dw (a:=1234) (s:=b3 93) (ds:=[]) B) λc _ b=>bK (R.lL _ _ (b w.params))
theorem xo.deeper(r:xo A (d+1))(e:Env):fK (A.deeper e) d:=⟨r.1,by have:=r.2.1;show A.depth+1+3*d+5<=_;exact cY this,by have:=r.2.2;show A.units+3+12*d+205<=_;exact cY this⟩
theorem YE:(mr.all λq=>a0 q.2.2.length (qv q.2.1).length)=af:=by cbv
theorem YF:(mr.all λq=>AV (qv q.2.1))=af:=by cbv
theorem i0.zero:i0 w os 0:=λ_ h=>(show False from h).elim
theorem YG:∀{k:ScopeKind},isFun k=af->k=.function:=by intro k h;induction k using ScopeKind.casesOn<;>first|rfl|exact d8 h
theorem YH:∀{k:aR},MS k=af->k=.local\/k=.cell:=by intro k h;induction k using aR.casesOn<;>first|exact .inl rfl|exact .inr rfl|exact d8 h
class inductive Plain(s:aQ):Prop
 |mk:(vO s).posonlyargs=[]->(vO s).vararg=ah->(vO s).kwonlyargs=[]->(vO s).kwarg=ah->(oL s).isGenerator=ag->(oL s).isCoroutine=ag->(oL s).kind=.function->((oL s).names.map (·.1)).Nodup->
  (∀x,x∈qv s->(oL s).names.lookup x=ae .local\/((oL s).names.lookup x=ae .cell/\∀n,((cellsFrom n (oL s).names []).lookup x).isSome=af))->Plain s
theorem YI{s:aQ}(h:plainDef s=af):Plain s:=by have h:(_&&_)=af:=h;simp only[aP,apn,List.isEmpty_iff,Option.isNone_iff_eq_none]at h;have b:=AW h.1.2;refine .mk h.1.1.1.1.1.1.1.1 h.1.1.1.1.1.1.1.2 h.1.1.1.1.1.1.2 h.1.1.1.1.1.2 h.1.1.1.1.2 h.1.1.1.2 (YG h.1.1.2) b λx ce=>c_ (apo.mp (br.mp h.2 _ ce)) λf g c=>?_;rw[aP]at c;have e:f.1=x:=kE c.1;have lk:∀k,f.2=k->(x,k)∈(oL s).names:=λk a=>a▸e▸g;exact(YH c.2).elim (λa=>.inl (D8 b (lk _ a))) λa=>.inr ⟨D8 b (lk _ a),λn=>D9 _ _ _ _ (.inl (lk _ a))⟩
theorem YJ(i:fO w os P Z ck H s)(l:Dv (gH w.params) v ds=af):∃g,cX w.params Z ds g/\∀(A:a9)(Q:Option (Array aj)->aA->Prop),(∀r,(r.getD #[]).toList=g->Q r s)->Wp w A (seqItems? v) Q s:=by
 have j:∀a c,(gH w.params).lookup a=ae c->Z a=ae c:=λa c e=>i.base a c (Gu _ e);refine(Wb l).elim (λf=>?_) λf=>c_ f λa e b=>c_ (Dm b) λc k b=>c_ (Dm b) λxs d b=>aB (MB d) λn d=>?_
 .rw [List.isEmpty_iff.mp f.2];exact⟨[],B,λA Q h=>by rw[f.1];exact aV (bf (bf (h ah B)))⟩
 .refine ⟨xs.toList,vL j _ _ b,λA Q h=>?_⟩;rw[e];exact wpAny_seqItems (i.lL _ _ k) d (h (ae xs) B)
theorem YK(h:Gm ps args ds=ae bs):ps.length=(args++ds.drop (ds.length-(ps.length-args.length))).length/\args.length<=ps.length/\ps.zip (args++ds.drop (ds.length-(ps.length-args.length)))=bs:=by
 replace h:(if ps.length=(args++ds.drop (ds.length-(ps.length-args.length))).length/\args.length<=ps.length then ae (ps.zip (args++ds.drop (ds.length-(ps.length-args.length))))else ah)=ae bs:=h;by_cases c:ps.length=(args++ds.drop (ds.length-(ps.length-args.length))).length/\args.length<=ps.length
 .rw [if_pos c]at h;exact⟨c.1,c.2,aC.inj h⟩
 .rw [if_neg c]at h;exact cV h
theorem YL(M:i0 w os d){f:ai}{args:List J}{k:cZ}{xs:List aj}{R:Result->aA->Prop}{st:aQ}{ds:List J}{i:Str×aj×aj×aj}{bs:List (Str×J)}(G:xo A (d+1))(g:fO w os P Z ck H s)(r:cX w.params Z args xs)
  (oe:∀Z' j z s' v x,cS Z Z'->fO w os P Z' j z s'->dw w.params Z' v x->k v z->R (.ok (.ret x)) s')(b2:∀P,(gH P).lookup f=ae (rZ (fdOf st i)))(code:codeIn (gH w.params) i.2.2.2 i.1=af)(bY:Dv (gH w.params) i.2.1 ds=af)(pl:Plain st)
  (dl:ds.length<=(qv st).length)(u:(qv st).Nodup)(bZ:Gm (qv st) args ds=ae bs)(h:cq (U d) 200 (xf st) ((oL st).names.filterMap (slot0 bs)) (cD.top k) H):codeAny (bp dW w) A (.call (.ref f) ⟨xs,[]⟩) R s:=by
 induction pl with
 |mk a1 ap Y N W Q E a2 bd=>
 refine c_ (YJ g bY) λp C hd=>iw (YK bZ) λF L ao=>?_;have o:=r.length;have ld:=C.length;have I:cX w.params Z (args++ds.drop (ds.length-((qv st).length-args.length))) (xs++p.drop (p.length-((qv st).length-xs.length))):=by rw[<-ld,<-o];exact r.append (cX.drop _ C)
 have t:=F;simp only[bA,aoC]at t;refine eP (Yx (ps:=qv st) (xs:=xs) (ds:=p) u (o▸L) (ld▸dl) (c0 (ak o) (ak ld) (ak t))) λca V=>codeAny_call_function (fd:=fdOf st i) (body:=xf st) (by have:=G.2.1;exact cY this) (g.lL _ _ (b2 w.params)) B Q W B (codeRec_of g.lL code) (Wp.to (Yu (ps:=qv st) (ds:=p) a1 B Y ap N (hd _) (o▸L) (ld▸dl) ca ?_));rw[V];refine wpAny_newFunctionEnv_cells E (λx ce=>(bd x.1 (List.of_mem_zip (show(x.1,x.2)∈_ from ce)).1).elim .inl λe=>.inr ⟨e.1,e.2 _⟩) λenv bV y x=>?_;rw[bV]at x⊢;refine⟨(noLimit g.lL).keeps x.toInCall.keep,codeAny_func (Wp.to ?_)⟩;have D:=Yz (fd:=fdOf st i) (a:=f) (vs:=args++ds.drop (ds.length-((qv st).length-args.length))) g g.size E ⟨B,B⟩ a2 u I (F.trans I.length) x;rw[ao]at D;have b5:fO w os P Z ck H y:=vy x.toInCall.same λc tk e=>g.move (s':=y) (λb X _ cb=>x.toInCall.keep b X cb) (by rw[e]) (by rw[e]);exact(sg.all M 200).l (G.deeper _) h ⟨ck,b5,D⟩ ⟨λl m c=>c_ m λj q _=>oe _ j _ _ .none _ l q B c,λl m b7 c=>c_ m λj q _=>oe _ j _ _ _ _ l q b7 c,λl m c=>False.elim c,λl m c=>False.elim c⟩
theorem i0.succ(g:i0 w os d):i0 w os (d+1):=by
 intro A f args k P Z ck H s xs R cy h R₀ r oe;replace h:(match kW f mr with
  |some (s,b)=>match AQ s args b with
   |some S=>cq (U d) 200 (xf s) S (cD.top k)
   |none=>λ_=>False
  |none=>λ_=>False) H:=h
 cases a:kW f mr with
 |none=>rw[a]at h;exact False.elim h
 |some m=>
  obtain⟨st,b⟩:=m;rw[a]at h;replace h:(match AQ st args b with
   |some S=>cq (U d) 200 (xf st) S (cD.top k)
   |none=>λ_=>False) H:=h
  cases c:AQ st args b with
  |none=>rw[c]at h;exact False.elim h
  |some S=>
   rw[c]at h
   exact c_ (Dw a) λo e l=>c_ (anA.mp c) λbs j i=>YL g cy R₀ r oe l (br.mp (Wa w.params) _ e) (br.mp (Wc w.params) _ e) (YI (br.mp Wd _ (ud a)))
    (ay (br.mp YE _ (ud a))) (AW (br.mp YF _ (ud a))) j (i▸h)
theorem i0.all:∀d,i0 w os d
 |0=>i0.zero
 |d+1=>i0.succ (i0.all d)
end
end
section
noncomputable def Og(o:Obj):Option aj:=match o.data with|.dict a _=>nsFind a (au "law")|_=>ah
theorem YS(P:aw):((gH P).lookup 3).bind Og=ae (.ref 1234):=by cbv
theorem YT:dL.name=au "law":=by cbv
def d3(w:aF)(s:aA)(l:ai):eY:=λb=>if b=l then ah else match(H₁ w.params).get? b with
 |some _=>ah
 |none=>s.heap.get? b
def si(w:aF)(l:ai)(o:Obj):eY:=λb=>match(H₁ w.params).get? b with
 |some x=>ae x
 |none=>if b=l then ae o else ah
theorem ints_of:∀{ds:List WData}{vs:List aj}{as:List ai},WShape.hasItems R ds .int=af->ReadsAllW R cl h vs ds as->∃xs:List Int,cX p Z (xs.map J.int) vs/\xs.length=ds.length
 |[],vs,as,_,b=>by obtain⟨rfl,_⟩:=readsAllW_nil_inv b;exact⟨[],B,B⟩
 |d::ds,vs,as,hi,b=>by
  refine C9 (readsAllW_cons_inv b) λn o a q m g i j=>?_;obtain rfl:=m;obtain rfl:=g;refine gu (hasW_int (hasItemsW_at hi d (a4 ..))) λf c=>?_;obtain rfl:=c;refine c_ (readsW_int_inv i) λk c _=>?_;obtain rfl:=c;have e:WShape.hasItems R ds .int=af:=by rw[hasItems_all]at hi⊢;rw[List.all_cons,aP]at hi;exact hi.2
  exact c_ (ints_of (p:=p) (Z:=Z) e j) λxs r l=>⟨f::xs,.cons ⟨k,B⟩ r,by simp[l]⟩
theorem YW:kh.row.claim.post [.list ds] (.bool af) [.list ds]=af:=by exact postW_of (show WShape.has kh.row.records (.bool af) .bool=af from B) (by wtm_val) (by w_fin)
theorem YX(h:WTm.holds kh.row.records kh.row.pre {args:=[.list ds]}=af):ds.length<=63:=by
 have e:kh.row.pre=.and (.not (.lt (.lit (.int 63)) (.len (.arg 0)))) (.lit (.bool af)):=B;rw[e]at h;have a:=condW_of h (by wtm_val)
 try simp only[bi_beq,bi_bne,bi_and,bi_or,bi_not,bi_false,bi_tt,bi_ft,bi_ieq,bi_ine,bi_dec,bi_ite,false_iff,iff_false,true_iff,iff_true,true_and,and_true,false_and,and_false,true_or,or_true,false_or,or_false,not_true_eq_false,not_false_eq_true]at a
 simp at a;lia
theorem Hr(e:d3 w dg l b=ae y):b≠l/\(H₁ w.params).get? b=ah/\dg.heap.get? b=ae y:=by
 unfold d3 at e;by_cases a:b=l
 .rw [if_pos a]at e;exact cV e
 .rw [if_neg a]at e;cases c:(H₁ w.params).get? b with
  |none=>rw[c]at e;exact⟨a,B,e⟩
  |some x=>rw[c]at e;exact cV e
theorem Oi{l b:ai}{lo:Obj}(z:(H₁ w.params).get? b=ah):si w l lo b=if b=l then ae lo else ah:=by unfold si;rw[z]
theorem Hs{l b:ai}{lo x:Obj}(z:(H₁ w.params).get? b=ae x):si w l lo b=ae x:=by unfold si;rw[z]
theorem YY{c:aA}{l b:ai}{lo y:Obj}(f:w4 w c.heap)(g:c.heap.get? l=ae lo)(e:si w l lo b=ae y):c.heap.get? b=ae y:=by
 cases d:(H₁ w.params).get? b with
 |some x=>exact f _ _ (d.trans ((Hs d).symm.trans e))
 |none=>
  rw[Oi d]at e;by_cases a:b=l
  .rw [if_pos a]at e;exact a▸g.trans e
  .rw [if_neg a]at e;exact cV e
theorem YZ{a:aA}{l:ai}{lo:Obj}(d:w4 w a.heap)(f:a.heap.get? l=ae lo)(c:a.gens=⟨[]⟩):fO w a.os (d3 w a l) (si w l lo) (λ_=>ah) (λ_=>ah) a:=
 ⟨λb y e=>(Hr e).2.2,λb y e=>YY d f e,λb y e=>Hs e,λb g e=>cV e,λb y e=>⟨(Oi (Hr e).2.1).trans (if_neg (Hr e).1),B,B⟩,λb y e=>⟨B,B⟩,λb y e=>cV e,c,B⟩
theorem Y0{a s':aA}{l:ai}{lo:Obj}{Z':eY}{g:ai->Option ai}{h:bW}(i:w4 w a.heap)(j:a.heap.get? l=ae lo)(k:si w l lo l=ae lo)(le:cS (si w l lo) Z')(d:fO w a.os (d3 w a l) Z' g h s'){b:ai}{o:Obj}(e:a.heap.get? b=ae o):s'.heap.get? b=ae o:=by
 by_cases c:b=l
 .exact d.gw _ _ (le _ _ (c▸k.trans (j.symm.trans (c▸e))))
 .cases f:(H₁ w.params).get? b with
  |some y=>exact d.gw _ _ (le _ _ ((Hs f).trans ((i _ _ f).symm.trans e)))
  |none=>exact d.j3 _ _ (by unfold d3;rw[if_neg c,f];exact e)
theorem join{D:Nat}(N:xo callerA D)(core:∀xs:List Int,xs.length<=63->∀k:cZ,(∀u,k (.bool af) u)->U D 1234 [.lst (xs.map J.int)] k (λ_=>ah)):Walk:=by
 intro c bY t a1 ca Y f a i pm cd doc C2 amH cw amI amJ amK n Ht args vals as Y3 amL j amM amN;refine eP (pre_splitW (r:=kh.row.toRowW) Y3) λd C=>?_;have d:WShape.hasAll kh.row.toRowW.records args [.list .int]=af:=d;obtain⟨cc,args,rfl,z,d⟩:=hasAllW_cons d;obtain rfl:=hasAllW_nil d;refine c_ (hasW_list z) λQ s E=>?_;obtain rfl:=s;obtain⟨a2,b5,bd,as,rfl,rfl,A,j⟩:=readsAllW_cons_inv j;refine eP (readsAllW_nil_inv j) λW s=>?_;obtain rfl:=W;obtain rfl:=s;refine UT (readsW_list_open A) λl lo X m b2 I h y F R _=>?_;obtain rfl:=I;have G:Q.length<=63:=YX C;have w:si c l lo l=ae lo:=by
  unfold si;cases e:(H₁ c.params).get? l with
  |none=>exact if_pos B
  |some x=>have:=f _ _ e;replace this:=h▸this;cases this;rfl
 refine c_ (ints_of (p:=c.params) (Z:=si c l lo) E R) λxs sb L=>?_;have M:(gH c.params).In t.heap:=Gn c λb i e=>f b i e;have o:a=1234:=by
  refine c_ (Option.bind_eq_some_iff.mp (YS c.params)) λb7 ch cf=>mn Y.T.g λci bZ ck eC hY _ ao=>?_;have:=M _ _ ch;replace eC:=(show aoq=3 from B)▸eC;replace this:=eC▸this;cases this;unfold Og at cf;replace cf:=hY▸cf;have H:a1 dL.name=ae (.ref 1234):=by rw[YT,<-ao];exact cf
  replace n:=H▸n;cases n;rfl
 subst o;have S:=YZ f h Ht;refine Wp.to (show Wp c callerA (bo (.ref 1234) [.ref l]) _ t from wpAny_call (i0.all D N (core xs (w6 G L B) (λv _=>v=.bool af) λ_=>B) S (.cons ⟨l,lo,X,m,B,w,y,F,sb⟩ .nil) λcb bV u cg v x le q V ap=>?_));subst ap;cases V;refine⟨.inl ⟨.bool af,.bool af,[],B,λ_=>B,.bool af,YW,λ_=>⟨aol,λa o=>by cases o⟩⟩,.of_keep λb i e=>?_,q.os_,.of_eq q.gens⟩;exact Y0 f h w le q e
end
section
variable{w:aF}{os:aM}{A:a9}{P Z:eY}{H:bW}{s s':aA}{env:Env}{S:Loc}{d n:Nat}{own:Bool}{ck:ai->Option ai}
section
theorem bW.set_same(H:bW)(a:ai)(o:hg):H.set a o a=ae o:=if_pos B
theorem bW.el(H:bW)(o:hg)(h:b≠a):H.set a o b=H b:=if_neg h
theorem k0(h:H a=ae (.inst C fs))(b:r3 C x=af)(l:look x fs=ae u)(c:k u H):b4 (.ref a) x k H:=
 ⟨C,_,_,u,.inr ⟨a,fs,B,h,B,B⟩,b,Gy x fs▸l,c⟩
theorem kH{C:ai}{a:List Str}{vs:List J}{x:Str}{u:J}(b:r3 C x=af)(l:pD x a vs=ae u)(c:k u H):b4 (.obj C a vs) x k H:=
 ⟨C,a,vs,u,.inl B,b,l,c⟩
theorem D'{k:J×List J->bT}(h:H a=ae (.inst C fs))(n:look x fs=ah)(b:jB C=af)(l:mS C x=ae f)(c:k (.glob f,[.ref a]) H):methP (.ref a) x k H:=
 .own C _ _ f (.inr ⟨a,fs,B,h,B,B⟩) b l (Gz n) c
theorem D_{C f:ai}{a:List Str}{vs:List J}{x:Str}{k:J×List J->bT}(n:(a.all λk=>!sEq k x)=af)(b:jB C=af)(l:mS C x=ae f)(c:k (.glob f,[.obj C a vs]) H):methP (.obj C a vs) x k H:=
 .own C a vs f (.inl B) b l (λk m=>apn _▸br.mp n k m) c
theorem Y8{k:J×List J->bT}(a:(jB C&&sEq x (au "__init__"))=af)(l:mS C x=ae f)(b:k (.glob f,[]) H):methP (.glob C) x k H:=
 .cls C f B (GM a).1 (GM a).2 l b
theorem Ea{a:ai}{vs:List J}{x:Str}{b:String}{k:J×List J->bT}(h:H a=ae (.list vs))(e:(b="list.append"/\sEq x (au "append")=af)\/(b="list.pop"/\sEq x (au "pop")=af))(c:k (.blt b,[.ref a]) H):methP (.ref a) x k H:=
 e.elim (λe=>.app a vs B h e.2 (e.1▸c)) λe=>.pop a vs B h e.2 (e.1▸c)
theorem gX{a C:ai}{fs:List (Str×J)}{x:Str}{u:J}{k:bT}(h:H a=ae (.inst C fs))(b:r3 C x=af)(l:fs.length<=100)(c:k (H.set a (.inst C (put x u fs)))):ej (.ref a) x u k H:=
 ⟨a,C,fs,B,h,b,l,c⟩
theorem xx{a:ai}{vs:List J}{j:Int}{i:Nat}{u:J}(h:H a=ae (.list vs))(l:vs.length<=16000000)(e:idx vs.length j=ae i)(g:vs[i]?=ae u)(b:k u H):cF (.ref a) (.int j) k H:=
 .seq (.li vs) j i u (kj h) B l e g b
theorem zw{vs:List J}{j:Int}{i:Nat}{u:J}(l:vs.length<=16000000)(e:idx vs.length j=ae i)(g:vs[i]?=ae u)(a:k u H):cF (.tup vs) (.int j) k H:=
 .seq (.cb vs) j i u B B l e g a
theorem oS{vs:List J}{j:Int}{i:Nat}{u:J}(l:vs.length<=16000000)(e:idx vs.length j=ae i)(g:vs[i]?=ae u)(a:k u H):cF (.lst vs) (.int j) k H:=
 .seq (.li vs) j i u B B l e g a
theorem Eb(h:H a=ae (.eJ es))(e:look x es=ae u)(b:k u H):cF (.ref a) (.str x) k H:=
 .eJ a es x u B B h e b
theorem Oj{b:l1}{a:ai}{vs:List J}(h:H a=ae (.list vs))(l:vs.length<=16000000)(c:k (.int vs.length) H):jR b (.blt "len") [.ref a] k H:=
 .len _ vs.length B B (congrArg (aoD λs=>(lq s).length) (kj h)) l c
theorem Ol{b:l1}{a:ai}{vs:List J}{v:J}(h:H a=ae (.list vs))(l:vs.length<=16000000)(c:k .none (H.set a (.list (vs++[v])))):jR b (.blt "list.append") [.ref a,v] k H:=
 .app a v vs B B h l c
theorem Bh{c:Bool}{k:Bool->bT}(e:mT H op a b=ae c)(f:k c H):cp op a b k H:=⟨c,e,f⟩
theorem new_(h:∀a,H a=ah->k (.ref a) (H.set a o)):eX o k H:=h
end
section
theorem Y9(d:Nat)(k:cZ)(b m:J):U (d+1) 1151 [b,m] k=cF b (.int 0) λr=>jR (U d) (.blt "len") [r] λh=>cp .Gt h (.int 0) λc2=>b6 c2 (cF b (.int 0) λp=>methP p (au "pop") λa=>jR (U d) a.1 (a.2++[.int 0]) λq=>d4 .Mod q m λl=>k l) (cF b (.int 1) λi=>d4 .Add i (.int 1) λj=>lJ b (.int 1) j (cF b (.int 1) λe=>d4 .Mult (.int 5) e λf=>cF b (.int 1) λc=>d4 .FloorDiv c (.int 3) λg=>d4 .Add f g λo=>d4 .Mod o m λt=>k t)):=by cbv
structure dV where
 l:List Int
 a:Int
 b:Int
noncomputable def dV.take(x:dV):Int×dV:=match x.l with
 |i::r=>(i,{x with l:=r})
 |[]=>(5*(x.a+1)+(x.a+1).fdiv 3,{x with a:=x.a+1})
def lM(H:bW)(b9 L:ai)(x:dV):Prop:=H b9=ae (.list [.ref L,.int x.a,.int x.b])/\H L=ae (.list (x.l.map .int))/\b9≠L/\x.l.length<=1000/\0<=x.a/\x.a<=16000000/\0<=x.b/\x.b<=1000000
def k1(H:bW)(b9 L:ai)(x:dV)(k:cZ)(v:J):Prop:=∀a,(∀c,c≠b9->c≠L->a c=H c)->lM a b9 L x->k v a
theorem Y_{b9 L:ai}{x:dV}{m:Int}(z:lM H b9 L x)(h0:0<m)(h1:m<1000)(ce:x.a<16000000)(v:k1 H b9 L x.take.2 k (.int (x.take.1.fmod m))):U (d+1) 1151 [.ref b9,.int m] k H:=by
 rw[Y9];refine L' z λh j i g q y p o=>xx h (by simp) (i:=0) B B (Oj j (by simp;exact fa g B) (Bh (c:=decide (0<((x.l.map J.int).length:Int))) B ?_));obtain⟨l,a,b⟩:=x;dsimp only at*
 induction l using aE with
 |cons f r=>
  refine(show decide (0<(((f::r).map J.int).length:Int))=af by simp)▸(xx h (by simp) (i:=0) B B (Ea j (b:="list.pop") (.inr ⟨B,B⟩) ?_));refine q2.Mh L (.int f) (r.map .int) B B j ?_ ?_
  .simp at g⊢;exact fa g B
  .refine .mod f m B B B h0 h1 (v _ (λc t u=>bW.el _ _ u) ⟨?_,?_,i,?_,q,y,p,o⟩)
   .rw [bW.el _ _ i];exact h
   .rw [bW.set_same];rfl
   .simp [dV.take]at g⊢;exact anJ g
 |nil=>
  rw[show decide (0<((([]:List Int).map J.int).length:Int))=ag by simp];refine xx h (by simp) (i:=1) B B (.add a 1 B B B (.list b9 _ 1 B B h (aH _) (by simp) (by simp) ?_));have e:H.set b9 (.list ([J.ref L,.int a,.int b].set (1:Int).toNat (.int (a+1)))) b9=ae (.list [.ref L,.int (a+1),.int b]):=bW.set_same _ _ _;have C:H.set b9 (.list ([J.ref L,.int a,.int b].set (1:Int).toNat (.int (a+1)))) L=ae (.list []):=(bW.el _ _ (Ne.symm i)).trans j;refine xx e (by simp) (i:=1) B B (.mul 5 (a+1) B B B (by decide) (by decide) (xx e (by simp) (i:=1) B B (.div (a+1) 3 B B B (by decide) (by decide) (.add _ _ B B B (.mod _ m B B B h0 h1 ?_)))));refine v _ (λc t u=>bW.el _ _ t) ⟨e,C,i,by simp[dV.take],?_,?_,p,o⟩
  .simp [dV.take];exact g4 q
  .simp [dV.take];exact ce
end
section
theorem Za{a:bW}{x:ai}(h:∀c,c≠x->a c=H c)(ce:H x=ah):a.del x=H:=by
 funext c;show(if c=x then ah else a c)=H c;by_cases e:c=x
 .rw [if_pos e,e,ce]
 .rw [if_neg e,h c e]
theorem Zb(d:Nat)(k:cZ)(s kd ps l:J):U (d+1) 473 [s,kd,ps,l] k=(λ(a:Bool->bT)=>cp .NotIn kd t9 λc2=>b6 c2 (a af) (cF t9 kd λf=>jR (U d) (.blt "len") [f] λe=>jR (U d) (.blt "len") [ps] λg=>cp .NotEq e g λc=>b6 c (a af) (a ag))) λc1=>b6 c1 (λ_=>False) (ej s (au "kind") kd (jR (U d) (.typ "tuple") [ps] λb=>ej s (au "parts") b (ej s (au "line") l (ej s (au "own") .none (k .none))))):=by cbv
noncomputable def Om:Option J->Option Nat
 |some (.tup a)=>ae a.length
 |_=>ah
theorem Zc(h:Om o=ae n):∃fs,o=ae (.tup fs)/\fs.length=n:=by
 induction o using a_ with
 |none=>exact cV h
 |some a=>
  induction a using J.casesOn with
  |tup fs=>exact⟨fs,B,aC.inj h⟩
  |_=>exact cV h
def Hw(kd:Str):Option Nat:=match t9 with
 |.jA b a=>Om (pD kd b a)
 |_=>ah
noncomputable def fL(kd:Str)(ps:List J):J:=.obj 483 [au "kind",au "parts",au "line",au "own"] [.str kd,.tup ps,.int 0,.none]
theorem Zd(h:k (.tup ps) H):jR dy (.typ "tuple") [.tup ps] k H:=by exact .tup ps B B h
theorem zx(a:Gc C=af)(h:bV x=ae (.inst C fs))(b:∀c,c≠x->bV c=H c)(ce:H x=ah)(e:k (.obj C (fs.map (·.1)) (fs.map (·.2))) H):lK C (.ref x) k bV:=by dsimp only[lK];refine a▸?_;dsimp only;exact h▸⟨B,by rw[Za b ce];exact e⟩
theorem Ze(g:Hw kd=ae ps.length)(cv:ps.length<=100)(m:k (fL kd ps) H):jR (U (d+1)) (.glob 483) [.str kd,.tup ps] k H:=by
 show eX (.inst 483 []) (λx=>U (d+1) 473 [x,.str kd,.tup ps] λ(r:J)(H:bW)=>r=J.none/\lK 483 x k H) H;intro x ce;have l:U (d+1) 473 [.ref x,.str kd,.tup ps] (λ(r:J)(H:bW)=>r=J.none/\lK 483 (.ref x) k H)=U (d+1) 473 [.ref x,.str kd,.tup ps,.int 0] (λ(r:J)(H:bW)=>r=J.none/\lK 483 (.ref x) k H):=by cbv
 rw[l,Zb];obtain⟨h,f,e⟩:∃h f,t9=.jA h f:=⟨_,_,B⟩;dsimp only[Hw]at g;rw[e]at g⊢;refine c_ (Zc g) λa j i=>Bh (c:=ag) (congrArg (λo=>ae (!Option.isSome o)) j) ?_;show cF (.jA h f) (.str kd) _ _;refine .jA (.tup a) j ?_;show jR _ (.blt "len") [.tup a] _ _;refine .len _ a.length B B B (dp cv (ak i)) ?_;show jR _ (.blt "len") [.tup ps] _ _;refine .len _ ps.length B B B (fa cv B) (Bh (c:=ag) ?_ ?_)
 .show (kk (H.set x (.inst 483 [])) (.int _) (.int _)).map (!·)=ae ag;exact i▸(congrArg (λb=>ae (!b)) (decide_eq_true B))
 refine gX (bW.set_same ..) (by rfl) (ay B) (Zd (gX (bW.set_same ..) (by rfl) (ay B) (gX (bW.set_same ..) (by rfl) (ay B) (gX (bW.set_same ..) (by rfl) (ay B) ⟨B,zx (fs:=[(au "kind",.str kd),(au "parts",.tup ps),(au "line",.int 0),(au "own",.none)]) B ((bW.set_same ..).trans B) ?_ ce m⟩))));intro c cu;simp only[bW.el _ _ cu]
end
end
namespace P
inductive T where
 |nil
 |mark (n:Int)
 |h4 (b:Bool)
 |seen
 |seq1 (a:T)
 |gn (a b:T)
 |arr (a b:T)
 |fm (id:Int) (b:T)
 |brk (n:Int)
 |dQ (n:Int)
 |ret (n:Int)
 |once (id:Int)
 |bare (b:T)
 |eV (c1:Nat) (h1:T) (c2:Nat) (h2:T) (ot b:T)
 |dZ (x l:T)
noncomputable def T.isNil:T->Bool
 |.nil=>af
 |_=>ag
set_option genCtorIdx true in
inductive Out where
 |val (x:Option J)
 |fo (e:Bool)
 |brk (n:Int)
 |dQ (n:Int)
 |ret (n:Int)
 |eW
noncomputable def Out.isVal:Out->Bool
 |.val _=>af
 |.fo _=>ag
 |.brk _=>ag
 |.dQ _=>ag
 |.ret _=>ag
 |.eW=>ag
noncomputable def Out.ut:Out->Bool
 |.val _=>ag
 |.fo _=>af
 |.brk _=>ag
 |.dQ _=>ag
 |.ret _=>ag
 |.eW=>ag
noncomputable def Out.nF:Out->Bool
 |.val _=>ag
 |.fo _=>ag
 |.brk _=>ag
 |.dQ _=>ag
 |.ret _=>ag
 |.eW=>af
noncomputable def Out.q_(o:Out):Bool:=!o.isVal&&!o.ut
noncomputable def iR:Bool->Str
 |false=>au "Alpha"
 |true=>au "Beta"
noncomputable def mz:Option Bool->J
 |none=>.none
 |some e=>.str (iR e)
noncomputable def gb(e:Bool):J:=.tup [.str (au "raise"),.str (iR e)]
structure Env where
 told:List J
 gy:List (Int×Int)
 err:Option Bool
noncomputable def Env.say(E:Env)(a:Str)(v:J):Env:={E with told:=E.told++[.tup [.str a,v]]}
def Env.cnt(E:Env)(id:Int):Int:=(jr id E.gy).getD 0+1
def Env.tick(E:Env)(id:Int):Env:={E with gy:=lp id (E.cnt id) E.gy}
noncomputable def Env.iS(E:Env)(e:Option Bool):Env:={E with err:=e}
def jh:Str:=b8 "mark"
def og:Str:=b8 "seen"
def uu:Str:=b8 "boom"
def mA:Str:=b8 "turn"
def vU:Str:=b8 "once"
def Bi:Str:=b8 "==="
def Zf:Str:=b8 "self"
def zy:Str:=b8 "StandardError"
noncomputable def Hx:Nat->List Str
 |0=>[]
 |1=>[iR ag]
 |2=>[iR af]
 |_=>[iR af,iR ag]
def pM:Nat->List Str
 |0=>[zy]
 |1=>[iR ag]
 |2=>[iR af]
 |_=>[iR af,iR ag]
noncomputable def fits:Nat->Bool->Bool
 |0,_=>af
 |1,e=>!e
 |2,e=>e
 |_,_=>af
noncomputable def nG:Nat->Bool->Nat
 |0,_=>4
 |1,_=>4
 |2,_=>4
 |_,e=>if e then 4 else 8
def sj(c:Nat):Nat:=4*(pM c).length+1
noncomputable def iA(c1:Nat)(h1:T)(c2:Nat)(h2:T):List (Nat×T):=(c1,h1)::(if h2.isNil then []else [(c2,h2)])
def pick(e:Bool):List (Nat×T)->Option (T×Nat)
 |[]=>ah
 |(c,h)::r=>if fits c e then ae (h,nG c e)else(pick e r).map λa=>(a.1,sj c+a.2)
def zz:List (Nat×T)->Nat
 |[]=>0
 |(c,_)::r=>sj c+zz r
noncomputable def ce:Out->Nat
 |.val _=>3
 |.fo _=>5
 |.brk _=>2
 |.dQ _=>2
 |.ret _=>2
 |.eW=>2
noncomputable def qx:Out->Nat
 |.val _=>1
 |.fo _=>3
 |.brk _=>0
 |.dQ _=>0
 |.ret _=>0
 |.eW=>0
class inductive e3:T->Env->Out->Env->Nat->Prop
 |mark {n E}:e3 (.mark n) E (.val (ae (.int n))) (E.say jh (.int n)) 4
 |seen {E}:e3 .seen E (.val (ae .none)) (E.say og (mz E.err)) 4
 |h4 {b E}:e3 (.h4 b) E (.fo b) E 3
 |seq1 {a E o b5 c}:e3 a E o b5 c->e3 (.seq1 a) E o b5 c
 |tg {a b E x cU c1 o b5 c2}:e3 a E (.val x) cU c1->e3 b cU o b5 c2->e3 (.gn a b) E o b5 (c1+c2)
 |sk {a b E o b5 c}:e3 a E o b5 c->o.isVal=ag->e3 (.gn a b) E o b5 c
 |uv {a b E x cU c1 y b5 c2}:e3 a E (.val x) cU c1->e3 b cU (.val y) b5 c2->e3 (.arr a b) E (.val ah) b5 (c1+c2+2)
 |uw {a b E x cU c1 o b5 c2}:e3 a E (.val x) cU c1->e3 b cU o b5 c2->o.isVal=ag->e3 (.arr a b) E o b5 (c1+c2)
 |ux {a b E o b5 c}:e3 a E o b5 c->o.isVal=ag->e3 (.arr a b) E o b5 c
 |xA {id b E}:¬(E.cnt id<=id.fmod 10)->e3 (.fm id b) E (.val (ae .none)) (E.tick id) 5
 |xB {id b E n b5 c}:E.cnt id<=id.fmod 10->e3 b (E.tick id) (.brk n) b5 c->e3 (.fm id b) E (.val (ae (.int n))) b5 (4+c)
 |xC {id b E o b5 c}:E.cnt id<=id.fmod 10->e3 b (E.tick id) o b5 c->(o.ut=af\/o.nF=af\/∃n,o=.ret n)->e3 (.fm id b) E o b5 (4+c)
 |xD {id b E eO cU c1 o b5 c2}:E.cnt id<=id.fmod 10->e3 b (E.tick id) eO cU c1->(eO.isVal=af\/∃n,eO=.dQ n)->e3 (.fm id b) cU o b5 c2->e3 (.fm id b) E o b5 (5+c1+c2)
 |brk {n E}:e3 (.brk n) E (.brk n) (E.say jh (.int n)) 9
 |dQ {n E}:e3 (.dQ n) E (.dQ n) (E.say jh (.int n)) 8
 |ret {n E}:e3 (.ret n) E (.ret n) (E.say jh (.int n)) 4
 |xE {id E}:E.cnt id=1->e3 (.once id) E .eW (E.tick id) 10
 |xF {id E}:E.cnt id≠1->e3 (.once id) E (.val (ae .none)) (E.tick id) 5
 |bare {b E o b5 c}:e3 b E o b5 c->e3 (.bare b) E o b5 c
 |xG {c1 h1 c2 h2 ot b E x b5 c}:e3 b E (.val x) b5 c->ot.isNil=af->e3 (.eV c1 h1 c2 h2 ot b) E (.val x) b5 (c+1)
 |xH {c1 h1 c2 h2 ot b E x cU c o b5 eZ}:e3 b E (.val x) cU c->ot.isNil=ag->e3 ot cU o b5 eZ->e3 (.eV c1 h1 c2 h2 ot b) E o b5 (c+eZ+1)
 |sb {c1 h1 c2 h2 ot b E o b5 c}:e3 b E o b5 c->o.q_=af->e3 (.eV c1 h1 c2 h2 ot b) E o b5 c
 |xI {c1 h1 c2 h2 ot b E e b5 c}:e3 b E (.fo e) b5 c->pick e (iA c1 h1 c2 h2)=ah->e3 (.eV c1 h1 c2 h2 ot b) E (.fo e) b5 (c+4+zz (iA c1 h1 c2 h2)+2)
 |xJ {c1 h1 c2 h2 ot b E e cU c h t o et eZ}:e3 b E (.fo e) cU c->pick e (iA c1 h1 c2 h2)=ae (h,t)->e3 h (cU.iS (ae e)) o et eZ->o.nF=ag->e3 (.eV c1 h1 c2 h2 ot b) E o (et.iS cU.err) (c+8+t+eZ+ce o)
 |sf {c1 h1 c2 h2 ot b E e cU c h t et eZ o b5 xK}:e3 b E (.fo e) cU c->pick e (iA c1 h1 c2 h2)=ae (h,t)->e3 h (cU.iS (ae e)) .eW et eZ->e3 (.eV c1 h1 c2 h2 ot b) (et.iS cU.err) o b5 xK->e3 (.eV c1 h1 c2 h2 ot b) E o b5 (c+8+t+eZ+xK)
 |ev {x l E o cU c y b5 eZ}:e3 x E o cU c->e3 l cU (.val y) b5 eZ->e3 (.dZ x l) E o b5 (c+eZ+qx o)
 |mX {x l E eO cU c o b5 eZ}:e3 x E eO cU c->e3 l cU o b5 eZ->o.isVal=ag->e3 (.dZ x l) E o b5 (c+eZ+1)
inductive g9(α:Type)where
 |push (v:J)
 |pop
 |self
 |jI
 |hq
 |k2
 |again
 |leave
 |gi (i:Int)
 |ez (i:Int)
 |kI (s:Str)
 |send (s k:Str)
 |list (n:Nat)
 |gj (l:α)
 |ko (l:α)
 |ji (l:α)
abbrev Rows:=Nat->Option (g9 Nat×Option (Nat×Int))
def At(R:Rows)(p:Nat)(r:g9 Nat):Prop:=∃a,R p=ae (r,a)
inductive Res where
 |val (v:J)
 |fo (e:Bool)
noncomputable def cut(st:List (Option J))(d:Int):List (Option J):=st.drop (st.length-d.toNat)
noncomputable def upd(sl:Int->Option J)(i:Int)(x:Option J):Int->Option J:=λa=>if a=i then x else sl a
def nameFits(name:Str)(e:Bool):Bool:=sEq name zy||sEq name (iR e)
def okN(s:Str):Prop:=s=zy\/∃b,s=iR b
abbrev kp:=Nat->List (Option J)->(Int->Option J)->Nat->Env->Res->Env->Prop
def eb.push(R:Rows)(C:kp):Prop:=∀{n st d a E r b c},At R a (.push c)->C n (ae c::st) d (a+1) E r b->C (n+1) st d a E r b
def eb.kI(R:Rows)(C:kp):Prop:=∀{n st c a E r b s},At R a (.kI s)->C n (ae (.str s)::st) c (a+1) E r b->C (n+1) st c a E r b
def eb.pop(R:Rows)(C:kp):Prop:=∀{n x st c a E r b},At R a .pop->C n st c (a+1) E r b->C (n+1) (x::st) c a E r b
def eb.self(R:Rows)(C:kp):Prop:=∀{n st c a E r b},At R a .self->C n (ae (.str Zf)::st) c (a+1) E r b->C (n+1) st c a E r b
def eb.gi(R:Rows)(C:kp):Prop:=∀{n x st d a E r b c},At R a (.gi c)->C n st (upd d c x) (a+1) E r b->C (n+1) (x::st) d a E r b
def eb.ez(R:Rows)(C:kp):Prop:=∀{n st a b E r c d},At R b (.ez d)->C n (a d::st) a (b+1) E r c->C (n+1) st a b E r c
def eb.jI(R:Rows)(C:kp):Prop:=∀{n st c a E r b},At R a .jI->C n (ae (mz E.err)::st) c (a+1) E r b->C (n+1) st c a E r b
def eb.hq(R:Rows)(C:kp):Prop:=∀{n st c a E r b e},At R a .hq->C n st c (a+1) (E.iS e) r b->C (n+1) (ae (mz e)::st) c a E r b
def eb.k2(R:Rows)(C:kp):Prop:=∀{n st c a E r b e},At R a .k2->C n (ae (.str (iR e))::st) c (a+1) E r b->C (n+1) (ae (gb e)::st) c a E r b
def eb.xL(R:Rows)(C:kp):Prop:=∀{n x st e f E r c b k a d},R f=ae (.send uu k,ae (a,d))->0<=d->d<=st.length->C n (ae (gb b)::cut st d) e a E r c->C (n+1) (ae (.int (if b then 1 else 0))::x::st) e f E r c
def eb.xM(R:Rows)(C:kp):Prop:=∀{n x st c a E b k},R a=ae (.send uu k,ah)->C (n+1) (ae (.int (if b then 1 else 0))::x::st) c a E (.fo b) E
def eb.th(R:Rows)(C:kp):Prop:=∀{n st c a E r b k name e},At R a (.send Bi k)->okN name->C n (ae (.bool (nameFits name e))::st) c (a+1) E r b->C (n+1) (ae (.str (iR e))::ae (.str name)::st) c a E r b
def eb.mark(R:Rows)(C:kp):Prop:=∀{n x st d b E r c k a},At R b (.send jh k)->C n (ae (.int a)::st) d (b+1) (E.say jh (.int a)) r c->C (n+1) (ae (.int a)::x::st) d b E r c
def eb.seen(R:Rows)(C:kp):Prop:=∀{n x st c a E r b k e},At R a (.send og k)->C n (ae .none::st) c (a+1) (E.say og (mz e)) r b->C (n+1) (ae (mz e)::x::st) c a E r b
def eb.turn(R:Rows)(C:kp):Prop:=∀{n x st d b E r c k a},At R b (.send mA k)->C n (ae (.bool (decide (E.cnt a<=a.fmod 10)))::st) d (b+1) (E.tick a) r c->C (n+1) (ae (.int a)::x::st) d b E r c
def eb.once(R:Rows)(C:kp):Prop:=∀{n x st d b E r c k a},At R b (.send vU k)->C n (ae (.bool (decide (E.cnt a=1)))::st) d (b+1) (E.tick a) r c->C (n+1) (ae (.int a)::x::st) d b E r c
def eb.list(R:Rows)(C:kp):Prop:=∀{n x y st c a E r b},At R a (.list 2)->C n (ah::st) c (a+1) E r b->C (n+1) (x::y::st) c a E r b
def eb.gj(R:Rows)(C:kp):Prop:=∀{n st c d E r b a},At R d (.gj a)->C n st c a E r b->C (n+1) st c d E r b
def eb.ko(R:Rows)(C:kp):Prop:=∀{n st e a E r d c b},At R a (.ko c)->C n st e (if b then c else a+1) E r d->C (n+1) (ae (.bool b)::st) e a E r d
def eb.ji(R:Rows)(C:kp):Prop:=∀{n st e a E r d c b},At R a (.ji c)->C n st e (if b then a+1 else c) E r d->C (n+1) (ae (.bool b)::st) e a E r d
def eb.leave(R:Rows)(C:kp):Prop:=∀{n st c b E a},At R b .leave->C (n+1) (ae (.int a)::st) c b E (.val (.int a)) E
def eb.xN(R:Rows)(C:kp):Prop:=∀{n st e f E r c b a d},R f=ae (.again,ae (a,d))->0<=d->d<=st.length->C n (ae (gb b)::cut st d) e a E r c->C (n+1) (ae (gb b)::st) e f E r c
def eb.xO(R:Rows)(C:kp):Prop:=∀{n st c a E b},R a=ae (.again,ah)->C (n+1) (ae (gb b)::st) c a E (.fo b) E
structure Zg(R:Rows)(C:kp):Prop where
 push:eb.push R C
 kI:eb.kI R C
 pop:eb.pop R C
 self:eb.self R C
 gi:eb.gi R C
 ez:eb.ez R C
 jI:eb.jI R C
 hq:eb.hq R C
 k2:eb.k2 R C
 xL:eb.xL R C
 xM:eb.xM R C
 th:eb.th R C
 mark:eb.mark R C
 seen:eb.seen R C
 turn:eb.turn R C
 once:eb.once R C
 list:eb.list R C
 gj:eb.gj R C
 ko:eb.ko R C
 ji:eb.ji R C
 leave:eb.leave R C
 xN:eb.xN R C
 xO:eb.xO R C
def Fin(R:Rows)(n:Nat)(st:List (Option J))(sl:Int->Option J)(p:Nat)(E:Env)(r:Res)(F:Env):Prop:=∀a:kp,Zg R a->a n st sl p E r F
theorem Fin.push:eb.push R (Fin R):=λa b c k=>k.push a (b c k)
theorem Fin.kI:eb.kI R (Fin R):=λa b c k=>k.kI a (b c k)
theorem Fin.pop:eb.pop R (Fin R):=λa b c k=>k.pop a (b c k)
theorem Fin.self:eb.self R (Fin R):=λa b c k=>k.self a (b c k)
theorem Fin.gi:eb.gi R (Fin R):=λa b c k=>k.gi a (b c k)
theorem Fin.ez:eb.ez R (Fin R):=λa b c k=>k.ez a (b c k)
theorem Fin.jI:eb.jI R (Fin R):=λa b c k=>k.jI a (b c k)
theorem Fin.hq:eb.hq R (Fin R):=λa b c k=>k.hq a (b c k)
theorem Fin.k2:eb.k2 R (Fin R):=λa b c k=>k.k2 a (b c k)
theorem Fin.xL:eb.xL R (Fin R):=λa b c d e k=>k.xL a b c (d e k)
theorem Fin.xM:eb.xM R (Fin R):=λa b k=>k.xM a
theorem Fin.th:eb.th R (Fin R):=λa b c d k=>k.th a b (c d k)
theorem Fin.mark:eb.mark R (Fin R):=λa b c k=>k.mark a (b c k)
theorem Fin.seen:eb.seen R (Fin R):=λa b c k=>k.seen a (b c k)
theorem Fin.turn:eb.turn R (Fin R):=λa b c k=>k.turn a (b c k)
theorem Fin.once:eb.once R (Fin R):=λa b c k=>k.once a (b c k)
theorem Fin.list:eb.list R (Fin R):=λa b c k=>k.list a (b c k)
theorem Fin.gj:eb.gj R (Fin R):=λa b c k=>k.gj a (b c k)
theorem Fin.ko:eb.ko R (Fin R):=λa b c k=>k.ko a (b c k)
theorem Fin.ji:eb.ji R (Fin R):=λa b c k=>k.ji a (b c k)
theorem Fin.leave:eb.leave R (Fin R):=λa b k=>k.leave a
theorem Fin.xN:eb.xN R (Fin R):=λa b c d e k=>k.xN a b c (d e k)
theorem Fin.xO:eb.xO R (Fin R):=λa b k=>k.xO a
theorem Fin.up{n st sl p E r F}(h:Fin R n st sl p E r F):Fin R (n+1) st sl p E r F:=h (λn st sl p E r F=>Fin R (n+1) st sl p E r F) ⟨λa b=>.push a b,λa b=>.kI a b,λa b=>.pop a b,λa b=>.self a b,λa b=>.gi a b,λa b=>.ez a b,λa b=>.jI a b,λa b=>.hq a b,λa b=>.k2 a b,λa b c d=>.xL a b c d,λa=>.xM a,λa b c=>.th a b c,λa b=>.mark a b,λa b=>.seen a b,λa b=>.turn a b,λa b=>.once a b,λa b=>.list a b,λa b=>.gj a b,λa b=>.ko a b,λa b=>.ji a b,λa=>.leave a,λa b c d=>.xN a b c d,λa=>.xO a⟩
theorem Fin.mono{n m st sl p E r F}(h:Fin R n st sl p E r F)(le:n<=m):Fin R m st sl p E r F:=by
 induction le with
 |refl=>exact h
 |step _ a=>exact a.up
inductive ia where
 |loop (h:Int) (w:Bool) (s d:Nat)
 |part (h:Int) (t:Nat)
 |dZ (h:Int) (t:Nat) (l:T)
 |hand (h:Int) (t:Nat) (kept:Int) (again:Nat)
noncomputable def ia.h:ia->Int
 |.loop h _ _ _=>h
 |.part h _=>h
 |.dZ h _ _=>h
 |.hand h _ _ _=>h
noncomputable def oh:List ia->Option (Nat×Int)
 |[]=>ah
 |.loop _ _ _ _::W=>oh W
 |.part h t::_=>ae (t,h)
 |.dZ h t _::_=>ae (t,h)
 |.hand h t _ _::_=>ae (t,h)
noncomputable def l8:List ia->Bool
 |[]=>ag
 |.loop _ w _ _::_=>w
 |.part _ _::W=>l8 W
 |.dZ _ _ _::W=>l8 W
 |.hand _ _ _ _::W=>l8 W
noncomputable def jW:Bool->Int
 |true=>1
 |false=>0
noncomputable def l9(w:Bool)(x:Option J)(st:List (Option J)):List (Option J):=match w with
 |true=>x::st
 |false=>st
set_option genCtorIdx true in
inductive rb where
 |brk
 |dQ
 |ret
 |eW
def zA(R:Rows)(p x:Nat):Prop:=∀a,a<x->At R (p+a) .pop
def ti(R:Rows)(x:Nat)(lw:Bool)(z:Int)(l p:Nat):Prop:=
 (lw=af/\0<x/\∃a,z<=a/\At R p (.gi a)/\zA R (p+1) x/\At R (p+1+x) (.ez a)/\At R (p+1+x+1) (.gj l))\/((lw=ag\/x=0)/\zA R p x/\At R (p+x) (.gj l))
def zB(R:Rows)(w:Bool)(p q:Nat):Prop:=match w with
 |true=>q=p
 |false=>At R p .pop/\q=p+1
def vV(R:Rows)(w:Bool)(p q:Nat):Prop:=match w with
 |true=>At R p (.push .none)/\q=p+1
 |false=>q=p
def kq(R:Rows)(a:Str)(arg:g9 Nat)(w:Bool)(p q:Nat):Prop:=At R p .self/\At R (p+1) arg/\(∃k,At R (p+2) (.send a k))/\zB R w (p+3) q
def pN(R:Rows)(er:Int)(c:Nat):List Str->Nat->Nat->Prop
 |[],a,b=>b=a
 |s::r,a,b=>At R a (.kI s)/\At R (a+1) (.ez er)/\(∃k,At R (a+2) (.send Bi k))/\At R (a+3) (.ko c)/\pN R er c r (a+4) b
inductive Ec where
 |seg (t:T) (w:Bool)
 |ext (X:rb)
 |hs (l:List (Nat×T)) (w:Bool) (kept er:Int) (again other done:Nat)
abbrev Bj:=Ec->List ia->Int->Int->Nat->Nat->Prop
def Op(C:Bj)(R:Rows):T->Bool->List ia->Int->Int->Nat->Nat->Prop
 |.nil,g,d,h,e,c,E=>E=c
 |.mark n,g,d,h,e,c,i=>kq R jh (.push (.int n)) g c i
 |.seen,g,d,h,e,c,i=>kq R og .jI g c i
 |.h4 b,g,d,h,e,c,i=>∀f:Prop,(∀k,At R c .self->At R (c+1) (.push (.int (if b then 1 else 0)))->R (c+2)=ae (.send uu k,oh d)->f)->f
 |.seq1 a,g,d,h,e,c,i=>C (.seg a g) d h e c i
 |.gn a b,g,d,h,e,c,i=>∀f:Prop,(∀m j,C (.seg a ag) d h e c j->e<=m->C (.seg b g) d h m j i->f)->f
 |.arr a b,g,d,h,e,c,i=>∀f:Prop,(∀m j o,C (.seg a af) d h e c j->e<=m->C (.seg b af) d (h+1) m j o->At R o (.list 2)->zB R g (o+1) i->f)->f
 |.fm id b,g,d,h,e,c,i=>∀f:Prop,(∀j,kq R mA (.push (.int id)) af c (c+3)->At R (c+3) (.ji (j+1))->C (.seg b ag) (.loop h g c i::d) h e (c+4) j->At R j (.gj c)->vV R g (j+1) i->f)->f
 |.brk n,g,d,h,e,c,i=>∀f:Prop,(∀m j,kq R jh (.push (.int n)) (l8 d) c j->e<=m->C (.ext .brk) d (h+jW (l8 d)) m j 0->f)->f
 |.dQ n,g,d,h,e,c,i=>∀f:Prop,(∀m j,kq R jh (.push (.int n)) ag c j->e<=m->C (.ext .dQ) d h m j 0->f)->f
 |.ret n,g,d,h,e,c,i=>∀f:Prop,(∀m j,kq R jh (.push (.int n)) af c j->e<=m->C (.ext .ret) d (h+1) m j 0->f)->f
 |.once id,g,d,h,e,c,i=>∀f:Prop,(∀m z,kq R vU (.push (.int id)) af c (c+3)->At R (c+3) (.ji z)->e<=m->C (.ext .eW) d h m (c+4) 0->vV R g z i->f)->f
 |.bare b,g,d,h,e,c,i=>C (.seg b g) d h e c i
 |.eV G D H F A b,g,d,h,e,c,i=>∀f:Prop,(∀m v q r s w j o p,C (.seg b (g&&A.isNil)) (.part h (o+1)::d) h e c j->e<=m->C (.seg A g) d h m j o->At R o (.gj i)->e<=q->e<=r->e<=s->e<=w->q≠r->q≠s->r≠s->q≠w->q<v->r<v->s<v->At R (o+1) (.gi r)->At R (o+2) (.ez r)->At R (o+3) .k2->At R (o+4) (.gi s)->C (.hs (iA G D H F) g q s c (p+2) i) d h v (o+5) p->At R p (.ez r)->R (p+1)=ae (.again,oh d)->At R (p+2) (.gi w)->At R (p+3) (.ez q)->At R (p+4) .hq->At R (p+5) (.ez w)->R (p+6)=ae (.again,oh d)->i=p+7->f)->f
 |.dZ x l,g,d,h,e,c,i=>∀f:Prop,(∀m y u j o t,C (.seg x g) (.dZ h (o+1) l::d) h e c j->e<=m->C (.seg l ag) d (h+jW g) m j o->At R o (.gj i)->e<=u->u<y->e<=y->At R (o+1) (.gi u)->C (.seg l ag) d h y (o+2) t->At R t (.ez u)->R (t+1)=ae (.again,oh d)->i=t+2->f)->f
def Oq(C:Bj)(R:Rows):List ia->rb->Int->Int->Nat->Prop
 |.loop f6 lw s d::W,.brk,h,c,b=>∀e:Prop,(∀(x:Nat),h=f6+jW lw+x->x<=3->ti R x lw c d b->e)->e
 |.loop f6 lw s d::W,.dQ,h,c,b=>∀e:Prop,(∀(x:Nat),h=f6+(x:Int)->x<=3->ti R x ag c s b->e)->e
 |[],.ret,h,c,b=>At R b .leave
 |.loop f6 lw s d::W,.ret,h,c,b=>C (.ext .ret) W h c b 0
 |.loop f6 lw s d::W,.eW,h,c,b=>C (.ext .eW) W h c b 0
 |.part i3 t::W,X,h,c,b=>C (.ext X) W h c b 0
 |.dZ i3 t l::W,X,h,c,b=>∀e:Prop,(∀f g,C (.seg l ag) W h c b g->c<=f->C (.ext X) W h f g 0->e)->e
 |.hand i3 t k a::W,.brk,h,c,b=>∀e:Prop,(At R b (.ez k)->At R (b+1) .hq->C (.ext .brk) W h c (b+2) 0->e)->e
 |.hand i3 t k a::W,.dQ,h,c,b=>∀e:Prop,(At R b (.ez k)->At R (b+1) .hq->C (.ext .dQ) W h c (b+2) 0->e)->e
 |.hand i3 t k a::W,.ret,h,c,b=>∀e:Prop,(At R b (.ez k)->At R (b+1) .hq->C (.ext .ret) W h c (b+2) 0->e)->e
 |.hand i3 t k a::W,.eW,h,c,b=>∀e:Prop,(∀(x:Nat),At R b (.ez k)->At R (b+1) .hq->h=i3+(x:Int)->x<=3->ti R x ag c a (b+2)->e)->e
 |_,_,_,_,_=>False
def Os(C:Bj)(R:Rows):List (Nat×T)->Bool->List ia->Int->Int->Int->Int->Nat->Nat->Nat->Nat->Nat->Prop
 |[],_,_,_,_,_,_,_,_,_,e,d=>d=e
 |(c,t)::r,w,W,h,z,kept,er,again,other,done,e,d=>∀g:Prop,(∀f a b,pN R er (a+1) (pM c) e a->At R a (.gj (b+3))->At R (a+1) .jI->At R (a+2) (.gi kept)->At R (a+3) (.ez er)->At R (a+4) .hq->
   z<=f->C (.seg t w) (.hand h other kept again::W) h f (a+5) b->At R b (.ez kept)->At R (b+1) .hq->At R (b+2) (.gj done)->C (.hs r w kept er again other done) W h z (b+3) d->g)->g
def tj(C:Bj)(R:Rows):Ec->List ia->Int->Int->Nat->Nat->Prop
 |.seg f e,a,h,b,c,d=>Op C R f e a h b c d
 |.ext g,a,h,b,c,_=>Oq C R a g h b c
 |.hs l e j i again other done,a,h,b,c,d=>Os C R l e a h b j i again other done c d
theorem tj.mono(m:∀{x W h z p q},C x W h z p q->D x W h z p q):tj C R x W h z p q->tj D R x W h z p q:=by
 induction x using Ec.casesOn with
 |seg a1 b2=>
  induction a1 using T.casesOn with
  |nil=>exact id
  |mark=>exact id
  |seen=>exact id
  |h4=>exact id
  |seq1=>exact λh=>m h
  |gn=>exact λh D k=>h D λd e a b c=>k d e (m a) b (m c)
  |arr=>exact λh D k=>h D λd e i a b c g f=>k d e i (m a) b (m c) g f
  |fm=>exact λh D k=>h D λd a b c g f=>k d a b (m c) g f
  |brk=>exact λh D k=>h D λd e a b c=>k d e a b (m c)
  |dQ=>exact λh D k=>h D λd e a b c=>k d e a b (m c)
  |ret=>exact λh D k=>h D λd e a b c=>k d e a b (m c)
  |once=>exact λh D k=>h D λd e a b c g f=>k d e a b c (m g) f
  |bare=>exact λh=>m h
  |eV=>exact λh D k=>h D λd e i A E F S Y bV a b c g f n s j u t o w H Q L Z I bZ X ap V a2 G N ao bd bY M=>k d e i A E F S Y bV (m a) b (m c) g f n s j u t o w H Q L Z I bZ X (m ap) V a2 G N ao bd bY M
  |dZ=>exact λh D k=>h D λd e i A E F a b c g f n s j u t o w=>k d e i A E F (m a) b (m c) g f n s j (m u) t o w
 |ext v=>
  induction W using aE with
  |nil=>induction v using rb.casesOn<;>exact id
  |cons y W=>
   induction y using ia.casesOn with
   |loop=>induction v using rb.casesOn<;>first|exact id|exact λh=>m h
   |part=>induction v using rb.casesOn<;>exact λh=>m h
   |dZ=>induction v using rb.casesOn<;>exact λh D k=>h D λd e a b c=>k d e (m a) b (m c)
   |hand=>induction v using rb.casesOn<;>first|exact id|exact λh D k=>h D λa b c=>k a b (m c)
 |hs l=>
  induction l using aE with
  |nil=>exact id
  |cons y r=>induction y using Prod.casesOn;exact λh D k=>h D λd e i a b c g f n s j u t o w=>k d e i a b c g f n s (m j) u t o (m w)
def dj(R:Rows)(x:Ec)(W:List ia)(h z:Int)(p q:Nat):Prop:=∀a:Bj,(∀{x W h z p q},tj a R x W h z p q->a x W h z p q)->a x W h z p q
theorem dj.mk(s:tj (dj R) R x W h z p q):dj R x W h z p q:=λa k=>k (tj.mono (C:=dj R) (D:=a) (λs=>s a k) s)
theorem dj.inv(s:dj R x W h z p q):tj (dj R) R x W h z p q:=s (tj (dj R) R) λh=>tj.mono (C:=tj (dj R) R) (D:=dj R) (λs=>.mk s) h
theorem dj.nil:dj R (.seg .nil w) W h z p p:=.mk (x:=.seg .nil w) B
theorem dj.mark(a:kq R jh (.push (.int n)) w p q):dj R (.seg (.mark n) w) W h z p q:=.mk (x:=.seg (.mark n) w) a
theorem dj.seen(a:kq R og .jI w p q):dj R (.seg .seen w) W h z p q:=.mk (x:=.seg .seen w) a
theorem dj.h4(c:At R p .self)(a:At R (p+1) (.push (.int (if b then 1 else 0))))(d:R (p+2)=ae (.send uu k,oh W)):dj R (.seg (.h4 b) w) W h z p q:=.mk (x:=.seg (.h4 b) w) λ_ k=>k _ c a d
theorem dj.seq1(b:dj R (.seg a w) W h z p q):dj R (.seg (.seq1 a) w) W h z p q:=.mk (x:=.seg (.seq1 a) w) b
theorem dj.gn(d:dj R (.seg a ag) W h z p di)(c:z<=c4)(e:dj R (.seg b w) W h c4 di q):dj R (.seg (.gn a b) w) W h z p q:=.mk (x:=.seg (.gn a b) w) λ_ k=>k _ _ d c e
theorem dj.arr(c:dj R (.seg a af) W h z p di)(d:z<=c4)(e:dj R (.seg b af) W (h+1) c4 di d1)(f:At R d1 (.list 2))(g:zB R w (d1+1) q):dj R (.seg (.arr a b) w) W h z p q:=.mk (x:=.seg (.arr a b) w) λ_ k=>k _ _ _ c d e f g
theorem dj.fm{id b w W h z p a q}(c:kq R mA (.push (.int id)) af p (p+3))(d:At R (p+3) (.ji (a+1)))(f:dj R (.seg b ag) (.loop h w p q::W) h z (p+4) a)(g:At R a (.gj p))(e:vV R w (a+1) q):dj R (.seg (.fm id b) w) W h z p q:=.mk (x:=.seg (.fm id b) w) λ_ k=>k _ c d f g e
theorem dj.brk(b:kq R jh (.push (.int n)) (l8 W) p di)(a:z<=c4)(c:dj R (.ext .brk) W (h+jW (l8 W)) c4 di 0):dj R (.seg (.brk n) w) W h z p q:=.mk (x:=.seg (.brk n) w) λ_ k=>k _ _ b a c
theorem dj.dQ(b:kq R jh (.push (.int n)) ag p di)(a:z<=c4)(c:dj R (.ext .dQ) W h c4 di 0):dj R (.seg (.dQ n) w) W h z p q:=.mk (x:=.seg (.dQ n) w) λ_ k=>k _ _ b a c
theorem dj.ret(b:kq R jh (.push (.int n)) af p di)(a:z<=c4)(c:dj R (.ext .ret) W (h+1) c4 di 0):dj R (.seg (.ret n) w) W h z p q:=.mk (x:=.seg (.ret n) w) λ_ k=>k _ _ b a c
theorem dj.once{id w W h z a p o q}(b:kq R vU (.push (.int id)) af p (p+3))(c:At R (p+3) (.ji o))(e:z<=a)(f:dj R (.ext .eW) W h a (p+4) 0)(d:vV R w o q):dj R (.seg (.once id) w) W h z p q:=.mk (x:=.seg (.once id) w) λ_ k=>k _ _ b c e f d
theorem dj.bare(a:dj R (.seg b w) W h z p q):dj R (.seg (.bare b) w) W h z p q:=.mk (x:=.seg (.bare b) w) a
theorem dj.eV(c:dj R (.seg b (w&&ot.isNil)) (.part h (d1+1)::W) h z p di)(f:z<=c4)(A:dj R (.seg ot w) W h c4 di d1)(I:At R d1 (.gj q))(t:z<=c9)(i:z<=dr)(l:z<=ip)(d:z<=k3)(u:c9≠dr)(m:c9≠ip)(j:dr≠ip)(F:c9≠k3)(e:c9<i2)(s:dr<i2)(n:ip<i2)(C:At R (d1+1) (.gi dr))(g:At R (d1+2) (.ez dr))(M:At R (d1+3) .k2)(y:At R (d1+4) (.gi ip))(E:dj R (.hs (iA c1 h1 c2 h2) w c9 ip p (gP+2) q) W h i2 (d1+5) gP)(v:At R gP (.ez dr))(G:R (gP+1)=ae (.again,oh W))(a:At R (gP+2) (.gi k3))(r:At R (gP+3) (.ez c9))(D:At R (gP+4) .hq)(H:At R (gP+5) (.ez k3))(L:R (gP+6)=ae (.again,oh W))(o:q=gP+7):dj R (.seg (.eV c1 h1 c2 h2 ot b) w) W h z p q:=.mk (x:=.seg (.eV c1 h1 c2 h2 ot b) w) λ_ k=>k _ _ _ _ _ _ _ _ _ c f A I t i l d u m j F e s n C g M y E v G a r D H L o
theorem dj.dZ(e:dj R (.seg x w) (.dZ h (d1+1) l::W) h z p di)(j:z<=c4)(m:dj R (.seg l ag) W (h+jW w) c4 di d1)(n:At R d1 (.gj q))(o:z<=i)(r:i<fx)(c:z<=fx)(f:At R (d1+1) (.gi i))(a:dj R (.seg l ag) W h fx (d1+2) j6)(d:At R j6 (.ez i))(b:R (j6+1)=ae (.again,oh W))(g:q=j6+2):dj R (.seg (.dZ x l) w) W h z p q:=.mk (x:=.seg (.dZ x l) w) λ_ k=>k _ _ _ _ _ _ e j m n o r c f a d b g
theorem dj.Zj(x:Nat)(a:h=f6+jW lw+x)(b:x<=3)(c:ti R x lw z d p):dj R (.ext .brk) (.loop f6 lw s d::W) h z p 0:=.mk (x:=.ext .brk) λ_ k=>k x a b c
theorem dj.Zk(x:Nat)(a:h=f6+(x:Int))(b:x<=3)(c:ti R x ag z s p):dj R (.ext .dQ) (.loop f6 lw s d::W) h z p 0:=.mk (x:=.ext .dQ) λ_ k=>k x a b c
theorem dj.Zl(a:At R p .leave):dj R (.ext .ret) [] h z p 0:=.mk (x:=.ext .ret) a
theorem dj.Zm(a:dj R (.ext .ret) W h z p 0):dj R (.ext .ret) (.loop f6 lw s d::W) h z p 0:=.mk (x:=.ext .ret) a
theorem dj.Ot(a:dj R (.ext .eW) W h z p 0):dj R (.ext .eW) (.loop f6 lw s d::W) h z p 0:=.mk (x:=.ext .eW) a
theorem dj.Ou(a:dj R (.ext X) W h z p 0):dj R (.ext X) (.part i3 t::W) h z p 0:=.mk (x:=.ext X) a
theorem dj.Ov(b:dj R (.seg l ag) W h z p di)(a:z<=c4)(c:dj R (.ext X) W h c4 di 0):dj R (.ext X) (.dZ i3 t l::W) h z p 0:=.mk (x:=.ext X) λ_ k=>k _ _ b a c
theorem dj.Zn(c:At R p (.ez k))(b:At R (p+1) .hq)(d:dj R (.ext .brk) W h z (p+2) 0):dj R (.ext .brk) (.hand i3 t k a::W) h z p 0:=.mk (x:=.ext .brk) λ_ k=>k c b d
theorem dj.Zo(c:At R p (.ez k))(b:At R (p+1) .hq)(d:dj R (.ext .dQ) W h z (p+2) 0):dj R (.ext .dQ) (.hand i3 t k a::W) h z p 0:=.mk (x:=.ext .dQ) λ_ k=>k c b d
theorem dj.Zp(c:At R p (.ez k))(b:At R (p+1) .hq)(d:dj R (.ext .ret) W h z (p+2) 0):dj R (.ext .ret) (.hand i3 t k a::W) h z p 0:=.mk (x:=.ext .ret) λ_ k=>k c b d
theorem dj.Zq(x:Nat)(b:At R p (.ez k))(c:At R (p+1) .hq)(d:h=i3+(x:Int))(e:x<=3)(f:ti R x ag z a (p+2)):dj R (.ext .eW) (.hand i3 t k a::W) h z p 0:=.mk (x:=.ext .eW) λ_ k=>k x b c d e f
theorem dj.Zr{w W h z a er again other done p}:dj R (.hs [] w a er again other done) W h z p p:=.mk (x:=.hs [] w a er again other done) B
theorem dj.Zs{c t r w W h z e d er again other done p a b q}(f:pN R er (a+1) (pM c) p a)(i:At R a (.gj (b+3)))(u:At R (a+1) .jI)(y:At R (a+2) (.gi d))(o:At R (a+3) (.ez er))(j:At R (a+4) .hq)(m:z<=e)(g:dj R (.seg t w) (.hand h other d again::W) h e (a+5) b)(s:At R b (.ez d))(n:At R (b+1) .hq)(l:At R (b+2) (.gj done))(v:dj R (.hs r w d er again other done) W h z (b+3) q):dj R (.hs ((c,t)::r) w d er again other done) W h z p q:=.mk (x:=.hs ((c,t)::r) w d er again other done) λ_ k=>k _ _ _ f i u y o j m g s n l v
abbrev Seg(R:Rows)(t:T)(w:Bool)(W:List ia)(h z:Int)(p q:Nat):Prop:=dj R (.seg t w) W h z p q
abbrev Ext(R:Rows)(X:rb)(W:List ia)(h z:Int)(p:Nat):Prop:=dj R (.ext X) W h z p 0
abbrev pO(R:Rows)(l:List (Nat×T))(w:Bool)(W:List ia)(h z a er:Int)(again other done p q:Nat):Prop:=dj R (.hs l w a er again other done) W h z p q
theorem Seg.inv(s:Seg R t w W h z p q):Op (dj R) R t w W h z p q:=dj.inv s
theorem Ext.inv(s:Ext R X W h z p):Oq (dj R) R W X h z p:=dj.inv s
theorem pO.inv{R l w W h z a er again other done p q}(s:pO R l w W h z a er again other done p q):Os (dj R) R l w W h z a er again other done p q:=dj.inv s
def agree(z:Int)(sl b:Int->Option J):Prop:=∀a,a<z->b a=sl a
theorem agree.refl(z:Int) sl:agree z sl sl:=λ_ _=>B
theorem agree.trans(h:agree z a b)(g:agree z b c):agree z a c:=λe d=>(g e d).trans (h e d)
theorem agree.le(h:agree z a b)(le:y<=z):agree y a b:=λd c=>h d (bg c le)
theorem agree.upd(sl x)(h:z<=i):agree z sl (upd sl i x):=λa b=>if_neg (by lia)
theorem pP(sl:Int->Option J)(i:Int)(x:Option J):upd sl i x i=x:=if_pos B
theorem Ed(sl:Int->Option J)(x:Option J)(h:j≠i):upd sl i x j=sl j:=if_neg h
noncomputable def Ee:Bool->Nat
 |true=>6
 |false=>5
def j7(R:Rows)(X:rb)(vs:List (Option J))(d:Nat)(W:List ia)(z:Int)(st:List (Option J))(sl:Int->Option J)(E:Env)(N:Nat)(r:Res)(F:Env):Prop:=
 ∀c a b junk,agree z sl c->z<=a->Ext R X W ((vs++(junk++st)).length:Int) a b->Fin R (N+d) (vs++(junk++st)) c b E r F
def l'(R:Rows)(e:Bool)(W:List ia)(z:Int)(st:List (Option J))(sl:Int->Option J)(E:Env)(N:Nat)(r:Res)(F:Env):Prop:=match oh W with
 |some (b,d)=>∀a,agree z sl a->Fin R N (ae (gb e)::cut st d) a b E r F
 |none=>r=.fo e/\F=E
def lO(R:Rows)(o:Out)(w:Bool)(W:List ia)(z:Int)(q:Nat)(st:List (Option J))(sl:Int->Option J)(E:Env)(N:Nat)(r:Res)(F:Env):Prop:=match o with
 |.val x=>∀b,agree z sl b->Fin R N (l9 w x st) b q E r F
 |.fo e=>l' R e W z st sl E N r F
 |.brk a=>j7 R .brk (l9 (l8 W) (ae (.int a)) []) (Ee (l8 W)) W z st sl E N r F
 |.dQ _=>j7 R .dQ [] 4 W z st sl E N r F
 |.ret a=>j7 R .ret [ae (.int a)] 1 W z st sl E N r F
 |.eW=>j7 R .eW [] 6 W z st sl E N r F
def l_(W:List ia)(h:Int):Prop:=∀a∈W,0<=a.h/\a.h<=h
theorem l_.up(a:l_ W h)(le:h<=k):l_ W k:=λb m=>⟨(a b m).1,by have:=(a b m).2;exact bg this le⟩
theorem l_.cc(a:l_ (w::W) h):l_ W h:=λx m=>a x (aY _ m)
theorem l_.cons(a:l_ W h)(e:w.h=h)(z:0<=h):l_ (w::W) h:=λx m=>by
 rcases aI.mp m with rfl|m
 .exact ⟨h9 z (bt e.symm),g4 (bt e)⟩
 .exact a x m
theorem l_.top:∀{W},l_ W h->oh W=ae (t,d)->0<=d/\d<=h
 |[]=>λ_ e=>by exact cV e
 |.loop _ _ _ _::W=>λa e=>l_.top (W:=W) a.cc e
 |.part g u::W=>λa e=>by cases e;exact a _ (a4 ..)
 |.dZ g u _::W=>λa e=>by cases e;exact a _ (a4 ..)
 |.hand g u _ _::W=>λa e=>by cases e;exact a _ (a4 ..)
theorem Zt{junk st:List (Option J)}{d:Int}(h:d<=st.length):cut (junk++st) d=cut st d:=by
 unfold cut;have e:(junk++st).length-d.toNat=junk.length+(st.length-d.toNat):=by rw[bA,Nat.add_sub_assoc (Int.toNat_le.2 h)]
 rw[e,List.drop_append,apR (bq ..),List.nil_append,Nat.add_sub_cancel_left]
section
variable{R:Rows}{N:Nat}{st:List (Option J)}{sl:Int->Option J}{E:Env}{r:Res}{F:Env}
theorem zB.run(a:zB R w p q)(h:Fin R N (l9 w x st) sl q E r F):Fin R (N+1) (x::st) sl p E r F:=by
 induction w using aS
 .obtain ⟨a,rfl⟩:=a;exact .pop a h
 .obtain rfl:=a;exact h.up
theorem vV.run(a:vV R w p q)(h:Fin R N (l9 w (ae .none) st) sl q E r F):Fin R (N+1) st sl p E r F:=by
 induction w using aS
 .obtain rfl:=a;exact h.up
 .obtain ⟨a,rfl⟩:=a;exact .push a h
theorem kq.mark(a:kq R jh (.push (.int n)) w p q)(h:Fin R N (l9 w (ae (.int n)) st) sl q (E.say jh (.int n)) r F):Fin R (N+4) st sl p E r F:=by refine jQ a λa b e d=>?_;obtain⟨k,c⟩:=e;exact .self a (.push b (.mark c (d.run h)))
theorem kq.Ow(a:kq R jh (.push (.int n)) af p q)(h:Fin R N (ae (.int n)::st) sl q (E.say jh (.int n)) r F):Fin R (N+3) st sl p E r F:=by obtain⟨a,b,⟨k,c⟩,d⟩:=a;obtain rfl:=d;exact .self a (.push b (.mark c h))
theorem kq.seen(a:kq R og .jI w p q)(h:Fin R N (l9 w (ae .none) st) sl q (E.say og (mz E.err)) r F):Fin R (N+4) st sl p E r F:=by refine jQ a λa b e d=>?_;obtain⟨k,c⟩:=e;exact .self a (.jI b (.seen c (d.run h)))
theorem kq.turn(a:kq R mA (.push (.int i)) af p (p+3))(h:Fin R N (ae (.bool (decide (E.cnt i<=i.fmod 10)))::st) sl (p+3) (E.tick i) r F):Fin R (N+3) st sl p E r F:=by refine jQ a λa b e d=>?_;refine gu e λk c=>?_;exact .self a (.push b (.turn c h))
theorem kq.once(a:kq R vU (.push (.int i)) af p (p+3))(h:Fin R N (ae (.bool (decide (E.cnt i=1)))::st) sl (p+3) (E.tick i) r F):Fin R (N+3) st sl p E r F:=by refine jQ a λa b e d=>?_;refine gu e λk c=>?_;exact .self a (.push b (.once c h))
theorem zA.run:∀{junk:List (Option J)}{p},zA R p junk.length->Fin R N st sl (p+junk.length) E r F->Fin R (N+junk.length) (junk++st) sl p E r F
 |[],p,_,h=>h
 |x::j,p,a,h=>by
  refine .pop (a 0 (by simp)) (zA.run (junk:=j) (λb c=>?_) ?_)
  .have:=a (b+1) (by simp;exact c)
   rwa [show p+(b+1)=p+1+b by simp+arith]at this
  .rwa [show p+1+j.length=p+(x::j).length by simp;exact aoX ..]
theorem ti.run(a:ti R junk.length lw z l p)(h:∀e,agree z sl e->Fin R N (l9 lw v st) e l E r F):Fin R (N+junk.length+(if lw then 3 else 1)) (l9 lw v (junk++st)) sl p E r F:=by
 rcases a with⟨rfl,_,k,f,g,d,c,j⟩|⟨b,d,c⟩
 .refine Fin.mono (n:=N+2+junk.length+1) (.gi g (d.run (.ez c (.gj j ?_)))) (by simp;k_is);rw[pP];exact h _ (.upd _ _ f)
 .have i:Fin R (N+1+junk.length) (l9 lw v (junk++st)) sl p E r F:=by
   induction lw using aS with
   |false=>exact d.run (.gj c (h _ (agree.refl _ _)))
   |true=>
    have:junk=[]:=by
     rcases b with b|b
     .exact kD b
     .exact aqc b
    subst this;exact .gj c (h _ (agree.refl _ _))
  exact i.mono (by induction lw using aS<;>simp<;>k_is)
theorem Zu(e:Bool):nameFits zy e=af:=by induction e using aS<;>decide+kernel
theorem xV(a e:Bool):nameFits (iR a) e=(a==e):=by induction a using aS<;>cases e<;>decide+kernel
theorem pN.stop:∀{b:List Str}{p q},pN R er found b p q->sl er=ae (.str (iR e))->(∀n∈b,okN n/\nameFits n e=ag)->Fin R N st sl q E r F->Fin R (N+4*b.length) st sl p E r F
 |[],p,q,a,_,_,h=>by obtain rfl:=a;exact h
 |n::b,p,q,a,g,f,h=>by refine AG a λd j s o i=>?_;refine gu s λk l=>?_;have:=pN.stop i g (λm c=>f m (aY _ c)) h;refine Fin.mono (n:=N+4*b.length+4) (.kI d (.ez j ?_)) (by simp;exact av _);rw[g];refine .th l (f n (a4 ..)).1 (.ko o ?_);exact((f n (a4 ..)).2)▸this
theorem pN.hit(a:pN R er found (n::ns) p q)(g:sl er=ae (.str (iR e)))(f:okN n/\nameFits n e=af)(h:Fin R N st sl found E r F):Fin R (N+4) st sl p E r F:=by refine AG a λc d b j l=>?_;refine gu b λk i=>?_;refine .kI c (.ez d ?_);refine g▸(.th i f.1 (.ko j ?_));rw[f.2];exact h
theorem Zv(f:fits c e=af)(a:pN R er found (pM c) p q)(g:sl er=ae (.str (iR e)))(h:Fin R N st sl found E r F):Fin R (N+nG c e) st sl p E r F:=by
 match c,e,f with
 |0,e,_=>exact a.hit g ⟨.inl B,Zu e⟩ h
 |1,ag,_=>exact a.hit g ⟨.inr ⟨_,B⟩,xV ag ag⟩ h
 |2,af,_=>exact a.hit g ⟨.inr ⟨_,B⟩,xV af af⟩ h
 |c+3,af,_=>exact a.hit g ⟨.inr ⟨_,B⟩,xV af af⟩ h
 |c+3,ag,_=>refine AG a λb i m l d=>?_;obtain⟨k,j⟩:=m;show Fin R (N+4+4) st sl p E r F;refine .kI b (.ez i ?_);refine g▸(.th j (.inr ⟨_,B⟩) (.ko l ?_));rw[xV af ag];exact pN.hit d g ⟨.inr ⟨_,B⟩,xV ag ag⟩ h
theorem Ox(f:fits c e=ag)(a:pN R er found (pM c) p q)(g:sl er=ae (.str (iR e)))(h:Fin R N st sl q E r F):Fin R (N+4*(pM c).length) st sl p E r F:=by
 refine a.stop g ?_ h
 match c,e,f with
 |1,af,_=>intro n cm;exact(bD.mp cm)▸(⟨.inr ⟨_,B⟩,xV ag af⟩)
 |2,ag,_=>intro n cm;exact(bD.mp cm)▸(⟨.inr ⟨_,B⟩,xV af ag⟩)
theorem Oy{e c t r}(f:fits c e=af):pick e ((c,t)::r)=ae (t,nG c e):=if_pos f
theorem Oz{e c t r}(f:fits c e=ag):pick e ((c,t)::r)=(pick e r).map λq=>(q.1,sj c+q.2):=if_neg (f▸anI)
theorem pO.none{e hs w W h z m er again other done p q}(a:pO R hs w W h z m er again other done p q)(b:pick e hs=ah)(g:sl er=ae (.str (iR e)))(k:Fin R N st sl q E r F):Fin R (N+zz hs) st sl p E r F:=by
 induction hs generalizing p with
 |nil=>exact(show q=p from pO.inv a)▸k
 |cons x hs l=>
  obtain⟨c,o⟩:=x;refine pO.inv a _ λs t n i j _ _ _ _ _ _ _ _ _ d=>?_;cases f:fits c e with
  |true=>exact gS ((Oy f).symm.trans b)
  |false=>exact Fin.mono (Ox f i g (.gj j (l d (Option.map_eq_none_iff.mp ((Oz f).symm.trans b))))) (by show _<=N+(4*(pM _).length+1+zz _);k_is)
def Zw(R:Rows)(e:Bool)(hd:T)(n:Nat)(w:Bool)(W:List ia)(h z b er:Int)(again other done p:Nat):Prop:=∀c:Prop,(∀f d a,z<=d->At R f .jI->At R (f+1) (.gi b)->At R (f+2) (.ez er)->At R (f+3) .hq->
  Seg R hd w (.hand h other b again::W) h d (f+4) a->At R a (.ez b)->At R (a+1) .hq->At R (a+2) (.gj done)->
  (∀{N st sl E r F},sl er=ae (.str (iR e))->Fin R N st sl f E r F->Fin R (N+n) st sl p E r F)->c)->c
theorem pO.some{e hd n hs w W h z m er again other done p q}(a:pO R hs w W h z m er again other done p q)(d:pick e hs=ae (hd,n)):Zw R e hd n w W h z m er again other done p:=by
 induction hs generalizing p n with
 |nil=>exact cV d
 |cons x hs ap=>
  obtain⟨c,bd⟩:=x;refine pO.inv a _ λl bV i j ao D o L V H A t I X u=>?_;cases f:fits c e with
  |true=>cases(Oy f).symm.trans d;exact λg k=>k _ _ _ H D o L V A t I X λb h=>Zv f j b h
  |false=>refine c_ (anA.mp ((Oz f).symm.trans d)) λy G cf=>?_;cases cf;exact λg k=>ap u G g λf l i M S C Y v Q s a1 a2 Z=>k f l i M S C Y v Q s a1 a2 λb h=>Fin.mono (Ox ‹_› j b (.gj ao (Z b h))) (by simp only[sj];k_is)
end
set_option tactic.hygienic true
section
variable{R:Rows}{N:Nat}{st:List (Option J)}{sl jg:Int->Option J}{E:Env}{r:Res}{F:Env}{o:Out}{w ks:Bool}{W:List ia}{z c4 h:Int}{q je:Nat}
theorem j7.move{X vs c}(k:j7 R X vs c W z st sl E N r F)(a:agree z sl jg)(l:z<=c4):j7 R X vs c W c4 st jg E N r F:=
 λs d f g b m e=>k s d f g (a.trans (b.le l)) (bg l m) e
theorem j7.junk{X vs a}(c:List (Option J))(k:j7 R X vs a W z st sl E N r F):j7 R X vs a W z (c++st) sl E N r F:=by
 intro s du d7 j b m e;have:=k s du d7 (j++c) b m (by rw[bk];exact e)
 rwa [bk]at this
theorem l'.move(k:l' R e W z st sl E N r F)(a:agree z sl jg)(l:z<=c4):l' R e W c4 st jg E N r F:=by
 unfold l' at k⊢;split
 .rename_i f d c;replace k:=c▸k;exact λs b=>k s (a.trans (b.le l))
 .rename_i c;rw[c]at k;exact k
theorem l'.junk(f:List (Option J))(c:l_ W st.length)(k:l' R e W z st sl E N r F):l' R e W z (f++st) sl E N r F:=by
 unfold l' at k⊢;split
 .rename_i g d a;replace k:=a▸k;intro s b;exact(Zt (c.top a).2)▸(k s b)
 .rename_i a;rw[a]at k;exact k
theorem lO.move(k:lO R o w W z q st sl E N r F)(a:agree z sl jg)(l:z<=c4):lO R o w W c4 q st jg E N r F:=by
 induction o using Out.casesOn with
 |val x=>exact λs b=>k s (a.trans (b.le l))
 |fo e=>exact l'.move k a l
 |brk n=>exact j7.move k a l
 |dQ n=>exact j7.move k a l
 |ret n=>exact j7.move k a l
 |eW=>exact j7.move k a l
theorem lO.bX(v:o.isVal=ag)(k:lO R o w W z q st sl E N r F):lO R o ks W z je st sl E N r F:=by
 induction o using Out.casesOn with
 |val x=>exact kD v
 |fo e=>exact k
 |brk n=>exact k
 |dQ n=>exact k
 |ret n=>exact k
 |eW=>exact k
theorem lO.junk(a:List (Option J))(b:l_ W st.length)(v:o.isVal=ag)(k:lO R o w W z q st sl E N r F):lO R o w W z q (a++st) sl E N r F:=by
 induction o using Out.casesOn with
 |val x=>exact kD v
 |fo e=>exact l'.junk a b k
 |brk n=>exact j7.junk a k
 |dQ n=>exact j7.junk a k
 |ret n=>exact j7.junk a k
 |eW=>exact j7.junk a k
theorem j7.mono{X vs a M}(le:N<=M)(k:j7 R X vs a W z st sl E N r F):j7 R X vs a W z st sl E M r F:=
 λs c d f b m e=>(k s c d f b m e).mono (by(simp+arith at le⊢;exact le))
theorem l'.mono(le:N<=M)(k:l' R e W z st sl E N r F):l' R e W z st sl E M r F:=by
 unfold l' at k⊢;split
 .rename_i c d a;replace k:=a▸k;exact λs b=>(k s b).mono le
 .rename_i a;rw[a]at k;exact k
theorem lO.mono(le:N<=M)(k:lO R o w W z q st sl E N r F):lO R o w W z q st sl E M r F:=by
 induction o using Out.casesOn with
 |val x=>exact λs b=>(k s b).mono le
 |fo e=>exact l'.mono le k
 |brk n=>exact j7.mono le k
 |dQ n=>exact j7.mono le k
 |ret n=>exact j7.mono le k
 |eW=>exact j7.mono le k
theorem lO.part(v:o.q_=af)(k:lO R o w W z q st sl E N r F):lO R o ks (.part i3 t::W) z je st sl E N r F:=by
 induction o using Out.casesOn with
 |val x=>exact d8 v
 |fo e=>exact d8 v
 |brk n=>exact λs a c d b m e=>k s a c d b m e.inv
 |dQ n=>exact λs a c d b m e=>k s a c d b m e.inv
 |ret n=>exact λs a c d b m e=>k s a c d b m e.inv
 |eW=>exact λs a c d b m e=>k s a c d b m e.inv
theorem HL(a:R p=ae (.again,oh W))(b:l_ W st.length)(k:l' R e W z st sl E N r F)(g:agree z sl jg):Fin R (N+1) (ae (gb e)::st) jg p E r F:=by
 unfold l' at k;split at k
 .rename_i c d c5;rw[c5]at a;exact .xN a (b.top c5).1 (b.top c5).2 (k jg g)
 .rename_i c5;rw[c5]at a;obtain⟨rfl,rfl⟩:=k;exact .xO a
theorem Zy(a:R p=ae (.send uu Mp,oh W))(b:l_ W st.length)(k:l' R e W z st sl E N r F):Fin R (N+1) (ae (.int (if e then 1 else 0))::x::st) sl p E r F:=by
 unfold l' at k;split at k
 .rename_i c d c5;rw[c5]at a;exact .xL a (b.top c5).1 (b.top c5).2 (k sl (agree.refl _ _))
 .rename_i c5;rw[c5]at a;obtain⟨rfl,rfl⟩:=k;exact .xM a
theorem zC(h:(st.length:Int)=d):cut st d=st:=by unfold cut;refine(show st.length-d.toNat=0 from h▸Nat.sub_self _)▸?_;rfl
theorem OC{t:T}(h:t.isNil=af):t=.nil:=by induction t using T.casesOn<;>first|rfl|exact d8 h
end
def Zz(R:Rows)(t:T)(E:Env)(o:Out)(j:Env)(c:Nat):Prop:=∀{e a h g i b},Seg R t e a h g i b->∀{st f N r d},(st.length:Int)=h->l_ a h->lO R o e a g b st f j N r d->Fin R (N+c) st f i E r d
noncomputable def Out.ZA:Out->Bool
 |.ret _=>af
 |_=>ag
noncomputable def Out.Eg:Out->Bool
 |.dQ _=>af
 |_=>ag
theorem lO.out{w:Bool}{z h:Int}{q f p:Nat}{st sl E N r F}(v:o.ut=af\/o.nF=af\/∃n,o=.ret n)(k:lO R o w W z q st sl E N r F):lO R o ag (ia.loop h w p q::W) z f st sl E N r F:=by
 induction o using Out.casesOn with
 |fo e=>exact k
 |ret n=>exact λs d a c b m e=>k s d a c b m e.inv
 |eW=>exact λs d a c b m e=>k s d a c b m e.inv
 |_=>exact v.elim d8 λv=>v.elim d8 λ⟨_,v⟩=>d8 (congrArg Out.ZA v)
theorem lO.go{w:Bool}{z h:Int}{q x p:Nat}{st sl E M r F}(v:o.isVal=af\/∃n,o=.dQ n)(d:At R x (.gj p))(cv:(st.length:Int)=h)(f:∀s,agree z sl s->Fin R M st s p E r F):lO R o ag (ia.loop h w p q::W) z x st sl E (M+1) r F:=by
 induction o using Out.casesOn with
 |val x=>exact λs a=>.gj d (f s a)
 |dQ n=>
  intro s du d7 j a m x;refine x.inv _ λx ce e c=>?_;have g:j.length=x:=by simp at ce;lia
  subst g;have:=c.run (N:=M) (st:=st) (sl:=s) (E:=E) (r:=r) (F:=F) (v:=ah) (λs2 b=>f s2 (a.trans (b.le m)));exact this.mono (by simp;exact anJ e)
 |_=>exact v.elim d8 λ⟨_,v⟩=>d8 (congrArg Out.Eg v)
theorem tm:l8 (.loop h w a b::W)=w:=rfl
theorem tn:l8 (.part h t::W)=l8 W:=rfl
theorem tp:l8 (.dZ h t l::W)=l8 W:=rfl
theorem tq:l8 (.hand h t a b::W)=l8 W:=rfl
theorem sim(du:e3 t E o Z c):Zz R t E o Z c:=by
 induction du with
 |mark=>intro j v h z p q hs st sl N r F cv ok k;exact hs.inv.mark (k _ (agree.refl _ _))
 |seen=>intro j v h z p q hs st sl N r F cv ok k;exact hs.inv.seen (k _ (agree.refl _ _))
 |h4=>
  intro j v h z p q hs st sl N r F cv ok k;exact hs.inv _ λ_ a b c=>.self a (.push b (Zy c (cv▸ok) k))
 |seq1 _ C=>intro j v h z p q hs st sl N r F cv ok k;exact C hs.inv cv ok k
 |tg _ _ H w=>
  intro j v h z p q hs st sl N r F cv ok k;exact hs.inv _ λ_ _ a le b=>(H a cv ok (λs g=>w b cv ok (k.move g le))).mono (by k_is)
 |sk _ u C=>
  intro j v h z p q hs st sl N r F cv ok k;exact hs.inv _ λ_ _ a le b=>C a cv ok (k.bX u)
 |@uv dz c4 E x M V y Z bd _ _ H w=>
  intro j v h z p q hs st sl N r F cv ok k;refine hs.inv _ λ_ _ _ a le b c d=>(H a cv ok (N:=N+1+1+bd) (λs g=>w b (by simp[l9];exact cv) (ok.up (oI _)) (λs2 i=>?_))).mono (by k_is);exact .list c (d.run (k _ (g.trans (i.le le))))
 |@uw dz c4 tr x M V o Z bd _ _ u H w=>
  intro j v h z p q hs st sl N r F cv ok k;exact hs.inv _ λ_ _ _ a le b c d=>(H a cv ok (λs g=>w b (by simp[l9];exact cv) (ok.up (oI _)) (((k.bX u).move g le).junk [x] (cv▸ok) u))).mono (by k_is)
 |ux _ u C=>
  intro j v h z p q hs st sl N r F cv ok k;exact hs.inv _ λ_ _ _ a le b c d=>C a cv ok (k.bX u)
 |xA X=>
  intro j v h z p q hs st sl N r F cv ok k;refine hs.inv _ λ_ a b V d e=>Fin.mono (n:=N+1+1+3) (a.turn (.ji b ?_)) (av _);exact(decide_eq_false X)▸(e.run (k _ (agree.refl _ _)))
 |@xB id b E n Z c X _ C=>
  intro j v h z p q hs st sl N r F cv ok k;refine hs.inv _ λ_ a b V d e=>Fin.mono (n:=N+c+1+3) (a.turn (.ji b ?_)) (by k_is);rw[decide_eq_true X];refine C V cv (ok.cons B (by lia)) ?_;intro s L D A g m x;refine x.inv _ λx ce S Q=>?_;have c8:A.length=x:=by induction j using aS<;>simp[l9,tm,tn,tp,tq,jW]at ce<;>lia
  subst c8;have:=Q.run (N:=N) (st:=st) (sl:=s) (E:=_) (r:=r) (F:=F) (v:=ae (.int _)) (λs2 i=>k s2 (g.trans (i.le m)))
  induction j using aS
  .exact this.mono (by simp[tm,tn,tp,tq,Ee];exact anJ S)
  .exact this.mono (by simp[tm,tn,tp,tq,Ee];exact S)
 |@xC id b E o Z c X _ u C=>
  intro j v h z p q hs st sl N r F cv ok k;refine hs.inv _ λ_ a b V d e=>Fin.mono (n:=N+c+1+3) (a.turn (.ji b ?_)) (by k_is);rw[decide_eq_true X];exact C V cv (ok.cons B (by lia)) (k.out u)
 |@xD id b E eO M V f_ cc bd X _ u _ C w=>
  intro j v h z p q hs st sl N r F cv ok k;have cC:=hs;refine hs.inv _ λ_ a b dB d e=>Fin.mono (n:=N+bd+1+V+1+3) (a.turn (.ji b ?_)) (by k_is);rw[decide_eq_true X];exact C dB cv (ok.cons B (by lia)) (.go u d cv λs g=>w cC cv ok (k.move g (aO _)))
 |brk=>
  intro j v h z p q hs st sl N r F cv ok k;refine hs.inv _ λ_ _ a le x=>?_;have k:j7 R .brk _ _ v z st sl _ N r F:=k;cases g:l8 v with
  |true=>rw[g]at a x k;exact(a.Ow (k sl _ _ [] (agree.refl _ _) le (by simp[l9];exact cv▸x))).mono (by simp[Ee])
  |false=>rw[g]at a x k;refine(a.mark (w:=ag) ?_).mono (av _);exact k sl _ _ [] (agree.refl _ _) le (by simpa[l9,jW,cv]using x)
 |dQ=>
  intro j v h z p q hs st sl N r F cv ok k;exact hs.inv _ λ_ _ a le x=>(a.mark (w:=ag) (k sl _ _ [] (agree.refl _ _) le (by simpa[cv]using x))).mono (av _)
 |ret=>
  intro j v h z p q hs st sl N r F cv ok k;exact hs.inv _ λ_ _ a le x=>(a.Ow (k sl _ _ [] (agree.refl _ _) le (by simpa[cv]using x))).mono (av _)
 |xE X=>
  intro j v h z p q hs st sl N r F cv ok k;refine hs.inv _ λ_ _ a b le x e=>Fin.mono (n:=N+6+1+3) (a.once (.ji b ?_)) (av _);rw[decide_eq_true X];exact k sl _ _ [] (agree.refl _ _) le (by simpa[cv]using x)
 |xF X=>
  intro j v h z p q hs st sl N r F cv ok k;refine hs.inv _ λ_ _ a b le x e=>Fin.mono (n:=N+1+1+3) (a.once (.ji b ?_)) (av _);exact(decide_eq_false X)▸(e.run (k _ (agree.refl _ _)))
 |bare _ C=>intro j v h z p q hs st sl N r F cv ok k;exact C hs.inv cv ok k
 |xG _ n C=>
  intro j v h z p q hs st sl N r F cv ok k;refine hs.inv _ λ_ _ _ _ _ _ _ _ _ a le b Q _ _ _ _ _ _ _ _ _ _ _ _ _ _ _ _ _ _ _ _ _ _ _ _=>?_;rw[n,aoY]at a;obtain rfl:=OC n;obtain rfl:_=_:=Seg.inv b;exact(C a cv (ok.cons B (by lia)) (λs g=>.gj Q (k s g))).mono (by k_is)
 |@xH _ _ _ _ _ _ _ _ _ _ f_ _ _ _ n _ H w=>
  intro j v h z p q hs st sl N r F cv ok k;refine hs.inv _ λ_ _ _ _ _ _ _ _ _ a le b Q _ _ _ _ _ _ _ _ _ _ _ _ _ _ _ _ _ _ _ _ _ _ _ _=>?_;rw[n,aoZ]at a;refine(H a cv (ok.cons B (by lia)) (λs g=>w b cv ok (N:=N+1) ?_)).mono (by k_is);have k:=k.move g le;cases u:f_.isVal with
  |false=>exact(k.bX u).mono (by k_is)
  |true=>
   induction f_ using Out.casesOn with
   |val x=>exact λs2 i=>.gj Q (k s2 i)
   |_=>exact d8 u
 |sb _ u C=>
  intro j v h z p q hs st sl N r F cv ok k;exact hs.inv _ λ_ _ _ _ _ _ _ _ _ a le b Q _ _ _ _ _ _ _ _ _ _ _ _ _ _ _ _ _ _ _ _ _ _ _ _=>C a cv (ok.cons B (by lia)) (k.part u)
 |@xI V cR bd c2 di b E e Z c _ cg C=>
  intro j v h z p q hs st sl N r F cv ok k;refine hs.inv _ λcm da W b7 ca dh cs ci df a le b Q b5 bZ G ct dk co c3 cW cr dc bY a1 a2 bV cd hh cM cG cu cU cI cP cT eq=>(C a cv (ok.cons B (by lia)) (N:=N+1+1+zz (iA V cR bd c2)+4) (λs g=>?_)).mono (by k_is);rw[zC cv];refine .gi a1 (.ez a2 ?_);rw[pP];refine .k2 bV (.gi cd (pO.none hh cg (pP _ _ _) (.ez cM ?_)));rw[Ed _ _ c3,pP];exact HL cG (cv▸ok) k (g.trans ((agree.upd _ _ bZ).trans (agree.upd _ _ G)))
 |@xJ V cR bd c2 di c4 E e M c hd cJ o cc b2 _ cg _ u H w=>
  intro j v h z p q hs st sl N r F cv ok k;refine hs.inv _ λcm da W b7 ca dh cs ci df a le b Q b5 bZ G ct dk co c3 cW cr dc bY a1 a2 bV cd hh cM cG cu cU cI cP cT eq=>pO.some hh cg _ λf ck dA ao cK cE cy cL cA dq dn db run=>(H a cv (ok.cons B (by lia)) (N:=N+ce o+b2+4+cJ+4) (λs g=>?_)).mono (by k_is);rw[zC cv];refine .gi a1 (.ez a2 ?_);rw[pP];refine .k2 bV (.gi cd (run (pP _ _ _) (.jI cK (.gi cE (.ez cy ?_)))));rw[Ed _ _ (Ne.symm co),pP];refine Fin.hq (e:=ae e) cL (w cA cv (ok.cons B (by lia)) ?_);have c1:agree z sl (upd (upd (upd s b7 (ae (gb e))) ca (ae (.str (iR e)))) W (ae (mz M.err))):=g.trans ((agree.upd _ _ bZ).trans ((agree.upd _ _ G).trans (agree.upd _ _ b5)));have dm:∀{s2},agree ck (upd (upd (upd s b7 (ae (gb e))) ca (ae (.str (iR e)))) W (ae (mz M.err))) s2->s2 W=ae (mz M.err):=λi=>by rw[i W (bg cr ao),pP]
  have cb:∀{s2},agree ck (upd (upd (upd s b7 (ae (gb e))) ca (ae (.str (iR e)))) W (ae (mz M.err))) s2->agree z sl s2:=λi=>c1.trans (i.le (jz G bY ao));have two:∀{s2 D n dd},agree ck (upd (upd (upd s b7 (ae (gb e))) ca (ae (.str (iR e)))) W (ae (mz M.err))) s2->At R D (.ez W)->At R (D+1) .hq->Fin R n dd s2 (D+2) (cc.iS M.err) r F->Fin R (n+2) dd s2 D cc r F:=λi ap S fin=>by exact .ez ap ((dm i)▸(.hq S fin))
  induction o using Out.casesOn with
  |val x=>exact λs2 i=>two i dq dn (.gj db (k _ (cb i)))
  |fo cf=>
   intro s2 i;rw[zC cv];refine .gi cu (.ez cU ?_);rw[Ed _ _ cW,dm i];refine .hq cI (.ez cP ?_);rw[pP];exact HL cT (cv▸ok) k ((cb i).trans (agree.upd _ _ ct))
  |brk n=>
   intro s2 L D A i m x;refine x.inv _ λap S x=>?_;have:=k s2 L _ A (cb i) (jz (bx G m) bY ao) x;exact(two i ap S this).mono (by simp only[ce,tm,tn,tp,tq];k_is)
  |dQ n=>
   intro s2 L D A i m x;refine x.inv _ λap S x=>?_;have:=k s2 L _ A (cb i) (jz (bx G m) bY ao) x;exact(two i ap S this).mono (by simp only[ce,tm,tn,tp,tq];exact av _)
  |ret n=>
   intro s2 L D A i m x;refine x.inv _ λap S x=>?_;have:=k s2 L _ A (cb i) (jz (bx G m) bY ao) x;exact(two i ap S this).mono (by simp only[ce,tm,tn,tp,tq];exact av _)
  |eW=>exact kD u
 |@sf V cR bd c2 di c4 E e M c hd cJ cc b2 o Z cw _ cg _ _ H w dr=>
  intro j v h z p q hs st sl N r F cv ok k;have cC:=hs;refine hs.inv _ λcm da W b7 ca dh cs ci df a le b Q b5 bZ G ct dk co c3 cW cr dc bY a1 a2 bV cd hh cM cG cu cU cI cP cT eq=>pO.some hh cg _ λf ck dA ao cK cE cy cL cA dq dn db run=>(H a cv (ok.cons B (by lia)) (N:=N+cw+b2+4+cJ+4) (λs g=>?_)).mono (by k_is);rw[zC cv];refine .gi a1 (.ez a2 ?_);rw[pP];refine .k2 bV (.gi cd (run (pP _ _ _) (.jI cK (.gi cE (.ez cy ?_)))));rw[Ed _ _ (Ne.symm co),pP];refine Fin.hq (e:=ae e) cL (w cA cv (ok.cons B (by lia)) ?_);have c1:agree z sl (upd (upd (upd s b7 (ae (gb e))) ca (ae (.str (iR e)))) W (ae (mz M.err))):=g.trans ((agree.upd _ _ bZ).trans ((agree.upd _ _ G).trans (agree.upd _ _ b5)));intro s2 L D A i m x;refine x.inv _ λx ap S ds c9 jmp=>?_;have c8:A.length=x:=by simp at ds;lia
  subst c8;refine Fin.mono (n:=N+cw+A.length+1+2) (.ez ap ?_) (by(simp+arith at c9⊢;exact c9));rw[i W (bg cr ao),pP];exact .hq S (jmp.run (N:=N+cw) (st:=st) (sl:=s2) (E:=cc.iS M.err) (r:=r) (F:=F) (v:=ah) (λdC dx=>dr cC cv ok (k.move (c1.trans ((i.le (jz G bY ao)).trans (dx.le (jz (bx G m) bY ao)))) (aO _))))
 |@ev x l E o M c y Z b2 _ _ H w=>
  intro j v h z p q hs st sl N r F cv ok k;refine hs.inv _ λcm dt dg cs ci dy a le b Q b5 bZ G a1 cN a2 bV eq=>?_;have I:l_ v st.length:=by rw[cv];exact ok
  refine(H a cv (ok.cons B (by lia)) (N:=N+qx o+b2) ?_).mono (by k_is)
  induction o using Out.casesOn with
  |val x=>
   intro s g;refine w b (N:=N+1) (by cases j<;>simp[l9,jW]<;>exact cv) (ok.up (by cases j<;>simp[jW]<;>exact oI _)) (λs2 i=>.gj Q (k s2 (g.trans (i.le le))))
  |fo e=>
   intro s g;rw[zC cv];refine Fin.mono (n:=N+2+b2+1) (.gi a1 (w cN cv ok (N:=N+2) (λs2 i=>.ez a2 ?_))) (by simp only[qx];k_is);rw[i dg bZ,pP];exact HL bV I k (g.trans ((agree.upd _ _ b5).trans (i.le G)))
  |brk n=>
   intro s L D A g m x;exact x.inv _ λ_ _ b Y x=>(w b B (I.up (by simp;lia)) (λs2 i=>k s2 _ _ A (g.trans (i.le m)) (bg m Y) x)).mono (by simp only[qx,tm,tn,tp,tq];k_is)
  |dQ n=>
   intro s L D A g m x;exact x.inv _ λ_ _ b Y x=>(w b B (I.up (by simp;k_is)) (λs2 i=>k s2 _ _ A (g.trans (i.le m)) (bg m Y) x)).mono (by simp only[qx,tm,tn,tp,tq];k_is)
  |ret n=>
   intro s L D A g m x;exact x.inv _ λ_ _ b Y x=>(w b B (I.up (by simp;lia)) (λs2 i=>k s2 _ _ A (g.trans (i.le m)) (bg m Y) x)).mono (by simp only[qx,tm,tn,tp,tq];k_is)
  |eW=>
   intro s L D A g m x;exact x.inv _ λ_ _ b Y x=>(w b B (I.up (by simp;k_is)) (λs2 i=>k s2 _ _ A (g.trans (i.le m)) (bg m Y) x)).mono (by simp only[qx,tm,tn,tp,tq];k_is)
 |@mX x l E eO M c o Z b2 _ _ u H w=>
  intro j v h z p q hs st sl N r F cv ok k;refine hs.inv _ λcm dt dg cs ci dy a le b Q b5 bZ G a1 cN a2 bV eq=>?_;have I:l_ v st.length:=by rw[cv];exact ok
  refine(H a cv (ok.cons B (by lia)) (N:=N+b2+1) ?_).mono (by k_is)
  induction eO using Out.casesOn with
  |val x=>
   intro s g;refine(w b (N:=N) (by cases j<;>simp[l9,jW]<;>exact cv) (ok.up (by cases j<;>simp[jW]<;>exact oI _)) ?_).up;have:=(k.move g le).junk (l9 j x []) I u;rw[show l9 j x []++st=l9 j x st by induction j using aS<;>rfl]at this;exact this.bX u
  |fo e=>
   intro s g;rw[zC cv];exact .gi a1 (w cN cv ok (N:=N) ((k.move (g.trans (agree.upd _ _ b5)) G).bX u))
  |brk n=>
   intro s L D A g m x;refine x.inv _ λ_ _ b Y x=>(w b B (I.up (by simp;lia)) (N:=N) ?_).mono (by k_is);have:=(k.move g m).junk (l9 (l8 v) (ae (.int n)) []++A) I u;rw[bk]at this;exact this.bX u
  |dQ n=>
   intro s L D A g m x;refine x.inv _ λ_ _ b Y x=>(w b B (I.up (by simp;k_is)) (N:=N) ?_).mono (by k_is);exact((k.move g m).junk A I u).bX u
  |ret n=>
   intro s L D A g m x;refine x.inv _ λ_ _ b Y x=>(w b B (I.up (by simp;lia)) (N:=N) ?_).mono (by k_is);exact((k.move g m).junk ([ae (.int n)]++A) I u).bX u
  |eW=>
   intro s L D A g m x;refine x.inv _ λ_ _ b Y x=>(w b B (I.up (by simp;k_is)) (N:=N) ?_).mono (by k_is);exact((k.move g m).junk A I u).bX u
set_option tactic.hygienic false
noncomputable def dS:List aQ->aQ
 |s::_=>s
 |[]=>.Pass ⟨0,0,0,0⟩
noncomputable def ZD:Nat->List aQ->List aQ
 |0,s=>s.tail
 |1,s=>(match dS s with|.If _ a _ _=>a|_=>[])
 |2,s=>(match dS s with|.If _ _ b _=>b|_=>[])
 |3,s=>(match dS s with|.For _ _ b _ _=>b|_=>[])
 |_,s=>(match dS s with|.While _ b _ _=>b|_=>[])
def ZE(a:ai):List aQ:=match kW a mr with
 |some (s,_)=>xf s
 |none=>[]
noncomputable def OD:Nat->Nat->List aQ->List aQ
 |0,_,s=>s
 |f+1,n,s=>cond (a0 n 1) s (ZD (n%10) (OD f (n/10) s))
def bX(a n:Nat):List aQ:=OD 40 n (ZE a)
noncomputable def tupS:aQ->List az
 |.Assign [.Tuple a _ _] _ _=>a
 |_=>[]
noncomputable def x1:aQ->az
 |.While a _ _ _=>a
 |_=>.Name (au "") ⟨0,0,0,0⟩
def eG(c:l1)(n:Nat)(s:aQ)(v:J)(f:Loc)(κ:cD):bT:=match s with
 |.For a _ b _ _=>(match a with
  |.Tuple e _ _=>(match jd e with|true=>jC c n e v f λd=>cq c n b d κ|false=>λ_=>False)
  |a=>(match r7 a with|true=>asg c n a v f λd=>cq c n b d κ|false=>λ_=>False))
 |_=>λ_=>False
noncomputable def gc(b:l1)(n:Nat)(a:List aQ)(κ:cD):cD:=⟨λc=>cq b n a c κ,κ.ef,κ.mU,κ.ct⟩
def cl(d:Nat)(f:J)(as:List J)(k:cZ):bT:=jR (U d) f as k
def cB(d:Nat)(o:J)(x:Str)(as:List J)(k:cZ):bT:=methP o x λm=>jR (U d) m.1 (m.2++as) k
def lm(n:Nat)(X:bT):bT:=λa=>n<=16000000/\X a
def oi(vs:List J)(X:bT):bT:=λa=>vs.length<=16000000/\X a
def hu(n:Nat)(X:bT):bT:=λa=>n=n/\X a
def HQ(w t:J)(K:J->bT):bT:=g6 w λc=>b6 c (cp .Is t .none λb=>K (.bool b)) (K w)
def uz(v:J)(k:cZ):bT:=match v with
 |.int a=>k (.int (-a))
 |_=>λ_=>False
def sn:Str:=b8 "Alpha"
def so:Str:=b8 "Beta"
def ZF:Str:=b8 "Catch"
def ZG:Str:=b8 "Code"
def ZH:Str:=b8 "HandlerPart"
def HR:Str:=b8 "Loop"
def ZI:Str:=b8 "Node"
def ZJ:Str:=b8 "Params"
def ZK:Str:=b8 "Part"
def ZL:Str:=b8 "Row"
def OE:Str:=b8 "StandardError"
def HS:Str:=b8 "__init__"
def OF:Str:=b8 "_law_asked"
def ZM:Str:=b8 "_law_fits"
def ZN:Str:=b8 "_law_left"
def OG:Str:=b8 "_law_read"
def ZO:Str:=b8 "_law_read_begin"
def ZP:Str:=b8 "_law_seq"
def ZQ:Str:=b8 "_law_take"
def lu:Str:=b8 "a"
def ZR:Str:=b8 "add"
def tu:Str:=b8 "again"
def kt:Str:=b8 "append"
def ZS:Str:=b8 "args"
def HT:Str:=b8 "arguments"
def rc:Str:=b8 "array"
def ZT:Str:=b8 "asked"
def OH:Str:=b8 "at"
def uA:Str:=b8 "b"
def zE:Str:=b8 "base"
def kJ:Str:=b8 "begin"
def x2:Str:=b8 "block"
def ZU:Str:=b8 "blockpass"
def uB:Str:=b8 "body"
def Bm:Str:=b8 "boom"
def ZV:Str:=b8 "box"
def oj:Str:=b8 "break"
def x3:Str:=b8 "c"
def pR:Str:=b8 "call"
def uC:Str:=b8 "catch"
def om:Str:=b8 "catches"
def sq:Str:=b8 "caught"
def sr:Str:=b8 "children"
def ZW:Str:=b8 "class_tests"
def HU:Str:=b8 "classes"
def HV:Str:=b8 "close"
def x4:Str:=b8 "code"
def ZX:Str:=b8 "compile_handlers"
def o1:Str:=b8 "compiler"
def pS:Str:=b8 "const"
def OI:Str:=b8 "count"
def ZY:Str:=b8 "deep"
def OJ:Str:=b8 "defaults"
def pT:Str:=b8 "depth"
def tv:Str:=b8 "done"
def pU:Str:=b8 "dup"
def ZZ:Str:=b8 "effect_of"
def Ei:Str:=b8 "end"
def vX:Str:=b8 "ensure"
def HW:Str:=b8 "enter"
def HX:Str:=b8 "env"
def nJ:Str:=b8 "error"
def Z0:Str:=b8 "extra"
def Ej:Str:=b8 "finish"
def iB:Str:=b8 "first"
def OK:Str:=b8 "following"
def Z1:Str:=b8 "former"
def Bn:Str:=b8 "found"
def x5:Str:=b8 "get"
def ma:Str:=b8 "getc"
def Z2:Str:=b8 "getcin"
def pV:Str:=b8 "getg"
def lx:Str:=b8 "getl"
def su:Str:=b8 "gvar"
def Z3:Str:=b8 "handled"
def Z4:Str:=b8 "handler"
def Z5:Str:=b8 "has_splat"
def fW:Str:=b8 "height"
def Z6:Str:=b8 "held"
def uD:Str:=b8 "hidden"
def tw:Str:=b8 "if"
def Ek:Str:=b8 "index"
def OL:Str:=b8 "innermost"
def rd:Str:=b8 "int"
def Z7:Str:=b8 "is_list"
def OM:Str:=b8 "isinstance"
def El:Str:=b8 "item"
def Z8:Str:=b8 "items"
def ON:Str:=b8 "joinlists"
def Z9:Str:=b8 "joins"
def mZ:Str:=b8 "jump"
def OO:Str:=b8 "jump_to"
def o2:Str:=b8 "jumpif"
def Em:Str:=b8 "jumpnil"
def sv:Str:=b8 "jumpunless"
def Z_:Str:=b8 "k"
def En:Str:=b8 "kept"
def ju:Str:=b8 "kind"
def nK:Str:=b8 "label"
def aac:Str:=b8 "lambda"
def nL:Str:=b8 "last"
def OP:Str:=b8 "later"
def vY:Str:=b8 "leave"
def tx:Str:=b8 "len"
def oo:Str:=b8 "line"
def re:Str:=b8 "list"
def HY:Str:=b8 "list_of"
def OQ:Str:=b8 "loop"
def aad:Str:=b8 "loops"
def fX:Str:=b8 "maker"
def OR:Str:=b8 "mark"
def aae:Str:=b8 "method"
def vZ:Str:=b8 "name"
def uE:Str:=b8 "names"
def aaf:Str:=b8 "negate"
def o3:Str:=b8 "next"
def aag:Str:=b8 "no"
def jl:Str:=b8 "node"
def OS:Str:=b8 "nodes"
def HZ:Str:=b8 "number"
def H0:Str:=b8 "once"
def OT:Str:=b8 "one"
def hR:Str:=b8 "op"
def H2:Str:=b8 "open"
def aah:Str:=b8 "optional"
def aai:Str:=b8 "other"
def aaj:Str:=b8 "other_way"
def H3:Str:=b8 "otherwise"
def Eo:Str:=b8 "out"
def OU:Str:=b8 "outcome"
def Ep:Str:=b8 "outer"
def aak:Str:=b8 "over"
def aal:Str:=b8 "param_names"
def nM:Str:=b8 "params"
def OV:Str:=b8 "part"
def jY:Str:=b8 "parts"
def OW:Str:=b8 "pass"
def rf:Str:=b8 "pieces"
def j8:Str:=b8 "place"
def aam:Str:=b8 "place_of"
def ic:Str:=b8 "pop"
def mb:Str:=b8 "program"
def k4:Str:=b8 "push"
def eQ:Str:=b8 "put"
def Bo:Str:=b8 "put_at"
def v3:Str:=b8 "raise"
def Bp:Str:=b8 "range"
def aan:Str:=b8 "receiver"
def H4:Str:=b8 "rescue"
def Er:Str:=b8 "rescues"
def nN:Str:=b8 "retry"
def mc:Str:=b8 "return"
def OX:Str:=b8 "row"
def ly:Str:=b8 "rows"
def aao:Str:=b8 "safe"
def tA:Str:=b8 "scope"
def H5:Str:=b8 "seen"
def i4:Str:=b8 "self"
def qE:Str:=b8 "send"
def mB:Str:=b8 "seq"
def qF:Str:=b8 "setcaught"
def md:Str:=b8 "setl"
def Bq:Str:=b8 "slots"
def pW:Str:=b8 "sort"
def uF:Str:=b8 "splat"
def OY:Str:=b8 "spot"
def OZ:Str:=b8 "spread"
def O0:Str:=b8 "stack"
def zF:Str:=b8 "start"
def rg:Str:=b8 "starts"
def aap:Str:=b8 "step"
def aaq:Str:=b8 "store"
def aar:Str:=b8 "subject_test"
def rh:Str:=b8 "table"
def aas:Str:=b8 "taken"
def nO:Str:=b8 "target"
def O1:Str:=b8 "test"
def aat:Str:=b8 "test_jump"
def mC:Str:=b8 "told"
def zG:Str:=b8 "tree"
def Es:Str:=b8 "turn"
def ri:Str:=b8 "turns"
def uG:Str:=b8 "$!"
def O2:Str:=b8 "%"
def H6:Str:=b8 "==="
def aau:Str:=b8 "unknown"
def x6:Str:=b8 "update"
def gV:Str:=b8 "value"
def x7:Str:=b8 "value_or_nil"
def nP:Str:=b8 "wanted"
def H7:Str:=b8 "way"
def H8:Str:=b8 "way_back"
def H9:Str:=b8 "way_out"
def m1:Str:=b8 "ways"
def pX:Str:=b8 "while"
def H':Str:=b8 "with_target"
def aav:Str:=b8 "yes"
theorem O3:U (d+1) 29 [cA,kK,dn] k=cp .IsNot kK .none λb=>b6 b (cB d cA jl [kK,dn] λe=>k .none) (g6 dn λc2=>b6 c2 (b4 cA fX λa=>cB d a eQ [.str k4,.none] λc=>k .none) (k .none)):=by cbv
theorem aaw:U (d+1) 29 [cA,kK] k=U (d+1) 29 [cA,kK,.bool af] k:=by cbv
theorem aax:U (d+1) 37 [cA,nQ,zH,uH] k=b4 cA fX λb=>methP b eQ λa=>lm 2 (cl d a.1 (a.2++[.str qE,nQ,zH,.tup [uH,.none]]) λc=>k .none):=by cbv
theorem aay:U (d+1) 37 [cA,nQ,zH] k=U (d+1) 37 [cA,nQ,zH,.str pR] k:=by cbv
theorem aaz:U (d+1) 44 [cA,Br] k=cp .IsNot Br .none λa=>b6 a (b4 cA fX λb=>cB d b eQ [.str lx,.int 0,Br] λe=>cl d (.glob 37) [cA,.str H6,.int 1] λc=>k .none) (k .none):=by cbv
theorem aaA:U (d+1) 122 [cK,o4,dn,aaB,x8] k=ej cK fW o4 (ej cK nP dn (ej cK zF aaB (ej cK tv x8 (k .none)))):=by cbv
theorem aaC:U (d+1) 129 [cK,v5] k=k .none:=by cbv
theorem aaD:U (d+1) 136 [cK,v5] k=k .none:=by cbv
theorem aaE:U (d+1) 143 [cK,cA] k=k .none:=by cbv
theorem aaF:U (d+1) 164 [cK,o4] k=ej cK fW o4 (ej cK iB .none (lm 0 (eX (.list []) λa=>ej cK rf a (k .none)))):=by cbv
theorem aaG:U (d+1) 171 [cK,v5] k=b4 v5 ly λb=>cl d (.blt "len") [b] λa=>ej cK iB a (k .none):=by cbv
theorem aaH:U (d+1) 178 [cK,v5] k=b4 v5 ly λb=>cl d (.blt "len") [b] λg=>b4 cK iB λh=>cp .Gt g h λc=>b6 c (b4 cK rf λft=>methP ft kt λa=>b4 cK iB λe=>b4 v5 ly λf=>cl d (.blt "len") [f] λi=>lm 2 (cl d a.1 (a.2++[.tup [e,i]]) λj=>ej cK iB .none (k .none))) (ej cK iB .none (k .none)):=by cbv
theorem aaI:U (d+1) 185 [cK,cA] k=k .none:=by cbv
def oq(c d f a:J)(e b:d6:=.un):Loc:=[(i4,.Y c),(fX,.Y d),(pW,.Y f),(nO,.Y a),(iB,e),(nL,b)]
theorem aaK:U (d+1) 192 [cK,v5,Bt,x_] k=cq (U d) 200 (bX 192 1) (oq cK v5 Bt x_) (cD.top k):=by cbv
theorem aaL:cq (U d) 200 (bX 192 1) (oq l_self fH sw nR) κ=b4 l_self rf λb=>iY b λa c=>forL a (eG (U d) 198 (dS (bX 192 1))) (gc (U d) 199 (bX 192 10) κ) c (oq l_self fH sw nR):=by cbv
theorem aaM:eG (U d) 198 (dS (bX 192 1)) (.tup [t0,t1]) (oq l_self fH sw nR) κ=hu 2 (methP fH uC λa=>b4 l_self fW λb=>cl d a.1 (a.2++[sw,t0,t1,nR,b]) λc=>κ.cQ (oq l_self fH sw nR (.Y t0) (.Y t1))):=by cbv
theorem aaN:eG (U d) 198 (dS (bX 192 1)) (.tup [t0,t1]) (oq l_self fH sw nR (.Y O4) (.Y qH)) κ=hu 2 (methP fH uC λa=>b4 l_self fW λb=>cl d a.1 (a.2++[sw,t0,t1,nR,b]) λc=>κ.cQ (oq l_self fH sw nR (.Y t0) (.Y t1))):=by cbv
theorem aaO:cq (U d) 199 (bX 192 10) (oq l_self fH sw nR (.Y O4) (.Y qH)) κ=κ.cQ (oq l_self fH sw nR (.Y O4) (.Y qH)):=by cbv
theorem aaP:cq (U d) 199 (bX 192 10) (oq l_self fH sw nR) κ=κ.cQ (oq l_self fH sw nR):=by cbv
theorem aaQ:U (d+1) 213 [cK,o4,e4] k=cB d (.glob 195) HS [cK,o4] λa=>ej cK jl e4 (k .none):=by cbv
theorem aaR:U (d+1) 220 [cK,cA] k=methP cA jl λa=>b4 cK jl λb=>cl d a.1 (a.2++[b,.bool ag]) λc=>k .none:=by cbv
theorem aaS:U (d+1) 239 [cK,o4,aaT,aaU] k=cB d (.glob 195) HS [cK,o4] λa=>ej cK En aaT (ej cK tu aaU (k .none)):=by cbv
theorem aaV:U (d+1) 246 [cK,cA] k=b4 cA fX λb=>methP b eQ λa=>b4 cK En λc=>cl d a.1 (a.2++[.str lx,.int 0,c]) λe=>b4 cA fX λft=>cB d ft eQ [.str qF] λf=>k .none:=by cbv
theorem aaW:U (d+1) 258 [cA,O5] k=b4 cA m1 λb=>cB d b kt [O5] λf=>methP O5 H2 λa=>b4 cA fX λc=>cl d a.1 (a.2++[c]) λe=>k .none:=by cbv
theorem aaX:U (d+1) 265 [cA] k=b4 cA m1 λb=>cB d b ic [] λe=>methP e HV λa=>b4 cA fX λc=>cl d a.1 (a.2++[c]) λf=>k .none:=by cbv
def uI(a d b:J)(c:d6:=.un):Loc:=[(o1,.Y a),(Ek,.Y d),(m1,.Y b),(OH,c),(Bp,.gl (.typ "range")),(tx,.gl (.blt "len"))]
theorem aaZ:U (d+1) 272 [cA,Ib] k=b4 cA m1 λa=>cq (U d) 199 (bX 272 10) (uI cA Ib a) (cD.top k):=by cbv
theorem aa0:cq (U d) 199 (bX 272 10) (uI cR uJ O6) κ=cl d (.blt "len") [O6] λc=>d4 .Sub c (.int 1) λa=>d4 .Sub uJ (.int 1) λft=>uz (.int 1) λe=>nv (.typ "range") [a,ft,e] λb f=>forL b (eG (U d) 197 (dS (bX 272 10))) (gc (U d) 198 (bX 272 100) κ) f (uI cR uJ O6):=by cbv
def uK(a c:J)(b:d6:=.un):Loc:=[(o1,.Y a),(Ek,.Y c),(OV,b)]
theorem aa1:U (d+1) 279 [cA,Ib] k=cq (U d) 200 (bX 279 1) (uK cA Ib) (cD.top k):=by cbv
theorem aa2:cq (U d) 200 (bX 279 1) (uK cR uJ) κ=b4 cR m1 λc=>mv c uJ .none λe=>iY e λb a=>forL b (eG (U d) 198 (dS (bX 279 1))) (gc (U d) 199 (bX 279 10) κ) a (uK cR uJ):=by cbv
def mE(g d e f h b:J)(c a:d6:=.un):Loc:=[(o1,.Y g),(fW,.Y d),(nP,.Y e),(nK,.Y f),(fX,.Y h),(Z0,.Y b),(Z6,c),(Es,a),(rd,.gl (.typ "int")),(Bp,.gl (.typ "range"))]
def aa8(d:Nat)(k:cZ)(b e c f a ft:J)(h:Bool):bT:=b6 h (cB d b uD [] λg=>cB d a eQ [.str md,.int 0,g] λi=>cq (U d) 194 (bX 286 100100) (mE b e c f a ft (.Y g)) (gc (U d) 197 (bX 286 1000) (cD.top k))) (cq (U d) 196 (bX 286 1002) (mE b e c f a ft) (gc (U d) 197 (bX 286 1000) (cD.top k)))
def aa9(d:Nat)(k:cZ)(i g b h c j:J):bT:=cl d (.typ "int") [b] λl=>d4 .Sub j l λft=>(λ(a:Bool->bT)=>cp .Gt ft (.int 0) λe=>b6 e (g6 b λf=>b6 f (a af) (a ag)) (a ag)) λm=>aa8 d k i g b h c ft m
theorem abb:U (d+1) 286 [cA,o4,dn,uL] k=b4 cA fX λa=>b4 a fW λc=>d4 .Sub c o4 λb=>aa9 d k cA o4 dn uL a b:=by cbv
theorem abd:cq (U d) 194 (bX 286 100100) (mE cR Ie dE Ig fH Bu (.Y abe)) κ=nv (.typ "range") [Bu] λa b=>forL a (eG (U d) 192 (dS (bX 286 100100))) (gc (U d) 193 (bX 286 1001000) κ) b (mE cR Ie dE Ig fH Bu (.Y abe)):=by cbv
theorem abf:cq (U d) 196 (bX 286 1002) (mE cR Ie dE Ig fH Bu) κ=nv (.typ "range") [Bu] λa b=>forL a (eG (U d) 194 (dS (bX 286 1002))) (gc (U d) 195 (bX 286 10020) κ) b (mE cR Ie dE Ig fH Bu):=by cbv
def zJ(a c:J)(b:d6:=.un):Loc:=[(o1,.Y a),(ju,.Y c),(OH,b),(Bp,.gl (.typ "range")),(tx,.gl (.blt "len")),(OM,.gl (.blt "isinstance"))]
theorem abg:U (d+1) 293 [cA,uH] k=cq (U d) 200 (bX 293 1) (zJ cA uH) (cD.top k):=by cbv
def abh(d:Nat)(κ:cD)(a b:J)(c:bT)(e:List J):bT:=forL c (eG (U d) 198 (dS (bX 293 1))) (gc (U d) 199 (bX 293 10) κ) e (zJ a b)
def abi(d:Nat)(κ:cD)(a e ft:J):bT:=uz (.int 1) λg=>uz (.int 1) λc=>nv (.typ "range") [ft,g,c] λb f=>abh d κ a e b f
theorem abj:cq (U d) 200 (bX 293 1) (zJ cR gE) κ=b4 cR m1 λa=>cl d (.blt "len") [a] λb=>d4 .Sub b (.int 1) λft=>abi d κ cR gE ft:=by cbv
def Bv(g j e:J)(b c d h i a f:d6:=.un):Loc:=[(o1,.Y g),(jl,.Y j),(nP,.Y e),(O1,b),(aav,c),(aag,d),(fX,h),(zE,i),(H3,a),(tv,f),(x7,.gl (.glob 29))]
theorem abm:U (d+1) 300 [cA,e4,dn] k=cq (U d) 200 (bX 300 1) (Bv cA e4 dn) (cD.top k):=by cbv
theorem abn:cq (U d) 200 (bX 300 1) (Bv cR hE dE) κ=b4 hE jY λa=>jC (U d) 198 (tupS (dS (bX 300 1))) a (Bv cR hE dE) λb=>cq (U d) 199 (bX 300 10) b κ:=by cbv
def abo(κ:cD)(a h c d t1 c5 b e g f:J):bT:=κ.cQ (Bv a h c (.Y d) (.Y t1) (.Y c5) (.Y b) (.Y e) (.Y g) (.Y f))
def abp(d:Nat)(κ:cD)(b i c h t1 c5 a e g f:J):bT:=cB d a j8 [g] λk=>ej a fW e (cl d (.glob 29) [b,c5,c] λl=>cB d a j8 [f] λj=>abo κ b i c h t1 c5 a e g f)
def abq(d:Nat)(κ:cD)(b i c g t1 c5 a h f e:J):bT:=cB d a eQ [.str sv,f] λj=>cl d (.glob 29) [b,t1,c] λl=>cB d a eQ [.str mZ,e] λk=>abp d κ b i c g t1 c5 a h f e
def abr(d:Nat)(κ:cD)(b i e c t1 c5 a f:J):bT:=lm 2 (hu 2 (cB d a nK [] λh=>cB d a nK [] λg=>lm 2 (hu 2 (cB d b jl [c] λj=>abq d κ b i e c t1 c5 a f h g))))
theorem abt:(jC (U d) 198 (tupS (dS (bX 300 1))) (.tup [t0,t1,c5]) (Bv cR hE dE) λc=>cq (U d) 199 (bX 300 10) c κ)=hu 3 (b4 cR fX λb=>b4 cR fX λe=>b4 e fW λa=>abr d κ cR hE dE t0 t1 c5 b a):=by cbv
def zM(h k f:J)(d e a i j b c g:d6:=.un):Loc:=[(o1,.Y h),(jl,.Y k),(nP,.Y f),(O1,d),(uB,e),(aaf,a),(fX,i),(zE,j),(zF,b),(aak,c),(tv,g),(HW,.gl (.glob 258)),(HR,.gl (.glob 146)),(x7,.gl (.glob 29)),(Ei,.gl (.glob 265))]
theorem abx:U (d+1) 307 [cA,e4,dn] k=cq (U d) 200 (bX 307 1) (zM cA e4 dn) (cD.top k):=by cbv
theorem aby:cq (U d) 200 (bX 307 1) (zM cR hE dE) κ=b4 hE jY λa=>jC (U d) 198 (tupS (dS (bX 307 1))) a (zM cR hE dE) λb=>cq (U d) 199 (bX 307 10) b κ:=by cbv
def abz(d:Nat)(κ:cD)(c g e f t1 c5 a h j i b:J)(k:Bool):bT:=b6 k (cB d a eQ [.str k4,.none] λn=>cB d a j8 [b] λl=>κ.cQ (zM c g e (.Y f) (.Y t1) (.Y c5) (.Y a) (.Y h) (.Y j) (.Y i) (.Y b))) (cB d a j8 [b] λm=>κ.cQ (zM c g e (.Y f) (.Y t1) (.Y c5) (.Y a) (.Y h) (.Y j) (.Y i) (.Y b)))
def abB(d:Nat)(κ:cD)(b k c h t1 c5 a e j f i:J):bT:=cl d (.glob 265) [b] λm=>cB d a j8 [f] λl=>ej a fW e (g6 c λg=>abz d κ b k c h t1 c5 a e j f i g)
def abC(d:Nat)(κ:cD)(a l g h t1 c5 b j f e i:J)(c:J×List J)(k:J):bT:=cl d c.1 (c.2++[k,e]) λm=>cl d (.glob 29) [a,t1,.bool ag] λn=>cB d b eQ [.str mZ,f] λo=>abB d κ a l g h t1 c5 b j f e i
def abD(d:Nat)(κ:cD)(a n f c t1 c5 b j m k h:J):bT:=cB d a jl [c] λo=>methP b eQ λg=>(λ(e:J->bT)=>g6 c5 λi=>b6 i (e (.str o2)) (e (.str sv))) λl=>abC d κ a n f c t1 c5 b j m k h g l
def abE(d:Nat)(κ:cD)(b k c h t1 c5 e g a i f:J):bT:=lm 3 (hu 3 (cB d e j8 [a] λl=>cl d (.glob 146) [g,c,a,f] λj=>cl d (.glob 258) [b,j] λm=>abD d κ b k c h t1 c5 e g a i f))
def abF(d:Nat)(κ:cD)(b j c e t1 c5 a g:J):bT:=lm 2 (hu 2 (cB d a nK [] λi=>cB d a nK [] λh=>cB d a nK [] λf=>abE d κ b j c e t1 c5 a g i h f))
theorem abG:(jC (U d) 198 (tupS (dS (bX 307 1))) (.tup [t0,t1,c5]) (zM cR hE dE) λc=>cq (U d) 199 (bX 307 10) c κ)=hu 3 (b4 cR fX λb=>b4 cR fX λe=>b4 e fW λa=>abF d κ cR hE dE t0 t1 c5 b a):=by cbv
def Eu(c f a d e g:J)(b:d6:=.un):Loc:=[(o1,.Y c),(jl,.Y f),(nP,.Y a),(fX,.Y d),(zE,.Y e),(Ek,.Y g),(OQ,b),(OL,.gl (.glob 293)),(HR,.gl (.glob 146)),(x7,.gl (.glob 29)),(H9,.gl (.glob 272)),(OO,.gl (.glob 286)),(H8,.gl (.glob 279)),(rd,.gl (.typ "int"))]
def abH(d:Nat)(k:cZ)(e b c a f g:J):bT:=cq (U d) 197 (bX 314 1000) (Eu e b c a f g) (cD.top k)
def abI(d:Nat)(k:cZ)(b c f a i e h:J):bT:=cF h (.int 0) λg=>cl d (.glob 29) [b,g] λj=>cB d a eQ [.str Eo,.str oj] λl=>abH d k b c f a i e
def abJ(d:Nat)(k:cZ)(a c e b g h i f:J):bT:=cl d (.glob 279) [a,f] λj=>cq (U d) 197 (bX 314 1000) (Eu a c e b g h (.Y i)) (cD.top k)
def abK(d:Nat)(k:cZ)(a g j f m b c e l:J):bT:=b4 c tv λh=>cl d (.glob 286) [a,e,l,h] λn=>d4 .Add b (.int 1) λi=>abJ d k a g j f m b c i
def abL(d:Nat)(k:cZ)(b f g e j l a i:J):bT:=cl d (.glob 272) [b,i] λm=>b4 a fW λc=>b4 a nP λh=>abK d k b f g e j l a c h
def abM(d:Nat)(k:cZ)(a f h e l b c g:J):bT:=b4 c nP λi=>cl d (.glob 29) [a,g,i] λm=>d4 .Add b (.int 1) λj=>abL d k a f h e l b c j
def abN(d:Nat)(k:cZ)(h a f c j b i:J):bT:=cF i b λl=>b4 a jY λg=>cF g (.int 0) λe=>abM d k h a f c j b l e
def abO(d:Nat)(k:cZ)(a b f e g:J):bT:=lm 2 (hu 2 (cl d (.glob 293) [a,.glob 146] λc=>cp .Is c .none λj=>b6 j (b4 b jY λh=>abI d k a b f e g c h) (b4 a m1 λi=>abN d k a b f e g c i)))
theorem abP:U (d+1) 314 [cA,e4,dn] k=b4 cA fX λa=>b4 cA fX λc=>b4 c fW λb=>abO d k cA e4 dn a b:=by cbv
theorem abQ:cq (U d) 197 (bX 314 1000) (Eu cR hE dE fH v8 uJ (.Y Io)) κ=cl d (.typ "int") [dE] λb=>d4 .Add v8 b λa=>ej fH fW a (κ.cQ (Eu cR hE dE fH v8 uJ (.Y Io))):=by cbv
def Ev(c f a d e g:J)(b:d6:=.un):Loc:=[(o1,.Y c),(jl,.Y f),(nP,.Y a),(fX,.Y d),(zE,.Y e),(Ek,.Y g),(OQ,b),(OL,.gl (.glob 293)),(HR,.gl (.glob 146)),(x7,.gl (.glob 29)),(H9,.gl (.glob 272)),(H8,.gl (.glob 279)),(OO,.gl (.glob 286)),(rd,.gl (.typ "int"))]
def abR(d:Nat)(k:cZ)(b c e a f g:J):bT:=cB d a eQ [.str vY] λh=>cl d (.glob 279) [b,.int 0] λi=>cq (U d) 197 (bX 321 1000) (Ev b c e a f g) (cD.top k)
def abS(d:Nat)(k:cZ)(a b f c i e h:J):bT:=cF h (.int 0) λg=>cl d (.glob 29) [a,g] λj=>cl d (.glob 272) [a,.int 0] λl=>abR d k a b f c i e
def abT(d:Nat)(k:cZ)(a e h c i b f:J):bT:=d4 .Add b (.int 1) λg=>cl d (.glob 279) [a,g] λj=>cq (U d) 197 (bX 321 1000) (Ev a e h c i b (.Y f)) (cD.top k)
def abU(d:Nat)(k:cZ)(b e g c i j a:J):bT:=b4 a fW λh=>b4 a zF λf=>cl d (.glob 286) [b,h,.bool ag,f] λl=>abT d k b e g c i j a
def abV(d:Nat)(k:cZ)(a e h c i b f g:J):bT:=cl d (.glob 29) [a,g,.bool ag] λm=>d4 .Add b (.int 1) λj=>cl d (.glob 272) [a,j] λl=>abU d k a e h c i b f
def abW(d:Nat)(k:cZ)(j a g c l b i:J):bT:=cF i b λe=>b4 a jY λh=>cF h (.int 0) λf=>abV d k j a g c l b e f
def abX(d:Nat)(k:cZ)(a b f e g:J):bT:=lm 2 (hu 2 (cl d (.glob 293) [a,.glob 146] λc=>cp .Is c .none λj=>b6 j (b4 b jY λi=>abS d k a b f e g c i) (b4 a m1 λh=>abW d k a b f e g c h)))
theorem abY:U (d+1) 321 [cA,e4,dn] k=b4 cA fX λa=>b4 cA fX λc=>b4 c fW λb=>abX d k cA e4 dn a b:=by cbv
theorem abZ:cq (U d) 197 (bX 321 1000) (Ev cR hE dE fH v8 uJ (.Y Io)) κ=cl d (.typ "int") [dE] λb=>d4 .Add v8 b λa=>ej fH fW a (κ.cQ (Ev cR hE dE fH v8 uJ (.Y Io))):=by cbv
def Ew(b e a c d:J):Loc:=[(o1,.Y b),(jl,.Y e),(nP,.Y a),(fX,.Y c),(zE,.Y d),(x7,.gl (.glob 29)),(H9,.gl (.glob 272)),(H8,.gl (.glob 279)),(rd,.gl (.typ "int"))]
def ab0(d:Nat)(k:cZ)(b c e a f:J):bT:=cB d a eQ [.str vY] λg=>cl d (.glob 279) [b,.int 0] λh=>cq (U d) 197 (bX 328 1000) (Ew b c e a f) (cD.top k)
def ab1(d:Nat)(k:cZ)(a c e b f:J):bT:=b4 a ju λh=>lm 2 (cp .In h (.tup [.str aae,.str mb]) λg=>b6 g (cl d (.glob 272) [a,.int 0] λj=>ab0 d k a c e b f) (cB d b eQ [.str Eo,.str mc] λi=>cq (U d) 197 (bX 328 1000) (Ew a c e b f) (cD.top k)))
def ab3(d:Nat)(k:cZ)(b a f c h:J):bT:=lm 2 (hu 2 (b4 a jY λe=>cF e (.int 0) λg=>cl d (.glob 29) [b,g] λi=>ab1 d k b a f c h))
theorem ab4:U (d+1) 328 [cA,e4,dn] k=b4 cA fX λa=>b4 cA fX λc=>b4 c fW λb=>ab3 d k cA e4 dn a b:=by cbv
theorem ab5:cq (U d) 197 (bX 328 1000) (Ew cR hE dE fH v8) κ=cl d (.typ "int") [dE] λb=>d4 .Add v8 b λa=>ej fH fW a (κ.cQ (Ew cR hE dE fH v8)):=by cbv
def ab6(d:Nat)(k:cZ)(a f b j l h c:J):bT:=b4 h tu λi=>cl d (.glob 286) [a,c,.bool ag,i] λn=>cl d (.glob 279) [a,l] λm=>cl d (.typ "int") [f] λe=>d4 .Add j e λg=>ej b fW g (k .none)
def ab7(d:Nat)(k:cZ)(c g e i a h:J):bT:=cF h a λb=>cl d (.glob 272) [c,a] λj=>b4 b fW λf=>ab6 d k c g e i a b f
def ab8(d:Nat)(k:cZ)(a e c g:J):bT:=lm 2 (hu 2 (cl d (.glob 293) [a,.glob 249] λb=>cp .Is b .none λh=>b6 h (λ_=>False) (b4 a m1 λf=>ab7 d k a e c g b f)))
theorem ab9:U (d+1) 335 [cA,e4,dn] k=b4 cA fX λa=>b4 cA fX λc=>b4 c fW λb=>ab8 d k cA dn a b:=by cbv
def aca(d:Nat)(k:cZ)(e ft f b h g:J):bT:=cB d g uC [ft,.str vX,b] λi=>cl d (.typ "int") [e] λa=>d4 .Add f a λc=>ej ft fW c (cB d ft j8 [h] λj=>k .none)
def acd(d:Nat)(k:cZ)(h c g ft e a i f b:J):bT:=cB d h jl [g,.bool ag] λj=>cB d ft eQ [.str lx,.int 0,b] λl=>cB d ft eQ [.str tu] λm=>aca d k c ft e a i f
def ace(d:Nat)(k:cZ)(c f g ft b e i h:J):bT:=d4 .Add b (.int 1) λj=>ej ft fW j (cB d c uD [] λa=>cB d ft eQ [.str md,.int 0,a] λl=>acd d k c f g ft b e i h a)
def acf(d:Nat)(k:cZ)(b f c ft g a e h:J):bT:=cB d b jl [c,.bool ag] λl=>cB d ft eQ [.str mZ,e] λi=>cB d ft j8 [a] λj=>ace d k b f c ft g a e h
def acg(d:Nat)(k:cZ)(a f b h ft g e i c:J):bT:=cl d (.glob 258) [a,c] λm=>cl d (.glob 349) [a,f,b] λl=>cl d (.glob 265) [a] λj=>acf d k a b h ft g e i c
def ach(d:Nat)(k:cZ)(g e f b ft a:J):bT:=lm 2 (hu 2 (cB d ft nK [] λc=>cB d ft nK [] λi=>lm 2 (hu 2 (cl d (.glob 223) [a,b] λh=>acg d k g e f b ft a c i h))))
def aci(d:Nat)(k:cZ)(a b c g:J)(c2:Bool):bT:=b6 c2 (cl d (.glob 349) [a,b,c] λh=>k .none) (b4 a fX λft=>b4 a fX λf=>b4 f fW λe=>ach d k a b c g ft e)
theorem Pc:U (d+1) 342 [cA,e4,dn] k=b4 e4 jY λb=>cF b (.int 3) λa=>cp .Is a .none λc2=>aci d k cA e4 dn a c2:=by cbv
def Ey(j m h:J)(e g b a k l d c i f:d6:=.un):Loc:=[(o1,.Y j),(jl,.Y m),(nP,.Y h),(uB,e),(Er,g),(aai,b),(vX,a),(fX,k),(zE,l),(tu,d),(nO,c),(tv,i),(OV,f),(tx,.gl (.blt "len")),(x7,.gl (.glob 29)),(ZK,.gl (.glob 195)),(HW,.gl (.glob 258)),(Ei,.gl (.glob 265)),(ZX,.gl (.glob 356)),(ZH,.gl (.glob 249)),(rd,.gl (.typ "int"))]
theorem Pd:U (d+1) 349 [cA,e4,dn] k=cq (U d) 200 (bX 349 1) (Ey cA e4 dn) (cD.top k):=by cbv
theorem Pe:cq (U d) 200 (bX 349 1) (Ey cR hE dE) κ=b4 hE jY λa=>jC (U d) 198 (tupS (dS (bX 349 1))) a (Ey cR hE dE) λb=>cq (U d) 199 (bX 349 10) b κ:=by cbv
def tE(l j c i h m e f n:J)(g a d k b o:d6:=.un):Loc:=[(o1,.Y l),(Er,.Y j),(Z4,.Y c),(nP,.Y i),(tv,.Y h),(fX,.Y m),(H7,.Y e),(nJ,.Y f),(aaj,.Y n),(HU,g),(nO,a),(uB,d),(Bn,k),(OK,b),(OP,o),(ZW,.gl (.glob 363)),(HW,.gl (.glob 258)),(x7,.gl (.glob 29)),(Ei,.gl (.glob 265))]
def aco(d:Nat)(k:cZ)(i c e f g a h b j:J):bT:=cB d a eQ [.str sq] λm=>cB d a eQ [.str md,.int 0,b] λl=>cq (U d) 194 (bX 356 1000000) (tE i c e f g a h b j) (cD.top k)
def acp(d:Nat)(k:cZ)(i c e f g a b h:J):bT:=cB d a nK [] λj=>lm 3 (hu 3 (cB d a eQ [.str md,.int 0,b] λl=>cB d a eQ [.str lx,.int 0,b] λm=>aco d k i c e f g a b h j))
theorem acq:U (d+1) 356 [cA,BC,BD,dn,x8] k=b4 cA fX λb=>cB d cA uD [] λa=>cB d cA uD [] λc=>acp d k cA BC BD dn x8 b a c:=by cbv
theorem acr:cq (U d) 194 (bX 356 1000000) (tE cR fR kN dE lR fH d0 ku me) κ=iY fR λa b=>forL a (eG (U d) 192 (dS (bX 356 1000000))) (gc (U d) 193 (bX 356 10000000) κ) b (tE cR fR kN dE lR fH d0 ku me):=by cbv
def acs(d:Nat)(κ:cD)(b h e c f i a k j g t1 c5 m l:J):bT:=cq (U d) 182 (bX 356 100000030000000000) (tE b h e c f i a k j (.Y g) (.Y t1) (.Y c5) (.Y m) (.Y l)) κ
def act(d:Nat)(κ:cD)(a m g f l c e b j i t1 c5 h k:J):bT:=cp .IsNot t1 .none λn=>b6 n (cB d c eQ [.str lx,.int 0,b] λp=>cB d a aaq [t1] λo=>acs d κ a m g f l c e b j i t1 c5 h k) (cq (U d) 182 (bX 356 100000030000000000) (tE a m g f l c e b j (.Y i) (.Y t1) (.Y c5) (.Y h) (.Y k)) κ)
def acu(d:Nat)(κ:cD)(b m c g l a f e j i t1 c5 h k:J):bT:=cB d a eQ [.str lx,.int 0,e] λp=>cB d a eQ [.str qF] λo=>cl d (.glob 258) [b,c] λn=>act d κ b m c g l a f e j i t1 c5 h k
def acv(d:Nat)(κ:cD)(f o a g n b e j l i t1 c5 h m:J):bT:=methP b eQ λc=>b4 a En λk=>cl d c.1 (c.2++[.str md,.int 0,k]) λp=>acu d κ f o a g n b e j l i t1 c5 h m
def acw(d:Nat)(κ:cD)(f m h g l a e j k i t1 c5 b c:J):bT:=cB d a eQ [.str mZ,c] λo=>cB d a j8 [b] λp=>cB d a eQ [.str pV,.str uG] λn=>acv d κ f m h g l a e j k i t1 c5 b c
theorem acx:eG (U d) 192 (dS (bX 356 1000000)) (.tup [t0,t1,c5]) (tE cR fR kN dE lR fH d0 ku me) κ=hu 3 (cB d fH nK [] λa=>cB d fH nK [] λb=>lm 2 (hu 2 (cl d (.glob 363) [cR,t0,ku,a] λc=>acw d κ cR fR kN dE lR fH d0 ku me t0 t1 c5 a b))):=by cbv
def acy(κ:cD)(c h f e g a b l i j d k o m n:J):bT:=ej a fW n (κ.cQ (tE c h f e g a b l i (.Y j) (.Y d) (.Y k) (.Y o) (.Y m)))
def acz(d:Nat)(κ:cD)(g o b i e a f l m j h n p c:J):bT:=cB d a eQ [.str mZ,e] λr=>cB d a j8 [c] λq=>b4 b fW λk=>acy κ g o b i e a f l m j h n p c k
theorem acA:cq (U d) 182 (bX 356 100000030000000000) (tE cR fR kN dE lR fH d0 ku me (.Y p0) (.Y nR) (.Y m2) (.Y lS) (.Y iF)) κ=cl d (.glob 29) [cR,m2,dE] λc=>cl d (.glob 265) [cR] λa=>cB d kN Ej [cR] λb=>acz d κ cR fR kN dE lR fH d0 ku me p0 nR m2 lS iF:=by cbv
def rm(e c b f a:J)(d:d6:=.un):Loc:=[(o1,.Y e),(HU,.Y c),(nJ,.Y b),(Bn,.Y f),(fX,.Y a),(El,d),(tx,.gl (.blt "len")),(aar,.gl (.glob 44)),(aat,.gl (.glob 370))]
def acB(d:Nat)(k:cZ)(f e c b a:J):bT:=cq (U d) 198 (bX 363 100) (rm f e c b a) (cD.top k)
def acC(d:Nat)(k:cZ)(e f c b a:J)(c2:Bool):bT:=b6 c2 (cB d a eQ [.str ma,.str OE] λh=>cl d (.glob 44) [e,c] λg=>cB d a eQ [.str o2,b] λi=>acB d k e f c b a) (cq (U d) 198 (bX 363 100) (rm e f c b a) (cD.top k))
theorem acD:U (d+1) 363 [cA,yh,uQ,tF] k=b4 cA fX λb=>cl d (.blt "len") [yh] λa=>cp .Eq a (.int 0) λc2=>acC d k cA yh uQ tF b c2:=by cbv
theorem acE:cq (U d) 198 (bX 363 100) (rm cR p0 ku lS fH) κ=iY p0 λa b=>forL a (eG (U d) 196 (dS (bX 363 100))) (gc (U d) 197 (bX 363 1000) κ) b (rm cR p0 ku lS fH):=by cbv
theorem acF:U (d+1) 370 [cA,Iw,Br,tF] k=b4 Iw ju λa=>cp .Eq a (.str uF) λc1=>b6 c1 (b4 Iw jY λc=>cF c (.int 0) λe=>cl d (.glob 377) [cA,e,Br,tF] λh=>k .none) (cB d cA jl [Iw] λf=>cl d (.glob 44) [cA,Br] λg=>b4 cA fX λb=>cB d b eQ [.str o2,tF] λi=>k .none):=by cbv
def acG(b c:J)(a:d6:=.un):Loc:=[(nM,.Y b),(Bn,.Y c),(El,a),(OM,.gl (.blt "isinstance")),(ZJ,.gl (.glob 515)),(aal,.gl (.glob 543))]
theorem acH:U (d+1) 543 [uR] k=cp .Is uR .none λa=>b6 a (lm 0 (eX (.list []) λb=>k b)) (lm 0 (eX (.list []) λc=>cq (U d) 198 (bX 543 100) (acG uR c) (cD.top k))):=by cbv
theorem acI:U (d+1) 560 [cK,m3,p1,tG,v9,acJ] k=ej cK hR m3 (ej cK lu p1 (ej cK uA tG (ej cK x3 v9 (ej cK oo acJ (k .none))))):=by cbv
theorem acK:U (d+1) 567 [cK,x_] k=b4 cK hR λa=>b4 cK uA λb=>b4 cK x3 λf=>b4 cK oo λc=>cl d (.glob 570) [a,x_,b,f,c] λe=>k e:=by cbv
theorem Pg:U (d+1) 588 [cK,Bt,Ix,Iy,x_,Iz] k=ej cK pW Bt (ej cK iB Ix (ej cK nL Iy (ej cK nO x_ (ej cK pT Iz (k .none))))):=by cbv
theorem acL:U (d+1) 616 [cK,uH,nQ,uR,IA,acM,acN,acO,acP] k=ej cK ju uH (ej cK vZ nQ (ej cK nM uR (ej cK Bq IA (ej cK ly acM (ej cK om acN (ej cK sr acO (ej cK rg acP (ej cK HZ .none (k .none))))))))):=by cbv
theorem acQ:U (d+1) 651 [cK] k=ej cK j8 .none (k .none):=by cbv
theorem acR:U (d+1) 658 [cK] k=b4 cK j8 λa=>cp .Is a .none λc1=>b6 c1 (λ_=>False) (b4 cK j8 λb=>k b):=by cbv
theorem Ph:U (d+1) 672 [IB] k=(λ(a:J->bT)=>cl d (.blt "isinstance") [IB,.glob 661] λc=>g6 c λb=>b6 b (cB d IB mC [] λe=>a e) (a IB)) λf=>k f:=by cbv
theorem acS:U (d+1) 686 [cK] k=lm 0 (eX (.list []) λe=>ej cK ly e (lm 0 (eX (.list []) λa=>ej cK om a (lm 0 (eX (.list []) λc=>ej cK sr c (lm 0 (eX (.list []) λb=>ej cK rg b (ej cK oo (.int 0) (ej cK fW (.int 0) (k .none)))))))))):=by cbv
def Ez(b d e f c h:J)(g a:d6:=.un):Loc:=[(i4,.Y b),(hR,.Y d),(lu,.Y e),(uA,.Y f),(x3,.Y c),(OX,.Y h),(aas,g),(mC,a),(ZL,.gl (.glob 570)),(ZZ,.gl (.glob 878)),(tx,.gl (.blt "len"))]
theorem acY:U (d+1) 694 [cK,m3,p1,tG,v9] k=b4 cK oo λb=>cl d (.glob 570) [m3,p1,tG,v9,b] λa=>b4 cK ly λc=>cB d c kt [a] λe=>cq (U d) 198 (bX 694 100) (Ez cK m3 p1 tG v9 a) (cD.top k):=by cbv
theorem IE:U (d+1) 694 [cK,m3,p1,tG] k=U (d+1) 694 [cK,m3,p1,tG,.none] k:=by cbv
theorem Pi:U (d+1) 694 [cK,m3,p1] k=U (d+1) 694 [cK,m3,p1,.none,.none] k:=by cbv
theorem acZ:U (d+1) 694 [cK,m3] k=U (d+1) 694 [cK,m3,.none,.none,.none] k:=by cbv
theorem ac0:cq (U d) 198 (bX 694 100) (Ez l_self Pj Pk Pl Pm jm) κ=cl d (.glob 878) [jm] λb=>jC (U d) 196 (tupS (dS (bX 694 100))) b (Ez l_self Pj Pk Pl Pm jm) λa=>cq (U d) 197 (bX 694 1000) a κ:=by cbv
theorem ac1:(jC (U d) 196 (tupS (dS (bX 694 100))) (.tup [t0,t1]) (Ez l_self Pj Pk Pl Pm jm) λg=>cq (U d) 197 (bX 694 1000) g κ)=hu 2 (b4 l_self fW λa=>d4 .Sub a t0 λh=>d4 .Add h t1 λe=>ej l_self fW e (b4 l_self ly λb=>cl d (.blt "len") [b] λf=>d4 .Sub f (.int 1) λc=>κ.ef c)):=by cbv
theorem ac3:U (d+1) 701 [cK] k=cl d (.glob 661) [] λa=>k a:=by cbv
theorem ac4:U (d+1) 708 [cK,uL] k=b4 uL j8 λa=>cp .IsNot a .none λc1=>b6 c1 (λ_=>False) (b4 cK ly λb=>cl d (.blt "len") [b] λc=>ej uL j8 c (k .none)):=by cbv
theorem ac5:U (d+1) 722 [cK,Bt,Ix,Iy,x_,Iz] k=b4 cK om λb=>methP b kt λa=>cl d (.glob 598) [Bt,Ix,Iy,x_,Iz] λc=>cl d a.1 (a.2++[c]) λe=>k .none:=by cbv
def uS(c d e a f h i:J)(j k b g:d6:=.un):Loc:=[(i4,.Y c),(ju,.Y d),(vZ,.Y e),(nM,.Y a),(Bq,.Y f),(ly,.Y h),(om,.Y i),(OT,j),(iB,k),(nL,b),(rg,g),(aam,.gl (.glob 672)),(ZF,.gl (.glob 598)),(tx,.gl (.blt "len")),(ZG,.gl (.glob 633))]
theorem ac9:U (d+1) 727 [cK,uH,nQ,uR,IA] k=b4 cK ly λo=>iY o λh e=>oi e (ix h (λa m=>(λ(b:J->bT)=>b4 a hR λf=>cp .In f (.tup [.str mZ,.str o2,.str sv,.str Em]) λp=>b6 p (methP a H' λc=>b4 a lu λn=>cl d (.glob 672) [n] λg=>cl d c.1 (c.2++[g]) λq=>b q) (b a)) λi=>m (ae i)) (λj=>lm 0 (eX (.list []) λl=>cq (U d) 198 (bX 727 100) (uS cK uH nQ uR IA (.lst j) l) (cD.top k))) e []):=by cbv
theorem ada:cq (U d) 198 (bX 727 100) (uS l_self gE iG p2 fh p3 o9) κ=b4 l_self om λb=>iY b λa c=>forL a (eG (U d) 196 (dS (bX 727 100))) (gc (U d) 197 (bX 727 1000) κ) c (uS l_self gE iG p2 fh p3 o9):=by cbv
def adb(κ:cD)(l_self b e a h c d v g f:J):bT:=κ.cQ (uS l_self b e a h c d (.Y v) (.Y g) (.Y f))
def adc(d:Nat)(κ:cD)(l_self h k g n i j v c b:J)(a:J×List J)(l e:J):bT:=b4 v pT λf=>cl d (.glob 598) [l,c,b,e,f] λm=>cl d a.1 (a.2++[m]) λo=>adb κ l_self h k g n i j v c b
def ade(d:Nat)(κ:cD)(l_self f i c m g h v k j:J)(e:J×List J):bT:=b4 v pW λl=>b4 v nO λa=>cl d (.glob 672) [a] λb=>adc d κ l_self f i c m g h v k j e l b
def adf(d:Nat)(κ:cD)(l_self f h e i g a v c l:J):bT:=cl d (.glob 672) [l] λb=>lm 2 (hu 2 (cp .Lt c b λj=>b6 j (methP a kt λk=>ade d κ l_self f h e i g a v c b k) (κ.cQ (uS l_self f h e i g a (.Y v) (.Y c) (.Y b)))))
theorem adg:eG (U d) 196 (dS (bX 727 100)) v (uS l_self gE iG p2 fh p3 o9) κ=b4 v iB λb=>cl d (.glob 672) [b] λa=>b4 v nL λc=>adf d κ l_self gE iG p2 fh p3 o9 v a c:=by cbv
theorem adh:cq (U d) 197 (bX 727 1000) (uS l_self gE iG p2 fh p3 o9) κ=(λ(a:J->bT)=>b4 l_self rg λm=>cl d (.blt "len") [m] λn=>cp .Gt n (.int 0) λo=>b6 o (b4 l_self rg λh=>iY h λe b=>oi b (ix e (λf l=>cl d (.glob 672) [f] λi=>l (ae i)) (λg=>a (.lst g)) b [])) (lm 1 (a (.lst [.int 0])))) λk=>b4 l_self sr λj=>cl d (.glob 633) [gE,iG,p2,fh,p3,o9,j,k] λc=>κ.ef c:=by cbv
theorem adl:U (d+1) 741 [zH] k=(λ(a:J->bT)=>uz (.int 1) λc=>cp .Eq zH c λe=>b6 e (a (.int 1)) (a zH)) λb=>k b:=by cbv
theorem adn:U (d+1) 748 [v_] k=(λ(a:J->bT)=>cp .Eq v_ (.str OW) λc2=>b6 c2 (a (.int 1)) (a (.int 0))) λb=>k b:=by cbv
theorem ado:U (d+1) 762 [yk] k=b4 yk lu λa=>lm 2 (k (.tup [a,.int 1])):=by cbv
theorem adp:U (d+1) 776 [yk] k=b4 yk uA λa=>cl d (.glob 741) [a] λf=>d4 .Add (.int 1) f λg=>b4 yk x3 λb=>cF b (.int 1) λe=>cl d (.glob 748) [e] λh=>d4 .Add g h λc=>lm 2 (k (.tup [c,.int 1])):=by cbv
theorem II:U (d+1) 878 [yk] k=b4 yk hR λc=>cF w' c λa=>(λ(b:J->bT)=>cl d (.blt "isinstance") [a,.typ "tuple"] λf=>g6 f λh=>b6 h (b a) (cl d a [yk] λe=>b e)) λg=>k g:=by cbv
def BI(d c b:J)(a:d6:=.un):Loc:=[(i4,.Y d),(uE,.Y c),(Ep,.Y b),(vZ,a)]
theorem adt:U (d+1) 893 [cK,adu,IJ] k=lm 0 (eX (.list []) λa=>ej cK uE a (cq (U d) 199 (bX 893 10) (BI cK adu IJ) (cD.top k))):=by cbv
theorem adv:cq (U d) 199 (bX 893 10) (BI l_self EA EB) κ=iY EA λa b=>forL a (eG (U d) 197 (dS (bX 893 10))) (gc (U d) 198 (bX 893 100) κ) b (BI l_self EA EB):=by cbv
theorem adw:cq (U d) 198 (bX 893 100) (BI l_self EA EB) κ=ej l_self Ep EB (κ.cQ (BI l_self EA EB)):=by cbv
theorem adx:U (d+1) 900 [cK,nQ] k=b4 cK uE λa=>cB d a kt [nQ] λe=>b4 cK uE λb=>cl d (.blt "len") [b] λc=>d4 .Sub c (.int 1) λft=>k ft:=by cbv
theorem ady:U (d+1) 930 [cK,IK,uH,uR,adz,IJ] k=ej cK rh IK (ej cK ju uH (ej cK nM uR (cl d (.glob 730) [] λg=>ej cK fX g (cl d (.glob 543) [uR] λe=>cl d (.typ "list") [adz] λb=>d4 .Add e b λa=>cl d (.glob 910) [a,IJ] λc=>ej cK tA c (lm 0 (eX (.list []) λf=>ej cK m1 f (k .none))))))):=by cbv
theorem adA:U (d+1) 930 [cK,IK] k=U (d+1) 930 [cK,IK,.str mb,.none,.tup [],.none] k:=by cbv
theorem IL:U (d+1) 938 [cK,m3,p1,tG,v9] k=b4 cK fX λb=>cB d b eQ [m3,p1,tG,v9] λa=>k a:=by cbv
theorem Po:U (d+1) 938 [cK,m3,p1] k=U (d+1) 938 [cK,m3,p1,.none,.none] k:=by cbv
theorem adB:U (d+1) 938 [cK,m3] k=U (d+1) 938 [cK,m3,.none,.none,.none] k:=by cbv
theorem adC:U (d+1) 946 [cK,hM,m3,p1,tG,v9] k=b4 hM oo λa=>b4 cK fX λe=>ej e oo a (b4 cK fX λb=>cB d b eQ [m3,p1,tG,v9] λc=>k c):=by cbv
def adD(d:Nat)(k:cZ)(b a g:J)(c2:Bool):bT:=b6 c2 (λ_=>False) (b4 a oo λe=>b4 b fX λft=>ej ft oo e (b4 b rh λh=>b4 a ju λf=>cF h f λc=>cl d c [b,a,g] λi=>k .none))
theorem adE:U (d+1) 954 [cK,hM,dn] k=b4 hM ju λa=>b4 cK rh λb=>cp .NotIn a b λc2=>adD d k cK hM dn c2:=by cbv
theorem BJ:U (d+1) 954 [cK,hM] k=U (d+1) 954 [cK,hM,.bool af] k:=by cbv
theorem Pp:U (d+1) 962 [cK,hM,dn] k=cp .IsNot hM .none λa=>b6 a (cB d cK jl [hM,dn] λc=>k .none) (g6 dn λc2=>b6 c2 (cB d cK eQ [.str k4,.none] λb=>k .none) (k .none)):=by cbv
theorem adF:U (d+1) 962 [cK,hM] k=U (d+1) 962 [cK,hM,.bool af] k:=by cbv
theorem Pq:U (d+1) 969 [cK,dn] k=g6 dn λa=>b6 (!a) (cB d cK eQ [.str ic] λb=>k .none) (k .none):=by cbv
theorem adG:U (d+1) 983 [cK] k=b4 cK tA λb=>methP b ZR λa=>b4 cK tA λh=>b4 h uE λe=>cl d (.blt "len") [e] λg=>cl d (.typ "str") [g] λi=>d4 .Add (.str O2) i λf=>cl d a.1 (a.2++[f]) λc=>k c:=by cbv
def nS(b e a f:J)(c d:d6:=.un):Loc:=[(i4,.Y b),(OS,.Y e),(OI,.Y a),(Z7,.Y f),(zG,c),(Z9,d)]
theorem adJ:U (d+1) 1004 [cK,yl] k=lm 2 (hu 2 (cq (U d) 199 (bX 1004 10) (nS cK yl (.int 0) (.bool ag)) (cD.top k))):=by cbv
theorem adK:cq (U d) 199 (bX 1004 10) (nS l_self jJ lA rn) κ=iY jJ λa b=>forL a (eG (U d) 197 (dS (bX 1004 10))) (gc (U d) 198 (bX 1004 100) κ) b (nS l_self jJ lA rn):=by cbv
def adL(d:Nat)(κ:cD)(l_self c b a v:J):bT:=g6 a λf=>b6 f (cB d l_self eQ [.str kt] λg=>cq (U d) 193 (bX 1004 103100) (nS l_self c b a (.Y v)) (gc (U d) 196 (bX 1004 1030) κ)) (Dh .Add b (.int 1) λe=>cq (U d) 193 (bX 1004 103100) (nS l_self c e a (.Y v)) (gc (U d) 196 (bX 1004 1030) κ))
def adM(d:Nat)(κ:cD)(l_self c b v a:J):bT:=cB d l_self eQ [.str OZ] λg=>g6 a λe=>b6 e (cB d l_self eQ [.str ON] λf=>κ.cQ (nS l_self c b (.bool af) (.Y v) (.Y a))) (κ.cQ (nS l_self c b (.bool af) (.Y v) (.Y a)))
def adO(d:Nat)(κ:cD)(l_self c b v f:J)(a:J×List J):bT:=b4 v jY λg=>cF g (.int 0) λe=>cl d a.1 (a.2++[e]) λh=>adM d κ l_self c b v f
def adQ(d:Nat)(κ:cD)(l_self c b v a:J):bT:=g6 a λe=>b6 e (cB d l_self eQ [.str ON] λf=>κ.cQ (nS l_self c b (.bool af) (.Y v) (.Y a))) (κ.cQ (nS l_self c b (.bool af) (.Y v) (.Y a)))
def adS(d:Nat)(κ:cD)(l_self c b v f:J)(a:J×List J)(g:J):bT:=cF g (.int 0) λe=>cl d a.1 (a.2++[e]) λh=>cB d l_self eQ [.str OZ] λi=>adQ d κ l_self c b v f
def adU(d:Nat)(κ:cD)(l_self e a l v c:J):bT:=(λ(b:Bool->bT)=>g6 c λg=>b6 g (g6 l λh=>b6 (!h) (b af) (b ag)) (b ag)) λj=>b6 j (cB d l_self eQ [.str re,a] λm=>methP l_self jl λi=>adO d κ l_self e a v c i) (methP l_self jl λf=>b4 v jY λk=>adS d κ l_self e a v c f k)
theorem adV:eG (U d) 197 (dS (bX 1004 10)) v (nS l_self jJ lA rn) κ=b4 v ju λb=>cp .NotEq b (.str uF) λc=>b6 c (cB d l_self jl [v] λh=>adL d κ l_self jJ lA rn v) ((λ(a:J->bT)=>g6 rn λg=>b6 g (a rn) (cp .Gt lA (.int 0) λe=>a (.bool e))) λf=>adU d κ l_self jJ lA rn v f):=by cbv
def zP(c a:J)(b:d6:=.un):Loc:=[(i4,.Y c),(OS,.Y a),(zG,b),(Z5,.gl (.glob 1095)),(tx,.gl (.blt "len"))]
theorem adX:U (d+1) 1011 [cK,yl] k=cl d (.glob 1095) [yl] λb=>g6 b λc1=>b6 c1 (cB d cK HY [yl] λc=>uz (.int 1) λa=>k a) (cq (U d) 199 (bX 1011 10) (zP cK yl) (cD.top k)):=by cbv
theorem adY:cq (U d) 199 (bX 1011 10) (zP l_self jJ) κ=iY jJ λa b=>forL a (eG (U d) 197 (dS (bX 1011 10))) (gc (U d) 198 (bX 1011 100) κ) b (zP l_self jJ):=by cbv
theorem adZ:eG (U d) 197 (dS (bX 1011 10)) v (zP l_self jJ) κ=cB d l_self jl [v] λa=>κ.cQ (zP l_self jJ (.Y v)):=by cbv
theorem ad0:cq (U d) 198 (bX 1011 100) (zP l_self jJ (.Y l_tree)) κ=cl d (.blt "len") [jJ] λa=>κ.ef a:=by cbv
def ad1(c d:J)(a b:d6:=.un):Loc:=[(i4,.Y c),(x2,.Y d),(nM,a),(uB,b)]
def ad2(d:Nat)(k:cZ)(c b:J)(c2:Bool):bT:=b6 c2 (methP c jl λa=>b4 b jY λft=>cF ft (.int 0) λe=>cl d a.1 (a.2++[e]) λf=>k (.str OW)) (cq (U d) 198 (bX 1026 100) (ad1 c b) (cD.top k))
theorem ad3:U (d+1) 1026 [cK,v_] k=cp .Is v_ .none λa=>b6 a (k .none) (b4 v_ ju λb=>cp .Eq b (.str ZU) λc2=>ad2 d k cK v_ c2):=by cbv
def ad4(c:J)(b a:d6:=.un):Loc:=[(i4,.Y c),(vZ,b),(gV,a),(tx,.gl (.blt "len"))]
def ad5(d:Nat)(a:Bool->bT)(ft:J):bT:=b4 ft aah λe=>cl d (.blt "len") [e] λc=>cp .Eq c (.int 0) λb=>b6 b (a af) (a ag)
theorem ad6:U (d+1) 1033 [cK] k=(λ(a:Bool->bT)=>b4 cK nM λc=>cp .Is c .none λb=>b6 b (a af) (b4 cK nM λft=>ad5 d a ft)) λc1=>b6 c1 (k .none) (cq (U d) 199 (bX 1033 10) (ad4 cK) (cD.top k)):=by cbv
def ad7(d:Nat)(k:cZ)(b c g:J)(a:J×List J):bT:=b4 b nM λf=>b4 b tA λe=>b4 e uE λh=>cl d a.1 (a.2++[g,c,f,h]) λi=>k i
def ad8(d:Nat)(k:cZ)(a f:J):bT:=(λ(b:J->bT)=>b4 a ju λi=>cp .In i (.tup [.str x2,.str aac]) λj=>b6 j (b (.str x2)) (b4 a ju λg=>b g)) λh=>b4 a fX λc=>methP c tv λe=>ad7 d k a f h e
theorem ad9:U (d+1) 1047 [cK,aea,nQ] k=cB d cK OJ [] λc=>cB d cK uB [aea] λa=>cB d cK eQ [.str vY] λb=>ad8 d k cK nQ:=by cbv
theorem aeb:U (d+1) 1095 [yl] k=iY yl λg c=>oi c (ix g (λa b=>b4 a ju λi=>cp .Eq i (.str uF) λj=>b6 j (b (ae a)) (b ah)) (λe=>cl d (.blt "len") [.lst e] λf=>cp .Gt f (.int 0) λh=>k (.bool h)) c []):=by cbv
theorem aec:U (d+1) 1102 [cA,kK,dn] k=g6 dn λa=>b6 a (cB d cA eQ [.str k4,kK] λb=>k .none) (k .none):=by cbv
theorem aed:U (d+1) 1109 [cA,hM,dn] k=b4 hM jY λb=>cF b (.int 0) λa=>cl d (.glob 1102) [cA,a,dn] λc=>k .none:=by cbv
theorem aee:U (d+1) 1116 [cA,hM,dn] k=methP cA HY λa=>b4 hM jY λb=>cF b (.int 0) λc=>cl d a.1 (a.2++[c]) λf=>cB d cA mC [dn] λe=>k .none:=by cbv
theorem aef:U (d+1) 1123 [cA,hM,dn] k=g6 dn λb=>b6 b (methP cA eQ λa=>b4 hM jY λc=>cF c (.int 0) λe=>cl d a.1 (a.2++[.str pV,e]) λf=>k .none) (k .none):=by cbv
def wa(e b d:J)(a c:d6:=.un):Loc:=[(o1,.Y e),(zG,.Y b),(nP,.Y d),(tA,a),(vZ,c)]
theorem aeh:U (d+1) 1130 [cA,hM,dn] k=cq (U d) 200 (bX 1130 1) (wa cA hM dn) (cD.top k):=by cbv
theorem aei:cq (U d) 200 (bX 1130 1) (wa cR l_tree dE) κ=b4 l_tree jY λa=>jC (U d) 198 (tupS (dS (bX 1130 1))) a (wa cR l_tree dE) λb=>cq (U d) 199 (bX 1130 10) b κ:=by cbv
theorem aej:(jC (U d) 198 (tupS (dS (bX 1130 1))) (.tup [t0,t1]) (wa cR l_tree dE) λb=>cq (U d) 199 (bX 1130 10) b κ)=hu 2 (cp .Is t0 .none λa=>b6 a (cB d cR eQ [.str ma,t1] λf=>cq (U d) 198 (bX 1130 100) (wa cR l_tree dE (.Y t0) (.Y t1)) κ) (cB d cR jl [t0] λc=>cB d cR Bo [l_tree,.str Z2,t1] λe=>cq (U d) 198 (bX 1130 100) (wa cR l_tree dE (.Y t0) (.Y t1)) κ)):=by cbv
theorem aek:cq (U d) 198 (bX 1130 100) (wa cR l_tree dE (.Y ael) (.Y iG)) κ=cB d cR mC [dE] λa=>κ.cQ (wa cR l_tree dE (.Y ael) (.Y iG)):=by cbv
def uX(d a b e:J)(c:d6:=.un):Loc:=[(o1,.Y d),(zG,.Y a),(nP,.Y b),(Z8,.Y e),(El,c),(tx,.gl (.blt "len"))]
theorem IS:U (d+1) 1137 [cA,hM,dn] k=b4 hM jY λb=>cF b (.int 0) λa=>cq (U d) 199 (bX 1137 10) (uX cA hM dn a) (cD.top k):=by cbv
def aen(d:Nat)(κ:cD)(a l_tree b f:J)(c:bT)(e:List J):bT:=forL c (eG (U d) 197 (dS (bX 1137 10))) (gc (U d) 198 (bX 1137 100) κ) e (uX a l_tree b f)
theorem IT:cq (U d) 199 (bX 1137 10) (uX cR l_tree dE zQ) κ=uz (.int 1) λc=>mv zQ .none c λe=>iY e λb a=>aen d κ cR l_tree dE zQ b a:=by cbv
theorem aeo:eG (U d) 197 (dS (bX 1137 10)) v (uX cR l_tree dE zQ) κ=cB d cR jl [v,.bool ag] λa=>κ.cQ (uX cR l_tree dE zQ (.Y v)):=by cbv
def uY(j d i:J)(k h f g l e a b c:d6:=.un):Loc:=[(o1,.Y j),(zG,.Y d),(nP,.Y i),(aan,k),(vZ,h),(ZS,f),(x2,g),(aao,l),(Ei,e),(OI,a),(mC,b),(ju,c)]
theorem aet:U (d+1) 1144 [cA,hM,dn] k=cq (U d) 200 (bX 1144 1) (uY cA hM dn) (cD.top k):=by cbv
theorem aeu:cq (U d) 200 (bX 1144 1) (uY cR l_tree dE) κ=b4 l_tree jY λa=>jC (U d) 198 (tupS (dS (bX 1144 1))) a (uY cR l_tree dE) λb=>cq (U d) 199 (bX 1144 10) b κ:=by cbv
def aev(d:Nat)(κ:cD)(a l_tree c b t1 c5 e jU f:J)(g:Bool):bT:=b6 g (cB d a eQ [.str i4] λi=>cq (U d) 197 (bX 1144 1000) (uY a l_tree c (.Y b) (.Y t1) (.Y c5) (.Y e) (.Y jU) (.Y f)) κ) (cB d a jl [b] λh=>cq (U d) 197 (bX 1144 1000) (uY a l_tree c (.Y b) (.Y t1) (.Y c5) (.Y e) (.Y jU) (.Y f)) κ)
theorem aew:(jC (U d) 198 (tupS (dS (bX 1144 1))) (.tup [t0,t1,c5,t3,jU]) (uY cR l_tree dE) λe=>cq (U d) 199 (bX 1144 10) e κ)=hu 5 (b4 cR fX λc=>cB d c nK [] λa=>cp .Is t0 .none λb=>aev d κ cR l_tree dE t0 t1 c5 t3 jU a b):=by cbv
def aex(d:Nat)(κ:cD)(a l_tree b j g c e i h f k l:J):bT:=cB d a mC [b] λm=>κ.cQ (uY a l_tree b (.Y j) (.Y g) (.Y c) (.Y e) (.Y i) (.Y h) (.Y f) (.Y k) (.Y l))
def aey(d:Nat)(κ:cD)(a l_tree i n e j l m f b g h:J)(c:J×List J):bT:=lm 2 (cl d c.1 (c.2++[l_tree,.str qE,e,b,.tup [h,g]]) λo=>b4 a fX λk=>cB d k j8 [f] λp=>aex d κ a l_tree i n e j l m f b g h)
def aez(d:Nat)(κ:cD)(a l_tree g c l s e j i k:J):bT:=cB d a x2 [e] λm=>(λ(f:J->bT)=>(λ(b:Bool->bT)=>cp .Is c .none λp=>b6 p (b af) (b4 c ju λr=>cp .Eq r (.str i4) λo=>b6 o (b af) (b ag))) λh=>b6 h (f (.str i4)) (f (.str pR))) λn=>methP a Bo λq=>aey d κ a l_tree g c l s e j i k m n q
def aeA(κ:cD)(b l_tree d k g c i j h f e a:J):bT:=κ.cQ (uY b l_tree d (.Y k) (.Y g) (.Y c) (.Y i) (.Y j) (.Y h) (.Y f) (.Y e) (.Y a))
def aeB(d:Nat)(κ:cD)(a l_tree b m j f k l c i g e:J):bT:=b4 a fX λh=>cB d h j8 [c] λn=>cB d a mC [b] λo=>aeA κ a l_tree b m j f k l c i g e
def aeD(d:Nat)(κ:cD)(c l_tree l a g s p q o j f:J):bT:=(λ(h:J->bT)=>(λ(b:Bool->bT)=>cp .Is a .none λn=>b6 n (b af) (b4 a ju λr=>cp .Eq r (.str i4) λk=>b6 k (b af) (b ag))) λm=>b6 m (h (.str i4)) (h (.str pR))) λe=>methP c Bo λi=>lm 2 (cl d i.1 (i.2++[l_tree,.str qE,g,j,.tup [e,f]]) λt=>aeB d κ c l_tree l a g s p q o j f e)
theorem aeG:cq (U d) 197 (bX 1144 1000) (uY cR l_tree dE (.Y m4) (.Y iG) (.Y ov) (.Y ow) (.Y o') (.Y nT)) κ=g6 o' λb=>b6 b (cB d cR Bo [l_tree,.str Em,nT] λf=>cB d cR HT [ov] λe=>aez d κ cR l_tree dE m4 iG ov ow o' nT e) (cB d cR HT [ov] λc=>cB d cR x2 [ow] λa=>aeD d κ cR l_tree dE m4 iG ov ow o' nT c a):=by cbv
def jw(n:Int):J:=fL rd [.int n]
def j'(a:Str)(arg:J):J:=fL pR [.none,.str a,.lst [arg],.none,.bool ag]
def zS(n:Int):J:=j' jh (jw n)
def aeH:J:=j' og (fL su [.str uG])
def Pw:J:=fL mB [.lst [fL nN []]]
def ox(c:Nat):J:=.lst ((Hx c).map λs=>fL pS [.none,.str s])
def sG(c1:Nat)(c:J)(c2:Nat)(a:Option J):J:=.lst (.tup [ox c1,.none,c]::(match a with|some b=>[.tup [ox c2,.none,b]]|none=>[]))
def T.opt(t:T)(v:J):Option J:=if t.isNil then ah else ae v
def toV:T->J
 |.nil=>.none
 |.mark n=>zS n
 |.h4 b=>j' uu (jw (if b then 1 else 0))
 |.seen=>aeH
 |.seq1 a=>fL mB [.lst [toV a]]
 |.gn a b=>fL mB [.lst [toV a,toV b]]
 |.arr a b=>fL rc [.lst [toV a,toV b]]
 |.fm id b=>fL pX [j' mA (jw id),toV b,.bool ag]
 |.brk n=>fL oj [zS n]
 |.dQ n=>fL o3 [zS n]
 |.ret n=>fL mc [zS n]
 |.once id=>fL tw [j' vU (jw id),Pw,.none]
 |.bare b=>fL kJ [toV b,.lst [],.none,.none]
 |.eV g d e c f b=>fL kJ [toV b,sG g (toV d) e (c.opt (toV c)),toV f,.none]
 |.dZ (.bare b) l=>fL kJ [toV b,.lst [],.none,toV l]
 |.dZ (.eV g d e c f b) l=>fL kJ [toV b,sG g (toV d) e (c.opt (toV c)),toV f,toV l]
 |.dZ _ _=>.none
def o_:List (Str×J):=[(mB,.glob 1137),(rd,.glob 1109),(rc,.glob 1116),(pR,.glob 1144),(su,.glob 1123),(pS,.glob 1130),(tw,.glob 300),(pX,.glob 307),(kJ,.glob 342),(oj,.glob 314),(o3,.glob 321),(mc,.glob 328),(nN,.glob 335)]
inductive iT where
 |plain
 |dZ (l:T)
 |hand (kept:Int) (again:ai)
noncomputable def iT.cls:iT->ai
 |.plain=>195
 |.dZ _=>223
 |.hand _ _=>249
def iT.fs:iT->List (Str×J)
 |.plain=>[]
 |.dZ l=>[(jl,toV l)]
 |.hand k a=>[(En,.int k),(tu,.ref a)]
inductive Way where
 |loop (h:Int) (w:Bool) (s d:ai)
 |part (a pl:ai) (h:Int) (x:iT) (nU:ai) (e0:Nat)
def Way.toV:Way->J
 |.loop h b s d=>.obj 146 [fW,nP,zF,tv] [.int h,.bool b,.ref s,.ref d]
 |.part a _ _ _ _ _=>.ref a
noncomputable def wc:Option Nat->J
 |none=>.none
 |some n=>.int n
noncomputable def zT(q:Nat×Nat):J:=.tup [.int q.1,.int q.2]
def p4(x:iT)(h:Int)(f:Option Nat)(pl:ai):hg:=.inst x.cls ((fW,.int h)::(iB,wc f)::(rf,.ref pl)::x.fs)
set_option genCtorIdx true in
inductive Cell where
 |gm (p:Option Nat)
 |part (x:iT) (h:Int) (f:Option Nat) (pl:ai)
 |pa (ps:List (Nat×Nat))
 |lT (ws:List Way)
 |raw (o:hg)
def sH:Cell->hg
 |.gm e=>.inst 661 [(j8,wc e)]
 |.part x h f d=>p4 x h f d
 |.pa a=>.list (a.map zT)
 |.lT c=>.list (c.map Way.toV).reverse
 |.raw b=>b
abbrev eH:=ai->Option Cell
noncomputable def eH.set(M:eH)(a:ai)(c:Cell):eH:=λb=>if b=a then ae c else M b
theorem eH.same(M:eH)(a c):eH.set M a c a=ae c:=if_pos B
theorem eH.ne(M:eH) c(h:b≠a):eH.set M a c b=M b:=if_neg h
set_option genCtorIdx true in
inductive lU where
 |c|m|gd|cl|sc|nl
structure m5 where
 tag:ai->Option lU
 adr:lU->ai
 mf:∀b,tag (adr b)=ae b
 at_:∀a b,tag a=ae b->a=adr b
 g':ai
 hT:ai
 jZ:ai
 rest:bW
 ef:rest g'=ae (.eJ o_)
 IV:∀a o,rest a=ae o->tag a=ah
structure yo where
 dZ:Bool
 first:Nat
 last:Nat
 nU:ai
 h:Int
structure jn where
 rows:List (g9 ai×Option (ai×Int))
 dH:List yo
 names:List J
 f9:Int
 wl:ai
 M:eH
def qJ:g9 ai->Str
 |.push _=>k4
 |.pop=>ic
 |.self=>i4
 |.jI=>pV
 |.hq=>qF
 |.k2=>sq
 |.again=>tu
 |.leave=>vY
 |.gi _=>md
 |.ez _=>lx
 |.kI _=>ma
 |.send _ _=>qE
 |.list _=>re
 |.gj _=>mZ
 |.ko _=>o2
 |.ji _=>sv
def rp:g9 ai->J
 |.push a=>a
 |.gi _=>.int 0
 |.ez _=>.int 0
 |.kI s=>.str s
 |.jI=>.str uG
 |.send s _=>.str s
 |.list n=>.int n
 |.gj l=>.ref l
 |.ko l=>.ref l
 |.ji l=>.ref l
 |_=>.none
noncomputable def rq:g9 ai->J
 |.gi a=>.int a
 |.ez a=>.int a
 |.send _ _=>.int 1
 |_=>.none
noncomputable def rr:g9 ai->J
 |.send _ k=>.tup [.str k,.none]
 |_=>.none
def fS(op a b c:J):J:=.obj 570 [hR,lu,uA,x3,oo] [op,a,b,c,.int 0]
def wd(r:g9 ai):J:=fS (.str (qJ r)) (rp r) (rq r) (rr r)
def nV:Bool->Str
 |true=>vX
 |false=>H4
def zU(c:yo):J:=.obj 598 [pW,iB,nL,nO,pT] [.str (nV c.dZ),.int c.first,.int c.last,.ref c.nU,.int c.h]
def we(A:m5)(G:jn):lU->hg
 |.c=>.inst 1086 [(rh,.ref A.g'),(ju,.str mb),(nM,.none),(fX,.ref (A.adr .m)),(tA,.ref (A.adr .sc)),(m1,.ref G.wl)]
 |.m=>.inst 730 [(ly,.ref (A.adr .gd)),(om,.ref (A.adr .cl)),(sr,.ref A.hT),(rg,.ref A.jZ),(oo,.int 0),(fW,.int G.f9)]
 |.gd=>.list (G.rows.map λa=>wd a.1)
 |.cl=>.list (G.dH.map zU)
 |.sc=>.inst 910 [(uE,.ref (A.adr .nl)),(Ep,.none)]
 |.nl=>.list G.names
def heapOf(A:m5)(G:jn):bW:=λa=>match A.tag a with
 |some b=>ae (we A G b)
 |none=>match G.M a with
  |some c=>ae (sH c)
  |none=>A.rest a
noncomputable def g9.tk{a:Type}:g9 a->Int
 |.pop=>1
 |.hq=>1
 |.k2=>1
 |.again=>1
 |.leave=>1
 |.gi _=>1
 |.send _ _=>2
 |.list n=>n
 |.ko _=>1
 |.ji _=>1
 |_=>0
noncomputable def g9.gv{a:Type}:g9 a->Int
 |.push _=>1
 |.self=>1
 |.jI=>1
 |.k2=>1
 |.ez _=>1
 |.kI _=>1
 |.send _ _=>1
 |.list _=>1
 |_=>0
noncomputable def sI:Nat:=900000
noncomputable def jn.put(G:jn)(r:g9 ai)(an:Option (ai×Int)):jn:={G with rows:=G.rows++[(r,an)],f9:=G.f9-r.tk+r.gv}
section
theorem jx(b:lU):heapOf A G (A.adr b)=ae (we A G b):=by dsimp only[heapOf];rw[A.mf]
theorem il(h:A.tag a=ah)(g:G.M a=ae c):heapOf A G a=ae (sH c):=by dsimp only[heapOf];rw[h,g]
theorem oe(h:A.rest a=ae o)(g:G.M a=ah):heapOf A G a=ae o:=by dsimp only[heapOf];rw[A.IV a o h,g];exact h
theorem yp(h:heapOf A G a=ah):A.tag a=ah/\G.M a=ah/\A.rest a=ah:=by
 dsimp only[heapOf]at h;cases e:A.tag a with
 |some b=>rw[e]at h;exact gS h
 |none=>
  cases cf:G.M a with
  |some c=>rw[e,cf]at h;exact gS h
  |none=>rw[e,cf]at h;exact⟨B,B,h⟩
theorem p5(h:A.tag a=ah)(c:Cell)(e:o=sH c):(heapOf A G).set a o=heapOf A {G with M:=G.M.set a c}:=by
 funext x;delta bW.set heapOf;by_cases d:x=a
 .subst d;rw[if_pos B,e];exact(il (G:={G with M:=G.M.set x c}) h (eH.same ..)).symm
 .rw [if_neg d];show _=match A.tag x with
   |some b=>ae (we A G b)
   |none=>match eH.set G.M a c x with
    |some c=>ae (sH c)
    |none=>A.rest x
  rw[eH.ne _ _ d]
theorem zV(b:lU)(h1:∀b',b'≠b->we A G' b'=we A G b')(h2:we A G' b=o)(d:G'.M=G.M):(heapOf A G).set (A.adr b) o=heapOf A G':=by
 funext x;delta bW.set heapOf;by_cases e:x=A.adr b
 .subst e;rw[if_pos B,A.mf];exact congrArg ae h2.symm
 .rw [if_neg e,d];cases a:A.tag x with
  |none=>rfl
  |some b'=>exact congrArg ae (h1 b' λc=>e (c▸(A.at_ _ _ a))).symm
theorem Px(h:k (.ref A.g') (heapOf A G)):b4 (.ref (A.adr .c)) rh k (heapOf A G):=k0 (jx .c) B B h
theorem IW(h:k (.str mb) (heapOf A G)):b4 (.ref (A.adr .c)) ju k (heapOf A G):=k0 (jx .c) B B h
theorem Py(h:k .none (heapOf A G)):b4 (.ref (A.adr .c)) nM k (heapOf A G):=k0 (jx .c) B B h
theorem hN(h:k (.ref (A.adr .m)) (heapOf A G)):b4 (.ref (A.adr .c)) fX k (heapOf A G):=k0 (jx .c) B B h
theorem IX(h:k (.ref (A.adr .sc)) (heapOf A G)):b4 (.ref (A.adr .c)) tA k (heapOf A G):=k0 (jx .c) B B h
theorem tH(h:k (.ref G.wl) (heapOf A G)):b4 (.ref (A.adr .c)) m1 k (heapOf A G):=k0 (jx .c) B B h
theorem yq(h:k (.ref (A.adr .gd)) (heapOf A G)):b4 (.ref (A.adr .m)) ly k (heapOf A G):=k0 (jx .m) B B h
theorem Pz(h:k (.ref (A.adr .cl)) (heapOf A G)):b4 (.ref (A.adr .m)) om k (heapOf A G):=k0 (jx .m) B B h
theorem aeI(h:k (.int 0) (heapOf A G)):b4 (.ref (A.adr .m)) oo k (heapOf A G):=k0 (jx .m) B B h
theorem PA(h:k (.int G.f9) (heapOf A G)):b4 (.ref (A.adr .m)) fW k (heapOf A G):=k0 (jx .m) B B h
theorem aeJ(h:k (.ref A.hT) (heapOf A G)):b4 (.ref (A.adr .m)) sr k (heapOf A G):=k0 (jx .m) B B h
theorem aeK(h:k (.ref A.jZ) (heapOf A G)):b4 (.ref (A.adr .m)) rg k (heapOf A G):=k0 (jx .m) B B h
theorem EH(h:k (.ref (A.adr .nl)) (heapOf A G)):b4 (.ref (A.adr .sc)) uE k (heapOf A G):=k0 (jx .sc) B B h
theorem PB(h:p (heapOf A G)):ej (.ref (A.adr .m)) oo (.int 0) p (heapOf A G):=by refine gX (jx .m) (by cbv) (ay (by cbv)) ?_;rw[zV (A:=A) (G:=G) .m (G':=G) (λ_ _=>B) (by cbv) B];exact h
theorem PC(h:p (heapOf A {G with f9:=x})):ej (.ref (A.adr .m)) fW (.int x) p (heapOf A G):=by refine gX (jx .m) (by cbv) (ay (by cbv)) ?_;rw[zV (A:=A) (G:=G) .m (G':={G with f9:=x}) (λb e=>by induction b using lU.casesOn<;>first|rfl|exact absurd rfl e) (by cbv) rfl];exact h
theorem PD(h:p (heapOf A {G with wl:=x})):ej (.ref (A.adr .c)) m1 (.ref x) p (heapOf A G):=by refine gX (jx .c) (by cbv) (ay (by cbv)) ?_;rw[zV (A:=A) (G:=G) .c (G':={G with wl:=x}) (λb e=>by induction b using lU.casesOn<;>first|rfl|exact absurd rfl e) (by cbv) rfl];exact h
theorem rt(e:we A G b=.inst C fs)(n:look x fs=ah)(c:jB C=af)(l:mS C x=ae f)(a:jB f=ag)(h:U d f (.ref (A.adr b)::as) k (heapOf A G)):cB d (.ref (A.adr b)) x as k (heapOf A G):=by refine D' (by rw[jx,e]) n c l ?_;dsimp only[jR];simp only[a];exact h
theorem de(a:jB f=ag)(h:U d f as k H):cl d (.glob f) as k H:=by show jR _ _ _ _ _;dsimp only[jR];simp only[a];exact h
theorem ru(h:U d 954 (.ref (A.adr .c)::as) k (heapOf A G)):cB d (.ref (A.adr .c)) jl as k (heapOf A G):=rt (b:=.c) B B B B B h
theorem PE(h:U d 938 (.ref (A.adr .c)::as) k (heapOf A G)):cB d (.ref (A.adr .c)) eQ as k (heapOf A G):=rt (b:=.c) B B B B B h
theorem aeL(h:U d 962 (.ref (A.adr .c)::as) k (heapOf A G)):cB d (.ref (A.adr .c)) uB as k (heapOf A G):=rt (b:=.c) B B B B B h
theorem PF(h:U d 969 (.ref (A.adr .c)::as) k (heapOf A G)):cB d (.ref (A.adr .c)) mC as k (heapOf A G):=rt (b:=.c) B B B B B h
theorem aeM(h:U d 983 (.ref (A.adr .c)::as) k (heapOf A G)):cB d (.ref (A.adr .c)) uD as k (heapOf A G):=rt (b:=.c) B B B B B h
theorem aeN(h:U d 1011 (.ref (A.adr .c)::as) k (heapOf A G)):cB d (.ref (A.adr .c)) HT as k (heapOf A G):=rt (b:=.c) B B B B B h
theorem aeO(h:U d 1026 (.ref (A.adr .c)::as) k (heapOf A G)):cB d (.ref (A.adr .c)) x2 as k (heapOf A G):=rt (b:=.c) B B B B B h
theorem aeP(h:U d 1033 (.ref (A.adr .c)::as) k (heapOf A G)):cB d (.ref (A.adr .c)) OJ as k (heapOf A G):=rt (b:=.c) B B B B B h
theorem aeQ(h:U d 1047 (.ref (A.adr .c)::as) k (heapOf A G)):cB d (.ref (A.adr .c)) x4 as k (heapOf A G):=rt (b:=.c) B B B B B h
theorem EI(h:U d 694 (.ref (A.adr .m)::as) k (heapOf A G)):cB d (.ref (A.adr .m)) eQ as k (heapOf A G):=rt (b:=.m) B B B B B h
theorem aeR(h:U d 701 (.ref (A.adr .m)::as) k (heapOf A G)):cB d (.ref (A.adr .m)) nK as k (heapOf A G):=rt (b:=.m) B B B B B h
theorem aeS(h:U d 708 (.ref (A.adr .m)::as) k (heapOf A G)):cB d (.ref (A.adr .m)) j8 as k (heapOf A G):=rt (b:=.m) B B B B B h
theorem uZ(e:we A G b=.inst C fs)(n:look x fs=ah)(a:jB C=af)(l:mS C x=ae f)(h:dX (.glob f,[.ref (A.adr b)]) (heapOf A G)):methP (.ref (A.adr b)) x dX (heapOf A G):=
 D' (by rw[jx,e]) n a l h
theorem PG(h:k (fS op a b c) H):cl (d+1) (.glob 570) [op,a,b,c,.int 0] k H:=by show eX (.inst 570 []) (λx=>U (d+1) 560 [x,op,a,b,c,.int 0] λ(r:J)(H:bW)=>r=J.none/\lK 570 x k H) H;intro x ce;rw[acI];refine gX (bW.set_same ..) B (ay B) (gX (bW.set_same ..) B (ay B) (gX (bW.set_same ..) B (ay B) (gX (bW.set_same ..) B (ay B) (gX (bW.set_same ..) B (ay B) ⟨B,zx (fs:=[(hR,op),(lu,a),(uA,b),(x3,c),(oo,.int 0)]) B ((bW.set_same ..).trans B) ?_ ce h⟩))));intro c cu;simp only[bW.el _ _ cu]
end
section
theorem cO{P Q:bT}(e:P=Q)(h:Q H):P H:=e▸h
theorem EJ{a:ai}{vs:List J}{v:J}(h:H a=ae (.list vs))(l:vs.length<=16000000)(c:k .none (H.set a (.list (vs++[v])))):cB d (.ref a) kt [v] k H:=
 Ea h (b:="list.append") (.inl ⟨B,by cbv⟩) (Ol h l c)
theorem tI{a:ai}{vs:List J}{k:J×List J->bT}(h:H a=ae (.list vs))(c:k (.blt "list.append",[.ref a]) H):methP (.ref a) kt k H:=
 Ea h (b:="list.append") (.inl ⟨B,by cbv⟩) c
theorem sK{a:ai}{vs:List J}{v:J}(h:H a=ae (.list vs))(l:vs.length<=16000000)(b:k .none (H.set a (.list (vs++[v])))):cl d (.blt "list.append") [.ref a,v] k H:=Ol h l b
theorem PH{a:ai}{vs:List J}{v:J}(h:H a=ae (.list (vs++[v])))(l:vs.length<=16000000)(c:k v (H.set a (.list vs))):cB d (.ref a) ic [] k H:=
 Ea h (b:="list.pop") (.inr ⟨B,by cbv⟩) (.pop a v vs B B h l c)
theorem wf{a:ai}{vs:List J}{n:Nat}(h:H a=ae (.list vs))(e:vs.length=n)(l:n<=16000000)(b:k (.int n) H):cl d (.blt "len") [.ref a] k H:=by subst e;exact Oj h l b
theorem wg{vs:List J}{n:Nat}(e:vs.length=n)(l:n<=16000000)(a:k (.int n) H):cl d (.blt "len") [.lst vs] k H:=by subst e;exact .len _ vs.length B B B l a
theorem BM(l:G.rows.length<=16000000)(a:k (.int G.rows.length) (heapOf A G)):cl d (.blt "len") [.ref (A.adr .gd)] k (heapOf A G):=
 wf (jx .gd) (by simp) l a
theorem aeT{vs:List J}(a:k (.bool af) H):cl d (.blt "isinstance") [.tup vs,.typ "tuple"] k H:=
 .ze _ _ af B B B a
theorem PI(h:ua a=af)(b:k (.bool ag) H):cl d (.blt "isinstance") [.glob a,.typ "tuple"] k H:=by refine .ze _ _ ag B B ?_ b;show(if("tuple":String)="tuple" then(if ua a then ae ag else ah)else ah)=ae ag;rw[if_pos B,h];rfl
theorem j0{b:Bool}{k:Bool->bT}(h:k b H):g6 (.bool b) k H:=h
theorem dI(h:x H):b6 af x y H:=h
theorem c6(h:y H):b6 ag x y H:=h
theorem aeU(l:n<=16000000)(h:X H):lm n X H:=⟨l,h⟩
theorem c7(l:a0 n 16000000=af)(h:X H):lm n X H:=⟨ay l,h⟩
theorem gR(h:X H):hu n X H:=⟨B,h⟩
theorem kv(h:k (.int (x+y)) H):d4 .Add (.int x) (.int y) k H:=.add x y B B B h
theorem m6(h:k (.int (x-y)) H):d4 .Sub (.int x) (.int y) k H:=.sub x y B B B h
theorem wh(h:k (.int (-x)) H):uz (.int x) k H:=h
theorem is_none{k:Bool->bT}{b:Bool}(e:mu v .none=ae b)(h:k b H):cp .Is v .none k H:=⟨b,e,h⟩
theorem mH{k:Bool->bT}{b:Bool}(e:mu v .none=ae b)(h:k (!b) H):cp .IsNot v .none k H:=⟨!b,congrArg (aoD (!·)) e,h⟩
theorem wi{k:Bool->bT}{x y:Int}(h:k (decide (x=y)) H):cp .Eq (.int x) (.int y) k H:=by exact⟨decide (x=y),B,h⟩
theorem wj{k:Bool->bT}{x y:Int}(h:k (decide (y<x)) H):cp .Gt (.int x) (.int y) k H:=⟨_,B,h⟩
theorem sL(h:k op H):b4 (fS op a b c) hR k H:=kH B B h
theorem oy(h:k a H):b4 (fS op a b c) lu k H:=kH B B h
theorem EK(h:k b H):b4 (fS op a b c) uA k H:=kH B B h
theorem PJ(h:k c H):b4 (fS op a b c) x3 k H:=kH B B h
theorem p6(e:Gg w' (.str op)=ae (.tup [.int x,.int y]))(h:k (.tup [.int x,.int y]) H):U (d+1) 878 [fS (.str op) a b c] k H:=by rw[II];exact sL (.jA _ e (aeT (j0 (dI h))))
theorem aeV{d:Nat}(hd:4<=d)(r:g9 ai)(h:k (.tup [.int r.tk,.int r.gv]) H):U d 878 [wd r] k H:=by
 obtain⟨d,rfl⟩:∃e,d=e+4:=⟨d-4,by exact fw hd B⟩
 induction r using g9.casesOn with
 |send s b=>show U (d+4) 878 [fS (.str qE) (.str s) (.int 1) (.tup [.str b,.none])] k H;rw[II];refine sL (.jA (.glob 776) B (PI B (j0 (c6 (de B ?_)))));rw[adp];refine EK (de B ?_);rw[adl];refine wh (wi ?_);refine c6 (kv (PJ (zw (i:=1) (by simp) B B (de B ?_))));rw[adn];refine⟨ag,by cbv,c6 (kv (c7 B h))⟩
 |list n=>show U (d+4) 878 [fS (.str re) (.int n) .none .none] k H;rw[II];refine sL (.jA (.glob 762) B (PI B (j0 (c6 (de B ?_)))));rw[ado];exact oy (c7 B h)
 |push c=>exact p6 B h
 |pop=>exact p6 B h
 |self=>exact p6 B h
 |jI=>exact p6 B h
 |hq=>exact p6 B h
 |k2=>exact p6 B h
 |again=>exact p6 B h
 |leave=>exact p6 B h
 |gi a=>exact p6 B h
 |ez a=>exact p6 B h
 |kI s=>exact p6 B h
 |gj l=>exact p6 B h
 |ko l=>exact p6 B h
 |ji l=>exact p6 B h
theorem aeW(hd:5<=d)(r:g9 ai)(an:Option (ai×Int))(l:G.rows.length<=sI)(h:∀v,k v (heapOf A (G.put r an))):U d 694 [.ref (A.adr .m),.str (qJ r),rp r,rq r,rr r] k (heapOf A G):=by obtain⟨d,rfl⟩:∃e,d=e+5:=⟨d-5,by exact fw hd B⟩;have l:G.rows.length<=900000:=l;rw[acY];refine aeI (PG (yq (EJ (jx .gd) (by simp;exact fa l B) ?_)));rw[show(heapOf A G).set (A.adr .gd) (.list ((G.rows.map λa=>wd a.1)++[fS (.str (qJ r)) (rp r) (rq r) (rr r)]))=heapOf A {G with rows:=G.rows++[(r,an)]}from zV .gd (λb e=>by induction b using lU.casesOn<;>first|rfl|exact absurd rfl e) (congrArg hg.list bG) rfl];rw[ac0];refine de B (aeV (cn B) r ?_);rw[ac1];refine gR (PA (m6 (kv (PC (yq (BM (by simp;exact fa l B) (m6 ?_)))))));exact h _
theorem set_set(H:bW)(a:ai)(o b:hg):(H.set a o).set a b=H.set a b:=by
 funext x;unfold bW.set;by_cases e:x=a
 .rw [if_pos e,if_pos e]
 .rw [if_neg e,if_neg e,if_neg e]
theorem aeX{d:Nat}(hd:2<=d)(h:∀a,A.tag a=ah->G.M a=ah->A.rest a=ah->k (.ref a) (heapOf A {G with M:=G.M.set a (.gm ah)})):U d 701 [.ref (A.adr .m)] k (heapOf A G):=by obtain⟨d,rfl⟩:∃e,d=e+2:=⟨d-2,fw hd B⟩;refine cO ac3 ?_;show eX (.inst 661 []) (λx=>U (d+1) 651 [x] λ(r:J)(c:bW)=>r=J.none/\lK 661 x k c) (heapOf A G);intro a dN;refine iw (yp dN) λb n r=>cO acQ (gX (bW.set_same ..) (by cbv) (ay (by cbv)) ⟨B,?_⟩);rw[set_set,p5 b (.gm ah) (by cbv)];exact h a b n r
theorem place_spec{d:Nat}{a:ai}(hd:1<=d)(l:G.rows.length<=sI)(t:A.tag a=ah)(g:G.M a=ae (.gm ah))(h:k .none (heapOf A {G with M:=G.M.set a (.gm (ae G.rows.length))})):U d 708 [.ref (A.adr .m),.ref a] k (heapOf A G):=by obtain⟨d,rfl⟩:∃e,d=e+1:=⟨d-1,fw hd B⟩;have l:G.rows.length<=900000:=l;have c:=il t g;refine cO ac4 (k0 (u:=.none) c (by cbv) (by cbv) (mH (b:=af) B (c6 (yq (BM (fa l B) ?_)))));refine gX c (by cbv) (ay (by cbv)) ?_;rw[p5 t (.gm (ae G.rows.length)) (by cbv)];exact h
theorem aeY(n:Nat)(l:n<=1000000)(h:k (.str (De n)) H):cl d (.typ "str") [.int n] k H:=
 .str n B B (aH _) (g0 l) h
theorem aeZ(n:Nat)(l:n<=1000000):(De n).length<=8:=by unfold De;rw[Str.ofString_eq_toList,show(toString (n:Int))=n.repr from B];show(List.map Char.toNat n.repr.toList).toArray.size<=8;simp only[List.size_toArray,aX,Nat.toList_repr];exact(Nat.length_toDigits_le_iff (by decide) (by decide)).2 (cY l)
theorem ae0{d:Nat}(hd:2<=d)(l:G.names.length<=sI)(h:∀v,k (.int G.names.length) (heapOf A {G with names:=G.names++[v]})):U d 983 [.ref (A.adr .c)] k (heapOf A G):=by
 obtain⟨d,rfl⟩:∃e,d=e+2:=⟨d-2,by exact fw hd B⟩;have l:G.names.length<=900000:=l;rw[adG];refine IX (uZ (b:=.sc) (f:=900) B B B B (IX (EH (wf (jx .nl) B (fa l B) (aeY _ (fa l B) ?_)))));refine qt.str _ _ B B B ?_ ?_
 .have:=aeZ G.names.length (fa l B);have e:O2.length=1:=by cbv
  exact dp this (ak e)
 .refine de B ?_;show U (d+1) 900 [.ref (A.adr .sc),_] _ _;rw[adx];refine EH (EJ (jx .nl) (fa l B) ?_);rw[show ∀v,(heapOf A G).set (A.adr .nl) (.list (G.names++[v]))=heapOf A {G with names:=G.names++[v]}from λv=>zV .nl (λb e=>by induction b using lU.casesOn<;>first|rfl|exact absurd rfl e) rfl rfl];refine EH (wf (jx .nl) (n:=G.names.length+1) (by simp) (cY l) (m6 ?_));rw[show(((G.names.length+1:Nat):Int)-1)=(G.names.length:Int) by simp+arith];exact h _
end
section
variable{A:m5}{d n z b:Nat}{k:cZ}{F:List lV}{h h':Int}{G:jn}{K:List (ai×Cell)}{cP W:List Way}{Q:List fM}{H:bW}{X:bT}
abbrev lV:=Option Nat×List (Nat×Nat)
abbrev fM:=Way×lV
noncomputable def Way.tJ:Way->List ai
 |.loop _ _ _ _=>[]
 |.part a c _ _ _ _=>[a,c]
noncomputable def pb(a:List fM):List ai:=a.flatMap λx=>x.1.tJ
def rv(M:eH)(n:Nat):fM->Prop
 |(.loop _ _ _ _,_,_)=>True
 |(.part a i h x _ e,f,g)=>M a=ae (.part x h f i)/\M i=ae (.pa g)/\(∀c∈g,e<=c.1/\c.1<c.2/\c.2<=n)/\(∀m,f=ae m->e<=m/\m<=n)/\e<=n
noncomputable def m7:fM->Nat->Bool
 |(.loop _ _ _ _,_,_),_=>ag
 |(.part _ _ _ _ _ _,f,c),s=>c.any (λa=>decide (a.1<=s)&&decide (s<a.2))||(match f with|some n=>decide (n<=s)|none=>ag)
noncomputable def Way.hd:Way->Option (ai×Int)
 |.loop _ _ _ _=>ah
 |.part _ _ h _ c _=>ae (c,h)
noncomputable def p7:List fM->Nat->Option (ai×Int)
 |[],_=>ah
 |x::W,s=>if m7 x s then x.1.hd else p7 W s
noncomputable def tK:List Way->Option (ai×Int)
 |[]=>ah
 |.loop _ _ _ _::W=>tK W
 |.part _ _ h _ t _::_=>ae (t,h)
def isOpen:fM->Prop
 |(.loop _ _ _ _,_,_)=>True
 |(.part _ _ _ _ _ _,f,_)=>∃m,f=ae m
def zW:fM->Prop
 |(.loop _ _ _ _,_,_)=>True
 |(.part _ _ _ _ _ _,f,_)=>f=ah
noncomputable def p8:List yo->Nat->Option (ai×Int)
 |[],_=>ah
 |c::r,s=>if c.first<=s/\s<c.last then ae (c.nU,c.h)else p8 r s
noncomputable def rx:g9 ai->Option ai
 |.gj l=>ae l
 |.ko l=>ae l
 |.ji l=>ae l
 |_=>ah
def hU(M:eH)(l:ai):Prop:=∃a,M l=ae (.gm a)
def wk(M:eH):Way->Prop
 |.loop _ _ s d=>hU M s/\hU M d
 |.part _ _ _ x a _=>hU M a/\match x with
  |.hand _ c=>hU M c
  |_=>True
noncomputable def iU(W:List fM):Nat:=(W.map λx=>x.2.2.length).sum
def Cell.st:Cell->Prop
 |.part _ _ _ _=>False
 |.pa _=>False
 |_=>True
structure cz(A:m5)(K:List (ai×Cell))(cP:List Way)(Q:List fM)(W:List Way)(F:List lV)(n:Nat)(h:Int)(z b:Nat)(G:jn):Prop where
 i5:∀a c,G.M a=ae c->A.tag a=ah/\A.rest a=ah
 wl:G.M G.wl=ae (.lT cP)
 p9:F.length=W.length
 pt:∀x∈Q++W.zip F,rv G.M n x
 O:(pb (Q++W.zip F)).Nodup
 k5:∀x∈Q,zW x
 op:∀x∈W.zip F,isOpen x
 dz:∀x∈K,G.M x.1=ae x.2/\x.1≠G.wl/\x.2.st
 nk:(K.map (·.1)).Nodup
 ul:∀l,G.M l=ae (.gm ah)->(l,.gm ah)∈K
 gd:∀x∈G.rows,∀l,rx x.1=ae l->hU G.M l
 cl:∀c∈G.dH,hU G.M c.nU/\c.first<c.last/\c.last<=n
 an:∀s x,G.rows[s]?=ae x->x.2=(p8 G.dH s).or (p7 (Q++W.zip F) s)
 lw:∀x∈Q++W.zip F,wk G.M x.1
 tL:G.rows.length=n
 EL:G.f9=h
 EM:G.names.length=z
 jf:n+z+G.dH.length+iU (Q++W.zip F)+b<=900000
structure fI(G G':jn):Prop where
 rows:∃s,G'.rows=G.rows++s
 u0:∀a p,G.M a=ae (.gm (ae p))->G'.M a=ae (.gm (ae p))
theorem fI.refl(G:jn):fI G G:=⟨⟨[],(bB _).symm⟩,λ_ _ h=>h⟩
theorem fI.trans(a:fI hk gq)(b:fI gq k6):fI hk k6:=
 ⟨a.rows.elim λs e=>b.rows.elim λc f=>⟨s++c,by rw[f,e,bk]⟩,λl g h=>b.u0 _ _ (a.u0 _ _ h)⟩
noncomputable def kh(lam:ai->Nat):Way->ia
 |.loop h e s d=>.loop h e (lam s) (lam d)
 |.part _ _ h .plain c _=>.part h (lam c)
 |.part _ _ h (.dZ l) c _=>.dZ h (lam c) l
 |.part _ _ h (.hand k a) c _=>.hand h (lam c) k (lam a)
noncomputable def k7(lam:ai->Nat)(W:List Way):List ia:=W.map (kh lam)
noncomputable def resT(lam:ai->Nat)(x:Option (ai×Int)):Option (Nat×Int):=x.map λa=>(lam a.1,a.2)
noncomputable def tM(lam:ai->Nat):g9 ai->g9 Nat
 |.push c=>.push c
 |.pop=>.pop
 |.self=>.self
 |.jI=>.jI
 |.hq=>.hq
 |.k2=>.k2
 |.again=>.again
 |.leave=>.leave
 |.gi a=>.gi a
 |.ez a=>.ez a
 |.kI s=>.kI s
 |.send s k=>.send s k
 |.list n=>.list n
 |.gj l=>.gj (lam l)
 |.ko l=>.ko (lam l)
 |.ji l=>.ji (lam l)
theorem BN(lam:ai->Nat):∀W,oh (k7 lam W)=resT lam (tK W)
 |[]=>rfl
 |.loop _ _ _ _::W=>BN lam W
 |.part _ _ _ .plain _ _::_=>rfl
 |.part _ _ _ (.dZ _) _ _::_=>rfl
 |.part _ _ _ (.hand ..) _ _::_=>rfl
def EN(G:jn)(s:Nat)(r:g9 ai)(an:Option (ai×Int)):Prop:=G.rows[s]?=ae (r,an)
structure Good(R:Rows)(lam:ai->Nat)(G:jn):Prop where
 rows:∀s r an,EN G s r an->R s=ae (tM lam r,resT lam an)
 u0:∀a p,G.M a=ae (.gm (ae p))->lam a=p
theorem Good.ex(h:Good R lam G')(e:fI G G'):Good R lam G:=
 ⟨λs r an c=>h.rows s r an (e.rows.elim λi f=>by show G'.rows[s]?=_;rw[f,List.getElem?_append_left (anB.mp c).1];exact c),λa g c=>h.u0 a g (e.u0 a g c)⟩
theorem Good.at_(h:Good R lam G)(q:EN G s r an):At R s (tM lam r):=⟨_,h.rows s r an q⟩
theorem rv.mono(h:rv M n x)(l:n<=m)(e:∀b∈x.1.tJ,N b=M b):rv N m x:=by
 obtain⟨g,f,o⟩:=x
 induction g using Way.casesOn with
 |loop _ _ _ _=>trivial
 |part a i h x j p=>exact⟨(e a (.head _)).trans h.1,(e i (.tail _ (.head _))).trans h.2.1,λc m=>⟨(h.2.2.1 c m).1,(h.2.2.1 c m).2.1,aq (h.2.2.1 c m).2.2 l⟩,λm e=>⟨(h.2.2.2.1 m e).1,aq (h.2.2.2.1 m e).2 l⟩,aq h.2.2.2.2 l⟩
theorem EO(p:rv M n x)(c:zW x)(h:n<=s):m7 x s=ag:=by
 obtain⟨g,f,j⟩:=x
 induction g using Way.casesOn with
 |loop _ _ _ _=>rfl
 |part a l hh x i o=>obtain rfl:f=ah:=c;refine(apC _).trans (List.any_eq_false.mpr λe m=>?_);have:=aq (p.2.2.1 e m).2.2 h;rw[decide_eq_false (aoT.mpr this),aoZ];exact anI
theorem PK{M n}{J:List fM}{s:Nat}:∀{Q:List fM},(∀x∈Q,rv M n x/\zW x)->n<=s->p7 (Q++J) s=p7 J s
 |[]=>λ_ _=>B
 |x::Q=>λh l=>(if_neg ((EO (h x (.head _)).1 (h x (.head _)).2 l)▸anI)).trans (PK (λy m=>h y (.tail _ m)) l)
theorem PL:∀{W:List Way}{F:List lV},F.length=W.length->(∀x∈W.zip F,rv M n x/\isOpen x)->p7 (W.zip F) n=tK W
 |[],F=>λ_ _=>by refine List.zip_nil_left▸?_;rfl
 |w::W,[]=>λe _=>nomatch e
 |w::W,f::F=>λe h=>by
  have c:=PL (W:=W) (F:=F) (aon.inj e) λx m=>h x (.tail _ m);have h:=h (w,f) (.head _)
  induction w using Way.casesOn with
  |loop _ _ _ _=>exact c
  |part a i hh x g j=>refine gu h.2 λm e=>if_pos ?_;show(_||match f.1 with|some n=>decide (n<=_)|none=>ag)=af;rw[e];show(_||decide (m<=n))=af;rw[decide_eq_true (h.1.2.2.2.1 m e).2,Bool.or_true]
theorem PM:∀{a:List yo},(∀c∈a,c.last<=s)->p8 a s=ah
 |[]=>λ_=>B
 |c::a=>λh=>(if_neg λe=>absurd e.2 (aoT.mpr (h c (.head _)))).trans (PM λd m=>h d (.tail _ m))
section
variable{c:Nat}
theorem cz.yr(a:cz A K cP Q W F n h z b G):∀x∈Q,rv G.M n x/\zW x:=λx m=>⟨a.pt x (aU _ m),a.k5 x m⟩
theorem cz.top(a:cz A K cP Q W F n h z b G):p7 (Q++W.zip F) n=tK W:=
 (PK a.yr (av _)).trans (PL a.p9 λx m=>⟨a.pt x (aK _ m),a.op x m⟩)
theorem cz.le(a:cz A K cP Q W F n h z b G)(l:c<=b):cz A K cP Q W F n h z c G:={a with jf:=aq (bF l _) a.jf}
theorem cz.ae1(a:cz A K cP Q W F n h z b G)(x:Int):cz A K cP Q W F n x z b {G with f9:=x}:={a with EL:=rfl}
theorem cz.ae2(a:cz A K cP Q W F n h z (b+1) G)(v:J):cz A K cP Q W F n h (z+1) b {G with names:=G.names++[v]}:=
 {a with EM:=by rw[bA,a.EM];rfl,jf:=aq (by k_is) a.jf}
theorem cz.put(a:cz A K cP Q W F n h z (b+1) G)(r:g9 ai)(e:h-r.tk+r.gv=h')(cv:∀l,rx r=ae l->hU G.M l):cz A K cP Q W F (n+1) h' z b (G.put r (tK W)):=
 {a with
  pt:=λx m=>(a.pt x m).mono (bz _) λ_ _=>B
  gd:=λx m l h=>by
   rcases bn.mp m with m|m
   .exact a.gd x m l h
   .rw [bD.mp m]at h;exact cv l h
  cl:=λc m=>⟨(a.cl c m).1,(a.cl c m).2.1,anJ (a.cl c m).2.2⟩
  an:=λs x h=>by
   have h:(G.rows++[(r,tK W)])[s]?=ae x:=h;by_cases c:s<G.rows.length
   .rw [List.getElem?_append_left c]at h;exact a.an s x h
   .rw [List.getElem?_append_right (apU c)]at h;have cf:s-G.rows.length<1:=(anB.mp h).1;have eC:s=n:=by have:=a.tL;exact a7 (c0 cf (ak this) (eB s G.rows.length)) (dp (apU c) (ak this.symm))
    rw[bD.mp (aoi h),eC,a.top];show tK W=(p8 G.dH n).or _;refine(PM λc m=>(a.cl c m).2.2)▸?_;rfl
  tL:=by show(G.rows++[_]).length=_;rw[bA,a.tL];rfl
  EL:=by show G.f9-_+_=_;exact a.EL▸e
  jf:=aq (show n+1+z+G.dH.length+iU (Q++W.zip F)+b<=_ by k_is) a.jf}
theorem ae3(a:cz A K cP Q W F n h z b G)(r:g9 ai) an:EN (G.put r an) n r an:=by exact a.tL▸(List.getElem?_concat_length)
theorem ae4(r:g9 ai) an:fI G (G.put r an):=⟨⟨_,B⟩,λ_ _ h=>h⟩
theorem rv.cell(h:rv M n x)(m:b∈x.1.tJ):∃c,M b=ae c/\¬c.st:=by
 obtain⟨e,f,i⟩:=x
 induction e using Way.casesOn with
 |loop _ _ _ _=>cases m
 |part a j hh x g l=>
  rcases aI.mp m with rfl|m
  .exact ⟨_,h.1,id⟩
  .exact (bD.mp m)▸(⟨_,h.2.1,id⟩)
theorem cz.BO(g:cz A K cP Q W F n h z b G)(o:∀c,G.M a=ae c->c.st)(m:x∈Q++W.zip F):a∉x.1.tJ:=λf=>
 (rv.cell (g.pt x m) f).elim λc e=>e.2 (o c e.1)
theorem hU.set{M:eH}{l a:ai}{c:Cell}(h:hU M l)(o:∀p,M a=ae (.gm p)->∃q,c=.gm q):hU (M.set a c) l:=by
 by_cases e:l=a
 .subst e;refine gu h λp h=>?_;refine gu (o p h) λq f=>?_;obtain rfl:=f;exact⟨q,eH.same ..⟩
 .refine gu h λp h=>?_;exact⟨p,(eH.ne _ _ e).trans h⟩
theorem wk.set{M:eH}{w:Way}{a:ai}{c:Cell}(h:wk M w)(o:∀p,M a=ae (.gm p)->∃q,c=.gm q):wk (M.set a c) w:=by
 induction w using Way.casesOn with
 |loop _ _ s e=>exact⟨h.1.set o,h.2.set o⟩
 |part _ _ _ x _ _=>induction x using iT.casesOn with
  |hand k f=>exact⟨h.1.set o,h.2.set o⟩
  |plain=>exact⟨h.1.set o,trivial⟩
  |dZ l=>exact⟨h.1.set o,trivial⟩
end
section
variable{ys W':List Way}{Q':List fM}{F':List lV}{c:Nat}
theorem mW{C:Prop}{f:Type _}{x:Option f}{a:f}(n:x=ah)(e:x=ae a):C:=cV (n.symm.trans e)
theorem cz.PN(f:cz A K cP Q W F n h z b G){a:ai}(t:A.tag a=ah)(r:A.rest a=ah)(i:G.M a=ah)(c:Cell){j:List (ai×Cell)}(w:∀x∈j,x∈K\/x=(a,c)/\c.st)(s:a∉K.map (·.1)->(j.map (·.1)).Nodup)(u:∀x∈K,x∈j)(D:c=.gm ah->(a,.gm ah)∈j):cz A j cP Q W F n h z b {G with M:=G.M.set a c}:=by
 have C:=λx m=>f.BO (a:=a) (λc e=>mW i e) (x:=x) m;have nl:∀p,G.M a=ae (.gm p)->∃g,c=.gm g:=λp e=>mW i e;have o:G.wl≠a:=λe=>mW i (e▸f.wl)
 exact{f with
  i5:=λx y e=>by
   by_cases g:x=a
   .exact g▸⟨t,r⟩
   .exact f.i5 x y ((eH.ne _ _ g).symm.trans e)
  wl:=(eH.ne _ _ o).trans f.wl
  pt:=λx m=>(f.pt x m).mono (av _) λb v=>eH.ne _ _ λe=>C x m (e▸v)
  dz:=λx m=>by
   rcases w x m with m|⟨rfl,q⟩
   .exact ⟨(eH.ne _ _ λe=>mW i (e▸(f.dz x m).1)).trans (f.dz x m).1,(f.dz x m).2⟩
   .exact ⟨eH.same ..,Ne.symm o,q⟩
  nk:=s λm=>(bC.mp m).elim λx e=>mW i (e.2▸(f.dz x e.1).1)
  ul:=λl e=>by
   by_cases g:l=a
   .cases g;exact D (aC.inj ((eH.same ..).symm.trans e))
   .exact u _ (f.ul l ((eH.ne _ _ g).symm.trans e))
  gd:=λx m l e=>(f.gd x m l e).set nl
  cl:=λx m=>⟨(f.cl x m).1.set nl,(f.cl x m).2⟩
  lw:=λx m=>(f.lw x m).set nl}
theorem cz.new(f:cz A K cP Q W F n h z b G)(t:A.tag a=ah)(r:A.rest a=ah)(i:G.M a=ah)(c:Cell)(g:c.st):cz A ((a,c)::K) cP Q W F n h z b {G with M:=G.M.set a c}:=
 f.PN t r i c (λx m=>(aI.mp m).elim (λe=>.inr ⟨e,g⟩) .inl) (λm=>bh.mpr ⟨m,f.nk⟩) (λx m=>.tail _ m) λe=>e▸.head _
theorem cz.PO(f:cz A K cP Q W F n h z b G)(t:A.tag a=ah)(r:A.rest a=ah)(i:G.M a=ah)(c:Cell)(g:c≠.gm ah):cz A K cP Q W F n h z b {G with M:=G.M.set a c}:=
 f.PN t r i c (λx m=>.inl m) (λ_=>f.nk) (λx m=>m) λe=>absurd e g
theorem cz.drop(a:cz A (x::K) cP Q W F n h z b G)(ce:x.2≠.gm ah):cz A K cP Q W F n h z b G:=
 {a with
  dz:=λy m=>a.dz y (.tail _ m)
  nk:=(bh.mp a.nk).2
  ul:=λl e=>(aI.mp (a.ul l e)).elim (λf=>absurd (congrArg aom f).symm ce) id}
theorem cz.place(f:cz A (u1++(l,.gm ah)::zX) cP Q W F n h z b G):cz A (u1++(l,.gm (ae n))::zX) cP Q W F n h z b {G with M:=G.M.set l (.gm (ae n))}:=by
 have i:=f.dz (l,.gm ah) (aK _ (.head _));have j:G.M l=ae (.gm ah):=i.1;have nl:∀p,G.M l=ae (.gm p)->∃g,Cell.gm (ae n)=.gm g:=λp e=>⟨_,B⟩;have r:=λx m=>f.BO (a:=l) (λc e=>by refine(aC.inj (j.symm.trans e))▸?_;trivial) (x:=x) m;have O:=f.nk;rw[bG,aL,aoj,bh]at O;have dz:∀x,x∈u1\/x∈zX->eH.set G.M l (.gm (ae n)) x.1=ae x.2/\x.1≠G.wl/\x.2.st:=λx m=>by
  have o:x∈u1++(l,Cell.gm ah)::zX:=m.elim (aU _) λm=>aK _ (.tail _ m);refine⟨(eH.ne _ _ λe=>?_).trans (f.dz x o).1,(f.dz x o).2⟩;rcases m with m|m
  .exact O.2.2 x.1 (bC.mpr ⟨x,m,B⟩) l (.head _) e
  .exact O.2.1.1 (bC.mpr ⟨x,m,e⟩)
 exact{f with
  i5:=λx y e=>by
   by_cases g:x=l
   .exact g▸f.i5 l _ j
   .exact f.i5 x y ((eH.ne _ _ g).symm.trans e)
  wl:=(eH.ne _ _ (Ne.symm i.2.1)).trans f.wl
  pt:=λx m=>(f.pt x m).mono (av _) λb q=>eH.ne _ _ λe=>r x m (e▸q)
  dz:=λx m=>by
   rcases bn.mp m with m|m
   .exact dz x (.inl m)
   .rcases aI.mp m with rfl|m
    .exact ⟨eH.same ..,i.2.1,trivial⟩
    .exact dz x (.inr m)
  nk:=by have:=f.nk;rw[bG,aL]at this⊢;exact this
  ul:=λg e=>by
   have ne:g≠l:=λc=>by rw[c]at e;have:=aC.inj ((eH.same ..).symm.trans e);injection this with this;exact gS this
   rcases bn.mp (f.ul g ((eH.ne _ _ ne).symm.trans e))with m|m
   .exact aU _ m
   .exact aK _ ((aI.mp m).elim (λc=>absurd (congrArg ans c) ne) (aY _))
  gd:=λx m l e=>(f.gd x m l e).set nl
  cl:=λx m=>⟨(f.cl x m).1.set nl,(f.cl x m).2⟩
  lw:=λx m=>(f.lw x m).set nl}
theorem cz.PP(f:cz A K cP Q W F n h z b G)(ys:List Way):cz A K ys Q W F n h z b {G with M:=G.M.set G.wl (.lT ys)}:=by
 have nl:∀i,G.M G.wl=ae (.gm i)->∃g,Cell.lT ys=.gm g:=λi e=>nomatch aC.inj (f.wl.symm.trans e);have j:=λx m=>f.BO (a:=G.wl) (λc e=>by refine(aC.inj (f.wl.symm.trans e))▸?_;trivial) (x:=x) m
 exact{f with
  i5:=λx y e=>by
   by_cases g:x=G.wl
   .exact g▸f.i5 _ _ f.wl
   .exact f.i5 x y ((eH.ne _ _ g).symm.trans e)
  wl:=eH.same ..
  pt:=λx m=>(f.pt x m).mono (av _) λb o=>eH.ne _ _ λe=>j x m (e▸o)
  dz:=λx m=>⟨(eH.ne _ _ (f.dz x m).2.1).trans (f.dz x m).1,(f.dz x m).2⟩
  ul:=λl e=>f.ul l (by
   by_cases g:l=G.wl
   .subst g;exact nomatch aC.inj ((eH.same ..).symm.trans e)
   .exact (eH.ne _ _ g).symm.trans e)
  gd:=λx m l e=>(f.gd x m l e).set nl
  cl:=λx m=>⟨(f.cl x m).1.set nl,(f.cl x m).2⟩
  lw:=λx m=>(f.lw x m).set nl}
theorem cz.PQ(f:cz A ((a,.lT ys)::K) cP Q W F n h z b G):cz A ((G.wl,.lT cP)::K) ys Q W F n h z b {G with wl:=a}:=
 have g:=f.dz _ (.head _);have O:=bh.mp f.nk
 {f with
  wl:=g.1
  dz:=λx m=>by
   rcases aI.mp m with rfl|m
   .exact ⟨f.wl,Ne.symm g.2.1,trivial⟩
   .exact ⟨(f.dz x (.tail _ m)).1,λe=>O.1 (bC.mpr ⟨x,m,e⟩),(f.dz x (.tail _ m)).2.2⟩
  nk:=bh.mpr ⟨λm=>(bC.mp m).elim λx e=>(f.dz x (.tail _ e.1)).2.1 e.2,O.2⟩
  ul:=λl e=>.tail _ ((aI.mp (f.ul l e)).elim (λi=>nomatch congrArg aom i) id)}
theorem IY{s:Nat}{x y:fM}{J:List fM}(e:y.1=x.1)(c:m7 y s=m7 x s):∀a:List fM,p7 (a++y::J) s=p7 (a++x::J) s
 |[]=>by show(if m7 y s then y.1.hd else _)=_;rw[c,e];rfl
 |u::a=>by show(if m7 u s then _ else p7 (a++y::J) s)=_;rw[IY e c a];rfl
theorem yu{s:Nat}{x:fM}{J:List fM}(c:m7 x s=ag):∀a:List fM,p7 (a++x::J) s=p7 (a++J) s
 |[]=>if_neg (c▸anI)
 |u::a=>by show(if m7 u s then _ else p7 (a++x::J) s)=_;rw[yu c a];rfl
theorem PR{x y:fM}{a J:List fM}(e:y.1=x.1):pb (a++y::J)=pb (a++x::J):=by unfold pb;rw[anK,anK,apa,apa,e]
theorem nW(a b:List fM):iU (a++b)=iU a+iU b:=by unfold iU;rw[bG,List.sum_append]
theorem EP(m:x∈g_)(q:b∈x.1.tJ):b∈pb g_:=apD.mpr ⟨x,m,q⟩
theorem cz.st{a pl:ai}{hh:Int}{x:iT}{t:ai}{j:Nat}{f f':Option Nat}{ps ps':List (Nat×Nat)}{v J:List fM}(i:cz A K cP Q W F n h z b G)(e:Q++W.zip F=v++(.part a pl hh x t j,f,ps)::J)(C:Q'++W'.zip F'=v++(.part a pl hh x t j,f',ps')::J)(p9:F'.length=W'.length)
  (iN:∀s,s<n->m7 (.part a pl hh x t j,f',ps') s=m7 (.part a pl hh x t j,f,ps) s)(ap:∀q∈ps',j<=q.1/\q.1<q.2/\q.2<=n)(Y:∀m,f'=ae m->j<=m/\m<=n)(k5:∀x∈Q',zW x)(op:∀x∈W'.zip F',isOpen x)(l:ps'.length+c<=ps.length+b):
  cz A K cP Q' W' F' n h z c {G with M:=(G.M.set pl (.pa ps')).set a (.part x hh f' pl)}:=by
 have R:((.part a pl hh x t j,f,ps):fM)∈Q++W.zip F:=by rw[e];exact aK _ (.head _)
 have L:=i.pt _ R;have D:G.M a=ae (.part x hh f pl):=L.1;have I:G.M pl=ae (.pa ps):=L.2.1;have ne:a≠pl:=λc=>by rw[c]at D;exact nomatch aC.inj (D.symm.trans I)
 have S:∀{y c},G.M y=ae c->c.st->y≠a/\y≠pl:=λ{y c} g s=>⟨λe=>by rw[e,D]at g;rw[<-aC.inj g]at s;exact s,λe=>by rw[e,I]at g;rw[<-aC.inj g]at s;exact s⟩;have w:∀{y},y≠a->y≠pl->((G.M.set pl (.pa ps')).set a (.part x hh f' pl)) y=G.M y:=λV ao=>(eH.ne _ _ V).trans (eH.ne _ _ ao);have E:∀{y c},G.M y=ae c->c.st->((G.M.set pl (.pa ps')).set a (.part x hh f' pl)) y=ae c:=λg s=>(w (S g s).1 (S g s).2).trans g;have p:∀{l},hU G.M l->hU ((G.M.set pl (.pa ps')).set a (.part x hh f' pl)) l:=λg=>g.elim λa1 g=>⟨a1,E g trivial⟩;have O:=i.O;replace O:=e▸O;have u:∀y,y∈v\/y∈J->rv G.M n y/\∀b∈y.1.tJ,b≠a/\b≠pl:=λy m=>by
  refine⟨i.pt y (by rw[e];exact m.elim (aU _) λm=>aK _ (.tail _ m)),λb o=>?_⟩;have O:(pb v++([a,pl]++pb J)).Nodup:=by unfold pb at O⊢;rw[anK,apa]at O;exact O
  rw[aoj]at O;have N:=aoj.mp O.2.1;rcases m with m|m
  .exact ⟨λe=>O.2.2 b (EP m o) a (.head _) e,λe=>O.2.2 b (EP m o) pl (.tail _ (.head _)) e⟩
  .exact ⟨λe=>N.2.2 a (.head _) b (EP m o) e.symm,λe=>N.2.2 pl (.tail _ (.head _)) b (EP m o) e.symm⟩
 have lw:∀y∈Q++W.zip F,wk ((G.M.set pl (.pa ps')).set a (.part x hh f' pl)) y.1:=λy m=>by
  have g:=i.lw y m;obtain⟨Z,s⟩:=y
  induction Z using Way.casesOn with
  |loop _ _ _ _=>exact⟨p g.1,p g.2⟩
  |part _ _ _ x _ _=>induction x using iT.casesOn with
   |hand k a2=>exact⟨p g.1,p g.2⟩
   |plain=>exact⟨p g.1,trivial⟩
   |dZ l=>exact⟨p g.1,trivial⟩
 exact{i with
  i5:=λy c g=>by
   by_cases q:y=a
   .exact q▸i.i5 a _ D
   .by_cases r:y=pl
    .exact r▸i.i5 pl _ I
    .exact i.i5 y c ((w q r).symm.trans g)
  wl:=E i.wl trivial
  p9:=p9
  pt:=λy m=>by
   rw[C]at m;rcases bn.mp m with m|m
   .exact (u y (.inl m)).1.mono (av _) λb o=>w ((u y (.inl m)).2 b o).1 ((u y (.inl m)).2 b o).2
   .rcases aI.mp m with rfl|m
    .exact ⟨eH.same ..,(eH.ne _ _ (Ne.symm ne)).trans (eH.same ..),ap,Y,L.2.2.2.2⟩
    .exact (u y (.inr m)).1.mono (av _) λb o=>w ((u y (.inr m)).2 b o).1 ((u y (.inr m)).2 b o).2
  O:=by rw[C,PR (x:=(.part a pl hh x t j,f,ps)) (y:=(.part a pl hh x t j,f',ps')) B];exact O
  k5:=k5
  op:=op
  dz:=λy m=>⟨E (i.dz y m).1 (i.dz y m).2.2,(i.dz y m).2⟩
  ul:=λl g=>i.ul l (by
   by_cases q:l=a
   .cases q;exact nomatch aC.inj ((eH.same ..).symm.trans g)
   .by_cases r:l=pl
    .cases r;exact nomatch aC.inj (((eH.ne _ _ q).trans (eH.same ..)).symm.trans g)
    .exact (w q r).symm.trans g)
  gd:=λy m l g=>p (i.gd y m l g)
  cl:=λy m=>⟨p (i.cl y m).1,(i.cl y m).2⟩
  an:=λs y g=>by rw[i.an s y g,e,C,IY (x:=(.part a pl hh x t j,f,ps)) (y:=(.part a pl hh x t j,f',ps')) B (iN s (by rw[<-i.tL];exact(anB.mp g).1))]
  lw:=λy m=>by
   rw[C]at m;rcases bn.mp m with m|m
   .exact lw y (by rw[e];exact aU _ m)
   .rcases aI.mp m with rfl|m
    .exact lw (.part a pl hh x t j,f,ps) R
    .exact lw y (by rw[e];exact aK _ (.tail _ m))
  jf:=by have:=i.jf;rw[e,nW]at this;rw[C,nW];exact aq (show n+z+G.dH.length+(iU v+(ps'.length+iU J))+c<=n+z+G.dH.length+(iU v+(ps.length+iU J))+b by exact cY l) this}
theorem cz.part{a pl:ai}{hh:Int}{x:iT}{t:ai}(f:cz A K cP Q W F n h z b G)(o:A.tag a=ah/\A.rest a=ah)(p:A.tag pl=ah/\A.rest pl=ah)(l:G.M a=ah)(i:G.M pl=ah)(ne:a≠pl)(cv:wk G.M (.part a pl hh x t n)):
  cz A K cP (Q++[(.part a pl hh x t n,ah,[])]) W F n h z b {G with M:=(G.M.set pl (.pa [])).set a (.part x hh ah pl)}:=by
 have eD:=f.PO p.1 p.2 i (.pa []) (λe=>nomatch e);have eE:=eD.PO o.1 o.2 ((eH.ne _ _ ne).trans l) (.part x hh ah pl) (λe=>nomatch e);have fc:(Q++[((.part a pl hh x t n:Way),((ah,[]):lV))])++W.zip F=Q++(.part a pl hh x t n,ah,[])::W.zip F:=by rw[bk];rfl
 have q:∀y∈Q++W.zip F,a∉y.1.tJ/\pl∉y.1.tJ:=λy m=>⟨f.BO (λc e=>mW l e) m,f.BO (λc e=>mW i e) m⟩
 exact{eE with
  pt:=λy m=>by
   rw[fc]at m;rcases bn.mp m with m|m
   .exact eE.pt y (aU _ m)
   .rcases aI.mp m with rfl|m
    .exact ⟨eH.same ..,(eH.ne _ _ (Ne.symm ne)).trans (eH.same ..),λv m=>(nomatch m),λm e=>(nomatch e),av _⟩
    .exact eE.pt y (aK _ m)
  O:=by
   refine fc▸?_;have O:=f.O;have g:a∉pb (Q++W.zip F):=λm=>(apD.mp m).elim λy e=>(q y e.1).1 e.2;have j:pl∉pb (Q++W.zip F):=λm=>(apD.mp m).elim λy e=>(q y e.1).2 e.2;unfold pb at O g j⊢;rw[anK]at O g j⊢;rw[apa];refine(List.perm_middle (l₁:=Q.flatMap λx:fM=>x.1.tJ) (a:=a) (l₂:=pl::(W.zip F).flatMap λx:fM=>x.1.tJ)).nodup_iff.mpr (bh.mpr ⟨λm=>?_,List.perm_middle.nodup_iff.mpr (bh.mpr ⟨j,O⟩)⟩);rcases bn.mp m with m|m
   .exact g (aU _ m)
   .exact (aI.mp m).elim ne λm=>g (aK _ m)
  k5:=λy m=>(bn.mp m).elim (f.k5 y) λm=>by refine(bD.mp m)▸?_;rfl
  an:=λs y r=>by rw[f.an s y r,fc,yu B]
  lw:=λy m=>by
   rw[fc]at m;rcases bn.mp m with m|m
   .exact eE.lw y (aU _ m)
   .rcases aI.mp m with rfl|m
    .exact (cv.set λu e=>mW i e).set λu e=>mW ((eH.ne _ _ ne).trans l) e
    .exact eE.lw y (aK _ m)
  jf:=by have:=f.jf;rw[nW]at this;rw[fc,nW];exact aq (show n+z+G.dH.length+(iU Q+(0+iU (W.zip F)))+b<=n+z+G.dH.length+(iU Q+iU (W.zip F))+b by rw[aoo];exact av _) this}
noncomputable def yv(e:Bool)(t:ai)(h:Int)(ps:List (Nat×Nat)):List yo:=ps.map λa=>⟨e,a.1,a.2,t,h⟩
theorem PS(s:Nat):∀a b,p8 (a++b) s=(p8 a s).or (p8 b s)
 |[]=>λ_=>B
 |c::a=>λb=>by
  show(if _ then _ else p8 (a++b) s)=_;rw[PS s a b];by_cases e:c.first<=s/\s<c.last
  .rw [if_pos e];show _=Option.or (if _ then _ else _) _;rw[if_pos e];rfl
  .rw [if_neg e];show _=Option.or (if _ then _ else _) _;rw[if_neg e]
theorem PT(s:Nat):∀ps,p8 (yv e t h ps) s=if ps.any (λq=>decide (q.1<=s)&&decide (s<q.2))then ae (t,h)else ah
 |[]=>rfl
 |q::ps=>by
  show(if q.1<=s/\s<q.2 then _ else p8 (yv e t h ps) s)=_;rw[PT s ps,aox];by_cases c:q.1<=s/\s<q.2
  .rw [if_pos c,decide_eq_true c.1,decide_eq_true c.2];rfl
  .rw [if_neg c];have:(decide (q.1<=s)&&decide (s<q.2))=ag:=by rw[<-Bool.decide_and];exact decide_eq_false c
   rw[this,Bool.false_or]
theorem cz.ae5(e:Bool)(f:cz A K cP (Q++[(.part a pl hh x t e0,ah,ps)]) W F n h z b G)(i:∀x∈Q,∀s,e0<=s->m7 x s=ag):cz A K cP Q W F n h z b {G with dH:=G.dH++yv e t hh ps}:=by
 have fc:(Q++[((.part a pl hh x t e0:Way),((ah,ps):lV))])++W.zip F=Q++(.part a pl hh x t e0,ah,ps)::W.zip F:=by rw[bk];rfl
 have sub:∀y,y∈Q++W.zip F->y∈(Q++[((.part a pl hh x t e0:Way),((ah,ps):lV))])++W.zip F:=λy m=>by rw[fc];exact(bn.mp m).elim (aU _) λm=>aK _ (.tail _ m)
 have l:((.part a pl hh x t e0,ah,ps):fM)∈(Q++[((.part a pl hh x t e0:Way),((ah,ps):lV))])++W.zip F:=by rw[fc];exact aK _ (.head _)
 have o:=f.pt _ l;have lt:=f.lw _ l
 exact{f with
  pt:=λy m=>f.pt y (sub y m)
  O:=by have O:=f.O;rw[fc]at O;unfold pb at O⊢;rw[anK,apa]at O;rw[anK];exact O.sublist (anW.append (anW.refl _) (List.sublist_append_right ..))
  k5:=λy m=>f.k5 y (aU _ m)
  cl:=λc m=>by
   rcases bn.mp m with m|m
   .exact f.cl c m
   .refine c_ (bC.mp m) λg j q=>?_;obtain rfl:=q;exact⟨lt.1,(o.2.2.1 g j).2⟩
  an:=λs y p=>by
   rw[f.an s y p,fc];show _=(p8 (G.dH++_) s).or _;rw[PS,PT];cases c:ps.any (λg=>decide (g.1<=s)&&decide (s<g.2))with
   |false=>rw[yu (show m7 (.part a pl hh x t e0,ah,ps) s=ag from(congrArg (·||false) c)),if_neg anI,Option.or_none]
   |true=>
    refine c_ (apo.mp c) λg j eq=>?_;have bs:e0<=s:=aq (o.2.2.1 g j).1 (of_decide_eq_true (Bool.and_eq_true_iff.mp eq).1);have:∀Q:List fM,(∀x∈Q,∀s,e0<=s->m7 x s=ag)->p7 (Q++(.part a pl hh x t e0,ah,ps)::W.zip F) s=ae (t,hh):=λQ i=>by
     induction Q with
     |nil=>exact if_pos (congrArg (·||false) c)
     |cons y Q r=>exact(if_neg ((i y (.head _) s bs)▸anI)).trans (r λx m=>i x (.tail _ m))
    rw[this Q i,if_pos B];cases p8 G.dH s<;>rfl
  lw:=λy m=>f.lw y (sub y m)
  jf:=by have:=f.jf;rw[fc,nW]at this;rw[nW,bA,show(yv e t hh ps).length=ps.length from aX ..];exact aq (show n+z+(G.dH.length+ps.length)+(iU Q+iU (W.zip F))+b<=n+z+G.dH.length+(iU Q+(ps.length+iU (W.zip F)))+b by k_is) this}
end
section
variable{u1 zX:List (ai×Cell)}{ys W':List Way}{Q':List fM}{F':List lV}{c:Nat}{r:g9 ai}
theorem cz.nl(a:cz A K cP Q W F n h z b G):n<=900000:=aq (by k_is) a.jf
theorem cz.yw(a:cz A K cP Q W F n h z b G):G.rows.length<=900000:=a.tL▸a.nl
theorem cz.hV(a:cz A K cP Q W F n h z b G)(m:(l,.gm p)∈K):hU G.M l:=⟨p,(a.dz _ m).1⟩
theorem cz.lam{R lam}(a:cz A K cP Q W F n h z b G)(g:Good R lam G){l p}(m:(l,.gm (ae p))∈K):lam l=p:=g.u0 _ _ (a.dz _ m).1
theorem cz.wo(a:cz A K cP Q W F n h z b G){l c}(m:(l,c)∈K):heapOf A G l=ae (sH c):=il (a.i5 _ _ (a.dz _ m).1).1 (a.dz _ m).1
theorem cz.sM(a:cz A K cP Q W F n h z b G):heapOf A G G.wl=ae (.list (cP.map Way.toV).reverse):=il (a.i5 _ _ a.wl).1 a.wl
theorem rz(h:hU M l):∀q,ae l=ae q->hU M q:=λ_ e=>aC.inj e▸h
theorem fc(h:Int):h-0+1=h+1:=by rw[Int.sub_zero]
theorem ch(h:Int):h+1-1+0=h:=by exact anL (by k_is) (by k_is)
theorem cf(h:Int):h-0+0=h:=by exact anL (by k_is) (by k_is)
theorem eC(h:Int):h+1-1+1=h+1:=by exact anL (by k_is) (by k_is)
theorem hY(h:Int):h+1+1-2+1=h+1:=by exact anL (by k_is) (by k_is)
abbrev sN(A:m5)(K:List (ai×Cell))(cP:List Way)(Q:List fM)(W:List Way)(F:List lV)(n:Nat)(h:Int)(z b:Nat)(G:jn)(r:g9 ai)(X:bT):Prop:=
 ∀a,cz A K cP Q W F (n+1) h z b a->fI G a->EN a n r (tK W)->X (heapOf A a)
theorem wp(r:g9 ai)(a:cz A K cP Q W F n h z (b+1) G)(e:h-r.tk+r.gv=h')(hd:5<=d)(cv:∀l,rx r=ae l->hU G.M l)(f:∀v,sN A K cP Q W F n h' z b G r (k v)):U d 694 [.ref (A.adr .m),.str (qJ r),rp r,rq r,rr r] k (heapOf A G):=
 aeW hd r (tK W) a.yw λv=>f v _ (a.put r e cv) (ae4 ..) (ae3 a ..)
theorem EQ(r:g9 ai)(a:cz A K cP Q W F n h z (b+1) G)(e:h-r.tk+r.gv=h')(hd:5<=d)(f:sN A K cP Q W F n h' z b G r X)(cv:∀l,rx r=ae l->hU G.M l:=by exact λ_ h=>cV h):
  cB d (.ref (A.adr .m)) eQ [.str (qJ r),rp r,rq r,rr r] (λ_=>X) (heapOf A G):=EI (wp r a e hd cv λ_=>f)
theorem rA(r:g9 ai)(a:cz A K cP Q W F n h z (b+1) G)(e:h-r.tk+r.gv=h')(c:rr r=.none)(hd:5<=d)(f:sN A K cP Q W F n h' z b G r X)(cv:∀l,rx r=ae l->hU G.M l:=by exact λ_ h=>cV h):
  cB d (.ref (A.adr .m)) eQ [.str (qJ r),rp r,rq r] (λ_=>X) (heapOf A G):=by
 obtain⟨d,rfl⟩:∃e,d=e+1:=⟨d-1,fw hd B⟩;exact EI (cO IE (c▸wp r a e hd cv λ_=>f))
theorem pd(r:g9 ai)(a:cz A K cP Q W F n h z (b+1) G)(e:h-r.tk+r.gv=h')(c:rq r=.none/\rr r=.none)(hd:5<=d)(f:sN A K cP Q W F n h' z b G r X)(cv:∀l,rx r=ae l->hU G.M l:=by exact λ_ h=>cV h):
  cB d (.ref (A.adr .m)) eQ [.str (qJ r),rp r] (λ_=>X) (heapOf A G):=by
 obtain⟨d,rfl⟩:∃e,d=e+1:=⟨d-1,fw hd B⟩;have:=wp (k:=λ_=>X) r a e hd cv λ_=>f;rw[c.1,c.2]at this;exact EI (cO Pi this)
theorem wq(r:g9 ai)(a:cz A K cP Q W F n h z (b+1) G)(e:h-r.tk+r.gv=h')(c:rp r=.none/\rq r=.none/\rr r=.none)(hd:5<=d)(f:sN A K cP Q W F n h' z b G r X)(cv:∀l,rx r=ae l->hU G.M l:=by exact λ_ h=>cV h):
  cB d (.ref (A.adr .m)) eQ [.str (qJ r)] (λ_=>X) (heapOf A G):=by
 obtain⟨d,rfl⟩:∃e,d=e+1:=⟨d-1,fw hd B⟩;have:=wp (k:=λ_=>X) r a e hd cv λ_=>f;rw[c.1,c.2.1,c.2.2]at this;exact EI (cO acZ this)
theorem I1(r:g9 ai)(a:cz A K cP Q W F n h z (b+1) G)(e:h-r.tk+r.gv=h')(c:rq r=.none/\rr r=.none)(hd:6<=d)(f:sN A K cP Q W F n h' z b G r X)(cv:∀l,rx r=ae l->hU G.M l:=by exact λ_ h=>cV h):
  cB d (.ref (A.adr .c)) eQ [.str (qJ r),rp r] (λ_=>X) (heapOf A G):=by
 obtain⟨d,rfl⟩:∃e,d=e+1:=⟨d-1,fw hd B⟩;have:=EQ (X:=X) r a e (alT hd) f cv;rw[c.1,c.2]at this;exact PE (cO Po (cO IL (hN this)))
theorem I2(r:g9 ai)(a:cz A K cP Q W F n h z (b+1) G)(e:h-r.tk+r.gv=h')(c:rp r=.none/\rq r=.none/\rr r=.none)(hd:6<=d)(f:sN A K cP Q W F n h' z b G r X)(cv:∀l,rx r=ae l->hU G.M l:=by exact λ_ h=>cV h):
  cB d (.ref (A.adr .c)) eQ [.str (qJ r)] (λ_=>X) (heapOf A G):=by
 obtain⟨d,rfl⟩:∃e,d=e+1:=⟨d-1,fw hd B⟩;have:=EQ (X:=X) r a e (alT hd) f cv;rw[c.1,c.2.1,c.2.2]at this;exact PE (cO adB (cO IL (hN this)))
theorem ER(h:dX (.glob 694,[.ref (A.adr .m)]) (heapOf A G)):methP (.ref (A.adr .m)) eQ dX (heapOf A G):=uZ (b:=.m) (f:=694) B B B B h
theorem ae6(h:dX (.glob 722,[.ref (A.adr .m)]) (heapOf A G)):methP (.ref (A.adr .m)) uC dX (heapOf A G):=uZ (b:=.m) (f:=722) B B B B h
theorem ae7(h:dX (.glob 954,[.ref (A.adr .c)]) (heapOf A G)):methP (.ref (A.adr .c)) jl dX (heapOf A G):=uZ (b:=.c) (f:=954) B B B B h
theorem ae8(h:dX (.glob 946,[.ref (A.adr .c)]) (heapOf A G)):methP (.ref (A.adr .c)) Bo dX (heapOf A G):=uZ (b:=.c) (f:=946) B B B B h
theorem BQ{a:ai}{c:Cell}(g:∀p,G.M a≠ae (.gm (ae p))):fI G {G with M:=G.M.set a c}:=
 ⟨⟨[],(bB _).symm⟩,λl p e=>(eH.ne _ _ λf=>by replace e:=f▸e;exact g p e).trans e⟩
theorem zY{a:ai}{c:Cell}(f:G.M a=ah):fI G {G with M:=G.M.set a c}:=BQ λ_ e=>mW f e
theorem p'(g:cz A K cP Q W F n h z b G)(hd:2<=d)(i:∀a G',cz A ((a,.gm ah)::K) cP Q W F n h z b G'->fI G G'->k (.ref a) (heapOf A G')):cB d (.ref (A.adr .m)) nK [] k (heapOf A G):=
 aeR (aeX hd λa f e r=>i a _ (g.new f r e _ trivial) (zY e))
theorem p_(u1:List (ai×Cell))(a:cz A (u1++(l,.gm ah)::zX) cP Q W F n h z b G)(hd:1<=d)(g:∀G',cz A (u1++(l,.gm (ae n))::zX) cP Q W F n h z b G'->fI G G'->X (heapOf A G')):cB d (.ref (A.adr .m)) j8 [.ref l] (λ_=>X) (heapOf A G):=by have f:=(a.dz _ (aK u1 (.head _))).1;refine aeS (place_spec hd a.yw (a.i5 _ _ f).1 f ?_);exact a.tL▸(g _ a.place (BQ λi e=>nomatch aC.inj (f.symm.trans e)))
theorem zZ(a:cz A K cP Q W F n h z (b+1) G)(hd:2<=d)(f:∀G',cz A K cP Q W F n h (z+1) b G'->fI G G'->k (.int z) (heapOf A G')):cB d (.ref (A.adr .c)) uD [] k (heapOf A G):=by refine aeM (ae0 hd (show G.names.length<=900000 from a.EM▸aq (by k_is) a.jf) λe=>?_);rw[a.EM];exact f _ (a.ae2 e) ⟨⟨[],(bB _).symm⟩,λ_ _ h=>h⟩
theorem ae9(x:Int):fI G {G with f9:=x}:=⟨⟨[],(bB _).symm⟩,λ_ _ h=>h⟩
theorem rB(a:cz A K cP Q W F n h z b G)(x:Int)(e:∀G',cz A K cP Q W F n x z b G'->fI G G'->X (heapOf A G')):ej (.ref (A.adr .m)) fW (.int x) X (heapOf A G):=PC (e _ (a.ae1 x) (ae9 x))
theorem u2(e:cz A K cP Q W F n h z b G)(a:k (.int h) (heapOf A G)):b4 (.ref (A.adr .m)) fW k (heapOf A G):=PA (e.EL▸a)
section
theorem afa(x:iT)(h:Int)(f f':Option Nat)(pl:ai):put iB (wc f') ((fW,J.int h)::(iB,wc f)::(rf,.ref pl)::x.fs)=(fW,.int h)::(iB,wc f')::(rf,.ref pl)::x.fs:=by induction x using iT.casesOn<;>cbv
theorem PU(g:H a=ae (p4 x hh f pl))(e:k (wc f) H):b4 (.ref a) iB k H:=k0 g (by induction x using iT.casesOn<;>cbv) (by induction x using iT.casesOn<;>cbv) e
theorem PV(g:H a=ae (p4 x hh f pl))(e:k (.ref pl) H):b4 (.ref a) rf k H:=k0 g (by induction x using iT.casesOn<;>cbv) (by induction x using iT.casesOn<;>cbv) e
theorem ES(g:H a=ae (p4 x hh f pl))(e:k (.int hh) H):b4 (.ref a) fW k H:=k0 g (by induction x using iT.casesOn<;>cbv) (by induction x using iT.casesOn<;>cbv) e
theorem I3(f':Option Nat)(g:H a=ae (p4 x hh f pl))(e:X (H.set a (p4 x hh f' pl))):ej (.ref a) iB (wc f') X H:=
 gX g (by cases x<;>cbv) (by induction x using iT.casesOn<;>exact ay B) ((afa x hh f f' pl).symm▸e)
theorem z1(g:H a=ae (p4 x hh f pl))(n:look y ((fW,J.int hh)::(iB,wc f)::(rf,.ref pl)::x.fs)=ah)(l:mS x.cls y=ae fn)(e:dX (.glob fn,[.ref a]) H):methP (.ref a) y dX H:=D' g n (by induction x<;>cbv) l e
theorem eH.PW{M:eH}{a:ai}{c:Cell}(h:M a=ae c):eH.set M a c=M:=by
 funext y;by_cases e:y=a
 .rw [e,eH.same,h]
 .exact eH.ne _ _ e
end
noncomputable def sO(n:Nat)(ps:List (Nat×Nat))(m:Nat):List (Nat×Nat):=if m<n then ps++[(m,n)]else ps
theorem afb(e:cz A K cP Q (w::W) F n h z b G):∃f a,F=f::a/\a.length=W.length:=by
 have:=e.p9
 induction F using aE with
 |nil=>cases this
 |cons f a=>exact⟨f,a,B,aon.inj this⟩
noncomputable def ET:Way->Nat
 |.loop _ _ _ _=>0
 |.part _ _ _ _ _ _=>1
theorem close_w{w:Way}(g:cz A K cP Q (w::W) F n h z (b+ET w) G)(hd:1<=d)(Y:∀G' ps F',cz A K cP (Q++[(w,ah,ps)]) W F' n h z b G'->fI G G'->G'.wl=G.wl->X (heapOf A G')):
  (methP w.toV HV λm=>b4 (.ref (A.adr .c)) fX λu=>cl d m.1 (m.2++[u]) λ_=>X) (heapOf A G):=by
 obtain⟨d,rfl⟩:∃e,d=e+1:=⟨d-1,fw hd B⟩;refine lZ (afb g) λbV p a2 p9=>?_;obtain⟨f,ps⟩:=bV;obtain rfl:=a2;have C:∀V:List (Nat×Nat),(Q++[((w,(ah,V)):fM)])++W.zip p=Q++(w,ah,V)::W.zip p:=λ_=>by rw[bk];rfl
 have R:((w,(f,ps)):fM)∈(w::W).zip ((f,ps)::p):=.head _;have op:∀x∈W.zip p,isOpen x:=λx m=>g.op x (.tail _ m);have bY:=g.pt _ (aK Q R);have o0:=g.op _ R
 induction w using Way.casesOn with
 |loop hh w s q=>
  refine D_ (f:=136) B B B (hN (de B (cO aaD (Y G [] p ?_ (fI.refl G) B))))
  exact{g with
   p9:=p9
   pt:=λx m=>by
    rw[C]at m;rcases bn.mp m with m|m
    .exact g.pt x (aU _ m)
    .rcases aI.mp m with rfl|m
     .trivial
     .exact g.pt x (aK _ (.tail _ m))
   O:=by rw[C,PR (x:=(Way.loop hh w s q,f,ps)) (y:=(Way.loop hh w s q,ah,[])) B];exact g.O
   k5:=λx m=>(bn.mp m).elim (g.k5 x) λm=>by rw[bD.mp m];trivial
   op:=op
   an:=λs y ao=>by rw[g.an s y ao,C,IY (x:=(Way.loop hh w _ q,f,ps)) (y:=(Way.loop hh w _ q,ah,[])) B B];rfl
   lw:=λx m=>by
    rw[C]at m;rcases bn.mp m with m|m
    .exact g.lw x (aU _ m)
    .rcases aI.mp m with rfl|m
     .exact g.lw (Way.loop hh w s q,f,ps) (aK Q R)
     .exact g.lw x (aK _ (.tail _ m))
   jf:=by have:=g.jf;rw[nW]at this;rw[C,nW];exact aq (show n+z+G.dH.length+(iU Q+(0+iU (W.zip p)))+b<=n+z+G.dH.length+(iU Q+(ps.length+iU (W.zip p)))+b by k_is) this}
 |part a i hh x q I=>
  have g:cz A K cP Q (.part a i hh x q I::W) ((f,ps)::p) n h z (b+1) G:=g;obtain⟨m,rfl⟩:=o0;refine AG bY λv D Z S b5=>?_;have L:=g.i5 _ _ v;have N:=g.i5 _ _ D;have E:heapOf A G a=ae (p4 x hh (ae m) i):=il L.1 v;have ne:a≠i:=λc=>by rw[c]at v;exact nomatch aC.inj (v.symm.trans D)
  have b2:=(S m B).2;have ap:ps.length<=900000:=aq (show ps.length<=n+z+G.dH.length+(iU Q+(ps.length+iU (W.zip p)))+(b+1) by k_is) (by have:=g.jf;rw[nW]at this;exact this);have iN:∀s,s<n->m7 (.part a i hh x q I,ah,sO n ps m) s=m7 (.part a i hh x q I,ae m,ps) s:=λs l=>by
   show(_||false)=(_||decide (m<=s));unfold sO;rw[apC];by_cases c:m<n
   .rw [if_pos c,List.any_append,aox,List.any_nil,apC,decide_eq_true l,aoY]
   .rw [if_neg c,decide_eq_false (Nat.not_le.mpr (apu l (apU c))),apC]
  have bZ:∀j∈sO n ps m,I<=j.1/\j.1<j.2/\j.2<=n:=λj t=>by
   unfold sO at t;by_cases c:m<n
   .rw [if_pos c]at t;rcases bn.mp t with t|t
    .exact Z j t
    .exact (bD.mp t)▸(⟨(S m B).1,c,av _⟩)
   .rw [if_neg c]at t;exact Z j t
  have bd:(sO n ps m).length<=ps.length+1:=by unfold sO;by_cases c:m<n<;>simp[c]
  have a1:=g.st (Q':=Q++[(.part a i hh x q I,ah,sO n ps m)]) (W':=W) (F':=p) (c:=b) B (C _) p9 iN bZ (λm e=>nomatch e) (λx m=>(bn.mp m).elim (g.k5 x) λm=>by rw[bD.mp m];rfl) op (cY bd);have fin:X (heapOf A {G with M:=(G.M.set i (.pa (sO n ps m))).set a (.part x hh ah i)}):=Y _ _ _ a1 ⟨⟨[],(bB _).symm⟩,λl b7 e=>((eH.ne _ _ λj=>by rw[j,v]at e;exact nomatch aC.inj e).trans (eH.ne _ _ λj=>by rw[j,D]at e;exact nomatch aC.inj e)).trans e⟩ B;refine z1 E (by cases x<;>cbv) (fn:=178) (by cases x<;>cbv) (hN (de B (cO aaH (yq (BM (fa g.yw B) (PU E (wj ?_)))))));refine g.tL▸?_;by_cases c:m<n
  .rw [decide_eq_true (show(m:Int)<n by exact anH.mpr c)];refine dI (PV E (tI (il N.1 D) (PU E (yq (BM (fa g.yw B) (c7 B (sK (il N.1 D) (by rw[aX];exact fa ap B) ?_)))))));rw[g.tL,p5 N.1 (.pa (sO n ps m)) (by unfold sO;rw[if_pos c];show _=hg.list _;rw[bG];rfl)];refine I3 ah (f:=ae m) (x:=x) (hh:=hh) (pl:=i) (il (c:=.part x hh (ae m) i) L.1 ((eH.ne _ _ ne).trans v)) ?_;rw[p5 (o:=p4 x hh ah i) L.1 (.part x hh ah i) B];exact fin
  .rw [decide_eq_false (show ¬(m:Int)<n by exact λh=>c (anH.mp h))];refine c6 (I3 ah E ?_);rw[p5 (o:=p4 x hh ah i) L.1 (.part x hh ah i) B];rw[show sO n ps m=ps from if_neg c,eH.PW D]at fin;exact fin
theorem PX{w:Way}{f:lV}(g:cz A K cP (Q++[(w,f)]) W F n h z b G)(hd:1<=d)(C:∀G' f',cz A K cP Q (w::W) (f'::F) n h z b G'->fI G G'->X (heapOf A G')):
  (methP w.toV H2 λm=>b4 (.ref (A.adr .c)) fX λu=>cl d m.1 (m.2++[u]) λ_=>X) (heapOf A G):=by
 obtain⟨d,rfl⟩:∃e,d=e+1:=⟨d-1,fw hd B⟩;obtain⟨f,i⟩:=f;have j:(Q++[((w,(f,i)):fM)])++W.zip F=Q++(w,f,i)::W.zip F:=by rw[bk];rfl
 have D:((w,(f,i)):fM)∈Q++[((w,(f,i)):fM)]:=aK _ (.head _);have R:=g.pt _ (aU (W.zip F) D);have L:=g.k5 _ D;have k5:∀x∈Q,zW x:=λx m=>g.k5 x (aU _ m)
 induction w using Way.casesOn with
 |loop hh w s E=>
  refine D_ (f:=129) B B B (hN (de B (cO aaC (C G (f,i) ?_ (fI.refl G)))))
  exact{g with
   p9:=congrArg (·+1) g.p9
   pt:=λx m=>g.pt x (j▸m)
   O:=by have:=g.O;rw[j]at this;exact this
   k5:=k5
   op:=λx m=>(aI.mp m).elim (λe=>by rw[e];trivial) (g.op x)
   an:=λs y I=>by have:=g.an s y I;rw[j]at this;exact this
   lw:=λx m=>g.lw x (j▸m)
   jf:=by have:=g.jf;replace this:=j▸this;exact this}
 |part a o hh x E V=>
  obtain rfl:f=ah:=L;refine AG R λp N S Y M=>?_;have t:=g.i5 _ _ p;have v:heapOf A G a=ae (p4 x hh ah o):=il t.1 p;have q:=g.st (f':=ae n) (ps':=i) (Q':=Q) (W':=.part a o hh x E V::W) (F':=(ae n,i)::F) (c:=b) j B (congrArg (·+1) g.p9) (λs l=>by show(_||decide (n<=s))=(_||false);rw[decide_eq_false (Nat.not_le.mpr l)]) S (λm e=>by exact(aC.inj e)▸(⟨M,av _⟩)) k5 (λx m=>(aI.mp m).elim (λe=>by rw[e];exact⟨n,B⟩) (g.op x)) (av _)
  replace q:=(eH.PW N)▸q;refine z1 v (by cases x<;>cbv) (fn:=171) (by cases x<;>cbv) (hN (de B (cO aaG (yq (BM (fa g.yw B) (I3 (ae G.rows.length) v ?_))))));rw[p5 t.1 (.part x hh (ae n) o) (by rw[g.tL];rfl)];exact C _ _ q (BQ λZ e=>nomatch aC.inj (p.symm.trans e))
end
section
theorem EV(a:cz A K W (Q++[(w,f)]) W F n h z b G)(hd:3<=d)(lw:W.length<=1000)(g:∀G' f',cz A K (w::W) Q (w::W) (f'::F) n h z b G'->fI G G'->X (heapOf A G')):U d 258 [.ref (A.adr .c),w.toV] (λ_=>X) (heapOf A G):=by obtain⟨d,rfl⟩:∃e,d=e+3:=⟨d-3,fw hd B⟩;refine cO aaW (tH (EJ a.sM (by rw[bN,aX];exact fa lw B) ?_));rw[p5 (a.i5 _ _ a.wl).1 (.lT (w::W)) (congrArg hg.list (by rw[aL,bM]))];exact PX (a.PP (w::W)) (cn B) λG' f' i x=>g G' f' i ((BQ λj e=>nomatch aC.inj (a.wl.symm.trans e)).trans x)
theorem EW(a:cz A K (w::W) Q (w::W) F n h z (b+ET w) G)(hd:3<=d)(lw:W.length<=1000)(g:∀G' ps F',cz A K W (Q++[(w,ah,ps)]) W F' n h z b G'->fI G G'->X (heapOf A G')):U d 265 [.ref (A.adr .c)] (λ_=>X) (heapOf A G):=by obtain⟨d,rfl⟩:∃e,d=e+3:=⟨d-3,fw hd B⟩;have f:=a.sM;rw[aL,bM]at f;refine cO aaX (tH (PH f (by rw[bN,aX];exact fa lw B) ?_));exact(p5 (o:=.list (W.map Way.toV).reverse) (a.i5 _ _ a.wl).1 (.lT W) B)▸(close_w (a.PP W) (cn B) λG' ps F' i x _=>g G' ps F' i ((BQ λj e=>nomatch aC.inj (a.wl.symm.trans e)).trans x))
theorem cz.loop(a:cz A K cP Q W F n h z b G)(ls:hU G.M s)(lt:hU G.M t):cz A K cP (Q++[(.loop hh w s t,ah,[])]) W F n h z b G:=by
 have fc:(Q++[((.loop hh w s t,ah,[]):fM)])++W.zip F=Q++(.loop hh w s t,ah,[])::W.zip F:=by rw[bk];rfl
 have sub:∀{f:fM->Prop},(∀y∈Q++W.zip F,f y)->f (.loop hh w s t,ah,[])->∀y∈(Q++[((.loop hh w s t,ah,[]):fM)])++W.zip F,f y:=λc g y m=>by
  rw[fc]at m;rcases bn.mp m with m|m
  .exact c y (aU _ m)
  .exact (aI.mp m).elim (λe=>e▸g) λm=>c y (aK _ m)
 exact{a with
  pt:=sub a.pt trivial
  O:=by have:=a.O;rw[fc];unfold pb at this⊢;rw[anK]at this⊢;exact this
  k5:=λx m=>(bn.mp m).elim (a.k5 x) λm=>by refine(bD.mp m)▸?_;trivial
  an:=λs y c=>by rw[a.an s y c,fc,yu B]
  lw:=sub a.lw ⟨ls,lt⟩
  jf:=by have:=a.jf;rw[nW]at this;rw[fc,nW];exact aq (show _+(iU Q+(0+iU (W.zip F)))+b<=_ by rw[aoo];exact av _) this}
theorem cz.afd(a:cz A K cP (Q++[(.loop hh w s t,f)]) W F n h z b G):cz A K cP Q W F n h z b G:=by
 have fc:(Q++[((.loop hh w s t,f):fM)])++W.zip F=Q++(.loop hh w s t,f)::W.zip F:=by rw[bk];rfl
 have sub:∀y,y∈Q++W.zip F->y∈(Q++[((.loop hh w s t,f):fM)])++W.zip F:=λy m=>by rw[fc];exact(bn.mp m).elim (aU _) λm=>aK _ (.tail _ m)
 exact{a with
  pt:=λy m=>a.pt y (sub y m)
  O:=by have:=a.O;rw[fc]at this;unfold pb at this⊢;rw[anK]at this⊢;exact this
  k5:=λy m=>a.k5 y (aU _ m)
  an:=λs y c=>by rw[a.an s y c,fc,yu B]
  lw:=λy m=>a.lw y (sub y m)
  jf:=by have:=a.jf;rw[fc,nW]at this;rw[nW];exact aq (show _+(iU Q+iU (W.zip F))+b<=_+(iU Q+(f.2.length+iU (W.zip F)))+b by k_is) this}
theorem afe(a:k (Way.toV (.loop hh w s t)) H):cl (d+1) (.glob 146) [.int hh,.bool w,.ref s,.ref t] k H:=by show eX (.inst 146 []) (λx=>U (d+1) 122 [x,.int hh,.bool w,.ref s,.ref t] λ(r:J)(H:bW)=>r=J.none/\lK 146 x k H) H;intro x ce;refine cO aaA (gX (bW.set_same ..) B (ay B) (gX (bW.set_same ..) B (ay B) (gX (bW.set_same ..) B (ay B) (gX (bW.set_same ..) B (ay B) ⟨B,zx (fs:=[(fW,.int hh),(nP,.bool w),(zF,.ref s),(tv,.ref t)]) B ((bW.set_same ..).trans B) ?_ ce a⟩))));intro c cu;simp only[bW.el _ _ cu]
theorem PY(h:U d 164 as k H):cB d (.glob 195) HS as k H:=by exact Y8 (f:=164) B B (de (d:=d) B h)
theorem I5(hd:1<=d)(i:r3 C fW=af)(l:r3 C iB=af)(j:r3 C rf=af)(g:H a=ae (.inst C []))
  (m:∀pl,H pl=ah->k .none ((H.set pl (.list [])).set a (.inst C [(fW,.int h),(iB,.none),(rf,.ref pl)]))):U d 164 [.ref a,.int h] k H:=by
 obtain⟨d,rfl⟩:∃e,d=e+1:=⟨d-1,by exact fw hd B⟩;rw[aaF];refine gX g i (bH _) (gX (bW.set_same ..) l (ay B) (c7 B (new_ λpl f=>?_)));have ne:a≠pl:=λe=>by rw[<-e,bW.set_same]at f;exact gS f
 have o:H pl=ah:=by rw[bW.el _ _ (Ne.symm ne),bW.el _ _ (Ne.symm ne)]at f;exact f
 refine gX (C:=C) (fs:=[(fW,.int h),(iB,.none)]) ((bW.el _ _ ne).trans ((bW.set_same ..).trans B)) j (ay B) ?_;have e:∀(eO f_:hg),bW.set (bW.set (bW.set (bW.set H a eO) a f_) pl (.list [])) a (.inst C (put rf (.ref pl) [(fW,J.int h),(iB,J.none)]))=(H.set pl (.list [])).set a (.inst C [(fW,.int h),(iB,.none),(rf,.ref pl)]):=λeO f_=>by
  funext b;unfold bW.set;by_cases c:b=a
  .rw [if_pos c,if_pos c];exact congrArg ae B
  .simp only[if_neg c]
 rw[e];exact m pl o
theorem I6(H:bW)(a pl:ai)(eO o f_:hg):((H.set a eO).set pl o).set a f_=(H.set pl o).set a f_:=by
 funext x;unfold bW.set;by_cases e:x=a
 .rw [if_pos e,if_pos e]
 .rw [if_neg e,if_neg e,if_neg e]
noncomputable abbrev EX(A:m5)(K:List (ai×Cell))(cP:List Way)(Q:List fM)(W:List Way)(F:List lV)(n:Nat)(h:Int)(z b:Nat)(G:jn)(hh:Int)(x:iT)(t:ai)(k:cZ):Prop:=
 ∀a e c,cz A K cP (Q++[(.part a e hh x t n,ah,[])]) W F n h z b c->fI G c->k (.ref a) (heapOf A c)
theorem I7(i:cz A K cP Q W F n h z b G)(cv:wk G.M (.part 0 0 hh x t n))(m:EX A K cP Q W F n h z b G hh x t k)(l:heapOf A G a=ah)(c:(heapOf A G).set a (.inst x.cls []) pl=ah):k (.ref a) (((heapOf A G).set pl (.list [])).set a (p4 x hh ah pl)):=by
 have ne:a≠pl:=λe=>by rw[<-e,bW.set_same]at c;exact gS c
 rw[bW.el _ _ (Ne.symm ne)]at c;refine iw (yp l) λt1 f p=>iw (yp c) λc5 g j=>?_;rw[p5 (o:=.list []) c5 (.pa []) B,p5 (o:=p4 x hh ah pl) t1 (.part x hh ah pl) B];exact m a pl _ (i.part ⟨t1,p⟩ ⟨c5,j⟩ f g ne (by induction x using iT.casesOn<;>exact cv)) ((zY g).trans (zY (G:={G with M:=G.M.set pl (.pa [])}) ((eH.ne _ _ ne).trans f)))
theorem afi(c:cz A K cP Q W F n h z b G)(hd:2<=d)(cv:hU G.M t)(f:EX A K cP Q W F n h z b G hh .plain t k):cl d (.glob 195) [.int hh] k (heapOf A G):=by obtain⟨d,rfl⟩:∃e,d=e+2:=⟨d-2,fw hd B⟩;show eX (.inst 195 []) (λx=>U (d+2) 164 [x,.int hh] λ(r:J)(H:bW)=>r=J.none/\lK 195 x k H) (heapOf A G);intro a dN;refine I5 (cn B) B B B (bW.set_same ..) λi g=>⟨B,?_⟩;rw[I6];exact I7 c ⟨cv,trivial⟩ f dN g
theorem afj(c:cz A K cP Q W F n h z b G)(hd:3<=d)(cv:hU G.M t)(f:EX A K cP Q W F n h z b G hh (.dZ l) t k):cl d (.glob 223) [.int hh,toV l] k (heapOf A G):=by obtain⟨d,rfl⟩:∃e,d=e+3:=⟨d-3,fw hd B⟩;show eX (.inst 223 []) (λx=>U (d+3) 213 [x,.int hh,toV l] λ(r:J)(H:bW)=>r=J.none/\lK 223 x k H) (heapOf A G);intro a dN;refine cO aaQ (PY (I5 (cn B) B B B (bW.set_same ..) λi g=>gX (bW.set_same ..) B (ay B) ⟨B,?_⟩));rw[set_set,I6];exact I7 (x:=.dZ l) c ⟨cv,trivial⟩ f dN g
theorem afk(c:cz A K cP Q W F n h z b G)(hd:3<=d)(cv:hU G.M t/\hU G.M gY)(f:EX A K cP Q W F n h z b G hh (.hand kept gY) t k):cl d (.glob 249) [.int hh,.int kept,.ref gY] k (heapOf A G):=by obtain⟨d,rfl⟩:∃e,d=e+3:=⟨d-3,fw hd B⟩;show eX (.inst 249 []) (λx=>U (d+3) 239 [x,.int hh,.int kept,.ref gY] λ(r:J)(H:bW)=>r=J.none/\lK 249 x k H) (heapOf A G);intro a dN;refine cO aaS (PY (I5 (cn B) B B B (bW.set_same ..) λi g=>gX (bW.set_same ..) B (ay B) (gX (bW.set_same ..) B (ay B) ⟨B,?_⟩)));rw[set_set,set_set,I6];exact I7 (x:=.hand kept gY) c cv f dN g
theorem afl(hd:2<=d)(lm:G.dH.length<=sI)(a:k .none (heapOf A {G with dH:=G.dH++[⟨e,f,l,t,h⟩]})):U d 722 [.ref (A.adr .m),.str (nV e),.int f,.int l,.ref t,.int h] k (heapOf A G):=by
 obtain⟨d,rfl⟩:∃e,d=e+2:=⟨d-2,by exact fw hd B⟩;have lm:G.dH.length<=900000:=lm;rw[ac5];refine Pz (tI (jx .cl) ?_);show eX (.inst 598 []) (λx=>U (d+1) 588 [x,.str (nV e),.int f,.int l,.ref t,.int h] λ(r:J)(H:bW)=>r=J.none/\lK 598 x _ H) (heapOf A G);intro x ce;rw[Pg];refine gX (bW.set_same ..) B (ay B) (gX (bW.set_same ..) B (ay B) (gX (bW.set_same ..) B (ay B) (gX (bW.set_same ..) B (ay B) (gX (bW.set_same ..) B (ay B) ⟨B,zx (fs:=[(pW,.str (nV e)),(iB,.int f),(nL,.int l),(nO,.ref t),(pT,.int h)]) B ((bW.set_same ..).trans B) ?_ ce ?_⟩))))
 .intro c cu;simp only[bW.el _ _ cu]
 refine sK (jx .cl) (by simp;exact fa lm B) ?_;rw[show(heapOf A G).set (A.adr .cl) (.list (G.dH.map zU++[.obj 598 ([(pW,J.str (nV e)),(iB,.int f),(nL,.int l),(nO,.ref t),(pT,.int h)].map (·.1)) ([(pW,J.str (nV e)),(iB,.int f),(nL,.int l),(nO,.ref t),(pT,.int h)].map (·.2))]))=heapOf A {G with dH:=G.dH++[⟨e,f,l,t,h⟩]}from zV .cl (λb e=>by induction b using lU.casesOn<;>first|rfl|exact absurd rfl e) (congrArg hg.list bG) rfl];exact a
theorem PZ(hd:2<=d)(M:eH)(y:A.tag a=ah)(g:M a=ae (.part x h f pl))(w:∀G:jn,G.M=M->src (heapOf A G)):
  ∀(ps:List (Nat×Nat))(G:jn)(u v:d6),G.M=M->G.dH.length+ps.length<=sI->((u=.un/\v=.un)\/∃p r,u=.Y p/\v=.Y r)->
  (∀u v,((u=.un/\v=.un)\/∃p r,u=.Y p/\v=.Y r)->κ.cQ (oq (.ref a) (.ref (A.adr .m)) (.str (nV e)) (.ref t) u v) (heapOf A {G with dH:=G.dH++yv e t h ps}))->
  forL src (eG (U d) 198 (dS (bX 192 1))) κ (ps.map zT) (oq (.ref a) (.ref (A.adr .m)) (.str (nV e)) (.ref t) u v) (heapOf A G)
 |[]=>λG u v i _ j s=>by have:=s u v j;have e:{G with dH:=G.dH++yv e t h []}=G:=congrArg (λc=>{G with dH:=c}) (bB G.dH);exact⟨w G i,e▸this⟩
 |q::ps=>λG u v i l j s=>by
  refine⟨w G i,?_⟩;have body:∀o:cD,o.cQ (oq (.ref a) (.ref (A.adr .m)) (.str (nV e)) (.ref t) (.Y (.int q.1)) (.Y (.int q.2))) (heapOf A {G with dH:=G.dH++[⟨e,q.1,q.2,t,h⟩]})->eG (U d) 198 (dS (bX 192 1)) (zT q) (oq (.ref a) (.ref (A.adr .m)) (.str (nV e)) (.ref t) u v) o (heapOf A G):=λo E=>by
   have D:(hu 2 (methP (.ref (A.adr .m)) uC λC=>b4 (.ref a) fW λI=>cl d C.1 (C.2++[.str (nV e),.int q.1,.int q.2,.ref t,I]) λL=>o.cQ (oq (.ref a) (.ref (A.adr .m)) (.str (nV e)) (.ref t) (.Y (.int q.1)) (.Y (.int q.2))))) (heapOf A G):=
    gR (ae6 (ES (il (c:=.part x h f pl) y (i▸g)) (de B (afl hd (by simp at l;exact ank l) E))))
   rcases j with⟨rfl,rfl⟩|⟨p,r,rfl,rfl⟩
   .unfold zT;rw[aaM];exact D
   .unfold zT;rw[aaN];exact D
  refine body _ (PZ hd M y g w ps {G with dH:=G.dH++[⟨e,q.1,q.2,t,h⟩]} _ _ i (by simp at l⊢;exact AC l) (.inr ⟨_,_,B,B⟩) λu v j=>?_);have:=s u v j;exact(bk G.dH [⟨e,q.1,q.2,t,h⟩] (yv e t h ps)).symm▸this
theorem I8(c:cz A K cP (Q++[(.part a pl hh x t e0,ah,ps)]) W F n h z b G)(hd:3<=d)(r:∀x∈Q,∀s,e0<=s->m7 x s=ag)(u:∀G',cz A K cP Q W F n h z b G'->fI G G'->X (heapOf A G')):
  cB d (.ref a) uC [.ref (A.adr .m),.str (nV e),.ref t] (λ_=>X) (heapOf A G):=by
 obtain⟨d,rfl⟩:∃e,d=e+3:=⟨d-3,fw hd B⟩;have v:((.part a pl hh x t e0,ah,ps):fM)∈Q++[((.part a pl hh x t e0,ah,ps):fM)]:=aK _ (.head _);refine iw (c.pt _ (aU (W.zip F) v)) λg f _=>?_;have j:=(c.i5 _ _ g).1;have i:=(c.i5 _ _ f).1;have o:G.dH.length+ps.length<=900000:=by have:=c.jf;rw[nW,nW]at this;exact aq (show G.dH.length+ps.length<=n+z+G.dH.length+(iU Q+(ps.length+0)+iU (W.zip F))+b by k_is) this
 have l:heapOf A G a=ae (p4 x hh ah pl):=il j g;refine z1 l (by cases x<;>cbv) (fn:=192) (by cases x<;>cbv) (de (d:=d+3) B ?_);refine cO aaK (cO aaL (PV l ⟨.li (ps.map zT),?_,by simp only[lq,aX];exact cY o,?_⟩))
 .have:=il i f;exact kj this
 .refine PZ (e:=e) (t:=t) (cn B) G.M j g (λG' e=>?_) ps G _ _ B o (.inl ⟨B,B⟩) λC D w=>?_
  .have q:=il (A:=A) (G:=G') i (e.symm▸f);have p:=il i f;exact(kj q).trans (kj p).symm
  .have fin:=u _ (c.ae5 e r) ⟨⟨[],(bB _).symm⟩,λ_ _ h=>h⟩;rcases w with⟨rfl,rfl⟩|⟨y,E,rfl,rfl⟩
   .exact cO (aaP (d:=d+2)) fin
   .exact cO (aaO (d:=d+2)) fin
end
end
noncomputable def dR:T->Nat
 |.seq1 a=>dR a
 |.gn a b=>max (dR a) (dR b)
 |.arr a b=>max (dR a) (1+dR b)
 |.fm _ b=>dR b
 |.bare b=>dR b
 |.eV _ d _ c e b=>max (max (dR d) (dR c)) (max (dR e) (dR b))
 |.dZ x l=>dR x+dR l+1
 |.nil=>0
 |.mark _=>0
 |.h4 _=>0
 |.seen=>0
 |.brk _=>0
 |.dQ _=>0
 |.ret _=>0
 |.once _=>0
theorem afm(a b:T):dR (.gn a b)=max (dR a) (dR b):=rfl
noncomputable def jo(b:Nat)(h:Int):List Way->Prop
 |[]=>True
 |.loop f6 _ _ _::W=>f6<=h/\h+b<=f6+3/\jo b h W
 |.part _ _ _ .plain _ _::W=>jo b h W
 |.part _ _ _ (.dZ l) _ _::W=>jo (b+dR l+1) h W
 |.part _ _ i3 (.hand _ _) _ _::W=>i3<=h/\h+b<=i3+3/\jo b h W
theorem jo.mono:∀{W:List Way}{b b':Nat}{h h':Int},jo b h W->h<=h'->h'+b'<=h+b->jo b' h' W
 |[],_,_,_,_,_,_,_=>trivial
 |.loop f6 _ _ _::W,b,b',h,h',f,l,e=>⟨by have:=f.1;exact bg this l,by have:=f.2.1;exact bg e this,f.2.2.mono l e⟩
 |.part _ _ _ .plain _ _::W,b,b',h,h',f,l,e=>jo.mono (W:=W) f l e
 |.part _ _ _ (.dZ t) _ _::W,b,b',h,h',f,l,e=>jo.mono (W:=W) (b:=b+dR t+1) (b':=b'+dR t+1) f l (g4 e)
 |.part _ _ i3 (.hand ..) _ _::W,b,b',h,h',f,l,e=>⟨by have:=f.1;exact bg this l,by have:=f.2.1;exact bg e this,f.2.2.mono l e⟩
noncomputable def wr:List Way->Bool
 |[]=>ag
 |.loop _ _ _ _::_=>af
 |.part _ _ _ _ _ _::W=>wr W
noncomputable def rC:List Way->Bool
 |[]=>ag
 |.loop _ _ _ _::W=>rC W
 |.part _ _ _ (.hand _ _) _ _::_=>af
 |.part _ _ _ .plain _ _::W=>rC W
 |.part _ _ _ (.dZ _) _ _::W=>rC W
noncomputable def T.q_:T->Bool
 |.bare _=>af
 |.eV _ _ _ _ _ _=>af
 |_=>ag
noncomputable def iq:Bool->Bool->T->Prop
 |_,_,.nil=>False
 |L,_,.brk _=>L=af
 |L,_,.dQ _=>L=af
 |_,c,.once _=>c=af
 |L,c,.seq1 a=>iq L c a
 |L,c,.gn a b=>iq L c a/\iq L c b
 |L,c,.arr a b=>iq L c a/\iq L c b
 |_,c,.fm _ b=>dR b<=3/\iq af c b
 |L,c,.bare b=>iq L c b
 |L,c,.eV _ e _ d f b=>iq L c b/\(f.isNil=af\/iq L c f)/\(iq L af e/\dR e<=3)/\(d.isNil=af\/(iq L af d/\dR d<=3))
 |L,c,.dZ x l=>iq L c x/\iq L c l/\x.q_=af
 |_,_,_=>True
noncomputable def yx:List Way->Prop
 |[]=>True
 |.part _ _ _ (.dZ l) _ _::W=>iq (wr W) (rC W) l/\yx W
 |_::W=>yx W
noncomputable def dv:T->Nat
 |.seq1 a=>3+dv a
 |.gn a b=>3+max (dv a) (dv b)
 |.arr a b=>4+max (dv a) (dv b)
 |.fm _ b=>4+dv b
 |.bare b=>4+dv b
 |.eV _ d _ c e b=>6+max (max (dv d) (dv c)) (max (dv e) (dv b))
 |.dZ x l=>4+dv x+dv l+12
 |.nil=>0
 |.mark _=>0
 |.h4 _=>0
 |.seen=>0
 |.brk _=>0
 |.dQ _=>0
 |.ret _=>0
 |.once _=>0
theorem afn(a:T):dv (.seq1 a)=3+dv a:=rfl
theorem afo(a b:T):dv (.gn a b)=3+max (dv a) (dv b):=rfl
noncomputable def i6:List Way->Nat
 |[]=>0
 |.loop _ _ _ _::W=>1+i6 W
 |.part _ _ _ (.dZ l) _ _::W=>dv l+12+i6 W
 |.part _ _ _ .plain _ _::W=>1+i6 W
 |.part _ _ _ (.hand _ _) _ _::W=>1+i6 W
theorem tO:i6 (.loop h w s d::W)=1+i6 W:=rfl
theorem tP:i6 (.part a p h (.dZ l) t b::W)=dv l+12+i6 W:=rfl
theorem tQ:i6 (.part a p h .plain t b::W)=1+i6 W:=rfl
theorem tR:i6 (.part a p h (.hand k g) t b::W)=1+i6 W:=rfl
theorem BR:∀W:List Way,W.length<=i6 W
 |[]=>av _
 |.loop _ _ _ _::W=>by have:=BR W;simp[tO,tP,tQ,tR];(simp+arith at this⊢;exact this)
 |.part _ _ _ (.dZ l) _ _::W=>by have:=BR W;simp[tO,tP,tQ,tR];exact cY this
 |.part _ _ _ .plain _ _::W=>by have:=BR W;simp[tO,tP,tQ,tR];(simp+arith at this⊢;exact this)
 |.part _ _ _ (.hand ..) _ _::W=>by have:=BR W;simp[tO,tP,tQ,tR];(simp+arith at this⊢;exact this)
noncomputable def need(t:T)(W:List Way):Nat:=30+dv t+i6 W
noncomputable def be:T->Nat
 |.brk _=>1
 |.dQ _=>1
 |.ret _=>1
 |.once _=>1
 |.seq1 a=>be a
 |.gn a b=>be a+be b
 |.arr a b=>be a+be b
 |.fm _ b=>be b
 |.bare b=>be b
 |.eV _ d _ c e b=>be b+be e+be d+be c
 |.dZ x l=>be x*(1+be l)+2*be l
 |_=>0
noncomputable def al:T->Nat
 |.nil=>0
 |.brk _=>14
 |.dQ _=>14
 |.ret _=>14
 |.once _=>16
 |.seq1 a=>al a
 |.gn a b=>al a+al b
 |.arr a b=>al a+al b+2
 |.fm _ b=>al b+8
 |.bare b=>al b
 |.eV _ d _ c e b=>al b+be b+al e+(al d+3*be d)+(al c+3*be c)+60
 |.dZ x l=>al x+be x*(al l+1)+2*al l+10
 |_=>4
noncomputable def gF:List Way->Nat
 |[]=>0
 |.loop _ _ _ _::W=>gF W
 |.part _ _ _ .plain _ _::W=>gF W+1
 |.part _ _ _ (.dZ l) _ _::W=>gF W+1+(al l+be l*gF W)
 |.part _ _ _ (.hand _ _) _ _::W=>gF W+3
noncomputable def iV(t:T)(W:List Way):Nat:=al t+be t*gF W
structure jK(t:T)(W:List Way)(h:Int)(d:Nat):Prop where
 fit:jo (dR t) h W
 kO:iq (wr W) (rC W) t
 rD:yx W
 need:need t W<=d
 dl:d<=1000
noncomputable abbrev pe(A:m5)(K:List (ai×Cell))(Q:List fM)(W:List Way)(t:T)(w:Bool)(n:Nat)(h:Int)(z b:Nat)(G:jn)(X:bT):Prop:=
 ∀a f e c,cz A K W Q W f e (h+jW w) c b a->fI G a->z<=c->(∀d lam,Good d lam a->Seg d t w (k7 lam W) h z n e)->X (heapOf A a)
def lB(A:m5)(d:Nat):Prop:=∀{e i K j a l n h k b f g},cz A K a j a l n h k (b+iV e a) f->jK e a h d->pe A K j a e i n h k b f g->U d 954 [.ref (A.adr .c),toV e,.bool i] (λ_=>g) (heapOf A f)
def k8(n:d6):Prop:=n=.un\/∃a,n=.Y a
theorem P0:∀n:Nat,qu ((n:Int)-1) (-1) n=((anq n).reverse.map λi=>J.int (i:Nat))
 |0=>rfl
 |n+1=>by
  have a:=P0 n;unfold qu at a⊢;rw[aoR,aL,aok];have e:(anq n).map ((λk:Nat=>J.int (((n+1:Nat):Int)-1+-1*(k:Int)))∘aon)=(anq n).map λk:Nat=>J.int ((n:Int)-1+-1*(k:Int)):=by refine apP λk _=>?_;show J.int _=J.int _;congr 1;simp only[apQ];k_is
  rw[e,a,<-aoR,apb,anX,apc,apd,aL];congr 2
  k_is
theorem afp(a b:List Way)(x:Way):((a++x::b).map Way.toV).reverse[b.length]?=ae x.toV:=by rw[bG,aL,anX,bM,bk,List.getElem?_append_right (by simp)];simp
section
variable{A:m5}{K:List (ai×Cell)}{cP W:List Way}{Q:List fM}{F:List lV}{n z b d:Nat}{h:Int}{G:jn}{k:cZ}{X:bT}{H:bW}
theorem yy{a b:List Way}{x:Way}{c:ai}{n:Int}(h:H c=ae (.list ((a++x::b).map Way.toV).reverse))(l:(a++x::b).length<=1000)(e:n=b.length)(f:k x.toV H):cF (.ref c) (.int n) k H:=by subst e;refine xx h (by rw[bN,aX];exact fa l B) (i:=b.length) ?_ (afp a b x) f;unfold idx;rw[if_pos (aH _),if_pos (by simp;exact g4 (aH a.length)),ape]
noncomputable def rE:ai->Way->Bool
 |146,.loop _ _ _ _=>af
 |249,.part _ _ _ (.hand _ _) _ _=>af
 |_,_=>ag
theorem P1(e:kd=146\/kd=249)(c:cz A K cP Q W F n h z b G)(m:x∈W)(p:k (.bool (rE kd x)) (heapOf A G)):cl d (.blt "isinstance") [x.toV,.glob kd] k (heapOf A G):=by
 refine .ze _ _ (rE kd x) B B ?_ p
 induction x using Way.casesOn with
 |loop h t s g=>rcases e with rfl|rfl<;>cbv
 |part a o h x g r=>obtain⟨f,i⟩:=apM.mp m;have li:=(anB.mp i).1;have q:(W.zip F)[f]?=ae (.part a o h x g r,F[f]'(c.p9▸li)):=apN.mpr ⟨i,apO _⟩;have j:=(c.pt _ (aK Q (aoi q))).1;have l:=il (c.i5 _ _ j).1 j;refine(Me (D:=_) l).trans ?_;rcases e with rfl|rfl<;>cases x<;>cbv
theorem P2(d:Nat)(κ:cD)(c kd v:J)(f:k8 nn):eG (U d) 198 (dS (bX 293 1)) v (zJ c kd nn) κ=b4 c m1 λe=>cF e v λi=>cl d (.blt "isinstance") [i,kd] λa=>g6 a λg=>b6 g (κ.ef v) (κ.cQ (zJ c kd (.Y v))):=by rcases f with rfl|⟨j,rfl⟩<;>cbv
theorem P4{kd:ai}(l:kd=146\/kd=249){κ:cD}{src:bT}(f:cz A K W Q W F n h z b G)(lw:W.length<=1000)(hs:src (heapOf A G)){y:Way}{R:List Way}(q:rE kd y=af)(p:κ.ef (.int R.length) (heapOf A G)):
  ∀(C D:List Way)(g:d6),W=D++(C++y::R)->k8 g->(∀x∈C,rE kd x=ag)->
   forL src (eG (U d) 198 (dS (bX 293 1))) κ ((anq (C++y::R).length).reverse.map λi=>J.int (i:Nat)) (zJ (.ref (A.adr .c)) (.glob kd) g) (heapOf A G)
 |[]=>λD g e o j=>by rw[List.nil_append,anC,apb,anX,apc,apd,aL];refine⟨hs,cO (P2 _ _ _ _ _ o) (tH (yy (a:=D) (b:=R) (x:=y) (by rw[f.sM,e];rfl) (e▸lw) B (P1 l f (by rw[e];exact aK _ (.head _)) ?_)))⟩;exact q▸(j0 (dI p))
 |x::C=>λD g e o j=>by rw[List.cons_append,anC,apb,anX,apc,apd,aL];refine⟨hs,cO (P2 _ _ _ _ _ o) (tH (yy (a:=D) (b:=C++y::R) (x:=x) (by rw[f.sM,e];rfl) (e▸lw) B (P1 l f (e▸(aK _ (.head _))) ?_)))⟩;exact(j x (.head _))▸(j0 (c6 (P4 l f lw hs q p C (D++[x]) _ (by rw[e,bk];rfl) (.inr ⟨_,B⟩) λz m=>j z (.tail _ m))))
theorem I9(f:kd=146\/kd=249)(hd:1<=d)(a:cz A K (C++y::R) Q (C++y::R) F n h z b G)(lw:(C++y::R).length<=1000)(j:∀x∈C,rE kd x=ag)(g:rE kd y=af)(i:k (.int R.length) (heapOf A G)):U d 293 [.ref (A.adr .c),.glob kd] k (heapOf A G):=by obtain⟨d,rfl⟩:∃e,d=e+1:=⟨d-1,fw hd B⟩;refine cO abg (cO abj (tH (wf (n:=(C++y::R).length) a.sM (by rw[bN,aX]) (fa lw B) (m6 (wh (wh ?_))))));refine .Gi (((C++y::R).length:Int)-1) (-1) B B ⟨by exact g4 (aH ((C++y::R).length)),by exact g4 (g0 lw)⟩ ⟨by decide,by decide⟩ ?_;rw[show((((C++y::R).length:Int)-1)- -1).toNat=(C++y::R).length by lia,P0];exact P4 f a lw trivial g i C [] .un B (.inl B) j
theorem I'{body:J->Loc->cD->bT}{lc:d6->Loc}(hd:5<=d)(l:∀v a κ,k8 a->body v (lc a) κ=cB d (.ref (A.adr .m)) eQ [.str ic] λ_=>κ.cQ (lc (.Y v)))(hs:∀H,src H):
  ∀(vs:List J)(n:Nat)(h:Int)(G:jn)(a:d6),cz A K cP Q W F n (h+vs.length) z (b+vs.length) G->k8 a->
   (∀G' a,k8 a->cz A K cP Q W F (n+vs.length) h z b G'->fI G G'->(∀R lam,Good R lam G'->zA R n vs.length)->κ.cQ (lc a) (heapOf A G'))->forL src body κ vs (lc a) (heapOf A G)
 |[]=>λn h G a e f g=>⟨hs _,g G a f (by rw[show h=h+(([]:List J).length:Nat)from(Int.add_zero h).symm];exact e) (fI.refl G) λ_ _ _ c i=>absurd i (Nat.not_lt_zero _)⟩
 |v::vs=>λn h G a e f g=>by
  refine⟨hs _,cO (l _ _ _ f) (wq (b:=b+vs.length) .pop e (h':=h+vs.length) (by show h+((vs.length+1:Nat):Int)-1+0=_;exact anL (by k_is) (by k_is)) ⟨B,B,B⟩ hd λp eD q t=>?_)⟩;refine I' hd l hs vs (n+1) h p _ eD (.inr ⟨_,B⟩) λu s w eE o r=>g u s w ((show n+(v::vs).length=n+1+vs.length by k_is)▸eE) (q.trans o) λR lam j c i=>?_
  induction c using ant with
  |zero=>exact(j.ex o).at_ t
  |succ c=>rw[show n+(c+1)=n+1+c by exact a7 (by k_is) (by k_is)];exact r R lam j c (apE i)
theorem yz(x:Nat){k:bT->List J->bT}(l:x<=1000000)(a:∀vs:List J,vs.length=x->k (λ_=>True) vs H):nv (.typ "range") [.int x] k H:=
 .up x B B ⟨bg (by decide) (aH x),g0 l⟩ (a _ (by simp[qu]))
theorem int_bool{b:Bool}(h:k (.int (jW b)) H):cl d (.typ "int") [.bool b] k H:=
 .int b B B (by induction b using aS<;>exact h)
theorem P5(d:Nat)(κ:cD)(c h w l m e:J)(a f:d6):cq (U d) 197 (bX 286 1000) (mE c h w l m e a f) κ=cB d m eQ [.str mZ,l] λ_=>κ.cQ (mE c h w l m e a f):=by cbv
theorem afq(d:Nat)(κ:cD)(c h w l m e v:J)(a:k8 nn):eG (U d) 194 (dS (bX 286 1002)) v (mE c h w l m e .un nn) κ=cB d m eQ [.str ic] λ_=>κ.cQ (mE c h w l m e .un (.Y v)):=by rcases a with rfl|⟨f,rfl⟩<;>cbv
theorem afr(d:Nat)(κ:cD)(c h w l m e i v:J)(a:k8 nn):eG (U d) 192 (dS (bX 286 100100)) v (mE c h w l m e (.Y i) nn) κ=cB d m eQ [.str ic] λ_=>κ.cQ (mE c h w l m e (.Y i) (.Y v)):=by rcases a with rfl|⟨f,rfl⟩<;>cbv
theorem afs(d:Nat)(κ:cD)(c h w l m e:J)(a:k8 nn):cq (U d) 195 (bX 286 10020) (mE c h w l m e .un nn) κ=κ.cQ (mE c h w l m e .un nn):=by rcases a with rfl|⟨f,rfl⟩<;>cbv
theorem aft(d:Nat)(κ:cD)(c h w l m e i:J)(a:k8 nn):cq (U d) 193 (bX 286 1001000) (mE c h w l m e (.Y i) nn) κ=cB d m eQ [.str lx,.int 0,i] λ_=>κ.cQ (mE c h w l m e (.Y i) nn):=by rcases a with rfl|⟨f,rfl⟩<;>cbv
theorem I_{a:Int}{w:Bool}{x:Nat}(p:cz A K cP Q W F n h z (b+7) G)(D:∀{C h' q b' G'},cz A K cP Q W F C h' q b' G'->hU G'.M l)(e:h=a+jW w+x)(o:x<=3)(hd:8<=d)
  (I:∀G' C h' q,cz A K cP Q W F C h' q b G'->fI G G'->z<=q->(∀R lam,Good R lam G'->ti R x w z (lam l) n)->X (heapOf A G')):U d 286 [.ref (A.adr .c),.int a,.bool w,.ref l] (λ_=>X) (heapOf A G):=by
 obtain⟨d,rfl⟩:∃e,d=e+8:=⟨d-8,fw hd B⟩;refine cO abb (hN (u2 p (m6 (int_bool (m6 ?_)))));refine(show h-a-jW w=(x:Int) by exact anL (g4 (bt e)) (g4 (bt e.symm)))▸(wj ?_);have other:(w=ag\/x=0)->(cq (U (d+7)) 196 (bX 286 1002) (mE (.ref (A.adr .c)) (.int a) (.bool w) (.ref l) (.ref (A.adr .m)) (.int x)) (gc (U (d+7)) 197 (bX 286 1000) (cD.top λ_=>X))) (heapOf A G):=λL=>by refine cO abf (yz x (fa o B) λf t=>?_);subst t;have p:cz A K cP Q W F n (a+jW w+f.length) z (b+1+f.length) G:=e▸p.le (cY o);refine I' (lc:=λi=>mE (.ref (A.adr .c)) (.int a) (.bool w) (.ref l) (.ref (A.adr .m)) (.int f.length) .un i) (cn B) (λao i a1 j=>afq _ _ _ _ _ _ _ _ _ j) (λ_=>trivial) f n _ G .un p (.inl B) λN i j eD u Z=>cO (afs (d+7) _ _ _ _ _ _ _ j) (cO (P5 (d+7) ..) (pd (.gj l) eD (cf _) ⟨B,B⟩ (cn B) (λy eE s v=>?_) (rz (D eD))));exact I y _ _ z eE (u.trans s) (av _) λR lam g=>.inr ⟨L,Z R lam (g.ex s),g.at_ v⟩
 by_cases E:x=0
 .rw [decide_eq_false (by lia)];exact c6 (c6 (other (.inr E)))
 .rw [decide_eq_true (by lia)]
  induction w using aS with
  |false=>exact dI (j0 (c6 (c6 (other (.inl B)))))
  |true=>refine dI (j0 (dI (dI (zZ p (cn B) λN eD u=>?_))));refine rA (b:=b+5) (.gi z) (h':=a+x) eD (by rw[e];show a+1+x-1+0=_;exact anL (by k_is) (by k_is)) B (cn B) λy eE s v=>cO abd (yz x (fa o B) λf t=>?_);subst t;refine I' (lc:=λi=>mE (.ref (A.adr .c)) (.int a) (.bool af) (.ref l) (.ref (A.adr .m)) (.int f.length) (.Y (.int z)) i) (cn B) (λao i a1 j=>afr _ _ _ _ _ _ _ _ _ _ j) (λ_=>trivial) f _ a y .un (eE.le (c:=b+2+f.length) (cY o)) (.inl B) λbd i j hb o S=>cO (aft (d+7) _ _ _ _ _ _ _ _ j) (rA (.ez z) hb (fc _) B (cn B) λbV hn ei ap=>?_);refine cO (P5 (d+7) ..) (pd (.gj l) hn (cf _) ⟨B,B⟩ (cn B) (λV iX r a2=>?_) (rz (D hn)));exact I V _ _ _ iX (u.trans (s.trans (o.trans (ei.trans r)))) (bz z) λR lam g=>.inl ⟨B,Nat.pos_of_ne_zero E,_,aO _,(g.ex (o.trans (ei.trans r))).at_ v,S R lam (g.ex (ei.trans r)),(g.ex r).at_ ap,g.at_ a2⟩
end
section
variable{A:m5}{d n z b:Nat}{k:cZ}{F:List lV}{h h':Int}{G:jn}{K:List (ai×Cell)}{cP W:List Way}{Q:List fM}{H:bW}{X:bT}
noncomputable def Pre(R:Rows)(f:List ia)(h:Int):List ia->Int->Nat->Int->Nat->Prop
 |[],z,a,c,e=>c=z/\e=a
 |.loop _ _ _ _::C,z,a,c,e=>Pre R f h C z a c e
 |.part _ _::C,z,a,c,e=>Pre R f h C z a c e
 |.dZ _ _ l::C,z,a,c,e=>∃g i,z<=g/\Seg R l ag (C++f) h z a i/\Pre R f h C g i c e
 |.hand _ _ kept _::C,z,a,c,e=>At R a (.ez kept)/\At R (a+1) .hq/\Pre R f h C z (a+2) c e
noncomputable def Ja(R:Rows)(f:List ia)(h:Int):ia->Int->Nat->Int->Nat->Prop
 |.loop _ _ _ _,z,a,c,e=>c=z/\e=a
 |.part _ _,z,a,c,e=>c=z/\e=a
 |.dZ _ _ l,z,a,c,e=>z<=c/\Seg R l ag f h z a e
 |.hand _ _ g _,z,a,c,e=>At R a (.ez g)/\At R (a+1) .hq/\c=z/\e=a+2
theorem Ja.cons(a:Ja R (C++Rest) h w z p c4 di)(b:Pre R Rest h C c4 di fl d1):Pre R Rest h (w::C) z p fl d1:=by
 induction w using ia.casesOn with
 |loop _ _ _ _=>obtain⟨rfl,rfl⟩:=a;exact b
 |part _ _=>obtain⟨rfl,rfl⟩:=a;exact b
 |dZ _ _ l=>exact⟨c4,di,a.1,a.2,b⟩
 |hand _ _ _ _=>refine jQ a λc e g f=>?_;obtain rfl:=g;obtain rfl:=f;exact⟨c,e,b⟩
theorem P6(r:Nat):∀n:Nat,qu (((r+n:Nat):Int)-1) (-1) n=((anq n).reverse.map λi=>J.int ((r+i:Nat):Int))
 |0=>rfl
 |n+1=>by
  have a:=P6 r n;unfold qu at a⊢;rw[aoR,aL,aok];have e:(anq n).map ((λk:Nat=>J.int (((r+(n+1):Nat):Int)-1+-1*(k:Int)))∘aon)=(anq n).map λk:Nat=>J.int (((r+n:Nat):Int)-1+-1*(k:Int)):=by refine apP λk _=>?_;show J.int _=J.int _;congr 1;simp only[apQ];k_is
  rw[e,a,<-aoR,apb,anX,apc,apd,aL];congr 2
  k_is
noncomputable def zp(w:Way)(J:List Way):Nat:=match w with
 |.part _ _ _ (.dZ l) _ _=>iV l J
 |.part _ _ _ (.hand _ _) _ _=>2
 |.part _ _ _ .plain _ _=>0
 |.loop _ _ _ _=>0
theorem afu(x:Way)(c:List Way):gF c+(zp x c+ET x)<=gF (x::c):=by
 induction x using Way.casesOn with
 |loop _ _ _ _=>exact av _
 |part a f h x e g=>induction x using iT.casesOn with
  |dZ l=>exact ak (aoX (gF c) _ 1)
  |_=>exact av _
theorem qM(x:Int):x+jW ag=x:=Int.add_zero x
section
variable{g_ C R:List Way}{lW:List fM}{h0:Int}
structure u4(W:List Way)(h0:Int)(d:Nat):Prop where
 fit:jo 0 h0 W
 rD:yx W
 dv:20+i6 W<=d
theorem u4.cc(w:u4 (x::g_) h0 d):u4 g_ h0 d:=by
 obtain⟨f,c,a⟩:=w
 induction x using Way.casesOn with
 |loop _ _ _ _=>exact⟨f.2.2,c,by simp only[tO,tP,tQ,tR]at a;exact cY a⟩
 |part _ _ _ y _ _=>induction y using iT.casesOn with
  |plain=>exact⟨f,c,by simp only[tO,tP,tQ,tR]at a;exact cY a⟩
  |dZ l=>exact⟨jo.mono (W:=g_) f (aO _) (g4 (aH (dR l))),c.2,by simp only[tO,tP,tQ,tR]at a;exact cY a⟩
  |hand _ _=>exact⟨f.2.2,c,by simp only[tO,tP,tQ,tR]at a;exact cY a⟩
theorem u4.oN(w:u4 (.part a pl hh (.dZ l) t e0::g_) h0 (d+1))(dl:d<=1000)(h1:h0<=h)(h2:h<=h0+1):jK l g_ h d:=
 ⟨jo.mono (W:=g_) w.fit h1 (g4 h2),w.rD.1,w.rD.2,by have:=w.dv;simp only[tO,tP,tQ,tR]at this;unfold need;exact cY this,dl⟩
theorem Jb(dl:d<=1000)(Z:∀t,t+1<=d->lB A t)(g:cz A K g_ Q g_ F n h z (b+zp x g_) G)(m:(x,f)∈Q)(hd:8<=d)(I:u4 (x::g_) h0 d)(h1:h0<=h)(h2:h<=h0+1)
  (p:∀G' F' q j,cz A K g_ Q g_ F' q h j b G'->fI G G'->z<=j->(∀R lam,Good R lam G'->Ja R (k7 lam g_) h (kh lam x) z n j q)->X (heapOf A G')):cB d x.toV Ej [.ref (A.adr .c)] (λ_=>X) (heapOf A G):=by
 obtain⟨d,rfl⟩:∃e,d=e+8:=⟨d-8,fw hd B⟩;have w:=g.pt _ (aU _ m)
 induction x using Way.casesOn with
 |loop h a2 s ao=>exact D_ (f:=143) B B B (de (d:=d+8) B (cO aaE (p G F n z g (fI.refl G) (av _) λ_ _ _=>⟨B,B⟩)))
 |part a a1 hh x ao bd=>
  have i:=il (g.i5 _ _ w.1).1 w.1
  induction x using iT.casesOn with
  |plain=>exact z1 (x:=.plain) i B (fn:=185) B (de (d:=d+8) B (cO aaI (p G F n z g (fI.refl G) (av _) λ_ _ _=>⟨B,B⟩)))
  |dZ l=>refine z1 (x:=.dZ l) i B (fn:=220) B (de (d:=d+8) B (cO aaR (ae7 (k0 i B B (de B (Z (d+7) (av _) g (I.oN (aoA dl) h1 h2) λG' F' q j V S v Y=>?_))))));exact p G' F' q j (qM h▸V) S v λR lam o=>⟨bJ.mpr v,Y R lam o⟩
  |hand r E=>refine z1 (x:=.hand r E) i B (fn:=246) B (de (d:=d+8) B (cO aaV (hN (ER (k0 (u:=.int r) i B B (de B ?_))))));refine cO IE (wp (b:=b+1) (.ez r) g (fc h) (cn B) (λ_ h=>cV h) λ_ ap eD D M=>hN (wq .hq eD (ch h) ⟨B,B,B⟩ (cn B) λN eE y L=>?_));exact p N F _ z eE (D.trans y) (av _) λR lam o=>⟨(o.ex y).at_ M,o.at_ L,B,B⟩
theorem afv{a b:List Way}{w0:ai}(g:heapOf A G w0=ae (.list ((a++b).map Way.toV).reverse))(l:(a++b).length<=1000)(i:∀c,A.tag c=ah->G.M c=ah->A.rest c=ah->k (.ref c) (heapOf A {G with M:=G.M.set c (.lT b)})):mv (.ref w0) .none (.int b.length) k (heapOf A G):=by
 rw[bA]at l;refine⟨((a++b).map Way.toV).reverse,0,b.length,kj g,by simp only[bN,aX,bA];exact cY l,B,?_,λc f=>?_⟩
 .show (if _ then ae (clamp ..)else ah)=_;rw[if_pos (⟨g4 (aH b.length),h9 (aH a.length) (g0 l)⟩)];unfold clamp;rw[if_pos (aH _),ape,anp (by simp)]
 .refine iw (yp f) λt1 e j=>?_;rw[apf,bG,anX,List.take_left' (by simp),p5 (o:=.list (b.map Way.toV).reverse) t1 (.lT b) B];exact i c t1 e j
theorem afw(d:Nat)(κ:cD)(c i w v:J)(j:k8 nn):eG (U d) 197 (dS (bX 272 10)) v (uI c i w nn) κ=cF w v λl=>methP l HV λa=>b4 c fX λf=>cl d a.1 (a.2++[f]) λp=>mv w .none v λg=>ej c m1 g (cF w v λe=>cB d e Ej [c] λo=>κ.cQ (uI c i w (.Y v))):=by rcases j with rfl|⟨m,rfl⟩<;>cbv
theorem afx(d:Nat)(κ:cD)(c i w:J)(a:k8 nn):cq (U d) 198 (bX 272 100) (uI c i w nn) κ=ej c m1 w (κ.cQ (uI c i w nn)):=by rcases a with rfl|⟨e,rfl⟩<;>cbv
def BU(K a:List (ai×Cell))(w0:ai)(cP c:List Way)(G:jn):Prop:=(a=K/\G.wl=w0/\c=cP)\/a=(w0,.lT cP)::K
theorem BU.at_(a:cz A mg qN Q W F n h z b G)(k:BU K mg w0 cP qN G):heapOf A G w0=ae (.list (cP.map Way.toV).reverse):=by
 rcases k with⟨rfl,rfl,rfl⟩|rfl
 .exact a.sM
 .exact a.wo (.head _)
theorem P9(dl:d<=1000)(V:∀E,E+1<=d->lB A E){w0:ai}{idx:J}{κ:cD}{src:bT}(hs:∀H,src H)(hd:8<=d)(h1:h0<=h)(h2:h<=h0+1)(lw:cP.length<=1000):
  ∀(C D:List Way)(g:List (ai×Cell))(f:List Way)(Q:List fM)(F:List lV)(n z:Nat)(G:jn)(l:d6),cz A g f Q (C++R) F n h z (b+gF (C++R)) G->BU K g w0 cP f G->cP=D++(C++R)->u4 (C++R) h0 d->k8 l->
   (∀G' g f lW F' Y s l,cz A g f (Q++lW) R F' Y h s (b+gF R) G'->BU K g w0 cP f G'->lW.map (·.1)=C->k8 l->fI G G'->z<=s->(∀m lam,Good m lam G'->Pre m (k7 lam R) h (k7 lam C) z n s Y)->κ.cQ (uI (.ref (A.adr .c)) idx (.ref w0) l) (heapOf A G'))->
   forL src (eG (U d) 197 (dS (bX 272 10))) κ ((anq C.length).reverse.map λi=>J.int ((R.length+i:Nat):Int)) (uI (.ref (A.adr .c)) idx (.ref w0) l) (heapOf A G)
 |[]=>λD g f Q F n z G l o p e r t u=>⟨hs _,u G g f [] F n z l (by rw[bB];exact o) p B t (fI.refl G) (av _) λ_ _ _=>⟨B,B⟩⟩
 |x::C=>λD g f Q F n z G l o p e r t u=>by
  rw[anC,apb,anX,apc,apd,aL];have b7:R.length+C.length=(C++R).length:=by rw[bA];exact aod ..
  have cf:cP=(D++[x])++(C++R):=by rw[e,bk];rfl
  refine⟨hs _,cO (afw _ _ _ _ _ _ t) ?_⟩;refine b7▸(yy (a:=D) (b:=C++R) (x:=x) (e▸p.at_ o) (e▸lw) B (close_w (b:=b+gF (C++R)+zp x (C++R)) (o.le (by have:=afu x (C++R);exact aq (by rw[aoc,aoc];exact av _) (bF this b))) (aq (cn B) hd) λq N ct eD ck ca=>?_));have L:BU K g w0 cP f q:=p.imp (λj=>⟨j.1,ca.trans j.2.1,j.2.2⟩) id;refine afv (a:=D++[x]) (cf▸L.at_ eD) (cf▸lw) λS t1 I cs=>PD ?_;have eE:cz A ((w0,.lT cP)::K) (C++R) (Q++[(x,ah,N)]) (C++R) ct n h z (b+gF (C++R)+zp x (C++R)) {q with M:=q.M.set S (.lT (C++R)),wl:=S}:=by
   have:=(eD.new t1 cs I (.lT (C++R)) trivial).PQ;rcases L with⟨cm,cb,cu⟩|j
   .rw [cm,cu]at this;rw[<-cb];exact this
   .rw [j]at this;exact this.drop λe=>nomatch e
  refine yy (a:=D) (b:=C++R) (x:=x) (e▸eE.wo (.head _)) (e▸lw) B (Jb dl V eE (aK _ (.head _)) hd r h1 h2 λZ cg bY bZ hb w b2 bV=>P9 dl V hs hd h1 h2 lw C (D++[x]) _ _ _ cg bY bZ Z _ hb (.inr B) cf r.cc (.inr ⟨_,B⟩) λcw cD cd lW b5 ao a2 bd hn co cr a1 ei ap ci=>?_);have y:fI G Z:=ck.trans ((zY (c:=.lT (C++R)) I).trans ⟨w.rows,w.u0⟩);exact u cw cD cd ((x,ah,N)::lW) b5 ao a2 bd (by rw[bk]at hn;exact hn) co (by rw[aL,cr]) a1 (y.trans ei) (aq b2 ap) λm lam v=>by have j:=bV m lam (v.ex ei);unfold k7 at j;rw[bG]at j;exact j.cons (ci m lam v)
theorem EY(dl:d<=1000)(I:∀a,a+2<=d->lB A a)(o:cz A K (C++R) Q (C++R) F n h z (b+gF (C++R)) G)(hd:9<=d)(v:u4 (C++R) h0 (d-1))(h1:h0<=h)(h2:h<=h0+1)(lw:(C++R).length<=1000)(hi:i=R.length)
  (E:∀G' lW F' s j,cz A K (C++R) (Q++lW) R F' s h j (b+gF R) G'->lW.map (·.1)=C->fI G G'->z<=j->(∀g lam,Good g lam G'->Pre g (k7 lam R) h (k7 lam C) z n j s)->X (heapOf A G')):U d 272 [.ref (A.adr .c),.int i] (λ_=>X) (heapOf A G):=by
 subst hi;obtain⟨d,rfl⟩:∃e,d=e+1:=⟨d-1,fw hd B⟩;have f:(C++R).length=R.length+C.length:=by rw[bA];exact aod ..
 refine cO aaZ (tH (cO aa0 (wf (n:=R.length+C.length) o.sM (by rw[bN,aX,f]) (dp lw (ak f.symm)) (m6 (m6 (wh ?_))))));refine .Gi (((R.length+C.length:Nat):Int)-1) ((R.length:Int)-1) B B ⟨by exact h9 (aH R.length) (aH C.length),by exact h9 (g0 lw) (g0 (ak f.symm))⟩ ⟨by exact g4 (aH R.length),by exact jz (aH C.length) (g0 lw) (g0 (ak f.symm))⟩ ?_;rw[show((((R.length+C.length:Nat):Int)-1)-((R.length:Int)-1)).toNat=C.length by lia,P6];refine P9 (w0:=G.wl) (K:=K) (aoA dl) (λa u=>I a (ano u)) (λ_=>trivial) (alT hd) h1 h2 lw C [] K (C++R) Q F n z G .un o (.inl ⟨B,B,B⟩) B v (.inl B) λt Y ao lW p q r Z eD M w y m V S=>cO (afx d _ _ _ _ y) (PD ?_);have eE:cz A K (C++R) (Q++lW) R p q h r (b+gF R) {t with wl:=G.wl}:=by
  rcases M with⟨x,L,N⟩|D
  .rw [x,N]at eD;exact L▸eD
  .rw [D]at eD;exact eD.PQ.drop λe=>nomatch e
 exact E _ lW p q r eE w ⟨m.rows,m.u0⟩ V λg lam l=>S g lam ⟨l.rows,l.u0⟩
theorem afF{a b:List Way}{w0:ai}(g:heapOf A G w0=ae (.list ((a++b).map Way.toV).reverse))(l:(a++b).length<=1000)(i:∀c,A.tag c=ah->G.M c=ah->A.rest c=ah->k (.ref c) (heapOf A {G with M:=G.M.set c (.lT a)})):mv (.ref w0) (.int b.length) .none k (heapOf A G):=by
 rw[bA]at l;refine⟨((a++b).map Way.toV).reverse,b.length,((a++b).map Way.toV).reverse.length,kj g,by simp only[bN,aX,bA];exact cY l,?_,B,λc f=>?_⟩
 .show (if _ then ae (clamp ..)else ah)=_;rw[if_pos (⟨g4 (aH b.length),h9 (aH a.length) (g0 l)⟩)];unfold clamp;rw[if_pos (aH _),ape,anp (by simp)]
 .refine iw (yp f) λt1 e j=>?_;rw[List.take_length,bG,anX,List.drop_left' (by simp),p5 (o:=.list (a.map Way.toV).reverse) t1 (.lT a) B];exact i c t1 e j
theorem afG(d:Nat)(κ:cD)(c i v:J)(e:k8 nn):eG (U d) 198 (dS (bX 279 1)) v (uK c i nn) κ=methP v H2 λa=>b4 c fX λf=>cl d a.1 (a.2++[f]) λg=>κ.cQ (uK c i (.Y v)):=by rcases e with rfl|⟨j,rfl⟩<;>cbv
theorem afH(d:Nat)(κ:cD)(c i:J)(a:k8 nn):cq (U d) 199 (bX 279 10) (uK c i nn) κ=κ.cQ (uK c i nn):=by rcases a with rfl|⟨e,rfl⟩<;>cbv
theorem P_{idx:J}{κ:cD}{src:bT}(hd:1<=d)(hs:∀{Q W F G},cz A K cP Q W F n h z b G->src (heapOf A G)):
  ∀(f:List fM)(W:List Way)(F:List lV)(G:jn)(a:d6),cz A K cP (Q++f.reverse) W F n h z b G->k8 a->
   (∀G' F' a,cz A K cP Q ((f.reverse.map (·.1))++W) F' n h z b G'->k8 a->fI G G'->κ.cQ (uK (.ref (A.adr .c)) idx a) (heapOf A G'))->
   forL src (eG (U d) 198 (dS (bX 279 1))) κ ((f.map (·.1)).map Way.toV) (uK (.ref (A.adr .c)) idx a) (heapOf A G)
 |[]=>λW F G a e g i=>⟨hs e,i G F a (by have:=e;rw[List.reverse_nil,bB]at this;exact this) g (fI.refl G)⟩
 |x::f=>λW F G a e g i=>by refine⟨hs e,cO (afG _ _ _ _ _ g) ?_⟩;rw[bM,<-bk]at e;refine PX e hd λj p eD m=>P_ hd hs f (x.1::W) (p::F) j _ eD (.inr ⟨_,B⟩) λq l o eE r s=>i q l o ?_ r (m.trans s);rw[bM,bG,bk];exact eE
theorem EZ(g:cz A K (C++R) (Q++lW) R F n h z b G)(f:lW.map (·.1)=C)(hd:4<=d)(lw:(C++R).length<=1000)(hi:i=R.length)(s:∀G' F',cz A K (C++R) Q (C++R) F' n h z b G'->fI G G'->X (heapOf A G')):U d 279 [.ref (A.adr .c),.int i] (λ_=>X) (heapOf A G):=by
 subst hi;obtain⟨d,rfl⟩:∃e,d=e+1:=⟨d-1,fw hd B⟩;refine cO aa1 (cO aa2 (tH (afF g.sM lw λv t1 j p=>?_)));have eD:=g.new t1 p j (.lT C) trivial;have a:=eD.wo (.head _);refine⟨.li (C.map Way.toV).reverse,kj a,by rw[bA]at lw;simp only[lq,bN,aX];exact cY lw,?_⟩;have ch:(C.map Way.toV).reverse=(lW.reverse.map (·.1)).map Way.toV:=by rw[<-f,aoU,aoU]
 show forL _ _ _ (C.map Way.toV).reverse _ _;rw[ch];refine P_ (anu (aq (cn B) hd)) (λq=>?_) lW.reverse R F _ .un (by rw[List.reverse_reverse];exact eD) (.inl B) λo m u eE r t=>?_
 .have l:=q.wo (.head _);exact(kj l).trans (kj a).symm
 .rw [List.reverse_reverse,f]at eE;exact cO (afH d _ _ _ r) (s o m (eE.drop λe=>nomatch e) ((zY j).trans t))
end
section
variable{e:Nat}{kd:Str}{ps:List J}{t a c:T}
theorem jK.lw(P:jK t W h d):W.length<=1000:=by have i:=BR W;have f:=P.need;have g:=P.dl;dsimp only[Internal.P.need]at f;exact c0 i f g
theorem jK.sub(P:jK t W h (d+e))(o:iq (wr W) (rC W) a)(h1:h<=h')(f:h'+dR a<=h+dR t)(g:dv a+e<=dv t):jK a W h' d:=
 ⟨P.fit.mono h1 f,o,P.rD,by have h1:=P.need;dsimp only[Internal.P.need]at h1⊢;exact dp g h1,ank P.dl⟩
theorem nZ(h:k (.str kd) H):b4 (fL kd ps) ju k H:=kH B B h
theorem hO(h:k (.tup ps) H):b4 (fL kd ps) jY k H:=kH B B h
theorem Qb(h:k (.int 0) H):b4 (fL kd ps) oo k H:=kH B B h
theorem cz.BW(f:cz A K cP Q W F n h z b G):heapOf A G A.g'=ae (.eJ o_):=oe A.ef (by
 cases e:G.M A.g' with
 |none=>rfl
 |some c=>exact cV ((f.i5 _ _ e).2.symm.trans A.ef))
theorem oA(f:ai)(j:cz A K cP Q W F n h z b G)(lk:look kd o_=ae (.glob f))(i:jB f=ag)(l:U d f [.ref (A.adr .c),fL kd ps,.bool w] (λ_=>X) (heapOf A G)):U (d+1) 954 [.ref (A.adr .c),fL kd ps,.bool w] (λ_=>X) (heapOf A G):=by
 have g:=j.BW;refine cO adE (nZ (Px ⟨ag,?_,c6 (Qb (hN (PB (Px (nZ (Eb g lk (de i l)))))))⟩));show(oK (heapOf A G) (.str kd) (.ref A.g')).map (!·)=ae ag;dsimp only[oK];simp only[g,lk]
 rfl
theorem qa{v:J}{vs:List J}(l:vs.length<=100)(h:k v H):cF (.tup (v::vs)) (.int 0) k H:=zw (fa (ano l) B) (i:=0) (by dsimp only[idx];rw[if_pos (aO 0),if_pos (show(0:Int)<((v::vs).length:Nat)from anH.mpr (Nat.succ_pos _))];rfl) B h
noncomputable def E0(w:Bool)(n:Nat):Nat:=match w with
 |true=>n
 |false=>n+1
noncomputable def BX(w:Bool)(n:Nat):Nat:=match w with
 |true=>n+1
 |false=>n
theorem Qc(g:cz A K cP Q W F n (h+1) z (b+1) G)(hd:7<=d)(i:∀G',cz A K cP Q W F (E0 w n) (h+jW w) z b G'->fI G G'->(∀R lam,Good R lam G'->zB R w n (E0 w n))->X (heapOf A G')):cB d (.ref (A.adr .c)) mC [.bool w] (λ_=>X) (heapOf A G):=by
 obtain⟨d,rfl⟩:∃e,d=e+1:=⟨d-1,fw hd B⟩;refine PF (cO Pq (j0 ?_))
 induction w using aS with
 |true=>exact c6 (i G (g.le (bz b)) (fI.refl G) λ_ _ _=>B)
 |false=>exact dI (I2 .pop g (ch h) ⟨B,B,B⟩ (alT hd) λG' l x f=>i G' ((qM h).symm▸l) x λR lam j=>⟨j.at_ f,B⟩)
theorem afI(f:cz A K cP Q W F n h z (b+1) G)(e:h-r.tk+r.gv=h')(hd:6<=d)(g:sN A K cP Q W F n h' z b G r X)(cv:∀l,rx r=ae l->hU G.M l:=by exact λ_ h=>cV h):
  U d 946 [.ref (A.adr .c),fL kd ps,.str (qJ r),rp r,rq r,rr r] (λ_=>X) (heapOf A G):=by
 obtain⟨d,rfl⟩:∃e,d=e+1:=⟨d-1,fw hd B⟩;exact cO adC (Qb (hN (PB (hN (EQ r f e (anu hd) g cv)))))
def Jd(arg:J)(r:g9 ai):Prop:=∀{A K cP Q W F n h z b G d X},cz A K cP Q W F n h z (b+1) G->9<=d->sN A K cP Q W F n (h+1) z b G r X->U d 954 [.ref (A.adr .c),arg,.bool af] (λ_=>X) (heapOf A G)
theorem yA(i:Int):Jd (jw i) (.push (.int i)):=λ{A K cP Q W F n h z b G d X} f hd g=>by obtain⟨d,rfl⟩:∃e,d=e+9:=⟨d-9,fw hd B⟩;refine oA 1109 f B B (cO aed (hO (qa (cn B) (de B (cO aec (j0 (dI (I1 (.push (.int i)) f (fc h) ⟨B,B⟩ (cn B) g))))))))
theorem afJ(h:dX (.glob 938,[.ref (A.adr .c)]) (heapOf A G)):methP (.ref (A.adr .c)) eQ dX (heapOf A G):=uZ (b:=.c) (f:=938) B B B B h
theorem afK:Jd (fL su [.str uG]) .jI:=λ{A K cP Q W F n h z b G d X} f hd g=>by obtain⟨d,rfl⟩:∃e,d=e+9:=⟨d-9,fw hd B⟩;refine oA 1123 f B B (cO aef (j0 (dI (afJ (hO (qa (cn B) (de B (cO Po (cO IL (hN (EQ .jI f (fc h) (cn B) g)))))))))))
theorem z2{src:bT}{body:J->(Option J->bT)->bT}{k:List J->bT}{v:J}{vs acc:List J}(h1:src H)(h2:body v (λr=>ix src body k vs (match r with|some x=>acc++[x]|none=>acc)) H):ix src body k (v::vs) acc H:=⟨h1,h2⟩
theorem E1{body:J->(Option J->bT)->bT}{k:List J->bT}(h1:src H)(h2:k acc H):ix src body k [] acc H:=⟨h1,h2⟩
theorem E2{src:bT}{body:J->Loc->cD->bT}{κ:cD}{v:J}{vs:List J}{g:Loc}(h2:body v g ⟨λf=>forL src body κ vs f,κ.ef,λf=>κ.cQ f,λf=>forL src body κ vs f⟩ H)(h1:src H:=by exact B):forL src body κ (v::vs) g H:=⟨h1,h2⟩
theorem z3(h2:κ.cQ S H)(h1:src H:=by exact B):forL src body κ [] S H:=⟨h1,h2⟩
theorem n0{vs:List J}{k:bT->List J->bT}(l:vs.length<=16000000)(h:k (λf=>iO f (.lst vs)=iO H (.lst vs)) vs H):iY (.lst vs) k H:=⟨.li vs,B,l,h⟩
theorem Qd(h:f S H):(cD.mk f ef mU ct).cQ S H:=h
theorem Qe(h:f S H):(cD.mk g ef mU f).ct S H:=h
theorem wv(h:cq dy n ss S κ H):(gc dy n ss κ).cQ S H:=h
theorem Db(h:a0 (m+1) n=af):d+m<d+n:=Nat.add_lt_add_left (cn h) d
def Je(arg:J):Prop:=∃kd ps,arg=fL kd ps/\∀H,mT H .Eq (.str kd) (.str uF)=ae ag
theorem ww{w:Bool}(D:Jd arg r)(E:Je arg)(j:cz A K cP Q W F n h z (b+4) G)(hd:14<=d)
  (I:∀G',cz A K cP Q W F (E0 w (n+3)) (h+jW w) z b G'->fI G G'->(∀R lam,Good R lam G'->kq R ra (tM lam r) w n (E0 w (n+3))/\R (n+2)=ae (.send ra i4,resT lam (tK W)))->X (heapOf A G')):U d 954 [.ref (A.adr .c),j' ra arg,.bool w] (λ_=>X) (heapOf A G):=by
 obtain⟨d,rfl⟩:∃e,d=e+14:=⟨d-14,fw hd B⟩;refine lZ E λkd ps y s=>?_;obtain rfl:=y;refine oA 1144 j B B (cO aet (cO aeu (hO (cO aew (gR (hN (p' j (cn B) λl N eD u=>is_none (b:=af) B (dI ?_))))))));refine I2 (b:=b+3) .self eD (fc h) ⟨B,B,B⟩ (cn B) λY eE M v=>cO aeG (j0 (c6 (aeN ?_)));refine cO adX (de B (cO aeb (n0 (cn B) ⟨cn B,z2 B (nZ ⟨ag,s _,c6 (E1 B (wg B (cn B) (wj (j0 (c6 ?_)))))⟩)⟩)));refine cO adY (n0 (cn B) (E2 (cO adZ (ru (cO BJ (D (b:=b+2) eE (cn B) λV hb p q=>?_))))));refine Qd (z3 ?_);refine cO (ad0 (l_self:=.ref (A.adr .c)) (l_tree:=fL kd ps)) (wg B (cn B) (aeO (cO ad3 (is_none (b:=af) B (dI ?_)))));refine is_none (b:=af) B (dI (dI (ae8 (c7 B (de B ?_)))));refine afI (b:=b+1) (r:=.send ra i4) hb (hY h) (cn B) λZ hn ei o=>hN (p_ [] hn (cn B) λS iX m=>?_);refine Qc (iX.drop λe=>nomatch e) (cn B) λx kB i L=>I x kB (u.trans (M.trans (p.trans (ei.trans (m.trans i))))) λR lam g=>?_;have C:=g.ex i;have f:=C.ex m;exact⟨⟨(f.ex (p.trans ei)).at_ v,(f.ex ei).at_ q,⟨_,f.at_ o⟩,L R lam g⟩,f.rows _ _ _ o⟩
theorem Qf:∀{t:T}{L H:Bool},iq L H t->∃kd ps,toV t=fL kd ps/\look kd o_≠ah/\∀H,mT H .NotEq (.str kd) (.str uF)=ae af:=by
 intro t L H o;have f:∀kd ps,(look kd o_).isSome=af->(∀H,mT H .NotEq (.str kd) (.str uF)=ae af)->∃g s,fL kd ps=fL g s/\look g o_≠ah/\∀H,mT H .NotEq (.str g) (.str uF)=ae af:=λkd ps h i=>⟨kd,ps,B,(λe=>by replace h:=e▸h;exact d8 h),i⟩
 induction t using T.casesOn with
 |nil=>cases o
 |mark n=>exact f _ _ B (by intro H;cbv)
 |h4 n=>exact f _ _ B (by intro H;cbv)
 |seen=>exact f _ _ B (by intro H;cbv)
 |seq1 a=>exact f _ _ B (by intro H;cbv)
 |gn a b=>exact f _ _ B (by intro H;cbv)
 |arr a b=>exact f _ _ B (by intro H;cbv)
 |fm p b=>exact f _ _ B (by intro H;cbv)
 |brk n=>exact f _ _ B (by intro H;cbv)
 |dQ n=>exact f _ _ B (by intro H;cbv)
 |ret n=>exact f _ _ B (by intro H;cbv)
 |once p=>exact f _ _ B (by intro H;cbv)
 |bare b=>exact f _ _ B (by intro H;cbv)
 |eV r j u q m b=>exact f _ _ B (by intro H;cbv)
 |dZ x l=>
  have:=o.2.2
  induction x using T.casesOn with
  |bare b=>exact f kJ _ B (by intro H;cbv)
  |eV r j u q m b=>exact f kJ _ B (by intro H;cbv)
  |_=>exact d8 this
theorem rH(o:iq L Hh t):mu (toV t) .none=ae ag:=by refine lZ (Qf o) λkd ps e _=>?_;refine e▸?_;rfl
theorem wy(e:mu v .none=ae ag)(f:U d 954 [.ref (A.adr .c),v,.bool w] (λ_=>X) (heapOf A G)):U (d+1) 29 [.ref (A.adr .c),v,.bool w] (λ_=>X) (heapOf A G):=
 cO O3 (mH e (dI (ru f)))
theorem afM(g:cz A K cP Q W F n h z (b+1) G)(hd:6<=d)(i:∀G',cz A K cP Q W F (BX w n) (h+jW w) z b G'->fI G G'->(∀R lam,Good R lam G'->vV R w n (BX w n))->X (heapOf A G')):U d 29 [.ref (A.adr .c),.none,.bool w] (λ_=>X) (heapOf A G):=by
 obtain⟨d,rfl⟩:∃e,d=e+1:=⟨d-1,fw hd B⟩;refine cO O3 (mH (b:=af) B (c6 (j0 ?_)))
 induction w using aS with
 |true=>exact dI (hN (pd (.push .none) g (fc h) ⟨B,B⟩ (alT hd) λG' l x f=>i G' l x λR lam j=>⟨j.at_ f,B⟩))
 |false=>exact c6 (i G ((qM h).symm▸g.le (bz b)) (fI.refl G) λ_ _ _=>B)
theorem yB(i:Int):Je (jw i):=⟨rd,_,B,by intro H;cbv⟩
theorem afN:Je (fL su [.str uG]):=⟨su,_,B,by intro H;cbv⟩
theorem jK.rI(P:jK t W h d):30<=d:=by have f:=P.need;dsimp only[Internal.P.need]at f;exact cY f
theorem afO(j:cz A K W Q W F n h z (b+iV (.mark i) W) G)(P:jK (.mark i) W h d)(o:pe A K Q W (.mark i) w n h z b G X):U d 954 [.ref (A.adr .c),toV (.mark i),.bool w] (λ_=>X) (heapOf A G):=
 ww (yA i) (yB i) (j.le (c:=b+4) (bF (bq 4 _) b)) (aq (cn B) P.rI) λm p x f=>o m _ _ z p x (av _) λl lam g=>.mark (f l lam g).1
theorem afP(i:cz A K W Q W F n h z (b+iV .seen W) G)(P:jK .seen W h d)(m:pe A K Q W .seen w n h z b G X):U d 954 [.ref (A.adr .c),toV .seen,.bool w] (λ_=>X) (heapOf A G):=
 ww afK afN (i.le (c:=b+4) (bF (bq 4 _) b)) (aq (cn B) P.rI) λl o x f=>m l _ _ z o x (av _) λj lam g=>.seen (f j lam g).1
theorem afQ{e w:Bool}(j:cz A K W Q W F n h z (b+iV (.h4 e) W) G)(P:jK (.h4 e) W h d)(m:pe A K Q W (.h4 e) w n h z b G X):U d 954 [.ref (A.adr .c),toV (.h4 e),.bool w] (λ_=>X) (heapOf A G):=
 ww (yA (if e then 1 else 0)) (yB _) (j.le (c:=b+4) (bF (bq 4 _) b)) (aq (cn B) P.rI) λl o x f=>m l _ _ z o x (av _) λi lam g=>.h4 (f i lam g).1.1 (f i lam g).1.2.1 ((BN lam W).symm▸(f i lam g).2)
theorem Jf{vs us:List J}(j:cz A K cP Q W F n h z b G)(l:vs.length<=1000)(e:us=vs.take (vs.length-1))(m:∀f G',cz A ((f,.raw (.list us))::K) cP Q W F n h z b G'->fI G G'->k (.ref f) (heapOf A G')):mv (.lst vs) .none (.int (-1)) k (heapOf A G):=by
 refine⟨vs,0,vs.length-1,B,fa l B,B,?_,λf i=>?_⟩
 .simp only[Dd,clamp];rw[if_pos (by decide),if_neg (by decide)];exact congrArg ae ((congrArg Int.toNat (Int.add_comm (-1) (vs.length:Int))).trans (Int.toNat_sub vs.length 1))
 .refine iw (yp i) λt1 g p=>?_;rw[apf,<-e,p5 (o:=.list us) t1 (.raw (.list us)) B];exact m f _ (j.new t1 p g _ trivial) (zY g)
theorem E4{a:ai}{vs:List J}{k:bT->List J->bT}(g:H a=ae (.list vs))(l:vs.length<=16000000)(h:k (λf=>iO f (.ref a)=iO H (.ref a)) vs H):iY (.ref a) k H:=⟨.li vs,kj g,l,h⟩
theorem afR(h:dX (.glob 962,[.ref (A.adr .c)]) (heapOf A G)):methP (.ref (A.adr .c)) uB dX (heapOf A G):=uZ (b:=.c) (f:=962) B B B B h
theorem afS{vs:List J}{v:J}(l:vs.length<=1000)(h:k v H):cF (.lst (vs++[v])) (.int (-1)) k H:=by refine oS (by rw[bA];exact fa (ano l) B) (i:=vs.length) ?_ (by simp) h;dsimp only[idx];rw[if_neg (by decide),if_pos (by simp;exact g4 (aH vs.length))];congr 1;simp;lia
theorem afT(d:Nat)(κ:cD)(c t w is:J)(m:k8 nn):cq (U d) 198 (bX 1137 100) (uX c t w is nn) κ=methP c uB λf=>(λ(g:J->bT)=>cl d (.blt "len") [is] λo=>cp .Gt o (.int 0) λp=>b6 p (uz (.int 1) λl=>cF is l λj=>g j) (g .none)) λi=>cl d f.1 (f.2++[i,w]) λq=>κ.cQ (uX c t w is nn):=by rcases m with rfl|⟨r,rfl⟩<;>cbv
theorem Jg{v:J}{vs:List J}{w:Bool}{f:d6}(j:k8 f){g:J}(l:vs.length<=1000)(e:mu v .none=ae ag)(m:U d 954 [.ref (A.adr .c),v,.bool w] (λ_=>X) (heapOf A G)){κ:cD}(i:κ.cQ (uX (.ref (A.adr .c)) g (.bool w) (.lst (vs++[v])) f)=X):
  cq (U (d+1)) 198 (bX 1137 100) (uX (.ref (A.adr .c)) g (.bool w) (.lst (vs++[v])) f) κ (heapOf A G):=by
 refine cO (afT _ _ _ _ _ _ j) ?_;rw[i];refine afR (wg B (by rw[bA];exact fa (ano l) B) (wj ?_));rw[decide_eq_true (by rw[bA];exact anH.mpr (Nat.succ_pos _))];exact dI (wh (afS l (de B (cO Pp (mH e (dI (ru m)))))))
theorem Qh(x b:Nat)(a c:T)(W:List Way):b+x+iV c W+iV a W<=b+(al a+al c+x+(be a+be c)*gF W):=by dsimp only[iV];rw[anM];k_is
theorem Qi(h:Int)(x y:Nat):h+x<=h+((max x y:Nat):Int):=by exact g4 (g0 (bv x y))
theorem afV(h:Int)(x y:Nat):h+x<=h+((max y x:Nat):Int):=by exact g4 (g0 (a8 y x))
theorem afW(h:Int)(x y:Nat):h+1+x<=h+((max y (1+x):Nat):Int):=by exact g4 (g0 (a8 y (1+x)))
theorem Qj{k e:Nat}(x y:Nat)(l:k<=e):x+k<=e+max x y:=by exact dp l (bv x y)
theorem Qk{k e:Nat}(x y:Nat)(l:k<=e):x+k<=e+max y x:=by exact dp l (a8 y x)
theorem afX(u:∀f,f<d->lB A f)(g:cz A K W Q W F n h z (b+iV (.seq1 a) W) G)(P:jK (.seq1 a) W h d)(s:pe A K Q W (.seq1 a) w n h z b G X):U d 954 [.ref (A.adr .c),toV (.seq1 a),.bool w] (λ_=>X) (heapOf A G):=by obtain⟨d,rfl⟩:∃e,d=e+3:=⟨d-3,fw P.rI B⟩;refine oA 1137 g B B (cO IS (hO (qa (cn B) (cO IT (wh (Jf (us:=[]) g (cn B) B λC y eD m=>?_))))));refine E4 (eD.wo (.head _)) (cn B) (z3 (wv (Jg (d:=d) (vs:=[]) (.inl B) (cn B) (rH (t:=a) P.kO) ?_ B)));exact u d (Nat.lt_add_of_pos_right (cn B)) (eD.drop λe=>nomatch e) (P.sub (a:=a) P.kO (aO _) (aO _) (ak (aod (dv a) 3))) λp j o l eE v x q=>s p j o l eE (m.trans v) x λr lam i=>.seq1 (q r lam i)
theorem afY(p:∀i,i<d->lB A i)(f:cz A K W Q W F n h z (b+iV (.gn a c) W) G)(P:jK (.gn a c) W h d)(D:pe A K Q W (.gn a c) w n h z b G X):U d 954 [.ref (A.adr .c),toV (.gn a c),.bool w] (λ_=>X) (heapOf A G):=by obtain⟨d,rfl⟩:∃e,d=e+3:=⟨d-3,fw P.rI B⟩;have f:=f.le (c:=b+iV c W+iV a W) (Qh 0 b a c W);refine oA 1137 f B B (cO IS (hO (qa (cn B) (cO IT (wh (Jf (us:=[toV a]) f (cn B) B λV L eD r=>?_))))));have j:=eD.wo (.head _);refine E4 j (cn B) (E2 (cO aeo (ru ?_)));refine p (d+1) (Db B) eD (P.sub (d:=d+1) (e:=2) P.kO.1 (aO _) (Qi ..) (Qj _ _ (cn B))) λS M R N eE I l s=>Qd (z3 ?_ (by have q:=eE.wo (.head _);exact(kj q).trans (kj j).symm));refine wv (Jg (d:=d) (vs:=[toV a]) (.inr ⟨_,B⟩) (cn B) (rH P.kO.2) ?_ B);exact p d (Nat.lt_add_of_pos_right (cn B)) (qM h▸eE.drop λe=>nomatch e) (P.sub P.kO.2 (aO _) (afV ..) (Qk _ _ (cn B))) λx E v y hb o u C=>D x E v y hb (r.trans (I.trans o)) (aq l u) λm lam g=>.gn (s m lam (g.ex o)) (bJ.mpr l) (C m lam g)
theorem af1(d:Nat)(κ:cD)(s f c g t v:J):eG (U d) 197 (dS (bX 1004 10)) v (nS s f c g (.Y t)) κ=eG (U d) 197 (dS (bX 1004 10)) v (nS s f c g) κ:=by cbv
theorem af2(d:Nat)(κ:cD)(s g c f t:J):cq (U d) 198 (bX 1004 100) (nS s g c f (.Y t)) κ=g6 f λi=>b6 (!i) (cB d s eQ [.str re,c] λj=>κ.cQ (nS s g c f (.Y t))) (κ.cQ (nS s g c f (.Y t))):=by cbv
theorem af3(h:dX (.glob 1004,[.ref (A.adr .c)]) (heapOf A G)):methP (.ref (A.adr .c)) HY dX (heapOf A G):=uZ (b:=.c) (f:=1004) B B B B h
theorem af4{k:Bool->bT}(e:∀H,mT H .NotEq (.str kd) (.str uF)=ae af)(h:k af H):cp .NotEq (.str kd) (.str uF) k H:=⟨af,e H,h⟩
theorem DE(ot:iq L Hh t)(f:U d 954 [.ref (A.adr .c),toV t,.bool af] (λ_=>κ.ct (nS (.ref (A.adr .c)) ns (.int (i+1)) (.bool ag) (.Y (toV t)))) (heapOf A G))(hd:1<=d):
  eG (U d) 197 (dS (bX 1004 10)) (toV t) (nS (.ref (A.adr .c)) ns (.int i) (.bool ag)) κ (heapOf A G):=by
 obtain⟨d,rfl⟩:∃e,d=e+1:=⟨d-1,fw hd B⟩;refine gT (Qf ot) λkd ps e _ ne=>?_;rw[e]at f⊢;exact cO adV (nZ (af4 ne (dI (ru (cO BJ f)))))
theorem af5(o:∀l,l<d->lB A l)(g:cz A K W Q W F n h z (b+iV (.arr a c) W) G)(P:jK (.arr a c) W h d)(C:pe A K Q W (.arr a c) w n h z b G X):U d 954 [.ref (A.adr .c),toV (.arr a c),.bool w] (λ_=>X) (heapOf A G):=by obtain⟨d,rfl⟩:∃e,d=e+12:=⟨d-12,fw P.rI B⟩;have g:=g.le (c:=b+2+iV c W+iV a W) (Qh 2 b a c W);refine oA 1116 g B B (cO aee (af3 (hO (qa (cn B) (de B (cO adJ (c7 B (gR (cO adK (n0 (cn B) (E2 (DE P.kO.1 ?_ (cn B)))))))))))));refine o (d+9) (Db B) g (P.sub (d:=d+9) (e:=3) P.kO.1 (aO _) (Qi ..) (Qj _ _ (cn B))) λI R S V eD u m D=>Qe (E2 ?_);refine cO (af1 (d+9) ..) (DE P.kO.2 ?_ (cn B));refine o (d+9) (Db B) eD (P.sub (d:=d+9) (e:=3) P.kO.2 (oI h) (afW ..) (Qk _ _ (cn B))) λN q L s eE p x v=>Qe (z3 ?_);refine wv (cO (af2 (d+9) ..) (j0 (dI ?_)));exact I1 (b:=b+1) (.list 2) eE (h':=h+1) (by show h+1+1-((2:Nat):Int)+1=_;exact anL (by k_is) (by k_is)) ⟨B,B⟩ (cn B) λM hb j r=>Qc hb (cn B) λE hn ei y=>C E q _ s hn (u.trans (p.trans (j.trans ei))) (aq m x) λi lam f=>.arr (D i lam (f.ex (p.trans (j.trans ei)))) (bJ.mpr m) (v i lam (f.ex (j.trans ei))) ((f.ex ei).at_ r) (y i lam f)
end
end
noncomputable def BY:rb->ia->Prop
 |.brk,.loop _ _ _ _=>False
 |.dQ,.loop _ _ _ _=>False
 |.eW,.hand _ _ _ _=>False
 |_,_=>True
theorem Pre.ext:∀{C:List ia}{z p c b},(∀w∈C,BY X w)->Pre R Rest h C z p c b->Ext R X Rest h c b->Ext R X (C++Rest) h z p
 |[],z,p,c,b,_,a,x=>by obtain⟨rfl,rfl⟩:=a;exact x
 |.loop _ _ _ _::C,z,p,c,b,n,a,x=>by
  have r:=Pre.ext (C:=C) (λw m=>n w (aY _ m)) a x;have d:=n _ (a4 ..)
  induction X using rb.casesOn with
  |brk=>cases d
  |dQ=>cases d
  |ret=>exact .Zm r
  |eW=>exact .Ot r
 |.part _ _::C,z,p,c,b,n,a,x=>.Ou (Pre.ext (C:=C) (λw m=>n w (aY _ m)) a x)
 |.dZ _ _ l::C,z,p,c,b,n,a,x=>by exact gT a λj o le i a=>.Ov i le (Pre.ext (C:=C) (λw m=>n w (aY _ m)) a x)
 |.hand _ _ k g::C,z,p,c,b,n,a,x=>by
  refine iw a λe f a=>?_;have r:=Pre.ext (C:=C) (λw m=>n w (aY _ m)) a x;have d:=n _ (a4 ..)
  induction X using rb.casesOn with
  |brk=>exact .Zn e f r
  |dQ=>exact .Zo e f r
  |ret=>exact .Zp e f r
  |eW=>cases d
theorem Pre.eW{h i:Int}{t:Nat}{j:Int}{f x:Nat}:∀{C:List ia}{z p c d},(∀w∈C,BY .eW w)->Pre R Rest h (C++[.hand i t j f]) z p c d->h=i+x->x<=3->ti R x ag c f d->Ext R .eW (C++.hand i t j f::Rest) h z p
 |[],z,p,c,d,_,a,e,l,b=>by refine jQ a λr v s y=>?_;obtain rfl:=s;obtain rfl:=y;show Ext R .eW (.hand i t j f::Rest) h c p;exact dj.Zq x r v e l b
 |.loop _ _ _ _::C,z,p,c,d,n,a,e,l,b=>.Ot (Pre.eW (C:=C) (λw m=>n w (aY _ m)) a e l b)
 |.part _ _::C,z,p,c,d,n,a,e,l,b=>.Ou (Pre.eW (C:=C) (λw m=>n w (aY _ m)) a e l b)
 |.dZ _ _ q::C,z,p,c,d,n,a,e,l,b=>by obtain⟨D,A,le,u,a⟩:=a;have o:Seg R q ag ((C++[.hand i t j f])++Rest) h z p A:=u;rw[bk]at o;exact .Ov o le (Pre.eW (C:=C) (λw m=>n w (aY _ m)) a e l b)
 |.hand _ _ k g::C,z,p,c,d,n,a,e,l,b=>absurd (n _ (a4 ..)) (λh=>h)
theorem Ji:∀{W:List Way},wr W=af->∃C h w s t R,W=C++.loop h w s t::R/\∀x∈C,rE 146 x=ag
 |.loop h w s t::W,_=>⟨[],h,w,s,t,W,B,λx m=>nomatch m⟩
 |.part a pl h x t e0::W,e=>by exact Ga (Ji (W:=W) e) λC b w s d R e n=>⟨.part a pl h x t e0::C,b,w,s,d,R,by rw[e];rfl,λy m=>(aI.mp m).elim (λc=>by refine c▸?_;induction x using iT.casesOn<;>rfl) (n y)⟩
noncomputable def Way.Qn:Way->Prop
 |.part _ _ _ (.hand _ _) _ _=>True
 |_=>False
theorem af7(e:rC (x::W)=af):x.Qn\/(rE 249 x=ag/\rC W=af):=by
 induction x using Way.casesOn with
 |loop _ _ _ _=>exact .inr ⟨B,e⟩
 |part _ _ _ x _ _=>induction x using iT.casesOn with
  |hand _ _=>exact .inl trivial
  |plain=>exact .inr ⟨B,e⟩
  |dZ l=>exact .inr ⟨B,e⟩
theorem Qo:∀{W:List Way},rC W=af->∃C x R,W=C++x::R/\x.Qn/\∀x∈C,rE 249 x=ag
 |x::W,e=>by
  rcases af7 e with h|⟨h,e⟩
  .exact ⟨[],x,W,B,h,λx m=>nomatch m⟩
  .exact AE (Qo e) λC y R e b n=>⟨x::C,y,R,by rw[e];rfl,b,λc m=>(aI.mp m).elim (λa=>a▸h) (n c)⟩
theorem jo.at_:∀{C:List Way},jo b h (C++x::R)->∃b',b<=b'/\jo b' h (x::R)
 |[]=>λf=>⟨b,av _,f⟩
 |.loop _ _ _ _::C=>λf=>jo.at_ (C:=C) f.2.2
 |.part _ _ _ .plain _ _::C=>λf=>jo.at_ (C:=C) f
 |.part _ _ _ (.dZ l) _ _::C=>λf=>(jo.at_ (C:=C) (show jo (b+dR l+1) h (C++x::R)from f)).imp λb' a=>⟨aq (by k_is) a.1,a.2⟩
 |.part _ _ _ (.hand ..) _ _::C=>λf=>jo.at_ (C:=C) f.2.2
theorem Qp:∀{C:List Way},(∀x∈C,rE 146 x=ag)->l8 (k7 lam (C++.loop h w s t::R))=w
 |[]=>λ_=>B
 |.loop _ _ _ _::C=>λn=>kD (n _ (.head _))
 |.part _ _ _ x _ _::C=>λn=>by induction x using iT.casesOn<;>exact Qp (C:=C) λx m=>n x (.tail _ m)
theorem Jj(n:∀x∈C,rE k x=ag)(a:∀y,rE k y=ag->BY X (kh lam y)):∀w∈k7 lam C,BY X w:=λw m=>
 (bC.mp m).elim λy e=>e.2▸a y (n y e.1)
theorem af8{W:List ia}:∀w∈W,BY .ret w:=λw _=>by induction w using ia.casesOn<;>trivial
theorem E6 lam(a b:List Way):k7 lam (a++b)=k7 lam a++k7 lam b:=bG ..
section
variable{A:m5}{K:List (ai×Cell)}{cP W:List Way}{Q:List fM}{F:List lV}{n z b d e:Nat}{h h':Int}{G:jn}{k:cZ}{X:bT}{H:bW}{t a c:T}
section
variable{w:Bool}{s t:ai}
theorem Qq(f:k (.int h) H):b4 (Way.toV (.loop h w s t)) fW k H:=kH B B f
theorem Qr(f:k (.bool w) H):b4 (Way.toV (.loop h w s t)) nP k H:=kH B B f
theorem af9(f:k (.ref s) H):b4 (Way.toV (.loop h w s t)) zF k H:=kH B B f
theorem aga(f:k (.ref t) H):b4 (Way.toV (.loop h w s t)) tv k H:=kH B B f
end
theorem jK.rF(P:jK t W h d)(l:d<=e+10):u4 W h e:=⟨P.fit.mono (aO _) (g4 (aH (dR t))),P.rD,by have f:=P.need;unfold Internal.P.need at f;exact dp l f⟩
theorem cz.Qs(g:cz A K cP Q W F n h z b G)(m:y∈W):wk G.M y:=by obtain⟨i,f⟩:=apM.mp m;have j:(W.zip F)[i]?=ae (y,F[i]'(g.p9▸(anB.mp f).1)):=apN.mpr ⟨f,apO _⟩;exact g.lw _ (aK Q (aoi j))
theorem BZ(h:Int)(w:Bool):h<=h+jW w/\h+jW w<=h+1:=by
 induction w using aS with
 |true=>exact⟨oI h,aO _⟩
 |false=>exact⟨bt (qM h).symm,(qM h).symm▸oI h⟩
theorem toN(le:l<=h):∃x:Nat,h=l+x:=⟨(h-l).toNat,by exact anL (g4 (Int.self_le_toNat (h-l))) (g4 (bt (Int.toNat_of_nonneg (show 0<=h-l from(g4 le)))))⟩
theorem agb(bd:∀l,l<d->lB A l)(f:cz A K W Q W F n h z (b+iV (.brk i) W) G)(P:jK (.brk i) W h d)(a2:pe A K Q W (.brk i) w n h z b G X):U d 954 [.ref (A.adr .c),toV (.brk i),.bool w] (λ_=>X) (heapOf A G):=by
 refine Ga (Ji P.kO) λg m lw s t j I o=>?_;obtain rfl:=I;obtain⟨d,rfl⟩:∃e,d=e+30:=⟨d-30,fw P.rI B⟩;refine tc (jo.at_ P.fit) λcc hV Z cd ca=>?_;obtain⟨x,ce⟩:=toN Z;have f:=f.le (c:=b+7+gF (g++.loop m lw s t::j)+4) (by show _<=b+(14+1*gF _);k_is);refine oA 314 f B B (cO abP (hN (hN (u2 f (c7 B (gR (de B (I9 (.inl B) (cn B) f P.lw o B (is_none (b:=ag) B (c6 ?_))))))))));refine tH (yy (a:=g) (b:=j) (x:=.loop m lw s t) f.sM P.lw B (hO (qa (cn B) (Qr (de B (wy B (ww (yA i) (yB i) f (cn B) λb2 eD M S=>kv (de B ?_))))))));refine EY (C:=g) (R:=.loop m lw s t::j) (h0:=h) (aq (bq _ 2) P.dl) (λl L=>bd l (cY L)) eD (cn B) (P.rF (bq _ 7)) (BZ h lw).1 (BZ h lw).2 P.lw B λck cm b5 cg cb eE R C a1 bV=>Qq (Qr (aga (de B ?_)));refine I_ (x:=x) (b:=b) (eE.le (by k_is)) (λf=>(f.Qs (.head _)).2) (by rw[ce,Int.add_right_comm]) (by lia) (cn B) λci V b7 ao hb v Y bY=>kv (de B ?_);refine EZ hb R (cn B) P.lw B λco ap hn ei=>cO abQ (int_bool (kv (rB hn _ λN iX r=>?_)));refine a2 N ap V ao iX (M.trans (C.trans (v.trans (ei.trans r)))) (aq a1 Y) λp lam E=>?_;have u:=E.ex (ei.trans r);have q:=u.ex v;have D:l8 (k7 lam (g++.loop m lw s t::j))=lw:=Qp o;refine .brk (D▸(S p lam (q.ex C)).1) (aO _) ?_;rw[D,E6];exact Pre.ext (Jj o λy bZ=>by induction y using Way.casesOn with
  |loop _ _ _ _=>exact kD bZ
  |part _ _ _ x _ _=>induction x using iT.casesOn<;>trivial) (bV p lam q) (.Zj x (by rw[ce,Int.add_right_comm]) (by lia) (bY p lam u))
theorem agc(a2:∀j,j<d->lB A j)(f:cz A K W Q W F n h z (b+iV (.dQ i) W) G)(P:jK (.dQ i) W h d)(a1:pe A K Q W (.dQ i) w n h z b G X):U d 954 [.ref (A.adr .c),toV (.dQ i),.bool w] (λ_=>X) (heapOf A G):=by
 refine Ga (Ji P.kO) λg m lw s t l E q=>?_;obtain rfl:=E;obtain⟨d,rfl⟩:∃e,d=e+30:=⟨d-30,fw P.rI B⟩;refine tc (jo.at_ P.fit) λcb hV Y cc b7=>?_;obtain⟨x,ce⟩:=toN Y;have f:=f.le (c:=b+7+gF (g++.loop m lw s t::l)+4) (by show _<=b+(14+1*gF _);k_is);refine oA 321 f B B (cO abY (hN (hN (u2 f (c7 B (gR (de B (I9 (.inl B) (cn B) f P.lw q B (is_none (b:=ag) B (c6 ?_))))))))));refine tH (yy (a:=g) (b:=l) (x:=.loop m lw s t) f.sM P.lw B (hO (qa (cn B) (de B (wy B (ww (w:=ag) (yA i) (yB i) f (cn B) λbZ eD L R=>kv (de B ?_)))))));rw[qM]at eD;refine EY (C:=g) (R:=.loop m lw s t::l) (h0:=h) (aq (bq _ 2) P.dl) (λj I=>a2 j (cY I)) eD (cn B) (P.rF (bq _ 7)) (aO _) (oI h) P.lw B λci ck b2 cd ca eE N C ap bd=>Qq (af9 (de B ?_));refine I_ (w:=ag) (x:=x) (b:=b) (eE.le (by k_is)) (λf=>(f.Qs (.head _)).1) (by rw[qM];exact ce) (by lia) (cn B) λcg S b5 Z hb v V bV=>kv (de B ?_);refine EZ hb N (cn B) P.lw B λcm ao hn ei=>cO abZ (int_bool (kv (rB hn _ λM iX r=>?_)));refine a1 M ao S Z iX (L.trans (C.trans (v.trans (ei.trans r)))) (aq ap V) λo lam D=>?_;have u:=D.ex (ei.trans r);have p:=u.ex v;refine .dQ (R o lam (p.ex C)).1 (aO _) ?_;rw[E6];exact Pre.ext (Jj q λy bY=>by induction y using Way.casesOn with
  |loop _ _ _ _=>exact kD bY
  |part _ _ _ x _ _=>induction x using iT.casesOn<;>trivial) (bd o lam p) (.Zk x ce (by lia) (bV o lam u))
theorem agd{i:Int}{w:Bool}(Y:∀g,g<d->lB A g)(f:cz A K W Q W F n h z (b+iV (.ret i) W) G)(P:jK (.ret i) W h d)(V:pe A K Q W (.ret i) w n h z b G X):U d 954 [.ref (A.adr .c),toV (.ret i),.bool w] (λ_=>X) (heapOf A G):=by
 obtain⟨d,rfl⟩:∃e,d=e+30:=⟨d-30,fw P.rI B⟩;have f:=f.le (c:=b+7+gF W+4) (by show _<=b+(14+1*gF _);k_is);refine oA 328 f B B (cO ab4 (hN (hN (u2 f (c7 B (gR (hO (qa (cn B) (de B (cO aaw (wy B (ww (w:=af) (yA i) (yB i) f (cn B) λu eD D L=>IW (c7 B ⟨af,by cbv,dI (de B ?_)⟩)))))))))))));have j:jK (.ret i) (W++[]) h (d+30):=by rw[bB];exact P
 have M:cz A K (W++[]) Q (W++[]) F (n+3) (h+1) z (b+7+gF (W++[])) u:=by rw[bB];exact eD
 refine EY (C:=W) (R:=[]) (h0:=h) (aq (bq _ 2) P.dl) (λg x=>Y g (cY x)) M (cn B) (j.rF (bq _ 7)) (oI h) (aO _) j.lw B λa2 bd ao ap y eE I q S Z=>wq (b:=b) (h':=h) .leave (eE.le (by show _<=b+7+0;k_is)) (ch h) ⟨B,B,B⟩ (cn B) λa1 hb p v=>de B (EZ hb I (cn B) j.lw B λbV N hn ei=>cO ab5 (int_bool (kv (rB hn _ λE iX m=>?_))));rw[bB]at iX;refine V E N _ y iX (D.trans (q.trans (p.trans (ei.trans m)))) S λr lam s=>?_;have o:=s.ex (ei.trans m);have l:=o.ex p;have:=Pre.ext (X:=.ret) af8 (Z r lam l) (.Zl (o.at_ v));rw[show k7 lam []=[]from B,bB]at this;exact .ret (L r lam (l.ex q)).1 (aO _) this
theorem agf(cb:∀r,r<d->lB A r)(i:cz A K W Q W F n h z (b+7+gF W) G)(hh:rC W=af)(P:jK t W h (d+7))(hd:20<=d)
  (N:∀G' F' cd E,cz A K W Q W F' cd (h+jW w) E b G'->fI G G'->z<=E->(∀R lam,Good R lam G'->Ext R .eW (k7 lam W) h z n)->X (heapOf A G')):
  U d 335 [.ref (A.adr .c),fL nN [],.bool w] (λ_=>X) (heapOf A G):=by
 refine AE (Qo hh) λp y R ca q C=>?_;obtain rfl:=ca
 induction y using Way.casesOn with
 |loop _ _ _ _=>cases q
 |part a l m y t o=>induction y using iT.casesOn with
  |plain=>cases q
  |dZ _=>cases q
  |hand j g=>
  obtain⟨d,rfl⟩:∃e,d=e+20:=⟨d-20,fw hd B⟩;refine tc (jo.at_ P.fit) λcs hV bY ct co=>?_;obtain⟨x,ce⟩:=toN bY;refine cO ab9 (hN (hN (u2 i (c7 B (gR (de B (I9 (.inr B) (cn B) i P.lw C B (is_none (b:=ag) B (c6 ?_)))))))));refine tH (yy (a:=p) (b:=R) (x:=.part a l m (.hand j g) t o) i.sM P.lw B (de B ?_));have M:p++.part a l m (.hand j g) t o::R=(p++[.part a l m (.hand j g) t o])++R:=by rw[bk];rfl
  have s:=P;rw[M]at i s N;refine EY (C:=p++[.part a l m (.hand j g) t o]) (R:=R) (h0:=h) (by have:=P.dl;exact cY this) (λr a1=>cb r (cY a1)) i (cn B) (s.rF (cY (eB (d+19) 1))) (aO _) (oI h) s.lw B λcA V ck cw cr eE D cg b5 cc=>?_;obtain⟨⟨_,f⟩,b7,rfl⟩:∃y∈V,y.1=.part a l m (.hand j g) t o:=bC.mp (by rw[D];exact aK _ (.head _));have Z:((.part a l m (.hand j g) t o,f):fM)∈Q++V:=aK _ b7;have v:=(eE.pt _ (aU _ Z)).1;have ao:=il (eE.i5 _ _ v).1 v;refine ES ao (k0 (u:=.ref g) ao B B (de B ?_));refine I_ (w:=ag) (x:=x) (b:=b) (eE.le (by k_is)) (λi=>(i.lw _ (aU _ Z)).2) (by rw[qM];exact ce) (by lia) (cn B) λcy bd cm bZ hb S bV ci=>de B (EZ hb D (cn B) s.lw B λcu b2 hn ei=>int_bool (kv (rB hn _ λa2 iX I=>N a2 b2 bd bZ iX (cg.trans (S.trans (ei.trans I))) (aq b5 bV) λY lam ap=>?_)));have L:=ap.ex (ei.trans I);have pre:=cc Y lam (L.ex S);rw[E6]at pre;rw[<-M,E6];exact Pre.eW (Jj C λy q=>by induction y using Way.casesOn with
   |loop _ _ _ _=>trivial
   |part _ _ _ x _ _=>induction x using iT.casesOn<;>first|trivial|exact kD q) pre ce (by lia) (ci Y lam L)
theorem agg(Z:∀g,g<d->lB A g)(f:cz A K W Q W F n h z (b+iV (.once i) W) G)(P:jK (.once i) W h d)(V:pe A K Q W (.once i) w n h z b G X):U d 954 [.ref (A.adr .c),toV (.once i),.bool w] (λ_=>X) (heapOf A G):=by obtain⟨d,rfl⟩:∃e,d=e+30:=⟨d-30,fw P.rI B⟩;have f:=f.le (c:=b+1+1+7+gF W+1+4) (by show _<=b+(16+1*gF _);k_is);refine oA 300 f B B (cO abm (cO abn (hO (cO abt (gR (hN (hN (u2 f (c7 B (gR ?_))))))))));refine p' f (cn B) λv bY eD E=>p' eD (cn B) λM ca eE bd=>c7 B (gR (ru (cO BJ ?_)));refine ww (w:=af) (yA i) (yB i) eE (cn B) λb7 hb Y bV=>pd (.ji v) hb (ch h) ⟨B,B⟩ (cn B) (λck hn ei R=>de B (wy B ?_)) (rz (hb.hV (.tail _ (.head _))));refine oA 1137 hn B B (cO IS (hO (qa (cn B) (cO IT (wh (Jf (us:=[]) hn (cn B) B λcc b2 iX q=>?_))))));refine E4 (iX.wo (.head _)) (cn B) (z3 (wv (Jg (d:=d+24) (vs:=[]) (.inl B) (cn B) B (oA 335 iX B B ?_) B)));refine agf (d:=d+23) (b:=b+1+1) (λg D=>Z g (cY D)) iX P.kO P (cn B) λb5 ap a1 N kB o a2 L=>?_;have kB:=kB.drop λe=>nomatch e;refine pd (.gj M) kB (cf _) ⟨B,B⟩ (cn B) (λbZ ml l ci=>p_ [_] ml (cn B) λcg mR y=>rB mR h λcb mm C=>de B (afM mm (cn B) λcd n8 x ao=>p_ [] n8 (cn B) λS nr p=>?_)) (rz (kB.hV (.head _)));refine V S ap _ N ((nr.drop λe=>nomatch e).drop λe=>nomatch e) (E.trans (bd.trans (Y.trans (ei.trans (q.trans (o.trans (l.trans (y.trans (C.trans (x.trans p)))))))))) a2 λj lam m=>?_;have s:=m.ex p;have u:=s.ex (l.trans (y.trans (C.trans x)));have r:=u.ex (q.trans o);have I:lam v=a1+1:=nr.lam m (.tail _ (.head _));exact .once (bV j lam (r.ex ei)).1 (I▸r.at_ R) (aO _) (L j lam u) (ao j lam s)
end
section
variable{A:m5}{d n z b:Nat}{k:cZ}{F:List lV}{h h':Int}{G:jn}{K:List (ai×Cell)}{cP W:List Way}{Q:List fM}{H:bW}{X:bT}
section
variable{e:Nat}{t a c:T}
theorem agh(r:g9 ai)(f:cz A K cP Q W F n h z (b+1) G)(e:h-r.tk+r.gv=h')(c:rq r=.none/\rr r=.none)(hd:5<=d)(g:sN A K cP Q W F n h' z b G r X)(cv:∀l,rx r=ae l->hU G.M l:=by exact λ_ h=>cV h):
  U d 694 [.ref (A.adr .m),.str (qJ r),rp r] (λ_=>X) (heapOf A G):=by
 obtain⟨d,rfl⟩:∃e,d=e+1:=⟨d-1,fw hd B⟩;have:=wp (k:=λ_=>X) r f e hd cv λ_=>g;rw[c.1,c.2]at this;exact cO Pi this
theorem agi(g:cz A K cP Q W F n h z (b+1) G)(hd:5<=d)(i:∀G',cz A K cP Q W F (BX w n) (h+jW w) z b G'->fI G G'->(∀R lam,Good R lam G'->vV R w n (BX w n))->X (heapOf A G')):b6 w (cB d (.ref (A.adr .m)) eQ [.str k4,.none] λ_=>X) X (heapOf A G):=by
 induction w using aS with
 |true=>exact dI (pd (.push .none) g (fc h) ⟨B,B⟩ hd λG' l x f=>i G' l x λR lam j=>⟨j.at_ f,B⟩)
 |false=>exact c6 (i G ((qM h).symm▸g.le (bz b)) (fI.refl G) λ_ _ _=>B)
theorem agj(bZ:∀u,u<d->lB A u)(f:cz A K W Q W F n h z (b+iV (.fm i t) W) G)(P:jK (.fm i t) W h d)(cd:pe A K Q W (.fm i t) w n h z b G X):U d 954 [.ref (A.adr .c),toV (.fm i t),.bool w] (λ_=>X) (heapOf A G):=by obtain⟨d,rfl⟩:∃e,d=e+30:=⟨d-30,fw P.rI B⟩;have f:=f.le (c:=b+1+1+iV t W+1+4) (by show _<=b+(al t+8+be t*gF W);unfold iV;k_is);refine oA 307 f B B (cO abx (cO aby (hO (cO abG (gR (hN (hN (u2 f (c7 B (gR ?_))))))))));refine p' f (cn B) λm ck eD b7=>p' eD (cn B) λM cu eE a1=>p' eE (cn B) λp cA hb V=>c7 B (gR (p_ [_,_] hb (cn B) λcG hn ei=>?_));refine afe (de B (EV (hn.loop (hn.hV (.tail _ (.tail _ (.head _)))) (hn.hV (.head _))) (cn B) P.lw λcm co iX ao=>ru (cO BJ ?_)));refine ww (w:=af) (yA i) (yB i) iX (cn B) λct kB b5 ca=>ER (j0 (c6 (de B ?_)));refine agh (.ji M) kB (ch h) ⟨B,B⟩ (cn B) (λcy ml I Y=>de B (wy (rH P.kO.2) ?_)) (rz (kB.hV (.tail _ (.head _))));refine bZ (d+27) (Db B) ml ⟨⟨aO _,aoe (bJ.mpr P.kO.1) h,P.fit⟩,P.kO.2,P.rD,by have L:=P.need;unfold need at L⊢;simp only[tO,tP,tQ,tR];have:30+(4+dv t)+i6 W<=d+30:=L;exact cY this,aq (bq _ 3) P.dl⟩ λcr cg l a2 mR N bV cb=>?_;rw[qM]at mR;refine pd (.gj m) mR (cf h) ⟨B,B⟩ (cn B) (λcw mm R bY=>de B (EW mm (cn B) P.lw λci cs ap n8 C=>?_)) (rz (mR.hV (.tail _ (.tail _ (.head _)))));refine p_ [_] n8.afd (cn B) λcE nr D=>rB nr h λcC s9 y=>j0 (agi s9 (cn B) λcI q0 E Z=>p_ [] q0 (cn B) λbd qq r=>?_);refine cd bd ap _ a2 (((qq.drop λe=>nomatch e).drop λe=>nomatch e).drop λe=>nomatch e) (b7.trans (a1.trans (V.trans (ei.trans (ao.trans (b5.trans (I.trans (N.trans (R.trans (C.trans (D.trans (y.trans (E.trans r))))))))))))) bV λj lam g=>?_;have o:=g.ex r;have x:=o.ex (C.trans (D.trans (y.trans E)));have s:=x.ex R;have S:=s.ex N;have v:lam m=n:=qq.lam g (.tail _ (.tail _ (.head _)));have cc:lam M=l+1:=qq.lam g (.tail _ (.head _));have b2:lam p=BX w (l+1):=qq.lam g (.head _);have q:Seg j t ag (.loop h w (lam m) (lam p)::k7 lam W) h z (n+3+1) l:=cb j lam s;rw[v,b2]at q;exact .fm (ca j lam (S.ex I)).1 (cc▸S.at_ Y) q (v▸x.at_ bY) (Z j lam o)
end
noncomputable def kZ(x:Nat):List (Nat×T)->Nat
 |[]=>0
 |(_,t)::r=>al t+be t*(x+3)+20+kZ x r
noncomputable def mh(hs:List (Nat×T)):List J:=hs.map λa=>.tup [ox a.1,.none,toV a.2]
noncomputable def ft:List Str->Nat
 |[]=>0
 |_::r=>ft r+4
noncomputable def B5:List Str->Nat->Nat
 |[],n=>n
 |_::r,n=>B5 r (n+4)
section
variable{e:Nat}{t a c:T}{er:Int}{f:ai}
theorem QA{b:Bool}(e:b=ag)(h:y H):b6 b x y H:=e▸h
theorem QB(m:cz A K cP Q W F n (h+1) z (b+2) G)(hd:8<=d)(q:∀G',cz A K cP Q W F (n+2) (h+1) z b G'->fI G G'->(∀R lam,Good R lam G'->At R n (.ez er)/\∃k,At R (n+1) (.send Bi k))->X (heapOf A G')):U d 44 [.ref (A.adr .c),.int er] (λ_=>X) (heapOf A G):=by obtain⟨d,rfl⟩:∃e,d=e+8:=⟨d-8,fw hd B⟩;refine cO aaz (mH (b:=ag) B (dI (hN (rA (b:=b+1) (.ez er) m (fc _) B (cn B) λr eD j o=>de B (cO aay (cO aax (hN (ER (c7 B (de B ?_))))))))));exact wp (.send Bi pR) eD (hY h) (cn B) (λ_ h=>cV h) λ_ p eE i l=>q p eE (j.trans i) λR lam g=>⟨(g.ex i).at_ o,_,g.at_ l⟩
theorem agk(g:cz A K cP Q W F n h z (b+1) G)(hd:10<=d)(m:sN A K cP Q W F n (h+1) z b G (.kI s) X):U d 954 [.ref (A.adr .c),fL pS [.none,.str s],.bool af] (λ_=>X) (heapOf A G):=by obtain⟨d,rfl⟩:∃e,d=e+10:=⟨d-10,fw hd B⟩;exact oA 1130 g B B (cO aeh (cO aei (hO (cO aej (gR (is_none (b:=af) B (dI (I1 (.kI s) g (fc h) ⟨B,B⟩ (cn B) λi eD j l=>cO aek (PF (cO Pq (j0 (c6 (m i eD j l)))))))))))))
def agl(R:Rows)(er:Int)(l:Nat)(s:Str)(n:Nat):Prop:=At R n (.kI s)/\At R (n+1) (.ez er)/\(∃k,At R (n+2) (.send Bi k))/\At R (n+3) (.ko l)
theorem agm(p:∀{w h' b' G'},cz A K cP Q W F w h' z b' G'->hU G'.M f)(q:cz A K cP Q W F n h z (b+4) G)(hd:12<=d)(v:∀G',cz A K cP Q W F (n+4) h z b G'->fI G G'->(∀R lam,Good R lam G'->agl R er (lam f) s n)->X (heapOf A G')):
  cl d (.glob 370) [.ref (A.adr .c),fL pS [.none,.str s],.int er,.ref f] (λ_=>X) (heapOf A G):=by
 obtain⟨d,rfl⟩:∃e,d=e+12:=⟨d-12,fw hd B⟩;refine de (d:=d+12) B (cO acF (nZ ⟨ag,by cbv,c6 (ru (cO BJ (agk q (cn B) λx eD o r=>de B (QB (b:=b+1) eD (cn B) λy eE l j=>hN ?_))))⟩));exact pd (.ko f) eE (ch h) ⟨B,B⟩ (cn B) (λu hb i m=>v u hb (o.trans (l.trans i)) λR lam g=>⟨(g.ex (l.trans i)).at_ r,(j R lam (g.ex i)).1,(j R lam (g.ex i)).2,g.at_ m⟩) (rz (p eE))
theorem agn(d:Nat)(κ:cD)(c g er f m v:J)(i:k8 nn):eG (U d) 196 (dS (bX 363 100)) v (rm c g er f m nn) κ=cl d (.glob 370) [c,v,er,f] λ_=>κ.cQ (rm c g er f m (.Y v)):=by rcases i with rfl|⟨j,rfl⟩<;>cbv
theorem ago(d:Nat)(κ:cD)(c g er f m:J)(i:k8 nn):cq (U d) 197 (bX 363 1000) (rm c g er f m nn) κ=κ.cQ (rm c g er f m nn):=by rcases i with rfl|⟨j,rfl⟩<;>cbv
theorem QC(hs:∀H,src H)(hd:12<=d)(q:∀{I h' b' G'},cz A K cP Q W F I h' z b' G'->hU G'.M f):
  ∀(i:List Str)(n:Nat)(G:jn)(g:d6),cz A K cP Q W F n h z (b+ft i) G->k8 g->
   (∀G' g,k8 g->cz A K cP Q W F (B5 i n) h z b G'->fI G G'->(∀R lam,Good R lam G'->pN R er (lam f) i n (B5 i n))->κ.cQ (rm (.ref (A.adr .c)) cs (.int er) (.ref f) m g) (heapOf A G'))->
   forL src (eG (U d) 196 (dS (bX 363 100))) κ (i.map λs=>fL pS [.none,.str s]) (rm (.ref (A.adr .c)) cs (.int er) (.ref f) m g) (heapOf A G)
 |[]=>λn G g l j o=>⟨hs _,o G g j l (fI.refl G) λ_ _ _=>B⟩
 |s::i=>λn G g l j o=>⟨hs _,cO (agn _ _ _ _ _ _ _ _ j) (agm (b:=b+ft i) q l hd λu eD v x=>QC hs hd q i (n+4) u _ eD (.inr ⟨_,B⟩) λy g j eE r E=>o y g j eE (v.trans r) λR lam p=>by refine jQ (x R lam (p.ex r)) λw D L C=>?_;exact⟨w,D,L,C,E R lam p⟩)⟩
theorem QD(o:∀{v h' b' G'},cz A K cP Q W F v h' z b' G'->hU G'.M f)(g:List Str)(l:g.length<=2)(q:cz A K cP Q W F n h z (b+ft g) G)(hd:12<=d)
  (u:∀G',cz A K cP Q W F (B5 g n) h z b G'->fI G G'->(∀R lam,Good R lam G'->pN R er (lam f) g n (B5 g n))->X (heapOf A G')):
  cq (U d) 198 (bX 363 100) (rm (.ref (A.adr .c)) (.lst (g.map λs=>fL pS [.none,.str s])) (.int er) (.ref f) (.ref (A.adr .m))) (cD.top λ_=>X) (heapOf A G):=
 cO acE (n0 (by rw[aX];exact fa l B) (QC (λ_=>B) hd o g n G .un q (.inl B) λi w r eD j p=>wv (cO (ago d _ _ _ _ _ _ r) (u i eD j p))))
theorem GB{c:Nat}(q:∀{o h' b' G'},cz A K cP Q W F o h' z b' G'->hU G'.M f)(w:cz A K cP Q W F n h z (b+8) G)(hd:14<=d)
  (s:∀G' o,cz A K cP Q W F o h z b G'->fI G G'->(∀R lam,Good R lam G'->pN R er (lam f) (pM c) n o)->X (heapOf A G')):U d 363 [.ref (A.adr .c),ox c,.int er,.ref f] (λ_=>X) (heapOf A G):=by
 obtain⟨d,rfl⟩:∃e,d=e+14:=⟨d-14,fw hd B⟩;refine cO acD (hN ?_);have r:∀g:List Str,Hx c=g->pM c=g->g.length<=2->0<g.length->ft g<=8->∀v:bT,(cl (d+13) (.blt "len") [ox c] λL=>cp .Eq L (.int 0) λN=>b6 N v (cq (U (d+13)) 198 (bX 363 100) (rm (.ref (A.adr .c)) (ox c) (.int er) (.ref f) (.ref (A.adr .m))) (cD.top λ_=>X))) (heapOf A G):=λg ch cf l ne E v=>by rw[cf]at s;unfold ox;exact ch▸(wg (aX _) (fa l B) (wi (QA (decide_eq_false λh=>Nat.ne_of_gt ne (Int.ofNat.inj h)) (QD q g l (w.le (bF E b)) (cn B) λu eD p D=>s u _ eD p D))))
 match c with
 |0=>refine wg B (cn B) (wi (dI (pd (b:=b+7) (.kI zy) w (fc h) ⟨B,B⟩ (cn B) λu eD p I=>de B (QB eD (cn B) λZ eE y x=>?_))));refine pd (.ko f) eE (ch h) ⟨B,B⟩ (cn B) (λY hb S C=>QD (er:=er) q [] (cn B) (hb.le (c:=b) (bq ..)) (cn B) λV hn ei _=>?_) (rz (q eE));have i:=S.trans ei;exact s V _ hn (p.trans (y.trans i)) λR lam j=>⟨(j.ex (y.trans i)).at_ I,(x R lam (j.ex i)).1,(x R lam (j.ex i)).2,(j.ex ei).at_ C,B⟩
 |1=>exact r _ B B (cn B) (cn B) (cn B) _
 |2=>exact r _ B B (cn B) (cn B) (cn B) _
 |_+3=>exact r _ B B (cn B) (cn B) (cn B) _
end
noncomputable def B6(A:m5)(res:J)(a:ai)(w:Bool)(done:ai)(way er:Int)(t:ai):Option (J×J×J×J×J)->Loc
 |none=>tE (.ref (A.adr .c)) res (.ref a) (.bool w) (.ref done) (.ref (A.adr .m)) (.int way) (.int er) (.ref t)
 |some (v1,f,e,v4,g)=>tE (.ref (A.adr .c)) res (.ref a) (.bool w) (.ref done) (.ref (A.adr .m)) (.int way) (.int er) (.ref t) (.Y v1) (.Y f) (.Y e) (.Y v4) (.Y g)
theorem agp(d:Nat)(κ:cD)(c t1 c5:J) lC:eG (U d) 192 (dS (bX 356 1000000)) (.tup [c,t1,c5]) (B6 A res a w done way er t lC) κ=eG (U d) 192 (dS (bX 356 1000000)) (.tup [c,t1,c5]) (B6 A res a w done way er t ah) κ:=by rcases lC with _|⟨_,_,_,_,_⟩<;>cbv
theorem agq(d:Nat)(X:bT) lC:cq (U d) 193 (bX 356 10000000) (B6 A res a w done way er t lC) (cD.top λ_=>X)=cB d (.ref (A.adr .m)) eQ [.str lx,.int 0,.int way] λ_=>cB d (.ref (A.adr .m)) eQ [.str tu] λ_=>cB d (.ref (A.adr .m)) j8 [.ref t] λ_=>b4 (.ref a) fW λf=>d4 .Add f (.int 1) λft=>ej (.ref (A.adr .m)) fW ft (cB d (.ref (A.adr .c)) uD [] λe=>cB d (.ref (A.adr .m)) eQ [.str md,.int 0,e] λ_=>cB d (.ref a) Ej [.ref (A.adr .c)] λ_=>cB d (.ref (A.adr .m)) eQ [.str lx,.int 0,e] λ_=>cB d (.ref (A.adr .m)) eQ [.str tu] λ_=>cB d (.ref a) uC [.ref (A.adr .m),.str vX,.ref t] λ_=>X):=by rcases lC with _|⟨_,_,_,_,_⟩<;>cbv
section
variable{e e0:Nat}{a pl gY t done:ai}{dz er:Int}{w:Bool}
theorem cz.nU(c:cz A K cP (Q++[(.part a pl hh (.hand dz gY) t0 f,ah,[])]) W F n h z b G)(lt:hU G.M t):cz A K cP (Q++[(.part a pl hh (.hand dz gY) t n,ah,[])]) W F n h z b G:=by
 have fc:∀t f,(Q++[((.part a pl hh (.hand dz gY) t f,ah,[]):fM)])++W.zip F=Q++(.part a pl hh (.hand dz gY) t f,ah,[])::W.zip F:=λ_ _=>by rw[bk];rfl
 have j:((.part a pl hh (.hand dz gY) t0 f,ah,[]):fM)∈(Q++[((.part a pl hh (.hand dz gY) t0 f,ah,[]):fM)])++W.zip F:=by rw[fc];exact aK _ (.head _)
 have sub:∀{i:fM->Prop},(∀y∈(Q++[((.part a pl hh (.hand dz gY) t0 f,ah,[]):fM)])++W.zip F,i y)->i (.part a pl hh (.hand dz gY) t n,ah,[])->∀y∈(Q++[((.part a pl hh (.hand dz gY) t n,ah,[]):fM)])++W.zip F,i y:=λg o y m=>by
  rw[fc]at m g;rcases bn.mp m with m|m
  .exact g y (aU _ m)
  .exact (aI.mp m).elim (λe=>e▸o) λm=>g y (aK _ (.tail _ m))
 have l:=c.pt _ j
 exact{c with
  pt:=sub c.pt ⟨l.1,l.2.1,λ_ m=>(nomatch m),λ_ e=>(nomatch e),av _⟩
  O:=by have:=c.O;rw[fc]at this⊢;unfold pb at this⊢;rw[anK]at this⊢;exact this
  k5:=λx m=>(bn.mp m).elim (λm=>c.k5 x (aU _ m)) λm=>by refine(bD.mp m)▸?_;rfl
  an:=λs y g=>by rw[c.an s y g,fc,fc,yu B,yu B]
  lw:=sub c.lw ⟨lt,(c.lw _ j).2⟩
  jf:=by have:=c.jf;rw[fc,nW]at this;rw[fc,nW];exact this}
structure Js(W:List Way)(h:Int)(d:Nat)(q:Nat×T):Prop where
 kO:iq (wr W) af q.2
 dR:dR q.2<=3
 fit:jo (Internal.P.dR q.2) h W
 dv:31+Internal.P.dv q.2+i6 W<=d
theorem QE(M:∀o,o<=d+30->lB A o)(D:∀H,src H)(dl:d+31<=1000)(hd:31+i6 W<=d+30)(a2:jo 0 h W)(V:yx W)(lw:W.length<=1000)(b2:(done,.gm ah)∈K):
  ∀(hs:List (Nat×T))(F:List lV)(ps:List (Nat×Nat))(n z:Nat)(G:jn)(lC:Option (J×J×J×J×J)),cz A K W (Q++[(.part a pl h (.hand dz gY) t e0,ah,ps)]) W F n h z (b+kZ (gF W) hs) G->z0<=z->(∀q∈hs,Js W h (d+30) q)->
   (∀G' F' ps' s p L,cz A K W (Q++[(.part a pl h (.hand dz gY) t e0,ah,ps')]) W F' s h p b G'->fI G G'->z0<=p->(∀R lam,Good R lam G'->pO R hs w (k7 lam W) h z0 dz er (lam gY) (lam t) (lam done) n s)->κ.cQ (B6 A res a w done way er t L) (heapOf A G'))->
   forL src (eG (U (d+31)) 192 (dS (bX 356 1000000))) κ (mh hs) (B6 A res a w done way er t lC) (heapOf A G)
 |[]=>λF ps n z G lC g r N S=>⟨D _,S G F ps n z lC g (fI.refl G) r λ_ _ _=>.Zr⟩
 |(c,tt)::hs=>λF ps n z G lC g r N S=>by have q:=N _ (.head _);let P:Way:=.part a pl h (.hand dz gY) t e0;have g:cz A K W (Q++[(P,ah,ps)]) W F n h z (b+kZ (gF W) hs+1+zp P W+ET P+iV tt (P::W)+1+1+1+1+1+8) G:=g.le (by show b+kZ (gF W) hs+1+2+1+(al tt+be tt*(gF W+3))+1+1+1+1+1+8<=b+(al tt+be tt*(gF W+3)+20+kZ (gF W) hs);k_is);refine⟨D _,cO (agp (d+31) _ (ox c) .none (toV tt) lC) (cO acx (gR (p' g (cn B) λb7 dc eD c1=>p' eD (cn B) λv dq eE cG=>c7 B (gR (de B ?_)))))⟩;refine GB (λg=>g.hV (.tail _ (.head _))) eE (cn B) λdt a1 hb cm da=>pd (.gj v) hb (cf h) ⟨B,B⟩ (cn B) (λdB hn ei cN=>p_ [_] hn (cn B) λdg iX E=>?_) (rz (hb.hV (.head _)));refine pd .jI iX (fc h) ⟨B,B⟩ (cn B) λdn kB cU c8=>ER ?_;have j:=(kB.pt _ (aU _ (aK Q (.head _)))).1;refine k0 (u:=.int dz) (il (kB.i5 _ _ j).1 j) B B (de B (cO IE (wp (.gi dz) kB (ch h) (cn B) (λ_ h=>cV h) λ_ ds ml b5 cr=>?_)));refine rA (.ez er) ml (fc h) B (cn B) λdk mR Y cc=>wq .hq mR (ch h) ⟨B,B,B⟩ (cn B) λdr mm y cM=>de B (EV mm (cn B) lw λdb dA n8 cE=>?_);refine mH (b:=af) B (c6 (cO acA (de B (wy (d:=d+30) (rH q.kO) ?_))));refine M (d+30) (av _) n8 ⟨⟨aO _,aoe (bJ.mpr q.dR) h,q.fit⟩,q.kO,V,by have cW:=q.dv;show 30+dv tt+(1+i6 W)<=d+30;exact cY cW,aoA dl⟩ λdy dd di dh nr cJ cA ca=>de B (EW nr (cn B) lw λdx cb df s9 cC=>?_);refine Jb (d:=d+31) (x:=P) (h0:=h) dl (λo cs=>M o (anu cs)) s9 (aK _ (.head _)) (cn B) ⟨⟨aO _,aoe (bJ.mpr (cn B)) h,a2⟩,V,by show 20+(1+i6 W)<=_;exact cY hd⟩ (BZ h w).1 (BZ h w).2 λdC cK bV c3 q0 cT co cu=>pd (.gj done) q0 (cf _) ⟨B,B⟩ (cn B) (λdm qq cg ck=>p_ [] qq (cn B) λdu s_ ci=>?_) (rz (q0.hV (.tail _ (.tail _ b2))));have j:=(s_.pt _ (aU _ (aK Q (.head _)))).1;refine ES (il (s_.i5 _ _ j).1 j) (rB s_ h λC ta c2=>?_);have ct:∀{R lam},Good R lam C->lam b7=a1+1:=λf=>ta.lam f (.tail _ (.head _));have c4:∀{R lam},Good R lam C->lam v=bV+1:=λf=>ta.lam f (.head _);have vv:=(ta.drop λe=>nomatch e).drop λe=>nomatch e;refine QE M D dl hd a2 V lw b2 hs cK cb (bV+1) c3 C (ae (ox c,.none,toV tt,.ref b7,.ref v)) vv (aq r (aq cA co)) (λq m=>N q (.tail _ m)) λG' F' ps' s p L cy Z cI c9=>?_;have bd:=ci.trans (c2.trans Z);have bZ:=cg.trans bd;have bY:=cC.trans (cT.trans bZ);have i:=cE.trans (cJ.trans bY);have I:=cU.trans (b5.trans (Y.trans (y.trans i)));refine S G' F' ps' s p L cy (c1.trans (cG.trans (cm.trans (ei.trans (E.trans I))))) cI λR lam f=>?_;have ap:=f.ex Z;have ao:=da R lam (f.ex (ei.trans (E.trans I)));have l:=(f.ex (E.trans I)).at_ cN;have cd:=ca R lam (f.ex bY);refine jQ (cu R lam (f.ex bZ)) λcL cw _ cR=>?_;obtain rfl:=cR;rw[ct ap]at ao;have l:At R a1 (.gj (lam v)):=l;rw[c4 ap]at l;exact .Zs ao l ((f.ex (b5.trans (Y.trans (y.trans i)))).at_ c8) ((f.ex (Y.trans (y.trans i))).at_ cr) ((f.ex (y.trans i)).at_ cc) ((f.ex i).at_ cM) (bJ.mpr r) cd cL cw ((f.ex bd).at_ ck) (c9 R lam f)
end
theorem agu(c1:Nat)(h1:T)(c2:Nat)(h2:T):sG c1 (toV h1) c2 (h2.opt (toV h2))=.lst (mh (iA c1 h1 c2 h2)):=by delta sG mh iA T.opt;cases h2.isNil<;>rfl
structure QJ(R:Rows)(hs:List (Nat×T))(w:Bool)(W:List ia)(h dz:Int)(z:Nat)(k3:Int)(gY done n gP q:Nat):Prop where
 c1:At R n (.gi z)
 c2:At R (n+1) (.ez z)
 h5:At R (n+2) .k2
 lP:At R (n+3) (.gi ((z+1:Nat):Int))
 hs:pO R hs w W h ((z+2:Nat):Int) dz ((z+1:Nat):Int) gY (gP+2) done (n+4) gP
 ep:At R gP (.ez z)
 gI:R (gP+1)=ae (.again,oh W)
 lH:At R (gP+2) (.gi k3)
 f1:At R (gP+3) (.ez dz)
 f2:At R (gP+4) .hq
 agv:At R (gP+5) (.ez k3)
 agw:R (gP+6)=ae (.again,oh W)
 e:q=gP+7
section
variable{e e0:Nat}{a pl gY t done:ai}{dz er:Int}{w:Bool}
theorem agx(Y:∀j,j<=d+30->lB A j)(p:cz A K W (Q++[(.part a pl h (.hand dz gY) t0 e0,ah,[])]) W F n (h+1) z (b+kZ (gF W) hs+14) G)(dl:d+31<=1000)(hd:31+i6 W<=d+30)(L:jo 0 h W)(bV:yx W)(lw:W.length<=1000)(cw:hs.length<=10)(cG:(done,.gm ah)∈K)(cM:∀q∈hs,Js W h (d+30) q)
  (cT:∀G' F' ck ao S(Z:Int),cz A K W Q W F' ao h S b G'->fI G G'->z+2<=S->((z+2:Nat):Int)<=Z->(∀R lam,Good R lam G'->QJ R hs w (k7 lam W) h dz z Z (lam gY) (lam done) n ck ao)->X (heapOf A G')):
  U (d+32) 356 [.ref (A.adr .c),.lst (mh hs),.ref a,.bool w,.ref done] (λ_=>X) (heapOf A G):=by
 refine cO acq (hN (zZ (b:=b+kZ (gF W) hs+13) p (cn B) λc8 eD cK=>zZ (b:=b+kZ (gF W) hs+12) eD (cn B) λdg eE ct=>p' eE (cn B) λa1 dk hb cb=>c7 B (gR ?_)));have hb:=hb.nU (hb.hV (.head _));refine rA (b:=b+kZ (gF W) hs+11) (.gi z) hb (ch h) B (cn B) λdr hn ei cC=>rA (b:=b+kZ (gF W) hs+10) (.ez z) hn (fc h) B (cn B) λc9 iX I cm=>wq (b:=b+kZ (gF W) hs+9) .k2 iX (eC h) ⟨B,B,B⟩ (cn B) λdf kB C cU=>rA (b:=b+kZ (gF W) hs+8) (.gi ((z+1:Nat):Int)) kB (ch h) B (cn B) λcJ ml o cg=>?_;have ml:=ml.le (c:=b+1+1+2+1+1+1+1+kZ (gF W) hs) (by k_is);refine cO acr (n0 (by unfold mh;rw[aX];exact fa cw B) ?_);refine QE (res:=.lst (mh hs)) (er:=((z+1:Nat):Int)) (way:=z) (z0:=z+2) Y (λ_=>B) dl hd L bV lw (.tail _ cG) hs F [] (n+4) (z+2) cJ ah ml (av _) cM λdb c1 c3 bd r da mR i V cN=>wv (cO (agq (d+31) ..) ?_);refine rA (.ez z) mR (fc h) B (cn B) λdh mm cW cA=>wq .again mm (ch h) ⟨B,B,B⟩ (cn B) λc2 n8 M cR=>p_ [] n8 (cn B) λdq nr y=>?_;have N:=(nr.pt _ (aU _ (aK Q (.head _)))).1;refine ES (il (nr.i5 _ _ N).1 N) (kv (rB nr (h+1) λdn s9 cr=>zZ s9 (cn B) λds q0 cI=>rA (.gi r) q0 (ch h) B (cn B) λdc qq b7 ca=>?_));refine Jb (d:=d+31) (b:=b+1+1) (x:=.part a pl h (.hand dz gY) a1 n) (h0:=h) dl (λj ci=>Y j (anu ci)) qq (aK _ (.head _)) (cn B) ⟨⟨aO _,aoe (bJ.mpr (cn B)) h,L⟩,bV,by show 20+(1+i6 W)<=_;exact cY hd⟩ (aO _) (oI h) λdm cs di b5 s_ E cc bZ=>rA (.ez r) s_ (fc h) B (cn B) λc4 ta cL b2=>wq .again ta (ch h) ⟨B,B,B⟩ (cn B) λdd vv ap cd=>I8 (e:=af) vv (cn B) (λx m s l=>EO (p.yr x (aU _ m)).1 (p.yr x (aU _ m)).2 l) λa2 t6 D=>?_;have u:=cL.trans (ap.trans D);have v:=cr.trans (cI.trans (b7.trans (E.trans u)));have g:=cW.trans (M.trans (y.trans v));have bY:=ei.trans (I.trans (C.trans (o.trans (i.trans g))));have cu:∀{R lam},Good R lam a2->lam a1=bd+2:=λf=>t6.lam f (.head _);refine cT a2 cs bd _ b5 r (t6.drop λe=>nomatch e) (cK.trans (ct.trans (cb.trans bY))) (aq V (aq (bz _) cc)) (bJ.mpr V) λR lam f=>?_;refine jQ (bZ R lam (f.ex u)) λcy co _ cE=>?_;obtain rfl:=cE;have hs:=cN R lam (f.ex g);rw[cu f]at hs
 exact⟨(f.ex (I.trans (C.trans (o.trans (i.trans g))))).at_ cC,(f.ex (C.trans (o.trans (i.trans g)))).at_ cm,(f.ex (o.trans (i.trans g))).at_ cU,(f.ex (i.trans g)).at_ cg,hs,
  (f.ex (M.trans (y.trans v))).at_ cA,(BN lam W).symm▸(f.ex (y.trans v)).rows _ _ _ cR,(f.ex (E.trans u)).at_ ca,cy,co,(f.ex (ap.trans D)).at_ b2,(BN lam W).symm▸(f.ex D).rows _ _ _ cd,B⟩
end
def Fc(A:m5)(d:Nat)(x:T)(w:Bool)(ps:List J):Prop:=∀{K Q W F n h z b G X},cz A K W Q W F n h z (b+iV x W) G->jK x W h (d+2)->pe A K Q W x w n h z b G X->U d 349 [.ref (A.adr .c),fL kJ ps,.bool w] (λ_=>X) (heapOf A G)
theorem QK(d:Nat)(X:bT)(c O w f t1 c5 v:J):(jC (U d) 198 (tupS (dS (bX 349 1))) (.tup [f,t1,c5,v]) (Ey c O w) λD=>cq (U d) 199 (bX 349 10) D (cD.top λ_=>X))=hu 4 (cl d (.blt "len") [t1] λp=>cp .Eq p (.int 0) λo=>b6 o (HQ w c5 λu=>cl d (.glob 29) [c,f,u] λ_=>cp .IsNot c5 .none λE=>b6 E (cB d c jl [c5,w] λ_=>X) X) (b4 c fX λa=>b4 c fX λC=>b4 C fW λe=>lm 2 (hu 2 (cB d a nK [] λl=>cB d a nK [] λm=>cB d a nK [] λg=>lm 3 (hu 3 (cB d a j8 [l] λ_=>cl d (.glob 195) [e] λj=>cl d (.glob 258) [c,j] λ_=>HQ w c5 λs=>cl d (.glob 29) [c,f,s] λ_=>cl d (.glob 265) [c] λ_=>cp .IsNot c5 .none λr=>(λi:bT=>b6 r (cB d c jl [c5,w] λ_=>i) i) (cB d a eQ [.str mZ,g] λ_=>cB d a j8 [m] λ_=>d4 .Add e (.int 1) λI=>ej a fW I (cB d c uD [] λx=>cl d (.glob 249) [e,x,l] λt=>cl d (.glob 356) [c,t1,t,w,g] λ_=>cB d j uC [a,.str H4,m] λ_=>cl d (.typ "int") [w] λy=>d4 .Add e y λq=>ej a fW q (cB d a j8 [g] λ_=>X))))))))):=by cbv
theorem agH(x:Nat):kZ x []=0:=rfl
theorem agI(x c:Nat)(t:T)(r:List (Nat×T)):kZ x ((c,t)::r)=al t+be t*(x+3)+20+kZ x r:=rfl
theorem agJ(x c1 c2:Nat)(h1 h2:T):kZ x (iA c1 h1 c2 h2)<=(al h1+3*be h1+be h1*x)+(al h2+3*be h2+be h2*x)+40:=by unfold iA;cases h2.isNil<;>simp[agH,agI,aop]<;>k_is
theorem agK(x b c1 c2:Nat)(h1 h2 ot t:T):b+kZ x (iA c1 h1 c2 h2)+14+1+1+(al ot+be ot*x)+1+(al t+be t*(x+1))<=b+(al t+be t+al ot+(al h1+3*be h1)+(al h2+3*be h2)+60+(be t+be ot+be h1+be h2)*x):=by have:=agJ x c1 c2 h1 h2;simp only[anM,aop];exact cY this
section
variable{e e0:Nat}{a pl gY:ai}{dz er:Int}{w:Bool}{t ot h1 h2:T}{c1 c2:Nat}{last:J}
theorem Eg(o:t.isNil=af\/iq L Hh t):mu (toV t) .none=ae t.isNil:=by
 rcases o with o|o
 .induction t using T.casesOn<;>first|rfl|exact d8 o
 .refine (rH o)▸?_;induction t using T.casesOn<;>first|rfl|cases o
theorem QL{w L Hh:Bool}(o:t.isNil=af\/iq L Hh t){K:J->bT}(h:K (.bool (w&&t.isNil)) H):HQ (.bool w) (toV t) K H:=by
 induction w using aS with
 |true=>exact j0 (dI (is_none (Eg o) h))
 |false=>exact j0 (c6 h)
theorem QM(r:∀c,c<d+2->lB A c):Fc A d (.bare t) w [toV t,.lst [],.none,last]:=λ{K Q W F n h z b G X} l P q=>by obtain⟨d,rfl⟩:∃e,d=e+32:=⟨d-32,by have h1:30+(4+dv t)+i6 W<=d+2:=P.need;exact a7 (cY (eB d 32)) (cY (sB (show 32<=d from(cY h1))))⟩;refine cO Pd (cO Pe (hO (cO (QK (d+31) ..) (gR (wg B (cn B) (wi (dI (QL (t:=.nil) (L:=af) (Hh:=af) (.inl B) ?_))))))));rw[show(w&&T.nil.isNil)=w from aoY w];refine de B (wy (d:=d+30) (rH P.kO) (r (d+30) (Db (n:=34) B) l (P.sub (d:=d+30) (e:=4) P.kO (aO _) (aO _) (ak (aod (dv t) 4))) λg m o u eD i s j=>?_));exact mH (b:=af) B (c6 (q g m o u eD i s λp lam f=>.bare (j p lam f)))
theorem agL(b7:∀l,l<=d+30->lB A l)(u:cz A ((ht,.gm ah)::(da,.gm ah)::(cT,.gm (ae m))::K) W (Q++[(.part a pl h .plain da e0,ah,ps)]) W F n h' z (b+kZ (gF W) hs+14+1+1) G)(bY:∀x∈Q,∀s,e0<=s->m7 x s=ag)(dl:d+31<=1000)(hd:31+i6 W<=d+30)(bV:jo 0 h W)(b5:yx W)(lw:W.length<=1000)(S:hs.length<=10)(a2:∀q∈hs,Js W h (d+30) q)
  (bZ:∀G' F' j i o(g:Int),cz A K W Q W F' i (h+jW w) o b G'->fI G G'->z+1+2<=o->((z+1+2:Nat):Int)<=g->(∀R lam,Good R lam G'->At R n (.gj i)/\lam da=n+1/\QJ R hs w (k7 lam W) h z (z+1) g (lam cT) i (n+1) j i)->X (heapOf A G')):
  (cB (d+32) (.ref (A.adr .m)) eQ [.str mZ,.ref ht] λ_=>cB (d+32) (.ref (A.adr .m)) j8 [.ref da] λ_=>d4 .Add (.int h) (.int 1) λcg=>ej (.ref (A.adr .m)) fW cg (cB (d+32) (.ref (A.adr .c)) uD [] λap=>cl (d+32) (.glob 249) [.int h,ap,.ref cT] λZ=>cl (d+32) (.glob 356) [.ref (A.adr .c),.lst (mh hs),Z,.bool w,.ref ht] λ_=>cB (d+32) (.ref a) uC [.ref (A.adr .m),.str H4,.ref da] λ_=>cl (d+32) (.typ "int") [.bool w] λa1=>d4 .Add (.int h) a1 λM=>ej (.ref (A.adr .m)) fW M (cB (d+32) (.ref (A.adr .m)) j8 [.ref ht] λ_=>X))) (heapOf A G):=by
 refine pd (.gj ht) u (cf _) ⟨B,B⟩ (cn B) (λck eD I V=>p_ [_] eD (cn B) λct eE ci=>kv (rB eE (h+1) λcs hb b2=>zZ hb (cn B) λcy hn ei=>?_)) (rz (u.hV (.head _)));refine afk hn (cn B) ⟨hn.hV (.tail _ (.head _)),hn.hV (.tail _ (.tail _ (.head _)))⟩ λoC cu co iX Y=>de B (agx b7 iX dl hd bV b5 lw S (.head _) a2 λcr ca j y bd g kB E cc li N=>?_);refine I8 (e:=ag) kB (cn B) bY λcm ml D=>int_bool (kv (rB ml _ λcw mR cb=>p_ [] mR (cn B) λao mm cd=>?_));have p:=D.trans (cb.trans cd);have r:=ci.trans (b2.trans (ei.trans (Y.trans (E.trans p))));refine bZ ao ca j y bd g (((mm.drop λe=>nomatch e).drop λe=>nomatch e).drop λe=>nomatch e) (I.trans r) cc li λR lam f=>?_;have C:lam ht=y:=mm.lam f (.head _);have L:=(f.ex r).at_ V;have v:=N R lam (f.ex p);rw[C]at v;exact⟨C▸L,mm.lam f (.tail _ (.head _)),v⟩
end
section
variable{e e0:Nat}{w:Bool}{t ot h1 h2:T}{c1 c2:Nat}{last:J}
theorem agM(j:ot.isNil=af\/iq (wr W) (rC W) ot)(q:lB A d)(g:cz A K W Q W F n (h+jW (w&&ot.isNil)) z (b+iV ot W) G)(P:iq (wr W) (rC W) ot->jK ot W h d)
  (i:∀G' F' f h' a,cz A K W Q W F' f h' a b G'->fI G G'->z<=a->(∀R lam,Good R lam G'->Seg R ot w (k7 lam W) h z n f)->hx (heapOf A G')):(cp .IsNot (toV ot) .none λc=>b6 c (cB d (.ref (A.adr .c)) jl [toV ot,.bool w] λ_=>hx) hx) (heapOf A G):=by
 refine mH (Eg j) ?_;cases mX:ot.isNil with
 |true=>exact c6 (i G F n _ z (g.le (bq b _)) (fI.refl G) (av z) λR lam _=>OC mX▸.nil)
 |false=>rw[mX,aoZ,qM]at g;exact dI (ru (q g (P (j.elim (λl=>kD (l.symm.trans mX)) id)) λG' F' f a o m p r=>i G' F' f _ a o m p r))
theorem agN{p:Nat×T->Prop}(a:p (c1,h1))(b:h2.isNil=ag->p (c2,h2)):∀q∈iA c1 h1 c2 h2,p q:=λq m=>by
 unfold iA at m;rcases aI.mp m with rfl|m
 .exact a
 .cases e:h2.isNil with
  |true=>replace m:=e▸m;cases m
  |false=>rw[e]at m;exact(bD.mp m)▸(b e)
theorem JC:0<(iA c1 h1 c2 h2).length/\(iA c1 h1 c2 h2).length<=2:=by unfold iA;cases h2.isNil<;>exact⟨ay B,ay B⟩
theorem QN(y:∀r,r<d+2->lB A r):Fc A d (.eV c1 h1 c2 h2 ot t) w [toV t,sG c1 (toV h1) c2 (h2.opt (toV h2)),toV ot,last]:=λ{K Q W F n h z b G X} g P cc=>by
 have O:30+(6+max (max (dv h1) (dv h2)) (max (dv ot) (dv t)))+i6 W<=d+2:=P.need;have o:jo (max (max (dR h1) (dR h2)) (max (dR ot) (dR t))) h W:=P.fit;have dl:=P.dl;refine jQ P.kO λD q bV f_=>?_;obtain⟨eO,bd⟩:=bV;obtain⟨d,rfl⟩:∃e,d=e+33:=⟨d-33,by exact a7 (cY (eB d 33)) (cY (sB (show 33<=d from(cY O))))⟩;have g:=g.le (c:=b+kZ (gF W) (iA c1 h1 c2 h2)+14+1+1+iV ot W+1+(al t+be t*(gF W+1))) (agK (gF W) b c1 c2 h1 h2 ot t);rw[agu];refine cO Pd (cO Pe (hO (cO (QK (d+32) ..) (gR (wg (aX _) (fa JC.2 B) (wi (QA (decide_eq_false λh=>Nat.ne_of_gt JC.1 (Int.ofNat.inj h)) (hN (hN (u2 g (c7 B (gR ?_))))))))))));refine p' g (cn B) λcg cw eD b5=>p' eD (cn B) λcb cI eE ap=>p' eE (cn B) λco cR hb N=>c7 B (gR (p_ [_,_] hb (cn B) λcU hn ei=>?_));refine afi hn (cn B) (hn.hV (.tail _ (.head _))) λa cm cy iX Z=>de B (EV iX (cn B) P.lw λcG cT kB b2=>QL q (de B (wy (d:=d+31) (rH D) ?_)));refine y (d+31) (Db (n:=35) B) kB ⟨o.mono (aO _) (h9 (g0 (a8 (max (dR h1) (dR h2)) (max (dR ot) (dR t)))) (g0 (a8 (dR ot) (dR t)))),D,P.rD,by show 30+dv t+(1+i6 W)<=d+31;exact c0 O (a8 (max (dv h1) (dv h2)) (max (dv ot) (dv t))) (a8 (dv ot) (dv t)),by exact cY dl⟩ λcL cr V cs ml bZ i ca=>de B (EW ml (cn B) P.lw λcE cu ct mR I=>?_);refine agM (d:=d+32) q (y (d+32) (Db (n:=35) B)) mR (λq=>⟨o.mono (aO _) (h9 (g0 (a8 (max (dR h1) (dR h2)) (max (dR ot) (dR t)))) (g0 (bv (dR ot) (dR t)))),q,P.rD,by unfold need;exact c0 O (a8 (max (dv h1) (dv h2)) (max (dv ot) (dv t))) (bv (dv ot) (dv t)),by exact cY dl⟩) λcJ cC cM ck cN mm ci j b7=>?_;have M:∀x∈Q,∀s,n<=s->m7 x s=ag:=λx m s l=>EO (g.yr x m).1 (g.yr x m).2 l;refine agL (hs:=iA c1 h1 c2 h2) (λr Y=>y r (apt Y (Db (n:=35) B))) mm M (cY dl) (cY O) (o.mono (aO _) (g4 (aH (max (max (dR h1) (dR h2)) (max (dR ot) (dR t)))))) P.rD P.lw (aq JC.2 (cn B)) (agN ⟨eO,bd,o.mono (aO _) (h9 (g0 (bv (max (dR h1) (dR h2)) (max (dR ot) (dR t)))) (g0 (bv (dR h1) (dR h2)))),by show 31+dv h1+i6 W<=d+30;exact c0 O (bv (max (dv h1) (dv h2)) (max (dv ot) (dv t))) (bv (dv h1) (dv h2))⟩ λe=>?_) λR ao cA L bY cK n8 v cd li S=>?_
 .have f_:=f_.elim (λa2=>kD (a2.symm.trans e)) id;exact⟨f_.1,f_.2,o.mono (aO _) (by show h+((dR h2:Nat):Int)<=_;exact h9 (g0 (bv (max (dR h1) (dR h2)) (max (dR ot) (dR t)))) (g0 (a8 (dR h1) (dR h2)))),by show 31+dv h2+i6 W<=d+30;exact c0 O (bv (max (dv h1) (dv h2)) (max (dv ot) (dv t))) (a8 (dv h1) (dv h2))⟩
 have C:=ci.trans v;refine cc R ao L bY n8 (b5.trans (ap.trans (N.trans (ei.trans (Z.trans (b2.trans (bZ.trans (I.trans C)))))))) (c0 i j cd) λu lam p=>iw (S u lam p) λa1 cf f=>?_;have ch:lam cg=n:=mm.lam (p.ex v) (.tail _ (.tail _ (.head _)));have E:Seg u t (w&&ot.isNil) (.part h (lam cb)::k7 lam W) h z n V:=ca u lam (p.ex (I.trans C));rw[cf]at E;rw[ch]at f;exact .eV E (bJ.mpr i) (b7 u lam (p.ex v)) a1 (h9 (g0 i) (g0 j)) (h9 (g0 i) (g0 j)) (h9 (g0 i) (g0 j)) (jz li (g0 i) (g0 j)) (by lia) (by lia) (by lia) (by lia) (by k_is) (by k_is) (by k_is) f.c1 f.c2 f.h5 f.lP f.hs f.ep f.gI f.lH f.f1 f.f2 f.agv f.agw f.e
end
theorem QO(h:k xP H):cF (.tup [v0,v1,v2,xP]) (.int 3) k H:=zw (ay B) (i:=3) B B h
theorem agT(b x:Nat)(t l:T):b+1+1+(al l+be l*x)+1+1+1+(al l+be l*x)+1+(al t+be t*(x+1+(al l+be l*x)))<=b+(al t+be t*(al l+1)+2*al l+10+(be t*(1+be l)+2*be l)*x):=by
 simp only[anM,aop,Nat.mul_one,Nat.mul_assoc,Nat.two_mul]
 k_is
section
variable{e e0:Nat}{w:Bool}{t x l:T}{v0 v1 v2:J}
theorem QP(C:Fc A d x w [v0,v1,v2,.none])(a:cz A K W Q W F n h z (b+iV x W) G)(P:jK x W h (d+2))(f:pe A K Q W x w n h z b G X):U (d+2) 954 [.ref (A.adr .c),fL kJ [v0,v1,v2,.none],.bool w] (λ_=>X) (heapOf A G):=
 oA 342 a B B (cO Pc (hO (QO (is_none (b:=af) B (dI (de B (C a P f)))))))
theorem QQ(C:Fc A (d+40) x w [v0,v1,v2,toV l])(R:lB A (d+40))(g:cz A K W Q W F n h z (b+iV (.dZ x l) W) G)(P:jK (.dZ x l) W h (d+42))(cE:pe A K Q W (.dZ x l) w n h z b G X):U (d+42) 954 [.ref (A.adr .c),fL kJ [v0,v1,v2,toV l],.bool w] (λ_=>X) (heapOf A G):=by have O:30+(4+dv x+dv l+12)+i6 W<=d+42:=P.need;have r:jo (dR x+dR l+1) h W:=P.fit;have dl:=P.dl;refine iw P.kO λcm j _=>?_;have g:=g.le (c:=b+1+1+iV l W+1+1+1+iV l W+1+(al x+be x*(gF W+1+(al l+be l*gF W)))) (agT b (gF W) x l);refine oA 342 g B B (cO Pc (hO (QO (is_none (b:=ag) (rH j) (c6 (hN (hN (u2 g (c7 B (gR ?_))))))))));refine p' g (cn B) λao cU eD ct=>p' eD (cn B) λE c9 eE cd=>c7 B (gR (afj (l:=l) eE (cn B) (eE.hV (.tail _ (.head _))) λa cJ dd hb bV=>de B (EV hb (cn B) P.lw λdi db hn ei=>de B ?_)));refine C hn ⟨r,cm,⟨j,P.rD⟩,by show 30+dv x+(dv l+12+i6 W)<=d+42;exact cY O,dl⟩ λcW c3 b7 cR iX ca o cA=>de B (EW iX (cn B) P.lw λc8 cL cN kB cs=>ru ?_);have q:=BZ h w;refine R kB ⟨r.mono q.1 (by have:=q.2;exact h9 q.2 (aH (dR x))),j,P.rD,by unfold need;exact cY O,by exact cY dl⟩ λdc cK L p ml cr y cw=>pd (.gj E) ml (cf _) ⟨B,B⟩ (cn B) (λc1 mR ap a1=>p_ [_] mR (cn B) λda mm cG=>kv (rB mm (h+1) λcM n8 cc=>zZ n8 (cn B) λdh nr ci=>rA (.gi p) nr (ch h) B (cn B) λdg s9 cb bZ=>ru ?_)) (rz (ml.hV (.head _)));refine R s9 ⟨r.mono (aO _) (g4 (aH (dR x))),j,P.rD,by unfold need;exact cY O,by exact cY dl⟩ λdk ck cg cy q0 co bY b5=>?_;rw[qM]at q0;refine rA (.ez p) q0 (fc h) B (cn B) λc2 qq I bd=>wq .again qq (ch h) ⟨B,B,B⟩ (cn B) λdf s_ a2 cI=>I8 (e:=af) s_ (cn B) (λx m s l=>EO (g.yr x m).1 (g.yr x m).2 l) λcT ta Y=>int_bool (kv (rB ta _ λc4 vv S=>p_ [] vv (cn B) λcu t6 Z=>?_));have D:=a2.trans (Y.trans (S.trans Z));have V:=co.trans (I.trans D);have u:=cG.trans (cc.trans (ci.trans (cb.trans V)));have M:=cs.trans (cr.trans (ap.trans u));refine cE cu ck _ cy ((t6.drop λe=>nomatch e).drop λe=>nomatch e) (ct.trans (cd.trans (bV.trans (ei.trans (ca.trans M))))) (c0 o y bY) λi lam f=>?_;have b2:lam ao=L+1:=t6.lam f (.tail _ (.head _));have cC:lam E=cg+2:=t6.lam f (.head _);have v:Seg i x w (.dZ h (lam ao) l::k7 lam W) h z n b7:=cA i lam (f.ex M);have N:At i L (.gj (lam E)):=(f.ex u).at_ a1;replace v:=b2▸v;rw[cC]at N;exact .dZ v (bJ.mpr o) (cw i lam (f.ex (ap.trans u))) N (h9 (g0 o) (g0 y)) (anH.mpr (apz p)) (h9 (g0 o) (g0 y)) ((f.ex V).at_ bZ) (b5 i lam (f.ex (I.trans D))) ((f.ex D).at_ bd) ((BN lam W).symm▸(f.ex (Y.trans (S.trans Z))).rows _ _ _ cI) B
theorem agW(A:m5)(d:Nat):lB A d:=by
 induction d using Nat.strongRecOn with
 |_ d c=>
 intro t w K Q W F n h z b G X I P V;have O:=P.rI
 induction t using T.casesOn with
 |nil=>exact absurd P.kO (λh=>h)
 |mark n=>exact afO I P V
 |h4 b=>exact afQ I P V
 |seen=>exact afP I P V
 |seq1 a=>exact afX c I P V
 |gn a b=>exact afY c I P V
 |arr a b=>exact af5 c I P V
 |fm p b=>exact agj c I P V
 |brk n=>exact agb c I P V
 |dQ n=>exact agc c I P V
 |ret n=>exact agd c I P V
 |once p=>exact agg c I P V
 |bare b=>obtain⟨d,rfl⟩:∃e,d=e+2:=⟨d-2,fw O B⟩;exact QP (QM c) I P V
 |eV r m s q o b=>obtain⟨d,rfl⟩:∃e,d=e+2:=⟨d-2,fw O B⟩;exact QP (QN c) I P V
 |dZ x l=>
  have O:30+(4+dv x+dv l+12)+i6 W<=d:=P.need;obtain⟨d,rfl⟩:∃e,d=e+42:=⟨d-42,by exact a7 (cY (eB d 42)) (cY (sB (show 42<=d from(cY O))))⟩;have j:=P.kO.2.2;have g:lB A (d+40):=c (d+40) (Db B);have i:∀f,f<d+40+2->lB A f:=c
  induction x using T.casesOn with
  |bare b=>exact QQ (QM i) g I P V
  |eV r m s q o b=>exact QQ (QN i) g I P V
  |_=>exact d8 j
end
end
def gD:List (ai×hg)->bW->bW
 |[],a=>a
 |x::L,a=>(gD L a).set x.1 x.2
structure u9(L:List (ai×hg))(H:bW):Prop where
 O:(L.map (·.1)).Nodup
 fr:∀a∈L.map (·.1),H a=ah
section
variable{L qb wC:List (ai×hg)}{H:bW}{a C:ai}{o eM:hg}{fs Fg:List (Str×J)}{x:Str}{u:J}{k:cZ}{p:bT}{d:Nat}
theorem JF:∀{L:List (ai×hg)},a∉L.map (·.1)->gD L H a=H a
 |[]=>λ_=>B
 |x::L=>λm=>(bW.el _ _ λe:a=x.1=>m (e▸.head _)).trans (JF λb=>m (.tail _ b))
theorem yH:∀{L:List (ai×hg)},(L.map (·.1)).Nodup->(a,o)∈L->gD L H a=ae o
 |x::L,O,m=>by
  have O:=bh.mp O;rcases aI.mp m with rfl|m
  .exact bW.set_same ..
  .exact (bW.el _ _ λe:a=x.1=>O.1 (show x.1∈_ from e▸bC.mpr ⟨(a,o),m,B⟩)).trans (yH O.2 m)
theorem QS:∀{qb:List (ai×hg)},a∉qb.map (·.1)->(gD (qb++(a,o)::wC) H).set a eM=gD (qb++(a,eM)::wC) H
 |[]=>λ_=>set_set ..
 |x::qb=>λm=>by
  have f:=@QS qb λb=>m (.tail _ b);have ne:a≠x.1:=λe=>m (e▸.head _);show((gD (qb++(a,o)::wC) H).set x.1 x.2).set a eM=(gD (qb++(a,eM)::wC) H).set x.1 x.2;refine f▸?_;funext y;dsimp only[bW.set];by_cases c:y=a
  .rw [if_pos c,if_neg λe=>ne (c.symm.trans e),if_pos c]
  .rw [if_neg c,if_neg c]
theorem rJ(N:u9 L H)(h:∀a,u9 ((a,o)::L) H->k (.ref a) (gD ((a,o)::L) H)):eX o k (gD L H):=λa e=>by
 have m:a∉L.map (·.1):=λm=>by refine c_ (bC.mp m) λy f i=>?_;obtain rfl:=i;replace e:=(yH N.O f)▸e;exact gS e
 exact h a ⟨bh.mpr ⟨m,N.O⟩,λb g=>(aI.mp g).elim (λc=>c▸(JF m).symm.trans e) (N.fr b)⟩
theorem qc(qb:List (ai×hg))(Fg:List (Str×J))(N:u9 (qb++(a,.inst C fs)::wC) H)(e:put x u fs=Fg)(b:r3 C x=af)(l:fs.length<=100)(c:u9 (qb++(a,.inst C Fg)::wC) H->p (gD (qb++(a,.inst C Fg)::wC) H)):ej (.ref a) x u p (gD (qb++(a,.inst C fs)::wC) H):=by
 have O:=N.O;rw[bG,aL,aoj]at O;have m:a∉qb.map (·.1):=λm=>O.2.2 a m a (.head _) B;refine gX (yH N.O (aK _ (.head _))) b l ?_;rw[QS m,e];refine c ⟨?_,?_⟩
 .have:=N.O;rw[bG,aL]at this⊢;exact this
 .have:=N.fr;rw[bG,aL]at this⊢;exact this
def Ca(gd cl b c:ai):hg:=.inst 730 [(ly,.ref gd),(om,.ref cl),(sr,.ref b),(rg,.ref c),(oo,.int 0),(fW,.int 0)]
theorem agZ(N:u9 L H)(e:∀m gd cl b c,u9 ((c,.list [])::(b,.list [])::(cl,.list [])::(gd,.list [])::(m,Ca gd cl b c)::L) H->k (.ref m) (gD ((c,.list [])::(b,.list [])::(cl,.list [])::(gd,.list [])::(m,Ca gd cl b c)::L) H)):cl (d+1) (.glob 730) [] k (gD L H):=by show eX (.inst 730 []) (λx=>U (d+1) 686 [x] λ(r:J)(H:bW)=>r=J.none/\lK 730 x k H) (gD L H);refine rJ N λm N=>cO acS (c7 B (rJ N λgd N=>qc [_] _ N B B (cn B) λN=>c7 B (rJ N λcl N=>?_)));refine qc [_,_] [(ly,.ref gd),(om,.ref cl)] N B B (cn B) λN=>c7 B (rJ N λb N=>?_);refine qc [_,_,_] [(ly,.ref gd),(om,.ref cl),(sr,.ref b)] N B B (cn B) λN=>c7 B (rJ N λc N=>?_);exact qc [_,_,_,_] [(ly,.ref gd),(om,.ref cl),(sr,.ref b),(rg,.ref c)] N B B (cn B) λN=>qc [_,_,_,_] [(ly,.ref gd),(om,.ref cl),(sr,.ref b),(rg,.ref c),(oo,.int 0)] N B B (cn B) λN=>qc [_,_,_,_] _ N B B (cn B) λN=>⟨B,e m gd cl b c N⟩
def Cb(nl:ai):hg:=.inst 910 [(uE,.ref nl),(Ep,.none)]
theorem ag0(N:u9 ((r,.list [])::L) H)(b:∀sc nl,u9 ((nl,.list [])::(sc,Cb nl)::(r,.list [])::L) H->k (.ref sc) (gD ((nl,.list [])::(sc,Cb nl)::(r,.list [])::L) H)):cl (d+1) (.glob 910) [.ref r,.none] k (gD ((r,.list [])::L) H):=by show eX (.inst 910 []) (λx=>U (d+1) 893 [x,.ref r,.none] λ(r:J)(H:bW)=>r=J.none/\lK 910 x k H) (gD _ H);refine rJ N λsc N=>cO adt (c7 B (rJ N λnl N=>qc [_] _ N B B (cn B) λN=>?_));refine cO adv (E4 (yH N.O (.tail _ (.tail _ (.head _)))) (cn B) (z3 (wv (cO adw ?_))));exact qc [_] _ N B B (cn B) λN=>⟨B,b sc nl N⟩
def JG(b m sc c:ai):hg:=.inst 1086 [(rh,.ref b),(ju,.str mb),(nM,.none),(fX,.ref m),(tA,.ref sc),(m1,.ref c)]
noncomputable def Ab(f:lU->ai):List lU->ai->Option lU
 |[],_=>ah
 |b::r,a=>if a=f b then ae b else Ab f r a
theorem JH:∀{l:List lU},Ab f l a=ae b->a=f b
 |c::l,h=>by
  dsimp only[Ab]at h;by_cases e:a=f c
  .replace h:=(if_pos e)▸h;cases h;exact e
  .rw [if_neg e]at h;exact JH h
theorem JI:∀{l:List lU},(l.map f).Nodup->b∈l->Ab f l (f b)=ae b
 |c::l,O,m=>by
  have O:=bh.mp O;rcases aI.mp m with rfl|m
  .exact if_pos B
  .exact (if_neg λe:f b=f c=>O.1 (e▸bC.mpr ⟨b,m,B⟩)).trans (JI O.2 m)
theorem JJ:∀{l:List lU},a∉l.map f->Ab f l a=ah
 |[]=>λ_=>B
 |c::l=>λm=>(if_neg λe:a=f c=>m (e▸.head _)).trans (JJ λb=>m (.tail _ b))
noncomputable def Cc:List lU:=[.nl,.sc,.cl,.gd,.m,.c]
theorem ag1(b:lU):b∈Cc:=by induction b using lU.casesOn<;>simp[Cc]
end
theorem four(h:(w::x::y::z::r).Nodup):z∉w::x::y::r:=λm=>by
 have a:=bh.mp h;have b:=bh.mp a.2;have c:=bh.mp b.2;rcases aI.mp m with rfl|m
 .exact a.1 (.tail _ (.tail _ (.head _)))
 .rcases aI.mp m with rfl|m
  .exact b.1 (.tail _ (.head _))
  .rcases aI.mp m with rfl|m
   .exact c.1 (.head _)
   .exact (bh.mp c.2).1 m
theorem ag2{H:bW}{c n m gd cl g i o p s sc nl d:ai}(N:u9 [(d,.list []),(nl,.list []),(sc,Cb nl),(s,.list []),(p,.list []),(o,.list []),(i,.list []),(g,.list []),(cl,.list []),(gd,.list []),(m,Ca gd cl g i),(c,JG n m sc d)] H)(E:H n=ae (.eJ o_)){b:Nat}(j:b<=900000):
  ∃A G,cz A [] [] [] [] [] 0 0 0 b G/\A.adr .c=c/\heapOf A G=gD [(d,.list []),(nl,.list []),(sc,Cb nl),(s,.list []),(p,.list []),(o,.list []),(i,.list []),(g,.list []),(cl,.list []),(gd,.list []),(m,Ca gd cl g i),(c,JG n m sc d)] H/\
   G.rows=[]/\G.dH=[]/\A.rest A.hT=ae (.list [])/\A.rest A.jZ=ae (.list [])/\∀b,H b≠ah->A.rest b=H b/\b≠A.hT:=by
 generalize C:gD _ H=JK;have O:=N.O;have D:=N.fr;let q:lU->ai:=λ|.c=>c|.m=>m|.gd=>gd|.cl=>cl|.sc=>sc|.nl=>nl
 have k:∀{a u},(a,u)∈[(d,hg.list []),(nl,.list []),(sc,Cb nl),(s,.list []),(p,.list []),(o,.list []),(i,.list []),(g,.list []),(cl,.list []),(gd,.list []),(m,Ca gd cl g i),(c,JG n m sc d)]->JK a=ae u:=λf=>C▸yH O f;have out:∀{b},H b≠ah->b∉[d,nl,sc,s,p,o,i,g,cl,gd,m,c]:=λj m=>j (D _ m);have x:anW [d,nl,sc,cl,gd,m,c] [d,nl,sc,s,p,o,i,g,cl,gd,m,c]:=.cons₂ _ (.cons₂ _ (.cons₂ _ (.cons _ (.cons _ (.cons _ (.cons _ (.cons _ (anW.refl _))))))));have w:=bh.mp (x.nodup O);have y:(Cc.map q).Nodup:=w.2;let v:bW:=λa=>if a∈[d,nl,sc,cl,gd,m,c]then ah else JK a
 have t:∀{a},a∉[d,nl,sc,cl,gd,m,c]->v a=JK a:=λh=>if_neg h;have low:∀b,H b≠ah->v b=H b:=λb j=>(t λf=>out j (x.subset f)).trans (C▸JF (out j));let A:m5:=⟨Ab q Cc,q,λb=>JI y (ag1 b),λ_ _=>JH,n,g,i,v,(low n (E▸(λh=>nomatch h))).trans E,λa u e=>by
  by_cases f:a∈[d,nl,sc,cl,gd,m,c]
  .exact cV ((if_pos f).symm.trans e)
  .exact JJ λr=>f (.tail _ r)⟩
 let G:jn:=⟨[],[],[],0,d,λa=>if a=d then ae (.lT [])else ah⟩;have z:∀{a c},G.M a=ae c->a=d/\c=.lT []:=λ{a c} e=>by
  by_cases f:a=d
  .exact ⟨f,aC.inj (e.symm.trans (if_pos f))⟩
  .exact cV ((if_neg f).symm.trans e)
 refine⟨A,G,⟨λa c e=>(z e).1▸⟨JJ w.1,if_pos (.head _)⟩,if_pos B,B,λ_ m=>(nomatch m),aol,λ_ m=>(nomatch m),λ_ m=>(nomatch m),λ_ m=>(nomatch m),aol,λl e=>(nomatch(z e).2),λ_ m=>(nomatch m),λ_ m=>(nomatch m),λ_ _ e=>(nomatch e),λ_ m=>(nomatch m),B,B,B,by show 0+0+0+0+b<=_;exact cY j⟩,B,?_,B,B,?_,?_,λb j=>⟨low b j,λe=>out j (e▸.tail _ (.tail _ (.tail _ (.tail _ (.tail _ (.tail _ (.tail _ (.head _))))))))⟩⟩
 .funext a;dsimp only[heapOf];cases e:A.tag a with
  |some b=>
   obtain rfl:=JH e
   induction b using lU.casesOn
   .exact (k (.tail _ (.tail _ (.tail _ (.tail _ (.tail _ (.tail _ (.tail _ (.tail _ (.tail _ (.tail _ (.tail _ (.head _))))))))))))).symm
   .exact (k (.tail _ (.tail _ (.tail _ (.tail _ (.tail _ (.tail _ (.tail _ (.tail _ (.tail _ (.tail _ (.head _)))))))))))).symm
   .exact (k (.tail _ (.tail _ (.tail _ (.tail _ (.tail _ (.tail _ (.tail _ (.tail _ (.tail _ (.head _))))))))))).symm
   .exact (k (.tail _ (.tail _ (.tail _ (.tail _ (.tail _ (.tail _ (.tail _ (.tail _ (.head _)))))))))).symm
   .exact (k (.tail _ (.tail _ (.head _)))).symm
   .exact (k (.tail _ (.head _))).symm
  |none=>
   by_cases f:a=d
   .rw [show G.M a=ae (.lT [])from if_pos f,f];exact(k (.head _)).symm
   .rw [show G.M a=ah from if_neg f];refine t λr=>?_;rcases aI.mp r with r|r
    .exact f r
    .refine c_ (bC.mp (show a∈Cc.map q from r)) λb F I=>?_;obtain rfl:=I;exact cV (e.symm.trans (JI y F))
 .refine (t (four (anW.nodup ?_ O))).trans (k (.tail _ (.tail _ (.tail _ (.tail _ (.tail _ (.tail _ (.tail _ (.head _)))))))));exact .cons₂ _ (.cons₂ _ (.cons₂ _ (.cons _ (.cons _ (.cons _ (.cons _ (anW.refl _)))))))
 .refine (t (four (anW.nodup ?_ O))).trans (k (.tail _ (.tail _ (.tail _ (.tail _ (.tail _ (.tail _ (.head _))))))));exact .cons₂ _ (.cons₂ _ (.cons₂ _ (.cons _ (.cons _ (.cons _ (.cons₂ _ (.cons _ (anW.refl _))))))))
theorem ag3{a:ai}{H:bW}{k:cZ}{d b:Nat}(u:H a=ae (.eJ o_))(q:b<=900000)(s:∀A G,cz A [] [] [] [] [] 0 0 0 b G->G.rows=[]->G.dH=[]->A.rest A.hT=ae (.list [])->A.rest A.jZ=ae (.list [])->(∀b,H b≠ah->A.rest b=H b/\b≠A.hT)->k (.ref (A.adr .c)) (heapOf A G)):cl (d+2) (.glob 1086) [.ref a] k H:=by show eX (.inst 1086 []) (λx=>U (d+2) 930 [x,.ref a] λ(r:J)(H:bW)=>r=J.none/\lK 1086 x k H) (gD [] H);refine rJ ⟨aol,λ_ m=>(nomatch m)⟩ λc N=>cO adA (cO ady ?_);refine qc [] [(rh,.ref a)] N B B (cn B) λN=>qc [] [(rh,.ref a),(ju,.str mb)] N B B (cn B) λN=>qc [] [(rh,.ref a),(ju,.str mb),(nM,.none)] N B B (cn B) λN=>agZ N λm gd cl g o N=>qc [_,_,_,_,_] [(rh,.ref a),(ju,.str mb),(nM,.none),(fX,.ref m)] N B B (cn B) λN=>de B (cO acH (is_none (b:=af) B (dI (c7 B (rJ N λv N=>?_)))));refine w_.list _ (.cb []) B B B (bH _) (rJ N λw N=>?_);refine qt.lst [] [] B (kj (yH N.O (.tail _ (.head _)))) (kj (yH N.O (.head _))) (bH _) (rJ N λy N=>?_);refine ag0 N λsc nl N=>qc [_,_,_,_,_,_,_,_,_,_] [(rh,.ref a),(ju,.str mb),(nM,.none),(fX,.ref m),(tA,.ref sc)] N B B (cn B) λN=>c7 B (rJ N λj N=>?_);refine qc [_,_,_,_,_,_,_,_,_,_,_] [(rh,.ref a),(ju,.str mb),(nM,.none),(fX,.ref m),(tA,.ref sc),(m1,.ref j)] N B B (cn B) λN=>⟨B,?_⟩;refine UQ (ag2 N u q) λA G l t e i h n p f=>?_;obtain rfl:=t;have:=s A G l i h n p f;rw[e]at this;exact this
section
variable{A:m5}{d n z b:Nat}{k:cZ}{F:List lV}{h h':Int}{G:jn}{K:List (ai×Cell)}{cP W:List Way}{Q:List fM}{H:bW}{X:bT}
noncomputable def pf(G:jn)(a:ai):Nat:=match G.M a with
 |some (.gm (ae c))=>c
 |_=>0
def pg(r:g9 Nat):J:=match r with
 |.push c=>fS (.str k4) c .none .none
 |.pop=>fS (.str ic) .none .none .none
 |.self=>fS (.str i4) .none .none .none
 |.jI=>fS (.str pV) (.str uG) .none .none
 |.hq=>fS (.str qF) .none .none .none
 |.k2=>fS (.str sq) .none .none .none
 |.again=>fS (.str tu) .none .none .none
 |.leave=>fS (.str vY) .none .none .none
 |.gi a=>fS (.str md) (.int 0) (.int a) .none
 |.ez a=>fS (.str lx) (.int 0) (.int a) .none
 |.kI s=>fS (.str ma) (.str s) .none .none
 |.send s k=>fS (.str qE) (.str s) (.int 1) (.tup [.str k,.none])
 |.list n=>fS (.str re) (.int n) .none .none
 |.gj l=>fS (.str mZ) (.int l) .none .none
 |.ko l=>fS (.str o2) (.int l) .none .none
 |.ji l=>fS (.str sv) (.int l) .none .none
structure rK where
 dZ:Bool
 first:Nat
 last:Nat
 nU:Nat
 h:Int
def iH(c:rK):J:=.obj 598 [pW,iB,nL,nO,pT] [.str (nV c.dZ),.int c.first,.int c.last,.int c.nU,.int c.h]
noncomputable def lD:List rK->Nat->Option (Nat×Int)
 |[],_=>ah
 |c::r,s=>if c.first<=s/\s<c.last then ae (c.nU,c.h)else lD r s
noncomputable def u'(lam:ai->Nat)(c:yo):rK:=⟨c.dZ,c.first,c.last,lam c.nU,c.h⟩
theorem QU(lam:ai->Nat)(s:Nat):∀a,lD (a.map (u' lam)) s=resT lam (p8 a s)
 |[]=>rfl
 |c::r=>by show(if c.first<=s/\s<c.last then _ else lD (r.map (u' lam)) s)=resT lam (if c.first<=s/\s<c.last then _ else p8 r s);rw[QU lam s r];split<;>rfl
def ag4:List Str:=[ju,vZ,nM,Bq,ly,om,sr,rg,HZ]
def qS(nm:J)(names c a:List J):J:=.obj 633 ag4 [.str mb,nm,.none,.lst names,.lst c,.lst a,.lst [],.lst [.int 0],.none]
section
theorem QV(h:G.M a=ae (.gm (ae p))):pf G a=p:=by unfold pf;rw[h]
theorem QW(h:k (.int n) H):cl (d+1) (.glob 672) [.int n] k H:=de (d:=d+1) B (cO Ph (.ze _ _ ag B B B (j0 (c6 h))))
theorem QX(g:H l=ae (sH (.gm (ae p))))(h:k (.int p) H):cl (d+2) (.glob 672) [.ref l] k H:=by refine de (d:=d+2) B (cO Ph (.ze _ _ af B B ((Me g).trans B) (j0 (dI (D' g B B (f:=658) B (de (d:=d+1) B (cO acR ?_)))))));exact k0 (u:=.int p) g B B (is_none (b:=ag) B (c6 (k0 (u:=.int p) g B B h)))
theorem comp_map(hs:src H):∀(L:List β)(acc:List J),(∀r∈L,∀c:Option J->bT,c (ae (g r)) H->body (f r) c H)->dX (acc++L.map g) H->ix src body dX (L.map f) acc H
 |[]=>λacc _ h=>⟨hs,(bB acc)▸h⟩
 |r::L=>λacc a h=>⟨hs,a r (.head _) _ (comp_map hs L (acc++[g r]) (λe m=>a e (.tail _ m)) ((bk acc [g r] (L.map g)).symm▸h))⟩
def JL(d:Nat)(v:J)(l:Option J->bT):bT:=(λ(a:J->bT)=>b4 v hR λf=>cp .In f (.tup [.str mZ,.str o2,.str sv,.str Em]) λj=>b6 j (methP v H' λc=>b4 v lu λi=>cl d (.glob 672) [i] λg=>cl d c.1 (c.2++[g]) λm=>a m) (a v)) λe=>l (ae e)
theorem ag5{r:J×List J->bT}{op a b c:J}(h:r (.glob 567,[fS op a b c]) H):methP (fS op a b c) H' r H:=D_ (f:=567) B B B h
def QY:J:=.tup [.str mZ,.str o2,.str sv,.str Em]
theorem JM(g:H l=ae (sH (.gm (ae p))))(m:∀H,oK H (.str op) QY=ae af)(h:ep (ae (fS (.str op) (.int p) .none .none)) H):JL (d+2) (fS (.str op) (.ref l) .none .none) ep H:=
 sL ⟨af,m H,dI (ag5 (oy (QX g (de (d:=d+2) B (cO acK (sL (EK (PJ (kH B B (PG h))))))))))⟩
theorem ag6(e:v=wd r)(m:∀H,oK H (.str (qJ r)) QY=ae ag)(h:ep (ae v) H):JL (d+2) (wd r) ep H:=
 sL ⟨ag,m H,c6 (e▸h)⟩
theorem ag7(cv:∀l,rx r=ae l->H l=ae (sH (.gm (ae (lam l)))))(h:ep (ae (pg (tM lam r))) H):JL (d+2) (wd r) ep H:=by
 induction r using g9.casesOn with
 |gj l=>exact JM (cv l B) (λH=>by cbv) h
 |ko l=>exact JM (cv l B) (λH=>by cbv) h
 |ji l=>exact JM (cv l B) (λH=>by cbv) h
 |_=>exact ag6 B (λH=>by cbv) h
theorem QZ{k:Bool->bT}{x y:Int}(h:k (decide (x<y)) H):cp .Lt (.int x) (.int y) k H:=⟨_,B,h⟩
theorem ag8{H:bW}{s f l t h:J}(a:k (.obj 598 [pW,iB,nL,nO,pT] [s,f,l,t,h]) H):cl (d+1) (.glob 598) [s,f,l,t,h] k H:=by show eX (.inst 598 []) (λx=>U (d+1) 588 [x,s,f,l,t,h] λ(r:J)(H:bW)=>r=J.none/\lK 598 x _ H) H;intro x ce;refine cO Pg (gX (bW.set_same ..) B (ay B) (gX (bW.set_same ..) B (ay B) (gX (bW.set_same ..) B (ay B) (gX (bW.set_same ..) B (ay B) (gX (bW.set_same ..) B (ay B) ⟨B,zx (fs:=[(pW,s),(iB,f),(nL,l),(nO,t),(pT,h)]) B ((bW.set_same ..).trans B) ?_ ce a⟩)))));intro c cu;simp only[bW.el _ _ cu]
end
noncomputable def Ac(A:m5)(nm:Str)(rs:List J)(e:ai):Option (J×J×J)->Loc
 |none=>uS (.ref (A.adr .m)) (.str mb) (.str nm) .none (.ref (A.adr .nl)) (.lst rs) (.ref e)
 |some (a,b,c)=>uS (.ref (A.adr .m)) (.str mb) (.str nm) .none (.ref (A.adr .nl)) (.lst rs) (.ref e) (.Y a) (.Y b) (.Y c)
section
variable{nm:Str}{rs:List J}{cr:ai}{t:T}
theorem JN(h1:src H)(h2:κ.cQ S H):forL src body κ [] S H:=⟨h1,h2⟩
theorem tT{src:bT}{body:J->Loc->cD->bT}{κ:cD}{v:J}{vs:List J}{c:Loc}(h1:src H)(h2:body v c ⟨λa=>forL src body κ vs a,κ.ef,λa=>κ.cQ a,λa=>forL src body κ vs a⟩ H):forL src body κ (v::vs) c H:=⟨h1,h2⟩
theorem stM{P:bT}{a:ai}{o:hg}(h:A.tag a=ah)(c:Cell)(e:o=sH c)(f:P (heapOf A {G with M:=G.M.set a c})):P ((heapOf A G).set a o):=p5 h c e▸f
theorem ag9(d:Nat)(κ:cD)(v:J) o:eG (U d) 196 (dS (bX 727 100)) v (Ac A nm rs cr o) κ=eG (U d) 196 (dS (bX 727 100)) v (Ac A nm rs cr ah) κ:=by rcases o with _|⟨_,_,_⟩<;>cbv
theorem aha(d:Nat)(k:cZ) o:cq (U d) 197 (bX 727 1000) (Ac A nm rs cr o) (cD.top k)=cq (U d) 197 (bX 727 1000) (Ac A nm rs cr ah) (cD.top k):=by rcases o with _|⟨_,_,_⟩<;>cbv
theorem Q0{κ:cD}{src:bT}(nG:A.tag cr=ah)(hs:∀G',G'.dH=G.dH->src (heapOf A G'))(lam:ai->Nat):
  ∀(f:List yo)(acc:List J)(M:eH)(o:Option (J×J×J)),M cr=ae (.raw (.list acc))->acc.length+f.length<=900000->(∀c∈f,c.first<c.last/\∀a:eH,(∀l,l≠cr->a l=M l)->heapOf A {G with M:=a} c.nU=ae (sH (.gm (ae (lam c.nU)))))->
   (∀o a,a cr=ae (.raw (.list (acc++f.map λc=>iH (u' lam c))))->(∀l,l≠cr->a l=M l)->κ.cQ (Ac A nm rs cr o) (heapOf A {G with M:=a}))->
   forL src (eG (U (d+2)) 196 (dS (bX 727 100))) κ (f.map zU) (Ac A nm rs cr o) (heapOf A {G with M:=M})
 |[]=>λacc M o i l g j=>⟨hs _ B,j o M ((bB acc).symm▸i) λ_ _=>B⟩
 |c::f=>λacc M o i l g j=>by refine eP (g c (.head _)) λlt gl=>?_;have p:acc.length+(f.length+1)<=900000:=l;have q:heapOf A {G with M:=M} cr=ae (.list acc):=il (c:=.raw (.list acc)) nG i;refine⟨hs _ B,cO (ag9 (d+2) ..) (cO adg ?_)⟩;refine kH (u:=.int c.first) B B (QW (kH (u:=.int c.last) B B (QW (c7 B (gR (QZ ?_))))));rw[decide_eq_true (anH.mpr lt)];refine dI (tI q (kH (u:=.str (nV c.dZ)) B B (kH (u:=.ref c.nU) B B (QX (gl M λ_ _=>B) (kH (u:=.int c.h) B B (ag8 (sK q (cY p) (stM nG (.raw (.list (acc++[iH (u' lam c)]))) B ?_))))))));refine Q0 nG hs lam f (acc++[iH (u' lam c)]) _ (ae (zU c,.int c.first,.int c.last)) (eH.same ..) (by rw[bA];show acc.length+1+f.length<=900000;exact cY p) (λc m=>⟨(g c (.tail _ m)).1,λa e=>(g c (.tail _ m)).2 a λl ne=>(e l ne).trans (eH.ne _ _ ne)⟩) λo a e r=>j o a ?_ λl ne=>(r l ne).trans (eH.ne _ _ ne);rw[bk]at e;exact e
theorem ahb{a:ai}{vs:List J}(h:H a=ae (.list vs))(c:k (.lst vs) (H.del a)):r6 (.ref a) k H:=by unfold r6;simp only[h];exact c
theorem tU(H:bW)(n:b≠a):(H.del a) b=H b:=if_neg n
theorem JO{k:List J->bT}(h:l0 r (λa=>k (.str s::a)) H):l0 (.str s::r) k H:=h
theorem ahc{k:List J->bT}(h:l0 r (λa=>k (.none::a)) H):l0 (.none::r) k H:=h
theorem Q1{vs r:List J}{k:List J->bT}(h:l0 r (λa=>k (.lst vs::a)) H):l0 (.lst vs::r) k H:=h
theorem Q2{k:List J->bT}(h:k [] H):l0 [] k H:=h
theorem Fi{a:ai}{vs r:List J}{k:List J->bT}(g:H a=ae (.list vs))(h:l0 r (λc=>k (.lst vs::c)) (H.del a)):l0 (.ref a::r) k H:=ahb g h
theorem ahd(h1:H nl=ae (.list names))(h2:H cr=ae (.list dH))(a:H hT=ae (.list []))(f:cr≠nl)(e:hT≠nl)(j:hT≠cr)
  (g:k (qS (.str nm) names rows dH) (((H.del nl).del cr).del hT)):cl (d+1) (.glob 633) [.str mb,.str nm,.none,.ref nl,.lst rows,.ref cr,.ref hT,.lst [.int 0]] k H:=by
 show l0 [.str mb,.str nm,.none,.ref nl,.lst rows,.ref cr,.ref hT,.lst [.int 0]] (λi=>eX (.inst 633 []) λx=>U (d+1) 616 (x::i) λ(r:J)(H:bW)=>r=J.none/\lK 633 x k H) H;refine JO (JO (ahc (Fi h1 (Q1 (Fi ((tU _ f).trans h2) (Fi ((tU _ j).trans ((tU _ e).trans a)) (Q1 (Q2 λx ce=>?_))))))));refine cO acL (gX (bW.set_same ..) B (ay B) (gX (bW.set_same ..) B (ay B) (gX (bW.set_same ..) B (ay B) (gX (bW.set_same ..) B (ay B) (gX (bW.set_same ..) B (ay B) (gX (bW.set_same ..) B (ay B) (gX (bW.set_same ..) B (ay B) (gX (bW.set_same ..) B (ay B) (gX (bW.set_same ..) B (ay B) ⟨B,zx (fs:=[(ju,.str mb),(vZ,.str nm),(nM,.none),(Bq,.lst names),(ly,.lst rows),(om,.lst dH),(sr,.lst []),(rg,.lst [.int 0]),(HZ,.none)]) B ((bW.set_same ..).trans B) ?_ ce g⟩)))))))));intro c cu;simp only[bW.el _ _ cu]
theorem cz.placed(a:cz A [] [] [] [] F n h z b G)(q:hU G.M l)(e:M l=G.M l):heapOf A {G with M:=M} l=ae (sH (.gm (ae (pf G l)))):=by
 refine gu q λc q=>?_
 induction c using a_ with
 |none=>exact nomatch a.ul l q
 |some c=>rw[QV q];exact il (a.i5 _ _ q).1 (e.trans q)
theorem ahe(i:cz A [] [] [] [] F n h z b G)(gs:A.rest A.jZ=ae (.list []))(s:A.rest A.hT=ae (.list []))
  (S:∀p,(∀b,A.rest b≠ah->b≠A.hT->p b=A.rest b)->k (qS (.str nm) G.names (G.rows.map λx=>pg (tM (pf G) x.1)) (G.dH.map λc=>iH (u' (pf G) c))) p):
  U (d+3) 727 [.ref (A.adr .m),.str mb,.str nm,.none,.ref (A.adr .nl)] k (heapOf A G):=by
 have y:n+z+G.dH.length+0+b<=900000:=i.jf;have D:=i.yw;have R:∀{a},A.rest a≠ah->G.M a=ah:=λ{a} r=>by
  cases e:G.M a with
  |none=>rfl
  |some c=>exact absurd (i.i5 _ _ e).2 r
 refine cO ac9 (yq ⟨.li (G.rows.map λg=>wd g.1),kj (jx .gd),by simp only[lq,aX];exact cY D,by simp only[lq,aX];exact cY D,?_⟩);refine comp_map (src:=λp=>iO p (.ref (A.adr .gd))=iO (heapOf A G) (.ref (A.adr .gd))) (f:=λg:g9 ai×Option (ai×Int)=>wd g.1) (g:=λg=>pg (tM (pf G) g.1)) B G.rows [] (λr m Y h=>ag7 (d:=d) (λl cv=>i.placed (i.gd r m l cv) B) h) (c7 B λcr E=>iw (yp E) λt1 N L=>stM t1 (.raw (.list [])) B (cO ada (Pz ⟨.li (G.dH.map zU),kj (jx .cl),by simp only[lq,aX];exact cY y,?_⟩)));have seq:∀j:jn,j.dH=G.dH->iO (heapOf A j) (.ref (A.adr .cl))=ae (.li (G.dH.map zU)):=λj e=>kj (e▸jx .cl);refine Q0 (nm:=nm) (rs:=G.rows.map λx=>pg (tM (pf G) x.1)) (G:=G) t1 (λj e=>(seq j e).trans (seq {G with M:=G.M.set cr (.raw (.list []))} rfl).symm) (pf G) G.dH [] _ ah (eH.same ..) (by show 0+_<=_;exact cY y) (λc m=>⟨(i.cl c m).2.1,λq e=>i.placed (i.cl c m).1 ?_⟩) λo q e V=>wv (cO (aha (d+2) ..) (cO adh ?_))
 .have ne:c.nU≠cr:=λg=>(i.cl c m).1.elim λZ w=>mW (g▸N) w;exact(e _ ne).trans (eH.ne _ _ ne)
 have u:∀{a},A.rest a≠ah->a≠cr/\q a=ah:=λ{a} r=>by have ne:a≠cr:=λg=>r (g▸L);exact⟨ne,(V _ ne).trans ((eH.ne _ _ ne).trans (R r))⟩
 have rs:∀{a o},A.rest a=ae o->heapOf A {G with M:=q} a=ae o:=λr=>oe r (u (by rw[r];exact λh=>nomatch h)).2;have v:∀{a},A.tag a=ah->a≠A.adr .nl:=λg e=>by rw[e,A.mf]at g;exact gS g
 refine aeK (wf (n:=0) (rs gs) B (by decide) (wj (c6 (c7 B (aeJ ?_)))));refine ahd (jx .nl) (il (c:=.raw (.list (G.dH.map λc=>iH (u' (pf G) c)))) t1 e) (rs s) (v t1) (v (A.IV _ _ s)) (u (by rw[s];exact λh=>nomatch h)).1 (S _ λb C I=>?_);obtain⟨o,mX⟩:=Option.ne_none_iff_exists'.mp C;exact(tU _ I).trans ((tU _ (u C).1).trans ((tU _ (v (A.IV _ _ mX))).trans ((rs mX).trans mX.symm)))
structure JQ(t:T)(rows:List (g9 Nat))(dH:List rK):Prop where
 ex:∃q,Seg (λs=>(rows[s]?).map λr=>(r,lD dH s)) t af [] 0 0 0 q/\At (λs=>(rows[s]?).map λr=>(r,lD dH s)) q .leave
 wE:rows.length<=sI
 lc:dH.length<=sI
theorem ahh(Y:H g'=ae (.eJ o_))(w:iq ag ag t)(O:need t []<=d+3)(dl:d+5<=1000)(y:iV t []+1<=sI)
  (N:∀names i j l,JQ t i j->(∀b,H b≠ah->l b=H b)->k (qS (.str nm) names (i.map pg) (j.map iH)) l):
  cl (d+5) (.glob 1086) [.ref g'] (λc=>cB (d+5) c x4 [toV t,.str nm] k) H:=by
 obtain⟨d,rfl⟩:∃e,d=e+10:=⟨d-10,by unfold need at O;exact a7 (cY (eB d 10)) (cY (sB (show 10<=d from(cY O))))⟩;refine ag3 (d:=d+13) (b:=1+iV t []) Y (by unfold sI at y;exact cY y) λA G E a1 Z M gs p=>aeQ (cO ad9 (aeP (cO ad6 (Py (is_none (b:=af) B (dI (dI (aeL (cO adF (cO Pp (mH (rH w) (dI (ru ?_)))))))))))));refine agW A (d+13) E ⟨trivial,w,trivial,O,by exact cY dl⟩ λao L v R eD ap _ C=>I2 (b:=0) .leave eD (ch 0) ⟨B,B,B⟩ (cn B) λg eE V D=>IW ⟨ag,by cbv,c6 (IW (hN ?_))⟩;refine uZ (b:=.m) (f:=727) B B B B (Py (IX (EH (de B (ahe (d:=d+11) eE gs M λl I=>?_)))));have S:v+1+R+g.dH.length+0+0<=900000:=eE.jf;have q:Good (λs=>((g.rows.map λx=>tM (pf g) x.1)[s]?).map λr=>(r,lD (g.dH.map (u' (pf g))) s)) (pf g) g:=⟨λs r an u=>by have e:=eE.an s (r,an) u;rw[show p7 ([]++[].zip L) s=ah from B,Option.or_none]at e;show((g.rows.map λx=>tM (pf g) x.1)[s]?).map _=_;rw[aoh,show g.rows[s]?=_ from u,QU,<-e];rfl,λa a2 h=>QV h⟩
 have:=N g.names (g.rows.map λx=>tM (pf g) x.1) (g.dH.map (u' (pf g))) l ⟨⟨v,C _ _ (q.ex V),q.at_ D⟩,by rw[aX];exact eE.yw,by rw[aX];show _<=900000;exact cY S⟩ λb o=>(I b (((p b o).1)▸o) (p b o).2).trans (p b o).1;rw[aok,aok]at this;exact this
end
end
theorem ahj:U (d+1) 1158 [wF,ahk] k=lm 1 (cl d (.glob 483) [.str rd,.tup [ahk]] λb=>lm 1 (lm 5 (cl d (.glob 483) [.str pR,.tup [.none,wF,.lst [b],.none,.bool ag]] λa=>k a))):=by cbv
theorem ahl:U (d+1) 1165 [f3] k=cF f3 (.int 2) λe=>d4 .Add e (.int 1) λb=>lJ f3 (.int 2) b (cF f3 (.int 2) λc=>cl d (.glob 1158) [.str OR,c] λa=>k a):=by cbv
theorem ahm:U (d+1) 1170 [f3,iu,kP,j_] k=(λ(a:J->bT)=>cp .Gt iu (.int 0) λf=>b6 f (a (.int 2)) (a (.int 1))) λh=>cl d (.glob 1151) [f3,h] λl=>d4 .Add (.int 1) l λj=>nv (.typ "range") [j] λe b=>oi b (ix e (λn g=>cl d (.glob 1175) [f3,iu,kP,j_] λm=>g (ae m)) (λc=>lm 1 (cl d (.glob 483) [.str mB,.tup [.lst c]] λi=>k i)) b []):=by cbv
theorem ahn:U (d+1) 1175 [f3,iu,kP,j_] k=cl d (.glob 1151) [f3,.int 10] λa=>cp .Eq a (.int 1) λc1=>b6 c1 (lm 1 (cl d (.glob 483) [.str su,.tup [.str uG]] λao=>lm 1 (lm 5 (cl d (.glob 483) [.str pR,.tup [.none,.str H5,.lst [ao],.none,.bool ag]] λca=>k ca)))) (cp .Eq a (.int 2) λcd=>b6 cd (cl d (.glob 1151) [f3,.int 2] λcc=>cl d (.glob 1158) [.str Bm,cc] λG=>k G) ((λ(c:Bool->bT)=>cp .Gt iu (.int 0) λcu=>b6 cu (cp .Eq a (.int 0) λcm=>b6 cm (c af) (c ag)) (c ag)) λcr=>b6 cr (d4 .Sub iu (.int 1) λap=>cl d (.glob 1170) [f3,ap,kP,j_] λu=>lm 0 (d4 .Sub iu (.int 1) λY=>cl d (.glob 1170) [f3,Y,kP,j_] λck=>lm 4 (cl d (.glob 483) [.str kJ,.tup [u,.lst [],.none,ck]] λL=>k L))) ((λ(g:Bool->bT)=>cp .Gt iu (.int 0) λZ=>b6 Z (cp .Eq a (.int 4) λl=>b6 l (g af) (g ag)) (g ag)) λa1=>b6 a1 (cl d (.glob 1180) [f3,iu,kP,j_] λn=>k n) ((λ(f:Bool->bT)=>cp .Gt iu (.int 0) λcy=>b6 cy (cp .Eq a (.int 5) λj=>b6 j (f af) (f ag)) (f ag)) λq=>b6 q (cF f3 (.int 2) λb2=>d4 .Add b2 (.int 1) λt=>lJ f3 (.int 2) t (cF f3 (.int 2) λci=>d4 .Mult (.int 10) ci λs=>d4 .Add s (.int 1) λv=>cl d (.glob 1151) [f3,.int 2] λW=>d4 .Add v W λw=>cl d (.glob 1158) [.str Es,w] λbZ=>d4 .Sub iu (.int 1) λA=>cl d (.glob 1170) [f3,A,.bool af,j_] λD=>lm 3 (cl d (.glob 483) [.str pX,.tup [bZ,D,.bool ag]] λb5=>k b5))) ((λ(e:Bool->bT)=>cp .Eq a (.int 6) λo=>b6 o (g6 kP λx=>b6 x (e af) (e ag)) (e ag)) λcw=>b6 cw (lm 2 (cl d (.glob 1151) [f3,.int 2] λbV=>cF (.lst [.str oj,.str o3]) bV λR=>cl d (.glob 1165) [f3] λX=>lm 1 (cl d (.glob 483) [R,.tup [X]] λr=>k r))) (cp .Eq a (.int 7) λb7=>b6 b7 (cl d (.glob 1165) [f3] λcs=>lm 1 (cl d (.glob 483) [.str mc,.tup [cs]] λN=>k N)) ((λ(h:Bool->bT)=>cp .Eq a (.int 8) λM=>b6 M (g6 j_ λV=>b6 V (h af) (h ag)) (h ag)) λE=>b6 E (cF f3 (.int 2) λcb=>d4 .Add cb (.int 1) λa2=>lJ f3 (.int 2) a2 (cF f3 (.int 2) λQ=>cl d (.glob 1158) [.str H0,Q] λct=>lm 0 (cl d (.glob 483) [.str nN,.tup []] λz=>lm 1 (lm 1 (cl d (.glob 483) [.str mB,.tup [.lst [z]]] λS=>lm 3 (cl d (.glob 483) [.str tw,.tup [ct,S,.none]] λH=>k H)))))) ((λ(b:Bool->bT)=>cp .Gt iu (.int 0) λC=>b6 C (cp .Eq a (.int 9) λp=>b6 p (b af) (b ag)) (b ag)) λbd=>b6 bd (nv (.typ "range") [.int 2] λco i=>oi i (ix co (λcA m=>d4 .Sub iu (.int 1) λF=>cl d (.glob 1175) [f3,F,kP,j_] λy=>m (ae y)) (λcg=>lm 1 (cl d (.glob 483) [.str rc,.tup [.lst cg]] λI=>k I)) i [])) (cl d (.glob 1165) [f3] λbY=>k bY))))))))):=by cbv
def pj(f c e a h:J)(i g d b:d6:=.un):Loc:=[(ZV,.Y f),(ZY,.Y c),(aad,.Y e),(Z3,.Y a),(Er,.Y h),(Z_,i),(HU,g),(H3,d),(nL,b),(Bp,.gl (.typ "range")),(ZQ,.gl (.glob 1151)),(ZP,.gl (.glob 1170)),(ZI,.gl (.glob 483))]
theorem ahA:U (d+1) 1180 [f3,iu,kP,j_] k=lm 0 (eX (.list []) λa=>cq (U d) 199 (bX 1180 10) (pj f3 iu kP j_ a) (cD.top k)):=by cbv
theorem ahB:cq (U d) 199 (bX 1180 10) (pj iI j1 j2 kQ fR) κ=cl d (.glob 1151) [iI,.int 2] λe=>d4 .Add (.int 1) e λc=>nv (.typ "range") [c] λa b=>forL a (eG (U d) 197 (dS (bX 1180 10))) (gc (U d) 198 (bX 1180 100) κ) b (pj iI j1 j2 kQ fR):=by cbv
theorem ahC:eG (U d) 197 (dS (bX 1180 10)) v (pj iI j1 j2 kQ fR) κ=lm 0 (lm 1 (lm 1 (lm 2 (lm 4 (cl d (.glob 1151) [iI,.int 4] λl=>cF (.lst [.lst [],.lst [.str sn],.lst [.str so],.lst [.str so,.str sn]]) l λi=>iY i λk b=>oi b (ix k (λg j=>lm 2 (cl d (.glob 483) [.str pS,.tup [.none,g]] λf=>j (ae f))) (λa=>methP fR kt λc=>d4 .Sub j1 (.int 1) λe=>cl d (.glob 1170) [iI,e,j2,.bool af] λh=>lm 3 (cl d c.1 (c.2++[.tup [.lst a,.none,h]]) λm=>κ.cQ (pj iI j1 j2 kQ fR (.Y v) (.Y (.lst a))))) b [])))))):=by cbv
theorem ahD:eG (U d) 197 (dS (bX 1180 10)) v (pj iI j1 j2 kQ fR (.Y Ck) (.Y p0)) κ=lm 0 (lm 1 (lm 1 (lm 2 (lm 4 (cl d (.glob 1151) [iI,.int 4] λl=>cF (.lst [.lst [],.lst [.str sn],.lst [.str so],.lst [.str so,.str sn]]) l λi=>iY i λk b=>oi b (ix k (λg j=>lm 2 (cl d (.glob 483) [.str pS,.tup [.none,g]] λf=>j (ae f))) (λa=>methP fR kt λc=>d4 .Sub j1 (.int 1) λe=>cl d (.glob 1170) [iI,e,j2,.bool af] λh=>lm 3 (cl d c.1 (c.2++[.tup [.lst a,.none,h]]) λm=>κ.cQ (pj iI j1 j2 kQ fR (.Y v) (.Y (.lst a))))) b [])))))):=by cbv
theorem ahE:cq (U d) 198 (bX 1180 100) (pj iI j1 j2 kQ fR (.Y Ck) (.Y p0)) κ=(λ(b:J->bT)=>cl d (.glob 1151) [iI,.int 3] λh=>cp .Eq h (.int 0) λe=>b6 e (d4 .Sub j1 (.int 1) λft=>cl d (.glob 1170) [iI,ft,j2,kQ] λp=>b p) (b .none)) λm=>(λ(a:J->bT)=>cl d (.glob 1151) [iI,.int 2] λo=>cp .Eq o (.int 0) λj=>b6 j (d4 .Sub j1 (.int 1) λi=>cl d (.glob 1170) [iI,i,j2,kQ] λk=>a k) (a .none)) λc=>d4 .Sub j1 (.int 1) λl=>cl d (.glob 1170) [iI,l,j2,kQ] λn=>lm 4 (l0 [n,fR,m,c] λf=>cl d (.glob 483) [.str kJ,.tup f] λg=>κ.ef g):=by cbv
def ahF(k:cZ)(b a d:J):bT:=d4 .Add d (.int 1) λc=>cF b (.str ri) λh=>lJ h a c (cF b (.str ri) λi=>cF i a λg=>d4 .Mod a (.int 10) λe=>cp .LtE g e λf=>k (.bool f))
def ahG(k:cZ)(d a e g:J):bT:=lJ g a e (cF d (.str ri) λc=>cF c a λf=>cp .Eq f (.int 1) λb=>k (.bool b))
def ahH(d:Nat)(k:cZ)(a b f:J):bT:=cB d f x5 [b,.int 0] λe=>d4 .Add e (.int 1) λc=>cF a (.str ri) λg=>ahG k a b c g
def ahI(d:Nat)(k:cZ)(b c f:J):bT:=methP f kt λe=>lm 2 (cl d e.1 (e.2++[.tup [b,c]]) λi=>(λ(a:J->bT)=>cp .Eq b (.str OR) λg=>b6 g (a c) (a .none)) λh=>k h)
theorem Fk:U (d+1) 1187 [iJ,wF,kK] k=cp .Eq wF (.str Es) λb=>b6 b (cF iJ (.str ri) λf=>cB d f x5 [kK,.int 0] λc=>ahF k iJ kK c) (cp .Eq wF (.str H0) λe=>b6 e (cF iJ (.str ri) λg=>ahH d k iJ kK g) (cF iJ (.str mC) λa=>ahI d k wF kK a)):=by cbv
theorem ahJ:U (d+1) 1194 [nQ,uQ] k=lm 2 (cp .In nQ (.tup [.str OE,uQ]) λa=>k (.bool a)):=by cbv
def iK(c d b e:J)(f g h a:d6:=.un):Loc:=[(zG,.Y c),(HX,.Y d),(ju,.Y b),(jY,.Y e),(OU,f),(El,g),(Bn,h),(gV,a),(OG,.gl (.glob 1201)),(OF,.gl (.glob 1187)),(ZO,.gl (.glob 1206))]
def ahK(d:Nat)(k:cZ)(g b a:J):bT:=cF b (.int 1) λi=>cp .Eq i (.str Bm) λf=>b6 f (lm 2 (cF (.lst [.str sn,.str so]) a λe=>lm 2 (k (.tup [.str v3,e])))) (cF b (.int 1) λh=>cl d (.glob 1187) [g,h,a] λc=>lm 2 (k (.tup [.str gV,c])))
def ahL(d:Nat)(k:cZ)(v b c a:J)(i:Bool):bT:=b6 i ((λ(e:J->bT)=>cF a (.int 0) λu=>cl d (.glob 1201) [u,b] λl=>cF l (.int 1) λt=>g6 t λo=>b6 o (cF a (.int 1) λw=>cl d (.glob 1201) [w,b] λx=>e x) (lm 2 (e (.tup [.str gV,.none])))) λh=>k h) (cp .Eq c (.str pX) λp=>b6 p (cq (U d) 193 (bX 1201 1000001) (iK v b c a) (gc (U d) 194 (bX 1201 1000000) (cD.top k))) (lm 3 (cp .In c (.tup [.str oj,.str o3,.str mc]) λg=>b6 g (cF a (.int 0) λm=>cl d (.glob 1201) [m,b] λr=>cF r (.int 1) λn=>lm 2 (k (.tup [c,n]))) ((λ(f:J->bT)=>cp .Eq c (.str nN) λs=>b6 s (lm 2 (f (.tup [.str nN,.none]))) (cl d (.glob 1206) [a,b] λj=>f j)) λq=>k q))))
def ahP(d:Nat)(k:cZ)(e c b a:J)(c2:Bool):bT:=b6 c2 (lm 2 (cq (U d) 196 (bX 1201 1010) (iK e c b a (.Y (.tup [.str gV,.none]))) (gc (U d) 198 (bX 1201 100) (cD.top k)))) (cp .Eq b (.str rc) λl=>b6 l (lm 0 (eX (.list []) λn=>cq (U d) 195 (bX 1201 10010) (iK e c b a .un .un (.Y n)) (gc (U d) 197 (bX 1201 1000) (cD.top k)))) (cp .Eq b (.str pR) λj=>b6 j ((λ(f:J->bT)=>cF a (.int 1) λi=>cp .Eq i (.str H5) λr=>b6 r (cF c (.str nJ) λs=>f s) (cF a (.int 2) λg=>cF g (.int 0) λm=>b4 m jY λp=>cF p (.int 0) λq=>f q)) λo=>ahK d k c a o) (cp .Eq b (.str tw) λh=>ahL d k e c b a h)))
theorem rL:U (d+1) 1201 [hM,iJ] k=b4 hM ju λa=>b4 hM jY λb=>lm 2 (hu 2 (cp .Eq a (.str mB) λc2=>ahP d k hM iJ a b c2)):=by cbv
theorem J9:cq (U d) 196 (bX 1201 1010) (iK l_tree d2 gE gB (.Y rM)) κ=cF gB (.int 0) λc=>iY c λa b=>forL a (eG (U d) 194 (dS (bX 1201 1010))) (gc (U d) 195 (bX 1201 10100) κ) b (iK l_tree d2 gE gB (.Y rM)):=by cbv
theorem J':eG (U d) 194 (dS (bX 1201 1010)) v (iK l_tree d2 gE gB (.Y rM)) κ=cl d (.glob 1201) [v,d2] λa=>cF a (.int 0) λb=>cp .NotEq b (.str gV) λc=>b6 c (κ.ef a) (κ.cQ (iK l_tree d2 gE gB (.Y a) (.Y v))):=by cbv
theorem ahQ:eG (U d) 194 (dS (bX 1201 1010)) v (iK l_tree d2 gE gB (.Y rM) (.Y J_)) κ=cl d (.glob 1201) [v,d2] λa=>cF a (.int 0) λb=>cp .NotEq b (.str gV) λc=>b6 c (κ.ef a) (κ.cQ (iK l_tree d2 gE gB (.Y a) (.Y v))):=by cbv
theorem Q5:cq (U d) 195 (bX 1201 10100) (iK l_tree d2 gE gB (.Y rM) (.Y J_)) κ=κ.ef rM:=by cbv
theorem Ka:cq (U d) 195 (bX 1201 10010) (iK l_tree d2 gE gB .un .un (.Y lS)) κ=cF gB (.int 0) λc=>iY c λa b=>forL a (eG (U d) 193 (dS (bX 1201 10010))) (gc (U d) 194 (bX 1201 100100) κ) b (iK l_tree d2 gE gB .un .un (.Y lS)):=by cbv
def ahR(d:Nat)(κ:cD)(l_tree f e i c v a:J)(g:Bool):bT:=b6 g (κ.ef a) (methP c kt λb=>cF a (.int 1) λh=>cl d b.1 (b.2++[h]) λj=>κ.cQ (iK l_tree f e i (.Y a) (.Y v) (.Y c)))
theorem Kb:eG (U d) 193 (dS (bX 1201 10010)) v (iK l_tree d2 gE gB .un .un (.Y lS)) κ=cl d (.glob 1201) [v,d2] λa=>cF a (.int 0) λb=>cp .NotEq b (.str gV) λc=>ahR d κ l_tree d2 gE gB lS v a c:=by cbv
def ahS(d:Nat)(κ:cD)(l_tree f e i c v a:J)(g:Bool):bT:=b6 g (κ.ef a) (methP c kt λb=>cF a (.int 1) λh=>cl d b.1 (b.2++[h]) λj=>κ.cQ (iK l_tree f e i (.Y a) (.Y v) (.Y c)))
theorem Q6:eG (U d) 193 (dS (bX 1201 10010)) v (iK l_tree d2 gE gB (.Y rM) (.Y J_) (.Y lS)) κ=cl d (.glob 1201) [v,d2] λa=>cF a (.int 0) λb=>cp .NotEq b (.str gV) λc=>ahS d κ l_tree d2 gE gB lS v a c:=by cbv
theorem ahT:cq (U d) 194 (bX 1201 100100) (iK l_tree d2 gE gB (.Y rM) (.Y J_) (.Y lS)) κ=lm 2 (l0 [.str gV,lS] λa=>κ.ef (.tup a)):=by cbv
theorem ahU:cq (U d) 193 (bX 1201 1000001) (iK l_tree d2 gE gB) κ=λH=>∃m,q3 (λa=>iZ (U d) 191 (x1 (dS (bX 1201 1000001))) a) (λa κ=>cq (U d) 191 (bX 1201 10000014) a κ) (gc (U d) 192 (bX 1201 10000010) κ) m (iK l_tree d2 gE gB) H:=by cbv
theorem ahV:iZ (U d) 191 (x1 (dS (bX 1201 1000001))) (iK l_tree d2 gE gB) dX=cF gB (.int 0) λe=>cl d (.glob 1201) [e,d2] λa=>cF a (.int 1) λc=>g6 c λb=>dX b:=by cbv
theorem ahW:iZ (U d) 191 (x1 (dS (bX 1201 1000001))) (iK l_tree d2 gE gB (.Y rM)) dX=cF gB (.int 0) λe=>cl d (.glob 1201) [e,d2] λa=>cF a (.int 1) λc=>g6 c λb=>dX b:=by cbv
theorem ahX:cq (U d) 191 (bX 1201 10000014) (iK l_tree d2 gE gB) κ=cF gB (.int 1) λh=>cl d (.glob 1201) [h,d2] λa=>cF a (.int 0) λe=>cp .Eq e (.str oj) λb=>b6 b (cF a (.int 1) λf=>lm 2 (κ.ef (.tup [.str gV,f]))) (cF a (.int 0) λg=>lm 2 (cp .NotIn g (.tup [.str gV,.str o3]) λc=>b6 c (κ.ef a) (κ.cQ (iK l_tree d2 gE gB (.Y a))))):=by cbv
theorem ahY:cq (U d) 191 (bX 1201 10000014) (iK l_tree d2 gE gB (.Y rM)) κ=cF gB (.int 1) λh=>cl d (.glob 1201) [h,d2] λa=>cF a (.int 0) λe=>cp .Eq e (.str oj) λb=>b6 b (cF a (.int 1) λf=>lm 2 (κ.ef (.tup [.str gV,f]))) (cF a (.int 0) λg=>lm 2 (cp .NotIn g (.tup [.str gV,.str o3]) λc=>b6 c (κ.ef a) (κ.cQ (iK l_tree d2 gE gB (.Y a))))):=by cbv
theorem ahZ:cq (U d) 192 (bX 1201 10000010) (iK l_tree d2 gE gB (.Y rM)) κ=lm 2 (κ.ef (.tup [.str gV,.none])):=by cbv
def wH(e d:J)(c f b a g i h j:d6:=.un):Loc:=[(jY,.Y e),(HX,.Y d),(uB,c),(Er,f),(H3,b),(nL,a),(OU,g),(Bn,i),(Z1,h),(OP,j),(OG,.gl (.glob 1201))]
theorem ah1:U (d+1) 1206 [ah2,iJ] k=cq (U d) 200 (bX 1206 1) (wH ah2 iJ .un .un .un .un .q1) (cD.top k):=by cbv
theorem ah3:cq (U d) 200 (bX 1206 1) (wH gB d2 .un .un .un .un .q1) κ=jC (U d) 198 (tupS (dS (bX 1206 1))) gB (wH gB d2 .un .un .un .un .q1) λa=>cq (U d) 199 (bX 1206 10) a κ:=by cbv
theorem ah4:(jC (U d) 198 (tupS (dS (bX 1206 1))) (.tup [t0,t1,c5,t3]) (wH gB d2 .un .un .un .un .q1) λa=>cq (U d) 199 (bX 1206 10) a κ)=hu 4 (lm 2 (cq (U d) 198 (bX 1206 100) (wH gB d2 (.Y t0) (.Y t1) (.Y c5) (.Y t3) (.iN (.tup [.str nN,.none]))) κ)):=by cbv
theorem ah5:cq (U d) 198 (bX 1206 100) (wH gB d2 (.Y m2) (.Y fR) (.Y rN) (.Y qH) (.iN rM)) κ=λH=>∃m,q3 (λa=>iZ (U d) 196 (x1 (dS (bX 1206 100))) a) (λa κ=>cq (U d) 196 (bX 1206 1004) a κ) (gc (U d) 197 (bX 1206 1000) κ) m (wH gB d2 (.Y m2) (.Y fR) (.Y rN) (.Y qH) (.iN rM)) H:=by cbv
def qf(a b c e:J)(d:d6:=.un):Loc:=[(x4,.Y a),(OY,.Y b),(H7,.Y c),(O0,.Y e),(OT,d)]
theorem ah6:U (d+1) 1213 [Kf,ah7,ah8,ah9] k=cq (U d) 200 (bX 1213 1) (qf Kf ah7 ah8 ah9) (cD.top k):=by cbv
theorem aia:cq (U d) 200 (bX 1213 1) (qf fu fp d0 fy) κ=b4 fu om λb=>iY b λa c=>forL a (eG (U d) 198 (dS (bX 1213 1))) (gc (U d) 199 (bX 1213 10) κ) c (qf fu fp d0 fy):=by cbv
theorem aib:eG (U d) 198 (dS (bX 1213 1)) v (qf fu fp d0 fy) κ=(λ(b:Bool->bT)=>b4 v iB λl=>(λ(c:Bool->bT)=>cp .LtE l fp λe=>b6 e (b4 v nL λq=>cp .Lt fp q λg=>c g) (c ag)) λr=>b6 r ((λ(a:Bool->bT)=>b4 v pW λh=>cp .Eq h (.str vX) λm=>b6 m (a af) (cF d0 (.int 0) λp=>cp .Eq p (.str v3) λi=>b6 i (a af) (a ag))) λj=>b6 j (b af) (b ag)) (b ag)) λk=>b6 k (b4 v nO λf=>b4 v pT λs=>mv fy .none s λn=>lm 1 (d4 .Add n (.lst [d0]) λo=>lm 2 (κ.ef (.tup [f,o])))) (κ.cQ (qf fu fp d0 fy (.Y v))):=by cbv
theorem aic:eG (U d) 198 (dS (bX 1213 1)) v (qf fu fp d0 fy (.Y aid)) κ=(λ(b:Bool->bT)=>b4 v iB λl=>(λ(c:Bool->bT)=>cp .LtE l fp λe=>b6 e (b4 v nL λq=>cp .Lt fp q λg=>c g) (c ag)) λr=>b6 r ((λ(a:Bool->bT)=>b4 v pW λh=>cp .Eq h (.str vX) λm=>b6 m (a af) (cF d0 (.int 0) λp=>cp .Eq p (.str v3) λi=>b6 i (a af) (a ag))) λj=>b6 j (b af) (b ag)) (b ag)) λk=>b6 k (b4 v nO λf=>b4 v pT λs=>mv fy .none s λn=>lm 1 (d4 .Add n (.lst [d0]) λo=>lm 2 (κ.ef (.tup [f,o])))) (κ.cQ (qf fu fp d0 fy (.Y v))):=by cbv
theorem aie:cq (U d) 199 (bX 1213 10) (qf fu fp d0 fy (.Y aid)) κ=lm 2 (κ.ef (.tup [.none,fy])):=by cbv
theorem aif:cq (U d) 199 (bX 1213 10) (qf fu fp d0 fy) κ=lm 2 (κ.ef (.tup [.none,fy])):=by cbv
def gZ(a f j h e g:J)(k d b c i:d6:=.un):Loc:=[(x4,.Y a),(HX,.Y f),(O0,.Y j),(Bq,.Y h),(OY,.Y e),(H7,.Y g),(aap,k),(OX,d),(OK,b),(gV,c),(ZT,i),(Bp,.gl (.typ "range")),(ZM,.gl (.glob 1194)),(OF,.gl (.glob 1187)),(tx,.gl (.blt "len")),(ZN,.gl (.glob 1213))]
theorem aii:U (d+1) 1220 [Kf,iJ] k=lm 0 (eX (.list []) λb=>eX (.ki []) λa=>lm 4 (hu 4 (cq (U d) 199 (bX 1220 10) (gZ Kf iJ b a (.int 0) .none) (cD.top k)))):=by cbv
theorem aij:cq (U d) 199 (bX 1220 10) (gZ fu d2 fy fh fp d0) κ=nv (.typ "range") [.int 3000] λa b=>forL a (eG (U d) 197 (dS (bX 1220 10))) (gc (U d) 198 (bX 1220 100) κ) b (gZ fu d2 fy fh fp d0):=by cbv
theorem Q7:cq (U d) 195 (bX 1220 10300) (gZ fu d2 fy fh fp d0 (.Y ka) (.Y jm) (.Y iF)) κ=cp .IsNot d0 .none λa=>b6 a (cq (U d) 193 (bX 1220 103001) (gZ fu d2 fy fh fp d0 (.Y ka) (.Y jm) (.Y iF)) (gc (U d) 194 (bX 1220 103000) κ)) (cq (U d) 194 (bX 1220 103000) (gZ fu d2 fy fh fp d0 (.Y ka) (.Y jm) (.Y iF)) κ):=by cbv
theorem Q8:cq (U d) 195 (bX 1220 10300) (gZ fu d2 fy fh fp d0 (.Y ka) (.Y jm) (.Y iF) (.Y n1) (.Y wJ)) κ=cp .IsNot d0 .none λa=>b6 a (cq (U d) 193 (bX 1220 103001) (gZ fu d2 fy fh fp d0 (.Y ka) (.Y jm) (.Y iF) (.Y n1) (.Y wJ)) (gc (U d) 194 (bX 1220 103000) κ)) (cq (U d) 194 (bX 1220 103000) (gZ fu d2 fy fh fp d0 (.Y ka) (.Y jm) (.Y iF) (.Y n1) (.Y wJ)) κ):=by cbv
theorem Q9:cq (U d) 195 (bX 1220 10300) (gZ fu d2 fy fh fp d0 (.Y ka) (.Y jm) (.Y iF) (.Y n1)) κ=cp .IsNot d0 .none λa=>b6 a (cq (U d) 193 (bX 1220 103001) (gZ fu d2 fy fh fp d0 (.Y ka) (.Y jm) (.Y iF) (.Y n1)) (gc (U d) 194 (bX 1220 103000) κ)) (cq (U d) 194 (bX 1220 103000) (gZ fu d2 fy fh fp d0 (.Y ka) (.Y jm) (.Y iF) (.Y n1)) κ):=by cbv
theorem aik:cq (U d) 193 (bX 1220 103001) (gZ fu d2 fy fh fp d0 (.Y ka) (.Y jm) (.Y iF)) κ=cl d (.glob 1213) [fu,fp,d0,fy] λb=>jC (U d) 191 (tupS (dS (bX 1220 103001))) b (gZ fu d2 fy fh fp d0 (.Y ka) (.Y jm) (.Y iF)) λa=>cq (U d) 192 (bX 1220 1030010) a κ:=by cbv
theorem ail:(jC (U d) 191 (tupS (dS (bX 1220 103001))) (.tup [t0,t1]) (gZ fu d2 fy fh fp d0 (.Y ka) (.Y jm) (.Y iF)) λg=>cq (U d) 192 (bX 1220 1030010) g κ)=hu 2 (cp .Is t0 .none λe=>b6 e ((λ(a:J->bT)=>cF d0 (.int 0) λh=>cp .Eq h (.str mc) λb=>b6 b (cF d0 (.int 1) λf=>lm 2 (a (.tup [.str gV,f]))) (a d0)) λc=>κ.ef c) (κ.cQ (gZ fu d2 t1 fh fp .none (.Y ka) (.Y jm) (.Y t0)))):=by cbv
theorem Q_:cq (U d) 194 (bX 1220 103000) (gZ fu d2 fy fh fp d0 (.Y ka) (.Y jm) (.Y iF)) κ=κ.cQ (gZ fu d2 fy fh iF d0 (.Y ka) (.Y jm) (.Y iF)):=by cbv
theorem aim:cq (U d) 193 (bX 1220 103001) (gZ fu d2 fy fh fp d0 (.Y ka) (.Y jm) (.Y iF) (.Y n1) (.Y wJ)) κ=cl d (.glob 1213) [fu,fp,d0,fy] λb=>jC (U d) 191 (tupS (dS (bX 1220 103001))) b (gZ fu d2 fy fh fp d0 (.Y ka) (.Y jm) (.Y iF) (.Y n1) (.Y wJ)) λa=>cq (U d) 192 (bX 1220 1030010) a κ:=by cbv
theorem ain:(jC (U d) 191 (tupS (dS (bX 1220 103001))) (.tup [t0,t1]) (gZ fu d2 fy fh fp d0 (.Y ka) (.Y jm) (.Y iF) (.Y n1) (.Y wJ)) λg=>cq (U d) 192 (bX 1220 1030010) g κ)=hu 2 (cp .Is t0 .none λe=>b6 e ((λ(a:J->bT)=>cF d0 (.int 0) λh=>cp .Eq h (.str mc) λb=>b6 b (cF d0 (.int 1) λf=>lm 2 (a (.tup [.str gV,f]))) (a d0)) λc=>κ.ef c) (κ.cQ (gZ fu d2 t1 fh fp .none (.Y ka) (.Y jm) (.Y t0) (.Y n1) (.Y wJ)))):=by cbv
theorem Ra:cq (U d) 194 (bX 1220 103000) (gZ fu d2 fy fh fp d0 (.Y ka) (.Y jm) (.Y iF) (.Y n1) (.Y wJ)) κ=κ.cQ (gZ fu d2 fy fh iF d0 (.Y ka) (.Y jm) (.Y iF) (.Y n1) (.Y wJ)):=by cbv
theorem aio:cq (U d) 193 (bX 1220 103001) (gZ fu d2 fy fh fp d0 (.Y ka) (.Y jm) (.Y iF) (.Y n1)) κ=cl d (.glob 1213) [fu,fp,d0,fy] λb=>jC (U d) 191 (tupS (dS (bX 1220 103001))) b (gZ fu d2 fy fh fp d0 (.Y ka) (.Y jm) (.Y iF) (.Y n1)) λa=>cq (U d) 192 (bX 1220 1030010) a κ:=by cbv
theorem aip:(jC (U d) 191 (tupS (dS (bX 1220 103001))) (.tup [t0,t1]) (gZ fu d2 fy fh fp d0 (.Y ka) (.Y jm) (.Y iF) (.Y n1)) λg=>cq (U d) 192 (bX 1220 1030010) g κ)=hu 2 (cp .Is t0 .none λe=>b6 e ((λ(a:J->bT)=>cF d0 (.int 0) λh=>cp .Eq h (.str mc) λb=>b6 b (cF d0 (.int 1) λf=>lm 2 (a (.tup [.str gV,f]))) (a d0)) λc=>κ.ef c) (κ.cQ (gZ fu d2 t1 fh fp .none (.Y ka) (.Y jm) (.Y t0) (.Y n1)))):=by cbv
theorem Rb:cq (U d) 194 (bX 1220 103000) (gZ fu d2 fy fh fp d0 (.Y ka) (.Y jm) (.Y iF) (.Y n1)) κ=κ.cQ (gZ fu d2 fy fh iF d0 (.Y ka) (.Y jm) (.Y iF) (.Y n1)):=by cbv
theorem aiq:U (d+1) 1227 [] k=lm 0 (eX (.list []) λc=>eX (.iM []) λa=>eX (.eJ [(mC,c),(ri,a),(nJ,.none)]) λb=>k b):=by cbv
theorem air:U (d+1) 1234 [Ae] k=mv Ae .none (.int 40) λao=>lm 3 (eX (.list [ao,.int 0,.int 0]) λm=>cl d (.blt "len") [Ae] λW=>d4 .FloorDiv W (.int 5) λbd=>cl d (.blt "min") [.int 2,bd] λI=>d4 .Add (.int 1) I λw=>lm 2 (hu 2 (cl d (.glob 1175) [m,w,.bool ag,.bool ag] λH=>cl d (.glob 1165) [m] λN=>lm 2 (lm 1 (cl d (.glob 483) [.str mB,.tup [.lst [H,N]]] λe=>cl d (.glob 1227) [] λc=>cl d (.glob 1227) [] λa=>lm 2 (hu 2 (cl d (.glob 1201) [e,c] λb=>cF b (.int 0) λC=>cp .Eq C (.str mc) λap=>b6 ap (cF b (.int 1) λbV=>lm 2 (eX (.eJ [(mB,.glob 1137),(rd,.glob 1109),(rc,.glob 1116),(pR,.glob 1144),(su,.glob 1123),(pS,.glob 1130),(tw,.glob 300)]) λf=>methP f x6 λr=>eX (.eJ [(pX,.glob 307),(kJ,.glob 342),(oj,.glob 314),(o3,.glob 321)]) λA=>cl d r.1 (r.2++[A]) λb7=>methP f x6 λj=>eX (.eJ [(mc,.glob 328),(nN,.glob 335)]) λv=>cl d j.1 (j.2++[v]) λb5=>cl d (.glob 1086) [f] λu=>cB d u x4 [e,.str mb] λa1=>cl d (.glob 1220) [a1,a] λF=>(λ(g:J->bT)=>cp .Eq F (.tup [.str gV,bV]) λs=>g6 (.bool s) λD=>b6 D (cF a (.str mC) λX=>cF c (.str mC) λR=>cp .Eq X R λp=>g6 (.bool p) λbY=>b6 bY (cF a (.str nJ) λV=>cp .Is V .none λt=>g (.bool t)) (g (.bool p))) (g (.bool s))) λE=>k E)) (eX (.eJ [(mB,.glob 1137),(rd,.glob 1109),(rc,.glob 1116),(pR,.glob 1144),(su,.glob 1123),(pS,.glob 1130),(tw,.glob 300)]) λh=>methP h x6 λq=>eX (.eJ [(pX,.glob 307),(kJ,.glob 342),(oj,.glob 314),(o3,.glob 321)]) λy=>cl d q.1 (q.2++[y]) λb2=>methP h x6 λn=>eX (.eJ [(mc,.glob 328),(nN,.glob 335)]) λY=>cl d n.1 (n.2++[Y]) λca=>cl d (.glob 1086) [h] λS=>cB d S x4 [e,.str mb] λx=>cl d (.glob 1220) [x,a] λa2=>(λ(i:J->bT)=>cp .Eq a2 b λo=>g6 (.bool o) λG=>b6 G (cF a (.str mC) λZ=>cF c (.str mC) λz=>cp .Eq Z z λl=>g6 (.bool l) λbZ=>b6 bZ (cF a (.str nJ) λL=>cp .Is L .none λQ=>i (.bool Q)) (i (.bool l))) (i (.bool o))) λM=>k M)))))))):=by cbv
structure kx where
 d:Nat
 κ:cD
 code:J
 env:J
 stack:J
 slots:J
 Ct:J
 way:J
 v:J
 row:J
 u:J
 eR:d6
 eA:d6
def kx.go(f:kx)(stack way u:J)(a b:d6):bT:=cq (U f.d) 195 (bX 1220 10300) (gZ f.code f.env stack f.slots f.Ct way (.Y f.v) (.Y f.row) (.Y u) a b) f.κ
def aiu(f:kx):bT:=b4 f.row hR λa=>lm 2 (f.κ.ef (.tup [.str aau,a]))
def Rf(f:kx):bT:=b4 f.row hR λb=>cp .Eq b (.str tu) λc=>b6 c (cB f.d f.stack ic [] λa=>f.go f.stack a f.u f.eR f.eA) (aiu f)
def Rg(f:kx):bT:=b4 f.row hR λe=>cp .Eq e (.str Eo) λa=>b6 a (b4 f.row lu λb=>cB f.d f.stack ic [] λc=>lm 2 (f.go f.stack (.tup [b,c]) f.u f.eR f.eA)) (Rf f)
def Rh(f:kx):bT:=b4 f.row hR λc=>cp .Eq c (.str vY) λa=>b6 a (cB f.d f.stack ic [] λb=>lm 2 (f.κ.ef (.tup [.str gV,b]))) (Rg f)
def Ri(f:kx):bT:=b4 f.row hR λk=>lm 2 (cp .In k (.tup [.str o2,.str sv]) λo=>b6 o (cB f.d f.stack ic [] λa=>(λ(b:J->bT)=>(λ(c:J->bT)=>cp .IsNot a .none λe=>g6 (.bool e) λm=>b6 m (cp .IsNot a (.bool ag) λi=>c (.bool i)) (c (.bool e))) λh=>b4 f.row hR λg=>cp .Eq g (.str o2) λp=>cp .Eq h (.bool p) λj=>b6 j (b4 f.row lu λl=>b l) (b f.u)) λn=>f.go f.stack f.way n (.Y a) f.eA) (Rh f))
def Rj(f:kx):bT:=b4 f.row hR λa=>cp .Eq a (.str mZ) λb=>b6 b (b4 f.row lu λc=>f.go f.stack f.way c f.eR f.eA) (Ri f)
def Rk(f:kx):bT:=b4 f.row hR λe=>cp .Eq e (.str re) λg=>b6 g (cl f.d (.blt "len") [f.stack] λc=>b4 f.row lu λa=>d4 .Sub c a λi=>mv f.stack .none i λb=>cl f.d (.blt "len") [f.stack] λk=>b4 f.row lu λh=>d4 .Sub k h λm=>mv f.stack m .none λl=>lm 1 (d4 .Add b (.lst [l]) λj=>f.go j f.way f.u f.eR f.eA)) (Rj f)
def Fl(f:kx)(a b:J)(m:J×List J)(r:J):bT:=cl f.d m.1 (m.2++[r]) λc=>f.go f.stack f.way f.u (.Y a) (.Y b)
def Rl(f:kx)(a b:J)(m:J×List J):bT:=b4 f.row lu λc=>cl f.d (.glob 1187) [f.env,c,a] λe=>Fl f a b m e
def Rm(f:kx)(a b:J)(m:J×List J):bT:=b4 f.row lu λg=>cp .Eq g (.str H6) λe=>b6 e (cl f.d (.glob 1194) [b,a] λc=>Fl f a b m c) (Rl f a b m)
def aiT(f:kx)(a b:J):bT:=lm 2 (cF (.lst [.str sn,.str so]) a λc=>lm 2 (f.go f.stack (.tup [.str v3,c]) f.u (.Y a) (.Y b)))
def Fm(f:kx)(a b:J):bT:=b4 f.row lu λc=>cp .Eq c (.str Bm) λd=>b6 d (aiT f a b) (methP f.stack kt λm=>Rm f a b m)
def Rn(f:kx):bT:=b4 f.row hR λb=>cp .Eq b (.str qE) λc=>b6 c (cB f.d f.stack ic [] λe=>cB f.d f.stack ic [] λa=>lm 2 (hu 2 (Fm f e a))) (Rk f)
def Ro(f:kx):bT:=b4 f.row hR λb=>cp .Eq b (.str sq) λc=>b6 c (methP f.stack kt λa=>cB f.d f.stack ic [] λe=>cF e (.int 1) λg=>cl f.d a.1 (a.2++[g]) λh=>f.go f.stack f.way f.u f.eR f.eA) (Rn f)
def Rq(f:kx):bT:=b4 f.row hR λb=>cp .Eq b (.str qF) λc=>b6 c (cB f.d f.stack ic [] λa=>lJ f.env (.str nJ) a (f.go f.stack f.way f.u f.eR f.eA)) (Ro f)
def Rr(f:kx):bT:=b4 f.row hR λc=>cp .Eq c (.str pV) λb=>b6 b (methP f.stack kt λa=>cF f.env (.str nJ) λe=>cl f.d a.1 (a.2++[e]) λg=>f.go f.stack f.way f.u f.eR f.eA) (Rq f)
def Ru(f:kx):bT:=b4 f.row hR λe=>cp .Eq e (.str lx) λh=>b6 h (methP f.stack kt λb=>methP f.slots x5 λa=>b4 f.row lu λi=>b4 f.row uA λc=>lm 2 (cl f.d a.1 (a.2++[.tup [i,c]]) λg=>cl f.d b.1 (b.2++[g]) λj=>f.go f.stack f.way f.u f.eR f.eA)) (Rr f)
def Rx(f:kx):bT:=b4 f.row hR λg=>cp .Eq g (.str md) λa=>b6 a (cB f.d f.stack ic [] λb=>b4 f.row lu λc=>b4 f.row uA λe=>lm 2 (lJ f.slots (.tup [c,e]) b (f.go f.stack f.way f.u f.eR f.eA))) (Ru f)
def Ry(f:kx):bT:=b4 f.row hR λa=>cp .Eq a (.str i4) λb=>b6 b (cB f.d f.stack kt [.str i4] λc=>f.go f.stack f.way f.u f.eR f.eA) (Rx f)
def Rz(f:kx):bT:=b4 f.row hR λb=>cp .Eq b (.str pU) λc=>b6 c (methP f.stack kt λa=>uz (.int 1) λe=>cF f.stack e λg=>cl f.d a.1 (a.2++[g]) λh=>f.go f.stack f.way f.u f.eR f.eA) (Ry f)
def RB(f:kx):bT:=b4 f.row hR λb=>cp .Eq b (.str ic) λa=>b6 a (cB f.d f.stack ic [] λc=>f.go f.stack f.way f.u f.eR f.eA) (Rz f)
def n2(f:kx):bT:=b4 f.row hR λc=>lm 2 (cp .In c (.tup [.str k4,.str ma]) λb=>b6 b (methP f.stack kt λa=>b4 f.row lu λe=>cl f.d a.1 (a.2++[e]) λg=>f.go f.stack f.way f.u f.eR f.eA) (RB f))
def Cx(d:Nat)(κ:cD)(b f k l a c v:J)(g i:d6):bT:=b4 b ly λe=>cF e a λj=>d4 .Add a (.int 1) λh=>lm 2 (hu 2 (n2 ⟨d,κ,b,f,k,l,a,c,v,j,h,g,i⟩))
inductive tV:d6->d6->d6->d6->d6->Prop
 |a:tV .un .un .un .un .un
 |b (x y z):tV (.Y x) (.Y y) (.Y z) .un .un
 |c (x y z p):tV (.Y x) (.Y y) (.Y z) (.Y p) .un
 |d (x y z p q):tV (.Y x) (.Y y) (.Y z) (.Y p) (.Y q)
theorem ajl(d:Nat)(κ:cD)(f g i j h e v a b c p q:J):eG (U d) 197 (dS (bX 1220 10)) v (gZ f g i j h e .un .un .un .un .un) κ=Cx d κ f g i j h e v .un .un:=by cbv
theorem ajm(d:Nat)(κ:cD)(f g i j h e v a b c p q:J):eG (U d) 197 (dS (bX 1220 10)) v (gZ f g i j h e (.Y a) (.Y b) (.Y c)) κ=Cx d κ f g i j h e v .un .un:=by cbv
theorem ajn(d:Nat)(κ:cD)(f g i j h e v a b c p q:J):eG (U d) 197 (dS (bX 1220 10)) v (gZ f g i j h e (.Y a) (.Y b) (.Y c) (.Y p)) κ=Cx d κ f g i j h e v (.Y p) .un:=by cbv
theorem ajo(d:Nat)(κ:cD)(f g i j h e v a b c p q:J):eG (U d) 197 (dS (bX 1220 10)) v (gZ f g i j h e (.Y a) (.Y b) (.Y c) (.Y p) (.Y q)) κ=Cx d κ f g i j h e v (.Y p) (.Y q):=by cbv
theorem ajp(m:tV dh dO ig eR eA)(d:Nat)(κ:cD)(f h j e i g v:J):eG (U d) 197 (dS (bX 1220 10)) v (gZ f h j e i g dh dO ig eR eA) κ=Cx d κ f h j e i g v eR eA:=by
 cases m with
 |a=>exact ajl d κ f h j e i g v .none .none .none .none .none
 |b x y k=>exact ajm d κ f h j e i g v x y k .none .none
 |c x y k l=>exact ajn d κ f h j e i g v x y k l .none
 |d x y k l n=>exact ajo d κ f h j e i g v x y k l n
inductive mi:d6->d6->Prop
 |a:mi .un .un
 |c p:mi (.Y p) .un
 |d (p q):mi (.Y p) (.Y q)
theorem tV.two(m:tV dh dO ig eR eA):mi eR eA:=by
 cases m with
 |a=>exact .a
 |b x y f=>exact .a
 |c x y f e=>exact .c e
 |d x y f e g=>exact .d e g
theorem mi.full(m:mi eR eA)(x y z:J):tV (.Y x) (.Y y) (.Y z) eR eA:=by
 cases m with
 |a=>exact .b x y z
 |c e=>exact .c x y z e
 |d e f=>exact .d x y z e f
theorem mi.one(m:mi eR eA)(p:J):mi (.Y p) eA:=by
 cases m with
 |a=>exact .c p
 |c _=>exact .c p
 |d _ b=>exact .d p b
section
variable{H:bW}{eR eA:d6}{d:Nat}{κ:cD}{code env stack slots Ct way step row wL:J}
theorem ajq(m:mi eR eA)(h:κ.cQ (gZ code env stack slots wL .none (.Y step) (.Y row) (.Y wL) eR eA) H):
  cq (U d) 195 (bX 1220 10300) (gZ code env stack slots Ct .none (.Y step) (.Y row) (.Y wL) eR eA) κ H:=by
 cases m with
 |a=>rw[Q7];refine mH (b:=af) B (c6 ?_);rw[Q_];exact h
 |c e=>rw[Q9];refine mH (b:=af) B (c6 ?_);rw[Rb];exact h
 |d e f=>rw[Q8];refine mH (b:=af) B (c6 ?_);rw[Ra];exact h
theorem KC(h:cF o i k H)(m:∀v,k v H->k' v H):cF o i k' H:=by
 cases h with
 |seq l g n v a b c d e f=>exact .seq l g n v a b c d e (m v f)
 |iM a j g v b c d e f=>exact .iM a j g v b c d e (m v f)
 |eJ a j g v b c d e f=>exact .eJ a j g v b c d e (m v f)
 |jA v a f=>exact .jA v a (m v f)
theorem RC(m:mi eR eA)(Q:J->J->bW->Prop)(h:∀k:cZ,(∀f t1 g,Q f t1 g->k (.tup [f,t1]) g)->cl d (.glob 1213) [code,Ct,.tup ws,stack] k H)(o:∀f t1 g,Q f t1 g->∃b,mu f .none=ae b/\match b with
   |true=>(cF (.tup ws) (.int 0) λp=>cp .Eq p (.str mc) λq=>b6 q (λ_=>False) (κ.ef (.tup ws))) g
   |false=>κ.cQ (gZ code env t1 slots f .none (.Y step) (.Y row) (.Y f) eR eA) g):
  cq (U d) 195 (bX 1220 10300) (gZ code env stack slots Ct (.tup ws) (.Y step) (.Y row) (.Y wL) eR eA) κ H:=by
 cases m with
 |a=>
  rw[Q7];refine mH (b:=ag) B (dI ?_);rw[aik];refine h _ λf t1 g n=>?_;obtain⟨b,e,j⟩:=o f t1 g n;rw[ail];refine gR (is_none e ?_);cases b with
  |true=>exact KC j λr⟨c,l,i⟩=>⟨c,l,by cases c<;>first|exact i|exact i.elim⟩
  |false=>refine c6 ?_;simp only[gc,Q_];exact j
 |c s=>
  rw[Q9];refine mH (b:=ag) B (dI ?_);rw[aio];refine h _ λf t1 g n=>?_;obtain⟨b,e,j⟩:=o f t1 g n;rw[aip];refine gR (is_none e ?_);cases b with
  |true=>exact KC j λr⟨c,l,i⟩=>⟨c,l,by cases c<;>first|exact i|exact i.elim⟩
  |false=>refine c6 ?_;simp only[gc,Rb];exact j
 |d s t=>
  rw[Q8];refine mH (b:=ag) B (dI ?_);rw[aim];refine h _ λf t1 g n=>?_;obtain⟨b,e,j⟩:=o f t1 g n;rw[ain];refine gR (is_none e ?_);cases b with
  |true=>exact KC j λr⟨c,l,i⟩=>⟨c,l,by cases c<;>first|exact i|exact i.elim⟩
  |false=>refine c6 ?_;simp only[gc,Ra];exact j
end
section
theorem ajr{k:Bool->bT}{x y:Int}(h:k (decide (x<=y)) H):cp .LtE (.int x) (.int y) k H:=⟨_,B,h⟩
section
theorem ajs(h:k (.str (nV c.dZ)) H):b4 (iH c) pW k H:=kH B B h
theorem ajt(h:k (.int c.first) H):b4 (iH c) iB k H:=kH B B h
theorem aju(h:k (.int c.last) H):b4 (iH c) nL k H:=kH B B h
theorem ajv(h:k (.int c.nU) H):b4 (iH c) nO k H:=kH B B h
theorem ajw(h:k (.int c.h) H):b4 (iH c) pT k H:=kH B B h
end
section
theorem ajx(h:k (.lst rows) H):b4 (qS nm names rows dH) ly k H:=kH B B h
theorem ajy(h:k (.lst dH) H):b4 (qS nm names rows dH) om k H:=kH B B h
end
theorem eq_true{k:Bool->bT}(e:∀H,kk H (.str a) (.str b)=ae af)(h:k af H):cp .Eq (.str a) (.str b) k H:=⟨af,e H,h⟩
theorem eq_false{k:Bool->bT}(e:∀H,kk H (.str a) (.str b)=ae ag)(h:k ag H):cp .Eq (.str a) (.str b) k H:=⟨ag,e H,h⟩
theorem ajz{k:Bool->bT}{e:Bool}(h:k e H):cp .Eq (.str (nV e)) (.str vX) k H:=by
 induction e using aS
 .exact ⟨ag,by cbv,h⟩
 .exact ⟨af,by cbv,h⟩
theorem RD(h:k (.str v3) H):cF (gb e) (.int 0) k H:=by exact zw (i:=0) (ay B) B B h
noncomputable def Cy(st a b:ai)(vs:List J)(n:Nat)(w:J)(H:bW):bW:=(H.set a (.list (vs.take n))).set b (.list (vs.take n++[w]))
theorem ajA{c:rK}{e:Bool}{st:ai}{vs:List J}{κ:cD}(hs:H st=ae (.list vs))(l:vs.length<=100000)(h0:0<=c.h)(h1:c.h.toNat<=vs.length)(k:∀a b,H a=ah->(H.set a (.list (vs.take c.h.toNat))) b=ah->κ.ef (.tup [.int c.nU,.ref b]) (Cy st a b vs c.h.toNat (gb e) H)):
  (b4 (iH c) nO λf=>b4 (iH c) pT λm=>mv (.ref st) .none m λi=>lm 1 (d4 .Add i (.lst [gb e]) λj=>lm 2 (κ.ef (.tup [f,j])))) H:=by
 refine ajv (ajw ⟨vs,0,c.h.toNat,?_,by exact fa l B,B,?_,λa d=>?_⟩)
 .exact kj hs
 .show (if _ then ae (clamp ..)else ah)=_;rw[if_pos (by lia)];unfold clamp;rw[if_pos h0,anp h1]
 .rw [apf];refine c7 B (qt.lst (vs.take c.h.toNat) [gb e] B ?_ B ?_ λb g=>?_)
  .exact kj (bW.set_same ..)
  .rw [apB];simp;lia
  .exact c7 B (k a b d g)
theorem RE{e:Bool}{st:ai}{vs:List J}{s:Nat}{code:J}{κ:cD}{src:bT}(v:src H)(hs:H st=ae (.list vs))(l:vs.length<=100000):
  ∀(a:List rK)(n:d6),(n=.un\/∃u,n=.Y u)->(∀t h,lD a s=ae (t,h)->0<=h/\h.toNat<=vs.length/\∀o r,H o=ah->(H.set o (.list (vs.take h.toNat))) r=ah->κ.ef (.tup [.int t,.ref r]) (Cy st o r vs h.toNat (gb e) H))->
   (lD a s=ah->∀n,(n=.un\/∃u,n=.Y u)->κ.cQ (qf code (.int s) (gb e) (.ref st) n) H)->
   forL src (eG (U d) 198 (dS (bX 1213 1))) κ (a.map iH) (qf code (.int s) (gb e) (.ref st) n) H
 |[]=>λn b j k=>JN v (k B n b)
 |c::a=>λn b j k=>by
  refine tT v ?_;have w:¬(c.first<=s/\s<c.last)->forL src (eG (U d) 198 (dS (bX 1213 1))) κ (a.map iH) (qf code (.int s) (gb e) (.ref st) (.Y (iH c))) H:=λy=>by have p:lD (c::a) s=lD a s:=if_neg y;rw[p]at j k;exact RE v hs l a _ (.inr ⟨_,B⟩) j k
  have body:∀f:cD,f.ef=κ.ef->((¬(c.first<=s/\s<c.last))->f.cQ (qf code (.int s) (gb e) (.ref st) (.Y (iH c))) H)->((λ(q:Bool->bT)=>b4 (iH c) iB λR=>(λ(x:Bool->bT)=>cp .LtE R (.int s) λL=>b6 L (b4 (iH c) nL λI=>cp .Lt (.int s) I λW=>x W) (x ag)) λao=>b6 ao ((λ(m:Bool->bT)=>b4 (iH c) pW λM=>cp .Eq M (.str vX) λD=>b6 D (m af) (cF (gb e) (.int 0) λS=>cp .Eq S (.str v3) λX=>b6 X (m af) (m ag))) λN=>b6 N (q af) (q ag)) (q ag)) λC=>b6 C (b4 (iH c) nO λz=>b4 (iH c) pT λV=>mv (.ref st) .none V λQ=>lm 1 (d4 .Add Q (.lst [gb e]) λG=>lm 2 (f.ef (.tup [z,G])))) (f.cQ (qf code (.int s) (gb e) (.ref st) (.Y (iH c))))) H:=λf A b=>by
   rw[A];refine ajt (ajr ?_);by_cases g:c.first<=s
   .rw [decide_eq_true (g0 g)];refine dI (aju (QZ ?_));by_cases i:s<c.last
    .rw [decide_eq_true (vw i)];have p:lD (c::a) s=ae (c.nU,c.h):=if_pos ⟨g,i⟩;refine iw (j _ _ p) λZ F E=>?_;have hit:=ajA (κ:=κ) hs l Z F E;refine dI (ajs (ajz ?_));cases c.dZ with
     |true=>exact dI (dI (dI hit))
     |false=>exact c6 (RD (eq_true (λH=>by cbv) (dI (dI (dI hit)))))
    .rw [decide_eq_false (by(simp+arith at i⊢;exact i))];exact c6 (c6 (b λh=>i h.2))
   .rw [decide_eq_false (by(simp+arith at g⊢;exact g))];exact c6 (c6 (c6 (b λh=>g h.1)))
  rcases b with rfl|⟨u,rfl⟩
  .rw [aib];exact body _ B w
  .rw [aic];exact body _ B w
theorem RF{e:Bool}{st:ai}{vs:List J}{s:Nat}{nm:J}{names g:List J}{a:List rK}(hs:H st=ae (.list vs))(l:vs.length<=100000)(lc:a.length<=1000000)
  (h1:∀t h,lD a s=ae (t,h)->0<=h/\h.toNat<=vs.length/\∀b c,H b=ah->(H.set b (.list (vs.take h.toNat))) c=ah->k (.tup [.int t,.ref c]) (Cy st b c vs h.toNat (gb e) H))
  (h2:lD a s=ah->k (.tup [.none,.ref st]) H):U (d+1) 1213 [qS nm names g (a.map iH),.int s,gb e,.ref st] k H:=by
 rw[ah6,aia];refine ajy (n0 (by simp;exact fa lc B) ?_);refine RE (src:=λi=>iO i (.lst (a.map iH))=iO H (.lst (a.map iH))) (κ:=gc (U d) 199 (bX 1213 10) (cD.top k)) (s:=s) (e:=e) B hs l a .un (.inl B) h1 λf n j=>?_;show(cq _ _ _ _ _) _;rcases j with rfl|⟨m,rfl⟩
 .rw [aif];exact c7 B (h2 f)
 .rw [aie];exact c7 B (h2 f)
end
noncomputable def sX:List (Option J)->List J->Prop
 |[],[]=>True
 |x::s,v::r=>(∀a,x=ae a->v=a)/\sX s r
 |_,_=>False
theorem sX.len:∀{s r},sX s r->s.length=r.length
 |[],[],_=>rfl
 |_::_,_::_,h=>by simp[sX.len h.2]
theorem sX.drop:∀(n:Nat){s r},sX s r->sX (s.drop n) (r.drop n)
 |0,_,_,h=>h
 |n+1,[],[],h=>h
 |n+1,_::_,_::_,h=>sX.drop n h.2
noncomputable def qg(es:List (Int×Int)):List (Int×J):=es.map λa=>(a.1,J.int a.2)
theorem KE(id:Int):∀es,jr id (qg es)=(jr id es).map J.int
 |[]=>rfl
 |(y,u)::r=>by show(if y=id then ae (J.int u)else jr id (qg r))=aoD J.int (if y=id then ae u else jr id r);refine(KE id r)▸?_;split<;>rfl
theorem RG(id v:Int):∀es,lp id (J.int v) (qg es)=qg (lp id v es)
 |[]=>rfl
 |(y,u)::r=>by show(if y=id then(y,J.int v)::qg r else(y,J.int u)::lp id (J.int v) (qg r))=qg (if y=id then(y,v)::r else(y,u)::lp id v r);rw[RG id v r];split<;>rfl
noncomputable def Af(a cb:ai)(e:Option Bool):List (Str×J):=[(mC,.ref a),(ri,.ref cb),(nJ,mz e)]
noncomputable def KF:hg->Nat
 |.list _=>0
 |.inst _ _=>1
 |.eJ _=>2
 |.iM _=>3
 |.ki _=>4
theorem qy{H:bW}{a b:ai}{o c:hg}(x:H a=ae o)(y:H b=ae c)(n:(KF o==KF c)=ag):a≠b:=
 λe=>d8 (n.symm.trans (beq_iff_eq.mpr (congrArg KF (aC.inj (x.symm.trans ((congrArg H e).trans y))))))
structure eo(bZ cc cb:ai)(E:Env)(H:bW):Prop where
 bZ:H bZ=ae (.eJ (Af cc cb E.err))
 cc:H cc=ae (.list E.told)
 cb:H cb=ae (.iM (qg E.gy))
theorem eo.set{c b cb E H}(h:eo c b cb E H)(d:a≠c)(f:a≠b)(e:a≠cb):eo c b cb E (H.set a o):=
 ⟨(bW.el _ _ (Ne.symm d)).trans h.bZ,(bW.el _ _ (Ne.symm f)).trans h.cc,(bW.el _ _ (Ne.symm e)).trans h.cb⟩
theorem eo.Fn{b a cb E H}(h:eo b a cb E H):b≠a:=qy h.bZ h.cc B
theorem eo.RH{a b cb E H}(h:eo a b cb E H):a≠cb:=qy h.bZ h.cb B
theorem eo.RI{b a cb E H}(h:eo b a cb E H):a≠cb:=qy h.cc h.cb B
theorem eo.say{b a cb E H}(h:eo b a cb E H)(c:Str)(v:J):eo b a cb (E.say c v) (H.set a (.list (E.told++[.tup [.str c,v]]))):=
 ⟨(bW.el _ _ h.Fn).trans h.bZ,bW.set_same ..,(bW.el _ _ (Ne.symm h.RI)).trans h.cb⟩
theorem eo.tick{b a cb E H}(h:eo b a cb E H)(id:Int):eo b a cb (E.tick id) (H.set cb (.iM (qg (lp id (E.cnt id) E.gy)))):=
 ⟨(bW.el _ _ h.RH).trans h.bZ,(bW.el _ _ h.RI).trans h.cc,bW.set_same ..⟩
theorem eo.err{b a cb E H}(h:eo b a cb E H)(e:Option Bool):eo b a cb (E.iS e) (H.set b (.eJ (Af a cb e))):=
 ⟨bW.set_same ..,(bW.el _ _ (Ne.symm h.Fn)).trans h.cc,(bW.el _ _ (Ne.symm h.RH)).trans h.cb⟩
section
variable{H:bW}{d:Nat}{k:cZ}{p:bT}{bZ cc cb:ai}{E:Env}
theorem Fo(h:eo bZ cc cb E H)(a:k (.ref cc) H):cF (.ref bZ) (.str mC) k H:=Eb h.bZ B a
theorem KG(h:eo bZ cc cb E H)(a:k (.ref cb) H):cF (.ref bZ) (.str ri) k H:=Eb h.bZ B a
theorem Fp(h:eo bZ cc cb E H)(a:k (mz E.err) H):cF (.ref bZ) (.str nJ) k H:=Eb h.bZ B a
theorem KH(h:eo bZ cc cb E H)(a:p (H.set bZ (.eJ (Af cc cb e)))):lJ (.ref bZ) (.str nJ) (mz e) p H:=by
 refine .eJ bZ _ nJ B B h.bZ (by simp[Af]) ?_;have:put nJ (mz e) (Af cc cb E.err)=Af cc cb e:=by cbv
 exact this▸a
theorem Fq(id v:Int):∀es:List (Int×Int),jr id (lp id v es)=ae v
 |[]=>if_pos B
 |(y,_)::r=>(aoE (y=id)).elim (λe=>(congrArg (jr id) (if_pos e)).trans (if_pos e)) λe=>(congrArg (jr id) (if_neg e)).trans ((if_neg e).trans (Fq id v r))
theorem rO(id:Int)(v:α):∀es:List (Int×α),(lp id v es).length<=es.length+1
 |[]=>av 1
 |(y,_)::r=>(aoE (y=id)).elim (λe=>aq (ak (congrArg aln (if_pos e))) (bz _)) λe=>aq (ak (congrArg aln (if_neg e))) (ano (rO id v r))
theorem ajB(h:H a=ae (.iM es))(b:k ((jr j es).getD df) H):cB d (.ref a) x5 [.int j,df] k H:=by
 refine .AK a es B h B ?_
 .exact .AK a _ _ es B B h b
theorem ajC(h:H a=ae (.iM es))(l:es.length<=16000000)(b:p (H.set a (.iM (lp j u es)))):lJ (.ref a) (.int j) u p H:=by exact .iM a es j B B h l b
theorem ajD(es:List (Int×Int)):(qg es).length=es.length:=by simp[qg]
theorem RJ{id:Int}(h:eo bZ cc cb E H)(l:E.gy.length<=1000000)(f:dX (.int (E.cnt id)) (H.set cb (.iM (qg (lp id (E.cnt id) E.gy))))):
  (cF (.ref bZ) (.str ri) λg=>cB d g x5 [.int id,.int 0] λc=>d4 .Add c (.int 1) λb=>cF (.ref bZ) (.str ri) λe=>lJ e (.int id) b (cF (.ref bZ) (.str ri) λi=>cF i (.int id) dX)) H:=by
 refine KG h (ajB h.cb ?_);rw[KE];have qx:((jr id E.gy).map J.int).getD (.int 0)=.int ((jr id E.gy).getD 0):=by cases jr id E.gy<;>rfl
 rw[qx];refine kv (KG h (ajC h.cb (by rw[ajD];exact fa l B) ?_));rw[RG];have a:=h.tick id;refine KG a (.iM cb _ id (.int (E.cnt id)) B B (bW.set_same ..) ?_ f);rw[KE];show aoD J.int (jr id (lp id (E.cnt id) E.gy))=_;rw[Fq];rfl
theorem RK{id:Int}(h:eo bZ cc cb E H)(l:E.gy.length<=1000000)(a:k (.bool (decide (E.cnt id<=id.fmod 10))) (H.set cb (.iM (qg (lp id (E.cnt id) E.gy))))):U (d+1) 1187 [.ref bZ,.str mA,.int id] k H:=by rw[Fk];refine eq_true (λH=>by cbv) (dI (RJ h l ?_));exact .mod id 10 B B B (by decide) (by decide) ⟨_,B,a⟩
theorem RL{id:Int}(h:eo bZ cc cb E H)(l:E.gy.length<=1000000)(a:k (.bool (decide (E.cnt id=1))) (H.set cb (.iM (qg (lp id (E.cnt id) E.gy))))):U (d+1) 1187 [.ref bZ,.str vU,.int id] k H:=by rw[Fk];refine eq_false (λH=>by cbv) (c6 (eq_true (λH=>by cbv) (dI (RJ h l ?_))));exact wi a
theorem RM{id:Int}(h:eo bZ cc cb E H)(l:E.told.length<=1000000)(a:k (.int id) (H.set cc (.list (E.told++[.tup [.str jh,.int id]])))):U (d+1) 1187 [.ref bZ,.str jh,.int id] k H:=by rw[Fk];refine eq_false (λH=>by cbv) (c6 (eq_false (λH=>by cbv) (c6 (Fo h (tI h.cc (c7 B (sK h.cc (fa l B) ?_)))))));exact eq_true (λH=>by cbv) (dI a)
theorem RN(h:eo bZ cc cb E H)(l:E.told.length<=1000000)(a:k .none (H.set cc (.list (E.told++[.tup [.str og,v]])))):U (d+1) 1187 [.ref bZ,.str og,v] k H:=by rw[Fk];refine eq_false (λH=>by cbv) (c6 (eq_false (λH=>by cbv) (c6 (Fo h (tI h.cc (c7 B (sK h.cc (fa l B) ?_)))))));exact eq_false (λH=>by cbv) (c6 a)
theorem ajE(a:name=zy\/∃b,name=iR b)(c:k (.bool (nameFits name e)) H):U (d+1) 1194 [.str name,.str (iR e)] k H:=by
 rw[ahJ];refine c7 B ⟨nameFits name e,?_,c⟩;rcases a with rfl|⟨b,rfl⟩
 .induction e using aS<;>cbv
 .induction b using aS<;>cases e<;>cbv
end
structure kb(K:ai->Prop)(i7:bW)(bZ cc cb st sl:ai)(b9:Nat)(cN:List J)(es:List ((Int×Int)×J))(E:Env)(H:bW):Prop where
 mL:H st=ae (.list cN.reverse)
 nD:H sl=ae (.ki es)
 ev:eo bZ cc cb E H
 dh:st≠cc
 dz:∀b,K b->H b=i7 b
 ep:¬K st
 gI:¬K sl
 cL:cN.length<=b9
 dx:es.length<=b9
 gK:E.told.length<=b9
 jV:E.gy.length<=b9
def Cz(sl:Int->Option J)(es:List ((Int×Int)×J)):Prop:=∀b a,sl b=ae a->nu (0,b) es=ae a
theorem RO(x:Int×Int)(v:α):∀es,nu x (r5 x v es)=ae v
 |[]=>if_pos B
 |(y,_)::r=>(aoE (y=x)).elim (λe=>(congrArg (nu x) (if_pos e)).trans (if_pos e)) λe=>(congrArg (nu x) (if_neg e)).trans ((if_neg e).trans (RO x v r))
theorem RP(v:α)(n:z≠x):∀es,nu z (r5 x v es)=nu z es
 |[]=>if_neg (Ne.symm n)
 |(y,u)::r=>(aoE (y=x)).elim (λe=>have c:¬y=z:=λa=>n (a.symm.trans e);(congrArg (nu z) (if_pos e)).trans ((if_neg c).trans (if_neg c).symm)) λe=>(congrArg (nu z) (if_neg e)).trans (congrArg (λa=>if y=z then ae u else a) (RP v n r))
theorem RQ(x:Int×Int)(v:α):∀es,(r5 x v es).length<=es.length+1
 |[]=>av 1
 |(y,_)::r=>(aoE (y=x)).elim (λe=>aq (ak (congrArg aln (if_pos e))) (bz _)) λe=>aq (ak (congrArg aln (if_neg e))) (ano (RQ x v r))
theorem Cz.upd(h:Cz sl es)(d:∀u,x=ae u->v=u):Cz (upd sl i x) (r5 (0,i) v es):=λa u e=>by
 unfold P.upd at e;by_cases c:a=i
 .rw [if_pos c]at e;rw[c,RO,d u e]
 .rw [if_neg c]at e;rw[RP v (λb=>c (by injection b))];exact h a u e
section
variable{K:ai->Prop}{i7 H:bW}{bZ cc cb st sl:ai}{b9 B':Nat}{cN lX:List J}{es:List ((Int×Int)×J)}{E b5:Env}
theorem kb.KI(m:kb K i7 bZ cc cb st sl b9 cN es E H):st≠sl/\st≠bZ/\st≠cb/\sl≠bZ/\sl≠cc/\sl≠cb:=by exact⟨qy m.mL m.nD B,qy m.mL m.ev.bZ B,qy m.mL m.ev.cb B,qy m.nD m.ev.bZ B,qy m.nD m.ev.cc B,qy m.nD m.ev.cb B⟩
theorem kb.zD(m:kb K i7 bZ cc cb st sl b9 cN es E H)(lX:List J)(l:lX.length<=B')(a:b9<=B'):kb K i7 bZ cc cb st sl B' lX es E (H.set st (.list lX.reverse)):=by exact jQ m.KI λd f g _=>⟨bW.set_same ..,(bW.el _ _ (Ne.symm d)).trans m.nD,m.ev.set f m.dh g,m.dh,λb c=>(bW.el _ _ (λe=>m.ep (by exact e▸c))).trans (m.dz b c),m.ep,m.gI,l,aq m.dx a,aq m.gK a,aq m.jV a⟩
theorem kb.ajF(m:kb K i7 bZ cc cb st sl b9 cN es E H)(c:List ((Int×Int)×J))(l:c.length<=B')(a:b9<=B'):kb K i7 bZ cc cb st sl B' cN c E (H.set sl (.ki c)):=by exact L9 m.KI λg _ _ h i f=>⟨(bW.el _ _ g).trans m.mL,bW.set_same ..,m.ev.set h i f,m.dh,λb d=>(bW.el _ _ (λe=>m.gI (by exact e▸d))).trans (m.dz b d),m.ep,m.gI,aq m.cL a,l,aq m.gK a,aq m.jV a⟩
theorem kb.env(m:kb K i7 bZ cc cb st sl b9 cN es E H)(t:eo bZ cc cb b5 (H.set a o))(c:a=bZ\/a=cc\/a=cb)(j:∀b,K b->b≠bZ/\b≠cc/\b≠cb)(n:b5.told.length<=B')(p:b5.gy.length<=B')(g:b9<=B'):kb K i7 bZ cc cb st sl B' cN es b5 (H.set a o):=by
 refine L9 m.KI λ_ s u r k l=>?_;have s1:st≠a:=λe=>by
  rcases c with h|h|h
  .exact s (e.trans h)
  .exact m.dh (e.trans h)
  .exact u (e.trans h)
 have s2:sl≠a:=λe=>by
  rcases c with h|h|h
  .exact r (e.trans h)
  .exact k (e.trans h)
  .exact l (e.trans h)
 refine⟨(bW.el _ _ s1).trans m.mL,(bW.el _ _ s2).trans m.nD,t,m.dh,λb d=>(bW.el _ _ (λe=>?_)).trans (m.dz b d),m.ep,m.gI,aq m.cL g,aq m.dx g,n,p⟩;refine iw (j b d) λf i q=>?_;rcases c with h|h|h
 .exact f (e.trans h)
 .exact i (e.trans h)
 .exact q (e.trans h)
theorem kb.RR(m:kb K i7 bZ cc cb st sl b9 cN es E H)(n:H a=ah)(h0:∀b,K b->i7 b≠ah)(lX:List J)(l:lX.length<=B')(d:b9<=B'):kb K i7 bZ cc cb a sl B' lX es E (H.set a (.list lX.reverse)):=by
 have ne:∀{b f},H b=ae f->b≠a:=λh e=>by rw[e,n]at h;exact cV h
 exact⟨bW.set_same ..,(bW.el _ _ (ne m.nD)).trans m.nD,m.ev.set (Ne.symm (ne m.ev.bZ)) (Ne.symm (ne m.ev.cc)) (Ne.symm (ne m.ev.cb)),Ne.symm (ne m.ev.cc),λb c=>(bW.el _ _ (λe=>h0 b c (by rw[<-m.dz b c,e];exact n))).trans (m.dz b c),λc=>h0 a c ((m.dz a c)▸n),m.gI,l,aq m.dx d,aq m.gK d,aq m.jV d⟩
theorem kb.other(m:kb K i7 bZ cc cb st sl b9 cN es E H)(n:H a=ah)(h0:∀b,K b->i7 b≠ah):kb K i7 bZ cc cb st sl b9 cN es E (H.set a o):=by
 have ne:∀{b o},H b=ae o->b≠a:=λh e=>by rw[e,n]at h;exact cV h
 exact⟨(bW.el _ _ (ne m.mL)).trans m.mL,(bW.el _ _ (ne m.nD)).trans m.nD,m.ev.set (Ne.symm (ne m.ev.bZ)) (Ne.symm (ne m.ev.cc)) (Ne.symm (ne m.ev.cb)),m.dh,λb c=>(bW.el _ _ (λe=>h0 b c (by rw[<-m.dz b c,e];exact n))).trans (m.dz b c),m.ep,m.gI,m.cL,m.dx,m.gK,m.jV⟩
end
section
theorem ajG(e:∀H,kk H (.str op) (.str s)=ae af)(h:X H):b4 (fS (.str op) a b c) hR (λu=>cp .Eq u (.str s) λc=>b6 c X hx) H:=sL ⟨af,e H,h⟩
theorem ajH(e:∀H,kk H (.str op) (.str s)=ae ag)(h:hx H):b4 (fS (.str op) a b c) hR (λu=>cp .Eq u (.str s) λc=>b6 c X hx) H:=sL ⟨ag,e H,h⟩
theorem ajI(e:∀H,oK H (.str op) (.tup us)=ae af)(h:X H):b4 (fS (.str op) a b c) hR (λu=>lm 2 (cp .In u (.tup us) λc=>b6 c X hx)) H:=sL (c7 B ⟨af,e H,h⟩)
theorem ajJ(e:∀H,oK H (.str op) (.tup us)=ae ag)(h:hx H):b4 (fS (.str op) a b c) hR (λu=>lm 2 (cp .In u (.tup us) λc=>b6 c X hx)) H:=sL (c7 B ⟨ag,e H,h⟩)
end
def wM:Res->J
 |.val a=>.tup [.str gV,a]
 |.fo e=>gb e
structure wN(R:Rows)(rows:List (g9 Nat))(dH:List rK):Prop where
 r:∀p r an,R p=ae (r,an)->rows[p]?=ae r/\an=lD dH p
 wE:rows.length<=900000
 lc:dH.length<=900000
noncomputable def ajK(d:Nat)(κ:cD)(ws:List J):cD:=⟨λa=>forL (λ_=>True) (eG (U d) 197 (dS (bX 1220 10))) κ ws a,κ.ef,λa=>κ.cQ a,λa=>forL (λ_=>True) (eG (U d) 197 (dS (bX 1220 10))) κ ws a⟩
section
variable{R:Rows}{rows:List (g9 Nat)}{dH:List rK}{K:ai->Prop}{i7:bW}{bZ cc cb rP:ai}{nm:J}{names:List J}{d:Nat}{κ:cD}
theorem wN.at_(C:wN R rows dH){p r}(h:At R p r):rows[p]?=ae r:=by obtain⟨an,h⟩:=h;exact(C.r _ _ _ h).1
theorem KJ(l:p<n):idx n (p:Int)=ae p:=by dsimp only[idx];rw[if_pos (aH _),if_pos (vw l),ape]
theorem ajL{p:Nat}(a:rows.length<=900000)(h:rows[p]?=ae r)(b:k (pg r) H):b4 (qS nm names (rows.map pg) (dH.map iH)) ly (λu=>cF u (.int p) k) H:=by refine ajx (oS (by simp;exact fa a B) (i:=p) (KJ (by have:=(anB.mp h).1;simpa using this)) (by rw[aoh,h];rfl) b)
theorem ajM(h:H a=ae (.ki es))(l:es.length<=16000000)(b:p (H.set a (.ki (r5 (0,i) u es)))):lJ (.ref a) (.tup [.int 0,.int i]) u p H:=by exact .ki a es (0,i) B B h l b
theorem ajN(h:H a=ae (.ki es))(b:k (.blt "dict.get",[.ref a]) H):methP (.ref a) x5 k H:=by exact .Mb a es B h B b
theorem ajO(h:H a=ae (.ki es))(b:k ((nu (0,i) es).getD .none) H):cl d (.blt "dict.get") [.ref a,.tup [.int 0,.int i]] k H:=.Mi a _ es _ B B h B b
theorem KL(h:k (.str (iR e)) H):cF (gb e) (.int 1) k H:=by exact zw (i:=1) (ay B) B B h
theorem RS(h:k (.str (iR b)) H):cF (.lst [.str sn,.str so]) (.int (if b then 1 else 0)) k H:=by
 cases b with
 |true=>exact oS (i:=1) (ay B) B B h
 |false=>exact oS (i:=0) (ay B) B B h
theorem eq_bool(h:k (b==c) H):cp .Eq (.bool b) (.bool c) k H:=by refine⟨b==c,?_,h⟩;cases b<;>cases c<;>cbv
theorem kb.push{H:bW}{st sl:ai}{b9:Nat}{a:List J}{es:List ((Int×Int)×J)}{E:Env}(m:kb K i7 bZ cc cb st sl b9 a es E H)(v:J):kb K i7 bZ cc cb st sl (b9+1) (v::a) es E (H.set st (.list (a.reverse++[v]))):=by rw[<-bM];exact m.zD _ (by have:=m.cL;simp;exact this) (by k_is)
theorem kb.ajP{H:bW}{st sl:ai}{b9 B':Nat}{a:List J}{es:List ((Int×Int)×J)}{E:Env}(m:kb K i7 bZ cc cb st sl b9 a es E H)(v:J)(l:a.length+1<=B')(b:b9<=B'):kb K i7 bZ cc cb st sl B' (v::a) es E (H.set st (.list (a.reverse++[v]))):=by rw[<-bM];exact m.zD _ (by simp;exact l) b
theorem ajQ{H:bW}{sl v r s:J}{g:ai}{h j:d6}{p t:Nat}{dv:Int}{e:Bool}{a:List J}(C:wN R rows dH)(y:mi h j)(hs:H g=ae (.list a.reverse))(l:a.length<=10000)(n:lD dH p=ae (t,dv))(h0:0<=dv)(h1:dv.toNat<=a.length)
  (u:∀b c,H b=ah->(H.set b (.list (a.drop (a.length-dv.toNat)).reverse)) c=ah->κ.cQ (gZ (qS nm names (rows.map pg) (dH.map iH)) (.ref bZ) (.ref c) sl (.int t) .none (.Y v) (.Y r) (.Y (.int t)) h j) ((H.set b (.list (a.drop (a.length-dv.toNat)).reverse)).set c (.list (gb e::a.drop (a.length-dv.toNat)).reverse))):
  cq (U (d+1)) 195 (bX 1220 10300) (gZ (qS nm names (rows.map pg) (dH.map iH)) (.ref bZ) (.ref g) sl (.int p) (gb e) (.Y v) (.Y r) (.Y s) h j) κ H:=by
 have tk:a.reverse.take dv.toNat=(a.drop (a.length-dv.toNat)).reverse:=List.take_reverse;refine RC y (λo t1 q=>o=.int t/\∃b c,t1=.ref c/\H b=ah/\(H.set b (.list (a.reverse.take dv.toNat))) c=ah/\q=Cy g b c a.reverse dv.toNat (gb e) H) (λk x=>de B (RF hs (by rw[bN];exact fa l B) (by have:=C.lc;exact fa this B) (λA z f=>?_) λf=>?_)) λo t1 q w=>?_
 .rw [n]at f;injection f with f;injection f with dC dD;subst dC;subst dD
  exact⟨h0,by rw[bN];exact h1,λb c m i=>x _ _ _ ⟨B,b,c,B,m,i,B⟩⟩
 .rw [n]at f;cases f
 .obtain ⟨rfl,b,c,rfl,m,i,rfl⟩:=w;refine⟨ag,B,?_⟩;have:=u b c m (by rw[<-tk];exact i);dsimp only[Cy];rw[tk];rw[bM]at this;exact this
theorem ajR{H:bW}{sl v o j:J}{b:ai}{c h:d6}{p:Nat}{e:Bool}{i:List J}(C:wN R rows dH)(s:mi c h)(hs:H b=ae (.list i.reverse))(l:i.length<=10000)(m:lD dH p=ah)(n:κ.ef (gb e) H):
  cq (U (d+1)) 195 (bX 1220 10300) (gZ (qS nm names (rows.map pg) (dH.map iH)) (.ref bZ) (.ref b) sl (.int p) (gb e) (.Y v) (.Y o) (.Y j) c h) κ H:=by
 refine RC s (λf t1 g=>f=.none/\g=H) (λk r=>de B (RF hs (by rw[bN];exact fa l B) (by have:=C.lc;exact fa this B) (λu t a=>?_) λa=>?_)) λf t1 g q=>?_
 .rw [m]at a;cases a
 .exact r _ _ _ ⟨B,B⟩
 .obtain ⟨rfl,rfl⟩:=q;exact⟨af,B,RD (eq_false (λH=>by cbv) (c6 n))⟩
end
structure sZ where
 R:Rows
 rows:List (g9 Nat)
 dH:List rK
 K:ai->Prop
 i7:bW
 bZ:ai
 cc:ai
 cb:ai
 rP:ai
 nm:J
 names:List J
 d:Nat
 κ:cD
def sZ.code(c:sZ):J:=qS c.nm c.names (c.rows.map pg) (c.dH.map iH)
def sZ.go(c:sZ)(ws:List J)(st:ai)(p:J)(a e b f g:d6):bT:=forL (λ_=>True) (eG (U (c.d+1)) 197 (dS (bX 1220 10))) c.κ ws (gZ c.code (.ref c.bZ) (.ref st) (.ref c.rP) p .none a e b f g)
def sZ.fr(c:sZ)(ws:List J)(st:ai)(p:Nat)(w a:J)(b e:d6):kx:=⟨c.d+1,ajK (c.d+1) c.κ ws,c.code,.ref c.bZ,.ref st,.ref c.rP,.int p,.none,w,a,.int ((p:Int)+1),b,e⟩
structure sZ.ok(c:sZ):Prop where
 C:wN c.R c.rows c.dH
 h0:∀b,c.K b->c.i7 b≠ah
 Ag:∀b,c.K b->b≠c.bZ/\b≠c.cc/\b≠c.cb
structure fC(c:sZ)(n:Nat)(f5:List (Option J))(sl:Int->Option J)(E:Env)(r:Res)(F:Env)(st:ai)(ws:List J)(H:bW)(cN:List J)(b9:Nat):Prop where
 m:∃es,kb c.K c.i7 c.bZ c.cc c.cb st c.rP b9 cN es E H/\Cz sl es
 pk:sX f5 cN
 jL:b9+n<=10000
 lw:n<=ws.length
 V:∀bV,eo c.bZ c.cc c.cb F bV->(∀b,c.K b->bV b=c.i7 b)->c.κ.ef (wM r) bV
def Ok(c:sZ)(n:Nat)(j:List (Option J))(sl:Int->Option J)(p:Nat)(E:Env)(r:Res)(F:Env):Prop:=
 ∀{st g h i b9 a d b e f},fC c n j sl E r F st g h i b9->tV a d b e f->c.go g st (.int p) a d b e f h
section
variable{c:sZ}{n dm p t b9:Nat}{RT:List J}{f5:List (Option J)}{sl:Int->Option J}{E b5:Env}{r:Res}{F:Env}{st RU:ai}{ws cN lX:List J}{w row u v:J}{H bV:bW}{eR eA l7 o5:d6}{o f_:Option J}{k:cZ}
theorem s4:∀u,ae v=ae u->v=u:=λ_ e=>aC.inj e
theorem ajS:∀u,ah=ae u->v=u:=nofun
theorem fC.mL(x:fC c n f5 sl E r F st ws H cN b9):H st=ae (.list cN.reverse):=x.m.elim λ_ m=>m.1.mL
theorem fC.ev(x:fC c n f5 sl E r F st ws H cN b9):eo c.bZ c.cc c.cb E H:=x.m.elim λ_ m=>m.1.ev
theorem fC.cL(x:fC c n f5 sl E r F st ws H cN b9):cN.length<=b9:=x.m.elim λ_ m=>m.1.cL
theorem fC.tW(x:fC c n f5 sl E r F st ws H cN b9):b9<=10000:=aq (bq ..) x.jL
theorem fC.len(x:fC c n f5 sl E r F st ws H cN b9):cN.reverse.length<=16000000:=by rw[bN];exact aq x.cL (fa x.tW B)
theorem fC.end_(x:fC c n f5 sl E r F st ws H cN b9):E=F->c.κ.ef (wM r) H:=λe=>x.m.elim λ_ m=>x.V H (e▸m.1.ev) m.1.dz
theorem fC.tick(x:fC c (n+1) f5 sl E r F st (w::ws) H cN b9):fC c n f5 sl E r F st ws H cN b9:=⟨x.m,x.pk,aoF x.jL,anu x.lw,x.V⟩
theorem fC.push(x:fC c (n+1) f5 sl E r F st (w::ws) H cN b9)(a:∀u,o=ae u->v=u):fC c n (o::f5) sl E r F st ws (H.set st (.list (cN.reverse++[v]))) (v::cN) (b9+1):=
 ⟨x.m.elim λb m=>⟨b,m.1.push v,m.2⟩,⟨a,x.pk⟩,AC (show b9+(n+1)<=10000 from x.jL),anu x.lw,x.V⟩
theorem fC.pop(x:fC c n (o::f5) sl E r F st ws H (v::cN) b9):fC c n f5 sl E r F st ws (H.set st (.list cN.reverse)) cN b9:=
 ⟨x.m.elim λa m=>⟨a,m.1.zD cN (aoF m.1.cL) (av _),m.2⟩,x.pk.2,x.jL,x.lw,x.V⟩
theorem fC.Fs(x:fC c n (o::f5) sl E r F st ws H cN b9)(a:∀v lX,lX.length+1<=b9->(∀u,o=ae u->v=u)->fC c n f5 sl E r F st ws (H.set st (.list lX.reverse)) lX b9->k v (H.set st (.list lX.reverse))):cB d (.ref st) ic [] k H:=by
 cases cN with
 |nil=>exact False.elim x.pk
 |cons v cN=>have h:=x.mL;rw[bM]at h;exact PH h (by rw[bN];exact aq (aoF x.cL) (fa x.tW B)) (a v cN x.cL x.pk.1 x.pop)
theorem fC.yT(x:fC c n (ae v::f5) sl E r F st ws H cN b9)(a:∀lX,lX.length+1<=b9->fC c n f5 sl E r F st ws (H.set st (.list lX.reverse)) lX b9->k v (H.set st (.list lX.reverse))):cB d (.ref st) ic [] k H:=
 x.Fs λf lX l e b=>by rw[e v B];exact a lX l b
theorem fC.yU(x:fC c n f5 sl E r F st ws H cN b9){k:J×List J->bT}(h:k (.blt "list.append",[.ref st]) H):methP (.ref st) kt k H:=tI x.mL h
theorem fC.app(x:fC c (n+1) f5 sl E r F st (w::ws) H cN b9)(a:∀u,o=ae u->v=u)(b:∀bV,fC c n (o::f5) sl E r F st ws bV (v::cN) (b9+1)->k .none bV):cl d (.blt "list.append") [.ref st,v] k H:=sK x.mL x.len (b _ (x.push a))
theorem cQ(i:Ok c n f5 sl t E r F)(x:fC c n f5 sl E r F RU ws H cN b9)(m:mi l7 o5)(e:u=.int t):(c.fr ws st p w row eR eA).go (.ref RU) .none u l7 o5 H:=by rw[e];exact ajq m (i x (m.full ..))
theorem turn(k:c.ok)(h:c.rows[p]?=ae a)(b:∀{st ws w H cN b9 eR eA},fC c (n+1) f5 sl E r F st (w::ws) H cN b9->mi eR eA->n2 (c.fr ws st p w (pg a) eR eA) H):Ok c (n+1) f5 sl p E r F:=by
 intro st ws H cN b9 d f e eR eA x m;cases ws with
 |nil=>exact absurd x.lw (Nat.not_succ_le_zero _)
 |cons w ws=>refine⟨trivial,?_⟩;rw[ajp m];exact ajL k.C.wE h (kv (c7 B (gR (b x m.two))))
theorem fC.gi(x:fC c (n+1) f5 sl E r F st (w::ws) H cN b9)(b:∀u,o=ae u->v=u)(a:∀bV,fC c n f5 (upd sl i o) E r F st ws bV cN (b9+1)->P bV):lJ (.ref c.rP) (.tup [.int 0,.int i]) v P H:=
 x.m.elim λd m=>ajM m.1.nD (aq m.1.dx (fa x.tW B)) (a _ ⟨⟨_,m.1.ajF _ (aq (RQ (0,i) v d) (ano m.1.dx)) (bz b9),m.2.upd b⟩,x.pk,AC (show b9+(n+1)<=10000 from x.jL),anu x.lw,x.V⟩)
theorem fC.ajT(x:fC c n f5 sl E r F st ws H cN b9){k:J×List J->bT}(h:k (.blt "dict.get",[.ref c.rP]) H):methP (.ref c.rP) x5 k H:=x.m.elim λ_ m=>ajN m.1.nD h
theorem fC.ez(x:fC c n f5 sl E r F st ws H cN b9)(a:∀v,(∀u,sl i=ae u->v=u)->k v H):cl d (.blt "dict.get") [.ref c.rP,.tup [.int 0,.int i]] k H:=
 x.m.elim λb m=>ajO m.1.nD (a _ λu e=>by rw[m.2 i u e];rfl)
theorem fC.env(x:fC c (n+1) f5 sl E r F st (w::ws) H cN b9)(k:c.ok)(e:eo c.bZ c.cc c.cb b5 (H.set a b))(f:a=c.bZ\/a=c.cc\/a=c.cb)(d:b5.told.length<=E.told.length+1)(g:b5.gy.length<=E.gy.length+1):fC c n f5 sl b5 r F st ws (H.set a b) cN (b9+1):=
 ⟨x.m.elim λh m=>⟨h,m.1.env e f k.Ag (aq d (ano m.1.gK)) (aq g (ano m.1.jV)) (bz b9),m.2⟩,x.pk,AC (show b9+(n+1)<=10000 from x.jL),anu x.lw,x.V⟩
theorem fC.told(x:fC c n f5 sl E r F st ws H cN b9):E.told.length<=1000000:=x.m.elim λ_ m=>aq m.1.gK (fa x.tW B)
theorem fC.gy(x:fC c n f5 sl E r F st ws H cN b9):E.gy.length<=1000000:=x.m.elim λ_ m=>aq m.1.jV (fa x.tW B)
theorem fC.ajU(x:fC c n f5 sl E r F st ws H cN b9)(l:cN.length+1<=b9)(b:∀u,o=ae u->v=u)(a:∀bV,fC c n (o::f5) sl E r F st ws bV (v::cN) b9->k .none bV):cl d (.blt "list.append") [.ref st,v] k H:=
 sK x.mL x.len (a _ ⟨x.m.elim λe m=>⟨e,m.1.ajP v l (av _),m.2⟩,⟨b,x.pk⟩,x.jL,x.lw,x.V⟩)
theorem hit(k:c.ok)(x:fC c (n+1) f5 sl E r F st (w::ws) H cN b9){e:Bool}{dv:Int}(l:cN.length+1<=b9)(b:lD c.dH p=ae (t,dv))(h0:0<=dv)(h1:dv<=f5.length)(i:Ok c n (ae (gb e)::cut f5 dv) sl t E r F)(a:mi l7 o5):(c.fr ws st p w row eR eA).go (.ref st) (gb e) u l7 o5 H:=by have ls:=x.pk.len;exact ajQ (e:=e) k.C a x.mL (aq x.cL x.tW) b h0 (by rw[<-ls];exact Int.toNat_le.2 h1) λf g ch cf=>i ⟨x.m.elim λd m=>⟨d,(m.1.other ch k.h0).RR (B':=b9) cf k.h0 (gb e::cN.drop (cN.length-dv.toNat)) (aq (ano (by rw[aoC];exact Nat.sub_le ..)) l) (av _),m.2⟩,⟨s4,by dsimp only[cut];rw[ls];exact sX.drop _ x.pk⟩,aoF x.jL,anu x.lw,x.V⟩ (a.full ..)
theorem out(k:c.ok)(x:fC c n f5 sl E (.fo e) E st RT H cN b9)(b:lD c.dH p=ah)(a:mi l7 o5):(c.fr ws st p w row eR eA).go (.ref st) (gb e) u l7 o5 H:=
 ajR (e:=e) k.C a x.mL (aq x.cL x.tW) b (x.end_ B)
section
def lY(op:Str)(us:List J):Bool:=match oK (λ_=>ah) (.str op) (.tup us)with
 |some b=>!b
 |none=>ag
def dG(op s:Str):Bool:=match kk (λ_=>ah) (.str op) (.str s)with
 |some b=>!b
 |none=>ag
theorem ajV(e:dG op s=af):∀H,kk H (.str op) (.str s)=ae ag:=λH=>by
 show kk (λ_=>ah) (.str op) (.str s)=ae ag;dsimp only[dG]at e;cases a:kk (λ_=>ah) (.str op) (.str s)with
 |none=>rw[a]at e;exact d8 e
 |some b=>cases b with
  |false=>rfl
  |true=>rw[a]at e;exact d8 e
theorem ajW(e:lY op us=af):∀H,oK H (.str op) (.tup us)=ae ag:=λH=>by
 show oK (λ_=>ah) (.str op) (.tup us)=ae ag;dsimp only[lY]at e;cases a:oK (λ_=>ah) (.str op) (.tup us)with
 |none=>rw[a]at e;exact d8 e
 |some b=>cases b with
  |false=>rfl
  |true=>rw[a]at e;exact d8 e
theorem l5(er:x=fS (.str op) a1 a2 dB)(e:∀H,kk H (.str op) (.str s)=ae af)(h:X H):b4 x hR (λu=>cp .Eq u (.str s) λc=>b6 c X hx) H:=by rw[er];exact ajG e h
theorem ky(er:x=fS (.str op) a1 a2 dB)(e:dG op s=af)(h:hx H):b4 x hR (λu=>cp .Eq u (.str s) λc=>b6 c X hx) H:=by rw[er];exact ajH (ajV e) h
theorem Ft(er:x=fS (.str op) a1 a2 dB)(e:∀H,oK H (.str op) (.tup us)=ae af)(h:X H):b4 x hR (λu=>lm 2 (cp .In u (.tup us) λc=>b6 c X hx)) H:=by rw[er];exact ajI e h
theorem RV(er:x=fS (.str op) a1 a2 dB)(e:lY op us=af)(h:hx H):b4 x hR (λu=>lm 2 (cp .In u (.tup us) λc=>b6 c X hx)) H:=by rw[er];exact ajJ (ajW e) h
theorem qh(h:(a&&b)=af):a=af:=by cases a<;>first|rfl|exact h
theorem qi(h:(a&&b)=af):b=af:=by cases a<;>first|exact d8 h|exact h
theorem RW(er:f.row=fS (.str op) a1 a2 dB)(e:lY op [.str k4,.str ma]=af)(h:RB f H):n2 f H:=RV er e h
theorem ajX(er:f.row=fS (.str op) a1 a2 dB)(e:(lY op [.str k4,.str ma]&&dG op ic)=af)(h:Rz f H):n2 f H:=RW er (qh e) (ky er (qi e) h)
theorem RX(er:f.row=fS (.str op) a1 a2 dB)(e:((lY op [.str k4,.str ma]&&dG op ic)&&dG op pU)=af)(h:Ry f H):n2 f H:=ajX er (qh e) (ky er (qi e) h)
theorem RY(er:f.row=fS (.str op) a1 a2 dB)(e:(((lY op [.str k4,.str ma]&&dG op ic)&&dG op pU)&&dG op i4)=af)(h:Rx f H):n2 f H:=RX er (qh e) (ky er (qi e) h)
theorem RZ(er:f.row=fS (.str op) a1 a2 dB)(e:((((lY op [.str k4,.str ma]&&dG op ic)&&dG op pU)&&dG op i4)&&dG op md)=af)(h:Ru f H):n2 f H:=RY er (qh e) (ky er (qi e) h)
theorem R0(er:f.row=fS (.str op) a1 a2 dB)(e:(((((lY op [.str k4,.str ma]&&dG op ic)&&dG op pU)&&dG op i4)&&dG op md)&&dG op lx)=af)(h:Rr f H):n2 f H:=RZ er (qh e) (ky er (qi e) h)
theorem R1(er:f.row=fS (.str op) a1 a2 dB)(e:((((((lY op [.str k4,.str ma]&&dG op ic)&&dG op pU)&&dG op i4)&&dG op md)&&dG op lx)&&dG op pV)=af)(h:Rq f H):n2 f H:=R0 er (qh e) (ky er (qi e) h)
theorem R2(er:f.row=fS (.str op) a1 a2 dB)(e:(((((((lY op [.str k4,.str ma]&&dG op ic)&&dG op pU)&&dG op i4)&&dG op md)&&dG op lx)&&dG op pV)&&dG op qF)=af)(h:Ro f H):n2 f H:=R1 er (qh e) (ky er (qi e) h)
theorem R3(er:f.row=fS (.str op) a1 a2 dB)(e:((((((((lY op [.str k4,.str ma]&&dG op ic)&&dG op pU)&&dG op i4)&&dG op md)&&dG op lx)&&dG op pV)&&dG op qF)&&dG op sq)=af)(h:Rn f H):n2 f H:=R2 er (qh e) (ky er (qi e) h)
theorem R4(er:f.row=fS (.str op) a1 a2 dB)(e:(((((((((lY op [.str k4,.str ma]&&dG op ic)&&dG op pU)&&dG op i4)&&dG op md)&&dG op lx)&&dG op pV)&&dG op qF)&&dG op sq)&&dG op qE)=af)(h:Rk f H):n2 f H:=R3 er (qh e) (ky er (qi e) h)
theorem R5(er:f.row=fS (.str op) a1 a2 dB)(e:((((((((((lY op [.str k4,.str ma]&&dG op ic)&&dG op pU)&&dG op i4)&&dG op md)&&dG op lx)&&dG op pV)&&dG op qF)&&dG op sq)&&dG op qE)&&dG op re)=af)(h:Rj f H):n2 f H:=R4 er (qh e) (ky er (qi e) h)
theorem KM(er:f.row=fS (.str op) a1 a2 dB)(e:(((((((((((lY op [.str k4,.str ma]&&dG op ic)&&dG op pU)&&dG op i4)&&dG op md)&&dG op lx)&&dG op pV)&&dG op qF)&&dG op sq)&&dG op qE)&&dG op re)&&dG op mZ)=af)(h:Ri f H):n2 f H:=R5 er (qh e) (ky er (qi e) h)
theorem R6(er:f.row=fS (.str op) a1 a2 dB)(e:((((((((((((lY op [.str k4,.str ma]&&dG op ic)&&dG op pU)&&dG op i4)&&dG op md)&&dG op lx)&&dG op pV)&&dG op qF)&&dG op sq)&&dG op qE)&&dG op re)&&dG op mZ)&&lY op [.str o2,.str sv])=af)(h:Rh f H):n2 f H:=KM er (qh e) (RV er (qi e) h)
theorem to3(er:f.row=fS (.str op) a1 a2 dB)(e:(((((((((((((lY op [.str k4,.str ma]&&dG op ic)&&dG op pU)&&dG op i4)&&dG op md)&&dG op lx)&&dG op pV)&&dG op qF)&&dG op sq)&&dG op qE)&&dG op re)&&dG op mZ)&&lY op [.str o2,.str sv])&&dG op vY)=af)(h:Rg f H):n2 f H:=R6 er (qh e) (ky er (qi e) h)
theorem to2(er:f.row=fS (.str op) a1 a2 dB)(e:((((((((((((((lY op [.str k4,.str ma]&&dG op ic)&&dG op pU)&&dG op i4)&&dG op md)&&dG op lx)&&dG op pV)&&dG op qF)&&dG op sq)&&dG op qE)&&dG op re)&&dG op mZ)&&lY op [.str o2,.str sv])&&dG op vY)&&dG op Eo)=af)(h:Rf f H):n2 f H:=to3 er (qh e) (ky er (qi e) h)
end
theorem ajY(k:c.ok):eb.push c.R (Ok c):=λa b=>turn k (k.C.at_ a) λx m=>Ft B (λH=>by cbv) (x.yU (oy (x.app s4 λbV y=>cQ b y m B)))
theorem ajZ(k:c.ok):eb.kI c.R (Ok c):=λa b=>turn k (k.C.at_ a) λx m=>Ft B (λH=>by cbv) (x.yU (oy (x.app s4 λbV y=>cQ b y m B)))
theorem aj0(k:c.ok):eb.pop c.R (Ok c):=λa b=>turn k (k.C.at_ a) λx m=>RW B (by cbv)<|l5 rfl (λH=>by cbv) (x.Fs λ_ _ _ _ y=>cQ b y.tick m B)
theorem aj1(k:c.ok):eb.self c.R (Ok c):=λa b=>turn k (k.C.at_ a) λx m=>RX B (by cbv)<|l5 rfl (λH=>by cbv) (EJ x.mL x.len (cQ b (x.push s4) m B))
theorem aj2(k:c.ok):eb.gi c.R (Ok c):=λa d=>turn k (k.C.at_ a) λx m=>RY B (by cbv)<|l5 rfl (λH=>by cbv) (x.Fs λ_ _ _ b y=>oy (EK (c7 B (y.gi b λbV e=>cQ d e m B))))
theorem aj3(k:c.ok):eb.ez c.R (Ok c):=λa d=>turn k (k.C.at_ a) λx m=>RZ B (by cbv)<|l5 rfl (λH=>by cbv) (x.yU (x.ajT (oy (EK (c7 B (x.ez λv b=>x.app b λbV y=>cQ d y m B))))))
theorem aj4(k:c.ok):eb.jI c.R (Ok c):=λa b=>turn k (k.C.at_ a) λx m=>R0 B (by cbv)<|l5 rfl (λH=>by cbv) (x.yU (Fp x.ev (x.app s4 λbV y=>cQ b y m B)))
theorem aj5(k:c.ok):eb.hq c.R (Ok c):=@λ_ _ _ _ _ _ _ e a b=>turn k (k.C.at_ a) λx m=>R1 B (by cbv)<|l5 rfl (λH=>by cbv) (x.yT λ_ _ y=>KH y.ev (cQ b (y.env k (y.ev.err e) (.inl B) (bz _) (bz _)) m B))
theorem aj6(k:c.ok):eb.k2 c.R (Ok c):=λa b=>turn k (k.C.at_ a) λx m=>R2 B (by cbv)<|l5 rfl (λH=>by cbv) (x.yU (x.yT λ_ _ y=>KL (y.app s4 λbV d=>cQ b d m B)))
theorem Ah(k:c.ok)(h:c.rows[p]?=ae (.send a b))(f:∀{st ws w cN b9 H eR eA}(d:J),(∀u,f_=ae u->d=u)->fC c (n+1) f5 sl E r F st (w::ws) H cN b9->cN.length+1<=b9->Fm (c.fr ws st p w (pg (.send a b)) eR eA) v d H):Ok c (n+1) (ae v::f_::f5) sl p E r F:=
 turn k h λx m=>R3 B (by cbv)<|l5 rfl (λH=>by cbv) (x.yT λ_ _ y=>y.Fs λd _ l g e=>c7 B (gR (f d g e l)))
theorem Fu(k:c.ok)(ch:∀H,kk H (.str a1) (.str Bm)=ae ag)(cf:∀H,kk H (.str a1) (.str H6)=ae ag)(er:row=fS dB (.str a1) a2 u)(z:fC c n f5 sl E r F st RT H cN b9)(h:cl (c.d+1) (.glob 1187) [.ref c.bZ,.str a1,v] (λr=>Fl (c.fr ws st p w row eR eA) v b (.blt "list.append",[.ref st]) r) H):Fm (c.fr ws st p w row eR eA) v b H:=by have a:(c.fr ws st p w row eR eA).row=fS dB (.str a1) a2 u:=er;dsimp only[Fm];rw[a];refine oy (eq_false ch (c6 (z.yU ?_)));dsimp only[Rm];rw[a];refine oy (eq_false cf (c6 ?_));dsimp only[Rl];rw[a];exact oy h
theorem CA(i:Ok c n (o::f5) sl (p+1) E r F)(x:fC c n f5 sl E r F st ws H cN b9)(l:cN.length+1<=b9)(e:∀y,o=ae y->u=y):Fl (c.fr ws st p w row eR eA) a b (.blt "list.append",[.ref st]) u H:=x.ajU l e λbV t=>cQ i t (.d ..) B
theorem R7(k:c.ok)(h:c.rows[p]?=ae (.send uu j))(e:∀{st ws w row u H cN b9 eR eA l7 o5},fC c (n+1) f5 sl E r F st (w::ws) H cN b9->cN.length+1<=b9->mi l7 o5->(c.fr ws st p w row eR eA).go (.ref st) (gb b) u l7 o5 H):Ok c (n+1) (ae (.int (if b then 1 else 0))::o::f5) sl p E r F:=
 Ah k h λf _ a l=>oy (eq_true (λH=>by cbv) (dI (c7 B (RS (c7 B (e a l (.d ..)))))))
theorem aj7(k:c.ok):eb.th c.R (Ok c):=λa d f=>
 Ah k (k.C.at_ a) λg e b l=>oy (eq_false (λH=>by cbv) (c6 (b.yU (oy (eq_true (λH=>by cbv) (dI (de B (e _ B▸ajE d (CA f b.tick l s4)))))))))
theorem aj9(k:c.ok):eb.mark c.R (Ok c):=@λ_ _ _ _ _ _ _ _ _ d a e=>
 Ah k (k.C.at_ a) λf _ b l=>Fu k (λH=>by cbv) (λH=>by cbv) B b (de B (RM b.ev b.told (CA e (b.env k (b.ev.say jh (.int d)) (.inr (.inl B)) (by simp[Env.say]) (bz _)) (anJ l) s4)))
theorem aka(k:c.ok):eb.seen c.R (Ok c):=@λ_ _ _ _ _ _ _ _ _ e a d=>
 Ah k (k.C.at_ a) λf _ b l=>Fu k (λH=>by cbv) (λH=>by cbv) B b (de B (RN b.ev b.told (CA d (b.env k (b.ev.say og (mz e)) (.inr (.inl B)) (by simp[Env.say]) (bz _)) (anJ l) s4)))
theorem akb(k:c.ok):eb.turn c.R (Ok c):=@λ_ _ _ _ _ E _ _ _ d a e=>
 Ah k (k.C.at_ a) λf _ b l=>Fu k (λH=>by cbv) (λH=>by cbv) B b (de B (RK b.ev b.gy (CA e (b.env k (b.ev.tick d) (.inr (.inr B)) (bz _) (rO d (E.cnt d) E.gy)) (anJ l) s4)))
theorem akc(k:c.ok):eb.once c.R (Ok c):=@λ_ _ _ _ _ E _ _ _ d a e=>
 Ah k (k.C.at_ a) λf _ b l=>Fu k (λH=>by cbv) (λH=>by cbv) B b (de B (RL b.ev b.gy (CA e (b.env k (b.ev.tick d) (.inr (.inr B)) (bz _) (rO d (E.cnt d) E.gy)) (anJ l) s4)))
theorem slice_list(k:c.ok)(x:fC c (n+1) (o::f_::f5) sl E r F st (w::ws) H cN b9)(i:Ok c n (ah::f5) sl (p+1) E r F)(m:mi eR eA)(er:row=fS (.str re) (.int ((2:Nat):Int)) v u):(cl (c.d+1) (.blt "len") [.ref st] λZ=>b4 row lu λN=>d4 .Sub Z N λX=>mv (.ref st) .none X λY=>cl (c.d+1) (.blt "len") [.ref st] λM=>b4 row lu λR=>d4 .Sub M R λao=>mv (.ref st) ao .none λW=>lm 1 (d4 .Add Y (.lst [W]) λI=>(c.fr ws st p w row eR eA).go I .none (.int ((p:Int)+1)) eR eA)) H:=by
 rw[er];cases cN with
 |nil=>exact False.elim x.pk
 |cons v1 cN=>
 cases cN with
 |nil=>exact False.elim x.pk.2
 |cons g cN=>
 obtain⟨L,y,b8⟩:=x.m;have hs:=y.mL;have A:cN.length+2<=b9:=y.cL;have D:=x.tW;have b:(v1::g::cN).reverse.length=cN.length+2:=by simp
 have f:cN.length+2<=16000000:=aq A (fa D B);refine wf hs b f (oy (m6 ?_));have cf:(((cN.length+2:Nat):Int)-((2:Nat):Int))=(cN.length:Int):=by k_is
 have tk:(v1::g::cN).reverse.take cN.length=cN.reverse:=by rw[bM,bM,bk];exact List.take_left' (by simp)
 have z:∀j:Int,j=(cN.length:Int)->Dd (cN.length+2) (.int j)=ae cN.length:=λj e=>by show(if _ then ae (clamp ..)else ah)=_;rw[e,if_pos (by have:=f;exact⟨g4 (aH cN.length),g4 (g0 f)⟩)];dsimp only[clamp];rw[if_pos (aH _),ape,anp (by k_is)]
 refine⟨(v1::g::cN).reverse,0,cN.length,kj hs,by rw[b];exact f,B,by rw[b];exact z _ cf,λs C=>?_⟩;rw[apf,tk];have l:=y.other (o:=.list cN.reverse) C k.h0;have a1:st≠s:=λe=>by rw[e,C]at hs;cases hs
 refine wf l.mL b f (oy (m6 ?_));refine⟨(v1::g::cN).reverse,cN.length,cN.length+2,kj l.mL,by rw[b];exact f,by rw[b];exact z _ cf,by show ae _=ae _;rw[b],λh q=>?_⟩;have S:=l.other (o:=.list (((v1::g::cN).reverse.take (cN.length+2)).drop cN.length)) q k.h0;have Q:s≠h:=λe=>by rw[<-e,bW.set_same]at q;cases q
 refine c7 B (qt.lst (cN.reverse) [.ref h] B ?_ B (by rw[bN];exact aq (bF (bz 1) _) f) λap G=>?_)
 .exact kj ((bW.el _ _ Q).trans (bW.set_same ..))
 have pI:=S.RR (B':=b9) G k.h0 (.ref h::cN) (aoF A) (av _);rw[bM (a:=J.ref h)]at pI;exact cQ i ⟨⟨L,pI,b8⟩,⟨ajS,x.pk.2.2⟩,aoF x.jL,anu x.lw,x.V⟩ m B
theorem akd(k:c.ok):eb.list c.R (Ok c):=λa b=>turn k (k.C.at_ a) λx m=>R4 B (by cbv)<|l5 rfl (λH=>by cbv) (slice_list k x b m B)
theorem ake(k:c.ok):eb.gj c.R (Ok c):=λa b=>turn k (k.C.at_ a) λx m=>R5 B (by cbv)<|l5 rfl (λH=>by cbv) (oy (cQ b x.tick m B))
theorem jmp(er:row=fS (.str op) Hl w v)(h0:∀H,kk H (.str op) (.str o2)=ae e)(h:X (if b==e then Hl else u) H):((λ(a:J->bT)=>(λ(f:J->bT)=>cp .IsNot (.bool b) .none λg=>g6 (.bool g) λs=>b6 s (cp .IsNot (.bool b) (.bool ag) λl=>f (.bool l)) (f (.bool g))) λj=>b4 row hR λi=>cp .Eq i (.str o2) λx=>cp .Eq j (.bool x) λm=>b6 m (b4 row lu λq=>a q) (a u)) X) H:=by
 show cp .IsNot (.bool b) .none _ _;refine⟨af,B,?_⟩;show cp .IsNot (.bool b) (.bool ag) _ _;refine⟨b,by cases b<;>rfl,?_⟩;show b4 _ hR _ _;rw[er];refine sL ⟨e,h0 H,eq_bool ?_⟩;cases d:b==e with
 |true=>rw[d]at h;exact oy h
 |false=>rw[d]at h;exact h
theorem akf(k:c.ok):eb.ko c.R (Ok c):=@λ_ _ _ _ _ _ _ _ b a d=>turn k (k.C.at_ a) λx m=>KM B (by cbv)<|Ft rfl (λH=>by cbv) (x.yT λ_ _ y=>jmp (e:=af) B (λH=>by cbv) (cQ d y.tick (m.one _) (by cases b<;>rfl)))
theorem akg(k:c.ok):eb.ji c.R (Ok c):=@λ_ _ _ _ _ _ _ _ b a d=>turn k (k.C.at_ a) λx m=>KM B (by cbv)<|Ft rfl (λH=>by cbv) (x.yT λ_ _ y=>jmp (e:=ag) B (λH=>by cbv) (cQ d y.tick (m.one _) (by cases b<;>rfl)))
theorem akh(k:c.ok):eb.leave c.R (Ok c):=@λ_ _ _ _ _ b a=>turn k (k.C.at_ a) λx m=>R6 B (by cbv)<|l5 rfl (λH=>by cbv) (x.yT λ_ _ y=>c7 B (show c.κ.ef (wM (.val (.int b))) _ from y.end_ B))
theorem R9(k:c.ok)(h:c.rows[p]?=ae .again)(a:∀{st ws w row u H cN b9 eR eA l7 o5},fC c (n+1) f5 sl E r F st (w::ws) H cN b9->cN.length+1<=b9->mi l7 o5->(c.fr ws st p w row eR eA).go (.ref st) (gb b) u l7 o5 H):Ok c (n+1) (ae (gb b)::f5) sl p E r F:=turn k h λx m=>to2 B (by cbv)<|l5 rfl (λH=>by cbv) (x.yT λ_ l y=>a y l m)
theorem aki(k:c.ok)(h:Fin c.R n f5 sl p E r F):Ok c n f5 sl p E r F:=by
 refine h (λn f5 sl p E r F=>Ok c n f5 sl p E r F) ⟨ajY k,
  ajZ k,
  aj0 k,
  aj1 k,
  aj2 k,
  aj3 k,
  aj4 k,
  aj5 k,
  aj6 k,
  λa b d e=>R7 k (k.C.r _ _ _ a).1 λx l m=>hit k x l (k.C.r _ _ _ a).2.symm b d e m,
  λa=>R7 k (k.C.r _ _ _ a).1 λx _ m=>out k x (k.C.r _ _ _ a).2.symm m,
  aj7 k,
  aj9 k,
  aka k,
  akb k,
  akc k,
  akd k,
  ake k,
  akf k,
  akg k,
  akh k,
  λa b d e=>R9 k (k.C.r _ _ _ a).1 λx l m=>hit k x l (k.C.r _ _ _ a).2.symm b d e m,
  λa=>R9 k (k.C.r _ _ _ a).1 λx _ m=>out k x (k.C.r _ _ _ a).2.symm m⟩
end
theorem akj{R:Rows}{g:List (g9 Nat)}{k:List rK}{K:ai->Prop}{f:bW}{a e cb j:ai}{nm:J}{names:List J}{d:Nat}{κ:cD}(C:wN R g k)(q:∀b,K b->f b≠ah/\b≠a/\b≠e/\b≠cb){n st sl p E r F}(ky:Fin R n st sl p E r F)
  {H:bW}{l:ai}{w:List J}{es:List ((Int×Int)×J)}{b9:Nat}{ws:List J}{v t s o u:d6}(m:kb K f a e cb l j b9 w es E H)(A:sX st w)(b8:Cz sl es)(z:b9+n<=10000)(lw:n<=ws.length)(x:tV v t s o u)
  (y:∀i,eo a e cb F i->(∀b,K b->i b=f b)->κ.ef (wM r) i):
  forL (λ_=>True) (eG (U (d+1)) 197 (dS (bX 1220 10))) κ ws (gZ (qS nm names (g.map pg) (k.map iH)) (.ref a) (.ref l) (.ref j) (.int p) .none v t s o u) H:=
 aki (c:=⟨R,g,k,K,f,a,e,cb,j,nm,names,d,κ⟩) ⟨C,λb h=>(q b h).1,λb h=>(q b h).2⟩ ky ⟨⟨es,m,b8⟩,A,z,lw,y⟩ x
theorem akk{R:Rows}{s:List (g9 Nat)}{w:List rK}(C:wN R s w){n:Nat}{E F:Env}{r:Res}{nm:J}{names:List J}{c f cb:ai}{H:bW}{k:cZ}{d:Nat}(ky:Fin R n [] (λ_=>ah) 0 E r F)(t:n<=3000)(l:eo c f cb E H)(N:E.told.length<=1000)(G:E.gy.length<=1000)
  (M:∀g,eo c f cb F g->(∀b,H b≠ah->b≠c->b≠f->b≠cb->g b=H b)->k (wM r) g):U (d+2) 1220 [qS nm names (s.map pg) (w.map iH),.ref c] k H:=by
 rw[aii];refine c7 B λj o=>?_;show eX (.ki []) _ _;intro i p;have u:j≠i:=λe=>by rw[<-e,bW.set_same]at p;exact gS p
 have q:H i=ah:=by rwa [bW.el _ _ (Ne.symm u)]at p
 refine c7 B (gR ?_);rw[aij];refine .up 3000 B B ⟨by decide,by decide⟩ ?_;have ne:∀{b y},H b=ae y->b≠j/\b≠i:=λh=>⟨λe=>by rw[e,o]at h;exact cV h,λe=>by rw[e,q]at h;exact cV h⟩;have ch:=ne l.bZ;have cf:=ne l.cc;have eC:=ne l.cb;have m:kb (λb=>H b≠ah/\b≠c/\b≠f/\b≠cb) H c f cb j i 1000 [] [] E ((H.set j (.list [])).set i (.ki [])):=by refine⟨(bW.el _ _ u).trans (bW.set_same ..),bW.set_same ..,(l.set (Ne.symm ch.1) (Ne.symm cf.1) (Ne.symm eC.1)).set (Ne.symm ch.2) (Ne.symm cf.2) (Ne.symm eC.2),Ne.symm cf.1,λb v=>?_,λh=>h.1 o,λh=>h.1 q,by simp,by simp,N,G⟩;exact(bW.el _ _ (λe=>v.1 (by rw[e];exact q))).trans (bW.el _ _ (λe=>v.1 (by rw[e];exact o)))
 exact akj (K:=λb=>H b≠ah/\b≠c/\b≠f/\b≠cb) (κ:=gc (U (d+1)) 198 (bX 1220 100) (cD.top k)) C (λb h=>h) ky m trivial (λS Q h=>by exact cV h) (cY t) (by simp[qu];exact t) .a λg L I=>M g L λb D A z x=>I b ⟨D,A,z,x⟩
theorem e3.told(h:e3 t E o f c):f.told.length<=E.told.length+c/\f.gy.length<=E.gy.length+c:=by
 induction h with
 |mark=>(simp[Env.say])<;>lia
 |seen=>(simp[Env.say])<;>lia
 |h4=>k_is
 |seq1 _ i=>exact i
 |tg _ _ a d=>exact⟨dp a.1 d.1,dp a.2 d.2⟩
 |sk _ _ e=>exact e
 |uv _ _ a d=>exact⟨dp a.1 d.1,dp a.2 d.2⟩
 |uw _ _ _ a d=>exact⟨dp a.1 d.1,dp a.2 d.2⟩
 |ux _ _ e=>exact e
 |@xA id b E _=>have:=rO id (E.cnt id) E.gy;simp only[Env.tick];exact⟨by k_is,cY this⟩
 |@xB id b E n f c _ _ e=>have:=rO id (E.cnt id) E.gy;simp only[Env.tick]at e;exact⟨cY e.1,dp e.2 this⟩
 |@xC id b E o f c _ _ _ e=>have:=rO id (E.cnt id) E.gy;simp only[Env.tick]at e;exact⟨cY e.1,dp e.2 this⟩
 |@xD id b E eO j k o f l _ _ _ _ a d=>have:=rO id (E.cnt id) E.gy;simp only[Env.tick]at a;exact⟨dp a.1 d.1,c0 a.2 d.2 this⟩
 |brk=>(simp[Env.say])<;>lia
 |dQ=>(simp[Env.say])<;>lia
 |ret=>(simp[Env.say])<;>lia
 |@xE id E _=>have:=rO id (E.cnt id) E.gy;simp only[Env.tick];exact⟨by k_is,cY this⟩
 |@xF id E _=>have:=rO id (E.cnt id) E.gy;simp only[Env.tick];exact⟨by k_is,cY this⟩
 |bare _ e=>exact e
 |xG _ _ e=>exact⟨cY e.1,cY e.2⟩
 |xH _ _ _ a d=>exact⟨dp a.1 d.1,dp a.2 d.2⟩
 |sb _ _ e=>exact e
 |xI _ _ e=>exact⟨cY e.1,cY e.2⟩
 |xJ _ _ _ _ a d=>simp only[Env.iS]at a d⊢;exact⟨dp a.1 d.1,dp a.2 d.2⟩
 |sf _ _ _ _ a d g=>simp only[Env.iS]at a d g⊢;exact⟨c0 a.1 d.1 g.1,c0 a.2 d.2 g.2⟩
 |ev _ _ a d=>exact⟨dp a.1 d.1,dp a.2 d.2⟩
 |mX _ _ _ a d=>exact⟨dp a.1 d.1,dp a.2 d.2⟩
noncomputable def iL:Out->J->Prop
 |.val x,a=>∃b,a=.tup [.str gV,b]/\∀c,x=ae c->b=c
 |.fo e,a=>a=gb e
 |.brk n,a=>a=.tup [.str oj,.int n]
 |.dQ n,a=>a=.tup [.str o3,.int n]
 |.ret n,a=>a=.tup [.str mc,.int n]
 |.eW,a=>a=.tup [.str nN,.none]
noncomputable def cH:T->Nat
 |.seq1 a=>1+cH a
 |.gn a b=>1+max (cH a) (cH b)
 |.arr a b=>1+max (cH a) (cH b)
 |.fm _ b=>3+cH b
 |.bare b=>2+cH b
 |.eV _ d _ c e b=>2+max (max (cH d) (cH c)) (max (cH e) (cH b))
 |.dZ x l=>2+max (cH x) (cH l)
 |.nil=>4
 |.mark _=>4
 |.h4 _=>4
 |.seen=>4
 |.brk _=>4
 |.dQ _=>4
 |.ret _=>4
 |.once _=>4
theorem oD(a:T):cH (.seq1 a)=1+cH a:=rfl
theorem qU(a b:T):cH (.gn a b)=1+max (cH a) (cH b):=rfl
theorem rQ(a b:T):cH (.arr a b)=1+max (cH a) (cH b):=rfl
theorem rR(i:Int)(b:T):cH (.fm i b)=3+cH b:=rfl
theorem rS(b:T):cH (.bare b)=2+cH b:=rfl
theorem rT(c1 c2:Nat)(h1 h2 ot b:T):cH (.eV c1 h1 c2 h2 ot b)=2+max (max (cH h1) (cH h2)) (max (cH ot) (cH b)):=rfl
theorem rU(x l:T):cH (.dZ x l)=2+max (cH x) (cH l):=rfl
def Kept(c a cb:ai)(H d:bW):Prop:=∀b,H b≠ah->b≠c->b≠a->b≠cb->d b=H b
theorem Kept.refl{a b cb H}:Kept a b cb H H:=λ_ _ _ _ _=>B
theorem Kept.trans{d c cb H j h}(a:Kept d c cb H j)(b:Kept d c cb j h):Kept d c cb H h:=λx i k g f=>by have e:=a x i k g f;exact(b x (e▸i) k g f).trans e
theorem Kept.set{c b cb H}(h:a=c\/a=b\/a=cb\/H a=ah):Kept c b cb H (H.set a o):=λx g i f d=>bW.el _ _ λe=>by
 rcases h with h|h|h|h
 .exact i (e.trans h)
 .exact f (e.trans h)
 .exact d (e.trans h)
 .exact g (e▸h)
section
variable{H:bW}{d:Nat}{E b5 cU:Env}{o:Out}{bZ cc cb:ai}{b ot:T}{k:cZ}
def ec(d:Nat)(t:T)(E:Env)(o:Out)(b5:Env):Prop:=∀{bZ cc cb:ai}{H:bW}{k:cZ},eo bZ cc cb E H->(∀c a,iL o c->eo bZ cc cb b5 a->Kept bZ cc cb H a->k c a)->U d 1201 [toV t,.ref bZ] k H
section
theorem fD{i:Nat}(l:ps.length<=100)(g:ps[i]?=ae u)(h:k u H):cF (.tup ps) (.int i) k H:=zw (fa l B) (i:=i) (KJ (anB.mp g).1) g h
theorem rV(e:∀H,kk H (.str kd) (.str s)=ae af)(h:X H):cp .Eq (.str kd) (.str s) (λc=>b6 c X hx) H:=⟨af,e H,h⟩
theorem hr(e:∀H,kk H (.str kd) (.str s)=ae ag)(h:hx H):cp .Eq (.str kd) (.str s) (λc=>b6 c X hx) H:=⟨ag,e H,h⟩
theorem ec.mark{n:Int}(l:E.told.length<=100000):ec (d+2) (.mark n) E (.val (ae (.int n))) (E.say jh (.int n)):=by intro bZ cc cb H k he V;show U (d+2) 1201 [j' jh (jw n),.ref bZ] k H;rw[rL];refine Internal.P.nZ (Internal.P.hO (c7 B (gR ?_)));refine hr (λH=>by cbv) (hr (λH=>by cbv) (rV (λH=>by cbv) ?_));refine fD (i:=1) (by simp) B (hr (λH=>by cbv) (fD (i:=2) (by simp) B ?_));refine oS (i:=0) (u:=jw n) (ay B) B B (Internal.P.hO (qa (by simp) (fD (i:=1) (by simp) B (hr (λH=>by cbv) (fD (i:=1) (by simp) B ?_)))));refine de B (RM he (fa l B) (c7 B ?_));exact V _ _ ⟨_,B,λa e=>by injection e⟩ (he.say ..) (Kept.set (.inr (.inl B)))
end
end
section
theorem ec.seen(l:E.told.length<=100000):ec (d+2) .seen E (.val (ae .none)) (E.say og (mz E.err)):=by intro b c cb a k he V;show U (d+2) 1201 [j' og (fL su [.str uG]),.ref b] k a;rw[rL];refine Internal.P.nZ (Internal.P.hO (c7 B (gR ?_)));refine hr (λa=>by cbv) (hr (λa=>by cbv) (rV (λa=>by cbv) ?_));refine fD (i:=1) (by simp) B (rV (λa=>by cbv) (Fp he ?_));refine fD (i:=1) (by simp) B (hr (λa=>by cbv) (fD (i:=1) (by simp) B ?_));refine de B (RN he (fa l B) (c7 B ?_));exact V _ _ ⟨_,B,λf e=>by injection e⟩ (he.say ..) (Kept.set (.inr (.inl B)))
theorem ec.h4:ec (d+2) (.h4 b) E (.fo b) E:=by intro c e cb a k he V;show U (d+2) 1201 [j' uu (jw (if b then 1 else 0)),.ref c] k a;rw[rL];refine Internal.P.nZ (Internal.P.hO (c7 B (gR ?_)));refine hr (λa=>by cbv) (hr (λa=>by cbv) (rV (λa=>by cbv) ?_));refine fD (i:=1) (by simp) B (hr (λa=>by cbv) (fD (i:=2) (by simp) B ?_));refine oS (i:=0) (u:=jw (if b then 1 else 0)) (ay B) B B (Internal.P.hO (qa (by simp) (fD (i:=1) (by simp) B (rV (λa=>by cbv) (c7 B (RS (c7 B ?_)))))));exact V _ _ B he Kept.refl
theorem ec.turn{id:Int}{E:Env}(l:E.gy.length<=100000){a b cb:ai}(e:eo a b cb E H)(f:∀c,eo a b cb (E.tick id) c->Kept a b cb H c->k (.tup [.str gV,.bool (decide (E.cnt id<=id.fmod 10))]) c):U (d+2) 1201 [j' mA (jw id),.ref a] k H:=by rw[rL];refine Internal.P.nZ (Internal.P.hO (c7 B (gR ?_)));refine hr (λH=>by cbv) (hr (λH=>by cbv) (rV (λH=>by cbv) ?_));refine fD (i:=1) (by simp) B (hr (λH=>by cbv) (fD (i:=2) (by simp) B ?_));refine oS (i:=0) (u:=jw id) (ay B) B B (Internal.P.hO (qa (by simp) (fD (i:=1) (by simp) B (hr (λH=>by cbv) (fD (i:=1) (by simp) B ?_)))));refine de B (RK e (fa l B) (c7 B ?_));exact f _ (e.tick _) (Kept.set (.inr (.inr (.inl B))))
theorem ec.akm{id:Int}{E:Env}(l:E.gy.length<=100000){a b cb:ai}(e:eo a b cb E H)(f:∀c,eo a b cb (E.tick id) c->Kept a b cb H c->k (.tup [.str gV,.bool (decide (E.cnt id=1))]) c):U (d+2) 1201 [j' vU (jw id),.ref a] k H:=by rw[rL];refine Internal.P.nZ (Internal.P.hO (c7 B (gR ?_)));refine hr (λH=>by cbv) (hr (λH=>by cbv) (rV (λH=>by cbv) ?_));refine fD (i:=1) (by simp) B (hr (λH=>by cbv) (fD (i:=2) (by simp) B ?_));refine oS (i:=0) (u:=jw id) (ay B) B B (Internal.P.hO (qa (by simp) (fD (i:=1) (by simp) B (hr (λH=>by cbv) (fD (i:=1) (by simp) B ?_)))));refine de B (RL e (fa l B) (c7 B ?_));exact f _ (e.tick _) (Kept.set (.inr (.inr (.inl B))))
theorem ec.exit{kd:Str}{n:Int}{E:Env}(l:E.told.length<=100000){b c cb:ai}(m:eo b c cb E H)(ch:∀H,kk H (.str kd) (.str mB)=ae ag)(cf:∀H,kk H (.str kd) (.str rc)=ae ag)(eC:∀H,kk H (.str kd) (.str pR)=ae ag)(hY:∀H,kk H (.str kd) (.str tw)=ae ag)(p:∀H,kk H (.str kd) (.str pX)=ae ag)(g:∀H,oK H (.str kd) (.tup [.str oj,.str o3,.str mc])=ae af)
  (o:∀a,eo b c cb (E.say jh (.int n)) a->Kept b c cb H a->k (.tup [.str kd,.int n]) a):U (d+3) 1201 [fL kd [zS n],.ref b] k H:=by
 rw[rL];refine Internal.P.nZ (Internal.P.hO (c7 B (gR ?_)));refine hr ch (hr cf (hr eC (hr hY (hr p (c7 B ⟨af,g H,dI (qa (by simp) (de B ?_))⟩)))));refine ec.mark (n:=n) l m λr a f j e=>?_;obtain⟨q,rfl,h⟩:=f;have:=h _ B;subst this;exact fD (i:=1) (by simp) B (c7 B (o a j e))
theorem ec.brk{n:Int}{E:Env}(l:E.told.length<=100000):ec (d+3) (.brk n) E (.brk n) (E.say jh (.int n)):=λg f=>ec.exit l g (λc=>by cbv) (λc=>by cbv) (λc=>by cbv) (λc=>by cbv) (λc=>by cbv) (λc=>by cbv) λe a b=>f _ e B a b
theorem ec.dQ{n:Int}{E:Env}(l:E.told.length<=100000):ec (d+3) (.dQ n) E (.dQ n) (E.say jh (.int n)):=λg f=>ec.exit l g (λc=>by cbv) (λc=>by cbv) (λc=>by cbv) (λc=>by cbv) (λc=>by cbv) (λc=>by cbv) λe a b=>f _ e B a b
theorem ec.ret{n:Int}{E:Env}(l:E.told.length<=100000):ec (d+3) (.ret n) E (.ret n) (E.say jh (.int n)):=λg f=>ec.exit l g (λc=>by cbv) (λc=>by cbv) (λc=>by cbv) (λc=>by cbv) (λc=>by cbv) (λc=>by cbv) λe a b=>f _ e B a b
end
section
variable{H:bW}{d:Nat}{E b5 cU:Env}{o:Out}{bZ cc cb:ai}{b ot:T}{k:cZ}
section
theorem iL.ne(h:iL o v):∃kd u,v=.tup [.str kd,u]/\∀H,mT H .NotEq (.str kd) (.str gV)=ae (!o.isVal):=by
 induction o using Out.casesOn with
 |val x=>refine c_ h λu a _=>?_;obtain rfl:=a;exact⟨_,_,B,λH=>by cbv⟩
 |fo e=>obtain rfl:=h;exact⟨_,_,B,λH=>by cbv⟩
 |brk n=>obtain rfl:=h;exact⟨_,_,B,λH=>by cbv⟩
 |dQ n=>obtain rfl:=h;exact⟨_,_,B,λH=>by cbv⟩
 |ret n=>obtain rfl:=h;exact⟨_,_,B,λH=>by cbv⟩
 |eW=>obtain rfl:=h;exact⟨_,_,B,λH=>by cbv⟩
theorem tX(h:iL o v)(c:o.isVal=af->hx H)(f:o.isVal=ag->X H):cF v (.int 0) (λg=>cp .NotEq g (.str gV) λj=>b6 j X hx) H:=by
 refine lZ h.ne λn m l e=>?_;obtain rfl:=l;refine fD (i:=0) (by simp) B ⟨_,e H,?_⟩;cases a:o.isVal with
 |true=>exact c6 (c a)
 |false=>exact dI (f a)
theorem KQ{vs:List J}(h:cq (U d) 196 (bX 1201 1010) (iK (fL mB [.lst vs]) (.ref bZ) (.str mB) (.tup [.lst vs]) (.Y (.tup [.str gV,.none]))) (gc (U d) 198 (bX 1201 100) (cD.top k)) H):U (d+1) 1201 [fL mB [.lst vs],.ref bZ] k H:=by rw[rL];exact Internal.P.nZ (Internal.P.hO (c7 B (gR (rV (λH=>by cbv) (c7 B h)))))
theorem ec.R'(h:∀{k:cZ},(∀c a,iL o c->eo bZ cc cb b5 a->Kept bZ cc cb H a->k c a)->U d 1201 [v,.ref bZ] k H)(g:∀c a,iL o c->eo bZ cc cb b5 a->Kept bZ cc cb H a->k c a):U (d+1) 1201 [fL mB [.lst [v]],.ref bZ] k H:=by refine KQ ?_;rw[J9];refine fD (i:=0) (by simp) B (n0 (by simp) (tT B ?_));rw[J'];refine de B (h λc a e j f=>?_);refine tX e (λ_=>?_) (λ_=>g c a e j f);dsimp only;refine⟨B,?_⟩;show(cq _ _ _ _ _) _;rw[Q5];exact g c a e j f
theorem ec.seq1(h:ec d a E o b5):ec (d+1) (.seq1 a) E o b5:=λe c=>ec.R' (λc=>h e c) c
theorem ec.tg(h1:ec d a E (.val x) cU)(h2:ec d b cU o b5):ec (d+1) (.gn a b) E o b5:=by intro bZ cc cb H k he V;refine KQ ?_;rw[J9];refine fD (i:=0) (by simp) B (n0 (by simp) (tT B ?_));rw[J'];refine de B (h1 he λp q j l n=>tX j (λ_=>?_) λh=>by exact kD h);dsimp only;refine⟨B,?_⟩;rw[ahQ];refine de B (h2 l λf g c m e=>?_);have fin:=V f g c m (n.trans e);refine tX c (λ_=>?_) (λ_=>fin);dsimp only;refine⟨B,?_⟩;show(cq _ _ _ _ _) _;rw[Q5];exact fin
theorem ec.sk(h1:ec d a E o b5)(j:o.isVal=ag):ec (d+1) (.gn a b) E o b5:=by intro bZ cc cb H k he V;refine KQ ?_;rw[J9];refine fD (i:=0) (by simp) B (n0 (by simp) (tT B ?_));rw[J'];refine de B (h1 he λe f c g l=>tX c (λh=>?_) λ_=>V e f c g l);replace h:=j▸h;exact d8 h
theorem ec.ako(f:eo bZ cc cb E H)(e:∀c a,iL .eW c->eo bZ cc cb E a->Kept bZ cc cb H a->k c a):U (d+1) 1201 [fL nN [],.ref bZ] k H:=by rw[rL];refine Internal.P.nZ (Internal.P.hO (c7 B (gR ?_)));refine hr (λH=>by cbv) (hr (λH=>by cbv) (hr (λH=>by cbv) (hr (λH=>by cbv) (hr (λH=>by cbv) (c7 B ⟨ag,by cbv,c6 (rV (λH=>by cbv) (c7 B ?_))⟩)))));exact e _ _ B f Kept.refl
theorem ec.once{id:Int}(l:E.gy.length<=100000)(o:Out)(a:o=if E.cnt id=1 then .eW else .val (ae .none)):ec (d+3) (.once id) E o (E.tick id):=by
 intro bZ cc cb H k he f;show U (d+3) 1201 [fL tw [j' vU (jw id),Pw,.none],.ref bZ] k H;rw[rL];refine Internal.P.nZ (Internal.P.hO (c7 B (gR ?_)));refine hr (λH=>by cbv) (hr (λH=>by cbv) (hr (λH=>by cbv) (rV (λH=>by cbv) ?_)));refine fD (i:=0) (by simp) B (de B (ec.akm l he λr g h=>?_));refine fD (i:=1) (by simp) B (j0 ?_);by_cases c:E.cnt id=1
 .rw [if_pos c]at a;subst a;rw[decide_eq_true c];refine dI (fD (i:=1) (by simp) B (de B ?_));exact ec.R' (λf=>ec.ako g f) λq n m p j=>f q n m p (h.trans j)
 .rw [if_neg c]at a;subst a;rw[decide_eq_false c];refine c6 (c7 B (f _ r ⟨_,B,λs e=>by injection e⟩ g h))
end
section
variable{et:Env}
theorem KR{vs:List J}(h:∀a,H a=ah->cq (U d) 195 (bX 1201 10010) (iK (fL rc [.lst vs]) (.ref bZ) (.str rc) (.tup [.lst vs]) .un .un (.Y (.ref a))) (gc (U d) 197 (bX 1201 1000) (cD.top k)) (H.set a (.list []))):U (d+1) 1201 [fL rc [.lst vs],.ref bZ] k H:=by rw[rL];exact Internal.P.nZ (Internal.P.hO (c7 B (gR (hr (λH=>by cbv) (rV (λH=>by cbv) (c7 B h))))))
theorem KS(c:eo bZ cc cb E H){a:ai}{o:hg}(n:H a=ah):eo bZ cc cb E (H.set a o)/\a≠bZ/\a≠cc/\a≠cb:=by
 have ne:∀{b o},H b=ae o->a≠b:=λh e=>by rw[<-e,n]at h;cases h
 exact⟨c.set (ne c.bZ) (ne c.cc) (ne c.cb),ne c.bZ,ne c.cc,ne c.cb⟩
theorem ec.uv(h1:ec d a E (.val x) cU)(h2:ec d b cU (.val y) b5):ec (d+1) (.arr a b) E (.val ah) b5:=by
 intro bZ cc cb H k he V;refine KR λc n=>jQ (KS (o:=.list []) he n) λz j f g=>?_;rw[Ka];refine fD (i:=0) (by simp) B (n0 (by simp) (tT B ?_));rw[Kb];refine de B (h1 z λI p s A v=>tX s (λ_=>?_) λh=>by exact kD h);obtain⟨l,rfl,_⟩:=s;have t:p c=ae (.list []):=(v c (by rw[bW.set_same];exact λh=>by exact gS h) j f g).trans (bW.set_same _ _ _);refine tI t (fD (i:=1) (by simp) B (sK t (by simp) ?_));have C:=A.set (o:=.list ([]++[l])) j f g;dsimp only;refine⟨B,?_⟩;rw[Q6];refine de B (h2 C λL D u q w=>tX u (λ_=>?_) λh=>by exact kD h);obtain⟨F,rfl,_⟩:=u;have r:D c=ae (.list ([]++[l])):=(w c (by rw[bW.set_same];exact λh=>by exact gS h) j f g).trans (bW.set_same _ _ _);refine tI r (fD (i:=1) (by simp) B (sK r (by simp) ?_));dsimp only;refine⟨B,?_⟩;show(cq _ _ _ _ _) _;rw[ahT];refine c7 B (JO (Fi (bW.set_same _ _ _) (Q2 ?_)));refine V _ _ ⟨_,B,λG e=>by cases e⟩ ⟨?_,?_,?_⟩ λb m ch cf eC=>?_
 .rw [tU _ (Ne.symm j),bW.el _ _ (Ne.symm j)];exact q.bZ
 .rw [tU _ (Ne.symm f),bW.el _ _ (Ne.symm f)];exact q.cc
 .rw [tU _ (Ne.symm g),bW.el _ _ (Ne.symm g)];exact q.cb
 .have ba:b≠c:=λe=>m (e▸n);have s0:(H.set c (.list [])) b=H b:=bW.el _ _ ba;have s1:p b=H b:=(v b (by rw[s0];exact m) ch cf eC).trans s0;have s2:(p.set c (.list ([]++[l]))) b=H b:=(bW.el _ _ ba).trans s1;rw[tU _ ba,bW.el _ _ ba];exact(w b (by rw[s2];exact m) ch cf eC).trans s2
theorem ec.ux(h1:ec d a E o b5)(j:o.isVal=ag):ec (d+1) (.arr a b) E o b5:=by intro bZ cc cb H k he V;refine KR λs n=>jQ (KS (o:=.list []) he n) λl r p q=>?_;rw[Ka];refine fD (i:=0) (by simp) B (n0 (by simp) (tT B ?_));rw[Kb];refine de B (h1 l λe f c g m=>tX c (λh=>?_) λ_=>V e f c g ((Kept.set (.inr (.inr (.inr n)))).trans m));replace h:=j▸h;exact d8 h
theorem ec.uw(h1:ec d a E (.val x) cU)(h2:ec d b cU o b5)(D:o.isVal=ag):ec (d+1) (.arr a b) E o b5:=by
 intro bZ cc cb H k he V;refine KR λc n=>jQ (KS (o:=.list []) he n) λu t j r=>?_;rw[Ka];refine fD (i:=0) (by simp) B (n0 (by simp) (tT B ?_));rw[Kb];refine de B (h1 u λG g l v s=>tX l (λ_=>?_) λh=>by exact kD h);refine c_ l λp z _=>?_;obtain rfl:=z;have m:g c=ae (.list []):=(s c (by rw[bW.set_same];exact λh=>by exact gS h) t j r).trans (bW.set_same ..);refine tI m (fD (i:=1) (by simp) B (sK m (by simp) ?_));have w:=v.set (o:=.list ([]++[p])) t j r;dsimp only;refine⟨B,?_⟩;rw[Q6];refine de B (h2 w λA y q F C=>tX q (λh=>?_) λ_=>V A y q F λb f ch cf eC=>?_)
 .replace h:=D▸h;exact d8 h
 .have ba:b≠c:=λe=>f (e▸n);have s0:(H.set c (.list [])) b=H b:=bW.el _ _ ba;have s1:g b=H b:=(s b (by rw[s0];exact f) ch cf eC).trans s0;have s2:(g.set c (.list ([]++[p]))) b=H b:=(bW.el _ _ ba).trans s1;exact(C b (by rw[s2];exact f) ch cf eC).trans s2
end
theorem akp(d:Nat)(κ:cD)(l_tree c a e:J):cq (U d) 192 (bX 1201 10000010) (iK l_tree c a e) κ=lm 2 (κ.ef (.tup [.str gV,.none])):=by cbv
def lw(t:J)(bZ:ai)(ps:J):Option J->Loc
 |none=>iK t (.ref bZ) (.str pX) ps
 |some o=>iK t (.ref bZ) (.str pX) ps (.Y o)
def Fw(d:Nat)(k:cZ)(m:Nat)(a:Loc):bT:=q3 (λa=>iZ (U d) 191 (x1 (dS (bX 1201 1000001))) a) (λa c=>cq (U d) 191 (bX 1201 10000014) a c) (gc (U d) 192 (bX 1201 10000010) (gc (U d) 194 (bX 1201 1000000) (cD.top k))) m a
def n3(d:Nat)(id:Int)(b:T)(E:Env)(o:Out)(b5:Env):Prop:=∃m,∀{bZ cc cb:ai}{H:bW}{k:cZ}(e:J)(f:Option J),eo bZ cc cb E H->(∀c a,iL o c->eo bZ cc cb b5 a->Kept bZ cc cb H a->k c a)->Fw (d+2) k m (lw e bZ (.tup [j' mA (jw id),toV b,.bool ag]) f) H
section
variable{et:Env}{eO:Out}{id:Int}
theorem n3.hZ(h:n3 d id b E o b5):ec (d+3) (.fm id b) E o b5:=by intro bZ cc cb H k he V;refine gu h λm h=>?_;show U (d+3) 1201 [fL pX [j' mA (jw id),toV b,.bool ag],.ref bZ] k H;rw[rL];refine Internal.P.nZ (Internal.P.hO (c7 B (gR ?_)));refine hr (λH=>by cbv) (hr (λH=>by cbv) (hr (λH=>by cbv) (hr (λH=>by cbv) (rV (λH=>by cbv) ?_))));rw[ahU];exact⟨m,h _ ah he V⟩
theorem Fx(t:J)(e:Option J)(l:E.gy.length<=100000)(s:eo bZ cc cb E H)(j:∀a,eo bZ cc cb (E.tick id) a->Kept bZ cc cb H a->
   b6 (decide (E.cnt id<=id.fmod 10)) (cq (U (d+2)) 191 (bX 1201 10000014) (lw t bZ (.tup [j' mA (jw id),toV b,.bool ag]) e) ⟨λc=>Fw (d+2) k m c,(gc (U (d+2)) 192 (bX 1201 10000010) (gc (U (d+2)) 194 (bX 1201 1000000) (cD.top k))).ef,λc=>(gc (U (d+2)) 192 (bX 1201 10000010) (gc (U (d+2)) 194 (bX 1201 1000000) (cD.top k))).cQ c,λc=>Fw (d+2) k m c⟩) ((gc (U (d+2)) 192 (bX 1201 10000010) (gc (U (d+2)) 194 (bX 1201 1000000) (cD.top k))).cQ (lw t bZ (.tup [j' mA (jw id),toV b,.bool ag]) e)) a):
  Fw (d+2) k (m+1) (lw t bZ (.tup [j' mA (jw id),toV b,.bool ag]) e) H:=by
 have g:∀f:Bool->bT,(∀a,eo bZ cc cb (E.tick id) a->Kept bZ cc cb H a->f (decide (E.cnt id<=id.fmod 10)) a)->(cF (.tup [j' mA (jw id),toV b,.bool ag]) (.int 0) λv=>cl (d+2) (.glob 1201) [v,.ref bZ] λu=>cF u (.int 1) λr=>g6 r λn=>f n) H:=λf h=>by refine fD (i:=0) (by simp) B (de B (ec.turn l s λa q p=>?_));exact fD (i:=1) (by simp) B (j0 (h a q p))
 show iZ _ _ _ _ _ _
 induction e using a_ with
 |none=>dsimp only[lw];rw[ahV];exact g _ j
 |some w=>dsimp only[lw];rw[ahW];exact g _ j
theorem akq(h:k (.tup [.str gV,.none]) H):(gc (U (d+2)) 192 (bX 1201 10000010) (gc (U (d+2)) 194 (bX 1201 1000000) (cD.top k))).cQ (lw t bZ ps js) H:=by
 show(cq _ _ _ _ _) _
 induction js using a_ with
 |none=>dsimp only[lw];rw[akp];exact c7 B h
 |some a=>dsimp only[lw];rw[ahZ];exact c7 B h
theorem n3.stop(l:E.gy.length<=100000)(c:¬(E.cnt id<=id.fmod 10)):n3 d id b E (.val (ae .none)) (E.tick id):=by refine⟨1,λa i m j=>Fx a i l m λh g f=>?_⟩;rw[decide_eq_false c];exact c6 (akq (j _ h ⟨_,B,λn e=>by injection e⟩ g f))
end
section
variable{et:Env}{eO:Out}{id:Int}
theorem iL.brk(h:iL o v):∃kd u,v=.tup [.str kd,u]/\∀H,mT H .Eq (.str kd) (.str oj)=ae (match o with|.brk _=>af|_=>ag):=by
 induction o using Out.casesOn with
 |val x=>refine c_ h λu a _=>?_;obtain rfl:=a;exact⟨_,_,B,λH=>by cbv⟩
 |fo e=>obtain rfl:=h;exact⟨_,_,B,λH=>by cbv⟩
 |brk n=>obtain rfl:=h;exact⟨_,_,B,λH=>by cbv⟩
 |dQ n=>obtain rfl:=h;exact⟨_,_,B,λH=>by cbv⟩
 |ret n=>obtain rfl:=h;exact⟨_,_,B,λH=>by cbv⟩
 |eW=>obtain rfl:=h;exact⟨_,_,B,λH=>by cbv⟩
noncomputable def Out.vi:Out->Bool
 |.val _=>af
 |.dQ _=>af
 |_=>ag
theorem iL.vi(h:iL o v):∃kd u,v=.tup [.str kd,u]/\∀H,mT H .NotIn (.str kd) (.tup [.str gV,.str o3])=ae (!o.vi):=by
 induction o using Out.casesOn with
 |val x=>refine c_ h λu a _=>?_;obtain rfl:=a;exact⟨_,_,B,λH=>by cbv⟩
 |fo e=>obtain rfl:=h;exact⟨_,_,B,λH=>by cbv⟩
 |brk n=>obtain rfl:=h;exact⟨_,_,B,λH=>by cbv⟩
 |dQ n=>obtain rfl:=h;exact⟨_,_,B,λH=>by cbv⟩
 |ret n=>obtain rfl:=h;exact⟨_,_,B,λH=>by cbv⟩
 |eW=>obtain rfl:=h;exact⟨_,_,B,λH=>by cbv⟩
theorem KU(h:ec (d+2) b E o b5)(D:eo bZ cc cb E H)
  (s:∀v a,iL o v->eo bZ cc cb b5 a->Kept bZ cc cb H a->(match o with
   |.brk n=>κ.ef (.tup [.str gV,.int n]) a
   |_=>match o.vi with
    |true=>κ.cQ (lw t bZ (.tup [j' mA (jw id),toV b,.bool ag]) (ae v)) a
    |false=>κ.ef v a)):
  cq (U (d+2)) 191 (bX 1201 10000014) (lw t bZ (.tup [j' mA (jw id),toV b,.bool ag]) js) κ H:=by
 have q:(cF (.tup [j' mA (jw id),toV b,.bool ag]) (.int 1) λI=>cl (d+2) (.glob 1201) [I,.ref bZ] λm=>cF m (.int 0) λG=>cp .Eq G (.str oj) λz=>b6 z (cF m (.int 1) λA=>lm 2 (κ.ef (.tup [.str gV,A]))) (cF m (.int 0) λu=>lm 2 (cp .NotIn u (.tup [.str gV,.str o3]) λr=>b6 r (κ.ef m) (κ.cQ (iK t (.ref bZ) (.str pX) (.tup [j' mA (jw id),toV b,.bool ag]) (.Y m)))))) H:=by
  refine fD (i:=1) (by simp) B (de B (h D λv a p C y=>?_));have fin:=s v a p C y;refine lZ p.brk λg j F ch=>?_;obtain rfl:=F;refine lZ p.vi λM L fc cf=>?_;injection fc with fc;injection fc with fc _;injection fc with fc
  subst fc;refine fD (i:=0) (by simp) B ⟨_,ch a,?_⟩;have l:(∀n,o≠.brk n)->(match o.vi with
    |true=>κ.cQ (lw t bZ (.tup [j' mA (jw id),toV b,.bool ag]) (ae (.tup [.str g,j]))) a
    |false=>κ.ef (.tup [.str g,j]) a)->(cF (.tup [.str g,j]) (.int 0) λu=>lm 2 (cp .NotIn u (.tup [.str gV,.str o3]) λr=>b6 r (κ.ef (.tup [.str g,j])) (κ.cQ (iK t (.ref bZ) (.str pX) (.tup [j' mA (jw id),toV b,.bool ag]) (.Y (.tup [.str g,j])))))) a:=λ_ f=>by
   refine fD (i:=0) (by simp) B (c7 B ⟨_,cf a,?_⟩);cases w:o.vi with
   |true=>rw[w]at f;exact c6 f
   |false=>rw[w]at f;exact dI f
  induction o using Out.casesOn with
  |brk n=>
   have c:(J.tup [.str g,j])=.tup [.str oj,.int n]:=p;injection c with c;injection c with _ c;injection c with c _
   subst c;exact dI (fD (i:=1) (by simp) B (c7 B fin))
  |val x=>exact c6 (l (λn h=>by cases h) fin)
  |fo e=>exact c6 (l (λn h=>by cases h) fin)
  |dQ n=>exact c6 (l (λn h=>by cases h) fin)
  |ret n=>exact c6 (l (λn h=>by cases h) fin)
  |eW=>exact c6 (l (λn h=>by cases h) fin)
 induction js using a_ with
 |none=>dsimp only[lw]at s q⊢;rw[ahX];exact q
 |some v=>dsimp only[lw]at s q⊢;rw[ahY];exact q
theorem n3.brk(l:E.gy.length<=100000)(c:E.cnt id<=id.fmod 10)(h:ec (d+2) b (E.tick id) (.brk n) b5):n3 d id b E (.val (ae (.int n))) b5:=by refine⟨1,λa m q p=>Fx a m l q λs i f=>?_⟩;rw[decide_eq_true c];refine dI (KU h i λt g u r j=>?_);exact p _ g ⟨_,B,λv e=>by injection e⟩ r (f.trans j)
theorem n3.out(l:E.gy.length<=100000)(c:E.cnt id<=id.fmod 10)(h:ec (d+2) b (E.tick id) o b5)(a:o.ut=af\/o.nF=af\/∃n,o=.ret n):n3 d id b E o b5:=by
 refine⟨1,λr p i q=>Fx r p l i λv f g=>?_⟩;rw[decide_eq_true c];refine dI (KU h f λm j s u t=>?_);have fin:=q m j s u (g.trans t)
 induction o using Out.casesOn with
 |fo e=>exact fin
 |ret n=>exact fin
 |eW=>exact fin
 |val x=>rcases a with h|h|⟨n,h⟩<;>cases h
 |brk n=>rcases a with h|h|⟨n,h⟩<;>cases h
 |dQ n=>rcases a with h|h|⟨n,h⟩<;>cases h
theorem n3.go(l:E.gy.length<=100000)(c:E.cnt id<=id.fmod 10)(h:ec (d+2) b (E.tick id) eO cU)(a:eO.isVal=af\/∃n,eO=.dQ n)(w:n3 d id b cU o b5):n3 d id b E o b5:=by
 refine gu w λm w=>⟨m+1,λf s p t=>Fx f s l p λC g j=>?_⟩;rw[decide_eq_true c];refine dI (KU h g λq D F z v=>?_);have dQ:=w f (ae q) z λu A i r y=>t u A i r (j.trans (v.trans y))
 induction eO using Out.casesOn with
 |val x=>exact dQ
 |dQ n=>exact dQ
 |fo e=>rcases a with h|⟨n,h⟩<;>cases h
 |brk n=>rcases a with h|⟨n,h⟩<;>cases h
 |ret n=>rcases a with h|⟨n,h⟩<;>cases h
 |eW=>rcases a with h|⟨n,h⟩<;>cases h
end
noncomputable def hV(pt:J)(bZ:ai)(b r o l v:J)(a e c:d6):Loc:=wH pt (.ref bZ) (.Y b) (.Y r) (.Y o) (.Y l) (.iN v) a e c
inductive ql:d6->d6->Prop
 |a:ql .un .un
 |b x:ql (.Y x) .un
 |c (x y):ql (.Y x) (.Y y)
def Ai(d:Nat)(κ:cD)(pt:J)(bZ:ai)(b r o l v:J):bT:=cp .IsNot l .none λe=>b6 e (cl d (.glob 1201) [l,.ref bZ] λc=>(λ(a:J->bT)=>cF c (.int 0) λf=>cp .NotEq f (.str gV) λh=>b6 h (a c) (a v)) λg=>κ.ef g) (κ.ef v)
theorem akr(d:Nat)(κ:cD)(pt:J)(bZ:ai)(b r o l v:J)(h:ql dh dO):cq (U d) 197 (bX 1206 1000) (hV pt bZ b r o l v dh dO .un) κ=Ai d κ pt bZ b r o l v:=by
 induction h using ql.casesOn with
 |a=>cbv
 |b x=>cbv
 |c x y=>cbv
theorem R_(d:Nat)(e:Bool->bT)(pt:J)(bZ:ai)(b r o l v:J)(h:ql dh dO):iZ (U d) 196 (x1 (dS (bX 1206 100))) (hV pt bZ b r o l v dh dO .un) e=cF v (.int 0) λf=>cp .Eq f (.str nN) λc1=>e c1:=by
 induction h using ql.casesOn with
 |a=>cbv
 |b x=>cbv
 |c x y=>cbv
def tY(d:Nat)(κ:cD)(g:J)(bZ:ai)(e f c h:J)(m j:d6):bT:=cl d (.glob 1201) [e,.ref bZ] λa=>cF a (.int 0) λI=>cp .Eq I (.str nN) λS=>b6 S (κ.mU (hV g bZ e f c h a m j .un)) ((λ(l:Bool->bT)=>cF a (.int 0) λZ=>cp .Eq Z (.str gV) λL=>b6 L (cp .IsNot c .none λz=>b6 z (l af) (l ag)) (l ag)) λao=>b6 ao (cl d (.glob 1201) [c,.ref bZ] λC=>κ.mU (hV g bZ e f c h C m j .un)) (cF a (.int 0) λA=>cp .NotEq A (.str v3) λa1=>b6 a1 (κ.mU (hV g bZ e f c h a m j .un)) (iY f λbV q=>oi q (ix bV (λn r=>(λ(p:Bool->bT)=>cF n (.int 0) λF=>lm 0 (cp .Eq F (.lst []) λy=>b6 y (p af) (cF n (.int 0) λV=>iY V λW t=>oi t (ix W (λs v=>b4 s jY λD=>cF D (.int 1) λap=>cF a (.int 1) λbd=>cp .Eq ap bd λR=>b6 R (v (ae s)) (v ah)) (λw=>lm 0 (cp .NotEq (.lst w) (.lst []) λx=>b6 x (p af) (p ag))) t [])))) λQ=>b6 Q (r (ae n)) (r ah)) (λi=>lm 0 (cp .Eq (.lst i) (.lst []) λX=>b6 X (κ.mU (hV g bZ e f c h a (.Y (.lst i)) j .un)) (cF (.ref bZ) (.str nJ) λu=>cF a (.int 1) λN=>lm 2 (hu 2 (lJ (.ref bZ) (.str nJ) N (cF (.lst i) (.int 0) λG=>cF G (.int 2) λM=>cl d (.glob 1201) [M,.ref bZ] λa2=>lJ (.ref bZ) (.str nJ) u (κ.cQ (hV g bZ e f c h a2 (.Y (.lst i)) (.Y u) .un)))))))) q []))))
theorem akt(d:Nat)(κ:cD)(j:J)(bZ:ai)(i f e g v:J)(h:ql dh dO):cq (U d) 196 (bX 1206 1004) (hV j bZ i f e g v dh dO .un) κ=tY d κ j bZ i f e g dh dO:=by
 induction h using ql.casesOn with
 |a=>cbv
 |b x=>cbv
 |c x y=>cbv
noncomputable def vj(q:Nat×T):J:=.tup [ox q.1,.none,toV q.2]
theorem aku(hs:List (Nat×T)):mh hs=hs.map vj:=rfl
section
theorem CJ(h:k (.str (iR e)) H):cF (gb e) (.int 1) k H:=KL h
theorem akv{e:Bool}{f:Option J->bT}(h:f (if fits q.1 e then ae (vj q)else ah) H):
  ((λ(a:Bool->bT)=>cF (vj q) (.int 0) λt=>lm 0 (cp .Eq t (.lst []) λr=>b6 r (a af) (cF (vj q) (.int 0) λw=>iY w λx j=>oi j (ix x (λg l=>b4 g jY λs=>cF s (.int 1) λy=>cF (gb e) (.int 1) λz=>cp .Eq y z λv=>b6 v (l (ae g)) (l ah)) (λm=>lm 0 (cp .NotEq (.lst m) (.lst []) λp=>b6 p (a af) (a ag))) j [])))) λu=>b6 u (f (ae (vj q))) (f ah)) H:=by
 obtain⟨c,A⟩:=q;refine fD (i:=0) (by simp) B (c7 B ?_)
 match c,h with
 |0,h=>exact⟨af,by cbv,dI (dI h)⟩
 |1,h=>
  refine⟨ag,by cbv,c6 (fD (i:=0) (by simp) B (n0 (ay B) ⟨ay B,⟨B,Internal.P.hO (fD (i:=1) (by simp) B (CJ ?_))⟩⟩))⟩;cases e
  .exact ⟨af,by cbv,dI ⟨B,c7 B ⟨af,by cbv,dI (dI h)⟩⟩⟩
  .exact ⟨ag,by cbv,c6 ⟨B,c7 B ⟨ag,by cbv,c6 (c6 h)⟩⟩⟩
 |2,h=>
  refine⟨ag,by cbv,c6 (fD (i:=0) (by simp) B (n0 (ay B) ⟨ay B,⟨B,Internal.P.hO (fD (i:=1) (by simp) B (CJ ?_))⟩⟩))⟩;cases e
  .exact ⟨ag,by cbv,c6 ⟨B,c7 B ⟨ag,by cbv,c6 (c6 h)⟩⟩⟩
  .exact ⟨af,by cbv,dI ⟨B,c7 B ⟨af,by cbv,dI (dI h)⟩⟩⟩
 |n+3,h=>
  refine⟨ag,by cbv,c6 (fD (i:=0) (by simp) B (n0 (ay B) ⟨ay B,⟨B,Internal.P.hO (fD (i:=1) (by simp) B (CJ ?_))⟩⟩))⟩
  induction e using aS
  .exact ⟨ag,by cbv,c6 ⟨B,Internal.P.hO (fD (i:=1) (by simp) B (CJ ⟨af,by cbv,dI ⟨B,c7 B ⟨af,by cbv,dI (dI h)⟩⟩⟩))⟩⟩
  .exact ⟨af,by cbv,dI ⟨B,Internal.P.hO (fD (i:=1) (by simp) B (CJ ⟨ag,by cbv,c6 ⟨B,c7 B ⟨af,by cbv,dI (dI h)⟩⟩⟩))⟩⟩
end
noncomputable def wQ(e:Bool)(hs:List (Nat×T)):List (Nat×T):=hs.filter λa=>fits a.1 e
theorem Sa:∀{hs:List (Nat×T)},pick e hs=ah->wQ e hs=[]
 |[]=>λ_=>B
 |(c,h)::r=>λa=>by
  dsimp only[pick]at a;cases f:fits c e with
  |true=>replace a:=(if_pos f)▸a;exact gS a
  |false=>
   rw[if_neg (by rw[f];decide)]at a;have:pick e r=ah:=by
    cases g:pick e r with
    |none=>rfl
    |some x=>replace a:=g▸a;exact gS a
   dsimp only[wQ];rw[apV (by simp[f])];exact Sa this
theorem KW:∀{hs:List (Nat×T)},pick e hs=ae (h,n)->∃c r,wQ e hs=(c,h)::r
 |[]=>λa=>by exact cV a
 |(c,h')::r=>λa=>by
  dsimp only[pick]at a;cases f:fits c e with
  |true=>
   rw[if_pos f]at a;replace a:=aC.inj a;injection a with a _
   subst a;exact⟨c,wQ e r,by dsimp only[wQ];rw[List.filter_cons_of_pos (by simp[f])]⟩
  |false=>
   rw[if_neg (by rw[f];decide)]at a;cases g:pick e r with
   |none=>replace a:=g▸a;exact cV a
   |some x=>
    obtain⟨m,p⟩:=x;rw[g]at a;replace a:=aC.inj a;injection a with a _
    subst a;exact vy (KW g) λl j i=>⟨l,j,by dsimp only[wQ]at i⊢;rw[apV (by simp[f])];exact i⟩
theorem KX(hs:src H):∀(L:List β)(acc:List J),(∀r∈L,∀i:Option J->bT,i (if g r then ae (f r)else ah) H->body (f r) i H)->dX (acc++(L.filter g).map f) H->ix src body dX (L.map f) acc H
 |[]=>λacc _ h=>⟨hs,by rw[List.filter_nil,List.map_nil,bB]at h;exact h⟩
 |r::L=>λacc c h=>by
  refine⟨hs,c r (a4 ..) _ ?_⟩;cases e:g r with
  |true=>rw[List.filter_cons_of_pos e,aL]at h;refine KX hs L (acc++[f r]) (λa m=>c a (aY _ m)) ?_;rw[bk];exact h
  |false=>rw[apV (by simp[e])]at h;exact KX hs L acc (λa m=>c a (aY _ m)) h
section
theorem iL.ef(h:iL o v):∃kd u,v=.tup [.str kd,u]/\(∀H,mT H .Eq (.str kd) (.str nN)=ae o.nF)/\(∀H,mT H .Eq (.str kd) (.str gV)=ae o.isVal)/\(∀H,mT H .NotEq (.str kd) (.str v3)=ae (!o.ut)):=by
 induction o using Out.casesOn with
 |val x=>refine c_ h λu a _=>?_;obtain rfl:=a;exact⟨_,_,B,λH=>by cbv,λH=>by cbv,λH=>by cbv⟩
 |fo e=>obtain rfl:=h;exact⟨_,_,B,λH=>by cbv,λH=>by cbv,λH=>by cbv⟩
 |brk n=>obtain rfl:=h;exact⟨_,_,B,λH=>by cbv,λH=>by cbv,λH=>by cbv⟩
 |dQ n=>obtain rfl:=h;exact⟨_,_,B,λH=>by cbv,λH=>by cbv,λH=>by cbv⟩
 |ret n=>obtain rfl:=h;exact⟨_,_,B,λH=>by cbv,λH=>by cbv,λH=>by cbv⟩
 |eW=>obtain rfl:=h;exact⟨_,_,B,λH=>by cbv,λH=>by cbv,λH=>by cbv⟩
end
section
variable{κ:cD}{pt r l:J}{dh dO:d6}
theorem akw(h:ec d b E o cU)(ce:o.q_=af\/(o.isVal=af/\mu (toV ot) .none=ae af))(m:eo bZ cc cb E H)(q:∀v e,iL o v->eo bZ cc cb cU e->Kept bZ cc cb H e->κ.mU (hV pt bZ (toV b) r (toV ot) l v dh dO .un) e):tY d κ pt bZ (toV b) r (toV ot) l dh dO H:=by
 unfold tY;refine de B (h m λv a f j g=>?_);have fin:=q v a f j g;refine y' f.ef λt u n ch cf eC=>?_;obtain rfl:=n;refine fD (i:=0) (by simp) B ⟨_,ch a,?_⟩;cases s:o.nF with
 |true=>exact dI fin
 |false=>
  refine c6 (fD (i:=0) (by simp) B ⟨_,cf a,?_⟩);cases c:o.isVal with
  |true=>
   rcases ce with ce|⟨_,ce⟩
   .unfold Out.q_ at ce;rw[c]at ce;exact d8 ce
   .refine dI (mH ce (c6 (c6 (fD (i:=0) (by simp) B ⟨_,eC a,?_⟩))));have:o.ut=ag:=by induction o using Out.casesOn<;>first|rfl|exact d8 c
    rw[this];exact dI fin
  |false=>
   refine c6 (c6 (fD (i:=0) (by simp) B ⟨_,eC a,?_⟩));rcases ce with ce|⟨ce,_⟩
   .have:o.ut=ag:=by
     unfold Out.q_ at ce;cases p:o.ut with
     |false=>rfl
     |true=>rw[p,c]at ce;exact d8 ce
    rw[this];exact dI fin
   .replace ce:=c▸ce;exact d8 ce
end
section
variable{κ:cD}{pt r l:J}{dh dO:d6}
theorem akx(h:ec d b E (.val x) cU)(f:mu (toV ot) .none=ae ag)(h2:ec d ot cU o b5)(m:eo bZ cc cb E H)(q:∀v a,iL o v->eo bZ cc cb b5 a->Kept bZ cc cb H a->κ.mU (hV pt bZ (toV b) r (toV ot) l v dh dO .un) a):tY d κ pt bZ (toV b) r (toV ot) l dh dO H:=by unfold tY;refine de B (h m λv c t j e=>?_);refine y' t.ef λy z n ch cf eC=>?_;obtain rfl:=n;refine fD (i:=0) (by simp) B ⟨_,ch c,c6 (fD (i:=0) (by simp) B ⟨_,cf c,dI (mH f (dI (dI ?_)))⟩)⟩;exact de B (h2 j λs p g w u=>q s p g w (e.trans u))
theorem Sb(q:hs.length<=1000)(h:dX ((wQ e hs).map vj) H):
  (iY (.lst (mh hs)) λM i=>oi i (ix M (λa n=>(λ(c:Bool->bT)=>cF a (.int 0) λz=>lm 0 (cp .Eq z (.lst []) λx=>b6 x (c af) (cF a (.int 0) λF=>iY F λG p=>oi p (ix G (λj t=>b4 j jY λy=>cF y (.int 1) λI=>cF (gb e) (.int 1) λL=>cp .Eq I L λD=>b6 D (t (ae j)) (t ah)) (λu=>lm 0 (cp .NotEq (.lst u) (.lst []) λv=>b6 v (c af) (c ag))) p [])))) λC=>b6 C (n (ae a)) (n ah)) dX i [])) H:=by
 rw[aku];refine n0 (by simp;exact fa q B) ⟨by simp;exact fa q B,?_⟩;refine KX (src:=λA=>iO A (.lst (hs.map vj))=iO H (.lst (hs.map vj))) (f:=vj) (g:=λs=>fits s.1 e) B hs [] (λs m N w=>akv w) ?_;rw[List.nil_append];exact h
end
section
variable{κ:cD}{et:Env}{pt l:J}{dh dO:d6}{hs:List (Nat×T)}{e:Bool}
theorem eq_nil{vs:List J}{k:Bool->bT}(h:k (vs.isEmpty) H):cp .Eq (.lst vs) (.lst []) k H:=by
 induction vs using aE with
 |nil=>exact⟨af,by cbv,h⟩
 |cons a vs=>exact⟨ag,(if_neg (Nat.succ_ne_zero vs.length):(if(a::vs).length=([]:List J).length then vA H (.lst (a::vs)) (.lst [])else ae ag)=ae ag),h⟩
theorem aky(h:ec d b E (.fo e) cU)(j:hs.length<=1000)(s:pick e hs=ah)(n:eo bZ cc cb E H)(p:∀c,eo bZ cc cb cU c->Kept bZ cc cb H c->κ.mU (hV pt bZ (toV b) (.lst (mh hs)) (toV ot) l (gb e) (.Y (.lst [])) dO .un) c):tY d κ pt bZ (toV b) (.lst (mh hs)) (toV ot) l dh dO H:=by
 unfold tY;refine de B (h n λu a r m f=>?_);obtain rfl:=r;refine y' ((show iL (.fo e) (gb e)from B).ef) λg t q ch cf eC=>?_;have fin:=p a m f;have s0:∀{k:cZ},k (.str g) a->cF (gb e) (.int 0) k a:=λh=>by rw[q];exact fD (i:=0) (by simp) B h
 refine s0 ⟨_,ch a,c6 (s0 ⟨_,cf a,c6 (c6 (s0 ⟨_,eC a,c6 ?_⟩))⟩)⟩;exact Sb j ((Sa s)▸(c7 B (eq_nil (dI fin))))
end
section
variable{κ:cD}{et:Env}{f9:T}{pt l:J}{dh dO:d6}{hs:List (Nat×T)}{e:Bool}{n:Nat}
theorem Sc(h:ec d b E (.fo e) cU)(m:hs.length<=1000)(G:pick e hs=ae (f9,n))(h2:ec d f9 (cU.iS (ae e)) o et)(u:eo bZ cc cb E H)(w:∀v x y f,iL o v->eo bZ cc cb (et.iS cU.err) f->Kept bZ cc cb H f->κ.cQ (hV pt bZ (toV b) (.lst (mh hs)) (toV ot) l v (.Y x) (.Y y) .un) f):tY d κ pt bZ (toV b) (.lst (mh hs)) (toV ot) l dh dO H:=by
 unfold tY;refine de B (h u λv a D g q=>?_);obtain rfl:=D;refine y' ((show iL (.fo e) (gb e)from B).ef) λt I z ch cf eC=>?_;have s0:∀{k:cZ},k (.str t) a->cF (gb e) (.int 0) k a:=λh=>by rw[z];exact fD (i:=0) (by simp) B h
 refine s0 ⟨_,ch a,c6 (s0 ⟨_,cf a,c6 (c6 (s0 ⟨_,eC a,c6 ?_⟩))⟩)⟩;refine Sb m (vy (KW G) λc r j=>j▸(c7 B (eq_nil (c6 (Fp g (KL (c7 B (gR (KH (e:=ae e) g ?_)))))))));have F:=g.err (ae e);have lf:((c,f9)::r).length<=1000:=by exact j▸(aq (List.length_filter_le ..) m)
 refine oS (i:=0) (by simp at lf⊢;exact fa lf B) (KJ (by simp)) B (fD (i:=2) (by simp) B (de B (h2 F λA L s p C=>?_)));exact KH (e:=cU.err) p (w A _ _ _ s (p.err cU.err) ((q.trans ((Kept.set (.inl B)).trans C)).trans (Kept.set (.inl B))))
end
def Aj(d:Nat)(k:cZ)(m:Nat)(a:Loc):bT:=q3 (λa=>iZ (U d) 196 (x1 (dS (bX 1206 100))) a) (λa c=>cq (U d) 196 (bX 1206 1004) a c) (gc (U d) 197 (bX 1206 1000) (cD.top k)) m a
def kc(d:Nat)(hs:List (Nat×T))(ot b:T)(E:Env)(o:Out)(b5:Env):Prop:=∃m,∀{bZ cc cb:ai}{H:bW}{k:cZ}(e l g:J){f c:d6},ql f c->iL .eW g->eo bZ cc cb E H->(∀h a,iL o h->eo bZ cc cb b5 a->Kept bZ cc cb H a->Ai d (cD.top k) e bZ (toV b) (.lst (mh hs)) (toV ot) l h a)->Aj d k m (hV e bZ (toV b) (.lst (mh hs)) (toV ot) l g f c .un) H
section
variable{m:Nat}{et:Env}{f9:T}{pt l v r:J}{dh dO:d6}{hs:List (Nat×T)}{e:Bool}{n:Nat}
theorem CK(bs:ql dh dO)(c:iL .eW v)(h:tY d ⟨λa=>Aj d k m a,(gc (U d) 197 (bX 1206 1000) (cD.top k)).ef,λa=>(gc (U d) 197 (bX 1206 1000) (cD.top k)).cQ a,λa=>Aj d k m a⟩ pt bZ (toV b) r (toV ot) l dh dO H):Aj d k (m+1) (hV pt bZ (toV b) r (toV ot) l v dh dO .un) H:=by show iZ _ _ _ _ _ _;rw[R_ _ _ _ _ _ _ _ _ _ bs];obtain rfl:=c;refine fD (i:=0) (by simp) B ⟨af,by cbv,?_⟩;refine dI ?_;show cq _ _ _ _ _ _;rw[akt _ _ _ _ _ _ _ _ _ bs];exact h
end
section
theorem Fz{bZ:ai}{pt l v r:J}{a c:d6}(bs:ql a c)(h:Ai d (cD.top k) pt bZ (toV b) r (toV ot) l v H):(gc (U d) 197 (bX 1206 1000) (cD.top k)).cQ (hV pt bZ (toV b) r (toV ot) l v a c .un) H:=by show cq _ _ _ _ _ _;rw[akr _ _ _ _ _ _ _ _ _ bs];exact h
theorem kc.end_(h:ec d b E o b5)(ce:o.q_=af\/(o.isVal=af/\mu (toV ot) .none=ae af)):kc d hs ot b E o b5:=
 ⟨1,λp l n _ _ bs e m j=>CK bs e (akw h ce m λa c f g i=>Fz bs (j a c f g i))⟩
theorem kc.akA(h:ec d b E (.val x) cU)(f:mu (toV ot) .none=ae ag)(h2:ec d ot cU o b5):kc d hs ot b E o b5:=
 ⟨1,λq l p _ _ bs e n m=>CK bs e (akx h f h2 n λa c g i j=>Fz bs (m a c g i j))⟩
theorem kc.no(h:ec d b E (.fo e) b5)(a:hs.length<=1000)(n:pick e hs=ah):kc d hs ot b E (.fo e) b5:=
 ⟨1,λr l q _ p bs c m j=>CK bs c (aky h a n m λf g i=>Fz (by induction bs using ql.casesOn<;>constructor) (j _ f B g i))⟩
end
section
theorem akB{bZ:ai}{pt l v r:J}{a c:d6}(bs:ql a c)(e:iL o v)(f:o.nF=ag)(h:Ai d (cD.top k) pt bZ (toV b) r (toV ot) l v H):Aj d k (m+1) (hV pt bZ (toV b) r (toV ot) l v a c .un) H:=by show iZ _ _ _ _ _ _;rw[R_ _ _ _ _ _ _ _ _ _ bs];refine gT e.ef λn j g ch _=>?_;obtain rfl:=g;refine fD (i:=0) (by simp) B ⟨_,ch H,?_⟩;rw[f];exact c6 (Fz bs h)
theorem kc.hit(h:ec d b E (.fo e) cU)(f:hs.length<=1000)(u:pick e hs=ae (f9,n))(h2:ec d f9 (cU.iS (ae e)) o et)(s:o.nF=ag):kc d hs ot b E o (et.iS cU.err):=
 ⟨2,λv l w _ _ bs r i p=>CK bs r (Sc h f u h2 i λq x y g a j t=>akB (m:=0) (.c x y) a s (p q g a j t))⟩
theorem kc.again(h:ec d b E (.fo e) cU)(f:hs.length<=1000)(C:pick e hs=ae (f9,n))(h2:ec d f9 (cU.iS (ae e)) .eW et)(g:kc d hs ot b (et.iS cU.err) o b5):kc d hs ot b E o b5:=by exact gu g λm g=>⟨m+1,λj l F _ _ bs w p s=>CK bs w (Sc h f C h2 p λv x y D a r A=>g j l v (.c x y) a r λu t q z i=>s u t q z (A.trans i))⟩
end
section
variable{eO:Out}{l:T}{hs:List (Nat×T)}
theorem Se(h:∀pt,Aj (d+1) k m (hV pt bZ mM (.lst (mh hs)) akE mx (.tup [.str nN,.none]) .un .un .un) H):U (d+3) 1201 [fL kJ [mM,.lst (mh hs),akE,mx],.ref bZ] k H:=by rw[rL];refine Internal.P.nZ (Internal.P.hO (c7 B (gR ?_)));refine hr (λH=>by cbv) (hr (λH=>by cbv) (hr (λH=>by cbv) (hr (λH=>by cbv) (hr (λH=>by cbv) (c7 B ⟨ag,by cbv,c6 (hr (λH=>by cbv) (de B ?_))⟩)))));rw[ah1,ah3,ah4];refine gR (c7 B ?_);rw[ah5];exact⟨m,h _⟩
end
section
variable{eO:Out}{l:T}{hs:List (Nat×T)}
theorem Sf(g:kc (d+1) hs ot b E o b5)(p:eo bZ cc cb E H)(n:∀v c,iL o v->eo bZ cc cb b5 c->Kept bZ cc cb H c->k v c):U (d+3) 1201 [fL kJ [toV b,.lst (mh hs),toV ot,.none],.ref bZ] k H:=by refine gu g λm g=>Se (m:=m) λh=>g h .none _ .a B p λe c f i j=>?_;unfold Ai;exact mH (b:=af) B (c6 (n e c f i j))
theorem Sg(g:kc (d+1) hs ot b E eO cU)(cv:mu (toV l) .none=ae ag)(h2:ec (d+1) l cU o b5)(p:eo bZ cc cb E H)(t:∀v h c,iL o v->iL eO h->eo bZ cc cb b5 c->Kept bZ cc cb H c->k (if o.isVal then h else v) c):U (d+3) 1201 [fL kJ [toV b,.lst (mh hs),toV ot,toV l],.ref bZ] k H:=by
 refine gu g λm g=>Se (m:=m) λn=>g n (toV l) _ .a B p λu c i s x=>?_;unfold Ai;refine mH cv (dI (de B (h2 s λr q f w j=>?_)));have fin:=t r u q f i w (x.trans j);refine tX f (λe=>?_) λe=>?_
 .rw [if_pos e]at fin;exact fin
 .rw [if_neg (by rw[e];decide)]at fin;exact fin
end
theorem KZ(p:pick e hs=ae (h,n)):∃c,(c,h)∈hs:=by
 refine vy (KW p) λc r f=>?_;have:(c,h)∈wQ e hs:=by exact f▸(a4 ..)
 exact⟨c,(apr.mp this).1⟩
theorem K0(m:(c,h)∈iA c1 h1 c2 h2):h=h1\/(h=h2/\h2.isNil=ag):=by
 dsimp only[iA]at m;rcases aI.mp m with m|m
 .injection m with _ m;exact .inl m
 .cases e:h2.isNil with
  |true=>replace m:=e▸m;cases m
  |false=>
   rw[e]at m;rcases aI.mp m with m|m
   .injection m with _ m;exact .inr ⟨m,B⟩
   .cases m
theorem K1(c1 c2:Nat)(h1 h2:T):(iA c1 h1 c2 h2).length<=1000:=by dsimp only[iA];cases h2.isNil<;>simp
theorem CL(t:T):1<=cH t:=by induction t using T.casesOn<;>first|exact ay rfl|exact aq (ay rfl) (bq ..)
theorem Sh(c1 c2:Nat)(h1 h2:T):sG c1 (toV h1) c2 (h2.opt (toV h2))=.lst (mh (iA c1 h1 c2 h2)):=by dsimp only[sG,T.opt,iA];cases h2.isNil<;>rfl
noncomputable def T.knd:T->Nat
 |.fm _ _=>1
 |.bare _=>2
 |.eV _ _ _ _ _ _=>3
 |_=>0
theorem vk{a b:T}{C:Prop}{k:Nat}(n:T.knd a=k)(e:a=b)(h:(k==T.knd b)=ag):C:=d8 (h.symm.trans (beq_iff_eq.mpr (n.symm.trans (congrArg T.knd e))))
structure pq(t:T)(E:Env)(o:Out)(b5:Env):Prop where
 hZ:∀d,cH t<=d->ec d t E o b5
 akF:∀id b,t=.fm id b->∀d,cH b<=d+2->n3 d id b E o b5
 D4:∀b,t=.bare b->∀d,cH b<=d->kc d [] .nil b E o b5
 la:∀c1 h1 c2 h2 ot b,t=.eV c1 h1 c2 h2 ot b->∀d,max (max (cH h1) (cH h2)) (max (cH ot) (cH b))<=d->kc d (iA c1 h1 c2 h2) ot b E o b5
section
variable{id:Int}{c1 c2:Nat}
theorem pq.of(h:∀d,cH t<=d->ec d t E o b5)(n:T.knd t=0):pq t E o b5:=
 ⟨h,λ_ _ e=>vk (n:=n) e B,λ_ e=>vk (n:=n) e B,λ_ _ _ _ _ _ e=>vk (n:=n) e B⟩
theorem pq.fm(h:∀d,cH b<=d+2->n3 d id b E o b5):pq (.fm id b) E o b5:=
 ⟨λd l=>by simp only[oD,qU,rQ,rR,rS,rT,rU]at l;obtain⟨d,rfl⟩:∃e,d=e+3:=⟨d-3,by exact w5 l B⟩;exact(h d (cY l)).hZ,λc a e d l=>by cases e;exact h d l,λa e=>vk B e B,λc1 f c2 g ot b e=>vk B e B⟩
theorem pq.bare(h:∀d,cH b<=d->kc d [] .nil b E o b5):pq (.bare b) E o b5:=
 ⟨λd l=>by simp only[oD,qU,rQ,rR,rS,rT,rU]at l;have:=CL b;obtain⟨d,rfl⟩:∃e,d=e+3:=⟨d-3,by exact a7 (cY (eB d 3)) (cY (sB (show 3<=d from(dp l this))))⟩;intro bZ cc cb H k he V;exact Sf (h (d+1) (by(simp+arith at l⊢;exact l))) he V,λc a e=>vk B e B,λa e d l=>by cases e;exact h d l,λc1 g c2 f ot b e=>vk B e B⟩
theorem pq.eV(h:∀d,max (max (cH h1) (cH h2)) (max (cH ot) (cH b))<=d->kc d (iA c1 h1 c2 h2) ot b E o b5):pq (.eV c1 h1 c2 h2 ot b) E o b5:=
 ⟨λd l=>by simp only[oD,qU,rQ,rR,rS,rT,rU]at l;have:=CL b;obtain⟨d,rfl⟩:∃e,d=e+3:=⟨d-3,by exact a7 (cY (eB d 3)) ((kU d 3).elim (λa=>cY (ak a)) λa=>c0 (ar l (a8 (max (cH h1) (cH h2)) (max (cH ot) (cH b)))) (ar this (a8 (cH ot) (cH b))) (ak a.1))⟩;intro bZ cc cb H k he V;have:=Sf (h (d+1) (by(simp+arith at l⊢;exact l))) he V;rw[<-Sh]at this;exact this,λf c e=>vk B e B,λc e=>vk B e B,λc1 h1 c2 h2 ot b e d l=>by cases e;exact h d l⟩
theorem pq.dZ(ce:pq x E eO cU)(cv:pq l cU o b5)(q:x.q_=af)(nl:mu (toV l) .none=ae ag)(p:∀v c,iL o v->iL eO c->iL eM (if o.isVal then c else v)):pq (.dZ x l) E eM b5:=
 .of (λd ld=>by
  simp only[oD,qU,rQ,rR,rS,rT,rU]at ld;have:=CL l
  induction x using T.casesOn with
  |bare b=>simp only[oD,qU,rQ,rR,rS,rT,rU]at ld;have:=CL b;obtain⟨d,rfl⟩:∃e,d=e+3:=⟨d-3,by exact a7 (cY (eB d 3)) ((kU d 3).elim (λa=>cY (ak a)) λa=>c0 ld (ak a.1) (bv (2+cH b) (cH l)))⟩;intro bZ cc cb H k he V;exact Sg (ce.D4 b B (d+1) (dp ld (bv (2+cH b) (cH l)))) nl (cv.hZ (d+1) (dp ld (a8 (2+cH b) (cH l)))) he λv c i h m n j=>V _ i (p v c h m) n j
  |eV c1 f c2 g ot b=>simp only[oD,qU,rQ,rR,rS,rT,rU]at ld;have:=CL b;obtain⟨d,rfl⟩:∃e,d=e+3:=⟨d-3,by exact a7 (cY (eB d 3)) ((kU d 3).elim (λa=>cY (ak a)) λa=>c0 ld (ak a.1) (bv (2+max (max (cH f) (cH g)) (max (cH ot) (cH b))) (cH l)))⟩;intro bZ cc cb H k he V;have:=Sg (k:=k) (ce.la c1 f c2 g ot b B (d+1) (dp ld (bv (2+max (max (cH f) (cH g)) (max (cH ot) (cH b))) (cH l)))) nl (cv.hZ (d+1) (dp ld (a8 (2+max (max (cH f) (cH g)) (max (cH ot) (cH b))) (cH l)))) he λv c i h m n j=>V _ i (p v c h m) n j;rw[<-Sh]at this;exact this
  |_=>cases q) B
end
theorem CM{a b c d:Nat}(h:c+max a b<=d+c):a<=d:=aq (bv a b) (Nat.le_of_add_le_add_left (aod d c▸h))
theorem K2{a b c d:Nat}(h:c+max a b<=d+c):b<=d:=aq (a8 a b) (Nat.le_of_add_le_add_left (aod d c▸h))
theorem ei{a b c e d:Nat}(h:max (max a b) (max c e)<=d):a<=d/\b<=d/\c<=d/\e<=d:=⟨(anY.1 (anY.1 h).1).1,(anY.1 (anY.1 h).1).2,(anY.1 (anY.1 h).2).1,(anY.1 (anY.1 h).2).2⟩
theorem pq.all(h:e3 t E o b5 c):∀{L H:Bool},iq L H t->E.told.length+c<=100000->E.gy.length+c<=100000->pq t E o b5:=by
 induction h with
 |mark=>exact λf g i=>.of (λd l=>by obtain⟨d,rfl⟩:∃e,d=e+2:=⟨d-2,by exact fw l B⟩;exact ec.mark (ank g)) B
 |seen=>exact λf g i=>.of (λd l=>by obtain⟨d,rfl⟩:∃e,d=e+2:=⟨d-2,by exact fw l B⟩;exact ec.seen (ank g)) B
 |h4=>exact λf g i=>.of (λd l=>by obtain⟨d,rfl⟩:∃e,d=e+2:=⟨d-2,by exact fw l B⟩;exact ec.h4) B
 |seq1 _ X=>exact λf g i=>.of (λd l=>by simp only[oD,qU,rQ,rR,rS,rT,rU]at l;obtain⟨d,rfl⟩:∃e,d=e+1:=⟨d-1,by exact w5 l B⟩;exact ec.seq1 ((X f g i).hZ d (by(simp+arith at l⊢;exact l)))) B
 |tg A _ p j=>exact λf g i=>.of (λd l=>by simp only[oD,qU,rQ,rR,rS,rT,rU]at l;obtain⟨d,rfl⟩:∃e,d=e+1:=⟨d-1,by exact w5 l B⟩;have:=A.told;intro bZ cc cb H k he V;exact ec.tg ((p f.1 (w7 g) (w7 i)).hZ d (by exact CM l)) ((j f.2 (dp g this.1) (dp i this.2)).hZ d (by exact K2 l)) he V) B
 |sk _ bX q=>exact λf g i=>.of (λd l=>by simp only[oD,qU,rQ,rR,rS,rT,rU]at l;obtain⟨d,rfl⟩:∃e,d=e+1:=⟨d-1,by exact w5 l B⟩;exact ec.sk ((q f.1 g i).hZ d (by exact CM l)) bX) B
 |uv A _ p j=>exact λf g i=>.of (λd l=>by simp only[oD,qU,rQ,rR,rS,rT,rU]at l;obtain⟨d,rfl⟩:∃e,d=e+1:=⟨d-1,by exact w5 l B⟩;have:=A.told;intro bZ cc cb H k he V;exact ec.uv ((p f.1 (aq (by k_is) g) (aq (by k_is) i)).hZ d (by exact CM l)) ((j f.2 (dp g this.1) (dp i this.2)).hZ d (by exact K2 l)) he V) B
 |uw A _ bX p j=>exact λf g i=>.of (λd l=>by simp only[oD,qU,rQ,rR,rS,rT,rU]at l;obtain⟨d,rfl⟩:∃e,d=e+1:=⟨d-1,by exact w5 l B⟩;have:=A.told;intro bZ cc cb H k he V;exact ec.uw ((p f.1 (w7 g) (w7 i)).hZ d (by exact CM l)) ((j f.2 (dp g this.1) (dp i this.2)).hZ d (by exact K2 l)) bX he V) B
 |ux _ bX q=>exact λf g i=>.of (λd l=>by simp only[oD,qU,rQ,rR,rS,rT,rU]at l;obtain⟨d,rfl⟩:∃e,d=e+1:=⟨d-1,by exact w5 l B⟩;exact ec.ux ((q f.1 g i).hZ d (by exact CM l)) bX) B
 |xA c=>exact λf g i=>.fm λd l=>n3.stop (ank i) c
 |@xB id b E n b5 c y _ q=>exact λf g i=>by have:=rO id (E.cnt id) E.gy;exact .fm λd l=>n3.brk (ank i) y ((q f.2 (by simp only[Env.tick];exact aq (by k_is) g) (by simp only[Env.tick];exact dp i this)).hZ (d+2) l)
 |@xC id b E o b5 c y _ z q=>exact λf g i=>by have:=rO id (E.cnt id) E.gy;exact .fm λd l=>n3.out (ank i) y ((q f.2 (by simp only[Env.tick];exact aq (by k_is) g) (by simp only[Env.tick];exact dp i this)).hZ (d+2) l) z
 |@xD id b E eO cU F o b5 D y v z _ p j=>exact λf g i=>by have:=rO id (E.cnt id) E.gy;have:=v.told;simp only[Env.tick]at this;exact .fm λd l=>n3.go (ank i) y ((p f.2 (by simp only[Env.tick];exact aq (by k_is) g) (by simp only[Env.tick];lia)).hZ (d+2) l) z ((j f (dp g this.1) (by lia)).akF id b B d l)
 |brk=>exact λf g i=>.of (λd l=>by obtain⟨d,rfl⟩:∃e,d=e+3:=⟨d-3,by exact fw l B⟩;exact ec.brk (ank g)) B
 |dQ=>exact λf g i=>.of (λd l=>by obtain⟨d,rfl⟩:∃e,d=e+3:=⟨d-3,by exact fw l B⟩;exact ec.dQ (ank g)) B
 |ret=>exact λf g i=>.of (λd l=>by obtain⟨d,rfl⟩:∃e,d=e+3:=⟨d-3,by exact fw l B⟩;exact ec.ret (ank g)) B
 |xE c=>exact λf g i=>.of (λd l=>by obtain⟨d,rfl⟩:∃e,d=e+3:=⟨d-3,by exact fw l B⟩;exact ec.once (ank i) _ (by rw[if_pos c])) B
 |xF c=>exact λf g i=>.of (λd l=>by obtain⟨d,rfl⟩:∃e,d=e+3:=⟨d-3,by exact fw l B⟩;exact ec.once (ank i) _ (by rw[if_neg c])) B
 |@bare b E o b5 c _ q=>
  exact λf g i=>by
   refine .bare λd l=>?_;have r:ec d b E o b5:=(q f g i).hZ d l;have nil:mu (toV .nil) .none=ae af:=B
   induction o using Out.casesOn with
   |val x=>exact kc.end_ r (.inr ⟨B,nil⟩)
   |fo e=>exact kc.no r (by simp) B
   |_=>exact kc.end_ r (.inl B)
 |@xG F s D u ot b E x b5 c _ no q=>exact λf g i=>.eV λd l=>kc.end_ ((q f.1 (w7 g) (w7 i)).hZ d (c0 l (a8 (max (cH s) (cH u)) (max (cH ot) (cH b))) (a8 (cH ot) (cH b)))) (.inr ⟨B,by induction ot using T.casesOn<;>first|rfl|cases no⟩)
 |@xH F s D u ot b E x cU c o b5 I v no _ p j=>exact λf g i=>by have:=v.told;have M:=f.2.1.resolve_left (by rw[no];decide);exact .eV λd l=>kc.akA ((p f.1 (aq (by k_is) g) (aq (by k_is) i)).hZ d (c0 l (a8 (max (cH s) (cH u)) (max (cH ot) (cH b))) (a8 (cH ot) (cH b)))) (rH M) ((j M (dp g this.1) (dp i this.2)).hZ d (c0 l (a8 (max (cH s) (cH u)) (max (cH ot) (cH b))) (bv (cH ot) (cH b))))
 |sb _ z q=>exact λf g i=>.eV λd l=>kc.end_ ((q f.1 g i).hZ d (by exact(ei l).2.2.2)) (.inl z)
 |xI _ w q=>exact λf g i=>.eV λd l=>kc.no ((q f.1 (aq (by k_is) g) (aq (by k_is) i)).hZ d (by exact(ei l).2.2.2)) (K1 ..) w
 |@xJ F s D u ot b E e cU c h t o R I v w _ Y p j=>
  exact λf g i=>by
   have:=v.told;obtain⟨Q,m⟩:=KZ w;have C:(∃L,iq L af h)/\cH h<=max (cH s) (cH u):=by
    rcases K0 m with rfl|⟨rfl,G⟩
    .exact ⟨⟨_,f.2.2.1.1⟩,by exact cY (bv (cH h) (cH u))⟩
    .exact ⟨⟨_,(f.2.2.2.resolve_left (by rw[G];decide)).1⟩,by exact cY (a8 (cH s) (cH h))⟩
   exact .eV λd l=>kc.hit ((p f.1 (aq (by k_is) g) (aq (by k_is) i)).hZ d (c0 l (a8 (max (cH s) (cH u)) (max (cH ot) (cH b))) (a8 (cH ot) (cH b)))) (K1 ..) w ((j C.1.choose_spec (by simp only[Env.iS];exact dp g this.1) (by simp only[Env.iS];exact dp i this.2)).hZ d (c0 C.2 l (bv (max (cH s) (cH u)) (max (cH ot) (cH b))))) Y
 |@sf F s D u ot b E e cU c h t R I o b5 Z v w hh _ p j W=>
  exact λf g i=>by
   have:=v.told;have c5:=hh.told;simp only[Env.iS]at c5;obtain⟨Q,m⟩:=KZ w;have C:(∃L,iq L af h)/\cH h<=max (cH s) (cH u):=by
    rcases K0 m with rfl|⟨rfl,G⟩
    .exact ⟨⟨_,f.2.2.1.1⟩,by exact cY (bv (cH h) (cH u))⟩
    .exact ⟨⟨_,(f.2.2.2.resolve_left (by rw[G];decide)).1⟩,by exact cY (a8 (cH s) (cH h))⟩
   exact .eV λd l=>kc.again ((p f.1 (aq (by k_is) g) (aq (by k_is) i)).hZ d (c0 l (a8 (max (cH s) (cH u)) (max (cH ot) (cH b))) (a8 (cH ot) (cH b)))) (K1 ..) w ((j C.1.choose_spec (by simp only[Env.iS];exact dp g this.1) (by simp only[Env.iS];exact dp i this.2)).hZ d (c0 C.2 l (bv (max (cH s) (cH u)) (max (cH ot) (cH b))))) ((W f (by simp only[Env.iS];exact c0 g this.1 c5.1) (by simp only[Env.iS];exact c0 i this.2 c5.2)).la _ _ _ _ _ _ B d l)
 |ev ce _ p j=>exact λf g i=>by have:=ce.told;exact(p f.1 (aq (by k_is) g) (aq (by k_is) i)).dZ (j f.2.1 (dp g this.1) (dp i this.2)) f.2.2 (rH f.2.1) λN S a b=>b
 |@mX x l E eO cU c o b5 I ce _ bX p j=>exact λf g i=>by have:=ce.told;exact(p f.1 (aq (by k_is) g) (aq (by k_is) i)).dZ (j f.2.1 (dp g this.1) (dp i this.2)) f.2.2 (rH f.2.1) λN S a b=>by exact bX▸a
end
noncomputable def b1(a b:Nat):Nat:=ax a (aJ b a)
theorem gf(a b:Nat):a<=b1 a b:=bq _ _
theorem fT(a b:Nat):b<=b1 a b:=by show b<=a+(b-a);exact cY (eB b a)
theorem CO(h:a<=c)(k:b<=c):b1 a b<=c:=by show a+(b-a)<=c;exact(kU b a).elim (λd=>dp k (ak d)) λd=>dp h (ak d.1)
structure dF where
 n:Nat
 x:Nat
 o:Nat
 r:Nat
 w:Nat
 a:Nat
 b:Nat
noncomputable def dF.al(m:dF):Nat:=b1 m.n (b1 m.x m.o)
noncomputable def cat(e:Nat):dF->dF->dF
 |⟨n,x,k,r,f,a,b⟩,⟨g,l,h,c,d,i,j⟩=>⟨aJ (ax (ax n g) e) 1000,b1 x (aJ (ax n l) 1000),b1 k (aJ (ax n h) 1000),ax r c,ax (ax f d) (bb c (aJ n 1000)),ax (ax a i) e,ax b j⟩
noncomputable def Ak(x:Nat):Nat:=aJ x (aJ x 1000)
noncomputable def rY(l:Nat):dF->dF
 |⟨n,x,c,r,d,a,b⟩=>⟨1005,Ak x,Ak c,r,ax d (bb l (ax (aJ (b1 n (b1 x c)) 1000) 5)),ax a 8,b⟩
noncomputable def n5:dF->dF->dF
 |⟨n,x,g,r,i,a,b⟩,⟨c,k,j,d,h,e,f⟩=>
  (λm=>⟨aJ (ax (ax n c) 1) 1000,b1 (aJ (ax (ax x c) 3) 1000) (aJ (ax m k) 1000),b1 (aJ (ax g c) 1000) (aJ (ax m j) 1000),ax r d,ax (ax (ax i h) (bb d (aJ m 1000))) (bb r (aJ c 1000)),ax (ax (ax a (bb b (ax e 1))) (bb 2 e)) 10,ax (bb b (ax 1 f)) (bb 2 f)⟩) (ax (b1 (b1 n (b1 x g)) 1000) 1)
structure hG where
 cm:Nat
 ce:Nat
 cw:Nat
 fG:Nat
 on:Nat
 gL:Nat
 fB:Nat
 w:Nat
 po:Nat
 px:Nat
 ln:Nat
 er:Nat
 c1:Nat
 d5:Nat
 km:Nat
 jH:Nat
noncomputable def hd(t:Nat):dF->hG
 |⟨n,x,d,r,c,a,b⟩=>⟨ax n (ax t 11),b1 (ax x (ax t 13)) (ax t 1007),ax d (ax t 10),r,1001,0,0,ax c (bb r (ax 8 t)),1,1,1000,0,1,ax (ax a (bb 3 b)) 60,1,b⟩
noncomputable def s5:hG->hG->hG
 |⟨cm,ce,cw,fG,_,_,_,w,_,_,_,_,_,d5,_,jH⟩,⟨He,HP,rW,akH,_,_,_,ks,_,_,_,_,_,akI,_,akJ⟩=>⟨b1 cm He,b1 ce HP,b1 cw rW,ax fG akH,1001,0,0,ax w ks,1,1,1000,0,1,aJ (ax d5 akI) 60,1,ax jH akJ⟩
noncomputable def m':hG->dF->hG
 |⟨i,ce,f,c,_,_,_,g,_,_,_,_,_,d,_,b⟩,⟨h,m,j,a,e,k,l⟩=>⟨i,ce,f,c,ax h 1,ax m 1,ax j 1,ax g e,1,1,1000,a,1,ax d k,1,ax b l⟩
noncomputable def kz:hG->dF->dF
 |⟨o,ce,l,g,h,j,e,m,_,_,_,c,_,i,_,f⟩,⟨n,x,d,r,k,a,b⟩=>
  ⟨b1 (aJ (ax n h) 1000) (aJ (ax x o) 1000),b1 (aJ (ax n j) 1000) (aJ (ax x ce) 1000),b1 (b1 (aJ (ax n e) 1000) (aJ (ax x l) 1000)) d,ax r c,
   ax (ax (ax m k) (bb c (ax (aJ (b1 n (b1 x d)) 1000) 1))) (bb g (aJ x 1000)),ax (ax a b) i,ax b f⟩
noncomputable def t1(c:Nat):Nat:=4*(pM c).length
noncomputable def c5(c a:Nat):Nat:=sj c+4*(pM a).length
noncomputable def FA(id:Int):Nat:=(id.fmod 10).toNat
noncomputable def hy(c1:Nat)(a:dF)(c2:Nat)(c:Bool)(b:dF):hG:=if c then hd (t1 c1) a else s5 (hd (t1 c1) a) (hd (c5 c1 c2) b)
noncomputable def mt:T->dF
 |.nil=>⟨0,0,0,0,0,0,0⟩
 |.mark _=>⟨1004,0,0,0,0,4,0⟩
 |.seen=>⟨1004,0,0,0,0,4,0⟩
 |.h4 _=>⟨0,1003,0,0,0,4,0⟩
 |.brk _=>⟨0,0,1009,0,0,14,1⟩
 |.dQ _=>⟨0,0,1008,0,0,14,1⟩
 |.ret _=>⟨0,0,1004,0,0,14,1⟩
 |.once _=>⟨1005,0,0,1,10,16,1⟩
 |.seq1 a=>mt a
 |.gn a b=>cat 0 (mt a) (mt b)
 |.arr a b=>cat 2 (mt a) (mt b)
 |.fm id b=>rY (FA id) (mt b)
 |.bare b=>mt b
 |.eV g d e c f b=>kz (if f.isNil then hy g (mt d) e c.isNil (mt c)else m' (hy g (mt d) e c.isNil (mt c)) (mt f)) (mt b)
 |.dZ x l=>n5 (mt x) (mt l)
noncomputable def m_(id:Int)(E:Env):Nat:=if E.cnt id<=1 then 1 else 0
noncomputable def rem(id:Int)(E:Env):Nat:=(id.fmod 10+1-E.cnt id).toNat
noncomputable def dJ:T->Env->Nat
 |.once id,E=>m_ id E
 |.seq1 a,E=>dJ a E
 |.gn a b,E=>dJ a E+dJ b E
 |.arr a b,E=>dJ a E+dJ b E
 |.fm _ b,E=>dJ b E
 |.bare b,E=>dJ b E
 |.eV _ _ _ _ c b,E=>dJ b E+dJ c E
 |.dZ x l,E=>dJ x E+dJ l E
 |_,_=>0
noncomputable def em(m:dF):Nat:=b1 m.al 1000+1-1000
noncomputable def eu:T->Env->Nat
 |.once id,E=>10*m_ id E
 |.seq1 a,E=>eu a E
 |.gn a b,E=>eu a E+eu b E+dJ b E*((mt a).n-1000)
 |.arr a b,E=>eu a E+eu b E+dJ b E*((mt a).n-1000)
 |.fm id b,E=>eu b E+rem id E*((mt b).al-1000+5)
 |.bare b,E=>eu b E
 |.eV f d g c e b,E=>eu b E+(eu e E+dJ e E*((mt b).n-1000+1))+(eu d E+dJ d E*((mt b).x-1000+8+t1 f))+(eu c E+dJ c E*((mt b).x-1000+8+c5 f g))
 |.dZ x l,E=>eu x E+eu l E+dJ l E*em (mt x)+dJ x E*((mt l).n-1000)
 |_,_=>0
def Env.le(E F:Env):Prop:=∀id,E.cnt id<=F.cnt id
theorem Env.le.refl(E:Env):E.le E:=λ_=>aO _
theorem Env.le.trans{E F G:Env}(a:E.le F)(b:F.le G):E.le G:=λc=>bg (a c) (b c)
theorem K3{id:Int}(h:E.le F):m_ id F<=m_ id E:=by
 by_cases f:F.cnt id<=1
 .exact ak ((if_pos f).trans (if_pos (bg (h id) f)).symm)
 .exact aq (ak (if_neg f)) (bH _)
theorem gM(h:E.le F):∀t,dJ t F<=dJ t E
 |.once _=>K3 h
 |.seq1 a=>gM h a
 |.gn a b=>ar (gM h a) (gM h b)
 |.arr a b=>ar (gM h a) (gM h b)
 |.fm _ b=>gM h b
 |.bare b=>gM h b
 |.eV _ _ _ _ c b=>ar (gM h b) (gM h c)
 |.dZ x l=>ar (gM h x) (gM h l)
 |.nil=>av _
 |.mark _=>av _
 |.seen=>av _
 |.h4 _=>av _
 |.brk _=>av _
 |.dQ _=>av _
 |.ret _=>av _
theorem Sk{id:Int}(h:E.le F):rem id F<=rem id E:=by exact Int.toNat_le_toNat (Int.sub_le_sub_left (h id) _)
theorem hX(h:E.le F):∀t,eu t F<=eu t E
 |.once _=>apF _ (K3 h)
 |.seq1 a=>hX h a
 |.gn a b=>ar (ar (hX h a) (hX h b)) (bc _ (gM h b))
 |.arr a b=>ar (ar (hX h a) (hX h b)) (bc _ (gM h b))
 |.fm _ b=>ar (hX h b) (bc _ (Sk h))
 |.bare b=>hX h b
 |.eV _ d _ c e b=>ar (ar (ar (hX h b) (ar (hX h e) (bc _ (gM h e)))) (ar (hX h d) (bc _ (gM h d)))) (ar (hX h c) (bc _ (gM h c)))
 |.dZ x l=>ar (ar (ar (hX h x) (hX h l)) (bc _ (gM h l))) (bc _ (gM h x))
 |.nil=>av _
 |.mark _=>av _
 |.seen=>av _
 |.h4 _=>av _
 |.brk _=>av _
 |.dQ _=>av _
 |.ret _=>av _
theorem Sl{id j:Int}(v:Int)(e:j≠id):∀es:List (Int×Int),jr j (lp id v es)=jr j es
 |[]=>if_neg (Ne.symm e)
 |(y,u)::r=>(aoE (y=id)).elim (λh=>have c:¬y=j:=λa=>e (a.symm.trans h);(congrArg (jr j) (if_pos h)).trans ((if_neg c).trans (if_neg c).symm)) λh=>(congrArg (jr j) (if_neg h)).trans (congrArg (λa=>if y=j then ae u else a) (Sl v e r))
theorem Env.le.tick(E:Env)(id:Int):E.le (E.tick id):=λa=>by
 by_cases e:a=id
 .subst e;show _<=(jr a (lp a (E.cnt a) E.gy)).getD 0+1;rw[Fq];show _<=E.cnt a+1;k_is
 .show (jr a E.gy).getD 0+1<=(jr a (lp id (E.cnt id) E.gy)).getD 0+1;rw[Sl _ e];exact aO _
theorem Sm(E:Env)(id:Int):(E.tick id).cnt id=E.cnt id+1:=by show(jr id (lp id (E.cnt id) E.gy)).getD 0+1=_;rw[Fq];rfl
noncomputable def bs(m:dF):Out->Nat
 |.val _=>m.n
 |.fo _=>m.x
 |.eW=>1000
 |.brk _=>m.o
 |.dQ _=>m.o
 |.ret _=>m.o
noncomputable def lb:Out->Nat
 |.eW=>1
 |_=>0
structure hv(t:T)(E:Env)(o:Out)(b5:Env)(c:Nat):Prop where
 gx:e3 t E o b5 c
 le:E.le b5
 r:dJ t b5+lb o<=dJ t E
 p:c+eu t b5+1000<=eu t E+bs (mt t) o
 b:1000<=bs (mt t) o
theorem K4(m:dF)(o:Out)(h:1000<=bs m o):bs m o<=m.al/\1000<=m.al\/o=.eW:=by
 have ch:=gf m.n (b1 m.x m.o);have cf:=fT m.n (b1 m.x m.o);have eC:=gf m.x m.o;have hY:=fT m.x m.o;have e:m.al=b1 m.n (b1 m.x m.o):=B
 induction o using Out.casesOn with
 |eW=>exact .inr B
 |val=>left;simp only[bs]at h⊢;exact⟨dp ch (ak e.symm),c0 ch (ak e.symm) h⟩
 |fo=>left;simp only[bs]at h⊢;exact⟨c0 cf eC (ak e.symm),c0 (ar cf h) eC (ak e.symm)⟩
 |brk=>left;simp only[bs]at h⊢;exact⟨c0 cf hY (ak e.symm),c0 (ar cf h) hY (ak e.symm)⟩
 |dQ=>left;simp only[bs]at h⊢;exact⟨c0 cf hY (ak e.symm),c0 (ar cf h) hY (ak e.symm)⟩
 |ret=>left;simp only[bs]at h⊢;exact⟨c0 cf hY (ak e.symm),c0 (ar cf h) hY (ak e.symm)⟩
theorem akL(m:dF)(o:Out)(h:1000<=bs m o):bs m o+1<=em m+1000:=by
 have ch:=gf m.al 1000;have cf:=fT m.al 1000;unfold em;rcases K4 m o h with h|rfl
 .exact c0 ch h.1 (eB (b1 m.al 1000+1) 1000)
 .show 1000+1<=_;exact dp cf (eB (b1 m.al 1000+1) 1000)
theorem yW{a b r q:Nat}(h:a+r<=b):a*q+r*q<=b*q:=by rw[<-anM];exact bc _ h
section
theorem K5{x y:dF}(a:1000<=x.n)(h:1000<=y.o):y.o+0+(x.n-1000)<=b1 x.o (x.n+y.o-1000)+0*(x.n-1000)/\1000<=b1 x.o (x.n+y.o-1000):=by have b:=fT x.o (x.n+y.o-1000);exact⟨by exact c0 b (eB (x.n+y.o) 1000) (sB a),by exact c0 (ar a (eB (x.n+y.o) 1000)) h b⟩
theorem akM{e:Nat}{x y:dF}(a:1000<=x.n):∀{o:Out},1000<=bs y o->bs y o+(if o.isVal then e else 0)+(x.n-1000)<=bs (cat e x y) o+lb o*(x.n-1000)/\1000<=bs (cat e x y) o
 |.val _=>λh=>by replace h:1000<=y.n:=h;exact⟨by show y.n+e+(x.n-1000)<=x.n+y.n+e-1000+0*(x.n-1000);exact dp (sB a) (eB (x.n+y.n+e) 1000),by show 1000<=x.n+y.n+e-1000;exact c0 a h (eB (x.n+y.n+e) 1000)⟩
 |.fo _=>λh=>by replace h:1000<=y.x:=h;have b:=fT x.x (x.n+y.x-1000);exact⟨by show y.x+0+(x.n-1000)<=b1 x.x (x.n+y.x-1000)+0*(x.n-1000);exact c0 b (eB (x.n+y.x) 1000) (sB a),by show 1000<=b1 x.x (x.n+y.x-1000);exact c0 (ar a (eB (x.n+y.x) 1000)) h b⟩
 |.brk _=>λh=>K5 a h
 |.dQ _=>λh=>K5 a h
 |.ret _=>λh=>K5 a h
 |.eW=>λh=>⟨by show 1000+0+(x.n-1000)<=1000+1*(x.n-1000);simp+arith,av _⟩
theorem two(m:dF)(t:m=cat e (mt a) (mt b))(Y:hv a E (.val w) cU c1)(c:hv b cU o et c2):
  dJ a et+dJ b et+lb o<=dJ a E+dJ b E/\c1+c2+(if o.isVal then e else 0)+(eu a et+eu b et+dJ b et*((mt a).n-1000))+1000<=eu a E+eu b E+dJ b E*((mt a).n-1000)+bs m o/\1000<=bs m o:=by
 have s:dJ a cU<=dJ a E:=Y.r;have q:c1+eu a cU+1000<=eu a E+(mt a).n:=Y.p;have j:1000<=(mt a).n:=Y.b;have g:=c.r;have h:=c.p;have f:=gM Y.le b;have k:=hX Y.le b;have i:=gM c.le a;have l:=hX c.le a;have d:=yW (q:=(mt a).n-1000) (aq g f);rw[t];refine eP (akM (e:=e) j c.b) λt1 c5=>⟨by exact c0 (ar s i) g f,?_,c5⟩;generalize lb o*((mt a).n-1000)=g1 at*;generalize dJ b et*((mt a).n-1000)=g2 at*;generalize dJ b E*((mt a).n-1000)=g3 at*;generalize bs (cat e (mt a) (mt b)) o=fq at*;generalize bs (mt b) o=ob at*;generalize(if o.isVal=af then e else 0)=E9 at*;exact c0 (ar (ar q d) (eB ((mt a).n) 1000)) (ar k h) (ar l t1)
theorem Sn(m:dF)(q:m=cat e (mt a) (mt b))(Y:hv a E o cU c)(bX:o.isVal=ag):
  dJ a cU+dJ b cU+lb o<=dJ a E+dJ b E/\c+(eu a cU+eu b cU+dJ b cU*((mt a).n-1000))+1000<=eu a E+eu b E+dJ b E*((mt a).n-1000)+bs m o/\1000<=bs m o:=by
 have i:=Y.r;have h:=Y.p;have k:=Y.b;have d:=gM Y.le b;have g:=hX Y.le b;have f:=bc ((mt a).n-1000) d;subst q;have j:=gf (mt a).x ((mt a).n+(mt b).x-1000);have l:=gf (mt a).o ((mt a).n+(mt b).o-1000);have ex:(cat e (mt a) (mt b)).x=b1 (mt a).x ((mt a).n+(mt b).x-1000):=B;have mX:(cat e (mt a) (mt b)).o=b1 (mt a).o ((mt a).n+(mt b).o-1000):=B
 induction o using Out.casesOn<;>simp only[bs,lb,Out.isVal,Bool.true_eq_false]at*<;>(first|(refine⟨dp d i ?_,c0 (ar g (ak ex.symm)) (ar f h) j ?_,c0 j (ak ex.symm) k ?_⟩<;>(k_is;done))|(refine⟨dp d i ?_,c0 (ar g (ak mX.symm)) (ar f h) l ?_,c0 l (ak mX.symm) k ?_⟩<;>(k_is;done))|exact⟨dp d i,c0 g f h,by k_is⟩)
theorem akN(m:∀E,∃o d c,hv a E o d c)(q:∀E,∃o d c,hv b E o d c)(E:Env):∃o d c,hv (.gn a b) E o d c:=by
 obtain⟨o,l,c,Y⟩:=m E;cases h:o.isVal with
 |true=>
  induction o using Out.casesOn<;>simp only[Out.isVal,aoG]at h
  refine mq (q l) λf_ f p i=>iw (two (mt (.gn a b)) (e:=0) B Y i) λj g k=>⟨f_,f,_,.tg Y.gx i.gx,Y.le.trans i.le,j,?_,k⟩;show c+p+(eu a f+eu b f+dJ b f*((mt a).n-1000))+1000<=eu a E+eu b E+dJ b E*((mt a).n-1000)+bs (mt (.gn a b)) f_;exact cY g
 |false=>exact iw (Sn (b:=b) (mt (.gn a b)) (e:=0) B Y h) λj g k=>⟨o,l,_,.sk Y.gx h,Y.le,j,g,k⟩
theorem akO(q:∀E,∃o i c,hv a E o i c)(r:∀E,∃o i c,hv b E o i c)(E:Env):∃o i c,hv (.arr a b) E o i c:=by
 refine mq (q E) λo p c Y=>?_;cases h:o.isVal with
 |true=>
  induction o using Out.casesOn<;>simp only[Out.isVal,aoG]at h
  refine mq (r p) λf_ d m g=>iw (two (mt (.arr a b)) (e:=2) B Y g) λj f k=>?_;cases l:f_.isVal with
  |true=>
   replace f:=l▸f
   induction f_ using Out.casesOn<;>simp only[Out.isVal,aoG]at l
   refine⟨.val ah,d,_,.uv Y.gx g.gx,Y.le.trans g.le,j,?_,k⟩;show c+m+2+(eu a d+eu b d+dJ b d*((mt a).n-1000))+1000<=eu a E+eu b E+dJ b E*((mt a).n-1000)+bs (mt (.arr a b)) (.val ah);exact f
  |false=>refine⟨f_,d,_,.uw Y.gx g.gx l,Y.le.trans g.le,j,?_,k⟩;show c+m+(eu a d+eu b d+dJ b d*((mt a).n-1000))+1000<=eu a E+eu b E+dJ b E*((mt a).n-1000)+bs (mt (.arr a b)) f_;exact cY f
 |false=>exact iw (Sn (b:=b) (mt (.arr a b)) (e:=2) B Y h) λj f k=>⟨o,p,_,.ux Y.gx h,Y.le,j,f,k⟩
theorem akP{x:Nat}(h:1000<=x):Ak x=1000:=by show x-(x-1000)=1000;exact a7 ((kU x (x-1000)).elim (λa=>dp (ak a) (eB x 1000)) λa=>cY (ak a.1)) (dp (eB x (x-1000)) (sB h))
theorem So(l:Nat)(m:dF):(rY l m).n=1005:=rfl
theorem Sp{id:Int}(d:¬E.cnt id<=id.fmod 10):∃o a c,hv (.fm id b) E o a c:=by have e:=hX (Env.le.tick E id) (.fm id b);have r:=gM (Env.le.tick E id) (.fm id b);have n:bs (mt (.fm id b)) (.val (ae .none))=1005:=So _ _;exact⟨.val (ae .none),E.tick id,5,.xA d,.tick _ _,r,by rw[n];exact cY e,by rw[n];simp+arith⟩
theorem akQ{id:Int}(M:∀E,∃o d c,hv b E o d c):∀(m:Nat)(E:Env),rem id E<=m->∃o d c,hv (.fm id b) E o d c:=by
 intro m
 induction m with
 |zero=>
  intro E h;have i:¬E.cnt id<=id.fmod 10:=by unfold rem at h;(simp+arith at h⊢;exact h)
  exact Sp i
 |succ m Q=>
  intro E h;by_cases i:E.cnt id<=id.fmod 10
  .have cH:rem id (E.tick id)+1<=rem id E:=aB (apy (Int.sub_nonneg_of_le i)) λk e=>by have a:rem id (E.tick id)=k:=congrArg Int.toNat ((congrArg (id.fmod 10+1-·) (Sm E id)).trans ((Int.add_sub_add_right ..).trans e));have b:rem id E=k+1:=congrArg Int.toNat ((show id.fmod 10+1-E.cnt id=id.fmod 10-E.cnt id+1 by k_is).trans (congrArg (·+1) e));rw[a,b];exact av _
   refine mq (M (E.tick id)) λeO f s g=>?_;have lt:=Env.le.tick E id;have A:=g.r;have I:=g.p;have u:=g.b;have F:=gM lt b;have G:=hX lt b;have oD:rem id f+1<=rem id E:=by have:=Sk (id:=id) g.le;exact apt this cH
   have t:=yW (q:=(mt b).al-1000+5) oD;rw[Nat.one_mul]at t;have H:bs (mt b) eO-1000<=(mt b).al-1000:=by
    rcases K4 _ _ u with j|rfl
    .exact c0 j.1 (eB ((mt b).al) 1000) (sB u)
    .show 1000-1000<=_;exact cY (sB (show 1000<=1000 from(by k_is)))
   have C:∀o,lb o=lb eO->1000<=bs (mt (.fm id b)) o->dJ b f+lb o<=dJ b E/\5+s+eu (.fm id b) f+1000<=eu (.fm id b) E+bs (mt (.fm id b)) o:=λo e j=>by show dJ b f+lb o<=dJ b E/\5+s+(eu b f+rem id f*((mt b).al-1000+5))+1000<=eu b E+rem id E*((mt b).al-1000+5)+bs (mt (.fm id b)) o;rw[e];generalize bs (mt (.fm id b)) o=b9 at*;exact⟨by exact aq A F,by exact c0 (ar I H) (ar G j) (ar t (eB (bs (mt b) eO) 1000))⟩
   have y:eO.ut=af\/eO.nF=af\/(∃n,eO=.ret n)->∃o d c,hv (.fm id b) E o d c:=λq=>by
    have j:1000<=bs (mt (.fm id b)) eO:=by cases eO<;>first|exact ak (akP u).symm|exact u|(rcases q with h|h|⟨_,h⟩<;>cases h)
    exact eP (C eO B j) λw v=>⟨_,_,_,.xC i g.gx q,lt.trans g.le,w,by exact cY v,j⟩
   have D:(eO.isVal=af\/∃n,eO=.dQ n)->∃o d c,hv (.fm id b) E o d c:=λq=>by refine mq (Q f (dp h oD)) λo d c l=>?_;have R:=l.r;have up:=l.p;have L:dJ b d+lb o<=dJ b f:=R;refine⟨_,_,_,.xD i g.gx q l.gx,(lt.trans g.le).trans l.le,by show dJ b d+lb o<=dJ b E;exact c0 A F L,?_,l.b⟩;have N:c+(eu b d+rem id d*((mt b).al-1000+5))+1000<=eu b f+rem id f*((mt b).al-1000+5)+bs (mt (.fm id b)) o:=up;show 5+s+c+(eu b d+rem id d*((mt b).al-1000+5))+1000<=eu b E+rem id E*((mt b).al-1000+5)+bs (mt (.fm id b)) o;generalize bs (mt (.fm id b)) o=b9 at*;exact c0 (ar I H) (ar G N) (ar t (eB (bs (mt b) eO) 1000))
   induction eO using Out.casesOn with
   |val x=>exact D (.inl B)
   |dQ n=>exact D (.inr ⟨n,B⟩)
   |brk n=>have z:bs (mt (.fm id b)) (.val (ae (.int n)))=1005:=So _ _;exact eP (C (.val (ae (.int n))) B (by rw[z];k_is)) λw v=>⟨.val (ae (.int n)),f,4+s,.xB i g.gx,lt.trans g.le,w,by exact cY v,by rw[z];k_is⟩
   |fo e=>exact y (.inl B)
   |ret n=>exact y (.inr (.inr ⟨n,B⟩))
   |eW=>exact y (.inr (.inl B))
  .exact Sp i
theorem K8{x y:dF}(a:1000<=y.n)(h:1000<=x.o):x.o+0+(y.n-1000)<=b1 (x.o+y.n-1000) (b1 x.al 1000+1+y.o-1000)+0*(y.n-1000)/\1000<=b1 (x.o+y.n-1000) (b1 x.al 1000+1+y.o-1000):=by have b:=gf (x.o+y.n-1000) (b1 x.al 1000+1+y.o-1000);exact⟨by exact c0 b (eB (x.o+y.n) 1000) (sB a),by exact c0 (ar a (eB (x.o+y.n) 1000)) h b⟩
theorem akS{x y:dF}(a:1000<=y.n):∀{o:Out},1000<=bs x o->bs x o+qx o+(y.n-1000)<=bs (n5 x y) o+lb o*(y.n-1000)/\1000<=bs (n5 x y) o
 |.val _=>λh=>by replace h:1000<=x.n:=h;exact⟨by show x.n+1+(y.n-1000)<=x.n+y.n+1-1000+0*(y.n-1000);exact dp (sB a) (eB (x.n+y.n+1) 1000),by show 1000<=x.n+y.n+1-1000;exact c0 a h (eB (x.n+y.n+1) 1000)⟩
 |.fo _=>λh=>by replace h:1000<=x.x:=h;have b:=gf (x.x+y.n+3-1000) (b1 x.al 1000+1+y.x-1000);exact⟨by show x.x+3+(y.n-1000)<=b1 (x.x+y.n+3-1000) (b1 x.al 1000+1+y.x-1000)+0*(y.n-1000);exact c0 b (eB (x.x+y.n+3) 1000) (sB a),by show 1000<=b1 (x.x+y.n+3-1000) (b1 x.al 1000+1+y.x-1000);exact c0 (ar a (eB (x.x+y.n+3) 1000)) h b⟩
 |.brk _=>λh=>K8 a h
 |.dQ _=>λh=>K8 a h
 |.ret _=>λh=>K8 a h
 |.eW=>λh=>⟨by show 1000+0+(y.n-1000)<=1000+1*(y.n-1000);simp+arith,av _⟩
theorem K9{x y:dF}(h:1000<=y.o):y.o+em x<=b1 (x.o+y.n-1000) (b1 x.al 1000+1+y.o-1000)+0*em x/\1000<=b1 (x.o+y.n-1000) (b1 x.al 1000+1+y.o-1000):=by have b:=fT (x.o+y.n-1000) (b1 x.al 1000+1+y.o-1000);have a:=fT x.al 1000;exact⟨by rw[apG];show y.o+(b1 x.al 1000+1-1000)<=b1 (x.o+y.n-1000) (b1 x.al 1000+1+y.o-1000)+0;exact c0 b (eB (b1 x.al 1000+1+y.o) 1000) (sB (show 1000<=b1 x.al 1000+1 from(cY a))),by exact c0 (ar h (eB (b1 x.al 1000+1+y.o) 1000)) b a⟩
theorem akT{x y:dF}:∀{o:Out},o.isVal=ag->1000<=bs y o->bs y o+em x<=bs (n5 x y) o+lb o*em x/\1000<=bs (n5 x y) o
 |.val _=>λc h=>d8 c.symm
 |.fo _=>λ_ h=>by replace h:1000<=y.x:=h;have b:=fT (x.x+y.n+3-1000) (b1 x.al 1000+1+y.x-1000);have a:=fT x.al 1000;exact⟨by show y.x+(b1 x.al 1000+1-1000)<=b1 (x.x+y.n+3-1000) (b1 x.al 1000+1+y.x-1000)+0*em x;rw[apG];exact c0 b (eB (b1 x.al 1000+1+y.x) 1000) (sB (show 1000<=b1 x.al 1000+1 from(cY a))),by show 1000<=b1 (x.x+y.n+3-1000) (b1 x.al 1000+1+y.x-1000);exact c0 (ar h (eB (b1 x.al 1000+1+y.x) 1000)) b a⟩
 |.brk _=>λ_ h=>K9 h
 |.dQ _=>λ_ h=>K9 h
 |.ret _=>λ_ h=>K9 h
 |.eW=>λ_ h=>⟨by show 1000+em x<=1000+1*em x;simp+arith,av _⟩
theorem akU(C:∀E,∃o g c,hv x E o g c)(D:∀E,∃o g c,hv l E o g c)(E:Env):∃o g c,hv (.dZ x l) E o g c:=by
 refine mq (C E) λeO k v e=>mq (D k) λf_ a u d=>?_;have t:=e.r;have i:=d.r;have A:=e.p;have j:=d.p;have s:=gM e.le l;have y:=hX e.le l;have m:=gM d.le x;have z:=hX d.le x;have be:=akL _ _ e.b;have f:=yW (q:=em (mt x)) (aq i s);have w:=yW (q:=(mt l).n-1000) (aq (apg m _) t);cases h:f_.isVal with
 |true=>
  match f_,h,d with
  |.val G,h,d=>
  have F:1000<=(mt l).n:=d.b;refine eP (akS (x:=mt x) F e.b) λt1 c5=>⟨eO,a,_,.ev e.gx d.gx,e.le.trans d.le,?_,?_,c5⟩
  .replace i:dJ l a<=dJ l k:=i;show dJ x a+dJ l a+lb eO<=dJ x E+dJ l E;exact c0 (ar t i) s m
  .replace j:u+eu l a+1000<=eu l k+(mt l).n:=j;replace f:dJ l a*em (mt x)+0*em (mt x)<=dJ l E*em (mt x):=f;rw[apG]at f;show v+u+qx eO+(eu x a+eu l a+dJ l a*em (mt x)+dJ x a*((mt l).n-1000))+1000<=eu x E+eu l E+dJ l E*em (mt x)+dJ x E*((mt l).n-1000)+bs (n5 (mt x) (mt l)) eO;generalize bs (n5 (mt x) (mt l)) eO=fq at*;generalize bs (mt x) eO=ob at*;generalize lb eO*((mt l).n-1000)=g1 at*;exact c0 (ar (ar y f) t1) (ar (ar z A) (eB ((mt l).n) 1000)) (ar j w)
 |false=>
  refine eP (akT (x:=mt x) h d.b) λt1 c5=>⟨f_,a,_,.mX e.gx d.gx h,e.le.trans d.le,?_,?_,c5⟩
  .show dJ x a+dJ l a+lb f_<=dJ x E+dJ l E;exact c0 (ar t m) i s
  .show v+u+1+(eu x a+eu l a+dJ l a*em (mt x)+dJ x a*((mt l).n-1000))+1000<=eu x E+eu l E+dJ l E*em (mt x)+dJ x E*((mt l).n-1000)+bs (n5 (mt x) (mt l)) f_;generalize bs (n5 (mt x) (mt l)) f_=fq at*;generalize bs (mt l) f_=ob at*;generalize bs (mt x) eO=E9 at*;generalize lb f_*em (mt x)=g1 at*;exact c0 (ar (ar y j) f) (ar (ar z A) t1) (ar w be)
end
theorem FB(id:Int)(E:Env)(e:Option Bool):(E.iS e).le E/\E.le (E.iS e):=⟨λ_=>aO _,λ_=>aO _⟩
theorem akV(p:pick e (iA c1 h1 c2 h2)=ae (h,t)):(h=h1/\t<=t1 c1)\/(h=h2/\h2.isNil=ag/\t<=c5 c1 c2):=by
 have d:∀c,nG c e<=4*(pM c).length:=λc=>match c with
  |0|1|2=>av _
  |_+3=>by cases e<;>exact ay B
 replace p:(if fits c1 e=af then ae (h1,nG c1 e)else(pick e (if h2.isNil=af then []else [(c2,h2)])).map λa=>(a.1,sj c1+a.2))=ae (h,t):=p;by_cases f:fits c1 e=af
 .have a:=aC.inj ((if_pos f).symm.trans p);exact .inl ⟨(congrArg ans a).symm,aq (ak (congrArg aom a).symm) (d c1)⟩
 .replace p:=(if_neg f).symm.trans p;cases n:h2.isNil with
  |true=>exact cV ((congrArg (λb:Bool=>(pick e (if b=af then []else [(c2,h2)])).map λa=>(a.1,sj c1+a.2)) n).symm.trans p)
  |false=>
   replace p:((if fits c2 e=af then ae (h2,nG c2 e)else ah).map λa=>(a.1,sj c1+a.2))=ae (h,t):=(congrArg (λb:Bool=>(pick e (if b=af then []else [(c2,h2)])).map λa=>(a.1,sj c1+a.2)) n).symm.trans p;by_cases f:fits c2 e=af
   .have a:=aC.inj ((congrArg (aoD _) (if_pos f)).symm.trans p);exact .inr ⟨(congrArg ans a).symm,B,aq (ak (congrArg aom a).symm) (bF (d c2) _)⟩
   .exact cV ((congrArg (aoD _) (if_neg f)).symm.trans p)
theorem akW(c1 c2:Nat)(h1 h2:T):zz (iA c1 h1 c2 h2)=(if h2.isNil then t1 c1 else c5 c1 c2)+1:=by dsimp only[iA];cases h2.isNil<;>rfl
section
noncomputable def jM(c1:Nat)(h1:T)(c2:Nat)(h2 ot:T):hG:=if ot.isNil then hy c1 (mt h1) c2 h2.isNil (mt h2)else m' (hy c1 (mt h1) c2 h2.isNil (mt h2)) (mt ot)
theorem Sr(c1:Nat)(h1:T)(c2:Nat)(h2 ot:T):(jM c1 h1 c2 h2 ot).cm=(hy c1 (mt h1) c2 h2.isNil (mt h2)).cm/\(jM c1 h1 c2 h2 ot).ce=(hy c1 (mt h1) c2 h2.isNil (mt h2)).ce/\(jM c1 h1 c2 h2 ot).cw=(hy c1 (mt h1) c2 h2.isNil (mt h2)).cw:=by delta jM hy;cases ot.isNil<;>cases h2.isNil<;>exact⟨B,B,B⟩
def hh(p:hG)(t:Nat)(m:dF):Prop:=m.n+t+11<=p.cm/\m.x+t+13<=p.ce/\m.o+t+10<=p.cw
theorem Ss(t:Nat)(m:dF):hh (hd t m) t m/\t+1007<=(hd t m).ce:=by have a:=gf (m.x+(t+13)) (t+1007);have b:=fT (m.x+(t+13)) (t+1007);have e:(hd t m).ce=b1 (m.x+(t+13)) (t+1007):=B;have ch:(hd t m).cm=m.n+(t+11):=B;have cf:(hd t m).cw=m.o+(t+10):=B;dsimp only[hh];rw[e,ch,cf];exact⟨⟨by exact av _,by exact a,by exact av _⟩,by exact b⟩
theorem Su(c1:Nat)(c:dF)(c2:Nat)(nl:Bool)(d:dF):hh (hy c1 c c2 nl d) (t1 c1) c/\(nl=ag->hh (hy c1 c c2 nl d) (c5 c1 c2) d)/\(if nl then t1 c1 else c5 c1 c2)+1007<=(hy c1 c c2 nl d).ce:=by
 have a:=Ss (t1 c1) c;have b:=Ss (c5 c1 c2) d;dsimp only[hy]
 induction nl using aS with
 |true=>exact⟨a.1,nofun,a.2⟩
 |false=>have f:=gf (hd (t1 c1) c).cm (hd (c5 c1 c2) d).cm;have h:=fT (hd (t1 c1) c).cm (hd (c5 c1 c2) d).cm;have g:=gf (hd (t1 c1) c).ce (hd (c5 c1 c2) d).ce;have e:=fT (hd (t1 c1) c).ce (hd (c5 c1 c2) d).ce;have eO:=gf (hd (t1 c1) c).cw (hd (c5 c1 c2) d).cw;have f_:=fT (hd (t1 c1) c).cw (hd (c5 c1 c2) d).cw;exact⟨⟨aq a.1.1 f,aq a.1.2.1 g,aq a.1.2.2 eO⟩,λ_=>⟨aq b.1.1 h,aq b.1.2.1 e,aq b.1.2.2 f_⟩,aq b.2 e⟩
theorem CP(p:hG)(m:dF):m.n+p.on<=(kz p m).n+1000/\m.x+p.cm<=(kz p m).n+1000/\m.n+p.gL<=(kz p m).x+1000/\m.x+p.ce<=(kz p m).x+1000/\m.n+p.fB<=(kz p m).o+1000/\m.x+p.cw<=(kz p m).o+1000/\m.o<=(kz p m).o:=by have ch:(kz p m).n=b1 (m.n+p.on-1000) (m.x+p.cm-1000):=B;have cf:(kz p m).x=b1 (m.n+p.gL-1000) (m.x+p.ce-1000):=B;have eC:(kz p m).o=b1 (b1 (m.n+p.fB-1000) (m.x+p.cw-1000)) m.o:=B;have d:=gf (m.n+p.on-1000) (m.x+p.cm-1000);have e:=fT (m.n+p.on-1000) (m.x+p.cm-1000);have f:=gf (m.n+p.gL-1000) (m.x+p.ce-1000);have g:=fT (m.n+p.gL-1000) (m.x+p.ce-1000);have h:=gf (m.n+p.fB-1000) (m.x+p.cw-1000);have c:=fT (m.n+p.fB-1000) (m.x+p.cw-1000);have a:=gf (b1 (m.n+p.fB-1000) (m.x+p.cw-1000)) m.o;have b:=fT (b1 (m.n+p.fB-1000) (m.x+p.cw-1000)) m.o;rw[ch,cf,eC];exact⟨by exact dp d (eB (m.n+p.on) 1000),by exact dp e (eB (m.x+p.cm) 1000),by exact dp f (eB (m.n+p.gL) 1000),by exact dp g (eB (m.x+p.ce) 1000),by exact c0 h a (eB (m.n+p.fB) 1000),by exact c0 c a (eB (m.x+p.cw) 1000),b⟩
theorem akX(g:hh p kY m)(tt:t<=kY)(i:o.nF=ag)(dR:1000<=jG.x)(a:1000<=bs m o):jG.x+8+t+bs m o+ce o<=bs (kz p jG) o+1000/\1000<=bs (kz p jG) o:=by
 refine td (CP p jG) λk d j h n c l=>iw g λe b f=>?_
 induction o using Out.casesOn<;>simp only[Out.nF,Bool.true_eq_false]at i<;>simp only[bs,ce]at a⊢<;>exact⟨by(first|(refine(c0 tt d e ?_)<;>(k_is;done))|(refine(c0 tt h b ?_)<;>(k_is;done))|exact c0 tt c f),by(first|(refine(c0 (ar dR a) d e ?_)<;>(k_is;done))|(refine(c0 (ar dR a) h b ?_)<;>(k_is;done))|exact c0 (ar dR a) c f)⟩
theorem yX(E:Env):eu (.eV c1 h1 c2 h2 ot b) E=eu b E+(eu ot E+dJ ot E*((mt b).n-1000+1))+(eu h1 E+dJ h1 E*((mt b).x-1000+8+t1 c1))+(eu h2 E+dJ h2 E*((mt b).x-1000+8+c5 c1 c2)):=rfl
theorem low(l:E.le b5):eu (.eV c1 h1 c2 h2 ot b) b5+eu b E<=eu (.eV c1 h1 c2 h2 ot b) E+eu b b5:=by have f:=hX l ot;have a:=hX l h1;have g:=hX l h2;have c:=bc ((mt b).n-1000+1) (gM l ot);have d:=bc ((mt b).x-1000+8+t1 c1) (gM l h1);have e:=bc ((mt b).x-1000+8+c5 c1 c2) (gM l h2);rw[yX,yX];exact c0 (ar f c) (ar a d) (ar g e)
theorem Sv(v:(h=h1/\t<=t1 c1)\/(h=h2/\h2.isNil=ag/\t<=c5 c1 c2))(a:E.le cU)(e:cU.le et)(f:dJ h et+r<=dJ h cU):eu (.eV c1 h1 c2 h2 ot b) et+eu b E+eu h cU+r*((mt b).x-1000+8+t)<=eu (.eV c1 h1 c2 h2 ot b) E+eu b cU+eu h et:=by
 have l:=a.trans e;have i:=hX l ot;have j:=hX l h1;have u:=hX l h2;have g:=hX e b;have p:=hX a h1;have s:=hX a h2;have c:=bc ((mt b).n-1000+1) (gM l ot);have m:=bc ((mt b).x-1000+8+t1 c1) (gM l h1);have o:=bc ((mt b).x-1000+8+c5 c1 c2) (gM l h2);rw[yX,yX];rcases v with⟨rfl,tt⟩|⟨rfl,_,tt⟩
 .have d:=yW (q:=(mt b).x-1000+8+t1 c1) (aq f (gM a h));have k:=apF r (show(mt b).x-1000+8+t<=(mt b).x-1000+8+t1 c1 by(simp+arith at tt⊢;exact tt));exact c0 (ar (ar i c) d) (ar (ar u o) k) (ar g p)
 .have d:=yW (q:=(mt b).x-1000+8+c5 c1 c2) (aq f (gM a h));have k:=apF r (show(mt b).x-1000+8+t<=(mt b).x-1000+8+c5 c1 c2 by(simp+arith at tt⊢;exact tt));exact c0 (ar (ar i c) d) (ar (ar j m) k) (ar g s)
theorem xi(d:e3 (.eV c1 h1 c2 h2 ot b) E o a t)(le:E.le a)(r:dJ b a+dJ ot a+lb o<=dJ b E+dJ ot E)(p:t+eu (.eV c1 h1 c2 h2 ot b) a+1000<=eu (.eV c1 h1 c2 h2 ot b) E+bs (kz (jM c1 h1 c2 h2 ot) (mt b)) o)(g:1000<=bs (kz (jM c1 h1 c2 h2 ot) (mt b)) o):∃o a c,hv (.eV c1 h1 c2 h2 ot b) E o a c:=⟨o,a,t,d,le,r,p,g⟩
theorem K'(v:hv b E o cU t):dJ b cU+dJ ot cU+lb o<=dJ b E+dJ ot E:=dp v.r (gM v.le ot)
theorem Sw(x:o.q_=af):bs m o<=bs (kz p m) o:=by
 induction o using Out.casesOn with
 |val _=>exact d8 x
 |fo _=>exact d8 x
 |eW=>exact av _
 |_=>exact(CP p m).2.2.2.2.2.2
theorem akY(v:hv b E o cU t)(x:o.q_=af):∃o a c,hv (.eV c1 h1 c2 h2 ot b) E o a c:=
 xi (.sb v.gx x) v.le (K' v) (c0 v.p (low (b:=b) (c1:=c1) (h1:=h1) (c2:=c2) (h2:=h2) (ot:=ot) v.le) (Sw (p:=jM c1 h1 c2 h2 ot) (m:=mt b) x)) (aq v.b (Sw x))
theorem akZ(v:hv b E (.val x) cU t)(n:ot.isNil=af):∃o e c,hv (.eV c1 h1 c2 h2 ot b) E o e c:=by
 have a:(jM c1 h1 c2 h2 ot).on=1001:=by delta jM hy;rw[n];cases h2.isNil<;>rfl
 have f:=(CP (jM c1 h1 c2 h2 ot) (mt b)).1;have d:_<=_+(mt b).n:=v.p;have g:1000<=(mt b).n:=v.b;refine xi (.xG v.gx n) v.le (K' v) ?_ ?_
 .show _<=_+(kz (jM c1 h1 c2 h2 ot) (mt b)).n;exact c0 (ar f (ak a.symm)) (low (b:=b) (c1:=c1) (h1:=h1) (c2:=c2) (h2:=h2) (ot:=ot) v.le) d
 .show 1000<=(kz (jM c1 h1 c2 h2 ot) (mt b)).n;exact c0 f g (ak a.symm)
theorem ak0(x:o.nF=af):bs m o=1000:=by induction o using Out.casesOn<;>first|rfl|exact d8 x
theorem Sx(n:ot.isNil=ag)(c:o.nF=ag):(mt b).n+bs (mt ot) o+1<=bs (kz (jM c1 h1 c2 h2 ot) (mt b)) o+1000:=by
 have a:(jM c1 h1 c2 h2 ot).on=(mt ot).n+1/\(jM c1 h1 c2 h2 ot).gL=(mt ot).x+1/\(jM c1 h1 c2 h2 ot).fB=(mt ot).o+1:=by dsimp only[jM];exact n▸(⟨B,B,B⟩)
 have f:=CP (jM c1 h1 c2 h2 ot) (mt b)
 induction o using Out.casesOn with
 |val _=>exact aq (ak (congrArg ((mt b).n+·) a.1.symm)) f.1
 |fo _=>exact aq (ak (congrArg ((mt b).n+·) a.2.1.symm)) f.2.2.1
 |eW=>exact kD c
 |_=>exact aq (ak (congrArg ((mt b).n+·) a.2.2.symm)) f.2.2.2.2.1
theorem ak1(n:ot.isNil=ag):(mt b).n+bs (mt ot) o+1<=bs (kz (jM c1 h1 c2 h2 ot) (mt b)) o+1000+lb o*((mt b).n-1000+1):=by
 cases a:o.nF with
 |false=>exact aq (Sx n a) (bq ..)
 |true=>
  induction o using Out.casesOn with
  |eW=>show(mt b).n+1000+1<=1000+1000+1*((mt b).n-1000+1);exact cY (eB (mt b).n 1000)
  |_=>exact d8 a
theorem ak2(v:hv b E (.val x) cU t)(n:ot.isNil=ag)(u:hv ot cU o et s):∃o h c,hv (.eV c1 h1 c2 h2 ot b) E o h c:=by
 have l:=v.le.trans u.le;refine xi (.xH v.gx n u.gx) l (c0 (ar v.r (gM v.le ot)) u.r (gM u.le b)) ?_ ?_
 .have d:=yW (q:=(mt b).n-1000+1) (aq u.r (gM v.le ot));have g:=bc ((mt b).x-1000+8+t1 c1) (gM l h1);have j:=bc ((mt b).x-1000+8+c5 c1 c2) (gM l h2);have e:_<=_+(mt b).n:=v.p;have f:=ak1 (b:=b) (c1:=c1) (h1:=h1) (c2:=c2) (h2:=h2) (o:=o) n;rw[yX,yX];exact c0 (ar (ar f (hX l h1)) (ar (hX v.le ot) u.p)) (ar (ar e (hX l h2)) (ar g d)) (ar (hX u.le b) j)
 .cases a:o.nF with
  |true=>exact ak (ak0 a).symm
  |false=>have i:1000<=(mt b).n:=v.b;exact c0 (Sx (b:=b) (c1:=c1) (h1:=h1) (c2:=c2) (h2:=h2) n a) i u.b
theorem ak3(v:hv b E (.fo e) cU t)(i:pick e (iA c1 h1 c2 h2)=ah):∃o g c,hv (.eV c1 h1 c2 h2 ot b) E o g c:=by
 have f:=(CP (jM c1 h1 c2 h2 ot) (mt b)).2.2.2.1;have cf:=(Sr c1 h1 c2 h2 ot).2.1;have a:=(Su c1 (mt h1) c2 h2.isNil (mt h2)).2.2;have d:_<=_+(mt b).x:=v.p;have h:1000<=(mt b).x:=v.b;refine xi (.xI v.gx i) v.le (K' v) ?_ ?_
 .show _<=_+(kz (jM c1 h1 c2 h2 ot) (mt b)).x;exact c0 (ar f (low (b:=b) (c1:=c1) (h1:=h1) (c2:=c2) (h2:=h2) (ot:=ot) v.le)) (ar (ak cf.symm) d) (ar a (ak (akW c1 c2 h1 h2)))
 .show 1000<=(kz (jM c1 h1 c2 h2 ot) (mt b)).x;exact c0 (ar f h) (ak cf.symm) a
section
variable(v:hv b E (.fo e) cU k)(d_:pick e (iA c1 h1 c2 h2)=ae (h,t))(jk:(h=h1/\t<=t1 c1)\/(h=h2/\h2.isNil=ag/\t<=c5 c1 c2))
include jk
theorem ak4:∃c,t<=c/\hh (jM c1 h1 c2 h2 ot) c (mt h):=by have e:=Sr c1 h1 c2 h2 ot;have b:=Su c1 (mt h1) c2 h2.isNil (mt h2);dsimp only[hh]at*;rw[e.1,e.2.1,e.2.2];exact jk.elim (λa=>⟨_,a.2,a.1▸b.1⟩) λa=>⟨_,a.2.2,a.1▸b.2.1 a.2.1⟩
include d_ v
theorem ak5(u:hv h (cU.iS (ae e)) o et s)(a:o.nF=ag):∃o g c,hv (.eV c1 h1 c2 h2 ot b) E o g c:=by have s1:=(FB 0 cU (ae e)).2;have s2:=(FB 0 et cU.err).2;have l:=(v.le.trans s1).trans (u.le.trans s2);refine c_ (ak4 (ot:=ot) jk) λm tt k=>eP (akX (o:=o) k tt a v.b u.b) λi j=>xi (.xJ v.gx d_ u.gx a) l (c0 (gM l b) (gM l ot) (show lb o<=0 by induction o using Out.casesOn<;>first|exact av _|exact kD a)) ?_ j;have f:_<=_+(mt b).x:=v.p;have d:=Sv (r:=lb o) (ot:=ot) (b:=b) jk (v.le.trans s1) (u.le.trans s2) (dp u.r (gM s2 h));exact c0 (ar f (hX s2 h)) (ar u.p d) (ar (hX s1 b) i)
theorem ak7(u:hv h (cU.iS (ae e)) .eW a s)(n:∀f,dJ h1 f+dJ h2 f<dJ h1 E+dJ h2 E->∃o a c,hv (.eV c1 h1 c2 h2 ot b) f o a c):∃o f c,hv (.eV c1 h1 c2 h2 ot b) E o f c:=by have s1:=(FB 0 cU (ae e)).2;have s2:=(FB 0 a cU.err).2;have g:=v.le.trans s1;have l:=g.trans (u.le.trans s2);have q:_+1<=_:=u.r;have i:dJ h (a.iS cU.err)+1<=dJ h (cU.iS (ae e)):=dp q (gM s2 h);have lt:dJ h1 (a.iS cU.err)+dJ h2 (a.iS cU.err)<dJ h1 E+dJ h2 E:=jk.elim (λj=>Nat.add_lt_add_of_lt_of_le (aq (j.1▸i) (gM g h1)) (gM l h2)) λj=>Nat.add_lt_add_of_le_of_lt (gM l h1) (aq (j.1▸i) (gM g h2));refine mq (n _ lt) λlj t w d=>⟨lj,t,_,.sf v.gx d_ u.gx d.gx,l.trans d.le,dp d.r (gM l _),?_,d.b⟩;have m:_<=_+(mt b).x:=v.p;have k:_<=_+1000:=u.p;exact c0 (ar (ar m k) (eB ((mt b).x) 1000)) (ar (hX s1 b) (Sv (ot:=ot) (b:=b) jk g (u.le.trans s2) i)) (ar (hX s2 h) d.p)
end
theorem ak9(r:∀E,∃o a c,hv b E o a c)(p:ot.isNil=ag->∀E,∃o a c,hv ot E o a c)(q:∀E,∃o a c,hv h1 E o a c)(l:h2.isNil=ag->∀E,∃o a c,hv h2 E o a c):
  ∀(m:Nat)(E:Env),dJ h1 E+dJ h2 E<=m->∃o a c,hv (.eV c1 h1 c2 h2 ot b) E o a c:=by
 intro m
 induction m using Nat.strongRecOn with
 |ind m s=>
 intro E hm;refine mq (r E) λeO k u d=>?_
 induction eO using Out.casesOn with
 |val x=>exact(Bool.eq_false_or_eq_true ot.isNil).elim (λn=>akZ d n) λn=>mq (p n k) λ_ _ _ g=>ak2 d n g
 |fo e=>
  refine(Option.eq_none_or_eq_some (pick e (iA c1 h1 c2 h2))).elim (λf=>ak3 d f) λ⟨(h,v),f⟩=>?_;have j:=akV f;refine mq ((j.elim (λi=>i.1▸q) (λi=>i.1▸l i.2.1):∀E,∃o a c,hv h E o a c) (k.iS (ae e))) λf_ t w g=>?_
  induction f_ using Out.casesOn with
  |eW=>exact ak7 d f j g λa lt=>s _ (apu lt hm) a (av _)
  |_=>exact ak5 d f j g B
 |_=>exact akY d B
end
theorem visit:∀(t:T)(L H:Bool),iq L H t->∀E,∃o e c,hv t E o e c
 |.mark n,_,_,_,E=>⟨_,_,_,.mark,λ_=>aO _,av _,av _,ay B⟩
 |.seen,_,_,_,E=>⟨_,_,_,.seen,λ_=>aO _,av _,av _,ay B⟩
 |.h4 b,_,_,_,E=>⟨_,_,_,.h4,λ_=>aO _,av _,av _,ay B⟩
 |.brk n,_,_,_,E=>⟨_,_,_,.brk,λ_=>aO _,av _,av _,ay B⟩
 |.dQ n,_,_,_,E=>⟨_,_,_,.dQ,λ_=>aO _,av _,av _,ay B⟩
 |.ret n,_,_,_,E=>⟨_,_,_,.ret,λ_=>aO _,av _,av _,ay B⟩
 |.once id,_,_,_,E=>by
  have lt:=Env.le.tick E id;have k:=Sm E id;by_cases h:E.cnt id=1
  .have a:m_ id E=1:=by dsimp only[m_];rw[if_pos (g4 (bt h))]
   have b:m_ id (E.tick id)=0:=by dsimp only[m_];rw[if_neg (by lia)]
   refine⟨_,_,_,.xE h,lt,?_,?_,av _⟩
   .show m_ id _+1<=m_ id E;exact dp (ak a.symm) (ak b)
   .show 10+10*m_ id _+1000<=10*m_ id E+1000;lia
  .have a:=K3 (id:=id) lt;refine⟨_,_,_,.xF h,lt,a,?_,ay B⟩;show 5+10*m_ id _+1000<=10*m_ id E+1005;lia
 |.seq1 a,L,H,ok,E=>by exact mq (visit a L H ok E) λo e c d=>⟨o,e,c,.seq1 d.gx,d.le,d.r,d.p,d.b⟩
 |.gn a b,L,H,ok,E=>akN (visit a L H ok.1) (visit b L H ok.2) E
 |.arr a b,L,H,ok,E=>akO (visit a L H ok.1) (visit b L H ok.2) E
 |.fm id b,L,H,ok,E=>akQ (visit b af H ok.2) _ E (av _)
 |.bare b,L,H,ok,E=>by exact mq (visit b L H ok E) λo e c d=>⟨o,e,c,.bare d.gx,d.le,d.r,d.p,d.b⟩
 |.eV j f m i g b,L,H,ok,E=>ak9 (visit b L H ok.1) (λn=>visit g L H (ok.2.1.resolve_left (by rw[n];decide))) (visit f L af ok.2.2.1.1) (λn=>visit i L af (ok.2.2.2.resolve_left (by rw[n];decide)).1) _ E (av _)
 |.dZ x l,L,H,ok,E=>akU (visit x L H ok.1) (visit l L H ok.2.1) E
noncomputable def kR(s:dV):dV:={s with b:=s.b+1}
def tk(m:Nat)(s:dV):Nat×dV:=((s.take.1.fmod m).toNat,s.take.2)
section
def lg(m:Nat)(a:Nat->dV->α×dV)(s:dV):α×dV:=a (tk m s).1 (tk m s).2
noncomputable def jy(h:α->β->Al)(f:dV->α×dV)(g:dV->β×dV)(s:dV):Al×dV:=(h (f s).1 (g (f s).2).1,(g (f s).2).2)
noncomputable def qV(h:α->β)(f:dV->α×dV)(s:dV):β×dV:=(h (f s).1,(f s).2)
end
def n6(L H:Bool)(w:Nat):dV->T×dV:=
 if w=1 then λs=>(.seen,s)else if w=2 then lg 2 λa s=>(.h4 (a==1),s)
 else if w=6/\L=af then lg 2 λa s=>(if a=0 then .brk (s.b+1)else .dQ (s.b+1),kR s)
 else if w=7 then λs=>(.ret (s.b+1),kR s)else if w=8/\H=af then λs=>(.once (s.b+1),kR s)
 else λs=>(.mark (s.b+1),kR s)
def i8(z:Bool)(f:dV->T×dV):dV->T×dV:=lg (if z then 2 else 1) λc=>if c=0 then qV .seq1 f else jy .gn f f
def jN(m:Nat)(f:dV->T×dV):dV->T×dV:=lg m λa=>if a=0 then f else λs=>(.nil,s)
def i9(g:dV->T×dV):dV->(Nat×T)×dV:=lg 4 λc=>qV (λh=>(c,h)) g
def wR(g:dV->T×dV):dV->(Nat×T×Nat×T)×dV:=lg 2 λn=>if n=0 then qV (λa=>(a.1,a.2,0,.nil)) (i9 g)else jy (λb a=>(b.1,b.2,a.1,a.2)) (i9 g) (i9 g)
noncomputable def vl(h:Nat×T×Nat×T)(ot:T):T->T:=λb=>.eV h.1 h.2.1 h.2.2.1 h.2.2.2 ot b
def vm(q:T->T)(l:T):T->T:=λb=>if l.isNil then q b else .dZ (q b) l
def vn(f g:dV->T×dV):dV->T×dV:=jy (λa b=>a b) (jy vm (jy vl (wR g) (jN 3 f)) (jN 2 f)) f
def CQ(f:dV->T×dV):dV->T×dV:=lg 2 λa s=>(.fm (10*(s.b+1)+1+a) (f (kR s)).1,(f (kR s)).2)
def fN:Nat->Bool->Bool->dV->T×dV
 |0,L,a=>lg 10 (n6 L a)
 |k+1,L,a=>lg 10 λc=>
  if c=0 then jy (λb l=>.dZ (.bare b) l) (i8 (k !=0) (fN k L a)) (i8 (k !=0) (fN k L a))
  else if c=4 then vn (i8 (k !=0) (fN k L a)) (i8 (k !=0) (fN k L af))
  else if c=5 then CQ (i8 (k !=0) (fN k af a))
  else if c=9 then jy .arr (fN k L a) (fN k L a)
  else n6 L a c
section
variable{α β Al S σ gg:Type}
noncomputable def CR(j:gg->gg->gg)(x:gg):Option gg->Option gg
 |none=>ae x
 |some y=>ae (j x y)
noncomputable def Am(h:σ->gg)(j:gg->gg->gg):List (Option σ)->List (Option gg)->List (Option gg)
 |[],b=>b
 |_::_,[]=>[]
 |none::gs,a::b=>a::Am h j gs b
 |some g::gs,a::b=>CR j (h g) a::Am h j gs b
noncomputable def La:Nat->List (Option gg)
 |0=>[]
 |n+1=>ah::La n
noncomputable def conv(op:S->σ->gg)(j:gg->gg->gg)(G:List (Option σ)):List (Option S)->Nat->List (Option gg)
 |[],n=>La n
 |_::_,0=>[]
 |none::fs,n+1=>ah::conv op j G fs n
 |some f::fs,n+1=>Am (op f) j G (ah::conv op j G fs n)
noncomputable def pr(h:S->σ):List (Option S)->List (Option σ)
 |[]=>[]
 |none::r=>ah::pr h r
 |some x::r=>ae (h x)::pr h r
noncomputable def qW(j:gg->gg->gg):List (Option gg)->List (Option gg)->List (Option gg)
 |[],b=>b
 |a::as,[]=>a::as
 |none::as,b::bs=>b::qW j as bs
 |some a::as,b::bs=>CR j a b::qW j as bs
noncomputable def cst(x:gg):Nat->List (Option gg)
 |0=>[]
 |n+1=>ae x::cst x n
structure e5(S:Type)where
 F:List (Option S)
 C:List (List Nat×List (Option S))
 T:Nat->S×Nat
noncomputable def val(m e:Nat):Nat:=(5*(e+1)+(e+1)/3)%m
noncomputable def pos(s:dV):Nat:=s.a.toNat%45
def lh(d:α->S->Prop)(c:List (Option S))(N:Nat)(a:α):Prop:=∃b,c[N]?=ae (ae b)/\d a b
structure d9(rel:α->S->Prop)(f:dV->α×dV)(A:e5 S):Prop where
 z:∀s,s.a=0->s.l.length<=40->(∃i,(f s).2.a=0/\s.l.length=(f s).2.l.length+i/\lh rel A.F i (f s).1)\/((f s).2.l=[]/\0<=(f s).2.a/\∃q∈A.C,pos (f s).2∈q.1/\∀N,s.l.length<=N->N<=40->lh rel q.2 N (f s).1)
 t:∀s,s.l=[]->0<=s.a->(f s).2.l=[]/\0<=(f s).2.a/\pos (f s).2=(A.T (pos s)).2/\rel (f s).1 (A.T (pos s)).1
def lF(b:α->gg->Prop)(j:gg->gg->gg):Prop:=∀a x y,(b a x->b a (j x y))/\(b a y->b a (j x y))
theorem Sy(u:lF rel j)(h:rel a x)(y:Option gg):∃v,CR j x y=ae v/\rel a v:=by
 induction y using a_ with
 |none=>exact⟨x,B,h⟩
 |some y=>exact⟨j x y,B,(u a x y).1 h⟩
theorem Lb(u:lF rel j)(h:σ->gg):∀{G:List (Option σ)}{acc:List (Option gg)}{N:Nat},lh rel acc N a->lh rel (Am h j G acc) N a
 |[],_,_,k=>k
 |_::_,[],N,k=>k
 |none::gs,b::acc,0,k=>k
 |none::gs,b::acc,N+1,k=>Lb u h (G:=gs) (acc:=acc) (N:=N) k
 |some g::gs,b::acc,0,⟨v,e,r⟩=>by have e:b=ae v:=aC.inj e;subst e;exact⟨_,B,(u a ..).2 r⟩
 |some g::gs,b::acc,N+1,k=>Lb u h (G:=gs) (acc:=acc) (N:=N) k
theorem Lc(u:lF rel j)(h:σ->gg)(r:rel a (h v)):∀{G:List (Option σ)}{acc:List (Option gg)}{N:Nat},G[N]?=ae (ae v)->N<acc.length->lh rel (Am h j G acc) N a
 |[],_,_=>λe _=>by exact cV e
 |_::_,[],N=>λ_ l=>by cases l
 |none::gs,b::acc,0=>λe l=>by cases e
 |none::gs,b::acc,N+1=>λe l=>Lc u h r (G:=gs) (acc:=acc) (N:=N) e (apE l)
 |some g::gs,b::acc,0=>λe l=>by
  have e:g=v:=by replace e:=aC.inj e;injection e
  subst e;exact c_ (Sy u r b) λd e c=>⟨d,by show ae (CR j (h g) b)=_;rw[e],c⟩
 |some g::gs,b::acc,N+1=>λe l=>Lc u h r (G:=gs) (acc:=acc) (N:=N) e (apE l)
theorem Ld(h:σ->gg):∀(G:List (Option σ))(acc:List (Option gg)),(Am h j G acc).length=acc.length
 |[],_=>rfl
 |_::_,[]=>rfl
 |none::gs,b::acc=>congrArg (·+1) (Ld h gs acc)
 |some g::gs,b::acc=>congrArg (·+1) (Ld h gs acc)
theorem Sz:∀n,(La n:List (Option gg)).length=n
 |0=>rfl
 |n+1=>congrArg (·+1) (Sz n)
theorem Le(op:S->σ->gg)(G:List (Option σ)):∀(F:List (Option S))(n:Nat),(conv op j G F n).length=n
 |[],n=>Sz n
 |_::_,0=>rfl
 |none::fs,n+1=>congrArg (·+1) (Le op G fs n)
 |some f::fs,n+1=>(Ld ..).trans (congrArg (·+1) (Le op G fs n))
theorem FC(u:lF rel j)(r:rel a (op x y)):∀{F:List (Option S)}{i k n:Nat},F[i]?=ae (ae x)->G[k]?=ae (ae y)->i+k<n->lh rel (conv op j G F n) (i+k) a
 |[],_,_,_=>λe _ _=>by exact cV e
 |_::_,_,_,0=>λ_ _ l=>by cases l
 |none::fs,0,_,n+1=>λe _ _=>by cases e
 |none::fs,i+1,k,n+1=>λe b l=>by rw[aoX];exact FC u r (F:=fs) (n:=n) e b (by(simp+arith at l⊢;exact l))
 |some f::fs,0,k,n+1=>λe b l=>by
  have e:f=x:=by replace e:=aC.inj e;injection e
  subst e;rw[aoo];exact Lc u _ r b (by show k<(ah::conv op j G fs n).length;simp only[aln,Le];exact aq (by k_is) l)
 |some f::fs,i+1,k,n+1=>λe b l=>by refine Lb u _ ?_;rw[aoX];exact FC u r (F:=fs) (n:=n) e b (by(simp+arith at l⊢;exact l))
theorem cm_get(g:∀v,relA a v->relB b (h v)):∀{c:List (Option S)}{N:Nat},lh relA c N a->lh relB (pr h c) N b
 |[],_,⟨_,e,_⟩=>by exact cV e
 |none::r,0,⟨_,e,_⟩=>by cases e
 |some x::r,0,⟨v,e,q⟩=>by
  have e:x=v:=by replace e:=aC.inj e;injection e
  subst e;exact⟨_,B,g _ q⟩
 |none::r,N+1,k=>cm_get (c:=r) (N:=N) g k
 |some x::r,N+1,k=>cm_get (c:=r) (N:=N) g k
theorem s6(u:lF rel j):∀{c d:List (Option gg)}{N:Nat},lh rel c N a->lh rel (qW j c d) N a
 |[],_,_,⟨_,e,_⟩=>by exact cV e
 |_::_,[],_,k=>k
 |none::as,b::bs,0,⟨_,e,_⟩=>by cases e
 |some x::as,b::bs,0,⟨v,e,f⟩=>by
  have e:x=v:=by replace e:=aC.inj e;injection e
  subst e;exact c_ (Sy u f b) λg e f=>⟨g,by show ae (CR j x b)=_;rw[e],f⟩
 |none::as,b::bs,N+1,k=>s6 u (c:=as) (d:=bs) (N:=N) k
 |some x::as,b::bs,N+1,k=>s6 u (c:=as) (d:=bs) (N:=N) k
theorem n7(u:lF rel j):∀{c d:List (Option gg)}{N:Nat},lh rel d N a->lh rel (qW j c d) N a
 |[],_,_,k=>k
 |_::_,[],_,⟨_,e,_⟩=>by exact cV e
 |none::as,b::bs,0,k=>k
 |some x::as,b::bs,0,⟨v,e,q⟩=>by have e:b=ae v:=aC.inj e;subst e;exact⟨_,B,(u a ..).2 q⟩
 |none::as,b::bs,N+1,k=>n7 u (c:=as) (d:=bs) (N:=N) k
 |some x::as,b::bs,N+1,k=>n7 u (c:=as) (d:=bs) (N:=N) k
theorem Lf(r:rel a x):∀{n N:Nat},N<n->lh rel (cst x n) N a
 |0,_=>λl=>by cases l
 |n+1,0=>λ_=>⟨x,B,r⟩
 |n+1,N+1=>λl=>Lf (n:=n) (N:=N) r (apE l)
end
theorem val_mod(h:m=1\/m=2\/m=3\/m=4\/m=10):(5*(n+1)+(n+1)/3)%m=val m (n%45):=by
 unfold val;have a:n+1=n%45+1+3*(15*(n/45)):=(congrArg (·+1) (Nat.mod_add_div n 45).symm).trans ((aoX _ _ 1).trans (congrArg (n%45+1+·) (Nat.mul_assoc 3 15 (n/45))));have b:(n+1)/3=(n%45+1)/3+15*(n/45):=(congrArg (·/3) a).trans (Nat.add_mul_div_left _ _ (by decide));have e:5*(n+1)+(n+1)/3=(5*(n%45+1)+(n%45+1)/3)+240*(n/45):=by rw[b,a];k_is
 refine e▸?_;rcases h with rfl|rfl|rfl|rfl|rfl
 .exact (Nat.mod_one _).trans (Nat.mod_one _).symm
 .rw [show 240*(n/45)=2*(120*(n/45)) by simp+arith,apH]
 .rw [show 240*(n/45)=3*(80*(n/45)) by simp+arith,apH]
 .rw [show 240*(n/45)=4*(60*(n/45)) by simp+arith,apH]
 .rw [show 240*(n/45)=10*(24*(n/45)) by simp+arith,apH]
theorem SA(h:m=1\/m=2\/m=3\/m=4\/m=10)(e:s.l=[])(a:0<=s.a):tk m s=(val m (pos s),{s with a:=s.a+1}):=by
 obtain⟨l,x,b⟩:=s;dsimp only at e a;subst e;refine gu (apy a) λn c=>?_;obtain rfl:=c;have:((5*((n:Int)+1)+((n:Int)+1).fdiv 3).fmod m).toNat=val m (n%45):=by
  rw[<-val_mod h,Int.fdiv_eq_ediv_of_nonneg _ (by exact aH _),Int.fmod_eq_emod_of_nonneg _ (by exact aH _)]
  rfl
 have d:pos ⟨[],(n:Int),b⟩=n%45:=B;rw[d,<-this];rfl
theorem SB(h:0<m)(e:s.l=i::r):(tk m s).1<m/\(tk m s).2={s with l:=r}:=by obtain⟨l,x,b⟩:=s;dsimp only at e;subst e;refine⟨?_,B⟩;show(i.fmod m).toNat<m;exact(Int.toNat_lt (Int.fmod_nonneg_of_pos i (vw h))).mpr (Int.fmod_lt_of_pos i (vw h))
theorem ald(a:0<=s.a):pos {s with a:=s.a+1}=(pos s+1)%45:=by exact aB (apy a) λn e=>(congrArg (λb:Int=>(b+1).toNat%45) e).trans ((Nat.mod_add_mod n 45 1).symm.trans (congrArg (λb:Int=>(b.toNat%45+1)%45) e.symm))
section
variable{α β Al S σ gg:Type}{relA:α->S->Prop}{relB:β->σ->Prop}{Lg:Al->gg->Prop}
noncomputable def e5.ret(x:S):e5 S:=⟨[ae x],[],λe=>(x,e)⟩
theorem d9.ret(h:∀s,(f s).2.l=s.l/\(f s).2.a=s.a/\relA (f s).1 x):d9 relA f (.ret x):=by refine⟨λs a _=>.inl ⟨0,(h s).2.1.trans a,by refine((h s).1)▸?_;rfl,x,B,(h s).2.2⟩,λs l a=>?_⟩;refine iw (h s) λd b c=>⟨d.trans l,by rw[b];exact a,?_,c⟩;show pos _=pos s;unfold pos;rw[b]
noncomputable def lC(c:List (Option S)):List (Option S):=ah::c
noncomputable def ale(C:List (List Nat×List (Option S))):List (List Nat×List (Option S)):=C.map λa=>(a.1,lC a.2)
def e5.case(m:Nat)(F:List (Option S))(C:List (List Nat×List (Option S)))(T:Nat->Nat->S×Nat):e5 S:=
 ⟨lC F,([(T (val m 0) 1).2],cst (T (val m 0) 1).1 41)::ale C,λe=>T (val m e) ((e+1)%45)⟩
theorem d9.case{m:Nat}{C T}(h:m=1\/m=2\/m=3\/m=4\/m=10)(b:∀v,v<m->d9 relA (la v) ⟨F,C,T v⟩):d9 relA (lg m la) (.case m F C T):=by
 have u:0<m:=by lia
 have lt:∀e,val m e<m:=λe=>Nat.mod_lt _ u;have q:∀s:dV,s.l=[]->0<=s.a->(lg m la s).2.l=[]/\0<=(lg m la s).2.a/\pos (lg m la s).2=(T (val m (pos s)) ((pos s+1)%45)).2/\relA (lg m la s).1 (T (val m (pos s)) ((pos s+1)%45)).1:=λs l a=>by have e:=SA h l a;unfold lg;rw[e,<-ald a];exact(b _ (lt _)).t {s with a:=s.a+1} l (by show 0<=s.a+1;exact g4 a)
 refine⟨λs a l=>?_,q⟩;cases e:s.l with
 |nil=>
  refine jQ (q s e (g4 (bt a.symm))) λt1 c5 o jU=>?_;have I:pos s=0:=by unfold pos;refine a▸?_;rfl
  rw[I]at o jU;refine .inr ⟨t1,c5,_,a4 ..,?_,λN _ y=>Lf jU (Nat.lt_succ_of_le y)⟩;exact o▸(anZ _)
 |cons n r=>
  obtain⟨E,D⟩:=SB u e;have w:({s with l:=r}:dV).l.length+1=s.l.length:=by rw[e];rfl
  have j:=(b _ E).z {s with l:=r} a (dp l (ak w));unfold lg;refine D▸?_;rcases j with⟨n,i,d,g⟩|⟨i,d,p,g,G,H⟩
  .exact .inl ⟨n+1,i,by rw[anC];exact congrArg (·+1) d,g⟩
  .refine .inr ⟨i,d,(p.1,lC p.2),aY _ (bS g),G,λN c x=>?_⟩;obtain⟨N,rfl⟩:∃k,N=k+1:=⟨N-1,by rw[anC]at c;exact fw c B⟩;exact H N (by replace c:=anC▸c;exact anu c) (aoA x)
def e5.seq(op:S->σ->gg)(j:gg->gg->gg)(A:e5 S)(b9:e5 σ):e5 gg:=
 ⟨conv op j b9.F A.F 41,b9.C.map (λa=>(a.1,conv op j a.2 A.F 41))++A.C.flatMap (λa=>a.1.map λe=>([(b9.T e).2],pr (λb=>op b (b9.T e).1) a.2)),λe=>(op (A.T e).1 (b9.T (A.T e).2).1,(b9.T (A.T e).2).2)⟩
theorem d9.seq{h:α->β->Al}{f:dV->α×dV}{g:dV->β×dV}{A:e5 S}{b9:e5 σ}{op:S->σ->gg}{j:gg->gg->gg}(u:lF Lg j)(m:∀a x b y,relA a x->relB b y->Lg (h a b) (op x y))(E:d9 relA f A)(D:d9 relB g b9):d9 Lg (jy h f g) (.seq op j A b9):=by
 refine⟨λs a l=>?_,λs l a=>?_⟩
 .rcases E.z s a l with⟨c,C,d,V,o,p⟩|⟨C,d,F,o,p,W⟩
  .rcases D.z (f s).2 C (dp l (ak d.symm))with⟨k,r,i,L,q,w⟩|⟨r,i,F,q,w,M⟩
   .exact .inl ⟨c+k,r,by show _=(g (f s).2).2.l.length+_;exact a7 (dp (ak d) (ak i)) (dp (ak d.symm) (ak i.symm)),FC u (m _ _ _ _ p w) o q (c0 l (ak d.symm) (ak i.symm))⟩
   .refine .inr ⟨r,i,_,aU _ (bS q),w,λN e n=>?_⟩;refine c_ (M (N-c) (c0 (ak d.symm) e (eB N c)) (aq (by k_is) n)) λL R Q=>?_;have:=FC u (m _ _ _ _ p Q) o R (show c+(N-c)<41 by exact dp n (sB (show c<=N from(dp (ak d.symm) e))))
    rwa [show c+(N-c)=N by exact a7 (cY (sB (show c<=N from(dp (ak d.symm) e)))) (cY (eB N c))]at this
  .refine jQ (D.t (f s).2 C d) λt1 c5 v jU=>.inr ⟨t1,c5,_,aK _ (apD.mpr ⟨F,o,bS p⟩),?_,λN e n=>?_⟩
   .show pos (g (f s).2).2∈_;rw[v];exact anZ _
   .exact cm_get (relA:=relA) (λV X=>m _ _ _ _ X jU) (W N e n)
 .refine jQ (E.t s l a) λt1 c5 v jU=>jQ (D.t (f s).2 t1 c5) λI H G ft=>?_;rw[v]at G ft;exact⟨I,H,G,m _ _ _ _ jU ft⟩
def e5.map(k:S->σ)(A:e5 S):e5 σ:=⟨pr k A.F,A.C.map λa=>(a.1,pr k a.2),λe=>(k (A.T e).1,(A.T e).2)⟩
theorem d9.map(m:d9 relA f A)(o:∀s,∃s',s'.l=s.l/\s'.a=s.a/\(g s).2=(f s').2/\∀x,relA (f s').1 x->relB (g s).1 (k x)):d9 relB g (.map k A):=by
 refine⟨λs a l=>?_,λs l a=>?_⟩
 .refine tc (o s) λs' c h e r=>?_;rcases m.z s' (h.trans a) (by rw[c];exact l)with⟨q,d,b,i⟩|⟨d,b,y,i,n,v⟩
  .rw [<-e]at d b;exact .inl ⟨q,d,c▸b,cm_get (relA:=relA) r i⟩
  .rw [<-e]at d b n;exact .inr ⟨d,b,_,bS i,n,λN u p=>cm_get (relA:=relA) r (v N (by rw[c];exact u) p)⟩
 .refine tc (o s) λs' c h e r=>jQ (m.t s' (c.trans l) (by rw[h];exact a)) λt1 c5 j jU=>?_;rw[<-e]at t1 c5 j;have w:pos s'=pos s:=by unfold pos;rw[h]
  rw[w]at j jU;exact⟨t1,c5,j,r _ jU⟩
theorem d9.wide{f:dV->α×dV}{T:Nat->S×Nat}(h:d9 relA f A)(ky:∀i a,lh relA A.F i a->lh relA F i a)(j:∀q∈A.C,∀e∈q.1,∃p∈C,e∈p.1/\∀N a,N<=40->lh relA q.2 N a->lh relA p.2 N a)(l5:∀e a,relA a (A.T e).1->relA a (T e).1/\(A.T e).2=(T e).2):d9 relA f ⟨F,C,T⟩:=by
 refine⟨λs a l=>?_,λs l a=>?_⟩
 .rcases h.z s a l with⟨i,d,b,c⟩|⟨d,b,q,c,v,w⟩
  .exact .inl ⟨i,d,b,ky _ _ c⟩
  .exact lI (j q c _ v) λp x n m=>.inr ⟨d,b,p,x,n,λN u g=>m N _ g (w N u g)⟩
 .refine jQ (h.t s l a) λt1 c5 r jU=>?_;obtain⟨o,k⟩:=l5 _ _ jU;exact⟨t1,c5,r.trans k,o⟩
end
theorem pv(h:a<=c)(k:b<=d):b1 a b<=b1 c d:=CO (aq h (gf ..)) (aq k (fT ..))
def hH(p q:dF):Prop:=p.n<=q.n/\p.x<=q.x/\p.o<=q.o/\p.r<=q.r/\p.w<=q.w/\p.a<=q.a/\p.b<=q.b
theorem hH.refl(p:dF):hH p p:=⟨av _,av _,av _,av _,av _,av _,av _⟩
theorem hH.trans(u:hH p q)(v:hH q r):hH p r:=⟨aq u.1 v.1,aq u.2.1 v.2.1,aq u.2.2.1 v.2.2.1,aq u.2.2.2.1 v.2.2.2.1,aq u.2.2.2.2.1 v.2.2.2.2.1,aq u.2.2.2.2.2.1 v.2.2.2.2.2.1,aq u.2.2.2.2.2.2 v.2.2.2.2.2.2⟩
def ke:dF->dF->dF
 |⟨n,x,j,r,e,a,b⟩,⟨f,k,g,c,d,h,i⟩=>⟨b1 n f,b1 x k,b1 j g,b1 r c,b1 e d,b1 a h,b1 b i⟩
theorem SC(p q:dF):hH p (ke p q):=⟨gf ..,gf ..,gf ..,gf ..,gf ..,gf ..,gf ..⟩
theorem SD(p q:dF):hH q (ke p q):=⟨fT ..,fT ..,fT ..,fT ..,fT ..,fT ..,fT ..⟩
structure i'(p q:hG):Prop where
 cm:p.cm<=q.cm
 ce:p.ce<=q.ce
 cw:p.cw<=q.cw
 fG:p.fG<=q.fG
 on:p.on<=q.on
 gL:p.gL<=q.gL
 fB:p.fB<=q.fB
 w:p.w<=q.w
 po:p.po<=q.po
 px:p.px<=q.px
 ln:p.ln<=q.ln
 er:p.er<=q.er
 c1:p.c1<=q.c1
 d5:p.d5<=q.d5
 km:p.km<=q.km
 jH:p.jH<=q.jH
theorem i'.refl(p:hG):i' p p:=by constructor<;>exact av _
theorem i'.trans(a:i' p q)(b:i' q r):i' p r:=⟨aq a.1 b.1,aq a.2 b.2,aq a.3 b.3,aq a.4 b.4,aq a.5 b.5,aq a.6 b.6,aq a.7 b.7,aq a.8 b.8,aq a.9 b.9,aq a.10 b.10,aq a.11 b.11,aq a.12 b.12,aq a.13 b.13,aq a.14 b.14,aq a.15 b.15,aq a.16 b.16⟩
def pw:hG->hG->hG
 |⟨a,b,c,d,e,f,g,h,i,k,l,m,n,o,p,q⟩,⟨hQ,b',eZ,ea,c8,f',vK,h',Lh,k',ny,h_,dm,eM,d7,je⟩=>⟨b1 a hQ,b1 b b',b1 c eZ,b1 d ea,b1 e c8,b1 f f',b1 g vK,b1 h h',b1 i Lh,b1 k k',b1 l ny,b1 m h_,b1 n dm,b1 o eM,b1 p d7,b1 q je⟩
theorem Li(p q:hG):i' p (pw p q):=by constructor<;>exact gf _ _
theorem Lj(p q:hG):i' q (pw p q):=by constructor<;>exact fT _ _
structure e1 where
 dh:Nat
 ig:Nat
 qP:Nat
 x:Nat
 o:Nat
 r:Nat
 w:Nat
 a:Nat
 k:Nat
 b:Nat
noncomputable def yY:dF->e1
 |⟨n,x,d,r,c,a,b⟩=>⟨ax n 1,ax n 3,n,x,d,r,c,ax a 1,ax (bb 2 a) 10,b⟩
noncomputable def FD:e1:=⟨1000,1000,1000,0,0,0,0,0,0,0⟩
structure qX(p q:e1):Prop where
 dh:p.dh<=q.dh
 ig:p.ig<=q.ig
 qP:p.qP<=q.qP
 x:p.x<=q.x
 o:p.o<=q.o
 r:p.r<=q.r
 w:p.w<=q.w
 a:p.a<=q.a
 k:p.k<=q.k
 b:p.b<=q.b
theorem qX.refl(p:e1):qX p p:=by constructor<;>exact av _
theorem qX.trans{p q r:e1}(a:qX p q)(b:qX q r):qX p r:=⟨aq a.1 b.1,aq a.2 b.2,aq a.3 b.3,aq a.4 b.4,aq a.5 b.5,aq a.6 b.6,aq a.7 b.7,aq a.8 b.8,aq a.9 b.9,aq a.10 b.10⟩
def CS:e1->e1->e1
 |⟨a,b,c,d,e,f,g,h,n,k⟩,⟨o,l,p,i,s,q,j,r,t,m⟩=>⟨b1 a o,b1 b l,b1 c p,b1 d i,b1 e s,b1 f q,b1 g j,b1 h r,b1 n t,b1 k m⟩
theorem alf(p q:e1):qX p (CS p q):=by constructor<;>exact gf _ _
theorem alg(p q:e1):qX q (CS p q):=by constructor<;>exact fT _ _
def yZ:hG->e1->hG
 |⟨j,ce,f,q,o,p,g,s,_,_,_,m,_,t,_,n⟩,⟨l,i,c,x,e,r,u,a,k,b⟩=>
  (λh d=>⟨aJ (ax j l) 1000,b1 (aJ (ax ce i) 1000) (aJ (ax h x) 1000),b1 (aJ (ax f c) 1000) (aJ (ax h e) 1000),q,
   aJ (ax o l) 1000,b1 (aJ (ax p i) 1000) (aJ (ax d x) 1000),b1 (aJ (ax g c) 1000) (aJ (ax d e) 1000),
   ax (ax (ax s u) (bb m (aJ c 1000))) (bb r (aJ (b1 h d) 1000)),ax e 1,ax x 1,c,ax m r,
   ax a 1,ax (ax t (bb n a)) k,ax 1 b,ax (bb n (ax 1 b)) (bb 2 b)⟩) (ax (b1 j (b1 ce f)) 1) (ax (b1 o (b1 p g)) 1)
theorem am(h:a<=c)(k:b<=d):ax a b<=ax c d:=ar h k
theorem sd(h:a<=c):aJ a k<=aJ c k:=Nat.sub_le_sub_right h k
theorem pI(h:a<=c)(k:b<=d):bb a b<=bb c d:=Nat.mul_le_mul h k
theorem SE(x:Nat):Ak x=min x 1000:=(apk x 1000).elim (λh=>(show x-(x-1000)=x by rw[apl h];rfl).trans (anp h).symm) λh=>(Nat.sub_sub_self h).trans (Nat.min_eq_right h).symm
theorem alh(h:x<=y):Ak x<=Ak y:=by rw[SE,SE];exact Nat.le_min.2 ⟨aq (Nat.min_le_left ..) h,Nat.min_le_right ..⟩
def fin:hG->dF->dF
 |⟨l,ce,h,g,q,t,j,k,po,f,c,e,m,o,i,p⟩,⟨n,x,d,r,s,a,b⟩=>
  ⟨b1 (b1 (aJ (ax n q) 1000) (aJ (ax x l) 1000)) (aJ c 999),b1 (b1 (aJ (ax n t) 1000) (aJ (ax x ce) 1000)) (b1 (aJ (ax d f) 1000) (b1 f (aJ c 997))),b1 (b1 (aJ (ax n j) 1000) (aJ (ax x h) 1000)) (b1 (b1 (aJ (ax d po) 1000) po) (b1 (aJ (ax d c) 1000) (aJ c 1000))),ax r e,
   ax (ax (ax (ax k s) (bb e (ax (aJ (b1 n (b1 x d)) 1000) 1))) (bb g (aJ x 1000))) (bb r (aJ c 1000)),ax (ax a (bb b m)) o,ax (bb b i) p⟩
section
theorem SF(h:hH m h_)(k:hH q je):hH (cat e m q) (cat e h_ je):=by
 induction m using dF.casesOn;induction h_ using dF.casesOn;cases q;induction je using dF.casesOn
 refine td h λd j l n r s a=>td k λc g i f b p o=>?_;dsimp only at*;refine⟨?_,?_,?_,?_,?_,?_,?_⟩<;>(dsimp only[cat];repeat' (with_reducible first|exact av _|assumption|refine pv ?_ ?_|refine am ?_ ?_|refine sd ?_|refine pI ?_ ?_))
theorem SG(cv:l<=ny)(h:hH m h_):hH (rY l m) (rY ny h_):=by
 induction m using dF.casesOn;induction h_ using dF.casesOn
 refine td h λb c d e f g a=>?_;dsimp only at*;refine⟨?_,?_,?_,?_,?_,?_,?_⟩<;>(dsimp only[rY];repeat' (with_reducible first|exact av _|assumption|refine pv ?_ ?_|refine am ?_ ?_|refine sd ?_|refine pI ?_ ?_|refine alh ?_))
theorem ali(h:hH m h_)(k:hH q je):hH (n5 m q) (n5 h_ je):=by
 induction m using dF.casesOn;induction h_ using dF.casesOn;cases q;induction je using dF.casesOn
 refine td h λd i j l p r a=>td k λc f g e b o n=>?_;dsimp only at*;refine⟨?_,?_,?_,?_,?_,?_,?_⟩<;>(dsimp only[n5];repeat' (with_reducible first|exact av _|assumption|refine pv ?_ ?_|refine am ?_ ?_|refine sd ?_|refine pI ?_ ?_))
theorem Lk(f:t<=kY)(h:hH m h_):i' (hd t m) (hd kY h_):=by
 induction m using dF.casesOn;induction h_ using dF.casesOn
 refine td h λb c d e g i a=>?_;dsimp only at*;constructor<;>(dsimp only[hd];repeat' (with_reducible first|exact av _|assumption|refine pv ?_ ?_|refine am ?_ ?_|refine sd ?_|refine pI ?_ ?_))
theorem alj(h:i' p d7)(k:i' r dq):i' (s5 p r) (s5 d7 dq):=by
 induction p using hG.casesOn;induction d7 using hG.casesOn;induction r using hG.casesOn;cases dq
 obtain⟨b,e,D,M,x,i,m,c,y,n,j,H,d,v,q,E⟩:=h;obtain⟨z,C,L,s,a,w,F,t,l,f,u,G,g,I,A,o⟩:=k;dsimp only at*;constructor<;>(dsimp only[s5];repeat' (with_reducible first|exact av _|assumption|refine pv ?_ ?_|refine am ?_ ?_|refine sd ?_|refine pI ?_ ?_))
theorem SH(h:i' p d7)(k:hH m h_):i' (m' p m) (m' d7 h_):=by
 induction p using hG.casesOn;induction d7 using hG.casesOn;induction m using dF.casesOn;induction h_ using dF.casesOn
 obtain⟨b,e,v,A,r,f,i,c,s,j,g,y,d,o,l,w⟩:=h;refine td k λt u z n a q x=>?_;dsimp only at*;constructor<;>(dsimp only[m'];repeat' (with_reducible first|exact av _|assumption|refine pv ?_ ?_|refine am ?_ ?_|refine sd ?_|refine pI ?_ ?_))
theorem alk(k:hH m h_):qX (yY m) (yY h_):=by
 induction m using dF.casesOn;induction h_ using dF.casesOn
 refine td k λb d e c a g f=>?_;dsimp only at*;constructor<;>(dsimp only[yY];repeat' (with_reducible first|exact av _|assumption|refine pv ?_ ?_|refine am ?_ ?_|refine sd ?_|refine pI ?_ ?_))
theorem SI(h:i' p d7)(k:qX l ny):i' (yZ p l) (yZ d7 ny):=by
 induction p using hG.casesOn;induction d7 using hG.casesOn;induction l using e1.casesOn;induction ny using e1.casesOn
 obtain⟨b,e,y,E,u,g,m,c,v,n,i,C,d,s,o,z⟩:=h;obtain⟨w,x,D,q,a,t,A,r,j,f⟩:=k;dsimp only at*;constructor<;>(dsimp only[yZ];repeat' (with_reducible first|exact av _|assumption|refine pv ?_ ?_|refine am ?_ ?_|refine sd ?_|refine pI ?_ ?_))
theorem CT(h:i' p d7)(k:hH m h_):hH (fin p m) (fin d7 h_):=by
 induction p using hG.casesOn;induction d7 using hG.casesOn;induction m using dF.casesOn;induction h_ using dF.casesOn
 obtain⟨b,e,v,A,r,f,i,c,s,j,g,y,d,o,l,w⟩:=h;refine td k λt u z n a q x=>?_;dsimp only at*;refine⟨?_,?_,?_,?_,?_,?_,?_⟩<;>(dsimp only[fin];repeat' (with_reducible first|exact av _|assumption|refine pv ?_ ?_|refine am ?_ ?_|refine sd ?_|refine pI ?_ ?_))
end
theorem nil_eq{t:T}(h:t.isNil=af):t=.nil:=by cases t<;>first|rfl|cases h
theorem mN(E:Env):∀t,dJ t E<=(mt t).r
 |.once id=>by show m_ id E<=1;unfold m_;split<;>(first|exact av _|k_is)
 |.seq1 a=>mN E a
 |.gn a b=>ar (mN E a) (mN E b)
 |.arr a b=>ar (mN E a) (mN E b)
 |.fm _ b=>mN E b
 |.bare b=>mN E b
 |.eV h e f d c b=>by
  have g:=mN E b;have i:=mN E c;show dJ b E+dJ c E<=(mt b).r+(if c.isNil then hy h (mt e) f d.isNil (mt d)else m' (hy h (mt e) f d.isNil (mt d)) (mt c)).er;cases n:c.isNil with
  |true=>have:=nil_eq n;subst this;exact aq g (bq ..)
  |false=>exact ar g i
 |.dZ x l=>ar (mN E x) (mN E l)
 |.nil=>av _
 |.mark _=>av _
 |.seen=>av _
 |.h4 _=>av _
 |.brk _=>av _
 |.dQ _=>av _
 |.ret _=>av _
theorem qm{E:Env}(v:∀id,1<=E.cnt id):∀t,eu t E<=(mt t).w
 |.once id=>by show 10*m_ id E<=10;unfold m_;split<;>(first|exact av _|k_is)
 |.seq1 a=>qm v a
 |.gn a b=>ar (ar (qm v a) (qm v b)) (bc _ (mN E b))
 |.arr a b=>ar (ar (qm v a) (qm v b)) (bc _ (mN E b))
 |.fm id b=>ar (qm v b) (bc _ (Int.toNat_le_toNat (g4 (v id))))
 |.bare b=>qm v b
 |.eV f d g c h b=>by
  have q:=qm v b;have u:=qm v h;have s:=qm v d;have D:=qm v c;have M:=mN E b;have y:=mN E h;have C:=mN E d;have F:=mN E c;have p:eu d E+dJ d E*((mt b).x-1000+8+t1 f)+(eu c E+dJ c E*((mt b).x-1000+8+c5 f g))<=(hy f (mt d) g c.isNil (mt c)).w+(hy f (mt d) g c.isNil (mt c)).fG*((mt b).x-1000):=by
   have j:=bc ((mt b).x-1000+(8+t1 f)) C;have k:=bc ((mt b).x-1000+(8+c5 f g)) F;rw[aop (mt d).r,<-aoc _ 8]at j;rw[aop (mt c).r,<-aoc _ 8]at k;cases n:c.isNil with
   |true=>
    have:=nil_eq n;subst this;show _<=(mt d).w+(mt d).r*(8+t1 f)+(mt d).r*((mt b).x-1000);have m:eu T.nil E+dJ T.nil E*((mt b).x-1000+8+c5 f g)=0:=by show 0+0*_=0;k_is
    rw[m];exact dp s j
   |false=>show _<=((mt d).w+(mt d).r*(8+t1 f)+((mt c).w+(mt c).r*(8+c5 f g)))+((mt d).r+(mt c).r)*((mt b).x-1000);rw[anM];exact c0 (ar s k) D j
  have H:(mt b).n-1000+1<=b1 (mt b).n (b1 (mt b).x (mt b).o)-1000+1:=by have:=gf (mt b).n (b1 (mt b).x (mt b).o);exact(kU ((mt b).x) 1000).elim (λA=>(kU ((mt b).n) 1000).elim (λi=>c0 this (ak i) (eB (b1 (mt b).n (b1 (mt b).x (mt b).o)) 1000)) λi=>cY (ak i.1)) λA=>(kU ((mt b).n) 1000).elim (λi=>c0 this (ak i) (eB (b1 (mt b).n (b1 (mt b).x (mt b).o)) 1000)) λi=>cY (ak i.1)
  have I:=Nat.mul_le_mul y H;rw[yX];have e:(mt (.eV f d g c h b)).w=(if h.isNil then hy f (mt d) g c.isNil (mt c)else m' (hy f (mt d) g c.isNil (mt c)) (mt h)).w+(mt b).w+(if h.isNil then hy f (mt d) g c.isNil (mt c)else m' (hy f (mt d) g c.isNil (mt c)) (mt h)).er*(b1 (mt b).n (b1 (mt b).x (mt b).o)-1000+1)+(if h.isNil then hy f (mt d) g c.isNil (mt c)else m' (hy f (mt d) g c.isNil (mt c)) (mt h)).fG*((mt b).x-1000):=B;rw[e];cases n:h.isNil with
  |true=>
   have:=nil_eq n;subst this;have m:eu T.nil E+dJ T.nil E*((mt b).n-1000+1)=0:=by show 0+0*_=0;k_is
   rw[m];simp only[if_true];exact dp q p
  |false=>simp only[aoG,if_false];have z:(m' (hy f (mt d) g c.isNil (mt c)) (mt h)).w=(hy f (mt d) g c.isNil (mt c)).w+(mt h).w:=B;have G:(m' (hy f (mt d) g c.isNil (mt c)) (mt h)).er=(mt h).r:=B;have L:(m' (hy f (mt d) g c.isNil (mt c)) (mt h)).fG=(hy f (mt d) g c.isNil (mt c)).fG:=B;rw[z,G,L];exact c0 (ar q I) u p
 |.dZ x l=>by have j:=bc (em (mt x)) (mN E l);have k:=bc ((mt l).n-1000) (mN E x);exact ar (ar (ar (qm v x) (qm v l)) j) k
 |.nil=>av _
 |.mark _=>av _
 |.seen=>av _
 |.h4 _=>av _
 |.brk _=>bH _
 |.dQ _=>bH _
 |.ret _=>bH _
theorem qn:∀t,(mt t).a=al t/\(mt t).b=be t
 |.nil=>⟨B,B⟩
 |.mark _=>⟨B,B⟩
 |.seen=>⟨B,B⟩
 |.h4 _=>⟨B,B⟩
 |.brk _=>⟨B,B⟩
 |.dQ _=>⟨B,B⟩
 |.ret _=>⟨B,B⟩
 |.once _=>⟨B,B⟩
 |.seq1 a=>qn a
 |.gn a b=>by obtain⟨p,m⟩:=qn a;obtain⟨f,e⟩:=qn b;exact⟨by show(mt a).a+(mt b).a+0=al a+al b;exact a7 (dp (ak p) (ak f)) (dp (ak p.symm) (ak f.symm)),by show(mt a).b+(mt b).b=be a+be b;exact a7 (dp (ak m) (ak e)) (dp (ak m.symm) (ak e.symm))⟩
 |.arr a b=>by obtain⟨p,m⟩:=qn a;obtain⟨f,e⟩:=qn b;exact⟨by show(mt a).a+(mt b).a+2=al a+al b+2;exact a7 (dp (ak p) (ak f)) (dp (ak p.symm) (ak f.symm)),by show(mt a).b+(mt b).b=be a+be b;exact a7 (dp (ak m) (ak e)) (dp (ak m.symm) (ak e.symm))⟩
 |.fm _ b=>by obtain⟨f,e⟩:=qn b;exact⟨by show(mt b).a+8=al b+8;(simp+arith at f⊢;exact f),e⟩
 |.bare b=>qn b
 |.eV i d j c h b=>by
  obtain⟨f,e⟩:=qn b;obtain⟨eO,f_⟩:=qn h;obtain⟨q,g⟩:=qn d;obtain⟨u,k⟩:=qn c;have o:(hy i (mt d) j c.isNil (mt c)).d5=al d+3*be d+(al c+3*be c)+60/\(hy i (mt d) j c.isNil (mt c)).jH=be d+be c:=by
   cases n:c.isNil with
   |true=>have:=nil_eq n;subst this;exact⟨by show(mt d).a+3*(mt d).b+60=al d+3*be d+(0+3*0)+60;exact a7 (c0 (ar (ak q) (ak g)) (ak g) (ak g)) (c0 (ar (ak q.symm) (ak g.symm)) (ak g.symm) (ak g.symm)),by show(mt d).b=be d+0;exact g⟩
   |false=>exact⟨by show(mt d).a+3*(mt d).b+60+((mt c).a+3*(mt c).b+60)-60=_;exact a7 (c0 (ar (ar (ak q) (ak g)) (ak k)) (ar (ar (ak g) (ak u)) (ak k)) (ar (ar (ak g) (ak k)) (sB (show 60<=(mt d).a+3*(mt d).b+60+((mt c).a+3*(mt c).b+60)from(by k_is))))) (c0 (ar (ar (ak q.symm) (ak g.symm)) (ak k.symm)) (ar (ar (ak g.symm) (ak u.symm)) (ak k.symm)) (ar (ar (ak g.symm) (ak k.symm)) (eB ((mt d).a+3*(mt d).b+60+((mt c).a+3*(mt c).b+60)) 60))),by show(mt d).b+(mt c).b=_;exact a7 (dp (ak g) (ak k)) (dp (ak g.symm) (ak k.symm))⟩
  have ch:(mt (.eV i d j c h b)).a=(mt b).a+(mt b).b+(jM i d j c h).d5:=B;have cf:(mt (.eV i d j c h b)).b=(mt b).b+(jM i d j c h).jH:=B;have y:al (.eV i d j c h b)=al b+be b+al h+(al d+3*be d)+(al c+3*be c)+60:=B;have w:be (.eV i d j c h b)=be b+be h+be d+be c:=B;rw[ch,cf,y,w];unfold jM;cases n:h.isNil with
  |true=>have:=nil_eq n;subst this;have z:al .nil=0:=B;have v:be .nil=0:=B;simp only[if_true];exact⟨a7 (c0 (ak f) (ak e) (ak o.1)) (c0 (ar (ak f.symm) (ak z)) (ak e.symm) (ak o.1.symm)),a7 (dp (ak e) (ak o.2)) (c0 (ak e.symm) (ak o.2.symm) (ak v))⟩
  |false=>simp only[aoG,if_false];have s:(m' (hy i (mt d) j c.isNil (mt c)) (mt h)).d5=(hy i (mt d) j c.isNil (mt c)).d5+(mt h).a:=B;have r:(m' (hy i (mt d) j c.isNil (mt c)) (mt h)).jH=(hy i (mt d) j c.isNil (mt c)).jH+(mt h).b:=B;exact⟨a7 (c0 (ar (ak f) (ak o.1)) (ar (ak e) (ak s)) (ak eO)) (c0 (ar (ak f.symm) (ak o.1.symm)) (ar (ak e.symm) (ak s.symm)) (ak eO.symm)),a7 (c0 (ar (ak e) (ak r)) (ak f_) (ak o.2)) (c0 (ar (ak e.symm) (ak r.symm)) (ak f_.symm) (ak o.2.symm))⟩
 |.dZ x l=>by
  obtain⟨p,m⟩:=qn x;obtain⟨f,e⟩:=qn l;refine⟨?_,?_⟩
  .show (mt x).a+(mt x).b*((mt l).a+1)+2*(mt l).a+10=al x+be x*(al l+1)+2*al l+10;rw[p,m,f]
  .show (mt x).b*(1+(mt l).b)+2*(mt l).b=be x*(1+be l)+2*be l;rw[m,e]
structure anh(p:hG):Prop where
 c1:p.c1=1
 km:p.km=1
theorem alp:hH (kz p m) (fin (yZ p FD) m):=by
 obtain⟨g,ce,d,q,h,f,e,s,E,F,D,k,C,u,A,o⟩:=p;obtain⟨n,x,j,r,v,a,b⟩:=m;have l:=@gf;have sf:=@fT;have le:=@CO;have z:=l (ce+1000-1000) (b1 g (b1 ce d)+1+0-1000);have w:=l (d+1000-1000) (b1 g (b1 ce d)+1+0-1000);have t:=l (f+1000-1000) (b1 h (b1 f e)+1+0-1000);have y:=l (e+1000-1000) (b1 h (b1 f e)+1+0-1000);refine⟨?_,?_,?_,?_,?_,?_,?_⟩
 .show b1 (n+h-1000) (x+g-1000)<=b1 (b1 (n+(h+1000-1000)-1000) (x+(g+1000-1000)-1000)) _;exact aq (pv (av _) (av _)) (l ..)
 .show b1 (n+f-1000) (x+ce-1000)<=b1 (b1 (n+b1 (f+1000-1000) (b1 h (b1 f e)+1+0-1000)-1000) (x+b1 (ce+1000-1000) (b1 g (b1 ce d)+1+0-1000)-1000)) _;exact aq (pv ((kU (ce+1000) 1000).elim (λi=>(kU (n+f) 1000).elim (λc=>c0 (ar t (eB (n+b1 (f+1000-1000) (b1 h (b1 f e)+1+0-1000)) 1000)) (ak c) (eB (f+1000) 1000)) λc=>cY (ak c.1)) λi=>(kU (n+f) 1000).elim (λc=>c0 (ar t (eB (n+b1 (f+1000-1000) (b1 h (b1 f e)+1+0-1000)) 1000)) (ak c) (eB (f+1000) 1000)) λc=>cY (ak c.1)) ((kU (ce+1000) 1000).elim (λi=>(kU (x+ce) 1000).elim (λc=>c0 (ar z (eB (x+b1 (ce+1000-1000) (b1 g (b1 ce d)+1+0-1000)) 1000)) (ak i.symm) (ak c)) λc=>cY (ak c.1)) λi=>(kU (x+ce) 1000).elim (λc=>c0 i.2 (ak c) (eB (x+b1 (ce+1000-1000) (b1 g (b1 ce d)+1+0-1000)) 1000)) λc=>cY (ak c.1))) (l ..)
 .show b1 (b1 (n+e-1000) (x+d-1000)) j<=b1 (b1 (n+b1 (e+1000-1000) (b1 h (b1 f e)+1+0-1000)-1000) (x+b1 (d+1000-1000) (b1 g (b1 ce d)+1+0-1000)-1000)) (b1 (b1 (j+(0+1)-1000) (0+1)) (b1 (j+1000-1000) (1000-1000)));exact pv (pv ((kU (ce+1000) 1000).elim (λi=>(kU (n+e) 1000).elim (λc=>c0 (ar y (eB (n+b1 (e+1000-1000) (b1 h (b1 f e)+1+0-1000)) 1000)) (ak c) (eB (e+1000) 1000)) λc=>cY (ak c.1)) λi=>(kU (n+e) 1000).elim (λc=>c0 (ar y (eB (n+b1 (e+1000-1000) (b1 h (b1 f e)+1+0-1000)) 1000)) (ak c) (eB (e+1000) 1000)) λc=>cY (ak c.1)) ((kU (ce+1000) 1000).elim (λi=>(kU (x+d) 1000).elim (λc=>c0 (ar w (eB (x+b1 (d+1000-1000) (b1 g (b1 ce d)+1+0-1000)) 1000)) (ak c) (eB (d+1000) 1000)) λc=>cY (ak c.1)) λi=>(kU (x+d) 1000).elim (λc=>c0 (ar w (eB (x+b1 (d+1000-1000) (b1 g (b1 ce d)+1+0-1000)) 1000)) (ak c) (eB (d+1000) 1000)) λc=>cY (ak c.1))) (aq (aq (av _) (l (j+1000-1000) (1000-1000))) (sf ..))
 .exact av _
 .show s+v+k*(b1 n (b1 x j)-1000+1)+q*(x-1000)<=s+0+k*(1000-1000)+0*(b1 (b1 g (b1 ce d)+1) (b1 h (b1 f e)+1)-1000)+v+(k+0)*(b1 n (b1 x j)-1000+1)+q*(x-1000)+r*(1000-1000);simp only[Nat.add_zero,apG,Nat.sub_self,Nat.mul_zero];exact av _
 .show a+b+u<=a+b*(0+1)+(u+o*0+0);simp only[aoo,Nat.mul_one,Nat.mul_zero,Nat.add_zero];exact av _
 .show b+o<=b*(1+0)+(o*(1+0)+2*0);simp only[Nat.add_zero,Nat.mul_one,Nat.mul_zero];exact av _
theorem gs{a b c:Nat}(h:a-b<=c):a<=c+b:=Nat.le_add_of_sub_le h
theorem ls{a b c:Nat}(h:a<=c+b):a-b<=c:=Nat.sub_le_of_le_add h
theorem Ll(h0:k<=c)(h1:a+k<=c+1000):a-1000+k<=c:=(apk 1000 a).elim (λb=>dp h1 (sB b)) λb=>aq (ak ((congrArg (·+k) (apl b)).trans (aoo k))) h0
theorem mk(h:a+k<=c)(g:b+k<=c):b1 a b+k<=c:=Nat.add_le_of_le_sub (aq (Nat.le_add_left k a) h) (CO (Nat.le_sub_of_add_le h) (Nat.le_sub_of_add_le g))
theorem An{n i k j r:Nat}(u:i+k-1000<=j)(a:n+j-1000<=r)(b:k<=r+1000):n+i-1000+k<=r+1000:=Ll b (dp (gs u) (gs a))
section
variable{n x o on cm gL ce fB cw g h K dm hB eM dq A b9 r s:Nat}
theorem alq(m:on<=g)(i:gL<=g)(p:fB<=g)(h1:cm<=h)(h2:ce<=h)(j:cw<=h){s c:Nat}(q:n+g+(1+s)<=c+1000)(k:x+h+(1+s)<=c+1000)(l:o+(1+s)<=c)(e:1000+(1+s)<=c):b1 (b1 (b1 (n+on-1000) (x+cm-1000)) (b1 (b1 (n+gL-1000) (x+ce-1000)) (b1 (b1 (n+fB-1000) (x+cw-1000)) o))) 1000+(1+s)<=c:=
 have f:1+s<=c:=aq (Nat.le_add_left _ 1000) e;have d:∀{b},b<=g->n+b-1000+(1+s)<=c:=λa=>Ll f (aq (apg (bF a n) _) q);have a:∀{b},b<=h->x+b-1000+(1+s)<=c:=λa=>Ll f (aq (apg (bF a x) _) k)
 mk (mk (mk (d m) (a h1)) (mk (mk (d i) (a h2)) (mk (mk (d p) (a j)) l))) e
theorem SJ(W:∀{s c},n+g+(1+s)<=c+1000->x+h+(1+s)<=c+1000->o+(1+s)<=c->1000+(1+s)<=c->K+(1+s)<=c)(a:g+1+s-1000<=A)(b:h+1+s-1000<=b9)(f:n+A-1000<=r)(i:x+b9-1000<=r)(e:o+(s+1)-1000<=r)(d:s+1<=r):K+1+s-1000<=r:=
 ls (aq (ak (aoc K 1 s)) (W (dp (gs a) (gs f)) (dp (gs b) (gs i)) (cY (gs e)) (cY d)))
theorem alr:b1 (n+on-1000) (x+cm-1000)+dm+1-1000<=b1 (b1 (n+(on+(dm+1)-1000)-1000) (x+(cm+(dm+1)-1000)-1000)) (dm-999):=
 have a:dm+1<=b1 (b1 (n+(on+(dm+1)-1000)-1000) (x+(cm+(dm+1)-1000)-1000)) (dm-999)+1000:=ano (gs (fT ..))
 ls (mk (k:=dm+1) (An (av _) (aq (gf ..) (gf ..)) a) (An (av _) (aq (fT ..) (gf ..)) a))
theorem als(W:∀{s c},n+g+(1+s)<=c+1000->x+h+(1+s)<=c+1000->o+(1+s)<=c->1000+(1+s)<=c->K+(1+s)<=c):b1 (b1 (n+gL-1000) (x+ce-1000)+dm+3-1000) (K+1+hB-1000)<=b1 (b1 (n+b1 (gL+(dm+3)-1000) (g+1+hB-1000)-1000) (x+b1 (ce+(dm+3)-1000) (h+1+hB-1000)-1000)) (b1 (o+(hB+1)-1000) (b1 (hB+1) (dm-997))):=by have b:=aq (gf (n+b1 (gL+(dm+3)-1000) (g+1+hB-1000)-1000) (x+b1 (ce+(dm+3)-1000) (h+1+hB-1000)-1000)) (gf _ (b1 (o+(hB+1)-1000) (b1 (hB+1) (dm-997))));have d:=aq (fT (n+b1 (gL+(dm+3)-1000) (g+1+hB-1000)-1000) (x+b1 (ce+(dm+3)-1000) (h+1+hB-1000)-1000)) (gf _ (b1 (o+(hB+1)-1000) (b1 (hB+1) (dm-997))));have a:=gs (aq (fT _ (dm-997)) (aq (fT ..) (fT (b1 (n+b1 (gL+(dm+3)-1000) (g+1+hB-1000)-1000) (x+b1 (ce+(dm+3)-1000) (h+1+hB-1000)-1000)) (b1 (o+(hB+1)-1000) (b1 (hB+1) (dm-997))))));exact CO (ls (mk (k:=dm+3) (An (gf ..) b (apg a 3)) (An (gf ..) d (apg a 3)))) (SJ W (fT ..) (fT ..) b d (aq (gf ..) (fT ..)) (aq (aq (gf ..) (fT ..)) (fT ..)))
theorem alt(W:∀{s c},n+g+(1+s)<=c+1000->x+h+(1+s)<=c+1000->o+(1+s)<=c->1000+(1+s)<=c->K+(1+s)<=c):b1 (b1 (b1 (n+fB-1000) (x+cw-1000)) o+dm-1000) (K+1+eM-1000)<=b1 (b1 (n+b1 (fB+dm-1000) (g+1+eM-1000)-1000) (x+b1 (cw+dm-1000) (h+1+eM-1000)-1000)) (b1 (b1 (o+(eM+1)-1000) (eM+1)) (b1 (o+dm-1000) (dm-1000))):=by have b:=aq (gf (n+b1 (fB+dm-1000) (g+1+eM-1000)-1000) (x+b1 (cw+dm-1000) (h+1+eM-1000)-1000)) (gf _ (b1 (b1 (o+(eM+1)-1000) (eM+1)) (b1 (o+dm-1000) (dm-1000))));have d:=aq (fT (n+b1 (fB+dm-1000) (g+1+eM-1000)-1000) (x+b1 (cw+dm-1000) (h+1+eM-1000)-1000)) (gf _ (b1 (b1 (o+(eM+1)-1000) (eM+1)) (b1 (o+dm-1000) (dm-1000))));have c:=fT (b1 (n+b1 (fB+dm-1000) (g+1+eM-1000)-1000) (x+b1 (cw+dm-1000) (h+1+eM-1000)-1000)) (b1 (b1 (o+(eM+1)-1000) (eM+1)) (b1 (o+dm-1000) (dm-1000)));have a:=gs (aq (fT _ (dm-1000)) (aq (fT ..) c));exact CO (ls (mk (mk (An (gf ..) b a) (An (gf ..) d a)) (gs (aq (gf ..) (aq (fT ..) c))))) (SJ W (fT ..) (fT ..) b d (aq (gf ..) (aq (gf ..) c)) (aq (fT ..) (aq (gf ..) c)))
theorem alu(W:∀{s c},n+g+(1+s)<=c+1000->x+h+(1+s)<=c+1000->o+(1+s)<=c->1000+(1+s)<=c->K+(1+s)<=c){m e b w d a r:Nat}(i:n<=m)(j:x<=m)(f:o<=m):w+d+e*(m-1000+1)+b*(x-1000)+a+dq*(K+1-1000)+(r+e)*(dm-1000)<=w+a+e*(dm-1000)+dq*(b1 (h+1) (g+1)-1000)+d+(e+dq)*(m-1000+1)+b*(x-1000)+r*(dm-1000):=by rw[anM,anM];have k:K+1-1000<=b1 (h+1) (g+1)-1000+(m-1000+1):=ls (W (s:=0) (c0 (ar i (eB m 1000)) (fT (h+1) (g+1)) (eB (b1 (h+1) (g+1)) 1000)) (c0 (ar j (eB m 1000)) (gf (h+1) (g+1)) (eB (b1 (h+1) (g+1)) 1000)) (dp f (eB m 1000)) (by k_is));have k:=apF dq k;rw[aop dq]at k;exact cY k
end
theorem alv{p:hG}{m q:dF}:hH (n5 (kz p m) q) (fin (yZ p (yY q)) m):=by
 obtain⟨j,ce,h,w,l,o,i,A,F,H,E,u,D,k,y,f⟩:=p;obtain⟨n,x,t,r,G,a,b⟩:=m;obtain⟨I,C,L,v,z,d,e⟩:=q;have g:=λ{s c}=>@alq n x t l j o ce i h (b1 l (b1 o i)) (b1 j (b1 ce h)) (gf ..) (aq (gf ..) (fT ..)) (aq (fT ..) (fT ..)) (gf ..) (aq (gf ..) (fT ..)) (aq (fT ..) (fT ..)) s c;refine⟨alr,als g,alt g,ak (aoc r u v),alu g (gf ..) (aq (gf ..) (fT ..)) (aq (fT ..) (fT ..)),?_,?_⟩
 .show a+b+k+(b+f)*(d+1)+2*d+10<=a+b*(d+1+1)+(k+f*(d+1)+(2*d+10));rw[anM,aop b (d+1),Nat.mul_one];k_is
 .show (b+f)*(1+e)+2*e<=b*(1+e)+(f*(1+e)+2*e);rw[anM];k_is
def hP(t:T)(m:dF):Prop:=t.isNil=ag/\hH (mt t) m
noncomputable def Ao:dF:=⟨1000,0,0,0,0,0,0⟩
def FE(t:T)(m:dF):Prop:=hH (if t.isNil then Ao else mt t) m
def Lm(t:T)(q:e1):Prop:=qX (if t.isNil then FD else yY (mt t)) q
def y0(a:Nat)(q:Nat×T)(p:hG):Prop:=q.2.isNil=ag/\i' (hd (a+t1 q.1) (mt q.2)) p
def y1(h:Nat×T×Nat×T)(p:hG):Prop:=i' (hy h.1 (mt h.2.1) h.2.2.1 h.2.2.2.isNil (mt h.2.2.2)) p
def SK(q:T->T)(p:hG):Prop:=∃a,(∀b,mt (q b)=kz a (mt b)/\(q b).isNil=ag)/\i' a p
def SL(q:T->T)(p:hG):Prop:=∀b,(q b).isNil=ag/\hH (mt (q b)) (fin p (mt b))
theorem kS:lF hP ke:=λ_ _ _=>⟨λh=>⟨h.1,h.2.trans (SC ..)⟩,λh=>⟨h.1,h.2.trans (SD ..)⟩⟩
theorem alw:lF FE ke:=λ_ _ _=>⟨λh=>hH.trans h (SC ..),λh=>hH.trans h (SD ..)⟩
theorem alx:lF Lm CS:=λ_ _ _=>⟨λh=>qX.trans h (alf ..),λh=>qX.trans h (alg ..)⟩
theorem Ln:lF y1 pw:=λ_ _ _=>⟨λh=>i'.trans h (Li ..),λh=>i'.trans h (Lj ..)⟩
theorem aly:lF SK pw:=λ_ _ _=>⟨λ⟨c,a,b⟩=>⟨c,a,b.trans (Li ..)⟩,λ⟨c,a,b⟩=>⟨c,a,b.trans (Lj ..)⟩⟩
theorem alz:lF SL pw:=λ_ _ _=>⟨λh b=>⟨(h b).1,(h b).2.trans (CT (Li ..) (.refl _))⟩,λh b=>⟨(h b).1,(h b).2.trans (CT (Lj ..) (.refl _))⟩⟩
section
variable{α β Al S σ gg:Type}{relA:α->S->Prop}{relB:β->σ->Prop}
def e5.FF(k k':S->σ)(A:e5 S):e5 σ:=⟨pr k A.F,A.C.map λa=>(a.1,pr k a.2),λe=>(k' (A.T e).1,(A.T e).2)⟩
theorem d9.FF(e:d9 relA f A)(i:∀s,∃s',s'.l=s.l/\s'.a=s.a/\(g s).2=(f s').2/\∀x,relA (f s').1 x->relB (g s).1 (k x)/\relB (g s).1 (k' x)):d9 relB g (.FF k k' A):=by
 have m:d9 relB g (.map k A):=e.map λs=>by refine tc (i s) λs' a b c d=>?_;exact⟨s',a,b,c,λx h=>(d x h).1⟩
 have j:d9 relB g (.map k' A):=e.map λs=>by refine tc (i s) λs' a b c d=>?_;exact⟨s',a,b,c,λx h=>(d x h).2⟩
 exact⟨m.z,j.t⟩
theorem d9.to{f:dV->α×dV}{T:Nat->S×Nat}(h:d9 relA f A)(ky:∀i a,lh relA A.F i a->lh relA F i a)(b:∀q∈A.C,q∈C)(l5:∀e,A.T e=T e):d9 relA f ⟨F,C,T⟩:=
 h.wide ky (λq m e n=>⟨q,b q m,n,λ_ _ _ k=>k⟩) (λe a k=>⟨l5 e▸k,by rw[l5 e]⟩)
noncomputable def Lo(g:Nat->σ):Nat->σ
 |0=>g 0
 |n+1=>g (aon n)
theorem FG(g:Nat->σ)(e:Nat):Lo g e=g e:=by induction e using ant<;>rfl
def ins(j:S->S->S)(e:Nat)(c:List (Option S)):List (Nat×List (Option S))->List (Nat×List (Option S))
 |[]=>[(e,c)]
 |(d,b)::r=>cond (aG e d) ((d,qW j c b)::r) ((d,b)::ins j e c r)
def FH(j:S->S->S)(c:List (Option S)):List Nat->List (Nat×List (Option S))->List (Nat×List (Option S))
 |[],a=>a
 |e::es,a=>ins j e c (FH j c es a)
def Lp(j:S->S->S):List (List Nat×List (Option S))->List (Nat×List (Option S))
 |[]=>[]
 |q::r=>FH j q.2 q.1 (Lp j r)
def FI(j:S->S->S)(C:List (List Nat×List (Option S))):List (List Nat×List (Option S)):=(Lp j C).map λa=>([a.1],a.2)
def y2(relA:α->S->Prop)(e:Nat)(c:List (Option S))(L:List (Nat×List (Option S))):Prop:=∃b∈L,b.1=e/\∀N a,lh relA c N a->lh relA b.2 N a
theorem SM(u:lF relA j)(e:Nat)(c:List (Option S)):∀L,y2 relA e c (ins j e c L)
 |[]=>⟨_,anZ _,B,λ_ _ h=>h⟩
 |(d,b)::r=>by
  dsimp only[ins];cases h:aG e d with
  |true=>exact⟨_,a4 ..,(aog h).symm,λ_ _ k=>s6 u k⟩
  |false=>exact lI (SM u e c r) λa m x y=>⟨a,aY _ m,x,y⟩
theorem Lq(u:lF relA j)(e:Nat)(c:List (Option S)):∀{L},y2 relA c8 eZ L->y2 relA c8 eZ (ins j e c L)
 |(d,b)::r,⟨f,m,x,y⟩=>by
  dsimp only[ins];cases h:aG e d with
  |true=>
   rcases aI.mp m with rfl|m
   .exact ⟨_,a4 ..,x,λN a k=>n7 u (y N a k)⟩
   .exact ⟨f,aY _ m,x,y⟩
  |false=>
   rcases aI.mp m with rfl|m
   .exact ⟨_,a4 ..,x,y⟩
   .exact lI (Lq u e c (L:=r) ⟨f,m,x,y⟩) λf m x y=>⟨f,aY _ m,x,y⟩
theorem SN(u:lF relA j)(c:List (Option S)):∀{es L},y2 relA c8 eZ L->y2 relA c8 eZ (FH j c es L)
 |[],_,h=>h
 |e::es,_,h=>Lq u e c (SN u c (es:=es) h)
theorem SO(u:lF relA j)(c:List (Option S)):∀{es L},e∈es->y2 relA e c (FH j c es L)
 |d::es,L,m=>by
  rcases aI.mp m with rfl|m
  .exact SM u _ _ _
  .exact Lq u _ _ (SO u c (es:=es) m)
theorem SP(u:lF relA j):∀{C:List (List Nat×List (Option S))}{q},q∈C->e∈q.1->y2 relA e q.2 (Lp j C)
 |p::r,q,m,h=>by
  rcases aI.mp m with rfl|m
  .exact SO u _ h
  .exact SN u _ (SP u m h)
def Lr(j:S->S->S)(A:e5 S):e5 S:=⟨A.F,FI j A.C,Lo A.T⟩
theorem d9.FI(u:lF relA j)(h:d9 relA f A):d9 relA f (Lr j A):=
 h.wide (λ_ _ k=>k) (λi m e n=>by refine lI (SP u m n) λb d g c=>?_;exact⟨([b.1],b.2),bS d,by rw[g];exact anZ _,λN a _ k=>c N a k⟩) (λe a k=>⟨by rw[FG];exact k,by rw[FG]⟩)
noncomputable def Ap(e:Nat):List Nat->List Nat
 |[]=>[e]
 |d::r=>cond (aG e d) (d::r) (d::Ap e r)
theorem SQ(e:Nat):∀L,e∈Ap e L
 |[]=>anZ _
 |d::r=>by
  dsimp only[Ap];cases h:aG e d with
  |true=>have:=aog h;subst this;exact a4 ..
  |false=>exact aY _ (SQ e r)
theorem Ls:∀{L},x∈L->x∈Ap e L
 |d::r,m=>by
  dsimp only[Ap];cases h:aG e d with
  |true=>exact m
  |false=>
   rcases aI.mp m with rfl|m
   .exact a4 ..
   .exact aY _ (Ls m)
noncomputable def FJ:List Nat->List Nat->List Nat
 |[],a=>a
 |e::es,a=>Ap e (FJ es a)
theorem SR:∀{es L},x∈L->x∈FJ es L
 |[],_,m=>m
 |_::es,_,m=>Ls (SR (es:=es) m)
theorem SS:∀{es L},x∈es->x∈FJ es L
 |d::es,L,m=>by
  rcases aI.mp m with rfl|m
  .exact SQ _ _
  .exact Ls (SS (es:=es) m)
noncomputable def Lu:List (List Nat×List (Option S))->List Nat
 |[]=>[]
 |q::r=>FJ q.1 (Lu r)
def Lv(j:S->S->S):List (List Nat×List (Option S))->List (Option S)
 |[]=>[]
 |q::r=>qW j q.2 (Lv j r)
theorem SU(u:lF relA j):∀{C:List (List Nat×List (Option S))}{q},q∈C->e∈q.1->e∈Lu C/\∀N a,lh relA q.2 N a->lh relA (Lv j C) N a
 |p::r,q,m,h=>by
  rcases aI.mp m with rfl|m
  .exact ⟨SS h,λN a k=>s6 u k⟩
  .exact eP (SU u m h) λa b=>⟨SR a,λN x k=>n7 u (b N x k)⟩
def Lw(j:S->S->S)(A:e5 S):e5 S:=⟨A.F,[(Lu A.C,Lv j A.C)],Lo A.T⟩
theorem d9.cl(u:lF relA j)(h:d9 relA f A):d9 relA f (Lw j A):=
 h.wide (λ_ _ k=>k) (λd m e n=>by obtain⟨b,c⟩:=SU u m n;exact⟨_,anZ _,b,λN a _ k=>c N a k⟩) (λe a k=>⟨by rw[FG];exact k,by rw[FG]⟩)
end
noncomputable def FK(L H:Bool):List (Option dF):=[ae (cond H ⟨1005,0,1004,1,10,16,1⟩ ⟨1004,0,1004,0,0,14,1⟩),ae (cond L ⟨0,1003,1009,0,0,14,1⟩ ⟨0,1003,0,0,0,4,0⟩)]
def Lx(L:Bool):List (List Nat×List (Option dF)):=[([1],cst (cond L ⟨0,1003,1009,0,0,14,1⟩ ⟨0,1003,0,0,0,4,0⟩) 41)]
def CU(L H:Bool)(w e:Nat):dF×Nat:=
 cond (aG w 2) (⟨0,1003,0,0,0,4,0⟩,(e+1)%45) (cond (and (aG w 6) L) (cond (aG (val 2 e) 0) ⟨0,0,1009,0,0,14,1⟩ ⟨0,0,1008,0,0,14,1⟩,(e+1)%45)
  (cond (aG w 7) (⟨0,0,1004,0,0,14,1⟩,e) (cond (and (aG w 8) H) (⟨1005,0,0,1,10,16,1⟩,e) (⟨1004,0,0,0,0,4,0⟩,e))))
theorem wT(h:a≠b):aG a b=ag:=by
 cases e:aG a b with
 |false=>rfl
 |true=>exact absurd (aog e) h
theorem wU(h:(a0 p.n q.n&&a0 p.x q.x&&a0 p.o q.o&&a0 p.r q.r&&a0 p.w q.w&&a0 p.a q.a&&a0 p.b q.b)=af):hH p q:=by simp only[aP]at h;refine eP h λg i=>?_;refine eP g λg f=>?_;obtain⟨⟨⟨⟨a,b⟩,c⟩,d⟩,e⟩:=g;exact⟨ay a,ay b,ay c,ay d,ay e,ay f,ay i⟩
section
variable{α S:Type}{relA:α->S->Prop}{L H:Bool}
theorem FL(h:∀s,(f s).2.l=s.l/\(f s).2.a=s.a/\relA (f s).1 x)(ky:∃v,F[0]?=ae (ae v)/\∀a,relA a x->relA a v):d9 relA f ⟨F,C,λe=>(x,e)⟩:=
 (d9.ret h).to (λb a k=>by
  refine c_ k λv e r=>c_ ky λd cf c=>?_
  induction b using ant with
  |zero=>
   have:x=v:=by replace e:=aC.inj e;injection e
   subst this;exact⟨d,cf,c _ r⟩
  |succ b=>exact cV e) (λg m=>by cases m) (λ_=>B)
theorem SV{d:Nat->dV->T×dV}{C}{y:Nat->dF}(h:∀v,v<2->∀s,(d v s).2.l=s.l/\(d v s).2.a=s.a/\hP (d v s).1 (y v)/\hP (d v s).1 x)(ky:F[1]?=ae (ae x))(o:([1],cst x 41)∈C):d9 hP (lg 2 d) ⟨F,C,λe=>(y (val 2 e),(e+1)%45)⟩:=by
 have s1:d9 hP (lg 2 d) (.case 2 [ae x] [] λv e=>(y v,e)):=d9.case (.inr (.inl B)) λv l=>by refine⟨λs a _=>.inl ⟨0,(h v l s).2.1.trans a,by refine((h v l s).1)▸?_;rfl,x,B,(h v l s).2.2.2⟩,λs u a=>?_⟩;refine jQ (h v l s) λn j k _=>⟨n.trans u,by rw[j];exact a,?_,k⟩;show pos _=pos s;unfold pos;rw[j]
 refine⟨λs a l=>?_,s1.t⟩;rcases s1.z s a l with⟨c,i,f,v,b,g⟩|⟨i,f,q,b,g,A⟩
 .match c,b with
  |1,b=>
   have:x=v:=by replace b:=aC.inj b;injection b
   subst this;exact .inl ⟨1,i,f,x,ky,g⟩
  |c+2,b=>exact cV b
 .have:q=([1],cst (y (val 2 0)) 41):=by
   rcases aI.mp b with e|m
   .exact e
   .cases m
  subst this;refine .inr ⟨i,f,_,o,g,λN w p=>Lf ?_ (Nat.lt_succ_of_le p)⟩;unfold lg;exact(h _ (by
   obtain cv|cv:s.l=[]\/s.l≠[]:=by cases s.l<;>simp
   .rw [SA (.inr (.inl B)) cv (by lia)];exact Nat.mod_lt _ (by k_is)
   .obtain ⟨c,r,e⟩:∃c r,s.l=c::r:=by cases e:s.l with
     |nil=>exact absurd e cv
     |cons c r=>exact⟨c,r,B⟩
    exact(SB (by k_is) e).1) _).2.2.2
theorem SW(w:Nat):d9 hP (n6 L H w) ⟨FK L H,Lx L,CU L H w⟩:=by
 have h:∀x,hH x ⟨1004,0,1004,0,0,14,1⟩->∃b,(FK L H)[0]?=ae (ae b)/\∀a,hP a x->hP a b:=λx k=>⟨_,B,λa r=>⟨r.1,r.2.trans (by induction H using aS;exact k;exact k.trans (wU B))⟩⟩;delta n6 CU;by_cases i:w=1
 .subst i;exact FL (λs=>⟨B,B,B,.refl _⟩) (h _ (wU B))
 refine(if_neg i)▸?_;by_cases g:w=2
 .subst g;exact(if_pos B)▸(SV (y:=λ_=>⟨0,1003,0,0,0,4,0⟩) (λb _ s=>⟨B,B,⟨B,.refl _⟩,B,by induction L using aS<;>exact wU B⟩) B (anZ _))
 rw[if_neg g,show aG w 2=ag from wT g];by_cases d:w=6/\L=af
 .refine (if_pos d)▸?_;obtain⟨rfl,rfl⟩:=d;refine SV (y:=λb=>cond (aG b 0) ⟨0,0,1009,0,0,14,1⟩ ⟨0,0,1008,0,0,14,1⟩) (λb l s=>?_) B (anZ _)
  match b,l with
  |0,_=>exact⟨B,B,⟨B,.refl _⟩,B,wU B⟩
  |1,_=>exact⟨B,B,⟨B,.refl _⟩,B,wU B⟩
 have m:(aG w 6&&L)=ag:=by
  induction L using aS with
  |false=>exact aoZ _
  |true=>rw[aoY];exact wT λe=>d ⟨e,B⟩
 rw[if_neg d,m];by_cases f:w=7
 .subst f;exact(if_pos B)▸(FL (λs=>⟨B,B,B,.refl _⟩) (h _ (wU B)))
 rw[if_neg f,show aG w 7=ag from wT f];by_cases c:w=8/\H=af
 .refine (if_pos c)▸?_;obtain⟨rfl,rfl⟩:=c;exact FL (λs=>⟨B,B,B,.refl _⟩) ⟨_,B,λa r=>⟨r.1,r.2.trans (wU B)⟩⟩
 have j:(aG w 8&&H)=ag:=by
  induction H using aS with
  |false=>exact aoZ _
  |true=>rw[aoY];exact wT λe=>c ⟨e,B⟩
 rw[if_neg c,j];exact FL (λs=>⟨B,B,B,.refl _⟩) (h _ (wU B))
end
noncomputable def tt(c:Nat):Nat:=cond (aG c 3) 8 4
theorem alA(c:Nat)(h:c<4):t1 c<=tt c/\tt c<=8:=by
 match c,h with
 |0,_=>exact⟨ay B,ay B⟩
 |1,_=>exact⟨ay B,ay B⟩
 |2,_=>exact⟨ay B,ay B⟩
 |3,_=>exact⟨ay B,ay B⟩
def oC(b:Nat)(a:e5 dF):e5 hG:=.case 4 (pr (hd (b+8)) a.F) (a.C.map λd=>(d.1,pr (hd (b+8)) d.2)) λc e=>(hd (b+tt c) (a.T e).1,(a.T e).2)
theorem Ly(d:Nat)(h:d9 hP g I):d9 (y0 d) (i9 g) (oC d I):=
 d9.case (.inr (.inr (.inr (.inl B)))) λc l=>h.FF (k:=hd (d+8)) (k':=hd (d+tt c)) λs=>⟨s,B,B,B,λx r=>by refine eP (alA c l) λa b=>?_;exact⟨⟨r.1,Lk (by show d+t1 c<=d+8;exact dp a b (by k_is)) r.2⟩,r.1,Lk (by show d+t1 c<=d+tt c;(simp+arith at a⊢;exact a)) r.2⟩⟩
def FM(a:e5 dF):e5 hG:=.case 2 (qW pw (oC 0 a).F (e5.seq s5 pw (oC 0 a) (oC 9 a)).F) ((oC 0 a).C++(e5.seq s5 pw (oC 0 a) (oC 9 a)).C) λn e=>cond (aG n 0) ((oC 0 a).T e) ((e5.seq s5 pw (oC 0 a) (oC 9 a)).T e)
theorem alB(r:y0 0 q p):y1 (q.1,q.2,0,.nil) p:=by have a:i' (hd (0+t1 q.1) (mt q.2)) p:=r.2;rw[aoo]at a;show i' (hy q.1 (mt q.2) 0 af (mt .nil)) p;exact a
theorem alC:∀c,sj c<=9
 |0|1|2|_+3=>ay B
theorem alD(b:y0 0 p x)(a:y0 9 q y):y1 (p.1,p.2,q.1,q.2) (s5 x y):=by
 show i' (hy p.1 (mt p.2) q.1 q.2.isNil (mt q.2)) _;refine a.1▸?_;have ch:i' (hd (0+t1 p.1) (mt p.2)) x:=b.2;rw[aoo]at ch;have cf:i' (hd (c5 p.1 q.1) (mt q.2)) (hd (9+t1 q.1) (mt q.2)):=Lk (by
  have:=alC p.1;show sj p.1+4*(pM q.1).length<=9+4*(pM q.1).length
  (simp+arith at this⊢;exact this)) (.refl _)
 have eC:i' (hd (9+t1 q.1) (mt q.2)) y:=a.2;show i' (s5 (hd (t1 p.1) (mt p.2)) (hd (c5 p.1 q.1) (mt q.2))) (s5 x y);exact alj ch (cf.trans eC)
theorem alE(h:d9 hP g I):d9 y1 (wR g) (FM I):=by
 refine d9.case (.inr (.inl B)) λn l=>?_
 match n,l with
 |0,_=>
  have a:d9 y1 (qV (λb:Nat×T=>(b.1,b.2,0,T.nil)) (i9 g)) (.map id (oC 0 I)):=d9.map (relA:=y0 0) (relB:=y1) (k:=id) (g:=qV (λb:Nat×T=>(b.1,b.2,0,T.nil)) (i9 g)) (f:=i9 g) (Ly 0 h) λs=>⟨s,B,B,B,λx r=>alB r⟩;have i:∀c:List (Option hG),pr id c=c:=λc=>by
   induction c with
   |nil=>rfl
   |cons x r t=>induction x using a_<;>exact congrArg (bj _) t
  refine a.to (λj a k=>by rw[show(e5.map id (oC 0 I)).F=(oC 0 I).F from i _]at k;exact s6 Ln k) (λb m=>?_) (λe=>B);refine c_ (bC.mp m) λu q e=>?_;rw[i]at e;subst e;exact aU _ q
 |1,_=>have a:d9 y1 (jy (λd b=>(d.1,d.2,b.1,b.2)) (i9 g) (i9 g)) (e5.seq s5 pw (oC 0 I) (oC 9 I)):=d9.seq (relA:=y0 0) (relB:=y0 9) (h:=λd b=>(d.1,d.2,b.1,b.2)) Ln (λd x b y o p=>alD o p) (Ly 0 h) (Ly 9 h);exact a.to (λj a k=>n7 Ln k) (λb m=>aK _ m) (λe=>B)
def Ar{a:Type}(j:a->a->a)(m:Nat)(z:a)(k:dF->a)(b:e5 dF):e5 a:=.case m (qW j [ae z] (pr k b.F)) (b.C.map λc=>(c.1,pr k c.2)) λd e=>cond (aG d 0) (k (b.T e).1,(b.T e).2) (z,e)
set_option tactic.hygienic true in
theorem SX(n:m=1\/m=2\/m=3\/m=4\/m=10)(u:lF rel j)(o:rel .nil z)(i:∀t x,hP t x->rel t (k x))(h:d9 hP f I):d9 rel (jN m f) (Ar j m z k I):=by
 refine d9.case n λb l=>?_
 induction b using ant with
 |zero=>exact(h.map (relB:=rel) (k:=k) (g:=f) λs=>⟨s,B,B,B,λx r=>i _ _ r⟩).to (λd a k=>n7 u k) (λc m=>m) λe=>B
 |succ b=>refine(d9.ret (relA:=rel) (f:=λs=>(T.nil,s)) (x:=z) λs=>⟨B,B,o⟩).to (λd a k=>s6 u k) (λc m=>by cases m) λe=>B
def FN(a b:e5 dF):e5 dF:=e5.seq fin ke (e5.seq yZ pw (e5.seq m' pw (FM b) (Ar ke 3 Ao id a)) (Ar CS 2 FD yY a)) a
theorem alF(c1:Nat)(a:dF)(c2:Nat)(nl:Bool)(b:dF):i' (hy c1 a c2 nl b) (m' (hy c1 a c2 nl b) Ao):=by
 unfold hy
 induction nl using aS<;>constructor<;>first|exact av _|exact bH _
theorem alG(h:d9 hP f I)(hh:d9 hP g CV):d9 hP (vn f g) (FN I CV):=by
 have j:d9 SK (jy vl (wR g) (jN 3 f)) (e5.seq m' pw (FM CV) (Ar ke 3 Ao id I)):=d9.seq aly (λd x c y i a=>by
  refine⟨jM d.1 d.2.1 d.2.2.1 d.2.2.2 c,λb=>⟨B,B⟩,?_⟩;unfold jM;cases n:c.isNil with
  |true=>
   have e:hH Ao y:=by have:=a;unfold FE at this;rw[n]at this;exact this
   exact i'.trans (alF ..) (SH i e)
  |false=>
   have e:hH (mt c) y:=by have:=a;unfold FE at this;rw[n]at this;exact this
   exact SH i e) (alE hh) (SX (.inr (.inr (.inl B))) alw (.refl _) (λc x r=>by unfold FE;exact r.1▸r.2) h)
 have k:d9 SL (jy vm (jy vl (wR g) (jN 3 f)) (jN 2 f)) (e5.seq yZ pw (e5.seq m' pw (FM CV) (Ar ke 3 Ao id I)) (Ar CS 2 FD yY I)):=d9.seq alz (λd x c y i a b=>by
  refine c_ i λl e le=>eP (e b) λch cf=>?_;unfold vm;unfold Lm at a;cases n:c.isNil with
  |true=>rw[n]at a;simp only[if_true];exact⟨cf,by rw[ch];exact hH.trans alp (CT (SI le a) (.refl _))⟩
  |false=>rw[n]at a;simp only[aoG,if_false];refine⟨B,?_⟩;show hH (n5 (mt (d b)) (mt c)) _;rw[ch];exact hH.trans alv (CT (SI le a) (.refl _))) j (SX (.inr (.inl B)) alx (.refl _) (λc x r=>by unfold Lm;exact r.1▸(alk r.2)) h)
 exact d9.seq kS (λd x b y i a=>⟨(i b).1,hH.trans (i b).2 (CT (.refl _) a.2)⟩) k h
def FO(a:e5 dF):e5 dF:=.case 2 (pr (rY 2) a.F) (a.C.map λb=>(b.1,pr (rY 2) b.2)) λc e=>(rY (aon c) (a.T e).1,(a.T e).2)
theorem alH(h:d9 hP f I):d9 hP (CQ f) (FO I):=
 d9.case (.inr (.inl B)) λa l=>h.FF (k:=rY 2) (k':=rY (aon a)) λs=>⟨kR s,B,B,B,λx r=>by
  have e:FA (10*(s.b+1)+1+a)=a+1:=by show((10*(s.b+1)+1+(a:Int)).fmod 10).toNat=a+1;rw[Int.fmod_eq_emod_of_nonneg _ (by decide),Int.add_assoc,Int.add_comm,Int.add_mul_emod_self_left];exact(show ∀a:Nat,a<2->((1+(a:Int))%10).toNat=a+1 by decide) a l
  refine⟨⟨B,?_⟩,B,?_⟩
  .show hH (rY (FA (10*(s.b+1)+1+a)) _) _;rw[e];exact SG l r.2
  .show hH (rY (FA (10*(s.b+1)+1+a)) _) _;rw[e];exact SG (av _) r.2⟩
set_option tactic.hygienic true in
def Lz(o:e5 dF):e5 dF:=.case 1 o.F o.C λ_=>o.T
def FP(o:e5 dF):e5 dF:=.case 2 (qW ke o.F (e5.seq (cat 0) ke o o).F) (o.C++(e5.seq (cat 0) ke o o).C) λc e=>cond (aG c 0) (o.T e) ((e5.seq (cat 0) ke o o).T e)
theorem SY(h:d9 hP f o):d9 hP (qV .seq1 f) o:=
 ⟨λs a l=>(h.z s a l).imp (λ⟨p,a,b,g,c,d⟩=>⟨p,a,b,g,c,B,d.2⟩) λ⟨a,b,j,c,d,e⟩=>⟨a,b,j,c,d,λN k m=>by refine c_ (e N k m) λg x y=>?_;exact⟨g,x,B,y.2⟩⟩,λs l a=>by refine jQ (h.t s l a) λx y i n=>?_;exact⟨x,y,i,B,n.2⟩⟩
theorem LA(z:Bool)(h:d9 hP f o):d9 hP (i8 z f) (cond z (FP o) (Lz o)):=by
 induction z using aS with
 |false=>
  show d9 hP (lg 1 λc=>if c=0 then qV .seq1 f else jy .gn f f) (Lz o);refine d9.case (.inl B) λd l=>?_;have:d=0:=by simp at l;exact l
  subst this;exact SY h
 |true=>
  show d9 hP (lg 2 λc=>if c=0 then qV .seq1 f else jy .gn f f) (FP o);refine d9.case (.inr (.inl B)) λd l=>?_
  match d,l with
  |0,_=>exact(SY h).to (λj a k=>s6 kS k) (λg m=>aU _ m) λe=>B
  |1,_=>exact(d9.seq (h:=T.gn) kS (λa x b y n i=>⟨B,SF n.2 i.2⟩) h h).to (λj a k=>n7 kS k) (λg m=>aK _ m) λe=>B
def SZ(L H:Bool):e5 dF:=.case 10 (FK L H) (Lx L) (CU L H)
def FQ(L H:Bool)(o s lC sl:e5 dF):e5 dF:=.case 10 (qW ke (FK L H) (qW ke (e5.seq (cat 2) ke o o).F (qW ke (e5.seq n5 ke s s).F (qW ke (FO sl).F (FN s lC).F))))
 (Lx L++((e5.seq (cat 2) ke o o).C++((e5.seq n5 ke s s).C++((FO sl).C++(FN s lC).C)))) λa e=>cond (aG a 0) ((e5.seq n5 ke s s).T e) (cond (aG a 4) ((FN s lC).T e) (cond (aG a 5) ((FO sl).T e) (cond (aG a 9) ((e5.seq (cat 2) ke o o).T e) (CU L H a e))))
theorem alI(L H:Bool):d9 hP (fN 0 L H) (SZ L H):=d9.case (.inr (.inr (.inr (.inr B)))) λa _=>SW a
theorem LB{k:Nat}{L H:Bool}{o s lC sl:e5 dF}(r:d9 hP (fN k L H) o)(hs:d9 hP (i8 (k !=0) (fN k L H)) s)(hh:d9 hP (i8 (k !=0) (fN k L af)) lC)(cv:d9 hP (i8 (k !=0) (fN k af H)) sl):d9 hP (fN (k+1) L H) (FQ L H o s lC sl):=by
 refine d9.case (.inr (.inr (.inr (.inr B)))) λc _=>?_;by_cases q:c=0
 .subst q;exact(d9.seq (h:=λb l=>T.dZ (.bare b) l) kS (λa x b y n p=>⟨B,ali n.2 p.2⟩) hs hs).to (λd a k=>n7 kS (n7 kS (s6 kS k))) (λf m=>aK _ (aK _ (aU _ m))) λe=>B
 by_cases i:c=4
 .subst i;exact(alG hs hh).to (λd a k=>n7 kS (n7 kS (n7 kS (n7 kS k)))) (λf m=>aK _ (aK _ (aK _ (aK _ m)))) λe=>B
 by_cases g:c=5
 .subst g;exact(alH cv).to (λd a k=>n7 kS (n7 kS (n7 kS (s6 kS k)))) (λf m=>aK _ (aK _ (aK _ (aU _ m)))) λe=>B
 by_cases j:c=9
 .subst j;exact(d9.seq (h:=T.arr) kS (λa x b y n p=>⟨B,SF n.2 p.2⟩) r r).to (λd a k=>n7 kS (s6 kS k)) (λf m=>aK _ (aU _ m)) λe=>B
 have e:(if c=0 then jy (λb l=>.dZ (.bare b) l) (i8 (k !=0) (fN k L H)) (i8 (k !=0) (fN k L H))else if c=4 then vn (i8 (k !=0) (fN k L H)) (i8 (k !=0) (fN k L af))else if c=5 then CQ (i8 (k !=0) (fN k af H))else if c=9 then jy .arr (fN k L H) (fN k L H)else n6 L H c)=n6 L H c:=by rw[if_neg q,if_neg i,if_neg g,if_neg j]
 show d9 hP (if c=0 then _ else _) _;rw[e];refine(SW c).to (λd a k=>s6 kS k) (λf m=>aU _ m) λe=>?_;show CU L H c e=cond (aG c 0) _ (cond (aG c 4) _ (cond (aG c 5) _ (cond (aG c 9) ..)));rw[show aG c 0=ag from wT q,show aG c 4=ag from wT i,show aG c 5=ag from wT g,show aG c 9=ag from wT j]
 rfl
noncomputable def o0(L H:Bool):e5 dF:=SZ L H
noncomputable def s0(L H:Bool):e5 dF:=Lz (o0 L H)
noncomputable def eO(L H:Bool):e5 dF:=Lw ke (FQ L H (o0 L H) (s0 L H) (s0 L af) (s0 af H))
noncomputable def s1(L H:Bool):e5 dF:=Lw ke (FP (eO L H))
noncomputable def f_(L H:Bool):e5 dF:=Lr ke (FQ L H (eO L H) (s1 L H) (s1 L af) (s1 af H))
noncomputable def s2(L H:Bool):e5 dF:=Lr ke (FP (f_ L H))
noncomputable def lj:e5 dF:=FQ ag ag (f_ ag ag) (s2 ag ag) (s2 ag af) (s2 af ag)
noncomputable def FR:dF->Bool
 |⟨n,x,c,_,b,a,_⟩=>and (a0 (ax (b1 n (b1 x c)) b) 3990) (a0 a 800000)
noncomputable def y6:Option dF->Bool
 |none=>af
 |some m=>FR m
noncomputable def FS:List (Option dF)->Bool
 |[]=>af
 |x::r=>and (y6 x) (FS r)
noncomputable def As:Nat->List (Option dF)->Option dF
 |_,[]=>ah
 |0,x::_=>x
 |n+1,_::r=>As n r
noncomputable def s7:List (List Nat×List (Option dF))->Bool
 |[]=>af
 |q::r=>and (y6 (As 40 q.2)) (s7 r)
noncomputable def CW(A:e5 dF):Bool:=and (FS A.F) (s7 A.C)
theorem alJ:CW (eO ag ag)=af:=by decide+kernel
theorem alK:CW (f_ ag ag)=af:=by decide+kernel
theorem CX:∀{n:Nat}{l:List (List Nat×List (Option dF))},s7 (l.take n)=af->s7 (l.drop n)=af->s7 l=af
 |0,_=>λ_ h=>h
 |_+1,[]=>λ_ h=>h
 |_+1,q::_=>λh k=>(aP (y6 (As 40 q.2)) _).mpr (((aP _ _).mp h).imp id λh=>CX h k)
theorem alL:FS lj.F=af:=by decide+kernel
theorem alM:s7 (lj.C.take 60)=af:=by decide+kernel
theorem alN:s7 ((lj.C.drop 60).take 50)=af:=by decide+kernel
theorem alO:s7 (((lj.C.drop 60).drop 50).take 48)=af:=by decide+kernel
theorem alP:s7 ((((lj.C.drop 60).drop 50).drop 48).take 48)=af:=by decide+kernel
theorem alQ:s7 ((((lj.C.drop 60).drop 50).drop 48).drop 48)=af:=by decide+kernel
theorem alR:CW lj=af:=(aP _ _).mpr ⟨alL,CX alM (CX alN (CX alO (CX alP alQ)))⟩
set_option tactic.hygienic true
section
def jp(p:α->Prop)(f:dV->α×dV):Prop:=∀s,p (f s).1
theorem jp.case(h:∀v,jp p (la v)):jp p (lg m la):=λs=>h _ _
theorem jp.seq(c:jp p f)(d:jp q g)(k:∀a b,p a->q b->r (h a b)):jp r (jy h f g):=λs=>k _ _ (c _) (d _)
theorem jp.map(b:jp p f)(k:∀a,p a->q (h a)):jp q (qV h f):=λs=>k _ (b _)
def h8(n:Nat)(f:dV->α×dV):Prop:=∀s,(f s).2.a<=s.a+n/\(f s).2.b<=s.b+n
theorem vo(m:Nat)(s:dV):(tk m s).2.a<=s.a+1/\(tk m s).2.b=s.b:=by
 obtain⟨l,a,b⟩:=s
 induction l using aE with
 |nil=>exact⟨aO _,B⟩
 |cons c r=>exact⟨by show a<=a+1;exact oI _,B⟩
theorem h8.up(h:h8 n f)(l:n<=m):h8 m f:=λs=>by have:=h s;exact⟨h9 this.1 (g0 l),h9 this.2 (g0 l)⟩
theorem h8.case(h:∀v,h8 n (la v)):h8 (n+1) (lg m la):=λs=>by have a:=vo m s;have b:=h (tk m s).1 (tk m s).2;show(la (tk m s).1 (tk m s).2).2.a<=_/\(la (tk m s).1 (tk m s).2).2.b<=_;exact⟨h9 a.1 b.1,h9 (bt a.2) b.2⟩
theorem h8.seq(c:h8 n f)(d:h8 m g):h8 (n+m) (jy h f g):=λs=>by have a:=c s;have b:=d (f s).2;show(g (f s).2).2.a<=_/\(g (f s).2).2.b<=_;exact⟨h9 a.1 b.1,h9 a.2 b.2⟩
theorem h8.map(a:h8 n f):h8 n (qV h f):=a
end
structure jO(L H:Bool)(x d r:Nat)(t:T):Prop where
 ok:iq L H t
 pz:dR t<=x
 qo:dv t<=d
 gx:cH t<=r
theorem jO.leaf(o:iq L H t)(b:dR t=0)(d:dv t=0)(r:cH t=4):jO L H 0 0 4 t:=⟨o,by exact ak b,by exact ak d,by exact ak r⟩
theorem jO.up(h:jO L H x d r t)(h1:x<=hB)(h2:d<=ea)(a:r<=dq):jO L H hB ea dq t:=⟨h.ok,aq h.pz h1,aq h.qo h2,aq h.gx a⟩
theorem S0(L H:Bool)(w:Nat):jp (jO L H 0 0 4) (n6 L H w):=by
 unfold n6;split
 .exact λs=>.leaf trivial B B B
 split
 .exact .case λa s=>.leaf trivial B B B
 split
 .rename_i h;refine .case λa s=>?_;show jO L H 0 0 4 (if a=0 then _ else _);split<;>exact .leaf h.2 B B B
 split
 .exact λs=>.leaf trivial B B B
 split
 .rename_i h;exact λs=>.leaf h.2 B B B
 .exact λs=>.leaf trivial B B B
theorem alS(h:jp (jO L H x d r) f):jp (jO L H x (d+3) (r+1)) (i8 z f):=by
 refine .case λi=>?_;show jp _ (if i=0 then _ else _);split
 .exact h.map λa e=>⟨e.ok,e.pz,by have:=e.qo;simp only[afn];exact cY this,by have:=e.gx;simp only[oD];exact cY this⟩
 .exact h.seq h λa b c g=>⟨⟨c.ok,g.ok⟩,by have:=c.pz;have:=g.pz;simp only[afm];lia,by have:=c.qo;have:=g.qo;simp only[afo];lia,by have:=c.gx;have:=g.gx;simp only[qU];lia⟩
theorem alU(F:x<=3)(E:4<=r)(D:jp (jO L H x d r) f)(R:jp (jO L af x d r) g):jp (jO L H (2*x+1) (2*d+22) (r+4)) (vn f g):=by
 have w:jp (λi:Nat×T=>jO L af x d r i.2) (i9 g):=.case λc=>R.map λa i=>i;have hs:jp (λh:Nat×T×Nat×T=>jO L af x d r h.2.1/\(h.2.2.2=.nil\/jO L af x d r h.2.2.2)) (wR g):=by
  refine .case λn=>?_;show jp _ (if n=0 then _ else _);split
  .exact w.map λa i=>⟨i,.inl B⟩
  .exact w.seq w λa b q p=>⟨q,.inr p⟩
 have op:∀m,jp (λo=>o=.nil\/jO L H x d r o) (jN m f):=λm=>.case λQ=>by
  show jp _ (if Q=0 then _ else _);split
  .exact λs=>.inr (D s)
  .exact λs=>.inl B
 have v:∀{L o},(o=.nil\/jO L af x d r o)\/(o=.nil\/jO L H x d r o)->dR o<=x/\dv o<=d/\cH o<=r:=λ{L o} h=>by
  rcases h with(rfl|i)|(rfl|i)
  .exact ⟨bH _,bH _,E⟩
  .exact ⟨i.pz,i.qo,i.gx⟩
  .exact ⟨bH _,bH _,E⟩
  .exact ⟨i.pz,i.qo,i.gx⟩
 have mk:jp (λi:T->T=>∀b,jO L H x d r b->jO L H x (d+6) (r+2) (i b)/\(i b).q_=af) (jy vl (wR g) (jN 3 f)):=hs.seq (op 3) λh o q p b u=>by
  have y:=v (L:=L) (.inl q.2);have A:=v (L:=L) (.inr p);have C:=v (L:=L) (.inl (.inr q.1));have z:=v (L:=L) (.inr (.inr u));refine⟨⟨⟨u.ok,?_,⟨q.1.ok,aq q.1.pz F⟩,?_⟩,?_,?_,?_⟩,B⟩
  .rcases p with rfl|p
   .exact .inl B
   .exact .inr p.ok
  .rcases q.2 with e|G
   .exact .inl (by show h.2.2.2.isNil=af;rw[e];rfl)
   .exact .inr ⟨G.ok,aq G.pz F⟩
  .show max (max (dR h.2.1) (dR h.2.2.2)) (max (dR o) (dR b))<=x;exact(n9 (max (dR h.snd.fst) (dR h.snd.snd.snd)) (max (dR o) (dR b))).elim (λk=>(n9 (dR h.snd.fst) (dR h.snd.snd.snd)).elim (λj=>c0 C.1 (ak k.1) (ak j.1)) λj=>c0 y.1 (ak k.1) (ak j.1)) λk=>(n9 (dR o) (dR b)).elim (λj=>c0 A.1 (ak k.1) (ak j.1)) λj=>c0 z.1 (ak k.1) (ak j.1)
  .show 6+max (max (dv h.2.1) (dv h.2.2.2)) (max (dv o) (dv b))<=d+6;exact(n9 (max (dv h.snd.fst) (dv h.snd.snd.snd)) (max (dv o) (dv b))).elim (λk=>(n9 (dv h.snd.fst) (dv h.snd.snd.snd)).elim (λj=>c0 C.2.1 (ak k.1) (ak j.1)) λj=>c0 y.2.1 (ak k.1) (ak j.1)) λk=>(n9 (dv o) (dv b)).elim (λj=>c0 A.2.1 (ak k.1) (ak j.1)) λj=>c0 z.2.1 (ak k.1) (ak j.1)
  .show 2+max (max (cH h.2.1) (cH h.2.2.2)) (max (cH o) (cH b))<=r+2;exact(n9 (max (cH h.snd.fst) (cH h.snd.snd.snd)) (max (cH o) (cH b))).elim (λk=>(n9 (cH h.snd.fst) (cH h.snd.snd.snd)).elim (λj=>c0 C.2.2 (ak k.1) (ak j.1)) λj=>c0 y.2.2 (ak k.1) (ak j.1)) λk=>(n9 (cH o) (cH b)).elim (λj=>c0 A.2.2 (ak k.1) (ak j.1)) λj=>c0 z.2.2 (ak k.1) (ak j.1)
 have e6:jp (λi:T->T=>∀b,jO L H x d r b->jO L H (2*x+1) (2*d+22) (r+4) (i b)) (jy vm (jy vl (wR g) (jN 3 f)) (jN 2 f)):=mk.seq (op 2) λi l q p b u=>by
  refine eP (q b u) λt V=>?_;unfold vm;split
  .exact t.up (by k_is) (by k_is) (by k_is)
  .rename_i n;rcases p with rfl|p
   .exact absurd B n
   .have N:=t.pz;have S:=p.pz;have I:=t.qo;have M:=p.qo;have ch:=t.gx;have cf:=p.gx;exact⟨⟨t.ok,p.ok,V⟩,by show dR (i b)+dR l+1<=_;exact dp N S,by show 4+dv (i b)+dv l+12<=_;exact dp I M,by show 2+max (cH (i b)) (cH l)<=_;exact(n9 (cH (i b)) (cH l)).elim (λk=>dp ch (ak k.1)) λk=>dp cf (ak k.1)⟩
 exact e6.seq D λi b q p=>q b p
theorem LC(h:∀L H,jp (jO L H x d r) (fN k L H))(q:x<=3)(t:4<=r)(L H:Bool):jp (jO L H (2*x+1) (2*d+28) (r+5)) (fN (k+1) L H):=by
 have s:∀L H,jp (jO L H x (d+3) (r+1)) (i8 (k !=0) (fN k L H)):=λL H=>alS (h L H);refine .case λp=>?_;show jp _ (if p=0 then _ else _);split
 .refine (s L H).seq (s L H) λb l e f=>?_;have i:=e.pz;have o:=f.pz;have j:=e.qo;have n:=f.qo;have ch:=e.gx;have cf:=f.gx;exact⟨⟨e.ok,f.ok,B⟩,by show dR b+dR l+1<=_;exact dp i o,by show 4+(4+dv b)+dv l+12<=_;exact dp j n,by show 2+max (2+cH b) (cH l)<=_;exact(n9 (2+cH b) (cH l)).elim (λc=>dp ch (ak c.1)) λc=>dp cf (ak c.1)⟩
 split
 .exact λg=>(alU q (anJ t) (s L H) (s L af) g).up (av _) (av _) (av _)
 split
 .refine .case λu g=>?_;have m:=s af H (kR g);have i:=m.pz;have j:=m.qo;have ch:=m.gx;exact⟨⟨aq i q,m.ok⟩,by show dR (i8 (k !=0) (fN k af H) (kR g)).1<=_;exact aq i (by k_is),by show 4+dv (i8 (k !=0) (fN k af H) (kR g)).1<=_;exact cY j,by show 3+cH (i8 (k !=0) (fN k af H) (kR g)).1<=_;exact cY ch⟩
 split
 .refine (h L H).seq (h L H) λa b e f=>?_;have i:=e.pz;have o:=f.pz;have j:=e.qo;have n:=f.qo;have ch:=e.gx;have cf:=f.gx;exact⟨⟨e.ok,f.ok⟩,by show max (dR a) (1+dR b)<=_;exact(n9 (dR a) (1+dR b)).elim (λc=>dp i (ak c.1)) λc=>dp o (ak c.1),by show 4+max (dv a) (dv b)<=_;exact(n9 (dv a) (dv b)).elim (λc=>dp j (ak c.1)) λc=>dp n (ak c.1),by show 1+max (cH a) (cH b)<=_;exact(n9 (cH a) (cH b)).elim (λc=>dp ch (ak c.1)) λc=>dp cf (ak c.1)⟩
 .exact λg=>(S0 L H p g).up (bH _) (bH _) (by k_is)
theorem S1(L H:Bool):jp (jO L H 0 0 4) (fN 0 L H):=.case λa=>S0 L H a
theorem alV(h:k<=3):jp (jO ag ag 7 196 19) (fN k ag ag):=by
 have s1:=λL a=>LC S1 (by k_is) (av _) L a;have s2:=λL a=>LC s1 (by decide) (by k_is) L a
 match k,h with
 |0,_=>exact λs=>(S1 ag ag s).up (by k_is) (by k_is) (by k_is)
 |1,_=>exact λs=>(s1 ag ag s).up (by decide) (by decide) (by k_is)
 |2,_=>exact λs=>(s2 ag ag s).up (by decide) (by decide) (by k_is)
 |3,_=>exact λs=>((LC s2 (av _) (by k_is) ag ag) s).up (av _) (av _) (by k_is)
theorem S2(L H:Bool)(w:Nat):h8 2 (n6 L H w):=by
 have e:∀(c:dV->T),h8 2 (λs=>(c s,s)):=λc s=>⟨by show s.a<=s.a+2;exact C8 ..,by show s.b<=s.b+2;exact C8 ..⟩;have y:∀(c:dV->T),h8 1 (λs=>(c s,kR s)):=λc s=>⟨by show s.a<=s.a+1;exact oI _,by show s.b+1<=s.b+1;exact aO _⟩;unfold n6;split
 .exact e _
 split
 .exact .case λd s=>⟨by show s.a<=s.a+1;exact oI _,by show s.b<=s.b+1;exact oI _⟩
 split
 .exact .case λd=>y _
 split
 .exact (y _).up (by k_is)
 split
 .exact (y _).up (by k_is)
 .exact (y _).up (by k_is)
theorem S3(h:h8 n f):h8 (2*n+1) (i8 z f):=by
 refine .case λa=>?_;show h8 _ (if a=0 then _ else _);split
 .exact h.map.up (by k_is)
 .exact (h.seq h).up (by k_is)
theorem LD(h:h8 n f):h8 (n+1) (jN m f):=by
 refine .case λc=>?_;show h8 _ (if c=0 then _ else _);split
 .exact h
 .exact λs=>⟨by show s.a<=s.a+n;exact C8 ..,by show s.b<=s.b+n;exact C8 ..⟩
theorem FU(h:h8 n g):h8 (n+1) (i9 g):=.case λc=>h.map
theorem alW(h:h8 n g):h8 (2*n+3) (wR g):=by
 refine .case (n:=2*n+2) λa=>?_;show h8 _ (if a=0 then _ else _);split
 .exact (FU h).map.up (by k_is)
 .exact ((FU h).seq (FU h)).up (by k_is)
theorem alX(a:h8 n f)(b:h8 n g):h8 (5*n+5) (vn f g):=
 ((((alW b).seq (LD a)).seq (LD a)).seq a).up (by k_is)
noncomputable def gN:Nat->Nat
 |0=>3
 |k+1=>10*gN k+20
theorem CY:∀k L H,h8 (gN k) (fN k L H)
 |0=>λL H=>.case λc=>S2 L H c
 |k+1=>λL H=>by
  have h:=λL H=>CY k L H;have s:∀L H,h8 (2*gN k+1) (i8 (k !=0) (fN k L H)):=λL H=>S3 (h L H);refine .case (n:=10*gN k+19) λc=>?_;show h8 _ (if c=0 then _ else _);split
  .exact ((s L H).seq (s L H)).up (by k_is)
  split
  .exact (alX (s L H) (s L af)).up (by k_is)
  split
  .refine (h8.case (n:=2*gN k+2) λe d=>?_).up (by k_is);have:=s af H (kR d);exact⟨bg this.1 (by show d.a+_<=_;k_is),bg this.2 (by show d.b+1+_<=_;k_is)⟩
  split
  .exact ((h L H).seq (h L H)).up (by k_is)
  .exact (S2 L H c).up (by k_is)
set_option tactic.hygienic false
noncomputable def Out.Au(L H:Bool):Out->Prop
 |.eW=>H=af
 |.brk _=>L=af
 |.dQ _=>L=af
 |_=>True
theorem Out.S4:∀{o:Out},o.Au L H->o.nF=ag->o.Au L ag
 |.val _=>λ_ _=>trivial
 |.fo _=>λ_ _=>trivial
 |.brk _=>λh _=>h
 |.dQ _=>λh _=>h
 |.ret _=>λ_ _=>trivial
 |.eW=>λ_ h=>by exact kD h
theorem Out.S5:∀{o:Out},o.Au L ag->o.Au L H
 |.val _=>λ_=>trivial
 |.fo _=>λ_=>trivial
 |.brk _=>λh=>h
 |.dQ _=>λh=>h
 |.ret _=>λ_=>trivial
 |.eW=>λh=>by exact d8 h
set_option tactic.hygienic true in
theorem alY(h:e3 t E o b5 c):∀{L H:Bool},iq L H t->o.Au L H:=by
 induction h with
 |mark=>exact λ_=>trivial
 |seen=>exact λ_=>trivial
 |h4=>exact λ_=>trivial
 |seq1 _ b=>exact λa=>b a
 |tg _ _ _ b=>exact λa=>b a.2
 |sk _ _ b=>exact λa=>b a.1
 |uv _ _ _ _=>exact λ_=>trivial
 |uw _ _ _ _ b=>exact λa=>b a.2
 |ux _ _ b=>exact λa=>b a.1
 |xA _=>exact λ_=>trivial
 |xB _ _ _=>exact λ_=>trivial
 |xC _ _ d b=>
  intro L H a;have:=b a.2;rename_i o _ _ _ _
  induction o using Out.casesOn<;>first|exact this|trivial|(rcases d with d|d|⟨_,d⟩<;>cases d)
 |xD _ _ _ _ _ b=>exact λa=>b a
 |brk=>exact λa=>a
 |dQ=>exact λa=>a
 |ret=>exact λ_=>trivial
 |xE _=>exact λa=>a
 |xF _=>exact λ_=>trivial
 |bare _ b=>exact λa=>b a
 |xG _ _ _=>exact λ_=>trivial
 |xH _ n _ _ b=>exact λa=>b (a.2.1.resolve_left (by rw[n];decide))
 |sb _ _ b=>exact λa=>b a.1
 |xI _ _ _=>exact λ_=>trivial
 |xJ _ g _ e _ b=>
  intro L H a;refine gu (KZ g) λi m=>?_;rcases K0 m with rfl|⟨rfl,f⟩
  .exact Out.S5 (Out.S4 (b a.2.2.1.1) e)
  .exact Out.S5 (Out.S4 (b (a.2.2.2.resolve_left (by rw[f];decide)).1) e)
 |sf _ _ _ _ _ _ b=>exact λa=>b a
 |ev _ _ b _=>exact λa=>b a.1
 |mX _ _ _ _ b=>exact λa=>b a.2.1
theorem S6(l:hH p m)(h:FR m=af):p.al+p.w<=3990/\p.a<=800000:=by dsimp only[FR]at h;simp only[aP]at h;have ch:=ay h.1;have eC:p.al<=b1 m.n (b1 m.x m.o):=pv l.1 (pv l.2.1 l.2.2.1);have hY:=l.2.2.2.2.1;have b:=l.2.2.2.2.2.1;have c:b1 m.n (b1 m.x m.o)+m.w<=3990:=ch;exact⟨by exact c0 ch eC hY,by exact aq b (ay h.2)⟩
theorem S7:∀{c:List (Option dF)}{i:Nat}{m:dF},FS c=af->c[i]?=ae (ae m)->FR m=af
 |[],_,_,_,e=>by exact cV e
 |x::r,0,m,h,e=>by have:x=ae m:=aC.inj e;subst this;replace h:=(aP (y6 _) _).mp h;exact h.1
 |x::r,i+1,m,h,e=>by replace h:=(aP (y6 _) _).mp h;exact S7 (c:=r) (i:=i) h.2 e
theorem S8:∀{c:List (Option dF)}{i:Nat}{m:dF},c[i]?=ae (ae m)->As i c=ae m
 |[],_,_,e=>by exact cV e
 |x::r,0,m,e=>aC.inj e
 |x::r,i+1,m,e=>S8 (c:=r) (i:=i) e
theorem S9:∀{C:List (List Nat×List (Option dF))}{q},s7 C=af->q∈C->y6 (As 40 q.2)=af
 |p::r,q,h,m=>by
  replace h:=(aP (y6 (As 40 p.2)) _).mp h;rcases aI.mp m with rfl|m
  .exact h.1
  .exact S9 h.2 m
theorem d9.bound(h:d9 hP f A)(k:CW A=af)(s:dV)(a:s.a=0)(l:s.l.length<=40):(mt (f s).1).al+(mt (f s).1).w<=3990/\(mt (f s).1).a<=800000:=by
 dsimp only[CW]at k;simp only[aP]at k;rcases h.z s a l with⟨j,_,_,g,b,c⟩|⟨_,_,i,b,_,d⟩
 .exact S6 c.2 (S7 k.1 b)
 .refine c_ (d 40 l (av _)) λg e r=>?_;have:=S9 k.2 b;rw[S8 e]at this;exact S6 r.2 this
theorem S'(L H:Bool):d9 hP (fN 0 L H) (o0 L H):=alI L H
theorem LF(L H:Bool):d9 hP (i8 (0 !=0) (fN 0 L H)) (s0 L H):=LA ag (S' L H)
theorem LG(L H:Bool):d9 hP (fN 1 L H) (eO L H):=(LB (S' L H) (LF L H) (LF L af) (LF af H)).cl kS
theorem LH(L H:Bool):d9 hP (i8 (1 !=0) (fN 1 L H)) (s1 L H):=(LA af (LG L H)).cl kS
theorem LI(L H:Bool):d9 hP (fN 2 L H) (f_ L H):=(LB (LG L H) (LH L H) (LH L af) (LH af H)).FI kS
theorem LJ(L H:Bool):d9 hP (i8 (2 !=0) (fN 2 L H)) (s2 L H):=(LA af (LI L H)).FI kS
theorem alZ:d9 hP (fN 3 ag ag) lj:=LB (LI ag ag) (LJ ag ag) (LJ ag af) (LJ af ag)
theorem bound(h:k=1\/k=2\/k=3)(s:dV)(a:s.a=0)(l:s.l.length<=40):(mt (fN k ag ag s).1).al+(mt (fN k ag ag s).1).w<=3990/\(mt (fN k ag ag s).1).a<=800000:=by
 rcases h with rfl|rfl|rfl
 .exact (LG ag ag).bound alJ s a l
 .exact (LI ag ag).bound alK s a l
 .exact alZ.bound alR s a l
noncomputable def tr:Env:=⟨[],[],ah⟩
structure Drawn(t:T):Prop where
 LK:jO ag ag 7 196 19 t
 size:al t<=800000
 run:∃o b5 c,e3 t tr o b5 c/\c<=2990/\o.Au ag ag
theorem drawn(h:k=1\/k=2\/k=3)(s:dV)(a:s.a=0)(l:s.l.length<=40):Drawn (fN k ag ag s).1:=by
 have f:=alV (k:=k) (by lia) s;refine eP (bound h s a l) λj m=>⟨f,by rw[<-(qn _).1];exact m,?_⟩;refine mq (visit _ _ _ f.ok tr) λo i c d=>?_;have g:=alY d.gx f.ok;have n:=qm (E:=tr) (λid=>aO 1) (fN k ag ag s).1;refine⟨o,i,c,d.gx,?_,g⟩;rcases K4 _ _ d.b with e|rfl
 .exact c0 (ar j e.1) d.p n
 .exact d8 g
section
variable{H:bW}{k:cZ}{d:Nat}{b9 e1:ai}{x:dV}
theorem k1.from(g:k1 H b9 e1 x k v)(e:∀c,c≠b9->c≠e1->H1 c=H c):k1 H1 b9 e1 x k v:=λh i b=>g h (λc f a=>(i c f a).trans (e c f a)) b
theorem wX(m:Nat)(x:dV)(h:0<m):((tk m x).1:Int)=x.take.1.fmod m/\(tk m x).1<m:=by have a:=Int.fmod_nonneg_of_pos x.take.1 (b:=(m:Int)) (vw h);have b:=Int.fmod_lt_of_pos x.take.1 (b:=(m:Int)) (vw h);have e:((x.take.1.fmod m).toNat:Int)=x.take.1.fmod m:=Int.toNat_of_nonneg a;exact⟨e,anH.1 (e.symm▸b)⟩
theorem vp(h:lM H b9 e1 x)(h0:0<m)(h1:m<1000)(ce:x.a<9000000)(g:∀f,(∀c,c≠b9->c≠e1->f c=H c)->lM f b9 e1 (tk m x).2->k (.int ((tk m x).1:Nat)) f):cl (d+1) (.glob 1151) [.ref b9,.int m] k H:=
 de B (Y_ h (vw h0) (vw h1) (Ty ce B) λf e b=>by exact((wX m x h0).1)▸(g f e b))
theorem nc(a:Hw kd=ae ps.length)(cv:ps.length<=100)(b:k (fL kd ps) H):cl (d+1) (.glob 483) [.str kd,.tup ps] k H:=Ze a cv b
theorem FV(a:k (j' mM (jw i)) H):cl (d+2) (.glob 1158) [.str mM,.int i] k H:=by refine de B ?_;rw[ahj];refine c7 B (nc B (by simp) (c7 B (c7 B (nc B (by simp) a))))
theorem FW(c:lM H b9 e1 x)(a:k (.int x.b) H):cF (.ref b9) (.int 2) k H:=xx c.1 (by simp) (i:=2) B B a
theorem bump(f:lM H b9 e1 x)(l:x.b<900000)(j:∀a,(∀c,c≠b9->c≠e1->a c=H c)->lM a b9 e1 (kR x)->p a):cF (.ref b9) (.int 2) (λr=>d4 .Add r (.int 1) λu=>lJ (.ref b9) (.int 2) u p) H:=by exact FW f (.add x.b 1 B B B (L' f λh i e g o n m s=>.list b9 _ 2 B B h (aH _) (by simp) (by simp) (j _ (λc q _=>bW.el _ _ q) ⟨bW.set_same ..,(bW.el _ _ (Ne.symm e)).trans i,e,g,o,n,by show 0<=x.b+1;exact g4 m,by show x.b+1<=1000000;exact Ty l B⟩)))
theorem CZ(g:lM H b9 e1 x)(l:x.b<900000)(f:∀a,(∀c,c≠b9->c≠e1->a c=H c)->lM a b9 e1 (kR x)->k (zS (x.b+1)) a):cl (d+3) (.glob 1165) [.ref b9] k H:=by refine de B ?_;rw[ahl];exact bump g l λa e b=>FW b (FV (f a e b))
theorem y7{x y:Int}{k:Bool->bT}(e:x=y)(h:k af H):cp .Eq (.int x) (.int y) k H:=wi (by rw[decide_eq_true e];exact h)
theorem pA{x y:Int}{k:Bool->bT}(e:x≠y)(h:k ag H):cp .Eq (.int x) (.int y) k H:=wi ((decide_eq_false e)▸h)
def Av(n w:J)(c:Int)(e:Bool->bT):bT:=cp .Gt n (.int 0) λa=>b6 a (cp .Eq w (.int c) λb=>b6 b (e af) (e ag)) (e ag)
def FX(w l:J)(c:Int)(e:Bool->bT):bT:=cp .Eq w (.int c) λa=>b6 a (g6 l λb=>b6 b (e af) (e ag)) (e ag)
theorem t2(e:¬(0<n/\w=c))(h:k_ ag H):Av (.int n) (.int w) c k_ H:=by
 refine wj ?_;by_cases a:0<n
 .rw [decide_eq_true a];exact dI (pA (λb=>e ⟨a,b⟩) (c6 h))
 .rw [decide_eq_false a];exact c6 h
theorem FY(p:0<n)(e:w=c)(h:k_ af H):Av (.int n) (.int w) c k_ H:=by refine wj ?_;rw[decide_eq_true p];exact dI (y7 e (dI h))
theorem FZ(e:¬(w=c/\l=af))(h:k_ ag H):FX (.int w) (.bool l) c k_ H:=by
 by_cases a:w=c
 .refine y7 a (dI (j0 ?_))
  induction l with
  |true=>exact absurd ⟨a,B⟩ e
  |false=>exact c6 h
 .exact pA a (c6 h)
theorem S_(e:w=c)(h:k_ af H):FX (.int w) (.bool af) c k_ H:=y7 e (dI (j0 (dI h)))
end
def LL(d:Nat)(k:cZ)(a b f e c:J):bT:=cp .Eq c (.int 1) λE=>b6 E (lm 1 (cl d (.glob 483) [.str su,.tup [.str uG]] λN=>lm 1 (lm 5 (cl d (.glob 483) [.str pR,.tup [.none,.str H5,.lst [N],.none,.bool ag]] λap=>k ap)))) (cp .Eq c (.int 2) λa2=>b6 a2 (cl d (.glob 1151) [a,.int 2] λa1=>cl d (.glob 1158) [.str Bm,a1] λy=>k y) (Av b c 0 λb2=>b6 b2 (d4 .Sub b (.int 1) λQ=>cl d (.glob 1170) [a,Q,f,e] λo=>lm 0 (d4 .Sub b (.int 1) λL=>cl d (.glob 1170) [a,L,f,e] λbY=>lm 4 (cl d (.glob 483) [.str kJ,.tup [o,.lst [],.none,bY]] λA=>k A))) (Av b c 4 λR=>b6 R (cl d (.glob 1180) [a,b,f,e] λi=>k i) (Av b c 5 λj=>b6 j (cF a (.int 2) λX=>d4 .Add X (.int 1) λn=>lJ a (.int 2) n (cF a (.int 2) λbV=>d4 .Mult (.int 10) bV λm=>d4 .Add m (.int 1) λp=>cl d (.glob 1151) [a,.int 2] λH=>d4 .Add p H λq=>cl d (.glob 1158) [.str Es,q] λW=>d4 .Sub b (.int 1) λt=>cl d (.glob 1170) [a,t,.bool af,e] λu=>lm 3 (cl d (.glob 483) [.str pX,.tup [W,u,.bool ag]] λY=>k Y))) (FX c f 6 λca=>b6 ca (lm 2 (cl d (.glob 1151) [a,.int 2] λV=>cF (.lst [.str oj,.str o3]) V λF=>cl d (.glob 1165) [a] λI=>lm 1 (cl d (.glob 483) [F,.tup [I]] λl=>k l))) (cp .Eq c (.int 7) λZ=>b6 Z (cl d (.glob 1165) [a] λb5=>lm 1 (cl d (.glob 483) [.str mc,.tup [b5]] λD=>k D)) (FX c e 8 λv=>b6 v (cF a (.int 2) λao=>d4 .Add ao (.int 1) λS=>lJ a (.int 2) S (cF a (.int 2) λC=>cl d (.glob 1158) [.str H0,C] λb7=>lm 0 (cl d (.glob 483) [.str nN,.tup []] λs=>lm 1 (lm 1 (cl d (.glob 483) [.str mB,.tup [.lst [s]]] λG=>lm 3 (cl d (.glob 483) [.str tw,.tup [b7,G,.none]] λz=>k z)))))) (Av b c 9 λM=>b6 M (nv (.typ "range") [.int 2] λbZ g=>oi g (ix bZ (λcc h=>d4 .Sub b (.int 1) λw=>cl d (.glob 1175) [a,w,f,e] λr=>h (ae r)) (λbd=>lm 1 (cl d (.glob 483) [.str rc,.tup [.lst bd]] λx=>k x)) g [])) (cl d (.glob 1165) [a] λcb=>k cb)))))))))
theorem Ta(d:Nat)(k:cZ)(a e b c:J):U (d+1) 1175 [a,e,b,c] k=cl d (.glob 1151) [a,.int 10] λf=>LL d k a e b c f:=ahn
section
variable{Hp:bW}{k:cZ}{d:Nat}{b9 e1:ai}{x:dV}{L H:Bool}
theorem Tb{w n:Nat}(D:w<10)(E:n=0\/(w≠0/\w≠4/\w≠5/\w≠9))(l:lM Hp b9 e1 x)(A:x.a<8000000)(o:x.b<800000)(g:k1 Hp b9 e1 (n6 L H w x).2 k (toV (n6 L H w x).1)):LL (d+3) k (.ref b9) (.int n) (.bool L) (.bool H) (.int w) Hp:=by
 have mk:n6 L H w x=(.mark (x.b+1),kR x)->cl (d+3) (.glob 1165) [.ref b9] (λC=>k C) Hp:=λe=>by rw[e]at g;exact CZ l (Ty o B) λh ch f=>g h ch f
 unfold LL;by_cases z:w=1
 .subst z;refine y7 B (dI (c7 B (nc B (by simp) (c7 B (c7 B (nc B (by simp) ?_))))));exact g Hp (λ_ _ _=>B) l
 refine pA (by lia) (c6 ?_);by_cases y:w=2
 .subst y;refine y7 B (dI (vp (m:=2) l (by k_is) (by k_is) (Ty A B) λh ch f=>FV ?_));have q:=(wX 2 x (by k_is)).2;have j:=g h ch f;have e:toV (n6 L H 2 x).1=j' uu (jw (if((tk 2 x).1==1)then 1 else 0)):=B;rw[e]at j;have cf:(if((tk 2 x).1==1)=af then(1:Int)else 0)=((tk 2 x).1:Int):=by
   generalize(tk 2 x).1=v at*
   match v,q with
   |0,_=>rfl
   |1,_=>rfl
  rw[cf]at j;exact j
 refine pA (by lia) (c6 (t2 (n:=n) (w:=w) (c:=0) (by lia) (c6 (t2 (n:=n) (w:=w) (c:=4) (by lia) (c6 (t2 (n:=n) (w:=w) (c:=5) (by lia) (c6 ?_)))))));by_cases p:w=6/\L=af
 .obtain ⟨rfl,rfl⟩:=p;refine S_ B (dI (c7 B (vp (m:=2) l (by k_is) (by k_is) (Ty A B) λh ch f=>?_)));have q:=(wX 2 x (by k_is)).2;have ab:=vo 2 x;have e:n6 af H 6 x=(if(tk 2 x).1=0 then .brk ((tk 2 x).2.b+1)else .dQ ((tk 2 x).2.b+1),kR (tk 2 x).2):=B;rw[e]at g;generalize(tk 2 x).1=v at*
  match v,q with
  |0,_=>refine oS (by simp) (i:=0) B B (CZ f (h9 o (bt ab.2)) λr cf t=>c7 B (nc B (by simp) ?_));exact k1.from g ch r cf t
  |1,_=>refine oS (by simp) (i:=1) B B (CZ f (h9 o (bt ab.2)) λr cf t=>c7 B (nc B (by simp) ?_));exact k1.from g ch r cf t
 refine FZ (w:=w) (c:=6) (λj=>p ⟨by lia,j.2⟩) (c6 ?_);by_cases u:w=7
 .subst u;refine y7 B (dI (CZ l (Ty o B) λh ch f=>c7 B (nc B (by simp) ?_)));exact g h ch f
 refine pA (by lia) (c6 ?_);by_cases s:w=8/\H=af
 .obtain ⟨rfl,rfl⟩:=s;refine S_ B (dI (bump l (Ty o B) λh ch f=>FW f (FV (c7 B (nc B (by simp) (c7 B (c7 B (nc B (by simp) (c7 B (nc B (by simp) ?_))))))))));exact g h ch f
 refine FZ (w:=w) (c:=8) (λj=>s ⟨by lia,j.2⟩) (c6 (t2 (n:=n) (w:=w) (c:=9) (by lia) (c6 ?_)));refine mk ?_;unfold n6;rw[if_neg z,if_neg y,if_neg p,if_neg u,if_neg s]
end
def oE(k D:Nat):Prop:=∀{L c:Bool}{d:Nat}{b9 e1:ai}{x:dV}{e:bW}{f:cZ},D<=d->lM e b9 e1 x->x.a+gN k<=7000000->x.b+gN k<=700000->k1 e b9 e1 (fN k L c x).2 f (toV (fN k L c x).1)->U d 1175 [.ref b9,.int k,.bool L,.bool c] f e
def Aw(k D:Nat):Prop:=∀{L c:Bool}{d:Nat}{b9 e1:ai}{x:dV}{e:bW}{f:cZ},D<=d->lM e b9 e1 x->x.a+(2*gN k+1)<=7000000->x.b+(2*gN k+1)<=700000->k1 e b9 e1 (i8 (k !=0) (fN k L c) x).2 f (toV (i8 (k !=0) (fN k L c) x).1)->U d 1170 [.ref b9,.int k,.bool L,.bool c] f e
def F0(d:Nat)(k:cZ)(a h f l i:J):bT:=cl d (.glob 1151) [a,i] λn=>d4 .Add (.int 1) n λm=>nv (.typ "range") [m] λe b=>oi b (ix e (λp g=>cl d (.glob 1175) [a,h,f,l] λo=>g (ae o)) (λc=>lm 1 (cl d (.glob 483) [.str mB,.tup [.lst c]] λj=>k j)) b [])
theorem al0(d:Nat)(k:cZ)(e a b c:J):U (d+1) 1170 [e,a,b,c] k=cp .Gt a (.int 0) λf=>b6 f (F0 d k e a b c (.int 2)) (F0 d k e a b c (.int 1)):=ahm
theorem Tc{k D d:Nat}{L H:Bool}{b9 e1:ai}{x:dV}{Hp:bW}{n:cZ}{z:Bool}(h:oE k D)(A:z=(k !=0))(il:1<=D)(dl:D<=d)(w:lM Hp b9 e1 x)(g:x.a+(2*gN k+1)<=7000000)(i:x.b+(2*gN k+1)<=700000)(j:k1 Hp b9 e1 (i8 z (fN k L H) x).2 n (toV (i8 z (fN k L H) x).1)):F0 d n (.ref b9) (.int k) (.bool L) (.bool H) (.int ((if z then 2 else 1:Nat):Int)) Hp:=by
 obtain⟨e,rfl⟩:∃e,d=e+1:=⟨d-1,by exact a7 (cY (eB d 1)) (cY (sB (show 1<=d from(dp il dl))))⟩;unfold F0;have r:0<(if z then 2 else 1):=by induction z using aS<;>decide
 have t:(if z then 2 else 1)<1000:=by induction z using aS<;>decide
 refine vp w r t (jz g (aH (gN k)) (aH (gN k))) λC ch q=>?_;have u:=(wX (if z then 2 else 1) x r).2;have ab:=vo (if z then 2 else 1) x;have ee:i8 z (fN k L H) x=(if(tk (if z then 2 else 1) x).1=0 then qV .seq1 (fN k L H)else jy .gn (fN k L H) (fN k L H)) (tk (if z then 2 else 1) x).2:=B;rw[ee]at j;generalize(tk (if z then 2 else 1) x).1=c at*;generalize(tk (if z then 2 else 1) x).2=bY at*;have o:=CY k L H bY;have v:c=0\/c=1:=by induction z using aS<;>simp at u<;>lia
 rcases v with rfl|rfl
 .refine kv (yz 1 (by k_is) λf l=>?_);obtain⟨a,rfl⟩:∃a,f=[a]:=by
   match f,l with
   |[a],_=>exact⟨a,B⟩
  refine⟨by simp,z2 trivial (de B (h dl q (h9 g ab.1) (jz i (bt ab.2) (aH (gN k))) λp cf m=>E1 trivial (c7 B (nc B (by simp) ?_))))⟩;exact k1.from j ch p cf m
 .refine kv (yz 2 (by k_is) λf l=>?_);obtain⟨a,b,rfl⟩:∃a b,f=[a,b]:=by
   match f,l with
   |[a,b],_=>exact⟨a,b,B⟩
  refine⟨by simp,z2 trivial (de B (h dl q (h9 g ab.1) (jz i (bt ab.2) (aH (gN k))) λp cf m=>z2 trivial (de B (h dl m (jz g ab.1 o.1) (jz i (bt ab.2) o.2) λy eC s=>E1 trivial (c7 B (nc B (by simp) ?_))))))⟩;exact k1.from (k1.from j ch) cf y eC s
theorem al1(h:oE k D)(il:1<=D):Aw k (D+1):=by
 intro L H d b9 e1 x Hp dX dl b_ dN cu V;obtain⟨e,rfl⟩:∃e,d=e+1:=⟨d-1,by exact fw dl B⟩;rw[al0];refine wj ?_
 induction k using ant with
 |zero=>exact c6 (Tc (z:=ag) h B il (alT dl) b_ dN cu V)
 |succ k=>exact(decide_eq_true (show(0:Int)<((k+1:Nat):Int) by k_is))▸(dI (Tc (z:=af) h B il (alT dl) b_ dN cu V))
def F1(d:Nat)(b p l h:J)(m:Int)(a:J->bT):bT:=cl d (.glob 1151) [b,.int m] λr=>cp .Eq r (.int 0) λc=>b6 c (d4 .Sub p (.int 1) λe=>cl d (.glob 1170) [b,e,l,h] λf=>a f) (a .none)
def LM(d:Nat)(κ:cD)(e a b c h:J):bT:=F1 d e a b c 3 λk=>F1 d e a b c 2 λf=>d4 .Sub a (.int 1) λj=>cl d (.glob 1170) [e,j,b,c] λl=>lm 4 (l0 [l,h,k,f] λg=>cl d (.glob 483) [.str kJ,.tup g] λi=>κ.ef i)
theorem Td(d:Nat)(κ:cD)(f a b c e g h:J):cq (U d) 198 (bX 1180 100) (pj f a b c e (.Y g) (.Y h)) κ=LM d κ f a b c e:=ahE
def F2(d:Nat)(κ:cD)(a e f i h v:J):bT:=lm 0 (lm 1 (lm 1 (lm 2 (lm 4 (cl d (.glob 1151) [a,.int 4] λk=>cF (.lst [.lst [],.lst [.str sn],.lst [.str so],.lst [.str so,.str sn]]) k λo=>iY o λq g=>oi g (ix q (λn p=>lm 2 (cl d (.glob 483) [.str pS,.tup [.none,n]] λl=>p (ae l))) (λb=>methP h kt λc=>d4 .Sub e (.int 1) λm=>cl d (.glob 1170) [a,m,f,.bool af] λj=>lm 3 (cl d c.1 (c.2++[.tup [.lst b,.none,j]]) λr=>κ.cQ (pj a e f i h (.Y v) (.Y (.lst b))))) g []))))))
theorem Te(d:Nat)(κ:cD)(f a b c e v:J):eG (U d) 197 (dS (bX 1180 10)) v (pj f a b c e) κ=F2 d κ f a b c e v:=ahC
theorem al2(d:Nat)(κ:cD)(f a b c e g h v:J):eG (U d) 197 (dS (bX 1180 10)) v (pj f a b c e (.Y g) (.Y h)) κ=F2 d κ f a b c e v:=ahD
section
variable{k D d:Nat}{L H:Bool}{b9 e1 R:ai}{x:dV}{Hp:bW}{κ:cD}
def fe(k:Nat)(L H:Bool):dV->T×dV:=i8 (k !=0) (fN k L H)
theorem wY(k:Nat):(((k+1:Nat):Int)-1)=(k:Int):=by k_is
theorem Tf(h:Aw k D)(dl:D<=d+1)(j:0<m)(p:m<1000)(r:lM Hp b9 e1 x)(i:x.a+(2*gN k+2)<=7000000)(l:x.b+(2*gN k+2)<=700000)(f:k1 Hp b9 e1 (jN m (fe k L H) x).2 k_ (toV (jN m (fe k L H) x).1)):F1 (d+1) (.ref b9) (.int ((k+1:Nat):Int)) (.bool L) (.bool H) m k_ Hp:=by
 unfold F1;refine vp r j p (jz i (aH (gN k)) (aH (gN k))) λq ch g=>?_;have ab:=vo m x;have ee:jN m (fe k L H) x=(if(tk m x).1=0 then fe k L H else λs=>(.nil,s)) (tk m x).2:=B;rw[ee]at f;generalize(tk m x).1=c at*;generalize(tk m x).2=bY at*;by_cases e:c=0
 .rw [if_pos e]at f;refine y7 (by(simp+arith at e⊢;exact e)) (dI (m6 ?_));rw[wY];exact de B (h dl g (h9 i ab.1) (h9 l (bt ab.2)) λn cf o=>k1.from f ch n cf o)
 .rw [if_neg e]at f;exact pA (by(simp+arith at e⊢;exact e)) (c6 (f q ch g))
theorem LN(h:Aw k D)(dl:D<=d+1)(a1:lM Hp b9 e1 x)(z:x.a+(2*gN k+2)<=7000000)(E:x.b+(2*gN k+2)<=700000){vs:List J}{v:J}(I:Hp R=ae (.list vs))(M:vs.length<=100)(o:R≠b9)(nl:R≠e1)
  (t:∀(e:bW)(cls:J),(∀c,c≠b9->c≠e1->c≠R->e c=Hp c)->lM e b9 e1 (i9 (fe k L af) x).2->e R=ae (.list (vs++[.tup [ox (i9 (fe k L af) x).1.1,.none,toV (i9 (fe k L af) x).1.2]]))->κ.cQ (pj (.ref b9) (.int ((k+1:Nat):Int)) (.bool L) (.bool H) (.ref R) (.Y v) (.Y cls)) e):
  F2 (d+1) κ (.ref b9) (.int ((k+1:Nat):Int)) (.bool L) (.bool H) (.ref R) v Hp:=by
 unfold F2;refine c7 B (c7 B (c7 B (c7 B (c7 B (vp (m:=4) a1 (by k_is) (by k_is) (jz z (aH (gN k)) (aH (gN k))) λe ch ao=>?_)))));have ca:=(wX 4 x (by k_is)).2;have ab:=vo 4 x;have ee:i9 (fe k L af) x=(((tk 4 x).1,(fe k L af (tk 4 x).2).1),(fe k L af (tk 4 x).2).2):=B;replace t:=ee▸t;generalize(tk 4 x).1=c at*;generalize(tk 4 x).2=bY at*;have y:e R=ae (.list vs):=(ch R o nl).trans I;have fin:∀j,ox c=.lst j->(methP (.ref R) kt λl=>d4 .Sub (.int ((k+1:Nat):Int)) (.int 1) λq=>cl (d+1) (.glob 1170) [.ref b9,q,.bool L,.bool af] λp=>lm 3 (cl (d+1) l.1 (l.2++[.tup [.lst j,.none,p]]) λF=>κ.cQ (pj (.ref b9) (.int ((k+1:Nat):Int)) (.bool L) (.bool H) (.ref R) (.Y v) (.Y (.lst j))))) e:=λj Z=>by
  refine tI y (m6 ?_);rw[wY];refine de B (h dl ao (h9 z ab.1) (h9 E (bt ab.2)) λX cf bV=>c7 B (sK ((cf R o nl).trans y) (fa M B) ?_));have n:=t (X.set R (.list (vs++[.tup [ox c,.none,toV (fe k L af bY).1]]))) (.lst j) (λa w A b2=>(bW.el _ _ b2).trans ((cf a w A).trans (ch a w A))) (by refine jQ bV λS bd bZ Q=>?_;exact⟨(bW.el _ _ (Ne.symm o)).trans S,(bW.el _ _ (Ne.symm nl)).trans bd,bZ,Q⟩) (bW.set_same ..)
  replace n:=Z▸n;exact n
 have st:∀(g:List Str),Hx c=g->g.length<=2->iY (.lst (g.map .str)) (λb7 C=>oi C (ix b7 (λap b5=>lm 2 (cl (d+1) (.glob 483) [.str pS,.tup [.none,ap]] λW=>b5 (ae W))) (λu=>methP (.ref R) kt λl=>d4 .Sub (.int ((k+1:Nat):Int)) (.int 1) λq=>cl (d+1) (.glob 1170) [.ref b9,q,.bool L,.bool af] λp=>lm 3 (cl (d+1) l.1 (l.2++[.tup [.lst u,.none,p]]) λF=>κ.cQ (pj (.ref b9) (.int ((k+1:Nat):Int)) (.bool L) (.bool H) (.ref R) (.Y v) (.Y (.lst u))))) C [])) e:=λg N ls=>by refine n0 (by simp;exact fa ls B) ⟨by simp;exact fa ls B,comp_map (H:=e) (src:=λV=>iO V (.lst (g.map .str))=iO e (.lst (g.map .str))) (f:=.str) (g:=λs=>fL pS [.none,.str s]) B g [] (λr _ cb G=>aeU (ay B) (nc B (ay B) G)) ?_⟩;exact fin _ (by unfold ox;refine N▸?_;rfl)
 have a2:c=0\/c=1\/c=2\/c=3:=by lia
 rcases a2 with rfl|rfl|rfl|rfl
 .exact oS (by simp) (i:=0) B B (st [] B (by decide))
 .exact oS (by simp) (i:=1) B B (st [sn] B (by decide))
 .exact oS (by simp) (i:=2) B B (st [so] B (by decide))
 .exact oS (by simp) (i:=3) B B (st [so,sn] B (by decide))
end
noncomputable def cv(h:Nat×T×Nat×T):List J:=.tup [ox h.1,.none,toV h.2.1]::(if h.2.2.2.isNil then []else [.tup [ox h.2.2.1,.none,toV h.2.2.2]])
theorem al3(h:Nat×T×Nat×T)(ot l b:T):toV (vm (vl h ot) l b)=fL kJ [toV b,.lst (cv h),toV ot,toV l]:=by
 have e:sG h.1 (toV h.2.1) h.2.2.1 (h.2.2.2.opt (toV h.2.2.2))=.lst (cv h):=by delta sG T.opt cv;cases h.2.2.2.isNil<;>rfl
 delta vm vl;cases n:l.isNil with
 |true=>have:=nil_eq n;subst this;show fL kJ [toV b,sG h.1 (toV h.2.1) h.2.2.1 (h.2.2.2.opt (toV h.2.2.2)),toV ot,.none]=_;rw[e];rfl
 |false=>show fL kJ [toV b,sG h.1 (toV h.2.1) h.2.2.1 (h.2.2.2.opt (toV h.2.2.2)),toV ot,toV l]=_;rw[e]
noncomputable def al4:J->Bool
 |.ref _=>af
 |_=>ag
set_option tactic.hygienic true in
theorem LO(h:k (toV t) H):r6 (toV t) k H:=by
 have:∀a:J,al4 a=ag->k a H->r6 a k H:=λa n h=>by
  unfold r6
  induction a using J.casesOn<;>first|exact h|exact d8 n.symm
 refine this _ ?_ h
 induction t using T.casesOn<;>first|rfl|skip
 rename_i x l
 induction x using T.casesOn<;>rfl
theorem al5{H:bW}{k:cZ}{R:ai}{vs:List J}(e:H R=ae (.list vs))(h:k (.lst vs) (H.del R)):r6 (.ref R) k H:=by unfold r6;dsimp only;exact e▸h
theorem al6(z:Bool)(f:dV->T×dV)(s:dV):(i8 z f s).1.isNil=ag:=by
 have:∀(c:Nat)(a:dV),((if c=0 then qV T.seq1 f else jy T.gn f f) a).1.isNil=ag:=λc a=>by split<;>rfl
 exact this _ _
theorem LP{H:bW}{a b:ai}(h:b≠a):H.del a b=H b:=if_neg h
section
variable{k D d:Nat}{L H:Bool}{b9 e1 R:ai}{x:dV}{Hp F3:bW}{κ:cD}
theorem LQ(k:Nat)(L H:Bool):h8 (2*gN k+1) (fe k L H):=S3 (CY k L H)
theorem Tg(k:Nat)(L H:Bool)(m:Nat):h8 (2*gN k+2) (jN m (fe k L H)):=LD (LQ k L H)
theorem Th(h:Aw k D)(dl:D<=d+1)(hs:Nat×T×Nat×T)(z:lM F3 b9 e1 x)(q:x.a+(6*gN k+6)<=7000000)(n:x.b+(6*gN k+6)<=700000)(f:R≠b9)(nl:R≠e1)(s:F3 R=ae (.list (cv hs)))(h0:Hp R=ah)(w:∀c,c≠b9->c≠e1->c≠R->F3 c=Hp c)
  (r:k1 Hp b9 e1 (fe k L H (jN 2 (fe k L H) (jN 3 (fe k L H) x).2).2).2 κ.ef (toV (vm (vl hs (jN 3 (fe k L H) x).1) (jN 2 (fe k L H) (jN 3 (fe k L H) x).2).1 (fe k L H (jN 2 (fe k L H) (jN 3 (fe k L H) x).2).2).1))):
  LM (d+1) κ (.ref b9) (.int ((k+1:Nat):Int)) (.bool L) (.bool H) (.ref R) F3:=by
 unfold LM;have g:=Tg k L H 3 x;refine Tf h dl (by decide) (by decide) z (by lia) (by lia) λI ch y=>?_;generalize(jN 3 (fe k L H) x).1=ot at*;generalize(jN 3 (fe k L H) x).2=bY at*;have o:=Tg k L H 2 bY;refine Tf h dl (by decide) (by decide) y (jz (bx q (aH (gN k))) g.1 (aH (gN k))) (jz (bx n (aH (gN k))) g.2 (aH (gN k))) λG cf E=>m6 ?_;generalize(jN 2 (fe k L H) bY).1=l at*;generalize(jN 2 (fe k L H) bY).2=b7 at*;rw[wY];refine de B (h dl E (jz q g.1 o.1) (jz n g.2 o.2) λm eC p=>c7 B ?_);change lM m b9 e1 (fe k L H b7).2 at p;show l0 [toV (fe k L H b7).1,.ref R,toV ot,toV l] _ m;generalize(fe k L H b7).1=b at*;generalize(fe k L H b7).2=cW at*;have A:m R=ae (.list (cv hs)):=(eC R f nl).trans ((cf R f nl).trans ((ch R f nl).trans s));refine LO (al5 A (LO (LO ?_)));show cl (d+1) (.glob 483) [.str kJ,.tup [toV b,.lst (cv hs),toV ot,toV l]] (λv=>κ.ef v) (m.del R);refine nc B (ay B) ?_;rw[al3]at r;refine r _ (λc i j=>?_) ?_
 .by_cases e:c=R
  .cases e;exact h0▸(if_pos B)
  .exact (LP e).trans ((eC c i j).trans ((cf c i j).trans ((ch c i j).trans (w c i j e))))
 .exact jQ p λu C F t=>⟨(LP (Ne.symm f)).trans u,(LP (Ne.symm nl)).trans C,F,t⟩
theorem Ti(k:Nat)(L:Bool)(x:dV):(i9 (fe k L af) x).2.a<=x.a+(2*gN k+2)/\(i9 (fe k L af) x).2.b<=x.b+(2*gN k+2):=by have:=FU (LQ k L af) x;exact this
theorem al7(h:Aw k D)(dl:D+1<=d)(G:3<=d)(r:lM Hp b9 e1 x)(A:x.a+(10*gN k+16)<=7000000)(v:x.b+(10*gN k+16)<=700000)(s:k1 Hp b9 e1 (vn (fe k L H) (fe k L af) x).2 dX (toV (vn (fe k L H) (fe k L af) x).1)):U d 1180 [.ref b9,.int ((k+1:Nat):Int),.bool L,.bool H] dX Hp:=by
 obtain⟨d,rfl⟩:∃e,d=e+2:=⟨d-2,by exact fw G B⟩;rw[ahA];refine c7 B ?_;show eX (.list []) _ Hp;intro R oe;have i:R≠b9:=λe=>by rw[e,r.1]at oe;exact gS oe
 have nl:R≠e1:=λe=>by rw[e,r.2.1]at oe;exact gS oe
 have S:lM (Hp.set R (.list [])) b9 e1 x:=by exact jQ r λI X Z F=>⟨(bW.el _ _ (Ne.symm i)).trans I,(bW.el _ _ (Ne.symm nl)).trans X,Z,F⟩
 have W:(Hp.set R (.list [])) R=ae (.list []):=bW.set_same _ _ _;have fc:∀c,c≠b9->c≠e1->c≠R->(Hp.set R (.list [])) c=Hp c:=λc _ _ e=>bW.el _ _ e;generalize Hp.set R (.list [])=i7 at*;show cq _ _ _ _ _ _;rw[ahB];refine vp (m:=2) S (by k_is) (by k_is) (by lia) λY ch z=>?_;have ao:=(wX 2 x (by k_is)).2;have ab:=vo 2 x;have ee:vn (fe k L H) (fe k L af) x=jy (λj b=>j b) (jy vm (jy vl (λ_=>(if(tk 2 x).1=0 then qV (λj=>(j.1,j.2,0,.nil)) (i9 (fe k L af))else jy (λC j=>(C.1,C.2,j.1,j.2)) (i9 (fe k L af)) (i9 (fe k L af))) (tk 2 x).2) (jN 3 (fe k L H))) (jN 2 (fe k L H))) (fe k L H) x:=B;rw[ee]at s;generalize(tk 2 x).1=n at*;generalize(tk 2 x).2=bY at*;have p:=Ti k L bY;have y:Y R=ae (.list []):=(ch R i nl).trans W;have N:n=0\/n=1:=by lia
 rcases N with rfl|rfl
 .refine kv (yz 1 (by k_is) λo t=>?_);obtain⟨a,rfl⟩:∃a,o=[a]:=by
   match o,t with
   |[a],_=>exact⟨a,B⟩
  refine tT trivial ?_;rw[Te];refine LN h (alT dl) z (by lia) (by lia) y (by simp) i nl λQ cls cf u q=>?_;dsimp only;refine JN trivial ?_;show cq _ _ _ _ _ _;rw[Td];exact Th (Hp:=Hp) h (alT dl) ((i9 (fe k L af) bY).1.1,(i9 (fe k L af) bY).1.2,0,.nil) u (jz (bx A (aH (gN k))) (bx ab.1 (aH (gN k))) p.1) (jz (bx v (aH (gN k))) (bx (bt ab.2) (aH (gN k))) p.2) i nl q oe (λc f g l=>(cf c f g l).trans ((ch c f g).trans (fc c f g l))) s
 .refine kv (yz 2 (by k_is) λo t=>?_);obtain⟨a,b,rfl⟩:∃a b,o=[a,b]:=by
   match o,t with
   |[a,b],_=>exact⟨a,b,B⟩
  refine tT trivial ?_;rw[Te];refine LN h (alT dl) z (by lia) (by lia) y (by simp) i nl λQ cls cf u q=>?_;dsimp only;refine tT trivial ?_;have w:=Ti k L (i9 (fe k L af) bY).2;rw[al2];refine LN h (alT dl) u (by lia) (by lia) q (by simp) i nl λap cls eC M V=>?_;dsimp only;refine JN trivial ?_;show cq _ _ _ _ _ _;rw[Td];have E:(i9 (fe k L af) (i9 (fe k L af) bY).2).1.2.isNil=ag:=al6 _ _ _;refine Th (Hp:=Hp) h (alT dl) ((i9 (fe k L af) bY).1.1,(i9 (fe k L af) bY).1.2,(i9 (fe k L af) (i9 (fe k L af) bY).2).1.1,(i9 (fe k L af) (i9 (fe k L af) bY).2).1.2) M (jz (bx A w.1) ab.1 p.1) (jz (bx v w.2) (bt ab.2) p.2) i nl ?_ oe (λc f g l=>(eC c f g l).trans ((cf c f g l).trans ((ch c f g).trans (fc c f g l)))) s;rw[V];unfold cv;refine E▸?_;rfl
end
theorem al9(x:dV):tk 2 (kR x)=((tk 2 x).1,kR (tk 2 x).2)/\(tk 2 x).2.b=x.b:=by
 obtain⟨l,a,b⟩:=x
 induction l using aE<;>exact⟨B,B⟩
theorem Tj:oE 0 4:=by intro L H d b9 e1 x Hp dX dl b_ dN cu V;obtain⟨d,rfl⟩:∃e,d=e+4:=⟨d-4,by exact fw dl B⟩;have a:gN 0=3:=B;rw[a]at dN cu;rw[Ta];refine vp (m:=10) b_ (by k_is) (by k_is) (g4 dN) λf ch b=>?_;have c:=(wX 10 x (by k_is)).2;have ab:=vo 10 x;exact Tb (n:=0) c (.inl B) b (h9 dN ab.1) (h9 cu (bt ab.2)) (k1.from V ch)
theorem LR(h:oE k D)(h1:4<=D):oE (k+1) (D+3):=by
 have hs:Aw k (D+1):=al1 h (aq (by k_is) h1);intro L H d b9 e1 x Hp dX dl b_ dN cu V;obtain⟨d,rfl⟩:∃e,d=e+4:=⟨d-4,by exact a7 (cY (eB d 4)) (cY (sB (show 4<=d from(dp h1 dl))))⟩;have j:gN (k+1)=10*gN k+20:=B;rw[j]at dN cu;rw[Ta];refine vp (m:=10) b_ (by k_is) (by k_is) (jz dN (aH (gN (k+1))) (g0 (ak j))) λN ch o=>?_;have C:=(wX 10 x (by k_is)).2;have ab:=vo 10 x;have f:=k1.from V ch
 have ee:fN (k+1) L H x=(if(tk 10 x).1=0 then jy (λb l=>.dZ (.bare b) l) (fe k L H) (fe k L H)
  else if(tk 10 x).1=4 then vn (fe k L H) (fe k L af)
  else if(tk 10 x).1=5 then CQ (fe k af H)
  else if(tk 10 x).1=9 then jy .arr (fN k L H) (fN k L H)
  else n6 L H (tk 10 x).1) (tk 10 x).2:=B
 replace f:=ee▸f;clear V ee;generalize(tk 10 x).1=w at*;generalize(tk 10 x).2=bY at*;have p:(0:Int)<((k+1:Nat):Int):=by k_is
 by_cases u:w=0
 .cases u;replace f:=(if_pos B)▸f;have A:=LQ k L H bY;refine pA (by decide) (c6 (pA (by decide) (c6 (FY p B (dI (m6 ?_))))));rw[wY];refine de B (hs (cY dl) o (by lia) (by lia) λy cf g=>c7 B (m6 ?_));rw[wY];refine de B (hs (cY dl) g (by show(fe k L H bY).2.a+_<=_;lia) (by show(fe k L H bY).2.b+_<=_;lia) λq eC i=>c7 B (nc B (ay B) ?_));exact k1.from f cf q eC i
 rw[if_neg u]at f;by_cases s:w=4
 .cases s;rw[if_pos B]at f;refine pA (by decide) (c6 (pA (by decide) (c6 (t2 (n:=(k+1:Nat)) (w:=(4:Nat)) (c:=0) (by k_is) (c6 (FY p B (dI (de B ?_))))))));exact al7 hs (alT dl) (by k_is) o (h9 dN ab.1) (h9 cu (bt ab.2)) f
 rw[if_neg s]at f;by_cases r:w=5
 .cases r;replace f:=(if_pos B)▸f;refine pA (by decide) (c6 (pA (by decide) (c6 (t2 (n:=(k+1:Nat)) (w:=(5:Nat)) (c:=0) (by k_is) (c6 (t2 (n:=(k+1:Nat)) (w:=(5:Nat)) (c:=4) (by k_is) (c6 (FY p B (dI (bump o (jz (bx cu (g0 (ak j))) (bt ab.2) (aH (gN (k+1)))) λy cf g=>FW g ?_))))))))));have M:0<=(kR bY).b/\(kR bY).b<=1000000:=⟨g.2.2.2.2.2.2.1,g.2.2.2.2.2.2.2⟩;refine .mul 10 _ B B B (by decide) (by decide) (kv (vp (m:=2) g (by k_is) (by k_is) (by show bY.a<_;exact jz (bx dN (g0 (ak j))) ab.1 (aH (gN (k+1)))) λq eC i=>kv (FV (m6 ?_))));obtain⟨t1,c5⟩:=al9 bY;rw[t1]at i⊢;have I:=vo 2 bY;have E:CQ (fe k af H) bY=(.fm (10*((tk 2 bY).2.b+1)+1+(tk 2 bY).1) (fe k af H (kR (tk 2 bY).2)).1,(fe k af H (kR (tk 2 bY).2)).2):=B;replace f:=E▸f;rw[wY];have be:(kR bY).b=(tk 2 bY).2.b+1:=by rw[c5];rfl
  refine be▸(de B (hs (cY dl) i (by show(tk 2 bY).2.a+_<=_;lia) (by show(tk 2 bY).2.b+1+_<=_;lia) λF hY z=>c7 B (nc B (ay B) ?_)));exact k1.from (k1.from f cf) eC F hY z
 rw[if_neg r]at f;by_cases t:w=9
 .subst t;rw[if_pos B]at f;have A:=CY k L H bY;refine pA (by decide) (c6 (pA (by decide) (c6 (t2 (n:=(k+1:Nat)) (w:=(9:Nat)) (c:=0) (by k_is) (c6 (t2 (n:=(k+1:Nat)) (w:=(9:Nat)) (c:=4) (by k_is) (c6 (t2 (n:=(k+1:Nat)) (w:=(9:Nat)) (c:=5) (by k_is) (c6 (FZ (w:=(9:Nat)) (c:=6) (by k_is) (c6 (pA (by decide) (c6 (FZ (w:=(9:Nat)) (c:=8) (by k_is) (c6 (FY p B (dI ?_)))))))))))))))));refine yz 2 (by k_is) λv G=>?_;obtain⟨a,b,rfl⟩:∃a b,v=[a,b]:=by
   match v,G with
   |[a,b],_=>exact⟨a,b,B⟩
  refine⟨ay B,z2 trivial (m6 ?_)⟩;rw[wY];refine de B (h (cY dl) o (by lia) (by lia) λy cf g=>z2 trivial (m6 ?_));rw[wY];refine de B (h (cY dl) g (by lia) (by lia) λq eC i=>E1 trivial (c7 B (nc B (ay B) ?_)));exact k1.from f cf q eC i
 rw[if_neg t]at f;exact Tb (n:=k+1) C (.inr ⟨u,s,r,t⟩) o (jz (bx dN (g0 (ak j))) ab.1 (aH (gN (k+1)))) (jz (bx cu (g0 (ak j))) (bt ab.2) (aH (gN (k+1)))) f
theorem oE.up(h:oE k D)(l:D<=amb):oE k amb:=by intro L H d b9 e1 x Hp dX dl b_ dN cu V;exact h (aq l dl) b_ dN cu V
theorem amc(h:k<=3):oE k 13:=by
 have b:oE 1 7:=LR Tj (av _);have a:oE 2 10:=LR b (by k_is);have c:oE 3 13:=LR a (by k_is)
 match k,h with
 |0,_=>exact @oE.up 0 4 13 @Tj (by k_is)
 |1,_=>exact @oE.up 1 7 13 @b (by k_is)
 |2,_=>exact @oE.up 2 10 13 @a (by k_is)
 |3,_=>exact @c
theorem amd(h:e3 t E o b5 c):b5.err=E.err:=by
 induction h with
 |mark=>rfl
 |seen=>rfl
 |h4=>rfl
 |seq1 _ b=>exact b
 |tg _ _ a d=>exact d.trans a
 |sk _ _ b=>exact b
 |uv _ _ a d=>exact d.trans a
 |uw _ _ _ a d=>exact d.trans a
 |ux _ _ b=>exact b
 |xA _=>rfl
 |xB _ _ b=>exact b
 |xC _ _ _ b=>exact b
 |xD _ _ _ _ a d=>exact d.trans a
 |brk=>rfl
 |dQ=>rfl
 |ret=>rfl
 |xE _=>rfl
 |xF _=>rfl
 |bare _ b=>exact b
 |xG _ _ b=>exact b
 |xH _ _ _ a d=>exact d.trans a
 |sb _ _ b=>exact b
 |xI _ _ b=>exact b
 |xJ _ _ _ _ a _=>exact a
 |sf _ _ _ _ a _ e=>exact e.trans a
 |ev _ _ a d=>exact d.trans a
 |mX _ _ _ a d=>exact d.trans a
def vq(v:J):Prop:=(∃n,v=.tup [.str jh,.int n])\/∃e,v=.tup [.str og,mz e]
theorem C0{E:Env}{s:Str}{v:J}(h:∀u∈E.told,vq u)(k:vq (.tup [.str s,v])):∀u∈(E.say s v).told,vq u:=λu m=>by
 rcases bn.mp m with m|m
 .exact h u m
 .rw [bD.mp m];exact k
theorem ame{t E o e c}(h:e3 t E o e c):(∀u∈E.told,vq u)->∀u∈e.told,vq u:=by
 induction h with
 |mark=>exact λh=>C0 h (.inl ⟨_,B⟩)
 |seen=>exact λh=>C0 h (.inr ⟨_,B⟩)
 |h4=>exact id
 |seq1 _ b=>exact b
 |tg _ _ a d=>exact λh=>d (a h)
 |sk _ _ b=>exact b
 |uv _ _ a d=>exact λh=>d (a h)
 |uw _ _ _ a d=>exact λh=>d (a h)
 |ux _ _ b=>exact b
 |xA _=>exact _root_.id
 |xB _ _ b=>exact b
 |xC _ _ _ b=>exact b
 |xD _ _ _ _ a d=>exact λh=>d (a h)
 |brk=>exact λh=>C0 h (.inl ⟨_,B⟩)
 |dQ=>exact λh=>C0 h (.inl ⟨_,B⟩)
 |ret=>exact λh=>C0 h (.inl ⟨_,B⟩)
 |xE _=>exact _root_.id
 |xF _=>exact _root_.id
 |bare _ b=>exact b
 |xG _ _ b=>exact b
 |xH _ _ _ a d=>exact λh=>d (a h)
 |sb _ _ b=>exact b
 |xI _ _ b=>exact b
 |xJ _ _ _ _ a d=>exact λh=>d (a h)
 |sf _ _ _ _ a d f=>exact λh=>f (d (a h))
 |ev _ _ a d=>exact λh=>d (a h)
 |mX _ _ _ a d=>exact λh=>d (a h)
theorem amf(h:vq v):∃y,oJ H 5 v=ae y/\y.canLay0=af/\y.depth<=1:=by
 rcases h with⟨n,rfl⟩|⟨e,rfl⟩
 .exact ⟨.tuple [.str jh,.int n],B,by cbv,ay B⟩
 .induction e using a_ with
  |none=>exact⟨.tuple [.str og,.none],B,by cbv,ay B⟩
  |some b=>induction b using aS<;>exact⟨.tuple [.str og,.str _],B,by cbv,ay B⟩
theorem Tk:∀{vs:List J},(∀u∈vs,vq u)->∃a,qr (oJ H 5) vs=ae a/\aps a=af/\aoP a<=1
 |[],_=>⟨[],B,B,bH _⟩
 |v::vs,h=>by exact lI (amf (H:=H) (h v (a4 ..))) λy ch cf eC=>lI (Tk (H:=H) (vs:=vs) λu m=>h u (aY _ m)) λa e c d=>⟨y::a,by rw[UY,ch,e],by simp only[aps,cf,c,Bool.and_self],by simp only[aoP];exact(n9 y.depth (aoP a)).elim (λb=>dp eC (ak b.1)) λb=>dp d (ak b.1)⟩
theorem LS(h1:oJ H 6 a=ae x)(h2:oJ H 6 b=ae x)(c:x.canLay0=af)(d:x.depth<=64):vA H a b=ae af:=by
 unfold vA;rw[h1,h2];have s:SeqAt.shaped x=af:=by unfold SeqAt.shaped;rw[c,decide_eq_true d];rfl
 simp only[s,Bool.and_self,if_true];rw[SeqAt.eqv_refl x c]
theorem amg{H:bW}{a b:ai}{vs:List J}(h1:H a=ae (.list vs))(h2:H b=ae (.list vs))(t:∀u∈vs,vq u):mT H .Eq (.ref a) (.ref b)=ae af:=by
 refine lI (Tk (H:=H) t) λd i f g=>?_;show kk H (.ref a) (.ref b)=ae af;have s1:iO H (.ref a)=ae (.li vs):=kj h1;have s2:iO H (.ref b)=ae (.li vs):=kj h2;unfold kk;rw[s1,s2];simp only[if_true];have e:∀c,H c=ae (.list vs)->oJ H 6 (.ref c)=ae (.list d):=λc h=>by show(match H c with|some (.list vs)=>(qr (oJ H 5) vs).map aW.list|_=>ah)=_;refine h▸?_;dsimp only;refine i▸?_;rfl
 exact LS (x:=.list d) (e a h1) (e b h2) (by simp only[aW.canLay0];exact f) (by simp only[aW.depth];exact cY g)
theorem Tn:mT H .Eq (.tup [.str gV,.int n]) (.tup [.str gV,.int n])=ae af:=by show vA H (.tup [.str gV,.int n]) (.tup [.str gV,.int n])=ae af;exact LS (x:=.tuple [.str gV,.int n]) B B (by cbv) (ay B)
theorem amh:mT H .Eq (gb e) (gb e)=ae af:=by show vA H (gb e) (gb e)=ae af;exact LS (x:=.tuple [.str (au "raise"),.str (iR e)]) B B (by induction e using aS<;>cbv) (ay B)
def vr:List (Str×J):=[(mB,.glob 1137),(rd,.glob 1109),(rc,.glob 1116),(pR,.glob 1144),(su,.glob 1123),(pS,.glob 1130),(tw,.glob 300)]
def jU:List (Str×J):=[(pX,.glob 307),(kJ,.glob 342),(oj,.glob 314),(o3,.glob 321)]
def tz:List (Str×J):=[(mc,.glob 328),(nN,.glob 335)]
def To(k:cZ)(l c wZ i:J):bT:=cp .Eq i wZ λb=>g6 (.bool b) λe=>b6 e (cF c (.str mC) λj=>cF l (.str mC) λf=>cp .Eq j f λa=>g6 (.bool a) λg=>b6 g (cF c (.str nJ) λh=>cp .Is h .none λd=>k (.bool d)) (k (.bool a))) (k (.bool b))
def Ax(d:Nat)(k:cZ)(m l e wZ:J):bT:=eX (.eJ vr) λa=>methP a x6 λb=>eX (.eJ jU) λg=>cl d b.1 (b.2++[g]) λn=>methP a x6 λc=>eX (.eJ tz) λj=>cl d c.1 (c.2++[j]) λo=>cl d (.glob 1086) [a] λh=>cB d h x4 [m,.str mb] λf=>cl d (.glob 1220) [f,e] λi=>To k l e wZ i
section
variable{H:bW}{k:cZ}{d:Nat}{ch cT en cf da dk:ai}{E b5:Env}
theorem eo.keep{c a cb:ai}{f:bW}(h:eo c a cb E H)(e:∀b,H b≠ah->f b=H b):eo c a cb E f:=
 ⟨(e _ (by rw[h.bZ];exact λh=>by exact gS h)).trans h.bZ,(e _ (by rw[h.cc];exact λh=>by exact gS h)).trans h.cc,(e _ (by rw[h.cb];exact λh=>by exact gS h)).trans h.cb⟩
structure Apart(ch cT en cf da dk:ai):Prop where
 a:ch≠cf/\ch≠da/\ch≠dk
 b:cT≠cf/\cT≠da/\cT≠dk
 c:en≠cf/\en≠da/\en≠dk
theorem ami(h1:eo ch cT en E H)(h2:eo cf da dk E H)(er:E.err=ah)(tk:∀u∈E.told,vq u)(ev:mT H .Eq v v=ae af)(a:k (.bool af) H):To k (.ref ch) (.ref cf) v v H:=by refine Bh ev (j0 (dI (Fo h2 (Fo h1 (Bh (amg h2.cc h1.cc tk) (j0 (dI (Fp h2 ?_))))))));exact er▸(is_none B a)
theorem Tp(h:H a=ae (.eJ es))(b:dX (.blt "dict.update",[.ref a]) H):methP (.ref a) x6 dX H:=
 .upd a es B h B b
theorem Tq(h:H a=ae (.eJ es))(g:H b=ae (.eJ fs))(n:a≠b)(l:es.length+fs.length<=1000)(c:k .none (H.set a (.eJ (fs.foldl (λe q=>put q.1 q.2 e) es)))):cl d (.blt "dict.update") [.ref a,.ref b] k H:=.upd a b es fs B B h g n l c
theorem runC(C:JQ t rows dH):wN (λs=>(rows[s]?).map λr=>(r,lD dH s)) rows dH:=by
 refine⟨λa r an h=>?_,C.wE,C.lc⟩;refine c_ (anA.mp h) λx ch cf=>?_;injection cf with cf eC
 exact⟨by rw[ch,cf],eC.symm⟩
noncomputable def wZ:Out->Res
 |.fo e=>.fo e
 |.ret n=>.val (.int n)
 |.val (ae a)=>.val a
 |_=>.fo ag
def Top(o:Out):Prop:=(∃n,o=.val (ae (.int n)))\/(∃e,o=.fo e)\/∃n,o=.ret n
theorem amj(C:JQ t rows dH)(a:e3 t E o b5 c)(h:Top o):Fin (λs=>(rows[s]?).map λr=>(r,lD dH s)) (1+c) [] (λ_=>ah) 0 E (wZ o) b5:=by
 refine c_ C.ex λq b g=>?_;have f:l_ [] 0:=λp m=>by cases m
 rcases h with⟨n,rfl⟩|⟨e,rfl⟩|⟨n,rfl⟩
 .exact sim a b B f λi _=>Fin.leave g
 .have:Fin (λs=>(rows[s]?).map λr=>(r,lD dH s)) (0+c) [] (λ_=>ah) 0 E (.fo e) b5:=sim a b B f ⟨B,B⟩;exact this.mono (by k_is)
 .have:Fin (λs=>(rows[s]?).map λr=>(r,lD dH s)) (0+c) [] (λ_=>ah) 0 E (.val (.int n)) b5:=sim a b B f λi l j junk _ _ x=>Fin.leave (Ext.inv x);exact this.mono (by k_is)
end
section
variable{H:bW}{k:cZ}{d:Nat}{ch cT en cf da dk:ai}{E b5:Env}
theorem Tr(p:∀h j cb i,eo h j cb tr i->(∀b,H b≠ah->i b=H b)->H h=ah->H j=ah->H cb=ah->k (.ref h) i):cl (d+1) (.glob 1227) [] k H:=by
 refine de B ?_;rw[aiq];refine c7 B ?_;show eX (.list []) _ H;intro a dN;show eX (.iM []) _ _;intro b g;have ab:b≠a:=λe=>by rw[e,bW.set_same]at g;exact gS g
 replace g:=(bW.el _ _ ab)▸g;show eX (.eJ _) _ _;intro c f;have m:c≠b:=λe=>by rw[e,bW.set_same]at f;exact gS f
 replace f:=(bW.el _ _ m)▸f;have l:c≠a:=λe=>by rw[e,bW.set_same]at f;exact gS f
 rw[bW.el _ _ l]at f;refine p c a b _ ⟨bW.set_same ..,(bW.el _ _ (Ne.symm l)).trans ((bW.el _ _ (Ne.symm ab)).trans (bW.set_same ..)),(bW.el _ _ (Ne.symm m)).trans (bW.set_same ..)⟩ (λx ce=>?_) f dN g;have n:∀y,H y=ah->x≠y:=λy o e=>ce (e▸o);exact(bW.el _ _ (n c f)).trans ((bW.el _ _ (n b g)).trans (bW.el _ _ (n a dN)))
theorem amk(h1:eo ch cT en b5 H)(h2:eo cf da dk tr H)(i:Apart ch cT en cf da dk)(u:e3 t tr o b5 c)(F:Top o)(A:c<=2999)(V:iq ag ag t)(O:need t []<=d+3)(dl:d+5<=1000)(X:al t+1<=sI)(Z:∀p,k (.bool af) p):Ax (d+5) k (toV t) (.ref ch) (.ref cf) (wM (wZ o)) H:=by
 unfold Ax;show eX (.eJ vr) _ H;intro f w;refine Tp (bW.set_same ..) ?_;show eX (.eJ jU) _ _;intro nG q;have z:nG≠f:=λe=>by rw[e,bW.set_same]at q;exact gS q
 rw[bW.el _ _ z]at q;have ap:((H.set f (.eJ vr)).set nG (.eJ jU)) f=ae (.eJ vr):=(bW.el _ _ (Ne.symm z)).trans (bW.set_same ..);refine Tq ap (bW.set_same ..) (Ne.symm z) (by decide) (Tp (bW.set_same ..) ?_);show eX (.eJ tz) _ _;intro l tb;have s:l≠f:=λe=>by rw[e,bW.set_same]at tb;exact gS tb
 refine Tq ((bW.el _ _ (Ne.symm s)).trans (bW.set_same ..)) (bW.set_same ..) (Ne.symm s) (ay B) ?_;replace tb:=(bW.el _ _ s)▸tb;have ao:l≠nG:=λe=>by rw[e,bW.set_same]at tb;exact gS tb
 rw[bW.el _ _ ao,bW.el _ _ s]at tb;have Y:(tz.foldl (λe g=>put g.1 g.2 e) (jU.foldl (λe g=>put g.1 g.2 e) vr))=o_:=by cbv
 refine Y▸?_;have bY:∀r:bW,(r.set f (.eJ o_)) f=ae (.eJ o_):=λr=>bW.set_same _ _ _;have C:∀x,H x≠ah->(((((H.set f (.eJ vr)).set nG (.eJ jU)).set f (.eJ (jU.foldl (λe g=>put g.1 g.2 e) vr))).set l (.eJ tz)).set f (.eJ o_)) x=H x:=λx ce=>by have n:∀y,H y=ah->x≠y:=λy a1 e=>ce (e▸a1);exact(bW.el _ _ (n f w)).trans ((bW.el _ _ (n l tb)).trans ((bW.el _ _ (n f w)).trans ((bW.el _ _ (n nG q)).trans (bW.el _ _ (n f w)))))
 generalize L:(((((H.set f (.eJ vr)).set nG (.eJ jU)).set f (.eJ (jU.foldl (λe g=>put g.1 g.2 e) vr))).set l (.eJ tz)).set f (.eJ o_))=r at*;have S:r f=ae (.eJ o_):=by exact L▸(bW.set_same ..)
 refine ahh S V O dl (by show al t+be t*0+1<=sI;exact X) λnames a2 bV p D M=>?_;have G:∀x,H x≠ah->p x=H x:=λx ce=>(M x (by rw[C x ce];exact ce)).trans (C x ce);have j:=h1.keep G;have I:=h2.keep G;have N:=ame u (λbd m=>by cases m);refine de B (akk (runC D) (amj D u F) (by(simp+arith at A⊢;exact A)) I (by show 0<=1000;k_is) (by show 0<=1000;k_is) λR W v=>?_);have al:∀{x o},p x=ae o->p x≠ah:=λh=>by rw[h];exact λh=>by exact gS h
 have Q:eo ch cT en b5 R:=⟨(v _ (al j.bZ) i.a.1 i.a.2.1 i.a.2.2).trans j.bZ,(v _ (al j.cc) i.b.1 i.b.2.1 i.b.2.2).trans j.cc,(v _ (al j.cb) i.c.1 i.c.2.1 i.c.2.2).trans j.cb⟩;refine ami Q W (amd u) N ?_ (Z _);rcases F with⟨n,rfl⟩|⟨e,rfl⟩|⟨n,rfl⟩
 .exact Tn
 .exact amh
 .exact Tn
end
theorem amo(d:Nat)(k:cZ)(b:J):U (d+1) 1234 [b] k=mv b .none (.int 40) λr=>lm 3 (eX (.list [r,.int 0,.int 0]) λg=>cl d (.blt "len") [b] λn=>d4 .FloorDiv n (.int 5) λl=>cl d (.blt "min") [.int 2,l] λp=>d4 .Add (.int 1) p λq=>lm 2 (hu 2 (cl d (.glob 1175) [g,q,.bool ag,.bool ag] λo=>cl d (.glob 1165) [g] λh=>lm 2 (lm 1 (cl d (.glob 483) [.str mB,.tup [.lst [o,h]]] λe=>cl d (.glob 1227) [] λc=>cl d (.glob 1227) [] λf=>lm 2 (hu 2 (cl d (.glob 1201) [e,c] λa=>cF a (.int 0) λj=>cp .Eq j (.str mc) λi=>b6 i (cF a (.int 1) λm=>lm 2 (Ax d k e c f (.tup [.str gV,m]))) (Ax d k e c f a)))))))):=air
theorem amp(n:Int)(h:Drawn a):∃o g c,e3 (.gn a (.mark n)) tr o g c/\c<=2994/\Top o:=by
 refine AE h.run λo g c d b f=>?_
 induction o using Out.casesOn with
 |val x=>exact⟨_,_,_,.tg d .mark,by(simp+arith at b⊢;exact b),.inl ⟨n,B⟩⟩
 |fo e=>exact⟨_,_,_,.sk d B,by exact fa b B,.inr (.inl ⟨e,B⟩)⟩
 |ret m=>exact⟨_,_,_,.sk d B,by exact fa b B,.inr (.inr ⟨m,B⟩)⟩
 |brk _=>exact d8 f
 |dQ _=>exact d8 f
 |eW=>exact d8 f
theorem iL.amq(b:Top o)(h:iL o v):∃kd u,v=.tup [.str kd,u]/\((kd=mc/\wM (wZ o)=.tup [.str gV,u])\/((∀H,mT H .Eq (.str kd) (.str mc)=ae ag)/\wM (wZ o)=v)):=by
 rcases b with⟨n,rfl⟩|⟨e,rfl⟩|⟨n,rfl⟩
 .refine c_ h λu a c=>?_;obtain rfl:=a;have:=c _ B;subst this;exact⟨_,_,B,.inr ⟨λH=>by cbv,B⟩⟩
 .obtain rfl:=h;exact⟨_,_,B,.inr ⟨λH=>by cbv,B⟩⟩
 .obtain rfl:=h;exact⟨_,_,B,.inl ⟨B,B⟩⟩
theorem amr(h:Drawn a)(a2:∀ao,k (.bool af) ao):cl 231 (.glob 1227) [] (λr=>cl 231 (.glob 1227) [] λN=>lm 2 (hu 2 (cl 231 (.glob 1201) [toV (.gn a (.mark n)),r] λq=>cF q (.int 0) λY=>cp .Eq Y (.str mc) λbV=>b6 bV (cF q (.int 1) λbY=>lm 2 (Ax 231 k (toV (.gn a (.mark n))) r N (.tup [.str gV,bY]))) (Ax 231 k (toV (.gn a (.mark n))) r N q)))) H:=by
 refine Tr λch bd Z M f cm b7 ck co=>Tr λcf I E cg l b5 w z t=>c7 B (gR (de B ?_));have W:=f.keep b5;have u:∀{F:bW}{x m},F x=ae m->F x≠ah:=λh=>by rw[h];exact λh=>by exact gS h
 have g:Apart ch bd Z cf I E:=by
  have ne:∀{x y m},M x=ae m->M y=ah->x≠y:=λG j e=>by rw[e,j]at G;exact cV G
  exact⟨⟨ne f.bZ w,ne f.bZ z,ne f.bZ t⟩,⟨ne f.cc w,ne f.cc z,ne f.cc t⟩,⟨ne f.cb w,ne f.cb z,ne f.cb t⟩⟩
 refine AE (amp n h) λm ap c A o D=>?_;have v:iq ag ag (.gn a (.mark n)):=⟨h.LK.ok,trivial⟩;have C:=h.LK.qo;have S:=h.size;have hZ:ec 231 (.gn a (.mark n)) tr m ap:=(pq.all A v (by show 0+c<=100000;exact aq (by k_is) (aq o (by k_is))) (by show 0+c<=100000;exact aq (by k_is) (aq o (by k_is)))).hZ 231 (by show 1+max (cH a) 4<=231;exact(n9 (cH a) 4).elim (λs=>dp h.LK.gx (ak s.1)) λs=>cY (ak s.1));refine hZ W λci X b2 R p=>?_;have Q:eo cf I E tr X:=⟨(p _ (u l.bZ) (Ne.symm g.a.1) (Ne.symm g.b.1) (Ne.symm g.c.1)).trans l.bZ,(p _ (u l.cc) (Ne.symm g.a.2.1) (Ne.symm g.b.2.1) (Ne.symm g.c.2.1)).trans l.cc,(p _ (u l.cb) (Ne.symm g.a.2.2) (Ne.symm g.b.2.2) (Ne.symm g.c.2.2)).trans l.cb⟩;have L:=amk (k:=k) (d:=226) R Q g A D (aq o (by k_is)) v (by show 30+(3+max (dv a) 0)+0<=226+3;(simp+arith at C⊢;exact C)) (by decide) (by show al a+4+1<=900000;exact cY S) a2;refine lZ (iL.amq D b2) λca cd a1 j=>?_;obtain rfl:=a1;refine fD (i:=0) (by simp) B ?_;rcases j with⟨rfl,j⟩|⟨V,j⟩
 .refine ⟨af,by cbv,dI (fD (i:=1) (by simp) B (c7 B ?_))⟩;exact j▸L
 .refine ⟨ag,V _,c6 ?_⟩;exact j▸L
theorem ams(h:k (.int (if y<x then y else x)) H):cl d (.blt "min") [.int x,.int y] k H:=by exact .min x y B B h
theorem core(xs:List Int)(ce:xs.length<=63)(k:cZ)(t:∀q,k (.bool af) q):U 232 1234 [.lst (xs.map J.int)] k (λ_=>ah):=by
 rw[amo];have d:(xs.map J.int).length=xs.length:=by simp
 have u:clamp (xs.map J.int).length 40=min 40 xs.length:=by refine d▸?_;rfl
 have o:((xs.map J.int).take (clamp (xs.map J.int).length 40)).drop 0=(xs.take 40).map J.int:=by
  rw[apf,u];by_cases h:xs.length<=40
  .rw [List.take_of_length_le (by rw[d];exact Nat.le_min.mpr ⟨h,av _⟩),List.take_of_length_le h]
  .rw [show min 40 xs.length=40 from anp (Nat.le_of_not_le h),List.map_take]
 have m:(xs.take 40).length<=40:=by rw[apB];exact Nat.min_le_left _ _
 refine⟨xs.map J.int,0,clamp (xs.map J.int).length 40,B,by exact w6 ce d B,B,B,?_⟩;rw[o];show eX (.list _) _ _;intro e1 cv;refine c7 B ?_;show eX (.list _) _ _;intro b9 l;have j:b9≠e1:=λe=>by rw[e,bW.set_same]at l;exact gS l
 have dR:lM ((bW.set (λ_=>ah) e1 (.list ((xs.take 40).map J.int))).set b9 (.list [.ref e1,.int 0,.int 0])) b9 e1 ⟨xs.take 40,0,0⟩:=
  ⟨bW.set_same ..,(bW.el _ _ (Ne.symm j)).trans (bW.set_same ..),j,by show(xs.take 40).length<=1000;exact fa m B,by show(0:Int)<=0;exact aH _,by show(0:Int)<=16000000;exact aH _,by show(0:Int)<=0;exact aH _,by show(0:Int)<=1000000;exact aH _⟩
 generalize(bW.set (λ_=>ah) e1 (.list ((xs.take 40).map J.int))).set b9 (.list [.ref e1,.int 0,.int 0])=i7 at*;refine wg (n:=xs.length) d (by exact fa ce B) (.div xs.length 5 B B B (by decide) (by decide) (ams ?_));obtain⟨b,f,p⟩:∃b:Nat,(b=1\/b=2\/b=3)/\(1:Int)+(if(xs.length:Int).fdiv 5<2 then(xs.length:Int).fdiv 5 else 2)=(b:Int):=by
  rw[Int.fdiv_eq_ediv_of_nonneg _ (by exact aH _)];by_cases h:(xs.length:Int)/5<2
  .rw [if_pos h];exact⟨1+xs.length/5,(show ∀c:Nat,c<2->1+c=1\/1+c=2\/1+c=3 by decide) _ (anH.mp h),by exact B⟩
  .rw [if_neg h];exact⟨3,.inr (.inr B),B⟩
 refine kv (c7 B (gR ?_));rw[p];have g:gN b<=10000:=by rcases f with rfl|rfl|rfl<;>exact ay rfl
 have r:oE b 13:=@amc b (f.elim (λe=>aq (ak e) (by decide)) λk=>k.elim (λe=>aq (ak e) (by decide)) ak);have i:=CY b ag ag ⟨xs.take 40,0,0⟩;have cH:=drawn f ⟨xs.take 40,0,0⟩ B m;refine de B (r (by decide) dR (by show(0:Int)+_<=_;exact g4 (g0 g)) (by show(0:Int)+_<=_;exact g4 (g0 g)) λy v s=>?_);dsimp only at i;generalize(fN b ag ag ⟨xs.take 40,0,0⟩).1=a at*;generalize(fN b ag ag ⟨xs.take 40,0,0⟩).2=b7 at*;refine CZ s (by exact h9 i.2 (g0 g)) λw cf x=>c7 B (c7 B (nc B (ay B) ?_));exact amr cH t
theorem walk:Walk:=by refine join (D:=232) ⟨B,ay B,ay B⟩ core
end P
end
end Internal
theorem PySem.Challenge.cw_nu0295_01_holds : PySem.Challenge.rw_nu0295_01.Holds :=
  Internal.hd Internal.L5 Internal.P.walk
